import PyProof.Rows.All
import Wide.All
import OpenK.AllK
import Wide.FinOn
import HandS.ForMost
import HandS.ForExc
import HandS.Walk
import HandS.Zip
import HandS.Rev
import HandS.Flow
import HandS.Style
import HandS.IsInst
import HandS.Conv
import HandS.TupMul
import HandS.TupAny
import HandS.Wide
import HandS.CallSlots
import KE.DataEq
import PyProof.CallFns
import HandS.RaiseMore
import KE.KStateDown
import HandS.More
import HandS.Defaults
import HandS.Head0
import HandS.Head1
import HandS.Head2
import HandS.HeadEnd
import HandS.HeadHook1
import HandS.HeadHook2
import HandS.Iter
import KE.GoesEnum
import HandS.SetFor
import HandS.Set
import HandS.Strs
import HandS.RevRange
import HandS.SortInts
import HandS.NamedTupSort
import HandS.Star
import KE.KDictZip
import PyProof.ListNew
import HandS.ListItems
import KE.DatumOrd
import PyProof.CollectWalk
import HandS.TryOnly
import PySem.Challenge.RW_evencoins_k13_whole_syndromes_of_errors
set_option Elab.async false
set_option linter.all false
set_option maxRecDepth 100000
set_option maxHeartbeats 4000000
/-! Ev, part A: data, results, the relation to HandS's abstract heap. -/
namespace Ev
open PySem PySem.Spec L2

inductive D where
  | non | bl (b : Bool) | int (i : Int) | str (x : Str) | tup (xs : List D) | lst (xs : List D)
  | dct (ks vs : List D) | ref (n : Nat) | ext (n : Nat) | scr (xs : List D)

/-- what an expression gives: data, a new list that nobody else holds, a list that a slot owns -/
inductive RV where
  | d (x : D) | fl (xs : List D) | pk (xs : List D)
inductive Slot where
  | un | d (x : D) | own (xs : List D)
inductive Cell where
  | lst (xs : List D)
abbrev Env := List Slot
abbrev Cells := List Cell
structure Exn where
  cls : Nat
  fs : List (Str × D)
inductive Res (α : Type) where
  | ok (a : α) (m : Cells) | exc (x : Exn) (m : Cells) | bot
def Res.bind {α β : Type} (r : Res α) (k : α → Cells → Res β) : Res β := match r with
  | .ok a m => k a m
  | .exc x m => .exc x m
  | .bot => .bot
def WP {α : Type} (r : Res α) (P : α → Cells → Prop) (Z : Exn → Cells → Prop) : Prop := match r with
  | .ok a m => P a m
  | .exc x m => Z x m
  | .bot => False
theorem WP.mono {α : Type} {r : Res α} {P P' : α → Cells → Prop} {Z Z' : Exn → Cells → Prop} (h : WP r P Z) (hp : ∀ a m, P a m → P' a m) (hz : ∀ x m, Z x m → Z' x m) : WP r P' Z' := by
  cases r with
  | ok a m => exact hp _ _ h
  | exc x m => exact hz _ _ h
  | bot => exact h
theorem WP.of_bind {α β : Type} {r : Res α} {k : α → Cells → Res β} {P : β → Cells → Prop} {Z : Exn → Cells → Prop} (h : WP (r.bind k) P Z) : WP r (fun a m => WP (k a m) P Z) Z := by
  cases r with
  | ok a m => exact h
  | exc x m => exact h
  | bot => exact h
def RV.val : RV → D
  | .d x => x
  | .fl xs => .lst xs
  | .pk xs => .lst xs
/-- as data; a slot's own list is refused -/
def RV.frz : RV → Option D
  | .d x => some x
  | .fl xs => some (.lst xs)
  | .pk _ => none

/-! ### the relation -/
structure Wd where
  F : Hp
  ι : List Addr
  ξ : Nat → Option V
variable (K : PySem.W.Frag)
mutual
inductive RD (w : Wd) : D → V → Prop
  | non : RD w .non .non
  | bl (b : Bool) : RD w (.bl b) (.bl b)
  | int (i : Int) : RD w (.int i) (.int i)
  | str (x : Str) : RD w (.str x) (.str x)
  | tup {a : Addr} {vs : List V} {xs : List D} : SqT K w.F a vs → RDs w xs vs → RD w (.tup xs) (.ref a)
  | lst {a : Addr} {vs : List V} {xs : List D} : w.F a = some (.lst vs) → RDs w xs vs → RD w (.lst xs) (.ref a)
  | scr {a : Addr} {vs : List V} {xs : List D} : SqL K w.F a vs → RDs w xs vs → RD w (.scr xs) (.ref a)
  | dct0 {a : Addr} : w.F a = some (.dK []) → RD w (.dct [] []) (.ref a)
  | ref {a : Addr} {n : Nat} : w.ι[n]? = some a → RD w (.ref n) (.ref a)
  | ext {v : V} {n : Nat} : w.ξ n = some v → RD w (.ext n) v
inductive RDs (w : Wd) : List D → List V → Prop
  | nil : RDs w [] []
  | cons {x : D} {v : V} {xs : List D} {vs : List V} : RD w x v → RDs w xs vs → RDs w (x :: xs) (v :: vs)
end
variable {K}

/-- a world that grew -/
structure WLe (w w' : Wd) : Prop where
  sub : ∀ a o, w.F a = some o → w'.F a = some o
  pre : ∀ (n : Nat) a, w.ι[n]? = some a → w'.ι[n]? = some a
  xi : w'.ξ = w.ξ
theorem WLe.refl (w : Wd) : WLe w w := ⟨fun _ _ h => h, fun _ _ h => h, rfl⟩
theorem WLe.trans {a b c : Wd} (h : WLe a b) (g : WLe b c) : WLe a c := ⟨fun x o q => g.sub x o (h.sub x o q), fun n x q => g.pre n x (h.pre n x q), g.xi.trans h.xi⟩
theorem sqL_sub {F F' : Hp} {a : Addr} {vs : List V} (s : ∀ a o, F a = some o → F' a = some o) (h : SqL K F a vs) : SqL K F' a vs := by
  rcases h with (h | ⟨o, h⟩) | h
  · exact .inl (.inl (s _ _ h))
  · exact .inl (.inr ⟨o, s _ _ h⟩)
  · exact .inr h
theorem sqT_sub {F F' : Hp} {a : Addr} {vs : List V} (s : ∀ a o, F a = some o → F' a = some o) (h : SqT K F a vs) : SqT K F' a vs := by
  rcases h with (h | ⟨o, h⟩) | h
  · exact .inl (.inl (s _ _ h))
  · exact .inl (.inr ⟨o, s _ _ h⟩)
  · exact .inr h
mutual
theorem RD.le {w w' : Wd} (e : WLe w w') : ∀ {x : D} {v : V}, RD K w x v → RD K w' x v
  | _, _, .non => .non
  | _, _, .bl b => .bl b
  | _, _, .int i => .int i
  | _, _, .str x => .str x
  | _, _, .tup s r => .tup (sqT_sub e.sub s) (RDs.le e r)
  | _, _, .lst s r => .lst (e.sub _ _ s) (RDs.le e r)
  | _, _, .scr s r => .scr (sqL_sub e.sub s) (RDs.le e r)
  | _, _, .dct0 s => .dct0 (e.sub _ _ s)
  | _, _, .ref h => .ref (e.pre _ _ h)
  | _, _, .ext h => .ext (by rw [e.xi]; exact h)
theorem RDs.le {w w' : Wd} (e : WLe w w') : ∀ {xs : List D} {vs : List V}, RDs K w xs vs → RDs K w' xs vs
  | _, _, .nil => .nil
  | _, _, .cons r t => .cons (RD.le e r) (RDs.le e t)
end
theorem RDs.length {w : Wd} : ∀ {xs : List D} {vs : List V}, RDs K w xs vs → xs.length = vs.length
  | _, _, .nil => rfl
  | _, _, .cons _ t => by rw [List.length_cons, List.length_cons, RDs.length t]
theorem RDs.get {w : Wd} : ∀ {xs : List D} {vs : List V}, RDs K w xs vs → ∀ {i : Nat} {x : D}, xs[i]? = some x → ∃ v, vs[i]? = some v ∧ RD K w x v
  | _, _, .nil, i, x, h => by simp at h
  | _, _, .cons r t, 0, x, h => by
    simp at h
    subst h
    exact ⟨_, rfl, r⟩
  | _, _, .cons r t, i + 1, x, h => by
    obtain ⟨v, h1, h2⟩ := RDs.get t (i := i) (x := x) (by simpa using h)
    exact ⟨v, by simpa using h1, h2⟩
theorem RDs.getV {w : Wd} : ∀ {xs : List D} {vs : List V}, RDs K w xs vs → ∀ {i : Nat} {v : V}, vs[i]? = some v → ∃ x, xs[i]? = some x ∧ RD K w x v
  | _, _, .nil, i, x, h => by simp at h
  | _, _, .cons r t, 0, x, h => by
    simp at h
    subst h
    exact ⟨_, rfl, r⟩
  | _, _, .cons r t, i + 1, x, h => by
    obtain ⟨v, h1, h2⟩ := RDs.getV t (i := i) (v := x) (by simpa using h)
    exact ⟨v, by simpa using h1, h2⟩
theorem RDs.append {w : Wd} : ∀ {xs ys : List D} {vs us : List V}, RDs K w xs vs → RDs K w ys us → RDs K w (xs ++ ys) (vs ++ us)
  | _, _, _, _, .nil, s => s
  | _, _, _, _, .cons r t, s => .cons r (RDs.append t s)
theorem RDs.set {w : Wd} {x : D} {v : V} (r : RD K w x v) : ∀ {xs : List D} {vs : List V} (i : Nat), RDs K w xs vs → RDs K w (xs.set i x) (vs.set i v)
  | _, _, _, .nil => .nil
  | _, _, 0, .cons _ t => .cons r t
  | _, _, i + 1, .cons q t => .cons q (RDs.set r i t)
theorem RDs.take {w : Wd} : ∀ {xs : List D} {vs : List V} (n : Nat), RDs K w xs vs → RDs K w (xs.take n) (vs.take n)
  | _, _, 0, _ => .nil
  | _, _, _ + 1, .nil => .nil
  | _, _, n + 1, .cons r t => .cons r (RDs.take n t)
theorem RDs.drop {w : Wd} : ∀ {xs : List D} {vs : List V} (n : Nat), RDs K w xs vs → RDs K w (xs.drop n) (vs.drop n)
  | _, _, 0, r => r
  | _, _, _ + 1, .nil => .nil
  | _, _, n + 1, .cons _ t => RDs.drop n t
theorem RDs.reverse {w : Wd} : ∀ {xs : List D} {vs : List V}, RDs K w xs vs → RDs K w xs.reverse vs.reverse
  | _, _, .nil => .nil
  | _, _, .cons r t => by
    rw [List.reverse_cons, List.reverse_cons]
    exact RDs.append (RDs.reverse t) (.cons r .nil)
theorem RDs.ints {w : Wd} : ∀ {ns : List Int} {vs : List V}, RDs K w (ns.map D.int) vs → vs = ns.map V.int
  | [], _, .nil => rfl
  | _ :: ns, _, .cons r t => by
    cases r
    rw [List.map_cons, RDs.ints t]
theorem RDs.bls {w : Wd} : ∀ {ns : List Bool} {vs : List V}, RDs K w (ns.map D.bl) vs → vs = ns.map V.bl
  | [], _, .nil => rfl
  | _ :: ns, _, .cons r t => by
    cases r
    rw [List.map_cons, RDs.bls t]
theorem RDs.of_ints {w : Wd} : ∀ ns : List Int, RDs K w (ns.map D.int) (ns.map V.int)
  | [] => .nil
  | n :: ns => .cons (.int n) (RDs.of_ints ns)

variable (K)
def CellOk (w : Wd) (H : Hp) (a : Addr) : Cell → Prop
  | .lst xs => ∃ vs, H a = some (.lst vs) ∧ RDs K w xs vs
structure Wf (w : Wd) (H : Hp) (m : Cells) : Prop where
  sub : ∀ a o, w.F a = some o → H a = some o
  nof : ∀ (n : Nat) a, w.ι[n]? = some a → w.F a = none
  inj : ∀ (i j : Nat) a, w.ι[i]? = some a → w.ι[j]? = some a → i = j
  len : w.ι.length = m.length
  cell : ∀ (n : Nat) c, m[n]? = some c → ∃ a, w.ι[n]? = some a ∧ CellOk K w H a c
  xi : ∀ n v, w.ξ n = some v → v ≠ V.non
variable {K}
/-- from (w, H) to (w', H'): what was tracked stands, but the cells -/
structure Ext (w : Wd) (H : Hp) (w' : Wd) (H' : Hp) : Prop where
  le : WLe w w'
  keep : ∀ a o, H a = some o → a ∉ w.ι → H' a = some o
  newF : ∀ a o, w'.F a = some o → w.F a = some o ∨ H a = none
  newI : ∀ a, a ∈ w'.ι → a ∈ w.ι ∨ H a = none
  there : ∀ a, H' a = none → H a = none
theorem Ext.refl (w : Wd) (H : Hp) : Ext w H w H := ⟨.refl w, fun _ _ h _ => h, fun _ _ h => .inl h, fun _ h => .inl h, fun _ h => h⟩
theorem Ext.trans {w w1 w2 : Wd} {H H1 H2 : Hp} (a : Ext w H w1 H1) (b : Ext w1 H1 w2 H2) : Ext w H w2 H2 where
  le := a.le.trans b.le
  keep := fun x o h n => b.keep x o (a.keep x o h n) fun hm => by
    rcases a.newI x hm with q | q
    · exact n q
    · rw [h] at q; cases q
  newF := fun x o h => by
    rcases b.newF x o h with q | q
    · exact a.newF x o q
    · exact .inr (a.there x q)
  newI := fun x h => by
    rcases b.newI x h with q | q
    · exact a.newI x q
    · exact .inr (a.there x q)
  there := fun x h => a.there x (b.there x h)
/-- a new object, tracked, not known to the world -/
theorem Ext.new {w : Wd} {H : Hp} {p : Addr} {o : HO} (h : H p = none) : Ext w H w (upd H p o) :=
  ⟨.refl w, fun a u e _ => by rw [upd_ne (ne_of_none e h)]; exact e, fun _ _ q => .inl q, fun _ q => .inl q, fun a q => by
    by_cases e : a = p
    · rw [e]; exact h
    · rw [upd_ne e] at q; exact q⟩
theorem Wf.new {w : Wd} {H : Hp} {m : Cells} {p : Addr} {o : HO} (W : Wf K w H m) (h : H p = none) : Wf K w (upd H p o) m where
  sub := fun a u e => by
    have e2 := W.sub a u e
    rw [upd_ne (ne_of_none e2 h)]; exact e2
  nof := W.nof
  inj := W.inj
  len := W.len
  cell := fun n c e => by
    obtain ⟨a, h1, h2⟩ := W.cell n c e
    refine ⟨a, h1, ?_⟩
    cases c with
    | lst xs =>
      obtain ⟨vs, h3, h4⟩ := h2
      exact ⟨vs, by rw [upd_ne (ne_of_none h3 h)]; exact h3, h4⟩
  xi := W.xi
theorem CellOk.le {w w' : Wd} {H : Hp} {a : Addr} {c : Cell} (e : WLe w w') (h : CellOk K w H a c) : CellOk K w' H a c := by
  cases c with
  | lst xs =>
    obtain ⟨vs, h1, h2⟩ := h
    exact ⟨vs, h1, h2.le e⟩
/-- what stands at a, no cell's, is known from now on -/
def Wd.add (w : Wd) (a : Addr) (o : HO) : Wd := { w with F := upd w.F a o }
theorem WLe.add {w : Wd} {a : Addr} {o : HO} (h : w.F a = none) : WLe w (w.add a o) :=
  ⟨fun b u e => by show upd w.F a o b = _; rw [upd_ne (ne_of_none e h)]; exact e, fun _ _ h => h, rfl⟩
theorem Wf.add {w : Wd} {H : Hp} {m : Cells} {a : Addr} {o : HO} (W : Wf K w H m) (hf : w.F a = none) (ha : H a = some o) (hi : a ∉ w.ι) : Wf K (w.add a o) H m where
  sub := fun b u e => by
    have e : upd w.F a o b = some u := e
    by_cases q : b = a
    · subst q; rw [upd_same] at e; rw [← e]; exact ha
    · rw [upd_ne q] at e; exact W.sub b u e
  nof := fun n b e => by
    show upd w.F a o b = none
    have e : w.ι[n]? = some b := e
    have hb : b ≠ a := fun q => hi (by rw [← q]; exact List.mem_of_getElem? e)
    rw [upd_ne hb]
    exact W.nof n b e
  inj := W.inj
  len := W.len
  cell := fun n c e => by
    obtain ⟨b, h1, h2⟩ := W.cell n c e
    exact ⟨b, h1, h2.le (.add hf)⟩
  xi := W.xi
theorem Ext.add {w0 w : Wd} {H0 H : Hp} {a : Addr} {o : HO} (E : Ext w0 H0 w H) (hf : w.F a = none) (h0 : H0 a = none) : Ext w0 H0 (w.add a o) H where
  le := E.le.trans (.add hf)
  keep := E.keep
  newF := fun b u e => by
    have e : upd w.F a o b = some u := e
    by_cases q : b = a
    · subst q; exact .inr h0
    · rw [upd_ne q] at e; exact E.newF b u e
  newI := E.newI
  there := E.there

variable (K)
/-- the slots of a def's frame; H0: the heap at its entry -/
structure Slots (w : Wd) (H0 : Hp) (σ : St) (H : Hp) (env : Env) : Prop where
  len : env.length = σ.length
  dat : ∀ (i : Nat) x, env[i]? = some (.d x) → ∃ v, σ[i]? = some (some v) ∧ RD K w x v
  own : ∀ (i : Nat) xs, env[i]? = some (.own xs) → ∃ a vs, σ[i]? = some (some (V.ref a)) ∧ H a = some (.lst vs) ∧ w.F a = none ∧ a ∉ w.ι ∧ H0 a = none ∧ RDs K w xs vs
  dis : ∀ (i j : Nat) xs ys a, env[i]? = some (.own xs) → env[j]? = some (.own ys) → σ[i]? = some (some (V.ref a)) → σ[j]? = some (some (V.ref a)) → i = j
variable {K}
theorem Slots.ext {w w' : Wd} {H0 H H' : Hp} {σ : St} {env : Env} (S : Slots K w H0 σ H env) (E : Ext w H w' H') : Slots K w' H0 σ H' env where
  len := S.len
  dat := fun i x e => by
    obtain ⟨v, h1, h2⟩ := S.dat i x e
    exact ⟨v, h1, h2.le E.le⟩
  own := fun i xs e => by
    obtain ⟨a, vs, h1, h2, h3, h4, h5, h6⟩ := S.own i xs e
    refine ⟨a, vs, h1, E.keep a _ h2 h4, ?_, fun q => ?_, h5, h6.le E.le⟩
    · cases q : w'.F a with
      | none => rfl
      | some o =>
        rcases E.newF a o q with z | z
        · rw [h3] at z; cases z
        · rw [h2] at z; cases z
    · rcases E.newI a q with z | z
      · exact h4 z
      · rw [h2] at z; cases z
  dis := S.dis
variable (K)
/-- the value of an expression; H: the heap ahead of it, H0: at the def's entry -/
def RR (H0 H : Hp) (w' : Wd) (H' : Hp) (rv : RV) (v : V) : Prop := match rv with
  | .d x => RD K w' x v
  | .fl xs => ∃ a vs, v = V.ref a ∧ H' a = some (.lst vs) ∧ w'.F a = none ∧ a ∉ w'.ι ∧ H a = none ∧ RDs K w' xs vs
  | .pk xs => ∃ a vs, v = V.ref a ∧ H' a = some (.lst vs) ∧ w'.F a = none ∧ a ∉ w'.ι ∧ H0 a = none ∧ RDs K w' xs vs
/-- a value that may be read, not kept -/
def RP (w : Wd) (H : Hp) (x : D) (v : V) : Prop := RD K w x v ∨ ∃ xs a vs, x = .lst xs ∧ v = V.ref a ∧ H a = some (.lst vs) ∧ w.F a = none ∧ a ∉ w.ι ∧ RDs K w xs vs
variable {K}
theorem RR.rp {H0 H H' : Hp} {w' : Wd} {rv : RV} {v : V} (h : RR K H0 H w' H' rv v) : RP K w' H' rv.val v := by
  cases rv with
  | d x => exact .inl h
  | fl xs =>
    obtain ⟨a, vs, h1, h2, h3, h4, _, h6⟩ := h
    exact .inr ⟨xs, a, vs, rfl, h1, h2, h3, h4, h6⟩
  | pk xs =>
    obtain ⟨a, vs, h1, h2, h3, h4, _, h6⟩ := h
    exact .inr ⟨xs, a, vs, rfl, h1, h2, h3, h4, h6⟩
theorem RP.ext {w w' : Wd} {H H' : Hp} {x : D} {v : V} (h : RP K w H x v) (E : Ext w H w' H') : RP K w' H' x v := by
  rcases h with h | ⟨xs, a, vs, h1, h2, h3, h4, h5, h6⟩
  · exact .inl (h.le E.le)
  · refine .inr ⟨xs, a, vs, h1, h2, E.keep a _ h3 h5, ?_, fun q => ?_, h6.le E.le⟩
    · cases q : w'.F a with
      | none => rfl
      | some o =>
        rcases E.newF a o q with z | z
        · rw [h4] at z; cases z
        · rw [h3] at z; cases z
    · rcases E.newI a q with z | z
      · exact h5 z
      · rw [h3] at z; cases z
/-- a list that may be read -/
theorem RP.lst {w : Wd} {H : Hp} {xs : List D} {v : V} {m : Cells} (W : Wf K w H m) (h : RP K w H (.lst xs) v) : ∃ a vs, v = V.ref a ∧ H a = some (.lst vs) ∧ RDs K w xs vs := by
  rcases h with h | ⟨ys, a, vs, h1, h2, h3, h4, h5, h6⟩
  · cases h with
    | lst s r => exact ⟨_, _, rfl, W.sub _ _ s, r⟩
  · cases h1
    exact ⟨a, vs, h2, h3, h6⟩
theorem RP.scr {w : Wd} {H : Hp} {xs : List D} {v : V} {m : Cells} (W : Wf K w H m) (h : RP K w H (.scr xs) v) : ∃ a vs, v = V.ref a ∧ SqL K H a vs ∧ RDs K w xs vs := by
  rcases h with h | ⟨ys, a, vs, h1, h2, h3, h4, h5, h6⟩
  · cases h with
    | scr s r => exact ⟨_, _, rfl, sqL_sub W.sub s, r⟩
  · cases h1
theorem RP.tup {w : Wd} {H : Hp} {xs : List D} {v : V} {m : Cells} (W : Wf K w H m) (h : RP K w H (.tup xs) v) : ∃ a vs, v = V.ref a ∧ SqT K H a vs ∧ RDs K w xs vs := by
  rcases h with h | ⟨ys, a, vs, h1, h2, h3, h4, h5, h6⟩
  · cases h with
    | tup s r => exact ⟨_, _, rfl, sqT_sub W.sub s, r⟩
  · cases h1
theorem RP.int {w : Wd} {H : Hp} {i : Int} {v : V} (h : RP K w H (.int i) v) : v = V.int i := by
  rcases h with h | ⟨ys, a, vs, h1, _⟩
  · cases h; rfl
  · cases h1
theorem RP.bl {w : Wd} {H : Hp} {i : Bool} {v : V} (h : RP K w H (.bl i) v) : v = V.bl i := by
  rcases h with h | ⟨ys, a, vs, h1, _⟩
  · cases h; rfl
  · cases h1
theorem RP.str {w : Wd} {H : Hp} {i : Str} {v : V} (h : RP K w H (.str i) v) : v = V.str i := by
  rcases h with h | ⟨ys, a, vs, h1, _⟩
  · cases h; rfl
  · cases h1
theorem RP.non {w : Wd} {H : Hp} {v : V} (h : RP K w H .non v) : v = V.non := by
  rcases h with h | ⟨ys, a, vs, h1, _⟩
  · cases h; rfl
  · cases h1
/-- as data -/
theorem RR.frz {H0 H H' : Hp} {w w' : Wd} {rv : RV} {v : V} {x : D} {m : Cells} (h : RR K H0 H w' H' rv v) (e : rv.frz = some x) (E : Ext w H w' H') (W : Wf K w' H' m) :
    ∃ w2, Ext w H w2 H' ∧ Wf K w2 H' m ∧ RD K w2 x v ∧ WLe w' w2 := by
  cases rv with
  | d y =>
    cases e
    exact ⟨w', E, W, h, .refl _⟩
  | fl xs =>
    cases e
    obtain ⟨a, vs, h1, h2, h3, h4, h5, h6⟩ := h
    subst h1
    exact ⟨w'.add a (.lst vs), E.add h3 h5, W.add h3 h2 h4, .lst (by show upd w'.F a _ a = _; exact upd_same) (h6.le (.add h3)), .add h3⟩
  | pk xs => cases e
end Ev
/-! Ev, part B: equality of data, judgements, expressions. -/
namespace Ev
open PySem PySem.Spec L2

/-! ### data as the library's data -/
mutual
def toPy : D → PyData
  | .non => .none | .bl b => .bool b | .int i => .int i | .str x => .str x
  | .tup xs => .tuple (toPys xs) | .lst xs => .list (toPys xs)
  | .dct _ _ => .none | .ref _ => .none | .ext _ => .none | .scr _ => .none
def toPys : List D → List PyData
  | [] => []
  | x :: xs => toPy x :: toPys xs
end
/-! no dicts, cells, constants within; of nesting at most n -/
mutual
def plainD : Nat → D → Bool
  | _, .non | _, .bl _ | _, .int _ | _, .str _ => true
  | n + 1, .tup xs | n + 1, .lst xs => plainDs n xs
  | _, _ => false
def plainDs : Nat → List D → Bool
  | _, [] => true
  | n, x :: xs => plainD n x && plainDs n xs
end
mutual
theorem toPy_plain : ∀ (n : Nat) (x : D), plainD n x = true → (toPy x).plain = true ∧ (toPy x).depth ≤ n
  | n, .non, _ => by simp [toPy, PyData.plain, PyData.depth]
  | n, .bl _, _ => by simp [toPy, PyData.plain, PyData.depth]
  | n, .int _, _ => by simp [toPy, PyData.plain, PyData.depth]
  | n, .str _, _ => by simp [toPy, PyData.plain, PyData.depth]
  | n + 1, .tup xs, h => by
    have h : plainDs n xs = true := by simpa [plainD] using h
    obtain ⟨h1, h2⟩ := toPys_plain n xs h
    simp only [toPy, PyData.plain, PyData.depth]
    exact ⟨h1, by omega⟩
  | n + 1, .lst xs, h => by
    have h : plainDs n xs = true := by simpa [plainD] using h
    obtain ⟨h1, h2⟩ := toPys_plain n xs h
    simp only [toPy, PyData.plain, PyData.depth]
    exact ⟨h1, by omega⟩
  | 0, .tup xs, h => by simp [plainD] at h
  | 0, .lst xs, h => by simp [plainD] at h
  | n, .dct _ _, h => by simp [plainD] at h
  | n, .ref _, h => by simp [plainD] at h
  | n, .ext _, h => by simp [plainD] at h
  | n, .scr _, h => by simp [plainD] at h
theorem toPys_plain : ∀ (n : Nat) (xs : List D), plainDs n xs = true → PyData.plainAll (toPys xs) = true ∧ PyData.depthAll (toPys xs) ≤ n
  | n, [], _ => by simp [toPys, PyData.plainAll, PyData.depthAll]
  | n, x :: xs, h => by
    rw [plainDs, Bool.and_eq_true] at h
    obtain ⟨h1, h2⟩ := toPy_plain n x h.1
    obtain ⟨h3, h4⟩ := toPys_plain n xs h.2
    simp only [toPys, PyData.plainAll, PyData.depthAll, h1, h3, Bool.and_self, true_and]
    exact Nat.max_le.mpr ⟨h2, h4⟩
end
/-! a == b -/
mutual
def deq : D → D → Bool
  | .non, .non => true
  | .bl a, .bl b => a == b
  | .bl a, .int j => (if a then 1 else 0) == j
  | .int i, .bl b => i == (if b then 1 else 0)
  | .int i, .int j => i == j
  | .str x, .str y => x == y
  | .lst xs, .lst ys => deqs xs ys
  | .tup xs, .tup ys => deqs xs ys
  | _, _ => false
def deqs : List D → List D → Bool
  | [], [] => true
  | x :: xs, y :: ys => deq x y && deqs xs ys
  | _, _ => false
end
mutual
theorem deq_py : ∀ (n : Nat) (x y : D), plainD n x = true → plainD n y = true → PyData.eqv (toPy x) (toPy y) = deq x y
  | n, x, y, hx, hy => by
    cases x <;> cases y <;> first
      | simp [plainD] at hx; done
      | simp [plainD] at hy; done
      | (simp [toPy, PyData.eqv, deq]; done)
      | skip
    · rename_i xs ys
      cases n with
      | zero => simp [plainD] at hx
      | succ n =>
        simp only [toPy, PyData.eqv, deq]
        exact deqs_py n xs ys (by simpa [plainD] using hx) (by simpa [plainD] using hy)
    · rename_i xs ys
      cases n with
      | zero => simp [plainD] at hx
      | succ n =>
        simp only [toPy, PyData.eqv, deq]
        exact deqs_py n xs ys (by simpa [plainD] using hx) (by simpa [plainD] using hy)
theorem deqs_py : ∀ (n : Nat) (xs ys : List D), plainDs n xs = true → plainDs n ys = true → PyData.eqvAll (toPys xs) (toPys ys) = deqs xs ys
  | n, [], [], _, _ => by simp [toPys, PyData.eqvAll, deqs]
  | n, [], y :: ys, _, _ => by simp [toPys, PyData.eqvAll, deqs]
  | n, x :: xs, [], _, _ => by simp [toPys, PyData.eqvAll, deqs]
  | n, x :: xs, y :: ys, hx, hy => by
    rw [plainDs, Bool.and_eq_true] at hx hy
    simp only [toPys, PyData.eqvAll, deqs, deq_py n x y hx.1 hy.1, deqs_py n xs ys hx.2 hy.2]
end
mutual
theorem RD.dp {K : PySem.W.Frag} {w : Wd} {H : Hp} (s : ∀ a o, w.F a = some o → H a = some o) : ∀ {x : D} {v : V} (n : Nat), RD K w x v → plainD n x = true → Dp K H v (toPy x)
  | _, _, _, .non, _ => by rw [toPy]; exact .non
  | _, _, _, .bl b, _ => by rw [toPy]; exact .bl b
  | _, _, _, .int i, _ => by rw [toPy]; exact .int i
  | _, _, _, .str x, _ => by rw [toPy]; exact .str x
  | _, _, n + 1, .tup q r, h => by rw [toPy]; exact .tup (sqT_sub s q) (RDs.dp s n r (by simpa [plainD] using h))
  | _, _, n + 1, .lst q r, h => by rw [toPy]; exact .lst (.inl (.inl (s _ _ q))) (RDs.dp s n r (by simpa [plainD] using h))
  | _, _, 0, .tup q r, h => by simp [plainD] at h
  | _, _, 0, .lst q r, h => by simp [plainD] at h
  | _, _, _, .scr _ _, h => by simp [plainD] at h
  | _, _, _, .dct0 _, h => by simp [plainD] at h
  | _, _, _, .ref _, h => by simp [plainD] at h
  | _, _, _, .ext _, h => by simp [plainD] at h
theorem RDs.dp {K : PySem.W.Frag} {w : Wd} {H : Hp} (s : ∀ a o, w.F a = some o → H a = some o) : ∀ {xs : List D} {vs : List V} (n : Nat), RDs K w xs vs → plainDs n xs = true → DpAll K H vs (toPys xs)
  | _, _, _, .nil, _ => by rw [toPys]; exact .nil
  | _, _, n, .cons r t, h => by
    rw [plainDs, Bool.and_eq_true] at h
    rw [toPys]
    exact .cons (RD.dp s n r h.1) (RDs.dp s n t h.2)
end
theorem RP.dp {K : PySem.W.Frag} {w : Wd} {H : Hp} {m : Cells} (W : Wf K w H m) {x : D} {v : V} {n : Nat} (h : RP K w H x v) (p : plainD n x = true) : Dp K H v (toPy x) := by
  rcases h with h | ⟨xs, a, vs, rfl, rfl, h3, _, _, h6⟩
  · exact h.dp W.sub n p
  · cases n with
    | zero => simp [plainD] at p
    | succ n =>
      rw [toPy]
      exact .lst (.inl (.inl h3)) (RDs.dp W.sub n h6 (by simpa [plainD] using p))

/-! ### judgements -/
abbrev SemR := Env → Cells → Res RV
abbrev SemD := Env → Cells → Res D
abbrev SemDs := Env → Cells → Res (List D)
abbrev SemB := Env → Cells → Res Bool
/-- an exception: its class a constant of the world, its fields -/
def RX (K : PySem.W.Frag) (w : Wd) (x : Exn) (c : Value) (d : Option Addr) (H : Hp) : Prop :=
  (∃ v, w.ξ x.cls = some v ∧ RelV v c) ∧ (x.fs ≠ [] → ∃ dd fv, d = some dd ∧ H dd = some (.xd fv) ∧ fv.map (·.1) = x.fs.map (·.1) ∧ RDs K w (x.fs.map (·.2)) (fv.map (·.2)))
section
variable (X : Cx) (W : WX)
abbrev PX (w : Wd) (H : Hp) (σ : St) (x : Exn) (m' : Cells) : Prop := ∀ c d w' H', Ext w H w' H' → Wf X.K w' H' m' → RX X.K w' x c d H' → W c d σ H'
abbrev PR (w : Wd) (H0 H : Hp) (Q : VK) (rv : RV) (m' : Cells) : Prop := ∀ w' H' v, Ext w H w' H' → Wf X.K w' H' m' → RR X.K H0 H w' H' rv v → Q v H'
abbrev PF (w : Wd) (H : Hp) (Q : VK) (x : D) (m' : Cells) : Prop := ∀ w' H' v, Ext w H w' H' → Wf X.K w' H' m' → RD X.K w' x v → Q v H'
abbrev PP (w : Wd) (H : Hp) (Q : VK) (x : D) (m' : Cells) : Prop := ∀ w' H' v, Ext w H w' H' → Wf X.K w' H' m' → RP X.K w' H' x v → Q v H'
/-- an expression -/
structure SE (e : Expr) (f : SemR) (t : TE) : Prop where
  pe : PE X e t
  rd : ∀ w H0 σ H env m Q, Wf X.K w H m → Slots X.K w H0 σ H env → WP (f env m) (PR X w H0 H Q) (PX X W w H σ) → t σ H Q
/-- a test -/
structure STt (e : Expr) (f : SemB) (t : TT) : Prop where
  pt : PT X e t
  rd : ∀ w H0 σ H env m (Q : Bool → Hp → Prop), Wf X.K w H m → Slots X.K w H0 σ H env → WP (f env m) (fun b m' => ∀ w' H', Ext w H w' H' → Wf X.K w' H' m' → Q b H') (PX X W w H σ) → t σ H Q
/-- arguments, as data -/
structure SAt (es : List Expr) (f : SemDs) (t : TA) : Prop where
  pa : PA X es t
  rd : ∀ w H0 σ H env m (Q : List V → Hp → Prop), Wf X.K w H m → Slots X.K w H0 σ H env → WP (f env m) (fun xs m' => ∀ w' H' vs, Ext w H w' H' → Wf X.K w' H' m' → RDs X.K w' xs vs → Q vs H') (PX X W w H σ) → t σ H Q
end
/-- as data, kept -/
def fz (f : SemR) : SemD := fun env m => (f env m).bind fun rv m' => match rv.frz with
  | some x => .ok x m'
  | none => .bot
/-- as data, read only -/
def vl (f : SemR) : SemD := fun env m => (f env m).bind fun rv m' => .ok rv.val m'
section
variable {X : Cx} {W : WX} {e : Expr} {f : SemR} {t : TE}
theorem SE.fz (h : SE X W e f t) {w : Wd} {H0 H : Hp} {σ : St} {env : Env} {m : Cells} {Q : VK} (Wm : Wf X.K w H m) (S : Slots X.K w H0 σ H env) (q : WP (Ev.fz f env m) (PF X w H Q) (PX X W w H σ)) : t σ H Q := by
  refine h.rd w H0 σ H env m Q Wm S (WP.mono (WP.of_bind q) (fun rv m' q w' H' v E Wm' r => ?_) fun _ _ z => z)
  cases e : rv.frz with
  | none => rw [e] at q; exact q.elim
  | some x =>
    rw [e] at q
    obtain ⟨w2, E2, W2, r2, _⟩ := r.frz e E Wm'
    exact q w2 H' v E2 W2 r2
theorem SE.vl (h : SE X W e f t) {w : Wd} {H0 H : Hp} {σ : St} {env : Env} {m : Cells} {Q : VK} (Wm : Wf X.K w H m) (S : Slots X.K w H0 σ H env) (q : WP (Ev.vl f env m) (PP X w H Q) (PX X W w H σ)) : t σ H Q :=
  h.rd w H0 σ H env m Q Wm S (WP.mono (WP.of_bind q) (fun rv m' q w' H' v E Wm' r => q w' H' v E Wm' r.rp) fun _ _ z => z)
end

/-! ### names, constants -/
def rVar (i : Nat) : SemR := fun env m => match env[i]? with
  | some (.d x) => .ok (.d x) m
  | some (.own xs) => .ok (.pk xs) m
  | _ => .bot
def rC (x : D) : SemR := fun _ m => .ok (.d x) m
section
variable {X : Cx} {W : WX}
theorem se_var (i : Nat) {x : Str} {pos : Pos} (hN : X.N[i]? = some x := by rfl) (hv : Vis X.env.scope x := by first | exact Or.inl rfl | exact Or.inr (Or.inl rfl) | exact Or.inr (Or.inr rfl)) (hd : (x == ("__debug__" : Str)) = false := by decide)
    (hcd : (x == ("__classdict__" : Str)) = false := by decide) : SE X W (.Name x pos) (rVar i) (tVar i) := by
  refine ⟨pe_var hN hv hd hcd, fun w H0 σ H env m Q Wm S q => ?_⟩
  cases e : env[i]? with
  | none =>
    have z : rVar i env m = .bot := by unfold rVar; rw [e]
    rw [z] at q; exact q.elim
  | some s =>
    cases s with
    | un =>
      have z : rVar i env m = .bot := by unfold rVar; rw [e]
      rw [z] at q; exact q.elim
    | d y =>
      have z : rVar i env m = .ok (.d y) m := by unfold rVar; rw [e]
      rw [z] at q
      obtain ⟨v, h1, h2⟩ := S.dat i y e
      exact ⟨v, h1, q w H v (.refl _ _) Wm h2⟩
    | own ys =>
      have z : rVar i env m = .ok (.pk ys) m := by unfold rVar; rw [e]
      rw [z] at q
      obtain ⟨a, vs, h1, h2, h3, h4, h5, h6⟩ := S.own i ys e
      exact ⟨_, h1, q w H _ (.refl _ _) Wm ⟨a, vs, rfl, h2, h3, h4, h5, h6⟩⟩
/-- a value that needs nothing of the heap -/
theorem se_const {e : Expr} {v : V} {x : D} (h : PE X e (tC v)) (r : ∀ w, RD X.K w x v) : SE X W e (rC x) (tC v) :=
  ⟨h, fun w H0 σ H env m Q Wm S q => q w H v (.refl _ _) Wm (r w)⟩
theorem se_int {i : Int} {j : Nat} {pos : Pos} : SE X W (.Constant (.int i) j pos) (rC (.int i)) (tC (.int i)) := se_const pe_int fun _ => .int i
theorem se_bl {b : Bool} {j : Nat} {pos : Pos} : SE X W (.Constant (.bool b) j pos) (rC (.bl b)) (tC (.bl b)) := se_const pe_bl fun _ => .bl b
theorem se_non {j : Nat} {pos : Pos} : SE X W (.Constant .none j pos) (rC .non) (tC .non) := se_const pe_non fun _ => .non
theorem se_str {x : Str} {j : Nat} {pos : Pos} : SE X W (.Constant (.str x) j pos) (rC (.str x)) (tC (.str x)) := se_const pe_str fun _ => .str x
/-- a module's constant -/
theorem se_glob {x : Str} {v : V} {u : Value} {y : D} {pos : Pos} (hm : X.mg x = some u) (r : RelV v u) (rd : ∀ w, RD X.K w y v) (hg : Gl X x := by rfl) (hd : (x == ("__debug__" : Str)) = false := by decide) : SE X W (.Name x pos) (rC y) (tC v) :=
  se_const (pe_glob hg hm r hd) rd

/-! ### operators -/
/-- a two-place operation, on data -/
structure OpS (X : Cx) (F : Value → Value → Sem Value) (g : D → D → Option RV) (r : R2) : Prop where
  op : OpR X F r
  rd : ∀ w H0 H m x y vx vy rv (Q : VK), Wf X.K w H m → RP X.K w H x vx → RP X.K w H y vy → g x y = some rv → PR X w H0 H Q rv m → r vx vy H Q
def rBin (g : D → D → Option RV) (a b : SemR) : SemR := fun env m => (vl a env m).bind fun x m1 => (vl b env m1).bind fun y m2 => match g x y with
  | some rv => .ok rv m2
  | none => .bot
/-- a value that is given anew with the world -/
theorem RR.after {K : PySem.W.Frag} {H0 H H1 H2 : Hp} {w w1 w2 : Wd} {rv : RV} {v : V} (E : Ext w H w1 H1) (h : RR K H0 H1 w2 H2 rv v) : RR K H0 H w2 H2 rv v := by
  cases rv with
  | d x => exact h
  | fl xs =>
    obtain ⟨a, vs, h1, h2, h3, h4, h5, h6⟩ := h
    exact ⟨a, vs, h1, h2, h3, h4, E.there a h5, h6⟩
  | pk xs => exact h
variable {a b : Expr} {fa fb : SemR} {ta tb : TE} {pos : Pos}
theorem bin_rd {F : Value → Value → Sem Value} {g : D → D → Option RV} {r : R2} (ho : OpS X F g r) (ha : SE X W a fa ta) (hb : SE X W b fb tb) {w : Wd} {H0 H : Hp} {σ : St} {env : Env} {m : Cells} {Q : VK} (Wm : Wf X.K w H m) (S : Slots X.K w H0 σ H env)
    (q : WP (rBin g fa fb env m) (PR X w H0 H Q) (PX X W w H σ)) : tOp r ta tb σ H Q := by
  refine ha.vl Wm S (WP.mono (WP.of_bind q) (fun x m1 q w1 H1 v1 E1 W1 r1 => ?_) fun _ _ z => z)
  refine hb.vl W1 (S.ext E1) (WP.mono (WP.of_bind q) (fun y m2 q w2 H2 v2 E2 W2 r2 => ?_) fun x m' z c d w' H' E' W' rx => z c d w' H' (E1.trans E') W' rx)
  cases e : g x y with
  | none => rw [e] at q; exact q.elim
  | some rv =>
    rw [e] at q
    exact ho.rd w2 H0 H2 m2 x y v1 v2 rv Q W2 (r1.ext E2) r2 e fun w' H' v E' W' rr => q w' H' v ((E1.trans E2).trans E') W' (rr.after (E1.trans E2))
theorem se_bin {op : Operator} {g : D → D → Option RV} {r : R2} (ho : OpS X (binaryOp op) g r) (ha : SE X W a fa ta) (hb : SE X W b fb tb) : SE X W (.BinOp a op b pos) (rBin g fa fb) (tOp r ta tb) :=
  ⟨pe_op ho.op ha.pe hb.pe, fun _ _ _ _ _ _ _ Wm S q => bin_rd ho ha hb Wm S q⟩
theorem se_cmp {op : CmpOp} {g : D → D → Option RV} {r : R2} (ho : OpS X (compareOp op) g r) (ha : SE X W a fa ta) (hb : SE X W b fb tb) (hm : behindInMarks op b = false := by first | exact nomark _ | rfl) : SE X W (.Compare a [op] [b] pos) (rBin g fa fb) (tOp r ta tb) :=
  ⟨pe_cmpR ho.op ha.pe hb.pe hm, fun _ _ _ _ _ _ _ Wm S q => bin_rd ho ha hb Wm S q⟩
theorem OpS.or {F : Value → Value → Sem Value} {g g' : D → D → Option RV} {r r' : R2} (h : OpS X F g r) (h' : OpS X F g' r') : OpS X F (fun x y => (g x y).orElse fun _ => g' x y) (fun x y H Q => r x y H Q ∨ r' x y H Q) := by
  refine ⟨h.op.or h'.op, fun w H0 H m x y vx vy rv Q Wm rx ry e q => ?_⟩
  cases e1 : g x y with
  | some z =>
    rw [e1] at e
    exact .inl (h.rd w H0 H m x y vx vy rv Q Wm rx ry (by rw [e1]; exact e) q)
  | none =>
    rw [e1] at e
    exact .inr (h'.rd w H0 H m x y vx vy rv Q Wm rx ry e q)
/-- ints to a scalar -/
theorem ops_ints {F : Value → Value → Sem Value} {C : Int → Int → Prop} [∀ i j, Decidable (C i j)] {g : Int → Int → Int} (op : OpR X F (rI C fun i j => .int (g i j))) :
    OpS X F (fun x y => match x, y with | .int i, .int j => if C i j then some (.d (.int (g i j))) else none | _, _ => none) (rI C fun i j => .int (g i j)) := by
  refine ⟨op, fun w H0 H m x y vx vy rv Q Wm rx ry e q => ?_⟩
  split at e
  · split at e
    · rename_i i j hc
      cases e
      exact ⟨i, j, rx.int, ry.int, hc, q w H _ (.refl _ _) Wm (.int _)⟩
    · cases e
  · cases e
theorem ops_ints0 {F : Value → Value → Sem Value} {g : Int → Int → Int} (op : OpR X F (rI0 fun i j => .int (g i j))) :
    OpS X F (fun x y => match x, y with | .int i, .int j => some (.d (.int (g i j))) | _, _ => none) (rI0 fun i j => .int (g i j)) := by
  refine ⟨op, fun w H0 H m x y vx vy rv Q Wm rx ry e q => ?_⟩
  split at e
  · rename_i i j
    cases e
    exact ⟨i, j, rx.int, ry.int, q w H _ (.refl _ _) Wm (.int _)⟩
  · cases e
theorem ops_cmp {F : Value → Value → Sem Value} {g : Int → Int → Bool} (op : OpR X F (rI0 fun i j => .bl (g i j))) :
    OpS X F (fun x y => match x, y with | .int i, .int j => some (.d (.bl (g i j))) | _, _ => none) (rI0 fun i j => .bl (g i j)) := by
  refine ⟨op, fun w H0 H m x y vx vy rv Q Wm rx ry e q => ?_⟩
  split at e
  · rename_i i j
    cases e
    exact ⟨i, j, rx.int, ry.int, q w H _ (.refl _ _) Wm (.bl _)⟩
  · cases e
end
end Ev
/-! tuple * int where nothing is repeated: an empty tuple, once, or not at all. -/
namespace L2
open PySem PySem.Spec PyProof.Rows
theorem tuple_mulS (l : Addr) (items : Array Value) (n : Nat) (dd : Option Addr) (sl : Array (Option Value)) (x : Int) (u : Tok) (c0 : (decide (x < -(2 ^ 63)) || decide (x ≥ 2 ^ 63)) = false) (c1 : (items.isEmpty || x == 1) = true) :
    Meets (Builtin.«tuple.__mul__» ⟨[.ref l, .int x u], []⟩) (fun _ R s => s.heap.get? l = some { cls := .type "tuple", dict := dd, data := .seq items n, slots := sl } ∧ R (.ok (.ret (Value.ref l))) s) :=
  .of_wp fun prog w A R s h => by
    obtain ⟨hp, g, d, tk, os⟩ := s
    obtain ⟨hl, h⟩ := h
    have f1 := AutoSeq1.idx_int
    have hT : Shared.TypeIs ⟨hp, g, d, tk, os⟩ (.ref l) "tuple" := ⟨_, hl, rfl⟩
    wp_walk using wpAny_loadPart' hl, wpAny_typeOf hT
    repeat (first
      | (refine wpAny_ite_false (decide_eq_false (by rw [c0]; exact Bool.false_ne_true)) ?_; wp_walk using wpAny_loadPart' hl, wpAny_typeOf hT)
      | (refine wpAny_ite_true (decide_eq_true (by rw [c1])) ?_; wp_walk using wpAny_loadPart' hl, wpAny_typeOf hT))
    exact ⟨_, rfl, h⟩
theorem tuple_mulZ (l : Addr) (items : Array Value) (n : Nat) (dd : Option Addr) (sl : Array (Option Value)) (x : Int) (u : Tok) (c0 : (decide (x < -(2 ^ 63)) || decide (x ≥ 2 ^ 63)) = false) (c1 : (items.isEmpty || x == 1) = false) (c2 : (decide (x ≤ 0) || items.isEmpty) = true) :
    Meets (Builtin.«tuple.__mul__» ⟨[.ref l, .int x u], []⟩) (fun _ R s => s.heap.get? l = some { cls := .type "tuple", dict := dd, data := .seq items n, slots := sl } ∧
      R (.ok (.ret (Value.ref s.heap.objs.size))) { s with heap := s.heap.push { cls := Value.type "tuple", data := Data.seq #[] }, toks := s.toks }) :=
  .of_wp fun prog w A R s h => by
    obtain ⟨hp, g, d, tk, os⟩ := s
    obtain ⟨hl, h⟩ := h
    have f1 := AutoSeq1.idx_int
    wp_walk using wpAny_loadPart' hl
    repeat (first
      | (refine wpAny_ite_false (decide_eq_false (by rw [c0]; exact Bool.false_ne_true)) ?_; wp_walk using wpAny_loadPart' hl)
      | (refine wpAny_ite_false (decide_eq_false (by rw [c1]; exact Bool.false_ne_true)) ?_; wp_walk using wpAny_loadPart' hl)
      | (refine wpAny_ite_true (decide_eq_true (by rw [c2])) ?_; wp_walk using wpAny_loadPart' hl))
    exact ⟨_, rfl, h⟩
def rRepE (K : PySem.W.Frag) : R2 := fun x y H Q => ∃ l k xs, x = .ref l ∧ y = .int k ∧ SqT K H l xs ∧ -1000000 ≤ k ∧ k ≤ 1000000 ∧
  (((xs = [] ∨ k = 1) ∧ Q (.ref l) H) ∨ (xs ≠ [] ∧ k ≤ 0 ∧ ∀ p, H p = none → Q (.ref p) (upd H p (.tup []))))
section
variable {X : Cx}
theorem op_repE : OpR X (binaryOp .Mult) (rRepE X.K) := by
  intro pins s σ H x y v u Q I rx ry h
  obtain ⟨l, k, xs, rfl, rfl, hT, h1, h2, q⟩ := h
  cases rx
  obtain ⟨t, rfl⟩ := ry
  obtain ⟨its, r, ⟨⟨cls, dd, data, sl⟩, ho, hc, n, hd⟩, hs⟩ := I.tuple hT
  simp only at hc hd
  subst hc hd
  have hle : its.length = xs.length := r.length.symm
  have c0 : (decide (k < -(2 ^ 63)) || decide (k ≥ 2 ^ 63)) = false := by
    rw [decide_eq_false (by omega), decide_eq_false (by omega)] <;> rfl
  have em : its.toArray.isEmpty = decide (xs = []) := by
    cases its with
    | nil => have := List.length_eq_zero_iff.mp hle.symm; subst this; rfl
    | cons a b =>
      have : xs ≠ [] := fun e => by subst e; simp at hle
      rw [decide_eq_false this]; rfl
  rcases q with ⟨q0, q⟩ | ⟨q0, q1, q⟩
  · have c1 : (its.toArray.isEmpty || k == 1) = true := by
      rw [em]
      rcases q0 with e | e
      · rw [decide_eq_true e]; rfl
      · rw [e]; simp
    refine wpAny_binaryOp_repeat_ref (T := "tuple") (U := "int") (by decide) ⟨_, ho, rfl⟩ (fun s' => typeIs_int s' k t) noFill_tuple_mul F.fills_int_mul F.slot_int_rmul repeat_tuple F.slot_int_index.lookup
      (call_meets F.slot_int_rmul (typeIs_int s k t) F.entry_int_rmul (F.args_int_rmul_2 _ _) (int_rmul_tuple k t l its.toArray n dd sl)
        ⟨ho, rfl, ⟨_, ho, rfl⟩, call_meets F.slot_tuple_mul ⟨_, ho, rfl⟩ F.entry_tuple_mul (F.args_tuple_mul_2 _ _) (tuple_mulS l its.toArray n dd sl k t c0 c1) ⟨ho, ?_⟩⟩)
    exact ⟨.ref l, H, I, rfl, q⟩
  · have c1 : (its.toArray.isEmpty || k == 1) = false := by
      rw [em, decide_eq_false q0, Bool.false_or]
      exact beq_eq_false_iff_ne.mpr (by omega)
    have c2 : (decide (k ≤ 0) || its.toArray.isEmpty) = true := by rw [decide_eq_true q1]; rfl
    refine wpAny_binaryOp_repeat_ref (T := "tuple") (U := "int") (by decide) ⟨_, ho, rfl⟩ (fun s' => typeIs_int s' k t) noFill_tuple_mul F.fills_int_mul F.slot_int_rmul repeat_tuple F.slot_int_index.lookup
      (call_meets F.slot_int_rmul (typeIs_int s k t) F.entry_int_rmul (F.args_int_rmul_2 _ _) (int_rmul_tuple k t l its.toArray n dd sl)
        ⟨ho, rfl, ⟨_, ho, rfl⟩, call_meets F.slot_tuple_mul ⟨_, ho, rfl⟩ F.entry_tuple_mul (F.args_tuple_mul_2 _ _) (tuple_mulZ l its.toArray n dd sl k t c0 c1 c2) ⟨ho, ?_⟩⟩)
    exact ⟨.ref s.heap.objs.size, _, I.laid (t' := s.toks) (o := .tup []) (fun b ob q => Heap.get?_push_of_some _ q) (Nat.le_refl _) ⟨by show 0 ≤ sizeLine; decide, [], .nil, IsTup.new _ _⟩, rfl, q _ (I.hok.fresh (Nat.le_refl _))⟩
end
end L2
/-! Ev, part C: the operators. -/
namespace Ev
open PySem PySem.Spec L2
/-- the longest list, tuple, text that is made -/
abbrev LN : Nat := 1000000
theorem ln_line {n : Nat} (h : n ≤ LN) : n ≤ sizeLine := Nat.le_trans h (by rw [sizeLine_eq]; decide)
theorem ln_lt {n : Nat} (h : n ≤ LN) : n < sizeLine := Nat.lt_of_le_of_lt h (by rw [sizeLine_eq]; decide)
section
variable {X : Cx} {w : Wd} {H0 H : Hp} {m : Cells} {Q : VK}
theorem Wf.noF {K : PySem.W.Frag} (W : Wf K w H m) {p : Addr} (hp : H p = none) : w.F p = none := by
  cases q : w.F p with
  | none => rfl
  | some o =>
    have := W.sub p o q
    rw [hp] at this; cases this
theorem Wf.noI {K : PySem.W.Frag} (W : Wf K w H m) {p : Addr} (hp : H p = none) : p ∉ w.ι := fun h => by
  obtain ⟨n, hn⟩ := List.mem_iff_getElem?.mp h
  have hl : n < m.length := by rw [← W.len]; exact (List.getElem?_eq_some_iff.mp hn).1
  obtain ⟨a, h1, h2⟩ := W.cell n m[n] (by simp [hl])
  rw [hn] at h1
  cases h1
  cases hc : m[n] with
  | lst xs =>
    rw [hc] at h2
    obtain ⟨vs, h3, _⟩ := h2
    rw [hp] at h3; cases h3
theorem new_known {p : Addr} {o : HO} (Wm : Wf X.K w H m) (hp : H p = none) : Ext w H (w.add p o) (upd H p o) ∧ Wf X.K (w.add p o) (upd H p o) m ∧ WLe w (w.add p o) ∧ (w.add p o).F p = some o :=
  ⟨(Ext.new hp).add (Wm.noF hp) hp, (Wm.new hp).add (Wm.noF hp) upd_same (Wm.noI hp), .add (Wm.noF hp), by show upd w.F p o p = _; exact upd_same⟩
theorem new_tup {p : Addr} {xs : List D} {vs : List V} (Wm : Wf X.K w H m) (hp : H p = none) (r : RDs X.K w xs vs) (q : PR X w H0 H Q (.d (.tup xs)) m) : Q (.ref p) (upd H p (.tup vs)) := by
  obtain ⟨E, W2, L, f⟩ := new_known (X := X) (o := .tup vs) Wm hp
  exact q _ _ _ E W2 (.tup (.inl (.inl f)) (r.le L))
theorem new_lst {p : Addr} {xs : List D} {vs : List V} (Wm : Wf X.K w H m) (hp : H p = none) (r : RDs X.K w xs vs) (q : PR X w H0 H Q (.fl xs) m) : Q (.ref p) (upd H p (.lst vs)) :=
  q w _ _ (.new hp) (Wm.new hp) ⟨p, vs, rfl, upd_same, Wm.noF hp, Wm.noI hp, hp, r⟩
theorem RP.rd_tup {K : PySem.W.Frag} {xs : List D} {v : V} (h : RP K w H (.tup xs) v) : RD K w (.tup xs) v := by
  rcases h with h | ⟨ys, a, vs, h1, _⟩
  · exact h
  · cases h1
end

/-! ### + - * // % ** -/
def gAdd : D → D → Option RV
  | .int i, .int j => some (.d (.int (i + j)))
  | .str a, .str b => if a.length + b.length ≤ LN then some (.d (.str (a ++ b))) else none
  | .tup xs, .tup ys => if xs.length + ys.length ≤ LN then some (.d (.tup (xs ++ ys))) else none
  | .lst xs, .lst ys => if xs.length + ys.length ≤ LN then some (.fl (xs ++ ys)) else none
  | _, _ => none
def gMinus : D → D → Option RV
  | .int i, .int j => some (.d (.int (i - j)))
  | _, _ => none
/-- one of both below 2 ^ 64 in size, or both of less than a million bits together -/
def mulOk (i j : Int) : Bool := decide (-(2 ^ 64) < i ∧ i < 2 ^ 64) || decide (-(2 ^ 64) < j ∧ j < 2 ^ 64) || decide (i.natAbs.log2 + j.natAbs.log2 < 1000000)
def gMul : D → D → Option RV
  | .int i, .int j => if mulOk i j then some (.d (.int (i * j))) else none
  | .lst xs, .int k => if 0 ≤ k ∧ k ≤ 1000000 ∧ xs.length * k.toNat ≤ LN then some (.fl (List.replicate k.toNat xs).flatten) else none
  | .tup xs, .int k => if -1000 ≤ k ∧ k ≤ 1000 ∧ xs.length ≤ 1000 then some (.d (.tup (List.replicate k.toNat xs).flatten)) else none
  | _, _ => none
def gDiv : D → D → Option RV
  | .int i, .int j => if 0 < j ∧ (j < 1073741824 ∨ j.natAbs.log2 < 9000) then some (.d (.int (i / j))) else none
  | _, _ => none
def gMod : D → D → Option RV
  | .int i, .int j => if 0 < j then some (.d (.int (i % j))) else none
  | _, _ => none
def gPow : D → D → Option RV
  | .int i, .int j => if 0 ≤ j ∧ j ≤ 1000000 ∧ i.natAbs < 2 ^ 64 then some (.d (.int (i ^ j.toNat))) else none
  | _, _ => none
section
variable {X : Cx}
def tAddR (K : PySem.W.Frag) : R2 := fun x y H Q => rI0 (fun i j => .int (i + j)) x y H Q ∨ (∃ i j, x = .str i ∧ y = .str j ∧ i.length + j.length ≤ sizeLine ∧ Q (.str (i ++ j)) H) ∨ rCatA K x y H Q ∨ rCat x y H Q
theorem ops_add : OpS X (binaryOp .Add) gAdd (tAddR X.K) := by
  refine ⟨op_add.or (op_add_str.or (op_catA.or op_cat)), fun w H0 H m x y vx vy rv Q Wm rx ry e q => ?_⟩
  unfold gAdd at e
  split at e
  · cases e
    exact .inl ⟨_, _, rx.int, ry.int, q w H _ (.refl _ _) Wm (.int _)⟩
  · split at e
    · rename_i hl
      cases e
      exact .inr (.inl ⟨_, _, rx.str, ry.str, ln_line hl, q w H _ (.refl _ _) Wm (.str _)⟩)
    · cases e
  · split at e
    · rename_i xs ys hl
      cases e
      have rdx := rx.rd_tup
      have rdy := ry.rd_tup
      obtain ⟨a, vs, rfl, h1, h2⟩ := rx.tup Wm
      obtain ⟨b, us, rfl, h3, h4⟩ := ry.tup Wm
      refine .inr (.inr (.inl ⟨a, b, vs, us, rfl, rfl, h1, h3, ?_, fun z => ?_, fun _ z => ?_, fun _ _ p hp => ?_⟩))
      · rw [← h2.length, ← h4.length]; exact ln_line hl
      · subst z
        cases h2
        exact q w H _ (.refl _ _) Wm rdy
      · subst z
        cases h4
        rw [List.append_nil] at q
        exact q w H _ (.refl _ _) Wm rdx
      · exact new_tup Wm hp (h2.append h4) q
    · cases e
  · split at e
    · rename_i xs ys hl
      cases e
      obtain ⟨a, vs, rfl, h1, h2⟩ := rx.lst Wm
      obtain ⟨b, us, rfl, h3, h4⟩ := ry.lst Wm
      refine .inr (.inr (.inr ⟨a, b, vs, us, rfl, rfl, h1, h3, ?_, fun p hp => new_lst Wm hp (h2.append h4) q⟩))
      rw [← h2.length, ← h4.length]; exact ln_line hl
    · cases e
  · cases e
theorem ops_sub : OpS X (binaryOp .Sub) gMinus (rI0 fun i j => .int (i - j)) := by
  refine ⟨op_sub, fun w H0 H m x y vx vy rv Q Wm rx ry e q => ?_⟩
  unfold gMinus at e
  split at e
  · cases e
    exact ⟨_, _, rx.int, ry.int, q w H _ (.refl _ _) Wm (.int _)⟩
  · cases e
theorem RDs.rep {K : PySem.W.Frag} {w : Wd} {xs : List D} {vs : List V} (r : RDs K w xs vs) : ∀ k : Nat, RDs K w (List.replicate k xs).flatten (List.replicate k vs).flatten
  | 0 => .nil
  | k + 1 => by
    rw [List.replicate_succ, List.replicate_succ, List.flatten_cons, List.flatten_cons]
    exact r.append (RDs.rep r k)
def tMulR (K : PySem.W.Frag) : R2 := fun x y H Q => rI CMul (fun i j => .int (i * j)) x y H Q ∨ rI CMulW (fun i j => .int (i * j)) x y H Q ∨ rRep x y H Q ∨ rRepT K x y H Q ∨ rRepE K x y H Q
theorem ops_mul : OpS X (binaryOp .Mult) gMul (tMulR X.K) := by
  refine ⟨op_mul.or (op_mulW.or (op_rep.or (op_repT.or op_repE))), fun w H0 H m x y vx vy rv Q Wm rx ry e q => ?_⟩
  unfold gMul at e
  split at e
  · split at e
    · rename_i i j hc
      cases e
      unfold mulOk at hc
      rw [Bool.or_eq_true, Bool.or_eq_true] at hc
      rcases hc with (hc | hc) | hc
      · exact .inl ⟨_, _, rx.int, ry.int, .inl (of_decide_eq_true hc), q w H _ (.refl _ _) Wm (.int _)⟩
      · exact .inl ⟨_, _, rx.int, ry.int, .inr (of_decide_eq_true hc), q w H _ (.refl _ _) Wm (.int _)⟩
      · exact .inr (.inl ⟨_, _, rx.int, ry.int, (of_decide_eq_true hc : i.natAbs.log2 + j.natAbs.log2 < 1000000), q w H _ (.refl _ _) Wm (.int _)⟩)
    · cases e
  · split at e
    · rename_i xs k hc
      cases e
      obtain ⟨a, vs, rfl, h1, h2⟩ := rx.lst Wm
      refine .inr (.inr (.inl ⟨a, k, vs, rfl, ry.int, h1, by omega, by omega, ?_, fun p hp => new_lst Wm hp (h2.rep _) q⟩))
      rw [← h2.length]; exact ln_line hc.2.2
    · cases e
  · split at e
    · rename_i xs k hc
      cases e
      have rdx := rx.rd_tup
      obtain ⟨a, vs, rfl, h1, h2⟩ := rx.tup Wm
      have hl := h2.length
      by_cases h0 : xs = []
      · subst h0
        have hv : vs = [] := List.length_eq_zero_iff.mp hl.symm
        have e2 : (List.replicate k.toNat ([] : List D)).flatten = [] := by simp
        rw [e2] at q
        exact .inr (.inr (.inr (.inr ⟨a, k, vs, rfl, ry.int, h1, by omega, by omega, .inl ⟨.inl hv, q w H _ (.refl _ _) Wm rdx⟩⟩)))
      · have hv : vs ≠ [] := fun e => by subst e; exact h0 (List.length_eq_zero_iff.mp hl)
        by_cases h1' : 2 ≤ k
        · exact .inr (.inr (.inr (.inl ⟨a, k, vs, rfl, ry.int, h1, hv, h1', hc.2.1, by omega, fun p hp => new_tup Wm hp (h2.rep _) q⟩)))
        · by_cases h2' : k = 1
          · subst h2'
            have e2 : (List.replicate (1 : Int).toNat xs).flatten = xs := by simp
            rw [e2] at q
            exact .inr (.inr (.inr (.inr ⟨a, 1, vs, rfl, ry.int, h1, by omega, by omega, .inl ⟨.inr rfl, q w H _ (.refl _ _) Wm rdx⟩⟩)))
          · have e2 : (List.replicate k.toNat xs).flatten = [] := by rw [show k.toNat = 0 by omega]; rfl
            rw [e2] at q
            exact .inr (.inr (.inr (.inr ⟨a, k, vs, rfl, ry.int, h1, by omega, by omega, .inr ⟨hv, by omega, fun p hp => new_tup Wm hp .nil q⟩⟩)))
    · cases e
  · cases e
theorem ops_div : OpS X (binaryOp .FloorDiv) gDiv (fun x y H Q => rI CDiv (fun i j => .int (i / j)) x y H Q ∨ rI CDivW (fun i j => .int (i / j)) x y H Q) := by
  refine ⟨op_fdiv.or op_fdivW, fun w H0 H m x y vx vy rv Q Wm rx ry e q => ?_⟩
  unfold gDiv at e
  split at e
  · split at e
    · rename_i i j hc
      cases e
      rcases hc.2 with z | z
      · exact .inl ⟨_, _, rx.int, ry.int, ⟨hc.1, z⟩, q w H _ (.refl _ _) Wm (.int _)⟩
      · exact .inr ⟨_, _, rx.int, ry.int, ⟨hc.1, z⟩, q w H _ (.refl _ _) Wm (.int _)⟩
    · cases e
  · cases e
theorem ops_mod : OpS X (binaryOp .Mod) gMod (rI (fun _ j => 0 < j) fun i j => .int (i % j)) := by
  refine ⟨op_mod, fun w H0 H m x y vx vy rv Q Wm rx ry e q => ?_⟩
  unfold gMod at e
  split at e
  · split at e
    · cases e
      exact ⟨_, _, rx.int, ry.int, ‹_›, q w H _ (.refl _ _) Wm (.int _)⟩
    · cases e
  · cases e
theorem ops_pow : OpS X (binaryOp .Pow) gPow (rI CPow fun i j => .int (i ^ j.toNat)) := by
  refine ⟨op_pow, fun w H0 H m x y vx vy rv Q Wm rx ry e q => ?_⟩
  unfold gPow at e
  split at e
  · split at e
    · cases e
      exact ⟨_, _, rx.int, ry.int, ‹_›, q w H _ (.refl _ _) Wm (.int _)⟩
    · cases e
  · cases e
end

/-! ### comparisons -/
def gEq (x y : D) : Option RV := if plainD 60 x && plainD 60 y then some (.d (.bl (deq x y))) else none
def gNe (x y : D) : Option RV := if plainD 60 x && plainD 60 y then some (.d (.bl (!deq x y))) else none
def gLt : D → D → Option RV
  | .int i, .int j => some (.d (.bl (decide (i < j))))
  | _, _ => none
def gLe : D → D → Option RV
  | .int i, .int j => some (.d (.bl (decide (i ≤ j))))
  | _, _ => none
def gGt : D → D → Option RV
  | .int i, .int j => some (.d (.bl (decide (j < i))))
  | _, _ => none
def gGe : D → D → Option RV
  | .int i, .int j => some (.d (.bl (decide (j ≤ i))))
  | _, _ => none
/-- what is a text, number, truth value .. as against None -/
def isNon : D → Bool
  | .non => true
  | _ => false
def gIs : D → D → Option RV
  | x, .non => some (.d (.bl (isNon x)))
  | .bl a, .bl b => some (.d (.bl (a == b)))
  | _, _ => none
def gIsNot : D → D → Option RV
  | x, .non => some (.d (.bl (!isNon x)))
  | .bl a, .bl b => some (.d (.bl (!(a == b))))
  | _, _ => none
def itemsOf : D → Option (List D)
  | .lst xs => some xs
  | .tup xs => some xs
  | _ => none
def gIn (x y : D) : Option RV := match y with
  | .lst ys | .tup ys => if plainD 60 x && plainDs 60 ys then some (.d (.bl (ys.any fun y => deq y x))) else none
  | _ => none
def gNotIn (x y : D) : Option RV := match y with
  | .lst ys | .tup ys => if plainD 60 x && plainDs 60 ys then some (.d (.bl (!(ys.any fun y => deq y x)))) else none
  | _ => none
section
variable {X : Cx}
def rEqP (K : PySem.W.Frag) : R2 := fun x y H Q => ∃ d e, Dp K H x d ∧ Dp K H y e ∧ d.plain = true ∧ e.plain = true ∧ d.depth ≤ 60 ∧ Q (.bl (PyData.eqv d e)) H
def rNeP (K : PySem.W.Frag) : R2 := fun x y H Q => ∃ d e, Dp K H x d ∧ Dp K H y e ∧ d.plain = true ∧ e.plain = true ∧ d.depth ≤ 60 ∧ Q (.bl (!PyData.eqv d e)) H
theorem op_eqP (hu : X.A.units + 64 < cLine) : OpR X (compareOp .Eq) (rEqP X.K) := by
  intro pins s σ H x y v u Q I rx ry h
  obtain ⟨d, e, hd, he, pd, pe, dd, q⟩ := h
  obtain ⟨as, r1⟩ := Dp.reads I d x v hd rx
  obtain ⟨bs, r2⟩ := Dp.reads I e y u he ry
  exact PySem.SeqAt.eq_plain r1 r2 pd pe (by have := Nat.min_le_left d.depth e.depth; omega) ⟨.bl _, H, I, rfl, q⟩
theorem op_neP (hu : X.A.units + 64 < cLine) : OpR X (compareOp .NotEq) (rNeP X.K) := by
  intro pins s σ H x y v u Q I rx ry h
  obtain ⟨d, e, hd, he, pd, pe, dd, q⟩ := h
  obtain ⟨as, r1⟩ := Dp.reads I d x v hd rx
  obtain ⟨bs, r2⟩ := Dp.reads I e y u he ry
  exact PySem.SeqAt.ne_plain r1 r2 pd pe (by have := Nat.min_le_left d.depth e.depth; omega) ⟨.bl _, H, I, rfl, q⟩
theorem ops_eq (hu : X.A.units + 64 < cLine) : OpS X (compareOp .Eq) gEq (rEqP X.K) := by
  refine ⟨op_eqP hu, fun w H0 H m x y vx vy rv Q Wm rx ry e q => ?_⟩
  unfold gEq at e
  split at e
  · rename_i hc
    cases e
    rw [Bool.and_eq_true] at hc
    obtain ⟨p1, d1⟩ := toPy_plain 60 x hc.1
    obtain ⟨p2, _⟩ := toPy_plain 60 y hc.2
    refine ⟨toPy x, toPy y, rx.dp Wm hc.1, ry.dp Wm hc.2, p1, p2, d1, ?_⟩
    rw [deq_py 60 x y hc.1 hc.2]
    exact q w H _ (.refl _ _) Wm (.bl _)
  · cases e
theorem ops_ne (hu : X.A.units + 64 < cLine) : OpS X (compareOp .NotEq) gNe (rNeP X.K) := by
  refine ⟨op_neP hu, fun w H0 H m x y vx vy rv Q Wm rx ry e q => ?_⟩
  unfold gNe at e
  split at e
  · rename_i hc
    cases e
    rw [Bool.and_eq_true] at hc
    obtain ⟨p1, d1⟩ := toPy_plain 60 x hc.1
    obtain ⟨p2, _⟩ := toPy_plain 60 y hc.2
    refine ⟨toPy x, toPy y, rx.dp Wm hc.1, ry.dp Wm hc.2, p1, p2, d1, ?_⟩
    rw [deq_py 60 x y hc.1 hc.2]
    exact q w H _ (.refl _ _) Wm (.bl _)
  · cases e
theorem ops_lt : OpS X (compareOp .Lt) gLt (rI0 fun i j => .bl (decide (i < j))) := by
  refine ⟨op_lt, fun w H0 H m x y vx vy rv Q Wm rx ry e q => ?_⟩
  unfold gLt at e
  split at e
  · cases e; exact ⟨_, _, rx.int, ry.int, q w H _ (.refl _ _) Wm (.bl _)⟩
  · cases e
theorem ops_le : OpS X (compareOp .LtE) gLe (rI0 fun i j => .bl (decide (i ≤ j))) := by
  refine ⟨op_le, fun w H0 H m x y vx vy rv Q Wm rx ry e q => ?_⟩
  unfold gLe at e
  split at e
  · cases e; exact ⟨_, _, rx.int, ry.int, q w H _ (.refl _ _) Wm (.bl _)⟩
  · cases e
theorem ops_gt : OpS X (compareOp .Gt) gGt (rI0 fun i j => .bl (decide (j < i))) := by
  refine ⟨op_gt, fun w H0 H m x y vx vy rv Q Wm rx ry e q => ?_⟩
  unfold gGt at e
  split at e
  · cases e; exact ⟨_, _, rx.int, ry.int, q w H _ (.refl _ _) Wm (.bl _)⟩
  · cases e
theorem ops_ge : OpS X (compareOp .GtE) gGe (rI0 fun i j => .bl (decide (j ≤ i))) := by
  refine ⟨op_ge, fun w H0 H m x y vx vy rv Q Wm rx ry e q => ?_⟩
  unfold gGe at e
  split at e
  · cases e; exact ⟨_, _, rx.int, ry.int, q w H _ (.refl _ _) Wm (.bl _)⟩
  · cases e
theorem RP.isNon {K : PySem.W.Frag} {w : Wd} {H : Hp} {m : Cells} {x : D} {v : V} (Wm : Wf K w H m) (h : RP K w H x v) : decide (v = .non) = Ev.isNon x := by
  rcases h with h | ⟨xs, a, vs, rfl, rfl, _⟩
  · cases h with
    | ext e => rw [decide_eq_false (Wm.xi _ _ e)]; rfl
    | _ => rfl
  · rfl
def tIsR : R2 := fun x y H Q => (y = .non ∧ Q (.bl (decide (x = .non))) H) ∨ rIsB x y H Q
def tIsNotR : R2 := fun x y H Q => (y = .non ∧ Q (.bl (!decide (x = .non))) H) ∨ rNotB x y H Q
theorem dec_beq (a b : Bool) : decide (a = b) = (a == b) := by cases a <;> cases b <;> rfl
theorem ops_is : OpS X (compareOp .Is) gIs tIsR := by
  refine ⟨op_isN.or op_isBl, fun w H0 H m x y vx vy rv Q Wm rx ry e q => ?_⟩
  unfold gIs at e
  split at e
  · cases e
    refine .inl ⟨ry.non, ?_⟩
    rw [rx.isNon Wm]
    exact q w H _ (.refl _ _) Wm (.bl _)
  · rename_i a b
    cases e
    refine .inr ⟨a, b, rx.bl, ry.bl, ?_⟩
    rw [dec_beq]
    exact q w H _ (.refl _ _) Wm (.bl _)
  · cases e
theorem ops_isnot : OpS X (compareOp .IsNot) gIsNot tIsNotR := by
  refine ⟨op_notN.or op_notBl, fun w H0 H m x y vx vy rv Q Wm rx ry e q => ?_⟩
  unfold gIsNot at e
  split at e
  · cases e
    refine .inl ⟨ry.non, ?_⟩
    rw [rx.isNon Wm]
    exact q w H _ (.refl _ _) Wm (.bl _)
  · rename_i a b
    cases e
    refine .inr ⟨a, b, rx.bl, ry.bl, ?_⟩
    rw [dec_beq]
    exact q w H _ (.refl _ _) Wm (.bl _)
  · cases e
/-! in, not in -/
def rInP (K : PySem.W.Frag) (neg : Bool) : R2 := fun x y H Q => ∃ d ds, Dp K H x d ∧ (Dp K H y (.list ds) ∨ Dp K H y (.tuple ds)) ∧ d.plain = true ∧ PyData.plainAll ds = true ∧ d.depth ≤ 60 ∧
  Q (.bl (if neg then !(ds.any fun y => PyData.eqv y d) else ds.any fun y => PyData.eqv y d)) H
theorem op_inP (hu : X.A.units + 64 < cLine) : OpR X (compareOp .In) (rInP X.K false) := by
  intro pins s σ H x y v u Q I rx ry h
  obtain ⟨d, ds, hd, he, pd, pe, dd, q⟩ := h
  obtain ⟨as, r1⟩ := Dp.reads I d x v hd rx
  have hm := Nat.min_le_right (PyData.depthAll ds) d.depth
  rcases he with he | he
  · obtain ⟨bs, r2⟩ := Dp.reads I _ y u he ry
    exact PySem.SeqAt.in_list_data r2 r1 pe pd (by omega) ⟨.bl _, H, I, rfl, q⟩
  · obtain ⟨bs, r2⟩ := Dp.reads I _ y u he ry
    exact PySem.SeqAt.in_tuple_data r2 r1 pe pd (by omega) ⟨.bl _, H, I, rfl, q⟩
theorem op_notInP (hu : X.A.units + 64 < cLine) : OpR X (compareOp .NotIn) (rInP X.K true) := by
  intro pins s σ H x y v u Q I rx ry h
  obtain ⟨d, ds, hd, he, pd, pe, dd, q⟩ := h
  obtain ⟨as, r1⟩ := Dp.reads I d x v hd rx
  have hm := Nat.min_le_right (PyData.depthAll ds) d.depth
  rcases he with he | he
  · obtain ⟨bs, r2⟩ := Dp.reads I _ y u he ry
    exact PySem.SeqAt.notIn_list_data r2 r1 pe pd (by omega) ⟨.bl _, H, I, rfl, q⟩
  · obtain ⟨bs, r2⟩ := Dp.reads I _ y u he ry
    exact PySem.SeqAt.notIn_tuple_data r2 r1 pe pd (by omega) ⟨.bl _, H, I, rfl, q⟩
theorem any_py (n : Nat) (x : D) (hx : plainD n x = true) : ∀ ys : List D, plainDs n ys = true → (toPys ys).any (fun y => PyData.eqv y (toPy x)) = ys.any fun y => deq y x
  | [], _ => rfl
  | y :: ys, h => by
    rw [plainDs, Bool.and_eq_true] at h
    rw [toPys, List.any_cons, List.any_cons, deq_py n y x h.1 hx, any_py n x hx ys h.2]
theorem in_rd {neg : Bool} {w : Wd} {H0 H : Hp} {m : Cells} {x y : D} {vx vy : V} {Q : VK} {ys : List D} (Wm : Wf X.K w H m) (rx : RP X.K w H x vx) (ry : RP X.K w H y vy) (hy : y = .lst ys ∨ y = .tup ys) (hc : (plainD 60 x && plainDs 60 ys) = true)
    (q : PR X w H0 H Q (.d (.bl (if neg then !(ys.any fun y => deq y x) else ys.any fun y => deq y x))) m) : rInP X.K neg vx vy H Q := by
  rw [Bool.and_eq_true] at hc
  obtain ⟨p1, d1⟩ := toPy_plain 60 x hc.1
  obtain ⟨p2, _⟩ := toPys_plain 60 ys hc.2
  refine ⟨toPy x, toPys ys, rx.dp Wm hc.1, ?_, p1, p2, d1, ?_⟩
  · rcases hy with rfl | rfl
    · have := ry.dp (n := 61) Wm (by simpa [plainD] using hc.2)
      rw [toPy] at this
      exact .inl this
    · have := ry.dp (n := 61) Wm (by simpa [plainD] using hc.2)
      rw [toPy] at this
      exact .inr this
  · rw [any_py 60 x hc.1 ys hc.2]
    exact q w H _ (.refl _ _) Wm (.bl _)
theorem ops_in (hu : X.A.units + 64 < cLine) : OpS X (compareOp .In) gIn (rInP X.K false) := by
  refine ⟨op_inP hu, fun w H0 H m x y vx vy rv Q Wm rx ry e q => ?_⟩
  unfold gIn at e
  split at e
  · split at e
    · rename_i hc
      cases e
      exact in_rd (neg := false) Wm rx ry (.inl rfl) hc q
    · cases e
  · split at e
    · rename_i hc
      cases e
      exact in_rd (neg := false) Wm rx ry (.inr rfl) hc q
    · cases e
  · cases e
theorem ops_notin (hu : X.A.units + 64 < cLine) : OpS X (compareOp .NotIn) gNotIn (rInP X.K true) := by
  refine ⟨op_notInP hu, fun w H0 H m x y vx vy rv Q Wm rx ry e q => ?_⟩
  unfold gNotIn at e
  split at e
  · split at e
    · rename_i hc
      cases e
      exact in_rd (neg := true) Wm rx ry (.inl rfl) hc q
    · cases e
  · split at e
    · rename_i hc
      cases e
      exact in_rd (neg := true) Wm rx ry (.inr rfl) hc q
    · cases e
  · cases e
end

/-! ### - a -/
def rNeg (a : SemR) : SemR := fun env m => (vl a env m).bind fun x m1 => match x with
  | .int i => .ok (.d (.int (-i))) m1
  | _ => .bot
section
variable {X : Cx} {W : WX} {a : Expr} {fa : SemR} {ta : TE} {pos : Pos}
theorem se_neg (ha : SE X W a fa ta) : SE X W (.UnaryOp .USub a pos) (rNeg fa) (tUn (rU fun i => .int (-i)) ta) := by
  refine ⟨pe_un un_neg ha.pe, fun w H0 σ H env m Q Wm S q => ?_⟩
  refine ha.vl Wm S (WP.mono (WP.of_bind q) (fun x m1 q w1 H1 v1 E1 W1 r1 => ?_) fun _ _ z => z)
  cases x with
  | int i => exact ⟨i, r1.int, q w1 H1 _ E1 W1 (.int _)⟩
  | _ => exact q.elim
end
end Ev
/-! Ev, part D: subscripts, slices, displays, tests, calls of built-ins. -/
namespace Ev
open PySem PySem.Spec L2

/-! ### a[i] -/
theorem RDs.atI {K : PySem.W.Frag} {w : Wd} {xs : List D} {vs : List V} (r : RDs K w xs vs) {i : Int} {x : D} (h : L2.atI xs i = some x) : ∃ v, L2.atI vs i = some v ∧ RD K w x v := by
  unfold L2.atI at h ⊢
  rw [← r.length]
  cases e : ixN xs.length i with
  | none => rw [e] at h; cases h
  | some j =>
    rw [e] at h
    exact r.get h
section
variable {X : Cx} {W : WX} {a b : Expr} {fa fb : SemR} {ta tb : TE} {pos : Pos}
/-- an item: of data, of a cell -/
def itemAt (x k : D) (m : Cells) : Option D := match x, k with
  | .lst xs, .int i => atI xs i
  | .tup xs, .int i => atI xs i
  | .scr xs, .int i => atI xs i
  | .ref n, .int i => match m[n]? with
    | some (.lst xs) => atI xs i
    | none => none
  | _, _ => none
def rIx (a b : SemR) : SemR := fun env m => (vl a env m).bind fun x m1 => (vl b env m1).bind fun k m2 => match itemAt x k m2 with
  | some y => .ok (.d y) m2
  | none => .bot
theorem se_ix (ha : SE X W a fa ta) (hb : SE X W b fb tb) (hs : PlainIx b := by intro _ _; rfl) : SE X W (.Subscript a b pos) (rIx fa fb) (tOp (fun x y H Q => rIxL X.K x y H Q ∨ rIxT X.K x y H Q) ta tb) := by
  refine ⟨pe_ix (ix_list.or ix_tup) ha.pe hb.pe hs, fun w H0 σ H env m Q Wm S q => ?_⟩
  refine ha.vl Wm S (WP.mono (WP.of_bind q) (fun x m1 q w1 H1 v1 E1 W1 r1 => ?_) fun _ _ z => z)
  refine hb.vl W1 (S.ext E1) (WP.mono (WP.of_bind q) (fun y m2 q w2 H2 v2 E2 W2 r2 => ?_) fun x m' z c d w' H' E' W' rx => z c d w' H' (E1.trans E') W' rx)
  cases e : itemAt x y m2 with
  | none => rw [e] at q; exact q.elim
  | some z =>
    rw [e] at q
    have r1 := r1.ext E2
    have q9 : PR X w H0 H Q (.d z) m2 := q
    unfold itemAt at e
    split at e
    · obtain ⟨p, vs, rfl, h1, h2⟩ := r1.lst W2
      obtain ⟨v, h3, h4⟩ := h2.atI e
      exact .inl ⟨p, vs, _, v, rfl, r2.int, .inl (.inl h1), h3, q9 w2 H2 v (E1.trans E2) W2 h4⟩
    · obtain ⟨p, vs, rfl, h1, h2⟩ := r1.tup W2
      obtain ⟨v, h3, h4⟩ := h2.atI e
      exact .inr ⟨p, vs, _, v, rfl, r2.int, h1, h3, q9 w2 H2 v (E1.trans E2) W2 h4⟩
    · obtain ⟨p, vs, rfl, h1, h2⟩ := r1.scr W2
      obtain ⟨v, h3, h4⟩ := h2.atI e
      exact .inl ⟨p, vs, _, v, rfl, r2.int, h1, h3, q9 w2 H2 v (E1.trans E2) W2 h4⟩
    · split at e
      · rename_i xs em
        obtain ⟨p, h0, vs, h1, h2⟩ := W2.cell _ _ em
        obtain ⟨v, h3, h4⟩ := h2.atI e
        rcases r1 with r1 | ⟨_, _, _, z, _⟩
        · cases r1 with
          | ref hr =>
            rw [h0] at hr
            cases hr
            exact .inl ⟨p, vs, _, v, rfl, r2.int, .inl (.inl h1), h3, q9 w2 H2 v (E1.trans E2) W2 h4⟩
        · cases z
      · cases e
    · cases e
end

/-! ### a[i:j] -/
def cutD {α : Type} (xs : List α) (lo hi : Option Int) : List α := (xs.drop (HT.sIx xs.length 0 lo)).take (HT.sIx xs.length xs.length hi - HT.sIx xs.length 0 lo)
theorem RDs.cut {K : PySem.W.Frag} {w : Wd} {xs : List D} {vs : List V} (r : RDs K w xs vs) (lo hi : Option Int) : RDs K w (cutD xs lo hi) (cutV vs lo hi) := by
  unfold cutD cutV
  rw [← r.length]
  exact (r.drop _).take _
abbrev SemO := Env → Cells → Res (Option Int)
def oNo : SemO := fun _ m => .ok none m
def oSome (f : SemR) : SemO := fun env m => (vl f env m).bind fun x m1 => match x with
  | .int i => .ok (some i) m1
  | _ => .bot
structure SOp (X : Cx) (W : WX) (e : Option Expr) (f : SemO) (t : TO) : Prop where
  po : PO X e t
  rd : ∀ w H0 σ H env m (Q : Option Int → Hp → Prop), Wf X.K w H m → Slots X.K w H0 σ H env → WP (f env m) (fun b m' => ∀ w' H', Ext w H w' H' → Wf X.K w' H' m' → Q b H') (PX X W w H σ) → t σ H Q
def rSlice (a : SemR) (lo hi : SemO) : SemR := fun env m => (vl a env m).bind fun x m1 => (lo env m1).bind fun l m2 => (hi env m2).bind fun h m3 => match x with
  | .lst xs => .ok (.fl (cutD xs l h)) m3
  | .tup xs => .ok (.d (.tup (cutD xs l h))) m3
  | _ => .bot
theorem cut_whole {α : Type} {xs : List α} {lo hi : Option Int} (h : HT.sIx xs.length 0 lo = 0 ∧ HT.sIx xs.length xs.length hi = xs.length) : cutD xs lo hi = xs := by
  unfold cutD
  rw [h.1, h.2, List.drop_zero, Nat.sub_zero, List.take_length]
section
variable {X : Cx} {W : WX} {a : Expr} {fa : SemR} {ta : TE} {pos p2 : Pos}
theorem so_none : SOp X W none oNo tNoPart := ⟨po_none, fun w H0 σ H env m Q Wm S q => q w H (.refl _ _) Wm⟩
theorem so_some (ha : SE X W a fa ta) : SOp X W (some a) (oSome fa) (tPart ta) := by
  refine ⟨po_some ha.pe, fun w H0 σ H env m Q Wm S q => ?_⟩
  refine ha.vl Wm S (WP.mono (WP.of_bind q) (fun x m1 q w1 H1 v1 E1 W1 r1 => ?_) fun _ _ z => z)
  cases x with
  | int i => exact ⟨i, r1.int, q w1 H1 E1 W1⟩
  | _ => exact q.elim
theorem se_slice {lo hi : Option Expr} {fl fh : SemO} {tl th : TO} (ha : SE X W a fa ta) (hl : SOp X W lo fl tl) (hh : SOp X W hi fh th) :
    SE X W (.Subscript a (.Slice lo hi none p2) pos) (rSlice fa fl fh) (tSl (fun x l h H Q => rSlL X.K x l h H Q ∨ rSlA X.K x l h H Q) ta tl th) := by
  refine ⟨pe_slice (sl_list.or sl_tupA) ha.pe hl.po hh.po, fun w H0 σ H env m Q Wm S q => ?_⟩
  refine ha.vl Wm S (WP.mono (WP.of_bind q) (fun x m1 q w1 H1 v1 E1 W1 r1 => ?_) fun _ _ z => z)
  refine hl.rd w1 H0 σ H1 env m1 _ W1 (S.ext E1) (WP.mono (WP.of_bind q) (fun l m2 q w2 H2 E2 W2 => ?_) fun x m' z c d w' H' E' W' rx => z c d w' H' (E1.trans E') W' rx)
  refine hh.rd w2 H0 σ H2 env m2 _ W2 (S.ext (E1.trans E2)) (WP.mono (WP.of_bind q) (fun h m3 q w3 H3 E3 W3 => ?_) fun x m' z c d w' H' E' W' rx => z c d w' H' ((E1.trans E2).trans E') W' rx)
  have E := (E1.trans E2).trans E3
  have r1 := r1.ext (E2.trans E3)
  have q' : ∀ {rv : RV}, WP (.ok rv m3 : Res RV) (PR X w H0 H Q) (PX X W w H σ) → PR X w3 H0 H3 Q rv m3 := fun z w' H' v E' W' rr => z w' H' v (E.trans E') W' (rr.after E)
  cases x with
  | lst xs =>
    obtain ⟨p, vs, rfl, h1, h2⟩ := r1.lst W3
    exact .inl ⟨p, vs, rfl, .inl (.inl h1), fun p hp => new_lst W3 hp (h2.cut l h) (q' q)⟩
  | tup xs =>
    have rd := r1.rd_tup
    obtain ⟨p, vs, rfl, h1, h2⟩ := r1.tup W3
    refine .inr ⟨p, vs, rfl, h1, fun hw => ?_, fun _ p hp => new_tup W3 hp (h2.cut l h) (q' q)⟩
    have e : cutD xs l h = xs := cut_whole (by rw [h2.length]; exact hw)
    have q := q' q
    rw [e] at q
    exact q w3 H3 _ (.refl _ _) W3 rd
  | _ => exact q.elim
/-- a[::-1] -/
def rRev (a : SemR) : SemR := fun env m => (vl a env m).bind fun x m1 => match x with
  | .lst xs => .ok (.fl xs.reverse) m1
  | _ => .bot
end

/-! ### argument lists -/
def aNil : SemDs := fun _ m => .ok [] m
def aCons (f : SemR) (g : SemDs) : SemDs := fun env m => (fz f env m).bind fun x m1 => (g env m1).bind fun xs m2 => .ok (x :: xs) m2
/-- the same, read only -/
def pCons (f : SemR) (g : SemDs) : SemDs := fun env m => (vl f env m).bind fun x m1 => (g env m1).bind fun xs m2 => .ok (x :: xs) m2
inductive RPs (K : PySem.W.Frag) (w : Wd) (H : Hp) : List D → List V → Prop
  | nil : RPs K w H [] []
  | cons {x : D} {v : V} {xs : List D} {vs : List V} : RP K w H x v → RPs K w H xs vs → RPs K w H (x :: xs) (v :: vs)
theorem RPs.one {K : PySem.W.Frag} {w : Wd} {H : Hp} {x : D} {vs : List V} (r : RPs K w H [x] vs) : ∃ v, vs = [v] ∧ RP K w H x v := by
  cases r with
  | cons a b =>
    cases b
    exact ⟨_, rfl, a⟩
theorem RPs.two {K : PySem.W.Frag} {w : Wd} {H : Hp} {x y : D} {vs : List V} (r : RPs K w H [x, y] vs) : ∃ v u, vs = [v, u] ∧ RP K w H x v ∧ RP K w H y u := by
  cases r with
  | cons a b =>
    obtain ⟨u, rfl, r⟩ := b.one
    exact ⟨_, _, rfl, a, r⟩
structure SAp (X : Cx) (W : WX) (es : List Expr) (f : SemDs) (t : TA) : Prop where
  pa : PA X es t
  rd : ∀ w H0 σ H env m (Q : List V → Hp → Prop), Wf X.K w H m → Slots X.K w H0 σ H env → WP (f env m) (fun xs m' => ∀ w' H' vs, Ext w H w' H' → Wf X.K w' H' m' → RPs X.K w' H' xs vs → Q vs H') (PX X W w H σ) → t σ H Q
section
variable {X : Cx} {W : WX} {e : Expr} {es : List Expr} {f : SemR} {g : SemDs} {t : TE} {u : TA}
theorem sa_nil : SAt X W [] aNil tNil := ⟨pa_nil, fun w H0 σ H env m Q Wm S q => q w H [] (.refl _ _) Wm .nil⟩
theorem sp_nil : SAp X W [] aNil tNil := ⟨pa_nil, fun w H0 σ H env m Q Wm S q => q w H [] (.refl _ _) Wm .nil⟩
theorem sa_cons (h : SE X W e f t) (hr : SAt X W es g u) (hs : starEach (e :: es) X.env = (false, eval e X.env) :: starEach es X.env := by rfl) : SAt X W (e :: es) (aCons f g) (tCons t u) := by
  refine ⟨pa_cons h.pe hr.pa hs, fun w H0 σ H env m Q Wm S q => ?_⟩
  refine h.fz Wm S (WP.mono (WP.of_bind q) (fun x m1 q w1 H1 v1 E1 W1 r1 => ?_) fun _ _ z => z)
  refine hr.rd w1 H0 σ H1 env m1 _ W1 (S.ext E1) (WP.mono (WP.of_bind q) (fun xs m2 q w2 H2 vs E2 W2 r2 => ?_) fun x m' z c d w' H' E' W' rx => z c d w' H' (E1.trans E') W' rx)
  exact q w2 H2 _ (E1.trans E2) W2 (.cons (r1.le E2.le) r2)
theorem sp_cons (h : SE X W e f t) (hr : SAp X W es g u) (hs : starEach (e :: es) X.env = (false, eval e X.env) :: starEach es X.env := by rfl) : SAp X W (e :: es) (pCons f g) (tCons t u) := by
  refine ⟨pa_cons h.pe hr.pa hs, fun w H0 σ H env m Q Wm S q => ?_⟩
  refine h.vl Wm S (WP.mono (WP.of_bind q) (fun x m1 q w1 H1 v1 E1 W1 r1 => ?_) fun _ _ z => z)
  refine hr.rd w1 H0 σ H1 env m1 _ W1 (S.ext E1) (WP.mono (WP.of_bind q) (fun xs m2 q w2 H2 vs E2 W2 r2 => ?_) fun x m' z c d w' H' E' W' rx => z c d w' H' (E1.trans E') W' rx)
  exact q w2 H2 _ (E1.trans E2) W2 (.cons (r1.ext E2) r2)

/-! ### displays -/
def rTup (g : SemDs) : SemR := fun env m => (g env m).bind fun xs m1 => if xs.length ≤ LN then .ok (.d (.tup xs)) m1 else .bot
def rLst (g : SemDs) : SemR := fun env m => (g env m).bind fun xs m1 => if xs.length ≤ LN then .ok (.fl xs) m1 else .bot
variable {pos : Pos}
theorem se_tup {k} (h : SAt X W es g u) : SE X W (.Tuple es k pos) (rTup g) (tTup u) := by
  refine ⟨pe_tup h.pa, fun w H0 σ H env m Q Wm S q => ?_⟩
  refine h.rd w H0 σ H env m _ Wm S (WP.mono (WP.of_bind q) (fun xs m1 q w1 H1 vs E1 W1 r1 => ?_) fun _ _ z => z)
  split at q
  · rename_i hl
    refine ⟨by rw [← r1.length]; exact ln_line hl, fun p hp => new_tup (H0 := H0) W1 hp r1 fun w' H' v E' W' rr => q w' H' v (E1.trans E') W' rr⟩
  · exact q.elim
theorem se_lst (h : SAt X W es g u) : SE X W (.List es pos) (rLst g) (tLst u) := by
  refine ⟨pe_lst h.pa, fun w H0 σ H env m Q Wm S q => ?_⟩
  refine h.rd w H0 σ H env m _ Wm S (WP.mono (WP.of_bind q) (fun xs m1 q w1 H1 vs E1 W1 r1 => ?_) fun _ _ z => z)
  split at q
  · rename_i hl
    refine ⟨by rw [← r1.length]; exact ln_line hl, fun p hp => new_lst (H0 := H0) W1 hp r1 fun w' H' v E' W' rr => q w' H' v (E1.trans E') W' (rr.after E1)⟩
  · exact q.elim
end

/-- {} -/
def rDict0 : SemR := fun _ m => .ok (.d (.dct [] [])) m
theorem se_dict0 {X : Cx} {W : WX} {pos : Pos} : SE X W (.Dict [] [] pos) rDict0 (fun σ H Q => ∀ d, H d = none → Q (.ref d) (upd H d (.dK []))) := by
  refine ⟨pe_dnewK, fun w H0 σ H env m Q Wm S q d hd => ?_⟩
  obtain ⟨E, W2, L, f⟩ := new_known (X := X) (o := .dK []) Wm hd
  exact q _ _ _ E W2 (.dct0 f)

/-! ### truth -/
def truth : D → Option Bool
  | .non => some false
  | .bl b => some b
  | .int i => some (i != 0)
  | .str x => if x.length ≤ LN then some ((x.length : Int) != 0) else none
  | .tup xs => some !xs.isEmpty
  | .lst xs => some !xs.isEmpty
  | .scr xs => some !xs.isEmpty
  | _ => none
theorem RDs.isEmpty {K : PySem.W.Frag} {w : Wd} {xs : List D} {vs : List V} (r : RDs K w xs vs) : xs.isEmpty = vs.isEmpty := by cases r <;> rfl
theorem RP.truth {K : PySem.W.Frag} {w : Wd} {H : Hp} {m : Cells} {x : D} {v : V} {b : Bool} (Wm : Wf K w H m) (r : RP K w H x v) (h : Ev.truth x = some b) : TruV K v H b := by
  cases x with
  | non => cases h; rw [r.non]; rfl
  | bl c => cases h; rw [r.bl]; rfl
  | int i => cases h; rw [r.int]; rfl
  | str y =>
    simp only [Ev.truth] at h
    split at h
    · rename_i hl
      cases h
      rw [r.str]
      exact ⟨ln_line hl, rfl⟩
    · cases h
  | tup xs =>
    cases h
    obtain ⟨a, vs, rfl, h1, h2⟩ := r.tup Wm
    exact .inr (.inl ⟨vs, h1, by rw [h2.isEmpty]⟩)
  | lst xs =>
    cases h
    obtain ⟨a, vs, rfl, h1, h2⟩ := r.lst Wm
    exact .inl ⟨vs, .inl (.inl h1), by rw [h2.isEmpty]⟩
  | scr xs =>
    cases h
    obtain ⟨a, vs, rfl, h1, h2⟩ := r.scr Wm
    exact .inl ⟨vs, h1, by rw [h2.isEmpty]⟩
  | _ => cases h
def bTruth (f : SemR) : SemB := fun env m => (vl f env m).bind fun x m1 => match truth x with
  | some b => .ok b m1
  | none => .bot
/-- a value that is a truth value -/
def bBool (f : SemR) : SemB := fun env m => (f env m).bind fun x m1 => match x with
  | .d (.bl b) => .ok b m1
  | _ => .bot
def bAnd (f g : SemB) : SemB := fun env m => (f env m).bind fun b m1 => if b = true then g env m1 else .ok false m1
def bOr (f g : SemB) : SemB := fun env m => (f env m).bind fun b m1 => if b = true then .ok true m1 else g env m1
def bNot (f : SemB) : SemB := fun env m => (f env m).bind fun b m1 => .ok (!b) m1
structure STw (X : Cx) (W : WX) (e : Expr) (f : SemB) (t : TT) : Prop where
  pw : PW X e t
  rd : ∀ w H0 σ H env m (Q : Bool → Hp → Prop), Wf X.K w H m → Slots X.K w H0 σ H env → WP (f env m) (fun b m' => ∀ w' H', Ext w H w' H' → Wf X.K w' H' m' → Q b H') (PX X W w H σ) → t σ H Q
section
variable {X : Cx} {W : WX} {a b c : Expr} {fa fb fc : SemR} {ta tb tc : TE} {pos : Pos}
theorem st_truth (ha : SE X W a fa ta) (he : ∀ whole, isTrue a X.env whole = (do let v ← whole; standAt a.pos; holding [v] (truthy v)) := by intro _; rfl) :
    STt X W a (bTruth fa) (fun σ H Q => ta σ H fun x H' => ∃ k, TruV X.K x H' k ∧ Q k H') := by
  refine ⟨pt_truth ha.pe he, fun w H0 σ H env m Q Wm S q => ?_⟩
  refine ha.vl Wm S (WP.mono (WP.of_bind q) (fun x m1 q w1 H1 v1 E1 W1 r1 => ?_) fun _ _ z => z)
  cases e : truth x with
  | none => rw [e] at q; exact q.elim
  | some k =>
    rw [e] at q
    exact ⟨k, r1.truth W1 e, q w1 H1 E1 W1⟩
/-- what gives a truth value, behind a rule for its value -/
theorem test_rd {f : SemR} {t : TE} (h : ∀ w H0 σ H env m Q, Wf X.K w H m → Slots X.K w H0 σ H env → WP (f env m) (PR X w H0 H Q) (PX X W w H σ) → t σ H Q) (w H0 σ H env m) (Q : Bool → Hp → Prop) (Wm : Wf X.K w H m) (S : Slots X.K w H0 σ H env)
    (q : WP (bBool f env m) (fun b m' => ∀ w' H', Ext w H w' H' → Wf X.K w' H' m' → Q b H') (PX X W w H σ)) : tTest t σ H Q := by
  refine h w H0 σ H env m _ Wm S (WP.mono (WP.of_bind q) (fun rv m1 q w1 H1 v1 E1 W1 r1 => ?_) fun _ _ z => z)
  split at q
  · rename_i k
    have r1 : RD X.K w1 (.bl k) v1 := r1
    cases r1
    exact ⟨k, rfl, q w1 H1 E1 W1⟩
  · exact q.elim
theorem st_cmp {op : CmpOp} {g : D → D → Option RV} {r : R2} (ho : OpS X (compareOp op) g r) (ha : SE X W a fa ta) (hb : SE X W b fb tb) (hm : behindInMarks op b = false := by first | exact nomark _ | rfl) :
    STt X W (.Compare a [op] [b] pos) (bBool (rBin g fa fb)) (tTest (tOp r ta tb)) :=
  ⟨pt_cmpR ho.op ha.pe hb.pe hm, fun w H0 σ H env m Q Wm S q => test_rd (fun _ _ _ _ _ _ _ Wm S q => bin_rd ho ha hb Wm S q) w H0 σ H env m Q Wm S q⟩
/-- a op b op' c -/
def rChain (g g' : D → D → Option RV) (a b c : SemR) : SemR := fun env m => (vl a env m).bind fun x m1 => (vl b env m1).bind fun y m2 => match g x y with
  | some (.d (.bl true)) => (vl c env m2).bind fun z m3 => match g' y z with
    | some rv => .ok rv m3
    | none => .bot
  | some (.d (.bl false)) => .ok (.d (.bl false)) m2
  | _ => .bot
end
end Ev
/-! Ev, part E: chains, and/or/not, a if t else b, calls of built-ins. -/
namespace Ev
open PySem PySem.Spec L2
section
variable {X : Cx} {W : WX} {a b c : Expr} {fa fb fc : SemR} {ta tb tc : TE} {pos : Pos}
theorem chain_rd {F F' : Value → Value → Sem Value} {g g' : D → D → Option RV} {r r' : R2} (ho : OpS X F g r) (ho' : OpS X F' g' r') (ha : SE X W a fa ta) (hb : SE X W b fb tb) (hc : SE X W c fc tc) (w H0 σ H env m) (Q : VK) (Wm : Wf X.K w H m) (S : Slots X.K w H0 σ H env)
    (q : WP (rChain g g' fa fb fc env m) (PR X w H0 H Q) (PX X W w H σ)) : tChain r r' ta tb tc σ H Q := by
  refine ha.vl Wm S (WP.mono (WP.of_bind q) (fun x m1 q w1 H1 v1 E1 W1 r1 => ?_) fun _ _ z => z)
  refine hb.vl W1 (S.ext E1) (WP.mono (WP.of_bind q) (fun y m2 q w2 H2 v2 E2 W2 r2 => ?_) fun x m' z c d w' H' E' W' rx => z c d w' H' (E1.trans E') W' rx)
  split at q
  · rename_i e
    refine ho.rd w2 H0 H2 m2 x y v1 v2 _ _ W2 (r1.ext E2) r2 e fun w3 H3 v3 E3 W3 rr => ?_
    have rr : RD X.K w3 (.bl true) v3 := rr
    cases rr
    refine ⟨true, rfl, ?_⟩
    rw [if_pos rfl]
    have E13 := (E1.trans E2).trans E3
    refine hc.vl W3 (S.ext E13) (WP.mono (WP.of_bind q) (fun z m4 q w4 H4 v4 E4 W4 r4 => ?_) fun x m' z c d w' H' E' W' rx => z c d w' H' (E13.trans E') W' rx)
    cases e' : g' y z with
    | none => rw [e'] at q; exact q.elim
    | some rv =>
      rw [e'] at q
      exact ho'.rd w4 H0 H4 m4 y z v2 v4 rv Q W4 (r2.ext (E3.trans E4)) r4 e' fun w' H' v E' W' rr => q w' H' v ((E13.trans E4).trans E') W' (rr.after (E13.trans E4))
  · rename_i e
    refine ho.rd w2 H0 H2 m2 x y v1 v2 _ _ W2 (r1.ext E2) r2 e fun w3 H3 v3 E3 W3 rr => ?_
    have rr : RD X.K w3 (.bl false) v3 := rr
    cases rr
    refine ⟨false, rfl, ?_⟩
    rw [if_neg Bool.false_ne_true]
    exact q w3 H3 _ ((E1.trans E2).trans E3) W3 (.bl false)
  · exact q.elim
theorem se_chain {op op' : CmpOp} {g g' : D → D → Option RV} {r r' : R2} (ho : OpS X (compareOp op) g r) (ho' : OpS X (compareOp op') g' r') (ha : SE X W a fa ta) (hb : SE X W b fb tb) (hc : SE X W c fc tc)
    (hm : lastMarks [op, op'] [b, c] = false := by with_unfolding_all rfl) : SE X W (.Compare a [op, op'] [b, c] pos) (rChain g g' fa fb fc) (tChain r r' ta tb tc) :=
  ⟨pe_chain ho.op ho'.op ha.pe hb.pe hc.pe hm, fun w H0 σ H env m Q Wm S q => chain_rd ho ho' ha hb hc w H0 σ H env m Q Wm S q⟩
theorem st_chain {op op' : CmpOp} {g g' : D → D → Option RV} {r r' : R2} (ho : OpS X (compareOp op) g r) (ho' : OpS X (compareOp op') g' r') (ha : SE X W a fa ta) (hb : SE X W b fb tb) (hc : SE X W c fc tc)
    (hm : lastMarks [op, op'] [b, c] = false := by with_unfolding_all rfl) : STt X W (.Compare a [op, op'] [b, c] pos) (bBool (rChain g g' fa fb fc)) (tTest (tChain r r' ta tb tc)) :=
  ⟨pt_chain ho.op ho'.op ha.pe hb.pe hc.pe hm, fun w H0 σ H env m Q Wm S q => test_rd (chain_rd ho ho' ha hb hc) w H0 σ H env m Q Wm S q⟩

/-! tests -/
variable {f g : SemB} {t u : TT} {rest : List Expr}
theorem STw.st (h : STw X W a f t) : STt X W a f t := ⟨h.pw.pt, h.rd⟩
theorem st_not (h : STt X W a f t) : STt X W (.UnaryOp .Not a pos) (bNot f) (tNot t) := by
  refine ⟨pt_not h.pt, fun w H0 σ H env m Q Wm S q => ?_⟩
  exact h.rd w H0 σ H env m _ Wm S (WP.mono (WP.of_bind q) (fun b m1 q w1 H1 E1 W1 => q w1 H1 E1 W1) fun _ _ z => z)
theorem sw_and1 (h : STt X W a f t) : STw X W (.BoolOp .And [a] pos) f t := ⟨pw_and1 h.pt, h.rd⟩
theorem sw_or1 (h : STt X W a f t) : STw X W (.BoolOp .Or [a] pos) f t := ⟨pw_or1 h.pt, h.rd⟩
theorem sw_and (h : STt X W a f t) (h2 : STw X W (.BoolOp .And (b :: rest) pos) g u) : STw X W (.BoolOp .And (a :: b :: rest) pos) (bAnd f g) (tAnd t u) := by
  refine ⟨pw_and h.pt h2.pw, fun w H0 σ H env m Q Wm S q => ?_⟩
  refine h.rd w H0 σ H env m _ Wm S (WP.mono (WP.of_bind q) (fun b m1 q w1 H1 E1 W1 => ?_) fun _ _ z => z)
  cases b with
  | true =>
    rw [if_pos rfl] at q ⊢
    exact h2.rd w1 H0 σ H1 env m1 Q W1 (S.ext E1) (WP.mono q (fun b m' z w' H' E' W' => z w' H' (E1.trans E') W') fun x m' z c d w' H' E' W' rx => z c d w' H' (E1.trans E') W' rx)
  | false =>
    rw [if_neg Bool.false_ne_true] at q ⊢
    exact q w1 H1 E1 W1
theorem sw_or (h : STt X W a f t) (h2 : STw X W (.BoolOp .Or (b :: rest) pos) g u) : STw X W (.BoolOp .Or (a :: b :: rest) pos) (bOr f g) (tOr t u) := by
  refine ⟨pw_or h.pt h2.pw, fun w H0 σ H env m Q Wm S q => ?_⟩
  refine h.rd w H0 σ H env m _ Wm S (WP.mono (WP.of_bind q) (fun b m1 q w1 H1 E1 W1 => ?_) fun _ _ z => z)
  cases b with
  | false =>
    rw [if_neg Bool.false_ne_true] at q ⊢
    exact h2.rd w1 H0 σ H1 env m1 Q W1 (S.ext E1) (WP.mono q (fun b m' z w' H' E' W' => z w' H' (E1.trans E') W') fun x m' z c d w' H' E' W' rx => z c d w' H' (E1.trans E') W' rx)
  | true =>
    rw [if_pos rfl] at q ⊢
    exact q w1 H1 E1 W1

/-! as values -/
/-- a value by its truth, else the next one's -/
def rAnd (f g : SemR) : SemR := fun env m => (fz f env m).bind fun x m1 => match truth x with
  | some true => g env m1
  | some false => .ok (.d x) m1
  | none => .bot
def rOr (f g : SemR) : SemR := fun env m => (fz f env m).bind fun x m1 => match truth x with
  | some true => .ok (.d x) m1
  | some false => g env m1
  | none => .bot
def rNot (f : SemR) : SemR := fun env m => (vl f env m).bind fun x m1 => match truth x with
  | some b => .ok (.d (.bl (!b))) m1
  | none => .bot
def rIf (t : SemB) (f g : SemR) : SemR := fun env m => (t env m).bind fun b m1 => if b = true then f env m1 else g env m1
theorem se_one {op} (h : SE X W a fa ta) : SE X W (.BoolOp op [a] pos) fa ta := ⟨pe_one h.pe, h.rd⟩
theorem WP.after {w w1 : Wd} {H0 H H1 : Hp} {σ : St} {Q : VK} {r : Res RV} (E1 : Ext w H w1 H1) (q : WP r (PR X w H0 H Q) (PX X W w H σ)) : WP r (PR X w1 H0 H1 Q) (PX X W w1 H1 σ) :=
  WP.mono q (fun rv m' z w' H' v E' W' rr => z w' H' v (E1.trans E') W' (rr.after E1)) fun x m' z c d w' H' E' W' rx => z c d w' H' (E1.trans E') W' rx
theorem se_and (ha : SE X W a fa ta) (hb : SE X W (.BoolOp .And (b :: rest) pos) fb tb) : SE X W (.BoolOp .And (a :: b :: rest) pos) (rAnd fa fb) (tAndT X.K ta tb) := by
  refine ⟨pe_andT ha.pe hb.pe, fun w H0 σ H env m Q Wm S q => ?_⟩
  refine ha.fz Wm S (WP.mono (WP.of_bind q) (fun x m1 q w1 H1 v1 E1 W1 r1 => ?_) fun _ _ z => z)
  have r2 : RP X.K w1 H1 x v1 := .inl r1
  split at q
  · rename_i e
    refine ⟨true, r2.truth W1 e, ?_⟩
    rw [if_pos rfl]
    exact hb.rd w1 H0 σ H1 env m1 Q W1 (S.ext E1) (WP.after E1 q)
  · rename_i e
    refine ⟨false, r2.truth W1 e, ?_⟩
    rw [if_neg Bool.false_ne_true]
    exact q w1 H1 v1 E1 W1 r1
  · exact q.elim
theorem se_or (ha : SE X W a fa ta) (hb : SE X W (.BoolOp .Or (b :: rest) pos) fb tb) : SE X W (.BoolOp .Or (a :: b :: rest) pos) (rOr fa fb) (tOrT X.K ta tb) := by
  refine ⟨pe_orT ha.pe hb.pe, fun w H0 σ H env m Q Wm S q => ?_⟩
  refine ha.fz Wm S (WP.mono (WP.of_bind q) (fun x m1 q w1 H1 v1 E1 W1 r1 => ?_) fun _ _ z => z)
  have r2 : RP X.K w1 H1 x v1 := .inl r1
  split at q
  · rename_i e
    refine ⟨true, r2.truth W1 e, ?_⟩
    rw [if_pos rfl]
    exact q w1 H1 v1 E1 W1 r1
  · rename_i e
    refine ⟨false, r2.truth W1 e, ?_⟩
    rw [if_neg Bool.false_ne_true]
    exact hb.rd w1 H0 σ H1 env m1 Q W1 (S.ext E1) (WP.after E1 q)
  · exact q.elim
theorem se_not (ha : SE X W a fa ta) : SE X W (.UnaryOp .Not a pos) (rNot fa) (tNotT X.K ta) := by
  refine ⟨pe_notT ha.pe, fun w H0 σ H env m Q Wm S q => ?_⟩
  refine ha.vl Wm S (WP.mono (WP.of_bind q) (fun x m1 q w1 H1 v1 E1 W1 r1 => ?_) fun _ _ z => z)
  split at q
  · rename_i k e
    exact ⟨k, r1.truth W1 e, q w1 H1 _ E1 W1 (.bl _)⟩
  · exact q.elim
theorem se_if (hc : STt X W c f t) (ha : SE X W a fa ta) (hb : SE X W b fb tb) : SE X W (.IfExp c a b pos) (rIf f fa fb) (tIf t ta tb) := by
  refine ⟨pe_ifExp hc.pt ha.pe hb.pe, fun w H0 σ H env m Q Wm S q => ?_⟩
  refine hc.rd w H0 σ H env m _ Wm S (WP.mono (WP.of_bind q) (fun k m1 q w1 H1 E1 W1 => ?_) fun _ _ z => z)
  cases k with
  | true =>
    rw [if_pos rfl] at q ⊢
    exact ha.rd w1 H0 σ H1 env m1 Q W1 (S.ext E1) (WP.after E1 q)
  | false =>
    rw [if_neg Bool.false_ne_true] at q ⊢
    exact hb.rd w1 H0 σ H1 env m1 Q W1 (S.ext E1) (WP.after E1 q)
end

/-! ### calls of built-ins by values -/
structure CallS (X : Cx) (F : Value) (g : List D → Option RV) (r : List V → Hp → VK → Prop) : Prop where
  op : CallR X F r
  rd : ∀ w H0 H m xs vs rv (Q : VK), Wf X.K w H m → RPs X.K w H xs vs → g xs = some rv → PR X w H0 H Q rv m → r vs H Q
def rCB (g : List D → Option RV) (as : SemDs) : SemR := fun env m => (as env m).bind fun xs m1 => match g xs with
  | some rv => .ok rv m1
  | none => .bot
section
variable {X : Cx} {W : WX} {e : Expr} {es : List Expr} {as : SemDs} {t : TA} {g : List D → Option RV} {r : List V → Hp → VK → Prop} {id : String} {x : Str} {p pos : Pos}
theorem cb_rd {F : Value} (hc : CallS X F g r) (ha : SAp X W es as t) (w H0 σ H env m) (Q : VK) (Wm : Wf X.K w H m) (S : Slots X.K w H0 σ H env) (q : WP (rCB g as env m) (PR X w H0 H Q) (PX X W w H σ)) : tCB r t σ H Q := by
  refine ha.rd w H0 σ H env m _ Wm S (WP.mono (WP.of_bind q) (fun xs m1 q w1 H1 vs E1 W1 r1 => ?_) fun _ _ z => z)
  split at q
  · rename_i rv e
    exact hc.rd w1 H0 H1 m1 xs vs rv Q W1 r1 e fun w' H' v E' W' rr => q w' H' v (E1.trans E') W' (rr.after E1)
  · exact q.elim
theorem se_callB (hc : CallS X (.builtin id) g r) (hm : X.mg x = none) (ha : SAp X W (e :: es) as t) (hg : Gl X x := by rfl) (hv : bootBuiltins x = some (.builtin id) := by decide +kernel) (hn : x ≠ "__name__" := by decide) (hdb : (x == ("__debug__" : Str)) = false := by decide)
    (he : starEach (e :: es) X.env = (false, eval e X.env) :: starEach es X.env := by rfl) (hpl : (backTo pos (starEach es X.env)).any (·.1) = false := by rfl) : SE X W (.Call (.Name x p) (e :: es) [] pos) (rCB g as) (tCB r t) :=
  ⟨pe_callB hc.op hg hm hv ha.pa hn hdb he hpl, cb_rd hc ha⟩
theorem se_callTy (hc : CallS X (.type id) g r) (hm : X.mg x = none) (ha : SAp X W (e :: es) as t) (hg : Gl X x := by rfl) (hv : bootBuiltins x = some (.type id) := by decide +kernel) (hn : x ≠ "__name__" := by decide) (hdb : (x == ("__debug__" : Str)) = false := by decide)
    (he : starEach (e :: es) X.env = (false, eval e X.env) :: starEach es X.env := by rfl) (hpl : (backTo pos (starEach es X.env)).any (·.1) = false := by rfl) : SE X W (.Call (.Name x p) (e :: es) [] pos) (rCB g as) (tCB r t) :=
  ⟨pe_callTy hc.op hg hm hv ha.pa hn hdb he hpl, cb_rd hc ha⟩
end
def gLen : List D → Option RV
  | [.lst xs] | [.tup xs] | [.scr xs] => some (.d (.int xs.length))
  | [.str x] => if x.length ≤ LN then some (.d (.int x.length)) else none
  | _ => none
def gAbs : List D → Option RV
  | [.int i] => some (.d (.int (if i < 0 then -i else i)))
  | _ => none
def gInt : List D → Option RV
  | [.int i] => some (.d (.int i))
  | [.bl b] => some (.d (.int (if b then 1 else 0)))
  | _ => none
def intsOf : List D → Option (List Int)
  | [] => some []
  | .int i :: xs => (intsOf xs).map (i :: ·)
  | _ => none
def blsOf : List D → Option (List Bool)
  | [] => some []
  | .bl i :: xs => (blsOf xs).map (i :: ·)
  | _ => none
theorem intsOf_eq : ∀ {xs : List D} {ns : List Int}, intsOf xs = some ns → xs = ns.map D.int
  | [], _, h => by cases h; rfl
  | x :: xs, ns, h => by
    cases x with
    | int i =>
      obtain ⟨ms, h1, rfl⟩ := Option.map_eq_some_iff.mp h
      rw [intsOf_eq h1]; rfl
    | _ => cases h
theorem blsOf_eq : ∀ {xs : List D} {ns : List Bool}, blsOf xs = some ns → xs = ns.map D.bl
  | [], _, h => by cases h; rfl
  | x :: xs, ns, h => by
    cases x with
    | bl i =>
      obtain ⟨ms, h1, rfl⟩ := Option.map_eq_some_iff.mp h
      rw [blsOf_eq h1]; rfl
    | _ => cases h
theorem intsOf_map : ∀ ns : List Int, intsOf (ns.map D.int) = some ns
  | [] => rfl
  | n :: ns => by rw [List.map_cons, intsOf, intsOf_map ns]; rfl
theorem blsOf_map : ∀ ns : List Bool, blsOf (ns.map D.bl) = some ns
  | [] => rfl
  | n :: ns => by rw [List.map_cons, blsOf, blsOf_map ns]; rfl
def maxI : List Int → Int
  | [] => 0
  | [x] => x
  | x :: y :: xs => max x (maxI (y :: xs))
def minI : List Int → Int
  | [] => 0
  | [x] => x
  | x :: y :: xs => min x (minI (y :: xs))
theorem maxI_spec : ∀ {ns : List Int}, ns ≠ [] → maxI ns ∈ ns ∧ ∀ y ∈ ns, y ≤ maxI ns
  | [], h => absurd rfl h
  | [x], _ => by simp [maxI]
  | x :: y :: xs, _ => by
    obtain ⟨h1, h2⟩ := maxI_spec (ns := y :: xs) (by simp)
    rw [maxI]
    refine ⟨?_, fun z hz => ?_⟩
    · rw [Int.max_def]
      split
      · exact List.mem_cons_of_mem _ h1
      · exact List.mem_cons_self
    · rcases List.mem_cons.mp hz with rfl | hz
      · exact Int.le_max_left _ _
      · exact Int.le_trans (h2 z hz) (Int.le_max_right _ _)
theorem minI_spec : ∀ {ns : List Int}, ns ≠ [] → minI ns ∈ ns ∧ ∀ y ∈ ns, minI ns ≤ y
  | [], h => absurd rfl h
  | [x], _ => by simp [minI]
  | x :: y :: xs, _ => by
    obtain ⟨h1, h2⟩ := minI_spec (ns := y :: xs) (by simp)
    rw [minI]
    refine ⟨?_, fun z hz => ?_⟩
    · rw [Int.min_def]
      split
      · exact List.mem_cons_self
      · exact List.mem_cons_of_mem _ h1
    · rcases List.mem_cons.mp hz with rfl | hz
      · exact Int.min_le_left _ _
      · exact Int.le_trans (Int.min_le_right _ _) (h2 z hz)
def gMax : List D → Option RV
  | [.int i, .int j] => some (.d (.int (if j > i then j else i)))
  | [.lst xs] => match intsOf xs with
    | some (n :: ns) => some (.d (.int (maxI (n :: ns))))
    | _ => none
  | _ => none
def gMin : List D → Option RV
  | [.int i, .int j] => some (.d (.int (if j < i then j else i)))
  | [.lst xs] => match intsOf xs with
    | some (n :: ns) => some (.d (.int (minI (n :: ns))))
    | _ => none
  | _ => none
def gSum : List D → Option RV
  | [.lst xs] => (intsOf xs).map fun ns => .d (.int ns.sum)
  | _ => none
def gAll : List D → Option RV
  | [.lst xs] => (blsOf xs).map fun bs => .d (.bl (bs.all id))
  | _ => none
def gAny : List D → Option RV
  | [.lst xs] => (blsOf xs).map fun bs => .d (.bl (bs.any id))
  | _ => none
def gTuple : List D → Option RV
  | [.lst xs] => some (.d (.tup xs))
  | [.tup xs] => some (.d (.tup xs))
  | _ => none
def gList : List D → Option RV
  | [.lst xs] | [.tup xs] | [.scr xs] => some (.fl xs)
  | _ => none
/-- repr, of truth values and ints -/
def gRepr : List D → Option RV
  | [.bl b] => some (.d (.str (if b then "True" else "False")))
  | [.int i] => if i.natAbs.log2 < 1920 then some (.d (.str (toString i))) else none
  | _ => none
section
variable {X : Cx}
theorem calls_len : CallS X (.builtin "len") gLen (fun xs H Q => ∃ x n, xs = [x] ∧ LenV X.K x H n ∧ Q (.int n) H) := by
  refine ⟨call_len, fun w H0 H m xs vs rv Q Wm r e q => ?_⟩
  unfold gLen at e
  split at e
  · cases e
    obtain ⟨v, rfl, r9⟩ := r.one
    obtain ⟨a, us, rfl, h1, h2⟩ := r9.lst Wm
    exact ⟨_, _, rfl, .inl ⟨us, .inl (.inl h1), rfl⟩, by rw [← h2.length]; exact q w H _ (.refl _ _) Wm (.int _)⟩
  · cases e
    obtain ⟨v, rfl, r9⟩ := r.one
    obtain ⟨a, us, rfl, h1, h2⟩ := r9.tup Wm
    exact ⟨_, _, rfl, .inr ⟨us, h1, rfl⟩, by rw [← h2.length]; exact q w H _ (.refl _ _) Wm (.int _)⟩
  · cases e
    obtain ⟨v, rfl, r9⟩ := r.one
    obtain ⟨a, us, rfl, h1, h2⟩ := r9.scr Wm
    exact ⟨_, _, rfl, .inl ⟨us, h1, rfl⟩, by rw [← h2.length]; exact q w H _ (.refl _ _) Wm (.int _)⟩
  · split at e
    · rename_i hl
      cases e
      obtain ⟨v, rfl, r9⟩ := r.one
      rw [r9.str]
      exact ⟨_, _, rfl, ⟨ln_line hl, rfl⟩, q w H _ (.refl _ _) Wm (.int _)⟩
    · cases e
  · cases e
theorem calls_abs : CallS X (.builtin "abs") gAbs (fun xs H Q => ∃ i, xs = [.int i] ∧ Q (.int (if i < 0 then -i else i)) H) := by
  refine ⟨call_abs, fun w H0 H m xs vs rv Q Wm r e q => ?_⟩
  unfold gAbs at e
  split at e
  · cases e
    obtain ⟨v, rfl, r9⟩ := r.one
    exact ⟨_, by rw [r9.int], q w H _ (.refl _ _) Wm (.int _)⟩
  · cases e
theorem calls_int : CallS X (.type "int") gInt (fun xs H Q => (∃ i, xs = [.int i] ∧ Q (.int i) H) ∨ ∃ k, xs = [.bl k] ∧ Q (.int (if k then 1 else 0)) H) := by
  refine ⟨call_int1, fun w H0 H m xs vs rv Q Wm r e q => ?_⟩
  unfold gInt at e
  split at e
  · cases e
    obtain ⟨v, rfl, r9⟩ := r.one
    exact .inl ⟨_, by rw [r9.int], q w H _ (.refl _ _) Wm (.int _)⟩
  · cases e
    obtain ⟨v, rfl, r9⟩ := r.one
    exact .inr ⟨_, by rw [r9.bl], q w H _ (.refl _ _) Wm (.int _)⟩
  · cases e
theorem calls_max (hc : X.calm = true) : CallS X (.builtin "max") gMax (fun xs H Q => (∃ i j, xs = [.int i, .int j] ∧ Q (.int (if j > i then j else i)) H) ∨ rMax X.K xs H Q) := by
  refine ⟨CallR.or (call_max2 hc) (cr_max hc), fun w H0 H m xs vs rv Q Wm r e q => ?_⟩
  unfold gMax at e
  split at e
  · cases e
    obtain ⟨v, u, rfl, r1, r2⟩ := r.two
    exact .inl ⟨_, _, by rw [r1.int, r2.int], q w H _ (.refl _ _) Wm (.int _)⟩
  · split at e
    · rename_i n ns h
      cases e
      obtain ⟨v, rfl, r9⟩ := r.one
      obtain ⟨a, us, rfl, h1, h2⟩ := r9.lst Wm
      have e := intsOf_eq h
      subst e
      have e2 := h2.ints
      subst e2
      refine .inr ⟨a, _, rfl, .inl (.inl h1), by simp, fun k hk hm => ?_⟩
      obtain ⟨g1, g2⟩ := maxI_spec (ns := n :: ns) (by simp)
      have : k = maxI (n :: ns) := Int.le_antisymm (g2 k hk) (hm _ g1)
      rw [this]
      exact q w H _ (.refl _ _) Wm (.int _)
    · cases e
  · cases e
theorem calls_min (hc : X.calm = true) : CallS X (.builtin "min") gMin (fun xs H Q => (∃ i j, xs = [.int i, .int j] ∧ Q (.int (if j < i then j else i)) H) ∨ rMin X.K xs H Q) := by
  refine ⟨CallR.or (call_min2 hc) (cr_min hc), fun w H0 H m xs vs rv Q Wm r e q => ?_⟩
  unfold gMin at e
  split at e
  · cases e
    obtain ⟨v, u, rfl, r1, r2⟩ := r.two
    exact .inl ⟨_, _, by rw [r1.int, r2.int], q w H _ (.refl _ _) Wm (.int _)⟩
  · split at e
    · rename_i n ns h
      cases e
      obtain ⟨v, rfl, r9⟩ := r.one
      obtain ⟨a, us, rfl, h1, h2⟩ := r9.lst Wm
      have e := intsOf_eq h
      subst e
      have e2 := h2.ints
      subst e2
      refine .inr ⟨a, _, rfl, .inl (.inl h1), by simp, fun k hk hm => ?_⟩
      obtain ⟨g1, g2⟩ := minI_spec (ns := n :: ns) (by simp)
      have : k = minI (n :: ns) := Int.le_antisymm (hm _ g1) (g2 k hk)
      rw [this]
      exact q w H _ (.refl _ _) Wm (.int _)
    · cases e
  · cases e
theorem calls_sum (hc : X.calm = true) : CallS X (.builtin "sum") gSum (rSum X.K) := by
  refine ⟨cr_sum hc, fun w H0 H m xs vs rv Q Wm r e q => ?_⟩
  unfold gSum at e
  split at e
  · obtain ⟨ns, h, rfl⟩ := Option.map_eq_some_iff.mp e
    obtain ⟨v, rfl, r9⟩ := r.one
    obtain ⟨a, us, rfl, h1, h2⟩ := r9.lst Wm
    have e := intsOf_eq h
    subst e
    have e2 := h2.ints
    subst e2
    exact ⟨a, ns, rfl, .inl (.inl h1), q w H _ (.refl _ _) Wm (.int _)⟩
  · cases e
theorem calls_all (hc : X.calm = true) : CallS X (.builtin "all") gAll (rAll X.K) := by
  refine ⟨cr_all hc, fun w H0 H m xs vs rv Q Wm r e q => ?_⟩
  unfold gAll at e
  split at e
  · obtain ⟨ns, h, rfl⟩ := Option.map_eq_some_iff.mp e
    obtain ⟨v, rfl, r9⟩ := r.one
    obtain ⟨a, us, rfl, h1, h2⟩ := r9.lst Wm
    have e := blsOf_eq h
    subst e
    have e2 := h2.bls
    subst e2
    exact ⟨a, ns, rfl, .inl (.inl h1), q w H _ (.refl _ _) Wm (.bl _)⟩
  · cases e
theorem calls_any (hc : X.calm = true) : CallS X (.builtin "any") gAny (rAny X.K) := by
  refine ⟨cr_any hc, fun w H0 H m xs vs rv Q Wm r e q => ?_⟩
  unfold gAny at e
  split at e
  · obtain ⟨ns, h, rfl⟩ := Option.map_eq_some_iff.mp e
    obtain ⟨v, rfl, r9⟩ := r.one
    obtain ⟨a, us, rfl, h1, h2⟩ := r9.lst Wm
    have e := blsOf_eq h
    subst e
    have e2 := h2.bls
    subst e2
    exact ⟨a, ns, rfl, .inl (.inl h1), q w H _ (.refl _ _) Wm (.bl _)⟩
  · cases e
theorem calls_tuple : CallS X (.type "tuple") gTuple (fun xs H Q => ∃ p ys, xs = [.ref p] ∧ ((SqL X.K H p ys ∧ ∀ l, H l = none → Q (.ref l) (upd H l (.tup ys))) ∨ (SqT X.K H p ys ∧ Q (.ref p) H))) := by
  refine ⟨call_tuple_of, fun w H0 H m xs vs rv Q Wm r e q => ?_⟩
  unfold gTuple at e
  split at e
  · cases e
    obtain ⟨v, rfl, r9⟩ := r.one
    obtain ⟨a, us, rfl, h1, h2⟩ := r9.lst Wm
    exact ⟨a, us, rfl, .inl ⟨.inl (.inl h1), fun l hl => new_tup Wm hl h2 q⟩⟩
  · cases e
    obtain ⟨v, rfl, r9⟩ := r.one
    have rd := r9.rd_tup
    obtain ⟨a, us, rfl, h1, h2⟩ := r9.tup Wm
    exact ⟨a, us, rfl, .inr ⟨h1, q w H _ (.refl _ _) Wm rd⟩⟩
  · cases e
theorem calls_list : CallS X (.type "list") gList (fun xs H Q => ∃ p ys, xs = [.ref p] ∧ (SqL X.K H p ys ∨ SqT X.K H p ys) ∧ ∀ l, H l = none → Q (.ref l) (upd H l (.lst ys))) := by
  refine ⟨call_list_of, fun w H0 H m xs vs rv Q Wm r e q => ?_⟩
  unfold gList at e
  split at e
  · cases e
    obtain ⟨v, rfl, r9⟩ := r.one
    obtain ⟨a, us, rfl, h1, h2⟩ := r9.lst Wm
    exact ⟨a, us, rfl, .inl (.inl (.inl h1)), fun l hl => new_lst Wm hl h2 q⟩
  · cases e
    obtain ⟨v, rfl, r9⟩ := r.one
    obtain ⟨a, us, rfl, h1, h2⟩ := r9.tup Wm
    exact ⟨a, us, rfl, .inr h1, fun l hl => new_lst Wm hl h2 q⟩
  · cases e
    obtain ⟨v, rfl, r9⟩ := r.one
    obtain ⟨a, us, rfl, h1, h2⟩ := r9.scr Wm
    exact ⟨a, us, rfl, .inl h1, fun l hl => new_lst Wm hl h2 q⟩
  · cases e
end
end Ev
/-! Ev, part F: isinstance, repr, what is walked, comprehensions. -/
namespace Ev
open PySem PySem.Spec L2
/-! ### isinstance(x, T) -/
inductive Ty where
  | int | bool | str | tuple | list | dict | none
  deriving DecidableEq
def Ty.name : Ty → String
  | .int => "int" | .bool => "bool" | .str => "str" | .tuple => "tuple" | .list => "list" | .dict => "dict" | .none => "NoneType"
def tyD : D → Option Ty
  | .non => some .none | .bl _ => some .bool | .int _ => some .int | .str _ => some .str | .tup _ => some .tuple | .lst _ => some .list | .dct _ _ => some .dict
  | _ => none
def isa : Ty → Ty → Bool
  | .bool, .int => true
  | a, b => decide (a = b)
theorem isa_ok : ∀ a b : Ty, b ≠ .none → kitB a.name b.name = some (isa a b) := by
  intro a b h
  cases a <;> cases b <;> first | exact absurd rfl h | decide +kernel
theorem sqT_ty {K : PySem.W.Frag} {H : Hp} {a : Addr} {vs : List V} (h : SqT K H a vs) : TyX K H (.ref a) (.type "tuple") := by
  rcases h with (h | ⟨o, h⟩) | ⟨o, its, n, h1, h2, _⟩
  · exact .base (.tup h)
  · exact .fTuple h
  · exact .kTuple h1 h2
theorem RP.ty {K : PySem.W.Frag} {w : Wd} {H : Hp} {m : Cells} (Wm : Wf K w H m) {x : D} {v : V} {t : Ty} (r : RP K w H x v) (h : tyD x = some t) : TyX K H v (.type t.name) := by
  cases x with
  | non => cases h; rw [r.non]; exact .base .non
  | bl b => cases h; rw [r.bl]; exact .base (.bl _)
  | int i => cases h; rw [r.int]; exact .base (.int _)
  | str x => cases h; rw [r.str]; exact .base (.str _)
  | tup xs =>
    cases h
    obtain ⟨a, vs, rfl, h1, _⟩ := r.tup Wm
    exact sqT_ty h1
  | lst xs =>
    cases h
    obtain ⟨a, vs, rfl, h1, _⟩ := r.lst Wm
    exact .base (.lst h1)
  | dct ks vs =>
    cases h
    rcases r with r | ⟨_, _, _, e, _⟩
    · cases r with
      | dct0 h => exact .base (.dK (Wm.sub _ _ h))
    · cases e
  | _ => cases h
def rIsa (t : Ty) (f : SemR) : SemR := fun env m => (vl f env m).bind fun x m1 => match tyD x with
  | some u => .ok (.d (.bl (isa u t))) m1
  | none => .bot
section
variable {X : Cx} {W : WX} {a : Expr} {fa : SemR} {ta : TE}
theorem se_isa (t : Ty) {y : Str} {p p2 pos : Pos} (ha : SE X W a fa ta) (hm : X.mg "isinstance" = none) (hm2 : X.mg y = none) (ht : t ≠ .none := by decide) (hg : Gl X "isinstance" := by rfl) (hg2 : Gl X y := by rfl)
    (hv : bootBuiltins y = some (.type t.name) := by decide +kernel) (hn : y ≠ "__name__" := by decide) (hdb : (y == ("__debug__" : Str)) = false := by decide)
    (he : starEach (a :: [.Name y p2]) X.env = (false, eval a X.env) :: starEach [.Name y p2] X.env := by rfl) (he2 : starEach [.Name y p2] X.env = (false, eval (.Name y p2) X.env) :: starEach [] X.env := by rfl) (hpl : (backTo pos (starEach [.Name y p2] X.env)).any (·.1) = false := by rfl) :
    SE X W (.Call (.Name "isinstance" p) [a, .Name y p2] [] pos) (rIsa t fa) (tCB (rIsi X.K) (tCons ta (tCons (tC (.ty t.name)) tNil))) := by
  refine ⟨pe_callB call_isi hg hm (by decide +kernel) (pa_cons ha.pe (pa_cons (pe_bltn hg2 hm2 hv rfl hn hdb) pa_nil he2) he) (by decide) (by decide) he hpl, fun w H0 σ H env m Q Wm S q => ?_⟩
  refine ha.vl Wm S (WP.mono (WP.of_bind q) (fun x m1 q w1 H1 v1 E1 W1 r1 => ?_) fun _ _ z => z)
  split at q
  · rename_i u e
    exact ⟨v1, .ty t.name, .type u.name, .type t.name, _, rfl, .ty _, r1.ty W1 e, kit_ty (isa_ok u t ht), q w1 H1 _ E1 W1 (.bl _)⟩
  · exact q.elim
end
section
variable {X : Cx}
theorem call_repr_bl : CallR X (.builtin "repr") (fun xs H Q => ∃ b, xs = [.bl b] ∧ Q (.str (if b then "True" else "False")) H) := by
  intro pins s σ H xs us Q I r h
  obtain ⟨b, rfl, q⟩ := h
  obtain ⟨u, rfl, r9⟩ := vals1 r
  cases (show u = Value.bool b from r9)
  exact PySem.P.repr_of_bool ⟨.str _, H, I.tok _, ⟨_, rfl⟩, q⟩
theorem calls_repr : CallS X (.builtin "repr") gRepr (fun xs H Q => (∃ b, xs = [.bl b] ∧ Q (.str (if b then "True" else "False")) H) ∨ ∃ i, xs = [.int i] ∧ i.natAbs.log2 < 1920 ∧ Q (.str (toString i)) H) := by
  refine ⟨call_repr_bl.or SkE.call_repr_int, fun w H0 H m xs vs rv Q Wm r e q => ?_⟩
  unfold gRepr at e
  split at e
  · cases e
    obtain ⟨v, rfl, r9⟩ := r.one
    exact .inl ⟨_, by rw [r9.bl], q w H _ (.refl _ _) Wm (.str _)⟩
  · split at e
    · cases e
      obtain ⟨v, rfl, r9⟩ := r.one
      exact .inr ⟨_, by rw [r9.int], ‹_›, q w H _ (.refl _ _) Wm (.str _)⟩
    · cases e
  · cases e
end

/-! ### what is walked -/
def Walks (K : PySem.W.Frag) (w' : Wd) (J : It) (ds : List D) : Prop := ∃ G Y, Walk J ds.length G Y ∧ (∀ w2 H2, WLe w' w2 → (∀ a o, w2.F a = some o → H2 a = some o) → G H2) ∧
  ∀ i H2 v H3, i < ds.length → Y i H2 v H3 → ∀ w2 m2, WLe w' w2 → Wf K w2 H2 m2 → ∃ x w3, ds[i]? = some x ∧ Ext w2 H2 w3 H3 ∧ Wf K w3 H3 m2 ∧ RD K w3 x v
structure SIt (X : Cx) (W : WX) (tg e : Expr) (f : SemDs) (wi : TI) : Prop where
  pi : PI X tg e wi
  rd : ∀ w H0 σ H env m (R : It → Hp → Prop), Wf X.K w H m → Slots X.K w H0 σ H env → WP (f env m) (fun ds m' => ∀ w' H' J, Ext w H w' H' → Wf X.K w' H' m' → Walks X.K w' J ds → R J H') (PX X W w H σ) → wi σ H R
theorem PI.or {X : Cx} {tg e : Expr} {wi wi' : TI} (h : PI X tg e wi) (h' : PI X tg e wi') : PI X tg e (fun σ H R => wi σ H R ∨ wi' σ H R) :=
  ⟨fun pins s σ H R I q => q.elim (h.run pins s σ H R I) (h'.run pins s σ H R I)⟩
theorem walks_list {K : PySem.W.Frag} {w : Wd} {a : Addr} {vs : List V} {ds : List D} (h : SqL K w.F a vs) (r : RDs K w ds vs) : Walks K w (Itl K a) ds := by
  refine ⟨_, _, by rw [r.length]; exact walk_list (K := K) (a := a) (xs := vs), fun w2 H2 L s => sqL_sub s (sqL_sub L.sub h), fun i H2 v H3 hi y w2 m2 L W2 => ?_⟩
  obtain ⟨rfl, hv⟩ := y
  obtain ⟨x, hx, rx⟩ := r.getV hv
  exact ⟨x, w2, hx, .refl _ _, W2, rx.le L⟩
theorem walks_tup {K : PySem.W.Frag} {w : Wd} {a : Addr} {vs : List V} {ds : List D} (h : SqT K w.F a vs) (r : RDs K w ds vs) : Walks K w (Itt K a) ds := by
  refine ⟨_, _, by rw [r.length]; exact walk_tup (K := K) (a := a) (xs := vs), fun w2 H2 L s => sqT_sub s (sqT_sub L.sub h), fun i H2 v H3 hi y w2 m2 L W2 => ?_⟩
  obtain ⟨rfl, hv⟩ := y
  obtain ⟨x, hx, rx⟩ := r.getV hv
  exact ⟨x, w2, hx, .refl _ _, W2, rx.le L⟩
/-- lo, lo + 1, .., below hi -/
def rangeD (lo hi : Int) : List D := (List.range (hi - lo).toNat).map fun i => .int (lo + (i : Nat))
theorem rangeD_len (lo hi : Int) : (rangeD lo hi).length = (hi - lo).toNat := by simp [rangeD]
theorem walks_range {K : PySem.W.Frag} {w : Wd} (lo hi : Int) : Walks K w (Itr lo (hi - lo).toNat) (rangeD lo hi) := by
  refine ⟨_, _, by rw [rangeD_len]; exact walk_range (lo := lo) (n := (hi - lo).toNat), fun _ _ _ _ => trivial, fun i H2 v H3 hi' y w2 m2 L W2 => ?_⟩
  obtain ⟨rfl, rfl⟩ := y
  rw [rangeD_len] at hi'
  exact ⟨.int (lo + (i : Nat)), w2, by simp [rangeD, hi'], .refl _ _, W2, .int _⟩
/-- a list or tuple that stands still -/
def eSeq (f : SemR) : SemDs := fun env m => (fz f env m).bind fun x m1 => match x with
  | .lst xs | .tup xs | .scr xs => .ok xs m1
  | _ => .bot
def int62 (i : Int) : Bool := decide (-(2 ^ 62) ≤ i ∧ i < 2 ^ 62)
def eRange1 (as : SemDs) : SemDs := fun env m => (as env m).bind fun xs m1 => match xs with
  | [.int j] => if int62 j then .ok (rangeD 0 j) m1 else .bot
  | _ => .bot
def eRange2 (as : SemDs) : SemDs := fun env m => (as env m).bind fun xs m1 => match xs with
  | [.int i, .int j] => if int62 i && int62 j then .ok (rangeD i j) m1 else .bot
  | _ => .bot
section
variable {X : Cx} {W : WX} {tg a b : Expr} {fa : SemR} {as : SemDs} {ta : TE} {t : TA} {p pos : Pos}
theorem si_seq (h : SE X W a fa ta) : SIt X W tg a (eSeq fa) (fun σ H R => iList X.K ta σ H R ∨ iTup X.K ta σ H R) := by
  refine ⟨PI.or (pi_list h.pe) (pi_tup h.pe), fun w H0 σ H env m R Wm S q => ?_⟩
  cases e : Ev.fz fa env m with
  | bot => unfold eSeq at q; rw [e] at q; exact q.elim
  | exc x m' =>
    refine .inl (h.fz Wm S ?_)
    unfold eSeq at q
    rw [e] at q ⊢
    exact q
  | ok x m1 =>
    have q2 := q
    unfold eSeq at q2
    rw [e] at q2
    cases x with
    | lst xs =>
      refine .inl (h.fz Wm S ?_)
      rw [e]
      intro w' H' v E' W' r
      cases r with
      | lst s r => exact ⟨_, rfl, ⟨_, .inl (.inl (W'.sub _ _ s))⟩, q2 w' H' _ E' W' (walks_list (.inl (.inl s)) r)⟩
    | scr xs =>
      refine .inl (h.fz Wm S ?_)
      rw [e]
      intro w' H' v E' W' r
      cases r with
      | scr s r => exact ⟨_, rfl, ⟨_, sqL_sub W'.sub s⟩, q2 w' H' _ E' W' (walks_list s r)⟩
    | tup xs =>
      refine .inr (h.fz Wm S ?_)
      rw [e]
      intro w' H' v E' W' r
      cases r with
      | tup s r => exact ⟨_, rfl, ⟨_, sqT_sub W'.sub s⟩, q2 w' H' _ E' W' (walks_tup s r)⟩
    | _ => exact q2.elim
theorem si_range1 (hm : X.mg "range" = none) (h : SAp X W [a] as t) (hg : Gl X "range" := by rfl) (hs : starEach [a] X.env = [(false, eval a X.env)] := by rfl) : SIt X W tg (.Call (.Name "range" p) [a] [] pos) (eRange1 as) (iRng1 t) := by
  refine ⟨pi_range1 hg hm h.pa hs, fun w H0 σ H env m R Wm S q => ?_⟩
  refine h.rd w H0 σ H env m _ Wm S (WP.mono (WP.of_bind q) (fun xs m1 q w1 H1 vs E1 W1 r1 => ?_) fun _ _ z => z)
  split at q
  · rename_i j
    split at q
    · rename_i hj
      obtain ⟨v, rfl, r9⟩ := r1.one
      have hj := of_decide_eq_true hj
      refine ⟨j, by rw [r9.int], hj.1, hj.2, ?_⟩
      have := q w1 H1 (Itr 0 (j - 0).toNat) E1 W1 (walks_range 0 j)
      rwa [Int.sub_zero] at this
    · exact q.elim
  · exact q.elim
theorem si_range2 (hm : X.mg "range" = none) (h : SAp X W [a, b] as t) (hg : Gl X "range" := by rfl) (hs : starEach [a, b] X.env = [(false, eval a X.env), (false, eval b X.env)] := by rfl) (hs2 : starEach [b] X.env = [(false, eval b X.env)] := by rfl) :
    SIt X W tg (.Call (.Name "range" p) [a, b] [] pos) (eRange2 as) (iRng2 t) := by
  refine ⟨pi_range2 hg hm h.pa hs hs2, fun w H0 σ H env m R Wm S q => ?_⟩
  refine h.rd w H0 σ H env m _ Wm S (WP.mono (WP.of_bind q) (fun xs m1 q w1 H1 vs E1 W1 r1 => ?_) fun _ _ z => z)
  split at q
  · rename_i i j
    split at q
    · rename_i hj
      obtain ⟨v, u, rfl, r1, r2⟩ := r1.two
      rw [Bool.and_eq_true] at hj
      have h1 := of_decide_eq_true hj.1
      have h2 := of_decide_eq_true hj.2
      exact ⟨i, j, by rw [r1.int, r2.int], ⟨h1.1, h1.2, h2.1, h2.2⟩, q w1 H1 _ E1 W1 (walks_range i j)⟩
    · exact q.elim
  · exact q.elim
end

/-! ### targets -/
abbrev SemG := D → Env → Option Env
def gSet (i : Nat) : SemG := fun x env => some (env.set i (.d x))
def gsSet : List Nat → List D → Env → Option Env
  | [], [], env => some env
  | i :: is, x :: xs, env => gsSet is xs (env.set i (.d x))
  | _, _, _ => none
/-- (a, b, ..): names -/
def gTupS (is : List Nat) : SemG := fun x env => match x with
  | .tup xs => gsSet is xs env
  | _ => none
/-- the slots is alone may be other ones -/
def SetIn (is : List Nat) (σ σ' : St) : Prop := σ'.length = σ.length ∧ ∀ vs : List Nat, (∀ i ∈ is, i ∈ vs) → wipe σ' vs = wipe σ vs
theorem wipe_set {σ : St} {i : Nat} {x : Option V} : ∀ {vs : List Nat}, i ∈ vs → wipe (σ.set i x) vs = wipe σ vs
  | v :: vs, h => by
    unfold wipe
    by_cases e : i = v
    · subst e
      by_cases hm : i ∈ vs
      · rw [wipe_set hm]
      · have : ∀ us : List Nat, i ∉ us → wipe (σ.set i x) us = (wipe σ us).set i x := by
          intro us
          induction us with
          | nil => intro _; rfl
          | cons u us ih =>
            intro hu
            simp only [List.mem_cons, not_or] at hu
            unfold wipe
            rw [ih hu.2, List.set_comm _ _ hu.1]
        rw [this vs hm, List.set_set]
    · rcases List.mem_cons.mp h with q | q
      · exact absurd q e
      · rw [wipe_set q]
theorem SetIn.one (σ : St) (i : Nat) (x : Option V) : SetIn [i] σ (σ.set i x) := ⟨by simp, fun vs h => wipe_set (h i (by simp))⟩
theorem SetIn.refl (σ : St) : SetIn [] σ σ := ⟨rfl, fun _ _ => rfl⟩
theorem SetIn.cons {is : List Nat} {σ σ1 σ2 : St} {i : Nat} (a : SetIn [i] σ σ1) (b : SetIn is σ1 σ2) : SetIn (i :: is) σ σ2 :=
  ⟨b.1.trans a.1, fun vs h => (b.2 vs fun j hj => h j (List.mem_cons_of_mem _ hj)).trans (a.2 vs fun j hj => h j (by simp at hj; simp [hj]))⟩
theorem Slots.setD {K : PySem.W.Frag} {w : Wd} {H0 H : Hp} {σ : St} {env : Env} {x : D} {v : V} (S : Slots K w H0 σ H env) (i : Nat) (r : RD K w x v) : Slots K w H0 (σ.set i (some v)) H (env.set i (.d x)) where
  len := by rw [List.length_set, List.length_set]; exact S.len
  dat := fun j y e => by
    by_cases h : i = j
    · subst h
      rw [List.getElem?_set_self' ] at e
      cases hh : env[i]? with
      | none => rw [hh] at e; cases e
      | some s =>
        rw [hh] at e
        cases e
        have hl : i < σ.length := by rw [← S.len]; exact (List.getElem?_eq_some_iff.mp hh).1
        exact ⟨v, List.getElem?_set_self hl, r⟩
    · rw [List.getElem?_set_ne h] at e ⊢
      exact S.dat j y e
  own := fun j ys e => by
    by_cases h : i = j
    · subst h
      rw [List.getElem?_set_self' ] at e
      cases hh : env[i]? with
      | none => rw [hh] at e; cases e
      | some s => rw [hh] at e; cases e
    · rw [List.getElem?_set_ne h] at e ⊢
      exact S.own j ys e
  dis := fun j k ys zs a e1 e2 s1 s2 => by
    have hj : i ≠ j := fun h => by
      subst h
      rw [List.getElem?_set_self'] at e1
      cases hh : env[i]? with
      | none => rw [hh] at e1; cases e1
      | some s => rw [hh] at e1; cases e1
    have hk : i ≠ k := fun h => by
      subst h
      rw [List.getElem?_set_self'] at e2
      cases hh : env[i]? with
      | none => rw [hh] at e2; cases e2
      | some s => rw [hh] at e2; cases e2
    rw [List.getElem?_set_ne hj] at e1 s1
    rw [List.getElem?_set_ne hk] at e2 s2
    exact S.dis j k ys zs a e1 e2 s1 s2
structure SGt (X : Cx) (tg : Expr) (g : SemG) (is : List Nat) (t : TG) : Prop where
  pg : PG X tg t
  rd : ∀ w H0 σ H env m x v env' (Q : St → Hp → Prop), Wf X.K w H m → Slots X.K w H0 σ H env → RD X.K w x v → g x env = some env' → (∀ σ', SetIn is σ σ' → Slots X.K w H0 σ' H env' → Q σ' H) → t v σ H Q
structure SGs (X : Cx) (ts : List Expr) (is : List Nat) (t : TGs) : Prop where
  pg : PGs X ts t
  rd : ∀ w H0 σ H env m xs vs env' (Q : St → Hp → Prop), Wf X.K w H m → Slots X.K w H0 σ H env → RDs X.K w xs vs → gsSet is xs env = some env' → (∀ σ', SetIn is σ σ' → Slots X.K w H0 σ' H env' → Q σ' H) → t vs σ H Q
section
variable {X : Cx} {pos : Pos}
theorem sg_name (i : Nat) {x : Str} (hN : X.N.Nodup) (hi : X.N[i]? = some x := by rfl) (hx : Loc X.env.scope x := by first | exact Or.inl rfl | exact Or.inr rfl) (hf : X.fn x = true ∨ X.env.scope.names.lookup x = some .local := by first | exact .inl rfl | exact .inr rfl | assumption) :
    SGt X (.Name x pos) (gSet i) [i] (gName i) := by
  refine ⟨pg_name hN hi hx hf, fun w H0 σ H env m x v env' Q Wm S r e q => ?_⟩
  cases e
  exact q _ (.one _ _ _) (S.setD i r)
theorem sgs_nil : SGs X [] [] gNil := by
  refine ⟨pgs_nil, fun w H0 σ H env m xs vs env' Q Wm S r e q => ?_⟩
  cases xs with
  | nil =>
    cases e
    cases r
    exact ⟨rfl, q σ (.refl _) S⟩
  | cons x xs => cases e
theorem sgs_cons (i : Nat) {x : Str} {es : List Expr} {is : List Nat} {u : TGs} (hN : X.N.Nodup) (h2 : SGs X es is u) (hi : X.N[i]? = some x := by rfl) (hx : Loc X.env.scope x := by first | exact Or.inl rfl | exact Or.inr rfl)
    (hf : X.fn x = true ∨ X.env.scope.names.lookup x = some .local := by first | exact .inl rfl | exact .inr rfl | assumption)
    (hs : (assignEach (.Name x pos :: es) X.env).map (·.2) = assign (.Name x pos) X.env :: (assignEach es X.env).map (·.2) := by rfl) : SGs X (.Name x pos :: es) (i :: is) (gCons (gName i) u) := by
  refine ⟨pgs_cons (pg_name hN hi hx hf) h2.pg hs, fun w H0 σ H env m xs vs env' Q Wm S r e q => ?_⟩
  cases xs with
  | nil => cases e
  | cons y ys =>
    cases r with
    | cons r1 r2 =>
      exact ⟨_, _, rfl, h2.rd w H0 _ H _ m ys _ env' Q Wm (S.setD i r1) r2 e fun σ' s1 S' => q σ' (.cons (.one _ _ _) s1) S'⟩
theorem gsSet_len : ∀ {is : List Nat} {xs : List D} {env env' : Env}, gsSet is xs env = some env' → xs.length = is.length
  | [], [], _, _, _ => rfl
  | i :: is, x :: xs, _, _, h => by rw [List.length_cons, List.length_cons, gsSet_len (is := is) (xs := xs) h]
  | [], _ :: _, _, _, h => by cases h
  | _ :: _, [], _, _, h => by cases h
theorem sg_tup {es : List Expr} {k : Nat} {is : List Nat} {t : TGs} (hc : X.calm = true) (h : SGs X es is t) (hn : (assignEach es X.env).length = is.length := by rfl) (hst : (assignEach es X.env).findIdx? (·.1) = none := by rfl) :
    SGt X (.Tuple es k pos) (gTupS is) is (gTup X.K is.length t) := by
  refine ⟨pg_tup hc h.pg hn hst, fun w H0 σ H env m x v env' Q Wm S r e q => ?_⟩
  cases x with
  | tup xs =>
    cases r with
    | tup s rs =>
      have e : gsSet is xs env = some env' := e
      exact ⟨_, _, rfl, sqT_sub Wm.sub s, by rw [← rs.length, gsSet_len e], h.rd w H0 σ H env m xs _ env' Q Wm S rs e q⟩
  | _ => cases e
end
end Ev
/-! Ev, part G: comprehensions, calls of defs. -/
namespace Ev
open PySem PySem.Spec L2
abbrev W0 : WX := fun _ _ _ _ => False
def noX {α : Type} (r : Res α) : Res α := match r with
  | .exc _ _ => .bot
  | r => r
theorem WP.of_noX {α : Type} {r : Res α} {P : α → Cells → Prop} {Z Z' : Exn → Cells → Prop} (h : WP (noX r) P Z) : WP r P Z' := by
  cases r with
  | ok a m => exact h
  | exc x m => exact h.elim
  | bot => exact h
def wipeE (env : Env) : List Nat → Env
  | [] => env
  | v :: vs => (wipeE env vs).set v .un
theorem Slots.setUn {K : PySem.W.Frag} {w : Wd} {H0 H : Hp} {σ : St} {env : Env} (S : Slots K w H0 σ H env) (i : Nat) : Slots K w H0 (σ.set i none) H (env.set i .un) := by
  have ne : ∀ {j : Nat} {s : Slot}, (env.set i .un)[j]? = some s → s ≠ .un → i ≠ j := fun {j s} e h q => by
    subst q
    rw [List.getElem?_set_self'] at e
    cases hh : env[i]? with
    | none => rw [hh] at e; cases e
    | some t => rw [hh] at e; cases e; exact h rfl
  refine ⟨by rw [List.length_set, List.length_set]; exact S.len, fun j y e => ?_, fun j y e => ?_, fun j k ys zs a e1 e2 s1 s2 => ?_⟩
  · have h := ne e (fun z => nomatch z)
    rw [List.getElem?_set_ne h] at e ⊢
    exact S.dat j y e
  · have h := ne e (fun z => nomatch z)
    rw [List.getElem?_set_ne h] at e ⊢
    exact S.own j y e
  · have h1 := ne e1 (fun z => nomatch z)
    have h2 := ne e2 (fun z => nomatch z)
    rw [List.getElem?_set_ne h1] at e1 s1
    rw [List.getElem?_set_ne h2] at e2 s2
    exact S.dis j k ys zs a e1 e2 s1 s2
theorem Slots.wipe {K : PySem.W.Frag} {w : Wd} {H0 H : Hp} {σ : St} {env : Env} (S : Slots K w H0 σ H env) : ∀ vs : List Nat, Slots K w H0 (L2.wipe σ vs) H (wipeE env vs)
  | [] => S
  | v :: vs => by
    unfold L2.wipe wipeE
    exact (S.wipe vs).setUn v
theorem wipe_out' {σ : St} {x : Option V} {i : Nat} : ∀ {us : List Nat}, i ∉ us → wipe (σ.set i x) us = (wipe σ us).set i x
  | [], _ => rfl
  | u :: us, hu => by
    simp only [List.mem_cons, not_or] at hu
    unfold wipe
    rw [wipe_out' hu.2, List.set_comm _ _ hu.1]
theorem wipe_idem (σ : St) : ∀ vs : List Nat, wipe (wipe σ vs) vs = wipe σ vs := by
  intro vs
  have key : ∀ us vs : List Nat, (∀ i ∈ us, i ∈ vs) → wipe (wipe σ us) vs = wipe σ vs := by
    intro us
    induction us with
    | nil => intro vs _; rfl
    | cons u us ih =>
      intro vs h
      show wipe ((wipe σ us).set u none) vs = _
      rw [wipe_set (h u (by simp))]
      exact ih vs fun i hi => h i (List.mem_cons_of_mem _ hi)
  exact key vs vs fun _ h => h
theorem Ext.updFresh {w0 w : Wd} {H0 H : Hp} {a : Addr} {o : HO} (E : Ext w0 H0 w H) (h : H0 a = none) : Ext w0 H0 w (upd H a o) where
  le := E.le
  keep := fun b u e n => by rw [upd_ne (ne_of_none e h)]; exact E.keep b u e n
  newF := E.newF
  newI := E.newI
  there := fun b e => by
    by_cases q : b = a
    · rw [q]; exact h
    · rw [upd_ne q] at e; exact E.there b e
theorem Wf.upd {K : PySem.W.Frag} {w : Wd} {H : Hp} {m : Cells} {a : Addr} {o : HO} (W : Wf K w H m) (hf : w.F a = none) (hi : a ∉ w.ι) : Wf K w (L2.upd H a o) m where
  sub := fun b u e => by rw [upd_ne (ne_of_none e hf)]; exact W.sub b u e
  nof := W.nof
  inj := W.inj
  len := W.len
  cell := fun n c e => by
    obtain ⟨b, h1, h2⟩ := W.cell n c e
    have hb : b ≠ a := fun q => hi (q ▸ List.mem_of_getElem? h1)
    refine ⟨b, h1, ?_⟩
    cases c with
    | lst xs =>
      obtain ⟨vs, h3, h4⟩ := h2
      exact ⟨vs, by rw [upd_ne hb]; exact h3, h4⟩
  xi := W.xi
theorem Ext.noF {w w' : Wd} {H H' : Hp} {a : Addr} (E : Ext w H w' H') (hf : w.F a = none) (ha : H a ≠ none) : w'.F a = none := by
  cases q : w'.F a with
  | none => rfl
  | some o =>
    rcases E.newF a o q with z | z
    · rw [hf] at z; cases z
    · exact absurd z ha
theorem Ext.noI {w w' : Wd} {H H' : Hp} {a : Addr} (E : Ext w H w' H') (hi : a ∉ w.ι) (ha : H a ≠ none) : a ∉ w'.ι := fun q => by
  rcases E.newI a q with z | z
  · exact hi z
  · exact ha z

/-! ### [elt for target in iter if ..] -/
def compL (tg : SemG) (cond : SemB) (elt : SemR) (env : Env) : List D → Cells → Res (List D)
  | [], m => .ok [] m
  | x :: xs, m => match tg x env with
    | none => .bot
    | some env1 => (noX (cond env1 m)).bind fun b m1 => if b = true then (noX (fz elt env1 m1)).bind fun y m2 => (compL tg cond elt env xs m2).bind fun ys m3 => .ok (y :: ys) m3 else compL tg cond elt env xs m1
def rComp (it : SemDs) (tg : SemG) (cond : SemB) (elt : SemR) (vs : List Nat) : SemR := fun env m => (it env m).bind fun ds m1 => if ds.length ≤ LN then (compL tg cond elt (wipeE env vs) ds m1).bind fun ys m2 => .ok (.fl ys) m2 else .bot
def bYes : SemB := fun _ m => .ok true m
theorem noX_bind {α β : Type} {r : Res α} {k : α → Cells → Res β} (h : ∀ a m, noX (k a m) = k a m) : noX ((noX r).bind k) = (noX r).bind k := by
  cases r with
  | ok a m => exact h a m
  | exc x m => rfl
  | bot => rfl
theorem compL_noX (tg : SemG) (cond : SemB) (elt : SemR) (env : Env) : ∀ (ds : List D) (m : Cells), noX (compL tg cond elt env ds m) = compL tg cond elt env ds m
  | [], m => rfl
  | x :: xs, m => by
    unfold compL
    cases tg x env with
    | none => rfl
    | some env1 =>
      refine noX_bind fun b m1 => ?_
      cases b with
      | false =>
        rw [if_neg Bool.false_ne_true]
        exact compL_noX tg cond elt env xs m1
      | true =>
        rw [if_pos rfl]
        refine noX_bind fun y m2 => ?_
        have := compL_noX tg cond elt env xs m2
        cases h : compL tg cond elt env xs m2 with
        | ok a m => rfl
        | exc x m => rw [h] at this; cases this
        | bot => rfl
theorem WP.noX' {α : Type} {r : Res α} {P : α → Cells → Prop} {Z : Exn → Cells → Prop} (h : noX r = r) (q : WP r P Z) : WP r P fun _ _ => False := by
  cases r with
  | ok a m => exact q
  | exc x m => cases h
  | bot => exact q
/-- a clause's tests -/
structure SPt (X : Cx) (W : WX) (es : List Expr) (f : SemB) (t : TT) : Prop where
  pt : PTs X es t
  rd : ∀ w H0 σ H env m (Q : Bool → Hp → Prop), Wf X.K w H m → Slots X.K w H0 σ H env → WP (f env m) (fun b m' => ∀ w' H', Ext w H w' H' → Wf X.K w' H' m' → Q b H') (PX X W w H σ) → t σ H Q
theorem spt_nil {X : Cx} {W : WX} : SPt X W [] bYes tYes := ⟨pts_nil, fun w H0 σ H env m Q Wm S q => q w H (.refl _ _) Wm⟩
theorem spt_one {X : Cx} {W : WX} {e : Expr} {f : SemB} {t : TT} (h : STt X W e f t) : SPt X W [e] f t := ⟨pts_one h.pt, h.rd⟩
section
variable {X : Cx} {W : WX}
theorem comp_rd {elt tg iter : Expr} {ifs : List Expr} {vs is : List Nat} {wi : TI} {g : TG} {tt : TT} {te : TE} {it : SemDs} {gs : SemG} {cond : SemB} {fe : SemR} {Y : Cx} (hK : Y.K = X.K) (hi : SIt X W tg iter it wi) (hvs : ∀ i ∈ is, i ∈ vs) (hg : SGt Y tg gs is g) (ht : SPt Y W0 ifs cond tt) (he : SE Y W0 elt fe te)
    (w H0 σ H env m) (Q : VK) (Wm : Wf X.K w H m) (S : Slots X.K w H0 σ H env) (q : WP (rComp it gs cond fe vs env m) (PR X w H0 H Q) (PX X W w H σ)) : tLc wi g tt te vs σ H Q := by
  refine hi.rd w H0 σ H env m _ Wm S (WP.mono (WP.of_bind q) (fun ds m1 q w1 H1 J E1 W1 wk => ?_) fun _ _ z => z)
  intro D hD
  split at q
  · rename_i hlen
    obtain ⟨G, Yi, hw, hG, hY⟩ := wk
    have q := WP.of_bind q
    have hDw : H D = none := E1.there D hD
    refine lc_it hw (fun i H2 => ∃ w2 m2 acc, Ext w1 H1 w2 H2 ∧ Wf X.K w2 H2 m2 ∧ w2.F D = none ∧ D ∉ w2.ι ∧ (∃ us, H2 D = some (.lst us) ∧ RDs X.K w2 acc us) ∧ acc.length ≤ i ∧
      WP (compL gs cond fe (wipeE env vs) (ds.drop i) m2) (fun ys m' => PR X w H0 H Q (.fl (acc ++ ys)) m') (fun _ _ => False)) ?_ ?_ ?_ ?_
    · refine ⟨w1, m1, [], (Ext.refl _ _).updFresh hD, W1.upd (W1.noF hD) (W1.noI hD), W1.noF hD, W1.noI hD, ⟨[], upd_same, .nil⟩, Nat.zero_le _, ?_⟩
      exact WP.noX' (compL_noX _ _ _ _ _ _) q
    · rintro i H2 hi' ⟨w2, m2, acc, E2, W2, _⟩
      exact hG w2 H2 E2.le W2.sub
    · rintro i v H2 H3 hi' ⟨w2, m2, acc, E2, W2, f2, i2, ⟨us, hD2, r2⟩, hacc, q2⟩ y
      obtain ⟨x, w3, hx, E3, W3, r3⟩ := hY i H2 v H3 hi' y w2 m2 E2.le W2
      have hdrop : ds.drop i = x :: ds.drop (i + 1) := by
        rw [List.drop_eq_getElem_cons hi']
        rw [List.getElem?_eq_getElem hi'] at hx
        cases hx; rfl
      rw [hdrop, compL] at q2
      cases eg : gs x (wipeE env vs) with
      | none => rw [eg] at q2; exact q2.elim
      | some env1 =>
        rw [eg] at q2
        have E13 := (E1.trans E2).trans E3
        have f3 := E3.noF f2 (by rw [hD2]; exact fun z => nomatch z)
        have i3 := E3.noI i2 (by rw [hD2]; exact fun z => nomatch z)
        have hD3 := E3.keep D _ hD2 i2
        have S3 := ((S.ext E13).wipe vs)
        have W3' : Wf Y.K w3 H3 m2 := by rw [hK]; exact W3
        have S3' : Slots Y.K w3 H0 (wipe σ vs) H3 (wipeE env vs) := by rw [hK]; exact S3
        refine hg.rd w3 H0 (wipe σ vs) H3 (wipeE env vs) m2 x v env1 _ W3' S3' (by rw [hK]; exact r3) eg fun σ' sin S4 => ⟨(sin.2 vs hvs).trans (wipe_idem σ vs), ?_⟩
        have q2 := WP.of_bind q2
        refine ht.rd w3 H0 σ' H3 env1 m2 _ W3' S4 (WP.mono (WP.of_noX (Z' := PX Y W0 w3 H3 σ') q2) (fun b m3 q3 w4 H4 E4 W4 => ?_) fun x m' z => z)
        have W4' : Wf X.K w4 H4 m3 := by rw [← hK]; exact W4
        have f4 := E4.noF f3 (by rw [hD3]; exact fun z => nomatch z)
        have i4 := E4.noI i3 (by rw [hD3]; exact fun z => nomatch z)
        have hD4 := E4.keep D _ hD3 i3
        cases b with
        | false =>
          rw [if_neg Bool.false_ne_true] at q3 ⊢
          exact ⟨w4, m3, acc, (E2.trans E3).trans E4, W4', f4, i4, ⟨us, hD4, (r2.le E3.le).le E4.le⟩, Nat.le_succ_of_le hacc, q3⟩
        | true =>
          rw [if_pos rfl] at q3 ⊢
          have q3 := WP.of_bind q3
          refine he.fz W4 (S4.ext E4) (WP.mono (WP.of_noX (Z' := PX Y W0 w4 H4 σ') q3) (fun z m4 q4 w5 H5 u E5 W5 r5 => ?_) fun x m' z => z)
          have W5' : Wf X.K w5 H5 m4 := by rw [← hK]; exact W5
          have r5' : RD X.K w5 z u := by rw [← hK]; exact r5
          have f5 := E5.noF f4 (by rw [hD4]; exact fun z => nomatch z)
          have i5 := E5.noI i4 (by rw [hD4]; exact fun z => nomatch z)
          have hD5 := E5.keep D _ hD4 i4
          have hl := (r2.length)
          refine ⟨us, hD5, ?_, w5, m4, acc ++ [z], (((E2.trans E3).trans E4).trans E5).updFresh hD, W5'.upd f5 i5, f5, i5, ⟨_, upd_same, ((((r2.le E3.le).le E4.le).le E5.le).append (.cons r5' .nil))⟩, ?_, ?_⟩
          · exact ln_lt (by omega)
          · rw [List.length_append]; simp only [List.length_cons, List.length_nil]; omega
          · refine WP.mono (WP.of_bind q4) (fun ys m' z => ?_) fun _ _ z => z
            have z : PR X w H0 H Q (.fl (acc ++ (_ :: ys))) m' := z
            rw [List.append_assoc]
            exact z
    · rintro H2 ⟨w2, m2, acc, E2, W2, f2, i2, ⟨us, hD2, r2⟩, _, q2⟩
      rw [List.drop_length, compL] at q2
      have q2 : PR X w H0 H Q (.fl (acc ++ [])) m2 := q2
      rw [List.append_nil] at q2
      exact q2 w2 H2 _ (E1.trans E2) W2 ⟨D, us, rfl, hD2, f2, i2, hDw, r2⟩
  · exact q.elim
end
end Ev
/-! Ev, part H: comprehensions as rules, calls of defs, statements. -/
namespace Ev
open PySem PySem.Spec L2
section
variable {X : Cx} {W : WX}
theorem se_lc {elt tg iter : Expr} {ifs : List Expr} {scope : Scope} {own : List (Str × Nat)} {pos : Pos} {is : List Nat} {wi : TI} {g : TG} {tt : TT} {te : TE} {it : SemDs} {gs : SemG} {cond : SemB} {fe : SemR} (hc : X.calm = true) (hN : X.N.Nodup) (hi : SIt X W tg iter it wi) (ok : BlkOk X.N X.env.scope scope own)
    (hg : ∀ (s : Shared) (H : Hp) (C : Addr) (cl : List (Str × Addr)) (fp : List Addr), SGt (X.blk s H scope (compEnvC scope cl C X.env) fp) tg gs is g) (ht : ∀ (s : Shared) (H : Hp) (C : Addr) (cl : List (Str × Addr)) (fp : List Addr), SPt (X.blk s H scope (compEnvC scope cl C X.env) fp) W0 ifs cond tt)
    (he : ∀ (s : Shared) (H : Hp) (C : Addr) (cl : List (Str × Addr)) (fp : List Addr), SE (X.blk s H scope (compEnvC scope cl C X.env) fp) W0 elt fe te) (hvs : ∀ i ∈ is, i ∈ own.map (·.2) := by decide) (hs : ∀ x, foldedSetIterable iter X.env x = pure x := by intro _; rfl) :
    SE X W (.ListComp elt [⟨tg, iter, ifs, 0⟩] scope pos) (rComp it gs cond fe (own.map (·.2))) (tLc wi g tt te (own.map (·.2))) := by
  refine ⟨pe_lc hc hN hi.pi ok (fun s H C cl fp => (hg s H C cl fp).pg) (fun s H C cl fp => (ht s H C cl fp).pt) (fun s H C cl fp => (he s H C cl fp).pe) hs, fun w H0 σ H env m Q Wm S q => ?_⟩
  exact comp_rd (X := X) (Y := X.blk X.s_0 (fun _ => none) scope (compEnvC scope [] 0 X.env) []) rfl hi hvs (hg _ _ _ _ _) (ht _ _ _ _ _) (he _ _ _ _ _) w H0 σ H env m Q Wm S q
end

/-! ### defs -/
abbrev Fn := List D → Cells → Res RV
def spF (K : PySem.W.Frag) (n : Nat) (f : Fn) : Sp := fun vs H Q E => ∃ w m ds, Wf K w H m ∧ RDs K w ds vs ∧ vs.length = n ∧
  WP (f ds m) (fun rv m' => ∀ w' H' v, Ext w H w' H' → Wf K w' H' m' → RR K H H w' H' rv v → Q v H') (fun x m' => ∀ c d w' H', Ext w H w' H' → Wf K w' H' m' → RX K w' x c d H' → E c d H')
/-- a def of the text that computes f -/
structure FnS (P : Program) (w : World) (K : PySem.W.Frag) (mg : Str → Option Value) (base : Heap) (k : Nat) (x : Str) (ps : List Str) (a : Addr) (fd : FuncData) (f : Fn) : Prop where
  hm : mg x = some (.ref a)
  kp : PySem.W.keepIn K (.ref a) = true
  bd : Binds K fd ps []
  ok : FnOk P w K mg base (L2.CX P w) k a fd ps (spF K ps.length f)
def rCall (n : Nat) (f : Fn) (as : SemDs) : SemR := fun env m => (as env m).bind fun xs m1 => if xs.length = n then (f xs m1).bind fun rv m2 => (match rv with | .pk _ => .bot | rv => .ok rv m2) else .bot
def unpk : RV → RV
  | .pk xs => .fl xs
  | r => r
section
variable {X : Cx} {W : WX} {e : Expr} {es : List Expr} {as : SemDs} {t : TA} {x : Str} {ps : List Str} {f : Fn} {k : Nat} {p pos : Pos} {a : Addr} {fd : FuncData}
theorem call_rd {n : Nat} {w : Wd} {H0 σ H env m} {Q : VK} (hn : n = ps.length) (h : SAt X W es as t) (Wm : Wf X.K w H m) (S : Slots X.K w H0 σ H env) (q : WP (rCall n f as env m) (PR X w H0 H Q) (PX X W w H σ)) : tCallS (spF X.K ps.length f) (WE W) t σ H Q := by
  refine h.rd w H0 σ H env m _ Wm S (WP.mono (WP.of_bind q) (fun xs m1 q w1 H1 vs E1 W1 r1 => ?_) fun _ _ z => z)
  split at q
  · rename_i hl
    refine ⟨w1, m1, xs, W1, r1, by rw [← r1.length, hl, hn], WP.mono (WP.of_bind q) (fun rv m' z w' H' v E' W' rr => ?_) fun x m' z c d w' H' E' W' rx => z c d w' H' (E1.trans E') W' rx⟩
    cases rv with
    | d y => exact z w' H' v (E1.trans E') W' rr
    | fl ys =>
      obtain ⟨a, us, h1, h2, h3, h4, h5, h6⟩ := rr
      exact z w' H' v (E1.trans E') W' ⟨a, us, h1, h2, h3, h4, E1.there a h5, h6⟩
    | pk ys => exact z.elim
  · exact q.elim
theorem se_call (F : FnS X.prog X.w X.K X.mg X.base k x ps a fd f) (tk : Takes X W) (hr : Room k X.A) (n : Nat) (h : SAt X W (e :: es) as t) (hn : n = ps.length := by rfl) (hg : Gl X x := by rfl) (hdb : (x == ("__debug__" : Str)) = false := by decide)
    (he : starEach (e :: es) X.env = (false, eval e X.env) :: starEach es X.env := by rfl) (hpl : (backTo pos (starEach es X.env)).any (·.1) = false := by rfl) : SE X W (.Call (.Name x p) (e :: es) [] pos) (rCall n f as) (tCallS (spF X.K ps.length f) (WE W) t) := by
  obtain ⟨h1, h2, h3, h4⟩ := F
  exact ⟨pe_callS h4 hr hg h1 h2 h3 (fun σ => passAt tk σ) h.pa hdb he hpl, fun w H0 σ H env m Q Wm S q => call_rd hn h Wm S q⟩
/-- a def without parameters -/
def rCall0 (f : Fn) : SemR := rCall 0 f aNil
theorem se_call0 (F : FnS X.prog X.w X.K X.mg X.base k x [] a fd f) (tk : Takes X W) (hr : Room k X.A) (hg : Gl X x := by rfl) (hdb : (x == ("__debug__" : Str)) = false := by decide) :
    SE X W (.Call (.Name x p) [] [] pos) (rCall0 f) (tCallS (spF X.K 0 f) (WE W) tNil) := by
  obtain ⟨h1, h2, h3, h4⟩ := F
  refine ⟨⟨fun pins s σ H Q I h => ?_⟩, fun w H0 σ H env m Q Wm S q => call_rd (ps := []) rfl sa_nil Wm S q⟩
  refine wpAny_Call_Name_kw (ld_glob I hg h1 ?_ hdb)
  exact PySem.W.callWith_K0 I.kIn h2 (run_fnSD (dvs := []) (ds := []) (us := []) h4 hr h3 .nil (passAt tk σ) I .nil h)
end
end Ev
/-! Ev, part I: statements. -/
namespace Ev
open PySem PySem.Spec L2
inductive Out where
  | nx (env : Env) | bk (env : Env) | ct (env : Env) | rt (rv : RV)
abbrev SemS := Env → Cells → Res Out
section
variable (X : Cx) (W : WX)
/-- what is wanted behind a statement -/
def PO (w0 : Wd) (H0 : Hp) (w : Wd) (n : Nat) (D : Ends) (o : Out) (m' : Cells) : Prop := ∀ w' H', Ext w0 H0 w' H' → WLe w w' → Wf X.K w' H' m' → match o with
  | .nx env' => ∀ σ', σ'.length = n → Slots X.K w' H0 σ' H' env' → D.nx σ' H'
  | .bk env' => ∀ σ', σ'.length = n → Slots X.K w' H0 σ' H' env' → D.bk σ' H'
  | .ct env' => ∀ σ', σ'.length = n → Slots X.K w' H0 σ' H' env' → D.ct σ' H'
  | .rt rv => ∀ v, RR X.K H0 H0 w' H' rv v → D.rt v H'
def PXs (w0 : Wd) (H0 : Hp) (n : Nat) (x : Exn) (m' : Cells) : Prop := ∀ c d w' H' σ', σ'.length = n → Ext w0 H0 w' H' → Wf X.K w' H' m' → RX X.K w' x c d H' → W c d σ' H'
structure SSt (st : Stmt) (f : SemS) (t : TS) : Prop where
  ps : PS X st t
  rd : ∀ w0 H0 w σ H env m (D : Ends), Ext w0 H0 w H → Wf X.K w H m → Slots X.K w H0 σ H env → WP (f env m) (PO X w0 H0 w σ.length D) (PXs X W w0 H0 σ.length) → t D σ H
structure SSs (sts : List Stmt) (f : SemS) (t : TS) : Prop where
  ps : PSs X sts t
  rd : ∀ w0 H0 w σ H env m (D : Ends), Ext w0 H0 w H → Wf X.K w H m → Slots X.K w H0 σ H env → WP (f env m) (PO X w0 H0 w σ.length D) (PXs X W w0 H0 σ.length) → t D σ H
end
def sNop : SemS := fun env m => .ok (.nx env) m
def sSeq (f g : SemS) : SemS := fun env m => (f env m).bind fun o m1 => match o with
  | .nx env1 => g env1 m1
  | o => .ok o m1
def sRet (f : SemR) : SemS := fun env m => (f env m).bind fun rv m1 => .ok (.rt (unpk rv)) m1
def sRetN : SemS := fun _ m => .ok (.rt (.d .non)) m
def sExpr (f : SemR) : SemS := fun env m => (f env m).bind fun _ m1 => .ok (.nx env) m1
def sIf (c : SemB) (f g : SemS) : SemS := fun env m => (c env m).bind fun b m1 => if b = true then f env m1 else g env m1
def sBot : SemS := fun _ _ => .bot
def slotOf : RV → Option Slot
  | .d x => some (.d x)
  | .fl xs => some (.own xs)
  | .pk _ => none
def sSet (i : Nat) (f : SemR) : SemS := fun env m => (f env m).bind fun rv m1 => match slotOf rv with
  | some s => .ok (.nx (env.set i s)) m1
  | none => .bot
/-- targets = value, the value as data -/
def sAsg (g : SemG) (f : SemR) : SemS := fun env m => (fz f env m).bind fun x m1 => match g x env with
  | some env1 => .ok (.nx env1) m1
  | none => .bot
def whileL (c : SemB) (b : SemS) : Nat → SemS
  | 0 => fun _ _ => .bot
  | n + 1 => fun env m => (c env m).bind fun k m1 => if k = true then (b env m1).bind fun o m2 => match o with
    | .nx env2 => whileL c b n env2 m2
    | .ct env2 => whileL c b n env2 m2
    | .bk env2 => .ok (.nx env2) m2
    | .rt rv => .ok (.rt rv) m2
    else .ok (.nx env) m1
def FUEL : Nat := 100000
def sWhile (c : SemB) (b : SemS) : SemS := whileL c b FUEL
def forL (g : SemG) (b : SemS) : List D → SemS
  | [] => fun env m => .ok (.nx env) m
  | x :: xs => fun env m => match g x env with
    | none => .bot
    | some env1 => (b env1 m).bind fun o m2 => match o with
      | .nx env2 => forL g b xs env2 m2
      | .ct env2 => forL g b xs env2 m2
      | .bk env2 => .ok (.nx env2) m2
      | .rt rv => .ok (.rt rv) m2
def sFor (it : SemDs) (g : SemG) (b : SemS) : SemS := fun env m => (it env m).bind fun ds m1 => forL g b ds env m1
/-- the slot's own list is from now on data -/
def sFrz (i : Nat) (f : SemS) : SemS := fun env m => match env[i]? with
  | some (.own xs) => f (env.set i (.d (.lst xs))) m
  | _ => f env m

theorem RR.base {K : PySem.W.Frag} {H0 H H' : Hp} {w0 w w' : Wd} {rv : RV} {v : V} (E : Ext w0 H0 w H) (h : RR K H0 H w' H' rv v) : RR K H0 H0 w' H' (unpk rv) v := by
  cases rv with
  | d x => exact h
  | fl xs =>
    obtain ⟨a, vs, h1, h2, h3, h4, h5, h6⟩ := h
    exact ⟨a, vs, h1, h2, h3, h4, E.there a h5, h6⟩
  | pk xs => exact h
theorem Slots.setR {K : PySem.W.Frag} {w0 w w' : Wd} {H0 H H' : Hp} {σ : St} {env : Env} {rv : RV} {v : V} {s : Slot} (E0 : Ext w0 H0 w H) (S : Slots K w H0 σ H env) (E : Ext w H w' H') (r : RR K H0 H w' H' rv v) (i : Nat) (h : slotOf rv = some s) :
    Slots K w' H0 (σ.set i (some v)) H' (env.set i s) := by
  cases rv with
  | pk xs => cases h
  | d x => cases h; exact (S.ext E).setD i r
  | fl xs =>
    cases h
    obtain ⟨a, vs, rfl, h2, h3, h4, h5, h6⟩ := r
    have S' := S.ext E
    have key : ∀ {j : Nat} {ys : List D}, env[j]? = some (.own ys) → σ[j]? ≠ some (some (V.ref a)) := fun {j ys} e q => by
      obtain ⟨b, us, g1, g2, _⟩ := S.own j ys e
      rw [q] at g1
      cases g1
      rw [h5] at g2; cases g2
    have at_i : ∀ {j : Nat} {t : Slot}, (env.set i (.own xs))[j]? = some t → i = j → t = .own xs ∧ i < σ.length := fun {j t} e q => by
      subst q
      rw [List.getElem?_set_self'] at e
      cases hh : env[i]? with
      | none => rw [hh] at e; cases e
      | some u =>
        rw [hh] at e
        cases e
        exact ⟨rfl, by rw [← S.len]; exact (List.getElem?_eq_some_iff.mp hh).1⟩
    refine ⟨by rw [List.length_set, List.length_set]; exact S.len, fun j y e => ?_, fun j ys e => ?_, fun j k ys zs b e1 e2 s1 s2 => ?_⟩
    · by_cases q : i = j
      · exact nomatch (at_i e q).1
      · rw [List.getElem?_set_ne q] at e ⊢
        exact S'.dat j y e
    · by_cases q : i = j
      · obtain ⟨z, hl⟩ := at_i e q
        cases z
        subst q
        exact ⟨a, vs, List.getElem?_set_self hl, h2, h3, h4, E0.there a h5, h6⟩
      · rw [List.getElem?_set_ne q] at e ⊢
        exact S'.own j ys e
    · by_cases q1 : i = j
      · by_cases q2 : i = k
        · exact q1.symm.trans q2
        · rw [List.getElem?_set_ne q2] at e2 s2
          obtain ⟨z, hl⟩ := at_i e1 q1
          subst q1
          rw [List.getElem?_set_self hl] at s1
          cases s1
          exact absurd s2 (key e2)
      · rw [List.getElem?_set_ne q1] at e1 s1
        by_cases q2 : i = k
        · obtain ⟨z, hl⟩ := at_i e2 q2
          subst q2
          rw [List.getElem?_set_self hl] at s2
          cases s2
          exact absurd s1 (key e1)
        · rw [List.getElem?_set_ne q2] at e2 s2
          exact S'.dis j k ys zs b e1 e2 s1 s2
section
variable {X : Cx} {W : WX} {e : Expr} {f : SemR} {te : TE} {pos : Pos}
theorem PO.after {w0 w w1 : Wd} {H0 : Hp} {n : Nat} {D : Ends} {o : Out} {m' : Cells} (L : WLe w w1) (h : PO X w0 H0 w n D o m') : PO X w0 H0 w1 n D o m' := fun w' H' E L' => h w' H' E (L.trans L')
theorem WP.afterO {w0 w w1 : Wd} {H0 : Hp} {n : Nat} {D : Ends} {r : Res Out} {Z : Exn → Cells → Prop} (L : WLe w w1) (q : WP r (PO X w0 H0 w n D) Z) : WP r (PO X w0 H0 w1 n D) Z := WP.mono q (fun _ _ z => z.after L) fun _ _ z => z
/-- an exception of an expression, as a statement's -/
theorem PXs.of {w0 w : Wd} {H0 H : Hp} {σ : St} {x : Exn} {m' : Cells} (E : Ext w0 H0 w H) (h : PXs X W w0 H0 σ.length x m') : PX X W w H σ x m' := fun c d w' H' E' W' rx => h c d w' H' σ rfl (E.trans E') W' rx
theorem ss_nil : SSs X W [] sNop tNext := ⟨pss_nil, fun w0 H0 w σ H env m D E Wm S q => q w H E (.refl _) Wm σ rfl S⟩
theorem ss_pass : SSt X W (.Pass pos) sNop tNext := ⟨ps_pass, fun w0 H0 w σ H env m D E Wm S q => q w H E (.refl _) Wm σ rfl S⟩
theorem ss_doc {x j pos pos'} : SSt X W (.Expr (.Constant (.str x) j pos) pos') sNop tNext := ⟨ps_doc, fun w0 H0 w σ H env m D E Wm S q => q w H E (.refl _) Wm σ rfl S⟩
theorem ss_never {st : Stmt} : SSt X W st sBot tNever := ⟨ps_never, fun _ _ _ _ _ _ _ _ _ _ _ q => q⟩
theorem ss_one {st : Stmt} {f : SemS} {t : TS} (h : SSt X W st f t) : SSs X W [st] f t := ⟨pss_one h.ps, h.rd⟩
theorem ss_cons {st : Stmt} {rest : List Stmt} {f g : SemS} {t u : TS} (h : SSt X W st f t) (h2 : SSs X W rest g u) : SSs X W (st :: rest) (sSeq f g) (tSeq t u) := by
  refine ⟨pss_cons h.ps h2.ps, fun w0 H0 w σ H env m D E Wm S q => ?_⟩
  refine h.rd w0 H0 w σ H env m _ E Wm S (WP.mono (WP.of_bind q) (fun o m1 q w1 H1 E1 L1 W1 => ?_) fun _ _ z => z)
  cases o with
  | nx env1 => exact fun σ1 hl S1 => h2.rd w0 H0 w1 σ1 H1 env1 m1 D E1 W1 S1 (by rw [hl]; exact WP.afterO L1 q)
  | bk env1 => exact q w1 H1 E1 L1 W1
  | ct env1 => exact q w1 H1 E1 L1 W1
  | rt rv => exact q w1 H1 E1 L1 W1
theorem ss_ret (h : SE X W e f te) : SSt X W (.Return (some e) pos) (sRet f) (tRet te) := by
  refine ⟨ps_ret h.pe, fun w0 H0 w σ H env m D E Wm S q => ?_⟩
  refine h.rd w H0 σ H env m _ Wm S (WP.mono (WP.of_bind q) (fun rv m1 q w1 H1 v E1 W1 r1 => ?_) fun x m' z => PXs.of E z)
  exact q w1 H1 (E.trans E1) E1.le W1 v (r1.base E)
theorem ss_retN : SSt X W (.Return none pos) sRetN tRetN := ⟨ps_retN, fun w0 H0 w σ H env m D E Wm S q => q w H E (.refl _) Wm V.non .non⟩
theorem ss_expr (h : SE X W e f te) (hs : swapsWith e none pos.line X.env = pure false := by rfl) : SSt X W (.Expr e pos) (sExpr f) (tDrop te) := by
  refine ⟨ps_expr h.pe hs, fun w0 H0 w σ H env m D E Wm S q => ?_⟩
  refine h.rd w H0 σ H env m _ Wm S (WP.mono (WP.of_bind q) (fun rv m1 q w1 H1 v E1 W1 r1 => ?_) fun x m' z => PXs.of E z)
  exact q w1 H1 (E.trans E1) E1.le W1 σ rfl (S.ext E1)
theorem ss_if {c : Expr} {a b : List Stmt} {fc : SemB} {tc : TT} {fa fb : SemS} {ta tb : TS} (hc : STt X W c fc tc) (ha : SSs X W a fa ta) (hb : SSs X W b fb tb) : SSt X W (.If c a b pos) (sIf fc fa fb) (tIfS tc ta tb) := by
  refine ⟨ps_if hc.pt ha.ps hb.ps, fun w0 H0 w σ H env m D E Wm S q => ?_⟩
  refine hc.rd w H0 σ H env m _ Wm S (WP.mono (WP.of_bind q) (fun k m1 q w1 H1 E1 W1 => ?_) fun x m' z => PXs.of E z)
  cases k with
  | true =>
    rw [if_pos rfl] at q ⊢
    exact ha.rd w0 H0 w1 σ H1 env m1 D (E.trans E1) W1 (S.ext E1) (WP.afterO E1.le q)
  | false =>
    rw [if_neg Bool.false_ne_true] at q ⊢
    exact hb.rd w0 H0 w1 σ H1 env m1 D (E.trans E1) W1 (S.ext E1) (WP.afterO E1.le q)
theorem set_rd (i : Nat) (h : ∀ w H0 σ H env m Q, Wf X.K w H m → Slots X.K w H0 σ H env → WP (f env m) (PR X w H0 H Q) (PX X W w H σ) → te σ H Q) (w0 H0 w σ H env m) (D : Ends) (E : Ext w0 H0 w H) (Wm : Wf X.K w H m) (S : Slots X.K w H0 σ H env)
    (q : WP (sSet i f env m) (PO X w0 H0 w σ.length D) (PXs X W w0 H0 σ.length)) : tAsg te (gName i) D σ H := by
  refine h w H0 σ H env m _ Wm S (WP.mono (WP.of_bind q) (fun rv m1 q w1 H1 v E1 W1 r1 => ?_) fun x m' z => PXs.of E z)
  split at q
  · rename_i s e
    exact q w1 H1 (E.trans E1) E1.le W1 _ (by rw [List.length_set]) (S.setR E E1 r1 i e)
  · exact q.elim
theorem ss_set (i : Nat) {x : Str} {pos' : Pos} (hN : X.N.Nodup) (h : SE X W e f te) (hi : X.N[i]? = some x := by rfl) (hx : Loc X.env.scope x := by first | exact Or.inl rfl | exact Or.inr rfl) (hs : swapsWith e (some (.Name x pos')) pos.line X.env = pure false := by rfl)
    (hf : X.fn x = true ∨ X.env.scope.names.lookup x = some .local := by first | exact .inl rfl | exact .inr rfl | assumption) : SSt X W (.Assign [.Name x pos'] e pos) (sSet i f) (tAsg te (gName i)) :=
  ⟨ps_set hN hi hx h.pe hs hf, fun w0 H0 w σ H env m D E Wm S q => set_rd i h.rd w0 H0 w σ H env m D E Wm S q⟩
/-- name = [elt for ..], name a plain local -/
theorem ss_setC (i : Nat) {y : Str} {py : Pos} {elt tg iter : Expr} {ifs : List Expr} {scope : Scope} {own : List (Str × Nat)} {pos spos : Pos} {is : List Nat} {wi : TI} {g : TG} {tt : TT} {te : TE} {it : SemDs} {gs : SemG} {cond : SemB} {fe : SemR} (hc : X.calm = true) (hN : X.N.Nodup)
    (hi : SIt X W tg iter it wi) (ok : BlkOk X.N X.env.scope scope own)
    (hg : ∀ (s : Shared) (H : Hp) (C : Addr) (cl : List (Str × Addr)) (fp : List Addr), SGt (X.blk s H scope (compEnvC scope cl C X.env) fp) tg gs is g) (ht : ∀ (s : Shared) (H : Hp) (C : Addr) (cl : List (Str × Addr)) (fp : List Addr), SPt (X.blk s H scope (compEnvC scope cl C X.env) fp) W0 ifs cond tt)
    (he : ∀ (s : Shared) (H : Hp) (C : Addr) (cl : List (Str × Addr)) (fp : List Addr), SE (X.blk s H scope (compEnvC scope cl C X.env) fp) W0 elt fe te) (hy : X.N[i]? = some y := by rfl) (hyl : X.env.scope.names.lookup y = some .local := by rfl)
    (hsw : swapsWith (.ListComp elt [⟨tg, iter, ifs, 0⟩] scope pos) (some (.Name y py)) spos.line X.env = pure true := by exact sw_true rfl rfl rfl (by decide +kernel)) (hvs : ∀ i ∈ is, i ∈ own.map (·.2) := by decide) (hs : ∀ x, foldedSetIterable iter X.env x = pure x := by intro _; rfl) :
    SSt X W (.Assign [.Name y py] (.ListComp elt [⟨tg, iter, ifs, 0⟩] scope pos) spos) (sSet i (rComp it gs cond fe (own.map (·.2)))) (tAsg (tLc wi g tt te (own.map (·.2))) (gName i)) := by
  refine ⟨ps_setLc hc hN hy hyl hsw hi.pi ok (fun s H C cl fp => (hg s H C cl fp).pg) (fun s H C cl fp => (ht s H C cl fp).pt) (fun s H C cl fp => (he s H C cl fp).pe) hs, fun w0 H0 w σ H env m D E Wm S q => ?_⟩
  exact set_rd i (fun w H0 σ H env m Q Wm S q => comp_rd (X := X) (Y := X.blk X.s_0 (fun _ => none) scope (compEnvC scope [] 0 X.env) []) rfl hi hvs (hg _ _ _ _ _) (ht _ _ _ _ _) (he _ _ _ _ _) w H0 σ H env m Q Wm S q) w0 H0 w σ H env m D E Wm S q
theorem ss_asg {tg : Expr} {g : SemG} {is : List Nat} {tG : TG} (h : SE X W e f te) (hg : SGt X tg g is tG) (hs : swapsWithSole [tg] e pos.line X.env = pure false := by rfl) (hw : swappedStores [tg] e X.env = pure none := by rfl)
    (h1 : (assignEach [tg] X.env).map (·.2) = [assign tg X.env] := by rfl) : SSt X W (.Assign [tg] e pos) (sAsg g f) (tAsg te tG) := by
  refine ⟨ps_asg h.pe hg.pg hs hw h1, fun w0 H0 w σ H env m D E Wm S q => ?_⟩
  refine h.fz Wm S (WP.mono (WP.of_bind q) (fun x m1 q w1 H1 v E1 W1 r1 => ?_) fun x m' z => PXs.of E z)
  cases eg : g x env with
  | none => rw [eg] at q; exact q.elim
  | some env1 =>
    rw [eg] at q
    exact hg.rd w1 H0 σ H1 env m1 x v env1 _ W1 (S.ext E1) r1 eg fun σ' si S' => q w1 H1 (E.trans E1) E1.le W1 σ' si.1 S'
theorem ss_while {c : Expr} {body : List Stmt} {fc : SemB} {tc : TT} {fb : SemS} {tb : TS} (hp : PassesOwn (model X.prog X.w) X.A X.env X.xe) (hc : STt X W c fc tc) (hb : SSs X W body fb tb) : SSt X W (.While c body [] pos) (sWhile fc fb) (tWhile tc tb) := by
  refine ⟨ps_while hp hc.pt hb.ps, fun w0 H0 w σ H env m D E Wm S q => ?_⟩
  refine ⟨fun n σ1 H1 => σ1.length = σ.length ∧ ∃ w1 env1 m1, Ext w0 H0 w1 H1 ∧ WLe w w1 ∧ Wf X.K w1 H1 m1 ∧ Slots X.K w1 H0 σ1 H1 env1 ∧ WP (whileL fc fb n env1 m1) (PO X w0 H0 w σ.length D) (PXs X W w0 H0 σ.length), ⟨FUEL, rfl, w, env, m, E, .refl _, Wm, S, q⟩, ?_⟩
  rintro n σ1 H1 ⟨hl, w1, env1, m1, E1, L1, W1, S1, q1⟩
  cases n with
  | zero => exact q1.elim
  | succ n =>
    refine hc.rd w1 H0 σ1 H1 env1 m1 _ W1 S1 (WP.mono (WP.of_bind q1) (fun k m2 q2 w2 H2 E2 W2 => ?_) fun x m' z => PXs.of E1 (by rw [hl]; exact z))
    cases k with
    | false =>
      rw [if_neg Bool.false_ne_true] at q2 ⊢
      exact q2 w2 H2 (E1.trans E2) (L1.trans E2.le) W2 σ1 hl (S1.ext E2)
    | true =>
      rw [if_pos rfl] at q2 ⊢
      refine ⟨fun σ3 H3 => σ3.length = σ.length ∧ ∃ w3 env3 m3, Ext w0 H0 w3 H3 ∧ WLe w w3 ∧ Wf X.K w3 H3 m3 ∧ Slots X.K w3 H0 σ3 H3 env3 ∧ WP (whileL fc fb n env3 m3) (PO X w0 H0 w σ.length D) (PXs X W w0 H0 σ.length), fun σ3 H3 z => ⟨n, Nat.lt_succ_self n, z⟩, ?_⟩
      refine hb.rd w0 H0 w2 σ1 H2 env1 m2 _ (E1.trans E2) W2 (S1.ext E2) (WP.mono (WP.of_bind q2) (fun o m3 q3 w3 H3 E3 L3 W3 => ?_) fun x m' z => by rw [hl]; exact z)
      have L := (L1.trans E2.le).trans L3
      cases o with
      | nx env3 => exact fun σ3 hl3 S3 => ⟨hl3.trans hl, w3, env3, m3, E3, L, W3, S3, q3⟩
      | ct env3 => exact fun σ3 hl3 S3 => ⟨hl3.trans hl, w3, env3, m3, E3, L, W3, S3, q3⟩
      | bk env3 => exact fun σ3 hl3 S3 => q3 w3 H3 E3 L W3 σ3 (hl3.trans hl) S3
      | rt rv => exact q3 w3 H3 E3 L W3
theorem ss_for {tg iter : Expr} {body : List Stmt} {it : SemDs} {wi : TI} {g : SemG} {is : List Nat} {tG : TG} {fb : SemS} {tb : TS} (hp : PassesOwn (model X.prog X.w) X.A X.env X.xe) (hc : X.calm = true) (hi : SIt X W tg iter it wi) (hg : SGt X tg g is tG) (hb : SSs X W body fb tb)
    (hs : ∀ x, foldedSetIterable iter X.env x = pure x := by intro _; rfl) : SSt X W (.For tg iter body [] pos) (sFor it g fb) (tFor wi tG tb) := by
  refine ⟨ps_for hp hc hi.pi hg.pg hb.ps hs, fun w0 H0 w σ H env m D E Wm S q => ?_⟩
  refine hi.rd w H0 σ H env m _ Wm S (WP.mono (WP.of_bind q) (fun ds m1 q w1 H1 J E1 W1 wk => ?_) fun x m' z => PXs.of E z)
  obtain ⟨G, Yi, hw, hG, hY⟩ := wk
  refine for_it hw (fun i σ2 H2 => σ2.length = σ.length ∧ ∃ w2 env2 m2, Ext w0 H0 w2 H2 ∧ WLe w1 w2 ∧ Wf X.K w2 H2 m2 ∧ Slots X.K w2 H0 σ2 H2 env2 ∧ WP (forL g fb (ds.drop i) env2 m2) (PO X w0 H0 w σ.length D) (PXs X W w0 H0 σ.length)) ?_ ?_ ?_ ?_
  · exact ⟨rfl, w1, env, m1, E.trans E1, .refl _, W1, S.ext E1, q⟩
  · rintro i σ2 H2 _ ⟨_, w2, env2, m2, _, L2, W2, _⟩
    exact hG w2 H2 L2 W2.sub
  · rintro i v σ2 H2 H3 hi' ⟨hl, w2, env2, m2, E2, L2, W2, S2, q2⟩ y
    obtain ⟨x, w3, hx, E3, W3, r3⟩ := hY i H2 v H3 hi' y w2 m2 L2 W2
    have hdrop : ds.drop i = x :: ds.drop (i + 1) := by
      rw [List.drop_eq_getElem_cons hi']
      rw [List.getElem?_eq_getElem hi'] at hx
      cases hx; rfl
    rw [hdrop] at q2
    dsimp only [forL] at q2
    cases eg : g x env2 with
    | none => rw [eg] at q2; exact q2.elim
    | some env3 =>
      rw [eg] at q2
      refine hg.rd w3 H0 σ2 H3 env2 m2 x v env3 _ W3 (S2.ext E3) r3 eg fun σ3 si S3 => ?_
      have hl3 : σ3.length = σ.length := si.1.trans hl
      refine hb.rd w0 H0 w3 σ3 H3 env3 m2 _ (E2.trans E3) W3 S3 (WP.mono (WP.of_bind q2) (fun o m4 q4 w4 H4 E4 L4 W4 => ?_) fun x m' z => by rw [hl3]; exact z)
      have L := (L2.trans E3.le).trans L4
      cases o with
      | nx env4 => exact fun σ4 hl4 S4 => ⟨hl4.trans hl3, w4, env4, m4, E4, L, W4, S4, q4⟩
      | ct env4 => exact fun σ4 hl4 S4 => ⟨hl4.trans hl3, w4, env4, m4, E4, L, W4, S4, q4⟩
      | bk env4 => exact fun σ4 hl4 S4 => q4 w4 H4 E4 (E1.le.trans L) W4 σ4 (hl4.trans hl3) S4
      | rt rv => exact q4 w4 H4 E4 (E1.le.trans L) W4
  · rintro σ2 H2 ⟨hl, w2, env2, m2, E2, L2, W2, S2, q2⟩
    rw [List.drop_length] at q2
    exact q2 w2 H2 E2 (E1.le.trans L2) W2 σ2 hl S2
end
end Ev
/-! Ev, part J: lists that change, several targets, defs, a law's end. -/
namespace Ev
open PySem PySem.Spec L2

/-! ### a slot's list -/
def lget (i : Nat) (env : Env) (m : Cells) : Option (List D) := match env[i]? with
  | some (.own xs) => some xs
  | some (.d (.ref n)) => match m[n]? with
    | some (.lst xs) => some xs
    | none => none
  | _ => none
def lupd (i : Nat) (env : Env) (m : Cells) (xs : List D) : Env × Cells := match env[i]? with
  | some (.d (.ref n)) => (env, m.set n (.lst xs))
  | _ => (env.set i (.own xs), m)
theorem Slots.updOwn {K : PySem.W.Frag} {w : Wd} {H0 H : Hp} {σ : St} {env : Env} {i : Nat} {xs xs' : List D} {a : Addr} {vs' : List V} (S : Slots K w H0 σ H env) (e : env[i]? = some (.own xs)) (hs : σ[i]? = some (some (V.ref a))) (r : RDs K w xs' vs') :
    Slots K w H0 σ (upd H a (.lst vs')) (env.set i (.own xs')) := by
  obtain ⟨b, us, g1, g2, g3, g4, g5, g6⟩ := S.own i xs e
  rw [hs] at g1
  cases g1
  have hi : i < env.length := (List.getElem?_eq_some_iff.mp e).1
  refine ⟨by rw [List.length_set]; exact S.len, fun j y h => ?_, fun j ys h => ?_, fun j k ys zs b e1 e2 s1 s2 => ?_⟩
  · by_cases q : i = j
    · subst q; rw [List.getElem?_set_self hi] at h; cases h
    · rw [List.getElem?_set_ne q] at h; exact S.dat j y h
  · by_cases q : i = j
    · subst q
      rw [List.getElem?_set_self hi] at h
      cases h
      exact ⟨a, vs', hs, upd_same, g3, g4, g5, r⟩
    · rw [List.getElem?_set_ne q] at h
      obtain ⟨b, us, h1, h2, h3⟩ := S.own j ys h
      have hb : b ≠ a := fun z => by
        subst z
        exact q (S.dis i j xs ys b e h hs h1)
      exact ⟨b, us, h1, by rw [upd_ne hb]; exact h2, h3⟩
  · have f : ∀ {j : Nat} {ys : List D}, (env.set i (.own xs'))[j]? = some (.own ys) → ∃ zs, env[j]? = some (.own zs) := fun {j ys} h => by
      by_cases q : i = j
      · subst q; exact ⟨xs, e⟩
      · rw [List.getElem?_set_ne q] at h; exact ⟨ys, h⟩
    obtain ⟨ys', h1⟩ := f e1
    obtain ⟨zs', h2⟩ := f e2
    exact S.dis j k ys' zs' b h1 h2 s1 s2
theorem slot_upd {K : PySem.W.Frag} {w0 w : Wd} {H0 H : Hp} {σ : St} {env : Env} {m : Cells} {i : Nat} {xs : List D} (E : Ext w0 H0 w H) (Wm : Wf K w H m) (S : Slots K w H0 σ H env) (h : lget i env m = some xs) :
    ∃ a vs, σ[i]? = some (some (V.ref a)) ∧ H a = some (.lst vs) ∧ RDs K w xs vs ∧ ∀ xs' vs', RDs K w xs' vs' → Ext w0 H0 w (upd H a (.lst vs')) ∧ Wf K w (upd H a (.lst vs')) (lupd i env m xs').2 ∧ Slots K w H0 σ (upd H a (.lst vs')) (lupd i env m xs').1 := by
  unfold lget at h
  split at h
  · rename_i ys e
    cases h
    obtain ⟨a, vs, h1, h2, h3, h4, h5, h6⟩ := S.own i xs e
    refine ⟨a, vs, h1, h2, h6, fun xs' vs' r => ?_⟩
    have u : lupd i env m xs' = (env.set i (.own xs'), m) := by unfold lupd; rw [e]
    rw [u]
    exact ⟨E.updFresh h5, Wm.upd h3 h4, S.updOwn e h1 r⟩
  · rename_i n e
    split at h
    · rename_i ys e2
      cases h
      obtain ⟨v, h1, h2⟩ := S.dat i _ e
      obtain ⟨b, g1, vs, g2, g3⟩ := Wm.cell n _ e2
      cases h2 with
      | ref q =>
        rw [g1] at q
        cases q
        refine ⟨b, vs, h1, g2, g3, fun xs' vs' r => ?_⟩
        have u : lupd i env m xs' = (env, m.set n (.lst xs')) := by unfold lupd; rw [e]
        rw [u]
        have hb := List.mem_of_getElem? g1
        refine ⟨⟨E.le, fun c o q nq => ?_, E.newF, E.newI, fun c q => ?_⟩, ⟨fun c o q => ?_, Wm.nof, Wm.inj, by rw [List.length_set]; exact Wm.len, fun k c q => ?_, Wm.xi⟩, ⟨S.len, S.dat, fun j ys q => ?_, S.dis⟩⟩
        · have hc : c ≠ b := fun z => by
            subst z
            rcases E.newI _ hb with z | z
            · exact nq z
            · rw [q] at z; cases z
          rw [upd_ne hc]
          exact E.keep c o q nq
        · by_cases hc : c = b
          · subst hc; rw [upd_same] at q; cases q
          · rw [upd_ne hc] at q; exact E.there c q
        · have hc : c ≠ b := fun z => by
            subst z
            rw [Wm.nof n _ g1] at q; cases q
          rw [upd_ne hc]
          exact Wm.sub c o q
        · by_cases hk : n = k
          · subst hk
            have hl : n < m.length := (List.getElem?_eq_some_iff.mp e2).1
            rw [List.getElem?_set_self hl] at q
            cases q
            exact ⟨b, g1, vs', upd_same, r⟩
          · rw [List.getElem?_set_ne hk] at q
            obtain ⟨d, k1, k2⟩ := Wm.cell k c q
            have hd : d ≠ b := fun z => by
              subst z
              exact hk (Wm.inj n k _ g1 k1)
            refine ⟨d, k1, ?_⟩
            cases c with
            | lst zs =>
              obtain ⟨us, k3, k4⟩ := k2
              exact ⟨us, by rw [upd_ne hd]; exact k3, k4⟩
        · obtain ⟨d, us, k1, k2, k3, k4, k5⟩ := S.own j ys q
          have hd : d ≠ b := fun z => by
            subst z
            exact k4 hb
          exact ⟨d, us, k1, by rw [upd_ne hd]; exact k2, k3, k4, k5⟩
    · cases h
  · cases h
def sAppend (i : Nat) (f : SemR) : SemS := fun env m => if (lget i env m).isSome then (fz f env m).bind fun x m1 => match lget i env m1 with
  | some xs => if xs.length < LN then .ok (.nx (lupd i env m1 (xs ++ [x])).1) (lupd i env m1 (xs ++ [x])).2 else .bot
  | none => .bot
  else .bot
def sSetItem (i : Nat) (fi fe : SemR) : SemS := fun env m => (fz fe env m).bind fun x m1 => if (lget i env m1).isSome then (vl fi env m1).bind fun k m2 => match lget i env m2, k with
  | some xs, .int k => match ixN xs.length k with
    | some j => .ok (.nx (lupd i env m2 (xs.set j x)).1) (lupd i env m2 (xs.set j x)).2
    | none => .bot
  | _, _ => .bot
  else .bot
/-- name = a new list, from now on a cell -/
def sRef (i : Nat) (f : SemR) : SemS := fun env m => (f env m).bind fun rv m1 => match rv with
  | .fl xs => .ok (.nx (env.set i (.d (.ref m1.length)))) (m1 ++ [.lst xs])
  | _ => .bot
def sAug (g : D → D → Option RV) (i : Nat) (f : SemR) : SemS := fun env m => match env[i]? with
  | some (.d x) => (vl f env m).bind fun y m1 => match g x y with
    | some (.d z) => .ok (.nx (env.set i (.d z))) m1
    | _ => .bot
  | _ => .bot
def sPar2 (i j : Nat) (f g : SemR) : SemS := fun env m => (f env m).bind fun r1 m1 => (g env m1).bind fun r2 m2 => match slotOf r1, slotOf r2 with
  | some s1, some s2 => .ok (.nx ((env.set i s1).set j s2)) m2
  | _, _ => .bot
def sPar3 (i j l : Nat) (f g h : SemR) : SemS := fun env m => (f env m).bind fun r1 m1 => (g env m1).bind fun r2 m2 => (h env m2).bind fun r3 m3 => match slotOf r1, slotOf r2, slotOf r3 with
  | some s1, some s2, some s3 => .ok (.nx (((env.set i s1).set j s2).set l s3)) m3
  | _, _, _ => .bot
section
variable {X : Cx} {W : WX} {e : Expr} {f : SemR} {te : TE} {pos : Pos}
theorem ss_append (i : Nat) {x : Str} {p ap cp : Pos} (h : SE X W e f te) (hN : X.N[i]? = some x := by rfl) (hv : Vis X.env.scope x := by first | exact Or.inl rfl | exact Or.inr (Or.inl rfl) | exact Or.inr (Or.inr rfl)) (hd : (x == ("__debug__" : Str)) = false := by decide) (hcd : (x == ("__classdict__" : Str)) = false := by decide)
    (hbase : attributeBase (.Name x p) "append" X.env (eval (.Name x p) X.env) = eval (.Name x p) X.env := by rfl)
    (hfew : ((backTo cp (starEach (e :: []) X.env)).all (fun x => !x.1) && (backToKw cp (keywordEach [] X.env)).all (fun x => x.1.isSome)
      && decide ((e :: []).length + ([] : List Keyword).length + (if ([] : List Keyword).isEmpty then 0 else 1) < 30)) = true := by rfl)
    (hline : (ap.endLine == cp.line) = true := by rfl) (hs : starEach (e :: []) X.env = (false, eval e X.env) :: starEach [] X.env := by rfl) (hplain : (backTo cp (starEach [] X.env)).any (·.1) = false := by rfl)
    (hsw : swapsWith (.Call (.Attribute (.Name x p) "append" ap) [e] [] cp) none pos.line X.env = pure false := by rfl) :
    SSt X W (.Expr (.Call (.Attribute (.Name x p) "append" ap) [e] [] cp) pos) (sAppend i f) (tDrop (tBM X.K "list" rAppend (tVar i) (tCons te tNil))) := by
  refine ⟨ps_expr (pe_bm PySem.F.plainAttrs_list PySem.F.slot_list_append PySem.F.type_list_append mt_append (pe_var hN hv hd hcd) (pa_cons h.pe pa_nil hs) hbase hfew hline hs hplain) hsw, fun w0 H0 w σ H env m D E Wm S q => ?_⟩
  unfold sAppend at q
  split at q
  · rename_i hs
    obtain ⟨ys, hy⟩ := Option.isSome_iff_exists.mp hs
    obtain ⟨a, vs, k1, k2, _⟩ := slot_upd E Wm S hy
    refine ⟨_, k1, .inl ⟨rfl, vs, .inl (.inl k2)⟩, ?_⟩
    refine h.fz Wm S (WP.mono (WP.of_bind q) (fun x m1 q w1 H1 v1 E1 W1 r1 => ?_) fun x m' z => PXs.of E z)
    split at q
    · rename_i xs hx
      split at q
      · rename_i hl
        obtain ⟨b, us, g1, g2, g3, g4⟩ := slot_upd (E.trans E1) W1 (S.ext E1) hx
        rw [k1] at g1
        cases g1
        obtain ⟨E2, W2, S2⟩ := g4 (xs ++ [x]) (us ++ [v1]) (g3.append (.cons r1 .nil))
        exact ⟨a, us, v1, rfl, rfl, g2, by rw [← g3.length]; exact ln_lt (Nat.le_of_lt hl), q w1 _ E2 E1.le W2 σ rfl S2⟩
      · exact q.elim
    · exact q.elim
  · exact q.elim
theorem ss_setitem (i : Nat) {x : Str} {p pi : Pos} {ei : Expr} {fi : SemR} {ti : TE} (h : SE X W e f te) (hI : SE X W ei fi ti) (hN : X.N[i]? = some x := by rfl) (hv : Vis X.env.scope x := by first | exact Or.inl rfl | exact Or.inr (Or.inl rfl) | exact Or.inr (Or.inr rfl)) (hd : (x == ("__debug__" : Str)) = false := by decide) (hcd : (x == ("__classdict__" : Str)) = false := by decide)
    (ha : ∀ v, assign (.Subscript (.Name x p) ei pi) X.env v = (do
      let ov ← holding [v] (eval (.Name x p) X.env)
      let iv ← holding [v, ov] (eval ei X.env)
      standAt pi
      holding [v, ov, iv] (setItem ov iv v)
      release [v, ov, iv] []) := by intro _; rfl)
    (hs : swapsWithSole [.Subscript (.Name x p) ei pi] e pos.line X.env = pure false := by rfl) (hw : swappedStores [.Subscript (.Name x p) ei pi] e X.env = pure none := by rfl) (h1 : (assignEach [.Subscript (.Name x p) ei pi] X.env).map (·.2) = [assign (.Subscript (.Name x p) ei pi) X.env] := by rfl) :
    SSt X W (.Assign [.Subscript (.Name x p) ei pi] e pos) (sSetItem i fi f) (tAsg te (L2.gSub (tVar i) ti rSetL)) := by
  refine ⟨ps_asg h.pe (pg_sub (pe_var hN hv hd hcd) hI.pe set_list ha) hs hw h1, fun w0 H0 w σ H env m D E Wm S q => ?_⟩
  refine h.fz Wm S (WP.mono (WP.of_bind q) (fun x m1 q w1 H1 v1 E1 W1 r1 => ?_) fun x m' z => PXs.of E z)
  split at q
  · rename_i hs
    obtain ⟨ys, hy⟩ := Option.isSome_iff_exists.mp hs
    obtain ⟨a, vs, k1, k2, _⟩ := slot_upd (E.trans E1) W1 (S.ext E1) hy
    refine ⟨_, k1, ?_⟩
    refine hI.vl W1 (S.ext E1) (WP.mono (WP.of_bind q) (fun k m2 q w2 H2 v2 E2 W2 r2 => ?_) fun x m' z => PXs.of (E.trans E1) z)
    have E12 := E1.trans E2
    split at q
    · rename_i xs k hx
      split at q
      · rename_i j hj
        obtain ⟨b, us, g1, g2, g3, g4⟩ := slot_upd (E.trans E12) W2 (S.ext E12) hx
        rw [k1] at g1
        cases g1
        obtain ⟨E3, W3, S3⟩ := g4 (xs.set j x) (us.set j v1) (g3.set (r1.le E2.le) j)
        exact ⟨a, us, k, j, rfl, r2.int, g2, by rw [← g3.length]; exact hj, q w2 _ E3 E12.le W3 σ rfl S3⟩
      · exact q.elim
    · exact q.elim
  · exact q.elim
end
end Ev
/-! Ev, part K: cells made, op=, several targets, defs, a law's end. -/
namespace Ev
open PySem PySem.Spec L2
section
variable {X : Cx} {W : WX} {e : Expr} {f : SemR} {te : TE} {pos : Pos}
/-! ### name = a new list, a cell from now on -/
theorem ref_new {K : PySem.W.Frag} {w0 w : Wd} {H0 H : Hp} {m : Cells} {a : Addr} {xs : List D} {vs : List V} (E : Ext w0 H0 w H) (Wm : Wf K w H m) (ha : H a = some (.lst vs)) (hf : w.F a = none) (hi : a ∉ w.ι) (h0 : H0 a = none) (r : RDs K w xs vs) :
    Ext w0 H0 { w with ι := w.ι ++ [a] } H ∧ Wf K { w with ι := w.ι ++ [a] } H (m ++ [.lst xs]) ∧ WLe w { w with ι := w.ι ++ [a] } ∧ RD K { w with ι := w.ι ++ [a] } (.ref m.length) (V.ref a) := by
  have L : WLe w { w with ι := w.ι ++ [a] } := ⟨fun _ _ h => h, fun n b h => by
    show (w.ι ++ [a])[n]? = some b
    rw [List.getElem?_append_left (List.getElem?_eq_some_iff.mp h).1]
    exact h, rfl⟩
  have at_ : ∀ {n : Nat} {b : Addr}, (w.ι ++ [a])[n]? = some b → w.ι[n]? = some b ∨ (n = w.ι.length ∧ b = a) := fun {n b} h => by
    by_cases hn : n < w.ι.length
    · rw [List.getElem?_append_left hn] at h; exact .inl h
    · rw [List.getElem?_append_right (by omega)] at h
      have : n - w.ι.length = 0 := by
        have := (List.getElem?_eq_some_iff.mp h).1
        simp at this
        omega
      rw [this] at h
      simp at h
      exact .inr ⟨by omega, h.symm⟩
  refine ⟨⟨E.le.trans L, E.keep, E.newF, fun b hb => ?_, E.there⟩, ⟨Wm.sub, fun n b h => ?_, fun i j b h1 h2 => ?_, ?_, fun n c h => ?_, Wm.xi⟩, L, .ref ?_⟩
  · rcases List.mem_append.mp hb with q | q
    · exact E.newI b q
    · rw [List.mem_singleton.mp q]; exact .inr h0
  · rcases at_ h with q | ⟨_, rfl⟩
    · exact Wm.nof n b q
    · exact hf
  · rcases at_ h1 with q | ⟨q, rfl⟩ <;> rcases at_ h2 with q' | ⟨q', z⟩
    · exact Wm.inj i j b q q'
    · subst z; exact absurd (List.mem_of_getElem? q) hi
    · exact absurd (List.mem_of_getElem? q') hi
    · omega
  · show (w.ι ++ [a]).length = (m ++ [Cell.lst xs]).length
    rw [List.length_append, List.length_append, Wm.len]; rfl
  · by_cases hn : n < m.length
    · rw [List.getElem?_append_left hn] at h
      obtain ⟨b, k1, k2⟩ := Wm.cell n c h
      exact ⟨b, L.pre n b k1, k2.le L⟩
    · rw [List.getElem?_append_right (by omega)] at h
      have : n - m.length = 0 := by
        have := (List.getElem?_eq_some_iff.mp h).1
        simp at this
        omega
      rw [this] at h
      simp at h
      subst h
      refine ⟨a, ?_, vs, ha, r.le L⟩
      have : n = w.ι.length := by rw [Wm.len]; omega
      rw [this]
      show (w.ι ++ [a])[w.ι.length]? = some a
      simp
  · rw [← Wm.len]
    show (w.ι ++ [a])[w.ι.length]? = some a
    simp
theorem ss_ref (i : Nat) {x : Str} {pos' : Pos} (hN : X.N.Nodup) (h : SE X W e f te) (hi : X.N[i]? = some x := by rfl) (hx : Loc X.env.scope x := by first | exact Or.inl rfl | exact Or.inr rfl) (hs : swapsWith e (some (.Name x pos')) pos.line X.env = pure false := by rfl)
    (hf : X.fn x = true ∨ X.env.scope.names.lookup x = some .local := by first | exact .inl rfl | exact .inr rfl | assumption) : SSt X W (.Assign [.Name x pos'] e pos) (sRef i f) (tAsg te (gName i)) := by
  refine ⟨ps_set hN hi hx h.pe hs hf, fun w0 H0 w σ H env m D E Wm S q => ?_⟩
  refine h.rd w H0 σ H env m _ Wm S (WP.mono (WP.of_bind q) (fun rv m1 q w1 H1 v E1 W1 r1 => ?_) fun x m' z => PXs.of E z)
  split at q
  · rename_i xs
    obtain ⟨a, vs, rfl, h2, h3, h4, h5, h6⟩ := r1
    have E01 := E.trans E1
    obtain ⟨E2, W2, L2, r2⟩ := ref_new E01 W1 h2 h3 h4 (E.there a h5) h6
    obtain ⟨E3, _, _, _⟩ := ref_new E1 W1 h2 h3 h4 h5 h6
    exact q _ _ E2 (E1.le.trans L2) W2 _ (by rw [List.length_set]) ((S.ext E3).setD i r2)
  · exact q.elim

/-! ### name op= e -/
theorem ss_aug (i : Nat) {x : Str} {op : Operator} {g : D → D → Option RV} {r : R2} {pos' : Pos} (hN : X.N.Nodup) (ho : OpS X (inplaceOp op) g r) (h : SE X W e f te) (hi : X.N[i]? = some x := by rfl) (hx : Loc X.env.scope x := by first | exact Or.inl rfl | exact Or.inr rfl)
    (hf : X.fn x = true ∨ X.env.scope.names.lookup x = some .local := by first | exact .inl rfl | exact .inr rfl | assumption) : SSt X W (.AugAssign (.Name x pos') op e pos) (sAug g i f) (tAug i te r) := by
  refine ⟨ps_aug hN hi hx h.pe ho.op hf, fun w0 H0 w σ H env m D E Wm S q => ?_⟩
  unfold sAug at q
  split at q
  · rename_i y ey
    obtain ⟨v, k1, k2⟩ := S.dat i y ey
    refine ⟨v, k1, h.vl Wm S (WP.mono (WP.of_bind q) (fun z m1 q w1 H1 v1 E1 W1 r1 => ?_) fun x m' z => PXs.of E z)⟩
    split at q
    · rename_i z' eg
      exact ho.rd w1 H0 H1 m1 y z v v1 _ _ W1 (.inl (k2.le E1.le)) r1 eg fun w' H' v' E' W' rr => q w' H' ((E.trans E1).trans E') (E1.le.trans E'.le) W' _ (by rw [List.length_set]) ((S.ext (E1.trans E')).setD i rr)
    · exact q.elim
  · exact q.elim
theorem ops_iadd : OpS X (inplaceOp .Add) (fun x y => match x, y with | .int i, .int j => some (.d (.int (i + j))) | _, _ => none) (rI0 fun i j => .int (i + j)) := ops_ints0 iop_add
theorem ops_isub : OpS X (inplaceOp .Sub) (fun x y => match x, y with | .int i, .int j => some (.d (.int (i - j))) | _, _ => none) (rI0 fun i j => .int (i - j)) := ops_ints0 iop_sub

/-! ### a, b = x, y -/
theorem Slots.setR' {K : PySem.W.Frag} {w' : Wd} {H0 H' : Hp} {σ : St} {env : Env} {rv : RV} {v : V} {s : Slot} {H : Hp} (S : Slots K w' H0 σ H' env) (r : RR K H0 H w' H' rv v) (h0 : ∀ a, v = V.ref a → H a = none → H0 a = none) (i : Nat) (h : slotOf rv = some s)
    (key : ∀ a, v = V.ref a → H a = none → ∀ (j : Nat) ys, env[j]? = some (.own ys) → σ[j]? ≠ some (some (V.ref a))) : Slots K w' H0 (σ.set i (some v)) H' (env.set i s) := by
  cases rv with
  | pk xs => cases h
  | d x => cases h; exact S.setD i r
  | fl xs =>
    cases h
    obtain ⟨a, vs, rfl, h2, h3, h4, h5, h6⟩ := r
    have key := key a rfl h5
    have at_i : ∀ {j : Nat} {t : Slot}, (env.set i (.own xs))[j]? = some t → i = j → t = .own xs ∧ i < σ.length := fun {j t} e q => by
      subst q
      rw [List.getElem?_set_self'] at e
      cases hh : env[i]? with
      | none => rw [hh] at e; cases e
      | some u =>
        rw [hh] at e
        cases e
        exact ⟨rfl, by rw [← S.len]; exact (List.getElem?_eq_some_iff.mp hh).1⟩
    refine ⟨by rw [List.length_set, List.length_set]; exact S.len, fun j y e => ?_, fun j ys e => ?_, fun j k ys zs b e1 e2 s1 s2 => ?_⟩
    · by_cases q : i = j
      · exact nomatch (at_i e q).1
      · rw [List.getElem?_set_ne q] at e ⊢
        exact S.dat j y e
    · by_cases q : i = j
      · obtain ⟨z, hl⟩ := at_i e q
        cases z
        subst q
        exact ⟨a, vs, List.getElem?_set_self hl, h2, h3, h4, h0 a rfl h5, h6⟩
      · rw [List.getElem?_set_ne q] at e ⊢
        exact S.own j ys e
    · by_cases q1 : i = j
      · by_cases q2 : i = k
        · exact q1.symm.trans q2
        · rw [List.getElem?_set_ne q2] at e2 s2
          obtain ⟨z, hl⟩ := at_i e1 q1
          subst q1
          rw [List.getElem?_set_self hl] at s1
          cases s1
          exact absurd s2 (key k zs e2)
      · rw [List.getElem?_set_ne q1] at e1 s1
        by_cases q2 : i = k
        · obtain ⟨z, hl⟩ := at_i e2 q2
          subst q2
          rw [List.getElem?_set_self hl] at s2
          cases s2
          exact absurd s1 (key j ys e1)
        · rw [List.getElem?_set_ne q2] at e2 s2
          exact S.dis j k ys zs b e1 e2 s1 s2
theorem RR.ext {K : PySem.W.Frag} {H0 H H1 H2 : Hp} {w1 w2 : Wd} {rv : RV} {v : V} (h : RR K H0 H w1 H1 rv v) (E : Ext w1 H1 w2 H2) : RR K H0 H w2 H2 rv v := by
  cases rv with
  | d x => exact RD.le E.le h
  | fl xs =>
    obtain ⟨a, vs, h1, h2, h3, h4, h5, h6⟩ := h
    exact ⟨a, vs, h1, E.keep a _ h2 h4, E.noF h3 (by rw [h2]; exact fun z => nomatch z), E.noI h4 (by rw [h2]; exact fun z => nomatch z), h5, h6.le E.le⟩
  | pk xs =>
    obtain ⟨a, vs, h1, h2, h3, h4, h5, h6⟩ := h
    exact ⟨a, vs, h1, E.keep a _ h2 h4, E.noF h3 (by rw [h2]; exact fun z => nomatch z), E.noI h4 (by rw [h2]; exact fun z => nomatch z), h5, h6.le E.le⟩
/-- a new list's address as against the slots' lists -/
theorem fresh_key {K : PySem.W.Frag} {w : Wd} {H0 H : Hp} {σ : St} {env : Env} (S : Slots K w H0 σ H env) : ∀ a, H a = none → ∀ (j : Nat) ys, env[j]? = some (.own ys) → σ[j]? ≠ some (some (V.ref a)) := fun a ha j ys e q => by
  obtain ⟨b, us, g1, g2, _⟩ := S.own j ys e
  rw [q] at g1
  cases g1
  rw [ha] at g2; cases g2
variable {a b c : Expr} {fa fb fc : SemR} {ta tb tc : TE}
theorem ss_par2 (i j : Nat) {x y : Str} {px py pt : Pos} {kt k2 pt2} (hc : X.calm = true) (hN : X.N.Nodup) (ha : SE X W a fa ta) (hb : SE X W b fb tb) (hij : i ≠ j := by decide) (hi : X.N[i]? = some x := by rfl) (hj : X.N[j]? = some y := by rfl)
    (hx : X.env.scope.names.lookup x = some .local := by rfl) (hy : X.env.scope.names.lookup y = some .local := by rfl) (hw : swappedStores [.Tuple [.Name x px, .Name y py] kt pt] (.Tuple [a, b] k2 pt2) X.env = pure (some [x, y]) := by rfl)
    (hs1 : starEach (a :: [b]) X.env = (false, eval a X.env) :: starEach [b] X.env := by rfl) (hs2 : starEach (b :: []) X.env = (false, eval b X.env) :: starEach [] X.env := by rfl)
    (hs : swapsWithSole [.Tuple [.Name x px, .Name y py] kt pt] (.Tuple [a, b] k2 pt2) pos.line X.env = pure false := by rfl) :
    SSt X W (.Assign [.Tuple [.Name x px, .Name y py] kt pt] (.Tuple [a, b] k2 pt2) pos) (sPar2 i j fa fb) (tPar i j (tCons ta (tCons tb tNil))) := by
  refine ⟨ps_par hc hN hi hj hij hx hy (pa_cons ha.pe (pa_cons hb.pe pa_nil hs2) hs1) hw hs, fun w0 H0 w σ H env m D E Wm S q => ?_⟩
  refine ha.rd w H0 σ H env m _ Wm S (WP.mono (WP.of_bind q) (fun r1 m1 q w1 H1 v1 E1 W1 rr1 => ?_) fun x m' z => PXs.of E z)
  refine hb.rd w1 H0 σ H1 env m1 _ W1 (S.ext E1) (WP.mono (WP.of_bind q) (fun r2 m2 q w2 H2 v2 E2 W2 rr2 => ?_) fun x m' z => PXs.of (E.trans E1) z)
  refine ⟨v1, v2, rfl, ?_⟩
  split at q
  · rename_i s1 s2 e1 e2
    have E12 := E1.trans E2
    have S1 := (S.ext E12).setR' (rr1.ext E2) (fun a _ z => E.there a z) i e1 fun a _ z => fresh_key S a z
    refine q w2 H2 (E.trans E12) E12.le W2 _ (by rw [List.length_set, List.length_set]) (S1.setR' rr2 (fun a _ z => (E.trans E1).there a z) j e2 fun a hv z k ys ek => ?_)
    -- the second new list is none of the slots' ones, nor the first
    intro qk
    by_cases hik : i = k
    · subst hik
      have hl : i < σ.length := by
        have := (List.getElem?_eq_some_iff.mp qk).1
        rwa [List.length_set] at this
      rw [List.getElem?_set_self hl] at qk
      have hle : i < env.length := by rw [S.len]; exact hl
      rw [List.getElem?_set_self hle] at ek
      cases qk
      cases ek
      cases r1 with
      | fl us =>
        obtain ⟨a', vs', q1, q2, _⟩ := rr1
        cases q1
        rw [z] at q2; cases q2
      | d _ => cases e1
      | pk _ => cases e1
    · rw [List.getElem?_set_ne hik] at ek qk
      exact fresh_key (S.ext E1) a z k ys ek qk
  · exact q.elim
end

/-! ### the slot's list as data -/
theorem ss_frz {X : Cx} {W : WX} {st : Stmt} {f : SemS} {t : TS} (i : Nat) (h : SSt X W st f t) : SSt X W st (sFrz i f) t := by
  refine ⟨h.ps, fun w0 H0 w σ H env m D E Wm S q => ?_⟩
  unfold sFrz at q
  split at q
  · rename_i xs e
    obtain ⟨a, vs, h1, h2, h3, h4, h5, h6⟩ := S.own i xs e
    have hi : i < env.length := (List.getElem?_eq_some_iff.mp e).1
    have L : WLe w (w.add a (.lst vs)) := .add h3
    have r : RD X.K (w.add a (.lst vs)) (.lst xs) (V.ref a) := .lst (by show upd w.F a _ a = _; exact upd_same) (h6.le L)
    refine h.rd w0 H0 (w.add a (.lst vs)) σ H _ m D (E.add h3 h5) (Wm.add h3 h2 h4) ⟨by rw [List.length_set]; exact S.len, fun j y ej => ?_, fun j ys ej => ?_, fun j k ys zs b e1 e2 s1 s2 => ?_⟩ (WP.afterO L q)
    · by_cases hj : i = j
      · subst hj
        rw [List.getElem?_set_self hi] at ej
        cases ej
        exact ⟨_, h1, r⟩
      · rw [List.getElem?_set_ne hj] at ej
        obtain ⟨v, k1, k2⟩ := S.dat j y ej
        exact ⟨v, k1, k2.le L⟩
    · by_cases hj : i = j
      · subst hj
        rw [List.getElem?_set_self hi] at ej; cases ej
      · rw [List.getElem?_set_ne hj] at ej
        obtain ⟨b, us, k1, k2, k3, k4, k5, k6⟩ := S.own j ys ej
        have hb : b ≠ a := fun z => by
          subst z
          exact hj (S.dis i j xs ys b e ej h1 k1)
        exact ⟨b, us, k1, k2, by show upd w.F a _ b = none; rw [upd_ne hb]; exact k3, k4, k5, k6.le L⟩
    · have f : ∀ {j : Nat} {ys : List Ev.D}, (env.set i (.d (.lst xs)))[j]? = some (.own ys) → env[j]? = some (.own ys) := fun {j ys} q => by
        by_cases hj : i = j
        · subst hj; rw [List.getElem?_set_self hi] at q; cases q
        · rw [List.getElem?_set_ne hj] at q; exact q
      exact S.dis j k ys zs b (f e1) (f e2) s1 s2
  · exact h.rd w0 H0 w σ H env m D E Wm S q

/-! ### a def -/
def fnRun (n N : Nat) (b : SemS) : Fn := fun ds m => if ds.length = n then (b (ds.map Slot.d ++ List.replicate (N - n) .un) m).bind fun o m1 => match o with
  | .rt rv => .ok (unpk rv) m1
  | .nx _ => .ok (.d .non) m1
  | _ => .bot
  else .bot
theorem unpk_idem (rv : RV) : unpk (unpk rv) = unpk rv := by cases rv <;> rfl
theorem slots_start {K : PySem.W.Frag} {w : Wd} {H : Hp} {N : List Str} {ds : List D} {vs : List V} {n : Nat} (r : RDs K w ds vs) (hn : ds.length = n) (hN : n ≤ N.length) : Slots K w H (L2.start N vs) H (ds.map Slot.d ++ List.replicate (N.length - n) .un) := by
  have hl := r.length
  have key : ∀ (i : Nat) (s : Slot), (ds.map Slot.d ++ List.replicate (N.length - n) .un)[i]? = some s → (∃ x, s = .d x ∧ ds[i]? = some x) ∨ s = .un := fun i s e => by
    by_cases h : i < ds.length
    · rw [List.getElem?_append_left (by simpa using h), List.getElem?_map, List.getElem?_eq_getElem h] at e
      cases e
      exact .inl ⟨_, rfl, by simp [h]⟩
    · rw [List.getElem?_append_right (by simpa using h)] at e
      exact .inr (List.eq_of_mem_replicate (List.mem_of_getElem? e))
  refine ⟨by unfold L2.start; simp; omega, fun i x e => ?_, fun i xs e => ?_, fun i j xs ys a e1 e2 _ _ => ?_⟩
  · rcases key i _ e with ⟨y, hy, hd⟩ | hy
    · cases hy
      obtain ⟨v, h1, h2⟩ := r.get hd
      refine ⟨v, ?_, h2⟩
      unfold L2.start
      rw [List.getElem?_append_left (by simpa using (List.getElem?_eq_some_iff.mp h1).1), List.getElem?_map, h1]
      rfl
    · cases hy
  · rcases key i _ e with ⟨y, hy, _⟩ | hy <;> cases hy
  · rcases key i _ e1 with ⟨y, hy, _⟩ | hy <;> cases hy
theorem FnS.of {P : Program} {w : World} {K : PySem.W.Frag} {mg : Str → Option Value} {base : Heap} {x : Str} {st : Stmt} {a : Addr} {fd : FuncData} {N ps : List Str} {k n m : Nat} {b : SemS} (F : Fun K x x st a fd) (S : FnScope N ps (defScope st)) (hm : mg x = some (.ref a)) (hb : Binds K fd ps []) (hn : ps.length = n) (hN : N.length = m) (hl : n ≤ m)
    (body : ∀ (cdv : Value) (A : Around) (outer : List PySem.Env) (s : Shared) (H : Hp) (E : XK), Room k (A.deeper (PyProof.Rows.envOfC x (defScope st) s.heap.objs.size a cdv)) →
      ∃ t, SSs (cxOf (L2.CX P w) P w K mg base N x (defScope st) a cdv A outer s H E) (fun cls d _ H => E cls d H) (defBody st) b t) : FnS P w K mg base (k + 1) x ps a fd (fnRun n m b) := by
  subst hn hN
  refine ⟨hm, F.kp, hb, F.okX S (fun vs H Q E h => ?_) (fun cdv A outer s H vs Q E hr h => ?_)⟩
  · obtain ⟨_, _, _, _, _, h, _⟩ := h
    exact h
  · obtain ⟨w1, m1, ds, W1, r1, hl1, q⟩ := h
    obtain ⟨t, ht⟩ := body cdv A outer s H E hr
    refine ⟨t, ht.ps, ?_⟩
    unfold fnRun at q
    have hds : ds.length = ps.length := r1.length.trans hl1
    rw [if_pos hds] at q
    refine ht.rd w1 H w1 (L2.start N vs) H _ m1 _ (.refl _ _) W1 (slots_start r1 hds hl) (WP.mono (WP.of_bind q) (fun o m2 q w2 H2 E2 L2 W2 => ?_) fun x m' z c d w' H' σ' _ E' W' rx => z c d w' H' E' W' rx)
    cases o with
    | rt rv =>
      intro v rr
      refine q w2 H2 v E2 W2 ?_
      cases rv with
      | d y => exact rr
      | fl ys => exact rr
      | pk ys => exact rr
    | nx env' => exact fun σ' _ S' => q w2 H2 _ E2 W2 .non
    | bk env' => exact q.elim
    | ct env' => exact q.elim

/-! ### the law's end -/
/-- what the law's call answers -/
def Law (f : Fn) : Prop := ∀ ns : List Int, ns.length ≤ 63 → ∃ m', f [.scr (ns.map D.int)] [] = .ok (.d (.bl true)) m'
theorem law_sp {K : PySem.W.Frag} {f : Fn} (h : Law f) {H : Hp} {a : Addr} {ns : List Int} (hl : ns.length ≤ 63) (hS : SqL K H a (ns.map V.int)) : spF K 1 f [V.ref a] H (fun v _ => v = V.bl true) (fun _ _ _ => False) := by
  refine ⟨⟨H, [], fun _ => none⟩, [], [.scr (ns.map D.int)], ⟨fun _ _ h => h, fun _ _ h => by simp at h, fun _ _ _ h => by simp at h, rfl, fun _ _ h => by simp at h, fun _ _ h => nomatch h⟩, .cons (.scr hS (.of_ints ns)) .nil, rfl, ?_⟩
  obtain ⟨m', e⟩ := h ns hl
  rw [e]
  intro w' H' v _ _ rr
  cases rr with
  | bl => rfl
theorem walkE {l : PySem.W.OpenLaw} {k : Nat} {q : Program} {loose : List Str} {XP : (Str → Option Value) → Heap → Prop} {YP : World → Heap → Prop} {d : DefRec} {K : Params → PySem.W.Frag} {x : Str} {f : Fn}
    (hn : l.most = some 63) (hdf : d.params.defaults = []) (hr : Room k callerA) (hY : ∀ (w : World) (h : Heap), YP w h → (K w.params).In h) (hlaw : Law f)
    (F : ∀ (w : World) (mg : Str → Option Value) (fa : Addr) (h : Heap), (K w.params).In h → h.Ns mainGlobals mg → mg d.name = some (.ref fa) →
      ∃ fd : FuncData, (∀ (s : Shared) (u : Value), BindsTo s fd ⟨[u], []⟩ [(x, u)]) ∧ ∀ base : Heap, (K w.params).In base → base.Ns mainGlobals mg → FnS l.prog w (K w.params) mg base k d.name [x] fa fd f) :
    PySem.W.WalkO q loose XP YP l.row.toRowW d [] (fun f vs => PySem.call f vs) :=
  L2.walk_of (n := 63) (k := k) (x := x) (CX := fun w => L2.CX l.prog w) (sp := fun w => spF (K w.params) 1 f) hn (by decide) hdf hr hY (fun w mg fa h KX G hmg => by
    obtain ⟨fd, h1, h2⟩ := F w mg fa h KX G hmg
    exact ⟨fd, h1, fun base b1 b2 => (h2 base b1 b2).ok⟩) (fun w H a ns hl _ hS => law_sp hlaw hl hS) fun w H s e s' z => by
      obtain ⟨_, _, _, _, _, _, _, _, _, _, _, _, z⟩ := z
      exact z
end Ev
/-! Ev, part L: defs by the head's facts, constants, a[::-1]. -/
namespace Ev
open PySem PySem.Spec L2
theorem FnS.ofD {P : Program} {w : World} {K : PySem.W.Frag} {mg : Str → Option Value} {base : Heap} {x y : Str} {params : Arguments} {body : List Stmt} {scope : Scope} {a : Addr} {fd : FuncData} {N ps : List Str} {k n m : Nat} {b : SemS} (F : FunD K x x params body scope [] [] a fd) (S : FnScope N ps scope) (hm : mg y = some (.ref a)) (hb : Binds K fd ps []) (hn : ps.length = n) (hN : N.length = m) (hl : n ≤ m)
    (hbody : ∀ (cdv : Value) (A : Around) (outer : List PySem.Env) (s : Shared) (H : Hp) (E : XK), Room k (A.deeper (PyProof.Rows.envOfC x scope s.heap.objs.size a cdv)) →
      Takes (cxOf (L2.CX P w) P w K mg base N x scope a cdv A outer s H E) (fun cls d _ H => E cls d H) → PassesOwn (model P w) (cxOf (L2.CX P w) P w K mg base N x scope a cdv A outer s H E).A (cxOf (L2.CX P w) P w K mg base N x scope a cdv A outer s H E).env (cxOf (L2.CX P w) P w K mg base N x scope a cdv A outer s H E).xe →
      ∃ t, SSs (cxOf (L2.CX P w) P w K mg base N x scope a cdv A outer s H E) (fun cls d _ H => E cls d H) body b t) : FnS P w K mg base (k + 1) y ps a fd (fnRun n m b) := by
  subst hn hN
  refine ⟨hm, F.kp, hb, F.ok (CX := L2.CX P w) S (fun vs H Q E h => ?_) (fun cdv A outer s H vs Q E hr h => ?_)⟩
  · obtain ⟨_, _, _, _, _, h, _⟩ := h
    exact h
  · obtain ⟨w1, m1, ds, W1, r1, hl1, q⟩ := h
    obtain ⟨t, ht⟩ := hbody cdv A outer s H E hr (takes_of rfl rfl rfl rfl) (passes_of (K := fun e s'' => L2.CX P w outer H s E e s'') rfl)
    refine ⟨t, ht.ps, ?_⟩
    unfold fnRun at q
    have hds : ds.length = ps.length := r1.length.trans hl1
    rw [if_pos hds] at q
    refine ht.rd w1 H w1 (L2.start N vs) H _ m1 _ (.refl _ _) W1 (slots_start r1 hds hl) (WP.mono (WP.of_bind q) (fun o m2 q w2 H2 E2 L2 W2 => ?_) fun x m' z c d w' H' σ' _ E' W' rx => z c d w' H' E' W' rx)
    cases o with
    | rt rv =>
      intro v rr
      refine q w2 H2 v E2 W2 ?_
      cases rv with
      | d y => exact rr
      | fl ys => exact rr
      | pk ys => exact rr
    | nx env' => exact fun σ' _ S' => q w2 H2 _ E2 W2 .non
    | bk env' => exact q.elim
    | ct env' => exact q.elim
section
variable {X : Cx} {W : WX}
theorem se_globI {x : Str} {i : Int} {pos : Pos} (h : ∃ t, X.mg x = some (.int i t)) (hg : Gl X x := by rfl) (hd : (x == ("__debug__" : Str)) = false := by decide) : SE X W (.Name x pos) (rC (.int i)) (tC (.int i)) := by
  obtain ⟨t, h⟩ := h
  exact se_const (pe_glob hg h ⟨t, rfl⟩ hd) fun _ => .int i
theorem se_globS {x z : Str} {pos : Pos} (h : ∃ t, X.mg x = some (.str z t)) (hg : Gl X x := by rfl) (hd : (x == ("__debug__" : Str)) = false := by decide) : SE X W (.Name x pos) (rC (.str z)) (tC (.str z)) := by
  obtain ⟨t, h⟩ := h
  exact se_const (pe_glob hg h ⟨t, rfl⟩ hd) fun _ => .str z
theorem se_rev {e : Expr} {f : SemR} {te : TE} {k : Nat} {p1 p2 p3 pos : Pos} (h : SE X W e f te) : SE X W (.Subscript e (.Slice none none (some (.UnaryOp .USub (.Constant (.int 1) k p1) p2)) p3) pos) (rRev f) (tRevL X.K te) := by
  refine ⟨pe_revL h.pe, fun w H0 σ H env m Q Wm S q => ?_⟩
  refine h.vl Wm S (WP.mono (WP.of_bind q) (fun x m1 q w1 H1 v1 E1 W1 r1 => ?_) fun _ _ z => z)
  cases x with
  | lst xs =>
    obtain ⟨a, vs, rfl, h1, h2⟩ := r1.lst W1
    exact ⟨a, vs, rfl, .inl (.inl h1), fun p hp => new_lst W1 hp h2.reverse fun w' H' v E' W' rr => q w' H' v (E1.trans E') W' (rr.after E1)⟩
  | _ => exact q.elim
end
theorem walkX {l : PySem.W.OpenLaw} {k : Nat} {q : Program} {loose : List Str} {XP : (Str → Option Value) → Heap → Prop} {YP : World → Heap → Prop} {d : DefRec} {x : Str} {f : Fn}
    (hn : l.most = some 63) (hdf : d.params.defaults = []) (hr : Room k callerA) (hlaw : Law f)
    (F : ∀ (w : World) (mg : Str → Option Value) (fa : Addr) (h : Heap), YP w h → h.Ns mainGlobals mg → mg d.name = some (.ref fa) →
      ∃ (K : PySem.W.Frag) (fd : FuncData), K.In h ∧ (∀ (s : Shared) (u : Value), BindsTo s fd ⟨[u], []⟩ [(x, u)]) ∧
        ∀ base : Heap, K.In base → base.Ns mainGlobals mg → FnOk l.prog w K mg base (L2.CX l.prog w) k fa fd [x] (spF K 1 f)) :
    PySem.W.WalkO q loose XP YP l.row.toRowW d [] (fun f vs => PySem.call f vs) := by
  refine Att.attach_call hn hdf fun w s₀ s₁ mg mb fa o pm cd doc a vs ns G Y ho hd hcd hmg hobj hints hlen hg => ?_
  obtain ⟨K, fd, KX, hb, hF⟩ := F w mg fa _ Y G.T.g hmg
  exact law_call KX G.T.g G.T.b G.T.builtins G.T.nolimit hg hobj hints (Nat.le_trans hlen (by decide)) hr hF hb (fun H hO hS => law_sp hlaw hlen hS) fun H e s' z => by
    obtain ⟨_, _, _, _, _, _, _, _, _, _, _, _, z⟩ := z
    exact z
end Ev
/-! Ev, part M: a, b, c = x, y, z; op= by name. -/
namespace Ev
open PySem PySem.Spec L2
section
variable {X : Cx} {W : WX} {pos : Pos} {a b c : Expr} {fa fb fc : SemR} {ta tb tc : TE}
/-- an address that is in no slot's own list, nor in the one just set -/
theorem key_set {K : PySem.W.Frag} {w1 : Wd} {Hx H1 : Hp} {σ : St} {env : Env} {r1 : RV} {v1 : V} {s1 : Slot} {i : Nat} {ad : Addr} (hl : env.length = σ.length) (rr : RR K Hx Hx w1 H1 r1 v1 ∨ ∃ Hy, RR K Hx Hy w1 H1 r1 v1) (e1 : slotOf r1 = some s1) (z : H1 ad = none) (key : ∀ (j : Nat) ys, env[j]? = some (.own ys) → σ[j]? ≠ some (some (V.ref ad))) :
    ∀ (j : Nat) ys, (env.set i s1)[j]? = some (.own ys) → (σ.set i (some v1))[j]? ≠ some (some (V.ref ad)) := by
  intro k ys ek qk
  by_cases hik : i = k
  · subst hik
    have hl' : i < σ.length := by
      have := (List.getElem?_eq_some_iff.mp qk).1
      rwa [List.length_set] at this
    rw [List.getElem?_set_self hl'] at qk
    have hle : i < env.length := by rw [hl]; exact hl'
    rw [List.getElem?_set_self hle] at ek
    cases qk
    cases ek
    cases r1 with
    | fl us =>
      rcases rr with rr | ⟨Hy, rr⟩ <;>
      · obtain ⟨a', vs', q1, q2, _⟩ := rr
        cases q1
        rw [z] at q2; cases q2
    | d _ => cases e1
    | pk _ => cases e1
  · rw [List.getElem?_set_ne hik] at ek qk
    exact key k ys ek qk
theorem ss_par3 (i j l : Nat) {x y z : Str} {px py pz pt : Pos} {kt k2 pt2} (hc : X.calm = true) (hN : X.N.Nodup) (ha : SE X W a fa ta) (hb : SE X W b fb tb) (hcc : SE X W c fc tc) (hij : i ≠ j := by decide) (hil : i ≠ l := by decide) (hjl : j ≠ l := by decide) (hi : X.N[i]? = some x := by rfl) (hj : X.N[j]? = some y := by rfl) (hl : X.N[l]? = some z := by rfl)
    (hx : X.env.scope.names.lookup x = some .local := by rfl) (hy : X.env.scope.names.lookup y = some .local := by rfl) (hz : X.env.scope.names.lookup z = some .local := by rfl)
    (hw : swappedStores [.Tuple [.Name x px, .Name y py, .Name z pz] kt pt] (.Tuple [a, b, c] k2 pt2) X.env = pure (some [x, y, z]) := by rfl)
    (hs1 : starEach (a :: [b, c]) X.env = (false, eval a X.env) :: starEach [b, c] X.env := by rfl) (hs2 : starEach (b :: [c]) X.env = (false, eval b X.env) :: starEach [c] X.env := by rfl) (hs3 : starEach (c :: []) X.env = (false, eval c X.env) :: starEach [] X.env := by rfl)
    (hs : swapsWithSole [.Tuple [.Name x px, .Name y py, .Name z pz] kt pt] (.Tuple [a, b, c] k2 pt2) pos.line X.env = pure false := by rfl) :
    SSt X W (.Assign [.Tuple [.Name x px, .Name y py, .Name z pz] kt pt] (.Tuple [a, b, c] k2 pt2) pos) (sPar3 i j l fa fb fc) (tPar3 i j l (tCons ta (tCons tb (tCons tc tNil)))) := by
  refine ⟨ps_par3 hc hN hi hj hl hij hil hjl hx hy hz (pa_cons ha.pe (pa_cons hb.pe (pa_cons hcc.pe pa_nil hs3) hs2) hs1) hw hs, fun w0 H0 w σ H env m D E Wm S q => ?_⟩
  refine ha.rd w H0 σ H env m _ Wm S (WP.mono (WP.of_bind q) (fun r1 m1 q w1 H1 v1 E1 W1 rr1 => ?_) fun x m' z => PXs.of E z)
  refine hb.rd w1 H0 σ H1 env m1 _ W1 (S.ext E1) (WP.mono (WP.of_bind q) (fun r2 m2 q w2 H2 v2 E2 W2 rr2 => ?_) fun x m' z => PXs.of (E.trans E1) z)
  have E12 := E1.trans E2
  refine hcc.rd w2 H0 σ H2 env m2 _ W2 (S.ext E12) (WP.mono (WP.of_bind q) (fun r3 m3 q w3 H3 v3 E3 W3 rr3 => ?_) fun x m' z => PXs.of (E.trans E12) z)
  refine ⟨v1, v2, v3, rfl, ?_⟩
  split at q
  · rename_i s1 s2 s3 e1 e2 e3
    have E123 := E12.trans E3
    have S1 := (S.ext E123).setR' ((rr1.ext E2).ext E3) (fun a _ z => E.there a z) i e1 fun a _ z => fresh_key S a z
    have S2 := S1.setR' (rr2.ext E3) (fun a _ z => (E.trans E1).there a z) j e2 fun a hv z => key_set S.len (.inr ⟨_, rr1⟩) e1 z (fresh_key (S.ext E1) a z)
    have S3 := S2.setR' rr3 (fun a _ z => (E.trans E12).there a z) l e3 fun a hv z => key_set (by rw [List.length_set, List.length_set]; exact S.len) (.inr ⟨_, rr2⟩) e2 z (key_set S.len (.inr ⟨_, rr1.ext E2⟩) e1 z (fresh_key (S.ext E12) a z))
    exact q w3 H3 (E.trans E123) E123.le W3 _ (by rw [List.length_set, List.length_set, List.length_set]) S3
  · exact q.elim
end
theorem tkNo {X : Cx} : Takes X W0 := fun u s' ⟨_, _, _, _, _, _, _, _, _, _, _, _, _, _, _, _, w⟩ => w.elim
theorem se_call' {X : Cx} {W : WX} {e : Expr} {es : List Expr} {as : SemDs} {t : TA} {x : Str} {ps : List Str} {f : Fn} {k n : Nat} {p pos : Pos} {a : Addr} {fd : FuncData} (F : FnS X.prog X.w X.K X.mg X.base k x ps a fd f) (tk : Takes X W) (hr : Room k X.A) (h : SAt X W (e :: es) as t) (hn : n = ps.length := by rfl) (hg : Gl X x := by rfl) (hdb : (x == ("__debug__" : Str)) = false := by decide)
    (he : starEach (e :: es) X.env = (false, eval e X.env) :: starEach es X.env := by rfl) (hpl : (backTo pos (starEach es X.env)).any (·.1) = false := by rfl) : SE X W (.Call (.Name x p) (e :: es) [] pos) (rCall n f as) (tCallS (spF X.K ps.length f) (WE W) t) := se_call F tk hr n h hn hg hdb he hpl
/-- a comprehension; each part twice, so that its term is known before it is looked at everywhere -/
theorem se_lc' {X : Cx} {W : WX} {elt tg iter : Expr} {ifs : List Expr} {scope : Scope} {own : List (Str × Nat)} {pos : Pos} {is : List Nat} {wi : TI} {g : TG} {tt : TT} {te : TE} {it : SemDs} {gs : SemG} {cond : SemB} {fe : SemR} (hc : X.calm = true) (hN : X.N.Nodup) (hi : SIt X W tg iter it wi) (ok : BlkOk X.N X.env.scope scope own)
    (hg : ∀ (s : Shared) (H : Hp) (C : Addr) (cl : List (Str × Addr)) (fp : List Addr), SGt (X.blk s H scope (compEnvC scope cl C X.env) fp) tg gs is g)
    (ht0 : SPt (X.blk X.s_0 (fun _ => none) scope (compEnvC scope [] 0 X.env) []) W0 ifs cond tt) (ht : ∀ (s : Shared) (H : Hp) (C : Addr) (cl : List (Str × Addr)) (fp : List Addr), SPt (X.blk s H scope (compEnvC scope cl C X.env) fp) W0 ifs cond tt)
    (he0 : SE (X.blk X.s_0 (fun _ => none) scope (compEnvC scope [] 0 X.env) []) W0 elt fe te) (he : ∀ (s : Shared) (H : Hp) (C : Addr) (cl : List (Str × Addr)) (fp : List Addr), SE (X.blk s H scope (compEnvC scope cl C X.env) fp) W0 elt fe te) (hvs : ∀ i ∈ is, i ∈ own.map (·.2) := by decide) (hs : ∀ x, foldedSetIterable iter X.env x = pure x := by intro _; rfl) :
    SE X W (.ListComp elt [⟨tg, iter, ifs, 0⟩] scope pos) (rComp it gs cond fe (own.map (·.2))) (tLc wi g tt te (own.map (·.2))) := se_lc hc hN hi ok hg ht he hvs hs
theorem ss_setC' {X : Cx} {W : WX} (i : Nat) {y : Str} {py : Pos} {elt tg iter : Expr} {ifs : List Expr} {scope : Scope} {own : List (Str × Nat)} {pos spos : Pos} {is : List Nat} {wi : TI} {g : TG} {tt : TT} {te : TE} {it : SemDs} {gs : SemG} {cond : SemB} {fe : SemR} (hc : X.calm = true) (hN : X.N.Nodup)
    (hi : SIt X W tg iter it wi) (ok : BlkOk X.N X.env.scope scope own)
    (hg : ∀ (s : Shared) (H : Hp) (C : Addr) (cl : List (Str × Addr)) (fp : List Addr), SGt (X.blk s H scope (compEnvC scope cl C X.env) fp) tg gs is g)
    (ht0 : SPt (X.blk X.s_0 (fun _ => none) scope (compEnvC scope [] 0 X.env) []) W0 ifs cond tt) (ht : ∀ (s : Shared) (H : Hp) (C : Addr) (cl : List (Str × Addr)) (fp : List Addr), SPt (X.blk s H scope (compEnvC scope cl C X.env) fp) W0 ifs cond tt)
    (he0 : SE (X.blk X.s_0 (fun _ => none) scope (compEnvC scope [] 0 X.env) []) W0 elt fe te) (he : ∀ (s : Shared) (H : Hp) (C : Addr) (cl : List (Str × Addr)) (fp : List Addr), SE (X.blk s H scope (compEnvC scope cl C X.env) fp) W0 elt fe te) (hy : X.N[i]? = some y := by rfl) (hyl : X.env.scope.names.lookup y = some .local := by rfl)
    (hsw : swapsWith (.ListComp elt [⟨tg, iter, ifs, 0⟩] scope pos) (some (.Name y py)) spos.line X.env = pure true := by exact sw_true rfl rfl rfl (by decide +kernel)) (hvs : ∀ i ∈ is, i ∈ own.map (·.2) := by decide) (hs : ∀ x, foldedSetIterable iter X.env x = pure x := by intro _; rfl) :
    SSt X W (.Assign [.Name y py] (.ListComp elt [⟨tg, iter, ifs, 0⟩] scope pos) spos) (sSet i (rComp it gs cond fe (own.map (·.2)))) (tAsg (tLc wi g tt te (own.map (·.2))) (gName i)) := ss_setC i hc hN hi ok hg ht he hy hyl hsw hvs hs
def gAugAdd : D → D → Option RV := fun x y => match x, y with | .int i, .int j => some (.d (.int (i + j))) | _, _ => none
def gAugSub : D → D → Option RV := fun x y => match x, y with | .int i, .int j => some (.d (.int (i - j))) | _, _ => none
theorem opsAugAdd {X : Cx} : OpS X (inplaceOp .Add) gAugAdd (rI0 fun i j => .int (i + j)) := ops_ints0 iop_add
theorem opsAugSub {X : Cx} : OpS X (inplaceOp .Sub) gAugSub (rI0 fun i j => .int (i - j)) := ops_ints0 iop_sub
end Ev
/-! Ev, part S: the semantics, read by simp. -/
namespace Ev
open PySem PySem.Spec L2
section
variable {α β : Type} {env : Env} {m : Cells}
/-- a rule that simp writes into the proof -/
theorem nr {γ : Type} {a b : γ} (h : a = b) : a = b := h
@[simp] theorem ev_LN : LN = 1000000 := nr rfl
@[simp] theorem ev_frz1 (x : D) : RV.frz (.d x) = some x := nr rfl
@[simp] theorem ev_frz2 (xs : List D) : RV.frz (.fl xs) = some (.lst xs) := nr rfl
@[simp] theorem ev_val1 (x : D) : RV.val (.d x) = x := nr rfl
@[simp] theorem ev_val2 (xs : List D) : RV.val (.fl xs) = .lst xs := nr rfl
@[simp] theorem ev_val3 (xs : List D) : RV.val (.pk xs) = .lst xs := nr rfl
@[simp] theorem ev_unpk1 (x : D) : unpk (.d x) = .d x := nr rfl
@[simp] theorem ev_unpk2 (xs : List D) : unpk (.fl xs) = .fl xs := nr rfl
@[simp] theorem ev_unpk3 (xs : List D) : unpk (.pk xs) = .fl xs := nr rfl
@[simp] theorem ev_slot1 (x : D) : slotOf (.d x) = some (.d x) := nr rfl
@[simp] theorem ev_slot2 (xs : List D) : slotOf (.fl xs) = some (.own xs) := nr rfl
@[simp] theorem ev_tr1 : truth .non = some false := nr rfl
@[simp] theorem ev_tr2 (b : Bool) : truth (.bl b) = some b := nr rfl
@[simp] theorem ev_tr3 (i : Int) : truth (.int i) = some (!decide (i = 0)) := nr rfl
@[simp] theorem ev_tr4 (xs : List D) : truth (.tup xs) = some (!xs.isEmpty) := nr rfl
@[simp] theorem ev_tr5 (xs : List D) : truth (.lst xs) = some (!xs.isEmpty) := nr rfl
@[simp] theorem ev_tr6 (xs : List D) : truth (.scr xs) = some (!xs.isEmpty) := nr rfl
/-- what is left to do behind a part, each by its own name: simp walks into no function -/
def kVar (s : Option Slot) (m : Cells) : Res RV := match s with | some (.d x) => .ok (.d x) m | some (.own xs) => .ok (.pk xs) m | _ => .bot
@[simp] theorem kVar1 (x : D) : kVar (some (.d x)) m = .ok (.d x) m := nr rfl
@[simp] theorem kVar2 (x : List D) : kVar (some (.own x)) m = .ok (.pk x) m := nr rfl
@[simp] theorem ev_rVar (i : Nat) : rVar i env m = kVar env[i]? m := nr rfl
@[simp] theorem ev_rC (x : D) : rC x env m = .ok (.d x) m := nr rfl
def kfz (r : Res RV) : Res D := r.bind fun rv m' => match rv.frz with | some x => .ok x m' | none => .bot
@[simp] theorem kfz1 (x : D) : kfz (.ok (.d x) m) = .ok x m := nr rfl
@[simp] theorem kfz2 (x : List D) : kfz (.ok (.fl x) m) = .ok (.lst x) m := nr rfl
@[simp] theorem kfz3 (x : List D) : kfz (.ok (.pk x) m) = .bot := nr rfl
@[simp] theorem ev_fz (f : SemR) : fz f env m = kfz (f env m) := nr rfl
def kvl (r : Res RV) : Res D := r.bind fun rv m' => .ok rv.val m'
@[simp] theorem kvl1 (x : RV) : kvl (.ok x m) = .ok x.val m := nr rfl
@[simp] theorem ev_vl (f : SemR) : vl f env m = kvl (f env m) := nr rfl
def kO (o : Option RV) (m : Cells) : Res RV := match o with | some rv => .ok rv m | none => .bot
@[simp] theorem kO1 (x : RV) : kO (some x) m = .ok x m := nr rfl
def kOd (o : Option D) (m : Cells) : Res RV := match o with | some x => .ok (.d x) m | none => .bot
@[simp] theorem kOd1 (x : D) : kOd (some x) m = .ok (.d x) m := nr rfl
def kBin2 (g : D → D → Option RV) (x : D) (r : Res D) : Res RV := r.bind fun y m => kO (g x y) m
@[simp] theorem kBin2_1 (g : D → D → Option RV) (x y : D) : kBin2 g x (.ok y m) = kO (g x y) m := nr rfl
def kBin (g : D → D → Option RV) (b : SemR) (env : Env) (r : Res D) : Res RV := r.bind fun x m => kBin2 g x (vl b env m)
@[simp] theorem kBin_1 (g : D → D → Option RV) (b : SemR) (x : D) : kBin g b env (.ok x m) = kBin2 g x (vl b env m) := nr rfl
@[simp] theorem ev_rBin (g : D → D → Option RV) (a b : SemR) : rBin g a b env m = kBin g b env (vl a env m) := nr rfl
def kIx2 (x : D) (r : Res D) : Res RV := r.bind fun k m => kOd (itemAt x k m) m
@[simp] theorem kIx2_1 (x k : D) : kIx2 x (.ok k m) = kOd (itemAt x k m) m := nr rfl
def kIx (b : SemR) (env : Env) (r : Res D) : Res RV := r.bind fun x m => kIx2 x (vl b env m)
@[simp] theorem kIx_1 (b : SemR) (x : D) : kIx b env (.ok x m) = kIx2 x (vl b env m) := nr rfl
@[simp] theorem ev_rIx (a b : SemR) : rIx a b env m = kIx b env (vl a env m) := nr rfl
@[simp] theorem ev_oNo : oNo env m = .ok none m := nr rfl
def kSome (r : Res D) : Res (Option Int) := r.bind fun x m1 => match x with | .int i => .ok (some i) m1 | _ => .bot
@[simp] theorem kSome1 (i : Int) : kSome (.ok (.int i) m) = .ok (some i) m := nr rfl
@[simp] theorem ev_oSome (f : SemR) : oSome f env m = kSome (vl f env m) := nr rfl
def kSl3 (x : D) (l : Option Int) (r : Res (Option Int)) : Res RV := r.bind fun h m3 => match x with | .lst xs => .ok (.fl (cutD xs l h)) m3 | .tup xs => .ok (.d (.tup (cutD xs l h))) m3 | _ => .bot
@[simp] theorem kSl3_1 (xs : List D) (l h : Option Int) : kSl3 (.lst xs) l (.ok h m) = .ok (.fl (cutD xs l h)) m := nr rfl
@[simp] theorem kSl3_2 (xs : List D) (l h : Option Int) : kSl3 (.tup xs) l (.ok h m) = .ok (.d (.tup (cutD xs l h))) m := nr rfl
def kSl2 (x : D) (hi : SemO) (env : Env) (r : Res (Option Int)) : Res RV := r.bind fun l m => kSl3 x l (hi env m)
@[simp] theorem kSl2_1 (x : D) (hi : SemO) (l : Option Int) : kSl2 x hi env (.ok l m) = kSl3 x l (hi env m) := nr rfl
def kSl (lo hi : SemO) (env : Env) (r : Res D) : Res RV := r.bind fun x m => kSl2 x hi env (lo env m)
@[simp] theorem kSl_1 (x : D) (lo hi : SemO) : kSl lo hi env (.ok x m) = kSl2 x hi env (lo env m) := nr rfl
@[simp] theorem ev_rSlice (a : SemR) (lo hi : SemO) : rSlice a lo hi env m = kSl lo hi env (vl a env m) := nr rfl
def kRev (r : Res D) : Res RV := r.bind fun x m1 => match x with | .lst xs => .ok (.fl xs.reverse) m1 | _ => .bot
@[simp] theorem kRev1 (xs : List D) : kRev (.ok (.lst xs) m) = .ok (.fl xs.reverse) m := nr rfl
@[simp] theorem ev_rRev (a : SemR) : rRev a env m = kRev (vl a env m) := nr rfl
@[simp] theorem ev_aNil : aNil env m = .ok [] m := nr rfl
def kCons2 (x : D) (r : Res (List D)) : Res (List D) := r.bind fun xs m => .ok (x :: xs) m
@[simp] theorem kCons2_1 (x : D) (xs : List D) : kCons2 x (.ok xs m) = .ok (x :: xs) m := nr rfl
def kCons (g : SemDs) (env : Env) (r : Res D) : Res (List D) := r.bind fun x m => kCons2 x (g env m)
@[simp] theorem kCons_1 (g : SemDs) (x : D) : kCons g env (.ok x m) = kCons2 x (g env m) := nr rfl
@[simp] theorem ev_aCons (f : SemR) (g : SemDs) : aCons f g env m = kCons g env (fz f env m) := nr rfl
@[simp] theorem ev_pCons (f : SemR) (g : SemDs) : pCons f g env m = kCons g env (vl f env m) := nr rfl
def kTup (r : Res (List D)) : Res RV := r.bind fun xs m1 => if xs.length ≤ LN then .ok (.d (.tup xs)) m1 else .bot
@[simp] theorem kTup1 (xs : List D) : kTup (.ok xs m) = if xs.length ≤ LN then .ok (.d (.tup xs)) m else .bot := nr rfl
@[simp] theorem ev_rTup (g : SemDs) : rTup g env m = kTup (g env m) := nr rfl
def kLst (r : Res (List D)) : Res RV := r.bind fun xs m1 => if xs.length ≤ LN then .ok (.fl xs) m1 else .bot
@[simp] theorem kLst1 (xs : List D) : kLst (.ok xs m) = if xs.length ≤ LN then .ok (.fl xs) m else .bot := nr rfl
@[simp] theorem ev_rLst (g : SemDs) : rLst g env m = kLst (g env m) := nr rfl
@[simp] theorem ev_rDict0 : rDict0 env m = .ok (.d (.dct [] [])) m := nr rfl
def kTr (r : Res D) : Res Bool := r.bind fun x m1 => match truth x with | some b => .ok b m1 | none => .bot
def kOb (o : Option Bool) (m : Cells) : Res Bool := match o with | some b => .ok b m | none => .bot
@[simp] theorem kOb1 (b : Bool) : kOb (some b) m = .ok b m := nr rfl
@[simp] theorem kTr1 (x : D) : kTr (.ok x m) = kOb (truth x) m := nr rfl
@[simp] theorem ev_bTruth (f : SemR) : bTruth f env m = kTr (vl f env m) := nr rfl
def kBo (r : Res RV) : Res Bool := r.bind fun x m1 => match x with | .d (.bl b) => .ok b m1 | _ => .bot
@[simp] theorem kBo1 (b : Bool) : kBo (.ok (.d (.bl b)) m) = .ok b m := nr rfl
@[simp] theorem ev_bBool (f : SemR) : bBool f env m = kBo (f env m) := nr rfl
def kAnd (g : SemB) (env : Env) (r : Res Bool) : Res Bool := r.bind fun b m1 => if b = true then g env m1 else .ok false m1
@[simp] theorem kAnd1 (g : SemB) : kAnd g env (.ok true m) = g env m := nr rfl
@[simp] theorem kAnd2 (g : SemB) : kAnd g env (.ok false m) = .ok false m := nr rfl
@[simp] theorem ev_bAnd (f g : SemB) : bAnd f g env m = kAnd g env (f env m) := nr rfl
def kOr (g : SemB) (env : Env) (r : Res Bool) : Res Bool := r.bind fun b m1 => if b = true then .ok true m1 else g env m1
@[simp] theorem kOr1 (g : SemB) : kOr g env (.ok false m) = g env m := nr rfl
@[simp] theorem kOr2 (g : SemB) : kOr g env (.ok true m) = .ok true m := nr rfl
@[simp] theorem ev_bOr (f g : SemB) : bOr f g env m = kOr g env (f env m) := nr rfl
def kNot (r : Res Bool) : Res Bool := r.bind fun b m1 => .ok (!b) m1
@[simp] theorem kNot1 (b : Bool) : kNot (.ok b m) = .ok (!b) m := nr rfl
@[simp] theorem ev_bNot (f : SemB) : bNot f env m = kNot (f env m) := nr rfl
@[simp] theorem ev_bYes : bYes env m = .ok true m := nr rfl
def kCh3 (g' : D → D → Option RV) (y : D) (r : Res D) : Res RV := r.bind fun z m3 => kO (g' y z) m3
@[simp] theorem kCh3_1 (g' : D → D → Option RV) (y z : D) : kCh3 g' y (.ok z m) = kO (g' y z) m := nr rfl
def kChO (g' : D → D → Option RV) (y : D) (c : SemR) (env : Env) (m : Cells) (o : Option RV) : Res RV := match o with
  | some (.d (.bl true)) => kCh3 g' y (vl c env m)
  | some (.d (.bl false)) => .ok (.d (.bl false)) m
  | _ => .bot
@[simp] theorem kChO1 (g' : D → D → Option RV) (y : D) (c : SemR) : kChO g' y c env m (some (.d (.bl true))) = kCh3 g' y (vl c env m) := nr rfl
@[simp] theorem kChO2 (g' : D → D → Option RV) (y : D) (c : SemR) : kChO g' y c env m (some (.d (.bl false))) = .ok (.d (.bl false)) m := nr rfl
def kCh2 (g g' : D → D → Option RV) (x : D) (c : SemR) (env : Env) (r : Res D) : Res RV := r.bind fun y m => kChO g' y c env m (g x y)
@[simp] theorem kCh2_1 (g g' : D → D → Option RV) (x y : D) (c : SemR) : kCh2 g g' x c env (.ok y m) = kChO g' y c env m (g x y) := nr rfl
def kCh (g g' : D → D → Option RV) (b c : SemR) (env : Env) (r : Res D) : Res RV := r.bind fun x m => kCh2 g g' x c env (vl b env m)
@[simp] theorem kCh_1 (g g' : D → D → Option RV) (x : D) (b c : SemR) : kCh g g' b c env (.ok x m) = kCh2 g g' x c env (vl b env m) := nr rfl
@[simp] theorem ev_rChain (g g' : D → D → Option RV) (a b c : SemR) : rChain g g' a b c env m = kCh g g' b c env (vl a env m) := nr rfl
def kRAndO (g : SemR) (env : Env) (x : D) (m : Cells) (o : Option Bool) : Res RV := match o with | some true => g env m | some false => .ok (.d x) m | none => .bot
@[simp] theorem kRAndO1 (g : SemR) (x : D) : kRAndO g env x m (some true) = g env m := nr rfl
@[simp] theorem kRAndO2 (g : SemR) (x : D) : kRAndO g env x m (some false) = .ok (.d x) m := nr rfl
def kRAnd (g : SemR) (env : Env) (r : Res D) : Res RV := r.bind fun x m1 => kRAndO g env x m1 (truth x)
@[simp] theorem kRAnd_1 (g : SemR) (x : D) : kRAnd g env (.ok x m) = kRAndO g env x m (truth x) := nr rfl
@[simp] theorem ev_rAnd (f g : SemR) : rAnd f g env m = kRAnd g env (fz f env m) := nr rfl
def kROrO (g : SemR) (env : Env) (x : D) (m : Cells) (o : Option Bool) : Res RV := match o with | some false => g env m | some true => .ok (.d x) m | none => .bot
@[simp] theorem kROrO1 (g : SemR) (x : D) : kROrO g env x m (some false) = g env m := nr rfl
@[simp] theorem kROrO2 (g : SemR) (x : D) : kROrO g env x m (some true) = .ok (.d x) m := nr rfl
def kROr (g : SemR) (env : Env) (r : Res D) : Res RV := r.bind fun x m1 => kROrO g env x m1 (truth x)
@[simp] theorem kROr_1 (g : SemR) (x : D) : kROr g env (.ok x m) = kROrO g env x m (truth x) := nr rfl
@[simp] theorem ev_rOr (f g : SemR) : rOr f g env m = kROr g env (fz f env m) := by
  show (fz f env m).bind _ = (fz f env m).bind _
  congr 1; funext x m1; show _ = kROrO g env x m1 (truth x); unfold kROrO; cases truth x with | none => rfl | some b => cases b <;> rfl
def kRNot (r : Res D) : Res RV := r.bind fun x m1 => match truth x with | some b => .ok (.d (.bl (!b))) m1 | none => .bot
def kNb (o : Option Bool) (m : Cells) : Res RV := match o with | some b => .ok (.d (.bl (!b))) m | none => .bot
@[simp] theorem kNb1 (b : Bool) : kNb (some b) m = .ok (.d (.bl (!b))) m := nr rfl
@[simp] theorem kRNot1 (x : D) : kRNot (.ok x m) = kNb (truth x) m := nr rfl
@[simp] theorem ev_rNot (f : SemR) : rNot f env m = kRNot (vl f env m) := nr rfl
def kIf {α : Type} (f g : Env → Cells → Res α) (env : Env) (r : Res Bool) : Res α := r.bind fun b m1 => if b = true then f env m1 else g env m1
@[simp] theorem kIf1 {α : Type} (f g : Env → Cells → Res α) : kIf f g env (.ok true m) = f env m := nr rfl
@[simp] theorem kIf2 {α : Type} (f g : Env → Cells → Res α) : kIf f g env (.ok false m) = g env m := nr rfl
@[simp] theorem ev_rIf (t : SemB) (f g : SemR) : rIf t f g env m = kIf f g env (t env m) := nr rfl
def kNeg (r : Res D) : Res RV := r.bind fun x m1 => match x with | .int i => .ok (.d (.int (-i))) m1 | _ => .bot
@[simp] theorem kNeg1 (i : Int) : kNeg (.ok (.int i) m) = .ok (.d (.int (-i))) m := nr rfl
@[simp] theorem ev_rNeg (f : SemR) : rNeg f env m = kNeg (vl f env m) := nr rfl
def kCB (g : List D → Option RV) (r : Res (List D)) : Res RV := r.bind fun xs m1 => kO (g xs) m1
@[simp] theorem kCB1 (g : List D → Option RV) (xs : List D) : kCB g (.ok xs m) = kO (g xs) m := nr rfl
@[simp] theorem ev_rCB (g : List D → Option RV) (as : SemDs) : rCB g as env m = kCB g (as env m) := nr rfl
def kTy (t : Ty) (o : Option Ty) (m : Cells) : Res RV := match o with | some u => .ok (.d (.bl (isa u t))) m | none => .bot
@[simp] theorem kTy1 (t u : Ty) : kTy t (some u) m = .ok (.d (.bl (isa u t))) m := nr rfl
def kIsa (t : Ty) (r : Res D) : Res RV := r.bind fun x m1 => kTy t (tyD x) m1
@[simp] theorem kIsa1 (t : Ty) (x : D) : kIsa t (.ok x m) = kTy t (tyD x) m := nr rfl
@[simp] theorem ev_rIsa (t : Ty) (f : SemR) : rIsa t f env m = kIsa t (vl f env m) := nr rfl
def kPk (r : Res RV) : Res RV := r.bind fun rv m2 => (match rv with | .pk _ => .bot | rv => .ok rv m2)
@[simp] theorem kPk1 (x : D) : kPk (.ok (.d x) m) = .ok (.d x) m := nr rfl
@[simp] theorem kPk2 (x : List D) : kPk (.ok (.fl x) m) = .ok (.fl x) m := nr rfl
def kCall (n : Nat) (f : Fn) (r : Res (List D)) : Res RV := r.bind fun xs m1 => if xs.length = n then kPk (f xs m1) else .bot
@[simp] theorem kCall1 (n : Nat) (f : Fn) (xs : List D) : kCall n f (.ok xs m) = if xs.length = n then kPk (f xs m) else .bot := nr rfl
@[simp] theorem ev_rCall (n : Nat) (f : Fn) (as : SemDs) : rCall n f as env m = kCall n f (as env m) := nr rfl
@[simp] theorem ev_rCall0 (f : Fn) : rCall0 f env m = kPk (f [] m) := nr rfl
def kSeq (r : Res D) : Res (List D) := r.bind fun x m1 => match x with | .lst xs | .tup xs | .scr xs => .ok xs m1 | _ => .bot
@[simp] theorem kSeq1 (xs : List D) : kSeq (.ok (.lst xs) m) = .ok xs m := nr rfl
@[simp] theorem kSeq2 (xs : List D) : kSeq (.ok (.tup xs) m) = .ok xs m := nr rfl
@[simp] theorem kSeq3 (xs : List D) : kSeq (.ok (.scr xs) m) = .ok xs m := nr rfl
/-- what is walked: a slot's own list cannot be, a cell's neither -/
@[simp] theorem ev_eSeq (f : SemR) : eSeq f env m = kSeq (fz f env m) := nr rfl
def kRa1 (r : Res (List D)) : Res (List D) := r.bind fun xs m1 => match xs with | [.int j] => if int62 j then .ok (rangeD 0 j) m1 else .bot | _ => .bot
theorem kRa1_1 {j : Int} (h : -4611686018427387904 ≤ j ∧ j < 4611686018427387904) : kRa1 (.ok [.int j] m) = .ok (rangeD 0 j) m := by
  show (if int62 j = true then _ else _) = _
  rw [if_pos (by unfold int62; exact decide_eq_true h)]
@[simp] theorem ev_eRange1 (as : SemDs) : eRange1 as env m = kRa1 (as env m) := nr rfl
def kRa2 (r : Res (List D)) : Res (List D) := r.bind fun xs m1 => match xs with | [.int i, .int j] => if int62 i && int62 j then .ok (rangeD i j) m1 else .bot | _ => .bot
theorem kRa2_1 {i j : Int} (h : -4611686018427387904 ≤ i ∧ i < 4611686018427387904 ∧ -4611686018427387904 ≤ j ∧ j < 4611686018427387904) : kRa2 (.ok [.int i, .int j] m) = .ok (rangeD i j) m := by
  show (if (int62 i && int62 j) = true then _ else _) = _
  rw [if_pos (by unfold int62; rw [Bool.and_eq_true]; exact ⟨decide_eq_true ⟨h.1, h.2.1⟩, decide_eq_true h.2.2⟩)]
@[simp] theorem ev_eRange2 (as : SemDs) : eRange2 as env m = kRa2 (as env m) := nr rfl
@[simp] theorem ev_gSet (i : Nat) (x : D) : gSet i x env = some (env.set i (.d x)) := nr rfl
@[simp] theorem ev_gTupS (is : List Nat) (xs : List D) : gTupS is (.tup xs) env = gsSet is xs env := nr rfl
@[simp] theorem ev_gsSet0 : gsSet [] [] env = some env := nr rfl
@[simp] theorem ev_gsSet1 (i : Nat) (is : List Nat) (x : D) (xs : List D) : gsSet (i :: is) (x :: xs) env = gsSet is xs (env.set i (.d x)) := nr rfl
@[simp] theorem ev_wipe0 : wipeE env [] = env := nr rfl
@[simp] theorem ev_wipe1 (v : Nat) (vs : List Nat) : wipeE env (v :: vs) = (wipeE env vs).set v .un := nr rfl
@[simp] theorem ev_noX (a : α) : noX (.ok a m) = .ok a m := nr rfl
@[simp] theorem ev_comp0 (tg : SemG) (cond : SemB) (elt : SemR) : compL tg cond elt env [] m = .ok [] m := nr rfl
def kFl (r : Res (List D)) : Res RV := r.bind fun ys m2 => .ok (.fl ys) m2
@[simp] theorem kFl1 (ys : List D) : kFl (.ok ys m) = .ok (.fl ys) m := nr rfl
def kComp (tg : SemG) (cond : SemB) (elt : SemR) (env : Env) (r : Res (List D)) : Res RV := r.bind fun ds m1 => if ds.length ≤ LN then kFl (compL tg cond elt env ds m1) else .bot
theorem kComp1 {tg : SemG} {cond : SemB} {elt : SemR} {ds : List D} (h : ds.length ≤ 1000000) : kComp tg cond elt env (.ok ds m) = kFl (compL tg cond elt env ds m) := by
  show (if _ then _ else _) = _
  rw [if_pos h]
@[simp] theorem ev_rComp (it : SemDs) (tg : SemG) (cond : SemB) (elt : SemR) (vs : List Nat) : rComp it tg cond elt vs env m = kComp tg cond elt (wipeE env vs) (it env m) := nr rfl
-- statements
@[simp] theorem ev_sNop : sNop env m = .ok (.nx env) m := nr rfl
def kSq (g : SemS) (r : Res Out) : Res Out := r.bind fun o m1 => match o with | .nx env1 => g env1 m1 | o => .ok o m1
@[simp] theorem kSq1 (g : SemS) : kSq g (.ok (.nx env) m) = g env m := nr rfl
@[simp] theorem kSq2 (g : SemS) (rv : RV) : kSq g (.ok (.rt rv) m) = .ok (.rt rv) m := nr rfl
@[simp] theorem kSq3 (g : SemS) : kSq g (.ok (.bk env) m) = .ok (.bk env) m := nr rfl
@[simp] theorem kSq4 (g : SemS) : kSq g (.ok (.ct env) m) = .ok (.ct env) m := nr rfl
@[simp] theorem ev_sSeq (f g : SemS) : sSeq f g env m = kSq g (f env m) := nr rfl
def kRt (r : Res RV) : Res Out := r.bind fun rv m1 => .ok (.rt (unpk rv)) m1
@[simp] theorem kRt1 (rv : RV) : kRt (.ok rv m) = .ok (.rt (unpk rv)) m := nr rfl
@[simp] theorem ev_sRet (f : SemR) : sRet f env m = kRt (f env m) := nr rfl
@[simp] theorem ev_sRetN : sRetN env m = .ok (.rt (.d .non)) m := nr rfl
def kDrop (env : Env) (r : Res RV) : Res Out := r.bind fun _ m1 => .ok (.nx env) m1
@[simp] theorem kDrop1 (rv : RV) : kDrop env (.ok rv m) = .ok (.nx env) m := nr rfl
@[simp] theorem ev_sExpr (f : SemR) : sExpr f env m = kDrop env (f env m) := nr rfl
@[simp] theorem ev_sIf (c : SemB) (f g : SemS) : sIf c f g env m = kIf f g env (c env m) := nr rfl
def kSet (i : Nat) (env : Env) (r : Res RV) : Res Out := r.bind fun rv m1 => match slotOf rv with | some s => .ok (.nx (env.set i s)) m1 | none => .bot
@[simp] theorem kSet1 (i : Nat) (x : D) : kSet i env (.ok (.d x) m) = .ok (.nx (env.set i (.d x))) m := nr rfl
@[simp] theorem kSet2 (i : Nat) (x : List D) : kSet i env (.ok (.fl x) m) = .ok (.nx (env.set i (.own x))) m := nr rfl
@[simp] theorem ev_sSet (i : Nat) (f : SemR) : sSet i f env m = kSet i env (f env m) := nr rfl
def kFrz (i : Nat) (f : SemS) (env : Env) (m : Cells) (s : Option Slot) : Res Out := match s with
  | some (.own xs) => f (env.set i (.d (.lst xs))) m
  | _ => f env m
@[simp] theorem kFrz1 (i : Nat) (f : SemS) (xs : List D) : kFrz i f env m (some (.own xs)) = f (env.set i (.d (.lst xs))) m := nr rfl
@[simp] theorem kFrz2 (i : Nat) (f : SemS) (x : D) : kFrz i f env m (some (.d x)) = f env m := nr rfl
@[simp] theorem kFrz3 (i : Nat) (f : SemS) : kFrz i f env m (some .un) = f env m := nr rfl
@[simp] theorem ev_sFrz (i : Nat) (f : SemS) : sFrz i f env m = kFrz i f env m env[i]? := nr rfl
def kOE (o : Option Env) (m : Cells) : Res Out := match o with | some e => .ok (.nx e) m | none => .bot
@[simp] theorem kOE1 (e : Env) : kOE (some e) m = .ok (.nx e) m := nr rfl
def kAsg (g : SemG) (env : Env) (r : Res D) : Res Out := r.bind fun x m1 => kOE (g x env) m1
@[simp] theorem kAsg1 (g : SemG) (x : D) : kAsg g env (.ok x m) = kOE (g x env) m := nr rfl
@[simp] theorem ev_sAsg (g : SemG) (f : SemR) : sAsg g f env m = kAsg g env (fz f env m) := nr rfl
def kFor (g : SemG) (b : SemS) (env : Env) (r : Res (List D)) : Res Out := r.bind fun ds m1 => forL g b ds env m1
@[simp] theorem kFor1 (g : SemG) (b : SemS) (ds : List D) : kFor g b env (.ok ds m) = forL g b ds env m := nr rfl
@[simp] theorem ev_sFor (it : SemDs) (g : SemG) (b : SemS) : sFor it g b env m = kFor g b env (it env m) := nr rfl
@[simp] theorem ev_forL0 (g : SemG) (b : SemS) : forL g b [] env m = .ok (.nx env) m := nr rfl
def kPr2 (i j : Nat) (env : Env) (r1 : RV) (r : Res RV) : Res Out := r.bind fun r2 m2 => match slotOf r1, slotOf r2 with
  | some s1, some s2 => .ok (.nx ((env.set i s1).set j s2)) m2
  | _, _ => .bot
@[simp] theorem kPr2_1 (i j : Nat) (x y : D) : kPr2 i j env (.d x) (.ok (.d y) m) = .ok (.nx ((env.set i (.d x)).set j (.d y))) m := nr rfl
@[simp] theorem kPr2_2 (i j : Nat) (x y) : kPr2 i j env (.fl x) (.ok (.d y) m) = .ok (.nx ((env.set i (.own x)).set j (.d y))) m := nr rfl
@[simp] theorem kPr2_3 (i j : Nat) (x y) : kPr2 i j env (.d x) (.ok (.fl y) m) = .ok (.nx ((env.set i (.d x)).set j (.own y))) m := nr rfl
@[simp] theorem kPr2_4 (i j : Nat) (x y) : kPr2 i j env (.fl x) (.ok (.fl y) m) = .ok (.nx ((env.set i (.own x)).set j (.own y))) m := nr rfl
def kPr (i j : Nat) (g : SemR) (env : Env) (r : Res RV) : Res Out := r.bind fun r1 m => kPr2 i j env r1 (g env m)
@[simp] theorem kPr_1 (i j : Nat) (g : SemR) (r1 : RV) : kPr i j g env (.ok r1 m) = kPr2 i j env r1 (g env m) := nr rfl
@[simp] theorem ev_sPar2 (i j : Nat) (f g : SemR) : sPar2 i j f g env m = kPr i j g env (f env m) := nr rfl
def kPr33 (i j l : Nat) (env : Env) (r1 r2 : RV) (r : Res RV) : Res Out := r.bind fun r3 m3 => match slotOf r1, slotOf r2, slotOf r3 with
  | some s1, some s2, some s3 => .ok (.nx (((env.set i s1).set j s2).set l s3)) m3
  | _, _, _ => .bot
@[simp] theorem kPr33_1 (i j l : Nat) (r1 r2 r3 : RV) : kPr33 i j l env r1 r2 (.ok r3 m) = (match slotOf r1, slotOf r2, slotOf r3 with
  | some s1, some s2, some s3 => .ok (.nx (((env.set i s1).set j s2).set l s3)) m
  | _, _, _ => .bot) := nr rfl
def kPr32 (i j l : Nat) (h : SemR) (env : Env) (r1 : RV) (r : Res RV) : Res Out := r.bind fun r2 m => kPr33 i j l env r1 r2 (h env m)
@[simp] theorem kPr32_1 (i j l : Nat) (h : SemR) (r1 r2 : RV) : kPr32 i j l h env r1 (.ok r2 m) = kPr33 i j l env r1 r2 (h env m) := nr rfl
def kPr3 (i j l : Nat) (g h : SemR) (env : Env) (r : Res RV) : Res Out := r.bind fun r1 m => kPr32 i j l h env r1 (g env m)
@[simp] theorem kPr3_1 (i j l : Nat) (g h : SemR) (r1 : RV) : kPr3 i j l g h env (.ok r1 m) = kPr32 i j l h env r1 (g env m) := nr rfl
@[simp] theorem ev_sPar3 (i j l : Nat) (f g h : SemR) : sPar3 i j l f g h env m = kPr3 i j l g h env (f env m) := nr rfl
def kApp (i : Nat) (env : Env) (r : Res D) : Res Out := r.bind fun x m1 => match lget i env m1 with
  | some xs => if xs.length < LN then .ok (.nx (lupd i env m1 (xs ++ [x])).1) (lupd i env m1 (xs ++ [x])).2 else .bot
  | none => .bot
theorem kApp_own {i : Nat} {x : D} {xs : List D} (h : env[i]? = some (.own xs)) (hl : xs.length < 1000000) : kApp i env (.ok x m) = .ok (.nx (env.set i (.own (xs ++ [x])))) m := by
  have h1 : lget i env m = some xs := by unfold lget; rw [h]
  have h2 : lupd i env m (xs ++ [x]) = (env.set i (.own (xs ++ [x])), m) := by unfold lupd; rw [h]
  show (match lget i env m with | some xs => _ | none => _) = _
  rw [h1]
  show (if _ then _ else _) = _
  rw [if_pos hl, h2]
theorem ev_append_own {i : Nat} {f : SemR} {xs : List D} (h : env[i]? = some (.own xs)) : sAppend i f env m = kApp i env (fz f env m) := by
  have h1 : lget i env m = some xs := by unfold lget; rw [h]
  show (if _ then _ else _) = _
  rw [h1]
  rfl
theorem ev_setitem_ref {i n : Nat} {fi fe : SemR} {x : D} {k : Int} {j : Nat} {m1 m2 : Cells} {ys xs : List D} (h1 : fz fe env m = .ok x m1) (h : env[i]? = some (.d (.ref n))) (h2 : m1[n]? = some (.lst ys)) (h3 : vl fi env m1 = .ok (.int k) m2) (h4 : m2[n]? = some (.lst xs)) (h5 : ixN xs.length k = some j) :
    sSetItem i fi fe env m = .ok (.nx env) (m2.set n (.lst (xs.set j x))) := by
  have g1 : lget i env m1 = some ys := by unfold lget; rw [h]; show (match m1[n]? with | some (.lst xs) => some xs | none => none) = _; rw [h2]
  have g2 : lget i env m2 = some xs := by unfold lget; rw [h]; show (match m2[n]? with | some (.lst xs) => some xs | none => none) = _; rw [h4]
  have g3 : lupd i env m2 (xs.set j x) = (env, m2.set n (.lst (xs.set j x))) := by unfold lupd; rw [h]
  unfold sSetItem
  rw [h1]
  show (if (lget i env m1).isSome = true then _ else _) = _
  rw [g1]
  show (vl fi env m1).bind _ = _
  rw [h3]
  show (match lget i env m2, D.int k with | some xs, .int k => _ | _, _ => _) = _
  rw [g2]
  show (match ixN xs.length k with | some j => _ | none => _) = _
  rw [h5]
  show Res.ok (Out.nx (lupd i env m2 (xs.set j x)).1) (lupd i env m2 (xs.set j x)).2 = _
  rw [g3]
def kRef (i : Nat) (env : Env) (r : Res RV) : Res Out := r.bind fun rv m1 => match rv with | .fl xs => .ok (.nx (env.set i (.d (.ref m1.length)))) (m1 ++ [.lst xs]) | _ => .bot
@[simp] theorem kRef1 (i : Nat) (xs : List D) : kRef i env (.ok (.fl xs) m) = .ok (.nx (env.set i (.d (.ref m.length)))) (m ++ [.lst xs]) := nr rfl
@[simp] theorem ev_sRef (i : Nat) (f : SemR) : sRef i f env m = kRef i env (f env m) := nr rfl
def kFn (r : Res Out) : Res RV := r.bind fun o m1 => match o with | .rt rv => .ok (unpk rv) m1 | .nx _ => .ok (.d .non) m1 | _ => .bot
@[simp] theorem kFn1 (rv : RV) : kFn (.ok (.rt rv) m) = .ok (unpk rv) m := nr rfl
@[simp] theorem kFn2 : kFn (.ok (.nx env) m) = .ok (.d .non) m := nr rfl
@[simp] theorem ev_fnRun (n N : Nat) (b : SemS) (ds : List D) : fnRun n N b ds m = if ds.length = n then kFn (b (ds.map Slot.d ++ List.replicate (N - n) .un) m) else .bot := nr rfl
@[simp] theorem ev_id (i : Int) : (i == i) = true := beq_self_eq_true i
def kCell (c : Option Cell) (i : Int) : Option D := match c with | some (.lst xs) => atI xs i | none => none
@[simp] theorem kCell1 (xs : List D) (i : Int) : kCell (some (.lst xs)) i = atI xs i := nr rfl
-- operations
@[simp] theorem ev_add (i j : Int) : gAdd (.int i) (.int j) = some (.d (.int (i + j))) := nr rfl
@[simp] theorem ev_sub (i j : Int) : gMinus (.int i) (.int j) = some (.d (.int (i - j))) := nr rfl
theorem ev_mul {i j : Int} (h : mulOk i j = true) : gMul (.int i) (.int j) = some (.d (.int (i * j))) := by show (if _ then _ else _) = _; rw [if_pos h]
theorem ev_mulL {i j : Int} (h : -18446744073709551616 < i ∧ i < 18446744073709551616) : gMul (.int i) (.int j) = some (.d (.int (i * j))) := ev_mul (by unfold mulOk; simp [h])
theorem ev_mulR {i j : Int} (h : -18446744073709551616 < j ∧ j < 18446744073709551616) : gMul (.int i) (.int j) = some (.d (.int (i * j))) := ev_mul (by unfold mulOk; simp [h])
theorem ev_div {i j : Int} (h : 0 < j ∧ j < 1073741824) : gDiv (.int i) (.int j) = some (.d (.int (i / j))) := by show (if _ then _ else _) = _; rw [if_pos ⟨h.1, .inl h.2⟩]
theorem ev_mod {i j : Int} (h : 0 < j) : gMod (.int i) (.int j) = some (.d (.int (i % j))) := by show (if _ then _ else _) = _; rw [if_pos h]
theorem ev_pow {i j : Int} (h : 0 ≤ j ∧ j ≤ 1000000 ∧ i.natAbs < 18446744073709551616) : gPow (.int i) (.int j) = some (.d (.int (i ^ j.toNat))) := by show (if _ then _ else _) = _; rw [if_pos h]
@[simp] theorem ev_lt (i j : Int) : gLt (.int i) (.int j) = some (.d (.bl (decide (i < j)))) := nr rfl
@[simp] theorem ev_le (i j : Int) : gLe (.int i) (.int j) = some (.d (.bl (decide (i ≤ j)))) := nr rfl
@[simp] theorem ev_gt (i j : Int) : gGt (.int i) (.int j) = some (.d (.bl (decide (j < i)))) := nr rfl
@[simp] theorem ev_ge (i j : Int) : gGe (.int i) (.int j) = some (.d (.bl (decide (j ≤ i)))) := nr rfl
@[simp] theorem ev_eq (x y : D) : gEq x y = if plainD 60 x && plainD 60 y then some (.d (.bl (deq x y))) else none := nr rfl
@[simp] theorem ev_ne (x y : D) : gNe x y = if plainD 60 x && plainD 60 y then some (.d (.bl (!deq x y))) else none := nr rfl
@[simp] theorem ev_pl1 (n : Nat) : plainD n .non = true := by unfold plainD; rfl
@[simp] theorem ev_pl2 (n : Nat) (b : Bool) : plainD n (.bl b) = true := by unfold plainD; rfl
@[simp] theorem ev_pl3 (n : Nat) (b : Int) : plainD n (.int b) = true := by unfold plainD; rfl
@[simp] theorem ev_pl4 (n : Nat) (b : Str) : plainD n (.str b) = true := by unfold plainD; rfl
@[simp] theorem ev_pl5 (n : Nat) (xs : List D) : plainD (n + 1) (.lst xs) = plainDs n xs := by rw [plainD]
@[simp] theorem ev_pl6 (n : Nat) (xs : List D) : plainD (n + 1) (.tup xs) = plainDs n xs := by rw [plainD]
@[simp] theorem ev_pls0 (n : Nat) : plainDs n [] = true := by rw [plainDs]
@[simp] theorem ev_pls1 (n : Nat) (x : D) (xs : List D) : plainDs n (x :: xs) = (plainD n x && plainDs n xs) := by rw [plainDs]
@[simp] theorem ev_deq1 (i j : Int) : deq (.int i) (.int j) = decide (i = j) := by unfold deq; rfl
@[simp] theorem ev_deq2 (i j : Bool) : deq (.bl i) (.bl j) = (i == j) := by unfold deq; rfl
@[simp] theorem ev_deq3 (i j : Str) : deq (.str i) (.str j) = (i == j) := by unfold deq; rfl
@[simp] theorem ev_deq4 (i j : List D) : deq (.lst i) (.lst j) = deqs i j := by rw [deq]
@[simp] theorem ev_deq5 (i j : List D) : deq (.tup i) (.tup j) = deqs i j := by rw [deq]
@[simp] theorem ev_deq6 : deq .non .non = true := by unfold deq; rfl
@[simp] theorem ev_deq7 (b : Bool) (j : Int) : deq (.bl b) (.int j) = decide ((if b then 1 else 0) = j) := by unfold deq; rfl
@[simp] theorem ev_deq8 (b : Bool) (j : Int) : deq (.int j) (.bl b) = decide (j = (if b then 1 else 0)) := by unfold deq; rfl
@[simp] theorem ev_deqs0 : deqs [] [] = true := by rw [deqs]
@[simp] theorem ev_deqs1 (x y : D) (xs ys : List D) : deqs (x :: xs) (y :: ys) = (deq x y && deqs xs ys) := by rw [deqs]
@[simp] theorem ev_deqs2 (x : D) (xs : List D) : deqs (x :: xs) [] = false := by unfold deqs; rfl
@[simp] theorem ev_deqs3 (x : D) (xs : List D) : deqs [] (x :: xs) = false := by unfold deqs; rfl
@[simp] theorem ev_isnon (x : D) : gIs x .non = some (.d (.bl (isNon x))) := by cases x <;> rfl
@[simp] theorem ev_isbl (a b : Bool) : gIs (.bl a) (.bl b) = some (.d (.bl (a == b))) := nr rfl
@[simp] theorem ev_isnotnon (x : D) : gIsNot x .non = some (.d (.bl (!isNon x))) := by cases x <;> rfl
@[simp] theorem ev_isnotbl (a b : Bool) : gIsNot (.bl a) (.bl b) = some (.d (.bl (!(a == b)))) := nr rfl
@[simp] theorem ev_isNon1 : isNon .non = true := nr rfl
@[simp] theorem ev_isNon2 (i : Int) : isNon (.int i) = false := nr rfl
@[simp] theorem ev_isNon3 (i : List D) : isNon (.tup i) = false := nr rfl
@[simp] theorem ev_isNon4 (i : List D) : isNon (.lst i) = false := nr rfl
@[simp] theorem ev_len1 (xs : List D) : gLen [.lst xs] = some (.d (.int xs.length)) := nr rfl
@[simp] theorem ev_len2 (xs : List D) : gLen [.tup xs] = some (.d (.int xs.length)) := nr rfl
@[simp] theorem ev_len3 (xs : List D) : gLen [.scr xs] = some (.d (.int xs.length)) := nr rfl
@[simp] theorem ev_abs (i : Int) : gAbs [.int i] = some (.d (.int (if i < 0 then -i else i))) := nr rfl
@[simp] theorem ev_int1 (i : Int) : gInt [.int i] = some (.d (.int i)) := nr rfl
@[simp] theorem ev_int2 (b : Bool) : gInt [.bl b] = some (.d (.int (if b then 1 else 0))) := nr rfl
@[simp] theorem ev_max2 (i j : Int) : gMax [.int i, .int j] = some (.d (.int (if j > i then j else i))) := nr rfl
@[simp] theorem ev_min2 (i j : Int) : gMin [.int i, .int j] = some (.d (.int (if j < i then j else i))) := nr rfl
theorem ints_map : ∀ ns : List Int, intsOf (ns.map D.int) = some ns
  | [] => rfl
  | n :: ns => by show (intsOf (ns.map D.int)).map _ = _; rw [ints_map ns]; rfl
theorem bls_map : ∀ ns : List Bool, blsOf (ns.map D.bl) = some ns
  | [] => rfl
  | n :: ns => by show (blsOf (ns.map D.bl)).map _ = _; rw [bls_map ns]; rfl
theorem ev_sum (ns : List Int) : gSum [.lst (ns.map D.int)] = some (.d (.int ns.sum)) := by show (intsOf _).map _ = _; rw [ints_map]; rfl
theorem ev_all (ns : List Bool) : gAll [.lst (ns.map D.bl)] = some (.d (.bl (ns.all id))) := by show (blsOf _).map _ = _; rw [bls_map]; rfl
theorem ev_any (ns : List Bool) : gAny [.lst (ns.map D.bl)] = some (.d (.bl (ns.any id))) := by show (blsOf _).map _ = _; rw [bls_map]; rfl
@[simp] theorem ev_tuple1 (xs : List D) : gTuple [.lst xs] = some (.d (.tup xs)) := nr rfl
@[simp] theorem ev_tuple2 (xs : List D) : gTuple [.tup xs] = some (.d (.tup xs)) := nr rfl
@[simp] theorem ev_list1 (xs : List D) : gList [.lst xs] = some (.fl xs) := nr rfl
@[simp] theorem ev_list2 (xs : List D) : gList [.tup xs] = some (.fl xs) := nr rfl
@[simp] theorem ev_list3 (xs : List D) : gList [.scr xs] = some (.fl xs) := nr rfl
@[simp] theorem ev_reprb (b : Bool) : gRepr [.bl b] = some (.d (.str (if b then "True" else "False"))) := nr rfl
@[simp] theorem ev_ix1 (xs : List D) (i : Int) : itemAt (.lst xs) (.int i) m = atI xs i := nr rfl
@[simp] theorem ev_ix2 (xs : List D) (i : Int) : itemAt (.tup xs) (.int i) m = atI xs i := nr rfl
@[simp] theorem ev_ix3 (xs : List D) (i : Int) : itemAt (.scr xs) (.int i) m = atI xs i := nr rfl
@[simp] theorem ev_ix4 (n : Nat) (i : Int) : itemAt (.ref n) (.int i) m = kCell m[n]? i := nr rfl
@[simp] theorem ev_ty1 : tyD .non = some .none := nr rfl
@[simp] theorem ev_ty2 (b : Bool) : tyD (.bl b) = some .bool := nr rfl
@[simp] theorem ev_ty3 (b : Int) : tyD (.int b) = some .int := nr rfl
@[simp] theorem ev_ty4 (b : Str) : tyD (.str b) = some .str := nr rfl
@[simp] theorem ev_ty5 (b : List D) : tyD (.tup b) = some .tuple := nr rfl
@[simp] theorem ev_ty6 (b : List D) : tyD (.lst b) = some .list := nr rfl
@[simp] theorem ev_ty7 (b c : List D) : tyD (.dct b c) = some .dict := nr rfl
@[simp] theorem ev_isa1 : isa .bool .int = true := nr rfl
@[simp] theorem ev_isa2 : isa .int .int = true := nr rfl
@[simp] theorem ev_isa3 : isa .int .bool = false := nr rfl
@[simp] theorem ev_isa4 : isa .bool .bool = true := nr rfl
@[simp] theorem ev_isa5 : isa .none .int = false := nr rfl
@[simp] theorem ev_isa6 : isa .str .int = false := nr rfl
@[simp] theorem ev_isa7 : isa .tuple .int = false := nr rfl
@[simp] theorem ev_isa8 : isa .list .int = false := nr rfl
@[simp] theorem ev_isa9 : isa .dict .int = false := nr rfl
end
end Ev
/-! Ev, part T: the draw that all laws share. -/
namespace Ev
open PySem PySem.Spec L2
def bDice : SemS :=
    (sSeq (sSet 2 (rIf (bBool (rBin gLt (rVar 1) (rCB gLen (pCons (rVar 0) aNil)))) (rCB gInt (pCons (rIx (rVar 0) (rVar 1)) aNil)) (rBin gAdd (rBin gMul (rC (.int 103)) (rVar 1)) (rC (.int 67)))))
    (sSeq (sSet 3 (rBin gMod (rCB gMax (pCons (rC (.int 0)) (pCons (rBin gMinus (rCB gAbs (pCons (rVar 2) aNil)) (rBin gPow (rC (.int 10)) (rC (.int 16)))) aNil))) (rBin gMul (rBin gPow (rC (.int 10)) (rC (.int 57))) (rBin gPow (rC (.int 10)) (rC (.int 60))))))
    (sRet (rLst (aCons (rVar 3) (aCons (rBin gAdd (rBin gAdd (rBin gAdd (rBin gMul (rBin gMod (rCB gAbs (pCons (rVar 2) aNil)) (rC (.int 1152921504606846733))) (rC (.int 97))) (rBin gMul (rC (.int 1013)) (rVar 1))) (rBin gMul (rC (.int 53)) (rCB gInt (pCons (rBin gLt (rVar 2) (rC (.int 0))) aNil)))) (rC (.int 41))) (aCons (rC (.int 0)) aNil)))))))
def fDice : Fn := fnRun 2 4 bDice
def bRoll : SemS :=
    (sSeq (sIf (bBool (rBin gGt (rIx (rVar 0) (rC (.int 0))) (rC (.int 0)))) (sSeq (sSet 2 (rBin gMod (rCB gInt (pCons (rIx (rVar 0) (rC (.int 0))) aNil)) (rVar 1)))
    (sSeq (sSetItem 0 (rC (.int 0)) (rBin gDiv (rIx (rVar 0) (rC (.int 0))) (rVar 1)))
    (sRet (rVar 2)))) sNop)
    (sSeq (sSetItem 0 (rC (.int 2)) (rBin gAdd (rIx (rVar 0) (rC (.int 2))) (rC (.int 1))))
    (sSeq (sSet 3 (rBin gMod (rCB gInt (pCons (rBin gAdd (rIx (rVar 0) (rC (.int 1))) (rBin gMul (rC (.int 86028157)) (rIx (rVar 0) (rC (.int 2))))) aNil)) (rC (.int 2305843009213693487))))
    (sSeq (sSet 4 (rBin gAdd (rBin gMul (rBin gMod (rCB gInt (pCons (rBin gAdd (rBin gMul (rVar 3) (rVar 3)) (rBin gMul (rC (.int 101)) (rIx (rVar 0) (rC (.int 2))))) aNil)) (rC (.int 2305843009213693669))) (rC (.int 6700417))) (rVar 3)))
    (sRet (rBin gMod (rCB gInt (pCons (rBin gDiv (rVar 4) (rC (.int 65537))) aNil)) (rVar 1)))))))
def fRoll : Fn := fnRun 2 5 bRoll
def bPick (f : Fn) : SemS :=
    (sRet (rIx (rVar 1) (rCall 2 f (aCons (rVar 0) (aCons (rCB gLen (pCons (rVar 1) aNil)) aNil)))))
def fPick : Fn := fnRun 2 2 (bPick fRoll)
/-- the cell n is a dice -/
def Dice (n : Nat) (m : Cells) : Prop := ∃ a b c : Int, m[n]? = some (.lst [.int a, .int b, .int c])
/-- another state of the cell n alone -/
def Only (n : Nat) (m m' : Cells) : Prop := m'.length = m.length ∧ ∀ k, k ≠ n → m'[k]? = m[k]?
theorem Only.rfl {n : Nat} {m : Cells} : Only n m m := ⟨Eq.refl _, fun _ _ => Eq.refl _⟩
theorem Only.trans {n : Nat} {m m1 m2 : Cells} (a : Only n m m1) (b : Only n m1 m2) : Only n m m2 := ⟨b.1.trans a.1, fun k h => (b.2 k h).trans (a.2 k h)⟩
theorem Only.set {n : Nat} {m : Cells} (c : Cell) : Only n m (m.set n c) := ⟨List.length_set, fun k h => List.getElem?_set_ne (fun e => h e.symm)⟩
theorem set_same {n : Nat} {m : Cells} {c d : Cell} (h : m[n]? = some d) : (m.set n c)[n]? = some c := List.getElem?_set_self (List.getElem?_eq_some_iff.mp h).1
@[simp] theorem at3_0 (a b c : D) : atI [a, b, c] 0 = some a := rfl
@[simp] theorem at3_1 (a b c : D) : atI [a, b, c] 1 = some b := rfl
@[simp] theorem at3_2 (a b c : D) : atI [a, b, c] 2 = some c := rfl
theorem roll_spec {n : Nat} {m : Cells} (k : Int) (hD : Dice n m) (hk : 0 < k) (hk2 : k < 1073741824 := by omega) : ∃ r m', fRoll [.ref n, .int k] m = .ok (.d (.int r)) m' ∧ 0 ≤ r ∧ r < k ∧ Dice n m' ∧ Only n m m' := by
  obtain ⟨a, b, c, h⟩ := hD
  by_cases ha : 0 < a
  · have e : sSetItem 0 (rC (.int 0)) (rBin gDiv (rIx (rVar 0) (rC (.int 0))) (rVar 1)) [.d (.ref n), .d (.int k), .d (.int (a % k)), .un, .un] m = .ok (.nx [.d (.ref n), .d (.int k), .d (.int (a % k)), .un, .un]) (m.set n (.lst [.int (a / k), .int b, .int c])) :=
      ev_setitem_ref (m1 := m) (m2 := m) (j := 0) (k := 0) (x := .int (a / k)) (by simp [h, ev_div ⟨hk, hk2⟩]) rfl h (by simp) h rfl
    refine ⟨a % k, m.set n (.lst [.int (a / k), .int b, .int c]), ?_, Int.emod_nonneg _ (by omega), Int.emod_lt_of_pos _ hk, ⟨_, _, _, set_same h⟩, .set _⟩
    unfold fRoll bRoll
    simp [h, ha, ev_mod hk, e]
  · have e : sSetItem 0 (rC (.int 2)) (rBin gAdd (rIx (rVar 0) (rC (.int 2))) (rC (.int 1))) [.d (.ref n), .d (.int k), .un, .un, .un] m = .ok (.nx [.d (.ref n), .d (.int k), .un, .un, .un]) (m.set n (.lst [.int a, .int b, .int (c + 1)])) :=
      ev_setitem_ref (m1 := m) (m2 := m) (j := 2) (k := 2) (x := .int (c + 1)) (by simp [h]) rfl h (by simp) h rfl
    have h2 := set_same (c := .lst [.int a, .int b, .int (c + 1)]) h
    have m0 : (0 : Int) < 2305843009213693487 := by decide
    have m1 : (0 : Int) < 2305843009213693669 := by decide
    have o1 := Int.emod_nonneg (b + 86028157 * (c + 1)) (b := 2305843009213693487) (by decide)
    have o2 := Int.emod_lt_of_pos (b + 86028157 * (c + 1)) m0
    generalize ho : (b + 86028157 * (c + 1)) % 2305843009213693487 = o at o1 o2
    have t1 := Int.emod_nonneg (o * o + 101 * (c + 1)) (b := 2305843009213693669) (by decide)
    have t2 := Int.emod_lt_of_pos (o * o + 101 * (c + 1)) m1
    generalize ht : (o * o + 101 * (c + 1)) % 2305843009213693669 = t at t1 t2
    refine ⟨(t * 6700417 + o) / 65537 % k, m.set n (.lst [.int a, .int b, .int (c + 1)]), ?_, Int.emod_nonneg _ (by omega), Int.emod_lt_of_pos _ hk, ⟨_, _, _, h2⟩, .set _⟩
    unfold fRoll bRoll
    simp [h, ha, e, h2, ev_mod hk, ev_mod m0, ev_mod m1, ev_mulL (i := 86028157) (by omega), ho, ev_mulL (i := o) (j := o) (by omega), ev_mulL (i := 101) (by omega), ht, ev_mulL (i := t) (by omega), ev_div (j := 65537) (by omega)]
theorem ixN_ok {n : Nat} {i : Int} (h0 : 0 ≤ i) (h : i < n) : ixN n i = some i.toNat := by
  unfold ixN
  rw [if_pos h0, if_pos h]
theorem atI_ok {α : Type} {xs : List α} {i : Int} (h0 : 0 ≤ i) (h : i < xs.length) : ∃ x, atI xs i = some x ∧ x ∈ xs := by
  unfold atI
  rw [ixN_ok h0 h]
  have : i.toNat < xs.length := by omega
  exact ⟨xs[i.toNat], by show xs[i.toNat]? = _; rw [List.getElem?_eq_getElem this], List.getElem_mem _⟩
theorem pick_spec {n : Nat} {m : Cells} (xs : List D) (hD : Dice n m) (hx : xs ≠ []) (hx2 : xs.length < 1000000 := by simp) : ∃ x m', fPick [.ref n, .lst xs] m = .ok (.d x) m' ∧ x ∈ xs ∧ Dice n m' ∧ Only n m m' := by
  have hl : 0 < xs.length := List.length_pos_iff.mpr hx
  obtain ⟨r, m', e, r0, r1, h1, h2⟩ := roll_spec (xs.length : Int) hD (by omega) (by omega)
  obtain ⟨x, g, hm⟩ := atI_ok r0 r1
  refine ⟨x, m', ?_, hm, h1, h2⟩
  unfold fPick bPick
  simp [e, g]
theorem dice_spec (ns : List Int) (k : Nat) (m : Cells) : ∃ a b c : Int, fDice [.scr (ns.map D.int), .int k] m = .ok (.fl [.int a, .int b, .int c]) m := by
  have key : ∃ cell : Int, (rIf (bBool (rBin gLt (rVar 1) (rCB gLen (pCons (rVar 0) aNil)))) (rCB gInt (pCons (rIx (rVar 0) (rVar 1)) aNil)) (rBin gAdd (rBin gMul (rC (.int 103)) (rVar 1)) (rC (.int 67)))) [.d (.scr (ns.map D.int)), .d (.int k), .un, .un] m = .ok (.d (.int cell)) m := by
    by_cases h : (k : Int) < ns.length
    · obtain ⟨x, g, hm⟩ := atI_ok (xs := ns.map D.int) (i := (k : Int)) (by omega) (by simpa using h)
      obtain ⟨y, hy, rfl⟩ := List.mem_map.mp hm
      have h' : k < ns.length := by omega
      exact ⟨y, by simp [h', g]⟩
    · have h' : ¬ k < ns.length := by omega
      exact ⟨103 * (k : Int) + 67, by simp [h', ev_mulL (i := 103) (by omega)]⟩
  obtain ⟨cell, key⟩ := key
  have m2 : (0 : Int) < 1152921504606846733 := by decide
  have o1 := Int.emod_nonneg (if cell < 0 then -cell else cell) (b := 1152921504606846733) (by decide)
  have o2 := Int.emod_lt_of_pos (if cell < 0 then -cell else cell) m2
  generalize ho : (if cell < 0 then -cell else cell) % 1152921504606846733 = o at o1 o2
  unfold fDice bDice
  simp only [ev_fnRun, ev_sSeq, ev_sSet, List.length_cons, List.length_nil, List.map_cons, List.map_nil, List.cons_append, List.nil_append, List.replicate, key]
  simp [ev_pow, ev_mul (i := 1000000000000000000000000000000000000000000000000000000000) (j := 1000000000000000000000000000000000000000000000000000000000000) (by decide +kernel), ev_mod (j := 1000000000000000000000000000000000000000000000000000000000000000000000000000000000000000000000000000000000000000000000) (by decide), ev_mod m2, ho, ev_mulL (i := o) (by omega), ev_mulL (i := 1013) (by omega), ev_mulL (i := 53) (by omega)]
end Ev
/-! Ev, part U: loops and comprehensions in plain words; a bit of arithmetic. -/
namespace Ev
open PySem PySem.Spec L2
section
variable {env : Env} {m : Cells}
def kC2 (tg : SemG) (cond : SemB) (elt : SemR) (env : Env) (xs : List D) (r : Res D) : Res (List D) := r.bind fun y m2 => kCons2 y (compL tg cond elt env xs m2)
@[simp] theorem kC2_1 (tg : SemG) (cond : SemB) (elt : SemR) (xs : List D) (y : D) : kC2 tg cond elt env xs (.ok y m) = kCons2 y (compL tg cond elt env xs m) := nr rfl
def kC1 (tg : SemG) (cond : SemB) (elt : SemR) (env env1 : Env) (xs : List D) (r : Res Bool) : Res (List D) := r.bind fun b m1 => if b = true then kC2 tg cond elt env xs (noX (fz elt env1 m1)) else compL tg cond elt env xs m1
@[simp] theorem kC1_1 (tg : SemG) (cond : SemB) (elt : SemR) (env1 : Env) (xs : List D) : kC1 tg cond elt env env1 xs (.ok true m) = kC2 tg cond elt env xs (noX (fz elt env1 m)) := nr rfl
@[simp] theorem kC1_2 (tg : SemG) (cond : SemB) (elt : SemR) (env1 : Env) (xs : List D) : kC1 tg cond elt env env1 xs (.ok false m) = compL tg cond elt env xs m := nr rfl
@[simp] theorem ev_comp1 (i : Nat) (cond : SemB) (elt : SemR) (x : D) (xs : List D) : compL (gSet i) cond elt env (x :: xs) m = kC1 (gSet i) cond elt env (env.set i (.d x)) xs (noX (cond (env.set i (.d x)) m)) := nr rfl
@[simp] theorem ev_comp2 (is : List Nat) (cond : SemB) (elt : SemR) (ys : List D) (xs : List D) : compL (gTupS is) cond elt env (.tup ys :: xs) m = (match gsSet is ys env with | some e => kC1 (gTupS is) cond elt env e xs (noX (cond e m)) | none => .bot) := by
  dsimp only [compL]
  rw [ev_gTupS]
  cases gsSet is ys env <;> rfl
def kF2 (g : SemG) (b : SemS) (xs : List D) (r : Res Out) : Res Out := r.bind fun o m2 => match o with
  | .nx env2 => forL g b xs env2 m2
  | .ct env2 => forL g b xs env2 m2
  | .bk env2 => .ok (.nx env2) m2
  | .rt rv => .ok (.rt rv) m2
@[simp] theorem kF2_1 (g : SemG) (b : SemS) (xs : List D) : kF2 g b xs (.ok (.nx env) m) = forL g b xs env m := nr rfl
@[simp] theorem kF2_2 (g : SemG) (b : SemS) (xs : List D) : kF2 g b xs (.ok (.ct env) m) = forL g b xs env m := nr rfl
@[simp] theorem kF2_3 (g : SemG) (b : SemS) (xs : List D) : kF2 g b xs (.ok (.bk env) m) = .ok (.nx env) m := nr rfl
@[simp] theorem kF2_4 (g : SemG) (b : SemS) (xs : List D) (rv : RV) : kF2 g b xs (.ok (.rt rv) m) = .ok (.rt rv) m := nr rfl
@[simp] theorem ev_forL1 (i : Nat) (b : SemS) (x : D) (xs : List D) : forL (gSet i) b (x :: xs) env m = kF2 (gSet i) b xs (b (env.set i (.d x)) m) := nr rfl
@[simp] theorem ev_forL2 (is : List Nat) (b : SemS) (ys : List D) (xs : List D) : forL (gTupS is) b (.tup ys :: xs) env m = (match gsSet is ys env with | some e => kF2 (gTupS is) b xs (b e m) | none => .bot) := by
  dsimp only [forL]
  rw [ev_gTupS]
  cases gsSet is ys env <;> rfl
end
@[simp] theorem s_tt : (("True" : Str) == ("True" : Str)) = true := by decide
@[simp] theorem s_ff : (("False" : Str) == ("False" : Str)) = true := by decide
@[simp] theorem s_tf : (("True" : Str) == ("False" : Str)) = false := by decide
@[simp] theorem s_ft : (("False" : Str) == ("True" : Str)) = false := by decide
theorem comp_map {i : Nat} {elt : SemR} {env : Env} {m : Cells} {F : D → D} : ∀ {xs : List D}, (∀ x ∈ xs, fz elt (env.set i (.d x)) m = .ok (F x) m) → compL (gSet i) bYes elt env xs m = .ok (xs.map F) m
  | [], _ => rfl
  | x :: xs, h => by
    show (noX (fz elt (env.set i (.d x)) m)).bind _ = _
    rw [h x (List.mem_cons_self ..)]
    show (compL (gSet i) bYes elt env xs m).bind _ = _
    rw [comp_map fun y hy => h y (List.mem_cons_of_mem _ hy)]
    rfl
theorem comp_filter {i : Nat} {c : SemB} {elt : SemR} {env : Env} {m : Cells} {P : D → Bool} {F : D → D} : ∀ {xs : List D}, (∀ x ∈ xs, c (env.set i (.d x)) m = .ok (P x) m) → (∀ x ∈ xs, P x = true → fz elt (env.set i (.d x)) m = .ok (F x) m) → compL (gSet i) c elt env xs m = .ok ((xs.filter P).map F) m
  | [], _, _ => rfl
  | x :: xs, h, h' => by
    have t := comp_filter (fun y hy => h y (List.mem_cons_of_mem _ hy)) fun y hy => h' y (List.mem_cons_of_mem _ hy)
    show (noX (c (env.set i (.d x)) m)).bind _ = _
    rw [h x (List.mem_cons_self ..)]
    show (if P x = true then _ else _) = _
    by_cases hp : P x = true
    · rw [if_pos hp, h' x (List.mem_cons_self ..) hp]
      show (compL (gSet i) c elt env xs m).bind _ = _
      rw [t, List.filter_cons_of_pos hp]
      rfl
    · rw [if_neg hp, t, List.filter_cons_of_neg hp]
theorem for_nx {g : SemG} {b : SemS} {x : D} {xs : List D} {env e1 e2 : Env} {m m2 : Cells} (h1 : g x env = some e1) (h2 : b e1 m = .ok (.nx e2) m2) : forL g b (x :: xs) env m = forL g b xs e2 m2 := by
  dsimp only [forL]
  rw [h1]
  dsimp only
  rw [h2]
  rfl
theorem for_rt {g : SemG} {b : SemS} {x : D} {xs : List D} {env e1 : Env} {rv : RV} {m m2 : Cells} (h1 : g x env = some e1) (h2 : b e1 m = .ok (.rt rv) m2) : forL g b (x :: xs) env m = .ok (.rt rv) m2 := by
  dsimp only [forL]
  rw [h1]
  dsimp only
  rw [h2]
  rfl
/-- a loop that answers at its kth item -/
theorem for_find {i : Nat} {b : SemS} {m : Cells} {rv : RV} {env : Env} : ∀ {ds : List D} {k : Nat} {x : D} (s : Slot), ds[k]? = some x → (∀ j y, j < k → ds[j]? = some y → b (env.set i (.d y)) m = .ok (.nx (env.set i (.d y))) m) → b (env.set i (.d x)) m = .ok (.rt rv) m → forL (gSet i) b ds (env.set i s) m = .ok (.rt rv) m
  | [], _, _, _, h, _, _ => by cases h
  | d :: ds, 0, x, s, h, _, hx => by
    cases h
    exact for_rt (e1 := env.set i (.d d)) (by show some ((env.set i s).set i (.d d)) = _; rw [List.set_set]) hx
  | d :: ds, k + 1, x, s, h, hb, hx => by
    rw [for_nx (e1 := env.set i (.d d)) (e2 := env.set i (.d d)) (m2 := m) (by show some ((env.set i s).set i (.d d)) = _; rw [List.set_set]) (hb 0 d (Nat.succ_pos _) rfl)]
    exact for_find (.d d) (k := k) h (fun j y hj hy => hb (j + 1) y (Nat.succ_lt_succ hj) hy) hx
/-- a loop that changes nothing -/
theorem for_all {i : Nat} {b : SemS} {m : Cells} {env : Env} : ∀ {ds : List D} (s : Slot), (∀ y ∈ ds, b (env.set i (.d y)) m = .ok (.nx (env.set i (.d y))) m) → ∃ s', forL (gSet i) b ds (env.set i s) m = .ok (.nx (env.set i s')) m
  | [], s, _ => ⟨s, rfl⟩
  | d :: ds, s, hb => by
    rw [for_nx (e1 := env.set i (.d d)) (e2 := env.set i (.d d)) (m2 := m) (by show some ((env.set i s).set i (.d d)) = _; rw [List.set_set]) (hb d (List.mem_cons_self ..))]
    exact for_all (.d d) fun y hy => hb y (List.mem_cons_of_mem _ hy)
/-- a loop whose body goes on every time -/
theorem for_inv {g : SemG} {b : SemS} (I : Nat → Env → Cells → Prop) : ∀ {ds : List D} {k : Nat} {env : Env} {m : Cells}, (∀ (j : Nat) (x : D) (env : Env) (m : Cells), ds[j]? = some x → I (k + j) env m → ∃ e1 e2 m2, g x env = some e1 ∧ b e1 m = .ok (.nx e2) m2 ∧ I (k + j + 1) e2 m2) → I k env m → ∃ e m', forL g b ds env m = .ok (.nx e) m' ∧ I (k + ds.length) e m'
  | [], k, env, m, _, h0 => ⟨env, m, rfl, h0⟩
  | x :: xs, k, env, m, h, h0 => by
    obtain ⟨e1, e2, m2, h1, h2, h3⟩ := h 0 x env m rfl h0
    obtain ⟨e, m', h4, h5⟩ := for_inv (g := g) (b := b) I (ds := xs) (k := k + 1) (env := e2) (m := m2) (fun j y env m hj hi => by
      have e : k + 1 + j = k + (j + 1) := by omega
      rw [e] at hi ⊢
      exact h (j + 1) y env m hj hi) h3
    refine ⟨e, m', ?_, by rw [List.length_cons, show k + (xs.length + 1) = k + 1 + xs.length by omega]; exact h5⟩
    dsimp only [forL]
    rw [h1]
    show (b e1 m).bind _ = _
    rw [h2]
    exact h4
/-- a loop that ends when its test fails -/
theorem while_inv {c : SemB} {b : SemS} (I : Nat → Env → Cells → Prop) (E : Env → Cells → Prop) (h : ∀ k env m, I k env m → (∃ m1, c env m = .ok false m1 ∧ E env m1) ∨ (∃ m1 e2 m2 k', c env m = .ok true m1 ∧ b env m1 = .ok (.nx e2) m2 ∧ k' < k ∧ I k' e2 m2)) : ∀ n k env m, k < n → I k env m → ∃ e m', whileL c b n env m = .ok (.nx e) m' ∧ E e m'
  | 0, _, _, _, h0, _ => absurd h0 (Nat.not_lt_zero _)
  | n + 1, k, env, m, hk, h0 => by
    dsimp only [whileL]
    rcases h k env m h0 with ⟨m1, h1, h2⟩ | ⟨m1, e2, m2, k', h1, h2, h3, h4⟩
    · refine ⟨env, m1, ?_, h2⟩
      rw [h1]; rfl
    · obtain ⟨e, m', h5, h6⟩ := while_inv I E h n k' e2 m2 (by omega) h4
      refine ⟨e, m', ?_, h6⟩
      rw [h1]
      show (b env m1).bind _ = _
      rw [h2]
      exact h5
theorem sWhile_inv {c : SemB} {b : SemS} (I : Nat → Env → Cells → Prop) (E : Env → Cells → Prop) (h : ∀ k env m, I k env m → (∃ m1, c env m = .ok false m1 ∧ E env m1) ∨ (∃ m1 e2 m2 k', c env m = .ok true m1 ∧ b env m1 = .ok (.nx e2) m2 ∧ k' < k ∧ I k' e2 m2)) {k : Nat} {env : Env} {m : Cells} (hk : k < 100000) (h0 : I k env m) : ∃ e m', sWhile c b env m = .ok (.nx e) m' ∧ E e m' := while_inv I E h _ _ _ _ hk h0
theorem rangeD_get (lo hi : Int) (j : Nat) : (rangeD lo hi)[j]? = if j < (hi - lo).toNat then some (.int (lo + j)) else none := by
  unfold rangeD
  rw [List.getElem?_map]
  by_cases h : j < (hi - lo).toNat
  · rw [if_pos h, List.getElem?_range h]; rfl
  · rw [if_neg h, List.getElem?_eq_none (by simp; omega)]; rfl
theorem rangeD_mem {lo hi : Int} {x : D} (h : x ∈ rangeD lo hi) : ∃ i, x = .int i ∧ lo ≤ i ∧ i < hi := by
  unfold rangeD at h
  obtain ⟨j, hj, rfl⟩ := List.mem_map.mp h
  have := List.mem_range.mp hj
  exact ⟨_, rfl, by omega, by omega⟩
theorem mem_rangeD {lo hi i : Int} (h1 : lo ≤ i) (h2 : i < hi) : D.int i ∈ rangeD lo hi := by
  unfold rangeD
  exact List.mem_map.mpr ⟨(i - lo).toNat, List.mem_range.mpr (by omega), by congr 1; omega⟩
theorem all_map {α : Type} (F : α → Bool) (xs : List α) : gAll [.lst (xs.map fun x => D.bl (F x))] = some (.d (.bl (xs.all F))) := by
  have e : (xs.map fun x => D.bl (F x)) = (xs.map F).map D.bl := by rw [List.map_map]; rfl
  rw [e, ev_all, List.all_map]; rfl
theorem any_map {α : Type} (F : α → Bool) (xs : List α) : gAny [.lst (xs.map fun x => D.bl (F x))] = some (.d (.bl (xs.any F))) := by
  have e : (xs.map fun x => D.bl (F x)) = (xs.map F).map D.bl := by rw [List.map_map]; rfl
  rw [e, ev_any, List.any_map]; rfl
theorem sum_map {α : Type} (F : α → Int) (xs : List α) : gSum [.lst (xs.map fun x => D.int (F x))] = some (.d (.int (xs.map F).sum)) := by
  have e : (xs.map fun x => D.int (F x)) = (xs.map F).map D.int := by rw [List.map_map]; rfl
  rw [e, ev_sum]
theorem ev_plApp (n : Nat) : ∀ xs ys : List D, plainDs n (xs ++ ys) = (plainDs n xs && plainDs n ys)
  | [], ys => by simp
  | x :: xs, ys => by rw [List.cons_append, ev_pls1, ev_pls1, ev_plApp n xs ys, Bool.and_assoc]
theorem deqs_refl_int : ∀ ns : List Int, deqs (ns.map D.int) (ns.map D.int) = true
  | [] => by simp
  | n :: ns => by simp [deqs_refl_int ns]
theorem plainDs_int (k : Nat) : ∀ ns : List Int, plainDs k (ns.map D.int) = true
  | [] => by simp
  | n :: ns => by simp [plainDs_int k ns]
theorem plainDs_of {n : Nat} : ∀ {xs : List D}, (∀ x ∈ xs, plainD n x = true) → plainDs n xs = true
  | [], _ => by simp
  | x :: xs, h => by
    rw [ev_pls1, h x (List.mem_cons_self ..), plainDs_of fun y hy => h y (List.mem_cons_of_mem _ hy)]
    rfl
@[simp] theorem deqs_nil (xs : List D) : deqs xs [] = xs.isEmpty := by cases xs <;> simp
theorem sum_cast (f : Nat → Nat) : ∀ xs : List Nat, (xs.map fun i => ((f i : Nat) : Int)).sum = ((xs.map f).sum : Nat)
  | [] => rfl
  | x :: xs => by rw [List.map_cons, List.map_cons, List.sum_cons, List.sum_cons, sum_cast f xs, Int.natCast_add]
theorem pow_mod (a p : Int) : ∀ n : Nat, (a % p) ^ n % p = a ^ n % p
  | 0 => by rw [Int.pow_zero, Int.pow_zero]
  | n + 1 => by rw [Int.pow_succ, Int.pow_succ, Int.mul_emod, pow_mod a p n, Int.emod_emod_of_dvd _ (Int.dvd_refl p), ← Int.mul_emod]
theorem mul_mod_l (a b p : Int) : a % p * b % p = a * b % p := by rw [Int.mul_emod, Int.emod_emod_of_dvd _ (Int.dvd_refl p), ← Int.mul_emod]
theorem mul_mod_r (a b p : Int) : a * (b % p) % p = a * b % p := by rw [Int.mul_emod, Int.emod_emod_of_dvd _ (Int.dvd_refl p), ← Int.mul_emod]
end Ev
/-! Ev, part N: zip, enumerate, reversed. -/
namespace Ev
open PySem PySem.Spec L2
section
variable {X : Cx} {W : WX} {tg a b : Expr} {fa : SemR} {as : SemDs} {ta : TE} {t : TA} {p pos : Pos}
theorem walks_pair {w : Wd} {J : It} {xs ys : Nat → Option V} {G : Hp → Prop} {ds : List D} (hw : Walk J ds.length G (YPair xs ys)) (hG : ∀ w2 H2, WLe w w2 → (∀ a o, w2.F a = some o → H2 a = some o) → G H2)
    (hr : ∀ (i : Nat) (x y : V), i < ds.length → xs i = some x → ys i = some y → ∃ d e, ds[i]? = some (.tup [d, e]) ∧ RD X.K w d x ∧ RD X.K w e y) : Walks X.K w J ds := by
  refine ⟨G, _, hw, hG, fun i H2 v H3 hi y w2 m2 L W2 => ?_⟩
  obtain ⟨T, x, z, rfl, hT, rfl, h1, h2⟩ := y
  obtain ⟨d, e, h3, r1, r2⟩ := hr i x z hi h1 h2
  obtain ⟨E, W3, L3, f⟩ := new_known (X := X) (o := .tup [x, z]) W2 hT
  exact ⟨_, _, h3, E, W3, .tup (.inl (.inl f)) (.cons (r1.le (L.trans L3)) (.cons (r2.le (L.trans L3)) .nil))⟩
/-- pairs of two lists, or of two tuples -/
def zipD (xs ys : List D) : List D := List.zipWith (fun x y => .tup [x, y]) xs ys
def eZip (as : SemDs) : SemDs := fun env m => (as env m).bind fun xs m1 => match xs with
  | [.lst xs, .lst ys] => .ok (zipD xs ys) m1
  | [.tup xs, .tup ys] => .ok (zipD xs ys) m1
  | [.lst xs, .scr ys] => .ok (zipD xs ys) m1
  | _ => .bot
theorem zipD_len (xs ys : List D) : (zipD xs ys).length = min xs.length ys.length := by unfold zipD; rw [List.length_zipWith]
theorem zipD_get {K : PySem.W.Frag} {w : Wd} {xs ys : List D} {us vs : List V} (r1 : RDs K w xs us) (r2 : RDs K w ys vs) : ∀ (i : Nat) (x y : V), i < (zipD xs ys).length → us[i]? = some x → vs[i]? = some y → ∃ d e, (zipD xs ys)[i]? = some (.tup [d, e]) ∧ RD K w d x ∧ RD K w e y := fun i x y hi h1 h2 => by
  obtain ⟨d, g1, q1⟩ := r1.getV h1
  obtain ⟨e, g2, q2⟩ := r2.getV h2
  exact ⟨d, e, by unfold zipD; rw [List.getElem?_zipWith, g1, g2], q1, q2⟩
theorem walks_zipL {w : Wd} {a b : Addr} {xs ys : List D} {us vs : List V} (s1 : SqL X.K w.F a us) (q1 : RDs X.K w xs us) (s2 : SqL X.K w.F b vs) (q2 : RDs X.K w ys vs) : Walks X.K w (Itz X.K a b) (zipD xs ys) :=
  walks_pair (G := fun H => SqL X.K H a us ∧ SqL X.K H b vs) (by rw [zipD_len]; exact walk_zip (by rw [q1.length, q2.length])) (fun w2 H2 L s => ⟨sqL_sub s (sqL_sub L.sub s1), sqL_sub s (sqL_sub L.sub s2)⟩) (zipD_get q1 q2)
theorem walks_zipT {w : Wd} {a b : Addr} {xs ys : List D} {us vs : List V} (s1 : SqT X.K w.F a us) (q1 : RDs X.K w xs us) (s2 : SqT X.K w.F b vs) (q2 : RDs X.K w ys vs) : Walks X.K w (RZ.ItzT X.K a b) (zipD xs ys) := by
  refine walks_pair (G := fun H => SqT X.K H a us ∧ SqT X.K H b vs) (xs := fun i => us[i]?) (ys := fun i => vs[i]?) ?_ (fun w2 H2 L s => ⟨sqT_sub s (sqT_sub L.sub s1), sqT_sub s (sqT_sub L.sub s2)⟩) (zipD_get q1 q2)
  have l1 := q1.length
  have l2 := q2.length
  rw [zipD_len]
  refine ⟨fun i _ hi q => ?_, fun _ q => ⟨us, vs, q.1, q.2, by omega⟩, fun i H v H' _ q y => ?_⟩
  · have h1 : i < us.length := by omega
    have h2 : i < vs.length := by omega
    exact ⟨us, vs, us[i], vs[i], q.1, q.2, List.getElem?_eq_getElem h1, List.getElem?_eq_getElem h2⟩
  · obtain ⟨T, x, z, h1, h2, h3, h4, h5⟩ := y
    exact ⟨T, x, z, h1, h2, h3, h4 _ q.1, h5 _ q.2⟩
theorem si_zip {elts : List Expr} {kk : Nat} {tpos : Pos} (hm : X.mg "zip" = none) (h : SAt X W [a, b] as t) (hg : Gl X "zip" := by rfl) (hs : starEach [a, b] X.env = (false, eval a X.env) :: starEach [b] X.env := by rfl) (hpl : (backTo pos (starEach [b] X.env)).any (·.1) = false := by rfl) :
    SIt X W (.Tuple elts kk tpos) (.Call (.Name "zip" p) [a, b] [] pos) (eZip as) (RZ.iZipA X.K t) := by
  refine ⟨RZ.pi_zipA hg hm h.pa hs hpl, fun w H0 σ H env m R Wm S q => ?_⟩
  refine h.rd w H0 σ H env m _ Wm S (WP.mono (WP.of_bind q) (fun xs m1 q w1 H1 vs E1 W1 r1 => ?_) fun _ _ z => z)
  split at q
  · cases r1 with
    | cons r1 rr =>
      cases rr with
      | cons r2 rr =>
        cases rr
        cases r1 with
        | lst s1 q1 =>
          cases r2 with
          | lst s2 q2 => exact ⟨_, _, _, _, rfl, .inl ⟨sqL_sub W1.sub (.inl (.inl s1)), sqL_sub W1.sub (.inl (.inl s2)), q w1 H1 _ E1 W1 (walks_zipL (.inl (.inl s1)) q1 (.inl (.inl s2)) q2)⟩⟩
  · cases r1 with
    | cons r1 rr =>
      cases rr with
      | cons r2 rr =>
        cases rr
        cases r1 with
        | tup s1 q1 =>
          cases r2 with
          | tup s2 q2 => exact ⟨_, _, _, _, rfl, .inr ⟨sqT_sub W1.sub s1, sqT_sub W1.sub s2, q w1 H1 _ E1 W1 (walks_zipT s1 q1 s2 q2)⟩⟩
  · cases r1 with
    | cons r1 rr =>
      cases rr with
      | cons r2 rr =>
        cases rr
        cases r1 with
        | lst s1 q1 =>
          cases r2 with
          | scr s2 q2 => exact ⟨_, _, _, _, rfl, .inl ⟨sqL_sub W1.sub (.inl (.inl s1)), sqL_sub W1.sub s2, q w1 H1 _ E1 W1 (walks_zipL (.inl (.inl s1)) q1 s2 q2)⟩⟩
  · exact q.elim
/-- reversed(a list or a tuple) -/
def eRev (f : SemR) : SemDs := fun env m => (fz f env m).bind fun x m1 => match x with
  | .lst xs | .tup xs | .scr xs => .ok xs.reverse m1
  | _ => .bot
theorem rev_get {K : PySem.W.Frag} {w : Wd} {xs : List D} {vs : List V} (r : RDs K w xs vs) {i : Nat} {v : V} (hi : i < xs.length) (h : vs[vs.length - 1 - i]? = some v) : ∃ x, xs.reverse[i]? = some x ∧ RD K w x v := by
  obtain ⟨x, hx, rx⟩ := r.getV h
  exact ⟨x, by rw [List.getElem?_reverse hi, r.length]; exact hx, rx⟩
theorem walks_revL {w : Wd} {a : Addr} {xs : List D} {vs : List V} (s : SqL X.K w.F a vs) (r : RDs X.K w xs vs) : Walks X.K w (Itv X.K a vs.length) xs.reverse := by
  refine ⟨fun H => SqL X.K H a vs, fun i H x H' => H' = H ∧ vs[vs.length - 1 - i]? = some x, by rw [List.length_reverse, r.length]; exact walk_rev, fun w2 H2 L s2 => sqL_sub s2 (sqL_sub L.sub s), fun i H2 v H3 hi y w2 m2 L W2 => ?_⟩
  obtain ⟨rfl, hv⟩ := y
  obtain ⟨x, hx, rx⟩ := rev_get r (by simpa using hi) hv
  exact ⟨x, w2, hx, .refl _ _, W2, rx.le L⟩
theorem walks_revT {w : Wd} {a : Addr} {xs : List D} {vs : List V} (s : SqT X.K w.F a vs) (r : RDs X.K w xs vs) : Walks X.K w (RT.ItvT X.K a vs.length) xs.reverse := by
  refine ⟨fun H => SqT X.K H a vs, fun i H x H' => H' = H ∧ vs[vs.length - 1 - i]? = some x, ?_, fun w2 H2 L s2 => sqT_sub s2 (sqT_sub L.sub s), fun i H2 v H3 hi y w2 m2 L W2 => ?_⟩
  · rw [List.length_reverse, r.length]
    exact ⟨fun i _ hi q => ⟨hi, vs, vs[vs.length - 1 - i]'(by omega), q, List.getElem?_eq_getElem _⟩, fun _ _ => Nat.le_refl _, fun _ _ _ _ _ q y => ⟨y.1, y.2 vs q⟩⟩
  · obtain ⟨rfl, hv⟩ := y
    obtain ⟨x, hx, rx⟩ := rev_get r (by simpa using hi) hv
    exact ⟨x, w2, hx, .refl _ _, W2, rx.le L⟩
theorem si_rev (hm : X.mg "reversed" = none) (h : SE X W a fa ta) (hg : Gl X "reversed" := by rfl) (hs : starEach [a] X.env = (false, eval a X.env) :: starEach [] X.env := by rfl) :
    SIt X W tg (.Call (.Name "reversed" p) [a] [] pos) (eRev fa) (RT.iRevA X.K ta) := by
  refine ⟨RT.pi_revA hg hm h.pe hs, fun w H0 σ H env m R Wm S q => ?_⟩
  refine h.fz Wm S (WP.mono (WP.of_bind q) (fun x m1 q w1 H1 v E1 W1 r1 => ?_) fun _ _ z => z)
  split at q
  · cases r1 with
    | lst s r => exact ⟨_, _, rfl, .inl ⟨sqL_sub W1.sub (.inl (.inl s)), q w1 H1 _ E1 W1 (walks_revL (.inl (.inl s)) r)⟩⟩
  · cases r1 with
    | tup s r => exact ⟨_, _, rfl, .inr ⟨sqT_sub W1.sub s, q w1 H1 _ E1 W1 (walks_revT s r)⟩⟩
  · cases r1 with
    | scr s r => exact ⟨_, _, rfl, .inl ⟨sqL_sub W1.sub s, q w1 H1 _ E1 W1 (walks_revL s r)⟩⟩
  · exact q.elim
end
end Ev
/-! Ev, part O: enumerate of lists and tuples. -/
namespace Ev
open PySem PySem.Spec L2
/-- enumerate(v), from 0, v told by what its iterator draws -/
theorem meets_enum1 {v : Value} {o : Obj} {H : Heap → Prop} (B : Begins v o H) :
    Meets (Builtin.«enumerate.__new__» ⟨[.type "enumerate", v], []⟩) (fun _ R s => H s.heap ∧
      R (.ok (.ret (.ref (s.heap.push o).objs.size))) { s with heap := (s.heap.push o).push { cls := .type "enumerate", data := .fields #[.none, .bool false, .ref s.heap.objs.size, rawInt 0, .none, .none] } }) :=
  .of_wp fun prog w A R s h => by
    obtain ⟨hp, g, d, tk, os⟩ := s; obtain ⟨h1, h⟩ := h
    have hsub := sub_enumerate
    have q1 : ∀ {A' : Around} {E : Value → Shared → Prop} {Q : Value → Shared → Prop}, Q (.ref hp.objs.size) ⟨hp.push o, g, d, tk, os⟩ → wpAny (model prog w) A' (pyIter v) Q E ⟨hp, g, d, tk, os⟩ :=
      fun q => B.iter prog w _ _ ⟨hp, g, d, tk, os⟩ _ h1 q
    wp_walk using q1
    refine wpAny_stack_any fun st => wpAny_pure ?_
    split
    · rename_i c _ _ _ _ _
      cases (c == Value.type "enumerate")
      · wp_walk using q1
        exact ⟨_, rfl, h⟩
      · wp_walk using q1
        exact ⟨_, rfl, h⟩
    · wp_walk using q1
      exact ⟨_, rfl, h⟩
theorem call_enum1 {prog : Program} {w : World} {A : Around} {E : Value → Shared → Prop} {s : Shared} {v : Value} {o : Obj} {H : Heap → Prop} {Q : Value → Shared → Prop} (B : Begins v o H) (h1 : H s.heap)
    (h : ∀ h', IsEnum h' (s.heap.objs.size + 1) s.heap.objs.size 0 .none → h'.get? s.heap.objs.size = some o → h'.objs.size = s.heap.objs.size + 2 →
      (∀ b o, s.heap.get? b = some o → h'.get? b = some o) → Q (.ref (s.heap.objs.size + 1)) { s with heap := h' }) :
    wpAny (model prog w) A (call (.type "enumerate") [v]) Q E s := by
  refine callType_new F.called_enumerate (by decide) (F.typeCall_enumerate_1 _) (F.newCall_enumerate_1 _) (fun obj => F.args_object_init_2 obj _) F.entry_enumerate_new
    (meets_enum1 B) ⟨h1, ?_⟩
  have hz : (s.heap.push o).objs.size = s.heap.objs.size + 1 := Heap.size_push ..
  show _ ∧ _
  rw [hz]
  have he : IsEnum ((s.heap.push o).push { cls := .type "enumerate", data := .fields #[.none, .bool false, .ref s.heap.objs.size, rawInt 0, .none, .none] }) (s.heap.objs.size + 1) s.heap.objs.size 0 .none := by
    have := Heap.get?_push_size (s.heap.push o) (o := { cls := .type "enumerate", data := .fields #[.none, .bool false, .ref s.heap.objs.size, rawInt 0, .none, .none] }) rfl
    rw [hz] at this; exact this
  exact ⟨⟨_, he, rfl⟩, h _ he (Heap.get?_push_of_some _ (Heap.get?_push_size _ B.free)) (by rw [Heap.size_push, hz]) fun b o x => Heap.get?_push_of_some _ (Heap.get?_push_of_some _ x)⟩
/-- the tuple at a, its items in new pairs with their numbers -/
def IteT (K : PySem.W.Frag) (a : Addr) : It :=
  ⟨fun i H => ∃ (xs : List V) (x : V), SqT K H a xs ∧ xs[i]? = some x, fun i H v H' => ∃ T x, v = .ref T ∧ H T = none ∧ H' = upd H T (.tup [.int (i : Nat), x]) ∧ ∀ xs, SqT K H a xs → xs[i]? = some x, fun i H => ∃ xs : List V, SqT K H a xs ∧ xs.length = i⟩
theorem turn_enumT {P : Program} {w : World} {K : PySem.W.Frag} {elts : List Expr} {kk : Nat} {tpos : Pos} (a e it : Addr) :
    Turn P w K (.Tuple elts kk tpos) (IteT K a) [e, it] e (fun i h => (∃ old, IsEnum h e it ((i : Nat) : Int) old) ∧ h.IsTupleIter it a i ∧ e ≠ it) where
  mem := by simp
  obj := fun i h st b hb => by
    obtain ⟨⟨old, he⟩, ⟨o, ho, hc, hd⟩, _⟩ := st
    have e' : b = e ∨ b = it := by simpa using hb
    rcases e' with z | z
    · rw [z]; exact ⟨_, he, fun v q => nomatch q⟩
    · rw [z]; exact ⟨o, ho, fun v q => by rw [hd] at q; cases q⟩
  keep := fun i h h' st k => let ⟨⟨old, he⟩, hi, hne⟩ := st; ⟨⟨old, k e (by simp) _ he⟩, hi.at fun o q => k it (by simp) o q, hne⟩
  item := by
    intro X hP hw hK hc i pins s σ H E I hf st hg
    subst hP hw hK
    obtain ⟨⟨old, he⟩, hit, hne⟩ := st
    obtain ⟨xs, x, hq, hx⟩ := hg
    obtain ⟨its, rv, p, hz⟩ := I.tuple hq
    obtain ⟨u, hu, ru⟩ := rv.get hx
    have hel : e < s.heap.objs.size := Heap.lt_size he
    have hil : it < s.heap.objs.size := by obtain ⟨_, q, _⟩ := hit; exact Heap.lt_size q
    have pt : s.heap.IsTuple a its.toArray := p
    have hae : e ≠ a := fun z => by
      subst z
      obtain ⟨o, q, c, _⟩ := pt
      rw [show s.heap.get? e = some _ from he] at q
      cases q
      exact absurd (Value.type.inj c) (by decide)
    have hai : a ≠ it := fun z => by
      subst z
      obtain ⟨o, q, c, _⟩ := pt
      obtain ⟨o2, q2, c2, _⟩ := hit
      rw [q] at q2
      cases q2
      rw [c] at c2
      exact absurd (Value.type.inj c2) (by decide)
    have hlt : i < its.toArray.size := by
      have := (List.getElem?_eq_some_iff.mp hu).1
      simpa using this
    refine wpAny_pyNext_enum_itemD (Draws.tuple (prog := X.prog) (w := X.w) (A := X.A.in1) (show X.A.in1.handled = none from I.ok.hd hc) it a hai its.toArray) he ⟨hit, pt⟩ hlt hne (by simp; exact ⟨hne, hae⟩) fun y h' tk hy ho hit' hT hsz hk => ?_
    have hyu : y = u := by
      have : its.toArray[i]? = some u := by simpa using hu
      rw [this] at hy
      exact (Option.some.inj hy).symm
    subst hyu
    refine ⟨_, rfl, wpAny_letOwnedTupleGo_enum (s := { s with heap := h', toks := tk + 1 }) ho fun h'' he' sb => ?_⟩
    have hT2 : h''.get? s.heap.objs.size = some { cls := .type "tuple", data := .seq #[.int i tk, y] } := (sb.2 _ (Nat.ne_of_gt hel)).trans hT
    have new : ObjOk X.prog X.w (upd H s.heap.objs.size (.tup [.int (i : Nat), x])) h'' s.heap.objs.size (.tup [.int (i : Nat), x]) :=
      ⟨by show 2 ≤ sizeLine; decide, [.int i tk, y], .cons ⟨_, rfl⟩ (.cons ru .nil), ⟨_, hT2, rfl, _, rfl⟩⟩
    have I1 : Inv X pins σ (upd H s.heap.objs.size (.tup [.int (i : Nat), x])) { s with heap := h'', toks := tk + 1 } :=
      I.turnedNew (ch := [e, it]) (fun b ob hb q => (sb.2 b (fun z => hb (by simp [z]))).trans (hk b ob (fun z => hb (by simp [z])) (fun z => hb (by simp [z])) q)) hf (Nat.le_refl _) new
    refine ⟨.ref s.heap.objs.size, _, I1, rfl, ⟨_, x, rfl, I.hok.fresh (Nat.le_refl _), rfl, fun ys hy => by rw [I.tuple_inj hy hq]; exact hx⟩, ⟨⟨y, ?_⟩, hit'.1.at fun o q => (sb.2 it (Ne.symm hne)).trans q, hne⟩, fun b hb => ?_⟩
    · have e1 : ((i + 1 : Nat) : Int) = (i : Int) + 1 := by omega
      rw [e1]; exact he'
    · have hb' : b < s.heap.objs.size := by
        have e' : b = e ∨ b = it := by simpa using hb
        rcases e' with z | z
        · rw [z]; exact hel
        · rw [z]; exact hil
      rw [upd_ne (Nat.ne_of_lt hb')]
      exact (hf b hb).1
  done := by
    intro X hP hw hK hc i pins s σ H E I hf st hg
    subst hP hw hK
    obtain ⟨⟨old, he⟩, hit, hne⟩ := st
    obtain ⟨xs, hq, hx⟩ := hg
    obtain ⟨its, rv, p, hz⟩ := I.tuple hq
    obtain ⟨f0, f1, f2, f3, f4, f5⟩ := hf it (by simp)
    have pt : s.heap.IsTuple a its.toArray := p
    have hai : a ≠ it := fun z => by
      subst z
      obtain ⟨o, q, c, _⟩ := pt
      obtain ⟨o2, q2, c2, _⟩ := hit
      rw [q] at q2
      cases q2
      rw [c] at c2
      exact absurd (Value.type.inj c2) (by decide)
    have hl : its.toArray.size = i := by
      have := rv.length
      simp
      omega
    refine wpAny_pyNext_enum_endD (Draws.tuple (prog := X.prog) (w := X.w) (A := X.A.in1) (show X.A.in1.handled = none from I.ok.hd hc) it a hai its.toArray) he ⟨by rw [hl]; exact hit, pt⟩ fun h' eb => ⟨rfl, I.turned (t' := s.toks) (fun b o hb q => eb b o hb q) f0 f1 f3 f4 f5⟩
  self := fun A i s Q E st h => let ⟨⟨_, he⟩, _⟩ := st; wpAny_pyIter_enum he h
theorem walk_enumT {K : PySem.W.Frag} {a : Addr} {xs : List V} : Walk (IteT K a) xs.length (fun H => SqT K H a xs) (YPair (fun i => some (.int (i : Nat))) (fun i => xs[i]?)) := by
  refine ⟨fun i _ hi q => ⟨xs, xs[i], q, by simp [hi]⟩, fun _ q => ⟨xs, q, rfl⟩, fun i H v H' _ q y => ?_⟩
  obtain ⟨T, x, h1, h2, h3, h4⟩ := y
  exact ⟨T, .int (i : Nat), x, h1, h2, h3, rfl, h4 xs q⟩
def iEnumT (K : PySem.W.Frag) (ta : TA) : TI := fun σ H R => ta σ H fun vs H1 => ∃ a xs, vs = [.ref a] ∧ SqT K H1 a xs ∧ R (IteT K a) H1
section
variable {X : Cx} {W : WX} {tg a b e : Expr} {fa : SemR} {as : SemDs} {te : TE} {ta : TA} {p pos tpos : Pos} {elts : List Expr} {kk : Nat}
open PyProof.Rows in
theorem pi_enumT (hg : Gl X "enumerate") (hm : X.mg "enumerate" = none) (ha : PA X [e] ta) (hs : starEach [e] X.env = [(false, eval e X.env)] := by rfl) :
    PI X (.Tuple elts kk tpos) (.Call (.Name "enumerate" p) [e] [] pos) (iEnumT X.K ta) := by
  refine ⟨fun pins s σ H R I h => ?_⟩
  refine Call_ (ld_blt I hg hm boot_enumerate (PyProof.Rows.callWith_type1 (thn (ha.run pos pins s σ H _ I h) fun us s1 ⟨vs, H1, I1, r1, q1⟩ => ?_) hs rfl))
  obtain ⟨a, xs, ex, hq, q⟩ := q1
  subst ex
  cases r1 with
  | cons r rr =>
    cases rr
    cases r
    obtain ⟨its, rv, p', hz⟩ := I1.tuple hq
    refine call_enum1 (begins_tuple a its.toArray) p' fun h' he hit hsz hk => wpAny_pyIter_enum he ?_
    have I2 : Inv X pins σ H1 { s1 with heap := h' } := I1.kept (t' := s1.toks) hk
    refine ⟨s1.heap.objs.size + 1, [s1.heap.objs.size + 1, s1.heap.objs.size], _, _, H1, rfl, I2, turn_enumT a (s1.heap.objs.size + 1) s1.heap.objs.size, ⟨⟨.none, he⟩, ⟨_, hit, rfl, rfl⟩, Nat.succ_ne_self _⟩, fun b hb => ?_, q⟩
    have e' : b = s1.heap.objs.size + 1 ∨ b = s1.heap.objs.size := by simpa using hb
    have hle : s1.heap.objs.size ≤ b := by
      rcases e' with z | z
      · rw [z]; exact Nat.le_add_right _ _
      · rw [z]; exact Nat.le_refl _
    exact I1.fpOk hle (I1.hok.fresh hle)
def enumD (xs : List D) : List D := zipD (rangeD 0 xs.length) xs
theorem enumD_len (xs : List D) : (enumD xs).length = xs.length := by unfold enumD; rw [zipD_len, rangeD_len]; omega
theorem enumD_get {K : PySem.W.Frag} {w : Wd} {xs : List D} {vs : List V} (r : RDs K w xs vs) : ∀ (i : Nat) (x y : V), i < (enumD xs).length → some (V.int (i : Nat)) = some x → vs[i]? = some y → ∃ d e, (enumD xs)[i]? = some (.tup [d, e]) ∧ RD K w d x ∧ RD K w e y := fun i x y hi h1 h2 => by
  obtain ⟨e, g2, q2⟩ := r.getV h2
  cases h1
  rw [enumD_len] at hi
  refine ⟨.int (i : Nat), e, ?_, .int _, q2⟩
  unfold enumD zipD
  rw [List.getElem?_zipWith, rangeD_get, if_pos (by omega), g2, Int.zero_add]
def eEnum (f : SemR) : SemDs := fun env m => (fz f env m).bind fun x m1 => match x with
  | .lst xs | .tup xs | .scr xs => .ok (enumD xs) m1
  | _ => .bot
theorem si_enum (hm : X.mg "enumerate" = none) (h : SE X W e fa te) (hg : Gl X "enumerate" := by rfl) (hs : starEach [e] X.env = [(false, eval e X.env)] := by rfl) :
    SIt X W (.Tuple elts kk tpos) (.Call (.Name "enumerate" p) [e] [] pos) (eEnum fa) (fun σ H R => iEnum X.K (tCons te tNil) σ H R ∨ iEnumT X.K (tCons te tNil) σ H R) := by
  refine ⟨PI.or (pi_enum hg hm (pa_cons h.pe pa_nil hs) hs) (pi_enumT hg hm (pa_cons h.pe pa_nil hs) hs), fun w H0 σ H env m R Wm S q => ?_⟩
  cases e : Ev.fz fa env m with
  | bot => unfold eEnum at q; rw [e] at q; exact q.elim
  | exc x m' =>
    refine .inl (h.fz Wm S ?_)
    unfold eEnum at q
    rw [e] at q ⊢
    exact q
  | ok x m1 =>
    have q2 := q
    unfold eEnum at q2
    rw [e] at q2
    cases x with
    | lst xs =>
      refine .inl (h.fz Wm S ?_)
      rw [e]
      intro w' H' v E' W' r
      cases r with
      | lst s r => exact ⟨_, _, rfl, .inl (.inl (W'.sub _ _ s)), q2 w' H' _ E' W' (walks_pair (G := fun H => SqL X.K H _ _) (by rw [enumD_len, r.length]; exact walk_enum) (fun w2 H2 L s2 => .inl (.inl (s2 _ _ (L.sub _ _ s)))) (enumD_get r))⟩
    | scr xs =>
      refine .inl (h.fz Wm S ?_)
      rw [e]
      intro w' H' v E' W' r
      cases r with
      | scr s r => exact ⟨_, _, rfl, sqL_sub W'.sub s, q2 w' H' _ E' W' (walks_pair (G := fun H => SqL X.K H _ _) (by rw [enumD_len, r.length]; exact walk_enum) (fun w2 H2 L s2 => sqL_sub s2 (sqL_sub L.sub s)) (enumD_get r))⟩
    | tup xs =>
      refine .inr (h.fz Wm S ?_)
      rw [e]
      intro w' H' v E' W' r
      cases r with
      | tup s r => exact ⟨_, _, rfl, sqT_sub W'.sub s, q2 w' H' _ E' W' (walks_pair (G := fun H => SqT X.K H _ _) (by rw [enumD_len, r.length]; exact walk_enumT) (fun w2 H2 L s2 => sqT_sub s2 (sqT_sub L.sub s)) (enumD_get r))⟩
    | _ => exact q2.elim
end
end Ev
/-! Ev, part Q: len(set(..)). -/
namespace Ev
open PySem PySem.Spec L2
/-- each but once -/
def dd : List Int → List Int
  | [] => []
  | x :: xs => if x ∈ xs then dd xs else x :: dd xs
theorem mem_dd {k : Int} : ∀ {xs : List Int}, k ∈ dd xs ↔ k ∈ xs
  | [] => Iff.rfl
  | x :: xs => by
    unfold dd
    split
    · rename_i h
      rw [mem_dd, List.mem_cons]
      exact ⟨.inr, fun z => z.elim (fun e => e ▸ h) id⟩
    · rw [List.mem_cons, List.mem_cons, mem_dd]
theorem nodup_dd : ∀ xs : List Int, (dd xs).Nodup
  | [] => List.nodup_nil
  | x :: xs => by
    unfold dd
    split
    · exact nodup_dd xs
    · rename_i h
      exact List.nodup_cons.mpr ⟨fun z => h (mem_dd.mp z), nodup_dd xs⟩
theorem dd_id : ∀ {xs : List Int}, xs.Nodup → dd xs = xs
  | [], _ => rfl
  | x :: xs, h => by
    obtain ⟨h1, h2⟩ := List.nodup_cons.mp h
    unfold dd
    rw [if_neg h1, dd_id h2]
theorem same_len {xs ys : List Int} (h1 : xs.Nodup) (h2 : ys.Nodup) (h : ∀ k, k ∈ xs ↔ k ∈ ys) : xs.length = ys.length :=
  Nat.le_antisymm (h1.length_le_of_subset fun k hk => (h k).mp hk) (h2.length_le_of_subset fun k hk => (h k).mpr hk)
def tLenSetT (K : PySem.W.Frag) (ta : TE) : TE := fun σ H Q => ta σ H fun x H1 => ∃ (l : Addr) (ns : List Int), x = .ref l ∧ SqT K H1 l (ns.map V.int) ∧ ns.length ≤ 4000 ∧ Q (.int ((dd ns).length : Nat)) H1
open PyProof.Rows in
theorem pe_lenSetT {X : Cx} {a : Expr} {ta : TE} {p p2 q pos : Pos} (hc : X.calm = true) (hg : Gl X "len") (hm : X.mg "len" = none) (hg2 : Gl X "set") (hm2 : X.mg "set" = none) (ha : PE X a ta)
    (na : starEach [a] X.env = (false, eval a X.env) :: starEach [] X.env := by rfl) : PE X (.Call (.Name "len" p) [.Call (.Name "set" p2) [a] [] q] [] pos) (tLenSetT X.K ta) := by
  refine ⟨fun pins s σ H Q I h => ?_⟩
  refine Call_ (ld_blt I hg hm boot_len ?_)
  refine callWith_builtin1 (args_cons ?_ rfl) rfl rfl
  refine Call_ (ld_blt I hg2 hm2 boot_set ?_)
  refine callWith_type1 (args_cons (thn (ha.run pins s σ H _ I h) fun v s1 ⟨x, H1, I1, r1, q1⟩ => args_nil ?_) na) na rfl
  obtain ⟨l, ns, rfl, hq, hl, q1⟩ := q1
  cases r1
  obtain ⟨its, rv, pt, hz⟩ := I1.tuple hq
  refine call_set_tupI ns (I1.ok.hd hc) (show s1.heap.IsTuple l its.toArray from pt) (by simpa using RZ.intsAre_vals rv) (by unfold scanBound; omega) fun h' tk c R1 hcn hk => ?_
  refine args_nil ?_
  obtain ⟨o, es, ep, t, ho, hex, hd, _, nd, hm2, hb, hf, hn, _⟩ := R1
  have hlen : es.size = (dd ns).length := by
    have e1 : es.size = (es.toList.map keyOf).length := by simp
    rw [e1]
    refine same_len nd (nodup_dd ns) fun k => ?_
    rw [← hm2 k, decide_eq_true_eq, mem_dd]
  have I2 : Inv X pins σ H1 { s1 with heap := h', toks := tk } := I1.kept fun b o e => hk b o e
  exact call_len_set ho hex hd hf (by unfold scanBound at hb; omega) ⟨.int (dd ns).length, H1, I2.tok _, ⟨_, by rw [hlen]⟩, q1⟩
def rLenSet (f : SemR) : SemR := fun env m => (vl f env m).bind fun x m1 => match x with
  | .tup xs => match intsOf xs with
    | some ns => if ns.length ≤ 4000 then .ok (.d (.int (dd ns).length)) m1 else .bot
    | none => .bot
  | .lst xs => match intsOf xs with
    | some ns => if ns.length ≤ 4000 ∧ ns.Nodup then .ok (.d (.int ns.length)) m1 else .bot
    | none => .bot
  | _ => .bot
theorem rds_ints {K : PySem.W.Frag} {w : Wd} : ∀ {ns : List Int} {vs : List V}, RDs K w (ns.map D.int) vs → vs = ns.map V.int
  | [], _, .nil => rfl
  | n :: ns, _, .cons r t => by cases r; rw [rds_ints t]; rfl
theorem PE.or2 {X : Cx} {e : Expr} {t t' : TE} (h : PE X e t) (h' : PE X e t') : PE X e (fun σ H Q => t σ H Q ∨ t' σ H Q) :=
  ⟨fun pins s σ H Q I q => q.elim (h.run pins s σ H Q I) (h'.run pins s σ H Q I)⟩
theorem se_lenSet {X : Cx} {W : WX} {a : Expr} {fa : SemR} {ta : TE} {p p2 q pos : Pos} (hc : X.calm = true) (ha : SE X W a fa ta) (hm : X.mg "len" = none) (hm2 : X.mg "set" = none) (hg : Gl X "len" := by rfl) (hg2 : Gl X "set" := by rfl)
    (na : starEach [a] X.env = (false, eval a X.env) :: starEach [] X.env := by rfl) : SE X W (.Call (.Name "len" p) [.Call (.Name "set" p2) [a] [] q] [] pos) (rLenSet fa) (fun σ H Q => tLenSetT X.K ta σ H Q ∨ RZ.tLenSetI X.K ta σ H Q) := by
  refine ⟨PE.or2 (pe_lenSetT hc hg hm hg2 hm2 ha.pe na) (RZ.pe_lenSetI hg hm hg2 hm2 ha.pe hc na), fun w H0 σ H env m Q Wm S q => ?_⟩
  cases e : Ev.vl fa env m with
  | bot => unfold rLenSet at q; rw [e] at q; exact q.elim
  | exc x m' =>
    refine .inl (ha.vl Wm S ?_)
    unfold rLenSet at q
    rw [e] at q ⊢
    exact q
  | ok x m1 =>
    have q2 := q
    unfold rLenSet at q2
    rw [e] at q2
    cases x with
    | tup xs =>
      refine .inl (ha.vl Wm S ?_)
      rw [e]
      intro w' H' v E' W' r
      cases hi : intsOf xs with
      | none => dsimp only [Res.bind] at q2; rw [hi] at q2; exact q2.elim
      | some ns =>
        dsimp only [Res.bind] at q2
        rw [hi] at q2
        dsimp only at q2
        split at q2
        · rename_i hl
          have hx := intsOf_eq hi
          subst hx
          cases RP.rd_tup r with
          | tup s rr =>
            have := rds_ints rr
            subst this
            exact ⟨_, ns, rfl, sqT_sub W'.sub s, hl, q2 w' H' _ E' W' (.int _)⟩
        · exact q2.elim
    | lst xs =>
      refine .inr (ha.vl Wm S ?_)
      rw [e]
      intro w' H' v E' W' r
      cases hi : intsOf xs with
      | none => dsimp only [Res.bind] at q2; rw [hi] at q2; exact q2.elim
      | some ns =>
        dsimp only [Res.bind] at q2
        rw [hi] at q2
        dsimp only at q2
        split at q2
        · rename_i hl
          have hx := intsOf_eq hi
          subst hx
          obtain ⟨a', vs, rfl, h1, h2⟩ := r.lst W'
          have := rds_ints h2
          subst this
          exact ⟨a', ns, rfl, .inl (.inl h1), hl.2, hl.1, q2 w' H' _ E' W' (.int _)⟩
        · exact q2.elim
    | _ => exact q2.elim
section
variable {env : Env} {m : Cells}
def kLenSet (r : Res D) : Res RV := r.bind fun x m1 => match x with
  | .tup xs => match intsOf xs with
    | some ns => if ns.length ≤ 4000 then .ok (.d (.int (dd ns).length)) m1 else .bot
    | none => .bot
  | .lst xs => match intsOf xs with
    | some ns => if ns.length ≤ 4000 ∧ ns.Nodup then .ok (.d (.int ns.length)) m1 else .bot
    | none => .bot
  | _ => .bot
@[simp] theorem ev_rLenSet (f : SemR) : rLenSet f env m = kLenSet (vl f env m) := nr rfl
theorem kLenSetT {ns : List Int} (h : ns.length ≤ 4000) : kLenSet (.ok (.tup (ns.map D.int)) m) = .ok (.d (.int (dd ns).length)) m := by
  show (match intsOf (ns.map D.int) with | some ns => _ | none => _) = _
  rw [ints_map]
  exact if_pos h
theorem kLenSetL {ns : List Int} (h : ns.length ≤ 4000) (hn : ns.Nodup) : kLenSet (.ok (.lst (ns.map D.int)) m) = .ok (.d (.int ns.length)) m := by
  show (match intsOf (ns.map D.int) with | some ns => _ | none => _) = _
  rw [ints_map]
  exact if_pos ⟨h, hn⟩
end
end Ev
/-! Ev, part R: extend, pop. -/
namespace Ev
open PySem PySem.Spec L2
def sExtend (i : Nat) (f : SemR) : SemS := fun env m => if (lget i env m).isSome then (vl f env m).bind fun x m1 => match lget i env m1, x with
  | some xs, .lst ys => if xs.length + ys.length ≤ LN then .ok (.nx (lupd i env m1 (xs ++ ys)).1) (lupd i env m1 (xs ++ ys)).2 else .bot
  | _, _ => .bot
  else .bot
def sPop (i : Nat) : SemS := fun env m => match lget i env m with
  | some xs => if xs.isEmpty then .bot else .ok (.nx (lupd i env m xs.dropLast).1) (lupd i env m xs.dropLast).2
  | none => .bot
theorem RDs.dropLast {K : PySem.W.Frag} {w : Wd} : ∀ {xs : List D} {vs : List V}, RDs K w xs vs → RDs K w xs.dropLast vs.dropLast
  | _, _, .nil => .nil
  | _, _, .cons r .nil => .nil
  | _, _, .cons r (.cons r2 t) => .cons r (RDs.dropLast (.cons r2 t))
section
variable {X : Cx} {W : WX} {e : Expr} {f : SemR} {te : TE} {pos : Pos}
theorem ss_extend (i : Nat) {x : Str} {p ap cp : Pos} (h : SE X W e f te) (hN : X.N[i]? = some x := by rfl) (hv : Vis X.env.scope x := by first | exact Or.inl rfl | exact Or.inr (Or.inl rfl) | exact Or.inr (Or.inr rfl)) (hd : (x == ("__debug__" : Str)) = false := by decide) (hcd : (x == ("__classdict__" : Str)) = false := by decide)
    (hbase : attributeBase (.Name x p) "extend" X.env (eval (.Name x p) X.env) = eval (.Name x p) X.env := by rfl)
    (hfew : ((backTo cp (starEach (e :: []) X.env)).all (fun x => !x.1) && (backToKw cp (keywordEach [] X.env)).all (fun x => x.1.isSome)
      && decide ((e :: []).length + ([] : List Keyword).length + (if ([] : List Keyword).isEmpty then 0 else 1) < 30)) = true := by rfl)
    (hline : (ap.endLine == cp.line) = true := by rfl) (hs : starEach (e :: []) X.env = (false, eval e X.env) :: starEach [] X.env := by rfl) (hplain : (backTo cp (starEach [] X.env)).any (·.1) = false := by rfl)
    (hsw : swapsWith (.Call (.Attribute (.Name x p) "extend" ap) [e] [] cp) none pos.line X.env = pure false := by rfl) :
    SSt X W (.Expr (.Call (.Attribute (.Name x p) "extend" ap) [e] [] cp) pos) (sExtend i f) (tDrop (tBM X.K "list" rExtend (tVar i) (tCons te tNil))) := by
  refine ⟨ps_expr (pe_bm PySem.F.plainAttrs_list PySem.F.slot_list_extend PySem.F.type_list_extend mt_extend (pe_var hN hv hd hcd) (pa_cons h.pe pa_nil hs) hbase hfew hline hs hplain) hsw, fun w0 H0 w σ H env m D E Wm S q => ?_⟩
  unfold sExtend at q
  split at q
  · rename_i hs
    obtain ⟨ys, hy⟩ := Option.isSome_iff_exists.mp hs
    obtain ⟨a, vs, k1, k2, _⟩ := slot_upd E Wm S hy
    refine ⟨_, k1, .inl ⟨rfl, vs, .inl (.inl k2)⟩, ?_⟩
    refine h.vl Wm S (WP.mono (WP.of_bind q) (fun x m1 q w1 H1 v1 E1 W1 r1 => ?_) fun x m' z => PXs.of E z)
    split at q
    · rename_i xs zs hx
      split at q
      · rename_i hl
        obtain ⟨b, us, g1, g2, g3, g4⟩ := slot_upd (E.trans E1) W1 (S.ext E1) hx
        rw [k1] at g1
        cases g1
        obtain ⟨b2, ws, rfl, h1, h2⟩ := r1.lst W1
        obtain ⟨E2, W2, S2⟩ := g4 (xs ++ zs) (us ++ ws) (g3.append h2)
        exact ⟨a, b2, us, ws, rfl, rfl, g2, h1, by rw [← g3.length, ← h2.length]; exact ln_line hl, q w1 _ E2 E1.le W2 σ rfl S2⟩
      · exact q.elim
    · exact q.elim
  · exact q.elim
theorem ss_pop (i : Nat) {x : Str} {p ap cp : Pos} (hN : X.N[i]? = some x := by rfl) (hv : Vis X.env.scope x := by first | exact Or.inl rfl | exact Or.inr (Or.inl rfl) | exact Or.inr (Or.inr rfl)) (hd : (x == ("__debug__" : Str)) = false := by decide) (hcd : (x == ("__classdict__" : Str)) = false := by decide)
    (hbase : attributeBase (.Name x p) "pop" X.env (eval (.Name x p) X.env) = eval (.Name x p) X.env := by rfl) (hline : (ap.endLine == cp.line) = true := by rfl)
    (hsw : swapsWith (.Call (.Attribute (.Name x p) "pop" ap) [] [] cp) none pos.line X.env = pure false := by rfl) :
    SSt X W (.Expr (.Call (.Attribute (.Name x p) "pop" ap) [] [] cp) pos) (sPop i) (tDrop (tBM0 X.K "list" rPop (tVar i))) := by
  refine ⟨ps_expr (pe_bm0 PySem.F.plainAttrs_list PySem.F.slot_list_pop PySem.F.type_list_pop mt_pop (pe_var hN hv hd hcd) hbase hline) hsw, fun w0 H0 w σ H env m D E Wm S q => ?_⟩
  unfold sPop at q
  split at q
  · rename_i xs hx
    split at q
    · exact q.elim
    · rename_i hne
      obtain ⟨a, vs, k1, k2, g3, g4⟩ := slot_upd E Wm S hx
      obtain ⟨E2, W2, S2⟩ := g4 xs.dropLast vs.dropLast g3.dropLast
      have hl := g3.length
      have hpos : 0 < xs.length := by
        cases xs with
        | nil => exact absurd rfl hne
        | cons _ _ => exact Nat.succ_pos _
      exact ⟨_, k1, .inl ⟨rfl, vs, .inl (.inl k2)⟩, a, vs, vs[vs.length - 1]'(by omega), rfl, rfl, k2, List.getElem?_eq_getElem _, q w _ E2 (.refl _) W2 σ rfl S2⟩
  · exact q.elim
end
section
variable {env : Env} {m : Cells}
def kExt (i : Nat) (env : Env) (r : Res D) : Res Out := r.bind fun x m1 => match lget i env m1, x with
  | some xs, .lst ys => if xs.length + ys.length ≤ LN then .ok (.nx (lupd i env m1 (xs ++ ys)).1) (lupd i env m1 (xs ++ ys)).2 else .bot
  | _, _ => .bot
theorem ev_extend_own {i : Nat} {f : SemR} {xs : List D} (h : env[i]? = some (.own xs)) : sExtend i f env m = kExt i env (vl f env m) := by
  have h1 : lget i env m = some xs := by unfold lget; rw [h]
  show (if _ then _ else _) = _
  rw [h1]
  rfl
theorem kExt_own {i : Nat} {xs ys : List D} (h : env[i]? = some (.own xs)) (hl : xs.length + ys.length ≤ 1000000) : kExt i env (.ok (.lst ys) m) = .ok (.nx (env.set i (.own (xs ++ ys)))) m := by
  have h1 : lget i env m = some xs := by unfold lget; rw [h]
  have h2 : lupd i env m (xs ++ ys) = (env.set i (.own (xs ++ ys)), m) := by unfold lupd; rw [h]
  show (match lget i env m, D.lst ys with | some xs, .lst ys => _ | _, _ => _) = _
  rw [h1]
  show (if _ then _ else _) = _
  rw [if_pos hl, h2]
theorem sPop_own {i : Nat} {x : D} {xs : List D} (h : env[i]? = some (.own (xs ++ [x]))) : sPop i env m = .ok (.nx (env.set i (.own xs))) m := by
  have h1 : lget i env m = some (xs ++ [x]) := by unfold lget; rw [h]
  have h2 : lupd i env m xs = (env.set i (.own xs), m) := by unfold lupd; rw [h]
  unfold sPop
  rw [h1]
  show (if (xs ++ [x]).isEmpty = true then _ else _) = _
  rw [if_neg (by simp), List.dropLast_concat, h2]
end
end Ev
/-! Ev, part V: list(range(..)), tuple(range(..)). -/
namespace Ev
open PySem PySem.Spec L2
def rgOk (a b : Int) : Bool := int62 a && int62 b && decide ((b - a).toNat ≤ LN)
theorem rgOk_ok {a b : Int} (h : rgOk a b = true) : RgOk a b := by
  unfold rgOk at h
  rw [Bool.and_eq_true, Bool.and_eq_true] at h
  have h1 := of_decide_eq_true h.1.1
  have h2 := of_decide_eq_true h.1.2
  have h3 := of_decide_eq_true h.2
  exact ⟨h1.1, h1.2, h2.1, h2.2, Nat.le_trans h3 (by decide)⟩
theorem rds_range {K : PySem.W.Frag} {w : Wd} (a b : Int) : RDs K w (rangeD a b) (rgV a b) := by
  unfold rangeD rgV
  generalize List.range (b - a).toNat = l
  induction l with
  | nil => exact .nil
  | cons x xs ih => exact .cons (.int _) ih
def rRg1 (k : List D → RV) (f : SemR) : SemR := fun env m => (vl f env m).bind fun y m1 => match y with
  | .int j => if rgOk 0 j = true then .ok (k (rangeD 0 j)) m1 else .bot
  | _ => .bot
def rRg2 (k : List D → RV) (f g : SemR) : SemR := fun env m => (vl f env m).bind fun x m1 => (vl g env m1).bind fun y m2 => match x, y with
  | .int i, .int j => if rgOk i j = true then .ok (k (rangeD i j)) m2 else .bot
  | _, _ => .bot
def kL : List D → RV := fun xs => .fl xs
def kT : List D → RV := fun xs => .d (.tup xs)
section
variable {X : Cx} {W : WX} {a b : Expr} {fa fb : SemR} {ta tb : TE} {p p2 pos pos2 : Pos}
theorem se_rg1L (hc : X.calm = true) (hm : X.mg "list" = none) (hm2 : X.mg "range" = none) (ha : SE X W a fa ta) (hg : Gl X "list" := by rfl) (hg2 : Gl X "range" := by rfl) (na : starEach [a] X.env = (false, eval a X.env) :: starEach [] X.env := by rfl)
    (nb : starEach [.Call (.Name "range" p2) [a] [] pos2] X.env = (false, eval (.Call (.Name "range" p2) [a] [] pos2) X.env) :: starEach [] X.env := by rfl) :
    SE X W (.Call (.Name "list" p) [.Call (.Name "range" p2) [a] [] pos2] [] pos) (rRg1 kL fa) (tLstRg (tRg1 ta)) := by
  refine ⟨pe_listRg hc hg hm (prg_1 hg2 hm2 ha.pe na) nb, fun w H0 σ H env m Q Wm S q => ?_⟩
  refine ha.vl Wm S (WP.mono (WP.of_bind q) (fun x m1 q w1 H1 v1 E1 W1 r1 => ?_) fun _ _ z => z)
  split at q
  · split at q
    · rename_i j hj
      exact ⟨j, r1.int, rgOk_ok hj, fun p hp => new_lst W1 hp (rds_range 0 j) fun w' H' v E' W' rr => q w' H' v (E1.trans E') W' (rr.after E1)⟩
    · exact q.elim
  · exact q.elim
theorem se_rg2L (hc : X.calm = true) (hm : X.mg "list" = none) (hm2 : X.mg "range" = none) (ha : SE X W a fa ta) (hb : SE X W b fb tb) (hg : Gl X "list" := by rfl) (hg2 : Gl X "range" := by rfl) (na : starEach [a, b] X.env = (false, eval a X.env) :: starEach [b] X.env := by rfl)
    (na2 : starEach [b] X.env = (false, eval b X.env) :: starEach [] X.env := by rfl) (hp : (backTo pos2 (starEach [b] X.env)).any (·.1) = false := by rfl)
    (nb : starEach [.Call (.Name "range" p2) [a, b] [] pos2] X.env = (false, eval (.Call (.Name "range" p2) [a, b] [] pos2) X.env) :: starEach [] X.env := by rfl) :
    SE X W (.Call (.Name "list" p) [.Call (.Name "range" p2) [a, b] [] pos2] [] pos) (rRg2 kL fa fb) (tLstRg (tRg2 ta tb)) := by
  refine ⟨pe_listRg hc hg hm (prg_2 hg2 hm2 ha.pe hb.pe na na2 hp) nb, fun w H0 σ H env m Q Wm S q => ?_⟩
  refine ha.vl Wm S (WP.mono (WP.of_bind q) (fun x m1 q w1 H1 v1 E1 W1 r1 => ?_) fun _ _ z => z)
  refine hb.vl W1 (S.ext E1) (WP.mono (WP.of_bind q) (fun y m2 q w2 H2 v2 E2 W2 r2 => ?_) fun x m' z c d w' H' E' W' rx => z c d w' H' (E1.trans E') W' rx)
  have E12 := E1.trans E2
  split at q
  · split at q
    · rename_i i j _ hj
      exact ⟨i, j, r1.int, r2.int, rgOk_ok hj, fun p hp => new_lst W2 hp (rds_range i j) fun w' H' v E' W' rr => q w' H' v (E12.trans E') W' (rr.after E12)⟩
    · exact q.elim
  · exact q.elim
theorem se_rg1T (hc : X.calm = true) (hm : X.mg "tuple" = none) (hm2 : X.mg "range" = none) (ha : SE X W a fa ta) (hg : Gl X "tuple" := by rfl) (hg2 : Gl X "range" := by rfl) (na : starEach [a] X.env = (false, eval a X.env) :: starEach [] X.env := by rfl)
    (nb : starEach [.Call (.Name "range" p2) [a] [] pos2] X.env = (false, eval (.Call (.Name "range" p2) [a] [] pos2) X.env) :: starEach [] X.env := by rfl) :
    SE X W (.Call (.Name "tuple" p) [.Call (.Name "range" p2) [a] [] pos2] [] pos) (rRg1 kT fa) (tTupRg (tRg1 ta)) := by
  refine ⟨pe_tupRg hc hg hm (prg_1 hg2 hm2 ha.pe na) nb, fun w H0 σ H env m Q Wm S q => ?_⟩
  refine ha.vl Wm S (WP.mono (WP.of_bind q) (fun x m1 q w1 H1 v1 E1 W1 r1 => ?_) fun _ _ z => z)
  split at q
  · split at q
    · rename_i j hj
      exact ⟨j, r1.int, rgOk_ok hj, fun p hp => new_tup (H0 := H0) W1 hp (rds_range 0 j) fun w' H' v E' W' rr => q w' H' v (E1.trans E') W' rr⟩
    · exact q.elim
  · exact q.elim
theorem se_rg2T (hc : X.calm = true) (hm : X.mg "tuple" = none) (hm2 : X.mg "range" = none) (ha : SE X W a fa ta) (hb : SE X W b fb tb) (hg : Gl X "tuple" := by rfl) (hg2 : Gl X "range" := by rfl) (na : starEach [a, b] X.env = (false, eval a X.env) :: starEach [b] X.env := by rfl)
    (na2 : starEach [b] X.env = (false, eval b X.env) :: starEach [] X.env := by rfl) (hp : (backTo pos2 (starEach [b] X.env)).any (·.1) = false := by rfl)
    (nb : starEach [.Call (.Name "range" p2) [a, b] [] pos2] X.env = (false, eval (.Call (.Name "range" p2) [a, b] [] pos2) X.env) :: starEach [] X.env := by rfl) :
    SE X W (.Call (.Name "tuple" p) [.Call (.Name "range" p2) [a, b] [] pos2] [] pos) (rRg2 kT fa fb) (tTupRg (tRg2 ta tb)) := by
  refine ⟨pe_tupRg hc hg hm (prg_2 hg2 hm2 ha.pe hb.pe na na2 hp) nb, fun w H0 σ H env m Q Wm S q => ?_⟩
  refine ha.vl Wm S (WP.mono (WP.of_bind q) (fun x m1 q w1 H1 v1 E1 W1 r1 => ?_) fun _ _ z => z)
  refine hb.vl W1 (S.ext E1) (WP.mono (WP.of_bind q) (fun y m2 q w2 H2 v2 E2 W2 r2 => ?_) fun x m' z c d w' H' E' W' rx => z c d w' H' (E1.trans E') W' rx)
  have E12 := E1.trans E2
  split at q
  · split at q
    · rename_i i j _ hj
      exact ⟨i, j, r1.int, r2.int, rgOk_ok hj, fun p hp => new_tup (H0 := H0) W2 hp (rds_range i j) fun w' H' v E' W' rr => q w' H' v (E12.trans E') W' rr⟩
    · exact q.elim
  · exact q.elim
end
section
variable {env : Env} {m : Cells}
def kRg1 (k : List D → RV) (r : Res D) : Res RV := r.bind fun y m1 => match y with
  | .int j => if rgOk 0 j = true then .ok (k (rangeD 0 j)) m1 else .bot
  | _ => .bot
theorem kRg1_1 {k : List D → RV} {j : Int} (h : 0 ≤ j ∧ j ≤ 1000000) : kRg1 k (.ok (.int j) m) = .ok (k (rangeD 0 j)) m := by
  show (if _ then _ else _) = _
  rw [if_pos]
  unfold rgOk int62
  rw [Bool.and_eq_true, Bool.and_eq_true]
  exact ⟨⟨decide_eq_true (by omega), decide_eq_true (by omega)⟩, decide_eq_true (by show _ ≤ 1000000; omega)⟩
@[simp] theorem ev_rRg1 (k : List D → RV) (f : SemR) : rRg1 k f env m = kRg1 k (vl f env m) := nr rfl
def kRg22 (k : List D → RV) (x : D) (r : Res D) : Res RV := r.bind fun y m2 => match x, y with
  | .int i, .int j => if rgOk i j = true then .ok (k (rangeD i j)) m2 else .bot
  | _, _ => .bot
theorem kRg22_1 {k : List D → RV} {i j : Int} (h : -1000000000 ≤ i ∧ j ≤ 1000000000 ∧ i ≤ 1000000000 ∧ -1000000000 ≤ j ∧ j - i ≤ 1000000) : kRg22 k (.int i) (.ok (.int j) m) = .ok (k (rangeD i j)) m := by
  show (if _ then _ else _) = _
  rw [if_pos]
  unfold rgOk int62
  rw [Bool.and_eq_true, Bool.and_eq_true]
  exact ⟨⟨decide_eq_true (by omega), decide_eq_true (by omega)⟩, decide_eq_true (by show _ ≤ 1000000; omega)⟩
def kRg2 (k : List D → RV) (g : SemR) (env : Env) (r : Res D) : Res RV := r.bind fun x m1 => kRg22 k x (vl g env m1)
@[simp] theorem kRg2_1 (k : List D → RV) (g : SemR) (x : D) : kRg2 k g env (.ok x m) = kRg22 k x (vl g env m) := nr rfl
@[simp] theorem ev_rRg2 (k : List D → RV) (f g : SemR) : rRg2 k f g env m = kRg2 k g env (vl f env m) := nr rfl
@[simp] theorem ev_kL (xs : List D) : kL xs = .fl xs := nr rfl
@[simp] theorem ev_kT (xs : List D) : kT xs = .d (.tup xs) := nr rfl
end
end Ev
/-! Ev, part X: x.pop(i) as a value, x a cell. -/
namespace Ev
open PySem PySem.Spec L2
/-- the cell behind a slot -/
def cellOf (i : Nat) (env : Env) (m : Cells) : Option (Nat × List D) := match env[i]? with
  | some (.d (.ref n)) => match m[n]? with
    | some (.lst xs) => some (n, xs)
    | none => none
  | _ => none
def rPopA (i : Nat) (f : SemR) : SemR := fun env m => if (cellOf i env m).isSome then (vl f env m).bind fun k m1 => match cellOf i env m1, k with
  | some (n, xs), .int k => if 0 ≤ k ∧ k < xs.length ∧ k < 2 ^ 62 then match xs[k.toNat]? with
    | some y => .ok (.d y) (m1.set n (.lst (xs.eraseIdx k.toNat)))
    | none => .bot
    else .bot
  | _, _ => .bot
  else .bot
theorem cell_lget {i : Nat} {env : Env} {m : Cells} {n : Nat} {xs : List D} (h : cellOf i env m = some (n, xs)) : lget i env m = some xs ∧ ∀ ys, lupd i env m ys = (env, m.set n (.lst ys)) := by
  unfold cellOf at h
  split at h
  · rename_i k e
    split at h
    · rename_i zs e2
      cases h
      exact ⟨by unfold lget; rw [e]; dsimp only; rw [e2], fun ys => by unfold lupd; rw [e]⟩
    · cases h
  · cases h
theorem cell_upd {K : PySem.W.Frag} {w : Wd} {H : Hp} {m : Cells} {n : Nat} {xs : List D} {a : Addr} (Wm : Wf K w H m) (hn : w.ι[n]? = some a) (hm : m[n]? = some (.lst xs)) :
    ∃ vs, H a = some (.lst vs) ∧ RDs K w xs vs ∧ ∀ xs' vs', RDs K w xs' vs' → Ext w H w (upd H a (.lst vs')) ∧ Wf K w (upd H a (.lst vs')) (m.set n (.lst xs')) := by
  have S : Slots K w H [some (V.ref a)] H [.d (.ref n)] := by
    refine ⟨rfl, fun i x e => ?_, fun i ys e => ?_, fun i j ys zs b e1 => ?_⟩
    · match i, e with
      | 0, e => cases e; exact ⟨V.ref a, rfl, .ref hn⟩
    · match i, e with
      | 0, e => cases e
    · match i, e1 with
      | 0, e => cases e
  have hl : lget 0 [.d (.ref n)] m = some xs := by unfold lget; dsimp only [List.getElem?_cons_zero]; rw [hm]
  obtain ⟨b, vs, h1, h2, h3, h4⟩ := slot_upd (.refl w H) Wm S hl
  cases h1
  refine ⟨vs, h2, h3, fun xs' vs' r => ?_⟩
  obtain ⟨g1, g2, _⟩ := h4 xs' vs' r
  exact ⟨g1, g2⟩
theorem RDs.eraseIdx {K : PySem.W.Frag} {w : Wd} : ∀ {xs : List D} {vs : List V}, RDs K w xs vs → ∀ k : Nat, RDs K w (xs.eraseIdx k) (vs.eraseIdx k)
  | _, _, .nil, _ => .nil
  | _, _, .cons r t, 0 => t
  | _, _, .cons r t, k + 1 => .cons r (RDs.eraseIdx t k)
section
variable {X : Cx} {W : WX} {e : Expr} {f : SemR} {te : TE}
theorem se_popA (i : Nat) {x : Str} {p ap cp : Pos} (h : SE X W e f te) (hN : X.N[i]? = some x := by rfl) (hv : Vis X.env.scope x := by first | exact Or.inl rfl | exact Or.inr (Or.inl rfl) | exact Or.inr (Or.inr rfl)) (hd : (x == ("__debug__" : Str)) = false := by decide) (hcd : (x == ("__classdict__" : Str)) = false := by decide)
    (hbase : attributeBase (.Name x p) "pop" X.env (eval (.Name x p) X.env) = eval (.Name x p) X.env := by rfl)
    (hfew : ((backTo cp (starEach (e :: []) X.env)).all (fun x => !x.1) && (backToKw cp (keywordEach [] X.env)).all (fun x => x.1.isSome)
      && decide ((e :: []).length + ([] : List Keyword).length + (if ([] : List Keyword).isEmpty then 0 else 1) < 30)) = true := by rfl)
    (hline : (ap.endLine == cp.line) = true := by rfl) (hs : starEach (e :: []) X.env = (false, eval e X.env) :: starEach [] X.env := by rfl) (hplain : (backTo cp (starEach [] X.env)).any (·.1) = false := by rfl) :
    SE X W (.Call (.Attribute (.Name x p) "pop" ap) [e] [] cp) (rPopA i f) (tBM X.K "list" rPopAt (tVar i) (tCons te tNil)) := by
  refine ⟨pe_bm PySem.F.plainAttrs_list PySem.F.slot_list_pop PySem.F.type_list_pop mt_popAt (pe_var hN hv hd hcd) (pa_cons h.pe pa_nil hs) hbase hfew hline hs hplain, fun w H0 σ H env m Q Wm S q => ?_⟩
  unfold rPopA at q
  split at q
  · rename_i hs
    obtain ⟨⟨n, ys⟩, hy⟩ := Option.isSome_iff_exists.mp hs
    obtain ⟨a, vs, k1, k2, k3⟩ : ∃ a vs, σ[i]? = some (some (V.ref a)) ∧ w.ι[n]? = some a ∧ H a = some (.lst vs) := by
      unfold cellOf at hy
      split at hy
      · rename_i k e
        split at hy
        · rename_i zs e2
          cases hy
          obtain ⟨v, g1, g2⟩ := S.dat i _ e
          cases g2 with
          | ref g =>
            obtain ⟨b, g3, vs, g4, _⟩ := Wm.cell _ _ e2
            rw [g] at g3
            cases g3
            exact ⟨_, vs, g1, g, g4⟩
        · cases hy
      · cases hy
    refine ⟨_, k1, .inl ⟨rfl, vs, .inl (.inl k3)⟩, ?_⟩
    refine h.vl Wm S (WP.mono (WP.of_bind q) (fun x m1 q w1 H1 v1 E1 W1 r1 => ?_) fun _ _ z => z)
    split at q
    · rename_i n' xs k hx
      split at q
      · rename_i hk
        split at q
        · rename_i y hy2
          have same : n' = n ∧ m1[n]? = some (.lst xs) := by
            unfold cellOf at hy hx
            split at hx
            · rename_i k2 e
              split at hx
              · rename_i zs e2
                cases hx
                split at hy
                · rename_i k3 e3
                  rw [e] at e3
                  cases e3
                  split at hy
                  · cases hy; exact ⟨rfl, e2⟩
                  · cases hy
                · cases hy
              · cases hx
            · cases hx
          obtain ⟨rfl, hm1⟩ := same
          obtain ⟨us, g2, g3, g4⟩ := cell_upd W1 (E1.le.pre _ _ k2) hm1
          obtain ⟨E2, W2⟩ := g4 (xs.eraseIdx k.toNat) (us.eraseIdx k.toNat) (g3.eraseIdx _)
          obtain ⟨v, hv1, rv⟩ := g3.get hy2
          refine ⟨a, us, k, k.toNat, v, rfl, by rw [r1.int], g2, by omega, by omega, ?_, hv1, q w1 _ v (E1.trans E2) W2 rv⟩
          have hl := g3.length
          unfold seqIndex?
          rw [if_neg (show ¬ k < 0 by omega)]
          exact if_pos (by rw [Bool.and_eq_true]; exact ⟨decide_eq_true hk.1, decide_eq_true (by omega)⟩)
        · exact q.elim
      · exact q.elim
    · exact q.elim
  · exact q.elim
def rLenC (i : Nat) : SemR := fun env m => match cellOf i env m with
  | some (_, xs) => .ok (.d (.int xs.length)) m
  | none => .bot
theorem se_lenC (i : Nat) {x : Str} {p px pos : Pos} (hm : X.mg "len" = none) (hg : Gl X "len" := by rfl) (hN : X.N[i]? = some x := by rfl) (hv : Vis X.env.scope x := by first | exact Or.inl rfl | exact Or.inr (Or.inl rfl) | exact Or.inr (Or.inr rfl)) (hd : (x == ("__debug__" : Str)) = false := by decide) (hcd : (x == ("__classdict__" : Str)) = false := by decide)
    (he : starEach (.Name x px :: []) X.env = (false, eval (.Name x px) X.env) :: starEach [] X.env := by rfl) (hpl : (backTo pos (starEach [] X.env)).any (·.1) = false := by rfl) :
    SE X W (.Call (.Name "len" p) [.Name x px] [] pos) (rLenC i) (tCB (fun xs H Q => ∃ x n, xs = [x] ∧ LenV X.K x H n ∧ Q (.int n) H) (tCons (tVar i) tNil)) := by
  refine ⟨pe_callB call_len hg hm (by decide +kernel) (pa_cons (pe_var hN hv hd hcd) pa_nil he) (by decide) (by decide) he hpl, fun w H0 σ H env m Q Wm S q => ?_⟩
  unfold rLenC at q
  split at q
  · rename_i n xs hy
    unfold cellOf at hy
    split at hy
    · rename_i k e
      split at hy
      · rename_i zs e2
        cases hy
        obtain ⟨v, g1, g2⟩ := S.dat i _ e
        cases g2 with
        | ref g =>
          obtain ⟨b, g3, vs, g4, g5⟩ := Wm.cell _ _ e2
          rw [g] at g3
          cases g3
          exact ⟨_, g1, _, _, rfl, .inl ⟨vs, .inl (.inl g4), rfl⟩, by rw [← g5.length]; exact q w H _ (.refl _ _) Wm (.int _)⟩
      · cases hy
    · cases hy
  · exact q.elim
end
end Ev
/-! Ev, part Y: reversed(range(..)). -/
namespace Ev
open PySem PySem.Spec L2
theorem walks_revR {K : PySem.W.Frag} {w : Wd} (a b : Int) : Walks K w (Itc (a + (((b - a).toNat : Nat) : Int) - 1) (-1) (b - a).toNat) (rangeD a b).reverse := by
  refine ⟨_, _, by rw [List.length_reverse, rangeD_len]; exact walk_rangeC, fun _ _ _ _ => trivial, fun i H2 v H3 hi' y w2 m2 L W2 => ?_⟩
  obtain ⟨rfl, rfl⟩ := y
  rw [List.length_reverse] at hi'
  have hl := rangeD_len a b
  refine ⟨.int (a + (((b - a).toNat : Nat) : Int) - 1 + (i : Nat) * (-1)), w2, ?_, .refl _ _, W2, .int _⟩
  rw [List.getElem?_reverse hi', rangeD_get, if_pos (by omega)]
  congr 2
  omega
def eRevR1 (as : SemDs) : SemDs := fun env m => (as env m).bind fun xs m1 => match xs with
  | [.int j] => if int62 j then .ok (rangeD 0 j).reverse m1 else .bot
  | _ => .bot
section
variable {X : Cx} {W : WX} {tg a b : Expr} {fa : SemR} {ta : TE} {p p2 pos pos2 : Pos}
def eRv1 (f : SemR) : SemDs := fun env m => (vl f env m).bind fun x m1 => match x with
  | .int j => if int62 j then .ok (rangeD 0 j).reverse m1 else .bot
  | _ => .bot
theorem si_rv1 (hm : X.mg "reversed" = none) (hm2 : X.mg "range" = none) (ha : SE X W a fa ta) (hg : Gl X "reversed" := by rfl) (hg2 : Gl X "range" := by rfl) (na : starEach [a] X.env = (false, eval a X.env) :: starEach [] X.env := by rfl)
    (nb : starEach [.Call (.Name "range" p2) [a] [] pos2] X.env = (false, eval (.Call (.Name "range" p2) [a] [] pos2) X.env) :: starEach [] X.env := by rfl) :
    SIt X W tg (.Call (.Name "reversed" p) [.Call (.Name "range" p2) [a] [] pos2] [] pos) (eRv1 fa) (iRevR (tRg1 ta)) := by
  refine ⟨pi_revR hg hm (prg_1 hg2 hm2 ha.pe na) nb, fun w H0 σ H env m R Wm S q => ?_⟩
  refine ha.vl Wm S (WP.mono (WP.of_bind q) (fun x m1 q w1 H1 v1 E1 W1 r1 => ?_) fun _ _ z => z)
  split at q
  · split at q
    · rename_i j hj
      have hj := of_decide_eq_true hj
      exact ⟨j, r1.int, by decide, by decide, hj.1, hj.2, q w1 H1 _ E1 W1 (walks_revR 0 j)⟩
    · exact q.elim
  · exact q.elim
variable {env : Env} {m : Cells}
def kRv1 (r : Res D) : Res (List D) := r.bind fun x m1 => match x with
  | .int j => if int62 j then .ok (rangeD 0 j).reverse m1 else .bot
  | _ => .bot
@[simp] theorem ev_eRv1 (f : SemR) : eRv1 f env m = kRv1 (vl f env m) := nr rfl
theorem kRv1_1 {j : Int} (h : -4611686018427387904 ≤ j ∧ j < 4611686018427387904) : kRv1 (.ok (.int j) m) = .ok (rangeD 0 j).reverse m := by
  show (if int62 j = true then _ else _) = _
  rw [if_pos (by unfold int62; exact decide_eq_true h)]
end
end Ev
/-! Ev, part Z: sorted of ints. -/
namespace Ev
open PySem PySem.Spec L2
def sortI (ns : List Int) : List Int := ns.mergeSort (fun a b => decide (a ≤ b))
theorem sortI_perm (ns : List Int) : (sortI ns).Perm ns := List.mergeSort_perm _ _
theorem sortI_sorted (ns : List Int) : (sortI ns).Pairwise (· ≤ ·) := by
  have := List.pairwise_mergeSort (le := fun a b : Int => decide (a ≤ b)) (fun a b c h1 h2 => by simp at *; omega) (fun a b => by simp; omega) ns
  exact this.imp fun h => of_decide_eq_true h
theorem sortI_eq {ns ms : List Int} (h1 : ms.Perm ns) (h2 : ms.Pairwise (· ≤ ·)) : ms = sortI ns :=
  List.Perm.eq_of_pairwise (fun a b _ _ h1 h2 => Int.le_antisymm h1 h2) h2 (sortI_sorted ns) (h1.trans (sortI_perm ns).symm)
def gSorted : List D → Option RV
  | [.lst xs] => (intsOf xs).map fun ns => .fl ((sortI ns).map D.int)
  | _ => none
theorem rds_of_ints {K : PySem.W.Frag} {w : Wd} : ∀ ns : List Int, RDs K w (ns.map D.int) (ns.map V.int)
  | [] => .nil
  | n :: ns => .cons (.int n) (rds_of_ints ns)
theorem calls_sorted {X : Cx} : CallS X (.builtin "sorted") gSorted (rSortedI X.K) := by
  refine ⟨cr_sortedI, fun w H0 H m xs vs rv Q Wm r e q => ?_⟩
  unfold gSorted at e
  split at e
  · rename_i xs
    cases hi : intsOf xs with
    | none => rw [hi] at e; cases e
    | some ns =>
      rw [hi] at e
      cases e
      have hx := intsOf_eq hi
      subst hx
      obtain ⟨v, rfl, r9⟩ := r.one
      obtain ⟨a, us, rfl, h1, h2⟩ := r9.lst Wm
      have := rds_ints h2
      subst this
      refine ⟨a, ns, rfl, .inl (.inl h1), fun ns' p hp hs hf => ?_⟩
      rw [sortI_eq hp hs]
      exact new_lst (H0 := H0) Wm hf (rds_of_ints _) q
  · cases e
theorem ev_sorted (ns : List Int) : gSorted [.lst (ns.map D.int)] = some (.fl ((sortI ns).map D.int)) := by
  show (intsOf _).map _ = _
  rw [ints_map]; rfl
end Ev
/-! Ev: sorted of a tuple of ints. -/
namespace Ev
open PySem PySem.Spec PyProof.Rows L2 Srt SrtO
section
variable {prog : Program} {w : World} {A : Around} {E : Value → Shared → Prop} {s : Shared}
theorem sorted_coll {T : String} (hT : T = "list" ∨ T = "tuple") {p : Addr} {ob : Obj} {vs : List Value} {k : Nat} {lv : Value → Value → Bool} {Q : Value → Shared → Prop} (O : Swo lv) (ho : s.heap.get? p = some ob) (hc : ob.cls = .type T) (hd : ob.data = .seq vs.toArray k) (hz : vs.length ≤ sizeLine)
    (hS : 2 ≤ vs.length → ∀ (s' : Shared) (a : Addr), (∀ b o, s.heap.get? b = some o → b ≠ a ∧ s'.heap.get? b = some o) → SortableO prog w A.in1.in1 s' a vs lv)
    (fin : ∀ (h1 h' : Heap) (out : List Value) (e : Nat), Srtd lv out → Stb lv out vs → (∀ b o, s.heap.get? b = some o → h1.get? b = some o) → (∀ b o, h1.get? b = some o → h'.get? b = some o) → h'.get? h1.objs.size = some (seqObj "list" out.toArray e) → Q (.ref h1.objs.size) { s with heap := h' }) :
    wpAny (model prog w) A (call (.builtin "sorted") [.ref p]) Q E s := by
  refine Calls.call_function_entry kind_sorted plain_sorted entry_sorted (args_sorted1 _) ?_
  show wpAny _ _ (checkCount "sorted" 1 1 _ >>= _) _ _ _
  refine wpAny_bind (wpAny_pure ?_)
  refine wpAny_bind (wpAny_collect_seq p hT ho hc hd (fun h1 k1 => ?_) (by rw [List.size_toArray]; exact hz))
  have ev : vs.toArray.toList = vs := by simp
  rw [ev]
  refine wpAny_bind (wpAny_newList ?_ hz)
  have new : (h1.push (seqObj "list" vs.toArray 0)).get? h1.objs.size = some (seqObj "list" vs.toArray 0) := Heap.get?_push_size _ rfl
  refine wpAny_bind (wpAny_holding (wpAny_call_entry slot_list_sort ⟨_, new, rfl⟩ entry_list_sort (list_sort_ord O new hz (fun h2 => hS h2 _ _ fun b o hb => ⟨Nat.ne_of_lt (Heap.lt_size (k1 b o hb)), Heap.get?_push_of_some _ (k1 b o hb)⟩) fun out h2 h3 => ⟨_, rfl, ?_⟩) (args_list_sort _)))
  obtain ⟨e, he⟩ := sortedHeap_at (out := out.toArray) new
  refine wpAny_pure ⟨_, rfl, fin h1 _ out e h2 h3 k1 (fun b o hb => ?_) he⟩
  rw [sortedHeap_old (Nat.ne_of_lt (Heap.lt_size hb)) (by rw [size_push']; exact Nat.lt_succ_of_lt (Heap.lt_size hb))]
  exact Heap.get?_push_of_some _ hb
end
def rSortedTI (K : PySem.W.Frag) : List V → Hp → VK → Prop := fun vs H Q => ∃ (a : Addr) (ns : List Int), vs = [V.ref a] ∧ SqT K H a (ns.map V.int) ∧
  ∀ (ms : List Int) (p : Addr), ms.Perm ns → ms.Pairwise (· ≤ ·) → H p = none → Q (.ref p) (upd H p (.lst (ms.map V.int)))
section
variable {X : Cx}
theorem cr_sortedTI : CallR X (.builtin "sorted") (rSortedTI X.K) := by
  intro pins s σ H vs us Q I r h
  obtain ⟨a, ns, rfl, hs, q⟩ := h
  obtain ⟨its, rv, ⟨ob, ho, hc, n, hd⟩, hz⟩ := I.tuple hs
  rw [Vals.ref1 r]
  have hi := rv.ints
  refine sorted_coll (.inr rfl) swo_int ho hc hd (by rw [← rv.length]; exact hz) (fun h2 _ _ _ => ints_sortable hi h2) fun h1 h' out e g1 g2 k1 k2 he => ?_
  obtain ⟨c1, c2, c3⟩ := ints_out hi g1 g2
  have hl : ((out.map iv).map V.int).length ≤ sizeLine := by
    rw [List.length_map, c2.length_eq, ← List.length_map (f := V.int)]
    exact hz
  have I1 : Inv X pins σ H { s with heap := h1 } := I.kept (t' := s.toks) k1
  exact ⟨.ref h1.objs.size, upd H h1.objs.size (.lst ((out.map iv).map V.int)), I1.laid (t' := s.toks) k2 (Nat.le_refl _) ⟨hl, out, e, vals_of_ints c1, he⟩, rfl, q _ _ c2 c3 (I1.hok.fresh (Nat.le_refl _))⟩
def gSorted2 : List D → Option RV
  | [.lst xs] => (intsOf xs).map fun ns => .fl ((sortI ns).map D.int)
  | [.tup xs] => (intsOf xs).map fun ns => .fl ((sortI ns).map D.int)
  | _ => none
theorem calls_sorted2 : CallS X (.builtin "sorted") gSorted2 (fun xs H Q => rSortedI X.K xs H Q ∨ rSortedTI X.K xs H Q) := by
  refine ⟨CallR.or cr_sortedI cr_sortedTI, fun w H0 H m xs vs rv Q Wm r e q => ?_⟩
  unfold gSorted2 at e
  split at e
  · rename_i xs
    cases hi : intsOf xs with
    | none => rw [hi] at e; cases e
    | some ns =>
      rw [hi] at e
      cases e
      have hx := intsOf_eq hi
      subst hx
      obtain ⟨v, rfl, r9⟩ := r.one
      obtain ⟨a, us, rfl, h1, h2⟩ := r9.lst Wm
      have := rds_ints h2
      subst this
      refine .inl ⟨a, ns, rfl, .inl (.inl h1), fun ns' p hp hs hf => ?_⟩
      rw [sortI_eq hp hs]
      exact new_lst (H0 := H0) Wm hf (rds_of_ints _) q
  · rename_i xs
    cases hi : intsOf xs with
    | none => rw [hi] at e; cases e
    | some ns =>
      rw [hi] at e
      cases e
      have hx := intsOf_eq hi
      subst hx
      obtain ⟨v, rfl, r9⟩ := r.one
      obtain ⟨a, us, rfl, h1, h2⟩ := r9.tup Wm
      have := rds_ints h2
      subst this
      refine .inr ⟨a, ns, rfl, h1, fun ns' p hp hs hf => ?_⟩
      rw [sortI_eq hp hs]
      exact new_lst (H0 := H0) Wm hf (rds_of_ints _) q
  · cases e
end
theorem ev_sorted2L (ns : List Int) : gSorted2 [.lst (ns.map D.int)] = some (.fl ((sortI ns).map D.int)) := by
  show (intsOf _).map _ = _
  rw [ints_map]; rfl
theorem ev_sorted2T (ns : List Int) : gSorted2 [.tup (ns.map D.int)] = some (.fl ((sortI ns).map D.int)) := by
  show (intsOf _).map _ = _
  rw [ints_map]; rfl
end Ev
/-! Ev: sorted of a list of tuples of ints, of any lengths, any number. -/
namespace Ev
open PySem PySem.Spec PyProof.Rows L2 Srt SrtO
/-- v is a tuple of these ints -/
def TupI (h : Heap) (v : Value) (ns : List Int) : Prop := ∃ (a : Addr) (items : Array Value), v = .ref a ∧ IsTup h a items ∧ IntsAre items.toList ns
theorem TupI.keeps {h h' : Heap} {v : Value} {ns : List Int} (x : TupI h v ns) (k : ∀ b o, v = .ref b → h.get? b = some o → h'.get? b = some o) : TupI h' v ns := by
  obtain ⟨a, items, rfl, ⟨o, ho, hc⟩, hi⟩ := x
  exact ⟨a, items, rfl, ⟨o, k a o rfl ho, hc⟩, hi⟩
section
variable {prog : Program} {w : World} {A : Around} {E : Value → Shared → Prop} {s : Shared}
theorem call_ltT {a b : Addr} {xs ys : Array Value} {ns ms : List Int} {Q : Value → Shared → Prop} (ha : IsTup s.heap a xs) (hb : IsTup s.heap b ys) (hi : IntsAre xs.toList ns) (hj : IntsAre ys.toList ms) (q : Q (.bool (HT.lexLt ns ms)) s) :
    wpAny (model prog w) A (call (.builtin "tuple.__lt__") [.ref a, .ref b]) Q E s := by
  obtain ⟨⟨c1, d1, t1, l1⟩, g1, h1, n1, k1⟩ := id ha
  obtain ⟨⟨c2, d2, t2, l2⟩, g2, h2, n2, k2⟩ := id hb
  simp only at h1 k1 h2 k2
  subst h1 k1 h2 k2
  have tv : W.Looks (model prog w) s.heap (typeOf (.ref a)) (.type "tuple") := (W.Looks.ld g1).andThen .now
  have iv : W.Looks (model prog w) s.heap (isInstance (.ref a) (.type "tuple")) true := tv.andThen (by
    intro A Q E s k h
    exact wpAny_of_eq AutoSeq1.sub_tuple_tuple h)
  refine wpAny_call (codeAny_call_builtin PySem.F.slot_tuple_lt.plain PySem.F.entry_tuple_lt (@W.check_slot (model prog w) _ _ _ "tuple.__lt__" "tuple" "__lt__" (.ref a) [.ref b] [] _ (by decide +kernel) (by decide +kernel) iv (PySem.F.args_tuple_lt_2 _ _) ?_))
  refine wpAny_mono (HT.tuple_lt_ints a b xs ys n1 n2 d1 d2 l1 l2 ns ms hi hj prog w _ (wants Q E) s ⟨g1, g2, q⟩) (fun fin s' z => ?_) fun _ _ z => z
  cases fin with
  | done f => exact z
  | again c => exact z
theorem one_tup {a b : Addr} {xs ys : Array Value} {ns ms : List Int} {Q : Bool → Shared → Prop} (ha : IsTup s.heap a xs) (hb : IsTup s.heap b ys) (hi : IntsAre xs.toList ns) (hj : IntsAre ys.toList ms) (hu : A.units < cLine) (q : Q (HT.lexLt ns ms) s) :
    wpAny (model prog w) A (oneLt' true (.ref a) (.ref b)) Q E s := by
  obtain ⟨o1, g1, h1, _⟩ := id ha
  rw [oneLt'_eq, if_pos rfl]
  exact wpAny_bind (wpAny_cRoomFor hu (wpAny_bind (wpAny_callSpecialIfBound?_slot ⟨o1, g1, h1⟩ PySem.F.slot_tuple_lt (call_ltT ha hb hi hj (wpAny_truthy_bool q)))))
theorem lex_tups {Q : Bool → Shared → Prop} : ∀ {xs ys : List Value} {ns ms : List Int} (i : Nat) (fin : Bool), IntsAre xs ns → IntsAre ys ms → fin = decide (xs.length < ys.length) → Q (HT.lexLt ns ms) s → W.KatLex prog w A true fin Q (xs.zip ys) i s
  | _, _, _, _, i, fin, .nil, .nil, hf, q => by
    rw [List.zip_nil_left]
    refine W.kat_nil ?_
    rw [hf]; exact q
  | _, _, _, _, i, fin, .nil, .cons c u r, hf, q => by
    rw [List.zip_nil_left]
    refine W.kat_nil ?_
    rw [hf, HT.lexLt_nil_cons] at *
    rw [decide_eq_true (by simp)]; exact q
  | _, _, _, _, i, fin, .cons c u r, .nil, hf, q => by
    rw [List.zip_nil_right]
    refine W.kat_nil ?_
    rw [hf, HT.lexLt_cons_nil] at *
    rw [decide_eq_false (by simp)]; exact q
  | _, _, _, _, i, fin, .cons c u r, .cons d v r', hf, q => by
    rw [List.zip_cons_cons]
    refine W.kat_cons (SeqAt.EqAt.int_int c u d v prog w _ _ ?_)
    rw [HT.lexLt_cons] at q
    refine W.kat_go (fun e1 => ?_) (fun e1 => ?_)
    · have ex : c = d := by simpa using e1
      rw [if_pos ex] at q
      refine W.kat_yes (lex_tups (i + 1) fin r r' ?_ q)
      rw [hf]
      simp
    · have ex : ¬ c = d := by simpa using e1
      rw [if_neg ex] at q
      refine W.kat_no ?_
      cases i with
      | zero => exact oneLt_int q
      | succ i => exact W.kat_one _ _ (PyProof.Rows.lt_int q)
theorem gen_eq (x y : Value) : keyLt' general' x y = oneLt' false x y := rfl
theorem tup_cmp {κ : SortKind} (hκ : κ = tuples' true ∨ κ = general' ∨ κ = oneType') {vs : List Value} {k : Value → List Int} (hu : A.units < cLine) (hv : ∀ v ∈ vs, TupI s.heap v (k v)) : Cmp prog w A s κ (fun p => p.1 ∈ vs) (lt2 fun v u => HT.lexLt (k v) (k u)) := by
  intro p q hp hq
  obtain ⟨a, xs, e1, ha, hi⟩ := hv _ hp
  obtain ⟨b, ys, e2, hb, hj⟩ := hv _ hq
  show wpAny (model prog w) A (keyLt' κ p.1 q.1) (fun r s' => s' = s ∧ r = HT.lexLt (k p.1) (k q.1)) (fun _ _ => False) s
  generalize k p.1 = ns at hi ⊢
  generalize k q.1 = ms at hj ⊢
  rw [e1, e2]
  rcases hκ with rfl | rfl | rfl
  · obtain ⟨o1, g1, _, n1, k1⟩ := id ha
    obtain ⟨o2, g2, _, n2, k2⟩ := id hb
    exact W.kat_lt g1 k1 g2 k2 (lex_tups 0 _ hi hj (by simp) ⟨rfl, rfl⟩)
  · rw [gen_eq]
    exact W.kat_one _ _ (HT.lt_tupInts ha hb hi hj hu ⟨rfl, rfl⟩)
  · rw [keyLt'_oneType]
    exact one_tup ha hb hi hj hu ⟨rfl, rfl⟩
theorem firsts_any {M : Model} {k : Value → List Int} : ∀ {vs : List Value}, (∀ v ∈ vs, TupI s.heap v (k v)) → ∃ os : List (Option Value), os.map Option.isSome = vs.map (fun v => !(k v).isEmpty) ∧ ∀ Q : List (Option Value) → Shared → Prop, Q os s → wpAny M A (vs.mapM firstOfTuple') Q E s
  | [], _ => ⟨[], rfl, fun Q q => by rw [List.mapM_nil]; exact wpAny_pure q⟩
  | v :: vs, h => by
    obtain ⟨os, h1, h2⟩ := firsts_any (vs := vs) fun u hu => h u (List.mem_cons_of_mem _ hu)
    obtain ⟨a, xs, e, ⟨o, ho, hc, n, hd⟩, hi⟩ := h v (List.mem_cons_self ..)
    refine ⟨xs[0]? :: os, ?_, fun Q q => ?_⟩
    · rw [List.map_cons, List.map_cons, h1]
      congr 1
      have e0 : xs[0]? = xs.toList[0]? := by simp
      rw [e0]
      generalize k v = ns at hi
      generalize xs.toList = l at hi
      cases hi <;> rfl
    · rw [List.mapM_cons]
      refine wpAny_bind ?_
      rw [W.kas_first_eq, e]
      refine wpAny_bind (W.Looks.here (show W.Looks M s.heap (typeOf (.ref a)) o.cls from (W.Looks.ld ho).andThen .now) ?_)
      rw [hc, if_neg (by first | decide | simp)]
      refine wpAny_bind (listItems_at ho hd (wpAny_pure ?_))
      exact wpAny_bind (h2 _ (wpAny_pure q))
theorem tup_kind {vs : List Value} {k : Value → List Int} (h2 : 2 ≤ vs.length) (hv : ∀ v ∈ vs, TupI s.heap v (k v)) : ∃ κ : SortKind, (κ = tuples' true ∨ κ = general' ∨ κ = oneType') ∧
    ∀ (Q : SortKind → Shared → Prop) (E : Value → Shared → Prop), Q κ s → wpAny (model prog w) A (keyKind' vs.toArray) Q E s := by
  by_cases hall : ∀ v ∈ vs, k v ≠ []
  · -- none is empty
    have key : ∀ us : List Value, (∀ v ∈ us, TupI s.heap v (k v)) → (∀ v ∈ us, k v ≠ []) → ∃ fs, W.KatTups s.heap us fs ∧ fs.length = us.length ∧ ∀ f ∈ fs, ∃ i t, f = Value.int i t := by
      intro us
      induction us with
      | nil => intro _ _; exact ⟨[], .nil, rfl, fun f hf => (nomatch hf)⟩
      | cons u us ih =>
        intro h1 h2
        obtain ⟨fs, t, hl, hf⟩ := ih (fun v hv => h1 v (List.mem_cons_of_mem _ hv)) fun v hv => h2 v (List.mem_cons_of_mem _ hv)
        obtain ⟨a, xs, e, ⟨o, ho, hc, n, hd⟩, hi⟩ := h1 u (List.mem_cons_self ..)
        have hne := h2 u (List.mem_cons_self ..)
        generalize k u = ns at hi hne
        have e0 : xs[0]? = xs.toList[0]? := by simp
        revert e0
        generalize xs.toList = l at hi
        intro e0
        cases hi with
        | nil => exact absurd rfl hne
        | cons c v r =>
          refine ⟨.int c v :: fs, ?_, by simp [hl], fun f hm => ?_⟩
          · rw [e]; exact .cons ho hc hd e0 t
          · rcases List.mem_cons.mp hm with z | z
            · exact ⟨_, _, z⟩
            · exact hf f z
    obtain ⟨fs, t, hl, hf⟩ := key vs hv hall
    refine ⟨tuples' true, .inl rfl, fun Q E q => ?_⟩
    refine W.kat_kind (T := .type "int") t (by omega) (fun f hm => ?_) (by rfl) ?_
    · obtain ⟨i, t, rfl⟩ := hf f hm
      exact W.Looks.now
    · have e : (Value.type "int" != Value.type "tuple") = true := by first | decide +kernel | rfl | decide
      rw [e]
      exact q
  · have hno : (vs.map (fun v => !(k v).isEmpty)).all id = false := by
      rw [List.all_map]
      apply Bool.eq_false_iff.mpr
      intro z
      rw [List.all_eq_true] at z
      refine hall fun v hm e => ?_
      have := z v hm
      simp [e] at this
    match vs, h2 with
    | v :: r, h2 =>
      cases hk : (k v).isEmpty with
      | false =>
        refine ⟨general', .inr (.inl rfl), fun Q E q => ?_⟩
        obtain ⟨os, o1, o2⟩ := firsts_any (M := model prog w) (A := A) (E := E) hv
        rw [keyKind'_eq, List.mapM_toArray, map_eq_pure_bind]
        refine wpAny_bind (wpAny_bind (o2 _ (wpAny_pure ?_)))
        rw [← o1] at hno
        rw [if_neg (by rw [List.all_toArray]; intro z; rw [List.all_map] at hno; exact Bool.noConfusion (hno.symm.trans z))]
        cases os with
        | nil => simp at o1
        | cons x os =>
          have : x.isSome = true := by simpa [hk] using (List.cons.inj o1).1
          rw [if_pos (by simpa using this)]
          exact wpAny_pure q
      | true =>
        refine ⟨oneType', .inr (.inr rfl), fun Q E q => ?_⟩
        obtain ⟨os, o1, o2⟩ := firsts_any (M := model prog w) (A := A) (E := E) hv
        rw [keyKind'_eq, List.mapM_toArray, map_eq_pure_bind]
        refine wpAny_bind (wpAny_bind (o2 _ (wpAny_pure ?_)))
        rw [← o1] at hno
        rw [if_neg (by rw [List.all_toArray]; intro z; rw [List.all_map] at hno; exact Bool.noConfusion (hno.symm.trans z))]
        have hT : ∀ u ∈ v :: r, W.Looks (model prog w) s.heap (typeOf u) (.type "tuple") := fun u hm => by
          obtain ⟨a, xs, e, ⟨o, ho, hc, n, hd⟩, hi⟩ := hv u hm
          rw [e, ← hc]
          exact (W.Looks.ld ho).andThen .now
        cases os with
        | nil => simp at o1
        | cons x os =>
          have : x.isSome = false := by simpa [hk] using (List.cons.inj o1).1
          rw [if_neg (by simp [this])]
          rw [oneTypeOnly'_eq, List.mapM_toArray, map_eq_pure_bind]
          refine wpAny_bind (wpAny_bind (wpAny_bind (W.kas_mapM (r := Value.type "tuple") _ (fun u hm Q' z => (hT u hm).here z) (wpAny_pure ?_))))
          have hal : ((List.map (fun _ => Value.type "tuple") (v :: r)).toArray.all fun x => x == Value.type "tuple") = true := by
            simp only [List.all_toArray, List.all_map, List.all_eq_true]
            intro _ _
            rfl
          have h0 : (List.map (fun _ => Value.type "tuple") (v :: r)).toArray[0]? = some (Value.type "tuple") := by simp
          rw [h0]
          simp only [hal, if_true]
          exact wpAny_pure (wpAny_pure q)
theorem tups_sortable {a : Addr} {vs : List Value} {k : Value → List Int} (h2 : 2 ≤ vs.length) (hu : A.units < cLine) (hv : ∀ v ∈ vs, TupI s.heap v (k v)) (ha : ∀ v ∈ vs, v ≠ .ref a) : SortableO prog w A s a vs fun v u => HT.lexLt (k v) (k u) := by
  intro h' keep
  have hv' : ∀ v ∈ vs, TupI h' v (k v) := fun v hm => (hv v hm).keeps fun b o e g => keep b o (fun z => ha v hm (by rw [e, z])) g
  obtain ⟨κ, hκ, q⟩ := tup_kind (prog := prog) (w := w) (A := A) (s := { s with heap := h' }) h2 hv'
  exact ⟨κ, q, tup_cmp (s := { s with heap := h' }) hκ hu hv'⟩
end
/-! ### as a rule -/
/-- the ints of the tuple at v -/
def kOf (h : Heap) : Value → List Int
  | .ref a => (match h.get? a with
    | some o => (match o.data with | .seq items _ => items.toList.map iv | _ => [])
    | none => [])
  | _ => []
theorem TupI.kOf {h : Heap} {v : Value} {ns : List Int} (x : TupI h v ns) : Ev.kOf h v = ns := by
  obtain ⟨a, items, rfl, ⟨o, ho, hc, n, hd⟩, hi⟩ := x
  unfold Ev.kOf
  simp only [ho, hd]
  exact iv_ints hi
def rSortedTT (K : PySem.W.Frag) : List V → Hp → VK → Prop := fun vs H Q => ∃ (a : Addr) (ps : List (Addr × List Int)), vs = [V.ref a] ∧ SqL K H a (ps.map fun p => V.ref p.1) ∧ (∀ p ∈ ps, SqT K H p.1 (p.2.map V.int)) ∧
  ∀ (qs : List (Addr × List Int)) (d : Addr), qs.Perm ps → qs.Pairwise (fun p q => HT.lexLt q.2 p.2 = false) → H d = none → Q (.ref d) (upd H d (.lst (qs.map fun p => V.ref p.1)))
theorem vals_refs : ∀ {ps : List (Addr × List Int)} {us : List Value}, Vals (ps.map fun p => V.ref p.1) us → us = ps.map fun p => Value.ref p.1
  | [], us, r => by
    rw [List.map_nil] at r
    cases r; rfl
  | p :: ps, us, r => by
    rw [List.map_cons] at r
    cases r with
    | cons h q =>
      cases h
      rw [List.map_cons, ← vals_refs q]
theorem refs_vals : ∀ ps : List (Addr × List Int), Vals (ps.map fun p => V.ref p.1) (ps.map fun p => Value.ref p.1)
  | [] => .nil
  | _ :: ps => .cons rfl (refs_vals ps)
theorem cr_sortedTT {X : Cx} (hu : X.A.units + 64 < cLine) : CallR X (.builtin "sorted") (rSortedTT X.K) := by
  intro pins s σ H vs us Q I r h
  obtain ⟨a, ps, rfl, hs, ht, q⟩ := h
  obtain ⟨its, rv, pl, hz⟩ := I.list hs
  obtain ⟨ob, ho, hc, n, hd⟩ := pl.isList
  rw [Vals.ref1 r]
  have ei := vals_refs rv
  have hT : ∀ p ∈ ps, TupI s.heap (.ref p.1) p.2 := fun p hp => by
    obtain ⟨it2, r2, p2, _⟩ := I.tuple (ht p hp)
    exact ⟨p.1, it2.toArray, rfl, p2, intsAre_of r2⟩
  have hv : ∀ v ∈ its, TupI s.heap v (kOf s.heap v) := fun v hm => by
    rw [ei] at hm
    obtain ⟨p, hp, rfl⟩ := List.mem_map.mp hm
    rw [(hT p hp).kOf]
    exact hT p hp
  refine sorted_coll (.inl rfl) (NtL.swo_lexL fun v => kOf s.heap v) ho hc hd (by rw [← rv.length]; exact hz) (fun h2 s' d k => ?_) fun h1 h' out e g1 g2 k1 k2 he => ?_
  · refine tups_sortable h2 (by simp only [Around.in1_units]; omega) (fun v hm => (hv v hm).keeps fun b o _ z => (k b o z).2) fun v hm z => ?_
    obtain ⟨b, items, e, ⟨o, g, _⟩, _⟩ := hv v hm
    rw [z] at e
    cases e
    exact (k _ o g).1 rfl
  · have mem : ∀ v ∈ out, ∃ p ∈ ps, v = Value.ref p.1 ∧ kOf s.heap v = p.2 := fun v hm => by
      have hm := g2.perm.mem_iff.mp hm
      rw [ei] at hm
      obtain ⟨p, hp, rfl⟩ := List.mem_map.mp hm
      exact ⟨p, hp, rfl, (hT p hp).kOf⟩
    have eps : its.map (fun v => (adO v, kOf s.heap v)) = ps := by
      rw [ei, List.map_map]
      refine (List.map_congr_left fun p hp => ?_).trans (List.map_id ps)
      show (p.1, kOf s.heap (.ref p.1)) = p
      rw [(hT p hp).kOf]
    obtain ⟨qs, hqs⟩ : ∃ qs, qs = out.map fun v => (adO v, kOf s.heap v) := ⟨_, rfl⟩
    have hp : qs.Perm ps := by
      rw [hqs, ← eps]
      exact g2.perm.map _
    have hso : qs.Pairwise (fun p q => HT.lexLt q.2 p.2 = false) := by
      rw [hqs]
      exact List.pairwise_map.mpr g1
    have eo : out = qs.map fun p => Value.ref p.1 := by
      rw [hqs, List.map_map]
      refine ((List.map_congr_left fun v hm => ?_).trans (List.map_id out)).symm
      obtain ⟨p, _, rfl, _⟩ := mem v hm
      rfl
    have hl : (qs.map fun p => V.ref p.1).length ≤ sizeLine := by
      rw [List.length_map, hp.length_eq, ← List.length_map (f := fun p : Addr × List Int => V.ref p.1)]
      exact hz
    have rvo : Vals (qs.map fun p => V.ref p.1) out := by
      rw [eo]
      exact refs_vals qs
    have I1 : Inv X pins σ H { s with heap := h1 } := I.kept (t' := s.toks) k1
    exact ⟨.ref h1.objs.size, upd H h1.objs.size (.lst (qs.map fun p => V.ref p.1)), I1.laid (t' := s.toks) k2 (Nat.le_refl _) ⟨hl, out, e, rvo, he⟩, rfl, q _ _ hp hso (I1.hok.fresh (Nat.le_refl _))⟩
/-! ### as data -/
def intsD : List D → Option (List (List Int))
  | [] => some []
  | .tup xs :: ys => (intsOf xs).bind fun ns => (intsD ys).map (ns :: ·)
  | _ => none
theorem intsD_eq : ∀ {xs : List D} {ts : List (List Int)}, intsD xs = some ts → xs = ts.map fun ns => D.tup (ns.map D.int)
  | [], ts, h => by cases h; rfl
  | .tup xs :: ys, ts, h => by
    unfold intsD at h
    cases h1 : intsOf xs with
    | none => rw [h1] at h; cases h
    | some ns =>
      cases h2 : intsD ys with
      | none => rw [h1, h2] at h; cases h
      | some tt =>
        rw [h1, h2] at h
        cases h
        rw [List.map_cons, ← intsD_eq h2, ← intsOf_eq h1]
theorem intsD_map : ∀ ts : List (List Int), intsD (ts.map fun ns => D.tup (ns.map D.int)) = some ts
  | [] => rfl
  | ns :: ts => by
    rw [List.map_cons, intsD, ints_map, intsD_map ts]; rfl
def leT (a b : List Int) : Bool := !HT.lexLt b a
def sortT (ts : List (List Int)) : List (List Int) := ts.mergeSort leT
theorem lex_total : ∀ a b : List Int, HT.lexLt a b = false → HT.lexLt b a = false → a = b
  | [], [], _, _ => rfl
  | [], b :: bs, h, _ => by rw [HT.lexLt_nil_cons] at h; cases h
  | a :: as, [], _, h => by rw [HT.lexLt_nil_cons] at h; cases h
  | a :: as, b :: bs, h1, h2 => by
    rw [HT.lexLt_cons] at h1 h2
    by_cases e : a = b
    · rw [if_pos e] at h1
      rw [if_pos e.symm] at h2
      rw [e, lex_total as bs h1 h2]
    · rw [if_neg e] at h1
      rw [if_neg fun z => e z.symm] at h2
      have a1 := of_decide_eq_false h1
      have a2 := of_decide_eq_false h2
      omega
theorem sortT_perm (ts : List (List Int)) : (sortT ts).Perm ts := List.mergeSort_perm _ _
theorem sortT_sorted (ts : List (List Int)) : (sortT ts).Pairwise fun a b => HT.lexLt b a = false := by
  have O := NtL.swo_lexL (fun x : List Int => x)
  refine (List.pairwise_mergeSort (le := leT) (fun a b c h1 h2 => ?_) (fun a b => ?_) ts).imp fun {a b} h => by
    unfold leT at h
    simpa using h
  · unfold leT at *
    rw [Bool.not_eq_true'] at *
    exact O.2 _ _ _ h1 h2
  · unfold leT
    cases h : HT.lexLt b a with
    | false => rfl
    | true =>
      have := O.1 _ _ h
      simp [this]
theorem sortT_eq {ts ms : List (List Int)} (h1 : ms.Perm ts) (h2 : ms.Pairwise fun a b => HT.lexLt b a = false) : ms = sortT ts :=
  List.Perm.eq_of_pairwise (fun a b _ _ h1 h2 => lex_total a b h2 h1) h2 (sortT_sorted ts) (h1.trans (sortT_perm ts).symm)
theorem sortT_congr {ts ms : List (List Int)} (h : ts.Perm ms) : sortT ts = sortT ms := sortT_eq ((sortT_perm ts).trans h) (sortT_sorted ts)
def gSorted3 : List D → Option RV
  | [.lst xs] => (match intsOf xs with
    | some ns => some (.fl ((sortI ns).map D.int))
    | none => (intsD xs).map fun ts => .fl ((sortT ts).map fun ns => D.tup (ns.map D.int)))
  | [.tup xs] => (intsOf xs).map fun ns => .fl ((sortI ns).map D.int)
  | _ => none
theorem rds_tups {K : PySem.W.Frag} {w : Wd} : ∀ {ts : List (List Int)} {us : List V}, RDs K w (ts.map fun ns => D.tup (ns.map D.int)) us → ∃ ps : List (Addr × List Int), us = ps.map (fun p => V.ref p.1) ∧ ps.map (·.2) = ts ∧ ∀ p ∈ ps, SqT K w.F p.1 (p.2.map V.int) ∧ RD K w (.tup (p.2.map D.int)) (.ref p.1)
  | [], us, r => by
    rw [List.map_nil] at r
    cases r
    exact ⟨[], rfl, rfl, fun p hp => (nomatch hp)⟩
  | ns :: ts, us, r => by
    rw [List.map_cons] at r
    cases r with
    | cons h t =>
      obtain ⟨ps, e1, e2, e3⟩ := rds_tups t
      have h0 := h
      cases h with
      | @tup a vs _ s r =>
        have := rds_ints r
        subst this
        refine ⟨(a, ns) :: ps, by rw [e1]; rfl, by rw [List.map_cons, e2], fun p hp => ?_⟩
        rcases List.mem_cons.mp hp with z | z
        · rw [z]; exact ⟨s, h0⟩
        · exact e3 p z
theorem rds_back {K : PySem.W.Frag} {w : Wd} : ∀ {ps : List (Addr × List Int)}, (∀ p ∈ ps, RD K w (.tup (p.2.map D.int)) (.ref p.1)) → RDs K w (ps.map fun p => D.tup (p.2.map D.int)) (ps.map fun p => V.ref p.1)
  | [], _ => .nil
  | p :: ps, h => .cons (h p (List.mem_cons_self ..)) (rds_back fun q hq => h q (List.mem_cons_of_mem _ hq))
theorem calls_sorted3 {X : Cx} (hu : X.A.units + 64 < cLine) : CallS X (.builtin "sorted") gSorted3 (fun xs H Q => rSortedI X.K xs H Q ∨ rSortedTI X.K xs H Q ∨ rSortedTT X.K xs H Q) := by
  refine ⟨CallR.or cr_sortedI (CallR.or cr_sortedTI (cr_sortedTT hu)), fun w H0 H m xs vs rv Q Wm r e q => ?_⟩
  unfold gSorted3 at e
  split at e
  · rename_i xs
    obtain ⟨v, rfl, r9⟩ := r.one
    obtain ⟨a, us, rfl, h1, h2⟩ := r9.lst Wm
    split at e
    · rename_i ns hi
      cases e
      have hx := intsOf_eq hi
      subst hx
      have := rds_ints h2
      subst this
      refine .inl ⟨a, ns, rfl, .inl (.inl h1), fun ns' p hp hs hf => ?_⟩
      rw [sortI_eq hp hs]
      exact new_lst (H0 := H0) Wm hf (rds_of_ints _) q
    · cases hi : intsD xs with
      | none => rw [hi] at e; cases e
      | some ts =>
        rw [hi] at e
        cases e
        have hx := intsD_eq hi
        subst hx
        obtain ⟨ps, rfl, e2, e3⟩ := rds_tups h2
        refine .inr (.inr ⟨a, ps, rfl, .inl (.inl h1), fun p hp => sqT_sub Wm.sub (e3 p hp).1, fun qs d hp hs hf => ?_⟩)
        have es : qs.map (·.2) = sortT ts := sortT_eq (by rw [← e2]; exact hp.map _) (List.pairwise_map.mpr hs)
        have q : PR X w H0 H Q (.fl ((sortT ts).map fun ns => D.tup (ns.map D.int))) m := q
        rw [← es, List.map_map] at q
        exact new_lst (H0 := H0) Wm hf (rds_back fun p hp' => (e3 p (hp.mem_iff.mp hp')).2) q
  · rename_i xs
    cases hi : intsOf xs with
    | none => rw [hi] at e; cases e
    | some ns =>
      rw [hi] at e
      cases e
      have hx := intsOf_eq hi
      subst hx
      obtain ⟨v, rfl, r9⟩ := r.one
      obtain ⟨a, us, rfl, h1, h2⟩ := r9.tup Wm
      have := rds_ints h2
      subst this
      refine .inr (.inl ⟨a, ns, rfl, h1, fun ns' p hp hs hf => ?_⟩)
      rw [sortI_eq hp hs]
      exact new_lst (H0 := H0) Wm hf (rds_of_ints _) q
  · cases e
theorem ev_sorted3L (ns : List Int) : gSorted3 [.lst (ns.map D.int)] = some (.fl ((sortI ns).map D.int)) := by
  show (match intsOf _ with | some ns => _ | none => _) = _
  rw [ints_map]
theorem ev_sorted3T (ns : List Int) : gSorted3 [.tup (ns.map D.int)] = some (.fl ((sortI ns).map D.int)) := by
  show (intsOf _).map _ = _
  rw [ints_map]; rfl
theorem ev_sorted3N : gSorted3 [.lst []] = some (.fl []) := by
  have := ev_sorted3L []
  simpa [sortI] using this
theorem ev_sorted3TT (ts : List (List Int)) : gSorted3 [.lst (ts.map fun ns => D.tup (ns.map D.int))] = some (.fl ((sortT ts).map fun ns => D.tup (ns.map D.int))) := by
  cases ts with
  | nil => simpa [sortT] using ev_sorted3N
  | cons t ts =>
    have h := intsD_map (t :: ts)
    show ((intsD ((t :: ts).map fun ns => D.tup (ns.map D.int))).map fun ts => RV.fl ((sortT ts).map fun ns => D.tup (ns.map D.int))) = _
    rw [h]; rfl
end Ev
/-! Ev, part W: changes of lists by simp; walks over ints. -/
namespace Ev
open PySem PySem.Spec L2
section
variable {env : Env} {m : Cells}
def kCl (c : Option Cell) : Option (List D) := match c with | some (.lst xs) => some xs | none => none
@[simp] theorem kCl1 (xs : List D) : kCl (some (.lst xs)) = some xs := nr rfl
def lgS (s : Option Slot) (m : Cells) : Option (List D) := match s with | some (.own xs) => some xs | some (.d (.ref n)) => kCl m[n]? | _ => none
@[simp] theorem lgS1 (xs : List D) : lgS (some (.own xs)) m = some xs := nr rfl
@[simp] theorem lgS2 (n : Nat) : lgS (some (.d (.ref n))) m = kCl m[n]? := nr rfl
@[simp] theorem ev_lget (i : Nat) : lget i env m = lgS env[i]? m := by
  unfold lget lgS kCl
  cases h : env[i]? with
  | none => rfl
  | some s => cases s with
    | un => rfl
    | own xs => rfl
    | d x => cases x <;> rfl
def luS (s : Option Slot) (i : Nat) (env : Env) (m : Cells) (xs : List D) : Env × Cells := match s with | some (.d (.ref n)) => (env, m.set n (.lst xs)) | _ => (env.set i (.own xs), m)
@[simp] theorem luS1 (i : Nat) (xs ys : List D) : luS (some (.own ys)) i env m xs = (env.set i (.own xs), m) := nr rfl
@[simp] theorem luS2 (i n : Nat) (xs : List D) : luS (some (.d (.ref n))) i env m xs = (env, m.set n (.lst xs)) := nr rfl
@[simp] theorem ev_lupd (i : Nat) (xs : List D) : lupd i env m xs = luS env[i]? i env m xs := nr rfl
-- append
def kAp3 (i : Nat) (env : Env) (m : Cells) (x : D) (o : Option (List D)) : Res Out := match o with
  | some xs => if xs.length < LN then .ok (.nx (lupd i env m (xs ++ [x])).1) (lupd i env m (xs ++ [x])).2 else .bot
  | none => .bot
@[simp] theorem kAp3_1 (i : Nat) (x : D) (xs : List D) : kAp3 i env m x (some xs) = if xs.length < 1000000 then .ok (.nx (lupd i env m (xs ++ [x])).1) (lupd i env m (xs ++ [x])).2 else .bot := nr rfl
def kAp2 (i : Nat) (env : Env) (r : Res D) : Res Out := r.bind fun x m1 => kAp3 i env m1 x (lget i env m1)
@[simp] theorem kAp2_1 (i : Nat) (x : D) : kAp2 i env (.ok x m) = kAp3 i env m x (lget i env m) := nr rfl
def kAp1 (b : Bool) (i : Nat) (f : SemR) (env : Env) (m : Cells) : Res Out := if b then kAp2 i env (fz f env m) else .bot
@[simp] theorem kAp1_1 (i : Nat) (f : SemR) : kAp1 true i f env m = kAp2 i env (fz f env m) := nr rfl
@[simp] theorem ev_sAppend (i : Nat) (f : SemR) : sAppend i f env m = kAp1 (lget i env m).isSome i f env m := nr rfl
-- a[i] = e
def kSI5 (i : Nat) (x : D) (env : Env) (m : Cells) (xs : List D) (o : Option Nat) : Res Out := match o with
  | some j => .ok (.nx (lupd i env m (xs.set j x)).1) (lupd i env m (xs.set j x)).2
  | none => .bot
@[simp] theorem kSI5_1 (i : Nat) (x : D) (xs : List D) (j : Nat) : kSI5 i x env m xs (some j) = .ok (.nx (lupd i env m (xs.set j x)).1) (lupd i env m (xs.set j x)).2 := nr rfl
def kSI4 (i : Nat) (x : D) (env : Env) (m : Cells) (o : Option (List D)) (k : D) : Res Out := match o, k with
  | some xs, .int k => kSI5 i x env m xs (ixN xs.length k)
  | _, _ => .bot
@[simp] theorem kSI4_1 (i : Nat) (x : D) (xs : List D) (k : Int) : kSI4 i x env m (some xs) (.int k) = kSI5 i x env m xs (ixN xs.length k) := nr rfl
def kSI3 (i : Nat) (x : D) (env : Env) (r : Res D) : Res Out := r.bind fun k m2 => kSI4 i x env m2 (lget i env m2) k
@[simp] theorem kSI3_1 (i : Nat) (x k : D) : kSI3 i x env (.ok k m) = kSI4 i x env m (lget i env m) k := nr rfl
def kSI2 (b : Bool) (i : Nat) (fi : SemR) (x : D) (env : Env) (m : Cells) : Res Out := if b then kSI3 i x env (vl fi env m) else .bot
@[simp] theorem kSI2_1 (i : Nat) (fi : SemR) (x : D) : kSI2 true i fi x env m = kSI3 i x env (vl fi env m) := nr rfl
def kSI1 (i : Nat) (fi : SemR) (env : Env) (r : Res D) : Res Out := r.bind fun x m1 => kSI2 (lget i env m1).isSome i fi x env m1
@[simp] theorem kSI1_1 (i : Nat) (fi : SemR) (x : D) : kSI1 i fi env (.ok x m) = kSI2 (lget i env m).isSome i fi x env m := nr rfl
@[simp] theorem ev_sSetItem (i : Nat) (fi fe : SemR) : sSetItem i fi fe env m = kSI1 i fi env (fz fe env m) := nr rfl
-- op=
def kAu3 (i : Nat) (env : Env) (m : Cells) (o : Option RV) : Res Out := match o with
  | some (.d z) => .ok (.nx (env.set i (.d z))) m
  | _ => .bot
@[simp] theorem kAu3_1 (i : Nat) (z : D) : kAu3 i env m (some (.d z)) = .ok (.nx (env.set i (.d z))) m := nr rfl
def kAu2 (g : D → D → Option RV) (i : Nat) (x : D) (env : Env) (r : Res D) : Res Out := r.bind fun y m1 => kAu3 i env m1 (g x y)
@[simp] theorem kAu2_1 (g : D → D → Option RV) (i : Nat) (x y : D) : kAu2 g i x env (.ok y m) = kAu3 i env m (g x y) := nr rfl
def kAu1 (g : D → D → Option RV) (i : Nat) (f : SemR) (env : Env) (m : Cells) (s : Option Slot) : Res Out := match s with
  | some (.d x) => kAu2 g i x env (vl f env m)
  | _ => .bot
@[simp] theorem kAu1_1 (g : D → D → Option RV) (i : Nat) (f : SemR) (x : D) : kAu1 g i f env m (some (.d x)) = kAu2 g i x env (vl f env m) := nr rfl
@[simp] theorem ev_sAug (g : D → D → Option RV) (i : Nat) (f : SemR) : sAug g i f env m = kAu1 g i f env m env[i]? := by
  unfold sAug kAu1
  cases h : env[i]? with
  | none => rfl
  | some s => cases s with
    | un => rfl
    | own xs => rfl
    | d x =>
      show (vl f env m).bind _ = (vl f env m).bind _
      congr 1
@[simp] theorem ev_augAdd (i j : Int) : gAugAdd (.int i) (.int j) = some (.d (.int (i + j))) := nr rfl
@[simp] theorem ev_augSub (i j : Int) : gAugSub (.int i) (.int j) = some (.d (.int (i - j))) := nr rfl
-- extend, pop
def kEx3 (i : Nat) (env : Env) (m : Cells) (x : D) (o : Option (List D)) : Res Out := match o, x with
  | some xs, .lst ys => if xs.length + ys.length ≤ LN then .ok (.nx (lupd i env m (xs ++ ys)).1) (lupd i env m (xs ++ ys)).2 else .bot
  | _, _ => .bot
@[simp] theorem kEx3_1 (i : Nat) (xs ys : List D) : kEx3 i env m (.lst ys) (some xs) = if xs.length + ys.length ≤ 1000000 then .ok (.nx (lupd i env m (xs ++ ys)).1) (lupd i env m (xs ++ ys)).2 else .bot := nr rfl
def kEx2 (i : Nat) (env : Env) (r : Res D) : Res Out := r.bind fun x m1 => kEx3 i env m1 x (lget i env m1)
@[simp] theorem kEx2_1 (i : Nat) (x : D) : kEx2 i env (.ok x m) = kEx3 i env m x (lget i env m) := nr rfl
def kEx1 (b : Bool) (i : Nat) (f : SemR) (env : Env) (m : Cells) : Res Out := if b then kEx2 i env (vl f env m) else .bot
@[simp] theorem kEx1_1 (i : Nat) (f : SemR) : kEx1 true i f env m = kEx2 i env (vl f env m) := nr rfl
@[simp] theorem ev_sExtend (i : Nat) (f : SemR) : sExtend i f env m = kEx1 (lget i env m).isSome i f env m := by
  show (if _ then _ else _) = (if _ then _ else _)
  split
  · show (vl f env m).bind _ = (vl f env m).bind _
    congr 1
  · rfl
def kPo (i : Nat) (env : Env) (m : Cells) (o : Option (List D)) : Res Out := match o with
  | some xs => if xs.isEmpty then .bot else .ok (.nx (lupd i env m xs.dropLast).1) (lupd i env m xs.dropLast).2
  | none => .bot
@[simp] theorem kPo1 (i : Nat) (xs : List D) : kPo i env m (some xs) = if xs.isEmpty then .bot else .ok (.nx (lupd i env m xs.dropLast).1) (lupd i env m xs.dropLast).2 := nr rfl
@[simp] theorem ev_sPop (i : Nat) : sPop i env m = kPo i env m (lget i env m) := nr rfl
-- what is walked
def kZip (r : Res (List D)) : Res (List D) := r.bind fun xs m1 => eZip (fun _ _ => .ok xs m1) [] []
@[simp] theorem ev_eZip (as : SemDs) : eZip as env m = kZip (as env m) := by
  unfold kZip eZip
  cases as env m <;> rfl
@[simp] theorem kZipL (xs ys : List D) : kZip (.ok [.lst xs, .lst ys] m) = .ok (zipD xs ys) m := nr rfl
@[simp] theorem kZipT (xs ys : List D) : kZip (.ok [.tup xs, .tup ys] m) = .ok (zipD xs ys) m := nr rfl
def kEn (r : Res D) : Res (List D) := r.bind fun x m1 => eEnum (fun _ _ => .ok (.d x) m1) [] []
@[simp] theorem ev_eEnum (f : SemR) : eEnum f env m = kEn (fz f env m) := by
  unfold kEn eEnum
  cases fz f env m <;> rfl
@[simp] theorem kEnL (xs : List D) : kEn (.ok (.lst xs) m) = .ok (enumD xs) m := nr rfl
@[simp] theorem kEnT (xs : List D) : kEn (.ok (.tup xs) m) = .ok (enumD xs) m := nr rfl
def kRv (r : Res D) : Res (List D) := r.bind fun x m1 => eRev (fun _ _ => .ok (.d x) m1) [] []
@[simp] theorem ev_eRev (f : SemR) : eRev f env m = kRv (fz f env m) := by
  unfold kRv eRev
  cases fz f env m <;> rfl
@[simp] theorem kRvL (xs : List D) : kRv (.ok (.lst xs) m) = .ok xs.reverse m := nr rfl
@[simp] theorem kRvT (xs : List D) : kRv (.ok (.tup xs) m) = .ok xs.reverse m := nr rfl
end
/-! ### loops -/
theorem for_take {α : Type} {g : SemG} {b : SemS} {ds : List D} (ns : List α) (hl : ds.length = ns.length) (I : List α → Env → Cells → Prop)
    (h : ∀ (j : Nat) (x : α) (d : D), ns[j]? = some x → ds[j]? = some d → ∀ env m, I (ns.take j) env m → ∃ e1 e2 m2, g d env = some e1 ∧ b e1 m = .ok (.nx e2) m2 ∧ I (ns.take j ++ [x]) e2 m2)
    {env : Env} {m : Cells} (h0 : I [] env m) : ∃ e m', forL g b ds env m = .ok (.nx e) m' ∧ I ns e m' := by
  obtain ⟨e, m', k1, k2⟩ := for_inv (g := g) (b := b) (fun k env m => I (ns.take k) env m) (ds := ds) (k := 0) (env := env) (m := m) (fun j d env m hj hi => by
    rw [Nat.zero_add] at hi ⊢
    have hlt : j < ds.length := (List.getElem?_eq_some_iff.mp hj).1
    have hlt2 : j < ns.length := by omega
    have hx : ns[j]? = some ns[j] := List.getElem?_eq_getElem hlt2
    obtain ⟨e1, e2, m2, h1, h2, h3⟩ := h j ns[j] d hx hj env m hi
    refine ⟨e1, e2, m2, h1, h2, ?_⟩
    rw [← List.take_append_getElem hlt2]
    exact h3) (by simpa using h0)
  refine ⟨e, m', k1, ?_⟩
  rw [Nat.zero_add, hl, List.take_length] at k2
  exact k2
theorem split_at {α : Type} {ns : List α} {j : Nat} {x : α} (h : ns[j]? = some x) : ns = ns.take j ++ x :: ns.drop (j + 1) ∧ (ns.take j).length = j := by
  have hlt : j < ns.length := (List.getElem?_eq_some_iff.mp h).1
  have e : ns[j] = x := (List.getElem?_eq_some_iff.mp h).2
  refine ⟨?_, by rw [List.length_take]; omega⟩
  rw [← e, ← List.drop_eq_getElem_cons hlt, List.take_append_drop]
/-- for x in ints -/
theorem for_ints {g : SemG} {b : SemS} (ns : List Int) (I : List Int → Env → Cells → Prop)
    (h : ∀ (p : List Int) (x : Int) (q : List Int), ns = p ++ x :: q → ∀ env m, I p env m → ∃ e1 e2 m2, g (.int x) env = some e1 ∧ b e1 m = .ok (.nx e2) m2 ∧ I (p ++ [x]) e2 m2)
    {env : Env} {m : Cells} (h0 : I [] env m) : ∃ e m', forL g b (ns.map D.int) env m = .ok (.nx e) m' ∧ I ns e m' :=
  for_take ns (List.length_map ..) I (fun j x d hx hd env m hi => by
    rw [List.getElem?_map, hx] at hd
    cases hd
    exact h _ x _ (split_at hx).1 env m hi) h0
theorem enum_get (ns : List Int) (j : Nat) (x : Int) (d : D) (hx : ns[j]? = some x) (hd : (enumD (ns.map D.int))[j]? = some d) : d = .tup [.int j, .int x] := by
  have hlt : j < ns.length := (List.getElem?_eq_some_iff.mp hx).1
  unfold enumD zipD at hd
  rw [List.getElem?_zipWith, rangeD_get, List.length_map, if_pos (by omega), List.getElem?_map, hx] at hd
  cases hd
  rw [Int.zero_add]
/-- for i, x in enumerate(ints) -/
theorem for_enum {g : SemG} {b : SemS} (ns : List Int) (I : List Int → Env → Cells → Prop)
    (h : ∀ (p : List Int) (x : Int) (q : List Int), ns = p ++ x :: q → ∀ env m, I p env m → ∃ e1 e2 m2, g (.tup [.int p.length, .int x]) env = some e1 ∧ b e1 m = .ok (.nx e2) m2 ∧ I (p ++ [x]) e2 m2)
    {env : Env} {m : Cells} (h0 : I [] env m) : ∃ e m', forL g b (enumD (ns.map D.int)) env m = .ok (.nx e) m' ∧ I ns e m' :=
  for_take ns (by rw [enumD_len, List.length_map]) I (fun j x d hx hd env m hi => by
    obtain rfl := enum_get ns j x d hx hd
    have t := split_at hx
    have := h _ x _ t.1 env m hi
    rw [t.2] at this
    exact this) h0
theorem zip_get (ns ms : List Int) (j : Nat) (x : Int × Int) (d : D) (hx : (ns.zip ms)[j]? = some x) (hd : (zipD (ns.map D.int) (ms.map D.int))[j]? = some d) : d = .tup [.int x.1, .int x.2] := by
  unfold zipD at hd
  unfold List.zip at hx
  rw [List.getElem?_zipWith] at hd hx
  rw [List.getElem?_map, List.getElem?_map] at hd
  cases h1 : ns[j]? with
  | none => rw [h1] at hx; cases hx
  | some a =>
    cases h2 : ms[j]? with
    | none => rw [h1, h2] at hx; cases hx
    | some b =>
      rw [h1, h2] at hx hd
      cases hx; cases hd
      rfl
/-- for x, y in zip(ints, ints) -/
theorem for_zip {g : SemG} {b : SemS} (ns ms : List Int) (I : List (Int × Int) → Env → Cells → Prop)
    (h : ∀ (p : List (Int × Int)) (x y : Int) (q : List (Int × Int)), ns.zip ms = p ++ (x, y) :: q → ∀ env m, I p env m → ∃ e1 e2 m2, g (.tup [.int x, .int y]) env = some e1 ∧ b e1 m = .ok (.nx e2) m2 ∧ I (p ++ [(x, y)]) e2 m2)
    {env : Env} {m : Cells} (h0 : I [] env m) : ∃ e m', forL g b (zipD (ns.map D.int) (ms.map D.int)) env m = .ok (.nx e) m' ∧ I (ns.zip ms) e m' :=
  for_take (ns.zip ms) (by rw [zipD_len, List.length_map, List.length_map, List.length_zip]) I (fun j x d hx hd env m hi => by
    obtain rfl := zip_get ns ms j x d hx hd
    exact h _ x.1 x.2 _ (split_at hx).1 env m hi) h0
/-- the ints of a range -/
def rgI (lo hi : Int) : List Int := (List.range (hi - lo).toNat).map fun i => lo + (i : Nat)
theorem rangeD_ints (lo hi : Int) : rangeD lo hi = (rgI lo hi).map D.int := by
  unfold rangeD rgI
  rw [List.map_map]; rfl
theorem rgI_len (lo hi : Int) : (rgI lo hi).length = (hi - lo).toNat := by unfold rgI; rw [List.length_map, List.length_range]
theorem rgI_mem {lo hi x : Int} : x ∈ rgI lo hi ↔ lo ≤ x ∧ x < hi := by
  unfold rgI
  constructor
  · intro h
    obtain ⟨j, hj, rfl⟩ := List.mem_map.mp h
    have := List.mem_range.mp hj
    omega
  · intro h
    exact List.mem_map.mpr ⟨(x - lo).toNat, List.mem_range.mpr (by omega), by omega⟩
theorem rgI_nodup (lo hi : Int) : (rgI lo hi).Nodup := by
  unfold rgI
  refine List.Pairwise.map _ (fun a b h => ?_) List.nodup_range
  intro z
  exact h (by omega)
theorem rgI_sorted (lo hi : Int) : (rgI lo hi).Pairwise (· ≤ ·) := by
  unfold rgI
  rw [List.pairwise_map]
  exact List.pairwise_lt_range.imp fun h => by omega
theorem rgI_nat (n : Nat) : rgI 0 n = (List.range n).map fun (i : Nat) => (i : Int) := by
  unfold rgI
  have : ((n : Int) - 0).toNat = n := by omega
  rw [this]
  exact List.map_congr_left fun i _ => by omega
/-- for x in range(lo, hi): a count -/
theorem for_range {g : SemG} {b : SemS} (lo hi : Int) (I : Nat → Env → Cells → Prop)
    (h : ∀ (j : Nat), lo + j < hi → ∀ env m, I j env m → ∃ e1 e2 m2, g (.int (lo + j)) env = some e1 ∧ b e1 m = .ok (.nx e2) m2 ∧ I (j + 1) e2 m2)
    {env : Env} {m : Cells} (h0 : I 0 env m) : ∃ e m', forL g b (rangeD lo hi) env m = .ok (.nx e) m' ∧ I (hi - lo).toNat e m' := by
  obtain ⟨e, m', k1, k2⟩ := for_inv (g := g) (b := b) I (ds := rangeD lo hi) (k := 0) (env := env) (m := m) (fun j d env m hj hi => by
    rw [Nat.zero_add] at hi ⊢
    rw [rangeD_get] at hj
    split at hj
    · cases hj
      exact h j (by omega) env m hi
    · cases hj) h0
  rw [Nat.zero_add, rangeD_len] at k2
  exact ⟨e, m', k1, k2⟩
/-- for x in reversed(range(n)) -/
theorem for_down {g : SemG} {b : SemS} (n : Nat) (I : Nat → Env → Cells → Prop)
    (h : ∀ (j : Nat), j < n → ∀ env m, I (j + 1) env m → ∃ e1 e2 m2, g (.int j) env = some e1 ∧ b e1 m = .ok (.nx e2) m2 ∧ I j e2 m2)
    {env : Env} {m : Cells} (h0 : I n env m) : ∃ e m', forL g b (rangeD 0 n).reverse env m = .ok (.nx e) m' ∧ I 0 e m' := by
  have l : (rangeD 0 n).length = n := by rw [rangeD_len]; omega
  obtain ⟨e, m', k1, k2⟩ := for_inv (g := g) (b := b) (fun k env m => I (n - k) env m) (ds := (rangeD 0 n).reverse) (k := 0) (env := env) (m := m) (fun j d env m hj hi => by
    rw [Nat.zero_add] at hi ⊢
    have hlt : j < n := by have := (List.getElem?_eq_some_iff.mp hj).1; rw [List.length_reverse, l] at this; exact this
    rw [List.getElem?_reverse (by rw [l]; exact hlt), l, rangeD_get, if_pos (by omega)] at hj
    cases hj
    have := h (n - 1 - j) (by omega) env m (by rw [show n - 1 - j + 1 = n - j by omega]; exact hi)
    rw [Int.zero_add, show n - (j + 1) = n - 1 - j by omega]
    exact this) (by simpa using h0)
  rw [Nat.zero_add, List.length_reverse, l, Nat.sub_self] at k2
  exact ⟨e, m', k1, k2⟩
/-! ### slices -/
theorem cut_to {α : Type} (xs : List α) (k : Nat) (h : k ≤ xs.length) : cutD xs none (some (k : Int)) = xs.take k := by
  unfold cutD
  rw [HT.sIx_none, HT.sIx_nat, List.drop_zero, Nat.min_eq_left h, Nat.sub_zero]
theorem cut_from {α : Type} (xs : List α) (k : Nat) : cutD xs (some (k : Int)) none = xs.drop k := by
  unfold cutD
  rw [HT.sIx_none, HT.sIx_nat, ← List.length_drop, List.take_length]
  rcases Nat.le_total k xs.length with h | h
  · rw [Nat.min_eq_left h]
  · rw [Nat.min_eq_right h, List.drop_length, List.drop_eq_nil_of_le h]
theorem cut_to' {α : Type} (xs : List α) {i : Int} (h0 : 0 ≤ i) (h : i ≤ xs.length) : cutD xs none (some i) = xs.take i.toNat := by
  have e : i = (i.toNat : Int) := by omega
  rw [e, cut_to xs _ (by omega)]
  rfl
theorem cut_all {α : Type} (xs : List α) : cutD xs none none = xs := by
  unfold cutD
  rw [HT.sIx_none, HT.sIx_none]
  simp
/-! ### comprehensions -/
theorem comp_list {α : Type} {i : Nat} {elt : SemR} {env : Env} {m : Cells} (emb : α → D) {F : α → D} : ∀ (xs : List α), (∀ x ∈ xs, fz elt (env.set i (.d (emb x))) m = .ok (F x) m) → compL (gSet i) bYes elt env (xs.map emb) m = .ok (xs.map F) m
  | [], _ => rfl
  | x :: xs, h => by
    show (noX (fz elt (env.set i (.d (emb x))) m)).bind _ = _
    rw [h x (List.mem_cons_self ..)]
    show (compL (gSet i) bYes elt env (xs.map emb) m).bind _ = _
    rw [comp_list emb xs fun y hy => h y (List.mem_cons_of_mem _ hy)]
    rfl
theorem comp_list_if {α : Type} {i : Nat} {c : SemB} {elt : SemR} {env : Env} {m : Cells} (emb : α → D) {P : α → Bool} {F : α → D} : ∀ (xs : List α), (∀ x ∈ xs, c (env.set i (.d (emb x))) m = .ok (P x) m) → (∀ x ∈ xs, P x = true → fz elt (env.set i (.d (emb x))) m = .ok (F x) m) → compL (gSet i) c elt env (xs.map emb) m = .ok ((xs.filter P).map F) m
  | [], _, _ => rfl
  | x :: xs, h, h' => by
    have t := comp_list_if emb xs (fun y hy => h y (List.mem_cons_of_mem _ hy)) fun y hy => h' y (List.mem_cons_of_mem _ hy)
    show (noX (c (env.set i (.d (emb x))) m)).bind _ = _
    rw [h x (List.mem_cons_self ..)]
    show (if P x = true then _ else _) = _
    by_cases hp : P x = true
    · rw [if_pos hp, h' x (List.mem_cons_self ..) hp]
      show (compL (gSet i) c elt env (xs.map emb) m).bind _ = _
      rw [t, List.filter_cons_of_pos hp]
      rfl
    · rw [if_neg hp, t, List.filter_cons_of_neg hp]
/-- over pairs: the target's slots are written by e -/
theorem comp_tup {α : Type} {is : List Nat} {elt : SemR} {env : Env} {m : Cells} (emb : α → D) (e : α → Env) {F : α → D} : ∀ (xs : List α), (∀ x ∈ xs, gTupS is (emb x) env = some (e x) ∧ fz elt (e x) m = .ok (F x) m) → compL (gTupS is) bYes elt env (xs.map emb) m = .ok (xs.map F) m
  | [], _ => rfl
  | x :: xs, h => by
    obtain ⟨h1, h2⟩ := h x (List.mem_cons_self ..)
    have t := comp_tup emb e xs fun y hy => h y (List.mem_cons_of_mem _ hy)
    rw [List.map_cons]
    dsimp only [compL]
    rw [h1]
    show (noX (fz elt (e x) m)).bind _ = _
    rw [h2]
    show (compL (gTupS is) bYes elt env (xs.map emb) m).bind _ = _
    rw [t]
    rfl
theorem zipD_ints (ns ms : List Int) : zipD (ns.map D.int) (ms.map D.int) = (ns.zip ms).map fun x => D.tup [.int x.1, .int x.2] := by
  unfold zipD List.zip
  rw [List.zipWith_map, List.map_zipWith]
theorem enumD_ints (ns : List Int) : enumD (ns.map D.int) = (ns.zipIdx).map fun x => D.tup [.int x.2, .int x.1] := by
  apply List.ext_getElem?
  intro j
  rw [List.getElem?_map, List.getElem?_zipIdx]
  cases h : ns[j]? with
  | none =>
    rw [List.getElem?_eq_none (by rw [enumD_len, List.length_map]; exact List.getElem?_eq_none_iff.mp h)]
    simp
  | some x =>
    have hlt : j < ns.length := (List.getElem?_eq_some_iff.mp h).1
    have : j < (enumD (ns.map D.int)).length := by rw [enumD_len, List.length_map]; exact hlt
    rw [List.getElem?_eq_getElem this]
    rw [enum_get ns j x _ h (List.getElem?_eq_getElem this)]
    simp
end Ev
/-! Ev: zip of a list and a tuple, either way. b = true: a tuple. -/
namespace EvZip
open PySem PySem.Spec PyProof.Rows L2 RZ
open PySem.Sem (wp)
def Itr (b : Bool) (h : Heap) (it l : Addr) (i : Nat) : Prop := if b = true then h.IsTupleIter it l i else h.IsListIter it l i
def Sq (b : Bool) (h : Heap) (l : Addr) (xs : Array Value) : Prop := if b = true then h.IsTuple l xs else h.IsList l xs
theorem Itr.ext {b : Bool} {h h' : Heap} {it l c : Addr} {i : Nat} (x : Itr b h it l i) (s : Heap.ExtBut c h h') (n : it ≠ c) : Itr b h' it l i := by
  cases b
  · exact Heap.IsListIter.extBut (show h.IsListIter it l i from x) s n
  · exact Heap.IsTupleIter.extBut (show h.IsTupleIter it l i from x) s n
theorem Itr.at {b : Bool} {h h' : Heap} {it l : Addr} {i : Nat} (x : Itr b h it l i) (e : ∀ o, h.get? it = some o → h'.get? it = some o) : Itr b h' it l i := by
  cases b
  · exact Heap.IsListIter.at (show h.IsListIter it l i from x) e
  · exact Heap.IsTupleIter.at (show h.IsTupleIter it l i from x) e
theorem Itr.obj {b : Bool} {h : Heap} {it l : Addr} {i : Nat} (x : Itr b h it l i) : ∃ o, h.get? it = some o ∧ ∃ fs, o.data = .fields fs := by
  cases b
  · obtain ⟨o, e, _, d⟩ := (show h.IsListIter it l i from x)
    exact ⟨o, e, _, d⟩
  · obtain ⟨o, e, _, d⟩ := (show h.IsTupleIter it l i from x)
    exact ⟨o, e, _, d⟩
theorem Sq.ext {b : Bool} {h h' : Heap} {l c : Addr} {xs : Array Value} (x : Sq b h l xs) (s : Heap.ExtBut c h h') (n : l ≠ c) : Sq b h' l xs := by
  cases b
  · exact Heap.IsList.extBut (show h.IsList l xs from x) s n
  · exact Heap.IsTuple.extBut (show h.IsTuple l xs from x) s n
theorem Sq.lt {b : Bool} {h : Heap} {l : Addr} {xs : Array Value} (x : Sq b h l xs) : l < h.objs.size := by
  cases b
  · obtain ⟨o, e, _⟩ := (show h.IsList l xs from x)
    exact Heap.lt_size e
  · obtain ⟨o, e, _⟩ := (show h.IsTuple l xs from x)
    exact Heap.lt_size e
section
variable {prog : Program} {w : World} {A : Around} {E : Value → Shared → Prop} {s : Shared}
theorem next_item {b : Bool} {it l : Addr} {i : Nat} {xs : Array Value} {x : Value} {Q : Value → Shared → Prop} (hi : Itr b s.heap it l i) (hl : Sq b s.heap l xs) (hx : xs[i]? = some x)
    (q : ∀ h', Itr b h' it l (i + 1) → Heap.SameBut it s.heap h' → Q x { s with heap := h' }) : wpAny (model prog w) A (Builtin.SmallTypes.nextOf (.ref it)) Q E s := by
  cases b
  · exact wpAny_nextOf_list_item (show s.heap.IsListIter it l i from hi) (show s.heap.IsList l xs from hl) hx q
  · exact nextOf_tuple_item (show s.heap.IsTupleIter it l i from hi) (show s.heap.IsTuple l xs from hl) hx q
theorem next_end {b : Bool} {it l : Addr} {i : Nat} {xs : Array Value} {Q : Value → Shared → Prop} (hh : A.handled = none) (hi : Itr b s.heap it l i) (hl : Sq b s.heap l xs) (hx : xs[i]? = none)
    (q : ∀ h' e, Heap.ExtBut it s.heap h' → (∃ o, h'.get? e = some o ∧ o.cls = .type "StopIteration") → E (.ref e) { s with heap := h' }) : wpAny (model prog w) A (Builtin.SmallTypes.nextOf (.ref it)) Q E s := by
  cases b
  · exact wpAny_nextOf_list_end hh (show s.heap.IsListIter it l i from hi) (show s.heap.IsList l xs from hl) hx q
  · exact nextOf_tuple_end hh (show s.heap.IsTupleIter it l i from hi) (show s.heap.IsTuple l xs from hl) hx q
theorem zip_item {p q : Bool} {z TI TO i1 i2 l1 l2 : Addr} {k1 k2 : Nat} {xs ys : Array Value} {x y a b : Value} {Q : Value → Shared → Prop} (D : ZipApart z TI TO i1 i2 l1 l2)
    (hz : IsZip s.heap z TI TO .none) (hTI : IsPair s.heap TI (.ref i1) (.ref i2)) (hTO : IsPair s.heap TO a b)
    (h1 : Itr p s.heap i1 l1 k1) (h2 : Itr q s.heap i2 l2 k2) (hl1 : Sq p s.heap l1 xs) (hl2 : Sq q s.heap l2 ys) (hx : xs[k1]? = some x) (hy : ys[k2]? = some y)
    (hQ : ∀ h', IsZip h' z TI TO (rawInt s.heap.objs.size) → IsPair h' TO x y → Itr p h' i1 l1 (k1 + 1) → Itr q h' i2 l2 (k2 + 1) → IsPair h' s.heap.objs.size x y → h'.objs.size = s.heap.objs.size + 1 →
      (∀ c o, c ≠ z → c ≠ TO → c ≠ i1 → c ≠ i2 → s.heap.get? c = some o → h'.get? c = some o) → Q (.ref s.heap.objs.size) { s with heap := h' }) :
    wpAny (model prog w) A (Builtin.«zip.__next__» ⟨[.ref z], []⟩) (fun fin s' => ∃ v, fin = .done (.ret v) ∧ Q v s') E s := by
  show wpAny _ _ (field (.ref z) 2 >>= _) _ _ _
  refine wpAny_bind (wpAny_field hz rfl (x := .bool false) rfl ?_)
  show wpAny _ _ (field (.ref z) 3 >>= _) _ _ _
  refine wpAny_bind (wpAny_field hz rfl (x := .ref TI) rfl (wpAny_bind (wpAny_seqItems hTI rfl ?_)))
  show wpAny _ _ (Builtin.SmallTypes.ownedTupleIsFree (.ref z) >>= _) _ _ _
  refine wpAny_bind ?_
  unfold Builtin.SmallTypes.ownedTupleIsFree
  refine wpAny_bind (wpAny_field hz rfl (x := .none) rfl (wpAny_pure ?_))
  simp only [if_true]
  refine wpAny_bind (wpAny_rule (wpAny_bind (wpAny_field hz rfl (x := .ref TO) rfl (wpAny_bind (wpAny_setField_rec hz (by simp) fun g1 z1 s1 => ?_)))))
  replace z1 : IsZip g1 z TI TO .ellipsis := z1
  refine wpAny_bind ?_
  simp only [List.zipIdx_cons, List.zipIdx_nil, List.forIn_cons, List.forIn_nil]
  refine wpAny_bind (wpAny_bind (wpAny_onRaise ?_))
  show wpAny _ _ (Builtin.SmallTypes.nextOf (.ref i1) >>= _) _ _ _
  refine wpAny_bind (next_item (h1.ext s1.extBut D.i1z) (hl1.ext s1.extBut D.l1z) hx fun g2 a2 s2 => wpAny_pure ?_)
  have t2 : IsPair g2 TO a b := s2.extBut _ _ D.TOi1 (s1.extBut _ _ D.TOz hTO)
  refine wpAny_bind (wpAny_seqItems t2 rfl (wpAny_bind (wpAny_updateSeq_pair t2 fun g3 t3 s3 => ?_)))
  replace t3 : IsPair g3 TO x b := t3
  refine wpAny_bind (wpAny_letGo (wpAny_pure (wpAny_bind (wpAny_bind (wpAny_onRaise ?_)))))
  show wpAny _ _ (Builtin.SmallTypes.nextOf (.ref i2) >>= _) _ _ _
  refine wpAny_bind (next_item (((h2.ext s1.extBut D.i2z).ext s2.extBut D.i12.symm).ext s3.extBut D.TOi2.symm) (((hl2.ext s1.extBut D.l2z).ext s2.extBut D.l2i1).ext s3.extBut D.l2TO) hy fun g4 a4 s4 => wpAny_pure ?_)
  have t4 : IsPair g4 TO x b := s4.extBut _ _ D.TOi2 t3
  refine wpAny_bind (wpAny_seqItems t4 rfl (wpAny_bind (wpAny_updateSeq_pair t4 fun g5 t5 s5 => ?_)))
  replace t5 : IsPair g5 TO x y := t5
  refine wpAny_bind (wpAny_letGo (wpAny_pure (wpAny_pure (wpAny_bind (wpAny_seqItems t5 rfl (wpAny_bind (wpAny_newTuple ?_)))))))
  have n5 : g5.objs.size = s.heap.objs.size := by rw [s5.1, s4.1, s3.1, s2.1, s1.1]
  have z5 : IsZip g5 z TI TO .ellipsis := s5.extBut _ _ D.TOz.symm (s4.extBut _ _ D.i2z.symm (s3.extBut _ _ D.TOz.symm (s2.extBut _ _ D.i1z.symm z1)))
  have k5 : ∀ c o, c ≠ z → c ≠ TO → c ≠ i1 → c ≠ i2 → s.heap.get? c = some o → g5.get? c = some o := fun c o c1 c2 c3 c4 e =>
    s5.extBut _ _ c2 (s4.extBut _ _ c4 (s3.extBut _ _ c2 (s2.extBut _ _ c3 (s1.extBut _ _ c1 e))))
  have r1 : Itr p g5 i1 l1 (k1 + 1) := ((a2.ext s3.extBut D.TOi1.symm).ext s4.extBut D.i12).ext s5.extBut D.TOi1.symm
  have r2 : Itr q g5 i2 l2 (k2 + 1) := a4.ext s5.extBut D.TOi2.symm
  have lz : z < g5.objs.size := Heap.lt_size z5
  show wpAny _ _ (Builtin.SmallTypes.ownedTupleHandOut (.ref z) (.ref g5.objs.size) >>= _) _ _ _
  refine wpAny_bind ?_
  unfold Builtin.SmallTypes.ownedTupleHandOut
  have z6 : IsZip (g5.push { cls := .type "tuple", data := .seq #[x, y] }) z TI TO .ellipsis := Heap.get?_push_of_some _ z5
  refine wpAny_bind (wpAny_setField_rec z6 (by simp) fun g7 z7 s7 => ?_)
  replace z7 : IsZip g7 z TI TO (rawInt g5.objs.size) := z7
  refine wpAny_setField_rec z7 (by simp) fun g8 z8 s8 => ?_
  replace z8 : IsZip g8 z TI TO (rawInt g5.objs.size) := z8
  have up : ∀ c o, c ≠ z → g5.get? c = some o → g8.get? c = some o := fun c o c1 e => s8.extBut _ _ c1 (s7.extBut _ _ c1 (Heap.get?_push_of_some _ e))
  have t8 : IsPair g8 g5.objs.size x y := s8.extBut _ _ (Nat.ne_of_gt lz) (s7.extBut _ _ (Nat.ne_of_gt lz) (Heap.get?_push_size _ rfl))
  have n8 : g8.objs.size = g5.objs.size + 1 := by rw [s8.1, s7.1, Heap.size_push]
  rw [n5] at z8 t8 n8
  refine wpAny_pure ⟨_, rfl, ?_⟩
  show Q (.ref g5.objs.size) _
  rw [n5]
  exact hQ g8 z8 (up _ _ D.TOz t5) (r1.at fun o e => up _ o D.i1z e) (r2.at fun o e => up _ o D.i2z e) t8 n8 fun c o c1 c2 c3 c4 e => up c o c1 (k5 c o c1 c2 c3 c4 e)
theorem zip_end {p q : Bool} {z TI TO i1 i2 l1 l2 : Addr} {k1 k2 : Nat} {xs ys : Array Value} {a b : Value} {Q : Fin → Shared → Prop} (hh : A.handled = none) (D : ZipApart z TI TO i1 i2 l1 l2)
    (hz : IsZip s.heap z TI TO .none) (hTI : IsPair s.heap TI (.ref i1) (.ref i2)) (hTO : IsPair s.heap TO a b)
    (h1 : Itr p s.heap i1 l1 k1) (h2 : Itr q s.heap i2 l2 k2) (hl1 : Sq p s.heap l1 xs) (hl2 : Sq q s.heap l2 ys) (hend : xs[k1]? = none ∨ ys[k2]? = none)
    (hE : ∀ h' e, (∀ c o, c ≠ z → c ≠ TO → c ≠ i1 → c ≠ i2 → s.heap.get? c = some o → h'.get? c = some o) → (∃ o, h'.get? e = some o ∧ o.cls = .type "StopIteration") → E (.ref e) { s with heap := h' }) :
    wpAny (model prog w) A (Builtin.«zip.__next__» ⟨[.ref z], []⟩) Q E s := by
  show wpAny _ _ (field (.ref z) 2 >>= _) _ _ _
  refine wpAny_bind (wpAny_field hz rfl (x := .bool false) rfl ?_)
  show wpAny _ _ (field (.ref z) 3 >>= _) _ _ _
  refine wpAny_bind (wpAny_field hz rfl (x := .ref TI) rfl (wpAny_bind (wpAny_seqItems hTI rfl ?_)))
  show wpAny _ _ (Builtin.SmallTypes.ownedTupleIsFree (.ref z) >>= _) _ _ _
  refine wpAny_bind ?_
  unfold Builtin.SmallTypes.ownedTupleIsFree
  refine wpAny_bind (wpAny_field hz rfl (x := .none) rfl (wpAny_pure ?_))
  simp only [if_true]
  refine wpAny_bind (wpAny_rule (wpAny_bind (wpAny_field hz rfl (x := .ref TO) rfl (wpAny_bind (wpAny_setField_rec hz (by simp) fun g1 z1 s1 => ?_)))))
  replace z1 : IsZip g1 z TI TO .ellipsis := z1
  refine wpAny_bind ?_
  simp only [List.zipIdx_cons, List.zipIdx_nil, List.forIn_cons, List.forIn_nil]
  refine wpAny_bind (wpAny_bind (wpAny_onRaise ?_))
  show wpAny _ _ (Builtin.SmallTypes.nextOf (.ref i1) >>= _) _ _ _
  cases hx : xs[k1]? with
  | none =>
    refine wpAny_bind (next_end hh (h1.ext s1.extBut D.i1z) (hl1.ext s1.extBut D.l1z) hx fun g2 e s2 he => ?_)
    obtain ⟨oe, hoe, hce⟩ := he
    have z2 : IsZip g2 z TI TO .ellipsis := s2 _ _ D.i1z.symm z1
    have ne : e ≠ z := fun x => by subst x; rw [z2] at hoe; cases hoe; simp at hce
    exact wpAny_setField_rec z2 (by simp) fun g3 _ s3 => hE g3 e (fun c o c1 _ c3 _ x => s3.extBut _ _ c1 (s2 _ _ c3 (s1.extBut _ _ c1 x))) ⟨oe, s3.extBut _ _ ne hoe, hce⟩
  | some x =>
    have hy : ys[k2]? = none := by rcases hend with h | h; rw [hx] at h; cases h; exact h
    refine wpAny_bind (next_item (h1.ext s1.extBut D.i1z) (hl1.ext s1.extBut D.l1z) hx fun g2 a2 s2 => wpAny_pure ?_)
    have t2 : IsPair g2 TO a b := s2.extBut _ _ D.TOi1 (s1.extBut _ _ D.TOz hTO)
    refine wpAny_bind (wpAny_seqItems t2 rfl (wpAny_bind (wpAny_updateSeq_pair t2 fun g3 t3 s3 => ?_)))
    refine wpAny_bind (wpAny_letGo (wpAny_pure (wpAny_bind (wpAny_bind (wpAny_onRaise ?_)))))
    show wpAny _ _ (Builtin.SmallTypes.nextOf (.ref i2) >>= _) _ _ _
    refine wpAny_bind (next_end hh (((h2.ext s1.extBut D.i2z).ext s2.extBut D.i12.symm).ext s3.extBut D.TOi2.symm) (((hl2.ext s1.extBut D.l2z).ext s2.extBut D.l2i1).ext s3.extBut D.l2TO) hy fun g4 e s4 he => ?_)
    obtain ⟨oe, hoe, hce⟩ := he
    have z4 : IsZip g4 z TI TO .ellipsis := s4 _ _ D.i2z.symm (s3.extBut _ _ D.TOz.symm (s2.extBut _ _ D.i1z.symm z1))
    have ne : e ≠ z := fun x => by subst x; rw [z4] at hoe; cases hoe; simp at hce
    exact wpAny_setField_rec z4 (by simp) fun g5 _ s5 => hE g5 e (fun c o c1 c2 c3 c4 x => s5.extBut _ _ c1 (s4 _ _ c4 (s3.extBut _ _ c2 (s2.extBut _ _ c3 (s1.extBut _ _ c1 x))))) ⟨oe, s5.extBut _ _ ne hoe, hce⟩
theorem zip_nextV {p q : Bool} {z TI TO i1 i2 l1 l2 : Addr} {k1 k2 : Nat} {xs ys : Array Value} {x y a b : Value} {Q : Option Value → Shared → Prop} (D : ZipApart z TI TO i1 i2 l1 l2)
    (hz : IsZip s.heap z TI TO .none) (hTI : IsPair s.heap TI (.ref i1) (.ref i2)) (hTO : IsPair s.heap TO a b)
    (h1 : Itr p s.heap i1 l1 k1) (h2 : Itr q s.heap i2 l2 k2) (hl1 : Sq p s.heap l1 xs) (hl2 : Sq q s.heap l2 ys) (hx : xs[k1]? = some x) (hy : ys[k2]? = some y)
    (hQ : ∀ h', IsZip h' z TI TO (rawInt s.heap.objs.size) → IsPair h' TO x y → Itr p h' i1 l1 (k1 + 1) → Itr q h' i2 l2 (k2 + 1) → IsPair h' s.heap.objs.size x y → h'.objs.size = s.heap.objs.size + 1 →
      (∀ c o, c ≠ z → c ≠ TO → c ≠ i1 → c ≠ i2 → s.heap.get? c = some o → h'.get? c = some o) → Q (some (.ref s.heap.objs.size)) { s with heap := h' }) :
    wpAny (model prog w) A (pyNext (.ref z)) Q E s := by
  have hT : s.TypeIs (.ref z) "zip" := ⟨_, hz, rfl⟩
  unfold pyNext
  exact wpAny_bind (wpAny_attempt (wpAny_callSpecial?_slot (name := Str.ofString "__next__") hT F.slot_zip_next (wpAny_call_entry F.slot_zip_next hT F.entry_zip_next
    (zip_item D hz hTI hTO h1 h2 hl1 hl2 hx hy fun h' a1 a2 a3 a4 a5 a6 a7 => wpAny_pure (hQ h' a1 a2 a3 a4 a5 a6 a7)) (F.args_zip_next_1 _))))
theorem zip_nextN {p q : Bool} {z TI TO i1 i2 l1 l2 : Addr} {k1 k2 : Nat} {xs ys : Array Value} {a b : Value} {Q : Option Value → Shared → Prop} (hh : A.handled = none) (D : ZipApart z TI TO i1 i2 l1 l2)
    (hz : IsZip s.heap z TI TO .none) (hTI : IsPair s.heap TI (.ref i1) (.ref i2)) (hTO : IsPair s.heap TO a b)
    (h1 : Itr p s.heap i1 l1 k1) (h2 : Itr q s.heap i2 l2 k2) (hl1 : Sq p s.heap l1 xs) (hl2 : Sq q s.heap l2 ys) (hend : xs[k1]? = none ∨ ys[k2]? = none)
    (hQ : ∀ h', (∀ c o, c ≠ z → c ≠ TO → c ≠ i1 → c ≠ i2 → s.heap.get? c = some o → h'.get? c = some o) → Q none { s with heap := h' }) : wpAny (model prog w) A (pyNext (.ref z)) Q E s := by
  have hT : s.TypeIs (.ref z) "zip" := ⟨_, hz, rfl⟩
  unfold pyNext
  refine wpAny_bind (wpAny_attempt (wpAny_callSpecial?_slot (name := Str.ofString "__next__") hT F.slot_zip_next (wpAny_call_entry F.slot_zip_next hT F.entry_zip_next
    (zip_end hh D hz hTI hTO h1 h2 hl1 hl2 hend fun h' e hk he => ?_) (F.args_zip_next_1 _))))
  obtain ⟨o, ho, hc⟩ := he
  exact wpAny_bind (wpAny_isInstance (T := "StopIteration") (b := true) ⟨o, ho, hc⟩ isSubtype_stop (wpAny_pure (hQ _ hk)))
end
/-! ### made -/
def ity (b : Bool) : String := if b = true then "tuple_iterator" else "list_iterator"
abbrev itO (b : Bool) (l : Addr) : Obj := { cls := .type (ity b), data := .fields #[.ref l, .int 0 0] }
abbrev mH1 (p : Bool) (h : Heap) (l1 : Addr) : Heap := h.push (itO p l1)
abbrev mH2 (p q : Bool) (h : Heap) (l1 l2 : Addr) : Heap := (mH1 p h l1).push (itO q l2)
abbrev mH3 (p q : Bool) (h : Heap) (l1 l2 : Addr) : Heap := (mH2 p q h l1 l2).push { cls := .type "tuple", data := .seq #[.ref h.objs.size, .ref (mH1 p h l1).objs.size] }
abbrev mH4 (p q : Bool) (h : Heap) (l1 l2 : Addr) : Heap := (mH3 p q h l1 l2).push { cls := .type "tuple", data := .seq #[.none, .none] }
abbrev mH5 (p q : Bool) (h : Heap) (l1 l2 : Addr) : Heap := (mH4 p q h l1 l2).push { cls := .type "zip", data := .fields #[.none, .bool false, .bool false, .ref (mH2 p q h l1 l2).objs.size, .ref (mH3 p q h l1 l2).objs.size] }
theorem iter_sq {prog : Program} {w : World} {A : Around} {E : Value → Shared → Prop} {s : Shared} {b : Bool} {l : Addr} {xs : Array Value} {Q : Value → Shared → Prop} (hl : Sq b s.heap l xs)
    (q : Q (.ref s.heap.objs.size) { s with heap := s.heap.push (itO b l) }) : wpAny (model prog w) A (pyIter (.ref l)) Q E s := by
  cases b
  · exact wpAny_pyIter_list (show s.heap.IsList l xs from hl) q
  · exact wpAny_pyIter_tuple (show s.heap.IsTuple l xs from hl) q
theorem Sq.push {b : Bool} {h : Heap} {l : Addr} {xs : Array Value} (x : Sq b h l xs) (o : Obj) : Sq b (h.push o) l xs := by
  cases b
  · exact Heap.IsList.push (show h.IsList l xs from x) o
  · exact Heap.IsTuple.push (show h.IsTuple l xs from x) o
theorem meets_new (p q : Bool) (l1 l2 : Addr) (xs ys : Array Value) :
    Meets (Builtin.«zip.__new__» ⟨[.type "zip", .ref l1, .ref l2], []⟩) (fun _ R s => Sq p s.heap l1 xs ∧ Sq q s.heap l2 ys ∧
      R (.ok (.ret (.ref (mH4 p q s.heap l1 l2).objs.size))) { s with heap := mH5 p q s.heap l1 l2 }) :=
  .of_wp fun prog w A R s h => by
    obtain ⟨hp, g, d, tk, os⟩ := s; obtain ⟨a1, a2, h⟩ := h
    have hsub := sub_zip
    have b1 : Sq p (Shared.heap ⟨hp, g, d, tk, os⟩) l1 xs := a1
    have b2 : Sq q (Shared.heap ⟨hp.push (itO p l1), g, d, tk, os⟩) l2 ys := a2.push _
    wp_walk using iter_sq b1, iter_sq b2
    exact ⟨_, rfl, h⟩
theorem call_zipM {prog : Program} {w : World} {A : Around} {E : Value → Shared → Prop} {s : Shared} {p q : Bool} {l1 l2 : Addr} {xs ys : Array Value} {Q : Value → Shared → Prop} (hl1 : Sq p s.heap l1 xs) (hl2 : Sq q s.heap l2 ys)
    (h : ∀ h', IsZip h' (s.heap.objs.size + 4) (s.heap.objs.size + 2) (s.heap.objs.size + 3) .none → IsPair h' (s.heap.objs.size + 2) (.ref s.heap.objs.size) (.ref (s.heap.objs.size + 1)) →
      IsPair h' (s.heap.objs.size + 3) .none .none → Itr p h' s.heap.objs.size l1 0 → Itr q h' (s.heap.objs.size + 1) l2 0 →
      (∀ c o, s.heap.get? c = some o → h'.get? c = some o) → Q (.ref (s.heap.objs.size + 4)) { s with heap := h' }) :
    wpAny (model prog w) A (call (.type "zip") [.ref l1, .ref l2]) Q E s := by
  refine callType_new F.called_zip (by decide) (F.typeCall_zip_2 _ _) (F.newCall_zip_2 _ _) (fun obj => F.args_object_init_3 obj _ _) F.entry_zip_new (meets_new p q l1 l2 xs ys) ⟨hl1, hl2, ?_⟩
  have n1 : (mH1 p s.heap l1).objs.size = s.heap.objs.size + 1 := Heap.size_push ..
  have n2 : (mH2 p q s.heap l1 l2).objs.size = s.heap.objs.size + 2 := by rw [Heap.size_push, n1]
  have n3 : (mH3 p q s.heap l1 l2).objs.size = s.heap.objs.size + 3 := by rw [Heap.size_push, n2]
  have n4 : (mH4 p q s.heap l1 l2).objs.size = s.heap.objs.size + 4 := by rw [Heap.size_push, n3]
  have g5 : (mH5 p q s.heap l1 l2).get? (mH4 p q s.heap l1 l2).objs.size = some _ := Heap.get?_push_size _ rfl
  have g4 : (mH5 p q s.heap l1 l2).get? (mH3 p q s.heap l1 l2).objs.size = some _ := Heap.get?_push_of_some _ (Heap.get?_push_size _ rfl)
  have g3 : (mH5 p q s.heap l1 l2).get? (mH2 p q s.heap l1 l2).objs.size = some _ := Heap.get?_push_of_some _ (Heap.get?_push_of_some _ (Heap.get?_push_size _ rfl))
  have g2 : (mH5 p q s.heap l1 l2).get? (mH1 p s.heap l1).objs.size = some _ := Heap.get?_push_of_some _ (Heap.get?_push_of_some _ (Heap.get?_push_of_some _ (Heap.get?_push_size _ rfl)))
  have g1 : (mH5 p q s.heap l1 l2).get? s.heap.objs.size = some _ := Heap.get?_push_of_some _ (Heap.get?_push_of_some _ (Heap.get?_push_of_some _ (Heap.get?_push_of_some _ (Heap.get?_push_size _ rfl))))
  show _ ∧ _
  rw [n2, n3, n4] at g5
  rw [n1, n2] at g3
  rw [n3] at g4
  rw [n1] at g2
  rw [n4]
  refine ⟨⟨_, g5, rfl⟩, h _ g5 g3 g4 ?_ ?_ fun c o x => Heap.get?_push_of_some _ (Heap.get?_push_of_some _ (Heap.get?_push_of_some _ (Heap.get?_push_of_some _ (Heap.get?_push_of_some _ x))))⟩
  · cases p <;> exact ⟨_, g1, rfl, rfl⟩
  · cases q <;> exact ⟨_, g2, rfl, rfl⟩
/-! ### walked -/
def SqX (b : Bool) (K : PySem.W.Frag) (H : Hp) (a : Addr) (xs : List V) : Prop := if b = true then SqT K H a xs else SqL K H a xs
theorem inv_sq {X : Cx} {pins : List (Addr × Obj)} {σ : L2.St} {H : Hp} {s : Shared} {b : Bool} {a : Addr} {xs : List V} (I : Inv X pins σ H s) (h : SqX b X.K H a xs) : ∃ its : List Value, Vals xs its ∧ Sq b s.heap a its.toArray := by
  cases b
  · obtain ⟨its, r, p, _⟩ := I.list (show SqL X.K H a xs from h)
    exact ⟨its, r, p.isList⟩
  · obtain ⟨its, r, p, _⟩ := I.tuple (show SqT X.K H a xs from h)
    exact ⟨its, r, p⟩
theorem sq_inj {X : Cx} {pins : List (Addr × Obj)} {σ : L2.St} {H : Hp} {s : Shared} {b : Bool} {a : Addr} {xs ys : List V} (I : Inv X pins σ H s) (h : SqX b X.K H a xs) (h' : SqX b X.K H a ys) : xs = ys := by
  cases b
  · exact I.list_inj (show SqL X.K H a xs from h) h'
  · exact I.tuple_inj (show SqT X.K H a xs from h) h'
def ItM (p q : Bool) (K : PySem.W.Frag) (a b : Addr) : It :=
  ⟨fun i H => ∃ (xs ys : List V) (x y : V), SqX p K H a xs ∧ SqX q K H b ys ∧ xs[i]? = some x ∧ ys[i]? = some y,
    fun i H v H' => ∃ T x y, v = .ref T ∧ H T = none ∧ H' = upd H T (.tup [x, y]) ∧ (∀ xs, SqX p K H a xs → xs[i]? = some x) ∧ ∀ ys, SqX q K H b ys → ys[i]? = some y,
    fun i H => ∃ xs ys : List V, SqX p K H a xs ∧ SqX q K H b ys ∧ (xs.length ≤ i ∨ ys.length ≤ i)⟩
theorem turn_M {P : Program} {w : World} {K : PySem.W.Frag} {elts : List Expr} {kk : Nat} {tpos : Pos} {p q : Bool} {a b z TI TO i1 i2 : Addr} (D : ZipApart z TI TO i1 i2 a b) :
    Turn P w K (.Tuple elts kk tpos) (ItM p q K a b) [z, TI, TO, i1, i2] z (fun i h => IsZip h z TI TO .none ∧ IsPair h TI (.ref i1) (.ref i2) ∧ (∃ x y, IsPair h TO x y) ∧ Itr p h i1 a i ∧ Itr q h i2 b i) where
  mem := by simp
  obj := fun i h st c hc => by
    obtain ⟨hz, hTI, ⟨x, y, hTO⟩, t1, t2⟩ := st
    obtain ⟨o1, e1, f1, d1⟩ := t1.obj
    obtain ⟨o2, e2, f2, d2⟩ := t2.obj
    have e' : c = z ∨ c = TI ∨ c = TO ∨ c = i1 ∨ c = i2 := by simpa using hc
    rcases e' with z | z | z | z | z
    · rw [z]; exact ⟨_, hz, fun v q => nomatch q⟩
    · rw [z]; exact ⟨_, hTI, fun v q => nomatch q⟩
    · rw [z]; exact ⟨_, hTO, fun v q => nomatch q⟩
    · rw [z]; exact ⟨o1, e1, fun v q => by rw [d1] at q; cases q⟩
    · rw [z]; exact ⟨o2, e2, fun v q => by rw [d2] at q; cases q⟩
  keep := fun i h h' st k => by
    obtain ⟨hz, hTI, ⟨x, y, hTO⟩, t1, t2⟩ := st
    exact ⟨k z (by simp) _ hz, k TI (by simp) _ hTI, ⟨x, y, k TO (by simp) _ hTO⟩, t1.at fun o q => k i1 (by simp) o q, t2.at fun o q => k i2 (by simp) o q⟩
  item := by
    intro X hP hw hK hc i pins s σ H E I hf st hg
    subst hP hw hK
    obtain ⟨hz, hTI, ⟨x0, y0, hTO⟩, t1, t2⟩ := st
    obtain ⟨xs, ys, x, y, hqx, hqy, hx, hy⟩ := hg
    obtain ⟨its, rv, pl⟩ := inv_sq I hqx
    obtain ⟨its2, rv2, pl2⟩ := inv_sq I hqy
    obtain ⟨u, hu, ru⟩ := rv.get hx
    obtain ⟨u2, hu2, ru2⟩ := rv2.get hy
    have lz : z < s.heap.objs.size := Heap.lt_size hz
    refine zip_nextV D hz hTI hTO t1 t2 pl pl2 (x := u) (y := u2) (by simpa using hu) (by simpa using hu2) fun h' z' TO' r1 r2 hT hsz hk => ?_
    refine ⟨_, rfl, wpAny_letOwnedTupleGo_zip (s := { s with heap := h' }) z' fun h2 z2 sb => ?_⟩
    have hT2 : h2.get? s.heap.objs.size = some { cls := .type "tuple", data := .seq #[u, u2] } := (sb.2 _ (Nat.ne_of_gt lz)).trans hT
    have new : ObjOk X.prog X.w (upd H s.heap.objs.size (.tup [x, y])) h2 s.heap.objs.size (.tup [x, y]) :=
      ⟨by show 2 ≤ sizeLine; decide, [u, u2], .cons ru (.cons ru2 .nil), ⟨_, hT2, rfl, _, rfl⟩⟩
    have I1 : Inv X pins σ (upd H s.heap.objs.size (.tup [x, y])) { s with heap := h2 } :=
      I.turnedNew (t' := s.toks) (ch := [z, TI, TO, i1, i2]) (fun c o hb e => (sb.2 c (fun n => hb (by simp [n]))).trans (hk c o (fun n => hb (by simp [n])) (fun n => hb (by simp [n])) (fun n => hb (by simp [n])) (fun n => hb (by simp [n])) e)) hf (Nat.le_refl _) new
    refine ⟨.ref s.heap.objs.size, _, I1, rfl, ⟨_, x, y, rfl, I.hok.fresh (Nat.le_refl _), rfl, fun l hl => by rw [sq_inj I hl hqx]; exact hx, fun l hl => by rw [sq_inj I hl hqy]; exact hy⟩, ⟨z2, ?_, ⟨u, u2, ?_⟩, ?_, ?_⟩, fun c hcm => ?_⟩
    · exact (sb.2 _ D.TIz).trans (hk _ _ D.TIz D.TITO D.TIi1 D.TIi2 hTI)
    · exact (sb.2 _ D.TOz).trans TO'
    · exact r1.at fun o e => (sb.2 _ D.i1z).trans e
    · exact r2.at fun o e => (sb.2 _ D.i2z).trans e
    · have hlt : c < s.heap.objs.size := by
        obtain ⟨_, e1, _⟩ := t1.obj
        obtain ⟨_, e2, _⟩ := t2.obj
        have e' : c = z ∨ c = TI ∨ c = TO ∨ c = i1 ∨ c = i2 := by simpa using hcm
        rcases e' with n | n | n | n | n <;> rw [n]
        · exact lz
        · exact Heap.lt_size hTI
        · exact Heap.lt_size hTO
        · exact Heap.lt_size e1
        · exact Heap.lt_size e2
      rw [upd_ne (Nat.ne_of_lt hlt)]
      exact (hf c hcm).1
  done := by
    intro X hP hw hK hc i pins s σ H E I hf st hg
    subst hP hw hK
    obtain ⟨hz, hTI, ⟨x0, y0, hTO⟩, t1, t2⟩ := st
    obtain ⟨xs, ys, hqx, hqy, hend⟩ := hg
    obtain ⟨its, rv, pl⟩ := inv_sq I hqx
    obtain ⟨its2, rv2, pl2⟩ := inv_sq I hqy
    have n1 := rv.length
    have n2 := rv2.length
    have he : its.toArray[i]? = none ∨ its2.toArray[i]? = none := by
      rcases hend with e | e
      · exact .inl (by simp; omega)
      · exact .inr (by simp; omega)
    exact zip_nextN (I.ok.hd hc) D hz hTI hTO t1 t2 pl pl2 he fun h' hk => ⟨rfl, I.turnedL (t' := s.toks) (ch := [z, TI, TO, i1, i2]) (fun c o hb e =>
      hk c o (fun n => hb (by simp [n])) (fun n => hb (by simp [n])) (fun n => hb (by simp [n])) (fun n => hb (by simp [n])) e) hf⟩
  self := fun A i s Q E st h => wpAny_pyIter_zip st.1 h
def iZipM (K : PySem.W.Frag) (ta : TA) : TI := fun σ H R => ta σ H fun vs H1 => ∃ p q a b xs ys, vs = [.ref a, .ref b] ∧ SqX p K H1 a xs ∧ SqX q K H1 b ys ∧ R (ItM p q K a b) H1
theorem pi_zipM {X : Cx} {e e2 : Expr} {ta : TA} {p pos tpos : Pos} {elts : List Expr} {kk : Nat} (hg : Gl X "zip") (hm : X.mg "zip" = none) (ha : PA X [e, e2] ta)
    (hs : starEach [e, e2] X.env = (false, eval e X.env) :: starEach [e2] X.env := by rfl) (hpl : (backTo pos (starEach [e2] X.env)).any (·.1) = false := by rfl) :
    PI X (.Tuple elts kk tpos) (.Call (.Name "zip" p) [e, e2] [] pos) (iZipM X.K ta) := by
  refine ⟨fun pins s σ H R I h => ?_⟩
  refine Call_ (ld_blt I hg hm PyProof.Rows.boot_zip (PyProof.Rows.callWith_type1 (thn (ha.run pos pins s σ H _ I h) fun us s1 ⟨vs, H1, I1, r1, q1⟩ => ?_) hs hpl))
  obtain ⟨p, q, a, b, xs, ys, ex, hqx, hqy, q1⟩ := q1
  subst ex
  cases r1 with
  | cons r rr =>
    cases rr with
    | cons r' rr =>
      cases rr
      cases r
      cases r'
      have fresh : ∀ c, c ∈ [s1.heap.objs.size + 4, s1.heap.objs.size + 2, s1.heap.objs.size + 3, s1.heap.objs.size, s1.heap.objs.size + 1] → FpOk X pins H1 c := fun c hcm => by
        have hle : s1.heap.objs.size ≤ c := by
          have e' : c = s1.heap.objs.size + 4 ∨ c = s1.heap.objs.size + 2 ∨ c = s1.heap.objs.size + 3 ∨ c = s1.heap.objs.size ∨ c = s1.heap.objs.size + 1 := by simpa using hcm
          omega
        exact I1.fpOk hle (I1.hok.fresh hle)
      obtain ⟨its, rv, pl⟩ := inv_sq I1 hqx
      obtain ⟨its2, rv2, pl2⟩ := inv_sq I1 hqy
      refine call_zipM pl pl2 fun h' hz hTI hTO t1 t2 hk => wpAny_pyIter_zip hz ?_
      have I2 : Inv X pins σ H1 { s1 with heap := h' } := I1.kept (t' := s1.toks) hk
      exact ⟨s1.heap.objs.size + 4, [s1.heap.objs.size + 4, s1.heap.objs.size + 2, s1.heap.objs.size + 3, s1.heap.objs.size, s1.heap.objs.size + 1], _, _, H1, rfl, I2, turn_M (PySem.W.ktu_apart s1.heap.objs.size a b pl.lt pl2.lt), ⟨hz, hTI, ⟨_, _, hTO⟩, t1, t2⟩, fresh, q1⟩
end EvZip
namespace Ev
open PySem PySem.Spec L2 EvZip
section
variable {X : Cx} {W : WX} {tg a b : Expr} {fa : SemR} {as : SemDs} {ta : TE} {t : TA} {p pos : Pos}
theorem sqX_sub {K : PySem.W.Frag} {b : Bool} {F F' : Hp} {a : Addr} {vs : List V} (s : ∀ a o, F a = some o → F' a = some o) (h : SqX b K F a vs) : SqX b K F' a vs := by
  cases b
  · exact sqL_sub s (show SqL K F a vs from h)
  · exact sqT_sub s (show SqT K F a vs from h)
theorem walks_zipM {w : Wd} {p q : Bool} {a b : Addr} {xs ys : List D} {us vs : List V} (s1 : SqX p X.K w.F a us) (q1 : RDs X.K w xs us) (s2 : SqX q X.K w.F b vs) (q2 : RDs X.K w ys vs) : Walks X.K w (ItM p q X.K a b) (zipD xs ys) := by
  refine walks_pair (G := fun H => SqX p X.K H a us ∧ SqX q X.K H b vs) (xs := fun i => us[i]?) (ys := fun i => vs[i]?) ?_ (fun w2 H2 L s => ⟨sqX_sub s (sqX_sub L.sub s1), sqX_sub s (sqX_sub L.sub s2)⟩) (zipD_get q1 q2)
  have l1 := q1.length
  have l2 := q2.length
  rw [zipD_len]
  refine ⟨fun i _ hi q => ?_, fun _ q => ⟨us, vs, q.1, q.2, by omega⟩, fun i H v H' _ q y => ?_⟩
  · have h1 : i < us.length := by omega
    have h2 : i < vs.length := by omega
    exact ⟨us, vs, us[i], vs[i], q.1, q.2, List.getElem?_eq_getElem h1, List.getElem?_eq_getElem h2⟩
  · obtain ⟨T, x, z, h1, h2, h3, h4, h5⟩ := y
    exact ⟨T, x, z, h1, h2, h3, h4 _ q.1, h5 _ q.2⟩
/-- a list's or a tuple's items -/
def sqD : D → Option (List D)
  | .lst xs | .tup xs | .scr xs => some xs
  | _ => none
theorem RD.sq {w : Wd} {x : D} {v : V} {xs : List D} (r : RD X.K w x v) (h : sqD x = some xs) : ∃ b a vs, v = .ref a ∧ SqX b X.K w.F a vs ∧ RDs X.K w xs vs := by
  cases x with
  | lst ys => cases h; cases r with | lst s q => exact ⟨false, _, _, rfl, .inl (.inl s), q⟩
  | scr ys => cases h; cases r with | scr s q => exact ⟨false, _, _, rfl, s, q⟩
  | tup ys => cases h; cases r with | tup s q => exact ⟨true, _, _, rfl, s, q⟩
  | _ => cases h
def eZipM (as : SemDs) : SemDs := fun env m => (as env m).bind fun xs m1 => match xs with
  | [x, y] => (match sqD x, sqD y with
    | some xs, some ys => .ok (zipD xs ys) m1
    | _, _ => .bot)
  | _ => .bot
theorem si_zipM {elts : List Expr} {kk : Nat} {tpos : Pos} (hm : X.mg "zip" = none) (h : SAt X W [a, b] as t) (hg : Gl X "zip" := by rfl) (hs : starEach [a, b] X.env = (false, eval a X.env) :: starEach [b] X.env := by rfl) (hpl : (backTo pos (starEach [b] X.env)).any (·.1) = false := by rfl) :
    SIt X W (.Tuple elts kk tpos) (.Call (.Name "zip" p) [a, b] [] pos) (eZipM as) (iZipM X.K t) := by
  refine ⟨pi_zipM hg hm h.pa hs hpl, fun w H0 σ H env m R Wm S q => ?_⟩
  refine h.rd w H0 σ H env m _ Wm S (WP.mono (WP.of_bind q) (fun xs m1 q w1 H1 vs E1 W1 r1 => ?_) fun _ _ z => z)
  split at q
  · rename_i x y
    split at q
    · rename_i xs ys e1 e2
      cases r1 with
      | cons r1 rr =>
        cases rr with
        | cons r2 rr =>
          cases rr
          obtain ⟨p, a, us, rfl, s1, q1⟩ := r1.sq e1
          obtain ⟨q', b, vs, rfl, s2, q2⟩ := r2.sq e2
          exact ⟨_, _, _, _, _, _, rfl, sqX_sub W1.sub s1, sqX_sub W1.sub s2, q w1 H1 _ E1 W1 (walks_zipM s1 q1 s2 q2)⟩
    · exact q.elim
  · exact q.elim
end
section
variable {env : Env} {m : Cells}
@[simp] theorem sqD1 (xs : List D) : sqD (.lst xs) = some xs := nr rfl
@[simp] theorem sqD2 (xs : List D) : sqD (.tup xs) = some xs := nr rfl
@[simp] theorem sqD3 (xs : List D) : sqD (.scr xs) = some xs := nr rfl
def kZm (x y : Option (List D)) (m : Cells) : Res (List D) := match x, y with
  | some xs, some ys => .ok (zipD xs ys) m
  | _, _ => .bot
@[simp] theorem kZm1 (xs ys : List D) : kZm (some xs) (some ys) m = .ok (zipD xs ys) m := nr rfl
def kZipM (r : Res (List D)) : Res (List D) := r.bind fun xs m1 => match xs with
  | [x, y] => kZm (sqD x) (sqD y) m1
  | _ => .bot
@[simp] theorem kZipM1 (x y : D) : kZipM (.ok [x, y] m) = kZm (sqD x) (sqD y) m := nr rfl
@[simp] theorem ev_eZipM (as : SemDs) : eZipM as env m = kZipM (as env m) := nr rfl
end
end Ev
/-! Ev: displays with stars; x.append(y.pop(i)). -/
namespace Ev
open PySem PySem.Spec L2 StX
section
variable {X : Cx} {W : WX} {e : Expr} {es : List Expr} {f : SemR} {g : SemDs} {t : TE} {u : TA}
theorem RP.sq {K : PySem.W.Frag} {w : Wd} {H : Hp} {m : Cells} {x : D} {v : V} {xs : List D} (Wm : Wf K w H m) (r : RP K w H x v) (h : sqD x = some xs) : ∃ a vs, v = .ref a ∧ (SqT K H a vs ∨ SqL K H a vs) ∧ RDs K w xs vs := by
  cases x with
  | lst ys =>
    cases h
    obtain ⟨a, vs, e, h1, h2⟩ := r.lst Wm
    exact ⟨a, vs, e, .inr (.inl (.inl h1)), h2⟩
  | scr ys =>
    cases h
    obtain ⟨a, vs, e, h1, h2⟩ := r.scr Wm
    exact ⟨a, vs, e, .inr h1, h2⟩
  | tup ys =>
    cases h
    obtain ⟨a, vs, e, h1, h2⟩ := r.tup Wm
    exact ⟨a, vs, e, .inl h1, h2⟩
  | _ => cases h
/-- *e, .. -/
def aStar (f : SemR) (g : SemDs) : SemDs := fun env m => (vl f env m).bind fun x m1 => match sqD x with
  | some xs => (g env m1).bind fun ys m2 => .ok (xs ++ ys) m2
  | none => .bot
theorem sa_star {p : Pos} (h : SE X W e f t) (hr : SAt X W es g u) (hs : starEach (.Starred e p :: es) X.env = (true, eval e X.env) :: starEach es X.env := by rfl) : SAt X W (.Starred e p :: es) (aStar f g) (tStar X.K t u) := by
  refine ⟨pa_star h.pe hr.pa hs, fun w H0 σ H env m Q Wm S q => ?_⟩
  refine h.vl Wm S (WP.mono (WP.of_bind q) (fun x m1 q w1 H1 v1 E1 W1 r1 => ?_) fun _ _ z => z)
  cases hx : sqD x with
  | none => rw [hx] at q; exact q.elim
  | some xs =>
    rw [hx] at q
    obtain ⟨a, vs, rfl, h1, h2⟩ := r1.sq W1 hx
    refine ⟨a, vs, rfl, h1, ?_⟩
    refine hr.rd w1 H0 σ H1 env m1 _ W1 (S.ext E1) (WP.mono (WP.of_bind q) (fun ys m2 q w2 H2 us E2 W2 r2 => ?_) fun x m' z c d w' H' E' W' rx => z c d w' H' (E1.trans E') W' rx)
    exact q w2 H2 _ (E1.trans E2) W2 ((RDs.le E2.le h2).append r2)
end
section
variable {env : Env} {m : Cells}
def kSt2 (xs : List D) (r : Res (List D)) : Res (List D) := r.bind fun ys m => .ok (xs ++ ys) m
@[simp] theorem kSt2_1 (xs ys : List D) : kSt2 xs (.ok ys m) = .ok (xs ++ ys) m := nr rfl
def kStO (g : SemDs) (env : Env) (m : Cells) (o : Option (List D)) : Res (List D) := match o with | some xs => kSt2 xs (g env m) | none => .bot
@[simp] theorem kStO1 (g : SemDs) (xs : List D) : kStO g env m (some xs) = kSt2 xs (g env m) := nr rfl
def kSt (g : SemDs) (env : Env) (r : Res D) : Res (List D) := r.bind fun x m => kStO g env m (sqD x)
@[simp] theorem kSt1 (g : SemDs) (x : D) : kSt g env (.ok x m) = kStO g env m (sqD x) := nr rfl
@[simp] theorem ev_aStar (f : SemR) (g : SemDs) : aStar f g env m = kSt g env (vl f env m) := nr rfl
end
/-! ### x.append(y.pop(e)) -/
def sAppPop2 (i j : Nat) (env : Env) (m : Cells) (k : Int) (ys : List D) : Res Out :=
  if 0 ≤ k ∧ k < ys.length ∧ k < 2 ^ 62 then match ys[k.toNat]? with
    | some y => match lget i (lupd j env m (ys.eraseIdx k.toNat)).1 (lupd j env m (ys.eraseIdx k.toNat)).2 with
      | some xs => if xs.length < LN then .ok (.nx (lupd i (lupd j env m (ys.eraseIdx k.toNat)).1 (lupd j env m (ys.eraseIdx k.toNat)).2 (xs ++ [y])).1) (lupd i (lupd j env m (ys.eraseIdx k.toNat)).1 (lupd j env m (ys.eraseIdx k.toNat)).2 (xs ++ [y])).2 else .bot
      | none => .bot
    | none => .bot
  else .bot
def sAppPop (i j : Nat) (f : SemR) : SemS := fun env m => if (lget i env m).isSome then if (lget j env m).isSome then (vl f env m).bind fun k m1 => match lget j env m1, k with
  | some ys, .int k => sAppPop2 i j env m1 k ys
  | _, _ => .bot
  else .bot
  else .bot
section
variable {X : Cx} {W : WX} {e : Expr} {f : SemR} {te : TE} {pos : Pos}
theorem ss_apppop (i j : Nat) {x y : Str} {p ap cp p2 ap2 cp2 : Pos} (h : SE X W e f te) (hN : X.N[i]? = some x := by rfl) (hN2 : X.N[j]? = some y := by rfl) (hv : Vis X.env.scope x := by first | exact Or.inl rfl | exact Or.inr (Or.inl rfl) | exact Or.inr (Or.inr rfl)) (hv2 : Vis X.env.scope y := by first | exact Or.inl rfl | exact Or.inr (Or.inl rfl) | exact Or.inr (Or.inr rfl))
    (hd : (x == ("__debug__" : Str)) = false := by decide) (hcd : (x == ("__classdict__" : Str)) = false := by decide) (hd2 : (y == ("__debug__" : Str)) = false := by decide) (hcd2 : (y == ("__classdict__" : Str)) = false := by decide)
    (b1 : attributeBase (.Name x p) "append" X.env (eval (.Name x p) X.env) = eval (.Name x p) X.env := by rfl) (b2 : attributeBase (.Name y p2) "pop" X.env (eval (.Name y p2) X.env) = eval (.Name y p2) X.env := by rfl)
    (f2 : ((backTo cp2 (starEach (e :: []) X.env)).all (fun x => !x.1) && (backToKw cp2 (keywordEach [] X.env)).all (fun x => x.1.isSome) && decide ((e :: []).length + ([] : List Keyword).length + (if ([] : List Keyword).isEmpty then 0 else 1) < 30)) = true := by rfl)
    (f1 : ((backTo cp (starEach ((.Call (.Attribute (.Name y p2) "pop" ap2) [e] [] cp2) :: []) X.env)).all (fun x => !x.1) && (backToKw cp (keywordEach [] X.env)).all (fun x => x.1.isSome) && decide (((.Call (.Attribute (.Name y p2) "pop" ap2) [e] [] cp2) :: ([] : List Expr)).length + ([] : List Keyword).length + (if ([] : List Keyword).isEmpty then 0 else 1) < 30)) = true := by rfl)
    (l1 : (ap.endLine == cp.line) = true := by rfl) (l2 : (ap2.endLine == cp2.line) = true := by rfl) (s2 : starEach (e :: []) X.env = (false, eval e X.env) :: starEach [] X.env := by rfl) (q2 : (backTo cp2 (starEach [] X.env)).any (·.1) = false := by rfl)
    (s1 : starEach ((.Call (.Attribute (.Name y p2) "pop" ap2) [e] [] cp2) :: []) X.env = (false, eval (.Call (.Attribute (.Name y p2) "pop" ap2) [e] [] cp2) X.env) :: starEach [] X.env := by rfl) (q1 : (backTo cp (starEach [] X.env)).any (·.1) = false := by rfl)
    (hsw : swapsWith (.Call (.Attribute (.Name x p) "append" ap) [.Call (.Attribute (.Name y p2) "pop" ap2) [e] [] cp2] [] cp) none pos.line X.env = pure false := by rfl) :
    SSt X W (.Expr (.Call (.Attribute (.Name x p) "append" ap) [.Call (.Attribute (.Name y p2) "pop" ap2) [e] [] cp2] [] cp) pos) (sAppPop i j f) (tDrop (tBM X.K "list" rAppend (tVar i) (tCons (tBM X.K "list" rPopAt (tVar j) (tCons te tNil)) tNil))) := by
  refine ⟨ps_expr (pe_bm PySem.F.plainAttrs_list PySem.F.slot_list_append PySem.F.type_list_append mt_append (pe_var hN hv hd hcd) (pa_cons (pe_bm PySem.F.plainAttrs_list PySem.F.slot_list_pop PySem.F.type_list_pop mt_popAt (pe_var hN2 hv2 hd2 hcd2) (pa_cons h.pe pa_nil s2) b2 f2 l2 s2 q2) pa_nil s1) b1 f1 l1 s1 q1) hsw, fun w0 H0 w σ H env m D E Wm S q => ?_⟩
  unfold sAppPop at q
  split at q
  · rename_i hs
    split at q
    · rename_i ht
      obtain ⟨xs0, hx0⟩ := Option.isSome_iff_exists.mp hs
      obtain ⟨ys0, hy0⟩ := Option.isSome_iff_exists.mp ht
      obtain ⟨a, vs, k1, k2, _⟩ := slot_upd E Wm S hx0
      obtain ⟨b, us, k3, k4, _⟩ := slot_upd E Wm S hy0
      refine ⟨_, k1, .inl ⟨rfl, vs, .inl (.inl k2)⟩, _, k3, .inl ⟨rfl, us, .inl (.inl k4)⟩, ?_⟩
      refine h.vl Wm S (WP.mono (WP.of_bind q) (fun k m1 q w1 H1 v1 E1 W1 r1 => ?_) fun x m' z => PXs.of E z)
      split at q
      · rename_i ys k hy
        unfold sAppPop2 at q
        split at q
        · rename_i hk
          split at q
          · rename_i z hz
            split at q
            · rename_i xs hx
              split at q
              · rename_i hl
                obtain ⟨b', us1, g1, g2, g3, g4⟩ := slot_upd (E.trans E1) W1 (S.ext E1) hy
                rw [k3] at g1
                cases g1
                obtain ⟨E2, W2, S2⟩ := g4 (ys.eraseIdx k.toNat) (us1.eraseIdx k.toNat) (g3.eraseIdx _)
                obtain ⟨u, hu, ru⟩ := g3.get hz
                obtain ⟨a', vs1, e1, e2, e3, e4⟩ := slot_upd E2 W2 S2 hx
                rw [k1] at e1
                cases e1
                obtain ⟨E3, W3, S3⟩ := e4 (xs ++ [z]) (vs1 ++ [u]) (e3.append (.cons ru .nil))
                refine ⟨b, us1, k, k.toNat, u, rfl, by rw [r1.int], g2, by omega, by omega, ?_, hu, ?_⟩
                · have hl := g3.length
                  unfold seqIndex?
                  rw [if_neg (show ¬ k < 0 by omega)]
                  exact if_pos (by rw [Bool.and_eq_true]; exact ⟨decide_eq_true hk.1, decide_eq_true (by omega)⟩)
                · exact ⟨a, vs1, u, rfl, rfl, e2, by rw [← e3.length]; exact ln_lt (Nat.le_of_lt hl), q w1 _ E3 E1.le W3 σ rfl S3⟩
              · exact q.elim
            · exact q.elim
          · exact q.elim
        · exact q.elim
      · exact q.elim
    · exact q.elim
  · exact q.elim
end
end Ev
/-! Ev: list(zip(a, b)), lists and tuples either way. -/
namespace EvZip
open PySem PySem.Spec PyProof.Rows L2 RZ
theorem nolen_zip : typeLookup (.type "zip") "__len__" = pure none := by rw [typeLookup_type, builtinLookup_eq_fast]; kernel_rfl
theorem nohint_zip : typeLookup (.type "zip") "__length_hint__" = pure none := by rw [typeLookup_type, builtinLookup_eq_fast]; kernel_rfl
section
variable {prog : Program} {w : World} {A : Around} {E : Value → Shared → Prop} {s : Shared}
theorem held_item {p q f : Bool} {z TI TO T i1 i2 l1 l2 : Addr} {oT : Obj} {k1 k2 : Nat} {xs ys : Array Value} {x y : Value} {Q : Option Value → Shared → Prop} (D : ZipApart z TI TO i1 i2 l1 l2)
    (hz : IsZipHeld s.heap z TI TO T f) (hT : s.heap.get? T = some oT) (hTI : IsPair s.heap TI (.ref i1) (.ref i2))
    (h1 : Itr p s.heap i1 l1 k1) (h2 : Itr q s.heap i2 l2 k2) (hl1 : Sq p s.heap l1 xs) (hl2 : Sq q s.heap l2 ys) (hx : xs[k1]? = some x) (hy : ys[k2]? = some y)
    (hQ : ∀ h', IsZipHeld h' z TI TO T true → Itr p h' i1 l1 (k1 + 1) → Itr q h' i2 l2 (k2 + 1) → IsPair h' s.heap.objs.size x y → h'.objs.size = s.heap.objs.size + 1 →
      (∀ c o, c ≠ z → c ≠ i1 → c ≠ i2 → s.heap.get? c = some o → h'.get? c = some o) → Q (some (.ref s.heap.objs.size)) { s with heap := h' }) :
    wpAny (model prog w) A (pyNext (.ref z)) Q E s := by
  have hTy : s.TypeIs (.ref z) "zip" := ⟨_, hz, rfl⟩
  unfold pyNext
  refine wpAny_bind (wpAny_attempt (wpAny_callSpecial?_slot (name := Str.ofString "__next__") hTy F.slot_zip_next
    (wpAny_call_entry F.slot_zip_next hTy F.entry_zip_next ?_ (F.args_zip_next_1 _))))
  show wpAny _ _ (field (.ref z) 2 >>= _) _ _ _
  refine wpAny_bind (wpAny_field hz rfl (x := .bool false) rfl ?_)
  show wpAny _ _ (field (.ref z) 3 >>= _) _ _ _
  refine wpAny_bind (wpAny_field hz rfl (x := .ref TI) rfl ?_)
  refine wpAny_bind (wpAny_seqItems hTI rfl ?_)
  show wpAny _ _ (Builtin.SmallTypes.ownedTupleIsFree (.ref z) >>= _) _ _ _
  refine wpAny_bind (wpAny_tupleHeld_zip hz hT fun h₁ hz₁ hs₁ => ?_)
  simp only [Bool.false_eq_true, if_false]
  refine wpAny_bind ?_
  rw [← Array.forIn_toList]
  simp only [List.forIn_cons, List.forIn_nil]
  refine wpAny_bind (wpAny_bind (wpAny_holding ?_))
  show wpAny _ _ (Builtin.SmallTypes.nextOf (.ref i1) >>= _) _ _ _
  refine wpAny_bind (next_item (s := { s with heap := h₁ }) (h1.ext hs₁.extBut D.i1z) (hl1.ext hs₁.extBut D.l1z) hx fun h₂ h1₂ hs₂ => wpAny_pure ?_)
  refine wpAny_pure ?_
  refine wpAny_bind (wpAny_bind (wpAny_holding ?_))
  show wpAny _ _ (Builtin.SmallTypes.nextOf (.ref i2) >>= _) _ _ _
  refine wpAny_bind (next_item (s := { s with heap := h₂ }) ((h2.ext hs₁.extBut D.i2z).ext hs₂.extBut D.i12.symm) ((hl2.ext hs₁.extBut D.l2z).ext hs₂.extBut D.l2i1) hy fun h₃ h2₃ hs₃ => wpAny_pure ?_)
  refine wpAny_pure (wpAny_pure ?_)
  show wpAny _ _ (newTuple [x, y] >>= _) _ _ _
  refine wpAny_bind (wpAny_newTuple ?_)
  have hsz : h₃.objs.size = s.heap.objs.size := by rw [hs₃.1, hs₂.1, hs₁.1]
  have hz₃ : IsZipHeld h₃ z TI TO T true := hs₃.extBut _ _ D.i2z.symm (hs₂.extBut _ _ D.i1z.symm hz₁)
  have hk : ∀ c o, c ≠ z → c ≠ i1 → c ≠ i2 → s.heap.get? c = some o → h₃.get? c = some o := fun c o c1 c2 c3 e => hs₃.extBut _ _ c3 (hs₂.extBut _ _ c2 (hs₁.extBut _ _ c1 e))
  have h1₃ : Itr p h₃ i1 l1 (k1 + 1) := h1₂.ext hs₃.extBut D.i12
  have hp : IsPair (h₃.push { cls := .type "tuple", data := .seq #[x, y] }) h₃.objs.size x y := Heap.get?_push_size _ rfl
  have hz4 : (h₃.push { cls := .type "tuple", data := .seq #[x, y] }).objs.size = h₃.objs.size + 1 := Heap.size_push ..
  have hfin := hQ (h₃.push { cls := .type "tuple", data := .seq #[x, y] }) (Heap.get?_push_of_some _ hz₃) (h1₃.at fun o e => Heap.get?_push_of_some _ e) (h2₃.at fun o e => Heap.get?_push_of_some _ e) (by rw [← hsz]; exact hp) (by rw [← hsz]; exact hz4) fun c o c1 c2 c3 e => Heap.get?_push_of_some _ (hk c o c1 c2 c3 e)
  rw [← hsz] at hfin
  exact wpAny_pure ⟨_, rfl, wpAny_pure hfin⟩
theorem held_end {p q f : Bool} {z TI TO T i1 i2 l1 l2 : Addr} {oT : Obj} {k1 k2 : Nat} {xs ys : Array Value} {Q : Option Value → Shared → Prop} (hh : A.handled = none) (D : ZipApart z TI TO i1 i2 l1 l2)
    (hz : IsZipHeld s.heap z TI TO T f) (hT : s.heap.get? T = some oT) (hTI : IsPair s.heap TI (.ref i1) (.ref i2))
    (h1 : Itr p s.heap i1 l1 k1) (h2 : Itr q s.heap i2 l2 k2) (hl1 : Sq p s.heap l1 xs) (hl2 : Sq q s.heap l2 ys) (hend : xs[k1]? = none ∨ ys[k2]? = none)
    (hQ : ∀ h', (∀ c o, c ≠ z → c ≠ TO → c ≠ i1 → c ≠ i2 → s.heap.get? c = some o → h'.get? c = some o) → Q none { s with heap := h' }) :
    wpAny (model prog w) A (pyNext (.ref z)) Q E s := by
  have hTy : s.TypeIs (.ref z) "zip" := ⟨_, hz, rfl⟩
  have go : ∀ {E' : Value → Shared → Prop} {Q' : Fin → Shared → Prop} {B : Around}, B.handled = none → (∀ h' e, (∀ c o, c ≠ z → c ≠ TO → c ≠ i1 → c ≠ i2 → s.heap.get? c = some o → h'.get? c = some o) → (∃ o, h'.get? e = some o ∧ o.cls = .type "StopIteration") → E' (.ref e) { s with heap := h' }) →
      wpAny (model prog w) B (Builtin.«zip.__next__» ⟨[.ref z], []⟩) Q' E' s := by
    intro E' Q' B hh hE
    show wpAny _ _ (field (.ref z) 2 >>= _) _ _ _
    refine wpAny_bind (wpAny_field hz rfl (x := .bool false) rfl ?_)
    show wpAny _ _ (field (.ref z) 3 >>= _) _ _ _
    refine wpAny_bind (wpAny_field hz rfl (x := .ref TI) rfl ?_)
    refine wpAny_bind (wpAny_seqItems hTI rfl ?_)
    show wpAny _ _ (Builtin.SmallTypes.ownedTupleIsFree (.ref z) >>= _) _ _ _
    refine wpAny_bind (wpAny_tupleHeld_zip hz hT fun h₁ hz₁ hs₁ => ?_)
    simp only [Bool.false_eq_true, if_false]
    refine wpAny_bind ?_
    rw [← Array.forIn_toList]
    simp only [List.forIn_cons, List.forIn_nil]
    refine wpAny_bind (wpAny_bind (wpAny_holding ?_))
    show wpAny _ _ (Builtin.SmallTypes.nextOf (.ref i1) >>= _) _ _ _
    cases hx : xs[k1]? with
    | none =>
      refine wpAny_bind (next_end (s := { s with heap := h₁ }) hh (h1.ext hs₁.extBut D.i1z) (hl1.ext hs₁.extBut D.l1z) hx fun h₂ e hs₂ he => ?_)
      exact hE h₂ e (fun c o c1 _ c2 _ x => hs₂ _ _ c2 (hs₁.extBut _ _ c1 x)) he
    | some x =>
      have hy : ys[k2]? = none := by rcases hend with h | h; rw [hx] at h; cases h; exact h
      refine wpAny_bind (next_item (s := { s with heap := h₁ }) (h1.ext hs₁.extBut D.i1z) (hl1.ext hs₁.extBut D.l1z) hx fun h₂ h1₂ hs₂ => wpAny_pure ?_)
      refine wpAny_pure ?_
      refine wpAny_bind (wpAny_bind (wpAny_holding ?_))
      show wpAny _ _ (Builtin.SmallTypes.nextOf (.ref i2) >>= _) _ _ _
      refine wpAny_bind (next_end (s := { s with heap := h₂ }) hh ((h2.ext hs₁.extBut D.i2z).ext hs₂.extBut D.i12.symm) ((hl2.ext hs₁.extBut D.l2z).ext hs₂.extBut D.l2i1) hy fun h₃ e hs₃ he => ?_)
      exact hE h₃ e (fun c o c1 _ c2 c3 x => hs₃ _ _ c3 (hs₂.extBut _ _ c2 (hs₁.extBut _ _ c1 x))) he
  unfold pyNext
  refine wpAny_bind (wpAny_attempt (wpAny_callSpecial?_slot (name := Str.ofString "__next__") hTy F.slot_zip_next
    (wpAny_call_entry F.slot_zip_next hTy F.entry_zip_next (go hh fun h' e hk he => ?_) (F.args_zip_next_1 _))))
  obtain ⟨o, ho, hc⟩ := he
  exact wpAny_bind (wpAny_isInstance (T := "StopIteration") (b := true) ⟨o, ho, hc⟩ isSubtype_stop (wpAny_pure (hQ _ hk)))
/-- the zip before its first pair, and behind it -/
def ZS (h : Heap) (z TI TO i1 i2 : Addr) : Prop :=
  (IsZip h z TI TO .none ∧ ∃ a b, IsPair h TO a b) ∨ ∃ T f oT, IsZipHeld h z TI TO T f ∧ h.get? T = some oT ∧ T ≠ z ∧ T ≠ TO ∧ T ≠ i1 ∧ T ≠ i2
theorem ZS.ty {h : Heap} {z TI TO i1 i2 : Addr} (x : ZS h z TI TO i1 i2) : ∃ o, h.get? z = some o ∧ o.cls = .type "zip" := by
  rcases x with ⟨x, _⟩ | ⟨_, _, _, x, _⟩ <;> exact ⟨_, x, rfl⟩
theorem ZS.kept {h h' : Heap} {z TI TO i1 i2 : Addr} (x : ZS h z TI TO i1 i2) {S : Addr} (hS : ∀ b o, b ≠ S → h.get? b = some o → h'.get? b = some o) (zS : z ≠ S) (TS : TO ≠ S) {o2 : Obj} (hs : ∀ o, h.get? S = some o → ∃ o', h'.get? S = some o') : ZS h' z TI TO i1 i2 := by
  rcases x with ⟨x, a, b, y⟩ | ⟨T, f, oT, x, y, n1, n2, n3, n4⟩
  · exact .inl ⟨hS _ _ zS x, a, b, hS _ _ TS y⟩
  · by_cases e : T = S
    · subst e
      obtain ⟨o', ho'⟩ := hs _ y
      exact .inr ⟨T, f, o', hS _ _ zS x, ho', n1, n2, n3, n4⟩
    · exact .inr ⟨T, f, oT, hS _ _ zS x, hS _ _ e y, n1, n2, n3, n4⟩
theorem zs_item {p q : Bool} {z TI TO i1 i2 l1 l2 : Addr} {k1 k2 : Nat} {xs ys : Array Value} {x y : Value} {Q : Option Value → Shared → Prop} (D : ZipApart z TI TO i1 i2 l1 l2)
    (hz : ZS s.heap z TI TO i1 i2) (hTI : IsPair s.heap TI (.ref i1) (.ref i2))
    (h1 : Itr p s.heap i1 l1 k1) (h2 : Itr q s.heap i2 l2 k2) (hl1 : Sq p s.heap l1 xs) (hl2 : Sq q s.heap l2 ys) (hx : xs[k1]? = some x) (hy : ys[k2]? = some y)
    (hTOl : ∃ o, s.heap.get? TO = some o) (h1l : i1 < s.heap.objs.size) (h2l : i2 < s.heap.objs.size)
    (hQ : ∀ h', ZS h' z TI TO i1 i2 → Itr p h' i1 l1 (k1 + 1) → Itr q h' i2 l2 (k2 + 1) → IsPair h' s.heap.objs.size x y → h'.objs.size = s.heap.objs.size + 1 → (∃ o, h'.get? TO = some o) →
      (∀ c o, c ≠ z → c ≠ TO → c ≠ i1 → c ≠ i2 → s.heap.get? c = some o → h'.get? c = some o) → Q (some (.ref s.heap.objs.size)) { s with heap := h' }) :
    wpAny (model prog w) A (pyNext (.ref z)) Q E s := by
  obtain ⟨oo, hoo⟩ := hTOl
  rcases hz with ⟨hz, a, b, hTO⟩ | ⟨T, f, oT, hz, hT, n1, n2, n3, n4⟩
  · refine zip_nextV D hz hTI hTO h1 h2 hl1 hl2 hx hy fun h' z' TO' r1 r2 hp hsz hk => ?_
    have lz : z < s.heap.objs.size := Heap.lt_size hz
    have lT : TO < s.heap.objs.size := Heap.lt_size hTO
    exact hQ h' (.inr ⟨s.heap.objs.size, false, _, z', hp, Nat.ne_of_gt lz, Nat.ne_of_gt lT, Nat.ne_of_gt h1l, Nat.ne_of_gt h2l⟩) r1 r2 hp hsz ⟨_, TO'⟩ hk
  · refine held_item D hz hT hTI h1 h2 hl1 hl2 hx hy fun h' z' r1 r2 hp hsz hk => ?_
    exact hQ h' (.inr ⟨T, true, oT, z', hk _ _ n1 n3 n4 hT, n1, n2, n3, n4⟩) r1 r2 hp hsz ⟨oo, hk _ _ D.TOz D.TOi1 D.TOi2 hoo⟩ fun c o c1 _ c2 c3 e => hk c o c1 c2 c3 e
theorem zs_end {p q : Bool} {z TI TO i1 i2 l1 l2 : Addr} {k1 k2 : Nat} {xs ys : Array Value} {Q : Option Value → Shared → Prop} (hh : A.handled = none) (D : ZipApart z TI TO i1 i2 l1 l2)
    (hz : ZS s.heap z TI TO i1 i2) (hTI : IsPair s.heap TI (.ref i1) (.ref i2))
    (h1 : Itr p s.heap i1 l1 k1) (h2 : Itr q s.heap i2 l2 k2) (hl1 : Sq p s.heap l1 xs) (hl2 : Sq q s.heap l2 ys) (hend : xs[k1]? = none ∨ ys[k2]? = none)
    (hQ : ∀ h', (∀ c o, c ≠ z → c ≠ TO → c ≠ i1 → c ≠ i2 → s.heap.get? c = some o → h'.get? c = some o) → Q none { s with heap := h' }) :
    wpAny (model prog w) A (pyNext (.ref z)) Q E s := by
  rcases hz with ⟨hz, a, b, hTO⟩ | ⟨T, f, oT, hz, hT, n1, n2, n3, n4⟩
  · exact zip_nextN hh D hz hTI hTO h1 h2 hl1 hl2 hend hQ
  · exact held_end hh D hz hT hTI h1 h2 hl1 hl2 hend hQ
/-- all that the walk needs -/
structure ZA (p q : Bool) (h : Heap) (z TI TO i1 i2 l1 l2 : Addr) (xs ys : Array Value) (k : Nat) : Prop where
  z : ZS h z TI TO i1 i2
  TI : IsPair h TI (.ref i1) (.ref i2)
  a : Itr p h i1 l1 k
  b : Itr q h i2 l2 k
  x : Sq p h l1 xs
  y : Sq q h l2 ys
  TO : ∃ o, h.get? TO = some o
theorem Sq.keep {b : Bool} {h h' : Heap} {l : Addr} {xs : Array Value} (x : Sq b h l xs) (k : ∀ o, h.get? l = some o → h'.get? l = some o) : Sq b h' l xs := by
  cases b
  · obtain ⟨o, e, r⟩ := (show h.IsList l xs from x)
    exact ⟨o, k o e, r⟩
  · obtain ⟨o, e, r⟩ := (show h.IsTuple l xs from x)
    exact ⟨o, k o e, r⟩
theorem Itr.lt {b : Bool} {h : Heap} {it l : Addr} {i : Nat} (x : Itr b h it l i) : it < h.objs.size := by
  obtain ⟨o, e, _⟩ := x.obj
  exact Heap.lt_size e
theorem ZA.kept {p q : Bool} {h h' : Heap} {z TI TO i1 i2 l1 l2 S : Addr} {xs ys : Array Value} {k : Nat} (x : ZA p q h z TI TO i1 i2 l1 l2 xs ys k) (hS : ∀ b o, b ≠ S → h.get? b = some o → h'.get? b = some o)
    (hs : ∀ o, h.get? S = some o → ∃ o', h'.get? S = some o') (n : S ∉ [z, TI, TO, i1, i2, l1, l2]) : ZA p q h' z TI TO i1 i2 l1 l2 xs ys k := by
  simp only [List.mem_cons, List.not_mem_nil, or_false, not_or] at n
  obtain ⟨n1, n2, n3, n4, n5, n6, n7⟩ := n
  obtain ⟨oo, hoo⟩ := x.TO
  exact ⟨x.z.kept hS (Ne.symm n1) (Ne.symm n3) (o2 := oo) hs, hS _ _ (Ne.symm n2) x.TI, x.a.at fun o => hS _ o (Ne.symm n4), x.b.at fun o => hS _ o (Ne.symm n5), x.x.keep fun o => hS _ o (Ne.symm n6), x.y.keep fun o => hS _ o (Ne.symm n7), _, hS _ _ (Ne.symm n3) hoo⟩
end
/-- new tuples of pairs, at rising places -/
def NewPs (h : Heap) (b : Nat) (ts : List Addr) (ps : List (Value × Value)) : Prop :=
  Paired (fun (t : Addr) (p : Value × Value) => IsPair h t p.1 p.2) ts ps ∧ (∀ t ∈ ts, b ≤ t) ∧ ts.Pairwise (· < ·)
theorem push_app (acc : Array Value) (t : Addr) (ts : List Addr) : acc.push (.ref t) ++ (ts.map Value.ref).toArray = acc ++ ((t :: ts).map Value.ref).toArray := by
  apply Array.toList_inj.mp
  simp
section
variable {prog : Program} {w : World} {A : Around} {R : Result → Shared → Prop} {p q : Bool} {z TI TO i1 i2 l1 l2 S : Addr} {xs ys : Array Value}
theorem loop_zip (hh : A.in1.handled = none) (D : ZipApart z TI TO i1 i2 l1 l2) (hS : S ∉ [z, TI, TO, i1, i2, l1, l2]) (res : Value) :
    ∀ (ps : List (Value × Value)) (k : Nat) (s : Shared) (acc : Array Value) (c : Nat), ZA p q s.heap z TI TO i1 i2 l1 l2 xs ys k → (∀ j, (ps[j]?).map (·.1) = if ys[k + j]? = none then none else xs[k + j]?) → (∀ j, (ps[j]?).map (·.2) = if xs[k + j]? = none then none else ys[k + j]?) →
    s.heap.get? S = some { cls := .type "list", dict := none, data := .seq acc c, slots := #[] } → acc.size + ps.length ≤ sizeLine →
    (∀ h' ts c', NewPs h' s.heap.objs.size ts ps → h'.get? S = some { cls := .type "list", dict := none, data := .seq (acc ++ (ts.map Value.ref).toArray) c', slots := #[] } →
      (∀ b o, b ∉ [S, z, TO, i1, i2] → s.heap.get? b = some o → h'.get? b = some o) → R (.ok (.ret res)) { s with heap := h' }) →
    codeAny (model prog w) A (.builtin "list.extend.loop" ⟨[.ref S, .ref z, res], []⟩) R s
  | [], k, s, acc, c, Z, hx, hy, hS', hz, hR => by
    refine codeAny_builtin PySem.F.entry_extend_loop ?_
    rw [Around.under_plainId PySem.F.plain_extend_loop _]
    show wpAny _ A.in1 (pyNext (.ref z) >>= _) _ _ s
    have e1 := hx 0
    have e2 := hy 0
    have hend : xs[k]? = none ∨ ys[k]? = none := by
      simp only [List.getElem?_nil, Option.map_none, Nat.add_zero] at e1 e2
      cases h : ys[k]? with
      | none => exact .inr rfl
      | some v => left; rw [h] at e1; simpa using e1.symm
    refine wpAny_bind (zs_end hh D Z.z Z.TI Z.a Z.b Z.x Z.y hend fun h' hk => ?_)
    simp only [List.mem_cons, List.not_mem_nil, or_false, not_or] at hS
    obtain ⟨n1, n2, n3, n4, n5, n6, n7⟩ := hS
    refine wpAny_pure (hR h' [] c ⟨.nil, by simp, .nil⟩ ?_ fun b o hb e => ?_)
    · simpa using hk S _ n1 n3 n4 n5 hS'
    · simp only [List.mem_cons, List.not_mem_nil, or_false, not_or] at hb
      exact hk b o hb.2.1 hb.2.2.1 hb.2.2.2.1 hb.2.2.2.2 e
  | (x, y) :: ps, k, s, acc, c, Z, hx, hy, hS', hz, hR => by
    refine codeAny_builtin PySem.F.entry_extend_loop ?_
    rw [Around.under_plainId PySem.F.plain_extend_loop _]
    show wpAny _ A.in1 (pyNext (.ref z) >>= _) _ _ s
    have e1 := hx 0
    have e2 := hy 0
    simp only [List.getElem?_cons_zero, Option.map_some, Nat.add_zero] at e1 e2
    have ex : xs[k]? = some x := by
      cases h : ys[k]? with
      | none => rw [h] at e1; simp at e1
      | some v => rw [h] at e1; simpa using e1.symm
    have ey : ys[k]? = some y := by
      rw [ex] at e2; simpa using e2.symm
    have lS := Heap.lt_size hS'
    refine wpAny_bind (zs_item D Z.z Z.TI Z.a Z.b Z.x Z.y ex ey Z.TO Z.a.lt Z.b.lt fun h' z' a' b' hp hsz hTO hk => ?_)
    have nS := hS
    simp only [List.mem_cons, List.not_mem_nil, or_false, not_or] at nS
    obtain ⟨n1, n2, n3, n4, n5, n6, n7⟩ := nS
    have hS1 := hk S _ n1 n3 n4 n5 hS'
    show wpAny _ A.in1 (updateSeq S (·.push (.ref s.heap.objs.size)) >>= _) _ _ _
    refine wpAny_bind ?_
    have hl : acc.size + 1 ≤ sizeLine := by simp only [List.length_cons] at hz; omega
    have Z1 : ZA p q h' z TI TO i1 i2 l1 l2 xs ys (k + 1) := ⟨z', hk _ _ D.TIz D.TITO D.TIi1 D.TIi2 Z.TI, a', b', Z.x.keep fun o => hk _ o D.l1z D.l1TO D.l1i1 D.l1i2, Z.y.keep fun o => hk _ o D.l2z D.l2TO D.l2i1 D.l2i2, hTO⟩
    have hS2 := Heap.get?_update_self (Obj.mapSeq (·.push (Value.ref s.heap.objs.size))) hS1 rfl
    have oth : ∀ b o, b ≠ S → h'.get? b = some o → (h'.update S (Obj.mapSeq (·.push (Value.ref s.heap.objs.size)))).get? b = some o := fun b o hb e => (Heap.get?_update_other _ _ (Ne.symm hb)).trans e
    have Z2 := Z1.kept (S := S) oth (fun o _ => ⟨_, hS2⟩) hS
    have lz : z < s.heap.objs.size := by obtain ⟨o, e, _⟩ := Z.z.ty; exact Heap.lt_size e
    have lT : TO < s.heap.objs.size := by obtain ⟨o, e⟩ := Z.TO; exact Heap.lt_size e
    refine wpAny_updateSeq hS1 rfl (wpAny_pure ⟨plainId_quiet PySem.F.plain_extend_loop _, loop_zip hh D hS res ps (k + 1) { s with heap := h'.update S (Obj.mapSeq (·.push (Value.ref s.heap.objs.size))) } (acc.push (.ref s.heap.objs.size)) _ Z2 (fun j => ?_) (fun j => ?_) hS2 ?_ fun h2 ts c2 N hS3 hk2 => ?_⟩) (by omega) (by show (acc.push _).size ≤ sizeLine + 1; rw [Array.size_push]; omega)
    · have := hx (j + 1); rw [List.getElem?_cons_succ, show k + (j + 1) = k + 1 + j by omega] at this; exact this
    · have := hy (j + 1); rw [List.getElem?_cons_succ, show k + (j + 1) = k + 1 + j by omega] at this; exact this
    · rw [Array.size_push]; simp only [List.length_cons] at hz; omega
    · have hsz2 : (h'.update S (Obj.mapSeq (·.push (Value.ref s.heap.objs.size)))).objs.size = s.heap.objs.size + 1 := by rw [Heap.size_update, hsz]
      refine hR h2 (s.heap.objs.size :: ts) c2 ⟨.cons ?_ N.1, fun t ht => ?_, .cons (fun t ht => ?_) N.2.2⟩ ?_ fun b o hb e => ?_
      · refine hk2 _ _ ?_ (oth _ _ (Nat.ne_of_gt lS) hp)
        simp only [List.mem_cons, List.not_mem_nil, or_false, not_or]
        exact ⟨Nat.ne_of_gt lS, Nat.ne_of_gt lz, Nat.ne_of_gt lT, Nat.ne_of_gt Z.a.lt, Nat.ne_of_gt Z.b.lt⟩
      · rcases List.mem_cons.mp ht with rfl | ht
        · exact Nat.le_refl _
        · exact Nat.le_of_succ_le (by have := N.2.1 t ht; rwa [hsz2] at this)
      · have := N.2.1 t ht
        rw [hsz2] at this
        exact this
      · rw [hS3, push_app]
      · have hb' := hb
        simp only [List.mem_cons, List.not_mem_nil, or_false, not_or] at hb'
        exact hk2 b o hb (oth b o hb'.1 (hk b o hb'.2.1 hb'.2.2.1 hb'.2.2.2.1 hb'.2.2.2.2 e))
theorem list_zip {E : Value → Shared → Prop} {s : Shared} (hh : A.in1.in1.handled = none) (D : ZipApart z TI TO i1 i2 l1 l2) (Z : ZA p q s.heap z TI TO i1 i2 l1 l2 xs ys 0) (ps : List (Value × Value))
    (hx : ∀ j : Nat, (ps[j]?).map (·.1) = if ys[j]? = none then none else xs[j]?) (hy : ∀ j : Nat, (ps[j]?).map (·.2) = if xs[j]? = none then none else ys[j]?) (hz : ps.length ≤ sizeLine) {Q : Value → Shared → Prop}
    (hQ : ∀ h' ts c', NewPs h' (s.heap.objs.size + 1) ts ps → h'.get? s.heap.objs.size = some { cls := .type "list", dict := none, data := .seq (ts.map Value.ref).toArray c', slots := #[] } →
      (∀ b o, b ∉ [z, TO, i1, i2] → s.heap.get? b = some o → h'.get? b = some o) → Q (.ref s.heap.objs.size) { s with heap := h' }) :
    wpAny (model prog w) A (call (.type "list") [.ref z]) Q E s := by
  obtain ⟨oz, hoz, cz⟩ := Z.z.ty
  have lz := Heap.lt_size hoz
  obtain ⟨oo, hoo⟩ := Z.TO
  have hS : s.heap.objs.size ∉ [z, TI, TO, i1, i2, l1, l2] := by
    simp only [List.mem_cons, List.not_mem_nil, or_false, not_or]
    refine ⟨Nat.ne_of_gt lz, Nat.ne_of_gt (Heap.lt_size Z.TI), Nat.ne_of_gt (Heap.lt_size hoo), Nat.ne_of_gt Z.a.lt, Nat.ne_of_gt Z.b.lt, Nat.ne_of_gt Z.x.lt, Nat.ne_of_gt Z.y.lt⟩
  refine callType_codes (Q₁ := fun obj s₁ => obj = .ref s.heap.objs.size ∧ s₁ = { s with heap := s.heap.push { cls := .type "list", data := .seq #[] } }) PySem.F.called_list (PySem.F.typeCall_list_1 _) PySem.F.entry_list_init
    (code_list_new _ ⟨rfl, rfl⟩) fun obj s₁ h₁ => ?_
  obtain ⟨rfl, rfl⟩ := h₁
  have hS1 : (s.heap.push { cls := .type "list", data := .seq #[] }).get? s.heap.objs.size = some { cls := .type "list", data := .seq #[] } := Heap.get?_push_size _ rfl
  refine ⟨⟨_, hS1, rfl⟩, PySem.F.args_list_init_2 _ _, ?_⟩
  have up : ∀ b o, b ≠ s.heap.objs.size → s.heap.get? b = some o → (s.heap.push { cls := .type "list", data := .seq #[] }).get? b = some o := fun b o _ e => Heap.get?_push_of_some _ e
  have Z1 := Z.kept up (fun o e => absurd (Heap.lt_size e) (Nat.lt_irrefl _)) hS
  generalize hh1 : s.heap.push { cls := .type "list", data := .seq #[] } = g1 at *
  have g1s : g1.objs.size = s.heap.objs.size + 1 := by rw [← hh1, Heap.size_push]
  show wpAny _ A.in1.in1 (do let old ← Builtin.List.listItems (.ref s.heap.objs.size); Builtin.List.listUpdate (.ref s.heap.objs.size) (fun _ => #[]); letGo old.toList.reverse; Builtin.List.listExtendWith (.ref s.heap.objs.size) (.ref z) .none) _ _ { s with heap := g1 }
  refine wpAny_bind ?_
  unfold Builtin.List.listItems
  refine wpAny_bind (wpAny_seqItems hS1 rfl (wpAny_pure ?_))
  show wpAny _ A.in1.in1 (updateSeq s.heap.objs.size (fun _ => #[]) >>= fun _ => letGo (#[] : Array Value).toList.reverse >>= fun _ => Builtin.List.listExtendWith (.ref s.heap.objs.size) (.ref z) .none) _ _ { s with heap := g1 }
  refine wpAny_bind (wpAny_updateSeq hS1 rfl ?_)
  have hS₂ := Heap.get?_update_self (Obj.mapSeq (fun _ => (#[] : Array Value))) hS1 rfl
  have oth2 : ∀ b o, b ≠ s.heap.objs.size → g1.get? b = some o → (g1.update s.heap.objs.size (Obj.mapSeq (fun _ => (#[] : Array Value)))).get? b = some o :=
    fun b o hb e => (Heap.get?_update_other _ _ (Ne.symm hb)).trans e
  have Z2 := Z1.kept oth2 (fun o _ => ⟨_, hS₂⟩) hS
  have s2 : (g1.update s.heap.objs.size (Obj.mapSeq (fun _ => (#[] : Array Value)))).objs.size = s.heap.objs.size + 1 := by rw [Heap.size_update, g1s]
  generalize hh2 : g1.update s.heap.objs.size (Obj.mapSeq (fun _ => (#[] : Array Value))) = g2 at *
  refine wpAny_bind (wpAny_letGo ?_)
  unfold Builtin.List.listExtendWith
  have hT : Shared.TypeIs { s with heap := g2 } (.ref z) "zip" := by obtain ⟨o, e, c⟩ := Z2.z.ty; exact ⟨o, e, c⟩
  refine wpAny_bind (wpAny_typeOf hT ?_)
  have h1 : Builtin.List.listSameRef (.ref s.heap.objs.size) (.ref z) = false := by simp [Builtin.List.listSameRef, Nat.ne_of_gt lz]
  have h2 : (Value.type "zip" == Value.type "list") = false := by decide
  have h3 : (Value.type "zip" == Value.type "tuple") = false := by decide
  simp only [h1, h2, h3, Bool.or_false, Bool.false_eq_true, if_false]
  have hit : ∀ {B : Around} {E' : Value → Shared → Prop} {Q' : Value → Shared → Prop}, Q' (.ref z) { s with heap := g2 } → wpAny (model prog w) B (pyIter (.ref z)) Q' E' { s with heap := g2 } := fun {B E' Q'} h => by
    refine wpAny_pyIter_slot hT PySem.F.slot_zip_iter (wpAny_call_entry PySem.F.slot_zip_iter hT PySem.F.entry_zip_iter ?_ (PySem.F.args_zip_iter_1 _))
    show wpAny _ _ (ret (.ref z)) _ _ _
    exact wpAny_pure ⟨_, rfl, "zip", _, hT, PySem.F.slot_zip_next.lookup, h⟩
  refine wpAny_bind (hit ?_)
  refine wpAny_bind (wpAny_holding ?_)
  unfold Builtin.List.listLengthHint
  refine wpAny_bind (wpAny_specialOf hT nolen_zip ?_)
  show wpAny _ A.in1.in1 (specialOf (Value.ref z) (Str.ofString "__length_hint__") >>= _) _ _ _
  refine wpAny_bind (wpAny_specialOf hT nohint_zip ?_)
  refine wpAny_pure ?_
  show wpAny _ A.in1.in1 (rule "list.extend.makes-room" >>= fun _ => Builtin.List.listTouch (.ref s.heap.objs.size) >>= fun _ =>
    again (.builtin "list.extend.loop" ⟨[.ref s.heap.objs.size, .ref z, .none], []⟩)) _ _ _
  refine wpAny_bind (wpAny_rule ?_)
  refine wpAny_bind ?_
  show wpAny _ A.in1.in1 (updateSeq s.heap.objs.size (·.push .none) >>= fun _ => updateSeq s.heap.objs.size (·.pop)) _ _ _
  refine wpAny_bind (wpAny_updateSeq hS₂ rfl ?_)
  have hS3 := Heap.get?_update_self (Obj.mapSeq (·.push Value.none)) hS₂ rfl
  refine wpAny_updateSeq (hz := by seq_fits) hS3 rfl ?_
  have hS4 := Heap.get?_update_self (Obj.mapSeq (·.pop)) hS3 rfl
  have oth : ∀ b o, b ≠ s.heap.objs.size → g2.get? b = some o → ((g2.update s.heap.objs.size (Obj.mapSeq (·.push Value.none))).update s.heap.objs.size (Obj.mapSeq (·.pop))).get? b = some o :=
    fun b o hb e => (Heap.get?_update_other _ _ (Ne.symm hb)).trans ((Heap.get?_update_other _ _ (Ne.symm hb)).trans e)
  have Z4 := Z2.kept oth (fun o _ => ⟨_, hS4⟩) hS
  have s4 : ((g2.update s.heap.objs.size (Obj.mapSeq (·.push Value.none))).update s.heap.objs.size (Obj.mapSeq (·.pop))).objs.size = s.heap.objs.size + 1 := by rw [Heap.size_update, Heap.size_update, s2]
  refine wpAny_pure ⟨plainId_quiet PySem.F.plain_extend_loop _, loop_zip hh D hS .none ps 0 _ _ _ Z4 (fun j => by rw [Nat.zero_add]; exact hx j) (fun j => by rw [Nat.zero_add]; exact hy j) hS4 (by simpa using hz) fun h' ts c' N hf hk => ?_⟩
  refine ⟨rfl, hQ h' ts c' ?_ (by rw [hf]; simp) fun b o hb e => ?_⟩
  · rw [← s4]
    exact N
  · have n : b ≠ s.heap.objs.size := Nat.ne_of_lt (Heap.lt_size e)
    exact hk b o (by simp only [List.mem_cons] at hb ⊢; simp only [n, false_or]; exact hb) (oth b o n (oth2 b o n (up b o n e)))
end
/-- the pairs tracked at their addresses -/
def putP : Hp → List Addr → List (V × V) → Hp
  | H, a :: as, p :: ps => putP (upd H a (.tup [p.1, p.2])) as ps
  | H, _, _ => H
theorem putP_off {b : Addr} : ∀ (as : List Addr) (ps : List (V × V)) (H : Hp), b ∉ as → putP H as ps b = H b
  | [], _, _, _ => rfl
  | _ :: _, [], _, _ => rfl
  | a :: as, p :: ps, H, h => by
    show putP (upd H a (.tup [p.1, p.2])) as ps b = H b
    rw [putP_off as ps _ (fun z => h (List.mem_cons_of_mem _ z)), upd_ne (fun z => h (by rw [z]; exact List.mem_cons_self))]
theorem putP_at : ∀ (as : List Addr) (ps : List (V × V)) (H : Hp), as.length = ps.length → as.Nodup → Paired (fun (t : Addr) (p : V × V) => putP H as ps t = some (.tup [p.1, p.2])) as ps
  | [], [], _, _, _ => .nil
  | [], _ :: _, _, h, _ => by cases h
  | _ :: _, [], _, h, _ => by cases h
  | a :: as, p :: ps, H, h, hn => by
    have hn' := List.nodup_cons.mp hn
    have ih := putP_at as ps (upd H a (.tup [p.1, p.2])) (Nat.succ.inj h) hn'.2
    refine .cons ?_ ih
    show putP (upd H a (.tup [p.1, p.2])) as ps a = some (.tup [p.1, p.2])
    rw [putP_off as ps _ hn'.1, upd_same]
theorem pairs_laid {X : Cx} {pins : List (Addr × Obj)} {σ : L2.St} {H : Hp} {s : Shared} {h' : Heap} {ps : List (V × V)} {us : List (Value × Value)} {c : Nat} {ts : List Addr} (I : Inv X pins σ H s) (hz : ps.length ≤ sizeLine)
    (rel : Paired (fun (p : V × V) (u : Value × Value) => RelV p.1 u.1 ∧ RelV p.2 u.2) ps us) (hk : ∀ b o, s.heap.get? b = some o → h'.get? b = some o) {l : Addr} (hl0 : s.heap.objs.size ≤ l) (hl : ∀ t ∈ ts, l < t)
    (hS : h'.get? l = some { cls := .type "list", dict := none, data := .seq (ts.map Value.ref).toArray c, slots := #[] }) (N : NewPs h' l ts us) :
    H l = none ∧ (∀ t ∈ ts, H t = none) ∧ ts.Nodup ∧ l ∉ ts ∧ ts.length = ps.length ∧ Inv X pins σ (upd (putP H ts ps) l (.lst (ts.map V.ref))) { s with heap := h' } := by
  have lk : ps.length = us.length := Paired.length rel
  have lt : ts.length = us.length := Paired.length N.1
  have hln : l ∉ ts := fun z => Nat.lt_irrefl _ (hl _ z)
  have nd : ts.Nodup := List.Pairwise.imp (fun {a b} (h : a < b) => Nat.ne_of_lt h) N.2.2
  have new : ∀ t ∈ ts, H t = none := fun t ht => I.hok.fresh (Nat.le_trans hl0 (Nat.le_of_lt (hl t ht)))
  have newS : H l = none := I.hok.fresh hl0
  have atP := putP_at ts ps H (by omega) nd
  have off : ∀ b, b ∉ ts → b ≠ l → upd (putP H ts ps) l (.lst (ts.map V.ref)) b = H b := fun b h1 h2 => by rw [upd_ne h2, putP_off ts ps _ h1]
  have low : ∀ b o, s.heap.get? b = some o → b ∉ ts ∧ b ≠ l := fun b o e => ⟨fun z => absurd (Heap.lt_size e) (Nat.not_lt.mpr (Nat.le_trans hl0 (Nat.le_of_lt (hl b z)))), Nat.ne_of_lt (Nat.lt_of_lt_of_le (Heap.lt_size e) hl0)⟩
  have kp : ∀ b u, H b = some u → (upd (putP H ts ps) l (.lst (ts.map V.ref))) b = some u := fun b u e => by
    rw [off b (fun z => by rw [new b z] at e; cases e) (fun z => by rw [z, newS] at e; cases e)]
    exact e
  refine ⟨newS, new, nd, hln, by omega, I.call' (ch := []) rfl ⟨fun b o q _ _ _ => hk b o q, fun b o q _ _ _ => ⟨o.slots, hk b o q⟩, fun b o q n _ => ?_, fun b o q _ => ⟨o, hk b o q⟩, fun b xs q => kp b _ q, fun b o u q => kp b _ q, fun b ps q => ⟨#[], by rw [kp b _ q]; simp⟩⟩ (fun b u q => ?_) I.bare fun b z => by simp at z⟩
  · obtain ⟨z1, z2⟩ := low b o q
    rw [off b z1 z2]
    exact n
  · by_cases hb2 : b = l
    · rw [hb2] at q ⊢
      rw [upd_same] at q
      cases q
      exact ⟨by rw [List.length_map]; omega, ts.map Value.ref, c, LiI.vals_refs ts, hS⟩
    · by_cases hb : b ∈ ts
      · obtain ⟨j, pk, e1, e2, e3⟩ := LiI.paired_ix atP hb
        rw [upd_ne hb2, e3] at q
        cases q
        obtain ⟨u2, g1, g2⟩ := LiI.paired_get N.1 e1
        obtain ⟨u3, g3, g4⟩ := LiI.paired_get rel e2
        rw [g1] at g3
        cases g3
        exact ⟨by show 2 ≤ sizeLine; decide, [u2.1, u2.2], .cons g4.1 (.cons g4.2 .nil), ⟨_, g2, rfl, _, rfl⟩⟩
      · rw [off b hb hb2] at q
        exact (I.hok b u q).stay (fun d v _ y => hk d v y) (fun d y => kp d _ y) fun d xs y => kp d _ y
theorem paired_zip : ∀ {xs ys : List V} {us vs : List Value}, Vals xs us → Vals ys vs → Paired (fun (p : V × V) (u : Value × Value) => RelV p.1 u.1 ∧ RelV p.2 u.2) (xs.zip ys) (us.zip vs)
  | _, _, _, _, .nil, _ => by rw [List.zip_nil_left, List.zip_nil_left]; exact .nil
  | _, _, _, _, .cons _ _, .nil => by rw [List.zip_nil_right, List.zip_nil_right]; exact .nil
  | _, _, _, _, .cons a r, .cons b t => by rw [List.zip_cons_cons, List.zip_cons_cons]; exact .cons ⟨a, b⟩ (paired_zip r t)
theorem zip_fst : ∀ (us vs : List Value) (j : Nat), ((us.zip vs)[j]?).map (·.1) = if vs[j]? = none then none else us[j]?
  | [], vs, j => by simp
  | u :: us, [], j => by simp
  | u :: us, v :: vs, 0 => by simp
  | u :: us, v :: vs, j + 1 => by simpa using zip_fst us vs j
theorem zip_snd : ∀ (us vs : List Value) (j : Nat), ((us.zip vs)[j]?).map (·.2) = if us[j]? = none then none else vs[j]?
  | [], vs, j => by simp
  | u :: us, [], j => by simp
  | u :: us, v :: vs, 0 => by simp
  | u :: us, v :: vs, j + 1 => by simpa using zip_snd us vs j
def tListZip (K : PySem.W.Frag) (ta : TA) : TE := fun σ H Q => ta σ H fun vs H1 => ∃ p q a b xs ys, vs = [.ref a, .ref b] ∧ SqX p K H1 a xs ∧ SqX q K H1 b ys ∧
  ∀ ts l, H1 l = none → (∀ t ∈ ts, H1 t = none) → ts.Nodup → l ∉ ts → ts.length = (xs.zip ys).length → Q (.ref l) (upd (putP H1 ts (xs.zip ys)) l (.lst (ts.map V.ref)))
theorem pe_listZip {X : Cx} {e e2 : Expr} {ta : TA} {p pos p2 pos2 : Pos} (hc : X.calm = true) (hg : Gl X "list") (hm : X.mg "list" = none) (hg2 : Gl X "zip") (hm2 : X.mg "zip" = none) (ha : PA X [e, e2] ta)
    (hs : starEach [e, e2] X.env = (false, eval e X.env) :: starEach [e2] X.env := by rfl) (hpl : (backTo pos2 (starEach [e2] X.env)).any (·.1) = false := by rfl)
    (hn : starEach [.Call (.Name "zip" p2) [e, e2] [] pos2] X.env = (false, eval (.Call (.Name "zip" p2) [e, e2] [] pos2) X.env) :: starEach [] X.env := by rfl) :
    PE X (.Call (.Name "list" p) [.Call (.Name "zip" p2) [e, e2] [] pos2] [] pos) (tListZip X.K ta) := by
  refine ⟨fun pins s σ H Q I h => ?_⟩
  refine Call_ (ld_blt I hg hm boot_list (PyProof.Rows.callWith_type1 (args_cons (Call_ (ld_blt I hg2 hm2 PyProof.Rows.boot_zip (PyProof.Rows.callWith_type1 (thn (ha.run pos2 pins s σ H _ I h) fun us s1 ⟨vs, H1, I1, r1, q1⟩ => ?_) hs hpl))) hn) hn))
  obtain ⟨p, q, a, b, xs, ys, ex, hqx, hqy, q1⟩ := q1
  subst ex
  cases r1 with
  | cons r rr =>
    cases rr with
    | cons r' rr =>
      cases rr
      cases r
      cases r'
      obtain ⟨its, rv, pl⟩ := inv_sq I1 hqx
      obtain ⟨its2, rv2, pl2⟩ := inv_sq I1 hqy
      refine call_zipM pl pl2 fun h' hz hTI hTO t1 t2 hk => args_nil ?_
      have lz1 : (xs.zip ys).length ≤ sizeLine := by
        rw [List.length_zip]
        cases p with
        | false => obtain ⟨_, r, _, hz⟩ := I1.list (show SqL X.K H1 a xs from hqx); omega
        | true => obtain ⟨_, r, _, hz⟩ := I1.tuple (show SqT X.K H1 a xs from hqx); omega
      have n1 := rv.length
      have n2 := rv2.length
      have Z : ZA p q h' (s1.heap.objs.size + 4) (s1.heap.objs.size + 2) (s1.heap.objs.size + 3) s1.heap.objs.size (s1.heap.objs.size + 1) a b its.toArray its2.toArray 0 :=
        ⟨.inl ⟨hz, _, _, hTO⟩, hTI, t1, t2, pl.keep fun o => hk _ o, pl2.keep fun o => hk _ o, _, hTO⟩
      have I2 : Inv X pins σ H1 { s1 with heap := h' } := I1.kept (t' := s1.toks) hk
      refine list_zip (s := { s1 with heap := h' }) (I1.ok.hd hc) (PySem.W.ktu_apart s1.heap.objs.size a b pl.lt pl2.lt) Z (its.zip its2) (fun j => by simpa using zip_fst its its2 j) (fun j => by simpa using zip_snd its its2 j) (by rw [List.length_zip] at lz1 ⊢; omega) fun h2 ts c N hS hk2 => ?_
      have hsz : s1.heap.objs.size + 4 < h'.objs.size := Heap.lt_size hz
      have kk : ∀ b o, s1.heap.get? b = some o → h2.get? b = some o := fun b o e => by
        have lb := Heap.lt_size e
        refine hk2 b o ?_ (hk b o e)
        simp only [List.mem_cons, List.not_mem_nil, or_false, not_or]
        exact ⟨Nat.ne_of_lt (Nat.lt_of_lt_of_le lb (Nat.le_add_right _ _)), Nat.ne_of_lt (Nat.lt_of_lt_of_le lb (Nat.le_add_right _ _)), Nat.ne_of_lt lb, Nat.ne_of_lt (Nat.lt_of_lt_of_le lb (Nat.le_add_right _ _))⟩
      obtain ⟨f1, f2, f3, f4, f5, J⟩ := pairs_laid (h' := h2) I1 lz1 (paired_zip rv rv2) kk (l := h'.objs.size) (by show s1.heap.objs.size ≤ _; omega) (fun t ht => N.2.1 t ht) hS ⟨N.1, fun t ht => Nat.le_of_succ_le (N.2.1 t ht), N.2.2⟩
      exact ⟨.ref h'.objs.size, _, J, rfl, q1 ts _ f1 f2 f3 f4 f5⟩
end EvZip
namespace Ev
open PySem PySem.Spec L2 EvZip
section
variable {X : Cx} {W : WX} {a b : Expr} {as : SemDs} {t : TA} {p pos p2 pos2 : Pos}
theorem tups_known {m : Cells} : ∀ (ts : List Addr) (xs ys : List D) (us vs : List V) (w : Wd) (H : Hp), Wf X.K w H m → (∀ t ∈ ts, H t = none) → ts.Nodup → RDs X.K w xs us → RDs X.K w ys vs → ts.length = (us.zip vs).length →
    ∃ w', Ext w H w' (putP H ts (us.zip vs)) ∧ Wf X.K w' (putP H ts (us.zip vs)) m ∧ WLe w w' ∧ RDs X.K w' (zipD xs ys) (ts.map V.ref)
  | [], xs, ys, _, _, w, H, Wm, _, _, r1, r2, hl => by
    refine ⟨w, ?_, ?_, .refl w, ?_⟩
    · exact Ext.refl w H
    · exact Wm
    · have l1 := r1.length
      have l2 := r2.length
      have e : (zipD xs ys).length = 0 := (zipD_len xs ys).trans (by rw [List.length_zip] at hl; simp only [List.length_nil] at hl; rw [l1, l2]; exact hl.symm)
      rw [List.length_eq_zero_iff.mp e]
      exact .nil
  | t :: ts, _, _, _, _, w, H, Wm, hn, hd, .nil, r2, hl => by simp at hl
  | t :: ts, _, _, _, _, w, H, Wm, hn, hd, .cons _ _, .nil, hl => by simp at hl
  | t :: ts, _, _, _, _, w, H, Wm, hn, hd, .cons (v := u) (vs := us) a r1, .cons (v := v) (vs := vs) b r2, hl => by
    have hd' := List.nodup_cons.mp hd
    obtain ⟨E, W2, L, f⟩ := new_known (X := X) (o := .tup [u, v]) Wm (hn t List.mem_cons_self)
    obtain ⟨w', E', W', L', r'⟩ := tups_known ts _ _ us vs _ _ W2 (fun t' h' => by
      rw [upd_ne (fun z => hd'.1 (by rw [← z]; exact h'))]; exact hn t' (List.mem_cons_of_mem _ h')) hd'.2 (r1.le L) (r2.le L) (by simpa using hl)
    refine ⟨w', E.trans E', W', L.trans L', ?_⟩
    show RDs X.K w' (.tup [_, _] :: zipD _ _) (V.ref t :: ts.map V.ref)
    exact .cons (RD.le L' (.tup (.inl (.inl f)) ((RDs.cons a (.cons b .nil)).le L))) r'
theorem putP_none {l : Addr} (ts : List Addr) (ps : List (V × V)) {H : Hp} (h : H l = none) (n : l ∉ ts) : putP H ts ps l = none := by rw [putP_off ts ps H n, h]
def rListZip (as : SemDs) : SemR := fun env m => (as env m).bind fun xs m1 => match xs with
  | [x, y] => (match sqD x, sqD y with
    | some xs, some ys => .ok (.fl (zipD xs ys)) m1
    | _, _ => .bot)
  | _ => .bot
theorem se_listZip (hc : X.calm = true) (hm : X.mg "list" = none) (hm2 : X.mg "zip" = none) (h : SAt X W [a, b] as t) (hg : Gl X "list" := by rfl) (hg2 : Gl X "zip" := by rfl)
    (hs : starEach [a, b] X.env = (false, eval a X.env) :: starEach [b] X.env := by rfl) (hpl : (backTo pos2 (starEach [b] X.env)).any (·.1) = false := by rfl)
    (hn : starEach [.Call (.Name "zip" p2) [a, b] [] pos2] X.env = (false, eval (.Call (.Name "zip" p2) [a, b] [] pos2) X.env) :: starEach [] X.env := by rfl) :
    SE X W (.Call (.Name "list" p) [.Call (.Name "zip" p2) [a, b] [] pos2] [] pos) (rListZip as) (tListZip X.K t) := by
  refine ⟨pe_listZip hc hg hm hg2 hm2 h.pa hs hpl hn, fun w H0 σ H env m Q Wm S q => ?_⟩
  refine h.rd w H0 σ H env m _ Wm S (WP.mono (WP.of_bind q) (fun xs m1 q w1 H1 vs E1 W1 r1 => ?_) fun _ _ z => z)
  split at q
  · rename_i x y
    split at q
    · rename_i xs ys e1 e2
      cases r1 with
      | cons r1 rr =>
        cases rr with
        | cons r2 rr =>
          cases rr
          obtain ⟨p, a, us, rfl, s1, q1⟩ := r1.sq e1
          obtain ⟨q', b, vs, rfl, s2, q2⟩ := r2.sq e2
          refine ⟨p, q', a, b, us, vs, rfl, sqX_sub W1.sub s1, sqX_sub W1.sub s2, fun ts l h1 h2 h3 h4 h5 => ?_⟩
          obtain ⟨w2, E2, W2, L2, r3⟩ := tups_known (X := X) ts xs ys us vs w1 H1 W1 h2 h3 q1 q2 h5
          exact new_lst W2 (putP_none ts _ h1 h4) r3 fun w' H' v E' W' rr => q w' H' v ((E1.trans E2).trans E') W' (rr.after (E1.trans E2))
    · exact q.elim
  · exact q.elim
end
section
variable {env : Env} {m : Cells}
def kLz (x y : Option (List D)) (m : Cells) : Res RV := match x, y with
  | some xs, some ys => .ok (.fl (zipD xs ys)) m
  | _, _ => .bot
@[simp] theorem kLz1 (xs ys : List D) : kLz (some xs) (some ys) m = .ok (.fl (zipD xs ys)) m := nr rfl
def kListZip (r : Res (List D)) : Res RV := r.bind fun xs m1 => match xs with
  | [x, y] => kLz (sqD x) (sqD y) m1
  | _ => .bot
@[simp] theorem kListZip1 (x y : D) : kListZip (.ok [x, y] m) = kLz (sqD x) (sqD y) m := nr rfl
@[simp] theorem ev_rListZip (as : SemDs) : rListZip as env m = kListZip (as env m) := nr rfl
end
end Ev
/-! Ev: tuple targets of comprehensions (the frame K told ahead). -/
namespace Ev
open PySem PySem.Spec L2
theorem sg_tupK {X : Cx} {K : PySem.W.Frag} {es : List Expr} {k : Nat} {is : List Nat} {t : TGs} {pos : Pos} (hk : X.K = K) (hc : X.calm = true) (h : SGs X es is t) (hn : (assignEach es X.env).length = is.length := by rfl) (hst : (assignEach es X.env).findIdx? (·.1) = none := by rfl) :
    SGt X (.Tuple es k pos) (gTupS is) is (gTup K is.length t) := by
  subst hk
  exact sg_tup hc h hn hst
end Ev
/-! Ev: max(list of ints, default=d). -/
namespace EvMx
open PySem PySem.Spec PyProof.Rows L2
def tMaxD (K : PySem.W.Frag) (ta td : TE) : TE := fun σ H Q => ta σ H fun x H1 => td σ H1 fun y H2 => ∃ (p : Addr) (ns : List Int), x = .ref p ∧ SqL K H2 p (ns.map V.int) ∧ (ns = [] → Q y H2) ∧ ∀ n l, ns = n :: l → Q (.int (PySem.W.maxOf n l)) H2
theorem hold_ints {h : Heap} : ∀ {ns : List Int} {us : List Value}, Vals (ns.map V.int) us → PySem.W.HoldAll h us ns
  | [], _, .nil => PySem.W.HoldAll.nil
  | n :: ns, _, .cons r rs => by
    obtain ⟨t, rfl⟩ := r
    exact .cons ⟨_, .int _ _⟩ (hold_ints rs)
section
variable {X : Cx} {a d : Expr} {ta td : TE} {p pos kpos : Pos}
theorem pe_maxD (hc : X.calm = true) (hu : X.A.units + 64 < cLine) (hg : Gl X "max") (hm : X.mg "max" = none) (ha : PE X a ta) (hd : PE X d td) (na : starEach [a] X.env = (false, eval a X.env) :: starEach [] X.env := by rfl)
    (he : backTo pos (starEach (a :: []) X.env) = (false, eval a X.env) :: backTo pos (starEach [] X.env) := by rfl)
    (hplain : (backTo pos (starEach (a :: []) X.env)).any (·.1) = false := by rfl)
    (hall : (backToKw pos (keywordEach [⟨some "default", d, kpos⟩] X.env)).all (·.1.isSome) = true := by rfl)
    (hkw : (backToKw pos (keywordEach [⟨some "default", d, kpos⟩] X.env)).any (·.1.isNone) = false := by rfl)
    (hz : ∀ v : Value, ((backToKw pos (keywordEach [⟨some "default", d, kpos⟩] X.env)).filterMap (·.1)).zip [v] = [(Str.ofString "default", v)] := by intro v; rfl) :
    PE X (.Call (.Name "max" p) [a] [⟨some "default", d, kpos⟩] pos) (tMaxD X.K ta td) := by
  refine ⟨fun pins s σ H Q I h => ?_⟩
  refine wpAny_Call_Name_kw (ld_blt I hg hm boot_max (callWith_kw (one_arg ha I h (fun v s1 x H1 I1 r1 q1 => ?_) na) he hplain hall hkw))
  let P : V → Hp → Prop := fun y H2 => ∃ (p : Addr) (ns : List Int), x = .ref p ∧ SqL X.K H2 p (ns.map V.int) ∧ (ns = [] → Q y H2) ∧ ∀ n l, ns = n :: l → Q (.int (PySem.W.maxOf n l)) H2
  let P2 : List V → Hp → Prop := fun vs H2 => match vs with | [y] => P y H2 | _ => False
  have q2 : tCons td tNil σ H1 P2 := q1
  refine thn ((pk_cons (nm := some "default") (kpos := kpos) hd pk_nil).run pos pins s1 σ H1 _ I1 q2) fun us s2 ⟨vs, H2, I2, r2, z2⟩ => ?_
  obtain ⟨y, rfl, z2⟩ : ∃ y, vs = [y] ∧ P y H2 := by
    match vs, z2 with
    | [y], z2 => exact ⟨y, rfl, z2⟩
  obtain ⟨u, rfl, ry⟩ := vals1 r2
  obtain ⟨l, ns, rfl, hs, q0, qm⟩ := z2
  cases r1
  obtain ⟨its, rv, pl, hl⟩ := I2.list hs
  rw [hz]
  refine PySem.W.max_list_datum_default (α := Int) (xs := ns) (I2.ok.hd hc) pl.isList (by rw [List.toList_toArray]; exact hold_ints rv) (by show X.A.units + 1 + 0 < cLine; omega) (fun e h' tk k => ?_) fun n l i v h' tk e hi H k => ?_
  · exact ⟨y, H2, I2.kept k, ry, q0 e⟩
  · obtain ⟨as, r⟩ := H
    refine ⟨.int (PySem.W.maxOf n l), H2, I2.kept k, ?_, qm n l e⟩
    cases r
    exact ⟨_, rfl⟩
end
end EvMx
namespace Ev
open PySem PySem.Spec L2 EvMx
def rMaxD (f : SemR) (k : Int) : SemR := fun env m => (vl f env m).bind fun x m1 => match x with
  | .lst zs => (match intsOf zs with
    | some [] => .ok (.d (.int k)) m1
    | some (n :: ns) => .ok (.d (.int (PySem.W.maxOf n ns))) m1
    | none => .bot)
  | _ => .bot
section
variable {X : Cx} {W : WX} {a b : Expr} {fa fb : SemR} {ta tb : TE} {p pos kpos : Pos}
theorem se_maxD {k : Int} {j : Nat} {cp : Pos} (hc : X.calm = true) (hu : X.A.units + 64 < cLine) (hm : X.mg "max" = none) (ha : SE X W a fa ta) (hg : Gl X "max" := by rfl) (na : starEach [a] X.env = (false, eval a X.env) :: starEach [] X.env := by rfl)
    (he : backTo pos (starEach (a :: []) X.env) = (false, eval a X.env) :: backTo pos (starEach [] X.env) := by rfl)
    (hplain : (backTo pos (starEach (a :: []) X.env)).any (·.1) = false := by rfl)
    (hall : (backToKw pos (keywordEach [⟨some "default", .Constant (.int k) j cp, kpos⟩] X.env)).all (·.1.isSome) = true := by rfl)
    (hkw : (backToKw pos (keywordEach [⟨some "default", .Constant (.int k) j cp, kpos⟩] X.env)).any (·.1.isNone) = false := by rfl)
    (hz : ∀ v : Value, ((backToKw pos (keywordEach [⟨some "default", .Constant (.int k) j cp, kpos⟩] X.env)).filterMap (·.1)).zip [v] = [(Str.ofString "default", v)] := by intro v; rfl) :
    SE X W (.Call (.Name "max" p) [a] [⟨some "default", .Constant (.int k) j cp, kpos⟩] pos) (rMaxD fa k) (tMaxD X.K ta (tC (.int k))) := by
  refine ⟨pe_maxD hc hu hg hm ha.pe pe_int na he hplain hall hkw hz, fun w H0 σ H env m Q Wm S q => ?_⟩
  refine ha.vl Wm S (WP.mono (WP.of_bind q) (fun x m1 q w1 H1 v1 E1 W1 r1 => ?_) fun _ _ z => z)
  split at q
  · rename_i zs
    obtain ⟨l, us, rfl, h1, h2⟩ := r1.lst W1
    cases hi : intsOf zs with
    | none => rw [hi] at q; exact q.elim
    | some ns =>
      have e := intsOf_eq hi
      subst e
      have e2 := h2.ints
      subst e2
      refine ⟨l, ns, rfl, .inl (.inl h1), fun e => ?_, fun n r e => ?_⟩
      · subst e; rw [hi] at q; exact q w1 H1 _ E1 W1 (.int _)
      · subst e; rw [hi] at q; exact q w1 H1 _ E1 W1 (.int _)
  · exact q.elim
end
section
variable {env : Env} {m : Cells}
def maxD (k : Int) : List Int → Int
  | [] => k
  | n :: ns => PySem.W.maxOf n ns
def kMxD (k : Int) (r : Res D) : Res RV := r.bind fun x m1 => match x with
  | .lst zs => (match intsOf zs with
    | some [] => .ok (.d (.int k)) m1
    | some (n :: ns) => .ok (.d (.int (PySem.W.maxOf n ns))) m1
    | none => .bot)
  | _ => .bot
theorem kMxD1 (k : Int) (ns : List Int) : kMxD k (.ok (.lst (ns.map D.int)) m) = .ok (.d (.int (maxD k ns))) m := by
  have : intsOf (ns.map D.int) = some ns := intsOf_map ns
  show (match intsOf (ns.map D.int) with | some [] => _ | some (n :: ns) => _ | none => _) = _
  rw [this]
  cases ns <;> rfl
@[simp] theorem ev_rMaxD (f : SemR) (k : Int) : rMaxD f k env m = kMxD k (vl f env m) := nr rfl
end
end Ev
/-! Ev: *zip(a, b) in a display. -/
namespace EvZip
open PySem PySem.Spec PyProof.Rows L2 RZ
section
variable {prog : Program} {w : World} {A : Around} {E : Value → Shared → Prop} {s : Shared} {p q : Bool} {z TI TO i1 i2 l1 l2 : Addr} {xs ys : Array Value}
theorem iter_zip (h : ∃ o, s.heap.get? z = some o ∧ o.cls = .type "zip") {Q : Value → Shared → Prop} (q : Q (.ref z) s) : wpAny (model prog w) A (pyIter (.ref z)) Q E s := by
  have hT : s.TypeIs (.ref z) "zip" := h
  refine wpAny_pyIter_slot hT PySem.F.slot_zip_iter (wpAny_call_entry PySem.F.slot_zip_iter hT PySem.F.entry_zip_iter ?_ (PySem.F.args_zip_iter_1 _))
  show wpAny _ _ (ret (.ref z)) _ _ _
  exact wpAny_pure ⟨_, rfl, "zip", _, hT, PySem.F.slot_zip_next.lookup, q⟩
theorem collect_zip (hh : A.handled = none) (D : ZipApart z TI TO i1 i2 l1 l2) (Z : ZA p q s.heap z TI TO i1 i2 l1 l2 xs ys 0) (ps : List (Value × Value))
    (hx : ∀ j : Nat, (ps[j]?).map (·.1) = if ys[j]? = none then none else xs[j]?) (hy : ∀ j : Nat, (ps[j]?).map (·.2) = if xs[j]? = none then none else ys[j]?) (hz : ps.length ≤ sizeLine) {Q : List Value → Shared → Prop}
    (hQ : ∀ h' ts, NewPs h' (s.heap.objs.size + 1) ts ps → (∀ b o, b ∉ [z, TO, i1, i2] → s.heap.get? b = some o → h'.get? b = some o) → Q (ts.map Value.ref) { s with heap := h' }) :
    wpAny (model prog w) A (collect (.ref z)) Q E s := by
  obtain ⟨oz, hoz, cz⟩ := Z.z.ty
  have lz := Heap.lt_size hoz
  obtain ⟨oo, hoo⟩ := Z.TO
  have hS : s.heap.objs.size ∉ [z, TI, TO, i1, i2, l1, l2] := by
    simp only [List.mem_cons, List.not_mem_nil, or_false, not_or]
    refine ⟨Nat.ne_of_gt lz, Nat.ne_of_gt (Heap.lt_size Z.TI), Nat.ne_of_gt (Heap.lt_size hoo), Nat.ne_of_gt Z.a.lt, Nat.ne_of_gt Z.b.lt, Nat.ne_of_gt Z.x.lt, Nat.ne_of_gt Z.y.lt⟩
  unfold collect
  refine wpAny_bind (wpAny_runValue (codeAny_builtin PySem.F.entry_proto_collect ?_))
  rw [Around.under_plainId PySem.F.plain_proto_collect _]
  show wpAny _ A.in1 (newList [] >>= fun l => again (.builtin "list.__iadd__" ⟨[l, .ref z], []⟩)) _ _ s
  refine wpAny_bind (wpAny_newObj_type ?_)
  refine wpAny_pure ⟨plainId_quiet PySem.F.plain_list_iadd _, codeAny_builtin PySem.F.entry_list_iadd ?_⟩
  rw [Around.under_plainId PySem.F.plain_list_iadd _]
  have hS1 : (s.heap.push { cls := .type "list", data := .seq ([] : List Value).toArray }).get? s.heap.objs.size = some { cls := .type "list", data := .seq ([] : List Value).toArray } := Heap.get?_push_size _ rfl
  have up : ∀ b o, b ≠ s.heap.objs.size → s.heap.get? b = some o → (s.heap.push { cls := .type "list", data := .seq ([] : List Value).toArray }).get? b = some o := fun b o _ e => Heap.get?_push_of_some _ e
  have Z1 := Z.kept up (fun o e => absurd (Heap.lt_size e) (Nat.lt_irrefl _)) hS
  have s1 : (s.heap.push { cls := .type "list", data := .seq ([] : List Value).toArray }).objs.size = s.heap.objs.size + 1 := Heap.size_push ..
  generalize hh1 : s.heap.push { cls := .type "list", data := .seq ([] : List Value).toArray } = g2 at *
  show wpAny _ A.in1 (Builtin.List.listExtendWith (.ref s.heap.objs.size) (.ref z) (.ref s.heap.objs.size)) _ _ _
  unfold Builtin.List.listExtendWith
  have hT : Shared.TypeIs { s with heap := g2 } (.ref z) "zip" := by obtain ⟨o, e, c⟩ := Z1.z.ty; exact ⟨o, e, c⟩
  refine wpAny_bind (wpAny_typeOf hT ?_)
  have h1 : Builtin.List.listSameRef (.ref s.heap.objs.size) (.ref z) = false := by simp [Builtin.List.listSameRef, Nat.ne_of_gt lz]
  have h2 : (Value.type "zip" == Value.type "list") = false := by decide
  have h3 : (Value.type "zip" == Value.type "tuple") = false := by decide
  simp only [h1, h2, h3, Bool.or_false, Bool.false_eq_true, if_false]
  refine wpAny_bind (iter_zip (s := { s with heap := g2 }) Z1.z.ty ?_)
  refine wpAny_bind (wpAny_holding ?_)
  unfold Builtin.List.listLengthHint
  refine wpAny_bind (wpAny_specialOf hT nolen_zip ?_)
  show wpAny _ A.in1 (specialOf (Value.ref z) (Str.ofString "__length_hint__") >>= _) _ _ _
  refine wpAny_bind (wpAny_specialOf hT nohint_zip ?_)
  refine wpAny_pure ?_
  show wpAny _ A.in1 (rule "list.extend.makes-room" >>= fun _ => Builtin.List.listTouch (.ref s.heap.objs.size) >>= fun _ =>
    again (.builtin "list.extend.loop" ⟨[.ref s.heap.objs.size, .ref z, .ref s.heap.objs.size], []⟩)) _ _ _
  refine wpAny_bind (wpAny_rule ?_)
  refine wpAny_bind ?_
  show wpAny _ A.in1 (updateSeq s.heap.objs.size (·.push .none) >>= fun _ => updateSeq s.heap.objs.size (·.pop)) _ _ _
  refine wpAny_bind (wpAny_updateSeq hS1 rfl ?_)
  have hS3 := Heap.get?_update_self (Obj.mapSeq (·.push Value.none)) hS1 rfl
  refine wpAny_updateSeq (hz := by seq_fits) hS3 rfl ?_
  have hS4 := Heap.get?_update_self (Obj.mapSeq (·.pop)) hS3 rfl
  have oth : ∀ b o, b ≠ s.heap.objs.size → g2.get? b = some o → ((g2.update s.heap.objs.size (Obj.mapSeq (·.push Value.none))).update s.heap.objs.size (Obj.mapSeq (·.pop))).get? b = some o :=
    fun b o hb e => (Heap.get?_update_other _ _ (Ne.symm hb)).trans ((Heap.get?_update_other _ _ (Ne.symm hb)).trans e)
  have Z4 := Z1.kept oth (fun o _ => ⟨_, hS4⟩) hS
  have s4 : ((g2.update s.heap.objs.size (Obj.mapSeq (·.push Value.none))).update s.heap.objs.size (Obj.mapSeq (·.pop))).objs.size = s.heap.objs.size + 1 := by rw [Heap.size_update, Heap.size_update, s1]
  refine wpAny_pure ⟨plainId_quiet PySem.F.plain_extend_loop _, loop_zip (A := A) hh D hS (.ref s.heap.objs.size) ps 0 _ _ _ Z4 (fun j => by rw [Nat.zero_add]; exact hx j) (fun j => by rw [Nat.zero_add]; exact hy j) hS4 (by simpa using hz) fun h' ts c' N hf hk => ?_⟩
  show wpAny _ A (load s.heap.objs.size >>= _) _ _ { s with heap := h' }
  refine wpAny_bind (wpAny_load hf ?_)
  have et : ((Obj.mapSeq (·.pop) ((Obj.mapSeq (·.push Value.none)) { cls := .type "list", data := .seq ([] : List Value).toArray })).data) = .seq #[] 0 ∨ True := .inr trivial
  refine wpAny_pure ?_
  have fin := hQ h' ts (by rw [← s4]; exact N) (fun b o hb e => by
    have n : b ≠ s.heap.objs.size := Nat.ne_of_lt (Heap.lt_size e)
    exact hk b o (by simp only [List.mem_cons] at hb ⊢; simp only [n, false_or]; exact hb) (oth b o n (up b o n e)))
  simpa using fin
end
theorem pairs_new {X : Cx} {pins : List (Addr × Obj)} {σ : L2.St} {H : Hp} {s : Shared} {h' : Heap} {ps : List (V × V)} {us : List (Value × Value)} {ts : List Addr} {l : Addr} (I : Inv X pins σ H s)
    (rel : Paired (fun (p : V × V) (u : Value × Value) => RelV p.1 u.1 ∧ RelV p.2 u.2) ps us) (hk : ∀ b o, s.heap.get? b = some o → h'.get? b = some o) (hl0 : s.heap.objs.size ≤ l) (hl : ∀ t ∈ ts, l < t) (N : NewPs h' l ts us) :
    (∀ t ∈ ts, H t = none) ∧ ts.Nodup ∧ ts.length = ps.length ∧ Inv X pins σ (putP H ts ps) { s with heap := h' } := by
  have lk : ps.length = us.length := Paired.length rel
  have lt : ts.length = us.length := Paired.length N.1
  have nd : ts.Nodup := List.Pairwise.imp (fun {a b} (h : a < b) => Nat.ne_of_lt h) N.2.2
  have new : ∀ t ∈ ts, H t = none := fun t ht => I.hok.fresh (Nat.le_trans hl0 (Nat.le_of_lt (hl t ht)))
  have atP := putP_at ts ps H (by omega) nd
  have off : ∀ b, b ∉ ts → putP H ts ps b = H b := fun b h1 => putP_off ts ps _ h1
  have low : ∀ b o, s.heap.get? b = some o → b ∉ ts := fun b o e z => absurd (Heap.lt_size e) (Nat.not_lt.mpr (Nat.le_trans hl0 (Nat.le_of_lt (hl b z))))
  have kp : ∀ b u, H b = some u → (putP H ts ps) b = some u := fun b u e => by
    rw [off b (fun z => by rw [new b z] at e; cases e)]
    exact e
  refine ⟨new, nd, by omega, I.call' (ch := []) rfl ⟨fun b o q _ _ _ => hk b o q, fun b o q _ _ _ => ⟨o.slots, hk b o q⟩, fun b o q n _ => ?_, fun b o q _ => ⟨o, hk b o q⟩, fun b xs q => kp b _ q, fun b o u q => kp b _ q, fun b ps q => ⟨#[], by rw [kp b _ q]; simp⟩⟩ (fun b u q => ?_) I.bare fun b z => by simp at z⟩
  · rw [off b (low b o q)]
    exact n
  · by_cases hb : b ∈ ts
    · obtain ⟨j, pk, e1, e2, e3⟩ := LiI.paired_ix atP hb
      rw [e3] at q
      cases q
      obtain ⟨u2, g1, g2⟩ := LiI.paired_get N.1 e1
      obtain ⟨u3, g3, g4⟩ := LiI.paired_get rel e2
      rw [g1] at g3
      cases g3
      exact ⟨by show 2 ≤ sizeLine; decide, [u2.1, u2.2], .cons g4.1 (.cons g4.2 .nil), ⟨_, g2, rfl, _, rfl⟩⟩
    · rw [off b hb] at q
      exact (I.hok b u q).stay (fun d v _ y => hk d v y) (fun d y => kp d _ y) fun d xs y => kp d _ y
theorem vals_refsN : ∀ ts : List Addr, Vals (ts.map V.ref) (ts.map Value.ref) := LiI.vals_refs
def tStarZip (K : PySem.W.Frag) (ta t : TA) : TA := fun σ H Q => ta σ H fun vs H1 => ∃ p q a b xs ys, vs = [.ref a, .ref b] ∧ SqX p K H1 a xs ∧ SqX q K H1 b ys ∧
  ∀ ts, (∀ t ∈ ts, H1 t = none) → ts.Nodup → ts.length = (xs.zip ys).length → t σ (putP H1 ts (xs.zip ys)) fun us H2 => Q (ts.map V.ref ++ us) H2
theorem pa_starZip {X : Cx} {e e2 : Expr} {es : List Expr} {ta t : TA} {p p2 pos2 : Pos} (hc : X.calm = true) (hg2 : Gl X "zip") (hm2 : X.mg "zip" = none) (ha : PA X [e, e2] ta) (hr : PA X es t)
    (hs : starEach [e, e2] X.env = (false, eval e X.env) :: starEach [e2] X.env := by rfl) (hpl : (backTo pos2 (starEach [e2] X.env)).any (·.1) = false := by rfl)
    (hn : starEach (.Starred (.Call (.Name "zip" p2) [e, e2] [] pos2) p :: es) X.env = (true, eval (.Call (.Name "zip" p2) [e, e2] [] pos2) X.env) :: starEach es X.env := by rfl) :
    PA X (.Starred (.Call (.Name "zip" p2) [e, e2] [] pos2) p :: es) (tStarZip X.K ta t) := by
  refine ⟨fun pos pins s σ H Q I h => ?_⟩
  refine PySem.W.items_star (Call_ (ld_blt I hg2 hm2 PyProof.Rows.boot_zip (PyProof.Rows.callWith_type1 (thn (ha.run pos2 pins s σ H _ I h) fun us s1 ⟨vs, H1, I1, r1, q1⟩ => ?_) hs hpl))) hn
  obtain ⟨p, q, a, b, xs, ys, ex, hqx, hqy, q1⟩ := q1
  subst ex
  cases r1 with
  | cons r rr =>
    cases rr with
    | cons r' rr =>
      cases rr
      cases r
      cases r'
      obtain ⟨its, rv, pl⟩ := inv_sq I1 hqx
      obtain ⟨its2, rv2, pl2⟩ := inv_sq I1 hqy
      refine call_zipM pl pl2 fun h' hz hTI hTO t1 t2 hk => ?_
      have lz1 : (xs.zip ys).length ≤ sizeLine := by
        rw [List.length_zip]
        cases p with
        | false => obtain ⟨_, r, _, hz⟩ := I1.list (show SqL X.K H1 a xs from hqx); omega
        | true => obtain ⟨_, r, _, hz⟩ := I1.tuple (show SqT X.K H1 a xs from hqx); omega
      have n1 := rv.length
      have n2 := rv2.length
      have Z : ZA p q h' (s1.heap.objs.size + 4) (s1.heap.objs.size + 2) (s1.heap.objs.size + 3) s1.heap.objs.size (s1.heap.objs.size + 1) a b its.toArray its2.toArray 0 :=
        ⟨.inl ⟨hz, _, _, hTO⟩, hTI, t1, t2, pl.keep fun o => hk _ o, pl2.keep fun o => hk _ o, _, hTO⟩
      have hT : Shared.TypeIs { s1 with heap := h' } (.ref (s1.heap.objs.size + 4)) "zip" := ⟨_, hz, rfl⟩
      unfold PySem.W.StarOf notIterableAtAll
      refine wpAny_bind (wpAny_specialOf hT PySem.F.slot_zip_iter.lookup (wpAny_pure ⟨rfl, ?_⟩))
      refine collect_zip (s := { s1 with heap := h' }) (I1.ok.hd hc) (PySem.W.ktu_apart s1.heap.objs.size a b pl.lt pl2.lt) Z (its.zip its2) (fun j => by simpa using zip_fst its its2 j) (fun j => by simpa using zip_snd its its2 j) (by rw [List.length_zip] at lz1 ⊢; omega) fun h2 ts N hk2 => ?_
      have hsz : s1.heap.objs.size + 4 < h'.objs.size := Heap.lt_size hz
      have kk : ∀ b o, s1.heap.get? b = some o → h2.get? b = some o := fun b o e => by
        have lb := Heap.lt_size e
        refine hk2 b o ?_ (hk b o e)
        simp only [List.mem_cons, List.not_mem_nil, or_false, not_or]
        exact ⟨Nat.ne_of_lt (Nat.lt_of_lt_of_le lb (Nat.le_add_right _ _)), Nat.ne_of_lt (Nat.lt_of_lt_of_le lb (Nat.le_add_right _ _)), Nat.ne_of_lt lb, Nat.ne_of_lt (Nat.lt_of_lt_of_le lb (Nat.le_add_right _ _))⟩
      obtain ⟨f1, f2, f3, J⟩ := pairs_new (h' := h2) I1 (paired_zip rv rv2) kk (l := h'.objs.size) (by show s1.heap.objs.size ≤ _; omega) (fun t ht => N.2.1 t ht) ⟨N.1, fun t ht => Nat.le_of_succ_le (N.2.1 t ht), N.2.2⟩
      exact thn (hr.run pos pins _ σ _ _ J (q1 ts f1 f2 f3)) fun ws s3 ⟨vs, H3, I3, r3, q3⟩ => ⟨ts.map V.ref ++ vs, H3, I3, (vals_refsN ts).append r3, q3⟩
end EvZip
namespace Ev
open PySem PySem.Spec L2 EvZip
section
variable {X : Cx} {W : WX} {a b : Expr} {es : List Expr} {as g : SemDs} {t u : TA} {p p2 pos2 : Pos}
def aStarZip (as g : SemDs) : SemDs := fun env m => (as env m).bind fun xs m1 => match xs with
  | [x, y] => (match sqD x, sqD y with
    | some xs, some ys => (g env m1).bind fun zs m2 => .ok (zipD xs ys ++ zs) m2
    | _, _ => .bot)
  | _ => .bot
theorem sa_starZip (hc : X.calm = true) (hm2 : X.mg "zip" = none) (h : SAt X W [a, b] as t) (hr : SAt X W es g u) (hg2 : Gl X "zip" := by rfl)
    (hs : starEach [a, b] X.env = (false, eval a X.env) :: starEach [b] X.env := by rfl) (hpl : (backTo pos2 (starEach [b] X.env)).any (·.1) = false := by rfl)
    (hn : starEach (.Starred (.Call (.Name "zip" p2) [a, b] [] pos2) p :: es) X.env = (true, eval (.Call (.Name "zip" p2) [a, b] [] pos2) X.env) :: starEach es X.env := by rfl) :
    SAt X W (.Starred (.Call (.Name "zip" p2) [a, b] [] pos2) p :: es) (aStarZip as g) (tStarZip X.K t u) := by
  refine ⟨pa_starZip hc hg2 hm2 h.pa hr.pa hs hpl hn, fun w H0 σ H env m Q Wm S q => ?_⟩
  refine h.rd w H0 σ H env m _ Wm S (WP.mono (WP.of_bind q) (fun xs m1 q w1 H1 vs E1 W1 r1 => ?_) fun _ _ z => z)
  split at q
  · rename_i x y
    split at q
    · rename_i xs ys e1 e2
      cases r1 with
      | cons r1 rr =>
        cases rr with
        | cons r2 rr =>
          cases rr
          obtain ⟨p, a, us, rfl, s1, q1⟩ := r1.sq e1
          obtain ⟨q', b, vs, rfl, s2, q2⟩ := r2.sq e2
          refine ⟨p, q', a, b, us, vs, rfl, sqX_sub W1.sub s1, sqX_sub W1.sub s2, fun ts h2 h3 h5 => ?_⟩
          obtain ⟨w2, E2, W2, L2, r3⟩ := tups_known (X := X) ts xs ys us vs w1 H1 W1 h2 h3 q1 q2 h5
          refine hr.rd w2 H0 σ _ env m1 _ W2 ((S.ext E1).ext E2) (WP.mono (WP.of_bind q) (fun zs m2 q w3 H3 us E3 W3 r4 => ?_) fun x m' z c d w' H' E' W' rx => z c d w' H' ((E1.trans E2).trans E') W' rx)
          exact q w3 H3 _ ((E1.trans E2).trans E3) W3 ((RDs.le E3.le r3).append r4)
    · exact q.elim
  · exact q.elim
end
section
variable {env : Env} {m : Cells}
def kSzm (g : SemDs) (env : Env) (x y : Option (List D)) (m : Cells) : Res (List D) := match x, y with
  | some xs, some ys => kSt2 (zipD xs ys) (g env m)
  | _, _ => .bot
@[simp] theorem kSzm1 (g : SemDs) (xs ys : List D) : kSzm g env (some xs) (some ys) m = kSt2 (zipD xs ys) (g env m) := nr rfl
def kSz (g : SemDs) (env : Env) (r : Res (List D)) : Res (List D) := r.bind fun xs m1 => match xs with
  | [x, y] => kSzm g env (sqD x) (sqD y) m1
  | _ => .bot
@[simp] theorem kSz1 (g : SemDs) (x y : D) : kSz g env (.ok [x, y] m) = kSzm g env (sqD x) (sqD y) m := nr rfl
@[simp] theorem ev_aStarZip (as g : SemDs) : aStarZip as g env m = kSz g env (as env m) := nr rfl
end
end Ev
/-! Ev: x = y.pop(e), y a list of its own. -/
namespace Ev
open PySem PySem.Spec L2
def sSetPop2 (i j : Nat) (env : Env) (m : Cells) (k : Int) (ys : List D) : Res Out :=
  if 0 ≤ k ∧ k < ys.length ∧ k < 2 ^ 62 then match ys[k.toNat]? with
    | some y => .ok (.nx ((lupd j env m (ys.eraseIdx k.toNat)).1.set i (.d y))) (lupd j env m (ys.eraseIdx k.toNat)).2
    | none => .bot
  else .bot
def sSetPop (i j : Nat) (f : SemR) : SemS := fun env m => if (lget j env m).isSome then (vl f env m).bind fun k m1 => match lget j env m1, k with
  | some ys, .int k => sSetPop2 i j env m1 k ys
  | _, _ => .bot
  else .bot
section
variable {X : Cx} {W : WX} {e : Expr} {f : SemR} {te : TE} {pos : Pos}
theorem ss_setpop (i j : Nat) {x y : Str} {p p2 ap2 cp2 : Pos} (hnd : X.N.Nodup) (h : SE X W e f te) (hN : X.N[i]? = some x := by rfl) (hN2 : X.N[j]? = some y := by rfl) (hx : Loc X.env.scope x := by first | exact Or.inl rfl | exact Or.inr rfl) (hv2 : Vis X.env.scope y := by first | exact Or.inl rfl | exact Or.inr (Or.inl rfl) | exact Or.inr (Or.inr rfl))
    (hf : X.fn x = true ∨ X.env.scope.names.lookup x = some .local := by first | exact .inl rfl | exact .inr rfl | assumption)
    (hd2 : (y == ("__debug__" : Str)) = false := by decide) (hcd2 : (y == ("__classdict__" : Str)) = false := by decide)
    (b2 : attributeBase (.Name y p2) "pop" X.env (eval (.Name y p2) X.env) = eval (.Name y p2) X.env := by rfl)
    (f2 : ((backTo cp2 (starEach (e :: []) X.env)).all (fun x => !x.1) && (backToKw cp2 (keywordEach [] X.env)).all (fun x => x.1.isSome) && decide ((e :: []).length + ([] : List Keyword).length + (if ([] : List Keyword).isEmpty then 0 else 1) < 30)) = true := by rfl)
    (l2 : (ap2.endLine == cp2.line) = true := by rfl) (s2 : starEach (e :: []) X.env = (false, eval e X.env) :: starEach [] X.env := by rfl) (q2 : (backTo cp2 (starEach [] X.env)).any (·.1) = false := by rfl)
    (hsw : swapsWith (.Call (.Attribute (.Name y p2) "pop" ap2) [e] [] cp2) (some (.Name x p)) pos.line X.env = pure false := by rfl) :
    SSt X W (.Assign [.Name x p] (.Call (.Attribute (.Name y p2) "pop" ap2) [e] [] cp2) pos) (sSetPop i j f) (tAsg (tBM X.K "list" rPopAt (tVar j) (tCons te tNil)) (gName i)) := by
  refine ⟨ps_set hnd hN hx (pe_bm PySem.F.plainAttrs_list PySem.F.slot_list_pop PySem.F.type_list_pop mt_popAt (pe_var hN2 hv2 hd2 hcd2) (pa_cons h.pe pa_nil s2) b2 f2 l2 s2 q2) hsw hf, fun w0 H0 w σ H env m D E Wm S q => ?_⟩
  unfold sSetPop at q
  split at q
  · rename_i ht
    obtain ⟨ys0, hy0⟩ := Option.isSome_iff_exists.mp ht
    obtain ⟨b, us, k3, k4, _⟩ := slot_upd E Wm S hy0
    refine ⟨_, k3, .inl ⟨rfl, us, .inl (.inl k4)⟩, ?_⟩
    refine h.vl Wm S (WP.mono (WP.of_bind q) (fun k m1 q w1 H1 v1 E1 W1 r1 => ?_) fun x m' z => PXs.of E z)
    split at q
    · rename_i ys k hy
      unfold sSetPop2 at q
      split at q
      · rename_i hk
        split at q
        · rename_i z hz
          obtain ⟨b', us1, g1, g2, g3, g4⟩ := slot_upd (E.trans E1) W1 (S.ext E1) hy
          rw [k3] at g1
          cases g1
          obtain ⟨E2, W2, S2⟩ := g4 (ys.eraseIdx k.toNat) (us1.eraseIdx k.toNat) (g3.eraseIdx _)
          obtain ⟨u, hu, ru⟩ := g3.get hz
          refine ⟨b, us1, k, k.toNat, u, rfl, by rw [r1.int], g2, by omega, by omega, ?_, hu, ?_⟩
          · have hl := g3.length
            unfold seqIndex?
            rw [if_neg (show ¬ k < 0 by omega)]
            exact if_pos (by rw [Bool.and_eq_true]; exact ⟨decide_eq_true hk.1, decide_eq_true (by omega)⟩)
          · exact q w1 _ E2 E1.le W2 _ (List.length_set) (S2.setD i ru)
        · exact q.elim
      · exact q.elim
    · exact q.elim
  · exact q.elim
end
section
variable {env : Env} {m : Cells}
theorem kSetPop2 {i j : Nat} {k : Int} {ys : List D} {y : D} (h0 : 0 ≤ k) (h1 : k < 1000000000) (hy : ys[k.toNat]? = some y) : sSetPop2 i j env m k ys = .ok (.nx ((lupd j env m (ys.eraseIdx k.toNat)).1.set i (.d y))) (lupd j env m (ys.eraseIdx k.toNat)).2 := by
  have hl := (List.getElem?_eq_some_iff.mp hy).1
  unfold sSetPop2
  rw [if_pos ⟨h0, by omega, by omega⟩, hy]
def kSp1 (i j : Nat) (env : Env) (r : Res D) : Res Out := r.bind fun k m1 => match lget j env m1, k with
  | some ys, .int k => sSetPop2 i j env m1 k ys
  | _, _ => .bot
def kSp2 (i j : Nat) (env : Env) (m : Cells) (o : Option (List D)) (k : D) : Res Out := match o, k with
  | some ys, .int k => sSetPop2 i j env m k ys
  | _, _ => .bot
@[simp] theorem kSp2_1 (i j : Nat) (ys : List D) (k : Int) : kSp2 i j env m (some ys) (.int k) = sSetPop2 i j env m k ys := nr rfl
@[simp] theorem kSp1_1 (i j : Nat) (k : D) : kSp1 i j env (.ok k m) = kSp2 i j env m (lget j env m) k := nr rfl
def kSp0 (b : Bool) (i j : Nat) (f : SemR) (env : Env) (m : Cells) : Res Out := if b then kSp1 i j env (vl f env m) else .bot
@[simp] theorem kSp0_1 (i j : Nat) (f : SemR) : kSp0 true i j f env m = kSp1 i j env (vl f env m) := nr rfl
@[simp] theorem ev_sSetPop (i j : Nat) (f : SemR) : sSetPop i j f env m = kSp0 (lget j env m).isSome i j f env m := nr rfl
end
theorem ev_appPop {env : Env} {m m1 : Cells} {i j : Nat} {f : SemR} {k : Int} {xs ys : List D} {y : D} (hi : env[i]? = some (.own xs)) (hj : env[j]? = some (.own ys)) (ij : j ≠ i) (hf : vl f env m = .ok (.int k) m1) (h0 : 0 ≤ k) (h1 : k < 1000000000) (hy : ys[k.toNat]? = some y) (hx : xs.length < 1000000) :
    sAppPop i j f env m = .ok (.nx ((env.set j (.own (ys.eraseIdx k.toNat))).set i (.own (xs ++ [y])))) m1 := by
  have hl := (List.getElem?_eq_some_iff.mp hy).1
  have l1 : ∀ m : Cells, lget i env m = some xs := fun m => by unfold lget; rw [hi]
  have l2 : ∀ m : Cells, lget j env m = some ys := fun m => by unfold lget; rw [hj]
  have u2 : ∀ (m : Cells) zs, lupd j env m zs = (env.set j (.own zs), m) := fun m zs => by unfold lupd; rw [hj]
  have e3 : ∀ zs, (env.set j (.own zs))[i]? = some (.own xs) := fun zs => by rw [List.getElem?_set_ne ij]; exact hi
  have l3 : ∀ (m : Cells) zs, lget i (env.set j (.own zs)) m = some xs := fun m zs => by unfold lget; rw [e3]
  have u3 : ∀ (m : Cells) zs ws, lupd i (env.set j (.own zs)) m ws = ((env.set j (.own zs)).set i (.own ws), m) := fun m zs ws => by unfold lupd; rw [e3]
  unfold sAppPop
  rw [l1, l2]
  simp only [Option.isSome_some, if_true]
  rw [hf]
  show (match lget j env m1, D.int k with | some ys, .int k => sAppPop2 i j env m1 k ys | _, _ => .bot) = _
  rw [l2]
  show sAppPop2 i j env m1 k ys = _
  unfold sAppPop2
  rw [if_pos ⟨h0, by omega, by omega⟩, hy]
  dsimp only
  rw [u2]
  dsimp only
  rw [l3]
  dsimp only
  rw [if_pos (show xs.length < LN from hx), u3]
end Ev
/-! Ev: comprehensions with two clauses. -/
namespace Ev
open PySem PySem.Spec L2
/-- the inner clause -/
def comp2I (it2 : SemDs) (tg2 : SemG) (c2 : SemB) (elt : SemR) (vs2 : List Nat) (env : Env) (m : Cells) : Res (List D) := (noX (it2 env m)).bind fun ds m1 => compL tg2 c2 elt (wipeE env vs2) ds m1
def comp2L (tg : SemG) (c : SemB) (inner : Env → Cells → Res (List D)) (env : Env) : List D → Cells → Res (List D)
  | [], m => .ok [] m
  | x :: xs, m => match tg x env with
    | none => .bot
    | some env1 => (noX (c env1 m)).bind fun b m1 => if b = true then (noX (inner env1 m1)).bind fun ys m2 => (comp2L tg c inner env xs m2).bind fun zs m3 => .ok (ys ++ zs) m3 else comp2L tg c inner env xs m1
def kLim (ys : List D) (m : Cells) : Res RV := if ys.length ≤ LN then .ok (.fl ys) m else .bot
def rComp2 (it : SemDs) (tg : SemG) (c : SemB) (it2 : SemDs) (tg2 : SemG) (c2 : SemB) (elt : SemR) (vs vs2 : List Nat) : SemR := fun env m => (it env m).bind fun ds m1 => (comp2L tg c (comp2I it2 tg2 c2 elt vs2) (wipeE env vs) ds m1).bind kLim
theorem WP.get {α : Type} {r : Res α} {P : α → Cells → Prop} (h : WP r P fun _ _ => False) : ∃ a m, r = .ok a m ∧ P a m := by
  cases r with
  | ok a m => exact ⟨a, m, rfl, h⟩
  | exc x m => exact h.elim
  | bot => exact h.elim
theorem noX_ok {α : Type} {r : Res α} {a : α} {m : Cells} (h : noX r = .ok a m) : r = .ok a m := by
  cases r with
  | ok b n => exact h
  | exc x n => cases h
  | bot => cases h
theorem comp2L_noX (tg : SemG) (c : SemB) (inner : Env → Cells → Res (List D)) (env : Env) : ∀ (ds : List D) (m : Cells), noX (comp2L tg c inner env ds m) = comp2L tg c inner env ds m
  | [], m => rfl
  | x :: xs, m => by
    unfold comp2L
    cases tg x env with
    | none => rfl
    | some env1 =>
      refine noX_bind fun b m1 => ?_
      cases b with
      | false =>
        rw [if_neg Bool.false_ne_true]
        exact comp2L_noX tg c inner env xs m1
      | true =>
        rw [if_pos rfl]
        refine noX_bind fun y m2 => ?_
        have := comp2L_noX tg c inner env xs m2
        cases h : comp2L tg c inner env xs m2 with
        | ok a m => rfl
        | exc x m => rw [h] at this; cases this
        | bot => rfl
theorem wipe_get {σ : St} {j : Nat} : ∀ {vs : List Nat}, j ∉ vs → (wipe σ vs)[j]? = σ[j]?
  | [], _ => rfl
  | v :: vs, h => by
    have h' := not_or.mp (fun z => h (List.mem_cons.mpr z))
    unfold wipe
    rw [List.getElem?_set_ne (fun e => h'.1 e.symm), wipe_get h'.2]
theorem wipeE_own {env : Env} {j : Nat} {xs : List Ev.D} : ∀ {vs : List Nat}, (wipeE env vs)[j]? = some (.own xs) → j ∉ vs
  | [], _, h => by cases h
  | v :: vs, e, h => by
    unfold wipeE at e
    by_cases hj : v = j
    · subst hj
      rw [List.getElem?_set_self'] at e
      cases hh : (wipeE env vs)[v]? with
      | none => rw [hh] at e; cases e
      | some _ => rw [hh] at e; cases e
    · rw [List.getElem?_set_ne hj] at e
      rcases List.mem_cons.mp h with z | z
      · exact hj z.symm
      · exact wipeE_own e z
/-- a target that makes no own lists -/
def OwnG (gs : SemG) : Prop := ∀ x e e1, gs x e = some e1 → ∀ (j : Nat) (xs : List Ev.D), e1[j]? = some (.own xs) → e[j]? = some (.own xs)
theorem ownG_set (i : Nat) : OwnG (gSet i) := fun x e e1 h j xs hj => by
  cases h
  by_cases hij : i = j
  · subst hij
    rw [List.getElem?_set_self'] at hj
    cases hh : e[i]? with
    | none => rw [hh] at hj; cases hj
    | some _ => rw [hh] at hj; cases hj
  · rwa [List.getElem?_set_ne hij] at hj
theorem gsSet_own : ∀ {is : List Nat} {ys : List Ev.D} {e e1 : Env}, gsSet is ys e = some e1 → ∀ (j : Nat) (xs : List Ev.D), e1[j]? = some (.own xs) → e[j]? = some (.own xs)
  | [], [], e, e1, h, j, xs, hj => by cases h; exact hj
  | [], _ :: _, e, e1, h, j, xs, hj => by cases h
  | _ :: _, [], e, e1, h, j, xs, hj => by cases h
  | i :: is, y :: ys, e, e1, h, j, xs, hj => ownG_set i y e _ rfl j xs (gsSet_own (is := is) (ys := ys) h j xs hj)
theorem ownG_tup (is : List Nat) : OwnG (gTupS is) := fun x e e1 h j xs hj => by
  cases x with
  | tup ys => exact gsSet_own h j xs hj
  | _ => cases h
theorem Slots.mix {K : PySem.W.Frag} {w w' : Wd} {H0 H H' : Hp} {σ σ' : St} {env env1 : Env} (S : Slots K w' H0 σ H' env) (T : Slots K w H0 σ' H env1) (L : WLe w w')
    (ho : ∀ (j : Nat) (xs : List Ev.D), env1[j]? = some (.own xs) → env[j]? = some (.own xs) ∧ σ'[j]? = σ[j]?) : Slots K w' H0 σ' H' env1 where
  len := T.len
  dat := fun i x e => by
    obtain ⟨v, h1, h2⟩ := T.dat i x e
    exact ⟨v, h1, h2.le L⟩
  own := fun i xs e => by
    obtain ⟨h1, h2⟩ := ho i xs e
    rw [h2]
    exact S.own i xs h1
  dis := fun i j xs ys a e1 e2 h1 h2 => by
    obtain ⟨g1, g2⟩ := ho i xs e1
    obtain ⟨g3, g4⟩ := ho j ys e2
    rw [g2] at h1
    rw [g4] at h2
    exact S.dis i j xs ys a g1 g3 h1 h2
section
variable {X : Cx} {W : WX}
theorem comp2_rd {tg iter tg1 iter1 : Expr} {ifs ifs1 : List Expr} {elt : Expr} {vs vs1 is is1 : List Nat} {wi wi1 : TI} {g g1 : TG} {tt tt1 : TT} {te : TE} {it it1 : SemDs} {gs gs1 : SemG} {cond cond1 : SemB} {fe : SemR} {Y : Cx} (hK : Y.K = X.K) (hog : OwnG gs) (hi : SIt X W tg iter it wi) (hvs : ∀ i ∈ is, i ∈ vs) (hvs1 : ∀ i ∈ is1, i ∈ vs1)
    (hg : SGt Y tg gs is g) (ht : SPt Y W0 ifs cond tt) (hi1 : SIt Y W0 tg1 iter1 it1 wi1) (hg1 : SGt Y tg1 gs1 is1 g1) (ht1 : SPt Y W0 ifs1 cond1 tt1) (he : SE Y W0 elt fe te)
    (w H0 σ H env m) (Q : VK) (Wm : Wf X.K w H m) (S : Slots X.K w H0 σ H env) (q : WP (rComp2 it gs cond it1 gs1 cond1 fe vs vs1 env m) (PR X w H0 H Q) (PX X W w H σ)) : tLc2 wi g tt wi1 g1 tt1 te vs vs1 σ H Q := by
  refine hi.rd w H0 σ H env m _ Wm S (WP.mono (WP.of_bind q) (fun ds m1 q w1 H1 J E1 W1 wk => ?_) fun _ _ z => z)
  intro D hD
  obtain ⟨G, Yi, hw, hG, hY⟩ := wk
  have q := WP.of_bind q
  have hDw : H D = none := E1.there D hD
  -- what is wished of the end
  let Fin : List Ev.D → Cells → Prop := fun ys m' => ys.length ≤ LN ∧ PR X w H0 H Q (.fl ys) m'
  have q : WP (comp2L gs cond (comp2I it1 gs1 cond1 fe vs1) (wipeE env vs) ds m1) (fun ys m' => Fin ys m') (fun _ _ => False) := by
    refine WP.noX' (comp2L_noX _ _ _ _ _ _) (WP.mono q (fun ys m' z => ?_) fun _ _ z => z)
    unfold kLim at z
    split at z
    · rename_i hl
      exact ⟨hl, z⟩
    · exact z.elim
  let Pv : Nat → Hp → Prop := fun i H2 => ∃ w2 m2 acc, Ext w1 H1 w2 H2 ∧ Wf X.K w2 H2 m2 ∧ w2.F D = none ∧ D ∉ w2.ι ∧ (∃ us, H2 D = some (.lst us) ∧ RDs X.K w2 acc us) ∧
    WP (comp2L gs cond (comp2I it1 gs1 cond1 fe vs1) (wipeE env vs) (ds.drop i) m2) (fun ys m' => Fin (acc ++ ys) m') (fun _ _ => False)
  refine ⟨fun i k H2 => k = ds.length - i ∧ i ≤ ds.length ∧ Pv i H2, ⟨ds.length, rfl, Nat.zero_le _, w1, m1, [], (Ext.refl _ _).updFresh hD, W1.upd (W1.noF hD) (W1.noI hD), W1.noF hD, W1.noI hD, ⟨[], upd_same, .nil⟩, q⟩, ?_⟩
  rintro i k H2 ⟨rfl, hik, w2, m2, acc, E2, W2, f2, i2, ⟨us, hD2, r2⟩, q2⟩
  have hGs := hG w2 H2 E2.le W2.sub
  by_cases hlt : i < ds.length
  · refine .inr ⟨hw.goes i H2 hlt hGs, Pv (i + 1), fun H' p' => ⟨ds.length - (i + 1), by omega, rfl, hlt, p'⟩, fun v H3 y => ?_⟩
    obtain ⟨x, w3, hx, E3, W3, r3⟩ := hY i H2 v H3 hlt (hw.yields i H2 v H3 hlt hGs y) w2 m2 E2.le W2
    have hdrop : ds.drop i = x :: ds.drop (i + 1) := by
      rw [List.drop_eq_getElem_cons hlt]
      rw [List.getElem?_eq_getElem hlt] at hx
      cases hx; rfl
    rw [hdrop, comp2L] at q2
    cases eg : gs x (wipeE env vs) with
    | none => rw [eg] at q2; exact q2.elim
    | some env1 =>
      rw [eg] at q2
      have E13 := (E1.trans E2).trans E3
      have f3 := E3.noF f2 (by rw [hD2]; exact fun z => nomatch z)
      have i3 := E3.noI i2 (by rw [hD2]; exact fun z => nomatch z)
      have hD3 := E3.keep D _ hD2 i2
      have S3 := ((S.ext E13).wipe vs)
      have W3' : Wf Y.K w3 H3 m2 := by rw [hK]; exact W3
      have S3' : Slots Y.K w3 H0 (wipe σ vs) H3 (wipeE env vs) := by rw [hK]; exact S3
      refine hg.rd w3 H0 (wipe σ vs) H3 (wipeE env vs) m2 x v env1 _ W3' S3' (by rw [hK]; exact r3) eg fun σ' sin S4 => ⟨(sin.2 vs hvs).trans (wipe_idem σ vs), ?_⟩
      have q2 := WP.of_bind q2
      refine ht.rd w3 H0 σ' H3 env1 m2 _ W3' S4 (WP.mono (WP.of_noX (Z' := PX Y W0 w3 H3 σ') q2) (fun b m3 q3 w4 H4 E4 W4 => ?_) fun x m' z => z)
      have W4' : Wf X.K w4 H4 m3 := by rw [← hK]; exact W4
      have f4 := E4.noF f3 (by rw [hD3]; exact fun z => nomatch z)
      have i4 := E4.noI i3 (by rw [hD3]; exact fun z => nomatch z)
      have hD4 := E4.keep D _ hD3 i3
      have r4 := (r2.le E3.le).le E4.le
      have E24 := (E2.trans E3).trans E4
      cases b with
      | false =>
        rw [if_neg Bool.false_ne_true] at q3 ⊢
        exact ⟨w4, m3, acc, E24, W4', f4, i4, ⟨us, hD4, r4⟩, q3⟩
      | true =>
        rw [if_pos rfl] at q3 ⊢
        have q3 := WP.of_bind q3
        have q3 := WP.of_noX (Z' := PX Y W0 w4 H4 σ') q3
        unfold comp2I at q3
        refine hi1.rd w4 H0 σ' H4 env1 m3 _ W4 (S4.ext E4) (WP.mono (WP.of_noX (Z' := PX Y W0 w4 H4 σ') (WP.of_bind q3)) (fun es m4 q4 w5 H5 J1 E5 W5 wk1 => ?_) fun x m' z => z)
        obtain ⟨G1, Yi1, hw1, hG1, hY1⟩ := wk1
        have W5' : Wf X.K w5 H5 m4 := by rw [← hK]; exact W5
        have f5 := E5.noF f4 (by rw [hD4]; exact fun z => nomatch z)
        have i5 := E5.noI i4 (by rw [hD4]; exact fun z => nomatch z)
        have hD5 := E5.keep D _ hD4 i4
        have r5 := r4.le E5.le
        have ho5 : ∀ (j : Nat) (xs : List Ev.D), env1[j]? = some (.own xs) → (wipeE env vs)[j]? = some (.own xs) ∧ σ'[j]? = (wipe σ vs)[j]? := fun j xs e => by
          have e2 := hog x _ _ eg j xs e
          refine ⟨e2, ?_⟩
          have hj := wipeE_own e2
          rw [← wipe_get (σ := σ') hj, sin.2 vs hvs, wipe_idem]
        -- the inner loop
        let Rest : List Ev.D → Cells → Prop := fun bcc m' => WP (comp2L gs cond (comp2I it1 gs1 cond1 fe vs1) (wipeE env vs) (ds.drop (i + 1)) m') (fun zs m'' => Fin (bcc ++ zs) m'') (fun _ _ => False)
        have q4 : WP (compL gs1 cond1 fe (wipeE env1 vs1) es m4) (fun ys m' => Rest (acc ++ ys) m') (fun _ _ => False) := by
          refine WP.noX' (compL_noX _ _ _ _ _ _) (WP.mono q4 (fun ys m' z => ?_) fun _ _ z => z)
          refine WP.mono (WP.noX' (comp2L_noX _ _ _ _ _ _) (WP.of_bind z)) (fun zs m'' z => ?_) fun _ _ z => z
          have z : Fin (acc ++ (ys ++ zs)) m'' := z
          rw [← List.append_assoc] at z
          exact z
        let Pw : Nat → Hp → Prop := fun j H6 => ∃ w6 m6 bcc, Ext w1 H1 w6 H6 ∧ WLe w5 w6 ∧ Wf X.K w6 H6 m6 ∧ w6.F D = none ∧ D ∉ w6.ι ∧ (∃ us, H6 D = some (.lst us) ∧ RDs X.K w6 bcc us) ∧
          WP (compL gs1 cond1 fe (wipeE env1 vs1) (es.drop j) m6) (fun ys m' => Rest (bcc ++ ys) m') (fun _ _ => False)
        refine ⟨fun j k H6 => k = es.length - j ∧ j ≤ es.length ∧ Pw j H6, ⟨es.length, rfl, Nat.zero_le _, w5, m4, acc, E24.trans E5, .refl _, W5', f5, i5, ⟨us, hD5, r5⟩, q4⟩, ?_⟩
        rintro j k H6 ⟨rfl, hjk, w6, m6, bcc, E6, L6, W6, f6, i6, ⟨us6, hD6, r6⟩, q6⟩
        have W6' : Wf Y.K w6 H6 m6 := by rw [hK]; exact W6
        have hGs1 := hG1 w6 H6 L6 (by have := W6.sub; exact this)
        have S6 : Slots Y.K w6 H0 σ' H6 env1 := by
          have b := ((S.ext (E1.trans E6)).wipe vs)
          rw [← hK] at b
          exact b.mix S4 (((E4.le).trans E5.le).trans L6) ho5
        by_cases hlt1 : j < es.length
        · refine .inr ⟨hw1.goes j H6 hlt1 hGs1, Pw (j + 1), fun H' p' => ⟨es.length - (j + 1), by omega, rfl, hlt1, p'⟩, fun v1 H7 y1 => ?_⟩
          obtain ⟨x1, w7, hx1, E7, W7, r7⟩ := hY1 j H6 v1 H7 hlt1 (hw1.yields j H6 v1 H7 hlt1 hGs1 y1) w6 m6 L6 W6'
          have hdrop1 : es.drop j = x1 :: es.drop (j + 1) := by
            rw [List.drop_eq_getElem_cons hlt1]
            rw [List.getElem?_eq_getElem hlt1] at hx1
            cases hx1; rfl
          rw [hdrop1, compL] at q6
          cases eg1 : gs1 x1 (wipeE env1 vs1) with
          | none => rw [eg1] at q6; exact q6.elim
          | some env2 =>
            rw [eg1] at q6
            have f7 := E7.noF f6 (by rw [hD6]; exact fun z => nomatch z)
            have i7 := E7.noI i6 (by rw [hD6]; exact fun z => nomatch z)
            have hD7 := E7.keep D _ hD6 i6
            have S7 := ((S6.ext E7).wipe vs1)
            refine hg1.rd w7 H0 (wipe σ' vs1) H7 (wipeE env1 vs1) m6 x1 v1 env2 _ W7 S7 r7 eg1 fun σ3 sin3 S8 => ⟨(sin3.2 vs1 hvs1).trans (wipe_idem σ' vs1), ?_⟩
            have q6 := WP.of_bind q6
            refine ht1.rd w7 H0 σ3 H7 env2 m6 _ W7 S8 (WP.mono (WP.of_noX (Z' := PX Y W0 w7 H7 σ3) q6) (fun b m7 q7 w8 H8 E8 W8 => ?_) fun x m' z => z)
            have W8' : Wf X.K w8 H8 m7 := by rw [← hK]; exact W8
            have f8 := E8.noF f7 (by rw [hD7]; exact fun z => nomatch z)
            have i8 := E8.noI i7 (by rw [hD7]; exact fun z => nomatch z)
            have hD8 := E8.keep D _ hD7 i7
            have r8 := (r6.le E7.le).le E8.le
            have E68 := (E6.trans E7).trans E8
            have L68 := (L6.trans E7.le).trans E8.le
            cases b with
            | false =>
              rw [if_neg Bool.false_ne_true] at q7 ⊢
              exact ⟨w8, m7, bcc, E68, L68, W8', f8, i8, ⟨us6, hD8, r8⟩, q7⟩
            | true =>
              rw [if_pos rfl] at q7 ⊢
              have q7 := WP.of_bind q7
              refine he.fz W8 (S8.ext E8) (WP.mono (WP.of_noX (Z' := PX Y W0 w8 H8 σ3) q7) (fun z m8 q8 w9 H9 u E9 W9 r9 => ?_) fun x m' z => z)
              have W9' : Wf X.K w9 H9 m8 := by rw [← hK]; exact W9
              have r9' : RD X.K w9 z u := by rw [← hK]; exact r9
              have f9 := E9.noF f8 (by rw [hD8]; exact fun z => nomatch z)
              have i9 := E9.noI i8 (by rw [hD8]; exact fun z => nomatch z)
              have hD9 := E9.keep D _ hD8 i8
              have q8 : WP (compL gs1 cond1 fe (wipeE env1 vs1) (es.drop (j + 1)) m8) (fun ys m' => Rest (bcc ++ [z] ++ ys) m') (fun _ _ => False) := by
                refine WP.mono (WP.of_bind q8) (fun ys m' z2 => ?_) fun _ _ z => z
                have z2 : Rest (bcc ++ (z :: ys)) m' := z2
                rw [List.append_assoc]
                exact z2
              have hl := r6.length
              refine ⟨us6, hD9, ?_, w9, m8, bcc ++ [z], (E68.trans E9).updFresh hD, L68.trans E9.le, W9'.upd f9 i9, f9, i9, ⟨_, upd_same, ((r8.le E9.le).append (.cons r9' .nil))⟩, q8⟩
              · obtain ⟨ys, m9, _, h2⟩ := WP.get q8
                obtain ⟨zs, m10, _, h3, _⟩ := WP.get h2
                rw [List.length_append, List.length_append, List.length_append] at h3
                exact ln_lt (by omega)
        · have e : j = es.length := by omega
          refine .inl ⟨by rw [e]; exact hw1.stops H6 hGs1, ?_⟩
          rw [e, List.drop_length, compL] at q6
          have q6 : Rest (bcc ++ []) m6 := q6
          rw [List.append_nil] at q6
          exact ⟨w6, m6, bcc, E6, W6, f6, i6, ⟨us6, hD6, r6⟩, q6⟩
  · have e : i = ds.length := by omega
    refine .inl ⟨by rw [e]; exact hw.stops H2 hGs, ?_⟩
    rw [e, List.drop_length, comp2L] at q2
    have q2 : Fin (acc ++ []) m2 := q2
    rw [List.append_nil] at q2
    exact q2.2 w2 H2 _ (E1.trans E2) W2 ⟨D, us, rfl, hD2, f2, i2, hDw, r2⟩
theorem se_lc2' {elt tg iter tg1 iter1 : Expr} {ifs ifs1 : List Expr} {scope : Scope} {own : List (Str × Nat)} {vs1 : List Nat} {pos : Pos} {is is1 : List Nat} {wi wi1 : TI} {g g1 : TG} {tt tt1 : TT} {te : TE} {it it1 : SemDs} {gs gs1 : SemG} {cond cond1 : SemB} {fe : SemR} (hc : X.calm = true) (hN : X.N.Nodup) (hog : OwnG gs) (hi : SIt X W tg iter it wi) (ok : BlkOk X.N X.env.scope scope own)
    (hg : ∀ (s : Shared) (H : Hp) (C : Addr) (cl : List (Str × Addr)) (fp : List Addr), SGt (X.blk s H scope (compEnvC scope cl C X.env) fp) tg gs is g)
    (ht0 : SPt (X.blk X.s_0 (fun _ => none) scope (compEnvC scope [] 0 X.env) []) W0 ifs cond tt) (ht : ∀ (s : Shared) (H : Hp) (C : Addr) (cl : List (Str × Addr)) (fp : List Addr), SPt (X.blk s H scope (compEnvC scope cl C X.env) fp) W0 ifs cond tt)
    (hi10 : SIt (X.blk X.s_0 (fun _ => none) scope (compEnvC scope [] 0 X.env) []) W0 tg1 iter1 it1 wi1) (hi1 : ∀ (s : Shared) (H : Hp) (C : Addr) (cl : List (Str × Addr)) (fp : List Addr), SIt (X.blk s H scope (compEnvC scope cl C X.env) fp) W0 tg1 iter1 it1 wi1)
    (hg1 : ∀ (s : Shared) (H : Hp) (C : Addr) (cl : List (Str × Addr)) (fp : List Addr), SGt (X.blk s H scope (compEnvC scope cl C X.env) fp) tg1 gs1 is1 g1)
    (ht10 : SPt (X.blk X.s_0 (fun _ => none) scope (compEnvC scope [] 0 X.env) []) W0 ifs1 cond1 tt1) (ht1 : ∀ (s : Shared) (H : Hp) (C : Addr) (cl : List (Str × Addr)) (fp : List Addr), SPt (X.blk s H scope (compEnvC scope cl C X.env) fp) W0 ifs1 cond1 tt1)
    (he0 : SE (X.blk X.s_0 (fun _ => none) scope (compEnvC scope [] 0 X.env) []) W0 elt fe te) (he : ∀ (s : Shared) (H : Hp) (C : Addr) (cl : List (Str × Addr)) (fp : List Addr), SE (X.blk s H scope (compEnvC scope cl C X.env) fp) W0 elt fe te)
    (hvs : ∀ i ∈ is, i ∈ own.map (·.2) := by decide) (hvs1 : ∀ i ∈ is1, i ∈ vs1 := by decide) (hv : ∀ i ∈ vs1, i ∈ own.map (·.2) := by decide)
    (hs : ∀ x, foldedSetIterable iter X.env x = pure x := by intro _; rfl) (hs1 : ∀ env x, foldedSetIterable iter1 env x = pure x := by intro _ _; rfl) :
    SE X W (.ListComp elt [⟨tg, iter, ifs, 0⟩, ⟨tg1, iter1, ifs1, 0⟩] scope pos) (rComp2 it gs cond it1 gs1 cond1 fe (own.map (·.2)) vs1) (tLc2 wi g tt wi1 g1 tt1 te (own.map (·.2)) vs1) :=
  ⟨pe_lc2 hc hN hi.pi ok hv (fun s H C cl fp => (hg s H C cl fp).pg) (fun s H C cl fp => (ht s H C cl fp).pt) (fun s H C cl fp => (hi1 s H C cl fp).pi) (fun s H C cl fp => (hg1 s H C cl fp).pg) (fun s H C cl fp => (ht1 s H C cl fp).pt) (fun s H C cl fp => (he s H C cl fp).pe) hs hs1,
    fun w H0 σ H env m Q Wm S q => comp2_rd (X := X) (Y := X.blk X.s_0 (fun _ => none) scope (compEnvC scope [] 0 X.env) []) rfl hog hi hvs hvs1 (hg _ _ _ _ _) (ht _ _ _ _ _) (hi1 _ _ _ _ _) (hg1 _ _ _ _ _) (ht1 _ _ _ _ _) (he _ _ _ _ _) w H0 σ H env m Q Wm S q⟩
theorem ss_setC2' (i : Nat) {y : Str} {py : Pos} {elt tg iter tg1 iter1 : Expr} {ifs ifs1 : List Expr} {scope : Scope} {own : List (Str × Nat)} {vs1 : List Nat} {pos spos : Pos} {is is1 : List Nat} {wi wi1 : TI} {g g1 : TG} {tt tt1 : TT} {te : TE} {it it1 : SemDs} {gs gs1 : SemG} {cond cond1 : SemB} {fe : SemR} (hc : X.calm = true) (hN : X.N.Nodup) (hog : OwnG gs) (hi : SIt X W tg iter it wi) (ok : BlkOk X.N X.env.scope scope own)
    (hg : ∀ (s : Shared) (H : Hp) (C : Addr) (cl : List (Str × Addr)) (fp : List Addr), SGt (X.blk s H scope (compEnvC scope cl C X.env) fp) tg gs is g)
    (ht0 : SPt (X.blk X.s_0 (fun _ => none) scope (compEnvC scope [] 0 X.env) []) W0 ifs cond tt) (ht : ∀ (s : Shared) (H : Hp) (C : Addr) (cl : List (Str × Addr)) (fp : List Addr), SPt (X.blk s H scope (compEnvC scope cl C X.env) fp) W0 ifs cond tt)
    (hi10 : SIt (X.blk X.s_0 (fun _ => none) scope (compEnvC scope [] 0 X.env) []) W0 tg1 iter1 it1 wi1) (hi1 : ∀ (s : Shared) (H : Hp) (C : Addr) (cl : List (Str × Addr)) (fp : List Addr), SIt (X.blk s H scope (compEnvC scope cl C X.env) fp) W0 tg1 iter1 it1 wi1)
    (hg1 : ∀ (s : Shared) (H : Hp) (C : Addr) (cl : List (Str × Addr)) (fp : List Addr), SGt (X.blk s H scope (compEnvC scope cl C X.env) fp) tg1 gs1 is1 g1)
    (ht10 : SPt (X.blk X.s_0 (fun _ => none) scope (compEnvC scope [] 0 X.env) []) W0 ifs1 cond1 tt1) (ht1 : ∀ (s : Shared) (H : Hp) (C : Addr) (cl : List (Str × Addr)) (fp : List Addr), SPt (X.blk s H scope (compEnvC scope cl C X.env) fp) W0 ifs1 cond1 tt1)
    (he0 : SE (X.blk X.s_0 (fun _ => none) scope (compEnvC scope [] 0 X.env) []) W0 elt fe te) (he : ∀ (s : Shared) (H : Hp) (C : Addr) (cl : List (Str × Addr)) (fp : List Addr), SE (X.blk s H scope (compEnvC scope cl C X.env) fp) W0 elt fe te)
    (hy : X.N[i]? = some y := by rfl) (hyl : X.env.scope.names.lookup y = some .local := by rfl)
    (hsw : swapsWith (.ListComp elt [⟨tg, iter, ifs, 0⟩, ⟨tg1, iter1, ifs1, 0⟩] scope pos) (some (.Name y py)) spos.line X.env = pure true := by exact sw_true rfl rfl rfl (by decide +kernel))
    (hvs : ∀ i ∈ is, i ∈ own.map (·.2) := by decide) (hvs1 : ∀ i ∈ is1, i ∈ vs1 := by decide) (hv : ∀ i ∈ vs1, i ∈ own.map (·.2) := by decide)
    (hs : ∀ x, foldedSetIterable iter X.env x = pure x := by intro _; rfl) (hs1 : ∀ env x, foldedSetIterable iter1 env x = pure x := by intro _ _; rfl) :
    SSt X W (.Assign [.Name y py] (.ListComp elt [⟨tg, iter, ifs, 0⟩, ⟨tg1, iter1, ifs1, 0⟩] scope pos) spos) (sSet i (rComp2 it gs cond it1 gs1 cond1 fe (own.map (·.2)) vs1)) (tAsg (tLc2 wi g tt wi1 g1 tt1 te (own.map (·.2)) vs1) (gName i)) := by
  refine ⟨ps_setLc2 hc hN hy hyl hsw hi.pi ok hv (fun s H C cl fp => (hg s H C cl fp).pg) (fun s H C cl fp => (ht s H C cl fp).pt) (fun s H C cl fp => (hi1 s H C cl fp).pi) (fun s H C cl fp => (hg1 s H C cl fp).pg) (fun s H C cl fp => (ht1 s H C cl fp).pt) (fun s H C cl fp => (he s H C cl fp).pe) hs hs1, fun w0 H0 w σ H env m D E Wm S q => ?_⟩
  exact set_rd i (fun w H0 σ H env m Q Wm S q => comp2_rd (X := X) (Y := X.blk X.s_0 (fun _ => none) scope (compEnvC scope [] 0 X.env) []) rfl hog hi hvs hvs1 (hg _ _ _ _ _) (ht _ _ _ _ _) (hi1 _ _ _ _ _) (hg1 _ _ _ _ _) (ht1 _ _ _ _ _) (he _ _ _ _ _) w H0 σ H env m Q Wm S q) w0 H0 w σ H env m D E Wm S q
end
/-! ### read by simp -/
section
variable {env : Env} {m : Cells}
def kC2o (tg : SemG) (c : SemB) (inner : Env → Cells → Res (List Ev.D)) (tg2 : SemG) (r : Res (List Ev.D)) (env : Env) : Res RV := r.bind fun ds m1 => (comp2L tg c inner env ds m1).bind kLim
@[simp] theorem kC2o_1 (tg : SemG) (c : SemB) (inner : Env → Cells → Res (List Ev.D)) (tg2 : SemG) (ds : List Ev.D) : kC2o tg c inner tg2 (.ok ds m) env = (comp2L tg c inner env ds m).bind kLim := nr rfl
@[simp] theorem ev_rComp2 (it : SemDs) (tg : SemG) (c : SemB) (it2 : SemDs) (tg2 : SemG) (c2 : SemB) (elt : SemR) (vs vs2 : List Nat) : rComp2 it tg c it2 tg2 c2 elt vs vs2 env m = kC2o tg c (comp2I it2 tg2 c2 elt vs2) tg2 (it env m) (wipeE env vs) := nr rfl
theorem kLim_1 {ys : List Ev.D} (h : ys.length ≤ 1000000) : (Res.ok ys m).bind kLim = .ok (.fl ys) m := by
  show (if _ then _ else _) = _
  rw [if_pos (show ys.length ≤ LN from h)]
/-- over all: the inner lists joined -/
theorem comp2_list {α : Type} {tg : SemG} {c : SemB} {inner : Env → Cells → Res (List Ev.D)} {env : Env} {m : Cells} (emb : α → Ev.D) (e : α → Env) {P : α → Bool} {F : α → List Ev.D} : ∀ (xs : List α), (∀ x ∈ xs, tg (emb x) env = some (e x) ∧ c (e x) m = .ok (P x) m) → (∀ x ∈ xs, P x = true → inner (e x) m = .ok (F x) m) →
    comp2L tg c inner env (xs.map emb) m = .ok ((xs.filter P).flatMap F) m
  | [], _, _ => rfl
  | x :: xs, h, h' => by
    have t := comp2_list (tg := tg) (c := c) (inner := inner) (env := env) (m := m) emb e xs (fun y hy => h y (List.mem_cons_of_mem _ hy)) fun y hy => h' y (List.mem_cons_of_mem _ hy)
    obtain ⟨h1, h2⟩ := h x (List.mem_cons_self ..)
    rw [List.map_cons]
    dsimp only [comp2L]
    rw [h1]
    show (noX (c (e x) m)).bind _ = _
    rw [h2]
    show (if P x = true then _ else _) = _
    by_cases hp : P x = true
    · rw [if_pos hp, h' x (List.mem_cons_self ..) hp]
      show (comp2L tg c inner env (xs.map emb) m).bind _ = _
      rw [t, List.filter_cons_of_pos hp, List.flatMap_cons]
      rfl
    · rw [if_neg hp, t, List.filter_cons_of_neg hp]
def kC2i (tg2 : SemG) (c2 : SemB) (elt : SemR) (r : Res (List Ev.D)) (env : Env) : Res (List Ev.D) := (noX r).bind fun ds m1 => compL tg2 c2 elt env ds m1
@[simp] theorem kC2i_1 (tg2 : SemG) (c2 : SemB) (elt : SemR) (ds : List Ev.D) : kC2i tg2 c2 elt (.ok ds m) env = compL tg2 c2 elt env ds m := nr rfl
@[simp] theorem ev_comp2I (it2 : SemDs) (tg2 : SemG) (c2 : SemB) (elt : SemR) (vs2 : List Nat) : comp2I it2 tg2 c2 elt vs2 env m = kC2i tg2 c2 elt (it2 env m) (wipeE env vs2) := nr rfl
end
end Ev
/-! Ev: defs that make cells of their own, and freeze them when they return. -/
namespace Ev
open PySem PySem.Spec L2
def thawL (f : Ev.D → Option Ev.D) : List Ev.D → Option (List Ev.D)
  | [] => some []
  | x :: xs => match f x, thawL f xs with
    | some y, some ys => some (y :: ys)
    | _, _ => none
/-- data in which the cells from lo on are read out -/
def thaw : Nat → Cells → Nat → Ev.D → Option Ev.D
  | 0, _, _, _ => none
  | k + 1, m, lo, .ref n => if n < lo then some (.ref n) else match m[n]? with
    | some (.lst xs) => (thawL (thaw k m lo) xs).map .lst
    | none => none
  | k + 1, m, lo, .tup xs => (thawL (thaw k m lo) xs).map .tup
  | k + 1, m, lo, .lst xs => (thawL (thaw k m lo) xs).map .lst
  | _ + 1, _, _, .non => some .non
  | _ + 1, _, _, .bl b => some (.bl b)
  | _ + 1, _, _, .int i => some (.int i)
  | _ + 1, _, _, .str x => some (.str x)
  | _ + 1, _, _, .ext n => some (.ext n)
  | _ + 1, _, _, .dct _ _ => none
  | _ + 1, _, _, .scr _ => none
def noRef : Nat → Ev.D → Bool
  | 0, _ => false
  | _ + 1, .ref _ => false
  | k + 1, .tup xs => xs.all (noRef k)
  | k + 1, .lst xs => xs.all (noRef k)
  | k + 1, .scr xs => xs.all (noRef k)
  | _ + 1, .dct ks vs => ks.isEmpty && vs.isEmpty
  | _ + 1, .non => true
  | _ + 1, .bl _ => true
  | _ + 1, .int _ => true
  | _ + 1, .str _ => true
  | _ + 1, .ext _ => true
def cellPlain : Cell → Bool
  | .lst xs => xs.all (noRef 6)
/-- the world in which the cells from lo on are known objects -/
def Wd.cut (w : Wd) (H : Hp) (lo : Nat) : Wd := { w with F := fun a => if a ∈ w.ι.drop lo then H a else w.F a, ι := w.ι.take lo }
section
variable {K : PySem.W.Frag} {w : Wd} {H : Hp} {m : Cells} {lo : Nat}
theorem cut_F (W : Wf K w H m) {a : Addr} {o : HO} (h : w.F a = some o) : (w.cut H lo).F a = some o := by
  show (if a ∈ w.ι.drop lo then H a else w.F a) = some o
  rw [if_neg]
  · exact h
  · intro hm
    obtain ⟨n, hn⟩ := List.mem_iff_getElem?.mp (List.mem_of_mem_drop hm)
    rw [W.nof n a hn] at h
    cases h
theorem cut_ref (W : Wf K w H m) {a : Addr} {n : Nat} {o : HO} (hn : w.ι[n]? = some a) (hlo : lo ≤ n) (h : H a = some o) : (w.cut H lo).F a = some o := by
  show (if a ∈ w.ι.drop lo then H a else w.F a) = some o
  rw [if_pos]
  · exact h
  · rw [List.mem_iff_getElem?]
    exact ⟨n - lo, by rw [List.getElem?_drop, show lo + (n - lo) = n by omega]; exact hn⟩
theorem cut_iota {a : Addr} {n : Nat} (hn : w.ι[n]? = some a) (hlo : n < lo) : (w.cut H lo).ι[n]? = some a := by
  show (w.ι.take lo)[n]? = some a
  rw [List.getElem?_take, if_pos hlo, hn]
theorem rds_all {w' : Wd} {f : Ev.D → Bool} (hf : ∀ x v, f x = true → RD K w x v → RD K w' x v) : ∀ {xs : List Ev.D} {vs : List V}, xs.all f = true → RDs K w xs vs → RDs K w' xs vs := by
  intro xs
  induction xs with
  | nil => intro vs _ r; cases r; exact .nil
  | cons x xs ih =>
    intro vs h r
    rw [List.all_cons, Bool.and_eq_true] at h
    cases r with
    | cons r rs => exact .cons (hf _ _ h.1 r) (ih h.2 rs)
theorem cut_noRef (W : Wf K w H m) : ∀ (k : Nat) (x : Ev.D) (v : V), noRef k x = true → RD K w x v → RD K (w.cut H lo) x v := by
  intro k
  induction k with
  | zero => intro x v h; cases h
  | succ k ih =>
    intro x v h r
    cases r with
    | non => exact .non
    | bl b => exact .bl b
    | int i => exact .int i
    | str x => exact .str x
    | tup s q => exact .tup (sqT_sub (fun a o e => cut_F W e) s) (rds_all ih h q)
    | lst s q => exact .lst (cut_F W s) (rds_all ih h q)
    | scr s q => exact .scr (sqL_sub (fun a o e => cut_F W e) s) (rds_all ih h q)
    | dct0 s => exact .dct0 (cut_F W s)
    | ref _ => cases h
    | ext e => exact .ext e
theorem rds_thaw {w' : Wd} {f : Ev.D → Option Ev.D} (hf : ∀ x v y, f x = some y → RD K w x v → RD K w' y v) : ∀ {xs ys : List Ev.D} {vs : List V}, thawL f xs = some ys → RDs K w xs vs → RDs K w' ys vs := by
  intro xs
  induction xs with
  | nil => intro ys vs h r; cases h; cases r; exact .nil
  | cons x xs ih =>
    intro ys vs h r
    unfold thawL at h
    cases r with
    | cons r rs =>
      cases h1 : f x with
      | none => rw [h1] at h; cases h
      | some y =>
        cases h2 : thawL f xs with
        | none => rw [h1, h2] at h; cases h
        | some ys =>
          rw [h1, h2] at h
          cases h
          exact .cons (hf _ _ _ h1 r) (ih h2 rs)
theorem cut_thaw (W : Wf K w H m) : ∀ (k : Nat) (x : Ev.D) (v : V) (y : Ev.D), thaw k m lo x = some y → RD K w x v → RD K (w.cut H lo) y v := by
  intro k
  induction k with
  | zero => intro x v y h; cases h
  | succ k ih =>
    intro x v y h r
    cases r with
    | non => cases h; exact .non
    | bl b => cases h; exact .bl b
    | int i => cases h; exact .int i
    | str x => cases h; exact .str x
    | tup s q =>
      obtain ⟨ys, h1, rfl⟩ := Option.map_eq_some_iff.mp (show (thawL (thaw k m lo) _).map Ev.D.tup = some y from h)
      exact .tup (sqT_sub (fun a o e => cut_F W e) s) (rds_thaw ih h1 q)
    | lst s q =>
      obtain ⟨ys, h1, rfl⟩ := Option.map_eq_some_iff.mp (show (thawL (thaw k m lo) _).map Ev.D.lst = some y from h)
      exact .lst (cut_F W s) (rds_thaw ih h1 q)
    | scr s q => cases h
    | dct0 s => cases h
    | ext e => cases h; exact .ext e
    | ref hn =>
      rename_i a n
      have h : (if n < lo then some (Ev.D.ref n) else match m[n]? with | some (.lst xs) => (thawL (thaw k m lo) xs).map .lst | none => none) = some y := h
      by_cases hl : n < lo
      · rw [if_pos hl] at h
        cases h
        exact .ref (cut_iota hn hl)
      · rw [if_neg hl] at h
        cases hm : m[n]? with
        | none => rw [hm] at h; cases h
        | some c =>
          cases c with
          | lst xs =>
            rw [hm] at h
            obtain ⟨ys, h1, rfl⟩ := Option.map_eq_some_iff.mp h
            obtain ⟨a', g1, vs, g2, g3⟩ := W.cell n _ hm
            rw [hn] at g1
            cases g1
            exact .lst (cut_ref W hn (Nat.le_of_not_lt hl) g2) (rds_thaw ih h1 g3)
theorem cut_wf (W : Wf K w H m) (hl : lo ≤ m.length) (hp : (m.take lo).all cellPlain = true) : Wf K (w.cut H lo) H (m.take lo) where
  sub := fun a o e => by
    have e : (if a ∈ w.ι.drop lo then H a else w.F a) = some o := e
    by_cases hm : a ∈ w.ι.drop lo
    · rw [if_pos hm] at e; exact e
    · rw [if_neg hm] at e; exact W.sub a o e
  nof := fun n a e => by
    have e : (w.ι.take lo)[n]? = some a := e
    rw [List.getElem?_take] at e
    split at e
    · rename_i hn
      show (if a ∈ w.ι.drop lo then H a else w.F a) = none
      rw [if_neg]
      · exact W.nof n a e
      · intro hm
        obtain ⟨j, hj⟩ := List.mem_iff_getElem?.mp hm
        rw [List.getElem?_drop] at hj
        have := W.inj _ _ a e hj
        omega
    · cases e
  inj := fun i j a e1 e2 => by
    have e1 : (w.ι.take lo)[i]? = some a := e1
    have e2 : (w.ι.take lo)[j]? = some a := e2
    rw [List.getElem?_take] at e1 e2
    split at e1
    · split at e2
      · exact W.inj i j a e1 e2
      · cases e2
    · cases e1
  len := by
    show (w.ι.take lo).length = (m.take lo).length
    rw [List.length_take, List.length_take, W.len]
  cell := fun n c e => by
    rw [List.getElem?_take] at e
    split at e
    · rename_i hn
      obtain ⟨a, h1, h2⟩ := W.cell n c e
      refine ⟨a, cut_iota h1 hn, ?_⟩
      have hc := List.all_eq_true.mp hp c (List.mem_iff_getElem?.mpr ⟨n, by rw [List.getElem?_take, if_pos hn]; exact e⟩)
      cases c with
      | lst xs =>
        obtain ⟨vs, g1, g2⟩ := h2
        exact ⟨vs, g1, rds_all (cut_noRef W 6) hc g2⟩
    · cases e
  xi := W.xi
theorem cut_ext {w0 : Wd} {H0 : Hp} (W0 : w0.ι.length = lo) (W0n : ∀ (n : Nat) a, w0.ι[n]? = some a → w0.F a = none) (W : Wf K w H m) (E : Ext w0 H0 w H) : Ext w0 H0 (w.cut H lo) H where
  le := ⟨fun a o e => cut_F W (E.le.sub a o e), fun n a e => cut_iota (E.le.pre n a e) (by have := (List.getElem?_eq_some_iff.mp e).1; omega), E.le.xi⟩
  keep := E.keep
  newF := fun a o e => by
    have e : (if a ∈ w.ι.drop lo then H a else w.F a) = some o := e
    by_cases hm : a ∈ w.ι.drop lo
    · obtain ⟨j, hj⟩ := List.mem_iff_getElem?.mp hm
      rw [List.getElem?_drop] at hj
      rcases E.newI a (List.mem_of_mem_drop hm) with q | q
      · obtain ⟨n, hn⟩ := List.mem_iff_getElem?.mp q
        have := W.inj _ _ a (E.le.pre n a hn) hj
        have := (List.getElem?_eq_some_iff.mp hn).1
        omega
      · exact .inr q
    · rw [if_neg hm] at e
      exact E.newF a o e
  newI := fun a h => E.newI a (List.mem_of_mem_take h)
  there := E.there
end
/-- a def that freezes what it made -/
def fnRunC (n N : Nat) (b : SemS) : Fn := fun ds m => if ds.length = n then (b (ds.map Slot.d ++ List.replicate (N - n) .un) m).bind fun o m1 => match o with
  | .rt rv => (match rv.frz with
    | some x => (match thaw 6 m1 m.length x with
      | some y => if (m1.take m.length).all cellPlain = true then .ok (.d y) (m1.take m.length) else .bot
      | none => .bot)
    | none => .bot)
  | _ => .bot
  else .bot
theorem FnS.ofDC {P : Program} {w : World} {K : PySem.W.Frag} {mg : Str → Option Value} {base : Heap} {x y : Str} {params : Arguments} {body : List Stmt} {scope : Scope} {a : Addr} {fd : FuncData} {N ps : List Str} {k n m : Nat} {b : SemS} (F : FunD K x x params body scope [] [] a fd) (S : FnScope N ps scope) (hm : mg y = some (.ref a)) (hb : Binds K fd ps []) (hn : ps.length = n) (hN : N.length = m) (hl : n ≤ m)
    (hbody : ∀ (cdv : Value) (A : Around) (outer : List PySem.Env) (s : Shared) (H : Hp) (E : XK), Room k (A.deeper (PyProof.Rows.envOfC x scope s.heap.objs.size a cdv)) →
      Takes (cxOf (L2.CX P w) P w K mg base N x scope a cdv A outer s H E) (fun cls d _ H => E cls d H) → PassesOwn (model P w) (cxOf (L2.CX P w) P w K mg base N x scope a cdv A outer s H E).A (cxOf (L2.CX P w) P w K mg base N x scope a cdv A outer s H E).env (cxOf (L2.CX P w) P w K mg base N x scope a cdv A outer s H E).xe →
      ∃ t, SSs (cxOf (L2.CX P w) P w K mg base N x scope a cdv A outer s H E) (fun cls d _ H => E cls d H) body b t) : FnS P w K mg base (k + 1) y ps a fd (fnRunC n m b) := by
  subst hn hN
  refine ⟨hm, F.kp, hb, F.ok (CX := L2.CX P w) S (fun vs H Q E h => ?_) (fun cdv A outer s H vs Q E hr h => ?_)⟩
  · obtain ⟨_, _, _, _, _, h, _⟩ := h
    exact h
  · obtain ⟨w1, m1, ds, W1, r1, hl1, q⟩ := h
    obtain ⟨t, ht⟩ := hbody cdv A outer s H E hr (takes_of rfl rfl rfl rfl) (passes_of (K := fun e s'' => L2.CX P w outer H s E e s'') rfl)
    refine ⟨t, ht.ps, ?_⟩
    unfold fnRunC at q
    have hds : ds.length = ps.length := r1.length.trans hl1
    rw [if_pos hds] at q
    refine ht.rd w1 H w1 (L2.start N vs) H _ m1 _ (.refl _ _) W1 (slots_start r1 hds hl) (WP.mono (WP.of_bind q) (fun o m2 q w2 H2 E2 L2 W2 => ?_) fun x m' z c d w' H' σ' _ E' W' rx => z c d w' H' E' W' rx)
    cases o with
    | rt rv =>
      intro v rr
      dsimp only at q
      cases hf : rv.frz with
      | none => rw [hf] at q; exact q.elim
      | some x =>
        rw [hf] at q
        dsimp only at q
        obtain ⟨w3, E3, W3, r3, _⟩ := rr.frz hf E2 W2
        cases ht : thaw 6 m2 m1.length x with
        | none => rw [ht] at q; exact q.elim
        | some y =>
          rw [ht] at q
          dsimp only at q
          split at q
          · rename_i hp
            have hl : m1.length ≤ m2.length := by
              have h1 := W3.len
              have h2 := W1.len
              rcases Nat.lt_or_ge m2.length m1.length with h | h
              · have hn : w1.ι[m2.length]? = some (w1.ι[m2.length]'(by omega)) := List.getElem?_eq_getElem (by omega)
                have := (List.getElem?_eq_some_iff.mp (E3.le.pre _ _ hn)).1
                omega
              · exact h
            exact q (w3.cut H2 m1.length) H2 v (cut_ext W1.len (fun n a e => W1.nof n a e) W3 E3) (cut_wf W3 hl hp) (cut_thaw W3 6 x v y ht r3)
          · exact q.elim
    | nx env' => exact q.elim
    | bk env' => exact q.elim
    | ct env' => exact q.elim
end Ev
/-! Ev: new cells as values; walks over cells that stand still meanwhile. -/
namespace Ev
open PySem PySem.Spec L2
/-! ### a new list becomes a cell -/
def mkCell : RV → Cells → Res RV
  | .fl xs, m => .ok (.d (.ref m.length)) (m ++ [.lst xs])
  | _, _ => .bot
def rCell (f : SemR) : SemR := fun env m => (f env m).bind mkCell
section
variable {X : Cx} {W : WX} {e : Expr} {f : SemR} {te : TE} {pos : Pos}
theorem cell_rd (h : ∀ w H0 σ H env m Q, Wf X.K w H m → Slots X.K w H0 σ H env → WP (f env m) (PR X w H0 H Q) (PX X W w H σ) → te σ H Q) :
    ∀ w H0 σ H env m Q, Wf X.K w H m → Slots X.K w H0 σ H env → WP (rCell f env m) (PR X w H0 H Q) (PX X W w H σ) → te σ H Q := fun w H0 σ H env m Q Wm S q => by
  refine h w H0 σ H env m Q Wm S (WP.mono (WP.of_bind q) (fun rv m1 q w1 H1 v E1 W1 r1 => ?_) fun _ _ z => z)
  cases rv with
  | fl xs =>
    obtain ⟨a, vs, rfl, h2, h3, h4, h5, h6⟩ := r1
    obtain ⟨E3, W3, _, r3⟩ := ref_new E1 W1 h2 h3 h4 h5 h6
    exact q _ _ _ E3 W3 r3
  | d x => exact q.elim
  | pk xs => exact q.elim
theorem se_cell (h : SE X W e f te) : SE X W e (rCell f) te := ⟨h.pe, cell_rd h.rd⟩
end
/-! ### walks -/
abbrev Gd := Option (Nat × List Ev.D)
def gdOk : Gd → Cells → Prop
  | none, _ => True
  | some (n, xs), m => m[n]? = some (.lst xs)
open Classical in
noncomputable def gdS {α : Type} (g : Gd) (m : Cells) (r : Res α) : Res α := if gdOk g m then r else .bot
theorem gdS_wp {α : Type} {g : Gd} {m : Cells} {r : Res α} {P : α → Cells → Prop} {Z : Exn → Cells → Prop} (h : WP (gdS g m r) P Z) : gdOk g m ∧ WP r P Z := by
  unfold gdS at h
  split at h
  · exact ⟨‹_›, h⟩
  · exact h.elim
theorem gdS_ok {α : Type} {g : Gd} {m : Cells} {r : Res α} (h : gdOk g m) : gdS g m r = r := by
  unfold gdS
  rw [if_pos h]
theorem gdS_noX {α : Type} {g : Gd} {m : Cells} {r : Res α} (h : noX r = r) : noX (gdS g m r) = gdS g m r := by
  unfold gdS
  split
  · exact h
  · rfl
def WalksG (K : PySem.W.Frag) (w' : Wd) (J : It) (gd : Gd) (ds : List Ev.D) : Prop := ∃ G Y, Walk J ds.length G Y ∧ (∀ w2 H2 m2, WLe w' w2 → Wf K w2 H2 m2 → gdOk gd m2 → G H2) ∧
  ∀ i H2 v H3, i < ds.length → Y i H2 v H3 → ∀ w2 m2, WLe w' w2 → Wf K w2 H2 m2 → gdOk gd m2 → ∃ x w3, ds[i]? = some x ∧ Ext w2 H2 w3 H3 ∧ Wf K w3 H3 m2 ∧ RD K w3 x v
theorem Walks.toG {K : PySem.W.Frag} {w' : Wd} {J : It} {ds : List Ev.D} (h : Walks K w' J ds) (gd : Gd) : WalksG K w' J gd ds := by
  obtain ⟨G, Y, h1, h2, h3⟩ := h
  exact ⟨G, Y, h1, fun w2 H2 m2 L W _ => h2 w2 H2 L W.sub, fun i H2 v H3 hi y w2 m2 L W _ => h3 i H2 v H3 hi y w2 m2 L W⟩
abbrev SemGs := Env → Cells → Res (Gd × List Ev.D)
structure SItG (X : Cx) (W : WX) (tg e : Expr) (f : SemGs) (wi : TI) : Prop where
  pi : PI X tg e wi
  rd : ∀ w H0 σ H env m (R : It → Hp → Prop), Wf X.K w H m → Slots X.K w H0 σ H env → WP (f env m) (fun ds m' => ∀ w' H' J, Ext w H w' H' → Wf X.K w' H' m' → WalksG X.K w' J ds.1 ds.2 → R J H') (PX X W w H σ) → wi σ H R
/-- the list in a cell, walked -/
theorem walks_cell {K : PySem.W.Frag} {w : Wd} {a : Addr} {n : Nat} {xs : List Ev.D} (h : w.ι[n]? = some a) : WalksG K w (Itl K a) (some (n, xs)) xs := by
  have key : ∀ w2 H2 m2, WLe w w2 → Wf K w2 H2 m2 → gdOk (some (n, xs)) m2 → ∃ vs, H2 a = some (.lst vs) ∧ RDs K w2 xs vs := fun w2 H2 m2 L W2 g => by
    obtain ⟨b, g1, vs, g2, g3⟩ := W2.cell n _ g
    rw [L.pre _ _ h] at g1
    cases g1
    exact ⟨vs, g2, g3⟩
  refine ⟨fun H => ∃ vs : List V, SqL K H a vs ∧ vs.length = xs.length, (Itl K a).yld, ⟨fun i H hi q => ?_, fun H q => ?_, fun i H v H' _ _ y => y⟩, fun w2 H2 m2 L W2 g => ?_, fun i H2 v H3 hi y w2 m2 L W2 g => ?_⟩
  · obtain ⟨vs, q1, q2⟩ := q
    exact ⟨vs, vs[i]'(by omega), q1, by simp [q2, hi]⟩
  · obtain ⟨vs, q1, q2⟩ := q
    exact ⟨vs, q1, Nat.le_of_eq q2⟩
  · obtain ⟨vs, q1, q2⟩ := key w2 H2 m2 L W2 g
    exact ⟨vs, .inl (.inl q1), q2.length.symm⟩
  · obtain ⟨vs, q1, q2⟩ := key w2 H2 m2 L W2 g
    obtain ⟨rfl, y⟩ := y
    obtain ⟨x, hx, rx⟩ := q2.getV (y vs (.inl (.inl q1)))
    exact ⟨x, w2, hx, .refl _ _, W2, rx⟩
theorem walks_enumC {X : Cx} {w : Wd} {a : Addr} {n : Nat} {xs : List Ev.D} (h : w.ι[n]? = some a) : WalksG X.K w (Ite X.K a) (some (n, xs)) (enumD xs) := by
  have key : ∀ w2 H2 m2, WLe w w2 → Wf X.K w2 H2 m2 → gdOk (some (n, xs)) m2 → ∃ vs, H2 a = some (.lst vs) ∧ RDs X.K w2 xs vs := fun w2 H2 m2 L W2 g => by
    obtain ⟨b, g1, vs, g2, g3⟩ := W2.cell n _ g
    rw [L.pre _ _ h] at g1
    cases g1
    exact ⟨vs, g2, g3⟩
  refine ⟨fun H => ∃ vs : List V, SqL X.K H a vs ∧ vs.length = xs.length, (Ite X.K a).yld, ⟨fun i H hi q => ?_, fun H q => ?_, fun i H v H' _ _ y => y⟩, fun w2 H2 m2 L W2 g => ?_, fun i H2 v H3 hi y w2 m2 L W2 g => ?_⟩
  · obtain ⟨vs, q1, q2⟩ := q
    rw [enumD_len] at hi
    exact ⟨vs, vs[i]'(by omega), q1, by simp [q2, hi]⟩
  · obtain ⟨vs, q1, q2⟩ := q
    exact ⟨vs, q1, by rw [enumD_len]; exact Nat.le_of_eq q2⟩
  · obtain ⟨vs, q1, q2⟩ := key w2 H2 m2 L W2 g
    exact ⟨vs, .inl (.inl q1), q2.length.symm⟩
  · obtain ⟨vs, q1, q2⟩ := key w2 H2 m2 L W2 g
    obtain ⟨T, z, rfl, hT, rfl, y⟩ := y
    obtain ⟨d, e, h3, r1, r2⟩ := enumD_get q2 i _ z hi rfl (y vs (.inl (.inl q1)))
    obtain ⟨E, W3, L3, f⟩ := new_known (X := X) (o := .tup [.int (i : Nat), z]) W2 hT
    exact ⟨_, _, h3, E, W3, .tup (.inl (.inl f)) (.cons (r1.le L3) (.cons (r2.le L3) .nil))⟩
def kNoG (ds : List Ev.D) (m : Cells) : Res (Gd × List Ev.D) := .ok (none, ds) m
def ePlainG (f : SemDs) : SemGs := fun env m => (f env m).bind kNoG
/-- a sequence, or a cell -/
def eSeqG (f : SemR) : SemGs := fun env m => (f env m).bind fun x m1 => match x with
  | .d (.lst xs) | .d (.tup xs) | .d (.scr xs) => .ok (none, xs) m1
  | .fl xs => .ok (none, xs) m1
  | .d (.ref n) => (match m1[n]? with
    | some (.lst xs) => .ok (some (n, xs), xs) m1
    | none => .bot)
  | _ => .bot
def eEnumG (f : SemR) : SemGs := fun env m => (f env m).bind fun x m1 => match x with
  | .d (.ref n) => (match m1[n]? with
    | some (.lst xs) => .ok (some (n, xs), enumD xs) m1
    | none => .bot)
  | _ => .bot
section
variable {X : Cx} {W : WX} {tg a b e : Expr} {fa : SemR} {as : SemDs} {ta te : TE} {p pos tpos : Pos} {elts : List Expr} {kk : Nat}
theorem si_plain {f : SemDs} {wi : TI} (h : SIt X W tg e f wi) : SItG X W tg e (ePlainG f) wi :=
  ⟨h.pi, fun w H0 σ H env m R Wm S q => h.rd w H0 σ H env m R Wm S (WP.mono (WP.of_bind q) (fun ds m1 q w' H' J E W' wk => q w' H' J E W' (wk.toG none)) fun _ _ z => z)⟩
theorem si_cell (h : SE X W a fa ta) : SItG X W tg a (eSeqG fa) (fun σ H R => iList X.K ta σ H R ∨ iTup X.K ta σ H R) := by
  refine ⟨PI.or (pi_list h.pe) (pi_tup h.pe), fun w H0 σ H env m R Wm S q => ?_⟩
  cases e : fa env m with
  | bot => unfold eSeqG at q; rw [e] at q; exact q.elim
  | exc x m' =>
    refine .inl (h.rd w H0 σ H env m _ Wm S ?_)
    unfold eSeqG at q
    rw [e] at q ⊢
    exact q
  | ok x m1 =>
    have q2 := q
    unfold eSeqG at q2
    rw [e] at q2
    cases x with
    | d x =>
      cases x with
      | lst xs =>
        refine .inl (h.rd w H0 σ H env m _ Wm S ?_)
        rw [e]
        intro w' H' v E' W' r
        cases r with
        | lst s r => exact ⟨_, rfl, ⟨_, .inl (.inl (W'.sub _ _ s))⟩, q2 w' H' _ E' W' ((walks_list (.inl (.inl s)) r).toG none)⟩
      | scr xs =>
        refine .inl (h.rd w H0 σ H env m _ Wm S ?_)
        rw [e]
        intro w' H' v E' W' r
        cases r with
        | scr s r => exact ⟨_, rfl, ⟨_, sqL_sub W'.sub s⟩, q2 w' H' _ E' W' ((walks_list s r).toG none)⟩
      | tup xs =>
        refine .inr (h.rd w H0 σ H env m _ Wm S ?_)
        rw [e]
        intro w' H' v E' W' r
        cases r with
        | tup s r => exact ⟨_, rfl, ⟨_, sqT_sub W'.sub s⟩, q2 w' H' _ E' W' ((walks_tup s r).toG none)⟩
      | ref n =>
        refine .inl (h.rd w H0 σ H env m _ Wm S ?_)
        rw [e]
        intro w' H' v E' W' r
        cases r with
        | ref hn =>
          dsimp only [Res.bind] at q2
          split at q2
          · rename_i xs hm
            obtain ⟨a', g1, vs, g2, g3⟩ := W'.cell n _ hm
            rw [hn] at g1
            cases g1
            exact ⟨_, rfl, ⟨_, .inl (.inl g2)⟩, q2 w' H' _ E' W' (walks_cell hn)⟩
          · exact q2.elim
      | _ => exact q2.elim
    | fl xs =>
      refine .inl (h.fz Wm S ?_)
      unfold Ev.fz
      rw [e]
      intro w' H' v E' W' r
      cases r with
      | lst s r => exact ⟨_, rfl, ⟨_, .inl (.inl (W'.sub _ _ s))⟩, q2 w' H' _ E' W' ((walks_list (.inl (.inl s)) r).toG none)⟩
    | pk xs => exact q2.elim
theorem si_enumC (hm : X.mg "enumerate" = none) (h : SE X W e fa te) (hg : Gl X "enumerate" := by rfl) (hs : starEach [e] X.env = [(false, eval e X.env)] := by rfl) :
    SItG X W (.Tuple elts kk tpos) (.Call (.Name "enumerate" p) [e] [] pos) (eEnumG fa) (iEnum X.K (tCons te tNil)) := by
  refine ⟨pi_enum hg hm (pa_cons h.pe pa_nil hs) hs, fun w H0 σ H env m R Wm S q => ?_⟩
  refine h.rd w H0 σ H env m _ Wm S (WP.mono (WP.of_bind q) (fun x m1 q w' H' v E' W' r => ?_) fun _ _ z => z)
  cases x with
  | d x =>
    cases x with
    | ref n =>
      dsimp only at q
      split at q
      · rename_i xs hm'
        cases r with
        | ref hn =>
          obtain ⟨a', g1, vs, g2, g3⟩ := W'.cell n _ hm'
          rw [hn] at g1
          cases g1
          exact ⟨_, _, rfl, .inl (.inl g2), q w' H' _ E' W' (walks_enumC hn)⟩
      · exact q.elim
    | _ => exact q.elim
  | fl xs => exact q.elim
  | pk xs => exact q.elim
end
/-! ### for -/
noncomputable def forLC (gd : Gd) (g : SemG) (b : SemS) : List Ev.D → SemS
  | [] => fun env m => gdS gd m (.ok (.nx env) m)
  | x :: xs => fun env m => gdS gd m (match g x env with
    | none => .bot
    | some env1 => (b env1 m).bind fun o m2 => match o with
      | .nx env2 => forLC gd g b xs env2 m2
      | .ct env2 => forLC gd g b xs env2 m2
      | .bk env2 => .ok (.nx env2) m2
      | .rt rv => .ok (.rt rv) m2)
noncomputable def sForC (it : SemGs) (g : SemG) (b : SemS) : SemS := fun env m => (it env m).bind fun ds m1 => forLC ds.1 g b ds.2 env m1
theorem forLC_wp {gd : Gd} {g : SemG} {b : SemS} {ds : List Ev.D} {env : Env} {m : Cells} {P : Out → Cells → Prop} {Z : Exn → Cells → Prop} (h : WP (forLC gd g b ds env m) P Z) : gdOk gd m := by
  cases ds with
  | nil => exact (gdS_wp h).1
  | cons x xs => exact (gdS_wp h).1
section
variable {X : Cx} {W : WX} {pos : Pos}
theorem ss_forC {tg iter : Expr} {body : List Stmt} {it : SemGs} {wi : TI} {g : SemG} {is : List Nat} {tG : TG} {fb : SemS} {tb : TS} (hp : PassesOwn (model X.prog X.w) X.A X.env X.xe) (hc : X.calm = true) (hi : SItG X W tg iter it wi) (hg : SGt X tg g is tG) (hb : SSs X W body fb tb)
    (hs : ∀ x, foldedSetIterable iter X.env x = pure x := by intro _; rfl) : SSt X W (.For tg iter body [] pos) (sForC it g fb) (tFor wi tG tb) := by
  refine ⟨ps_for hp hc hi.pi hg.pg hb.ps hs, fun w0 H0 w σ H env m D E Wm S q => ?_⟩
  refine hi.rd w H0 σ H env m _ Wm S (WP.mono (WP.of_bind q) (fun gds m1 q w1 H1 J E1 W1 wk => ?_) fun x m' z => PXs.of E z)
  obtain ⟨gd, ds⟩ := gds
  obtain ⟨G, Yi, hw, hG, hY⟩ := wk
  dsimp only at q hw hG hY
  refine for_it hw (fun i σ2 H2 => σ2.length = σ.length ∧ ∃ w2 env2 m2, Ext w0 H0 w2 H2 ∧ WLe w1 w2 ∧ Wf X.K w2 H2 m2 ∧ Slots X.K w2 H0 σ2 H2 env2 ∧ WP (forLC gd g fb (ds.drop i) env2 m2) (PO X w0 H0 w σ.length D) (PXs X W w0 H0 σ.length)) ?_ ?_ ?_ ?_
  · exact ⟨rfl, w1, env, m1, E.trans E1, .refl _, W1, S.ext E1, q⟩
  · rintro i σ2 H2 _ ⟨_, w2, env2, m2, _, L2, W2, _, q2⟩
    exact hG w2 H2 m2 L2 W2 (forLC_wp q2)
  · rintro i v σ2 H2 H3 hi' ⟨hl, w2, env2, m2, E2, L2, W2, S2, q2⟩ y
    obtain ⟨x, w3, hx, E3, W3, r3⟩ := hY i H2 v H3 hi' y w2 m2 L2 W2 (forLC_wp q2)
    have hdrop : ds.drop i = x :: ds.drop (i + 1) := by
      rw [List.drop_eq_getElem_cons hi']
      rw [List.getElem?_eq_getElem hi'] at hx
      cases hx; rfl
    rw [hdrop] at q2
    have q2 := (gdS_wp q2).2
    cases eg : g x env2 with
    | none => rw [eg] at q2; exact q2.elim
    | some env3 =>
      rw [eg] at q2
      refine hg.rd w3 H0 σ2 H3 env2 m2 x v env3 _ W3 (S2.ext E3) r3 eg fun σ3 si S3 => ?_
      have hl3 : σ3.length = σ.length := si.1.trans hl
      refine hb.rd w0 H0 w3 σ3 H3 env3 m2 _ (E2.trans E3) W3 S3 (WP.mono (WP.of_bind q2) (fun o m4 q4 w4 H4 E4 L4 W4 => ?_) fun x m' z => by rw [hl3]; exact z)
      have L := (L2.trans E3.le).trans L4
      cases o with
      | nx env4 => exact fun σ4 hl4 S4 => ⟨hl4.trans hl3, w4, env4, m4, E4, L, W4, S4, q4⟩
      | ct env4 => exact fun σ4 hl4 S4 => ⟨hl4.trans hl3, w4, env4, m4, E4, L, W4, S4, q4⟩
      | bk env4 => exact fun σ4 hl4 S4 => q4 w4 H4 E4 (E1.le.trans L) W4 σ4 (hl4.trans hl3) S4
      | rt rv => exact q4 w4 H4 E4 (E1.le.trans L) W4
  · rintro σ2 H2 ⟨hl, w2, env2, m2, E2, L2, W2, S2, q2⟩
    rw [List.drop_length] at q2
    exact (gdS_wp q2).2 w2 H2 E2 (E1.le.trans L2) W2 σ2 hl S2
end
/-! ### comprehensions -/
noncomputable def compLC (gd : Gd) (tg : SemG) (cond : SemB) (elt : SemR) (env : Env) : List Ev.D → Cells → Res (List Ev.D)
  | [], m => gdS gd m (.ok [] m)
  | x :: xs, m => gdS gd m (match tg x env with
    | none => .bot
    | some env1 => (noX (cond env1 m)).bind fun b m1 => if b = true then (noX (fz elt env1 m1)).bind fun y m2 => (compLC gd tg cond elt env xs m2).bind fun ys m3 => .ok (y :: ys) m3 else compLC gd tg cond elt env xs m1)
noncomputable def rCompC (it : SemGs) (tg : SemG) (cond : SemB) (elt : SemR) (vs : List Nat) : SemR := fun env m => (it env m).bind fun ds m1 => if ds.2.length ≤ LN then (compLC ds.1 tg cond elt (wipeE env vs) ds.2 m1).bind fun ys m2 => .ok (.fl ys) m2 else .bot
theorem compLC_wp {gd : Gd} {g : SemG} {c : SemB} {fe : SemR} {ds : List Ev.D} {env : Env} {m : Cells} {P : List Ev.D → Cells → Prop} {Z : Exn → Cells → Prop} (h : WP (compLC gd g c fe env ds m) P Z) : gdOk gd m := by
  cases ds with
  | nil => exact (gdS_wp h).1
  | cons x xs => exact (gdS_wp h).1
theorem compLC_noX (gd : Gd) (tg : SemG) (cond : SemB) (elt : SemR) (env : Env) : ∀ (ds : List Ev.D) (m : Cells), noX (compLC gd tg cond elt env ds m) = compLC gd tg cond elt env ds m
  | [], m => gdS_noX rfl
  | x :: xs, m => by
    unfold compLC
    refine gdS_noX ?_
    cases tg x env with
    | none => rfl
    | some env1 =>
      refine noX_bind fun b m1 => ?_
      cases b with
      | false =>
        rw [if_neg Bool.false_ne_true]
        exact compLC_noX gd tg cond elt env xs m1
      | true =>
        rw [if_pos rfl]
        refine noX_bind fun y m2 => ?_
        have := compLC_noX gd tg cond elt env xs m2
        cases h : compLC gd tg cond elt env xs m2 with
        | ok a m => rfl
        | exc x m => rw [h] at this; cases this
        | bot => rfl
section
variable {X : Cx} {W : WX}
theorem compC_rd {elt tg iter : Expr} {ifs : List Expr} {vs is : List Nat} {wi : TI} {g : TG} {tt : TT} {te : TE} {it : SemGs} {gs : SemG} {cond : SemB} {fe : SemR} {Y : Cx} (hK : Y.K = X.K) (hi : SItG X W tg iter it wi) (hvs : ∀ i ∈ is, i ∈ vs) (hg : SGt Y tg gs is g) (ht : SPt Y W0 ifs cond tt) (he : SE Y W0 elt fe te)
    (w H0 σ H env m) (Q : VK) (Wm : Wf X.K w H m) (S : Slots X.K w H0 σ H env) (q : WP (rCompC it gs cond fe vs env m) (PR X w H0 H Q) (PX X W w H σ)) : tLc wi g tt te vs σ H Q := by
  refine hi.rd w H0 σ H env m _ Wm S (WP.mono (WP.of_bind q) (fun gds m1 q w1 H1 J E1 W1 wk => ?_) fun _ _ z => z)
  obtain ⟨gd, ds⟩ := gds
  intro D hD
  split at q
  · rename_i hlen
    obtain ⟨G, Yi, hw, hG, hY⟩ := wk
    have q := WP.of_bind q
    dsimp only at q hw hG hY hlen
    have hDw : H D = none := E1.there D hD
    refine lc_it hw (fun i H2 => ∃ w2 m2 acc, Ext w1 H1 w2 H2 ∧ Wf X.K w2 H2 m2 ∧ w2.F D = none ∧ D ∉ w2.ι ∧ (∃ us, H2 D = some (.lst us) ∧ RDs X.K w2 acc us) ∧ acc.length ≤ i ∧
      WP (compLC gd gs cond fe (wipeE env vs) (ds.drop i) m2) (fun ys m' => PR X w H0 H Q (.fl (acc ++ ys)) m') (fun _ _ => False)) ?_ ?_ ?_ ?_
    · refine ⟨w1, m1, [], (Ext.refl _ _).updFresh hD, W1.upd (W1.noF hD) (W1.noI hD), W1.noF hD, W1.noI hD, ⟨[], upd_same, .nil⟩, Nat.zero_le _, ?_⟩
      exact WP.noX' (compLC_noX _ _ _ _ _ _ _) q
    · rintro i H2 hi' ⟨w2, m2, acc, E2, W2, _, _, _, _, q2⟩
      exact hG w2 H2 m2 E2.le W2 (compLC_wp q2)
    · rintro i v H2 H3 hi' ⟨w2, m2, acc, E2, W2, f2, i2, ⟨us, hD2, r2⟩, hacc, q2⟩ y
      obtain ⟨x, w3, hx, E3, W3, r3⟩ := hY i H2 v H3 hi' y w2 m2 E2.le W2 (compLC_wp q2)
      have hdrop : ds.drop i = x :: ds.drop (i + 1) := by
        rw [List.drop_eq_getElem_cons hi']
        rw [List.getElem?_eq_getElem hi'] at hx
        cases hx; rfl
      rw [hdrop, compLC] at q2
      have q2 := (gdS_wp q2).2
      cases eg : gs x (wipeE env vs) with
      | none => rw [eg] at q2; exact q2.elim
      | some env1 =>
        rw [eg] at q2
        have E13 := (E1.trans E2).trans E3
        have f3 := E3.noF f2 (by rw [hD2]; exact fun z => nomatch z)
        have i3 := E3.noI i2 (by rw [hD2]; exact fun z => nomatch z)
        have hD3 := E3.keep D _ hD2 i2
        have S3 := ((S.ext E13).wipe vs)
        have W3' : Wf Y.K w3 H3 m2 := by rw [hK]; exact W3
        have S3' : Slots Y.K w3 H0 (wipe σ vs) H3 (wipeE env vs) := by rw [hK]; exact S3
        refine hg.rd w3 H0 (wipe σ vs) H3 (wipeE env vs) m2 x v env1 _ W3' S3' (by rw [hK]; exact r3) eg fun σ' sin S4 => ⟨(sin.2 vs hvs).trans (wipe_idem σ vs), ?_⟩
        have q2 := WP.of_bind q2
        refine ht.rd w3 H0 σ' H3 env1 m2 _ W3' S4 (WP.mono (WP.of_noX (Z' := PX Y W0 w3 H3 σ') q2) (fun b m3 q3 w4 H4 E4 W4 => ?_) fun x m' z => z)
        have W4' : Wf X.K w4 H4 m3 := by rw [← hK]; exact W4
        have f4 := E4.noF f3 (by rw [hD3]; exact fun z => nomatch z)
        have i4 := E4.noI i3 (by rw [hD3]; exact fun z => nomatch z)
        have hD4 := E4.keep D _ hD3 i3
        cases b with
        | false =>
          rw [if_neg Bool.false_ne_true] at q3 ⊢
          exact ⟨w4, m3, acc, (E2.trans E3).trans E4, W4', f4, i4, ⟨us, hD4, (r2.le E3.le).le E4.le⟩, Nat.le_succ_of_le hacc, q3⟩
        | true =>
          rw [if_pos rfl] at q3 ⊢
          have q3 := WP.of_bind q3
          refine he.fz W4 (S4.ext E4) (WP.mono (WP.of_noX (Z' := PX Y W0 w4 H4 σ') q3) (fun z m4 q4 w5 H5 u E5 W5 r5 => ?_) fun x m' z => z)
          have W5' : Wf X.K w5 H5 m4 := by rw [← hK]; exact W5
          have r5' : RD X.K w5 z u := by rw [← hK]; exact r5
          have f5 := E5.noF f4 (by rw [hD4]; exact fun z => nomatch z)
          have i5 := E5.noI i4 (by rw [hD4]; exact fun z => nomatch z)
          have hD5 := E5.keep D _ hD4 i4
          have hl := (r2.length)
          refine ⟨us, hD5, ?_, w5, m4, acc ++ [z], (((E2.trans E3).trans E4).trans E5).updFresh hD, W5'.upd f5 i5, f5, i5, ⟨_, upd_same, ((((r2.le E3.le).le E4.le).le E5.le).append (.cons r5' .nil))⟩, ?_, ?_⟩
          · exact ln_lt (by omega)
          · rw [List.length_append]; simp only [List.length_cons, List.length_nil]; omega
          · refine WP.mono (WP.of_bind q4) (fun ys m' z => ?_) fun _ _ z => z
            have z : PR X w H0 H Q (.fl (acc ++ (_ :: ys))) m' := z
            rw [List.append_assoc]
            exact z
    · rintro H2 ⟨w2, m2, acc, E2, W2, f2, i2, ⟨us, hD2, r2⟩, _, q2⟩
      rw [List.drop_length, compLC] at q2
      have q2 : PR X w H0 H Q (.fl (acc ++ [])) m2 := (gdS_wp q2).2
      rw [List.append_nil] at q2
      exact q2 w2 H2 _ (E1.trans E2) W2 ⟨D, us, rfl, hD2, f2, i2, hDw, r2⟩
  · exact q.elim
theorem se_lcC {elt tg iter : Expr} {ifs : List Expr} {scope : Scope} {own : List (Str × Nat)} {pos : Pos} {is : List Nat} {wi : TI} {g : TG} {tt : TT} {te : TE} {it : SemGs} {gs : SemG} {cond : SemB} {fe : SemR} (hc : X.calm = true) (hN : X.N.Nodup) (hi : SItG X W tg iter it wi) (ok : BlkOk X.N X.env.scope scope own)
    (hg : ∀ (s : Shared) (H : Hp) (C : Addr) (cl : List (Str × Addr)) (fp : List Addr), SGt (X.blk s H scope (compEnvC scope cl C X.env) fp) tg gs is g) (ht : ∀ (s : Shared) (H : Hp) (C : Addr) (cl : List (Str × Addr)) (fp : List Addr), SPt (X.blk s H scope (compEnvC scope cl C X.env) fp) W0 ifs cond tt)
    (he : ∀ (s : Shared) (H : Hp) (C : Addr) (cl : List (Str × Addr)) (fp : List Addr), SE (X.blk s H scope (compEnvC scope cl C X.env) fp) W0 elt fe te) (hvs : ∀ i ∈ is, i ∈ own.map (·.2) := by decide) (hs : ∀ x, foldedSetIterable iter X.env x = pure x := by intro _; rfl) :
    SE X W (.ListComp elt [⟨tg, iter, ifs, 0⟩] scope pos) (rCompC it gs cond fe (own.map (·.2))) (tLc wi g tt te (own.map (·.2))) := by
  refine ⟨pe_lc hc hN hi.pi ok (fun s H C cl fp => (hg s H C cl fp).pg) (fun s H C cl fp => (ht s H C cl fp).pt) (fun s H C cl fp => (he s H C cl fp).pe) hs, fun w H0 σ H env m Q Wm S q => ?_⟩
  exact compC_rd (X := X) (Y := X.blk X.s_0 (fun _ => none) scope (compEnvC scope [] 0 X.env) []) rfl hi hvs (hg _ _ _ _ _) (ht _ _ _ _ _) (he _ _ _ _ _) w H0 σ H env m Q Wm S q
/-- name = [elt for ..], name a plain local -/
theorem ss_setCC (i : Nat) {y : Str} {py : Pos} {elt tg iter : Expr} {ifs : List Expr} {scope : Scope} {own : List (Str × Nat)} {pos spos : Pos} {is : List Nat} {wi : TI} {g : TG} {tt : TT} {te : TE} {it : SemGs} {gs : SemG} {cond : SemB} {fe : SemR} (hc : X.calm = true) (hN : X.N.Nodup)
    (hi : SItG X W tg iter it wi) (ok : BlkOk X.N X.env.scope scope own)
    (hg : ∀ (s : Shared) (H : Hp) (C : Addr) (cl : List (Str × Addr)) (fp : List Addr), SGt (X.blk s H scope (compEnvC scope cl C X.env) fp) tg gs is g) (ht : ∀ (s : Shared) (H : Hp) (C : Addr) (cl : List (Str × Addr)) (fp : List Addr), SPt (X.blk s H scope (compEnvC scope cl C X.env) fp) W0 ifs cond tt)
    (he : ∀ (s : Shared) (H : Hp) (C : Addr) (cl : List (Str × Addr)) (fp : List Addr), SE (X.blk s H scope (compEnvC scope cl C X.env) fp) W0 elt fe te) (hy : X.N[i]? = some y := by rfl) (hyl : X.env.scope.names.lookup y = some .local := by rfl)
    (hsw : swapsWith (.ListComp elt [⟨tg, iter, ifs, 0⟩] scope pos) (some (.Name y py)) spos.line X.env = pure true := by exact sw_true rfl rfl rfl (by decide +kernel)) (hvs : ∀ i ∈ is, i ∈ own.map (·.2) := by decide) (hs : ∀ x, foldedSetIterable iter X.env x = pure x := by intro _; rfl) :
    SSt X W (.Assign [.Name y py] (.ListComp elt [⟨tg, iter, ifs, 0⟩] scope pos) spos) (sSet i (rCompC it gs cond fe (own.map (·.2)))) (tAsg (tLc wi g tt te (own.map (·.2))) (gName i)) := by
  refine ⟨ps_setLc hc hN hy hyl hsw hi.pi ok (fun s H C cl fp => (hg s H C cl fp).pg) (fun s H C cl fp => (ht s H C cl fp).pt) (fun s H C cl fp => (he s H C cl fp).pe) hs, fun w0 H0 w σ H env m D E Wm S q => ?_⟩
  exact set_rd i (fun w H0 σ H env m Q Wm S q => compC_rd (X := X) (Y := X.blk X.s_0 (fun _ => none) scope (compEnvC scope [] 0 X.env) []) rfl hi hvs (hg _ _ _ _ _) (ht _ _ _ _ _) (he _ _ _ _ _) w H0 σ H env m Q Wm S q) w0 H0 w σ H env m D E Wm S q
/-- name = [elt for ..], the new list a cell -/
theorem ss_setCellC (i : Nat) {y : Str} {py : Pos} {elt tg iter : Expr} {ifs : List Expr} {scope : Scope} {own : List (Str × Nat)} {pos spos : Pos} {is : List Nat} {wi : TI} {g : TG} {tt : TT} {te : TE} {it : SemGs} {gs : SemG} {cond : SemB} {fe : SemR} (hc : X.calm = true) (hN : X.N.Nodup)
    (hi : SItG X W tg iter it wi) (ok : BlkOk X.N X.env.scope scope own)
    (hg : ∀ (s : Shared) (H : Hp) (C : Addr) (cl : List (Str × Addr)) (fp : List Addr), SGt (X.blk s H scope (compEnvC scope cl C X.env) fp) tg gs is g) (ht : ∀ (s : Shared) (H : Hp) (C : Addr) (cl : List (Str × Addr)) (fp : List Addr), SPt (X.blk s H scope (compEnvC scope cl C X.env) fp) W0 ifs cond tt)
    (he : ∀ (s : Shared) (H : Hp) (C : Addr) (cl : List (Str × Addr)) (fp : List Addr), SE (X.blk s H scope (compEnvC scope cl C X.env) fp) W0 elt fe te) (hy : X.N[i]? = some y := by rfl) (hyl : X.env.scope.names.lookup y = some .local := by rfl)
    (hsw : swapsWith (.ListComp elt [⟨tg, iter, ifs, 0⟩] scope pos) (some (.Name y py)) spos.line X.env = pure true := by exact sw_true rfl rfl rfl (by decide +kernel)) (hvs : ∀ i ∈ is, i ∈ own.map (·.2) := by decide) (hs : ∀ x, foldedSetIterable iter X.env x = pure x := by intro _; rfl) :
    SSt X W (.Assign [.Name y py] (.ListComp elt [⟨tg, iter, ifs, 0⟩] scope pos) spos) (sSet i (rCell (rCompC it gs cond fe (own.map (·.2))))) (tAsg (tLc wi g tt te (own.map (·.2))) (gName i)) := by
  refine ⟨ps_setLc hc hN hy hyl hsw hi.pi ok (fun s H C cl fp => (hg s H C cl fp).pg) (fun s H C cl fp => (ht s H C cl fp).pt) (fun s H C cl fp => (he s H C cl fp).pe) hs, fun w0 H0 w σ H env m D E Wm S q => ?_⟩
  exact set_rd i (cell_rd fun w H0 σ H env m Q Wm S q => compC_rd (X := X) (Y := X.blk X.s_0 (fun _ => none) scope (compEnvC scope [] 0 X.env) []) rfl hi hvs (hg _ _ _ _ _) (ht _ _ _ _ _) (he _ _ _ _ _) w H0 σ H env m Q Wm S q) w0 H0 w σ H env m D E Wm S q
theorem se_lcC' {elt tg iter : Expr} {ifs : List Expr} {scope : Scope} {own : List (Str × Nat)} {pos : Pos} {is : List Nat} {wi : TI} {g : TG} {tt : TT} {te : TE} {it : SemGs} {gs : SemG} {cond : SemB} {fe : SemR} (hc : X.calm = true) (hN : X.N.Nodup) (hi : SItG X W tg iter it wi) (ok : BlkOk X.N X.env.scope scope own)
    (hg : ∀ (s : Shared) (H : Hp) (C : Addr) (cl : List (Str × Addr)) (fp : List Addr), SGt (X.blk s H scope (compEnvC scope cl C X.env) fp) tg gs is g) (ht0 : SPt (X.blk X.s_0 (fun _ => none) scope (compEnvC scope [] 0 X.env) []) W0 ifs cond tt) (ht : ∀ (s : Shared) (H : Hp) (C : Addr) (cl : List (Str × Addr)) (fp : List Addr), SPt (X.blk s H scope (compEnvC scope cl C X.env) fp) W0 ifs cond tt)
    (he0 : SE (X.blk X.s_0 (fun _ => none) scope (compEnvC scope [] 0 X.env) []) W0 elt fe te) (he : ∀ (s : Shared) (H : Hp) (C : Addr) (cl : List (Str × Addr)) (fp : List Addr), SE (X.blk s H scope (compEnvC scope cl C X.env) fp) W0 elt fe te) (hvs : ∀ i ∈ is, i ∈ own.map (·.2) := by decide) (hs : ∀ x, foldedSetIterable iter X.env x = pure x := by intro _; rfl) :
    SE X W (.ListComp elt [⟨tg, iter, ifs, 0⟩] scope pos) (rCompC it gs cond fe (own.map (·.2))) (tLc wi g tt te (own.map (·.2))) := se_lcC hc hN hi ok hg ht he hvs hs
theorem ss_setCC' (i : Nat) {y : Str} {py : Pos} {elt tg iter : Expr} {ifs : List Expr} {scope : Scope} {own : List (Str × Nat)} {pos spos : Pos} {is : List Nat} {wi : TI} {g : TG} {tt : TT} {te : TE} {it : SemGs} {gs : SemG} {cond : SemB} {fe : SemR} (hc : X.calm = true) (hN : X.N.Nodup)
    (hi : SItG X W tg iter it wi) (ok : BlkOk X.N X.env.scope scope own)
    (hg : ∀ (s : Shared) (H : Hp) (C : Addr) (cl : List (Str × Addr)) (fp : List Addr), SGt (X.blk s H scope (compEnvC scope cl C X.env) fp) tg gs is g) (ht0 : SPt (X.blk X.s_0 (fun _ => none) scope (compEnvC scope [] 0 X.env) []) W0 ifs cond tt) (ht : ∀ (s : Shared) (H : Hp) (C : Addr) (cl : List (Str × Addr)) (fp : List Addr), SPt (X.blk s H scope (compEnvC scope cl C X.env) fp) W0 ifs cond tt)
    (he0 : SE (X.blk X.s_0 (fun _ => none) scope (compEnvC scope [] 0 X.env) []) W0 elt fe te) (he : ∀ (s : Shared) (H : Hp) (C : Addr) (cl : List (Str × Addr)) (fp : List Addr), SE (X.blk s H scope (compEnvC scope cl C X.env) fp) W0 elt fe te) (hy : X.N[i]? = some y := by rfl) (hyl : X.env.scope.names.lookup y = some .local := by rfl)
    (hsw : swapsWith (.ListComp elt [⟨tg, iter, ifs, 0⟩] scope pos) (some (.Name y py)) spos.line X.env = pure true := by exact sw_true rfl rfl rfl (by decide +kernel)) (hvs : ∀ i ∈ is, i ∈ own.map (·.2) := by decide) (hs : ∀ x, foldedSetIterable iter X.env x = pure x := by intro _; rfl) :
    SSt X W (.Assign [.Name y py] (.ListComp elt [⟨tg, iter, ifs, 0⟩] scope pos) spos) (sSet i (rCompC it gs cond fe (own.map (·.2)))) (tAsg (tLc wi g tt te (own.map (·.2))) (gName i)) := ss_setCC i hc hN hi ok hg ht he hy hyl hsw hvs hs
theorem ss_setCellC' (i : Nat) {y : Str} {py : Pos} {elt tg iter : Expr} {ifs : List Expr} {scope : Scope} {own : List (Str × Nat)} {pos spos : Pos} {is : List Nat} {wi : TI} {g : TG} {tt : TT} {te : TE} {it : SemGs} {gs : SemG} {cond : SemB} {fe : SemR} (hc : X.calm = true) (hN : X.N.Nodup)
    (hi : SItG X W tg iter it wi) (ok : BlkOk X.N X.env.scope scope own)
    (hg : ∀ (s : Shared) (H : Hp) (C : Addr) (cl : List (Str × Addr)) (fp : List Addr), SGt (X.blk s H scope (compEnvC scope cl C X.env) fp) tg gs is g) (ht0 : SPt (X.blk X.s_0 (fun _ => none) scope (compEnvC scope [] 0 X.env) []) W0 ifs cond tt) (ht : ∀ (s : Shared) (H : Hp) (C : Addr) (cl : List (Str × Addr)) (fp : List Addr), SPt (X.blk s H scope (compEnvC scope cl C X.env) fp) W0 ifs cond tt)
    (he0 : SE (X.blk X.s_0 (fun _ => none) scope (compEnvC scope [] 0 X.env) []) W0 elt fe te) (he : ∀ (s : Shared) (H : Hp) (C : Addr) (cl : List (Str × Addr)) (fp : List Addr), SE (X.blk s H scope (compEnvC scope cl C X.env) fp) W0 elt fe te) (hy : X.N[i]? = some y := by rfl) (hyl : X.env.scope.names.lookup y = some .local := by rfl)
    (hsw : swapsWith (.ListComp elt [⟨tg, iter, ifs, 0⟩] scope pos) (some (.Name y py)) spos.line X.env = pure true := by exact sw_true rfl rfl rfl (by decide +kernel)) (hvs : ∀ i ∈ is, i ∈ own.map (·.2) := by decide) (hs : ∀ x, foldedSetIterable iter X.env x = pure x := by intro _; rfl) :
    SSt X W (.Assign [.Name y py] (.ListComp elt [⟨tg, iter, ifs, 0⟩] scope pos) spos) (sSet i (rCell (rCompC it gs cond fe (own.map (·.2))))) (tAsg (tLc wi g tt te (own.map (·.2))) (gName i)) := ss_setCellC i hc hN hi ok hg ht he hy hyl hsw hvs hs
end
end Ev
/-! Ev: simp for new cells and walks over cells. -/
namespace Ev
open PySem PySem.Spec L2
section
variable {env : Env} {m : Cells}
def kMk (r : Res RV) : Res RV := r.bind mkCell
@[simp] theorem kMk1 (xs : List D) : kMk (.ok (.fl xs) m) = .ok (.d (.ref m.length)) (m ++ [.lst xs]) := nr rfl
@[simp] theorem ev_rCell (f : SemR) : rCell f env m = kMk (f env m) := nr rfl
def kGc (n : Nat) (m : Cells) (c : Option Cell) : Res (Gd × List D) := match c with
  | some (.lst xs) => .ok (some (n, xs), xs) m
  | none => .bot
@[simp] theorem kGc1 (n : Nat) (xs : List D) : kGc n m (some (.lst xs)) = .ok (some (n, xs), xs) m := nr rfl
def kGe (n : Nat) (m : Cells) (c : Option Cell) : Res (Gd × List D) := match c with
  | some (.lst xs) => .ok (some (n, xs), enumD xs) m
  | none => .bot
@[simp] theorem kGe1 (n : Nat) (xs : List D) : kGe n m (some (.lst xs)) = .ok (some (n, xs), enumD xs) m := nr rfl
def kSG (r : Res RV) : Res (Gd × List D) := r.bind fun x m1 => match x with
  | .d (.lst xs) | .d (.tup xs) | .d (.scr xs) => .ok (none, xs) m1
  | .fl xs => .ok (none, xs) m1
  | .d (.ref n) => (match m1[n]? with
    | some (.lst xs) => .ok (some (n, xs), xs) m1
    | none => .bot)
  | _ => .bot
@[simp] theorem kSG1 (n : Nat) : kSG (.ok (.d (.ref n)) m) = kGc n m m[n]? := nr rfl
@[simp] theorem kSG2 (xs : List D) : kSG (.ok (.d (.lst xs)) m) = .ok (none, xs) m := nr rfl
@[simp] theorem kSG3 (xs : List D) : kSG (.ok (.d (.tup xs)) m) = .ok (none, xs) m := nr rfl
@[simp] theorem kSG4 (xs : List D) : kSG (.ok (.fl xs) m) = .ok (none, xs) m := nr rfl
@[simp] theorem ev_eSeqG (f : SemR) : eSeqG f env m = kSG (f env m) := nr rfl
def kEG (r : Res RV) : Res (Gd × List D) := r.bind fun x m1 => match x with
  | .d (.ref n) => (match m1[n]? with
    | some (.lst xs) => .ok (some (n, xs), enumD xs) m1
    | none => .bot)
  | _ => .bot
@[simp] theorem kEG1 (n : Nat) : kEG (.ok (.d (.ref n)) m) = kGe n m m[n]? := nr rfl
@[simp] theorem ev_eEnumG (f : SemR) : eEnumG f env m = kEG (f env m) := nr rfl
noncomputable def kForC (g : SemG) (b : SemS) (env : Env) (r : Res (Gd × List D)) : Res Out := r.bind fun ds m1 => forLC ds.1 g b ds.2 env m1
@[simp] theorem kForC1 (g : SemG) (b : SemS) (gd : Gd) (ds : List D) : kForC g b env (.ok (gd, ds) m) = forLC gd g b ds env m := nr rfl
@[simp] theorem ev_sForC (it : SemGs) (g : SemG) (b : SemS) : sForC it g b env m = kForC g b env (it env m) := nr rfl
noncomputable def kCompC (tg : SemG) (cond : SemB) (elt : SemR) (env : Env) (r : Res (Gd × List D)) : Res RV := r.bind fun ds m1 => if ds.2.length ≤ LN then (compLC ds.1 tg cond elt env ds.2 m1).bind fun ys m2 => .ok (.fl ys) m2 else .bot
@[simp] theorem kCompC1 (tg : SemG) (cond : SemB) (elt : SemR) (gd : Gd) (ds : List D) : kCompC tg cond elt env (.ok (gd, ds) m) = if ds.length ≤ 1000000 then kFl (compLC gd tg cond elt env ds m) else .bot := nr rfl
@[simp] theorem ev_rCompC (it : SemGs) (tg : SemG) (cond : SemB) (elt : SemR) (vs : List Nat) : rCompC it tg cond elt vs env m = kCompC tg cond elt (wipeE env vs) (it env m) := nr rfl
def kLC (c : Option (Nat × List D)) (m : Cells) : Res RV := match c with
  | some (_, xs) => .ok (.d (.int xs.length)) m
  | none => .bot
theorem ev_lenC {i n : Nat} {xs : List D} (h : env[i]? = some (.d (.ref n))) (h2 : m[n]? = some (.lst xs)) : rLenC i env m = .ok (.d (.int xs.length)) m := by
  unfold rLenC cellOf
  rw [h]
  dsimp only
  rw [h2]
def kFnC (lo : Nat) (r : Res Out) : Res RV := r.bind fun o m1 => match o with
  | .rt rv => (match rv.frz with
    | some x => (match thaw 6 m1 lo x with
      | some y => if (m1.take lo).all cellPlain = true then .ok (.d y) (m1.take lo) else .bot
      | none => .bot)
    | none => .bot)
  | _ => .bot
theorem kFnC1 {lo : Nat} {x y : D} (h : thaw 6 m lo x = some y) (hp : (m.take lo).all cellPlain = true) : kFnC lo (.ok (.rt (.d x)) m) = .ok (.d y) (m.take lo) := by
  show (match thaw 6 m lo x with
      | some y => if (m.take lo).all cellPlain = true then Res.ok (RV.d y) (m.take lo) else .bot
      | none => .bot) = _
  rw [h]
  dsimp only
  rw [if_pos hp]
@[simp] theorem ev_fnRunC (n N : Nat) (b : SemS) (ds : List D) : fnRunC n N b ds m = if ds.length = n then kFnC m.length (b (ds.map Slot.d ++ List.replicate (N - n) .un) m) else .bot := nr rfl
end
theorem forC_inv {gd : Gd} {g : SemG} {b : SemS} (I : Nat → Env → Cells → Prop) (hgd : ∀ j env m, I j env m → gdOk gd m) : ∀ {ds : List D} {k : Nat} {env : Env} {m : Cells}, (∀ (j : Nat) (x : D) (env : Env) (m : Cells), ds[j]? = some x → I (k + j) env m → ∃ e1 e2 m2, g x env = some e1 ∧ b e1 m = .ok (.nx e2) m2 ∧ I (k + j + 1) e2 m2) → I k env m →
    ∃ e m', forLC gd g b ds env m = .ok (.nx e) m' ∧ I (k + ds.length) e m'
  | [], k, env, m, _, h0 => ⟨env, m, gdS_ok (hgd _ _ _ h0), h0⟩
  | x :: xs, k, env, m, h, h0 => by
    obtain ⟨e1, e2, m2, h1, h2, h3⟩ := h 0 x env m rfl h0
    obtain ⟨e, m', h4, h5⟩ := forC_inv (g := g) (b := b) I hgd (ds := xs) (k := k + 1) (env := e2) (m := m2) (fun j y env m hj hi => by
      have e : k + 1 + j = k + (j + 1) := by omega
      rw [e] at hi ⊢
      exact h (j + 1) y env m hj hi) h3
    refine ⟨e, m', ?_, by rw [List.length_cons, show k + (xs.length + 1) = k + 1 + xs.length by omega]; exact h5⟩
    unfold forLC
    rw [gdS_ok (hgd _ _ _ h0), h1]
    show (b e1 m).bind _ = _
    rw [h2]
    exact h4
theorem compC_if {α : Type} {gd : Gd} {tg : SemG} {c : SemB} {elt : SemR} {env : Env} {m : Cells} (emb : α → D) (e : α → Env) {P : α → Bool} {F : α → D} (hg : gdOk gd m) : ∀ (xs : List α), (∀ x ∈ xs, tg (emb x) env = some (e x)) → (∀ x ∈ xs, c (e x) m = .ok (P x) m) → (∀ x ∈ xs, P x = true → fz elt (e x) m = .ok (F x) m) → compLC gd tg c elt env (xs.map emb) m = .ok ((xs.filter P).map F) m
  | [], _, _, _ => gdS_ok hg
  | x :: xs, h, h', h'' => by
    have t := compC_if (env := env) emb e hg xs (fun y hy => h y (List.mem_cons_of_mem _ hy)) (fun y hy => h' y (List.mem_cons_of_mem _ hy)) fun y hy => h'' y (List.mem_cons_of_mem _ hy)
    rw [List.map_cons]
    unfold compLC
    rw [gdS_ok hg, h x (List.mem_cons_self ..)]
    show (noX (c (e x) m)).bind _ = _
    rw [h' x (List.mem_cons_self ..)]
    show (if P x = true then _ else _) = _
    by_cases hp : P x = true
    · rw [if_pos hp, h'' x (List.mem_cons_self ..) hp]
      show (compLC gd tg c elt env _ m).bind _ = _
      rw [t, List.filter_cons_of_pos hp]
      rfl
    · rw [if_neg hp, t, List.filter_cons_of_neg hp]
/-- elements that become cells -/
theorem comp_cells {α : Type} {tg : SemG} {elt : SemR} {env : Env} (emb : α → D) (e : α → Env) (F : α → List D) : ∀ (xs : List α) (m : Cells), (∀ x ∈ xs, tg (emb x) env = some (e x)) → (∀ x ∈ xs, ∀ m, fz elt (e x) m = .ok (.ref m.length) (m ++ [.lst (F x)])) →
    compL tg bYes elt env (xs.map emb) m = .ok ((List.range xs.length).map fun i => .ref (m.length + i)) (m ++ xs.map fun x => .lst (F x))
  | [], m, _, _ => by rw [List.map_nil, List.map_nil, List.append_nil]; rfl
  | x :: xs, m, h, h' => by
    have t := comp_cells (env := env) emb e F xs (m ++ [.lst (F x)]) (fun y hy => h y (List.mem_cons_of_mem _ hy)) fun y hy => h' y (List.mem_cons_of_mem _ hy)
    rw [List.map_cons]
    unfold compL
    rw [h x (List.mem_cons_self ..)]
    show (noX (fz elt (e x) m)).bind _ = _
    rw [h' x (List.mem_cons_self ..)]
    show (compL tg bYes elt env _ _).bind _ = _
    rw [t]
    show Res.ok _ _ = _
    rw [List.length_cons, List.range_succ_eq_map, List.map_cons, List.map_map, List.append_assoc, List.map_cons]
    congr 2
    refine List.map_congr_left fun i _ => ?_
    show D.ref ((m ++ [_]).length + i) = D.ref (m.length + (i + 1))
    rw [List.length_append]
    congr 1
    simp
    omega
end Ev
/-! Ev: max of a tuple of ints. -/
namespace EvMt
open PySem PySem.Spec PyProof.Rows L2
section
variable {prog : Program} {w : World} {A : Around} {E : Value → Shared → Prop} {s : Shared} {l : Addr} {its : List Value} {ns : List Int} {Q : Value → Shared → Prop}
theorem maxT_raw (hh : A.handled = none) (hl : s.heap.IsTuple l its.toArray) (hi : IntsAre its ns) (hne : 0 < ns.length)
    (h : ∀ h' tk M t', (∀ b o, s.heap.get? b = some o → h'.get? b = some o) → M ∈ ns → (∀ a, a ∈ ns → a ≤ M) → Q (.int M t') { s with heap := h', toks := tk }) : wpAny (model prog w) A (call (.builtin "max") [.ref l]) Q E s := by
  obtain ⟨xs, e⟩ := hi.allInts.items
  have hn : numsOf (intItems xs).toList = ns := by rw [← e]; exact hi.numsOf
  rw [nums_intItems] at hn
  subst hn
  rw [e] at hl
  have hsz : 0 < xs.size := by simpa using hne
  have hlt : l < s.heap.objs.size := by obtain ⟨_, e, _⟩ := hl; exact Heap.lt_size e
  refine call_max_walk (wpAny_pyIter_tuple hl ?_)
  refine ⟨_, _, _, _, _, _, _, rfl, Walks.tuple (A := A.in1) hh _ l (Nat.ne_of_lt hlt) (intItems xs), ⟨⟨_, Heap.get?_push_size _ rfl, rfl, rfl⟩, hl.push _⟩, (fun b hb => ?_), by simpa [intItems] using hsz, CmpOf.ints_gt (numAt xs) (fun _ _ => intItems_at), fun v h' tk hv hk => ?_⟩
  · show b < (s.heap.push _).objs.size
    rw [Heap.size_push]
    rcases List.mem_cons.mp hb with rfl | hb
    · exact Nat.lt_succ_self _
    · rcases List.mem_cons.mp hb with rfl | hb
      · exact Nat.lt_succ_of_lt hlt
      · cases hb
  · have hv : (intItems xs)[argBest (fun i j => decide (numAt xs i > numAt xs j)) (xs.size - 1)]? = some v := by simpa [intItems] using hv
    obtain ⟨t, rfl⟩ := intItems_at hv
    obtain ⟨h1, h2⟩ := argBest_gt (numAt xs) (xs.size - 1)
    refine h h' tk _ t (fun b o e => ?_) ?_ fun a ha => ?_
    · refine hk b o (fun hm => ?_) (Heap.get?_push_of_some _ e)
      rcases List.mem_cons.mp hm with e1 | hm
      · exact absurd (e1 ▸ Heap.lt_size e) (Nat.lt_irrefl _)
      · cases hm
    · rw [numAt_eq]; exact PySem.getD_mem (by rw [List.length_map, Array.length_toList]; omega)
    · obtain ⟨j, hj, rfl⟩ := mem_getD ha
      rw [List.length_map, Array.length_toList] at hj
      rw [← numAt_eq]; exact h2 j (by omega)
end
section
variable {X : Cx}
def rMaxT (K : PySem.W.Frag) : List V → Hp → VK → Prop := fun vs H Q => ∃ (a : Addr) (ns : List Int), vs = [V.ref a] ∧ SqT K H a (ns.map V.int) ∧ 0 < ns.length ∧ ∀ m, m ∈ ns → (∀ y, y ∈ ns → y ≤ m) → Q (.int m) H
theorem cr_maxT (hc : X.calm = true) : CallR X (.builtin "max") (rMaxT X.K) := by
  intro pins s σ H vs us Q I r h
  obtain ⟨a, ns, rfl, hs, hne, q⟩ := h
  obtain ⟨its, rv, hl, _⟩ := I.tuple hs
  rw [Vals.ref1 r]
  exact maxT_raw (I.ok.hd hc) hl rv.ints hne fun h' tk m t' hk h1 h2 => ⟨.int _, H, I.kept hk, ⟨_, rfl⟩, q m h1 h2⟩
end
end EvMt
namespace Ev
open PySem PySem.Spec L2
def gMaxT : List D → Option RV
  | [.tup xs] => match intsOf xs with
    | some (n :: ns) => some (.d (.int (maxI (n :: ns))))
    | _ => none
  | _ => none
theorem calls_maxT {X : Cx} (hc : X.calm = true) : CallS X (.builtin "max") gMaxT (EvMt.rMaxT X.K) := by
  refine ⟨EvMt.cr_maxT hc, fun w H0 H m xs vs rv Q Wm r e q => ?_⟩
  unfold gMaxT at e
  split at e
  · split at e
    · rename_i n ns h
      cases e
      obtain ⟨v, rfl, r9⟩ := r.one
      obtain ⟨a, us, rfl, h1, h2⟩ := r9.tup Wm
      have e := intsOf_eq h
      subst e
      have e2 := h2.ints
      subst e2
      refine ⟨a, _, rfl, h1, by simp, fun k hk hm => ?_⟩
      obtain ⟨g1, g2⟩ := maxI_spec (ns := n :: ns) (by simp)
      have : k = maxI (n :: ns) := Int.le_antisymm (g2 k hk) (hm _ g1)
      rw [this]
      exact q w H _ (.refl _ _) Wm (.int _)
    · cases e
  · cases e
theorem ev_maxT (n : Int) (ns : List Int) : gMaxT [.tup (.int n :: ns.map D.int)] = some (.d (.int (maxI (n :: ns)))) := by
  show (match intsOf ((n :: ns).map D.int) with | some (n :: ns) => _ | _ => none) = _
  rw [ints_map]
end Ev
namespace Ev
open PySem PySem.Spec L2
/-- a, b = a list of that length -/
def gLstS (is : List Nat) : SemG := fun x env => match x with
  | .lst xs => gsSet is xs env
  | _ => none
@[simp] theorem ev_gLstS (is : List Nat) (xs : List D) {env : Env} : gLstS is (.lst xs) env = gsSet is xs env := nr rfl
theorem sg_lst {X : Cx} {es : List Expr} {k : Nat} {is : List Nat} {t : TGs} {pos : Pos} (hc : X.calm = true) (h : SGs X es is t) (hn : (assignEach es X.env).length = is.length := by rfl) (hst : (assignEach es X.env).findIdx? (·.1) = none := by rfl) :
    SGt X (.Tuple es k pos) (gLstS is) is (gLst X.K is.length t) := by
  refine ⟨pg_lst hc h.pg hn hst, fun w H0 σ H env m x v env' Q Wm S r e q => ?_⟩
  cases x with
  | lst xs =>
    cases r with
    | lst s rs =>
      have e : gsSet is xs env = some env' := e
      exact ⟨_, _, rfl, .inl (.inl (Wm.sub _ _ s)), by rw [← rs.length, gsSet_len e], h.rd w H0 σ H env m xs _ env' Q Wm S rs e q⟩
  | _ => cases e
end Ev
namespace Ev
open PySem PySem.Spec L2
theorem flat_one (k : Nat) (x : D) : (List.replicate k [x]).flatten = List.replicate k x := by
  induction k with
  | zero => rfl
  | succ k ih => rw [List.replicate_succ, List.flatten_cons, ih]; rfl
theorem ev_mulT1 {k : Nat} (x : D) (h : k ≤ 1000) : gMul (.tup [x]) (.int k) = some (.d (.tup (List.replicate k x))) := by
  show (if _ then _ else _) = _
  rw [if_pos ⟨by omega, by omega, by simp⟩, Int.toNat_natCast, flat_one]
theorem ev_mulL1 {k : Nat} (x : D) (h : k ≤ 1000000) : gMul (.lst [x]) (.int k) = some (.fl (List.replicate k x)) := by
  show (if _ then _ else _) = _
  rw [if_pos ⟨by omega, by omega, by show 1 * _ ≤ LN; rw [Int.toNat_natCast, Nat.one_mul]; exact h⟩, Int.toNat_natCast, flat_one]
end Ev
namespace Ev
open PySem PySem.Spec L2
@[simp] theorem ev_addT (xs ys : List D) : gAdd (.tup xs) (.tup ys) = if xs.length + ys.length ≤ 1000000 then some (.d (.tup (xs ++ ys))) else none := nr rfl
@[simp] theorem ev_addL (xs ys : List D) : gAdd (.lst xs) (.lst ys) = if xs.length + ys.length ≤ 1000000 then some (.fl (xs ++ ys)) else none := nr rfl
end Ev
/-! Pg: what the program's and the laws' common defs compute, printed once. -/
namespace Pg
open PySem PySem.Spec L2 Ev

/-@ is_integer -/
def b_is_integer : SemS :=
    (sRet (rAnd (rIsa .int (rVar 0)) (rNot (rIsa .bool (rVar 0)))))
def f_is_integer : Fn := fnRun 1 1 b_is_integer
/-@ is_within -/
def b_is_within : SemS :=
    (sRet (rAnd (rCall 1 f_is_integer (aCons (rVar 0) aNil)) (rChain gLe gLe (rVar 1) (rVar 0) (rVar 2))))
def f_is_within : Fn := fnRun 3 3 b_is_within
/-@ are_numbers -/
def X_are_numbers_1 : SemR :=
    (rCall 3 f_is_within (aCons (rVar 2) (aCons (rC (.int 0)) (aCons (rBin gMinus (rVar 0) (rC (.int 1))) aNil))))
def b_are_numbers : SemS :=
    (sRet (rAnd (rIsa .tuple (rVar 1)) (rCB gAll (pCons (rComp (eSeq (rVar 1)) (gSet 2) bYes X_are_numbers_1 [2]) aNil))))
def f_are_numbers : Fn := fnRun 2 3 b_are_numbers
/-@ undone_in -/
def L_undone_in_1 : SemS :=
    (sSeq (sSet 6 (rBin gDiv (rVar 4) (rVar 5)))
    (sSeq (sPar2 4 5 (rVar 5) (rBin gMinus (rVar 4) (rBin gMul (rVar 6) (rVar 5))))
    (sPar2 2 3 (rVar 3) (rBin gMinus (rVar 2) (rBin gMul (rVar 6) (rVar 3))))))
def b_undone_in : SemS :=
    (sSeq (sAsg (gTupS [2, 3, 4, 5]) (rTup (aCons (rC (.int 0)) (aCons (rC (.int 1)) (aCons (rVar 0) (aCons (rVar 1) aNil))))))
    (sSeq (sWhile (bBool (rBin gNe (rVar 5) (rC (.int 0)))) L_undone_in_1)
    (sRet (rBin gMod (rVar 2) (rVar 0)))))
def f_undone_in : Fn := fnRun 2 7 b_undone_in
/-@ is_field -/
def X_is_field_1 : SemR :=
    (rBin gNe (rBin gMod (rVar 0) (rVar 1)) (rC (.int 0)))
def b_is_field : SemS :=
    (sSeq (sIf (bNot (bTruth (rCall 3 f_is_within (aCons (rVar 0) (aCons (rC (.int 5)) (aCons (rC (.int 997)) aNil)))))) (sRet (rC (.bl false))) sNop)
    (sRet (rCB gAll (pCons (rComp (eRange2 (pCons (rC (.int 2)) (pCons (rCB gMin (pCons (rVar 0) (pCons (rC (.int 32)) aNil))) aNil))) (gSet 1) bYes X_is_field_1 [1]) aNil))))
def f_is_field : Fn := fnRun 1 2 b_is_field
/-@ require_field -/
def b_require_field : SemS :=
    (sIf (bNot (bTruth (rCall 1 f_is_field (aCons (rVar 0) aNil)))) sBot sNop)
def f_require_field : Fn := fnRun 1 1 b_require_field
/-@ require_number -/
def b_require_number : SemS :=
    (sIf (bNot (bTruth (rCall 3 f_is_within (aCons (rVar 1) (aCons (rC (.int 0)) (aCons (rBin gMinus (rVar 0) (rC (.int 1))) aNil)))))) sBot sNop)
def f_require_number : Fn := fnRun 2 2 b_require_number
/-@ is_poly_in -/
def b_is_poly_in : SemS :=
    (sSeq (sIf (bOr (bNot (bTruth (rCall 2 f_are_numbers (aCons (rVar 0) (aCons (rVar 1) aNil))))) (bBool (rBin gGt (rCB gLen (pCons (rVar 1) aNil)) (rBin gAdd (rC (.int 60)) (rC (.int 1)))))) (sRet (rC (.bl false))) sNop)
    (sRet (rOr (rBin gEq (rVar 1) (rTup aNil)) (rBin gNe (rIx (rVar 1) (rNeg (rC (.int 1)))) (rC (.int 0))))))
def f_is_poly_in : Fn := fnRun 2 2 b_is_poly_in
/-@ are_places -/
def b_are_places : SemS :=
    (sRet (rAnd (rCall 2 f_are_numbers (aCons (rVar 0) (aCons (rVar 1) aNil))) (rAnd (rBin gLe (rCB gLen (pCons (rVar 1) aNil)) (rC (.int 60))) (rBin gEq (rLenSet (rVar 1)) (rCB gLen (pCons (rVar 1) aNil))))))
def f_are_places : Fn := fnRun 2 2 b_are_places
/-@ trimmed -/
def L_trimmed_1 : SemS :=
    (sAug gAugSub 1 (rC (.int 1)))
def b_trimmed : SemS :=
    (sSeq (sSet 1 (rCB gLen (pCons (rVar 0) aNil)))
    (sSeq (sWhile (bAnd (bBool (rBin gGt (rVar 1) (rC (.int 0)))) (bBool (rBin gEq (rIx (rVar 0) (rBin gMinus (rVar 1) (rC (.int 1)))) (rC (.int 0))))) L_trimmed_1)
    (sRet (rCB gTuple (pCons (rSlice (rVar 0) oNo (oSome (rVar 1))) aNil)))))
def f_trimmed : Fn := fnRun 1 2 b_trimmed
/-@ number_at -/
def b_number_at : SemS :=
    (sRet (rIf (bBool (rBin gLt (rVar 1) (rCB gLen (pCons (rVar 0) aNil)))) (rIx (rVar 0) (rVar 1)) (rC (.int 0))))
def f_number_at : Fn := fnRun 2 2 b_number_at
/-@ sum_in -/
def X_sum_in_1 : SemR :=
    (rBin gMod (rBin gAdd (rCall 2 f_number_at (aCons (rVar 1) (aCons (rVar 4) aNil))) (rCall 2 f_number_at (aCons (rVar 2) (aCons (rVar 4) aNil)))) (rVar 0))
def b_sum_in : SemS :=
    (sSeq (sSet 3 (rCB gMax (pCons (rCB gLen (pCons (rVar 1) aNil)) (pCons (rCB gLen (pCons (rVar 2) aNil)) aNil))))
    (sRet (rCall 1 f_trimmed (aCons (rComp (eRange1 (pCons (rVar 3) aNil)) (gSet 4) bYes X_sum_in_1 [4]) aNil))))
def f_sum_in : Fn := fnRun 3 5 b_sum_in
/-@ scaled_in -/
def X_scaled_in_1 : SemR :=
    (rBin gMod (rBin gMul (rVar 2) (rVar 3)) (rVar 0))
def b_scaled_in : SemS :=
    (sRet (rCall 1 f_trimmed (aCons (rComp (eSeq (rVar 1)) (gSet 3) bYes X_scaled_in_1 [3]) aNil)))
def f_scaled_in : Fn := fnRun 3 4 b_scaled_in
/-@ product_in -/
def L_product_in_1 : SemS :=
    (sSetItem 3 (rBin gAdd (rVar 4) (rVar 6)) (rBin gMod (rBin gAdd (rIx (rVar 3) (rBin gAdd (rVar 4) (rVar 6))) (rBin gMul (rVar 5) (rVar 7))) (rVar 0)))
def L_product_in_2 : SemS :=
    (sFor (eEnum (rVar 2)) (gTupS [6, 7]) L_product_in_1)
def b_product_in : SemS :=
    (sSeq (sSet 3 (rBin gMul (rLst (aCons (rC (.int 0)) aNil)) (rCB gMax (pCons (rC (.int 0)) (pCons (rBin gMinus (rBin gAdd (rCB gLen (pCons (rVar 1) aNil)) (rCB gLen (pCons (rVar 2) aNil))) (rC (.int 1))) aNil)))))
    (sSeq (sFor (eEnum (rVar 1)) (gTupS [4, 5]) L_product_in_2)
    (sFrz 3 (sRet (rCall 1 f_trimmed (aCons (rVar 3) aNil))))))
def f_product_in : Fn := fnRun 3 8 b_product_in
/-@ divided_in -/
def L_divided_in_1 : SemS :=
    (sSetItem 4 (rBin gAdd (rVar 6) (rVar 7)) (rBin gMod (rBin gMinus (rIx (rVar 4) (rBin gAdd (rVar 6) (rVar 7))) (rBin gMul (rIx (rVar 5) (rVar 6)) (rVar 8))) (rVar 0)))
def L_divided_in_2 : SemS :=
    (sSeq (sSetItem 5 (rVar 6) (rBin gMod (rBin gMul (rIx (rVar 4) (rBin gMinus (rBin gAdd (rVar 6) (rCB gLen (pCons (rVar 2) aNil))) (rC (.int 1)))) (rVar 3)) (rVar 0)))
    (sFor (eEnum (rVar 2)) (gTupS [7, 8]) L_divided_in_1))
def b_divided_in : SemS :=
    (sSeq (sPar3 3 4 5 (rCall 2 f_undone_in (aCons (rVar 0) (aCons (rIx (rVar 2) (rNeg (rC (.int 1)))) aNil))) (rCB gList (pCons (rVar 1) aNil)) (rBin gMul (rLst (aCons (rC (.int 0)) aNil)) (rCB gMax (pCons (rC (.int 0)) (pCons (rBin gAdd (rBin gMinus (rCB gLen (pCons (rVar 1) aNil)) (rCB gLen (pCons (rVar 2) aNil))) (rC (.int 1))) aNil)))))
    (sSeq (sFor (eRv1 (rCB gLen (pCons (rVar 5) aNil))) (gSet 6) L_divided_in_2)
    (sFrz 4 (sFrz 5 (sRet (rTup (aCons (rCall 1 f_trimmed (aCons (rVar 5) aNil)) (aCons (rCall 1 f_trimmed (aCons (rVar 4) aNil)) aNil))))))))
def f_divided_in : Fn := fnRun 3 9 b_divided_in
/-@ value_in -/
def L_value_in_1 : SemS :=
    (sSet 3 (rBin gMod (rBin gAdd (rBin gMul (rVar 3) (rVar 2)) (rVar 4)) (rVar 0)))
def b_value_in : SemS :=
    (sSeq (sSet 3 (rC (.int 0)))
    (sSeq (sFor (eRev (rVar 1)) (gSet 4) L_value_in_1)
    (sRet (rVar 3))))
def f_value_in : Fn := fnRun 3 5 b_value_in
/-@ require_poly -/
def b_require_poly : SemS :=
    (sIf (bNot (bTruth (rCall 2 f_is_poly_in (aCons (rVar 0) (aCons (rVar 1) aNil))))) sBot sNop)
def f_require_poly : Fn := fnRun 2 2 b_require_poly
/-@ require_field_poly -/
def b_require_field_poly : SemS :=
    (sSeq (sExpr (rCall 1 f_require_field (aCons (rVar 0) aNil)))
    (sExpr (rCall 2 f_require_poly (aCons (rVar 0) (aCons (rVar 1) aNil)))))
def f_require_field_poly : Fn := fnRun 2 2 b_require_field_poly
/-@ require_polys -/
def b_require_polys : SemS :=
    (sSeq (sExpr (rCall 2 f_require_field_poly (aCons (rVar 0) (aCons (rVar 1) aNil))))
    (sExpr (rCall 2 f_require_poly (aCons (rVar 0) (aCons (rVar 2) aNil)))))
def f_require_polys : Fn := fnRun 3 3 b_require_polys
/-@ require_places -/
def b_require_places : SemS :=
    (sIf (bOr (bNot (bTruth (rCall 2 f_are_places (aCons (rVar 0) (aCons (rVar 1) aNil))))) (bBool (rBin gEq (rVar 1) (rTup aNil)))) sBot sNop)
def f_require_places : Fn := fnRun 2 2 b_require_places
/-@ is_poly -/
def b_is_poly : SemS :=
    (sSeq (sExpr (rCall 1 f_require_field (aCons (rVar 0) aNil)))
    (sRet (rCall 2 f_is_poly_in (aCons (rVar 0) (aCons (rVar 1) aNil)))))
def f_is_poly : Fn := fnRun 2 2 b_is_poly
/-@ poly_sum -/
def b_poly_sum : SemS :=
    (sSeq (sExpr (rCall 3 f_require_polys (aCons (rVar 0) (aCons (rVar 1) (aCons (rVar 2) aNil)))))
    (sRet (rCall 3 f_sum_in (aCons (rVar 0) (aCons (rVar 1) (aCons (rVar 2) aNil))))))
def f_poly_sum : Fn := fnRun 3 3 b_poly_sum
/-@ poly_scaled -/
def b_poly_scaled : SemS :=
    (sSeq (sExpr (rCall 2 f_require_field_poly (aCons (rVar 0) (aCons (rVar 1) aNil))))
    (sSeq (sExpr (rCall 2 f_require_number (aCons (rVar 0) (aCons (rVar 2) aNil))))
    (sRet (rCall 3 f_scaled_in (aCons (rVar 0) (aCons (rVar 1) (aCons (rVar 2) aNil)))))))
def f_poly_scaled : Fn := fnRun 3 3 b_poly_scaled
/-@ poly_product -/
def b_poly_product : SemS :=
    (sSeq (sExpr (rCall 3 f_require_polys (aCons (rVar 0) (aCons (rVar 1) (aCons (rVar 2) aNil)))))
    (sSeq (sIf (bAnd (bBool (rBin gNe (rVar 1) (rTup aNil))) (bAnd (bBool (rBin gNe (rVar 2) (rTup aNil))) (bBool (rBin gGt (rBin gMinus (rBin gAdd (rCB gLen (pCons (rVar 1) aNil)) (rCB gLen (pCons (rVar 2) aNil))) (rC (.int 2))) (rC (.int 60)))))) sBot sNop)
    (sRet (rCall 3 f_product_in (aCons (rVar 0) (aCons (rVar 1) (aCons (rVar 2) aNil)))))))
def f_poly_product : Fn := fnRun 3 3 b_poly_product
/-@ poly_divided -/
def b_poly_divided : SemS :=
    (sSeq (sExpr (rCall 3 f_require_polys (aCons (rVar 0) (aCons (rVar 1) (aCons (rVar 2) aNil)))))
    (sSeq (sIf (bBool (rBin gEq (rVar 2) (rTup aNil))) sBot sNop)
    (sRet (rCall 3 f_divided_in (aCons (rVar 0) (aCons (rVar 1) (aCons (rVar 2) aNil)))))))
def f_poly_divided : Fn := fnRun 3 3 b_poly_divided
/-@ value_at -/
def b_value_at : SemS :=
    (sSeq (sExpr (rCall 2 f_require_field_poly (aCons (rVar 0) (aCons (rVar 1) aNil))))
    (sSeq (sExpr (rCall 2 f_require_number (aCons (rVar 0) (aCons (rVar 2) aNil))))
    (sRet (rCall 3 f_value_in (aCons (rVar 0) (aCons (rVar 1) (aCons (rVar 2) aNil)))))))
def f_value_at : Fn := fnRun 3 3 b_value_at
/-@ values_at -/
def X_values_at_1 : SemR :=
    (rCall 3 f_value_in (aCons (rVar 0) (aCons (rVar 1) (aCons (rVar 3) aNil))))
def b_values_at : SemS :=
    (sSeq (sExpr (rCall 2 f_require_field_poly (aCons (rVar 0) (aCons (rVar 1) aNil))))
    (sSeq (sExpr (rCall 2 f_require_places (aCons (rVar 0) (aCons (rVar 2) aNil))))
    (sRet (rCB gTuple (pCons (rComp (eSeq (rVar 2)) (gSet 3) bYes X_values_at_1 [3]) aNil)))))
def f_values_at : Fn := fnRun 3 4 b_values_at
/-@ _law_dice -/
def b__law_dice : SemS :=
    (sSeq (sSet 2 (rIf (bBool (rBin gLt (rVar 1) (rCB gLen (pCons (rVar 0) aNil)))) (rCB gInt (pCons (rIx (rVar 0) (rVar 1)) aNil)) (rBin gAdd (rBin gMul (rC (.int 103)) (rVar 1)) (rC (.int 67)))))
    (sSeq (sSet 3 (rBin gMod (rCB gMax (pCons (rC (.int 0)) (pCons (rBin gMinus (rCB gAbs (pCons (rVar 2) aNil)) (rBin gPow (rC (.int 10)) (rC (.int 16)))) aNil))) (rBin gMul (rBin gPow (rC (.int 10)) (rC (.int 57))) (rBin gPow (rC (.int 10)) (rC (.int 60))))))
    (sRet (rLst (aCons (rVar 3) (aCons (rBin gAdd (rBin gAdd (rBin gAdd (rBin gMul (rBin gMod (rCB gAbs (pCons (rVar 2) aNil)) (rC (.int 1152921504606846733))) (rC (.int 97))) (rBin gMul (rC (.int 1013)) (rVar 1))) (rBin gMul (rC (.int 53)) (rCB gInt (pCons (rBin gLt (rVar 2) (rC (.int 0))) aNil)))) (rC (.int 41))) (aCons (rC (.int 0)) aNil)))))))
def f__law_dice : Fn := fnRun 2 4 b__law_dice
/-@ _law_roll -/
def b__law_roll : SemS :=
    (sSeq (sIf (bBool (rBin gGt (rIx (rVar 0) (rC (.int 0))) (rC (.int 0)))) (sSeq (sSet 2 (rBin gMod (rCB gInt (pCons (rIx (rVar 0) (rC (.int 0))) aNil)) (rVar 1)))
    (sSeq (sSetItem 0 (rC (.int 0)) (rBin gDiv (rIx (rVar 0) (rC (.int 0))) (rVar 1)))
    (sRet (rVar 2)))) sNop)
    (sSeq (sSetItem 0 (rC (.int 2)) (rBin gAdd (rIx (rVar 0) (rC (.int 2))) (rC (.int 1))))
    (sSeq (sSet 3 (rBin gMod (rCB gInt (pCons (rBin gAdd (rIx (rVar 0) (rC (.int 1))) (rBin gMul (rC (.int 86028157)) (rIx (rVar 0) (rC (.int 2))))) aNil)) (rC (.int 2305843009213693487))))
    (sSeq (sSet 4 (rBin gAdd (rBin gMul (rBin gMod (rCB gInt (pCons (rBin gAdd (rBin gMul (rVar 3) (rVar 3)) (rBin gMul (rC (.int 101)) (rIx (rVar 0) (rC (.int 2))))) aNil)) (rC (.int 2305843009213693669))) (rC (.int 6700417))) (rVar 3)))
    (sRet (rBin gMod (rCB gInt (pCons (rBin gDiv (rVar 4) (rC (.int 65537))) aNil)) (rVar 1)))))))
def f__law_roll : Fn := fnRun 2 5 b__law_roll
/-@ _law_pick -/
def b__law_pick : SemS :=
    (sRet (rIx (rVar 1) (rCall 2 f__law_roll (aCons (rVar 0) (aCons (rCB gLen (pCons (rVar 1) aNil)) aNil)))))
def f__law_pick : Fn := fnRun 2 2 b__law_pick
/-@ _law_po_trim -/
def L__law_po_trim_1 : SemS :=
    (sPop 1)
def b__law_po_trim : SemS :=
    (sSeq (sSet 1 (rCB gList (pCons (rVar 0) aNil)))
    (sSeq (sWhile (bAnd (bBool (rBin gNe (rVar 1) (rLst aNil))) (bBool (rBin gEq (rIx (rVar 1) (rNeg (rC (.int 1)))) (rC (.int 0))))) L__law_po_trim_1)
    (sRet (rCB gTuple (pCons (rVar 1) aNil)))))
def f__law_po_trim : Fn := fnRun 1 2 b__law_po_trim
/-@ _law_po_sum -/
def L__law_po_sum_1 : SemS :=
    (sSetItem 3 (rVar 4) (rVar 5))
def L__law_po_sum_2 : SemS :=
    (sSetItem 3 (rVar 4) (rBin gMod (rCB gInt (pCons (rBin gAdd (rIx (rVar 3) (rVar 4)) (rVar 5)) aNil)) (rVar 0)))
def b__law_po_sum : SemS :=
    (sSeq (sSet 3 (rBin gMul (rLst (aCons (rC (.int 0)) aNil)) (rCB gMax (pCons (rCB gLen (pCons (rVar 1) aNil)) (pCons (rCB gLen (pCons (rVar 2) aNil)) aNil)))))
    (sSeq (sFor (eEnum (rVar 1)) (gTupS [4, 5]) L__law_po_sum_1)
    (sSeq (sFor (eEnum (rVar 2)) (gTupS [4, 5]) L__law_po_sum_2)
    (sFrz 3 (sRet (rCall 1 f__law_po_trim (aCons (rVar 3) aNil)))))))
def f__law_po_sum : Fn := fnRun 3 6 b__law_po_sum
/-@ _law_po_scaled -/
def X__law_po_scaled_1 : SemR :=
    (rBin gMod (rCB gInt (pCons (rBin gMul (rVar 3) (rVar 2)) aNil)) (rVar 0))
def b__law_po_scaled : SemS :=
    (sRet (rCall 1 f__law_po_trim (aCons (rComp (eSeq (rVar 1)) (gSet 3) bYes X__law_po_scaled_1 [3]) aNil)))
def f__law_po_scaled : Fn := fnRun 3 4 b__law_po_scaled
/-@ _law_po_times -/
def L__law_po_times_1 : SemS :=
    (sSetItem 3 (rBin gAdd (rVar 4) (rVar 6)) (rBin gMod (rCB gInt (pCons (rBin gAdd (rIx (rVar 3) (rBin gAdd (rVar 4) (rVar 6))) (rBin gMul (rVar 5) (rVar 7))) aNil)) (rVar 0)))
def L__law_po_times_2 : SemS :=
    (sFor (eEnum (rVar 2)) (gTupS [6, 7]) L__law_po_times_1)
def b__law_po_times : SemS :=
    (sSeq (sSet 3 (rBin gMul (rLst (aCons (rC (.int 0)) aNil)) (rBin gAdd (rCB gLen (pCons (rVar 1) aNil)) (rCB gLen (pCons (rVar 2) aNil)))))
    (sSeq (sFor (eEnum (rVar 1)) (gTupS [4, 5]) L__law_po_times_2)
    (sFrz 3 (sRet (rCall 1 f__law_po_trim (aCons (rVar 3) aNil))))))
def f__law_po_times : Fn := fnRun 3 8 b__law_po_times
/-@ _law_po_value -/
def L__law_po_value_1 : SemS :=
    (sPar2 3 4 (rBin gMod (rCB gInt (pCons (rBin gAdd (rVar 3) (rBin gMul (rVar 5) (rVar 4))) aNil)) (rVar 0)) (rBin gMod (rCB gInt (pCons (rBin gMul (rVar 4) (rVar 2)) aNil)) (rVar 0)))
def b__law_po_value : SemS :=
    (sSeq (sAsg (gTupS [3, 4]) (rTup (aCons (rC (.int 0)) (aCons (rC (.int 1)) aNil))))
    (sSeq (sFor (eSeq (rVar 1)) (gSet 5) L__law_po_value_1)
    (sRet (rVar 3))))
def f__law_po_value : Fn := fnRun 3 6 b__law_po_value
/-@ _law_po_drawn -/
def X__law_po_drawn_1 : SemR :=
    (rCall 2 f__law_pick (aCons (rVar 0) (aCons (rLst (aCons (rCall 2 f__law_roll (aCons (rVar 0) (aCons (rVar 1) aNil))) (aCons (rCall 2 f__law_roll (aCons (rVar 0) (aCons (rVar 1) aNil))) (aCons (rC (.int 0)) (aCons (rC (.int 1)) (aCons (rBin gMinus (rVar 1) (rC (.int 1))) aNil)))))) aNil)))
def b__law_po_drawn : SemS :=
    (sRet (rCall 1 f__law_po_trim (aCons (rComp (eRange1 (pCons (rCall 2 f__law_roll (aCons (rVar 0) (aCons (rBin gAdd (rVar 2) (rC (.int 1))) aNil))) aNil)) (gSet 3) bYes X__law_po_drawn_1 [3]) aNil)))
def f__law_po_drawn : Fn := fnRun 3 4 b__law_po_drawn
/-@ _law_po_places -/
def L__law_po_places_1 : SemS :=
    (sSeq (sSet 6 (rBin gAdd (rVar 3) (rCall 2 f__law_roll (aCons (rVar 0) (aCons (rBin gMinus (rVar 1) (rVar 3)) aNil)))))
    (sIf (bAnd (bBool (rBin gNotIn (rVar 6) (rVar 4))) (bBool (rBin gLt (rCB gLen (pCons (rVar 4) aNil)) (rVar 2)))) (sAppend 4 (rVar 6)) sNop))
def b__law_po_places : SemS :=
    (sSeq (sSet 4 (rLst aNil))
    (sSeq (sFor (eRange1 (pCons (rBin gMul (rVar 2) (rC (.int 3))) aNil)) (gSet 5) L__law_po_places_1)
    (sRet (rIf (bBool (rBin gNe (rVar 4) (rLst aNil))) (rCB gTuple (pCons (rVar 4) aNil)) (rTup (aCons (rVar 3) aNil))))))
def f__law_po_places : Fn := fnRun 4 7 b__law_po_places
/-@ _law_po_field -/
def b__law_po_field : SemS :=
    (sRet (rCall 2 f__law_pick (aCons (rVar 0) (aCons (rLst (aCons (rC (.int 5)) (aCons (rC (.int 7)) (aCons (rC (.int 11)) (aCons (rC (.int 13)) (aCons (rC (.int 17)) (aCons (rC (.int 31)) (aCons (rC (.int 101)) (aCons (rC (.int 499)) (aCons (rC (.int 991)) (aCons (rC (.int 997)) aNil))))))))))) aNil))))
def f__law_po_field : Fn := fnRun 1 1 b__law_po_field
/-@ -/
end Pg
/-! Pg: what the program's and the laws' common defs compute, printed once. -/
namespace Pg
open PySem PySem.Spec L2 Ev

/-@ hiding_in -/
def L_hiding_in_1 : SemS :=
    (sSet 2 (rCall 3 f_product_in (aCons (rVar 0) (aCons (rVar 2) (aCons (rTup (aCons (rC (.int 1)) (aCons (rBin gMod (rNeg (rCall 2 f_undone_in (aCons (rVar 0) (aCons (rVar 3) aNil)))) (rVar 0)) aNil))) aNil)))))
def b_hiding_in : SemS :=
    (sSeq (sSet 2 (rTup (aCons (rC (.int 1)) aNil)))
    (sSeq (sFor (eSeq (rVar 1)) (gSet 3) L_hiding_in_1)
    (sRet (rVar 2))))
def f_hiding_in : Fn := fnRun 2 4 b_hiding_in
/-@ hidden_in -/
def b_hidden_in : SemS :=
    (sSeq (sSet 4 (rBin gMod (rBin gMinus (rVar 3) (rCall 3 f_value_in (aCons (rVar 0) (aCons (rVar 1) (aCons (rC (.int 0)) aNil))))) (rVar 0)))
    (sRet (rCall 3 f_sum_in (aCons (rVar 0) (aCons (rVar 1) (aCons (rCall 3 f_scaled_in (aCons (rVar 0) (aCons (rCall 2 f_hiding_in (aCons (rVar 0) (aCons (rVar 2) aNil))) (aCons (rVar 4) aNil)))) aNil))))))
def f_hidden_in : Fn := fnRun 4 5 b_hidden_in
/-@ require_hiding -/
def b_require_hiding : SemS :=
    (sIf (bOr (bNot (bTruth (rCall 2 f_are_places (aCons (rVar 0) (aCons (rVar 1) aNil))))) (bBool (rBin gIn (rC (.int 0)) (rVar 1)))) sBot sNop)
def f_require_hiding : Fn := fnRun 2 2 b_require_hiding
/-@ hiding -/
def b_hiding : SemS :=
    (sSeq (sExpr (rCall 1 f_require_field (aCons (rVar 0) aNil)))
    (sSeq (sExpr (rCall 2 f_require_hiding (aCons (rVar 0) (aCons (rVar 1) aNil))))
    (sRet (rCall 2 f_hiding_in (aCons (rVar 0) (aCons (rVar 1) aNil))))))
def f_hiding : Fn := fnRun 2 2 b_hiding
/-@ hidden -/
def b_hidden : SemS :=
    (sSeq (sExpr (rCall 2 f_require_field_poly (aCons (rVar 0) (aCons (rVar 1) aNil))))
    (sSeq (sExpr (rCall 2 f_require_hiding (aCons (rVar 0) (aCons (rVar 2) aNil))))
    (sSeq (sExpr (rCall 2 f_require_number (aCons (rVar 0) (aCons (rVar 3) aNil))))
    (sRet (rCall 4 f_hidden_in (aCons (rVar 0) (aCons (rVar 1) (aCons (rVar 2) (aCons (rVar 3) aNil)))))))))
def f_hidden : Fn := fnRun 4 4 b_hidden
/-@ -/
end Pg
/-! Pg: what the program's and the laws' common defs compute, printed once. -/
namespace Pg
open PySem PySem.Spec L2 Ev

/-@ are_points -/
def X_are_points_1 : SemR :=
    (rAnd (rCall 2 f_are_numbers (aCons (rVar 0) (aCons (rVar 2) aNil))) (rBin gEq (rCB gLen (pCons (rVar 2) aNil)) (rC (.int 2))))
def b_are_points : SemS :=
    (sSeq (sIf (bOr (bNot (bTruth (rIsa .tuple (rVar 1)))) (bBool (rBin gEq (rVar 1) (rTup aNil)))) (sRet (rC (.bl false))) sNop)
    (sSeq (sIf (bNot (bTruth (rCB gAll (pCons (rComp (eSeq (rVar 1)) (gSet 2) bYes X_are_points_1 [2]) aNil)))) (sRet (rC (.bl false))) sNop)
    (sRet (rCall 2 f_are_places (aCons (rVar 0) (aCons (rCB gTuple (pCons (rComp (eSeq (rVar 1)) (gTupS [3, 4]) bYes (rVar 3) [3, 4]) aNil)) aNil))))))
def f_are_points : Fn := fnRun 2 5 b_are_points
/-@ weights_in -/
def L_weights_in_1 : SemS :=
    (sIf (bBool (rBin gNe (rVar 7) (rVar 4))) (sPar2 5 6 (rBin gMod (rBin gMul (rVar 5) (rBin gMinus (rVar 2) (rVar 7))) (rVar 0)) (rBin gMod (rBin gMul (rVar 6) (rBin gMinus (rVar 4) (rVar 7))) (rVar 0))) sNop)
def L_weights_in_2 : SemS :=
    (sSeq (sAsg (gTupS [5, 6]) (rTup (aCons (rC (.int 1)) (aCons (rC (.int 1)) aNil))))
    (sSeq (sFor (eSeq (rVar 1)) (gSet 7) L_weights_in_1)
    (sAppend 3 (rBin gMod (rBin gMul (rVar 5) (rCall 2 f_undone_in (aCons (rVar 0) (aCons (rVar 6) aNil)))) (rVar 0)))))
def b_weights_in : SemS :=
    (sSeq (sSet 3 (rLst aNil))
    (sSeq (sFor (eSeq (rVar 1)) (gSet 4) L_weights_in_2)
    (sRet (rCB gTuple (pCons (rVar 3) aNil)))))
def f_weights_in : Fn := fnRun 3 8 b_weights_in
/-@ through_in -/
def L_through_in_1 : SemS :=
    (sSeq (sSet 6 (rBin gMul (rBin gMinus (rVar 5) (rCall 3 f_value_in (aCons (rVar 0) (aCons (rVar 2) (aCons (rVar 4) aNil))))) (rCall 2 f_undone_in (aCons (rVar 0) (aCons (rCall 3 f_value_in (aCons (rVar 0) (aCons (rVar 3) (aCons (rVar 4) aNil)))) aNil)))))
    (sSeq (sSet 2 (rCall 3 f_sum_in (aCons (rVar 0) (aCons (rVar 2) (aCons (rCall 3 f_scaled_in (aCons (rVar 0) (aCons (rVar 3) (aCons (rBin gMod (rVar 6) (rVar 0)) aNil)))) aNil)))))
    (sSet 3 (rCall 3 f_product_in (aCons (rVar 0) (aCons (rVar 3) (aCons (rTup (aCons (rBin gMod (rNeg (rVar 4)) (rVar 0)) (aCons (rC (.int 1)) aNil))) aNil)))))))
def b_through_in : SemS :=
    (sSeq (sAsg (gTupS [2, 3]) (rTup (aCons (rTup aNil) (aCons (rTup (aCons (rC (.int 1)) aNil)) aNil))))
    (sSeq (sFor (eSeq (rVar 1)) (gTupS [4, 5]) L_through_in_1)
    (sRet (rVar 2))))
def f_through_in : Fn := fnRun 2 7 b_through_in
/-@ checks_in -/
def L_checks_in_1 : SemS :=
    (sIf (bBool (rBin gNe (rVar 6) (rVar 4))) (sSet 5 (rBin gMod (rBin gMul (rVar 5) (rBin gMinus (rVar 4) (rVar 6))) (rVar 0))) sNop)
def L_checks_in_2 : SemS :=
    (sSeq (sSet 5 (rC (.int 1)))
    (sSeq (sFor (eSeq (rVar 1)) (gSet 6) L_checks_in_1)
    (sAppend 3 (rCall 2 f_undone_in (aCons (rVar 0) (aCons (rVar 5) aNil))))))
def X_checks_in_1 : SemR :=
    (rBin gMod (rBin gMul (rVar 9) (rVar 4)) (rVar 0))
def L_checks_in_3 : SemS :=
    (sSeq (sAppend 7 (rCB gTuple (pCons (rVar 3) aNil)))
    (sFrz 3 (sSet 3 (rComp (eZipM (aCons (rVar 3) (aCons (rVar 1) aNil))) (gTupS [9, 4]) bYes X_checks_in_1 [9, 4]))))
def b_checks_in : SemS :=
    (sSeq (sSet 3 (rLst aNil))
    (sSeq (sFor (eSeq (rVar 1)) (gSet 4) L_checks_in_2)
    (sSeq (sSet 7 (rLst aNil))
    (sSeq (sFor (eRange1 (pCons (rBin gMinus (rBin gMinus (rCB gLen (pCons (rVar 1) aNil)) (rVar 2)) (rC (.int 1))) aNil)) (gSet 8) L_checks_in_3)
    (sRet (rCB gTuple (pCons (rVar 7) aNil)))))))
def f_checks_in : Fn := fnRun 3 10 b_checks_in
/-@ through -/
def b_through : SemS :=
    (sSeq (sExpr (rCall 1 f_require_field (aCons (rVar 0) aNil)))
    (sSeq (sIf (bNot (bTruth (rCall 2 f_are_points (aCons (rVar 0) (aCons (rVar 1) aNil))))) sBot sNop)
    (sRet (rCall 2 f_through_in (aCons (rVar 0) (aCons (rVar 1) aNil))))))
def f_through : Fn := fnRun 2 2 b_through
/-@ weights -/
def b_weights : SemS :=
    (sSeq (sExpr (rCall 1 f_require_field (aCons (rVar 0) aNil)))
    (sSeq (sExpr (rCall 2 f_require_places (aCons (rVar 0) (aCons (rVar 1) aNil))))
    (sSeq (sExpr (rCall 2 f_require_number (aCons (rVar 0) (aCons (rVar 2) aNil))))
    (sRet (rCall 3 f_weights_in (aCons (rVar 0) (aCons (rVar 1) (aCons (rVar 2) aNil))))))))
def f_weights : Fn := fnRun 3 3 b_weights
/-@ checks -/
def b_checks : SemS :=
    (sSeq (sExpr (rCall 1 f_require_field (aCons (rVar 0) aNil)))
    (sSeq (sExpr (rCall 2 f_require_places (aCons (rVar 0) (aCons (rVar 1) aNil))))
    (sSeq (sIf (bNot (bTruth (rCall 3 f_is_within (aCons (rVar 2) (aCons (rC (.int (-1))) (aCons (rC (.int 60)) aNil)))))) sBot sNop)
    (sRet (rCall 3 f_checks_in (aCons (rVar 0) (aCons (rVar 1) (aCons (rVar 2) aNil))))))))
def f_checks : Fn := fnRun 3 3 b_checks
/-@ _law_po_undone -/
def L__law_po_undone_1 : SemS :=
    (sSeq (sIf (bBool (rBin gEq (rBin gMod (rCB gInt (pCons (rVar 4) aNil)) (rC (.int 2))) (rC (.int 1)))) (sSet 2 (rBin gMod (rCB gInt (pCons (rBin gMul (rVar 2) (rVar 3)) aNil)) (rVar 0))) sNop)
    (sPar2 3 4 (rBin gMod (rCB gInt (pCons (rBin gMul (rVar 3) (rVar 3)) aNil)) (rVar 0)) (rBin gDiv (rVar 4) (rC (.int 2)))))
def b__law_po_undone : SemS :=
    (sSeq (sPar3 2 3 4 (rC (.int 1)) (rBin gMod (rCB gInt (pCons (rVar 1) aNil)) (rVar 0)) (rBin gMinus (rVar 0) (rC (.int 2))))
    (sSeq (sWhile (bBool (rBin gGt (rVar 4) (rC (.int 0)))) L__law_po_undone_1)
    (sRet (rVar 2))))
def f__law_po_undone : Fn := fnRun 2 5 b__law_po_undone
/-@ _law_summed -/
def L__law_summed_1 : SemS :=
    (sSet 3 (rBin gMod (rCB gInt (pCons (rBin gAdd (rVar 3) (rBin gMul (rVar 4) (rVar 5))) aNil)) (rVar 0)))
def b__law_summed : SemS :=
    (sSeq (sSet 3 (rC (.int 0)))
    (sSeq (sFor (eZipM (aCons (rVar 1) (aCons (rVar 2) aNil))) (gTupS [4, 5]) L__law_summed_1)
    (sRet (rVar 3))))
def f__law_summed : Fn := fnRun 3 6 b__law_summed
/-@ -/
end Pg
/-! Pg: what the program's and the laws' common defs compute, printed once. -/
namespace Pg
open PySem PySem.Spec L2 Ev

/-@ is_number -/
def b_is_number : SemS :=
    (sSeq (sExpr (rCall 1 f_require_field (aCons (rVar 0) aNil)))
    (sRet (rCall 3 f_is_within (aCons (rVar 1) (aCons (rC (.int 0)) (aCons (rBin gMinus (rVar 0) (rC (.int 1))) aNil))))))
def f_is_number : Fn := fnRun 2 2 b_is_number
/-@ is_from -/
def b_is_from : SemS :=
    (sRet (rAnd (rIsa .int (rVar 0)) (rAnd (rNot (rIsa .bool (rVar 0))) (rChain gLe gLe (rVar 1) (rVar 0) (rVar 2)))))
def f_is_from : Fn := fnRun 3 3 b_is_from
/-@ are_numbers_sharing -/
def X_are_numbers_sharing_1 : SemR :=
    (rCall 2 f_is_number (aCons (rVar 0) (aCons (rVar 4) aNil)))
def b_are_numbers_sharing : SemS :=
    (sRet (rAnd (rIsa .tuple (rVar 1)) (rAnd (rChain gLe gLe (rVar 2) (rCB gLen (pCons (rVar 1) aNil)) (rVar 3)) (rCB gAll (pCons (rComp (eSeq (rVar 1)) (gSet 4) bYes X_are_numbers_sharing_1 [4]) aNil)))))
def f_are_numbers_sharing : Fn := fnRun 4 5 b_are_numbers_sharing
/-@ is_lot_of -/
def X_is_lot_of_1 : SemR :=
    (rCall 3 f_is_from (aCons (rVar 2) (aCons (rC (.int 1)) (aCons (rBin gMinus (rVar 0) (rC (.int 1))) aNil))))
def X_is_lot_of_2 : SemR :=
    (rBin gLt (rVar 2) (rVar 3))
def b_is_lot_of : SemS :=
    (sSeq (sIf (bOr (bNot (bTruth (rIsa .tuple (rVar 1)))) (bBool (rBin gGt (rCB gLen (pCons (rVar 1) aNil)) (rC (.int 9))))) (sRet (rC (.bl false))) sNop)
    (sSeq (sIf (bNot (bTruth (rCB gAll (pCons (rComp (eSeq (rVar 1)) (gSet 2) bYes X_is_lot_of_1 [2]) aNil)))) (sRet (rC (.bl false))) sNop)
    (sRet (rCB gAll (pCons (rComp (eZipM (aCons (rVar 1) (aCons (rSlice (rVar 1) (oSome (rC (.int 1))) oNo) aNil))) (gTupS [2, 3]) bYes X_is_lot_of_2 [2, 3]) aNil)))))
def f_is_lot_of : Fn := fnRun 2 4 b_is_lot_of
/-@ require_field_sharing -/
def b_require_field_sharing : SemS :=
    (sIf (bNot (bTruth (rCall 1 f_is_field (aCons (rVar 0) aNil)))) sBot sNop)
def f_require_field_sharing : Fn := fnRun 1 1 b_require_field_sharing
/-@ require_number_sharing -/
def b_require_number_sharing : SemS :=
    (sIf (bNot (bTruth (rCall 2 f_is_number (aCons (rVar 0) (aCons (rVar 1) aNil))))) sBot sNop)
def f_require_number_sharing : Fn := fnRun 2 2 b_require_number_sharing
/-@ require_from -/
def b_require_from : SemS :=
    (sIf (bNot (bTruth (rCall 3 f_is_from (aCons (rVar 0) (aCons (rVar 1) (aCons (rVar 2) aNil)))))) sBot sNop)
def f_require_from : Fn := fnRun 3 3 b_require_from
/-@ require_lot -/
def b_require_lot : SemS :=
    (sIf (bNot (bTruth (rCall 2 f_is_lot_of (aCons (rVar 0) (aCons (rVar 1) aNil))))) sBot sNop)
def f_require_lot : Fn := fnRun 2 2 b_require_lot
/-@ require_most_and_lot -/
def b_require_most_and_lot : SemS :=
    (sSeq (sExpr (rCall 1 f_require_field_sharing (aCons (rVar 0) aNil)))
    (sSeq (sExpr (rCall 3 f_require_from (aCons (rVar 1) (aCons (rC (.int 0)) (aCons (rBin gMinus (rC (.int 9)) (rC (.int 1))) aNil)))))
    (sExpr (rCall 2 f_require_lot (aCons (rVar 0) (aCons (rVar 2) aNil))))))
def f_require_most_and_lot : Fn := fnRun 3 3 b_require_most_and_lot
/-@ trimmed_sharing -/
def X_trimmed_sharing_1 : SemR :=
    (rBin gAdd (rVar 2) (rC (.int 1)))
def Y_trimmed_sharing_1 : SemB :=
    (bBool (rBin gNe (rVar 3) (rC (.int 0))))
def b_trimmed_sharing : SemS :=
    (sSeq (sSet 1 (rMaxD (rComp (eEnum (rVar 0)) (gTupS [2, 3]) Y_trimmed_sharing_1 X_trimmed_sharing_1 [2, 3]) 0))
    (sRet (rCB gTuple (pCons (rSlice (rVar 0) oNo (oSome (rVar 1))) aNil))))
def f_trimmed_sharing : Fn := fnRun 1 4 b_trimmed_sharing
/-@ padded -/
def b_padded : SemS :=
    (sRet (rTup (aStar (rVar 0) (aStar (rBin gMul (rLst (aCons (rC (.int 0)) aNil)) (rBin gMinus (rVar 1) (rCB gLen (pCons (rVar 0) aNil)))) aNil))))
def f_padded : Fn := fnRun 2 2 b_padded
/-@ shares_of -/
def X_shares_of_1 : SemR :=
    (rCall 3 f_value_at (aCons (rVar 0) (aCons (rCall 1 f_trimmed_sharing (aCons (rVar 2) aNil)) (aCons (rVar 3) aNil))))
def b_shares_of : SemS :=
    (sRet (rCB gTuple (pCons (rComp (eRange2 (pCons (rC (.int 1)) (pCons (rBin gAdd (rVar 1) (rC (.int 1))) aNil))) (gSet 3) bYes X_shares_of_1 [3]) aNil)))
def f_shares_of : Fn := fnRun 3 4 b_shares_of
/-@ first_apart -/
def Y_first_apart_1 : SemB :=
    (bBool (rBin gNe (rCall 3 f_value_at (aCons (rVar 0) (aCons (rVar 1) (aCons (rVar 4) aNil)))) (rVar 5)))
def b_first_apart : SemS :=
    (sSeq (sSet 3 (rComp (eSeq (rVar 2)) (gTupS [4, 5]) Y_first_apart_1 (rVar 4) [4, 5]))
    (sRet (rIf (bBool (rBin gNe (rVar 3) (rLst aNil))) (rIx (rVar 3) (rC (.int 0))) (rC .non))))
def f_first_apart : Fn := fnRun 3 6 b_first_apart
/-@ hidden_coins -/
def X_hidden_coins_1 : SemR :=
    (rBin gMod (rBin gAdd (rVar 5) (rBin gMul (rVar 3) (rVar 6))) (rVar 0))
def b_hidden_coins : SemS :=
    (sSeq (sSet 4 (rSlice (rCall 2 f_padded (aCons (rCall 2 f_hiding (aCons (rVar 0) (aCons (rVar 1) aNil))) (aCons (rBin gAdd (rCB gLen (pCons (rVar 2) aNil)) (rC (.int 1))) aNil))) (oSome (rC (.int 1))) oNo))
    (sFrz 4 (sRet (rCB gTuple (pCons (rComp (eZipM (aCons (rVar 2) (aCons (rVar 4) aNil))) (gTupS [5, 6]) bYes X_hidden_coins_1 [5, 6]) aNil)))))
def f_hidden_coins : Fn := fnRun 4 7 b_hidden_coins
/-@ many_rows -/
def L_many_rows_1 : SemS :=
    (sSet 2 (rBin gMul (rVar 2) (rVar 0)))
def b_many_rows : SemS :=
    (sSeq (sSet 2 (rC (.int 1)))
    (sSeq (sFor (eRange1 (pCons (rVar 1) aNil)) (gSet 3) L_many_rows_1)
    (sRet (rVar 2))))
def f_many_rows : Fn := fnRun 2 4 b_many_rows
/-@ dealt -/
def b_dealt : SemS :=
    (sSeq (sExpr (rCall 1 f_require_field_sharing (aCons (rVar 0) aNil)))
    (sSeq (sExpr (rCall 3 f_require_from (aCons (rVar 1) (aCons (rC (.int 1)) (aCons (rCB gMin (pCons (rC (.int 9)) (pCons (rBin gMinus (rVar 0) (rC (.int 1))) aNil))) aNil)))))
    (sSeq (sExpr (rCall 2 f_require_number_sharing (aCons (rVar 0) (aCons (rVar 2) aNil))))
    (sSeq (sIf (bNot (bTruth (rCall 4 f_are_numbers_sharing (aCons (rVar 0) (aCons (rVar 3) (aCons (rC (.int 0)) (aCons (rBin gMinus (rVar 1) (rC (.int 1))) aNil))))))) sBot sNop)
    (sRet (rCall 3 f_shares_of (aCons (rVar 0) (aCons (rVar 1) (aCons (rTup (aCons (rVar 2) (aStar (rVar 3) aNil))) aNil)))))))))
def f_dealt : Fn := fnRun 4 4 b_dealt
/-@ told_count -/
def b_told_count : SemS :=
    (sSeq (sExpr (rCall 3 f_require_most_and_lot (aCons (rVar 0) (aCons (rVar 1) (aCons (rVar 2) aNil)))))
    (sSeq (sIf (bNot (bTruth (rCall 4 f_are_numbers_sharing (aCons (rVar 0) (aCons (rVar 3) (aCons (rCB gLen (pCons (rVar 2) aNil)) (aCons (rCB gLen (pCons (rVar 2) aNil)) aNil))))))) sBot sNop)
    (sSeq (sExpr (rCall 2 f_require_number_sharing (aCons (rVar 0) (aCons (rVar 4) aNil))))
    (sSeq (sIf (bBool (rBin gLe (rCB gLen (pCons (rVar 2) aNil)) (rVar 1))) (sRet (rCall 2 f_many_rows (aCons (rVar 0) (aCons (rBin gMinus (rVar 1) (rCB gLen (pCons (rVar 2) aNil))) aNil)))) sNop)
    (sSeq (sSet 5 (rLst (aCons (rTup (aCons (rC (.int 0)) (aCons (rVar 4) aNil))) (aStarZip (aCons (rVar 2) (aCons (rVar 3) aNil)) aNil))))
    (sFrz 5 (sRet (rCB gInt (pCons (rBin gIs (rCall 3 f_first_apart (aCons (rVar 0) (aCons (rCall 2 f_through (aCons (rVar 0) (aCons (rCB gTuple (pCons (rSlice (rVar 5) oNo (oSome (rBin gAdd (rVar 1) (rC (.int 1))))) aNil)) aNil))) (aCons (rVar 5) aNil)))) (rC .non)) aNil)))))))))
def f_told_count : Fn := fnRun 5 6 b_told_count
/-@ changed_coins -/
def b_changed_coins : SemS :=
    (sSeq (sExpr (rCall 1 f_require_field_sharing (aCons (rVar 0) aNil)))
    (sSeq (sExpr (rCall 2 f_require_lot (aCons (rVar 0) (aCons (rVar 1) aNil))))
    (sSeq (sIf (bNot (bTruth (rCall 4 f_are_numbers_sharing (aCons (rVar 0) (aCons (rVar 2) (aCons (rC (.int 0)) (aCons (rBin gMinus (rC (.int 9)) (rC (.int 1))) aNil))))))) sBot sNop)
    (sSeq (sExpr (rCall 2 f_require_number_sharing (aCons (rVar 0) (aCons (rVar 3) aNil))))
    (sSeq (sExpr (rCall 2 f_require_number_sharing (aCons (rVar 0) (aCons (rVar 4) aNil))))
    (sSeq (sIf (bBool (rBin gGt (rCB gLen (pCons (rVar 1) aNil)) (rCB gLen (pCons (rVar 2) aNil)))) sBot sNop)
    (sRet (rCall 4 f_hidden_coins (aCons (rVar 0) (aCons (rVar 1) (aCons (rVar 2) (aCons (rBin gMinus (rVar 4) (rVar 3)) aNil))))))))))))
def f_changed_coins : Fn := fnRun 5 5 b_changed_coins
/-@ _law_mixed -/
def L__law_mixed_1 : SemS :=
    (sAppPop 3 2 (rCall 2 f__law_roll (aCons (rVar 0) (aCons (rCB gLen (pCons (rVar 2) aNil)) aNil))))
def b__law_mixed : SemS :=
    (sSeq (sPar2 2 3 (rCB gList (pCons (rVar 1) aNil)) (rLst aNil))
    (sSeq (sWhile (bBool (rBin gNe (rVar 2) (rLst aNil))) L__law_mixed_1)
    (sRet (rVar 3))))
def f__law_mixed : Fn := fnRun 2 4 b__law_mixed
/-@ _law_dr_numbers -/
def X__law_dr_numbers_1 : SemR :=
    (rCall 2 f__law_pick (aCons (rVar 0) (aCons (rLst (aCons (rC (.int 0)) (aCons (rC (.int 1)) (aCons (rBin gMinus (rVar 1) (rC (.int 1))) (aCons (rCall 2 f__law_roll (aCons (rVar 0) (aCons (rVar 1) aNil))) (aCons (rCall 2 f__law_roll (aCons (rVar 0) (aCons (rVar 1) aNil))) aNil)))))) aNil)))
def b__law_dr_numbers : SemS :=
    (sRet (rCB gTuple (pCons (rComp (eRange1 (pCons (rVar 2) aNil)) (gSet 3) bYes X__law_dr_numbers_1 [3]) aNil)))
def f__law_dr_numbers : Fn := fnRun 3 4 b__law_dr_numbers
/-@ _law_fd_undone -/
def L__law_fd_undone_1 : SemS :=
    (sIf (bBool (rBin gEq (rBin gMod (rBin gMul (rVar 2) (rVar 1)) (rVar 0)) (rC (.int 1)))) (sRet (rVar 2)) sNop)
def b__law_fd_undone : SemS :=
    (sSeq (sFor (eRange2 (pCons (rC (.int 1)) (pCons (rVar 0) aNil))) (gSet 2) L__law_fd_undone_1)
    (sRet (rC .non)))
def f__law_fd_undone : Fn := fnRun 2 3 b__law_fd_undone
/-@ _law_fd_times -/
def L__law_fd_times_1 : SemS :=
    (sSet 2 (rBin gMul (rVar 2) (rVar 0)))
def b__law_fd_times : SemS :=
    (sSeq (sSet 2 (rC (.int 1)))
    (sSeq (sFor (eRange1 (pCons (rVar 1) aNil)) (gSet 3) L__law_fd_times_1)
    (sRet (rVar 2))))
def f__law_fd_times : Fn := fnRun 2 4 b__law_fd_times
/-@ _law_fd_trim -/
def L__law_fd_trim_1 : SemS :=
    (sIf (bBool (rBin gEq (rIx (rVar 1) (rNeg (rC (.int 1)))) (rC (.int 0)))) (sPop 1) sNop)
def b__law_fd_trim : SemS :=
    (sSeq (sSet 1 (rCB gList (pCons (rVar 0) aNil)))
    (sSeq (sFor (eRange1 (pCons (rCB gLen (pCons (rVar 1) aNil)) aNil)) (gSet 2) L__law_fd_trim_1)
    (sRet (rCB gTuple (pCons (rVar 1) aNil)))))
def f__law_fd_trim : Fn := fnRun 1 3 b__law_fd_trim
/-@ _law_fd_sum -/
def X__law_fd_sum_1 : SemR :=
    (rBin gMod (rBin gAdd (rVar 6) (rVar 7)) (rVar 0))
def b__law_fd_sum : SemS :=
    (sSeq (sSet 3 (rCB gMax (pCons (rCB gLen (pCons (rVar 1) aNil)) (pCons (rCB gLen (pCons (rVar 2) aNil)) aNil))))
    (sSeq (sPar2 4 5 (rBin gAdd (rCB gList (pCons (rVar 1) aNil)) (rBin gMul (rLst (aCons (rC (.int 0)) aNil)) (rBin gMinus (rVar 3) (rCB gLen (pCons (rVar 1) aNil))))) (rBin gAdd (rCB gList (pCons (rVar 2) aNil)) (rBin gMul (rLst (aCons (rC (.int 0)) aNil)) (rBin gMinus (rVar 3) (rCB gLen (pCons (rVar 2) aNil))))))
    (sFrz 5 (sFrz 4 (sRet (rCall 1 f__law_fd_trim (aCons (rComp (eZipM (aCons (rVar 4) (aCons (rVar 5) aNil))) (gTupS [6, 7]) bYes X__law_fd_sum_1 [6, 7]) aNil)))))))
def f__law_fd_sum : Fn := fnRun 3 8 b__law_fd_sum
/-@ _law_fd_scaled -/
def X__law_fd_scaled_1 : SemR :=
    (rBin gMod (rBin gMul (rVar 2) (rVar 3)) (rVar 0))
def b__law_fd_scaled : SemS :=
    (sRet (rCall 1 f__law_fd_trim (aCons (rComp (eSeq (rVar 1)) (gSet 3) bYes X__law_fd_scaled_1 [3]) aNil)))
def f__law_fd_scaled : Fn := fnRun 3 4 b__law_fd_scaled
/-@ _law_fd_product -/
def L__law_fd_product_1 : SemS :=
    (sSet 3 (rCall 3 f__law_fd_sum (aCons (rVar 0) (aCons (rVar 3) (aCons (rBin gAdd (rBin gMul (rTup (aCons (rC (.int 0)) aNil)) (rVar 4)) (rCall 3 f__law_fd_scaled (aCons (rVar 0) (aCons (rVar 2) (aCons (rVar 5) aNil))))) aNil)))))
def b__law_fd_product : SemS :=
    (sSeq (sSet 3 (rTup aNil))
    (sSeq (sFor (eEnum (rVar 1)) (gTupS [4, 5]) L__law_fd_product_1)
    (sRet (rVar 3))))
def f__law_fd_product : Fn := fnRun 3 6 b__law_fd_product
/-@ _law_fd_value -/
def L__law_fd_value_1 : SemS :=
    (sPar2 3 4 (rBin gMod (rBin gAdd (rVar 3) (rBin gMul (rVar 5) (rVar 4))) (rVar 0)) (rBin gMod (rBin gMul (rVar 4) (rVar 2)) (rVar 0)))
def b__law_fd_value : SemS :=
    (sSeq (sAsg (gTupS [3, 4]) (rTup (aCons (rC (.int 0)) (aCons (rC (.int 1)) aNil))))
    (sSeq (sFor (eSeq (rVar 1)) (gSet 5) L__law_fd_value_1)
    (sRet (rVar 3))))
def f__law_fd_value : Fn := fnRun 3 6 b__law_fd_value
/-@ _law_fd_lone -/
def L__law_fd_lone_1 : SemS :=
    (sIf (bBool (rBin gNe (rVar 4) (rVar 2))) (sSeq (sSet 5 (rCall 2 f__law_fd_undone (aCons (rVar 0) (aCons (rBin gMod (rBin gMinus (rVar 2) (rVar 4)) (rVar 0)) aNil))))
    (sSet 3 (rCall 3 f__law_fd_product (aCons (rVar 0) (aCons (rVar 3) (aCons (rCall 1 f__law_fd_trim (aCons (rLst (aCons (rBin gMod (rBin gMul (rNeg (rVar 4)) (rVar 5)) (rVar 0)) (aCons (rVar 5) aNil))) aNil)) aNil)))))) sNop)
def b__law_fd_lone : SemS :=
    (sSeq (sSet 3 (rTup (aCons (rC (.int 1)) aNil)))
    (sSeq (sFor (eSeq (rVar 1)) (gSet 4) L__law_fd_lone_1)
    (sRet (rVar 3))))
def f__law_fd_lone : Fn := fnRun 3 6 b__law_fd_lone
/-@ _law_fd_through -/
def L__law_fd_through_1 : SemS :=
    (sFrz 3 (sSet 2 (rCall 3 f__law_fd_sum (aCons (rVar 0) (aCons (rVar 2) (aCons (rCall 3 f__law_fd_scaled (aCons (rVar 0) (aCons (rCall 3 f__law_fd_lone (aCons (rVar 0) (aCons (rVar 3) (aCons (rVar 4) aNil)))) (aCons (rVar 5) aNil)))) aNil))))))
def b__law_fd_through : SemS :=
    (sSeq (sPar2 2 3 (rTup aNil) (rComp (eSeq (rVar 1)) (gTupS [4, 5]) bYes (rVar 4) [4, 5]))
    (sSeq (sFor (eSeq (rVar 1)) (gTupS [4, 5]) L__law_fd_through_1)
    (sRet (rVar 2))))
def f__law_fd_through : Fn := fnRun 2 6 b__law_fd_through
/-@ _law_fd_hiding -/
def b__law_fd_hiding : SemS :=
    (sRet (rCall 3 f__law_fd_lone (aCons (rVar 0) (aCons (rBin gAdd (rTup (aCons (rC (.int 0)) aNil)) (rCB gTuple (pCons (rVar 1) aNil))) (aCons (rC (.int 0)) aNil)))))
def f__law_fd_hiding : Fn := fnRun 2 2 b__law_fd_hiding
/-@ -/
end Pg
/-! Pg: what the program's and the laws' common defs compute, printed once. -/
namespace Pg
open PySem PySem.Spec L2 Ev
noncomputable section

/-@ undone -/
def b_undone : SemS :=
    (sSeq (sExpr (rCall 1 f_require_field (aCons (rVar 0) aNil)))
    (sSeq (sExpr (rCall 2 f_require_number (aCons (rVar 0) (aCons (rVar 1) aNil))))
    (sSeq (sIf (bBool (rBin gEq (rVar 1) (rC (.int 0)))) sBot sNop)
    (sRet (rCall 2 f_undone_in (aCons (rVar 0) (aCons (rVar 1) aNil)))))))
def f_undone : Fn := fnRun 2 2 b_undone
/-@ are_numbers_v2 -/
def X_are_numbers_v2_1 : SemR :=
    (rCall 2 f_is_number (aCons (rVar 0) (aCons (rVar 3) aNil)))
def b_are_numbers_v2 : SemS :=
    (sRet (rAnd (rIsa .tuple (rVar 1)) (rAnd (rBin gEq (rCB gLen (pCons (rVar 1) aNil)) (rVar 2)) (rCB gAll (pCons (rComp (eSeq (rVar 1)) (gSet 3) bYes X_are_numbers_v2_1 [3]) aNil)))))
def f_are_numbers_v2 : Fn := fnRun 3 4 b_are_numbers_v2
/-@ most_houses -/
def b_most_houses : SemS :=
    (sRet (rCB gMin (pCons (rC (.int 9)) (pCons (rBin gMinus (rVar 0) (rC (.int 1))) aNil))))
def f_most_houses : Fn := fnRun 1 1 b_most_houses
/-@ is_word_in -/
def b_is_word_in : SemS :=
    (sSeq (sIf (bOr (bNot (bTruth (rIsa .tuple (rVar 1)))) (bNot (bBool (rChain gLe gLe (rC (.int 1)) (rCB gLen (pCons (rVar 1) aNil)) (rCall 1 f_most_houses (aCons (rVar 0) aNil)))))) (sRet (rC (.bl false))) sNop)
    (sRet (rCall 3 f_are_numbers_v2 (aCons (rVar 0) (aCons (rVar 1) (aCons (rCB gLen (pCons (rVar 1) aNil)) aNil))))))
def f_is_word_in : Fn := fnRun 2 2 b_is_word_in
/-@ product_of -/
def L_product_of_1 : SemS :=
    (sSet 2 (rBin gMod (rBin gMul (rVar 2) (rVar 3)) (rVar 0)))
def b_product_of : SemS :=
    (sSeq (sSet 2 (rC (.int 1)))
    (sSeq (sFor (eSeq (rVar 1)) (gSet 3) L_product_of_1)
    (sRet (rVar 2))))
def f_product_of : Fn := fnRun 2 4 b_product_of
/-@ weights_at -/
def X_weights_at_1 : SemR :=
    (rBin gMinus (rVar 2) (rVar 3))
def Y_weights_at_1 : SemB :=
    (bBool (rBin gNe (rVar 3) (rVar 2)))
def X_weights_at_2 : SemR :=
    (rCall 2 f_undone (aCons (rVar 0) (aCons (rCall 2 f_product_of (aCons (rVar 0) (aCons (rComp (eSeq (rVar 1)) (gSet 3) Y_weights_at_1 X_weights_at_1 [3]) aNil))) aNil)))
def b_weights_at : SemS :=
    (sRet (rComp (eSeq (rVar 1)) (gSet 2) bYes X_weights_at_2 [2]))
def f_weights_at : Fn := fnRun 2 4 b_weights_at
/-@ power_table -/
def X_power_table_1 : SemR :=
    (rIx (rCall 2 f_weights_at (aCons (rVar 0) (aCons (rRg2 kL (rC (.int 1)) (rBin gAdd (rVar 3) (rC (.int 1)))) aNil))) (rBin gMinus (rVar 7) (rC (.int 1))))
def X_power_table_2 : SemR :=
    (rBin gMod (rBin gMul (rVar 8) (rVar 7)) (rVar 0))
def L_power_table_1 : SemS :=
    (sSeq (sAppend 4 (rCB gTuple (pCons (rVar 5) aNil)))
    (sFrz 5 (sSet 5 (rComp (eZipM (aCons (rVar 5) (aCons (rVar 1) aNil))) (gTupS [8, 7]) bYes X_power_table_2 [8, 7]))))
def b_power_table : SemS :=
    (sSeq (sPar2 4 5 (rLst aNil) (rComp (eSeq (rVar 1)) (gSet 7) bYes X_power_table_1 [7]))
    (sSeq (sFor (eRange1 (pCons (rBin gMinus (rBin gMinus (rVar 3) (rVar 2)) (rC (.int 1))) aNil)) (gSet 6) L_power_table_1)
    (sRet (rVar 4))))
def f_power_table : Fn := fnRun 4 9 b_power_table
/-@ syndromes_in -/
def X_syndromes_in_1 : SemR :=
    (rBin gMul (rVar 5) (rVar 6))
def X_syndromes_in_2 : SemR :=
    (rBin gMod (rCB gSum (pCons (rComp (eZipM (aCons (rVar 4) (aCons (rVar 1) aNil))) (gTupS [5, 6]) bYes X_syndromes_in_1 [5, 6]) aNil)) (rVar 0))
def b_syndromes_in : SemS :=
    (sSeq (sSet 3 (rCall 4 f_power_table (aCons (rVar 0) (aCons (rRg2 kL (rC (.int 1)) (rBin gAdd (rCB gLen (pCons (rVar 1) aNil)) (rC (.int 1)))) (aCons (rVar 2) (aCons (rCB gLen (pCons (rVar 1) aNil)) aNil))))))
    (sFrz 3 (sRet (rCB gTuple (pCons (rComp (eSeq (rVar 3)) (gSet 4) bYes X_syndromes_in_2 [4]) aNil)))))
def f_syndromes_in : Fn := fnRun 3 7 b_syndromes_in
/-@ require_field_words -/
def b_require_field_words : SemS :=
    (sIf (bNot (bTruth (rCall 1 f_is_field (aCons (rVar 0) aNil)))) sBot sNop)
def f_require_field_words : Fn := fnRun 1 1 b_require_field_words
/-@ require_word -/
def b_require_word : SemS :=
    (sSeq (sExpr (rCall 1 f_require_field_words (aCons (rVar 0) aNil)))
    (sSeq (sIf (bNot (bTruth (rCall 2 f_is_word_in (aCons (rVar 0) (aCons (rVar 1) aNil))))) sBot sNop)
    (sExpr (rCall 3 f_require_from (aCons (rVar 2) (aCons (rC (.int 0)) (aCons (rBin gMinus (rCB gLen (pCons (rVar 1) aNil)) (rC (.int 1))) aNil)))))))
def f_require_word : Fn := fnRun 3 3 b_require_word
/-@ syndromes -/
def b_syndromes : SemS :=
    (sSeq (sExpr (rCall 3 f_require_word (aCons (rVar 0) (aCons (rVar 1) (aCons (rVar 2) aNil)))))
    (sRet (rCall 3 f_syndromes_in (aCons (rVar 0) (aCons (rVar 1) (aCons (rVar 2) aNil))))))
def f_syndromes : Fn := fnRun 3 3 b_syndromes
/-@ _law_fd_columns -/
def X__law_fd_columns_1 : SemR :=
    (rCell (rCB gList (pCons (rVar 11) aNil)))
def Y__law_fd_columns_1 : SemB :=
    (bBool (rBin gNe (rIx (rVar 11) (rVar 5)) (rC (.int 0))))
def X__law_fd_columns_2 : SemR :=
    (rBin gMod (rBin gMul (rVar 12) (rVar 8)) (rVar 0))
def L__law_fd_columns_1 : SemS :=
    (sSetItem 11 (rVar 13) (rBin gMod (rBin gMinus (rIx (rVar 11) (rVar 13)) (rBin gMul (rVar 12) (rIx (rVar 9) (rVar 13)))) (rVar 0)))
def L__law_fd_columns_2 : SemS :=
    (sSeq (sSet 12 (rIx (rVar 11) (rVar 5)))
    (sFor (eRange1 (pCons (rLenC 11) aNil)) (gSet 13) L__law_fd_columns_1))
def L__law_fd_columns_3 : SemS :=
    (sForC (eSeqG (rVar 10)) (gSet 11) L__law_fd_columns_2)
def L__law_fd_columns_4 : SemS :=
    (sSeq (sSet 6 (rCompC (eEnumG (rVar 2)) (gTupS [13, 11]) Y__law_fd_columns_1 (rVar 13) [13, 11]))
    (sIf (bBool (rBin gNe (rVar 6) (rLst aNil))) (sSeq (sSetPop 7 2 (rIx (rVar 6) (rC (.int 0))))
    (sSeq (sSet 8 (rCall 2 f__law_fd_undone (aCons (rVar 0) (aCons (rIx (rVar 7) (rVar 5)) aNil))))
    (sSeq (sSet 9 (rCell (rCompC (eSeqG (rVar 7)) (gSet 12) bYes X__law_fd_columns_2 [12])))
    (sSeq (sFor (eSeq (rTup (aCons (rVar 2) (aCons (rVar 3) aNil)))) (gSet 10) L__law_fd_columns_3)
    (sSeq (sAppend 3 (rVar 9))
    (sAppend 4 (rVar 5))))))) sNop))
def b__law_fd_columns : SemS :=
    (sSeq (sPar3 2 3 4 (rCell (rComp (eSeq (rVar 1)) (gSet 11) bYes X__law_fd_columns_1 [11])) (rCell (rLst aNil)) (rCell (rLst aNil)))
    (sSeq (sFor (eRange1 (pCons (rIf (bBool (rBin gNe (rVar 1) (rLst aNil))) (rCB gLen (pCons (rIx (rVar 1) (rC (.int 0))) aNil)) (rC (.int 0))) aNil)) (gSet 5) L__law_fd_columns_4)
    (sRet (rTup (aCons (rVar 3) (aCons (rVar 4) aNil))))))
def f__law_fd_columns : Fn := fnRunC 2 14 b__law_fd_columns
/-@ _law_fd_solved -/
def X__law_fd_solved_1 : SemR :=
    (rBin gAdd (rCB gList (pCons (rVar 7) aNil)) (rLst (aCons (rVar 9) aNil)))
def L__law_fd_solved_1 : SemS :=
    (sSetItem 6 (rVar 8) (rIx (rVar 7) (rVar 3)))
def S__law_fd_solved_1 : SemS :=
    (sSet 3 (rCB gLen (pCons (rIx (rVar 1) (rC (.int 0))) aNil)))
def S__law_fd_solved_2 : SemS :=
    (sAsg (gTupS [4, 5]) (rCall 2 f__law_fd_columns (aCons (rVar 0) (aCons (rComp (eZipM (aCons (rVar 1) (aCons (rVar 2) aNil))) (gTupS [7, 9]) bYes X__law_fd_solved_1 [7, 9]) aNil))))
def S__law_fd_solved_3 : SemS :=
    (sIf (bBool (rBin gIn (rVar 3) (rVar 5))) (sRet (rC .non)) sNop)
def S__law_fd_solved_4 : SemS :=
    (sSet 6 (rBin gMul (rLst (aCons (rC (.int 0)) aNil)) (rVar 3)))
def S__law_fd_solved_5 : SemS :=
    (sFor (eZipM (aCons (rVar 4) (aCons (rVar 5) aNil))) (gTupS [7, 8]) L__law_fd_solved_1)
def S__law_fd_solved_6 : SemS :=
    (sRet (rCB gTuple (pCons (rVar 6) aNil)))
def b__law_fd_solved : SemS :=
    (sSeq S__law_fd_solved_1
    (sSeq S__law_fd_solved_2
    (sSeq S__law_fd_solved_3
    (sSeq S__law_fd_solved_4
    (sSeq S__law_fd_solved_5
    S__law_fd_solved_6)))))
def f__law_fd_solved : Fn := fnRun 3 10 b__law_fd_solved
/-@ _law_sizes -/
def b__law_sizes : SemS :=
    (sSeq (sSet 1 (rCall 2 f__law_pick (aCons (rVar 0) (aCons (rLst (aCons (rC (.int 5)) (aCons (rC (.int 7)) (aCons (rC (.int 11)) (aCons (rC (.int 13)) (aCons (rC (.int 17)) (aCons (rC (.int 97)) (aCons (rC (.int 499)) (aCons (rC (.int 997)) aNil))))))))) aNil))))
    (sRet (rTup (aCons (rVar 1) (aCons (rBin gAdd (rC (.int 1)) (rCall 2 f__law_roll (aCons (rVar 0) (aCons (rCB gMin (pCons (rC (.int 9)) (pCons (rBin gMinus (rVar 1) (rC (.int 1))) aNil))) aNil)))) aNil)))))
def f__law_sizes : Fn := fnRun 1 2 b__law_sizes
/-@ _law_poly_drawn -/
def X__law_poly_drawn_1 : SemR :=
    (rCall 2 f__law_roll (aCons (rVar 0) (aCons (rVar 1) aNil)))
def b__law_poly_drawn : SemS :=
    (sRet (rCall 1 f__law_fd_trim (aCons (rComp (eRange1 (pCons (rBin gAdd (rVar 2) (rC (.int 1))) aNil)) (gSet 3) bYes X__law_poly_drawn_1 [3]) aNil)))
def f__law_poly_drawn : Fn := fnRun 3 4 b__law_poly_drawn
/-@ _law_told -/
def X__law_told_1 : SemR :=
    (rCall 3 f__law_fd_value (aCons (rVar 0) (aCons (rVar 2) (aCons (rVar 3) aNil))))
def b__law_told : SemS :=
    (sRet (rCB gTuple (pCons (rComp (eRange2 (pCons (rC (.int 1)) (pCons (rBin gAdd (rVar 1) (rC (.int 1))) aNil))) (gSet 3) bYes X__law_told_1 [3]) aNil)))
def f__law_told : Fn := fnRun 3 4 b__law_told
/-@ _law_bent -/
def L__law_bent_1 : SemS :=
    (sSetItem 4 (rVar 5) (rBin gMod (rBin gAdd (rBin gAdd (rIx (rVar 4) (rVar 5)) (rC (.int 1))) (rCall 2 f__law_roll (aCons (rVar 0) (aCons (rBin gMinus (rVar 1) (rC (.int 1))) aNil)))) (rVar 1)))
def b__law_bent : SemS :=
    (sSeq (sSet 4 (rCB gList (pCons (rVar 2) aNil)))
    (sSeq (sFor (eSeq (rSlice (rCall 2 f__law_mixed (aCons (rVar 0) (aCons (rRg1 kL (rCB gLen (pCons (rVar 2) aNil))) aNil))) oNo (oSome (rVar 3)))) (gSet 5) L__law_bent_1)
    (sRet (rCB gTuple (pCons (rVar 4) aNil)))))
def f__law_bent : Fn := fnRun 4 6 b__law_bent
/-@ _law_powers -/
def L__law_powers_1 : SemS :=
    (sSeq (sAppend 3 (rVar 4))
    (sSet 4 (rBin gMod (rBin gMul (rVar 4) (rVar 1)) (rVar 0))))
def b__law_powers : SemS :=
    (sSeq (sPar2 3 4 (rLst aNil) (rC (.int 1)))
    (sSeq (sFor (eRange1 (pCons (rVar 2) aNil)) (gSet 5) L__law_powers_1)
    (sRet (rVar 3))))
def f__law_powers : Fn := fnRun 3 6 b__law_powers
/-@ _law_fitting -/
def Y__law_fitting_1 : SemB :=
    (bBool (rBin gNotIn (rVar 6) (rVar 3)))
def X__law_fitting_1 : SemR :=
    (rIx (rVar 1) (rBin gMinus (rVar 6) (rC (.int 1))))
def X__law_fitting_2 : SemR :=
    (rCall 3 f__law_powers (aCons (rVar 0) (aCons (rVar 6) (aCons (rBin gAdd (rVar 2) (rC (.int 1))) aNil))))
def b__law_fitting : SemS :=
    (sSeq (sSet 4 (rComp (eRange2 (pCons (rC (.int 1)) (pCons (rBin gAdd (rCB gLen (pCons (rVar 1) aNil)) (rC (.int 1))) aNil))) (gSet 6) Y__law_fitting_1 (rVar 6) [6]))
    (sSeq (sIf (bBool (rBin gEq (rVar 4) (rLst aNil))) (sRet (rTup aNil)) sNop)
    (sSeq (sFrz 4 (sSet 5 (rCall 3 f__law_fd_solved (aCons (rVar 0) (aCons (rComp (eSeq (rVar 4)) (gSet 6) bYes X__law_fitting_2 [6]) (aCons (rComp (eSeq (rVar 4)) (gSet 6) bYes X__law_fitting_1 [6]) aNil))))))
    (sRet (rIf (bBool (rBin gIsNot (rVar 5) (rC .non))) (rCall 1 f__law_fd_trim (aCons (rVar 5) aNil)) (rC .non))))))
def f__law_fitting : Fn := fnRun 4 7 b__law_fitting
/-@ _law_added -/
def X__law_added_1 : SemR :=
    (rBin gMod (rBin gAdd (rVar 4) (rBin gMul (rVar 2) (rVar 5))) (rVar 0))
def b__law_added : SemS :=
    (sRet (rCB gTuple (pCons (rComp (eZipM (aCons (rVar 1) (aCons (rVar 3) aNil))) (gTupS [4, 5]) bYes X__law_added_1 [4, 5]) aNil)))
def f__law_added : Fn := fnRun 4 6 b__law_added
/-@ -/
end
end Pg
/-! Pg: what the program's and the laws' common defs compute, printed once. -/
namespace Pg
open PySem PySem.Spec L2 Ev
noncomputable section

/-@ _law_syndromes -/
def L__law_syndromes_1 : SemS :=
    (sIf (bBool (rBin gNe (rVar 8) (rVar 6))) (sSet 7 (rBin gMod (rBin gMul (rVar 7) (rBin gMinus (rVar 6) (rVar 8))) (rVar 0))) sNop)
def L__law_syndromes_2 : SemS :=
    (sSeq (sSet 7 (rC (.int 1)))
    (sSeq (sFor (eRange2 (pCons (rC (.int 1)) (pCons (rBin gAdd (rCB gLen (pCons (rVar 1) aNil)) (rC (.int 1))) aNil))) (gSet 8) L__law_syndromes_1)
    (sSet 5 (rBin gAdd (rVar 5) (rBin gMul (rBin gMul (rIx (rVar 1) (rBin gMinus (rVar 6) (rC (.int 1)))) (rIx (rCall 3 f__law_powers (aCons (rVar 0) (aCons (rVar 6) (aCons (rBin gAdd (rVar 4) (rC (.int 1))) aNil)))) (rVar 4))) (rCall 2 f__law_fd_undone (aCons (rVar 0) (aCons (rVar 7) aNil))))))))
def L__law_syndromes_3 : SemS :=
    (sSeq (sSet 5 (rC (.int 0)))
    (sSeq (sFor (eRange2 (pCons (rC (.int 1)) (pCons (rBin gAdd (rCB gLen (pCons (rVar 1) aNil)) (rC (.int 1))) aNil))) (gSet 6) L__law_syndromes_2)
    (sAppend 3 (rBin gMod (rVar 5) (rVar 0)))))
def b__law_syndromes : SemS :=
    (sSeq (sSet 3 (rLst aNil))
    (sSeq (sFor (eRange1 (pCons (rBin gMinus (rBin gMinus (rCB gLen (pCons (rVar 1) aNil)) (rVar 2)) (rC (.int 1))) aNil)) (gSet 4) L__law_syndromes_3)
    (sRet (rCB gTuple (pCons (rVar 3) aNil)))))
def f__law_syndromes : Fn := fnRun 3 9 b__law_syndromes
/-@ -/
end
end Pg
namespace K13
open PySem PySem.Spec L2 Ev Pg

def top (i : Nat) : Stmt := PySem.Challenge.pw_evencoins_k13_whole_syndromes_of_errors.main.body.getD i (.Pass ⟨0, 0, 0, 0⟩)
abbrev s_is_integer : Stmt := top 10
abbrev s_is_within : Stmt := top 11
abbrev s_undone_in : Stmt := top 12
abbrev s_is_field : Stmt := top 16
abbrev s_require_field_field : Stmt := top 13
abbrev s_require_number : Stmt := top 15
abbrev s_is_number : Stmt := top 17
abbrev s_undone : Stmt := top 18
abbrev s_is_from : Stmt := top 21
abbrev s_are_numbers : Stmt := top 22
abbrev s_most_houses : Stmt := top 23
abbrev s_is_word_in : Stmt := top 24
abbrev s_product_of : Stmt := top 25
abbrev s_weights_at : Stmt := top 26
abbrev s_power_table : Stmt := top 27
abbrev s_syndromes_in : Stmt := top 28
abbrev s_require_field_words : Stmt := top 29
abbrev s_require_from : Stmt := top 31
abbrev s_require_word : Stmt := top 32
abbrev s_syndromes : Stmt := top 33
abbrev s__law_dice : Stmt := top 35
abbrev s__law_roll : Stmt := top 36
abbrev s__law_pick : Stmt := top 37
abbrev s__law_mixed : Stmt := top 38
abbrev s__law_fd_undone : Stmt := top 39
abbrev s__law_fd_trim : Stmt := top 40
abbrev s__law_fd_value : Stmt := top 41
abbrev s__law_fd_columns : Stmt := top 42
abbrev s__law_fd_solved : Stmt := top 43
abbrev s__law_sizes : Stmt := top 44
abbrev s__law_poly_drawn : Stmt := top 45
abbrev s__law_told : Stmt := top 46
abbrev s__law_bent : Stmt := top 47
abbrev s__law_powers : Stmt := top 49
abbrev s__law_fitting : Stmt := top 50
abbrev s__law_syndromes : Stmt := top 53
abbrev s__law_added : Stmt := top 54
abbrev s__law_right : Stmt := top 55
abbrev s_law : Stmt := top 56
noncomputable section
/-! ### what the defs compute -/
def X__law_right_1 : SemR :=
    (rCall 2 f__law_roll (aCons (rVar 0) (aCons (rVar 1) aNil)))
def X__law_right_2 : SemR :=
    (rCB gTuple (pCons (rComp (eRange1 (pCons (rVar 2) aNil)) (gSet 13) bYes X__law_right_1 [13]) aNil))
def Y__law_right_1 : SemB :=
    (bBool (rBin gNe (rVar 11) (rC (.int 0))))
def S__law_right_1 : SemS :=
    (sAsg (gTupS [1, 2]) (rCall 1 f__law_sizes (aCons (rVar 0) aNil)))
def S__law_right_2 : SemS :=
    (sPar2 3 4 (rCall 2 f__law_roll (aCons (rVar 0) (aCons (rVar 2) aNil))) (rCall 2 f__law_roll (aCons (rVar 0) (aCons (rVar 1) aNil))))
def S__law_right_3 : SemS :=
    (sAsg (gLstS [5, 6]) (rComp (eRange1 (pCons (rC (.int 2)) aNil)) (gSet 12) bYes X__law_right_2 [12]))
def S__law_right_4 : SemS :=
    (sPar2 7 8 (rCall 3 f_syndromes (aCons (rVar 1) (aCons (rVar 5) (aCons (rVar 3) aNil)))) (rCall 3 f_syndromes (aCons (rVar 1) (aCons (rVar 6) (aCons (rVar 3) aNil)))))
def S__law_right_5 : SemS :=
    (sIf (bOr (bBool (rBin gNe (rVar 7) (rCall 3 f__law_syndromes (aCons (rVar 1) (aCons (rVar 5) (aCons (rVar 3) aNil)))))) (bBool (rBin gNe (rCB gLen (pCons (rVar 8) aNil)) (rBin gMinus (rBin gMinus (rVar 2) (rVar 3)) (rC (.int 1)))))) (sRet (rC (.bl false))) sNop)
def S__law_right_6 : SemS :=
    (sIf (bBool (rBin gNe (rCall 3 f_syndromes (aCons (rVar 1) (aCons (rCall 4 f__law_added (aCons (rVar 1) (aCons (rVar 5) (aCons (rVar 4) (aCons (rVar 6) aNil))))) (aCons (rVar 3) aNil)))) (rCall 4 f__law_added (aCons (rVar 1) (aCons (rVar 7) (aCons (rVar 4) (aCons (rVar 8) aNil))))))) (sRet (rC (.bl false))) sNop)
def S__law_right_7 : SemS :=
    (sSet 9 (rCall 3 f__law_told (aCons (rVar 1) (aCons (rVar 2) (aCons (rCall 3 f__law_poly_drawn (aCons (rVar 0) (aCons (rVar 1) (aCons (rVar 3) aNil)))) aNil)))))
def S__law_right_8 : SemS :=
    (sIf (bBool (rBin gNe (rComp (eSeq (rCall 3 f_syndromes (aCons (rVar 1) (aCons (rVar 9) (aCons (rVar 3) aNil))))) (gSet 11) Y__law_right_1 (rVar 11) [11]) (rLst aNil))) (sRet (rC (.bl false))) sNop)
def S__law_right_9 : SemS :=
    (sSet 10 (rCall 4 f__law_bent (aCons (rVar 0) (aCons (rVar 1) (aCons (rBin gMul (rTup (aCons (rC (.int 0)) aNil)) (rVar 2)) (aCons (rCall 2 f__law_roll (aCons (rVar 0) (aCons (rBin gAdd (rVar 2) (rC (.int 1))) aNil))) aNil))))))
def S__law_right_10 : SemS :=
    (sSet 11 (rCall 3 f_syndromes (aCons (rVar 1) (aCons (rCall 4 f__law_added (aCons (rVar 1) (aCons (rVar 9) (aCons (rC (.int 1)) (aCons (rVar 10) aNil))))) (aCons (rVar 3) aNil)))))
def S__law_right_11 : SemS :=
    (sIf (bBool (rBin gNe (rVar 11) (rCall 3 f_syndromes (aCons (rVar 1) (aCons (rVar 10) (aCons (rVar 3) aNil)))))) (sRet (rC (.bl false))) sNop)
def S__law_right_12 : SemS :=
    (sRet (rBin gEq (rBin gEq (rCB gMaxT (pCons (rBin gAdd (rTup (aCons (rC (.int 0)) aNil)) (rVar 11)) aNil)) (rC (.int 0))) (rBin gIsNot (rCall 4 f__law_fitting (aCons (rVar 1) (aCons (rVar 10) (aCons (rVar 3) (aCons (rTup aNil) aNil))))) (rC .non))))
def b__law_right : SemS :=
    (sSeq S__law_right_1
    (sSeq S__law_right_2
    (sSeq S__law_right_3
    (sSeq S__law_right_4
    (sSeq S__law_right_5
    (sSeq S__law_right_6
    (sSeq S__law_right_7
    (sSeq S__law_right_8
    (sSeq S__law_right_9
    (sSeq S__law_right_10
    (sSeq S__law_right_11
    S__law_right_12)))))))))))
def f__law_right : Fn := fnRun 1 14 b__law_right
def L_law_1 : SemS :=
    (sSeq (sRef 2 (rCall 2 f__law_dice (aCons (rVar 0) (aCons (rVar 1) aNil))))
    (sIf (bOr (bNot (bTruth (rCall 1 f__law_right (aCons (rVar 2) aNil)))) (bNot (bTruth (rCall 1 f__law_right (aCons (rVar 2) aNil))))) (sRet (rC (.bl false))) sNop))
def S_law_1 : SemS :=
    (sFor (eRange1 (pCons (rCB gMax (pCons (rC (.int 1)) (pCons (rCB gMin (pCons (rC (.int 4)) (pCons (rCB gLen (pCons (rVar 0) aNil)) aNil))) aNil))) aNil)) (gSet 1) L_law_1)
def S_law_2 : SemS :=
    (sSet 3 (rLst (aCons (rCall 3 f_syndromes (aCons (rC (.int 7)) (aCons (rTup (aCons (rC (.int 3)) (aCons (rC (.int 5)) (aCons (rC (.int 0)) (aCons (rC (.int 2)) (aCons (rC (.int 4)) aNil)))))) (aCons (rC (.int 1)) aNil)))) (aCons (rCall 3 f_syndromes (aCons (rC (.int 7)) (aCons (rTup (aCons (rC (.int 0)) (aCons (rC (.int 1)) (aCons (rC (.int 0)) aNil)))) (aCons (rC (.int 0)) aNil)))) (aCons (rCall 3 f_syndromes (aCons (rC (.int 7)) (aCons (rTup (aCons (rC (.int 1)) (aCons (rC (.int 2)) (aCons (rC (.int 4)) aNil)))) (aCons (rC (.int 2)) aNil)))) (aCons (rCall 3 f_syndromes (aCons (rC (.int 5)) (aCons (rTup (aCons (rC (.int 3)) aNil)) (aCons (rC (.int 0)) aNil)))) aNil))))))
def S_law_3 : SemS :=
    (sRet (rAnd (rBin gEq (rVar 3) (rLst (aCons (rTup (aCons (rC (.int 0)) (aCons (rC (.int 0)) (aCons (rC (.int 0)) aNil)))) (aCons (rTup (aCons (rC (.int 6)) (aCons (rC (.int 5)) aNil))) (aCons (rTup aNil) (aCons (rTup aNil) aNil)))))) (rBin gEq (rCall 3 f_syndromes (aCons (rC (.int 7)) (aCons (rTup (aCons (rC (.int 0)) (aCons (rC (.int 1)) (aCons (rC (.int 0)) aNil)))) (aCons (rC (.int 1)) aNil)))) (rTup (aCons (rC (.int 6)) aNil)))))
def b_law : SemS :=
    (sSeq S_law_1
    (sSeq S_law_2
    S_law_3))
def f_law : Fn := fnRun 1 4 b_law
end
end K13
namespace K13
open PySem PySem.Spec L2 Ev Pg
/-! ### what the head says -/
structure Fx (mg : Str → Option Value) : Prop where
  z_abs : mg "abs" = none
  z_all : mg "all" = none
  z_bool : mg "bool" = none
  z_enumerate : mg "enumerate" = none
  z_int : mg "int" = none
  z_isinstance : mg "isinstance" = none
  z_len : mg "len" = none
  z_list : mg "list" = none
  z_max : mg "max" = none
  z_min : mg "min" = none
  z_range : mg "range" = none
  z_sum : mg "sum" = none
  z_tuple : mg "tuple" = none
  z_zip : mg "zip" = none
  c_LEAST_FIELD : ∃ t, mg "LEAST_FIELD" = some (.int 5 t)
  c_MAX_FIELD : ∃ t, mg "MAX_FIELD" = some (.int 997 t)
  c_MAX_HOUSES : ∃ t, mg "MAX_HOUSES" = some (.int 9 t)
  c_MOST_PART : ∃ t, mg "MOST_PART" = some (.int 32 t)
section
variable {P : Program} {w : World} {K : PySem.W.Frag} {mg : Str → Option Value} {base : Heap}
abbrev n_is_integer : List Str := ["value"]
theorem sc_is_integer : FnScope n_is_integer ["value"] (defScope s_is_integer) := ⟨rfl, rfl, rfl, by decide +kernel, rfl, by decide +kernel, by decide +kernel⟩
theorem k_is_integer (T : Fx mg) {a : Addr} {fd : FuncData} (F : FunD K "is_integer" "is_integer" (defArgs s_is_integer) (defBody s_is_integer) (defScope s_is_integer) [] [] a fd) {y : Str} (hm : mg y = some (.ref a)) : FnS P w K mg base 1 y ["value"] a fd f_is_integer :=
  FnS.ofD (N := n_is_integer) (n := 1) (m := 1) F sc_is_integer hm (F.bindsN fun _ _ _ _ _ _ us hl => match us, hl with | [_], _ => rfl) rfl rfl (by decide) fun cdv A outer s H E hr tk hp => ⟨_,
    (ss_one (ss_ret (se_and (se_isa .int (se_var 0) T.z_isinstance T.z_int) (se_one (se_not (se_isa .bool (se_var 0) T.z_isinstance T.z_bool))))))⟩
abbrev n_is_within : List Str := ["value", "least", "most"]
theorem sc_is_within : FnScope n_is_within ["value", "least", "most"] (defScope s_is_within) := ⟨rfl, rfl, rfl, by decide +kernel, rfl, by decide +kernel, by decide +kernel⟩
theorem k_is_within (T : Fx mg) {a : Addr} {fd : FuncData} (F : FunD K "is_within" "is_within" (defArgs s_is_within) (defBody s_is_within) (defScope s_is_within) [] [] a fd) {y : Str} (hm : mg y = some (.ref a)) {a_is_integer : Addr} {fd_is_integer : FuncData} (c_is_integer : FnS P w K mg base 1 "is_integer" ["value"] a_is_integer fd_is_integer f_is_integer) : FnS P w K mg base 2 y ["value", "least", "most"] a fd f_is_within :=
  FnS.ofD (N := n_is_within) (n := 3) (m := 3) F sc_is_within hm (F.bindsN fun _ _ _ _ _ _ us hl => match us, hl with | [_, _, _], _ => rfl) rfl rfl (by decide) fun cdv A outer s H E hr tk hp => ⟨_,
    (ss_one (ss_ret (se_and (se_call' c_is_integer tk (hr.mono (by decide)) (sa_cons (se_var 0) sa_nil)) (se_one (se_chain ops_le ops_le (se_var 1) (se_var 0) (se_var 2))))))⟩
abbrev n_undone_in : List Str := ["field", "number", "low", "high", "here", "there", "part"]
theorem sc_undone_in : FnScope n_undone_in ["field", "number"] (defScope s_undone_in) := ⟨rfl, rfl, rfl, by decide +kernel, rfl, by decide +kernel, by decide +kernel⟩
theorem k_undone_in (T : Fx mg) {a : Addr} {fd : FuncData} (F : FunD K "undone_in" "undone_in" (defArgs s_undone_in) (defBody s_undone_in) (defScope s_undone_in) [] [] a fd) {y : Str} (hm : mg y = some (.ref a)) : FnS P w K mg base 1 y ["field", "number"] a fd f_undone_in :=
  FnS.ofD (N := n_undone_in) (n := 2) (m := 7) F sc_undone_in hm (F.bindsN fun _ _ _ _ _ _ us hl => match us, hl with | [_, _], _ => rfl) rfl rfl (by decide) fun cdv A outer s H E hr tk hp => ⟨_,
    (ss_cons (ss_asg (se_tup (sa_cons se_int (sa_cons se_int (sa_cons (se_var 0) (sa_cons (se_var 1) sa_nil))))) (sg_tup rfl (sgs_cons 2 sc_undone_in.nd (sgs_cons 3 sc_undone_in.nd (sgs_cons 4 sc_undone_in.nd (sgs_cons 5 sc_undone_in.nd sgs_nil))))))
    (ss_cons (ss_while hp (st_cmp (ops_ne hr.units) (se_var 5) se_int) (ss_cons (ss_set 6 sc_undone_in.nd (se_bin ops_div (se_var 4) (se_var 5)))
    (ss_cons (ss_par2 4 5 rfl sc_undone_in.nd (se_var 5) (se_bin ops_sub (se_var 4) (se_bin ops_mul (se_var 6) (se_var 5))))
    (ss_one (ss_par2 2 3 rfl sc_undone_in.nd (se_var 3) (se_bin ops_sub (se_var 2) (se_bin ops_mul (se_var 6) (se_var 3))))))))
    (ss_one (ss_ret (se_bin ops_mod (se_var 2) (se_var 0))))))⟩
abbrev n_is_field : List Str := ["value", "part"]
theorem sc_is_field : FnScope n_is_field ["value"] (defScope s_is_field) := ⟨rfl, rfl, rfl, by decide +kernel, rfl, by decide +kernel, by decide +kernel⟩
theorem k_is_field (T : Fx mg) {a : Addr} {fd : FuncData} (F : FunD K "is_field" "is_field" (defArgs s_is_field) (defBody s_is_field) (defScope s_is_field) [] [] a fd) {y : Str} (hm : mg y = some (.ref a)) {a_is_within : Addr} {fd_is_within : FuncData} (c_is_within : FnS P w K mg base 2 "is_within" ["value", "least", "most"] a_is_within fd_is_within f_is_within) : FnS P w K mg base 3 y ["value"] a fd f_is_field :=
  FnS.ofD (N := n_is_field) (n := 1) (m := 2) F sc_is_field hm (F.bindsN fun _ _ _ _ _ _ us hl => match us, hl with | [_], _ => rfl) rfl rfl (by decide) fun cdv A outer s H E hr tk hp => ⟨_,
    (ss_cons (ss_if (st_not (st_truth (se_call' c_is_within tk (hr.mono (by decide)) (sa_cons (se_var 0) (sa_cons (se_globI T.c_LEAST_FIELD) (sa_cons (se_globI T.c_MAX_FIELD) sa_nil)))))) (ss_one (ss_ret se_bl)) ss_nil)
    (ss_one (ss_ret (se_callB (calls_all rfl) T.z_all (sp_cons (se_lc' (own := [("part", 1)]) rfl sc_is_field.nd (si_range2 T.z_range (sp_cons se_int (sp_cons (se_callB (calls_min rfl) T.z_min (sp_cons (se_var 0) (sp_cons (se_globI T.c_MOST_PART) sp_nil))) sp_nil))) (blkOk_by (N := n_is_field) (sc := defScope s_is_field) (by decide +kernel)) (fun _ _ _ _ _ => (sg_name 1 sc_is_field.nd)) spt_nil (fun _ _ _ _ _ => spt_nil) (se_cmp (ops_ne hr.units) (se_bin ops_mod (se_var 0) (se_var 1)) se_int) (fun _ _ _ _ _ => (se_cmp (ops_ne hr.units) (se_bin ops_mod (se_var 0) (se_var 1)) se_int))) sp_nil)))))⟩
abbrev n_require_field_field : List Str := ["value"]
theorem sc_require_field_field : FnScope n_require_field_field ["value"] (defScope s_require_field_field) := ⟨rfl, rfl, rfl, by decide +kernel, rfl, by decide +kernel, by decide +kernel⟩
theorem k_require_field_field (T : Fx mg) {a : Addr} {fd : FuncData} (F : FunD K "require_field" "require_field" (defArgs s_require_field_field) (defBody s_require_field_field) (defScope s_require_field_field) [] [] a fd) {y : Str} (hm : mg y = some (.ref a)) {a_is_field : Addr} {fd_is_field : FuncData} (c_is_field : FnS P w K mg base 3 "is_field" ["value"] a_is_field fd_is_field f_is_field) : FnS P w K mg base 4 y ["value"] a fd f_require_field :=
  FnS.ofD (N := n_require_field_field) (n := 1) (m := 1) F sc_require_field_field hm (F.bindsN fun _ _ _ _ _ _ us hl => match us, hl with | [_], _ => rfl) rfl rfl (by decide) fun cdv A outer s H E hr tk hp => ⟨_,
    (ss_one (ss_if (st_not (st_truth (se_call' c_is_field tk (hr.mono (by decide)) (sa_cons (se_var 0) sa_nil)))) (ss_one ss_never) ss_nil))⟩
abbrev n_require_number : List Str := ["field", "value"]
theorem sc_require_number : FnScope n_require_number ["field", "value"] (defScope s_require_number) := ⟨rfl, rfl, rfl, by decide +kernel, rfl, by decide +kernel, by decide +kernel⟩
theorem k_require_number (T : Fx mg) {a : Addr} {fd : FuncData} (F : FunD K "require_number" "require_number" (defArgs s_require_number) (defBody s_require_number) (defScope s_require_number) [] [] a fd) {y : Str} (hm : mg y = some (.ref a)) {a_is_within : Addr} {fd_is_within : FuncData} (c_is_within : FnS P w K mg base 2 "is_within" ["value", "least", "most"] a_is_within fd_is_within f_is_within) : FnS P w K mg base 3 y ["field", "value"] a fd f_require_number :=
  FnS.ofD (N := n_require_number) (n := 2) (m := 2) F sc_require_number hm (F.bindsN fun _ _ _ _ _ _ us hl => match us, hl with | [_, _], _ => rfl) rfl rfl (by decide) fun cdv A outer s H E hr tk hp => ⟨_,
    (ss_one (ss_if (st_not (st_truth (se_call' c_is_within tk (hr.mono (by decide)) (sa_cons (se_var 1) (sa_cons se_int (sa_cons (se_bin ops_sub (se_var 0) se_int) sa_nil)))))) (ss_one ss_never) ss_nil))⟩
abbrev n_is_number : List Str := ["field", "value"]
theorem sc_is_number : FnScope n_is_number ["field", "value"] (defScope s_is_number) := ⟨rfl, rfl, rfl, by decide +kernel, rfl, by decide +kernel, by decide +kernel⟩
theorem k_is_number (T : Fx mg) {a : Addr} {fd : FuncData} (F : FunD K "is_number" "is_number" (defArgs s_is_number) (defBody s_is_number) (defScope s_is_number) [] [] a fd) {y : Str} (hm : mg y = some (.ref a)) {a_require_field_field : Addr} {fd_require_field_field : FuncData} (c_require_field_field : FnS P w K mg base 4 "require_field_field" ["value"] a_require_field_field fd_require_field_field f_require_field) {a_is_within : Addr} {fd_is_within : FuncData} (c_is_within : FnS P w K mg base 2 "is_within" ["value", "least", "most"] a_is_within fd_is_within f_is_within) : FnS P w K mg base 5 y ["field", "value"] a fd f_is_number :=
  FnS.ofD (N := n_is_number) (n := 2) (m := 2) F sc_is_number hm (F.bindsN fun _ _ _ _ _ _ us hl => match us, hl with | [_, _], _ => rfl) rfl rfl (by decide) fun cdv A outer s H E hr tk hp => ⟨_,
    (ss_cons (ss_expr (se_call' c_require_field_field tk (hr.mono (by decide)) (sa_cons (se_var 0) sa_nil)))
    (ss_one (ss_ret (se_call' c_is_within tk (hr.mono (by decide)) (sa_cons (se_var 1) (sa_cons se_int (sa_cons (se_bin ops_sub (se_var 0) se_int) sa_nil)))))))⟩
abbrev n_undone : List Str := ["field", "number"]
theorem sc_undone : FnScope n_undone ["field", "number"] (defScope s_undone) := ⟨rfl, rfl, rfl, by decide +kernel, rfl, by decide +kernel, by decide +kernel⟩
theorem k_undone (T : Fx mg) {a : Addr} {fd : FuncData} (F : FunD K "undone" "undone" (defArgs s_undone) (defBody s_undone) (defScope s_undone) [] [] a fd) {y : Str} (hm : mg y = some (.ref a)) {a_require_field_field : Addr} {fd_require_field_field : FuncData} (c_require_field_field : FnS P w K mg base 4 "require_field_field" ["value"] a_require_field_field fd_require_field_field f_require_field) {a_require_number : Addr} {fd_require_number : FuncData} (c_require_number : FnS P w K mg base 3 "require_number" ["field", "value"] a_require_number fd_require_number f_require_number) {a_undone_in : Addr} {fd_undone_in : FuncData} (c_undone_in : FnS P w K mg base 1 "undone_in" ["field", "number"] a_undone_in fd_undone_in f_undone_in) : FnS P w K mg base 5 y ["field", "number"] a fd f_undone :=
  FnS.ofD (N := n_undone) (n := 2) (m := 2) F sc_undone hm (F.bindsN fun _ _ _ _ _ _ us hl => match us, hl with | [_, _], _ => rfl) rfl rfl (by decide) fun cdv A outer s H E hr tk hp => ⟨_,
    (ss_cons (ss_expr (se_call' c_require_field_field tk (hr.mono (by decide)) (sa_cons (se_var 0) sa_nil)))
    (ss_cons (ss_expr (se_call' c_require_number tk (hr.mono (by decide)) (sa_cons (se_var 0) (sa_cons (se_var 1) sa_nil))))
    (ss_cons (ss_if (st_cmp (ops_eq hr.units) (se_var 1) se_int) (ss_one ss_never) ss_nil)
    (ss_one (ss_ret (se_call' c_undone_in tk (hr.mono (by decide)) (sa_cons (se_var 0) (sa_cons (se_var 1) sa_nil))))))))⟩
abbrev n_is_from : List Str := ["value", "least", "most"]
theorem sc_is_from : FnScope n_is_from ["value", "least", "most"] (defScope s_is_from) := ⟨rfl, rfl, rfl, by decide +kernel, rfl, by decide +kernel, by decide +kernel⟩
theorem k_is_from (T : Fx mg) {a : Addr} {fd : FuncData} (F : FunD K "is_from" "is_from" (defArgs s_is_from) (defBody s_is_from) (defScope s_is_from) [] [] a fd) {y : Str} (hm : mg y = some (.ref a)) : FnS P w K mg base 1 y ["value", "least", "most"] a fd f_is_from :=
  FnS.ofD (N := n_is_from) (n := 3) (m := 3) F sc_is_from hm (F.bindsN fun _ _ _ _ _ _ us hl => match us, hl with | [_, _, _], _ => rfl) rfl rfl (by decide) fun cdv A outer s H E hr tk hp => ⟨_,
    (ss_one (ss_ret (se_and (se_isa .int (se_var 0) T.z_isinstance T.z_int) (se_and (se_not (se_isa .bool (se_var 0) T.z_isinstance T.z_bool)) (se_one (se_chain ops_le ops_le (se_var 1) (se_var 0) (se_var 2)))))))⟩
abbrev n_are_numbers : List Str := ["field", "value", "many", "one"]
theorem sc_are_numbers : FnScope n_are_numbers ["field", "value", "many"] (defScope s_are_numbers) := ⟨rfl, rfl, rfl, by decide +kernel, rfl, by decide +kernel, by decide +kernel⟩
theorem k_are_numbers (T : Fx mg) {a : Addr} {fd : FuncData} (F : FunD K "are_numbers" "are_numbers" (defArgs s_are_numbers) (defBody s_are_numbers) (defScope s_are_numbers) [] [] a fd) {y : Str} (hm : mg y = some (.ref a)) {a_is_number : Addr} {fd_is_number : FuncData} (c_is_number : FnS P w K mg base 5 "is_number" ["field", "value"] a_is_number fd_is_number f_is_number) : FnS P w K mg base 6 y ["field", "value", "many"] a fd f_are_numbers_v2 :=
  FnS.ofD (N := n_are_numbers) (n := 3) (m := 4) F sc_are_numbers hm (F.bindsN fun _ _ _ _ _ _ us hl => match us, hl with | [_, _, _], _ => rfl) rfl rfl (by decide) fun cdv A outer s H E hr tk hp => ⟨_,
    (ss_one (ss_ret (se_and (se_isa .tuple (se_var 1) T.z_isinstance T.z_tuple) (se_and (se_cmp (ops_eq hr.units) (se_callB calls_len T.z_len (sp_cons (se_var 1) sp_nil)) (se_var 2)) (se_one (se_callB (calls_all rfl) T.z_all (sp_cons (se_lc' (own := [("one", 3)]) rfl sc_are_numbers.nd (si_seq (se_var 1)) (blkOk_by (N := n_are_numbers) (sc := defScope s_are_numbers) (by decide +kernel)) (fun _ _ _ _ _ => (sg_name 3 sc_are_numbers.nd)) spt_nil (fun _ _ _ _ _ => spt_nil) (se_call' c_is_number tkNo (hr.mono (by decide)) (sa_cons (se_var 0) (sa_cons (se_var 3) sa_nil))) (fun _ _ _ _ _ => (se_call' c_is_number tkNo (hr.mono (by decide)) (sa_cons (se_var 0) (sa_cons (se_var 3) sa_nil))))) sp_nil)))))))⟩
abbrev n_most_houses : List Str := ["field"]
theorem sc_most_houses : FnScope n_most_houses ["field"] (defScope s_most_houses) := ⟨rfl, rfl, rfl, by decide +kernel, rfl, by decide +kernel, by decide +kernel⟩
theorem k_most_houses (T : Fx mg) {a : Addr} {fd : FuncData} (F : FunD K "most_houses" "most_houses" (defArgs s_most_houses) (defBody s_most_houses) (defScope s_most_houses) [] [] a fd) {y : Str} (hm : mg y = some (.ref a)) : FnS P w K mg base 1 y ["field"] a fd f_most_houses :=
  FnS.ofD (N := n_most_houses) (n := 1) (m := 1) F sc_most_houses hm (F.bindsN fun _ _ _ _ _ _ us hl => match us, hl with | [_], _ => rfl) rfl rfl (by decide) fun cdv A outer s H E hr tk hp => ⟨_,
    (ss_one (ss_ret (se_callB (calls_min rfl) T.z_min (sp_cons (se_globI T.c_MAX_HOUSES) (sp_cons (se_bin ops_sub (se_var 0) se_int) sp_nil)))))⟩
abbrev n_is_word_in : List Str := ["field", "value"]
theorem sc_is_word_in : FnScope n_is_word_in ["field", "value"] (defScope s_is_word_in) := ⟨rfl, rfl, rfl, by decide +kernel, rfl, by decide +kernel, by decide +kernel⟩
theorem k_is_word_in (T : Fx mg) {a : Addr} {fd : FuncData} (F : FunD K "is_word_in" "is_word_in" (defArgs s_is_word_in) (defBody s_is_word_in) (defScope s_is_word_in) [] [] a fd) {y : Str} (hm : mg y = some (.ref a)) {a_most_houses : Addr} {fd_most_houses : FuncData} (c_most_houses : FnS P w K mg base 1 "most_houses" ["field"] a_most_houses fd_most_houses f_most_houses) {a_are_numbers : Addr} {fd_are_numbers : FuncData} (c_are_numbers : FnS P w K mg base 6 "are_numbers" ["field", "value", "many"] a_are_numbers fd_are_numbers f_are_numbers_v2) : FnS P w K mg base 7 y ["field", "value"] a fd f_is_word_in :=
  FnS.ofD (N := n_is_word_in) (n := 2) (m := 2) F sc_is_word_in hm (F.bindsN fun _ _ _ _ _ _ us hl => match us, hl with | [_, _], _ => rfl) rfl rfl (by decide) fun cdv A outer s H E hr tk hp => ⟨_,
    (ss_cons (ss_if (STw.st (sw_or (st_not (st_truth (se_isa .tuple (se_var 1) T.z_isinstance T.z_tuple))) (sw_or1 (st_not (st_chain ops_le ops_le se_int (se_callB calls_len T.z_len (sp_cons (se_var 1) sp_nil)) (se_call' c_most_houses tk (hr.mono (by decide)) (sa_cons (se_var 0) sa_nil))))))) (ss_one (ss_ret se_bl)) ss_nil)
    (ss_one (ss_ret (se_call' c_are_numbers tk (hr.mono (by decide)) (sa_cons (se_var 0) (sa_cons (se_var 1) (sa_cons (se_callB calls_len T.z_len (sp_cons (se_var 1) sp_nil)) sa_nil)))))))⟩
abbrev n_product_of : List Str := ["field", "numbers", "found", "number"]
theorem sc_product_of : FnScope n_product_of ["field", "numbers"] (defScope s_product_of) := ⟨rfl, rfl, rfl, by decide +kernel, rfl, by decide +kernel, by decide +kernel⟩
theorem k_product_of (T : Fx mg) {a : Addr} {fd : FuncData} (F : FunD K "product_of" "product_of" (defArgs s_product_of) (defBody s_product_of) (defScope s_product_of) [] [] a fd) {y : Str} (hm : mg y = some (.ref a)) : FnS P w K mg base 1 y ["field", "numbers"] a fd f_product_of :=
  FnS.ofD (N := n_product_of) (n := 2) (m := 4) F sc_product_of hm (F.bindsN fun _ _ _ _ _ _ us hl => match us, hl with | [_, _], _ => rfl) rfl rfl (by decide) fun cdv A outer s H E hr tk hp => ⟨_,
    (ss_cons (ss_set 2 sc_product_of.nd se_int)
    (ss_cons (ss_for hp rfl (si_seq (se_var 1)) (sg_name 3 sc_product_of.nd) (ss_one (ss_set 2 sc_product_of.nd (se_bin ops_mod (se_bin ops_mul (se_var 2) (se_var 3)) (se_var 0)))))
    (ss_one (ss_ret (se_var 2)))))⟩
abbrev n_weights_at : List Str := ["field", "places", "one", "other"]
theorem sc_weights_at : FnScope n_weights_at ["field", "places"] (defScope s_weights_at) := ⟨rfl, rfl, rfl, by decide +kernel, rfl, by decide +kernel, by decide +kernel⟩
theorem k_weights_at (T : Fx mg) {a : Addr} {fd : FuncData} (F : FunD K "weights_at" "weights_at" (defArgs s_weights_at) (defBody s_weights_at) (defScope s_weights_at) [] [] a fd) {y : Str} (hm : mg y = some (.ref a)) {a_undone : Addr} {fd_undone : FuncData} (c_undone : FnS P w K mg base 5 "undone" ["field", "number"] a_undone fd_undone f_undone) {a_product_of : Addr} {fd_product_of : FuncData} (c_product_of : FnS P w K mg base 1 "product_of" ["field", "numbers"] a_product_of fd_product_of f_product_of) : FnS P w K mg base 6 y ["field", "places"] a fd f_weights_at :=
  FnS.ofD (N := n_weights_at) (n := 2) (m := 4) F sc_weights_at hm (F.bindsN fun _ _ _ _ _ _ us hl => match us, hl with | [_, _], _ => rfl) rfl rfl (by decide) fun cdv A outer s H E hr tk hp => ⟨_,
    (ss_one (ss_ret (se_lc' (own := [("one", 2)]) rfl sc_weights_at.nd (si_seq (se_var 1)) (blkOk_by (N := n_weights_at) (sc := defScope s_weights_at) (by decide +kernel)) (fun _ _ _ _ _ => (sg_name 2 sc_weights_at.nd)) spt_nil (fun _ _ _ _ _ => spt_nil) (se_call' c_undone tkNo (hr.mono (by decide)) (sa_cons (se_var 0) (sa_cons (se_call' c_product_of tkNo (hr.mono (by decide)) (sa_cons (se_var 0) (sa_cons (se_lc' (own := [("other", 3)]) rfl sc_weights_at.nd (si_seq (se_var 1)) (by show BlkOk n_weights_at (relS _ (defScope s_weights_at)) _ _; exact blkOk_by (by decide +kernel)) (fun _ _ _ _ _ => (sg_name 3 sc_weights_at.nd)) (spt_one (st_cmp (ops_ne hr.units) (se_var 3) (se_var 2))) (fun _ _ _ _ _ => (spt_one (st_cmp (ops_ne hr.units) (se_var 3) (se_var 2)))) (se_bin ops_sub (se_var 2) (se_var 3)) (fun _ _ _ _ _ => (se_bin ops_sub (se_var 2) (se_var 3)))) sa_nil))) sa_nil))) (fun _ _ _ _ _ => (se_call' c_undone tkNo (hr.mono (by decide)) (sa_cons (se_var 0) (sa_cons (se_call' c_product_of tkNo (hr.mono (by decide)) (sa_cons (se_var 0) (sa_cons (se_lc' (own := [("other", 3)]) rfl sc_weights_at.nd (si_seq (se_var 1)) (by show BlkOk n_weights_at (relS _ (defScope s_weights_at)) _ _; exact blkOk_by (by decide +kernel)) (fun _ _ _ _ _ => (sg_name 3 sc_weights_at.nd)) (spt_one (st_cmp (ops_ne hr.units) (se_var 3) (se_var 2))) (fun _ _ _ _ _ => (spt_one (st_cmp (ops_ne hr.units) (se_var 3) (se_var 2)))) (se_bin ops_sub (se_var 2) (se_var 3)) (fun _ _ _ _ _ => (se_bin ops_sub (se_var 2) (se_var 3)))) sa_nil))) sa_nil)))))))⟩
abbrev n_power_table : List Str := ["field", "places", "degree", "many", "rows", "here", "turn", "place", "number"]
theorem sc_power_table : FnScope n_power_table ["field", "places", "degree", "many"] (defScope s_power_table) := ⟨rfl, rfl, rfl, by decide +kernel, rfl, by decide +kernel, by decide +kernel⟩
theorem k_power_table (T : Fx mg) {a : Addr} {fd : FuncData} (F : FunD K "power_table" "power_table" (defArgs s_power_table) (defBody s_power_table) (defScope s_power_table) [] [] a fd) {y : Str} (hm : mg y = some (.ref a)) {a_weights_at : Addr} {fd_weights_at : FuncData} (c_weights_at : FnS P w K mg base 6 "weights_at" ["field", "places"] a_weights_at fd_weights_at f_weights_at) : FnS P w K mg base 7 y ["field", "places", "degree", "many"] a fd f_power_table :=
  FnS.ofD (N := n_power_table) (n := 4) (m := 9) F sc_power_table hm (F.bindsN fun _ _ _ _ _ _ us hl => match us, hl with | [_, _, _, _], _ => rfl) rfl rfl (by decide) fun cdv A outer s H E hr tk hp => ⟨_,
    (ss_cons (ss_par2 4 5 rfl sc_power_table.nd (se_lst sa_nil) (se_lc' (own := [("place", 7)]) rfl sc_power_table.nd (si_seq (se_var 1)) (blkOk_by (N := n_power_table) (sc := defScope s_power_table) (by decide +kernel)) (fun _ _ _ _ _ => (sg_name 7 sc_power_table.nd)) spt_nil (fun _ _ _ _ _ => spt_nil) (se_ix (se_call' c_weights_at tkNo (hr.mono (by decide)) (sa_cons (se_var 0) (sa_cons (se_rg2L rfl T.z_list T.z_range se_int (se_bin ops_add (se_var 3) se_int)) sa_nil))) (se_bin ops_sub (se_var 7) se_int)) (fun _ _ _ _ _ => (se_ix (se_call' c_weights_at tkNo (hr.mono (by decide)) (sa_cons (se_var 0) (sa_cons (se_rg2L rfl T.z_list T.z_range se_int (se_bin ops_add (se_var 3) se_int)) sa_nil))) (se_bin ops_sub (se_var 7) se_int)))))
    (ss_cons (ss_for hp rfl (si_range1 T.z_range (sp_cons (se_bin ops_sub (se_bin ops_sub (se_var 3) (se_var 2)) se_int) sp_nil)) (sg_name 6 sc_power_table.nd) (ss_cons (ss_append 4 (se_callTy calls_tuple T.z_tuple (sp_cons (se_var 5) sp_nil)))
    (ss_one (ss_frz 5 (ss_setC' 5 (own := [("number", 8), ("place", 7)]) rfl sc_power_table.nd (si_zipM T.z_zip (sa_cons (se_var 5) (sa_cons (se_var 1) sa_nil))) (blkOk_by (N := n_power_table) (sc := defScope s_power_table) (by decide +kernel)) (fun _ _ _ _ _ => (sg_tupK (K := K) rfl rfl (sgs_cons 8 sc_power_table.nd (sgs_cons 7 sc_power_table.nd sgs_nil)))) spt_nil (fun _ _ _ _ _ => spt_nil) (se_bin ops_mod (se_bin ops_mul (se_var 8) (se_var 7)) (se_var 0)) (fun _ _ _ _ _ => (se_bin ops_mod (se_bin ops_mul (se_var 8) (se_var 7)) (se_var 0))))))))
    (ss_one (ss_ret (se_var 4)))))⟩
abbrev n_syndromes_in : List Str := ["field", "word", "degree", "rows", "row", "left", "right"]
theorem sc_syndromes_in : FnScope n_syndromes_in ["field", "word", "degree"] (defScope s_syndromes_in) := ⟨rfl, rfl, rfl, by decide +kernel, rfl, by decide +kernel, by decide +kernel⟩
theorem k_syndromes_in (T : Fx mg) {a : Addr} {fd : FuncData} (F : FunD K "syndromes_in" "syndromes_in" (defArgs s_syndromes_in) (defBody s_syndromes_in) (defScope s_syndromes_in) [] [] a fd) {y : Str} (hm : mg y = some (.ref a)) {a_power_table : Addr} {fd_power_table : FuncData} (c_power_table : FnS P w K mg base 7 "power_table" ["field", "places", "degree", "many"] a_power_table fd_power_table f_power_table) : FnS P w K mg base 8 y ["field", "word", "degree"] a fd f_syndromes_in :=
  FnS.ofD (N := n_syndromes_in) (n := 3) (m := 7) F sc_syndromes_in hm (F.bindsN fun _ _ _ _ _ _ us hl => match us, hl with | [_, _, _], _ => rfl) rfl rfl (by decide) fun cdv A outer s H E hr tk hp => ⟨_,
    (ss_cons (ss_set 3 sc_syndromes_in.nd (se_call' c_power_table tk (hr.mono (by decide)) (sa_cons (se_var 0) (sa_cons (se_rg2L rfl T.z_list T.z_range se_int (se_bin ops_add (se_callB calls_len T.z_len (sp_cons (se_var 1) sp_nil)) se_int)) (sa_cons (se_var 2) (sa_cons (se_callB calls_len T.z_len (sp_cons (se_var 1) sp_nil)) sa_nil))))))
    (ss_one (ss_frz 3 (ss_ret (se_callTy calls_tuple T.z_tuple (sp_cons (se_lc' (own := [("row", 4)]) rfl sc_syndromes_in.nd (si_seq (se_var 3)) (blkOk_by (N := n_syndromes_in) (sc := defScope s_syndromes_in) (by decide +kernel)) (fun _ _ _ _ _ => (sg_name 4 sc_syndromes_in.nd)) spt_nil (fun _ _ _ _ _ => spt_nil) (se_bin ops_mod (se_callB (calls_sum rfl) T.z_sum (sp_cons (se_lc' (own := [("left", 5), ("right", 6)]) rfl sc_syndromes_in.nd (si_zipM T.z_zip (sa_cons (se_var 4) (sa_cons (se_var 1) sa_nil))) (by show BlkOk n_syndromes_in (relS _ (defScope s_syndromes_in)) _ _; exact blkOk_by (by decide +kernel)) (fun _ _ _ _ _ => (sg_tupK (K := K) rfl rfl (sgs_cons 5 sc_syndromes_in.nd (sgs_cons 6 sc_syndromes_in.nd sgs_nil)))) spt_nil (fun _ _ _ _ _ => spt_nil) (se_bin ops_mul (se_var 5) (se_var 6)) (fun _ _ _ _ _ => (se_bin ops_mul (se_var 5) (se_var 6)))) sp_nil)) (se_var 0)) (fun _ _ _ _ _ => (se_bin ops_mod (se_callB (calls_sum rfl) T.z_sum (sp_cons (se_lc' (own := [("left", 5), ("right", 6)]) rfl sc_syndromes_in.nd (si_zipM T.z_zip (sa_cons (se_var 4) (sa_cons (se_var 1) sa_nil))) (by show BlkOk n_syndromes_in (relS _ (defScope s_syndromes_in)) _ _; exact blkOk_by (by decide +kernel)) (fun _ _ _ _ _ => (sg_tupK (K := K) rfl rfl (sgs_cons 5 sc_syndromes_in.nd (sgs_cons 6 sc_syndromes_in.nd sgs_nil)))) spt_nil (fun _ _ _ _ _ => spt_nil) (se_bin ops_mul (se_var 5) (se_var 6)) (fun _ _ _ _ _ => (se_bin ops_mul (se_var 5) (se_var 6)))) sp_nil)) (se_var 0)))) sp_nil))))))⟩
abbrev n_require_field_words : List Str := ["field"]
theorem sc_require_field_words : FnScope n_require_field_words ["field"] (defScope s_require_field_words) := ⟨rfl, rfl, rfl, by decide +kernel, rfl, by decide +kernel, by decide +kernel⟩
theorem k_require_field_words (T : Fx mg) {a : Addr} {fd : FuncData} (F : FunD K "require_field" "require_field" (defArgs s_require_field_words) (defBody s_require_field_words) (defScope s_require_field_words) [] [] a fd) {y : Str} (hm : mg y = some (.ref a)) {a_is_field : Addr} {fd_is_field : FuncData} (c_is_field : FnS P w K mg base 3 "is_field" ["value"] a_is_field fd_is_field f_is_field) : FnS P w K mg base 4 y ["field"] a fd f_require_field_words :=
  FnS.ofD (N := n_require_field_words) (n := 1) (m := 1) F sc_require_field_words hm (F.bindsN fun _ _ _ _ _ _ us hl => match us, hl with | [_], _ => rfl) rfl rfl (by decide) fun cdv A outer s H E hr tk hp => ⟨_,
    (ss_one (ss_if (st_not (st_truth (se_call' c_is_field tk (hr.mono (by decide)) (sa_cons (se_var 0) sa_nil)))) (ss_one ss_never) ss_nil))⟩
abbrev n_require_from : List Str := ["value", "least", "most"]
theorem sc_require_from : FnScope n_require_from ["value", "least", "most"] (defScope s_require_from) := ⟨rfl, rfl, rfl, by decide +kernel, rfl, by decide +kernel, by decide +kernel⟩
theorem k_require_from (T : Fx mg) {a : Addr} {fd : FuncData} (F : FunD K "require_from" "require_from" (defArgs s_require_from) (defBody s_require_from) (defScope s_require_from) [] [] a fd) {y : Str} (hm : mg y = some (.ref a)) {a_is_from : Addr} {fd_is_from : FuncData} (c_is_from : FnS P w K mg base 1 "is_from" ["value", "least", "most"] a_is_from fd_is_from f_is_from) : FnS P w K mg base 2 y ["value", "least", "most"] a fd f_require_from :=
  FnS.ofD (N := n_require_from) (n := 3) (m := 3) F sc_require_from hm (F.bindsN fun _ _ _ _ _ _ us hl => match us, hl with | [_, _, _], _ => rfl) rfl rfl (by decide) fun cdv A outer s H E hr tk hp => ⟨_,
    (ss_one (ss_if (st_not (st_truth (se_call' c_is_from tk (hr.mono (by decide)) (sa_cons (se_var 0) (sa_cons (se_var 1) (sa_cons (se_var 2) sa_nil)))))) (ss_one ss_never) ss_nil))⟩
abbrev n_require_word : List Str := ["field", "word", "degree"]
theorem sc_require_word : FnScope n_require_word ["field", "word", "degree"] (defScope s_require_word) := ⟨rfl, rfl, rfl, by decide +kernel, rfl, by decide +kernel, by decide +kernel⟩
theorem k_require_word (T : Fx mg) {a : Addr} {fd : FuncData} (F : FunD K "require_word" "require_word" (defArgs s_require_word) (defBody s_require_word) (defScope s_require_word) [] [] a fd) {y : Str} (hm : mg y = some (.ref a)) {a_require_field_words : Addr} {fd_require_field_words : FuncData} (c_require_field_words : FnS P w K mg base 4 "require_field_words" ["field"] a_require_field_words fd_require_field_words f_require_field_words) {a_is_word_in : Addr} {fd_is_word_in : FuncData} (c_is_word_in : FnS P w K mg base 7 "is_word_in" ["field", "value"] a_is_word_in fd_is_word_in f_is_word_in) {a_require_from : Addr} {fd_require_from : FuncData} (c_require_from : FnS P w K mg base 2 "require_from" ["value", "least", "most"] a_require_from fd_require_from f_require_from) : FnS P w K mg base 8 y ["field", "word", "degree"] a fd f_require_word :=
  FnS.ofD (N := n_require_word) (n := 3) (m := 3) F sc_require_word hm (F.bindsN fun _ _ _ _ _ _ us hl => match us, hl with | [_, _, _], _ => rfl) rfl rfl (by decide) fun cdv A outer s H E hr tk hp => ⟨_,
    (ss_cons (ss_expr (se_call' c_require_field_words tk (hr.mono (by decide)) (sa_cons (se_var 0) sa_nil)))
    (ss_cons (ss_if (st_not (st_truth (se_call' c_is_word_in tk (hr.mono (by decide)) (sa_cons (se_var 0) (sa_cons (se_var 1) sa_nil))))) (ss_one ss_never) ss_nil)
    (ss_one (ss_expr (se_call' c_require_from tk (hr.mono (by decide)) (sa_cons (se_var 2) (sa_cons se_int (sa_cons (se_bin ops_sub (se_callB calls_len T.z_len (sp_cons (se_var 1) sp_nil)) se_int) sa_nil))))))))⟩
abbrev n_syndromes : List Str := ["field", "word", "degree"]
theorem sc_syndromes : FnScope n_syndromes ["field", "word", "degree"] (defScope s_syndromes) := ⟨rfl, rfl, rfl, by decide +kernel, rfl, by decide +kernel, by decide +kernel⟩
theorem k_syndromes (T : Fx mg) {a : Addr} {fd : FuncData} (F : FunD K "syndromes" "syndromes" (defArgs s_syndromes) (defBody s_syndromes) (defScope s_syndromes) [] [] a fd) {y : Str} (hm : mg y = some (.ref a)) {a_require_word : Addr} {fd_require_word : FuncData} (c_require_word : FnS P w K mg base 8 "require_word" ["field", "word", "degree"] a_require_word fd_require_word f_require_word) {a_syndromes_in : Addr} {fd_syndromes_in : FuncData} (c_syndromes_in : FnS P w K mg base 8 "syndromes_in" ["field", "word", "degree"] a_syndromes_in fd_syndromes_in f_syndromes_in) : FnS P w K mg base 9 y ["field", "word", "degree"] a fd f_syndromes :=
  FnS.ofD (N := n_syndromes) (n := 3) (m := 3) F sc_syndromes hm (F.bindsN fun _ _ _ _ _ _ us hl => match us, hl with | [_, _, _], _ => rfl) rfl rfl (by decide) fun cdv A outer s H E hr tk hp => ⟨_,
    (ss_cons (ss_expr (se_call' c_require_word tk (hr.mono (by decide)) (sa_cons (se_var 0) (sa_cons (se_var 1) (sa_cons (se_var 2) sa_nil)))))
    (ss_one (ss_ret (se_call' c_syndromes_in tk (hr.mono (by decide)) (sa_cons (se_var 0) (sa_cons (se_var 1) (sa_cons (se_var 2) sa_nil)))))))⟩
abbrev n__law_dice : List Str := ["_law_script", "_law_spot", "_law_cell", "_law_left"]
theorem sc__law_dice : FnScope n__law_dice ["_law_script", "_law_spot"] (defScope s__law_dice) := ⟨rfl, rfl, rfl, by decide +kernel, rfl, by decide +kernel, by decide +kernel⟩
theorem k__law_dice (T : Fx mg) {a : Addr} {fd : FuncData} (F : FunD K "_law_dice" "_law_dice" (defArgs s__law_dice) (defBody s__law_dice) (defScope s__law_dice) [] [] a fd) {y : Str} (hm : mg y = some (.ref a)) : FnS P w K mg base 1 y ["_law_script", "_law_spot"] a fd f__law_dice :=
  FnS.ofD (N := n__law_dice) (n := 2) (m := 4) F sc__law_dice hm (F.bindsN fun _ _ _ _ _ _ us hl => match us, hl with | [_, _], _ => rfl) rfl rfl (by decide) fun cdv A outer s H E hr tk hp => ⟨_,
    (ss_cons (ss_set 2 sc__law_dice.nd (se_if (st_cmp ops_lt (se_var 1) (se_callB calls_len T.z_len (sp_cons (se_var 0) sp_nil))) (se_callTy calls_int T.z_int (sp_cons (se_ix (se_var 0) (se_var 1)) sp_nil)) (se_bin ops_add (se_bin ops_mul se_int (se_var 1)) se_int)))
    (ss_cons (ss_set 3 sc__law_dice.nd (se_bin ops_mod (se_callB (calls_max rfl) T.z_max (sp_cons se_int (sp_cons (se_bin ops_sub (se_callB calls_abs T.z_abs (sp_cons (se_var 2) sp_nil)) (se_bin ops_pow se_int se_int)) sp_nil))) (se_bin ops_mul (se_bin ops_pow se_int se_int) (se_bin ops_pow se_int se_int))))
    (ss_one (ss_ret (se_lst (sa_cons (se_var 3) (sa_cons (se_bin ops_add (se_bin ops_add (se_bin ops_add (se_bin ops_mul (se_bin ops_mod (se_callB calls_abs T.z_abs (sp_cons (se_var 2) sp_nil)) se_int) se_int) (se_bin ops_mul se_int (se_var 1))) (se_bin ops_mul se_int (se_callTy calls_int T.z_int (sp_cons (se_cmp ops_lt (se_var 2) se_int) sp_nil)))) se_int) (sa_cons se_int sa_nil))))))))⟩
abbrev n__law_roll : List Str := ["_law_dice_here", "_law_most", "_law_found", "_law_one", "_law_two"]
theorem sc__law_roll : FnScope n__law_roll ["_law_dice_here", "_law_most"] (defScope s__law_roll) := ⟨rfl, rfl, rfl, by decide +kernel, rfl, by decide +kernel, by decide +kernel⟩
theorem k__law_roll (T : Fx mg) {a : Addr} {fd : FuncData} (F : FunD K "_law_roll" "_law_roll" (defArgs s__law_roll) (defBody s__law_roll) (defScope s__law_roll) [] [] a fd) {y : Str} (hm : mg y = some (.ref a)) : FnS P w K mg base 1 y ["_law_dice_here", "_law_most"] a fd f__law_roll :=
  FnS.ofD (N := n__law_roll) (n := 2) (m := 5) F sc__law_roll hm (F.bindsN fun _ _ _ _ _ _ us hl => match us, hl with | [_, _], _ => rfl) rfl rfl (by decide) fun cdv A outer s H E hr tk hp => ⟨_,
    (ss_cons (ss_if (st_cmp ops_gt (se_ix (se_var 0) se_int) se_int) (ss_cons (ss_set 2 sc__law_roll.nd (se_bin ops_mod (se_callTy calls_int T.z_int (sp_cons (se_ix (se_var 0) se_int) sp_nil)) (se_var 1)))
    (ss_cons (ss_setitem 0 (se_bin ops_div (se_ix (se_var 0) se_int) (se_var 1)) se_int)
    (ss_one (ss_ret (se_var 2))))) ss_nil)
    (ss_cons (ss_setitem 0 (se_bin ops_add (se_ix (se_var 0) se_int) se_int) se_int)
    (ss_cons (ss_set 3 sc__law_roll.nd (se_bin ops_mod (se_callTy calls_int T.z_int (sp_cons (se_bin ops_add (se_ix (se_var 0) se_int) (se_bin ops_mul se_int (se_ix (se_var 0) se_int))) sp_nil)) se_int))
    (ss_cons (ss_set 4 sc__law_roll.nd (se_bin ops_add (se_bin ops_mul (se_bin ops_mod (se_callTy calls_int T.z_int (sp_cons (se_bin ops_add (se_bin ops_mul (se_var 3) (se_var 3)) (se_bin ops_mul se_int (se_ix (se_var 0) se_int))) sp_nil)) se_int) se_int) (se_var 3)))
    (ss_one (ss_ret (se_bin ops_mod (se_callTy calls_int T.z_int (sp_cons (se_bin ops_div (se_var 4) se_int) sp_nil)) (se_var 1))))))))⟩
abbrev n__law_pick : List Str := ["_law_dice_here", "_law_items"]
theorem sc__law_pick : FnScope n__law_pick ["_law_dice_here", "_law_items"] (defScope s__law_pick) := ⟨rfl, rfl, rfl, by decide +kernel, rfl, by decide +kernel, by decide +kernel⟩
theorem k__law_pick (T : Fx mg) {a : Addr} {fd : FuncData} (F : FunD K "_law_pick" "_law_pick" (defArgs s__law_pick) (defBody s__law_pick) (defScope s__law_pick) [] [] a fd) {y : Str} (hm : mg y = some (.ref a)) {a__law_roll : Addr} {fd__law_roll : FuncData} (c__law_roll : FnS P w K mg base 1 "_law_roll" ["_law_dice_here", "_law_most"] a__law_roll fd__law_roll f__law_roll) : FnS P w K mg base 2 y ["_law_dice_here", "_law_items"] a fd f__law_pick :=
  FnS.ofD (N := n__law_pick) (n := 2) (m := 2) F sc__law_pick hm (F.bindsN fun _ _ _ _ _ _ us hl => match us, hl with | [_, _], _ => rfl) rfl rfl (by decide) fun cdv A outer s H E hr tk hp => ⟨_,
    (ss_one (ss_ret (se_ix (se_var 1) (se_call' c__law_roll tk (hr.mono (by decide)) (sa_cons (se_var 0) (sa_cons (se_callB calls_len T.z_len (sp_cons (se_var 1) sp_nil)) sa_nil))))))⟩
abbrev n__law_mixed : List Str := ["_law_dice_here", "_law_items", "_law_left", "_law_found"]
theorem sc__law_mixed : FnScope n__law_mixed ["_law_dice_here", "_law_items"] (defScope s__law_mixed) := ⟨rfl, rfl, rfl, by decide +kernel, rfl, by decide +kernel, by decide +kernel⟩
theorem k__law_mixed (T : Fx mg) {a : Addr} {fd : FuncData} (F : FunD K "_law_mixed" "_law_mixed" (defArgs s__law_mixed) (defBody s__law_mixed) (defScope s__law_mixed) [] [] a fd) {y : Str} (hm : mg y = some (.ref a)) {a__law_roll : Addr} {fd__law_roll : FuncData} (c__law_roll : FnS P w K mg base 1 "_law_roll" ["_law_dice_here", "_law_most"] a__law_roll fd__law_roll f__law_roll) : FnS P w K mg base 2 y ["_law_dice_here", "_law_items"] a fd f__law_mixed :=
  FnS.ofD (N := n__law_mixed) (n := 2) (m := 4) F sc__law_mixed hm (F.bindsN fun _ _ _ _ _ _ us hl => match us, hl with | [_, _], _ => rfl) rfl rfl (by decide) fun cdv A outer s H E hr tk hp => ⟨_,
    (ss_cons (ss_par2 2 3 rfl sc__law_mixed.nd (se_callTy calls_list T.z_list (sp_cons (se_var 1) sp_nil)) (se_lst sa_nil))
    (ss_cons (ss_while hp (st_cmp (ops_ne hr.units) (se_var 2) (se_lst sa_nil)) (ss_one (ss_apppop 3 2 (se_call' c__law_roll tk (hr.mono (by decide)) (sa_cons (se_var 0) (sa_cons (se_callB calls_len T.z_len (sp_cons (se_var 2) sp_nil)) sa_nil))))))
    (ss_one (ss_ret (se_var 3)))))⟩
abbrev n__law_fd_undone : List Str := ["_law_field_here", "_law_number", "_law_one"]
theorem sc__law_fd_undone : FnScope n__law_fd_undone ["_law_field_here", "_law_number"] (defScope s__law_fd_undone) := ⟨rfl, rfl, rfl, by decide +kernel, rfl, by decide +kernel, by decide +kernel⟩
theorem k__law_fd_undone (T : Fx mg) {a : Addr} {fd : FuncData} (F : FunD K "_law_fd_undone" "_law_fd_undone" (defArgs s__law_fd_undone) (defBody s__law_fd_undone) (defScope s__law_fd_undone) [] [] a fd) {y : Str} (hm : mg y = some (.ref a)) : FnS P w K mg base 1 y ["_law_field_here", "_law_number"] a fd f__law_fd_undone :=
  FnS.ofD (N := n__law_fd_undone) (n := 2) (m := 3) F sc__law_fd_undone hm (F.bindsN fun _ _ _ _ _ _ us hl => match us, hl with | [_, _], _ => rfl) rfl rfl (by decide) fun cdv A outer s H E hr tk hp => ⟨_,
    (ss_cons (ss_for hp rfl (si_range2 T.z_range (sp_cons se_int (sp_cons (se_var 0) sp_nil))) (sg_name 2 sc__law_fd_undone.nd) (ss_one (ss_if (st_cmp (ops_eq hr.units) (se_bin ops_mod (se_bin ops_mul (se_var 2) (se_var 1)) (se_var 0)) se_int) (ss_one (ss_ret (se_var 2))) ss_nil)))
    (ss_one (ss_ret se_non)))⟩
abbrev n__law_fd_trim : List Str := ["_law_numbers", "_law_found", "_law_turn"]
theorem sc__law_fd_trim : FnScope n__law_fd_trim ["_law_numbers"] (defScope s__law_fd_trim) := ⟨rfl, rfl, rfl, by decide +kernel, rfl, by decide +kernel, by decide +kernel⟩
theorem k__law_fd_trim (T : Fx mg) {a : Addr} {fd : FuncData} (F : FunD K "_law_fd_trim" "_law_fd_trim" (defArgs s__law_fd_trim) (defBody s__law_fd_trim) (defScope s__law_fd_trim) [] [] a fd) {y : Str} (hm : mg y = some (.ref a)) : FnS P w K mg base 1 y ["_law_numbers"] a fd f__law_fd_trim :=
  FnS.ofD (N := n__law_fd_trim) (n := 1) (m := 3) F sc__law_fd_trim hm (F.bindsN fun _ _ _ _ _ _ us hl => match us, hl with | [_], _ => rfl) rfl rfl (by decide) fun cdv A outer s H E hr tk hp => ⟨_,
    (ss_cons (ss_set 1 sc__law_fd_trim.nd (se_callTy calls_list T.z_list (sp_cons (se_var 0) sp_nil)))
    (ss_cons (ss_for hp rfl (si_range1 T.z_range (sp_cons (se_callB calls_len T.z_len (sp_cons (se_var 1) sp_nil)) sp_nil)) (sg_name 2 sc__law_fd_trim.nd) (ss_one (ss_if (st_cmp (ops_eq hr.units) (se_ix (se_var 1) (se_neg se_int)) se_int) (ss_one (ss_pop 1)) ss_nil)))
    (ss_one (ss_ret (se_callTy calls_tuple T.z_tuple (sp_cons (se_var 1) sp_nil))))))⟩
abbrev n__law_fd_value : List Str := ["_law_field_here", "_law_poly", "_law_place", "_law_found", "_law_here", "_law_number"]
theorem sc__law_fd_value : FnScope n__law_fd_value ["_law_field_here", "_law_poly", "_law_place"] (defScope s__law_fd_value) := ⟨rfl, rfl, rfl, by decide +kernel, rfl, by decide +kernel, by decide +kernel⟩
theorem k__law_fd_value (T : Fx mg) {a : Addr} {fd : FuncData} (F : FunD K "_law_fd_value" "_law_fd_value" (defArgs s__law_fd_value) (defBody s__law_fd_value) (defScope s__law_fd_value) [] [] a fd) {y : Str} (hm : mg y = some (.ref a)) : FnS P w K mg base 1 y ["_law_field_here", "_law_poly", "_law_place"] a fd f__law_fd_value :=
  FnS.ofD (N := n__law_fd_value) (n := 3) (m := 6) F sc__law_fd_value hm (F.bindsN fun _ _ _ _ _ _ us hl => match us, hl with | [_, _, _], _ => rfl) rfl rfl (by decide) fun cdv A outer s H E hr tk hp => ⟨_,
    (ss_cons (ss_asg (se_tup (sa_cons se_int (sa_cons se_int sa_nil))) (sg_tup rfl (sgs_cons 3 sc__law_fd_value.nd (sgs_cons 4 sc__law_fd_value.nd sgs_nil))))
    (ss_cons (ss_for hp rfl (si_seq (se_var 1)) (sg_name 5 sc__law_fd_value.nd) (ss_one (ss_par2 3 4 rfl sc__law_fd_value.nd (se_bin ops_mod (se_bin ops_add (se_var 3) (se_bin ops_mul (se_var 5) (se_var 4))) (se_var 0)) (se_bin ops_mod (se_bin ops_mul (se_var 4) (se_var 2)) (se_var 0)))))
    (ss_one (ss_ret (se_var 3)))))⟩
abbrev n__law_fd_columns : List Str := ["_law_field_here", "_law_rows", "_law_left", "_law_found", "_law_tops", "_law_column", "_law_some", "_law_first", "_law_back", "_law_head", "_law_crew", "_law_row", "_law_number", "_law_at"]
theorem sc__law_fd_columns : FnScope n__law_fd_columns ["_law_field_here", "_law_rows"] (defScope s__law_fd_columns) := ⟨rfl, rfl, rfl, by decide +kernel, rfl, by decide +kernel, by decide +kernel⟩
theorem k__law_fd_columns (T : Fx mg) {a : Addr} {fd : FuncData} (F : FunD K "_law_fd_columns" "_law_fd_columns" (defArgs s__law_fd_columns) (defBody s__law_fd_columns) (defScope s__law_fd_columns) [] [] a fd) {y : Str} (hm : mg y = some (.ref a)) {a__law_fd_undone : Addr} {fd__law_fd_undone : FuncData} (c__law_fd_undone : FnS P w K mg base 1 "_law_fd_undone" ["_law_field_here", "_law_number"] a__law_fd_undone fd__law_fd_undone f__law_fd_undone) : FnS P w K mg base 2 y ["_law_field_here", "_law_rows"] a fd f__law_fd_columns :=
  FnS.ofDC (N := n__law_fd_columns) (n := 2) (m := 14) F sc__law_fd_columns hm (F.bindsN fun _ _ _ _ _ _ us hl => match us, hl with | [_, _], _ => rfl) rfl rfl (by decide) fun cdv A outer s H E hr tk hp => ⟨_,
    (ss_cons (ss_par3 2 3 4 rfl sc__law_fd_columns.nd (se_cell (se_lc' (own := [("_law_row", 11)]) rfl sc__law_fd_columns.nd (si_seq (se_var 1)) (blkOk_by (N := n__law_fd_columns) (sc := defScope s__law_fd_columns) (by decide +kernel)) (fun _ _ _ _ _ => (sg_name 11 sc__law_fd_columns.nd)) spt_nil (fun _ _ _ _ _ => spt_nil) (se_cell (se_callTy calls_list T.z_list (sp_cons (se_var 11) sp_nil))) (fun _ _ _ _ _ => (se_cell (se_callTy calls_list T.z_list (sp_cons (se_var 11) sp_nil)))))) (se_cell (se_lst sa_nil)) (se_cell (se_lst sa_nil)))
    (ss_cons (ss_for hp rfl (si_range1 T.z_range (sp_cons (se_if (st_cmp (ops_ne hr.units) (se_var 1) (se_lst sa_nil)) (se_callB calls_len T.z_len (sp_cons (se_ix (se_var 1) se_int) sp_nil)) se_int) sp_nil)) (sg_name 5 sc__law_fd_columns.nd) (ss_cons (ss_setCC' 6 (own := [("_law_at", 13), ("_law_row", 11)]) rfl sc__law_fd_columns.nd (si_enumC T.z_enumerate (se_var 2)) (blkOk_by (N := n__law_fd_columns) (sc := defScope s__law_fd_columns) (by decide +kernel)) (fun _ _ _ _ _ => (sg_tupK (K := K) rfl rfl (sgs_cons 13 sc__law_fd_columns.nd (sgs_cons 11 sc__law_fd_columns.nd sgs_nil)))) (spt_one (st_cmp (ops_ne hr.units) (se_ix (se_var 11) (se_var 5)) se_int)) (fun _ _ _ _ _ => (spt_one (st_cmp (ops_ne hr.units) (se_ix (se_var 11) (se_var 5)) se_int))) (se_var 13) (fun _ _ _ _ _ => (se_var 13)))
    (ss_one (ss_if (st_cmp (ops_ne hr.units) (se_var 6) (se_lst sa_nil)) (ss_cons (ss_setpop 7 2 sc__law_fd_columns.nd (se_ix (se_var 6) se_int))
    (ss_cons (ss_set 8 sc__law_fd_columns.nd (se_call' c__law_fd_undone tk (hr.mono (by decide)) (sa_cons (se_var 0) (sa_cons (se_ix (se_var 7) (se_var 5)) sa_nil))))
    (ss_cons (ss_setCellC' 9 (own := [("_law_number", 12)]) rfl sc__law_fd_columns.nd (si_cell (se_var 7)) (blkOk_by (N := n__law_fd_columns) (sc := defScope s__law_fd_columns) (by decide +kernel)) (fun _ _ _ _ _ => (sg_name 12 sc__law_fd_columns.nd)) spt_nil (fun _ _ _ _ _ => spt_nil) (se_bin ops_mod (se_bin ops_mul (se_var 12) (se_var 8)) (se_var 0)) (fun _ _ _ _ _ => (se_bin ops_mod (se_bin ops_mul (se_var 12) (se_var 8)) (se_var 0))))
    (ss_cons (ss_for hp rfl (si_seq (se_tup (sa_cons (se_var 2) (sa_cons (se_var 3) sa_nil)))) (sg_name 10 sc__law_fd_columns.nd) (ss_one (ss_forC hp rfl (si_cell (se_var 10)) (sg_name 11 sc__law_fd_columns.nd) (ss_cons (ss_set 12 sc__law_fd_columns.nd (se_ix (se_var 11) (se_var 5)))
    (ss_one (ss_for hp rfl (si_range1 T.z_range (sp_cons (se_lenC 11 T.z_len) sp_nil)) (sg_name 13 sc__law_fd_columns.nd) (ss_one (ss_setitem 11 (se_bin ops_mod (se_bin ops_sub (se_ix (se_var 11) (se_var 13)) (se_bin ops_mul (se_var 12) (se_ix (se_var 9) (se_var 13)))) (se_var 0)) (se_var 13)))))))))
    (ss_cons (ss_append 3 (se_var 9))
    (ss_one (ss_append 4 (se_var 5)))))))) ss_nil))))
    (ss_one (ss_ret (se_tup (sa_cons (se_var 3) (sa_cons (se_var 4) sa_nil)))))))⟩
abbrev n__law_fd_solved : List Str := ["_law_field_here", "_law_rows", "_law_goal", "_law_size", "_law_found", "_law_tops", "_law_told_here", "_law_row", "_law_top", "_law_number"]
theorem sc__law_fd_solved : FnScope n__law_fd_solved ["_law_field_here", "_law_rows", "_law_goal"] (defScope s__law_fd_solved) := ⟨rfl, rfl, rfl, by decide +kernel, rfl, by decide +kernel, by decide +kernel⟩
theorem k__law_fd_solved (T : Fx mg) {a : Addr} {fd : FuncData} (F : FunD K "_law_fd_solved" "_law_fd_solved" (defArgs s__law_fd_solved) (defBody s__law_fd_solved) (defScope s__law_fd_solved) [] [] a fd) {y : Str} (hm : mg y = some (.ref a)) {a__law_fd_columns : Addr} {fd__law_fd_columns : FuncData} (c__law_fd_columns : FnS P w K mg base 2 "_law_fd_columns" ["_law_field_here", "_law_rows"] a__law_fd_columns fd__law_fd_columns f__law_fd_columns) : FnS P w K mg base 3 y ["_law_field_here", "_law_rows", "_law_goal"] a fd f__law_fd_solved :=
  FnS.ofD (N := n__law_fd_solved) (n := 3) (m := 10) F sc__law_fd_solved hm (F.bindsN fun _ _ _ _ _ _ us hl => match us, hl with | [_, _, _], _ => rfl) rfl rfl (by decide) fun cdv A outer s H E hr tk hp => ⟨_,
    (ss_cons (ss_set 3 sc__law_fd_solved.nd (se_callB calls_len T.z_len (sp_cons (se_ix (se_var 1) se_int) sp_nil)))
    (ss_cons (ss_asg (se_call' c__law_fd_columns tk (hr.mono (by decide)) (sa_cons (se_var 0) (sa_cons (se_lc' (own := [("_law_row", 7), ("_law_number", 9)]) rfl sc__law_fd_solved.nd (si_zipM T.z_zip (sa_cons (se_var 1) (sa_cons (se_var 2) sa_nil))) (blkOk_by (N := n__law_fd_solved) (sc := defScope s__law_fd_solved) (by decide +kernel)) (fun _ _ _ _ _ => (sg_tupK (K := K) rfl rfl (sgs_cons 7 sc__law_fd_solved.nd (sgs_cons 9 sc__law_fd_solved.nd sgs_nil)))) spt_nil (fun _ _ _ _ _ => spt_nil) (se_bin ops_add (se_callTy calls_list T.z_list (sp_cons (se_var 7) sp_nil)) (se_lst (sa_cons (se_var 9) sa_nil))) (fun _ _ _ _ _ => (se_bin ops_add (se_callTy calls_list T.z_list (sp_cons (se_var 7) sp_nil)) (se_lst (sa_cons (se_var 9) sa_nil))))) sa_nil))) (sg_tup rfl (sgs_cons 4 sc__law_fd_solved.nd (sgs_cons 5 sc__law_fd_solved.nd sgs_nil))))
    (ss_cons (ss_if (st_cmp (ops_in hr.units) (se_var 3) (se_var 5)) (ss_one (ss_ret se_non)) ss_nil)
    (ss_cons (ss_set 6 sc__law_fd_solved.nd (se_bin ops_mul (se_lst (sa_cons se_int sa_nil)) (se_var 3)))
    (ss_cons (ss_for hp rfl (si_zipM T.z_zip (sa_cons (se_var 4) (sa_cons (se_var 5) sa_nil))) (sg_tup rfl (sgs_cons 7 sc__law_fd_solved.nd (sgs_cons 8 sc__law_fd_solved.nd sgs_nil))) (ss_one (ss_setitem 6 (se_ix (se_var 7) (se_var 3)) (se_var 8))))
    (ss_one (ss_ret (se_callTy calls_tuple T.z_tuple (sp_cons (se_var 6) sp_nil)))))))))⟩
abbrev n__law_sizes : List Str := ["_law_dice_here", "_law_field_here"]
theorem sc__law_sizes : FnScope n__law_sizes ["_law_dice_here"] (defScope s__law_sizes) := ⟨rfl, rfl, rfl, by decide +kernel, rfl, by decide +kernel, by decide +kernel⟩
theorem k__law_sizes (T : Fx mg) {a : Addr} {fd : FuncData} (F : FunD K "_law_sizes" "_law_sizes" (defArgs s__law_sizes) (defBody s__law_sizes) (defScope s__law_sizes) [] [] a fd) {y : Str} (hm : mg y = some (.ref a)) {a__law_pick : Addr} {fd__law_pick : FuncData} (c__law_pick : FnS P w K mg base 2 "_law_pick" ["_law_dice_here", "_law_items"] a__law_pick fd__law_pick f__law_pick) {a__law_roll : Addr} {fd__law_roll : FuncData} (c__law_roll : FnS P w K mg base 1 "_law_roll" ["_law_dice_here", "_law_most"] a__law_roll fd__law_roll f__law_roll) : FnS P w K mg base 3 y ["_law_dice_here"] a fd f__law_sizes :=
  FnS.ofD (N := n__law_sizes) (n := 1) (m := 2) F sc__law_sizes hm (F.bindsN fun _ _ _ _ _ _ us hl => match us, hl with | [_], _ => rfl) rfl rfl (by decide) fun cdv A outer s H E hr tk hp => ⟨_,
    (ss_cons (ss_set 1 sc__law_sizes.nd (se_call' c__law_pick tk (hr.mono (by decide)) (sa_cons (se_var 0) (sa_cons (se_lst (sa_cons se_int (sa_cons se_int (sa_cons se_int (sa_cons se_int (sa_cons se_int (sa_cons se_int (sa_cons se_int (sa_cons se_int sa_nil))))))))) sa_nil))))
    (ss_one (ss_ret (se_tup (sa_cons (se_var 1) (sa_cons (se_bin ops_add se_int (se_call' c__law_roll tk (hr.mono (by decide)) (sa_cons (se_var 0) (sa_cons (se_callB (calls_min rfl) T.z_min (sp_cons se_int (sp_cons (se_bin ops_sub (se_var 1) se_int) sp_nil))) sa_nil)))) sa_nil))))))⟩
abbrev n__law_poly_drawn : List Str := ["_law_dice_here", "_law_field_here", "_law_degree", "_law_turn"]
theorem sc__law_poly_drawn : FnScope n__law_poly_drawn ["_law_dice_here", "_law_field_here", "_law_degree"] (defScope s__law_poly_drawn) := ⟨rfl, rfl, rfl, by decide +kernel, rfl, by decide +kernel, by decide +kernel⟩
theorem k__law_poly_drawn (T : Fx mg) {a : Addr} {fd : FuncData} (F : FunD K "_law_poly_drawn" "_law_poly_drawn" (defArgs s__law_poly_drawn) (defBody s__law_poly_drawn) (defScope s__law_poly_drawn) [] [] a fd) {y : Str} (hm : mg y = some (.ref a)) {a__law_fd_trim : Addr} {fd__law_fd_trim : FuncData} (c__law_fd_trim : FnS P w K mg base 1 "_law_fd_trim" ["_law_numbers"] a__law_fd_trim fd__law_fd_trim f__law_fd_trim) {a__law_roll : Addr} {fd__law_roll : FuncData} (c__law_roll : FnS P w K mg base 1 "_law_roll" ["_law_dice_here", "_law_most"] a__law_roll fd__law_roll f__law_roll) : FnS P w K mg base 2 y ["_law_dice_here", "_law_field_here", "_law_degree"] a fd f__law_poly_drawn :=
  FnS.ofD (N := n__law_poly_drawn) (n := 3) (m := 4) F sc__law_poly_drawn hm (F.bindsN fun _ _ _ _ _ _ us hl => match us, hl with | [_, _, _], _ => rfl) rfl rfl (by decide) fun cdv A outer s H E hr tk hp => ⟨_,
    (ss_one (ss_ret (se_call' c__law_fd_trim tk (hr.mono (by decide)) (sa_cons (se_lc' (own := [("_law_turn", 3)]) rfl sc__law_poly_drawn.nd (si_range1 T.z_range (sp_cons (se_bin ops_add (se_var 2) se_int) sp_nil)) (blkOk_by (N := n__law_poly_drawn) (sc := defScope s__law_poly_drawn) (by decide +kernel)) (fun _ _ _ _ _ => (sg_name 3 sc__law_poly_drawn.nd)) spt_nil (fun _ _ _ _ _ => spt_nil) (se_call' c__law_roll tkNo (hr.mono (by decide)) (sa_cons (se_var 0) (sa_cons (se_var 1) sa_nil))) (fun _ _ _ _ _ => (se_call' c__law_roll tkNo (hr.mono (by decide)) (sa_cons (se_var 0) (sa_cons (se_var 1) sa_nil))))) sa_nil))))⟩
abbrev n__law_told : List Str := ["_law_field_here", "_law_houses", "_law_poly", "_law_place"]
theorem sc__law_told : FnScope n__law_told ["_law_field_here", "_law_houses", "_law_poly"] (defScope s__law_told) := ⟨rfl, rfl, rfl, by decide +kernel, rfl, by decide +kernel, by decide +kernel⟩
theorem k__law_told (T : Fx mg) {a : Addr} {fd : FuncData} (F : FunD K "_law_told" "_law_told" (defArgs s__law_told) (defBody s__law_told) (defScope s__law_told) [] [] a fd) {y : Str} (hm : mg y = some (.ref a)) {a__law_fd_value : Addr} {fd__law_fd_value : FuncData} (c__law_fd_value : FnS P w K mg base 1 "_law_fd_value" ["_law_field_here", "_law_poly", "_law_place"] a__law_fd_value fd__law_fd_value f__law_fd_value) : FnS P w K mg base 2 y ["_law_field_here", "_law_houses", "_law_poly"] a fd f__law_told :=
  FnS.ofD (N := n__law_told) (n := 3) (m := 4) F sc__law_told hm (F.bindsN fun _ _ _ _ _ _ us hl => match us, hl with | [_, _, _], _ => rfl) rfl rfl (by decide) fun cdv A outer s H E hr tk hp => ⟨_,
    (ss_one (ss_ret (se_callTy calls_tuple T.z_tuple (sp_cons (se_lc' (own := [("_law_place", 3)]) rfl sc__law_told.nd (si_range2 T.z_range (sp_cons se_int (sp_cons (se_bin ops_add (se_var 1) se_int) sp_nil))) (blkOk_by (N := n__law_told) (sc := defScope s__law_told) (by decide +kernel)) (fun _ _ _ _ _ => (sg_name 3 sc__law_told.nd)) spt_nil (fun _ _ _ _ _ => spt_nil) (se_call' c__law_fd_value tkNo (hr.mono (by decide)) (sa_cons (se_var 0) (sa_cons (se_var 2) (sa_cons (se_var 3) sa_nil)))) (fun _ _ _ _ _ => (se_call' c__law_fd_value tkNo (hr.mono (by decide)) (sa_cons (se_var 0) (sa_cons (se_var 2) (sa_cons (se_var 3) sa_nil)))))) sp_nil))))⟩
abbrev n__law_bent : List Str := ["_law_dice_here", "_law_field_here", "_law_word", "_law_many", "_law_found", "_law_at"]
theorem sc__law_bent : FnScope n__law_bent ["_law_dice_here", "_law_field_here", "_law_word", "_law_many"] (defScope s__law_bent) := ⟨rfl, rfl, rfl, by decide +kernel, rfl, by decide +kernel, by decide +kernel⟩
theorem k__law_bent (T : Fx mg) {a : Addr} {fd : FuncData} (F : FunD K "_law_bent" "_law_bent" (defArgs s__law_bent) (defBody s__law_bent) (defScope s__law_bent) [] [] a fd) {y : Str} (hm : mg y = some (.ref a)) {a__law_mixed : Addr} {fd__law_mixed : FuncData} (c__law_mixed : FnS P w K mg base 2 "_law_mixed" ["_law_dice_here", "_law_items"] a__law_mixed fd__law_mixed f__law_mixed) {a__law_roll : Addr} {fd__law_roll : FuncData} (c__law_roll : FnS P w K mg base 1 "_law_roll" ["_law_dice_here", "_law_most"] a__law_roll fd__law_roll f__law_roll) : FnS P w K mg base 3 y ["_law_dice_here", "_law_field_here", "_law_word", "_law_many"] a fd f__law_bent :=
  FnS.ofD (N := n__law_bent) (n := 4) (m := 6) F sc__law_bent hm (F.bindsN fun _ _ _ _ _ _ us hl => match us, hl with | [_, _, _, _], _ => rfl) rfl rfl (by decide) fun cdv A outer s H E hr tk hp => ⟨_,
    (ss_cons (ss_set 4 sc__law_bent.nd (se_callTy calls_list T.z_list (sp_cons (se_var 2) sp_nil)))
    (ss_cons (ss_for hp rfl (si_seq (se_slice (se_call' c__law_mixed tk (hr.mono (by decide)) (sa_cons (se_var 0) (sa_cons (se_rg1L rfl T.z_list T.z_range (se_callB calls_len T.z_len (sp_cons (se_var 2) sp_nil))) sa_nil))) so_none (so_some (se_var 3)))) (sg_name 5 sc__law_bent.nd) (ss_one (ss_setitem 4 (se_bin ops_mod (se_bin ops_add (se_bin ops_add (se_ix (se_var 4) (se_var 5)) se_int) (se_call' c__law_roll tk (hr.mono (by decide)) (sa_cons (se_var 0) (sa_cons (se_bin ops_sub (se_var 1) se_int) sa_nil)))) (se_var 1)) (se_var 5))))
    (ss_one (ss_ret (se_callTy calls_tuple T.z_tuple (sp_cons (se_var 4) sp_nil))))))⟩
abbrev n__law_powers : List Str := ["_law_field_here", "_law_place", "_law_many", "_law_found", "_law_here", "_law_turn"]
theorem sc__law_powers : FnScope n__law_powers ["_law_field_here", "_law_place", "_law_many"] (defScope s__law_powers) := ⟨rfl, rfl, rfl, by decide +kernel, rfl, by decide +kernel, by decide +kernel⟩
theorem k__law_powers (T : Fx mg) {a : Addr} {fd : FuncData} (F : FunD K "_law_powers" "_law_powers" (defArgs s__law_powers) (defBody s__law_powers) (defScope s__law_powers) [] [] a fd) {y : Str} (hm : mg y = some (.ref a)) : FnS P w K mg base 1 y ["_law_field_here", "_law_place", "_law_many"] a fd f__law_powers :=
  FnS.ofD (N := n__law_powers) (n := 3) (m := 6) F sc__law_powers hm (F.bindsN fun _ _ _ _ _ _ us hl => match us, hl with | [_, _, _], _ => rfl) rfl rfl (by decide) fun cdv A outer s H E hr tk hp => ⟨_,
    (ss_cons (ss_par2 3 4 rfl sc__law_powers.nd (se_lst sa_nil) se_int)
    (ss_cons (ss_for hp rfl (si_range1 T.z_range (sp_cons (se_var 2) sp_nil)) (sg_name 5 sc__law_powers.nd) (ss_cons (ss_append 3 (se_var 4))
    (ss_one (ss_set 4 sc__law_powers.nd (se_bin ops_mod (se_bin ops_mul (se_var 4) (se_var 1)) (se_var 0))))))
    (ss_one (ss_ret (se_var 3)))))⟩
abbrev n__law_fitting : List Str := ["_law_field_here", "_law_word", "_law_degree", "_law_crew", "_law_places", "_law_found", "_law_place"]
theorem sc__law_fitting : FnScope n__law_fitting ["_law_field_here", "_law_word", "_law_degree", "_law_crew"] (defScope s__law_fitting) := ⟨rfl, rfl, rfl, by decide +kernel, rfl, by decide +kernel, by decide +kernel⟩
theorem k__law_fitting (T : Fx mg) {a : Addr} {fd : FuncData} (F : FunD K "_law_fitting" "_law_fitting" (defArgs s__law_fitting) (defBody s__law_fitting) (defScope s__law_fitting) [] [] a fd) {y : Str} (hm : mg y = some (.ref a)) {a__law_fd_solved : Addr} {fd__law_fd_solved : FuncData} (c__law_fd_solved : FnS P w K mg base 3 "_law_fd_solved" ["_law_field_here", "_law_rows", "_law_goal"] a__law_fd_solved fd__law_fd_solved f__law_fd_solved) {a__law_powers : Addr} {fd__law_powers : FuncData} (c__law_powers : FnS P w K mg base 1 "_law_powers" ["_law_field_here", "_law_place", "_law_many"] a__law_powers fd__law_powers f__law_powers) {a__law_fd_trim : Addr} {fd__law_fd_trim : FuncData} (c__law_fd_trim : FnS P w K mg base 1 "_law_fd_trim" ["_law_numbers"] a__law_fd_trim fd__law_fd_trim f__law_fd_trim) : FnS P w K mg base 4 y ["_law_field_here", "_law_word", "_law_degree", "_law_crew"] a fd f__law_fitting :=
  FnS.ofD (N := n__law_fitting) (n := 4) (m := 7) F sc__law_fitting hm (F.bindsN fun _ _ _ _ _ _ us hl => match us, hl with | [_, _, _, _], _ => rfl) rfl rfl (by decide) fun cdv A outer s H E hr tk hp => ⟨_,
    (ss_cons (ss_setC' 4 (own := [("_law_place", 6)]) rfl sc__law_fitting.nd (si_range2 T.z_range (sp_cons se_int (sp_cons (se_bin ops_add (se_callB calls_len T.z_len (sp_cons (se_var 1) sp_nil)) se_int) sp_nil))) (blkOk_by (N := n__law_fitting) (sc := defScope s__law_fitting) (by decide +kernel)) (fun _ _ _ _ _ => (sg_name 6 sc__law_fitting.nd)) (spt_one (st_cmp (ops_notin hr.units) (se_var 6) (se_var 3))) (fun _ _ _ _ _ => (spt_one (st_cmp (ops_notin hr.units) (se_var 6) (se_var 3)))) (se_var 6) (fun _ _ _ _ _ => (se_var 6)))
    (ss_cons (ss_if (st_cmp (ops_eq hr.units) (se_var 4) (se_lst sa_nil)) (ss_one (ss_ret (se_tup sa_nil))) ss_nil)
    (ss_cons (ss_frz 4 (ss_set 5 sc__law_fitting.nd (se_call' c__law_fd_solved tk (hr.mono (by decide)) (sa_cons (se_var 0) (sa_cons (se_lc' (own := [("_law_place", 6)]) rfl sc__law_fitting.nd (si_seq (se_var 4)) (blkOk_by (N := n__law_fitting) (sc := defScope s__law_fitting) (by decide +kernel)) (fun _ _ _ _ _ => (sg_name 6 sc__law_fitting.nd)) spt_nil (fun _ _ _ _ _ => spt_nil) (se_call' c__law_powers tkNo (hr.mono (by decide)) (sa_cons (se_var 0) (sa_cons (se_var 6) (sa_cons (se_bin ops_add (se_var 2) se_int) sa_nil)))) (fun _ _ _ _ _ => (se_call' c__law_powers tkNo (hr.mono (by decide)) (sa_cons (se_var 0) (sa_cons (se_var 6) (sa_cons (se_bin ops_add (se_var 2) se_int) sa_nil)))))) (sa_cons (se_lc' (own := [("_law_place", 6)]) rfl sc__law_fitting.nd (si_seq (se_var 4)) (blkOk_by (N := n__law_fitting) (sc := defScope s__law_fitting) (by decide +kernel)) (fun _ _ _ _ _ => (sg_name 6 sc__law_fitting.nd)) spt_nil (fun _ _ _ _ _ => spt_nil) (se_ix (se_var 1) (se_bin ops_sub (se_var 6) se_int)) (fun _ _ _ _ _ => (se_ix (se_var 1) (se_bin ops_sub (se_var 6) se_int)))) sa_nil))))))
    (ss_one (ss_ret (se_if (st_cmp ops_isnot (se_var 5) se_non) (se_call' c__law_fd_trim tk (hr.mono (by decide)) (sa_cons (se_var 5) sa_nil)) se_non))))))⟩
abbrev n__law_syndromes : List Str := ["_law_field_here", "_law_word", "_law_degree", "_law_found", "_law_step", "_law_told_here", "_law_place", "_law_bottom", "_law_other"]
theorem sc__law_syndromes : FnScope n__law_syndromes ["_law_field_here", "_law_word", "_law_degree"] (defScope s__law_syndromes) := ⟨rfl, rfl, rfl, by decide +kernel, rfl, by decide +kernel, by decide +kernel⟩
theorem k__law_syndromes (T : Fx mg) {a : Addr} {fd : FuncData} (F : FunD K "_law_syndromes" "_law_syndromes" (defArgs s__law_syndromes) (defBody s__law_syndromes) (defScope s__law_syndromes) [] [] a fd) {y : Str} (hm : mg y = some (.ref a)) {a__law_powers : Addr} {fd__law_powers : FuncData} (c__law_powers : FnS P w K mg base 1 "_law_powers" ["_law_field_here", "_law_place", "_law_many"] a__law_powers fd__law_powers f__law_powers) {a__law_fd_undone : Addr} {fd__law_fd_undone : FuncData} (c__law_fd_undone : FnS P w K mg base 1 "_law_fd_undone" ["_law_field_here", "_law_number"] a__law_fd_undone fd__law_fd_undone f__law_fd_undone) : FnS P w K mg base 2 y ["_law_field_here", "_law_word", "_law_degree"] a fd f__law_syndromes :=
  FnS.ofD (N := n__law_syndromes) (n := 3) (m := 9) F sc__law_syndromes hm (F.bindsN fun _ _ _ _ _ _ us hl => match us, hl with | [_, _, _], _ => rfl) rfl rfl (by decide) fun cdv A outer s H E hr tk hp => ⟨_,
    (ss_cons (ss_set 3 sc__law_syndromes.nd (se_lst sa_nil))
    (ss_cons (ss_for hp rfl (si_range1 T.z_range (sp_cons (se_bin ops_sub (se_bin ops_sub (se_callB calls_len T.z_len (sp_cons (se_var 1) sp_nil)) (se_var 2)) se_int) sp_nil)) (sg_name 4 sc__law_syndromes.nd) (ss_cons (ss_set 5 sc__law_syndromes.nd se_int)
    (ss_cons (ss_for hp rfl (si_range2 T.z_range (sp_cons se_int (sp_cons (se_bin ops_add (se_callB calls_len T.z_len (sp_cons (se_var 1) sp_nil)) se_int) sp_nil))) (sg_name 6 sc__law_syndromes.nd) (ss_cons (ss_set 7 sc__law_syndromes.nd se_int)
    (ss_cons (ss_for hp rfl (si_range2 T.z_range (sp_cons se_int (sp_cons (se_bin ops_add (se_callB calls_len T.z_len (sp_cons (se_var 1) sp_nil)) se_int) sp_nil))) (sg_name 8 sc__law_syndromes.nd) (ss_one (ss_if (st_cmp (ops_ne hr.units) (se_var 8) (se_var 6)) (ss_one (ss_set 7 sc__law_syndromes.nd (se_bin ops_mod (se_bin ops_mul (se_var 7) (se_bin ops_sub (se_var 6) (se_var 8))) (se_var 0)))) ss_nil)))
    (ss_one (ss_set 5 sc__law_syndromes.nd (se_bin ops_add (se_var 5) (se_bin ops_mul (se_bin ops_mul (se_ix (se_var 1) (se_bin ops_sub (se_var 6) se_int)) (se_ix (se_call' c__law_powers tk (hr.mono (by decide)) (sa_cons (se_var 0) (sa_cons (se_var 6) (sa_cons (se_bin ops_add (se_var 4) se_int) sa_nil)))) (se_var 4))) (se_call' c__law_fd_undone tk (hr.mono (by decide)) (sa_cons (se_var 0) (sa_cons (se_var 7) sa_nil))))))))))
    (ss_one (ss_append 3 (se_bin ops_mod (se_var 5) (se_var 0)))))))
    (ss_one (ss_ret (se_callTy calls_tuple T.z_tuple (sp_cons (se_var 3) sp_nil))))))⟩
abbrev n__law_added : List Str := ["_law_field_here", "_law_one", "_law_number", "_law_other", "_law_left", "_law_right_here"]
theorem sc__law_added : FnScope n__law_added ["_law_field_here", "_law_one", "_law_number", "_law_other"] (defScope s__law_added) := ⟨rfl, rfl, rfl, by decide +kernel, rfl, by decide +kernel, by decide +kernel⟩
theorem k__law_added (T : Fx mg) {a : Addr} {fd : FuncData} (F : FunD K "_law_added" "_law_added" (defArgs s__law_added) (defBody s__law_added) (defScope s__law_added) [] [] a fd) {y : Str} (hm : mg y = some (.ref a)) : FnS P w K mg base 1 y ["_law_field_here", "_law_one", "_law_number", "_law_other"] a fd f__law_added :=
  FnS.ofD (N := n__law_added) (n := 4) (m := 6) F sc__law_added hm (F.bindsN fun _ _ _ _ _ _ us hl => match us, hl with | [_, _, _, _], _ => rfl) rfl rfl (by decide) fun cdv A outer s H E hr tk hp => ⟨_,
    (ss_one (ss_ret (se_callTy calls_tuple T.z_tuple (sp_cons (se_lc' (own := [("_law_left", 4), ("_law_right_here", 5)]) rfl sc__law_added.nd (si_zipM T.z_zip (sa_cons (se_var 1) (sa_cons (se_var 3) sa_nil))) (blkOk_by (N := n__law_added) (sc := defScope s__law_added) (by decide +kernel)) (fun _ _ _ _ _ => (sg_tupK (K := K) rfl rfl (sgs_cons 4 sc__law_added.nd (sgs_cons 5 sc__law_added.nd sgs_nil)))) spt_nil (fun _ _ _ _ _ => spt_nil) (se_bin ops_mod (se_bin ops_add (se_var 4) (se_bin ops_mul (se_var 2) (se_var 5))) (se_var 0)) (fun _ _ _ _ _ => (se_bin ops_mod (se_bin ops_add (se_var 4) (se_bin ops_mul (se_var 2) (se_var 5))) (se_var 0)))) sp_nil))))⟩
abbrev n__law_right : List Str := ["_law_dice_here", "_law_field_here", "_law_houses", "_law_degree", "_law_number", "_law_one", "_law_other", "_law_first", "_law_second", "_law_word", "_law_errors", "_law_told_here", "_law_turn", "_law_place"]
theorem sc__law_right : FnScope n__law_right ["_law_dice_here"] (defScope s__law_right) := ⟨rfl, rfl, rfl, by decide +kernel, rfl, by decide +kernel, by decide +kernel⟩
theorem k__law_right (T : Fx mg) {a : Addr} {fd : FuncData} (F : FunD K "_law_right" "_law_right" (defArgs s__law_right) (defBody s__law_right) (defScope s__law_right) [] [] a fd) {y : Str} (hm : mg y = some (.ref a)) {a__law_sizes : Addr} {fd__law_sizes : FuncData} (c__law_sizes : FnS P w K mg base 3 "_law_sizes" ["_law_dice_here"] a__law_sizes fd__law_sizes f__law_sizes) {a__law_roll : Addr} {fd__law_roll : FuncData} (c__law_roll : FnS P w K mg base 1 "_law_roll" ["_law_dice_here", "_law_most"] a__law_roll fd__law_roll f__law_roll) {a_syndromes : Addr} {fd_syndromes : FuncData} (c_syndromes : FnS P w K mg base 9 "syndromes" ["field", "word", "degree"] a_syndromes fd_syndromes f_syndromes) {a__law_syndromes : Addr} {fd__law_syndromes : FuncData} (c__law_syndromes : FnS P w K mg base 2 "_law_syndromes" ["_law_field_here", "_law_word", "_law_degree"] a__law_syndromes fd__law_syndromes f__law_syndromes) {a__law_added : Addr} {fd__law_added : FuncData} (c__law_added : FnS P w K mg base 1 "_law_added" ["_law_field_here", "_law_one", "_law_number", "_law_other"] a__law_added fd__law_added f__law_added) {a__law_told : Addr} {fd__law_told : FuncData} (c__law_told : FnS P w K mg base 2 "_law_told" ["_law_field_here", "_law_houses", "_law_poly"] a__law_told fd__law_told f__law_told) {a__law_poly_drawn : Addr} {fd__law_poly_drawn : FuncData} (c__law_poly_drawn : FnS P w K mg base 2 "_law_poly_drawn" ["_law_dice_here", "_law_field_here", "_law_degree"] a__law_poly_drawn fd__law_poly_drawn f__law_poly_drawn) {a__law_bent : Addr} {fd__law_bent : FuncData} (c__law_bent : FnS P w K mg base 3 "_law_bent" ["_law_dice_here", "_law_field_here", "_law_word", "_law_many"] a__law_bent fd__law_bent f__law_bent) {a__law_fitting : Addr} {fd__law_fitting : FuncData} (c__law_fitting : FnS P w K mg base 4 "_law_fitting" ["_law_field_here", "_law_word", "_law_degree", "_law_crew"] a__law_fitting fd__law_fitting f__law_fitting) : FnS P w K mg base 10 y ["_law_dice_here"] a fd f__law_right :=
  FnS.ofD (N := n__law_right) (n := 1) (m := 14) F sc__law_right hm (F.bindsN fun _ _ _ _ _ _ us hl => match us, hl with | [_], _ => rfl) rfl rfl (by decide) fun cdv A outer s H E hr tk hp => ⟨_,
    (ss_cons (ss_asg (se_call' c__law_sizes tk (hr.mono (by decide)) (sa_cons (se_var 0) sa_nil)) (sg_tup rfl (sgs_cons 1 sc__law_right.nd (sgs_cons 2 sc__law_right.nd sgs_nil))))
    (ss_cons (ss_par2 3 4 rfl sc__law_right.nd (se_call' c__law_roll tk (hr.mono (by decide)) (sa_cons (se_var 0) (sa_cons (se_var 2) sa_nil))) (se_call' c__law_roll tk (hr.mono (by decide)) (sa_cons (se_var 0) (sa_cons (se_var 1) sa_nil))))
    (ss_cons (ss_asg (se_lc' (own := [("_law_turn", 12)]) rfl sc__law_right.nd (si_range1 T.z_range (sp_cons se_int sp_nil)) (blkOk_by (N := n__law_right) (sc := defScope s__law_right) (by decide +kernel)) (fun _ _ _ _ _ => (sg_name 12 sc__law_right.nd)) spt_nil (fun _ _ _ _ _ => spt_nil) (se_callTy calls_tuple T.z_tuple (sp_cons (se_lc' (own := [("_law_place", 13)]) rfl sc__law_right.nd (si_range1 T.z_range (sp_cons (se_var 2) sp_nil)) (by show BlkOk n__law_right (relS _ (defScope s__law_right)) _ _; exact blkOk_by (by decide +kernel)) (fun _ _ _ _ _ => (sg_name 13 sc__law_right.nd)) spt_nil (fun _ _ _ _ _ => spt_nil) (se_call' c__law_roll tkNo (hr.mono (by decide)) (sa_cons (se_var 0) (sa_cons (se_var 1) sa_nil))) (fun _ _ _ _ _ => (se_call' c__law_roll tkNo (hr.mono (by decide)) (sa_cons (se_var 0) (sa_cons (se_var 1) sa_nil))))) sp_nil)) (fun _ _ _ _ _ => (se_callTy calls_tuple T.z_tuple (sp_cons (se_lc' (own := [("_law_place", 13)]) rfl sc__law_right.nd (si_range1 T.z_range (sp_cons (se_var 2) sp_nil)) (by show BlkOk n__law_right (relS _ (defScope s__law_right)) _ _; exact blkOk_by (by decide +kernel)) (fun _ _ _ _ _ => (sg_name 13 sc__law_right.nd)) spt_nil (fun _ _ _ _ _ => spt_nil) (se_call' c__law_roll tkNo (hr.mono (by decide)) (sa_cons (se_var 0) (sa_cons (se_var 1) sa_nil))) (fun _ _ _ _ _ => (se_call' c__law_roll tkNo (hr.mono (by decide)) (sa_cons (se_var 0) (sa_cons (se_var 1) sa_nil))))) sp_nil)))) (sg_lst rfl (sgs_cons 5 sc__law_right.nd (sgs_cons 6 sc__law_right.nd sgs_nil))))
    (ss_cons (ss_par2 7 8 rfl sc__law_right.nd (se_call' c_syndromes tk (hr.mono (by decide)) (sa_cons (se_var 1) (sa_cons (se_var 5) (sa_cons (se_var 3) sa_nil)))) (se_call' c_syndromes tk (hr.mono (by decide)) (sa_cons (se_var 1) (sa_cons (se_var 6) (sa_cons (se_var 3) sa_nil)))))
    (ss_cons (ss_if (STw.st (sw_or (st_cmp (ops_ne hr.units) (se_var 7) (se_call' c__law_syndromes tk (hr.mono (by decide)) (sa_cons (se_var 1) (sa_cons (se_var 5) (sa_cons (se_var 3) sa_nil))))) (sw_or1 (st_cmp (ops_ne hr.units) (se_callB calls_len T.z_len (sp_cons (se_var 8) sp_nil)) (se_bin ops_sub (se_bin ops_sub (se_var 2) (se_var 3)) se_int))))) (ss_one (ss_ret se_bl)) ss_nil)
    (ss_cons (ss_if (st_cmp (ops_ne hr.units) (se_call' c_syndromes tk (hr.mono (by decide)) (sa_cons (se_var 1) (sa_cons (se_call' c__law_added tk (hr.mono (by decide)) (sa_cons (se_var 1) (sa_cons (se_var 5) (sa_cons (se_var 4) (sa_cons (se_var 6) sa_nil))))) (sa_cons (se_var 3) sa_nil)))) (se_call' c__law_added tk (hr.mono (by decide)) (sa_cons (se_var 1) (sa_cons (se_var 7) (sa_cons (se_var 4) (sa_cons (se_var 8) sa_nil)))))) (ss_one (ss_ret se_bl)) ss_nil)
    (ss_cons (ss_set 9 sc__law_right.nd (se_call' c__law_told tk (hr.mono (by decide)) (sa_cons (se_var 1) (sa_cons (se_var 2) (sa_cons (se_call' c__law_poly_drawn tk (hr.mono (by decide)) (sa_cons (se_var 0) (sa_cons (se_var 1) (sa_cons (se_var 3) sa_nil)))) sa_nil)))))
    (ss_cons (ss_if (st_cmp (ops_ne hr.units) (se_lc' (own := [("_law_told_here", 11)]) rfl sc__law_right.nd (si_seq (se_call' c_syndromes tk (hr.mono (by decide)) (sa_cons (se_var 1) (sa_cons (se_var 9) (sa_cons (se_var 3) sa_nil))))) (blkOk_by (N := n__law_right) (sc := defScope s__law_right) (by decide +kernel)) (fun _ _ _ _ _ => (sg_name 11 sc__law_right.nd)) (spt_one (st_cmp (ops_ne hr.units) (se_var 11) se_int)) (fun _ _ _ _ _ => (spt_one (st_cmp (ops_ne hr.units) (se_var 11) se_int))) (se_var 11) (fun _ _ _ _ _ => (se_var 11))) (se_lst sa_nil)) (ss_one (ss_ret se_bl)) ss_nil)
    (ss_cons (ss_set 10 sc__law_right.nd (se_call' c__law_bent tk (hr.mono (by decide)) (sa_cons (se_var 0) (sa_cons (se_var 1) (sa_cons (se_bin ops_mul (se_tup (sa_cons se_int sa_nil)) (se_var 2)) (sa_cons (se_call' c__law_roll tk (hr.mono (by decide)) (sa_cons (se_var 0) (sa_cons (se_bin ops_add (se_var 2) se_int) sa_nil))) sa_nil))))))
    (ss_cons (ss_set 11 sc__law_right.nd (se_call' c_syndromes tk (hr.mono (by decide)) (sa_cons (se_var 1) (sa_cons (se_call' c__law_added tk (hr.mono (by decide)) (sa_cons (se_var 1) (sa_cons (se_var 9) (sa_cons se_int (sa_cons (se_var 10) sa_nil))))) (sa_cons (se_var 3) sa_nil)))))
    (ss_cons (ss_if (st_cmp (ops_ne hr.units) (se_var 11) (se_call' c_syndromes tk (hr.mono (by decide)) (sa_cons (se_var 1) (sa_cons (se_var 10) (sa_cons (se_var 3) sa_nil))))) (ss_one (ss_ret se_bl)) ss_nil)
    (ss_one (ss_ret (se_cmp (ops_eq hr.units) (se_cmp (ops_eq hr.units) (se_callB (calls_maxT rfl) T.z_max (sp_cons (se_bin ops_add (se_tup (sa_cons se_int sa_nil)) (se_var 11)) sp_nil)) se_int) (se_cmp ops_isnot (se_call' c__law_fitting tk (hr.mono (by decide)) (sa_cons (se_var 1) (sa_cons (se_var 10) (sa_cons (se_var 3) (sa_cons (se_tup sa_nil) sa_nil))))) se_non)))))))))))))))⟩
abbrev n_law : List Str := ["_law_script", "_law_spot", "_law_dice_here", "_law_told_here"]
theorem sc_law : FnScope n_law ["_law_script"] (defScope s_law) := ⟨rfl, rfl, rfl, by decide +kernel, rfl, by decide +kernel, by decide +kernel⟩
theorem k_law (T : Fx mg) {a : Addr} {fd : FuncData} (F : FunD K "law" "law" (defArgs s_law) (defBody s_law) (defScope s_law) [] [] a fd) {y : Str} (hm : mg y = some (.ref a)) {a__law_dice : Addr} {fd__law_dice : FuncData} (c__law_dice : FnS P w K mg base 1 "_law_dice" ["_law_script", "_law_spot"] a__law_dice fd__law_dice f__law_dice) {a__law_right : Addr} {fd__law_right : FuncData} (c__law_right : FnS P w K mg base 10 "_law_right" ["_law_dice_here"] a__law_right fd__law_right f__law_right) {a_syndromes : Addr} {fd_syndromes : FuncData} (c_syndromes : FnS P w K mg base 9 "syndromes" ["field", "word", "degree"] a_syndromes fd_syndromes f_syndromes) : FnS P w K mg base 11 y ["_law_script"] a fd f_law :=
  FnS.ofD (N := n_law) (n := 1) (m := 4) F sc_law hm (F.bindsN fun _ _ _ _ _ _ us hl => match us, hl with | [_], _ => rfl) rfl rfl (by decide) fun cdv A outer s H E hr tk hp => ⟨_,
    (ss_cons (ss_for hp rfl (si_range1 T.z_range (sp_cons (se_callB (calls_max rfl) T.z_max (sp_cons se_int (sp_cons (se_callB (calls_min rfl) T.z_min (sp_cons se_int (sp_cons (se_callB calls_len T.z_len (sp_cons (se_var 0) sp_nil)) sp_nil))) sp_nil))) sp_nil)) (sg_name 1 sc_law.nd) (ss_cons (ss_ref 2 sc_law.nd (se_call' c__law_dice tk (hr.mono (by decide)) (sa_cons (se_var 0) (sa_cons (se_var 1) sa_nil))))
    (ss_one (ss_if (STw.st (sw_or (st_not (st_truth (se_call' c__law_right tk (hr.mono (by decide)) (sa_cons (se_var 2) sa_nil)))) (sw_or1 (st_not (st_truth (se_call' c__law_right tk (hr.mono (by decide)) (sa_cons (se_var 2) sa_nil))))))) (ss_one (ss_ret se_bl)) ss_nil))))
    (ss_cons (ss_set 3 sc_law.nd (se_lst (sa_cons (se_call' c_syndromes tk (hr.mono (by decide)) (sa_cons se_int (sa_cons (se_tup (sa_cons se_int (sa_cons se_int (sa_cons se_int (sa_cons se_int (sa_cons se_int sa_nil)))))) (sa_cons se_int sa_nil)))) (sa_cons (se_call' c_syndromes tk (hr.mono (by decide)) (sa_cons se_int (sa_cons (se_tup (sa_cons se_int (sa_cons se_int (sa_cons se_int sa_nil)))) (sa_cons se_int sa_nil)))) (sa_cons (se_call' c_syndromes tk (hr.mono (by decide)) (sa_cons se_int (sa_cons (se_tup (sa_cons se_int (sa_cons se_int (sa_cons se_int sa_nil)))) (sa_cons se_int sa_nil)))) (sa_cons (se_call' c_syndromes tk (hr.mono (by decide)) (sa_cons se_int (sa_cons (se_tup (sa_cons se_int sa_nil)) (sa_cons se_int sa_nil)))) sa_nil))))))
    (ss_one (ss_ret (se_and (se_cmp (ops_eq hr.units) (se_var 3) (se_lst (sa_cons (se_tup (sa_cons se_int (sa_cons se_int (sa_cons se_int sa_nil)))) (sa_cons (se_tup (sa_cons se_int (sa_cons se_int sa_nil))) (sa_cons (se_tup sa_nil) (sa_cons (se_tup sa_nil) sa_nil)))))) (se_one (se_cmp (ops_eq hr.units) (se_call' c_syndromes tk (hr.mono (by decide)) (sa_cons se_int (sa_cons (se_tup (sa_cons se_int (sa_cons se_int (sa_cons se_int sa_nil)))) (sa_cons se_int sa_nil)))) (se_tup (sa_cons se_int sa_nil)))))))))⟩
end
/-! ### the head -/
def d_is_integer : He.DefD := ⟨("is_integer", none), "is_integer", "is_integer", defArgs s_is_integer, defBody s_is_integer, defScope s_is_integer, [], []⟩
def d_is_within : He.DefD := ⟨("is_within", none), "is_within", "is_within", defArgs s_is_within, defBody s_is_within, defScope s_is_within, [], []⟩
def d_undone_in : He.DefD := ⟨("undone_in", none), "undone_in", "undone_in", defArgs s_undone_in, defBody s_undone_in, defScope s_undone_in, [], []⟩
def d_is_field : He.DefD := ⟨("is_field", none), "is_field", "is_field", defArgs s_is_field, defBody s_is_field, defScope s_is_field, [], []⟩
def d_require_field_field : He.DefD := ⟨("require_field_field", none), "require_field", "require_field", defArgs s_require_field_field, defBody s_require_field_field, defScope s_require_field_field, [], []⟩
def d_require_number : He.DefD := ⟨("require_number", none), "require_number", "require_number", defArgs s_require_number, defBody s_require_number, defScope s_require_number, [], []⟩
def d_is_number : He.DefD := ⟨("is_number", none), "is_number", "is_number", defArgs s_is_number, defBody s_is_number, defScope s_is_number, [], []⟩
def d_undone : He.DefD := ⟨("undone", none), "undone", "undone", defArgs s_undone, defBody s_undone, defScope s_undone, [], []⟩
def d_is_from : He.DefD := ⟨("is_from", none), "is_from", "is_from", defArgs s_is_from, defBody s_is_from, defScope s_is_from, [], []⟩
def d_are_numbers : He.DefD := ⟨("are_numbers", none), "are_numbers", "are_numbers", defArgs s_are_numbers, defBody s_are_numbers, defScope s_are_numbers, [], []⟩
def d_most_houses : He.DefD := ⟨("most_houses", none), "most_houses", "most_houses", defArgs s_most_houses, defBody s_most_houses, defScope s_most_houses, [], []⟩
def d_is_word_in : He.DefD := ⟨("is_word_in", none), "is_word_in", "is_word_in", defArgs s_is_word_in, defBody s_is_word_in, defScope s_is_word_in, [], []⟩
def d_product_of : He.DefD := ⟨("product_of", none), "product_of", "product_of", defArgs s_product_of, defBody s_product_of, defScope s_product_of, [], []⟩
def d_weights_at : He.DefD := ⟨("weights_at", none), "weights_at", "weights_at", defArgs s_weights_at, defBody s_weights_at, defScope s_weights_at, [], []⟩
def d_power_table : He.DefD := ⟨("power_table", none), "power_table", "power_table", defArgs s_power_table, defBody s_power_table, defScope s_power_table, [], []⟩
def d_syndromes_in : He.DefD := ⟨("syndromes_in", none), "syndromes_in", "syndromes_in", defArgs s_syndromes_in, defBody s_syndromes_in, defScope s_syndromes_in, [], []⟩
def d_require_field_words : He.DefD := ⟨("require_field_words", none), "require_field", "require_field", defArgs s_require_field_words, defBody s_require_field_words, defScope s_require_field_words, [], []⟩
def d_require_from : He.DefD := ⟨("require_from", none), "require_from", "require_from", defArgs s_require_from, defBody s_require_from, defScope s_require_from, [], []⟩
def d_require_word : He.DefD := ⟨("require_word", none), "require_word", "require_word", defArgs s_require_word, defBody s_require_word, defScope s_require_word, [], []⟩
def d_syndromes : He.DefD := ⟨("syndromes", none), "syndromes", "syndromes", defArgs s_syndromes, defBody s_syndromes, defScope s_syndromes, [], []⟩
def d__law_dice : He.DefD := ⟨("_law_dice", none), "_law_dice", "_law_dice", defArgs s__law_dice, defBody s__law_dice, defScope s__law_dice, [], []⟩
def d__law_roll : He.DefD := ⟨("_law_roll", none), "_law_roll", "_law_roll", defArgs s__law_roll, defBody s__law_roll, defScope s__law_roll, [], []⟩
def d__law_pick : He.DefD := ⟨("_law_pick", none), "_law_pick", "_law_pick", defArgs s__law_pick, defBody s__law_pick, defScope s__law_pick, [], []⟩
def d__law_mixed : He.DefD := ⟨("_law_mixed", none), "_law_mixed", "_law_mixed", defArgs s__law_mixed, defBody s__law_mixed, defScope s__law_mixed, [], []⟩
def d__law_fd_undone : He.DefD := ⟨("_law_fd_undone", none), "_law_fd_undone", "_law_fd_undone", defArgs s__law_fd_undone, defBody s__law_fd_undone, defScope s__law_fd_undone, [], []⟩
def d__law_fd_trim : He.DefD := ⟨("_law_fd_trim", none), "_law_fd_trim", "_law_fd_trim", defArgs s__law_fd_trim, defBody s__law_fd_trim, defScope s__law_fd_trim, [], []⟩
def d__law_fd_value : He.DefD := ⟨("_law_fd_value", none), "_law_fd_value", "_law_fd_value", defArgs s__law_fd_value, defBody s__law_fd_value, defScope s__law_fd_value, [], []⟩
def d__law_fd_columns : He.DefD := ⟨("_law_fd_columns", none), "_law_fd_columns", "_law_fd_columns", defArgs s__law_fd_columns, defBody s__law_fd_columns, defScope s__law_fd_columns, [], []⟩
def d__law_fd_solved : He.DefD := ⟨("_law_fd_solved", none), "_law_fd_solved", "_law_fd_solved", defArgs s__law_fd_solved, defBody s__law_fd_solved, defScope s__law_fd_solved, [], []⟩
def d__law_sizes : He.DefD := ⟨("_law_sizes", none), "_law_sizes", "_law_sizes", defArgs s__law_sizes, defBody s__law_sizes, defScope s__law_sizes, [], []⟩
def d__law_poly_drawn : He.DefD := ⟨("_law_poly_drawn", none), "_law_poly_drawn", "_law_poly_drawn", defArgs s__law_poly_drawn, defBody s__law_poly_drawn, defScope s__law_poly_drawn, [], []⟩
def d__law_told : He.DefD := ⟨("_law_told", none), "_law_told", "_law_told", defArgs s__law_told, defBody s__law_told, defScope s__law_told, [], []⟩
def d__law_bent : He.DefD := ⟨("_law_bent", none), "_law_bent", "_law_bent", defArgs s__law_bent, defBody s__law_bent, defScope s__law_bent, [], []⟩
def d__law_powers : He.DefD := ⟨("_law_powers", none), "_law_powers", "_law_powers", defArgs s__law_powers, defBody s__law_powers, defScope s__law_powers, [], []⟩
def d__law_fitting : He.DefD := ⟨("_law_fitting", none), "_law_fitting", "_law_fitting", defArgs s__law_fitting, defBody s__law_fitting, defScope s__law_fitting, [], []⟩
def d__law_syndromes : He.DefD := ⟨("_law_syndromes", none), "_law_syndromes", "_law_syndromes", defArgs s__law_syndromes, defBody s__law_syndromes, defScope s__law_syndromes, [], []⟩
def d__law_added : He.DefD := ⟨("_law_added", none), "_law_added", "_law_added", defArgs s__law_added, defBody s__law_added, defScope s__law_added, [], []⟩
def d__law_right : He.DefD := ⟨("_law_right", none), "_law_right", "_law_right", defArgs s__law_right, defBody s__law_right, defScope s__law_right, [], []⟩
def d_law : He.DefD := ⟨("law", none), "law", "law", defArgs s_law, defBody s_law, defScope s_law, [], []⟩
def fn : List He.DefD := [d_is_integer, d_is_within, d_undone_in, d_is_field, d_require_field_field, d_require_number, d_is_number, d_undone, d_is_from, d_are_numbers, d_most_houses, d_is_word_in, d_product_of, d_weights_at, d_power_table, d_syndromes_in, d_require_field_words, d_require_from, d_require_word, d_syndromes, d__law_dice, d__law_roll, d__law_pick, d__law_mixed, d__law_fd_undone, d__law_fd_trim, d__law_fd_value, d__law_fd_columns, d__law_fd_solved, d__law_sizes, d__law_poly_drawn, d__law_told, d__law_bent, d__law_powers, d__law_fitting, d__law_syndromes, d__law_added, d__law_right, d_law]
def fa0 : List He.Fa := [.glo "is_integer", .glo "is_within", .glo "undone_in", .glo "is_field", .glo "require_field_field", .glo "require_number", .glo "is_number", .glo "undone", .glo "is_from", .glo "are_numbers", .glo "most_houses", .glo "is_word_in", .glo "product_of", .glo "weights_at", .glo "power_table", .glo "syndromes_in", .glo "require_field_words", .glo "require_from", .glo "require_word", .glo "syndromes", .glo "_law_dice", .glo "_law_roll", .glo "_law_pick", .glo "_law_mixed", .glo "_law_fd_undone", .glo "_law_fd_trim", .glo "_law_fd_value", .glo "_law_fd_columns", .glo "_law_fd_solved", .glo "_law_sizes"]
def fa1 : List He.Fa := [.glo "_law_poly_drawn", .glo "_law_told", .glo "_law_bent", .glo "_law_powers", .glo "_law_fitting", .glo "_law_syndromes", .glo "_law_added", .glo "_law_right", .glo "law", .free "abs", .free "all", .free "bool", .free "enumerate", .free "int", .free "isinstance", .free "len", .free "list", .free "max", .free "min", .free "range", .free "sum", .free "tuple", .free "zip", .int "LEAST_FIELD" 5, .int "MAX_FIELD" 997, .int "MAX_HOUSES" 9, .int "MOST_PART" 32]
def fa : List He.Fa := fa0 ++ fa1
def loose0 : List Str := ["EvenError", "InvalidWord", "InvalidNumber", "Refused", "LEAST_FIELD", "MAX_FIELD", "MOST_PART", "ZERO", "is_integer", "is_within", "undone_in", "require_field", "require_field_field", "require_number", "is_field", "is_number", "undone", "MAX_HOUSES", "is_from", "are_numbers", "most_houses", "is_word_in", "product_of", "weights_at", "power_table", "syndromes_in", "require_field_words", "require_from", "require_word", "syndromes"]
def loose1 : List Str := ["_law_dice", "_law_roll", "_law_pick", "_law_mixed", "_law_fd_undone", "_law_fd_trim", "_law_fd_value", "_law_fd_columns", "_law_fd_solved", "_law_sizes", "_law_poly_drawn", "_law_told", "_law_bent", "_law_lots", "_law_powers", "_law_fitting", "_law_misses", "_law_near_polys", "_law_syndromes", "_law_added", "_law_right"]
def loose : List Str := loose0 ++ loose1
abbrev R : PySem.W.OpenRow := PySem.W.OpenLaw.row PySem.Challenge.rw_evencoins_k13_whole_syndromes_of_errors
abbrev hk : PySem.W.Hook := He.hookD 3 fa fn
def ob (s : PySem.W.SharedT) : He.AlD := He.obsDG 3 fa fn (HandSHeadRun.getT s)
theorem ob_eq (s : PySem.W.SharedT) : ob s = hk.obs s.abs := He.obsDG_eq (HandSHeadRun.getT_eq s)
theorem run (w : World) : HandSHeadRun.RunEq R (PySem.W.view R.prog [56]) hk ob 3000 loose w := by
  intro os
  kernel_rfl
theorem facts {P : Program} {w : World} {K : PySem.W.Frag} {h : Heap} {mg : Str → Option Value} {f : Addr} (X : K.In h) (G : h.Ns mainGlobals mg) (hfa : mg ("law" : Str) = some (.ref f)) (c : He.SaysD fa fn K) :
    ∃ fd : FuncData, (∀ (s : Shared) (v : Value), BindsTo s fd ⟨[v], []⟩ [("_law_script", v)]) ∧ ∀ base : Heap, K.In base → base.Ns mainGlobals mg → FnOk P w K mg base (L2.CX P w) 11 f fd ["_law_script"] (spF K 1 f_law) := by
  obtain ⟨fd_is_integer, F_is_integer⟩ := c.def_ 0 (d := d_is_integer) rfl
  have g_is_integer := He.glo_ok X G (c.fact 0 (f := .glo "is_integer") rfl)
  obtain ⟨fd_is_within, F_is_within⟩ := c.def_ 1 (d := d_is_within) rfl
  have g_is_within := He.glo_ok X G (c.fact 1 (f := .glo "is_within") rfl)
  obtain ⟨fd_undone_in, F_undone_in⟩ := c.def_ 2 (d := d_undone_in) rfl
  have g_undone_in := He.glo_ok X G (c.fact 2 (f := .glo "undone_in") rfl)
  obtain ⟨fd_is_field, F_is_field⟩ := c.def_ 3 (d := d_is_field) rfl
  have g_is_field := He.glo_ok X G (c.fact 3 (f := .glo "is_field") rfl)
  obtain ⟨fd_require_field_field, F_require_field_field⟩ := c.def_ 4 (d := d_require_field_field) rfl
  have g_require_field_field := He.glo_ok X G (c.fact 4 (f := .glo "require_field_field") rfl)
  obtain ⟨fd_require_number, F_require_number⟩ := c.def_ 5 (d := d_require_number) rfl
  have g_require_number := He.glo_ok X G (c.fact 5 (f := .glo "require_number") rfl)
  obtain ⟨fd_is_number, F_is_number⟩ := c.def_ 6 (d := d_is_number) rfl
  have g_is_number := He.glo_ok X G (c.fact 6 (f := .glo "is_number") rfl)
  obtain ⟨fd_undone, F_undone⟩ := c.def_ 7 (d := d_undone) rfl
  have g_undone := He.glo_ok X G (c.fact 7 (f := .glo "undone") rfl)
  obtain ⟨fd_is_from, F_is_from⟩ := c.def_ 8 (d := d_is_from) rfl
  have g_is_from := He.glo_ok X G (c.fact 8 (f := .glo "is_from") rfl)
  obtain ⟨fd_are_numbers, F_are_numbers⟩ := c.def_ 9 (d := d_are_numbers) rfl
  have g_are_numbers := He.glo_ok X G (c.fact 9 (f := .glo "are_numbers") rfl)
  obtain ⟨fd_most_houses, F_most_houses⟩ := c.def_ 10 (d := d_most_houses) rfl
  have g_most_houses := He.glo_ok X G (c.fact 10 (f := .glo "most_houses") rfl)
  obtain ⟨fd_is_word_in, F_is_word_in⟩ := c.def_ 11 (d := d_is_word_in) rfl
  have g_is_word_in := He.glo_ok X G (c.fact 11 (f := .glo "is_word_in") rfl)
  obtain ⟨fd_product_of, F_product_of⟩ := c.def_ 12 (d := d_product_of) rfl
  have g_product_of := He.glo_ok X G (c.fact 12 (f := .glo "product_of") rfl)
  obtain ⟨fd_weights_at, F_weights_at⟩ := c.def_ 13 (d := d_weights_at) rfl
  have g_weights_at := He.glo_ok X G (c.fact 13 (f := .glo "weights_at") rfl)
  obtain ⟨fd_power_table, F_power_table⟩ := c.def_ 14 (d := d_power_table) rfl
  have g_power_table := He.glo_ok X G (c.fact 14 (f := .glo "power_table") rfl)
  obtain ⟨fd_syndromes_in, F_syndromes_in⟩ := c.def_ 15 (d := d_syndromes_in) rfl
  have g_syndromes_in := He.glo_ok X G (c.fact 15 (f := .glo "syndromes_in") rfl)
  obtain ⟨fd_require_field_words, F_require_field_words⟩ := c.def_ 16 (d := d_require_field_words) rfl
  have g_require_field_words := He.glo_ok X G (c.fact 16 (f := .glo "require_field_words") rfl)
  obtain ⟨fd_require_from, F_require_from⟩ := c.def_ 17 (d := d_require_from) rfl
  have g_require_from := He.glo_ok X G (c.fact 17 (f := .glo "require_from") rfl)
  obtain ⟨fd_require_word, F_require_word⟩ := c.def_ 18 (d := d_require_word) rfl
  have g_require_word := He.glo_ok X G (c.fact 18 (f := .glo "require_word") rfl)
  obtain ⟨fd_syndromes, F_syndromes⟩ := c.def_ 19 (d := d_syndromes) rfl
  have g_syndromes := He.glo_ok X G (c.fact 19 (f := .glo "syndromes") rfl)
  obtain ⟨fd__law_dice, F__law_dice⟩ := c.def_ 20 (d := d__law_dice) rfl
  have g__law_dice := He.glo_ok X G (c.fact 20 (f := .glo "_law_dice") rfl)
  obtain ⟨fd__law_roll, F__law_roll⟩ := c.def_ 21 (d := d__law_roll) rfl
  have g__law_roll := He.glo_ok X G (c.fact 21 (f := .glo "_law_roll") rfl)
  obtain ⟨fd__law_pick, F__law_pick⟩ := c.def_ 22 (d := d__law_pick) rfl
  have g__law_pick := He.glo_ok X G (c.fact 22 (f := .glo "_law_pick") rfl)
  obtain ⟨fd__law_mixed, F__law_mixed⟩ := c.def_ 23 (d := d__law_mixed) rfl
  have g__law_mixed := He.glo_ok X G (c.fact 23 (f := .glo "_law_mixed") rfl)
  obtain ⟨fd__law_fd_undone, F__law_fd_undone⟩ := c.def_ 24 (d := d__law_fd_undone) rfl
  have g__law_fd_undone := He.glo_ok X G (c.fact 24 (f := .glo "_law_fd_undone") rfl)
  obtain ⟨fd__law_fd_trim, F__law_fd_trim⟩ := c.def_ 25 (d := d__law_fd_trim) rfl
  have g__law_fd_trim := He.glo_ok X G (c.fact 25 (f := .glo "_law_fd_trim") rfl)
  obtain ⟨fd__law_fd_value, F__law_fd_value⟩ := c.def_ 26 (d := d__law_fd_value) rfl
  have g__law_fd_value := He.glo_ok X G (c.fact 26 (f := .glo "_law_fd_value") rfl)
  obtain ⟨fd__law_fd_columns, F__law_fd_columns⟩ := c.def_ 27 (d := d__law_fd_columns) rfl
  have g__law_fd_columns := He.glo_ok X G (c.fact 27 (f := .glo "_law_fd_columns") rfl)
  obtain ⟨fd__law_fd_solved, F__law_fd_solved⟩ := c.def_ 28 (d := d__law_fd_solved) rfl
  have g__law_fd_solved := He.glo_ok X G (c.fact 28 (f := .glo "_law_fd_solved") rfl)
  obtain ⟨fd__law_sizes, F__law_sizes⟩ := c.def_ 29 (d := d__law_sizes) rfl
  have g__law_sizes := He.glo_ok X G (c.fact 29 (f := .glo "_law_sizes") rfl)
  obtain ⟨fd__law_poly_drawn, F__law_poly_drawn⟩ := c.def_ 30 (d := d__law_poly_drawn) rfl
  have g__law_poly_drawn := He.glo_ok X G (c.fact 30 (f := .glo "_law_poly_drawn") rfl)
  obtain ⟨fd__law_told, F__law_told⟩ := c.def_ 31 (d := d__law_told) rfl
  have g__law_told := He.glo_ok X G (c.fact 31 (f := .glo "_law_told") rfl)
  obtain ⟨fd__law_bent, F__law_bent⟩ := c.def_ 32 (d := d__law_bent) rfl
  have g__law_bent := He.glo_ok X G (c.fact 32 (f := .glo "_law_bent") rfl)
  obtain ⟨fd__law_powers, F__law_powers⟩ := c.def_ 33 (d := d__law_powers) rfl
  have g__law_powers := He.glo_ok X G (c.fact 33 (f := .glo "_law_powers") rfl)
  obtain ⟨fd__law_fitting, F__law_fitting⟩ := c.def_ 34 (d := d__law_fitting) rfl
  have g__law_fitting := He.glo_ok X G (c.fact 34 (f := .glo "_law_fitting") rfl)
  obtain ⟨fd__law_syndromes, F__law_syndromes⟩ := c.def_ 35 (d := d__law_syndromes) rfl
  have g__law_syndromes := He.glo_ok X G (c.fact 35 (f := .glo "_law_syndromes") rfl)
  obtain ⟨fd__law_added, F__law_added⟩ := c.def_ 36 (d := d__law_added) rfl
  have g__law_added := He.glo_ok X G (c.fact 36 (f := .glo "_law_added") rfl)
  obtain ⟨fd__law_right, F__law_right⟩ := c.def_ 37 (d := d__law_right) rfl
  have g__law_right := He.glo_ok X G (c.fact 37 (f := .glo "_law_right") rfl)
  obtain ⟨fd_law, F_law⟩ := c.def_ 38 (d := d_law) rfl
  have g_law := He.glo_ok X G (c.fact 38 (f := .glo "law") rfl)
  have T : Fx mg := ⟨He.free_ok X G (c.fact 39 (f := .free "abs") rfl),
    He.free_ok X G (c.fact 40 (f := .free "all") rfl),
    He.free_ok X G (c.fact 41 (f := .free "bool") rfl),
    He.free_ok X G (c.fact 42 (f := .free "enumerate") rfl),
    He.free_ok X G (c.fact 43 (f := .free "int") rfl),
    He.free_ok X G (c.fact 44 (f := .free "isinstance") rfl),
    He.free_ok X G (c.fact 45 (f := .free "len") rfl),
    He.free_ok X G (c.fact 46 (f := .free "list") rfl),
    He.free_ok X G (c.fact 47 (f := .free "max") rfl),
    He.free_ok X G (c.fact 48 (f := .free "min") rfl),
    He.free_ok X G (c.fact 49 (f := .free "range") rfl),
    He.free_ok X G (c.fact 50 (f := .free "sum") rfl),
    He.free_ok X G (c.fact 51 (f := .free "tuple") rfl),
    He.free_ok X G (c.fact 52 (f := .free "zip") rfl),
    He.int_ok X G (c.fact 53 (f := .int "LEAST_FIELD" 5) rfl),
    He.int_ok X G (c.fact 54 (f := .int "MAX_FIELD" 997) rfl),
    He.int_ok X G (c.fact 55 (f := .int "MAX_HOUSES" 9) rfl),
    He.int_ok X G (c.fact 56 (f := .int "MOST_PART" 32) rfl)⟩
  have e := hfa.symm.trans g_law
  cases e
  have b := FunD.bindsA (ps := ["_law_script"]) F_law fun _ _ _ _ _ _ us hl => match us, hl with | [_], _ => rfl
  refine ⟨fd_law, fun s v => b s [v] rfl, fun base _ _ => ?_⟩
  have c_is_integer := k_is_integer (P := P) (w := w) (base := base) T F_is_integer g_is_integer 
  have c_is_within := k_is_within (P := P) (w := w) (base := base) T F_is_within g_is_within c_is_integer
  have c_undone_in := k_undone_in (P := P) (w := w) (base := base) T F_undone_in g_undone_in 
  have c_is_field := k_is_field (P := P) (w := w) (base := base) T F_is_field g_is_field c_is_within
  have c_require_field_field := k_require_field_field (P := P) (w := w) (base := base) T F_require_field_field g_require_field_field c_is_field
  have c_require_number := k_require_number (P := P) (w := w) (base := base) T F_require_number g_require_number c_is_within
  have c_is_number := k_is_number (P := P) (w := w) (base := base) T F_is_number g_is_number c_require_field_field c_is_within
  have c_undone := k_undone (P := P) (w := w) (base := base) T F_undone g_undone c_require_field_field c_require_number c_undone_in
  have c_is_from := k_is_from (P := P) (w := w) (base := base) T F_is_from g_is_from 
  have c_are_numbers := k_are_numbers (P := P) (w := w) (base := base) T F_are_numbers g_are_numbers c_is_number
  have c_most_houses := k_most_houses (P := P) (w := w) (base := base) T F_most_houses g_most_houses 
  have c_is_word_in := k_is_word_in (P := P) (w := w) (base := base) T F_is_word_in g_is_word_in c_most_houses c_are_numbers
  have c_product_of := k_product_of (P := P) (w := w) (base := base) T F_product_of g_product_of 
  have c_weights_at := k_weights_at (P := P) (w := w) (base := base) T F_weights_at g_weights_at c_undone c_product_of
  have c_power_table := k_power_table (P := P) (w := w) (base := base) T F_power_table g_power_table c_weights_at
  have c_syndromes_in := k_syndromes_in (P := P) (w := w) (base := base) T F_syndromes_in g_syndromes_in c_power_table
  have c_require_field_words := k_require_field_words (P := P) (w := w) (base := base) T F_require_field_words g_require_field_words c_is_field
  have c_require_from := k_require_from (P := P) (w := w) (base := base) T F_require_from g_require_from c_is_from
  have c_require_word := k_require_word (P := P) (w := w) (base := base) T F_require_word g_require_word c_require_field_words c_is_word_in c_require_from
  have c_syndromes := k_syndromes (P := P) (w := w) (base := base) T F_syndromes g_syndromes c_require_word c_syndromes_in
  have c__law_dice := k__law_dice (P := P) (w := w) (base := base) T F__law_dice g__law_dice 
  have c__law_roll := k__law_roll (P := P) (w := w) (base := base) T F__law_roll g__law_roll 
  have c__law_pick := k__law_pick (P := P) (w := w) (base := base) T F__law_pick g__law_pick c__law_roll
  have c__law_mixed := k__law_mixed (P := P) (w := w) (base := base) T F__law_mixed g__law_mixed c__law_roll
  have c__law_fd_undone := k__law_fd_undone (P := P) (w := w) (base := base) T F__law_fd_undone g__law_fd_undone 
  have c__law_fd_trim := k__law_fd_trim (P := P) (w := w) (base := base) T F__law_fd_trim g__law_fd_trim 
  have c__law_fd_value := k__law_fd_value (P := P) (w := w) (base := base) T F__law_fd_value g__law_fd_value 
  have c__law_fd_columns := k__law_fd_columns (P := P) (w := w) (base := base) T F__law_fd_columns g__law_fd_columns c__law_fd_undone
  have c__law_fd_solved := k__law_fd_solved (P := P) (w := w) (base := base) T F__law_fd_solved g__law_fd_solved c__law_fd_columns
  have c__law_sizes := k__law_sizes (P := P) (w := w) (base := base) T F__law_sizes g__law_sizes c__law_pick c__law_roll
  have c__law_poly_drawn := k__law_poly_drawn (P := P) (w := w) (base := base) T F__law_poly_drawn g__law_poly_drawn c__law_fd_trim c__law_roll
  have c__law_told := k__law_told (P := P) (w := w) (base := base) T F__law_told g__law_told c__law_fd_value
  have c__law_bent := k__law_bent (P := P) (w := w) (base := base) T F__law_bent g__law_bent c__law_mixed c__law_roll
  have c__law_powers := k__law_powers (P := P) (w := w) (base := base) T F__law_powers g__law_powers 
  have c__law_fitting := k__law_fitting (P := P) (w := w) (base := base) T F__law_fitting g__law_fitting c__law_fd_solved c__law_powers c__law_fd_trim
  have c__law_syndromes := k__law_syndromes (P := P) (w := w) (base := base) T F__law_syndromes g__law_syndromes c__law_powers c__law_fd_undone
  have c__law_added := k__law_added (P := P) (w := w) (base := base) T F__law_added g__law_added 
  have c__law_right := k__law_right (P := P) (w := w) (base := base) T F__law_right g__law_right c__law_sizes c__law_roll c_syndromes c__law_syndromes c__law_added c__law_told c__law_poly_drawn c__law_bent c__law_fitting
  have c_law := k_law (P := P) (w := w) (base := base) T F_law g_law c__law_dice c__law_right c_syndromes
  exact c_law.ok
end K13
/-! Po: polys with whole numbers, and modulo a number, in plain Lean. -/
namespace Po
def co (f : List Int) (k : Nat) : Int := f.getD k 0
@[simp] theorem co_nil (k : Nat) : co [] k = 0 := by simp [co]
@[simp] theorem co_zero (a : Int) (f : List Int) : co (a :: f) 0 = a := by simp [co]
@[simp] theorem co_succ (a : Int) (f : List Int) (k : Nat) : co (a :: f) (k + 1) = co f k := by simp [co]
theorem co_ge {f : List Int} {k : Nat} (h : f.length ≤ k) : co f k = 0 := by simp [co, List.getD, List.getElem?_eq_none h]
theorem co_lt {f : List Int} {k : Nat} (h : k < f.length) : co f k = f[k] := by simp [co, List.getD, h]
theorem co_get {f : List Int} {k : Nat} {a : Int} (h : f[k]? = some a) : co f k = a := by simp [co, List.getD, h]
theorem co_map {g : Int → Int} (g0 : g 0 = 0) : ∀ (f : List Int) (k : Nat), co (f.map g) k = g (co f k)
  | [], k => by simp [g0]
  | a :: f, 0 => by simp
  | a :: f, k + 1 => by simp [co_map g0 f k]
theorem co_tab (F : Nat → Int) (n k : Nat) : co ((List.range n).map F) k = if k < n then F k else 0 := by
  unfold co
  by_cases h : k < n
  · simp [h]
  · simp [h]
theorem co_set (f : List Int) (i : Nat) (a : Int) (k : Nat) (h : i < f.length) : co (f.set i a) k = if k = i then a else co f k := by
  unfold co
  by_cases e : k = i
  · subst e; simp [h]
  · have : i ≠ k := fun z => e z.symm
    simp [e, this]
theorem co_take (f : List Int) (n k : Nat) : co (f.take n) k = if k < n then co f k else 0 := by
  unfold co
  by_cases h : k < n
  · simp [h]
  · simp [h, List.getElem?_take]
theorem co_app (f g : List Int) (k : Nat) : co (f ++ g) k = if k < f.length then co f k else co g (k - f.length) := by
  unfold co
  by_cases h : k < f.length
  · simp [h, List.getElem?_append_left h]
  · simp [h, List.getElem?_append_right (Nat.le_of_not_lt h)]
theorem co_rep (n k : Nat) : co (List.replicate n 0) k = 0 := by
  unfold co
  by_cases h : k < n
  · simp [h]
  · simp [h]
/-! ### the zeros at the end left out -/
def trim : List Int → List Int
  | [] => []
  | a :: f => if a = 0 ∧ trim f = [] then [] else a :: trim f
theorem co_trim : ∀ (f : List Int) (k : Nat), co (trim f) k = co f k
  | [], k => rfl
  | a :: f, k => by
    unfold trim
    split
    · rename_i h
      cases k with
      | zero => simp [h.1]
      | succ k =>
        rw [co_succ, ← co_trim f k, h.2]; simp
    · cases k with
      | zero => simp
      | succ k => rw [co_succ, co_succ, co_trim f k]
theorem trim_nil : ∀ {f : List Int}, (∀ k, co f k = 0) → trim f = []
  | [], _ => rfl
  | a :: f, h => by
    unfold trim
    rw [if_pos ⟨by simpa using h 0, trim_nil fun k => by simpa using h (k + 1)⟩]
theorem trim_ext : ∀ {f g : List Int}, (∀ k, co f k = co g k) → trim f = trim g
  | [], g, h => (trim_nil fun k => by rw [← h k]; simp).symm
  | a :: f, [], h => trim_nil fun k => by rw [h k]; simp
  | a :: f, b :: g, h => by
    have e : a = b := by simpa using h 0
    have t := trim_ext (f := f) (g := g) fun k => by simpa using h (k + 1)
    unfold trim
    rw [e, t]
theorem trim_trim (f : List Int) : trim (trim f) = trim f := trim_ext (co_trim f)
theorem trim_len : ∀ f : List Int, (trim f).length ≤ f.length
  | [] => Nat.le_refl _
  | a :: f => by
    unfold trim
    split
    · simp
    · have := trim_len f
      simpa using this
theorem trim_mem : ∀ {f : List Int} {a : Int}, a ∈ trim f → a ∈ f
  | [], a, h => h
  | b :: f, a, h => by
    unfold trim at h
    split at h
    · cases h
    · rcases List.mem_cons.mp h with e | e
      · exact List.mem_cons.mpr (.inl e)
      · exact List.mem_cons_of_mem _ (trim_mem e)
theorem trim_last : ∀ {f : List Int} {n : Nat}, (trim f).length = n + 1 → co f n ≠ 0
  | [], n, h => by simp [trim] at h
  | a :: f, n, h => by
    unfold trim at h
    split at h
    · simp at h
    · rename_i hn
      cases n with
      | zero =>
        have : trim f = [] := by simpa using h
        simpa [this] using hn
      | succ n => simpa using trim_last (f := f) (n := n) (by simpa using h)
theorem trim_self : ∀ {f : List Int}, (∀ n, f.length = n + 1 → co f n ≠ 0) → trim f = f
  | [], _ => rfl
  | [a], h => by
    have : a ≠ 0 := by simpa using h 0 rfl
    simp [trim, this]
  | a :: b :: f, h => by
    have t := trim_self (f := b :: f) fun n e => by simpa using h (n + 1) (by simpa using e)
    unfold trim
    rw [t]
    simp
/-- entries from 0 to p - 1 -/
def Red (p : Int) (f : List Int) : Prop := ∀ a ∈ f, 0 ≤ a ∧ a < p
structure IsP (p : Int) (f : List Int) : Prop where
  red : Red p f
  tr : trim f = f
theorem Red.co {p : Int} {f : List Int} (h : Red p f) (hp : 0 < p) (k : Nat) : 0 ≤ co f k ∧ co f k < p := by
  by_cases e : k < f.length
  · rw [co_lt e]; exact h _ (List.getElem_mem _)
  · rw [co_ge (Nat.le_of_not_lt e)]; exact ⟨Int.le_refl _, hp⟩
theorem Red.mod {p : Int} {f : List Int} (h : Red p f) (hp : 0 < p) (k : Nat) : Po.co f k % p = Po.co f k := Int.emod_eq_of_lt (h.co hp k).1 (h.co hp k).2
theorem Red.trim {p : Int} {f : List Int} (h : Red p f) : Red p (trim f) := fun a ha => h a (trim_mem ha)
theorem red_map {p : Int} (hp : 0 < p) (f : List Int) : Red p (f.map (· % p)) := fun a ha => by
  obtain ⟨b, _, rfl⟩ := List.mem_map.mp ha
  exact ⟨Int.emod_nonneg _ (by omega), Int.emod_lt_of_pos _ hp⟩
theorem IsP.nil {p : Int} : IsP p [] := ⟨fun a (h : a ∈ []) => (nomatch h), rfl⟩
theorem IsP.of {p : Int} {f : List Int} (h : Red p f) : IsP p (trim f) := ⟨h.trim, trim_trim f⟩
theorem IsP.last {p : Int} {f : List Int} (h : IsP p f) {n : Nat} (e : f.length = n + 1) : Po.co f n ≠ 0 := trim_last (by rw [h.tr]; exact e)
def nm (p : Int) (f : List Int) : List Int := trim (f.map (· % p))
theorem co_nm (p : Int) (f : List Int) (k : Nat) : co (nm p f) k = co f k % p := by
  unfold nm
  rw [co_trim, co_map (by simp)]
theorem nm_ext {p : Int} {f g : List Int} (h : ∀ k, co f k % p = co g k % p) : nm p f = nm p g := by
  refine trim_ext fun k => ?_
  rw [co_map (by simp), co_map (by simp)]
  exact h k
theorem nm_isP {p : Int} (hp : 0 < p) (f : List Int) : IsP p (nm p f) := .of (red_map hp f)
theorem nm_id {p : Int} {f : List Int} (hp : 0 < p) (h : IsP p f) : nm p f = f := by
  have : f.map (· % p) = f := by
    refine (List.map_congr_left fun a ha => ?_).trans (List.map_id f)
    exact Int.emod_eq_of_lt (h.red a ha).1 (h.red a ha).2
  unfold nm
  rw [this, h.tr]
theorem nm_trim {p : Int} {f : List Int} (hp : 0 < p) (h : Red p f) : trim f = nm p f := by
  refine trim_ext fun k => ?_
  rw [co_map (by simp), h.mod hp]
theorem isP_ext {p : Int} {f g : List Int} (hp : 0 < p) (hf : IsP p f) (hg : IsP p g) (h : ∀ k, co f k % p = co g k % p) : f = g := by
  rw [← nm_id hp hf, ← nm_id hp hg]
  exact nm_ext h
theorem nm_len (p : Int) (f : List Int) : (nm p f).length ≤ f.length := by
  have := trim_len (f.map (· % p))
  unfold nm
  simpa using this
theorem len_of_co {p : Int} {f : List Int} {n : Nat} (hf : IsP p f) (h : ∀ k, n ≤ k → co f k = 0) : f.length ≤ n := by
  cases e : f.length with
  | zero => omega
  | succ k =>
    have := hf.last e
    by_cases hk : n ≤ k
    · exact absurd (h k hk) this
    · omega
/-! ### sums, products, values -/
def padd : List Int → List Int → List Int
  | [], g => g
  | f, [] => f
  | a :: f, b :: g => (a + b) :: padd f g
theorem co_padd : ∀ (f g : List Int) (k : Nat), co (padd f g) k = co f k + co g k
  | [], g, k => by simp [padd]
  | a :: f, [], k => by simp [padd]
  | a :: f, b :: g, 0 => by simp [padd]
  | a :: f, b :: g, k + 1 => by simp [padd, co_padd f g k]
theorem padd_len : ∀ (f g : List Int), (padd f g).length = max f.length g.length
  | [], g => by simp [padd]
  | a :: f, [] => by simp [padd]
  | a :: f, b :: g => by simp [padd, padd_len f g]
def psc (c : Int) (f : List Int) : List Int := f.map (c * ·)
theorem co_psc (c : Int) (f : List Int) (k : Nat) : co (psc c f) k = c * co f k := co_map (by simp) f k
@[simp] theorem psc_len (c : Int) (f : List Int) : (psc c f).length = f.length := by simp [psc]
def pmul : List Int → List Int → List Int
  | [], _ => []
  | a :: f, g => padd (psc a g) (0 :: pmul f g)
theorem co_pmul0 (a : Int) (f g : List Int) : co (pmul (a :: f) g) 0 = a * co g 0 := by simp [pmul, co_padd, co_psc]
theorem co_pmulS (a : Int) (f g : List Int) (k : Nat) : co (pmul (a :: f) g) (k + 1) = a * co g (k + 1) + co (pmul f g) k := by simp [pmul, co_padd, co_psc]
theorem co_pmul_snoc (a : Int) (g : List Int) : ∀ (f : List Int) (k : Nat), co (pmul (f ++ [a]) g) k = co (pmul f g) k + if f.length ≤ k then a * co g (k - f.length) else 0
  | [], 0 => by show co (pmul [a] g) 0 = _; rw [co_pmul0]; simp [pmul]
  | [], k + 1 => by show co (pmul [a] g) (k + 1) = _; rw [co_pmulS]; simp [pmul]
  | b :: f, 0 => by simp [co_pmul0]
  | b :: f, k + 1 => by
    rw [List.cons_append, co_pmulS, co_pmulS, co_pmul_snoc a g f k]
    simp [Int.add_assoc]
theorem co_pmul_add (h g : List Int) : ∀ (f : List Int) (k : Nat) , co (pmul (padd f h) g) k = co (pmul f g) k + co (pmul h g) k := by
  intro f
  induction f generalizing h with
  | nil => intro k; simp [padd, pmul]
  | cons a f ih =>
    intro k
    cases h with
    | nil => simp [padd, pmul]
    | cons b h =>
      cases k with
      | zero => simp [padd, co_pmul0, Int.add_mul]
      | succ k => rw [padd, co_pmulS, co_pmulS, co_pmulS, ih h k, Int.add_mul]; omega
theorem co_pmul_sc (c : Int) (g : List Int) : ∀ (f : List Int) (k : Nat), co (pmul (psc c f) g) k = c * co (pmul f g) k
  | [], k => by simp [psc, pmul]
  | a :: f, 0 => by simp [psc, co_pmul0, Int.mul_assoc]
  | a :: f, k + 1 => by
    have := co_pmul_sc c g f k
    show co (pmul (c * a :: psc c f) g) (k + 1) = _
    rw [co_pmulS, co_pmulS, this, Int.mul_add, Int.mul_assoc]
theorem co_pmul_set (c : Int) (g : List Int) : ∀ (f : List Int) (i k : Nat), i < f.length → co (pmul (f.set i (co f i + c)) g) k = co (pmul f g) k + if i ≤ k then c * co g (k - i) else 0
  | [], i, k, h => by simp at h
  | a :: f, 0, 0, h => by simp [co_pmul0, Int.add_mul]
  | a :: f, 0, k + 1, h => by simp [co_pmulS, Int.add_mul]; omega
  | a :: f, i + 1, 0, h => by simp [co_pmul0]
  | a :: f, i + 1, k + 1, h => by
    have := co_pmul_set c g f i k (by simpa using h)
    simp only [List.set_cons_succ, co_succ]
    rw [co_pmulS, co_pmulS, this]
    simp [Int.add_assoc]
theorem co_pmul_ge : ∀ (f g : List Int) (k : Nat), f.length + g.length ≤ k + 1 → co (pmul f g) k = 0
  | [], g, k, h => by simp [pmul]
  | [a], g, 0, h => by
    have : g.length ≤ 0 := by simp at h; omega
    rw [co_pmul0, co_ge this, Int.mul_zero]
  | a :: b :: f, g, 0, h => by simp at h; omega
  | a :: f, g, k + 1, h => by
    have h1 : f.length + g.length ≤ k + 1 := by
      have : f.length + 1 + g.length ≤ k + 1 + 1 := by simpa using h
      omega
    rw [co_pmulS, co_ge (f := g) (by omega), co_pmul_ge f g k h1]
    simp
theorem co_pmul_top : ∀ (f g : List Int) (n k : Nat), f.length = n + 1 → g.length = k + 1 → co (pmul f g) (n + k) = co f n * co g k
  | [], g, n, k, h, _ => by simp at h
  | a :: f, g, 0, k, h, hg => by
    have hf : f = [] := by simpa using h
    subst hf
    cases k with
    | zero => simp [co_pmul0]
    | succ k => rw [Nat.zero_add, co_pmulS]; simp [pmul]
  | a :: f, g, n + 1, k, h, hg => by
    have := co_pmul_top f g n k (by simpa using h) hg
    rw [show n + 1 + k = n + k + 1 by omega, co_pmulS, this, co_succ, co_ge (f := g) (k := n + k + 1) (by omega)]
    simp
def pev : List Int → Int → Int
  | [], _ => 0
  | a :: f, x => a + x * pev f x
@[simp] theorem pev_nil (x : Int) : pev [] x = 0 := rfl
theorem pev_padd (x : Int) : ∀ f g : List Int, pev (padd f g) x = pev f x + pev g x
  | [], g => by simp [padd]
  | a :: f, [] => by simp [padd]
  | a :: f, b :: g => by
    simp only [padd, pev, pev_padd x f g, Int.mul_add]
    omega
theorem pev_psc (c x : Int) : ∀ f : List Int, pev (psc c f) x = c * pev f x
  | [] => by simp [psc]
  | a :: f => by
    have := pev_psc c x f
    show c * a + x * pev (psc c f) x = c * (a + x * pev f x)
    rw [this, Int.mul_add, Int.mul_left_comm]
theorem pev_pmul (x : Int) (g : List Int) : ∀ f : List Int, pev (pmul f g) x = pev f x * pev g x
  | [] => by simp [pmul]
  | a :: f => by
    rw [pmul, pev_padd, pev_psc, pev, pev_pmul x g f]
    show _ = (a + x * pev f x) * pev g x
    rw [Int.add_mul, Int.mul_assoc]
    omega
theorem pev_ext0 {p : Int} (x : Int) : ∀ {f : List Int}, (∀ k, co f k % p = 0) → pev f x % p = 0
  | [], _ => by simp
  | a :: f, h => by
    have h0 : a % p = 0 := by simpa using h 0
    have t := pev_ext0 (f := f) x fun k => by simpa using h (k + 1)
    show (a + x * pev f x) % p = 0
    rw [Int.add_emod, h0, Int.mul_emod, t]
    simp
theorem pev_ext {p : Int} (x : Int) : ∀ {f g : List Int}, (∀ k, co f k % p = co g k % p) → pev f x % p = pev g x % p
  | [], g, h => by rw [pev_ext0 (f := g) x fun k => by rw [← h k]; simp]; simp
  | a :: f, [], h => by rw [pev_ext0 (f := a :: f) x fun k => by rw [h k]; simp]; simp
  | a :: f, b :: g, h => by
    have h0 : a % p = b % p := by simpa using h 0
    have t := pev_ext (f := f) (g := g) x fun k => by simpa using h (k + 1)
    show (a + x * pev f x) % p = (b + x * pev g x) % p
    rw [Int.add_emod, h0, Int.mul_emod, t, ← Int.mul_emod, ← Int.add_emod]
theorem pev_nm (p x : Int) (f : List Int) : pev (nm p f) x % p = pev f x % p := pev_ext x fun k => by rw [co_nm, Int.emod_emod_of_dvd _ (Int.dvd_refl p)]
theorem pev_mod (p x : Int) : ∀ f : List Int, pev f (x % p) % p = pev f x % p
  | [] => rfl
  | a :: f => by
    show (a + x % p * pev f (x % p)) % p = (a + x * pev f x) % p
    rw [Int.add_emod, Ev.mul_mod_l, ← Ev.mul_mod_r, pev_mod p x f, Ev.mul_mod_r, ← Int.add_emod]
theorem pev_zero (f : List Int) : pev f 0 = co f 0 := by cases f <;> simp [pev]
theorem pev_snoc (a x : Int) : ∀ f : List Int, pev (f ++ [a]) x = pev f x + x ^ f.length * a
  | [] => by simp [pev]
  | b :: f => by
    show b + x * pev (f ++ [a]) x = b + x * pev f x + x ^ (f.length + 1) * a
    rw [pev_snoc a x f, Int.pow_succ, Int.mul_add, Int.mul_comm (x ^ f.length) x, Int.mul_assoc]
    omega
/-! ### a poly is 0 at no more places than its degree says -/
def quo (r : Int) : List Int → List Int
  | [] => []
  | _ :: f => padd f (psc r (quo r f))
theorem quo_len (r : Int) : ∀ f : List Int, (quo r f).length ≤ f.length - 1
  | [] => by simp [quo]
  | a :: f => by
    have := quo_len r f
    simp only [quo, padd_len, psc_len, List.length_cons]
    omega
theorem pev_quo (r x : Int) : ∀ f : List Int, pev f x = pev f r + (x - r) * pev (quo r f) x
  | [] => by simp [quo]
  | a :: f => by
    have e : pev (quo r (a :: f)) x = pev f x + r * pev (quo r f) x := by rw [quo, pev_padd, pev_psc]
    have t := pev_quo r x f
    show a + x * pev f x = a + r * pev f r + (x - r) * pev (quo r (a :: f)) x
    rw [e]
    generalize pev (quo r f) x = q at *
    generalize pev f x = u at *
    generalize pev f r = v at *
    subst t
    have h1 : (x - r) * (v + (x - r) * q + r * q) = (x - r) * v + (x - r) * ((x - r) * q + r * q) := by rw [← Int.mul_add, Int.add_assoc]
    have h2 : (x - r) * q + r * q = x * q := by rw [← Int.add_mul]; congr 1; omega
    have h3 : x * (v + (x - r) * q) = x * v + (x - r) * (x * q) := by rw [Int.mul_add, Int.mul_left_comm]
    rw [h1, h2, h3, Int.sub_mul x r v]
    omega
theorem co_quo (r : Int) : ∀ (f : List Int) (k : Nat), co (quo r f) k = co f (k + 1) + r * co (quo r f) (k + 1)
  | [], k => by simp [quo]
  | a :: f, k => by
    have t := co_quo r f k
    simp only [quo, co_padd, co_psc, co_succ]
    rw [t]
/-- a number that has no divisor but 1 and itself -/
structure Pr (p : Int) : Prop where
  two : 2 ≤ p
  dv : ∀ d : Int, 0 < d → d ∣ p → d = 1 ∨ d = p
theorem Pr.cop {p : Int} (h : Pr p) {a : Int} (ha : ¬ p ∣ a) : Int.gcd p a = 1 := by
  have g0 : (0 : Int) < Int.gcd p a := by
    have : Int.gcd p a ≠ 0 := fun z => by
      have := Int.gcd_eq_zero_iff.mp z
      have := h.two
      omega
    omega
  rcases h.dv _ g0 (Int.gcd_dvd_left ..) with e | e
  · exact_mod_cast e
  · exact absurd (e ▸ Int.gcd_dvd_right p a) ha
theorem Pr.mul {p : Int} (h : Pr p) {a b : Int} (hd : p ∣ a * b) : p ∣ a ∨ p ∣ b := by
  by_cases ha : p ∣ a
  · exact .inl ha
  · refine .inr (Int.natAbs_dvd_natAbs.mp ?_)
    have e := Int.natAbs_dvd_natAbs.mpr hd
    rw [Int.natAbs_mul] at e
    exact Nat.Coprime.dvd_of_dvd_mul_left (h.cop ha) e
theorem Pr.mul0 {p : Int} (h : Pr p) {a b : Int} (hd : a * b % p = 0) : a % p = 0 ∨ b % p = 0 := (h.mul (Int.dvd_of_emod_eq_zero hd)).imp Int.emod_eq_zero_of_dvd Int.emod_eq_zero_of_dvd
theorem eq_of_mod {p a b : Int} (a0 : 0 ≤ a) (a1 : a < p) (b0 : 0 ≤ b) (b1 : b < p) (h : (a - b) % p = 0) : a = b := by
  have := Int.emod_emod_of_dvd a (Int.dvd_refl p)
  have e : a % p = b % p := Int.emod_eq_emod_iff_emod_sub_eq_zero.mpr h
  rwa [Int.emod_eq_of_lt a0 a1, Int.emod_eq_of_lt b0 b1] at e
theorem no_roots {p : Int} (h : Pr p) : ∀ (rs : List Int) (f : List Int), rs.Pairwise (fun a b => ¬ (a - b) % p = 0) → f.length ≤ rs.length → (∀ r ∈ rs, pev f r % p = 0) → ∀ k, co f k % p = 0
  | [], f, _, hl, _, k => by
    have : f = [] := by simpa using hl
    subst this; simp
  | r :: rs, f, hn, hl, hz, k => by
    have hn' := List.pairwise_cons.mp hn
    have hq : ∀ k, co (quo r f) k % p = 0 := no_roots h rs (quo r f) hn'.2 (by have := quo_len r f; simp only [List.length_cons] at hl; omega) fun s hs => by
      have e := pev_quo r s f
      have z1 := hz r (List.mem_cons_self ..)
      have z2 := hz s (List.mem_cons_of_mem _ hs)
      have : (s - r) * pev (quo r f) s % p = 0 := by
        have : (s - r) * pev (quo r f) s = pev f s - pev f r := by omega
        rw [this, Int.sub_emod, z1, z2]; simp
      rcases h.mul0 this with z | z
      · exfalso
        refine hn'.1 s hs ?_
        have : r - s = -(s - r) := by omega
        rw [this]
        exact Int.emod_eq_zero_of_dvd (Int.dvd_neg.mpr (Int.dvd_of_emod_eq_zero z))
      · exact z
    cases k with
    | succ k =>
      have e := co_quo r f k
      have : co f (k + 1) = co (quo r f) k - r * co (quo r f) (k + 1) := by omega
      rw [this, Int.sub_emod, hq k, Int.mul_emod, hq (k + 1)]
      simp
    | zero =>
      have z1 := hz r (List.mem_cons_self ..)
      cases f with
      | nil => simp
      | cons a f =>
        have e0 : pev f r % p = 0 := by
          have q0 := hq 0
          have : pev (quo r (a :: f)) r % p = 0 := pev_ext0 r hq
          have e : pev (quo r (a :: f)) r = pev f r + r * pev (quo r f) r := by rw [quo, pev_padd, pev_psc]
          have z : ∀ k, co f k % p = 0 := fun k => by
            have e := co_quo r (a :: f) k
            have : co f k = co (quo r (a :: f)) k - r * co (quo r (a :: f)) (k + 1) := by rw [co_succ] at e; omega
            rw [this, Int.sub_emod, hq k, Int.mul_emod, hq (k + 1)]
            simp
          exact pev_ext0 r z
        have z1 : (a + r * pev f r) % p = 0 := z1
        rw [Int.add_emod, Int.mul_emod, e0] at z1
        simpa using z1
/-- two polys of lesser degree that agree at enough places -/
theorem agree {p : Int} (h : Pr p) {f g : List Int} (hf : IsP p f) (hg : IsP p g) (rs : List Int) (hn : rs.Pairwise fun a b => ¬ (a - b) % p = 0) (lf : f.length ≤ rs.length) (lg : g.length ≤ rs.length) (e : ∀ r ∈ rs, pev f r % p = pev g r % p) : f = g := by
  have hp : 0 < p := by have := h.two; omega
  refine isP_ext hp hf hg fun k => ?_
  have z := no_roots h rs (padd f (psc (-1) g)) hn (by rw [padd_len, psc_len]; omega) (fun r hr => by
    rw [pev_padd, pev_psc]
    have := e r hr
    have : pev f r + -1 * pev g r = pev f r - pev g r := by omega
    rw [this]
    exact Int.emod_eq_emod_iff_emod_sub_eq_zero.mp (e r hr)) k
  rw [co_padd, co_psc] at z
  have : co f k + -1 * co g k = co f k - co g k := by omega
  rw [this] at z
  exact Int.emod_eq_emod_iff_emod_sub_eq_zero.mpr z
/-- the quotient is the only one -/
theorem div_unique {p : Int} (h : Pr p) {f q r g : List Int} (hf : IsP p f) (hq : IsP p q) (hr : IsP p r) (hg : IsP p g) (hl : r.length < g.length) (e : ∀ k, co (pmul f g) k % p = (co (pmul q g) k + co r k) % p) : q = f ∧ r = [] := by
  have hp : 0 < p := by have := h.two; omega
  have key : ∀ k, co (pmul (padd f (psc (-1) q)) g) k % p = co r k % p := fun k => by
    rw [co_pmul_add, co_pmul_sc]
    have := e k
    rw [show co (pmul f g) k + -1 * co (pmul q g) k = co (pmul f g) k - co (pmul q g) k by omega, Int.sub_emod, this, ← Int.sub_emod]
    congr 1; omega
  -- the difference, brought down
  generalize hd : nm p (padd f (psc (-1) q)) = d at *
  have hdP : IsP p d := by rw [← hd]; exact nm_isP hp _
  have key2 : ∀ k, co (pmul d g) k % p = co r k % p := fun k => by
    rw [← key k, ← hd]
    have : ∀ (u v : List Int), (∀ k, co u k % p = co v k % p) → ∀ k, co (pmul u g) k % p = co (pmul v g) k % p := by
      intro u v huv k
      have z : ∀ (u : List Int), (∀ k, co u k % p = 0) → ∀ k, co (pmul u g) k % p = 0 := by
        intro u
        induction u with
        | nil => intro _ k; simp [pmul]
        | cons a u ih =>
          intro hu k
          have a0 : a % p = 0 := by simpa using hu 0
          have t := ih fun k => by simpa using hu (k + 1)
          cases k with
          | zero => rw [co_pmul0, Int.mul_emod, a0]; simp
          | succ k => rw [co_pmulS, Int.add_emod, Int.mul_emod, a0, t k]; simp
      have := z (padd u (psc (-1) v)) (fun k => by
        rw [co_padd, co_psc, show co u k + -1 * co v k = co u k - co v k by omega]
        exact Int.emod_eq_emod_iff_emod_sub_eq_zero.mp (huv k)) k
      rw [co_pmul_add, co_pmul_sc, show co (pmul u g) k + -1 * co (pmul v g) k = co (pmul u g) k - co (pmul v g) k by omega] at this
      exact Int.emod_eq_emod_iff_emod_sub_eq_zero.mpr this
    exact this _ _ (fun k => by rw [co_nm, Int.emod_emod_of_dvd _ (Int.dvd_refl p)]) k
  have d0 : d = [] := by
    cases e1 : d.length with
    | zero => exact List.length_eq_zero_iff.mp e1
    | succ n =>
      exfalso
      cases e2 : g.length with
      | zero => omega
      | succ k =>
        have t := co_pmul_top d g n k e1 e2
        have z := key2 (n + k)
        rw [t, co_ge (f := r) (k := n + k) (by omega)] at z
        have zz : co d n * co g k % p = 0 := by simpa using z
        rcases h.mul0 zz with y | y
        · exact hdP.last e1 (by rw [← hdP.red.mod hp n]; exact y)
        · exact hg.last e2 (by rw [← hg.red.mod hp k]; exact y)
  constructor
  · refine (isP_ext hp hf hq fun k => ?_).symm
    have : co d k = 0 := by rw [d0]; simp
    rw [← hd, co_nm, co_padd, co_psc, show co f k + -1 * co q k = co f k - co q k by omega] at this
    exact Int.emod_eq_emod_iff_emod_sub_eq_zero.mpr this
  · refine isP_ext hp hr .nil fun k => ?_
    rw [← key2 k, d0]; simp [pmul]
end Po
/-! Pg: what the program's field answers. -/
namespace Pg
open PySem PySem.Spec L2 Ev Po
variable {m : Cells}
theorem roll_eq : f__law_roll = fRoll := rfl
theorem pick_eq : f__law_pick = fPick := rfl
theorem dice_eq : f__law_dice = fDice := rfl
theorem integer_int (v : Int) : f_is_integer [.int v] m = .ok (.d (.bl true)) m := by simp [f_is_integer, b_is_integer]
theorem within_int (v a b : Int) : f_is_within [.int v, .int a, .int b] m = .ok (.d (.bl (decide (a ≤ v) && decide (v ≤ b)))) m := by
  by_cases h : a ≤ v <;> simp [f_is_within, b_is_within, integer_int, h]
def fieldB (v : Int) : Bool := (decide (5 ≤ v) && decide (v ≤ 997)) && (rangeD 2 (if 32 < v then 32 else v)).all fun d => match d with | .int d => !decide (v % d = 0) | _ => true
theorem field_int (v : Int) : f_is_field [.int v] m = .ok (.d (.bl (fieldB v))) m := by
  by_cases h : 5 ≤ v ∧ v ≤ 997
  · have c := comp_map (i := 1) (elt := X_is_field_1) (env := [.d (.int v), .un]) (m := m) (xs := rangeD 2 (if 32 < v then 32 else v)) (F := fun d => .bl (match d with | .int d => !decide (v % d = 0) | _ => true)) (fun x hx => by
      obtain ⟨i, rfl, h1, h2⟩ := rangeD_mem hx
      simp [X_is_field_1, ev_mod (show 0 < i by omega)])
    have l : (rangeD 2 (if 32 < v then 32 else v)).length ≤ 1000000 := by rw [rangeD_len]; split <;> omega
    simp only [f_is_field, b_is_field]
    simp [within_int, h, kRa2_1 (i := 2) (j := if 32 < v then 32 else v) (by split <;> omega), kComp1 l, c, all_map, fieldB]
  · have h' : (decide (5 ≤ v) && decide (v ≤ 997)) = false := by
      by_cases h1 : 5 ≤ v <;> simp [h1]
      omega
    simp only [f_is_field, b_is_field]
    simp [within_int, h', fieldB]
theorem req_field {p : Int} (hp : fieldB p = true) : f_require_field [.int p] m = .ok (.d .non) m := by simp [f_require_field, b_require_field, field_int, hp]
theorem req_number {p a : Int} (h0 : 0 ≤ a) (h1 : a < p) : f_require_number [.int p, .int a] m = .ok (.d .non) m := by
  have h2 : a ≤ p - 1 := by omega
  simp [f_require_number, b_require_number, within_int, h0, h2]
/-- a field: between 5 and 997, and prime -/
structure Fd (p : Int) : Prop where
  b : fieldB p = true
  lo : 5 ≤ p
  hi : p ≤ 997
  pr : Pr p
theorem Fd.pos {p : Int} (h : Fd p) : 0 < p := by have := h.lo; omega
theorem fd_of {p : Int} (hp : fieldB p = true) : Fd p := by
  have hb := hp
  unfold fieldB at hp
  rw [Bool.and_eq_true, Bool.and_eq_true] at hp
  have h1 : 5 ≤ p := of_decide_eq_true hp.1.1
  have h2 : p ≤ 997 := of_decide_eq_true hp.1.2
  have hall := List.all_eq_true.mp hp.2
  refine ⟨hb, h1, h2, by omega, fun d d0 hd => ?_⟩
  have small : ∀ e : Int, 2 ≤ e → e < 32 → e < p → ¬ e ∣ p := fun e e0 e1 e2 z => by
    have := hall (.int e) (mem_rangeD e0 (by split <;> omega))
    have z := Int.emod_eq_zero_of_dvd z
    simp [z] at this
  obtain ⟨k, hk⟩ := hd
  have k0 : 0 < k := by
    rcases Int.lt_trichotomy k 0 with h | h | h
    · have := Int.mul_neg_of_pos_of_neg d0 h; omega
    · subst h; omega
    · exact h
  by_cases e1 : d = 1
  · exact .inl e1
  by_cases e2 : d = p
  · exact .inr e2
  exfalso
  have k1 : k ≠ 1 := fun z => by rw [z] at hk; omega
  have dp : d ∣ p := ⟨k, hk⟩
  have kp : k ∣ p := ⟨d, by rw [hk, Int.mul_comm]⟩
  have dl := Int.le_of_dvd (by omega) dp
  have kl := Int.le_of_dvd (by omega) kp
  have kne : k ≠ p := fun z => by
    have : d = 1 := by
      rw [z] at hk
      have h3 : d * p = 1 * p := by omega
      exact Int.eq_of_mul_eq_mul_right (by omega) h3
    exact e1 this
  by_cases d32 : d < 32
  · exact small d (by omega) d32 (by omega) dp
  · by_cases k32 : k < 32
    · exact small k (by omega) k32 (by omega) kp
    · have : 32 * 32 ≤ d * k := Int.mul_le_mul (by omega) (by omega) (by omega) (by omega)
      omega
theorem undone_in_ok {p a : Int} (hp : 2 ≤ p) (hp2 : p < 100000) (h0 : 0 < a) (h1 : a < p) (pr : ∀ d : Int, 0 < d → d ∣ p → d ∣ a → d = 1) : ∃ u, f_undone_in [.int p, .int a] m = .ok (.d (.int u)) m ∧ 0 ≤ u ∧ u < p ∧ u * a % p = 1 := by
  have key : ∃ e m', sWhile (bBool (rBin gNe (rVar 5) (rC (.int 0)))) L_undone_in_1 [.d (.int p), .d (.int a), .d (.int 0), .d (.int 1), .d (.int p), .d (.int a), .un] m = .ok (.nx e) m' ∧ m' = m ∧ ∃ (l : Int) (s : List Slot), e = .d (.int p) :: .d (.int a) :: .d (.int l) :: s ∧ p ∣ l * a - 1 := by
    refine sWhile_inv (fun k env m' => m' = m ∧ ∃ l h x y : Int, ∃ s, env = [.d (.int p), .d (.int a), .d (.int l), .d (.int h), .d (.int x), .d (.int y), s] ∧ 0 < x ∧ x ≤ p ∧ 0 ≤ y ∧ y < p ∧ y.toNat ≤ k ∧ p ∣ l * a - x ∧ p ∣ h * a - y ∧ ∀ d, d ∣ x → d ∣ y → d ∣ p ∧ d ∣ a) (fun e m' => m' = m ∧ ∃ (l : Int) (s : List Slot), e = .d (.int p) :: .d (.int a) :: .d (.int l) :: s ∧ p ∣ l * a - 1) ?_ (k := p.toNat) (by omega) ⟨rfl, 0, 1, p, a, .un, rfl, by omega, by omega, by omega, h1, by omega, ⟨-1, by omega⟩, ⟨0, by omega⟩, fun d q r => ⟨q, r⟩⟩
    rintro k env m' ⟨rfl, l, h, x, y, s, rfl, x0, x1, y0, y1, hk, e1, e2, hd⟩
    by_cases hy : y = 0
    · left
      subst hy
      refine ⟨m', by simp, rfl, l, _, rfl, ?_⟩
      obtain ⟨q1, q2⟩ := hd x (Int.dvd_refl x) (Int.dvd_zero x)
      rw [← pr x x0 q1 q2]
      exact e1
    · right
      have y2 : 0 < y := by omega
      have b1 : 0 ≤ x / y := Int.ediv_nonneg (by omega) (by omega)
      have b2 : x / y ≤ x := Int.ediv_le_self _ (by omega)
      have b3 : x - x / y * y = x % y := by rw [Int.emod_def, Int.mul_comm]
      have b4 := Int.emod_nonneg x hy
      have b5 := Int.emod_lt_of_pos x y2
      refine ⟨m', [.d (.int p), .d (.int a), .d (.int h), .d (.int (l - x / y * h)), .d (.int y), .d (.int (x % y)), .d (.int (x / y))], m', (x % y).toNat, by simp [hy], by simp [L_undone_in_1, ev_div (i := x) (j := y) (by omega), ev_mulL (i := x / y) (by omega), b3], by omega, rfl, h, l - x / y * h, y, x % y, _, rfl, y2, by omega, b4, by omega, by omega, e2, ?_, fun d q r => ?_⟩
      · obtain ⟨c1, g1⟩ := e1
        obtain ⟨c2, g2⟩ := e2
        refine ⟨c1 - x / y * c2, ?_⟩
        have t1 : l * a = p * c1 + x := by omega
        have t2 : h * a = p * c2 + y := by omega
        rw [← b3, Int.sub_mul, Int.mul_assoc, t1, t2, Int.mul_add, Int.mul_sub]
        have : x / y * (p * c2) = p * (x / y * c2) := by rw [← Int.mul_assoc, Int.mul_comm (x / y) p, Int.mul_assoc]
        omega
      · have hx : d ∣ x := by
          have := Int.dvd_add (Int.dvd_trans q (Int.dvd_mul_left (x / y) y)) r
          rwa [← b3, show x / y * y + (x - x / y * y) = x by omega] at this
        exact hd d hx q
  obtain ⟨e, m', k1, rfl, l, s, rfl, q⟩ := key
  have u1 : l % p * a % p = 1 := by
    rw [mul_mod_l]
    obtain ⟨c, g⟩ := q
    have : l * a = 1 + p * c := by omega
    rw [this, Int.add_mul_emod_self_left, Int.emod_eq_of_lt (by omega) (by omega)]
  refine ⟨l % p, ?_, Int.emod_nonneg _ (by omega), Int.emod_lt_of_pos _ (by omega), u1⟩
  simp only [f_undone_in, b_undone_in]
  simp [k1, ev_mod (show 0 < p by omega)]
/-- what makes 1 with a number -/
noncomputable def inv (p a : Int) : Int := open Classical in if h : ∃ u : Int, 0 ≤ u ∧ u < p ∧ u * a % p = 1 then h.choose else 0
theorem inv_unique {p a u v : Int} (u0 : 0 ≤ u) (u1 : u < p) (hu : u * a % p = 1) (v0 : 0 ≤ v) (v1 : v < p) (hv : v * a % p = 1) : v = u := by
  have e1 : v * (u * a) % p = v := by rw [← mul_mod_r, hu, Int.mul_one, Int.emod_eq_of_lt v0 v1]
  have e2 : u * (v * a) % p = u := by rw [← mul_mod_r, hv, Int.mul_one, Int.emod_eq_of_lt u0 u1]
  have e3 : v * (u * a) = u * (v * a) := by rw [← Int.mul_assoc, ← Int.mul_assoc, Int.mul_comm v u]
  rw [← e1, e3, e2]
theorem inv_eq {p a u : Int} (u0 : 0 ≤ u) (u1 : u < p) (hu : u * a % p = 1) : inv p a = u := by
  have h : ∃ u : Int, 0 ≤ u ∧ u < p ∧ u * a % p = 1 := ⟨u, u0, u1, hu⟩
  unfold inv
  rw [dif_pos h]
  obtain ⟨c0, c1, c2⟩ := h.choose_spec
  exact inv_unique u0 u1 hu c0 c1 c2
theorem undone_spec {p a : Int} (F : Fd p) (h0 : 0 < a) (h1 : a < p) : f_undone_in [.int p, .int a] m = .ok (.d (.int (inv p a))) m ∧ 0 ≤ inv p a ∧ inv p a < p ∧ inv p a * a % p = 1 := by
  have hi := F.hi
  have lo := F.lo
  obtain ⟨u, e, u0, u1, hu⟩ := undone_in_ok (m := m) (by omega) (by omega) h0 h1 fun d d0 dp da => by
    rcases F.pr.dv d d0 dp with z | z
    · exact z
    · have := Int.le_of_dvd h0 da; omega
  rw [inv_eq u0 u1 hu]
  exact ⟨e, u0, u1, hu⟩
theorem undone_ok {p a : Int} (F : Fd p) (h0 : 0 < a) (h1 : a < p) : f_undone_in [.int p, .int a] m = .ok (.d (.int (inv p a))) m := (undone_spec F h0 h1).1
theorem inv_spec {p a : Int} (F : Fd p) (h0 : 0 < a) (h1 : a < p) : 0 ≤ inv p a ∧ inv p a < p ∧ inv p a * a % p = 1 := (undone_spec (m := []) F h0 h1).2
/-! ### ints as data -/
abbrev tI (ns : List Int) : D := .tup (ns.map D.int)
abbrev lI (ns : List Int) : D := .lst (ns.map D.int)
theorem ints_inj : ∀ {a b : List Int}, deqs (a.map D.int) (b.map D.int) = decide (a = b)
  | [], [] => by simp
  | [], b :: bs => by simp
  | a :: as, [] => by simp
  | a :: as, b :: bs => by
    simp only [List.map_cons, ev_deqs1, ev_deq1, ints_inj (a := as) (b := bs), List.cons.injEq]
    by_cases h1 : a = b <;> by_cases h2 : as = bs <;> simp [h1, h2]
@[simp] theorem atI_ints (ns : List Int) (i : Int) : atI (ns.map D.int) i = (atI ns i).map D.int := by
  unfold atI
  rw [List.length_map]
  cases ixN ns.length i with
  | none => rfl
  | some j => show (ns.map D.int)[j]? = (ns[j]?).map D.int; rw [List.getElem?_map]
theorem atI_nn {ns : List Int} {i : Int} (h0 : 0 ≤ i) (h : i < ns.length) : atI ns i = some (co ns i.toNat) := by
  unfold atI
  rw [ixN_ok h0 h]
  have : i.toNat < ns.length := by omega
  show ns[i.toNat]? = _
  rw [co_lt this, List.getElem?_eq_getElem this]
theorem atI_last {ns : List Int} {n : Nat} (h : ns.length = n + 1) : atI ns (-1) = some (co ns n) := by
  unfold atI ixN
  rw [if_neg (by omega)]
  rw [if_pos (by omega)]
  have : n < ns.length := by omega
  show ns[(-1 + (ns.length : Int)).toNat]? = _
  rw [show (-1 + (ns.length : Int)).toNat = n by omega]
  rw [co_lt this, List.getElem?_eq_getElem this]
theorem comp_ints {i : Nat} {elt : SemR} {env : Ev.Env} {m : Cells} {F : Int → D} (xs : List Int) (h : ∀ x ∈ xs, fz elt (env.set i (.d (.int x))) m = .ok (F x) m) : compL (gSet i) bYes elt env (xs.map D.int) m = .ok (xs.map F) m := by
  rw [comp_map (F := fun d => match d with | .int i => F i | _ => .non) (xs := xs.map D.int) fun x hx => by
    obtain ⟨i, hi, rfl⟩ := List.mem_map.mp hx
    exact h i hi]
  rw [List.map_map]; rfl
theorem comp_intsI {i : Nat} {elt : SemR} {env : Ev.Env} {m : Cells} (F : Int → Int) (xs ys : List Int) (hy : ys = xs.map F) (h : ∀ x ∈ xs, fz elt (env.set i (.d (.int x))) m = .ok (.int (F x)) m) : compL (gSet i) bYes elt env (xs.map D.int) m = .ok (ys.map D.int) m := by
  rw [comp_ints (F := fun x => .int (F x)) xs h, hy, List.map_map]; rfl
/-- which tuples of ints are numbers -/
def redB (p : Int) (ns : List Int) : Bool := ns.all fun v => decide (0 ≤ v) && decide (v ≤ p - 1)
theorem redB_iff {p : Int} {ns : List Int} : redB p ns = true ↔ Red p ns := by
  unfold redB Red
  rw [List.all_eq_true]
  constructor
  · intro h a ha
    have := h a ha
    rw [Bool.and_eq_true, decide_eq_true_eq, decide_eq_true_eq] at this
    omega
  · intro h a ha
    rw [Bool.and_eq_true, decide_eq_true_eq, decide_eq_true_eq]
    have := h a ha
    omega
theorem are_ints {p : Int} {ns : List Int} (hl : ns.length ≤ 1000000) : f_are_numbers [.int p, tI ns] m = .ok (.d (.bl (redB p ns))) m := by
  have c := comp_ints (i := 2) (elt := X_are_numbers_1) (env := [.d (.int p), .d (tI ns), .un]) (m := m) (F := fun v => .bl (decide (0 ≤ v) && decide (v ≤ p - 1))) ns (fun x hx => by simp [X_are_numbers_1, within_int])
  have l : (ns.map D.int).length ≤ 1000000 := by rw [List.length_map]; exact hl
  simp only [f_are_numbers, b_are_numbers]
  simp [kComp1 l, c, all_map, redB, isa]
end Pg
/-! Pg: what the program's polys answer. -/
namespace Pg
open PySem PySem.Spec L2 Ev Po
variable {m : Cells}
theorem trimmed_ok (ns : List Int) (hl : ns.length < 90000) : f_trimmed [lI ns] m = .ok (.d (tI (trim ns))) m := by
  obtain ⟨e, m', k1, rfl, k, rfl, hk, ht⟩ := sWhile_inv (c := bAnd (bBool (rBin gGt (rVar 1) (rC (.int 0)))) (bBool (rBin gEq (rIx (rVar 0) (rBin gMinus (rVar 1) (rC (.int 1)))) (rC (.int 0))))) (b := L_trimmed_1)
    (fun k env m' => m' = m ∧ env = [.d (lI ns), .d (.int k)] ∧ k ≤ ns.length ∧ trim (ns.take k) = trim ns)
    (fun e m' => m' = m ∧ ∃ k : Nat, e = [.d (lI ns), .d (.int k)] ∧ k ≤ ns.length ∧ ns.take k = trim ns)
    (by
      rintro k env m' ⟨rfl, rfl, hk, ht⟩
      cases k with
      | zero => exact .inl ⟨m', by simp, rfl, 0, rfl, hk, by rw [← ht]; rfl⟩
      | succ k =>
        have a := atI_nn (ns := ns) (i := (k : Int)) (by omega) (by omega)
        have e1 : ((k + 1 : Nat) : Int) - 1 = (k : Int) := by omega
        by_cases hz : co ns k = 0
        · right
          refine ⟨m', [.d (lI ns), .d (.int k)], m', k, ?_, ?_, Nat.lt_succ_self k, rfl, rfl, by omega, ?_⟩
          · simp [e1, a, hz]
          · simp [L_trimmed_1]
          · rw [← ht]
            refine trim_ext fun j => ?_
            rw [co_take, co_take]
            by_cases hj : j < k
            · rw [if_pos hj, if_pos (by omega)]
            · by_cases hj2 : j = k
              · subst hj2; rw [if_neg hj, if_pos (by omega), hz]
              · rw [if_neg hj, if_neg (by omega)]
        · left
          refine ⟨m', ?_, rfl, k + 1, rfl, hk, ?_⟩
          · simp [e1, a, hz]
          · rw [← ht]
            refine (trim_self fun n hn => ?_).symm
            rw [List.length_take] at hn
            have : n = k := by omega
            subst this
            rw [co_take, if_pos (by omega)]
            exact hz) (k := ns.length) (m := m) (by omega) ⟨rfl, rfl, Nat.le_refl _, by rw [List.take_length]⟩
  simp only [f_trimmed, b_trimmed]
  have c : cutD (ns.map D.int) none (some (k : Int)) = (ns.take k).map D.int := by rw [cut_to _ _ (by rw [List.length_map]; exact hk), List.map_take]
  simp [k1, c, ht]
theorem number_at_ok (ns : List Int) {x : Int} (hx : 0 ≤ x) : f_number_at [tI ns, .int x] m = .ok (.d (.int (co ns x.toNat))) m := by
  simp only [f_number_at, b_number_at]
  by_cases h : x < ns.length
  · simp [h, atI_nn hx h]
  · have : co ns x.toNat = 0 := co_ge (by omega)
    simp [h, this]
theorem sum_in_ok {p : Int} (hp : 0 < p) (f g : List Int) (hf : f.length < 1000) (hg : g.length < 1000) : f_sum_in [.int p, tI f, tI g] m = .ok (.d (tI (nm p (padd f g)))) m := by
  obtain ⟨n, hn, hn2⟩ : ∃ n : Nat, (if f.length < g.length then (g.length : Int) else (f.length : Int)) = (n : Int) ∧ n = max f.length g.length := by
    refine ⟨_, ?_, rfl⟩
    split <;> omega
  obtain ⟨ys, hys⟩ : ∃ ys, ys = (rgI 0 n).map fun x => (co f x.toNat + co g x.toNat) % p := ⟨_, rfl⟩
  have c := comp_intsI (i := 4) (elt := X_sum_in_1) (env := [.d (.int p), .d (tI f), .d (tI g), .d (.int n), .un]) (m := m) (fun x => (co f x.toNat + co g x.toNat) % p) (rgI 0 n) ys hys (fun x hx => by
    have := rgI_mem.mp hx
    simp [X_sum_in_1, number_at_ok, this.1, ev_mod hp])
  have l : (rangeD 0 n).length ≤ 1000000 := by rw [rangeD_len]; omega
  have t := trimmed_ok (m := m) ys (by rw [hys, List.length_map, rgI_len]; omega)
  have e : trim ys = nm p (padd f g) := by
    rw [hys]
    refine trim_ext fun k => ?_
    rw [co_map (g := (· % p)) (by simp) (padd f g), co_padd, rgI_nat, List.map_map]
    have : ((fun x : Int => (co f x.toNat + co g x.toNat) % p) ∘ fun (i : Nat) => (i : Int)) = fun k : Nat => (co f k + co g k) % p := by funext k; simp
    rw [this, co_tab]
    split
    · rfl
    · rw [co_ge (f := f) (by omega), co_ge (f := g) (by omega)]; simp
  rw [e] at t
  simp only [f_sum_in, b_sum_in]
  rw [rangeD_ints] at l
  simp [hn, kRa1_1 (j := (n : Int)) (by omega), rangeD_ints, kComp1 l, c, t]
theorem scaled_in_ok {p c : Int} (hp : 0 < p) (f : List Int) (hf : f.length < 1000) (c0 : 0 ≤ c) (c1 : c < 1000000) : f_scaled_in [.int p, tI f, .int c] m = .ok (.d (tI (nm p (psc c f)))) m := by
  obtain ⟨ys, hys⟩ : ∃ ys, ys = f.map fun x => c * x % p := ⟨_, rfl⟩
  have cc := comp_intsI (i := 3) (elt := X_scaled_in_1) (env := [.d (.int p), .d (tI f), .d (.int c), .un]) (m := m) (fun x => c * x % p) f ys hys (fun x hx => by
    simp [X_scaled_in_1, ev_mulL (i := c) (j := x) (by omega), ev_mod hp])
  have l : (f.map D.int).length ≤ 1000000 := by rw [List.length_map]; omega
  have t := trimmed_ok (m := m) ys (by rw [hys, List.length_map]; omega)
  have e : trim ys = nm p (psc c f) := by
    rw [hys]
    unfold nm psc
    rw [List.map_map]; rfl
  rw [e] at t
  simp only [f_scaled_in, b_scaled_in]
  simp [kComp1 l, cc, t]
theorem set_map (ns : List Int) (i : Nat) (a : Int) : (ns.map D.int).set i (.int a) = (ns.set i a).map D.int := by rw [List.map_set]
theorem rep_zero (n : Nat) : (List.replicate n [D.int 0]).flatten = (List.replicate n (0 : Int)).map D.int := by
  rw [List.map_replicate, List.flatten_replicate_singleton]
/-- the sum up to what is done of one poly's number times another poly -/
theorem product_in_ok {p : Int} (hp : 0 < p) (hp2 : p < 1000000) (f g : List Int) (hf : f.length < 1000) (hg : g.length < 1000) (rf : Red p f) : f_product_in [.int p, tI f, tI g] m = .ok (.d (tI (nm p (pmul f g)))) m := by
  obtain ⟨n, hn, hn2⟩ : ∃ n : Nat, (if 1 < (f.length : Int) + (g.length : Int) then (f.length : Int) + (g.length : Int) - 1 else 0) = (n : Int) ∧ n = f.length + g.length - 1 := by
    refine ⟨_, ?_, rfl⟩
    split <;> omega
  -- the loops
  obtain ⟨e, m', k1, rfl, fo, a, b, c, d, rfl, hl, hr, hc⟩ := for_enum (g := gTupS [4, 5]) (b := L_product_in_2) f
    (fun pre env m' => m' = m ∧ ∃ (fo : List Int) (a b c d : Slot), env = [.d (.int p), .d (tI f), .d (tI g), .own (fo.map D.int), a, b, c, d] ∧ fo.length = n ∧ Red p fo ∧ ∀ k, co fo k % p = co (pmul pre g) k % p)
    (by
      rintro pre x post hpre env m' ⟨rfl, fo, a, b, c, d, rfl, hl, hr, hc⟩
      have hx : 0 ≤ x ∧ x < p := rf x (by rw [hpre]; simp)
      have hlp : pre.length + 1 + post.length = f.length := by rw [hpre]; simp; omega
      obtain ⟨e, m', k1, rfl, fo', c', d', rfl, hl', hr', hc'⟩ := for_enum (g := gTupS [6, 7]) (b := L_product_in_1) g
        (fun pr2 env m'' => m'' = m' ∧ ∃ (fo' : List Int) (c d : Slot), env = [.d (.int p), .d (tI f), .d (tI g), .own (fo'.map D.int), .d (.int pre.length), .d (.int x), c, d] ∧ fo'.length = n ∧ Red p fo' ∧ ∀ k, co fo' k % p = (co fo k + if pre.length ≤ k then x * co pr2 (k - pre.length) else 0) % p)
        (by
          rintro pr2 y post2 hpre2 env m'' ⟨rfl, fo', c, d, rfl, hl', hr', hc'⟩
          have hlp2 : pr2.length + 1 + post2.length = g.length := by rw [hpre2]; simp; omega
          have ix : pre.length + pr2.length < fo'.length := by omega
          have a1 := atI_nn (ns := fo') (i := (pre.length : Int) + (pr2.length : Int)) (by omega) (by omega)
          have a2 := ixN_ok (n := fo'.length) (i := (pre.length : Int) + (pr2.length : Int)) (by omega) (by omega)
          have e0 : ((pre.length : Int) + (pr2.length : Int)).toNat = pre.length + pr2.length := by omega
          rw [e0] at a1 a2
          refine ⟨_, [.d (.int p), .d (tI f), .d (tI g), .own ((fo'.set (pre.length + pr2.length) ((co fo' (pre.length + pr2.length) + x * y) % p)).map D.int), .d (.int pre.length), .d (.int x), .d (.int pr2.length), .d (.int y)], m'', rfl, ?_, rfl, _, _, _, rfl, by rw [List.length_set]; exact hl', ?_, fun k => ?_⟩
          · simp [L_product_in_1, a1, a2, ev_mulL (i := x) (j := y) (by omega), ev_mod hp, List.map_set]
          · intro z hz
            rcases List.mem_or_eq_of_mem_set hz with h | h
            · exact hr' z h
            · rw [h]; exact ⟨Int.emod_nonneg _ (by omega), Int.emod_lt_of_pos _ hp⟩
          · rw [co_set _ _ _ _ ix]
            by_cases hk : k = pre.length + pr2.length
            · subst hk
              rw [if_pos rfl, Int.emod_emod_of_dvd _ (Int.dvd_refl p), Int.add_emod, hc' (pre.length + pr2.length), ← Int.add_emod, if_pos (by omega), if_pos (by omega), show pre.length + pr2.length - pre.length = pr2.length by omega, co_ge (f := pr2) (Nat.le_refl _), co_app, if_neg (by omega), Nat.sub_self, co_zero]
              congr 1; omega
            · rw [if_neg hk, hc' k]
              by_cases hk2 : pre.length ≤ k
              · rw [if_pos hk2, if_pos hk2, co_app]
                by_cases hk3 : k - pre.length < pr2.length
                · rw [if_pos hk3]
                · rw [if_neg hk3, co_ge (f := pr2) (by omega), co_ge (f := [y]) (by simp; omega)]
              · rw [if_neg hk2, if_neg hk2])
        (env := [.d (.int p), .d (tI f), .d (tI g), .own (fo.map D.int), .d (.int pre.length), .d (.int x), c, d]) (m := m') ⟨rfl, fo, c, d, rfl, hl, hr, fun k => by simp⟩
      refine ⟨_, _, m', rfl, ?_, rfl, fo', .d (.int pre.length), .d (.int x), c', d', rfl, hl', hr', fun k => ?_⟩
      · simp [L_product_in_2, k1]
      · rw [hc' k, co_pmul_snoc, Int.add_emod, hc k, ← Int.add_emod])
    (env := [.d (.int p), .d (tI f), .d (tI g), .own (List.replicate n (D.int 0)), .un, .un, .un, .un]) (m := m) ⟨rfl, List.replicate n 0, .un, .un, .un, .un, by rw [List.map_replicate], by simp, fun z hz => by have := (List.mem_replicate.mp hz).2; omega, fun k => by rw [co_rep]; simp [pmul]⟩
  have t := trimmed_ok (m := m') fo (by omega)
  rw [nm_trim hp hr, nm_ext (g := pmul f g) hc] at t
  simp only [f_product_in, b_product_in]
  simp [hn, gMul, show n ≤ 1000000 by omega, show (n : Int) ≤ 1000000 by omega, k1, t]
theorem value_in_ok {p x : Int} (hp : 0 < p) (hp2 : p < 1000000) (f : List Int) : f_value_in [.int p, tI f, .int x] m = .ok (.d (.int (pev f x % p))) m := by
  obtain ⟨e, m', k1, rfl, s, rfl⟩ := for_ints (g := gSet 4) (b := L_value_in_1) f.reverse
    (fun pre env m' => m' = m ∧ ∃ s, env = [.d (.int p), .d (tI f), .d (.int x), .d (.int (pev pre.reverse x % p)), s])
    (by
      rintro pre y post hpre env m' ⟨rfl, s, rfl⟩
      have b0 := Int.emod_nonneg (pev pre.reverse x) (show p ≠ 0 by omega)
      have b1 := Int.emod_lt_of_pos (pev pre.reverse x) hp
      refine ⟨_, _, m', rfl, ?_, rfl, .d (.int y), rfl⟩
      have e : (pev pre.reverse x % p * x + y) % p = pev (y :: pre.reverse) x % p := by
        show _ = (y + x * pev pre.reverse x) % p
        rw [Int.add_emod, mul_mod_l, ← Int.add_emod, Int.mul_comm, Int.add_comm]
      simp [L_value_in_1, ev_mulL (i := pev pre.reverse x % p) (j := x) (by omega), ev_mod hp, e])
    (env := [.d (.int p), .d (tI f), .d (.int x), .d (.int 0), .un]) (m := m) ⟨rfl, .un, by simp⟩
  rw [List.reverse_reverse] at *
  rw [List.map_reverse] at k1
  simp only [f_value_in, b_value_in]
  simp [k1]
/-! ### what is handed in -/
theorem poly_in_ok {p : Int} (hp : 0 < p) {f : List Int} (h : IsP p f) (hl : f.length ≤ 61) : f_is_poly_in [.int p, tI f] m = .ok (.d (.bl true)) m := by
  have r := redB_iff.mpr h.red
  have l : ¬ (61 : Int) < f.length := by omega
  simp only [f_is_poly_in, b_is_poly_in]
  cases e : f.length with
  | zero =>
    have : f = [] := List.length_eq_zero_iff.mp e
    subst this
    simp [are_ints, r]
  | succ n =>
    have hz := h.last e
    have a := atI_last e
    have ne : f.isEmpty = false := by cases f <;> simp at e ⊢
    simp [are_ints (p := p) (ns := f) (by omega), r, l, plainDs_int, ne, a, hz]
theorem req_poly {p : Int} (hp : 0 < p) {f : List Int} (h : IsP p f) (hl : f.length ≤ 61) : f_require_poly [.int p, tI f] m = .ok (.d .non) m := by
  simp [f_require_poly, b_require_poly, poly_in_ok hp h hl]
theorem req_field_poly {p : Int} (F : Fd p) {f : List Int} (h : IsP p f) (hl : f.length ≤ 61) : f_require_field_poly [.int p, tI f] m = .ok (.d .non) m := by
  simp [f_require_field_poly, b_require_field_poly, req_field F.b, req_poly F.pos h hl]
theorem req_polys {p : Int} (F : Fd p) {f g : List Int} (h : IsP p f) (hl : f.length ≤ 61) (h2 : IsP p g) (hl2 : g.length ≤ 61) : f_require_polys [.int p, tI f, tI g] m = .ok (.d .non) m := by
  simp [f_require_polys, b_require_polys, req_field_poly F h hl, req_poly F.pos h2 hl2]
theorem is_poly_ok {p : Int} (F : Fd p) {f : List Int} (h : IsP p f) (hl : f.length ≤ 61) : f_is_poly [.int p, tI f] m = .ok (.d (.bl true)) m := by
  simp [f_is_poly, b_is_poly, req_field F.b, poly_in_ok F.pos h hl]
theorem poly_sum_ok {p : Int} (F : Fd p) {f g : List Int} (h : IsP p f) (hl : f.length ≤ 61) (h2 : IsP p g) (hl2 : g.length ≤ 61) : f_poly_sum [.int p, tI f, tI g] m = .ok (.d (tI (nm p (padd f g)))) m := by
  simp [f_poly_sum, b_poly_sum, req_polys F h hl h2 hl2, sum_in_ok F.pos f g (by omega) (by omega)]
theorem poly_scaled_ok {p c : Int} (F : Fd p) {f : List Int} (h : IsP p f) (hl : f.length ≤ 61) (c0 : 0 ≤ c) (c1 : c < p) : f_poly_scaled [.int p, tI f, .int c] m = .ok (.d (tI (nm p (psc c f)))) m := by
  have := F.hi
  simp [f_poly_scaled, b_poly_scaled, req_field_poly F h hl, req_number c0 c1, scaled_in_ok F.pos f (by omega) c0 (by omega)]
theorem nil_beq (f : List Int) : ((List.map D.int f).isEmpty) = f.isEmpty := by cases f <;> rfl
theorem poly_product_ok {p : Int} (F : Fd p) {f g : List Int} (h : IsP p f) (hl : f.length ≤ 61) (h2 : IsP p g) (hl2 : g.length ≤ 61) (hs : f.length + g.length ≤ 62) : f_poly_product [.int p, tI f, tI g] m = .ok (.d (tI (nm p (pmul f g)))) m := by
  have := F.hi
  have l : ¬ (60 : Int) < (f.length : Int) + g.length - 2 := by omega
  have l2 : ¬ (62 : Int) < (f.length : Int) + g.length := by omega
  have t := product_in_ok (m := m) F.pos (by omega) f g (by omega) (by omega) h.red
  simp only [f_poly_product, b_poly_product]
  cases e1 : f.isEmpty <;> cases e2 : g.isEmpty <;> simp [req_polys F h hl h2 hl2, plainDs_int, e1, e2, l, l2, t]
theorem value_at_ok {p x : Int} (F : Fd p) {f : List Int} (h : IsP p f) (hl : f.length ≤ 61) (c0 : 0 ≤ x) (c1 : x < p) : f_value_at [.int p, tI f, .int x] m = .ok (.d (.int (pev f x % p))) m := by
  have := F.hi
  simp [f_value_at, b_value_at, req_field_poly F h hl, req_number c0 c1, value_in_ok F.pos (by omega) f]
theorem are_places_ok {p : Int} {ns : List Int} (h : Red p ns) (hn : ns.Nodup) (hl : ns.length ≤ 60) : f_are_places [.int p, tI ns] m = .ok (.d (.bl true)) m := by
  have r := redB_iff.mpr h
  have k := kLenSetT (m := m) (ns := ns) (by omega)
  rw [dd_id hn] at k
  have l : (ns.length : Int) ≤ 60 := by omega
  simp [f_are_places, b_are_places, are_ints (p := p) (ns := ns) (by omega), r, l, k]
theorem req_places {p : Int} {ns : List Int} (h : Red p ns) (hn : ns.Nodup) (hl : ns.length ≤ 60) (hne : ns ≠ []) : f_require_places [.int p, tI ns] m = .ok (.d .non) m := by
  have e : ns.isEmpty = false := by cases ns <;> simp at hne ⊢
  simp [f_require_places, b_require_places, are_places_ok h hn hl, plainDs_int, e]
theorem values_at_ok {p : Int} (F : Fd p) {f : List Int} (h : IsP p f) (hl : f.length ≤ 61) {ns : List Int} (h2 : Red p ns) (hn : ns.Nodup) (hl2 : ns.length ≤ 60) (hne : ns ≠ []) : f_values_at [.int p, tI f, tI ns] m = .ok (.d (tI (ns.map fun x => pev f x % p))) m := by
  have := F.hi
  obtain ⟨ys, hys⟩ : ∃ ys, ys = ns.map fun x => pev f x % p := ⟨_, rfl⟩
  have c := comp_intsI (i := 3) (elt := X_values_at_1) (env := [.d (.int p), .d (tI f), .d (tI ns), .un]) (m := m) (fun x => pev f x % p) ns ys hys (fun x hx => by
    simp [X_values_at_1, value_in_ok F.pos (show p < 1000000 by omega)])
  have l : (ns.map D.int).length ≤ 1000000 := by rw [List.length_map]; omega
  rw [← hys]
  simp [f_values_at, b_values_at, req_field_poly F h hl, req_places h2 hn hl2 hne, kComp1 l, c]
/-! ### division -/
theorem mod_pos {p a b : Int} (hp : 0 < p) : 0 ≤ (a - b) % p ∧ (a - b) % p < p := ⟨Int.emod_nonneg _ (by omega), Int.emod_lt_of_pos _ hp⟩
theorem divided_in_ok {p : Int} (F : Fd p) {f g : List Int} (hf : IsP p f) (hg : IsP p g) (lf : f.length < 1000) (lg : g.length < 1000) (hne : g ≠ []) :
    ∃ q r : List Int, f_divided_in [.int p, tI f, tI g] m = .ok (.d (.tup [tI q, tI r])) m ∧ IsP p q ∧ IsP p r ∧ r.length < g.length ∧ q.length ≤ f.length ∧ ∀ k, co f k % p = (co (pmul q g) k + co r k) % p := by
  have hp := F.pos
  have hhi := F.hi
  obtain ⟨t, ht⟩ : ∃ t, g.length = t + 1 := ⟨g.length - 1, by have := List.length_pos_iff.mpr hne; omega⟩
  have top0 := hg.last ht
  have topB := hg.red.co hp t
  obtain ⟨b0, b1, b2⟩ := inv_spec F (a := co g t) (by omega) topB.2
  have ui := undone_ok (m := m) F (a := co g t) (by omega) topB.2
  have al := atI_last ht
  generalize inv p (co g t) = bk at *
  obtain ⟨n, hn, hn2⟩ : ∃ n : Nat, (if 0 < (f.length : Int) - (g.length : Int) + 1 then (f.length : Int) - (g.length : Int) + 1 else 0) = (n : Int) ∧ n = f.length - t := by
    refine ⟨f.length - t, ?_, rfl⟩
    split <;> omega
  obtain ⟨e, m', k1, rfl, q, r, s, a, b, rfl, hlq, hlr, hrq, hrr, hz, hc⟩ := for_down (g := gSet 6) (b := L_divided_in_2) n
    (fun low env m' => m' = m ∧ ∃ (q r : List Int) (s a b : Slot), env = [.d (.int p), .d (tI f), .d (tI g), .d (.int bk), .own (r.map D.int), .own (q.map D.int), s, a, b] ∧ q.length = n ∧ r.length = f.length ∧ Red p q ∧ Red p r ∧
      (∀ k, low + t ≤ k → co r k = 0) ∧ (∀ k, k < low → co q k = 0) ∧ ∀ k, co f k % p = (co (pmul q g) k + co r k) % p)
    (by
      rintro low hlow env m' ⟨rfl, q, r, s, a, b, rfl, hlq, hlr, hrq, hrr, hz, hq0, hc⟩
      have ixr : low + t < r.length := by omega
      have a1 := atI_nn (ns := r) (i := ((low : Nat) : Int) + (g.length : Int) - 1) (by omega) (by omega)
      rw [show (((low : Nat) : Int) + (g.length : Int) - 1).toNat = low + t by omega] at a1
      have ix5 := ixN_ok (n := q.length) (i := ((low : Nat) : Int)) (by omega) (by omega)
      rw [show ((low : Nat) : Int).toNat = low by omega] at ix5
      have rb := hrr.co hp (low + t)
      have c0 := Int.emod_nonneg (co r (low + t) * bk) (show p ≠ 0 by omega)
      have c1 := Int.emod_lt_of_pos (co r (low + t) * bk) hp
      generalize hcc : co r (low + t) * bk % p = c at c0 c1
      obtain ⟨e, m'', k1, rfl, r', a', b', rfl, hlr', hrr', hc'⟩ := for_enum (g := gTupS [7, 8]) (b := L_divided_in_1) g
        (fun pre env m'' => m'' = m' ∧ ∃ (r' : List Int) (a b : Slot), env = [.d (.int p), .d (tI f), .d (tI g), .d (.int bk), .own (r'.map D.int), .own ((q.set low c).map D.int), .d (.int low), a, b] ∧ r'.length = f.length ∧ Red p r' ∧
          ∀ k, co r' k = (if low ≤ k ∧ k < low + pre.length then (co r k - c * co g (k - low)) % p else co r k))
        (by
          rintro pre y post hpre env m'' ⟨rfl, r', a, b, rfl, hlr', hrr', hc'⟩
          have hlp : pre.length + 1 + post.length = g.length := by rw [hpre]; simp; omega
          have yg : co g pre.length = y := by rw [hpre, co_app, if_neg (Nat.lt_irrefl _), Nat.sub_self, co_zero]
          have ix : low + pre.length < r'.length := by omega
          have a1 := atI_nn (ns := r') (i := (low : Int) + (pre.length : Int)) (by omega) (by omega)
          have a2 := ixN_ok (n := r'.length) (i := (low : Int) + (pre.length : Int)) (by omega) (by omega)
          rw [show ((low : Int) + (pre.length : Int)).toNat = low + pre.length by omega] at a1 a2
          have a3 := atI_nn (ns := q.set low c) (i := ((low : Nat) : Int)) (by omega) (by rw [List.length_set]; omega)
          rw [show ((low : Nat) : Int).toNat = low by omega, co_set _ _ _ _ (by omega), if_pos rfl] at a3
          have hy := hg.red.co hp pre.length
          rw [yg] at hy
          refine ⟨_, [.d (.int p), .d (tI f), .d (tI g), .d (.int bk), .own ((r'.set (low + pre.length) ((co r' (low + pre.length) - c * y) % p)).map D.int), .own ((q.set low c).map D.int), .d (.int low), .d (.int pre.length), .d (.int y)], m'', rfl, ?_, rfl, _, _, _, rfl, by rw [List.length_set]; exact hlr', ?_, fun k => ?_⟩
          · have a3' := congrArg (Option.map D.int) a3
            rw [← atI_ints] at a3'
            rw [List.map_set] at a3' ⊢
            simp [L_divided_in_1, a1, a2, a3', ev_mulL (i := c) (j := y) (by omega), ev_mod hp, List.map_set]
          · intro z hz
            rcases List.mem_or_eq_of_mem_set hz with h | h
            · exact hrr' z h
            · rw [h]; exact mod_pos hp
          · rw [co_set _ _ _ _ ix, List.length_append, List.length_singleton]
            by_cases hk : k = low + pre.length
            · subst hk
              rw [if_pos rfl, if_pos (by omega), hc', if_neg (by omega), show low + pre.length - low = pre.length by omega, yg]
            · rw [if_neg hk, hc' k]
              by_cases hk2 : low ≤ k ∧ k < low + pre.length
              · rw [if_pos hk2, if_pos (by omega)]
              · rw [if_neg hk2, if_neg (by omega)])
        (env := [.d (.int p), .d (tI f), .d (tI g), .d (.int bk), .own (r.map D.int), .own ((q.set low c).map D.int), .d (.int low), a, b]) (m := m') ⟨rfl, r, a, b, rfl, hlr, hrr, fun k => by rw [if_neg (by simp)]⟩
      refine ⟨_, _, m'', rfl, ?_, rfl, q.set low c, r', .d (.int low), a', b', rfl, by rw [List.length_set]; exact hlq, hlr', ?_, hrr', fun k hk => ?_, fun k hk => ?_, fun k => ?_⟩
      · rw [List.map_set] at k1
        have e1 : ((low : Int) + (g.length : Int) - 1) = (low : Int) + (g.length : Int) - 1 := rfl
        simp [L_divided_in_2, a1, ix5, ev_mulL (i := co r (low + t)) (j := bk) (by omega), ev_mod hp, hcc, List.map_set, k1]
      · intro z hz
        rcases List.mem_or_eq_of_mem_set hz with h | h
        · exact hrq z h
        · rw [h]; exact ⟨c0, c1⟩
      · rw [hc' k]
        by_cases hk2 : low ≤ k ∧ k < low + g.length
        · have : k = low + t := by omega
          subst this
          rw [if_pos hk2, show low + t - low = t by omega, ← hcc, Int.sub_emod, mul_mod_l, Int.mul_assoc, ← mul_mod_r, b2, Int.mul_one, ← Int.sub_emod, Int.sub_self, Int.zero_emod]
        · rw [if_neg hk2]
          exact hz k (by omega)
      · rw [co_set _ _ _ _ (by omega), if_neg (by omega)]
        exact hq0 k (by omega)
      · have q0 : co q low = 0 := hq0 low (by omega)
        have e1 := co_pmul_set c g q low k (by omega)
        rw [q0, Int.zero_add] at e1
        rw [e1, hc k, hc' k]
        by_cases hk : low ≤ k
        · rw [if_pos hk]
          by_cases hk2 : k < low + g.length
          · rw [if_pos ⟨hk, hk2⟩, Int.add_emod (co (pmul q g) k + _), Int.emod_emod_of_dvd _ (Int.dvd_refl p), ← Int.add_emod]
            congr 1; omega
          · rw [if_neg (by omega), co_ge (f := g) (by omega)]; simp
        · rw [if_neg hk, if_neg (by omega)]; simp)
    (env := [.d (.int p), .d (tI f), .d (tI g), .d (.int bk), .own (f.map D.int), .own (List.replicate n (D.int 0)), .un, .un, .un]) (m := m)
    ⟨rfl, List.replicate n 0, f, .un, .un, .un, by rw [List.map_replicate], by simp, rfl, fun z hz => by have := (List.mem_replicate.mp hz).2; omega, hf.red, fun k hk => co_ge (by omega), fun k _ => co_rep n k, fun k => by
      have : co (pmul (List.replicate n 0) g) k = 0 := by
        have z : ∀ (n k : Nat), co (pmul (List.replicate n 0) g) k = 0 := by
          intro n
          induction n with
          | zero => intro k; simp [pmul]
          | succ n ih =>
            intro k
            rw [List.replicate_succ]
            cases k with
            | zero => rw [co_pmul0, Int.zero_mul]
            | succ k => rw [co_pmulS, Int.zero_mul, ih k]; rfl
        exact z n k
      rw [this, Int.zero_add]⟩
  have tq := trimmed_ok (m := m') q (by omega)
  have tr := trimmed_ok (m := m') r (by omega)
  refine ⟨trim q, trim r, ?_, .of hrq, .of hrr, ?_, ?_, fun k => ?_⟩
  · simp only [f_divided_in, b_divided_in]
    simp [al, ui, hn, gMul, show n ≤ 1000000 by omega, show (n : Int) ≤ 1000000 by omega, kRv1_1 (j := (n : Int)) (by omega), k1, tq, tr]
  · have := len_of_co (n := t) (.of hrr) fun k hk => by rw [co_trim]; exact hz k (by omega)
    omega
  · have := trim_len q; omega
  · rw [hc.2 k, co_trim]
    congr 2
    have : ∀ (u v : List Int), (∀ k, co u k = co v k) → ∀ k, co (pmul u g) k = co (pmul v g) k := by
      intro u v huv k
      have z : ∀ (u : List Int), (∀ k, co u k = 0) → ∀ k, co (pmul u g) k = 0 := by
        intro u
        induction u with
        | nil => intro _ k; simp [pmul]
        | cons a u ih =>
          intro hu k
          have a0 : a = 0 := by simpa using hu 0
          have t := ih fun k => by simpa using hu (k + 1)
          cases k with
          | zero => rw [co_pmul0, a0]; simp
          | succ k => rw [co_pmulS, a0, t k]; simp
      have := z (padd u (psc (-1) v)) (fun k => by rw [co_padd, co_psc, huv k]; omega) k
      rw [co_pmul_add, co_pmul_sc] at this
      omega
    exact this q (trim q) (fun k => (co_trim q k).symm) k
theorem poly_divided_ok {p : Int} (F : Fd p) {f g : List Int} (hf : IsP p f) (hg : IsP p g) (lf : f.length ≤ 61) (lg : g.length ≤ 61) (hne : g ≠ []) :
    ∃ q r : List Int, f_poly_divided [.int p, tI f, tI g] m = .ok (.d (.tup [tI q, tI r])) m ∧ IsP p q ∧ IsP p r ∧ r.length < g.length ∧ q.length ≤ f.length ∧ ∀ k, co f k % p = (co (pmul q g) k + co r k) % p := by
  obtain ⟨q, r, e, h1, h2, h3, h4, h5⟩ := divided_in_ok (m := m) F hf hg (by omega) (by omega) hne
  refine ⟨q, r, ?_, h1, h2, h3, h4, h5⟩
  have e2 : g.isEmpty = false := by cases g <;> simp at hne ⊢
  simp only [f_poly_divided, b_poly_divided]
  simp [req_polys F hf lf hg lg, plainDs_int, e2, e]
end Pg
/-! Pg: what the laws' own polys answer. -/
namespace Pg
open PySem PySem.Spec L2 Ev Po
variable {m : Cells}
/-- a comprehension whose items are drawn -/
theorem comp_draw {i : Nat} {elt : SemR} {env : Ev.Env} (I : Cells → Prop) (P : D → Prop) : ∀ (ds : List D) (m : Cells), (∀ x ∈ ds, ∀ m, I m → ∃ y m', fz elt (env.set i (.d x)) m = .ok y m' ∧ P y ∧ I m') → I m → ∃ ys m', compL (gSet i) bYes elt env ds m = .ok ys m' ∧ ys.length = ds.length ∧ (∀ y ∈ ys, P y) ∧ I m'
  | [], m, _, hi => ⟨[], m, rfl, rfl, fun y hy => (nomatch hy), hi⟩
  | x :: xs, m, h, hi => by
    obtain ⟨y, m1, e1, hy, hi1⟩ := h x (List.mem_cons_self ..) m hi
    obtain ⟨ys, m2, e2, hl, hP, hi2⟩ := comp_draw I P xs m1 (fun z hz => h z (List.mem_cons_of_mem _ hz)) hi1
    refine ⟨y :: ys, m2, ?_, by simp [hl], fun z hz => ?_, hi2⟩
    · show (noX (fz elt (env.set i (.d x)) m)).bind _ = _
      rw [e1]
      show (compL (gSet i) bYes elt env xs m1).bind _ = _
      rw [e2]
      rfl
    · rcases List.mem_cons.mp hz with e | e
      · rw [e]; exact hy
      · exact hP z e
theorem ints_of {Q : Int → Prop} : ∀ {ys : List D}, (∀ y ∈ ys, ∃ i, y = .int i ∧ Q i) → ∃ ns : List Int, ys = ns.map D.int ∧ ∀ x ∈ ns, Q x
  | [], _ => ⟨[], rfl, fun x hx => (nomatch hx)⟩
  | y :: ys, h => by
    obtain ⟨i, rfl, hq⟩ := h y (List.mem_cons_self ..)
    obtain ⟨ns, rfl, hn⟩ := ints_of fun z hz => h z (List.mem_cons_of_mem _ hz)
    refine ⟨i :: ns, rfl, fun x hx => ?_⟩
    rcases List.mem_cons.mp hx with e | e
    · rw [e]; exact hq
    · exact hn x e
theorem any_deq (x : Int) : ∀ ns : List Int, ((ns.map D.int).any fun y => deq y (.int x)) = decide (x ∈ ns)
  | [] => by simp
  | n :: ns => by
    rw [List.map_cons, List.any_cons, any_deq x ns, ev_deq1]
    by_cases h : n = x
    · simp [h]
    · have : ¬ x = n := fun z => h z.symm
      simp [h, this]
theorem notIn_ints (x : Int) (ns : List Int) : gNotIn (.int x) (.lst (ns.map D.int)) = some (.d (.bl (!decide (x ∈ ns)))) := by
  show (if _ then _ else _) = _
  rw [ev_pl3, plainDs_int, if_pos (by rfl), any_deq]
theorem in_ints (x : Int) (ns : List Int) : gIn (.int x) (.lst (ns.map D.int)) = some (.d (.bl (decide (x ∈ ns)))) := by
  show (if _ then _ else _) = _
  rw [ev_pl3, plainDs_int, if_pos (by rfl), any_deq]
theorem inT_ints (x : Int) (ns : List Int) : gIn (.int x) (.tup (ns.map D.int)) = some (.d (.bl (decide (x ∈ ns)))) := by
  show (if _ then _ else _) = _
  rw [ev_pl3, plainDs_int, if_pos (by rfl), any_deq]
theorem trim_loop (x : Slot) (ns : List Int) (hl : ns.length < 90000) : ∃ e m', sWhile (bAnd (bBool (rBin gNe (rVar 1) (rLst aNil))) (bBool (rBin gEq (rIx (rVar 1) (rNeg (rC (.int 1)))) (rC (.int 0))))) L__law_po_trim_1 [x, .own (ns.map D.int)] m = .ok (.nx e) m' ∧ m' = m ∧ e = [x, .own ((trim ns).map D.int)] := by
  refine sWhile_inv (fun k env m' => m' = m ∧ ∃ ns' : List Int, env = [x, .own (ns'.map D.int)] ∧ ns'.length = k ∧ trim ns' = trim ns) (fun e m' => m' = m ∧ e = [x, .own ((trim ns).map D.int)]) ?_ (k := ns.length) (by omega) ⟨rfl, ns, rfl, rfl, rfl⟩
  rintro k env m' ⟨rfl, ns', rfl, hk, ht⟩
  rcases List.eq_nil_or_concat ns' with rfl | ⟨ps, a, rfl⟩
  · left
    refine ⟨m', by simp, rfl, ?_⟩
    rw [← ht]; rfl
  · rw [List.concat_eq_append] at *
    have hl : (ps ++ [a]).length = ps.length + 1 := by simp
    have al := atI_last hl
    have ca : co (ps ++ [a]) ps.length = a := by rw [co_app, if_neg (Nat.lt_irrefl _), Nat.sub_self, co_zero]
    rw [ca] at al
    have al' := congrArg (Option.map D.int) al
    rw [← atI_ints, List.map_append] at al'
    have pl := plainDs_int 59 ps
    have ne : (ps.map D.int ++ [D.int a]).isEmpty = false := by cases ps <;> rfl
    simp only [List.map_cons, List.map_nil] at al'
    by_cases ha : a = 0
    · right
      refine ⟨m', [x, .own (ps.map D.int)], m', ps.length, ?_, ?_, by omega, rfl, ps, rfl, rfl, ?_⟩
      · subst ha
        simp [pl, al', ne, ev_plApp]
      · simp [L__law_po_trim_1]
      · rw [← ht]
        refine trim_ext fun j => ?_
        rw [co_app]
        split
        · rfl
        · rw [co_ge (f := ps) (by omega), ha]
          cases j - ps.length <;> simp
    · left
      refine ⟨m', ?_, rfl, ?_⟩
      · simp [pl, al', ne, ha, ev_plApp]
      · rw [← ht, trim_self fun n hn => by
          have : n = ps.length := by omega
          rw [this, ca]; exact ha]
theorem law_trimL (ns : List Int) (hl : ns.length < 90000) : f__law_po_trim [lI ns] m = .ok (.d (tI (trim ns))) m := by
  obtain ⟨e, m', k1, rfl, rfl⟩ := trim_loop (m := m) (.d (lI ns)) ns hl
  simp only [f__law_po_trim, b__law_po_trim]
  simp [k1]
theorem law_trimT (ns : List Int) (hl : ns.length < 90000) : f__law_po_trim [tI ns] m = .ok (.d (tI (trim ns))) m := by
  obtain ⟨e, m', k1, rfl, rfl⟩ := trim_loop (m := m) (.d (tI ns)) ns hl
  simp only [f__law_po_trim, b__law_po_trim]
  simp [k1]
theorem law_value_ok {p x : Int} (hp : 0 < p) (hp2 : p < 1000000) (f : List Int) (hf : Red p f) : f__law_po_value [.int p, tI f, .int x] m = .ok (.d (.int (pev f x % p))) m := by
  obtain ⟨e, m', k1, rfl, q, s, rfl, hq⟩ := for_ints (g := gSet 5) (b := L__law_po_value_1) f
    (fun pre env m' => m' = m ∧ ∃ (q : Int) (s : Slot), env = [.d (.int p), .d (tI f), .d (.int x), .d (.int (pev pre x % p)), .d (.int q), s] ∧ (q - x ^ pre.length) % p = 0 ∧ 0 ≤ q ∧ q ≤ p)
    (by
      rintro pre y post hpre env m' ⟨rfl, q, s, rfl, hq, q0, q1⟩
      have hy := hf y (by rw [hpre]; simp)
      refine ⟨_, [.d (.int p), .d (tI f), .d (.int x), .d (.int (pev (pre ++ [y]) x % p)), .d (.int (q * x % p)), .d (.int y)], m', rfl, ?_, rfl, q * x % p, .d (.int y), rfl, ?_, Int.emod_nonneg _ (by omega), Int.le_of_lt (Int.emod_lt_of_pos _ hp)⟩
      · have e : (pev pre x % p + y * q) % p = pev (pre ++ [y]) x % p := by
          rw [pev_snoc, Int.add_emod, Int.emod_emod_of_dvd _ (Int.dvd_refl p), Int.add_emod (pev pre x)]
          have h1 : q % p = x ^ pre.length % p := Int.emod_eq_emod_iff_emod_sub_eq_zero.mpr hq
          rw [Int.mul_comm y q, ← mul_mod_l q y p, h1, mul_mod_l]
        simp [L__law_po_value_1, ev_mulL (i := y) (j := q) (by omega), ev_mulL (i := q) (j := x) (by omega), ev_mod hp, e]
      · have h1 : q % p = x ^ pre.length % p := Int.emod_eq_emod_iff_emod_sub_eq_zero.mpr hq
        rw [List.length_append, List.length_singleton, Int.pow_succ]
        refine Int.emod_eq_emod_iff_emod_sub_eq_zero.mp ?_
        rw [Int.emod_emod_of_dvd _ (Int.dvd_refl p), ← mul_mod_l, h1, mul_mod_l])
    (env := [.d (.int p), .d (tI f), .d (.int x), .d (.int 0), .d (.int 1), .un]) (m := m) ⟨rfl, 1, .un, by simp, by simp, by omega, by omega⟩
  simp only [f__law_po_value, b__law_po_value]
  simp [k1]
theorem law_sum_ok {p : Int} (hp : 0 < p) (f g : List Int) (hf : f.length < 1000) (hg : g.length < 1000) (rf : Red p f) (rg : Red p g) : f__law_po_sum [.int p, tI f, tI g] m = .ok (.d (tI (nm p (padd f g)))) m := by
  obtain ⟨n, hn, hn2⟩ : ∃ n : Nat, (if f.length < g.length then (g.length : Int) else (f.length : Int)) = (n : Int) ∧ n = max f.length g.length := by
    refine ⟨_, ?_, rfl⟩
    split <;> omega
  obtain ⟨e, m', k1, rfl, fo, a, b, rfl, hl, hr, hc⟩ := for_enum (g := gTupS [4, 5]) (b := L__law_po_sum_1) f
    (fun pre env m' => m' = m ∧ ∃ (fo : List Int) (a b : Slot), env = [.d (.int p), .d (tI f), .d (tI g), .own (fo.map D.int), a, b] ∧ fo.length = n ∧ Red p fo ∧ ∀ k, co fo k = co pre k)
    (by
      rintro pre x post hpre env m' ⟨rfl, fo, a, b, rfl, hl, hr, hc⟩
      have hx := rf x (by rw [hpre]; simp)
      have hlp : pre.length + 1 + post.length = f.length := by rw [hpre]; simp; omega
      have ix : pre.length < fo.length := by omega
      have a2 := ixN_ok (n := fo.length) (i := (pre.length : Int)) (by omega) (by omega)
      rw [Int.toNat_natCast] at a2
      refine ⟨_, [.d (.int p), .d (tI f), .d (tI g), .own ((fo.set pre.length x).map D.int), .d (.int pre.length), .d (.int x)], m', rfl, ?_, rfl, _, _, _, rfl, by rw [List.length_set]; exact hl, ?_, fun k => ?_⟩
      · simp [L__law_po_sum_1, a2, List.map_set]
      · intro z hz
        rcases List.mem_or_eq_of_mem_set hz with h | h
        · exact hr z h
        · rw [h]; exact hx
      · rw [co_set _ _ _ _ ix, co_app, hc k]
        by_cases hk : k = pre.length
        · subst hk; simp
        · rw [if_neg hk]
          by_cases hk2 : k < pre.length
          · rw [if_pos hk2]
          · rw [if_neg hk2, co_ge (f := pre) (by omega), co_ge (f := [x]) (by simp; omega)])
    (env := [.d (.int p), .d (tI f), .d (tI g), .own (List.replicate n (D.int 0)), .un, .un]) (m := m) ⟨rfl, List.replicate n 0, .un, .un, by rw [List.map_replicate], by simp, fun z hz => by have := (List.mem_replicate.mp hz).2; omega, fun k => by rw [co_rep]; simp⟩
  obtain ⟨e, m'', k2, rfl, fo2, a', b', rfl, hl2, hr2, hc2⟩ := for_enum (g := gTupS [4, 5]) (b := L__law_po_sum_2) g
    (fun pre env m'' => m'' = m' ∧ ∃ (fo' : List Int) (a b : Slot), env = [.d (.int p), .d (tI f), .d (tI g), .own (fo'.map D.int), a, b] ∧ fo'.length = n ∧ Red p fo' ∧ ∀ k, co fo' k % p = (co fo k + co pre k) % p)
    (by
      rintro pre x post hpre env m'' ⟨rfl, fo', a, b, rfl, hl, hr, hc'⟩
      have hlp : pre.length + 1 + post.length = g.length := by rw [hpre]; simp; omega
      have ix : pre.length < fo'.length := by omega
      have a1 := atI_nn (ns := fo') (i := (pre.length : Int)) (by omega) (by omega)
      have a2 := ixN_ok (n := fo'.length) (i := (pre.length : Int)) (by omega) (by omega)
      rw [Int.toNat_natCast] at a1 a2
      refine ⟨_, [.d (.int p), .d (tI f), .d (tI g), .own ((fo'.set pre.length ((co fo' pre.length + x) % p)).map D.int), .d (.int pre.length), .d (.int x)], m'', rfl, ?_, rfl, _, _, _, rfl, by rw [List.length_set]; exact hl, ?_, fun k => ?_⟩
      · simp [L__law_po_sum_2, a1, a2, ev_mod hp, List.map_set]
      · intro z hz
        rcases List.mem_or_eq_of_mem_set hz with h | h
        · exact hr z h
        · rw [h]; exact ⟨Int.emod_nonneg _ (by omega), Int.emod_lt_of_pos _ hp⟩
      · rw [co_set _ _ _ _ ix, co_app]
        by_cases hk : k = pre.length
        · subst hk
          rw [if_pos rfl, if_neg (Nat.lt_irrefl _), Nat.sub_self, co_zero, Int.emod_emod_of_dvd _ (Int.dvd_refl p), Int.add_emod, hc' pre.length, co_ge (f := pre) (Nat.le_refl _), ← Int.add_emod, Int.add_zero]
        · rw [if_neg hk, hc' k]
          by_cases hk2 : k < pre.length
          · rw [if_pos hk2]
          · rw [if_neg hk2, co_ge (f := pre) (by omega), co_ge (f := [x]) (by simp; omega)])
    (env := [.d (.int p), .d (tI f), .d (tI g), .own (fo.map D.int), a, b]) (m := m') ⟨rfl, fo, a, b, rfl, hl, hr, fun k => by simp⟩
  have t := law_trimL (m := m'') fo2 (by omega)
  rw [nm_trim hp hr2, nm_ext (g := padd f g) fun k => by rw [hc2 k, hc k, co_padd]] at t
  simp only [f__law_po_sum, b__law_po_sum]
  simp [hn, gMul, show n ≤ 1000000 by omega, show (n : Int) ≤ 1000000 by omega, k1, k2, t]
theorem law_scaled_ok {p c : Int} (hp : 0 < p) (f : List Int) (hf : f.length < 1000) (c0 : 0 ≤ c) (c1 : c < 1000000) : f__law_po_scaled [.int p, tI f, .int c] m = .ok (.d (tI (nm p (psc c f)))) m := by
  obtain ⟨ys, hys⟩ : ∃ ys, ys = f.map fun x => x * c % p := ⟨_, rfl⟩
  have cc := comp_intsI (i := 3) (elt := X__law_po_scaled_1) (env := [.d (.int p), .d (tI f), .d (.int c), .un]) (m := m) (fun x => x * c % p) f ys hys (fun x hx => by
    simp [X__law_po_scaled_1, ev_mulR (i := x) (j := c) (by omega), ev_mod hp])
  have l : (f.map D.int).length ≤ 1000000 := by rw [List.length_map]; omega
  have t := law_trimL (m := m) ys (by rw [hys, List.length_map]; omega)
  have e : trim ys = nm p (psc c f) := by
    rw [hys]
    unfold nm psc
    rw [List.map_map]
    congr 1
    exact List.map_congr_left fun x _ => by show x * c % p = (c * x) % p; rw [Int.mul_comm]
  rw [e] at t
  simp only [f__law_po_scaled, b__law_po_scaled]
  simp [kComp1 l, cc, t]
theorem law_times_ok {p : Int} (hp : 0 < p) (hp2 : p < 1000000) (f g : List Int) (hf : f.length < 1000) (hg : g.length < 1000) (rf : Red p f) : f__law_po_times [.int p, tI f, tI g] m = .ok (.d (tI (nm p (pmul f g)))) m := by
  obtain ⟨n, hn⟩ : ∃ n : Nat, n = f.length + g.length := ⟨_, rfl⟩
  have hn2 : (f.length : Int) + (g.length : Int) = (n : Int) := by omega
  obtain ⟨e, m', k1, rfl, fo, a, b, c, d, rfl, hl, hr, hc⟩ := for_enum (g := gTupS [4, 5]) (b := L__law_po_times_2) f
    (fun pre env m' => m' = m ∧ ∃ (fo : List Int) (a b c d : Slot), env = [.d (.int p), .d (tI f), .d (tI g), .own (fo.map D.int), a, b, c, d] ∧ fo.length = n ∧ Red p fo ∧ ∀ k, co fo k % p = co (pmul pre g) k % p)
    (by
      rintro pre x post hpre env m' ⟨rfl, fo, a, b, c, d, rfl, hl, hr, hc⟩
      have hx : 0 ≤ x ∧ x < p := rf x (by rw [hpre]; simp)
      have hlp : pre.length + 1 + post.length = f.length := by rw [hpre]; simp; omega
      obtain ⟨e, m', k1, rfl, fo', c', d', rfl, hl', hr', hc'⟩ := for_enum (g := gTupS [6, 7]) (b := L__law_po_times_1) g
        (fun pr2 env m'' => m'' = m' ∧ ∃ (fo' : List Int) (c d : Slot), env = [.d (.int p), .d (tI f), .d (tI g), .own (fo'.map D.int), .d (.int pre.length), .d (.int x), c, d] ∧ fo'.length = n ∧ Red p fo' ∧ ∀ k, co fo' k % p = (co fo k + if pre.length ≤ k then x * co pr2 (k - pre.length) else 0) % p)
        (by
          rintro pr2 y post2 hpre2 env m'' ⟨rfl, fo', c, d, rfl, hl', hr', hc'⟩
          have hlp2 : pr2.length + 1 + post2.length = g.length := by rw [hpre2]; simp; omega
          have ix : pre.length + pr2.length < fo'.length := by omega
          have a1 := atI_nn (ns := fo') (i := (pre.length : Int) + (pr2.length : Int)) (by omega) (by omega)
          have a2 := ixN_ok (n := fo'.length) (i := (pre.length : Int) + (pr2.length : Int)) (by omega) (by omega)
          have e0 : ((pre.length : Int) + (pr2.length : Int)).toNat = pre.length + pr2.length := by omega
          rw [e0] at a1 a2
          refine ⟨_, [.d (.int p), .d (tI f), .d (tI g), .own ((fo'.set (pre.length + pr2.length) ((co fo' (pre.length + pr2.length) + x * y) % p)).map D.int), .d (.int pre.length), .d (.int x), .d (.int pr2.length), .d (.int y)], m'', rfl, ?_, rfl, _, _, _, rfl, by rw [List.length_set]; exact hl', ?_, fun k => ?_⟩
          · simp [L__law_po_times_1, a1, a2, ev_mulL (i := x) (j := y) (by omega), ev_mod hp, List.map_set]
          · intro z hz
            rcases List.mem_or_eq_of_mem_set hz with h | h
            · exact hr' z h
            · rw [h]; exact ⟨Int.emod_nonneg _ (by omega), Int.emod_lt_of_pos _ hp⟩
          · rw [co_set _ _ _ _ ix]
            by_cases hk : k = pre.length + pr2.length
            · subst hk
              rw [if_pos rfl, Int.emod_emod_of_dvd _ (Int.dvd_refl p), Int.add_emod, hc' (pre.length + pr2.length), ← Int.add_emod, if_pos (by omega), if_pos (by omega), show pre.length + pr2.length - pre.length = pr2.length by omega, co_ge (f := pr2) (Nat.le_refl _), co_app, if_neg (by omega), Nat.sub_self, co_zero]
              congr 1; omega
            · rw [if_neg hk, hc' k]
              by_cases hk2 : pre.length ≤ k
              · rw [if_pos hk2, if_pos hk2, co_app]
                by_cases hk3 : k - pre.length < pr2.length
                · rw [if_pos hk3]
                · rw [if_neg hk3, co_ge (f := pr2) (by omega), co_ge (f := [y]) (by simp; omega)]
              · rw [if_neg hk2, if_neg hk2])
        (env := [.d (.int p), .d (tI f), .d (tI g), .own (fo.map D.int), .d (.int pre.length), .d (.int x), c, d]) (m := m') ⟨rfl, fo, c, d, rfl, hl, hr, fun k => by simp⟩
      refine ⟨_, _, m', rfl, ?_, rfl, fo', .d (.int pre.length), .d (.int x), c', d', rfl, hl', hr', fun k => ?_⟩
      · simp [L__law_po_times_2, k1]
      · rw [hc' k, co_pmul_snoc, Int.add_emod, hc k, ← Int.add_emod])
    (env := [.d (.int p), .d (tI f), .d (tI g), .own (List.replicate n (D.int 0)), .un, .un, .un, .un]) (m := m) ⟨rfl, List.replicate n 0, .un, .un, .un, .un, by rw [List.map_replicate], by simp, fun z hz => by have := (List.mem_replicate.mp hz).2; omega, fun k => by rw [co_rep]; simp [pmul]⟩
  have t := law_trimL (m := m') fo (by omega)
  rw [nm_trim hp hr, nm_ext (g := pmul f g) hc] at t
  simp only [f__law_po_times, b__law_po_times]
  simp [hn2, gMul, show n ≤ 1000000 by omega, show (n : Int) ≤ 1000000 by omega, k1, t]
/-! ### what is drawn -/
theorem law_drawn_ok {n : Nat} {p : Int} (k : Nat) (hk : k < 1000) (hp : 2 ≤ p) (hp2 : p < 1000000) (hD : Dice n m) : ∃ f m', f__law_po_drawn [.ref n, .int p, .int k] m = .ok (.d (tI f)) m' ∧ IsP p f ∧ f.length ≤ k ∧ Dice n m' ∧ Only n m m' := by
  obtain ⟨r, m1, e1, r0, r1, D1, O1⟩ := roll_spec ((k : Int) + 1) hD (by omega) (by omega)
  obtain ⟨ys, m2, e2, hl, hP, D2, O2⟩ := comp_draw (i := 3) (elt := X__law_po_drawn_1) (env := [.d (.ref n), .d (.int p), .d (.int k), .un]) (fun m' => Dice n m' ∧ Only n m1 m') (fun y => ∃ i, y = .int i ∧ (0 ≤ i ∧ i < p)) (rangeD 0 r) m1 (by
    rintro x hx m ⟨hD, hO⟩
    obtain ⟨a, m2, e2, a0, a1, D2, O2⟩ := roll_spec p hD (by omega)
    obtain ⟨b, m3, e3, b0, b1, D3, O3⟩ := roll_spec p D2 (by omega)
    obtain ⟨y, m4, e4, hy, D4, O4⟩ := pick_spec [.int a, .int b, .int 0, .int 1, .int (p - 1)] D3 (by simp)
    refine ⟨y, m4, ?_, ?_, D4, ((hO.trans O2).trans O3).trans O4⟩
    · simp [X__law_po_drawn_1, roll_eq, pick_eq, e2, e3, e4]
    · simp only [List.mem_cons, List.not_mem_nil, or_false] at hy
      rcases hy with rfl | rfl | rfl | rfl | rfl <;> exact ⟨_, rfl, by omega, by omega⟩) ⟨D1, .rfl⟩
  obtain ⟨ns, rfl, hr⟩ := ints_of hP
  rw [List.length_map, rangeD_len] at hl
  have l : (rangeD 0 r).length ≤ 1000000 := by rw [rangeD_len]; omega
  refine ⟨trim ns, m2, ?_, .of hr, ?_, D2, O1.trans O2⟩
  · have t := law_trimL (m := m2) ns (by omega)
    simp only [f__law_po_drawn, b__law_po_drawn]
    simp [roll_eq, e1, kRa1_1 (j := r) (by omega), kComp1 l, e2, t]
  · have := trim_len ns; omega
theorem law_places_ok {n : Nat} {p least : Int} (k : Nat) (hk : k < 1000) (hk0 : 0 < k) (h0 : 0 ≤ least) (hp : least < p) (hp2 : p < 1000000) (hD : Dice n m) :
    ∃ ns m', f__law_po_places [.ref n, .int p, .int k, .int least] m = .ok (.d (tI ns)) m' ∧ Red p ns ∧ ns.Nodup ∧ ns ≠ [] ∧ ns.length ≤ k ∧ (∀ x ∈ ns, least ≤ x) ∧ Dice n m' ∧ Only n m m' := by
  obtain ⟨e, m', k1, s, t, ns, rfl, hn, hl, hb, D1, O1⟩ := for_range (g := gSet 5) (b := L__law_po_places_1) 0 ((k : Int) * 3)
    (fun j env m' => ∃ (s t : Slot) (ns : List Int), env = [.d (.ref n), .d (.int p), .d (.int k), .d (.int least), .own (ns.map D.int), s, t] ∧ ns.Nodup ∧ ns.length ≤ k ∧ (∀ x ∈ ns, least ≤ x ∧ x < p) ∧ Dice n m' ∧ Only n m m')
    (by
      rintro j hj env m' ⟨s, t, ns, rfl, hn, hl, hb, hD, hO⟩
      obtain ⟨a, m2, e2, a0, a1, D2, O2⟩ := roll_spec (p - least) hD (by omega)
      have ni := notIn_ints (least + a) ns
      by_cases h1 : least + a ∈ ns
      · refine ⟨_, _, m2, rfl, ?_, .d (.int (0 + j)), .d (.int (least + a)), ns, rfl, hn, hl, hb, D2, hO.trans O2⟩
        simp [L__law_po_places_1, roll_eq, e2, ni, h1]
      · by_cases h2 : ns.length < k
        · refine ⟨_, _, m2, rfl, ?_, .d (.int (0 + j)), .d (.int (least + a)), ns ++ [least + a], rfl, ?_, by simp; omega, ?_, D2, hO.trans O2⟩
          · have : ns.length < 1000000 := by omega
            simp [L__law_po_places_1, roll_eq, e2, ni, h1, h2, this]
          · rw [List.nodup_append]
            exact ⟨hn, by simp, fun x hx y hy => by
              have : y = least + a := by simpa using hy
              intro z; rw [z, this] at hx; exact h1 hx⟩
          · intro x hx
            rcases List.mem_append.mp hx with h | h
            · exact hb x h
            · have : x = least + a := by simpa using h
              omega
        · refine ⟨_, _, m2, rfl, ?_, .d (.int (0 + j)), .d (.int (least + a)), ns, rfl, hn, hl, hb, D2, hO.trans O2⟩
          simp [L__law_po_places_1, roll_eq, e2, ni, h1, h2])
    (env := [.d (.ref n), .d (.int p), .d (.int k), .d (.int least), .own [], .un, .un]) (m := m) ⟨.un, .un, [], rfl, .nil, by simp, fun x hx => (nomatch hx), hD, .rfl⟩
  have mu := ev_mulL (i := (k : Int)) (j := 3) (by omega)
  by_cases he : ns = []
  · subst he
    refine ⟨[least], m', ?_, fun a ha => ?_, by simp, by simp, by simp; omega, fun x hx => ?_, D1, O1⟩
    · simp only [f__law_po_places, b__law_po_places]
      simp only [List.map_nil] at k1
      simp [mu, kRa1_1 (j := (k : Int) * 3) (by omega), k1]
    · have : a = least := by simpa using ha
      omega
    · have : x = least := by simpa using hx
      omega
  · have hne : ns.isEmpty = false := by cases ns <;> simp at he ⊢
    refine ⟨ns, m', ?_, fun a ha => ⟨by have := hb a ha; omega, (hb a ha).2⟩, hn, he, hl, fun x hx => (hb x hx).1, D1, O1⟩
    simp only [f__law_po_places, b__law_po_places]
    simp [mu, kRa1_1 (j := (k : Int) * 3) (by omega), k1, plainDs_int, hne]
def poFields : List Int := [5, 7, 11, 13, 17, 31, 101, 499, 991, 997]
theorem poFields_ok : ∀ p ∈ poFields, fieldB p = true := by decide +kernel
theorem law_field_ok {n : Nat} (hD : Dice n m) : ∃ p m', f__law_po_field [.ref n] m = .ok (.d (.int p)) m' ∧ p ∈ poFields ∧ Fd p ∧ Dice n m' ∧ Only n m m' := by
  obtain ⟨y, m1, e1, hy, D1, O1⟩ := pick_spec (poFields.map D.int) hD (by simp [poFields]) (by simp [poFields])
  obtain ⟨p, hp, rfl⟩ := List.mem_map.mp hy
  refine ⟨p, m1, ?_, hp, fd_of (poFields_ok p hp), D1, O1⟩
  simp only [poFields, List.map_cons, List.map_nil] at e1
  simp only [f__law_po_field, b__law_po_field]
  simp [pick_eq, e1]
end Pg
/-! Pg: hiding polys. -/
namespace Pg
open PySem PySem.Spec L2 Ev Po
variable {m : Cells}
theorem nm_nil {p : Int} {f : List Int} (h : ∀ k, co f k % p = 0) : nm p f = [] := by
  refine trim_nil fun k => ?_
  rw [co_map (by simp)]; exact h k
theorem len_eq {p : Int} {f : List Int} {n : Nat} (hf : IsP p f) (h1 : co f n ≠ 0) (h2 : ∀ k, n < k → co f k = 0) : f.length = n + 1 := by
  have a := len_of_co (n := n + 1) hf fun k hk => h2 k (by omega)
  have b : ¬ f.length ≤ n := fun z => h1 (co_ge z)
  omega
theorem plainDs_tups (k : Nat) : ∀ ts : List (List Int), plainDs (k + 1) (ts.map tI) = true
  | [] => by simp
  | t :: ts => by rw [List.map_cons, ev_pls1, ev_pl6, plainDs_int, plainDs_tups k ts]; rfl
theorem tups_inj : ∀ {a b : List (List Int)}, deqs (a.map tI) (b.map tI) = decide (a = b)
  | [], [] => by simp
  | [], b :: bs => by simp
  | a :: as, [] => by simp
  | a :: as, b :: bs => by
    simp only [List.map_cons, ev_deqs1, ev_deq5, ints_inj, tups_inj (a := as) (b := bs), List.cons.injEq]
    by_cases h1 : a = b <;> by_cases h2 : as = bs <;> simp [h1, h2]
/-- the hiding poly -/
noncomputable def hid (p : Int) (ns : List Int) : List Int := ns.foldl (fun h x => nm p (pmul h [1, (-inv p x) % p])) [1]
theorem hid_snoc (p : Int) (ns : List Int) (x : Int) : hid p (ns ++ [x]) = nm p (pmul (hid p ns) [1, (-inv p x) % p]) := by simp [hid]
structure Hid (p : Int) (ns h : List Int) : Prop where
  isP : IsP p h
  len : h.length = ns.length + 1
  at0 : pev h 0 % p = 1
  at_ : ∀ x ∈ ns, pev h x % p = 0
theorem hid_nil {p : Int} (F : Fd p) : Hid p [] [1] := by
  have := F.lo
  refine ⟨⟨fun a ha => ?_, trim_self fun n hn => ?_⟩, rfl, ?_, fun x hx => (nomatch hx)⟩
  · have : a = 1 := by simpa using ha
    omega
  · have : n = 0 := by simpa using hn.symm
    subst this; simp
  · simp [pev]; exact Int.emod_eq_of_lt (by omega) (by omega)
theorem hid_step {p x : Int} (F : Fd p) {ns h : List Int} (H : Hid p ns h) (x0 : 0 < x) (x1 : x < p) : Hid p (ns ++ [x]) (nm p (pmul h [1, (-inv p x) % p])) := by
  have hp := F.pos
  have lo := F.lo
  obtain ⟨u0, u1, u2⟩ := inv_spec F x0 x1
  have v0 := Int.emod_nonneg (-inv p x) (show p ≠ 0 by omega)
  have v1 := Int.emod_lt_of_pos (-inv p x) hp
  have ve : ((-inv p x) % p * x + 1) % p = 0 := by
    rw [Int.add_emod, mul_mod_l, ← Int.add_emod, Int.neg_mul, Int.add_comm]
    have : (1 + -(inv p x * x)) = 1 - inv p x * x := by omega
    rw [this, Int.sub_emod, u2, Int.emod_eq_of_lt (by omega) (by omega : (1 : Int) < p)]; simp
  generalize hv : (-inv p x) % p = v at *
  have vn : v ≠ 0 := fun z => by
    rw [z] at ve
    simp at ve
    rw [Int.emod_eq_of_lt (by omega) (by omega)] at ve
    omega
  have top := co_pmul_top h [1, v] ns.length 1 H.len rfl
  refine ⟨nm_isP hp _, ?_, ?_, fun y hy => ?_⟩
  · rw [List.length_append, List.length_singleton]
    refine len_eq (nm_isP hp _) (n := ns.length + 1) ?_ fun k hk => ?_
    · rw [co_nm, top]
      simp only [co_succ, co_zero]
      intro z
      rcases F.pr.mul0 z with y | y
      · rw [H.isP.red.mod hp] at y; exact H.isP.last H.len y
      · rw [Int.emod_eq_of_lt v0 v1] at y; exact vn y
    · rw [co_nm, co_pmul_ge _ _ _ (by have := H.len; simp; omega)]; simp
  · rw [pev_nm, pev_pmul, Int.mul_emod, H.at0]
    simp [pev]
    rw [Int.emod_eq_of_lt (by omega) (by omega)]
  · rw [pev_nm, pev_pmul, Int.mul_emod]
    rcases List.mem_append.mp hy with z | z
    · rw [H.at_ y z]; simp
    · have : y = x := by simpa using z
      subst this
      have : pev [1, v] y % p = 0 := by
        show (1 + y * (v + y * 0)) % p = 0
        rw [Int.mul_zero, Int.add_zero, Int.mul_comm, Int.add_comm]; exact ve
      rw [this]; simp
theorem hid_ok {p : Int} (F : Fd p) {ns : List Int} (h : ∀ x ∈ ns, 0 < x ∧ x < p) : Hid p ns (hid p ns) := by
  have : ∀ (post pre h : List Int), Hid p pre h → (∀ x ∈ post, 0 < x ∧ x < p) → Hid p (pre ++ post) (post.foldl (fun h x => nm p (pmul h [1, (-inv p x) % p])) h) := by
    intro post
    induction post with
    | nil => intro pre h H _; rw [List.append_nil]; exact H
    | cons x post ih =>
      intro pre h H hx
      have := ih (pre ++ [x]) _ (hid_step F H (hx x (List.mem_cons_self ..)).1 (hx x (List.mem_cons_self ..)).2) fun y hy => hx y (List.mem_cons_of_mem _ hy)
      rw [List.append_assoc] at this
      exact this
  exact this ns [] [1] (hid_nil F) h
theorem hiding_in_ok {p : Int} (F : Fd p) {ns : List Int} (h : ∀ x ∈ ns, 0 < x ∧ x < p) (hl : ns.length ≤ 60) : f_hiding_in [.int p, tI ns] m = .ok (.d (tI (hid p ns))) m := by
  have hp := F.pos
  have hi := F.hi
  obtain ⟨e, m', k1, rfl, s, rfl⟩ := for_ints (g := gSet 3) (b := L_hiding_in_1) ns
    (fun pre env m' => m' = m ∧ ∃ s, env = [.d (.int p), .d (tI ns), .d (tI (hid p pre)), s])
    (by
      rintro pre x post hpre env m' ⟨rfl, s, rfl⟩
      have hx := h x (by rw [hpre]; simp)
      have H := hid_ok F (ns := pre) fun y hy => h y (by rw [hpre]; simp [hy])
      have hlp : pre.length + 1 + post.length = ns.length := by rw [hpre]; simp; omega
      have hlen := H.len
      have u := undone_ok (m := m') F hx.1 hx.2
      have t := product_in_ok (m := m') hp (by omega) (hid p pre) [1, (-inv p x) % p] (by omega) (by simp) H.isP.red
      refine ⟨_, _, m', rfl, ?_, rfl, .d (.int x), rfl⟩
      rw [hid_snoc]
      simp only [tI, List.map_cons, List.map_nil] at t
      simp [L_hiding_in_1, u, ev_mod hp, t])
    (env := [.d (.int p), .d (tI ns), .d (tI [1]), .un]) (m := m) ⟨rfl, .un, rfl⟩
  simp only [f_hiding_in, b_hiding_in]
  simp only [tI, List.map_cons, List.map_nil] at k1
  simp [k1]
noncomputable def hdn (p : Int) (f ns : List Int) (g : Int) : List Int := nm p (padd f (nm p (psc ((g - pev f 0) % p) (hid p ns))))
theorem hidden_in_ok {p g : Int} (F : Fd p) {f ns : List Int} (h : ∀ x ∈ ns, 0 < x ∧ x < p) (hl : ns.length ≤ 60) (lf : f.length ≤ 61) : f_hidden_in [.int p, tI f, tI ns, .int g] m = .ok (.d (tI (hdn p f ns g))) m := by
  have hp := F.pos
  have hi := F.hi
  have H := hid_ok F h
  have hlen := H.len
  have c0 := Int.emod_nonneg (g - pev f 0) (show p ≠ 0 by omega)
  have c1 := Int.emod_lt_of_pos (g - pev f 0) hp
  have t1 := scaled_in_ok (m := m) hp (hid p ns) (by omega) c0 (show (g - pev f 0) % p < 1000000 by omega)
  have l2 := nm_len p (psc ((g - pev f 0) % p) (hid p ns))
  rw [psc_len] at l2
  have t2 := sum_in_ok (m := m) hp f (nm p (psc ((g - pev f 0) % p) (hid p ns))) (by omega) (by omega)
  simp only [f_hidden_in, b_hidden_in]
  simp [value_in_ok hp (show p < 1000000 by omega) f, ev_mod hp, hiding_in_ok F h hl, t1, t2, hdn]
theorem req_hiding {p : Int} {ns : List Int} (h : ∀ x ∈ ns, 0 < x ∧ x < p) (hn : ns.Nodup) (hl : ns.length ≤ 60) : f_require_hiding [.int p, tI ns] m = .ok (.d .non) m := by
  have r : Red p ns := fun x hx => by have := h x hx; omega
  have n0 : ¬ (0 : Int) ∈ ns := fun z => by have := h 0 z; omega
  simp [f_require_hiding, b_require_hiding, are_places_ok r hn hl, inT_ints, n0]
theorem hiding_ok {p : Int} (F : Fd p) {ns : List Int} (h : ∀ x ∈ ns, 0 < x ∧ x < p) (hn : ns.Nodup) (hl : ns.length ≤ 60) : f_hiding [.int p, tI ns] m = .ok (.d (tI (hid p ns))) m := by
  simp [f_hiding, b_hiding, req_field F.b, req_hiding h hn hl, hiding_in_ok F h hl]
theorem hidden_ok {p g : Int} (F : Fd p) {f ns : List Int} (hf : IsP p f) (h : ∀ x ∈ ns, 0 < x ∧ x < p) (hn : ns.Nodup) (hl : ns.length ≤ 60) (lf : f.length ≤ 61) (g0 : 0 ≤ g) (g1 : g < p) : f_hidden [.int p, tI f, tI ns, .int g] m = .ok (.d (tI (hdn p f ns g))) m := by
  simp [f_hidden, b_hidden, req_field_poly F hf lf, req_hiding h hn hl, req_number g0 g1, hidden_in_ok F h hl lf]
theorem hdn_isP {p : Int} (hp : 0 < p) (f ns : List Int) (g : Int) : IsP p (hdn p f ns g) := nm_isP hp _
theorem hdn_len {p : Int} (F : Fd p) {f ns : List Int} (h : ∀ x ∈ ns, 0 < x ∧ x < p) (g : Int) : (hdn p f ns g).length ≤ max f.length (ns.length + 1) := by
  have H := hid_ok F h
  have a := nm_len p (padd f (nm p (psc ((g - pev f 0) % p) (hid p ns))))
  have b := nm_len p (psc ((g - pev f 0) % p) (hid p ns))
  rw [padd_len] at a
  rw [psc_len, H.len] at b
  unfold hdn
  omega
theorem hdn_pev {p : Int} (F : Fd p) {f ns : List Int} (h : ∀ x ∈ ns, 0 < x ∧ x < p) (g x : Int) : pev (hdn p f ns g) x % p = (pev f x + (g - pev f 0) * pev (hid p ns) x) % p := by
  unfold hdn
  rw [pev_nm, pev_padd, Int.add_emod, pev_nm, pev_psc, mul_mod_l, ← Int.add_emod]
theorem hdn_at0 {p : Int} (F : Fd p) {f ns : List Int} (h : ∀ x ∈ ns, 0 < x ∧ x < p) {g : Int} (g0 : 0 ≤ g) (g1 : g < p) : pev (hdn p f ns g) 0 % p = g := by
  have H := hid_ok F h
  rw [hdn_pev F h, Int.add_emod, ← mul_mod_r, H.at0, Int.mul_one, ← Int.add_emod, show pev f 0 + (g - pev f 0) = g by omega, Int.emod_eq_of_lt g0 g1]
theorem hdn_at {p : Int} (F : Fd p) {f ns : List Int} (h : ∀ x ∈ ns, 0 < x ∧ x < p) (g : Int) {x : Int} (hx : x ∈ ns) : pev (hdn p f ns g) x % p = pev f x % p := by
  have H := hid_ok F h
  rw [hdn_pev F h, Int.add_emod, ← mul_mod_r, H.at_ x hx, Int.mul_zero, ← Int.add_emod, Int.add_zero]
theorem hdn_back {p : Int} (F : Fd p) {f ns : List Int} (hf : IsP p f) (h : ∀ x ∈ ns, 0 < x ∧ x < p) {g : Int} (g0 : 0 ≤ g) (g1 : g < p) : hdn p (hdn p f ns g) ns (pev f 0 % p) = f := by
  have hp := F.pos
  refine isP_ext hp (hdn_isP hp _ _ _) hf fun k => ?_
  have e1 := hdn_at0 F (f := f) h g0 g1
  have e2 : (pev f 0 % p - pev (hdn p f ns g) 0) % p = (pev f 0 - g) % p := by rw [Int.sub_emod, e1, Int.emod_emod_of_dvd _ (Int.dvd_refl p), Int.sub_emod (pev f 0) g, Int.emod_eq_of_lt g0 g1]
  show co (nm p (padd (hdn p f ns g) (nm p (psc ((pev f 0 % p - pev (hdn p f ns g) 0) % p) (hid p ns))))) k % p = _
  rw [e2]
  unfold hdn
  simp only [co_nm, co_padd, co_psc]
  rw [Int.emod_emod_of_dvd _ (Int.dvd_refl p)]
  generalize co (hid p ns) k = c
  generalize pev f 0 = q
  have z : ∀ a b : Int, ((a + b % p) % p) = (a + b) % p := fun a b => by rw [Int.add_emod, Int.emod_emod_of_dvd _ (Int.dvd_refl p), ← Int.add_emod]
  have z2 : ∀ a b : Int, ((a % p + b) % p) = (a + b) % p := fun a b => by rw [Int.add_emod, Int.emod_emod_of_dvd _ (Int.dvd_refl p), ← Int.add_emod]
  rw [z, z, z2]
  have e3 : ((g - q) % p * c + (q - g) % p * c) % p = 0 := by
    rw [Int.add_emod, mul_mod_l, mul_mod_l, ← Int.add_emod, ← Int.add_mul, show g - q + (q - g) = 0 by omega]; simp
  rw [Int.add_assoc, Int.add_emod, e3]
  simp
end Pg
/-! Polys through points, by weights (plain mathematics). -/
namespace Po
/-- the product of z - r -/
def dif (z : Int) : List Int → Int
  | [] => 1
  | r :: rs => (z - r) * dif z rs
theorem dif_app (z : Int) : ∀ a b : List Int, dif z (a ++ b) = dif z a * dif z b
  | [], b => by simp [dif]
  | r :: a, b => by simp only [List.cons_append, dif, dif_app z a b, Int.mul_assoc]
theorem dif_mem {z : Int} : ∀ {rs : List Int}, z ∈ rs → dif z rs = 0
  | r :: rs, h => by
    rcases List.mem_cons.mp h with e | e
    · simp [dif, e]
    · simp [dif, dif_mem e]
def mon : List Int → List Int
  | [] => [1]
  | r :: rs => pmul [-r, 1] (mon rs)
theorem pev_mon (z : Int) : ∀ rs : List Int, pev (mon rs) z = dif z rs
  | [] => by simp [mon, dif, pev]
  | r :: rs => by
    have e : -r + z = z - r := by omega
    simp only [mon, pev_pmul, pev_mon z rs, dif, pev]
    rw [← e]; simp
theorem mon_len : ∀ rs : List Int, (mon rs).length = rs.length + 1
  | [] => rfl
  | r :: rs => by
    have := mon_len rs
    simp [mon, pmul, padd_len, this]
theorem mon_top : ∀ rs : List Int, co (mon rs) rs.length = 1
  | [] => by simp [mon]
  | r :: rs => by
    have h := co_pmul_top [-r, 1] (mon rs) 1 rs.length (by simp) (mon_len rs)
    rw [mon_top rs] at h
    rw [List.length_cons, Nat.add_comm]
    simpa [mon] using h
theorem dif_ne {p : Int} (h : Pr p) {z : Int} : ∀ {rs : List Int}, (∀ r ∈ rs, ¬ (z - r) % p = 0) → ¬ dif z rs % p = 0
  | [], _ => by
    have := h.two
    simp only [dif]
    rw [Int.emod_eq_of_lt (by omega) (by omega)]; omega
  | r :: rs, hr => fun e => by
    rcases h.mul0 e with e | e
    · exact hr r List.mem_cons_self e
    · exact dif_ne h (fun r' h' => hr r' (List.mem_cons_of_mem _ h')) e
/-- the others -/
def oth (x : Int) (xs : List Int) : List Int := xs.filter fun y => decide (y ≠ x)
theorem oth_app (x : Int) (a b : List Int) : oth x (a ++ b) = oth x a ++ oth x b := List.filter_append ..
theorem mem_oth {x y : Int} {xs : List Int} : y ∈ oth x xs ↔ y ∈ xs ∧ y ≠ x := by
  unfold oth
  rw [List.mem_filter, decide_eq_true_eq]
theorem oth_len : ∀ {xs : List Int} {x : Int}, xs.Nodup → x ∈ xs → (oth x xs).length + 1 = xs.length
  | y :: xs, x, hn, hx => by
    have hn' := List.nodup_cons.mp hn
    by_cases e : y = x
    · subst e
      have h1 : oth y xs = xs := List.filter_eq_self.mpr fun z hz => decide_eq_true (fun q => hn'.1 (q ▸ hz))
      have h2 : oth y (y :: xs) = oth y xs := by unfold oth; rw [List.filter_cons]; simp
      rw [h2, h1, List.length_cons]
    · have hx' : x ∈ xs := by
        rcases List.mem_cons.mp hx with q | q
        · exact absurd q.symm e
        · exact q
      have h2 : oth x (y :: xs) = y :: oth x xs := by unfold oth; rw [List.filter_cons]; simp [e]
      rw [h2, List.length_cons, List.length_cons, oth_len hn'.2 hx']
/-- the sum of weighted products -/
def lagL (xs : List Int) (c : Int → Int) : List Int → List Int
  | [] => []
  | y :: ys => padd (psc (c y) (mon (oth y xs))) (lagL xs c ys)
theorem co_lagL (xs : List Int) (c : Int → Int) (k : Nat) : ∀ ys : List Int, co (lagL xs c ys) k = (ys.map fun y => c y * co (mon (oth y xs)) k).sum
  | [] => by simp [lagL]
  | y :: ys => by simp [lagL, co_padd, co_psc, co_lagL xs c k ys]
theorem pev_lagL (xs : List Int) (c : Int → Int) (z : Int) : ∀ ys : List Int, pev (lagL xs c ys) z = (ys.map fun y => c y * dif z (oth y xs)).sum
  | [] => by simp [lagL]
  | y :: ys => by simp [lagL, pev_padd, pev_psc, pev_mon, pev_lagL xs c z ys]
theorem sum_zero : ∀ {ys : List Int} {g : Int → Int}, (∀ y ∈ ys, g y = 0) → (ys.map g).sum = 0
  | [], g, _ => rfl
  | y :: ys, g, h => by
    rw [List.map_cons, List.sum_cons, h y List.mem_cons_self, sum_zero fun z hz => h z (List.mem_cons_of_mem _ hz)]; rfl
theorem sum_one : ∀ {ys : List Int} {g : Int → Int} {r : Int}, ys.Nodup → r ∈ ys → (∀ y ∈ ys, y ≠ r → g y = 0) → (ys.map g).sum = g r
  | y :: ys, g, r, hn, hr, h => by
    have hn' := List.nodup_cons.mp hn
    rw [List.map_cons, List.sum_cons]
    by_cases e : y = r
    · subst e
      rw [sum_zero fun z hz => h z (List.mem_cons_of_mem _ hz) fun q => hn'.1 (q ▸ hz), Int.add_zero]
    · have hr' : r ∈ ys := by
        rcases List.mem_cons.mp hr with q | q
        · exact absurd q.symm e
        · exact q
      rw [h y List.mem_cons_self e, sum_one hn'.2 hr' fun z hz => h z (List.mem_cons_of_mem _ hz), Int.zero_add]
theorem nodup_pw {p : Int} {xs : List Int} (hp : 0 < p) (hr : Red p xs) (hn : xs.Nodup) : xs.Pairwise fun a b => ¬ (a - b) % p = 0 :=
  hn.imp_of_mem fun {a b} ha hb hne e => hne (eq_of_mod (hr a ha).1 (hr a ha).2 (hr b hb).1 (hr b hb).2 e)
/-- a poly of a small degree is the sum of the products -/
theorem interp {p : Int} (h : Pr p) {xs : List Int} (hr : Red p xs) (hn : xs.Nodup) {u : Int → Int} (hu : ∀ x ∈ xs, u x * dif x (oth x xs) % p = 1) {f : List Int} (hf : ∀ k, xs.length ≤ k → co f k % p = 0) (k : Nat) :
    co f k % p = (xs.map fun x => u x * pev f x * co (mon (oth x xs)) k).sum % p := by
  have hp : 0 < p := by have := h.two; omega
  let G := padd f (psc (-1) (lagL xs (fun x => u x * pev f x) xs))
  have hG : ∀ k, co G k = co f k - (xs.map fun x => u x * pev f x * co (mon (oth x xs)) k).sum := fun k => by
    show co (padd _ _) k = _
    rw [co_padd, co_psc, co_lagL]; omega
  have gl : (nm p G).length ≤ xs.length := len_of_co (nm_isP hp _) fun k hk => by
    rw [co_nm, hG, sum_zero (g := fun x => u x * pev f x * co (mon (oth x xs)) k) fun x hx => by
      rw [co_ge (f := mon (oth x xs)) (by rw [mon_len, oth_len hn hx]; exact hk), Int.mul_zero], Int.sub_zero]
    exact hf k hk
  have gr : ∀ r ∈ xs, pev (nm p G) r % p = 0 := fun r hm => by
    rw [pev_nm]
    show pev (padd _ _) r % p = 0
    rw [pev_padd, pev_psc, pev_lagL, sum_one hn hm fun y hy ne => by rw [dif_mem (mem_oth.mpr ⟨hm, fun e => ne e.symm⟩), Int.mul_zero]]
    have e := hu r hm
    have e2 : pev f r + -1 * (u r * pev f r * dif r (oth r xs)) = pev f r * (1 - u r * dif r (oth r xs)) := by
      rw [Int.mul_sub, Int.mul_one, Int.mul_comm (u r) (pev f r), Int.mul_assoc]; omega
    rw [e2]
    apply Int.emod_eq_zero_of_dvd
    apply Int.dvd_mul_of_dvd_right
    apply Int.dvd_of_emod_eq_zero
    have o : (1 : Int) % p = 1 := Int.emod_eq_of_lt (by omega) (by have := h.two; omega)
    exact Int.emod_eq_emod_iff_emod_sub_eq_zero.mp (by rw [e, o])
  have t := no_roots h xs (nm p G) (nodup_pw hp hr hn) gl gr k
  rw [co_nm, Int.emod_emod_of_dvd _ (Int.dvd_refl p), hG] at t
  exact Int.emod_eq_emod_iff_emod_sub_eq_zero.mpr t
/-- the value at any goal, by weights -/
theorem interp_at {p : Int} (h : Pr p) {xs : List Int} (hr : Red p xs) (hn : xs.Nodup) {u : Int → Int} (hu : ∀ x ∈ xs, u x * dif x (oth x xs) % p = 1) {f : List Int} (hf : ∀ k, xs.length ≤ k → co f k % p = 0) (g : Int) :
    pev f g % p = (xs.map fun x => u x * pev f x * dif g (oth x xs)).sum % p := by
  rw [← pev_lagL xs (fun x => u x * pev f x) g xs]
  refine pev_ext g fun k => ?_
  rw [interp h hr hn hu hf k, co_lagL]
/-- the top number, by the checks' numbers -/
theorem interp_top {p : Int} (h : Pr p) {xs : List Int} (hr : Red p xs) (hn : xs.Nodup) {u : Int → Int} (hu : ∀ x ∈ xs, u x * dif x (oth x xs) % p = 1) {f : List Int} {n : Nat} (hl : xs.length = n + 1) (hf : ∀ k, n < k → co f k % p = 0) :
    (xs.map fun x => u x * pev f x).sum % p = co f n % p := by
  rw [interp h hr hn hu (fun k hk => hf k (by omega)) n]
  congr 2
  refine List.map_congr_left fun x hx => ?_
  have := oth_len hn hx
  rw [show n = (oth x xs).length by omega, mon_top, Int.mul_one]
/-- times a power of the letter -/
def shf (t : Nat) (f : List Int) : List Int := List.replicate t 0 ++ f
theorem pev_shf (t : Nat) (f : List Int) (x : Int) : pev (shf t f) x = x ^ t * pev f x := by
  induction t with
  | zero => simp [shf]
  | succ t ih =>
    have : shf (t + 1) f = 0 :: shf t f := rfl
    rw [this]
    simp only [pev, ih, Int.pow_succ]
    rw [Int.zero_add, ← Int.mul_assoc, Int.mul_comm x]
theorem co_shf (t : Nat) (f : List Int) (k : Nat) : co (shf t f) k = if k < t then 0 else co f (k - t) := by
  unfold shf
  rw [co_app, List.length_replicate, co_rep]
end Po
namespace Po
theorem sum_congr {p : Int} {F G : Int → Int} : ∀ {xs : List Int}, (∀ x ∈ xs, F x % p = G x % p) → (xs.map F).sum % p = (xs.map G).sum % p
  | [], _ => rfl
  | x :: xs, h => by
    rw [List.map_cons, List.map_cons, List.sum_cons, List.sum_cons, Int.add_emod, h x List.mem_cons_self, sum_congr fun y hy => h y (List.mem_cons_of_mem _ hy), ← Int.add_emod]
end Po
/-! Pg: polys through points, weights, checks. -/
namespace Pg
open PySem PySem.Spec L2 Ev Po
variable {m : Cells}
theorem oth_ne {x y : Int} (h : y ≠ x) : oth x [y] = [y] := by simp [oth, h]
theorem oth_eq (x : Int) : oth x [x] = [] := by simp [oth]
theorem dif_snoc (z x : Int) (pre : List Int) (y : Int) : dif z (oth x (pre ++ [y])) = if y = x then dif z (oth x pre) else dif z (oth x pre) * (z - y) := by
  rw [oth_app, dif_app]
  by_cases h : y = x
  · subst h; simp [oth_eq, dif]
  · simp [oth_ne h, h, dif]
/-- what the others make of a place -/
def bot (p : Int) (xs : List Int) (x : Int) : Int := dif x (oth x xs) % p
theorem bot_pos {p : Int} (F : Fd p) {xs : List Int} (hr : Red p xs) {x : Int} (hx : x ∈ xs) : 0 < bot p xs x ∧ bot p xs x < p := by
  have hp := F.pos
  have n : ¬ bot p xs x = 0 := dif_ne F.pr fun r h e => by
    obtain ⟨h1, h2⟩ := mem_oth.mp h
    exact h2 (eq_of_mod (hr x hx).1 (hr x hx).2 (hr r h1).1 (hr r h1).2 e).symm
  have a := Int.emod_nonneg (dif x (oth x xs)) (show p ≠ 0 by omega)
  have b := Int.emod_lt_of_pos (dif x (oth x xs)) hp
  unfold bot at n ⊢
  omega
/-- the number of a place -/
noncomputable def unb (p : Int) (xs : List Int) (x : Int) : Int := inv p (bot p xs x)
theorem unb_spec {p : Int} (F : Fd p) {xs : List Int} (hr : Red p xs) {x : Int} (hx : x ∈ xs) : 0 ≤ unb p xs x ∧ unb p xs x < p ∧ unb p xs x * dif x (oth x xs) % p = 1 := by
  obtain ⟨b0, b1⟩ := bot_pos F hr hx
  obtain ⟨h0, h1, h2⟩ := inv_spec F b0 b1
  refine ⟨h0, h1, ?_⟩
  have : inv p (bot p xs x) * (dif x (oth x xs) % p) % p = 1 := h2
  rwa [mul_mod_r] at this
/-- the weight of a place for a goal -/
noncomputable def wgt (p : Int) (xs : List Int) (g x : Int) : Int := dif g (oth x xs) % p * unb p xs x % p
theorem weights_in_ok {p g : Int} (F : Fd p) {xs : List Int} (hr : Red p xs) (hl : xs.length ≤ 60) : f_weights_in [.int p, tI xs, .int g] m = .ok (.d (tI (xs.map (wgt p xs g)))) m := by
  have hp := F.pos
  have hi := F.hi
  have lo := F.lo
  obtain ⟨e, m', k1, rfl, s4, s5, s6, s7, rfl⟩ := for_ints (g := gSet 4) (b := L_weights_in_2) xs
    (fun pre env m' => m' = m ∧ ∃ s4 s5 s6 s7, env = [.d (.int p), .d (tI xs), .d (.int g), .own ((pre.map (wgt p xs g)).map D.int), s4, s5, s6, s7])
    (by
      rintro pre x post hpre env m' ⟨rfl, s4, s5, s6, s7, rfl⟩
      have hx : x ∈ xs := by rw [hpre]; simp
      have hlp : pre.length + 1 + post.length = xs.length := by rw [hpre]; simp; omega
      obtain ⟨e, m2, k2, rfl, t7, rfl⟩ := for_ints (g := gSet 7) (b := L_weights_in_1) xs
        (fun qre env m2 => m2 = m' ∧ ∃ s7, env = [.d (.int p), .d (tI xs), .d (.int g), .own ((pre.map (wgt p xs g)).map D.int), .d (.int x), .d (.int (dif g (oth x qre) % p)), .d (.int (dif x (oth x qre) % p)), s7])
        (by
          rintro qre y qost hq env m2 ⟨rfl, s7, rfl⟩
          have t0 := Int.emod_nonneg (dif g (oth x qre)) (show p ≠ 0 by omega)
          have t1 := Int.emod_lt_of_pos (dif g (oth x qre)) hp
          have b0 := Int.emod_nonneg (dif x (oth x qre)) (show p ≠ 0 by omega)
          have b1 := Int.emod_lt_of_pos (dif x (oth x qre)) hp
          refine ⟨_, _, m2, rfl, ?_, rfl, .d (.int y), rfl⟩
          rw [dif_snoc, dif_snoc]
          by_cases h : y = x
          · simp [L_weights_in_1, h]
          · rw [if_neg h, if_neg h, ← mul_mod_l (dif g (oth x qre)), ← mul_mod_l (dif x (oth x qre))]
            generalize dif g (oth x qre) % p = T at *
            generalize dif x (oth x qre) % p = B at *
            simp [L_weights_in_1, h, ev_mulL (i := T) (j := g - y) (by omega), ev_mulL (i := B) (j := x - y) (by omega), ev_mod hp])
        (env := [.d (.int p), .d (tI xs), .d (.int g), .own ((pre.map (wgt p xs g)).map D.int), .d (.int x), .d (.int 1), .d (.int 1), s7]) (m := m') ⟨rfl, s7, by
          have o : (1 : Int) % p = 1 := Int.emod_eq_of_lt (by omega) (by omega)
          simp [oth, dif, o]⟩
      obtain ⟨b0, b1⟩ := bot_pos F hr hx
      have u := undone_ok (m := m2) F b0 b1
      have e9 : wgt p xs g x = dif g (oth x xs) % p * inv p (bot p xs x) % p := rfl
      have e8 : dif x (oth x xs) % p = bot p xs x := rfl
      rw [e8] at k2
      have t0 := Int.emod_nonneg (dif g (oth x xs)) (show p ≠ 0 by omega)
      have t1 := Int.emod_lt_of_pos (dif g (oth x xs)) hp
      refine ⟨_, _, m2, rfl, ?_, rfl, .d (.int x), .d (.int (dif g (oth x xs) % p)), .d (.int (bot p xs x)), t7, rfl⟩
      rw [List.map_append, List.map_append, List.map_singleton, List.map_singleton, e9]
      obtain ⟨A, hA⟩ : ∃ A, A = (pre.map (wgt p xs g)).map D.int := ⟨_, rfl⟩
      have lA : A.length < 1000000 := by rw [hA, List.length_map, List.length_map]; omega
      rw [← hA] at k2 ⊢
      generalize dif g (oth x xs) % p = T at *
      generalize bot p xs x = B at *
      simp [L_weights_in_2, k2, u, ev_mulL (i := T) (j := inv p B) (by omega), ev_mod hp, lA])
    (env := [.d (.int p), .d (tI xs), .d (.int g), .own [], .un, .un, .un, .un]) (m := m) ⟨rfl, .un, .un, .un, .un, rfl⟩
  have l : ((xs.map (wgt p xs g)).map D.int).length ≤ 1000000 := by rw [List.length_map, List.length_map]; omega
  simp only [f_weights_in, b_weights_in]
  generalize (xs.map (wgt p xs g)) = W at *
  simp [k1]
theorem weights_ok {p g : Int} (F : Fd p) {xs : List Int} (hr : Red p xs) (hn : xs.Nodup) (hl : xs.length ≤ 60) (hne : xs ≠ []) (g0 : 0 ≤ g) (g1 : g < p) : f_weights [.int p, tI xs, .int g] m = .ok (.d (tI (xs.map (wgt p xs g)))) m := by
  have t := weights_in_ok (m := m) (g := g) F hr hl
  generalize (xs.map (wgt p xs g)) = W at *
  simp [f_weights, b_weights, req_field F.b, req_places hr hn hl hne, req_number g0 g1, t]

theorem zipD_map (f : Int → Int) (xs : List Int) : zipD ((xs.map f).map D.int) (xs.map D.int) = xs.map fun x => D.tup [.int (f x), .int x] := by
  unfold zipD
  rw [List.map_map]
  induction xs with
  | nil => rfl
  | cons x xs ih => rw [List.map_cons, List.map_cons, List.zipWith_cons_cons, ih, List.map_cons]; rfl
/-- the t-th check -/
noncomputable def chk (p : Int) (xs : List Int) (t : Nat) : List Int := xs.map fun x => unb p xs x * x ^ t % p
theorem chk_step (p : Int) (xs : List Int) (t : Nat) : (xs.map fun x => unb p xs x * x ^ t % p * x % p) = chk p xs (t + 1) := by
  unfold chk
  refine List.map_congr_left fun x _ => ?_
  rw [mul_mod_l, Int.pow_succ, Int.mul_assoc]
theorem chk_zero {p : Int} (F : Fd p) {xs : List Int} (hr : Red p xs) : chk p xs 0 = xs.map (unb p xs) := by
  unfold chk
  refine List.map_congr_left fun x hx => ?_
  obtain ⟨h0, h1, _⟩ := unb_spec F hr hx
  rw [Int.pow_zero, Int.mul_one, Int.emod_eq_of_lt h0 h1]
theorem chk_len (p : Int) (xs : List Int) (t : Nat) : (chk p xs t).length = xs.length := by unfold chk; rw [List.length_map]
/-- the checks for a degree -/
noncomputable def chks (p : Int) (xs : List Int) (n : Nat) : List (List Int) := (List.range n).map (chk p xs)
theorem checks_in_ok {p d : Int} (F : Fd p) {xs : List Int} (hr : Red p xs) (hl : xs.length ≤ 60) (d0 : -1 ≤ d) (d1 : d ≤ 60) : f_checks_in [.int p, tI xs, .int d] m = .ok (.d (.tup ((chks p xs ((xs.length : Int) - d - 1).toNat).map tI))) m := by
  have hp := F.pos
  have hi := F.hi
  have lo := F.lo
  obtain ⟨e, m', k1, rfl, s4, s5, s6, rfl⟩ := for_ints (g := gSet 4) (b := L_checks_in_2) xs
    (fun pre env m' => m' = m ∧ ∃ s4 s5 s6, env = [.d (.int p), .d (tI xs), .d (.int d), .own ((pre.map (unb p xs)).map D.int), s4, s5, s6, .un, .un, .un])
    (by
      rintro pre x post hpre env m' ⟨rfl, s4, s5, s6, rfl⟩
      have hx : x ∈ xs := by rw [hpre]; simp
      have hlp : pre.length + 1 + post.length = xs.length := by rw [hpre]; simp; omega
      obtain ⟨e, m2, k2, rfl, t6, rfl⟩ := for_ints (g := gSet 6) (b := L_checks_in_1) xs
        (fun qre env m2 => m2 = m' ∧ ∃ s6, env = [.d (.int p), .d (tI xs), .d (.int d), .own ((pre.map (unb p xs)).map D.int), .d (.int x), .d (.int (dif x (oth x qre) % p)), s6, .un, .un, .un])
        (by
          rintro qre y qost hq env m2 ⟨rfl, s6, rfl⟩
          have b0 := Int.emod_nonneg (dif x (oth x qre)) (show p ≠ 0 by omega)
          have b1 := Int.emod_lt_of_pos (dif x (oth x qre)) hp
          refine ⟨_, _, m2, rfl, ?_, rfl, .d (.int y), rfl⟩
          rw [dif_snoc]
          by_cases h : y = x
          · simp [L_checks_in_1, h]
          · rw [if_neg h, ← mul_mod_l (dif x (oth x qre))]
            generalize dif x (oth x qre) % p = B at *
            simp [L_checks_in_1, h, ev_mulL (i := B) (j := x - y) (by omega), ev_mod hp])
        (env := [.d (.int p), .d (tI xs), .d (.int d), .own ((pre.map (unb p xs)).map D.int), .d (.int x), .d (.int 1), s6, .un, .un, .un]) (m := m') ⟨rfl, s6, by
          have o : (1 : Int) % p = 1 := Int.emod_eq_of_lt (by omega) (by omega)
          simp [oth, dif, o]⟩
      obtain ⟨b0, b1⟩ := bot_pos F hr hx
      have u := undone_ok (m := m2) F b0 b1
      have e9 : unb p xs x = inv p (bot p xs x) := rfl
      have e8 : dif x (oth x xs) % p = bot p xs x := rfl
      rw [e8] at k2
      refine ⟨_, _, m2, rfl, ?_, rfl, .d (.int x), .d (.int (bot p xs x)), t6, rfl⟩
      rw [List.map_append, List.map_append, List.map_singleton, List.map_singleton, e9]
      obtain ⟨A, hA⟩ : ∃ A, A = (pre.map (unb p xs)).map D.int := ⟨_, rfl⟩
      have lA : A.length < 1000000 := by rw [hA, List.length_map, List.length_map]; omega
      rw [← hA] at k2 ⊢
      generalize bot p xs x = B at *
      simp [L_checks_in_2, k2, u, lA])
    (env := [.d (.int p), .d (tI xs), .d (.int d), .own [], .un, .un, .un, .un, .un, .un]) (m := m) ⟨rfl, .un, .un, .un, rfl⟩
  rw [← chk_zero F hr] at k1
  obtain ⟨e, m2, k2, rfl, t4, t8, t9, rfl⟩ := for_range (g := gSet 8) (b := L_checks_in_3) 0 ((xs.length : Int) - d - 1)
    (fun j env m2 => m2 = m' ∧ ∃ s4 s8 s9, env = [.d (.int p), .d (tI xs), .d (.int d), .own ((chk p xs j).map D.int), s4, s5, s6, .own ((chks p xs j).map tI), s8, s9])
    (by
      rintro j hj env m2 ⟨rfl, t4, s8, s9, rfl⟩
      refine ⟨_, [.d (.int p), .d (tI xs), .d (.int d), .own ((chk p xs (j + 1)).map D.int), t4, s5, s6, .own ((chks p xs (j + 1)).map tI), .d (.int (0 + j)), s9], m2, rfl, ?_, rfl, t4, .d (.int (0 + j)), s9, rfl⟩
      have c := comp_tup (is := [9, 4]) (elt := X_checks_in_1) (env := [.d (.int p), .d (tI xs), .d (.int d), .d (lI (chk p xs j)), .un, s5, s6, .own ((chks p xs (j + 1)).map tI), .d (.int (0 + j)), .un]) (m := m2) (fun x => D.tup [.int (unb p xs x * x ^ j % p), .int x]) (fun x => [.d (.int p), .d (tI xs), .d (.int d), .d (lI (chk p xs j)), .d (.int x), s5, s6, .own ((chks p xs (j + 1)).map tI), .d (.int (0 + j)), .d (.int (unb p xs x * x ^ j % p))]) (F := fun x => .int (unb p xs x * x ^ j % p * x % p)) xs (fun x hx => by
        have b0 := Int.emod_nonneg (unb p xs x * x ^ j) (show p ≠ 0 by omega)
        have b1 := Int.emod_lt_of_pos (unb p xs x * x ^ j) hp
        refine ⟨rfl, ?_⟩
        generalize unb p xs x * x ^ j % p = U at *
        simp [X_checks_in_1, ev_mulL (i := U) (j := x) (by omega), ev_mod hp])
      have z := zipD_map (fun x => unb p xs x * x ^ j % p) xs
      rw [show (xs.map fun x => unb p xs x * x ^ j % p) = chk p xs j from rfl] at z
      rw [← z] at c
      have e1 : (xs.map fun x => D.int (unb p xs x * x ^ j % p * x % p)) = (chk p xs (j + 1)).map D.int := by rw [← chk_step, List.map_map]; rfl
      rw [e1] at c
      have e2 : chks p xs (j + 1) = chks p xs j ++ [chk p xs j] := by unfold chks; rw [List.range_succ, List.map_append]; rfl
      have lz : (zipD ((chk p xs j).map D.int) (xs.map D.int)).length ≤ 1000000 := by rw [zipD_len, List.length_map, List.length_map]; omega
      have lc : ((chk p xs j).map D.int).length ≤ 1000000 := by rw [List.length_map, chk_len]; omega
      obtain ⟨A, hA⟩ : ∃ A, A = (chks p xs j).map tI := ⟨_, rfl⟩
      have lA : A.length < 1000000 := by rw [hA]; unfold chks; rw [List.length_map, List.length_map, List.length_range]; omega
      rw [e2, List.map_append, List.map_singleton] at c ⊢
      rw [← hA] at c ⊢
      generalize chk p xs j = U at *
      generalize chk p xs (j + 1) = V at *
      simp only [Int.zero_add] at c ⊢
      simp only [tI, lI] at c
      simp [L_checks_in_3, lA, lc, kComp1 lz, c])
    (env := [.d (.int p), .d (tI xs), .d (.int d), .own ((chk p xs 0).map D.int), s4, s5, s6, .own [], .un, .un]) (m := m') ⟨rfl, s4, .un, .un, rfl⟩
  rw [show ((xs.length : Int) - d - 1 - 0).toNat = ((xs.length : Int) - d - 1).toNat by rw [Int.sub_zero]] at k2
  generalize chk p xs 0 = U at *
  generalize hC : chks p xs ((xs.length : Int) - d - 1).toNat = C at *
  have lC : (C.map tI).length ≤ 1000000 := by rw [← hC]; unfold chks; rw [List.length_map, List.length_map, List.length_range]; omega
  simp only [f_checks_in, b_checks_in]
  simp [k1, kRa1_1 (j := (xs.length : Int) - d - 1) (by omega), k2, lC]
theorem checks_ok {p d : Int} (F : Fd p) {xs : List Int} (hr : Red p xs) (hn : xs.Nodup) (hl : xs.length ≤ 60) (hne : xs ≠ []) (d0 : -1 ≤ d) (d1 : d ≤ 60) : f_checks [.int p, tI xs, .int d] m = .ok (.d (.tup ((chks p xs ((xs.length : Int) - d - 1).toNat).map tI))) m := by
  have t := checks_in_ok (m := m) F hr hl d0 d1
  generalize chks p xs ((xs.length : Int) - d - 1).toNat = C at *
  simp [f_checks, b_checks, req_field F.b, req_places hr hn hl hne, within_int, d0, d1, t]

/-! ### the law's own steps -/
theorem n_fer : ((poFields.map Int.toNat).all fun p => (List.range p).all fun d => d == 0 || d ^ (p - 1) % p == 1) = true := by decide +kernel
theorem fer {p a : Int} (hp : p ∈ poFields) (a0 : 0 < a) (a1 : a < p) : a ^ (p - 1).toNat % p = 1 := by
  obtain ⟨P, hP, rfl⟩ : ∃ P, P ∈ poFields.map Int.toNat ∧ p = (P : Int) := by
    refine ⟨p.toNat, List.mem_map.mpr ⟨p, hp, rfl⟩, ?_⟩
    have : ∀ q ∈ poFields, q = (q.toNat : Int) := by decide
    exact this p hp
  have h1 := List.all_eq_true.mp n_fer P hP
  obtain ⟨A, rfl⟩ : ∃ A : Nat, a = A := ⟨a.toNat, by omega⟩
  have := List.all_eq_true.mp h1 A (List.mem_range.mpr (by omega))
  rw [Bool.or_eq_true, beq_iff_eq, beq_iff_eq] at this
  rcases this with z | z
  · omega
  · rw [show ((P : Int) - 1).toNat = P - 1 by omega, ← Int.natCast_pow, ← Int.natCast_emod, z]; rfl
theorem law_undone_ok {p a : Int} (hp : p ∈ poFields) (h0 : 0 < a) (h1 : a < p) : f__law_po_undone [.int p, .int a] m = .ok (.d (.int (inv p a))) m := by
  have F := fd_of (poFields_ok p hp)
  have hi := F.hi
  have lo := F.lo
  have m2 : (0 : Int) < 2 := by decide
  have key : ∃ e m', sWhile (bBool (rBin gGt (rVar 4) (rC (.int 0)))) L__law_po_undone_1 [.d (.int p), .d (.int a), .d (.int 1), .d (.int a), .d (.int (p - 2))] m = .ok (.nx e) m' ∧ m' = m ∧ ∃ h l, e = [.d (.int p), .d (.int a), .d (.int (a ^ (p - 2).toNat % p)), h, l] := by
    refine sWhile_inv (fun k env m' => m' = m ∧ ∃ f h l : Int, env = [.d (.int p), .d (.int a), .d (.int f), .d (.int h), .d (.int l)] ∧ 0 ≤ f ∧ f < p ∧ 0 ≤ h ∧ h < p ∧ 0 ≤ l ∧ l < 2 ^ k ∧ f * h ^ l.toNat % p = a ^ (p - 2).toNat % p) (fun e m' => m' = m ∧ ∃ h l, e = [.d (.int p), .d (.int a), .d (.int (a ^ (p - 2).toNat % p)), h, l]) ?_ (k := 20) (by omega) ⟨rfl, 1, a, p - 2, rfl, by omega, by omega, by omega, h1, by omega, by omega, by rw [Int.one_mul]⟩
    rintro k env m' ⟨rfl, f, h, l, rfl, f0, f1, g0, g1, l0, lk, e⟩
    by_cases hl : 0 < l
    · right
      obtain ⟨k, rfl⟩ : ∃ k', k = k' + 1 := ⟨k - 1, by
        have : k ≠ 0 := fun z => by subst z; rw [Int.pow_zero] at lk; omega
        omega⟩
      rw [Int.pow_succ] at lk
      have hq : l / 2 < 2 ^ k := by omega
      by_cases ho : l % 2 = 1
      · refine ⟨m', _, m', k, by simp [hl], by simp [L__law_po_undone_1, ev_mod (show 0 < p by omega), ev_mod m2, ho, ev_mulL (i := f) (j := h) (by omega), ev_mulL (i := h) (j := h) (by omega), ev_div (i := l) (j := 2) (by omega)], Nat.lt_succ_self k, rfl, f * h % p, h * h % p, l / 2, rfl, Int.emod_nonneg _ (by omega), Int.emod_lt_of_pos _ (by omega), Int.emod_nonneg _ (by omega), Int.emod_lt_of_pos _ (by omega), by omega, hq, ?_⟩
        rw [← e, ← mul_mod_r, pow_mod, mul_mod_r, mul_mod_l]
        have : l.toNat = (l / 2).toNat + (l / 2).toNat + 1 := by omega
        rw [this, Int.pow_succ, Int.pow_add, Int.mul_pow, Int.mul_comm (h ^ (l / 2).toNat * h ^ (l / 2).toNat) h, Int.mul_assoc]
      · have ho' : l % 2 = 0 := by omega
        refine ⟨m', _, m', k, by simp [hl], by simp [L__law_po_undone_1, ev_mod (show 0 < p by omega), ev_mod m2, ho', ev_mulL (i := f) (j := h) (by omega), ev_mulL (i := h) (j := h) (by omega), ev_div (i := l) (j := 2) (by omega)], Nat.lt_succ_self k, rfl, f, h * h % p, l / 2, rfl, f0, f1, Int.emod_nonneg _ (by omega), Int.emod_lt_of_pos _ (by omega), by omega, hq, ?_⟩
        rw [← e, ← mul_mod_r, pow_mod, mul_mod_r]
        have : l.toNat = (l / 2).toNat + (l / 2).toNat := by omega
        rw [this, Int.pow_add, Int.mul_pow]
    · left
      have hl0 : l = 0 := by omega
      subst hl0
      refine ⟨m', by simp, rfl, .d (.int h), .d (.int 0), ?_⟩
      rw [← e]
      simp [Int.emod_eq_of_lt f0 f1]
  obtain ⟨e, m', k1, rfl, h, l, rfl⟩ := key
  have e9 : inv p a = a ^ (p - 2).toNat % p := inv_eq (Int.emod_nonneg _ (by omega)) (Int.emod_lt_of_pos _ (by omega)) (by
    rw [mul_mod_l, ← Int.pow_succ, show (p - 2).toNat.succ = (p - 1).toNat by omega, fer hp h0 h1])
  have e8 : a % p = a := Int.emod_eq_of_lt (by omega) h1
  rw [e9]
  simp only [f__law_po_undone, b__law_po_undone]
  simp [ev_mod (show 0 < p by omega), e8, k1]
/-- the sum of products -/
def dot (a b : List Int) : Int := ((a.zip b).map fun x => x.1 * x.2).sum
theorem dot_map (f g : Int → Int) : ∀ xs : List Int, dot (xs.map f) (xs.map g) = (xs.map fun x => f x * g x).sum
  | [] => rfl
  | x :: xs => by
    have := dot_map f g xs
    unfold dot at this ⊢
    simp only [List.map_cons, List.zip_cons_cons, List.sum_cons, this]
theorem sum_snoc (F : Int × Int → Int) (pre : List (Int × Int)) (x : Int × Int) : ((pre ++ [x]).map F).sum = (pre.map F).sum + F x := by simp
theorem law_summed_ok {p : Int} (hp : 0 < p) (hp2 : p < 1000000) {a b : List Int} (ha : Red p a) (hb : Red p b) {x y : D} (hx : sqD x = some (a.map D.int)) (hy : sqD y = some (b.map D.int)) :
    f__law_summed [.int p, x, y] m = .ok (.d (.int (dot a b % p))) m := by
  obtain ⟨e, m', k1, rfl, s4, s5, rfl⟩ := for_zip (g := gTupS [4, 5]) (b := L__law_summed_1) a b
    (fun pre env m' => m' = m ∧ ∃ s4 s5, env = [.d (.int p), .d x, .d y, .d (.int ((pre.map fun x => x.1 * x.2).sum % p)), s4, s5])
    (by
      rintro pre u v post hpre env m' ⟨rfl, s4, s5, rfl⟩
      have hm : (u, v) ∈ a.zip b := by rw [hpre]; simp
      have hu := ha u (List.of_mem_zip hm).1
      refine ⟨_, _, m', rfl, ?_, rfl, .d (.int u), .d (.int v), rfl⟩
      rw [sum_snoc, ← Int.emod_add_emod]
      simp [L__law_summed_1, ev_mulL (i := u) (j := v) (by omega), ev_mod hp])
    (env := [.d (.int p), .d x, .d y, .d (.int 0), .un, .un]) (m := m) ⟨rfl, .un, .un, by simp⟩
  simp only [f__law_summed, b__law_summed]
  simp [hx, hy, k1, dot]

/-! ### through -/
theorem pev_line {p : Int} (a z : Int) : pev [(-a) % p, 1] z % p = (z - a) % p := by
  have e : pev [(-a) % p, 1] z = (-a) % p + z := by simp [pev]
  rw [e, Int.emod_add_emod]
  congr 1; omega
/-- what the loop of through holds -/
structure Thr (p : Int) (ps : List (Int × Int)) (f h : List Int) : Prop where
  isP : IsP p f
  len : f.length ≤ ps.length
  isQ : IsP p h
  lenh : h.length ≤ ps.length + 1
  hv : ∀ z, pev h z % p = dif z (ps.map (·.1)) % p
  fv : ∀ q ∈ ps, pev f q.1 % p = q.2
theorem thr_nil {p : Int} (F : Fd p) : Thr p [] [] [1] := by
  have lo := F.lo
  refine ⟨IsP.nil, Nat.le_refl _, ⟨fun a ha => ?_, ?_⟩, Nat.le_refl _, fun z => by simp [pev, dif], fun q hq => by cases hq⟩
  · have : a = 1 := by simpa using ha
    omega
  · exact trim_self fun n e => by
      have : n = 0 := by simpa using e.symm
      subst this; simp
theorem thr_step {p x y : Int} (F : Fd p) {ps : List (Int × Int)} {f h : List Int} (T : Thr p ps f h) (hx : ∀ q ∈ ps, ¬ (x - q.1) % p = 0) (y0 : 0 ≤ y) (y1 : y < p) :
    0 < pev h x % p ∧ pev h x % p < p ∧ Thr p (ps ++ [(x, y)]) (nm p (padd f (nm p (psc ((y - pev f x % p) * inv p (pev h x % p) % p) h)))) (nm p (pmul h [(-x) % p, 1])) := by
  have hp := F.pos
  have h0 : ¬ pev h x % p = 0 := by
    rw [T.hv]
    refine dif_ne F.pr fun r hr => ?_
    obtain ⟨q, hq, rfl⟩ := List.mem_map.mp hr
    exact hx q hq
  have b0 : 0 < pev h x % p := by
    have := Int.emod_nonneg (pev h x) (show p ≠ 0 by omega)
    omega
  have b1 := Int.emod_lt_of_pos (pev h x) hp
  obtain ⟨i0, i1, i2⟩ := inv_spec F b0 b1
  obtain ⟨c, hc⟩ : ∃ c, c = (y - pev f x % p) * inv p (pev h x % p) % p := ⟨_, rfl⟩
  rw [← hc]
  have l1 := nm_len p (psc c h)
  rw [psc_len] at l1
  have l2 := nm_len p (padd f (nm p (psc c h)))
  rw [padd_len] at l2
  have val : ∀ z, pev (nm p (padd f (nm p (psc c h)))) z % p = (pev f z + c * pev h z) % p := fun z => by
    rw [pev_nm, pev_padd, Int.add_emod, pev_nm, pev_psc, ← Int.add_emod]
  refine ⟨b0, b1, nm_isP hp _, ?_, nm_isP hp _, ?_, fun z => ?_, fun q hq => ?_⟩
  · have := T.len; have := T.lenh; rw [List.length_append, List.length_singleton]; omega
  · rw [List.length_append, List.length_singleton]
    have := T.lenh
    exact len_of_co (nm_isP hp _) fun k hk => by
      rw [co_nm, co_pmul_ge h [(-x) % p, 1] k (by simp; omega)]; rfl
  · rw [pev_nm, pev_pmul, ← mul_mod_r, pev_line, mul_mod_r, ← mul_mod_l, T.hv, mul_mod_l, List.map_append, dif_app]
    simp [dif]
  · rw [val]
    rcases List.mem_append.mp hq with hq | hq
    · have z : pev h q.1 % p = 0 := by rw [T.hv, dif_mem (List.mem_map.mpr ⟨q, hq, rfl⟩)]; rfl
      rw [Int.add_emod, ← mul_mod_r c, z, Int.mul_zero, Int.zero_emod, Int.add_zero, Int.emod_emod_of_dvd _ (Int.dvd_refl p)]
      exact T.fv q hq
    · have e : q = (x, y) := by simpa using hq
      subst e
      show (pev f x + c * pev h x) % p = y
      have e1 : c * pev h x % p = (y - pev f x % p) % p := by
        rw [hc, mul_mod_l, Int.mul_assoc, ← mul_mod_r, ← mul_mod_r (inv p _) (pev h x), i2, Int.mul_one]
      rw [Int.add_emod, e1, ← Int.add_emod, ← Int.emod_add_emod]
      have e3 : (pev f x % p + (y - pev f x % p)) = y := by omega
      rw [e3, Int.emod_eq_of_lt y0 y1]
theorem through_in_ok {p : Int} (F : Fd p) {xs ys : List Int} (hr : Red p xs) (hn : xs.Nodup) (hy : Red p ys) (hl : xs.length ≤ 60) (he : ys.length = xs.length) :
    ∃ f h, f_through_in [.int p, .tup (zipD (xs.map D.int) (ys.map D.int))] m = .ok (.d (tI f)) m ∧ Thr p (xs.zip ys) f h := by
  have hp := F.pos
  have hi := F.hi
  have lo := F.lo
  have fst : (xs.zip ys).map (·.1) = xs := List.map_fst_zip (by omega)
  have nd : ((xs.zip ys).map (·.1)).Nodup := by rw [fst]; exact hn
  obtain ⟨e, m', k1, rfl, f, h, s4, s5, s6, rfl, T⟩ := for_zip (g := gTupS [4, 5]) (b := L_through_in_1) xs ys
    (fun pre env m' => m' = m ∧ ∃ f h s4 s5 s6, env = [.d (.int p), .d (.tup (zipD (xs.map D.int) (ys.map D.int))), .d (tI f), .d (tI h), s4, s5, s6] ∧ Thr p pre f h)
    (by
      rintro pre x y post hpre env m' ⟨rfl, f, h, s4, s5, s6, rfl, T⟩
      have hm : (x, y) ∈ xs.zip ys := by rw [hpre]; simp
      obtain ⟨hx1, hy1⟩ := List.of_mem_zip hm
      have lz : pre.length + 1 + post.length = xs.length := by
        have := congrArg List.length hpre
        rw [List.length_zip] at this
        simp at this; omega
      have hne : ∀ q ∈ pre, ¬ (x - q.1) % p = 0 := fun q hq e => by
        have hq1 : q.1 ∈ xs := by rw [← fst]; exact List.mem_map.mpr ⟨q, by rw [hpre]; simp [hq], rfl⟩
        have := eq_of_mod (hr x hx1).1 (hr x hx1).2 (hr q.1 hq1).1 (hr q.1 hq1).2 e
        rw [hpre, List.map_append, List.map_cons] at nd
        exact (List.nodup_append.mp nd).2.2 q.1 (List.mem_map.mpr ⟨q, hq, rfl⟩) x (by simp) this.symm
      obtain ⟨b0, b1, T2⟩ := thr_step F T hne (hy y hy1).1 (hy y hy1).2
      have len := T.len
      have lenh := T.lenh
      have v1 := value_in_ok (m := m') (p := p) (x := x) hp (by omega) f
      have v2 := value_in_ok (m := m') (p := p) (x := x) hp (by omega) h
      have u := undone_ok (m := m') F b0 b1
      obtain ⟨i0, i1, _⟩ := inv_spec F b0 b1
      obtain ⟨c, hc⟩ : ∃ c, c = (y - pev f x % p) * inv p (pev h x % p) % p := ⟨_, rfl⟩
      rw [← hc] at T2
      have c0 : 0 ≤ c := by rw [hc]; exact Int.emod_nonneg _ (by omega)
      have c1 : c < p := by rw [hc]; exact Int.emod_lt_of_pos _ hp
      have t1 := scaled_in_ok (m := m') (p := p) hp h (by omega) c0 (by omega)
      have l1 := nm_len p (psc c h)
      rw [psc_len] at l1
      have t2 := sum_in_ok (m := m') (p := p) hp f (nm p (psc c h)) (by omega) (by omega)
      have t3 := product_in_ok (m := m') (p := p) hp (by omega) h [(-x) % p, 1] (by omega) (by simp) T.isQ.red
      simp only [tI, List.map_cons, List.map_nil] at t3
      refine ⟨_, [.d (.int p), .d (.tup (zipD (xs.map D.int) (ys.map D.int))), .d (tI _), .d (tI _), .d (.int x), .d (.int y), .d (.int ((y - pev f x % p) * inv p (pev h x % p)))], m', rfl, ?_, rfl, _, _, _, _, _, rfl, T2⟩
      generalize pev f x % p = A at *
      generalize pev h x % p = B at *
      have ic : inv p B = inv p B := rfl
      simp [L_through_in_1, v1, v2, u, ev_mulR (i := y - A) (j := inv p B) (by omega), ev_mod hp, ← hc, t1, t2, t3])
    (env := [.d (.int p), .d (.tup (zipD (xs.map D.int) (ys.map D.int))), .d (tI []), .d (tI [1]), .un, .un, .un]) (m := m) ⟨rfl, [], [1], .un, .un, .un, rfl, thr_nil F⟩
  refine ⟨f, h, ?_, T⟩
  simp only [f_through_in, b_through_in]
  simp only [tI, List.map_cons, List.map_nil] at k1
  simp [k1]

theorem plainDs_pairs (k : Nat) : ∀ ps : List (Int × Int), plainDs (k + 1) (ps.map fun x => D.tup [.int x.1, .int x.2]) = true
  | [] => by simp
  | p :: ps => by rw [List.map_cons, ev_pls1, ev_pl6, plainDs_pairs k ps]; simp
theorem are_points_ok {p : Int} {xs ys : List Int} (hr : Red p xs) (hn : xs.Nodup) (hy : Red p ys) (hl : xs.length ≤ 60) (he : ys.length = xs.length) (hne : xs ≠ []) :
    f_are_points [.int p, .tup (zipD (xs.map D.int) (ys.map D.int))] m = .ok (.d (.bl true)) m := by
  rw [zipD_ints]
  have lz : (xs.zip ys).length = xs.length := by rw [List.length_zip]; omega
  have fst : (xs.zip ys).map (·.1) = xs := List.map_fst_zip (by omega)
  have ne : ((xs.zip ys).map fun x => D.tup [.int x.1, .int x.2]).isEmpty = false := by
    cases h : xs.zip ys with
    | nil => rw [h] at lz; exact absurd (List.length_eq_zero_iff.mp lz.symm) hne
    | cons a b => rfl
  have l : ((xs.zip ys).map fun x => D.tup [.int x.1, .int x.2]).length ≤ 1000000 := by rw [List.length_map]; omega
  have pl := plainDs_pairs 58 (xs.zip ys)
  have c1 := comp_list (i := 2) (elt := X_are_points_1) (env := [.d (.int p), .d (.tup ((xs.zip ys).map fun x => D.tup [.int x.1, .int x.2])), .un, .un, .un]) (m := m) (fun x : Int × Int => D.tup [.int x.1, .int x.2]) (F := fun _ => .bl true) (xs.zip ys) (fun x hx => by
    obtain ⟨h1, h2⟩ := List.of_mem_zip (show (x.1, x.2) ∈ xs.zip ys from hx)
    have r : redB p [x.1, x.2] = true := redB_iff.mpr fun a ha => by
      have : a = x.1 ∨ a = x.2 := by simpa using ha
      rcases this with e | e
      · rw [e]; exact hr _ h1
      · rw [e]; exact hy _ h2
    have t := are_ints (m := m) (p := p) (ns := [x.1, x.2]) (by simp)
    rw [r] at t
    simp only [tI, List.map_cons, List.map_nil] at t
    simp [X_are_points_1, t])
  have c2 := comp_tup (is := [3, 4]) (elt := rVar 3) (env := [.d (.int p), .d (.tup ((xs.zip ys).map fun x => D.tup [.int x.1, .int x.2])), .un, .un, .un]) (m := m) (fun x : Int × Int => D.tup [.int x.1, .int x.2]) (fun x => [.d (.int p), .d (.tup ((xs.zip ys).map fun x => D.tup [.int x.1, .int x.2])), .un, .d (.int x.1), .d (.int x.2)]) (F := fun x => .int x.1) (xs.zip ys) (fun x hx => ⟨rfl, by simp⟩)
  have e1 : ((xs.zip ys).map fun x => D.int x.1) = xs.map D.int := by rw [← fst, List.map_map]; simp only [fst]; rfl
  rw [e1] at c2
  have al := all_map (fun _ : Int × Int => true) (xs.zip ys)
  have at' : ((xs.zip ys).all fun _ => true) = true := List.all_eq_true.mpr fun _ _ => rfl
  rw [at'] at al
  have t := are_places_ok (m := m) hr hn hl
  have lx : (xs.map D.int).length ≤ 1000000 := by rw [List.length_map]; omega
  generalize ((xs.zip ys).map fun x => D.tup [.int x.1, .int x.2]) = P at *
  simp only [f_are_points, b_are_points]
  simp [isa, pl, ne, kComp1 l, c1, al, c2, t, lx]
theorem through_ok {p : Int} (F : Fd p) {xs ys : List Int} (hr : Red p xs) (hn : xs.Nodup) (hy : Red p ys) (hl : xs.length ≤ 60) (he : ys.length = xs.length) (hne : xs ≠ []) :
    ∃ f, f_through [.int p, .tup (zipD (xs.map D.int) (ys.map D.int))] m = .ok (.d (tI f)) m ∧ IsP p f ∧ f.length ≤ xs.length ∧ xs.map (fun x => pev f x % p) = ys := by
  obtain ⟨f, h, e, T⟩ := through_in_ok (m := m) F hr hn hy hl he
  have a := are_points_ok (m := m) hr hn hy hl he hne
  have lz : (xs.zip ys).length = xs.length := by rw [List.length_zip]; omega
  refine ⟨f, ?_, T.isP, by have := T.len; omega, ?_⟩
  · generalize zipD (xs.map D.int) (ys.map D.int) = Z at *
    simp [f_through, b_through, req_field F.b, a, e]
  · have fst : (xs.zip ys).map (·.1) = xs := List.map_fst_zip (by omega)
    have snd : (xs.zip ys).map (·.2) = ys := List.map_snd_zip (by omega)
    have e : (xs.zip ys).map (fun q => pev f q.1 % p) = (xs.zip ys).map (·.2) := List.map_congr_left fun q hq => T.fv q hq
    rw [snd] at e
    rw [← e]
    have : (fun q : Int × Int => pev f q.1 % p) = (fun x => pev f x % p) ∘ (·.1) := rfl
    rw [this, ← List.map_map, fst]
end Pg
/-! Pg: what weights and checks make. -/
namespace Pg
open PySem PySem.Spec L2 Ev Po
theorem mulm {p a a' b b' : Int} (h : a % p = a' % p) (g : b % p = b' % p) : a * b % p = a' * b' % p := by rw [Int.mul_emod, h, g, ← Int.mul_emod]
theorem mm {p a : Int} : a % p % p = a % p := Int.emod_emod_of_dvd _ (Int.dvd_refl p)
theorem wgt_sum {p g : Int} (F : Fd p) {xs : List Int} (hr : Red p xs) (hn : xs.Nodup) {f : List Int} (hf : ∀ k, xs.length ≤ k → co f k % p = 0) {v : Int → Int} (hv : ∀ x ∈ xs, v x % p = pev f x % p) :
    dot (xs.map (wgt p xs g)) (xs.map v) % p = pev f g % p := by
  rw [dot_map, interp_at F.pr hr hn (fun x hx => (unb_spec F hr hx).2.2) hf g]
  refine sum_congr fun x hx => ?_
  unfold wgt
  have e : unb p xs x * pev f x * dif g (oth x xs) = dif g (oth x xs) * unb p xs x * pev f x := by
    rw [Int.mul_comm _ (dif g (oth x xs)), Int.mul_assoc]
  rw [e]
  exact mulm (by rw [mm]; exact mulm mm rfl) (hv x hx)
theorem chk_sum {p : Int} (F : Fd p) {xs : List Int} (hr : Red p xs) (hn : xs.Nodup) {f : List Int} {n t : Nat} (hl : xs.length = n + 1) (hf : ∀ k, n < t + k → co f k % p = 0) {v : Int → Int} (hv : ∀ x ∈ xs, v x % p = pev f x % p) :
    dot (chk p xs t) (xs.map v) % p = if n < t then 0 else co f (n - t) % p := by
  unfold chk
  have key : ∀ k, n < k → co (shf t f) k % p = 0 := fun k hk => by
    rw [co_shf]
    split
    · rfl
    · exact hf _ (by omega)
  have e := interp_top F.pr hr hn (fun x hx => (unb_spec F hr hx).2.2) hl key
  rw [co_shf] at e
  rw [dot_map]
  refine Eq.trans (sum_congr fun x hx => ?_) (e.trans ?_)
  · rw [pev_shf, ← Int.mul_assoc]
    exact mulm mm (hv x hx)
  · split <;> rfl
end Pg
/-! Pg: sharing by one letter. -/
namespace Pg
open PySem PySem.Spec L2 Ev Po
variable {m : Cells}
theorem comp_tup_if {α : Type} {is : List Nat} {c : SemB} {elt : SemR} {env : Ev.Env} {m : Cells} (emb : α → D) (e : α → Ev.Env) {P : α → Bool} {F : α → D} : ∀ (xs : List α), (∀ x ∈ xs, gTupS is (emb x) env = some (e x) ∧ c (e x) m = .ok (P x) m) → (∀ x ∈ xs, P x = true → fz elt (e x) m = .ok (F x) m) → compL (gTupS is) c elt env (xs.map emb) m = .ok ((xs.filter P).map F) m
  | [], _, _ => rfl
  | x :: xs, h, h' => by
    have t := comp_tup_if (is := is) (c := c) (elt := elt) (env := env) (m := m) emb e xs (fun y hy => h y (List.mem_cons_of_mem _ hy)) fun y hy => h' y (List.mem_cons_of_mem _ hy)
    obtain ⟨h1, h2⟩ := h x (List.mem_cons_self ..)
    rw [List.map_cons]
    dsimp only [compL]
    rw [h1]
    show (noX (c (e x) m)).bind _ = _
    rw [h2]
    show (if P x = true then _ else _) = _
    by_cases hp : P x = true
    · rw [if_pos hp, h' x (List.mem_cons_self ..) hp]
      show (compL (gTupS is) c elt env (xs.map emb) m).bind _ = _
      rw [t, List.filter_cons_of_pos hp]
      rfl
    · rw [if_neg hp, t, List.filter_cons_of_neg hp]
/-! ### numbers -/
theorem is_number_ok {p x : Int} (F : Fd p) : f_is_number [.int p, .int x] m = .ok (.d (.bl (decide (0 ≤ x) && decide (x ≤ p - 1)))) m := by
  simp [f_is_number, b_is_number, req_field F.b, within_int]
theorem is_from_ok (v a b : Int) : f_is_from [.int v, .int a, .int b] m = .ok (.d (.bl (decide (a ≤ v) && decide (v ≤ b)))) m := by
  by_cases h : a ≤ v <;> simp [f_is_from, b_is_from, h]
theorem numbers_ok {p a b : Int} (F : Fd p) {ns : List Int} (h : Red p ns) (ha : a ≤ ns.length) (hb : (ns.length : Int) ≤ b) (hl : ns.length ≤ 1000000) : f_are_numbers_sharing [.int p, tI ns, .int a, .int b] m = .ok (.d (.bl true)) m := by
  have c := comp_ints (i := 4) (elt := X_are_numbers_sharing_1) (env := [.d (.int p), .d (tI ns), .d (.int a), .d (.int b), .un]) (m := m) (F := fun v => .bl true) ns (fun x hx => by
    obtain ⟨h0, h1⟩ := h x hx
    have h2 : x ≤ p - 1 := by omega
    simp [X_are_numbers_sharing_1, is_number_ok F, h0, h2])
  have l : (ns.map D.int).length ≤ 1000000 := by rw [List.length_map]; exact hl
  have al := all_map (fun _ : Int => true) ns
  have at' : (ns.all fun _ => true) = true := List.all_eq_true.mpr fun _ _ => rfl
  rw [at'] at al
  simp only [f_are_numbers_sharing, b_are_numbers_sharing]
  simp [kComp1 l, c, al, ha, hb, isa]
theorem req_field_s {p : Int} (F : Fd p) : f_require_field_sharing [.int p] m = .ok (.d .non) m := by
  simp [f_require_field_sharing, b_require_field_sharing, field_int, F.b]
theorem req_number_s {p x : Int} (F : Fd p) (h0 : 0 ≤ x) (h1 : x < p) : f_require_number_sharing [.int p, .int x] m = .ok (.d .non) m := by
  have h2 : x ≤ p - 1 := by omega
  simp [f_require_number_sharing, b_require_number_sharing, is_number_ok F, h0, h2]
theorem req_from {v a b : Int} (h0 : a ≤ v) (h1 : v ≤ b) : f_require_from [.int v, .int a, .int b] m = .ok (.d .non) m := by
  simp [f_require_from, b_require_from, is_from_ok, h0, h1]
/-- ascending -/
theorem asc_zip : ∀ {ns : List Int}, ns.Pairwise (· < ·) → ∀ q ∈ ns.zip ns.tail, q.1 < q.2
  | [], _, q, h => by simp at h
  | [x], _, q, h => by simp at h
  | x :: y :: ns, hp, q, h => by
    simp only [List.tail_cons, List.zip_cons_cons, List.mem_cons] at h
    have hp' := List.pairwise_cons.mp hp
    rcases h with rfl | h
    · exact hp'.1 y List.mem_cons_self
    · exact asc_zip (ns := y :: ns) hp'.2 q (by simpa using h)
theorem is_lot_ok {p : Int} (F : Fd p) {ns : List Int} (h : ∀ x ∈ ns, 0 < x ∧ x < p) (ha : ns.Pairwise (· < ·)) (hl : ns.length ≤ 9) : f_is_lot_of [.int p, tI ns] m = .ok (.d (.bl true)) m := by
  have c1 := comp_ints (i := 2) (elt := X_is_lot_of_1) (env := [.d (.int p), .d (tI ns), .un, .un]) (m := m) (F := fun v => .bl true) ns (fun x hx => by
    obtain ⟨h0, h1⟩ := h x hx
    have h2 : x ≤ p - 1 := by omega
    have h3 : 1 ≤ x := by omega
    simp [X_is_lot_of_1, is_from_ok, h2, h3])
  have l : (ns.map D.int).length ≤ 1000000 := by rw [List.length_map]; omega
  have al := all_map (fun _ : Int => true) ns
  have at' : (ns.all fun _ => true) = true := List.all_eq_true.mpr fun _ _ => rfl
  rw [at'] at al
  have c2 := comp_tup (is := [2, 3]) (elt := X_is_lot_of_2) (env := [.d (.int p), .d (tI ns), .un, .un]) (m := m) (fun x : Int × Int => D.tup [.int x.1, .int x.2]) (fun x => [.d (.int p), .d (tI ns), .d (.int x.1), .d (.int x.2)]) (F := fun x => .bl true) (ns.zip ns.tail) (fun x hx => by
    have := asc_zip ha x hx
    exact ⟨rfl, by simp [X_is_lot_of_2, this]⟩)
  rw [← zipD_ints] at c2
  have al2 := all_map (fun _ : Int × Int => true) (ns.zip ns.tail)
  have at2 : ((ns.zip ns.tail).all fun _ => true) = true := List.all_eq_true.mpr fun _ _ => rfl
  rw [at2] at al2
  have ec : cutD (ns.map D.int) (some 1) none = ns.tail.map D.int := by
    have := cut_from (ns.map D.int) 1
    rw [show ((1 : Nat) : Int) = 1 from rfl] at this
    rw [this, ← List.map_drop, List.drop_one]
  have lz : (zipD (ns.map D.int) (ns.tail.map D.int)).length ≤ 1000000 := by rw [zipD_len, List.length_map]; omega
  have hl' : ¬ (9 < (ns.length : Int)) := by omega
  have hl2 : (ns.length : Int) ≤ 9 := by omega
  generalize ns.tail = T at *
  simp only [f_is_lot_of, b_is_lot_of]
  simp [isa, hl', hl2, hl, kComp1 l, c1, al, ec, kComp1 lz, c2, al2]
theorem req_lot {p : Int} (F : Fd p) {ns : List Int} (h : ∀ x ∈ ns, 0 < x ∧ x < p) (ha : ns.Pairwise (· < ·)) (hl : ns.length ≤ 9) : f_require_lot [.int p, tI ns] m = .ok (.d .non) m := by
  simp [f_require_lot, b_require_lot, is_lot_ok F h ha hl]
theorem req_most_lot {p t : Int} (F : Fd p) {ns : List Int} (h : ∀ x ∈ ns, 0 < x ∧ x < p) (ha : ns.Pairwise (· < ·)) (hl : ns.length ≤ 9) (t0 : 0 ≤ t) (t1 : t ≤ 8) : f_require_most_and_lot [.int p, .int t, tI ns] m = .ok (.d .non) m := by
  simp [f_require_most_and_lot, b_require_most_and_lot, req_field_s F, req_from t0 t1, req_lot F h ha hl]
/-! ### trimmed, padded -/
theorem maxOf_spec : ∀ (l : List Int) (n : Int), PySem.W.maxOf n l ∈ n :: l ∧ ∀ y ∈ n :: l, y ≤ PySem.W.maxOf n l
  | [], n => by simp [PySem.W.maxOf]
  | a :: l, n => by
    have e : PySem.W.maxOf n (a :: l) = PySem.W.maxOf (if n < a then a else n) l := by
      show (a :: l).foldl _ n = l.foldl _ _
      rw [List.foldl_cons]
      show l.foldl _ (if decide (n < a) = true then a else n) = _
      by_cases h : n < a <;> simp [h]
    rw [e]
    obtain ⟨h1, h2⟩ := maxOf_spec l (if n < a then a else n)
    refine ⟨?_, fun y hy => ?_⟩
    · rcases List.mem_cons.mp h1 with z | z
      · rw [z]; split <;> simp
      · simp [z]
    · have b := h2 _ List.mem_cons_self
      rcases List.mem_cons.mp hy with rfl | hy
      · exact Int.le_trans (by split <;> omega) b
      · rcases List.mem_cons.mp hy with rfl | hy
        · exact Int.le_trans (by split <;> omega) b
        · exact h2 y (List.mem_cons_of_mem _ hy)
theorem maxD_eq {l : List Int} {k : Int} (h0 : 0 ≤ k) (h1 : ∀ y ∈ l, y ≤ k) (h2 : 0 < k → k ∈ l) (h3 : ∀ y ∈ l, 0 < y) : maxD 0 l = k := by
  cases l with
  | nil =>
    show (0 : Int) = k
    rcases Int.lt_or_eq_of_le h0 with h | h
    · exact absurd (h2 h) (by simp)
    · exact h
  | cons n l =>
    obtain ⟨g1, g2⟩ := maxOf_spec l n
    have a := h1 _ g1
    have b := h3 _ g1
    have c := g2 k (h2 (by omega))
    show PySem.W.maxOf n l = k
    omega
theorem trim_take (f : List Int) : f.take (trim f).length = trim f := by
  have t : trim (f.take (trim f).length) = f.take (trim f).length := trim_self fun n hn => by
    rw [List.length_take] at hn
    have l := trim_len f
    have e : (trim f).length = n + 1 := by omega
    rw [co_take, if_pos (by omega)]
    exact trim_last e
  rw [← t]
  refine trim_ext fun k => ?_
  rw [co_take]
  split
  · rfl
  · rename_i h
    rw [← co_trim f k, co_ge (by omega)]
theorem trimmed_s_ok (ns : List Int) (hl : ns.length < 90000) : f_trimmed_sharing [tI ns] m = .ok (.d (tI (trim ns))) m := by
  have c := comp_tup_if (is := [2, 3]) (c := Y_trimmed_sharing_1) (elt := X_trimmed_sharing_1) (env := [.d (tI ns), .un, .un, .un]) (m := m) (fun x : Int × Nat => D.tup [.int x.2, .int x.1]) (fun x => [.d (tI ns), .un, .d (.int x.2), .d (.int x.1)]) (P := fun x => !decide (x.1 = 0)) (F := fun x => .int (x.2 + 1)) ns.zipIdx (fun x _ => ⟨rfl, by simp [Y_trimmed_sharing_1]⟩) (fun x _ _ => by simp [X_trimmed_sharing_1])
  rw [← enumD_ints] at c
  obtain ⟨L, hL⟩ : ∃ L, L = (ns.zipIdx.filter fun x => !decide (x.1 = 0)).map fun x => ((x.2 : Int) + 1) := ⟨_, rfl⟩
  have e1 : ((ns.zipIdx.filter fun x => !decide (x.1 = 0)).map fun x => D.int ((x.2 : Int) + 1)) = L.map D.int := by rw [hL, List.map_map]; rfl
  rw [e1] at c
  have mL : ∀ y, y ∈ L ↔ ∃ k : Nat, y = (k : Int) + 1 ∧ k < ns.length ∧ co ns k ≠ 0 := fun y => by
    rw [hL, List.mem_map]
    constructor
    · rintro ⟨x, hx, rfl⟩
      obtain ⟨hx1, hx2⟩ := List.mem_filter.mp hx
      have g := List.mem_zipIdx_iff_getElem?.mp hx1
      refine ⟨x.2, rfl, (List.getElem?_eq_some_iff.mp g).1, ?_⟩
      rw [co_get g]
      simpa using hx2
    · rintro ⟨k, rfl, hk, hz⟩
      refine ⟨(co ns k, k), List.mem_filter.mpr ⟨List.mem_zipIdx_iff_getElem?.mpr ?_, by simpa using hz⟩, rfl⟩
      rw [co_lt hk, List.getElem?_eq_getElem hk]
  have lt := trim_len ns
  have eM : maxD 0 L = ((trim ns).length : Int) := maxD_eq (by omega) (fun y hy => by
      obtain ⟨k, rfl, hk, hz⟩ := (mL y).mp hy
      have : k < (trim ns).length := by
        rcases Nat.lt_or_ge k (trim ns).length with h | h
        · exact h
        · exact absurd (by rw [← co_trim ns k, co_ge h]) hz
      omega) (fun h => by
      obtain ⟨j, hj⟩ : ∃ j, (trim ns).length = j + 1 := ⟨(trim ns).length - 1, by omega⟩
      exact (mL _).mpr ⟨j, by omega, by omega, by have := trim_last hj; exact this⟩) (fun y hy => by
      obtain ⟨k, rfl, _, _⟩ := (mL y).mp hy; omega)
  have le : (enumD (ns.map D.int)).length ≤ 1000000 := by rw [enumD_len, List.length_map]; omega
  have kx := kMxD1 (m := m) 0 L
  rw [eM] at kx
  have cc : cutD (ns.map D.int) none (some ((trim ns).length : Int)) = (trim ns).map D.int := by
    rw [cut_to _ _ (by rw [List.length_map]; exact lt), ← List.map_take, trim_take]
  generalize trim ns = T at *
  simp only [f_trimmed_sharing, b_trimmed_sharing]
  simp [kComp1 le, c, kx, cc]
/-- zeros at the end -/
def pad (f : List Int) (n : Nat) : List Int := f ++ List.replicate (n - f.length) 0
theorem co_pad (f : List Int) (n k : Nat) : co (pad f n) k = co f k := by
  unfold pad
  rw [co_app, co_rep]
  split
  · rfl
  · rename_i h; rw [co_ge (by omega)]
theorem pad_len (f : List Int) (n : Nat) : (pad f n).length = max f.length n := by unfold pad; rw [List.length_append, List.length_replicate]; omega
theorem padded_ok (f : List Int) (n : Nat) (hn : n ≤ 1000) (hf : f.length ≤ n) : f_padded [tI f, .int n] m = .ok (.d (tI (pad f n))) m := by
  have e : (List.replicate ((n : Int) - f.length).toNat [D.int 0]).flatten = (List.replicate (n - f.length) (0 : Int)).map D.int := by
    rw [rep_zero, show ((n : Int) - f.length).toNat = n - f.length by omega]
  have ep : f.map D.int ++ (List.replicate (n - f.length) (0 : Int)).map D.int = (pad f n).map D.int := by unfold pad; rw [List.map_append]
  have lp : (pad f n).length ≤ 1000000 := by rw [pad_len]; omega
  simp only [f_padded, b_padded]
  simp only [List.map_replicate] at e ep
  simp [gMul, e, ep, hf, show (n : Int) - f.length ≤ 1000000 by omega, show n ≤ 1000000 + f.length by omega, lp]
/-! ### shares, points -/
theorem req_field_poly' {p : Int} (F : Fd p) {f : List Int} (h : IsP p f) (hl : f.length ≤ 61) : f_require_field_poly [.int p, tI f] m = .ok (.d .non) m := req_field_poly F h hl
/-- the values at 1, 2, .. -/
def shr (p : Int) (n : Nat) (f : List Int) : List Int := (rgI 1 ((n : Int) + 1)).map fun x => pev f x % p
theorem shares_of_ok {p : Int} (F : Fd p) (n : Nat) (hn : (n : Int) < p) {ns : List Int} (h : Red p ns) (hl : ns.length ≤ 61) : f_shares_of [.int p, .int n, tI ns] m = .ok (.d (tI (shr p n ns))) m := by
  have hi := F.hi
  have tp : IsP p (trim ns) := IsP.of h
  have tl := trim_len ns
  have val : ∀ x, pev (trim ns) x % p = pev ns x % p := fun x => pev_ext x fun k => by rw [co_trim]
  have ty := trimmed_s_ok (m := m) ns (by omega)
  obtain ⟨ys, hys⟩ : ∃ ys, ys = (rgI 1 ((n : Int) + 1)).map fun x => pev ns x % p := ⟨_, rfl⟩
  have c := comp_intsI (i := 3) (elt := X_shares_of_1) (env := [.d (.int p), .d (.int n), .d (tI ns), .un]) (m := m) (fun x => pev ns x % p) (rgI 1 ((n : Int) + 1)) ys hys (fun x hx => by
    obtain ⟨h1, h2⟩ := rgI_mem.mp hx
    have va := value_at_ok (m := m) (x := x) F tp (by omega) (by omega) (by omega)
    rw [val] at va
    simp [X_shares_of_1, ty, va])
  have l : (rangeD 1 ((n : Int) + 1)).length ≤ 1000000 := by rw [rangeD_len]; omega
  rw [← rangeD_ints] at c
  have lr := rgI_len 1 ((n : Int) + 1)
  have ly : (ys.map D.int).length ≤ 1000000 := by rw [List.length_map, hys, List.length_map]; omega
  have : shr p n ns = ys := hys.symm
  rw [this]
  simp only [f_shares_of, b_shares_of]
  simp [kRa2_1 (i := 1) (j := (n : Int) + 1) (by omega), kComp1 l, c, ly]
/-- a list of pairs -/
abbrev pI (ps : List (Int × Int)) : List D := ps.map fun x => D.tup [.int x.1, .int x.2]
def apart (p : Int) (f : List Int) (ps : List (Int × Int)) : List (Int × Int) := ps.filter fun q => !decide (pev f q.1 % p = q.2)
theorem first_apart_ok {p : Int} (F : Fd p) {f : List Int} (h : IsP p f) (hl : f.length ≤ 61) {ps : List (Int × Int)} (hr : ∀ q ∈ ps, 0 ≤ q.1 ∧ q.1 < p) (lp : ps.length ≤ 1000) : f_first_apart [.int p, tI f, .lst (pI ps)] m = .ok (.d (match apart p f ps with | [] => .non | q :: _ => .int q.1)) m := by
  have c := comp_tup_if (is := [4, 5]) (c := Y_first_apart_1) (elt := rVar 4) (env := [.d (.int p), .d (tI f), .d (.lst (pI ps)), .un, .un, .un]) (m := m) (fun x : Int × Int => D.tup [.int x.1, .int x.2]) (fun x => [.d (.int p), .d (tI f), .d (.lst (pI ps)), .un, .d (.int x.1), .d (.int x.2)]) (P := fun q => !decide (pev f q.1 % p = q.2)) (F := fun x => .int x.1) ps (fun x hx => by
    have va := value_at_ok (m := m) (x := x.1) F h hl (hr x hx).1 (hr x hx).2
    exact ⟨rfl, by simp [Y_first_apart_1, va]⟩) (fun x _ _ => by simp)
  change compL _ _ _ _ (pI ps) _ = _ at c
  have e : (ps.filter fun q => !decide (pev f q.1 % p = q.2)) = apart p f ps := rfl
  rw [e] at c
  have l : (pI ps).length ≤ 1000000 := by rw [List.length_map]; omega
  have la : (apart p f ps).length ≤ ps.length := List.length_filter_le ..
  generalize apart p f ps = A at *
  generalize hP : pI ps = P at *
  have pl := plainDs_int 59 (A.map (·.1))
  have e2 : A.map (fun x => D.int x.1) = (A.map (·.1)).map D.int := by rw [List.map_map]; rfl
  simp only [f_first_apart, b_first_apart]
  cases A with
  | nil => simp [kComp1 l, c]
  | cons a A =>
    have i0 : atI ((a :: A).map fun x => D.int x.1) 0 = some (.int a.1) := by
      rw [List.map_cons]
      unfold atI ixN
      simp
    rw [e2] at c i0
    generalize hB : ((a :: A).map (·.1)) = B at *
    have ne : (B.map D.int).isEmpty = false := by rw [← hB]; rfl
    simp [kComp1 l, c, pl, ne, i0]
theorem many_rows_ok {p : Int} (hp : 0 < p) (hp2 : p < 1000000) (n : Nat) (hn : n ≤ 1000) : f_many_rows [.int p, .int n] m = .ok (.d (.int (p ^ n))) m := by
  obtain ⟨e, m', k1, rfl, s, rfl⟩ := for_range (g := gSet 3) (b := L_many_rows_1) 0 (n : Int)
    (fun j env m' => m' = m ∧ ∃ s, env = [.d (.int p), .d (.int n), .d (.int (p ^ j)), s])
    (by
      rintro j hj env m' ⟨rfl, s, rfl⟩
      refine ⟨_, _, m', rfl, ?_, rfl, .d (.int (0 + j)), rfl⟩
      rw [Int.pow_succ]
      simp [L_many_rows_1, ev_mulR (i := p ^ j) (j := p) (by omega)])
    (env := [.d (.int p), .d (.int n), .d (.int 1), .un]) (m := m) ⟨rfl, .un, by rw [Int.pow_zero]⟩
  rw [show ((n : Int) - 0).toNat = n by omega] at k1
  simp only [f_many_rows, b_many_rows]
  simp [kRa1_1 (j := (n : Int)) (by omega), k1]
/-! ### exchanges -/
/-- the coins exchanged -/
noncomputable def exc (p : Int) (lot cs : List Int) (d : Int) : List Int := (cs.zip (pad (hid p lot) (cs.length + 1)).tail).map fun x => (x.1 + d * x.2) % p
theorem hidden_coins_ok {p d : Int} (F : Fd p) {lot cs : List Int} (h : ∀ x ∈ lot, 0 < x ∧ x < p) (hn : lot.Nodup) (hl : lot.length ≤ cs.length) (hc : cs.length ≤ 60) (hd : -1000000 < d ∧ d < 1000000) : f_hidden_coins [.int p, tI lot, tI cs, .int d] m = .ok (.d (tI (exc p lot cs d))) m := by
  have H := hid_ok F h
  have hlen := H.len
  have hp := F.pos
  have p1 := padded_ok (m := m) (hid p lot) (cs.length + 1) (by omega) (by omega)
  rw [Int.natCast_add, Int.natCast_one] at p1
  have hi := hiding_ok (m := m) F h hn (by omega)
  obtain ⟨T, hT⟩ : ∃ T, T = (pad (hid p lot) (cs.length + 1)).tail := ⟨_, rfl⟩
  have ec : cutD ((pad (hid p lot) (cs.length + 1)).map D.int) (some 1) none = T.map D.int := by
    have := cut_from ((pad (hid p lot) (cs.length + 1)).map D.int) 1
    rw [show ((1 : Nat) : Int) = 1 from rfl] at this
    rw [this, ← List.map_drop, List.drop_one, hT]
  have c := comp_tup (is := [5, 6]) (elt := X_hidden_coins_1) (env := [.d (.int p), .d (tI lot), .d (tI cs), .d (.int d), .d (tI T), .un, .un]) (m := m) (fun x : Int × Int => D.tup [.int x.1, .int x.2]) (fun x => [.d (.int p), .d (tI lot), .d (tI cs), .d (.int d), .d (tI T), .d (.int x.1), .d (.int x.2)]) (F := fun x => .int ((x.1 + d * x.2) % p)) (cs.zip T) (fun x hx => ⟨rfl, by
    simp [X_hidden_coins_1, ev_mulL (i := d) (j := x.2) (by omega), ev_mod hp]⟩)
  rw [← zipD_ints] at c
  have e1 : ((cs.zip T).map fun x => D.int ((x.1 + d * x.2) % p)) = (exc p lot cs d).map D.int := by unfold exc; rw [← hT, List.map_map]; rfl
  rw [e1] at c
  have lz : (zipD (cs.map D.int) (T.map D.int)).length ≤ 1000000 := by rw [zipD_len, List.length_map]; omega
  have le : ((exc p lot cs d).map D.int).length ≤ 1000000 := by unfold exc; rw [List.length_map, List.length_map, List.length_zip]; omega
  generalize exc p lot cs d = E at *
  generalize pad (hid p lot) (cs.length + 1) = P at *
  generalize hid p lot = G at *
  simp only [f_hidden_coins, b_hidden_coins]
  simp [hi, p1, ec, kComp1 lz, c, le]
theorem changed_ok {p a b : Int} (F : Fd p) {lot cs : List Int} (h : ∀ x ∈ lot, 0 < x ∧ x < p) (ha : lot.Pairwise (· < ·)) (hl : lot.length ≤ cs.length) (hc : cs.length ≤ 8) (rc : Red p cs) (a0 : 0 ≤ a) (a1 : a < p) (b0 : 0 ≤ b) (b1 : b < p) :
    f_changed_coins [.int p, tI lot, tI cs, .int a, .int b] m = .ok (.d (tI (exc p lot cs (b - a)))) m := by
  have hi := F.hi
  have hn : lot.Nodup := ha.imp fun h => Int.ne_of_lt h
  have t := hidden_coins_ok (m := m) (d := b - a) F h hn hl (by omega) (by omega)
  have n1 := numbers_ok (m := m) (a := 0) (b := 8) F rc (by omega) (by omega) (by omega)
  have hl' : ¬ ((cs.length : Int) < lot.length) := by omega
  generalize exc p lot cs (b - a) = E at *
  simp only [f_changed_coins, b_changed_coins]
  simp [req_field_s F, req_lot F h ha (by omega), n1, req_number_s F a0 a1, req_number_s F b0 b1, hl', hl, t]
/-! ### dealt, counted -/
theorem red_cons {p a : Int} {ns : List Int} (a0 : 0 ≤ a) (a1 : a < p) (h : Red p ns) : Red p (a :: ns) := fun x hx => by
  rcases List.mem_cons.mp hx with rfl | hx
  · exact ⟨a0, a1⟩
  · exact h x hx
theorem dealt_ok {p a : Int} (F : Fd p) (n : Nat) (n0 : 1 ≤ n) (n1 : n ≤ 9) (n2 : (n : Int) ≤ p - 1) {cs : List Int} (a0 : 0 ≤ a) (a1 : a < p) (rc : Red p cs) (lc : cs.length + 1 ≤ n) : f_dealt [.int p, .int n, .int a, tI cs] m = .ok (.d (tI (shr p n (a :: cs)))) m := by
  have t := shares_of_ok (m := m) F n (by omega) (ns := a :: cs) (red_cons a0 a1 rc) (by rw [List.length_cons]; omega)
  have n3 := numbers_ok (m := m) (a := 0) (b := (n : Int) - 1) F rc (by omega) (by omega) (by omega)
  have rf := req_from (m := m) (v := (n : Int)) (a := 1) (b := if p - 1 < 9 then p - 1 else 9) (by omega) (by split <;> omega)
  generalize shr p n (a :: cs) = S at *
  simp only [tI, List.map_cons] at t
  simp only [f_dealt, b_dealt]
  simp [req_field_s F, rf, req_number_s F a0 a1, n3, show cs.length ≤ 999999 by omega, t]
/-- the points of a number and of told shares -/
abbrev pts (a : Int) (lot ws : List Int) : List (Int × Int) := (0 :: lot).zip (a :: ws)
theorem told_count_few {p a : Int} (F : Fd p) (t : Nat) (t1 : t ≤ 8) {lot ws : List Int} (h : ∀ x ∈ lot, 0 < x ∧ x < p) (ha : lot.Pairwise (· < ·)) (hl : lot.length ≤ t) (rw_ : Red p ws) (lw : ws.length = lot.length) (a0 : 0 ≤ a) (a1 : a < p) :
    f_told_count [.int p, .int t, tI lot, tI ws, .int a] m = .ok (.d (.int (p ^ (t - lot.length)))) m := by
  have hi := F.hi
  have n1 := numbers_ok (m := m) (a := lot.length) (b := lot.length) F rw_ (by omega) (by omega) (by omega)
  have mr := many_rows_ok (m := m) F.pos (by omega) (t - lot.length) (by omega)
  rw [show ((t - lot.length : Nat) : Int) = (t : Int) - lot.length by omega] at mr
  have hl' : (lot.length : Int) ≤ t := by omega
  simp only [f_told_count, b_told_count]
  simp [req_most_lot F h ha (by omega) (show (0 : Int) ≤ t by omega) (by omega), n1, req_number_s F a0 a1, hl', hl, mr]
theorem told_count_many {p a : Int} (F : Fd p) (t : Nat) (t1 : t ≤ 8) {lot ws : List Int} (h : ∀ x ∈ lot, 0 < x ∧ x < p) (ha : lot.Pairwise (· < ·)) (hl : t < lot.length) (hl9 : lot.length ≤ 9) (rw_ : Red p ws) (lw : ws.length = lot.length) (a0 : 0 ≤ a) (a1 : a < p) :
    ∃ f, f_told_count [.int p, .int t, tI lot, tI ws, .int a] m = .ok (.d (.int (if (apart p f (pts a lot ws)).isEmpty then 1 else 0))) m ∧ IsP p f ∧ f.length ≤ t + 1 ∧ ((0 :: lot).take (t + 1)).map (fun x => pev f x % p) = (a :: ws).take (t + 1) := by
  have hi := F.hi
  have lo := F.lo
  have z : (0 : Int) ∉ lot := fun z => by have := h 0 z; omega
  have nd : (0 :: lot).Nodup := List.nodup_cons.mpr ⟨z, ha.imp fun h => Int.ne_of_lt h⟩
  have r0 : Red p (0 :: lot) := red_cons (by omega) (by omega) fun x hx => by have := h x hx; omega
  have ra := red_cons a0 a1 rw_
  obtain ⟨f, e, fP, fl, fv⟩ := through_ok (m := m) F (xs := (0 :: lot).take (t + 1)) (ys := (a :: ws).take (t + 1)) (fun x hx => r0 x (List.mem_of_mem_take hx)) (nd.sublist (List.take_sublist ..)) (fun x hx => ra x (List.mem_of_mem_take hx)) (by simp; omega) (by simp [lw]) (by simp)
  refine ⟨f, ?_, fP, by simp at fl; omega, fv⟩
  have n1 := numbers_ok (m := m) (a := lot.length) (b := lot.length) F rw_ (by omega) (by omega) (by omega)
  have hl' : ¬ (lot.length : Int) ≤ t := by omega
  have hl2 : ¬ lot.length ≤ t := by omega
  have lp : (pts a lot ws).length = lot.length + 1 := by rw [List.length_zip]; simp [lw]
  have fa := first_apart_ok (m := m) F fP (by simp at fl; omega) (ps := pts a lot ws) (fun q hq => by
    have := (List.of_mem_zip (show (q.1, q.2) ∈ _ from hq)).1
    exact r0 _ this) (by omega)
  have ez : zipD (((0 :: lot).take (t + 1)).map D.int) (((a :: ws).take (t + 1)).map D.int) = (pI (pts a lot ws)).take (t + 1) := by
    rw [zipD_ints, ← List.map_take]
    congr 1
    show _ = List.take (t + 1) (List.zipWith Prod.mk (0 :: lot) (a :: ws))
    rw [List.take_zipWith]; rfl
  rw [ez] at e
  have ep : D.tup [.int 0, .int a] :: zipD (lot.map D.int) (ws.map D.int) = pI (pts a lot ws) := by
    rw [zipD_ints]; rfl
  have lP : (pI (pts a lot ws)).length = lot.length + 1 := by rw [List.length_map, lp]
  have ec : cutD (pI (pts a lot ws)) none (some ((t : Int) + 1)) = (pI (pts a lot ws)).take (t + 1) := by
    have := cut_to (pI (pts a lot ws)) (t + 1) (by omega)
    rwa [Int.natCast_add, Int.natCast_one] at this
  generalize hA : apart p f (pts a lot ws) = A at *
  generalize pI (pts a lot ws) = P at *
  have lt : (P.take (t + 1)).length ≤ 1000000 := by rw [List.length_take]; omega
  generalize P.take (t + 1) = Q at *
  have lP2 : P.length ≤ 1000000 := by omega
  simp only [f_told_count, b_told_count]
  cases A with
  | nil => simp [req_most_lot F h ha (by omega) (show (0 : Int) ≤ t by omega) (by omega), n1, req_number_s F a0 a1, hl', hl2, ep, ec, lt, e, fa, lP2]
  | cons q A => simp [req_most_lot F h ha (by omega) (show (0 : Int) ≤ t by omega) (by omega), n1, req_number_s F a0 a1, hl', hl2, ep, ec, lt, e, fa, lP2]
end Pg
/-! Pg: the laws' own field and poly defs (_law_fd_*), drawn sequences. -/
namespace Pg
open PySem PySem.Spec L2 Ev Po
variable {m : Cells}
theorem fd_undone_ok {p a : Int} (F : Fd p) (h0 : 0 < a) (h1 : a < p) : f__law_fd_undone [.int p, .int a] m = .ok (.d (.int (inv p a))) m := by
  have hi := F.hi
  have hp := F.pos
  obtain ⟨u0, u1, hu⟩ := inv_spec F h0 h1
  have un0 : 0 < inv p a := by
    rcases Int.lt_or_eq_of_le u0 with h | h
    · exact h
    · rw [← h, Int.zero_mul, Int.zero_emod] at hu; omega
  generalize hU : inv p a = u at *
  have k0 := for_find (i := 2) (b := L__law_fd_undone_1) (m := m) (rv := .d (.int u)) (env := [.d (.int p), .d (.int a), .un]) (ds := rangeD 1 p) (k := (u - 1).toNat) (x := .int u) .un
    (by rw [rangeD_get, if_pos (by omega), Int.toNat_of_nonneg (by omega)]; congr 2; omega)
    (fun j y hj hy => by
      rw [rangeD_get] at hy
      split at hy
      · cases hy
        have ne : ¬ ((1 + (j : Int)) * a % p = 1) := fun z => by
          have := inv_unique u0 u1 hu (show 0 ≤ 1 + (j : Int) by omega) (by omega) z
          omega
        generalize 1 + (j : Int) = v at ne
        simp [L__law_fd_undone_1, ev_mulR (i := v) (j := a) (by omega), ev_mod hp, ne]
      · cases hy)
    (by simp [L__law_fd_undone_1, ev_mulR (i := u) (j := a) (by omega), ev_mod hp, hu])
  simp only [List.set_cons_succ, List.set_cons_zero] at k0
  simp only [f__law_fd_undone, b__law_fd_undone]
  simp [kRa2_1 (i := 1) (j := p) (by omega), k0]
theorem fd_times_ok {p : Int} (hp : 0 < p) (hp2 : p < 1000000) (n : Nat) (hn : n ≤ 1000) : f__law_fd_times [.int p, .int n] m = .ok (.d (.int (p ^ n))) m := by
  obtain ⟨e, m', k1, rfl, s, rfl⟩ := for_range (g := gSet 3) (b := L__law_fd_times_1) 0 (n : Int)
    (fun j env m' => m' = m ∧ ∃ s, env = [.d (.int p), .d (.int n), .d (.int (p ^ j)), s])
    (by
      rintro j hj env m' ⟨rfl, s, rfl⟩
      refine ⟨_, _, m', rfl, ?_, rfl, .d (.int (0 + j)), rfl⟩
      rw [Int.pow_succ]
      simp [L__law_fd_times_1, ev_mulR (i := p ^ j) (j := p) (by omega)])
    (env := [.d (.int p), .d (.int n), .d (.int 1), .un]) (m := m) ⟨rfl, .un, by rw [Int.pow_zero]⟩
  rw [show ((n : Int) - 0).toNat = n by omega] at k1
  simp only [f__law_fd_times, b__law_fd_times]
  simp [kRa1_1 (j := (n : Int)) (by omega), k1]
theorem fd_trim_loop (x : Slot) (ns : List Int) (hl : ns.length < 90000) : ∃ s, forL (gSet 2) L__law_fd_trim_1 (rangeD 0 ns.length) [x, .own (ns.map D.int), .un] m = .ok (.nx [x, .own ((trim ns).map D.int), s]) m := by
  obtain ⟨e, m', k1, rfl, s, k, rfl, hk, ht, hd⟩ := for_range (g := gSet 2) (b := L__law_fd_trim_1) 0 (ns.length : Int)
    (fun j env m' => m' = m ∧ ∃ (s : Slot) (k : Nat), env = [x, .own ((ns.take k).map D.int), s] ∧ k ≤ ns.length ∧ trim (ns.take k) = trim ns ∧ (k + j = ns.length ∨ ∃ i, k = i + 1 ∧ co ns i ≠ 0))
    (by
      rintro j hj env m' ⟨rfl, s, k, rfl, hk, ht, hd⟩
      obtain ⟨i, rfl⟩ : ∃ i, k = i + 1 := by
        rcases hd with h | ⟨i, h, _⟩
        · exact ⟨k - 1, by omega⟩
        · exact ⟨i, h⟩
      have ll : (ns.take (i + 1)).length = i + 1 := by rw [List.length_take]; omega
      have a := atI_last ll
      rw [co_take, if_pos (by omega)] at a
      by_cases hz : co ns i = 0
      · refine ⟨_, [x, .own ((ns.take i).map D.int), .d (.int (0 + j))], m', rfl, ?_, rfl, .d (.int (0 + j)), i, rfl, by omega, ?_, ?_⟩
        · have dl : ((ns.take (i + 1)).map D.int).dropLast = (ns.take i).map D.int := by
            rw [← List.map_dropLast, List.dropLast_eq_take, ll, List.take_take, show min (i + 1 - 1) (i + 1) = i by omega]
          have ne : ((ns.take (i + 1)).map D.int).isEmpty = false := by
            cases h : (ns.take (i + 1)).map D.int with
            | nil => have := congrArg List.length h; rw [List.length_map, ll] at this; cases this
            | cons _ _ => rfl
          have ab : atI ((ns.take (i + 1)).map D.int) (-1) = some (.int (co ns i)) := by rw [atI_ints, a]; rfl
          rw [hz] at ab
          generalize (ns.take (i + 1)).map D.int = A at *
          simp [L__law_fd_trim_1, ab, ne, dl]
        · rw [← ht]
          refine trim_ext fun j => ?_
          rw [co_take, co_take]
          by_cases hj : j < i
          · rw [if_pos hj, if_pos (by omega)]
          · by_cases hj2 : j = i
            · subst hj2; rw [if_neg hj, if_pos (by omega), hz]
            · rw [if_neg hj, if_neg (by omega)]
        · rcases hd with h | ⟨i', h, h2⟩
          · left; omega
          · exact absurd (by rw [show i' = i by omega]; exact hz) h2
      · refine ⟨_, _, m', rfl, ?_, rfl, .d (.int (0 + j)), i + 1, rfl, hk, ht, .inr ⟨i, rfl, hz⟩⟩
        have ab : atI ((ns.take (i + 1)).map D.int) (-1) = some (.int (co ns i)) := by rw [atI_ints, a]; rfl
        generalize (ns.take (i + 1)).map D.int = A at *
        simp [L__law_fd_trim_1, ab, hz])
    (env := [x, .own (ns.map D.int), .un]) (m := m) ⟨rfl, .un, ns.length, by rw [List.take_length], Nat.le_refl _, by rw [List.take_length], .inl rfl⟩
  have e : ns.take k = trim ns := by
    rw [← ht]
    refine (trim_self fun i hi => ?_).symm
    rw [List.length_take] at hi
    rcases hd with h | ⟨j, h, h2⟩
    · omega
    · rw [co_take, if_pos (by omega), show i = j by omega]; exact h2
  rw [e] at k1
  exact ⟨s, k1⟩
theorem fd_trimL (ns : List Int) (hl : ns.length < 90000) : f__law_fd_trim [lI ns] m = .ok (.d (tI (trim ns))) m := by
  obtain ⟨s, k1⟩ := fd_trim_loop (m := m) (.d (lI ns)) ns hl
  simp only [f__law_fd_trim, b__law_fd_trim]
  have := trim_len ns
  simp [show ns.length ≤ 1000000 by omega, kRa1_1 (j := (ns.length : Int)) (by omega), k1, show (trim ns).length ≤ 1000000 by omega]
theorem fd_scaled_ok {p c : Int} (hp : 0 < p) (f : List Int) (hf : f.length < 1000) (c0 : 0 ≤ c) (c1 : c < 1000000) : f__law_fd_scaled [.int p, tI f, .int c] m = .ok (.d (tI (nm p (psc c f)))) m := by
  obtain ⟨ys, hys⟩ : ∃ ys, ys = f.map fun x => c * x % p := ⟨_, rfl⟩
  have cc := comp_intsI (i := 3) (elt := X__law_fd_scaled_1) (env := [.d (.int p), .d (tI f), .d (.int c), .un]) (m := m) (fun x => c * x % p) f ys hys (fun x hx => by
    simp [X__law_fd_scaled_1, ev_mulL (i := c) (j := x) (by omega), ev_mod hp])
  have l : (f.map D.int).length ≤ 1000000 := by rw [List.length_map]; omega
  have t := fd_trimL (m := m) ys (by rw [hys, List.length_map]; omega)
  have e : trim ys = nm p (psc c f) := by
    rw [hys]
    unfold nm psc
    rw [List.map_map]; rfl
  rw [e] at t
  simp only [f__law_fd_scaled, b__law_fd_scaled]
  simp [kComp1 l, cc, t]
theorem fd_sum_ok {p : Int} (hp : 0 < p) (f g : List Int) (hf : f.length < 1000) (hg : g.length < 1000) : f__law_fd_sum [.int p, tI f, tI g] m = .ok (.d (tI (nm p (padd f g)))) m := by
  obtain ⟨n, hn, hn2⟩ : ∃ n : Nat, (if f.length < g.length then (g.length : Int) else (f.length : Int)) = (n : Int) ∧ n = max f.length g.length := by
    refine ⟨_, ?_, rfl⟩
    split <;> omega
  have c := comp_tup (is := [6, 7]) (elt := X__law_fd_sum_1) (env := [.d (.int p), .d (tI f), .d (tI g), .d (.int n), .d (lI (pad f n)), .d (lI (pad g n)), .un, .un]) (m := m) (fun x : Int × Int => D.tup [.int x.1, .int x.2]) (fun x => [.d (.int p), .d (tI f), .d (tI g), .d (.int n), .d (lI (pad f n)), .d (lI (pad g n)), .d (.int x.1), .d (.int x.2)]) (F := fun x => .int ((x.1 + x.2) % p)) ((pad f n).zip (pad g n)) (fun x hx => ⟨rfl, by
    simp [X__law_fd_sum_1, ev_mod hp]⟩)
  rw [← zipD_ints] at c
  obtain ⟨ys, hys⟩ : ∃ ys, ys = ((pad f n).zip (pad g n)).map fun x => (x.1 + x.2) % p := ⟨_, rfl⟩
  have e1 : (((pad f n).zip (pad g n)).map fun x => D.int ((x.1 + x.2) % p)) = ys.map D.int := by rw [hys, List.map_map]; rfl
  rw [e1] at c
  have lf : (pad f n).length = n := by rw [pad_len]; omega
  have lg : (pad g n).length = n := by rw [pad_len]; omega
  have t := fd_trimL (m := m) ys (by rw [hys, List.length_map, List.length_zip]; omega)
  have e : trim ys = nm p (padd f g) := by
    unfold nm
    refine trim_ext fun k => ?_
    rw [co_map (by simp), co_padd, hys]
    by_cases hk : k < n
    · have : (((pad f n).zip (pad g n)).map fun x => (x.1 + x.2) % p)[k]? = some ((co (pad f n) k + co (pad g n) k) % p) := by
        rw [List.getElem?_map]
        unfold List.zip
        rw [List.getElem?_zipWith, List.getElem?_eq_getElem (by omega), List.getElem?_eq_getElem (by omega), co_lt (by omega), co_lt (by omega)]
        rfl
      rw [co_get this, co_pad, co_pad]
    · rw [co_ge (by rw [List.length_map, List.length_zip]; omega), co_ge (f := f) (by omega), co_ge (f := g) (by omega)]; simp
  rw [e] at t
  have lz : (zipD ((pad f n).map D.int) ((pad g n).map D.int)).length ≤ 1000000 := by rw [zipD_len, List.length_map]; omega
  have pf : (List.replicate ((n : Int) - f.length).toNat [D.int 0]).flatten = (List.replicate (n - f.length) (0 : Int)).map D.int := by rw [rep_zero, show ((n : Int) - f.length).toNat = n - f.length by omega]
  have pg : (List.replicate ((n : Int) - g.length).toNat [D.int 0]).flatten = (List.replicate (n - g.length) (0 : Int)).map D.int := by rw [rep_zero, show ((n : Int) - g.length).toNat = n - g.length by omega]
  have ef : f.map D.int ++ (List.replicate (n - f.length) (0 : Int)).map D.int = (pad f n).map D.int := by unfold pad; rw [List.map_append]
  have eg : g.map D.int ++ (List.replicate (n - g.length) (0 : Int)).map D.int = (pad g n).map D.int := by unfold pad; rw [List.map_append]
  have q1 : f.length ≤ n := by omega
  have q2 : g.length ≤ n := by omega
  simp only [List.map_replicate] at pf pg ef eg
  have af : gAdd (.lst (f.map D.int)) (.lst (List.replicate (n - f.length) (D.int 0))) = some (.fl ((pad f n).map D.int)) := by
    show (if _ then _ else _) = _
    rw [if_pos (by rw [List.length_map, List.length_replicate]; show _ ≤ 1000000; omega), ef]
  have ag : gAdd (.lst (g.map D.int)) (.lst (List.replicate (n - g.length) (D.int 0))) = some (.fl ((pad g n).map D.int)) := by
    show (if _ then _ else _) = _
    rw [if_pos (by rw [List.length_map, List.length_replicate]; show _ ≤ 1000000; omega), eg]
  generalize pad f n = A at *
  generalize pad g n = B at *
  simp only [f__law_fd_sum, b__law_fd_sum]
  simp [hn, gMul, show f.length ≤ 1000000 by omega, show g.length ≤ 1000000 by omega, q1, q2, pf, pg, af, ag, show (n : Int) - f.length ≤ 1000000 by omega, show (n : Int) - g.length ≤ 1000000 by omega, show n ≤ 1000000 + f.length by omega, show n ≤ 1000000 + g.length by omega, lf, lg, show n ≤ 1000000 by omega, kComp1 lz, c, t]

theorem rep_zeroT (n : Nat) : (List.replicate n [D.int 0]).flatten = (List.replicate n (0 : Int)).map D.int := rep_zero n
theorem nm_shf {p : Int} (hp : 0 < p) (f g h : List Int) (x : Int) : nm p (padd (nm p (pmul f g)) (shf f.length (nm p (psc x g)))) = nm p (pmul (f ++ [x]) g) := by
  refine nm_ext fun k => ?_
  rw [co_padd, co_nm, co_shf, co_pmul_snoc]
  split
  · rename_i h
    rw [if_neg (by omega), Int.add_zero, Int.add_zero, Int.emod_emod_of_dvd _ (Int.dvd_refl p)]
  · rename_i h
    rw [if_pos (by omega), co_nm, co_psc, ← Int.add_emod]
theorem fd_product_ok {p : Int} (hp : 0 < p) (hp2 : p < 1000000) (f g : List Int) (hf : f.length < 300) (hg : g.length < 300) (rf : Red p f) : f__law_fd_product [.int p, tI f, tI g] m = .ok (.d (tI (nm p (pmul f g)))) m := by
  obtain ⟨e, m', k1, rfl, s4, s5, rfl⟩ := for_enum (g := gTupS [4, 5]) (b := L__law_fd_product_1) f
    (fun pre env m' => m' = m ∧ ∃ s4 s5, env = [.d (.int p), .d (tI f), .d (tI g), .d (tI (nm p (pmul pre g))), s4, s5])
    (by
      rintro pre x post hpre env m' ⟨rfl, s4, s5, rfl⟩
      have hx := rf x (by rw [hpre]; simp)
      have hlp : pre.length + 1 + post.length = f.length := by rw [hpre]; simp; omega
      have l1 : (nm p (pmul pre g)).length ≤ pre.length + g.length := len_of_co (nm_isP hp _) fun k hk => by rw [co_nm, co_pmul_ge pre g k (by omega)]; rfl
      have t1 := fd_scaled_ok (m := m') (p := p) (c := x) hp g (by omega) hx.1 (by omega)
      have l2 := nm_len p (psc x g)
      rw [psc_len] at l2
      have ls : (shf pre.length (nm p (psc x g))).length < 1000 := by unfold shf; rw [List.length_append, List.length_replicate]; omega
      have t2 := fd_sum_ok (m := m') hp (nm p (pmul pre g)) (shf pre.length (nm p (psc x g))) (by omega) ls
      rw [nm_shf hp pre g g x] at t2
      have af : gAdd (.tup (List.replicate pre.length (D.int 0))) (.tup ((nm p (psc x g)).map D.int)) = some (.d (tI (shf pre.length (nm p (psc x g))))) := by
        show (if _ then _ else _) = _
        rw [if_pos (by rw [List.length_map, List.length_replicate]; show _ ≤ 1000000; omega)]
        unfold shf
        rw [tI, List.map_append, List.map_replicate]
      have rz := rep_zero pre.length
      simp only [List.map_replicate] at rz
      refine ⟨_, [.d (.int p), .d (tI f), .d (tI g), .d (tI (nm p (pmul (pre ++ [x]) g))), .d (.int pre.length), .d (.int x)], m', rfl, ?_, rfl, .d (.int pre.length), .d (.int x), rfl⟩
      generalize nm p (pmul (pre ++ [x]) g) = A at *
      generalize nm p (pmul pre g) = B at *
      generalize shf pre.length (nm p (psc x g)) = C at *
      generalize nm p (psc x g) = E at *
      simp [L__law_fd_product_1, gMul, show pre.length ≤ 1000 by omega, show (pre.length : Int) ≤ 1000 by omega, show -1000 ≤ (pre.length : Int) by omega, rz, t1, af, t2])
    (env := [.d (.int p), .d (tI f), .d (tI g), .d (tI []), .un, .un]) (m := m) ⟨rfl, .un, .un, by
      have : nm p (pmul [] g) = [] := rfl
      rw [this]⟩
  simp only [f__law_fd_product, b__law_fd_product]
  generalize nm p (pmul f g) = A at *
  simp only [tI, List.map_nil] at k1
  simp [k1]
theorem fd_value_ok {p x : Int} (hp : 0 < p) (hp2 : p < 1000000) (f : List Int) (hf : Red p f) : f__law_fd_value [.int p, tI f, .int x] m = .ok (.d (.int (pev f x % p))) m := by
  obtain ⟨e, m', k1, rfl, q, s, rfl, hq⟩ := for_ints (g := gSet 5) (b := L__law_fd_value_1) f
    (fun pre env m' => m' = m ∧ ∃ (q : Int) (s : Slot), env = [.d (.int p), .d (tI f), .d (.int x), .d (.int (pev pre x % p)), .d (.int q), s] ∧ (q - x ^ pre.length) % p = 0 ∧ 0 ≤ q ∧ q ≤ p)
    (by
      rintro pre y post hpre env m' ⟨rfl, q, s, rfl, hq, q0, q1⟩
      have hy := hf y (by rw [hpre]; simp)
      refine ⟨_, [.d (.int p), .d (tI f), .d (.int x), .d (.int (pev (pre ++ [y]) x % p)), .d (.int (q * x % p)), .d (.int y)], m', rfl, ?_, rfl, q * x % p, .d (.int y), rfl, ?_, Int.emod_nonneg _ (by omega), Int.le_of_lt (Int.emod_lt_of_pos _ hp)⟩
      · have e : (pev pre x % p + y * q) % p = pev (pre ++ [y]) x % p := by
          rw [pev_snoc, Int.add_emod, Int.emod_emod_of_dvd _ (Int.dvd_refl p), Int.add_emod (pev pre x)]
          have h1 : q % p = x ^ pre.length % p := Int.emod_eq_emod_iff_emod_sub_eq_zero.mpr hq
          rw [Int.mul_comm y q, ← mul_mod_l q y p, h1, mul_mod_l]
        simp [L__law_fd_value_1, ev_mulL (i := y) (j := q) (by omega), ev_mulL (i := q) (j := x) (by omega), ev_mod hp, e]
      · have h1 : q % p = x ^ pre.length % p := Int.emod_eq_emod_iff_emod_sub_eq_zero.mpr hq
        rw [List.length_append, List.length_singleton, Int.pow_succ]
        refine Int.emod_eq_emod_iff_emod_sub_eq_zero.mp ?_
        rw [Int.emod_emod_of_dvd _ (Int.dvd_refl p), ← mul_mod_l, h1, mul_mod_l])
    (env := [.d (.int p), .d (tI f), .d (.int x), .d (.int 0), .d (.int 1), .un]) (m := m) ⟨rfl, 1, .un, by simp, by simp, by omega, by omega⟩
  simp only [f__law_fd_value, b__law_fd_value]
  simp [k1]
/-- 1 at a place, 0 at the others -/
structure Lone (p z : Int) (xs f : List Int) : Prop where
  isP : IsP p f
  len : f.length ≤ (oth z xs).length + 1
  at1 : pev f z % p = 1
  at0 : ∀ r ∈ oth z xs, pev f r % p = 0
theorem isP_one {p : Int} (F : Fd p) : IsP p [1] := (hid_nil F).isP
theorem lone_step {p z o : Int} (F : Fd p) {pre f : List Int} (L : Lone p z pre f) (h : 0 < (z - o) % p) : Lone p z (pre ++ [o]) (nm p (pmul f (trim [-o * inv p ((z - o) % p) % p, inv p ((z - o) % p)]))) := by
  have hp := F.pos
  have lt := Int.emod_lt_of_pos (z - o) hp
  obtain ⟨i0, i1, i2⟩ := inv_spec F h lt
  obtain ⟨b, hb⟩ : ∃ b, b = inv p ((z - o) % p) := ⟨_, rfl⟩
  rw [← hb] at i0 i1 i2 ⊢
  have ne : o ≠ z := fun e => by subst e; simp at h
  have ho : oth z (pre ++ [o]) = oth z pre ++ [o] := by rw [oth_app, oth_ne ne]
  have val : ∀ x, pev (nm p (pmul f (trim [-o * b % p, b]))) x % p = pev f x * (b * (x - o)) % p := fun x => by
    rw [pev_nm, pev_pmul]
    refine mulm rfl ?_
    rw [pev_ext (g := [-o * b % p, b]) x fun k => by rw [co_trim]]
    have e : pev [-o * b % p, b] x = -o * b % p + x * b := by simp [pev]
    rw [e, Int.emod_add_emod]
    congr 1
    rw [Int.mul_sub, Int.neg_mul, Int.mul_comm b x, Int.mul_comm b o]; omega
  refine ⟨nm_isP hp _, ?_, ?_, fun r hr => ?_⟩
  · rw [ho, List.length_append, List.length_singleton]
    have l1 := L.len
    have l2 := trim_len [-o * b % p, b]
    simp only [List.length_cons, List.length_nil] at l2
    exact len_of_co (nm_isP hp _) fun k hk => by rw [co_nm, co_pmul_ge f _ k (by omega)]; rfl
  · rw [val, ← mul_mod_r (pev f z), ← mul_mod_r b, i2, ← mul_mod_l, L.at1]
    exact Int.emod_eq_of_lt (by omega) (by have := F.lo; omega)
  · rw [val]
    rw [ho] at hr
    rcases List.mem_append.mp hr with hr | hr
    · rw [← mul_mod_l, L.at0 r hr, Int.zero_mul]; rfl
    · have : r = o := by simpa using hr
      subst this
      simp
theorem fd_lone_ok {p z : Int} (F : Fd p) {xs : List Int} (hr : Red p xs) (z0 : 0 ≤ z) (z1 : z < p) (hl : xs.length ≤ 60) {x : D} (hx : sqD x = some (xs.map D.int)) (hw : ∀ m : Cells, kSeq (.ok x m) = .ok (xs.map D.int) m) : ∃ f, f__law_fd_lone [.int p, x, .int z] m = .ok (.d (tI f)) m ∧ Lone p z xs f := by
  have hp := F.pos
  have hi := F.hi
  have lo := F.lo
  obtain ⟨e, m', k1, rfl, f, s4, s5, rfl, L⟩ := for_ints (g := gSet 4) (b := L__law_fd_lone_1) xs
    (fun pre env m' => m' = m ∧ ∃ f s4 s5, env = [.d (.int p), .d x, .d (.int z), .d (tI f), s4, s5] ∧ Lone p z pre f)
    (by
      rintro pre o post hpre env m' ⟨rfl, f, s4, s5, rfl, L⟩
      have ho := hr o (by rw [hpre]; simp)
      have hlp : pre.length + 1 + post.length = xs.length := by rw [hpre]; simp; omega
      by_cases h : o = z
      · refine ⟨_, [.d (.int p), .d x, .d (.int z), .d (tI f), .d (.int o), s5], m', rfl, ?_, rfl, f, .d (.int o), s5, rfl, ?_⟩
        · simp [L__law_fd_lone_1, h]
        · have e : oth z (pre ++ [o]) = oth z pre := by subst h; rw [oth_app, oth_eq, List.append_nil]
          exact ⟨L.isP, by rw [e]; exact L.len, L.at1, by rw [e]; exact L.at0⟩
      · have d0 : 0 < (z - o) % p := by
          have a := Int.emod_nonneg (z - o) (show p ≠ 0 by omega)
          have : (z - o) % p ≠ 0 := fun e => h (eq_of_mod z0 z1 ho.1 ho.2 e).symm
          omega
        have d1 := Int.emod_lt_of_pos (z - o) hp
        have u := fd_undone_ok (m := m') F d0 d1
        obtain ⟨i0, i1, _⟩ := inv_spec F d0 d1
        have L2 := lone_step F L d0
        obtain ⟨b, hb⟩ : ∃ b, b = inv p ((z - o) % p) := ⟨_, rfl⟩
        rw [← hb] at u i0 i1 L2
        have t1 := fd_trimL (m := m') [-o * b % p, b] (by simp)
        have l1 := L.len
        have l3 : (oth z pre).length ≤ pre.length := List.length_filter_le ..
        have l2 := trim_len [-o * b % p, b]
        simp only [List.length_cons, List.length_nil] at l2
        have t2 := fd_product_ok (m := m') hp (by omega) f (trim [-o * b % p, b]) (by omega) (by omega) L.isP.red
        refine ⟨_, [.d (.int p), .d x, .d (.int z), .d (tI _), .d (.int o), .d (.int b)], m', rfl, ?_, rfl, _, .d (.int o), .d (.int b), rfl, L2⟩
        simp only [lI, List.map_cons, List.map_nil] at t1
        generalize trim [-o * b % p, b] = T at *
        simp [L__law_fd_lone_1, h, ev_mod hp, u, ev_mulR (i := -o) (j := b) (by omega), t1, t2])
    (env := [.d (.int p), .d x, .d (.int z), .d (tI [1]), .un, .un]) (m := m) ⟨rfl, [1], .un, .un, rfl, isP_one F, by simp [oth], by simp [pev]; exact Int.emod_eq_of_lt (by omega) (by omega), fun r hr => by simp [oth] at hr⟩
  refine ⟨f, ?_, L⟩
  simp only [f__law_fd_lone, b__law_fd_lone]
  simp only [tI, List.map_cons, List.map_nil] at k1
  simp [hw, k1]

theorem lone_scaled {p z c : Int} (F : Fd p) {xs f : List Int} (L : Lone p z xs f) : ∀ r, pev (nm p (psc c f)) r % p = c * pev f r % p := fun r => by rw [pev_nm, pev_psc]
/-- what the loop of through holds -/
structure Fth (p : Int) (xs : List Int) (ps : List (Int × Int)) (f : List Int) : Prop where
  isP : IsP p f
  len : f.length ≤ xs.length
  at_ : ∀ q ∈ ps, pev f q.1 % p = q.2
  off : ∀ x ∈ xs, x ∉ ps.map (·.1) → pev f x % p = 0
theorem fd_through_ok {p : Int} (F : Fd p) {ps : List (Int × Int)} (hr : Red p (ps.map (·.1))) (hn : (ps.map (·.1)).Nodup) (hy : Red p (ps.map (·.2))) (hl : ps.length ≤ 60) :
    ∃ f, f__law_fd_through [.int p, .lst (pI ps)] m = .ok (.d (tI f)) m ∧ IsP p f ∧ f.length ≤ ps.length ∧ ∀ q ∈ ps, pev f q.1 % p = q.2 := by
  have hp := F.pos
  have hi := F.hi
  have lo := F.lo
  obtain ⟨xs, hxs⟩ : ∃ xs, xs = ps.map (·.1) := ⟨_, rfl⟩
  have lx : xs.length = ps.length := by rw [hxs, List.length_map]
  have rx : Red p xs := by rw [hxs]; exact hr
  have c := comp_tup (is := [4, 5]) (elt := rVar 4) (env := [.d (.int p), .d (.lst (pI ps)), .un, .un, .un, .un]) (m := m) (fun x : Int × Int => D.tup [.int x.1, .int x.2]) (fun x => [.d (.int p), .d (.lst (pI ps)), .un, .un, .d (.int x.1), .d (.int x.2)]) (F := fun x => .int x.1) ps (fun x _ => ⟨rfl, by simp⟩)
  have e1 : (ps.map fun x => D.int x.1) = xs.map D.int := by rw [hxs, List.map_map]; rfl
  rw [e1] at c
  change compL _ _ _ _ (pI ps) _ = _ at c
  obtain ⟨e, m', k1, rfl, f, s3, s4, s5, rfl, h3, T⟩ := for_take (g := gTupS [4, 5]) (b := L__law_fd_through_1) (ds := pI ps) ps (List.length_map ..)
    (fun pre env m' => m' = m ∧ ∃ f s3 s4 s5, env = [.d (.int p), .d (.lst (pI ps)), .d (tI f), s3, s4, s5] ∧ (s3 = .own (xs.map D.int) ∨ s3 = .d (lI xs)) ∧ Fth p xs pre f)
    (by
      rintro j q d hq hd env m' ⟨rfl, f, s3, s4, s5, rfl, h3, T⟩
      rw [List.getElem?_map, hq] at hd
      cases hd
      obtain ⟨hsp, hjl⟩ := split_at hq
      have hjm : q ∈ ps := List.mem_of_getElem? hq
      have hjlt : j < ps.length := (List.getElem?_eq_some_iff.mp hq).1
      have q1m : q.1 ∈ xs := by rw [hxs]; exact List.mem_map.mpr ⟨q, hjm, rfl⟩
      have r1 := rx q.1 q1m
      have r2 := hy q.2 (List.mem_map.mpr ⟨q, hjm, rfl⟩)
      obtain ⟨g, eg, L⟩ := fd_lone_ok (m := m') (z := q.1) F rx r1.1 r1.2 (by omega) (x := lI xs) rfl (fun m => by simp)
      have gl := L.len
      have ol := oth_len (hxs ▸ hn) q1m
      have t1 := fd_scaled_ok (m := m') (p := p) (c := q.2) hp g (by omega) r2.1 (by omega)
      have l1 := nm_len p (psc q.2 g)
      rw [psc_len] at l1
      have fl := T.len
      have t2 := fd_sum_ok (m := m') hp f (nm p (psc q.2 g)) (by omega) (by omega)
      have val : ∀ x, pev (nm p (padd f (nm p (psc q.2 g)))) x % p = (pev f x + q.2 * pev g x) % p := fun x => by
        rw [pev_nm, pev_padd, Int.add_emod, pev_nm, pev_psc, ← Int.add_emod]
      have nq : q.1 ∉ (ps.take j).map (·.1) := fun hm => by
        have e := hn
        rw [hsp, List.map_append, List.map_cons] at e
        exact (List.nodup_append.mp e).2.2 q.1 hm q.1 (by simp) rfl
      refine ⟨_, [.d (.int p), .d (.lst (pI ps)), .d (tI (nm p (padd f (nm p (psc q.2 g))))), .d (lI xs), .d (.int q.1), .d (.int q.2)], m', rfl, ?_, rfl, nm p (padd f (nm p (psc q.2 g))), .d (lI xs), .d (.int q.1), .d (.int q.2), rfl, .inr rfl, ⟨nm_isP hp _, ?_, fun r hr => ?_, fun x hx hnx => ?_⟩⟩
      · have hS : ∀ s3, (s3 = .own (xs.map D.int) ∨ s3 = .d (lI xs)) → L__law_fd_through_1 [.d (.int p), .d (.lst (pI ps)), .d (tI f), s3, .d (.int q.1), .d (.int q.2)] m' = .ok (.nx [.d (.int p), .d (.lst (pI ps)), .d (tI (nm p (padd f (nm p (psc q.2 g))))), .d (lI xs), .d (.int q.1), .d (.int q.2)]) m' := by
          generalize nm p (padd f (nm p (psc q.2 g))) = A at *
          generalize nm p (psc q.2 g) = B at *
          simp only [lI] at eg
          rintro s3 (rfl | rfl) <;> simp [L__law_fd_through_1, eg, t1, t2]
        exact hS s3 h3
      · have l2 := nm_len p (padd f (nm p (psc q.2 g)))
        rw [padd_len] at l2
        omega
      · rw [val]
        rcases List.mem_append.mp hr with hr | hr
        · have ne : r.1 ≠ q.1 := fun e => nq (e ▸ List.mem_map.mpr ⟨r, hr, rfl⟩)
          have rm : r.1 ∈ xs := by rw [hxs]; exact List.mem_map.mpr ⟨r, List.mem_of_mem_take hr, rfl⟩
          have z := L.at0 r.1 (mem_oth.mpr ⟨rm, ne⟩)
          rw [Int.add_emod, ← mul_mod_r q.2, z, Int.mul_zero, Int.zero_emod, Int.add_zero, mm]
          exact T.at_ r hr
        · have : r = q := by simpa using hr
          subst this
          rw [Int.add_emod, T.off r.1 q1m nq, ← mul_mod_r r.2, L.at1, Int.mul_one, Int.zero_add, mm, Int.emod_eq_of_lt r2.1 r2.2]
      · rw [val]
        rw [List.map_append, List.mem_append, not_or] at hnx
        have ne : x ≠ q.1 := fun e => hnx.2 (by simp [e])
        have z := L.at0 x (mem_oth.mpr ⟨hx, ne⟩)
        rw [Int.add_emod, T.off x hx hnx.1, ← mul_mod_r q.2, z]; simp)
    (env := [.d (.int p), .d (.lst (pI ps)), .d (tI []), .own (xs.map D.int), .un, .un]) (m := m) ⟨rfl, [], .own (xs.map D.int), .un, .un, rfl, .inl rfl, IsP.nil, Nat.zero_le _, (fun q hq => (nomatch hq)), (fun x _ _ => (by rw [pev_nil]; rfl))⟩
  refine ⟨f, ?_, T.isP, by have := T.len; omega, T.at_⟩
  have l : (pI ps).length ≤ 1000000 := by rw [List.length_map]; omega
  generalize pI ps = P at *
  simp only [f__law_fd_through, b__law_fd_through]
  simp only [tI, List.map_nil] at k1
  rcases h3 with rfl | rfl <;> simp [kComp1 l, c, k1]
theorem fd_hiding_ok {p : Int} (F : Fd p) {lot : List Int} (h : ∀ x ∈ lot, 0 < x ∧ x < p) (hn : lot.Nodup) (hl : lot.length ≤ 50) : f__law_fd_hiding [.int p, tI lot] m = .ok (.d (tI (hid p lot))) m := by
  have hp := F.pos
  have lo := F.lo
  have z : (0 : Int) ∉ lot := fun z => by have := h 0 z; omega
  have r0 : Red p (0 :: lot) := red_cons (by omega) (by omega) fun x hx => by have := h x hx; omega
  have nd : (0 :: lot).Nodup := List.nodup_cons.mpr ⟨z, hn⟩
  obtain ⟨f, e, L⟩ := fd_lone_ok (m := m) (z := 0) F r0 (by omega) (by omega) (by rw [List.length_cons]; omega) (x := tI (0 :: lot)) rfl (fun m => by simp)
  have H := hid_ok F h
  have ho := oth_len nd (show (0 : Int) ∈ 0 :: lot by simp)
  rw [List.length_cons] at ho
  have fe : f = hid p lot := agree F.pr L.isP H.isP (0 :: lot) (nodup_pw hp r0 nd) (by have := L.len; rw [List.length_cons]; omega) (by rw [H.len, List.length_cons]; exact Nat.le_refl _) fun r hr => by
    rcases List.mem_cons.mp hr with rfl | hr
    · rw [L.at1, H.at0]
    · rw [H.at_ r hr]
      exact L.at0 r (mem_oth.mpr ⟨List.mem_cons_of_mem _ hr, fun q => z (q ▸ hr)⟩)
  rw [fe] at e
  generalize hid p lot = G at *
  simp only [tI, List.map_cons] at e
  have af : gAdd (.tup [.int 0]) (.tup (lot.map D.int)) = some (.d (.tup (.int 0 :: lot.map D.int))) := by
    show (if _ then _ else _) = _
    rw [if_pos (by simp only [List.length_map, List.length_cons, List.length_nil]; show _ ≤ 1000000; omega)]
    rfl
  simp only [f__law_fd_hiding, b__law_fd_hiding]
  simp [af, e, show lot.length ≤ 1000000 by omega]
/-! ### drawn sequences -/
theorem eraseIdx_map' {α β : Type} (f : α → β) : ∀ (l : List α) (i : Nat), (l.map f).eraseIdx i = (l.eraseIdx i).map f
  | [], i => by simp
  | a :: l, 0 => by simp
  | a :: l, i + 1 => by simp [eraseIdx_map' f l i]
theorem perm_eraseIdx {α : Type} : ∀ (l : List α) (i : Nat) (h : i < l.length), ([l[i]] ++ l.eraseIdx i).Perm l
  | a :: l, 0, _ => by simp
  | a :: l, i + 1, h => by
    have h' : i < l.length := by simpa using h
    have t := perm_eraseIdx l i h'
    simp only [List.getElem_cons_succ, List.eraseIdx_cons_succ]
    refine List.Perm.trans ?_ (t.cons a)
    exact List.Perm.swap ..
theorem mixed_ok {n : Nat} (xs : List Int) (hl : xs.length < 1000) (hD : Dice n m) : ∃ (ys : List Int) (m' : Cells), f__law_mixed [.ref n, lI xs] m = .ok (.fl (ys.map D.int)) m' ∧ ys.Perm xs ∧ Dice n m' ∧ Only n m m' := by
  obtain ⟨e, m', k1, ys, rfl, hp, D1, O1⟩ := sWhile_inv (c := bBool (rBin gNe (rVar 2) (rLst aNil))) (b := L__law_mixed_1)
    (fun k env m' => ∃ left ys : List Int, env = [.d (.ref n), .d (lI xs), .own (left.map D.int), .own (ys.map D.int)] ∧ left.length = k ∧ (ys ++ left).Perm xs ∧ Dice n m' ∧ Only n m m')
    (fun env m' => ∃ ys : List Int, env = [.d (.ref n), .d (lI xs), .own [], .own (ys.map D.int)] ∧ ys.Perm xs ∧ Dice n m' ∧ Only n m m')
    (by
      rintro k env m' ⟨left, ys, rfl, hk, hp, hD, hO⟩
      have hpl := hp.length_eq
      rw [List.length_append] at hpl
      by_cases h : left = []
      · subst h
        refine .inl ⟨m', by simp, ys, rfl, by simpa using hp, hD, hO⟩
      · have l0 : 0 < left.length := List.length_pos_iff.mpr h
        obtain ⟨r, m2, e2, r0, r1, D2, O2⟩ := roll_spec (left.length : Int) hD (by omega) (by omega)
        have rlt : r.toNat < left.length := by omega
        have ne : (left.map D.int).isEmpty = false := by cases left <;> simp at h ⊢
        have pl := plainDs_int 59 left
        refine .inr ⟨m', [.d (.ref n), .d (lI xs), .own ((left.eraseIdx r.toNat).map D.int), .own ((ys ++ [left[r.toNat]]).map D.int)], m2, left.length - 1, by simp [pl, ne], ?_, by omega, left.eraseIdx r.toNat, ys ++ [left[r.toNat]], rfl, by rw [List.length_eraseIdx_of_lt rlt], ?_, D2, hO.trans O2⟩
        · have t := ev_appPop (env := [.d (.ref n), .d (lI xs), .own (left.map D.int), .own (ys.map D.int)]) (m := m') (m1 := m2) (i := 3) (j := 2) (f := rCall 2 f__law_roll (aCons (rVar 0) (aCons (rCB gLen (pCons (rVar 2) aNil)) aNil))) (k := r) (xs := ys.map D.int) (ys := left.map D.int) (y := .int left[r.toNat]) rfl rfl (by decide) (by simp [roll_eq, e2]) r0 (by omega) (by rw [List.getElem?_map, List.getElem?_eq_getElem rlt]; rfl) (by rw [List.length_map]; omega)
          show sAppPop 3 2 _ _ _ = _
          rw [t, eraseIdx_map']
          simp
        · refine List.Perm.trans ?_ hp
          rw [List.append_assoc]
          refine List.Perm.append_left _ ?_
          exact perm_eraseIdx left r.toNat rlt)
    (k := xs.length) (env := [.d (.ref n), .d (lI xs), .own (xs.map D.int), .own []]) (m := m) (by omega) ⟨xs, [], rfl, rfl, by simp, hD, .rfl⟩
  refine ⟨ys, m', ?_, hp, D1, O1⟩
  simp only [f__law_mixed, b__law_mixed]
  simp [show xs.length ≤ 1000000 by omega, k1]
theorem dr_numbers_ok {n : Nat} {p : Int} (F : Fd p) (k : Nat) (hk : k ≤ 1000) (hD : Dice n m) : ∃ ns m', f__law_dr_numbers [.ref n, .int p, .int k] m = .ok (.d (tI ns)) m' ∧ Red p ns ∧ ns.length = k ∧ Dice n m' ∧ Only n m m' := by
  have hi := F.hi
  have lo := F.lo
  obtain ⟨ys, m2, e2, hl, hP, D2, O2⟩ := comp_draw (i := 3) (elt := X__law_dr_numbers_1) (env := [.d (.ref n), .d (.int p), .d (.int k), .un]) (fun m' => Dice n m' ∧ Only n m m') (fun y => ∃ i, y = .int i ∧ (0 ≤ i ∧ i < p)) (rangeD 0 k) m (by
    rintro x hx m ⟨hD, hO⟩
    obtain ⟨a, m2, e2, a0, a1, D2, O2⟩ := roll_spec p hD (by omega)
    obtain ⟨b, m3, e3, b0, b1, D3, O3⟩ := roll_spec p D2 (by omega)
    obtain ⟨y, m4, e4, hy, D4, O4⟩ := pick_spec [.int 0, .int 1, .int (p - 1), .int a, .int b] D3 (by simp)
    refine ⟨y, m4, ?_, ?_, D4, ((hO.trans O2).trans O3).trans O4⟩
    · simp [X__law_dr_numbers_1, roll_eq, pick_eq, e2, e3, e4]
    · simp only [List.mem_cons, List.not_mem_nil, or_false] at hy
      rcases hy with rfl | rfl | rfl | rfl | rfl <;> exact ⟨_, rfl, by omega, by omega⟩) ⟨hD, .rfl⟩
  obtain ⟨ns, rfl, hr⟩ := ints_of hP
  rw [List.length_map, rangeD_len] at hl
  have l : (rangeD 0 (k : Int)).length ≤ 1000000 := by rw [rangeD_len]; omega
  refine ⟨ns, m2, ?_, fun x hx => hr x hx, by omega, D2, O2⟩
  simp only [f__law_dr_numbers, b__law_dr_numbers]
  simp [kRa1_1 (j := (k : Int)) (by omega), kComp1 l, e2, show ns.length ≤ 1000000 by omega]
end Pg
/-! Rows made reduced, step by step (plain mathematics). -/
namespace Po
theorem sumN_mod {p : Int} {F G : Nat → Int} : ∀ {xs : List Nat}, (∀ x ∈ xs, F x % p = G x % p) → (xs.map F).sum % p = (xs.map G).sum % p
  | [], _ => rfl
  | x :: xs, h => by
    rw [List.map_cons, List.map_cons, List.sum_cons, List.sum_cons, Int.add_emod, h x List.mem_cons_self, sumN_mod fun y hy => h y (List.mem_cons_of_mem _ hy), ← Int.add_emod]
theorem sumN_lin (n : Int) (F G : Nat → Int) : ∀ xs : List Nat, (xs.map fun k => F k - n * G k).sum = (xs.map F).sum - n * (xs.map G).sum
  | [] => by simp
  | x :: xs => by
    rw [List.map_cons, List.map_cons, List.map_cons, List.sum_cons, List.sum_cons, List.sum_cons, sumN_lin n F G xs, Int.mul_add]
    omega
theorem sumN_sc (n : Int) (F : Nat → Int) : ∀ xs : List Nat, (xs.map fun k => n * F k).sum = n * (xs.map F).sum
  | [] => by simp
  | x :: xs => by rw [List.map_cons, List.map_cons, List.sum_cons, List.sum_cons, sumN_sc n F xs, Int.mul_add]
theorem sumN_zero {F : Nat → Int} : ∀ {xs : List Nat}, (∀ x ∈ xs, F x = 0) → (xs.map F).sum = 0
  | [], _ => rfl
  | x :: xs, h => by rw [List.map_cons, List.sum_cons, h x List.mem_cons_self, sumN_zero fun y hy => h y (List.mem_cons_of_mem _ hy)]; rfl
theorem sumN_one {F : Nat → Int} {t : Nat} : ∀ {xs : List Nat}, xs.Nodup → t ∈ xs → (∀ x ∈ xs, x ≠ t → F x = 0) → (xs.map F).sum = F t
  | [], _, h, _ => nomatch h
  | x :: xs, hn, h, h0 => by
    rw [List.map_cons, List.sum_cons]
    rw [List.nodup_cons] at hn
    by_cases e : x = t
    · subst e
      rw [sumN_zero fun y hy => h0 y (List.mem_cons_of_mem _ hy) fun z => hn.1 (by rw [← z]; exact hy)]
      omega
    · rw [h0 x List.mem_cons_self e, sumN_one hn.2 ((List.mem_cons.mp h).resolve_left fun z => e z.symm) fun y hy => h0 y (List.mem_cons_of_mem _ hy)]
      omega
/-- the sum of the products of the first w numbers of two rows -/
def dt (w : Nat) (r x : List Int) : Int := ((List.range w).map fun k => co r k * co x k).sum
theorem dt_succ (w : Nat) (r x : List Int) : dt (w + 1) r x = dt w r x + co r w * co x w := by
  unfold dt; rw [List.range_succ, List.map_append, List.sum_append]; simp
theorem dt_congr {p : Int} {w : Nat} {r s x : List Int} (h : ∀ k, k < w → co r k % p = co s k % p) : dt w r x % p = dt w s x % p :=
  sumN_mod fun k hk => by rw [Int.mul_emod, h k (List.mem_range.mp hk), ← Int.mul_emod]
theorem dt_ext {w : Nat} {r x y : List Int} (h : ∀ k, k < w → co x k = co y k) : dt w r x = dt w r y := by
  unfold dt
  congr 1
  exact List.map_congr_left fun k hk => by rw [h k (List.mem_range.mp hk)]
/-- a row less a multiple of another one -/
def el (p n : Int) (h r : List Int) : List Int := List.zipWith (fun a b => (a - n * b) % p) r h
theorem el_len {p n : Int} {h r : List Int} (e : r.length = h.length) : (el p n h r).length = r.length := by
  unfold el; rw [List.length_zipWith]; omega
theorem co_el {p n : Int} {h r : List Int} (e : r.length = h.length) (k : Nat) : co (el p n h r) k = (co r k - n * co h k) % p := by
  by_cases hk : k < r.length
  · rw [co_lt (by rw [el_len e]; exact hk), co_lt hk, co_lt (by omega)]
    simp [el]
  · rw [co_ge (by rw [el_len e]; omega), co_ge (by omega), co_ge (by omega)]
    simp
theorem el_red {p n : Int} (hp : 0 < p) (h r : List Int) : Red p (el p n h r) := fun a ha => by
  unfold el at ha
  obtain ⟨i, hi, rfl⟩ := List.mem_iff_getElem.mp ha
  rw [List.getElem_zipWith]
  exact ⟨Int.emod_nonneg _ (by omega), Int.emod_lt_of_pos _ hp⟩
theorem dt_el {p n : Int} {w : Nat} {h r x : List Int} (e : r.length = h.length) : dt w (el p n h r) x % p = (dt w r x - n * dt w h x) % p := by
  have e1 : dt w r x - n * dt w h x = ((List.range w).map fun k => co r k * co x k - n * (co h k * co x k)).sum := (sumN_lin n _ _ _).symm
  rw [e1]
  refine sumN_mod fun k _ => ?_
  rw [co_el e, Int.mul_emod, Int.emod_emod_of_dvd _ (Int.dvd_refl p), ← Int.mul_emod, Int.sub_mul, Int.mul_assoc]
def sc (p b : Int) (r : List Int) : List Int := r.map fun a => a * b % p
theorem sc_len (p b : Int) (r : List Int) : (sc p b r).length = r.length := List.length_map ..
theorem co_sc (p b : Int) (r : List Int) (k : Nat) : co (sc p b r) k = co r k * b % p := by
  unfold sc
  exact co_map (g := fun a => a * b % p) (by simp) r k
theorem sc_red {p : Int} (hp : 0 < p) (b : Int) (r : List Int) : Red p (sc p b r) := fun a ha => by
  obtain ⟨c, _, rfl⟩ := List.mem_map.mp ha
  exact ⟨Int.emod_nonneg _ (by omega), Int.emod_lt_of_pos _ hp⟩
theorem dt_sc {p b : Int} {w : Nat} {r x : List Int} : dt w (sc p b r) x % p = b * dt w r x % p := by
  have e1 : b * dt w r x = ((List.range w).map fun k => b * (co r k * co x k)).sum := (sumN_sc b _ _).symm
  rw [e1]
  refine sumN_mod fun k _ => ?_
  rw [co_sc, Int.mul_emod, Int.emod_emod_of_dvd _ (Int.dvd_refl p), ← Int.mul_emod, Int.mul_comm (co r k) b, Int.mul_assoc]
/-- rows made reduced up to a column -/
structure GJ (p : Int) (rows : List (List Int)) (w c : Nat) (left found : List (List Int)) (tops : List Nat) : Prop where
  wl : ∀ r ∈ left, r.length = w ∧ Red p r
  wf : ∀ r ∈ found, r.length = w ∧ Red p r
  sol : ∀ x : List Int, (∀ r ∈ left ++ found, dt w r x % p = 0) ↔ ∀ r ∈ rows, dt w r x % p = 0
  zl : ∀ r ∈ left, ∀ k, k < c → co r k = 0
  lt : tops.length = found.length
  asc : tops.Pairwise (· < ·)
  top : ∀ t ∈ tops, t < c
  del : ∀ (i j : Nat) r t, found[i]? = some r → tops[j]? = some t → co r t = if i = j then 1 else 0
  lo : ∀ (i : Nat) r t, found[i]? = some r → tops[i]? = some t → ∀ k, k < t → co r k = 0
  num : left.length + found.length = rows.length
theorem gj_start {p : Int} {rows : List (List Int)} {w : Nat} (h : ∀ r ∈ rows, r.length = w ∧ Red p r) : GJ p rows w 0 rows [] [] where
  wl := h
  wf := fun r hr => nomatch hr
  sol := fun x => by rw [List.append_nil]
  zl := fun r _ k hk => nomatch hk
  lt := rfl
  asc := .nil
  top := fun t ht => nomatch ht
  del := fun i j r t h => by cases h
  lo := fun i r t h => by cases h
  num := rfl
section
variable {p : Int} {rows : List (List Int)} {w c : Nat} {left found : List (List Int)} {tops : List Nat}
theorem GJ.skip (g : GJ p rows w c left found tops) (h : ∀ r ∈ left, co r c = 0) : GJ p rows w (c + 1) left found tops :=
  { g with
    zl := fun r hr k hk => by
      rcases Nat.lt_succ_iff_lt_or_eq.mp hk with q | q
      · exact g.zl r hr k q
      · rw [q]; exact h r hr
    top := fun t ht => Nat.lt_succ_of_lt (g.top t ht) }
theorem GJ.step (g : GJ p rows w c left found tops) (hp : 1 < p) {i : Nat} {first : List Int} (hi : left[i]? = some first) {b : Int} (hb : b * co first c % p = 1) (hc : c < w) :
    GJ p rows w (c + 1) ((left.eraseIdx i).map fun r => el p (co r c) (sc p b first) r) ((found.map fun r => el p (co r c) (sc p b first) r) ++ [sc p b first]) (tops ++ [c]) := by
  obtain ⟨head, hh⟩ : ∃ h, h = sc p b first := ⟨_, rfl⟩
  have hp0 : 0 < p := by omega
  have hfm := List.mem_of_getElem? hi
  obtain ⟨fl, fr⟩ := g.wl first hfm
  have hl : head.length = w := by rw [hh, sc_len, fl]
  have hc1 : co head c = 1 := by rw [hh, co_sc, Int.mul_comm]; exact hb
  have hlo : ∀ k, k < c → co head k = 0 := fun k hk => by rw [hh, co_sc, g.zl first hfm k hk]; simp
  have hmem : ∀ r, r ∈ left ↔ r = first ∨ r ∈ left.eraseIdx i := fun r => by
    have hil := (List.getElem?_eq_some_iff.mp hi).1
    have e : left = left.take i ++ first :: left.drop (i + 1) := by
      have := (List.getElem?_eq_some_iff.mp hi).2
      rw [← this, ← List.drop_eq_getElem_cons hil, List.take_append_drop]
    have e2 : left.eraseIdx i = left.take i ++ left.drop (i + 1) := List.eraseIdx_eq_take_drop_succ ..
    rw [e2]
    constructor
    · intro h
      rw [e] at h
      rcases List.mem_append.mp h with q | q
      · exact .inr (List.mem_append_left _ q)
      · rcases List.mem_cons.mp q with q | q
        · exact .inl q
        · exact .inr (List.mem_append_right _ q)
    · rintro (q | q)
      · rw [q]; exact hfm
      · rcases List.mem_append.mp q with q | q
        · exact List.mem_of_mem_take q
        · exact List.mem_of_mem_drop q
  have lenA : ∀ r ∈ left ++ found, r.length = w := fun r hr => (List.mem_append.mp hr).elim (fun q => (g.wl r q).1) fun q => (g.wf r q).1
  rw [← hh]
  refine ⟨fun r hr => ?_, fun r hr => ?_, fun x => ?_, fun r hr k hk => ?_, ?_, ?_, fun t ht => ?_, fun i' j r t h1 h2 => ?_, fun i' r t h1 h2 k hk => ?_, ?_⟩
  · obtain ⟨s, hs, rfl⟩ := List.mem_map.mp hr
    have := (g.wl s ((hmem s).mpr (.inr hs))).1
    exact ⟨by rw [el_len (by omega)]; exact this, el_red hp0 _ _⟩
  · rcases List.mem_append.mp hr with q | q
    · obtain ⟨s, hs, rfl⟩ := List.mem_map.mp q
      have := (g.wf s hs).1
      exact ⟨by rw [el_len (by omega)]; exact this, el_red hp0 _ _⟩
    · rw [List.mem_singleton.mp q]
      exact ⟨hl, by rw [hh]; exact sc_red hp0 _ _⟩
  · rw [← g.sol x]
    have hd : dt w head x % p = b * dt w first x % p := by rw [hh]; exact dt_sc
    constructor
    · intro H
      have h0 : dt w head x % p = 0 := H head (by simp)
      have old : ∀ r, r.length = w → dt w (el p (co r c) head r) x % p = 0 → dt w r x % p = 0 := fun r hr q => by
        rw [dt_el (by omega)] at q
        rw [Int.sub_emod, Int.mul_emod, h0, Int.mul_zero, Int.zero_emod, Int.sub_zero, Int.emod_emod_of_dvd _ (Int.dvd_refl p)] at q
        exact q
      intro r hr
      rcases List.mem_append.mp hr with q | q
      · rcases (hmem r).mp q with q | q
        · rw [q]
          -- first = first[c] * head
          have : dt w first x % p = (co first c * dt w head x) % p := by
            rw [Int.mul_emod, hd, ← Int.mul_emod, ← Int.mul_assoc, Int.mul_comm (co first c) b, Int.mul_emod, hb, Int.one_mul, Int.emod_emod_of_dvd _ (Int.dvd_refl p)]
          rw [this, Int.mul_emod, h0, Int.mul_zero, Int.zero_emod]
        · exact old r (lenA r hr) (H _ (List.mem_append_left _ (List.mem_map.mpr ⟨r, q, rfl⟩)))
      · exact old r (lenA r hr) (H _ (List.mem_append_right _ (List.mem_append_left _ (List.mem_map.mpr ⟨r, q, rfl⟩))))
    · intro H
      have h0 : dt w head x % p = 0 := by rw [hd, Int.mul_emod, H first (List.mem_append_left _ hfm), Int.mul_zero, Int.zero_emod]
      have new : ∀ r ∈ left ++ found, dt w (el p (co r c) head r) x % p = 0 := fun r hr => by
        rw [dt_el (by have := lenA r hr; omega), Int.sub_emod, H r hr, Int.mul_emod, h0, Int.mul_zero, Int.zero_emod]; rfl
      intro r hr
      rcases List.mem_append.mp hr with q | q
      · obtain ⟨s, hs, rfl⟩ := List.mem_map.mp q
        exact new s (List.mem_append_left _ ((hmem s).mpr (.inr hs)))
      · rcases List.mem_append.mp q with q | q
        · obtain ⟨s, hs, rfl⟩ := List.mem_map.mp q
          exact new s (List.mem_append_right _ hs)
        · rw [List.mem_singleton.mp q]; exact h0
  · obtain ⟨s, hs, rfl⟩ := List.mem_map.mp hr
    have hsl := (hmem s).mpr (.inr hs)
    have := (g.wl s hsl).1
    rw [co_el (by omega)]
    rcases Nat.lt_succ_iff_lt_or_eq.mp hk with q | q
    · rw [g.zl s hsl k q, hlo k q]; simp
    · rw [q, hc1]; simp
  · rw [List.length_append, List.length_append, List.length_map, g.lt]; rfl
  · rw [List.pairwise_append]
    refine ⟨g.asc, List.pairwise_singleton _ _, fun a ha b hb => ?_⟩
    rw [List.mem_singleton.mp hb]
    exact g.top a ha
  · rcases List.mem_append.mp ht with q | q
    · exact Nat.lt_succ_of_lt (g.top t q)
    · rw [List.mem_singleton.mp q]; exact Nat.lt_succ_self c
  · have lm : (found.map fun r => el p (co r c) head r).length = found.length := List.length_map ..
    by_cases hi' : i' < found.length
    · rw [List.getElem?_append_left (by rw [lm]; exact hi'), List.getElem?_map, List.getElem?_eq_getElem hi'] at h1
      cases h1
      have hs : found[i'] ∈ found := List.getElem_mem hi'
      have := (g.wf _ hs).1
      rw [co_el (by omega)]
      by_cases hj : j < tops.length
      · rw [List.getElem?_append_left hj] at h2
        have ht := g.top t (List.mem_of_getElem? h2)
        rw [hlo t ht, Int.mul_zero, Int.sub_zero, g.del i' j _ t (List.getElem?_eq_getElem hi') h2]
        split
        · exact Int.emod_eq_of_lt (by omega) hp
        · exact Int.zero_emod _
      · rw [List.getElem?_append_right (by omega)] at h2
        have : j - tops.length = 0 := by
          have := (List.getElem?_eq_some_iff.mp h2).1
          simp at this
          omega
        rw [this] at h2
        cases h2
        rw [hc1, if_neg (by have := g.lt; omega)]
        simp
    · rw [List.getElem?_append_right (by rw [lm]; omega), lm] at h1
      have h3 : i' - found.length = 0 := by
        have := (List.getElem?_eq_some_iff.mp h1).1
        simp at this
        omega
      rw [h3] at h1
      cases h1
      by_cases hj : j < tops.length
      · rw [List.getElem?_append_left hj] at h2
        rw [hlo t (g.top t (List.mem_of_getElem? h2)), if_neg (by have := g.lt; omega)]
      · rw [List.getElem?_append_right (by omega)] at h2
        have : j - tops.length = 0 := by
          have := (List.getElem?_eq_some_iff.mp h2).1
          simp at this
          omega
        rw [this] at h2
        cases h2
        rw [hc1, if_pos (by have := g.lt; omega)]
  · have lm : (found.map fun r => el p (co r c) head r).length = found.length := List.length_map ..
    by_cases hi' : i' < found.length
    · rw [List.getElem?_append_left (by rw [lm]; exact hi'), List.getElem?_map, List.getElem?_eq_getElem hi'] at h1
      cases h1
      rw [List.getElem?_append_left (by have := g.lt; omega)] at h2
      have hs : found[i'] ∈ found := List.getElem_mem hi'
      have := (g.wf _ hs).1
      have ht := g.top t (List.mem_of_getElem? h2)
      rw [co_el (by omega), g.lo i' _ t (List.getElem?_eq_getElem hi') h2 k hk, hlo k (by omega)]
      simp
    · rw [List.getElem?_append_right (by rw [lm]; omega), lm] at h1
      have h3 : i' - found.length = 0 := by
        have := (List.getElem?_eq_some_iff.mp h1).1
        simp at this
        omega
      rw [h3] at h1
      cases h1
      rw [List.getElem?_append_right (by have := g.lt; omega), show i' - tops.length = 0 by have := g.lt; omega] at h2
      cases h2
      exact hlo k hk
  · have hil := (List.getElem?_eq_some_iff.mp hi).1
    have := g.num
    rw [List.length_map, List.length_eraseIdx, if_pos hil, List.length_append, List.length_map]
    simp
    omega
/-- at the end: a solution, or none -/
theorem GJ.done (g : GJ p rows w w left found tops) (x : List Int) : (∀ r ∈ rows, dt w r x % p = 0) ↔ ∀ r ∈ found, dt w r x % p = 0 := by
  rw [← g.sol x]
  constructor
  · exact fun h r hr => h r (List.mem_append_right _ hr)
  · intro h r hr
    rcases List.mem_append.mp hr with q | q
    · unfold dt
      rw [sumN_zero fun k hk => by rw [g.zl r q k (List.mem_range.mp hk), Int.zero_mul]]
      exact Int.zero_emod _
    · exact h r q
theorem co_last (x : List Int) (a : Int) : co (x ++ [a]) x.length = a := by rw [co_app, if_neg (by omega), Nat.sub_self, co_zero]
theorem GJ.none (g : GJ p rows (w + 1) (w + 1) left found tops) (hp : 1 < p) (h : w ∈ tops) (x : List Int) (hx : x.length = w) : ¬ ∀ r ∈ rows, dt (w + 1) r (x ++ [-1]) % p = 0 := by
  intro H
  rw [g.done] at H
  obtain ⟨i, hi⟩ := List.mem_iff_getElem?.mp h
  have hl : i < found.length := by rw [← g.lt]; exact (List.getElem?_eq_some_iff.mp hi).1
  have hr := List.getElem?_eq_getElem hl
  have q := H _ (List.getElem_mem hl)
  rw [dt_succ] at q
  have z : dt w found[i] (x ++ [-1]) = 0 := sumN_zero fun k hk => by rw [g.lo i _ w hr hi k (List.mem_range.mp hk), Int.zero_mul]
  rw [z, g.del i i _ w hr hi, if_pos rfl] at q
  have e : co (x ++ [-1]) w = -1 := by rw [← hx]; exact co_last x _
  rw [e] at q
  have : (0 + 1 * -1 : Int) % p = p - 1 := by
    have : (0 + 1 * -1 : Int) = (p - 1) + p * (-1) := by rw [Int.mul_neg, Int.mul_one]; omega
    rw [this, Int.add_mul_emod_self_left, Int.emod_eq_of_lt (by omega) (by omega)]
  omega
theorem GJ.some (g : GJ p rows (w + 1) (w + 1) left found tops) (h : w ∉ tops) (x : List Int) (hx : x.length = w) (h1 : ∀ (i : Nat) r t, found[i]? = some r → tops[i]? = some t → co x t = co r w) (h0 : ∀ k, k ∉ tops → co x k = 0) : ∀ r ∈ rows, dt (w + 1) r (x ++ [-1]) % p = 0 := by
  rw [g.done]
  intro r hr
  obtain ⟨i, hi⟩ := List.mem_iff_getElem?.mp hr
  have hl : i < tops.length := by rw [g.lt]; exact (List.getElem?_eq_some_iff.mp hi).1
  have ht := List.getElem?_eq_getElem hl
  have htm := List.getElem_mem hl
  have htw : tops[i] < w := by
    have := g.top _ htm
    rcases Nat.lt_succ_iff_lt_or_eq.mp this with q | q
    · exact q
    · rw [q] at htm; exact absurd htm h
  have e : co (x ++ [-1]) w = -1 := by rw [← hx]; exact co_last x _
  have ex : ∀ k, k < w → co (x ++ [-1]) k = co x k := fun k hk => by rw [co_app, if_pos (by omega)]
  rw [dt_succ, e]
  have z : dt w r (x ++ [-1]) = co r tops[i] * co (x ++ [-1]) tops[i] := sumN_one (t := tops[i]) List.nodup_range (List.mem_range.mpr htw) fun k hk hne => by
    rw [ex k (List.mem_range.mp hk)]
    by_cases hkt : k ∈ tops
    · obtain ⟨j, hj⟩ := List.mem_iff_getElem?.mp hkt
      rw [g.del i j r k hi hj, if_neg, Int.zero_mul]
      intro z
      subst z
      rw [ht] at hj
      cases hj
      exact hne rfl
    · rw [h0 k hkt, Int.mul_zero]
  rw [z, ex _ htw, g.del i i r _ hi ht, if_pos rfl, h1 i r _ hi ht]
  have : (1 * co r w + co r w * -1 : Int) = 0 := by rw [Int.mul_neg]; omega
  rw [this]
  exact Int.zero_emod _
end
/-- what the solver puts together -/
def solv (w : Nat) : List (List Int × Nat) → List Int → List Int
  | [], t => t
  | (r, k) :: qs, t => solv w qs (t.set k (co r w))
theorem solv_len (w : Nat) : ∀ (qs : List (List Int × Nat)) (t : List Int), (solv w qs t).length = t.length
  | [], _ => rfl
  | (r, k) :: qs, t => by rw [solv, solv_len w qs, List.length_set]
theorem solv_not {w k : Nat} : ∀ {qs : List (List Int × Nat)} {t : List Int}, (∀ q ∈ qs, q.2 < t.length) → k ∉ qs.map (·.2) → co (solv w qs t) k = co t k
  | [], _, _, _ => rfl
  | (r, j) :: qs, t, hl, h => by
    rw [List.map_cons, List.mem_cons, not_or] at h
    rw [solv, solv_not (fun q hq => by rw [List.length_set]; exact hl q (List.mem_cons_of_mem _ hq)) h.2, co_set _ _ _ _ (hl (r, j) List.mem_cons_self), if_neg h.1]
theorem solv_at {w : Nat} : ∀ {qs : List (List Int × Nat)} {t : List Int}, (∀ q ∈ qs, q.2 < t.length) → (qs.map (·.2)).Nodup → ∀ {i : Nat} {q : List Int × Nat}, qs[i]? = some q → co (solv w qs t) q.2 = co q.1 w
  | [], _, _, _, i, q, h => by cases h
  | (r, j) :: qs, t, hl, hn, 0, q, h => by
    cases h
    rw [List.map_cons, List.nodup_cons] at hn
    rw [solv, solv_not (fun q hq => by rw [List.length_set]; exact hl q (List.mem_cons_of_mem _ hq)) hn.1, co_set _ _ _ _ (hl (r, j) List.mem_cons_self), if_pos rfl]
  | (r, j) :: qs, t, hl, hn, i + 1, q, h => by
    rw [List.map_cons, List.nodup_cons] at hn
    rw [solv]
    exact solv_at (fun q hq => by rw [List.length_set]; exact hl q (List.mem_cons_of_mem _ hq)) hn.2 (i := i) (by simpa using h)
end Po
namespace Po
theorem solv_app (w : Nat) : ∀ (qs : List (List Int × Nat)) (q : List Int × Nat) (t : List Int), solv w (qs ++ [q]) t = (solv w qs t).set q.2 (co q.1 w)
  | [], _, _ => rfl
  | (r, k) :: qs, q, t => by rw [List.cons_append, solv, solv, solv_app w qs q]
theorem solv_red {p : Int} {w : Nat} : ∀ {qs : List (List Int × Nat)} {t : List Int}, (∀ q ∈ qs, 0 ≤ co q.1 w ∧ co q.1 w < p) → Red p t → Red p (solv w qs t)
  | [], _, _, h => h
  | (r, k) :: qs, t, hq, h => by
    rw [solv]
    refine solv_red (fun q hm => hq q (List.mem_cons_of_mem _ hm)) fun a ha => ?_
    rcases List.mem_or_eq_of_mem_set ha with z | z
    · exact h a z
    · rw [z]; exact hq (r, k) List.mem_cons_self
theorem dt_left {w : Nat} {r s x : List Int} (h : ∀ k, k < w → co r k = co s k) : dt w r x = dt w s x := by
  unfold dt
  congr 1
  exact List.map_congr_left fun k hk => by rw [h k (List.mem_range.mp hk)]
theorem dt_aug {p : Int} {w : Nat} {r x : List Int} {g : Int} (hr : r.length = w) (hx : x.length = w) : dt (w + 1) (r ++ [g]) (x ++ [-1]) % p = 0 ↔ dt w r x % p = g % p := by
  have e1 : co (x ++ [-1]) w = -1 := by rw [← hx]; exact co_last x _
  have e2 : co (r ++ [g]) w = g := by rw [← hr]; exact co_last r _
  have e3 : dt w (r ++ [g]) (x ++ [-1]) = dt w r x := by
    rw [dt_left (s := r) fun k hk => by rw [co_app, if_pos (by omega)]]
    exact dt_ext fun k hk => by rw [co_app, if_pos (by omega)]
  rw [dt_succ, e1, e2, e3]
  constructor
  · intro h
    have : dt w r x + g * -1 = dt w r x - g := by rw [Int.mul_neg]; omega
    rw [this] at h
    exact Int.emod_eq_emod_iff_emod_sub_eq_zero.mpr h
  · intro h
    have : dt w r x + g * -1 = dt w r x - g := by rw [Int.mul_neg]; omega
    rw [this]
    exact Int.emod_eq_emod_iff_emod_sub_eq_zero.mp h
end Po
/-! Pg: the laws' own reduced rows and solver. -/
namespace Pg
open PySem PySem.Spec L2 Ev Po
variable {m : Cells}
abbrev rI (r : List Int) : Cell := .lst (r.map D.int)
def RowsAt (m : Cells) (refs : List Nat) (rows : List (List Int)) : Prop := refs.map (fun n => m[n]?) = rows.map fun r => some (rI r)
theorem RowsAt.len {refs : List Nat} {rows : List (List Int)} (h : RowsAt m refs rows) : refs.length = rows.length := by
  have := congrArg List.length h
  simpa using this
theorem RowsAt.get {refs : List Nat} {rows : List (List Int)} (h : RowsAt m refs rows) {i n : Nat} {r : List Int} (h1 : refs[i]? = some n) (h2 : rows[i]? = some r) : m[n]? = some (rI r) := by
  have := congrArg (fun l => l[i]?) h
  simpa [h1, h2] using this
theorem RowsAt.cong {m' : Cells} {refs : List Nat} {rows : List (List Int)} (h : RowsAt m refs rows) (k : ∀ n ∈ refs, m'[n]? = m[n]?) : RowsAt m' refs rows := by
  unfold RowsAt at h ⊢
  rw [← h]
  exact List.map_congr_left k
theorem RowsAt.erase {refs : List Nat} {rows : List (List Int)} (h : RowsAt m refs rows) (i : Nat) : RowsAt m (refs.eraseIdx i) (rows.eraseIdx i) := by
  unfold RowsAt at h ⊢
  rw [← eraseIdx_map', ← eraseIdx_map', h]
theorem RowsAt.mk {refs : List Nat} {rows : List (List Int)} (hl : refs.length = rows.length) (h : ∀ (i n : Nat) r, refs[i]? = some n → rows[i]? = some r → m[n]? = some (rI r)) : RowsAt m refs rows := by
  unfold RowsAt
  refine List.ext_getElem? fun i => ?_
  rw [List.getElem?_map, List.getElem?_map]
  by_cases hi : i < refs.length
  · have h1 := List.getElem?_eq_getElem hi
    have h2 := List.getElem?_eq_getElem (show i < rows.length by omega)
    rw [h1, h2]
    exact congrArg some (h i _ _ h1 h2)
  · rw [List.getElem?_eq_none (by omega), List.getElem?_eq_none (by omega)]; rfl
theorem col_row {p : Int} {c n h : Nat} {row head : List Int} {s1 s2 s3 s4 s6 s7 s8 s10 s12 s13 : Slot} (hp : 0 < p) (hp2 : p < 1000000) (hn : m[n]? = some (rI row)) (hh : m[h]? = some (rI head)) (ne : n ≠ h) (hl : row.length = head.length) (hc : c < row.length) (hl2 : row.length < 1000) (hr : Red p head) :
    ∃ t12 t13, L__law_fd_columns_2 [.d (.int p), s1, s2, s3, s4, .d (.int c), s6, s7, s8, .d (.ref h), s10, .d (.ref n), s12, s13] m = .ok (.nx [.d (.int p), s1, s2, s3, s4, .d (.int c), s6, s7, s8, .d (.ref h), s10, .d (.ref n), t12, t13]) (m.set n (rI (el p (co row c) head row))) := by
  obtain ⟨x, hx⟩ : ∃ x, x = co row c := ⟨_, rfl⟩
  obtain ⟨e, m', k1, rfl, s, rfl⟩ := for_range (g := gSet 13) (b := L__law_fd_columns_1) 0 (row.length : Int)
    (fun j env m' => m' = m.set n (rI ((el p x head row).take j ++ row.drop j)) ∧ ∃ s, env = [.d (.int p), s1, s2, s3, s4, .d (.int c), s6, s7, s8, .d (.ref h), s10, .d (.ref n), .d (.int x), s])
    (by
      rintro j hj env m' ⟨rfl, s, rfl⟩
      have hj : j < row.length := by omega
      obtain ⟨cur, hcur⟩ : ∃ cur, cur = (el p x head row).take j ++ row.drop j := ⟨_, rfl⟩
      have le := el_len (p := p) (n := x) hl
      have lt : ((el p x head row).take j).length = j := by rw [List.length_take]; omega
      have lc : cur.length = row.length := by rw [hcur, List.length_append, lt, List.length_drop]; omega
      have cj : co cur j = co row j := by
        rw [hcur, co_app, if_neg (by omega), lt, Nat.sub_self]
        unfold co
        rw [List.getD, List.getElem?_drop, Nat.add_zero]
        rfl
      rw [← hcur]
      have g1 : (m.set n (rI cur))[n]? = some (.lst (cur.map D.int)) := set_same hn
      have g2 : (m.set n (rI cur))[h]? = some (.lst (head.map D.int)) := by rw [List.getElem?_set_ne ne]; exact hh
      have a1 := atI_nn (ns := cur) (i := (j : Int)) (by omega) (by omega)
      have a2 := atI_nn (ns := head) (i := (j : Int)) (by omega) (by omega)
      have a3 := ixN_ok (n := cur.length) (i := (j : Int)) (by omega) (by omega)
      rw [Int.toNat_natCast] at a1 a2 a3
      have hrj : 0 ≤ co head j ∧ co head j < p := by rw [co_lt (by omega)]; exact hr _ (List.getElem_mem _)
      refine ⟨_, [.d (.int p), s1, s2, s3, s4, .d (.int c), s6, s7, s8, .d (.ref h), s10, .d (.ref n), .d (.int x), .d (.int j)], m.set n (rI (cur.set j ((co row j - x * co head j) % p))), rfl, ?_, ?_, .d (.int j), rfl⟩
      · simp [L__law_fd_columns_1, g1, g2, a1, a2, a3, cj, ev_mulR (i := x) (j := co head j) (by omega), ev_mod hp, rI, List.map_set]
      · rw [hcur]
        congr 2
        have e1 : (el p x head row)[j]? = some ((co row j - x * co head j) % p) := by
          rw [List.getElem?_eq_getElem (by omega), ← co_lt (by omega), co_el hl]
        rw [List.set_append_right _ _ (by omega), lt, Nat.sub_self, List.drop_eq_getElem_cons hj, List.set_cons_zero, List.take_succ, e1]
        simp)
    (env := [.d (.int p), s1, s2, s3, s4, .d (.int c), s6, s7, s8, .d (.ref h), s10, .d (.ref n), .d (.int x), s13]) (m := m) ⟨by
      have : m.set n (rI ((el p x head row).take 0 ++ row.drop 0)) = m := by
        rw [List.take_zero, List.drop_zero, List.nil_append]
        obtain ⟨hlt, e⟩ := List.getElem?_eq_some_iff.mp hn
        rw [← e, List.set_getElem_self]
      exact this.symm, s13, rfl⟩
  refine ⟨.d (.int x), s, ?_⟩
  have lc := ev_lenC (i := 11) (env := [.d (.int p), s1, s2, s3, s4, .d (.int c), s6, s7, s8, .d (.ref h), s10, .d (.ref n), .d (.int x), s13]) (m := m) rfl hn
  rw [List.length_map] at lc
  have a1 := atI_nn (ns := row) (i := (c : Int)) (by omega) (by omega)
  rw [Int.toNat_natCast, ← hx] at a1
  rw [show ((row.length : Int) - 0).toNat = row.length by omega, List.take_of_length_le (by rw [el_len hl]; omega), List.drop_length, List.append_nil] at k1
  simp only [L__law_fd_columns_2]
  simp [hn, a1, lc, kRa1_1 (j := (row.length : Int)) (by omega), k1, ← hx]
theorem col_crew {p : Int} {c h a : Nat} {head : List Int} {refs : List Nat} {rows : List (List Int)} {s1 s2 s3 s4 s6 s7 s8 s11 s12 s13 : Slot} (hp : 0 < p) (hp2 : p < 1000000) (hh : m[h]? = some (rI head)) (ha : m[a]? = some (.lst (refs.map D.ref))) (R : RowsAt m refs rows) (hn : refs.Nodup) (hnh : h ∉ refs) (hna : a ∉ refs) (hl : ∀ r ∈ rows, r.length = head.length) (hc : c < head.length) (hl2 : head.length < 1000) (hr : Red p head) :
    ∃ t11 t12 t13 m', L__law_fd_columns_3 [.d (.int p), s1, s2, s3, s4, .d (.int c), s6, s7, s8, .d (.ref h), .d (.ref a), s11, s12, s13] m = .ok (.nx [.d (.int p), s1, s2, s3, s4, .d (.int c), s6, s7, s8, .d (.ref h), .d (.ref a), t11, t12, t13]) m' ∧
      m'.length = m.length ∧ (∀ k, k ∉ refs → m'[k]? = m[k]?) ∧ RowsAt m' refs (rows.map fun r => el p (co r c) head r) := by
  have hll := R.len
  obtain ⟨e, m', k1, k2, k3, k4, t11, t12, t13, rfl⟩ := forC_inv (gd := some (a, refs.map D.ref)) (g := gSet 11) (b := L__law_fd_columns_2)
    (fun j env m' => m'.length = m.length ∧ (∀ k, k ∉ refs → m'[k]? = m[k]?) ∧ RowsAt m' refs (((rows.take j).map fun r => el p (co r c) head r) ++ rows.drop j) ∧ ∃ t11 t12 t13, env = [.d (.int p), s1, s2, s3, s4, .d (.int c), s6, s7, s8, .d (.ref h), .d (.ref a), t11, t12, t13])
    (fun j env m' ⟨_, hk, _⟩ => (hk a hna).trans ha)
    (ds := refs.map D.ref) (k := 0) (env := [.d (.int p), s1, s2, s3, s4, .d (.int c), s6, s7, s8, .d (.ref h), .d (.ref a), s11, s12, s13]) (m := m)
    (by
      rintro j x env m' hj ⟨i1, i2, i3, t11, t12, t13, rfl⟩
      rw [Nat.zero_add] at i3 ⊢
      rw [List.getElem?_map] at hj
      obtain ⟨n, hjn, rfl⟩ := Option.map_eq_some_iff.mp hj
      have hjl := (List.getElem?_eq_some_iff.mp hjn).1
      have hrow := List.getElem?_eq_getElem (show j < rows.length by omega)
      obtain ⟨row, hrw⟩ : ∃ row, row = rows[j] := ⟨_, rfl⟩
      rw [← hrw] at hrow
      have hmem : row ∈ rows := List.mem_of_getElem? hrow
      have lt : ((rows.take j).map fun r => el p (co r c) head r).length = j := by rw [List.length_map, List.length_take]; omega
      have g1 : m'[n]? = some (rI row) := i3.get hjn (by rw [List.getElem?_append_right (by omega), lt, Nat.sub_self, List.getElem?_drop, Nat.add_zero]; exact hrow)
      have g2 : m'[h]? = some (rI head) := (i2 h hnh).trans hh
      have nm : n ∈ refs := List.mem_of_getElem? hjn
      obtain ⟨u12, u13, e1⟩ := col_row (s1 := s1) (s2 := s2) (s3 := s3) (s4 := s4) (s6 := s6) (s7 := s7) (s8 := s8) (s10 := .d (.ref a)) (s12 := t12) (s13 := t13) hp hp2 g1 g2 (fun z => hnh (z ▸ nm)) (hl row hmem) (by rw [hl row hmem]; exact hc) (by rw [hl row hmem]; exact hl2) hr
      refine ⟨_, _, _, rfl, e1, by rw [List.length_set]; exact i1, fun k hk => ?_, ?_, _, _, _, rfl⟩
      · rw [List.getElem?_set_ne (fun z => hk (by rw [← z]; exact nm))]
        exact i2 k hk
      · have la : ((rows.take j).map (fun r => el p (co r c) head r) ++ rows.drop j).length = rows.length := by rw [List.length_append, lt, List.length_drop]; omega
        refine .mk (by rw [List.length_append, List.length_map, List.length_take, List.length_drop]; omega) fun i n' r h1 h2 => ?_
        by_cases hi : i = j
        · subst hi
          rw [hjn] at h1
          cases h1
          rw [set_same g1]
          rw [List.getElem?_append_left (by rw [List.length_map, List.length_take]; omega), List.getElem?_map, List.getElem?_take, if_pos (by omega), hrow] at h2
          cases h2
          rfl
        · have hne : n' ≠ n := fun z => by
            subst z
            exact hi ((List.getElem?_inj (List.getElem?_eq_some_iff.mp h1).1 hn).mp (h1.trans hjn.symm))
          rw [List.getElem?_set_ne (fun z => hne z.symm)]
          refine i3.get h1 ?_
          by_cases hij : i < j
          · rw [List.getElem?_append_left (by rw [List.length_map, List.length_take]; omega), List.getElem?_map, List.getElem?_take, if_pos (by omega)] at h2
            rw [List.getElem?_append_left (by omega), List.getElem?_map, List.getElem?_take, if_pos hij]
            exact h2
          · rw [List.getElem?_append_right (by rw [List.length_map, List.length_take]; omega), List.length_map, List.length_take, List.getElem?_drop] at h2
            rw [List.getElem?_append_right (by omega), lt, List.getElem?_drop]
            rw [← h2]
            congr 1
            omega)
    ⟨rfl, fun _ _ => rfl, by simpa using R, s11, s12, s13, rfl⟩
  refine ⟨t11, t12, t13, m', ?_, k2, k3, ?_⟩
  · simp only [L__law_fd_columns_3]
    simp [ha, k1]
  · rw [Nat.zero_add, List.length_map, hll, List.take_length, List.drop_length, List.append_nil] at k4
    exact k4
structure Cw (p : Int) (rows : List (List Int)) (w c L : Nat) (m0 : Cells) (a b t : Nat) (m : Cells) (left found : List (List Int)) (tops lr fr : List Nat) : Prop where
  ga : m[a]? = some (.lst (lr.map D.ref))
  gb : m[b]? = some (.lst (fr.map D.ref))
  gt : m[t]? = some (.lst (tops.map fun k => D.int (k : Nat)))
  rl : RowsAt m lr left
  rf : RowsAt m fr found
  nd : (lr ++ fr).Nodup
  na : a ∉ lr ++ fr
  nb : b ∉ lr ++ fr
  nt : t ∉ lr ++ fr
  lo : ∀ n ∈ lr ++ fr, L ≤ n
  base : ∀ k, k < L → m[k]? = m0[k]?
  gj : GJ p rows w c left found tops
theorem enum_idx (lr : List Nat) : enumD (lr.map D.ref) = lr.zipIdx.map fun q => D.tup [.int (q.2 : Nat), .ref q.1] := by
  refine List.ext_getElem? fun i => ?_
  unfold enumD zipD
  rw [List.getElem?_zipWith, rangeD_get, List.getElem?_map, List.getElem?_map, List.getElem?_zipIdx, List.length_map]
  by_cases hi : i < lr.length
  · rw [if_pos (by omega), List.getElem?_eq_getElem hi]
    simp
  · rw [if_neg (by omega), List.getElem?_eq_none (by omega)]
    simp
theorem RowsAt.lt {refs : List Nat} {rows : List (List Int)} (h : RowsAt m refs rows) {n : Nat} (hn : n ∈ refs) : n < m.length := by
  obtain ⟨i, hi⟩ := List.mem_iff_getElem?.mp hn
  have hl := (List.getElem?_eq_some_iff.mp hi).1
  have := h.get hi (List.getElem?_eq_getElem (show i < rows.length by rw [← h.len]; exact hl))
  exact (List.getElem?_eq_some_iff.mp this).1
theorem mem_idx {lr : List Nat} {q : Nat × Nat} (h : q ∈ lr.zipIdx) : lr[q.2]? = some q.1 := by
  obtain ⟨i, hi⟩ := List.mem_iff_getElem?.mp h
  rw [List.getElem?_zipIdx] at hi
  obtain ⟨x, hx, rfl⟩ := Option.map_eq_some_iff.mp hi
  simpa using hx
theorem idx_mem {lr : List Nat} {i n : Nat} (h : lr[i]? = some n) : (n, i) ∈ lr.zipIdx := by
  refine List.mem_iff_getElem?.mpr ⟨i, ?_⟩
  rw [List.getElem?_zipIdx, h]
  simp
theorem atI_head (x : D) (xs : List D) : atI (x :: xs) 0 = some x := by
  unfold atI ixN
  simp
theorem col_step {p : Int} {rows : List (List Int)} {w c L a b t : Nat} {m0 : Cells} {left found : List (List Int)} {tops lr fr : List Nat} {s1 s5 s6 s7 s8 s9 s10 s11 s12 s13 : Slot} (F : Fd p) (C : Cw p rows w c L m0 a b t m left found tops lr fr) (hab : a ≠ b) (hat : a ≠ t) (hbt : b ≠ t) (ha : L ≤ a) (hb : L ≤ b) (ht : L ≤ t) (hc : c < w) (hw : w < 1000) (hrows : rows.length < 1000) :
    ∃ t6 t7 t8 t9 t10 t11 t12 t13 m' left' found' tops' lr' fr', L__law_fd_columns_4 [.d (.int p), s1, .d (.ref a), .d (.ref b), .d (.ref t), .d (.int c), s6, s7, s8, s9, s10, s11, s12, s13] m = .ok (.nx [.d (.int p), s1, .d (.ref a), .d (.ref b), .d (.ref t), .d (.int c), t6, t7, t8, t9, t10, t11, t12, t13]) m' ∧ Cw p rows w (c + 1) L m0 a b t m' left' found' tops' lr' fr' := by
  have hp := F.pos
  have hi := F.hi
  have lo := F.lo
  have hll := C.rl.len
  have hfl := C.rf.len
  have num := C.gj.num
  -- the rows with a number other than 0
  obtain ⟨P, hP⟩ : ∃ P : Nat × Nat → Bool, P = fun q => !decide (co (left.getD q.2 []) c = 0) := ⟨_, rfl⟩
  have e1 := compC_if (gd := some (a, lr.map D.ref)) (tg := gTupS [13, 11]) (c := Y__law_fd_columns_1) (elt := rVar 13) (env := [.d (.int p), s1, .d (.ref a), .d (.ref b), .d (.ref t), .d (.int c), s6, s7, s8, s9, s10, .un, s12, .un]) (m := m)
    (fun q : Nat × Nat => D.tup [.int (q.2 : Nat), .ref q.1]) (fun q => [.d (.int p), s1, .d (.ref a), .d (.ref b), .d (.ref t), .d (.int c), s6, s7, s8, s9, s10, .d (.ref q.1), s12, .d (.int (q.2 : Nat))]) (P := P) (F := fun q => D.int (q.2 : Nat)) C.ga lr.zipIdx
    (fun q hq => by simp)
    (fun q hq => by
      have h1 := mem_idx hq
      have h2 := (List.getElem?_eq_some_iff.mp h1).1
      have h3 := List.getElem?_eq_getElem (show q.2 < left.length by omega)
      have g1 := C.rl.get h1 h3
      have hrw := (C.gj.wl _ (List.getElem_mem (show q.2 < left.length by omega))).1
      have a1 := atI_nn (ns := left[q.2]) (i := (c : Int)) (by omega) (by omega)
      rw [Int.toNat_natCast] at a1
      have hg : left.getD q.2 [] = left[q.2] := by simp [List.getD, h3]
      subst hP
      simp [Y__law_fd_columns_1, g1, a1, h3])
    (fun q hq _ => by simp)
  have hz : (lr.zipIdx).length = lr.length := List.length_zipIdx
  have zl : ∀ r ∈ left, r.length = w := fun r hr => (C.gj.wl r hr).1
  cases hf : (lr.zipIdx).filter P with
  | nil =>
    rw [hf] at e1
    refine ⟨.own [], s7, s8, s9, s10, s11, s12, s13, m, left, found, tops, lr, fr, ?_, { C with gj := C.gj.skip fun r hr => ?_ }⟩
    · simp only [L__law_fd_columns_4]
      simp [C.ga, enum_idx, hz, show lr.length ≤ 1000000 by omega, e1]
    · obtain ⟨i, hi⟩ := List.mem_iff_getElem?.mp hr
      have h1 := (List.getElem?_eq_some_iff.mp hi).1
      have h2 := List.getElem?_eq_getElem (show i < lr.length by omega)
      have h3 := List.filter_eq_nil_iff.mp hf _ (idx_mem h2)
      rw [hP] at h3
      simpa [List.getD, hi] using h3
  | cons q rest =>
    rw [hf] at e1
    have hq : q ∈ (lr.zipIdx).filter P := by rw [hf]; exact List.mem_cons_self
    obtain ⟨hq1, hq2⟩ := List.mem_filter.mp hq
    have h1 := mem_idx hq1
    obtain ⟨n, i⟩ := q
    dsimp only at h1
    have hil := (List.getElem?_eq_some_iff.mp h1).1
    obtain ⟨first, hfi⟩ : ∃ first, left[i]? = some first := ⟨_, List.getElem?_eq_getElem (show i < left.length by omega)⟩
    have hfm := List.mem_of_getElem? hfi
    obtain ⟨fw, fr_⟩ := C.gj.wl first hfm
    have fne : co first c ≠ 0 := by
      rw [hP] at hq2
      simpa [List.getD, hfi] using hq2
    have gn := C.rl.get h1 hfi
    have nmem : n ∈ lr := List.mem_of_getElem? h1
    have nlt := C.rl.lt nmem
    have nla : n ≠ a := fun z => C.na (by rw [← z]; exact List.mem_append_left _ nmem)
    have fc : 0 < co first c ∧ co first c < p := by
      have := fr_ _ (List.getElem_mem (show c < first.length by omega))
      rw [← co_lt] at this
      omega
    -- the steps
    obtain ⟨m1, hm1⟩ : ∃ m1, m1 = m.set a (.lst ((lr.eraseIdx i).map D.ref)) := ⟨_, rfl⟩
    have l1 : m1.length = m.length := by rw [hm1, List.length_set]
    have gn1 : m1[n]? = some (.lst (first.map D.int)) := by rw [hm1, List.getElem?_set_ne (fun z => nla z.symm)]; exact gn
    obtain ⟨bk, hbk⟩ : ∃ bk, bk = inv p (co first c) := ⟨_, rfl⟩
    obtain ⟨b0, b1, b2⟩ := inv_spec F fc.1 fc.2
    rw [← hbk] at b0 b1 b2
    have u := fd_undone_ok (m := m1) F fc.1 fc.2
    rw [← hbk] at u
    have a1 := atI_nn (ns := first) (i := (c : Int)) (by omega) (by omega)
    rw [Int.toNat_natCast] at a1
    obtain ⟨head, hh⟩ : ∃ head, head = sc p bk first := ⟨_, rfl⟩
    have hhl : head.length = w := by rw [hh, sc_len, fw]
    have e2 := compC_if (gd := some (n, first.map D.int)) (tg := gSet 12) (c := bYes) (elt := X__law_fd_columns_2) (env := [.d (.int p), s1, .d (.ref a), .d (.ref b), .d (.ref t), .d (.int c), .own ((D.int (i : Nat)) :: rest.map fun q => D.int (q.2 : Nat)), .d (.ref n), .d (.int bk), s9, s10, s11, .un, s13]) (m := m1)
      D.int (fun x => [.d (.int p), s1, .d (.ref a), .d (.ref b), .d (.ref t), .d (.int c), .own ((D.int (i : Nat)) :: rest.map fun q => D.int (q.2 : Nat)), .d (.ref n), .d (.int bk), s9, s10, s11, .d (.int x), s13]) (P := fun _ => true) (F := fun x => D.int (x * bk % p)) gn1 first
      (fun x hx => by simp)
      (fun x hx => by simp)
      (fun x hx _ => by simp [X__law_fd_columns_2, ev_mulR (i := x) (j := bk) (by omega), ev_mod hp])
    have e2' : (first.filter fun _ => true).map (fun x => D.int (x * bk % p)) = head.map D.int := by
      rw [List.filter_eq_self.mpr fun _ _ => rfl, hh]
      unfold sc
      rw [List.map_map]
      rfl
    rw [e2'] at e2
    obtain ⟨m2, hm2⟩ : ∃ m2, m2 = m1 ++ [rI head] := ⟨_, rfl⟩
    have old2 : ∀ k, k < m.length → m2[k]? = m1[k]? := fun k hk => by rw [hm2, List.getElem?_append_left (by omega)]
    have gh2 : m2[m1.length]? = some (rI head) := by rw [hm2]; simp
    have na' := fun k hk => (C.rl.lt (n := k) hk : k < m.length)
    have nf' := fun k hk => (C.rf.lt (n := k) hk : k < m.length)
    have sub : ∀ k, k ∈ lr.eraseIdx i → k ∈ lr := fun k hk => (List.eraseIdx_sublist lr i).subset hk
    have alt := (List.getElem?_eq_some_iff.mp C.ga).1
    have blt := (List.getElem?_eq_some_iff.mp C.gb).1
    have tlt := (List.getElem?_eq_some_iff.mp C.gt).1
    have ndl := (List.nodup_append.mp C.nd).1
    have ndf := (List.nodup_append.mp C.nd).2.1
    have ndx : ∀ k, k ∈ lr → k ∈ fr → False := fun k h1 h2 => (List.nodup_append.mp C.nd).2.2 k h1 k h2 rfl
    have naL : a ∉ lr := fun z => C.na (List.mem_append_left _ z)
    have naF : a ∉ fr := fun z => C.na (List.mem_append_right _ z)
    have nbL : b ∉ lr := fun z => C.nb (List.mem_append_left _ z)
    have nbF : b ∉ fr := fun z => C.nb (List.mem_append_right _ z)
    have ntL : t ∉ lr := fun z => C.nt (List.mem_append_left _ z)
    have ntF : t ∉ fr := fun z => C.nt (List.mem_append_right _ z)
    have hrd : Red p head := by rw [hh]; exact sc_red hp _ _
    have m2_of : ∀ k, k < m.length → k ≠ a → m2[k]? = m[k]? := fun k hk hka => by rw [old2 k hk, hm1, List.getElem?_set_ne (fun z => hka z.symm)]
    have ga2 : m2[a]? = some (.lst ((lr.eraseIdx i).map D.ref)) := by rw [old2 a alt, hm1]; exact set_same C.ga
    have R2 : RowsAt m2 (lr.eraseIdx i) (left.eraseIdx i) := (C.rl.erase i).cong fun k hk => m2_of k (na' k (sub k hk)) fun z => naL (z ▸ sub k hk)
    obtain ⟨v11, v12, v13, m3, k3, l3, old3, R3⟩ := col_crew (p := p) (c := c) (s1 := s1) (s2 := .d (.ref a)) (s3 := .d (.ref b)) (s4 := .d (.ref t)) (s6 := .own ((D.int (i : Nat)) :: rest.map fun q => D.int (q.2 : Nat))) (s7 := .d (.ref n)) (s8 := .d (.int bk)) (s11 := s11) (s12 := s12) (s13 := s13) hp (by omega) gh2 ga2 R2 (ndl.sublist (List.eraseIdx_sublist lr i)) (fun z => by have := na' _ (sub _ z); omega) (fun z => naL (sub a z)) (fun r hr => by rw [hhl]; exact zl r ((List.eraseIdx_sublist left i).subset hr)) (by omega) (by omega) hrd
    have len2 : m2.length = m.length + 1 := by rw [hm2, List.length_append, l1]; rfl
    have m3_of : ∀ k, k < m.length → k ≠ a → k ∉ lr → m3[k]? = m[k]? := fun k hk hka hkl => by rw [old3 k fun z => hkl (sub k z), m2_of k hk hka]
    have gh3 : m3[m1.length]? = some (rI head) := by rw [old3 _ (fun z => by have := na' _ (sub _ z); omega)]; exact gh2
    have gb3 : m3[b]? = some (.lst (fr.map D.ref)) := by rw [m3_of b blt (fun z => hab z.symm) nbL]; exact C.gb
    have R3f : RowsAt m3 fr found := C.rf.cong fun k hk => m3_of k (nf' k hk) (fun z => naF (z ▸ hk)) fun z => ndx k z hk
    obtain ⟨w11, w12, w13, m4, k4, l4, old4, R4⟩ := col_crew (p := p) (c := c) (s1 := s1) (s2 := .d (.ref a)) (s3 := .d (.ref b)) (s4 := .d (.ref t)) (s6 := .own ((D.int (i : Nat)) :: rest.map fun q => D.int (q.2 : Nat))) (s7 := .d (.ref n)) (s8 := .d (.int bk)) (s11 := v11) (s12 := v12) (s13 := v13) hp (by omega) gh3 gb3 R3f ndf (fun z => by have := nf' _ z; omega) nbF (fun r hr => by rw [hhl]; exact (C.gj.wf r hr).1) (by omega) (by omega) hrd
    have gb4 : m4[b]? = some (.lst (fr.map D.ref)) := by rw [old4 b nbF]; exact gb3
    have gt4 : m4[t]? = some (.lst (tops.map fun k => D.int (k : Nat))) := by rw [old4 t ntF, m3_of t tlt (fun z => hat z.symm) ntL]; exact C.gt
    have ga4 : m4[a]? = some (.lst ((lr.eraseIdx i).map D.ref)) := by rw [old4 a naF, old3 a fun z => naL (sub a z)]; exact ga2
    have gh4 : m4[m1.length]? = some (rI head) := by rw [old4 _ (fun z => by have := nf' _ z; omega)]; exact gh3
    obtain ⟨m5, hm5⟩ : ∃ m5, m5 = m4.set b (.lst (fr.map D.ref ++ [.ref m1.length])) := ⟨_, rfl⟩
    have gt5 : m5[t]? = some (.lst (tops.map fun k => D.int (k : Nat))) := by rw [hm5, List.getElem?_set_ne hbt]; exact gt4
    obtain ⟨m6, hm6⟩ : ∃ m6, m6 = m5.set t (.lst ((tops.map fun k => D.int (k : Nat)) ++ [.int (c : Nat)])) := ⟨_, rfl⟩
    have m6_of : ∀ k, k ≠ b → k ≠ t → m6[k]? = m4[k]? := fun k h1 h2 => by rw [hm6, List.getElem?_set_ne (fun z => h2 z.symm), hm5, List.getElem?_set_ne (fun z => h1 z.symm)]
    have hlt : m1.length ∉ lr ++ fr := fun z => by
      rcases List.mem_append.mp z with z | z
      · have := na' _ z; omega
      · have := nf' _ z; omega
    have sub2 : ∀ k, k ∈ lr.eraseIdx i ++ (fr ++ [m1.length]) → k = m1.length ∨ k ∈ lr ++ fr := fun k hk => by
      rcases List.mem_append.mp hk with z | z
      · exact .inr (List.mem_append_left _ (sub k z))
      · rcases List.mem_append.mp z with z | z
        · exact .inr (List.mem_append_right _ z)
        · exact .inl (List.mem_singleton.mp z)
    have pl : plainDs 59 (rest.map fun q => D.int (q.2 : Nat)) = true := plainDs_of fun x hx => by
      obtain ⟨q, _, rfl⟩ := List.mem_map.mp hx
      simp
    have t1 : ∀ m : Cells, itemAt (.lst ((D.int (i : Nat)) :: rest.map fun q => D.int (q.2 : Nat))) (.int 0) m = some (.int (i : Nat)) := fun m => atI_head _ _
    have t2 := kSetPop2 (i := 7) (j := 2) (env := [.d (.int p), s1, .d (.ref a), .d (.ref b), .d (.ref t), .d (.int c), .own ((D.int (i : Nat)) :: rest.map fun q => D.int (q.2 : Nat)), s7, s8, s9, s10, s11, s12, s13]) (m := m) (k := (i : Int)) (ys := lr.map D.ref) (y := .ref n) (by omega) (by omega) (by rw [Int.toNat_natCast, List.getElem?_map, h1]; rfl)
    rw [Int.toNat_natCast, eraseIdx_map'] at t2
    refine ⟨.own ((D.int (i : Nat)) :: rest.map fun q => D.int (q.2 : Nat)), .d (.ref n), .d (.int bk), .d (.ref m1.length), .d (.ref b), w11, w12, w13, m6, (left.eraseIdx i).map (fun r => el p (co r c) head r), (found.map fun r => el p (co r c) head r) ++ [head], tops ++ [c], lr.eraseIdx i, fr ++ [m1.length], ?_, ?_⟩
    · simp only [L__law_fd_columns_4]
      simp [C.ga, enum_idx, hz, show lr.length ≤ 1000000 by omega, e1, pl, t1, t2, ← hm1]
      simp [gn1, a1, u, show first.length ≤ 1000000 by omega, e2, rI]
      rw [show m1 ++ [Cell.lst (head.map D.int)] = m2 from hm2.symm]
      have tl := C.gj.lt
      simp [k3, k4, gb4, show fr.length < 1000000 by omega, ← hm5, gt5, show tops.length < 1000000 by omega, ← hm6]
    · refine ⟨?_, ?_, ?_, ?_, ?_, ?_, ?_, ?_, ?_, ?_, ?_, ?_⟩
      · rw [m6_of a hab hat]; exact ga4
      · rw [hm6, List.getElem?_set_ne (fun z => hbt z.symm), hm5, set_same gb4, List.map_append]; rfl
      · rw [hm6, set_same gt5, List.map_append]; rfl
      · have R4' : RowsAt m4 (lr.eraseIdx i) ((left.eraseIdx i).map fun r => el p (co r c) head r) := R3.cong fun k hk => old4 k fun z => ndx k (sub k hk) z
        exact R4'.cong fun k hk => m6_of k (fun z => nbL (z ▸ sub k hk)) fun z => ntL (z ▸ sub k hk)
      · have R4'' : RowsAt m6 fr (found.map fun r => el p (co r c) head r) := R4.cong fun k hk => m6_of k (fun z => nbF (z ▸ hk)) fun z => ntF (z ▸ hk)
        unfold RowsAt at R4'' ⊢
        rw [List.map_append, List.map_append, R4'']
        congr 1
        show [m6[m1.length]?] = _
        rw [m6_of _ (by omega) (by omega), gh4]
        rfl
      · rw [← List.append_assoc, List.nodup_append]
        refine ⟨C.nd.sublist (List.Sublist.append (List.eraseIdx_sublist lr i) (List.Sublist.refl _)), List.pairwise_singleton _ _, fun x hx y hy z => ?_⟩
        rw [List.mem_singleton.mp hy] at z
        rw [z] at hx
        rcases List.mem_append.mp hx with z | z
        · exact hlt (List.mem_append_left _ (sub _ z))
        · exact hlt (List.mem_append_right _ z)
      · exact fun z => (sub2 _ z).elim (fun z => by omega) C.na
      · exact fun z => (sub2 _ z).elim (fun z => by omega) C.nb
      · exact fun z => (sub2 _ z).elim (fun z => by omega) C.nt
      · exact fun k z => (sub2 _ z).elim (fun z => by omega) (C.lo k)
      · intro k hk
        have kl : k ∉ lr := fun z => by have := C.lo k (List.mem_append_left _ z); omega
        have kf : k ∉ fr := fun z => by have := C.lo k (List.mem_append_right _ z); omega
        rw [m6_of k (by omega) (by omega), old4 k kf, m3_of k (by omega) (by omega) kl]
        exact C.base k hk
      · rw [hh]
        exact C.gj.step (by omega) hfi b2 hc
theorem noRef_int (k : Nat) : ∀ ns : List Int, (ns.map D.int).all (noRef (k + 1)) = true
  | [] => rfl
  | n :: ns => by rw [List.map_cons, List.all_cons, noRef_int k ns]; rfl
theorem thawL_ints (k lo : Nat) : ∀ ns : List Int, thawL (thaw (k + 1) m lo) (ns.map D.int) = some (ns.map D.int)
  | [] => rfl
  | n :: ns => by
    rw [List.map_cons]
    unfold thawL
    rw [thawL_ints k lo ns]
    rfl
theorem thaw_row {k lo n : Nat} {r : List Int} (h : m[n]? = some (rI r)) (hl : lo ≤ n) : thaw (k + 2) m lo (.ref n) = some (.lst (r.map D.int)) := by
  show (if n < lo then some (D.ref n) else match m[n]? with | some (.lst xs) => (thawL (thaw (k + 1) m lo) xs).map .lst | none => none) = _
  rw [if_neg (by omega), h]
  show (thawL (thaw (k + 1) m lo) (r.map D.int)).map D.lst = _
  rw [thawL_ints]
  rfl
theorem thaw_rows {k lo : Nat} : ∀ {refs : List Nat} {rows : List (List Int)}, RowsAt m refs rows → (∀ n ∈ refs, lo ≤ n) → thawL (thaw (k + 2) m lo) (refs.map D.ref) = some (rows.map fun r => .lst (r.map D.int))
  | [], [], _, _ => rfl
  | [], _ :: _, h, _ => by have := h.len; simp at this
  | _ :: _, [], h, _ => by have := h.len; simp at this
  | n :: refs, r :: rows, h, hl => by
    have h1 : m[n]? = some (rI r) := h.get (i := 0) rfl rfl
    have h2 : RowsAt m refs rows := by
      unfold RowsAt at h ⊢
      rw [List.map_cons, List.map_cons] at h
      exact (List.cons.inj h).2
    rw [List.map_cons]
    unfold thawL
    rw [thaw_row h1 (hl n List.mem_cons_self), thaw_rows h2 fun k hk => hl k (List.mem_cons_of_mem _ hk)]
    rfl
abbrev lR (rows : List (List Int)) : D := .lst (rows.map fun r => .lst (r.map D.int))
theorem columns_ok {p : Int} {rows : List (List Int)} {w : Nat} (F : Fd p) (h : ∀ r ∈ rows, r.length = w ∧ Red p r) (hw : w < 1000) (hl : rows.length < 1000) (hne : rows ≠ []) (hm : m.all cellPlain = true) :
    ∃ left found tops, f__law_fd_columns [.int p, lR rows] m = .ok (.d (.tup [lR found, .lst (tops.map fun k => D.int (k : Nat))])) m ∧ GJ p rows w w left found tops := by
  obtain ⟨L, hL⟩ : ∃ L, L = m.length := ⟨_, rfl⟩
  obtain ⟨N, hN⟩ : ∃ N, N = rows.length := ⟨_, rfl⟩
  obtain ⟨lr, hlr⟩ : ∃ lr, lr = (List.range N).map fun i => L + i := ⟨_, rfl⟩
  have lrl : lr.length = N := by rw [hlr]; simp
  have lrg : ∀ i, i < N → lr[i]? = some (L + i) := fun i hi => by rw [hlr]; simp [hi]
  have e1 := comp_cells (tg := gSet 11) (elt := X__law_fd_columns_1) (env := [.d (.int p), .d (lR rows), .un, .un, .un, .un, .un, .un, .un, .un, .un, .un, .un, .un])
    (fun r : List Int => D.lst (r.map D.int)) (fun r => [.d (.int p), .d (lR rows), .un, .un, .un, .un, .un, .un, .un, .un, .un, .d (.lst (r.map D.int)), .un, .un]) (fun r => r.map D.int) rows m
    (fun r hr => by simp) (fun r hr m => by simp [X__law_fd_columns_1, show r.length ≤ 1000000 by have := (h r hr).1; omega])
  rw [← hL, ← hN] at e1
  have e1' : (List.range N).map (fun i => D.ref (L + i)) = lr.map D.ref := by rw [hlr, List.map_map]; rfl
  rw [e1'] at e1
  obtain ⟨m1, hm1⟩ : ∃ m1, m1 = m ++ rows.map fun r => Cell.lst (r.map D.int) := ⟨_, rfl⟩
  rw [← hm1] at e1
  have l1 : m1.length = L + N := by rw [hm1, List.length_append, List.length_map, ← hL, ← hN]
  obtain ⟨m2, hm2⟩ : ∃ m2, m2 = m1 ++ [Cell.lst (lr.map D.ref)] ++ [Cell.lst []] ++ [Cell.lst []] := ⟨_, rfl⟩
  have C0 : Cw p rows w 0 L m (L + N) (L + N + 1) (L + N + 2) m2 rows [] [] lr [] := by
    have mem : ∀ n, n ∈ lr ++ ([] : List Nat) → L ≤ n ∧ n < L + N := fun n hn => by
      rw [List.append_nil, hlr] at hn
      obtain ⟨i, hi, rfl⟩ := List.mem_map.mp hn
      have := List.mem_range.mp hi
      omega
    refine ⟨?_, ?_, ?_, ?_, ?_, ?_, fun z => by have := mem _ z; omega, fun z => by have := mem _ z; omega, fun z => by have := mem _ z; omega, fun n z => (mem n z).1, ?_, gj_start h⟩
    · rw [hm2]; simp [l1, List.getElem?_append]
    · rw [hm2]; simp [l1, List.getElem?_append]
    · rw [hm2]; simp [l1, List.getElem?_append]
    · refine .mk (by omega) fun i n r h1 h2 => ?_
      have hi := (List.getElem?_eq_some_iff.mp h1).1
      rw [lrg i (by omega)] at h1
      cases h1
      have : m1[L + i]? = some (rI r) := by
        rw [hm1, List.getElem?_append_right (by omega), ← hL, Nat.add_sub_cancel_left, List.getElem?_map, h2]
        rfl
      rw [hm2, List.append_assoc, List.append_assoc, List.getElem?_append_left (by omega)]
      exact this
    · exact rfl
    · rw [List.append_nil, hlr]
      exact List.Pairwise.map _ (fun a b (h : a ≠ b) => by omega) List.nodup_range
    · intro k hk
      rw [hm2, List.append_assoc, List.append_assoc, List.getElem?_append_left (by omega), hm1, List.getElem?_append_left (by omega)]
  obtain ⟨e, m', k1, left, found, tops, lr', fr', C, s5, s6, s7, s8, s9, s10, s11, s12, s13, rfl⟩ := for_range (g := gSet 5) (b := L__law_fd_columns_4) 0 (w : Int)
    (fun j env m' => ∃ left found tops lr' fr', Cw p rows w j L m (L + N) (L + N + 1) (L + N + 2) m' left found tops lr' fr' ∧ ∃ s5 s6 s7 s8 s9 s10 s11 s12 s13, env = [.d (.int p), .d (lR rows), .d (.ref (L + N)), .d (.ref (L + N + 1)), .d (.ref (L + N + 2)), s5, s6, s7, s8, s9, s10, s11, s12, s13])
    (by
      rintro j hj env m' ⟨left, found, tops, lr', fr', C, s5, s6, s7, s8, s9, s10, s11, s12, s13, rfl⟩
      obtain ⟨t6, t7, t8, t9, t10, t11, t12, t13, m'', left', found', tops', lr'', fr'', e, C'⟩ := col_step (s1 := .d (lR rows)) (s6 := s6) (s7 := s7) (s8 := s8) (s9 := s9) (s10 := s10) (s11 := s11) (s12 := s12) (s13 := s13) (s5 := s5) F C (by omega) (by omega) (by omega) (by omega) (by omega) (by omega) (by omega) hw hl
      refine ⟨_, _, m'', rfl, ?_, left', found', tops', lr'', fr'', C', .d (.int j), t6, t7, t8, t9, t10, t11, t12, t13, rfl⟩
      rw [Int.zero_add]
      exact e)
    (env := [.d (.int p), .d (lR rows), .d (.ref (L + N)), .d (.ref (L + N + 1)), .d (.ref (L + N + 2)), .un, .un, .un, .un, .un, .un, .un, .un, .un]) (m := m2) ⟨rows, [], [], lr, [], C0, .un, .un, .un, .un, .un, .un, .un, .un, .un, rfl⟩
  rw [show ((w : Int) - 0).toNat = w by omega] at C
  refine ⟨left, found, tops, ?_, C.gj⟩
  have tk : m'.take L = m := by
    refine List.ext_getElem? fun k => ?_
    rw [List.getElem?_take]
    by_cases hk : k < L
    · rw [if_pos hk]; exact C.base k hk
    · rw [if_neg hk, List.getElem?_eq_none (by omega)]
  have th : thaw 6 m' L (.tup [.ref (L + N + 1), .ref (L + N + 2)]) = some (.tup [lR found, .lst (tops.map fun k => D.int (k : Nat))]) := by
    have h1 : thaw 5 m' L (.ref (L + N + 1)) = some (lR found) := by
      show (if L + N + 1 < L then some (D.ref (L + N + 1)) else match m'[L + N + 1]? with | some (.lst xs) => (thawL (thaw 4 m' L) xs).map .lst | none => none) = _
      rw [if_neg (by omega), C.gb]
      show (thawL (thaw 4 m' L) (fr'.map D.ref)).map D.lst = _
      rw [thaw_rows C.rf fun n hn => C.lo n (List.mem_append_right _ hn)]
      rfl
    have h2 : thaw 5 m' L (.ref (L + N + 2)) = some (.lst (tops.map fun k => D.int (k : Nat))) := by
      have e : (tops.map fun k => D.int (k : Nat)) = (tops.map fun k => ((k : Nat) : Int)).map D.int := by rw [List.map_map]; rfl
      have g := C.gt
      rw [e] at g ⊢
      exact thaw_row g (by omega)
    show (thawL (thaw 5 m' L) [.ref (L + N + 1), .ref (L + N + 2)]).map D.tup = _
    unfold thawL
    rw [h1]
    unfold thawL
    rw [h2]
    rfl
  have fin := kFnC1 th (by rw [tk]; exact hm)
  rw [tk] at fin
  obtain ⟨r0, rs, hrs⟩ : ∃ r0 rs, rows = r0 :: rs := by
    cases rows with
    | nil => exact absurd rfl hne
    | cons a l => exact ⟨a, l, rfl⟩
  have at0 : atI (rows.map fun r => D.lst (r.map D.int)) 0 = some (.lst (r0.map D.int)) := by rw [hrs]; exact atI_head _ _
  have pl : plainDs 59 (rows.map fun r => D.lst (r.map D.int)) = true := plainDs_of fun x hx => by
    obtain ⟨r, _, rfl⟩ := List.mem_map.mp hx
    rw [ev_pl5]
    exact plainDs_int 58 r
  have r0w : r0.length = w := (h r0 (by rw [hrs]; exact List.mem_cons_self)).1
  have ne : (rows.map fun r => D.lst (r.map D.int)).isEmpty = false := by rw [hrs]; rfl
  simp only [f__law_fd_columns, b__law_fd_columns]
  have l0 : (rows.map fun r => D.lst (r.map D.int)).length ≤ 1000000 := by rw [List.length_map]; omega
  have hm2' : m1 ++ [Cell.lst (lr.map D.ref), Cell.lst [], Cell.lst []] = m2 := by rw [hm2]; simp
  have ne' : rows.isEmpty = false := by rw [hrs]; rfl
  simp [kComp1 l0, e1, hm2', l1, pl, ne', at0, r0w, kRa1_1 (j := (w : Int)) (by omega), k1, ← hL, fin]
end Pg
/-! Pg: the laws' own solver. -/
namespace Pg
open PySem PySem.Spec L2 Ev Po
variable {m : Cells}
theorem zipD_maps {α β : Type} (f : α → D) (g : β → D) : ∀ (as : List α) (bs : List β), zipD (as.map f) (bs.map g) = (as.zip bs).map fun q => D.tup [f q.1, g q.2]
  | [], bs => by simp [zipD]
  | a :: as, [] => by simp [zipD]
  | a :: as, b :: bs => by
    have t := zipD_maps f g as bs
    unfold zipD at t ⊢
    rw [List.map_cons, List.map_cons, List.zipWith_cons_cons, t, List.zip_cons_cons, List.map_cons]
theorem zip_get {α β : Type} : ∀ {as : List α} {bs : List β} {i : Nat} {q : α × β}, (as.zip bs)[i]? = some q → as[i]? = some q.1 ∧ bs[i]? = some q.2
  | [], _, i, q, h => by simp at h
  | _ :: _, [], i, q, h => by simp at h
  | a :: as, b :: bs, 0, q, h => by
    simp at h
    subst h
    exact ⟨rfl, rfl⟩
  | a :: as, b :: bs, i + 1, q, h => by
    have t := zip_get (as := as) (bs := bs) (i := i) (q := q) (by simpa using h)
    simpa using t
theorem get_zip {α β : Type} : ∀ {as : List α} {bs : List β} {i : Nat} {a : α} {b : β}, as[i]? = some a → bs[i]? = some b → (as.zip bs)[i]? = some (a, b)
  | [], _, i, a, b, h, _ => by simp at h
  | _ :: _, [], i, a, b, _, h => by simp at h
  | x :: as, y :: bs, 0, a, b, h, g => by
    cases h; cases g; rfl
  | x :: as, y :: bs, i + 1, a, b, h, g => by
    have t := get_zip (as := as) (bs := bs) (i := i) (a := a) (b := b) (by simpa using h) (by simpa using g)
    simpa using t
theorem red_rep {p : Int} (hp : 0 < p) (n : Nat) : Red p (List.replicate n 0) := fun a ha => by rw [(List.mem_replicate.mp ha).2]; omega
/-- x answers the rows -/
def Sol (p : Int) (w : Nat) (rs : List (List Int)) (gs x : List Int) : Prop := x.length = w ∧ Red p x ∧ ∀ q ∈ rs.zip gs, dt w q.1 x % p = q.2 % p
theorem solved_ok {p : Int} {w : Nat} {rs : List (List Int)} {gs : List Int} (F : Fd p) (h : ∀ r ∈ rs, r.length = w ∧ Red p r) (hg : Red p gs) (hl : gs.length = rs.length) (hne : rs ≠ []) (hw : w < 900) (hn : rs.length < 900) (hm : m.all cellPlain = true) :
    (∃ x, f__law_fd_solved [.int p, lR rs, lI gs] m = .ok (.d (tI x)) m ∧ Sol p w rs gs x) ∨ (f__law_fd_solved [.int p, lR rs, lI gs] m = .ok (.d .non) m ∧ ∀ x, ¬ Sol p w rs gs x) := by
  have hp := F.pos
  have lo := F.lo
  have hi := F.hi
  obtain ⟨rows, hrw⟩ : ∃ rows, rows = (rs.zip gs).map fun q => q.1 ++ [q.2] := ⟨_, rfl⟩
  have hzl : (rs.zip gs).length = rs.length := by rw [List.length_zip]; omega
  have hrows : ∀ r ∈ rows, r.length = w + 1 ∧ Red p r := fun r hr => by
    rw [hrw] at hr
    obtain ⟨q, hq, rfl⟩ := List.mem_map.mp hr
    obtain ⟨i, hi⟩ := List.mem_iff_getElem?.mp hq
    obtain ⟨h1, h2⟩ := zip_get hi
    have := h _ (List.mem_of_getElem? h1)
    refine ⟨by rw [List.length_append, this.1]; rfl, fun a ha => ?_⟩
    rcases List.mem_append.mp ha with z | z
    · exact this.2 a z
    · rw [List.mem_singleton.mp z]; exact hg _ (List.mem_of_getElem? h2)
  have hrl : rows.length = rs.length := by rw [hrw, List.length_map, hzl]
  obtain ⟨left, found, tops, e1, G⟩ := columns_ok (m := m) F hrows (by omega) (by omega) (fun z => hne (List.length_eq_zero_iff.mp (by rw [← hrl, z]; rfl))) hm
  have dts : ∀ x, x.length = w → ((∀ r ∈ rows, dt (w + 1) r (x ++ [-1]) % p = 0) ↔ ∀ q ∈ rs.zip gs, dt w q.1 x % p = q.2 % p) := fun x hx => by
    rw [hrw]
    have one : ∀ q ∈ rs.zip gs, (dt (w + 1) (q.1 ++ [q.2]) (x ++ [-1]) % p = 0 ↔ dt w q.1 x % p = q.2 % p) := fun q hq => by
      obtain ⟨i, hi⟩ := List.mem_iff_getElem?.mp hq
      exact dt_aug (h _ (List.mem_of_getElem? (zip_get hi).1)).1 hx
    constructor
    · exact fun H q hq => (one q hq).mp (H _ (List.mem_map.mpr ⟨q, hq, rfl⟩))
    · intro H r hr
      obtain ⟨q, hq, rfl⟩ := List.mem_map.mp hr
      exact (one q hq).mpr (H q hq)
  -- the walk
  have z1 := zipD_maps (fun r : List Int => D.lst (r.map D.int)) D.int rs gs
  obtain ⟨r0, rt, hr0⟩ : ∃ r0 rt, rs = r0 :: rt := by
    cases rs with
    | nil => exact absurd rfl hne
    | cons a l => exact ⟨a, l, rfl⟩
  have at0 : ∀ m : Cells, itemAt (.lst (rs.map fun r => D.lst (r.map D.int))) (.int 0) m = some (.lst (r0.map D.int)) := fun m => by rw [hr0]; exact atI_head _ _
  have r0w : r0.length = w := (h r0 (by rw [hr0]; exact List.mem_cons_self)).1
  have q1 : S__law_fd_solved_1 [.d (.int p), .d (lR rs), .d (lI gs), .un, .un, .un, .un, .un, .un, .un] m = .ok (.nx [.d (.int p), .d (lR rs), .d (lI gs), .d (.int w), .un, .un, .un, .un, .un, .un]) m := by
    simp only [S__law_fd_solved_1]
    simp [at0, r0w]
  have e2 := comp_tup_if (is := [7, 9]) (c := bYes) (elt := X__law_fd_solved_1) (env := [.d (.int p), .d (lR rs), .d (lI gs), .d (.int w), .un, .un, .un, .un, .un, .un]) (m := m) (fun q : List Int × Int => D.tup [.lst (q.1.map D.int), .int q.2])
    (fun q => [.d (.int p), .d (lR rs), .d (lI gs), .d (.int w), .un, .un, .un, .d (.lst (q.1.map D.int)), .un, .d (.int q.2)]) (P := fun _ => true) (F := fun q => D.lst ((q.1 ++ [q.2]).map D.int)) (rs.zip gs)
    (fun q hq => ⟨by simp, by simp⟩) (fun q hq _ => by
      obtain ⟨i, hi⟩ := List.mem_iff_getElem?.mp hq
      have := (h _ (List.mem_of_getElem? (zip_get hi).1)).1
      simp [X__law_fd_solved_1, this, gAdd, show w ≤ 1000000 by omega, show w + 1 ≤ 1000000 by omega])
  have e2' : ((rs.zip gs).filter fun _ => true).map (fun q => D.lst ((q.1 ++ [q.2]).map D.int)) = rows.map fun r => D.lst (r.map D.int) := by
    rw [List.filter_eq_self.mpr fun _ _ => rfl, hrw, List.map_map]
    rfl
  rw [e2'] at e2
  have tc : (tops.map fun k => D.int (k : Nat)) = (tops.map fun k => ((k : Nat) : Int)).map D.int := by rw [List.map_map]; rfl
  have q2 : S__law_fd_solved_2 [.d (.int p), .d (lR rs), .d (lI gs), .d (.int w), .un, .un, .un, .un, .un, .un] m = .ok (.nx [.d (.int p), .d (lR rs), .d (lI gs), .d (.int w), .d (lR found), .d (.lst (tops.map fun k => D.int (k : Nat))), .un, .un, .un, .un]) m := by
    have l0 : ((rs.zip gs).map fun q => D.tup [.lst (q.1.map D.int), .int q.2]).length ≤ 1000000 := by rw [List.length_map]; omega
    simp only [S__law_fd_solved_2]
    simp [z1, kComp1 l0, e2, e1]
  have hmem : ((w : Int) ∈ tops.map fun k => ((k : Nat) : Int)) ↔ w ∈ tops := by
    constructor
    · intro z
      obtain ⟨k, hk, e⟩ := List.mem_map.mp z
      have : k = w := by omega
      rw [← this]; exact hk
    · exact fun z => List.mem_map.mpr ⟨w, z, rfl⟩
  have inT : gIn (.int w) (.lst (tops.map fun k => D.int (k : Nat))) = some (.d (.bl (decide (w ∈ tops)))) := by
    rw [tc, in_ints, decide_eq_decide.mpr hmem]
  by_cases hwt : w ∈ tops
  · refine .inr ⟨?_, fun x hx => G.none (by omega) hwt x hx.1 ((dts x hx.1).mpr hx.2.2)⟩
    have q3 : S__law_fd_solved_3 [.d (.int p), .d (lR rs), .d (lI gs), .d (.int w), .d (lR found), .d (.lst (tops.map fun k => D.int (k : Nat))), .un, .un, .un, .un] m = .ok (.rt (.d .non)) m := by
      simp only [S__law_fd_solved_3]
      simp [inT, hwt]
    simp only [f__law_fd_solved, b__law_fd_solved]
    simp [q1, q2, q3]
  · have q3 : S__law_fd_solved_3 [.d (.int p), .d (lR rs), .d (lI gs), .d (.int w), .d (lR found), .d (.lst (tops.map fun k => D.int (k : Nat))), .un, .un, .un, .un] m = .ok (.nx [.d (.int p), .d (lR rs), .d (lI gs), .d (.int w), .d (lR found), .d (.lst (tops.map fun k => D.int (k : Nat))), .un, .un, .un, .un]) m := by
      simp only [S__law_fd_solved_3]
      simp [inT, hwt]
    obtain ⟨zs, hzs⟩ : ∃ zs : List Int, zs = List.replicate w 0 := ⟨_, rfl⟩
    have zl : zs.length = w := by rw [hzs, List.length_replicate]
    have q4 : S__law_fd_solved_4 [.d (.int p), .d (lR rs), .d (lI gs), .d (.int w), .d (lR found), .d (.lst (tops.map fun k => D.int (k : Nat))), .un, .un, .un, .un] m = .ok (.nx [.d (.int p), .d (lR rs), .d (lI gs), .d (.int w), .d (lR found), .d (.lst (tops.map fun k => D.int (k : Nat))), .own (zs.map D.int), .un, .un, .un]) m := by
      simp only [S__law_fd_solved_4]
      rw [hzs]
      simp [gMul, show w ≤ 1000000 by omega, show (w : Int) ≤ 1000000 by omega]
    obtain ⟨qs, hqs⟩ : ∃ qs, qs = found.zip tops := ⟨_, rfl⟩
    have hql : qs.length = found.length := by rw [hqs, List.length_zip, G.lt]; omega
    have hq2 : qs.map (·.2) = tops := by rw [hqs]; exact List.map_snd_zip (by have := G.lt; omega)
    have hqlt : ∀ q ∈ qs, q.2 < zs.length := fun q hq => by
      have hm : q.2 ∈ tops := by rw [← hq2]; exact List.mem_map.mpr ⟨q, hq, rfl⟩
      have := G.top _ hm
      rw [zl]
      rcases Nat.lt_succ_iff_lt_or_eq.mp this with z | z
      · exact z
      · rw [z] at hm; exact absurd hm hwt
    have hqw : ∀ q ∈ qs, q.1.length = w + 1 ∧ Red p q.1 := fun q hq => by
      obtain ⟨i, hi⟩ := List.mem_iff_getElem?.mp hq
      rw [hqs] at hi
      exact G.wf _ (List.mem_of_getElem? (zip_get hi).1)
    have z2 := zipD_maps (fun r : List Int => D.lst (r.map D.int)) (fun k : Nat => D.int (k : Nat)) found tops
    rw [← hqs] at z2
    obtain ⟨e, m', k1, rfl, s7, s8, rfl⟩ := for_take (g := gTupS [7, 8]) (b := L__law_fd_solved_1) qs (ds := qs.map fun q => D.tup [.lst (q.1.map D.int), .int (q.2 : Nat)]) (List.length_map ..)
      (fun pre env m' => m' = m ∧ ∃ s7 s8, env = [.d (.int p), .d (lR rs), .d (lI gs), .d (.int w), .d (lR found), .d (.lst (tops.map fun k => D.int (k : Nat))), .own ((solv w pre zs).map D.int), s7, s8, .un])
      (by
        rintro j ⟨r, k⟩ d hj hd env m' ⟨rfl, s7, s8, rfl⟩
        rw [List.getElem?_map, hj] at hd
        cases hd
        have hm := List.mem_of_getElem? hj
        have hk := hqlt _ hm
        rw [zl] at hk
        obtain ⟨rl, rr⟩ := hqw _ hm
        dsimp only at rl rr hk
        have a1 := atI_nn (ns := r) (i := (w : Int)) (by omega) (by omega)
        have a2 := ixN_ok (n := w) (i := (k : Int)) (by omega) (by omega)
        rw [Int.toNat_natCast] at a1 a2
        have sl : (solv w (qs.take j) zs).length = w := by rw [solv_len, zl]
        refine ⟨_, [.d (.int p), .d (lR rs), .d (lI gs), .d (.int w), .d (lR found), .d (.lst (tops.map fun k => D.int (k : Nat))), .own ((solv w (qs.take j ++ [(r, k)]) zs).map D.int), .d (.lst (r.map D.int)), .d (.int (k : Nat)), .un], m', rfl, ?_, rfl, _, _, rfl⟩
        rw [solv_app, List.map_set]
        simp [L__law_fd_solved_1, a1, sl, a2])
      (env := [.d (.int p), .d (lR rs), .d (lI gs), .d (.int w), .d (lR found), .d (.lst (tops.map fun k => D.int (k : Nat))), .own (zs.map D.int), .un, .un, .un]) (m := m) ⟨rfl, .un, .un, rfl⟩
    refine .inl ⟨solv w qs zs, ?_, by rw [solv_len, zl], solv_red (fun q hq => ?_) (hzs ▸ red_rep hp w), ?_⟩
    · have q5 : S__law_fd_solved_5 [.d (.int p), .d (lR rs), .d (lI gs), .d (.int w), .d (lR found), .d (.lst (tops.map fun k => D.int (k : Nat))), .own (zs.map D.int), .un, .un, .un] m' = .ok (.nx [.d (.int p), .d (lR rs), .d (lI gs), .d (.int w), .d (lR found), .d (.lst (tops.map fun k => D.int (k : Nat))), .own ((solv w qs zs).map D.int), s7, s8, .un]) m' := by
        simp only [S__law_fd_solved_5]
        simp [z2, k1]
      have sl : (solv w qs zs).length = w := by rw [solv_len, zl]
      simp only [f__law_fd_solved, b__law_fd_solved]
      simp [q1, q2, q3, q4, q5, S__law_fd_solved_6, sl, show w ≤ 1000000 by omega]
    · obtain ⟨h1, h2⟩ := hqw q hq
      rw [co_lt (by omega)]
      exact h2 _ (List.getElem_mem _)
    · rw [← dts _ (by rw [solv_len, zl])]
      have nd : (qs.map (·.2)).Nodup := by
        rw [hq2]
        exact G.asc.imp fun h => by omega
      refine G.some hwt _ (by rw [solv_len, zl]) (fun i r t h1 h2 => ?_) fun k hk => ?_
      · have hz : qs[i]? = some (r, t) := by rw [hqs]; exact get_zip h1 h2
        exact solv_at hqlt nd hz
      · rw [solv_not hqlt (by rw [hq2]; exact hk)]
        rw [hzs]
        exact co_rep w k
end Pg
/-! Pg: words and syndromes. -/
namespace Pg
open PySem PySem.Spec L2 Ev Po
variable {m : Cells}
theorem undone_okW {p a : Int} (F : Fd p) (h0 : 0 < a) (h1 : a < p) : f_undone [.int p, .int a] m = .ok (.d (.int (inv p a))) m := by
  simp [f_undone, b_undone, req_field F.b, req_number (m := m) (p := p) (a := a) (by omega) h1, show ¬ a = 0 by omega, undone_ok F h0 h1]
theorem are_numbers_w {p : Int} {ns : List Int} (F : Fd p) (h : Red p ns) (hl : ns.length ≤ 1000) : f_are_numbers_v2 [.int p, tI ns, .int ns.length] m = .ok (.d (.bl true)) m := by
  have e := comp_list (i := 3) (elt := X_are_numbers_v2_1) (env := [.d (.int p), .d (tI ns), .d (.int ns.length), .un]) (m := m) D.int (F := fun _ => D.bl true) ns (fun x hx => by
    have := h x hx
    simp [X_are_numbers_v2_1, is_number_ok F, show 0 ≤ x by omega, show x ≤ p - 1 by omega])
  have l0 : (ns.map D.int).length ≤ 1000000 := by rw [List.length_map]; omega
  have al := all_map (fun _ => true) ns
  simp only [f_are_numbers_v2, b_are_numbers_v2]
  simp [kComp1 l0, e, al, show isa Ty.tuple Ty.tuple = true from rfl]
theorem most_houses_ok {p : Int} : f_most_houses [.int p] m = .ok (.d (.int (if p - 1 < 9 then p - 1 else 9))) m := by
  simp [f_most_houses, b_most_houses]
/-- a word of the field -/
structure Wo (p : Int) (v : List Int) : Prop where
  red : Red p v
  ne : v ≠ []
  le : v.length ≤ 9
  lt : (v.length : Int) ≤ p - 1
theorem Wo.pos {p : Int} {v : List Int} (h : Wo p v) : 1 ≤ v.length := List.length_pos_iff.mpr h.ne
theorem is_word_ok {p : Int} {v : List Int} (F : Fd p) (h : Wo p v) : f_is_word_in [.int p, tI v] m = .ok (.d (.bl true)) m := by
  have h1 := h.pos
  have h2 := h.le
  have h3 := h.lt
  have e := are_numbers_w (m := m) F h.red (by omega)
  simp only [f_is_word_in, b_is_word_in]
  have c : (v.length : Int) ≤ (if p - 1 < 9 then p - 1 else 9) := by split <;> omega
  simp [show isa Ty.tuple Ty.tuple = true from rfl, most_houses_ok, show (1 : Int) ≤ v.length by omega, c, e]
theorem req_field_w {p : Int} (F : Fd p) : f_require_field_words [.int p] m = .ok (.d .non) m := by
  simp [f_require_field_words, b_require_field_words, field_int, F.b]
theorem req_word {p : Int} {v : List Int} {d : Nat} (F : Fd p) (h : Wo p v) (hd : d < v.length) : f_require_word [.int p, tI v, .int d] m = .ok (.d .non) m := by
  simp [f_require_word, b_require_word, req_field_w F, is_word_ok F h, req_from (m := m) (v := d) (a := 0) (b := (v.length : Int) - 1) (by omega) (by omega)]
theorem product_ok {p x : Int} (F : Fd p) (l : List Int) (hl : ∀ o ∈ l, -1000000 < x - o ∧ x - o < 1000000) : f_product_of [.int p, lI (l.map fun o => x - o)] m = .ok (.d (.int (dif x l % p))) m := by
  have hp := F.pos
  have lo := F.lo
  obtain ⟨e, m', k1, rfl, s, rfl⟩ := for_ints (g := gSet 3) (b := L_product_of_1) (l.map fun o => x - o)
    (fun pre env m' => m' = m ∧ ∃ s, env = [.d (.int p), .d (lI (l.map fun o => x - o)), .d (.int (pre.foldl (· * ·) 1 % p)), s])
    (by
      rintro pre y post hpre env m' ⟨rfl, s, rfl⟩
      have hy : y ∈ l.map fun o => x - o := by rw [hpre]; simp
      obtain ⟨o, ho, rfl⟩ := List.mem_map.mp hy
      have hlo := hl o ho
      refine ⟨_, _, m', rfl, ?_, rfl, .d (.int (x - o)), rfl⟩
      rw [List.foldl_append]
      show _ = Res.ok (Out.nx [_, _, .d (.int (pre.foldl (· * ·) 1 * (x - o) % p)), _]) m'
      rw [← mul_mod_l (pre.foldl (· * ·) 1)]
      generalize pre.foldl (· * ·) 1 % p = U
      simp [L_product_of_1, ev_mulR (i := U) (j := x - o) (by omega), ev_mod hp])
    (env := [.d (.int p), .d (lI (l.map fun o => x - o)), .d (.int 1), .un]) (m := m) ⟨rfl, .un, by
      have o : (1 : Int) % p = 1 := Int.emod_eq_of_lt (by omega) (by omega)
      simp [o]⟩
  have fd : ∀ (l : List Int) (a : Int), (l.map fun o => x - o).foldl (· * ·) a = a * dif x l := by
    intro l
    induction l with
    | nil => intro a; simp [dif]
    | cons o l ih => intro a; rw [List.map_cons, List.foldl_cons, ih, dif, Int.mul_assoc]
  rw [fd, Int.one_mul] at k1
  simp only [f_product_of, b_product_of]
  obtain ⟨A, hA⟩ : ∃ A, A = l.map fun o => x - o := ⟨_, rfl⟩
  rw [← hA] at k1 ⊢
  simp [k1]
theorem weights_at_ok {p : Int} (F : Fd p) {xs : List Int} (hr : Red p xs) (hl : xs.length ≤ 60) : f_weights_at [.int p, lI xs] m = .ok (.fl ((xs.map (unb p xs)).map D.int)) m := by
  have hi := F.hi
  have e := comp_list (i := 2) (elt := X_weights_at_2) (env := [.d (.int p), .d (lI xs), .un, .un]) (m := m) D.int (F := fun x => D.int (unb p xs x)) xs (fun x hx => by
    have e1 := comp_list_if (i := 3) (c := Y_weights_at_1) (elt := X_weights_at_1) (env := [.d (.int p), .d (lI xs), .d (.int x), .un]) (m := m) D.int (P := fun o => !decide (o = x)) (F := fun o => D.int (x - o)) xs (fun o _ => by simp [Y_weights_at_1]) (fun o _ _ => by simp [X_weights_at_1])
    have e2 : (xs.filter fun o => !decide (o = x)) = oth x xs := by
      unfold oth
      congr 1
      funext o
      by_cases h : o = x <;> simp [h]
    rw [e2] at e1
    have e3 : (oth x xs).map (fun o => D.int (x - o)) = ((oth x xs).map fun o => x - o).map D.int := by rw [List.map_map]; rfl
    rw [e3] at e1
    have pr := product_ok (m := m) (x := x) F (oth x xs) fun o ho => by
      have h1 := hr x hx
      have h2 := hr o (mem_oth.mp ho).1
      omega
    obtain ⟨b0, b1⟩ := bot_pos F hr hx
    have u := undone_okW (m := m) F b0 b1
    have l0 : (xs.map D.int).length ≤ 1000000 := by rw [List.length_map]; omega
    have e8 : dif x (oth x xs) % p = bot p xs x := rfl
    rw [e8] at pr
    obtain ⟨A, hA⟩ : ∃ A, A = (oth x xs).map fun o => x - o := ⟨_, rfl⟩
    rw [← hA] at e1 pr
    have e9 : unb p xs x = inv p (bot p xs x) := rfl
    rw [e9]
    generalize bot p xs x = B at *
    simp [X_weights_at_2, kComp1 l0, e1, pr, u])
  have l0 : (xs.map D.int).length ≤ 1000000 := by rw [List.length_map]; omega
  simp only [f_weights_at, b_weights_at]
  simp [kComp1 l0, e]
/-- the places of so many houses -/
abbrev plc (n : Nat) : List Int := rgI 1 ((n : Int) + 1)
theorem plc_len (n : Nat) : (plc n).length = n := by rw [rgI_len]; omega
theorem plc_get {n i : Nat} (h : i < n) : (plc n)[i]? = some (1 + (i : Int)) := by
  unfold plc rgI
  rw [List.getElem?_map, List.getElem?_range (by omega)]
  rfl
theorem plc_red {p : Int} {n : Nat} (h : (n : Int) ≤ p - 1) : Red p (plc n) := fun x hx => by
  obtain ⟨h1, h2⟩ := rgI_mem.mp hx
  omega
theorem plc_nodup (n : Nat) : (plc n).Nodup := by
  unfold plc rgI
  exact List.Pairwise.map _ (fun a b (h : a ≠ b) => by omega) List.nodup_range
/-- a row of the table -/
noncomputable def prw (p : Int) (n : Nat) (places : List Int) (t : Nat) : List Int := places.map fun x => unb p (plc n) x * x ^ t % p
theorem prw_step (p : Int) (n : Nat) (places : List Int) (t : Nat) : (places.map fun x => unb p (plc n) x * x ^ t % p * x % p) = prw p n places (t + 1) := by
  unfold prw
  refine List.map_congr_left fun x _ => ?_
  rw [mul_mod_l, Int.pow_succ, Int.mul_assoc]
theorem power_table_ok {p : Int} {d n : Nat} {places : List Int} (F : Fd p) (hn : (n : Int) ≤ p - 1) (n9 : n ≤ 60) (hd : d ≤ 1000) (hp1 : ∀ x ∈ places, 1 ≤ x ∧ x ≤ n) (hl : places.length ≤ 60) :
    f_power_table [.int p, lI places, .int d, .int n] m = .ok (.fl ((List.range (n - d - 1)).map fun t => tI (prw p n places t))) m := by
  have hp := F.pos
  have hi := F.hi
  have wa := weights_at_ok (m := m) F (plc_red hn) (by rw [plc_len]; omega)
  have e1 := comp_list (i := 7) (elt := X_power_table_1) (env := [.d (.int p), .d (lI places), .d (.int d), .d (.int n), .un, .un, .un, .un, .un]) (m := m) D.int (F := fun x => D.int (unb p (plc n) x)) places (fun x hx => by
    obtain ⟨h1, h2⟩ := hp1 x hx
    have g : atI ((plc n).map (unb p (plc n))) (x - 1) = some (unb p (plc n) x) := by
      rw [atI_nn (by omega) (by rw [List.length_map, plc_len]; omega)]
      have : (plc n)[(x - 1).toNat]? = some x := by rw [plc_get (by omega)]; congr 1; omega
      rw [co_get (a := unb p (plc n) x) (by rw [List.getElem?_map, this]; rfl)]
    have k0 := kRg22_1 (m := m) (k := kL) (i := 1) (j := (n : Int) + 1) (by omega)
    rw [rangeD_ints] at k0
    generalize hU : (plc n).map (unb p (plc n)) = U at *
    simp [X_power_table_1, k0, kL, wa, g])
  have l0 : (places.map D.int).length ≤ 1000000 := by rw [List.length_map]; omega
  have e0 : (places.map fun x => D.int (unb p (plc n) x)) = (prw p n places 0).map D.int := by
    unfold prw
    rw [List.map_map]
    refine List.map_congr_left fun x hx => ?_
    obtain ⟨h1, h2⟩ := hp1 x hx
    obtain ⟨u0, u1, _⟩ := unb_spec F (plc_red hn) (x := x) (rgI_mem.mpr (by omega))
    show _ = D.int (unb p (plc n) x * x ^ 0 % p)
    rw [Int.pow_zero, Int.mul_one, Int.emod_eq_of_lt u0 u1]
  rw [e0] at e1
  obtain ⟨e, m', k1, rfl, s6, s7, s8, rfl⟩ := for_range (g := gSet 6) (b := L_power_table_1) 0 ((n : Int) - d - 1)
    (fun j env m' => m' = m ∧ ∃ s6 s7 s8, env = [.d (.int p), .d (lI places), .d (.int d), .d (.int n), .own ((List.range j).map fun t => tI (prw p n places t)), .own ((prw p n places j).map D.int), s6, s7, s8])
    (by
      rintro j hj env m' ⟨rfl, s6, s7, s8, rfl⟩
      have z := zipD_map (fun x => unb p (plc n) x * x ^ j % p) places
      rw [show (places.map fun x => unb p (plc n) x * x ^ j % p) = prw p n places j from rfl] at z
      have lz : (zipD ((prw p n places j).map D.int) (places.map D.int)).length ≤ 1000000 := by rw [z, List.length_map]; omega
      have e2 := comp_tup (is := [8, 7]) (elt := X_power_table_2) (env := [.d (.int p), .d (lI places), .d (.int d), .d (.int n), .own (((List.range j).map fun t => tI (prw p n places t)) ++ [tI (prw p n places j)]), .d (lI (prw p n places j)), .d (.int (0 + j)), .un, .un]) (m := m') (fun x => D.tup [.int (unb p (plc n) x * x ^ j % p), .int x])
        (fun x => [.d (.int p), .d (lI places), .d (.int d), .d (.int n), .own (((List.range j).map fun t => tI (prw p n places t)) ++ [tI (prw p n places j)]), .d (lI (prw p n places j)), .d (.int (0 + j)), .d (.int x), .d (.int (unb p (plc n) x * x ^ j % p))]) (F := fun x => .int (unb p (plc n) x * x ^ j % p * x % p)) places (fun x hx => by
          have := hp1 x hx
          refine ⟨rfl, ?_⟩
          generalize unb p (plc n) x * x ^ j % p = U
          simp [X_power_table_2, ev_mulR (i := U) (j := x) (by omega), ev_mod hp])
      rw [← z] at e2
      have e3 : (places.map fun x => D.int (unb p (plc n) x * x ^ j % p * x % p)) = (prw p n places (j + 1)).map D.int := by rw [← prw_step, List.map_map]; rfl
      rw [e3] at e2
      refine ⟨_, [.d (.int p), .d (lI places), .d (.int d), .d (.int n), .own ((List.range (j + 1)).map fun t => tI (prw p n places t)), .own ((prw p n places (j + 1)).map D.int), .d (.int (0 + j)), s7, s8], m', rfl, ?_, rfl, _, _, _, rfl⟩
      have lp : (prw p n places j).length = places.length := List.length_map ..
      rw [List.range_succ, List.map_append, List.map_singleton]
      obtain ⟨A, hA⟩ : ∃ A, A = (List.range j).map fun t => tI (prw p n places t) := ⟨_, rfl⟩
      have lA : A.length < 1000000 := by rw [hA, List.length_map, List.length_range]; omega
      rw [← hA] at e2 ⊢
      generalize prw p n places j = U at *
      generalize prw p n places (j + 1) = V at *
      simp only [tI, lI, Int.zero_add] at e2 ⊢
      simp [L_power_table_1, lA, show U.length ≤ 1000000 by omega, kComp1 lz, e2])
    (env := [.d (.int p), .d (lI places), .d (.int d), .d (.int n), .own [], .own ((prw p n places 0).map D.int), .un, .un, .un]) (m := m) ⟨rfl, .un, .un, .un, rfl⟩
  rw [show ((n : Int) - d - 1 - 0).toNat = n - d - 1 by omega] at k1
  generalize prw p n places 0 = U at *
  obtain ⟨A, hA⟩ : ∃ A, A = (List.range (n - d - 1)).map fun t => tI (prw p n places t) := ⟨_, rfl⟩
  rw [← hA] at k1 ⊢
  simp only [f_power_table, b_power_table]
  simp [kComp1 l0, e1, kRa1_1 (j := (n : Int) - d - 1) (by omega), k1]
/-- the syndromes of a word -/
noncomputable def syn (p : Int) (d : Nat) (v : List Int) : List Int := (List.range (v.length - d - 1)).map fun t => dot (chk p (plc v.length) t) v % p
theorem syn_len (p : Int) (d : Nat) (v : List Int) : (syn p d v).length = v.length - d - 1 := by unfold syn; rw [List.length_map, List.length_range]
theorem dot_zip (a b : List Int) : (zipD (a.map D.int) (b.map D.int)) = (a.zip b).map fun q => D.tup [.int q.1, .int q.2] := zipD_maps D.int D.int a b
theorem syndromes_in_ok {p : Int} {d : Nat} {v : List Int} (F : Fd p) (h : Wo p v) (hd : d ≤ 1000) : f_syndromes_in [.int p, tI v, .int d] m = .ok (.d (tI (syn p d v))) m := by
  have hp := F.pos
  have hi := F.hi
  have h1 := h.pos
  have h2 := h.le
  have h3 := h.lt
  have pt := power_table_ok (m := m) (d := d) (n := v.length) (places := plc v.length) F h3 (by omega) hd (fun x hx => by
    obtain ⟨a, b⟩ := rgI_mem.mp hx
    omega) (by rw [plc_len]; omega)
  have pr : ∀ t, prw p v.length (plc v.length) t = chk p (plc v.length) t := fun _ => rfl
  obtain ⟨N, hN⟩ : ∃ N, N = v.length - d - 1 := ⟨_, rfl⟩
  rw [← hN] at pt
  have e1 := comp_list (i := 4) (elt := X_syndromes_in_2) (env := [.d (.int p), .d (tI v), .d (.int d), .d (.lst ((List.range N).map fun t => tI (prw p v.length (plc v.length) t))), .un, .un, .un]) (m := m) (fun t : Nat => tI (prw p v.length (plc v.length) t)) (F := fun t => D.int (dot (chk p (plc v.length) t) v % p)) (List.range N) (fun t ht => by
    obtain ⟨C, hC⟩ : ∃ C, C = chk p (plc v.length) t := ⟨_, rfl⟩
    rw [pr, ← hC]
    have lC : C.length ≤ 9 := by rw [hC, chk_len, plc_len]; exact h2
    have hb : ∀ x ∈ C, 0 ≤ x ∧ x < p := fun x hx => by
      rw [hC] at hx
      unfold chk at hx
      obtain ⟨y, _, rfl⟩ := List.mem_map.mp hx
      exact ⟨Int.emod_nonneg _ (by omega), Int.emod_lt_of_pos _ hp⟩
    generalize (List.range N).map (fun t => tI (prw p v.length (plc v.length) t)) = A
    have e2 := comp_tup (is := [5, 6]) (elt := X_syndromes_in_1) (env := [.d (.int p), .d (tI v), .d (.int d), .d (.lst A), .d (tI C), .un, .un]) (m := m) (fun q : Int × Int => D.tup [.int q.1, .int q.2])
      (fun q => [.d (.int p), .d (tI v), .d (.int d), .d (.lst A), .d (tI C), .d (.int q.1), .d (.int q.2)]) (F := fun q => .int (q.1 * q.2)) (C.zip v) (fun q hq => by
        have := h.red q.2 (List.of_mem_zip hq).2
        refine ⟨rfl, ?_⟩
        simp [X_syndromes_in_1, ev_mulR (i := q.1) (j := q.2) (by omega)])
    rw [← dot_zip] at e2
    have lz : (zipD (C.map D.int) (v.map D.int)).length ≤ 1000000 := by rw [dot_zip, List.length_map, List.length_zip]; omega
    have sm := sum_map (fun q : Int × Int => q.1 * q.2) (C.zip v)
    have e5 : ((C.zip v).map fun q => q.1 * q.2).sum = dot C v := rfl
    rw [e5] at sm
    simp [X_syndromes_in_2, kComp1 lz, e2, sm, ev_mod hp])
  have e6 : ((List.range N).map fun t => D.int (dot (chk p (plc v.length) t) v % p)) = (syn p d v).map D.int := by unfold syn; rw [List.map_map, hN]; rfl
  rw [e6] at e1
  have ls := syn_len p d v
  have k0 := kRg22_1 (m := m) (k := kL) (i := 1) (j := (v.length : Int) + 1) (by omega)
  rw [rangeD_ints] at k0
  obtain ⟨A, hA⟩ : ∃ A, A = (List.range N).map fun t => tI (prw p v.length (plc v.length) t) := ⟨_, rfl⟩
  have lA : A.length ≤ 1000000 := by rw [hA, List.length_map, List.length_range]; omega
  rw [← hA] at e1 pt
  generalize syn p d v = S at *
  simp only [f_syndromes_in, b_syndromes_in]
  simp [k0, kL, pt, kComp1 lA, e1, show S.length ≤ 1000000 by omega]
theorem syndromes_ok {p : Int} {d : Nat} {v : List Int} (F : Fd p) (h : Wo p v) (hd : d < v.length) : f_syndromes [.int p, tI v, .int d] m = .ok (.d (tI (syn p d v))) m := by
  have h2 := h.le
  have t := syndromes_in_ok (m := m) (d := d) F h (by omega)
  generalize syn p d v = S at *
  simp [f_syndromes, b_syndromes, req_word F h hd, t]
end Pg
/-! Pg: the laws' own words, fits. -/
namespace Pg
open PySem PySem.Spec L2 Ev Po
variable {m : Cells}
/-- the powers of a place -/
def pws (p x : Int) (n : Nat) : List Int := (List.range n).map fun k => x ^ k % p
theorem pws_len (p x : Int) (n : Nat) : (pws p x n).length = n := by unfold pws; rw [List.length_map, List.length_range]
theorem pws_red {p : Int} (hp : 0 < p) (x : Int) (n : Nat) : Red p (pws p x n) := fun a ha => by
  unfold pws at ha
  obtain ⟨k, _, rfl⟩ := List.mem_map.mp ha
  exact ⟨Int.emod_nonneg _ (by omega), Int.emod_lt_of_pos _ hp⟩
theorem powers_ok {p x : Int} (F : Fd p) (hx : -1000000 < x ∧ x < 1000000) (n : Nat) (hn : n ≤ 1000) : f__law_powers [.int p, .int x, .int n] m = .ok (.fl ((pws p x n).map D.int)) m := by
  have hp := F.pos
  have lo := F.lo
  obtain ⟨e, m', k1, rfl, s, rfl⟩ := for_range (g := gSet 5) (b := L__law_powers_1) 0 (n : Int)
    (fun j env m' => m' = m ∧ ∃ s, env = [.d (.int p), .d (.int x), .d (.int n), .own ((pws p x j).map D.int), .d (.int (x ^ j % p)), s])
    (by
      rintro j hj env m' ⟨rfl, s, rfl⟩
      refine ⟨_, _, m', rfl, ?_, rfl, .d (.int (0 + j)), rfl⟩
      have e : pws p x (j + 1) = pws p x j ++ [x ^ j % p] := by unfold pws; rw [List.range_succ, List.map_append]; rfl
      have l := pws_len p x j
      rw [e, Int.pow_succ, ← mul_mod_l, List.map_append]
      generalize x ^ j % p = U
      simp [L__law_powers_1, ev_mulR (i := U) (j := x) (by omega), ev_mod hp, show (pws p x j).length < 1000000 by omega])
    (env := [.d (.int p), .d (.int x), .d (.int n), .own [], .d (.int 1), .un]) (m := m) ⟨rfl, .un, by
      have o : (1 : Int) % p = 1 := Int.emod_eq_of_lt (by omega) (by omega)
      simp [pws, o]⟩
  rw [show ((n : Int) - 0).toNat = n by omega] at k1
  simp only [f__law_powers, b__law_powers]
  simp [kRa1_1 (j := (n : Int)) (by omega), k1]
theorem told_ok {p : Int} (F : Fd p) (n : Nat) (hn : n ≤ 1000) {f : List Int} (hf : Red p f) : f__law_told [.int p, .int n, tI f] m = .ok (.d (tI (shr p n f))) m := by
  have hp := F.pos
  have hi := F.hi
  have e1 := comp_intsI (i := 3) (elt := X__law_told_1) (env := [.d (.int p), .d (.int n), .d (tI f), .un]) (m := m) (fun x => pev f x % p) (plc n) (shr p n f) rfl (fun x hx => by
    have v := fd_value_ok (m := m) (x := x) hp (by omega) f hf
    simp [X__law_told_1, v])
  have l : (rangeD 1 ((n : Int) + 1)).length ≤ 1000000 := by rw [rangeD_len]; omega
  rw [← rangeD_ints] at e1
  have ly : (shr p n f).length ≤ 1000000 := by unfold shr; rw [List.length_map, plc_len]; omega
  generalize shr p n f = S at *
  simp only [f__law_told, b__law_told]
  simp [kRa2_1 (i := 1) (j := (n : Int) + 1) (by omega), kComp1 l, e1, ly]
/-- a word and a multiple of another one -/
def addw (p c : Int) (v u : List Int) : List Int := (v.zip u).map fun q => (q.1 + c * q.2) % p
theorem added_ok {p c : Int} (F : Fd p) {v u : List Int} (hu : Red p u) (hl : v.length ≤ 1000) : f__law_added [.int p, tI v, .int c, tI u] m = .ok (.d (tI (addw p c v u))) m := by
  have hp := F.pos
  have hi := F.hi
  have e2 := comp_tup (is := [4, 5]) (elt := X__law_added_1) (env := [.d (.int p), .d (tI v), .d (.int c), .d (tI u), .un, .un]) (m := m) (fun q : Int × Int => D.tup [.int q.1, .int q.2])
    (fun q => [.d (.int p), .d (tI v), .d (.int c), .d (tI u), .d (.int q.1), .d (.int q.2)]) (F := fun q => .int ((q.1 + c * q.2) % p)) (v.zip u) (fun q hq => by
      have := hu q.2 (List.of_mem_zip hq).2
      refine ⟨rfl, ?_⟩
      simp [X__law_added_1, ev_mulR (i := c) (j := q.2) (by omega), ev_mod hp])
  rw [← dot_zip] at e2
  have lz : (zipD (v.map D.int) (u.map D.int)).length ≤ 1000000 := by rw [dot_zip, List.length_map, List.length_zip]; omega
  have e3 : ((v.zip u).map fun q => D.int ((q.1 + c * q.2) % p)) = (addw p c v u).map D.int := by unfold addw; rw [List.map_map]; rfl
  rw [e3] at e2
  have la : (addw p c v u).length ≤ 1000000 := by unfold addw; rw [List.length_map, List.length_zip]; omega
  generalize addw p c v u = S at *
  simp only [f__law_added, b__law_added]
  simp [kComp1 lz, e2, la]
end Pg
namespace Pg
open PySem PySem.Spec L2 Ev Po
variable {m : Cells}
theorem notin_ints (x : Int) (ns : List Int) : gNotIn (.int x) (.tup (ns.map D.int)) = some (.d (.bl (!decide (x ∈ ns)))) := by
  show (if _ then _ else _) = _
  rw [ev_pl3, plainDs_int, if_pos (by rfl), any_deq]
theorem sizes_ok {n : Nat} (hD : Dice n m) : ∃ (p : Int) (k : Nat) (m' : Cells), f__law_sizes [.ref n] m = .ok (.d (.tup [.int p, .int k])) m' ∧ Fd p ∧ 1 ≤ k ∧ k ≤ 9 ∧ (k : Int) ≤ p - 1 ∧ Dice n m' ∧ Only n m m' := by
  obtain ⟨y, m1, e1, hy, D1, O1⟩ := pick_spec [.int 5, .int 7, .int 11, .int 13, .int 17, .int 97, .int 499, .int 997] hD (by simp)
  obtain ⟨p, rfl, hf⟩ : ∃ p, y = .int p ∧ fieldB p = true := by
    simp only [List.mem_cons, List.not_mem_nil, or_false] at hy
    rcases hy with rfl | rfl | rfl | rfl | rfl | rfl | rfl | rfl <;> exact ⟨_, rfl, by decide +kernel⟩
  have F := fd_of hf
  have lo := F.lo
  have hi := F.hi
  obtain ⟨c, hc⟩ : ∃ c : Int, c = if p - 1 < 9 then p - 1 else 9 := ⟨_, rfl⟩
  have c1 : 0 < c ∧ c ≤ 9 ∧ c ≤ p - 1 := by rw [hc]; split <;> omega
  obtain ⟨r, m2, e2, r0, r1, D2, O2⟩ := roll_spec c D1 c1.1 (by omega)
  refine ⟨p, (1 + r).toNat, m2, ?_, F, by omega, by omega, by omega, D2, O1.trans O2⟩
  rw [Int.toNat_of_nonneg (by omega)]
  simp only [f__law_sizes, b__law_sizes]
  rw [hc] at e2
  simp [pick_eq, roll_eq, e1, e2]
theorem rolls_ok {i : Nat} {elt : SemR} {env : Ev.Env} {n : Nat} {p : Int} (k : Int) (hD : Dice n m) (hp : 0 < p) (hp2 : p < 1000000) (h : ∀ x ∈ rangeD 0 k, ∀ m, elt (env.set i (.d x)) m = kPk (f__law_roll [.ref n, .int p] m)) : ∃ ns m', compL (gSet i) bYes elt env (rangeD 0 k) m = .ok (ns.map D.int) m' ∧ Red p ns ∧ ns.length = k.toNat ∧ Dice n m' ∧ Only n m m' := by
  obtain ⟨ys, m2, e2, hl, hP, D2, O2⟩ := comp_draw (i := i) (elt := elt) (env := env) (fun m' => Dice n m' ∧ Only n m m') (fun y => ∃ i, y = .int i ∧ (0 ≤ i ∧ i < p)) (rangeD 0 k) m (by
    rintro x hx m ⟨hD, hO⟩
    obtain ⟨a, m2, e2, a0, a1, D2, O2⟩ := roll_spec p hD hp (by omega)
    refine ⟨.int a, m2, ?_, ⟨a, rfl, a0, a1⟩, D2, hO.trans O2⟩
    unfold Ev.fz
    rw [h x hx, roll_eq, e2]
    rfl) ⟨hD, .rfl⟩
  obtain ⟨ns, rfl, hr⟩ := ints_of hP
  rw [List.length_map, rangeD_len, Int.sub_zero] at hl
  exact ⟨ns, m2, e2, fun x hx => hr x hx, hl, D2, O2⟩
theorem poly_drawn_ok {n : Nat} {p : Int} (F : Fd p) (d : Nat) (hd : d ≤ 100) (hD : Dice n m) : ∃ f m', f__law_poly_drawn [.ref n, .int p, .int d] m = .ok (.d (tI f)) m' ∧ IsP p f ∧ f.length ≤ d + 1 ∧ Dice n m' ∧ Only n m m' := by
  have hp := F.pos
  have hi := F.hi
  obtain ⟨ns, m1, e1, hr, hl, D1, O1⟩ := rolls_ok (i := 3) (elt := X__law_poly_drawn_1) (env := [.d (.ref n), .d (.int p), .d (.int d), .un]) (m := m) (p := p) ((d : Int) + 1) hD hp (by omega) (fun x hx m => by simp [X__law_poly_drawn_1])
  have l : (rangeD 0 ((d : Int) + 1)).length ≤ 1000000 := by rw [rangeD_len]; omega
  have t := fd_trimL (m := m1) ns (by omega)
  refine ⟨trim ns, m1, ?_, IsP.of hr, by have := trim_len ns; omega, D1, O1⟩
  simp only [f__law_poly_drawn, b__law_poly_drawn]
  simp [kRa1_1 (j := (d : Int) + 1) (by omega), kComp1 l, e1, t]
end Pg
namespace Pg
open PySem PySem.Spec L2 Ev Po
variable {m : Cells}
theorem dt_pev {x : Int} : ∀ (f : List Int) (w : Nat), f.length ≤ w → ((List.range w).map fun k => x ^ k * co f k).sum = pev f x
  | [], w, _ => by
    rw [sumN_zero fun k _ => by rw [co_nil, Int.mul_zero]]; rfl
  | a :: f, 0, h => by simp at h
  | a :: f, w + 1, h => by
    have t := dt_pev (x := x) f w (by simpa using h)
    rw [List.range_succ_eq_map, List.map_cons, List.sum_cons, List.map_map, pev, ← t, ← sumN_sc]
    have e : (fun k => x ^ k * co (a :: f) k) ∘ Nat.succ = fun k => x * (x ^ k * co f k) := by
      funext k
      show x ^ (k + 1) * co (a :: f) (k + 1) = _
      rw [co_succ, Int.pow_succ, Int.mul_comm (x ^ k) x, Int.mul_assoc]
    rw [e, Int.pow_zero, Int.one_mul, co_zero]
theorem dt_pws {p x : Int} {w : Nat} {f : List Int} (h : f.length ≤ w) : dt w (pws p x w) f % p = pev f x % p := by
  rw [← dt_pev f w h]
  unfold dt
  refine sumN_mod fun k hk => ?_
  have : co (pws p x w) k = x ^ k % p := by
    unfold pws
    rw [co_tab, if_pos (List.mem_range.mp hk)]
  rw [this, mul_mod_l]
theorem fd_trimT (ns : List Int) (hl : ns.length < 90000) : f__law_fd_trim [tI ns] m = .ok (.d (tI (trim ns))) m := by
  obtain ⟨s, k1⟩ := fd_trim_loop (m := m) (.d (tI ns)) ns hl
  simp only [f__law_fd_trim, b__law_fd_trim]
  have := trim_len ns
  simp [show ns.length ≤ 1000000 by omega, kRa1_1 (j := (ns.length : Int)) (by omega), k1, show (trim ns).length ≤ 1000000 by omega]
/-- the places out of a lot -/
def outp (n : Nat) (crew : List Int) : List Int := (plc n).filter fun x => !decide (x ∈ crew)
theorem outp_mem {n : Nat} {crew : List Int} {x : Int} : x ∈ outp n crew ↔ 1 ≤ x ∧ x ≤ n ∧ x ∉ crew := by
  unfold outp
  rw [List.mem_filter, rgI_mem]
  constructor
  · rintro ⟨⟨h1, h2⟩, h3⟩
    exact ⟨h1, by omega, by simpa using h3⟩
  · rintro ⟨h1, h2, h3⟩
    exact ⟨⟨h1, by omega⟩, by simpa using h3⟩
/-- f fits a word out of a lot -/
def Fits (p : Int) (v crew f : List Int) : Prop := ∀ x ∈ outp v.length crew, pev f x % p = co v (x - 1).toNat
theorem fitting_ok {p : Int} {v crew : List Int} {d : Nat} (F : Fd p) (hv : Red p v) (hl : v.length ≤ 60) (hd : d ≤ 100) (hm : m.all cellPlain = true) :
    (∃ f, f__law_fitting [.int p, tI v, .int d, tI crew] m = .ok (.d (tI f)) m ∧ IsP p f ∧ f.length ≤ d + 1 ∧ Fits p v crew f) ∨
    (f__law_fitting [.int p, tI v, .int d, tI crew] m = .ok (.d .non) m ∧ ∀ f, f.length ≤ d + 1 → ¬ Fits p v crew f) := by
  have hp := F.pos
  have hi := F.hi
  have lo := F.lo
  have e1 := comp_list_if (i := 6) (c := Y__law_fitting_1) (elt := rVar 6) (env := [.d (.int p), .d (tI v), .d (.int d), .d (tI crew), .un, .un, .un]) (m := m) D.int (P := fun x => !decide (x ∈ crew)) (F := D.int) (plc v.length) (fun x _ => by simp [Y__law_fitting_1, notin_ints]) (fun x _ _ => by simp)
  rw [← rangeD_ints] at e1
  have l : (rangeD 1 ((v.length : Int) + 1)).length ≤ 1000000 := by rw [rangeD_len]; omega
  change _ = Res.ok ((outp v.length crew).map D.int) m at e1
  have ol : (outp v.length crew).length ≤ v.length := by
    have := List.length_filter_le (fun x => !decide (x ∈ crew)) (plc v.length)
    rw [plc_len] at this
    exact this
  cases ho : outp v.length crew with
  | nil =>
    rw [ho] at e1
    refine .inl ⟨[], ?_, ?_, Nat.zero_le _, fun x hx => ?_⟩
    · simp only [f__law_fitting, b__law_fitting]
      simp [kRa2_1 (i := 1) (j := (v.length : Int) + 1) (by omega), kComp1 l, e1]
    · exact ⟨fun a h => (nomatch h), rfl⟩
    · rw [ho] at hx; exact nomatch hx
  | cons x0 xt =>
    obtain ⟨xs, hxs⟩ : ∃ xs, xs = outp v.length crew := ⟨_, rfl⟩
    have hx : ∀ x ∈ xs, 1 ≤ x ∧ x ≤ v.length := fun x h => by
      rw [hxs] at h
      obtain ⟨a, b, _⟩ := outp_mem.mp h
      exact ⟨a, b⟩
    rw [← hxs] at e1 ol
    have xne : xs ≠ [] := by rw [hxs, ho]; exact fun z => nomatch z
    obtain ⟨rs, hrs⟩ : ∃ rs, rs = xs.map fun x => pws p x (d + 1) := ⟨_, rfl⟩
    obtain ⟨gs, hgs⟩ : ∃ gs, gs = xs.map fun x => co v (x - 1).toNat := ⟨_, rfl⟩
    have e2 := comp_list (i := 6) (elt := X__law_fitting_2) (env := [.d (.int p), .d (tI v), .d (.int d), .d (tI crew), .d (lI xs), .un, .un]) (m := m) D.int (F := fun x => D.lst ((pws p x (d + 1)).map D.int)) xs (fun x h => by
      have := hx x h
      have w := powers_ok (m := m) (x := x) F (by omega) (d + 1) (by omega)
      have e : ((d + 1 : Nat) : Int) = (d : Int) + 1 := by omega
      rw [e] at w
      simp [X__law_fitting_2, w])
    have e3 := comp_list (i := 6) (elt := X__law_fitting_1) (env := [.d (.int p), .d (tI v), .d (.int d), .d (tI crew), .d (lI xs), .un, .un]) (m := m) D.int (F := fun x => D.int (co v (x - 1).toNat)) xs (fun x h => by
      have := hx x h
      have a := atI_nn (ns := v) (i := x - 1) (by omega) (by omega)
      simp [X__law_fitting_1, a])
    have e2' : (xs.map fun x => D.lst ((pws p x (d + 1)).map D.int)) = rs.map fun r => D.lst (r.map D.int) := by rw [hrs, List.map_map]; rfl
    have e3' : (xs.map fun x => D.int (co v (x - 1).toNat)) = gs.map D.int := by rw [hgs, List.map_map]; rfl
    rw [e2'] at e2
    rw [e3'] at e3
    have lx : (xs.map D.int).length ≤ 1000000 := by rw [List.length_map]; omega
    have pl := plainDs_int 59 xs
    have ne : xs.isEmpty = false := by
      cases xs with
      | nil => exact absurd rfl xne
      | cons a b => rfl
    have key : ∀ f : List Int, f.length = d + 1 → ((∀ q ∈ rs.zip gs, dt (d + 1) q.1 f % p = q.2 % p) ↔ Fits p v crew f) := fun f hf => by
      have hz : rs.zip gs = xs.map fun x => (pws p x (d + 1), co v (x - 1).toNat) := by rw [hrs, hgs, List.zip_map']
      rw [hz]
      unfold Fits
      rw [← hxs]
      have one : ∀ x ∈ xs, (dt (d + 1) (pws p x (d + 1)) f % p = co v (x - 1).toNat % p ↔ pev f x % p = co v (x - 1).toNat) := fun x h => by
        have := hx x h
        have c : 0 ≤ co v (x - 1).toNat ∧ co v (x - 1).toNat < p := by
          rw [co_lt (by omega)]
          exact hv _ (List.getElem_mem _)
        rw [dt_pws (by omega), Int.emod_eq_of_lt c.1 c.2]
      constructor
      · exact fun H x h => (one x h).mp (H _ (List.mem_map.mpr ⟨x, h, rfl⟩))
      · intro H q hq
        obtain ⟨x, h, rfl⟩ := List.mem_map.mp hq
        exact (one x h).mpr (H x h)
    have gsr : Red p gs := fun a ha => by
      rw [hgs] at ha
      obtain ⟨x, h, rfl⟩ := List.mem_map.mp ha
      have := hx x h
      rw [co_lt (by omega)]
      exact hv _ (List.getElem_mem _)
    have sl := solved_ok (m := m) (w := d + 1) (rs := rs) (gs := gs) F (fun r hr => by
      rw [hrs] at hr
      obtain ⟨x, _, rfl⟩ := List.mem_map.mp hr
      exact ⟨pws_len .., pws_red hp _ _⟩) gsr (by rw [hgs, hrs, List.length_map, List.length_map]) (by rw [hrs]; intro z; exact xne (List.map_eq_nil_iff.mp z)) (by omega) (by rw [hrs, List.length_map]; omega) hm
    rcases sl with ⟨f, e4, s1, s2, s3⟩ | ⟨e4, hno⟩
    · have tr := fd_trimT (m := m) f (by omega)
      refine .inl ⟨trim f, ?_, IsP.of s2, by have := trim_len f; omega, fun x hx => ?_⟩
      · simp only [f__law_fitting, b__law_fitting]
        simp [kRa2_1 (i := 1) (j := (v.length : Int) + 1) (by omega), kComp1 l, e1, pl, ne, kComp1 lx, e2, e3, e4, tr]
      · rw [pev_ext x (g := f) fun k => by rw [co_trim]]
        exact ((key f s1).mp s3) x hx
    · refine .inr ⟨?_, fun f hf hfit => ?_⟩
      · simp only [f__law_fitting, b__law_fitting]
        simp [kRa2_1 (i := 1) (j := (v.length : Int) + 1) (by omega), kComp1 l, e1, pl, ne, kComp1 lx, e2, e3, e4]
      · have gl : (pad (nm p f) (d + 1)).length = d + 1 := by rw [pad_len]; have := nm_len p f; omega
        refine hno (pad (nm p f) (d + 1)) ⟨gl, fun a ha => ?_, (key _ gl).mpr fun x hx => ?_⟩
        · unfold pad at ha
          rcases List.mem_append.mp ha with z | z
          · exact (nm_isP hp f).red a z
          · rw [(List.mem_replicate.mp z).2]; omega
        · rw [pev_ext x (g := f) fun k => by rw [co_pad, co_nm, Int.emod_emod_of_dvd _ (Int.dvd_refl p)]]
          exact hfit x hx
end Pg
namespace Pg
open PySem PySem.Spec L2 Ev Po
variable {m : Cells}
theorem bent_ok {n : Nat} {p : Int} {v : List Int} {k : Nat} (F : Fd p) (hv : Red p v) (hl : v.length ≤ 60) (hk : k ≤ 1000) (hD : Dice n m) : ∃ w m', f__law_bent [.ref n, .int p, tI v, .int k] m = .ok (.d (tI w)) m' ∧ Red p w ∧ w.length = v.length ∧ (∃ lot : List Int, lot.length ≤ k ∧ lot.Nodup ∧ ∀ i, i < v.length → (i : Int) ∉ lot → co w i = co v i) ∧ Dice n m' ∧ Only n m m' := by
  have hp := F.pos
  have hi := F.hi
  have lo := F.lo
  obtain ⟨ys, m1, e1, hperm, D1, O1⟩ := mixed_ok (rgI 0 (v.length : Int)) (by rw [rgI_len]; omega) hD
  have hys : ∀ y ∈ ys.take k, 0 ≤ y ∧ y < v.length := fun y hy => by
    obtain ⟨a, b⟩ := rgI_mem.mp (hperm.mem_iff.mp (List.mem_of_mem_take hy))
    omega
  obtain ⟨lot, hlot⟩ : ∃ lot, lot = ys.take k := ⟨_, rfl⟩
  rw [← hlot] at hys
  obtain ⟨e, m2, k1, w, s5, rfl, hw, hwl, hwc, D2, O2⟩ := for_ints (g := gSet 5) (b := L__law_bent_1) lot
    (fun pre env m' => ∃ (w : List Int) (s5 : Slot), env = [.d (.ref n), .d (.int p), .d (tI v), .d (.int k), .own (w.map D.int), s5] ∧ Red p w ∧ w.length = v.length ∧ (∀ i, i < v.length → (i : Int) ∉ pre → co w i = co v i) ∧ Dice n m' ∧ Only n m m')
    (by
      rintro pre x post hpre env m' ⟨w, s5, rfl, hw, hwl, hwc, hD, hO⟩
      have hx := hys x (by rw [hpre]; simp)
      obtain ⟨r, m2, e2, r0, r1, D2, O2⟩ := roll_spec (p - 1) hD (by omega) (by omega)
      have a1 := atI_nn (ns := w) (i := x) hx.1 (by omega)
      have a2 := ixN_ok (n := w.length) (i := x) hx.1 (by omega)
      refine ⟨_, [.d (.ref n), .d (.int p), .d (tI v), .d (.int k), .own ((w.set x.toNat ((co w x.toNat + 1 + r) % p)).map D.int), .d (.int x)], m2, rfl, ?_, _, _, rfl, fun a ha => ?_, by rw [List.length_set]; exact hwl, fun i hi hn => ?_, D2, hO.trans O2⟩
      · rw [List.map_set]
        simp [L__law_bent_1, roll_eq, e2, a1, a2, ev_mod hp]
      · rcases List.mem_or_eq_of_mem_set ha with z | z
        · exact hw a z
        · rw [z]; exact ⟨Int.emod_nonneg _ (by omega), Int.emod_lt_of_pos _ hp⟩
      · have h1 : (i : Int) ∉ pre := fun z => hn (List.mem_append_left _ z)
        have h2 : ¬ (i : Int) = x := fun z => hn (by rw [z]; simp)
        rw [co_set _ _ _ _ (by omega), if_neg (by omega)]
        exact hwc i hi h1)
    (env := [.d (.ref n), .d (.int p), .d (tI v), .d (.int k), .own (v.map D.int), .un]) (m := m1) ⟨v, .un, rfl, hv, rfl, fun _ _ _ => rfl, D1, O1⟩
  refine ⟨w, m2, ?_, hw, hwl, ⟨lot, by rw [hlot, List.length_take]; omega, ?_, hwc⟩, D2, O2⟩
  · have yl : ys.length = v.length := by rw [hperm.length_eq, rgI_len]; omega
    have c : cutD (ys.map D.int) none (some (k : Int)) = lot.map D.int := by
      unfold cutD
      rw [HT.sIx_none, HT.sIx_nat, List.drop_zero, Nat.sub_zero, hlot, ← List.map_take, List.length_map]
      congr 1
      rw [List.take_eq_take_iff, Nat.min_assoc, Nat.min_self]
    have k0 := kRg1_1 (m := m) (k := kL) (j := (v.length : Int)) (by omega)
    rw [rangeD_ints] at k0
    have lw : (w.map D.int).length ≤ 1000000 := by rw [List.length_map]; omega
    simp only [f__law_bent, b__law_bent]
    simp [show v.length ≤ 1000000 by omega, k0, kL, e1, c, k1, show w.length ≤ 1000000 by omega]
  · rw [hlot]
    refine List.Nodup.sublist (List.take_sublist _ _) (hperm.nodup_iff.mpr ?_)
    unfold rgI
    exact List.Pairwise.map _ (fun a b (h : a ≠ b) => by omega) List.nodup_range
end Pg
/-! Pg: the laws' own syndromes, what they are worth. -/
namespace Pg
open PySem PySem.Spec L2 Ev Po
variable {m : Cells}
theorem v_plc (v : List Int) : v = (plc v.length).map fun x => co v (x - 1).toNat := by
  apply List.ext_getElem?
  intro i
  rw [List.getElem?_map]
  by_cases h : i < v.length
  · rw [plc_get h]
    show _ = some (co v ((1 + (i : Int)) - 1).toNat)
    rw [show ((1 + (i : Int)) - 1).toNat = i by omega, co_lt h, List.getElem?_eq_getElem h]
  · rw [List.getElem?_eq_none (by omega), List.getElem?_eq_none (by rw [plc_len]; omega)]
    rfl
theorem dot_chk (p : Int) (v : List Int) (t : Nat) : dot (chk p (plc v.length) t) v % p = ((plc v.length).map fun x => co v (x - 1).toNat * (x ^ t % p) * unb p (plc v.length) x).sum % p := by
  obtain ⟨xs, hxs⟩ : ∃ xs, xs = plc v.length := ⟨_, rfl⟩
  have e := v_plc v
  rw [← hxs] at e ⊢
  have e1 : dot (chk p xs t) v = dot (chk p xs t) (xs.map fun x => co v (x - 1).toNat) := by rw [← e]
  rw [e1]
  unfold chk
  rw [dot_map]
  refine sum_congr fun x _ => ?_
  rw [mul_mod_l]
  have h : co v (x - 1).toNat * (x ^ t % p) * unb p xs x % p = co v (x - 1).toNat * (x ^ t) * unb p xs x % p := mulm (mul_mod_r _ _ _) rfl
  rw [h]
  congr 1
  rw [Int.mul_comm (unb p xs x), Int.mul_comm (x ^ t * _), ← Int.mul_assoc]
theorem law_syn_ok {p : Int} {d : Nat} {v : List Int} (F : Fd p) (h : Wo p v) (hd : d ≤ 1000) : f__law_syndromes [.int p, tI v, .int d] m = .ok (.d (tI (syn p d v))) m := by
  have hp := F.pos
  have hi := F.hi
  have lo := F.lo
  have h2 := h.le
  have h3 := h.lt
  obtain ⟨xs, hxs⟩ : ∃ xs, xs = plc v.length := ⟨_, rfl⟩
  have hx : ∀ x ∈ xs, 1 ≤ x ∧ x ≤ v.length := fun x hx => by
    rw [hxs] at hx
    obtain ⟨a, b⟩ := rgI_mem.mp hx
    omega
  have hr : Red p xs := by rw [hxs]; exact plc_red h3
  have k0 : rangeD 1 ((v.length : Int) + 1) = xs.map D.int := by rw [hxs, rangeD_ints]
  have inner : ∀ x ∈ xs, ∀ (s3 s4 s5 s8 : Slot), ∃ s, forL (gSet 8) L__law_syndromes_1 (xs.map D.int) [.d (.int p), .d (tI v), .d (.int d), s3, s4, s5, .d (.int x), .d (.int 1), s8] m = .ok (.nx [.d (.int p), .d (tI v), .d (.int d), s3, s4, s5, .d (.int x), .d (.int (bot p xs x)), s]) m := fun x hxx s3 s4 s5 s8 => by
    obtain ⟨e, m', k1, rfl, s, rfl⟩ := for_ints (g := gSet 8) (b := L__law_syndromes_1) xs
      (fun pre env m' => m' = m ∧ ∃ s, env = [.d (.int p), .d (tI v), .d (.int d), s3, s4, s5, .d (.int x), .d (.int (dif x (oth x pre) % p)), s])
      (by
        rintro pre y post hpre env m' ⟨rfl, s, rfl⟩
        have hy := hx y (by rw [hpre]; simp)
        have hxb := hx x hxx
        refine ⟨_, _, m', rfl, ?_, rfl, .d (.int y), rfl⟩
        rw [dif_snoc]
        by_cases c : y = x
        · rw [if_pos c]
          generalize dif x (oth x pre) % p = U
          simp [L__law_syndromes_1, c]
        · rw [if_neg c, ← mul_mod_l]
          generalize dif x (oth x pre) % p = U
          simp [L__law_syndromes_1, c, ev_mulR (i := U) (j := x - y) (by omega), ev_mod hp])
      (env := [.d (.int p), .d (tI v), .d (.int d), s3, s4, s5, .d (.int x), .d (.int 1), s8]) (m := m) ⟨rfl, s8, by
        have o : (1 : Int) % p = 1 := Int.emod_eq_of_lt (by omega) (by omega)
        show _ = [_, _, _, _, _, _, _, Slot.d (.int ((1 : Int) % p)), _]
        rw [o]⟩
    exact ⟨s, k1⟩
  obtain ⟨A, hA⟩ : ∃ A : Nat → List Int → Int, A = fun t pre => (pre.map fun x => co v (x - 1).toNat * (x ^ t % p) * unb p xs x).sum := ⟨_, rfl⟩
  have mid : ∀ (t : Nat), t < 1000 → ∀ (s3 s6 s7 s8 : Slot), ∃ s6' s7' s8', forL (gSet 6) L__law_syndromes_2 (xs.map D.int) [.d (.int p), .d (tI v), .d (.int d), s3, .d (.int t), .d (.int 0), s6, s7, s8] m = .ok (.nx [.d (.int p), .d (tI v), .d (.int d), s3, .d (.int t), .d (.int (A t xs)), s6', s7', s8']) m := fun t ht s3 s6 s7 s8 => by
    obtain ⟨e, m', k1, rfl, s6, s7, s8, rfl⟩ := for_ints (g := gSet 6) (b := L__law_syndromes_2) xs
      (fun pre env m' => m' = m ∧ ∃ s6 s7 s8, env = [.d (.int p), .d (tI v), .d (.int d), s3, .d (.int t), .d (.int (A t pre)), s6, s7, s8])
      (by
        rintro pre x post hpre env m' ⟨rfl, s6, s7, s8, rfl⟩
        have hxx : x ∈ xs := by rw [hpre]; simp
        have hxb := hx x hxx
        obtain ⟨s, k1⟩ := inner x hxx s3 (.d (.int t)) (.d (.int (A t pre))) s8
        have b0 := bot_pos F hr hxx
        have u := fd_undone_ok (m := m') F b0.1 b0.2
        have u1 := unb_spec F hr hxx
        have pw := powers_ok (m := m') (x := x) F (by omega) (t + 1) (by omega)
        have e : ((t + 1 : Nat) : Int) = (t : Int) + 1 := by omega
        rw [e] at pw
        have a1 := atI_nn (ns := v) (i := x - 1) (by omega) (by omega)
        have lpw : (pws p x (t + 1)).length = t + 1 := pws_len ..
        have a2 := atI_nn (ns := pws p x (t + 1)) (i := (t : Int)) (by omega) (by omega)
        have c2 : co (pws p x (t + 1)) (t : Int).toNat = x ^ t % p := by unfold pws; rw [co_tab, if_pos (by omega)]; rfl
        rw [c2] at a2
        have w0 : 0 ≤ x ^ t % p ∧ x ^ t % p < p := ⟨Int.emod_nonneg _ (by omega), Int.emod_lt_of_pos _ hp⟩
        refine ⟨_, [.d (.int p), .d (tI v), .d (.int d), s3, .d (.int t), .d (.int (A t (pre ++ [x]))), .d (.int x), .d (.int (bot p xs x)), s], m', rfl, ?_, rfl, _, _, _, rfl⟩
        have eA : A t (pre ++ [x]) = A t pre + co v (x - 1).toNat * (x ^ t % p) * unb p xs x := by rw [hA]; simp
        rw [eA]
        have eu : inv p (bot p xs x) = unb p xs x := rfl
        rw [eu] at u
        generalize bot p xs x = B at *
        generalize unb p xs x = U at *
        generalize x ^ t % p = W at *
        generalize co v (x - 1).toNat = V at *
        generalize pws p x (t + 1) = PW at *
        simp [L__law_syndromes_2, kRa2_1 (i := 1) (j := (v.length : Int) + 1) (by omega), k0, k1, a1, pw, a2, u, ev_mulR (i := V) (j := W) (by omega), ev_mulR (i := V * W) (j := U) (by omega)])
      (env := [.d (.int p), .d (tI v), .d (.int d), s3, .d (.int t), .d (.int 0), s6, s7, s8]) (m := m) ⟨rfl, s6, s7, s8, by rw [hA]; rfl⟩
    exact ⟨s6, s7, s8, k1⟩
  obtain ⟨N, hN⟩ : ∃ N, N = v.length - d - 1 := ⟨_, rfl⟩
  obtain ⟨B, hB⟩ : ∃ B : Nat → List Int, B = fun j => (List.range j).map fun t => A t xs % p := ⟨_, rfl⟩
  have eB : B N = syn p d v := by
    rw [hB, hN]
    unfold syn
    refine List.map_congr_left fun t _ => ?_
    rw [dot_chk, ← hxs, hA]
  have lB : ∀ j, (B j).length = j := fun j => by rw [hB, List.length_map, List.length_range]
  obtain ⟨e, m', k1, rfl, s4, s5, s6, s7, s8, rfl⟩ := for_range (g := gSet 4) (b := L__law_syndromes_3) 0 ((v.length : Int) - d - 1)
    (fun j env m' => m' = m ∧ ∃ s4 s5 s6 s7 s8, env = [.d (.int p), .d (tI v), .d (.int d), .own ((B j).map D.int), s4, s5, s6, s7, s8])
    (by
      rintro j hj env m' ⟨rfl, s4, s5, s6, s7, s8, rfl⟩
      obtain ⟨s6', s7', s8', k1⟩ := mid j (by omega) (.own ((B j).map D.int)) s6 s7 s8
      refine ⟨_, [.d (.int p), .d (tI v), .d (.int d), .own ((B (j + 1)).map D.int), .d (.int j), .d (.int (A j xs)), s6', s7', s8'], m', rfl, ?_, rfl, _, _, _, _, _, rfl⟩
      have e1 : B (j + 1) = B j ++ [A j xs % p] := by rw [hB]; simp [List.range_succ]
      have := lB j
      rw [e1]
      generalize B j = BB at *
      simp [L__law_syndromes_3, kRa2_1 (i := 1) (j := (v.length : Int) + 1) (by omega), k0, k1, ev_mod hp, show BB.length < 1000000 by omega])
    (env := [.d (.int p), .d (tI v), .d (.int d), .own [], .un, .un, .un, .un, .un]) (m := m) ⟨rfl, .un, .un, .un, .un, .un, by rw [hB]; rfl⟩
  rw [show ((v.length : Int) - d - 1 - 0).toNat = N by omega, eB] at k1
  have ls := syn_len p d v
  generalize syn p d v = S at *
  simp only [f__law_syndromes, b__law_syndromes]
  simp [kRa1_1 (j := (v.length : Int) - d - 1) (by omega), k1, show S.length ≤ 1000000 by omega]
/-! ### what they are worth -/
theorem syn_red {p : Int} (hp : 0 < p) (d : Nat) (v : List Int) : Red p (syn p d v) := fun a ha => by
  unfold syn at ha
  obtain ⟨t, _, rfl⟩ := List.mem_map.mp ha
  exact ⟨Int.emod_nonneg _ (by omega), Int.emod_lt_of_pos _ hp⟩
theorem addw_len {p c : Int} {v u : List Int} (h : u.length = v.length) : (addw p c v u).length = v.length := by
  unfold addw; rw [List.length_map, List.length_zip, h, Nat.min_self]
theorem addw_red {p : Int} (hp : 0 < p) (c : Int) (v u : List Int) : Red p (addw p c v u) := fun a ha => by
  unfold addw at ha
  obtain ⟨t, _, rfl⟩ := List.mem_map.mp ha
  exact ⟨Int.emod_nonneg _ (by omega), Int.emod_lt_of_pos _ hp⟩
theorem dot_addw (p c : Int) : ∀ a v u : List Int, u.length = v.length → dot a (addw p c v u) % p = (dot a v + c * dot a u) % p
  | [], v, u, _ => by simp [dot]
  | a :: as, [], [], _ => by simp [dot, addw]
  | a :: as, x :: v, y :: u, h => by
    have t := dot_addw p c as v u (by simpa using h)
    have e1 : dot (a :: as) (addw p c (x :: v) (y :: u)) = a * ((x + c * y) % p) + dot as (addw p c v u) := by simp [dot, addw]
    have e2 : dot (a :: as) (x :: v) = a * x + dot as v := by simp [dot]
    have e3 : dot (a :: as) (y :: u) = a * y + dot as u := by simp [dot]
    rw [e1, e2, e3, Int.add_emod, t, mul_mod_r, ← Int.add_emod]
    congr 1
    rw [Int.mul_add, Int.mul_add, Int.mul_left_comm c a y]
    omega
theorem syn_addw {p c : Int} {d : Nat} {v u : List Int} (h : u.length = v.length) : syn p d (addw p c v u) = addw p c (syn p d v) (syn p d u) := by
  unfold syn
  rw [addw_len h, h]
  conv => rhs; unfold addw
  rw [List.zip_map', List.map_map]
  refine List.map_congr_left fun t _ => ?_
  rw [dot_addw p c _ v u h]
  show _ = (dot _ v % p + c * (dot _ u % p)) % p
  rw [Int.add_emod (dot _ v % p), mul_mod_r, mm, ← Int.add_emod]
theorem shr_len (p : Int) (n : Nat) (f : List Int) : (shr p n f).length = n := by unfold shr; rw [List.length_map, plc_len]
theorem shr_red {p : Int} (hp : 0 < p) (n : Nat) (f : List Int) : Red p (shr p n f) := fun a ha => by
  unfold shr at ha
  obtain ⟨t, _, rfl⟩ := List.mem_map.mp ha
  exact ⟨Int.emod_nonneg _ (by omega), Int.emod_lt_of_pos _ hp⟩
theorem syn_shr {p : Int} {n d : Nat} {f : List Int} (F : Fd p) (hn : (n : Int) ≤ p - 1) (hf : f.length ≤ d + 1) : ∀ a ∈ syn p d (shr p n f), a = 0 := fun a ha => by
  unfold syn at ha
  rw [shr_len] at ha
  obtain ⟨t, ht, rfl⟩ := List.mem_map.mp ha
  have ht := List.mem_range.mp ht
  have e := chk_sum (t := t) (n := n - 1) (f := f) F (plc_red hn) (plc_nodup n) (by rw [plc_len]; omega) (fun k hk => by rw [co_ge (by omega)]; rfl) (v := fun x => pev f x % p) (fun x _ => mm)
  rw [show shr p n f = (plc n).map fun x => pev f x % p from rfl, e]
  rw [co_ge (by omega)]
  split <;> rfl
/-- syndromes are 0 just where a poly fits -/
theorem syn_fits {p : Int} {d : Nat} {v : List Int} (F : Fd p) (h : Wo p v) : (∀ a ∈ syn p d v, a = 0) ↔ ∃ f, f.length ≤ d + 1 ∧ Fits p v [] f := by
  have hp := F.pos
  have h1 := h.pos
  have h2 := h.le
  have h3 := h.lt
  have om : ∀ x, x ∈ outp v.length [] ↔ x ∈ plc v.length := fun x => by
    rw [outp_mem, rgI_mem]
    constructor
    · rintro ⟨a, b, _⟩; omega
    · rintro ⟨a, b⟩; exact ⟨a, by omega, by simp⟩
  constructor
  · intro hz
    obtain ⟨f, _, fP, fl, fv⟩ := through_ok (m := []) F (plc_red h3) (plc_nodup _) h.red (by rw [plc_len]; omega) (by rw [plc_len]) (by intro z; have := congrArg List.length z; rw [plc_len, List.length_nil] at this; omega)
    have low : ∀ j, d + 1 ≤ j → co f j = 0 := by
      have ind : ∀ i j, v.length ≤ i + j → d + 1 ≤ j → co f j = 0 := by
        intro i
        induction i with
        | zero => intro j hj _; rw [co_ge (by rw [plc_len] at fl; omega)]
        | succ i ih =>
          intro j hj hd
          by_cases c : v.length ≤ i + j
          · exact ih j c hd
          · have e := chk_sum (t := v.length - 1 - j) (n := v.length - 1) (f := f) F (plc_red h3) (plc_nodup v.length) (by rw [plc_len]; omega) (fun k hk => by rw [ih k (by omega) (by omega)]; rfl) (v := fun x => pev f x % p) (fun x _ => mm)
            rw [fv, if_neg (by omega), show v.length - 1 - (v.length - 1 - j) = j by omega] at e
            have m0 : dot (chk p (plc v.length) (v.length - 1 - j)) v % p ∈ syn p d v := by
              unfold syn
              exact List.mem_map.mpr ⟨v.length - 1 - j, List.mem_range.mpr (by omega), rfl⟩
            rw [hz _ m0] at e
            have := fP.red.mod hp j
            omega
      intro j hj
      exact ind v.length j (by omega) hj
    refine ⟨f, len_of_co fP low, fun x hx => ?_⟩
    have hx := (om x).mp hx
    have e2 := v_plc v
    rw [← fv] at e2
    have q := rgI_mem.mp hx
    have e3 := congrArg (fun l => co l (x - 1).toNat) fv
    have g : ((plc v.length).map fun x => pev f x % p)[(x - 1).toNat]? = some (pev f x % p) := by
      rw [List.getElem?_map, plc_get (by omega)]
      show some _ = _
      rw [show 1 + ((x - 1).toNat : Int) = x by omega]
    rw [co_get g] at e3
    exact e3
  · rintro ⟨f, hf, hfit⟩ a ha
    refine syn_shr F h3 hf a ?_
    have e : shr p v.length f = v := by
      conv => rhs; rw [v_plc v]
      unfold shr
      refine List.map_congr_left fun x hx => ?_
      exact hfit x ((om x).mpr hx)
    rw [e]; exact ha
theorem plain_only {n : Nat} {m m' : Cells} (h : m.all cellPlain = true) (D : Dice n m') (O : Only n m m') : m'.all cellPlain = true := by
  rw [List.all_eq_true] at h ⊢
  intro c hc
  obtain ⟨k, hk⟩ := List.mem_iff_getElem?.mp hc
  by_cases e : k = n
  · subst e
    obtain ⟨a, b, c', e⟩ := D
    rw [hk] at e
    cases e
    rfl
  · rw [O.2 k e] at hk
    exact h c (List.mem_of_getElem? hk)
end Pg
/-! k13: the law. -/
namespace K13
open PySem PySem.Spec L2 Ev Po Pg
variable {m : Cells}
theorem maxI_zero {p : Int} {l : List Int} (hr : Red p l) : decide (maxI (0 :: l) = 0) = decide (∀ a ∈ l, a = 0) := by
  obtain ⟨h1, h2⟩ := maxI_spec (ns := 0 :: l) (by simp)
  apply decide_eq_decide.mpr
  constructor
  · intro h a ha
    have := h2 a (List.mem_cons_of_mem _ ha)
    have := hr a ha
    omega
  · intro h
    rcases List.mem_cons.mp h1 with z | z
    · exact z
    · exact h _ z
theorem right_ok {n : Nat} (hD : Dice n m) (hm : m.all cellPlain = true) : ∃ m', f__law_right [.ref n] m = .ok (.d (.bl true)) m' ∧ Dice n m' ∧ Only n m m' := by
  obtain ⟨p, k, m1, e1, F, k1, k9, kp, D1, O1⟩ := sizes_ok hD
  have hp := F.pos
  have hi := F.hi
  have lo := F.lo
  obtain ⟨d', m2, e2, d0, d1, D2, O2⟩ := roll_spec (k : Int) D1 (by omega)
  obtain ⟨c, m3, e3, c0, c1, D3, O3⟩ := roll_spec p D2 hp
  obtain ⟨d, rfl⟩ : ∃ d : Nat, d' = d := ⟨d'.toNat, by omega⟩
  obtain ⟨v, m4, e4, vr, vl, D4, O4⟩ := rolls_ok (i := 13) (elt := X__law_right_1) (env := [.d (.ref n), .d (.int p), .d (.int k), .d (.int d), .d (.int c), .un, .un, .un, .un, .un, .un, .un, .d (.int 0), .un]) (p := p) (k : Int) D3 hp (by omega) (fun x _ m => by simp [X__law_right_1])
  obtain ⟨u, m5, e5, ur, ul, D5, O5⟩ := rolls_ok (i := 13) (elt := X__law_right_1) (env := [.d (.ref n), .d (.int p), .d (.int k), .d (.int d), .d (.int c), .un, .un, .un, .un, .un, .un, .un, .d (.int 1), .un]) (p := p) (k : Int) D4 hp (by omega) (fun x _ m => by simp [X__law_right_1])
  rw [Int.toNat_natCast] at vl ul
  have ne : ∀ {w : List Int}, w.length = k → w ≠ [] := fun h z => by rw [z] at h; simp at h; omega
  have Wv : Wo p v := ⟨vr, ne vl, by omega, by omega⟩
  have Wu : Wo p u := ⟨ur, ne ul, by omega, by omega⟩
  have sv := syndromes_ok (m := m5) (d := d) F Wv (by omega)
  have su := syndromes_ok (m := m5) (d := d) F Wu (by omega)
  have lv := law_syn_ok (m := m5) (d := d) F Wv (by omega)
  have ad := added_ok (m := m5) (c := c) F (v := v) (u := u) ur (by omega)
  have al := addw_len (p := p) (c := c) (v := v) (u := u) (by omega)
  have Wa : Wo p (addw p c v u) := ⟨addw_red hp c v u, ne (by omega), by omega, by omega⟩
  have sa := syndromes_ok (m := m5) (d := d) F Wa (by omega)
  rw [syn_addw (show u.length = v.length by omega)] at sa
  have ad2 := added_ok (m := m5) (c := c) F (v := syn p d v) (u := syn p d u) (syn_red hp d u) (by rw [syn_len]; omega)
  have l2 : ((syn p d u).length : Int) = k - d - 1 := by rw [syn_len]; omega
  have l1 := syn_len p d v
  have q2 : (addw p c (syn p d v) (syn p d u)).length ≤ 1000000 := by rw [addw_len (by rw [syn_len, syn_len]; omega)]; omega
  obtain ⟨f, m6, e6, fP, fl, D6, O6⟩ := poly_drawn_ok F d (by omega) D5
  have tw := told_ok (m := m6) F k (by omega) fP.red
  have Ww : Wo p (shr p k f) := ⟨shr_red hp k f, ne (shr_len ..), by rw [shr_len]; omega, by rw [shr_len]; omega⟩
  have wl := shr_len p k f
  have sw := syndromes_ok (m := m6) (d := d) F Ww (by rw [shr_len]; omega)
  have w0 := syn_shr (n := k) (d := d) F kp fl
  obtain ⟨r, m7, e7, r0, r1, D7, O7⟩ := roll_spec ((k : Int) + 1) D6 (by omega)
  obtain ⟨r, rfl⟩ : ∃ r' : Nat, r = r' := ⟨r.toNat, by omega⟩
  obtain ⟨w, m8, e8, wr, wl8, _, D8, O8⟩ := bent_ok (v := List.replicate k 0) F (red_rep hp k) (by rw [List.length_replicate]; omega) (k := r) (by omega) D7
  rw [List.length_replicate] at wl8
  have O := ((((((O1.trans O2).trans O3).trans O4).trans O5).trans O6).trans O7).trans O8
  have hm8 := plain_only hm D8 O
  have Wb : Wo p w := ⟨wr, ne wl8, by omega, by omega⟩
  have ad3 := added_ok (m := m8) (c := 1) F (v := shr p k f) (u := w) wr (by omega)
  have al3 := addw_len (p := p) (c := 1) (v := shr p k f) (u := w) (by omega)
  have Wc : Wo p (addw p 1 (shr p k f) w) := ⟨addw_red hp 1 _ w, ne (by omega), by omega, by omega⟩
  have sc := syndromes_ok (m := m8) (d := d) F Wc (by omega)
  have sb := syndromes_ok (m := m8) (d := d) F Wb (by omega)
  have scb : syn p d (addw p 1 (shr p k f) w) = syn p d w := by
    rw [syn_addw (show w.length = _ by omega)]
    unfold addw
    have z : ∀ (a b : List Int), a.length = b.length → (∀ x ∈ a, x = 0) → Red p b → ((a.zip b).map fun q => (q.1 + 1 * q.2) % p) = b := by
      intro a
      induction a with
      | nil => intro b h _ _; cases b <;> simp at h ⊢
      | cons x a ih =>
        intro b h h0 hb
        cases b with
        | nil => simp at h
        | cons y b =>
          have := h0 x List.mem_cons_self
          have yb := hb y List.mem_cons_self
          rw [List.zip_cons_cons, List.map_cons, ih b (by simpa using h) (fun x hx => h0 x (List.mem_cons_of_mem _ hx)) (fun x hx => hb x (List.mem_cons_of_mem _ hx))]
          show (x + 1 * y) % p :: b = y :: b
          rw [this, Int.one_mul, Int.zero_add, Int.emod_eq_of_lt yb.1 yb.2]
    have ll : (syn p d (shr p k f)).length = (syn p d w).length := by rw [syn_len, syn_len, wl, wl8]
    exact z (syn p d (shr p k f)) (syn p d w) ll w0 (syn_red hp d w)
  rw [scb] at sc
  have ft := fitting_ok (m := m8) (v := w) (crew := []) (d := d) F wr (by omega) (by omega) hm8
  have sf := syn_fits (d := d) F Wb
  have mz := maxI_zero (syn_red hp d w)
  have ld := syn_len p d w
  generalize syn p d v = V at *
  generalize syn p d u = U at *
  generalize syn p d w = W at *
  generalize addw p c v u = A at *
  generalize addw p c V U = B at *
  generalize shr p k f = T at *
  generalize addw p 1 T w = C at *
  obtain ⟨T2, hT2⟩ : ∃ T2, T2 = syn p d T := ⟨_, rfl⟩
  have l3 : T2.length ≤ 9 := by rw [hT2, syn_len]; omega
  rw [← hT2] at sw w0
  have c8 := comp_list_if (i := 11) (c := Y__law_right_1) (elt := rVar 11) (env := [.d (.ref n), .d (.int p), .d (.int k), .d (.int d), .d (.int c), .d (tI v), .d (tI u), .d (tI V), .d (tI U), .d (tI T), .un, .un, .un, .un]) (m := m6) D.int (P := fun a => !decide (a = 0)) (F := D.int) T2 (fun x _ => by simp [Y__law_right_1]) (fun x _ _ => by simp)
  have c8' : (T2.filter fun a => !decide (a = 0)) = [] := List.filter_eq_nil_iff.mpr fun a ha => by simp [w0 a ha]
  rw [c8'] at c8
  have lT2 : (T2.map D.int).length ≤ 1000000 := by rw [List.length_map]; omega
  refine ⟨m8, ?_, D8, O⟩
  simp only [f__law_right, b__law_right]
  simp [S__law_right_1, e1]
  simp [S__law_right_2, roll_eq, e2, e3]
  have rg : rangeD 0 2 = [.int 0, .int 1] := rfl
  have lk : (rangeD 0 (k : Int)).length ≤ 1000000 := by rw [rangeD_len]; omega
  simp [S__law_right_3, kRa1_1 (j := 2) (by decide), rg, kComp1, X__law_right_2, kRa1_1 (j := (k : Int)) (by omega), lk, e4, e5, show v.length ≤ 1000000 by omega, show u.length ≤ 1000000 by omega]
  simp [S__law_right_4, sv, su]
  simp [S__law_right_5, lv, plainDs_int, ints_inj, l2]
  simp [S__law_right_6, ad, sa, ad2, plainDs_int, ints_inj]
  simp [S__law_right_7, e6, tw]
  simp [S__law_right_8, sw, kComp1 lT2, c8]
  rw [show tI (List.replicate k 0) = .tup (List.replicate k (.int 0)) by simp [tI]] at e8
  simp [S__law_right_9, roll_eq, ev_mulT1 (k := k) (.int 0) (by omega), e7, e8]
  simp [S__law_right_10, ad3, sc]
  simp [S__law_right_11, sb, plainDs_int, ints_inj]
  have mx := ev_maxT 0 W
  rcases ft with ⟨g, eg, gP, gl, gf⟩ | ⟨eg, hno⟩
  · have z : ∀ a ∈ W, a = 0 := sf.mpr ⟨g, gl, gf⟩
    rw [decide_eq_true z] at mz
    rw [show tI [] = .tup [] from rfl] at eg
    simp [S__law_right_12, show 1 + W.length ≤ 1000000 by omega, mx, eg, mz]
  · have z : ¬ ∀ a ∈ W, a = 0 := fun z => by
      obtain ⟨g, gl, gf⟩ := sf.mp z
      exact hno g gl gf
    rw [decide_eq_false z] at mz
    rw [show tI [] = .tup [] from rfl] at eg
    simp [S__law_right_12, show 1 + W.length ≤ 1000000 by omega, mx, eg, mz]
theorem tail_ok (d : D) (s1 s2 s3 : Slot) : sSeq S_law_2 S_law_3 [.d d, s1, s2, s3] m = .ok (.rt (.d (.bl true))) m := by kernel_rfl
theorem law_true : Ev.Law f_law := by
  intro ns hns
  obtain ⟨K, hK, hK2⟩ : ∃ K : Int, (if 1 < (if (ns.length : Int) < 4 then (ns.length : Int) else 4) then (if (ns.length : Int) < 4 then (ns.length : Int) else 4) else 1) = K ∧ (-4611686018427387904 ≤ K ∧ K < 4611686018427387904) := ⟨_, rfl, by split <;> split <;> omega⟩
  obtain ⟨e, m', k1, hP, s1, s2, s3, rfl⟩ := for_range (g := gSet 1) (b := L_law_1) 0 K
    (fun k env m => m.all cellPlain = true ∧ ∃ s1 s2 s3, env = [.d (.scr (ns.map D.int)), s1, s2, s3]) (by
      rintro j hj env m ⟨hP, s1, s2, s3, rfl⟩
      rw [Int.zero_add]
      obtain ⟨a, b, c, e⟩ := dice_spec ns j m
      have hD : Dice m.length (m ++ [.lst [.int a, .int b, .int c]]) := ⟨a, b, c, by simp⟩
      have hP0 : (m ++ [Cell.lst [.int a, .int b, .int c]]).all cellPlain = true := by rw [List.all_append, hP]; rfl
      obtain ⟨m1, r1, D1, O1⟩ := right_ok hD hP0
      have hP1 := plain_only hP0 D1 O1
      obtain ⟨m2, r2, D2, O2⟩ := right_ok D1 hP1
      have hP2 := plain_only hP1 D2 O2
      rw [← dice_eq] at e
      refine ⟨_, _, m2, rfl, ?_, hP2, .d (.int j), .d (.ref m.length), s3, rfl⟩
      simp [L_law_1, e, r1, r2]) (env := [.d (.scr (ns.map D.int)), .un, .un, .un]) (m := []) ⟨rfl, .un, .un, .un, rfl⟩
  refine ⟨m', ?_⟩
  have s1 : S_law_1 [.d (.scr (ns.map D.int)), .un, .un, .un] [] = .ok (.nx [.d (.scr (ns.map D.int)), s1, s2, s3]) m' := by
    simp [S_law_1, hK, kRa1_1 hK2, k1]
  simp only [f_law, b_law]
  have t := tail_ok (m := m') (.scr (ns.map D.int))
  simp only [ev_fnRun, List.map_cons, List.map_nil, List.length_cons, List.length_nil]
  rw [ev_sSeq]
  simp [s1, t, -ev_sSeq]
end K13
open PySem PySem.W PySem.Calls PyProof.Rows
theorem PySem.Challenge.cw_evencoins_k13_whole_syndromes_of_errors_holds : PySem.Challenge.rw_evencoins_k13_whole_syndromes_of_errors.Holds := by
  w_on; o_law
  refine HandSHeadRun.head_any (r := OpenLaw.row PySem.Challenge.rw_evencoins_k13_whole_syndromes_of_errors) (q := view (OpenLaw.row PySem.Challenge.rw_evencoins_k13_whole_syndromes_of_errors).prog [56]) (H := K13.hk) (ob := K13.ob) (M := 3000) (loose := K13.loose) (d := HandSHeadRun.topDef (OpenLaw.row PySem.Challenge.rw_evencoins_k13_whole_syndromes_of_errors).prog 56) (kwd := []) K13.ob_eq
    (by kernel_rfl) (fun s => by kernel_rfl) K13.run (by kernel_rfl) (by kernel_rfl) (by kernel_rfl) (by rfl) (by first | assumption | decide +kernel) (by decide +kernel) ⟨rfl, rfl, rfl, rfl, rfl, by decide +kernel⟩ ?hw ?hc
  case hw => w_witness2
  case hc =>
    refine Ev.walkX (l := PySem.Challenge.rw_evencoins_k13_whole_syndromes_of_errors) (k := 11) (x := "_law_script") (f := K13.f_law) rfl (by kernel_rfl) ⟨rfl, by decide, by decide⟩ K13.law_true ?F
    intro w mg fa h Y G hmg0
    obtain ⟨K, KX, c⟩ := Y
    have hmg : mg ("law" : PySem.Str) = some (.ref fa) := by
      have e : (HandSHeadRun.topDef (OpenLaw.row PySem.Challenge.rw_evencoins_k13_whole_syndromes_of_errors).prog 56).name = ("law" : PySem.Str) := by kernel_rfl
      rw [← e]
      exact hmg0
    obtain ⟨fd, hb, hF⟩ := K13.facts (P := (PySem.Challenge.rw_evencoins_k13_whole_syndromes_of_errors).prog) (w := w) KX G hmg c
    exact ⟨K, fd, KX, hb, hF⟩
