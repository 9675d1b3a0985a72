import PyProof.Rows.All
import Wide.All
import OpenK.AllK
import Wide.FinOn
import HandS.ForMost
import HandS.ForExc
import HandS.Walk
import HandS.Zip
import HandS.Rev
import HandS.Flow
import HandS.Style
import HandS.IsInst
import HandS.Conv
import HandS.TupMul
import HandS.TupAny
import HandS.Wide
import HandS.CallSlots
import KE.DataEq
import PyProof.CallFns
import HandS.RaiseMore
import KE.KStateDown
import HandS.More
import HandS.Defaults
import HandS.Head0
import HandS.Head1
import HandS.Head2
import HandS.HeadEnd
import HandS.HeadHook1
import HandS.HeadHook2
import PySem.Challenge.RW_evencoins_k00_whole_numbers_of_a_field
set_option Elab.async false
set_option linter.all false
set_option maxRecDepth 100000
set_option maxHeartbeats 4000000
/-! Ev, part A: data, results, the relation to HandS's abstract heap. -/
namespace Ev
open PySem PySem.Spec L2

inductive D where
  | non | bl (b : Bool) | int (i : Int) | str (x : Str) | tup (xs : List D) | lst (xs : List D)
  | dct (ks vs : List D) | ref (n : Nat) | ext (n : Nat) | scr (xs : List D)

/-- what an expression gives: data, a new list that nobody else holds, a list that a slot owns -/
inductive RV where
  | d (x : D) | fl (xs : List D) | pk (xs : List D)
inductive Slot where
  | un | d (x : D) | own (xs : List D)
inductive Cell where
  | lst (xs : List D)
abbrev Env := List Slot
abbrev Cells := List Cell
structure Exn where
  cls : Nat
  fs : List (Str × D)
inductive Res (α : Type) where
  | ok (a : α) (m : Cells) | exc (x : Exn) (m : Cells) | bot
def Res.bind {α β : Type} (r : Res α) (k : α → Cells → Res β) : Res β := match r with
  | .ok a m => k a m
  | .exc x m => .exc x m
  | .bot => .bot
def WP {α : Type} (r : Res α) (P : α → Cells → Prop) (Z : Exn → Cells → Prop) : Prop := match r with
  | .ok a m => P a m
  | .exc x m => Z x m
  | .bot => False
theorem WP.mono {α : Type} {r : Res α} {P P' : α → Cells → Prop} {Z Z' : Exn → Cells → Prop} (h : WP r P Z) (hp : ∀ a m, P a m → P' a m) (hz : ∀ x m, Z x m → Z' x m) : WP r P' Z' := by
  cases r with
  | ok a m => exact hp _ _ h
  | exc x m => exact hz _ _ h
  | bot => exact h
theorem WP.of_bind {α β : Type} {r : Res α} {k : α → Cells → Res β} {P : β → Cells → Prop} {Z : Exn → Cells → Prop} (h : WP (r.bind k) P Z) : WP r (fun a m => WP (k a m) P Z) Z := by
  cases r with
  | ok a m => exact h
  | exc x m => exact h
  | bot => exact h
def RV.val : RV → D
  | .d x => x
  | .fl xs => .lst xs
  | .pk xs => .lst xs
/-- as data; a slot's own list is refused -/
def RV.frz : RV → Option D
  | .d x => some x
  | .fl xs => some (.lst xs)
  | .pk _ => none

/-! ### the relation -/
structure Wd where
  F : Hp
  ι : List Addr
  ξ : Nat → Option V
variable (K : PySem.W.Frag)
mutual
inductive RD (w : Wd) : D → V → Prop
  | non : RD w .non .non
  | bl (b : Bool) : RD w (.bl b) (.bl b)
  | int (i : Int) : RD w (.int i) (.int i)
  | str (x : Str) : RD w (.str x) (.str x)
  | tup {a : Addr} {vs : List V} {xs : List D} : SqT K w.F a vs → RDs w xs vs → RD w (.tup xs) (.ref a)
  | lst {a : Addr} {vs : List V} {xs : List D} : w.F a = some (.lst vs) → RDs w xs vs → RD w (.lst xs) (.ref a)
  | scr {a : Addr} {vs : List V} {xs : List D} : SqL K w.F a vs → RDs w xs vs → RD w (.scr xs) (.ref a)
  | dct0 {a : Addr} : w.F a = some (.dK []) → RD w (.dct [] []) (.ref a)
  | ref {a : Addr} {n : Nat} : w.ι[n]? = some a → RD w (.ref n) (.ref a)
  | ext {v : V} {n : Nat} : w.ξ n = some v → RD w (.ext n) v
inductive RDs (w : Wd) : List D → List V → Prop
  | nil : RDs w [] []
  | cons {x : D} {v : V} {xs : List D} {vs : List V} : RD w x v → RDs w xs vs → RDs w (x :: xs) (v :: vs)
end
variable {K}

/-- a world that grew -/
structure WLe (w w' : Wd) : Prop where
  sub : ∀ a o, w.F a = some o → w'.F a = some o
  pre : ∀ (n : Nat) a, w.ι[n]? = some a → w'.ι[n]? = some a
  xi : w'.ξ = w.ξ
theorem WLe.refl (w : Wd) : WLe w w := ⟨fun _ _ h => h, fun _ _ h => h, rfl⟩
theorem WLe.trans {a b c : Wd} (h : WLe a b) (g : WLe b c) : WLe a c := ⟨fun x o q => g.sub x o (h.sub x o q), fun n x q => g.pre n x (h.pre n x q), g.xi.trans h.xi⟩
theorem sqL_sub {F F' : Hp} {a : Addr} {vs : List V} (s : ∀ a o, F a = some o → F' a = some o) (h : SqL K F a vs) : SqL K F' a vs := by
  rcases h with (h | ⟨o, h⟩) | h
  · exact .inl (.inl (s _ _ h))
  · exact .inl (.inr ⟨o, s _ _ h⟩)
  · exact .inr h
theorem sqT_sub {F F' : Hp} {a : Addr} {vs : List V} (s : ∀ a o, F a = some o → F' a = some o) (h : SqT K F a vs) : SqT K F' a vs := by
  rcases h with (h | ⟨o, h⟩) | h
  · exact .inl (.inl (s _ _ h))
  · exact .inl (.inr ⟨o, s _ _ h⟩)
  · exact .inr h
mutual
theorem RD.le {w w' : Wd} (e : WLe w w') : ∀ {x : D} {v : V}, RD K w x v → RD K w' x v
  | _, _, .non => .non
  | _, _, .bl b => .bl b
  | _, _, .int i => .int i
  | _, _, .str x => .str x
  | _, _, .tup s r => .tup (sqT_sub e.sub s) (RDs.le e r)
  | _, _, .lst s r => .lst (e.sub _ _ s) (RDs.le e r)
  | _, _, .scr s r => .scr (sqL_sub e.sub s) (RDs.le e r)
  | _, _, .dct0 s => .dct0 (e.sub _ _ s)
  | _, _, .ref h => .ref (e.pre _ _ h)
  | _, _, .ext h => .ext (by rw [e.xi]; exact h)
theorem RDs.le {w w' : Wd} (e : WLe w w') : ∀ {xs : List D} {vs : List V}, RDs K w xs vs → RDs K w' xs vs
  | _, _, .nil => .nil
  | _, _, .cons r t => .cons (RD.le e r) (RDs.le e t)
end
theorem RDs.length {w : Wd} : ∀ {xs : List D} {vs : List V}, RDs K w xs vs → xs.length = vs.length
  | _, _, .nil => rfl
  | _, _, .cons _ t => by rw [List.length_cons, List.length_cons, RDs.length t]
theorem RDs.get {w : Wd} : ∀ {xs : List D} {vs : List V}, RDs K w xs vs → ∀ {i : Nat} {x : D}, xs[i]? = some x → ∃ v, vs[i]? = some v ∧ RD K w x v
  | _, _, .nil, i, x, h => by simp at h
  | _, _, .cons r t, 0, x, h => by
    simp at h
    subst h
    exact ⟨_, rfl, r⟩
  | _, _, .cons r t, i + 1, x, h => by
    obtain ⟨v, h1, h2⟩ := RDs.get t (i := i) (x := x) (by simpa using h)
    exact ⟨v, by simpa using h1, h2⟩
theorem RDs.getV {w : Wd} : ∀ {xs : List D} {vs : List V}, RDs K w xs vs → ∀ {i : Nat} {v : V}, vs[i]? = some v → ∃ x, xs[i]? = some x ∧ RD K w x v
  | _, _, .nil, i, x, h => by simp at h
  | _, _, .cons r t, 0, x, h => by
    simp at h
    subst h
    exact ⟨_, rfl, r⟩
  | _, _, .cons r t, i + 1, x, h => by
    obtain ⟨v, h1, h2⟩ := RDs.getV t (i := i) (v := x) (by simpa using h)
    exact ⟨v, by simpa using h1, h2⟩
theorem RDs.append {w : Wd} : ∀ {xs ys : List D} {vs us : List V}, RDs K w xs vs → RDs K w ys us → RDs K w (xs ++ ys) (vs ++ us)
  | _, _, _, _, .nil, s => s
  | _, _, _, _, .cons r t, s => .cons r (RDs.append t s)
theorem RDs.set {w : Wd} {x : D} {v : V} (r : RD K w x v) : ∀ {xs : List D} {vs : List V} (i : Nat), RDs K w xs vs → RDs K w (xs.set i x) (vs.set i v)
  | _, _, _, .nil => .nil
  | _, _, 0, .cons _ t => .cons r t
  | _, _, i + 1, .cons q t => .cons q (RDs.set r i t)
theorem RDs.take {w : Wd} : ∀ {xs : List D} {vs : List V} (n : Nat), RDs K w xs vs → RDs K w (xs.take n) (vs.take n)
  | _, _, 0, _ => .nil
  | _, _, _ + 1, .nil => .nil
  | _, _, n + 1, .cons r t => .cons r (RDs.take n t)
theorem RDs.drop {w : Wd} : ∀ {xs : List D} {vs : List V} (n : Nat), RDs K w xs vs → RDs K w (xs.drop n) (vs.drop n)
  | _, _, 0, r => r
  | _, _, _ + 1, .nil => .nil
  | _, _, n + 1, .cons _ t => RDs.drop n t
theorem RDs.reverse {w : Wd} : ∀ {xs : List D} {vs : List V}, RDs K w xs vs → RDs K w xs.reverse vs.reverse
  | _, _, .nil => .nil
  | _, _, .cons r t => by
    rw [List.reverse_cons, List.reverse_cons]
    exact RDs.append (RDs.reverse t) (.cons r .nil)
theorem RDs.ints {w : Wd} : ∀ {ns : List Int} {vs : List V}, RDs K w (ns.map D.int) vs → vs = ns.map V.int
  | [], _, .nil => rfl
  | _ :: ns, _, .cons r t => by
    cases r
    rw [List.map_cons, RDs.ints t]
theorem RDs.bls {w : Wd} : ∀ {ns : List Bool} {vs : List V}, RDs K w (ns.map D.bl) vs → vs = ns.map V.bl
  | [], _, .nil => rfl
  | _ :: ns, _, .cons r t => by
    cases r
    rw [List.map_cons, RDs.bls t]
theorem RDs.of_ints {w : Wd} : ∀ ns : List Int, RDs K w (ns.map D.int) (ns.map V.int)
  | [] => .nil
  | n :: ns => .cons (.int n) (RDs.of_ints ns)

variable (K)
def CellOk (w : Wd) (H : Hp) (a : Addr) : Cell → Prop
  | .lst xs => ∃ vs, H a = some (.lst vs) ∧ RDs K w xs vs
structure Wf (w : Wd) (H : Hp) (m : Cells) : Prop where
  sub : ∀ a o, w.F a = some o → H a = some o
  nof : ∀ (n : Nat) a, w.ι[n]? = some a → w.F a = none
  inj : ∀ (i j : Nat) a, w.ι[i]? = some a → w.ι[j]? = some a → i = j
  len : w.ι.length = m.length
  cell : ∀ (n : Nat) c, m[n]? = some c → ∃ a, w.ι[n]? = some a ∧ CellOk K w H a c
  xi : ∀ n v, w.ξ n = some v → v ≠ V.non
variable {K}
/-- from (w, H) to (w', H'): what was tracked stands, but the cells -/
structure Ext (w : Wd) (H : Hp) (w' : Wd) (H' : Hp) : Prop where
  le : WLe w w'
  keep : ∀ a o, H a = some o → a ∉ w.ι → H' a = some o
  newF : ∀ a o, w'.F a = some o → w.F a = some o ∨ H a = none
  newI : ∀ a, a ∈ w'.ι → a ∈ w.ι ∨ H a = none
  there : ∀ a, H' a = none → H a = none
theorem Ext.refl (w : Wd) (H : Hp) : Ext w H w H := ⟨.refl w, fun _ _ h _ => h, fun _ _ h => .inl h, fun _ h => .inl h, fun _ h => h⟩
theorem Ext.trans {w w1 w2 : Wd} {H H1 H2 : Hp} (a : Ext w H w1 H1) (b : Ext w1 H1 w2 H2) : Ext w H w2 H2 where
  le := a.le.trans b.le
  keep := fun x o h n => b.keep x o (a.keep x o h n) fun hm => by
    rcases a.newI x hm with q | q
    · exact n q
    · rw [h] at q; cases q
  newF := fun x o h => by
    rcases b.newF x o h with q | q
    · exact a.newF x o q
    · exact .inr (a.there x q)
  newI := fun x h => by
    rcases b.newI x h with q | q
    · exact a.newI x q
    · exact .inr (a.there x q)
  there := fun x h => a.there x (b.there x h)
/-- a new object, tracked, not known to the world -/
theorem Ext.new {w : Wd} {H : Hp} {p : Addr} {o : HO} (h : H p = none) : Ext w H w (upd H p o) :=
  ⟨.refl w, fun a u e _ => by rw [upd_ne (ne_of_none e h)]; exact e, fun _ _ q => .inl q, fun _ q => .inl q, fun a q => by
    by_cases e : a = p
    · rw [e]; exact h
    · rw [upd_ne e] at q; exact q⟩
theorem Wf.new {w : Wd} {H : Hp} {m : Cells} {p : Addr} {o : HO} (W : Wf K w H m) (h : H p = none) : Wf K w (upd H p o) m where
  sub := fun a u e => by
    have e2 := W.sub a u e
    rw [upd_ne (ne_of_none e2 h)]; exact e2
  nof := W.nof
  inj := W.inj
  len := W.len
  cell := fun n c e => by
    obtain ⟨a, h1, h2⟩ := W.cell n c e
    refine ⟨a, h1, ?_⟩
    cases c with
    | lst xs =>
      obtain ⟨vs, h3, h4⟩ := h2
      exact ⟨vs, by rw [upd_ne (ne_of_none h3 h)]; exact h3, h4⟩
  xi := W.xi
theorem CellOk.le {w w' : Wd} {H : Hp} {a : Addr} {c : Cell} (e : WLe w w') (h : CellOk K w H a c) : CellOk K w' H a c := by
  cases c with
  | lst xs =>
    obtain ⟨vs, h1, h2⟩ := h
    exact ⟨vs, h1, h2.le e⟩
/-- what stands at a, no cell's, is known from now on -/
def Wd.add (w : Wd) (a : Addr) (o : HO) : Wd := { w with F := upd w.F a o }
theorem WLe.add {w : Wd} {a : Addr} {o : HO} (h : w.F a = none) : WLe w (w.add a o) :=
  ⟨fun b u e => by show upd w.F a o b = _; rw [upd_ne (ne_of_none e h)]; exact e, fun _ _ h => h, rfl⟩
theorem Wf.add {w : Wd} {H : Hp} {m : Cells} {a : Addr} {o : HO} (W : Wf K w H m) (hf : w.F a = none) (ha : H a = some o) (hi : a ∉ w.ι) : Wf K (w.add a o) H m where
  sub := fun b u e => by
    have e : upd w.F a o b = some u := e
    by_cases q : b = a
    · subst q; rw [upd_same] at e; rw [← e]; exact ha
    · rw [upd_ne q] at e; exact W.sub b u e
  nof := fun n b e => by
    show upd w.F a o b = none
    have e : w.ι[n]? = some b := e
    have hb : b ≠ a := fun q => hi (by rw [← q]; exact List.mem_of_getElem? e)
    rw [upd_ne hb]
    exact W.nof n b e
  inj := W.inj
  len := W.len
  cell := fun n c e => by
    obtain ⟨b, h1, h2⟩ := W.cell n c e
    exact ⟨b, h1, h2.le (.add hf)⟩
  xi := W.xi
theorem Ext.add {w0 w : Wd} {H0 H : Hp} {a : Addr} {o : HO} (E : Ext w0 H0 w H) (hf : w.F a = none) (h0 : H0 a = none) : Ext w0 H0 (w.add a o) H where
  le := E.le.trans (.add hf)
  keep := E.keep
  newF := fun b u e => by
    have e : upd w.F a o b = some u := e
    by_cases q : b = a
    · subst q; exact .inr h0
    · rw [upd_ne q] at e; exact E.newF b u e
  newI := E.newI
  there := E.there

variable (K)
/-- the slots of a def's frame; H0: the heap at its entry -/
structure Slots (w : Wd) (H0 : Hp) (σ : St) (H : Hp) (env : Env) : Prop where
  len : env.length = σ.length
  dat : ∀ (i : Nat) x, env[i]? = some (.d x) → ∃ v, σ[i]? = some (some v) ∧ RD K w x v
  own : ∀ (i : Nat) xs, env[i]? = some (.own xs) → ∃ a vs, σ[i]? = some (some (V.ref a)) ∧ H a = some (.lst vs) ∧ w.F a = none ∧ a ∉ w.ι ∧ H0 a = none ∧ RDs K w xs vs
  dis : ∀ (i j : Nat) xs ys a, env[i]? = some (.own xs) → env[j]? = some (.own ys) → σ[i]? = some (some (V.ref a)) → σ[j]? = some (some (V.ref a)) → i = j
variable {K}
theorem Slots.ext {w w' : Wd} {H0 H H' : Hp} {σ : St} {env : Env} (S : Slots K w H0 σ H env) (E : Ext w H w' H') : Slots K w' H0 σ H' env where
  len := S.len
  dat := fun i x e => by
    obtain ⟨v, h1, h2⟩ := S.dat i x e
    exact ⟨v, h1, h2.le E.le⟩
  own := fun i xs e => by
    obtain ⟨a, vs, h1, h2, h3, h4, h5, h6⟩ := S.own i xs e
    refine ⟨a, vs, h1, E.keep a _ h2 h4, ?_, fun q => ?_, h5, h6.le E.le⟩
    · cases q : w'.F a with
      | none => rfl
      | some o =>
        rcases E.newF a o q with z | z
        · rw [h3] at z; cases z
        · rw [h2] at z; cases z
    · rcases E.newI a q with z | z
      · exact h4 z
      · rw [h2] at z; cases z
  dis := S.dis
variable (K)
/-- the value of an expression; H: the heap ahead of it, H0: at the def's entry -/
def RR (H0 H : Hp) (w' : Wd) (H' : Hp) (rv : RV) (v : V) : Prop := match rv with
  | .d x => RD K w' x v
  | .fl xs => ∃ a vs, v = V.ref a ∧ H' a = some (.lst vs) ∧ w'.F a = none ∧ a ∉ w'.ι ∧ H a = none ∧ RDs K w' xs vs
  | .pk xs => ∃ a vs, v = V.ref a ∧ H' a = some (.lst vs) ∧ w'.F a = none ∧ a ∉ w'.ι ∧ H0 a = none ∧ RDs K w' xs vs
/-- a value that may be read, not kept -/
def RP (w : Wd) (H : Hp) (x : D) (v : V) : Prop := RD K w x v ∨ ∃ xs a vs, x = .lst xs ∧ v = V.ref a ∧ H a = some (.lst vs) ∧ w.F a = none ∧ a ∉ w.ι ∧ RDs K w xs vs
variable {K}
theorem RR.rp {H0 H H' : Hp} {w' : Wd} {rv : RV} {v : V} (h : RR K H0 H w' H' rv v) : RP K w' H' rv.val v := by
  cases rv with
  | d x => exact .inl h
  | fl xs =>
    obtain ⟨a, vs, h1, h2, h3, h4, _, h6⟩ := h
    exact .inr ⟨xs, a, vs, rfl, h1, h2, h3, h4, h6⟩
  | pk xs =>
    obtain ⟨a, vs, h1, h2, h3, h4, _, h6⟩ := h
    exact .inr ⟨xs, a, vs, rfl, h1, h2, h3, h4, h6⟩
theorem RP.ext {w w' : Wd} {H H' : Hp} {x : D} {v : V} (h : RP K w H x v) (E : Ext w H w' H') : RP K w' H' x v := by
  rcases h with h | ⟨xs, a, vs, h1, h2, h3, h4, h5, h6⟩
  · exact .inl (h.le E.le)
  · refine .inr ⟨xs, a, vs, h1, h2, E.keep a _ h3 h5, ?_, fun q => ?_, h6.le E.le⟩
    · cases q : w'.F a with
      | none => rfl
      | some o =>
        rcases E.newF a o q with z | z
        · rw [h4] at z; cases z
        · rw [h3] at z; cases z
    · rcases E.newI a q with z | z
      · exact h5 z
      · rw [h3] at z; cases z
/-- a list that may be read -/
theorem RP.lst {w : Wd} {H : Hp} {xs : List D} {v : V} {m : Cells} (W : Wf K w H m) (h : RP K w H (.lst xs) v) : ∃ a vs, v = V.ref a ∧ H a = some (.lst vs) ∧ RDs K w xs vs := by
  rcases h with h | ⟨ys, a, vs, h1, h2, h3, h4, h5, h6⟩
  · cases h with
    | lst s r => exact ⟨_, _, rfl, W.sub _ _ s, r⟩
  · cases h1
    exact ⟨a, vs, h2, h3, h6⟩
theorem RP.scr {w : Wd} {H : Hp} {xs : List D} {v : V} {m : Cells} (W : Wf K w H m) (h : RP K w H (.scr xs) v) : ∃ a vs, v = V.ref a ∧ SqL K H a vs ∧ RDs K w xs vs := by
  rcases h with h | ⟨ys, a, vs, h1, h2, h3, h4, h5, h6⟩
  · cases h with
    | scr s r => exact ⟨_, _, rfl, sqL_sub W.sub s, r⟩
  · cases h1
theorem RP.tup {w : Wd} {H : Hp} {xs : List D} {v : V} {m : Cells} (W : Wf K w H m) (h : RP K w H (.tup xs) v) : ∃ a vs, v = V.ref a ∧ SqT K H a vs ∧ RDs K w xs vs := by
  rcases h with h | ⟨ys, a, vs, h1, h2, h3, h4, h5, h6⟩
  · cases h with
    | tup s r => exact ⟨_, _, rfl, sqT_sub W.sub s, r⟩
  · cases h1
theorem RP.int {w : Wd} {H : Hp} {i : Int} {v : V} (h : RP K w H (.int i) v) : v = V.int i := by
  rcases h with h | ⟨ys, a, vs, h1, _⟩
  · cases h; rfl
  · cases h1
theorem RP.bl {w : Wd} {H : Hp} {i : Bool} {v : V} (h : RP K w H (.bl i) v) : v = V.bl i := by
  rcases h with h | ⟨ys, a, vs, h1, _⟩
  · cases h; rfl
  · cases h1
theorem RP.str {w : Wd} {H : Hp} {i : Str} {v : V} (h : RP K w H (.str i) v) : v = V.str i := by
  rcases h with h | ⟨ys, a, vs, h1, _⟩
  · cases h; rfl
  · cases h1
theorem RP.non {w : Wd} {H : Hp} {v : V} (h : RP K w H .non v) : v = V.non := by
  rcases h with h | ⟨ys, a, vs, h1, _⟩
  · cases h; rfl
  · cases h1
/-- as data -/
theorem RR.frz {H0 H H' : Hp} {w w' : Wd} {rv : RV} {v : V} {x : D} {m : Cells} (h : RR K H0 H w' H' rv v) (e : rv.frz = some x) (E : Ext w H w' H') (W : Wf K w' H' m) :
    ∃ w2, Ext w H w2 H' ∧ Wf K w2 H' m ∧ RD K w2 x v ∧ WLe w' w2 := by
  cases rv with
  | d y =>
    cases e
    exact ⟨w', E, W, h, .refl _⟩
  | fl xs =>
    cases e
    obtain ⟨a, vs, h1, h2, h3, h4, h5, h6⟩ := h
    subst h1
    exact ⟨w'.add a (.lst vs), E.add h3 h5, W.add h3 h2 h4, .lst (by show upd w'.F a _ a = _; exact upd_same) (h6.le (.add h3)), .add h3⟩
  | pk xs => cases e
end Ev
/-! Ev, part B: equality of data, judgements, expressions. -/
namespace Ev
open PySem PySem.Spec L2

/-! ### data as the library's data -/
mutual
def toPy : D → PyData
  | .non => .none | .bl b => .bool b | .int i => .int i | .str x => .str x
  | .tup xs => .tuple (toPys xs) | .lst xs => .list (toPys xs)
  | .dct _ _ => .none | .ref _ => .none | .ext _ => .none | .scr _ => .none
def toPys : List D → List PyData
  | [] => []
  | x :: xs => toPy x :: toPys xs
end
/-! no dicts, cells, constants within; of nesting at most n -/
mutual
def plainD : Nat → D → Bool
  | _, .non | _, .bl _ | _, .int _ | _, .str _ => true
  | n + 1, .tup xs | n + 1, .lst xs => plainDs n xs
  | _, _ => false
def plainDs : Nat → List D → Bool
  | _, [] => true
  | n, x :: xs => plainD n x && plainDs n xs
end
mutual
theorem toPy_plain : ∀ (n : Nat) (x : D), plainD n x = true → (toPy x).plain = true ∧ (toPy x).depth ≤ n
  | n, .non, _ => by simp [toPy, PyData.plain, PyData.depth]
  | n, .bl _, _ => by simp [toPy, PyData.plain, PyData.depth]
  | n, .int _, _ => by simp [toPy, PyData.plain, PyData.depth]
  | n, .str _, _ => by simp [toPy, PyData.plain, PyData.depth]
  | n + 1, .tup xs, h => by
    have h : plainDs n xs = true := by simpa [plainD] using h
    obtain ⟨h1, h2⟩ := toPys_plain n xs h
    simp only [toPy, PyData.plain, PyData.depth]
    exact ⟨h1, by omega⟩
  | n + 1, .lst xs, h => by
    have h : plainDs n xs = true := by simpa [plainD] using h
    obtain ⟨h1, h2⟩ := toPys_plain n xs h
    simp only [toPy, PyData.plain, PyData.depth]
    exact ⟨h1, by omega⟩
  | 0, .tup xs, h => by simp [plainD] at h
  | 0, .lst xs, h => by simp [plainD] at h
  | n, .dct _ _, h => by simp [plainD] at h
  | n, .ref _, h => by simp [plainD] at h
  | n, .ext _, h => by simp [plainD] at h
  | n, .scr _, h => by simp [plainD] at h
theorem toPys_plain : ∀ (n : Nat) (xs : List D), plainDs n xs = true → PyData.plainAll (toPys xs) = true ∧ PyData.depthAll (toPys xs) ≤ n
  | n, [], _ => by simp [toPys, PyData.plainAll, PyData.depthAll]
  | n, x :: xs, h => by
    rw [plainDs, Bool.and_eq_true] at h
    obtain ⟨h1, h2⟩ := toPy_plain n x h.1
    obtain ⟨h3, h4⟩ := toPys_plain n xs h.2
    simp only [toPys, PyData.plainAll, PyData.depthAll, h1, h3, Bool.and_self, true_and]
    exact Nat.max_le.mpr ⟨h2, h4⟩
end
/-! a == b -/
mutual
def deq : D → D → Bool
  | .non, .non => true
  | .bl a, .bl b => a == b
  | .bl a, .int j => (if a then 1 else 0) == j
  | .int i, .bl b => i == (if b then 1 else 0)
  | .int i, .int j => i == j
  | .str x, .str y => x == y
  | .lst xs, .lst ys => deqs xs ys
  | .tup xs, .tup ys => deqs xs ys
  | _, _ => false
def deqs : List D → List D → Bool
  | [], [] => true
  | x :: xs, y :: ys => deq x y && deqs xs ys
  | _, _ => false
end
mutual
theorem deq_py : ∀ (n : Nat) (x y : D), plainD n x = true → plainD n y = true → PyData.eqv (toPy x) (toPy y) = deq x y
  | n, x, y, hx, hy => by
    cases x <;> cases y <;> first
      | simp [plainD] at hx; done
      | simp [plainD] at hy; done
      | (simp [toPy, PyData.eqv, deq]; done)
      | skip
    · rename_i xs ys
      cases n with
      | zero => simp [plainD] at hx
      | succ n =>
        simp only [toPy, PyData.eqv, deq]
        exact deqs_py n xs ys (by simpa [plainD] using hx) (by simpa [plainD] using hy)
    · rename_i xs ys
      cases n with
      | zero => simp [plainD] at hx
      | succ n =>
        simp only [toPy, PyData.eqv, deq]
        exact deqs_py n xs ys (by simpa [plainD] using hx) (by simpa [plainD] using hy)
theorem deqs_py : ∀ (n : Nat) (xs ys : List D), plainDs n xs = true → plainDs n ys = true → PyData.eqvAll (toPys xs) (toPys ys) = deqs xs ys
  | n, [], [], _, _ => by simp [toPys, PyData.eqvAll, deqs]
  | n, [], y :: ys, _, _ => by simp [toPys, PyData.eqvAll, deqs]
  | n, x :: xs, [], _, _ => by simp [toPys, PyData.eqvAll, deqs]
  | n, x :: xs, y :: ys, hx, hy => by
    rw [plainDs, Bool.and_eq_true] at hx hy
    simp only [toPys, PyData.eqvAll, deqs, deq_py n x y hx.1 hy.1, deqs_py n xs ys hx.2 hy.2]
end
mutual
theorem RD.dp {K : PySem.W.Frag} {w : Wd} {H : Hp} (s : ∀ a o, w.F a = some o → H a = some o) : ∀ {x : D} {v : V} (n : Nat), RD K w x v → plainD n x = true → Dp K H v (toPy x)
  | _, _, _, .non, _ => by rw [toPy]; exact .non
  | _, _, _, .bl b, _ => by rw [toPy]; exact .bl b
  | _, _, _, .int i, _ => by rw [toPy]; exact .int i
  | _, _, _, .str x, _ => by rw [toPy]; exact .str x
  | _, _, n + 1, .tup q r, h => by rw [toPy]; exact .tup (sqT_sub s q) (RDs.dp s n r (by simpa [plainD] using h))
  | _, _, n + 1, .lst q r, h => by rw [toPy]; exact .lst (.inl (.inl (s _ _ q))) (RDs.dp s n r (by simpa [plainD] using h))
  | _, _, 0, .tup q r, h => by simp [plainD] at h
  | _, _, 0, .lst q r, h => by simp [plainD] at h
  | _, _, _, .scr _ _, h => by simp [plainD] at h
  | _, _, _, .dct0 _, h => by simp [plainD] at h
  | _, _, _, .ref _, h => by simp [plainD] at h
  | _, _, _, .ext _, h => by simp [plainD] at h
theorem RDs.dp {K : PySem.W.Frag} {w : Wd} {H : Hp} (s : ∀ a o, w.F a = some o → H a = some o) : ∀ {xs : List D} {vs : List V} (n : Nat), RDs K w xs vs → plainDs n xs = true → DpAll K H vs (toPys xs)
  | _, _, _, .nil, _ => by rw [toPys]; exact .nil
  | _, _, n, .cons r t, h => by
    rw [plainDs, Bool.and_eq_true] at h
    rw [toPys]
    exact .cons (RD.dp s n r h.1) (RDs.dp s n t h.2)
end
theorem RP.dp {K : PySem.W.Frag} {w : Wd} {H : Hp} {m : Cells} (W : Wf K w H m) {x : D} {v : V} {n : Nat} (h : RP K w H x v) (p : plainD n x = true) : Dp K H v (toPy x) := by
  rcases h with h | ⟨xs, a, vs, rfl, rfl, h3, _, _, h6⟩
  · exact h.dp W.sub n p
  · cases n with
    | zero => simp [plainD] at p
    | succ n =>
      rw [toPy]
      exact .lst (.inl (.inl h3)) (RDs.dp W.sub n h6 (by simpa [plainD] using p))

/-! ### judgements -/
abbrev SemR := Env → Cells → Res RV
abbrev SemD := Env → Cells → Res D
abbrev SemDs := Env → Cells → Res (List D)
abbrev SemB := Env → Cells → Res Bool
/-- an exception: its class a constant of the world, its fields -/
def RX (K : PySem.W.Frag) (w : Wd) (x : Exn) (c : Value) (d : Option Addr) (H : Hp) : Prop :=
  (∃ v, w.ξ x.cls = some v ∧ RelV v c) ∧ (x.fs ≠ [] → ∃ dd fv, d = some dd ∧ H dd = some (.xd fv) ∧ fv.map (·.1) = x.fs.map (·.1) ∧ RDs K w (x.fs.map (·.2)) (fv.map (·.2)))
section
variable (X : Cx) (W : WX)
abbrev PX (w : Wd) (H : Hp) (σ : St) (x : Exn) (m' : Cells) : Prop := ∀ c d w' H', Ext w H w' H' → Wf X.K w' H' m' → RX X.K w' x c d H' → W c d σ H'
abbrev PR (w : Wd) (H0 H : Hp) (Q : VK) (rv : RV) (m' : Cells) : Prop := ∀ w' H' v, Ext w H w' H' → Wf X.K w' H' m' → RR X.K H0 H w' H' rv v → Q v H'
abbrev PF (w : Wd) (H : Hp) (Q : VK) (x : D) (m' : Cells) : Prop := ∀ w' H' v, Ext w H w' H' → Wf X.K w' H' m' → RD X.K w' x v → Q v H'
abbrev PP (w : Wd) (H : Hp) (Q : VK) (x : D) (m' : Cells) : Prop := ∀ w' H' v, Ext w H w' H' → Wf X.K w' H' m' → RP X.K w' H' x v → Q v H'
/-- an expression -/
structure SE (e : Expr) (f : SemR) (t : TE) : Prop where
  pe : PE X e t
  rd : ∀ w H0 σ H env m Q, Wf X.K w H m → Slots X.K w H0 σ H env → WP (f env m) (PR X w H0 H Q) (PX X W w H σ) → t σ H Q
/-- a test -/
structure STt (e : Expr) (f : SemB) (t : TT) : Prop where
  pt : PT X e t
  rd : ∀ w H0 σ H env m (Q : Bool → Hp → Prop), Wf X.K w H m → Slots X.K w H0 σ H env → WP (f env m) (fun b m' => ∀ w' H', Ext w H w' H' → Wf X.K w' H' m' → Q b H') (PX X W w H σ) → t σ H Q
/-- arguments, as data -/
structure SAt (es : List Expr) (f : SemDs) (t : TA) : Prop where
  pa : PA X es t
  rd : ∀ w H0 σ H env m (Q : List V → Hp → Prop), Wf X.K w H m → Slots X.K w H0 σ H env → WP (f env m) (fun xs m' => ∀ w' H' vs, Ext w H w' H' → Wf X.K w' H' m' → RDs X.K w' xs vs → Q vs H') (PX X W w H σ) → t σ H Q
end
/-- as data, kept -/
def fz (f : SemR) : SemD := fun env m => (f env m).bind fun rv m' => match rv.frz with
  | some x => .ok x m'
  | none => .bot
/-- as data, read only -/
def vl (f : SemR) : SemD := fun env m => (f env m).bind fun rv m' => .ok rv.val m'
section
variable {X : Cx} {W : WX} {e : Expr} {f : SemR} {t : TE}
theorem SE.fz (h : SE X W e f t) {w : Wd} {H0 H : Hp} {σ : St} {env : Env} {m : Cells} {Q : VK} (Wm : Wf X.K w H m) (S : Slots X.K w H0 σ H env) (q : WP (Ev.fz f env m) (PF X w H Q) (PX X W w H σ)) : t σ H Q := by
  refine h.rd w H0 σ H env m Q Wm S (WP.mono (WP.of_bind q) (fun rv m' q w' H' v E Wm' r => ?_) fun _ _ z => z)
  cases e : rv.frz with
  | none => rw [e] at q; exact q.elim
  | some x =>
    rw [e] at q
    obtain ⟨w2, E2, W2, r2, _⟩ := r.frz e E Wm'
    exact q w2 H' v E2 W2 r2
theorem SE.vl (h : SE X W e f t) {w : Wd} {H0 H : Hp} {σ : St} {env : Env} {m : Cells} {Q : VK} (Wm : Wf X.K w H m) (S : Slots X.K w H0 σ H env) (q : WP (Ev.vl f env m) (PP X w H Q) (PX X W w H σ)) : t σ H Q :=
  h.rd w H0 σ H env m Q Wm S (WP.mono (WP.of_bind q) (fun rv m' q w' H' v E Wm' r => q w' H' v E Wm' r.rp) fun _ _ z => z)
end

/-! ### names, constants -/
def rVar (i : Nat) : SemR := fun env m => match env[i]? with
  | some (.d x) => .ok (.d x) m
  | some (.own xs) => .ok (.pk xs) m
  | _ => .bot
def rC (x : D) : SemR := fun _ m => .ok (.d x) m
section
variable {X : Cx} {W : WX}
theorem se_var (i : Nat) {x : Str} {pos : Pos} (hN : X.N[i]? = some x := by rfl) (hv : Vis X.env.scope x := by first | exact Or.inl rfl | exact Or.inr (Or.inl rfl) | exact Or.inr (Or.inr rfl)) (hd : (x == ("__debug__" : Str)) = false := by decide)
    (hcd : (x == ("__classdict__" : Str)) = false := by decide) : SE X W (.Name x pos) (rVar i) (tVar i) := by
  refine ⟨pe_var hN hv hd hcd, fun w H0 σ H env m Q Wm S q => ?_⟩
  cases e : env[i]? with
  | none =>
    have z : rVar i env m = .bot := by unfold rVar; rw [e]
    rw [z] at q; exact q.elim
  | some s =>
    cases s with
    | un =>
      have z : rVar i env m = .bot := by unfold rVar; rw [e]
      rw [z] at q; exact q.elim
    | d y =>
      have z : rVar i env m = .ok (.d y) m := by unfold rVar; rw [e]
      rw [z] at q
      obtain ⟨v, h1, h2⟩ := S.dat i y e
      exact ⟨v, h1, q w H v (.refl _ _) Wm h2⟩
    | own ys =>
      have z : rVar i env m = .ok (.pk ys) m := by unfold rVar; rw [e]
      rw [z] at q
      obtain ⟨a, vs, h1, h2, h3, h4, h5, h6⟩ := S.own i ys e
      exact ⟨_, h1, q w H _ (.refl _ _) Wm ⟨a, vs, rfl, h2, h3, h4, h5, h6⟩⟩
/-- a value that needs nothing of the heap -/
theorem se_const {e : Expr} {v : V} {x : D} (h : PE X e (tC v)) (r : ∀ w, RD X.K w x v) : SE X W e (rC x) (tC v) :=
  ⟨h, fun w H0 σ H env m Q Wm S q => q w H v (.refl _ _) Wm (r w)⟩
theorem se_int {i : Int} {j : Nat} {pos : Pos} : SE X W (.Constant (.int i) j pos) (rC (.int i)) (tC (.int i)) := se_const pe_int fun _ => .int i
theorem se_bl {b : Bool} {j : Nat} {pos : Pos} : SE X W (.Constant (.bool b) j pos) (rC (.bl b)) (tC (.bl b)) := se_const pe_bl fun _ => .bl b
theorem se_non {j : Nat} {pos : Pos} : SE X W (.Constant .none j pos) (rC .non) (tC .non) := se_const pe_non fun _ => .non
theorem se_str {x : Str} {j : Nat} {pos : Pos} : SE X W (.Constant (.str x) j pos) (rC (.str x)) (tC (.str x)) := se_const pe_str fun _ => .str x
/-- a module's constant -/
theorem se_glob {x : Str} {v : V} {u : Value} {y : D} {pos : Pos} (hm : X.mg x = some u) (r : RelV v u) (rd : ∀ w, RD X.K w y v) (hg : Gl X x := by rfl) (hd : (x == ("__debug__" : Str)) = false := by decide) : SE X W (.Name x pos) (rC y) (tC v) :=
  se_const (pe_glob hg hm r hd) rd

/-! ### operators -/
/-- a two-place operation, on data -/
structure OpS (X : Cx) (F : Value → Value → Sem Value) (g : D → D → Option RV) (r : R2) : Prop where
  op : OpR X F r
  rd : ∀ w H0 H m x y vx vy rv (Q : VK), Wf X.K w H m → RP X.K w H x vx → RP X.K w H y vy → g x y = some rv → PR X w H0 H Q rv m → r vx vy H Q
def rBin (g : D → D → Option RV) (a b : SemR) : SemR := fun env m => (vl a env m).bind fun x m1 => (vl b env m1).bind fun y m2 => match g x y with
  | some rv => .ok rv m2
  | none => .bot
/-- a value that is given anew with the world -/
theorem RR.after {K : PySem.W.Frag} {H0 H H1 H2 : Hp} {w w1 w2 : Wd} {rv : RV} {v : V} (E : Ext w H w1 H1) (h : RR K H0 H1 w2 H2 rv v) : RR K H0 H w2 H2 rv v := by
  cases rv with
  | d x => exact h
  | fl xs =>
    obtain ⟨a, vs, h1, h2, h3, h4, h5, h6⟩ := h
    exact ⟨a, vs, h1, h2, h3, h4, E.there a h5, h6⟩
  | pk xs => exact h
variable {a b : Expr} {fa fb : SemR} {ta tb : TE} {pos : Pos}
theorem bin_rd {F : Value → Value → Sem Value} {g : D → D → Option RV} {r : R2} (ho : OpS X F g r) (ha : SE X W a fa ta) (hb : SE X W b fb tb) {w : Wd} {H0 H : Hp} {σ : St} {env : Env} {m : Cells} {Q : VK} (Wm : Wf X.K w H m) (S : Slots X.K w H0 σ H env)
    (q : WP (rBin g fa fb env m) (PR X w H0 H Q) (PX X W w H σ)) : tOp r ta tb σ H Q := by
  refine ha.vl Wm S (WP.mono (WP.of_bind q) (fun x m1 q w1 H1 v1 E1 W1 r1 => ?_) fun _ _ z => z)
  refine hb.vl W1 (S.ext E1) (WP.mono (WP.of_bind q) (fun y m2 q w2 H2 v2 E2 W2 r2 => ?_) fun x m' z c d w' H' E' W' rx => z c d w' H' (E1.trans E') W' rx)
  cases e : g x y with
  | none => rw [e] at q; exact q.elim
  | some rv =>
    rw [e] at q
    exact ho.rd w2 H0 H2 m2 x y v1 v2 rv Q W2 (r1.ext E2) r2 e fun w' H' v E' W' rr => q w' H' v ((E1.trans E2).trans E') W' (rr.after (E1.trans E2))
theorem se_bin {op : Operator} {g : D → D → Option RV} {r : R2} (ho : OpS X (binaryOp op) g r) (ha : SE X W a fa ta) (hb : SE X W b fb tb) : SE X W (.BinOp a op b pos) (rBin g fa fb) (tOp r ta tb) :=
  ⟨pe_op ho.op ha.pe hb.pe, fun _ _ _ _ _ _ _ Wm S q => bin_rd ho ha hb Wm S q⟩
theorem se_cmp {op : CmpOp} {g : D → D → Option RV} {r : R2} (ho : OpS X (compareOp op) g r) (ha : SE X W a fa ta) (hb : SE X W b fb tb) (hm : behindInMarks op b = false := by first | exact nomark _ | rfl) : SE X W (.Compare a [op] [b] pos) (rBin g fa fb) (tOp r ta tb) :=
  ⟨pe_cmpR ho.op ha.pe hb.pe hm, fun _ _ _ _ _ _ _ Wm S q => bin_rd ho ha hb Wm S q⟩
theorem OpS.or {F : Value → Value → Sem Value} {g g' : D → D → Option RV} {r r' : R2} (h : OpS X F g r) (h' : OpS X F g' r') : OpS X F (fun x y => (g x y).orElse fun _ => g' x y) (fun x y H Q => r x y H Q ∨ r' x y H Q) := by
  refine ⟨h.op.or h'.op, fun w H0 H m x y vx vy rv Q Wm rx ry e q => ?_⟩
  cases e1 : g x y with
  | some z =>
    rw [e1] at e
    exact .inl (h.rd w H0 H m x y vx vy rv Q Wm rx ry (by rw [e1]; exact e) q)
  | none =>
    rw [e1] at e
    exact .inr (h'.rd w H0 H m x y vx vy rv Q Wm rx ry e q)
/-- ints to a scalar -/
theorem ops_ints {F : Value → Value → Sem Value} {C : Int → Int → Prop} [∀ i j, Decidable (C i j)] {g : Int → Int → Int} (op : OpR X F (rI C fun i j => .int (g i j))) :
    OpS X F (fun x y => match x, y with | .int i, .int j => if C i j then some (.d (.int (g i j))) else none | _, _ => none) (rI C fun i j => .int (g i j)) := by
  refine ⟨op, fun w H0 H m x y vx vy rv Q Wm rx ry e q => ?_⟩
  split at e
  · split at e
    · rename_i i j hc
      cases e
      exact ⟨i, j, rx.int, ry.int, hc, q w H _ (.refl _ _) Wm (.int _)⟩
    · cases e
  · cases e
theorem ops_ints0 {F : Value → Value → Sem Value} {g : Int → Int → Int} (op : OpR X F (rI0 fun i j => .int (g i j))) :
    OpS X F (fun x y => match x, y with | .int i, .int j => some (.d (.int (g i j))) | _, _ => none) (rI0 fun i j => .int (g i j)) := by
  refine ⟨op, fun w H0 H m x y vx vy rv Q Wm rx ry e q => ?_⟩
  split at e
  · rename_i i j
    cases e
    exact ⟨i, j, rx.int, ry.int, q w H _ (.refl _ _) Wm (.int _)⟩
  · cases e
theorem ops_cmp {F : Value → Value → Sem Value} {g : Int → Int → Bool} (op : OpR X F (rI0 fun i j => .bl (g i j))) :
    OpS X F (fun x y => match x, y with | .int i, .int j => some (.d (.bl (g i j))) | _, _ => none) (rI0 fun i j => .bl (g i j)) := by
  refine ⟨op, fun w H0 H m x y vx vy rv Q Wm rx ry e q => ?_⟩
  split at e
  · rename_i i j
    cases e
    exact ⟨i, j, rx.int, ry.int, q w H _ (.refl _ _) Wm (.bl _)⟩
  · cases e
end
end Ev
/-! Ev, part C: the operators. -/
namespace Ev
open PySem PySem.Spec L2
/-- the longest list, tuple, text that is made -/
abbrev LN : Nat := 1000000
theorem ln_line {n : Nat} (h : n ≤ LN) : n ≤ sizeLine := Nat.le_trans h (by rw [sizeLine_eq]; decide)
theorem ln_lt {n : Nat} (h : n ≤ LN) : n < sizeLine := Nat.lt_of_le_of_lt h (by rw [sizeLine_eq]; decide)
section
variable {X : Cx} {w : Wd} {H0 H : Hp} {m : Cells} {Q : VK}
theorem Wf.noF {K : PySem.W.Frag} (W : Wf K w H m) {p : Addr} (hp : H p = none) : w.F p = none := by
  cases q : w.F p with
  | none => rfl
  | some o =>
    have := W.sub p o q
    rw [hp] at this; cases this
theorem Wf.noI {K : PySem.W.Frag} (W : Wf K w H m) {p : Addr} (hp : H p = none) : p ∉ w.ι := fun h => by
  obtain ⟨n, hn⟩ := List.mem_iff_getElem?.mp h
  have hl : n < m.length := by rw [← W.len]; exact (List.getElem?_eq_some_iff.mp hn).1
  obtain ⟨a, h1, h2⟩ := W.cell n m[n] (by simp [hl])
  rw [hn] at h1
  cases h1
  cases hc : m[n] with
  | lst xs =>
    rw [hc] at h2
    obtain ⟨vs, h3, _⟩ := h2
    rw [hp] at h3; cases h3
theorem new_known {p : Addr} {o : HO} (Wm : Wf X.K w H m) (hp : H p = none) : Ext w H (w.add p o) (upd H p o) ∧ Wf X.K (w.add p o) (upd H p o) m ∧ WLe w (w.add p o) ∧ (w.add p o).F p = some o :=
  ⟨(Ext.new hp).add (Wm.noF hp) hp, (Wm.new hp).add (Wm.noF hp) upd_same (Wm.noI hp), .add (Wm.noF hp), by show upd w.F p o p = _; exact upd_same⟩
theorem new_tup {p : Addr} {xs : List D} {vs : List V} (Wm : Wf X.K w H m) (hp : H p = none) (r : RDs X.K w xs vs) (q : PR X w H0 H Q (.d (.tup xs)) m) : Q (.ref p) (upd H p (.tup vs)) := by
  obtain ⟨E, W2, L, f⟩ := new_known (X := X) (o := .tup vs) Wm hp
  exact q _ _ _ E W2 (.tup (.inl (.inl f)) (r.le L))
theorem new_lst {p : Addr} {xs : List D} {vs : List V} (Wm : Wf X.K w H m) (hp : H p = none) (r : RDs X.K w xs vs) (q : PR X w H0 H Q (.fl xs) m) : Q (.ref p) (upd H p (.lst vs)) :=
  q w _ _ (.new hp) (Wm.new hp) ⟨p, vs, rfl, upd_same, Wm.noF hp, Wm.noI hp, hp, r⟩
theorem RP.rd_tup {K : PySem.W.Frag} {xs : List D} {v : V} (h : RP K w H (.tup xs) v) : RD K w (.tup xs) v := by
  rcases h with h | ⟨ys, a, vs, h1, _⟩
  · exact h
  · cases h1
end

/-! ### + - * // % ** -/
def gAdd : D → D → Option RV
  | .int i, .int j => some (.d (.int (i + j)))
  | .str a, .str b => if a.length + b.length ≤ LN then some (.d (.str (a ++ b))) else none
  | .tup xs, .tup ys => if xs.length + ys.length ≤ LN then some (.d (.tup (xs ++ ys))) else none
  | .lst xs, .lst ys => if xs.length + ys.length ≤ LN then some (.fl (xs ++ ys)) else none
  | _, _ => none
def gMinus : D → D → Option RV
  | .int i, .int j => some (.d (.int (i - j)))
  | _, _ => none
/-- one of both below 2 ^ 64 in size, or both of less than a million bits together -/
def mulOk (i j : Int) : Bool := decide (-(2 ^ 64) < i ∧ i < 2 ^ 64) || decide (-(2 ^ 64) < j ∧ j < 2 ^ 64) || decide (i.natAbs.log2 + j.natAbs.log2 < 1000000)
def gMul : D → D → Option RV
  | .int i, .int j => if mulOk i j then some (.d (.int (i * j))) else none
  | .lst xs, .int k => if 0 ≤ k ∧ k ≤ 1000000 ∧ xs.length * k.toNat ≤ LN then some (.fl (List.replicate k.toNat xs).flatten) else none
  | .tup (x :: xs), .int k => if 2 ≤ k ∧ k ≤ 1000 ∧ xs.length < 1000 then some (.d (.tup (List.replicate k.toNat (x :: xs)).flatten)) else none
  | _, _ => none
def gDiv : D → D → Option RV
  | .int i, .int j => if 0 < j ∧ (j < 1073741824 ∨ j.natAbs.log2 < 9000) then some (.d (.int (i / j))) else none
  | _, _ => none
def gMod : D → D → Option RV
  | .int i, .int j => if 0 < j then some (.d (.int (i % j))) else none
  | _, _ => none
def gPow : D → D → Option RV
  | .int i, .int j => if 0 ≤ j ∧ j ≤ 1000000 ∧ i.natAbs < 2 ^ 64 then some (.d (.int (i ^ j.toNat))) else none
  | _, _ => none
section
variable {X : Cx}
def tAddR (K : PySem.W.Frag) : R2 := fun x y H Q => rI0 (fun i j => .int (i + j)) x y H Q ∨ (∃ i j, x = .str i ∧ y = .str j ∧ i.length + j.length ≤ sizeLine ∧ Q (.str (i ++ j)) H) ∨ rCatA K x y H Q ∨ rCat x y H Q
theorem ops_add : OpS X (binaryOp .Add) gAdd (tAddR X.K) := by
  refine ⟨op_add.or (op_add_str.or (op_catA.or op_cat)), fun w H0 H m x y vx vy rv Q Wm rx ry e q => ?_⟩
  unfold gAdd at e
  split at e
  · cases e
    exact .inl ⟨_, _, rx.int, ry.int, q w H _ (.refl _ _) Wm (.int _)⟩
  · split at e
    · rename_i hl
      cases e
      exact .inr (.inl ⟨_, _, rx.str, ry.str, ln_line hl, q w H _ (.refl _ _) Wm (.str _)⟩)
    · cases e
  · split at e
    · rename_i xs ys hl
      cases e
      have rdx := rx.rd_tup
      have rdy := ry.rd_tup
      obtain ⟨a, vs, rfl, h1, h2⟩ := rx.tup Wm
      obtain ⟨b, us, rfl, h3, h4⟩ := ry.tup Wm
      refine .inr (.inr (.inl ⟨a, b, vs, us, rfl, rfl, h1, h3, ?_, fun z => ?_, fun _ z => ?_, fun _ _ p hp => ?_⟩))
      · rw [← h2.length, ← h4.length]; exact ln_line hl
      · subst z
        cases h2
        exact q w H _ (.refl _ _) Wm rdy
      · subst z
        cases h4
        rw [List.append_nil] at q
        exact q w H _ (.refl _ _) Wm rdx
      · exact new_tup Wm hp (h2.append h4) q
    · cases e
  · split at e
    · rename_i xs ys hl
      cases e
      obtain ⟨a, vs, rfl, h1, h2⟩ := rx.lst Wm
      obtain ⟨b, us, rfl, h3, h4⟩ := ry.lst Wm
      refine .inr (.inr (.inr ⟨a, b, vs, us, rfl, rfl, h1, h3, ?_, fun p hp => new_lst Wm hp (h2.append h4) q⟩))
      rw [← h2.length, ← h4.length]; exact ln_line hl
    · cases e
  · cases e
theorem ops_sub : OpS X (binaryOp .Sub) gMinus (rI0 fun i j => .int (i - j)) := by
  refine ⟨op_sub, fun w H0 H m x y vx vy rv Q Wm rx ry e q => ?_⟩
  unfold gMinus at e
  split at e
  · cases e
    exact ⟨_, _, rx.int, ry.int, q w H _ (.refl _ _) Wm (.int _)⟩
  · cases e
theorem RDs.rep {K : PySem.W.Frag} {w : Wd} {xs : List D} {vs : List V} (r : RDs K w xs vs) : ∀ k : Nat, RDs K w (List.replicate k xs).flatten (List.replicate k vs).flatten
  | 0 => .nil
  | k + 1 => by
    rw [List.replicate_succ, List.replicate_succ, List.flatten_cons, List.flatten_cons]
    exact r.append (RDs.rep r k)
def tMulR (K : PySem.W.Frag) : R2 := fun x y H Q => rI CMul (fun i j => .int (i * j)) x y H Q ∨ rI CMulW (fun i j => .int (i * j)) x y H Q ∨ rRep x y H Q ∨ rRepT K x y H Q
theorem ops_mul : OpS X (binaryOp .Mult) gMul (tMulR X.K) := by
  refine ⟨op_mul.or (op_mulW.or (op_rep.or op_repT)), fun w H0 H m x y vx vy rv Q Wm rx ry e q => ?_⟩
  unfold gMul at e
  split at e
  · split at e
    · rename_i i j hc
      cases e
      unfold mulOk at hc
      rw [Bool.or_eq_true, Bool.or_eq_true] at hc
      rcases hc with (hc | hc) | hc
      · exact .inl ⟨_, _, rx.int, ry.int, .inl (of_decide_eq_true hc), q w H _ (.refl _ _) Wm (.int _)⟩
      · exact .inl ⟨_, _, rx.int, ry.int, .inr (of_decide_eq_true hc), q w H _ (.refl _ _) Wm (.int _)⟩
      · exact .inr (.inl ⟨_, _, rx.int, ry.int, (of_decide_eq_true hc : i.natAbs.log2 + j.natAbs.log2 < 1000000), q w H _ (.refl _ _) Wm (.int _)⟩)
    · cases e
  · split at e
    · rename_i xs k hc
      cases e
      obtain ⟨a, vs, rfl, h1, h2⟩ := rx.lst Wm
      refine .inr (.inr (.inl ⟨a, k, vs, rfl, ry.int, h1, by omega, by omega, ?_, fun p hp => new_lst Wm hp (h2.rep _) q⟩))
      rw [← h2.length]; exact ln_line hc.2.2
    · cases e
  · split at e
    · rename_i x xs k hc
      cases e
      obtain ⟨a, vs, rfl, h1, h2⟩ := rx.tup Wm
      have hl := h2.length
      rw [List.length_cons] at hl
      refine .inr (.inr (.inr ⟨a, k, vs, rfl, ry.int, h1, fun z => ?_, hc.1, hc.2.1, by omega, fun p hp => new_tup Wm hp (h2.rep _) q⟩))
      subst z
      simp at hl
    · cases e
  · cases e
theorem ops_div : OpS X (binaryOp .FloorDiv) gDiv (fun x y H Q => rI CDiv (fun i j => .int (i / j)) x y H Q ∨ rI CDivW (fun i j => .int (i / j)) x y H Q) := by
  refine ⟨op_fdiv.or op_fdivW, fun w H0 H m x y vx vy rv Q Wm rx ry e q => ?_⟩
  unfold gDiv at e
  split at e
  · split at e
    · rename_i i j hc
      cases e
      rcases hc.2 with z | z
      · exact .inl ⟨_, _, rx.int, ry.int, ⟨hc.1, z⟩, q w H _ (.refl _ _) Wm (.int _)⟩
      · exact .inr ⟨_, _, rx.int, ry.int, ⟨hc.1, z⟩, q w H _ (.refl _ _) Wm (.int _)⟩
    · cases e
  · cases e
theorem ops_mod : OpS X (binaryOp .Mod) gMod (rI (fun _ j => 0 < j) fun i j => .int (i % j)) := by
  refine ⟨op_mod, fun w H0 H m x y vx vy rv Q Wm rx ry e q => ?_⟩
  unfold gMod at e
  split at e
  · split at e
    · cases e
      exact ⟨_, _, rx.int, ry.int, ‹_›, q w H _ (.refl _ _) Wm (.int _)⟩
    · cases e
  · cases e
theorem ops_pow : OpS X (binaryOp .Pow) gPow (rI CPow fun i j => .int (i ^ j.toNat)) := by
  refine ⟨op_pow, fun w H0 H m x y vx vy rv Q Wm rx ry e q => ?_⟩
  unfold gPow at e
  split at e
  · split at e
    · cases e
      exact ⟨_, _, rx.int, ry.int, ‹_›, q w H _ (.refl _ _) Wm (.int _)⟩
    · cases e
  · cases e
end

/-! ### comparisons -/
def gEq (x y : D) : Option RV := if plainD 60 x && plainD 60 y then some (.d (.bl (deq x y))) else none
def gNe (x y : D) : Option RV := if plainD 60 x && plainD 60 y then some (.d (.bl (!deq x y))) else none
def gLt : D → D → Option RV
  | .int i, .int j => some (.d (.bl (decide (i < j))))
  | _, _ => none
def gLe : D → D → Option RV
  | .int i, .int j => some (.d (.bl (decide (i ≤ j))))
  | _, _ => none
def gGt : D → D → Option RV
  | .int i, .int j => some (.d (.bl (decide (j < i))))
  | _, _ => none
def gGe : D → D → Option RV
  | .int i, .int j => some (.d (.bl (decide (j ≤ i))))
  | _, _ => none
/-- what is a text, number, truth value .. as against None -/
def isNon : D → Bool
  | .non => true
  | _ => false
def gIs : D → D → Option RV
  | x, .non => some (.d (.bl (isNon x)))
  | .bl a, .bl b => some (.d (.bl (a == b)))
  | _, _ => none
def gIsNot : D → D → Option RV
  | x, .non => some (.d (.bl (!isNon x)))
  | .bl a, .bl b => some (.d (.bl (!(a == b))))
  | _, _ => none
def itemsOf : D → Option (List D)
  | .lst xs => some xs
  | .tup xs => some xs
  | _ => none
def gIn (x y : D) : Option RV := match y with
  | .lst ys | .tup ys => if plainD 60 x && plainDs 60 ys then some (.d (.bl (ys.any fun y => deq y x))) else none
  | _ => none
def gNotIn (x y : D) : Option RV := match y with
  | .lst ys | .tup ys => if plainD 60 x && plainDs 60 ys then some (.d (.bl (!(ys.any fun y => deq y x)))) else none
  | _ => none
section
variable {X : Cx}
def rEqP (K : PySem.W.Frag) : R2 := fun x y H Q => ∃ d e, Dp K H x d ∧ Dp K H y e ∧ d.plain = true ∧ e.plain = true ∧ d.depth ≤ 60 ∧ Q (.bl (PyData.eqv d e)) H
def rNeP (K : PySem.W.Frag) : R2 := fun x y H Q => ∃ d e, Dp K H x d ∧ Dp K H y e ∧ d.plain = true ∧ e.plain = true ∧ d.depth ≤ 60 ∧ Q (.bl (!PyData.eqv d e)) H
theorem op_eqP (hu : X.A.units + 64 < cLine) : OpR X (compareOp .Eq) (rEqP X.K) := by
  intro pins s σ H x y v u Q I rx ry h
  obtain ⟨d, e, hd, he, pd, pe, dd, q⟩ := h
  obtain ⟨as, r1⟩ := Dp.reads I d x v hd rx
  obtain ⟨bs, r2⟩ := Dp.reads I e y u he ry
  exact PySem.SeqAt.eq_plain r1 r2 pd pe (by have := Nat.min_le_left d.depth e.depth; omega) ⟨.bl _, H, I, rfl, q⟩
theorem op_neP (hu : X.A.units + 64 < cLine) : OpR X (compareOp .NotEq) (rNeP X.K) := by
  intro pins s σ H x y v u Q I rx ry h
  obtain ⟨d, e, hd, he, pd, pe, dd, q⟩ := h
  obtain ⟨as, r1⟩ := Dp.reads I d x v hd rx
  obtain ⟨bs, r2⟩ := Dp.reads I e y u he ry
  exact PySem.SeqAt.ne_plain r1 r2 pd pe (by have := Nat.min_le_left d.depth e.depth; omega) ⟨.bl _, H, I, rfl, q⟩
theorem ops_eq (hu : X.A.units + 64 < cLine) : OpS X (compareOp .Eq) gEq (rEqP X.K) := by
  refine ⟨op_eqP hu, fun w H0 H m x y vx vy rv Q Wm rx ry e q => ?_⟩
  unfold gEq at e
  split at e
  · rename_i hc
    cases e
    rw [Bool.and_eq_true] at hc
    obtain ⟨p1, d1⟩ := toPy_plain 60 x hc.1
    obtain ⟨p2, _⟩ := toPy_plain 60 y hc.2
    refine ⟨toPy x, toPy y, rx.dp Wm hc.1, ry.dp Wm hc.2, p1, p2, d1, ?_⟩
    rw [deq_py 60 x y hc.1 hc.2]
    exact q w H _ (.refl _ _) Wm (.bl _)
  · cases e
theorem ops_ne (hu : X.A.units + 64 < cLine) : OpS X (compareOp .NotEq) gNe (rNeP X.K) := by
  refine ⟨op_neP hu, fun w H0 H m x y vx vy rv Q Wm rx ry e q => ?_⟩
  unfold gNe at e
  split at e
  · rename_i hc
    cases e
    rw [Bool.and_eq_true] at hc
    obtain ⟨p1, d1⟩ := toPy_plain 60 x hc.1
    obtain ⟨p2, _⟩ := toPy_plain 60 y hc.2
    refine ⟨toPy x, toPy y, rx.dp Wm hc.1, ry.dp Wm hc.2, p1, p2, d1, ?_⟩
    rw [deq_py 60 x y hc.1 hc.2]
    exact q w H _ (.refl _ _) Wm (.bl _)
  · cases e
theorem ops_lt : OpS X (compareOp .Lt) gLt (rI0 fun i j => .bl (decide (i < j))) := by
  refine ⟨op_lt, fun w H0 H m x y vx vy rv Q Wm rx ry e q => ?_⟩
  unfold gLt at e
  split at e
  · cases e; exact ⟨_, _, rx.int, ry.int, q w H _ (.refl _ _) Wm (.bl _)⟩
  · cases e
theorem ops_le : OpS X (compareOp .LtE) gLe (rI0 fun i j => .bl (decide (i ≤ j))) := by
  refine ⟨op_le, fun w H0 H m x y vx vy rv Q Wm rx ry e q => ?_⟩
  unfold gLe at e
  split at e
  · cases e; exact ⟨_, _, rx.int, ry.int, q w H _ (.refl _ _) Wm (.bl _)⟩
  · cases e
theorem ops_gt : OpS X (compareOp .Gt) gGt (rI0 fun i j => .bl (decide (j < i))) := by
  refine ⟨op_gt, fun w H0 H m x y vx vy rv Q Wm rx ry e q => ?_⟩
  unfold gGt at e
  split at e
  · cases e; exact ⟨_, _, rx.int, ry.int, q w H _ (.refl _ _) Wm (.bl _)⟩
  · cases e
theorem ops_ge : OpS X (compareOp .GtE) gGe (rI0 fun i j => .bl (decide (j ≤ i))) := by
  refine ⟨op_ge, fun w H0 H m x y vx vy rv Q Wm rx ry e q => ?_⟩
  unfold gGe at e
  split at e
  · cases e; exact ⟨_, _, rx.int, ry.int, q w H _ (.refl _ _) Wm (.bl _)⟩
  · cases e
theorem RP.isNon {K : PySem.W.Frag} {w : Wd} {H : Hp} {m : Cells} {x : D} {v : V} (Wm : Wf K w H m) (h : RP K w H x v) : decide (v = .non) = Ev.isNon x := by
  rcases h with h | ⟨xs, a, vs, rfl, rfl, _⟩
  · cases h with
    | ext e => rw [decide_eq_false (Wm.xi _ _ e)]; rfl
    | _ => rfl
  · rfl
def tIsR : R2 := fun x y H Q => (y = .non ∧ Q (.bl (decide (x = .non))) H) ∨ rIsB x y H Q
def tIsNotR : R2 := fun x y H Q => (y = .non ∧ Q (.bl (!decide (x = .non))) H) ∨ rNotB x y H Q
theorem dec_beq (a b : Bool) : decide (a = b) = (a == b) := by cases a <;> cases b <;> rfl
theorem ops_is : OpS X (compareOp .Is) gIs tIsR := by
  refine ⟨op_isN.or op_isBl, fun w H0 H m x y vx vy rv Q Wm rx ry e q => ?_⟩
  unfold gIs at e
  split at e
  · cases e
    refine .inl ⟨ry.non, ?_⟩
    rw [rx.isNon Wm]
    exact q w H _ (.refl _ _) Wm (.bl _)
  · rename_i a b
    cases e
    refine .inr ⟨a, b, rx.bl, ry.bl, ?_⟩
    rw [dec_beq]
    exact q w H _ (.refl _ _) Wm (.bl _)
  · cases e
theorem ops_isnot : OpS X (compareOp .IsNot) gIsNot tIsNotR := by
  refine ⟨op_notN.or op_notBl, fun w H0 H m x y vx vy rv Q Wm rx ry e q => ?_⟩
  unfold gIsNot at e
  split at e
  · cases e
    refine .inl ⟨ry.non, ?_⟩
    rw [rx.isNon Wm]
    exact q w H _ (.refl _ _) Wm (.bl _)
  · rename_i a b
    cases e
    refine .inr ⟨a, b, rx.bl, ry.bl, ?_⟩
    rw [dec_beq]
    exact q w H _ (.refl _ _) Wm (.bl _)
  · cases e
/-! in, not in -/
def rInP (K : PySem.W.Frag) (neg : Bool) : R2 := fun x y H Q => ∃ d ds, Dp K H x d ∧ (Dp K H y (.list ds) ∨ Dp K H y (.tuple ds)) ∧ d.plain = true ∧ PyData.plainAll ds = true ∧ d.depth ≤ 60 ∧
  Q (.bl (if neg then !(ds.any fun y => PyData.eqv y d) else ds.any fun y => PyData.eqv y d)) H
theorem op_inP (hu : X.A.units + 64 < cLine) : OpR X (compareOp .In) (rInP X.K false) := by
  intro pins s σ H x y v u Q I rx ry h
  obtain ⟨d, ds, hd, he, pd, pe, dd, q⟩ := h
  obtain ⟨as, r1⟩ := Dp.reads I d x v hd rx
  have hm := Nat.min_le_right (PyData.depthAll ds) d.depth
  rcases he with he | he
  · obtain ⟨bs, r2⟩ := Dp.reads I _ y u he ry
    exact PySem.SeqAt.in_list_data r2 r1 pe pd (by omega) ⟨.bl _, H, I, rfl, q⟩
  · obtain ⟨bs, r2⟩ := Dp.reads I _ y u he ry
    exact PySem.SeqAt.in_tuple_data r2 r1 pe pd (by omega) ⟨.bl _, H, I, rfl, q⟩
theorem op_notInP (hu : X.A.units + 64 < cLine) : OpR X (compareOp .NotIn) (rInP X.K true) := by
  intro pins s σ H x y v u Q I rx ry h
  obtain ⟨d, ds, hd, he, pd, pe, dd, q⟩ := h
  obtain ⟨as, r1⟩ := Dp.reads I d x v hd rx
  have hm := Nat.min_le_right (PyData.depthAll ds) d.depth
  rcases he with he | he
  · obtain ⟨bs, r2⟩ := Dp.reads I _ y u he ry
    exact PySem.SeqAt.notIn_list_data r2 r1 pe pd (by omega) ⟨.bl _, H, I, rfl, q⟩
  · obtain ⟨bs, r2⟩ := Dp.reads I _ y u he ry
    exact PySem.SeqAt.notIn_tuple_data r2 r1 pe pd (by omega) ⟨.bl _, H, I, rfl, q⟩
theorem any_py (n : Nat) (x : D) (hx : plainD n x = true) : ∀ ys : List D, plainDs n ys = true → (toPys ys).any (fun y => PyData.eqv y (toPy x)) = ys.any fun y => deq y x
  | [], _ => rfl
  | y :: ys, h => by
    rw [plainDs, Bool.and_eq_true] at h
    rw [toPys, List.any_cons, List.any_cons, deq_py n y x h.1 hx, any_py n x hx ys h.2]
theorem in_rd {neg : Bool} {w : Wd} {H0 H : Hp} {m : Cells} {x y : D} {vx vy : V} {Q : VK} {ys : List D} (Wm : Wf X.K w H m) (rx : RP X.K w H x vx) (ry : RP X.K w H y vy) (hy : y = .lst ys ∨ y = .tup ys) (hc : (plainD 60 x && plainDs 60 ys) = true)
    (q : PR X w H0 H Q (.d (.bl (if neg then !(ys.any fun y => deq y x) else ys.any fun y => deq y x))) m) : rInP X.K neg vx vy H Q := by
  rw [Bool.and_eq_true] at hc
  obtain ⟨p1, d1⟩ := toPy_plain 60 x hc.1
  obtain ⟨p2, _⟩ := toPys_plain 60 ys hc.2
  refine ⟨toPy x, toPys ys, rx.dp Wm hc.1, ?_, p1, p2, d1, ?_⟩
  · rcases hy with rfl | rfl
    · have := ry.dp (n := 61) Wm (by simpa [plainD] using hc.2)
      rw [toPy] at this
      exact .inl this
    · have := ry.dp (n := 61) Wm (by simpa [plainD] using hc.2)
      rw [toPy] at this
      exact .inr this
  · rw [any_py 60 x hc.1 ys hc.2]
    exact q w H _ (.refl _ _) Wm (.bl _)
theorem ops_in (hu : X.A.units + 64 < cLine) : OpS X (compareOp .In) gIn (rInP X.K false) := by
  refine ⟨op_inP hu, fun w H0 H m x y vx vy rv Q Wm rx ry e q => ?_⟩
  unfold gIn at e
  split at e
  · split at e
    · rename_i hc
      cases e
      exact in_rd (neg := false) Wm rx ry (.inl rfl) hc q
    · cases e
  · split at e
    · rename_i hc
      cases e
      exact in_rd (neg := false) Wm rx ry (.inr rfl) hc q
    · cases e
  · cases e
theorem ops_notin (hu : X.A.units + 64 < cLine) : OpS X (compareOp .NotIn) gNotIn (rInP X.K true) := by
  refine ⟨op_notInP hu, fun w H0 H m x y vx vy rv Q Wm rx ry e q => ?_⟩
  unfold gNotIn at e
  split at e
  · split at e
    · rename_i hc
      cases e
      exact in_rd (neg := true) Wm rx ry (.inl rfl) hc q
    · cases e
  · split at e
    · rename_i hc
      cases e
      exact in_rd (neg := true) Wm rx ry (.inr rfl) hc q
    · cases e
  · cases e
end

/-! ### - a -/
def rNeg (a : SemR) : SemR := fun env m => (vl a env m).bind fun x m1 => match x with
  | .int i => .ok (.d (.int (-i))) m1
  | _ => .bot
section
variable {X : Cx} {W : WX} {a : Expr} {fa : SemR} {ta : TE} {pos : Pos}
theorem se_neg (ha : SE X W a fa ta) : SE X W (.UnaryOp .USub a pos) (rNeg fa) (tUn (rU fun i => .int (-i)) ta) := by
  refine ⟨pe_un un_neg ha.pe, fun w H0 σ H env m Q Wm S q => ?_⟩
  refine ha.vl Wm S (WP.mono (WP.of_bind q) (fun x m1 q w1 H1 v1 E1 W1 r1 => ?_) fun _ _ z => z)
  cases x with
  | int i => exact ⟨i, r1.int, q w1 H1 _ E1 W1 (.int _)⟩
  | _ => exact q.elim
end
end Ev
/-! Ev, part D: subscripts, slices, displays, tests, calls of built-ins. -/
namespace Ev
open PySem PySem.Spec L2

/-! ### a[i] -/
theorem RDs.atI {K : PySem.W.Frag} {w : Wd} {xs : List D} {vs : List V} (r : RDs K w xs vs) {i : Int} {x : D} (h : L2.atI xs i = some x) : ∃ v, L2.atI vs i = some v ∧ RD K w x v := by
  unfold L2.atI at h ⊢
  rw [← r.length]
  cases e : ixN xs.length i with
  | none => rw [e] at h; cases h
  | some j =>
    rw [e] at h
    exact r.get h
section
variable {X : Cx} {W : WX} {a b : Expr} {fa fb : SemR} {ta tb : TE} {pos : Pos}
/-- an item: of data, of a cell -/
def itemAt (x k : D) (m : Cells) : Option D := match x, k with
  | .lst xs, .int i => atI xs i
  | .tup xs, .int i => atI xs i
  | .scr xs, .int i => atI xs i
  | .ref n, .int i => match m[n]? with
    | some (.lst xs) => atI xs i
    | none => none
  | _, _ => none
def rIx (a b : SemR) : SemR := fun env m => (vl a env m).bind fun x m1 => (vl b env m1).bind fun k m2 => match itemAt x k m2 with
  | some y => .ok (.d y) m2
  | none => .bot
theorem se_ix (ha : SE X W a fa ta) (hb : SE X W b fb tb) (hs : PlainIx b := by intro _ _; rfl) : SE X W (.Subscript a b pos) (rIx fa fb) (tOp (fun x y H Q => rIxL X.K x y H Q ∨ rIxT X.K x y H Q) ta tb) := by
  refine ⟨pe_ix (ix_list.or ix_tup) ha.pe hb.pe hs, fun w H0 σ H env m Q Wm S q => ?_⟩
  refine ha.vl Wm S (WP.mono (WP.of_bind q) (fun x m1 q w1 H1 v1 E1 W1 r1 => ?_) fun _ _ z => z)
  refine hb.vl W1 (S.ext E1) (WP.mono (WP.of_bind q) (fun y m2 q w2 H2 v2 E2 W2 r2 => ?_) fun x m' z c d w' H' E' W' rx => z c d w' H' (E1.trans E') W' rx)
  cases e : itemAt x y m2 with
  | none => rw [e] at q; exact q.elim
  | some z =>
    rw [e] at q
    have r1 := r1.ext E2
    have q9 : PR X w H0 H Q (.d z) m2 := q
    unfold itemAt at e
    split at e
    · obtain ⟨p, vs, rfl, h1, h2⟩ := r1.lst W2
      obtain ⟨v, h3, h4⟩ := h2.atI e
      exact .inl ⟨p, vs, _, v, rfl, r2.int, .inl (.inl h1), h3, q9 w2 H2 v (E1.trans E2) W2 h4⟩
    · obtain ⟨p, vs, rfl, h1, h2⟩ := r1.tup W2
      obtain ⟨v, h3, h4⟩ := h2.atI e
      exact .inr ⟨p, vs, _, v, rfl, r2.int, h1, h3, q9 w2 H2 v (E1.trans E2) W2 h4⟩
    · obtain ⟨p, vs, rfl, h1, h2⟩ := r1.scr W2
      obtain ⟨v, h3, h4⟩ := h2.atI e
      exact .inl ⟨p, vs, _, v, rfl, r2.int, h1, h3, q9 w2 H2 v (E1.trans E2) W2 h4⟩
    · split at e
      · rename_i xs em
        obtain ⟨p, h0, vs, h1, h2⟩ := W2.cell _ _ em
        obtain ⟨v, h3, h4⟩ := h2.atI e
        rcases r1 with r1 | ⟨_, _, _, z, _⟩
        · cases r1 with
          | ref hr =>
            rw [h0] at hr
            cases hr
            exact .inl ⟨p, vs, _, v, rfl, r2.int, .inl (.inl h1), h3, q9 w2 H2 v (E1.trans E2) W2 h4⟩
        · cases z
      · cases e
    · cases e
end

/-! ### a[i:j] -/
def cutD {α : Type} (xs : List α) (lo hi : Option Int) : List α := (xs.drop (HT.sIx xs.length 0 lo)).take (HT.sIx xs.length xs.length hi - HT.sIx xs.length 0 lo)
theorem RDs.cut {K : PySem.W.Frag} {w : Wd} {xs : List D} {vs : List V} (r : RDs K w xs vs) (lo hi : Option Int) : RDs K w (cutD xs lo hi) (cutV vs lo hi) := by
  unfold cutD cutV
  rw [← r.length]
  exact (r.drop _).take _
abbrev SemO := Env → Cells → Res (Option Int)
def oNo : SemO := fun _ m => .ok none m
def oSome (f : SemR) : SemO := fun env m => (vl f env m).bind fun x m1 => match x with
  | .int i => .ok (some i) m1
  | _ => .bot
structure SOp (X : Cx) (W : WX) (e : Option Expr) (f : SemO) (t : TO) : Prop where
  po : PO X e t
  rd : ∀ w H0 σ H env m (Q : Option Int → Hp → Prop), Wf X.K w H m → Slots X.K w H0 σ H env → WP (f env m) (fun b m' => ∀ w' H', Ext w H w' H' → Wf X.K w' H' m' → Q b H') (PX X W w H σ) → t σ H Q
def rSlice (a : SemR) (lo hi : SemO) : SemR := fun env m => (vl a env m).bind fun x m1 => (lo env m1).bind fun l m2 => (hi env m2).bind fun h m3 => match x with
  | .lst xs => .ok (.fl (cutD xs l h)) m3
  | .tup xs => .ok (.d (.tup (cutD xs l h))) m3
  | _ => .bot
theorem cut_whole {α : Type} {xs : List α} {lo hi : Option Int} (h : HT.sIx xs.length 0 lo = 0 ∧ HT.sIx xs.length xs.length hi = xs.length) : cutD xs lo hi = xs := by
  unfold cutD
  rw [h.1, h.2, List.drop_zero, Nat.sub_zero, List.take_length]
section
variable {X : Cx} {W : WX} {a : Expr} {fa : SemR} {ta : TE} {pos p2 : Pos}
theorem so_none : SOp X W none oNo tNoPart := ⟨po_none, fun w H0 σ H env m Q Wm S q => q w H (.refl _ _) Wm⟩
theorem so_some (ha : SE X W a fa ta) : SOp X W (some a) (oSome fa) (tPart ta) := by
  refine ⟨po_some ha.pe, fun w H0 σ H env m Q Wm S q => ?_⟩
  refine ha.vl Wm S (WP.mono (WP.of_bind q) (fun x m1 q w1 H1 v1 E1 W1 r1 => ?_) fun _ _ z => z)
  cases x with
  | int i => exact ⟨i, r1.int, q w1 H1 E1 W1⟩
  | _ => exact q.elim
theorem se_slice {lo hi : Option Expr} {fl fh : SemO} {tl th : TO} (ha : SE X W a fa ta) (hl : SOp X W lo fl tl) (hh : SOp X W hi fh th) :
    SE X W (.Subscript a (.Slice lo hi none p2) pos) (rSlice fa fl fh) (tSl (fun x l h H Q => rSlL X.K x l h H Q ∨ rSlA X.K x l h H Q) ta tl th) := by
  refine ⟨pe_slice (sl_list.or sl_tupA) ha.pe hl.po hh.po, fun w H0 σ H env m Q Wm S q => ?_⟩
  refine ha.vl Wm S (WP.mono (WP.of_bind q) (fun x m1 q w1 H1 v1 E1 W1 r1 => ?_) fun _ _ z => z)
  refine hl.rd w1 H0 σ H1 env m1 _ W1 (S.ext E1) (WP.mono (WP.of_bind q) (fun l m2 q w2 H2 E2 W2 => ?_) fun x m' z c d w' H' E' W' rx => z c d w' H' (E1.trans E') W' rx)
  refine hh.rd w2 H0 σ H2 env m2 _ W2 (S.ext (E1.trans E2)) (WP.mono (WP.of_bind q) (fun h m3 q w3 H3 E3 W3 => ?_) fun x m' z c d w' H' E' W' rx => z c d w' H' ((E1.trans E2).trans E') W' rx)
  have E := (E1.trans E2).trans E3
  have r1 := r1.ext (E2.trans E3)
  have q' : ∀ {rv : RV}, WP (.ok rv m3 : Res RV) (PR X w H0 H Q) (PX X W w H σ) → PR X w3 H0 H3 Q rv m3 := fun z w' H' v E' W' rr => z w' H' v (E.trans E') W' (rr.after E)
  cases x with
  | lst xs =>
    obtain ⟨p, vs, rfl, h1, h2⟩ := r1.lst W3
    exact .inl ⟨p, vs, rfl, .inl (.inl h1), fun p hp => new_lst W3 hp (h2.cut l h) (q' q)⟩
  | tup xs =>
    have rd := r1.rd_tup
    obtain ⟨p, vs, rfl, h1, h2⟩ := r1.tup W3
    refine .inr ⟨p, vs, rfl, h1, fun hw => ?_, fun _ p hp => new_tup W3 hp (h2.cut l h) (q' q)⟩
    have e : cutD xs l h = xs := cut_whole (by rw [h2.length]; exact hw)
    have q := q' q
    rw [e] at q
    exact q w3 H3 _ (.refl _ _) W3 rd
  | _ => exact q.elim
/-- a[::-1] -/
def rRev (a : SemR) : SemR := fun env m => (vl a env m).bind fun x m1 => match x with
  | .lst xs => .ok (.fl xs.reverse) m1
  | _ => .bot
end

/-! ### argument lists -/
def aNil : SemDs := fun _ m => .ok [] m
def aCons (f : SemR) (g : SemDs) : SemDs := fun env m => (fz f env m).bind fun x m1 => (g env m1).bind fun xs m2 => .ok (x :: xs) m2
/-- the same, read only -/
def pCons (f : SemR) (g : SemDs) : SemDs := fun env m => (vl f env m).bind fun x m1 => (g env m1).bind fun xs m2 => .ok (x :: xs) m2
inductive RPs (K : PySem.W.Frag) (w : Wd) (H : Hp) : List D → List V → Prop
  | nil : RPs K w H [] []
  | cons {x : D} {v : V} {xs : List D} {vs : List V} : RP K w H x v → RPs K w H xs vs → RPs K w H (x :: xs) (v :: vs)
theorem RPs.one {K : PySem.W.Frag} {w : Wd} {H : Hp} {x : D} {vs : List V} (r : RPs K w H [x] vs) : ∃ v, vs = [v] ∧ RP K w H x v := by
  cases r with
  | cons a b =>
    cases b
    exact ⟨_, rfl, a⟩
theorem RPs.two {K : PySem.W.Frag} {w : Wd} {H : Hp} {x y : D} {vs : List V} (r : RPs K w H [x, y] vs) : ∃ v u, vs = [v, u] ∧ RP K w H x v ∧ RP K w H y u := by
  cases r with
  | cons a b =>
    obtain ⟨u, rfl, r⟩ := b.one
    exact ⟨_, _, rfl, a, r⟩
structure SAp (X : Cx) (W : WX) (es : List Expr) (f : SemDs) (t : TA) : Prop where
  pa : PA X es t
  rd : ∀ w H0 σ H env m (Q : List V → Hp → Prop), Wf X.K w H m → Slots X.K w H0 σ H env → WP (f env m) (fun xs m' => ∀ w' H' vs, Ext w H w' H' → Wf X.K w' H' m' → RPs X.K w' H' xs vs → Q vs H') (PX X W w H σ) → t σ H Q
section
variable {X : Cx} {W : WX} {e : Expr} {es : List Expr} {f : SemR} {g : SemDs} {t : TE} {u : TA}
theorem sa_nil : SAt X W [] aNil tNil := ⟨pa_nil, fun w H0 σ H env m Q Wm S q => q w H [] (.refl _ _) Wm .nil⟩
theorem sp_nil : SAp X W [] aNil tNil := ⟨pa_nil, fun w H0 σ H env m Q Wm S q => q w H [] (.refl _ _) Wm .nil⟩
theorem sa_cons (h : SE X W e f t) (hr : SAt X W es g u) (hs : starEach (e :: es) X.env = (false, eval e X.env) :: starEach es X.env := by rfl) : SAt X W (e :: es) (aCons f g) (tCons t u) := by
  refine ⟨pa_cons h.pe hr.pa hs, fun w H0 σ H env m Q Wm S q => ?_⟩
  refine h.fz Wm S (WP.mono (WP.of_bind q) (fun x m1 q w1 H1 v1 E1 W1 r1 => ?_) fun _ _ z => z)
  refine hr.rd w1 H0 σ H1 env m1 _ W1 (S.ext E1) (WP.mono (WP.of_bind q) (fun xs m2 q w2 H2 vs E2 W2 r2 => ?_) fun x m' z c d w' H' E' W' rx => z c d w' H' (E1.trans E') W' rx)
  exact q w2 H2 _ (E1.trans E2) W2 (.cons (r1.le E2.le) r2)
theorem sp_cons (h : SE X W e f t) (hr : SAp X W es g u) (hs : starEach (e :: es) X.env = (false, eval e X.env) :: starEach es X.env := by rfl) : SAp X W (e :: es) (pCons f g) (tCons t u) := by
  refine ⟨pa_cons h.pe hr.pa hs, fun w H0 σ H env m Q Wm S q => ?_⟩
  refine h.vl Wm S (WP.mono (WP.of_bind q) (fun x m1 q w1 H1 v1 E1 W1 r1 => ?_) fun _ _ z => z)
  refine hr.rd w1 H0 σ H1 env m1 _ W1 (S.ext E1) (WP.mono (WP.of_bind q) (fun xs m2 q w2 H2 vs E2 W2 r2 => ?_) fun x m' z c d w' H' E' W' rx => z c d w' H' (E1.trans E') W' rx)
  exact q w2 H2 _ (E1.trans E2) W2 (.cons (r1.ext E2) r2)

/-! ### displays -/
def rTup (g : SemDs) : SemR := fun env m => (g env m).bind fun xs m1 => if xs.length ≤ LN then .ok (.d (.tup xs)) m1 else .bot
def rLst (g : SemDs) : SemR := fun env m => (g env m).bind fun xs m1 => if xs.length ≤ LN then .ok (.fl xs) m1 else .bot
variable {pos : Pos}
theorem se_tup {k} (h : SAt X W es g u) : SE X W (.Tuple es k pos) (rTup g) (tTup u) := by
  refine ⟨pe_tup h.pa, fun w H0 σ H env m Q Wm S q => ?_⟩
  refine h.rd w H0 σ H env m _ Wm S (WP.mono (WP.of_bind q) (fun xs m1 q w1 H1 vs E1 W1 r1 => ?_) fun _ _ z => z)
  split at q
  · rename_i hl
    refine ⟨by rw [← r1.length]; exact ln_line hl, fun p hp => new_tup (H0 := H0) W1 hp r1 fun w' H' v E' W' rr => q w' H' v (E1.trans E') W' rr⟩
  · exact q.elim
theorem se_lst (h : SAt X W es g u) : SE X W (.List es pos) (rLst g) (tLst u) := by
  refine ⟨pe_lst h.pa, fun w H0 σ H env m Q Wm S q => ?_⟩
  refine h.rd w H0 σ H env m _ Wm S (WP.mono (WP.of_bind q) (fun xs m1 q w1 H1 vs E1 W1 r1 => ?_) fun _ _ z => z)
  split at q
  · rename_i hl
    refine ⟨by rw [← r1.length]; exact ln_line hl, fun p hp => new_lst (H0 := H0) W1 hp r1 fun w' H' v E' W' rr => q w' H' v (E1.trans E') W' (rr.after E1)⟩
  · exact q.elim
end

/-- {} -/
def rDict0 : SemR := fun _ m => .ok (.d (.dct [] [])) m
theorem se_dict0 {X : Cx} {W : WX} {pos : Pos} : SE X W (.Dict [] [] pos) rDict0 (fun σ H Q => ∀ d, H d = none → Q (.ref d) (upd H d (.dK []))) := by
  refine ⟨pe_dnewK, fun w H0 σ H env m Q Wm S q d hd => ?_⟩
  obtain ⟨E, W2, L, f⟩ := new_known (X := X) (o := .dK []) Wm hd
  exact q _ _ _ E W2 (.dct0 f)

/-! ### truth -/
def truth : D → Option Bool
  | .non => some false
  | .bl b => some b
  | .int i => some (i != 0)
  | .str x => if x.length ≤ LN then some ((x.length : Int) != 0) else none
  | .tup xs => some !xs.isEmpty
  | .lst xs => some !xs.isEmpty
  | .scr xs => some !xs.isEmpty
  | _ => none
theorem RDs.isEmpty {K : PySem.W.Frag} {w : Wd} {xs : List D} {vs : List V} (r : RDs K w xs vs) : xs.isEmpty = vs.isEmpty := by cases r <;> rfl
theorem RP.truth {K : PySem.W.Frag} {w : Wd} {H : Hp} {m : Cells} {x : D} {v : V} {b : Bool} (Wm : Wf K w H m) (r : RP K w H x v) (h : Ev.truth x = some b) : TruV K v H b := by
  cases x with
  | non => cases h; rw [r.non]; rfl
  | bl c => cases h; rw [r.bl]; rfl
  | int i => cases h; rw [r.int]; rfl
  | str y =>
    simp only [Ev.truth] at h
    split at h
    · rename_i hl
      cases h
      rw [r.str]
      exact ⟨ln_line hl, rfl⟩
    · cases h
  | tup xs =>
    cases h
    obtain ⟨a, vs, rfl, h1, h2⟩ := r.tup Wm
    exact .inr (.inl ⟨vs, h1, by rw [h2.isEmpty]⟩)
  | lst xs =>
    cases h
    obtain ⟨a, vs, rfl, h1, h2⟩ := r.lst Wm
    exact .inl ⟨vs, .inl (.inl h1), by rw [h2.isEmpty]⟩
  | scr xs =>
    cases h
    obtain ⟨a, vs, rfl, h1, h2⟩ := r.scr Wm
    exact .inl ⟨vs, h1, by rw [h2.isEmpty]⟩
  | _ => cases h
def bTruth (f : SemR) : SemB := fun env m => (vl f env m).bind fun x m1 => match truth x with
  | some b => .ok b m1
  | none => .bot
/-- a value that is a truth value -/
def bBool (f : SemR) : SemB := fun env m => (f env m).bind fun x m1 => match x with
  | .d (.bl b) => .ok b m1
  | _ => .bot
def bAnd (f g : SemB) : SemB := fun env m => (f env m).bind fun b m1 => if b = true then g env m1 else .ok false m1
def bOr (f g : SemB) : SemB := fun env m => (f env m).bind fun b m1 => if b = true then .ok true m1 else g env m1
def bNot (f : SemB) : SemB := fun env m => (f env m).bind fun b m1 => .ok (!b) m1
structure STw (X : Cx) (W : WX) (e : Expr) (f : SemB) (t : TT) : Prop where
  pw : PW X e t
  rd : ∀ w H0 σ H env m (Q : Bool → Hp → Prop), Wf X.K w H m → Slots X.K w H0 σ H env → WP (f env m) (fun b m' => ∀ w' H', Ext w H w' H' → Wf X.K w' H' m' → Q b H') (PX X W w H σ) → t σ H Q
section
variable {X : Cx} {W : WX} {a b c : Expr} {fa fb fc : SemR} {ta tb tc : TE} {pos : Pos}
theorem st_truth (ha : SE X W a fa ta) (he : ∀ whole, isTrue a X.env whole = (do let v ← whole; standAt a.pos; holding [v] (truthy v)) := by intro _; rfl) :
    STt X W a (bTruth fa) (fun σ H Q => ta σ H fun x H' => ∃ k, TruV X.K x H' k ∧ Q k H') := by
  refine ⟨pt_truth ha.pe he, fun w H0 σ H env m Q Wm S q => ?_⟩
  refine ha.vl Wm S (WP.mono (WP.of_bind q) (fun x m1 q w1 H1 v1 E1 W1 r1 => ?_) fun _ _ z => z)
  cases e : truth x with
  | none => rw [e] at q; exact q.elim
  | some k =>
    rw [e] at q
    exact ⟨k, r1.truth W1 e, q w1 H1 E1 W1⟩
/-- what gives a truth value, behind a rule for its value -/
theorem test_rd {f : SemR} {t : TE} (h : ∀ w H0 σ H env m Q, Wf X.K w H m → Slots X.K w H0 σ H env → WP (f env m) (PR X w H0 H Q) (PX X W w H σ) → t σ H Q) (w H0 σ H env m) (Q : Bool → Hp → Prop) (Wm : Wf X.K w H m) (S : Slots X.K w H0 σ H env)
    (q : WP (bBool f env m) (fun b m' => ∀ w' H', Ext w H w' H' → Wf X.K w' H' m' → Q b H') (PX X W w H σ)) : tTest t σ H Q := by
  refine h w H0 σ H env m _ Wm S (WP.mono (WP.of_bind q) (fun rv m1 q w1 H1 v1 E1 W1 r1 => ?_) fun _ _ z => z)
  split at q
  · rename_i k
    have r1 : RD X.K w1 (.bl k) v1 := r1
    cases r1
    exact ⟨k, rfl, q w1 H1 E1 W1⟩
  · exact q.elim
theorem st_cmp {op : CmpOp} {g : D → D → Option RV} {r : R2} (ho : OpS X (compareOp op) g r) (ha : SE X W a fa ta) (hb : SE X W b fb tb) (hm : behindInMarks op b = false := by first | exact nomark _ | rfl) :
    STt X W (.Compare a [op] [b] pos) (bBool (rBin g fa fb)) (tTest (tOp r ta tb)) :=
  ⟨pt_cmpR ho.op ha.pe hb.pe hm, fun w H0 σ H env m Q Wm S q => test_rd (fun _ _ _ _ _ _ _ Wm S q => bin_rd ho ha hb Wm S q) w H0 σ H env m Q Wm S q⟩
/-- a op b op' c -/
def rChain (g g' : D → D → Option RV) (a b c : SemR) : SemR := fun env m => (vl a env m).bind fun x m1 => (vl b env m1).bind fun y m2 => match g x y with
  | some (.d (.bl true)) => (vl c env m2).bind fun z m3 => match g' y z with
    | some rv => .ok rv m3
    | none => .bot
  | some (.d (.bl false)) => .ok (.d (.bl false)) m2
  | _ => .bot
end
end Ev
/-! Ev, part E: chains, and/or/not, a if t else b, calls of built-ins. -/
namespace Ev
open PySem PySem.Spec L2
section
variable {X : Cx} {W : WX} {a b c : Expr} {fa fb fc : SemR} {ta tb tc : TE} {pos : Pos}
theorem chain_rd {F F' : Value → Value → Sem Value} {g g' : D → D → Option RV} {r r' : R2} (ho : OpS X F g r) (ho' : OpS X F' g' r') (ha : SE X W a fa ta) (hb : SE X W b fb tb) (hc : SE X W c fc tc) (w H0 σ H env m) (Q : VK) (Wm : Wf X.K w H m) (S : Slots X.K w H0 σ H env)
    (q : WP (rChain g g' fa fb fc env m) (PR X w H0 H Q) (PX X W w H σ)) : tChain r r' ta tb tc σ H Q := by
  refine ha.vl Wm S (WP.mono (WP.of_bind q) (fun x m1 q w1 H1 v1 E1 W1 r1 => ?_) fun _ _ z => z)
  refine hb.vl W1 (S.ext E1) (WP.mono (WP.of_bind q) (fun y m2 q w2 H2 v2 E2 W2 r2 => ?_) fun x m' z c d w' H' E' W' rx => z c d w' H' (E1.trans E') W' rx)
  split at q
  · rename_i e
    refine ho.rd w2 H0 H2 m2 x y v1 v2 _ _ W2 (r1.ext E2) r2 e fun w3 H3 v3 E3 W3 rr => ?_
    have rr : RD X.K w3 (.bl true) v3 := rr
    cases rr
    refine ⟨true, rfl, ?_⟩
    rw [if_pos rfl]
    have E13 := (E1.trans E2).trans E3
    refine hc.vl W3 (S.ext E13) (WP.mono (WP.of_bind q) (fun z m4 q w4 H4 v4 E4 W4 r4 => ?_) fun x m' z c d w' H' E' W' rx => z c d w' H' (E13.trans E') W' rx)
    cases e' : g' y z with
    | none => rw [e'] at q; exact q.elim
    | some rv =>
      rw [e'] at q
      exact ho'.rd w4 H0 H4 m4 y z v2 v4 rv Q W4 (r2.ext (E3.trans E4)) r4 e' fun w' H' v E' W' rr => q w' H' v ((E13.trans E4).trans E') W' (rr.after (E13.trans E4))
  · rename_i e
    refine ho.rd w2 H0 H2 m2 x y v1 v2 _ _ W2 (r1.ext E2) r2 e fun w3 H3 v3 E3 W3 rr => ?_
    have rr : RD X.K w3 (.bl false) v3 := rr
    cases rr
    refine ⟨false, rfl, ?_⟩
    rw [if_neg Bool.false_ne_true]
    exact q w3 H3 _ ((E1.trans E2).trans E3) W3 (.bl false)
  · exact q.elim
theorem se_chain {op op' : CmpOp} {g g' : D → D → Option RV} {r r' : R2} (ho : OpS X (compareOp op) g r) (ho' : OpS X (compareOp op') g' r') (ha : SE X W a fa ta) (hb : SE X W b fb tb) (hc : SE X W c fc tc)
    (hm : lastMarks [op, op'] [b, c] = false := by with_unfolding_all rfl) : SE X W (.Compare a [op, op'] [b, c] pos) (rChain g g' fa fb fc) (tChain r r' ta tb tc) :=
  ⟨pe_chain ho.op ho'.op ha.pe hb.pe hc.pe hm, fun w H0 σ H env m Q Wm S q => chain_rd ho ho' ha hb hc w H0 σ H env m Q Wm S q⟩
theorem st_chain {op op' : CmpOp} {g g' : D → D → Option RV} {r r' : R2} (ho : OpS X (compareOp op) g r) (ho' : OpS X (compareOp op') g' r') (ha : SE X W a fa ta) (hb : SE X W b fb tb) (hc : SE X W c fc tc)
    (hm : lastMarks [op, op'] [b, c] = false := by with_unfolding_all rfl) : STt X W (.Compare a [op, op'] [b, c] pos) (bBool (rChain g g' fa fb fc)) (tTest (tChain r r' ta tb tc)) :=
  ⟨pt_chain ho.op ho'.op ha.pe hb.pe hc.pe hm, fun w H0 σ H env m Q Wm S q => test_rd (chain_rd ho ho' ha hb hc) w H0 σ H env m Q Wm S q⟩

/-! tests -/
variable {f g : SemB} {t u : TT} {rest : List Expr}
theorem STw.st (h : STw X W a f t) : STt X W a f t := ⟨h.pw.pt, h.rd⟩
theorem st_not (h : STt X W a f t) : STt X W (.UnaryOp .Not a pos) (bNot f) (tNot t) := by
  refine ⟨pt_not h.pt, fun w H0 σ H env m Q Wm S q => ?_⟩
  exact h.rd w H0 σ H env m _ Wm S (WP.mono (WP.of_bind q) (fun b m1 q w1 H1 E1 W1 => q w1 H1 E1 W1) fun _ _ z => z)
theorem sw_and1 (h : STt X W a f t) : STw X W (.BoolOp .And [a] pos) f t := ⟨pw_and1 h.pt, h.rd⟩
theorem sw_or1 (h : STt X W a f t) : STw X W (.BoolOp .Or [a] pos) f t := ⟨pw_or1 h.pt, h.rd⟩
theorem sw_and (h : STt X W a f t) (h2 : STw X W (.BoolOp .And (b :: rest) pos) g u) : STw X W (.BoolOp .And (a :: b :: rest) pos) (bAnd f g) (tAnd t u) := by
  refine ⟨pw_and h.pt h2.pw, fun w H0 σ H env m Q Wm S q => ?_⟩
  refine h.rd w H0 σ H env m _ Wm S (WP.mono (WP.of_bind q) (fun b m1 q w1 H1 E1 W1 => ?_) fun _ _ z => z)
  cases b with
  | true =>
    rw [if_pos rfl] at q ⊢
    exact h2.rd w1 H0 σ H1 env m1 Q W1 (S.ext E1) (WP.mono q (fun b m' z w' H' E' W' => z w' H' (E1.trans E') W') fun x m' z c d w' H' E' W' rx => z c d w' H' (E1.trans E') W' rx)
  | false =>
    rw [if_neg Bool.false_ne_true] at q ⊢
    exact q w1 H1 E1 W1
theorem sw_or (h : STt X W a f t) (h2 : STw X W (.BoolOp .Or (b :: rest) pos) g u) : STw X W (.BoolOp .Or (a :: b :: rest) pos) (bOr f g) (tOr t u) := by
  refine ⟨pw_or h.pt h2.pw, fun w H0 σ H env m Q Wm S q => ?_⟩
  refine h.rd w H0 σ H env m _ Wm S (WP.mono (WP.of_bind q) (fun b m1 q w1 H1 E1 W1 => ?_) fun _ _ z => z)
  cases b with
  | false =>
    rw [if_neg Bool.false_ne_true] at q ⊢
    exact h2.rd w1 H0 σ H1 env m1 Q W1 (S.ext E1) (WP.mono q (fun b m' z w' H' E' W' => z w' H' (E1.trans E') W') fun x m' z c d w' H' E' W' rx => z c d w' H' (E1.trans E') W' rx)
  | true =>
    rw [if_pos rfl] at q ⊢
    exact q w1 H1 E1 W1

/-! as values -/
/-- a value by its truth, else the next one's -/
def rAnd (f g : SemR) : SemR := fun env m => (fz f env m).bind fun x m1 => match truth x with
  | some true => g env m1
  | some false => .ok (.d x) m1
  | none => .bot
def rOr (f g : SemR) : SemR := fun env m => (fz f env m).bind fun x m1 => match truth x with
  | some true => .ok (.d x) m1
  | some false => g env m1
  | none => .bot
def rNot (f : SemR) : SemR := fun env m => (vl f env m).bind fun x m1 => match truth x with
  | some b => .ok (.d (.bl (!b))) m1
  | none => .bot
def rIf (t : SemB) (f g : SemR) : SemR := fun env m => (t env m).bind fun b m1 => if b = true then f env m1 else g env m1
theorem se_one {op} (h : SE X W a fa ta) : SE X W (.BoolOp op [a] pos) fa ta := ⟨pe_one h.pe, h.rd⟩
theorem WP.after {w w1 : Wd} {H0 H H1 : Hp} {σ : St} {Q : VK} {r : Res RV} (E1 : Ext w H w1 H1) (q : WP r (PR X w H0 H Q) (PX X W w H σ)) : WP r (PR X w1 H0 H1 Q) (PX X W w1 H1 σ) :=
  WP.mono q (fun rv m' z w' H' v E' W' rr => z w' H' v (E1.trans E') W' (rr.after E1)) fun x m' z c d w' H' E' W' rx => z c d w' H' (E1.trans E') W' rx
theorem se_and (ha : SE X W a fa ta) (hb : SE X W (.BoolOp .And (b :: rest) pos) fb tb) : SE X W (.BoolOp .And (a :: b :: rest) pos) (rAnd fa fb) (tAndT X.K ta tb) := by
  refine ⟨pe_andT ha.pe hb.pe, fun w H0 σ H env m Q Wm S q => ?_⟩
  refine ha.fz Wm S (WP.mono (WP.of_bind q) (fun x m1 q w1 H1 v1 E1 W1 r1 => ?_) fun _ _ z => z)
  have r2 : RP X.K w1 H1 x v1 := .inl r1
  split at q
  · rename_i e
    refine ⟨true, r2.truth W1 e, ?_⟩
    rw [if_pos rfl]
    exact hb.rd w1 H0 σ H1 env m1 Q W1 (S.ext E1) (WP.after E1 q)
  · rename_i e
    refine ⟨false, r2.truth W1 e, ?_⟩
    rw [if_neg Bool.false_ne_true]
    exact q w1 H1 v1 E1 W1 r1
  · exact q.elim
theorem se_or (ha : SE X W a fa ta) (hb : SE X W (.BoolOp .Or (b :: rest) pos) fb tb) : SE X W (.BoolOp .Or (a :: b :: rest) pos) (rOr fa fb) (tOrT X.K ta tb) := by
  refine ⟨pe_orT ha.pe hb.pe, fun w H0 σ H env m Q Wm S q => ?_⟩
  refine ha.fz Wm S (WP.mono (WP.of_bind q) (fun x m1 q w1 H1 v1 E1 W1 r1 => ?_) fun _ _ z => z)
  have r2 : RP X.K w1 H1 x v1 := .inl r1
  split at q
  · rename_i e
    refine ⟨true, r2.truth W1 e, ?_⟩
    rw [if_pos rfl]
    exact q w1 H1 v1 E1 W1 r1
  · rename_i e
    refine ⟨false, r2.truth W1 e, ?_⟩
    rw [if_neg Bool.false_ne_true]
    exact hb.rd w1 H0 σ H1 env m1 Q W1 (S.ext E1) (WP.after E1 q)
  · exact q.elim
theorem se_not (ha : SE X W a fa ta) : SE X W (.UnaryOp .Not a pos) (rNot fa) (tNotT X.K ta) := by
  refine ⟨pe_notT ha.pe, fun w H0 σ H env m Q Wm S q => ?_⟩
  refine ha.vl Wm S (WP.mono (WP.of_bind q) (fun x m1 q w1 H1 v1 E1 W1 r1 => ?_) fun _ _ z => z)
  split at q
  · rename_i k e
    exact ⟨k, r1.truth W1 e, q w1 H1 _ E1 W1 (.bl _)⟩
  · exact q.elim
theorem se_if (hc : STt X W c f t) (ha : SE X W a fa ta) (hb : SE X W b fb tb) : SE X W (.IfExp c a b pos) (rIf f fa fb) (tIf t ta tb) := by
  refine ⟨pe_ifExp hc.pt ha.pe hb.pe, fun w H0 σ H env m Q Wm S q => ?_⟩
  refine hc.rd w H0 σ H env m _ Wm S (WP.mono (WP.of_bind q) (fun k m1 q w1 H1 E1 W1 => ?_) fun _ _ z => z)
  cases k with
  | true =>
    rw [if_pos rfl] at q ⊢
    exact ha.rd w1 H0 σ H1 env m1 Q W1 (S.ext E1) (WP.after E1 q)
  | false =>
    rw [if_neg Bool.false_ne_true] at q ⊢
    exact hb.rd w1 H0 σ H1 env m1 Q W1 (S.ext E1) (WP.after E1 q)
end

/-! ### calls of built-ins by values -/
structure CallS (X : Cx) (F : Value) (g : List D → Option RV) (r : List V → Hp → VK → Prop) : Prop where
  op : CallR X F r
  rd : ∀ w H0 H m xs vs rv (Q : VK), Wf X.K w H m → RPs X.K w H xs vs → g xs = some rv → PR X w H0 H Q rv m → r vs H Q
def rCB (g : List D → Option RV) (as : SemDs) : SemR := fun env m => (as env m).bind fun xs m1 => match g xs with
  | some rv => .ok rv m1
  | none => .bot
section
variable {X : Cx} {W : WX} {e : Expr} {es : List Expr} {as : SemDs} {t : TA} {g : List D → Option RV} {r : List V → Hp → VK → Prop} {id : String} {x : Str} {p pos : Pos}
theorem cb_rd {F : Value} (hc : CallS X F g r) (ha : SAp X W es as t) (w H0 σ H env m) (Q : VK) (Wm : Wf X.K w H m) (S : Slots X.K w H0 σ H env) (q : WP (rCB g as env m) (PR X w H0 H Q) (PX X W w H σ)) : tCB r t σ H Q := by
  refine ha.rd w H0 σ H env m _ Wm S (WP.mono (WP.of_bind q) (fun xs m1 q w1 H1 vs E1 W1 r1 => ?_) fun _ _ z => z)
  split at q
  · rename_i rv e
    exact hc.rd w1 H0 H1 m1 xs vs rv Q W1 r1 e fun w' H' v E' W' rr => q w' H' v (E1.trans E') W' (rr.after E1)
  · exact q.elim
theorem se_callB (hc : CallS X (.builtin id) g r) (hm : X.mg x = none) (ha : SAp X W (e :: es) as t) (hg : Gl X x := by rfl) (hv : bootBuiltins x = some (.builtin id) := by decide +kernel) (hn : x ≠ "__name__" := by decide) (hdb : (x == ("__debug__" : Str)) = false := by decide)
    (he : starEach (e :: es) X.env = (false, eval e X.env) :: starEach es X.env := by rfl) (hpl : (backTo pos (starEach es X.env)).any (·.1) = false := by rfl) : SE X W (.Call (.Name x p) (e :: es) [] pos) (rCB g as) (tCB r t) :=
  ⟨pe_callB hc.op hg hm hv ha.pa hn hdb he hpl, cb_rd hc ha⟩
theorem se_callTy (hc : CallS X (.type id) g r) (hm : X.mg x = none) (ha : SAp X W (e :: es) as t) (hg : Gl X x := by rfl) (hv : bootBuiltins x = some (.type id) := by decide +kernel) (hn : x ≠ "__name__" := by decide) (hdb : (x == ("__debug__" : Str)) = false := by decide)
    (he : starEach (e :: es) X.env = (false, eval e X.env) :: starEach es X.env := by rfl) (hpl : (backTo pos (starEach es X.env)).any (·.1) = false := by rfl) : SE X W (.Call (.Name x p) (e :: es) [] pos) (rCB g as) (tCB r t) :=
  ⟨pe_callTy hc.op hg hm hv ha.pa hn hdb he hpl, cb_rd hc ha⟩
end
def gLen : List D → Option RV
  | [.lst xs] | [.tup xs] | [.scr xs] => some (.d (.int xs.length))
  | [.str x] => if x.length ≤ LN then some (.d (.int x.length)) else none
  | _ => none
def gAbs : List D → Option RV
  | [.int i] => some (.d (.int (if i < 0 then -i else i)))
  | _ => none
def gInt : List D → Option RV
  | [.int i] => some (.d (.int i))
  | [.bl b] => some (.d (.int (if b then 1 else 0)))
  | _ => none
def intsOf : List D → Option (List Int)
  | [] => some []
  | .int i :: xs => (intsOf xs).map (i :: ·)
  | _ => none
def blsOf : List D → Option (List Bool)
  | [] => some []
  | .bl i :: xs => (blsOf xs).map (i :: ·)
  | _ => none
theorem intsOf_eq : ∀ {xs : List D} {ns : List Int}, intsOf xs = some ns → xs = ns.map D.int
  | [], _, h => by cases h; rfl
  | x :: xs, ns, h => by
    cases x with
    | int i =>
      obtain ⟨ms, h1, rfl⟩ := Option.map_eq_some_iff.mp h
      rw [intsOf_eq h1]; rfl
    | _ => cases h
theorem blsOf_eq : ∀ {xs : List D} {ns : List Bool}, blsOf xs = some ns → xs = ns.map D.bl
  | [], _, h => by cases h; rfl
  | x :: xs, ns, h => by
    cases x with
    | bl i =>
      obtain ⟨ms, h1, rfl⟩ := Option.map_eq_some_iff.mp h
      rw [blsOf_eq h1]; rfl
    | _ => cases h
theorem intsOf_map : ∀ ns : List Int, intsOf (ns.map D.int) = some ns
  | [] => rfl
  | n :: ns => by rw [List.map_cons, intsOf, intsOf_map ns]; rfl
theorem blsOf_map : ∀ ns : List Bool, blsOf (ns.map D.bl) = some ns
  | [] => rfl
  | n :: ns => by rw [List.map_cons, blsOf, blsOf_map ns]; rfl
def maxI : List Int → Int
  | [] => 0
  | [x] => x
  | x :: y :: xs => max x (maxI (y :: xs))
def minI : List Int → Int
  | [] => 0
  | [x] => x
  | x :: y :: xs => min x (minI (y :: xs))
theorem maxI_spec : ∀ {ns : List Int}, ns ≠ [] → maxI ns ∈ ns ∧ ∀ y ∈ ns, y ≤ maxI ns
  | [], h => absurd rfl h
  | [x], _ => by simp [maxI]
  | x :: y :: xs, _ => by
    obtain ⟨h1, h2⟩ := maxI_spec (ns := y :: xs) (by simp)
    rw [maxI]
    refine ⟨?_, fun z hz => ?_⟩
    · rw [Int.max_def]
      split
      · exact List.mem_cons_of_mem _ h1
      · exact List.mem_cons_self
    · rcases List.mem_cons.mp hz with rfl | hz
      · exact Int.le_max_left _ _
      · exact Int.le_trans (h2 z hz) (Int.le_max_right _ _)
theorem minI_spec : ∀ {ns : List Int}, ns ≠ [] → minI ns ∈ ns ∧ ∀ y ∈ ns, minI ns ≤ y
  | [], h => absurd rfl h
  | [x], _ => by simp [minI]
  | x :: y :: xs, _ => by
    obtain ⟨h1, h2⟩ := minI_spec (ns := y :: xs) (by simp)
    rw [minI]
    refine ⟨?_, fun z hz => ?_⟩
    · rw [Int.min_def]
      split
      · exact List.mem_cons_self
      · exact List.mem_cons_of_mem _ h1
    · rcases List.mem_cons.mp hz with rfl | hz
      · exact Int.min_le_left _ _
      · exact Int.le_trans (Int.min_le_right _ _) (h2 z hz)
def gMax : List D → Option RV
  | [.int i, .int j] => some (.d (.int (if j > i then j else i)))
  | [.lst xs] => match intsOf xs with
    | some (n :: ns) => some (.d (.int (maxI (n :: ns))))
    | _ => none
  | _ => none
def gMin : List D → Option RV
  | [.int i, .int j] => some (.d (.int (if j < i then j else i)))
  | [.lst xs] => match intsOf xs with
    | some (n :: ns) => some (.d (.int (minI (n :: ns))))
    | _ => none
  | _ => none
def gSum : List D → Option RV
  | [.lst xs] => (intsOf xs).map fun ns => .d (.int ns.sum)
  | _ => none
def gAll : List D → Option RV
  | [.lst xs] => (blsOf xs).map fun bs => .d (.bl (bs.all id))
  | _ => none
def gAny : List D → Option RV
  | [.lst xs] => (blsOf xs).map fun bs => .d (.bl (bs.any id))
  | _ => none
def gTuple : List D → Option RV
  | [.lst xs] => some (.d (.tup xs))
  | [.tup xs] => some (.d (.tup xs))
  | _ => none
def gList : List D → Option RV
  | [.lst xs] | [.tup xs] | [.scr xs] => some (.fl xs)
  | _ => none
/-- repr, of truth values and ints -/
def gRepr : List D → Option RV
  | [.bl b] => some (.d (.str (if b then "True" else "False")))
  | [.int i] => if i.natAbs.log2 < 1920 then some (.d (.str (toString i))) else none
  | _ => none
section
variable {X : Cx}
theorem calls_len : CallS X (.builtin "len") gLen (fun xs H Q => ∃ x n, xs = [x] ∧ LenV X.K x H n ∧ Q (.int n) H) := by
  refine ⟨call_len, fun w H0 H m xs vs rv Q Wm r e q => ?_⟩
  unfold gLen at e
  split at e
  · cases e
    obtain ⟨v, rfl, r9⟩ := r.one
    obtain ⟨a, us, rfl, h1, h2⟩ := r9.lst Wm
    exact ⟨_, _, rfl, .inl ⟨us, .inl (.inl h1), rfl⟩, by rw [← h2.length]; exact q w H _ (.refl _ _) Wm (.int _)⟩
  · cases e
    obtain ⟨v, rfl, r9⟩ := r.one
    obtain ⟨a, us, rfl, h1, h2⟩ := r9.tup Wm
    exact ⟨_, _, rfl, .inr ⟨us, h1, rfl⟩, by rw [← h2.length]; exact q w H _ (.refl _ _) Wm (.int _)⟩
  · cases e
    obtain ⟨v, rfl, r9⟩ := r.one
    obtain ⟨a, us, rfl, h1, h2⟩ := r9.scr Wm
    exact ⟨_, _, rfl, .inl ⟨us, h1, rfl⟩, by rw [← h2.length]; exact q w H _ (.refl _ _) Wm (.int _)⟩
  · split at e
    · rename_i hl
      cases e
      obtain ⟨v, rfl, r9⟩ := r.one
      rw [r9.str]
      exact ⟨_, _, rfl, ⟨ln_line hl, rfl⟩, q w H _ (.refl _ _) Wm (.int _)⟩
    · cases e
  · cases e
theorem calls_abs : CallS X (.builtin "abs") gAbs (fun xs H Q => ∃ i, xs = [.int i] ∧ Q (.int (if i < 0 then -i else i)) H) := by
  refine ⟨call_abs, fun w H0 H m xs vs rv Q Wm r e q => ?_⟩
  unfold gAbs at e
  split at e
  · cases e
    obtain ⟨v, rfl, r9⟩ := r.one
    exact ⟨_, by rw [r9.int], q w H _ (.refl _ _) Wm (.int _)⟩
  · cases e
theorem calls_int : CallS X (.type "int") gInt (fun xs H Q => (∃ i, xs = [.int i] ∧ Q (.int i) H) ∨ ∃ k, xs = [.bl k] ∧ Q (.int (if k then 1 else 0)) H) := by
  refine ⟨call_int1, fun w H0 H m xs vs rv Q Wm r e q => ?_⟩
  unfold gInt at e
  split at e
  · cases e
    obtain ⟨v, rfl, r9⟩ := r.one
    exact .inl ⟨_, by rw [r9.int], q w H _ (.refl _ _) Wm (.int _)⟩
  · cases e
    obtain ⟨v, rfl, r9⟩ := r.one
    exact .inr ⟨_, by rw [r9.bl], q w H _ (.refl _ _) Wm (.int _)⟩
  · cases e
theorem calls_max (hc : X.calm = true) : CallS X (.builtin "max") gMax (fun xs H Q => (∃ i j, xs = [.int i, .int j] ∧ Q (.int (if j > i then j else i)) H) ∨ rMax X.K xs H Q) := by
  refine ⟨CallR.or (call_max2 hc) (cr_max hc), fun w H0 H m xs vs rv Q Wm r e q => ?_⟩
  unfold gMax at e
  split at e
  · cases e
    obtain ⟨v, u, rfl, r1, r2⟩ := r.two
    exact .inl ⟨_, _, by rw [r1.int, r2.int], q w H _ (.refl _ _) Wm (.int _)⟩
  · split at e
    · rename_i n ns h
      cases e
      obtain ⟨v, rfl, r9⟩ := r.one
      obtain ⟨a, us, rfl, h1, h2⟩ := r9.lst Wm
      have e := intsOf_eq h
      subst e
      have e2 := h2.ints
      subst e2
      refine .inr ⟨a, _, rfl, .inl (.inl h1), by simp, fun k hk hm => ?_⟩
      obtain ⟨g1, g2⟩ := maxI_spec (ns := n :: ns) (by simp)
      have : k = maxI (n :: ns) := Int.le_antisymm (g2 k hk) (hm _ g1)
      rw [this]
      exact q w H _ (.refl _ _) Wm (.int _)
    · cases e
  · cases e
theorem calls_min (hc : X.calm = true) : CallS X (.builtin "min") gMin (fun xs H Q => (∃ i j, xs = [.int i, .int j] ∧ Q (.int (if j < i then j else i)) H) ∨ rMin X.K xs H Q) := by
  refine ⟨CallR.or (call_min2 hc) (cr_min hc), fun w H0 H m xs vs rv Q Wm r e q => ?_⟩
  unfold gMin at e
  split at e
  · cases e
    obtain ⟨v, u, rfl, r1, r2⟩ := r.two
    exact .inl ⟨_, _, by rw [r1.int, r2.int], q w H _ (.refl _ _) Wm (.int _)⟩
  · split at e
    · rename_i n ns h
      cases e
      obtain ⟨v, rfl, r9⟩ := r.one
      obtain ⟨a, us, rfl, h1, h2⟩ := r9.lst Wm
      have e := intsOf_eq h
      subst e
      have e2 := h2.ints
      subst e2
      refine .inr ⟨a, _, rfl, .inl (.inl h1), by simp, fun k hk hm => ?_⟩
      obtain ⟨g1, g2⟩ := minI_spec (ns := n :: ns) (by simp)
      have : k = minI (n :: ns) := Int.le_antisymm (hm _ g1) (g2 k hk)
      rw [this]
      exact q w H _ (.refl _ _) Wm (.int _)
    · cases e
  · cases e
theorem calls_sum (hc : X.calm = true) : CallS X (.builtin "sum") gSum (rSum X.K) := by
  refine ⟨cr_sum hc, fun w H0 H m xs vs rv Q Wm r e q => ?_⟩
  unfold gSum at e
  split at e
  · obtain ⟨ns, h, rfl⟩ := Option.map_eq_some_iff.mp e
    obtain ⟨v, rfl, r9⟩ := r.one
    obtain ⟨a, us, rfl, h1, h2⟩ := r9.lst Wm
    have e := intsOf_eq h
    subst e
    have e2 := h2.ints
    subst e2
    exact ⟨a, ns, rfl, .inl (.inl h1), q w H _ (.refl _ _) Wm (.int _)⟩
  · cases e
theorem calls_all (hc : X.calm = true) : CallS X (.builtin "all") gAll (rAll X.K) := by
  refine ⟨cr_all hc, fun w H0 H m xs vs rv Q Wm r e q => ?_⟩
  unfold gAll at e
  split at e
  · obtain ⟨ns, h, rfl⟩ := Option.map_eq_some_iff.mp e
    obtain ⟨v, rfl, r9⟩ := r.one
    obtain ⟨a, us, rfl, h1, h2⟩ := r9.lst Wm
    have e := blsOf_eq h
    subst e
    have e2 := h2.bls
    subst e2
    exact ⟨a, ns, rfl, .inl (.inl h1), q w H _ (.refl _ _) Wm (.bl _)⟩
  · cases e
theorem calls_any (hc : X.calm = true) : CallS X (.builtin "any") gAny (rAny X.K) := by
  refine ⟨cr_any hc, fun w H0 H m xs vs rv Q Wm r e q => ?_⟩
  unfold gAny at e
  split at e
  · obtain ⟨ns, h, rfl⟩ := Option.map_eq_some_iff.mp e
    obtain ⟨v, rfl, r9⟩ := r.one
    obtain ⟨a, us, rfl, h1, h2⟩ := r9.lst Wm
    have e := blsOf_eq h
    subst e
    have e2 := h2.bls
    subst e2
    exact ⟨a, ns, rfl, .inl (.inl h1), q w H _ (.refl _ _) Wm (.bl _)⟩
  · cases e
theorem calls_tuple : CallS X (.type "tuple") gTuple (fun xs H Q => ∃ p ys, xs = [.ref p] ∧ ((SqL X.K H p ys ∧ ∀ l, H l = none → Q (.ref l) (upd H l (.tup ys))) ∨ (SqT X.K H p ys ∧ Q (.ref p) H))) := by
  refine ⟨call_tuple_of, fun w H0 H m xs vs rv Q Wm r e q => ?_⟩
  unfold gTuple at e
  split at e
  · cases e
    obtain ⟨v, rfl, r9⟩ := r.one
    obtain ⟨a, us, rfl, h1, h2⟩ := r9.lst Wm
    exact ⟨a, us, rfl, .inl ⟨.inl (.inl h1), fun l hl => new_tup Wm hl h2 q⟩⟩
  · cases e
    obtain ⟨v, rfl, r9⟩ := r.one
    have rd := r9.rd_tup
    obtain ⟨a, us, rfl, h1, h2⟩ := r9.tup Wm
    exact ⟨a, us, rfl, .inr ⟨h1, q w H _ (.refl _ _) Wm rd⟩⟩
  · cases e
theorem calls_list : CallS X (.type "list") gList (fun xs H Q => ∃ p ys, xs = [.ref p] ∧ (SqL X.K H p ys ∨ SqT X.K H p ys) ∧ ∀ l, H l = none → Q (.ref l) (upd H l (.lst ys))) := by
  refine ⟨call_list_of, fun w H0 H m xs vs rv Q Wm r e q => ?_⟩
  unfold gList at e
  split at e
  · cases e
    obtain ⟨v, rfl, r9⟩ := r.one
    obtain ⟨a, us, rfl, h1, h2⟩ := r9.lst Wm
    exact ⟨a, us, rfl, .inl (.inl (.inl h1)), fun l hl => new_lst Wm hl h2 q⟩
  · cases e
    obtain ⟨v, rfl, r9⟩ := r.one
    obtain ⟨a, us, rfl, h1, h2⟩ := r9.tup Wm
    exact ⟨a, us, rfl, .inr h1, fun l hl => new_lst Wm hl h2 q⟩
  · cases e
    obtain ⟨v, rfl, r9⟩ := r.one
    obtain ⟨a, us, rfl, h1, h2⟩ := r9.scr Wm
    exact ⟨a, us, rfl, .inl h1, fun l hl => new_lst Wm hl h2 q⟩
  · cases e
end
end Ev
/-! Ev, part F: isinstance, repr, what is walked, comprehensions. -/
namespace Ev
open PySem PySem.Spec L2
/-! ### isinstance(x, T) -/
inductive Ty where
  | int | bool | str | tuple | list | dict | none
  deriving DecidableEq
def Ty.name : Ty → String
  | .int => "int" | .bool => "bool" | .str => "str" | .tuple => "tuple" | .list => "list" | .dict => "dict" | .none => "NoneType"
def tyD : D → Option Ty
  | .non => some .none | .bl _ => some .bool | .int _ => some .int | .str _ => some .str | .tup _ => some .tuple | .lst _ => some .list | .dct _ _ => some .dict
  | _ => none
def isa : Ty → Ty → Bool
  | .bool, .int => true
  | a, b => decide (a = b)
theorem isa_ok : ∀ a b : Ty, b ≠ .none → kitB a.name b.name = some (isa a b) := by
  intro a b h
  cases a <;> cases b <;> first | exact absurd rfl h | decide +kernel
theorem sqT_ty {K : PySem.W.Frag} {H : Hp} {a : Addr} {vs : List V} (h : SqT K H a vs) : TyX K H (.ref a) (.type "tuple") := by
  rcases h with (h | ⟨o, h⟩) | ⟨o, its, n, h1, h2, _⟩
  · exact .base (.tup h)
  · exact .fTuple h
  · exact .kTuple h1 h2
theorem RP.ty {K : PySem.W.Frag} {w : Wd} {H : Hp} {m : Cells} (Wm : Wf K w H m) {x : D} {v : V} {t : Ty} (r : RP K w H x v) (h : tyD x = some t) : TyX K H v (.type t.name) := by
  cases x with
  | non => cases h; rw [r.non]; exact .base .non
  | bl b => cases h; rw [r.bl]; exact .base (.bl _)
  | int i => cases h; rw [r.int]; exact .base (.int _)
  | str x => cases h; rw [r.str]; exact .base (.str _)
  | tup xs =>
    cases h
    obtain ⟨a, vs, rfl, h1, _⟩ := r.tup Wm
    exact sqT_ty h1
  | lst xs =>
    cases h
    obtain ⟨a, vs, rfl, h1, _⟩ := r.lst Wm
    exact .base (.lst h1)
  | dct ks vs =>
    cases h
    rcases r with r | ⟨_, _, _, e, _⟩
    · cases r with
      | dct0 h => exact .base (.dK (Wm.sub _ _ h))
    · cases e
  | _ => cases h
def rIsa (t : Ty) (f : SemR) : SemR := fun env m => (vl f env m).bind fun x m1 => match tyD x with
  | some u => .ok (.d (.bl (isa u t))) m1
  | none => .bot
section
variable {X : Cx} {W : WX} {a : Expr} {fa : SemR} {ta : TE}
theorem se_isa (t : Ty) {y : Str} {p p2 pos : Pos} (ha : SE X W a fa ta) (hm : X.mg "isinstance" = none) (hm2 : X.mg y = none) (ht : t ≠ .none := by decide) (hg : Gl X "isinstance" := by rfl) (hg2 : Gl X y := by rfl)
    (hv : bootBuiltins y = some (.type t.name) := by decide +kernel) (hn : y ≠ "__name__" := by decide) (hdb : (y == ("__debug__" : Str)) = false := by decide)
    (he : starEach (a :: [.Name y p2]) X.env = (false, eval a X.env) :: starEach [.Name y p2] X.env := by rfl) (he2 : starEach [.Name y p2] X.env = (false, eval (.Name y p2) X.env) :: starEach [] X.env := by rfl) (hpl : (backTo pos (starEach [.Name y p2] X.env)).any (·.1) = false := by rfl) :
    SE X W (.Call (.Name "isinstance" p) [a, .Name y p2] [] pos) (rIsa t fa) (tCB (rIsi X.K) (tCons ta (tCons (tC (.ty t.name)) tNil))) := by
  refine ⟨pe_callB call_isi hg hm (by decide +kernel) (pa_cons ha.pe (pa_cons (pe_bltn hg2 hm2 hv rfl hn hdb) pa_nil he2) he) (by decide) (by decide) he hpl, fun w H0 σ H env m Q Wm S q => ?_⟩
  refine ha.vl Wm S (WP.mono (WP.of_bind q) (fun x m1 q w1 H1 v1 E1 W1 r1 => ?_) fun _ _ z => z)
  split at q
  · rename_i u e
    exact ⟨v1, .ty t.name, .type u.name, .type t.name, _, rfl, .ty _, r1.ty W1 e, kit_ty (isa_ok u t ht), q w1 H1 _ E1 W1 (.bl _)⟩
  · exact q.elim
end
section
variable {X : Cx}
theorem call_repr_bl : CallR X (.builtin "repr") (fun xs H Q => ∃ b, xs = [.bl b] ∧ Q (.str (if b then "True" else "False")) H) := by
  intro pins s σ H xs us Q I r h
  obtain ⟨b, rfl, q⟩ := h
  obtain ⟨u, rfl, r9⟩ := vals1 r
  cases (show u = Value.bool b from r9)
  exact PySem.P.repr_of_bool ⟨.str _, H, I.tok _, ⟨_, rfl⟩, q⟩
theorem calls_repr : CallS X (.builtin "repr") gRepr (fun xs H Q => (∃ b, xs = [.bl b] ∧ Q (.str (if b then "True" else "False")) H) ∨ ∃ i, xs = [.int i] ∧ i.natAbs.log2 < 1920 ∧ Q (.str (toString i)) H) := by
  refine ⟨call_repr_bl.or SkE.call_repr_int, fun w H0 H m xs vs rv Q Wm r e q => ?_⟩
  unfold gRepr at e
  split at e
  · cases e
    obtain ⟨v, rfl, r9⟩ := r.one
    exact .inl ⟨_, by rw [r9.bl], q w H _ (.refl _ _) Wm (.str _)⟩
  · split at e
    · cases e
      obtain ⟨v, rfl, r9⟩ := r.one
      exact .inr ⟨_, by rw [r9.int], ‹_›, q w H _ (.refl _ _) Wm (.str _)⟩
    · cases e
  · cases e
end

/-! ### what is walked -/
def Walks (K : PySem.W.Frag) (w' : Wd) (J : It) (ds : List D) : Prop := ∃ G Y, Walk J ds.length G Y ∧ (∀ w2 H2, WLe w' w2 → (∀ a o, w2.F a = some o → H2 a = some o) → G H2) ∧
  ∀ i H2 v H3, i < ds.length → Y i H2 v H3 → ∀ w2 m2, WLe w' w2 → Wf K w2 H2 m2 → ∃ x w3, ds[i]? = some x ∧ Ext w2 H2 w3 H3 ∧ Wf K w3 H3 m2 ∧ RD K w3 x v
structure SIt (X : Cx) (W : WX) (tg e : Expr) (f : SemDs) (wi : TI) : Prop where
  pi : PI X tg e wi
  rd : ∀ w H0 σ H env m (R : It → Hp → Prop), Wf X.K w H m → Slots X.K w H0 σ H env → WP (f env m) (fun ds m' => ∀ w' H' J, Ext w H w' H' → Wf X.K w' H' m' → Walks X.K w' J ds → R J H') (PX X W w H σ) → wi σ H R
theorem PI.or {X : Cx} {tg e : Expr} {wi wi' : TI} (h : PI X tg e wi) (h' : PI X tg e wi') : PI X tg e (fun σ H R => wi σ H R ∨ wi' σ H R) :=
  ⟨fun pins s σ H R I q => q.elim (h.run pins s σ H R I) (h'.run pins s σ H R I)⟩
theorem walks_list {K : PySem.W.Frag} {w : Wd} {a : Addr} {vs : List V} {ds : List D} (h : SqL K w.F a vs) (r : RDs K w ds vs) : Walks K w (Itl K a) ds := by
  refine ⟨_, _, by rw [r.length]; exact walk_list (K := K) (a := a) (xs := vs), fun w2 H2 L s => sqL_sub s (sqL_sub L.sub h), fun i H2 v H3 hi y w2 m2 L W2 => ?_⟩
  obtain ⟨rfl, hv⟩ := y
  obtain ⟨x, hx, rx⟩ := r.getV hv
  exact ⟨x, w2, hx, .refl _ _, W2, rx.le L⟩
theorem walks_tup {K : PySem.W.Frag} {w : Wd} {a : Addr} {vs : List V} {ds : List D} (h : SqT K w.F a vs) (r : RDs K w ds vs) : Walks K w (Itt K a) ds := by
  refine ⟨_, _, by rw [r.length]; exact walk_tup (K := K) (a := a) (xs := vs), fun w2 H2 L s => sqT_sub s (sqT_sub L.sub h), fun i H2 v H3 hi y w2 m2 L W2 => ?_⟩
  obtain ⟨rfl, hv⟩ := y
  obtain ⟨x, hx, rx⟩ := r.getV hv
  exact ⟨x, w2, hx, .refl _ _, W2, rx.le L⟩
/-- lo, lo + 1, .., below hi -/
def rangeD (lo hi : Int) : List D := (List.range (hi - lo).toNat).map fun i => .int (lo + (i : Nat))
theorem rangeD_len (lo hi : Int) : (rangeD lo hi).length = (hi - lo).toNat := by simp [rangeD]
theorem walks_range {K : PySem.W.Frag} {w : Wd} (lo hi : Int) : Walks K w (Itr lo (hi - lo).toNat) (rangeD lo hi) := by
  refine ⟨_, _, by rw [rangeD_len]; exact walk_range (lo := lo) (n := (hi - lo).toNat), fun _ _ _ _ => trivial, fun i H2 v H3 hi' y w2 m2 L W2 => ?_⟩
  obtain ⟨rfl, rfl⟩ := y
  rw [rangeD_len] at hi'
  exact ⟨.int (lo + (i : Nat)), w2, by simp [rangeD, hi'], .refl _ _, W2, .int _⟩
/-- a list or tuple that stands still -/
def eSeq (f : SemR) : SemDs := fun env m => (fz f env m).bind fun x m1 => match x with
  | .lst xs | .tup xs | .scr xs => .ok xs m1
  | _ => .bot
def int62 (i : Int) : Bool := decide (-(2 ^ 62) ≤ i ∧ i < 2 ^ 62)
def eRange1 (as : SemDs) : SemDs := fun env m => (as env m).bind fun xs m1 => match xs with
  | [.int j] => if int62 j then .ok (rangeD 0 j) m1 else .bot
  | _ => .bot
def eRange2 (as : SemDs) : SemDs := fun env m => (as env m).bind fun xs m1 => match xs with
  | [.int i, .int j] => if int62 i && int62 j then .ok (rangeD i j) m1 else .bot
  | _ => .bot
section
variable {X : Cx} {W : WX} {tg a b : Expr} {fa : SemR} {as : SemDs} {ta : TE} {t : TA} {p pos : Pos}
theorem si_seq (h : SE X W a fa ta) : SIt X W tg a (eSeq fa) (fun σ H R => iList X.K ta σ H R ∨ iTup X.K ta σ H R) := by
  refine ⟨PI.or (pi_list h.pe) (pi_tup h.pe), fun w H0 σ H env m R Wm S q => ?_⟩
  cases e : Ev.fz fa env m with
  | bot => unfold eSeq at q; rw [e] at q; exact q.elim
  | exc x m' =>
    refine .inl (h.fz Wm S ?_)
    unfold eSeq at q
    rw [e] at q ⊢
    exact q
  | ok x m1 =>
    have q2 := q
    unfold eSeq at q2
    rw [e] at q2
    cases x with
    | lst xs =>
      refine .inl (h.fz Wm S ?_)
      rw [e]
      intro w' H' v E' W' r
      cases r with
      | lst s r => exact ⟨_, rfl, ⟨_, .inl (.inl (W'.sub _ _ s))⟩, q2 w' H' _ E' W' (walks_list (.inl (.inl s)) r)⟩
    | scr xs =>
      refine .inl (h.fz Wm S ?_)
      rw [e]
      intro w' H' v E' W' r
      cases r with
      | scr s r => exact ⟨_, rfl, ⟨_, sqL_sub W'.sub s⟩, q2 w' H' _ E' W' (walks_list s r)⟩
    | tup xs =>
      refine .inr (h.fz Wm S ?_)
      rw [e]
      intro w' H' v E' W' r
      cases r with
      | tup s r => exact ⟨_, rfl, ⟨_, sqT_sub W'.sub s⟩, q2 w' H' _ E' W' (walks_tup s r)⟩
    | _ => exact q2.elim
theorem si_range1 (hm : X.mg "range" = none) (h : SAp X W [a] as t) (hg : Gl X "range" := by rfl) (hs : starEach [a] X.env = [(false, eval a X.env)] := by rfl) : SIt X W tg (.Call (.Name "range" p) [a] [] pos) (eRange1 as) (iRng1 t) := by
  refine ⟨pi_range1 hg hm h.pa hs, fun w H0 σ H env m R Wm S q => ?_⟩
  refine h.rd w H0 σ H env m _ Wm S (WP.mono (WP.of_bind q) (fun xs m1 q w1 H1 vs E1 W1 r1 => ?_) fun _ _ z => z)
  split at q
  · rename_i j
    split at q
    · rename_i hj
      obtain ⟨v, rfl, r9⟩ := r1.one
      have hj := of_decide_eq_true hj
      refine ⟨j, by rw [r9.int], hj.1, hj.2, ?_⟩
      have := q w1 H1 (Itr 0 (j - 0).toNat) E1 W1 (walks_range 0 j)
      rwa [Int.sub_zero] at this
    · exact q.elim
  · exact q.elim
theorem si_range2 (hm : X.mg "range" = none) (h : SAp X W [a, b] as t) (hg : Gl X "range" := by rfl) (hs : starEach [a, b] X.env = [(false, eval a X.env), (false, eval b X.env)] := by rfl) (hs2 : starEach [b] X.env = [(false, eval b X.env)] := by rfl) :
    SIt X W tg (.Call (.Name "range" p) [a, b] [] pos) (eRange2 as) (iRng2 t) := by
  refine ⟨pi_range2 hg hm h.pa hs hs2, fun w H0 σ H env m R Wm S q => ?_⟩
  refine h.rd w H0 σ H env m _ Wm S (WP.mono (WP.of_bind q) (fun xs m1 q w1 H1 vs E1 W1 r1 => ?_) fun _ _ z => z)
  split at q
  · rename_i i j
    split at q
    · rename_i hj
      obtain ⟨v, u, rfl, r1, r2⟩ := r1.two
      rw [Bool.and_eq_true] at hj
      have h1 := of_decide_eq_true hj.1
      have h2 := of_decide_eq_true hj.2
      exact ⟨i, j, by rw [r1.int, r2.int], ⟨h1.1, h1.2, h2.1, h2.2⟩, q w1 H1 _ E1 W1 (walks_range i j)⟩
    · exact q.elim
  · exact q.elim
end

/-! ### targets -/
abbrev SemG := D → Env → Option Env
def gSet (i : Nat) : SemG := fun x env => some (env.set i (.d x))
def gsSet : List Nat → List D → Env → Option Env
  | [], [], env => some env
  | i :: is, x :: xs, env => gsSet is xs (env.set i (.d x))
  | _, _, _ => none
/-- (a, b, ..): names -/
def gTupS (is : List Nat) : SemG := fun x env => match x with
  | .tup xs => gsSet is xs env
  | _ => none
/-- the slots is alone may be other ones -/
def SetIn (is : List Nat) (σ σ' : St) : Prop := σ'.length = σ.length ∧ ∀ vs : List Nat, (∀ i ∈ is, i ∈ vs) → wipe σ' vs = wipe σ vs
theorem wipe_set {σ : St} {i : Nat} {x : Option V} : ∀ {vs : List Nat}, i ∈ vs → wipe (σ.set i x) vs = wipe σ vs
  | v :: vs, h => by
    unfold wipe
    by_cases e : i = v
    · subst e
      by_cases hm : i ∈ vs
      · rw [wipe_set hm]
      · have : ∀ us : List Nat, i ∉ us → wipe (σ.set i x) us = (wipe σ us).set i x := by
          intro us
          induction us with
          | nil => intro _; rfl
          | cons u us ih =>
            intro hu
            simp only [List.mem_cons, not_or] at hu
            unfold wipe
            rw [ih hu.2, List.set_comm _ _ hu.1]
        rw [this vs hm, List.set_set]
    · rcases List.mem_cons.mp h with q | q
      · exact absurd q e
      · rw [wipe_set q]
theorem SetIn.one (σ : St) (i : Nat) (x : Option V) : SetIn [i] σ (σ.set i x) := ⟨by simp, fun vs h => wipe_set (h i (by simp))⟩
theorem SetIn.refl (σ : St) : SetIn [] σ σ := ⟨rfl, fun _ _ => rfl⟩
theorem SetIn.cons {is : List Nat} {σ σ1 σ2 : St} {i : Nat} (a : SetIn [i] σ σ1) (b : SetIn is σ1 σ2) : SetIn (i :: is) σ σ2 :=
  ⟨b.1.trans a.1, fun vs h => (b.2 vs fun j hj => h j (List.mem_cons_of_mem _ hj)).trans (a.2 vs fun j hj => h j (by simp at hj; simp [hj]))⟩
theorem Slots.setD {K : PySem.W.Frag} {w : Wd} {H0 H : Hp} {σ : St} {env : Env} {x : D} {v : V} (S : Slots K w H0 σ H env) (i : Nat) (r : RD K w x v) : Slots K w H0 (σ.set i (some v)) H (env.set i (.d x)) where
  len := by rw [List.length_set, List.length_set]; exact S.len
  dat := fun j y e => by
    by_cases h : i = j
    · subst h
      rw [List.getElem?_set_self' ] at e
      cases hh : env[i]? with
      | none => rw [hh] at e; cases e
      | some s =>
        rw [hh] at e
        cases e
        have hl : i < σ.length := by rw [← S.len]; exact (List.getElem?_eq_some_iff.mp hh).1
        exact ⟨v, List.getElem?_set_self hl, r⟩
    · rw [List.getElem?_set_ne h] at e ⊢
      exact S.dat j y e
  own := fun j ys e => by
    by_cases h : i = j
    · subst h
      rw [List.getElem?_set_self' ] at e
      cases hh : env[i]? with
      | none => rw [hh] at e; cases e
      | some s => rw [hh] at e; cases e
    · rw [List.getElem?_set_ne h] at e ⊢
      exact S.own j ys e
  dis := fun j k ys zs a e1 e2 s1 s2 => by
    have hj : i ≠ j := fun h => by
      subst h
      rw [List.getElem?_set_self'] at e1
      cases hh : env[i]? with
      | none => rw [hh] at e1; cases e1
      | some s => rw [hh] at e1; cases e1
    have hk : i ≠ k := fun h => by
      subst h
      rw [List.getElem?_set_self'] at e2
      cases hh : env[i]? with
      | none => rw [hh] at e2; cases e2
      | some s => rw [hh] at e2; cases e2
    rw [List.getElem?_set_ne hj] at e1 s1
    rw [List.getElem?_set_ne hk] at e2 s2
    exact S.dis j k ys zs a e1 e2 s1 s2
structure SGt (X : Cx) (tg : Expr) (g : SemG) (is : List Nat) (t : TG) : Prop where
  pg : PG X tg t
  rd : ∀ w H0 σ H env m x v env' (Q : St → Hp → Prop), Wf X.K w H m → Slots X.K w H0 σ H env → RD X.K w x v → g x env = some env' → (∀ σ', SetIn is σ σ' → Slots X.K w H0 σ' H env' → Q σ' H) → t v σ H Q
structure SGs (X : Cx) (ts : List Expr) (is : List Nat) (t : TGs) : Prop where
  pg : PGs X ts t
  rd : ∀ w H0 σ H env m xs vs env' (Q : St → Hp → Prop), Wf X.K w H m → Slots X.K w H0 σ H env → RDs X.K w xs vs → gsSet is xs env = some env' → (∀ σ', SetIn is σ σ' → Slots X.K w H0 σ' H env' → Q σ' H) → t vs σ H Q
section
variable {X : Cx} {pos : Pos}
theorem sg_name (i : Nat) {x : Str} (hN : X.N.Nodup) (hi : X.N[i]? = some x := by rfl) (hx : Loc X.env.scope x := by first | exact Or.inl rfl | exact Or.inr rfl) (hf : X.fn x = true ∨ X.env.scope.names.lookup x = some .local := by first | exact .inl rfl | exact .inr rfl | assumption) :
    SGt X (.Name x pos) (gSet i) [i] (gName i) := by
  refine ⟨pg_name hN hi hx hf, fun w H0 σ H env m x v env' Q Wm S r e q => ?_⟩
  cases e
  exact q _ (.one _ _ _) (S.setD i r)
theorem sgs_nil : SGs X [] [] gNil := by
  refine ⟨pgs_nil, fun w H0 σ H env m xs vs env' Q Wm S r e q => ?_⟩
  cases xs with
  | nil =>
    cases e
    cases r
    exact ⟨rfl, q σ (.refl _) S⟩
  | cons x xs => cases e
theorem sgs_cons (i : Nat) {x : Str} {es : List Expr} {is : List Nat} {u : TGs} (hN : X.N.Nodup) (h2 : SGs X es is u) (hi : X.N[i]? = some x := by rfl) (hx : Loc X.env.scope x := by first | exact Or.inl rfl | exact Or.inr rfl)
    (hf : X.fn x = true ∨ X.env.scope.names.lookup x = some .local := by first | exact .inl rfl | exact .inr rfl | assumption)
    (hs : (assignEach (.Name x pos :: es) X.env).map (·.2) = assign (.Name x pos) X.env :: (assignEach es X.env).map (·.2) := by rfl) : SGs X (.Name x pos :: es) (i :: is) (gCons (gName i) u) := by
  refine ⟨pgs_cons (pg_name hN hi hx hf) h2.pg hs, fun w H0 σ H env m xs vs env' Q Wm S r e q => ?_⟩
  cases xs with
  | nil => cases e
  | cons y ys =>
    cases r with
    | cons r1 r2 =>
      exact ⟨_, _, rfl, h2.rd w H0 _ H _ m ys _ env' Q Wm (S.setD i r1) r2 e fun σ' s1 S' => q σ' (.cons (.one _ _ _) s1) S'⟩
theorem gsSet_len : ∀ {is : List Nat} {xs : List D} {env env' : Env}, gsSet is xs env = some env' → xs.length = is.length
  | [], [], _, _, _ => rfl
  | i :: is, x :: xs, _, _, h => by rw [List.length_cons, List.length_cons, gsSet_len (is := is) (xs := xs) h]
  | [], _ :: _, _, _, h => by cases h
  | _ :: _, [], _, _, h => by cases h
theorem sg_tup {es : List Expr} {k : Nat} {is : List Nat} {t : TGs} (hc : X.calm = true) (h : SGs X es is t) (hn : (assignEach es X.env).length = is.length := by rfl) (hst : (assignEach es X.env).findIdx? (·.1) = none := by rfl) :
    SGt X (.Tuple es k pos) (gTupS is) is (gTup X.K is.length t) := by
  refine ⟨pg_tup hc h.pg hn hst, fun w H0 σ H env m x v env' Q Wm S r e q => ?_⟩
  cases x with
  | tup xs =>
    cases r with
    | tup s rs =>
      have e : gsSet is xs env = some env' := e
      exact ⟨_, _, rfl, sqT_sub Wm.sub s, by rw [← rs.length, gsSet_len e], h.rd w H0 σ H env m xs _ env' Q Wm S rs e q⟩
  | _ => cases e
end
end Ev
/-! Ev, part G: comprehensions, calls of defs. -/
namespace Ev
open PySem PySem.Spec L2
abbrev W0 : WX := fun _ _ _ _ => False
def noX {α : Type} (r : Res α) : Res α := match r with
  | .exc _ _ => .bot
  | r => r
theorem WP.of_noX {α : Type} {r : Res α} {P : α → Cells → Prop} {Z Z' : Exn → Cells → Prop} (h : WP (noX r) P Z) : WP r P Z' := by
  cases r with
  | ok a m => exact h
  | exc x m => exact h.elim
  | bot => exact h
def wipeE (env : Env) : List Nat → Env
  | [] => env
  | v :: vs => (wipeE env vs).set v .un
theorem Slots.setUn {K : PySem.W.Frag} {w : Wd} {H0 H : Hp} {σ : St} {env : Env} (S : Slots K w H0 σ H env) (i : Nat) : Slots K w H0 (σ.set i none) H (env.set i .un) := by
  have ne : ∀ {j : Nat} {s : Slot}, (env.set i .un)[j]? = some s → s ≠ .un → i ≠ j := fun {j s} e h q => by
    subst q
    rw [List.getElem?_set_self'] at e
    cases hh : env[i]? with
    | none => rw [hh] at e; cases e
    | some t => rw [hh] at e; cases e; exact h rfl
  refine ⟨by rw [List.length_set, List.length_set]; exact S.len, fun j y e => ?_, fun j y e => ?_, fun j k ys zs a e1 e2 s1 s2 => ?_⟩
  · have h := ne e (fun z => nomatch z)
    rw [List.getElem?_set_ne h] at e ⊢
    exact S.dat j y e
  · have h := ne e (fun z => nomatch z)
    rw [List.getElem?_set_ne h] at e ⊢
    exact S.own j y e
  · have h1 := ne e1 (fun z => nomatch z)
    have h2 := ne e2 (fun z => nomatch z)
    rw [List.getElem?_set_ne h1] at e1 s1
    rw [List.getElem?_set_ne h2] at e2 s2
    exact S.dis j k ys zs a e1 e2 s1 s2
theorem Slots.wipe {K : PySem.W.Frag} {w : Wd} {H0 H : Hp} {σ : St} {env : Env} (S : Slots K w H0 σ H env) : ∀ vs : List Nat, Slots K w H0 (L2.wipe σ vs) H (wipeE env vs)
  | [] => S
  | v :: vs => by
    unfold L2.wipe wipeE
    exact (S.wipe vs).setUn v
theorem wipe_out' {σ : St} {x : Option V} {i : Nat} : ∀ {us : List Nat}, i ∉ us → wipe (σ.set i x) us = (wipe σ us).set i x
  | [], _ => rfl
  | u :: us, hu => by
    simp only [List.mem_cons, not_or] at hu
    unfold wipe
    rw [wipe_out' hu.2, List.set_comm _ _ hu.1]
theorem wipe_idem (σ : St) : ∀ vs : List Nat, wipe (wipe σ vs) vs = wipe σ vs := by
  intro vs
  have key : ∀ us vs : List Nat, (∀ i ∈ us, i ∈ vs) → wipe (wipe σ us) vs = wipe σ vs := by
    intro us
    induction us with
    | nil => intro vs _; rfl
    | cons u us ih =>
      intro vs h
      show wipe ((wipe σ us).set u none) vs = _
      rw [wipe_set (h u (by simp))]
      exact ih vs fun i hi => h i (List.mem_cons_of_mem _ hi)
  exact key vs vs fun _ h => h
theorem Ext.updFresh {w0 w : Wd} {H0 H : Hp} {a : Addr} {o : HO} (E : Ext w0 H0 w H) (h : H0 a = none) : Ext w0 H0 w (upd H a o) where
  le := E.le
  keep := fun b u e n => by rw [upd_ne (ne_of_none e h)]; exact E.keep b u e n
  newF := E.newF
  newI := E.newI
  there := fun b e => by
    by_cases q : b = a
    · rw [q]; exact h
    · rw [upd_ne q] at e; exact E.there b e
theorem Wf.upd {K : PySem.W.Frag} {w : Wd} {H : Hp} {m : Cells} {a : Addr} {o : HO} (W : Wf K w H m) (hf : w.F a = none) (hi : a ∉ w.ι) : Wf K w (L2.upd H a o) m where
  sub := fun b u e => by rw [upd_ne (ne_of_none e hf)]; exact W.sub b u e
  nof := W.nof
  inj := W.inj
  len := W.len
  cell := fun n c e => by
    obtain ⟨b, h1, h2⟩ := W.cell n c e
    have hb : b ≠ a := fun q => hi (q ▸ List.mem_of_getElem? h1)
    refine ⟨b, h1, ?_⟩
    cases c with
    | lst xs =>
      obtain ⟨vs, h3, h4⟩ := h2
      exact ⟨vs, by rw [upd_ne hb]; exact h3, h4⟩
  xi := W.xi
theorem Ext.noF {w w' : Wd} {H H' : Hp} {a : Addr} (E : Ext w H w' H') (hf : w.F a = none) (ha : H a ≠ none) : w'.F a = none := by
  cases q : w'.F a with
  | none => rfl
  | some o =>
    rcases E.newF a o q with z | z
    · rw [hf] at z; cases z
    · exact absurd z ha
theorem Ext.noI {w w' : Wd} {H H' : Hp} {a : Addr} (E : Ext w H w' H') (hi : a ∉ w.ι) (ha : H a ≠ none) : a ∉ w'.ι := fun q => by
  rcases E.newI a q with z | z
  · exact hi z
  · exact ha z

/-! ### [elt for target in iter if ..] -/
def compL (tg : SemG) (cond : SemB) (elt : SemR) (env : Env) : List D → Cells → Res (List D)
  | [], m => .ok [] m
  | x :: xs, m => match tg x env with
    | none => .bot
    | some env1 => (noX (cond env1 m)).bind fun b m1 => if b = true then (noX (fz elt env1 m1)).bind fun y m2 => (compL tg cond elt env xs m2).bind fun ys m3 => .ok (y :: ys) m3 else compL tg cond elt env xs m1
def rComp (it : SemDs) (tg : SemG) (cond : SemB) (elt : SemR) (vs : List Nat) : SemR := fun env m => (it env m).bind fun ds m1 => if ds.length ≤ LN then (compL tg cond elt (wipeE env vs) ds m1).bind fun ys m2 => .ok (.fl ys) m2 else .bot
def bYes : SemB := fun _ m => .ok true m
theorem noX_bind {α β : Type} {r : Res α} {k : α → Cells → Res β} (h : ∀ a m, noX (k a m) = k a m) : noX ((noX r).bind k) = (noX r).bind k := by
  cases r with
  | ok a m => exact h a m
  | exc x m => rfl
  | bot => rfl
theorem compL_noX (tg : SemG) (cond : SemB) (elt : SemR) (env : Env) : ∀ (ds : List D) (m : Cells), noX (compL tg cond elt env ds m) = compL tg cond elt env ds m
  | [], m => rfl
  | x :: xs, m => by
    unfold compL
    cases tg x env with
    | none => rfl
    | some env1 =>
      refine noX_bind fun b m1 => ?_
      cases b with
      | false =>
        rw [if_neg Bool.false_ne_true]
        exact compL_noX tg cond elt env xs m1
      | true =>
        rw [if_pos rfl]
        refine noX_bind fun y m2 => ?_
        have := compL_noX tg cond elt env xs m2
        cases h : compL tg cond elt env xs m2 with
        | ok a m => rfl
        | exc x m => rw [h] at this; cases this
        | bot => rfl
theorem WP.noX' {α : Type} {r : Res α} {P : α → Cells → Prop} {Z : Exn → Cells → Prop} (h : noX r = r) (q : WP r P Z) : WP r P fun _ _ => False := by
  cases r with
  | ok a m => exact q
  | exc x m => cases h
  | bot => exact q
/-- a clause's tests -/
structure SPt (X : Cx) (W : WX) (es : List Expr) (f : SemB) (t : TT) : Prop where
  pt : PTs X es t
  rd : ∀ w H0 σ H env m (Q : Bool → Hp → Prop), Wf X.K w H m → Slots X.K w H0 σ H env → WP (f env m) (fun b m' => ∀ w' H', Ext w H w' H' → Wf X.K w' H' m' → Q b H') (PX X W w H σ) → t σ H Q
theorem spt_nil {X : Cx} {W : WX} : SPt X W [] bYes tYes := ⟨pts_nil, fun w H0 σ H env m Q Wm S q => q w H (.refl _ _) Wm⟩
theorem spt_one {X : Cx} {W : WX} {e : Expr} {f : SemB} {t : TT} (h : STt X W e f t) : SPt X W [e] f t := ⟨pts_one h.pt, h.rd⟩
section
variable {X : Cx} {W : WX}
theorem comp_rd {elt tg iter : Expr} {ifs : List Expr} {vs is : List Nat} {wi : TI} {g : TG} {tt : TT} {te : TE} {it : SemDs} {gs : SemG} {cond : SemB} {fe : SemR} {Y : Cx} (hK : Y.K = X.K) (hi : SIt X W tg iter it wi) (hvs : ∀ i ∈ is, i ∈ vs) (hg : SGt Y tg gs is g) (ht : SPt Y W0 ifs cond tt) (he : SE Y W0 elt fe te)
    (w H0 σ H env m) (Q : VK) (Wm : Wf X.K w H m) (S : Slots X.K w H0 σ H env) (q : WP (rComp it gs cond fe vs env m) (PR X w H0 H Q) (PX X W w H σ)) : tLc wi g tt te vs σ H Q := by
  refine hi.rd w H0 σ H env m _ Wm S (WP.mono (WP.of_bind q) (fun ds m1 q w1 H1 J E1 W1 wk => ?_) fun _ _ z => z)
  intro D hD
  split at q
  · rename_i hlen
    obtain ⟨G, Yi, hw, hG, hY⟩ := wk
    have q := WP.of_bind q
    have hDw : H D = none := E1.there D hD
    refine lc_it hw (fun i H2 => ∃ w2 m2 acc, Ext w1 H1 w2 H2 ∧ Wf X.K w2 H2 m2 ∧ w2.F D = none ∧ D ∉ w2.ι ∧ (∃ us, H2 D = some (.lst us) ∧ RDs X.K w2 acc us) ∧ acc.length ≤ i ∧
      WP (compL gs cond fe (wipeE env vs) (ds.drop i) m2) (fun ys m' => PR X w H0 H Q (.fl (acc ++ ys)) m') (fun _ _ => False)) ?_ ?_ ?_ ?_
    · refine ⟨w1, m1, [], (Ext.refl _ _).updFresh hD, W1.upd (W1.noF hD) (W1.noI hD), W1.noF hD, W1.noI hD, ⟨[], upd_same, .nil⟩, Nat.zero_le _, ?_⟩
      exact WP.noX' (compL_noX _ _ _ _ _ _) q
    · rintro i H2 hi' ⟨w2, m2, acc, E2, W2, _⟩
      exact hG w2 H2 E2.le W2.sub
    · rintro i v H2 H3 hi' ⟨w2, m2, acc, E2, W2, f2, i2, ⟨us, hD2, r2⟩, hacc, q2⟩ y
      obtain ⟨x, w3, hx, E3, W3, r3⟩ := hY i H2 v H3 hi' y w2 m2 E2.le W2
      have hdrop : ds.drop i = x :: ds.drop (i + 1) := by
        rw [List.drop_eq_getElem_cons hi']
        rw [List.getElem?_eq_getElem hi'] at hx
        cases hx; rfl
      rw [hdrop, compL] at q2
      cases eg : gs x (wipeE env vs) with
      | none => rw [eg] at q2; exact q2.elim
      | some env1 =>
        rw [eg] at q2
        have E13 := (E1.trans E2).trans E3
        have f3 := E3.noF f2 (by rw [hD2]; exact fun z => nomatch z)
        have i3 := E3.noI i2 (by rw [hD2]; exact fun z => nomatch z)
        have hD3 := E3.keep D _ hD2 i2
        have S3 := ((S.ext E13).wipe vs)
        have W3' : Wf Y.K w3 H3 m2 := by rw [hK]; exact W3
        have S3' : Slots Y.K w3 H0 (wipe σ vs) H3 (wipeE env vs) := by rw [hK]; exact S3
        refine hg.rd w3 H0 (wipe σ vs) H3 (wipeE env vs) m2 x v env1 _ W3' S3' (by rw [hK]; exact r3) eg fun σ' sin S4 => ⟨(sin.2 vs hvs).trans (wipe_idem σ vs), ?_⟩
        have q2 := WP.of_bind q2
        refine ht.rd w3 H0 σ' H3 env1 m2 _ W3' S4 (WP.mono (WP.of_noX (Z' := PX Y W0 w3 H3 σ') q2) (fun b m3 q3 w4 H4 E4 W4 => ?_) fun x m' z => z)
        have W4' : Wf X.K w4 H4 m3 := by rw [← hK]; exact W4
        have f4 := E4.noF f3 (by rw [hD3]; exact fun z => nomatch z)
        have i4 := E4.noI i3 (by rw [hD3]; exact fun z => nomatch z)
        have hD4 := E4.keep D _ hD3 i3
        cases b with
        | false =>
          rw [if_neg Bool.false_ne_true] at q3 ⊢
          exact ⟨w4, m3, acc, (E2.trans E3).trans E4, W4', f4, i4, ⟨us, hD4, (r2.le E3.le).le E4.le⟩, Nat.le_succ_of_le hacc, q3⟩
        | true =>
          rw [if_pos rfl] at q3 ⊢
          have q3 := WP.of_bind q3
          refine he.fz W4 (S4.ext E4) (WP.mono (WP.of_noX (Z' := PX Y W0 w4 H4 σ') q3) (fun z m4 q4 w5 H5 u E5 W5 r5 => ?_) fun x m' z => z)
          have W5' : Wf X.K w5 H5 m4 := by rw [← hK]; exact W5
          have r5' : RD X.K w5 z u := by rw [← hK]; exact r5
          have f5 := E5.noF f4 (by rw [hD4]; exact fun z => nomatch z)
          have i5 := E5.noI i4 (by rw [hD4]; exact fun z => nomatch z)
          have hD5 := E5.keep D _ hD4 i4
          have hl := (r2.length)
          refine ⟨us, hD5, ?_, w5, m4, acc ++ [z], (((E2.trans E3).trans E4).trans E5).updFresh hD, W5'.upd f5 i5, f5, i5, ⟨_, upd_same, ((((r2.le E3.le).le E4.le).le E5.le).append (.cons r5' .nil))⟩, ?_, ?_⟩
          · exact ln_lt (by omega)
          · rw [List.length_append]; simp only [List.length_cons, List.length_nil]; omega
          · refine WP.mono (WP.of_bind q4) (fun ys m' z => ?_) fun _ _ z => z
            have z : PR X w H0 H Q (.fl (acc ++ (_ :: ys))) m' := z
            rw [List.append_assoc]
            exact z
    · rintro H2 ⟨w2, m2, acc, E2, W2, f2, i2, ⟨us, hD2, r2⟩, _, q2⟩
      rw [List.drop_length, compL] at q2
      have q2 : PR X w H0 H Q (.fl (acc ++ [])) m2 := q2
      rw [List.append_nil] at q2
      exact q2 w2 H2 _ (E1.trans E2) W2 ⟨D, us, rfl, hD2, f2, i2, hDw, r2⟩
  · exact q.elim
end
end Ev
/-! Ev, part H: comprehensions as rules, calls of defs, statements. -/
namespace Ev
open PySem PySem.Spec L2
section
variable {X : Cx} {W : WX}
theorem se_lc {elt tg iter : Expr} {ifs : List Expr} {scope : Scope} {own : List (Str × Nat)} {pos : Pos} {is : List Nat} {wi : TI} {g : TG} {tt : TT} {te : TE} {it : SemDs} {gs : SemG} {cond : SemB} {fe : SemR} (hc : X.calm = true) (hN : X.N.Nodup) (hi : SIt X W tg iter it wi) (ok : BlkOk X.N X.env.scope scope own)
    (hg : ∀ (s : Shared) (H : Hp) (C : Addr) (cl : List (Str × Addr)) (fp : List Addr), SGt (X.blk s H scope (compEnvC scope cl C X.env) fp) tg gs is g) (ht : ∀ (s : Shared) (H : Hp) (C : Addr) (cl : List (Str × Addr)) (fp : List Addr), SPt (X.blk s H scope (compEnvC scope cl C X.env) fp) W0 ifs cond tt)
    (he : ∀ (s : Shared) (H : Hp) (C : Addr) (cl : List (Str × Addr)) (fp : List Addr), SE (X.blk s H scope (compEnvC scope cl C X.env) fp) W0 elt fe te) (hvs : ∀ i ∈ is, i ∈ own.map (·.2) := by decide) (hs : ∀ x, foldedSetIterable iter X.env x = pure x := by intro _; rfl) :
    SE X W (.ListComp elt [⟨tg, iter, ifs, 0⟩] scope pos) (rComp it gs cond fe (own.map (·.2))) (tLc wi g tt te (own.map (·.2))) := by
  refine ⟨pe_lc hc hN hi.pi ok (fun s H C cl fp => (hg s H C cl fp).pg) (fun s H C cl fp => (ht s H C cl fp).pt) (fun s H C cl fp => (he s H C cl fp).pe) hs, fun w H0 σ H env m Q Wm S q => ?_⟩
  exact comp_rd (X := X) (Y := X.blk X.s_0 (fun _ => none) scope (compEnvC scope [] 0 X.env) []) rfl hi hvs (hg _ _ _ _ _) (ht _ _ _ _ _) (he _ _ _ _ _) w H0 σ H env m Q Wm S q
end

/-! ### defs -/
abbrev Fn := List D → Cells → Res RV
def spF (K : PySem.W.Frag) (n : Nat) (f : Fn) : Sp := fun vs H Q E => ∃ w m ds, Wf K w H m ∧ RDs K w ds vs ∧ vs.length = n ∧
  WP (f ds m) (fun rv m' => ∀ w' H' v, Ext w H w' H' → Wf K w' H' m' → RR K H H w' H' rv v → Q v H') (fun x m' => ∀ c d w' H', Ext w H w' H' → Wf K w' H' m' → RX K w' x c d H' → E c d H')
/-- a def of the text that computes f -/
structure FnS (P : Program) (w : World) (K : PySem.W.Frag) (mg : Str → Option Value) (base : Heap) (k : Nat) (x : Str) (ps : List Str) (a : Addr) (fd : FuncData) (f : Fn) : Prop where
  hm : mg x = some (.ref a)
  kp : PySem.W.keepIn K (.ref a) = true
  bd : Binds K fd ps []
  ok : FnOk P w K mg base (L2.CX P w) k a fd ps (spF K ps.length f)
def rCall (n : Nat) (f : Fn) (as : SemDs) : SemR := fun env m => (as env m).bind fun xs m1 => if xs.length = n then (f xs m1).bind fun rv m2 => (match rv with | .pk _ => .bot | rv => .ok rv m2) else .bot
def unpk : RV → RV
  | .pk xs => .fl xs
  | r => r
section
variable {X : Cx} {W : WX} {e : Expr} {es : List Expr} {as : SemDs} {t : TA} {x : Str} {ps : List Str} {f : Fn} {k : Nat} {p pos : Pos} {a : Addr} {fd : FuncData}
theorem call_rd {n : Nat} {w : Wd} {H0 σ H env m} {Q : VK} (hn : n = ps.length) (h : SAt X W es as t) (Wm : Wf X.K w H m) (S : Slots X.K w H0 σ H env) (q : WP (rCall n f as env m) (PR X w H0 H Q) (PX X W w H σ)) : tCallS (spF X.K ps.length f) (WE W) t σ H Q := by
  refine h.rd w H0 σ H env m _ Wm S (WP.mono (WP.of_bind q) (fun xs m1 q w1 H1 vs E1 W1 r1 => ?_) fun _ _ z => z)
  split at q
  · rename_i hl
    refine ⟨w1, m1, xs, W1, r1, by rw [← r1.length, hl, hn], WP.mono (WP.of_bind q) (fun rv m' z w' H' v E' W' rr => ?_) fun x m' z c d w' H' E' W' rx => z c d w' H' (E1.trans E') W' rx⟩
    cases rv with
    | d y => exact z w' H' v (E1.trans E') W' rr
    | fl ys =>
      obtain ⟨a, us, h1, h2, h3, h4, h5, h6⟩ := rr
      exact z w' H' v (E1.trans E') W' ⟨a, us, h1, h2, h3, h4, E1.there a h5, h6⟩
    | pk ys => exact z.elim
  · exact q.elim
theorem se_call (F : FnS X.prog X.w X.K X.mg X.base k x ps a fd f) (tk : Takes X W) (hr : Room k X.A) (n : Nat) (h : SAt X W (e :: es) as t) (hn : n = ps.length := by rfl) (hg : Gl X x := by rfl) (hdb : (x == ("__debug__" : Str)) = false := by decide)
    (he : starEach (e :: es) X.env = (false, eval e X.env) :: starEach es X.env := by rfl) (hpl : (backTo pos (starEach es X.env)).any (·.1) = false := by rfl) : SE X W (.Call (.Name x p) (e :: es) [] pos) (rCall n f as) (tCallS (spF X.K ps.length f) (WE W) t) := by
  obtain ⟨h1, h2, h3, h4⟩ := F
  exact ⟨pe_callS h4 hr hg h1 h2 h3 (fun σ => passAt tk σ) h.pa hdb he hpl, fun w H0 σ H env m Q Wm S q => call_rd hn h Wm S q⟩
/-- a def without parameters -/
def rCall0 (f : Fn) : SemR := rCall 0 f aNil
theorem se_call0 (F : FnS X.prog X.w X.K X.mg X.base k x [] a fd f) (tk : Takes X W) (hr : Room k X.A) (hg : Gl X x := by rfl) (hdb : (x == ("__debug__" : Str)) = false := by decide) :
    SE X W (.Call (.Name x p) [] [] pos) (rCall0 f) (tCallS (spF X.K 0 f) (WE W) tNil) := by
  obtain ⟨h1, h2, h3, h4⟩ := F
  refine ⟨⟨fun pins s σ H Q I h => ?_⟩, fun w H0 σ H env m Q Wm S q => call_rd (ps := []) rfl sa_nil Wm S q⟩
  refine wpAny_Call_Name_kw (ld_glob I hg h1 ?_ hdb)
  exact PySem.W.callWith_K0 I.kIn h2 (run_fnSD (dvs := []) (ds := []) (us := []) h4 hr h3 .nil (passAt tk σ) I .nil h)
end
end Ev
/-! Ev, part I: statements. -/
namespace Ev
open PySem PySem.Spec L2
inductive Out where
  | nx (env : Env) | bk (env : Env) | ct (env : Env) | rt (rv : RV)
abbrev SemS := Env → Cells → Res Out
section
variable (X : Cx) (W : WX)
/-- what is wanted behind a statement -/
def PO (w0 : Wd) (H0 : Hp) (w : Wd) (n : Nat) (D : Ends) (o : Out) (m' : Cells) : Prop := ∀ w' H', Ext w0 H0 w' H' → WLe w w' → Wf X.K w' H' m' → match o with
  | .nx env' => ∀ σ', σ'.length = n → Slots X.K w' H0 σ' H' env' → D.nx σ' H'
  | .bk env' => ∀ σ', σ'.length = n → Slots X.K w' H0 σ' H' env' → D.bk σ' H'
  | .ct env' => ∀ σ', σ'.length = n → Slots X.K w' H0 σ' H' env' → D.ct σ' H'
  | .rt rv => ∀ v, RR X.K H0 H0 w' H' rv v → D.rt v H'
def PXs (w0 : Wd) (H0 : Hp) (n : Nat) (x : Exn) (m' : Cells) : Prop := ∀ c d w' H' σ', σ'.length = n → Ext w0 H0 w' H' → Wf X.K w' H' m' → RX X.K w' x c d H' → W c d σ' H'
structure SSt (st : Stmt) (f : SemS) (t : TS) : Prop where
  ps : PS X st t
  rd : ∀ w0 H0 w σ H env m (D : Ends), Ext w0 H0 w H → Wf X.K w H m → Slots X.K w H0 σ H env → WP (f env m) (PO X w0 H0 w σ.length D) (PXs X W w0 H0 σ.length) → t D σ H
structure SSs (sts : List Stmt) (f : SemS) (t : TS) : Prop where
  ps : PSs X sts t
  rd : ∀ w0 H0 w σ H env m (D : Ends), Ext w0 H0 w H → Wf X.K w H m → Slots X.K w H0 σ H env → WP (f env m) (PO X w0 H0 w σ.length D) (PXs X W w0 H0 σ.length) → t D σ H
end
def sNop : SemS := fun env m => .ok (.nx env) m
def sSeq (f g : SemS) : SemS := fun env m => (f env m).bind fun o m1 => match o with
  | .nx env1 => g env1 m1
  | o => .ok o m1
def sRet (f : SemR) : SemS := fun env m => (f env m).bind fun rv m1 => .ok (.rt (unpk rv)) m1
def sRetN : SemS := fun _ m => .ok (.rt (.d .non)) m
def sExpr (f : SemR) : SemS := fun env m => (f env m).bind fun _ m1 => .ok (.nx env) m1
def sIf (c : SemB) (f g : SemS) : SemS := fun env m => (c env m).bind fun b m1 => if b = true then f env m1 else g env m1
def sBot : SemS := fun _ _ => .bot
def slotOf : RV → Option Slot
  | .d x => some (.d x)
  | .fl xs => some (.own xs)
  | .pk _ => none
def sSet (i : Nat) (f : SemR) : SemS := fun env m => (f env m).bind fun rv m1 => match slotOf rv with
  | some s => .ok (.nx (env.set i s)) m1
  | none => .bot
/-- targets = value, the value as data -/
def sAsg (g : SemG) (f : SemR) : SemS := fun env m => (fz f env m).bind fun x m1 => match g x env with
  | some env1 => .ok (.nx env1) m1
  | none => .bot
def whileL (c : SemB) (b : SemS) : Nat → SemS
  | 0 => fun _ _ => .bot
  | n + 1 => fun env m => (c env m).bind fun k m1 => if k = true then (b env m1).bind fun o m2 => match o with
    | .nx env2 => whileL c b n env2 m2
    | .ct env2 => whileL c b n env2 m2
    | .bk env2 => .ok (.nx env2) m2
    | .rt rv => .ok (.rt rv) m2
    else .ok (.nx env) m1
def FUEL : Nat := 100000
def sWhile (c : SemB) (b : SemS) : SemS := whileL c b FUEL
def forL (g : SemG) (b : SemS) : List D → SemS
  | [] => fun env m => .ok (.nx env) m
  | x :: xs => fun env m => match g x env with
    | none => .bot
    | some env1 => (b env1 m).bind fun o m2 => match o with
      | .nx env2 => forL g b xs env2 m2
      | .ct env2 => forL g b xs env2 m2
      | .bk env2 => .ok (.nx env2) m2
      | .rt rv => .ok (.rt rv) m2
def sFor (it : SemDs) (g : SemG) (b : SemS) : SemS := fun env m => (it env m).bind fun ds m1 => forL g b ds env m1
/-- the slot's own list is from now on data -/
def sFrz (i : Nat) (f : SemS) : SemS := fun env m => match env[i]? with
  | some (.own xs) => f (env.set i (.d (.lst xs))) m
  | _ => f env m

theorem RR.base {K : PySem.W.Frag} {H0 H H' : Hp} {w0 w w' : Wd} {rv : RV} {v : V} (E : Ext w0 H0 w H) (h : RR K H0 H w' H' rv v) : RR K H0 H0 w' H' (unpk rv) v := by
  cases rv with
  | d x => exact h
  | fl xs =>
    obtain ⟨a, vs, h1, h2, h3, h4, h5, h6⟩ := h
    exact ⟨a, vs, h1, h2, h3, h4, E.there a h5, h6⟩
  | pk xs => exact h
theorem Slots.setR {K : PySem.W.Frag} {w0 w w' : Wd} {H0 H H' : Hp} {σ : St} {env : Env} {rv : RV} {v : V} {s : Slot} (E0 : Ext w0 H0 w H) (S : Slots K w H0 σ H env) (E : Ext w H w' H') (r : RR K H0 H w' H' rv v) (i : Nat) (h : slotOf rv = some s) :
    Slots K w' H0 (σ.set i (some v)) H' (env.set i s) := by
  cases rv with
  | pk xs => cases h
  | d x => cases h; exact (S.ext E).setD i r
  | fl xs =>
    cases h
    obtain ⟨a, vs, rfl, h2, h3, h4, h5, h6⟩ := r
    have S' := S.ext E
    have key : ∀ {j : Nat} {ys : List D}, env[j]? = some (.own ys) → σ[j]? ≠ some (some (V.ref a)) := fun {j ys} e q => by
      obtain ⟨b, us, g1, g2, _⟩ := S.own j ys e
      rw [q] at g1
      cases g1
      rw [h5] at g2; cases g2
    have at_i : ∀ {j : Nat} {t : Slot}, (env.set i (.own xs))[j]? = some t → i = j → t = .own xs ∧ i < σ.length := fun {j t} e q => by
      subst q
      rw [List.getElem?_set_self'] at e
      cases hh : env[i]? with
      | none => rw [hh] at e; cases e
      | some u =>
        rw [hh] at e
        cases e
        exact ⟨rfl, by rw [← S.len]; exact (List.getElem?_eq_some_iff.mp hh).1⟩
    refine ⟨by rw [List.length_set, List.length_set]; exact S.len, fun j y e => ?_, fun j ys e => ?_, fun j k ys zs b e1 e2 s1 s2 => ?_⟩
    · by_cases q : i = j
      · exact nomatch (at_i e q).1
      · rw [List.getElem?_set_ne q] at e ⊢
        exact S'.dat j y e
    · by_cases q : i = j
      · obtain ⟨z, hl⟩ := at_i e q
        cases z
        subst q
        exact ⟨a, vs, List.getElem?_set_self hl, h2, h3, h4, E0.there a h5, h6⟩
      · rw [List.getElem?_set_ne q] at e ⊢
        exact S'.own j ys e
    · by_cases q1 : i = j
      · by_cases q2 : i = k
        · exact q1.symm.trans q2
        · rw [List.getElem?_set_ne q2] at e2 s2
          obtain ⟨z, hl⟩ := at_i e1 q1
          subst q1
          rw [List.getElem?_set_self hl] at s1
          cases s1
          exact absurd s2 (key e2)
      · rw [List.getElem?_set_ne q1] at e1 s1
        by_cases q2 : i = k
        · obtain ⟨z, hl⟩ := at_i e2 q2
          subst q2
          rw [List.getElem?_set_self hl] at s2
          cases s2
          exact absurd s1 (key e1)
        · rw [List.getElem?_set_ne q2] at e2 s2
          exact S'.dis j k ys zs b e1 e2 s1 s2
section
variable {X : Cx} {W : WX} {e : Expr} {f : SemR} {te : TE} {pos : Pos}
theorem PO.after {w0 w w1 : Wd} {H0 : Hp} {n : Nat} {D : Ends} {o : Out} {m' : Cells} (L : WLe w w1) (h : PO X w0 H0 w n D o m') : PO X w0 H0 w1 n D o m' := fun w' H' E L' => h w' H' E (L.trans L')
theorem WP.afterO {w0 w w1 : Wd} {H0 : Hp} {n : Nat} {D : Ends} {r : Res Out} {Z : Exn → Cells → Prop} (L : WLe w w1) (q : WP r (PO X w0 H0 w n D) Z) : WP r (PO X w0 H0 w1 n D) Z := WP.mono q (fun _ _ z => z.after L) fun _ _ z => z
/-- an exception of an expression, as a statement's -/
theorem PXs.of {w0 w : Wd} {H0 H : Hp} {σ : St} {x : Exn} {m' : Cells} (E : Ext w0 H0 w H) (h : PXs X W w0 H0 σ.length x m') : PX X W w H σ x m' := fun c d w' H' E' W' rx => h c d w' H' σ rfl (E.trans E') W' rx
theorem ss_nil : SSs X W [] sNop tNext := ⟨pss_nil, fun w0 H0 w σ H env m D E Wm S q => q w H E (.refl _) Wm σ rfl S⟩
theorem ss_pass : SSt X W (.Pass pos) sNop tNext := ⟨ps_pass, fun w0 H0 w σ H env m D E Wm S q => q w H E (.refl _) Wm σ rfl S⟩
theorem ss_doc {x j pos pos'} : SSt X W (.Expr (.Constant (.str x) j pos) pos') sNop tNext := ⟨ps_doc, fun w0 H0 w σ H env m D E Wm S q => q w H E (.refl _) Wm σ rfl S⟩
theorem ss_never {st : Stmt} : SSt X W st sBot tNever := ⟨ps_never, fun _ _ _ _ _ _ _ _ _ _ _ q => q⟩
theorem ss_one {st : Stmt} {f : SemS} {t : TS} (h : SSt X W st f t) : SSs X W [st] f t := ⟨pss_one h.ps, h.rd⟩
theorem ss_cons {st : Stmt} {rest : List Stmt} {f g : SemS} {t u : TS} (h : SSt X W st f t) (h2 : SSs X W rest g u) : SSs X W (st :: rest) (sSeq f g) (tSeq t u) := by
  refine ⟨pss_cons h.ps h2.ps, fun w0 H0 w σ H env m D E Wm S q => ?_⟩
  refine h.rd w0 H0 w σ H env m _ E Wm S (WP.mono (WP.of_bind q) (fun o m1 q w1 H1 E1 L1 W1 => ?_) fun _ _ z => z)
  cases o with
  | nx env1 => exact fun σ1 hl S1 => h2.rd w0 H0 w1 σ1 H1 env1 m1 D E1 W1 S1 (by rw [hl]; exact WP.afterO L1 q)
  | bk env1 => exact q w1 H1 E1 L1 W1
  | ct env1 => exact q w1 H1 E1 L1 W1
  | rt rv => exact q w1 H1 E1 L1 W1
theorem ss_ret (h : SE X W e f te) : SSt X W (.Return (some e) pos) (sRet f) (tRet te) := by
  refine ⟨ps_ret h.pe, fun w0 H0 w σ H env m D E Wm S q => ?_⟩
  refine h.rd w H0 σ H env m _ Wm S (WP.mono (WP.of_bind q) (fun rv m1 q w1 H1 v E1 W1 r1 => ?_) fun x m' z => PXs.of E z)
  exact q w1 H1 (E.trans E1) E1.le W1 v (r1.base E)
theorem ss_retN : SSt X W (.Return none pos) sRetN tRetN := ⟨ps_retN, fun w0 H0 w σ H env m D E Wm S q => q w H E (.refl _) Wm V.non .non⟩
theorem ss_expr (h : SE X W e f te) (hs : swapsWith e none pos.line X.env = pure false := by rfl) : SSt X W (.Expr e pos) (sExpr f) (tDrop te) := by
  refine ⟨ps_expr h.pe hs, fun w0 H0 w σ H env m D E Wm S q => ?_⟩
  refine h.rd w H0 σ H env m _ Wm S (WP.mono (WP.of_bind q) (fun rv m1 q w1 H1 v E1 W1 r1 => ?_) fun x m' z => PXs.of E z)
  exact q w1 H1 (E.trans E1) E1.le W1 σ rfl (S.ext E1)
theorem ss_if {c : Expr} {a b : List Stmt} {fc : SemB} {tc : TT} {fa fb : SemS} {ta tb : TS} (hc : STt X W c fc tc) (ha : SSs X W a fa ta) (hb : SSs X W b fb tb) : SSt X W (.If c a b pos) (sIf fc fa fb) (tIfS tc ta tb) := by
  refine ⟨ps_if hc.pt ha.ps hb.ps, fun w0 H0 w σ H env m D E Wm S q => ?_⟩
  refine hc.rd w H0 σ H env m _ Wm S (WP.mono (WP.of_bind q) (fun k m1 q w1 H1 E1 W1 => ?_) fun x m' z => PXs.of E z)
  cases k with
  | true =>
    rw [if_pos rfl] at q ⊢
    exact ha.rd w0 H0 w1 σ H1 env m1 D (E.trans E1) W1 (S.ext E1) (WP.afterO E1.le q)
  | false =>
    rw [if_neg Bool.false_ne_true] at q ⊢
    exact hb.rd w0 H0 w1 σ H1 env m1 D (E.trans E1) W1 (S.ext E1) (WP.afterO E1.le q)
theorem set_rd (i : Nat) (h : ∀ w H0 σ H env m Q, Wf X.K w H m → Slots X.K w H0 σ H env → WP (f env m) (PR X w H0 H Q) (PX X W w H σ) → te σ H Q) (w0 H0 w σ H env m) (D : Ends) (E : Ext w0 H0 w H) (Wm : Wf X.K w H m) (S : Slots X.K w H0 σ H env)
    (q : WP (sSet i f env m) (PO X w0 H0 w σ.length D) (PXs X W w0 H0 σ.length)) : tAsg te (gName i) D σ H := by
  refine h w H0 σ H env m _ Wm S (WP.mono (WP.of_bind q) (fun rv m1 q w1 H1 v E1 W1 r1 => ?_) fun x m' z => PXs.of E z)
  split at q
  · rename_i s e
    exact q w1 H1 (E.trans E1) E1.le W1 _ (by rw [List.length_set]) (S.setR E E1 r1 i e)
  · exact q.elim
theorem ss_set (i : Nat) {x : Str} {pos' : Pos} (hN : X.N.Nodup) (h : SE X W e f te) (hi : X.N[i]? = some x := by rfl) (hx : Loc X.env.scope x := by first | exact Or.inl rfl | exact Or.inr rfl) (hs : swapsWith e (some (.Name x pos')) pos.line X.env = pure false := by rfl)
    (hf : X.fn x = true ∨ X.env.scope.names.lookup x = some .local := by first | exact .inl rfl | exact .inr rfl | assumption) : SSt X W (.Assign [.Name x pos'] e pos) (sSet i f) (tAsg te (gName i)) :=
  ⟨ps_set hN hi hx h.pe hs hf, fun w0 H0 w σ H env m D E Wm S q => set_rd i h.rd w0 H0 w σ H env m D E Wm S q⟩
/-- name = [elt for ..], name a plain local -/
theorem ss_setC (i : Nat) {y : Str} {py : Pos} {elt tg iter : Expr} {ifs : List Expr} {scope : Scope} {own : List (Str × Nat)} {pos spos : Pos} {is : List Nat} {wi : TI} {g : TG} {tt : TT} {te : TE} {it : SemDs} {gs : SemG} {cond : SemB} {fe : SemR} (hc : X.calm = true) (hN : X.N.Nodup)
    (hi : SIt X W tg iter it wi) (ok : BlkOk X.N X.env.scope scope own)
    (hg : ∀ (s : Shared) (H : Hp) (C : Addr) (cl : List (Str × Addr)) (fp : List Addr), SGt (X.blk s H scope (compEnvC scope cl C X.env) fp) tg gs is g) (ht : ∀ (s : Shared) (H : Hp) (C : Addr) (cl : List (Str × Addr)) (fp : List Addr), SPt (X.blk s H scope (compEnvC scope cl C X.env) fp) W0 ifs cond tt)
    (he : ∀ (s : Shared) (H : Hp) (C : Addr) (cl : List (Str × Addr)) (fp : List Addr), SE (X.blk s H scope (compEnvC scope cl C X.env) fp) W0 elt fe te) (hy : X.N[i]? = some y := by rfl) (hyl : X.env.scope.names.lookup y = some .local := by rfl)
    (hsw : swapsWith (.ListComp elt [⟨tg, iter, ifs, 0⟩] scope pos) (some (.Name y py)) spos.line X.env = pure true := by exact sw_true rfl rfl rfl (by decide +kernel)) (hvs : ∀ i ∈ is, i ∈ own.map (·.2) := by decide) (hs : ∀ x, foldedSetIterable iter X.env x = pure x := by intro _; rfl) :
    SSt X W (.Assign [.Name y py] (.ListComp elt [⟨tg, iter, ifs, 0⟩] scope pos) spos) (sSet i (rComp it gs cond fe (own.map (·.2)))) (tAsg (tLc wi g tt te (own.map (·.2))) (gName i)) := by
  refine ⟨ps_setLc hc hN hy hyl hsw hi.pi ok (fun s H C cl fp => (hg s H C cl fp).pg) (fun s H C cl fp => (ht s H C cl fp).pt) (fun s H C cl fp => (he s H C cl fp).pe) hs, fun w0 H0 w σ H env m D E Wm S q => ?_⟩
  exact set_rd i (fun w H0 σ H env m Q Wm S q => comp_rd (X := X) (Y := X.blk X.s_0 (fun _ => none) scope (compEnvC scope [] 0 X.env) []) rfl hi hvs (hg _ _ _ _ _) (ht _ _ _ _ _) (he _ _ _ _ _) w H0 σ H env m Q Wm S q) w0 H0 w σ H env m D E Wm S q
theorem ss_asg {tg : Expr} {g : SemG} {is : List Nat} {tG : TG} (h : SE X W e f te) (hg : SGt X tg g is tG) (hs : swapsWithSole [tg] e pos.line X.env = pure false := by rfl) (hw : swappedStores [tg] e X.env = pure none := by rfl)
    (h1 : (assignEach [tg] X.env).map (·.2) = [assign tg X.env] := by rfl) : SSt X W (.Assign [tg] e pos) (sAsg g f) (tAsg te tG) := by
  refine ⟨ps_asg h.pe hg.pg hs hw h1, fun w0 H0 w σ H env m D E Wm S q => ?_⟩
  refine h.fz Wm S (WP.mono (WP.of_bind q) (fun x m1 q w1 H1 v E1 W1 r1 => ?_) fun x m' z => PXs.of E z)
  cases eg : g x env with
  | none => rw [eg] at q; exact q.elim
  | some env1 =>
    rw [eg] at q
    exact hg.rd w1 H0 σ H1 env m1 x v env1 _ W1 (S.ext E1) r1 eg fun σ' si S' => q w1 H1 (E.trans E1) E1.le W1 σ' si.1 S'
theorem ss_while {c : Expr} {body : List Stmt} {fc : SemB} {tc : TT} {fb : SemS} {tb : TS} (hp : PassesOwn (model X.prog X.w) X.A X.env X.xe) (hc : STt X W c fc tc) (hb : SSs X W body fb tb) : SSt X W (.While c body [] pos) (sWhile fc fb) (tWhile tc tb) := by
  refine ⟨ps_while hp hc.pt hb.ps, fun w0 H0 w σ H env m D E Wm S q => ?_⟩
  refine ⟨fun n σ1 H1 => σ1.length = σ.length ∧ ∃ w1 env1 m1, Ext w0 H0 w1 H1 ∧ WLe w w1 ∧ Wf X.K w1 H1 m1 ∧ Slots X.K w1 H0 σ1 H1 env1 ∧ WP (whileL fc fb n env1 m1) (PO X w0 H0 w σ.length D) (PXs X W w0 H0 σ.length), ⟨FUEL, rfl, w, env, m, E, .refl _, Wm, S, q⟩, ?_⟩
  rintro n σ1 H1 ⟨hl, w1, env1, m1, E1, L1, W1, S1, q1⟩
  cases n with
  | zero => exact q1.elim
  | succ n =>
    refine hc.rd w1 H0 σ1 H1 env1 m1 _ W1 S1 (WP.mono (WP.of_bind q1) (fun k m2 q2 w2 H2 E2 W2 => ?_) fun x m' z => PXs.of E1 (by rw [hl]; exact z))
    cases k with
    | false =>
      rw [if_neg Bool.false_ne_true] at q2 ⊢
      exact q2 w2 H2 (E1.trans E2) (L1.trans E2.le) W2 σ1 hl (S1.ext E2)
    | true =>
      rw [if_pos rfl] at q2 ⊢
      refine ⟨fun σ3 H3 => σ3.length = σ.length ∧ ∃ w3 env3 m3, Ext w0 H0 w3 H3 ∧ WLe w w3 ∧ Wf X.K w3 H3 m3 ∧ Slots X.K w3 H0 σ3 H3 env3 ∧ WP (whileL fc fb n env3 m3) (PO X w0 H0 w σ.length D) (PXs X W w0 H0 σ.length), fun σ3 H3 z => ⟨n, Nat.lt_succ_self n, z⟩, ?_⟩
      refine hb.rd w0 H0 w2 σ1 H2 env1 m2 _ (E1.trans E2) W2 (S1.ext E2) (WP.mono (WP.of_bind q2) (fun o m3 q3 w3 H3 E3 L3 W3 => ?_) fun x m' z => by rw [hl]; exact z)
      have L := (L1.trans E2.le).trans L3
      cases o with
      | nx env3 => exact fun σ3 hl3 S3 => ⟨hl3.trans hl, w3, env3, m3, E3, L, W3, S3, q3⟩
      | ct env3 => exact fun σ3 hl3 S3 => ⟨hl3.trans hl, w3, env3, m3, E3, L, W3, S3, q3⟩
      | bk env3 => exact fun σ3 hl3 S3 => q3 w3 H3 E3 L W3 σ3 (hl3.trans hl) S3
      | rt rv => exact q3 w3 H3 E3 L W3
theorem ss_for {tg iter : Expr} {body : List Stmt} {it : SemDs} {wi : TI} {g : SemG} {is : List Nat} {tG : TG} {fb : SemS} {tb : TS} (hp : PassesOwn (model X.prog X.w) X.A X.env X.xe) (hc : X.calm = true) (hi : SIt X W tg iter it wi) (hg : SGt X tg g is tG) (hb : SSs X W body fb tb)
    (hs : ∀ x, foldedSetIterable iter X.env x = pure x := by intro _; rfl) : SSt X W (.For tg iter body [] pos) (sFor it g fb) (tFor wi tG tb) := by
  refine ⟨ps_for hp hc hi.pi hg.pg hb.ps hs, fun w0 H0 w σ H env m D E Wm S q => ?_⟩
  refine hi.rd w H0 σ H env m _ Wm S (WP.mono (WP.of_bind q) (fun ds m1 q w1 H1 J E1 W1 wk => ?_) fun x m' z => PXs.of E z)
  obtain ⟨G, Yi, hw, hG, hY⟩ := wk
  refine for_it hw (fun i σ2 H2 => σ2.length = σ.length ∧ ∃ w2 env2 m2, Ext w0 H0 w2 H2 ∧ WLe w1 w2 ∧ Wf X.K w2 H2 m2 ∧ Slots X.K w2 H0 σ2 H2 env2 ∧ WP (forL g fb (ds.drop i) env2 m2) (PO X w0 H0 w σ.length D) (PXs X W w0 H0 σ.length)) ?_ ?_ ?_ ?_
  · exact ⟨rfl, w1, env, m1, E.trans E1, .refl _, W1, S.ext E1, q⟩
  · rintro i σ2 H2 _ ⟨_, w2, env2, m2, _, L2, W2, _⟩
    exact hG w2 H2 L2 W2.sub
  · rintro i v σ2 H2 H3 hi' ⟨hl, w2, env2, m2, E2, L2, W2, S2, q2⟩ y
    obtain ⟨x, w3, hx, E3, W3, r3⟩ := hY i H2 v H3 hi' y w2 m2 L2 W2
    have hdrop : ds.drop i = x :: ds.drop (i + 1) := by
      rw [List.drop_eq_getElem_cons hi']
      rw [List.getElem?_eq_getElem hi'] at hx
      cases hx; rfl
    rw [hdrop] at q2
    dsimp only [forL] at q2
    cases eg : g x env2 with
    | none => rw [eg] at q2; exact q2.elim
    | some env3 =>
      rw [eg] at q2
      refine hg.rd w3 H0 σ2 H3 env2 m2 x v env3 _ W3 (S2.ext E3) r3 eg fun σ3 si S3 => ?_
      have hl3 : σ3.length = σ.length := si.1.trans hl
      refine hb.rd w0 H0 w3 σ3 H3 env3 m2 _ (E2.trans E3) W3 S3 (WP.mono (WP.of_bind q2) (fun o m4 q4 w4 H4 E4 L4 W4 => ?_) fun x m' z => by rw [hl3]; exact z)
      have L := (L2.trans E3.le).trans L4
      cases o with
      | nx env4 => exact fun σ4 hl4 S4 => ⟨hl4.trans hl3, w4, env4, m4, E4, L, W4, S4, q4⟩
      | ct env4 => exact fun σ4 hl4 S4 => ⟨hl4.trans hl3, w4, env4, m4, E4, L, W4, S4, q4⟩
      | bk env4 => exact fun σ4 hl4 S4 => q4 w4 H4 E4 (E1.le.trans L) W4 σ4 (hl4.trans hl3) S4
      | rt rv => exact q4 w4 H4 E4 (E1.le.trans L) W4
  · rintro σ2 H2 ⟨hl, w2, env2, m2, E2, L2, W2, S2, q2⟩
    rw [List.drop_length] at q2
    exact q2 w2 H2 E2 (E1.le.trans L2) W2 σ2 hl S2
end
end Ev
/-! Ev, part J: lists that change, several targets, defs, a law's end. -/
namespace Ev
open PySem PySem.Spec L2

/-! ### a slot's list -/
def lget (i : Nat) (env : Env) (m : Cells) : Option (List D) := match env[i]? with
  | some (.own xs) => some xs
  | some (.d (.ref n)) => match m[n]? with
    | some (.lst xs) => some xs
    | none => none
  | _ => none
def lupd (i : Nat) (env : Env) (m : Cells) (xs : List D) : Env × Cells := match env[i]? with
  | some (.d (.ref n)) => (env, m.set n (.lst xs))
  | _ => (env.set i (.own xs), m)
theorem Slots.updOwn {K : PySem.W.Frag} {w : Wd} {H0 H : Hp} {σ : St} {env : Env} {i : Nat} {xs xs' : List D} {a : Addr} {vs' : List V} (S : Slots K w H0 σ H env) (e : env[i]? = some (.own xs)) (hs : σ[i]? = some (some (V.ref a))) (r : RDs K w xs' vs') :
    Slots K w H0 σ (upd H a (.lst vs')) (env.set i (.own xs')) := by
  obtain ⟨b, us, g1, g2, g3, g4, g5, g6⟩ := S.own i xs e
  rw [hs] at g1
  cases g1
  have hi : i < env.length := (List.getElem?_eq_some_iff.mp e).1
  refine ⟨by rw [List.length_set]; exact S.len, fun j y h => ?_, fun j ys h => ?_, fun j k ys zs b e1 e2 s1 s2 => ?_⟩
  · by_cases q : i = j
    · subst q; rw [List.getElem?_set_self hi] at h; cases h
    · rw [List.getElem?_set_ne q] at h; exact S.dat j y h
  · by_cases q : i = j
    · subst q
      rw [List.getElem?_set_self hi] at h
      cases h
      exact ⟨a, vs', hs, upd_same, g3, g4, g5, r⟩
    · rw [List.getElem?_set_ne q] at h
      obtain ⟨b, us, h1, h2, h3⟩ := S.own j ys h
      have hb : b ≠ a := fun z => by
        subst z
        exact q (S.dis i j xs ys b e h hs h1)
      exact ⟨b, us, h1, by rw [upd_ne hb]; exact h2, h3⟩
  · have f : ∀ {j : Nat} {ys : List D}, (env.set i (.own xs'))[j]? = some (.own ys) → ∃ zs, env[j]? = some (.own zs) := fun {j ys} h => by
      by_cases q : i = j
      · subst q; exact ⟨xs, e⟩
      · rw [List.getElem?_set_ne q] at h; exact ⟨ys, h⟩
    obtain ⟨ys', h1⟩ := f e1
    obtain ⟨zs', h2⟩ := f e2
    exact S.dis j k ys' zs' b h1 h2 s1 s2
theorem slot_upd {K : PySem.W.Frag} {w0 w : Wd} {H0 H : Hp} {σ : St} {env : Env} {m : Cells} {i : Nat} {xs : List D} (E : Ext w0 H0 w H) (Wm : Wf K w H m) (S : Slots K w H0 σ H env) (h : lget i env m = some xs) :
    ∃ a vs, σ[i]? = some (some (V.ref a)) ∧ H a = some (.lst vs) ∧ RDs K w xs vs ∧ ∀ xs' vs', RDs K w xs' vs' → Ext w0 H0 w (upd H a (.lst vs')) ∧ Wf K w (upd H a (.lst vs')) (lupd i env m xs').2 ∧ Slots K w H0 σ (upd H a (.lst vs')) (lupd i env m xs').1 := by
  unfold lget at h
  split at h
  · rename_i ys e
    cases h
    obtain ⟨a, vs, h1, h2, h3, h4, h5, h6⟩ := S.own i xs e
    refine ⟨a, vs, h1, h2, h6, fun xs' vs' r => ?_⟩
    have u : lupd i env m xs' = (env.set i (.own xs'), m) := by unfold lupd; rw [e]
    rw [u]
    exact ⟨E.updFresh h5, Wm.upd h3 h4, S.updOwn e h1 r⟩
  · rename_i n e
    split at h
    · rename_i ys e2
      cases h
      obtain ⟨v, h1, h2⟩ := S.dat i _ e
      obtain ⟨b, g1, vs, g2, g3⟩ := Wm.cell n _ e2
      cases h2 with
      | ref q =>
        rw [g1] at q
        cases q
        refine ⟨b, vs, h1, g2, g3, fun xs' vs' r => ?_⟩
        have u : lupd i env m xs' = (env, m.set n (.lst xs')) := by unfold lupd; rw [e]
        rw [u]
        have hb := List.mem_of_getElem? g1
        refine ⟨⟨E.le, fun c o q nq => ?_, E.newF, E.newI, fun c q => ?_⟩, ⟨fun c o q => ?_, Wm.nof, Wm.inj, by rw [List.length_set]; exact Wm.len, fun k c q => ?_, Wm.xi⟩, ⟨S.len, S.dat, fun j ys q => ?_, S.dis⟩⟩
        · have hc : c ≠ b := fun z => by
            subst z
            rcases E.newI _ hb with z | z
            · exact nq z
            · rw [q] at z; cases z
          rw [upd_ne hc]
          exact E.keep c o q nq
        · by_cases hc : c = b
          · subst hc; rw [upd_same] at q; cases q
          · rw [upd_ne hc] at q; exact E.there c q
        · have hc : c ≠ b := fun z => by
            subst z
            rw [Wm.nof n _ g1] at q; cases q
          rw [upd_ne hc]
          exact Wm.sub c o q
        · by_cases hk : n = k
          · subst hk
            have hl : n < m.length := (List.getElem?_eq_some_iff.mp e2).1
            rw [List.getElem?_set_self hl] at q
            cases q
            exact ⟨b, g1, vs', upd_same, r⟩
          · rw [List.getElem?_set_ne hk] at q
            obtain ⟨d, k1, k2⟩ := Wm.cell k c q
            have hd : d ≠ b := fun z => by
              subst z
              exact hk (Wm.inj n k _ g1 k1)
            refine ⟨d, k1, ?_⟩
            cases c with
            | lst zs =>
              obtain ⟨us, k3, k4⟩ := k2
              exact ⟨us, by rw [upd_ne hd]; exact k3, k4⟩
        · obtain ⟨d, us, k1, k2, k3, k4, k5⟩ := S.own j ys q
          have hd : d ≠ b := fun z => by
            subst z
            exact k4 hb
          exact ⟨d, us, k1, by rw [upd_ne hd]; exact k2, k3, k4, k5⟩
    · cases h
  · cases h
def sAppend (i : Nat) (f : SemR) : SemS := fun env m => if (lget i env m).isSome then (fz f env m).bind fun x m1 => match lget i env m1 with
  | some xs => if xs.length < LN then .ok (.nx (lupd i env m1 (xs ++ [x])).1) (lupd i env m1 (xs ++ [x])).2 else .bot
  | none => .bot
  else .bot
def sSetItem (i : Nat) (fi fe : SemR) : SemS := fun env m => (fz fe env m).bind fun x m1 => if (lget i env m1).isSome then (vl fi env m1).bind fun k m2 => match lget i env m2, k with
  | some xs, .int k => match ixN xs.length k with
    | some j => .ok (.nx (lupd i env m2 (xs.set j x)).1) (lupd i env m2 (xs.set j x)).2
    | none => .bot
  | _, _ => .bot
  else .bot
/-- name = a new list, from now on a cell -/
def sRef (i : Nat) (f : SemR) : SemS := fun env m => (f env m).bind fun rv m1 => match rv with
  | .fl xs => .ok (.nx (env.set i (.d (.ref m1.length)))) (m1 ++ [.lst xs])
  | _ => .bot
def sAug (g : D → D → Option RV) (i : Nat) (f : SemR) : SemS := fun env m => match env[i]? with
  | some (.d x) => (vl f env m).bind fun y m1 => match g x y with
    | some (.d z) => .ok (.nx (env.set i (.d z))) m1
    | _ => .bot
  | _ => .bot
def sPar2 (i j : Nat) (f g : SemR) : SemS := fun env m => (f env m).bind fun r1 m1 => (g env m1).bind fun r2 m2 => match slotOf r1, slotOf r2 with
  | some s1, some s2 => .ok (.nx ((env.set i s1).set j s2)) m2
  | _, _ => .bot
def sPar3 (i j l : Nat) (f g h : SemR) : SemS := fun env m => (f env m).bind fun r1 m1 => (g env m1).bind fun r2 m2 => (h env m2).bind fun r3 m3 => match slotOf r1, slotOf r2, slotOf r3 with
  | some s1, some s2, some s3 => .ok (.nx (((env.set i s1).set j s2).set l s3)) m3
  | _, _, _ => .bot
section
variable {X : Cx} {W : WX} {e : Expr} {f : SemR} {te : TE} {pos : Pos}
theorem ss_append (i : Nat) {x : Str} {p ap cp : Pos} (h : SE X W e f te) (hN : X.N[i]? = some x := by rfl) (hv : Vis X.env.scope x := by first | exact Or.inl rfl | exact Or.inr (Or.inl rfl) | exact Or.inr (Or.inr rfl)) (hd : (x == ("__debug__" : Str)) = false := by decide) (hcd : (x == ("__classdict__" : Str)) = false := by decide)
    (hbase : attributeBase (.Name x p) "append" X.env (eval (.Name x p) X.env) = eval (.Name x p) X.env := by rfl)
    (hfew : ((backTo cp (starEach (e :: []) X.env)).all (fun x => !x.1) && (backToKw cp (keywordEach [] X.env)).all (fun x => x.1.isSome)
      && decide ((e :: []).length + ([] : List Keyword).length + (if ([] : List Keyword).isEmpty then 0 else 1) < 30)) = true := by rfl)
    (hline : (ap.endLine == cp.line) = true := by rfl) (hs : starEach (e :: []) X.env = (false, eval e X.env) :: starEach [] X.env := by rfl) (hplain : (backTo cp (starEach [] X.env)).any (·.1) = false := by rfl)
    (hsw : swapsWith (.Call (.Attribute (.Name x p) "append" ap) [e] [] cp) none pos.line X.env = pure false := by rfl) :
    SSt X W (.Expr (.Call (.Attribute (.Name x p) "append" ap) [e] [] cp) pos) (sAppend i f) (tDrop (tBM X.K "list" rAppend (tVar i) (tCons te tNil))) := by
  refine ⟨ps_expr (pe_bm PySem.F.plainAttrs_list PySem.F.slot_list_append PySem.F.type_list_append mt_append (pe_var hN hv hd hcd) (pa_cons h.pe pa_nil hs) hbase hfew hline hs hplain) hsw, fun w0 H0 w σ H env m D E Wm S q => ?_⟩
  unfold sAppend at q
  split at q
  · rename_i hs
    obtain ⟨ys, hy⟩ := Option.isSome_iff_exists.mp hs
    obtain ⟨a, vs, k1, k2, _⟩ := slot_upd E Wm S hy
    refine ⟨_, k1, .inl ⟨rfl, vs, .inl (.inl k2)⟩, ?_⟩
    refine h.fz Wm S (WP.mono (WP.of_bind q) (fun x m1 q w1 H1 v1 E1 W1 r1 => ?_) fun x m' z => PXs.of E z)
    split at q
    · rename_i xs hx
      split at q
      · rename_i hl
        obtain ⟨b, us, g1, g2, g3, g4⟩ := slot_upd (E.trans E1) W1 (S.ext E1) hx
        rw [k1] at g1
        cases g1
        obtain ⟨E2, W2, S2⟩ := g4 (xs ++ [x]) (us ++ [v1]) (g3.append (.cons r1 .nil))
        exact ⟨a, us, v1, rfl, rfl, g2, by rw [← g3.length]; exact ln_lt (Nat.le_of_lt hl), q w1 _ E2 E1.le W2 σ rfl S2⟩
      · exact q.elim
    · exact q.elim
  · exact q.elim
theorem ss_setitem (i : Nat) {x : Str} {p pi : Pos} {ei : Expr} {fi : SemR} {ti : TE} (h : SE X W e f te) (hI : SE X W ei fi ti) (hN : X.N[i]? = some x := by rfl) (hv : Vis X.env.scope x := by first | exact Or.inl rfl | exact Or.inr (Or.inl rfl) | exact Or.inr (Or.inr rfl)) (hd : (x == ("__debug__" : Str)) = false := by decide) (hcd : (x == ("__classdict__" : Str)) = false := by decide)
    (ha : ∀ v, assign (.Subscript (.Name x p) ei pi) X.env v = (do
      let ov ← holding [v] (eval (.Name x p) X.env)
      let iv ← holding [v, ov] (eval ei X.env)
      standAt pi
      holding [v, ov, iv] (setItem ov iv v)
      release [v, ov, iv] []) := by intro _; rfl)
    (hs : swapsWithSole [.Subscript (.Name x p) ei pi] e pos.line X.env = pure false := by rfl) (hw : swappedStores [.Subscript (.Name x p) ei pi] e X.env = pure none := by rfl) (h1 : (assignEach [.Subscript (.Name x p) ei pi] X.env).map (·.2) = [assign (.Subscript (.Name x p) ei pi) X.env] := by rfl) :
    SSt X W (.Assign [.Subscript (.Name x p) ei pi] e pos) (sSetItem i fi f) (tAsg te (L2.gSub (tVar i) ti rSetL)) := by
  refine ⟨ps_asg h.pe (pg_sub (pe_var hN hv hd hcd) hI.pe set_list ha) hs hw h1, fun w0 H0 w σ H env m D E Wm S q => ?_⟩
  refine h.fz Wm S (WP.mono (WP.of_bind q) (fun x m1 q w1 H1 v1 E1 W1 r1 => ?_) fun x m' z => PXs.of E z)
  split at q
  · rename_i hs
    obtain ⟨ys, hy⟩ := Option.isSome_iff_exists.mp hs
    obtain ⟨a, vs, k1, k2, _⟩ := slot_upd (E.trans E1) W1 (S.ext E1) hy
    refine ⟨_, k1, ?_⟩
    refine hI.vl W1 (S.ext E1) (WP.mono (WP.of_bind q) (fun k m2 q w2 H2 v2 E2 W2 r2 => ?_) fun x m' z => PXs.of (E.trans E1) z)
    have E12 := E1.trans E2
    split at q
    · rename_i xs k hx
      split at q
      · rename_i j hj
        obtain ⟨b, us, g1, g2, g3, g4⟩ := slot_upd (E.trans E12) W2 (S.ext E12) hx
        rw [k1] at g1
        cases g1
        obtain ⟨E3, W3, S3⟩ := g4 (xs.set j x) (us.set j v1) (g3.set (r1.le E2.le) j)
        exact ⟨a, us, k, j, rfl, r2.int, g2, by rw [← g3.length]; exact hj, q w2 _ E3 E12.le W3 σ rfl S3⟩
      · exact q.elim
    · exact q.elim
  · exact q.elim
end
end Ev
/-! Ev, part K: cells made, op=, several targets, defs, a law's end. -/
namespace Ev
open PySem PySem.Spec L2
section
variable {X : Cx} {W : WX} {e : Expr} {f : SemR} {te : TE} {pos : Pos}
/-! ### name = a new list, a cell from now on -/
theorem ref_new {K : PySem.W.Frag} {w0 w : Wd} {H0 H : Hp} {m : Cells} {a : Addr} {xs : List D} {vs : List V} (E : Ext w0 H0 w H) (Wm : Wf K w H m) (ha : H a = some (.lst vs)) (hf : w.F a = none) (hi : a ∉ w.ι) (h0 : H0 a = none) (r : RDs K w xs vs) :
    Ext w0 H0 { w with ι := w.ι ++ [a] } H ∧ Wf K { w with ι := w.ι ++ [a] } H (m ++ [.lst xs]) ∧ WLe w { w with ι := w.ι ++ [a] } ∧ RD K { w with ι := w.ι ++ [a] } (.ref m.length) (V.ref a) := by
  have L : WLe w { w with ι := w.ι ++ [a] } := ⟨fun _ _ h => h, fun n b h => by
    show (w.ι ++ [a])[n]? = some b
    rw [List.getElem?_append_left (List.getElem?_eq_some_iff.mp h).1]
    exact h, rfl⟩
  have at_ : ∀ {n : Nat} {b : Addr}, (w.ι ++ [a])[n]? = some b → w.ι[n]? = some b ∨ (n = w.ι.length ∧ b = a) := fun {n b} h => by
    by_cases hn : n < w.ι.length
    · rw [List.getElem?_append_left hn] at h; exact .inl h
    · rw [List.getElem?_append_right (by omega)] at h
      have : n - w.ι.length = 0 := by
        have := (List.getElem?_eq_some_iff.mp h).1
        simp at this
        omega
      rw [this] at h
      simp at h
      exact .inr ⟨by omega, h.symm⟩
  refine ⟨⟨E.le.trans L, E.keep, E.newF, fun b hb => ?_, E.there⟩, ⟨Wm.sub, fun n b h => ?_, fun i j b h1 h2 => ?_, ?_, fun n c h => ?_, Wm.xi⟩, L, .ref ?_⟩
  · rcases List.mem_append.mp hb with q | q
    · exact E.newI b q
    · rw [List.mem_singleton.mp q]; exact .inr h0
  · rcases at_ h with q | ⟨_, rfl⟩
    · exact Wm.nof n b q
    · exact hf
  · rcases at_ h1 with q | ⟨q, rfl⟩ <;> rcases at_ h2 with q' | ⟨q', z⟩
    · exact Wm.inj i j b q q'
    · subst z; exact absurd (List.mem_of_getElem? q) hi
    · exact absurd (List.mem_of_getElem? q') hi
    · omega
  · show (w.ι ++ [a]).length = (m ++ [Cell.lst xs]).length
    rw [List.length_append, List.length_append, Wm.len]; rfl
  · by_cases hn : n < m.length
    · rw [List.getElem?_append_left hn] at h
      obtain ⟨b, k1, k2⟩ := Wm.cell n c h
      exact ⟨b, L.pre n b k1, k2.le L⟩
    · rw [List.getElem?_append_right (by omega)] at h
      have : n - m.length = 0 := by
        have := (List.getElem?_eq_some_iff.mp h).1
        simp at this
        omega
      rw [this] at h
      simp at h
      subst h
      refine ⟨a, ?_, vs, ha, r.le L⟩
      have : n = w.ι.length := by rw [Wm.len]; omega
      rw [this]
      show (w.ι ++ [a])[w.ι.length]? = some a
      simp
  · rw [← Wm.len]
    show (w.ι ++ [a])[w.ι.length]? = some a
    simp
theorem ss_ref (i : Nat) {x : Str} {pos' : Pos} (hN : X.N.Nodup) (h : SE X W e f te) (hi : X.N[i]? = some x := by rfl) (hx : Loc X.env.scope x := by first | exact Or.inl rfl | exact Or.inr rfl) (hs : swapsWith e (some (.Name x pos')) pos.line X.env = pure false := by rfl)
    (hf : X.fn x = true ∨ X.env.scope.names.lookup x = some .local := by first | exact .inl rfl | exact .inr rfl | assumption) : SSt X W (.Assign [.Name x pos'] e pos) (sRef i f) (tAsg te (gName i)) := by
  refine ⟨ps_set hN hi hx h.pe hs hf, fun w0 H0 w σ H env m D E Wm S q => ?_⟩
  refine h.rd w H0 σ H env m _ Wm S (WP.mono (WP.of_bind q) (fun rv m1 q w1 H1 v E1 W1 r1 => ?_) fun x m' z => PXs.of E z)
  split at q
  · rename_i xs
    obtain ⟨a, vs, rfl, h2, h3, h4, h5, h6⟩ := r1
    have E01 := E.trans E1
    obtain ⟨E2, W2, L2, r2⟩ := ref_new E01 W1 h2 h3 h4 (E.there a h5) h6
    obtain ⟨E3, _, _, _⟩ := ref_new E1 W1 h2 h3 h4 h5 h6
    exact q _ _ E2 (E1.le.trans L2) W2 _ (by rw [List.length_set]) ((S.ext E3).setD i r2)
  · exact q.elim

/-! ### name op= e -/
theorem ss_aug (i : Nat) {x : Str} {op : Operator} {g : D → D → Option RV} {r : R2} {pos' : Pos} (hN : X.N.Nodup) (ho : OpS X (inplaceOp op) g r) (h : SE X W e f te) (hi : X.N[i]? = some x := by rfl) (hx : Loc X.env.scope x := by first | exact Or.inl rfl | exact Or.inr rfl)
    (hf : X.fn x = true ∨ X.env.scope.names.lookup x = some .local := by first | exact .inl rfl | exact .inr rfl | assumption) : SSt X W (.AugAssign (.Name x pos') op e pos) (sAug g i f) (tAug i te r) := by
  refine ⟨ps_aug hN hi hx h.pe ho.op hf, fun w0 H0 w σ H env m D E Wm S q => ?_⟩
  unfold sAug at q
  split at q
  · rename_i y ey
    obtain ⟨v, k1, k2⟩ := S.dat i y ey
    refine ⟨v, k1, h.vl Wm S (WP.mono (WP.of_bind q) (fun z m1 q w1 H1 v1 E1 W1 r1 => ?_) fun x m' z => PXs.of E z)⟩
    split at q
    · rename_i z' eg
      exact ho.rd w1 H0 H1 m1 y z v v1 _ _ W1 (.inl (k2.le E1.le)) r1 eg fun w' H' v' E' W' rr => q w' H' ((E.trans E1).trans E') (E1.le.trans E'.le) W' _ (by rw [List.length_set]) ((S.ext (E1.trans E')).setD i rr)
    · exact q.elim
  · exact q.elim
theorem ops_iadd : OpS X (inplaceOp .Add) (fun x y => match x, y with | .int i, .int j => some (.d (.int (i + j))) | _, _ => none) (rI0 fun i j => .int (i + j)) := ops_ints0 iop_add
theorem ops_isub : OpS X (inplaceOp .Sub) (fun x y => match x, y with | .int i, .int j => some (.d (.int (i - j))) | _, _ => none) (rI0 fun i j => .int (i - j)) := ops_ints0 iop_sub

/-! ### a, b = x, y -/
theorem Slots.setR' {K : PySem.W.Frag} {w' : Wd} {H0 H' : Hp} {σ : St} {env : Env} {rv : RV} {v : V} {s : Slot} {H : Hp} (S : Slots K w' H0 σ H' env) (r : RR K H0 H w' H' rv v) (h0 : ∀ a, v = V.ref a → H a = none → H0 a = none) (i : Nat) (h : slotOf rv = some s)
    (key : ∀ a, v = V.ref a → H a = none → ∀ (j : Nat) ys, env[j]? = some (.own ys) → σ[j]? ≠ some (some (V.ref a))) : Slots K w' H0 (σ.set i (some v)) H' (env.set i s) := by
  cases rv with
  | pk xs => cases h
  | d x => cases h; exact S.setD i r
  | fl xs =>
    cases h
    obtain ⟨a, vs, rfl, h2, h3, h4, h5, h6⟩ := r
    have key := key a rfl h5
    have at_i : ∀ {j : Nat} {t : Slot}, (env.set i (.own xs))[j]? = some t → i = j → t = .own xs ∧ i < σ.length := fun {j t} e q => by
      subst q
      rw [List.getElem?_set_self'] at e
      cases hh : env[i]? with
      | none => rw [hh] at e; cases e
      | some u =>
        rw [hh] at e
        cases e
        exact ⟨rfl, by rw [← S.len]; exact (List.getElem?_eq_some_iff.mp hh).1⟩
    refine ⟨by rw [List.length_set, List.length_set]; exact S.len, fun j y e => ?_, fun j ys e => ?_, fun j k ys zs b e1 e2 s1 s2 => ?_⟩
    · by_cases q : i = j
      · exact nomatch (at_i e q).1
      · rw [List.getElem?_set_ne q] at e ⊢
        exact S.dat j y e
    · by_cases q : i = j
      · obtain ⟨z, hl⟩ := at_i e q
        cases z
        subst q
        exact ⟨a, vs, List.getElem?_set_self hl, h2, h3, h4, h0 a rfl h5, h6⟩
      · rw [List.getElem?_set_ne q] at e ⊢
        exact S.own j ys e
    · by_cases q1 : i = j
      · by_cases q2 : i = k
        · exact q1.symm.trans q2
        · rw [List.getElem?_set_ne q2] at e2 s2
          obtain ⟨z, hl⟩ := at_i e1 q1
          subst q1
          rw [List.getElem?_set_self hl] at s1
          cases s1
          exact absurd s2 (key k zs e2)
      · rw [List.getElem?_set_ne q1] at e1 s1
        by_cases q2 : i = k
        · obtain ⟨z, hl⟩ := at_i e2 q2
          subst q2
          rw [List.getElem?_set_self hl] at s2
          cases s2
          exact absurd s1 (key j ys e1)
        · rw [List.getElem?_set_ne q2] at e2 s2
          exact S.dis j k ys zs b e1 e2 s1 s2
theorem RR.ext {K : PySem.W.Frag} {H0 H H1 H2 : Hp} {w1 w2 : Wd} {rv : RV} {v : V} (h : RR K H0 H w1 H1 rv v) (E : Ext w1 H1 w2 H2) : RR K H0 H w2 H2 rv v := by
  cases rv with
  | d x => exact RD.le E.le h
  | fl xs =>
    obtain ⟨a, vs, h1, h2, h3, h4, h5, h6⟩ := h
    exact ⟨a, vs, h1, E.keep a _ h2 h4, E.noF h3 (by rw [h2]; exact fun z => nomatch z), E.noI h4 (by rw [h2]; exact fun z => nomatch z), h5, h6.le E.le⟩
  | pk xs =>
    obtain ⟨a, vs, h1, h2, h3, h4, h5, h6⟩ := h
    exact ⟨a, vs, h1, E.keep a _ h2 h4, E.noF h3 (by rw [h2]; exact fun z => nomatch z), E.noI h4 (by rw [h2]; exact fun z => nomatch z), h5, h6.le E.le⟩
/-- a new list's address as against the slots' lists -/
theorem fresh_key {K : PySem.W.Frag} {w : Wd} {H0 H : Hp} {σ : St} {env : Env} (S : Slots K w H0 σ H env) : ∀ a, H a = none → ∀ (j : Nat) ys, env[j]? = some (.own ys) → σ[j]? ≠ some (some (V.ref a)) := fun a ha j ys e q => by
  obtain ⟨b, us, g1, g2, _⟩ := S.own j ys e
  rw [q] at g1
  cases g1
  rw [ha] at g2; cases g2
variable {a b c : Expr} {fa fb fc : SemR} {ta tb tc : TE}
theorem ss_par2 (i j : Nat) {x y : Str} {px py pt : Pos} {kt k2 pt2} (hc : X.calm = true) (hN : X.N.Nodup) (ha : SE X W a fa ta) (hb : SE X W b fb tb) (hij : i ≠ j := by decide) (hi : X.N[i]? = some x := by rfl) (hj : X.N[j]? = some y := by rfl)
    (hx : X.env.scope.names.lookup x = some .local := by rfl) (hy : X.env.scope.names.lookup y = some .local := by rfl) (hw : swappedStores [.Tuple [.Name x px, .Name y py] kt pt] (.Tuple [a, b] k2 pt2) X.env = pure (some [x, y]) := by rfl)
    (hs1 : starEach (a :: [b]) X.env = (false, eval a X.env) :: starEach [b] X.env := by rfl) (hs2 : starEach (b :: []) X.env = (false, eval b X.env) :: starEach [] X.env := by rfl)
    (hs : swapsWithSole [.Tuple [.Name x px, .Name y py] kt pt] (.Tuple [a, b] k2 pt2) pos.line X.env = pure false := by rfl) :
    SSt X W (.Assign [.Tuple [.Name x px, .Name y py] kt pt] (.Tuple [a, b] k2 pt2) pos) (sPar2 i j fa fb) (tPar i j (tCons ta (tCons tb tNil))) := by
  refine ⟨ps_par hc hN hi hj hij hx hy (pa_cons ha.pe (pa_cons hb.pe pa_nil hs2) hs1) hw hs, fun w0 H0 w σ H env m D E Wm S q => ?_⟩
  refine ha.rd w H0 σ H env m _ Wm S (WP.mono (WP.of_bind q) (fun r1 m1 q w1 H1 v1 E1 W1 rr1 => ?_) fun x m' z => PXs.of E z)
  refine hb.rd w1 H0 σ H1 env m1 _ W1 (S.ext E1) (WP.mono (WP.of_bind q) (fun r2 m2 q w2 H2 v2 E2 W2 rr2 => ?_) fun x m' z => PXs.of (E.trans E1) z)
  refine ⟨v1, v2, rfl, ?_⟩
  split at q
  · rename_i s1 s2 e1 e2
    have E12 := E1.trans E2
    have S1 := (S.ext E12).setR' (rr1.ext E2) (fun a _ z => E.there a z) i e1 fun a _ z => fresh_key S a z
    refine q w2 H2 (E.trans E12) E12.le W2 _ (by rw [List.length_set, List.length_set]) (S1.setR' rr2 (fun a _ z => (E.trans E1).there a z) j e2 fun a hv z k ys ek => ?_)
    -- the second new list is none of the slots' ones, nor the first
    intro qk
    by_cases hik : i = k
    · subst hik
      have hl : i < σ.length := by
        have := (List.getElem?_eq_some_iff.mp qk).1
        rwa [List.length_set] at this
      rw [List.getElem?_set_self hl] at qk
      have hle : i < env.length := by rw [S.len]; exact hl
      rw [List.getElem?_set_self hle] at ek
      cases qk
      cases ek
      cases r1 with
      | fl us =>
        obtain ⟨a', vs', q1, q2, _⟩ := rr1
        cases q1
        rw [z] at q2; cases q2
      | d _ => cases e1
      | pk _ => cases e1
    · rw [List.getElem?_set_ne hik] at ek qk
      exact fresh_key (S.ext E1) a z k ys ek qk
  · exact q.elim
end

/-! ### the slot's list as data -/
theorem ss_frz {X : Cx} {W : WX} {st : Stmt} {f : SemS} {t : TS} (i : Nat) (h : SSt X W st f t) : SSt X W st (sFrz i f) t := by
  refine ⟨h.ps, fun w0 H0 w σ H env m D E Wm S q => ?_⟩
  unfold sFrz at q
  split at q
  · rename_i xs e
    obtain ⟨a, vs, h1, h2, h3, h4, h5, h6⟩ := S.own i xs e
    have hi : i < env.length := (List.getElem?_eq_some_iff.mp e).1
    have L : WLe w (w.add a (.lst vs)) := .add h3
    have r : RD X.K (w.add a (.lst vs)) (.lst xs) (V.ref a) := .lst (by show upd w.F a _ a = _; exact upd_same) (h6.le L)
    refine h.rd w0 H0 (w.add a (.lst vs)) σ H _ m D (E.add h3 h5) (Wm.add h3 h2 h4) ⟨by rw [List.length_set]; exact S.len, fun j y ej => ?_, fun j ys ej => ?_, fun j k ys zs b e1 e2 s1 s2 => ?_⟩ (WP.afterO L q)
    · by_cases hj : i = j
      · subst hj
        rw [List.getElem?_set_self hi] at ej
        cases ej
        exact ⟨_, h1, r⟩
      · rw [List.getElem?_set_ne hj] at ej
        obtain ⟨v, k1, k2⟩ := S.dat j y ej
        exact ⟨v, k1, k2.le L⟩
    · by_cases hj : i = j
      · subst hj
        rw [List.getElem?_set_self hi] at ej; cases ej
      · rw [List.getElem?_set_ne hj] at ej
        obtain ⟨b, us, k1, k2, k3, k4, k5, k6⟩ := S.own j ys ej
        have hb : b ≠ a := fun z => by
          subst z
          exact hj (S.dis i j xs ys b e ej h1 k1)
        exact ⟨b, us, k1, k2, by show upd w.F a _ b = none; rw [upd_ne hb]; exact k3, k4, k5, k6.le L⟩
    · have f : ∀ {j : Nat} {ys : List Ev.D}, (env.set i (.d (.lst xs)))[j]? = some (.own ys) → env[j]? = some (.own ys) := fun {j ys} q => by
        by_cases hj : i = j
        · subst hj; rw [List.getElem?_set_self hi] at q; cases q
        · rw [List.getElem?_set_ne hj] at q; exact q
      exact S.dis j k ys zs b (f e1) (f e2) s1 s2
  · exact h.rd w0 H0 w σ H env m D E Wm S q

/-! ### a def -/
def fnRun (n N : Nat) (b : SemS) : Fn := fun ds m => if ds.length = n then (b (ds.map Slot.d ++ List.replicate (N - n) .un) m).bind fun o m1 => match o with
  | .rt rv => .ok (unpk rv) m1
  | .nx _ => .ok (.d .non) m1
  | _ => .bot
  else .bot
theorem unpk_idem (rv : RV) : unpk (unpk rv) = unpk rv := by cases rv <;> rfl
theorem slots_start {K : PySem.W.Frag} {w : Wd} {H : Hp} {N : List Str} {ds : List D} {vs : List V} {n : Nat} (r : RDs K w ds vs) (hn : ds.length = n) (hN : n ≤ N.length) : Slots K w H (L2.start N vs) H (ds.map Slot.d ++ List.replicate (N.length - n) .un) := by
  have hl := r.length
  have key : ∀ (i : Nat) (s : Slot), (ds.map Slot.d ++ List.replicate (N.length - n) .un)[i]? = some s → (∃ x, s = .d x ∧ ds[i]? = some x) ∨ s = .un := fun i s e => by
    by_cases h : i < ds.length
    · rw [List.getElem?_append_left (by simpa using h), List.getElem?_map, List.getElem?_eq_getElem h] at e
      cases e
      exact .inl ⟨_, rfl, by simp [h]⟩
    · rw [List.getElem?_append_right (by simpa using h)] at e
      exact .inr (List.eq_of_mem_replicate (List.mem_of_getElem? e))
  refine ⟨by unfold L2.start; simp; omega, fun i x e => ?_, fun i xs e => ?_, fun i j xs ys a e1 e2 _ _ => ?_⟩
  · rcases key i _ e with ⟨y, hy, hd⟩ | hy
    · cases hy
      obtain ⟨v, h1, h2⟩ := r.get hd
      refine ⟨v, ?_, h2⟩
      unfold L2.start
      rw [List.getElem?_append_left (by simpa using (List.getElem?_eq_some_iff.mp h1).1), List.getElem?_map, h1]
      rfl
    · cases hy
  · rcases key i _ e with ⟨y, hy, _⟩ | hy <;> cases hy
  · rcases key i _ e1 with ⟨y, hy, _⟩ | hy <;> cases hy
theorem FnS.of {P : Program} {w : World} {K : PySem.W.Frag} {mg : Str → Option Value} {base : Heap} {x : Str} {st : Stmt} {a : Addr} {fd : FuncData} {N ps : List Str} {k n m : Nat} {b : SemS} (F : Fun K x x st a fd) (S : FnScope N ps (defScope st)) (hm : mg x = some (.ref a)) (hb : Binds K fd ps []) (hn : ps.length = n) (hN : N.length = m) (hl : n ≤ m)
    (body : ∀ (cdv : Value) (A : Around) (outer : List PySem.Env) (s : Shared) (H : Hp) (E : XK), Room k (A.deeper (PyProof.Rows.envOfC x (defScope st) s.heap.objs.size a cdv)) →
      ∃ t, SSs (cxOf (L2.CX P w) P w K mg base N x (defScope st) a cdv A outer s H E) (fun cls d _ H => E cls d H) (defBody st) b t) : FnS P w K mg base (k + 1) x ps a fd (fnRun n m b) := by
  subst hn hN
  refine ⟨hm, F.kp, hb, F.okX S (fun vs H Q E h => ?_) (fun cdv A outer s H vs Q E hr h => ?_)⟩
  · obtain ⟨_, _, _, _, _, h, _⟩ := h
    exact h
  · obtain ⟨w1, m1, ds, W1, r1, hl1, q⟩ := h
    obtain ⟨t, ht⟩ := body cdv A outer s H E hr
    refine ⟨t, ht.ps, ?_⟩
    unfold fnRun at q
    have hds : ds.length = ps.length := r1.length.trans hl1
    rw [if_pos hds] at q
    refine ht.rd w1 H w1 (L2.start N vs) H _ m1 _ (.refl _ _) W1 (slots_start r1 hds hl) (WP.mono (WP.of_bind q) (fun o m2 q w2 H2 E2 L2 W2 => ?_) fun x m' z c d w' H' σ' _ E' W' rx => z c d w' H' E' W' rx)
    cases o with
    | rt rv =>
      intro v rr
      refine q w2 H2 v E2 W2 ?_
      cases rv with
      | d y => exact rr
      | fl ys => exact rr
      | pk ys => exact rr
    | nx env' => exact fun σ' _ S' => q w2 H2 _ E2 W2 .non
    | bk env' => exact q.elim
    | ct env' => exact q.elim

/-! ### the law's end -/
/-- what the law's call answers -/
def Law (f : Fn) : Prop := ∀ ns : List Int, ns.length ≤ 63 → ∃ m', f [.scr (ns.map D.int)] [] = .ok (.d (.bl true)) m'
theorem law_sp {K : PySem.W.Frag} {f : Fn} (h : Law f) {H : Hp} {a : Addr} {ns : List Int} (hl : ns.length ≤ 63) (hS : SqL K H a (ns.map V.int)) : spF K 1 f [V.ref a] H (fun v _ => v = V.bl true) (fun _ _ _ => False) := by
  refine ⟨⟨H, [], fun _ => none⟩, [], [.scr (ns.map D.int)], ⟨fun _ _ h => h, fun _ _ h => by simp at h, fun _ _ _ h => by simp at h, rfl, fun _ _ h => by simp at h, fun _ _ h => nomatch h⟩, .cons (.scr hS (.of_ints ns)) .nil, rfl, ?_⟩
  obtain ⟨m', e⟩ := h ns hl
  rw [e]
  intro w' H' v _ _ rr
  cases rr with
  | bl => rfl
theorem walkE {l : PySem.W.OpenLaw} {k : Nat} {q : Program} {loose : List Str} {XP : (Str → Option Value) → Heap → Prop} {YP : World → Heap → Prop} {d : DefRec} {K : Params → PySem.W.Frag} {x : Str} {f : Fn}
    (hn : l.most = some 63) (hdf : d.params.defaults = []) (hr : Room k callerA) (hY : ∀ (w : World) (h : Heap), YP w h → (K w.params).In h) (hlaw : Law f)
    (F : ∀ (w : World) (mg : Str → Option Value) (fa : Addr) (h : Heap), (K w.params).In h → h.Ns mainGlobals mg → mg d.name = some (.ref fa) →
      ∃ fd : FuncData, (∀ (s : Shared) (u : Value), BindsTo s fd ⟨[u], []⟩ [(x, u)]) ∧ ∀ base : Heap, (K w.params).In base → base.Ns mainGlobals mg → FnS l.prog w (K w.params) mg base k d.name [x] fa fd f) :
    PySem.W.WalkO q loose XP YP l.row.toRowW d [] (fun f vs => PySem.call f vs) :=
  L2.walk_of (n := 63) (k := k) (x := x) (CX := fun w => L2.CX l.prog w) (sp := fun w => spF (K w.params) 1 f) hn (by decide) hdf hr hY (fun w mg fa h KX G hmg => by
    obtain ⟨fd, h1, h2⟩ := F w mg fa h KX G hmg
    exact ⟨fd, h1, fun base b1 b2 => (h2 base b1 b2).ok⟩) (fun w H a ns hl _ hS => law_sp hlaw hl hS) fun w H s e s' z => by
      obtain ⟨_, _, _, _, _, _, _, _, _, _, _, _, z⟩ := z
      exact z
end Ev
/-! Ev, part L: defs by the head's facts, constants, a[::-1]. -/
namespace Ev
open PySem PySem.Spec L2
theorem FnS.ofD {P : Program} {w : World} {K : PySem.W.Frag} {mg : Str → Option Value} {base : Heap} {x : Str} {params : Arguments} {body : List Stmt} {scope : Scope} {a : Addr} {fd : FuncData} {N ps : List Str} {k n m : Nat} {b : SemS} (F : FunD K x x params body scope [] [] a fd) (S : FnScope N ps scope) (hm : mg x = some (.ref a)) (hb : Binds K fd ps []) (hn : ps.length = n) (hN : N.length = m) (hl : n ≤ m)
    (hbody : ∀ (cdv : Value) (A : Around) (outer : List PySem.Env) (s : Shared) (H : Hp) (E : XK), Room k (A.deeper (PyProof.Rows.envOfC x scope s.heap.objs.size a cdv)) →
      Takes (cxOf (L2.CX P w) P w K mg base N x scope a cdv A outer s H E) (fun cls d _ H => E cls d H) → PassesOwn (model P w) (cxOf (L2.CX P w) P w K mg base N x scope a cdv A outer s H E).A (cxOf (L2.CX P w) P w K mg base N x scope a cdv A outer s H E).env (cxOf (L2.CX P w) P w K mg base N x scope a cdv A outer s H E).xe →
      ∃ t, SSs (cxOf (L2.CX P w) P w K mg base N x scope a cdv A outer s H E) (fun cls d _ H => E cls d H) body b t) : FnS P w K mg base (k + 1) x ps a fd (fnRun n m b) := by
  subst hn hN
  refine ⟨hm, F.kp, hb, F.ok (CX := L2.CX P w) S (fun vs H Q E h => ?_) (fun cdv A outer s H vs Q E hr h => ?_)⟩
  · obtain ⟨_, _, _, _, _, h, _⟩ := h
    exact h
  · obtain ⟨w1, m1, ds, W1, r1, hl1, q⟩ := h
    obtain ⟨t, ht⟩ := hbody cdv A outer s H E hr (takes_of rfl rfl rfl rfl) (passes_of (K := fun e s'' => L2.CX P w outer H s E e s'') rfl)
    refine ⟨t, ht.ps, ?_⟩
    unfold fnRun at q
    have hds : ds.length = ps.length := r1.length.trans hl1
    rw [if_pos hds] at q
    refine ht.rd w1 H w1 (L2.start N vs) H _ m1 _ (.refl _ _) W1 (slots_start r1 hds hl) (WP.mono (WP.of_bind q) (fun o m2 q w2 H2 E2 L2 W2 => ?_) fun x m' z c d w' H' σ' _ E' W' rx => z c d w' H' E' W' rx)
    cases o with
    | rt rv =>
      intro v rr
      refine q w2 H2 v E2 W2 ?_
      cases rv with
      | d y => exact rr
      | fl ys => exact rr
      | pk ys => exact rr
    | nx env' => exact fun σ' _ S' => q w2 H2 _ E2 W2 .non
    | bk env' => exact q.elim
    | ct env' => exact q.elim
section
variable {X : Cx} {W : WX}
theorem se_globI {x : Str} {i : Int} {pos : Pos} (h : ∃ t, X.mg x = some (.int i t)) (hg : Gl X x := by rfl) (hd : (x == ("__debug__" : Str)) = false := by decide) : SE X W (.Name x pos) (rC (.int i)) (tC (.int i)) := by
  obtain ⟨t, h⟩ := h
  exact se_const (pe_glob hg h ⟨t, rfl⟩ hd) fun _ => .int i
theorem se_globS {x z : Str} {pos : Pos} (h : ∃ t, X.mg x = some (.str z t)) (hg : Gl X x := by rfl) (hd : (x == ("__debug__" : Str)) = false := by decide) : SE X W (.Name x pos) (rC (.str z)) (tC (.str z)) := by
  obtain ⟨t, h⟩ := h
  exact se_const (pe_glob hg h ⟨t, rfl⟩ hd) fun _ => .str z
theorem se_rev {e : Expr} {f : SemR} {te : TE} {k : Nat} {p1 p2 p3 pos : Pos} (h : SE X W e f te) : SE X W (.Subscript e (.Slice none none (some (.UnaryOp .USub (.Constant (.int 1) k p1) p2)) p3) pos) (rRev f) (tRevL X.K te) := by
  refine ⟨pe_revL h.pe, fun w H0 σ H env m Q Wm S q => ?_⟩
  refine h.vl Wm S (WP.mono (WP.of_bind q) (fun x m1 q w1 H1 v1 E1 W1 r1 => ?_) fun _ _ z => z)
  cases x with
  | lst xs =>
    obtain ⟨a, vs, rfl, h1, h2⟩ := r1.lst W1
    exact ⟨a, vs, rfl, .inl (.inl h1), fun p hp => new_lst W1 hp h2.reverse fun w' H' v E' W' rr => q w' H' v (E1.trans E') W' (rr.after E1)⟩
  | _ => exact q.elim
end
theorem walkX {l : PySem.W.OpenLaw} {k : Nat} {q : Program} {loose : List Str} {XP : (Str → Option Value) → Heap → Prop} {YP : World → Heap → Prop} {d : DefRec} {x : Str} {f : Fn}
    (hn : l.most = some 63) (hdf : d.params.defaults = []) (hr : Room k callerA) (hlaw : Law f)
    (F : ∀ (w : World) (mg : Str → Option Value) (fa : Addr) (h : Heap), YP w h → h.Ns mainGlobals mg → mg d.name = some (.ref fa) →
      ∃ (K : PySem.W.Frag) (fd : FuncData), K.In h ∧ (∀ (s : Shared) (u : Value), BindsTo s fd ⟨[u], []⟩ [(x, u)]) ∧
        ∀ base : Heap, K.In base → base.Ns mainGlobals mg → FnOk l.prog w K mg base (L2.CX l.prog w) k fa fd [x] (spF K 1 f)) :
    PySem.W.WalkO q loose XP YP l.row.toRowW d [] (fun f vs => PySem.call f vs) := by
  refine Att.attach_call hn hdf fun w s₀ s₁ mg mb fa o pm cd doc a vs ns G Y ho hd hcd hmg hobj hints hlen hg => ?_
  obtain ⟨K, fd, KX, hb, hF⟩ := F w mg fa _ Y G.T.g hmg
  exact law_call KX G.T.g G.T.b G.T.builtins G.T.nolimit hg hobj hints (Nat.le_trans hlen (by decide)) hr hF hb (fun H hO hS => law_sp hlaw hlen hS) fun H e s' z => by
    obtain ⟨_, _, _, _, _, _, _, _, _, _, _, _, z⟩ := z
    exact z
end Ev
/-! Ev, part M: a, b, c = x, y, z; op= by name. -/
namespace Ev
open PySem PySem.Spec L2
section
variable {X : Cx} {W : WX} {pos : Pos} {a b c : Expr} {fa fb fc : SemR} {ta tb tc : TE}
/-- an address that is in no slot's own list, nor in the one just set -/
theorem key_set {K : PySem.W.Frag} {w1 : Wd} {Hx H1 : Hp} {σ : St} {env : Env} {r1 : RV} {v1 : V} {s1 : Slot} {i : Nat} {ad : Addr} (hl : env.length = σ.length) (rr : RR K Hx Hx w1 H1 r1 v1 ∨ ∃ Hy, RR K Hx Hy w1 H1 r1 v1) (e1 : slotOf r1 = some s1) (z : H1 ad = none) (key : ∀ (j : Nat) ys, env[j]? = some (.own ys) → σ[j]? ≠ some (some (V.ref ad))) :
    ∀ (j : Nat) ys, (env.set i s1)[j]? = some (.own ys) → (σ.set i (some v1))[j]? ≠ some (some (V.ref ad)) := by
  intro k ys ek qk
  by_cases hik : i = k
  · subst hik
    have hl' : i < σ.length := by
      have := (List.getElem?_eq_some_iff.mp qk).1
      rwa [List.length_set] at this
    rw [List.getElem?_set_self hl'] at qk
    have hle : i < env.length := by rw [hl]; exact hl'
    rw [List.getElem?_set_self hle] at ek
    cases qk
    cases ek
    cases r1 with
    | fl us =>
      rcases rr with rr | ⟨Hy, rr⟩ <;>
      · obtain ⟨a', vs', q1, q2, _⟩ := rr
        cases q1
        rw [z] at q2; cases q2
    | d _ => cases e1
    | pk _ => cases e1
  · rw [List.getElem?_set_ne hik] at ek qk
    exact key k ys ek qk
theorem ss_par3 (i j l : Nat) {x y z : Str} {px py pz pt : Pos} {kt k2 pt2} (hc : X.calm = true) (hN : X.N.Nodup) (ha : SE X W a fa ta) (hb : SE X W b fb tb) (hcc : SE X W c fc tc) (hij : i ≠ j := by decide) (hil : i ≠ l := by decide) (hjl : j ≠ l := by decide) (hi : X.N[i]? = some x := by rfl) (hj : X.N[j]? = some y := by rfl) (hl : X.N[l]? = some z := by rfl)
    (hx : X.env.scope.names.lookup x = some .local := by rfl) (hy : X.env.scope.names.lookup y = some .local := by rfl) (hz : X.env.scope.names.lookup z = some .local := by rfl)
    (hw : swappedStores [.Tuple [.Name x px, .Name y py, .Name z pz] kt pt] (.Tuple [a, b, c] k2 pt2) X.env = pure (some [x, y, z]) := by rfl)
    (hs1 : starEach (a :: [b, c]) X.env = (false, eval a X.env) :: starEach [b, c] X.env := by rfl) (hs2 : starEach (b :: [c]) X.env = (false, eval b X.env) :: starEach [c] X.env := by rfl) (hs3 : starEach (c :: []) X.env = (false, eval c X.env) :: starEach [] X.env := by rfl)
    (hs : swapsWithSole [.Tuple [.Name x px, .Name y py, .Name z pz] kt pt] (.Tuple [a, b, c] k2 pt2) pos.line X.env = pure false := by rfl) :
    SSt X W (.Assign [.Tuple [.Name x px, .Name y py, .Name z pz] kt pt] (.Tuple [a, b, c] k2 pt2) pos) (sPar3 i j l fa fb fc) (tPar3 i j l (tCons ta (tCons tb (tCons tc tNil)))) := by
  refine ⟨ps_par3 hc hN hi hj hl hij hil hjl hx hy hz (pa_cons ha.pe (pa_cons hb.pe (pa_cons hcc.pe pa_nil hs3) hs2) hs1) hw hs, fun w0 H0 w σ H env m D E Wm S q => ?_⟩
  refine ha.rd w H0 σ H env m _ Wm S (WP.mono (WP.of_bind q) (fun r1 m1 q w1 H1 v1 E1 W1 rr1 => ?_) fun x m' z => PXs.of E z)
  refine hb.rd w1 H0 σ H1 env m1 _ W1 (S.ext E1) (WP.mono (WP.of_bind q) (fun r2 m2 q w2 H2 v2 E2 W2 rr2 => ?_) fun x m' z => PXs.of (E.trans E1) z)
  have E12 := E1.trans E2
  refine hcc.rd w2 H0 σ H2 env m2 _ W2 (S.ext E12) (WP.mono (WP.of_bind q) (fun r3 m3 q w3 H3 v3 E3 W3 rr3 => ?_) fun x m' z => PXs.of (E.trans E12) z)
  refine ⟨v1, v2, v3, rfl, ?_⟩
  split at q
  · rename_i s1 s2 s3 e1 e2 e3
    have E123 := E12.trans E3
    have S1 := (S.ext E123).setR' ((rr1.ext E2).ext E3) (fun a _ z => E.there a z) i e1 fun a _ z => fresh_key S a z
    have S2 := S1.setR' (rr2.ext E3) (fun a _ z => (E.trans E1).there a z) j e2 fun a hv z => key_set S.len (.inr ⟨_, rr1⟩) e1 z (fresh_key (S.ext E1) a z)
    have S3 := S2.setR' rr3 (fun a _ z => (E.trans E12).there a z) l e3 fun a hv z => key_set (by rw [List.length_set, List.length_set]; exact S.len) (.inr ⟨_, rr2⟩) e2 z (key_set S.len (.inr ⟨_, rr1.ext E2⟩) e1 z (fresh_key (S.ext E12) a z))
    exact q w3 H3 (E.trans E123) E123.le W3 _ (by rw [List.length_set, List.length_set, List.length_set]) S3
  · exact q.elim
end
theorem tkNo {X : Cx} : Takes X W0 := fun u s' ⟨_, _, _, _, _, _, _, _, _, _, _, _, _, _, _, _, w⟩ => w.elim
theorem se_call' {X : Cx} {W : WX} {e : Expr} {es : List Expr} {as : SemDs} {t : TA} {x : Str} {ps : List Str} {f : Fn} {k n : Nat} {p pos : Pos} {a : Addr} {fd : FuncData} (F : FnS X.prog X.w X.K X.mg X.base k x ps a fd f) (tk : Takes X W) (hr : Room k X.A) (h : SAt X W (e :: es) as t) (hn : n = ps.length := by rfl) (hg : Gl X x := by rfl) (hdb : (x == ("__debug__" : Str)) = false := by decide)
    (he : starEach (e :: es) X.env = (false, eval e X.env) :: starEach es X.env := by rfl) (hpl : (backTo pos (starEach es X.env)).any (·.1) = false := by rfl) : SE X W (.Call (.Name x p) (e :: es) [] pos) (rCall n f as) (tCallS (spF X.K ps.length f) (WE W) t) := se_call F tk hr n h hn hg hdb he hpl
/-- a comprehension; each part twice, so that its term is known before it is looked at everywhere -/
theorem se_lc' {X : Cx} {W : WX} {elt tg iter : Expr} {ifs : List Expr} {scope : Scope} {own : List (Str × Nat)} {pos : Pos} {is : List Nat} {wi : TI} {g : TG} {tt : TT} {te : TE} {it : SemDs} {gs : SemG} {cond : SemB} {fe : SemR} (hc : X.calm = true) (hN : X.N.Nodup) (hi : SIt X W tg iter it wi) (ok : BlkOk X.N X.env.scope scope own)
    (hg : ∀ (s : Shared) (H : Hp) (C : Addr) (cl : List (Str × Addr)) (fp : List Addr), SGt (X.blk s H scope (compEnvC scope cl C X.env) fp) tg gs is g)
    (ht0 : SPt (X.blk X.s_0 (fun _ => none) scope (compEnvC scope [] 0 X.env) []) W0 ifs cond tt) (ht : ∀ (s : Shared) (H : Hp) (C : Addr) (cl : List (Str × Addr)) (fp : List Addr), SPt (X.blk s H scope (compEnvC scope cl C X.env) fp) W0 ifs cond tt)
    (he0 : SE (X.blk X.s_0 (fun _ => none) scope (compEnvC scope [] 0 X.env) []) W0 elt fe te) (he : ∀ (s : Shared) (H : Hp) (C : Addr) (cl : List (Str × Addr)) (fp : List Addr), SE (X.blk s H scope (compEnvC scope cl C X.env) fp) W0 elt fe te) (hvs : ∀ i ∈ is, i ∈ own.map (·.2) := by decide) (hs : ∀ x, foldedSetIterable iter X.env x = pure x := by intro _; rfl) :
    SE X W (.ListComp elt [⟨tg, iter, ifs, 0⟩] scope pos) (rComp it gs cond fe (own.map (·.2))) (tLc wi g tt te (own.map (·.2))) := se_lc hc hN hi ok hg ht he hvs hs
theorem ss_setC' {X : Cx} {W : WX} (i : Nat) {y : Str} {py : Pos} {elt tg iter : Expr} {ifs : List Expr} {scope : Scope} {own : List (Str × Nat)} {pos spos : Pos} {is : List Nat} {wi : TI} {g : TG} {tt : TT} {te : TE} {it : SemDs} {gs : SemG} {cond : SemB} {fe : SemR} (hc : X.calm = true) (hN : X.N.Nodup)
    (hi : SIt X W tg iter it wi) (ok : BlkOk X.N X.env.scope scope own)
    (hg : ∀ (s : Shared) (H : Hp) (C : Addr) (cl : List (Str × Addr)) (fp : List Addr), SGt (X.blk s H scope (compEnvC scope cl C X.env) fp) tg gs is g)
    (ht0 : SPt (X.blk X.s_0 (fun _ => none) scope (compEnvC scope [] 0 X.env) []) W0 ifs cond tt) (ht : ∀ (s : Shared) (H : Hp) (C : Addr) (cl : List (Str × Addr)) (fp : List Addr), SPt (X.blk s H scope (compEnvC scope cl C X.env) fp) W0 ifs cond tt)
    (he0 : SE (X.blk X.s_0 (fun _ => none) scope (compEnvC scope [] 0 X.env) []) W0 elt fe te) (he : ∀ (s : Shared) (H : Hp) (C : Addr) (cl : List (Str × Addr)) (fp : List Addr), SE (X.blk s H scope (compEnvC scope cl C X.env) fp) W0 elt fe te) (hy : X.N[i]? = some y := by rfl) (hyl : X.env.scope.names.lookup y = some .local := by rfl)
    (hsw : swapsWith (.ListComp elt [⟨tg, iter, ifs, 0⟩] scope pos) (some (.Name y py)) spos.line X.env = pure true := by exact sw_true rfl rfl rfl (by decide +kernel)) (hvs : ∀ i ∈ is, i ∈ own.map (·.2) := by decide) (hs : ∀ x, foldedSetIterable iter X.env x = pure x := by intro _; rfl) :
    SSt X W (.Assign [.Name y py] (.ListComp elt [⟨tg, iter, ifs, 0⟩] scope pos) spos) (sSet i (rComp it gs cond fe (own.map (·.2)))) (tAsg (tLc wi g tt te (own.map (·.2))) (gName i)) := ss_setC i hc hN hi ok hg ht he hy hyl hsw hvs hs
def gAugAdd : D → D → Option RV := fun x y => match x, y with | .int i, .int j => some (.d (.int (i + j))) | _, _ => none
def gAugSub : D → D → Option RV := fun x y => match x, y with | .int i, .int j => some (.d (.int (i - j))) | _, _ => none
theorem opsAugAdd {X : Cx} : OpS X (inplaceOp .Add) gAugAdd (rI0 fun i j => .int (i + j)) := ops_ints0 iop_add
theorem opsAugSub {X : Cx} : OpS X (inplaceOp .Sub) gAugSub (rI0 fun i j => .int (i - j)) := ops_ints0 iop_sub
end Ev
/-! Ev, part S: the semantics, read by simp. -/
namespace Ev
open PySem PySem.Spec L2
section
variable {α β : Type} {env : Env} {m : Cells}
/-- a rule that simp writes into the proof -/
theorem nr {γ : Type} {a b : γ} (h : a = b) : a = b := h
@[simp] theorem ev_LN : LN = 1000000 := nr rfl
@[simp] theorem ev_frz1 (x : D) : RV.frz (.d x) = some x := nr rfl
@[simp] theorem ev_frz2 (xs : List D) : RV.frz (.fl xs) = some (.lst xs) := nr rfl
@[simp] theorem ev_val1 (x : D) : RV.val (.d x) = x := nr rfl
@[simp] theorem ev_val2 (xs : List D) : RV.val (.fl xs) = .lst xs := nr rfl
@[simp] theorem ev_val3 (xs : List D) : RV.val (.pk xs) = .lst xs := nr rfl
@[simp] theorem ev_unpk1 (x : D) : unpk (.d x) = .d x := nr rfl
@[simp] theorem ev_unpk2 (xs : List D) : unpk (.fl xs) = .fl xs := nr rfl
@[simp] theorem ev_unpk3 (xs : List D) : unpk (.pk xs) = .fl xs := nr rfl
@[simp] theorem ev_slot1 (x : D) : slotOf (.d x) = some (.d x) := nr rfl
@[simp] theorem ev_slot2 (xs : List D) : slotOf (.fl xs) = some (.own xs) := nr rfl
@[simp] theorem ev_tr1 : truth .non = some false := nr rfl
@[simp] theorem ev_tr2 (b : Bool) : truth (.bl b) = some b := nr rfl
@[simp] theorem ev_tr3 (i : Int) : truth (.int i) = some (!decide (i = 0)) := nr rfl
@[simp] theorem ev_tr4 (xs : List D) : truth (.tup xs) = some (!xs.isEmpty) := nr rfl
@[simp] theorem ev_tr5 (xs : List D) : truth (.lst xs) = some (!xs.isEmpty) := nr rfl
@[simp] theorem ev_tr6 (xs : List D) : truth (.scr xs) = some (!xs.isEmpty) := nr rfl
/-- what is left to do behind a part, each by its own name: simp walks into no function -/
def kVar (s : Option Slot) (m : Cells) : Res RV := match s with | some (.d x) => .ok (.d x) m | some (.own xs) => .ok (.pk xs) m | _ => .bot
@[simp] theorem kVar1 (x : D) : kVar (some (.d x)) m = .ok (.d x) m := nr rfl
@[simp] theorem kVar2 (x : List D) : kVar (some (.own x)) m = .ok (.pk x) m := nr rfl
@[simp] theorem ev_rVar (i : Nat) : rVar i env m = kVar env[i]? m := nr rfl
@[simp] theorem ev_rC (x : D) : rC x env m = .ok (.d x) m := nr rfl
def kfz (r : Res RV) : Res D := r.bind fun rv m' => match rv.frz with | some x => .ok x m' | none => .bot
@[simp] theorem kfz1 (x : D) : kfz (.ok (.d x) m) = .ok x m := nr rfl
@[simp] theorem kfz2 (x : List D) : kfz (.ok (.fl x) m) = .ok (.lst x) m := nr rfl
@[simp] theorem kfz3 (x : List D) : kfz (.ok (.pk x) m) = .bot := nr rfl
@[simp] theorem ev_fz (f : SemR) : fz f env m = kfz (f env m) := nr rfl
def kvl (r : Res RV) : Res D := r.bind fun rv m' => .ok rv.val m'
@[simp] theorem kvl1 (x : RV) : kvl (.ok x m) = .ok x.val m := nr rfl
@[simp] theorem ev_vl (f : SemR) : vl f env m = kvl (f env m) := nr rfl
def kO (o : Option RV) (m : Cells) : Res RV := match o with | some rv => .ok rv m | none => .bot
@[simp] theorem kO1 (x : RV) : kO (some x) m = .ok x m := nr rfl
def kOd (o : Option D) (m : Cells) : Res RV := match o with | some x => .ok (.d x) m | none => .bot
@[simp] theorem kOd1 (x : D) : kOd (some x) m = .ok (.d x) m := nr rfl
def kBin2 (g : D → D → Option RV) (x : D) (r : Res D) : Res RV := r.bind fun y m => kO (g x y) m
@[simp] theorem kBin2_1 (g : D → D → Option RV) (x y : D) : kBin2 g x (.ok y m) = kO (g x y) m := nr rfl
def kBin (g : D → D → Option RV) (b : SemR) (env : Env) (r : Res D) : Res RV := r.bind fun x m => kBin2 g x (vl b env m)
@[simp] theorem kBin_1 (g : D → D → Option RV) (b : SemR) (x : D) : kBin g b env (.ok x m) = kBin2 g x (vl b env m) := nr rfl
@[simp] theorem ev_rBin (g : D → D → Option RV) (a b : SemR) : rBin g a b env m = kBin g b env (vl a env m) := nr rfl
def kIx2 (x : D) (r : Res D) : Res RV := r.bind fun k m => kOd (itemAt x k m) m
@[simp] theorem kIx2_1 (x k : D) : kIx2 x (.ok k m) = kOd (itemAt x k m) m := nr rfl
def kIx (b : SemR) (env : Env) (r : Res D) : Res RV := r.bind fun x m => kIx2 x (vl b env m)
@[simp] theorem kIx_1 (b : SemR) (x : D) : kIx b env (.ok x m) = kIx2 x (vl b env m) := nr rfl
@[simp] theorem ev_rIx (a b : SemR) : rIx a b env m = kIx b env (vl a env m) := nr rfl
@[simp] theorem ev_oNo : oNo env m = .ok none m := nr rfl
def kSome (r : Res D) : Res (Option Int) := r.bind fun x m1 => match x with | .int i => .ok (some i) m1 | _ => .bot
@[simp] theorem kSome1 (i : Int) : kSome (.ok (.int i) m) = .ok (some i) m := nr rfl
@[simp] theorem ev_oSome (f : SemR) : oSome f env m = kSome (vl f env m) := nr rfl
def kSl3 (x : D) (l : Option Int) (r : Res (Option Int)) : Res RV := r.bind fun h m3 => match x with | .lst xs => .ok (.fl (cutD xs l h)) m3 | .tup xs => .ok (.d (.tup (cutD xs l h))) m3 | _ => .bot
@[simp] theorem kSl3_1 (xs : List D) (l h : Option Int) : kSl3 (.lst xs) l (.ok h m) = .ok (.fl (cutD xs l h)) m := nr rfl
@[simp] theorem kSl3_2 (xs : List D) (l h : Option Int) : kSl3 (.tup xs) l (.ok h m) = .ok (.d (.tup (cutD xs l h))) m := nr rfl
def kSl2 (x : D) (hi : SemO) (env : Env) (r : Res (Option Int)) : Res RV := r.bind fun l m => kSl3 x l (hi env m)
@[simp] theorem kSl2_1 (x : D) (hi : SemO) (l : Option Int) : kSl2 x hi env (.ok l m) = kSl3 x l (hi env m) := nr rfl
def kSl (lo hi : SemO) (env : Env) (r : Res D) : Res RV := r.bind fun x m => kSl2 x hi env (lo env m)
@[simp] theorem kSl_1 (x : D) (lo hi : SemO) : kSl lo hi env (.ok x m) = kSl2 x hi env (lo env m) := nr rfl
@[simp] theorem ev_rSlice (a : SemR) (lo hi : SemO) : rSlice a lo hi env m = kSl lo hi env (vl a env m) := nr rfl
def kRev (r : Res D) : Res RV := r.bind fun x m1 => match x with | .lst xs => .ok (.fl xs.reverse) m1 | _ => .bot
@[simp] theorem kRev1 (xs : List D) : kRev (.ok (.lst xs) m) = .ok (.fl xs.reverse) m := nr rfl
@[simp] theorem ev_rRev (a : SemR) : rRev a env m = kRev (vl a env m) := nr rfl
@[simp] theorem ev_aNil : aNil env m = .ok [] m := nr rfl
def kCons2 (x : D) (r : Res (List D)) : Res (List D) := r.bind fun xs m => .ok (x :: xs) m
@[simp] theorem kCons2_1 (x : D) (xs : List D) : kCons2 x (.ok xs m) = .ok (x :: xs) m := nr rfl
def kCons (g : SemDs) (env : Env) (r : Res D) : Res (List D) := r.bind fun x m => kCons2 x (g env m)
@[simp] theorem kCons_1 (g : SemDs) (x : D) : kCons g env (.ok x m) = kCons2 x (g env m) := nr rfl
@[simp] theorem ev_aCons (f : SemR) (g : SemDs) : aCons f g env m = kCons g env (fz f env m) := nr rfl
@[simp] theorem ev_pCons (f : SemR) (g : SemDs) : pCons f g env m = kCons g env (vl f env m) := nr rfl
def kTup (r : Res (List D)) : Res RV := r.bind fun xs m1 => if xs.length ≤ LN then .ok (.d (.tup xs)) m1 else .bot
@[simp] theorem kTup1 (xs : List D) : kTup (.ok xs m) = if xs.length ≤ LN then .ok (.d (.tup xs)) m else .bot := nr rfl
@[simp] theorem ev_rTup (g : SemDs) : rTup g env m = kTup (g env m) := nr rfl
def kLst (r : Res (List D)) : Res RV := r.bind fun xs m1 => if xs.length ≤ LN then .ok (.fl xs) m1 else .bot
@[simp] theorem kLst1 (xs : List D) : kLst (.ok xs m) = if xs.length ≤ LN then .ok (.fl xs) m else .bot := nr rfl
@[simp] theorem ev_rLst (g : SemDs) : rLst g env m = kLst (g env m) := nr rfl
@[simp] theorem ev_rDict0 : rDict0 env m = .ok (.d (.dct [] [])) m := nr rfl
def kTr (r : Res D) : Res Bool := r.bind fun x m1 => match truth x with | some b => .ok b m1 | none => .bot
def kOb (o : Option Bool) (m : Cells) : Res Bool := match o with | some b => .ok b m | none => .bot
@[simp] theorem kOb1 (b : Bool) : kOb (some b) m = .ok b m := nr rfl
@[simp] theorem kTr1 (x : D) : kTr (.ok x m) = kOb (truth x) m := nr rfl
@[simp] theorem ev_bTruth (f : SemR) : bTruth f env m = kTr (vl f env m) := nr rfl
def kBo (r : Res RV) : Res Bool := r.bind fun x m1 => match x with | .d (.bl b) => .ok b m1 | _ => .bot
@[simp] theorem kBo1 (b : Bool) : kBo (.ok (.d (.bl b)) m) = .ok b m := nr rfl
@[simp] theorem ev_bBool (f : SemR) : bBool f env m = kBo (f env m) := nr rfl
def kAnd (g : SemB) (env : Env) (r : Res Bool) : Res Bool := r.bind fun b m1 => if b = true then g env m1 else .ok false m1
@[simp] theorem kAnd1 (g : SemB) : kAnd g env (.ok true m) = g env m := nr rfl
@[simp] theorem kAnd2 (g : SemB) : kAnd g env (.ok false m) = .ok false m := nr rfl
@[simp] theorem ev_bAnd (f g : SemB) : bAnd f g env m = kAnd g env (f env m) := nr rfl
def kOr (g : SemB) (env : Env) (r : Res Bool) : Res Bool := r.bind fun b m1 => if b = true then .ok true m1 else g env m1
@[simp] theorem kOr1 (g : SemB) : kOr g env (.ok false m) = g env m := nr rfl
@[simp] theorem kOr2 (g : SemB) : kOr g env (.ok true m) = .ok true m := nr rfl
@[simp] theorem ev_bOr (f g : SemB) : bOr f g env m = kOr g env (f env m) := nr rfl
def kNot (r : Res Bool) : Res Bool := r.bind fun b m1 => .ok (!b) m1
@[simp] theorem kNot1 (b : Bool) : kNot (.ok b m) = .ok (!b) m := nr rfl
@[simp] theorem ev_bNot (f : SemB) : bNot f env m = kNot (f env m) := nr rfl
@[simp] theorem ev_bYes : bYes env m = .ok true m := nr rfl
def kCh3 (g' : D → D → Option RV) (y : D) (r : Res D) : Res RV := r.bind fun z m3 => kO (g' y z) m3
@[simp] theorem kCh3_1 (g' : D → D → Option RV) (y z : D) : kCh3 g' y (.ok z m) = kO (g' y z) m := nr rfl
def kChO (g' : D → D → Option RV) (y : D) (c : SemR) (env : Env) (m : Cells) (o : Option RV) : Res RV := match o with
  | some (.d (.bl true)) => kCh3 g' y (vl c env m)
  | some (.d (.bl false)) => .ok (.d (.bl false)) m
  | _ => .bot
@[simp] theorem kChO1 (g' : D → D → Option RV) (y : D) (c : SemR) : kChO g' y c env m (some (.d (.bl true))) = kCh3 g' y (vl c env m) := nr rfl
@[simp] theorem kChO2 (g' : D → D → Option RV) (y : D) (c : SemR) : kChO g' y c env m (some (.d (.bl false))) = .ok (.d (.bl false)) m := nr rfl
def kCh2 (g g' : D → D → Option RV) (x : D) (c : SemR) (env : Env) (r : Res D) : Res RV := r.bind fun y m => kChO g' y c env m (g x y)
@[simp] theorem kCh2_1 (g g' : D → D → Option RV) (x y : D) (c : SemR) : kCh2 g g' x c env (.ok y m) = kChO g' y c env m (g x y) := nr rfl
def kCh (g g' : D → D → Option RV) (b c : SemR) (env : Env) (r : Res D) : Res RV := r.bind fun x m => kCh2 g g' x c env (vl b env m)
@[simp] theorem kCh_1 (g g' : D → D → Option RV) (x : D) (b c : SemR) : kCh g g' b c env (.ok x m) = kCh2 g g' x c env (vl b env m) := nr rfl
@[simp] theorem ev_rChain (g g' : D → D → Option RV) (a b c : SemR) : rChain g g' a b c env m = kCh g g' b c env (vl a env m) := nr rfl
def kRAndO (g : SemR) (env : Env) (x : D) (m : Cells) (o : Option Bool) : Res RV := match o with | some true => g env m | some false => .ok (.d x) m | none => .bot
@[simp] theorem kRAndO1 (g : SemR) (x : D) : kRAndO g env x m (some true) = g env m := nr rfl
@[simp] theorem kRAndO2 (g : SemR) (x : D) : kRAndO g env x m (some false) = .ok (.d x) m := nr rfl
def kRAnd (g : SemR) (env : Env) (r : Res D) : Res RV := r.bind fun x m1 => kRAndO g env x m1 (truth x)
@[simp] theorem kRAnd_1 (g : SemR) (x : D) : kRAnd g env (.ok x m) = kRAndO g env x m (truth x) := nr rfl
@[simp] theorem ev_rAnd (f g : SemR) : rAnd f g env m = kRAnd g env (fz f env m) := nr rfl
def kROrO (g : SemR) (env : Env) (x : D) (m : Cells) (o : Option Bool) : Res RV := match o with | some false => g env m | some true => .ok (.d x) m | none => .bot
@[simp] theorem kROrO1 (g : SemR) (x : D) : kROrO g env x m (some false) = g env m := nr rfl
@[simp] theorem kROrO2 (g : SemR) (x : D) : kROrO g env x m (some true) = .ok (.d x) m := nr rfl
def kROr (g : SemR) (env : Env) (r : Res D) : Res RV := r.bind fun x m1 => kROrO g env x m1 (truth x)
@[simp] theorem kROr_1 (g : SemR) (x : D) : kROr g env (.ok x m) = kROrO g env x m (truth x) := nr rfl
@[simp] theorem ev_rOr (f g : SemR) : rOr f g env m = kROr g env (fz f env m) := by
  show (fz f env m).bind _ = (fz f env m).bind _
  congr 1; funext x m1; show _ = kROrO g env x m1 (truth x); unfold kROrO; cases truth x with | none => rfl | some b => cases b <;> rfl
def kRNot (r : Res D) : Res RV := r.bind fun x m1 => match truth x with | some b => .ok (.d (.bl (!b))) m1 | none => .bot
def kNb (o : Option Bool) (m : Cells) : Res RV := match o with | some b => .ok (.d (.bl (!b))) m | none => .bot
@[simp] theorem kNb1 (b : Bool) : kNb (some b) m = .ok (.d (.bl (!b))) m := nr rfl
@[simp] theorem kRNot1 (x : D) : kRNot (.ok x m) = kNb (truth x) m := nr rfl
@[simp] theorem ev_rNot (f : SemR) : rNot f env m = kRNot (vl f env m) := nr rfl
def kIf {α : Type} (f g : Env → Cells → Res α) (env : Env) (r : Res Bool) : Res α := r.bind fun b m1 => if b = true then f env m1 else g env m1
@[simp] theorem kIf1 {α : Type} (f g : Env → Cells → Res α) : kIf f g env (.ok true m) = f env m := nr rfl
@[simp] theorem kIf2 {α : Type} (f g : Env → Cells → Res α) : kIf f g env (.ok false m) = g env m := nr rfl
@[simp] theorem ev_rIf (t : SemB) (f g : SemR) : rIf t f g env m = kIf f g env (t env m) := nr rfl
def kNeg (r : Res D) : Res RV := r.bind fun x m1 => match x with | .int i => .ok (.d (.int (-i))) m1 | _ => .bot
@[simp] theorem kNeg1 (i : Int) : kNeg (.ok (.int i) m) = .ok (.d (.int (-i))) m := nr rfl
@[simp] theorem ev_rNeg (f : SemR) : rNeg f env m = kNeg (vl f env m) := nr rfl
def kCB (g : List D → Option RV) (r : Res (List D)) : Res RV := r.bind fun xs m1 => kO (g xs) m1
@[simp] theorem kCB1 (g : List D → Option RV) (xs : List D) : kCB g (.ok xs m) = kO (g xs) m := nr rfl
@[simp] theorem ev_rCB (g : List D → Option RV) (as : SemDs) : rCB g as env m = kCB g (as env m) := nr rfl
def kTy (t : Ty) (o : Option Ty) (m : Cells) : Res RV := match o with | some u => .ok (.d (.bl (isa u t))) m | none => .bot
@[simp] theorem kTy1 (t u : Ty) : kTy t (some u) m = .ok (.d (.bl (isa u t))) m := nr rfl
def kIsa (t : Ty) (r : Res D) : Res RV := r.bind fun x m1 => kTy t (tyD x) m1
@[simp] theorem kIsa1 (t : Ty) (x : D) : kIsa t (.ok x m) = kTy t (tyD x) m := nr rfl
@[simp] theorem ev_rIsa (t : Ty) (f : SemR) : rIsa t f env m = kIsa t (vl f env m) := nr rfl
def kPk (r : Res RV) : Res RV := r.bind fun rv m2 => (match rv with | .pk _ => .bot | rv => .ok rv m2)
@[simp] theorem kPk1 (x : D) : kPk (.ok (.d x) m) = .ok (.d x) m := nr rfl
@[simp] theorem kPk2 (x : List D) : kPk (.ok (.fl x) m) = .ok (.fl x) m := nr rfl
def kCall (n : Nat) (f : Fn) (r : Res (List D)) : Res RV := r.bind fun xs m1 => if xs.length = n then kPk (f xs m1) else .bot
@[simp] theorem kCall1 (n : Nat) (f : Fn) (xs : List D) : kCall n f (.ok xs m) = if xs.length = n then kPk (f xs m) else .bot := nr rfl
@[simp] theorem ev_rCall (n : Nat) (f : Fn) (as : SemDs) : rCall n f as env m = kCall n f (as env m) := nr rfl
@[simp] theorem ev_rCall0 (f : Fn) : rCall0 f env m = kPk (f [] m) := nr rfl
def kSeq (r : Res D) : Res (List D) := r.bind fun x m1 => match x with | .lst xs | .tup xs | .scr xs => .ok xs m1 | _ => .bot
@[simp] theorem kSeq1 (xs : List D) : kSeq (.ok (.lst xs) m) = .ok xs m := nr rfl
@[simp] theorem kSeq2 (xs : List D) : kSeq (.ok (.tup xs) m) = .ok xs m := nr rfl
@[simp] theorem kSeq3 (xs : List D) : kSeq (.ok (.scr xs) m) = .ok xs m := nr rfl
/-- what is walked: a slot's own list cannot be, a cell's neither -/
@[simp] theorem ev_eSeq (f : SemR) : eSeq f env m = kSeq (fz f env m) := nr rfl
def kRa1 (r : Res (List D)) : Res (List D) := r.bind fun xs m1 => match xs with | [.int j] => if int62 j then .ok (rangeD 0 j) m1 else .bot | _ => .bot
theorem kRa1_1 {j : Int} (h : -4611686018427387904 ≤ j ∧ j < 4611686018427387904) : kRa1 (.ok [.int j] m) = .ok (rangeD 0 j) m := by
  show (if int62 j = true then _ else _) = _
  rw [if_pos (by unfold int62; exact decide_eq_true h)]
@[simp] theorem ev_eRange1 (as : SemDs) : eRange1 as env m = kRa1 (as env m) := nr rfl
def kRa2 (r : Res (List D)) : Res (List D) := r.bind fun xs m1 => match xs with | [.int i, .int j] => if int62 i && int62 j then .ok (rangeD i j) m1 else .bot | _ => .bot
theorem kRa2_1 {i j : Int} (h : -4611686018427387904 ≤ i ∧ i < 4611686018427387904 ∧ -4611686018427387904 ≤ j ∧ j < 4611686018427387904) : kRa2 (.ok [.int i, .int j] m) = .ok (rangeD i j) m := by
  show (if (int62 i && int62 j) = true then _ else _) = _
  rw [if_pos (by unfold int62; rw [Bool.and_eq_true]; exact ⟨decide_eq_true ⟨h.1, h.2.1⟩, decide_eq_true h.2.2⟩)]
@[simp] theorem ev_eRange2 (as : SemDs) : eRange2 as env m = kRa2 (as env m) := nr rfl
@[simp] theorem ev_gSet (i : Nat) (x : D) : gSet i x env = some (env.set i (.d x)) := nr rfl
@[simp] theorem ev_gTupS (is : List Nat) (xs : List D) : gTupS is (.tup xs) env = gsSet is xs env := nr rfl
@[simp] theorem ev_gsSet0 : gsSet [] [] env = some env := nr rfl
@[simp] theorem ev_gsSet1 (i : Nat) (is : List Nat) (x : D) (xs : List D) : gsSet (i :: is) (x :: xs) env = gsSet is xs (env.set i (.d x)) := nr rfl
@[simp] theorem ev_wipe0 : wipeE env [] = env := nr rfl
@[simp] theorem ev_wipe1 (v : Nat) (vs : List Nat) : wipeE env (v :: vs) = (wipeE env vs).set v .un := nr rfl
@[simp] theorem ev_noX (a : α) : noX (.ok a m) = .ok a m := nr rfl
@[simp] theorem ev_comp0 (tg : SemG) (cond : SemB) (elt : SemR) : compL tg cond elt env [] m = .ok [] m := nr rfl
def kFl (r : Res (List D)) : Res RV := r.bind fun ys m2 => .ok (.fl ys) m2
@[simp] theorem kFl1 (ys : List D) : kFl (.ok ys m) = .ok (.fl ys) m := nr rfl
def kComp (tg : SemG) (cond : SemB) (elt : SemR) (env : Env) (r : Res (List D)) : Res RV := r.bind fun ds m1 => if ds.length ≤ LN then kFl (compL tg cond elt env ds m1) else .bot
theorem kComp1 {tg : SemG} {cond : SemB} {elt : SemR} {ds : List D} (h : ds.length ≤ 1000000) : kComp tg cond elt env (.ok ds m) = kFl (compL tg cond elt env ds m) := by
  show (if _ then _ else _) = _
  rw [if_pos h]
@[simp] theorem ev_rComp (it : SemDs) (tg : SemG) (cond : SemB) (elt : SemR) (vs : List Nat) : rComp it tg cond elt vs env m = kComp tg cond elt (wipeE env vs) (it env m) := nr rfl
-- statements
@[simp] theorem ev_sNop : sNop env m = .ok (.nx env) m := nr rfl
def kSq (g : SemS) (r : Res Out) : Res Out := r.bind fun o m1 => match o with | .nx env1 => g env1 m1 | o => .ok o m1
@[simp] theorem kSq1 (g : SemS) : kSq g (.ok (.nx env) m) = g env m := nr rfl
@[simp] theorem kSq2 (g : SemS) (rv : RV) : kSq g (.ok (.rt rv) m) = .ok (.rt rv) m := nr rfl
@[simp] theorem kSq3 (g : SemS) : kSq g (.ok (.bk env) m) = .ok (.bk env) m := nr rfl
@[simp] theorem kSq4 (g : SemS) : kSq g (.ok (.ct env) m) = .ok (.ct env) m := nr rfl
@[simp] theorem ev_sSeq (f g : SemS) : sSeq f g env m = kSq g (f env m) := nr rfl
def kRt (r : Res RV) : Res Out := r.bind fun rv m1 => .ok (.rt (unpk rv)) m1
@[simp] theorem kRt1 (rv : RV) : kRt (.ok rv m) = .ok (.rt (unpk rv)) m := nr rfl
@[simp] theorem ev_sRet (f : SemR) : sRet f env m = kRt (f env m) := nr rfl
@[simp] theorem ev_sRetN : sRetN env m = .ok (.rt (.d .non)) m := nr rfl
def kDrop (env : Env) (r : Res RV) : Res Out := r.bind fun _ m1 => .ok (.nx env) m1
@[simp] theorem kDrop1 (rv : RV) : kDrop env (.ok rv m) = .ok (.nx env) m := nr rfl
@[simp] theorem ev_sExpr (f : SemR) : sExpr f env m = kDrop env (f env m) := nr rfl
@[simp] theorem ev_sIf (c : SemB) (f g : SemS) : sIf c f g env m = kIf f g env (c env m) := nr rfl
def kSet (i : Nat) (env : Env) (r : Res RV) : Res Out := r.bind fun rv m1 => match slotOf rv with | some s => .ok (.nx (env.set i s)) m1 | none => .bot
@[simp] theorem kSet1 (i : Nat) (x : D) : kSet i env (.ok (.d x) m) = .ok (.nx (env.set i (.d x))) m := nr rfl
@[simp] theorem kSet2 (i : Nat) (x : List D) : kSet i env (.ok (.fl x) m) = .ok (.nx (env.set i (.own x))) m := nr rfl
@[simp] theorem ev_sSet (i : Nat) (f : SemR) : sSet i f env m = kSet i env (f env m) := nr rfl
def kFrz (i : Nat) (f : SemS) (env : Env) (m : Cells) (s : Option Slot) : Res Out := match s with
  | some (.own xs) => f (env.set i (.d (.lst xs))) m
  | _ => f env m
@[simp] theorem kFrz1 (i : Nat) (f : SemS) (xs : List D) : kFrz i f env m (some (.own xs)) = f (env.set i (.d (.lst xs))) m := nr rfl
@[simp] theorem kFrz2 (i : Nat) (f : SemS) (x : D) : kFrz i f env m (some (.d x)) = f env m := nr rfl
@[simp] theorem kFrz3 (i : Nat) (f : SemS) : kFrz i f env m (some .un) = f env m := nr rfl
@[simp] theorem ev_sFrz (i : Nat) (f : SemS) : sFrz i f env m = kFrz i f env m env[i]? := nr rfl
def kOE (o : Option Env) (m : Cells) : Res Out := match o with | some e => .ok (.nx e) m | none => .bot
@[simp] theorem kOE1 (e : Env) : kOE (some e) m = .ok (.nx e) m := nr rfl
def kAsg (g : SemG) (env : Env) (r : Res D) : Res Out := r.bind fun x m1 => kOE (g x env) m1
@[simp] theorem kAsg1 (g : SemG) (x : D) : kAsg g env (.ok x m) = kOE (g x env) m := nr rfl
@[simp] theorem ev_sAsg (g : SemG) (f : SemR) : sAsg g f env m = kAsg g env (fz f env m) := nr rfl
def kFor (g : SemG) (b : SemS) (env : Env) (r : Res (List D)) : Res Out := r.bind fun ds m1 => forL g b ds env m1
@[simp] theorem kFor1 (g : SemG) (b : SemS) (ds : List D) : kFor g b env (.ok ds m) = forL g b ds env m := nr rfl
@[simp] theorem ev_sFor (it : SemDs) (g : SemG) (b : SemS) : sFor it g b env m = kFor g b env (it env m) := nr rfl
@[simp] theorem ev_forL0 (g : SemG) (b : SemS) : forL g b [] env m = .ok (.nx env) m := nr rfl
def kPr2 (i j : Nat) (env : Env) (r1 : RV) (r : Res RV) : Res Out := r.bind fun r2 m2 => match slotOf r1, slotOf r2 with
  | some s1, some s2 => .ok (.nx ((env.set i s1).set j s2)) m2
  | _, _ => .bot
@[simp] theorem kPr2_1 (i j : Nat) (x y : D) : kPr2 i j env (.d x) (.ok (.d y) m) = .ok (.nx ((env.set i (.d x)).set j (.d y))) m := nr rfl
@[simp] theorem kPr2_2 (i j : Nat) (x y) : kPr2 i j env (.fl x) (.ok (.d y) m) = .ok (.nx ((env.set i (.own x)).set j (.d y))) m := nr rfl
@[simp] theorem kPr2_3 (i j : Nat) (x y) : kPr2 i j env (.d x) (.ok (.fl y) m) = .ok (.nx ((env.set i (.d x)).set j (.own y))) m := nr rfl
@[simp] theorem kPr2_4 (i j : Nat) (x y) : kPr2 i j env (.fl x) (.ok (.fl y) m) = .ok (.nx ((env.set i (.own x)).set j (.own y))) m := nr rfl
def kPr (i j : Nat) (g : SemR) (env : Env) (r : Res RV) : Res Out := r.bind fun r1 m => kPr2 i j env r1 (g env m)
@[simp] theorem kPr_1 (i j : Nat) (g : SemR) (r1 : RV) : kPr i j g env (.ok r1 m) = kPr2 i j env r1 (g env m) := nr rfl
@[simp] theorem ev_sPar2 (i j : Nat) (f g : SemR) : sPar2 i j f g env m = kPr i j g env (f env m) := nr rfl
def kPr33 (i j l : Nat) (env : Env) (r1 r2 : RV) (r : Res RV) : Res Out := r.bind fun r3 m3 => match slotOf r1, slotOf r2, slotOf r3 with
  | some s1, some s2, some s3 => .ok (.nx (((env.set i s1).set j s2).set l s3)) m3
  | _, _, _ => .bot
@[simp] theorem kPr33_1 (i j l : Nat) (r1 r2 r3 : RV) : kPr33 i j l env r1 r2 (.ok r3 m) = (match slotOf r1, slotOf r2, slotOf r3 with
  | some s1, some s2, some s3 => .ok (.nx (((env.set i s1).set j s2).set l s3)) m
  | _, _, _ => .bot) := nr rfl
def kPr32 (i j l : Nat) (h : SemR) (env : Env) (r1 : RV) (r : Res RV) : Res Out := r.bind fun r2 m => kPr33 i j l env r1 r2 (h env m)
@[simp] theorem kPr32_1 (i j l : Nat) (h : SemR) (r1 r2 : RV) : kPr32 i j l h env r1 (.ok r2 m) = kPr33 i j l env r1 r2 (h env m) := nr rfl
def kPr3 (i j l : Nat) (g h : SemR) (env : Env) (r : Res RV) : Res Out := r.bind fun r1 m => kPr32 i j l h env r1 (g env m)
@[simp] theorem kPr3_1 (i j l : Nat) (g h : SemR) (r1 : RV) : kPr3 i j l g h env (.ok r1 m) = kPr32 i j l h env r1 (g env m) := nr rfl
@[simp] theorem ev_sPar3 (i j l : Nat) (f g h : SemR) : sPar3 i j l f g h env m = kPr3 i j l g h env (f env m) := nr rfl
def kApp (i : Nat) (env : Env) (r : Res D) : Res Out := r.bind fun x m1 => match lget i env m1 with
  | some xs => if xs.length < LN then .ok (.nx (lupd i env m1 (xs ++ [x])).1) (lupd i env m1 (xs ++ [x])).2 else .bot
  | none => .bot
theorem kApp_own {i : Nat} {x : D} {xs : List D} (h : env[i]? = some (.own xs)) (hl : xs.length < 1000000) : kApp i env (.ok x m) = .ok (.nx (env.set i (.own (xs ++ [x])))) m := by
  have h1 : lget i env m = some xs := by unfold lget; rw [h]
  have h2 : lupd i env m (xs ++ [x]) = (env.set i (.own (xs ++ [x])), m) := by unfold lupd; rw [h]
  show (match lget i env m with | some xs => _ | none => _) = _
  rw [h1]
  show (if _ then _ else _) = _
  rw [if_pos hl, h2]
theorem ev_append_own {i : Nat} {f : SemR} {xs : List D} (h : env[i]? = some (.own xs)) : sAppend i f env m = kApp i env (fz f env m) := by
  have h1 : lget i env m = some xs := by unfold lget; rw [h]
  show (if _ then _ else _) = _
  rw [h1]
  rfl
theorem ev_setitem_ref {i n : Nat} {fi fe : SemR} {x : D} {k : Int} {j : Nat} {m1 m2 : Cells} {ys xs : List D} (h1 : fz fe env m = .ok x m1) (h : env[i]? = some (.d (.ref n))) (h2 : m1[n]? = some (.lst ys)) (h3 : vl fi env m1 = .ok (.int k) m2) (h4 : m2[n]? = some (.lst xs)) (h5 : ixN xs.length k = some j) :
    sSetItem i fi fe env m = .ok (.nx env) (m2.set n (.lst (xs.set j x))) := by
  have g1 : lget i env m1 = some ys := by unfold lget; rw [h]; show (match m1[n]? with | some (.lst xs) => some xs | none => none) = _; rw [h2]
  have g2 : lget i env m2 = some xs := by unfold lget; rw [h]; show (match m2[n]? with | some (.lst xs) => some xs | none => none) = _; rw [h4]
  have g3 : lupd i env m2 (xs.set j x) = (env, m2.set n (.lst (xs.set j x))) := by unfold lupd; rw [h]
  unfold sSetItem
  rw [h1]
  show (if (lget i env m1).isSome = true then _ else _) = _
  rw [g1]
  show (vl fi env m1).bind _ = _
  rw [h3]
  show (match lget i env m2, D.int k with | some xs, .int k => _ | _, _ => _) = _
  rw [g2]
  show (match ixN xs.length k with | some j => _ | none => _) = _
  rw [h5]
  show Res.ok (Out.nx (lupd i env m2 (xs.set j x)).1) (lupd i env m2 (xs.set j x)).2 = _
  rw [g3]
def kRef (i : Nat) (env : Env) (r : Res RV) : Res Out := r.bind fun rv m1 => match rv with | .fl xs => .ok (.nx (env.set i (.d (.ref m1.length)))) (m1 ++ [.lst xs]) | _ => .bot
@[simp] theorem kRef1 (i : Nat) (xs : List D) : kRef i env (.ok (.fl xs) m) = .ok (.nx (env.set i (.d (.ref m.length)))) (m ++ [.lst xs]) := nr rfl
@[simp] theorem ev_sRef (i : Nat) (f : SemR) : sRef i f env m = kRef i env (f env m) := nr rfl
def kFn (r : Res Out) : Res RV := r.bind fun o m1 => match o with | .rt rv => .ok (unpk rv) m1 | .nx _ => .ok (.d .non) m1 | _ => .bot
@[simp] theorem kFn1 (rv : RV) : kFn (.ok (.rt rv) m) = .ok (unpk rv) m := nr rfl
@[simp] theorem kFn2 : kFn (.ok (.nx env) m) = .ok (.d .non) m := nr rfl
@[simp] theorem ev_fnRun (n N : Nat) (b : SemS) (ds : List D) : fnRun n N b ds m = if ds.length = n then kFn (b (ds.map Slot.d ++ List.replicate (N - n) .un) m) else .bot := nr rfl
@[simp] theorem ev_id (i : Int) : (i == i) = true := beq_self_eq_true i
def kCell (c : Option Cell) (i : Int) : Option D := match c with | some (.lst xs) => atI xs i | none => none
@[simp] theorem kCell1 (xs : List D) (i : Int) : kCell (some (.lst xs)) i = atI xs i := nr rfl
-- operations
@[simp] theorem ev_add (i j : Int) : gAdd (.int i) (.int j) = some (.d (.int (i + j))) := nr rfl
@[simp] theorem ev_sub (i j : Int) : gMinus (.int i) (.int j) = some (.d (.int (i - j))) := nr rfl
theorem ev_mul {i j : Int} (h : mulOk i j = true) : gMul (.int i) (.int j) = some (.d (.int (i * j))) := by show (if _ then _ else _) = _; rw [if_pos h]
theorem ev_mulL {i j : Int} (h : -18446744073709551616 < i ∧ i < 18446744073709551616) : gMul (.int i) (.int j) = some (.d (.int (i * j))) := ev_mul (by unfold mulOk; simp [h])
theorem ev_mulR {i j : Int} (h : -18446744073709551616 < j ∧ j < 18446744073709551616) : gMul (.int i) (.int j) = some (.d (.int (i * j))) := ev_mul (by unfold mulOk; simp [h])
theorem ev_div {i j : Int} (h : 0 < j ∧ j < 1073741824) : gDiv (.int i) (.int j) = some (.d (.int (i / j))) := by show (if _ then _ else _) = _; rw [if_pos ⟨h.1, .inl h.2⟩]
theorem ev_mod {i j : Int} (h : 0 < j) : gMod (.int i) (.int j) = some (.d (.int (i % j))) := by show (if _ then _ else _) = _; rw [if_pos h]
theorem ev_pow {i j : Int} (h : 0 ≤ j ∧ j ≤ 1000000 ∧ i.natAbs < 18446744073709551616) : gPow (.int i) (.int j) = some (.d (.int (i ^ j.toNat))) := by show (if _ then _ else _) = _; rw [if_pos h]
@[simp] theorem ev_lt (i j : Int) : gLt (.int i) (.int j) = some (.d (.bl (decide (i < j)))) := nr rfl
@[simp] theorem ev_le (i j : Int) : gLe (.int i) (.int j) = some (.d (.bl (decide (i ≤ j)))) := nr rfl
@[simp] theorem ev_gt (i j : Int) : gGt (.int i) (.int j) = some (.d (.bl (decide (j < i)))) := nr rfl
@[simp] theorem ev_ge (i j : Int) : gGe (.int i) (.int j) = some (.d (.bl (decide (j ≤ i)))) := nr rfl
@[simp] theorem ev_eq (x y : D) : gEq x y = if plainD 60 x && plainD 60 y then some (.d (.bl (deq x y))) else none := nr rfl
@[simp] theorem ev_ne (x y : D) : gNe x y = if plainD 60 x && plainD 60 y then some (.d (.bl (!deq x y))) else none := nr rfl
@[simp] theorem ev_pl1 (n : Nat) : plainD n .non = true := by unfold plainD; rfl
@[simp] theorem ev_pl2 (n : Nat) (b : Bool) : plainD n (.bl b) = true := by unfold plainD; rfl
@[simp] theorem ev_pl3 (n : Nat) (b : Int) : plainD n (.int b) = true := by unfold plainD; rfl
@[simp] theorem ev_pl4 (n : Nat) (b : Str) : plainD n (.str b) = true := by unfold plainD; rfl
@[simp] theorem ev_pl5 (n : Nat) (xs : List D) : plainD (n + 1) (.lst xs) = plainDs n xs := by rw [plainD]
@[simp] theorem ev_pl6 (n : Nat) (xs : List D) : plainD (n + 1) (.tup xs) = plainDs n xs := by rw [plainD]
@[simp] theorem ev_pls0 (n : Nat) : plainDs n [] = true := by rw [plainDs]
@[simp] theorem ev_pls1 (n : Nat) (x : D) (xs : List D) : plainDs n (x :: xs) = (plainD n x && plainDs n xs) := by rw [plainDs]
@[simp] theorem ev_deq1 (i j : Int) : deq (.int i) (.int j) = decide (i = j) := by unfold deq; rfl
@[simp] theorem ev_deq2 (i j : Bool) : deq (.bl i) (.bl j) = (i == j) := by unfold deq; rfl
@[simp] theorem ev_deq3 (i j : Str) : deq (.str i) (.str j) = (i == j) := by unfold deq; rfl
@[simp] theorem ev_deq4 (i j : List D) : deq (.lst i) (.lst j) = deqs i j := by rw [deq]
@[simp] theorem ev_deq5 (i j : List D) : deq (.tup i) (.tup j) = deqs i j := by rw [deq]
@[simp] theorem ev_deq6 : deq .non .non = true := by unfold deq; rfl
@[simp] theorem ev_deq7 (b : Bool) (j : Int) : deq (.bl b) (.int j) = decide ((if b then 1 else 0) = j) := by unfold deq; rfl
@[simp] theorem ev_deq8 (b : Bool) (j : Int) : deq (.int j) (.bl b) = decide (j = (if b then 1 else 0)) := by unfold deq; rfl
@[simp] theorem ev_deqs0 : deqs [] [] = true := by rw [deqs]
@[simp] theorem ev_deqs1 (x y : D) (xs ys : List D) : deqs (x :: xs) (y :: ys) = (deq x y && deqs xs ys) := by rw [deqs]
@[simp] theorem ev_deqs2 (x : D) (xs : List D) : deqs (x :: xs) [] = false := by unfold deqs; rfl
@[simp] theorem ev_deqs3 (x : D) (xs : List D) : deqs [] (x :: xs) = false := by unfold deqs; rfl
@[simp] theorem ev_isnon (x : D) : gIs x .non = some (.d (.bl (isNon x))) := by cases x <;> rfl
@[simp] theorem ev_isbl (a b : Bool) : gIs (.bl a) (.bl b) = some (.d (.bl (a == b))) := nr rfl
@[simp] theorem ev_isnotnon (x : D) : gIsNot x .non = some (.d (.bl (!isNon x))) := by cases x <;> rfl
@[simp] theorem ev_isnotbl (a b : Bool) : gIsNot (.bl a) (.bl b) = some (.d (.bl (!(a == b)))) := nr rfl
@[simp] theorem ev_isNon1 : isNon .non = true := nr rfl
@[simp] theorem ev_isNon2 (i : Int) : isNon (.int i) = false := nr rfl
@[simp] theorem ev_isNon3 (i : List D) : isNon (.tup i) = false := nr rfl
@[simp] theorem ev_isNon4 (i : List D) : isNon (.lst i) = false := nr rfl
@[simp] theorem ev_len1 (xs : List D) : gLen [.lst xs] = some (.d (.int xs.length)) := nr rfl
@[simp] theorem ev_len2 (xs : List D) : gLen [.tup xs] = some (.d (.int xs.length)) := nr rfl
@[simp] theorem ev_len3 (xs : List D) : gLen [.scr xs] = some (.d (.int xs.length)) := nr rfl
@[simp] theorem ev_abs (i : Int) : gAbs [.int i] = some (.d (.int (if i < 0 then -i else i))) := nr rfl
@[simp] theorem ev_int1 (i : Int) : gInt [.int i] = some (.d (.int i)) := nr rfl
@[simp] theorem ev_int2 (b : Bool) : gInt [.bl b] = some (.d (.int (if b then 1 else 0))) := nr rfl
@[simp] theorem ev_max2 (i j : Int) : gMax [.int i, .int j] = some (.d (.int (if j > i then j else i))) := nr rfl
@[simp] theorem ev_min2 (i j : Int) : gMin [.int i, .int j] = some (.d (.int (if j < i then j else i))) := nr rfl
theorem ints_map : ∀ ns : List Int, intsOf (ns.map D.int) = some ns
  | [] => rfl
  | n :: ns => by show (intsOf (ns.map D.int)).map _ = _; rw [ints_map ns]; rfl
theorem bls_map : ∀ ns : List Bool, blsOf (ns.map D.bl) = some ns
  | [] => rfl
  | n :: ns => by show (blsOf (ns.map D.bl)).map _ = _; rw [bls_map ns]; rfl
theorem ev_sum (ns : List Int) : gSum [.lst (ns.map D.int)] = some (.d (.int ns.sum)) := by show (intsOf _).map _ = _; rw [ints_map]; rfl
theorem ev_all (ns : List Bool) : gAll [.lst (ns.map D.bl)] = some (.d (.bl (ns.all id))) := by show (blsOf _).map _ = _; rw [bls_map]; rfl
theorem ev_any (ns : List Bool) : gAny [.lst (ns.map D.bl)] = some (.d (.bl (ns.any id))) := by show (blsOf _).map _ = _; rw [bls_map]; rfl
@[simp] theorem ev_tuple1 (xs : List D) : gTuple [.lst xs] = some (.d (.tup xs)) := nr rfl
@[simp] theorem ev_tuple2 (xs : List D) : gTuple [.tup xs] = some (.d (.tup xs)) := nr rfl
@[simp] theorem ev_list1 (xs : List D) : gList [.lst xs] = some (.fl xs) := nr rfl
@[simp] theorem ev_list2 (xs : List D) : gList [.tup xs] = some (.fl xs) := nr rfl
@[simp] theorem ev_list3 (xs : List D) : gList [.scr xs] = some (.fl xs) := nr rfl
@[simp] theorem ev_reprb (b : Bool) : gRepr [.bl b] = some (.d (.str (if b then "True" else "False"))) := nr rfl
@[simp] theorem ev_ix1 (xs : List D) (i : Int) : itemAt (.lst xs) (.int i) m = atI xs i := nr rfl
@[simp] theorem ev_ix2 (xs : List D) (i : Int) : itemAt (.tup xs) (.int i) m = atI xs i := nr rfl
@[simp] theorem ev_ix3 (xs : List D) (i : Int) : itemAt (.scr xs) (.int i) m = atI xs i := nr rfl
@[simp] theorem ev_ix4 (n : Nat) (i : Int) : itemAt (.ref n) (.int i) m = kCell m[n]? i := nr rfl
@[simp] theorem ev_ty1 : tyD .non = some .none := nr rfl
@[simp] theorem ev_ty2 (b : Bool) : tyD (.bl b) = some .bool := nr rfl
@[simp] theorem ev_ty3 (b : Int) : tyD (.int b) = some .int := nr rfl
@[simp] theorem ev_ty4 (b : Str) : tyD (.str b) = some .str := nr rfl
@[simp] theorem ev_ty5 (b : List D) : tyD (.tup b) = some .tuple := nr rfl
@[simp] theorem ev_ty6 (b : List D) : tyD (.lst b) = some .list := nr rfl
@[simp] theorem ev_ty7 (b c : List D) : tyD (.dct b c) = some .dict := nr rfl
@[simp] theorem ev_isa1 : isa .bool .int = true := nr rfl
@[simp] theorem ev_isa2 : isa .int .int = true := nr rfl
@[simp] theorem ev_isa3 : isa .int .bool = false := nr rfl
@[simp] theorem ev_isa4 : isa .bool .bool = true := nr rfl
@[simp] theorem ev_isa5 : isa .none .int = false := nr rfl
@[simp] theorem ev_isa6 : isa .str .int = false := nr rfl
@[simp] theorem ev_isa7 : isa .tuple .int = false := nr rfl
@[simp] theorem ev_isa8 : isa .list .int = false := nr rfl
@[simp] theorem ev_isa9 : isa .dict .int = false := nr rfl
end
end Ev
/-! Ev, part T: the draw that all laws share. -/
namespace Ev
open PySem PySem.Spec L2
def bDice : SemS :=
    (sSeq (sSet 2 (rIf (bBool (rBin gLt (rVar 1) (rCB gLen (pCons (rVar 0) aNil)))) (rCB gInt (pCons (rIx (rVar 0) (rVar 1)) aNil)) (rBin gAdd (rBin gMul (rC (.int 103)) (rVar 1)) (rC (.int 67)))))
    (sSeq (sSet 3 (rBin gMod (rCB gMax (pCons (rC (.int 0)) (pCons (rBin gMinus (rCB gAbs (pCons (rVar 2) aNil)) (rBin gPow (rC (.int 10)) (rC (.int 16)))) aNil))) (rBin gMul (rBin gPow (rC (.int 10)) (rC (.int 57))) (rBin gPow (rC (.int 10)) (rC (.int 60))))))
    (sRet (rLst (aCons (rVar 3) (aCons (rBin gAdd (rBin gAdd (rBin gAdd (rBin gMul (rBin gMod (rCB gAbs (pCons (rVar 2) aNil)) (rC (.int 1152921504606846733))) (rC (.int 97))) (rBin gMul (rC (.int 1013)) (rVar 1))) (rBin gMul (rC (.int 53)) (rCB gInt (pCons (rBin gLt (rVar 2) (rC (.int 0))) aNil)))) (rC (.int 41))) (aCons (rC (.int 0)) aNil)))))))
def fDice : Fn := fnRun 2 4 bDice
def bRoll : SemS :=
    (sSeq (sIf (bBool (rBin gGt (rIx (rVar 0) (rC (.int 0))) (rC (.int 0)))) (sSeq (sSet 2 (rBin gMod (rCB gInt (pCons (rIx (rVar 0) (rC (.int 0))) aNil)) (rVar 1)))
    (sSeq (sSetItem 0 (rC (.int 0)) (rBin gDiv (rIx (rVar 0) (rC (.int 0))) (rVar 1)))
    (sRet (rVar 2)))) sNop)
    (sSeq (sSetItem 0 (rC (.int 2)) (rBin gAdd (rIx (rVar 0) (rC (.int 2))) (rC (.int 1))))
    (sSeq (sSet 3 (rBin gMod (rCB gInt (pCons (rBin gAdd (rIx (rVar 0) (rC (.int 1))) (rBin gMul (rC (.int 86028157)) (rIx (rVar 0) (rC (.int 2))))) aNil)) (rC (.int 2305843009213693487))))
    (sSeq (sSet 4 (rBin gAdd (rBin gMul (rBin gMod (rCB gInt (pCons (rBin gAdd (rBin gMul (rVar 3) (rVar 3)) (rBin gMul (rC (.int 101)) (rIx (rVar 0) (rC (.int 2))))) aNil)) (rC (.int 2305843009213693669))) (rC (.int 6700417))) (rVar 3)))
    (sRet (rBin gMod (rCB gInt (pCons (rBin gDiv (rVar 4) (rC (.int 65537))) aNil)) (rVar 1)))))))
def fRoll : Fn := fnRun 2 5 bRoll
def bPick (f : Fn) : SemS :=
    (sRet (rIx (rVar 1) (rCall 2 f (aCons (rVar 0) (aCons (rCB gLen (pCons (rVar 1) aNil)) aNil)))))
def fPick : Fn := fnRun 2 2 (bPick fRoll)
/-- the cell n is a dice -/
def Dice (n : Nat) (m : Cells) : Prop := ∃ a b c : Int, m[n]? = some (.lst [.int a, .int b, .int c])
/-- another state of the cell n alone -/
def Only (n : Nat) (m m' : Cells) : Prop := m'.length = m.length ∧ ∀ k, k ≠ n → m'[k]? = m[k]?
theorem Only.rfl {n : Nat} {m : Cells} : Only n m m := ⟨Eq.refl _, fun _ _ => Eq.refl _⟩
theorem Only.trans {n : Nat} {m m1 m2 : Cells} (a : Only n m m1) (b : Only n m1 m2) : Only n m m2 := ⟨b.1.trans a.1, fun k h => (b.2 k h).trans (a.2 k h)⟩
theorem Only.set {n : Nat} {m : Cells} (c : Cell) : Only n m (m.set n c) := ⟨List.length_set, fun k h => List.getElem?_set_ne (fun e => h e.symm)⟩
theorem set_same {n : Nat} {m : Cells} {c d : Cell} (h : m[n]? = some d) : (m.set n c)[n]? = some c := List.getElem?_set_self (List.getElem?_eq_some_iff.mp h).1
@[simp] theorem at3_0 (a b c : D) : atI [a, b, c] 0 = some a := rfl
@[simp] theorem at3_1 (a b c : D) : atI [a, b, c] 1 = some b := rfl
@[simp] theorem at3_2 (a b c : D) : atI [a, b, c] 2 = some c := rfl
theorem roll_spec {n : Nat} {m : Cells} (k : Int) (hD : Dice n m) (hk : 0 < k) (hk2 : k < 1073741824 := by omega) : ∃ r m', fRoll [.ref n, .int k] m = .ok (.d (.int r)) m' ∧ 0 ≤ r ∧ r < k ∧ Dice n m' ∧ Only n m m' := by
  obtain ⟨a, b, c, h⟩ := hD
  by_cases ha : 0 < a
  · have e : sSetItem 0 (rC (.int 0)) (rBin gDiv (rIx (rVar 0) (rC (.int 0))) (rVar 1)) [.d (.ref n), .d (.int k), .d (.int (a % k)), .un, .un] m = .ok (.nx [.d (.ref n), .d (.int k), .d (.int (a % k)), .un, .un]) (m.set n (.lst [.int (a / k), .int b, .int c])) :=
      ev_setitem_ref (m1 := m) (m2 := m) (j := 0) (k := 0) (x := .int (a / k)) (by simp [h, ev_div ⟨hk, hk2⟩]) rfl h (by simp) h rfl
    refine ⟨a % k, m.set n (.lst [.int (a / k), .int b, .int c]), ?_, Int.emod_nonneg _ (by omega), Int.emod_lt_of_pos _ hk, ⟨_, _, _, set_same h⟩, .set _⟩
    unfold fRoll bRoll
    simp [h, ha, ev_mod hk, e]
  · have e : sSetItem 0 (rC (.int 2)) (rBin gAdd (rIx (rVar 0) (rC (.int 2))) (rC (.int 1))) [.d (.ref n), .d (.int k), .un, .un, .un] m = .ok (.nx [.d (.ref n), .d (.int k), .un, .un, .un]) (m.set n (.lst [.int a, .int b, .int (c + 1)])) :=
      ev_setitem_ref (m1 := m) (m2 := m) (j := 2) (k := 2) (x := .int (c + 1)) (by simp [h]) rfl h (by simp) h rfl
    have h2 := set_same (c := .lst [.int a, .int b, .int (c + 1)]) h
    have m0 : (0 : Int) < 2305843009213693487 := by decide
    have m1 : (0 : Int) < 2305843009213693669 := by decide
    have o1 := Int.emod_nonneg (b + 86028157 * (c + 1)) (b := 2305843009213693487) (by decide)
    have o2 := Int.emod_lt_of_pos (b + 86028157 * (c + 1)) m0
    generalize ho : (b + 86028157 * (c + 1)) % 2305843009213693487 = o at o1 o2
    have t1 := Int.emod_nonneg (o * o + 101 * (c + 1)) (b := 2305843009213693669) (by decide)
    have t2 := Int.emod_lt_of_pos (o * o + 101 * (c + 1)) m1
    generalize ht : (o * o + 101 * (c + 1)) % 2305843009213693669 = t at t1 t2
    refine ⟨(t * 6700417 + o) / 65537 % k, m.set n (.lst [.int a, .int b, .int (c + 1)]), ?_, Int.emod_nonneg _ (by omega), Int.emod_lt_of_pos _ hk, ⟨_, _, _, h2⟩, .set _⟩
    unfold fRoll bRoll
    simp [h, ha, e, h2, ev_mod hk, ev_mod m0, ev_mod m1, ev_mulL (i := 86028157) (by omega), ho, ev_mulL (i := o) (j := o) (by omega), ev_mulL (i := 101) (by omega), ht, ev_mulL (i := t) (by omega), ev_div (j := 65537) (by omega)]
theorem ixN_ok {n : Nat} {i : Int} (h0 : 0 ≤ i) (h : i < n) : ixN n i = some i.toNat := by
  unfold ixN
  rw [if_pos h0, if_pos h]
theorem atI_ok {α : Type} {xs : List α} {i : Int} (h0 : 0 ≤ i) (h : i < xs.length) : ∃ x, atI xs i = some x ∧ x ∈ xs := by
  unfold atI
  rw [ixN_ok h0 h]
  have : i.toNat < xs.length := by omega
  exact ⟨xs[i.toNat], by show xs[i.toNat]? = _; rw [List.getElem?_eq_getElem this], List.getElem_mem _⟩
theorem pick_spec {n : Nat} {m : Cells} (xs : List D) (hD : Dice n m) (hx : xs ≠ []) (hx2 : xs.length < 1000000 := by simp) : ∃ x m', fPick [.ref n, .lst xs] m = .ok (.d x) m' ∧ x ∈ xs ∧ Dice n m' ∧ Only n m m' := by
  have hl : 0 < xs.length := List.length_pos_iff.mpr hx
  obtain ⟨r, m', e, r0, r1, h1, h2⟩ := roll_spec (xs.length : Int) hD (by omega) (by omega)
  obtain ⟨x, g, hm⟩ := atI_ok r0 r1
  refine ⟨x, m', ?_, hm, h1, h2⟩
  unfold fPick bPick
  simp [e, g]
theorem dice_spec (ns : List Int) (k : Nat) (m : Cells) : ∃ a b c : Int, fDice [.scr (ns.map D.int), .int k] m = .ok (.fl [.int a, .int b, .int c]) m := by
  have key : ∃ cell : Int, (rIf (bBool (rBin gLt (rVar 1) (rCB gLen (pCons (rVar 0) aNil)))) (rCB gInt (pCons (rIx (rVar 0) (rVar 1)) aNil)) (rBin gAdd (rBin gMul (rC (.int 103)) (rVar 1)) (rC (.int 67)))) [.d (.scr (ns.map D.int)), .d (.int k), .un, .un] m = .ok (.d (.int cell)) m := by
    by_cases h : (k : Int) < ns.length
    · obtain ⟨x, g, hm⟩ := atI_ok (xs := ns.map D.int) (i := (k : Int)) (by omega) (by simpa using h)
      obtain ⟨y, hy, rfl⟩ := List.mem_map.mp hm
      have h' : k < ns.length := by omega
      exact ⟨y, by simp [h', g]⟩
    · have h' : ¬ k < ns.length := by omega
      exact ⟨103 * (k : Int) + 67, by simp [h', ev_mulL (i := 103) (by omega)]⟩
  obtain ⟨cell, key⟩ := key
  have m2 : (0 : Int) < 1152921504606846733 := by decide
  have o1 := Int.emod_nonneg (if cell < 0 then -cell else cell) (b := 1152921504606846733) (by decide)
  have o2 := Int.emod_lt_of_pos (if cell < 0 then -cell else cell) m2
  generalize ho : (if cell < 0 then -cell else cell) % 1152921504606846733 = o at o1 o2
  unfold fDice bDice
  simp only [ev_fnRun, ev_sSeq, ev_sSet, List.length_cons, List.length_nil, List.map_cons, List.map_nil, List.cons_append, List.nil_append, List.replicate, key]
  simp [ev_pow, ev_mul (i := 1000000000000000000000000000000000000000000000000000000000) (j := 1000000000000000000000000000000000000000000000000000000000000) (by decide +kernel), ev_mod (j := 1000000000000000000000000000000000000000000000000000000000000000000000000000000000000000000000000000000000000000000000) (by decide), ev_mod m2, ho, ev_mulL (i := o) (by omega), ev_mulL (i := 1013) (by omega), ev_mulL (i := 53) (by omega)]
end Ev
/-! Ev, part U: loops and comprehensions in plain words; a bit of arithmetic. -/
namespace Ev
open PySem PySem.Spec L2
section
variable {env : Env} {m : Cells}
def kC2 (tg : SemG) (cond : SemB) (elt : SemR) (env : Env) (xs : List D) (r : Res D) : Res (List D) := r.bind fun y m2 => kCons2 y (compL tg cond elt env xs m2)
@[simp] theorem kC2_1 (tg : SemG) (cond : SemB) (elt : SemR) (xs : List D) (y : D) : kC2 tg cond elt env xs (.ok y m) = kCons2 y (compL tg cond elt env xs m) := nr rfl
def kC1 (tg : SemG) (cond : SemB) (elt : SemR) (env env1 : Env) (xs : List D) (r : Res Bool) : Res (List D) := r.bind fun b m1 => if b = true then kC2 tg cond elt env xs (noX (fz elt env1 m1)) else compL tg cond elt env xs m1
@[simp] theorem kC1_1 (tg : SemG) (cond : SemB) (elt : SemR) (env1 : Env) (xs : List D) : kC1 tg cond elt env env1 xs (.ok true m) = kC2 tg cond elt env xs (noX (fz elt env1 m)) := nr rfl
@[simp] theorem kC1_2 (tg : SemG) (cond : SemB) (elt : SemR) (env1 : Env) (xs : List D) : kC1 tg cond elt env env1 xs (.ok false m) = compL tg cond elt env xs m := nr rfl
@[simp] theorem ev_comp1 (i : Nat) (cond : SemB) (elt : SemR) (x : D) (xs : List D) : compL (gSet i) cond elt env (x :: xs) m = kC1 (gSet i) cond elt env (env.set i (.d x)) xs (noX (cond (env.set i (.d x)) m)) := nr rfl
@[simp] theorem ev_comp2 (is : List Nat) (cond : SemB) (elt : SemR) (ys : List D) (xs : List D) : compL (gTupS is) cond elt env (.tup ys :: xs) m = (match gsSet is ys env with | some e => kC1 (gTupS is) cond elt env e xs (noX (cond e m)) | none => .bot) := by
  dsimp only [compL]
  rw [ev_gTupS]
  cases gsSet is ys env <;> rfl
def kF2 (g : SemG) (b : SemS) (xs : List D) (r : Res Out) : Res Out := r.bind fun o m2 => match o with
  | .nx env2 => forL g b xs env2 m2
  | .ct env2 => forL g b xs env2 m2
  | .bk env2 => .ok (.nx env2) m2
  | .rt rv => .ok (.rt rv) m2
@[simp] theorem kF2_1 (g : SemG) (b : SemS) (xs : List D) : kF2 g b xs (.ok (.nx env) m) = forL g b xs env m := nr rfl
@[simp] theorem kF2_2 (g : SemG) (b : SemS) (xs : List D) : kF2 g b xs (.ok (.ct env) m) = forL g b xs env m := nr rfl
@[simp] theorem kF2_3 (g : SemG) (b : SemS) (xs : List D) : kF2 g b xs (.ok (.bk env) m) = .ok (.nx env) m := nr rfl
@[simp] theorem kF2_4 (g : SemG) (b : SemS) (xs : List D) (rv : RV) : kF2 g b xs (.ok (.rt rv) m) = .ok (.rt rv) m := nr rfl
@[simp] theorem ev_forL1 (i : Nat) (b : SemS) (x : D) (xs : List D) : forL (gSet i) b (x :: xs) env m = kF2 (gSet i) b xs (b (env.set i (.d x)) m) := nr rfl
@[simp] theorem ev_forL2 (is : List Nat) (b : SemS) (ys : List D) (xs : List D) : forL (gTupS is) b (.tup ys :: xs) env m = (match gsSet is ys env with | some e => kF2 (gTupS is) b xs (b e m) | none => .bot) := by
  dsimp only [forL]
  rw [ev_gTupS]
  cases gsSet is ys env <;> rfl
end
@[simp] theorem s_tt : (("True" : Str) == ("True" : Str)) = true := by decide
@[simp] theorem s_ff : (("False" : Str) == ("False" : Str)) = true := by decide
@[simp] theorem s_tf : (("True" : Str) == ("False" : Str)) = false := by decide
@[simp] theorem s_ft : (("False" : Str) == ("True" : Str)) = false := by decide
theorem comp_map {i : Nat} {elt : SemR} {env : Env} {m : Cells} {F : D → D} : ∀ {xs : List D}, (∀ x ∈ xs, fz elt (env.set i (.d x)) m = .ok (F x) m) → compL (gSet i) bYes elt env xs m = .ok (xs.map F) m
  | [], _ => rfl
  | x :: xs, h => by
    show (noX (fz elt (env.set i (.d x)) m)).bind _ = _
    rw [h x (List.mem_cons_self ..)]
    show (compL (gSet i) bYes elt env xs m).bind _ = _
    rw [comp_map fun y hy => h y (List.mem_cons_of_mem _ hy)]
    rfl
theorem comp_filter {i : Nat} {c : SemB} {elt : SemR} {env : Env} {m : Cells} {P : D → Bool} {F : D → D} : ∀ {xs : List D}, (∀ x ∈ xs, c (env.set i (.d x)) m = .ok (P x) m) → (∀ x ∈ xs, P x = true → fz elt (env.set i (.d x)) m = .ok (F x) m) → compL (gSet i) c elt env xs m = .ok ((xs.filter P).map F) m
  | [], _, _ => rfl
  | x :: xs, h, h' => by
    have t := comp_filter (fun y hy => h y (List.mem_cons_of_mem _ hy)) fun y hy => h' y (List.mem_cons_of_mem _ hy)
    show (noX (c (env.set i (.d x)) m)).bind _ = _
    rw [h x (List.mem_cons_self ..)]
    show (if P x = true then _ else _) = _
    by_cases hp : P x = true
    · rw [if_pos hp, h' x (List.mem_cons_self ..) hp]
      show (compL (gSet i) c elt env xs m).bind _ = _
      rw [t, List.filter_cons_of_pos hp]
      rfl
    · rw [if_neg hp, t, List.filter_cons_of_neg hp]
theorem for_nx {g : SemG} {b : SemS} {x : D} {xs : List D} {env e1 e2 : Env} {m m2 : Cells} (h1 : g x env = some e1) (h2 : b e1 m = .ok (.nx e2) m2) : forL g b (x :: xs) env m = forL g b xs e2 m2 := by
  dsimp only [forL]
  rw [h1]
  dsimp only
  rw [h2]
  rfl
theorem for_rt {g : SemG} {b : SemS} {x : D} {xs : List D} {env e1 : Env} {rv : RV} {m m2 : Cells} (h1 : g x env = some e1) (h2 : b e1 m = .ok (.rt rv) m2) : forL g b (x :: xs) env m = .ok (.rt rv) m2 := by
  dsimp only [forL]
  rw [h1]
  dsimp only
  rw [h2]
  rfl
/-- a loop that answers at its kth item -/
theorem for_find {i : Nat} {b : SemS} {m : Cells} {rv : RV} {env : Env} : ∀ {ds : List D} {k : Nat} {x : D} (s : Slot), ds[k]? = some x → (∀ j y, j < k → ds[j]? = some y → b (env.set i (.d y)) m = .ok (.nx (env.set i (.d y))) m) → b (env.set i (.d x)) m = .ok (.rt rv) m → forL (gSet i) b ds (env.set i s) m = .ok (.rt rv) m
  | [], _, _, _, h, _, _ => by cases h
  | d :: ds, 0, x, s, h, _, hx => by
    cases h
    exact for_rt (e1 := env.set i (.d d)) (by show some ((env.set i s).set i (.d d)) = _; rw [List.set_set]) hx
  | d :: ds, k + 1, x, s, h, hb, hx => by
    rw [for_nx (e1 := env.set i (.d d)) (e2 := env.set i (.d d)) (m2 := m) (by show some ((env.set i s).set i (.d d)) = _; rw [List.set_set]) (hb 0 d (Nat.succ_pos _) rfl)]
    exact for_find (.d d) (k := k) h (fun j y hj hy => hb (j + 1) y (Nat.succ_lt_succ hj) hy) hx
/-- a loop that changes nothing -/
theorem for_all {i : Nat} {b : SemS} {m : Cells} {env : Env} : ∀ {ds : List D} (s : Slot), (∀ y ∈ ds, b (env.set i (.d y)) m = .ok (.nx (env.set i (.d y))) m) → ∃ s', forL (gSet i) b ds (env.set i s) m = .ok (.nx (env.set i s')) m
  | [], s, _ => ⟨s, rfl⟩
  | d :: ds, s, hb => by
    rw [for_nx (e1 := env.set i (.d d)) (e2 := env.set i (.d d)) (m2 := m) (by show some ((env.set i s).set i (.d d)) = _; rw [List.set_set]) (hb d (List.mem_cons_self ..))]
    exact for_all (.d d) fun y hy => hb y (List.mem_cons_of_mem _ hy)
/-- a loop whose body goes on every time -/
theorem for_inv {g : SemG} {b : SemS} (I : Nat → Env → Cells → Prop) : ∀ {ds : List D} {k : Nat} {env : Env} {m : Cells}, (∀ (j : Nat) (x : D) (env : Env) (m : Cells), ds[j]? = some x → I (k + j) env m → ∃ e1 e2 m2, g x env = some e1 ∧ b e1 m = .ok (.nx e2) m2 ∧ I (k + j + 1) e2 m2) → I k env m → ∃ e m', forL g b ds env m = .ok (.nx e) m' ∧ I (k + ds.length) e m'
  | [], k, env, m, _, h0 => ⟨env, m, rfl, h0⟩
  | x :: xs, k, env, m, h, h0 => by
    obtain ⟨e1, e2, m2, h1, h2, h3⟩ := h 0 x env m rfl h0
    obtain ⟨e, m', h4, h5⟩ := for_inv (g := g) (b := b) I (ds := xs) (k := k + 1) (env := e2) (m := m2) (fun j y env m hj hi => by
      have e : k + 1 + j = k + (j + 1) := by omega
      rw [e] at hi ⊢
      exact h (j + 1) y env m hj hi) h3
    refine ⟨e, m', ?_, by rw [List.length_cons, show k + (xs.length + 1) = k + 1 + xs.length by omega]; exact h5⟩
    dsimp only [forL]
    rw [h1]
    show (b e1 m).bind _ = _
    rw [h2]
    exact h4
/-- a loop that ends when its test fails -/
theorem while_inv {c : SemB} {b : SemS} (I : Nat → Env → Cells → Prop) (E : Env → Cells → Prop) (h : ∀ k env m, I k env m → (∃ m1, c env m = .ok false m1 ∧ E env m1) ∨ (∃ m1 e2 m2 k', c env m = .ok true m1 ∧ b env m1 = .ok (.nx e2) m2 ∧ k' < k ∧ I k' e2 m2)) : ∀ n k env m, k < n → I k env m → ∃ e m', whileL c b n env m = .ok (.nx e) m' ∧ E e m'
  | 0, _, _, _, h0, _ => absurd h0 (Nat.not_lt_zero _)
  | n + 1, k, env, m, hk, h0 => by
    dsimp only [whileL]
    rcases h k env m h0 with ⟨m1, h1, h2⟩ | ⟨m1, e2, m2, k', h1, h2, h3, h4⟩
    · refine ⟨env, m1, ?_, h2⟩
      rw [h1]; rfl
    · obtain ⟨e, m', h5, h6⟩ := while_inv I E h n k' e2 m2 (by omega) h4
      refine ⟨e, m', ?_, h6⟩
      rw [h1]
      show (b env m1).bind _ = _
      rw [h2]
      exact h5
theorem sWhile_inv {c : SemB} {b : SemS} (I : Nat → Env → Cells → Prop) (E : Env → Cells → Prop) (h : ∀ k env m, I k env m → (∃ m1, c env m = .ok false m1 ∧ E env m1) ∨ (∃ m1 e2 m2 k', c env m = .ok true m1 ∧ b env m1 = .ok (.nx e2) m2 ∧ k' < k ∧ I k' e2 m2)) {k : Nat} {env : Env} {m : Cells} (hk : k < 100000) (h0 : I k env m) : ∃ e m', sWhile c b env m = .ok (.nx e) m' ∧ E e m' := while_inv I E h _ _ _ _ hk h0
theorem rangeD_get (lo hi : Int) (j : Nat) : (rangeD lo hi)[j]? = if j < (hi - lo).toNat then some (.int (lo + j)) else none := by
  unfold rangeD
  rw [List.getElem?_map]
  by_cases h : j < (hi - lo).toNat
  · rw [if_pos h, List.getElem?_range h]; rfl
  · rw [if_neg h, List.getElem?_eq_none (by simp; omega)]; rfl
theorem rangeD_mem {lo hi : Int} {x : D} (h : x ∈ rangeD lo hi) : ∃ i, x = .int i ∧ lo ≤ i ∧ i < hi := by
  unfold rangeD at h
  obtain ⟨j, hj, rfl⟩ := List.mem_map.mp h
  have := List.mem_range.mp hj
  exact ⟨_, rfl, by omega, by omega⟩
theorem mem_rangeD {lo hi i : Int} (h1 : lo ≤ i) (h2 : i < hi) : D.int i ∈ rangeD lo hi := by
  unfold rangeD
  exact List.mem_map.mpr ⟨(i - lo).toNat, List.mem_range.mpr (by omega), by congr 1; omega⟩
theorem all_map {α : Type} (F : α → Bool) (xs : List α) : gAll [.lst (xs.map fun x => D.bl (F x))] = some (.d (.bl (xs.all F))) := by
  have e : (xs.map fun x => D.bl (F x)) = (xs.map F).map D.bl := by rw [List.map_map]; rfl
  rw [e, ev_all, List.all_map]; rfl
theorem any_map {α : Type} (F : α → Bool) (xs : List α) : gAny [.lst (xs.map fun x => D.bl (F x))] = some (.d (.bl (xs.any F))) := by
  have e : (xs.map fun x => D.bl (F x)) = (xs.map F).map D.bl := by rw [List.map_map]; rfl
  rw [e, ev_any, List.any_map]; rfl
theorem sum_map {α : Type} (F : α → Int) (xs : List α) : gSum [.lst (xs.map fun x => D.int (F x))] = some (.d (.int (xs.map F).sum)) := by
  have e : (xs.map fun x => D.int (F x)) = (xs.map F).map D.int := by rw [List.map_map]; rfl
  rw [e, ev_sum]
theorem deqs_refl_int : ∀ ns : List Int, deqs (ns.map D.int) (ns.map D.int) = true
  | [] => by simp
  | n :: ns => by simp [deqs_refl_int ns]
theorem plainDs_int (k : Nat) : ∀ ns : List Int, plainDs k (ns.map D.int) = true
  | [] => by simp
  | n :: ns => by simp [plainDs_int k ns]
theorem plainDs_of {n : Nat} : ∀ {xs : List D}, (∀ x ∈ xs, plainD n x = true) → plainDs n xs = true
  | [], _ => by simp
  | x :: xs, h => by
    rw [ev_pls1, h x (List.mem_cons_self ..), plainDs_of fun y hy => h y (List.mem_cons_of_mem _ hy)]
    rfl
@[simp] theorem deqs_nil (xs : List D) : deqs xs [] = xs.isEmpty := by cases xs <;> simp
theorem sum_cast (f : Nat → Nat) : ∀ xs : List Nat, (xs.map fun i => ((f i : Nat) : Int)).sum = ((xs.map f).sum : Nat)
  | [] => rfl
  | x :: xs => by rw [List.map_cons, List.map_cons, List.sum_cons, List.sum_cons, sum_cast f xs, Int.natCast_add]
theorem pow_mod (a p : Int) : ∀ n : Nat, (a % p) ^ n % p = a ^ n % p
  | 0 => by rw [Int.pow_zero, Int.pow_zero]
  | n + 1 => by rw [Int.pow_succ, Int.pow_succ, Int.mul_emod, pow_mod a p n, Int.emod_emod_of_dvd _ (Int.dvd_refl p), ← Int.mul_emod]
theorem mul_mod_l (a b p : Int) : a % p * b % p = a * b % p := by rw [Int.mul_emod, Int.emod_emod_of_dvd _ (Int.dvd_refl p), ← Int.mul_emod]
theorem mul_mod_r (a b p : Int) : a * (b % p) % p = a * b % p := by rw [Int.mul_emod, Int.emod_emod_of_dvd _ (Int.dvd_refl p), ← Int.mul_emod]
end Ev
namespace K00
open PySem PySem.Spec L2 Ev

def top (i : Nat) : Stmt := PySem.Challenge.pw_evencoins_k00_whole_numbers_of_a_field.main.body.getD i (.Pass ⟨0, 0, 0, 0⟩)
abbrev s_is_integer : Stmt := top 10
abbrev s_is_within : Stmt := top 11
abbrev s_undone_in : Stmt := top 12
abbrev s_power_in : Stmt := top 13
abbrev s_is_field : Stmt := top 18
abbrev s_require_field : Stmt := top 14
abbrev s_require_number : Stmt := top 15
abbrev s_require_two : Stmt := top 16
abbrev s_require_many : Stmt := top 17
abbrev s_is_number : Stmt := top 19
abbrev s_plus : Stmt := top 20
abbrev s_minus : Stmt := top 21
abbrev s_times : Stmt := top 22
abbrev s_undone : Stmt := top 23
abbrev s_power : Stmt := top 24
abbrev s_power_sum : Stmt := top 25
abbrev s__law_dice : Stmt := top 27
abbrev s__law_roll : Stmt := top 28
abbrev s__law_pick : Stmt := top 29
abbrev s__law_fd_primes : Stmt := top 30
abbrev s__law_fd_undone : Stmt := top 31
abbrev s__law_is_prime : Stmt := top 32
abbrev s__law_powers : Stmt := top 33
abbrev s__law_great_power : Stmt := top 34
abbrev s__law_right : Stmt := top 35
abbrev s__law_judged : Stmt := top 36
abbrev s_law : Stmt := top 37
/-! ### what the defs compute -/
def b_is_integer : SemS :=
    (sRet (rAnd (rIsa .int (rVar 0)) (rNot (rIsa .bool (rVar 0)))))
def f_is_integer : Fn := fnRun 1 1 b_is_integer
def b_is_within : SemS :=
    (sRet (rAnd (rCall 1 f_is_integer (aCons (rVar 0) aNil)) (rChain gLe gLe (rVar 1) (rVar 0) (rVar 2))))
def f_is_within : Fn := fnRun 3 3 b_is_within
def b_undone_in : SemS :=
    (sSeq (sAsg (gTupS [2, 3, 4, 5]) (rTup (aCons (rC (.int 0)) (aCons (rC (.int 1)) (aCons (rVar 0) (aCons (rVar 1) aNil))))))
    (sSeq (sWhile (bBool (rBin gNe (rVar 5) (rC (.int 0)))) (sSeq (sSet 6 (rBin gDiv (rVar 4) (rVar 5)))
    (sSeq (sPar2 4 5 (rVar 5) (rBin gMinus (rVar 4) (rBin gMul (rVar 6) (rVar 5))))
    (sPar2 2 3 (rVar 3) (rBin gMinus (rVar 2) (rBin gMul (rVar 6) (rVar 3)))))))
    (sRet (rBin gMod (rVar 2) (rVar 0)))))
def f_undone_in : Fn := fnRun 2 7 b_undone_in
def b_power_in : SemS :=
    (sSeq (sPar3 3 4 5 (rC (.int 1)) (rVar 1) (rVar 2))
    (sSeq (sWhile (bBool (rBin gGt (rVar 5) (rC (.int 0)))) (sSeq (sIf (bBool (rBin gEq (rBin gMod (rVar 5) (rC (.int 2))) (rC (.int 1)))) (sSet 3 (rBin gMod (rBin gMul (rVar 3) (rVar 4)) (rVar 0))) sNop)
    (sPar2 4 5 (rBin gMod (rBin gMul (rVar 4) (rVar 4)) (rVar 0)) (rBin gDiv (rVar 5) (rC (.int 2))))))
    (sRet (rVar 3))))
def f_power_in : Fn := fnRun 3 6 b_power_in
def b_is_field : SemS :=
    (sSeq (sIf (bNot (bTruth (rCall 3 f_is_within (aCons (rVar 0) (aCons (rC (.int 5)) (aCons (rC (.int 997)) aNil)))))) (sRet (rC (.bl false))) sNop)
    (sRet (rCB gAll (pCons (rComp (eRange2 (pCons (rC (.int 2)) (pCons (rCB gMin (pCons (rVar 0) (pCons (rC (.int 32)) aNil))) aNil))) (gSet 1) bYes (rBin gNe (rBin gMod (rVar 0) (rVar 1)) (rC (.int 0))) [1]) aNil))))
def f_is_field : Fn := fnRun 1 2 b_is_field
def b_require_field : SemS :=
    (sIf (bNot (bTruth (rCall 1 f_is_field (aCons (rVar 0) aNil)))) sBot sNop)
def f_require_field : Fn := fnRun 1 1 b_require_field
def b_require_number : SemS :=
    (sIf (bNot (bTruth (rCall 3 f_is_within (aCons (rVar 1) (aCons (rC (.int 0)) (aCons (rBin gMinus (rVar 0) (rC (.int 1))) aNil)))))) sBot sNop)
def f_require_number : Fn := fnRun 2 2 b_require_number
def b_require_two : SemS :=
    (sSeq (sExpr (rCall 1 f_require_field (aCons (rVar 0) aNil)))
    (sSeq (sExpr (rCall 2 f_require_number (aCons (rVar 0) (aCons (rVar 1) aNil))))
    (sExpr (rCall 2 f_require_number (aCons (rVar 0) (aCons (rVar 2) aNil))))))
def f_require_two : Fn := fnRun 3 3 b_require_two
def b_require_many : SemS :=
    (sSeq (sExpr (rCall 1 f_require_field (aCons (rVar 0) aNil)))
    (sIf (bNot (bTruth (rCall 3 f_is_within (aCons (rVar 1) (aCons (rC (.int 0)) (aCons (rC (.int 1000000)) aNil)))))) sBot sNop))
def f_require_many : Fn := fnRun 2 2 b_require_many
def b_is_number : SemS :=
    (sSeq (sExpr (rCall 1 f_require_field (aCons (rVar 0) aNil)))
    (sRet (rCall 3 f_is_within (aCons (rVar 1) (aCons (rC (.int 0)) (aCons (rBin gMinus (rVar 0) (rC (.int 1))) aNil))))))
def f_is_number : Fn := fnRun 2 2 b_is_number
def b_plus : SemS :=
    (sSeq (sExpr (rCall 3 f_require_two (aCons (rVar 0) (aCons (rVar 1) (aCons (rVar 2) aNil)))))
    (sRet (rBin gMod (rBin gAdd (rVar 1) (rVar 2)) (rVar 0))))
def f_plus : Fn := fnRun 3 3 b_plus
def b_minus : SemS :=
    (sSeq (sExpr (rCall 3 f_require_two (aCons (rVar 0) (aCons (rVar 1) (aCons (rVar 2) aNil)))))
    (sRet (rBin gMod (rBin gMinus (rVar 1) (rVar 2)) (rVar 0))))
def f_minus : Fn := fnRun 3 3 b_minus
def b_times : SemS :=
    (sSeq (sExpr (rCall 3 f_require_two (aCons (rVar 0) (aCons (rVar 1) (aCons (rVar 2) aNil)))))
    (sRet (rBin gMod (rBin gMul (rVar 1) (rVar 2)) (rVar 0))))
def f_times : Fn := fnRun 3 3 b_times
def b_undone : SemS :=
    (sSeq (sExpr (rCall 1 f_require_field (aCons (rVar 0) aNil)))
    (sSeq (sExpr (rCall 2 f_require_number (aCons (rVar 0) (aCons (rVar 1) aNil))))
    (sSeq (sIf (bBool (rBin gEq (rVar 1) (rC (.int 0)))) sBot sNop)
    (sRet (rCall 2 f_undone_in (aCons (rVar 0) (aCons (rVar 1) aNil)))))))
def f_undone : Fn := fnRun 2 2 b_undone
def b_power : SemS :=
    (sSeq (sExpr (rCall 1 f_require_field (aCons (rVar 0) aNil)))
    (sSeq (sExpr (rCall 2 f_require_number (aCons (rVar 0) (aCons (rVar 1) aNil))))
    (sSeq (sExpr (rCall 2 f_require_many (aCons (rVar 0) (aCons (rVar 2) aNil))))
    (sRet (rCall 3 f_power_in (aCons (rVar 0) (aCons (rVar 1) (aCons (rVar 2) aNil))))))))
def f_power : Fn := fnRun 3 3 b_power
def b_power_sum : SemS :=
    (sSeq (sExpr (rCall 2 f_require_many (aCons (rVar 0) (aCons (rVar 1) aNil))))
    (sRet (rIf (bAnd (bBool (rBin gGt (rVar 1) (rC (.int 0)))) (bBool (rBin gEq (rBin gMod (rVar 1) (rBin gMinus (rVar 0) (rC (.int 1)))) (rC (.int 0))))) (rBin gMinus (rVar 0) (rC (.int 1))) (rC (.int 0)))))
def f_power_sum : Fn := fnRun 2 2 b_power_sum
def b__law_dice : SemS :=
    (sSeq (sSet 2 (rIf (bBool (rBin gLt (rVar 1) (rCB gLen (pCons (rVar 0) aNil)))) (rCB gInt (pCons (rIx (rVar 0) (rVar 1)) aNil)) (rBin gAdd (rBin gMul (rC (.int 103)) (rVar 1)) (rC (.int 67)))))
    (sSeq (sSet 3 (rBin gMod (rCB gMax (pCons (rC (.int 0)) (pCons (rBin gMinus (rCB gAbs (pCons (rVar 2) aNil)) (rBin gPow (rC (.int 10)) (rC (.int 16)))) aNil))) (rBin gMul (rBin gPow (rC (.int 10)) (rC (.int 57))) (rBin gPow (rC (.int 10)) (rC (.int 60))))))
    (sRet (rLst (aCons (rVar 3) (aCons (rBin gAdd (rBin gAdd (rBin gAdd (rBin gMul (rBin gMod (rCB gAbs (pCons (rVar 2) aNil)) (rC (.int 1152921504606846733))) (rC (.int 97))) (rBin gMul (rC (.int 1013)) (rVar 1))) (rBin gMul (rC (.int 53)) (rCB gInt (pCons (rBin gLt (rVar 2) (rC (.int 0))) aNil)))) (rC (.int 41))) (aCons (rC (.int 0)) aNil)))))))
def f__law_dice : Fn := fnRun 2 4 b__law_dice
def b__law_roll : SemS :=
    (sSeq (sIf (bBool (rBin gGt (rIx (rVar 0) (rC (.int 0))) (rC (.int 0)))) (sSeq (sSet 2 (rBin gMod (rCB gInt (pCons (rIx (rVar 0) (rC (.int 0))) aNil)) (rVar 1)))
    (sSeq (sSetItem 0 (rC (.int 0)) (rBin gDiv (rIx (rVar 0) (rC (.int 0))) (rVar 1)))
    (sRet (rVar 2)))) sNop)
    (sSeq (sSetItem 0 (rC (.int 2)) (rBin gAdd (rIx (rVar 0) (rC (.int 2))) (rC (.int 1))))
    (sSeq (sSet 3 (rBin gMod (rCB gInt (pCons (rBin gAdd (rIx (rVar 0) (rC (.int 1))) (rBin gMul (rC (.int 86028157)) (rIx (rVar 0) (rC (.int 2))))) aNil)) (rC (.int 2305843009213693487))))
    (sSeq (sSet 4 (rBin gAdd (rBin gMul (rBin gMod (rCB gInt (pCons (rBin gAdd (rBin gMul (rVar 3) (rVar 3)) (rBin gMul (rC (.int 101)) (rIx (rVar 0) (rC (.int 2))))) aNil)) (rC (.int 2305843009213693669))) (rC (.int 6700417))) (rVar 3)))
    (sRet (rBin gMod (rCB gInt (pCons (rBin gDiv (rVar 4) (rC (.int 65537))) aNil)) (rVar 1)))))))
def f__law_roll : Fn := fnRun 2 5 b__law_roll
def b__law_pick : SemS :=
    (sRet (rIx (rVar 1) (rCall 2 f__law_roll (aCons (rVar 0) (aCons (rCB gLen (pCons (rVar 1) aNil)) aNil)))))
def f__law_pick : Fn := fnRun 2 2 b__law_pick
def b__law_fd_primes : SemS :=
    (sRet (rLst (aCons (rC (.int 5)) (aCons (rC (.int 7)) (aCons (rC (.int 11)) (aCons (rC (.int 13)) (aCons (rC (.int 17)) (aCons (rC (.int 29)) (aCons (rC (.int 31)) (aCons (rC (.int 97)) (aCons (rC (.int 101)) (aCons (rC (.int 499)) (aCons (rC (.int 991)) (aCons (rC (.int 997)) aNil))))))))))))))
def f__law_fd_primes : Fn := fnRun 0 0 b__law_fd_primes
def b__law_fd_undone : SemS :=
    (sSeq (sFor (eRange2 (pCons (rC (.int 1)) (pCons (rVar 0) aNil))) (gSet 2) (sIf (bBool (rBin gEq (rBin gMod (rBin gMul (rVar 2) (rVar 1)) (rVar 0)) (rC (.int 1)))) (sRet (rVar 2)) sNop))
    (sRet (rC .non)))
def f__law_fd_undone : Fn := fnRun 2 3 b__law_fd_undone
def b__law_is_prime : SemS :=
    (sSeq (sIf (bOr (bNot (bTruth (rIsa .int (rVar 0)))) (bOr (bTruth (rIsa .bool (rVar 0))) (bNot (bBool (rChain gLe gLe (rC (.int 5)) (rVar 0) (rC (.int 997))))))) (sRet (rC (.bl false))) sNop)
    (sRet (rBin gEq (rComp (eRange2 (pCons (rC (.int 2)) (pCons (rVar 0) aNil))) (gSet 1) (bBool (rBin gEq (rBin gMod (rCB gInt (pCons (rVar 0) aNil)) (rVar 1)) (rC (.int 0)))) (rVar 1) [1]) (rLst aNil))))
def f__law_is_prime : Fn := fnRun 1 2 b__law_is_prime
def b__law_powers : SemS :=
    (sSeq (sPar2 3 4 (rLst aNil) (rC (.int 1)))
    (sSeq (sFor (eRange1 (pCons (rVar 2) aNil)) (gSet 5) (sSeq (sAppend 3 (rVar 4))
    (sSet 4 (rBin gMod (rCB gInt (pCons (rBin gMul (rVar 4) (rVar 1)) aNil)) (rVar 0)))))
    (sRet (rVar 3))))
def f__law_powers : Fn := fnRun 3 6 b__law_powers
def b__law_great_power : SemS :=
    (sSeq (sPar2 3 4 (rC (.int 1)) (rLst aNil))
    (sSeq (sFor (eRange1 (pCons (rC (.int 24)) aNil)) (gSet 5) (sSeq (sAppend 4 (rBin gMod (rCB gInt (pCons (rVar 2) aNil)) (rC (.int 2))))
    (sSet 2 (rBin gDiv (rVar 2) (rC (.int 2))))))
    (sSeq (sFor (eSeq (rRev (rVar 4))) (gSet 6) (sSeq (sSet 3 (rBin gMod (rCB gInt (pCons (rBin gMul (rVar 3) (rVar 3)) aNil)) (rVar 0)))
    (sSet 3 (rIf (bBool (rBin gEq (rVar 6) (rC (.int 1)))) (rBin gMod (rCB gInt (pCons (rBin gMul (rVar 3) (rVar 1)) aNil)) (rVar 0)) (rVar 3)))))
    (sRet (rVar 3)))))
def f__law_great_power : Fn := fnRun 3 7 b__law_great_power
def b__law_right : SemS :=
    (sSeq (sSet 1 (rCall 2 f__law_pick (aCons (rVar 0) (aCons (rCall0 f__law_fd_primes) aNil))))
    (sSeq (sAsg (gTupS [2, 3]) (rTup (aCons (rCall 2 f__law_roll (aCons (rVar 0) (aCons (rVar 1) aNil))) (aCons (rCall 2 f__law_pick (aCons (rVar 0) (aCons (rLst (aCons (rC (.int 0)) (aCons (rC (.int 1)) (aCons (rBin gMinus (rVar 1) (rC (.int 1))) (aCons (rCall 2 f__law_roll (aCons (rVar 0) (aCons (rVar 1) aNil))) aNil))))) aNil))) aNil))))
    (sSeq (sIf (bOr (bBool (rBin gNe (rCall 3 f_plus (aCons (rVar 1) (aCons (rVar 2) (aCons (rVar 3) aNil)))) (rBin gMod (rCB gInt (pCons (rBin gAdd (rVar 2) (rVar 3)) aNil)) (rVar 1)))) (bBool (rBin gNe (rCall 3 f_minus (aCons (rVar 1) (aCons (rVar 2) (aCons (rVar 3) aNil)))) (rBin gMod (rCB gInt (pCons (rBin gMinus (rVar 2) (rVar 3)) aNil)) (rVar 1))))) (sRet (rC (.bl false))) sNop)
    (sSeq (sIf (bOr (bBool (rBin gNe (rCall 3 f_times (aCons (rVar 1) (aCons (rVar 2) (aCons (rVar 3) aNil)))) (rBin gMod (rCB gInt (pCons (rBin gMul (rVar 2) (rVar 3)) aNil)) (rVar 1)))) (bBool (rBin gNe (rCall 3 f_times (aCons (rVar 1) (aCons (rVar 3) (aCons (rVar 2) aNil)))) (rCall 3 f_times (aCons (rVar 1) (aCons (rVar 2) (aCons (rVar 3) aNil))))))) (sRet (rC (.bl false))) sNop)
    (sSeq (sIf (bAnd (bBool (rBin gGt (rVar 2) (rC (.int 0)))) (bOr (bBool (rBin gNe (rCall 2 f_undone (aCons (rVar 1) (aCons (rVar 2) aNil))) (rCall 2 f__law_fd_undone (aCons (rVar 1) (aCons (rVar 2) aNil))))) (bBool (rBin gNe (rCall 3 f_times (aCons (rVar 1) (aCons (rVar 2) (aCons (rCall 2 f_undone (aCons (rVar 1) (aCons (rVar 2) aNil))) aNil)))) (rC (.int 1)))))) (sRet (rC (.bl false))) sNop)
    (sSeq (sSet 4 (rCall 3 f__law_powers (aCons (rVar 1) (aCons (rVar 2) (aCons (rC (.int 40)) aNil)))))
    (sSeq (sIf (bBool (rBin gNe (rComp (eRange1 (pCons (rC (.int 40)) aNil)) (gSet 8) bYes (rCall 3 f_power (aCons (rVar 1) (aCons (rVar 2) (aCons (rVar 8) aNil)))) [8]) (rVar 4))) (sRet (rC (.bl false))) sNop)
    (sSeq (sSet 5 (rCall 2 f__law_pick (aCons (rVar 0) (aCons (rLst (aCons (rBin gMinus (rVar 1) (rC (.int 1))) (aCons (rVar 1) (aCons (rBin gPow (rC (.int 10)) (rC (.int 6))) (aCons (rCall 2 f__law_roll (aCons (rVar 0) (aCons (rBin gPow (rC (.int 10)) (rC (.int 6))) aNil))) (aCons (rBin gMul (rBin gMinus (rVar 1) (rC (.int 1))) (rBin gAdd (rC (.int 1)) (rCall 2 f__law_roll (aCons (rVar 0) (aCons (rC (.int 900)) aNil))))) aNil)))))) aNil))))
    (sSeq (sIf (bBool (rBin gNe (rCall 3 f_power (aCons (rVar 1) (aCons (rVar 2) (aCons (rVar 5) aNil)))) (rCall 3 f__law_great_power (aCons (rVar 1) (aCons (rVar 2) (aCons (rVar 5) aNil)))))) (sRet (rC (.bl false))) sNop)
    (sSeq (sIf (bBool (rBin gNe (rCall 3 f_minus (aCons (rVar 1) (aCons (rC (.int 1)) (aCons (rCall 3 f_power (aCons (rVar 1) (aCons (rCall 3 f_minus (aCons (rVar 1) (aCons (rVar 2) (aCons (rVar 3) aNil)))) (aCons (rBin gMinus (rVar 1) (rC (.int 1))) aNil)))) aNil)))) (rCB gInt (pCons (rBin gEq (rVar 2) (rVar 3)) aNil)))) (sRet (rC (.bl false))) sNop)
    (sSeq (sSet 6 (rCall 2 f__law_pick (aCons (rVar 0) (aCons (rLst (aCons (rC (.int 0)) (aCons (rC (.int 1)) (aCons (rC (.int 2)) (aCons (rBin gMinus (rVar 1) (rC (.int 1))) (aCons (rBin gMinus (rVar 1) (rC (.int 2))) (aCons (rBin gMul (rC (.int 2)) (rBin gMinus (rVar 1) (rC (.int 1)))) (aCons (rCall 2 f__law_roll (aCons (rVar 0) (aCons (rC (.int 60)) aNil))) aNil)))))))) aNil))))
    (sSeq (sSet 7 (rCB gSum (pCons (rComp (eRange1 (pCons (rVar 1) aNil)) (gSet 9) bYes (rCall 3 f__law_great_power (aCons (rVar 1) (aCons (rVar 9) (aCons (rVar 6) aNil)))) [9]) aNil)))
    (sRet (rBin gEq (rCall 2 f_power_sum (aCons (rVar 1) (aCons (rVar 6) aNil))) (rBin gMod (rCB gInt (pCons (rVar 7) aNil)) (rVar 1))))))))))))))))
def f__law_right : Fn := fnRun 1 10 b__law_right
def b__law_judged : SemS :=
    (sSeq (sSet 1 (rBin gMinus (rCall 2 f__law_roll (aCons (rVar 0) (aCons (rC (.int 1010)) aNil))) (rC (.int 8))))
    (sSeq (sFor (eRange2 (pCons (rVar 1) (pCons (rBin gAdd (rVar 1) (rC (.int 12))) aNil))) (gSet 2) (sIf (bBool (rBin gNe (rCB gRepr (pCons (rCall 1 f_is_field (aCons (rVar 2) aNil)) aNil)) (rCB gRepr (pCons (rCall 1 f__law_is_prime (aCons (rVar 2) aNil)) aNil)))) (sRet (rC (.bl false))) sNop))
    (sSeq (sSet 3 (rCall 2 f__law_pick (aCons (rVar 0) (aCons (rCall0 f__law_fd_primes) aNil))))
    (sSeq (sSet 4 (rLst (aCons (rC (.int 0)) (aCons (rBin gMinus (rVar 3) (rC (.int 1))) (aCons (rVar 3) (aCons (rNeg (rC (.int 1))) (aCons (rC (.bl true)) (aCons (rC (.bl false)) (aCons (rC .non) (aCons (rC (.str (PySem.Str.ofString "1"))) (aCons (rTup (aCons (rC (.int 1)) aNil)) (aCons (rLst (aCons (rC (.int 0)) aNil)) (aCons rDict0 (aCons (rBin gPow (rC (.int 10)) (rC (.int 60))) (aCons (rCall 2 f__law_roll (aCons (rVar 0) (aCons (rBin gMul (rC (.int 2)) (rVar 3)) aNil))) aNil)))))))))))))))
    (sSeq (sFrz 4 (sSet 5 (rComp (eSeq (rVar 4)) (gSet 2) bYes (rAnd (rIsa .int (rVar 2)) (rAnd (rNot (rIsa .bool (rVar 2))) (rChain gLe gLt (rC (.int 0)) (rVar 2) (rVar 3)))) [2])))
    (sSeq (sFrz 5 (sFrz 4 (sIf (bBool (rBin gNe (rComp (eSeq (rVar 4)) (gSet 2) bYes (rCB gRepr (pCons (rCall 2 f_is_number (aCons (rVar 3) (aCons (rVar 2) aNil))) aNil)) [2]) (rComp (eSeq (rVar 5)) (gSet 7) bYes (rCB gRepr (pCons (rVar 7) aNil)) [7]))) (sRet (rC (.bl false))) sNop)))
    (sSeq (sSet 6 (rLst (aCons (rC .non) (aCons (rC (.bl true)) (aCons (rC (.str (PySem.Str.ofString "7"))) (aCons (rTup (aCons (rC (.int 7)) aNil)) (aCons (rLst (aCons (rC (.int 7)) aNil)) (aCons rDict0 (aCons (rBin gPow (rC (.int 10)) (rC (.int 60))) (aCons (rBin gMinus (rC (.int 7)) (rBin gPow (rC (.int 10)) (rC (.int 60)))) (aCons (rNeg (rC (.int 7))) (aCons (rC (.int 2)) (aCons (rC (.int 3)) (aCons (rC (.int 4)) (aCons (rC (.int 1009)) (aCons (rC (.int 961)) (aCons (rC (.int 841)) aNil)))))))))))))))))
    (sFrz 6 (sRet (rBin gEq (rComp (eSeq (rVar 6)) (gSet 2) (bBool (rBin gIsNot (rCall 1 f_is_field (aCons (rVar 2) aNil)) (rC (.bl false)))) (rVar 2) [2]) (rLst aNil)))))))))))
def f__law_judged : Fn := fnRun 1 8 b__law_judged
def b_law : SemS :=
    (sSeq (sFor (eRange1 (pCons (rCB gMax (pCons (rC (.int 1)) (pCons (rCB gMin (pCons (rC (.int 4)) (pCons (rCB gLen (pCons (rVar 0) aNil)) aNil))) aNil))) aNil)) (gSet 1) (sSeq (sRef 2 (rCall 2 f__law_dice (aCons (rVar 0) (aCons (rVar 1) aNil))))
    (sIf (bOr (bNot (bTruth (rCall 1 f__law_right (aCons (rVar 2) aNil)))) (bOr (bNot (bTruth (rCall 1 f__law_right (aCons (rVar 2) aNil)))) (bNot (bTruth (rCall 1 f__law_judged (aCons (rVar 2) aNil)))))) (sRet (rC (.bl false))) sNop)))
    (sSeq (sSet 3 (rLst (aCons (rCall 1 f_is_field (aCons (rC (.int 997)) aNil)) (aCons (rCall 1 f_is_field (aCons (rC (.int 5)) aNil)) (aCons (rCall 1 f_is_field (aCons (rC (.int 3)) aNil)) (aCons (rCall 2 f_undone (aCons (rC (.int 7)) (aCons (rC (.int 3)) aNil))) (aCons (rCall 3 f_power (aCons (rC (.int 7)) (aCons (rC (.int 3)) (aCons (rC (.int 5)) aNil)))) (aCons (rCall 3 f_power (aCons (rC (.int 7)) (aCons (rC (.int 0)) (aCons (rC (.int 0)) aNil)))) (aCons (rCall 3 f_power (aCons (rC (.int 7)) (aCons (rC (.int 0)) (aCons (rC (.int 9)) aNil)))) (aCons (rCall 2 f_power_sum (aCons (rC (.int 7)) (aCons (rC (.int 6)) aNil))) aNil))))))))))
    (sSeq (sIf (bOr (bBool (rBin gNe (rVar 3) (rLst (aCons (rC (.bl true)) (aCons (rC (.bl true)) (aCons (rC (.bl false)) (aCons (rC (.int 5)) (aCons (rC (.int 5)) (aCons (rC (.int 1)) (aCons (rC (.int 0)) (aCons (rC (.int 6)) aNil))))))))))) (bBool (rBin gNe (rLst (aCons (rCall 2 f_power_sum (aCons (rC (.int 7)) (aCons (rC (.int 4)) aNil))) (aCons (rCall 2 f_power_sum (aCons (rC (.int 7)) (aCons (rC (.int 0)) aNil))) (aCons (rCall 2 f_power_sum (aCons (rC (.int 997)) (aCons (rBin gPow (rC (.int 10)) (rC (.int 6))) aNil))) aNil)))) (rLst (aCons (rC (.int 0)) (aCons (rC (.int 0)) (aCons (rC (.int 0)) aNil))))))) (sRet (rC (.bl false))) sNop)
    (sRet (rAnd (rBin gEq (rLst (aCons (rC (.int 5)) (aCons (rC (.int 997)) (aCons (rC (.int 1000000)) (aCons (rC (.int 60)) aNil))))) (rLst (aCons (rC (.int 5)) (aCons (rC (.int 997)) (aCons (rBin gPow (rC (.int 10)) (rC (.int 6))) (aCons (rC (.int 60)) aNil)))))) (rBin gEq (rCall 2 f_power_sum (aCons (rC (.int 997)) (aCons (rBin gMul (rC (.int 996)) (rC (.int 1004))) aNil))) (rC (.int 996))))))))
def f_law : Fn := fnRun 1 4 b_law
end K00
namespace K00
open PySem PySem.Spec L2 Ev
/-! ### what the head says -/
structure Fx (mg : Str → Option Value) : Prop where
  z_abs : mg "abs" = none
  z_all : mg "all" = none
  z_bool : mg "bool" = none
  z_int : mg "int" = none
  z_isinstance : mg "isinstance" = none
  z_len : mg "len" = none
  z_max : mg "max" = none
  z_min : mg "min" = none
  z_range : mg "range" = none
  z_repr : mg "repr" = none
  z_sum : mg "sum" = none
  c_LEAST_FIELD : ∃ t, mg "LEAST_FIELD" = some (.int 5 t)
  c_MAX_FIELD : ∃ t, mg "MAX_FIELD" = some (.int 997 t)
  c_MAX_POWER : ∃ t, mg "MAX_POWER" = some (.int 1000000 t)
  c_MAX_SIDE : ∃ t, mg "MAX_SIDE" = some (.int 60 t)
  c_MOST_PART : ∃ t, mg "MOST_PART" = some (.int 32 t)
section
variable {P : Program} {w : World} {K : PySem.W.Frag} {mg : Str → Option Value} {base : Heap}
abbrev n_is_integer : List Str := ["value"]
theorem sc_is_integer : FnScope n_is_integer ["value"] (defScope s_is_integer) := ⟨rfl, rfl, rfl, by decide +kernel, rfl, by decide +kernel, by decide +kernel⟩
theorem k_is_integer (T : Fx mg) {a : Addr} {fd : FuncData} (F : FunD K "is_integer" "is_integer" (defArgs s_is_integer) (defBody s_is_integer) (defScope s_is_integer) [] [] a fd) (hm : mg "is_integer" = some (.ref a)) : FnS P w K mg base 1 "is_integer" ["value"] a fd f_is_integer :=
  FnS.ofD (N := n_is_integer) (n := 1) (m := 1) F sc_is_integer hm (F.bindsN fun _ _ _ _ _ _ us hl => match us, hl with | [_], _ => rfl) rfl rfl (by decide) fun cdv A outer s H E hr tk hp => ⟨_,
    (ss_one (ss_ret (se_and (se_isa .int (se_var 0) T.z_isinstance T.z_int) (se_one (se_not (se_isa .bool (se_var 0) T.z_isinstance T.z_bool))))))⟩
abbrev n_is_within : List Str := ["value", "least", "most"]
theorem sc_is_within : FnScope n_is_within ["value", "least", "most"] (defScope s_is_within) := ⟨rfl, rfl, rfl, by decide +kernel, rfl, by decide +kernel, by decide +kernel⟩
theorem k_is_within (T : Fx mg) {a : Addr} {fd : FuncData} (F : FunD K "is_within" "is_within" (defArgs s_is_within) (defBody s_is_within) (defScope s_is_within) [] [] a fd) (hm : mg "is_within" = some (.ref a)) {a_is_integer : Addr} {fd_is_integer : FuncData} (c_is_integer : FnS P w K mg base 1 "is_integer" ["value"] a_is_integer fd_is_integer f_is_integer) : FnS P w K mg base 2 "is_within" ["value", "least", "most"] a fd f_is_within :=
  FnS.ofD (N := n_is_within) (n := 3) (m := 3) F sc_is_within hm (F.bindsN fun _ _ _ _ _ _ us hl => match us, hl with | [_, _, _], _ => rfl) rfl rfl (by decide) fun cdv A outer s H E hr tk hp => ⟨_,
    (ss_one (ss_ret (se_and (se_call' c_is_integer tk (hr.mono (by decide)) (sa_cons (se_var 0) sa_nil)) (se_one (se_chain ops_le ops_le (se_var 1) (se_var 0) (se_var 2))))))⟩
abbrev n_undone_in : List Str := ["field", "number", "low", "high", "here", "there", "part"]
theorem sc_undone_in : FnScope n_undone_in ["field", "number"] (defScope s_undone_in) := ⟨rfl, rfl, rfl, by decide +kernel, rfl, by decide +kernel, by decide +kernel⟩
theorem k_undone_in (T : Fx mg) {a : Addr} {fd : FuncData} (F : FunD K "undone_in" "undone_in" (defArgs s_undone_in) (defBody s_undone_in) (defScope s_undone_in) [] [] a fd) (hm : mg "undone_in" = some (.ref a)) : FnS P w K mg base 1 "undone_in" ["field", "number"] a fd f_undone_in :=
  FnS.ofD (N := n_undone_in) (n := 2) (m := 7) F sc_undone_in hm (F.bindsN fun _ _ _ _ _ _ us hl => match us, hl with | [_, _], _ => rfl) rfl rfl (by decide) fun cdv A outer s H E hr tk hp => ⟨_,
    (ss_cons (ss_asg (se_tup (sa_cons se_int (sa_cons se_int (sa_cons (se_var 0) (sa_cons (se_var 1) sa_nil))))) (sg_tup rfl (sgs_cons 2 sc_undone_in.nd (sgs_cons 3 sc_undone_in.nd (sgs_cons 4 sc_undone_in.nd (sgs_cons 5 sc_undone_in.nd sgs_nil))))))
    (ss_cons (ss_while hp (st_cmp (ops_ne hr.units) (se_var 5) se_int) (ss_cons (ss_set 6 sc_undone_in.nd (se_bin ops_div (se_var 4) (se_var 5)))
    (ss_cons (ss_par2 4 5 rfl sc_undone_in.nd (se_var 5) (se_bin ops_sub (se_var 4) (se_bin ops_mul (se_var 6) (se_var 5))))
    (ss_one (ss_par2 2 3 rfl sc_undone_in.nd (se_var 3) (se_bin ops_sub (se_var 2) (se_bin ops_mul (se_var 6) (se_var 3))))))))
    (ss_one (ss_ret (se_bin ops_mod (se_var 2) (se_var 0))))))⟩
abbrev n_power_in : List Str := ["field", "number", "many", "found", "here", "left"]
theorem sc_power_in : FnScope n_power_in ["field", "number", "many"] (defScope s_power_in) := ⟨rfl, rfl, rfl, by decide +kernel, rfl, by decide +kernel, by decide +kernel⟩
theorem k_power_in (T : Fx mg) {a : Addr} {fd : FuncData} (F : FunD K "power_in" "power_in" (defArgs s_power_in) (defBody s_power_in) (defScope s_power_in) [] [] a fd) (hm : mg "power_in" = some (.ref a)) : FnS P w K mg base 1 "power_in" ["field", "number", "many"] a fd f_power_in :=
  FnS.ofD (N := n_power_in) (n := 3) (m := 6) F sc_power_in hm (F.bindsN fun _ _ _ _ _ _ us hl => match us, hl with | [_, _, _], _ => rfl) rfl rfl (by decide) fun cdv A outer s H E hr tk hp => ⟨_,
    (ss_cons (ss_par3 3 4 5 rfl sc_power_in.nd se_int (se_var 1) (se_var 2))
    (ss_cons (ss_while hp (st_cmp ops_gt (se_var 5) se_int) (ss_cons (ss_if (st_cmp (ops_eq hr.units) (se_bin ops_mod (se_var 5) se_int) se_int) (ss_one (ss_set 3 sc_power_in.nd (se_bin ops_mod (se_bin ops_mul (se_var 3) (se_var 4)) (se_var 0)))) ss_nil)
    (ss_one (ss_par2 4 5 rfl sc_power_in.nd (se_bin ops_mod (se_bin ops_mul (se_var 4) (se_var 4)) (se_var 0)) (se_bin ops_div (se_var 5) se_int)))))
    (ss_one (ss_ret (se_var 3)))))⟩
abbrev n_is_field : List Str := ["value", "part"]
theorem sc_is_field : FnScope n_is_field ["value"] (defScope s_is_field) := ⟨rfl, rfl, rfl, by decide +kernel, rfl, by decide +kernel, by decide +kernel⟩
theorem k_is_field (T : Fx mg) {a : Addr} {fd : FuncData} (F : FunD K "is_field" "is_field" (defArgs s_is_field) (defBody s_is_field) (defScope s_is_field) [] [] a fd) (hm : mg "is_field" = some (.ref a)) {a_is_within : Addr} {fd_is_within : FuncData} (c_is_within : FnS P w K mg base 2 "is_within" ["value", "least", "most"] a_is_within fd_is_within f_is_within) : FnS P w K mg base 3 "is_field" ["value"] a fd f_is_field :=
  FnS.ofD (N := n_is_field) (n := 1) (m := 2) F sc_is_field hm (F.bindsN fun _ _ _ _ _ _ us hl => match us, hl with | [_], _ => rfl) rfl rfl (by decide) fun cdv A outer s H E hr tk hp => ⟨_,
    (ss_cons (ss_if (st_not (st_truth (se_call' c_is_within tk (hr.mono (by decide)) (sa_cons (se_var 0) (sa_cons (se_globI T.c_LEAST_FIELD) (sa_cons (se_globI T.c_MAX_FIELD) sa_nil)))))) (ss_one (ss_ret se_bl)) ss_nil)
    (ss_one (ss_ret (se_callB (calls_all rfl) T.z_all (sp_cons (se_lc' (own := [("part", 1)]) rfl sc_is_field.nd (si_range2 T.z_range (sp_cons se_int (sp_cons (se_callB (calls_min rfl) T.z_min (sp_cons (se_var 0) (sp_cons (se_globI T.c_MOST_PART) sp_nil))) sp_nil))) (blkOk_by (N := n_is_field) (sc := defScope s_is_field) (by decide +kernel)) (fun _ _ _ _ _ => (sg_name 1 sc_is_field.nd)) spt_nil (fun _ _ _ _ _ => spt_nil) (se_cmp (ops_ne hr.units) (se_bin ops_mod (se_var 0) (se_var 1)) se_int) (fun _ _ _ _ _ => (se_cmp (ops_ne hr.units) (se_bin ops_mod (se_var 0) (se_var 1)) se_int))) sp_nil)))))⟩
abbrev n_require_field : List Str := ["value"]
theorem sc_require_field : FnScope n_require_field ["value"] (defScope s_require_field) := ⟨rfl, rfl, rfl, by decide +kernel, rfl, by decide +kernel, by decide +kernel⟩
theorem k_require_field (T : Fx mg) {a : Addr} {fd : FuncData} (F : FunD K "require_field" "require_field" (defArgs s_require_field) (defBody s_require_field) (defScope s_require_field) [] [] a fd) (hm : mg "require_field" = some (.ref a)) {a_is_field : Addr} {fd_is_field : FuncData} (c_is_field : FnS P w K mg base 3 "is_field" ["value"] a_is_field fd_is_field f_is_field) : FnS P w K mg base 4 "require_field" ["value"] a fd f_require_field :=
  FnS.ofD (N := n_require_field) (n := 1) (m := 1) F sc_require_field hm (F.bindsN fun _ _ _ _ _ _ us hl => match us, hl with | [_], _ => rfl) rfl rfl (by decide) fun cdv A outer s H E hr tk hp => ⟨_,
    (ss_one (ss_if (st_not (st_truth (se_call' c_is_field tk (hr.mono (by decide)) (sa_cons (se_var 0) sa_nil)))) (ss_one ss_never) ss_nil))⟩
abbrev n_require_number : List Str := ["field", "value"]
theorem sc_require_number : FnScope n_require_number ["field", "value"] (defScope s_require_number) := ⟨rfl, rfl, rfl, by decide +kernel, rfl, by decide +kernel, by decide +kernel⟩
theorem k_require_number (T : Fx mg) {a : Addr} {fd : FuncData} (F : FunD K "require_number" "require_number" (defArgs s_require_number) (defBody s_require_number) (defScope s_require_number) [] [] a fd) (hm : mg "require_number" = some (.ref a)) {a_is_within : Addr} {fd_is_within : FuncData} (c_is_within : FnS P w K mg base 2 "is_within" ["value", "least", "most"] a_is_within fd_is_within f_is_within) : FnS P w K mg base 3 "require_number" ["field", "value"] a fd f_require_number :=
  FnS.ofD (N := n_require_number) (n := 2) (m := 2) F sc_require_number hm (F.bindsN fun _ _ _ _ _ _ us hl => match us, hl with | [_, _], _ => rfl) rfl rfl (by decide) fun cdv A outer s H E hr tk hp => ⟨_,
    (ss_one (ss_if (st_not (st_truth (se_call' c_is_within tk (hr.mono (by decide)) (sa_cons (se_var 1) (sa_cons se_int (sa_cons (se_bin ops_sub (se_var 0) se_int) sa_nil)))))) (ss_one ss_never) ss_nil))⟩
abbrev n_require_two : List Str := ["field", "one", "other"]
theorem sc_require_two : FnScope n_require_two ["field", "one", "other"] (defScope s_require_two) := ⟨rfl, rfl, rfl, by decide +kernel, rfl, by decide +kernel, by decide +kernel⟩
theorem k_require_two (T : Fx mg) {a : Addr} {fd : FuncData} (F : FunD K "require_two" "require_two" (defArgs s_require_two) (defBody s_require_two) (defScope s_require_two) [] [] a fd) (hm : mg "require_two" = some (.ref a)) {a_require_number : Addr} {fd_require_number : FuncData} (c_require_number : FnS P w K mg base 3 "require_number" ["field", "value"] a_require_number fd_require_number f_require_number) {a_require_field : Addr} {fd_require_field : FuncData} (c_require_field : FnS P w K mg base 4 "require_field" ["value"] a_require_field fd_require_field f_require_field) : FnS P w K mg base 5 "require_two" ["field", "one", "other"] a fd f_require_two :=
  FnS.ofD (N := n_require_two) (n := 3) (m := 3) F sc_require_two hm (F.bindsN fun _ _ _ _ _ _ us hl => match us, hl with | [_, _, _], _ => rfl) rfl rfl (by decide) fun cdv A outer s H E hr tk hp => ⟨_,
    (ss_cons (ss_expr (se_call' c_require_field tk (hr.mono (by decide)) (sa_cons (se_var 0) sa_nil)))
    (ss_cons (ss_expr (se_call' c_require_number tk (hr.mono (by decide)) (sa_cons (se_var 0) (sa_cons (se_var 1) sa_nil))))
    (ss_one (ss_expr (se_call' c_require_number tk (hr.mono (by decide)) (sa_cons (se_var 0) (sa_cons (se_var 2) sa_nil)))))))⟩
abbrev n_require_many : List Str := ["field", "many"]
theorem sc_require_many : FnScope n_require_many ["field", "many"] (defScope s_require_many) := ⟨rfl, rfl, rfl, by decide +kernel, rfl, by decide +kernel, by decide +kernel⟩
theorem k_require_many (T : Fx mg) {a : Addr} {fd : FuncData} (F : FunD K "require_many" "require_many" (defArgs s_require_many) (defBody s_require_many) (defScope s_require_many) [] [] a fd) (hm : mg "require_many" = some (.ref a)) {a_is_within : Addr} {fd_is_within : FuncData} (c_is_within : FnS P w K mg base 2 "is_within" ["value", "least", "most"] a_is_within fd_is_within f_is_within) {a_require_field : Addr} {fd_require_field : FuncData} (c_require_field : FnS P w K mg base 4 "require_field" ["value"] a_require_field fd_require_field f_require_field) : FnS P w K mg base 5 "require_many" ["field", "many"] a fd f_require_many :=
  FnS.ofD (N := n_require_many) (n := 2) (m := 2) F sc_require_many hm (F.bindsN fun _ _ _ _ _ _ us hl => match us, hl with | [_, _], _ => rfl) rfl rfl (by decide) fun cdv A outer s H E hr tk hp => ⟨_,
    (ss_cons (ss_expr (se_call' c_require_field tk (hr.mono (by decide)) (sa_cons (se_var 0) sa_nil)))
    (ss_one (ss_if (st_not (st_truth (se_call' c_is_within tk (hr.mono (by decide)) (sa_cons (se_var 1) (sa_cons se_int (sa_cons (se_globI T.c_MAX_POWER) sa_nil)))))) (ss_one ss_never) ss_nil)))⟩
abbrev n_is_number : List Str := ["field", "value"]
theorem sc_is_number : FnScope n_is_number ["field", "value"] (defScope s_is_number) := ⟨rfl, rfl, rfl, by decide +kernel, rfl, by decide +kernel, by decide +kernel⟩
theorem k_is_number (T : Fx mg) {a : Addr} {fd : FuncData} (F : FunD K "is_number" "is_number" (defArgs s_is_number) (defBody s_is_number) (defScope s_is_number) [] [] a fd) (hm : mg "is_number" = some (.ref a)) {a_is_within : Addr} {fd_is_within : FuncData} (c_is_within : FnS P w K mg base 2 "is_within" ["value", "least", "most"] a_is_within fd_is_within f_is_within) {a_require_field : Addr} {fd_require_field : FuncData} (c_require_field : FnS P w K mg base 4 "require_field" ["value"] a_require_field fd_require_field f_require_field) : FnS P w K mg base 5 "is_number" ["field", "value"] a fd f_is_number :=
  FnS.ofD (N := n_is_number) (n := 2) (m := 2) F sc_is_number hm (F.bindsN fun _ _ _ _ _ _ us hl => match us, hl with | [_, _], _ => rfl) rfl rfl (by decide) fun cdv A outer s H E hr tk hp => ⟨_,
    (ss_cons (ss_expr (se_call' c_require_field tk (hr.mono (by decide)) (sa_cons (se_var 0) sa_nil)))
    (ss_one (ss_ret (se_call' c_is_within tk (hr.mono (by decide)) (sa_cons (se_var 1) (sa_cons se_int (sa_cons (se_bin ops_sub (se_var 0) se_int) sa_nil)))))))⟩
abbrev n_plus : List Str := ["field", "one", "other"]
theorem sc_plus : FnScope n_plus ["field", "one", "other"] (defScope s_plus) := ⟨rfl, rfl, rfl, by decide +kernel, rfl, by decide +kernel, by decide +kernel⟩
theorem k_plus (T : Fx mg) {a : Addr} {fd : FuncData} (F : FunD K "plus" "plus" (defArgs s_plus) (defBody s_plus) (defScope s_plus) [] [] a fd) (hm : mg "plus" = some (.ref a)) {a_require_two : Addr} {fd_require_two : FuncData} (c_require_two : FnS P w K mg base 5 "require_two" ["field", "one", "other"] a_require_two fd_require_two f_require_two) : FnS P w K mg base 6 "plus" ["field", "one", "other"] a fd f_plus :=
  FnS.ofD (N := n_plus) (n := 3) (m := 3) F sc_plus hm (F.bindsN fun _ _ _ _ _ _ us hl => match us, hl with | [_, _, _], _ => rfl) rfl rfl (by decide) fun cdv A outer s H E hr tk hp => ⟨_,
    (ss_cons (ss_expr (se_call' c_require_two tk (hr.mono (by decide)) (sa_cons (se_var 0) (sa_cons (se_var 1) (sa_cons (se_var 2) sa_nil)))))
    (ss_one (ss_ret (se_bin ops_mod (se_bin ops_add (se_var 1) (se_var 2)) (se_var 0)))))⟩
abbrev n_minus : List Str := ["field", "one", "other"]
theorem sc_minus : FnScope n_minus ["field", "one", "other"] (defScope s_minus) := ⟨rfl, rfl, rfl, by decide +kernel, rfl, by decide +kernel, by decide +kernel⟩
theorem k_minus (T : Fx mg) {a : Addr} {fd : FuncData} (F : FunD K "minus" "minus" (defArgs s_minus) (defBody s_minus) (defScope s_minus) [] [] a fd) (hm : mg "minus" = some (.ref a)) {a_require_two : Addr} {fd_require_two : FuncData} (c_require_two : FnS P w K mg base 5 "require_two" ["field", "one", "other"] a_require_two fd_require_two f_require_two) : FnS P w K mg base 6 "minus" ["field", "one", "other"] a fd f_minus :=
  FnS.ofD (N := n_minus) (n := 3) (m := 3) F sc_minus hm (F.bindsN fun _ _ _ _ _ _ us hl => match us, hl with | [_, _, _], _ => rfl) rfl rfl (by decide) fun cdv A outer s H E hr tk hp => ⟨_,
    (ss_cons (ss_expr (se_call' c_require_two tk (hr.mono (by decide)) (sa_cons (se_var 0) (sa_cons (se_var 1) (sa_cons (se_var 2) sa_nil)))))
    (ss_one (ss_ret (se_bin ops_mod (se_bin ops_sub (se_var 1) (se_var 2)) (se_var 0)))))⟩
abbrev n_times : List Str := ["field", "one", "other"]
theorem sc_times : FnScope n_times ["field", "one", "other"] (defScope s_times) := ⟨rfl, rfl, rfl, by decide +kernel, rfl, by decide +kernel, by decide +kernel⟩
theorem k_times (T : Fx mg) {a : Addr} {fd : FuncData} (F : FunD K "times" "times" (defArgs s_times) (defBody s_times) (defScope s_times) [] [] a fd) (hm : mg "times" = some (.ref a)) {a_require_two : Addr} {fd_require_two : FuncData} (c_require_two : FnS P w K mg base 5 "require_two" ["field", "one", "other"] a_require_two fd_require_two f_require_two) : FnS P w K mg base 6 "times" ["field", "one", "other"] a fd f_times :=
  FnS.ofD (N := n_times) (n := 3) (m := 3) F sc_times hm (F.bindsN fun _ _ _ _ _ _ us hl => match us, hl with | [_, _, _], _ => rfl) rfl rfl (by decide) fun cdv A outer s H E hr tk hp => ⟨_,
    (ss_cons (ss_expr (se_call' c_require_two tk (hr.mono (by decide)) (sa_cons (se_var 0) (sa_cons (se_var 1) (sa_cons (se_var 2) sa_nil)))))
    (ss_one (ss_ret (se_bin ops_mod (se_bin ops_mul (se_var 1) (se_var 2)) (se_var 0)))))⟩
abbrev n_undone : List Str := ["field", "number"]
theorem sc_undone : FnScope n_undone ["field", "number"] (defScope s_undone) := ⟨rfl, rfl, rfl, by decide +kernel, rfl, by decide +kernel, by decide +kernel⟩
theorem k_undone (T : Fx mg) {a : Addr} {fd : FuncData} (F : FunD K "undone" "undone" (defArgs s_undone) (defBody s_undone) (defScope s_undone) [] [] a fd) (hm : mg "undone" = some (.ref a)) {a_undone_in : Addr} {fd_undone_in : FuncData} (c_undone_in : FnS P w K mg base 1 "undone_in" ["field", "number"] a_undone_in fd_undone_in f_undone_in) {a_require_number : Addr} {fd_require_number : FuncData} (c_require_number : FnS P w K mg base 3 "require_number" ["field", "value"] a_require_number fd_require_number f_require_number) {a_require_field : Addr} {fd_require_field : FuncData} (c_require_field : FnS P w K mg base 4 "require_field" ["value"] a_require_field fd_require_field f_require_field) : FnS P w K mg base 5 "undone" ["field", "number"] a fd f_undone :=
  FnS.ofD (N := n_undone) (n := 2) (m := 2) F sc_undone hm (F.bindsN fun _ _ _ _ _ _ us hl => match us, hl with | [_, _], _ => rfl) rfl rfl (by decide) fun cdv A outer s H E hr tk hp => ⟨_,
    (ss_cons (ss_expr (se_call' c_require_field tk (hr.mono (by decide)) (sa_cons (se_var 0) sa_nil)))
    (ss_cons (ss_expr (se_call' c_require_number tk (hr.mono (by decide)) (sa_cons (se_var 0) (sa_cons (se_var 1) sa_nil))))
    (ss_cons (ss_if (st_cmp (ops_eq hr.units) (se_var 1) se_int) (ss_one ss_never) ss_nil)
    (ss_one (ss_ret (se_call' c_undone_in tk (hr.mono (by decide)) (sa_cons (se_var 0) (sa_cons (se_var 1) sa_nil))))))))⟩
abbrev n_power : List Str := ["field", "number", "many"]
theorem sc_power : FnScope n_power ["field", "number", "many"] (defScope s_power) := ⟨rfl, rfl, rfl, by decide +kernel, rfl, by decide +kernel, by decide +kernel⟩
theorem k_power (T : Fx mg) {a : Addr} {fd : FuncData} (F : FunD K "power" "power" (defArgs s_power) (defBody s_power) (defScope s_power) [] [] a fd) (hm : mg "power" = some (.ref a)) {a_power_in : Addr} {fd_power_in : FuncData} (c_power_in : FnS P w K mg base 1 "power_in" ["field", "number", "many"] a_power_in fd_power_in f_power_in) {a_require_many : Addr} {fd_require_many : FuncData} (c_require_many : FnS P w K mg base 5 "require_many" ["field", "many"] a_require_many fd_require_many f_require_many) {a_require_number : Addr} {fd_require_number : FuncData} (c_require_number : FnS P w K mg base 3 "require_number" ["field", "value"] a_require_number fd_require_number f_require_number) {a_require_field : Addr} {fd_require_field : FuncData} (c_require_field : FnS P w K mg base 4 "require_field" ["value"] a_require_field fd_require_field f_require_field) : FnS P w K mg base 6 "power" ["field", "number", "many"] a fd f_power :=
  FnS.ofD (N := n_power) (n := 3) (m := 3) F sc_power hm (F.bindsN fun _ _ _ _ _ _ us hl => match us, hl with | [_, _, _], _ => rfl) rfl rfl (by decide) fun cdv A outer s H E hr tk hp => ⟨_,
    (ss_cons (ss_expr (se_call' c_require_field tk (hr.mono (by decide)) (sa_cons (se_var 0) sa_nil)))
    (ss_cons (ss_expr (se_call' c_require_number tk (hr.mono (by decide)) (sa_cons (se_var 0) (sa_cons (se_var 1) sa_nil))))
    (ss_cons (ss_expr (se_call' c_require_many tk (hr.mono (by decide)) (sa_cons (se_var 0) (sa_cons (se_var 2) sa_nil))))
    (ss_one (ss_ret (se_call' c_power_in tk (hr.mono (by decide)) (sa_cons (se_var 0) (sa_cons (se_var 1) (sa_cons (se_var 2) sa_nil)))))))))⟩
abbrev n_power_sum : List Str := ["field", "many"]
theorem sc_power_sum : FnScope n_power_sum ["field", "many"] (defScope s_power_sum) := ⟨rfl, rfl, rfl, by decide +kernel, rfl, by decide +kernel, by decide +kernel⟩
theorem k_power_sum (T : Fx mg) {a : Addr} {fd : FuncData} (F : FunD K "power_sum" "power_sum" (defArgs s_power_sum) (defBody s_power_sum) (defScope s_power_sum) [] [] a fd) (hm : mg "power_sum" = some (.ref a)) {a_require_many : Addr} {fd_require_many : FuncData} (c_require_many : FnS P w K mg base 5 "require_many" ["field", "many"] a_require_many fd_require_many f_require_many) : FnS P w K mg base 6 "power_sum" ["field", "many"] a fd f_power_sum :=
  FnS.ofD (N := n_power_sum) (n := 2) (m := 2) F sc_power_sum hm (F.bindsN fun _ _ _ _ _ _ us hl => match us, hl with | [_, _], _ => rfl) rfl rfl (by decide) fun cdv A outer s H E hr tk hp => ⟨_,
    (ss_cons (ss_expr (se_call' c_require_many tk (hr.mono (by decide)) (sa_cons (se_var 0) (sa_cons (se_var 1) sa_nil))))
    (ss_one (ss_ret (se_if (STw.st (sw_and (st_cmp ops_gt (se_var 1) se_int) (sw_and1 (st_cmp (ops_eq hr.units) (se_bin ops_mod (se_var 1) (se_bin ops_sub (se_var 0) se_int)) se_int)))) (se_bin ops_sub (se_var 0) se_int) se_int))))⟩
abbrev n__law_dice : List Str := ["_law_script", "_law_spot", "_law_cell", "_law_left"]
theorem sc__law_dice : FnScope n__law_dice ["_law_script", "_law_spot"] (defScope s__law_dice) := ⟨rfl, rfl, rfl, by decide +kernel, rfl, by decide +kernel, by decide +kernel⟩
theorem k__law_dice (T : Fx mg) {a : Addr} {fd : FuncData} (F : FunD K "_law_dice" "_law_dice" (defArgs s__law_dice) (defBody s__law_dice) (defScope s__law_dice) [] [] a fd) (hm : mg "_law_dice" = some (.ref a)) : FnS P w K mg base 1 "_law_dice" ["_law_script", "_law_spot"] a fd f__law_dice :=
  FnS.ofD (N := n__law_dice) (n := 2) (m := 4) F sc__law_dice hm (F.bindsN fun _ _ _ _ _ _ us hl => match us, hl with | [_, _], _ => rfl) rfl rfl (by decide) fun cdv A outer s H E hr tk hp => ⟨_,
    (ss_cons (ss_set 2 sc__law_dice.nd (se_if (st_cmp ops_lt (se_var 1) (se_callB calls_len T.z_len (sp_cons (se_var 0) sp_nil))) (se_callTy calls_int T.z_int (sp_cons (se_ix (se_var 0) (se_var 1)) sp_nil)) (se_bin ops_add (se_bin ops_mul se_int (se_var 1)) se_int)))
    (ss_cons (ss_set 3 sc__law_dice.nd (se_bin ops_mod (se_callB (calls_max rfl) T.z_max (sp_cons se_int (sp_cons (se_bin ops_sub (se_callB calls_abs T.z_abs (sp_cons (se_var 2) sp_nil)) (se_bin ops_pow se_int se_int)) sp_nil))) (se_bin ops_mul (se_bin ops_pow se_int se_int) (se_bin ops_pow se_int se_int))))
    (ss_one (ss_ret (se_lst (sa_cons (se_var 3) (sa_cons (se_bin ops_add (se_bin ops_add (se_bin ops_add (se_bin ops_mul (se_bin ops_mod (se_callB calls_abs T.z_abs (sp_cons (se_var 2) sp_nil)) se_int) se_int) (se_bin ops_mul se_int (se_var 1))) (se_bin ops_mul se_int (se_callTy calls_int T.z_int (sp_cons (se_cmp ops_lt (se_var 2) se_int) sp_nil)))) se_int) (sa_cons se_int sa_nil))))))))⟩
abbrev n__law_roll : List Str := ["_law_dice_here", "_law_most", "_law_found", "_law_one", "_law_two"]
theorem sc__law_roll : FnScope n__law_roll ["_law_dice_here", "_law_most"] (defScope s__law_roll) := ⟨rfl, rfl, rfl, by decide +kernel, rfl, by decide +kernel, by decide +kernel⟩
theorem k__law_roll (T : Fx mg) {a : Addr} {fd : FuncData} (F : FunD K "_law_roll" "_law_roll" (defArgs s__law_roll) (defBody s__law_roll) (defScope s__law_roll) [] [] a fd) (hm : mg "_law_roll" = some (.ref a)) : FnS P w K mg base 1 "_law_roll" ["_law_dice_here", "_law_most"] a fd f__law_roll :=
  FnS.ofD (N := n__law_roll) (n := 2) (m := 5) F sc__law_roll hm (F.bindsN fun _ _ _ _ _ _ us hl => match us, hl with | [_, _], _ => rfl) rfl rfl (by decide) fun cdv A outer s H E hr tk hp => ⟨_,
    (ss_cons (ss_if (st_cmp ops_gt (se_ix (se_var 0) se_int) se_int) (ss_cons (ss_set 2 sc__law_roll.nd (se_bin ops_mod (se_callTy calls_int T.z_int (sp_cons (se_ix (se_var 0) se_int) sp_nil)) (se_var 1)))
    (ss_cons (ss_setitem 0 (se_bin ops_div (se_ix (se_var 0) se_int) (se_var 1)) se_int)
    (ss_one (ss_ret (se_var 2))))) ss_nil)
    (ss_cons (ss_setitem 0 (se_bin ops_add (se_ix (se_var 0) se_int) se_int) se_int)
    (ss_cons (ss_set 3 sc__law_roll.nd (se_bin ops_mod (se_callTy calls_int T.z_int (sp_cons (se_bin ops_add (se_ix (se_var 0) se_int) (se_bin ops_mul se_int (se_ix (se_var 0) se_int))) sp_nil)) se_int))
    (ss_cons (ss_set 4 sc__law_roll.nd (se_bin ops_add (se_bin ops_mul (se_bin ops_mod (se_callTy calls_int T.z_int (sp_cons (se_bin ops_add (se_bin ops_mul (se_var 3) (se_var 3)) (se_bin ops_mul se_int (se_ix (se_var 0) se_int))) sp_nil)) se_int) se_int) (se_var 3)))
    (ss_one (ss_ret (se_bin ops_mod (se_callTy calls_int T.z_int (sp_cons (se_bin ops_div (se_var 4) se_int) sp_nil)) (se_var 1))))))))⟩
abbrev n__law_pick : List Str := ["_law_dice_here", "_law_items"]
theorem sc__law_pick : FnScope n__law_pick ["_law_dice_here", "_law_items"] (defScope s__law_pick) := ⟨rfl, rfl, rfl, by decide +kernel, rfl, by decide +kernel, by decide +kernel⟩
theorem k__law_pick (T : Fx mg) {a : Addr} {fd : FuncData} (F : FunD K "_law_pick" "_law_pick" (defArgs s__law_pick) (defBody s__law_pick) (defScope s__law_pick) [] [] a fd) (hm : mg "_law_pick" = some (.ref a)) {a__law_roll : Addr} {fd__law_roll : FuncData} (c__law_roll : FnS P w K mg base 1 "_law_roll" ["_law_dice_here", "_law_most"] a__law_roll fd__law_roll f__law_roll) : FnS P w K mg base 2 "_law_pick" ["_law_dice_here", "_law_items"] a fd f__law_pick :=
  FnS.ofD (N := n__law_pick) (n := 2) (m := 2) F sc__law_pick hm (F.bindsN fun _ _ _ _ _ _ us hl => match us, hl with | [_, _], _ => rfl) rfl rfl (by decide) fun cdv A outer s H E hr tk hp => ⟨_,
    (ss_one (ss_ret (se_ix (se_var 1) (se_call' c__law_roll tk (hr.mono (by decide)) (sa_cons (se_var 0) (sa_cons (se_callB calls_len T.z_len (sp_cons (se_var 1) sp_nil)) sa_nil))))))⟩
abbrev n__law_fd_primes : List Str := []
theorem sc__law_fd_primes : FnScope n__law_fd_primes [] (defScope s__law_fd_primes) := ⟨rfl, rfl, rfl, by decide +kernel, rfl, by decide +kernel, by decide +kernel⟩
theorem k__law_fd_primes (T : Fx mg) {a : Addr} {fd : FuncData} (F : FunD K "_law_fd_primes" "_law_fd_primes" (defArgs s__law_fd_primes) (defBody s__law_fd_primes) (defScope s__law_fd_primes) [] [] a fd) (hm : mg "_law_fd_primes" = some (.ref a)) : FnS P w K mg base 1 "_law_fd_primes" [] a fd f__law_fd_primes :=
  FnS.ofD (N := n__law_fd_primes) (n := 0) (m := 0) F sc__law_fd_primes hm (F.bindsN fun _ _ _ _ _ _ us hl => match us, hl with | [], _ => rfl) rfl rfl (by decide) fun cdv A outer s H E hr tk hp => ⟨_,
    (ss_one (ss_ret (se_lst (sa_cons se_int (sa_cons se_int (sa_cons se_int (sa_cons se_int (sa_cons se_int (sa_cons se_int (sa_cons se_int (sa_cons se_int (sa_cons se_int (sa_cons se_int (sa_cons se_int (sa_cons se_int sa_nil)))))))))))))))⟩
abbrev n__law_fd_undone : List Str := ["_law_field_here", "_law_number", "_law_one"]
theorem sc__law_fd_undone : FnScope n__law_fd_undone ["_law_field_here", "_law_number"] (defScope s__law_fd_undone) := ⟨rfl, rfl, rfl, by decide +kernel, rfl, by decide +kernel, by decide +kernel⟩
theorem k__law_fd_undone (T : Fx mg) {a : Addr} {fd : FuncData} (F : FunD K "_law_fd_undone" "_law_fd_undone" (defArgs s__law_fd_undone) (defBody s__law_fd_undone) (defScope s__law_fd_undone) [] [] a fd) (hm : mg "_law_fd_undone" = some (.ref a)) : FnS P w K mg base 1 "_law_fd_undone" ["_law_field_here", "_law_number"] a fd f__law_fd_undone :=
  FnS.ofD (N := n__law_fd_undone) (n := 2) (m := 3) F sc__law_fd_undone hm (F.bindsN fun _ _ _ _ _ _ us hl => match us, hl with | [_, _], _ => rfl) rfl rfl (by decide) fun cdv A outer s H E hr tk hp => ⟨_,
    (ss_cons (ss_for hp rfl (si_range2 T.z_range (sp_cons se_int (sp_cons (se_var 0) sp_nil))) (sg_name 2 sc__law_fd_undone.nd) (ss_one (ss_if (st_cmp (ops_eq hr.units) (se_bin ops_mod (se_bin ops_mul (se_var 2) (se_var 1)) (se_var 0)) se_int) (ss_one (ss_ret (se_var 2))) ss_nil)))
    (ss_one (ss_ret se_non)))⟩
abbrev n__law_is_prime : List Str := ["_law_value", "_law_part"]
theorem sc__law_is_prime : FnScope n__law_is_prime ["_law_value"] (defScope s__law_is_prime) := ⟨rfl, rfl, rfl, by decide +kernel, rfl, by decide +kernel, by decide +kernel⟩
theorem k__law_is_prime (T : Fx mg) {a : Addr} {fd : FuncData} (F : FunD K "_law_is_prime" "_law_is_prime" (defArgs s__law_is_prime) (defBody s__law_is_prime) (defScope s__law_is_prime) [] [] a fd) (hm : mg "_law_is_prime" = some (.ref a)) : FnS P w K mg base 1 "_law_is_prime" ["_law_value"] a fd f__law_is_prime :=
  FnS.ofD (N := n__law_is_prime) (n := 1) (m := 2) F sc__law_is_prime hm (F.bindsN fun _ _ _ _ _ _ us hl => match us, hl with | [_], _ => rfl) rfl rfl (by decide) fun cdv A outer s H E hr tk hp => ⟨_,
    (ss_cons (ss_if (STw.st (sw_or (st_not (st_truth (se_isa .int (se_var 0) T.z_isinstance T.z_int))) (sw_or (st_truth (se_isa .bool (se_var 0) T.z_isinstance T.z_bool)) (sw_or1 (st_not (st_chain ops_le ops_le se_int (se_var 0) se_int)))))) (ss_one (ss_ret se_bl)) ss_nil)
    (ss_one (ss_ret (se_cmp (ops_eq hr.units) (se_lc' (own := [("_law_part", 1)]) rfl sc__law_is_prime.nd (si_range2 T.z_range (sp_cons se_int (sp_cons (se_var 0) sp_nil))) (blkOk_by (N := n__law_is_prime) (sc := defScope s__law_is_prime) (by decide +kernel)) (fun _ _ _ _ _ => (sg_name 1 sc__law_is_prime.nd)) (spt_one (st_cmp (ops_eq hr.units) (se_bin ops_mod (se_callTy calls_int T.z_int (sp_cons (se_var 0) sp_nil)) (se_var 1)) se_int)) (fun _ _ _ _ _ => (spt_one (st_cmp (ops_eq hr.units) (se_bin ops_mod (se_callTy calls_int T.z_int (sp_cons (se_var 0) sp_nil)) (se_var 1)) se_int))) (se_var 1) (fun _ _ _ _ _ => (se_var 1))) (se_lst sa_nil)))))⟩
abbrev n__law_powers : List Str := ["_law_p", "_law_number", "_law_many", "_law_found", "_law_here", "_law_turn"]
theorem sc__law_powers : FnScope n__law_powers ["_law_p", "_law_number", "_law_many"] (defScope s__law_powers) := ⟨rfl, rfl, rfl, by decide +kernel, rfl, by decide +kernel, by decide +kernel⟩
theorem k__law_powers (T : Fx mg) {a : Addr} {fd : FuncData} (F : FunD K "_law_powers" "_law_powers" (defArgs s__law_powers) (defBody s__law_powers) (defScope s__law_powers) [] [] a fd) (hm : mg "_law_powers" = some (.ref a)) : FnS P w K mg base 1 "_law_powers" ["_law_p", "_law_number", "_law_many"] a fd f__law_powers :=
  FnS.ofD (N := n__law_powers) (n := 3) (m := 6) F sc__law_powers hm (F.bindsN fun _ _ _ _ _ _ us hl => match us, hl with | [_, _, _], _ => rfl) rfl rfl (by decide) fun cdv A outer s H E hr tk hp => ⟨_,
    (ss_cons (ss_par2 3 4 rfl sc__law_powers.nd (se_lst sa_nil) se_int)
    (ss_cons (ss_for hp rfl (si_range1 T.z_range (sp_cons (se_var 2) sp_nil)) (sg_name 5 sc__law_powers.nd) (ss_cons (ss_append 3 (se_var 4))
    (ss_one (ss_set 4 sc__law_powers.nd (se_bin ops_mod (se_callTy calls_int T.z_int (sp_cons (se_bin ops_mul (se_var 4) (se_var 1)) sp_nil)) (se_var 0))))))
    (ss_one (ss_ret (se_var 3)))))⟩
abbrev n__law_great_power : List Str := ["_law_p", "_law_number", "_law_many", "_law_found", "_law_bits", "_law_turn", "_law_bit"]
theorem sc__law_great_power : FnScope n__law_great_power ["_law_p", "_law_number", "_law_many"] (defScope s__law_great_power) := ⟨rfl, rfl, rfl, by decide +kernel, rfl, by decide +kernel, by decide +kernel⟩
theorem k__law_great_power (T : Fx mg) {a : Addr} {fd : FuncData} (F : FunD K "_law_great_power" "_law_great_power" (defArgs s__law_great_power) (defBody s__law_great_power) (defScope s__law_great_power) [] [] a fd) (hm : mg "_law_great_power" = some (.ref a)) : FnS P w K mg base 1 "_law_great_power" ["_law_p", "_law_number", "_law_many"] a fd f__law_great_power :=
  FnS.ofD (N := n__law_great_power) (n := 3) (m := 7) F sc__law_great_power hm (F.bindsN fun _ _ _ _ _ _ us hl => match us, hl with | [_, _, _], _ => rfl) rfl rfl (by decide) fun cdv A outer s H E hr tk hp => ⟨_,
    (ss_cons (ss_par2 3 4 rfl sc__law_great_power.nd se_int (se_lst sa_nil))
    (ss_cons (ss_for hp rfl (si_range1 T.z_range (sp_cons se_int sp_nil)) (sg_name 5 sc__law_great_power.nd) (ss_cons (ss_append 4 (se_bin ops_mod (se_callTy calls_int T.z_int (sp_cons (se_var 2) sp_nil)) se_int))
    (ss_one (ss_set 2 sc__law_great_power.nd (se_bin ops_div (se_var 2) se_int)))))
    (ss_cons (ss_for hp rfl (si_seq (se_rev (se_var 4))) (sg_name 6 sc__law_great_power.nd) (ss_cons (ss_set 3 sc__law_great_power.nd (se_bin ops_mod (se_callTy calls_int T.z_int (sp_cons (se_bin ops_mul (se_var 3) (se_var 3)) sp_nil)) (se_var 0)))
    (ss_one (ss_set 3 sc__law_great_power.nd (se_if (st_cmp (ops_eq hr.units) (se_var 6) se_int) (se_bin ops_mod (se_callTy calls_int T.z_int (sp_cons (se_bin ops_mul (se_var 3) (se_var 1)) sp_nil)) (se_var 0)) (se_var 3))))))
    (ss_one (ss_ret (se_var 3))))))⟩
abbrev n__law_right : List Str := ["_law_dice_here", "_law_p", "_law_one", "_law_other", "_law_few", "_law_far", "_law_k", "_law_total", "_law_many", "_law_number"]
theorem sc__law_right : FnScope n__law_right ["_law_dice_here"] (defScope s__law_right) := ⟨rfl, rfl, rfl, by decide +kernel, rfl, by decide +kernel, by decide +kernel⟩
theorem k__law_right (T : Fx mg) {a : Addr} {fd : FuncData} (F : FunD K "_law_right" "_law_right" (defArgs s__law_right) (defBody s__law_right) (defScope s__law_right) [] [] a fd) (hm : mg "_law_right" = some (.ref a)) {a_power_sum : Addr} {fd_power_sum : FuncData} (c_power_sum : FnS P w K mg base 6 "power_sum" ["field", "many"] a_power_sum fd_power_sum f_power_sum) {a__law_great_power : Addr} {fd__law_great_power : FuncData} (c__law_great_power : FnS P w K mg base 1 "_law_great_power" ["_law_p", "_law_number", "_law_many"] a__law_great_power fd__law_great_power f__law_great_power) {a__law_pick : Addr} {fd__law_pick : FuncData} (c__law_pick : FnS P w K mg base 2 "_law_pick" ["_law_dice_here", "_law_items"] a__law_pick fd__law_pick f__law_pick) {a__law_roll : Addr} {fd__law_roll : FuncData} (c__law_roll : FnS P w K mg base 1 "_law_roll" ["_law_dice_here", "_law_most"] a__law_roll fd__law_roll f__law_roll) {a_minus : Addr} {fd_minus : FuncData} (c_minus : FnS P w K mg base 6 "minus" ["field", "one", "other"] a_minus fd_minus f_minus) {a_power : Addr} {fd_power : FuncData} (c_power : FnS P w K mg base 6 "power" ["field", "number", "many"] a_power fd_power f_power) {a__law_powers : Addr} {fd__law_powers : FuncData} (c__law_powers : FnS P w K mg base 1 "_law_powers" ["_law_p", "_law_number", "_law_many"] a__law_powers fd__law_powers f__law_powers) {a_undone : Addr} {fd_undone : FuncData} (c_undone : FnS P w K mg base 5 "undone" ["field", "number"] a_undone fd_undone f_undone) {a__law_fd_undone : Addr} {fd__law_fd_undone : FuncData} (c__law_fd_undone : FnS P w K mg base 1 "_law_fd_undone" ["_law_field_here", "_law_number"] a__law_fd_undone fd__law_fd_undone f__law_fd_undone) {a_times : Addr} {fd_times : FuncData} (c_times : FnS P w K mg base 6 "times" ["field", "one", "other"] a_times fd_times f_times) {a_plus : Addr} {fd_plus : FuncData} (c_plus : FnS P w K mg base 6 "plus" ["field", "one", "other"] a_plus fd_plus f_plus) {a__law_fd_primes : Addr} {fd__law_fd_primes : FuncData} (c__law_fd_primes : FnS P w K mg base 1 "_law_fd_primes" [] a__law_fd_primes fd__law_fd_primes f__law_fd_primes) : FnS P w K mg base 7 "_law_right" ["_law_dice_here"] a fd f__law_right :=
  FnS.ofD (N := n__law_right) (n := 1) (m := 10) F sc__law_right hm (F.bindsN fun _ _ _ _ _ _ us hl => match us, hl with | [_], _ => rfl) rfl rfl (by decide) fun cdv A outer s H E hr tk hp => ⟨_,
    (ss_cons (ss_set 1 sc__law_right.nd (se_call' c__law_pick tk (hr.mono (by decide)) (sa_cons (se_var 0) (sa_cons (se_call0 c__law_fd_primes tk (hr.mono (by decide))) sa_nil))))
    (ss_cons (ss_asg (se_tup (sa_cons (se_call' c__law_roll tk (hr.mono (by decide)) (sa_cons (se_var 0) (sa_cons (se_var 1) sa_nil))) (sa_cons (se_call' c__law_pick tk (hr.mono (by decide)) (sa_cons (se_var 0) (sa_cons (se_lst (sa_cons se_int (sa_cons se_int (sa_cons (se_bin ops_sub (se_var 1) se_int) (sa_cons (se_call' c__law_roll tk (hr.mono (by decide)) (sa_cons (se_var 0) (sa_cons (se_var 1) sa_nil))) sa_nil))))) sa_nil))) sa_nil))) (sg_tup rfl (sgs_cons 2 sc__law_right.nd (sgs_cons 3 sc__law_right.nd sgs_nil))))
    (ss_cons (ss_if (STw.st (sw_or (st_cmp (ops_ne hr.units) (se_call' c_plus tk (hr.mono (by decide)) (sa_cons (se_var 1) (sa_cons (se_var 2) (sa_cons (se_var 3) sa_nil)))) (se_bin ops_mod (se_callTy calls_int T.z_int (sp_cons (se_bin ops_add (se_var 2) (se_var 3)) sp_nil)) (se_var 1))) (sw_or1 (st_cmp (ops_ne hr.units) (se_call' c_minus tk (hr.mono (by decide)) (sa_cons (se_var 1) (sa_cons (se_var 2) (sa_cons (se_var 3) sa_nil)))) (se_bin ops_mod (se_callTy calls_int T.z_int (sp_cons (se_bin ops_sub (se_var 2) (se_var 3)) sp_nil)) (se_var 1)))))) (ss_one (ss_ret se_bl)) ss_nil)
    (ss_cons (ss_if (STw.st (sw_or (st_cmp (ops_ne hr.units) (se_call' c_times tk (hr.mono (by decide)) (sa_cons (se_var 1) (sa_cons (se_var 2) (sa_cons (se_var 3) sa_nil)))) (se_bin ops_mod (se_callTy calls_int T.z_int (sp_cons (se_bin ops_mul (se_var 2) (se_var 3)) sp_nil)) (se_var 1))) (sw_or1 (st_cmp (ops_ne hr.units) (se_call' c_times tk (hr.mono (by decide)) (sa_cons (se_var 1) (sa_cons (se_var 3) (sa_cons (se_var 2) sa_nil)))) (se_call' c_times tk (hr.mono (by decide)) (sa_cons (se_var 1) (sa_cons (se_var 2) (sa_cons (se_var 3) sa_nil)))))))) (ss_one (ss_ret se_bl)) ss_nil)
    (ss_cons (ss_if (STw.st (sw_and (st_cmp ops_gt (se_var 2) se_int) (sw_and1 (STw.st (sw_or (st_cmp (ops_ne hr.units) (se_call' c_undone tk (hr.mono (by decide)) (sa_cons (se_var 1) (sa_cons (se_var 2) sa_nil))) (se_call' c__law_fd_undone tk (hr.mono (by decide)) (sa_cons (se_var 1) (sa_cons (se_var 2) sa_nil)))) (sw_or1 (st_cmp (ops_ne hr.units) (se_call' c_times tk (hr.mono (by decide)) (sa_cons (se_var 1) (sa_cons (se_var 2) (sa_cons (se_call' c_undone tk (hr.mono (by decide)) (sa_cons (se_var 1) (sa_cons (se_var 2) sa_nil))) sa_nil)))) se_int))))))) (ss_one (ss_ret se_bl)) ss_nil)
    (ss_cons (ss_set 4 sc__law_right.nd (se_call' c__law_powers tk (hr.mono (by decide)) (sa_cons (se_var 1) (sa_cons (se_var 2) (sa_cons se_int sa_nil)))))
    (ss_cons (ss_if (st_cmp (ops_ne hr.units) (se_lc' (own := [("_law_many", 8)]) rfl sc__law_right.nd (si_range1 T.z_range (sp_cons se_int sp_nil)) (blkOk_by (N := n__law_right) (sc := defScope s__law_right) (by decide +kernel)) (fun _ _ _ _ _ => (sg_name 8 sc__law_right.nd)) spt_nil (fun _ _ _ _ _ => spt_nil) (se_call' c_power tkNo (hr.mono (by decide)) (sa_cons (se_var 1) (sa_cons (se_var 2) (sa_cons (se_var 8) sa_nil)))) (fun _ _ _ _ _ => (se_call' c_power tkNo (hr.mono (by decide)) (sa_cons (se_var 1) (sa_cons (se_var 2) (sa_cons (se_var 8) sa_nil)))))) (se_var 4)) (ss_one (ss_ret se_bl)) ss_nil)
    (ss_cons (ss_set 5 sc__law_right.nd (se_call' c__law_pick tk (hr.mono (by decide)) (sa_cons (se_var 0) (sa_cons (se_lst (sa_cons (se_bin ops_sub (se_var 1) se_int) (sa_cons (se_var 1) (sa_cons (se_bin ops_pow se_int se_int) (sa_cons (se_call' c__law_roll tk (hr.mono (by decide)) (sa_cons (se_var 0) (sa_cons (se_bin ops_pow se_int se_int) sa_nil))) (sa_cons (se_bin ops_mul (se_bin ops_sub (se_var 1) se_int) (se_bin ops_add se_int (se_call' c__law_roll tk (hr.mono (by decide)) (sa_cons (se_var 0) (sa_cons se_int sa_nil))))) sa_nil)))))) sa_nil))))
    (ss_cons (ss_if (st_cmp (ops_ne hr.units) (se_call' c_power tk (hr.mono (by decide)) (sa_cons (se_var 1) (sa_cons (se_var 2) (sa_cons (se_var 5) sa_nil)))) (se_call' c__law_great_power tk (hr.mono (by decide)) (sa_cons (se_var 1) (sa_cons (se_var 2) (sa_cons (se_var 5) sa_nil))))) (ss_one (ss_ret se_bl)) ss_nil)
    (ss_cons (ss_if (st_cmp (ops_ne hr.units) (se_call' c_minus tk (hr.mono (by decide)) (sa_cons (se_var 1) (sa_cons se_int (sa_cons (se_call' c_power tk (hr.mono (by decide)) (sa_cons (se_var 1) (sa_cons (se_call' c_minus tk (hr.mono (by decide)) (sa_cons (se_var 1) (sa_cons (se_var 2) (sa_cons (se_var 3) sa_nil)))) (sa_cons (se_bin ops_sub (se_var 1) se_int) sa_nil)))) sa_nil)))) (se_callTy calls_int T.z_int (sp_cons (se_cmp (ops_eq hr.units) (se_var 2) (se_var 3)) sp_nil))) (ss_one (ss_ret se_bl)) ss_nil)
    (ss_cons (ss_set 6 sc__law_right.nd (se_call' c__law_pick tk (hr.mono (by decide)) (sa_cons (se_var 0) (sa_cons (se_lst (sa_cons se_int (sa_cons se_int (sa_cons se_int (sa_cons (se_bin ops_sub (se_var 1) se_int) (sa_cons (se_bin ops_sub (se_var 1) se_int) (sa_cons (se_bin ops_mul se_int (se_bin ops_sub (se_var 1) se_int)) (sa_cons (se_call' c__law_roll tk (hr.mono (by decide)) (sa_cons (se_var 0) (sa_cons se_int sa_nil))) sa_nil)))))))) sa_nil))))
    (ss_cons (ss_set 7 sc__law_right.nd (se_callB (calls_sum rfl) T.z_sum (sp_cons (se_lc' (own := [("_law_number", 9)]) rfl sc__law_right.nd (si_range1 T.z_range (sp_cons (se_var 1) sp_nil)) (blkOk_by (N := n__law_right) (sc := defScope s__law_right) (by decide +kernel)) (fun _ _ _ _ _ => (sg_name 9 sc__law_right.nd)) spt_nil (fun _ _ _ _ _ => spt_nil) (se_call' c__law_great_power tkNo (hr.mono (by decide)) (sa_cons (se_var 1) (sa_cons (se_var 9) (sa_cons (se_var 6) sa_nil)))) (fun _ _ _ _ _ => (se_call' c__law_great_power tkNo (hr.mono (by decide)) (sa_cons (se_var 1) (sa_cons (se_var 9) (sa_cons (se_var 6) sa_nil)))))) sp_nil)))
    (ss_one (ss_ret (se_cmp (ops_eq hr.units) (se_call' c_power_sum tk (hr.mono (by decide)) (sa_cons (se_var 1) (sa_cons (se_var 6) sa_nil))) (se_bin ops_mod (se_callTy calls_int T.z_int (sp_cons (se_var 7) sp_nil)) (se_var 1)))))))))))))))))⟩
abbrev n__law_judged : List Str := ["_law_dice_here", "_law_first", "_law_value", "_law_p", "_law_values", "_law_due", "_law_odd", "_law_one"]
theorem sc__law_judged : FnScope n__law_judged ["_law_dice_here"] (defScope s__law_judged) := ⟨rfl, rfl, rfl, by decide +kernel, rfl, by decide +kernel, by decide +kernel⟩
theorem k__law_judged (T : Fx mg) {a : Addr} {fd : FuncData} (F : FunD K "_law_judged" "_law_judged" (defArgs s__law_judged) (defBody s__law_judged) (defScope s__law_judged) [] [] a fd) (hm : mg "_law_judged" = some (.ref a)) {a_is_field : Addr} {fd_is_field : FuncData} (c_is_field : FnS P w K mg base 3 "is_field" ["value"] a_is_field fd_is_field f_is_field) {a_is_number : Addr} {fd_is_number : FuncData} (c_is_number : FnS P w K mg base 5 "is_number" ["field", "value"] a_is_number fd_is_number f_is_number) {a__law_roll : Addr} {fd__law_roll : FuncData} (c__law_roll : FnS P w K mg base 1 "_law_roll" ["_law_dice_here", "_law_most"] a__law_roll fd__law_roll f__law_roll) {a__law_pick : Addr} {fd__law_pick : FuncData} (c__law_pick : FnS P w K mg base 2 "_law_pick" ["_law_dice_here", "_law_items"] a__law_pick fd__law_pick f__law_pick) {a__law_fd_primes : Addr} {fd__law_fd_primes : FuncData} (c__law_fd_primes : FnS P w K mg base 1 "_law_fd_primes" [] a__law_fd_primes fd__law_fd_primes f__law_fd_primes) {a__law_is_prime : Addr} {fd__law_is_prime : FuncData} (c__law_is_prime : FnS P w K mg base 1 "_law_is_prime" ["_law_value"] a__law_is_prime fd__law_is_prime f__law_is_prime) : FnS P w K mg base 6 "_law_judged" ["_law_dice_here"] a fd f__law_judged :=
  FnS.ofD (N := n__law_judged) (n := 1) (m := 8) F sc__law_judged hm (F.bindsN fun _ _ _ _ _ _ us hl => match us, hl with | [_], _ => rfl) rfl rfl (by decide) fun cdv A outer s H E hr tk hp => ⟨_,
    (ss_cons (ss_set 1 sc__law_judged.nd (se_bin ops_sub (se_call' c__law_roll tk (hr.mono (by decide)) (sa_cons (se_var 0) (sa_cons se_int sa_nil))) se_int))
    (ss_cons (ss_for hp rfl (si_range2 T.z_range (sp_cons (se_var 1) (sp_cons (se_bin ops_add (se_var 1) se_int) sp_nil))) (sg_name 2 sc__law_judged.nd) (ss_one (ss_if (st_cmp (ops_ne hr.units) (se_callB calls_repr T.z_repr (sp_cons (se_call' c_is_field tk (hr.mono (by decide)) (sa_cons (se_var 2) sa_nil)) sp_nil)) (se_callB calls_repr T.z_repr (sp_cons (se_call' c__law_is_prime tk (hr.mono (by decide)) (sa_cons (se_var 2) sa_nil)) sp_nil))) (ss_one (ss_ret se_bl)) ss_nil)))
    (ss_cons (ss_set 3 sc__law_judged.nd (se_call' c__law_pick tk (hr.mono (by decide)) (sa_cons (se_var 0) (sa_cons (se_call0 c__law_fd_primes tk (hr.mono (by decide))) sa_nil))))
    (ss_cons (ss_set 4 sc__law_judged.nd (se_lst (sa_cons se_int (sa_cons (se_bin ops_sub (se_var 3) se_int) (sa_cons (se_var 3) (sa_cons (se_neg se_int) (sa_cons se_bl (sa_cons se_bl (sa_cons se_non (sa_cons se_str (sa_cons (se_tup (sa_cons se_int sa_nil)) (sa_cons (se_lst (sa_cons se_int sa_nil)) (sa_cons se_dict0 (sa_cons (se_bin ops_pow se_int se_int) (sa_cons (se_call' c__law_roll tk (hr.mono (by decide)) (sa_cons (se_var 0) (sa_cons (se_bin ops_mul se_int (se_var 3)) sa_nil))) sa_nil)))))))))))))))
    (ss_cons (ss_frz 4 (ss_setC' 5 (own := [("_law_value", 2)]) rfl sc__law_judged.nd (si_seq (se_var 4)) (blkOk_by (N := n__law_judged) (sc := defScope s__law_judged) (by decide +kernel)) (fun _ _ _ _ _ => (sg_name 2 sc__law_judged.nd)) spt_nil (fun _ _ _ _ _ => spt_nil) (se_and (se_isa .int (se_var 2) T.z_isinstance T.z_int) (se_and (se_not (se_isa .bool (se_var 2) T.z_isinstance T.z_bool)) (se_one (se_chain ops_le ops_lt se_int (se_var 2) (se_var 3))))) (fun _ _ _ _ _ => (se_and (se_isa .int (se_var 2) T.z_isinstance T.z_int) (se_and (se_not (se_isa .bool (se_var 2) T.z_isinstance T.z_bool)) (se_one (se_chain ops_le ops_lt se_int (se_var 2) (se_var 3))))))))
    (ss_cons (ss_frz 5 (ss_frz 4 (ss_if (st_cmp (ops_ne hr.units) (se_lc' (own := [("_law_value", 2)]) rfl sc__law_judged.nd (si_seq (se_var 4)) (blkOk_by (N := n__law_judged) (sc := defScope s__law_judged) (by decide +kernel)) (fun _ _ _ _ _ => (sg_name 2 sc__law_judged.nd)) spt_nil (fun _ _ _ _ _ => spt_nil) (se_callB calls_repr T.z_repr (sp_cons (se_call' c_is_number tkNo (hr.mono (by decide)) (sa_cons (se_var 3) (sa_cons (se_var 2) sa_nil))) sp_nil)) (fun _ _ _ _ _ => (se_callB calls_repr T.z_repr (sp_cons (se_call' c_is_number tkNo (hr.mono (by decide)) (sa_cons (se_var 3) (sa_cons (se_var 2) sa_nil))) sp_nil)))) (se_lc' (own := [("_law_one", 7)]) rfl sc__law_judged.nd (si_seq (se_var 5)) (blkOk_by (N := n__law_judged) (sc := defScope s__law_judged) (by decide +kernel)) (fun _ _ _ _ _ => (sg_name 7 sc__law_judged.nd)) spt_nil (fun _ _ _ _ _ => spt_nil) (se_callB calls_repr T.z_repr (sp_cons (se_var 7) sp_nil)) (fun _ _ _ _ _ => (se_callB calls_repr T.z_repr (sp_cons (se_var 7) sp_nil))))) (ss_one (ss_ret se_bl)) ss_nil)))
    (ss_cons (ss_set 6 sc__law_judged.nd (se_lst (sa_cons se_non (sa_cons se_bl (sa_cons se_str (sa_cons (se_tup (sa_cons se_int sa_nil)) (sa_cons (se_lst (sa_cons se_int sa_nil)) (sa_cons se_dict0 (sa_cons (se_bin ops_pow se_int se_int) (sa_cons (se_bin ops_sub se_int (se_bin ops_pow se_int se_int)) (sa_cons (se_neg se_int) (sa_cons se_int (sa_cons se_int (sa_cons se_int (sa_cons se_int (sa_cons se_int (sa_cons se_int sa_nil)))))))))))))))))
    (ss_one (ss_frz 6 (ss_ret (se_cmp (ops_eq hr.units) (se_lc' (own := [("_law_value", 2)]) rfl sc__law_judged.nd (si_seq (se_var 6)) (blkOk_by (N := n__law_judged) (sc := defScope s__law_judged) (by decide +kernel)) (fun _ _ _ _ _ => (sg_name 2 sc__law_judged.nd)) (spt_one (st_cmp ops_isnot (se_call' c_is_field tkNo (hr.mono (by decide)) (sa_cons (se_var 2) sa_nil)) se_bl)) (fun _ _ _ _ _ => (spt_one (st_cmp ops_isnot (se_call' c_is_field tkNo (hr.mono (by decide)) (sa_cons (se_var 2) sa_nil)) se_bl))) (se_var 2) (fun _ _ _ _ _ => (se_var 2))) (se_lst sa_nil))))))))))))⟩
abbrev n_law : List Str := ["_law_script", "_law_spot", "_law_dice_here", "_law_told"]
theorem sc_law : FnScope n_law ["_law_script"] (defScope s_law) := ⟨rfl, rfl, rfl, by decide +kernel, rfl, by decide +kernel, by decide +kernel⟩
theorem k_law (T : Fx mg) {a : Addr} {fd : FuncData} (F : FunD K "law" "law" (defArgs s_law) (defBody s_law) (defScope s_law) [] [] a fd) (hm : mg "law" = some (.ref a)) {a_power_sum : Addr} {fd_power_sum : FuncData} (c_power_sum : FnS P w K mg base 6 "power_sum" ["field", "many"] a_power_sum fd_power_sum f_power_sum) {a_power : Addr} {fd_power : FuncData} (c_power : FnS P w K mg base 6 "power" ["field", "number", "many"] a_power fd_power f_power) {a_undone : Addr} {fd_undone : FuncData} (c_undone : FnS P w K mg base 5 "undone" ["field", "number"] a_undone fd_undone f_undone) {a_is_field : Addr} {fd_is_field : FuncData} (c_is_field : FnS P w K mg base 3 "is_field" ["value"] a_is_field fd_is_field f_is_field) {a__law_right : Addr} {fd__law_right : FuncData} (c__law_right : FnS P w K mg base 7 "_law_right" ["_law_dice_here"] a__law_right fd__law_right f__law_right) {a__law_judged : Addr} {fd__law_judged : FuncData} (c__law_judged : FnS P w K mg base 6 "_law_judged" ["_law_dice_here"] a__law_judged fd__law_judged f__law_judged) {a__law_dice : Addr} {fd__law_dice : FuncData} (c__law_dice : FnS P w K mg base 1 "_law_dice" ["_law_script", "_law_spot"] a__law_dice fd__law_dice f__law_dice) : FnS P w K mg base 8 "law" ["_law_script"] a fd f_law :=
  FnS.ofD (N := n_law) (n := 1) (m := 4) F sc_law hm (F.bindsN fun _ _ _ _ _ _ us hl => match us, hl with | [_], _ => rfl) rfl rfl (by decide) fun cdv A outer s H E hr tk hp => ⟨_,
    (ss_cons (ss_for hp rfl (si_range1 T.z_range (sp_cons (se_callB (calls_max rfl) T.z_max (sp_cons se_int (sp_cons (se_callB (calls_min rfl) T.z_min (sp_cons se_int (sp_cons (se_callB calls_len T.z_len (sp_cons (se_var 0) sp_nil)) sp_nil))) sp_nil))) sp_nil)) (sg_name 1 sc_law.nd) (ss_cons (ss_ref 2 sc_law.nd (se_call' c__law_dice tk (hr.mono (by decide)) (sa_cons (se_var 0) (sa_cons (se_var 1) sa_nil))))
    (ss_one (ss_if (STw.st (sw_or (st_not (st_truth (se_call' c__law_right tk (hr.mono (by decide)) (sa_cons (se_var 2) sa_nil)))) (sw_or (st_not (st_truth (se_call' c__law_right tk (hr.mono (by decide)) (sa_cons (se_var 2) sa_nil)))) (sw_or1 (st_not (st_truth (se_call' c__law_judged tk (hr.mono (by decide)) (sa_cons (se_var 2) sa_nil)))))))) (ss_one (ss_ret se_bl)) ss_nil))))
    (ss_cons (ss_set 3 sc_law.nd (se_lst (sa_cons (se_call' c_is_field tk (hr.mono (by decide)) (sa_cons se_int sa_nil)) (sa_cons (se_call' c_is_field tk (hr.mono (by decide)) (sa_cons se_int sa_nil)) (sa_cons (se_call' c_is_field tk (hr.mono (by decide)) (sa_cons se_int sa_nil)) (sa_cons (se_call' c_undone tk (hr.mono (by decide)) (sa_cons se_int (sa_cons se_int sa_nil))) (sa_cons (se_call' c_power tk (hr.mono (by decide)) (sa_cons se_int (sa_cons se_int (sa_cons se_int sa_nil)))) (sa_cons (se_call' c_power tk (hr.mono (by decide)) (sa_cons se_int (sa_cons se_int (sa_cons se_int sa_nil)))) (sa_cons (se_call' c_power tk (hr.mono (by decide)) (sa_cons se_int (sa_cons se_int (sa_cons se_int sa_nil)))) (sa_cons (se_call' c_power_sum tk (hr.mono (by decide)) (sa_cons se_int (sa_cons se_int sa_nil))) sa_nil))))))))))
    (ss_cons (ss_if (STw.st (sw_or (st_cmp (ops_ne hr.units) (se_var 3) (se_lst (sa_cons se_bl (sa_cons se_bl (sa_cons se_bl (sa_cons se_int (sa_cons se_int (sa_cons se_int (sa_cons se_int (sa_cons se_int sa_nil)))))))))) (sw_or1 (st_cmp (ops_ne hr.units) (se_lst (sa_cons (se_call' c_power_sum tk (hr.mono (by decide)) (sa_cons se_int (sa_cons se_int sa_nil))) (sa_cons (se_call' c_power_sum tk (hr.mono (by decide)) (sa_cons se_int (sa_cons se_int sa_nil))) (sa_cons (se_call' c_power_sum tk (hr.mono (by decide)) (sa_cons se_int (sa_cons (se_bin ops_pow se_int se_int) sa_nil))) sa_nil)))) (se_lst (sa_cons se_int (sa_cons se_int (sa_cons se_int sa_nil)))))))) (ss_one (ss_ret se_bl)) ss_nil)
    (ss_one (ss_ret (se_and (se_cmp (ops_eq hr.units) (se_lst (sa_cons (se_globI T.c_LEAST_FIELD) (sa_cons (se_globI T.c_MAX_FIELD) (sa_cons (se_globI T.c_MAX_POWER) (sa_cons (se_globI T.c_MAX_SIDE) sa_nil))))) (se_lst (sa_cons se_int (sa_cons se_int (sa_cons (se_bin ops_pow se_int se_int) (sa_cons se_int sa_nil)))))) (se_one (se_cmp (ops_eq hr.units) (se_call' c_power_sum tk (hr.mono (by decide)) (sa_cons se_int (sa_cons (se_bin ops_mul se_int se_int) sa_nil))) se_int))))))))⟩
end
/-! ### the head -/
def d_is_integer : He.DefD := ⟨("is_integer", none), "is_integer", "is_integer", defArgs s_is_integer, defBody s_is_integer, defScope s_is_integer, [], []⟩
def d_is_within : He.DefD := ⟨("is_within", none), "is_within", "is_within", defArgs s_is_within, defBody s_is_within, defScope s_is_within, [], []⟩
def d_undone_in : He.DefD := ⟨("undone_in", none), "undone_in", "undone_in", defArgs s_undone_in, defBody s_undone_in, defScope s_undone_in, [], []⟩
def d_power_in : He.DefD := ⟨("power_in", none), "power_in", "power_in", defArgs s_power_in, defBody s_power_in, defScope s_power_in, [], []⟩
def d_is_field : He.DefD := ⟨("is_field", none), "is_field", "is_field", defArgs s_is_field, defBody s_is_field, defScope s_is_field, [], []⟩
def d_require_field : He.DefD := ⟨("require_field", none), "require_field", "require_field", defArgs s_require_field, defBody s_require_field, defScope s_require_field, [], []⟩
def d_require_number : He.DefD := ⟨("require_number", none), "require_number", "require_number", defArgs s_require_number, defBody s_require_number, defScope s_require_number, [], []⟩
def d_require_two : He.DefD := ⟨("require_two", none), "require_two", "require_two", defArgs s_require_two, defBody s_require_two, defScope s_require_two, [], []⟩
def d_require_many : He.DefD := ⟨("require_many", none), "require_many", "require_many", defArgs s_require_many, defBody s_require_many, defScope s_require_many, [], []⟩
def d_is_number : He.DefD := ⟨("is_number", none), "is_number", "is_number", defArgs s_is_number, defBody s_is_number, defScope s_is_number, [], []⟩
def d_plus : He.DefD := ⟨("plus", none), "plus", "plus", defArgs s_plus, defBody s_plus, defScope s_plus, [], []⟩
def d_minus : He.DefD := ⟨("minus", none), "minus", "minus", defArgs s_minus, defBody s_minus, defScope s_minus, [], []⟩
def d_times : He.DefD := ⟨("times", none), "times", "times", defArgs s_times, defBody s_times, defScope s_times, [], []⟩
def d_undone : He.DefD := ⟨("undone", none), "undone", "undone", defArgs s_undone, defBody s_undone, defScope s_undone, [], []⟩
def d_power : He.DefD := ⟨("power", none), "power", "power", defArgs s_power, defBody s_power, defScope s_power, [], []⟩
def d_power_sum : He.DefD := ⟨("power_sum", none), "power_sum", "power_sum", defArgs s_power_sum, defBody s_power_sum, defScope s_power_sum, [], []⟩
def d__law_dice : He.DefD := ⟨("_law_dice", none), "_law_dice", "_law_dice", defArgs s__law_dice, defBody s__law_dice, defScope s__law_dice, [], []⟩
def d__law_roll : He.DefD := ⟨("_law_roll", none), "_law_roll", "_law_roll", defArgs s__law_roll, defBody s__law_roll, defScope s__law_roll, [], []⟩
def d__law_pick : He.DefD := ⟨("_law_pick", none), "_law_pick", "_law_pick", defArgs s__law_pick, defBody s__law_pick, defScope s__law_pick, [], []⟩
def d__law_fd_primes : He.DefD := ⟨("_law_fd_primes", none), "_law_fd_primes", "_law_fd_primes", defArgs s__law_fd_primes, defBody s__law_fd_primes, defScope s__law_fd_primes, [], []⟩
def d__law_fd_undone : He.DefD := ⟨("_law_fd_undone", none), "_law_fd_undone", "_law_fd_undone", defArgs s__law_fd_undone, defBody s__law_fd_undone, defScope s__law_fd_undone, [], []⟩
def d__law_is_prime : He.DefD := ⟨("_law_is_prime", none), "_law_is_prime", "_law_is_prime", defArgs s__law_is_prime, defBody s__law_is_prime, defScope s__law_is_prime, [], []⟩
def d__law_powers : He.DefD := ⟨("_law_powers", none), "_law_powers", "_law_powers", defArgs s__law_powers, defBody s__law_powers, defScope s__law_powers, [], []⟩
def d__law_great_power : He.DefD := ⟨("_law_great_power", none), "_law_great_power", "_law_great_power", defArgs s__law_great_power, defBody s__law_great_power, defScope s__law_great_power, [], []⟩
def d__law_right : He.DefD := ⟨("_law_right", none), "_law_right", "_law_right", defArgs s__law_right, defBody s__law_right, defScope s__law_right, [], []⟩
def d__law_judged : He.DefD := ⟨("_law_judged", none), "_law_judged", "_law_judged", defArgs s__law_judged, defBody s__law_judged, defScope s__law_judged, [], []⟩
def d_law : He.DefD := ⟨("law", none), "law", "law", defArgs s_law, defBody s_law, defScope s_law, [], []⟩
def fn : List He.DefD := [d_is_integer, d_is_within, d_undone_in, d_power_in, d_is_field, d_require_field, d_require_number, d_require_two, d_require_many, d_is_number, d_plus, d_minus, d_times, d_undone, d_power, d_power_sum, d__law_dice, d__law_roll, d__law_pick, d__law_fd_primes, d__law_fd_undone, d__law_is_prime, d__law_powers, d__law_great_power, d__law_right, d__law_judged, d_law]
def fa0 : List He.Fa := [.glo "is_integer", .glo "is_within", .glo "undone_in", .glo "power_in", .glo "is_field", .glo "require_field", .glo "require_number", .glo "require_two", .glo "require_many", .glo "is_number", .glo "plus", .glo "minus", .glo "times", .glo "undone", .glo "power", .glo "power_sum", .glo "_law_dice", .glo "_law_roll", .glo "_law_pick", .glo "_law_fd_primes", .glo "_law_fd_undone", .glo "_law_is_prime", .glo "_law_powers", .glo "_law_great_power", .glo "_law_right", .glo "_law_judged", .glo "law", .free "abs", .free "all", .free "bool"]
def fa1 : List He.Fa := [.free "int", .free "isinstance", .free "len", .free "max", .free "min", .free "range", .free "repr", .free "sum", .int "LEAST_FIELD" 5, .int "MAX_FIELD" 997, .int "MAX_POWER" 1000000, .int "MAX_SIDE" 60, .int "MOST_PART" 32]
def fa : List He.Fa := fa0 ++ fa1
def loose0 : List Str := ["InvalidNumber", "Refused", "LEAST_FIELD", "MAX_FIELD", "MAX_POWER", "MAX_SIDE", "MOST_PART", "ZERO", "is_integer", "is_within", "undone_in", "power_in", "require_field", "require_number", "require_two", "require_many", "is_field", "is_number", "plus", "minus", "times", "undone", "power", "power_sum", "_law_dice", "_law_roll", "_law_pick", "_law_fd_primes", "_law_fd_undone", "_law_is_prime"]
def loose1 : List Str := ["_law_powers", "_law_great_power", "_law_right", "_law_judged"]
def loose : List Str := loose0 ++ loose1
abbrev R : PySem.W.OpenRow := PySem.W.OpenLaw.row PySem.Challenge.rw_evencoins_k00_whole_numbers_of_a_field
abbrev hk : PySem.W.Hook := He.hookD 3 fa fn
def ob (s : PySem.W.SharedT) : He.AlD := He.obsDG 3 fa fn (HandSHeadRun.getT s)
theorem ob_eq (s : PySem.W.SharedT) : ob s = hk.obs s.abs := He.obsDG_eq (HandSHeadRun.getT_eq s)
theorem run (w : World) : HandSHeadRun.RunEq R (PySem.W.view R.prog [37]) hk ob 3000 loose w := by
  intro os
  kernel_rfl
theorem facts {P : Program} {w : World} {K : PySem.W.Frag} {h : Heap} {mg : Str → Option Value} {f : Addr} (X : K.In h) (G : h.Ns mainGlobals mg) (hfa : mg ("law" : Str) = some (.ref f)) (c : He.SaysD fa fn K) :
    ∃ fd : FuncData, (∀ (s : Shared) (v : Value), BindsTo s fd ⟨[v], []⟩ [("_law_script", v)]) ∧ ∀ base : Heap, K.In base → base.Ns mainGlobals mg → FnOk P w K mg base (L2.CX P w) 8 f fd ["_law_script"] (spF K 1 f_law) := by
  obtain ⟨fd_is_integer, F_is_integer⟩ := c.def_ 0 (d := d_is_integer) rfl
  have g_is_integer := He.glo_ok X G (c.fact 0 (f := .glo "is_integer") rfl)
  obtain ⟨fd_is_within, F_is_within⟩ := c.def_ 1 (d := d_is_within) rfl
  have g_is_within := He.glo_ok X G (c.fact 1 (f := .glo "is_within") rfl)
  obtain ⟨fd_undone_in, F_undone_in⟩ := c.def_ 2 (d := d_undone_in) rfl
  have g_undone_in := He.glo_ok X G (c.fact 2 (f := .glo "undone_in") rfl)
  obtain ⟨fd_power_in, F_power_in⟩ := c.def_ 3 (d := d_power_in) rfl
  have g_power_in := He.glo_ok X G (c.fact 3 (f := .glo "power_in") rfl)
  obtain ⟨fd_is_field, F_is_field⟩ := c.def_ 4 (d := d_is_field) rfl
  have g_is_field := He.glo_ok X G (c.fact 4 (f := .glo "is_field") rfl)
  obtain ⟨fd_require_field, F_require_field⟩ := c.def_ 5 (d := d_require_field) rfl
  have g_require_field := He.glo_ok X G (c.fact 5 (f := .glo "require_field") rfl)
  obtain ⟨fd_require_number, F_require_number⟩ := c.def_ 6 (d := d_require_number) rfl
  have g_require_number := He.glo_ok X G (c.fact 6 (f := .glo "require_number") rfl)
  obtain ⟨fd_require_two, F_require_two⟩ := c.def_ 7 (d := d_require_two) rfl
  have g_require_two := He.glo_ok X G (c.fact 7 (f := .glo "require_two") rfl)
  obtain ⟨fd_require_many, F_require_many⟩ := c.def_ 8 (d := d_require_many) rfl
  have g_require_many := He.glo_ok X G (c.fact 8 (f := .glo "require_many") rfl)
  obtain ⟨fd_is_number, F_is_number⟩ := c.def_ 9 (d := d_is_number) rfl
  have g_is_number := He.glo_ok X G (c.fact 9 (f := .glo "is_number") rfl)
  obtain ⟨fd_plus, F_plus⟩ := c.def_ 10 (d := d_plus) rfl
  have g_plus := He.glo_ok X G (c.fact 10 (f := .glo "plus") rfl)
  obtain ⟨fd_minus, F_minus⟩ := c.def_ 11 (d := d_minus) rfl
  have g_minus := He.glo_ok X G (c.fact 11 (f := .glo "minus") rfl)
  obtain ⟨fd_times, F_times⟩ := c.def_ 12 (d := d_times) rfl
  have g_times := He.glo_ok X G (c.fact 12 (f := .glo "times") rfl)
  obtain ⟨fd_undone, F_undone⟩ := c.def_ 13 (d := d_undone) rfl
  have g_undone := He.glo_ok X G (c.fact 13 (f := .glo "undone") rfl)
  obtain ⟨fd_power, F_power⟩ := c.def_ 14 (d := d_power) rfl
  have g_power := He.glo_ok X G (c.fact 14 (f := .glo "power") rfl)
  obtain ⟨fd_power_sum, F_power_sum⟩ := c.def_ 15 (d := d_power_sum) rfl
  have g_power_sum := He.glo_ok X G (c.fact 15 (f := .glo "power_sum") rfl)
  obtain ⟨fd__law_dice, F__law_dice⟩ := c.def_ 16 (d := d__law_dice) rfl
  have g__law_dice := He.glo_ok X G (c.fact 16 (f := .glo "_law_dice") rfl)
  obtain ⟨fd__law_roll, F__law_roll⟩ := c.def_ 17 (d := d__law_roll) rfl
  have g__law_roll := He.glo_ok X G (c.fact 17 (f := .glo "_law_roll") rfl)
  obtain ⟨fd__law_pick, F__law_pick⟩ := c.def_ 18 (d := d__law_pick) rfl
  have g__law_pick := He.glo_ok X G (c.fact 18 (f := .glo "_law_pick") rfl)
  obtain ⟨fd__law_fd_primes, F__law_fd_primes⟩ := c.def_ 19 (d := d__law_fd_primes) rfl
  have g__law_fd_primes := He.glo_ok X G (c.fact 19 (f := .glo "_law_fd_primes") rfl)
  obtain ⟨fd__law_fd_undone, F__law_fd_undone⟩ := c.def_ 20 (d := d__law_fd_undone) rfl
  have g__law_fd_undone := He.glo_ok X G (c.fact 20 (f := .glo "_law_fd_undone") rfl)
  obtain ⟨fd__law_is_prime, F__law_is_prime⟩ := c.def_ 21 (d := d__law_is_prime) rfl
  have g__law_is_prime := He.glo_ok X G (c.fact 21 (f := .glo "_law_is_prime") rfl)
  obtain ⟨fd__law_powers, F__law_powers⟩ := c.def_ 22 (d := d__law_powers) rfl
  have g__law_powers := He.glo_ok X G (c.fact 22 (f := .glo "_law_powers") rfl)
  obtain ⟨fd__law_great_power, F__law_great_power⟩ := c.def_ 23 (d := d__law_great_power) rfl
  have g__law_great_power := He.glo_ok X G (c.fact 23 (f := .glo "_law_great_power") rfl)
  obtain ⟨fd__law_right, F__law_right⟩ := c.def_ 24 (d := d__law_right) rfl
  have g__law_right := He.glo_ok X G (c.fact 24 (f := .glo "_law_right") rfl)
  obtain ⟨fd__law_judged, F__law_judged⟩ := c.def_ 25 (d := d__law_judged) rfl
  have g__law_judged := He.glo_ok X G (c.fact 25 (f := .glo "_law_judged") rfl)
  obtain ⟨fd_law, F_law⟩ := c.def_ 26 (d := d_law) rfl
  have g_law := He.glo_ok X G (c.fact 26 (f := .glo "law") rfl)
  have T : Fx mg := ⟨He.free_ok X G (c.fact 27 (f := .free "abs") rfl),
    He.free_ok X G (c.fact 28 (f := .free "all") rfl),
    He.free_ok X G (c.fact 29 (f := .free "bool") rfl),
    He.free_ok X G (c.fact 30 (f := .free "int") rfl),
    He.free_ok X G (c.fact 31 (f := .free "isinstance") rfl),
    He.free_ok X G (c.fact 32 (f := .free "len") rfl),
    He.free_ok X G (c.fact 33 (f := .free "max") rfl),
    He.free_ok X G (c.fact 34 (f := .free "min") rfl),
    He.free_ok X G (c.fact 35 (f := .free "range") rfl),
    He.free_ok X G (c.fact 36 (f := .free "repr") rfl),
    He.free_ok X G (c.fact 37 (f := .free "sum") rfl),
    He.int_ok X G (c.fact 38 (f := .int "LEAST_FIELD" 5) rfl),
    He.int_ok X G (c.fact 39 (f := .int "MAX_FIELD" 997) rfl),
    He.int_ok X G (c.fact 40 (f := .int "MAX_POWER" 1000000) rfl),
    He.int_ok X G (c.fact 41 (f := .int "MAX_SIDE" 60) rfl),
    He.int_ok X G (c.fact 42 (f := .int "MOST_PART" 32) rfl)⟩
  have e := hfa.symm.trans g_law
  cases e
  have b := FunD.bindsA (ps := ["_law_script"]) F_law fun _ _ _ _ _ _ us hl => match us, hl with | [_], _ => rfl
  refine ⟨fd_law, fun s v => b s [v] rfl, fun base _ _ => ?_⟩
  have c_is_integer := k_is_integer (P := P) (w := w) (base := base) T F_is_integer g_is_integer 
  have c_is_within := k_is_within (P := P) (w := w) (base := base) T F_is_within g_is_within c_is_integer
  have c_undone_in := k_undone_in (P := P) (w := w) (base := base) T F_undone_in g_undone_in 
  have c_power_in := k_power_in (P := P) (w := w) (base := base) T F_power_in g_power_in 
  have c_is_field := k_is_field (P := P) (w := w) (base := base) T F_is_field g_is_field c_is_within
  have c_require_field := k_require_field (P := P) (w := w) (base := base) T F_require_field g_require_field c_is_field
  have c_require_number := k_require_number (P := P) (w := w) (base := base) T F_require_number g_require_number c_is_within
  have c_require_two := k_require_two (P := P) (w := w) (base := base) T F_require_two g_require_two c_require_number c_require_field
  have c_require_many := k_require_many (P := P) (w := w) (base := base) T F_require_many g_require_many c_is_within c_require_field
  have c_is_number := k_is_number (P := P) (w := w) (base := base) T F_is_number g_is_number c_is_within c_require_field
  have c_plus := k_plus (P := P) (w := w) (base := base) T F_plus g_plus c_require_two
  have c_minus := k_minus (P := P) (w := w) (base := base) T F_minus g_minus c_require_two
  have c_times := k_times (P := P) (w := w) (base := base) T F_times g_times c_require_two
  have c_undone := k_undone (P := P) (w := w) (base := base) T F_undone g_undone c_undone_in c_require_number c_require_field
  have c_power := k_power (P := P) (w := w) (base := base) T F_power g_power c_power_in c_require_many c_require_number c_require_field
  have c_power_sum := k_power_sum (P := P) (w := w) (base := base) T F_power_sum g_power_sum c_require_many
  have c__law_dice := k__law_dice (P := P) (w := w) (base := base) T F__law_dice g__law_dice 
  have c__law_roll := k__law_roll (P := P) (w := w) (base := base) T F__law_roll g__law_roll 
  have c__law_pick := k__law_pick (P := P) (w := w) (base := base) T F__law_pick g__law_pick c__law_roll
  have c__law_fd_primes := k__law_fd_primes (P := P) (w := w) (base := base) T F__law_fd_primes g__law_fd_primes 
  have c__law_fd_undone := k__law_fd_undone (P := P) (w := w) (base := base) T F__law_fd_undone g__law_fd_undone 
  have c__law_is_prime := k__law_is_prime (P := P) (w := w) (base := base) T F__law_is_prime g__law_is_prime 
  have c__law_powers := k__law_powers (P := P) (w := w) (base := base) T F__law_powers g__law_powers 
  have c__law_great_power := k__law_great_power (P := P) (w := w) (base := base) T F__law_great_power g__law_great_power 
  have c__law_right := k__law_right (P := P) (w := w) (base := base) T F__law_right g__law_right c_power_sum c__law_great_power c__law_pick c__law_roll c_minus c_power c__law_powers c_undone c__law_fd_undone c_times c_plus c__law_fd_primes
  have c__law_judged := k__law_judged (P := P) (w := w) (base := base) T F__law_judged g__law_judged c_is_field c_is_number c__law_roll c__law_pick c__law_fd_primes c__law_is_prime
  have c_law := k_law (P := P) (w := w) (base := base) T F_law g_law c_power_sum c_power c_undone c_is_field c__law_right c__law_judged c__law_dice
  exact c_law.ok
end K00
/-! k00: what the program's defs answer. -/
namespace K00
open PySem PySem.Spec L2 Ev
variable {m : Cells}
theorem roll_eq : f__law_roll = fRoll := rfl
theorem pick_eq : f__law_pick = fPick := rfl
theorem dice_eq : f__law_dice = fDice := rfl
theorem integer_int (v : Int) : f_is_integer [.int v] m = .ok (.d (.bl true)) m := by simp [f_is_integer, b_is_integer]
theorem within_int (v a b : Int) : f_is_within [.int v, .int a, .int b] m = .ok (.d (.bl (decide (a ≤ v) && decide (v ≤ b)))) m := by
  by_cases h : a ≤ v <;> simp [f_is_within, b_is_within, integer_int, h]
def fieldB (v : Int) : Bool := (decide (5 ≤ v) && decide (v ≤ 997)) && (rangeD 2 (if 32 < v then 32 else v)).all fun d => match d with | .int d => !decide (v % d = 0) | _ => true
theorem field_int (v : Int) : f_is_field [.int v] m = .ok (.d (.bl (fieldB v))) m := by
  by_cases h : 5 ≤ v ∧ v ≤ 997
  · have c := comp_map (i := 1) (elt := rBin gNe (rBin gMod (rVar 0) (rVar 1)) (rC (.int 0))) (env := [.d (.int v), .un]) (m := m) (xs := rangeD 2 (if 32 < v then 32 else v)) (F := fun d => .bl (match d with | .int d => !decide (v % d = 0) | _ => true)) (fun x hx => by
      obtain ⟨i, rfl, h1, h2⟩ := rangeD_mem hx
      simp [ev_mod (show 0 < i by omega)])
    have l : (rangeD 2 (if 32 < v then 32 else v)).length ≤ 1000000 := by rw [rangeD_len]; split <;> omega
    simp only [f_is_field, b_is_field]
    simp [within_int, h, kRa2_1 (i := 2) (j := if 32 < v then 32 else v) (by split <;> omega), kComp1 l, c, all_map, fieldB]
  · have h' : (decide (5 ≤ v) && decide (v ≤ 997)) = false := by
      by_cases h1 : 5 ≤ v <;> simp [h1]
      omega
    simp only [f_is_field, b_is_field]
    simp [within_int, h', fieldB]
theorem req_field {p : Int} (hp : fieldB p = true) : f_require_field [.int p] m = .ok (.d .non) m := by simp [f_require_field, b_require_field, field_int, hp]
theorem req_number {p a : Int} (h0 : 0 ≤ a) (h1 : a < p) : f_require_number [.int p, .int a] m = .ok (.d .non) m := by
  have h2 : a ≤ p - 1 := by omega
  simp [f_require_number, b_require_number, within_int, h0, h2]
theorem req_two {p a b : Int} (hp : fieldB p = true) (h0 : 0 ≤ a) (h1 : a < p) (h2 : 0 ≤ b) (h3 : b < p) : f_require_two [.int p, .int a, .int b] m = .ok (.d .non) m := by
  simp [f_require_two, b_require_two, req_field hp, req_number h0 h1, req_number h2 h3]
theorem req_many {p n : Int} (hp : fieldB p = true) (h0 : 0 ≤ n) (h1 : n ≤ 1000000) : f_require_many [.int p, .int n] m = .ok (.d .non) m := by
  simp [f_require_many, b_require_many, req_field hp, within_int, h0, h1]
theorem fieldB_pos {p : Int} (hp : fieldB p = true) : 5 ≤ p ∧ p ≤ 997 := by
  unfold fieldB at hp
  rw [Bool.and_eq_true, Bool.and_eq_true] at hp
  exact ⟨of_decide_eq_true hp.1.1, of_decide_eq_true hp.1.2⟩
theorem plus_ok {p a b : Int} (hp : fieldB p = true) (h0 : 0 ≤ a) (h1 : a < p) (h2 : 0 ≤ b) (h3 : b < p) : f_plus [.int p, .int a, .int b] m = .ok (.d (.int ((a + b) % p))) m := by
  have := fieldB_pos hp
  simp [f_plus, b_plus, req_two hp h0 h1 h2 h3, ev_mod (show 0 < p by omega)]
theorem minus_ok {p a b : Int} (hp : fieldB p = true) (h0 : 0 ≤ a) (h1 : a < p) (h2 : 0 ≤ b) (h3 : b < p) : f_minus [.int p, .int a, .int b] m = .ok (.d (.int ((a - b) % p))) m := by
  have := fieldB_pos hp
  simp [f_minus, b_minus, req_two hp h0 h1 h2 h3, ev_mod (show 0 < p by omega)]
theorem times_ok {p a b : Int} (hp : fieldB p = true) (h0 : 0 ≤ a) (h1 : a < p) (h2 : 0 ≤ b) (h3 : b < p) : f_times [.int p, .int a, .int b] m = .ok (.d (.int (a * b % p))) m := by
  have := fieldB_pos hp
  simp [f_times, b_times, req_two hp h0 h1 h2 h3, ev_mod (show 0 < p by omega), ev_mulL (i := a) (j := b) (by omega)]
theorem number_int {p a : Int} (hp : fieldB p = true) : f_is_number [.int p, .int a] m = .ok (.d (.bl (decide (0 ≤ a) && decide (a ≤ p - 1)))) m := by
  simp [f_is_number, b_is_number, req_field hp, within_int]
/-! powers -/
theorem power_in_ok {p a n : Int} (hp : 2 ≤ p) (hp2 : p < 1000000) (h0 : 0 ≤ a) (h1 : a < p) (h2 : 0 ≤ n) (h3 : n < 1048576) : f_power_in [.int p, .int a, .int n] m = .ok (.d (.int (a ^ n.toNat % p))) m := by
  have m2 : (0 : Int) < 2 := by decide
  have key : ∃ e m', sWhile (bBool (rBin gGt (rVar 5) (rC (.int 0)))) (sSeq (sIf (bBool (rBin gEq (rBin gMod (rVar 5) (rC (.int 2))) (rC (.int 1)))) (sSet 3 (rBin gMod (rBin gMul (rVar 3) (rVar 4)) (rVar 0))) sNop)
    (sPar2 4 5 (rBin gMod (rBin gMul (rVar 4) (rVar 4)) (rVar 0)) (rBin gDiv (rVar 5) (rC (.int 2))))) [.d (.int p), .d (.int a), .d (.int n), .d (.int 1), .d (.int a), .d (.int n)] m = .ok (.nx e) m' ∧ m' = m ∧ ∃ h l, e = [.d (.int p), .d (.int a), .d (.int n), .d (.int (a ^ n.toNat % p)), h, l] := by
    refine sWhile_inv (fun k env m' => m' = m ∧ ∃ f h l : Int, env = [.d (.int p), .d (.int a), .d (.int n), .d (.int f), .d (.int h), .d (.int l)] ∧ 0 ≤ f ∧ f < p ∧ 0 ≤ h ∧ h < p ∧ 0 ≤ l ∧ l < 2 ^ k ∧ f * h ^ l.toNat % p = a ^ n.toNat % p) (fun e m' => m' = m ∧ ∃ h l, e = [.d (.int p), .d (.int a), .d (.int n), .d (.int (a ^ n.toNat % p)), h, l]) ?_ (k := 20) (by omega) ⟨rfl, 1, a, n, rfl, by omega, by omega, h0, h1, h2, by omega, by rw [Int.one_mul]⟩
    rintro k env m' ⟨rfl, f, h, l, rfl, f0, f1, g0, g1, l0, lk, e⟩
    by_cases hl : 0 < l
    · right
      obtain ⟨k, rfl⟩ : ∃ k', k = k' + 1 := ⟨k - 1, by
        have : k ≠ 0 := fun z => by subst z; rw [Int.pow_zero] at lk; omega
        omega⟩
      rw [Int.pow_succ] at lk
      have hq : l / 2 < 2 ^ k := by omega
      by_cases ho : l % 2 = 1
      · refine ⟨m', _, m', k, by simp [hl], by simp [ev_mod (show 0 < p by omega), ev_mod m2, ho, ev_mulL (i := f) (j := h) (by omega), ev_mulL (i := h) (j := h) (by omega), ev_div (i := l) (j := 2) (by omega)], Nat.lt_succ_self k, rfl, f * h % p, h * h % p, l / 2, rfl, Int.emod_nonneg _ (by omega), Int.emod_lt_of_pos _ (by omega), Int.emod_nonneg _ (by omega), Int.emod_lt_of_pos _ (by omega), by omega, hq, ?_⟩
        rw [← e, ← mul_mod_r, pow_mod, mul_mod_r, mul_mod_l]
        have : l.toNat = (l / 2).toNat + (l / 2).toNat + 1 := by omega
        rw [this, Int.pow_succ, Int.pow_add, Int.mul_pow, Int.mul_comm (h ^ (l / 2).toNat * h ^ (l / 2).toNat) h, Int.mul_assoc]
      · have ho' : l % 2 = 0 := by omega
        refine ⟨m', _, m', k, by simp [hl], by simp [ev_mod (show 0 < p by omega), ev_mod m2, ho', ev_mulL (i := f) (j := h) (by omega), ev_mulL (i := h) (j := h) (by omega), ev_div (i := l) (j := 2) (by omega)], Nat.lt_succ_self k, rfl, f, h * h % p, l / 2, rfl, f0, f1, Int.emod_nonneg _ (by omega), Int.emod_lt_of_pos _ (by omega), by omega, hq, ?_⟩
        rw [← e, ← mul_mod_r, pow_mod, mul_mod_r]
        have : l.toNat = (l / 2).toNat + (l / 2).toNat := by omega
        rw [this, Int.pow_add, Int.mul_pow]
    · left
      have hl0 : l = 0 := by omega
      subst hl0
      refine ⟨m', by simp, rfl, .d (.int h), .d (.int 0), ?_⟩
      rw [← e]
      simp [Int.emod_eq_of_lt f0 f1]
  obtain ⟨e, m', k1, rfl, h, l, rfl⟩ := key
  simp only [f_power_in, b_power_in]
  simp [k1]
theorem power_ok {p a n : Int} (hp : fieldB p = true) (h0 : 0 ≤ a) (h1 : a < p) (h2 : 0 ≤ n) (h3 : n ≤ 1000000) : f_power [.int p, .int a, .int n] m = .ok (.d (.int (a ^ n.toNat % p))) m := by
  have := fieldB_pos hp
  simp [f_power, b_power, req_field hp, req_number h0 h1, req_many hp h2 h3, power_in_ok (by omega) (by omega) h0 h1 h2 (by omega)]
theorem power_sum_ok {p n : Int} (hp : fieldB p = true) (h2 : 0 ≤ n) (h3 : n ≤ 1000000) : f_power_sum [.int p, .int n] m = .ok (.d (.int (if 0 < n ∧ n % (p - 1) = 0 then p - 1 else 0))) m := by
  have := fieldB_pos hp
  by_cases a : 0 < n
  · by_cases b : n % (p - 1) = 0
    · simp [f_power_sum, b_power_sum, req_many hp h2 h3, a, b, ev_mod (show 0 < p - 1 by omega)]
    · simp [f_power_sum, b_power_sum, req_many hp h2 h3, a, b, ev_mod (show 0 < p - 1 by omega)]
  · simp [f_power_sum, b_power_sum, req_many hp h2 h3, a]
/-! the inverse -/
theorem undone_in_ok {p a : Int} (hp : 2 ≤ p) (hp2 : p < 100000) (h0 : 0 < a) (h1 : a < p) (pr : ∀ d : Int, 0 < d → d ∣ p → d ∣ a → d = 1) : ∃ u, f_undone_in [.int p, .int a] m = .ok (.d (.int u)) m ∧ 0 ≤ u ∧ u < p ∧ u * a % p = 1 := by
  have key : ∃ e m', sWhile (bBool (rBin gNe (rVar 5) (rC (.int 0)))) (sSeq (sSet 6 (rBin gDiv (rVar 4) (rVar 5)))
    (sSeq (sPar2 4 5 (rVar 5) (rBin gMinus (rVar 4) (rBin gMul (rVar 6) (rVar 5))))
    (sPar2 2 3 (rVar 3) (rBin gMinus (rVar 2) (rBin gMul (rVar 6) (rVar 3)))))) [.d (.int p), .d (.int a), .d (.int 0), .d (.int 1), .d (.int p), .d (.int a), .un] m = .ok (.nx e) m' ∧ m' = m ∧ ∃ (l : Int) (s : List Slot), e = .d (.int p) :: .d (.int a) :: .d (.int l) :: s ∧ p ∣ l * a - 1 := by
    refine sWhile_inv (fun k env m' => m' = m ∧ ∃ l h x y : Int, ∃ s, env = [.d (.int p), .d (.int a), .d (.int l), .d (.int h), .d (.int x), .d (.int y), s] ∧ 0 < x ∧ x ≤ p ∧ 0 ≤ y ∧ y < p ∧ y.toNat ≤ k ∧ p ∣ l * a - x ∧ p ∣ h * a - y ∧ ∀ d, d ∣ x → d ∣ y → d ∣ p ∧ d ∣ a) (fun e m' => m' = m ∧ ∃ (l : Int) (s : List Slot), e = .d (.int p) :: .d (.int a) :: .d (.int l) :: s ∧ p ∣ l * a - 1) ?_ (k := p.toNat) (by omega) ⟨rfl, 0, 1, p, a, .un, rfl, by omega, by omega, by omega, h1, by omega, ⟨-1, by omega⟩, ⟨0, by omega⟩, fun d q r => ⟨q, r⟩⟩
    rintro k env m' ⟨rfl, l, h, x, y, s, rfl, x0, x1, y0, y1, hk, e1, e2, hd⟩
    by_cases hy : y = 0
    · left
      subst hy
      refine ⟨m', by simp, rfl, l, _, rfl, ?_⟩
      obtain ⟨q1, q2⟩ := hd x (Int.dvd_refl x) (Int.dvd_zero x)
      rw [← pr x x0 q1 q2]
      exact e1
    · right
      have y2 : 0 < y := by omega
      have b1 : 0 ≤ x / y := Int.ediv_nonneg (by omega) (by omega)
      have b2 : x / y ≤ x := Int.ediv_le_self _ (by omega)
      have b3 : x - x / y * y = x % y := by rw [Int.emod_def, Int.mul_comm]
      have b4 := Int.emod_nonneg x hy
      have b5 := Int.emod_lt_of_pos x y2
      refine ⟨m', [.d (.int p), .d (.int a), .d (.int h), .d (.int (l - x / y * h)), .d (.int y), .d (.int (x % y)), .d (.int (x / y))], m', (x % y).toNat, by simp [hy], by simp [ev_div (i := x) (j := y) (by omega), ev_mulL (i := x / y) (by omega), b3], by omega, rfl, h, l - x / y * h, y, x % y, _, rfl, y2, by omega, b4, by omega, by omega, e2, ?_, fun d q r => ?_⟩
      · obtain ⟨c1, g1⟩ := e1
        obtain ⟨c2, g2⟩ := e2
        refine ⟨c1 - x / y * c2, ?_⟩
        have t1 : l * a = p * c1 + x := by omega
        have t2 : h * a = p * c2 + y := by omega
        rw [← b3, Int.sub_mul, Int.mul_assoc, t1, t2, Int.mul_add, Int.mul_sub]
        have : x / y * (p * c2) = p * (x / y * c2) := by rw [← Int.mul_assoc, Int.mul_comm (x / y) p, Int.mul_assoc]
        omega
      · have hx : d ∣ x := by
          have := Int.dvd_add (Int.dvd_trans q (Int.dvd_mul_left (x / y) y)) r
          rwa [← b3, show x / y * y + (x - x / y * y) = x by omega] at this
        exact hd d hx q
  obtain ⟨e, m', k1, rfl, l, s, rfl, q⟩ := key
  have u1 : l % p * a % p = 1 := by
    rw [mul_mod_l]
    obtain ⟨c, g⟩ := q
    have : l * a = 1 + p * c := by omega
    rw [this, Int.add_mul_emod_self_left, Int.emod_eq_of_lt (by omega) (by omega)]
  refine ⟨l % p, ?_, Int.emod_nonneg _ (by omega), Int.emod_lt_of_pos _ (by omega), u1⟩
  simp only [f_undone_in, b_undone_in]
  simp [k1, ev_mod (show 0 < p by omega)]
end K00
/-! k00: what the law's own defs answer. -/
namespace K00
open PySem PySem.Spec L2 Ev
variable {m : Cells}
def primes : List Int := [5, 7, 11, 13, 17, 29, 31, 97, 101, 499, 991, 997]
theorem fd_primes_ok : f__law_fd_primes [] m = .ok (.fl (primes.map D.int)) m := by simp [f__law_fd_primes, b__law_fd_primes, primes]
theorem fd_undone_ok {p a u : Int} (hp : 2 ≤ p) (hp2 : p < 1000000) (h0 : 0 < a) (h1 : a < p) (u0 : 0 ≤ u) (u1 : u < p) (hu : u * a % p = 1) : f__law_fd_undone [.int p, .int a] m = .ok (.d (.int u)) m := by
  have uniq : ∀ v : Int, 0 ≤ v → v < p → v * a % p = 1 → v = u := fun v v0 v1 hv => by
    have e1 : v * (u * a) % p = v := by rw [← mul_mod_r, hu, Int.mul_one, Int.emod_eq_of_lt v0 v1]
    have e2 : u * (v * a) % p = u := by rw [← mul_mod_r, hv, Int.mul_one, Int.emod_eq_of_lt u0 u1]
    have e3 : v * (u * a) = u * (v * a) := by rw [← Int.mul_assoc, ← Int.mul_assoc, Int.mul_comm v u]
    rw [← e1, e3, e2]
  have un0 : 0 < u := by
    rcases Int.lt_or_eq_of_le u0 with h | h
    · exact h
    · rw [← h, Int.zero_mul, Int.zero_emod] at hu; omega
  have k0 := for_find (i := 2) (b := sIf (bBool (rBin gEq (rBin gMod (rBin gMul (rVar 2) (rVar 1)) (rVar 0)) (rC (.int 1)))) (sRet (rVar 2)) sNop) (m := m) (rv := .d (.int u)) (env := [.d (.int p), .d (.int a), .un]) (ds := rangeD 1 p) (k := (u - 1).toNat) (x := .int u) .un
    (by rw [rangeD_get, if_pos (by omega), Int.toNat_of_nonneg (by omega)]; congr 2; omega)
    (fun j y hj hy => by
      rw [rangeD_get] at hy
      split at hy
      · cases hy
        have ne : ¬ ((1 + (j : Int)) * a % p = 1) := fun z => by
          have := uniq _ (by omega) (by omega) z
          omega
        generalize 1 + (j : Int) = v at ne
        simp [ev_mulR (i := v) (j := a) (by omega), ev_mod (show 0 < p by omega), ne]
      · cases hy)
    (by simp [ev_mulR (i := u) (j := a) (by omega), ev_mod (show 0 < p by omega), hu])
  simp only [List.set_cons_succ, List.set_cons_zero] at k0
  simp only [f__law_fd_undone, b__law_fd_undone]
  simp [kRa2_1 (i := 1) (j := p) (by omega), k0]
/-- the bits, low to high -/
def bitsL (n : Int) (k : Nat) : List D := (List.range k).map fun i => .int (n / 2 ^ i % 2)
theorem great_ok {p a n : Int} (hp : 2 ≤ p) (hp2 : p < 1000000) (h0 : 0 ≤ a) (h1 : a < p) (h2 : 0 ≤ n) (h3 : n < 16777216) : f__law_great_power [.int p, .int a, .int n] m = .ok (.d (.int (a ^ n.toNat % p))) m := by
  have m2 : (0 : Int) < 2 := by decide
  obtain ⟨e1, m1, k1, k2, s5, rfl⟩ := for_inv (g := gSet 5) (b := sSeq (sAppend 4 (rBin gMod (rCB gInt (pCons (rVar 2) aNil)) (rC (.int 2)))) (sSet 2 (rBin gDiv (rVar 2) (rC (.int 2)))))
    (fun k env m' => m' = m ∧ ∃ s, env = [.d (.int p), .d (.int a), .d (.int (n / 2 ^ k)), .d (.int 1), .own (bitsL n k), s, .un]) (ds := rangeD 0 24) (k := 0) (env := [.d (.int p), .d (.int a), .d (.int n), .d (.int 1), .own [], .un, .un]) (m := m) (by
      rintro j x env m' hj ⟨rfl, s, rfl⟩
      rw [Nat.zero_add]
      have e : n / 2 ^ (j + 1) = n / 2 ^ j / 2 := by rw [Int.pow_succ, Int.ediv_ediv_of_nonneg (Int.le_of_lt (Int.pow_pos (by decide)))]
      have b : bitsL n (j + 1) = bitsL n j ++ [.int (n / 2 ^ j % 2)] := by unfold bitsL; rw [List.range_succ, List.map_append]; rfl
      have hl : (bitsL n j).length < 1000000 := by
        rw [rangeD_get] at hj
        split at hj
        · unfold bitsL; rw [List.length_map, List.length_range]; omega
        · cases hj
      refine ⟨_, [.d (.int p), .d (.int a), .d (.int (n / 2 ^ (j + 1))), .d (.int 1), .own (bitsL n (j + 1)), .d x, .un], m', rfl, ?_, rfl, .d x, rfl⟩
      rw [e, b]
      generalize bitsL n j = bl at hl
      generalize n / 2 ^ j = w
      simp only [List.set_cons_succ, List.set_cons_zero, ev_sSeq]
      rw [ev_append_own (xs := bl) rfl]
      simp [ev_mod m2, kApp_own (i := 4) (xs := bl) (env := [.d (.int p), .d (.int a), .d (.int w), .d (.int 1), .own bl, .d x, .un]) rfl hl, ev_div (j := 2) (by omega)]) ⟨rfl, .un, by simp [bitsL]⟩
  subst k2
  rw [Nat.zero_add] at k1
  have l24 : (rangeD 0 24).length = 24 := by rw [rangeD_len]; rfl
  rw [l24] at k1
  have at24 : ∀ j : Nat, j < 24 → (bitsL n 24).reverse[j]? = some (.int (n / 2 ^ (23 - j) % 2)) := fun j hj => by
    rw [List.getElem?_reverse (by unfold bitsL; simpa using hj)]
    unfold bitsL
    rw [List.length_map, List.length_range, List.getElem?_map, List.getElem?_range (by omega)]
    rfl
  have blen : (bitsL n 24).reverse.length = 24 := by unfold bitsL; simp
  obtain ⟨e2, m2', k3, rfl, s6, k4⟩ := for_inv (g := gSet 6) (b := sSeq (sSet 3 (rBin gMod (rCB gInt (pCons (rBin gMul (rVar 3) (rVar 3)) aNil)) (rVar 0)))
    (sSet 3 (rIf (bBool (rBin gEq (rVar 6) (rC (.int 1)))) (rBin gMod (rCB gInt (pCons (rBin gMul (rVar 3) (rVar 1)) aNil)) (rVar 0)) (rVar 3))))
    (fun k env m' => m' = m1 ∧ ∃ s, env = [.d (.int p), .d (.int a), .d (.int (n / 2 ^ 24)), .d (.int (a ^ (n / 2 ^ (24 - k)).toNat % p)), .own (bitsL n 24), s5, s]) (ds := (bitsL n 24).reverse) (k := 0) (env := [.d (.int p), .d (.int a), .d (.int (n / 2 ^ 24)), .d (.int 1), .own (bitsL n 24), s5, .un]) (m := m1) (by
      rintro j x env m' hj ⟨rfl, s, rfl⟩
      rw [Nat.zero_add]
      have hj24 : j < 24 := by rw [← blen]; exact (List.getElem?_eq_some_iff.mp hj).1
      rw [at24 j hj24] at hj
      cases hj
      have pw : (0 : Int) < 2 ^ (23 - j) := Int.pow_pos (by decide)
      have q0 : 0 ≤ n / 2 ^ (23 - j) := Int.ediv_nonneg h2 (Int.le_of_lt pw)
      have e : n / 2 ^ (24 - j) = n / 2 ^ (23 - j) / 2 := by
        rw [show 24 - j = 23 - j + 1 by omega, Int.pow_succ, Int.ediv_ediv_of_nonneg (Int.le_of_lt pw)]
      have e' : 24 - (j + 1) = 23 - j := by omega
      rw [e, e']
      generalize n / 2 ^ (23 - j) = q at q0
      have f0 := Int.emod_nonneg (a ^ (q / 2).toNat) (show p ≠ 0 by omega)
      have f1 := Int.emod_lt_of_pos (a ^ (q / 2).toNat) (show 0 < p by omega)
      have g0 := Int.emod_nonneg (a ^ (q / 2).toNat % p * (a ^ (q / 2).toNat % p)) (show p ≠ 0 by omega)
      have g1 := Int.emod_lt_of_pos (a ^ (q / 2).toNat % p * (a ^ (q / 2).toNat % p)) (show 0 < p by omega)
      have sq : a ^ (q / 2).toNat % p * (a ^ (q / 2).toNat % p) % p = a ^ ((q / 2).toNat + (q / 2).toNat) % p := by rw [mul_mod_l, mul_mod_r, Int.pow_add]
      rw [sq] at g0 g1
      rcases (show q % 2 = 0 ∨ q % 2 = 1 by omega) with hb | hb
      · have t : (q / 2).toNat + (q / 2).toNat = q.toNat := by omega
        rw [t] at sq g0 g1
        generalize a ^ (q / 2).toNat % p = f at f0 f1 sq
        generalize a ^ q.toNat % p = f' at sq g0 g1
        generalize q % 2 = b at hb
        generalize n / 2 ^ 24 = w
        refine ⟨_, [.d (.int p), .d (.int a), .d (.int w), .d (.int f'), .own (bitsL n 24), s5, .d (.int b)], m', rfl, ?_, rfl, _, rfl⟩
        simp [ev_mulL (i := f) (by omega), ev_mod (show 0 < p by omega), hb, sq]
      · have t : (q / 2).toNat + (q / 2).toNat + 1 = q.toNat := by omega
        have t2 : a ^ ((q / 2).toNat + (q / 2).toNat) % p * a % p = a ^ q.toNat % p := by rw [mul_mod_l, ← Int.pow_succ]; exact congrArg (fun k => a ^ k % p) t
        generalize a ^ (q / 2).toNat % p = f at f0 f1 sq
        generalize a ^ ((q / 2).toNat + (q / 2).toNat) % p = g at sq g0 g1 t2
        generalize a ^ q.toNat % p = f' at t2
        generalize q % 2 = b at hb
        generalize n / 2 ^ 24 = w
        refine ⟨_, [.d (.int p), .d (.int a), .d (.int w), .d (.int f'), .own (bitsL n 24), s5, .d (.int b)], m', rfl, ?_, rfl, _, rfl⟩
        simp [ev_mulL (i := f) (by omega), ev_mod (show 0 < p by omega), hb, sq, ev_mulL (i := g) (by omega), t2]) ⟨rfl, .un, by
      have : n / 2 ^ (24 - 0) = 0 := Int.ediv_eq_zero_of_lt h2 (by omega)
      rw [this]
      simp [Int.emod_eq_of_lt (show (0 : Int) ≤ 1 by decide) (show (1 : Int) < p by omega)]⟩
  rw [blen] at k4
  have z : n / 2 ^ (24 - (0 + 24)) = n := by simp
  rw [z] at k4
  subst k4
  generalize n / 2 ^ 24 = w at k1 k3
  simp only [f__law_great_power, b__law_great_power]
  simp [kRa1_1 (j := 24) (by decide), k1, k3]
end K00
/-! k00: the numbers of the law. -/
namespace K00
open PySem PySem.Spec L2 Ev
variable {m : Cells}
def primesN : List Nat := [5, 7, 11, 13, 17, 29, 31, 97, 101, 499, 991, 997]
theorem n_fer : (primesN.all fun p => (List.range p).all fun d => d == 0 || d ^ (p - 1) % p == 1) = true := by decide +kernel
theorem n_pr : (primesN.all fun p => (List.range p).all fun d => decide (d < 2) || p % d != 0) = true := by decide +kernel
theorem n_sum : (primesN.all fun p => ((List.range 60) ++ [p - 1, p - 2, 2 * (p - 1)]).all fun k => ((List.range p).map fun n => n ^ k % p).sum % p == (if 0 < k ∧ k % (p - 1) = 0 then p - 1 else 0)) = true := by decide +kernel
theorem n_field : (primesN.all fun p => fieldB p) = true := by decide +kernel
/-- what is known of a prime of the list -/
structure PF (p : Int) : Prop where
  fB : fieldB p = true
  fer : ∀ a : Int, 0 < a → a < p → a ^ (p - 1).toNat % p = 1
  pr : ∀ a : Int, 0 < a → a < p → ∀ d : Int, 0 < d → d ∣ p → d ∣ a → d = 1
  sums : ∀ k : Int, 0 ≤ k → (k < 60 ∨ k = p - 1 ∨ k = p - 2 ∨ k = 2 * (p - 1)) → ((List.range p.toNat).map fun i => ((i : Nat) : Int) ^ k.toNat % p).sum % p = if 0 < k ∧ k % (p - 1) = 0 then p - 1 else 0
theorem pf_of {p : Int} (hp : p ∈ primes) : PF p := by
  obtain ⟨P, hP, rfl⟩ : ∃ P, P ∈ primesN ∧ p = (P : Int) := by
    refine ⟨p.toNat, ?_, ?_⟩
    · have e : primesN = primes.map Int.toNat := by decide
      rw [e]; exact List.mem_map.mpr ⟨p, hp, rfl⟩
    · have : ∀ q ∈ primes, q = (q.toNat : Int) := by decide
      exact this p hp
  have h1 := List.all_eq_true.mp n_fer P hP
  have h2 := List.all_eq_true.mp n_pr P hP
  have h3 := List.all_eq_true.mp n_sum P hP
  have h4 : fieldB P = true := List.all_eq_true.mp n_field P hP
  have pos := fieldB_pos h4
  refine ⟨h4, fun a a0 a1 => ?_, fun a a0 a1 d d0 hd ha => ?_, fun k k0 hk => ?_⟩
  · obtain ⟨A, rfl⟩ : ∃ A : Nat, a = A := ⟨a.toNat, by omega⟩
    have := List.all_eq_true.mp h1 A (List.mem_range.mpr (by omega))
    rw [Bool.or_eq_true, beq_iff_eq, beq_iff_eq] at this
    rcases this with z | z
    · omega
    · rw [show ((P : Int) - 1).toNat = P - 1 by omega, ← Int.natCast_pow, ← Int.natCast_emod, z]; rfl
  · obtain ⟨E, rfl⟩ : ∃ E : Nat, d = E := ⟨d.toNat, by omega⟩
    have le : (E : Int) ≤ a := Int.le_of_dvd a0 ha
    have := List.all_eq_true.mp h2 E (List.mem_range.mpr (by omega))
    rw [Bool.or_eq_true, decide_eq_true_eq] at this
    rcases this with z | z
    · omega
    · have : P % E = 0 := Nat.mod_eq_zero_of_dvd (Int.natCast_dvd_natCast.mp hd)
      rw [this] at z
      exact absurd z (by decide)
  · obtain ⟨k, rfl⟩ : ∃ k' : Nat, k = k' := ⟨k.toNat, by omega⟩
    have hm : k ∈ (List.range 60) ++ [P - 1, P - 2, 2 * (P - 1)] := by
      simp only [List.mem_append, List.mem_range, List.mem_cons, List.not_mem_nil, or_false]
      omega
    have := List.all_eq_true.mp h3 k hm
    rw [beq_iff_eq] at this
    rw [Int.toNat_natCast, Int.toNat_natCast]
    have e : ((List.range P).map fun i => ((i : Nat) : Int) ^ k % P) = (List.range P).map fun i => ((i ^ k % P : Nat) : Int) := List.map_congr_left fun i _ => by rw [Int.natCast_emod, Int.natCast_pow]
    rw [e, sum_cast, ← Int.natCast_emod, this]
    have e1 : ((P : Int) - 1) = ((P - 1 : Nat) : Int) := by omega
    rw [e1, ← Int.natCast_emod]
    by_cases c : 0 < k ∧ k % (P - 1) = 0
    · rw [if_pos c, if_pos (by omega)]
    · rw [if_neg c, if_neg (by omega)]; rfl
/-! is it a prime -/
def primeB (v : Int) : Bool := (decide (5 ≤ v) && decide (v ≤ 997)) && ((rangeD 2 v).filter fun d => match d with | .int d => decide (v % d = 0) | _ => false).isEmpty
theorem is_prime_ok (v : Int) : f__law_is_prime [.int v] m = .ok (.d (.bl (primeB v))) m := by
  by_cases h : 5 ≤ v ∧ v ≤ 997
  · have c := comp_filter (i := 1) (c := bBool (rBin gEq (rBin gMod (rCB gInt (pCons (rVar 0) aNil)) (rVar 1)) (rC (.int 0)))) (elt := rVar 1) (env := [.d (.int v), .un]) (m := m) (xs := rangeD 2 v) (P := fun d => match d with | .int d => decide (v % d = 0) | _ => false) (F := fun d => d) (fun x hx => by
      obtain ⟨i, rfl, h1, h2⟩ := rangeD_mem hx
      simp [ev_mod (show 0 < i by omega)]) (fun x hx _ => by simp)
    have l : (rangeD 2 v).length ≤ 1000000 := by rw [rangeD_len]; omega
    rw [List.map_id'] at c
    have pl : plainDs 59 ((rangeD 2 v).filter fun d => match d with | .int d => decide (v % d = 0) | _ => false) = true := plainDs_of fun x hx => by
      obtain ⟨i, rfl, _⟩ := rangeD_mem (List.mem_filter.mp hx).1
      simp
    have pp : primeB v = ((rangeD 2 v).filter fun d => match d with | .int d => decide (v % d = 0) | _ => false).isEmpty := by unfold primeB; simp [h]
    rw [pp]
    generalize (rangeD 2 v).filter _ = fl at c pl
    simp only [f__law_is_prime, b__law_is_prime]
    simp [h, kRa2_1 (i := 2) (j := v) (by omega), kComp1 l, c, pl]
  · have h' : primeB v = false := by
      unfold primeB
      by_cases h1 : 5 ≤ v <;> simp [h1]
      omega
    rw [h']
    simp only [f__law_is_prime, b__law_is_prime]
    by_cases h1 : 5 ≤ v
    · have h2 : ¬ v ≤ 997 := by omega
      simp [h1, h2]
    · simp [h1]
theorem field_prime (v : Int) : fieldB v = primeB v := by
  by_cases h : 5 ≤ v ∧ v ≤ 997
  · have hr : (decide (5 ≤ v) && decide (v ≤ 997)) = true := by simp [h]
    unfold fieldB primeB
    rw [hr, Bool.true_and, Bool.true_and]
    by_cases c : ∃ d, 2 ≤ d ∧ d < v ∧ v % d = 0
    · -- a divisor below 32
      obtain ⟨d, d0, d1, d2⟩ := c
      have hA : ((rangeD 2 v).filter fun d => match d with | .int d => decide (v % d = 0) | _ => false).isEmpty = false := by
        rw [List.isEmpty_eq_false_iff]
        exact List.ne_nil_of_mem (List.mem_filter.mpr ⟨mem_rangeD d0 d1, decide_eq_true d2⟩)
      rw [hA, List.all_eq_false]
      have hd : v = d * (v / d) := by have := Int.mul_ediv_add_emod v d; omega
      have q0 : 0 < v / d := by
        rcases (show 0 < v / d ∨ v / d ≤ 0 by omega) with z | z
        · exact z
        · have : d * (v / d) ≤ 0 := Int.mul_nonpos_of_nonneg_of_nonpos (by omega) z
          omega
      have q1 : v / d ≠ 1 := fun z => by rw [z] at hd; omega
      have q2 : v / d < v := by
        have : 2 * (v / d) ≤ d * (v / d) := Int.mul_le_mul_of_nonneg_right d0 (by omega)
        omega
      by_cases s : d < 32
      · refine ⟨.int d, mem_rangeD d0 (by split <;> omega), ?_⟩
        simp [d2]
      · have s2 : v / d < 32 := by
          rcases (show v / d < 32 ∨ 32 ≤ v / d by omega) with z | z
          · exact z
          · have : 32 * 32 ≤ d * (v / d) := Int.mul_le_mul (by omega) z (by decide) (by omega)
            omega
        refine ⟨.int (v / d), mem_rangeD (by omega) (by split <;> omega), ?_⟩
        have e : v % (v / d) = 0 := Int.emod_eq_zero_of_dvd ⟨d, by rw [Int.mul_comm]; exact hd⟩
        simp [e]
    · have hn : ∀ d, 2 ≤ d → d < v → ¬ v % d = 0 := fun d a b z => c ⟨d, a, b, z⟩
      have hA : ((rangeD 2 v).filter fun d => match d with | .int d => decide (v % d = 0) | _ => false).isEmpty = true := by
        rw [List.isEmpty_iff, List.filter_eq_nil_iff]
        intro x hx
        obtain ⟨i, rfl, i0, i1⟩ := rangeD_mem hx
        simp [hn i i0 i1]
      rw [hA, List.all_eq_true]
      intro x hx
      obtain ⟨i, rfl, i0, i1⟩ := rangeD_mem hx
      have i2 : i < v := by split at i1 <;> omega
      simp [hn i i0 i2]
  · have hr : (decide (5 ≤ v) && decide (v ≤ 997)) = false := by
      by_cases h1 : 5 ≤ v <;> simp [h1]
      omega
    unfold fieldB primeB
    rw [hr, Bool.false_and, Bool.false_and]
/-! the row of powers -/
theorem powers_ok {p a : Int} (hp : 2 ≤ p) (hp2 : p < 1000000) (h0 : 0 ≤ a) (h1 : a < p) : f__law_powers [.int p, .int a, .int 40] m = .ok (.fl ((List.range 40).map fun k => D.int (a ^ k % p))) m := by
  have l40 : (rangeD 0 40).length = 40 := by rw [rangeD_len]; rfl
  obtain ⟨e1, m1, k1, k2, s5, rfl⟩ := for_inv (g := gSet 5) (b := sSeq (sAppend 3 (rVar 4)) (sSet 4 (rBin gMod (rCB gInt (pCons (rBin gMul (rVar 4) (rVar 1)) aNil)) (rVar 0))))
    (fun k env m' => m' = m ∧ ∃ s, env = [.d (.int p), .d (.int a), .d (.int 40), .own ((List.range k).map fun k => D.int (a ^ k % p)), .d (.int (a ^ k % p)), s]) (ds := rangeD 0 40) (k := 0) (env := [.d (.int p), .d (.int a), .d (.int 40), .own [], .d (.int 1), .un]) (m := m) (by
      rintro j x env m' hj ⟨rfl, s, rfl⟩
      rw [Nat.zero_add]
      have hj' : j < 40 := by rw [← l40]; exact (List.getElem?_eq_some_iff.mp hj).1
      have hl : ((List.range j).map fun k => D.int (a ^ k % p)).length < 1000000 := by rw [List.length_map, List.length_range]; omega
      have b : ((List.range (j + 1)).map fun k => D.int (a ^ k % p)) = ((List.range j).map fun k => D.int (a ^ k % p)) ++ [.int (a ^ j % p)] := by rw [List.range_succ, List.map_append]; rfl
      have t : a ^ (j + 1) % p = a ^ j % p * a % p := by rw [mul_mod_l, Int.pow_succ]
      have f0 := Int.emod_nonneg (a ^ j) (show p ≠ 0 by omega)
      have f1 := Int.emod_lt_of_pos (a ^ j) (show 0 < p by omega)
      rw [b, t]
      generalize ((List.range j).map fun k => D.int (a ^ k % p)) = bl at hl
      generalize a ^ j % p = f at f0 f1
      refine ⟨_, [.d (.int p), .d (.int a), .d (.int 40), .own (bl ++ [.int f]), .d (.int (f * a % p)), .d x], m', rfl, ?_, rfl, .d x, rfl⟩
      simp only [List.set_cons_succ, List.set_cons_zero, ev_sSeq]
      rw [ev_append_own (xs := bl) rfl]
      simp [kApp_own (i := 3) (xs := bl) (env := [.d (.int p), .d (.int a), .d (.int 40), .own bl, .d (.int f), .d x]) rfl hl, ev_mulL (i := f) (by omega), ev_mod (show 0 < p by omega)]) ⟨rfl, .un, by simp [Int.emod_eq_of_lt (show (0 : Int) ≤ 1 by decide) (show (1 : Int) < p by omega)]⟩
  subst k2
  rw [Nat.zero_add, l40] at k1
  generalize (List.range 40).map _ = bl at k1
  generalize a ^ 40 % p = f at k1
  simp only [f__law_powers, b__law_powers]
  simp [kRa1_1 (j := 40) (by decide), k1]
end K00
/-! k00: the law's first half. -/
namespace K00
open PySem PySem.Spec L2 Ev
variable {m : Cells}
theorem mod_zero_of {a b p : Int} (h0 : 0 ≤ a) (h1 : a < p) (h2 : 0 ≤ b) (h3 : b < p) : (a - b) % p = 0 ↔ a = b := by
  constructor
  · intro h
    obtain ⟨c, hc⟩ := Int.dvd_of_emod_eq_zero h
    have : c = 0 := by
      rcases (show c ≤ -1 ∨ c = 0 ∨ 1 ≤ c by omega) with z | z | z
      · have : p * c ≤ p * (-1) := Int.mul_le_mul_of_nonneg_left z (by omega)
        omega
      · exact z
      · have : p * 1 ≤ p * c := Int.mul_le_mul_of_nonneg_left z (by omega)
        omega
    subst this
    omega
  · rintro rfl; simp
section
variable {p a b : Int} (P : PF p) (a0 : 0 ≤ a) (a1 : a < p) (b0 : 0 ≤ b) (b1 : b < p)
include P a0 a1
theorem undone_ok (h : 0 < a) : ∃ u, f_undone [.int p, .int a] m = .ok (.d (.int u)) m ∧ f__law_fd_undone [.int p, .int a] m = .ok (.d (.int u)) m ∧ f_times [.int p, .int a, .int u] m = .ok (.d (.int 1)) m := by
  have pos := fieldB_pos P.fB
  obtain ⟨u, q1, q2, q3, q4⟩ := undone_in_ok (m := m) (p := p) (a := a) (by omega) (by omega) h a1 (P.pr a h a1)
  have q7 := times_ok (m := m) P.fB a0 a1 q2 q3
  rw [Int.mul_comm a u, q4] at q7
  refine ⟨u, ?_, fd_undone_ok (by omega) (by omega) h a1 q2 q3 q4, q7⟩
  have hne : ¬ a = 0 := by omega
  simp [f_undone, b_undone, req_field P.fB, req_number a0 a1, hne, q1]
theorem s5_ok (n : D) : (sIf (bAnd (bBool (rBin gGt (rVar 2) (rC (.int 0)))) (bOr (bBool (rBin gNe (rCall 2 f_undone (aCons (rVar 1) (aCons (rVar 2) aNil))) (rCall 2 f__law_fd_undone (aCons (rVar 1) (aCons (rVar 2) aNil))))) (bBool (rBin gNe (rCall 3 f_times (aCons (rVar 1) (aCons (rVar 2) (aCons (rCall 2 f_undone (aCons (rVar 1) (aCons (rVar 2) aNil))) aNil)))) (rC (.int 1)))))) (sRet (rC (.bl false))) sNop) [.d n, .d (.int p), .d (.int a), .d (.int b), .un, .un, .un, .un, .un, .un] m = .ok (.nx [.d n, .d (.int p), .d (.int a), .d (.int b), .un, .un, .un, .un, .un, .un]) m := by
  by_cases h : 0 < a
  · obtain ⟨u, q6, q5, q7⟩ := undone_ok (m := m) P a0 a1 h
    simp [h, q6, q5, q7]
  · simp [h]
def row (p a : Int) : List D := (List.range 40).map fun k => D.int (a ^ k % p)
theorem lst_ok (n : D) (xs : List D) : compL (gSet 8) bYes (rCall 3 f_power (aCons (rVar 1) (aCons (rVar 2) (aCons (rVar 8) aNil)))) [.d n, .d (.int p), .d (.int a), .d (.int b), .own xs, .un, .un, .un, .un, .un] (rangeD 0 40) m = .ok (row p a) m := by
  have c := comp_map (i := 8) (elt := rCall 3 f_power (aCons (rVar 1) (aCons (rVar 2) (aCons (rVar 8) aNil)))) (env := [.d n, .d (.int p), .d (.int a), .d (.int b), .own xs, .un, .un, .un, .un, .un]) (m := m) (xs := rangeD 0 40) (F := fun d => match d with | .int d => .int (a ^ d.toNat % p) | d => d) (fun x hx => by
      obtain ⟨i, rfl, i0, i1⟩ := rangeD_mem hx
      simp [power_ok P.fB a0 a1 i0 (show i ≤ 1000000 by omega)])
  rw [c]
  have e : (rangeD 0 40).map (fun d => match d with | .int d => D.int (a ^ d.toNat % p) | d => d) = row p a := by
    unfold rangeD row
    rw [List.map_map]
    exact List.map_congr_left fun i _ => by simp
  rw [e]
include b0 b1
theorem eq1_ok : f_minus [.int p, .int 1, .int (((a - b) % p) ^ (p - 1).toNat % p)] m = .ok (.d (.int (if a = b then 1 else 0))) m := by
  have pos := fieldB_pos P.fB
  have p0 : 0 < p := by omega
  have d0 := Int.emod_nonneg (a - b) (show p ≠ 0 by omega)
  have d1 := Int.emod_lt_of_pos (a - b) p0
  have dz := mod_zero_of a0 a1 b0 b1
  have z := minus_ok (m := m) (a := 1) (b := ((a - b) % p) ^ (p - 1).toNat % p) P.fB (by omega) (by omega) (Int.emod_nonneg _ (by omega)) (Int.emod_lt_of_pos _ p0)
  rw [z]
  by_cases h : a = b
  · rw [dz.mpr h, if_pos h, Int.zero_pow (by omega), Int.zero_emod, Int.sub_zero, Int.emod_eq_of_lt (by omega) (by omega)]
  · have : (a - b) % p ≠ 0 := fun c => h (dz.mp c)
    rw [P.fer _ (by omega) d1, if_neg h]
    simp
end
theorem row_same (p a : Int) : deqs (row p a) (row p a) = true := by
  have := deqs_refl_int ((List.range 40).map fun k => a ^ k % p)
  rwa [List.map_map] at this
theorem row_plain (p a : Int) : plainDs 59 (row p a) = true := plainDs_of fun x hx => by
  obtain ⟨i, _, rfl⟩ := List.mem_map.mp hx
  simp
theorem tot_ok {p k : Int} (P : PF p) (k0 : 0 ≤ k) (k1 : k ≤ 2000) (n a b f : D) (env : List D) : compL (gSet 9) bYes (rCall 3 f__law_great_power (aCons (rVar 1) (aCons (rVar 9) (aCons (rVar 6) aNil)))) [.d n, .d (.int p), .d a, .d b, .own env, .d f, .d (.int k), .un, .un, .un] (rangeD 0 p) m = .ok ((List.range p.toNat).map fun (i : Nat) => D.int ((i : Int) ^ k.toNat % p)) m := by
  have pos := fieldB_pos P.fB
  have c := comp_map (i := 9) (elt := rCall 3 f__law_great_power (aCons (rVar 1) (aCons (rVar 9) (aCons (rVar 6) aNil)))) (env := [.d n, .d (.int p), .d a, .d b, .own env, .d f, .d (.int k), .un, .un, .un]) (m := m) (xs := rangeD 0 p) (F := fun d => match d with | .int d => .int (d ^ k.toNat % p) | d => d) (fun x hx => by
      obtain ⟨i, rfl, i0, i1⟩ := rangeD_mem hx
      simp [great_ok (m := m) (p := p) (a := i) (n := k) (by omega) (by omega) i0 i1 k0 (by omega)])
  rw [c]
  have e : (rangeD 0 p).map (fun d => match d with | .int d => D.int (d ^ k.toNat % p) | d => d) = (List.range p.toNat).map fun (i : Nat) => D.int ((i : Int) ^ k.toNat % p) := by
    unfold rangeD
    rw [List.map_map, Int.sub_zero]
    exact List.map_congr_left fun i _ => by simp
  rw [e]
end K00
/-! k00: the law's first half, joined. -/
namespace K00
open PySem PySem.Spec L2 Ev
theorem pick_prime {n : Nat} {m : Cells} (hD : Dice n m) : ∃ p m', fPick [.ref n, .lst (primes.map D.int)] m = .ok (.d (.int p)) m' ∧ PF p ∧ Dice n m' ∧ Only n m m' := by
  obtain ⟨x, m1, e1, hx, D1, O1⟩ := pick_spec (primes.map D.int) hD (by simp [primes]) (by simp [primes])
  obtain ⟨p, hp, rfl⟩ := List.mem_map.mp hx
  exact ⟨p, m1, e1, pf_of hp, D1, O1⟩
theorem right_ok {n : Nat} {m : Cells} (hD : Dice n m) : ∃ m', f__law_right [.ref n] m = .ok (.d (.bl true)) m' ∧ Dice n m' ∧ Only n m m' := by
  obtain ⟨p, m1, e1, P, D1, O1⟩ := pick_prime hD
  have pos := fieldB_pos P.fB
  have p0 : 0 < p := by omega
  obtain ⟨a, m2, e2, a0, a1, D2, O2⟩ := roll_spec p D1 p0
  obtain ⟨r, m3, e3, r0, r1, D3, O3⟩ := roll_spec p D2 p0
  obtain ⟨b, m4, e4, b0, b1, D4, O4⟩ : ∃ b m4, fPick [.ref n, .lst [.int 0, .int 1, .int (p - 1), .int r]] m3 = .ok (.d (.int b)) m4 ∧ 0 ≤ b ∧ b < p ∧ Dice n m4 ∧ Only n m3 m4 := by
    obtain ⟨y, m4, e4, hy, D4, O4⟩ := pick_spec [.int 0, .int 1, .int (p - 1), .int r] D3 (by simp)
    simp only [List.mem_cons, List.not_mem_nil, or_false] at hy
    rcases hy with rfl | rfl | rfl | rfl
    · exact ⟨_, _, e4, by omega, by omega, D4, O4⟩
    · exact ⟨_, _, e4, by omega, by omega, D4, O4⟩
    · exact ⟨_, _, e4, by omega, by omega, D4, O4⟩
    · exact ⟨_, _, e4, r0, r1, D4, O4⟩
  obtain ⟨r2, m5, e5, r20, r21, D5, O5⟩ := roll_spec 1000000 D4 (by decide)
  obtain ⟨r3, m6, e6, r30, r31, D6, O6⟩ := roll_spec 900 D5 (by decide)
  obtain ⟨far, m7, e7, far0, far1, D7, O7⟩ : ∃ far m7, fPick [.ref n, .lst [.int (p - 1), .int p, .int 1000000, .int r2, .int ((p - 1) * (1 + r3))]] m6 = .ok (.d (.int far)) m7 ∧ 0 ≤ far ∧ far ≤ 1000000 ∧ Dice n m7 ∧ Only n m6 m7 := by
    obtain ⟨y, m7, e7, hy, D7, O7⟩ := pick_spec [.int (p - 1), .int p, .int 1000000, .int r2, .int ((p - 1) * (1 + r3))] D6 (by simp)
    simp only [List.mem_cons, List.not_mem_nil, or_false] at hy
    rcases hy with rfl | rfl | rfl | rfl | rfl
    · exact ⟨_, _, e7, by omega, by omega, D7, O7⟩
    · exact ⟨_, _, e7, by omega, by omega, D7, O7⟩
    · exact ⟨_, _, e7, by omega, by omega, D7, O7⟩
    · exact ⟨_, _, e7, by omega, by omega, D7, O7⟩
    · refine ⟨_, _, e7, Int.mul_nonneg (by omega) (by omega), ?_, D7, O7⟩
      have : (p - 1) * (1 + r3) ≤ 996 * 900 := Int.mul_le_mul (by omega) (by omega) (by omega) (by omega)
      omega
  obtain ⟨r4, m8, e8, r40, r41, D8, O8⟩ := roll_spec 60 D7 (by decide)
  obtain ⟨k, m9, e9, k0, k1, k2, D9, O9⟩ : ∃ k m9, fPick [.ref n, .lst [.int 0, .int 1, .int 2, .int (p - 1), .int (p - 2), .int (2 * (p - 1)), .int r4]] m8 = .ok (.d (.int k)) m9 ∧ 0 ≤ k ∧ k ≤ 2000 ∧ (k < 60 ∨ k = p - 1 ∨ k = p - 2 ∨ k = 2 * (p - 1)) ∧ Dice n m9 ∧ Only n m8 m9 := by
    obtain ⟨y, m9, e9, hy, D9, O9⟩ := pick_spec [.int 0, .int 1, .int 2, .int (p - 1), .int (p - 2), .int (2 * (p - 1)), .int r4] D8 (by simp)
    simp only [List.mem_cons, List.not_mem_nil, or_false] at hy
    rcases hy with rfl | rfl | rfl | rfl | rfl | rfl | rfl
    · exact ⟨_, _, e9, by omega, by omega, by omega, D9, O9⟩
    · exact ⟨_, _, e9, by omega, by omega, by omega, D9, O9⟩
    · exact ⟨_, _, e9, by omega, by omega, by omega, D9, O9⟩
    · exact ⟨_, _, e9, by omega, by omega, by omega, D9, O9⟩
    · exact ⟨_, _, e9, by omega, by omega, by omega, D9, O9⟩
    · exact ⟨_, _, e9, by omega, by omega, by omega, D9, O9⟩
    · exact ⟨_, _, e9, by omega, by omega, by omega, D9, O9⟩
  refine ⟨m9, ?_, D9, ((((((((O1.trans O2).trans O3).trans O4).trans O5).trans O6).trans O7).trans O8).trans O9)⟩
  have pm := ev_mod (i := a + b) p0
  have pm2 := ev_mod (i := a - b) p0
  have pm3 := ev_mod (i := a * b) p0
  have plus1 := fun m => plus_ok (m := m) P.fB a0 a1 b0 b1
  have minus1 := fun m => minus_ok (m := m) P.fB a0 a1 b0 b1
  have times1 := fun m => times_ok (m := m) P.fB a0 a1 b0 b1
  have times2 := fun m => times_ok (m := m) P.fB b0 b1 a0 a1
  rw [Int.mul_comm b a] at times2
  have mulab := ev_mulL (i := a) (j := b) (by omega)
  have s5 := s5_ok (m := m4) (b := b) P a0 a1 (.ref n)
  have lst := lst_ok (m := m4) (b := b) P a0 a1 (.ref n) (row p a)
  have l40 : (rangeD 0 40).length ≤ 1000000 := by rw [rangeD_len]; decide
  have lp : (rangeD 0 p).length ≤ 1000000 := by rw [rangeD_len]; omega
  have pw1 := power_ok (m := m7) P.fB a0 a1 far0 far1
  have pw2 := great_ok (m := m7) (p := p) (a := a) (n := far) (by omega) (by omega) a0 a1 far0 (by omega)
  have pows : f__law_powers [.int p, .int a, .int 40] m4 = .ok (.fl (row p a)) m4 := powers_ok (m := m4) (p := p) (a := a) (by omega) (by omega) a0 a1
  have d0 := Int.emod_nonneg (a - b) (show p ≠ 0 by omega)
  have d1 := Int.emod_lt_of_pos (a - b) p0
  have pw3 := power_ok (m := m7) (n := p - 1) P.fB d0 d1 (by omega) (by omega)
  have eq1 := eq1_ok (m := m7) P a0 a1 b0 b1
  have tot := tot_ok (m := m9) P k0 k1 (.ref n) (.int a) (.int b) (.int far) (row p a)
  have sm := P.sums k k0 k2
  have psum := power_sum_ok (m := m9) (n := k) P.fB k0 (by omega)
  have same := row_same p a
  have pln := row_plain p a
  have pb : -4611686018427387904 ≤ p ∧ p < 4611686018427387904 := by omega
  have mod4 := fun x : Int => ev_mod (i := x) p0
  have lf := ev_mulL (i := p - 1) (j := 1 + r3) (by omega)
  have lf2 := ev_mulL (i := 2) (j := p - 1) (by omega)
  generalize row p a = row at lst same pln pows tot
  generalize a ^ far.toNat % p = w1 at pw1 pw2
  generalize ((a - b) % p) ^ (p - 1).toNat % p = w2 at pw3 eq1
  generalize (a - b) % p = w3 at *
  generalize (a + b) % p = w4 at *
  generalize a * b % p = w5 at *
  simp only [f__law_right, b__law_right]
  simp only [ev_fnRun, ev_sSeq, roll_eq, pick_eq]
  clear d0 d1 a0 a1 b0 b1 far0 far1 k0 k1 k2 pos r0 r1 r20 r21 r30 r31 r40 r41 O1 O2 O3 O4 O5 O6 O7 O8 O9 D1 D2 D3 D4 D5 D6 D7 D8 D9
  simp [fd_primes_ok, e1, e2, e3, e4, plus1, minus1, times1, times2, pm, pm2, pm3, mulab, ↓s5]
  simp [pows, kRa1_1 (j := 40) (by decide), kComp1 l40, lst, same, pln]
  simp [e5, e6, e7, lf, ev_pow, pw1, pw2, pw3, minus1, eq1]
  simp [e8, lf2, e9]
  simp [kRa1_1 (j := p) pb, kComp1 lp, tot, sum_map]
  simp [psum, mod4, sm]
end K00
/-! k00: the law's second half. -/
namespace K00
open PySem PySem.Spec L2 Ev
variable {m : Cells}
theorem integer_bl (b : Bool) : f_is_integer [.bl b] m = .ok (.d (.bl false)) m := by simp [f_is_integer, b_is_integer]
theorem integer_non : f_is_integer [.non] m = .ok (.d (.bl false)) m := by simp [f_is_integer, b_is_integer]
theorem integer_str (x : Str) : f_is_integer [.str x] m = .ok (.d (.bl false)) m := by simp [f_is_integer, b_is_integer]
theorem integer_tup (x : List D) : f_is_integer [.tup x] m = .ok (.d (.bl false)) m := by simp [f_is_integer, b_is_integer]
theorem integer_lst (x : List D) : f_is_integer [.lst x] m = .ok (.d (.bl false)) m := by simp [f_is_integer, b_is_integer]
theorem integer_dct (x y : List D) : f_is_integer [.dct x y] m = .ok (.d (.bl false)) m := by simp [f_is_integer, b_is_integer]
/-- what is no whole number -/
def Odd (x : D) : Prop := ∀ m, f_is_integer [x] m = .ok (.d (.bl false)) m
theorem within_odd {x : D} (h : Odd x) (a b : D) : f_is_within [x, a, b] m = .ok (.d (.bl false)) m := by simp [f_is_within, b_is_within, h m]
theorem field_odd {x : D} (h : Odd x) : f_is_field [x] m = .ok (.d (.bl false)) m := by simp [f_is_field, b_is_field, within_odd h]
theorem number_odd {p : Int} (hp : fieldB p = true) {x : D} (h : Odd x) : f_is_number [.int p, x] m = .ok (.d (.bl false)) m := by simp [f_is_number, b_is_number, req_field hp, within_odd h]
theorem o_bl (b : Bool) : Odd (.bl b) := fun _ => integer_bl b
theorem o_non : Odd .non := fun _ => integer_non
theorem o_str (x : Str) : Odd (.str x) := fun _ => integer_str x
theorem o_tup (x : List D) : Odd (.tup x) := fun _ => integer_tup x
theorem o_lst (x : List D) : Odd (.lst x) := fun _ => integer_lst x
theorem o_dct (x y : List D) : Odd (.dct x y) := fun _ => integer_dct x y
theorem number_lt {p a : Int} (hp : fieldB p = true) : f_is_number [.int p, .int a] m = .ok (.d (.bl (decide (0 ≤ a) && decide (a < p)))) m := by
  rw [number_int hp, show decide (a ≤ p - 1) = decide (a < p) from decide_eq_decide.mpr (by omega)]
theorem judged_ok {n : Nat} {m : Cells} (hD : Dice n m) : ∃ m', f__law_judged [.ref n] m = .ok (.d (.bl true)) m' ∧ Dice n m' ∧ Only n m m' := by
  obtain ⟨v, m1, e1, v0, v1, D1, O1⟩ := roll_spec 1010 hD (by decide)
  obtain ⟨p, m2, e2, P, D2, O2⟩ := pick_prime D1
  have pos := fieldB_pos P.fB
  obtain ⟨r, m3, e3, r0, r1, D3, O3⟩ := roll_spec (2 * p) D2 (by omega)
  refine ⟨m3, ?_, D3, (O1.trans O2).trans O3⟩
  have fb := P.fB
  obtain ⟨s2, lp⟩ := for_all (i := 2) (b := sIf (bBool (rBin gNe (rCB gRepr (pCons (rCall 1 f_is_field (aCons (rVar 2) aNil)) aNil)) (rCB gRepr (pCons (rCall 1 f__law_is_prime (aCons (rVar 2) aNil)) aNil)))) (sRet (rC (.bl false))) sNop) (m := m1) (env := [.d (.ref n), .d (.int (v - 8)), .un, .un, .un, .un, .un, .un]) (ds := rangeD (v - 8) (v - 8 + 12)) .un (fun y hy => by
    obtain ⟨i, rfl, _, _⟩ := rangeD_mem hy
    simp [field_int, is_prime_ok, field_prime i])
  simp only [List.set_cons_succ, List.set_cons_zero] at lp
  have big : ¬ (1000000000000000000000000000000000000000000000000000000000000 : Int) < p := by omega
  have big2 : ¬ (1000000000000000000000000000000000000000000000000000000000000 : Int) ≤ p - 1 := by omega
  have f1 := field_int (m := m3) 1000000000000000000000000000000000000000000000000000000000000
  have f2 := field_int (m := m3) (-999999999999999999999999999999999999999999999999999999999993)
  have f3 := field_int (m := m3) (-7)
  have f4 := field_int (m := m3) 2
  have f5 := field_int (m := m3) 3
  have f6 := field_int (m := m3) 4
  have f7 := field_int (m := m3) 1009
  have f8 := field_int (m := m3) 961
  have f9 := field_int (m := m3) 841
  rw [show fieldB 1000000000000000000000000000000000000000000000000000000000000 = false by decide +kernel] at f1
  rw [show fieldB (-999999999999999999999999999999999999999999999999999999999993) = false by decide +kernel] at f2
  rw [show fieldB (-7) = false by decide +kernel] at f3
  rw [show fieldB 2 = false by decide +kernel] at f4
  rw [show fieldB 3 = false by decide +kernel] at f5
  rw [show fieldB 4 = false by decide +kernel] at f6
  rw [show fieldB 1009 = false by decide +kernel] at f7
  rw [show fieldB 961 = false by decide +kernel] at f8
  rw [show fieldB 841 = false by decide +kernel] at f9
  have pb : -4611686018427387904 ≤ v - 8 ∧ v - 8 < 4611686018427387904 ∧ -4611686018427387904 ≤ v - 8 + 12 ∧ v - 8 + 12 < 4611686018427387904 := by omega
  have h1 : (0 : Int) < p := by omega
  have h2 : (0 : Int) ≤ p - 1 := by omega
  have h3 : p - 1 < p := by omega
  have h4 : (0 : Int) ≤ p := by omega
  have h6 : (1 : Int) ≤ p := by omega
  have ml := ev_mulL (i := 2) (j := p) (by omega)
  have n0 := number_lt (m := m3) (a := 0) fb
  have n1 := number_lt (m := m3) (a := p - 1) fb
  have n2 := number_lt (m := m3) (a := p) fb
  have n3 := number_lt (m := m3) (a := -1) fb
  have n4 := number_lt (m := m3) (a := 1000000000000000000000000000000000000000000000000000000000000) fb
  have n5 := number_lt (m := m3) (a := r) fb
  simp [h1] at n0
  simp [h2, h3, h6] at n1
  simp [h4] at n2
  simp at n3
  simp [big] at n4
  simp [r0] at n5
  simp only [f__law_judged, b__law_judged]
  simp only [ev_fnRun, ev_sSeq, roll_eq, pick_eq]
  by_cases hr : r < p
  · simp [hr] at n5
    simp [e1, kRa2_1 pb, lp, fd_primes_ok, e2, ml, e3, ev_pow, kComp1, n0, n1, n2, n3, n4, n5, number_odd fb (o_bl _), number_odd fb o_non, number_odd fb (o_str _), number_odd fb (o_tup _), number_odd fb (o_lst _), number_odd fb (o_dct _ _), h1, h2, h3, h4, h6, big, big2, hr, r0,
      field_odd (o_bl _), field_odd o_non, field_odd (o_str _), field_odd (o_tup _), field_odd (o_lst _), field_odd (o_dct _ _), f1, f2, f3, f4, f5, f6, f7, f8, f9]
  · simp [hr] at n5
    simp [e1, kRa2_1 pb, lp, fd_primes_ok, e2, ml, e3, ev_pow, kComp1, n0, n1, n2, n3, n4, n5, number_odd fb (o_bl _), number_odd fb o_non, number_odd fb (o_str _), number_odd fb (o_tup _), number_odd fb (o_lst _), number_odd fb (o_dct _ _), h1, h2, h3, h4, h6, big, big2, hr, r0,
      field_odd (o_bl _), field_odd o_non, field_odd (o_str _), field_odd (o_tup _), field_odd (o_lst _), field_odd (o_dct _ _), f1, f2, f3, f4, f5, f6, f7, f8, f9]
end K00
/-! k00: the law. -/
namespace K00
open PySem PySem.Spec L2 Ev
theorem sfl (f : Fn) (ds : List D) (m : Cells) : f ds m = f ds m := rfl
theorem law_true : Ev.Law f_law := by
  intro ns hns
  have fb7 : fieldB 7 = true := by decide +kernel
  have fb997 : fieldB 997 = true := by decide +kernel
  have hl : ((ns.map D.int).length : Int) ≤ 63 := by rw [List.length_map]; omega
  obtain ⟨K, hK, hK2⟩ : ∃ K : Int, K = (if (if (ns.length : Int) < 4 then (ns.length : Int) else 4) > 1 then (if (ns.length : Int) < 4 then (ns.length : Int) else 4) else 1) ∧ (-4611686018427387904 ≤ K ∧ K < 4611686018427387904) := ⟨_, rfl, by split <;> split <;> omega⟩
  obtain ⟨e1, m', k1, s1, s2, rfl⟩ := for_inv (g := gSet 1) (b := sSeq (sRef 2 (rCall 2 f__law_dice (aCons (rVar 0) (aCons (rVar 1) aNil))))
    (sIf (bOr (bNot (bTruth (rCall 1 f__law_right (aCons (rVar 2) aNil)))) (bOr (bNot (bTruth (rCall 1 f__law_right (aCons (rVar 2) aNil)))) (bNot (bTruth (rCall 1 f__law_judged (aCons (rVar 2) aNil)))))) (sRet (rC (.bl false))) sNop))
    (fun k env m => ∃ s1 s2, env = [.d (.scr (ns.map D.int)), s1, s2, .un]) (ds := rangeD 0 K) (k := 0) (env := [.d (.scr (ns.map D.int)), .un, .un, .un]) (m := []) (by
      rintro j x env m hj ⟨s1, s2, rfl⟩
      rw [rangeD_get] at hj
      split at hj
      · cases hj
        rw [Int.zero_add]
        obtain ⟨a, b, c, e⟩ := dice_spec ns j m
        have hD : Dice m.length (m ++ [.lst [.int a, .int b, .int c]]) := ⟨a, b, c, by simp⟩
        obtain ⟨m1, r1, D1, _⟩ := right_ok hD
        obtain ⟨m2, r2, D2, _⟩ := right_ok D1
        obtain ⟨m3, r3, D3, _⟩ := judged_ok D2
        rw [← dice_eq] at e
        refine ⟨_, _, m3, rfl, ?_, .d (.int j), .d (.ref m.length), rfl⟩
        simp [e, r1, r2, r3]
      · cases hj) ⟨.un, .un, rfl⟩
  obtain ⟨u, q1, u0, u1, q2⟩ := undone_in_ok (m := m') (p := 7) (a := 3) (by decide) (by decide) (by decide) (by decide) (fun d d0 h1 h2 => by
    have : d ∣ 7 - 2 * 3 := Int.dvd_sub h1 (Int.dvd_trans h2 (Int.dvd_mul_left 2 3))
    have := Int.le_of_dvd (by decide) this
    omega)
  have u5 : u = 5 := by omega
  subst u5
  have f997 := field_int (m := m') 997
  have f5 := field_int (m := m') 5
  have f3 := field_int (m := m') 3
  rw [fb997] at f997
  rw [show fieldB 5 = true by decide +kernel] at f5
  rw [show fieldB 3 = false by decide +kernel] at f3
  have q3 : f_undone [.int 7, .int 3] m' = .ok (.d (.int 5)) m' := by
    simp [f_undone, b_undone, req_field fb7, req_number (m := m') (p := 7) (a := 3) (by decide) (by decide), q1]
  have w1 := power_ok (m := m') (p := 7) (a := 3) (n := 5) fb7 (by decide) (by decide) (by decide) (by decide)
  have w2 := power_ok (m := m') (p := 7) (a := 0) (n := 0) fb7 (by decide) (by decide) (by decide) (by decide)
  have w3 := power_ok (m := m') (p := 7) (a := 0) (n := 9) fb7 (by decide) (by decide) (by decide) (by decide)
  have w4 := power_sum_ok (m := m') (p := 7) (n := 6) fb7 (by decide) (by decide)
  have w5 := power_sum_ok (m := m') (p := 7) (n := 4) fb7 (by decide) (by decide)
  have w6 := power_sum_ok (m := m') (p := 7) (n := 0) fb7 (by decide) (by decide)
  have w7 := power_sum_ok (m := m') (p := 997) (n := 1000000) fb997 (by decide) (by decide)
  have w8 := power_sum_ok (m := m') (p := 997) (n := 999984) fb997 (by decide) (by decide)
  simp at w1 w2 w3 w4 w5 w6 w7 w8
  refine ⟨m', ?_⟩
  simp only [f_law, b_law]
  simp only [ev_fnRun, ev_sSeq]
  simp [← hK, kRa1_1 hK2, k1, f997, f5, f3, q3, w1, w2, w3, w4, w5, w6, w7, w8, ev_pow, ev_mulL (i := 996) (j := 1004) (by decide)]
end K00
open PySem PySem.W PySem.Calls PyProof.Rows
theorem PySem.Challenge.cw_evencoins_k00_whole_numbers_of_a_field_holds : PySem.Challenge.rw_evencoins_k00_whole_numbers_of_a_field.Holds := by
  w_on; o_law
  refine HandSHeadRun.head_any (r := OpenLaw.row PySem.Challenge.rw_evencoins_k00_whole_numbers_of_a_field) (q := view (OpenLaw.row PySem.Challenge.rw_evencoins_k00_whole_numbers_of_a_field).prog [37]) (H := K00.hk) (ob := K00.ob) (M := 3000) (loose := K00.loose) (d := HandSHeadRun.topDef (OpenLaw.row PySem.Challenge.rw_evencoins_k00_whole_numbers_of_a_field).prog 37) (kwd := []) K00.ob_eq
    (by kernel_rfl) (fun s => by kernel_rfl) K00.run (by kernel_rfl) (by kernel_rfl) (by kernel_rfl) (by rfl) (by first | assumption | decide +kernel) (by decide +kernel) ⟨rfl, rfl, rfl, rfl, rfl, by decide +kernel⟩ ?hw ?hc
  case hw => w_witness2
  case hc =>
    refine Ev.walkX (l := PySem.Challenge.rw_evencoins_k00_whole_numbers_of_a_field) (k := 8) (x := "_law_script") (f := K00.f_law) rfl (by kernel_rfl) ⟨rfl, by decide, by decide⟩ K00.law_true ?F
    intro w mg fa h Y G hmg0
    obtain ⟨K, KX, c⟩ := Y
    have hmg : mg ("law" : PySem.Str) = some (.ref fa) := by
      have e : (HandSHeadRun.topDef (OpenLaw.row PySem.Challenge.rw_evencoins_k00_whole_numbers_of_a_field).prog 37).name = ("law" : PySem.Str) := by kernel_rfl
      rw [← e]
      exact hmg0
    obtain ⟨fd, hb, hF⟩ := K00.facts (P := (PySem.Challenge.rw_evencoins_k00_whole_numbers_of_a_field).prog) (w := w) KX G hmg c
    exact ⟨K, fd, KX, hb, hF⟩
