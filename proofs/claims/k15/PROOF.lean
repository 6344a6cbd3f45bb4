import PyProof.Rows.All
import Wide.All
import OpenK.AllK
import Wide.FinOn
import PySem.Challenge.RW_notchdeck_k15_whole_runs_of_orders
import HandS.ForMost
import HandS.Flow
import HandS.Style
import HandS.TupAny
import HandS.TupMul
import HandS.TupLe
import HandS.Walk
import HandS.IsInst
import HandS.Zip
import HandS.More
import HandS.WideBits
import HandS.Conv
import HandS.Text
import HandS.Wide
import PyProof.ListMulAny
import HandS.Deep
import KE.GoesEnum
import KE.GoesZip
import HandS.Defaults
set_option Elab.async false
set_option linter.all false
section
set_option maxRecDepth 100000
set_option maxHeartbeats 3900000
/-! PL0: plain data D, how values stand for it, frames' states, readings over it. -/
namespace PL
open PySem Spec PyProof.Rows L2

/-- plain data -/
inductive D where
  | non
  | bl (b : Bool)
  | int (i : Int)
  | str (s : List Nat)
  | tup (ds : List D)
  | lst (ds : List D)
  | dct (kvs : List (D × D))
  | opq (v : V)

def kD : Key → D
  | .inl i => .int i
  | .inr s => .str s.cps.toList
def isMutD : D → Bool
  | .lst _ => true
  | .dct _ => true
  | _ => false
/-- an object that may change -/
def Mu : HO → Prop
  | .lst _ => True
  | .dK _ => True
  | .dT _ => True
  | _ => False

/-- a list of the written part -/
def KLst (K : PySem.W.Frag) (a : Addr) (xs : List V) : Prop := SqL K (fun _ => none) a xs
theorem KLst.sq {K : PySem.W.Frag} {a : Addr} {xs : List V} {H : Hp} (h : KLst K a xs) : SqL K H a xs := by
  rcases h with ((h | h) | h)
  · cases h
  · obtain ⟨_, h⟩ := h; cases h
  · exact .inr h

mutual
/-- v stands for d in H; no list or dict at an address of P is passed -/
inductive Rp (K : PySem.W.Frag) (H : Hp) (P : Addr → Prop) : V → D → Prop
  | non : Rp K H P .non .non
  | bl (b : Bool) : Rp K H P (.bl b) (.bl b)
  | int (i : Int) : Rp K H P (.int i) (.int i)
  | str (x : Str) : Rp K H P (.str x) (.str x.cps.toList)
  | tup {a : Addr} {vs : List V} {ds : List D} : SqT K H a vs → RpL K H P vs ds → Rp K H P (.ref a) (.tup ds)
  | cell {a : Addr} {o : HO} {d : D} : H a = some o → ¬ P a → RpC K H P o d → Rp K H P (.ref a) d
  | frz {a : Addr} {ob : Obj} {o : HO} {d : D} : H a = some (.frz ob o) → RpC K H P o d → Rp K H P (.ref a) d
  | kls {a : Addr} {vs : List V} {ds : List D} : KLst K a vs → RpL K H P vs ds → Rp K H P (.ref a) (.lst ds)
  | opq (v : V) : Rp K H P v (.opq v)
inductive RpL (K : PySem.W.Frag) (H : Hp) (P : Addr → Prop) : List V → List D → Prop
  | nil : RpL K H P [] []
  | cons {v : V} {vs : List V} {d : D} {ds : List D} : Rp K H P v d → RpL K H P vs ds → RpL K H P (v :: vs) (d :: ds)
inductive RpK (K : PySem.W.Frag) (H : Hp) (P : Addr → Prop) : List (Key × V) → List (D × D) → Prop
  | nil : RpK K H P [] []
  | cons {k : Key} {v : V} {kvs : List (Key × V)} {d : D} {es : List (D × D)} : Rp K H P v d → RpK K H P kvs es → RpK K H P ((k, v) :: kvs) ((kD k, d) :: es)
inductive RpT' (K : PySem.W.Frag) (H : Hp) (P : Addr → Prop) : List (List Key × V) → List (D × D) → Prop
  | nil : RpT' K H P [] []
  | cons {k : List Key} {v : V} {kvs : List (List Key × V)} {d : D} {es : List (D × D)} : Rp K H P v d → RpT' K H P kvs es → RpT' K H P ((k, v) :: kvs) ((.tup (k.map kD), d) :: es)
/-- what stands at an address -/
inductive RpC (K : PySem.W.Frag) (H : Hp) (P : Addr → Prop) : HO → D → Prop
  | lst {vs : List V} {ds : List D} : RpL K H P vs ds → RpC K H P (.lst vs) (.lst ds)
  | dK {kvs : List (Key × V)} {es : List (D × D)} : RpK K H P kvs es → RpC K H P (.dK kvs) (.dct es)
  | dT {kvs : List (List Key × V)} {es : List (D × D)} : RpT' K H P kvs es → RpC K H P (.dT kvs) (.dct es)
end

/-- what is tracked outside P stays, and stays outside -/
structure Pres (H : Hp) (P : Addr → Prop) (H' : Hp) (P' : Addr → Prop) : Prop where
  cell : ∀ a o, H a = some o → ¬ P a → H' a = some o ∧ ¬ P' a
  tup : ∀ a xs, H a = some (.tup xs) → H' a = some (.tup xs)
  frz : ∀ a o u, H a = some (.frz o u) → H' a = some (.frz o u)

section
variable {K : PySem.W.Frag} {H H' : Hp} {P P' : Addr → Prop}
theorem Pres.sqT (p : Pres H P H' P') {a : Addr} {vs : List V} (h : SqT K H a vs) : SqT K H' a vs := by
  rcases h with (h | ⟨o, h⟩) | h
  · exact .inl (.inl (p.tup _ _ h))
  · exact .inl (.inr ⟨o, p.frz _ _ _ h⟩)
  · exact .inr h
theorem Rp.pres (p : Pres H P H' P') {v : V} {d : D} (h : Rp K H P v d) : Rp K H' P' v d :=
  Rp.rec (motive_1 := fun v d _ => Rp K H' P' v d) (motive_2 := fun v d _ => RpL K H' P' v d) (motive_3 := fun v d _ => RpK K H' P' v d) (motive_4 := fun v d _ => RpT' K H' P' v d) (motive_5 := fun o d _ => RpC K H' P' o d)
    .non .bl .int .str (fun h _ ih => .tup (p.sqT h) ih) (fun h n _ ih => .cell (p.cell _ _ h n).1 (p.cell _ _ h n).2 ih) (fun h _ ih => .frz (p.frz _ _ _ h) ih) (fun h _ ih => .kls h ih) .opq
    .nil (fun _ _ a b => .cons a b) .nil (fun _ _ a b => .cons a b) .nil (fun _ _ a b => .cons a b) (fun _ a => .lst a) (fun _ a => .dK a) (fun _ a => .dT a) h
theorem RpL.pres (p : Pres H P H' P') : ∀ {vs : List V} {ds : List D}, RpL K H P vs ds → RpL K H' P' vs ds
  | _, _, .nil => .nil
  | _, _, .cons a b => .cons (a.pres p) (RpL.pres p b)
theorem RpK.pres (p : Pres H P H' P') : ∀ {vs : List (Key × V)} {ds : List (D × D)}, RpK K H P vs ds → RpK K H' P' vs ds
  | _, _, .nil => .nil
  | _, _, .cons a b => .cons (a.pres p) (RpK.pres p b)
theorem RpT'.pres (p : Pres H P H' P') : ∀ {vs : List (List Key × V)} {ds : List (D × D)}, RpT' K H P vs ds → RpT' K H' P' vs ds
  | _, _, .nil => .nil
  | _, _, .cons a b => .cons (a.pres p) (RpT'.pres p b)
theorem RpC.pres (p : Pres H P H' P') {o : HO} {d : D} (h : RpC K H P o d) : RpC K H' P' o d := by
  cases h with
  | lst h => exact .lst (h.pres p)
  | dK h => exact .dK (h.pres p)
  | dT h => exact .dT (h.pres p)
theorem RpC.mu {o : HO} {d : D} (h : RpC K H P o d) : Mu o := by cases h <;> trivial
theorem RpC.mutD {o : HO} {d : D} (h : RpC K H P o d) : isMutD d = true := by cases h <;> rfl
/-- a lesser P -/
theorem Pres.less (h : ∀ a, P' a → P a) : Pres H P H P' := ⟨fun _ _ e n => ⟨e, fun z => n (h _ z)⟩, fun _ _ e => e, fun _ _ _ e => e⟩
/-- an address that is new -/
theorem Pres.addFresh {p : Addr} (h : H p = none) : Pres H P H (fun a => P a ∨ a = p) := ⟨fun _ _ e n => ⟨e, fun z => z.elim n fun z => by rw [z, h] at e; cases e⟩, fun _ _ e => e, fun _ _ _ e => e⟩
theorem Pres.trans {H'' : Hp} {P'' : Addr → Prop} (a : Pres H P H' P') (b : Pres H' P' H'' P'') : Pres H P H'' P'' :=
  ⟨fun x o e n => let ⟨e1, n1⟩ := a.cell x o e n; b.cell x o e1 n1, fun x xs e => b.tup x xs (a.tup x xs e), fun x o u e => b.frz x o u (a.frz x o u e)⟩
theorem Pres.new {p : Addr} {o : HO} (h : H p = none) : Pres H P (upd H p o) P :=
  ⟨fun _ _ e n => ⟨by rw [upd_ne (ne_of_none e h)]; exact e, n⟩, fun _ _ e => by rw [upd_ne (ne_of_none e h)]; exact e, fun _ _ _ e => by rw [upd_ne (ne_of_none e h)]; exact e⟩
theorem RpL.length {vs : List V} {ds : List D} (h : RpL K H P vs ds) : vs.length = ds.length := by
  induction ds generalizing vs with
  | nil => cases h; rfl
  | cons d ds ih => cases h with | cons a b => simp [ih b]
theorem RpL.get : ∀ {vs : List V} {ds : List D} {i : Nat} {d : D}, RpL K H P vs ds → ds[i]? = some d → ∃ v, vs[i]? = some v ∧ Rp K H P v d
  | _, _, _, _, .nil, e => by simp at e
  | _, _, 0, _, .cons a _, e => by simp at e; subst e; exact ⟨_, rfl, a⟩
  | _, _, i + 1, _, .cons _ b, e => by
    obtain ⟨v, h1, h2⟩ := RpL.get (i := i) b (by simpa using e)
    exact ⟨v, by simpa using h1, h2⟩
theorem RpL.get' : ∀ {vs : List V} {ds : List D} {i : Nat} {v : V}, RpL K H P vs ds → vs[i]? = some v → ∃ d, ds[i]? = some d ∧ Rp K H P v d
  | _, _, _, _, .nil, e => by simp at e
  | _, _, 0, _, .cons a _, e => by simp at e; subst e; exact ⟨_, rfl, a⟩
  | _, _, i + 1, _, .cons _ b, e => by
    obtain ⟨v, h1, h2⟩ := RpL.get' (i := i) b (by simpa using e)
    exact ⟨v, by simpa using h1, h2⟩
theorem RpL.append : ∀ {vs ws : List V} {ds es : List D}, RpL K H P vs ds → RpL K H P ws es → RpL K H P (vs ++ ws) (ds ++ es)
  | _, _, _, _, .nil, b => b
  | _, _, _, _, .cons a r, b => .cons a (r.append b)
theorem RpL.set {v : V} {d : D} (r : Rp K H P v d) : ∀ {vs : List V} {ds : List D} (i : Nat), RpL K H P vs ds → RpL K H P (vs.set i v) (ds.set i d)
  | _, _, _, .nil => .nil
  | _, _, 0, .cons _ t => .cons r t
  | _, _, i + 1, .cons q t => .cons q (RpL.set r i t)
theorem RpL.take : ∀ {vs : List V} {ds : List D} (n : Nat), RpL K H P vs ds → RpL K H P (vs.take n) (ds.take n)
  | _, _, 0, _ => .nil
  | _, _, _ + 1, .nil => .nil
  | _, _, n + 1, .cons r t => .cons r (RpL.take n t)
theorem RpL.drop : ∀ {vs : List V} {ds : List D} (n : Nat), RpL K H P vs ds → RpL K H P (vs.drop n) (ds.drop n)
  | _, _, 0, r => r
  | _, _, _ + 1, .nil => .nil
  | _, _, n + 1, .cons _ t => RpL.drop n t
theorem RpL.eraseIdx : ∀ {vs : List V} {ds : List D} (i : Nat), RpL K H P vs ds → RpL K H P (vs.eraseIdx i) (ds.eraseIdx i)
  | _, _, _, .nil => .nil
  | _, _, 0, .cons _ t => t
  | _, _, i + 1, .cons q t => .cons q (RpL.eraseIdx i t)
theorem RpL.reverse {vs : List V} {ds : List D} (h : RpL K H P vs ds) : RpL K H P vs.reverse ds.reverse := by
  induction ds generalizing vs with
  | nil => cases h; exact .nil
  | cons d ds ih => cases h with | cons a b => simp only [List.reverse_cons]; exact (ih b).append (.cons a .nil)
theorem RpL.rep {vs : List V} {ds : List D} (h : RpL K H P vs ds) : ∀ k : Nat, RpL K H P (List.replicate k vs).flatten (List.replicate k ds).flatten
  | 0 => .nil
  | k + 1 => by rw [List.replicate_succ, List.replicate_succ, List.flatten_cons, List.flatten_cons]; exact h.append (h.rep k)
theorem RpL.dropLast {vs : List V} {ds : List D} (h : RpL K H P vs ds) : RpL K H P vs.dropLast ds.dropLast := by
  rw [List.dropLast_eq_take, List.dropLast_eq_take, h.length]; exact h.take _
end

/-! ### slots, frames -/
inductive Slot where
  | no | lck
  | shr (d : D)
  | own (d : D)
  | iow (d : D)
abbrev Env := List Slot
def peek (env : Env) (i : Nat) : Option D := match env[i]? with
  | some (.shr d) => some d
  | some (.own d) => some d
  | some (.iow d) => some d
  | _ => none
def Av (A : Addr → Prop) (ow : List (Option Addr)) : Addr → Prop := fun a => A a ∨ some a ∈ ow
structure SS where
  A : Addr → Prop
  H0 : Hp
  io : List (Nat × Addr)
  lk : List (Nat × V)
def SS.add (S : SS) (p : Addr) : SS := { S with A := fun a => S.A a ∨ a = p }
/-- one slot -/
def SlotOk (K : PySem.W.Frag) (H : Hp) (P : Addr → Prop) (sv : Option (Option V)) (oa : Option (Option Addr)) : Slot → Prop
  | .no => True
  | .lck => True
  | .shr d => ∃ v, sv = some (some v) ∧ Rp K H P v d
  | .own d => ∃ a o, sv = some (some (.ref a)) ∧ oa = some (some a) ∧ H a = some o ∧ RpC K H P o d
  | .iow d => ∃ a o, sv = some (some (.ref a)) ∧ oa = some (some a) ∧ H a = some o ∧ RpC K H P o d
structure Sim (K : PySem.W.Frag) (S : SS) (ow : List (Option Addr)) (σ : L2.St) (H : Hp) (env : Env) : Prop where
  len : env.length = σ.length
  lenO : ow.length = σ.length
  slot : ∀ (i : Nat) s, env[i]? = some s → SlotOk K H (Av S.A ow) (σ[i]?) (ow[i]?) s
  inj : ∀ (i j : Nat) a, ow[i]? = some (some a) → ow[j]? = some (some a) → i = j
  live : ∀ a, Av S.A ow a → ∃ o, H a = some o ∧ Mu o
  sep : ∀ a, some a ∈ ow → ¬ S.A a
  frame : ∀ a o, S.H0 a = some o → (∀ p ∈ S.io, p.2 ≠ a) → H a = some o
  fresh : ∀ a, some a ∈ ow → S.H0 a = none ∨ ∃ j, (j, a) ∈ S.io
  io : ∀ p ∈ S.io, ow[p.1]? = some (some p.2) ∧ ∃ d, env[p.1]? = some (.iow d)
  iow : ∀ (i : Nat) d, env[i]? = some (.iow d) → ∃ a, (i, a) ∈ S.io
  lk : ∀ p ∈ S.lk, σ[p.1]? = some (some p.2) ∧ env[p.1]? = some .lck
/-- how heap and owned addresses go on -/
structure Stp (ow : List (Option Addr)) (H : Hp) (ow' : List (Option Addr)) (H' : Hp) : Prop where
  cell : ∀ a o, H a = some o → some a ∉ ow → H' a = some o ∧ some a ∉ ow'
  tup : ∀ a xs, H a = some (.tup xs) → H' a = some (.tup xs)
  frz : ∀ a o u, H a = some (.frz o u) → H' a = some (.frz o u)
  dom : ∀ a o, H a = some o → ∃ o', H' a = some o'
section
variable {K : PySem.W.Frag} {S S' : SS} {H H' H'' : Hp} {ow ow' ow'' : List (Option Addr)} {σ : L2.St} {env : Env} {A : Addr → Prop}
theorem Stp.pres (s : Stp ow H ow' H') : Pres H (Av A ow) H' (Av A ow') :=
  ⟨fun a o e n => let ⟨e1, n1⟩ := s.cell a o e (fun z => n (.inr z)); ⟨e1, fun z => z.elim (fun z => n (.inl z)) n1⟩, s.tup, s.frz⟩
theorem Stp.refl : Stp ow H ow H := ⟨fun _ _ e n => ⟨e, n⟩, fun _ _ e => e, fun _ _ _ e => e, fun _ o e => ⟨o, e⟩⟩
theorem Stp.trans (a : Stp ow H ow' H') (b : Stp ow' H' ow'' H'') : Stp ow H ow'' H'' :=
  ⟨fun x o e n => let ⟨e1, n1⟩ := a.cell x o e n; b.cell x o e1 n1, fun x xs e => b.tup x xs (a.tup x xs e), fun x o u e => b.frz x o u (a.frz x o u e), fun x o e => let ⟨o1, e1⟩ := a.dom x o e; b.dom x o1 e1⟩
theorem Stp.new {p : Addr} {o : HO} (h : H p = none) : Stp ow H ow (upd H p o) :=
  ⟨fun _ _ e n => ⟨by rw [upd_ne (ne_of_none e h)]; exact e, n⟩, fun _ _ e => by rw [upd_ne (ne_of_none e h)]; exact e, fun _ _ _ e => by rw [upd_ne (ne_of_none e h)]; exact e, fun a u e => ⟨u, by rw [upd_ne (ne_of_none e h)]; exact e⟩⟩
theorem Stp.back (s : Stp ow H ow' H') {p : Addr} (h : H' p = none) : H p = none := by
  cases e : H p with
  | none => rfl
  | some o => obtain ⟨o', e'⟩ := s.dom p o e; rw [h] at e'; cases e'
theorem Sim.mutne (I : Sim K S ow σ H env) {a : Addr} (h : Av S.A ow a) : H a ≠ none := fun e => by obtain ⟨o, e', _⟩ := I.live a h; rw [e] at e'; cases e'
theorem mem_get {α : Type} {l : List α} {x : α} (h : x ∈ l) : ∃ i : Nat, l[i]? = some x := List.getElem?_of_mem h
theorem Sim.peek (I : Sim K S ow σ H env) {i : Nat} {d : D} (h : peek env i = some d) :
    ∃ v, σ[i]? = some (some v) ∧ (Rp K H (Av S.A ow) v d ∨ ∃ a o, v = .ref a ∧ H a = some o ∧ RpC K H (Av S.A ow) o d) := by
  unfold PL.peek at h
  cases e : env[i]? with
  | none => rw [e] at h; cases h
  | some s =>
    rw [e] at h
    have q := I.slot i s e
    cases s with
    | no => cases h
    | lck => cases h
    | shr d' => cases h; obtain ⟨v, e1, r⟩ := q; exact ⟨v, e1, .inl r⟩
    | own d' => cases h; obtain ⟨a, o, e1, e2, e3, r⟩ := q; exact ⟨_, e1, .inr ⟨a, o, rfl, e3, r⟩⟩
    | iow d' => cases h; obtain ⟨a, o, e1, e2, e3, r⟩ := q; exact ⟨_, e1, .inr ⟨a, o, rfl, e3, r⟩⟩
theorem SlotOk.pres {P P' : Addr → Prop} {sv : Option (Option V)} {oa : Option (Option Addr)} {s : Slot} (p : Pres H P H' P') (ho : ∀ a, oa = some (some a) → H' a = H a) (h : SlotOk K H P sv oa s) : SlotOk K H' P' sv oa s := by
  cases s with
  | no => trivial
  | lck => trivial
  | shr d => obtain ⟨v, e, r⟩ := h; exact ⟨v, e, r.pres p⟩
  | own d => obtain ⟨a, o, e1, e2, e3, r⟩ := h; exact ⟨a, o, e1, e2, by rw [ho a e2]; exact e3, r.pres p⟩
  | iow d => obtain ⟨a, o, e1, e2, e3, r⟩ := h; exact ⟨a, o, e1, e2, by rw [ho a e2]; exact e3, r.pres p⟩
/-- a new object that is not kept by any slot -/
theorem Sim.newAny (I : Sim K S ow σ H env) {p : Addr} {o : HO} (h : H p = none) : Sim K S ow σ (upd H p o) env where
  len := I.len
  lenO := I.lenO
  slot := fun i s e => (I.slot i s e).pres (Pres.new h) fun a ea => upd_ne fun z => I.mutne (a := a) (.inr (List.mem_of_getElem? ea)) (by rw [z]; exact h)
  inj := I.inj
  live := fun a ha => by obtain ⟨u, e, m⟩ := I.live a ha; exact ⟨u, by rw [upd_ne (ne_of_none e h)]; exact e, m⟩
  sep := I.sep
  frame := fun a u e n => by have := I.frame a u e n; rw [upd_ne (ne_of_none this h)]; exact this
  fresh := I.fresh
  io := I.io
  iow := I.iow
  lk := I.lk
/-- a new list or dict, kept apart -/
theorem Sim.newCell (I : Sim K S ow σ H env) {p : Addr} {o : HO} (h : H p = none) (m : Mu o) : Sim K (S.add p) ow σ (upd H p o) env where
  len := I.len
  lenO := I.lenO
  slot := fun i s e => by
    have q := (I.newAny (o := o) h).slot i s e
    have pr : Pres H (Av S.A ow) (upd H p o) (Av (S.add p).A ow) := ⟨fun a u e n => ⟨by rw [upd_ne (ne_of_none e h)]; exact e, fun z => by
      rcases z with (z | z) | z
      · exact n (.inl z)
      · rw [z, h] at e; cases e
      · exact n (.inr z)⟩, fun _ _ e => by rw [upd_ne (ne_of_none e h)]; exact e, fun _ _ _ e => by rw [upd_ne (ne_of_none e h)]; exact e⟩
    exact (I.slot i s e).pres pr fun a ea => upd_ne fun z => I.mutne (a := a) (.inr (List.mem_of_getElem? ea)) (by rw [z]; exact h)
  inj := I.inj
  live := fun a ha => by
    rcases ha with (ha | ha) | ha
    · obtain ⟨u, e, m⟩ := I.live a (.inl ha); exact ⟨u, by rw [upd_ne (ne_of_none e h)]; exact e, m⟩
    · subst ha; exact ⟨o, upd_same, m⟩
    · obtain ⟨u, e, m⟩ := I.live a (.inr ha); exact ⟨u, by rw [upd_ne (ne_of_none e h)]; exact e, m⟩
  sep := fun a ha z => by
    rcases z with z | z
    · exact I.sep a ha z
    · exact I.mutne (a := a) (.inr ha) (by rw [z]; exact h)
  frame := (I.newAny (o := o) h).frame
  fresh := I.fresh
  io := I.io
  iow := I.iow
  lk := I.lk
/-- less is kept apart -/
theorem Sim.drop {p : Addr} (I : Sim K (S.add p) ow σ H env) : Sim K S ow σ H env where
  len := I.len
  lenO := I.lenO
  slot := fun i s e => (I.slot i s e).pres (Pres.less fun a z => z.elim (fun z => .inl (.inl z)) .inr) fun _ _ => rfl
  inj := I.inj
  live := fun a ha => I.live a (ha.elim (fun z => .inl (.inl z)) .inr)
  sep := fun a ha z => I.sep a ha (.inl z)
  frame := I.frame
  fresh := I.fresh
  io := I.io
  iow := I.iow
  lk := I.lk
end
end PL
end

section
set_option maxRecDepth 100000
set_option maxHeartbeats 3900000
/-! PL1: expressions over plain data. -/
namespace PL
open PySem Spec PyProof.Rows L2

abbrev EM := Env → Option (D × Env)
abbrev TM := Env → Option (Bool × Env)
inductive Arg where
  | v (m : EM)
  | b (i : Nat)
/-- what v has at its top may be read -/
def RpT (K : PySem.W.Frag) (H : Hp) (P : Addr → Prop) (v : V) (d : D) : Prop := Rp K H P v d ∨ ∃ a o, v = .ref a ∧ H a = some o ∧ RpC K H P o d
inductive RpTs (K : PySem.W.Frag) (H : Hp) (P : Addr → Prop) : List V → List D → Prop
  | nil : RpTs K H P [] []
  | cons {v : V} {vs : List V} {d : D} {ds : List D} : RpT K H P v d → RpTs K H P vs ds → RpTs K H P (v :: vs) (d :: ds)
/-- a result: told by what stood, or a new tuple, or a new list or dict -/
inductive Res (fr : Bool) (K : PySem.W.Frag) (H : Hp) (P : Addr → Prop) : V → D → Hp → Prop
  | same {v : V} {d : D} : Rp K H P v d → (fr = true → isMutD d = false) → Res fr K H P v d H
  | newT {p : Addr} {vs : List V} {ds : List D} : H p = none → RpL K H P vs ds → Res fr K H P (.ref p) (.tup ds) (upd H p (.tup vs))
  | newC {p : Addr} {o : HO} {d : D} : H p = none → RpC K H P o d → Res fr K H P (.ref p) d (upd H p o)
def r2 (fr : Bool) (K : PySem.W.Frag) (g : List D → Option D) : R2 := fun x y H Q => ∃ P dx dy d, RpT K H P x dx ∧ RpT K H P y dy ∧ g [dx, dy] = some d ∧ ∀ v H', Res fr K H P v d H' → Q v H'
def r1 (fr : Bool) (K : PySem.W.Frag) (g : List D → Option D) : V → Hp → VK → Prop := fun x H Q => ∃ P dx d, RpT K H P x dx ∧ g [dx] = some d ∧ ∀ v H', Res fr K H P v d H' → Q v H'
def rL (fr : Bool) (K : PySem.W.Frag) (g : List D → Option D) : List V → Hp → VK → Prop := fun vs H Q => ∃ P ds d, RpTs K H P vs ds ∧ g ds = some d ∧ ∀ v H', Res fr K H P v d H' → Q v H'
/-- how an expression's value comes -/
def FrR (fr : Bool) (K : PySem.W.Frag) (S S' : SS) (Hs H' : Hp) (ow' : List (Option Addr)) (v : V) (d : D) : Prop :=
  (S' = S ∧ Rp K H' (Av S.A ow') v d ∧ (fr = true → isMutD d = false)) ∨ (fr = true ∧ ∃ p o, S' = S.add p ∧ v = .ref p ∧ Hs p = none ∧ H' p = some o ∧ RpC K H' (Av S'.A ow') o d)
def Ev (fr : Bool) (K : PySem.W.Frag) (m : EM) : TE := fun σ H Q => ∃ S ow env, Sim K S ow σ H env ∧ ∃ d env', m env = some (d, env') ∧
  ∀ S' ow' v H', Stp ow H ow' H' → Sim K S' ow' σ H' env' → FrR fr K S S' H H' ow' v d → Q v H'
abbrev EvS := Ev false
abbrev EvF := Ev true
def EvT (K : PySem.W.Frag) (m : TM) : TT := fun σ H Q => ∃ S ow env, Sim K S ow σ H env ∧ ∃ b env', m env = some (b, env') ∧ ∀ ow' H', Stp ow H ow' H' → Sim K S ow' σ H' env' → Q b H'

section
variable {K : PySem.W.Frag} {S S' : SS} {H H1 H2 H' : Hp} {P P' : Addr → Prop} {ow ow' ow1 ow2 : List (Option Addr)} {σ : L2.St} {env env1 env2 env' : Env} {v x y : V} {d dx dy : D} {fr : Bool}
theorem RpT.pres (p : Pres H P H' P') (h : RpT K H P v d) (hc : ∀ a o, v = .ref a → H a = some o → Mu o → H' a = some o) : RpT K H' P' v d := by
  rcases h with h | ⟨a, o, e, e2, r⟩
  · exact .inl (h.pres p)
  · exact .inr ⟨a, o, e, hc a o e e2 r.mu, r.pres p⟩
theorem FrR.shared (h : FrR false K S S' H H' ow' v d) : S' = S ∧ Rp K H' (Av S.A ow') v d := by
  rcases h with ⟨e, r, _⟩ | ⟨e, _⟩
  · exact ⟨e, r⟩
  · cases e
/-- a result, kept for no slot -/
theorem Res.go {Q : VK} {H0 : Hp} {ow0 : List (Option Addr)} (r : Res fr K H (Av S.A ow) v d H') (I : Sim K S ow σ H env) (st : Stp ow0 H0 ow H)
    (k : ∀ S' ow' v H', Stp ow0 H0 ow' H' → Sim K S' ow' σ H' env → FrR fr K S S' H0 H' ow' v d → Q v H') : Q v H' := by
  cases r with
  | same r n => exact k S ow v H st I (.inl ⟨rfl, r, n⟩)
  | @newT p vs ds hp r =>
    refine k S ow _ _ (st.trans (Stp.new hp)) (I.newAny hp) (.inl ⟨rfl, .tup (.inl (.inl upd_same)) (r.pres (Pres.new hp)), fun _ => rfl⟩)
  | @newC p o d hp r =>
    have pr : Pres H (Av S.A ow) (upd H p o) (Av (S.add p).A ow) := by
      refine Pres.trans (Pres.addFresh hp) (Pres.trans (Pres.new hp) (Pres.less fun a z => ?_))
      rcases z with (z | z) | z
      · exact .inl (.inl z)
      · exact .inr z
      · exact .inl (.inr z)
    cases fr with
    | true => exact k (S.add p) ow _ _ (st.trans (Stp.new hp)) (I.newCell hp r.mu) (.inr ⟨rfl, p, o, rfl, rfl, st.back hp, upd_same, r.pres pr⟩)
    | false =>
      refine k S ow _ _ (st.trans (Stp.new hp)) (I.newAny hp) (.inl ⟨rfl, .cell upd_same (fun z => I.mutne z hp) (r.pres (Pres.new hp)), fun z => by cases z⟩)
end

/-! ### weakening -/
theorem _root_.L2.PE.imp {X : Cx} {e : Expr} {t t' : TE} (h : PE X e t) (w : ∀ σ H Q, t' σ H Q → t σ H Q) : PE X e t' := ⟨fun pins s σ H Q I q => h.run pins s σ H Q I (w σ H Q q)⟩
theorem _root_.L2.PT.imp {X : Cx} {e : Expr} {t t' : TT} (h : PT X e t) (w : ∀ σ H Q, t' σ H Q → t σ H Q) : PT X e t' := ⟨fun pins s σ H Q I q => h.run pins s σ H Q I (w σ H Q q)⟩
theorem _root_.L2.PA.imp {X : Cx} {e : List Expr} {t t' : TA} (h : PA X e t) (w : ∀ σ H Q, t' σ H Q → t σ H Q) : PA X e t' := ⟨fun pos pins s σ H Q I q => h.run pos pins s σ H Q I (w σ H Q q)⟩
theorem _root_.L2.PS.imp {X : Cx} {e : Stmt} {t t' : TS} (h : PS X e t) (w : ∀ D σ H, t' D σ H → t D σ H) : PS X e t' := ⟨fun pins s σ H D I q => h.run pins s σ H D I (w D σ H q)⟩
theorem _root_.L2.PSs.imp {X : Cx} {e : List Stmt} {t t' : TS} (h : PSs X e t) (w : ∀ D σ H, t' D σ H → t D σ H) : PSs X e t' := ⟨fun pins s σ H D I q => h.run pins s σ H D I (w D σ H q)⟩
/-- a fresh value is a value -/
theorem e_sh {X : Cx} {e : Expr} {m : EM} (h : PE X e (EvF X.K m)) : PE X e (EvS X.K m) := h.imp fun σ H Q ⟨S, ow, env, I, d, env', hm, k⟩ => ⟨S, ow, env, I, d, env', hm, fun S' ow' v H' st J f => by
  rcases f with ⟨rfl, r, _⟩ | ⟨_, p, o, rfl, rfl, hp, ho, r⟩
  · exact k S' ow' v H' st J (.inl ⟨rfl, r, fun z => by cases z⟩)
  · refine k S ow' _ H' st J.drop (.inl ⟨rfl, .cell ho (fun z => ?_) (r.pres (Pres.less fun a z => z.elim (fun z => .inl (.inl z)) .inr)), fun z => by cases z⟩)
    rcases z with z | z
    · exact I.mutne (.inl z) hp
    · exact J.sep p z (.inr rfl)⟩

/-! ### names, constants -/
def eVar (i : Nat) : EM := fun env => match env[i]? with
  | some (.shr d) => some (d, env)
  | some (.own d) => some (d, env.set i (.shr d))
  | _ => none
def eC (d : D) : EM := fun env => some (d, env)
theorem Sim.share {K : PySem.W.Frag} {S : SS} {ow : List (Option Addr)} {σ : L2.St} {H : Hp} {env : Env} (I : Sim K S ow σ H env) {i : Nat} {d : D} (h : env[i]? = some (.own d)) :
    ∃ a, σ[i]? = some (some (.ref a)) ∧ Sim K S (ow.set i none) σ H (env.set i (.shr d)) ∧ Rp K H (Av S.A (ow.set i none)) (.ref a) d := by
  obtain ⟨a, o, e1, e2, e3, r⟩ := I.slot i _ h
  have hin : ∀ {b : Addr}, some b ∈ ow.set i none → some b ∈ ow ∧ b ≠ a := fun {b} hb => by
    obtain ⟨j, hj⟩ := List.getElem?_of_mem hb
    by_cases hij : j = i
    · subst hij
      rw [List.getElem?_set] at hj
      split at hj
      · split at hj <;> cases hj
      · contradiction
    · rw [List.getElem?_set_ne (Ne.symm hij)] at hj
      exact ⟨List.mem_of_getElem? hj, fun z => hij (I.inj j i a (by rw [← z]; exact hj) e2)⟩
  have hget : ∀ {j : Nat} {b : Addr}, (ow.set i none)[j]? = some (some b) → ow[j]? = some (some b) ∧ j ≠ i := fun {j b} hj => by
    by_cases hij : j = i
    · subst hij
      rw [List.getElem?_set] at hj
      split at hj
      · split at hj <;> cases hj
      · contradiction
    · rw [List.getElem?_set_ne (Ne.symm hij)] at hj
      exact ⟨hj, hij⟩
  have less : ∀ b, Av S.A (ow.set i none) b → Av S.A ow b := fun b z => z.elim .inl fun z => .inr (hin z).1
  have na : ¬ Av S.A (ow.set i none) a := fun z => z.elim (fun z => I.sep a (List.mem_of_getElem? e2) z) fun z => (hin z).2 rfl
  have rr : Rp K H (Av S.A (ow.set i none)) (.ref a) d := .cell e3 na (r.pres (Pres.less less))
  refine ⟨a, e1, ⟨by simpa using I.len, by simpa using I.lenO, fun j s e => ?_, fun j k b h1 h2 => I.inj j k b (hget h1).1 (hget h2).1, fun b hb => I.live b (less b hb), fun b hb => I.sep b (hin hb).1, I.frame, fun b hb => I.fresh b (hin hb).1, fun p hp => ?_, fun j d' e => ?_, fun p hp => ?_⟩, rr⟩
  · by_cases hij : j = i
    · subst hij
      rw [List.getElem?_set] at e
      split at e
      · split at e
        · cases e; exact ⟨_, e1, rr⟩
        · cases e
      · contradiction
    · rw [List.getElem?_set_ne (Ne.symm hij)] at e
      rw [List.getElem?_set_ne (Ne.symm hij)]
      exact (I.slot j s e).pres (Pres.less less) fun _ _ => rfl
  · obtain ⟨h1, d', h2⟩ := I.io p hp
    have hne : i ≠ p.1 := fun z => by rw [← z, h] at h2; cases h2
    exact ⟨by rw [List.getElem?_set_ne hne]; exact h1, d', by rw [List.getElem?_set_ne hne]; exact h2⟩
  · by_cases hij : j = i
    · subst hij
      rw [List.getElem?_set] at e
      split at e
      · split at e <;> cases e
      · contradiction
    · rw [List.getElem?_set_ne (Ne.symm hij)] at e
      exact I.iow j d' e
  · obtain ⟨h1, h2⟩ := I.lk p hp
    have hne : i ≠ p.1 := fun z => by rw [← z, h] at h2; cases h2
    exact ⟨h1, by rw [List.getElem?_set_ne hne]; exact h2⟩
theorem mem_set_none {ow : List (Option Addr)} {i : Nat} {a : Addr} (h : some a ∈ ow.set i none) : some a ∈ ow := by
  rcases List.mem_or_eq_of_mem_set h with h | h
  · exact h
  · cases h
theorem stp_less {H : Hp} {ow ow' : List (Option Addr)} (h : ∀ a : Addr, some a ∈ ow' → some a ∈ ow) : Stp ow H ow' H := ⟨fun a o e n => ⟨e, fun z => n (h a z)⟩, fun _ _ e => e, fun _ _ _ e => e, fun _ o e => ⟨o, e⟩⟩
theorem e_var {X : Cx} (i : Nat) {x : Str} {pos : Pos} (h : PE X (.Name x pos) (tVar i)) : PE X (.Name x pos) (EvS X.K (eVar i)) := h.imp fun σ H Q ⟨S, ow, env, I, d, env', hm, k⟩ => by
  unfold eVar at hm
  split at hm
  · rename_i d' e
    cases hm
    obtain ⟨v, e1, r⟩ := I.slot i _ e
    exact ⟨v, e1, k S ow v H .refl I (.inl ⟨rfl, r, fun z => by cases z⟩)⟩
  · rename_i d' e
    cases hm
    obtain ⟨a, e1, J, r⟩ := I.share e
    exact ⟨_, e1, k S _ _ H (stp_less fun a z => mem_set_none z) J (.inl ⟨rfl, r, fun z => by cases z⟩)⟩
  · cases hm
theorem e_c {X : Cx} {e : Expr} {v : V} {d : D} (h : PE X e (tC v)) (r : ∀ H P, Rp X.K H P v d) (n : isMutD d = false := by rfl) : PE X e (EvF X.K (eC d)) := h.imp fun σ H Q ⟨S, ow, env, I, d', env', hm, k⟩ => by
  cases hm
  exact k S ow v H .refl I (.inl ⟨rfl, r _ _, fun _ => n⟩)

/-! ### argument lists -/
def evA : List Arg → Env → Option (List D × Env)
  | [], env => some ([], env)
  | .v m :: as, env => (m env).bind fun (d, e1) => (evA as e1).bind fun (ds, e2) => some (d :: ds, e2)
  | .b i :: as, env => (peek env i).bind fun _ => (evA as env).bind fun (ds, e2) => (peek e2 i).bind fun d => some (d :: ds, e2)
def rdArg (K : PySem.W.Frag) : Arg → TE
  | .v m => EvS K m
  | .b i => tVar i
def tArgs (K : PySem.W.Frag) : List Arg → TA
  | [] => tNil
  | a :: as => tCons (rdArg K a) (tArgs K as)
theorem args_ok {K : PySem.W.Frag} {S : SS} {σ : L2.St} : ∀ (args : List Arg) {ow : List (Option Addr)} {H : Hp} {env env' : Env} {ds : List D} {R : List V → Hp → Prop}, Sim K S ow σ H env → evA args env = some (ds, env') →
    (∀ ow' vs H', Stp ow H ow' H' → Sim K S ow' σ H' env' → RpTs K H' (Av S.A ow') vs ds → R vs H') → tArgs K args σ H R
  | [], ow, H, env, env', ds, R, I, h, k => by
    cases h
    exact k ow [] H .refl I .nil
  | .v m :: as, ow, H, env, env', ds, R, I, h, k => by
    unfold evA at h
    simp only [Option.bind_eq_some_iff] at h
    obtain ⟨⟨d, e1⟩, h1, ⟨ds1, e2⟩, h2, h3⟩ := h
    cases h3
    refine ⟨S, ow, env, I, d, e1, h1, fun S' ow1 v H1 st1 I1 f => ?_⟩
    obtain ⟨rfl, r⟩ := f.shared
    refine args_ok as I1 h2 fun ow2 vs H2 st2 I2 rs => ?_
    exact k ow2 (v :: vs) H2 (st1.trans st2) I2 (.cons (.inl (r.pres st2.pres)) rs)
  | .b i :: as, ow, H, env, env', ds, R, I, h, k => by
    unfold evA at h
    simp only [Option.bind_eq_some_iff] at h
    obtain ⟨d0, h0, ⟨ds1, e2⟩, h2, d, hp, h3⟩ := h
    cases h3
    obtain ⟨v, ev, _⟩ := I.peek h0
    refine ⟨v, ev, ?_⟩
    refine args_ok as I h2 fun ow2 vs H2 st2 I2 rs => ?_
    obtain ⟨v', ev', r⟩ := I2.peek hp
    rw [ev] at ev'
    cases ev'
    exact k ow2 (v :: vs) H2 st2 I2 (.cons r rs)
/-- an argument as an expression of its own -/
def PArg (X : Cx) (e : Expr) (a : Arg) : Prop := PE X e (rdArg X.K a)
def eApp (g : List D → Option D) (args : List Arg) : EM := fun env => (evA args env).bind fun (ds, e) => (g ds).bind fun d => some (d, e)
section
variable {X : Cx} {fr : Bool} {g : List D → Option D} {a b : Expr} {ma mb : Arg} {pos : Pos}
theorem evA_len : ∀ {args : List Arg} {env e : Env} {ds : List D}, evA args env = some (ds, e) → ds.length = args.length
  | [], _, _, _, h => by cases h; rfl
  | .v m :: as, env, e, ds, h => by
    unfold evA at h
    simp only [Option.bind_eq_some_iff] at h
    obtain ⟨⟨d, e1⟩, h1, ⟨ds1, e2⟩, h2, h3⟩ := h
    cases h3
    simp [evA_len h2]
  | .b i :: as, env, e, ds, h => by
    unfold evA at h
    simp only [Option.bind_eq_some_iff] at h
    obtain ⟨d0, h0, ⟨ds1, e2⟩, h2, d, hp, h3⟩ := h
    cases h3
    simp [evA_len h2]
theorem RpTs.length {K : PySem.W.Frag} {H : Hp} {P : Addr → Prop} : ∀ {vs : List V} {ds : List D}, RpTs K H P vs ds → vs.length = ds.length
  | _, _, .nil => rfl
  | _, _, .cons _ t => by simp [t.length]
theorem two_go {K : PySem.W.Frag} {σ : L2.St} {H : Hp} {Q : VK} {r : R2} (hr : ∀ x y H Q, r2 fr K g x y H Q → r x y H Q) (h : Ev fr K (eApp g [ma, mb]) σ H Q) : tOp r (rdArg K ma) (rdArg K mb) σ H Q := by
  obtain ⟨S, ow, env, I, d, env', hm, k⟩ := h
  unfold eApp at hm
  simp only [Option.bind_eq_some_iff] at hm
  obtain ⟨⟨ds, e⟩, h1, d', h2, h3⟩ := hm
  cases h3
  have q : tArgs K [ma, mb] σ H (fun vs H2 => match vs with | [x, y] => r x y H2 Q | _ => False) := by
    refine args_ok [ma, mb] I h1 fun ow' vs H' st I' rs => ?_
    have l1 := evA_len h1
    have l2 := rs.length
    match vs, ds, rs with
    | [x, y], [dx, dy], .cons rx (.cons ry .nil) => exact hr _ _ _ _ ⟨_, dx, dy, d, rx, ry, h2, fun v H2 res => res.go I' st k⟩
    | [], [], .nil => simp at l1
    | [x], [dx], .cons rx .nil => simp at l1
    | x :: y :: z :: r, dx :: dy :: dz :: ds', .cons rx (.cons ry (.cons rz rr)) => simp at l1
  exact q
theorem one_go {K : PySem.W.Frag} {σ : L2.St} {H : Hp} {Q : VK} {r : V → Hp → VK → Prop} (hr : ∀ x H Q, r1 fr K g x H Q → r x H Q) (h : Ev fr K (eApp g [ma]) σ H Q) : tUn r (rdArg K ma) σ H Q := by
  obtain ⟨S, ow, env, I, d, env', hm, k⟩ := h
  unfold eApp at hm
  simp only [Option.bind_eq_some_iff] at hm
  obtain ⟨⟨ds, e⟩, h1, d', h2, h3⟩ := hm
  cases h3
  have q : tArgs K [ma] σ H (fun vs H2 => match vs with | [x] => r x H2 Q | _ => False) := by
    refine args_ok [ma] I h1 fun ow' vs H' st I' rs => ?_
    have l1 := evA_len h1
    have l2 := rs.length
    match vs, ds, rs with
    | [x], [dx], .cons rx .nil => exact hr _ _ _ ⟨_, dx, d, rx, h2, fun v H2 res => res.go I' st k⟩
    | [], [], .nil => simp at l1
    | x :: y :: r, dx :: dy :: ds', .cons rx (.cons ry rr) => simp at l1
  exact q
theorem many_go {K : PySem.W.Frag} {σ : L2.St} {H : Hp} {Q : VK} {args : List Arg} {r : List V → Hp → VK → Prop} (hr : ∀ xs H Q, rL fr K g xs H Q → r xs H Q) (h : Ev fr K (eApp g args) σ H Q) : tCB r (tArgs K args) σ H Q := by
  obtain ⟨S, ow, env, I, d, env', hm, k⟩ := h
  unfold eApp at hm
  simp only [Option.bind_eq_some_iff] at hm
  obtain ⟨⟨ds, e⟩, h1, d', h2, h3⟩ := hm
  cases h3
  exact args_ok args I h1 fun ow' vs H' st I' rs => hr _ _ _ ⟨_, ds, d, rs, h2, fun v H2 res => res.go I' st k⟩
theorem e_bin {op : Operator} (ho : OpR X (binaryOp op) (r2 fr X.K g)) (ha : PArg X a ma) (hb : PArg X b mb) : PE X (.BinOp a op b pos) (Ev fr X.K (eApp g [ma, mb])) :=
  (pe_op ho ha hb).imp fun _ _ _ h => two_go (fun _ _ _ _ q => q) h
theorem e_un {op : UnaryOp} (ho : UnR X (unaryOp op) (r1 fr X.K g)) (ha : PArg X a ma) : PE X (.UnaryOp op a pos) (Ev fr X.K (eApp g [ma])) :=
  (pe_un ho ha).imp fun _ _ _ h => one_go (fun _ _ _ q => q) h
theorem e_cmp {op : CmpOp} (ho : OpR X (compareOp op) (r2 fr X.K g)) (ha : PArg X a ma) (hb : PArg X b mb) (hm : behindInMarks op b = false) : PE X (.Compare a [op] [b] pos) (Ev fr X.K (eApp g [ma, mb])) :=
  (pe_cmpR ho ha hb hm).imp fun _ _ _ h => two_go (fun _ _ _ _ q => q) h
theorem e_ix (ho : IxR X (r2 fr X.K g)) (ha : PArg X a ma) (hb : PArg X b mb) (hs : PlainIx b) : PE X (.Subscript a b pos) (Ev fr X.K (eApp g [ma, mb])) :=
  (pe_ix ho ha hb hs).imp fun _ _ _ h => two_go (fun _ _ _ _ q => q) h
/-- argument lists -/
theorem pargs_nil : PA X [] (tArgs X.K []) := pa_nil
theorem pargs_cons {e : Expr} {es : List Expr} {a : Arg} {as : List Arg} (ha : PArg X e a) (hr : PA X es (tArgs X.K as)) (hs : starEach (e :: es) X.env = (false, eval e X.env) :: starEach es X.env := by rfl) : PA X (e :: es) (tArgs X.K (a :: as)) := pa_cons ha hr hs
theorem e_callB {x : Str} {p : Pos} {id : String} {e : Expr} {es : List Expr} {args : List Arg} (hc : CallR X (.builtin id) (rL fr X.K g)) (hg : Gl X x) (hm : X.mg x = none) (hv : bootBuiltins x = some (.builtin id)) (ha : PA X (e :: es) (tArgs X.K args)) (hn : x ≠ "__name__" := by decide) (hdb : (x == ("__debug__" : Str)) = false := by decide)
    (he : starEach (e :: es) X.env = (false, eval e X.env) :: starEach es X.env := by rfl) (hpl : (backTo pos (starEach es X.env)).any (·.1) = false := by rfl) : PE X (.Call (.Name x p) (e :: es) [] pos) (Ev fr X.K (eApp g args)) :=
  (pe_callB hc hg hm hv ha hn hdb he hpl).imp fun _ _ _ h => many_go (fun _ _ _ q => q) h
theorem e_callTy {x : Str} {p : Pos} {T : String} {e : Expr} {es : List Expr} {args : List Arg} (hc : CallR X (.type T) (rL fr X.K g)) (hg : Gl X x) (hm : X.mg x = none) (hv : bootBuiltins x = some (.type T)) (ha : PA X (e :: es) (tArgs X.K args)) (hn : x ≠ "__name__" := by decide) (hdb : (x == ("__debug__" : Str)) = false := by decide)
    (he : starEach (e :: es) X.env = (false, eval e X.env) :: starEach es X.env := by rfl) (hpl : (backTo pos (starEach es X.env)).any (·.1) = false := by rfl) : PE X (.Call (.Name x p) (e :: es) [] pos) (Ev fr X.K (eApp g args)) :=
  (pe_callTy hc hg hm hv ha hn hdb he hpl).imp fun _ _ _ h => many_go (fun _ _ _ q => q) h
theorem p_v {e : Expr} {m : EM} (h : PE X e (EvS X.K m)) : PArg X e (.v m) := h
theorem p_f {e : Expr} {m : EM} (h : PE X e (EvF X.K m)) : PArg X e (.v m) := e_sh h
theorem p_b {i : Nat} {x : Str} (h : PE X (.Name x pos) (tVar i)) : PArg X (.Name x pos) (.b i) := h

/-! ### displays -/
def evL : List EM → Env → Option (List D × Env)
  | [], env => some ([], env)
  | m :: ms, env => (m env).bind fun (d, e1) => (evL ms e1).bind fun (ds, e2) => some (d :: ds, e2)
def tEs (K : PySem.W.Frag) : List EM → TA
  | [] => tNil
  | m :: ms => tCons (EvS K m) (tEs K ms)
theorem es_ok {K : PySem.W.Frag} {S : SS} {σ : L2.St} : ∀ (ms : List EM) {ow : List (Option Addr)} {H : Hp} {env env' : Env} {ds : List D} {R : List V → Hp → Prop}, Sim K S ow σ H env → evL ms env = some (ds, env') →
    (∀ ow' vs H', Stp ow H ow' H' → Sim K S ow' σ H' env' → RpL K H' (Av S.A ow') vs ds → R vs H') → tEs K ms σ H R
  | [], ow, H, env, env', ds, R, I, h, k => by
    cases h
    exact k ow [] H .refl I .nil
  | m :: as, ow, H, env, env', ds, R, I, h, k => by
    unfold evL at h
    simp only [Option.bind_eq_some_iff] at h
    obtain ⟨⟨d, e1⟩, h1, ⟨ds1, e2⟩, h2, h3⟩ := h
    cases h3
    refine ⟨S, ow, env, I, d, e1, h1, fun S' ow1 v H1 st1 I1 f => ?_⟩
    obtain ⟨rfl, r⟩ := f.shared
    refine es_ok as I1 h2 fun ow2 vs H2 st2 I2 rs => ?_
    exact k ow2 (v :: vs) H2 (st1.trans st2) I2 (.cons (r.pres st2.pres) rs)
theorem evL_len : ∀ {ms : List EM} {env e : Env} {ds : List D}, evL ms env = some (ds, e) → ds.length = ms.length
  | [], _, _, _, h => by cases h; rfl
  | m :: as, env, e, ds, h => by
    unfold evL at h
    simp only [Option.bind_eq_some_iff] at h
    obtain ⟨⟨d, e1⟩, h1, ⟨ds1, e2⟩, h2, h3⟩ := h
    cases h3
    simp [evL_len h2]
def eTup (ms : List EM) : EM := fun env => (evL ms env).map fun (ds, e) => (.tup ds, e)
def eLst (ms : List EM) : EM := fun env => (evL ms env).map fun (ds, e) => (.lst ds, e)
theorem pes_nil : PA X [] (tEs X.K []) := pa_nil
theorem pes_cons {e : Expr} {es : List Expr} {a : EM} {as : List EM} (ha : PE X e (EvS X.K a)) (hr : PA X es (tEs X.K as)) (hs : starEach (e :: es) X.env = (false, eval e X.env) :: starEach es X.env := by rfl) : PA X (e :: es) (tEs X.K (a :: as)) := pa_cons ha hr hs
theorem e_tup {es : List Expr} {ms : List EM} {x1 : Nat} (h : PA X es (tEs X.K ms)) (hz : ms.length ≤ 1000 := by decide) : PE X (.Tuple es x1 pos) (EvF X.K (eTup ms)) := (pe_tup h).imp fun σ H Q ⟨S, ow, env, I, d, env', hm, k⟩ => by
  unfold eTup at hm
  simp only [Option.map_eq_some_iff] at hm
  obtain ⟨⟨ds, e⟩, h1, h2⟩ := hm
  cases h2
  refine es_ok ms I h1 fun ow' vs H' st I' rs => ⟨?_, fun p hp => ?_⟩
  · rw [rs.length, evL_len h1, sizeLine_eq]; omega
  · exact Res.go (fr := true) (.newT hp rs) I' st k
theorem e_lst {es : List Expr} {ms : List EM} (h : PA X es (tEs X.K ms)) (hz : ms.length ≤ 1000 := by decide) : PE X (.List es pos) (EvF X.K (eLst ms)) := (pe_lst h).imp fun σ H Q ⟨S, ow, env, I, d, env', hm, k⟩ => by
  unfold eLst at hm
  simp only [Option.map_eq_some_iff] at hm
  obtain ⟨⟨ds, e⟩, h1, h2⟩ := hm
  cases h2
  refine es_ok ms I h1 fun ow' vs H' st I' rs => ⟨?_, fun p hp => ?_⟩
  · rw [rs.length, evL_len h1, sizeLine_eq]; omega
  · exact Res.go (fr := true) (.newC hp (.lst rs)) I' st k

/-! ### tests, and or not, a if t else b -/
def truth : D → Option Bool
  | .non => some false
  | .bl b => some b
  | .int i => some (i != 0)
  | .str s => if s.length ≤ 16777216 then some (!s.isEmpty) else none
  | .tup ds => some (!ds.isEmpty)
  | .lst ds => some (!ds.isEmpty)
  | _ => none
theorem truth_ok {K : PySem.W.Frag} {H : Hp} {P : Addr → Prop} {v : V} {d : D} {k : Bool} (r : RpT K H P v d) (h : truth d = some k) : TruV K v H k := by
  have fin : ∀ {o : HO} {a : Addr}, (H a = some o ∨ ∃ ob, H a = some (.frz ob o)) → RpC K H P o d → TruV K (.ref a) H k := fun {o a} e rc => by
    cases rc with
    | @lst vs ds rl =>
      have hk : k = !ds.isEmpty := (Option.some.inj h).symm
      refine .inl ⟨vs, .inl ?_, ?_⟩
      · rcases e with e | e
        · exact .inl e
        · exact .inr e
      · rw [hk]; cases rl <;> rfl
    | dK _ => cases h
    | dT _ => cases h
  rcases r with r | ⟨a, o, rfl, e, rc⟩
  · cases r with
    | non => exact (Option.some.inj h).symm
    | bl b => exact (Option.some.inj h).symm
    | int i => exact (Option.some.inj h).symm
    | str x =>
      have h : (if x.cps.toList.length ≤ 16777216 then some (!x.cps.toList.isEmpty) else none) = some k := h
      by_cases hz : x.cps.toList.length ≤ 16777216
      · rw [if_pos hz] at h
        refine ⟨by rw [sizeLine_eq]; simpa [Str.length] using hz, ?_⟩
        rw [← Option.some.inj h]
        show _ = ((x.cps.size : Int) != 0)
        rw [← Array.length_toList]
        cases x.cps.toList with
        | nil => rfl
        | cons c r => rw [Bool.eq_iff_iff]; simp; omega
      · rw [if_neg hz] at h; cases h
    | @tup a vs ds hs rl =>
      have hk : k = !ds.isEmpty := (Option.some.inj h).symm
      refine .inr (.inl ⟨vs, hs, ?_⟩)
      rw [hk]; cases rl <;> rfl
    | cell e _ rc => exact fin (.inl e) rc
    | frz e rc => exact fin (.inr ⟨_, e⟩) rc
    | @kls a vs ds hs rl =>
      have hk : k = !ds.isEmpty := (Option.some.inj h).symm
      refine .inl ⟨vs, hs.sq, ?_⟩
      rw [hk]; cases rl <;> rfl
    | opq v => cases h
  · exact fin (.inl e) rc
def asB : D → Option Bool
  | .bl b => some b
  | _ => none
def tB_ (m : EM) : TM := fun env => (m env).bind fun (d, e) => (asB d).bind fun b => some (b, e)
def tTr (a : Arg) : TM := fun env => (evA [a] env).bind fun (ds, e) => match ds with | [d] => (truth d).bind fun b => some (b, e) | _ => none
def tNo (t : TM) : TM := fun env => (t env).map fun (b, e) => (!b, e)
def tAn (t u : TM) : TM := fun env => (t env).bind fun (b, e) => if b = true then u e else some (false, e)
def tOrr (t u : TM) : TM := fun env => (t env).bind fun (b, e) => if b = true then some (true, e) else u e
theorem Rp.bl_inv {K : PySem.W.Frag} {H : Hp} {P : Addr → Prop} {v : V} {b : Bool} (r : Rp K H P v (.bl b)) : v = .bl b := by
  cases r with
  | bl => rfl
  | cell _ _ rc => cases rc
  | frz _ rc => cases rc
theorem t_cmp {op : CmpOp} (ho : OpR X (compareOp op) (r2 true X.K g)) (ha : PArg X a ma) (hb : PArg X b mb) (hm : behindInMarks op b = false) : PT X (.Compare a [op] [b] pos) (EvT X.K (tB_ (eApp g [ma, mb]))) :=
  (pt_cmpR ho ha hb hm).imp fun σ H Q ⟨S, ow, env, I, c, env', hm, k⟩ => by
    unfold tB_ at hm
    simp only [Option.bind_eq_some_iff] at hm
    obtain ⟨⟨d, e⟩, h1, c', h2, h3⟩ := hm
    cases h3
    refine two_go (fr := true) (g := g) (fun _ _ _ _ q => q) ⟨S, ow, env, I, d, _, h1, fun S' ow' v H' st J f => ?_⟩
    have hd : d = .bl c := by
      cases d <;> first | (cases h2; rfl) | cases h2
    subst hd
    rcases f with ⟨rfl, r, _⟩ | ⟨_, p, o, _, _, _, _, r⟩
    · exact ⟨c, r.bl_inv, k ow' H' st J⟩
    · cases r
theorem t_truth (ha : PArg X a ma) (he : ∀ whole, isTrue a X.env whole = (do let v ← whole; standAt a.pos; holding [v] (truthy v)) := by intro _; rfl) : PT X a (EvT X.K (tTr ma)) :=
  (pt_truth ha he).imp fun σ H Q ⟨S, ow, env, I, c, env', hm, k⟩ => by
    unfold tTr at hm
    simp only [Option.bind_eq_some_iff] at hm
    obtain ⟨⟨ds, e⟩, h1, h2⟩ := hm
    have q : tArgs X.K [ma] σ H (fun vs H2 => match vs with | [x] => ∃ k, TruV X.K x H2 k ∧ Q k H2 | _ => False) := by
      refine args_ok [ma] I h1 fun ow' vs H' st I' rs => ?_
      have l1 := evA_len h1
      match vs, ds, rs with
      | [x], [dx], .cons rx .nil =>
        simp only [Option.bind_eq_some_iff] at h2
        obtain ⟨b', h3, h4⟩ := h2
        cases h4
        exact ⟨_, truth_ok rx h3, k ow' H' st I'⟩
      | [], [], .nil => simp at l1
      | x :: y :: r, dx :: dy :: ds', .cons rx (.cons ry rr) => simp at l1
    exact q
theorem t_not {t : TM} (h : PT X a (EvT X.K t)) : PT X (.UnaryOp .Not a pos) (EvT X.K (tNo t)) := (pt_not h).imp fun σ H Q ⟨S, ow, env, I, c, env', hm, k⟩ => by
  unfold tNo at hm
  simp only [Option.map_eq_some_iff] at hm
  obtain ⟨⟨b, e⟩, h1, h2⟩ := hm
  cases h2
  exact ⟨S, ow, env, I, b, _, h1, k⟩
theorem _root_.L2.PW.imp {e : Expr} {t t' : TT} (h : PW X e t) (w : ∀ σ H Q, t' σ H Q → t σ H Q) : PW X e t' := ⟨fun wh pins s σ H Q I q => h.run wh pins s σ H Q I (w σ H Q q)⟩
theorem w_and1 {t : TM} (h : PT X a (EvT X.K t)) : PW X (.BoolOp .And [a] pos) (EvT X.K t) := pw_and1 h
theorem w_or1 {t : TM} (h : PT X a (EvT X.K t)) : PW X (.BoolOp .Or [a] pos) (EvT X.K t) := pw_or1 h
theorem w_and {rest : List Expr} {t u : TM} (h : PT X a (EvT X.K t)) (h' : PW X (.BoolOp .And (b :: rest) pos) (EvT X.K u)) : PW X (.BoolOp .And (a :: b :: rest) pos) (EvT X.K (tAn t u)) := (pw_and h h').imp fun σ H Q ⟨S, ow, env, I, c, env', hm, k⟩ => by
  unfold tAn at hm
  simp only [Option.bind_eq_some_iff] at hm
  obtain ⟨⟨b, e⟩, h1, h2⟩ := hm
  refine ⟨S, ow, env, I, b, e, h1, fun ow1 H1 st1 I1 => ?_⟩
  cases b with
  | true => exact ⟨S, ow1, e, I1, c, env', h2, fun ow2 H2 st2 I2 => k ow2 H2 (st1.trans st2) I2⟩
  | false => cases h2; exact k ow1 H1 st1 I1
theorem w_or {rest : List Expr} {t u : TM} (h : PT X a (EvT X.K t)) (h' : PW X (.BoolOp .Or (b :: rest) pos) (EvT X.K u)) : PW X (.BoolOp .Or (a :: b :: rest) pos) (EvT X.K (tOrr t u)) := (pw_or h h').imp fun σ H Q ⟨S, ow, env, I, c, env', hm, k⟩ => by
  unfold tOrr at hm
  simp only [Option.bind_eq_some_iff] at hm
  obtain ⟨⟨b, e⟩, h1, h2⟩ := hm
  refine ⟨S, ow, env, I, b, e, h1, fun ow1 H1 st1 I1 => ?_⟩
  cases b with
  | true => cases h2; exact k ow1 H1 st1 I1
  | false => exact ⟨S, ow1, e, I1, c, env', h2, fun ow2 H2 st2 I2 => k ow2 H2 (st1.trans st2) I2⟩
def eIf (t : TM) (m n : EM) : EM := fun env => (t env).bind fun (b, e) => if b = true then m e else n e
theorem Ev.after {K : PySem.W.Frag} {m : EM} {S : SS} {ow ow1 : List (Option Addr)} {σ : L2.St} {H H1 : Hp} {e1 env' : Env} {d : D} {Q : VK} (st : Stp ow H ow1 H1) (I : Sim K S ow1 σ H1 e1) (hm : m e1 = some (d, env'))
    (k : ∀ S' ow' v H', Stp ow H ow' H' → Sim K S' ow' σ H' env' → FrR fr K S S' H H' ow' v d → Q v H') : Ev fr K m σ H1 Q :=
  ⟨S, ow1, e1, I, d, env', hm, fun S' ow' v H' st' J f => k S' ow' v H' (st.trans st') J (f.elim .inl fun ⟨e, p, o, e1, e2, e3, r⟩ => .inr ⟨e, p, o, e1, e2, st.back e3, r⟩)⟩
theorem e_if {c : Expr} {t : TM} {m n : EM} (hc : PT X c (EvT X.K t)) (ha : PE X a (Ev fr X.K m)) (hb : PE X b (Ev fr X.K n)) : PE X (.IfExp c a b pos) (Ev fr X.K (eIf t m n)) := (pe_ifExp hc ha hb).imp fun σ H Q ⟨S, ow, env, I, d, env', hm, k⟩ => by
  unfold eIf at hm
  simp only [Option.bind_eq_some_iff] at hm
  obtain ⟨⟨b, e⟩, h1, h2⟩ := hm
  refine ⟨S, ow, env, I, b, e, h1, fun ow1 H1 st1 I1 => ?_⟩
  cases b with
  | true => exact Ev.after st1 I1 h2 k
  | false => exact Ev.after st1 I1 h2 k
/-- or, and, not as values, by truth -/
def eOr (m n : EM) : EM := fun env => (m env).bind fun (d, e) => (truth d).bind fun b => if b = true then some (d, e) else n e
def eAnd (m n : EM) : EM := fun env => (m env).bind fun (d, e) => (truth d).bind fun b => if b = true then n e else some (d, e)
def eNot (a : Arg) : EM := fun env => (evA [a] env).bind fun (ds, e) => match ds with | [d] => (truth d).bind fun b => some (.bl (!b), e) | _ => none
theorem e_one {op : BoolOp} {m : EM} (h : PE X a (Ev fr X.K m)) : PE X (.BoolOp op [a] pos) (Ev fr X.K m) := pe_one h
theorem e_or {rest : List Expr} {m n : EM} (h : PE X a (EvS X.K m)) (h' : PE X (.BoolOp .Or (b :: rest) pos) (EvS X.K n)) : PE X (.BoolOp .Or (a :: b :: rest) pos) (EvS X.K (eOr m n)) := (pe_orT h h').imp fun σ H Q ⟨S, ow, env, I, d, env', hm, k⟩ => by
  unfold eOr at hm
  simp only [Option.bind_eq_some_iff] at hm
  obtain ⟨⟨d1, e⟩, h1, b, h2, h3⟩ := hm
  refine ⟨S, ow, env, I, d1, e, h1, fun S' ow1 v H1 st1 I1 f => ⟨b, truth_ok (.inl f.shared.2) h2, ?_⟩⟩
  obtain ⟨rfl, r⟩ := f.shared
  cases b with
  | true => cases h3; exact k _ ow1 v H1 st1 I1 f
  | false => exact Ev.after st1 I1 h3 k
theorem e_and {rest : List Expr} {m n : EM} (h : PE X a (EvS X.K m)) (h' : PE X (.BoolOp .And (b :: rest) pos) (EvS X.K n)) : PE X (.BoolOp .And (a :: b :: rest) pos) (EvS X.K (eAnd m n)) := (pe_andT h h').imp fun σ H Q ⟨S, ow, env, I, d, env', hm, k⟩ => by
  unfold eAnd at hm
  simp only [Option.bind_eq_some_iff] at hm
  obtain ⟨⟨d1, e⟩, h1, b, h2, h3⟩ := hm
  refine ⟨S, ow, env, I, d1, e, h1, fun S' ow1 v H1 st1 I1 f => ⟨b, truth_ok (.inl f.shared.2) h2, ?_⟩⟩
  obtain ⟨rfl, r⟩ := f.shared
  cases b with
  | true => exact Ev.after st1 I1 h3 k
  | false => cases h3; exact k _ ow1 v H1 st1 I1 f
theorem e_not (ha : PArg X a ma) : PE X (.UnaryOp .Not a pos) (EvF X.K (eNot ma)) := (pe_notT ha).imp fun σ H Q ⟨S, ow, env, I, d, env', hm, k⟩ => by
  unfold eNot at hm
  simp only [Option.bind_eq_some_iff] at hm
  obtain ⟨⟨ds, e⟩, h1, h2⟩ := hm
  have q : tArgs X.K [ma] σ H (fun vs H2 => match vs with | [x] => ∃ k, TruV X.K x H2 k ∧ Q (.bl (!k)) H2 | _ => False) := by
    refine args_ok [ma] I h1 fun ow' vs H' st I' rs => ?_
    have l1 := evA_len h1
    match vs, ds, rs with
    | [x], [dx], .cons rx .nil =>
      simp only [Option.bind_eq_some_iff] at h2
      obtain ⟨b', h3, h4⟩ := h2
      cases h4
      exact ⟨_, truth_ok rx h3, k S ow' _ H' st I' (.inl ⟨rfl, .bl _, fun _ => rfl⟩)⟩
    | [], [], .nil => simp at l1
    | x :: y :: r, dx :: dy :: ds', .cons rx (.cons ry rr) => simp at l1
  exact q
/-- a op b op' c -/
def eChain (g g' : List D → Option D) (a b c : EM) : EM := fun env => (a env).bind fun (x, e1) => (b e1).bind fun (y, e2) => (g [x, y]).bind fun z => (asB z).bind fun k => if k = true then (c e2).bind fun (w, e3) => (g' [y, w]).bind fun z' => some (z', e3) else some (.bl false, e2)
theorem chain_go {K : PySem.W.Frag} {g' : List D → Option D} {r r' : R2} {m n l : EM} {σ : L2.St} {H : Hp} {Q : VK} (hr : ∀ x y H Q, r2 true K g x y H Q → r x y H Q) (hr' : ∀ x y H Q, r2 true K g' x y H Q → r' x y H Q)
    (h : EvF K (eChain g g' m n l) σ H Q) : tChain r r' (EvS K m) (EvS K n) (EvS K l) σ H Q := by
  obtain ⟨S, ow, env, I, d, env', hm, k⟩ := h
  unfold eChain at hm
  simp only [Option.bind_eq_some_iff] at hm
  obtain ⟨⟨x, e1⟩, h1, ⟨y, e2⟩, h2, z, h3, b, h4, h5⟩ := hm
  have hz : z = .bl b := by cases z <;> first | (cases h4; rfl) | cases h4
  subst hz
  refine ⟨S, ow, env, I, x, e1, h1, fun S1 ow1 v1 H1 st1 I1 f1 => ?_⟩
  obtain ⟨rfl, q1⟩ := f1.shared
  refine ⟨_, ow1, e1, I1, y, e2, h2, fun S2 ow2 v2 H2 st2 I2 f2 => ?_⟩
  obtain ⟨rfl, q2⟩ := f2.shared
  refine hr _ _ _ _ ⟨_, x, y, _, .inl (q1.pres st2.pres), .inl q2, h3, fun v H3 res => ?_⟩
  cases res with
  | newC _ rc => cases rc
  | same rr _ =>
    refine ⟨b, rr.bl_inv, ?_⟩
    cases b with
    | false =>
      cases h5
      exact k _ ow2 _ H2 (st1.trans st2) I2 (.inl ⟨rfl, .bl _, fun _ => rfl⟩)
    | true =>
      simp only [if_true, Option.bind_eq_some_iff] at h5
      obtain ⟨⟨w, e3⟩, h6, z', h7, h8⟩ := h5
      cases h8
      refine ⟨_, ow2, e2, I2, w, e3, h6, fun S3 ow3 v3 H3 st3 I3 f3 => ?_⟩
      obtain ⟨rfl, q3⟩ := f3.shared
      exact hr' _ _ _ _ ⟨_, y, w, _, .inl (q2.pres st3.pres), .inl q3, h7, fun v H4 res => res.go I3 ((st1.trans st2).trans st3) k⟩
theorem e_chain {op op' : CmpOp} {g' : List D → Option D} {c : Expr} {m n l : EM} (ho : OpR X (compareOp op) (r2 true X.K g)) (ho' : OpR X (compareOp op') (r2 true X.K g')) (ha : PE X a (EvS X.K m)) (hb : PE X b (EvS X.K n)) (hc : PE X c (EvS X.K l))
    (hm : lastMarks [op, op'] [b, c] = false := by with_unfolding_all rfl) : PE X (.Compare a [op, op'] [b, c] pos) (EvF X.K (eChain g g' m n l)) :=
  (pe_chain ho ho' ha hb hc hm).imp fun _ _ _ h => chain_go (fun _ _ _ _ q => q) (fun _ _ _ _ q => q) h
theorem t_chain {op op' : CmpOp} {g' : List D → Option D} {c : Expr} {m n l : EM} (ho : OpR X (compareOp op) (r2 true X.K g)) (ho' : OpR X (compareOp op') (r2 true X.K g')) (ha : PE X a (EvS X.K m)) (hb : PE X b (EvS X.K n)) (hc : PE X c (EvS X.K l))
    (hm : lastMarks [op, op'] [b, c] = false := by with_unfolding_all rfl) : PT X (.Compare a [op, op'] [b, c] pos) (EvT X.K (tB_ (eChain g g' m n l))) :=
  (pt_chain ho ho' ha hb hc hm).imp fun σ H Q ⟨S, ow, env, I, c, env', hm, k⟩ => by
    unfold tB_ at hm
    simp only [Option.bind_eq_some_iff] at hm
    obtain ⟨⟨d, e⟩, h1, c', h2, h3⟩ := hm
    cases h3
    refine chain_go (g := g) (g' := g') (fun _ _ _ _ q => q) (fun _ _ _ _ q => q) ⟨S, ow, env, I, d, _, h1, fun S' ow' v H' st J f => ?_⟩
    have hd : d = .bl c := by cases d <;> first | (cases h2; rfl) | cases h2
    subst hd
    rcases f with ⟨rfl, r, _⟩ | ⟨_, p, o, _, _, _, _, r⟩
    · exact ⟨c, r.bl_inv, k ow' H' st J⟩
    · cases r
/-- slices -/
def rS (fr : Bool) (K : PySem.W.Frag) (g : D → Option Int → Option Int → Option D) : V → Option Int → Option Int → Hp → VK → Prop := fun x lo hi H Q => ∃ P dx d, RpT K H P x dx ∧ g dx lo hi = some d ∧ ∀ v H', Res fr K H P v d H' → Q v H'
abbrev OM := Env → Option (Option Int × Env)
def oNo : OM := fun env => some (none, env)
def asI : D → Option Int
  | .int i => some i
  | _ => none
def oSo (m : EM) : OM := fun env => (m env).bind fun (d, e) => (asI d).bind fun i => some (some i, e)
def EvO (K : PySem.W.Frag) (m : OM) : TO := fun σ H Q => ∃ S ow env, Sim K S ow σ H env ∧ ∃ o env', m env = some (o, env') ∧ ∀ ow' H', Stp ow H ow' H' → Sim K S ow' σ H' env' → Q o H'
theorem _root_.L2.PO.imp {e : Option Expr} {t t' : TO} (h : PO X e t) (w : ∀ σ H Q, t' σ H Q → t σ H Q) : PO X e t' := ⟨fun pins s σ H Q I q => h.run pins s σ H Q I (w σ H Q q)⟩
theorem o_no : PO X none (EvO X.K oNo) := po_none.imp fun σ H Q ⟨S, ow, env, I, c, env', hm, k⟩ => by cases hm; exact k ow H .refl I
theorem Rp.int_inv {K : PySem.W.Frag} {H : Hp} {P : Addr → Prop} {v : V} {i : Int} (r : Rp K H P v (.int i)) : v = .int i := by
  cases r with
  | int => rfl
  | cell _ _ rc => cases rc
  | frz _ rc => cases rc
theorem o_so {e : Expr} {m : EM} (h : PE X e (EvS X.K m)) : PO X (some e) (EvO X.K (oSo m)) := (po_some h).imp fun σ H Q ⟨S, ow, env, I, c, env', hm, k⟩ => by
  unfold oSo at hm
  simp only [Option.bind_eq_some_iff] at hm
  obtain ⟨⟨d, e⟩, h1, i, h2, h3⟩ := hm
  cases h3
  have hd : d = .int i := by cases d <;> first | (cases h2; rfl) | cases h2
  subst hd
  refine ⟨S, ow, env, I, _, _, h1, fun S' ow' v H' st J f => ?_⟩
  obtain ⟨rfl, r⟩ := f.shared
  exact ⟨i, r.int_inv, k ow' H' st J⟩
def eSl (g : D → Option Int → Option Int → Option D) (a : Arg) (lo hi : OM) : EM := fun env => match a with
  | .v m => (m env).bind fun (d, e1) => (lo e1).bind fun (l, e2) => (hi e2).bind fun (h, e3) => (g d l h).bind fun r => some (r, e3)
  | .b i => (peek env i).bind fun _ => (lo env).bind fun (l, e2) => (hi e2).bind fun (h, e3) => (peek e3 i).bind fun d => (g d l h).bind fun r => some (r, e3)
theorem e_sl {gs : D → Option Int → Option Int → Option D} {lo hi : Option Expr} {ml mh : OM} {p2 : Pos} (hr : SlR X (rS fr X.K gs)) (ha : PArg X a ma) (hl : PO X lo (EvO X.K ml)) (hh : PO X hi (EvO X.K mh)) : PE X (.Subscript a (.Slice lo hi none p2) pos) (Ev fr X.K (eSl gs ma ml mh)) := (pe_slice hr ha hl hh).imp fun σ H Q ⟨S, ow, env, I, d, env', hm, k⟩ => by
  unfold eSl at hm
  cases ma with
  | v m =>
    simp only [Option.bind_eq_some_iff] at hm
    obtain ⟨⟨dx, e1⟩, h1, ⟨l, e2⟩, h2, ⟨h, e3⟩, h3, r, h4, h5⟩ := hm
    cases h5
    refine ⟨S, ow, env, I, dx, e1, h1, fun S1 ow1 v1 H1 st1 I1 f1 => ?_⟩
    obtain ⟨rfl, q1⟩ := f1.shared
    refine ⟨_, ow1, e1, I1, l, e2, h2, fun ow2 H2 st2 I2 => ⟨_, ow2, e2, I2, h, e3, h3, fun ow3 H3 st3 I3 => ?_⟩⟩
    exact ⟨_, dx, d, .inl (q1.pres (st2.trans st3).pres), h4, fun v H4 res => res.go I3 ((st1.trans st2).trans st3) k⟩
  | b i =>
    simp only [Option.bind_eq_some_iff] at hm
    obtain ⟨d0, h0, ⟨l, e2⟩, h2, ⟨h, e3⟩, h3, dx, hp, r, h4, h5⟩ := hm
    cases h5
    obtain ⟨v, ev, _⟩ := I.peek h0
    refine ⟨v, ev, ⟨S, ow, env, I, l, e2, h2, fun ow2 H2 st2 I2 => ⟨S, ow2, e2, I2, h, e3, h3, fun ow3 H3 st3 I3 => ?_⟩⟩⟩
    obtain ⟨v', ev', r⟩ := I3.peek hp
    rw [ev] at ev'
    cases ev'
    exact ⟨_, dx, d, r, h4, fun v H4 res => res.go I3 (st2.trans st3) k⟩
end
end PL
end

section
set_option maxRecDepth 100000
set_option maxHeartbeats 3900000
/-! PL2: what is walked, comprehensions, statements over plain data. -/
namespace PL
open PySem Spec PyProof.Rows L2

/-- a walk yields the values for ds, from (ow, H) on -/
def Src (K : PySem.W.Frag) (A : Addr → Prop) (J : It) (ow : List (Option Addr)) (H : Hp) (ds : List D) : Prop :=
  ∀ A' ow2 H2, (∀ a, A' a → A a ∨ H a = none) → Stp ow H ow2 H2 → ∀ i : Nat, (∀ d, ds[i]? = some d → J.go i H2 ∧ ∀ x H3, J.yld i H2 x H3 → (H3 = H2 ∨ ∃ p vs, H2 p = none ∧ H3 = upd H2 p (.tup vs)) ∧ Rp K H3 (Av A' ow2) x d) ∧ (ds.length = i → J.stop i H2)
abbrev IM := Env → Option (List D × Env)
def EvI (K : PySem.W.Frag) (m : IM) : TI := fun σ H R => ∃ S ow env, Sim K S ow σ H env ∧ ∃ ds env', m env = some (ds, env') ∧
  ∀ ow' H' J, Stp ow H ow' H' → Sim K S ow' σ H' env' → Src K S.A J ow' H' ds → R J H'
theorem _root_.L2.PI.imp {X : Cx} {tg e : Expr} {t t' : TI} (h : PI X tg e t) (w : ∀ σ H R, t' σ H R → t σ H R) : PI X tg e t' := ⟨fun pins s σ H R I q => h.run pins s σ H R I (w σ H R q)⟩
theorem _root_.L2.PI.or {X : Cx} {tg e : Expr} {t t' : TI} (h : PI X tg e t) (h' : PI X tg e t') : PI X tg e (fun σ H R => t σ H R ∨ t' σ H R) :=
  ⟨fun pins s σ H R I q => q.elim (h.run pins s σ H R I) (h'.run pins s σ H R I)⟩
theorem Pres.grow {H : Hp} {A A' : Addr → Prop} {ow : List (Option Addr)} (h : ∀ a, A' a → A a ∨ H a = none) : Pres H (Av A ow) H (Av A' ow) :=
  ⟨fun a o e n => ⟨e, fun z => z.elim (fun z => (h a z).elim (fun z => n (.inl z)) fun z => by rw [e] at z; cases z) fun z => n (.inr z)⟩, fun _ _ e => e, fun _ _ _ e => e⟩

section
variable {K : PySem.W.Frag} {A : Addr → Prop} {ow : List (Option Addr)} {H : Hp} {a : Addr} {vs : List V} {ds : List D}
theorem Stp.sqT {ow2 : List (Option Addr)} {H2 : Hp} (st : Stp ow H ow2 H2) (h : SqT K H a vs) : SqT K H2 a vs := (st.pres (A := fun _ => False)).sqT h
/-- a list that stands, told so that it stands behind any step -/
def StL (K : PySem.W.Frag) (ow : List (Option Addr)) (H : Hp) (a : Addr) (vs : List V) : Prop := ∀ ow2 H2, Stp ow H ow2 H2 → SqL K H2 a vs
theorem StL.of {o : HO} (e : H a = some (.lst vs)) (n : some a ∉ ow) : StL K ow H a vs := fun ow2 H2 st => .inl (.inl (st.cell a _ e n).1)
theorem StL.frz {ob : Obj} (e : H a = some (.frz ob (.lst vs))) : StL K ow H a vs := fun ow2 H2 st => .inl (.inr ⟨ob, st.frz a _ _ e⟩)
theorem src_list (h : StL K ow H a vs) (r : RpL K H (Av A ow) vs ds) : Src K A (Itl K a) ow H ds := fun A' ow2 H2 hA st i => by
  have q := h ow2 H2 st
  have r2 := (r.pres (Pres.grow hA)).pres st.pres
  refine ⟨fun d e => ?_, fun e => ?_⟩
  · obtain ⟨v, ev, rv⟩ := r2.get e
    refine ⟨⟨vs, v, q, ev⟩, fun x H3 y => ?_⟩
    obtain ⟨rfl, y⟩ := y
    have := y vs q
    rw [ev] at this; cases this
    exact ⟨.inl rfl, rv⟩
  · exact ⟨vs, q, by rw [r.length]; omega⟩
theorem src_tup (h : SqT K H a vs) (r : RpL K H (Av A ow) vs ds) : Src K A (Itt K a) ow H ds := fun A' ow2 H2 hA st i => by
  have q := st.sqT h
  have r2 := (r.pres (Pres.grow hA)).pres st.pres
  refine ⟨fun d e => ?_, fun e => ?_⟩
  · obtain ⟨v, ev, rv⟩ := r2.get e
    refine ⟨⟨vs, v, q, ev⟩, fun x H3 y => ?_⟩
    obtain ⟨rfl, y⟩ := y
    have := y vs q
    rw [ev] at this; cases this
    exact ⟨.inl rfl, rv⟩
  · exact ⟨vs, q, by rw [r.length]; omega⟩
def chars (cs : List Nat) : List D := cs.map fun c => .str [c]
theorem src_str (x : Str) : Src K A (Its x) ow H (chars x.cps.toList) := fun A' ow2 H2 hA st i => by
  refine ⟨fun d e => ?_, fun e => ?_⟩
  · unfold chars at e
    rw [List.getElem?_map, Option.map_eq_some_iff] at e
    obtain ⟨c, e, rfl⟩ := e
    rw [Array.getElem?_toList] at e
    refine ⟨?_, fun x' H3 y => ?_⟩
    · exact (Array.getElem?_eq_some_iff.mp e).1
    · obtain ⟨rfl, c', e', rfl⟩ := y
      rw [e] at e'; cases e'
      exact ⟨.inl rfl, .str ⟨#[c]⟩⟩
  · unfold chars at e
    rw [List.length_map, Array.length_toList] at e
    show x.cps.size ≤ i
    omega
def rngD (lo : Int) : Nat → List D
  | 0 => []
  | n + 1 => .int lo :: rngD (lo + 1) n
theorem rngD_len : ∀ (n : Nat) (lo : Int), (rngD lo n).length = n
  | 0, _ => rfl
  | n + 1, lo => by rw [rngD, List.length_cons, rngD_len n]
theorem rngD_get : ∀ (n : Nat) (lo : Int) (i : Nat), i < n → (rngD lo n)[i]? = some (.int (lo + i))
  | 0, _, _, h => absurd h (Nat.not_lt_zero _)
  | n + 1, lo, 0, _ => by rw [rngD]; simp
  | n + 1, lo, i + 1, h => by rw [rngD, List.getElem?_cons_succ, rngD_get n (lo + 1) i (by omega)]; congr 2; omega
theorem src_range (lo : Int) (n : Nat) : Src K A (Itr lo n) ow H (rngD lo n) := fun A' ow2 H2 hA st i => by
  refine ⟨fun d e => ?_, fun e => ?_⟩
  · have hi : i < n := by have := (List.getElem?_eq_some_iff.mp e).1; rw [rngD_len] at this; exact this
    rw [rngD_get n lo i hi] at e
    cases e
    refine ⟨hi, fun x H3 y => ?_⟩
    obtain ⟨rfl, rfl⟩ := y
    exact ⟨.inl rfl, .int _⟩
  · rw [rngD_len] at e
    show n ≤ i
    omega
end
/-- the items of a value -/
def items : D → Option (List D)
  | .tup ds => some ds
  | .lst ds => some ds
  | .str cs => some (chars cs)
  | _ => none
def iOf (m : EM) : IM := fun env => (m env).bind fun (d, e) => (items d).map fun ds => (ds, e)
section
variable {X : Cx} {tg : Expr}
theorem i_of {e : Expr} {m : EM} (h : PE X e (EvS X.K m)) : PI X tg e (EvI X.K (iOf m)) :=
  (((pi_list h).or (pi_tup h)).or (pi_str h)).imp fun σ H R ⟨S, ow, env, I, ds, env', hm, k⟩ => by
    unfold iOf at hm
    simp only [Option.bind_eq_some_iff, Option.map_eq_some_iff] at hm
    obtain ⟨⟨d, e1⟩, h1, ds', h2, h3⟩ := hm
    cases h3
    cases d with
    | lst ds0 =>
      cases h2
      refine .inl (.inl ⟨S, ow, env, I, _, _, h1, fun S' ow' v H' st J f => ?_⟩)
      obtain ⟨rfl, r⟩ := f.shared
      cases r with
      | @cell a o _ e n rc =>
        cases rc with
        | @lst vs _ rl =>
          have sl : StL X.K ow' H' a vs := .of (o := .lst vs) e fun z => n (.inr z)
          exact ⟨a, rfl, ⟨vs, sl _ _ .refl⟩, k _ H' _ st J (src_list sl rl)⟩
      | @frz a ob o _ e rc =>
        cases rc with
        | @lst vs _ rl =>
          have sl : StL X.K ow' H' a vs := .frz e
          exact ⟨a, rfl, ⟨vs, sl _ _ .refl⟩, k _ H' _ st J (src_list sl rl)⟩
      | @kls a vs _ hk rl =>
        have sl : StL X.K ow' H' a vs := fun _ _ _ => hk.sq
        exact ⟨a, rfl, ⟨vs, sl _ _ .refl⟩, k _ H' _ st J (src_list sl rl)⟩
    | tup ds0 =>
      cases h2
      refine .inl (.inr ⟨S, ow, env, I, _, _, h1, fun S' ow' v H' st J f => ?_⟩)
      obtain ⟨rfl, r⟩ := f.shared
      cases r with
      | @tup a vs _ hs rl => exact ⟨a, rfl, ⟨vs, hs⟩, k _ H' _ st J (src_tup hs rl)⟩
      | cell _ _ rc => cases rc
      | frz _ rc => cases rc
    | str cs =>
      cases h2
      refine .inr ⟨S, ow, env, I, _, _, h1, fun S' ow' v H' st J f => ?_⟩
      obtain ⟨rfl, r⟩ := f.shared
      cases r with
      | str x => exact ⟨x, rfl, k _ H' _ st J (src_str x)⟩
      | cell _ _ rc => cases rc
      | frz _ rc => cases rc
    | _ => cases h2
def smallI (i : Int) : Bool := decide (i.natAbs < 2 ^ 62)
def iR1 (m : EM) : IM := fun env => (m env).bind fun (d, e) => (asI d).bind fun n => if smallI n = true then some (rngD 0 n.toNat, e) else none
def iR2 (m n : EM) : IM := fun env => (m env).bind fun (d, e) => (asI d).bind fun lo => (n e).bind fun (d', e') => (asI d').bind fun hi => if (smallI lo && smallI hi) = true then some (rngD lo (hi - lo).toNat, e') else none
theorem asI_some {d : D} {i : Int} (h : asI d = some i) : d = .int i := by cases d <;> first | (cases h; rfl) | cases h
theorem i_r1 {a : Expr} {m : EM} {p pos : Pos} (hg : Gl X "range") (hm : X.mg "range" = none) (ha : PA X [a] (tEs X.K [m])) (hs : starEach [a] X.env = [(false, eval a X.env)] := by rfl) : PI X tg (.Call (.Name "range" p) [a] [] pos) (EvI X.K (iR1 m)) :=
  (pi_range1 hg hm ha hs).imp fun σ H R ⟨S, ow, env, I, ds, env', hm, k⟩ => by
    unfold iR1 at hm
    simp only [Option.bind_eq_some_iff] at hm
    obtain ⟨⟨d, e⟩, h1, n, h2, h3⟩ := hm
    have := asI_some h2
    subst this
    split at h3
    · rename_i hz
      cases h3
      simp only [smallI, Bool.and_eq_true, decide_eq_true_eq] at hz
      refine ⟨S, ow, env, I, _, _, h1, fun S' ow' v H' st J f => ?_⟩
      obtain ⟨rfl, r⟩ := f.shared
      exact ⟨n, by rw [r.int_inv], by omega, by omega, k _ H' _ st J (src_range 0 _)⟩
    · cases h3
theorem i_r2 {a b : Expr} {m n : EM} {p pos : Pos} (hg : Gl X "range") (hm : X.mg "range" = none) (ha : PA X [a, b] (tEs X.K [m, n])) (hs : starEach [a, b] X.env = [(false, eval a X.env), (false, eval b X.env)] := by rfl) (hs2 : starEach [b] X.env = [(false, eval b X.env)] := by rfl) :
    PI X tg (.Call (.Name "range" p) [a, b] [] pos) (EvI X.K (iR2 m n)) :=
  (pi_range2 hg hm ha hs hs2).imp fun σ H R ⟨S, ow, env, I, ds, env', hm, k⟩ => by
    unfold iR2 at hm
    simp only [Option.bind_eq_some_iff] at hm
    obtain ⟨⟨d, e⟩, h1, lo, h2, ⟨d', e'⟩, h3, hi, h4, h5⟩ := hm
    have := asI_some h2
    subst this
    have := asI_some h4
    subst this
    split at h5
    · rename_i hz
      cases h5
      simp only [smallI, Bool.and_eq_true, decide_eq_true_eq] at hz
      refine ⟨S, ow, env, I, _, _, h1, fun S' ow' v H' st J f => ?_⟩
      obtain ⟨rfl, r⟩ := f.shared
      refine ⟨_, ow', _, J, _, _, h3, fun S' ow2 v2 H2 st2 J2 f2 => ?_⟩
      obtain ⟨rfl, r2⟩ := f2.shared
      exact ⟨lo, hi, by rw [r.int_inv, r2.int_inv], ⟨by omega, by omega, by omega, by omega⟩, k _ H2 _ (st.trans st2) J2 (src_range lo _)⟩
    · cases h5
end

/-! ### targets -/
abbrev GM := D → Env → Option Env
def free (env : Env) (i : Nat) : Bool := match env[i]? with
  | some .no => true
  | some (.shr _) => true
  | some (.own _) => true
  | _ => false
def gN (i : Nat) : GM := fun d env => if free env i = true then some (env.set i (.shr d)) else none
/-- the slots is alone change -/
def Out (is : List Nat) (σ σ' : L2.St) : Prop := σ'.length = σ.length ∧ ∀ j, j ∉ is → σ'[j]? = σ[j]?
theorem Out.refl {is : List Nat} {σ : L2.St} : Out is σ σ := ⟨rfl, fun _ _ => rfl⟩
theorem Out.trans {is is' : List Nat} {σ σ' σ'' : L2.St} (a : Out is σ σ') (b : Out is' σ' σ'') : Out (is ++ is') σ σ'' := ⟨b.1.trans a.1, fun j h => by
  rw [List.mem_append] at h
  exact (b.2 j fun z => h (.inr z)).trans (a.2 j fun z => h (.inl z))⟩
theorem Out.set {i : Nat} {v : Option V} {σ : L2.St} : Out [i] σ (σ.set i v) := ⟨by simp, fun j h => by
  rw [List.getElem?_set_ne]
  intro z; exact h (by simp [z])⟩
def EvG (K : PySem.W.Frag) (is : List Nat) (g : GM) : TG := fun v σ H Q => ∃ S ow env, Sim K S ow σ H env ∧ ∃ d, Rp K H (Av S.A ow) v d ∧ ∃ env', g d env = some env' ∧
  ∀ ow' σ' H', Stp ow H ow' H' → Sim K S ow' σ' H' env' → Out is σ σ' → Q σ' H'
theorem _root_.L2.PG.imp {X : Cx} {e : Expr} {t t' : TG} (h : PG X e t) (w : ∀ v σ H Q, t' v σ H Q → t v σ H Q) : PG X e t' := ⟨fun pins s σ H v u Q I r q => h.run pins s σ H v u Q I r (w v σ H Q q)⟩
section
variable {K : PySem.W.Frag} {S : SS} {ow : List (Option Addr)} {σ : L2.St} {H : Hp} {env : Env} {i : Nat} {v : V} {d : D}
theorem free_lt (h : free env i = true) : i < env.length := by
  unfold free at h
  cases e : env[i]? with
  | none => rw [e] at h; cases h
  | some s => exact (List.getElem?_eq_some_iff.mp e).1
theorem free_no_io (I : Sim K S ow σ H env) (h : free env i = true) : ∀ p ∈ S.io, i ≠ p.1 := fun p hp z => by
  obtain ⟨_, d', e⟩ := I.io p hp
  unfold free at h
  rw [z, e] at h
  cases h
theorem free_no_lk (I : Sim K S ow σ H env) (h : free env i = true) : ∀ p ∈ S.lk, i ≠ p.1 := fun p hp z => by
  obtain ⟨_, e⟩ := I.lk p hp
  unfold free at h
  rw [z, e] at h
  cases h
theorem get_set_none {ow : List (Option Addr)} {i j : Nat} {b : Addr} (hj : (ow.set i none)[j]? = some (some b)) : ow[j]? = some (some b) ∧ j ≠ i := by
  by_cases hij : j = i
  · subst hij
    rw [List.getElem?_set] at hj
    split at hj
    · split at hj <;> cases hj
    · contradiction
  · rw [List.getElem?_set_ne (Ne.symm hij)] at hj
    exact ⟨hj, hij⟩
/-- a name takes a value -/
theorem Sim.put (I : Sim K S ow σ H env) (h : free env i = true) (r : Rp K H (Av S.A ow) v d) : Sim K S (ow.set i none) (σ.set i (some v)) H (env.set i (.shr d)) := by
  have hi := free_lt h
  have less : ∀ b, Av S.A (ow.set i none) b → Av S.A ow b := fun b z => z.elim .inl fun z => .inr (mem_set_none z)
  refine ⟨by simpa using I.len, by simpa using I.lenO, fun j s e => ?_, fun j k b h1 h2 => I.inj j k b (get_set_none h1).1 (get_set_none h2).1, fun b hb => I.live b (less b hb), fun b hb => I.sep b (mem_set_none hb), I.frame, fun b hb => I.fresh b (mem_set_none hb), fun p hp => ?_, fun j d' e => ?_, fun p hp => ?_⟩
  · by_cases hij : j = i
    · subst hij
      rw [List.getElem?_set_self (by simpa using hi)] at e
      cases e
      rw [List.getElem?_set_self (by rw [← I.len]; exact hi)]
      exact ⟨v, rfl, r.pres (Pres.less less)⟩
    · rw [List.getElem?_set_ne (Ne.symm hij)] at e
      rw [List.getElem?_set_ne (Ne.symm hij), List.getElem?_set_ne (Ne.symm hij)]
      exact (I.slot j s e).pres (Pres.less less) fun _ _ => rfl
  · obtain ⟨h1, d', h2⟩ := I.io p hp
    have hne := free_no_io I h p hp
    exact ⟨by rw [List.getElem?_set_ne hne]; exact h1, d', by rw [List.getElem?_set_ne hne]; exact h2⟩
  · by_cases hij : j = i
    · subst hij
      rw [List.getElem?_set_self (by simpa using hi)] at e
      cases e
    · rw [List.getElem?_set_ne (Ne.symm hij)] at e
      exact I.iow j d' e
  · obtain ⟨h1, h2⟩ := I.lk p hp
    have hne := free_no_lk I h p hp
    exact ⟨by rw [List.getElem?_set_ne hne]; exact h1, by rw [List.getElem?_set_ne hne]; exact h2⟩
/-- a name takes a list or dict that is kept apart -/
theorem Sim.putOwn {p : Addr} {o : HO} (I : Sim K (S.add p) ow σ H env) (h : free env i = true) (e0 : H p = some o) (rc : RpC K H (Av (S.add p).A ow) o d) (hS : ¬ S.A p) (h0 : S.H0 p = none) : Sim K S (ow.set i (some p)) (σ.set i (some (.ref p))) H (env.set i (.own d)) := by
  have hi := free_lt h
  have hio : i < ow.length := by rw [I.lenO, ← I.len]; exact hi
  have hp_ow : some p ∉ ow := fun z => I.sep p z (.inr rfl)
  have mem : ∀ {b : Addr}, some b ∈ ow.set i (some p) → some b ∈ ow ∨ b = p := fun {b} z => by
    rcases List.mem_or_eq_of_mem_set z with z | z
    · exact .inl z
    · cases z; exact .inr rfl
  have to : ∀ b, Av S.A (ow.set i (some p)) b → Av (S.add p).A ow b := fun b z => by
    rcases z with z | z
    · exact .inl (.inl z)
    · rcases mem z with z | z
      · exact .inr z
      · exact .inl (.inr z)
  have get : ∀ {j : Nat} {b : Addr}, (ow.set i (some p))[j]? = some (some b) → (j = i ∧ b = p) ∨ (j ≠ i ∧ ow[j]? = some (some b)) := fun {j b} z => by
    by_cases hij : j = i
    · subst hij
      rw [List.getElem?_set_self hio] at z
      cases z
      exact .inl ⟨rfl, rfl⟩
    · rw [List.getElem?_set_ne (Ne.symm hij)] at z
      exact .inr ⟨hij, z⟩
  refine ⟨by simpa using I.len, by simpa using I.lenO, fun j s e => ?_, fun j k b h1 h2 => ?_, fun b hb => I.live b (to b hb), fun b hb z => ?_, I.frame, fun b hb => ?_, fun q hq => ?_, fun j d' e => ?_, fun q hq => ?_⟩
  · by_cases hij : j = i
    · subst hij
      rw [List.getElem?_set_self (by simpa using hi)] at e
      cases e
      rw [List.getElem?_set_self (by rw [← I.len]; exact hi), List.getElem?_set_self hio]
      exact ⟨p, o, rfl, rfl, e0, rc.pres (Pres.less to)⟩
    · rw [List.getElem?_set_ne (Ne.symm hij)] at e
      rw [List.getElem?_set_ne (Ne.symm hij), List.getElem?_set_ne (Ne.symm hij)]
      exact (I.slot j s e).pres (Pres.less to) fun _ _ => rfl
  · rcases get h1 with ⟨a1, a2⟩ | ⟨a1, a2⟩ <;> rcases get h2 with ⟨b1, b2⟩ | ⟨b1, b2⟩
    · rw [a1, b1]
    · exact absurd (List.mem_of_getElem? b2) (by rw [a2]; exact hp_ow)
    · exact absurd (List.mem_of_getElem? a2) (by rw [b2]; exact hp_ow)
    · exact I.inj j k b a2 b2
  · rcases mem hb with hb | hb
    · exact I.sep b hb (.inl z)
    · rw [hb] at z; exact hS z
  · rcases mem hb with hb | hb
    · exact I.fresh b hb
    · rw [hb]; exact .inl h0
  · obtain ⟨h1, d', h2⟩ := I.io q hq
    have hne := free_no_io I h q hq
    exact ⟨by rw [List.getElem?_set_ne hne]; exact h1, d', by rw [List.getElem?_set_ne hne]; exact h2⟩
  · by_cases hij : j = i
    · subst hij
      rw [List.getElem?_set_self (by simpa using hi)] at e
      cases e
    · rw [List.getElem?_set_ne (Ne.symm hij)] at e
      exact I.iow j d' e
  · obtain ⟨h1, h2⟩ := I.lk q hq
    have hne := free_no_lk I h q hq
    exact ⟨by rw [List.getElem?_set_ne hne]; exact h1, by rw [List.getElem?_set_ne hne]; exact h2⟩
end
section
variable {X : Cx} {pos : Pos}
theorem g_n {i : Nat} {x : Str} (h : PG X (.Name x pos) (gName i)) : PG X (.Name x pos) (EvG X.K [i] (gN i)) := h.imp fun v σ H Q ⟨S, ow, env, I, d, r, env', hm, k⟩ => by
  unfold gN at hm
  split at hm
  · rename_i hf
    cases hm
    exact k _ _ H (stp_less fun a z => mem_set_none z) (I.put hf r) .set
  · cases hm
/-- several targets -/
abbrev GMs := List D → Env → Option Env
def EvGs (K : PySem.W.Frag) (is : List Nat) (g : GMs) : TGs := fun vs σ H Q => ∃ S ow env, Sim K S ow σ H env ∧ ∃ ds, RpL K H (Av S.A ow) vs ds ∧ ∃ env', g ds env = some env' ∧ ∀ ow' σ' H', Stp ow H ow' H' → Sim K S ow' σ' H' env' → Out is σ σ' → Q σ' H'
theorem _root_.L2.PGs.imp {es : List Expr} {t t' : TGs} (h : PGs X es t) (w : ∀ v σ H Q, t' v σ H Q → t v σ H Q) : PGs X es t' := ⟨fun pins s σ H v u Q I r q => h.run pins s σ H v u Q I r (w v σ H Q q)⟩
def gsN : GMs := fun ds env => match ds with | [] => some env | _ => none
def gsC (g : GM) (gs : GMs) : GMs := fun ds env => match ds with | d :: r => (g d env).bind fun e => gs r e | _ => none
theorem gs_nil : PGs X [] (EvGs X.K [] gsN) := pgs_nil.imp fun vs σ H Q ⟨S, ow, env, I, ds, r, env', hm, k⟩ => by
  cases r with
  | nil => cases hm; exact ⟨rfl, k ow σ H .refl I .refl⟩
  | cons _ _ => cases hm
theorem gs_cons {e : Expr} {es : List Expr} {is js : List Nat} {g : GM} {gs : GMs} (h1 : PG X e (EvG X.K is g)) (h2 : PGs X es (EvGs X.K js gs)) (hs : (assignEach (e :: es) X.env).map (·.2) = assign e X.env :: (assignEach es X.env).map (·.2) := by rfl) : PGs X (e :: es) (EvGs X.K (is ++ js) (gsC g gs)) := (pgs_cons h1 h2 hs).imp fun vs σ H Q ⟨S, ow, env, I, ds, r, env', hm, k⟩ => by
  cases r with
  | nil => cases hm
  | @cons v vs d ds rv rs =>
    unfold gsC at hm
    simp only [Option.bind_eq_some_iff] at hm
    obtain ⟨e1, h1, h2⟩ := hm
    refine ⟨v, vs, rfl, S, ow, env, I, d, rv, e1, h1, fun ow1 σ1 H1 st1 I1 o1 => ?_⟩
    exact ⟨S, ow1, e1, I1, ds, rs.pres st1.pres, env', h2, fun ow2 σ2 H2 st2 I2 o2 => k ow2 σ2 H2 (st1.trans st2) I2 (o1.trans o2)⟩
def gT (n : Nat) (gs : GMs) : GM := fun d env => match d with | .tup ds => if ds.length = n then gs ds env else none | _ => none
theorem g_t {es : List Expr} {k : Nat} {is : List Nat} {gs : GMs} {n : Nat} (hc : X.calm = true) (h : PGs X es (EvGs X.K is gs)) (hn : (assignEach es X.env).length = n := by rfl) (hst : (assignEach es X.env).findIdx? (·.1) = none := by rfl) : PG X (.Tuple es k pos) (EvG X.K is (gT n gs)) := (pg_tup hc h hn hst).imp fun v σ H Q ⟨S, ow, env, I, d, r, env', hm, kk⟩ => by
  unfold gT at hm
  cases d with
  | tup ds =>
    simp only at hm
    split at hm
    · rename_i hl
      cases r with
      | @tup a vs _ hs rl => exact ⟨a, vs, rfl, hs, by rw [rl.length]; exact hl, S, ow, env, I, ds, rl, env', hm, kk⟩
      | cell _ _ rc => cases rc
      | frz _ rc => cases rc
    · cases hm
  | _ => cases hm
end
end PL
end

section
set_option maxRecDepth 100000
set_option maxHeartbeats 3900000
/-! PL3: comprehensions and statements over plain data. -/
namespace PL
open PySem Spec PyProof.Rows L2

/-! ### comprehensions -/
/-- the slots vs forgotten -/
def wipeE : List Nat → Env → Option Env
  | [], env => some env
  | v :: vs, env => (wipeE vs env).bind fun e => if free e v = true then some (e.set v .no) else none
def lcGo (vs : List Nat) (g : GM) (t : TM) (m : EM) : List D → Env → Option (List D × Env)
  | [], env => some ([], env)
  | d :: ds, env => (g d env).bind fun e1 => (t e1).bind fun (b, e2) =>
    if b = true then (m e2).bind fun (y, e3) => (wipeE vs e3).bind fun e4 => (lcGo vs g t m ds e4).bind fun (r, e) => some (y :: r, e)
    else (wipeE vs e2).bind fun e4 => lcGo vs g t m ds e4
def eLc (src : IM) (vs : List Nat) (g : GM) (t : TM) (m : EM) : EM := fun env => (src env).bind fun (ds, e1) => if ds.length ≤ 16777216 then (wipeE vs e1).bind fun e2 => (lcGo vs g t m ds e2).bind fun (r, e) => some (.lst r, e) else none
def tTrue : TM := fun env => some (true, env)
section
variable {K : PySem.W.Frag} {S : SS} {ow : List (Option Addr)} {σ σ' : L2.St} {H : Hp} {env env' : Env}
/-- a slot is forgotten -/
theorem Sim.forget {i : Nat} {x : Option V} (I : Sim K S ow σ H env) (h : free env i = true) : Sim K S ow (σ.set i x) H (env.set i .no) := by
  have hi := free_lt h
  refine ⟨by simpa using I.len, by simpa using I.lenO, fun j s e => ?_, I.inj, I.live, I.sep, I.frame, I.fresh, fun p hp => ?_, fun j d' e => ?_, fun p hp => ?_⟩
  · by_cases hij : j = i
    · subst hij
      rw [List.getElem?_set_self (by simpa using hi)] at e
      cases e
      trivial
    · rw [List.getElem?_set_ne (Ne.symm hij)] at e
      rw [List.getElem?_set_ne (Ne.symm hij)]
      exact I.slot j s e
  · obtain ⟨h1, d', h2⟩ := I.io p hp
    exact ⟨h1, d', by rw [List.getElem?_set_ne (free_no_io I h p hp)]; exact h2⟩
  · by_cases hij : j = i
    · subst hij
      rw [List.getElem?_set_self (by simpa using hi)] at e
      cases e
    · rw [List.getElem?_set_ne (Ne.symm hij)] at e
      exact I.iow j d' e
  · obtain ⟨h1, h2⟩ := I.lk p hp
    have hne := free_no_lk I h p hp
    exact ⟨by rw [List.getElem?_set_ne hne]; exact h1, by rw [List.getElem?_set_ne hne]; exact h2⟩
theorem Sim.wipe (I : Sim K S ow σ H env) : ∀ {vs : List Nat} {env' : Env}, wipeE vs env = some env' → Sim K S ow (wipe σ vs) H env'
  | [], env', h => by cases h; exact I
  | v :: vs, env', h => by
    unfold wipeE at h
    simp only [Option.bind_eq_some_iff] at h
    obtain ⟨e, h1, h2⟩ := h
    split at h2
    · rename_i hf
      cases h2
      exact (Sim.wipe I h1).forget hf
    · cases h2
theorem wipeE_no : ∀ {vs : List Nat} {env env' : Env}, wipeE vs env = some env' → ∀ i ∈ vs, env'[i]? = some .no
  | [], _, _, _, i, hi => by cases hi
  | v :: vs, env, env', h, i, hi => by
    unfold wipeE at h
    simp only [Option.bind_eq_some_iff] at h
    obtain ⟨e, h1, h2⟩ := h
    split at h2
    · rename_i hf
      cases h2
      by_cases hv : i = v
      · subst hv
        exact List.getElem?_set_self (free_lt hf)
      · rw [List.getElem?_set_ne (Ne.symm hv)]
        exact wipeE_no h1 i ((List.mem_cons.mp hi).resolve_left hv)
    · cases h2
/-- the slots may hold anything where nothing is known of them -/
theorem Sim.slots {vs : List Nat} (I : Sim K S ow σ H env) (hn : ∀ i ∈ vs, env[i]? = some .no) (hl : σ'.length = σ.length) (ho : ∀ j, j ∉ vs → σ'[j]? = σ[j]?) : Sim K S ow σ' H env := by
  refine ⟨by rw [hl]; exact I.len, by rw [hl]; exact I.lenO, fun j s e => ?_, I.inj, I.live, I.sep, I.frame, I.fresh, I.io, I.iow, fun p hp => ?_⟩
  · by_cases hj : j ∈ vs
    · rw [hn j hj] at e
      cases e
      trivial
    · rw [ho j hj]
      exact I.slot j s e
  · obtain ⟨h1, h2⟩ := I.lk p hp
    have hj : p.1 ∉ vs := fun z => by rw [hn _ z] at h2; cases h2
    exact ⟨by rw [ho _ hj]; exact h1, h2⟩
theorem wipe_out' {σ : L2.St} {i : Nat} {vs : List Nat} (h : i ∉ vs) : (wipe σ vs)[i]? = σ[i]? := by
  induction vs with
  | nil => rfl
  | cons v vs ih =>
    unfold L2.wipe
    rw [List.getElem?_set_ne (fun z => h (by simp [z]))]
    exact ih fun z => h (by simp [z])
theorem wipe_in {σ : L2.St} {i : Nat} {vs : List Nat} (h : i ∈ vs) (hi : i < σ.length) : (wipe σ vs)[i]? = some none := by
  induction vs with
  | nil => cases h
  | cons v vs ih =>
    unfold L2.wipe
    by_cases hv : i = v
    · subst hv
      exact List.getElem?_set_self (by rw [wipe_length]; exact hi)
    · rw [List.getElem?_set_ne (Ne.symm hv)]
      exact ih ((List.mem_cons.mp h).resolve_left hv)
theorem wipe_same {σ σ' : L2.St} {is vs : List Nat} (o : Out is (wipe σ vs) σ') (hs : ∀ i ∈ is, i ∈ vs) : wipe σ' vs = wipe σ vs := by
  have hl : σ'.length = σ.length := by rw [o.1, wipe_length]
  apply List.ext_getElem?
  intro i
  by_cases hi : i ∈ vs
  · by_cases hz : i < σ.length
    · rw [wipe_in hi (by rw [hl]; exact hz), wipe_in hi hz]
    · rw [List.getElem?_eq_none (by rw [wipe_length, hl]; omega), List.getElem?_eq_none (by rw [wipe_length]; omega)]
  · rw [wipe_out' hi, o.2 i (fun z => hi (hs i z))]
/-- a kept-apart list changes -/
theorem Sim.updA {D : Addr} {o : HO} (I : Sim K S ow σ H env) (hA : S.A D) (hm : Mu o) (h0 : S.H0 D = none) : Sim K S ow σ (upd H D o) env := by
  obtain ⟨o0, e0, m0⟩ := I.live D (.inl hA)
  have pr : Pres H (Av S.A ow) (upd H D o) (Av S.A ow) := ⟨fun a u e n => ⟨by rw [upd_ne fun z => n (.inl (by rw [z]; exact hA))]; exact e, n⟩,
    fun a xs e => by rw [upd_ne fun z => by rw [z, e0] at e; cases e; exact m0]; exact e, fun a u w e => by rw [upd_ne fun z => by rw [z, e0] at e; cases e; exact m0]; exact e⟩
  refine ⟨I.len, I.lenO, fun j s e => (I.slot j s e).pres pr fun a ea => upd_ne fun z => I.sep a (List.mem_of_getElem? ea) (by rw [z]; exact hA), I.inj, fun a ha => ?_, I.sep, fun a u e n => ?_, I.fresh, I.io, I.iow, I.lk⟩
  · by_cases hz : a = D
    · subst hz; exact ⟨o, upd_same, hm⟩
    · obtain ⟨u, e, m⟩ := I.live a ha
      exact ⟨u, by rw [upd_ne hz]; exact e, m⟩
  · rw [upd_ne fun z => by rw [z, h0] at e; cases e]
    exact I.frame a u e n
theorem Sim.h0none (I : Sim K S ow σ H env) {p : Addr} (h : H p = none) : S.H0 p = none := by
  cases e : S.H0 p with
  | none => rfl
  | some o =>
    by_cases hio : ∃ q ∈ S.io, q.2 = p
    · obtain ⟨q, hq, rfl⟩ := hio
      obtain ⟨h1, _⟩ := I.io q hq
      exact absurd h (I.mutne (.inr (List.mem_of_getElem? h1)))
    · have := I.frame p o e fun q hq z => hio ⟨q, hq, z⟩
      rw [h] at this
      cases this
end
section
variable {K : PySem.W.Frag} {wi : TI} {g : GM} {is vs : List Nat} {t : TM} {m : EM} {src : IM} {σ : L2.St} {H : Hp} {Q : VK}
theorem lc_in {S : SS} {ow1 : List (Option Addr)} {H1 : Hp} {e1 e2 eF : Env} {ds out : List D} {J : It} (hs : ∀ i ∈ is, i ∈ vs) (I1 : Sim K S ow1 σ H1 e1) (sr : Src K S.A J ow1 H1 ds) (hbig : ds.length ≤ 16777216) (hw : wipeE vs e1 = some e2) (hgo : lcGo vs g t m ds e2 = some (out, eF))
    (k : ∀ Dl ow' acc H', H1 Dl = none → Stp ow1 H1 ow' H' → Sim K (S.add Dl) ow' σ H' eF → H' Dl = some (.lst acc) → RpL K H' (Av (S.add Dl).A ow') acc out → Q (.ref Dl) H') :
    ∀ D, H1 D = none → ∃ W : Nat → Nat → Hp → Prop, (∃ m, W 0 m (upd H1 D (.lst []))) ∧ ∀ i m' H, W i m' H →
      (J.stop i H ∧ Q (.ref D) H) ∨ (J.go i H ∧ ∃ Nx : Hp → Prop, (∀ H', Nx H' → ∃ m2, m2 < m' ∧ W (i + 1) m2 H') ∧ ∀ x H', J.yld i H x H' → EvG K is g x (wipe σ vs) H' fun σ2 H2 => wipe σ2 vs = wipe σ vs ∧ EvT K t σ2 H2 fun b H3 =>
        if b = true then EvS K m σ2 H3 fun y H4 => ∃ acc, H4 D = some (.lst acc) ∧ acc.length < sizeLine ∧ Nx (upd H4 D (.lst (acc ++ [y]))) else Nx H3) := by
  intro Dl hD
  have hD0 : S.H0 Dl = none := I1.h0none hD
  refine ⟨fun i mm H2 => mm = ds.length - i ∧ i ≤ ds.length ∧ ∃ ow2 env2 acc outs rest, Stp ow1 H1 ow2 H2 ∧ Sim K (S.add Dl) ow2 (wipe σ vs) H2 env2 ∧ (∀ j ∈ vs, env2[j]? = some .no) ∧ H2 Dl = some (.lst acc) ∧ RpL K H2 (Av (S.add Dl).A ow2) acc outs ∧
    lcGo vs g t m (ds.drop i) env2 = some (rest, eF) ∧ outs ++ rest = out ∧ outs.length ≤ i, ⟨ds.length, by simp, Nat.zero_le _, ow1, e2, [], [], out, .new hD, (I1.newCell hD (show Mu (.lst []) from trivial)).wipe hw, wipeE_no hw, upd_same, .nil, by simpa using hgo, rfl, Nat.zero_le _⟩, ?_⟩
  rintro i mm H2 ⟨rfl, hi, ow2, env2, acc, outs, rest, st2, I2, hno, hacc, racc, hrest, hout, hlen⟩
  have sr2 := sr (S.add Dl).A ow2 H2 (fun a z => z.elim .inl fun z => .inr (by rw [z]; exact hD)) st2 i
  by_cases hlt : i < ds.length
  · obtain ⟨go, yl⟩ := sr2.1 ds[i] (List.getElem?_eq_getElem hlt)
    refine .inr ⟨go, fun H' => ∃ ow3 env3 acc3 outs3 rest3, Stp ow1 H1 ow3 H' ∧ Sim K (S.add Dl) ow3 (wipe σ vs) H' env3 ∧ (∀ j ∈ vs, env3[j]? = some .no) ∧ H' Dl = some (.lst acc3) ∧ RpL K H' (Av (S.add Dl).A ow3) acc3 outs3 ∧
      lcGo vs g t m (ds.drop (i + 1)) env3 = some (rest3, eF) ∧ outs3 ++ rest3 = out ∧ outs3.length ≤ i + 1, fun H' z => ⟨ds.length - (i + 1), by omega, rfl, hlt, z⟩, fun x H' y => ?_⟩
    obtain ⟨hH', rx⟩ := yl x H' y
    rw [List.drop_eq_getElem_cons hlt] at hrest
    unfold lcGo at hrest
    simp only [Option.bind_eq_some_iff] at hrest
    obtain ⟨e3, hg, ⟨b, e4⟩, ht, hr⟩ := hrest
    have hnew : Stp ow2 H2 ow2 H' ∧ Sim K (S.add Dl) ow2 (wipe σ vs) H' env2 ∧ H' Dl = some (.lst acc) ∧ RpL K H' (Av (S.add Dl).A ow2) acc outs := by
      rcases hH' with rfl | ⟨p, tvs, hp, rfl⟩
      · exact ⟨.refl, I2, hacc, racc⟩
      · exact ⟨.new hp, I2.newAny hp, by rw [upd_ne (ne_of_none hacc hp)]; exact hacc, racc.pres (Pres.new hp)⟩
    obtain ⟨st3, I3, hacc3, racc3⟩ := hnew
    refine ⟨S.add Dl, ow2, env2, I3, _, rx, e3, hg, fun ow4 σ4 H4 st4 I4 o4 => ⟨wipe_same o4 hs, ?_⟩⟩
    have hw4 := wipe_same o4 hs
    refine ⟨S.add Dl, ow4, e3, I4, b, e4, ht, fun ow5 H5 st5 I5 => ?_⟩
    have stA : Stp ow2 H2 ow5 H5 := (st3.trans st4).trans st5
    have keepD : ∀ {owx : List (Option Addr)} {Hx : Hp}, Stp ow2 H' owx Hx → Hx Dl = some (.lst acc) := fun {owx Hx} s => (s.cell Dl _ hacc3 fun z => I3.sep Dl z (.inr rfl)).1
    cases b with
    | false =>
      simp only [Bool.false_eq_true, if_false, Option.bind_eq_some_iff] at hr ⊢
      obtain ⟨e5, hw5, hr⟩ := hr
      refine ⟨ow5, e5, acc, outs, rest, (st2.trans stA), ?_, wipeE_no hw5, keepD (st4.trans st5), racc3.pres (st4.trans st5).pres, hr, hout, by omega⟩
      rw [← hw4]
      exact I5.wipe hw5
    | true =>
      simp only [if_true, Option.bind_eq_some_iff] at hr ⊢
      obtain ⟨⟨y, e5⟩, hm5, e6, hw6, ⟨r, eE⟩, hr, hend⟩ := hr
      cases hend
      refine ⟨S.add Dl, ow5, e4, I5, y, e5, hm5, fun S' ow6 v6 H6 st6 I6 f6 => ?_⟩
      obtain ⟨rfl, r6⟩ := f6.shared
      have stB := (st4.trans st5).trans st6
      have hD6 := keepD stB
      have ra6 : RpL K H6 (Av (S.add Dl).A ow6) acc outs := racc3.pres stB.pres
      have pr6 : Pres H6 (Av (S.add Dl).A ow6) (upd H6 Dl (.lst (acc ++ [v6]))) (Av (S.add Dl).A ow6) := ⟨fun a u e n => ⟨by rw [upd_ne fun z => n (.inl (.inr z))]; exact e, n⟩,
        fun a xs e => by rw [upd_ne fun z => by rw [z, hD6] at e; cases e]; exact e, fun a u w e => by rw [upd_ne fun z => by rw [z, hD6] at e; cases e]; exact e⟩
      refine ⟨acc, hD6, ?_, ow6, e6, acc ++ [v6], outs ++ [y], r, ?_, ?_, wipeE_no hw6, upd_same, ?_, hr, ?_, ?_⟩
      · rw [racc3.length, sizeLine_eq]; omega
      · have s := (st2.trans st3).trans stB
        refine ⟨fun a o e n => ?_, fun a xs e => ?_, fun a o u e => ?_, fun a o e => ?_⟩
        · obtain ⟨q1, q2⟩ := s.cell a o e n
          exact ⟨by rw [upd_ne (ne_of_none e hD)]; exact q1, q2⟩
        · rw [upd_ne (ne_of_none e hD)]; exact s.tup a xs e
        · rw [upd_ne (ne_of_none e hD)]; exact s.frz a o u e
        · rw [upd_ne (ne_of_none e hD)]; exact s.dom a o e
      · rw [← hw4]
        exact (I6.updA (o := .lst (acc ++ [v6])) (.inr rfl) trivial hD0).wipe hw6
      · exact (ra6.append (.cons r6 .nil)).pres pr6
      · rw [← hout, List.append_assoc]; rfl
      · rw [List.length_append]; simpa using hlen
  · have e : i = ds.length := by omega
    subst e
    rw [List.drop_length] at hrest
    cases hrest
    refine .inl ⟨sr2.2 rfl, ?_⟩
    rw [List.append_nil] at hout
    subst hout
    have I3 : Sim K (S.add Dl) ow2 σ H2 eF := I2.slots hno (by rw [wipe_length]) fun j hj => (wipe_out' hj).symm
    exact k Dl ow2 acc H2 hD st2 I3 hacc racc
theorem lc_go (hs : ∀ i ∈ is, i ∈ vs) (h : EvF K (eLc src vs g t m) σ H Q) : tLc (EvI K src) (EvG K is g) (EvT K t) (EvS K m) vs σ H Q := by
  obtain ⟨S, ow, env, I, d, envF, hm, k⟩ := h
  unfold eLc at hm
  simp only [Option.bind_eq_some_iff] at hm
  obtain ⟨⟨ds, e1⟩, h1, h2⟩ := hm
  split at h2
  rotate_left
  · cases h2
  rename_i hbig
  simp only [Option.bind_eq_some_iff] at h2
  obtain ⟨e2, hw, ⟨out, eF⟩, hgo, hend⟩ := h2
  cases hend
  refine ⟨S, ow, env, I, ds, e1, h1, fun ow1 H1 J st1 I1 sr => ?_⟩
  exact lc_in hs I1 sr hbig hw hgo fun Dl ow' acc H' hD st' I' hacc racc => k (S.add Dl) ow' _ H' (st1.trans st') I' (.inr ⟨rfl, Dl, _, rfl, rfl, st1.back hD, hacc, .lst racc⟩)
end
section
variable {X : Cx}
theorem e_lc {elt tg iter : Expr} {ifs : List Expr} {scope : Scope} {own : List (Str × Nat)} {pos : Pos} {src : IM} {g : GM} {is : List Nat} {t : TM} {m : EM} (hc : X.calm = true) (hN : X.N.Nodup) (hi : PI X tg iter (EvI X.K src)) (ok : BlkOk X.N X.env.scope scope own)
    (hg : ∀ (s : Shared) (H : Hp) (C : Addr) (cl : List (Str × Addr)) (fp : List Addr), PG (X.blk s H scope (compEnvC scope cl C X.env) fp) tg (EvG X.K is g)) (ht : ∀ (s : Shared) (H : Hp) (C : Addr) (cl : List (Str × Addr)) (fp : List Addr), PTs (X.blk s H scope (compEnvC scope cl C X.env) fp) ifs (EvT X.K t))
    (he : ∀ (s : Shared) (H : Hp) (C : Addr) (cl : List (Str × Addr)) (fp : List Addr), PE (X.blk s H scope (compEnvC scope cl C X.env) fp) elt (EvS X.K m)) (hsub : ∀ i ∈ is, i ∈ own.map (·.2) := by decide) (hs : ∀ x, foldedSetIterable iter X.env x = pure x := by intro _; rfl) :
    PE X (.ListComp elt [⟨tg, iter, ifs, 0⟩] scope pos) (EvF X.K (eLc src (own.map (·.2)) g t m)) :=
  (pe_lc hc hN hi ok hg ht he hs).imp fun _ _ _ h => lc_go hsub h
theorem ts_nil : PTs X [] (EvT X.K tTrue) := ⟨fun pins s σ H Q I ⟨S, ow, env, J, b, env', hm, k⟩ => by cases hm; exact pts_nil.run pins s σ H Q I (k ow H .refl J)⟩
theorem ts_one {c : Expr} {t : TM} (h : PT X c (EvT X.K t)) : PTs X [c] (EvT X.K t) := pts_one h
end

/-! ### statements -/
inductive Fl where
  | nx | bk | ct
  | rt (fr : Bool) (d : D)
abbrev SM := Env → Option (Fl × Env)
def RtR (fr : Bool) (K : PySem.W.Frag) (S S' : SS) (H' : Hp) (ow' : List (Option Addr)) (v : V) (d : D) : Prop :=
  (S' = S ∧ Rp K H' (Av S.A ow') v d ∧ (fr = true → isMutD d = false)) ∨ (fr = true ∧ ∃ p o, S' = S.add p ∧ v = .ref p ∧ S.H0 p = none ∧ ¬ S.A p ∧ H' p = some o ∧ RpC K H' (Av S'.A ow') o d)
def FlK (K : PySem.W.Frag) (S : SS) (ow : List (Option Addr)) (H : Hp) (Dd : Ends) (env' : Env) : Fl → Prop
  | .nx => ∀ ow' σ' H', Stp ow H ow' H' → Sim K S ow' σ' H' env' → Dd.nx σ' H'
  | .bk => ∀ ow' σ' H', Stp ow H ow' H' → Sim K S ow' σ' H' env' → Dd.bk σ' H'
  | .ct => ∀ ow' σ' H', Stp ow H ow' H' → Sim K S ow' σ' H' env' → Dd.ct σ' H'
  | .rt fr d => ∀ S' ow' σ' H' v, Stp ow H ow' H' → Sim K S' ow' σ' H' env' → RtR fr K S S' H' ow' v d → Dd.rt v H'
def EvSt (K : PySem.W.Frag) (m : SM) : TS := fun Dd σ H => ∃ S ow env, Sim K S ow σ H env ∧ ∃ f env', m env = some (f, env') ∧ FlK K S ow H Dd env' f
theorem FlK.after {K : PySem.W.Frag} {S : SS} {ow ow1 : List (Option Addr)} {H H1 : Hp} {Dd : Ends} {env' : Env} {f : Fl} (st : Stp ow H ow1 H1) (h : FlK K S ow H Dd env' f) : FlK K S ow1 H1 Dd env' f := by
  cases f with
  | nx => exact fun ow' σ' H' st' => h ow' σ' H' (st.trans st')
  | bk => exact fun ow' σ' H' st' => h ow' σ' H' (st.trans st')
  | ct => exact fun ow' σ' H' st' => h ow' σ' H' (st.trans st')
  | rt fr d => exact fun S' ow' σ' H' v st' => h S' ow' σ' H' v (st.trans st')
section
variable {X : Cx} {st : Stmt} {rest : List Stmt} {pos : Pos} {e : Expr}
def sNop : SM := fun env => some (.nx, env)
def sSeq (m n : SM) : SM := fun env => (m env).bind fun (f, e) => match f with
  | .nx => n e
  | f => some (f, e)
theorem ss_nil : PSs X [] (EvSt X.K sNop) := pss_nil.imp fun D σ H ⟨S, ow, env, I, f, env', hm, k⟩ => by cases hm; exact k ow σ H .refl I
theorem ss_one {m : SM} (h : PS X st (EvSt X.K m)) : PSs X [st] (EvSt X.K m) := pss_one h
theorem ss_cons {m n : SM} (h1 : PS X st (EvSt X.K m)) (h2 : PSs X rest (EvSt X.K n)) : PSs X (st :: rest) (EvSt X.K (sSeq m n)) := (pss_cons h1 h2).imp fun D σ H ⟨S, ow, env, I, f, env', hm, k⟩ => by
  unfold sSeq at hm
  simp only [Option.bind_eq_some_iff] at hm
  obtain ⟨⟨f1, e1⟩, h1, h2⟩ := hm
  refine ⟨S, ow, env, I, f1, e1, h1, ?_⟩
  cases f1 with
  | nx => exact fun ow1 σ1 H1 st1 I1 => ⟨S, ow1, e1, I1, f, env', h2, k.after st1⟩
  | bk => cases h2; exact k
  | ct => cases h2; exact k
  | rt fr d => cases h2; exact k
theorem s_pass : PS X (.Pass pos) (EvSt X.K sNop) := ps_pass.imp fun D σ H ⟨S, ow, env, I, f, env', hm, k⟩ => by cases hm; exact k ow σ H .refl I
def sBk : SM := fun env => some (.bk, env)
def sCt : SM := fun env => some (.ct, env)
theorem s_break : PS X (.Break pos) (EvSt X.K sBk) := ps_break.imp fun D σ H ⟨S, ow, env, I, f, env', hm, k⟩ => by cases hm; exact k ow σ H .refl I
theorem s_cont : PS X (.Continue pos) (EvSt X.K sCt) := ps_continue.imp fun D σ H ⟨S, ow, env, I, f, env', hm, k⟩ => by cases hm; exact k ow σ H .refl I
/-- a value dropped -/
def sDrop (m : EM) : SM := fun env => (m env).bind fun (_, e) => some (.nx, e)
theorem s_expr {m : EM} (he : PE X e (EvS X.K m)) (hs : swapsWith e none pos.line X.env = pure false := by rfl) : PS X (.Expr e pos) (EvSt X.K (sDrop m)) := (ps_expr he hs).imp fun D σ H ⟨S, ow, env, I, f, env', hm, k⟩ => by
  unfold sDrop at hm
  simp only [Option.bind_eq_some_iff] at hm
  obtain ⟨⟨d, e1⟩, h1, h2⟩ := hm
  cases h2
  refine ⟨S, ow, env, I, d, _, h1, fun S' ow' v H' st J f => ?_⟩
  obtain ⟨rfl, _⟩ := f.shared
  exact k ow' σ H' st J
/-- return -/
def sRet (m : EM) : SM := fun env => (m env).bind fun (d, e) => some (.rt (!isMutD d) d, e)
def sRetF (m : EM) : SM := fun env => (m env).bind fun (d, e) => some (.rt true d, e)
theorem s_ret {m : EM} (he : PE X e (EvS X.K m)) : PS X (.Return (some e) pos) (EvSt X.K (sRet m)) := (ps_ret he).imp fun D σ H ⟨S, ow, env, I, f, env', hm, k⟩ => by
  unfold sRet at hm
  simp only [Option.bind_eq_some_iff] at hm
  obtain ⟨⟨d, e1⟩, h1, h2⟩ := hm
  cases h2
  refine ⟨S, ow, env, I, d, _, h1, fun S' ow' v H' st J f => ?_⟩
  obtain ⟨rfl, r⟩ := f.shared
  exact k _ ow' σ H' v st J (.inl ⟨rfl, r, fun z => by simpa using z⟩)
theorem s_retF {m : EM} (he : PE X e (EvF X.K m)) : PS X (.Return (some e) pos) (EvSt X.K (sRetF m)) := (ps_ret he).imp fun D σ H ⟨S, ow, env, I, f, env', hm, k⟩ => by
  unfold sRetF at hm
  simp only [Option.bind_eq_some_iff] at hm
  obtain ⟨⟨d, e1⟩, h1, h2⟩ := hm
  cases h2
  refine ⟨S, ow, env, I, d, _, h1, fun S' ow' v H' st J f => ?_⟩
  refine k S' ow' σ H' v st J (f.elim .inl fun ⟨z, p, o, e1, e2, e3, e4, r⟩ => .inr ⟨z, p, o, e1, e2, I.h0none e3, fun z => I.mutne (.inl z) e3, e4, r⟩)
def sRetN : SM := fun env => some (.rt true .non, env)
theorem s_retN : PS X (.Return none pos) (EvSt X.K sRetN) := ps_retN.imp fun D σ H ⟨S, ow, env, I, f, env', hm, k⟩ => by
  cases hm
  exact k S ow σ H .non .refl I (.inl ⟨rfl, .non, fun _ => rfl⟩)
/-- return x, x an own list or dict: it leaves the frame -/
def sRetO (i : Nat) : SM := fun env => match env[i]? with
  | some (.own d) => some (.rt true d, env.set i .no)
  | some (.shr d) => some (.rt (!isMutD d) d, env)
  | _ => none
theorem Sim.moveOut {K : PySem.W.Frag} {S : SS} {ow : List (Option Addr)} {σ : L2.St} {H : Hp} {env : Env} (I : Sim K S ow σ H env) {i : Nat} {d : D} (h : env[i]? = some (.own d)) :
    ∃ a o, σ[i]? = some (some (.ref a)) ∧ Sim K (S.add a) (ow.set i none) σ H (env.set i .no) ∧ H a = some o ∧ RpC K H (Av (S.add a).A (ow.set i none)) o d ∧ S.H0 a = none ∧ ¬ S.A a := by
  obtain ⟨a, o, e1, e2, e3, r⟩ := I.slot i _ h
  have hin : ∀ {b : Addr}, some b ∈ ow.set i none → some b ∈ ow ∧ b ≠ a := fun {b} hb => by
    obtain ⟨j, hj⟩ := List.getElem?_of_mem hb
    obtain ⟨q1, q2⟩ := get_set_none hj
    exact ⟨List.mem_of_getElem? q1, fun z => q2 (I.inj j i a (by rw [← z]; exact q1) e2)⟩
  have less : ∀ b, Av (S.add a).A (ow.set i none) b → Av S.A ow b := fun b z => by
    rcases z with (z | z) | z
    · exact .inl z
    · exact .inr (by rw [z]; exact List.mem_of_getElem? e2)
    · exact .inr (hin z).1
  have hio : S.H0 a = none := by
    rcases I.fresh a (List.mem_of_getElem? e2) with z | ⟨j, hj⟩
    · exact z
    · obtain ⟨h1, d', h2⟩ := I.io _ hj
      have hji : j = i := I.inj j i a h1 e2
      subst hji
      rw [h] at h2
      cases h2
  refine ⟨a, o, e1, ⟨by simpa using I.len, by simpa using I.lenO, fun j s e => ?_, fun j k b h1 h2 => I.inj j k b (get_set_none h1).1 (get_set_none h2).1, fun b hb => I.live b (less b hb), fun b hb z => z.elim (fun z => I.sep b (hin hb).1 z) (hin hb).2, I.frame, fun b hb => I.fresh b (hin hb).1, fun p hp => ?_, fun j d' e => ?_, fun p hp => ?_⟩, e3, r.pres (Pres.less less), hio, I.sep a (List.mem_of_getElem? e2)⟩
  · by_cases hij : j = i
    · subst hij
      rw [List.getElem?_set] at e
      split at e
      · split at e
        · cases e; trivial
        · cases e
      · contradiction
    · rw [List.getElem?_set_ne (Ne.symm hij)] at e
      rw [List.getElem?_set_ne (Ne.symm hij)]
      exact (I.slot j s e).pres (Pres.less less) fun _ _ => rfl
  · obtain ⟨h1, d', h2⟩ := I.io p hp
    have hne : i ≠ p.1 := fun z => by rw [← z, h] at h2; cases h2
    exact ⟨by rw [List.getElem?_set_ne hne]; exact h1, d', by rw [List.getElem?_set_ne hne]; exact h2⟩
  · by_cases hij : j = i
    · subst hij
      rw [List.getElem?_set] at e
      split at e
      · split at e <;> cases e
      · contradiction
    · rw [List.getElem?_set_ne (Ne.symm hij)] at e
      exact I.iow j d' e
  · obtain ⟨h1, h2⟩ := I.lk p hp
    have hne : i ≠ p.1 := fun z => by rw [← z, h] at h2; cases h2
    exact ⟨h1, by rw [List.getElem?_set_ne hne]; exact h2⟩
theorem s_retO {i : Nat} {x : Str} {p : Pos} (he : PE X (.Name x p) (tVar i)) : PS X (.Return (some (.Name x p)) pos) (EvSt X.K (sRetO i)) := (ps_ret he).imp fun D σ H ⟨S, ow, env, I, f, env', hm, k⟩ => by
  unfold sRetO at hm
  split at hm
  · rename_i d e
    cases hm
    obtain ⟨a, o, e1, J, e3, r, h0, hA⟩ := I.moveOut e
    exact ⟨_, e1, k _ _ σ H _ (stp_less fun a z => mem_set_none z) J (.inr ⟨rfl, a, o, rfl, rfl, h0, hA, e3, r⟩)⟩
  · rename_i d e
    cases hm
    obtain ⟨v, e1, r⟩ := I.slot i _ e
    exact ⟨v, e1, k S ow σ H v .refl I (.inl ⟨rfl, r, fun z => by simpa using z⟩)⟩
  · cases hm
/-- if -/
def sIf (t : TM) (m n : SM) : SM := fun env => (t env).bind fun (b, e) => if b = true then m e else n e
theorem s_if {c : Expr} {a b : List Stmt} {t : TM} {m n : SM} (hc : PT X c (EvT X.K t)) (ha : PSs X a (EvSt X.K m)) (hb : PSs X b (EvSt X.K n)) : PS X (.If c a b pos) (EvSt X.K (sIf t m n)) := (ps_if hc ha hb).imp fun D σ H ⟨S, ow, env, I, f, env', hm, k⟩ => by
  unfold sIf at hm
  simp only [Option.bind_eq_some_iff] at hm
  obtain ⟨⟨b, e⟩, h1, h2⟩ := hm
  refine ⟨S, ow, env, I, b, e, h1, fun ow1 H1 st1 I1 => ?_⟩
  cases b with
  | true => exact ⟨S, ow1, e, I1, f, env', h2, k.after st1⟩
  | false => exact ⟨S, ow1, e, I1, f, env', h2, k.after st1⟩
/-- code that is never come to -/
def sNever : SM := fun _ => none
theorem s_never : PS X st (EvSt X.K sNever) := ps_never.imp fun D σ H ⟨S, ow, env, I, f, env', hm, k⟩ => by cases hm
/-- target = e -/
def sAsg (m : EM) (g : GM) : SM := fun env => (m env).bind fun (d, e) => (g d e).bind fun e' => some (.nx, e')
theorem asg_go {K : PySem.W.Frag} {te : TE} {m : EM} {g : GM} {is : List Nat} {D : Ends} {σ : L2.St} {H : Hp} (hte : ∀ σ H Q, EvS K m σ H Q → te σ H Q) (h : EvSt K (sAsg m g) D σ H) : tAsg te (EvG K is g) D σ H := by
  obtain ⟨S, ow, env, I, f, env', hm, k⟩ := h
  unfold sAsg at hm
  simp only [Option.bind_eq_some_iff] at hm
  obtain ⟨⟨d, e1⟩, h1, e2, h2, h3⟩ := hm
  cases h3
  refine hte _ _ _ ⟨S, ow, env, I, d, e1, h1, fun S' ow' v H' st J f => ?_⟩
  obtain ⟨rfl, r⟩ := f.shared
  exact ⟨_, ow', e1, J, d, r, _, h2, fun ow2 σ2 H2 st2 I2 _ => k ow2 σ2 H2 (st.trans st2) I2⟩
theorem s_asg {tg : Expr} {m : EM} {g : GM} {is : List Nat} (he : PE X e (EvS X.K m)) (hg : PG X tg (EvG X.K is g)) (hs : swapsWithSole [tg] e pos.line X.env = pure false := by rfl) (hw : swappedStores [tg] e X.env = pure none := by rfl)
    (h1 : (assignEach [tg] X.env).map (·.2) = [assign tg X.env] := by rfl) : PS X (.Assign [tg] e pos) (EvSt X.K (sAsg m g)) := (ps_asg he hg hs hw h1).imp fun _ _ _ h => asg_go (fun _ _ _ q => q) h
/-- name = e, shared -/
theorem s_set {i : Nat} {x : Str} {m : EM} {p : Pos} (h : PS X (.Assign [.Name x p] e pos) (tAsg (EvS X.K m) (gName i))) : PS X (.Assign [.Name x p] e pos) (EvSt X.K (sAsg m (gN i))) := h.imp fun D σ H ⟨S, ow, env, I, f, env', hm, k⟩ => by
  unfold sAsg at hm
  simp only [Option.bind_eq_some_iff] at hm
  obtain ⟨⟨d, e1⟩, h1, e2, h2, h3⟩ := hm
  cases h3
  refine ⟨S, ow, env, I, d, e1, h1, fun S' ow' v H' st J f => ?_⟩
  obtain ⟨rfl, r⟩ := f.shared
  unfold gN at h2
  split at h2
  · rename_i hf
    cases h2
    exact k _ _ H' (st.trans (stp_less fun a z => mem_set_none z)) (J.put hf r)
  · cases h2
/-- name = e, e new, kept as the name's own -/
def mkOwn (d : D) : Slot := if isMutD d = true then .own d else .shr d
def sOwn (m : EM) (i : Nat) : SM := fun env => (m env).bind fun (d, e) => if free e i = true then some (.nx, e.set i (mkOwn d)) else none
theorem own_go {K : PySem.W.Frag} {m : EM} {i : Nat} {D : Ends} {σ : L2.St} {H : Hp} (h : EvSt K (sOwn m i) D σ H) : tAsg (EvF K m) (gName i) D σ H := by
  obtain ⟨S, ow, env, I, f, env', hm, k⟩ := h
  unfold sOwn at hm
  simp only [Option.bind_eq_some_iff] at hm
  obtain ⟨⟨d, e1⟩, h1, h2⟩ := hm
  split at h2
  rotate_left
  · cases h2
  rename_i hf
  cases h2
  refine ⟨S, ow, env, I, d, e1, h1, fun S' ow' v H' st J f => ?_⟩
  rcases f with ⟨rfl, r, n⟩ | ⟨_, p, o, rfl, rfl, hp, ho, r⟩
  · have e : mkOwn d = .shr d := by unfold mkOwn; rw [n rfl]; rfl
    refine k (ow'.set i none) _ H' (st.trans (stp_less fun a z => mem_set_none z)) ?_
    show Sim K _ _ _ _ (List.set e1 i (mkOwn d))
    rw [e]
    exact J.put hf r
  · have e : mkOwn d = .own d := by unfold mkOwn; rw [r.mutD]; rfl
    have hS : ¬ S.A p := fun z => I.mutne (.inl z) hp
    refine k (ow'.set i (some p)) _ H' ⟨fun a u ea n => ?_, st.tup, st.frz, st.dom⟩ ?_
    · obtain ⟨q1, q2⟩ := st.cell a u ea n
      refine ⟨q1, fun z => ?_⟩
      rcases List.mem_or_eq_of_mem_set z with z | z
      · exact q2 z
      · cases z
        rw [ea] at hp; cases hp
    · show Sim K _ _ _ _ (List.set e1 i (mkOwn d))
      rw [e]
      exact J.putOwn hf ho r hS (I.h0none hp)
end
end PL
end

section
set_option maxRecDepth 100000
set_option maxHeartbeats 3900000
/-! PL4: loops, locks, several targets, lists that change. -/
namespace PL
open PySem Spec PyProof.Rows L2

/-! ### for, while -/
def forGo (g : GM) (body : SM) : List D → Env → Option (Fl × Env)
  | [], env => some (.nx, env)
  | d :: ds, env => (g d env).bind fun e1 => (body e1).bind fun (f, e2) => match f with
    | .nx => forGo g body ds e2
    | .ct => forGo g body ds e2
    | .bk => some (.nx, e2)
    | .rt fr d => some (.rt fr d, e2)
def sFor (src : IM) (g : GM) (body : SM) : SM := fun env => (src env).bind fun (ds, e1) => forGo g body ds e1
def whGo (t : TM) (body : SM) : Nat → Env → Option (Fl × Env)
  | 0, _ => none
  | n + 1, env => (t env).bind fun (b, e1) => if b = true then (body e1).bind fun (f, e2) => match f with
    | .nx => whGo t body n e2
    | .ct => whGo t body n e2
    | .bk => some (.nx, e2)
    | .rt fr d => some (.rt fr d, e2)
  else some (.nx, e1)
def sWhile (n : Nat) (t : TM) (body : SM) : SM := fun env => whGo t body n env
section
variable {K : PySem.W.Frag} {g : GM} {is : List Nat} {body : SM} {σ : L2.St} {H : Hp} {Dd : Ends}
theorem for_in {S : SS} {ow1 : List (Option Addr)} {H1 : Hp} {e1 envF : Env} {ds : List D} {J : It} {f : Fl} (I1 : Sim K S ow1 σ H1 e1) (sr : Src K S.A J ow1 H1 ds) (hgo : forGo g body ds e1 = some (f, envF)) (k : FlK K S ow1 H1 Dd envF f) :
    ∃ W : Nat → Nat → L2.St → Hp → Prop, (∃ m, W 0 m σ H1) ∧ ∀ i m σ H, W i m σ H →
      (J.stop i H ∧ Dd.nx σ H) ∨ (J.go i H ∧ ∃ N : L2.St → Hp → Prop, (∀ σ' H', N σ' H' → ∃ m', m' < m ∧ W (i + 1) m' σ' H') ∧ ∀ x H', J.yld i H x H' → EvG K is g x σ H' fun σ2 H2 => EvSt K body { Dd with nx := N, ct := N, bk := Dd.nx } σ2 H2) := by
  refine ⟨fun i m σ2 H2 => m = ds.length - i ∧ i ≤ ds.length ∧ ∃ ow2 env2, Stp ow1 H1 ow2 H2 ∧ Sim K S ow2 σ2 H2 env2 ∧ forGo g body (ds.drop i) env2 = some (f, envF), ⟨ds.length, by simp, Nat.zero_le _, ow1, e1, .refl, I1, by simpa using hgo⟩, ?_⟩
  rintro i m σ2 H2 ⟨rfl, hi, ow2, env2, st2, I2, hrest⟩
  have sr2 := sr S.A ow2 H2 (fun a z => .inl z) st2 i
  by_cases hlt : i < ds.length
  · obtain ⟨go, yl⟩ := sr2.1 ds[i] (List.getElem?_eq_getElem hlt)
    refine .inr ⟨go, fun σ' H' => ∃ ow3 env3, Stp ow1 H1 ow3 H' ∧ Sim K S ow3 σ' H' env3 ∧ forGo g body (ds.drop (i + 1)) env3 = some (f, envF), fun σ' H' z => ⟨ds.length - (i + 1), by omega, rfl, hlt, z⟩, fun x H' y => ?_⟩
    obtain ⟨hH', rx⟩ := yl x H' y
    rw [List.drop_eq_getElem_cons hlt] at hrest
    unfold forGo at hrest
    simp only [Option.bind_eq_some_iff] at hrest
    obtain ⟨e3, hg, ⟨f1, e4⟩, hb, hr⟩ := hrest
    have hnew : Stp ow2 H2 ow2 H' ∧ Sim K S ow2 σ2 H' env2 := by
      rcases hH' with rfl | ⟨p, tvs, hp, rfl⟩
      · exact ⟨.refl, I2⟩
      · exact ⟨.new hp, I2.newAny hp⟩
    obtain ⟨st3, I3⟩ := hnew
    refine ⟨S, ow2, env2, I3, _, rx, e3, hg, fun ow4 σ4 H4 st4 I4 o4 => ?_⟩
    have stA := (st2.trans st3).trans st4
    refine ⟨S, ow4, e3, I4, f1, e4, hb, ?_⟩
    cases f1 with
    | nx => exact fun ow5 σ5 H5 st5 I5 => ⟨ow5, e4, stA.trans st5, I5, hr⟩
    | ct => exact fun ow5 σ5 H5 st5 I5 => ⟨ow5, e4, stA.trans st5, I5, hr⟩
    | bk => cases hr; exact fun ow5 σ5 H5 st5 I5 => k ow5 σ5 H5 (stA.trans st5) I5
    | rt fr d => cases hr; exact fun S' ow5 σ5 H5 v st5 I5 r => k S' ow5 σ5 H5 v (stA.trans st5) I5 r
  · have e : i = ds.length := by omega
    subst e
    rw [List.drop_length] at hrest
    cases hrest
    exact .inl ⟨sr2.2 rfl, k ow2 σ2 H2 st2 I2⟩
theorem for_go {src : IM} (h : EvSt K (sFor src g body) Dd σ H) : tFor (EvI K src) (EvG K is g) (EvSt K body) Dd σ H := by
  obtain ⟨S, ow, env, I, f, env', hm, k⟩ := h
  unfold sFor at hm
  simp only [Option.bind_eq_some_iff] at hm
  obtain ⟨⟨ds, e1⟩, h1, h2⟩ := hm
  exact ⟨S, ow, env, I, ds, e1, h1, fun ow1 H1 J st1 I1 sr => for_in I1 sr h2 (k.after st1)⟩
theorem while_go {n : Nat} {t : TM} (h : EvSt K (sWhile n t body) Dd σ H) : tWhile (EvT K t) (EvSt K body) Dd σ H := by
  obtain ⟨S, ow, env, I, f, envF, hm, k⟩ := h
  refine ⟨fun m σ2 H2 => ∃ ow2 env2, Stp ow H ow2 H2 ∧ Sim K S ow2 σ2 H2 env2 ∧ whGo t body m env2 = some (f, envF), ⟨n, ow, env, .refl, I, hm⟩, ?_⟩
  rintro m σ2 H2 ⟨ow2, env2, st2, I2, hm2⟩
  cases m with
  | zero => cases hm2
  | succ m =>
    unfold whGo at hm2
    simp only [Option.bind_eq_some_iff] at hm2
    obtain ⟨⟨b, e1⟩, ht, hr⟩ := hm2
    refine ⟨S, ow2, env2, I2, b, e1, ht, fun ow3 H3 st3 I3 => ?_⟩
    cases b with
    | false => cases hr; exact k ow3 σ2 H3 (st2.trans st3) I3
    | true =>
      simp only [if_true, Option.bind_eq_some_iff] at hr
      obtain ⟨⟨f1, e4⟩, hb, hr⟩ := hr
      have stA := st2.trans st3
      refine ⟨fun σ' H' => ∃ ow3 env3, Stp ow H ow3 H' ∧ Sim K S ow3 σ' H' env3 ∧ whGo t body m env3 = some (f, envF), fun σ' H' z => ⟨m, Nat.lt_succ_self m, z⟩, S, ow3, e1, I3, f1, e4, hb, ?_⟩
      cases f1 with
      | nx => exact fun ow5 σ5 H5 st5 I5 => ⟨ow5, e4, stA.trans st5, I5, hr⟩
      | ct => exact fun ow5 σ5 H5 st5 I5 => ⟨ow5, e4, stA.trans st5, I5, hr⟩
      | bk => cases hr; exact fun ow5 σ5 H5 st5 I5 => k ow5 σ5 H5 (stA.trans st5) I5
      | rt fr d => cases hr; exact fun S' ow5 σ5 H5 v st5 I5 r => k S' ow5 σ5 H5 v (stA.trans st5) I5 r
end
section
variable {X : Cx} {pos : Pos}
theorem s_for {tg iter : Expr} {body : List Stmt} {src : IM} {g : GM} {is : List Nat} {m : SM} (hp : PassesOwn (model X.prog X.w) X.A X.env X.xe) (hc : X.calm = true) (hi : PI X tg iter (EvI X.K src)) (hg : PG X tg (EvG X.K is g)) (hb : PSs X body (EvSt X.K m))
    (hs : ∀ x, foldedSetIterable iter X.env x = pure x := by intro _; rfl) : PS X (.For tg iter body [] pos) (EvSt X.K (sFor src g m)) := (ps_for hp hc hi hg hb hs).imp fun _ _ _ h => for_go h
theorem s_while {c : Expr} {body : List Stmt} {t : TM} {m : SM} (n : Nat) (hp : PassesOwn (model X.prog X.w) X.A X.env X.xe) (hc : PT X c (EvT X.K t)) (hb : PSs X body (EvSt X.K m)) : PS X (.While c body [] pos) (EvSt X.K (sWhile n t m)) := (ps_while hp hc hb).imp fun _ _ _ h => while_go h
end

/-! ### locks: an own list is walked -/
def SS.lock (S : SS) (i : Nat) (a : Addr) : SS := { S with A := fun b => S.A b ∨ b = a, lk := (i, .ref a) :: S.lk }
section
variable {K : PySem.W.Frag} {S : SS} {ow : List (Option Addr)} {σ : L2.St} {H : Hp} {env : Env} {i : Nat} {d : D}
theorem Sim.lock (I : Sim K S ow σ H env) (h : env[i]? = some (.own d)) :
    ∃ a o, σ[i]? = some (some (.ref a)) ∧ H a = some o ∧ RpC K H (Av (S.lock i a).A (ow.set i none)) o d ∧ Sim K (S.lock i a) (ow.set i none) σ H (env.set i .lck) ∧ S.H0 a = none ∧ ¬ S.A a ∧ some a ∉ ow.set i none ∧ ∀ q ∈ S.lk, q.1 ≠ i := by
  obtain ⟨a, o, e1, J, e3, r, h0, hA⟩ := I.moveOut h
  have hi : i < env.length := (List.getElem?_eq_some_iff.mp h).1
  refine ⟨a, o, e1, e3, r, ⟨by simpa using I.len, by simpa using I.lenO, fun j s e => ?_, J.inj, J.live, J.sep, J.frame, J.fresh, fun p hp => ?_, fun j d' e => ?_, fun p hp => ?_⟩, h0, hA, fun z => J.sep a z (.inr rfl), fun q hq z => by obtain ⟨_, h2⟩ := I.lk q hq; rw [z, h] at h2; cases h2⟩
  · by_cases hij : j = i
    · subst hij
      rw [List.getElem?_set_self hi] at e
      cases e
      trivial
    · rw [List.getElem?_set_ne (Ne.symm hij)] at e
      exact J.slot j s (by rw [List.getElem?_set_ne (Ne.symm hij)]; exact e)
  · obtain ⟨h1, d', h2⟩ := J.io p hp
    refine ⟨h1, d', ?_⟩
    by_cases hij : p.1 = i
    · rw [hij, List.getElem?_set_self hi] at h2; cases h2
    · rw [List.getElem?_set_ne (Ne.symm hij)] at h2 ⊢; exact h2
  · by_cases hij : j = i
    · subst hij
      rw [List.getElem?_set_self hi] at e
      cases e
    · rw [List.getElem?_set_ne (Ne.symm hij)] at e
      exact I.iow j d' e
  · have hp' : p = (i, .ref a) ∨ p ∈ S.lk := List.mem_cons.mp hp
    rcases hp' with rfl | hp'
    · exact ⟨e1, List.getElem?_set_self hi⟩
    · obtain ⟨h1, h2⟩ := I.lk p hp'
      have hne : i ≠ p.1 := fun z => by rw [← z, h] at h2; cases h2
      exact ⟨h1, by rw [List.getElem?_set_ne hne]; exact h2⟩
theorem Sim.unlock {a : Addr} {o : HO} (I : Sim K (S.lock i a) ow σ H env) (e3 : H a = some o) (r : RpC K H (Av (S.lock i a).A ow) o d) (h0 : S.H0 a = none) (hA : ¬ S.A a) (hlk : ∀ q ∈ S.lk, q.1 ≠ i) : Sim K S (ow.set i (some a)) σ H (env.set i (.own d)) := by
  obtain ⟨l1, l2⟩ := I.lk (i, .ref a) (List.mem_cons_self ..)
  have hi : i < env.length := (List.getElem?_eq_some_iff.mp l2).1
  have hio : i < ow.length := by rw [I.lenO, ← I.len]; exact hi
  have ha_ow : some a ∉ ow := fun z => I.sep a z (.inr rfl)
  have mem : ∀ {b : Addr}, some b ∈ ow.set i (some a) → some b ∈ ow ∨ b = a := fun {b} z => by
    rcases List.mem_or_eq_of_mem_set z with z | z
    · exact .inl z
    · cases z; exact .inr rfl
  have to : ∀ b, Av S.A (ow.set i (some a)) b → Av (S.lock i a).A ow b := fun b z => by
    rcases z with z | z
    · exact .inl (.inl z)
    · rcases mem z with z | z
      · exact .inr z
      · exact .inl (.inr z)
  have get : ∀ {j : Nat} {b : Addr}, (ow.set i (some a))[j]? = some (some b) → (j = i ∧ b = a) ∨ (j ≠ i ∧ ow[j]? = some (some b)) := fun {j b} z => by
    by_cases hij : j = i
    · subst hij
      rw [List.getElem?_set_self hio] at z
      cases z
      exact .inl ⟨rfl, rfl⟩
    · rw [List.getElem?_set_ne (Ne.symm hij)] at z
      exact .inr ⟨hij, z⟩
  refine ⟨by simpa using I.len, by simpa using I.lenO, fun j s e => ?_, fun j k b h1 h2 => ?_, fun b hb => I.live b (to b hb), fun b hb z => ?_, I.frame, fun b hb => ?_, fun q hq => ?_, fun j d' e => ?_, fun q hq => ?_⟩
  · by_cases hij : j = i
    · subst hij
      rw [List.getElem?_set_self hi] at e
      cases e
      rw [List.getElem?_set_self hio]
      exact ⟨a, o, l1, rfl, e3, r.pres (Pres.less to)⟩
    · rw [List.getElem?_set_ne (Ne.symm hij)] at e
      rw [List.getElem?_set_ne (Ne.symm hij)]
      exact (I.slot j s e).pres (Pres.less to) fun _ _ => rfl
  · rcases get h1 with ⟨a1, a2⟩ | ⟨a1, a2⟩ <;> rcases get h2 with ⟨b1, b2⟩ | ⟨b1, b2⟩
    · rw [a1, b1]
    · exact absurd (List.mem_of_getElem? b2) (by rw [a2]; exact ha_ow)
    · exact absurd (List.mem_of_getElem? a2) (by rw [b2]; exact ha_ow)
    · exact I.inj j k b a2 b2
  · rcases mem hb with hb | hb
    · exact I.sep b hb (.inl z)
    · rw [hb] at z; exact hA z
  · rcases mem hb with hb | hb
    · exact I.fresh b hb
    · rw [hb]; exact .inl h0
  · obtain ⟨h1, d', h2⟩ := I.io q hq
    have hne : i ≠ q.1 := fun z => by rw [← z, l2] at h2; cases h2
    exact ⟨by rw [List.getElem?_set_ne hne]; exact h1, d', by rw [List.getElem?_set_ne hne]; exact h2⟩
  · by_cases hij : j = i
    · subst hij
      rw [List.getElem?_set_self hi] at e
      cases e
    · rw [List.getElem?_set_ne (Ne.symm hij)] at e
      exact I.iow j d' e
  · obtain ⟨h1, h2⟩ := I.lk q (List.mem_cons_of_mem _ hq)
    exact ⟨h1, by rw [List.getElem?_set_ne (Ne.symm (hlk q hq))]; exact h2⟩
end
/-- [.. for .. in x], for .. in x, x an own list that goes on behind -/
def eLcL (i : Nat) (vs : List Nat) (g : GM) (t : TM) (m : EM) : EM := fun env => match env[i]? with
  | some (.own (.lst ds)) => if ds.length ≤ 16777216 then (wipeE vs (env.set i .lck)).bind fun e2 => (lcGo vs g t m ds e2).bind fun (r, e) => some (.lst r, e.set i (.own (.lst ds))) else none
  | _ => none
def sForL (i : Nat) (g : GM) (body : SM) : SM := fun env => match env[i]? with
  | some (.own (.lst ds)) => (forGo g body ds (env.set i .lck)).bind fun (f, e) => match f with
    | .nx => some (.nx, e.set i (.own (.lst ds)))
    | .rt fr d => some (.rt fr d, e)
    | _ => none
  | _ => none
theorem Sim.less {K : PySem.W.Frag} {S S' : SS} {ow : List (Option Addr)} {σ : L2.St} {H : Hp} {env : Env} (I : Sim K S' ow σ H env) (hA : ∀ a, S.A a → S'.A a) (h0 : S'.H0 = S.H0) (hio : S'.io = S.io) (hlk : ∀ p ∈ S.lk, p ∈ S'.lk) : Sim K S ow σ H env := by
  refine ⟨I.len, I.lenO, fun j s e => (I.slot j s e).pres (Pres.less fun a z => z.elim (fun z => .inl (hA a z)) .inr) fun _ _ => rfl, I.inj, fun a ha => I.live a (ha.elim (fun z => .inl (hA a z)) .inr), fun a ha z => I.sep a ha (hA a z), ?_, ?_, ?_, ?_, fun p hp => I.lk p (hlk p hp)⟩
  · rw [← h0, ← hio]; exact I.frame
  · rw [← h0, ← hio]; exact I.fresh
  · rw [← hio]; exact I.io
  · rw [← hio]; exact I.iow
section
variable {K : PySem.W.Frag} {g : GM} {is vs : List Nat} {t : TM} {m : EM} {body : SM} {σ : L2.St} {H : Hp} {Q : VK} {Dd : Ends} {i : Nat}
theorem stp_lock {ow ow' : List (Option Addr)} {H' : Hp} {a : Addr} (st : Stp (ow.set i none) H ow' H') (hin : some a ∈ ow) (hx : some a ∉ ow.set i none) : Stp ow H (ow'.set i (some a)) H' := ⟨fun b u e n => by
  obtain ⟨q1, q2⟩ := st.cell b u e fun z => n (mem_set_none z)
  refine ⟨q1, fun z => ?_⟩
  rcases List.mem_or_eq_of_mem_set z with z | z
  · exact q2 z
  · cases z; exact n hin, st.tup, st.frz, st.dom⟩
theorem lcL_go (hs : ∀ i ∈ is, i ∈ vs) (h : EvF K (eLcL i vs g t m) σ H Q) : tLc (iList K (tVar i)) (EvG K is g) (EvT K t) (EvS K m) vs σ H Q := by
  obtain ⟨S, ow, env, I, d, envF, hm, k⟩ := h
  unfold eLcL at hm
  split at hm
  rotate_left
  · cases hm
  rename_i ds hown
  split at hm
  rotate_left
  · cases hm
  rename_i hbig
  simp only [Option.bind_eq_some_iff] at hm
  obtain ⟨e2, hw, ⟨out, eF⟩, hgo, hend⟩ := hm
  cases hend
  obtain ⟨a, o, e1, e3, rc, J, h0, hA, hx, hlk⟩ := I.lock hown
  have hin : some a ∈ ow := by
    obtain ⟨a', o', q1, q2, _⟩ := I.slot i _ hown
    rw [e1] at q1
    cases q1
    exact List.mem_of_getElem? q2
  cases rc with
  | @lst vsl _ rl =>
    have sl : StL K (ow.set i none) H a vsl := .of (o := .lst vsl) e3 hx
    refine ⟨_, e1, a, rfl, ⟨vsl, sl _ _ .refl⟩, ?_⟩
    refine lc_in hs J (src_list sl rl) hbig hw hgo fun Dl ow' acc H' hD st' I' hacc racc => ?_
    have ha' := st'.cell a _ e3 hx
    have I2 : Sim K ((S.add Dl).lock i a) ow' σ H' eF := I'.less (fun b z => by
      rcases z with (z | z) | z
      · exact .inl (.inl z)
      · exact .inr z
      · exact .inl (.inr z)) rfl rfl fun p hp => hp
    have hDa : a ≠ Dl := fun z => by rw [z, hD] at e3; cases e3
    have pr : RpC K H' (Av ((S.add Dl).lock i a).A ow') (.lst vsl) (.lst ds) := by
      refine ((RpC.lst rl).pres (Pres.grow (A' := ((S.add Dl).lock i a).A) fun b z => ?_)).pres st'.pres
      rcases z with (z | z) | z
      · exact .inl (.inl z)
      · exact .inr (by rw [z]; exact hD)
      · exact .inl (.inr z)
    have U := I2.unlock ha'.1 pr h0 (fun z => z.elim hA hDa) hlk
    refine k (S.add Dl) _ _ H' (stp_lock st' hin hx) U (.inr ⟨rfl, Dl, _, rfl, rfl, hD, hacc, .lst (racc.pres ?_)⟩)
    refine ⟨fun b u e n => ⟨e, fun z => ?_⟩, fun _ _ e => e, fun _ _ _ e => e⟩
    rcases z with (z | z) | z
    · exact n (.inl (.inl (.inl z)))
    · exact n (.inl (.inr z))
    · rcases List.mem_or_eq_of_mem_set z with z | z
      · exact n (.inr z)
      · cases z; exact n (.inl (.inl (.inr rfl)))
theorem forL_go (h : EvSt K (sForL i g body) Dd σ H) : tFor (iList K (tVar i)) (EvG K is g) (EvSt K body) Dd σ H := by
  obtain ⟨S, ow, env, I, f, envF, hm, k⟩ := h
  unfold sForL at hm
  split at hm
  rotate_left
  · cases hm
  rename_i ds hown
  simp only [Option.bind_eq_some_iff] at hm
  obtain ⟨⟨f1, e1'⟩, hgo, hend⟩ := hm
  obtain ⟨a, o, e1, e3, rc, J, h0, hA, hx, hlk⟩ := I.lock hown
  have hin : some a ∈ ow := by
    obtain ⟨a', o', q1, q2, _⟩ := I.slot i _ hown
    rw [e1] at q1
    cases q1
    exact List.mem_of_getElem? q2
  cases rc with
  | @lst vsl _ rl =>
    have sl : StL K (ow.set i none) H a vsl := .of (o := .lst vsl) e3 hx
    refine ⟨_, e1, a, rfl, ⟨vsl, sl _ _ .refl⟩, ?_⟩
    refine for_in J (src_list sl rl) hgo ?_
    cases f1 with
    | nx =>
      cases hend
      intro ow' σ' H' st' I'
      have ha' := st'.cell a _ e3 hx
      exact k _ σ' H' (stp_lock st' hin hx) (I'.unlock ha'.1 ((RpC.lst rl).pres st'.pres) h0 hA hlk)
    | bk => cases hend
    | ct => cases hend
    | rt fr d =>
      cases hend
      intro S' ow' σ' H' v st' I' r
      have stp : Stp ow H ow' H' := ⟨fun b u e n => st'.cell b u e fun z => n (mem_set_none z), st'.tup, st'.frz, st'.dom⟩
      rcases r with ⟨rfl, r, n⟩ | ⟨z, p, o, rfl, rfl, q1, q2, q3, q4⟩
      · exact k S ow' σ' H' v stp (I'.less (fun b z => .inl z) rfl rfl fun p hp => List.mem_cons_of_mem _ hp) (.inl ⟨rfl, r.pres (Pres.less fun b z => z.elim (fun z => .inl (.inl z)) .inr), n⟩)
      · refine k (S.add p) ow' σ' H' _ stp (I'.less (fun b z => z.elim (fun z => .inl (.inl z)) .inr) rfl rfl fun p hp => List.mem_cons_of_mem _ hp) (.inr ⟨z, p, o, rfl, rfl, q1, fun z => q2 (.inl z), q3, q4.pres (Pres.less fun b z => z.elim (fun z => .inl (z.elim (fun z => .inl (.inl z)) .inr)) .inr)⟩)
end
section
variable {X : Cx} {pos : Pos}
theorem e_lcL {i : Nat} {x : Str} {px : Pos} {elt tg : Expr} {ifs : List Expr} {scope : Scope} {own : List (Str × Nat)} {g : GM} {is : List Nat} {t : TM} {m : EM} (hc : X.calm = true) (hN : X.N.Nodup) (hi : PE X (.Name x px) (tVar i)) (ok : BlkOk X.N X.env.scope scope own)
    (hg : ∀ (s : Shared) (H : Hp) (C : Addr) (cl : List (Str × Addr)) (fp : List Addr), PG (X.blk s H scope (compEnvC scope cl C X.env) fp) tg (EvG X.K is g)) (ht : ∀ (s : Shared) (H : Hp) (C : Addr) (cl : List (Str × Addr)) (fp : List Addr), PTs (X.blk s H scope (compEnvC scope cl C X.env) fp) ifs (EvT X.K t))
    (he : ∀ (s : Shared) (H : Hp) (C : Addr) (cl : List (Str × Addr)) (fp : List Addr), PE (X.blk s H scope (compEnvC scope cl C X.env) fp) elt (EvS X.K m)) (hsub : ∀ i ∈ is, i ∈ own.map (·.2) := by decide) (hs : ∀ v, foldedSetIterable (.Name x px) X.env v = pure v := by intro _; rfl) :
    PE X (.ListComp elt [⟨tg, .Name x px, ifs, 0⟩] scope pos) (EvF X.K (eLcL i (own.map (·.2)) g t m)) :=
  (pe_lc hc hN (pi_list hi) ok hg ht he hs).imp fun _ _ _ h => lcL_go hsub h
theorem s_forL {i : Nat} {x : Str} {px : Pos} {tg : Expr} {body : List Stmt} {g : GM} {is : List Nat} {m : SM} (hp : PassesOwn (model X.prog X.w) X.A X.env X.xe) (hc : X.calm = true) (hi : PE X (.Name x px) (tVar i)) (hg : PG X tg (EvG X.K is g)) (hb : PSs X body (EvSt X.K m))
    (hs : ∀ v, foldedSetIterable (.Name x px) X.env v = pure v := by intro _; rfl) : PS X (.For tg (.Name x px) body [] pos) (EvSt X.K (sForL i g m)) := (ps_for hp hc (pi_list hi) hg hb hs).imp fun _ _ _ h => forL_go h
end

/-! ### a, b = e1, e2 and a, b, c = e1, e2, e3 with plain local names -/
abbrev OE := Bool × EM
def slotOf (o : Bool) (d : D) : Slot := if o = true then mkOwn d else .shr d
section
variable {K : PySem.W.Frag} {S S' S1 : SS} {ow ow1 ow2 : List (Option Addr)} {σ : L2.St} {H Hs H1 H2 H' : Hp} {env : Env} {i j : Nat} {v : V} {d : D} {o : Bool}
theorem put_fr (f : FrR o K S S' Hs H' ow v d) (J : Sim K S' ow σ H' env) (hf : free env i = true) (h0 : ∀ p, Hs p = none → ¬ S.A p ∧ S.H0 p = none) :
    ∃ x : Option Addr, (∀ p, x = some p → Hs p = none) ∧ Sim K S (ow.set i x) (σ.set i (some v)) H' (env.set i (slotOf o d)) := by
  rcases f with ⟨rfl, r, n⟩ | ⟨rfl, p, ob, rfl, rfl, hp, ho, r⟩
  · have e : slotOf o d = .shr d := by
      unfold slotOf
      cases o with
      | true => unfold mkOwn; rw [n rfl]; rfl
      | false => rfl
    exact ⟨none, (fun _ z => nomatch z), (by rw [e]; exact J.put hf r)⟩
  · have e : slotOf true d = .own d := by unfold slotOf mkOwn; rw [r.mutD]; rfl
    exact ⟨some p, (fun q z => by cases z; exact hp), (by rw [e]; exact J.putOwn hf ho r (h0 p hp).1 (h0 p hp).2)⟩
theorem stp_set {x : Option Addr} (st : Stp ow H ow2 H2) (hx : ∀ p, x = some p → H p = none) : Stp ow H (ow2.set i x) H2 := by
  refine ⟨fun a u e n => ?_, st.tup, st.frz, st.dom⟩
  obtain ⟨q1, q2⟩ := st.cell a u e n
  refine ⟨q1, fun z => ?_⟩
  rcases List.mem_or_eq_of_mem_set z with z | z
  · exact q2 z
  · have := hx a z.symm
    rw [e] at this
    cases this
theorem FrR.step (f : FrR o K S S1 H H1 ow1 v d) (I1 : Sim K S1 ow1 σ H1 env) (st : Stp ow1 H1 ow2 H2) : FrR o K S S1 H H2 ow2 v d := by
  rcases f with ⟨rfl, r, n⟩ | ⟨rfl, p, ob, rfl, rfl, hp, ho, r⟩
  · exact .inl ⟨rfl, r.pres st.pres, n⟩
  · exact .inr ⟨rfl, p, ob, rfl, rfl, hp, (st.cell p _ ho fun z => I1.sep p z (.inr rfl)).1, r.pres st.pres⟩
theorem Sim.h0' (I : Sim K S ow σ H env) : ∀ p, H p = none → ¬ S.A p ∧ S.H0 p = none := fun p hp => ⟨fun z => I.mutne (.inl z) hp, I.h0none hp⟩
theorem free_set (h : free env i = true) (hij : i ≠ j) (s : Slot) : free (env.set j s) i = true := by
  unfold free
  rw [List.getElem?_set_ne (Ne.symm hij)]
  exact h
end
def sPar2 (i j : Nat) (x y : OE) : SM := fun env => (x.2 env).bind fun (d1, e1) => (y.2 e1).bind fun (d2, e2) => if (free e2 i && free e2 j && decide (i ≠ j)) = true then some (.nx, (e2.set j (slotOf y.1 d2)).set i (slotOf x.1 d1)) else none
def sPar3 (i j l : Nat) (x y z : OE) : SM := fun env => (x.2 env).bind fun (d1, e1) => (y.2 e1).bind fun (d2, e2) => (z.2 e2).bind fun (d3, e3) => if (free e3 i && free e3 j && free e3 l && decide (i ≠ j) && decide (i ≠ l) && decide (j ≠ l)) = true then some (.nx, ((e3.set l (slotOf z.1 d3)).set j (slotOf y.1 d2)).set i (slotOf x.1 d1)) else none
section
variable {X : Cx} {pos : Pos}
theorem par2_go {K : PySem.W.Frag} {i j : Nat} {x y : OE} {Dd : Ends} {σ : L2.St} {H : Hp} (h : EvSt K (sPar2 i j x y) Dd σ H) : tPar i j (tCons (Ev x.1 K x.2) (tCons (Ev y.1 K y.2) tNil)) Dd σ H := by
  obtain ⟨S, ow, env, I, f, envF, hm, k⟩ := h
  unfold sPar2 at hm
  simp only [Option.bind_eq_some_iff] at hm
  obtain ⟨⟨d1, e1⟩, h1, ⟨d2, e2⟩, h2, h3⟩ := hm
  split at h3
  rotate_left
  · cases h3
  rename_i hc
  simp only [Bool.and_eq_true, decide_eq_true_eq] at hc
  obtain ⟨⟨fi, fj⟩, hij⟩ := hc
  cases h3
  refine ⟨S, ow, env, I, d1, e1, h1, fun S1 ow1 v1 H1 st1 I1 f1 => ⟨S1, ow1, e1, I1, d2, e2, h2, fun S2 ow2 v2 H2 st2 I2 f2 => ⟨v1, v2, rfl, ?_⟩⟩⟩
  obtain ⟨x2, hx2, J2⟩ := put_fr f2 I2 fj I1.h0'
  have st2' := stp_set (i := j) st2 hx2
  obtain ⟨x1, hx1, J1⟩ := put_fr (f1.step I1 st2') J2 (free_set fi hij _) I.h0'
  rw [List.set_comm _ _ hij]
  exact k _ _ H2 (stp_set (st1.trans st2') hx1) J1
theorem s_par2 {i j : Nat} {x y : Str} {a b : Expr} {m n : OE} {px py pt : Pos} {kt k2 : Nat} {pt2 : Pos} (h : PS X (.Assign [.Tuple [.Name x px, .Name y py] kt pt] (.Tuple [a, b] k2 pt2) pos) (tPar i j (tCons (Ev m.1 X.K m.2) (tCons (Ev n.1 X.K n.2) tNil)))) :
    PS X (.Assign [.Tuple [.Name x px, .Name y py] kt pt] (.Tuple [a, b] k2 pt2) pos) (EvSt X.K (sPar2 i j m n)) := h.imp fun _ _ _ h => par2_go h
theorem par3_go {K : PySem.W.Frag} {i j l : Nat} {x y z : OE} {Dd : Ends} {σ : L2.St} {H : Hp} (h : EvSt K (sPar3 i j l x y z) Dd σ H) : tPar3 i j l (tCons (Ev x.1 K x.2) (tCons (Ev y.1 K y.2) (tCons (Ev z.1 K z.2) tNil))) Dd σ H := by
  obtain ⟨S, ow, env, I, f, envF, hm, k⟩ := h
  unfold sPar3 at hm
  simp only [Option.bind_eq_some_iff] at hm
  obtain ⟨⟨d1, e1⟩, h1, ⟨d2, e2⟩, h2, ⟨d3, e3⟩, h3, h4⟩ := hm
  split at h4
  rotate_left
  · cases h4
  rename_i hc
  simp only [Bool.and_eq_true, decide_eq_true_eq] at hc
  obtain ⟨⟨⟨⟨⟨fi, fj⟩, fl⟩, hij⟩, hil⟩, hjl⟩ := hc
  cases h4
  refine ⟨S, ow, env, I, d1, e1, h1, fun S1 ow1 v1 H1 st1 I1 f1 => ⟨S1, ow1, e1, I1, d2, e2, h2, fun S2 ow2 v2 H2 st2 I2 f2 => ⟨S2, ow2, e2, I2, d3, e3, h3, fun S3 ow3 v3 H3 st3 I3 f3 => ⟨v1, v2, v3, rfl, ?_⟩⟩⟩⟩
  obtain ⟨x3, hx3, J3⟩ := put_fr f3 I3 fl I2.h0'
  have st3' := stp_set (i := l) st3 hx3
  obtain ⟨x2, hx2, J2⟩ := put_fr (f2.step I2 st3') J3 (free_set fj hjl _) I1.h0'
  have st2' := stp_set (i := j) (st2.trans st3') hx2
  obtain ⟨x1, hx1, J1⟩ := put_fr (f1.step I1 st2') J2 (free_set (free_set fi hil _) hij _) I.h0'
  rw [List.set_comm _ _ hij, List.set_comm _ _ hil, List.set_comm _ _ hjl]
  exact k _ _ H3 (stp_set (st1.trans st2') hx1) J1
theorem s_par3 {i j l : Nat} {x y z : Str} {a b c : Expr} {m n o : OE} {px py pz pt : Pos} {kt k2 : Nat} {pt2 : Pos} (h : PS X (.Assign [.Tuple [.Name x px, .Name y py, .Name z pz] kt pt] (.Tuple [a, b, c] k2 pt2) pos) (tPar3 i j l (tCons (Ev m.1 X.K m.2) (tCons (Ev n.1 X.K n.2) (tCons (Ev o.1 X.K o.2) tNil))))) :
    PS X (.Assign [.Tuple [.Name x px, .Name y py, .Name z pz] kt pt] (.Tuple [a, b, c] k2 pt2) pos) (EvSt X.K (sPar3 i j l m n o)) := h.imp fun _ _ _ h => par3_go h
end

/-! ### lists that change -/
def ownL (env : Env) (i : Nat) : Option (List D) := match env[i]? with
  | some (.own (.lst ds)) => some ds
  | some (.iow (.lst ds)) => some ds
  | _ => none
/-- the slot goes on with another list -/
def putL (env : Env) (i : Nat) (ds : List D) : Env := match env[i]? with
  | some (.iow _) => env.set i (.iow (.lst ds))
  | _ => env.set i (.own (.lst ds))
section
variable {K : PySem.W.Frag} {S : SS} {ow : List (Option Addr)} {σ : L2.St} {H : Hp} {env : Env} {i : Nat} {d : D} {ds es : List D}
theorem Sim.ownL (I : Sim K S ow σ H env) (h : ownL env i = some ds) : ∃ a vs, σ[i]? = some (some (.ref a)) ∧ ow[i]? = some (some a) ∧ H a = some (.lst vs) ∧ RpL K H (Av S.A ow) vs ds := by
  unfold PL.ownL at h
  cases e : env[i]? with
  | none => rw [e] at h; cases h
  | some s =>
    rw [e] at h
    have q := I.slot i s e
    cases s with
    | no => cases h
    | lck => cases h
    | shr d => cases h
    | own d =>
      cases d <;> first | cases h | skip
      obtain ⟨a, o, e1, e2, e3, r⟩ := q
      cases r with
      | @lst vs _ rl => exact ⟨a, vs, e1, e2, e3, rl⟩
    | iow d =>
      cases d <;> first | cases h | skip
      obtain ⟨a, o, e1, e2, e3, r⟩ := q
      cases r with
      | @lst vs _ rl => exact ⟨a, vs, e1, e2, e3, rl⟩
theorem Sim.chg {a : Addr} {vs : List V} (I : Sim K S ow σ H env) (h : PL.ownL env i = some ds) (h1 : σ[i]? = some (some (.ref a))) (h2 : ow[i]? = some (some a)) (r : RpL K H (Av S.A ow) vs es) :
    Sim K S ow σ (upd H a (.lst vs)) (putL env i es) ∧ Stp ow H ow (upd H a (.lst vs)) := by
  obtain ⟨a', vs0, q1, q2, e3, _⟩ := I.ownL h
  rw [h1] at q1
  cases q1
  have hin : some a ∈ ow := List.mem_of_getElem? h2
  have hi : i < env.length := by rw [I.len]; exact (List.getElem?_eq_some_iff.mp h1).1
  have pr : Pres H (Av S.A ow) (upd H a (.lst vs)) (Av S.A ow) := ⟨fun b u e n => ⟨by rw [upd_ne fun z => n (.inr (by rw [z]; exact hin))]; exact e, n⟩,
    fun b xs e => by rw [upd_ne fun z => by rw [z, e3] at e; cases e]; exact e, fun b u w e => by rw [upd_ne fun z => by rw [z, e3] at e; cases e]; exact e⟩
  have hput : ∃ s0 s1, env[i]? = some s0 ∧ PL.putL env i es = env.set i s1 ∧ ((∃ d0, s0 = .iow d0 ∧ s1 = .iow (.lst es)) ∨ (∃ d0, s0 = .own d0 ∧ s1 = .own (.lst es))) := by
    unfold PL.ownL at h
    unfold PL.putL
    cases e : env[i]? with
    | none => rw [e] at h; cases h
    | some s =>
      rw [e] at h
      cases s with
      | own d0 => exact ⟨_, _, rfl, rfl, .inr ⟨d0, rfl, rfl⟩⟩
      | iow d0 => exact ⟨_, _, rfl, rfl, .inl ⟨d0, rfl, rfl⟩⟩
      | _ => cases h
  obtain ⟨s0, s1, hs0, hs1, hk⟩ := hput
  rw [hs1]
  refine ⟨⟨by simpa using I.len, I.lenO, fun j s e => ?_, I.inj, fun b hb => ?_, I.sep, fun b u e n => ?_, I.fresh, fun p hp => ?_, fun j d' e => ?_, fun p hp => ?_⟩, ⟨fun b u e n => ⟨by rw [upd_ne fun z => n (by rw [z]; exact hin)]; exact e, n⟩, pr.tup, pr.frz, fun b u e => ?_⟩⟩
  · by_cases hij : j = i
    · subst hij
      rw [List.getElem?_set_self hi] at e
      cases e
      rcases hk with ⟨d0, _, rfl⟩ | ⟨d0, _, rfl⟩
      · exact ⟨a, _, h1, h2, upd_same, .lst (r.pres pr)⟩
      · exact ⟨a, _, h1, h2, upd_same, .lst (r.pres pr)⟩
    · rw [List.getElem?_set_ne (Ne.symm hij)] at e
      exact (I.slot j s e).pres pr fun b eb => upd_ne fun z => hij (I.inj j i a (by rw [← z]; exact eb) h2)
  · by_cases hz : b = a
    · subst hz; exact ⟨_, upd_same, trivial⟩
    · obtain ⟨u, e, m⟩ := I.live b hb
      exact ⟨u, by rw [upd_ne hz]; exact e, m⟩
  · rw [upd_ne]
    · exact I.frame b u e n
    · intro z
      subst z
      rcases I.fresh b hin with z | ⟨j, hj⟩
      · rw [z] at e; cases e
      · exact n _ hj rfl
  · obtain ⟨q1, d', q2⟩ := I.io p hp
    by_cases hij : p.1 = i
    · rcases hk with ⟨d0, _, rfl⟩ | ⟨d0, rfl, rfl⟩
      · exact ⟨q1, _, by rw [hij, List.getElem?_set_self hi]⟩
      · rw [hij, hs0] at q2; cases q2
    · exact ⟨q1, d', by rw [List.getElem?_set_ne (Ne.symm hij)]; exact q2⟩
  · by_cases hij : j = i
    · subst hij
      rw [List.getElem?_set_self hi] at e
      rcases hk with ⟨d0, rfl, rfl⟩ | ⟨d0, rfl, rfl⟩
      · exact I.iow j _ hs0
      · cases e
    · rw [List.getElem?_set_ne (Ne.symm hij)] at e
      exact I.iow j d' e
  · obtain ⟨q1, q2⟩ := I.lk p hp
    have hne : i ≠ p.1 := fun z => by
      rw [← z, hs0] at q2
      rcases hk with ⟨d0, rfl, _⟩ | ⟨d0, rfl, _⟩ <;> cases q2
    exact ⟨q1, by rw [List.getElem?_set_ne hne]; exact q2⟩
  · by_cases hz : b = a
    · subst hz; exact ⟨_, upd_same⟩
    · exact ⟨u, by rw [upd_ne hz]; exact e⟩
end
/-- x.append(e) -/
def eApd (i : Nat) (m : EM) : EM := fun env => (ownL env i).bind fun _ => (m env).bind fun (d, e) => (ownL e i).bind fun ds => if ds.length < 16777216 then some (.non, putL e i (ds ++ [d])) else none
/-- x.pop(e), x.pop() -/
def ixNat (n : Nat) (i : Int) : Option Nat := if n ≤ 16777216 then ixN n i else none
def ePopAt (i : Nat) (m : EM) : EM := fun env => (ownL env i).bind fun _ => (m env).bind fun (d, e) => (asI d).bind fun k => (ownL e i).bind fun ds => (ixNat ds.length k).bind fun j => (ds[j]?).bind fun y => some (y, putL e i (ds.eraseIdx j))
def ePop (i : Nat) : EM := fun env => (ownL env i).bind fun ds => (ds[ds.length - 1]?).bind fun y => some (y, putL env i ds.dropLast)
/-- x.insert(i, e) -/
def eIns (i : Nat) (m n : EM) : EM := fun env => (ownL env i).bind fun _ => (m env).bind fun (d, e) => (asI d).bind fun k => (n e).bind fun (y, e') => (ownL e' i).bind fun ds => if 0 ≤ k ∧ k.natAbs < 2 ^ 62 ∧ ds.length < 16777216 then some (.non, putL e' i (ds.take k.toNat ++ [y] ++ ds.drop k.toNat)) else none
/-- x[i] = e -/
def gIx (i : Nat) (m : EM) : GM := fun d env => (ownL env i).bind fun _ => (m env).bind fun (k, e) => (asI k).bind fun k => (ownL e i).bind fun ds => (ixN ds.length k).bind fun j => some (putL e i (ds.set j d))
section
variable {X : Cx} {pos : Pos} {K : PySem.W.Frag}
theorem apd_go {i : Nat} {m : EM} {σ : L2.St} {H : Hp} {Q : VK} (h : EvF K (eApd i m) σ H Q) : tBM K "list" rAppend (tVar i) (tCons (EvS K m) tNil) σ H Q := by
  obtain ⟨S, ow, env, I, d0, envF, hm, k⟩ := h
  unfold eApd at hm
  simp only [Option.bind_eq_some_iff] at hm
  obtain ⟨ds0, h0, ⟨d, e⟩, h1, ds, h2, h3⟩ := hm
  split at h3
  rotate_left
  · cases h3
  rename_i hz
  cases h3
  obtain ⟨a, vs0, q1, q2, q3, q4⟩ := I.ownL h0
  refine ⟨_, q1, .inl ⟨rfl, _, .inl (.inl q3)⟩, S, ow, env, I, d, e, h1, fun S' ow1 v H1 st1 I1 f => ?_⟩
  obtain ⟨rfl, r⟩ := f.shared
  obtain ⟨a', vs, p1, p2, p3, p4⟩ := I1.ownL h2
  rw [q1] at p1
  cases p1
  obtain ⟨J, st⟩ := I1.chg h2 q1 p2 (p4.append (.cons r .nil))
  exact ⟨a, vs, v, rfl, rfl, p3, by rw [p4.length, sizeLine_eq]; exact hz, k _ _ _ _ (st1.trans st) J (.inl ⟨rfl, .non, fun _ => rfl⟩)⟩
theorem e_apd {i : Nat} {x : Str} {p apos : Pos} {e : Expr} {m : EM} (h : PE X (.Call (.Attribute (.Name x p) "append" apos) [e] [] pos) (tBM X.K "list" rAppend (tVar i) (tCons (EvS X.K m) tNil))) : PE X (.Call (.Attribute (.Name x p) "append" apos) [e] [] pos) (EvF X.K (eApd i m)) := h.imp fun _ _ _ h => apd_go h
theorem popAt_go {i : Nat} {m : EM} {σ : L2.St} {H : Hp} {Q : VK} (h : EvS K (ePopAt i m) σ H Q) : tBM K "list" rPopAt (tVar i) (tCons (EvS K m) tNil) σ H Q := by
  obtain ⟨S, ow, env, I, d0, envF, hm, k⟩ := h
  unfold ePopAt at hm
  simp only [Option.bind_eq_some_iff] at hm
  obtain ⟨ds0, h0, ⟨d, e⟩, h1, kk, hk, ds, h2, j, hj, y, hy, h3⟩ := hm
  cases h3
  have := asI_some hk
  subst this
  obtain ⟨a, vs0, q1, q2, q3, q4⟩ := I.ownL h0
  refine ⟨_, q1, .inl ⟨rfl, _, .inl (.inl q3)⟩, S, ow, env, I, _, e, h1, fun S' ow1 v H1 st1 I1 f => ?_⟩
  obtain ⟨rfl, r⟩ := f.shared
  obtain ⟨a', vs, p1, p2, p3, p4⟩ := I1.ownL h2
  rw [q1] at p1
  cases p1
  unfold ixNat at hj
  split at hj
  rotate_left
  · cases hj
  rename_i hb
  obtain ⟨hj, hj2, hj3, hj4⟩ := ixN_seq hj
  obtain ⟨J, st⟩ := I1.chg h2 q1 p2 (p4.eraseIdx j)
  obtain ⟨vy, ey, ry⟩ := p4.get hy
  refine ⟨a, vs, kk, j, vy, rfl, by rw [r.int_inv], p3, by omega, by omega, by rw [p4.length]; exact hj, ey, k _ ow1 vy _ (st1.trans st) J (.inl ⟨rfl, ?_, fun z => by cases z⟩)⟩
  exact ry.pres st.pres
theorem e_popAt {i : Nat} {x : Str} {p apos : Pos} {e : Expr} {m : EM} (h : PE X (.Call (.Attribute (.Name x p) "pop" apos) [e] [] pos) (tBM X.K "list" rPopAt (tVar i) (tCons (EvS X.K m) tNil))) : PE X (.Call (.Attribute (.Name x p) "pop" apos) [e] [] pos) (EvS X.K (ePopAt i m)) := h.imp fun _ _ _ h => popAt_go h
theorem pop_go {i : Nat} {σ : L2.St} {H : Hp} {Q : VK} (h : EvS K (ePop i) σ H Q) : tBM0 K "list" rPop (tVar i) σ H Q := by
  obtain ⟨S, ow, env, I, d0, envF, hm, k⟩ := h
  unfold ePop at hm
  simp only [Option.bind_eq_some_iff] at hm
  obtain ⟨ds, h2, y, hy, h3⟩ := hm
  cases h3
  obtain ⟨a, vs, q1, p2, p3, p4⟩ := I.ownL h2
  obtain ⟨J, st⟩ := I.chg h2 q1 p2 p4.dropLast
  obtain ⟨vy, ey, ry⟩ := p4.get hy
  exact ⟨_, q1, .inl ⟨rfl, _, .inl (.inl p3)⟩, a, vs, vy, rfl, rfl, p3, by rw [p4.length]; exact ey, k _ ow vy _ st J (.inl ⟨rfl, ry.pres st.pres, fun z => by cases z⟩)⟩
theorem e_pop {i : Nat} {x : Str} {p apos : Pos} (h : PE X (.Call (.Attribute (.Name x p) "pop" apos) [] [] pos) (tBM0 X.K "list" rPop (tVar i))) : PE X (.Call (.Attribute (.Name x p) "pop" apos) [] [] pos) (EvS X.K (ePop i)) := h.imp fun _ _ _ h => pop_go h
def rInsert : V → List V → Hp → VK → Prop := fun x vs H Q => ∃ (l : Addr) (xs : List V) (i : Int) (y : V), x = .ref l ∧ vs = [.int i, y] ∧ H l = some (.lst xs) ∧ xs.length < sizeLine ∧ 0 ≤ i ∧ i < 2 ^ 63 ∧ Q .non (upd H l (.lst (xs.take i.toNat ++ [y] ++ xs.drop i.toNat)))
theorem ins_go {i : Nat} {m n : EM} {σ : L2.St} {H : Hp} {Q : VK} (h : EvF K (eIns i m n) σ H Q) : tBM K "list" rInsert (tVar i) (tCons (EvS K m) (tCons (EvS K n) tNil)) σ H Q := by
  obtain ⟨S, ow, env, I, d0, envF, hm, k⟩ := h
  unfold eIns at hm
  simp only [Option.bind_eq_some_iff] at hm
  obtain ⟨ds0, h0, ⟨d, e⟩, h1, kk, hk, ⟨y, e'⟩, hn, ds, h2, h3⟩ := hm
  split at h3
  rotate_left
  · cases h3
  rename_i hb
  cases h3
  have := asI_some hk
  subst this
  obtain ⟨a, vs0, q1, q2, q3, q4⟩ := I.ownL h0
  refine ⟨_, q1, .inl ⟨rfl, _, .inl (.inl q3)⟩, S, ow, env, I, _, e, h1, fun S' ow1 v H1 st1 I1 f => ?_⟩
  obtain ⟨rfl, r⟩ := f.shared
  refine ⟨_, ow1, e, I1, y, e', hn, fun S' ow2 vy H2 st2 I2 f2 => ?_⟩
  obtain ⟨rfl, r2⟩ := f2.shared
  obtain ⟨a', vs, p1, p2, p3, p4⟩ := I2.ownL h2
  rw [q1] at p1
  cases p1
  obtain ⟨J, st⟩ := I2.chg h2 q1 p2 (((p4.take kk.toNat).append (.cons r2 .nil)).append (p4.drop kk.toNat))
  exact ⟨a, vs, kk, vy, rfl, by rw [r.int_inv], p3, by rw [p4.length, sizeLine_eq]; exact hb.2.2, hb.1, by omega, k _ ow2 _ _ ((st1.trans st2).trans st) J (.inl ⟨rfl, .non, fun _ => rfl⟩)⟩
theorem e_ins {i : Nat} {x : Str} {p apos : Pos} {e e2 : Expr} {m n : EM} (h : PE X (.Call (.Attribute (.Name x p) "insert" apos) [e, e2] [] pos) (tBM X.K "list" rInsert (tVar i) (tCons (EvS X.K m) (tCons (EvS X.K n) tNil)))) : PE X (.Call (.Attribute (.Name x p) "insert" apos) [e, e2] [] pos) (EvF X.K (eIns i m n)) := h.imp fun _ _ _ h => ins_go h
theorem gix_go {i : Nat} {m : EM} {v : V} {σ : L2.St} {H : Hp} {Q : L2.St → Hp → Prop} (h : EvG K [] (gIx i m) v σ H Q) : gSub (tVar i) (EvS K m) rSetL v σ H Q := by
  obtain ⟨S, ow, env, I, d, r, envF, hm, k⟩ := h
  unfold gIx at hm
  simp only [Option.bind_eq_some_iff] at hm
  obtain ⟨ds0, h0, ⟨kd, e⟩, h1, kk, hk, ds, h2, j, hj, h3⟩ := hm
  cases h3
  have := asI_some hk
  subst this
  obtain ⟨a, vs0, q1, q2, q3, q4⟩ := I.ownL h0
  refine ⟨_, q1, S, ow, env, I, _, e, h1, fun S' ow1 w H1 st1 I1 f => ?_⟩
  obtain ⟨rfl, r2⟩ := f.shared
  obtain ⟨a', vs, p1, p2, p3, p4⟩ := I1.ownL h2
  rw [q1] at p1
  cases p1
  obtain ⟨J, st⟩ := I1.chg h2 q1 p2 (RpL.set (r.pres st1.pres) j p4)
  exact ⟨a, vs, kk, j, rfl, r2.int_inv, p3, by rw [p4.length]; exact hj, k ow1 σ _ (st1.trans st) J .refl⟩
theorem g_ix {i : Nat} {x : Str} {p : Pos} {e : Expr} {m : EM} (h : PG X (.Subscript (.Name x p) e pos) (gSub (tVar i) (EvS X.K m) rSetL)) : PG X (.Subscript (.Name x p) e pos) (EvG X.K [] (gIx i m)) := h.imp fun _ _ _ _ h => gix_go h
end
end PL
end

section
set_option maxRecDepth 100000
set_option maxHeartbeats 3900000
/-! PL5: a def's promise over plain data; its body; its calls. -/
namespace PL
open PySem Spec PyProof.Rows L2

/-- a def as a function: the value, and for each parameter that it changes (io) what it holds behind -/
abbrev Fn := List D → Option (D × List D)
structure Sg where
  io : List Bool
  fr : Bool

/-- the addresses of the changed parameters -/
def owOf : List Bool → List V → List (Option Addr)
  | [], _ => []
  | _, [] => []
  | true :: bs, .ref a :: vs => some a :: owOf bs vs
  | _ :: bs, _ :: vs => none :: owOf bs vs
def IoA (bs : List Bool) (vs : List V) (a : Addr) : Prop := some a ∈ owOf bs vs
/-- no address twice -/
def NdO (l : List (Option Addr)) : Prop := ∀ (i j : Nat) a, l[i]? = some (some a) → l[j]? = some (some a) → i = j
inductive CArgs (K : PySem.W.Frag) (H : Hp) (P : Addr → Prop) : List Bool → List V → List D → Prop
  | nil : CArgs K H P [] [] []
  | val {v : V} {d : D} {bs : List Bool} {vs : List V} {ds : List D} : Rp K H P v d → CArgs K H P bs vs ds → CArgs K H P (false :: bs) (v :: vs) (d :: ds)
  | io {a : Addr} {o : HO} {d : D} {bs : List Bool} {vs : List V} {ds : List D} : H a = some o → RpC K H P o d → CArgs K H P bs vs ds → CArgs K H P (true :: bs) (.ref a :: vs) (d :: ds)
/-- what the changed parameters hold behind -/
inductive Outs (K : PySem.W.Frag) (H : Hp) (P : Addr → Prop) : List (Option Addr) → List D → Prop
  | nil : Outs K H P [] []
  | no {d : D} {l : List (Option Addr)} {ds : List D} : Outs K H P l ds → Outs K H P (none :: l) (d :: ds)
  | io {a : Addr} {o : HO} {d : D} {l : List (Option Addr)} {ds : List D} : H a = some o → RpC K H P o d → Outs K H P l ds → Outs K H P (some a :: l) (d :: ds)
def Pio (A : Addr → Prop) (l : List (Option Addr)) : Addr → Prop := fun a => A a ∨ some a ∈ l
structure FnPost (K : PySem.W.Frag) (fr : Bool) (A : Addr → Prop) (l : List (Option Addr)) (H H' : Hp) (v : V) (d : D) (os : List D) : Prop where
  frame : ∀ a o, H a = some o → some a ∉ l → H' a = some o
  ret : (Rp K H' (Pio A l) v d ∧ (fr = true → isMutD d = false) ∧ Outs K H' (Pio A l) l os) ∨
    (fr = true ∧ ∃ p o, v = .ref p ∧ H p = none ∧ H' p = some o ∧ RpC K H' (fun a => Pio A l a ∨ a = p) o d ∧ Outs K H' (fun a => Pio A l a ∨ a = p) l os)
def spP (K : PySem.W.Frag) (sg : Sg) (m : Fn) : Sp := fun vs H Q _ => ∃ (A : Addr → Prop) (ds : List D) (r : D × List D), m ds = some r ∧ CArgs K H (Pio A (owOf sg.io vs)) sg.io vs ds ∧ NdO (owOf sg.io vs) ∧
  (∀ a, some a ∈ owOf sg.io vs → ¬ A a) ∧ (∀ a, A a → ∃ o, H a = some o ∧ Mu o) ∧ ∀ v H', FnPost K sg.fr A (owOf sg.io vs) H H' v r.1 r.2 → Q v H'

section
variable {K : PySem.W.Frag} {H H' : Hp} {P P' : Addr → Prop}
theorem CArgs.len : ∀ {bs : List Bool} {vs : List V} {ds : List D}, CArgs K H P bs vs ds → vs.length = bs.length ∧ ds.length = bs.length
  | _, _, _, .nil => ⟨rfl, rfl⟩
  | _, _, _, .val _ t => ⟨by simp [t.len.1], by simp [t.len.2]⟩
  | _, _, _, .io _ _ t => ⟨by simp [t.len.1], by simp [t.len.2]⟩
theorem CArgs.owLen : ∀ {bs : List Bool} {vs : List V} {ds : List D}, CArgs K H P bs vs ds → (owOf bs vs).length = vs.length
  | _, _, _, .nil => rfl
  | _, _, _, .val (v := v) _ t => by cases v <;> simp [owOf, t.owLen]
  | _, _, _, .io _ _ t => by simp [owOf, t.owLen]
def envOf : List Bool → List D → Env
  | [], _ => []
  | _, [] => []
  | b :: bs, d :: ds => (if b = true then .iow d else .shr d) :: envOf bs ds
theorem CArgs.slot : ∀ {bs : List Bool} {vs : List V} {ds : List D} (i : Nat) {s : Slot}, CArgs K H P bs vs ds → (envOf bs ds)[i]? = some s → SlotOk K H P ((vs.map some)[i]?) ((owOf bs vs)[i]?) s
  | _, _, _, _, _, .nil, e => by simp [envOf] at e
  | _, _, _, 0, s, .val (v := v) r t, e => by
    simp [envOf] at e
    subst e
    exact ⟨v, by simp, r⟩
  | _, _, _, 0, s, .io (a := a) (o := o) e0 r t, e => by
    simp [envOf] at e
    subst e
    exact ⟨a, o, by simp, by simp [owOf], e0, r⟩
  | _, _, _, i + 1, s, .val (v := v) r t, e => by
    have q := CArgs.slot i t (by simpa [envOf] using e)
    cases v <;> simpa [owOf] using q
  | _, _, _, i + 1, s, .io (a := a) e0 r t, e => by
    have q := CArgs.slot i t (by simpa [envOf] using e)
    simpa [owOf] using q
theorem CArgs.live : ∀ {bs : List Bool} {vs : List V} {ds : List D} {a : Addr}, CArgs K H P bs vs ds → some a ∈ owOf bs vs → ∃ o, H a = some o ∧ Mu o
  | _, _, _, _, .nil, h => by simp [owOf] at h
  | _, _, _, a, .val (v := v) (bs := bs) (vs := vs) r t, h => by
    have : some a ∈ owOf bs vs := by cases v <;> simpa [owOf] using h
    exact t.live this
  | _, _, _, a, .io (a := a0) (o := o) (bs := bs) (vs := vs) e0 r t, h => by
    have h' : a = a0 ∨ some a ∈ owOf bs vs := by simpa [owOf] using h
    rcases h' with rfl | h'
    · exact ⟨o, e0, r.mu⟩
    · exact t.live h'
theorem CArgs.iow : ∀ {bs : List Bool} {vs : List V} {ds : List D} (i : Nat), CArgs K H P bs vs ds → (∀ a, (owOf bs vs)[i]? = some (some a) → ∃ d, (envOf bs ds)[i]? = some (.iow d)) ∧ (∀ d, (envOf bs ds)[i]? = some (.iow d) → ∃ a, (owOf bs vs)[i]? = some (some a))
  | _, _, _, i, .nil => ⟨fun a h => by simp [owOf] at h, fun d h => by simp [envOf] at h⟩
  | _, _, _, 0, .val (v := v) r t => ⟨fun a h => by cases v <;> simp [owOf] at h, fun d h => by simp [envOf] at h⟩
  | _, _, _, 0, .io (a := a0) (d := d0) e0 r t => ⟨fun a h => ⟨d0, by simp [envOf]⟩, fun d h => ⟨a0, by simp [owOf]⟩⟩
  | _, _, _, i + 1, .val (v := v) r t => by
    obtain ⟨q1, q2⟩ := CArgs.iow i t
    refine ⟨fun a h => ?_, fun d h => ?_⟩
    · have := q1 a (by cases v <;> simpa [owOf] using h)
      simpa [envOf] using this
    · have := q2 d (by simpa [envOf] using h)
      cases v <;> simpa [owOf] using this
  | _, _, _, i + 1, .io (a := a0) e0 r t => by
    obtain ⟨q1, q2⟩ := CArgs.iow i t
    refine ⟨fun a h => ?_, fun d h => ?_⟩
    · have := q1 a (by simpa [owOf] using h)
      simpa [envOf] using this
    · have := q2 d (by simpa [envOf] using h)
      simpa [owOf] using this
end
/-- places and addresses of the changed parameters -/
def ioS (l : List (Option Addr)) : List (Nat × Addr) := (List.range l.length).filterMap fun i => match l[i]? with
  | some (some a) => some (i, a)
  | _ => none
theorem mem_ioS {l : List (Option Addr)} {p : Nat × Addr} : p ∈ ioS l ↔ l[p.1]? = some (some p.2) := by
  unfold ioS
  rw [List.mem_filterMap]
  constructor
  · rintro ⟨i, hi, h⟩
    split at h
    · rename_i a e
      cases h
      exact e
    · cases h
  · intro h
    refine ⟨p.1, List.mem_range.mpr (List.getElem?_eq_some_iff.mp h).1, ?_⟩
    rw [h]
def outsOf : List Bool → Env → Option (List D)
  | [], _ => some []
  | _ :: _, [] => none
  | b :: bs, s :: e => (if b = true then (match s with | .iow d => some d | _ => none) else some .non).bind fun d => (outsOf bs e).map fun r => d :: r
def retOf (fr : Bool) : Fl → Option D
  | .nx => some .non
  | .rt fr' d => if fr = true ∧ fr' = false then none else some d
  | _ => none
/-- a def's function by its body -/
def runFn (sg : Sg) (n : Nat) (body : SM) : Fn := fun ds => if ds.length = sg.io.length then (body (envOf sg.io ds ++ List.replicate (n - ds.length) .no)).bind fun (f, e) => (retOf sg.fr f).bind fun d => (outsOf sg.io e).map fun os => (d, os) else none
theorem envOf_len : ∀ {bs : List Bool} {ds : List D}, ds.length = bs.length → (envOf bs ds).length = bs.length
  | [], [], _ => rfl
  | b :: bs, d :: ds, h => by simp [envOf, envOf_len (by simpa using h : ds.length = bs.length)]
section
variable {K : PySem.W.Frag} {S S' : SS} {H H' : Hp} {ow : List (Option Addr)} {σ : L2.St} {env : Env}
theorem outs_ok : ∀ {bs : List Bool} {l : List (Option Addr)} {k : Nat} {env0 : Env} {os : List D}, l.length = bs.length → (∀ i a, l[i]? = some (some a) → bs[i]? = some true ∧ ow[k + i]? = some (some a)) → (∀ (i : Nat), bs[i]? = some true → ∃ a, l[i]? = some (some a)) → (∀ i, env0[i]? = env[k + i]?) → Sim K S ow σ H env → outsOf bs env0 = some os → Outs K H (Av S.A ow) l os
  | [], [], k, env0, os, hl, h1, h2, he, I, h => by cases h; exact .nil
  | b :: bs, x :: l, k, [], os, hl, h1, h2, he, I, h => by cases h
  | b :: bs, x :: l, k, s :: e, os, hl, h1, h2, he, I, h => by
    unfold outsOf at h
    simp only [Option.bind_eq_some_iff, Option.map_eq_some_iff] at h
    obtain ⟨d, hd, r, hr, e1⟩ := h
    subst e1
    have ih := outs_ok (bs := bs) (l := l) (k := k + 1) (env0 := e) (os := r) (by simpa using hl) (fun i a q => by
      have := h1 (i + 1) a (by simpa using q)
      refine ⟨by simpa using this.1, ?_⟩
      have h3 := this.2
      rw [show k + 1 + i = k + (i + 1) by omega]
      exact h3) (fun i q => by
      have := h2 (i + 1) (by simpa using q)
      simpa using this) (fun i => by
      have := he (i + 1)
      rw [show k + 1 + i = k + (i + 1) by omega, ← this]
      simp) I hr
    cases x with
    | none => exact .no ih
    | some a =>
      obtain ⟨hb, ho⟩ := h1 0 a (by simp)
      have hb' : b = true := by simpa using hb
      subst hb'
      simp only [if_true] at hd
      have hs : env[k]? = some s := by have := he 0; simpa using this.symm
      cases s with
      | iow d' =>
        cases hd
        obtain ⟨a', o, e1, e2, e3, rc⟩ := I.slot k _ hs
        rw [show k + 0 = k by omega] at ho
        rw [ho] at e2
        cases e2
        exact .io e3 rc ih
      | _ => cases hd
end
/-- A DEF KEEPS ITS PROMISE -/
theorem fn_mk {P : Program} {w : World} {K : PySem.W.Frag} {mg : Str → Option Value} {base : Heap} {x qual : Str} {st : Stmt} {f : Addr} {fd : FuncData} {N ps : List Str} {k : Nat} {sg : Sg} {body : SM}
    (F : Fun K x qual st f fd) (Sc : FnScope N ps (defScope st)) (hps : ps.length = sg.io.length)
    (hb : ∀ (cdv : Value) (A : Around) (outer : List PySem.Env) (s : Shared) (H : Hp) (E : XK), Room k (A.deeper (envOfC qual (defScope st) s.heap.objs.size f cdv)) →
      PSs (cxOf CX0 P w K mg base N qual (defScope st) f cdv A outer s H E).nox (defBody st) (EvSt K body)) :
    FnOk P w K mg base CX0 (k + 1) f fd ps (spP K sg (runFn sg N.length body)) := by
  refine F.ok Sc (fun vs H Q E h => ?_) (fun cdv A outer s H vs Q E hr h => ⟨_, hb cdv A outer s H E hr, ?_⟩)
  · obtain ⟨A, ds, r, hm, ca, _⟩ := h
    rw [ca.len.1, hps]
  · obtain ⟨Av0, ds, ⟨d, os⟩, hm, ca, nd, dis, live, q⟩ := h
    unfold runFn at hm
    split at hm
    rotate_left
    · cases hm
    rename_i hlen
    simp only [Option.bind_eq_some_iff, Option.map_eq_some_iff] at hm
    obtain ⟨⟨fl, e⟩, hbody, d', hret, os', houts, heq⟩ := hm
    cases heq
    have hvl : vs.length = ps.length := by rw [ca.len.1, hps]
    have hpl : ps.length ≤ N.length := by have := congrArg List.length Sc.pre; rw [List.length_take] at this; omega
    have hol := ca.owLen
    have hel := envOf_len ca.len.2
    have hNl : vs.length ≤ N.length := by rw [hvl]; exact hpl
    let l := owOf sg.io vs
    let S : SS := { A := Av0, H0 := H, io := ioS l, lk := [] }
    let ow0 : List (Option Addr) := l ++ List.replicate (N.length - vs.length) none
    have hl : l.length = vs.length := hol
    have mem0 : ∀ {a : Addr}, some a ∈ ow0 ↔ some a ∈ l := fun {a} => by
      show some a ∈ l ++ _ ↔ _
      rw [List.mem_append]
      refine ⟨fun z => z.elim id fun z => ?_, .inl⟩
      have := (List.mem_replicate.mp z).2
      cases this
    have get0 : ∀ {i : Nat} {a : Addr}, ow0[i]? = some (some a) ↔ l[i]? = some (some a) := fun {i a} => by
      show (l ++ _)[i]? = _ ↔ _
      by_cases hi : i < l.length
      · rw [List.getElem?_append_left hi]
      · rw [List.getElem?_append_right (by omega), List.getElem?_replicate, List.getElem?_eq_none (l := l) (by omega)]
        constructor
        · intro z; split at z <;> cases z
        · intro z; cases z
    have hP : ∀ a, Av S.A ow0 a ↔ Pio Av0 l a := fun a => by
      show (Av0 a ∨ some a ∈ ow0) ↔ (Av0 a ∨ some a ∈ l)
      rw [mem0]
    have I0 : Sim K S ow0 (L2.start N vs) H (envOf sg.io ds ++ List.replicate (N.length - ds.length) .no) := by
      refine ⟨?_, ?_, fun i s e => ?_, fun i j a h1 h2 => nd i j a (get0.mp h1) (get0.mp h2), fun a ha => ?_, fun a ha => dis a (mem0.mp ha), fun a o e _ => e, fun a ha => ?_, fun p hp => ?_, fun i d e => ?_, fun p hp => by cases hp⟩
      · unfold L2.start; simp only [List.length_append, List.length_map, List.length_replicate, hel, ca.len.1, ca.len.2]
      · show (l ++ _).length = _
        unfold L2.start; simp only [List.length_append, List.length_map, List.length_replicate, hl]
      · by_cases hi : i < vs.length
        · have hi2 : i < (envOf sg.io ds).length := by rw [hel, ← ca.len.1]; exact hi
          rw [List.getElem?_append_left hi2] at e
          have q := ca.slot i e
          have e1 : (L2.start N vs)[i]? = (vs.map some)[i]? := by unfold L2.start; rw [List.getElem?_append_left (by simpa using hi)]
          have e2 : ow0[i]? = (owOf sg.io vs)[i]? := by show (l ++ _)[i]? = _; rw [List.getElem?_append_left (by rw [hl]; exact hi)]
          rw [e1, e2]
          exact q.pres (Pres.less fun a z => (hP a).mp z) fun _ _ => rfl
        · have hi2 : ¬ i < (envOf sg.io ds).length := by rw [hel, ← ca.len.1]; exact hi
          rw [List.getElem?_append_right (by omega), List.getElem?_replicate] at e
          split at e
          · cases e; trivial
          · cases e
      · rcases (hP a).mp ha with z | z
        · exact live a z
        · exact ca.live z
      · right
        obtain ⟨i, hi⟩ := List.getElem?_of_mem (mem0.mp ha)
        exact ⟨i, mem_ioS.mpr hi⟩
      · have hp' := mem_ioS.mp hp
        obtain ⟨d, hd⟩ := (ca.iow p.1).1 p.2 hp'
        refine ⟨get0.mpr hp', d, ?_⟩
        rw [List.getElem?_append_left (List.getElem?_eq_some_iff.mp hd).1]
        exact hd
      · by_cases hi : i < (envOf sg.io ds).length
        · rw [List.getElem?_append_left hi] at e
          obtain ⟨a, ha⟩ := (ca.iow i).2 d e
          exact ⟨a, mem_ioS.mpr ha⟩
        · rw [List.getElem?_append_right (by omega), List.getElem?_replicate] at e
          split at e <;> cases e
    -- the ends
    have fin : ∀ {S' : SS} {ow' : List (Option Addr)} {σ' : L2.St} {H' : Hp}, S'.io = S.io → S'.H0 = S.H0 → Sim K S' ow' σ' H' e → (∀ a o, H a = some o → some a ∉ l → H' a = some o) ∧ Outs K H' (Av S'.A ow') l os := fun {S' ow' σ' H'} hio h0 J => by
      refine ⟨fun a o ea n => J.frame a o (by rw [h0]; exact ea) fun p hp z => n ?_, ?_⟩
      · rw [hio] at hp
        have := mem_ioS.mp hp
        rw [← z]
        exact List.mem_of_getElem? this
      · refine outs_ok (k := 0) (env0 := e) (by rw [hl, ca.len.1]) (fun i a q => ?_) (fun i q => ?_) (fun i => by rw [Nat.zero_add]) J houts
        · have hm : (i, a) ∈ S'.io := by rw [hio]; exact mem_ioS.mpr q
          refine ⟨?_, by rw [Nat.zero_add]; exact (J.io _ hm).1⟩
          have hlen2 : i < sg.io.length := by have := (List.getElem?_eq_some_iff.mp q).1; rw [hl, ca.len.1] at this; exact this
          obtain ⟨d, hd⟩ := (ca.iow i).1 a q
          cases hb : sg.io[i]? with
          | none => rw [List.getElem?_eq_none_iff] at hb; omega
          | some b =>
            cases b with
            | true => rfl
            | false =>
              exfalso
              have key : ∀ {bs : List Bool} {ds : List D} {i : Nat} {d : D}, bs[i]? = some false → (envOf bs ds)[i]? ≠ some (.iow d) := by
                intro bs
                induction bs with
                | nil => intro ds i d h; simp at h
                | cons b bs ih =>
                  intro ds i d h
                  cases ds with
                  | nil => simp [envOf]
                  | cons x ds =>
                    cases i with
                    | zero => simp at h; subst h; simp [envOf]
                    | succ i => simp [envOf]; exact ih (by simpa using h)
              exact key hb hd
        · have hlen2 : i < sg.io.length := (List.getElem?_eq_some_iff.mp q).1
          have key : ∀ {bs : List Bool} {ds : List D} {i : Nat}, bs.length = ds.length → bs[i]? = some true → ∃ d, (envOf bs ds)[i]? = some (.iow d) := by
            intro bs
            induction bs with
            | nil => intro ds i _ h; simp at h
            | cons b bs ih =>
              intro ds i hl h
              cases ds with
              | nil => simp at hl
              | cons x ds =>
                cases i with
                | zero => simp at h; subst h; exact ⟨x, by simp [envOf]⟩
                | succ i =>
                  obtain ⟨d, hd⟩ := ih (ds := ds) (by simpa using hl) (by simpa using h)
                  exact ⟨d, by simpa [envOf] using hd⟩
          obtain ⟨d, hd⟩ := key (ds := ds) ca.len.2.symm q
          exact (ca.iow i).2 d hd
    have toP : ∀ {S' : SS} {ow' : List (Option Addr)} {σ' : L2.St} {H' : Hp}, S'.io = S.io → Sim K S' ow' σ' H' e → (∀ a, S.A a → S'.A a) → ∀ a, Pio Av0 l a → Av S'.A ow' a := fun {S' ow' σ' H'} hio J hA a z => by
      rcases z with z | z
      · exact .inl (hA a z)
      · obtain ⟨i, hi⟩ := List.getElem?_of_mem z
        have hm : (i, a) ∈ S'.io := by rw [hio]; exact mem_ioS.mpr hi
        exact .inr (List.mem_of_getElem? (J.io _ hm).1)
    have outsLess : ∀ {H' : Hp} {P P' : Addr → Prop}, (∀ a, P' a → P a) → ∀ {l : List (Option Addr)} {os : List D}, Outs K H' P l os → Outs K H' P' l os := by
      intro H' P P' hPP l os ho
      induction ho with
      | nil => exact .nil
      | no _ ih => exact .no ih
      | io e r _ ih => exact .io e (r.pres (Pres.less hPP)) ih
    refine ⟨S, ow0, _, I0, fl, e, ?_, ?_⟩
    · rw [← hlen] at *
      exact hbody
    · cases fl with
      | nx =>
        intro ow' σ' H' st' J
        cases hret
        obtain ⟨fr, ou⟩ := fin rfl rfl J
        exact q _ H' ⟨fr, .inl ⟨.non, fun _ => rfl, outsLess (toP rfl J fun _ z => z) ou⟩⟩
      | bk => cases hret
      | ct => cases hret
      | rt fr' d2 =>
        intro S' ow' σ' H' v st' J rr
        have hret : (if sg.fr = true ∧ fr' = false then none else some d2) = some d := hret
        split at hret
        · cases hret
        rename_i hfr
        cases hret
        rcases rr with ⟨rfl, r, n⟩ | ⟨hf, p, o, rfl, rfl, h0p, hAp, ep, rc⟩
        · obtain ⟨fr, ou⟩ := fin rfl rfl J
          refine q _ H' ⟨fr, .inl ⟨r.pres (Pres.less (toP rfl J fun _ z => z)), fun z => ?_, outsLess (toP rfl J fun _ z => z) ou⟩⟩
          refine n ?_
          cases fr' with
          | true => rfl
          | false => exact absurd ⟨z, rfl⟩ hfr
        · obtain ⟨fr, ou⟩ := fin (S' := S.add p) rfl rfl J
          have toB : ∀ a, (Pio Av0 l a ∨ a = p) → Av (S.add p).A ow' a := fun a z => z.elim (toP (S' := S.add p) rfl J (fun _ z => .inl z) a) fun z => .inl (.inr z)
          by_cases hsg : sg.fr = true
          · exact q _ H' ⟨fr, .inr ⟨hsg, p, o, rfl, h0p, ep, rc.pres (Pres.less toB), outsLess toB ou⟩⟩
          · refine q _ H' ⟨fr, .inl ⟨.cell ep (fun z => ?_) (rc.pres (Pres.less fun a z => toB a (.inl z))), fun z => absurd z hsg, outsLess (fun a z => toB a (.inl z)) ou⟩⟩
            rcases z with z | z
            · exact hAp z
            · have := toP (S' := S.add p) rfl J (fun _ z => .inl z) p (.inr z)
              obtain ⟨i, hi⟩ := List.getElem?_of_mem z
              have hm : (i, p) ∈ (S.add p).io := mem_ioS.mpr hi
              exact J.sep p (List.mem_of_getElem? (J.io _ hm).1) (.inr rfl)
end PL
end

section
set_option maxRecDepth 100000
set_option maxHeartbeats 3900000
/-! PL6: calls of defs over plain data. -/
namespace PL
open PySem Spec PyProof.Rows L2

mutual
/-- no list, no dict, nothing that is not told within -/
def noLst : D → Bool
  | .tup ds => noLsts ds
  | .lst _ => false
  | .dct _ => false
  | .opq _ => false
  | _ => true
def noLsts : List D → Bool
  | [] => true
  | d :: ds => noLst d && noLsts ds
end
mutual
theorem Rp.any {K : PySem.W.Frag} {H : Hp} {P P' : Addr → Prop} : ∀ {d : D} {v : V}, noLst d = true → Rp K H P v d → Rp K H P' v d
  | .non, v, _, r => by
    cases r with
    | non => exact .non
    | cell _ _ rc => cases rc
    | frz _ rc => cases rc
  | .bl b, v, _, r => by rw [r.bl_inv]; exact .bl b
  | .int i, v, _, r => by rw [r.int_inv]; exact .int i
  | .str s, v, _, r => by
    cases r with
    | str x => exact .str x
    | cell _ _ rc => cases rc
    | frz _ rc => cases rc
  | .tup ds, v, h, r => by
    cases r with
    | tup hs rl => exact .tup hs (RpL.any (by simpa [noLst] using h) rl)
    | cell _ _ rc => cases rc
    | frz _ rc => cases rc
  | .lst _, _, h, _ => by simp [noLst] at h
  | .dct _, _, h, _ => by simp [noLst] at h
  | .opq _, _, h, _ => by simp [noLst] at h
theorem RpL.any {K : PySem.W.Frag} {H : Hp} {P P' : Addr → Prop} : ∀ {ds : List D} {vs : List V}, noLsts ds = true → RpL K H P vs ds → RpL K H P' vs ds
  | [], _, _, .nil => .nil
  | d :: ds, _, h, .cons a b => by
    have h' : noLst d = true ∧ noLsts ds = true := by simpa [noLsts] using h
    exact .cons (Rp.any h'.1 a) (RpL.any h'.2 b)
end
/-- the pure defs -/
abbrev PFn := List D → Option D
def pureFn (f : PFn) : Fn := fun ds => (f ds).map fun d => (d, ds.map fun _ => .non)
def runP (fr : Bool) (k n : Nat) (body : SM) : PFn := fun ds => (runFn ⟨List.replicate k false, fr⟩ n body ds).map (·.1)
theorem outsOf_false : ∀ (k : Nat) (e : Env), outsOf (List.replicate k false) e = none ∨ outsOf (List.replicate k false) e = some (List.replicate k .non)
  | 0, _ => .inr rfl
  | k + 1, [] => .inl rfl
  | k + 1, s :: e => by
    rcases outsOf_false k e with h | h
    · left; simp [List.replicate_succ, outsOf, h]
    · right; simp [List.replicate_succ, outsOf, h]
theorem runP_run {fr : Bool} {k n : Nat} {body : SM} {ds : List D} {d : D} (h : runP fr k n body ds = some d) : runFn ⟨List.replicate k false, fr⟩ n body ds = some (d, ds.map fun _ => .non) := by
  unfold runP at h
  simp only [Option.map_eq_some_iff] at h
  obtain ⟨⟨d', os⟩, h1, h2⟩ := h
  cases h2
  rw [h1]
  have h1' := h1
  unfold runFn at h1'
  split at h1'
  rotate_left
  · cases h1'
  rename_i hl
  simp only [Option.bind_eq_some_iff, Option.map_eq_some_iff] at h1'
  obtain ⟨⟨fl, e⟩, _, d2, _, os2, ho, heq⟩ := h1'
  cases heq
  rcases outsOf_false k e with z | z
  · rw [z] at ho; cases ho
  · rw [z] at ho
    cases ho
    simp only [List.length_replicate] at hl
    congr 2
    apply List.ext_getElem <;> simp [hl]
theorem spP_pure {K : PySem.W.Frag} {fr : Bool} {k n : Nat} {body : SM} {vs : List V} {H : Hp} {Q : VK} {E : XK} (h : spP K ⟨List.replicate k false, fr⟩ (pureFn (runP fr k n body)) vs H Q E) : spP K ⟨List.replicate k false, fr⟩ (runFn ⟨List.replicate k false, fr⟩ n body) vs H Q E := by
  obtain ⟨A, ds, r, hm, rest⟩ := h
  refine ⟨A, ds, r, ?_, rest⟩
  unfold pureFn at hm
  simp only [Option.map_eq_some_iff] at hm
  obtain ⟨d, h1, h2⟩ := hm
  rw [runP_run h1, h2]
/-- a pure def keeps its promise -/
abbrev spF (K : PySem.W.Frag) (k : Nat) (fr : Bool) (f : PFn) : Sp := spP K ⟨List.replicate k false, fr⟩ (pureFn f)
theorem fn_pure {P : Program} {w : World} {K : PySem.W.Frag} {mg : Str → Option Value} {base : Heap} {x qual : Str} {st : Stmt} {f : Addr} {fd : FuncData} {N ps : List Str} {k np : Nat} {fr : Bool} {body : SM}
    (F : Fun K x qual st f fd) (Sc : FnScope N ps (defScope st)) (hps : ps.length = np)
    (hb : ∀ (cdv : Value) (A : Around) (outer : List PySem.Env) (s : Shared) (H : Hp) (E : XK), Room k (A.deeper (envOfC qual (defScope st) s.heap.objs.size f cdv)) →
      PSs (cxOf CX0 P w K mg base N qual (defScope st) f cdv A outer s H E).nox (defBody st) (EvSt K body)) :
    FnOk P w K mg base CX0 (k + 1) f fd ps (spF K np fr (runP fr np N.length body)) :=
  (fn_mk (sg := ⟨List.replicate np false, fr⟩) F Sc (by simpa using hps) hb).imp fun _ _ _ _ h => spP_pure h
theorem owOf_false : ∀ (k : Nat) (vs : List V) (a : Addr), some a ∉ owOf (List.replicate k false) vs
  | 0, _, _ => by simp [owOf]
  | k + 1, [], _ => by simp [owOf, List.replicate_succ]
  | k + 1, v :: vs, a => by
    have := owOf_false k vs a
    cases v <;> simpa [owOf, List.replicate_succ] using this
theorem cargs_pure {K : PySem.W.Frag} {H : Hp} {P : Addr → Prop} : ∀ {k : Nat} {vs : List V} {ds : List D}, ds.length = k → RpL K H P vs ds → CArgs K H P (List.replicate k false) vs ds
  | 0, _, _, h, .nil => .nil
  | 0, _, _, h, .cons _ _ => by simp at h
  | k + 1, _, _, h, .nil => by simp at h
  | k + 1, _, _, h, .cons a b => by rw [List.replicate_succ]; exact .val a (cargs_pure (by simpa using h) b)
/-- f(e, ..), shared arguments -/
def eCall (k : Nat) (f : PFn) (ms : List EM) : EM := fun env => (evL ms env).bind fun (ds, e) => if ds.length = k then (f ds).bind fun d => some (d, e) else none
/-- f(x, e, ..), where own lists are lent -/
def lent (fr : Bool) (d : D) : Bool := noLst d || (fr && match d with | .lst ds => noLsts ds | _ => false)
def eCallB (k : Nat) (fr : Bool) (f : PFn) (as : List Arg) : EM := fun env => (evA as env).bind fun (ds, e) => if ds.length = k then (f ds).bind fun d => if lent fr d = true then some (d, e) else none else none
section
variable {K : PySem.W.Frag} {S : SS} {ow : List (Option Addr)} {σ : L2.St} {H H' : Hp} {env : Env} {fr : Bool} {k : Nat} {f : PFn} {vs : List V} {ds : List D} {d : D} {Q : VK} {E : XK}
theorem Sim.frameOnly (I : Sim K S ow σ H env) (h : ∀ a o, H a = some o → H' a = some o) : Sim K S ow σ H' env := by
  have pr : Pres H (Av S.A ow) H' (Av S.A ow) := ⟨fun a o e n => ⟨h a o e, n⟩, fun a xs e => h a _ e, fun a o u e => h a _ e⟩
  refine ⟨I.len, I.lenO, fun i s e => (I.slot i s e).pres pr fun a ea => ?_, I.inj, fun a ha => ?_, I.sep, fun a o e n => h a o (I.frame a o e n), I.fresh, I.io, I.iow, I.lk⟩
  · obtain ⟨o, e1, _⟩ := I.live a (.inr (List.mem_of_getElem? ea))
    rw [e1, h a o e1]
  · obtain ⟨o, e1, m⟩ := I.live a ha
    exact ⟨o, h a o e1, m⟩
theorem stp_frame (h : ∀ a o, H a = some o → H' a = some o) : Stp ow H ow H' := ⟨fun a o e n => ⟨h a o e, n⟩, fun a xs e => h a _ e, fun a o u e => h a _ e, fun a o e => ⟨o, h a o e⟩⟩
/-- behind a new object that no slot knows -/
theorem Sim.newAt {p : Addr} {o : HO} (I : Sim K S ow σ H env) (hp : H p = none) (h : ∀ a u, H a = some u → H' a = some u) (ep : H' p = some o) (hm : Mu o) : Sim K (S.add p) ow σ H' env := by
  have J := I.frameOnly h
  refine ⟨I.len, I.lenO, fun i s e => ?_, I.inj, fun a ha => ?_, fun a ha z => ?_, J.frame, I.fresh, I.io, I.iow, I.lk⟩
  · refine (I.slot i s e).pres (H' := H') (P' := Av (S.add p).A ow) ⟨fun a u e n => ⟨h a u e, fun z => ?_⟩, fun a xs e => h a _ e, fun a u w e => h a _ e⟩ fun a ea => ?_
    · rcases z with (z | z) | z
      · exact n (.inl z)
      · rw [z, hp] at e; cases e
      · exact n (.inr z)
    · obtain ⟨o, e1, _⟩ := I.live a (.inr (List.mem_of_getElem? ea))
      rw [e1, h a o e1]
  · rcases ha with (ha | ha) | ha
    · exact J.live a (.inl ha)
    · subst ha; exact ⟨o, ep, hm⟩
    · exact J.live a (.inr ha)
  · rcases z with z | z
    · exact I.sep a ha z
    · exact I.mutne (a := a) (.inr ha) (by rw [z]; exact hp)
theorem call_fin {H0 : Hp} {ow0 : List (Option Addr)} (I : Sim K S ow σ H env) (st : Stp ow0 H0 ow H) {v : V} {os : List D} {A : Addr → Prop} {l : List (Option Addr)} (hl : ∀ a, some a ∉ l) (p : FnPost K fr A l H H' v d os)
    (hs : Rp K H' (Pio A l) v d → (fr = true → isMutD d = false) → Rp K H' (Av S.A ow) v d) (hf : ∀ p o, H p = none → RpC K H' (fun a => Pio A l a ∨ a = p) o d → RpC K H' (Av (S.add p).A ow) o d)
    (q : ∀ S' ow' v H', Stp ow0 H0 ow' H' → Sim K S' ow' σ H' env → FrR fr K S S' H0 H' ow' v d → Q v H') : Q v H' := by
  have fr' : ∀ a o, H a = some o → H' a = some o := fun a o e => p.frame a o e (hl a)
  rcases p.ret with ⟨r, n, _⟩ | ⟨hfr, pp, o, rfl, hp, ep, rc, _⟩
  · exact q S ow v H' (st.trans (stp_frame fr')) (I.frameOnly fr') (.inl ⟨rfl, hs r n, n⟩)
  · exact q (S.add pp) ow _ H' (st.trans (stp_frame fr')) (I.newAt hp fr' ep rc.mu) (.inr ⟨hfr, pp, o, rfl, rfl, st.back hp, ep, hf pp o hp rc⟩)
theorem call_go {ms : List EM} (h : Ev fr K (eCall k f ms) σ H Q) : tCall (spF K k fr f) [] E (tEs K ms) σ H Q := by
  obtain ⟨S, ow, env, I, d, envF, hm, q⟩ := h
  unfold eCall at hm
  simp only [Option.bind_eq_some_iff] at hm
  obtain ⟨⟨ds, e⟩, h1, h2⟩ := hm
  split at h2
  rotate_left
  · cases h2
  rename_i hk
  simp only [Option.bind_eq_some_iff] at h2
  obtain ⟨d', h3, h4⟩ := h2
  cases h4
  refine es_ok ms I h1 fun ow' vs H1 st J rs => ?_
  rw [List.append_nil]
  have hl : ∀ a, some a ∉ owOf (List.replicate k false) vs := fun a => owOf_false k vs a
  have eqP : ∀ a, Pio (Av S.A ow') (owOf (List.replicate k false) vs) a ↔ Av S.A ow' a := fun a => ⟨fun z => z.elim id fun z => absurd z (hl a), .inl⟩
  refine ⟨Av S.A ow', ds, (d, ds.map fun _ => .non), by unfold pureFn; rw [h3]; rfl, (cargs_pure hk rs) |> fun c => ?_, fun i j a z => absurd (List.mem_of_getElem? z) (hl a), fun a z => absurd z (hl a), fun a z => J.live a z, fun v H2 p => ?_⟩
  · exact cargs_pure hk (rs.pres (Pres.less fun a z => (eqP a).mp z))
  · refine call_fin J st hl p (fun r _ => r.pres (Pres.less fun a z => (eqP a).mpr z)) (fun pp o hp rc => rc.pres (Pres.less fun a z => ?_)) q
    rcases z with (z | z) | z
    · exact .inl ((eqP a).mpr (.inl z))
    · exact .inr z
    · exact .inl ((eqP a).mpr (.inr z))
theorem callB_go {as : List Arg} (h : Ev fr K (eCallB k fr f as) σ H Q) : tCall (spF K k fr f) [] E (tArgs K as) σ H Q := by
  obtain ⟨S, ow, env, I, d, envF, hm, q⟩ := h
  unfold eCallB at hm
  simp only [Option.bind_eq_some_iff] at hm
  obtain ⟨⟨ds, e⟩, h1, h2⟩ := hm
  split at h2
  rotate_left
  · cases h2
  rename_i hk
  simp only [Option.bind_eq_some_iff] at h2
  obtain ⟨d', h3, h4⟩ := h2
  split at h4
  rotate_left
  · cases h4
  rename_i hlent
  cases h4
  refine args_ok as I h1 fun ow' vs H1 st J rs => ?_
  rw [List.append_nil]
  have hl : ∀ a, some a ∉ owOf (List.replicate k false) vs := fun a => owOf_false k vs a
  let A : Addr → Prop := fun a => Av S.A ow' a ∧ ∀ v ∈ vs, v ≠ .ref a
  have eqP : ∀ a, Pio A (owOf (List.replicate k false) vs) a ↔ A a := fun a => ⟨fun z => z.elim id fun z => absurd z (hl a), .inl⟩
  have key : ∀ {vs' : List V} {ds' : List D}, (∀ v ∈ vs', v ∈ vs) → RpTs K H1 (Av S.A ow') vs' ds' → RpL K H1 (Pio A (owOf (List.replicate k false) vs)) vs' ds' := by
    intro vs' ds' hsub r
    induction r with
    | nil => exact .nil
    | @cons v vs0 d0 ds0 rv _ ih =>
      refine .cons ?_ (ih fun w hw => hsub w (List.mem_cons_of_mem _ hw))
      have hv : v ∈ vs := hsub v (List.mem_cons_self ..)
      rcases rv with rv | ⟨a, o, rfl, ea, rc⟩
      · exact rv.pres (Pres.less fun a z => ((eqP a).mp z).1)
      · exact .cell ea (fun z => ((eqP a).mp z).2 _ hv rfl) (rc.pres (Pres.less fun a z => ((eqP a).mp z).1))
  refine ⟨A, ds, (d, ds.map fun _ => .non), by unfold pureFn; rw [h3]; rfl, cargs_pure hk (key (fun _ z => z) rs), fun i j a z => absurd (List.mem_of_getElem? z) (hl a), fun a z => absurd z (hl a), fun a z => J.live a z.1, fun v H2 p => ?_⟩
  unfold lent at hlent
  rw [Bool.or_eq_true, Bool.and_eq_true] at hlent
  rcases hlent with hn | ⟨hfr, hn⟩
  · refine call_fin J st hl p (fun r _ => Rp.any hn r) (fun pp o hp rc => ?_) q
    cases rc <;> simp [noLst] at hn
  · subst hfr
    refine call_fin J st hl p (fun r n => ?_) (fun pp o hp rc => ?_) q
    · have := n rfl
      cases d <;> first | (simp at hn; done) | (simp [isMutD] at this; done)
    · cases rc with
      | lst rl => exact .lst (RpL.any hn rl)
      | dK _ => simp at hn
      | dT _ => simp at hn
end

/-! ### the calls as expressions -/
section
variable {X : Cx} {pos : Pos}
theorem e_call {fr : Bool} {np k : Nat} {f : PFn} {fa : Addr} {fd : FuncData} {ps : List Str} {x : Str} {p : Pos} {e : Expr} {es : List Expr} {ms : List EM} (F : FnOk X.prog X.w X.K X.mg X.base CX0 k fa fd ps (spF X.K np fr f)) (hr : Room k X.A) (hg : Gl X x) (hm : X.mg x = some (.ref fa)) (hk : PySem.W.keepIn X.K (.ref fa) = true) (hb : Binds X.K fd ps [])
    (ha : PA X (e :: es) (tEs X.K ms)) (hdb : (x == ("__debug__" : Str)) = false := by decide) (he : starEach (e :: es) X.env = (false, eval e X.env) :: starEach es X.env := by rfl) (hpl : (backTo pos (starEach es X.env)).any (·.1) = false := by rfl) :
    PE X (.Call (.Name x p) (e :: es) [] pos) (Ev fr X.K (eCall np f ms)) := (pe_call F hr hg hm hk hb .nil pass0 ha hdb he hpl).imp fun _ _ _ h => call_go h
theorem e_callL {fr : Bool} {np k : Nat} {f : PFn} {fa : Addr} {fd : FuncData} {ps : List Str} {x : Str} {p : Pos} {e : Expr} {es : List Expr} {as : List Arg} (F : FnOk X.prog X.w X.K X.mg X.base CX0 k fa fd ps (spF X.K np fr f)) (hr : Room k X.A) (hg : Gl X x) (hm : X.mg x = some (.ref fa)) (hk : PySem.W.keepIn X.K (.ref fa) = true) (hb : Binds X.K fd ps [])
    (ha : PA X (e :: es) (tArgs X.K as)) (hdb : (x == ("__debug__" : Str)) = false := by decide) (he : starEach (e :: es) X.env = (false, eval e X.env) :: starEach es X.env := by rfl) (hpl : (backTo pos (starEach es X.env)).any (·.1) = false := by rfl) :
    PE X (.Call (.Name x p) (e :: es) [] pos) (Ev fr X.K (eCallB np fr f as)) := (pe_call F hr hg hm hk hb .nil pass0 ha hdb he hpl).imp fun _ _ _ h => callB_go h
theorem e_call0 {fr : Bool} {k : Nat} {f : PFn} {fa : Addr} {fd : FuncData} {ps : List Str} {x : Str} {p : Pos} (F : FnOk X.prog X.w X.K X.mg X.base CX0 k fa fd ps (spF X.K 0 fr f)) (hr : Room k X.A) (hg : Gl X x) (hm : X.mg x = some (.ref fa)) (hk : PySem.W.keepIn X.K (.ref fa) = true) (hb : Binds X.K fd ps [])
    (hdb : (x == ("__debug__" : Str)) = false := by decide) : PE X (.Call (.Name x p) [] [] pos) (Ev fr X.K (eCall 0 f [])) := (pe_call0 F hr hg hm hk hb .nil pass0 hdb).imp fun _ _ _ h => call_go h
end
end PL
end

section
set_option maxRecDepth 100000
set_option maxHeartbeats 3900000
/-! PL7: calls that change own lists. -/
namespace PL
open PySem Spec PyProof.Rows L2

inductive CA where
  | v (m : EM)
  | io (i : Nat)
  | t (m : EM)
def CA.fl : CA → Bool
  | .v _ => false
  | _ => true
def ownD (env : Env) (i : Nat) : Option D := match env[i]? with
  | some (.own d) => some d
  | some (.iow d) => some d
  | _ => none
def putD (env : Env) (i : Nat) (d : D) : Env := match env[i]? with
  | some (.iow _) => env.set i (.iow d)
  | _ => env.set i (.own d)
def evC : List CA → Env → Option (List D × Env)
  | [], env => some ([], env)
  | .v m :: as, env => (m env).bind fun (d, e1) => (evC as e1).bind fun (ds, e2) => some (d :: ds, e2)
  | .t m :: as, env => (m env).bind fun (d, e1) => if isMutD d = true then (evC as e1).bind fun (ds, e2) => some (d :: ds, e2) else none
  | .io i :: as, env => (ownD env i).bind fun _ => (evC as env).bind fun (ds, e2) => (ownD e2 i).bind fun d => some (d :: ds, e2)
def ioSl : List CA → List Nat
  | [] => []
  | .io i :: as => i :: ioSl as
  | _ :: as => ioSl as
def putOuts : List CA → List D → Env → Env
  | .io i :: as, o :: os, e => putOuts as os (putD e i o)
  | _ :: as, _ :: os, e => putOuts as os e
  | _, _, e => e
def eCallIo (f : Fn) (as : List CA) : EM := fun env => (evC as env).bind fun (ds, e) => (f ds).bind fun (d, os) => if (ioSl as).Nodup then some (d, putOuts as os e) else none
def rdCA (K : PySem.W.Frag) : CA → TE
  | .v m => EvS K m
  | .io i => tVar i
  | .t m => EvF K m
def tCas (K : PySem.W.Frag) : List CA → TA
  | [] => tNil
  | a :: as => tCons (rdCA K a) (tCas K as)
/-- what an argument hands on -/
inductive CR (K : PySem.W.Frag) (S S' : SS) (σ : L2.St) (ow' : List (Option Addr)) (H' : Hp) : List CA → List V → List D → Prop
  | nil : CR K S S' σ ow' H' [] [] []
  | v {m : EM} {as : List CA} {v : V} {vs : List V} {d : D} {ds : List D} : Rp K H' (Av S'.A ow') v d → CR K S S' σ ow' H' as vs ds → CR K S S' σ ow' H' (.v m :: as) (v :: vs) (d :: ds)
  | io {i : Nat} {as : List CA} {a : Addr} {o : HO} {vs : List V} {d : D} {ds : List D} : σ[i]? = some (some (.ref a)) → ow'[i]? = some (some a) → H' a = some o → RpC K H' (Av S'.A ow') o d → CR K S S' σ ow' H' as vs ds → CR K S S' σ ow' H' (.io i :: as) (.ref a :: vs) (d :: ds)
  | t {m : EM} {as : List CA} {p : Addr} {o : HO} {vs : List V} {d : D} {ds : List D} : H' p = some o → RpC K H' (Av S'.A ow') o d → S'.A p → ¬ S.A p → S.H0 p = none → CR K S S' σ ow' H' as vs ds → CR K S S' σ ow' H' (.t m :: as) (.ref p :: vs) (d :: ds)
section
variable {K : PySem.W.Frag} {S S' S1 : SS} {σ : L2.St} {H H' : Hp} {ow ow' : List (Option Addr)} {env : Env}
theorem Sim.ownD (I : Sim K S ow σ H env) {i : Nat} {d : D} (h : ownD env i = some d) : ∃ a o, σ[i]? = some (some (.ref a)) ∧ ow[i]? = some (some a) ∧ H a = some o ∧ RpC K H (Av S.A ow) o d := by
  unfold PL.ownD at h
  cases e : env[i]? with
  | none => rw [e] at h; cases h
  | some s =>
    rw [e] at h
    have q := I.slot i s e
    cases s with
    | no => cases h
    | lck => cases h
    | shr d => cases h
    | own d => cases h; obtain ⟨a, o, e1, e2, e3, r⟩ := q; exact ⟨a, o, e1, e2, e3, r⟩
    | iow d => cases h; obtain ⟨a, o, e1, e2, e3, r⟩ := q; exact ⟨a, o, e1, e2, e3, r⟩
theorem CR.base (hS : ∀ a, S.A a → S1.A a) (h0 : S1.H0 = S.H0) {as : List CA} {vs : List V} {ds : List D} (c : CR K S1 S' σ ow' H' as vs ds) : CR K S S' σ ow' H' as vs ds := by
  induction c with
  | nil => exact .nil
  | v r _ ih => exact .v r ih
  | io a b c d _ ih => exact .io a b c d ih
  | t a b c d e _ ih => exact .t a b c (fun z => d (hS _ z)) (by rw [← h0]; exact e) ih
structure Ext (S S' : SS) (H : Hp) : Prop where
  sub : ∀ a, S.A a → S'.A a
  new : ∀ a, S'.A a → S.A a ∨ H a = none
  h0 : S'.H0 = S.H0
  io : S'.io = S.io
  lk : S'.lk = S.lk
theorem Ext.refl : Ext S S H := ⟨fun _ z => z, fun _ z => .inl z, rfl, rfl, rfl⟩
theorem cas_ok : ∀ (as : List CA) {S : SS} {ow : List (Option Addr)} {H : Hp} {env env' : Env} {ds : List D} {R : List V → Hp → Prop}, Sim K S ow σ H env → evC as env = some (ds, env') → (ioSl as).Nodup →
    (∀ S' ow' vs H', Ext S S' H → Stp ow H ow' H' → Sim K S' ow' σ H' env' → CR K S S' σ ow' H' as vs ds → NdO (owOf (as.map CA.fl) vs) →
      (∀ a, some a ∈ owOf (as.map CA.fl) vs → (∃ i ∈ ioSl as, ow'[i]? = some (some a)) ∨ (H a = none ∧ S'.A a ∧ ¬ S.A a)) → R vs H') → tCas K as σ H R
  | [], S, ow, H, env, env', ds, R, I, h, nd, k => by
    cases h
    exact k S ow [] H .refl .refl I .nil (fun i j a z => by simp [owOf] at z) (fun a z => by simp [owOf] at z)
  | .v m :: as, S, ow, H, env, env', ds, R, I, h, nd, k => by
    unfold evC at h
    simp only [Option.bind_eq_some_iff] at h
    obtain ⟨⟨d, e1⟩, h1, ⟨ds1, e2⟩, h2, h3⟩ := h
    cases h3
    refine ⟨S, ow, env, I, d, e1, h1, fun S1 ow1 v H1 st1 I1 f => ?_⟩
    obtain ⟨rfl, r⟩ := f.shared
    refine cas_ok as I1 h2 nd fun S' ow2 vs H2 ex st2 I2 c no nn => ?_
    have hcons : owOf ((CA.v m :: as).map CA.fl) (v :: vs) = none :: owOf (as.map CA.fl) vs := by cases v <;> rfl
    refine k S' ow2 (v :: vs) H2 ⟨ex.sub, fun a z => (ex.new a z).imp id fun z => st1.back z, ex.h0, ex.io, ex.lk⟩ (st1.trans st2) I2 (.v ?_ c) ?_ fun a z => ?_
    · exact (r.pres (Pres.grow ex.new)).pres st2.pres
    · rw [hcons]
      intro i j a h1 h2
      cases i with
      | zero => simp at h1
      | succ i =>
        cases j with
        | zero => simp at h2
        | succ j => rw [no i j a (by simpa using h1) (by simpa using h2)]
    · rw [hcons] at z
      have z' : some a ∈ owOf (as.map CA.fl) vs := by simpa using z
      exact (nn a z').imp (fun ⟨i, hi, e⟩ => ⟨i, hi, e⟩) fun ⟨q1, q2, q3⟩ => ⟨st1.back q1, q2, q3⟩
  | .t m :: as, S, ow, H, env, env', ds, R, I, h, nd, k => by
    unfold evC at h
    simp only [Option.bind_eq_some_iff] at h
    obtain ⟨⟨d, e1⟩, h1, h2⟩ := h
    split at h2
    rotate_left
    · cases h2
    rename_i hmut
    simp only [Option.bind_eq_some_iff] at h2
    obtain ⟨⟨ds1, e2⟩, h2, h3⟩ := h2
    cases h3
    refine ⟨S, ow, env, I, d, e1, h1, fun S1 ow1 v H1 st1 I1 f => ?_⟩
    rcases f with ⟨_, _, n⟩ | ⟨_, p, o, rfl, rfl, hp, ep, rc⟩
    · rw [n rfl] at hmut; cases hmut
    refine cas_ok as I1 h2 nd fun S' ow2 vs H2 ex st2 I2 c no nn => ?_
    have hcons : owOf ((CA.t m :: as).map CA.fl) (.ref p :: vs) = some p :: owOf (as.map CA.fl) vs := rfl
    have hpA : S'.A p := ex.sub p (.inr rfl)
    have hp1 : some p ∉ ow1 := fun z => I1.sep p z (.inr rfl)
    have ep2 := (st2.cell p _ ep hp1).1
    have hnp : some p ∉ owOf (as.map CA.fl) vs := fun z => by
      rcases nn p z with ⟨i, _, e⟩ | ⟨e, _⟩
      · exact I2.sep p (List.mem_of_getElem? e) hpA
      · rw [ep] at e; cases e
    refine k S' ow2 (.ref p :: vs) H2 ⟨fun a z => ex.sub a (.inl z), fun a z => ?_, ex.h0, ex.io, ex.lk⟩ (st1.trans st2) I2 (.t ep2 ?_ hpA (I.h0' p hp).1 (I.h0' p hp).2 (c.base (S1 := S.add p) (fun a z => Or.inl z) rfl)) ?_ fun a z => ?_
    · rcases ex.new a z with (z | z) | z
      · exact .inl z
      · exact .inr (by rw [z]; exact hp)
      · exact .inr (st1.back z)
    · exact (rc.pres (Pres.grow ex.new)).pres st2.pres
    · rw [hcons]
      intro i j a h1 h2
      cases i with
      | zero =>
        cases j with
        | zero => rfl
        | succ j =>
          have e1 : p = a := by simpa using h1
          subst e1
          exact absurd (List.mem_of_getElem? (by simpa using h2)) hnp
      | succ i =>
        cases j with
        | zero =>
          have e1 : p = a := by simpa using h2
          subst e1
          exact absurd (List.mem_of_getElem? (by simpa using h1)) hnp
        | succ j => rw [no i j a (by simpa using h1) (by simpa using h2)]
    · rw [hcons] at z
      have z' : a = p ∨ some a ∈ owOf (as.map CA.fl) vs := by simpa using z
      rcases z' with rfl | z'
      · exact .inr ⟨hp, hpA, (I.h0' _ hp).1⟩
      · exact (nn a z').imp id fun ⟨q1, q2, q3⟩ => ⟨st1.back q1, q2, fun z => q3 (.inl z)⟩
  | .io i :: as, S, ow, H, env, env', ds, R, I, h, nd, k => by
    unfold evC at h
    simp only [Option.bind_eq_some_iff] at h
    obtain ⟨d0, hd0, ⟨ds1, e2⟩, h2, d, hd, h3⟩ := h
    cases h3
    obtain ⟨a, o0, s1, s2, s3, s4⟩ := I.ownD hd0
    have nd' : i ∉ ioSl as ∧ (ioSl as).Nodup := List.nodup_cons.mp nd
    refine ⟨_, s1, cas_ok as I h2 nd'.2 fun S' ow2 vs H2 ex st2 I2 c no nn => ?_⟩
    obtain ⟨a', o, t1, t2, t3, t4⟩ := I2.ownD hd
    rw [s1] at t1
    cases t1
    have hcons : owOf ((CA.io i :: as).map CA.fl) (.ref a :: vs) = some a :: owOf (as.map CA.fl) vs := rfl
    have hnp : some a ∉ owOf (as.map CA.fl) vs := fun z => by
      rcases nn a z with ⟨j, hj, e⟩ | ⟨e, _⟩
      · have := I2.inj j i a e t2
        subst this
        exact nd'.1 hj
      · exact I.mutne (.inr (List.mem_of_getElem? s2)) e
    refine k S' ow2 (.ref a :: vs) H2 ex st2 I2 (.io s1 t2 t3 t4 c) ?_ fun b z => ?_
    · rw [hcons]
      intro i' j b h1 h2
      cases i' with
      | zero =>
        cases j with
        | zero => rfl
        | succ j =>
          have e1 : a = b := by simpa using h1
          subst e1
          exact absurd (List.mem_of_getElem? (by simpa using h2)) hnp
      | succ i' =>
        cases j with
        | zero =>
          have e1 : a = b := by simpa using h2
          subst e1
          exact absurd (List.mem_of_getElem? (by simpa using h1)) hnp
        | succ j => rw [no i' j b (by simpa using h1) (by simpa using h2)]
    · rw [hcons] at z
      have z' : b = a ∨ some b ∈ owOf (as.map CA.fl) vs := by simpa using z
      rcases z' with rfl | z'
      · exact .inl ⟨i, List.mem_cons_self .., t2⟩
      · exact (nn b z').imp (fun ⟨j, hj, e⟩ => ⟨j, List.mem_cons_of_mem _ hj, e⟩) id
theorem CR.cargs {P : Addr → Prop} (hP : ∀ a, P a → Av S'.A ow' a) : ∀ {as : List CA} {vs : List V} {ds : List D}, CR K S S' σ ow' H' as vs ds → CArgs K H' P (as.map CA.fl) vs ds
  | _, _, _, .nil => .nil
  | _, _, _, .v r c => .val (r.pres (Pres.less hP)) (CR.cargs hP c)
  | _, _, _, .io _ _ e r c => .io e (r.pres (Pres.less hP)) (CR.cargs hP c)
  | _, _, _, .t e r _ _ _ c => .io e (r.pres (Pres.less hP)) (CR.cargs hP c)
theorem CR.av {as : List CA} {vs : List V} {ds : List D} (c : CR K S S' σ ow' H' as vs ds) {a : Addr} (h : some a ∈ owOf (as.map CA.fl) vs) : Av S'.A ow' a ∧ (some a ∈ ow' ∨ S.H0 a = none) := by
  induction c with
  | nil => simp [owOf] at h
  | v r _ ih => exact ih (by rename_i v _ _ _ _; cases v <;> simpa [owOf, CA.fl] using h)
  | io _ e2 _ _ _ ih =>
    have h' := (by simpa [owOf, CA.fl] using h : a = _ ∨ some a ∈ owOf _ _)
    rcases h' with rfl | h'
    · exact ⟨.inr (List.mem_of_getElem? e2), .inl (List.mem_of_getElem? e2)⟩
    · exact ih h'
  | t _ _ e3 _ e5 _ ih =>
    have h' := (by simpa [owOf, CA.fl] using h : a = _ ∨ some a ∈ owOf _ _)
    rcases h' with rfl | h'
    · exact ⟨.inl e3, .inr e5⟩
    · exact ih h'
/-- slots of the same kinds -/
structure Knd (e e' : Env) : Prop where
  len : e'.length = e.length
  iow : ∀ (j : Nat), (∃ d, e[j]? = some (.iow d)) ↔ ∃ d, e'[j]? = some (.iow d)
  lck : ∀ (j : Nat), e[j]? = some .lck → e'[j]? = some .lck
theorem Knd.refl {e : Env} : Knd e e := ⟨rfl, fun _ => Iff.rfl, fun _ z => z⟩
theorem Knd.trans {a b c : Env} (x : Knd a b) (y : Knd b c) : Knd a c := ⟨y.len.trans x.len, fun j => (x.iow j).trans (y.iow j), fun j z => y.lck j (x.lck j z)⟩
theorem putD_spec {e : Env} {i : Nat} {d0 : D} (h : ownD e i = some d0) (d : D) : Knd e (putD e i d) ∧ (∀ j, j ≠ i → (putD e i d)[j]? = e[j]?) ∧ ((putD e i d)[i]? = some (.own d) ∨ (putD e i d)[i]? = some (.iow d)) := by
  unfold PL.ownD at h
  cases q : e[i]? with
  | none => rw [q] at h; cases h
  | some s =>
    have hi : i < e.length := (List.getElem?_eq_some_iff.mp q).1
    have mk : ∀ (s1 : Slot), putD e i d = e.set i s1 → ((∃ d', s = .iow d') ↔ (∃ d', s1 = .iow d')) → s ≠ .lck → (s1 = .own d ∨ s1 = .iow d) → Knd e (putD e i d) ∧ (∀ j, j ≠ i → (putD e i d)[j]? = e[j]?) ∧ ((putD e i d)[i]? = some (.own d) ∨ (putD e i d)[i]? = some (.iow d)) := fun s1 hs hk hl ho => by
      rw [hs]
      refine ⟨⟨by simp, fun j => ?_, fun j z => ?_⟩, fun j hj => List.getElem?_set_ne (Ne.symm hj), ?_⟩
      · by_cases hj : j = i
        · subst hj
          rw [q, List.getElem?_set_self hi]
          constructor
          · rintro ⟨d', z⟩; cases z; obtain ⟨d2, z2⟩ := hk.mp ⟨d', rfl⟩; exact ⟨d2, by rw [z2]⟩
          · rintro ⟨d', z⟩; cases z; obtain ⟨d2, z2⟩ := hk.mpr ⟨d', rfl⟩; exact ⟨d2, by rw [z2]⟩
        · rw [List.getElem?_set_ne (Ne.symm hj)]
      · by_cases hj : j = i
        · subst hj; rw [q] at z; cases z; exact absurd rfl hl
        · rw [List.getElem?_set_ne (Ne.symm hj)]; exact z
      · rw [List.getElem?_set_self hi]
        rcases ho with rfl | rfl
        · exact .inl rfl
        · exact .inr rfl
    rw [q] at h
    cases s with
    | own d1 => exact mk (.own d) (by unfold PL.putD; rw [q]) ⟨(fun ⟨_, z⟩ => nomatch z), (fun ⟨_, z⟩ => nomatch z)⟩ (by intro z; cases z) (.inl rfl)
    | iow d1 => exact mk (.iow d) (by unfold PL.putD; rw [q]) ⟨fun _ => ⟨_, rfl⟩, fun _ => ⟨_, rfl⟩⟩ (by intro z; cases z) (.inr rfl)
    | _ => cases h
theorem putOuts_ok {H2 : Hp} {P2 : Addr → Prop} : ∀ {as : List CA} {vs : List V} {ds os : List D} {e : Env}, CR K S S' σ ow' H' as vs ds → Outs K H2 P2 (owOf (as.map CA.fl) vs) os → (∀ i ∈ ioSl as, ∃ d, ownD e i = some d) → (ioSl as).Nodup →
    (∀ (j : Nat) s, e[j]? = some s → SlotOk K H2 P2 (σ[j]?) (ow'[j]?) s ∨ j ∈ ioSl as) → Knd e (putOuts as os e) ∧ ∀ (j : Nat) s, (putOuts as os e)[j]? = some s → SlotOk K H2 P2 (σ[j]?) (ow'[j]?) s
  | _, _, _, os, e, .nil, ou, ho, nd, hs => by
    have : putOuts [] os e = e := by cases os <;> rfl
    rw [this]
    exact ⟨.refl, fun j s z => (hs j s z).elim id fun z => by simp [ioSl] at z⟩
  | _, _, _, os, e, .v (v := v) (vs := vs) (as := as) (m := m) r c, ou, ho, nd, hs => by
    have hc : owOf ((CA.v m :: as).map CA.fl) (v :: vs) = none :: owOf (as.map CA.fl) vs := by cases v <;> rfl
    rw [hc] at ou
    cases ou with
    | no ou => exact putOuts_ok (as := as) c ou ho nd hs
  | _, _, _, os, e, .t (p := p) (vs := vs) (as := as) (m := m) e1 r a1 a2 a3 c, ou, ho, nd, hs => by
    have hc : owOf ((CA.t m :: as).map CA.fl) (.ref p :: vs) = some p :: owOf (as.map CA.fl) vs := rfl
    rw [hc] at ou
    cases ou with
    | io _ _ ou => exact putOuts_ok (as := as) c ou ho nd hs
  | _, _, _, os, e, .io (i := i) (a := a) (vs := vs) (as := as) e1 e2 e3 r c, ou, ho, nd, hs => by
    have hc : owOf ((CA.io i :: as).map CA.fl) (.ref a :: vs) = some a :: owOf (as.map CA.fl) vs := rfl
    rw [hc] at ou
    have nd' : i ∉ ioSl as ∧ (ioSl as).Nodup := List.nodup_cons.mp nd
    cases ou with
    | @io _ o d _ os' h2 rc ou =>
      obtain ⟨d0, hd0⟩ := ho i (List.mem_cons_self ..)
      obtain ⟨kn, ne, at_⟩ := putD_spec hd0 d
      have hnew : SlotOk K H2 P2 (σ[i]?) (ow'[i]?) (.own d) ∧ SlotOk K H2 P2 (σ[i]?) (ow'[i]?) (.iow d) := ⟨⟨a, o, e1, e2, h2, rc⟩, ⟨a, o, e1, e2, h2, rc⟩⟩
      obtain ⟨q1, q2⟩ := putOuts_ok (e := putD e i d) c ou (fun j hj => by
        obtain ⟨dj, hdj⟩ := ho j (List.mem_cons_of_mem _ hj)
        refine ⟨dj, ?_⟩
        unfold PL.ownD
        rw [ne j (fun z => nd'.1 (z ▸ hj))]
        exact hdj) nd'.2 (fun j s z => by
        by_cases hj : j = i
        · subst hj
          left
          rcases at_ with at_ | at_
          · rw [at_] at z; cases z; exact hnew.1
          · rw [at_] at z; cases z; exact hnew.2
        · rw [ne j hj] at z
          rcases hs j s z with z | z
          · exact .inl z
          · exact .inr ((List.mem_cons.mp z).resolve_left hj))
      exact ⟨kn.trans q1, q2⟩
theorem outs_mu {H2 : Hp} {P2 : Addr → Prop} {l : List (Option Addr)} {os : List D} (h : Outs K H2 P2 l os) {a : Addr} (ha : some a ∈ l) : ∃ o, H2 a = some o ∧ Mu o := by
  induction h with
  | nil => cases ha
  | no _ ih => exact ih (by simpa using ha)
  | io e r _ ih =>
    rcases (by simpa using ha : a = _ ∨ some a ∈ _) with rfl | z
    · exact ⟨_, e, r.mu⟩
    · exact ih z
theorem evC_own : ∀ {as : List CA} {env e : Env} {ds : List D}, evC as env = some (ds, e) → ∀ i ∈ ioSl as, ∃ d, ownD e i = some d
  | [], _, _, _, _, i, hi => by cases hi
  | .v m :: as, env, e, ds, h, i, hi => by
    unfold evC at h
    simp only [Option.bind_eq_some_iff] at h
    obtain ⟨⟨d, e1⟩, h1, ⟨ds1, e2⟩, h2, h3⟩ := h
    cases h3
    exact evC_own h2 i hi
  | .t m :: as, env, e, ds, h, i, hi => by
    unfold evC at h
    simp only [Option.bind_eq_some_iff] at h
    obtain ⟨⟨d, e1⟩, h1, h2⟩ := h
    split at h2
    rotate_left
    · cases h2
    simp only [Option.bind_eq_some_iff] at h2
    obtain ⟨⟨ds1, e2⟩, h2, h3⟩ := h2
    cases h3
    exact evC_own h2 i hi
  | .io j :: as, env, e, ds, h, i, hi => by
    unfold evC at h
    simp only [Option.bind_eq_some_iff] at h
    obtain ⟨d0, hd0, ⟨ds1, e2⟩, h2, d, hd, h3⟩ := h
    cases h3
    rcases List.mem_cons.mp hi with rfl | hi
    · exact ⟨d, hd⟩
    · exact evC_own h2 i hi
/-- behind the call -/
theorem Sim.afterIo {S2 : SS} {H2 : Hp} {as : List CA} {vs : List V} {ds os : List D} {e : Env} (J : Sim K S' ow' σ H' e) (c : CR K S S' σ ow' H' as vs ds) (nd : (ioSl as).Nodup) (ho : ∀ i ∈ ioSl as, ∃ d, PL.ownD e i = some d) (hS0 : S'.H0 = S.H0)
    (hfr : ∀ a o, H' a = some o → some a ∉ owOf (as.map CA.fl) vs → H2 a = some o) (ou : Outs K H2 (Av S2.A ow') (owOf (as.map CA.fl) vs) os)
    (hS2 : S2 = S' ∨ ∃ p o, S2 = S'.add p ∧ H' p = none ∧ H2 p = some o ∧ Mu o) : Sim K S2 ow' σ H2 (putOuts as os e) := by
  have hA2 : ∀ a, S2.A a → S'.A a ∨ H' a = none := fun a z => by
    rcases hS2 with rfl | ⟨p, o, rfl, hp, _⟩
    · exact .inl z
    · rcases z with z | z
      · exact .inl z
      · exact .inr (by rw [z]; exact hp)
  have hmu : ∀ a xs, H' a = some (.tup xs) → some a ∉ owOf (as.map CA.fl) vs := fun a xs e z => by
    obtain ⟨o, e2, m⟩ := J.live a (c.av z).1
    rw [e] at e2; cases e2; exact m
  have hmu2 : ∀ a ob u, H' a = some (.frz ob u) → some a ∉ owOf (as.map CA.fl) vs := fun a ob u e z => by
    obtain ⟨o, e2, m⟩ := J.live a (c.av z).1
    rw [e] at e2; cases e2; exact m
  have pr : Pres H' (Av S'.A ow') H2 (Av S2.A ow') := by
    refine ⟨fun a o e n => ⟨hfr a o e fun z => n (c.av z).1, fun z => ?_⟩, fun a xs e => hfr a _ e (hmu a xs e), fun a ob u e => hfr a _ e (hmu2 a ob u e)⟩
    rcases z with z | z
    · rcases hA2 a z with z | z
      · exact n (.inl z)
      · rw [e] at z; cases z
    · exact n (.inr z)
  have slots0 : ∀ (j : Nat) s, e[j]? = some s → SlotOk K H2 (Av S2.A ow') (σ[j]?) (ow'[j]?) s ∨ j ∈ ioSl as := fun j s ej => by
    by_cases hj : j ∈ ioSl as
    · exact .inr hj
    · left
      have q := J.slot j s ej
      have own : ∀ a o, ow'[j]? = some (some a) → H' a = some o → H2 a = some o := fun a o ea eo => hfr a o eo fun z => by
        have key : ∀ {as : List CA} {vs : List V} {ds : List D}, CR K S S' σ ow' H' as vs ds → some a ∈ owOf (as.map CA.fl) vs → j ∈ ioSl as := by
          intro as vs ds c
          induction c with
          | nil => intro z; simp [owOf] at z
          | v r _ ih => intro z; exact ih (by rename_i v _ _ _ _; cases v <;> simpa [owOf, CA.fl] using z)
          | io _ e2 _ _ _ ih =>
            intro z
            rcases (by simpa [owOf, CA.fl] using z : a = _ ∨ some a ∈ owOf _ _) with rfl | z
            · rw [J.inj j _ _ ea e2]; exact List.mem_cons_self ..
            · exact List.mem_cons_of_mem _ (ih z)
          | t _ _ e3 _ _ _ ih =>
            intro z
            rcases (by simpa [owOf, CA.fl] using z : a = _ ∨ some a ∈ owOf _ _) with rfl | z
            · exact absurd e3 (J.sep _ (List.mem_of_getElem? ea))
            · exact ih z
        exact hj (key c z)
      cases s with
      | no => trivial
      | lck => trivial
      | shr d => obtain ⟨v, e1, r⟩ := q; exact ⟨v, e1, r.pres pr⟩
      | own d => obtain ⟨a, o, e1, e2, e3, r⟩ := q; exact ⟨a, o, e1, e2, own a o e2 e3, r.pres pr⟩
      | iow d => obtain ⟨a, o, e1, e2, e3, r⟩ := q; exact ⟨a, o, e1, e2, own a o e2 e3, r.pres pr⟩
  obtain ⟨kn, sl⟩ := putOuts_ok c ou ho nd slots0
  have hS2' : S2.H0 = S'.H0 ∧ S2.io = S'.io ∧ S2.lk = S'.lk := by rcases hS2 with rfl | ⟨p, o, rfl, _⟩ <;> exact ⟨rfl, rfl, rfl⟩
  refine ⟨by rw [kn.len]; exact J.len, J.lenO, sl, J.inj, fun a ha => ?_, fun a ha z => ?_, fun a o e1 n => ?_, ?_, fun p hp => ?_, fun i d e1 => ?_, fun p hp => ?_⟩
  · by_cases hl : some a ∈ owOf (as.map CA.fl) vs
    · exact outs_mu ou hl
    · rcases ha with ha | ha
      · rcases hS2 with rfl | ⟨p, o, rfl, hp, hp2, hm⟩
        · obtain ⟨o, e1, m⟩ := J.live a (.inl ha); exact ⟨o, hfr a o e1 hl, m⟩
        · rcases ha with ha | ha
          · obtain ⟨o, e1, m⟩ := J.live a (.inl ha); exact ⟨o, hfr a o e1 hl, m⟩
          · rw [ha]; exact ⟨o, hp2, hm⟩
      · obtain ⟨o, e1, m⟩ := J.live a (.inr ha); exact ⟨o, hfr a o e1 hl, m⟩
  · rcases hA2 a z with z | z
    · exact J.sep a ha z
    · exact J.mutne (.inr ha) z
  · rw [hS2'.1] at e1
    rw [hS2'.2.1] at n
    refine hfr a o (J.frame a o e1 n) fun z => ?_
    rcases (c.av z).2 with z2 | z2
    · rcases J.fresh a z2 with z3 | ⟨j, hj⟩
      · rw [z3] at e1; cases e1
      · exact n _ hj rfl
    · rw [hS0, z2] at e1; cases e1
  · rw [hS2'.1, hS2'.2.1]; exact J.fresh
  · rw [hS2'.2.1] at hp
    obtain ⟨q1, q2⟩ := J.io p hp
    exact ⟨q1, (kn.iow p.1).mp q2⟩
  · rw [hS2'.2.1]
    obtain ⟨d', q⟩ := (kn.iow i).mpr ⟨d, e1⟩
    exact J.iow i d' q
  · rw [hS2'.2.2] at hp
    obtain ⟨q1, q2⟩ := J.lk p hp
    exact ⟨q1, kn.lck _ q2⟩
theorem callIo_go {fr : Bool} {f : Fn} {as : List CA} {Q : VK} {E : XK} (h : Ev fr K (eCallIo f as) σ H Q) : tCall (spP K ⟨as.map CA.fl, fr⟩ f) [] E (tCas K as) σ H Q := by
  obtain ⟨S, ow, env, I, d, envF, hm, q⟩ := h
  unfold eCallIo at hm
  simp only [Option.bind_eq_some_iff] at hm
  obtain ⟨⟨ds, e⟩, h1, ⟨d', os⟩, h2, h3⟩ := hm
  split at h3
  rotate_left
  · cases h3
  rename_i nd
  cases h3
  refine cas_ok as I h1 nd fun S' ow' vs H1 ex st J c no nn => ?_
  rw [List.append_nil]
  let l := owOf (as.map CA.fl) vs
  have eqP : ∀ a, Pio (fun a => Av S'.A ow' a ∧ some a ∉ l) l a ↔ Av S'.A ow' a := fun a => by
    constructor
    · rintro (z | z)
      · exact z.1
      · exact (c.av z).1
    · intro z
      by_cases hl : some a ∈ l
      · exact .inr hl
      · exact .inl ⟨z, hl⟩
  have less : ∀ {P P' : Addr → Prop} {H2 : Hp} {l : List (Option Addr)} {os : List D}, (∀ a, P' a → P a) → Outs K H2 P l os → Outs K H2 P' l os := by
    intro P P' H2 l os hPP ho
    induction ho with
    | nil => exact .nil
    | no _ ih => exact .no ih
    | io e r _ ih => exact .io e (r.pres (Pres.less hPP)) ih
  refine ⟨fun a => Av S'.A ow' a ∧ some a ∉ l, ds, (_, os), h2, c.cargs fun a z => (eqP a).mp z, no, fun a z z2 => z2.2 z, fun a z => J.live a z.1, fun v H2 p => ?_⟩
  have ho := evC_own h1
  have nl : ∀ a o, H a = some o → some a ∉ ow → H1 a = some o ∧ some a ∉ ow' ∧ some a ∉ l := fun a o e n => by
    obtain ⟨q1, q2⟩ := st.cell a o e n
    refine ⟨q1, q2, fun z => ?_⟩
    rcases nn a z with ⟨i, _, ei⟩ | ⟨ei, _⟩
    · exact q2 (List.mem_of_getElem? ei)
    · rw [e] at ei; cases ei
  have stC : ∀ {P : Addr → Prop}, Outs K H2 P l os → Stp ow H ow' H2 := fun ou => by
    refine ⟨fun a o e n => ?_, fun a xs e => ?_, fun a o u e => ?_, fun a o e => ?_⟩
    · obtain ⟨q1, q2, q3⟩ := nl a o e n
      exact ⟨p.frame a o q1 q3, q2⟩
    · have e1 := st.tup a xs e
      refine p.frame a _ e1 fun z => ?_
      obtain ⟨o, e2, m⟩ := J.live a (c.av z).1
      rw [e1] at e2; cases e2; exact m
    · have e1 := st.frz a o u e
      refine p.frame a _ e1 fun z => ?_
      obtain ⟨o, e2, m⟩ := J.live a (c.av z).1
      rw [e1] at e2; cases e2; exact m
    · obtain ⟨o1, e1⟩ := st.dom a o e
      by_cases hl : some a ∈ l
      · obtain ⟨o', e', _⟩ := outs_mu ou hl; exact ⟨o', e'⟩
      · exact ⟨o1, p.frame a o1 e1 hl⟩
  rcases p.ret with ⟨r, n, ou⟩ | ⟨hfr, pp, o, rfl, hp, ep, rc, ou⟩
  · have J2 : Sim K S' ow' σ H2 (putOuts as os e) := J.afterIo c nd ho ex.h0 p.frame (less (fun a z => (eqP a).mpr z) ou) (.inl rfl)
    refine q S ow' v H2 (stC ou) (J2.less ex.sub ex.h0 ex.io (by rw [ex.lk]; exact fun _ z => z)) (.inl ⟨rfl, r.pres (Pres.less fun a z => (eqP a).mpr (Or.imp (ex.sub a) id z)), n⟩)
  · have J2 : Sim K (S'.add pp) ow' σ H2 (putOuts as os e) := J.afterIo (S2 := S'.add pp) c nd ho ex.h0 p.frame (less (fun a z => by
      rcases z with (z | z) | z
      · exact .inl ((eqP a).mpr (.inl z))
      · exact .inr z
      · exact .inl ((eqP a).mpr (.inr z))) ou) (.inr ⟨pp, o, rfl, hp, ep, rc.mu⟩)
    refine q (S.add pp) ow' _ H2 (stC ou) (J2.less (S := S.add pp) (fun a z => Or.imp (ex.sub a) id z) ex.h0 ex.io (by show ∀ p ∈ S.lk, p ∈ S'.lk; rw [ex.lk]; exact fun _ z => z)) (.inr ⟨hfr, pp, o, rfl, rfl, st.back hp, ep, rc.pres (Pres.less fun a z => ?_)⟩)
    rcases z with (z | z) | z
    · exact .inl ((eqP a).mpr (.inl (ex.sub a z)))
    · exact .inr z
    · exact .inl ((eqP a).mpr (.inr z))
end
section
variable {X : Cx} {pos : Pos}
theorem pcas_nil : PA X [] (tCas X.K []) := pa_nil
theorem pcas_cons {e : Expr} {es : List Expr} {a : CA} {as : List CA} (ha : PE X e (rdCA X.K a)) (hr : PA X es (tCas X.K as)) (hs : starEach (e :: es) X.env = (false, eval e X.env) :: starEach es X.env := by rfl) : PA X (e :: es) (tCas X.K (a :: as)) := pa_cons ha hr hs
theorem ca_v {e : Expr} {m : EM} (h : PE X e (EvS X.K m)) : PE X e (rdCA X.K (.v m)) := h
theorem ca_f {e : Expr} {m : EM} (h : PE X e (EvF X.K m)) : PE X e (rdCA X.K (.v m)) := e_sh h
theorem ca_t {e : Expr} {m : EM} (h : PE X e (EvF X.K m)) : PE X e (rdCA X.K (.t m)) := h
theorem ca_io {i : Nat} {x : Str} (h : PE X (.Name x pos) (tVar i)) : PE X (.Name x pos) (rdCA X.K (.io i)) := h
theorem e_callIo {fr : Bool} {k : Nat} {f : Fn} {bs : List Bool} {fa : Addr} {fd : FuncData} {ps : List Str} {x : Str} {p : Pos} {e : Expr} {es : List Expr} {as : List CA} (F : FnOk X.prog X.w X.K X.mg X.base CX0 k fa fd ps (spP X.K ⟨bs, fr⟩ f)) (hbs : as.map CA.fl = bs) (hr : Room k X.A) (hg : Gl X x) (hm : X.mg x = some (.ref fa)) (hk : PySem.W.keepIn X.K (.ref fa) = true) (hb : Binds X.K fd ps [])
    (ha : PA X (e :: es) (tCas X.K as)) (hdb : (x == ("__debug__" : Str)) = false := by decide) (he : starEach (e :: es) X.env = (false, eval e X.env) :: starEach es X.env := by rfl) (hpl : (backTo pos (starEach es X.env)).any (·.1) = false := by rfl) :
    PE X (.Call (.Name x p) (e :: es) [] pos) (Ev fr X.K (eCallIo f as)) := by
  subst hbs
  exact (pe_call F hr hg hm hk hb .nil pass0 ha hdb he hpl).imp fun _ _ _ h => callIo_go h
end
end PL
end

section
set_option maxRecDepth 100000
set_option maxHeartbeats 3900000
/-! PV1: operations on plain data: numbers, comparisons, texts, tuples, lists. -/
namespace PL
open PySem Spec PyProof.Rows L2

section
variable {K : PySem.W.Frag} {H : Hp} {P : Addr → Prop} {v : V} {d : D}
theorem RpT.int (h : RpT K H P v (.int i)) : v = .int i := by
  rcases h with h | ⟨a, o, _, _, r⟩
  · exact h.int_inv
  · cases r
theorem RpT.bl (h : RpT K H P v (.bl b)) : v = .bl b := by
  rcases h with h | ⟨a, o, _, _, r⟩
  · exact h.bl_inv
  · cases r
theorem RpT.non (h : RpT K H P v .non) : v = .non := by
  rcases h with h | ⟨a, o, _, _, r⟩
  · cases h with
    | non => rfl
    | cell _ _ rc => cases rc
    | frz _ rc => cases rc
  · cases r
theorem RpT.str {s : List Nat} (h : RpT K H P v (.str s)) : ∃ x : Str, v = .str x ∧ x.cps.toList = s := by
  rcases h with h | ⟨a, o, _, _, r⟩
  · cases h with
    | str x => exact ⟨x, rfl, rfl⟩
    | cell _ _ rc => cases rc
    | frz _ rc => cases rc
  · cases r
theorem RpT.tup {ds : List D} (h : RpT K H P v (.tup ds)) : ∃ a vs, v = .ref a ∧ SqT K H a vs ∧ RpL K H P vs ds := by
  rcases h with h | ⟨a, o, _, _, r⟩
  · cases h with
    | @tup a vs _ hs rl => exact ⟨a, vs, rfl, hs, rl⟩
    | cell _ _ rc => cases rc
    | frz _ rc => cases rc
  · cases r
theorem RpT.lst {ds : List D} (h : RpT K H P v (.lst ds)) : ∃ a vs, v = .ref a ∧ SqL K H a vs ∧ RpL K H P vs ds := by
  rcases h with h | ⟨a, o, rfl, e, r⟩
  · cases h with
    | @cell a o _ e _ rc => cases rc with | @lst vs _ rl => exact ⟨a, vs, rfl, .inl (.inl e), rl⟩
    | @frz a ob o _ e rc => cases rc with | @lst vs _ rl => exact ⟨a, vs, rfl, .inl (.inr ⟨ob, e⟩), rl⟩
    | @kls a vs _ hk rl => exact ⟨a, vs, rfl, hk.sq, rl⟩
  · cases r with | @lst vs _ rl => exact ⟨a, vs, rfl, .inl (.inl e), rl⟩
theorem Rp.strOf (s : List Nat) : Rp K H P (.str ⟨s.toArray⟩) (.str s) := by
  have := Rp.str (K := K) (H := H) (P := P) ⟨s.toArray⟩
  simpa using this
theorem Rp.strEq {x : Str} {s : List Nat} (h : x.cps.toList = s) : Rp K H P (.str x) (.str s) := by rw [← h]; exact .str x
end
theorem str_eta (x : Str) : (⟨x.cps.toList.toArray⟩ : Str) = x := by cases x; simp
theorem str_app (x y : Str) : (x ++ y).cps.toList = x.cps.toList ++ y.cps.toList := by
  show (x.cps ++ y.cps).toList = _
  simp
theorem str_len (x : Str) : x.length = x.cps.toList.length := by
  show x.cps.size = _
  simp

/-! ### numbers -/
def small64 (i : Int) : Bool := decide (i.natAbs < 2 ^ 64)
def dAdd : List D → Option D
  | [.int i, .int j] => some (.int (i + j))
  | [.str s, .str t] => if s.length + t.length ≤ 16777216 then some (.str (s ++ t)) else none
  | [.tup s, .tup t] => if s.length + t.length ≤ 16777216 then some (.tup (s ++ t)) else none
  | [.lst s, .lst t] => if s.length + t.length ≤ 16777216 then some (.lst (s ++ t)) else none
  | _ => none
def dSub : List D → Option D
  | [.int i, .int j] => some (.int (i - j))
  | _ => none
def dMul : List D → Option D
  | [.int i, .int j] => if (small64 i || small64 j) = true then some (.int (i * j)) else none
  | [.lst s, .int k] => if k.natAbs < 2 ^ 62 ∧ s.length * k.toNat ≤ 16777216 then some (.lst (List.replicate k.toNat s).flatten) else none
  | _ => none
def dFdiv : List D → Option D
  | [.int i, .int j] => if 0 < j ∧ j.natAbs < 1073741824 then some (.int (i / j)) else none
  | _ => none
def dMod : List D → Option D
  | [.int i, .int j] => if 0 < j then some (.int (i % j)) else none
  | _ => none
def dPow : List D → Option D
  | [.int i, .int j] => if 0 ≤ j ∧ j.natAbs ≤ 1000000 ∧ i.natAbs < 2 ^ 64 then some (.int (i ^ j.toNat)) else none
  | _ => none
def dShl : List D → Option D
  | [.int i, .int j] => if 0 ≤ j ∧ j.natAbs ≤ 1000000 ∧ i.natAbs < 2 ^ 64 then some (.int (i * 2 ^ j.toNat)) else none
  | _ => none
def dShr : List D → Option D
  | [.int i, .int j] => if 0 ≤ j then some (.int (i / 2 ^ j.toNat)) else none
  | _ => none
def dAnd : List D → Option D
  | [.int i, .int j] => some (.int (Builtin.bitAnd i j))
  | _ => none
def dOr : List D → Option D
  | [.int i, .int j] => some (.int (Builtin.bitOr i j))
  | _ => none
def dXor : List D → Option D
  | [.int i, .int j] => some (.int (Builtin.bitXor i j))
  | _ => none
def dNeg : List D → Option D
  | [.int i] => some (.int (-i))
  | _ => none
def dInv : List D → Option D
  | [.int i] => some (.int (Builtin.bitNot i))
  | _ => none
section
variable {X : Cx}
/-- two ints in, an int out -/
theorem op_int2 {f : Value → Value → Sem Value} {C : Int → Int → Prop} {g : Int → Int → Int} {gd : List D → Option D} (ho : OpR X f (rI C fun i j => .int (g i j)))
    (hg : ∀ dx dy d, gd [dx, dy] = some d → ∃ i j, dx = .int i ∧ dy = .int j ∧ C i j ∧ d = .int (g i j)) : OpR X f (r2 true X.K gd) := by
  intro pins s σ H x y v u Q I rx ry ⟨P, dx, dy, d, hx, hy, hd, q⟩
  obtain ⟨i, j, rfl, rfl, hc, rfl⟩ := hg dx dy d hd
  exact ho pins s σ H x y v u Q I rx ry ⟨i, j, hx.int, hy.int, hc, q _ _ (.same (.int _) fun _ => rfl)⟩
theorem op_int20 {f : Value → Value → Sem Value} {g : Int → Int → Int} {gd : List D → Option D} (ho : OpR X f (rI0 fun i j => .int (g i j)))
    (hg : ∀ dx dy d, gd [dx, dy] = some d → ∃ i j, dx = .int i ∧ dy = .int j ∧ d = .int (g i j)) : OpR X f (r2 true X.K gd) := by
  intro pins s σ H x y v u Q I rx ry ⟨P, dx, dy, d, hx, hy, hd, q⟩
  obtain ⟨i, j, rfl, rfl, rfl⟩ := hg dx dy d hd
  exact ho pins s σ H x y v u Q I rx ry ⟨i, j, hx.int, hy.int, q _ _ (.same (.int _) fun _ => rfl)⟩
theorem o_sub : OpR X (binaryOp .Sub) (r2 true X.K dSub) := op_int20 op_sub fun dx dy d h => by
  unfold dSub at h
  split at h
  · rename_i i j e; cases e; cases h; exact ⟨i, j, rfl, rfl, rfl⟩
  · cases h
theorem o_fdiv : OpR X (binaryOp .FloorDiv) (r2 true X.K dFdiv) := op_int2 op_fdiv fun dx dy d h => by
  unfold dFdiv at h
  split at h
  · rename_i i j e; cases e
    split at h
    · rename_i hc; cases h; exact ⟨i, j, rfl, rfl, ⟨hc.1, by omega⟩, rfl⟩
    · cases h
  · cases h
theorem o_mod : OpR X (binaryOp .Mod) (r2 true X.K dMod) := op_int2 op_mod fun dx dy d h => by
  unfold dMod at h
  split at h
  · rename_i i j e; cases e
    split at h
    · rename_i hc; cases h; exact ⟨i, j, rfl, rfl, hc, rfl⟩
    · cases h
  · cases h
theorem o_pow : OpR X (binaryOp .Pow) (r2 true X.K dPow) := op_int2 op_pow fun dx dy d h => by
  unfold dPow at h
  split at h
  · rename_i i j e; cases e
    split at h
    · rename_i hc; cases h; exact ⟨i, j, rfl, rfl, ⟨hc.1, by omega, hc.2.2⟩, rfl⟩
    · cases h
  · cases h
theorem o_shl : OpR X (binaryOp .LShift) (r2 true X.K dShl) := op_int2 op_shl fun dx dy d h => by
  unfold dShl at h
  split at h
  · rename_i i j e; cases e
    split at h
    · rename_i hc; cases h; exact ⟨i, j, rfl, rfl, ⟨hc.1, by omega, hc.2.2⟩, rfl⟩
    · cases h
  · cases h
theorem o_shr : OpR X (binaryOp .RShift) (r2 true X.K dShr) := op_int2 op_shr fun dx dy d h => by
  unfold dShr at h
  split at h
  · rename_i i j e; cases e
    split at h
    · rename_i hc; cases h; exact ⟨i, j, rfl, rfl, hc, rfl⟩
    · cases h
  · cases h
theorem o_and : OpR X (binaryOp .BitAnd) (r2 true X.K dAnd) := op_int20 op_and fun dx dy d h => by
  unfold dAnd at h
  split at h
  · rename_i i j e; cases e; cases h; exact ⟨i, j, rfl, rfl, rfl⟩
  · cases h
theorem o_or : OpR X (binaryOp .BitOr) (r2 true X.K dOr) := op_int20 op_or fun dx dy d h => by
  unfold dOr at h
  split at h
  · rename_i i j e; cases e; cases h; exact ⟨i, j, rfl, rfl, rfl⟩
  · cases h
theorem o_xor : OpR X (binaryOp .BitXor) (r2 true X.K dXor) := op_int20 op_xor fun dx dy d h => by
  unfold dXor at h
  split at h
  · rename_i i j e; cases e; cases h; exact ⟨i, j, rfl, rfl, rfl⟩
  · cases h
theorem o_neg : UnR X (unaryOp .USub) (r1 true X.K dNeg) := by
  intro pins s σ H x v Q I rx ⟨P, dx, d, hx, hd, q⟩
  unfold dNeg at hd
  split at hd
  · rename_i i e; cases e; cases hd
    exact un_neg pins s σ H x v Q I rx ⟨i, hx.int, q _ _ (.same (.int _) fun _ => rfl)⟩
  · cases hd
theorem o_inv : UnR X (unaryOp .Invert) (r1 true X.K dInv) := by
  intro pins s σ H x v Q I rx ⟨P, dx, d, hx, hd, q⟩
  unfold dInv at hd
  split at hd
  · rename_i i e; cases e; cases hd
    exact un_inv pins s σ H x v Q I rx ⟨i, hx.int, q _ _ (.same (.int _) fun _ => rfl)⟩
  · cases hd
/-- two lists, told or of the module -/
theorem cat_lists {pins : List (Addr × Obj)} {s : Shared} {σ : L2.St} {H : Hp} {l b : Addr} {xs zs : List V} {Q : VK} (I : Inv X pins σ H s) (hH : SqL X.K H l xs) (hB : SqL X.K H b zs) (hz : xs.length + zs.length ≤ sizeLine)
    (q : ∀ p, H p = none → Q (.ref p) (upd H p (.lst (xs ++ zs)))) : wpAny (model X.prog X.w) X.A (binaryOp .Add (.ref l) (.ref b)) (EP X pins σ Q) X.xe s := by
  obtain ⟨us1, r, ⟨⟨c1, d1, dt1, sl1⟩, n, e, hc, hd, hs⟩, _⟩ := I.list hH
  obtain ⟨us2, r2, ⟨⟨c2, d2, dt2, sl2⟩, n2, e2, hc2, hd2, hs2⟩, _⟩ := I.list hB
  simp only at hc hd hs hc2 hd2 hs2
  subst hc hd hs hc2 hd2 hs2
  have joined : us1.toArray ++ us2.toArray = (us1 ++ us2).toArray := by simp
  refine concat_meets ⟨_, e, rfl⟩ ⟨_, e2, rfl⟩ noFill_list_add seq_list_add PySem.F.slot_list_add PySem.F.entry_list_add (PySem.F.args_list_add_2 _ _) (list_addW l b us1.toArray us2.toArray n n2 _ _ sl1 sl2 (by rw [List.size_toArray, List.size_toArray, ← r.length, ← r2.length]; exact hz)) ⟨e, e2, ?_⟩
  rw [joined]
  exact ⟨.ref _, _, I.lnew (t' := s.toks) (r.append r2) (by rw [List.length_append]; exact hz), rfl, q _ I.fresh⟩
theorem o_add : OpR X (binaryOp .Add) (r2 true X.K dAdd) := by
  intro pins s σ H x y v u Q I rx ry ⟨P, dx, dy, d, hx, hy, hd, q⟩
  unfold dAdd at hd
  split at hd
  · rename_i i j e; cases e; cases hd
    exact op_add pins s σ H x y v u Q I rx ry ⟨i, j, hx.int, hy.int, q _ _ (.same (.int _) fun _ => rfl)⟩
  · rename_i a b e; cases e
    split at hd
    · rename_i hz; cases hd
      obtain ⟨x', rfl, ex⟩ := hx.str
      obtain ⟨y', rfl, ey⟩ := hy.str
      refine op_add_str pins s σ H _ _ v u Q I rx ry ⟨x', y', rfl, rfl, ?_, q _ _ (.same (.strEq ?_) fun _ => rfl)⟩
      · rw [str_len, str_len, ex, ey, sizeLine_eq]; exact hz
      · rw [str_app, ex, ey]
    · cases hd
  · rename_i a b e; cases e
    split at hd
    · rename_i hz; cases hd
      obtain ⟨ax, vx, rfl, sx, lx⟩ := hx.tup
      obtain ⟨ay, vy, rfl, sy, ly⟩ := hy.tup
      refine op_catA pins s σ H _ _ v u Q I rx ry ⟨ax, ay, vx, vy, rfl, rfl, sx, sy, ?_, fun e => ?_, fun _ e => ?_, fun _ _ p hp => ?_⟩
      · rw [lx.length, ly.length, sizeLine_eq]; exact hz
      · subst e; cases lx
        exact q _ _ (.same (.tup sy ly) fun _ => rfl)
      · subst e; cases ly
        rw [List.append_nil] at q
        exact q _ _ (.same (.tup sx lx) fun _ => rfl)
      · exact q _ _ (.newT hp (lx.append ly))
    · cases hd
  · rename_i a b e; cases e
    split at hd
    · rename_i hz; cases hd
      obtain ⟨ax, vx, rfl, sx, lx⟩ := hx.lst
      obtain ⟨ay, vy, rfl, sy, ly⟩ := hy.lst
      cases rx
      cases ry
      exact cat_lists I sx sy (by rw [lx.length, ly.length, sizeLine_eq]; exact hz) fun p hp => q _ _ (.newC hp (.lst (lx.append ly)))
    · cases hd
  · cases hd
theorem rep_list {pins : List (Addr × Obj)} {s : Shared} {σ : L2.St} {H : Hp} {l : Addr} {xs : List V} {k : Int} {t : Tok} {Q : VK} (I : Inv X pins σ H s) (hH : SqL X.K H l xs) (h1 : -(2 ^ 63) ≤ k) (h2 : k < 2 ^ 63) (hz : xs.length * k.toNat ≤ sizeLine)
    (q : ∀ p, H p = none → Q (.ref p) (upd H p (.lst (List.replicate k.toNat xs).flatten))) : wpAny (model X.prog X.w) X.A (binaryOp .Mult (.ref l) (.int k t)) (EP X pins σ Q) X.xe s := by
  obtain ⟨us1, r, ⟨⟨c1, d1, dt1, sl1⟩, n, e, hc, hd, hs⟩, _⟩ := I.list hH
  simp only at hc hd hs
  subst hc hd hs
  have hl := r.length
  have szq : us1.toArray.size * k.toNat ≤ sizeLine := by rw [List.size_toArray, ← hl]; exact hz
  have capq : ¬ us1.toArray.size * k.toNat > (2 ^ 63 - 1) / 8 := by
    have : (sizeLine : Nat) ≤ (2 ^ 63 - 1) / 8 := by decide
    omega
  have fitq : ¬ (!Builtin.List.listFitsIndex k) = true := by
    rw [fitsIndex_both h1 h2]
    exact Bool.false_ne_true
  have longq : ¬ Builtin.List.listTooLong (us1.toArray.size * k.toNat) = true := by
    rw [notLongL szq]
    exact Bool.false_ne_true
  have rowsq : List.foldl (fun x1 x2 => x1 ++ x2) #[] (List.replicate (if us1.toArray.isEmpty = true then 0 else k.toNat) us1.toArray) = (List.replicate k.toNat us1).flatten.toArray := by
    have step0 : ∀ m : Nat, List.foldl (fun x1 x2 => x1 ++ x2) #[] (List.replicate m us1.toArray) = (List.replicate m us1).flatten.toArray := fun m => by
      have := foldl_rep us1 m []
      rw [List.nil_append] at this
      exact this
    rw [step0]
    cases us1 with
    | nil => simp
    | cons hd0 tl0 => rw [if_neg (by simp)]
  refine wpAny_binaryOp_repeat_ref (T := "list") (U := "int") (by decide) ⟨_, e, rfl⟩ (fun s' => typeIs_int s' k t) noFill_list_mul PySem.F.fills_int_mul PySem.F.slot_int_rmul repeat_list PySem.F.slot_int_index.lookup
    (call_meets PySem.F.slot_int_rmul (typeIs_int s k t) PySem.F.entry_int_rmul (PySem.F.args_int_rmul_2 _ _) (lm_int_rmul_list_any k t l us1.toArray n _ sl1)
      ⟨e, rfl, ⟨_, e, rfl⟩, call_meets PySem.F.slot_list_mul ⟨_, e, rfl⟩ PySem.F.entry_list_mul (PySem.F.args_list_mul_2 _ _) (lm_list_mul_any l us1.toArray n _ sl1 k t fitq capq longq) ⟨e, ?_⟩⟩)
  rw [rowsq]
  refine ⟨.ref _, _, I.lnew (t' := s.toks) (r.rep k.toNat) ?_, rfl, q _ I.fresh⟩
  rw [PyProof.Rows.lm_len_rep_flat, Nat.mul_comm]; exact hz
end
end PL
end

section
set_option maxRecDepth 100000
set_option maxHeartbeats 3900000
/-! PV2: comparisons. -/
namespace PL
open PySem Spec PyProof.Rows L2

mutual
def deq : D → D → Bool
  | .non, .non => true
  | .bl a, .bl b => a == b
  | .bl a, .int j => (if a then 1 else 0) == j
  | .int i, .bl b => i == (if b then 1 else 0)
  | .int i, .int j => i == j
  | .str x, .str y => x == y
  | .lst xs, .lst ys => deqL xs ys
  | .tup xs, .tup ys => deqL xs ys
  | _, _ => false
def deqL : List D → List D → Bool
  | [], [] => true
  | x :: xs, y :: ys => deq x y && deqL xs ys
  | _, _ => false
end
mutual
def okD : D → Nat → Bool
  | .non, _ => true
  | .bl _, _ => true
  | .int _, _ => true
  | .str s, _ => s.all (· < 0x110000)
  | .lst ds, n => decide (0 < n) && okDs ds (n - 1)
  | .tup ds, n => decide (0 < n) && okDs ds (n - 1)
  | _, _ => false
def okDs : List D → Nat → Bool
  | [], _ => true
  | d :: ds, n => okD d n && okDs ds n
end
mutual
def pyD : D → PyData
  | .non => .none
  | .bl b => .bool b
  | .int i => .int i
  | .str s => .str ⟨s.toArray⟩
  | .lst ds => .list (pyDs ds)
  | .tup ds => .tuple (pyDs ds)
  | .dct _ => .none
  | .opq _ => .none
def pyDs : List D → List PyData
  | [] => []
  | d :: ds => pyD d :: pyDs ds
end
def scalD : D → D → Bool
  | .non, .non => true | .non, .int _ => true | .int _, .non => true | .non, .bl _ => true | .bl _, .non => true | .non, .str _ => true | .str _, .non => true
  | .int _, .int _ => true | .bl _, .bl _ => true | .str _, .str _ => true
  | .int _, .str _ => true | .str _, .int _ => true | .bl _, .str _ => true | .str _, .bl _ => true
  | _, _ => false
mutual
theorem py_lay : ∀ (d : D) (n : Nat), okD d n = true → (pyD d).canLay0 = true ∧ (pyD d).depth ≤ n
  | .non, n, _ => by simp [pyD, PyData.canLay0, PyData.depth]
  | .bl b, n, _ => by simp [pyD, PyData.canLay0, PyData.depth]
  | .int i, n, _ => by simp [pyD, PyData.canLay0, PyData.depth]
  | .str s, n, h => by
    rw [okD] at h
    simp only [pyD, PyData.canLay0, PyData.depth]
    refine ⟨?_, Nat.zero_le _⟩
    show (s.toArray).all (· < 0x110000) = true
    simpa using h
  | .lst ds, n, h => by
    rw [okD, Bool.and_eq_true, decide_eq_true_eq] at h
    have := py_lays ds (n - 1) h.2
    simp only [pyD, PyData.canLay0, PyData.depth]
    exact ⟨this.1, by omega⟩
  | .tup ds, n, h => by
    rw [okD, Bool.and_eq_true, decide_eq_true_eq] at h
    have := py_lays ds (n - 1) h.2
    simp only [pyD, PyData.canLay0, PyData.depth]
    exact ⟨this.1, by omega⟩
  | .dct _, n, h => by simp [okD] at h
  | .opq _, n, h => by simp [okD] at h
theorem py_lays : ∀ (ds : List D) (n : Nat), okDs ds n = true → PyData.canLayAll0 (pyDs ds) = true ∧ PyData.depthAll (pyDs ds) ≤ n
  | [], n, _ => by simp [pyDs, PyData.canLayAll0, PyData.depthAll]
  | d :: ds, n, h => by
    rw [okDs, Bool.and_eq_true] at h
    have h1 := py_lay d n h.1
    have h2 := py_lays ds n h.2
    simp only [pyDs, PyData.canLayAll0, PyData.depthAll]
    exact ⟨by rw [h1.1, h2.1]; rfl, by omega⟩
end
theorem py_shaped {d : D} (h : okD d 64 = true) : SeqAt.shaped (pyD d) = true := by
  have := py_lay d 64 h
  show ((pyD d).canLay0 && decide ((pyD d).depth ≤ 64)) = true
  rw [this.1, decide_eq_true this.2]; rfl
section
variable {K : PySem.W.Frag} {H : Hp} {P : Addr → Prop}
mutual
theorem RpT.dp : ∀ (d : D) (n : Nat) (v : V), okD d n = true → RpT K H P v d → Dp K H v (pyD d)
  | .non, n, v, _, h => by rw [h.non, pyD]; exact .non
  | .bl b, n, v, _, h => by rw [h.bl, pyD]; exact .bl b
  | .int i, n, v, _, h => by rw [h.int, pyD]; exact .int i
  | .str s, n, v, _, h => by
    obtain ⟨x, rfl, ex⟩ := h.str
    rw [pyD, ← ex, str_eta]; exact .str x
  | .lst ds, n, v, o, h => by
    rw [okD, Bool.and_eq_true] at o
    obtain ⟨a, vs, rfl, s, l⟩ := h.lst
    rw [pyD]; exact .lst s (Rp.dps ds (n - 1) vs o.2 l)
  | .tup ds, n, v, o, h => by
    rw [okD, Bool.and_eq_true] at o
    obtain ⟨a, vs, rfl, s, l⟩ := h.tup
    rw [pyD]; exact .tup s (Rp.dps ds (n - 1) vs o.2 l)
  | .dct _, n, _, h, _ => by simp [okD] at h
  | .opq _, n, _, h, _ => by simp [okD] at h
theorem Rp.dps : ∀ (ds : List D) (n : Nat) (vs : List V), okDs ds n = true → RpL K H P vs ds → DpAll K H vs (pyDs ds)
  | [], n, vs, _, h => by cases h; rw [pyDs]; exact .nil
  | d :: ds, n, vs, o, h => by
    rw [okDs, Bool.and_eq_true] at o
    cases h with
    | cons h1 h2 => rw [pyDs]; exact .cons (RpT.dp d n _ o.1 (.inl h1)) (Rp.dps ds n _ o.2 h2)
end
end
theorem str_beq (s t : List Nat) : ((⟨s.toArray⟩ : Str) == ⟨t.toArray⟩) = (s == t) := by
  rw [Bool.eq_iff_iff]; simp
mutual
theorem py_eqv : ∀ (d e : D) (n m : Nat), okD d n = true → okD e m = true → PyData.eqv (pyD d) (pyD e) = deq d e
  | .non, e, n, m, _, h => by cases e <;> simp_all [pyD, PyData.eqv, deq, okD]
  | .bl b, e, n, m, _, h => by cases e <;> simp_all [pyD, PyData.eqv, deq, okD]
  | .int i, e, n, m, _, h => by cases e <;> simp_all [pyD, PyData.eqv, deq, okD]
  | .str s, e, n, m, _, h => by
    cases e <;> first | (simp only [pyD, PyData.eqv, deq]; exact str_beq _ _) | simp_all [pyD, PyData.eqv, deq, okD]
  | .lst ds, e, n, m, h1, h => by
    cases e with
    | lst es =>
      rw [okD, Bool.and_eq_true] at h h1
      simp only [pyD, PyData.eqv, deq]; exact py_eqvs ds es _ _ h1.2 h.2
    | _ => simp_all [pyD, PyData.eqv, deq, okD]
  | .tup ds, e, n, m, h1, h => by
    cases e with
    | tup es =>
      rw [okD, Bool.and_eq_true] at h h1
      simp only [pyD, PyData.eqv, deq]; exact py_eqvs ds es _ _ h1.2 h.2
    | _ => simp_all [pyD, PyData.eqv, deq, okD]
  | .dct _, _, _, _, h, _ => by simp [okD] at h
  | .opq _, _, _, _, h, _ => by simp [okD] at h
theorem py_eqvs : ∀ (ds es : List D) (n m : Nat), okDs ds n = true → okDs es m = true → PyData.eqvAll (pyDs ds) (pyDs es) = deqL ds es
  | [], [], _, _, _, _ => by simp [pyDs, PyData.eqvAll, deqL]
  | [], _ :: _, _, _, _, _ => by simp [pyDs, PyData.eqvAll, deqL]
  | _ :: _, [], _, _, _, _ => by simp [pyDs, PyData.eqvAll, deqL]
  | d :: ds, e :: es, n, m, h1, h2 => by
    rw [okDs, Bool.and_eq_true] at h1 h2
    simp only [pyDs, PyData.eqvAll, deqL]
    rw [py_eqv d e n m h1.1 h2.1, py_eqvs ds es n m h1.2 h2.2]
end
def dEq : List D → Option D
  | [x, y] => if (scalD x y || (okD x 64 && okD y 64)) = true then some (.bl (deq x y)) else none
  | _ => none
def dNe : List D → Option D
  | [x, y] => if (scalD x y || (okD x 64 && okD y 64)) = true then some (.bl (!deq x y)) else none
  | _ => none
section
variable {X : Cx}
theorem scal_eq {K : PySem.W.Frag} {H : Hp} {P P' : Addr → Prop} {v u : V} {x y : D} (h : scalD x y = true) (hx : RpT K H P v x) (hy : RpT K H P' u y) : scal v u = true ∧ decide (v = u) = deq x y := by
  cases x <;> cases y <;> first | exact absurd (show false = true from h) Bool.false_ne_true | skip
  all_goals try (have e1 := hx.non; subst e1)
  all_goals try (have e1 := hx.int; subst e1)
  all_goals try (have e1 := hx.bl; subst e1)
  all_goals try (have e1 := hy.non; subst e1)
  all_goals try (have e1 := hy.int; subst e1)
  all_goals try (have e1 := hy.bl; subst e1)
  all_goals try (obtain ⟨sx, e1, ex⟩ := hx.str; subst e1; subst ex)
  all_goals try (obtain ⟨sy, e1, ey⟩ := hy.str; subst e1; subst ey)
  all_goals first
    | exact ⟨rfl, dec_int⟩
    | exact ⟨rfl, dec_bl⟩
    | exact ⟨rfl, dec_str.trans (by obtain ⟨⟨a⟩⟩ := sx; obtain ⟨⟨b⟩⟩ := sy; exact str_beq _ _)⟩
    | exact ⟨rfl, by simp [deq]⟩
theorem o_eq (hu : X.A.units + 64 < cLine) : OpR X (compareOp .Eq) (r2 true X.K dEq) := by
  intro pins s σ H x y v u Q I rx ry ⟨P, dx, dy, d, hx, hy, hd, q⟩
  unfold dEq at hd
  · simp only at hd
    split at hd
    · rename_i hc; cases hd
      by_cases hs : scalD dx dy = true
      · obtain ⟨h1, h2⟩ := scal_eq hs hx hy
        exact op_eq pins s σ H _ _ v u Q I rx ry ⟨h1, by rw [h2]; exact q _ _ (.same (.bl _) fun _ => rfl)⟩
      · rw [Bool.or_eq_true, Bool.and_eq_true] at hc
        obtain ⟨c1, c2⟩ := hc.resolve_left hs
        refine op_eqD hu pins s σ H _ _ v u Q I rx ry ⟨_, _, RpT.dp _ _ _ c1 hx, RpT.dp _ _ _ c2 hy, py_shaped c1, py_shaped c2, ?_⟩
        rw [py_eqv _ _ _ _ c1 c2]
        exact q _ _ (.same (.bl _) fun _ => rfl)
    · cases hd
theorem o_ne (hu : X.A.units + 64 < cLine) : OpR X (compareOp .NotEq) (r2 true X.K dNe) := by
  intro pins s σ H x y v u Q I rx ry ⟨P, dx, dy, d, hx, hy, hd, q⟩
  unfold dNe at hd
  · simp only at hd
    split at hd
    · rename_i hc; cases hd
      by_cases hs : scalD dx dy = true
      · obtain ⟨h1, h2⟩ := scal_eq hs hx hy
        exact op_ne pins s σ H _ _ v u Q I rx ry ⟨h1, by rw [h2]; exact q _ _ (.same (.bl _) fun _ => rfl)⟩
      · rw [Bool.or_eq_true, Bool.and_eq_true] at hc
        obtain ⟨c1, c2⟩ := hc.resolve_left hs
        refine op_neD hu pins s σ H _ _ v u Q I rx ry ⟨_, _, RpT.dp _ _ _ c1 hx, RpT.dp _ _ _ c2 hy, py_shaped c1, py_shaped c2, ?_⟩
        rw [py_eqv _ _ _ _ c1 c2]
        exact q _ _ (.same (.bl _) fun _ => rfl)
    · cases hd
end
end PL
end

section
set_option maxRecDepth 100000
set_option maxHeartbeats 3900000
/-! PV3: order, is, in, isinstance, index, slices, plain built-in calls. -/
namespace PL
open PySem Spec PyProof.Rows L2

/-- the ints of a list of data -/
def intsD : List D → Option (List Int)
  | [] => some []
  | .int i :: r => (intsD r).map (i :: ·)
  | _ => none
def blsD : List D → Option (List Bool)
  | [] => some []
  | .bl i :: r => (blsD r).map (i :: ·)
  | _ => none
def strsD : List D → Option (List (List Nat))
  | [] => some []
  | .str i :: r => (strsD r).map (i :: ·)
  | _ => none
theorem intsD_map (ns : List Int) : intsD (ns.map .int) = some ns := by
  induction ns with
  | nil => rfl
  | cons n r ih => rw [List.map_cons, intsD, ih]; rfl
theorem blsD_map (ns : List Bool) : blsD (ns.map .bl) = some ns := by
  induction ns with
  | nil => rfl
  | cons n r ih => rw [List.map_cons, blsD, ih]; rfl
theorem strsD_map (ns : List (List Nat)) : strsD (ns.map .str) = some ns := by
  induction ns with
  | nil => rfl
  | cons n r ih => rw [List.map_cons, strsD, ih]; rfl
theorem intsD_eq : ∀ {ds : List D} {ns : List Int}, intsD ds = some ns → ds = ns.map .int
  | [], ns, h => by cases h; rfl
  | d :: ds, ns, h => by
    cases d <;> first | (cases h; done) | skip
    rename_i i
    rw [intsD, Option.map_eq_some_iff] at h
    obtain ⟨r, h1, rfl⟩ := h
    rw [intsD_eq h1]; rfl
theorem blsD_eq : ∀ {ds : List D} {ns : List Bool}, blsD ds = some ns → ds = ns.map .bl
  | [], ns, h => by cases h; rfl
  | d :: ds, ns, h => by
    cases d <;> first | (cases h; done) | skip
    rename_i i
    rw [blsD, Option.map_eq_some_iff] at h
    obtain ⟨r, h1, rfl⟩ := h
    rw [blsD_eq h1]; rfl
theorem strsD_eq : ∀ {ds : List D} {ns : List (List Nat)}, strsD ds = some ns → ds = ns.map .str
  | [], ns, h => by cases h; rfl
  | d :: ds, ns, h => by
    cases d <;> first | (cases h; done) | skip
    rename_i i
    rw [strsD, Option.map_eq_some_iff] at h
    obtain ⟨r, h1, rfl⟩ := h
    rw [strsD_eq h1]; rfl
section
variable {K : PySem.W.Frag} {H : Hp} {P : Addr → Prop}
theorem RpL.ints : ∀ {ns : List Int} {vs : List V}, RpL K H P vs (ns.map .int) → vs = ns.map V.int
  | [], _, h => by cases h; rfl
  | n :: ns, _, h => by
    rw [List.map_cons] at h
    cases h with | cons h1 h2 => rw [h1.int_inv, h2.ints]; rfl
theorem RpL.bls : ∀ {ns : List Bool} {vs : List V}, RpL K H P vs (ns.map .bl) → vs = ns.map V.bl
  | [], _, h => by cases h; rfl
  | n :: ns, _, h => by
    rw [List.map_cons] at h
    cases h with | cons h1 h2 => rw [h1.bl_inv, h2.bls]; rfl
theorem RpL.strs : ∀ {ns : List (List Nat)} {vs : List V}, RpL K H P vs (ns.map .str) → ∃ ys : List Str, vs = ys.map V.str ∧ ys.map (·.cps.toList) = ns
  | [], _, h => by cases h; exact ⟨[], rfl, rfl⟩
  | n :: ns, _, h => by
    rw [List.map_cons] at h
    cases h with | cons h1 h2 =>
      obtain ⟨x, rfl, e⟩ := RpT.str (.inl h1)
      obtain ⟨ys, rfl, e2⟩ := h2.strs
      exact ⟨x :: ys, rfl, by rw [List.map_cons, e, e2]⟩
theorem rpInts : ∀ (ns : List Int), RpL K H P (ns.map V.int) (ns.map .int)
  | [] => .nil
  | n :: ns => .cons (.int n) (rpInts ns)
end

/-! ### order -/
def dLt : List D → Option D
  | [.int i, .int j] => some (.bl (decide (i < j)))
  | [.str i, .str j] => some (.bl (decide (i < j)))
  | [.tup s, .tup t] => (intsD s).bind fun ns => (intsD t).map fun ms => .bl (HT.lexLt ns ms)
  | _ => none
def dLe : List D → Option D
  | [.int i, .int j] => some (.bl (decide (i ≤ j)))
  | [.str i, .str j] => some (.bl (!decide (j < i)))
  | _ => none
def dGt : List D → Option D
  | [.int i, .int j] => some (.bl (decide (j < i)))
  | [.str i, .str j] => some (.bl (decide (j < i)))
  | _ => none
def dGe : List D → Option D
  | [.int i, .int j] => some (.bl (decide (j ≤ i)))
  | [.str i, .str j] => some (.bl (!decide (i < j)))
  | _ => none
section
variable {X : Cx}
theorem o_lt (hu : X.A.units < cLine) : OpR X (compareOp .Lt) (r2 true X.K dLt) := by
  intro pins s σ H x y v u Q I rx ry ⟨P, dx, dy, d, hx, hy, hd, q⟩
  unfold dLt at hd
  split at hd
  · rename_i i j e; cases e; cases hd
    exact op_lt pins s σ H x y v u Q I rx ry ⟨i, j, hx.int, hy.int, q _ _ (.same (.bl _) fun _ => rfl)⟩
  · rename_i i j e; cases e; cases hd
    obtain ⟨x', rfl, ex⟩ := hx.str
    obtain ⟨y', rfl, ey⟩ := hy.str
    subst ex ey
    exact op_lt_str pins s σ H _ _ v u Q I rx ry ⟨x', y', rfl, rfl, q _ _ (.same (.bl _) fun _ => rfl)⟩
  · rename_i a b e; cases e
    simp only [Option.bind_eq_some_iff, Option.map_eq_some_iff] at hd
    obtain ⟨ns, h1, ms, h2, rfl⟩ := hd
    obtain ⟨ax, vx, rfl, sx, lx⟩ := hx.tup
    obtain ⟨ay, vy, rfl, sy, ly⟩ := hy.tup
    rw [intsD_eq h1] at lx
    rw [intsD_eq h2] at ly
    rw [lx.ints] at sx
    rw [ly.ints] at sy
    exact op_ltT hu pins s σ H _ _ v u Q I rx ry ⟨ax, ay, ns, ms, rfl, rfl, sx, sy, q _ _ (.same (.bl _) fun _ => rfl)⟩
  · cases hd
theorem o_le : OpR X (compareOp .LtE) (r2 true X.K dLe) := by
  intro pins s σ H x y v u Q I rx ry ⟨P, dx, dy, d, hx, hy, hd, q⟩
  unfold dLe at hd
  split at hd
  · rename_i i j e; cases e; cases hd
    exact op_le pins s σ H x y v u Q I rx ry ⟨i, j, hx.int, hy.int, q _ _ (.same (.bl _) fun _ => rfl)⟩
  · rename_i i j e; cases e; cases hd
    obtain ⟨x', rfl, ex⟩ := hx.str
    obtain ⟨y', rfl, ey⟩ := hy.str
    subst ex ey
    exact op_le_str pins s σ H _ _ v u Q I rx ry ⟨x', y', rfl, rfl, q _ _ (.same (.bl _) fun _ => rfl)⟩
  · cases hd
theorem o_gt : OpR X (compareOp .Gt) (r2 true X.K dGt) := by
  intro pins s σ H x y v u Q I rx ry ⟨P, dx, dy, d, hx, hy, hd, q⟩
  unfold dGt at hd
  split at hd
  · rename_i i j e; cases e; cases hd
    exact op_gt pins s σ H x y v u Q I rx ry ⟨i, j, hx.int, hy.int, q _ _ (.same (.bl _) fun _ => rfl)⟩
  · rename_i i j e; cases e; cases hd
    obtain ⟨x', rfl, ex⟩ := hx.str
    obtain ⟨y', rfl, ey⟩ := hy.str
    subst ex ey
    exact op_gt_str pins s σ H _ _ v u Q I rx ry ⟨x', y', rfl, rfl, q _ _ (.same (.bl _) fun _ => rfl)⟩
  · cases hd
theorem o_ge : OpR X (compareOp .GtE) (r2 true X.K dGe) := by
  intro pins s σ H x y v u Q I rx ry ⟨P, dx, dy, d, hx, hy, hd, q⟩
  unfold dGe at hd
  split at hd
  · rename_i i j e; cases e; cases hd
    exact op_ge pins s σ H x y v u Q I rx ry ⟨i, j, hx.int, hy.int, q _ _ (.same (.bl _) fun _ => rfl)⟩
  · rename_i i j e; cases e; cases hd
    obtain ⟨x', rfl, ex⟩ := hx.str
    obtain ⟨y', rfl, ey⟩ := hy.str
    subst ex ey
    exact op_ge_str pins s σ H _ _ v u Q I rx ry ⟨x', y', rfl, rfl, q _ _ (.same (.bl _) fun _ => rfl)⟩
  · cases hd

/-! ### is, is not -/
def isD : D → D → Option Bool
  | .opq _, _ => none
  | .non, .non => some true
  | _, .non => some false
  | .bl a, .bl b => some (a == b)
  | _, .bl _ => some false
  | _, _ => none
def dIs : List D → Option D
  | [x, y] => (isD x y).map .bl
  | _ => none
def dIsNot : List D → Option D
  | [x, y] => (isD x y).map fun b => .bl (!b)
  | _ => none
def isNonD : D → Bool
  | .non => true
  | _ => false
theorem plain_of {K : PySem.W.Frag} {H : Hp} {P : Addr → Prop} {x : V} {v : Value} {d : D} {b : Bool} (hx : RpT K H P x d) (rx : RelV x v) (hd : ∀ z, d ≠ .opq z) : plainIs v (.bool b) = true := by
  cases d with
  | opq z => exact absurd rfl (hd z)
  | non => cases hx.non; cases rx; rfl
  | bl a => cases hx.bl; cases rx; rfl
  | int i => cases hx.int; obtain ⟨t, rfl⟩ := rx; rfl
  | str i => obtain ⟨z, rfl, _⟩ := hx.str; obtain ⟨t, rfl⟩ := rx; rfl
  | tup ds => obtain ⟨a, _, rfl, _⟩ := hx.tup; cases rx; rfl
  | lst ds => obtain ⟨a, _, rfl, _⟩ := hx.lst; cases rx; rfl
  | dct ds =>
    rcases hx with h | ⟨a, o, rfl, _⟩
    · cases h with
      | cell => cases rx; rfl
      | frz => cases rx; rfl
    · cases rx; rfl
theorem vbl_ne {K : PySem.W.Frag} {H : Hp} {P : Addr → Prop} {x : V} {v : Value} {d : D} {b : Bool} (hx : RpT K H P x d) (rx : RelV x v) (hd : ∀ z, d ≠ .opq z) (hb : ∀ a, d = .bl a → a ≠ b) : v ≠ .bool b := by
  intro e
  subst e
  cases d with
  | opq z => exact hd z rfl
  | non => cases hx.non; cases rx
  | bl a => cases hx.bl; cases rx; exact hb _ rfl rfl
  | int i => cases hx.int; obtain ⟨t, e⟩ := rx; cases e
  | str i => obtain ⟨z, rfl, _⟩ := hx.str; obtain ⟨t, e⟩ := rx; cases e
  | tup ds => obtain ⟨a, _, rfl, _⟩ := hx.tup; cases rx
  | lst ds => obtain ⟨a, _, rfl, _⟩ := hx.lst; cases rx
  | dct ds =>
    rcases hx with h | ⟨a, o, rfl, _⟩
    · cases h with
      | cell => cases rx
      | frz => cases rx
    · cases rx
theorem vnon {K : PySem.W.Frag} {H : Hp} {P : Addr → Prop} {x : V} {d : D} (hx : RpT K H P x d) (hd : ∀ z, d ≠ .opq z) : decide (x = .non) = isNonD d := by
  cases d with
  | opq z => exact absurd rfl (hd z)
  | non => cases hx.non; rfl
  | bl a => cases hx.bl; rfl
  | int i => cases hx.int; rfl
  | str i => obtain ⟨z, rfl, _⟩ := hx.str; rfl
  | tup ds => obtain ⟨a, _, rfl, _⟩ := hx.tup; rfl
  | lst ds => obtain ⟨a, _, rfl, _⟩ := hx.lst; rfl
  | dct ds =>
    rcases hx with h | ⟨a, o, rfl, _⟩
    · cases h with
      | cell => rfl
      | frz => rfl
    · rfl
theorem isD_opq {x y : D} {b : Bool} (h : isD x y = some b) : ∀ z, x ≠ .opq z := fun z e => by subst e; cases h
theorem isD_non {x : D} {b : Bool} (h : isD x .non = some b) : b = isNonD x := by
  cases x <;> cases h <;> rfl
theorem isD_bl {x : D} {b c : Bool} (h : isD x (.bl c) = some b) : (b = true ∧ x = .bl c) ∨ (b = false ∧ ∀ a, x = .bl a → a ≠ c) := by
  cases x with
  | bl a =>
    cases h
    by_cases e : a = c
    · subst e; exact .inl ⟨by simp, rfl⟩
    · exact .inr ⟨by simp [e], fun _ z => by cases z; exact e⟩
  | _ => first | (cases h; exact .inr ⟨rfl, fun _ z => by cases z⟩) | cases h
theorem isD_r {x y : D} {b : Bool} (h : isD x y = some b) : y = .non ∨ ∃ c, y = .bl c := by
  cases y <;> first | exact .inl rfl | exact .inr ⟨_, rfl⟩ | (cases x <;> cases h)
theorem o_is : OpR X (compareOp .Is) (r2 true X.K dIs) := by
  intro pins s σ H x y v u Q I rx ry ⟨P, dx, dy, d, hx, hy, hd, q⟩
  simp only [dIs, Option.map_eq_some_iff] at hd
  obtain ⟨b, hb, rfl⟩ := hd
  have no := isD_opq hb
  rcases isD_r hb with rfl | ⟨c, rfl⟩
  · refine op_isN pins s σ H x y v u Q I rx ry ⟨hy.non, ?_⟩
    rw [vnon hx no, ← isD_non hb]
    exact q _ _ (.same (.bl _) fun _ => rfl)
  · cases hy.bl
    cases ry
    rcases isD_bl hb with ⟨rfl, rfl⟩ | ⟨rfl, n⟩
    · cases hx.bl; cases rx
      exact wpAny_is_self rfl ⟨.bl true, H, I, rfl, q _ _ (.same (.bl _) fun _ => rfl)⟩
    · exact wpAny_is_other (plain_of hx rx no) (vbl_ne hx rx no n) ⟨.bl false, H, I, rfl, q _ _ (.same (.bl _) fun _ => rfl)⟩
theorem o_isnot : OpR X (compareOp .IsNot) (r2 true X.K dIsNot) := by
  intro pins s σ H x y v u Q I rx ry ⟨P, dx, dy, d, hx, hy, hd, q⟩
  simp only [dIsNot, Option.map_eq_some_iff] at hd
  obtain ⟨b, hb, rfl⟩ := hd
  have no := isD_opq hb
  rcases isD_r hb with rfl | ⟨c, rfl⟩
  · refine op_notN pins s σ H x y v u Q I rx ry ⟨hy.non, ?_⟩
    rw [vnon hx no, ← isD_non hb]
    exact q _ _ (.same (.bl _) fun _ => rfl)
  · cases hy.bl
    cases ry
    rcases isD_bl hb with ⟨rfl, rfl⟩ | ⟨rfl, n⟩
    · cases hx.bl; cases rx
      exact wpAny_isNot_self rfl ⟨.bl false, H, I, rfl, q _ _ (.same (.bl _) fun _ => rfl)⟩
    · exact wpAny_isNot_other (plain_of hx rx no) (vbl_ne hx rx no n) ⟨.bl true, H, I, rfl, q _ _ (.same (.bl _) fun _ => rfl)⟩

/-! ### in, not in -/
def inD : D → D → Option Bool
  | x, .lst ds => if (okD x 64 && decide (0 < 64) && okDs ds 63) = true then some (ds.any fun z => deq z x) else none
  | x, .tup ds => if (okD x 64 && decide (0 < 64) && okDs ds 63) = true then some (ds.any fun z => deq z x) else none
  | .str [c], .str s => some (decide (c ∈ s))
  | _, _ => none
def dIn : List D → Option D
  | [x, y] => (inD x y).map .bl
  | _ => none
def dNotIn : List D → Option D
  | [x, y] => (inD x y).map fun b => .bl (!b)
  | _ => none
theorem any_py {x : D} {n m : Nat} (hx : okD x n = true) : ∀ (ds : List D), okDs ds m = true → ((pyDs ds).any fun y => PyData.eqv y (pyD x)) = ds.any fun z => deq z x
  | [], _ => by simp [pyDs]
  | d :: ds, h => by
    rw [okDs, Bool.and_eq_true] at h
    rw [pyDs, List.any_cons, List.any_cons, any_py hx ds h.2, py_eqv d x m n h.1 hx]
theorem ds_len : ∀ ds : List D, (pyDs ds).length = ds.length
  | [] => rfl
  | d :: ds => by rw [pyDs, List.length_cons, ds_len ds]; rfl
theorem in_room {A : Around} {x : D} {ds : List D} (hu : A.units + 65 < cLine) (hx : okD x 64 = true) : A.units + 1 + min (PyData.depthAll (pyDs ds)) (pyD x).depth < cLine := by
  have h1 := (py_lay x 64 hx).2
  have h2 : min (PyData.depthAll (pyDs ds)) (pyD x).depth ≤ (pyD x).depth := Nat.min_le_right _ _
  omega
theorem o_in (hu : X.A.units + 65 < cLine) : OpR X (compareOp .In) (r2 true X.K dIn) := by
  intro pins s σ H x y v u Q I rx ry ⟨P, dx, dy, d, hx, hy, hd, q⟩
  simp only [dIn, Option.map_eq_some_iff] at hd
  obtain ⟨b, hb, rfl⟩ := hd
  unfold inD at hb
  split at hb
  · rename_i ds
    split at hb
    · rename_i hc
      cases hb
      simp only [Bool.and_eq_true] at hc
      have hok : okD (.lst ds) 64 = true := by rw [okD, Bool.and_eq_true]; exact ⟨rfl, hc.2⟩
      obtain ⟨as, r1⟩ := Dp.reads I _ x v (RpT.dp _ 64 _ hc.1.1 hx) rx
      have h2 := RpT.dp _ 64 _ hok hy
      rw [pyD] at h2
      obtain ⟨bs, r2⟩ := Dp.reads I _ y u h2 ry
      refine SeqAt.in_list_reads r2 r1 (py_lays ds 63 hc.2).1 (py_lay _ 64 hc.1.1).1 (in_room hu hc.1.1) ?_
      rw [any_py hc.1.1 ds hc.2]
      exact ⟨.bl _, H, I, rfl, q _ _ (.same (.bl _) fun _ => rfl)⟩
    · cases hb
  · rename_i ds
    split at hb
    · rename_i hc
      cases hb
      simp only [Bool.and_eq_true] at hc
      have hok : okD (.tup ds) 64 = true := by rw [okD, Bool.and_eq_true]; exact ⟨rfl, hc.2⟩
      obtain ⟨as, r1⟩ := Dp.reads I _ x v (RpT.dp _ 64 _ hc.1.1 hx) rx
      have h2 := RpT.dp _ 64 _ hok hy
      rw [pyD] at h2
      obtain ⟨bs, r2⟩ := Dp.reads I _ y u h2 ry
      refine SeqAt.in_tuple_reads r2 r1 (py_lays ds 63 hc.2).1 (py_lay _ 64 hc.1.1).1 (in_room hu hc.1.1) ?_
      rw [any_py hc.1.1 ds hc.2]
      exact ⟨.bl _, H, I, rfl, q _ _ (.same (.bl _) fun _ => rfl)⟩
    · cases hb
  · rename_i c s'
    cases hb
    obtain ⟨x', rfl, ex⟩ := hx.str
    obtain ⟨y', rfl, ey⟩ := hy.str
    subst ey
    refine op_in_sign pins s σ H _ _ v u Q I rx ry ⟨c, y', ?_, rfl, q _ _ (.same (.bl _) fun _ => rfl)⟩
    rw [← str_eta x', ex]
  · cases hb
theorem o_notin (hu : X.A.units + 65 < cLine) : OpR X (compareOp .NotIn) (r2 true X.K dNotIn) := by
  intro pins s σ H x y v u Q I rx ry ⟨P, dx, dy, d, hx, hy, hd, q⟩
  simp only [dNotIn, Option.map_eq_some_iff] at hd
  obtain ⟨b, hb, rfl⟩ := hd
  unfold inD at hb
  split at hb
  · rename_i ds
    split at hb
    · rename_i hc
      cases hb
      simp only [Bool.and_eq_true] at hc
      have hok : okD (.lst ds) 64 = true := by rw [okD, Bool.and_eq_true]; exact ⟨rfl, hc.2⟩
      obtain ⟨as, r1⟩ := Dp.reads I _ x v (RpT.dp _ 64 _ hc.1.1 hx) rx
      have h2 := RpT.dp _ 64 _ hok hy
      rw [pyD] at h2
      obtain ⟨bs, r2⟩ := Dp.reads I _ y u h2 ry
      refine SeqAt.notIn_list_reads r2 r1 (py_lays ds 63 hc.2).1 (py_lay _ 64 hc.1.1).1 (in_room hu hc.1.1) ?_
      rw [any_py hc.1.1 ds hc.2]
      exact ⟨.bl _, H, I, rfl, q _ _ (.same (.bl _) fun _ => rfl)⟩
    · cases hb
  · rename_i ds
    split at hb
    · rename_i hc
      cases hb
      simp only [Bool.and_eq_true] at hc
      have hok : okD (.tup ds) 64 = true := by rw [okD, Bool.and_eq_true]; exact ⟨rfl, hc.2⟩
      obtain ⟨as, r1⟩ := Dp.reads I _ x v (RpT.dp _ 64 _ hc.1.1 hx) rx
      have h2 := RpT.dp _ 64 _ hok hy
      rw [pyD] at h2
      obtain ⟨bs, r2⟩ := Dp.reads I _ y u h2 ry
      refine SeqAt.notIn_tuple_reads r2 r1 (py_lays ds 63 hc.2).1 (py_lay _ 64 hc.1.1).1 (in_room hu hc.1.1) ?_
      rw [any_py hc.1.1 ds hc.2]
      exact ⟨.bl _, H, I, rfl, q _ _ (.same (.bl _) fun _ => rfl)⟩
    · cases hb
  · rename_i c s'
    cases hb
    obtain ⟨x', rfl, ex⟩ := hx.str
    obtain ⟨y', rfl, ey⟩ := hy.str
    subst ey
    refine op_notIn_sign pins s σ H _ _ v u Q I rx ry ⟨c, y', ?_, rfl, q _ _ (.same (.bl _) fun _ => rfl)⟩
    rw [← str_eta x', ex]
  · cases hb
end
end PL
end

section
set_option maxRecDepth 100000
set_option maxHeartbeats 3900000
/-! PV4: isinstance, index, slices, plain built-in calls. -/
namespace PL
open PySem Spec PyProof.Rows L2

/-! ### constants of the module, types -/
section
variable {X : Cx}
theorem evCst {v : V} {d : D} (h : ∀ H P, Rp X.K H P v d) {e : Expr} (hp : PE X e (tC v)) : PE X e (EvS X.K (eC d)) := hp.imp fun σ H Q ⟨S, ow, env, I, d', env', hm, k⟩ => by
  cases hm
  exact k S ow v H .refl I (.inl ⟨rfl, h _ _, fun z => by cases z⟩)
theorem e_glob {x : Str} {d : D} {pos : Pos} (hg : Gl X x) (h : ∃ v u, X.mg x = some u ∧ RelV v u ∧ ∀ H P, Rp X.K H P v d) (hd : (x == ("__debug__" : Str)) = false := by decide) : PE X (.Name x pos) (EvS X.K (eC d)) := by
  obtain ⟨v, u, hm, r, hr⟩ := h
  exact evCst hr (pe_glob hg hm r hd)
theorem e_ty {x : Str} {T : String} {pos : Pos} (hg : Gl X x) (hm : X.mg x = none) (hv : bootBuiltins x = some (.type T)) (hn : x ≠ "__name__" := by decide) (hd : (x == ("__debug__" : Str)) = false := by decide) :
    PE X (.Name x pos) (EvS X.K (eC (.opq (.ty T)))) := evCst (fun _ _ => .opq _) (pe_bltn (v := .ty T) hg hm hv rfl hn hd)
end

/-! ### isinstance -/
def tyD : D → Option String
  | .non => some "NoneType"
  | .bl _ => some "bool"
  | .int _ => some "int"
  | .str _ => some "str"
  | .tup _ => some "tuple"
  | .lst _ => some "list"
  | _ => none
def isiB (a T : String) : Option Bool :=
  if T = "int" then some (a == "int" || a == "bool")
  else if T = "bool" then some (a == "bool")
  else if T = "str" then some (a == "str")
  else if T = "tuple" then some (a == "tuple")
  else if T = "list" then some (a == "list")
  else none
def dIsi : List D → Option D
  | [x, .opq (.ty T)] => (tyD x).bind fun a => (isiB a T).map .bl
  | _ => none
theorem isiB_kit {d : D} {a T : String} {b : Bool} (ha : tyD d = some a) (h : isiB a T = some b) : kitB a T = some b := by
  have : a = "NoneType" ∨ a = "bool" ∨ a = "int" ∨ a = "str" ∨ a = "tuple" ∨ a = "list" := by
    cases d <;> cases ha <;> simp
  unfold isiB at h
  split at h
  · subst T; cases h; rcases this with rfl | rfl | rfl | rfl | rfl | rfl <;> decide +kernel
  split at h
  · subst T; cases h; rcases this with rfl | rfl | rfl | rfl | rfl | rfl <;> decide +kernel
  split at h
  · subst T; cases h; rcases this with rfl | rfl | rfl | rfl | rfl | rfl <;> decide +kernel
  split at h
  · subst T; cases h; rcases this with rfl | rfl | rfl | rfl | rfl | rfl <;> decide +kernel
  split at h
  · subst T; cases h; rcases this with rfl | rfl | rfl | rfl | rfl | rfl <;> decide +kernel
  · cases h
section
variable {X : Cx}
theorem tyx_tup {K : PySem.W.Frag} {H : Hp} {a : Addr} {vs : List V} (h : SqT K H a vs) : TyX K H (.ref a) (.type "tuple") := by
  rcases h with (h | ⟨ob, h⟩) | ⟨o, its, n, hk, hc, _⟩
  · exact .base (.tup h)
  · exact .fTuple h
  · exact .kTuple hk hc
theorem tyx_lst {K : PySem.W.Frag} {H : Hp} {a : Addr} {vs : List V} (h : SqL K H a vs) : TyX K H (.ref a) (.type "list") := by
  rcases h with (h | ⟨ob, h⟩) | ⟨o, its, n, hk, hc, _⟩
  · exact .base (.lst h)
  · exact .base (.frz h)
  · exact .kList hk hc
theorem tyx {K : PySem.W.Frag} {H : Hp} {P : Addr → Prop} {v : V} {d : D} {a : String} (h : RpT K H P v d) (ha : tyD d = some a) : TyX K H v (.type a) := by
  cases d with
  | non => cases ha; cases h.non; exact .base .non
  | bl b => cases ha; cases h.bl; exact .base (.bl _)
  | int b => cases ha; cases h.int; exact .base (.int _)
  | str b => cases ha; obtain ⟨x, rfl, _⟩ := h.str; exact .base (.str _)
  | tup ds => cases ha; obtain ⟨p, vs, rfl, s, _⟩ := h.tup; exact tyx_tup s
  | lst ds => cases ha; obtain ⟨p, vs, rfl, s, _⟩ := h.lst; exact tyx_lst s
  | dct _ => cases ha
  | opq _ => cases ha
theorem RpT.opq {K : PySem.W.Frag} {H : Hp} {P : Addr → Prop} {v w : V} (h : RpT K H P v (.opq w)) : v = w := by
  rcases h with h | ⟨a, o, _, _, r⟩
  · cases h with
    | opq => rfl
    | cell _ _ rc => cases rc
    | frz _ rc => cases rc
  · cases r
theorem o_isi : CallR X (.builtin "isinstance") (rL true X.K dIsi) := by
  intro pins s σ H xs us Q I r ⟨P, ds, d, hr, hd, q⟩
  unfold dIsi at hd
  split at hd
  · rename_i x T
    simp only [Option.bind_eq_some_iff, Option.map_eq_some_iff] at hd
    obtain ⟨a, h1, b, h2, rfl⟩ := hd
    cases hr with | cons r1 r2 => cases r2 with | cons r2 r3 =>
      cases r3
      cases r2.opq
      exact call_isi pins s σ H _ us Q I r ⟨_, _, .type a, .type T, b, rfl, .ty T, tyx r1 h1, kit_ty (isiB_kit h1 h2), q _ _ (.same (.bl _) fun _ => rfl)⟩
  · cases hd

/-! ### len, abs, max, min, int, divmod, sum, all, any -/
theorem rts1 {K : PySem.W.Frag} {H : Hp} {P : Addr → Prop} {vs : List V} {d : D} (h : RpTs K H P vs [d]) : ∃ v, vs = [v] ∧ RpT K H P v d := by
  cases h with | cons a b => cases b; exact ⟨_, rfl, a⟩
theorem rts2 {K : PySem.W.Frag} {H : Hp} {P : Addr → Prop} {vs : List V} {d e : D} (h : RpTs K H P vs [d, e]) : ∃ v w, vs = [v, w] ∧ RpT K H P v d ∧ RpT K H P w e := by
  cases h with | cons a b => cases b with | cons b c => cases c; exact ⟨_, _, rfl, a, b⟩
def dLen : List D → Option D
  | [.str s] => if s.length ≤ 16777216 then some (.int s.length) else none
  | [.tup ds] => some (.int ds.length)
  | [.lst ds] => some (.int ds.length)
  | _ => none
def dAbs : List D → Option D
  | [.int i] => some (.int (if i < 0 then -i else i))
  | _ => none
def dMax : List D → Option D
  | [.int i, .int j] => some (.int (if j > i then j else i))
  | [.lst ds] => (intsD ds).bind fun ns => ns.max?.map .int
  | _ => none
def dMin : List D → Option D
  | [.int i, .int j] => some (.int (if j < i then j else i))
  | [.lst ds] => (intsD ds).bind fun ns => ns.min?.map .int
  | _ => none
def dInt : List D → Option D
  | [.int i] => some (.int i)
  | [.bl b] => some (.int (if b then 1 else 0))
  | _ => none
def dDivmod : List D → Option D
  | [.int i, .int j] => if 0 < j ∧ j.natAbs < 1073741824 then some (.tup [.int (i / j), .int (i % j)]) else none
  | _ => none
def dSum : List D → Option D
  | [.lst ds] => (intsD ds).map fun ns => .int ns.sum
  | _ => none
def dAll : List D → Option D
  | [.lst ds] => (blsD ds).map fun ns => .bl (ns.all id)
  | _ => none
def dAny : List D → Option D
  | [.lst ds] => (blsD ds).map fun ns => .bl (ns.any id)
  | _ => none
def dTup : List D → Option D
  | [.lst ds] => some (.tup ds)
  | [.tup ds] => some (.tup ds)
  | _ => none
def dLst : List D → Option D
  | [.lst ds] => some (.lst ds)
  | [.tup ds] => some (.lst ds)
  | _ => none
theorem o_len : CallR X (.builtin "len") (rL true X.K dLen) := by
  intro pins s σ H xs us Q I r ⟨P, ds, d, hr, hd, q⟩
  unfold dLen at hd
  split at hd
  · split at hd
    · rename_i x hz
      cases hd
      obtain ⟨v, rfl, r1⟩ := rts1 hr
      obtain ⟨x', rfl, ex⟩ := r1.str
      subst ex
      refine call_len pins s σ H _ us Q I r ⟨_, x'.length, rfl, ⟨?_, rfl⟩, ?_⟩
      · rw [str_len, sizeLine_eq]; exact hz
      · rw [str_len]; exact q _ _ (.same (.int _) fun _ => rfl)
    · cases hd
  · cases hd
    obtain ⟨v, rfl, r1⟩ := rts1 hr
    obtain ⟨a, vs, rfl, sq, l⟩ := r1.tup
    exact call_len pins s σ H _ us Q I r ⟨_, vs.length, rfl, .inr ⟨_, sq, rfl⟩, by rw [l.length]; exact q _ _ (.same (.int _) fun _ => rfl)⟩
  · cases hd
    obtain ⟨v, rfl, r1⟩ := rts1 hr
    obtain ⟨a, vs, rfl, sq, l⟩ := r1.lst
    exact call_len pins s σ H _ us Q I r ⟨_, vs.length, rfl, .inl ⟨_, sq, rfl⟩, by rw [l.length]; exact q _ _ (.same (.int _) fun _ => rfl)⟩
  · cases hd
theorem o_abs : CallR X (.builtin "abs") (rL true X.K dAbs) := by
  intro pins s σ H xs us Q I r ⟨P, ds, d, hr, hd, q⟩
  unfold dAbs at hd
  split at hd
  · cases hd
    obtain ⟨v, rfl, r1⟩ := rts1 hr
    cases r1.int
    exact call_abs pins s σ H _ us Q I r ⟨_, rfl, q _ _ (.same (.int _) fun _ => rfl)⟩
  · cases hd
theorem o_int : CallR X (.type "int") (rL true X.K dInt) := by
  intro pins s σ H xs us Q I r ⟨P, ds, d, hr, hd, q⟩
  unfold dInt at hd
  split at hd
  · cases hd
    obtain ⟨v, rfl, r1⟩ := rts1 hr
    cases r1.int
    exact call_int1 pins s σ H _ us Q I r (.inl ⟨_, rfl, q _ _ (.same (.int _) fun _ => rfl)⟩)
  · cases hd
    obtain ⟨v, rfl, r1⟩ := rts1 hr
    cases r1.bl
    exact call_int1 pins s σ H _ us Q I r (.inr ⟨_, rfl, q _ _ (.same (.int _) fun _ => rfl)⟩)
  · cases hd
theorem max?_mem {ns : List Int} {m : Int} (h : ns.max? = some m) : 0 < ns.length ∧ ∀ k, k ∈ ns → (∀ y, y ∈ ns → y ≤ k) → k = m := by
  have h1 := List.max?_eq_some_iff.mp h
  refine ⟨List.length_pos_of_mem h1.1, fun k hk hy => ?_⟩
  have a := h1.2 k hk
  have b := hy m h1.1
  omega
theorem min?_mem {ns : List Int} {m : Int} (h : ns.min? = some m) : 0 < ns.length ∧ ∀ k, k ∈ ns → (∀ y, y ∈ ns → k ≤ y) → k = m := by
  have h1 := List.min?_eq_some_iff.mp h
  refine ⟨List.length_pos_of_mem h1.1, fun k hk hy => ?_⟩
  have a := h1.2 k hk
  have b := hy m h1.1
  omega
theorem o_max (hc : X.calm = true) : CallR X (.builtin "max") (rL true X.K dMax) := by
  intro pins s σ H xs us Q I r ⟨P, ds, d, hr, hd, q⟩
  unfold dMax at hd
  split at hd
  · cases hd
    obtain ⟨v, w, rfl, r1, r2⟩ := rts2 hr
    cases r1.int
    cases r2.int
    exact call_max2 hc pins s σ H _ us Q I r ⟨_, _, rfl, q _ _ (.same (.int _) fun _ => rfl)⟩
  · simp only [Option.bind_eq_some_iff, Option.map_eq_some_iff] at hd
    obtain ⟨ns, h1, m, h2, rfl⟩ := hd
    obtain ⟨v, rfl, r1⟩ := rts1 hr
    obtain ⟨a, vs, rfl, sq, l⟩ := r1.lst
    rw [intsD_eq h1] at l
    rw [l.ints] at sq
    have hm := max?_mem h2
    exact cr_max hc pins s σ H _ us Q I r ⟨a, ns, rfl, sq, hm.1, fun k hk hy => by rw [hm.2 k hk hy]; exact q _ _ (.same (.int _) fun _ => rfl)⟩
  · cases hd
theorem o_min (hc : X.calm = true) : CallR X (.builtin "min") (rL true X.K dMin) := by
  intro pins s σ H xs us Q I r ⟨P, ds, d, hr, hd, q⟩
  unfold dMin at hd
  split at hd
  · cases hd
    obtain ⟨v, w, rfl, r1, r2⟩ := rts2 hr
    cases r1.int
    cases r2.int
    exact call_min2 hc pins s σ H _ us Q I r ⟨_, _, rfl, q _ _ (.same (.int _) fun _ => rfl)⟩
  · simp only [Option.bind_eq_some_iff, Option.map_eq_some_iff] at hd
    obtain ⟨ns, h1, m, h2, rfl⟩ := hd
    obtain ⟨v, rfl, r1⟩ := rts1 hr
    obtain ⟨a, vs, rfl, sq, l⟩ := r1.lst
    rw [intsD_eq h1] at l
    rw [l.ints] at sq
    have hm := min?_mem h2
    exact cr_min hc pins s σ H _ us Q I r ⟨a, ns, rfl, sq, hm.1, fun k hk hy => by rw [hm.2 k hk hy]; exact q _ _ (.same (.int _) fun _ => rfl)⟩
  · cases hd
theorem o_sum (hc : X.calm = true) : CallR X (.builtin "sum") (rL true X.K dSum) := by
  intro pins s σ H xs us Q I r ⟨P, ds, d, hr, hd, q⟩
  unfold dSum at hd
  split at hd
  · simp only [Option.map_eq_some_iff] at hd
    obtain ⟨ns, h1, rfl⟩ := hd
    obtain ⟨v, rfl, r1⟩ := rts1 hr
    obtain ⟨a, vs, rfl, sq, l⟩ := r1.lst
    rw [intsD_eq h1] at l
    rw [l.ints] at sq
    exact cr_sum hc pins s σ H _ us Q I r ⟨a, ns, rfl, sq, q _ _ (.same (.int _) fun _ => rfl)⟩
  · cases hd
theorem o_all (hc : X.calm = true) : CallR X (.builtin "all") (rL true X.K dAll) := by
  intro pins s σ H xs us Q I r ⟨P, ds, d, hr, hd, q⟩
  unfold dAll at hd
  split at hd
  · simp only [Option.map_eq_some_iff] at hd
    obtain ⟨ns, h1, rfl⟩ := hd
    obtain ⟨v, rfl, r1⟩ := rts1 hr
    obtain ⟨a, vs, rfl, sq, l⟩ := r1.lst
    rw [blsD_eq h1] at l
    rw [l.bls] at sq
    exact cr_all hc pins s σ H _ us Q I r ⟨a, ns, rfl, sq, q _ _ (.same (.bl _) fun _ => rfl)⟩
  · cases hd
theorem o_any (hc : X.calm = true) : CallR X (.builtin "any") (rL true X.K dAny) := by
  intro pins s σ H xs us Q I r ⟨P, ds, d, hr, hd, q⟩
  unfold dAny at hd
  split at hd
  · simp only [Option.map_eq_some_iff] at hd
    obtain ⟨ns, h1, rfl⟩ := hd
    obtain ⟨v, rfl, r1⟩ := rts1 hr
    obtain ⟨a, vs, rfl, sq, l⟩ := r1.lst
    rw [blsD_eq h1] at l
    rw [l.bls] at sq
    exact cr_any hc pins s σ H _ us Q I r ⟨a, ns, rfl, sq, q _ _ (.same (.bl _) fun _ => rfl)⟩
  · cases hd
theorem o_divmod : CallR X (.builtin "divmod") (rL true X.K dDivmod) := by
  intro pins s σ H xs us Q I r ⟨P, ds, d, hr, hd, q⟩
  unfold dDivmod at hd
  split at hd
  · split at hd
    · rename_i i j hc
      cases hd
      obtain ⟨v, w, rfl, r1, r2⟩ := rts2 hr
      cases r1.int
      cases r2.int
      refine call_divmod pins s σ H _ us Q I r ⟨_, _, rfl, ⟨hc.1, by omega⟩, fun p hp => q _ _ (.newT hp (.cons (.int _) (.cons (.int _) .nil)))⟩
    · cases hd
  · cases hd
theorem o_tup : CallR X (.type "tuple") (rL true X.K dTup) := by
  intro pins s σ H xs us Q I r ⟨P, ds, d, hr, hd, q⟩
  unfold dTup at hd
  split at hd
  · cases hd
    obtain ⟨v, rfl, r1⟩ := rts1 hr
    obtain ⟨a, vs, rfl, sq, l⟩ := r1.lst
    exact call_tuple_of pins s σ H _ us Q I r ⟨a, vs, rfl, .inl ⟨sq, fun p hp => q _ _ (.newT hp l)⟩⟩
  · cases hd
    obtain ⟨v, rfl, r1⟩ := rts1 hr
    obtain ⟨a, vs, rfl, sq, l⟩ := r1.tup
    exact call_tuple_of pins s σ H _ us Q I r ⟨a, vs, rfl, .inr ⟨sq, q _ _ (.same (.tup sq l) fun _ => rfl)⟩⟩
  · cases hd
theorem o_lst : CallR X (.type "list") (rL true X.K dLst) := by
  intro pins s σ H xs us Q I r ⟨P, ds, d, hr, hd, q⟩
  unfold dLst at hd
  split at hd
  · cases hd
    obtain ⟨v, rfl, r1⟩ := rts1 hr
    obtain ⟨a, vs, rfl, sq, l⟩ := r1.lst
    exact call_list_of pins s σ H _ us Q I r ⟨a, vs, rfl, .inl sq, fun p hp => q _ _ (.newC hp (.lst l))⟩
  · cases hd
    obtain ⟨v, rfl, r1⟩ := rts1 hr
    obtain ⟨a, vs, rfl, sq, l⟩ := r1.tup
    exact call_list_of pins s σ H _ us Q I r ⟨a, vs, rfl, .inr sq, fun p hp => q _ _ (.newC hp (.lst l))⟩
  · cases hd
end


/-! ### index -/
def dIx : List D → Option D
  | [.lst ds, .int i] => atI ds i
  | [.tup ds, .int i] => atI ds i
  | [.str s, .int i] => if s.length ≤ 16777216 then (atI s i).map fun c => .str [c] else none
  | _ => none
theorem atI_rp {K : PySem.W.Frag} {H : Hp} {P : Addr → Prop} {vs : List V} {ds : List D} {i : Int} {d : D} (l : RpL K H P vs ds) (h : atI ds i = some d) : ∃ v, atI vs i = some v ∧ Rp K H P v d := by
  unfold atI at h ⊢
  rw [l.length]
  cases e : ixN ds.length i with
  | none => rw [e] at h; cases h
  | some j => rw [e] at h; exact l.get h
section
variable {X : Cx}
theorem o_ix : IxR X (r2 false X.K dIx) := by
  intro value slice pins s σ H x y v u Q I rx ry ⟨P, dx, dy, d, hx, hy, hd, q⟩ hs
  unfold dIx at hd
  split at hd
  · rename_i ds i e; cases e
    cases hy.int
    obtain ⟨a, vs, rfl, sq, l⟩ := hx.lst
    obtain ⟨w, hw, rw'⟩ := atI_rp l hd
    exact ix_list value slice pins s σ H _ _ v u Q I rx ry ⟨a, vs, i, w, rfl, rfl, sq, hw, q _ _ (.same rw' fun z => by cases z)⟩ hs
  · rename_i ds i e; cases e
    cases hy.int
    obtain ⟨a, vs, rfl, sq, l⟩ := hx.tup
    obtain ⟨w, hw, rw'⟩ := atI_rp l hd
    exact ix_tup value slice pins s σ H _ _ v u Q I rx ry ⟨a, vs, i, w, rfl, rfl, sq, hw, q _ _ (.same rw' fun z => by cases z)⟩ hs
  · rename_i t i e; cases e
    split at hd
    · rename_i hz
      rw [Option.map_eq_some_iff] at hd
      obtain ⟨c, hc, rfl⟩ := hd
      cases hy.int
      obtain ⟨x', rfl, ex⟩ := hx.str
      subst ex
      exact ix_str value slice pins s σ H _ _ v u Q I rx ry ⟨x', i, c, rfl, rfl, by rw [str_len, sizeLine_eq]; exact hz, hc, q _ _ (.same (.strOf [c]) fun z => by cases z)⟩ hs
    · cases hd
  · cases hd
end

/-! ### slices -/
def cutL {α : Type} (xs : List α) (lo hi : Option Int) : List α := (xs.drop (HT.sIx xs.length 0 lo)).take (HT.sIx xs.length xs.length hi - HT.sIx xs.length 0 lo)
def dSl : D → Option Int → Option Int → Option D
  | .lst ds, lo, hi => some (.lst (cutL ds lo hi))
  | .tup ds, lo, hi => some (.tup (cutL ds lo hi))
  | .str s, lo, hi => if s.length ≤ 16777216 then some (.str (cutL s lo hi)) else none
  | _, _, _ => none
theorem cut_rp {K : PySem.W.Frag} {H : Hp} {P : Addr → Prop} {vs : List V} {ds : List D} (lo hi : Option Int) (l : RpL K H P vs ds) : RpL K H P (cutV vs lo hi) (cutL ds lo hi) := by
  unfold cutV cutL
  rw [l.length]
  exact (l.drop _).take _
theorem cut_whole {α : Type} {xs : List α} {lo hi : Option Int} (h : HT.sIx xs.length 0 lo = 0 ∧ HT.sIx xs.length xs.length hi = xs.length) : cutL xs lo hi = xs := by
  unfold cutL
  rw [h.1, h.2, List.drop_zero, Nat.sub_zero, List.take_length]
section
variable {X : Cx}
theorem o_sl : SlR X (rS true X.K dSl) := by
  intro pins s σ H x v vl vu lo hi sl Q I rx hs pl pu ⟨P, dx, d, hx, hd, q⟩
  cases dx with
  | lst ds =>
    cases hd
    obtain ⟨a, vs, rfl, sq, l⟩ := hx.lst
    exact sl_list pins s σ H _ v vl vu lo hi sl Q I rx hs pl pu ⟨a, vs, rfl, sq, fun p hp => q _ _ (.newC hp (.lst (cut_rp lo hi l)))⟩
  | tup ds =>
    cases hd
    obtain ⟨a, vs, rfl, sq, l⟩ := hx.tup
    refine sl_tupA pins s σ H _ v vl vu lo hi sl Q I rx hs pl pu ⟨a, vs, rfl, sq, fun hw => ?_, fun _ p hp => q _ _ (.newT hp (cut_rp lo hi l))⟩
    rw [l.length] at hw
    rw [cut_whole hw] at q
    exact q _ _ (.same (.tup sq l) fun _ => rfl)
  | str t =>
    simp only [dSl] at hd
    split at hd
    · rename_i hz
      cases hd
      obtain ⟨x', rfl, ex⟩ := hx.str
      subst ex
      refine sl_str pins s σ H _ v vl vu lo hi sl Q I rx hs pl pu ⟨x', rfl, by rw [str_len, sizeLine_eq]; exact hz, q _ _ (.same (.strEq ?_) fun _ => rfl)⟩
      unfold cutS cutL
      rw [str_len]
    · cases hd
  | _ => cases hd
end

/-! ### x[::-1] -/
theorem fm_map {α β : Type} (f : α → Option β) (g : α → β) : ∀ l : List α, (∀ m ∈ l, f m = some (g m)) → l.filterMap f = l.map g
  | [], _ => rfl
  | a :: l, h => by
    rw [List.filterMap_cons, h a List.mem_cons_self, List.map_cons, fm_map f g l fun m hm => h m (List.mem_cons_of_mem _ hm)]
theorem rev_pick (xs : Array Value) : ((List.range xs.size).filterMap fun (m : Nat) => xs[(((xs.size : Int) - 1) + (m : Int) * (-1)).toNat]?).toArray = xs.toList.reverse.toArray := by
  congr 1
  have e : ∀ m ∈ List.range xs.size, xs[(((xs.size : Int) - 1) + (m : Int) * (-1)).toNat]? = some (xs.toList.reverse.getD m default) := by
    intro m hm
    rw [List.mem_range] at hm
    have e1 : (((xs.size : Int) - 1) + (m : Int) * (-1)).toNat = xs.size - 1 - m := by omega
    have hl : m < xs.toList.reverse.length := by simpa using hm
    rw [e1, List.getD_eq_getElem?_getD, List.getElem?_eq_getElem hl, List.getElem_reverse, Option.getD_some, Array.getElem?_eq_getElem (by omega)]
    simp
  rw [fm_map _ _ _ e]
  apply List.ext_getElem?
  intro i
  by_cases hi : i < xs.size
  · rw [List.getElem?_map, List.getElem?_range hi, Option.map_some, List.getD_eq_getElem?_getD, List.getElem?_eq_getElem (l := xs.toList.reverse) (by simpa using hi)]
    rfl
  · rw [List.getElem?_eq_none (by simpa using hi), List.getElem?_eq_none (by simpa using hi)]

section
variable {prog : Program} {w : World} {A : Around} {E : Value → Shared → Prop} {s : Shared}
theorem sliceApplied_rev {cut : Addr} {vl vu vk : Value} {n : Nat} {Q : Int × Int × Nat → Shared → Prop} (hs : s.heap.IsSliceOf cut vl vu vk) (pl : IsPart vl none) (pu : IsPart vu none) (pk : IsPart vk (some (-1)))
    (h : Q ((n : Int) - 1, -1, n) s) : wpAny (model prog w) A (Builtin.Slice.sliceApplied (.ref cut) (pure (n : Int))) Q E s := by
  obtain ⟨ob, hob, hcl, hdt⟩ := id hs
  unfold Builtin.Slice.sliceApplied
  unfold Builtin.Slice.sliceFields
  refine wpAny_bind (wpAny_bind (wpAny_field hob hdt (x := vl) rfl (wpAny_bind (wpAny_field hob hdt (x := vu) rfl (wpAny_bind (wpAny_field hob hdt (x := vk) rfl (wpAny_pure ?_)))))))
  refine wpAny_bind (HT.slicePart_ pk ?_)
  show wpAny _ _ (if ((-1 : Int) == 0) = true then _ else _) _ _ s
  rw [if_neg (by decide)]
  refine wpAny_bind (HT.slicePart_ pl (wpAny_bind (HT.slicePart_ pu (wpAny_bind (wpAny_pure ?_)))))
  show wpAny _ _ (match Builtin.Slice.sliceAdjust none none (-1) (n : Int) with | (lo, hi) => pure (lo, (-1 : Int), Builtin.Slice.slicePlaces lo hi (-1))) _ _ s
  have e : Builtin.Slice.sliceAdjust none none (-1) (n : Int) = ((n : Int) - 1, -1) := by
    simp [Builtin.Slice.sliceAdjust]
  rw [e]
  show wpAny _ _ (pure ((n : Int) - 1, (-1 : Int), Builtin.Slice.slicePlaces ((n : Int) - 1) (-1) (-1))) _ _ s
  have e2 : Builtin.Slice.slicePlaces ((n : Int) - 1) (-1) (-1) = n := by
    unfold Builtin.Slice.slicePlaces
    simp
    split <;> omega
  rw [e2]
  exact wpAny_pure h
theorem getItem_tuple_rev {ta cut : Addr} {xs : Array Value} {vl vu vk : Value} {Q : Value → Shared → Prop} (tup : IsTup s.heap ta xs) (hs : s.heap.IsSliceOf cut vl vu vk) (pl : IsPart vl none) (pu : IsPart vu none) (pk : IsPart vk (some (-1)))
    (h : Q (.ref s.heap.objs.size) { s with heap := s.heap.push { cls := .type "tuple", data := .seq xs.toList.reverse.toArray } })
    (hxz : xs.size ≤ sizeLine) : wpAny (model prog w) A (getItem (.ref ta) (.ref cut)) Q E s := by
  have hsmall : sizeOk (.seq xs.toList.reverse.toArray) := by
    show xs.toList.reverse.toArray.size ≤ sizeLine
    rw [List.size_toArray, List.length_reverse, Array.length_toList]
    exact hxz
  obtain ⟨ob, hob, hcl, hdt⟩ := id hs
  have hty : s.TypeIs (.ref cut) "slice" := ⟨ob, hob, hcl⟩
  unfold getItem
  try (with_reducible refine wpAny_holding ?_)
  try (refine wpAny_bind (wpAny_pure ?_))
  refine wpAny_bind (wpAny_sequenceKey tup.typeIs (by decide) ?_)
  refine wpAny_bind (wpAny_callSpecial?_slot (name := Str.ofString "__getitem__") tup.typeIs PyProof.Rows.slot_tuple_getitem
    (wpAny_call_entry PyProof.Rows.slot_tuple_getitem tup.typeIs entry_tuple_getitem ?_ (args_tuple_getitem _ _)))
  show wpAny _ _ (Builtin.Tuple.tupleItemsOf (.ref ta) >>= _) _ _ s
  refine wpAny_bind (tupleItemsOf_ tup ?_)
  refine wpAny_bind (wpAny_typeOf hty ?_)
  rw [if_pos (by decide)]
  refine wpAny_bind (sliceApplied_rev hs pl pu pk ?_)
  have hno : ¬ ((((xs.size : Int) - 1) == 0 && (-1 : Int) == 1 && xs.size == xs.size) = true) := by
    intro z
    rw [Bool.and_eq_true, Bool.and_eq_true] at z
    exact absurd (eq_of_beq z.1.2) (by decide)
  show wpAny _ _ (if (((xs.size : Int) - 1) == 0 && (-1 : Int) == 1 && xs.size == xs.size) = true then _ else _) _ _ s
  rw [if_neg hno, rev_pick]
  first
    | exact wpAny_bind (m := Builtin.Tuple.tupleExact _) (wpAny_newObj_type (wpAny_pure ⟨_, rfl, wpAny_pure h⟩) hsmall)
    | exact wpAny_bind (m := Builtin.Tuple.tupleExact _) (wpAny_newObj_type (wpAny_bind (wpAny_pure (wpAny_pure ⟨_, rfl, wpAny_pure h⟩))) hsmall)
    | exact wpAny_bind (wpAny_bind (m := Builtin.Tuple.tupleExact _) (wpAny_newObj_type (wpAny_pure (wpAny_pure ⟨_, rfl, wpAny_pure h⟩)) hsmall))
    | exact wpAny_bind (wpAny_bind (m := Builtin.Tuple.tupleExact _) (wpAny_newObj_type (wpAny_pure ⟨_, rfl, wpAny_pure h⟩) hsmall))
end
section
variable {X : Cx} {pos : Pos}
def tRevT (K : PySem.W.Frag) (te : TE) : TE := fun σ H Q => te σ H fun x H1 => ∃ a xs, x = .ref a ∧ SqT K H1 a xs ∧ ∀ p, H1 p = none → Q (.ref p) (upd H1 p (.tup xs.reverse))
theorem pe_revT {e : Expr} {te : TE} {k : Nat} {p1 p2 p3 pos : Pos} (he : PE X e te) : PE X (.Subscript e (.Slice none none (some (.UnaryOp .USub (.Constant (.int 1) k p1) p2)) p3) pos) (tRevT X.K te) := by
  refine ⟨fun pins s σ H Q I0 hw => Subscript_ (thn (he.run pins s σ H _ I0 hw) fun v t1 ⟨x, G1, J1, rv, way⟩ => ?_)⟩
  have back : PO X (some (.UnaryOp .USub (.Constant (.int 1) k p1) p2)) (tPart (tUn (rU fun i => .int (-i)) (tC (.int 1)))) := po_some (pe_un un_neg pe_int)
  refine wpAny_Slice (thn (po_none.run pins t1 σ G1 (fun o G2 => o = none ∧ G2 = G1) J1 ⟨rfl, rfl⟩) fun va t2 ⟨l, G2, J2, pa, ea, eg⟩ => ?_)
  subst ea eg
  refine thn (po_none.run pins t2 σ G2 (fun o G3 => o = none ∧ G3 = G2) J2 ⟨rfl, rfl⟩) fun vb t3 ⟨u, G3, J3, pb, eb, eg⟩ => ?_
  subst eb eg
  refine thn (back.run pins t3 σ G3 (fun o G4 => o = some (-1) ∧ G4 = G3) J3 ⟨1, rfl, -1, rfl, rfl, rfl⟩) fun vc t4 ⟨o, G4, J4, pc, ec, eg⟩ => ?_
  subst ec eg
  obtain ⟨a, xs, ex, hx, q⟩ := way
  subst ex
  cases rv
  have J5 : Inv X pins σ G4 { t4 with heap := t4.heap.push { cls := .type "slice", data := .fields #[va, vb, vc] } } := J4.kept (t' := t4.toks) fun _ _ z => Heap.get?_push_of_some _ z
  obtain ⟨us, rel, tup, small⟩ := J5.tuple hx
  have len := rel.length
  show wpAny (model X.prog X.w) X.A (subscriptTail e (.Slice none none (some (.UnaryOp .USub (.Constant (.int 1) k p1) p2)) p3) (.ref a) (.ref t4.heap.objs.size)) (EP X pins σ Q) X.xe { t4 with heap := t4.heap.push { cls := .type "slice", data := .fields #[va, vb, vc] } }
  refine tail_any (ops := [.ref a, .ref t4.heap.objs.size]) tup.typeIs (PyProof.Rows.slot_tuple_getitem.lookup) ?_ (by with_unfolding_all rfl)
  refine getItem_tuple_rev tup (Heap.IsSliceOf.new _ va vb vc) pa pb pc ?_ (by rw [List.size_toArray]; omega)
  refine ⟨.ref _, _, J5.laid (t' := t4.toks) (o := .tup xs.reverse) (fun _ _ z => Heap.get?_push_of_some _ z) (Nat.le_refl _) ?_, rfl, q _ (J5.hok.fresh (Nat.le_refl _))⟩
  exact ⟨by rw [List.length_reverse]; exact small, _, rel.reverse, IsTup.new _ _⟩
theorem _root_.L2.PE.or {X : Cx} {e : Expr} {t t' : TE} (h : PE X e t) (h' : PE X e t') : PE X e (fun σ H Q => t σ H Q ∨ t' σ H Q) :=
  ⟨fun pins s σ H Q I q => q.elim (h.run pins s σ H Q I) (h'.run pins s σ H Q I)⟩
def dRev : D → Option D
  | .lst ds => some (.lst ds.reverse)
  | .tup ds => some (.tup ds.reverse)
  | _ => none
def eRev (m : EM) : EM := fun env => (m env).bind fun (d, e) => (dRev d).map fun r => (r, e)
theorem e_rev {e : Expr} {m : EM} {k : Nat} {p1 p2 p3 pos : Pos} (he : PE X e (EvS X.K m)) : PE X (.Subscript e (.Slice none none (some (.UnaryOp .USub (.Constant (.int 1) k p1) p2)) p3) pos) (EvF X.K (eRev m)) :=
  ((pe_revL he).or (pe_revT he)).imp fun σ H Q ⟨S, ow, env, I, d, env', hm, k⟩ => by
    simp only [eRev, Option.bind_eq_some_iff, Option.map_eq_some_iff] at hm
    obtain ⟨⟨d1, e1⟩, h1, r, h2, h3⟩ := hm
    cases h3
    cases d1 with
    | lst ds =>
      cases h2
      refine .inl ⟨S, ow, env, I, _, _, h1, fun S' ow' v H' st J f => ?_⟩
      obtain ⟨rfl, r⟩ := f.shared
      obtain ⟨a, vs, rfl, sq, l⟩ := RpT.lst (.inl r)
      exact ⟨a, vs, rfl, sq, fun p hp => Res.go (fr := true) (.newC hp (.lst l.reverse)) J st k⟩
    | tup ds =>
      cases h2
      refine .inr ⟨S, ow, env, I, _, _, h1, fun S' ow' v H' st J f => ?_⟩
      obtain ⟨rfl, r⟩ := f.shared
      obtain ⟨a, vs, rfl, sq, l⟩ := RpT.tup (.inl r)
      exact ⟨a, vs, rfl, sq, fun p hp => Res.go (fr := true) (.newT hp l.reverse) J st k⟩
    | _ => cases h2

/-! ### list(range(..)), tuple(range(..)) -/
def eRg1 (mk : List D → D) (m : EM) : EM := fun env => (m env).bind fun (d, e) => (asI d).bind fun n => if n.natAbs ≤ 16777216 then some (mk (rngD 0 n.toNat), e) else none
def eRg2 (mk : List D → D) (m n : EM) : EM := fun env => (m env).bind fun (d, e) => (asI d).bind fun lo => (n e).bind fun (d', e') => (asI d').bind fun hi =>
  if lo.natAbs < 2 ^ 62 ∧ hi.natAbs < 2 ^ 62 ∧ (hi - lo).natAbs ≤ 16777216 then some (mk (rngD lo (hi - lo).toNat), e') else none
theorem rg_rp {K : PySem.W.Frag} {H : Hp} {P : Addr → Prop} : ∀ (n : Nat) (lo : Int) (f : Nat → Int), (∀ i, f i = lo + i) → RpL K H P ((List.range n).map fun i => V.int (f i)) (rngD lo n)
  | 0, _, _, _ => .nil
  | n + 1, lo, f, h => by
    rw [List.range_succ_eq_map, List.map_cons, List.map_map, rngD]
    have e0 : f 0 = lo := by rw [h]; simp
    refine .cons (by rw [e0]; exact .int lo) ?_
    exact rg_rp n (lo + 1) (fun i => f (i + 1)) fun i => by rw [h]; omega
theorem rgV_rp {K : PySem.W.Frag} {H : Hp} {P : Addr → Prop} (a b : Int) : RpL K H P (rgV a b) (rngD a (b - a).toNat) := rg_rp _ _ _ fun _ => rfl
theorem e_listRg1 {a : Expr} {m : EM} {p p' pos pos' : Pos} (hc : X.calm = true) (hl : Gl X "list") (ml : X.mg "list" = none) (hg : Gl X "range") (hm : X.mg "range" = none) (ha : PE X a (EvS X.K m))
    (na : starEach [a] X.env = (false, eval a X.env) :: starEach [] X.env := by rfl)
    (nb : starEach [Expr.Call (.Name "range" p') [a] [] pos'] X.env = (false, eval (Expr.Call (.Name "range" p') [a] [] pos') X.env) :: starEach [] X.env := by rfl) :
    PE X (.Call (.Name "list" p) [.Call (.Name "range" p') [a] [] pos'] [] pos) (EvF X.K (eRg1 .lst m)) :=
  (pe_listRg hc hl ml (prg_1 hg hm ha na) nb).imp fun σ H Q ⟨S, ow, env, I, d, env', hm, k⟩ => by
    simp only [eRg1, Option.bind_eq_some_iff] at hm
    obtain ⟨⟨d1, e1⟩, h1, n, h2, h3⟩ := hm
    cases asI_some h2
    split at h3
    · rename_i hz
      cases h3
      refine ⟨S, ow, env, I, _, _, h1, fun S' ow' v H' st J f => ?_⟩
      obtain ⟨rfl, r⟩ := f.shared
      refine ⟨n, r.int_inv, ⟨by decide, by decide, by omega, by omega, by omega⟩, fun p hp => ?_⟩
      have := rgV_rp (K := X.K) (H := H') (P := Av S'.A ow') 0 n
      rw [Int.sub_zero] at this
      exact Res.go (fr := true) (.newC hp (.lst this)) J st k
    · cases h3
theorem e_tupRg1 {a : Expr} {m : EM} {p p' pos pos' : Pos} (hc : X.calm = true) (hl : Gl X "tuple") (ml : X.mg "tuple" = none) (hg : Gl X "range") (hm : X.mg "range" = none) (ha : PE X a (EvS X.K m))
    (na : starEach [a] X.env = (false, eval a X.env) :: starEach [] X.env := by rfl)
    (nb : starEach [Expr.Call (.Name "range" p') [a] [] pos'] X.env = (false, eval (Expr.Call (.Name "range" p') [a] [] pos') X.env) :: starEach [] X.env := by rfl) :
    PE X (.Call (.Name "tuple" p) [.Call (.Name "range" p') [a] [] pos'] [] pos) (EvF X.K (eRg1 .tup m)) :=
  (pe_tupRg hc hl ml (prg_1 hg hm ha na) nb).imp fun σ H Q ⟨S, ow, env, I, d, env', hm, k⟩ => by
    simp only [eRg1, Option.bind_eq_some_iff] at hm
    obtain ⟨⟨d1, e1⟩, h1, n, h2, h3⟩ := hm
    cases asI_some h2
    split at h3
    · rename_i hz
      cases h3
      refine ⟨S, ow, env, I, _, _, h1, fun S' ow' v H' st J f => ?_⟩
      obtain ⟨rfl, r⟩ := f.shared
      refine ⟨n, r.int_inv, ⟨by decide, by decide, by omega, by omega, by omega⟩, fun p hp => ?_⟩
      have := rgV_rp (K := X.K) (H := H') (P := Av S'.A ow') 0 n
      rw [Int.sub_zero] at this
      exact Res.go (fr := true) (.newT hp this) J st k
    · cases h3

/-! ### sep.join(xs), n.bit_length() -/
def dJoin : D → D → Option D
  | .str sep, .lst ds => (strsD ds).bind fun ys => if (ys.map List.length).sum + ys.length * sep.length ≤ 16777216 then some (.str (TL.joinL sep ys)) else none
  | _, _ => none
def eJoin (o m : EM) : EM := fun env => (o env).bind fun (s, e1) => (m e1).bind fun (d, e2) => (dJoin s d).map fun r => (r, e2)

theorem str_sum (ys : List Str) : (ys.map (·.length)).sum = ((ys.map (·.cps.toList)).map List.length).sum := by
  congr 1
  rw [List.map_map]
  exact List.map_congr_left fun x _ => str_len x
theorem e_join {o e : Expr} {mo m : EM} {apos pos : Pos} (ho : PE X o (EvS X.K mo)) (he : PE X e (EvS X.K m)) (hs : starEach [e] X.env = [(false, eval e X.env)] := by rfl) (hbase : attributeBase o "join" X.env (eval o X.env) = eval o X.env := by rfl) (hline : (apos.endLine == pos.line) = true := by rfl) :
    PE X (.Call (.Attribute o "join" apos) [e] [] pos) (EvF X.K (eJoin mo m)) :=
  (pe_join ho he hs hbase hline).imp fun σ H Q ⟨S, ow, env, I, d, env', hm, k⟩ => by
    simp only [eJoin, Option.bind_eq_some_iff, Option.map_eq_some_iff] at hm
    obtain ⟨⟨d1, e1⟩, h1, ⟨d2, e2⟩, h2, r, h3, h4⟩ := hm
    cases h4
    cases d1 with
    | str sep =>
      cases d2 with
      | lst ds =>
        simp only [dJoin, Option.bind_eq_some_iff] at h3
        obtain ⟨ys, h5, h6⟩ := h3
        split at h6
        · rename_i hz
          cases h6
          refine ⟨S, ow, env, I, _, _, h1, fun S' ow' v H' st J f => ?_⟩
          obtain ⟨rfl, r⟩ := f.shared
          obtain ⟨x, rfl, ex⟩ := RpT.str (.inl r)
          refine ⟨⟨x, rfl⟩, S', ow', _, J, _, _, h2, fun S2 ow2 v2 H2 st2 J2 f2 => ?_⟩
          obtain ⟨rfl, r2⟩ := f2.shared
          obtain ⟨p, vs, rfl, sq, l⟩ := RpT.lst (.inl r2)
          rw [strsD_eq h5] at l
          obtain ⟨zs, rfl, ez⟩ := l.strs
          refine ⟨x, p, zs, rfl, rfl, .inl sq, ?_, ?_⟩
          · rw [str_sum, ez, str_len, ex, ← List.length_map (as := zs) (fun z : Str => z.cps.toList), ez]; exact hz
          · refine Res.go (fr := true) (.same (.strEq ?_) fun _ => rfl) J2 (st.trans st2) k
            rw [TL.join_eq]
            show TL.tl (Str.join x zs) = _
            rw [TL.tl_join]
            show TL.joinL x.cps.toList (zs.map fun z => z.cps.toList) = _
            rw [ex, ez]
        · cases h6
      | _ => cases h3
    | _ => cases h3
def eBits (m : EM) : EM := fun env => (m env).bind fun (d, e) => (asI d).map fun n => (.int (Builtin.Int.intBits n : Nat), e)
theorem e_bits {o : Expr} {m : EM} {apos pos : Pos} (ho : PE X o (EvS X.K m)) (hbase : attributeBase o "bit_length" X.env (eval o X.env) = eval o X.env := by rfl) (hline : (apos.endLine == pos.line) = true := by rfl) :
    PE X (.Call (.Attribute o "bit_length" apos) [] [] pos) (EvF X.K (eBits m)) :=
  (pe_bits ho hbase hline).imp fun σ H Q ⟨S, ow, env, I, d, env', hm, k⟩ => by
    simp only [eBits, Option.bind_eq_some_iff, Option.map_eq_some_iff] at hm
    obtain ⟨⟨d1, e1⟩, h1, n, h2, h3⟩ := hm
    cases h3
    cases asI_some h2
    refine ⟨S, ow, env, I, _, _, h1, fun S' ow' v H' st J f => ?_⟩
    obtain ⟨rfl, r⟩ := f.shared
    exact ⟨n, r.int_inv, Res.go (fr := true) (.same (.int _) fun _ => rfl) J st k⟩
end
end PL
end

section
set_option maxRecDepth 100000
set_option maxHeartbeats 3900000
/-! PV5: enumerate and zip over lists, tuples, texts in any mix. -/
namespace PL
open PySem Spec PyProof.Rows L2

theorem vals_get' : ∀ {vs : List V} {us : List Value} {i : Nat} {u : Value}, Vals vs us → us[i]? = some u → ∃ v, vs[i]? = some v ∧ RelV v u
  | _, _, _, _, .nil, h => by cases h
  | v :: _, _, 0, _, .cons r t, h => by cases h; exact ⟨v, rfl, r⟩
  | _ :: _, _, i + 1, _, .cons r t, h => vals_get' (i := i) t h
/-- what is walked -/
inductive Sk where
  | l (a : Addr)
  | t (a : Addr)
  | s (x : Str) (tk : Tok)
def Sk.has (K : PySem.W.Frag) (H : Hp) : Sk → List V → Prop
  | .l a, xs => SqL K H a xs
  | .t a, xs => SqT K H a xs
  | .s x _, xs => xs = x.cps.toList.map fun c => V.str ⟨#[c]⟩
def Sk.tn (it : Addr) (i : Nat) (h : Heap) : Sk → Prop
  | .l a => h.IsListIter it a i
  | .t a => h.IsTupleIter it a i
  | .s x tk => h.IsStrIter it (strIterType x) x tk i
def Sk.fp (it : Addr) : Sk → List Addr
  | .l a => [it, a]
  | .t a => [it, a]
  | .s _ _ => [it]
def Sk.obj : Sk → Obj
  | .l a => { cls := .type "list_iterator", data := .fields #[.ref a, .int 0 0] }
  | .t a => { cls := .type "tuple_iterator", data := .fields #[.ref a, .int 0 0] }
  | .s x tk => { cls := .type (strIterType x), data := .fields #[.str x tk, .int 0 0] }
def Sk.ok (h : Heap) (xs : Array Value) : Sk → Prop
  | .l a => h.IsList a xs
  | .t a => h.IsTuple a xs
  | .s _ _ => True
def Sk.val : Sk → Value
  | .l a => .ref a
  | .t a => .ref a
  | .s x tk => .str x tk
def Sk.far (e : Addr) : Sk → Prop
  | .l a => a ≠ e
  | .t a => a ≠ e
  | .s _ _ => True
theorem Sk.nfp {k : Sk} {e it : Addr} (h : e ≠ it) (f : k.far e) : e ∉ k.fp it := by
  cases k with
  | l a => intro z; have z' : e = it ∨ e = a := by simpa [Sk.fp] using z
           exact z'.elim h fun q => f q.symm
  | t a => intro z; have z' : e = it ∨ e = a := by simpa [Sk.fp] using z
           exact z'.elim h fun q => f q.symm
  | s x tk => intro z; exact h (by simpa [Sk.fp] using z)
theorem Sk.far_of {k : Sk} {e : Addr} {h : Heap} {xs : Array Value} (o : k.ok h xs) (le : h.objs.size ≤ e) : k.far e := by
  cases k with
  | l a => obtain ⟨o, q, _⟩ := o; exact Nat.ne_of_lt (Nat.lt_of_lt_of_le (Heap.lt_size q) le)
  | t a => obtain ⟨o, q, _⟩ := o; exact Nat.ne_of_lt (Nat.lt_of_lt_of_le (Heap.lt_size q) le)
  | s x tk => trivial
theorem Sk.begins (k : Sk) (xs : Array Value) : Begins k.val k.obj fun h => k.ok h xs := by
  cases k with
  | l a => exact begins_list a xs
  | t a => exact begins_tuple a xs
  | s x tk => exact begins_text x tk
section
variable {X : Cx} {pins : List (Addr × Obj)} {σ : L2.St} {H : Hp} {s : Shared}
theorem Sk.inj {k : Sk} {xs ys : List V} (I : L2.Inv X pins σ H s) (h : k.has X.K H xs) (h' : k.has X.K H ys) : xs = ys := by
  cases k with
  | l a => exact I.list_inj h h'
  | t a => exact I.tuple_inj h h'
  | s x tk => exact h.trans h'.symm
theorem Sk.items {k : Sk} {xs : List V} (I : L2.Inv X pins σ H s) (h : k.has X.K H xs) : ∃ its, k.ok s.heap its := by
  cases k with
  | l a => obtain ⟨its, r, p, _⟩ := I.list h; exact ⟨_, p.isList⟩
  | t a => obtain ⟨its, r, p, _⟩ := I.tuple h; exact ⟨its.toArray, p⟩
  | s x tk => exact ⟨#[], trivial⟩
theorem Sk.memFp {k : Sk} {it : Addr} : it ∈ k.fp it := by cases k <;> simp [Sk.fp]
theorem Sk.tn0 {k : Sk} {it : Addr} {h : Heap} (e : h.get? it = some k.obj) : k.tn it 0 h := by
  cases k with
  | l a => exact ⟨_, e, rfl, rfl⟩
  | t a => exact ⟨_, e, rfl, rfl⟩
  | s x tk => exact ⟨_, e, rfl, rfl⟩
theorem Sk.get {k : Sk} {it : Addr} {i : Nat} {h : Heap} (st : k.tn it i h) : ∃ o, h.get? it = some o ∧ ∀ v, o.data ≠ .cell v := by
  cases k with
  | l a => obtain ⟨o, e, _, d⟩ := st; exact ⟨o, e, fun v q => by rw [d] at q; cases q⟩
  | t a => obtain ⟨o, e, _, d⟩ := st; exact ⟨o, e, fun v q => by rw [d] at q; cases q⟩
  | s x tk => obtain ⟨o, e, _, d⟩ := st; exact ⟨o, e, fun v q => by rw [d] at q; cases q⟩
theorem Sk.keep {k : Sk} {it : Addr} {i : Nat} {h h' : Heap} (st : k.tn it i h) (kp : ∀ o, h.get? it = some o → h'.get? it = some o) : k.tn it i h' := by
  cases k with
  | l a => exact st.at kp
  | t a => exact st.at kp
  | s x tk => obtain ⟨o, e, c, d⟩ := st; exact ⟨o, kp o e, c, d⟩
/-- a source read through the library's draws -/
theorem Sk.draws {k : Sk} {it : Addr} {i : Nat} {xs : List V} (I : L2.Inv X pins σ H s) (hh : X.A.handled = none) (h : k.has X.K H xs) (st : k.tn it i s.heap) :
    ∃ (n : Nat) (P : Nat → Value → Prop) (St : Nat → Heap → Prop), Draws X.prog X.w X.A.in1 it (k.fp it) n P St ∧ n = xs.length ∧ St i s.heap ∧ (∀ j v, P j v → ∃ x, xs[j]? = some x ∧ RelV x v) ∧ ∀ j h, St j h → k.tn it j h := by
  cases k with
  | l a =>
    obtain ⟨its, r, p, _⟩ := I.list h
    have hne : a ≠ it := fun e => by
      obtain ⟨o, e1, c1, _⟩ := st
      obtain ⟨o2, e2, c2, _⟩ := p.isList
      rw [e, e1] at e2; cases e2
      rw [c1] at c2; exact absurd c2 (by decide)
    refine ⟨_, _, _, Draws.list (show X.A.in1.handled = none from hh) it a hne its.toArray, by rw [List.size_toArray, ← r.length], ⟨st, p.isList⟩, fun j v e => ?_, fun j h z => z.1⟩
    obtain ⟨x, ex, rx⟩ := vals_get' r (by simpa using e)
    exact ⟨x, ex, rx⟩
  | t a =>
    obtain ⟨its, r, p, _⟩ := I.tuple h
    have hne : a ≠ it := fun e => by
      obtain ⟨o, e1, c1, _⟩ := st
      obtain ⟨o2, e2, c2, _⟩ := p
      rw [e, e1] at e2; cases e2
      rw [c1] at c2; exact absurd c2 (by decide)
    refine ⟨_, _, _, Draws.tuple (show X.A.in1.handled = none from hh) it a hne its.toArray, by rw [List.size_toArray, ← r.length], ⟨st, p⟩, fun j v e => ?_, fun j h z => z.1⟩
    obtain ⟨x, ex, rx⟩ := vals_get' r (by simpa using e)
    exact ⟨x, ex, rx⟩
  | s x tk =>
    refine ⟨_, _, _, Draws.text (show X.A.in1.handled = none from hh) it x tk, by rw [show xs = _ from h, List.length_map, Array.length_toList], st, fun j v ⟨c, u, e1, e2⟩ => ?_, fun j h z => z⟩
    subst e2
    refine ⟨.str ⟨#[c]⟩, ?_, ⟨u, rfl⟩⟩
    rw [show xs = _ from h, List.getElem?_map, Array.getElem?_toList, e1]; rfl
/-- one turn, told by the library's walk -/
theorem walk_turn {it : Addr} {fp wr : List Addr} {n i : Nat} {Pt : Nat → Array Value → Prop} {St : Nat → Heap → Prop} {Mid : Nat → Addr → Heap → Prop} {R : List V → Prop} {elts : List Expr} {kk : Nat} {tpos : Pos} {E : Value → Shared → Prop}
    (I : L2.Inv X pins σ H s) (W : WalksT X.prog X.w X.A it fp wr n Pt St Mid) (hi : i < n) (st : St i s.heap) (wf : ∀ b ∈ wr, FpOk X pins H b) (rel : ∀ vals, Pt i vals → ∃ xs, Vals xs vals.toList ∧ xs.length ≤ sizeLine ∧ R xs) :
    wpAny (model X.prog X.w) X.A (pyNext (.ref it)) (fun r s1 => ∃ u, r = some u ∧ wpAny (model X.prog X.w) X.A (letOwnedTupleGo (.Tuple elts kk tpos) (.ref it) u)
      (fun _ s2 => ∃ T xs, u = .ref T ∧ L2.Inv X pins σ (upd H T (.tup xs)) s2 ∧ H T = none ∧ s.heap.objs.size ≤ T ∧ R xs ∧ St (i + 1) s2.heap ∧ ∀ b o, b ∉ wr → s.heap.get? b = some o → s2.heap.get? b = some o) E s1) E s := by
  refine W.item i s _ _ hi st fun T vals h' tk hp hT htup mid ext => ⟨_, rfl, W.go elts kk tpos i T _ _ _ mid fun h'' st2 ext2 => ?_⟩
  obtain ⟨xs, rv, hz, hr⟩ := rel vals hp
  have ht2 : h''.IsTuple T vals := htup.at fun o q => ext2 T o (W.apart i T h' mid) q
  have new : ObjOk X.prog X.w (upd H T (.tup xs)) h'' T (.tup xs) := ⟨hz, vals.toList, rv, by simpa using (show IsTup h'' T vals from ht2)⟩
  exact ⟨T, xs, rfl, I.turnedNew (ch := wr) (fun b o hb q => ext2 b o hb (ext b o hb q)) wf hT new, I.hok.fresh hT, hT, hr, st2, fun b o hb q => ext2 b o hb (ext b o hb q)⟩
end

/-! ### enumerate -/
def ItEn (K : PySem.W.Frag) (k : Sk) : It :=
  ⟨fun i H => ∃ xs, k.has K H xs ∧ i < xs.length, fun i H v H' => ∃ T x, v = .ref T ∧ H T = none ∧ H' = upd H T (.tup [.int (i : Nat), x]) ∧ ∀ xs, k.has K H xs → xs[i]? = some x, fun i H => ∃ xs, k.has K H xs ∧ xs.length = i⟩
theorem turn_en {P : Program} {w : World} {K : PySem.W.Frag} {elts : List Expr} {kk : Nat} {tpos : Pos} (k : Sk) (e it : Addr) (hne : e ≠ it) (far : k.far e) :
    Turn P w K (.Tuple elts kk tpos) (ItEn K k) [e, it] e (fun i h => (∃ was, IsEnum h e it ((i : Nat) : Int) was) ∧ k.tn it i h) where
  mem := by simp
  obj := fun i h st b hb => by
    obtain ⟨⟨was, hen⟩, hk⟩ := st
    have ec : b = e ∨ b = it := by simpa using hb
    rcases ec with z | z
    · rw [z]; exact ⟨_, hen, fun v q => nomatch q⟩
    · rw [z]; exact Sk.get hk
  keep := fun i h h' st kp => by
    obtain ⟨⟨was, hen⟩, hk⟩ := st
    exact ⟨⟨was, kp e (by simp) _ hen⟩, Sk.keep hk fun o q => kp it (by simp) o q⟩
  item := by
    intro X eP ew eK hc i pins s σ H E I hf st hg
    subst eP ew eK
    obtain ⟨⟨was, hen⟩, hk⟩ := st
    obtain ⟨xs, hq, hx⟩ := hg
    obtain ⟨n, P, St, D, en, st0, rel, back⟩ := Sk.draws I (I.ok.hd hc) hq hk
    have hef : e ∉ k.fp it := Sk.nfp hne far
    have W := WalksT.enumFrom 0 D e hne hef Sk.memFp
    refine wpAny_mono (walk_turn (R := fun ys => ∃ x, ys = [.int (i : Nat), x] ∧ xs[i]? = some x) I W (by rw [en]; exact hx) ⟨⟨was, by simpa using hen⟩, st0⟩ hf fun vals hv => ?_) (fun r s1 ⟨u, e1, q⟩ => ⟨u, e1, wpAny_mono q (fun _ s2 z => ?_) fun _ _ z => z⟩) fun _ _ z => z
    · obtain ⟨t, v, hp, rfl⟩ := hv
      obtain ⟨x, ex, rx⟩ := rel i v hp
      exact ⟨[.int (i : Nat), x], .cons ⟨t, by simp⟩ (.cons rx .nil), by show 2 ≤ sizeLine; decide, x, rfl, ex⟩
    · obtain ⟨T, ys, rfl, I1, hT, hsz, ⟨x, rfl, ex⟩, ⟨⟨old', hen1⟩, st'⟩, _⟩ := z
      refine ⟨.ref T, _, I1, rfl, ⟨T, x, rfl, hT, rfl, fun zs hz => by rw [Sk.inj I hz hq]; exact ex⟩, ⟨⟨old', by simpa using hen1⟩, back _ _ st'⟩, fun b hb => ?_⟩
      have hlt : b < s.heap.objs.size := by
        have ec : b = e ∨ b = it := by simpa using hb
        rcases ec with z | z
        · rw [z]; exact Heap.lt_size hen
        · rw [z]; obtain ⟨o, q, _⟩ := Sk.get hk; exact Heap.lt_size q
      rw [upd_ne (Nat.ne_of_lt (Nat.lt_of_lt_of_le hlt hsz))]
      exact (hf b hb).1
  done := by
    intro X eP ew eK hc i pins s σ H E I hf st hg
    subst eP ew eK
    obtain ⟨⟨was, hen⟩, hk⟩ := st
    obtain ⟨xs, hq, hx⟩ := hg
    obtain ⟨n, P, St, D, en, st0, rel, back⟩ := Sk.draws I (I.ok.hd hc) hq hk
    have hef : e ∉ k.fp it := Sk.nfp hne far
    have W := WalksT.enumFrom 0 D e hne hef Sk.memFp
    have ei : n = i := by rw [en, hx]
    subst ei
    exact W.done s _ _ ⟨⟨was, by simpa using hen⟩, st0⟩ fun h' tk ext => ⟨rfl, I.turnedL (ch := [e, it]) ext hf⟩
  self := fun A i s Q E st h => let ⟨⟨_, hen⟩, _⟩ := st; wpAny_pyIter_enum hen h

theorem meets_enum1 {v : Value} {o : Obj} {H : Heap → Prop} (B : Begins v o H) :
    Meets (Builtin.«enumerate.__new__» ⟨[.type "enumerate", v], []⟩) (fun _ R s => H s.heap ∧
      R (.ok (.ret (.ref (s.heap.push o).objs.size))) { s with heap := (s.heap.push o).push { cls := .type "enumerate", data := .fields #[.none, .bool false, .ref s.heap.objs.size, rawInt 0, .none, .none] } }) :=
  .of_wp fun prog w A R s h => by
    obtain ⟨hh, gg, d, tt, oo⟩ := s; obtain ⟨hb, h⟩ := h
    have hsub := sub_enumerate
    have go1 : ∀ {A' : Around} {E : Value → Shared → Prop} {Q : Value → Shared → Prop}, Q (.ref hh.objs.size) ⟨hh.push o, gg, d, tt, oo⟩ → wpAny (model prog w) A' (pyIter v) Q E ⟨hh, gg, d, tt, oo⟩ :=
      fun q => B.iter prog w _ _ ⟨hh, gg, d, tt, oo⟩ _ hb q
    wp_walk using go1
    refine wpAny_stack_any fun sk => wpAny_pure ?_
    split
    · rename_i c _ _ _ _ _
      cases (c == Value.type "enumerate")
      · wp_walk using go1
        exact ⟨_, rfl, h⟩
      · wp_walk using go1
        exact ⟨_, rfl, h⟩
    · wp_walk using go1
      exact ⟨_, rfl, h⟩
section
variable {prog : Program} {w : World} {A : Around} {E : Value → Shared → Prop} {s : Shared}
theorem enum_begins1 {v : Value} {o : Obj} {H : Heap → Prop} {Q : Value → Shared → Prop} (B : Begins v o H) (h1 : H s.heap)
    (h : ∀ h', IsEnum h' (s.heap.objs.size + 1) s.heap.objs.size 0 .none → h'.get? s.heap.objs.size = some o → h'.objs.size = s.heap.objs.size + 2 →
      (∀ b o, s.heap.get? b = some o → h'.get? b = some o) → Q (.ref (s.heap.objs.size + 1)) { s with heap := h' }) :
    wpAny (model prog w) A (call (.type "enumerate") [v]) Q E s := by
  refine callType_new PySem.F.called_enumerate (by decide) (PySem.F.typeCall_enumerate_1 _) (PySem.F.newCall_enumerate_1 _) (fun obj => PySem.F.args_object_init_2 obj _) PySem.F.entry_enumerate_new
    (meets_enum1 B) ⟨h1, ?_⟩
  have sz1 : (s.heap.push o).objs.size = s.heap.objs.size + 1 := Heap.size_push ..
  show _ ∧ _
  rw [sz1]
  have hen : IsEnum ((s.heap.push o).push { cls := .type "enumerate", data := .fields #[.none, .bool false, .ref s.heap.objs.size, rawInt 0, .none, .none] }) (s.heap.objs.size + 1) s.heap.objs.size 0 .none := by
    have := Heap.get?_push_size (s.heap.push o) (o := { cls := .type "enumerate", data := .fields #[.none, .bool false, .ref s.heap.objs.size, rawInt 0, .none, .none] }) rfl
    rw [sz1] at this; exact this
  refine ⟨⟨_, hen, rfl⟩, h _ hen (Heap.get?_push_of_some _ (Heap.get?_push_size _ B.free)) (by rw [Heap.size_push, sz1]) fun b o x => Heap.get?_push_of_some _ (Heap.get?_push_of_some _ x)⟩
end
/-- the source that a value is -/
inductive SkV (K : PySem.W.Frag) (H : Hp) : V → List V → (Value → Sk) → Prop
  | l {a : Addr} {xs : List V} : SqL K H a xs → SkV K H (.ref a) xs fun _ => .l a
  | t {a : Addr} {xs : List V} : SqT K H a xs → SkV K H (.ref a) xs fun _ => .t a
  | s (x : Str) : SkV K H (.str x) (x.cps.toList.map fun c => V.str ⟨#[c]⟩) fun v => match v with | .str _ t => .s x t | _ => .s x 0
theorem SkV.val {K : PySem.W.Frag} {H : Hp} {v : V} {u : Value} {xs : List V} {k : Value → Sk} (h : SkV K H v xs k) (r : RelV v u) : (k u).val = u ∧ (k u).has K H xs := by
  cases h with
  | l h => cases r; exact ⟨rfl, h⟩
  | t h => cases r; exact ⟨rfl, h⟩
  | s x => obtain ⟨t, rfl⟩ := r; exact ⟨rfl, rfl⟩
def iEn (K : PySem.W.Frag) (ta : TA) : TI := fun σ H R => ta σ H fun vs H1 => ∃ x xs k, vs = [x] ∧ SkV K H1 x xs k ∧ ∀ u, R (ItEn K (k u)) H1
theorem pi_en {X : Cx} {e : Expr} {ta : TA} {p pos tpos : Pos} {elts : List Expr} {kk : Nat} (hg : Gl X "enumerate") (hm : X.mg "enumerate" = none) (ha : PA X [e] ta) (hs : starEach [e] X.env = [(false, eval e X.env)] := by rfl) :
    PI X (.Tuple elts kk tpos) (.Call (.Name "enumerate" p) [e] [] pos) (iEn X.K ta) := by
  refine ⟨fun pins s σ H R I h => ?_⟩
  refine Call_ (ld_blt I hg hm boot_enumerate (PyProof.Rows.callWith_type1 (thn (ha.run pos pins s σ H _ I h) fun args s1 ⟨vs, H1, J1, rv1, way⟩ => ?_) hs rfl))
  obtain ⟨x, xs, k, ex, hq, q⟩ := way
  subst ex
  obtain ⟨u, rfl, r⟩ := rv1.one
  obtain ⟨ev, hh⟩ := hq.val r
  obtain ⟨its, ok⟩ := Sk.items J1 hh
  have B := (k u).begins its
  rw [ev] at B
  refine enum_begins1 B ok fun h' he hit hsz hk => wpAny_pyIter_enum he ?_
  have I2 : L2.Inv X pins σ H1 { s1 with heap := h' } := J1.kept (t' := s1.toks) hk
  refine ⟨s1.heap.objs.size + 1, [s1.heap.objs.size + 1, s1.heap.objs.size], _, _, H1, rfl, I2, turn_en (k u) (s1.heap.objs.size + 1) s1.heap.objs.size (Nat.succ_ne_self _) (Sk.far_of ok (Nat.le_succ _)), ⟨⟨.none, he⟩, Sk.tn0 hit⟩, fun b hb => ?_, q u⟩
  have ec : b = s1.heap.objs.size + 1 ∨ b = s1.heap.objs.size := by simpa using hb
  have low : s1.heap.objs.size ≤ b := by
    rcases ec with z | z
    · rw [z]; exact Nat.le_add_right _ _
    · rw [z]; exact Nat.le_refl _
  exact J1.fpOk low (J1.hok.fresh low)

/-! ### zip -/
def ItZp (K : PySem.W.Frag) (k1 k2 : Sk) : It :=
  ⟨fun i H => ∃ xs ys, k1.has K H xs ∧ k2.has K H ys ∧ i < min xs.length ys.length, fun i H v H' => ∃ T x y, v = .ref T ∧ H T = none ∧ H' = upd H T (.tup [x, y]) ∧ (∀ xs, k1.has K H xs → xs[i]? = some x) ∧ ∀ ys, k2.has K H ys → ys[i]? = some y,
    fun i H => ∃ xs ys, k1.has K H xs ∧ k2.has K H ys ∧ min xs.length ys.length = i⟩
structure Zs (z TI TO i1 i2 : Addr) (k1 k2 : Sk) : Prop where
  TIz : TI ≠ z
  TOz : TO ≠ z
  TITO : TI ≠ TO
  TIi1 : TI ≠ i1
  TIi2 : TI ≠ i2
  zi1 : z ≠ i1
  zi2 : z ≠ i2
  TOi1 : TO ≠ i1
  TOi2 : TO ≠ i2
  i12 : i1 ≠ i2
  z1 : k1.far z
  z2 : k2.far z
  T1 : k1.far TO
  T2 : k2.far TO
  a1 : k1.far i2
  a2 : k2.far i1
theorem Zs.sep {z TI TO i1 i2 : Addr} {k1 k2 : Sk} (D : Zs z TI TO i1 i2 k1 k2) : ZipSep2 z TI TO i1 i2 (k1.fp i1) (k2.fp i2) where
  TIz := D.TIz
  TOz := D.TOz
  TITO := D.TITO
  TIi1 := D.TIi1
  mem1 := Sk.memFp
  zf1 := Sk.nfp D.zi1 D.z1
  Tf1 := Sk.nfp D.TOi1 D.T1
  TIi2 := D.TIi2
  mem2 := Sk.memFp
  zf2 := Sk.nfp D.zi2 D.z2
  Tf2 := Sk.nfp D.TOi2 D.T2
  sep1_2 := Sk.nfp D.i12 D.a2
  sep2_1 := Sk.nfp (Ne.symm D.i12) D.a1
theorem turn_zp {P : Program} {w : World} {K : PySem.W.Frag} {elts : List Expr} {kk : Nat} {tpos : Pos} {z TI TO i1 i2 : Addr} {k1 k2 : Sk} (D : Zs z TI TO i1 i2 k1 k2) :
    Turn P w K (.Tuple elts kk tpos) (ItZp K k1 k2) [z, TI, TO, i1, i2] z (fun i h => IsZip h z TI TO .none ∧ IsTupOf2 h TI (.ref i1) (.ref i2) ∧ (∃ x y, IsTupOf2 h TO x y) ∧ k1.tn i1 i h ∧ k2.tn i2 i h) where
  mem := by simp
  obj := fun i h st c hc => by
    obtain ⟨gz, gTI, ⟨x, y, gTO⟩, g1, g2⟩ := st
    have ec : c = z ∨ c = TI ∨ c = TO ∨ c = i1 ∨ c = i2 := by simpa using hc
    rcases ec with q | q | q | q | q
    · rw [q]; exact ⟨_, gz, fun v q => nomatch q⟩
    · rw [q]; exact ⟨_, gTI, fun v q => nomatch q⟩
    · rw [q]; exact ⟨_, gTO, fun v q => nomatch q⟩
    · rw [q]; exact Sk.get g1
    · rw [q]; exact Sk.get g2
  keep := fun i h h' st k => by
    obtain ⟨gz, gTI, ⟨x, y, gTO⟩, g1, g2⟩ := st
    exact ⟨k z (by simp) _ gz, k TI (by simp) _ gTI, ⟨x, y, k TO (by simp) _ gTO⟩, Sk.keep g1 fun o q => k i1 (by simp) o q, Sk.keep g2 fun o q => k i2 (by simp) o q⟩
  item := by
    intro X eP ew eK hc i pins s σ H E I hf st hg
    subst eP ew eK
    obtain ⟨gz, gTI, gTO, g1, g2⟩ := st
    obtain ⟨xs, ys, hqx, hqy, hlt⟩ := hg
    obtain ⟨n1, P1, St1, D1, en1, st1, rel1, back1⟩ := Sk.draws I (I.ok.hd hc) hqx g1
    obtain ⟨n2, P2, St2, D2, en2, st2, rel2, back2⟩ := Sk.draws I (I.ok.hd hc) hqy g2
    have W := WalksT.zipD2 D.sep D1 D2
    have sub : ∀ b, b ∈ [z, TO, i1, i2] → b ∈ [z, TI, TO, i1, i2] := fun b hb => by
      have : b = z ∨ b = TO ∨ b = i1 ∨ b = i2 := by simpa using hb
      rcases this with q | q | q | q <;> simp [q]
    refine wpAny_mono (walk_turn (R := fun zs => ∃ x y, zs = [x, y] ∧ xs[i]? = some x ∧ ys[i]? = some y) I W (by rw [en1, en2]; exact hlt) ⟨gz, gTI, gTO, st1, st2⟩ (fun b hb => hf b (sub b hb)) fun vals hv => ?_) (fun r s1 ⟨u, e1, q⟩ => ⟨u, e1, wpAny_mono q (fun _ s2 zz => ?_) fun _ _ zz => zz⟩) fun _ _ zz => zz
    · obtain ⟨v1, v2, p1, p2, rfl⟩ := hv
      obtain ⟨x, ex, rx⟩ := rel1 i v1 p1
      obtain ⟨y, ey, ry⟩ := rel2 i v2 p2
      exact ⟨[x, y], .cons rx (.cons ry .nil), by show 2 ≤ sizeLine; decide, x, y, rfl, ex, ey⟩
    · obtain ⟨T, zs, rfl, I1, hT, hsz, ⟨x, y, rfl, ex, ey⟩, ⟨hz', hTI', hTO', st1', st2'⟩, _⟩ := zz
      refine ⟨.ref T, _, I1, rfl, ⟨T, x, y, rfl, hT, rfl, fun l hl => by rw [Sk.inj I hl hqx]; exact ex, fun l hl => by rw [Sk.inj I hl hqy]; exact ey⟩, ⟨hz', hTI', hTO', back1 _ _ st1', back2 _ _ st2'⟩, fun c hcm => ?_⟩
      have hlt' : c < s.heap.objs.size := by
        obtain ⟨x0, y0, gTO⟩ := gTO
        have ec : c = z ∨ c = TI ∨ c = TO ∨ c = i1 ∨ c = i2 := by simpa using hcm
        rcases ec with q | q | q | q | q
        · rw [q]; exact Heap.lt_size gz
        · rw [q]; exact Heap.lt_size gTI
        · rw [q]; exact Heap.lt_size gTO
        · rw [q]; obtain ⟨o, q, _⟩ := Sk.get g1; exact Heap.lt_size q
        · rw [q]; obtain ⟨o, q, _⟩ := Sk.get g2; exact Heap.lt_size q
      rw [upd_ne (Nat.ne_of_lt (Nat.lt_of_lt_of_le hlt' hsz))]
      exact (hf c hcm).1
  done := by
    intro X eP ew eK hc i pins s σ H E I hf st hg
    subst eP ew eK
    obtain ⟨gz, gTI, gTO, g1, g2⟩ := st
    obtain ⟨xs, ys, hqx, hqy, hlt⟩ := hg
    obtain ⟨n1, P1, St1, D1, en1, st1, rel1, back1⟩ := Sk.draws I (I.ok.hd hc) hqx g1
    obtain ⟨n2, P2, St2, D2, en2, st2, rel2, back2⟩ := Sk.draws I (I.ok.hd hc) hqy g2
    have W := WalksT.zipD2 D.sep D1 D2
    have sub : ∀ b, b ∈ [z, TO, i1, i2] → b ∈ [z, TI, TO, i1, i2] := fun b hb => by
      have : b = z ∨ b = TO ∨ b = i1 ∨ b = i2 := by simpa using hb
      rcases this with q | q | q | q <;> simp [q]
    rw [← en1, ← en2] at hlt
    subst hlt
    exact W.done s _ _ ⟨gz, gTI, gTO, st1, st2⟩ fun h' tk ext => ⟨rfl, I.turnedL (ch := [z, TO, i1, i2]) ext fun b hb => hf b (sub b hb)⟩
  self := fun A i s Q E st h => wpAny_pyIter_zip st.1 h
def iZp (K : PySem.W.Frag) (ta : TA) : TI := fun σ H R => ta σ H fun vs H1 => ∃ x y xs ys k1 k2, vs = [x, y] ∧ SkV K H1 x xs k1 ∧ SkV K H1 y ys k2 ∧ ∀ u w, R (ItZp K (k1 u) (k2 w)) H1
theorem pi_zp {X : Cx} {e e2 : Expr} {ta : TA} {p pos tpos : Pos} {elts : List Expr} {kk : Nat} (hg : Gl X "zip") (hm : X.mg "zip" = none) (ha : PA X [e, e2] ta)
    (hs : starEach [e, e2] X.env = (false, eval e X.env) :: starEach [e2] X.env := by rfl) (plq : (backTo pos (starEach [e2] X.env)).any (·.1) = false := by rfl) :
    PI X (.Tuple elts kk tpos) (.Call (.Name "zip" p) [e, e2] [] pos) (iZp X.K ta) := by
  refine ⟨fun pins s σ H R I h => ?_⟩
  refine Call_ (ld_blt I hg hm PyProof.Rows.boot_zip (PyProof.Rows.callWith_type1 (thn (ha.run pos pins s σ H _ I h) fun args s1 ⟨vs, H1, J1, rv1, way⟩ => ?_) hs plq))
  obtain ⟨x, y, xs, ys, k1, k2, ex, hqx, hqy, q⟩ := way
  subst ex
  obtain ⟨u, w', rfl, rx, ry⟩ := vals2 rv1
  obtain ⟨ev, hx⟩ := hqx.val rx
  obtain ⟨ew, hy⟩ := hqy.val ry
  obtain ⟨its, ok⟩ := Sk.items J1 hx
  obtain ⟨its2, ok2⟩ := Sk.items J1 hy
  have B := (k1 u).begins its
  rw [ev] at B
  have B2 := (k2 w').begins its2
  rw [ew] at B2
  refine zip_begins2 B B2 ok ok2 fun h' hz hTI hTO e1 e2 hsz hk => wpAny_pyIter_zip hz ?_
  have I2 : L2.Inv X pins σ H1 { s1 with heap := h' } := J1.kept (t' := s1.toks) hk
  have far1 : ∀ j, (k1 u).far (s1.heap.objs.size + j) := fun j => Sk.far_of ok (Nat.le_add_right _ _)
  have far2 : ∀ j, (k2 w').far (s1.heap.objs.size + j) := fun j => Sk.far_of ok2 (Nat.le_add_right _ _)
  refine ⟨s1.heap.objs.size + 4, [s1.heap.objs.size + 4, s1.heap.objs.size + 2, s1.heap.objs.size + 3, s1.heap.objs.size, s1.heap.objs.size + 1], _, _, H1, rfl, I2,
    turn_zp (k1 := k1 u) (k2 := k2 w') ⟨?_, ?_, ?_, ?_, ?_, ?_, ?_, ?_, ?_, ?_, far1 4, far2 4, far1 3, far2 3, far1 1, far2 0⟩, ⟨hz, hTI, ⟨_, _, hTO⟩, Sk.tn0 e1, Sk.tn0 e2⟩, fun c hmem => ?_, q u w'⟩
  all_goals try (exact fun z => absurd (show (s1.heap.objs.size + _ : Nat) = s1.heap.objs.size + _ from z) (by omega))
  · exact fun z => absurd (show (s1.heap.objs.size + 2 : Nat) = s1.heap.objs.size from z) (by omega)
  · exact fun z => absurd (show (s1.heap.objs.size + 4 : Nat) = s1.heap.objs.size from z) (by omega)
  · exact fun z => absurd (show (s1.heap.objs.size + 3 : Nat) = s1.heap.objs.size from z) (by omega)
  · exact fun z => absurd (show (s1.heap.objs.size : Nat) = s1.heap.objs.size + 1 from z) (by omega)
  · have ec : c = s1.heap.objs.size + 4 ∨ c = s1.heap.objs.size + 2 ∨ c = s1.heap.objs.size + 3 ∨ c = s1.heap.objs.size ∨ c = s1.heap.objs.size + 1 := by simpa using hmem
    have low : s1.heap.objs.size ≤ c := by
      rcases ec with z | z | z | z | z
      · rw [z]; exact Nat.le_add_right _ _
      · rw [z]; exact Nat.le_add_right _ _
      · rw [z]; exact Nat.le_add_right _ _
      · rw [z]; exact Nat.le_refl _
      · rw [z]; exact Nat.le_add_right _ _
    exact J1.fpOk low (J1.hok.fresh low)

/-! ### over plain data -/
section
variable {K : PySem.W.Frag} {A : Addr → Prop} {ow : List (Option Addr)} {H : Hp}
/-- a source that stands behind any step -/
def StS (K : PySem.W.Frag) (ow : List (Option Addr)) (H : Hp) (k : Sk) (vs : List V) : Prop := ∀ ow2 H2, Stp ow H ow2 H2 → k.has K H2 vs
theorem sk_of {v : V} {d : D} {ds : List D} (hd : items d = some ds) (r : Rp K H (Av A ow) v d) : ∃ vs k, SkV K H v vs k ∧ (∀ u, StS K ow H (k u) vs) ∧ RpL K H (Av A ow) vs ds := by
  cases d with
  | lst ds0 =>
    cases hd
    cases r with
    | @cell a o _ e n rc =>
      cases rc with
      | @lst vs _ rl =>
        have sl : StL K ow H a vs := .of (o := .lst vs) e fun z => n (.inr z)
        exact ⟨vs, _, .l (sl _ _ .refl), fun _ => sl, rl⟩
    | @frz a ob o _ e rc =>
      cases rc with
      | @lst vs _ rl =>
        have sl : StL K ow H a vs := .frz e
        exact ⟨vs, _, .l (sl _ _ .refl), fun _ => sl, rl⟩
    | @kls a vs _ hk rl =>
      have sl : StL K ow H a vs := fun _ _ _ => hk.sq
      exact ⟨vs, _, .l (sl _ _ .refl), fun _ => sl, rl⟩
  | tup ds0 =>
    cases hd
    cases r with
    | @tup a vs _ hs rl => exact ⟨vs, _, .t hs, fun _ _ _ st => st.sqT hs, rl⟩
    | cell _ _ rc => cases rc
    | frz _ rc => cases rc
  | str cs =>
    cases hd
    cases r with
    | str x =>
      refine ⟨_, _, .s x, fun u => ?_, ?_⟩
      · cases u <;> exact fun _ _ _ => rfl
      · unfold chars
        induction x.cps.toList with
        | nil => exact .nil
        | cons c cs ih => exact .cons (.strOf [c]) ih
    | cell _ _ rc => cases rc
    | frz _ rc => cases rc
  | _ => cases hd
def enD : Int → List D → List D
  | _, [] => []
  | i, d :: ds => .tup [.int i, d] :: enD (i + 1) ds
theorem enD_len : ∀ (ds : List D) (i : Int), (enD i ds).length = ds.length
  | [], _ => rfl
  | d :: ds, i => by rw [enD, List.length_cons, enD_len ds]; rfl
theorem enD_get : ∀ (ds : List D) (i : Int) (j : Nat) (d : D), (enD i ds)[j]? = some d → ∃ x, ds[j]? = some x ∧ d = .tup [.int (i + j), x]
  | [], _, _, _, h => by cases h
  | x :: ds, i, 0, d, h => by rw [enD] at h; cases h; exact ⟨x, rfl, by simp⟩
  | x :: ds, i, j + 1, d, h => by
    rw [enD, List.getElem?_cons_succ] at h
    obtain ⟨y, h1, rfl⟩ := enD_get ds (i + 1) j d h
    exact ⟨y, h1, by congr 3; omega⟩
theorem src_en {k : Sk} {vs : List V} {ds : List D} (h : StS K ow H k vs) (r : RpL K H (Av A ow) vs ds) : Src K A (ItEn K k) ow H (enD 0 ds) := fun A' ow2 H2 hA st i => by
  have q := h ow2 H2 st
  have r2 := (r.pres (Pres.grow hA)).pres st.pres
  refine ⟨fun d e => ?_, fun e => ?_⟩
  · obtain ⟨x, e1, rfl⟩ := enD_get _ _ _ _ e
    obtain ⟨v, ev, rv⟩ := r2.get e1
    refine ⟨⟨vs, q, (List.getElem?_eq_some_iff.mp ev).1⟩, fun y H3 yl => ?_⟩
    obtain ⟨T, v', rfl, hT, rfl, hv⟩ := yl
    have := hv vs q
    rw [ev] at this; cases this
    refine ⟨.inr ⟨T, _, hT, rfl⟩, .tup (.inl (.inl upd_same)) (.cons ?_ (.cons (rv.pres (Pres.new hT)) .nil))⟩
    have : (0 : Int) + (i : Nat) = (i : Nat) := by omega
    rw [this]; exact .int _
  · rw [enD_len] at e
    exact ⟨vs, q, by rw [r.length]; exact e⟩
def zpD : List D → List D → List D
  | d :: ds, e :: es => .tup [d, e] :: zpD ds es
  | _, _ => []
theorem zpD_len : ∀ (ds es : List D), (zpD ds es).length = min ds.length es.length
  | [], _ => by simp [zpD]
  | _ :: _, [] => by simp [zpD]
  | d :: ds, e :: es => by rw [zpD, List.length_cons, zpD_len ds es]; simp only [List.length_cons]; omega
theorem zpD_get : ∀ (ds es : List D) (j : Nat) (d : D), (zpD ds es)[j]? = some d → ∃ x y, ds[j]? = some x ∧ es[j]? = some y ∧ d = .tup [x, y]
  | [], _, _, _, h => by simp [zpD] at h
  | _ :: _, [], _, _, h => by simp [zpD] at h
  | x :: ds, y :: es, 0, d, h => by rw [zpD] at h; cases h; exact ⟨x, y, rfl, rfl, rfl⟩
  | x :: ds, y :: es, j + 1, d, h => by
    rw [zpD, List.getElem?_cons_succ] at h
    exact zpD_get ds es j d h
theorem src_zp {k1 k2 : Sk} {vs ws : List V} {ds es : List D} (h1 : StS K ow H k1 vs) (h2 : StS K ow H k2 ws) (r1 : RpL K H (Av A ow) vs ds) (r2 : RpL K H (Av A ow) ws es) : Src K A (ItZp K k1 k2) ow H (zpD ds es) := fun A' ow2 H2 hA st i => by
  have q1 := h1 ow2 H2 st
  have q2 := h2 ow2 H2 st
  have s1 := (r1.pres (Pres.grow hA)).pres st.pres
  have s2 := (r2.pres (Pres.grow hA)).pres st.pres
  refine ⟨fun d e => ?_, fun e => ?_⟩
  · obtain ⟨x, y, e1, e2, rfl⟩ := zpD_get _ _ _ _ e
    obtain ⟨v, ev, rv⟩ := s1.get e1
    obtain ⟨w, ew, rw'⟩ := s2.get e2
    have l1 := (List.getElem?_eq_some_iff.mp ev).1
    have l2 := (List.getElem?_eq_some_iff.mp ew).1
    refine ⟨⟨vs, ws, q1, q2, by omega⟩, fun y' H3 yl => ?_⟩
    obtain ⟨T, v', w', rfl, hT, rfl, hv, hw⟩ := yl
    have := hv vs q1
    rw [ev] at this; cases this
    have := hw ws q2
    rw [ew] at this; cases this
    exact ⟨.inr ⟨T, _, hT, rfl⟩, .tup (.inl (.inl upd_same)) (.cons (rv.pres (Pres.new hT)) (.cons (rw'.pres (Pres.new hT)) .nil))⟩
  · rw [zpD_len] at e
    exact ⟨vs, ws, q1, q2, by rw [r1.length, r2.length]; exact e⟩
end
section
variable {X : Cx} {elts : List Expr} {kk : Nat} {tpos p pos : Pos}
def iEnM (m : EM) : IM := fun env => (m env).bind fun (d, e) => (items d).map fun ds => (enD 0 ds, e)
def iZpM (m n : EM) : IM := fun env => (m env).bind fun (d, e) => (items d).bind fun ds => (n e).bind fun (d2, e2) => (items d2).map fun es => (zpD ds es, e2)
theorem i_en {e : Expr} {m : EM} (hg : Gl X "enumerate") (hm : X.mg "enumerate" = none) (ha : PA X [e] (tEs X.K [m])) (hs : starEach [e] X.env = [(false, eval e X.env)] := by rfl) :
    PI X (.Tuple elts kk tpos) (.Call (.Name "enumerate" p) [e] [] pos) (EvI X.K (iEnM m)) :=
  (pi_en hg hm ha hs).imp fun σ H R ⟨S, ow, env, I, ds, env', hm, k⟩ => by
    simp only [iEnM, Option.bind_eq_some_iff, Option.map_eq_some_iff] at hm
    obtain ⟨⟨d1, e1⟩, h1, es, h2, h3⟩ := hm
    cases h3
    refine ⟨S, ow, env, I, _, _, h1, fun S' ow' v H' st J f => ?_⟩
    obtain ⟨rfl, r⟩ := f.shared
    obtain ⟨vs, kf, sk, ss, rl⟩ := sk_of h2 r
    exact ⟨v, vs, kf, rfl, sk, fun u => k _ H' _ st J (src_en (ss u) rl)⟩
theorem i_zp {e e2 : Expr} {m n : EM} (hg : Gl X "zip") (hm : X.mg "zip" = none) (ha : PA X [e, e2] (tEs X.K [m, n]))
    (hs : starEach [e, e2] X.env = (false, eval e X.env) :: starEach [e2] X.env := by rfl) (plq : (backTo pos (starEach [e2] X.env)).any (·.1) = false := by rfl) :
    PI X (.Tuple elts kk tpos) (.Call (.Name "zip" p) [e, e2] [] pos) (EvI X.K (iZpM m n)) :=
  (pi_zp hg hm ha hs plq).imp fun σ H R ⟨S, ow, env, I, ds, env', hm, k⟩ => by
    simp only [iZpM, Option.bind_eq_some_iff, Option.map_eq_some_iff] at hm
    obtain ⟨⟨d1, e1⟩, h1, es, h2, ⟨d2, e2'⟩, h3, fs, h4, h5⟩ := hm
    cases h5
    refine ⟨S, ow, env, I, _, _, h1, fun S' ow' v H' st J f => ?_⟩
    obtain ⟨rfl, r⟩ := f.shared
    refine ⟨_, ow', _, J, _, _, h3, fun S2 ow2 w H2 st2 J2 f2 => ?_⟩
    obtain ⟨rfl, r2⟩ := f2.shared
    obtain ⟨vs, kf, sk, ss, rl⟩ := sk_of h2 (r.pres st2.pres)
    obtain ⟨ws, kg, sk2, ss2, rl2⟩ := sk_of h4 r2
    exact ⟨v, w, vs, ws, kf, kg, rfl, sk, sk2, fun u w' => k _ H2 _ (st.trans st2) J2 (src_zp (ss u) (ss2 w') rl rl2)⟩
end
end PL
end

section
set_option maxRecDepth 100000
set_option maxHeartbeats 3900000
/-! PV6: calls by keywords alone. -/
namespace PL
open PySem Spec PyProof.Rows L2

def perm {α : Type} (d : α) (π : List Nat) (xs : List α) : List α := π.map fun i => xs.getD i d
section
variable {K : PySem.W.Frag} {H : Hp} {P : Addr → Prop}
theorem vals_perm {zs : List V} {ws : List Value} (r : Vals zs ws) : ∀ π : List Nat, Vals (perm V.non π zs) (perm Value.none π ws)
  | [] => .nil
  | i :: π => by
    refine .cons ?_ (vals_perm r π)
    show RelV (zs.getD i V.non) (ws.getD i Value.none)
    rw [List.getD_eq_getElem?_getD, List.getD_eq_getElem?_getD]
    cases e : ws[i]? with
    | some u =>
      obtain ⟨v, ev, rv⟩ := vals_get' r e
      rw [ev]; exact rv
    | none =>
      have hl := r.length
      rw [List.getElem?_eq_none_iff] at e
      rw [List.getElem?_eq_none (by omega)]
      exact rfl
theorem rp_perm {vs : List V} {ds : List D} (r : RpL K H P vs ds) : ∀ π : List Nat, RpL K H P (perm V.non π vs) (perm D.non π ds)
  | [] => .nil
  | i :: π => by
    refine .cons ?_ (rp_perm r π)
    show Rp K H P (vs.getD i V.non) (ds.getD i D.non)
    rw [List.getD_eq_getElem?_getD, List.getD_eq_getElem?_getD]
    cases e : ds[i]? with
    | some u =>
      obtain ⟨v, ev, rv⟩ := r.get e
      rw [ev]; exact rv
    | none =>
      have hl := r.length
      rw [List.getElem?_eq_none_iff] at e
      rw [List.getElem?_eq_none (by omega)]
      exact .non
end
theorem kbn {K : PySem.W.Frag} {fd : FuncData} {ps ks : List Str} (π : List Nat) (h : ∀ ws : List Value, ws.length = ks.length → bindArgs fd ⟨[], ks.zip ws⟩ = pure (ps.zip (perm Value.none π ws))) : KBn K fd ps 0 ks (fun _ ws => perm Value.none π ws) (fun _ zs => perm V.non π zs) where
  to := fun s us ws _ h1 h2 => by
    cases us with
    | cons a b => cases h1
    | nil => exact .of_eq (h ws h2)
  rel := fun _ r => vals_perm r π
section
variable {X : Cx} {CX : CXT} {k : Nat} {f : Addr} {fd : FuncData} {ps ks : List Str} {sp : Sp} {E : XK} {x : Str} {p pos : Pos} {kws : List Keyword} {tk : TA} {g : List Value → List Value → List Value} {gV : List V → List V → List V}
theorem pe_callK0 (F : FnOk X.prog X.w X.K X.mg X.base CX k f fd ps sp) (hr : Room k X.A) (hg : Gl X x) (hm : X.mg x = some (.ref f)) (hk : PySem.W.keepIn X.K (.ref f) = true) (hb : KBn X.K fd ps 0 ks g gV) (hx : Passes CX X E)
    (hkw : PK X kws tk) (hall : (backToKw pos (keywordEach kws X.env)).all (·.1.isSome) = true := by rfl) (hks : (backToKw pos (keywordEach kws X.env)).filterMap (·.1) = ks := by rfl)
    (hdb : (x == ("__debug__" : Str)) = false := by decide)
    (plq : ((backTo pos (starEach [] X.env)).any (·.1) || (backToKw pos (keywordEach kws X.env)).any (·.1.isNone)) = false := by rfl) :
    PE X (.Call (.Name x p) [] kws pos) (tCallN 0 ks.length sp gV E tNil tk) := by
  refine ⟨fun pins s σ H Q I h => ?_⟩
  refine wpAny_Call_Name_kw (ld_glob I hg hm ?_ hdb)
  refine PySem.W.callWith_KW0 (h₀ := X.base) I.ok.mod.kin hk hall (thn (hkw.run pos pins s σ H _ I h) fun ws s2 ⟨zs, H2, I2, rz, l1, l2, q2⟩ => ⟨I2.kIn, ?_⟩) plq
  rw [hks]
  exact run_fnN F hr hb hx I2 .nil rz l1 l2 q2
end
theorem _root_.L2.PK.imp {X : Cx} {e : List Keyword} {t t' : TA} (h : PK X e t) (w : ∀ σ H Q, t' σ H Q → t σ H Q) : PK X e t' := ⟨fun pos pins s σ H Q I q => h.run pos pins s σ H Q I (w σ H Q q)⟩
/-- f(k = e, ..), shared arguments -/
def eCallK (π : List Nat) (k : Nat) (f : PFn) (ms : List EM) : EM := fun env => (evL ms env).bind fun (ds, e) => if π.length = k then (f (perm D.non π ds)).bind fun d => some (d, e) else none
section
variable {K : PySem.W.Frag} {S : SS} {ow : List (Option Addr)} {σ : L2.St} {H H' : Hp} {env : Env} {fr : Bool} {k : Nat} {f : PFn} {vs : List V} {ds : List D} {d : D} {Q : VK} {E : XK}
theorem callK_go {π : List Nat} {ms : List EM} (h : Ev fr K (eCallK π k f ms) σ H Q) : tCallN 0 ms.length (spF K k fr f) (fun _ zs => perm V.non π zs) E tNil (tEs K ms) σ H Q := by
  obtain ⟨S, ow, env, I, d, envF, hm, q⟩ := h
  unfold eCallK at hm
  simp only [Option.bind_eq_some_iff] at hm
  obtain ⟨⟨ds, e⟩, h1, h2⟩ := hm
  split at h2
  rotate_left
  · cases h2
  rename_i hk
  simp only [Option.bind_eq_some_iff] at h2
  obtain ⟨d', h3, h4⟩ := h2
  cases h4
  refine es_ok ms I h1 fun ow' vs0 H1 st J rs0 => ⟨rfl, by rw [rs0.length, evL_len h1], ?_⟩
  have hk : (perm D.non π ds).length = k := by unfold perm; rw [List.length_map]; exact hk
  have rs := rp_perm rs0 π
  show spF K k fr f (perm V.non π vs0) H1 Q E
  revert h3 hk rs
  generalize perm D.non π ds = es
  generalize perm V.non π vs0 = vs
  intro h3 hk rs
  have hl : ∀ a, some a ∉ owOf (List.replicate k false) vs := fun a => owOf_false k vs a
  have eqP : ∀ a, Pio (Av S.A ow') (owOf (List.replicate k false) vs) a ↔ Av S.A ow' a := fun a => ⟨fun z => z.elim id fun z => absurd z (hl a), .inl⟩
  refine ⟨Av S.A ow', es, (d, es.map fun _ => .non), by unfold pureFn; rw [h3]; rfl, ?_, fun i j a z => absurd (List.mem_of_getElem? z) (hl a), fun a z => absurd z (hl a), fun a z => J.live a z, fun v H2 p => ?_⟩
  · exact cargs_pure hk (rs.pres (Pres.less fun a z => (eqP a).mp z))
  · refine call_fin J st hl p (fun r _ => r.pres (Pres.less fun a z => (eqP a).mpr z)) (fun pp o hp rc => rc.pres (Pres.less fun a z => ?_)) q
    rcases z with (z | z) | z
    · exact .inl ((eqP a).mpr (.inl z))
    · exact .inr z
    · exact .inl ((eqP a).mpr (.inr z))
end
section
variable {X : Cx} {pos : Pos}
theorem pks_nil : PK X [] (tEs X.K []) := pk_nil
theorem pks_cons {x : Str} {e : Expr} {pk : Pos} {kws : List Keyword} {m : EM} {ms : List EM} (h : PE X e (EvS X.K m)) (hr : PK X kws (tEs X.K ms)) : PK X (⟨some x, e, pk⟩ :: kws) (tEs X.K (m :: ms)) := pk_cons h hr
theorem e_callK {fr : Bool} {np k : Nat} {f : PFn} {fa : Addr} {fd : FuncData} {ps ks : List Str} {x : Str} {p : Pos} {kws : List Keyword} {ms : List EM} (π : List Nat) (F : FnOk X.prog X.w X.K X.mg X.base CX0 k fa fd ps (spF X.K np fr f)) (hr : Room k X.A) (hg : Gl X x) (hm : X.mg x = some (.ref fa)) (hk : PySem.W.keepIn X.K (.ref fa) = true)
    (hb : KBn X.K fd ps 0 ks (fun _ ws => perm Value.none π ws) (fun _ zs => perm V.non π zs)) (hkw : PK X kws (tEs X.K ms)) (hl : ms.length = ks.length := by rfl) (hall : (backToKw pos (keywordEach kws X.env)).all (·.1.isSome) = true := by rfl) (hks : (backToKw pos (keywordEach kws X.env)).filterMap (·.1) = ks := by rfl)
    (hdb : (x == ("__debug__" : Str)) = false := by decide)
    (plq : ((backTo pos (starEach [] X.env)).any (·.1) || (backToKw pos (keywordEach kws X.env)).any (·.1.isNone)) = false := by rfl) :
    PE X (.Call (.Name x p) [] kws pos) (Ev fr X.K (eCallK π np f ms)) := (pe_callK0 F hr hg hm hk hb pass0 hkw hall hks hdb plq).imp fun _ _ _ h => by rw [← hl]; exact callK_go h
end
end PL
end

section
set_option maxRecDepth 100000
set_option maxHeartbeats 3900000
/-! PV7: short forms for printed derivations. -/
namespace PL
open PySem Spec PyProof.Rows L2

section
variable {X : Cx} {pos : Pos}
theorem sh_go {K : PySem.W.Frag} {m : EM} {σ : L2.St} {H : Hp} {Q : VK} (h : EvS K m σ H Q) : EvF K m σ H Q := by
  obtain ⟨S, ow, env, I, d, env', hm, k⟩ := h
  refine ⟨S, ow, env, I, d, env', hm, fun S' ow' v H' st J f => ?_⟩
  rcases f with ⟨rfl, r, _⟩ | ⟨_, p, o, rfl, rfl, hp, ho, r⟩
  · exact k S' ow' v H' st J (.inl ⟨rfl, r, fun z => by cases z⟩)
  · refine k S ow' _ H' st J.drop (.inl ⟨rfl, .cell ho (fun z => ?_) (r.pres (Pres.less fun a z => z.elim (fun z => .inl (.inl z)) .inr)), fun z => by cases z⟩)
    rcases z with z | z
    · exact I.mutne (.inl z) hp
    · exact J.sep p z (.inr rfl)
theorem e_int {i j} : PE X (.Constant (.int i) j pos) (EvF X.K (eC (.int i))) := e_c pe_int fun _ _ => .int _
theorem e_bl {b j} : PE X (.Constant (.bool b) j pos) (EvF X.K (eC (.bl b))) := e_c pe_bl fun _ _ => .bl _
theorem e_non {j} : PE X (.Constant .none j pos) (EvF X.K (eC .non)) := e_c pe_non fun _ _ => .non
theorem e_str {x : Str} {j} (s : List Nat) (h : x.cps.toList = s := by rfl) : PE X (.Constant (.str x) j pos) (EvF X.K (eC (.str s))) := e_c pe_str (fun _ _ => .strEq h) rfl
theorem e_v {x : Str} {p : Pos} (i : Nat) (hN : X.N[i]? = some x := by rfl) (hv : Vis X.env.scope x := by first | exact Or.inl rfl | exact Or.inr (Or.inl rfl) | exact Or.inr (Or.inr rfl)) (hd : (x == ("__debug__" : Str)) = false := by decide)
    (hcd : (x == ("__classdict__" : Str)) = false := by decide) : PE X (.Name x p) (EvS X.K (eVar i)) := e_var i (pe_var hN hv hd hcd)
theorem p_o {x : Str} {p : Pos} (i : Nat) (hN : X.N[i]? = some x := by rfl) (hv : Vis X.env.scope x := by first | exact Or.inl rfl | exact Or.inr (Or.inl rfl) | exact Or.inr (Or.inr rfl)) (hd : (x == ("__debug__" : Str)) = false := by decide)
    (hcd : (x == ("__classdict__" : Str)) = false := by decide) : PArg X (.Name x p) (.b i) := p_b (pe_var hN hv hd hcd)
theorem c_io {x : Str} {p : Pos} (i : Nat) (hN : X.N[i]? = some x := by rfl) (hv : Vis X.env.scope x := by first | exact Or.inl rfl | exact Or.inr (Or.inl rfl) | exact Or.inr (Or.inr rfl)) (hd : (x == ("__debug__" : Str)) = false := by decide)
    (hcd : (x == ("__classdict__" : Str)) = false := by decide) : PE X (.Name x p) (rdCA X.K (.io i)) := ca_io (pe_var hN hv hd hcd)
theorem s_ro {x : Str} {p : Pos} (i : Nat) (hN : X.N[i]? = some x := by rfl) (hv : Vis X.env.scope x := by first | exact Or.inl rfl | exact Or.inr (Or.inl rfl) | exact Or.inr (Or.inr rfl)) (hd : (x == ("__debug__" : Str)) = false := by decide)
    (hcd : (x == ("__classdict__" : Str)) = false := by decide) : PS X (.Return (some (.Name x p)) pos) (EvSt X.K (sRetO i)) := s_retO (pe_var hN hv hd hcd)
/-! ### stores -/
theorem s_st {i : Nat} {x : Str} {e : Expr} {m : EM} {p : Pos} (hN : X.N.Nodup) (he : PE X e (EvS X.K m)) (hi : X.N[i]? = some x := by rfl) (hx : Loc X.env.scope x := by first | exact .inl rfl | exact .inr rfl) (hs : swapsWith e (some (.Name x p)) pos.line X.env = pure false := by rfl)
    (hf : X.fn x = true ∨ X.env.scope.names.lookup x = some .local := by first | exact .inl rfl | exact .inr rfl) : PS X (.Assign [.Name x p] e pos) (EvSt X.K (sAsg m (gN i))) := s_set (ps_set hN hi hx he hs hf)
theorem s_ow {i : Nat} {x : Str} {e : Expr} {m : EM} {p : Pos} (hN : X.N.Nodup) (he : PE X e (EvF X.K m)) (hi : X.N[i]? = some x := by rfl) (hx : Loc X.env.scope x := by first | exact .inl rfl | exact .inr rfl) (hs : swapsWith e (some (.Name x p)) pos.line X.env = pure false := by rfl)
    (hf : X.fn x = true ∨ X.env.scope.names.lookup x = some .local := by first | exact .inl rfl | exact .inr rfl) : PS X (.Assign [.Name x p] e pos) (EvSt X.K (sOwn m i)) := (ps_set hN hi hx he hs hf).imp fun _ _ _ h => own_go h
theorem set_go {K : PySem.W.Frag} {m : EM} {i : Nat} {D : Ends} {σ : L2.St} {H : Hp} (h : EvSt K (sAsg m (gN i)) D σ H) : tAsg (EvS K m) (gName i) D σ H := by
  obtain ⟨S, ow, env, I, f, env', hm, k⟩ := h
  unfold sAsg at hm
  simp only [Option.bind_eq_some_iff] at hm
  obtain ⟨⟨d, e1⟩, h1, e2, h2, h3⟩ := hm
  cases h3
  refine ⟨S, ow, env, I, d, e1, h1, fun S' ow' v H' st J f => ?_⟩
  obtain ⟨rfl, r⟩ := f.shared
  unfold gN at h2
  split at h2
  · rename_i hf
    cases h2
    exact k _ _ H' (st.trans (stp_less fun a z => mem_set_none z)) (J.put hf r)
  · cases h2
/-- y = [.. for ..] on one line -/
theorem s_lcS {i : Nat} {y : Str} {py : Pos} {elt tg iter : Expr} {ifs : List Expr} {scope : Scope} {own : List (Str × Nat)} {spos : Pos} {src : IM} {g : GM} {is : List Nat} {t : TM} {m : EM} (hc : X.calm = true) (hN : X.N.Nodup) (hi : PI X tg iter (EvI X.K src)) (ok : BlkOk X.N X.env.scope scope own)
    (hg : ∀ (s : Shared) (H : Hp) (C : Addr) (cl : List (Str × Addr)) (fp : List Addr), PG (X.blk s H scope (compEnvC scope cl C X.env) fp) tg (EvG X.K is g)) (ht : ∀ (s : Shared) (H : Hp) (C : Addr) (cl : List (Str × Addr)) (fp : List Addr), PTs (X.blk s H scope (compEnvC scope cl C X.env) fp) ifs (EvT X.K t))
    (he : ∀ (s : Shared) (H : Hp) (C : Addr) (cl : List (Str × Addr)) (fp : List Addr), PE (X.blk s H scope (compEnvC scope cl C X.env) fp) elt (EvS X.K m)) (hy : X.N[i]? = some y := by rfl) (hyl : X.env.scope.names.lookup y = some .local := by rfl)
    (hsub : ∀ i ∈ is, i ∈ own.map (·.2) := by decide) (hsw : swapsWith (.ListComp elt [⟨tg, iter, ifs, 0⟩] scope pos) (some (.Name y py)) spos.line X.env = pure true := by rfl) (hs : ∀ x, foldedSetIterable iter X.env x = pure x := by intro _; rfl) :
    PS X (.Assign [.Name y py] (.ListComp elt [⟨tg, iter, ifs, 0⟩] scope pos) spos) (EvSt X.K (sAsg (eLc src (own.map (·.2)) g t m) (gN i))) :=
  (ps_setLc hc hN hy hyl hsw hi ok hg ht he hs).imp fun D σ H h => by
    have h2 := set_go h
    exact lc_go hsub (sh_go h2)
theorem s_lcO {i : Nat} {y : Str} {py : Pos} {elt tg iter : Expr} {ifs : List Expr} {scope : Scope} {own : List (Str × Nat)} {spos : Pos} {src : IM} {g : GM} {is : List Nat} {t : TM} {m : EM} (hc : X.calm = true) (hN : X.N.Nodup) (hi : PI X tg iter (EvI X.K src)) (ok : BlkOk X.N X.env.scope scope own)
    (hg : ∀ (s : Shared) (H : Hp) (C : Addr) (cl : List (Str × Addr)) (fp : List Addr), PG (X.blk s H scope (compEnvC scope cl C X.env) fp) tg (EvG X.K is g)) (ht : ∀ (s : Shared) (H : Hp) (C : Addr) (cl : List (Str × Addr)) (fp : List Addr), PTs (X.blk s H scope (compEnvC scope cl C X.env) fp) ifs (EvT X.K t))
    (he : ∀ (s : Shared) (H : Hp) (C : Addr) (cl : List (Str × Addr)) (fp : List Addr), PE (X.blk s H scope (compEnvC scope cl C X.env) fp) elt (EvS X.K m)) (hy : X.N[i]? = some y := by rfl) (hyl : X.env.scope.names.lookup y = some .local := by rfl)
    (hsub : ∀ i ∈ is, i ∈ own.map (·.2) := by decide) (hsw : swapsWith (.ListComp elt [⟨tg, iter, ifs, 0⟩] scope pos) (some (.Name y py)) spos.line X.env = pure true := by rfl) (hs : ∀ x, foldedSetIterable iter X.env x = pure x := by intro _; rfl) :
    PS X (.Assign [.Name y py] (.ListComp elt [⟨tg, iter, ifs, 0⟩] scope pos) spos) (EvSt X.K (sOwn (eLc src (own.map (·.2)) g t m) i)) :=
  (ps_setLc hc hN hy hyl hsw hi ok hg ht he hs).imp fun D σ H h => by
    have h2 := own_go h
    exact lc_go hsub h2
/-! ### methods of own lists -/
theorem m_apd {x : Str} {p apos : Pos} {e : Expr} {m : EM} (i : Nat) (he : PE X e (EvS X.K m)) (hN : X.N[i]? = some x := by rfl) (hv : Vis X.env.scope x := by first | exact Or.inl rfl | exact Or.inr (Or.inl rfl) | exact Or.inr (Or.inr rfl)) (hd : (x == ("__debug__" : Str)) = false := by decide)
    (hcd : (x == ("__classdict__" : Str)) = false := by decide) (hbase : attributeBase (.Name x p) "append" X.env (eval (.Name x p) X.env) = eval (.Name x p) X.env := by rfl)
    (hfew : ((backTo pos (starEach [e] X.env)).all (fun x => !x.1) && (backToKw pos (keywordEach [] X.env)).all (fun x => x.1.isSome) && decide (([e] : List Expr).length + ([] : List Keyword).length + (if ([] : List Keyword).isEmpty then 0 else 1) < 30)) = true := by rfl)
    (hline : (apos.endLine == pos.line) = true := by rfl) (hs : starEach [e] X.env = (false, eval e X.env) :: starEach [] X.env := by rfl) (hplain : (backTo pos (starEach [] X.env)).any (·.1) = false := by rfl) :
    PE X (.Call (.Attribute (.Name x p) "append" apos) [e] [] pos) (EvF X.K (eApd i m)) :=
  e_apd (pe_bm PySem.F.plainAttrs_list PySem.F.slot_list_append PySem.F.type_list_append mt_append (pe_var hN hv hd hcd) (pa_cons he pa_nil hs) hbase hfew hline hs hplain)
theorem m_popAt {x : Str} {p apos : Pos} {e : Expr} {m : EM} (i : Nat) (he : PE X e (EvS X.K m)) (hN : X.N[i]? = some x := by rfl) (hv : Vis X.env.scope x := by first | exact Or.inl rfl | exact Or.inr (Or.inl rfl) | exact Or.inr (Or.inr rfl)) (hd : (x == ("__debug__" : Str)) = false := by decide)
    (hcd : (x == ("__classdict__" : Str)) = false := by decide) (hbase : attributeBase (.Name x p) "pop" X.env (eval (.Name x p) X.env) = eval (.Name x p) X.env := by rfl)
    (hfew : ((backTo pos (starEach [e] X.env)).all (fun x => !x.1) && (backToKw pos (keywordEach [] X.env)).all (fun x => x.1.isSome) && decide (([e] : List Expr).length + ([] : List Keyword).length + (if ([] : List Keyword).isEmpty then 0 else 1) < 30)) = true := by rfl)
    (hline : (apos.endLine == pos.line) = true := by rfl) (hs : starEach [e] X.env = (false, eval e X.env) :: starEach [] X.env := by rfl) (hplain : (backTo pos (starEach [] X.env)).any (·.1) = false := by rfl) :
    PE X (.Call (.Attribute (.Name x p) "pop" apos) [e] [] pos) (EvS X.K (ePopAt i m)) :=
  e_popAt (pe_bm PySem.F.plainAttrs_list PySem.F.slot_list_pop PySem.F.type_list_pop mt_popAt (pe_var hN hv hd hcd) (pa_cons he pa_nil hs) hbase hfew hline hs hplain)
theorem m_pop {x : Str} {p apos : Pos} (i : Nat) (hN : X.N[i]? = some x := by rfl) (hv : Vis X.env.scope x := by first | exact Or.inl rfl | exact Or.inr (Or.inl rfl) | exact Or.inr (Or.inr rfl)) (hd : (x == ("__debug__" : Str)) = false := by decide)
    (hcd : (x == ("__classdict__" : Str)) = false := by decide) (hbase : attributeBase (.Name x p) "pop" X.env (eval (.Name x p) X.env) = eval (.Name x p) X.env := by rfl) (hline : (apos.endLine == pos.line) = true := by rfl) :
    PE X (.Call (.Attribute (.Name x p) "pop" apos) [] [] pos) (EvS X.K (ePop i)) :=
  e_pop (pe_bm0 PySem.F.plainAttrs_list PySem.F.slot_list_pop PySem.F.type_list_pop mt_pop (pe_var hN hv hd hcd) hbase hline)
theorem m_ins {x : Str} {p apos : Pos} {e e2 : Expr} {m n : EM} (i : Nat) (he : PE X e (EvS X.K m)) (he2 : PE X e2 (EvS X.K n)) (hN : X.N[i]? = some x := by rfl) (hv : Vis X.env.scope x := by first | exact Or.inl rfl | exact Or.inr (Or.inl rfl) | exact Or.inr (Or.inr rfl)) (hd : (x == ("__debug__" : Str)) = false := by decide)
    (hcd : (x == ("__classdict__" : Str)) = false := by decide) (hbase : attributeBase (.Name x p) "insert" X.env (eval (.Name x p) X.env) = eval (.Name x p) X.env := by rfl)
    (hfew : ((backTo pos (starEach [e, e2] X.env)).all (fun x => !x.1) && (backToKw pos (keywordEach [] X.env)).all (fun x => x.1.isSome) && decide (([e, e2] : List Expr).length + ([] : List Keyword).length + (if ([] : List Keyword).isEmpty then 0 else 1) < 30)) = true := by rfl)
    (hline : (apos.endLine == pos.line) = true := by rfl) (hs : starEach [e, e2] X.env = (false, eval e X.env) :: starEach [e2] X.env := by rfl) (hs2 : starEach [e2] X.env = (false, eval e2 X.env) :: starEach [] X.env := by rfl) (hplain : (backTo pos (starEach [e2] X.env)).any (·.1) = false := by rfl) :
    PE X (.Call (.Attribute (.Name x p) "insert" apos) [e, e2] [] pos) (EvF X.K (eIns i m n)) :=
  e_ins (pe_bm PySem.F.plainAttrs_list PySem.F.slot_list_insert PySem.F.type_list_insert mt_insert (pe_var hN hv hd hcd) (pa_cons he (pa_cons he2 pa_nil hs2) hs) hbase hfew hline hs hplain)
theorem g_at {x : Str} {p : Pos} {e : Expr} {m : EM} (i : Nat) (he : PE X e (EvS X.K m)) (hN : X.N[i]? = some x := by rfl) (hv : Vis X.env.scope x := by first | exact Or.inl rfl | exact Or.inr (Or.inl rfl) | exact Or.inr (Or.inr rfl)) (hd : (x == ("__debug__" : Str)) = false := by decide)
    (hcd : (x == ("__classdict__" : Str)) = false := by decide)
    (ha : ∀ v, assign (.Subscript (.Name x p) e pos) X.env v = (do let ov ← holding [v] (eval (.Name x p) X.env); let iv ← holding [v, ov] (eval e X.env); standAt pos; holding [v, ov, iv] (setItem ov iv v); release [v, ov, iv] []) := by intro _; rfl) : PG X (.Subscript (.Name x p) e pos) (EvG X.K [] (gIx i m)) := g_ix (pg_sub (pe_var hN hv hd hcd) he set_list ha)
theorem g_nm {x : Str} (i : Nat) (hN : X.N.Nodup) (hi : X.N[i]? = some x := by rfl) (hx : Loc X.env.scope x := by first | exact .inl rfl | exact .inr rfl) (hf : X.fn x = true ∨ X.env.scope.names.lookup x = some .local := by first | exact .inl rfl | exact .inr rfl) :
    PG X (.Name x pos) (EvG X.K [i] (gN i)) := g_n (pg_name hN hi hx hf)
/-! ### pairs of stores -/
theorem s_p2 {x y : Str} {a b : Expr} {fm fn : Bool} {m n : EM} {px py pt : Pos} {kt k2 : Nat} {pt2 : Pos} (i j : Nat) (hc : X.calm = true) (hN : X.N.Nodup) (ha : PE X a (Ev fm X.K m)) (hb : PE X b (Ev fn X.K n)) (hi : X.N[i]? = some x := by rfl) (hj : X.N[j]? = some y := by rfl) (hij : i ≠ j := by decide)
    (hx : X.env.scope.names.lookup x = some .local := by rfl) (hy : X.env.scope.names.lookup y = some .local := by rfl) (h1 : starEach [a, b] X.env = (false, eval a X.env) :: starEach [b] X.env := by rfl) (h2 : starEach [b] X.env = (false, eval b X.env) :: starEach [] X.env := by rfl)
    (hw : swappedStores [.Tuple [.Name x px, .Name y py] kt pt] (.Tuple [a, b] k2 pt2) X.env = pure (some [x, y]) := by rfl)
    (hs : swapsWithSole [.Tuple [.Name x px, .Name y py] kt pt] (.Tuple [a, b] k2 pt2) pos.line X.env = pure false := by rfl) :
    PS X (.Assign [.Tuple [.Name x px, .Name y py] kt pt] (.Tuple [a, b] k2 pt2) pos) (EvSt X.K (sPar2 i j (fm, m) (fn, n))) := s_par2 (ps_par hc hN hi hj hij hx hy (pa_cons ha (pa_cons hb pa_nil h2) h1) hw hs)
theorem s_p3 {x y z : Str} {a b c : Expr} {fm fn fo : Bool} {m n o : EM} {px py pz pt : Pos} {kt k2 : Nat} {pt2 : Pos} (i j l : Nat) (hc : X.calm = true) (hN : X.N.Nodup) (ha : PE X a (Ev fm X.K m)) (hb : PE X b (Ev fn X.K n)) (hd : PE X c (Ev fo X.K o)) (hi : X.N[i]? = some x := by rfl) (hj : X.N[j]? = some y := by rfl) (hl : X.N[l]? = some z := by rfl)
    (hij : i ≠ j := by decide) (hil : i ≠ l := by decide) (hjl : j ≠ l := by decide)
    (hx : X.env.scope.names.lookup x = some .local := by rfl) (hy : X.env.scope.names.lookup y = some .local := by rfl) (hz : X.env.scope.names.lookup z = some .local := by rfl) (h1 : starEach [a, b, c] X.env = (false, eval a X.env) :: starEach [b, c] X.env := by rfl) (h2 : starEach [b, c] X.env = (false, eval b X.env) :: starEach [c] X.env := by rfl) (h3 : starEach [c] X.env = (false, eval c X.env) :: starEach [] X.env := by rfl)
    (hw : swappedStores [.Tuple [.Name x px, .Name y py, .Name z pz] kt pt] (.Tuple [a, b, c] k2 pt2) X.env = pure (some [x, y, z]) := by rfl)
    (hs : swapsWithSole [.Tuple [.Name x px, .Name y py, .Name z pz] kt pt] (.Tuple [a, b, c] k2 pt2) pos.line X.env = pure false := by rfl) :
    PS X (.Assign [.Tuple [.Name x px, .Name y py, .Name z pz] kt pt] (.Tuple [a, b, c] k2 pt2) pos) (EvSt X.K (sPar3 i j l (fm, m) (fn, n) (fo, o))) := s_par3 (ps_par3 hc hN hi hj hl hij hil hjl hx hy hz (pa_cons ha (pa_cons hb (pa_cons hd pa_nil h3) h2) h1) hw hs)
theorem s_loop {tg iter : Expr} {body : List Stmt} {src : IM} {g : GM} {is : List Nat} {m : SM} (hc : X.calm = true) (hi : PI X tg iter (EvI X.K src)) (hg : PG X tg (EvG X.K is g)) (hb : PSs X body (EvSt X.K m))
    (hp : PassesOwn (model X.prog X.w) X.A X.env X.xe := by exact PassesOwn.never) (hs : ∀ x, foldedSetIterable iter X.env x = pure x := by intro _; rfl) : PS X (.For tg iter body [] pos) (EvSt X.K (sFor src g m)) := s_for hp hc hi hg hb hs
theorem s_loopL {x : Str} {px : Pos} {tg : Expr} {body : List Stmt} {g : GM} {is : List Nat} {m : SM} (i : Nat) (hc : X.calm = true) (hg : PG X tg (EvG X.K is g)) (hb : PSs X body (EvSt X.K m)) (hN : X.N[i]? = some x := by rfl) (hv : Vis X.env.scope x := by first | exact Or.inl rfl | exact Or.inr (Or.inl rfl) | exact Or.inr (Or.inr rfl)) (hd : (x == ("__debug__" : Str)) = false := by decide)
    (hcd : (x == ("__classdict__" : Str)) = false := by decide) (hp : PassesOwn (model X.prog X.w) X.A X.env X.xe := by exact PassesOwn.never) (hs : ∀ v, foldedSetIterable (.Name x px) X.env v = pure v := by intro _; rfl) : PS X (.For tg (.Name x px) body [] pos) (EvSt X.K (sForL i g m)) := s_forL hp hc (pe_var hN hv hd hcd) hg hb hs
theorem s_wh {c : Expr} {body : List Stmt} {t : TM} {m : SM} (n : Nat) (hc : PT X c (EvT X.K t)) (hb : PSs X body (EvSt X.K m)) (hp : PassesOwn (model X.prog X.w) X.A X.env X.xe := by exact PassesOwn.never) : PS X (.While c body [] pos) (EvSt X.K (sWhile n t m)) := s_while n hp hc hb
end

/-! ### the defs that a def calls -/
/-- a def that stands, with what it computes; ks: the keyword orders in use -/
structure Callee (P : Program) (w : World) (K : PySem.W.Frag) (mg : Str → Option Value) (base : Heap) (x : Str) (k : Nat) (ps : List Str) (kss : List (List Str × List Nat)) (sp : Sp) : Prop where
  ex : ∃ fa fd, FnOk P w K mg base CX0 k fa fd ps sp ∧ mg x = some (.ref fa) ∧ PySem.W.keepIn K (.ref fa) = true ∧ Binds K fd ps [] ∧ ∀ q ∈ kss, KBn K fd ps 0 q.1 (fun _ ws => perm Value.none q.2 ws) (fun _ zs => perm V.non q.2 zs)
section
variable {X : Cx} {pos : Pos} {fr : Bool} {np k j : Nat} {x : Str} {ps : List Str} {kss : List (List Str × List Nat)} {p : Pos} {e : Expr} {es : List Expr}
theorem c_call {f : PFn} {ms : List EM} (C : Callee X.prog X.w X.K X.mg X.base x j ps kss (spF X.K np fr f)) (hr : Room k X.A) (hj : j ≤ k) (ha : PA X (e :: es) (tEs X.K ms)) (hg : Gl X x := by rfl) (hdb : (x == ("__debug__" : Str)) = false := by decide)
    (he : starEach (e :: es) X.env = (false, eval e X.env) :: starEach es X.env := by rfl) (plq : (backTo pos (starEach es X.env)).any (·.1) = false := by rfl) :
    PE X (.Call (.Name x p) (e :: es) [] pos) (Ev fr X.K (eCall np f ms)) := by
  obtain ⟨fa, fd, F, hm, hk, hb, _⟩ := C.ex
  exact e_call F (hr.mono hj) hg hm hk hb ha hdb he plq
theorem c_callL {f : PFn} {as : List Arg} (C : Callee X.prog X.w X.K X.mg X.base x j ps kss (spF X.K np fr f)) (hr : Room k X.A) (hj : j ≤ k) (ha : PA X (e :: es) (tArgs X.K as)) (hg : Gl X x := by rfl) (hdb : (x == ("__debug__" : Str)) = false := by decide)
    (he : starEach (e :: es) X.env = (false, eval e X.env) :: starEach es X.env := by rfl) (plq : (backTo pos (starEach es X.env)).any (·.1) = false := by rfl) :
    PE X (.Call (.Name x p) (e :: es) [] pos) (Ev fr X.K (eCallB np fr f as)) := by
  obtain ⟨fa, fd, F, hm, hk, hb, _⟩ := C.ex
  exact e_callL F (hr.mono hj) hg hm hk hb ha hdb he plq
theorem c_call0 {f : PFn} (C : Callee X.prog X.w X.K X.mg X.base x j ps kss (spF X.K 0 fr f)) (hr : Room k X.A) (hj : j ≤ k) (hg : Gl X x := by rfl) (hdb : (x == ("__debug__" : Str)) = false := by decide) :
    PE X (.Call (.Name x p) [] [] pos) (Ev fr X.K (eCall 0 f [])) := by
  obtain ⟨fa, fd, F, hm, hk, hb, _⟩ := C.ex
  exact e_call0 F (hr.mono hj) hg hm hk hb hdb
theorem c_callIo {f : Fn} {bs : List Bool} {as : List CA} (C : Callee X.prog X.w X.K X.mg X.base x j ps kss (spP X.K ⟨bs, fr⟩ f)) (hr : Room k X.A) (hj : j ≤ k) (ha : PA X (e :: es) (tCas X.K as)) (hbs : as.map CA.fl = bs := by rfl) (hg : Gl X x := by rfl) (hdb : (x == ("__debug__" : Str)) = false := by decide)
    (he : starEach (e :: es) X.env = (false, eval e X.env) :: starEach es X.env := by rfl) (plq : (backTo pos (starEach es X.env)).any (·.1) = false := by rfl) :
    PE X (.Call (.Name x p) (e :: es) [] pos) (Ev fr X.K (eCallIo f as)) := by
  obtain ⟨fa, fd, F, hm, hk, hb, _⟩ := C.ex
  exact e_callIo F hbs (hr.mono hj) hg hm hk hb ha hdb he plq
theorem c_callK {f : PFn} {ms : List EM} {kws : List Keyword} (ks : List Str) (π : List Nat) (C : Callee X.prog X.w X.K X.mg X.base x j ps kss (spF X.K np fr f)) (hr : Room k X.A) (hj : j ≤ k) (hkw : PK X kws (tEs X.K ms)) (hq : (ks, π) ∈ kss := by simp) (hg : Gl X x := by rfl)
    (hl : ms.length = ks.length := by rfl) (hall : (backToKw pos (keywordEach kws X.env)).all (·.1.isSome) = true := by rfl) (hks : (backToKw pos (keywordEach kws X.env)).filterMap (·.1) = ks := by rfl)
    (hdb : (x == ("__debug__" : Str)) = false := by decide)
    (plq : ((backTo pos (starEach [] X.env)).any (·.1) || (backToKw pos (keywordEach kws X.env)).any (·.1.isNone)) = false := by rfl) :
    PE X (.Call (.Name x p) [] kws pos) (Ev fr X.K (eCallK π np f ms)) := by
  obtain ⟨fa, fd, F, hm, hk, hb, hkb⟩ := C.ex
  exact e_callK π F (hr.mono hj) hg hm hk (hkb _ hq) hkw hl hall hks hdb plq
end
section
variable {P : Program} {w : World} {K : PySem.W.Frag} {mg : Str → Option Value} {base : Heap} {x qual : Str} {st : Stmt} {f : Addr} {fd : FuncData} {ps : List Str} {k : Nat} {sp : Sp}
theorem Callee.of (F : Fun K x qual st f fd) (hm : mg x = some (.ref f)) (ok : FnOk P w K mg base CX0 k f fd ps sp)
    (h : ∀ (kV doc pm : Value) (an : Option Addr) (cdv ct : Value) (us : List Value), us.length = ps.length → bindArgs (PySem.W.fnOf x qual (defArgs st) (defBody st) (defScope st) .none kV doc pm an cdv ct) ⟨us, []⟩ = pure (ps.zip us)) : Callee P w K mg base x k ps [] sp :=
  ⟨f, fd, ok, hm, F.kp, F.binds h, fun q hq => by cases hq⟩
theorem Callee.kw {kss : List (List Str × List Nat)} (F : Fun K x qual st f fd) (hm : mg x = some (.ref f)) (ok : FnOk P w K mg base CX0 k f fd ps sp)
    (h : ∀ (kV doc pm : Value) (an : Option Addr) (cdv ct : Value) (us : List Value), us.length = ps.length → bindArgs (PySem.W.fnOf x qual (defArgs st) (defBody st) (defScope st) .none kV doc pm an cdv ct) ⟨us, []⟩ = pure (ps.zip us))
    (hk : ∀ (kV doc pm : Value) (an : Option Addr) (cdv ct : Value), ∀ q ∈ kss, ∀ ws : List Value, ws.length = q.1.length → bindArgs (PySem.W.fnOf x qual (defArgs st) (defBody st) (defScope st) .none kV doc pm an cdv ct) ⟨[], q.1.zip ws⟩ = pure (ps.zip (perm Value.none q.2 ws))) : Callee P w K mg base x k ps kss sp := by
  refine ⟨f, fd, ok, hm, F.kp, F.binds h, fun q hq => kbn q.2 ?_⟩
  obtain ⟨oc, od, kV, doc, pm, an, cdv, ct, osl, rfl, lk, hcd⟩ := F.ex
  exact hk kV doc pm an cdv ct q hq
end
end PL
end

section
set_option maxRecDepth 100000
set_option maxHeartbeats 3900000
/-! PV8: products, room. -/
namespace PL
open PySem Spec PyProof.Rows L2
section
variable {X : Cx}
theorem o_mul : OpR X (binaryOp .Mult) (r2 true X.K dMul) := by
  intro pins s σ H x y v u Q I rx ry ⟨P, dx, dy, d, hx, hy, hd, q⟩
  unfold dMul at hd
  split at hd
  · rename_i i j e; cases e
    split at hd
    · rename_i hc
      cases hd
      refine op_mul pins s σ H x y v u Q I rx ry ⟨i, j, hx.int, hy.int, ?_, q _ _ (.same (.int _) fun _ => rfl)⟩
      simp only [small64, Bool.or_eq_true, decide_eq_true_eq] at hc
      rcases hc with hc | hc
      · exact .inl ⟨by omega, by omega⟩
      · exact .inr ⟨by omega, by omega⟩
    · cases hd
  · rename_i a k e; cases e
    split at hd
    · rename_i hc
      cases hd
      obtain ⟨ax, vx, rfl, sx, lx⟩ := hx.lst
      cases hy.int
      cases rx
      obtain ⟨t, rfl⟩ := ry
      exact rep_list I sx (by omega) (by omega) (by rw [lx.length, sizeLine_eq]; exact hc.2) fun p hp => q _ _ (.newC hp (.lst (lx.rep k.toNat)))
    · cases hd
  · cases hd
end
theorem room65 {k : Nat} {A : Around} (hr : Room k A) : A.units + 65 < cLine := by have := hr.un; omega
end PL
end

section
set_option maxRecDepth 100000
set_option maxHeartbeats 3900000
/-! PV9: the law's own call. -/
namespace PL
open PySem Spec PyProof.Rows L2
theorem rp_script {K : PySem.W.Frag} {H : Hp} {P : Addr → Prop} {a : Addr} {ns : List Int} (hP : ¬ P a) (h : SqL K H a (ns.map V.int)) : Rp K H P (.ref a) (.lst (ns.map .int)) := by
  rcases h with (h | ⟨ob, h⟩) | h
  · exact .cell h hP (.lst (rpInts ns))
  · exact .frz h (.lst (rpInts ns))
  · exact .kls (.inr h) (rpInts ns)
theorem law_sp {K : PySem.W.Frag} {H : Hp} {a : Addr} {ns : List Int} {m : PFn} {E : XK} (h : SqL K H a (ns.map V.int)) (hm : m [.lst (ns.map .int)] = some (.bl true)) : spF K 1 true m [.ref a] H (fun v _ => v = .bl true) E := by
  have hl : ∀ b, some b ∉ owOf (List.replicate 1 false) [V.ref a] := fun b => owOf_false 1 _ b
  have hP : ∀ b, ¬ Pio (fun _ => False) (owOf (List.replicate 1 false) [V.ref a]) b := fun b z => z.elim id fun z => hl b z
  refine ⟨fun _ => False, [.lst (ns.map .int)], (.bl true, [.non]), by unfold pureFn; rw [hm]; rfl, .val (rp_script (hP a) h) .nil, fun i j b z => absurd (List.mem_of_getElem? z) (hl b), fun b z => absurd z (hl b), fun b z => z.elim, fun v H' p => ?_⟩
  rcases p.ret with ⟨r, _, _⟩ | ⟨_, pp, o, _, _, _, rc, _⟩
  · exact r.bl_inv
  · cases rc
theorem glob_of {K : PySem.W.Frag} {mg : Str → Option Value} {h : Heap} {x : Str} {u : Value} {v : V} {d : D} (X : K.In h) (G : h.Ns mainGlobals mg) (a : PySem.W.nsIn K mainGlobals x = some (some u)) (r : RelV v u) (hr : ∀ H P, Rp K H P v d) : ∃ v u, mg x = some u ∧ RelV v u ∧ ∀ H P, Rp K H P v d :=
  ⟨v, u, PySem.W.mg_of X G a, r, hr⟩
end PL
end

section
set_option maxRecDepth 100000
set_option maxHeartbeats 3900000
/-! PVA: range with a step. -/
namespace PL
open PySem Spec PyProof.Rows L2
def rngC (c : Int) : Int → Nat → List D
  | _, 0 => []
  | lo, n + 1 => .int lo :: rngC c (lo + c) n
theorem rngC_len (c : Int) : ∀ (n : Nat) (lo : Int), (rngC c lo n).length = n
  | 0, _ => rfl
  | n + 1, lo => by rw [rngC, List.length_cons, rngC_len c n]
theorem rngC_get (c : Int) : ∀ (n : Nat) (lo : Int) (i : Nat), i < n → (rngC c lo n)[i]? = some (.int (lo + (i : Nat) * c))
  | 0, _, _, h => absurd h (Nat.not_lt_zero _)
  | n + 1, lo, 0, _ => by rw [rngC]; simp
  | n + 1, lo, i + 1, h => by
    rw [rngC, List.getElem?_cons_succ, rngC_get c n (lo + c) i (by omega)]
    congr 2
    rw [Int.natCast_add, Int.add_mul, Int.add_assoc, Int.add_comm c]
    congr 2
    simp
theorem src_rangeC {K : PySem.W.Frag} {A : Addr → Prop} {ow : List (Option Addr)} {H : Hp} (lo c : Int) (n : Nat) : Src K A (Itc lo c n) ow H (rngC c lo n) := fun A' ow2 H2 hA st i => by
  refine ⟨fun d e => ?_, fun e => ?_⟩
  · have hi : i < n := by have := (List.getElem?_eq_some_iff.mp e).1; rw [rngC_len] at this; exact this
    rw [rngC_get c n lo i hi] at e
    cases e
    refine ⟨hi, fun x H3 y => ?_⟩
    obtain ⟨rfl, rfl⟩ := y
    exact ⟨.inl rfl, .int _⟩
  · rw [rngC_len] at e
    show n ≤ i
    omega
def iR3 (m n l : EM) : IM := fun env => (m env).bind fun (d, e) => (asI d).bind fun lo => (n e).bind fun (d', e') => (asI d').bind fun hi => (l e').bind fun (d2, e2) => (asI d2).bind fun c =>
  if c ≠ 0 ∧ c.natAbs < 1073741824 ∧ Builtin.Range.small lo hi c = true ∧ 0 ≤ Builtin.Range.rangeSize lo hi c then some (rngC c lo (Builtin.Range.rangeSize lo hi c).toNat, e2) else none
section
variable {X : Cx} {tg : Expr}
theorem i_r3 {a b c : Expr} {m n l : EM} {p pos : Pos} (hg : Gl X "range") (hm : X.mg "range" = none) (ha : PA X [a, b, c] (tEs X.K [m, n, l]))
    (hs : starEach [a, b, c] X.env = (false, eval a X.env) :: starEach [b, c] X.env := by rfl) (plq : (backTo pos (starEach [b, c] X.env)).any (·.1) = false := by rfl) :
    PI X tg (.Call (.Name "range" p) [a, b, c] [] pos) (EvI X.K (iR3 m n l)) :=
  (pi_range3 hg hm ha hs plq).imp fun σ H R ⟨S, ow, env, I, ds, env', hm, k⟩ => by
    unfold iR3 at hm
    simp only [Option.bind_eq_some_iff] at hm
    obtain ⟨⟨d, e⟩, h1, lo, h2, ⟨d', e'⟩, h3, hi, h4, ⟨d2, e2⟩, h5, cc, h6, h7⟩ := hm
    cases asI_some h2
    cases asI_some h4
    cases asI_some h6
    split at h7
    · rename_i hz
      cases h7
      refine ⟨S, ow, env, I, _, _, h1, fun S' ow' v H' st J f => ?_⟩
      obtain ⟨rfl, r⟩ := f.shared
      refine ⟨_, ow', _, J, _, _, h3, fun S' ow2 v2 H2 st2 J2 f2 => ?_⟩
      obtain ⟨rfl, r2⟩ := f2.shared
      refine ⟨_, ow2, _, J2, _, _, h5, fun S' ow3 v3 H3 st3 J3 f3 => ?_⟩
      obtain ⟨rfl, r3⟩ := f3.shared
      exact ⟨lo, hi, cc, _, by rw [r.int_inv, r2.int_inv, r3.int_inv], ⟨hz.1, hz.2.1, hz.2.2.1, (Int.toNat_of_nonneg hz.2.2.2).symm⟩, k _ H3 _ ((st.trans st2).trans st3) J3 (src_rangeC lo cc _)⟩
    · cases h7
end
end PL
end

section
set_option maxRecDepth 100000
/-! M0: plain tools for the mathematics about mirrors. -/
namespace PL
open PySem L2
/-- a state of the law's own chance: three ints -/
def Wl (d : D) : Prop := ∃ a b c : Int, d = .lst [.int a, .int b, .int c] ∧ 0 ≤ a ∧ 0 ≤ b ∧ b < 2147483648 ∧ 0 ≤ c
/-- a def that draws -/
def Draws (f : Fn) : Prop := ∀ (w : D) (many : Int), Wl w → 1 ≤ many → many < 1073741824 → ∃ (r : Int) (w' : D), f [w, .int many] = some (.int r, [w', .non]) ∧ 0 ≤ r ∧ r < many ∧ Wl w'
theorem at0 {α : Type} (a b c : α) : atI [a, b, c] 0 = some a := by simp [atI, ixN]
theorem at1 {α : Type} (a b c : α) : atI [a, b, c] 1 = some b := by simp [atI, ixN]
theorem at2 {α : Type} (a b c : α) : atI [a, b, c] 2 = some c := by simp [atI, ixN]
theorem ix0 : ixN 3 0 = some 0 := by decide
theorem ix1 : ixN 3 1 = some 1 := by decide
theorem ix2 : ixN 3 2 = some 2 := by decide
theorem small_of {b : Int} (h0 : 0 ≤ b) (h1 : b < 2147483648) : PL.small64 b = true := by
  have h : b.natAbs < 2 ^ 64 := by omega
  exact decide_eq_true h
def isT : Option D → Bool
  | some (.bl true) => true
  | _ => false
theorem isT_eq {x : Option D} (h : isT x = true) : x = some (.bl true) := by
  unfold isT at h
  split at h
  · rfl
  · cases h
mutual
def deqS : D → D → Bool
  | .non, .non => true
  | .bl a, .bl b => a == b
  | .int a, .int b => a == b
  | .str a, .str b => a == b
  | .tup a, .tup b => deqSs a b
  | .lst a, .lst b => deqSs a b
  | _, _ => false
def deqSs : List D → List D → Bool
  | [], [] => true
  | a :: as, b :: bs => deqS a b && deqSs as bs
  | _, _ => false
end
mutual
theorem deqS_eq : ∀ {a b : D}, deqS a b = true → a = b
  | .non, .non, _ => rfl
  | .bl a, .bl b, h => by rw [deqS] at h; rw [eq_of_beq h]
  | .int a, .int b, h => by rw [deqS] at h; rw [eq_of_beq h]
  | .str a, .str b, h => by rw [deqS] at h; rw [eq_of_beq h]
  | .tup a, .tup b, h => by rw [deqS] at h; rw [deqSs_eq h]
  | .lst a, .lst b, h => by rw [deqS] at h; rw [deqSs_eq h]
  | .non, .bl _, h | .non, .int _, h | .non, .str _, h | .non, .tup _, h | .non, .lst _, h | .non, .dct _, h | .non, .opq _, h => by cases h
  | .bl _, .non, h | .bl _, .int _, h | .bl _, .str _, h | .bl _, .tup _, h | .bl _, .lst _, h | .bl _, .dct _, h | .bl _, .opq _, h => by cases h
  | .int _, .non, h | .int _, .bl _, h | .int _, .str _, h | .int _, .tup _, h | .int _, .lst _, h | .int _, .dct _, h | .int _, .opq _, h => by cases h
  | .str _, .non, h | .str _, .bl _, h | .str _, .int _, h | .str _, .tup _, h | .str _, .lst _, h | .str _, .dct _, h | .str _, .opq _, h => by cases h
  | .tup _, .non, h | .tup _, .bl _, h | .tup _, .int _, h | .tup _, .str _, h | .tup _, .lst _, h | .tup _, .dct _, h | .tup _, .opq _, h => by cases h
  | .lst _, .non, h | .lst _, .bl _, h | .lst _, .int _, h | .lst _, .str _, h | .lst _, .tup _, h | .lst _, .dct _, h | .lst _, .opq _, h => by cases h
  | .dct _, b, h => by cases b <;> cases h
  | .opq _, b, h => by cases b <;> cases h
theorem deqSs_eq : ∀ {a b : List D}, deqSs a b = true → a = b
  | [], [], _ => rfl
  | a :: as, b :: bs, h => by
    rw [deqSs, Bool.and_eq_true] at h
    rw [deqS_eq h.1, deqSs_eq h.2]
  | [], _ :: _, h => by cases h
  | _ :: _, [], h => by cases h
end
def someS (x : Option D) (d : D) : Bool := match x with
  | some e => deqS e d
  | none => false
theorem someS_eq {x : Option D} {d : D} (h : someS x d = true) : x = some d := by
  unfold someS at h
  split at h
  · rw [deqS_eq h]
  · cases h
/-! ### loops -/
/-- a loop that runs to its end -/
theorem for_inv {g : GM} {body : SM} (ds : List D) (Inv : Nat → Env → Prop) (env : Env) (h0 : Inv 0 env)
    (step : ∀ i d env, ds[i]? = some d → Inv i env → ∃ e1 e2 f, g d env = some e1 ∧ body e1 = some (f, e2) ∧ (f = .nx ∨ f = .ct) ∧ Inv (i + 1) e2) :
    ∃ e, forGo g body ds env = some (.nx, e) ∧ Inv ds.length e := by
  suffices h : ∀ (es : List D) (i : Nat) (env : Env), ds.drop i = es → i ≤ ds.length → Inv i env → ∃ e, forGo g body es env = some (.nx, e) ∧ Inv ds.length e by
    exact h ds 0 env (List.drop_zero) (Nat.zero_le _) h0
  intro es
  induction es with
  | nil =>
    intro i env hd hi hI
    have : i = ds.length := by have := congrArg List.length hd; rw [List.length_drop, List.length_nil] at this; omega
    exact ⟨env, rfl, this ▸ hI⟩
  | cons d es ih =>
    intro i env hd hi hI
    have hget : ds[i]? = some d := by
      have := congrArg (·[0]?) hd
      simpa using this
    have hlt : i < ds.length := (List.getElem?_eq_some_iff.mp hget).1
    obtain ⟨e1, e2, f, h1, h2, hf, h3⟩ := step i d env hget hI
    obtain ⟨e, h4, h5⟩ := ih (i + 1) e2 (by rw [← List.drop_drop, hd]; rfl) hlt h3
    refine ⟨e, ?_, h5⟩
    rcases hf with rfl | rfl <;> simp only [forGo, h1, h2, Option.bind_some] <;> exact h4
/-- a comprehension: what comes out, told by places -/
theorem lc_inv {vs : List Nat} {g : GM} {t : TM} {m : EM} (ds : List D) (Inv : Env → Prop) (Out : D → D → Prop) (env : Env) (h0 : Inv env)
    (step : ∀ d env, d ∈ ds → Inv env → ∃ e1 e2 e3 e4 y, g d env = some e1 ∧ t e1 = some (true, e2) ∧ m e2 = some (y, e3) ∧ wipeE vs e3 = some e4 ∧ Inv e4 ∧ Out d y) :
    ∃ ys e, lcGo vs g t m ds env = some (ys, e) ∧ Inv e ∧ ys.length = ds.length ∧ ∀ (i : Nat) (d y : D), ds[i]? = some d → ys[i]? = some y → Out d y := by
  induction ds generalizing env with
  | nil => exact ⟨[], env, rfl, h0, rfl, fun i d y h => by cases h⟩
  | cons d ds ih =>
    obtain ⟨e1, e2, e3, e4, y, h1, h2, h3, h4, h5, h6⟩ := step d env List.mem_cons_self h0
    obtain ⟨ys, e, h7, h8, h9, h10⟩ := ih e4 h5 fun d' env' hd hI => step d' env' (List.mem_cons_of_mem _ hd) hI
    refine ⟨y :: ys, e, ?_, h8, by rw [List.length_cons, List.length_cons, h9], fun i d' y' hd hy => ?_⟩
    · simp only [lcGo, h1, h2, h3, h4, h7, Option.bind_some, if_true]
    · cases i with
      | zero => cases hd; cases hy; exact h6
      | succ i => exact h10 i d' y' (by simpa using hd) (by simpa using hy)
/-- a comprehension that leaves the slots as they are -/
theorem lc_map {vs : List Nat} {g : GM} {t : TM} {m : EM} (ds : List D) (env : Env) (F : D → D)
    (step : ∀ d, d ∈ ds → ∃ e1 e2 e3, g d env = some e1 ∧ t e1 = some (true, e2) ∧ m e2 = some (F d, e3) ∧ wipeE vs e3 = some env) :
    lcGo vs g t m ds env = some (ds.map F, env) := by
  induction ds with
  | nil => rfl
  | cons d ds ih =>
    obtain ⟨e1, e2, e3, h1, h2, h3, h4⟩ := step d List.mem_cons_self
    have ih' := ih fun d' hd => step d' (List.mem_cons_of_mem _ hd)
    simp only [lcGo, h1, h2, h3, h4, ih', Option.bind_some, if_true, List.map_cons]
/-- a comprehension with an if -/
theorem lc_filter {vs : List Nat} {g : GM} {t : TM} {m : EM} (ds : List D) (env : Env) (p : D → Bool) (F : D → D)
    (step : ∀ d, d ∈ ds → ∃ e1 e2, g d env = some e1 ∧ t e1 = some (p d, e2) ∧ (p d = true → ∃ e3, m e2 = some (F d, e3) ∧ wipeE vs e3 = some env) ∧ (p d = false → wipeE vs e2 = some env)) :
    lcGo vs g t m ds env = some ((ds.filter p).map F, env) := by
  induction ds with
  | nil => rfl
  | cons d ds ih =>
    obtain ⟨e1, e2, h1, h2, h3, h4⟩ := step d List.mem_cons_self
    have ih' := ih fun d' hd => step d' (List.mem_cons_of_mem _ hd)
    cases hp : p d with
    | true =>
      obtain ⟨e3, h5, h6⟩ := h3 hp
      rw [hp] at h2
      rw [List.filter_cons_of_pos hp]
      simp only [lcGo, h1, h2, h5, h6, ih', Option.bind_some, if_true, List.map_cons]
    | false =>
      rw [hp] at h2
      have h7 := h4 hp
      rw [List.filter_cons_of_neg (by rw [hp]; decide)]
      simp only [lcGo, h1, h2, h7, ih', Option.bind_some, Bool.false_eq_true, if_false]
theorem mem_rngD {n : Nat} {lo : Int} {d : D} (h : d ∈ rngD lo n) : ∃ i : Nat, i < n ∧ d = .int (lo + i) := by
  obtain ⟨i, hi⟩ := List.getElem?_of_mem h
  have hl : i < n := by have := (List.getElem?_eq_some_iff.mp hi).1; rw [rngD_len] at this; exact this
  rw [rngD_get n lo i hl] at hi
  exact ⟨i, hl, (Option.some.inj hi).symm⟩
theorem rngD_eq (lo : Int) : ∀ n : Nat, rngD lo n = (List.range n).map fun i => .int (lo + (i : Nat)) := fun n => by
  apply List.ext_getElem?
  intro i
  by_cases hi : i < n
  · rw [rngD_get n lo i hi, List.getElem?_map, List.getElem?_range hi]; rfl
  · rw [List.getElem?_eq_none (by rw [rngD_len]; omega), List.getElem?_eq_none (by simpa using hi)]
end PL
end

section
set_option maxRecDepth 100000
/-! M1: lists of data. -/
namespace PL
open PySem L2
theorem ixN_nat {n t : Nat} (h : t < n) : ixN n (t : Int) = some t := by
  unfold ixN
  rw [if_pos (by omega), if_pos (by omega)]; simp
theorem atI_map {α β : Type} (f : α → β) (xs : List α) (i : Int) : atI (xs.map f) i = (atI xs i).map f := by
  unfold atI
  rw [List.length_map]
  cases ixN xs.length i with
  | none => rfl
  | some j => simp
theorem atI_lt {α : Type} {xs : List α} {t : Nat} (h : t < xs.length) : atI xs (t : Int) = some xs[t] := by
  unfold atI
  rw [ixN_nat h, Option.bind_some, List.getElem?_eq_getElem h]
theorem cutL_map {α β : Type} (f : α → β) (xs : List α) (lo hi : Option Int) : cutL (xs.map f) lo hi = (cutL xs lo hi).map f := by
  unfold cutL
  rw [List.length_map, List.map_take, List.map_drop]
theorem cutL_len {α : Type} (xs : List α) (lo hi : Option Int) : (cutL xs lo hi).length ≤ xs.length := by
  unfold cutL
  rw [List.length_take, List.length_drop]
  omega
/-- what makes a state of the law's own chance -/
def Pots (f : PFn) : Prop := ∀ (ns : List Int) (t : Nat), ns.length ≤ 63 → t ≤ 1000 → ∃ w, f [.lst (ns.map .int), .int (t : Nat)] = some w ∧ Wl w
theorem emod_b (a : Int) {m : Int} (h : 0 < m) : 0 ≤ a % m ∧ a % m < m := ⟨Int.emod_nonneg _ (by omega), Int.emod_lt_of_pos _ h⟩
end PL
namespace PL
theorem natAbs_lit (n : Nat) : Int.natAbs (@OfNat.ofNat Int n instOfNat) = @OfNat.ofNat Nat n (instOfNatNat n) := rfl
end PL
namespace PL
open PySem L2
mutual
/-- data of depth at most n, no dicts -/
def okS : D → Nat → Bool
  | .non, _ => true
  | .bl _, _ => true
  | .int _, _ => true
  | .str _, _ => true
  | .lst ds, n => decide (0 < n) && decide (ds.length ≤ 16777216) && okSs ds (n - 1)
  | .tup ds, n => decide (0 < n) && decide (ds.length ≤ 16777216) && okSs ds (n - 1)
  | _, _ => false
def okSs : List D → Nat → Bool
  | [], _ => true
  | d :: ds, n => okS d n && okSs ds n
end
theorem okSs_get : ∀ {ds : List D} {n i : Nat} {d : D}, okSs ds n = true → ds[i]? = some d → okS d n = true
  | [], _, _, _, _, h => by cases h
  | d :: ds, n, 0, e, h, g => by rw [okSs, Bool.and_eq_true] at h; cases g; exact h.1
  | d :: ds, n, i + 1, e, h, g => by rw [okSs, Bool.and_eq_true] at h; exact okSs_get h.2 (by simpa using g)
theorem blsD_rep (n : Nat) : blsD (List.replicate n (.bl true)) = some (List.replicate n true) := by
  have := blsD_map (List.replicate n true)
  rwa [List.map_replicate] at this
theorem all_rep (n : Nat) : (List.replicate n true).all id = true := by
  rw [List.all_eq_true]
  intro x hx
  rw [(List.mem_replicate.mp hx).2]; rfl
theorem map_rep {α : Type} (d : D) : ∀ l : List α, (l.map fun _ => d) = List.replicate l.length d
  | [] => rfl
  | _ :: l => by rw [List.map_cons, map_rep d l]; rfl
end PL
namespace PL
open PySem L2
/-! ### bodies, a statement at a time -/
theorem seq_nx {m n : SM} {env e : PL.Env} (h : m env = some (.nx, e)) : sSeq m n env = n e := by
  show (m env).bind _ = _
  rw [h]; rfl
theorem seq_rt {m n : SM} {env e : PL.Env} {b : Bool} {d : D} (h : m env = some (.rt b d, e)) : sSeq m n env = some (.rt b d, e) := by
  show (m env).bind _ = _
  rw [h]; rfl
theorem if_t {t : TM} {m n : SM} {env e : PL.Env} (h : t env = some (true, e)) : sIf t m n env = m e := by
  show (t env).bind _ = _
  rw [h]; rfl
theorem if_f {t : TM} {m n : SM} {env e : PL.Env} (h : t env = some (false, e)) : sIf t m n env = n e := by
  show (t env).bind _ = _
  rw [h]; rfl
theorem asg_nx {m : EM} {g : GM} {env e e' : PL.Env} {d : D} (h : m env = some (d, e)) (hg : g d e = some e') : sAsg m g env = some (.nx, e') := by
  show (m env).bind _ = _
  rw [h, Option.bind_some]
  show (g d e).bind _ = _
  rw [hg]; rfl
theorem retF_of {m : EM} {env e : PL.Env} {d : D} (h : m env = some (d, e)) : sRetF m env = some (.rt true d, e) := by
  show (m env).bind _ = _
  rw [h]; rfl
theorem ret_of {m : EM} {env e : PL.Env} {d : D} (h : m env = some (d, e)) : sRet m env = some (.rt (!isMutD d) d, e) := by
  show (m env).bind _ = _
  rw [h]; rfl
theorem and_f {m n : EM} {env e : PL.Env} {d : D} (h : m env = some (d, e)) (ht : truth d = some false) : eAnd m n env = some (d, e) := by
  show (m env).bind _ = _
  rw [h, Option.bind_some]
  show (truth d).bind _ = _
  rw [ht]; rfl
theorem and_t {m n : EM} {env e : PL.Env} {d : D} (h : m env = some (d, e)) (ht : truth d = some true) : eAnd m n env = n e := by
  show (m env).bind _ = _
  rw [h, Option.bind_some]
  show (truth d).bind _ = _
  rw [ht]; rfl
theorem runP_of {k n : Nat} {body : SM} {ds : List D} {d : D} {e : PL.Env} (hk : ds.length = k) (h : body (envOf (List.replicate k false) ds ++ List.replicate (n - ds.length) .no) = some (.rt true d, e)) (ho : outsOf (List.replicate k false) e = some (ds.map fun _ => .non)) : runP true k n body ds = some d := by
  unfold runP runFn
  rw [if_pos (by simpa using hk), h, Option.bind_some]
  show (((retOf true (.rt true d)).bind fun d => (outsOf (List.replicate k false) e).map fun os => (d, os))).map _ = _
  rw [ho]; rfl
end PL
namespace PL
open PySem L2
/-! ### expressions, a step at a time -/
theorem lc_of {src : IM} {vs : List Nat} {g : GM} {t : TM} {m : EM} {env e1 e2 e : PL.Env} {ds ys : List D} (h1 : src env = some (ds, e1)) (hz : ds.length ≤ 16777216) (hw : wipeE vs e1 = some e2) (hg : lcGo vs g t m ds e2 = some (ys, e)) : eLc src vs g t m env = some (.lst ys, e) := by
  simp only [eLc, h1, hz, hw, hg, Option.bind_some, if_true]
theorem smallI_nat {n : Nat} (h : n ≤ 16777216) : smallI (n : Int) = true := by
  have h1 : (n : Int).natAbs < 2 ^ 62 := by omega
  exact decide_eq_true h1
theorem r1_of {m : EM} {env e : PL.Env} {n : Nat} (h : m env = some (.int n, e)) (hz : n ≤ 16777216) : iR1 m env = some (rngD 0 n, e) := by
  simp only [iR1, h, Option.bind_some, asI, smallI_nat hz, if_true, Int.toNat_natCast]
theorem app_of {g : List D → Option D} {as : List Arg} {env e : PL.Env} {ds : List D} {d : D} (h : evA as env = some (ds, e)) (hg : g ds = some d) : eApp g as env = some (d, e) := by
  show (evA as env).bind _ = _
  rw [h, Option.bind_some]
  show (g ds).bind _ = _
  rw [hg]; rfl
theorem ev1 {m : EM} {env e : PL.Env} {d : D} (h : m env = some (d, e)) : evA [.v m] env = some ([d], e) := by
  show (m env).bind _ = _
  rw [h]; rfl
theorem ev2 {m n : EM} {env e e' : PL.Env} {d d' : D} (h : m env = some (d, e)) (h' : n e = some (d', e')) : evA [.v m, .v n] env = some ([d, d'], e') := by
  show (m env).bind _ = _
  rw [h, Option.bind_some]
  show (evA [.v n] e).bind _ = _
  rw [ev1 h']; rfl
theorem tB_of {m : EM} {env e : PL.Env} {b : Bool} (h : m env = some (.bl b, e)) : tB_ m env = some (b, e) := by
  show (m env).bind _ = _
  rw [h]; rfl
theorem tTr_of {m : EM} {env e : PL.Env} {d : D} {b : Bool} (h : m env = some (d, e)) (ht : truth d = some b) : tTr (.v m) env = some (b, e) := by
  show (evA [.v m] env).bind _ = _
  rw [ev1 h, Option.bind_some]
  show (truth d).bind _ = _
  rw [ht]; rfl
theorem tNo_of {t : TM} {env e : PL.Env} {b : Bool} (h : t env = some (b, e)) : tNo t env = some (!b, e) := by
  show (t env).map _ = _
  rw [h]; rfl
theorem or_f {t u : TM} {env e : PL.Env} (h : t env = some (false, e)) : tOrr t u env = u e := by
  show (t env).bind _ = _
  rw [h]; rfl
theorem or_t {t u : TM} {env e : PL.Env} (h : t env = some (true, e)) : tOrr t u env = some (true, e) := by
  show (t env).bind _ = _
  rw [h]; rfl
theorem an_t {t u : TM} {env e : PL.Env} (h : t env = some (true, e)) : tAn t u env = u e := by
  show (t env).bind _ = _
  rw [h]; rfl
theorem an_f {t u : TM} {env e : PL.Env} (h : t env = some (false, e)) : tAn t u env = some (false, e) := by
  show (t env).bind _ = _
  rw [h]; rfl
theorem call_of {k : Nat} {f : PFn} {ms : List EM} {env e : PL.Env} {ds : List D} {d : D} (h : evL ms env = some (ds, e)) (hk : ds.length = k) (hf : f ds = some d) : eCall k f ms env = some (d, e) := by
  show (evL ms env).bind _ = _
  rw [h, Option.bind_some]
  show (if ds.length = k then (f ds).bind _ else none) = _
  rw [if_pos hk, hf]; rfl
theorem callK_of {π : List Nat} {k : Nat} {f : PFn} {ms : List EM} {env e : PL.Env} {ds es : List D} {d : D} (h : evL ms env = some (ds, e)) (hk : π.length = k) (hp : perm D.non π ds = es) (hf : f es = some d) : eCallK π k f ms env = some (d, e) := by
  show (evL ms env).bind _ = _
  rw [h, Option.bind_some]
  show (if π.length = k then (f (perm D.non π ds)).bind _ else none) = _
  rw [if_pos hk, hp, hf]; rfl
theorem callIo_of {f : Fn} {as : List CA} {env e : PL.Env} {ds os : List D} {d : D} (h : evC as env = some (ds, e)) (hf : f ds = some (d, os)) (hn : (ioSl as).Nodup := by decide) : eCallIo f as env = some (d, putOuts as os e) := by
  show (evC as env).bind _ = _
  rw [h, Option.bind_some]
  show (f ds).bind _ = _
  rw [hf, Option.bind_some]
  show (if (ioSl as).Nodup then _ else none) = _
  rw [if_pos hn]
theorem evL0 {env : PL.Env} : evL [] env = some ([], env) := rfl
theorem evLc {m : EM} {ms : List EM} {env e e' : PL.Env} {d : D} {ds : List D} (h : m env = some (d, e)) (h' : evL ms e = some (ds, e')) : evL (m :: ms) env = some (d :: ds, e') := by
  show (m env).bind _ = _
  rw [h, Option.bind_some]
  show (evL ms e).bind _ = _
  rw [h']; rfl
theorem tup_of {ms : List EM} {env e : PL.Env} {ds : List D} (h : evL ms env = some (ds, e)) : eTup ms env = some (.tup ds, e) := by
  show (evL ms env).map _ = _
  rw [h]; rfl
theorem lst_of {ms : List EM} {env e : PL.Env} {ds : List D} (h : evL ms env = some (ds, e)) : eLst ms env = some (.lst ds, e) := by
  show (evL ms env).map _ = _
  rw [h]; rfl
theorem for_nx {src : IM} {g : GM} {body : SM} {env e1 e : PL.Env} {ds : List D} (h : src env = some (ds, e1)) (hf : forGo g body ds e1 = some (.nx, e)) : sFor src g body env = some (.nx, e) := by
  show (src env).bind _ = _
  rw [h]; exact hf
theorem drop_of {m : EM} {env e : PL.Env} {d : D} (h : m env = some (d, e)) : sDrop m env = some (.nx, e) := by
  show (m env).bind _ = _
  rw [h]; rfl
theorem own_of {m : EM} {i : Nat} {env e : PL.Env} {d : D} (h : m env = some (d, e)) (hf : free e i = true) : sOwn m i env = some (.nx, e.set i (mkOwn d)) := by
  show (m env).bind _ = _
  rw [h, Option.bind_some]
  show (if free e i = true then _ else none) = _
  rw [if_pos hf]
end PL
namespace PL
open PySem L2
theorem r2_of {m n : EM} {env e1 e2 : PL.Env} {lo hi : Int} (h1 : m env = some (.int lo, e1)) (h2 : n e1 = some (.int hi, e2)) (hl : smallI lo = true) (hh : smallI hi = true) : iR2 m n env = some (rngD lo (hi - lo).toNat, e2) := by
  simp only [iR2, h1, h2, Option.bind_some, asI, hl, hh, Bool.and_self, if_true]
end PL
namespace PL
open PySem L2
theorem runP_nx {k n : Nat} {body : SM} {ds : List D} {e : PL.Env} (hk : ds.length = k) (h : body (envOf (List.replicate k false) ds ++ List.replicate (n - ds.length) .no) = some (.nx, e)) (ho : outsOf (List.replicate k false) e = some (ds.map fun _ => .non)) : runP true k n body ds = some .non := by
  unfold runP runFn
  rw [if_pos (by simpa using hk), h, Option.bind_some]
  show (((retOf true .nx).bind fun d => (outsOf (List.replicate k false) e).map fun os => (d, os))).map _ = _
  rw [ho]; rfl
end PL
end

section
set_option maxRecDepth 100000
/-! M2: a step at a time, by equations whose ways on are no lambdas. -/
namespace PL
open PySem L2
theorem bm {α β : Type} {x : Option α} {f : α → Option β} {g : α → β} (h : ∀ a, f a = some (g a)) : x.bind f = x.map g := by
  cases x with
  | none => rfl
  | some a => exact h a
/-! slots -/
def kVar (i : Nat) (env : PL.Env) : Option PL.Slot → Option (D × PL.Env)
  | some (.shr d) => some (d, env)
  | some (.own d) => some (d, env.set i (.shr d))
  | _ => none
theorem q_var (i : Nat) (env : PL.Env) : eVar i env = kVar i env env[i]? := rfl
theorem q_var1 (i : Nat) (env : PL.Env) (d : D) : kVar i env (some (.shr d)) = some (d, env) := rfl
theorem q_var2 (i : Nat) (env : PL.Env) (d : D) : kVar i env (some (.own d)) = some (d, env.set i (.shr d)) := rfl
def kPk : Option PL.Slot → Option D
  | some (.shr d) => some d
  | some (.own d) => some d
  | some (.iow d) => some d
  | _ => none
theorem q_pk (env : PL.Env) (i : Nat) : peek env i = kPk env[i]? := by
  unfold peek; cases env[i]? with
  | none => rfl
  | some s => cases s <;> rfl
theorem q_pk1 (d : D) : kPk (some (.shr d)) = some d := rfl
theorem q_pk2 (d : D) : kPk (some (.own d)) = some d := rfl
theorem q_pk3 (d : D) : kPk (some (.iow d)) = some d := rfl
def kOL : Option PL.Slot → Option (List D)
  | some (.own (.lst ds)) => some ds
  | some (.iow (.lst ds)) => some ds
  | _ => none
theorem q_ol (env : PL.Env) (i : Nat) : ownL env i = kOL env[i]? := rfl
theorem q_ol1 (ds : List D) : kOL (some (.own (.lst ds))) = some ds := rfl
theorem q_ol2 (ds : List D) : kOL (some (.iow (.lst ds))) = some ds := rfl
def kPL (env : PL.Env) (i : Nat) (ds : List D) : Option PL.Slot → PL.Env
  | some (.iow _) => env.set i (.iow (.lst ds))
  | _ => env.set i (.own (.lst ds))
theorem q_pl (env : PL.Env) (i : Nat) (ds : List D) : putL env i ds = kPL env i ds env[i]? := rfl
theorem q_pl1 (env : PL.Env) (i : Nat) (ds : List D) (d : D) : kPL env i ds (some (.iow d)) = env.set i (.iow (.lst ds)) := rfl
theorem q_pl2 (env : PL.Env) (i : Nat) (ds : List D) (d : D) : kPL env i ds (some (.own d)) = env.set i (.own (.lst ds)) := rfl
def kOD : Option PL.Slot → Option D
  | some (.own d) => some d
  | some (.iow d) => some d
  | _ => none
theorem q_od (env : PL.Env) (i : Nat) : ownD env i = kOD env[i]? := rfl
theorem q_od1 (d : D) : kOD (some (.own d)) = some d := rfl
theorem q_od2 (d : D) : kOD (some (.iow d)) = some d := rfl
def kPD (env : PL.Env) (i : Nat) (d : D) : Option PL.Slot → PL.Env
  | some (.iow _) => env.set i (.iow d)
  | _ => env.set i (.own d)
theorem q_pd (env : PL.Env) (i : Nat) (d : D) : putD env i d = kPD env i d env[i]? := rfl
theorem q_pd1 (env : PL.Env) (i : Nat) (d d' : D) : kPD env i d (some (.iow d')) = env.set i (.iow d) := rfl
theorem q_pd2 (env : PL.Env) (i : Nat) (d d' : D) : kPD env i d (some (.own d')) = env.set i (.own d) := rfl
def fre : PL.Slot → Bool
  | .no => true
  | .shr _ => true
  | .own _ => true
  | _ => false
def kFr : Option PL.Slot → Bool
  | some s => fre s
  | none => false
theorem q_fr (env : PL.Env) (i : Nat) : free env i = kFr env[i]? := by
  unfold free; cases env[i]? with
  | none => rfl
  | some s => cases s <;> rfl
theorem q_fr1 (s : PL.Slot) : kFr (some s) = fre s := rfl
theorem q_fr2 : fre .no = true := rfl
theorem q_fr3 (d : D) : fre (.shr d) = true := rfl
theorem q_fr4 (d : D) : fre (.own d) = true := rfl
def kSet (b : Bool) (env : PL.Env) : Option PL.Env := if b = true then some env else none
theorem q_set1 (env : PL.Env) : kSet true env = some env := rfl
theorem q_gN (i : Nat) (d : D) (env : PL.Env) : gN i d env = kSet (free env i) (env.set i (.shr d)) := rfl
theorem q_gsN (env : PL.Env) : gsN [] env = some env := rfl
theorem q_gsC (g : GM) (gs : GMs) (d : D) (r : List D) (env : PL.Env) : gsC g gs (d :: r) env = (g d env).bind (gs r) := rfl
theorem q_gT (n : Nat) (gs : GMs) (ds : List D) (env : PL.Env) : gT n gs (.tup ds) env = if ds.length = n then gs ds env else none := rfl
def kIx1 (i : Nat) (d : D) : D × PL.Env → Option PL.Env
  | (.int k, e) => (ownL e i).bind fun ds => (ixN ds.length k).bind fun j => some (putL e i (ds.set j d))
  | _ => none
def kIx2 (i : Nat) (d : D) (k : Int) (e : PL.Env) (ds : List D) : Option PL.Env := (ixN ds.length k).map fun j => putL e i (ds.set j d)
def kK {α β : Type} (f : Option β) (_ : α) : Option β := f
theorem q_kK {α β : Type} (f : Option β) (x : α) : kK f x = f := rfl
theorem q_gIx (i : Nat) (m : EM) (d : D) (env : PL.Env) : gIx i m d env = (ownL env i).bind (kK ((m env).bind (kIx1 i d))) := by
  unfold gIx
  cases ownL env i with
  | none => rfl
  | some x =>
    show ((m env).bind _) = (m env).bind _
    congr 1
    funext ⟨k, e⟩
    cases k <;> rfl
theorem q_gIx1 (i : Nat) (d : D) (k : Int) (e : PL.Env) : kIx1 i d (.int k, e) = (ownL e i).bind (kIx2 i d k e) := by
  show (ownL e i).bind _ = _
  congr 1
  funext ds
  unfold kIx2
  cases ixN ds.length k <;> rfl
/-! expressions -/
theorem q_c (d : D) (env : PL.Env) : eC d env = some (d, env) := rfl
def kCons {α : Type} (d : α) : List α × PL.Env → List α × PL.Env
  | (ds, e) => (d :: ds, e)
theorem q_cons {α : Type} (d : α) (ds : List α) (e : PL.Env) : kCons d (ds, e) = (d :: ds, e) := rfl
def kA (as : List Arg) : D × PL.Env → Option (List D × PL.Env)
  | (d, e) => (evA as e).map (kCons d)
theorem q_A0 (env : PL.Env) : evA [] env = some ([], env) := rfl
theorem q_A1 (m : EM) (as : List Arg) (env : PL.Env) : evA (.v m :: as) env = (m env).bind (kA as) := congrArg (Option.bind _) (funext fun ⟨d, e⟩ => bm fun ⟨ds, e2⟩ => rfl)
theorem q_A2 (as : List Arg) (d : D) (e : PL.Env) : kA as (d, e) = (evA as e).map (kCons d) := rfl
def kAb (i : Nat) : List D × PL.Env → Option (List D × PL.Env)
  | (ds, e) => (peek e i).map fun d => (d :: ds, e)
def kAb2 (ds : List D) (e : PL.Env) (d : D) : List D × PL.Env := (d :: ds, e)
theorem q_A3 (i : Nat) (as : List Arg) (env : PL.Env) : evA (.b i :: as) env = (peek env i).bind (kK ((evA as env).bind (kAb i))) := congrArg (Option.bind (peek env i)) (funext fun _ => congrArg (Option.bind (evA as env)) (funext fun ⟨ds, e2⟩ => bm fun d => rfl))
theorem q_A4 (i : Nat) (ds : List D) (e : PL.Env) : kAb i (ds, e) = (peek e i).map (kAb2 ds e) := rfl
theorem q_A5 (d : D) (ds : List D) (e : PL.Env) : kAb2 ds e d = (d :: ds, e) := rfl
def kR (e : PL.Env) (d : D) : D × PL.Env := (d, e)
theorem q_R (e : PL.Env) (d : D) : kR e d = (d, e) := rfl
def kApp (g : List D → Option D) : List D × PL.Env → Option (D × PL.Env)
  | (ds, e) => (g ds).map (kR e)
theorem q_app (g : List D → Option D) (as : List Arg) (env : PL.Env) : eApp g as env = (evA as env).bind (kApp g) := congrArg (Option.bind _) (funext fun ⟨d, e⟩ => bm fun _ => rfl)
theorem q_app1 (g : List D → Option D) (ds : List D) (e : PL.Env) : kApp g (ds, e) = (g ds).map (kR e) := rfl
def kL (ms : List EM) : D × PL.Env → Option (List D × PL.Env)
  | (d, e) => (evL ms e).map (kCons d)
theorem q_L0 (env : PL.Env) : evL [] env = some ([], env) := rfl
theorem q_L1 (m : EM) (ms : List EM) (env : PL.Env) : evL (m :: ms) env = (m env).bind (kL ms) := congrArg (Option.bind _) (funext fun ⟨d, e⟩ => bm fun ⟨ds, e2⟩ => rfl)
theorem q_L2 (ms : List EM) (d : D) (e : PL.Env) : kL ms (d, e) = (evL ms e).map (kCons d) := rfl
def kTup : List D × PL.Env → D × PL.Env
  | (ds, e) => (.tup ds, e)
def kLst : List D × PL.Env → D × PL.Env
  | (ds, e) => (.lst ds, e)
theorem q_tup (ms : List EM) (env : PL.Env) : eTup ms env = (evL ms env).map kTup := rfl
theorem q_tup1 (ds : List D) (e : PL.Env) : kTup (ds, e) = (.tup ds, e) := rfl
theorem q_lst (ms : List EM) (env : PL.Env) : eLst ms env = (evL ms env).map kLst := rfl
theorem q_lst1 (ds : List D) (e : PL.Env) : kLst (ds, e) = (.lst ds, e) := rfl
def kBr (e : PL.Env) (b : Bool) : Bool × PL.Env := (b, e)
theorem q_Br (e : PL.Env) (b : Bool) : kBr e b = (b, e) := rfl
def kB : D × PL.Env → Option (Bool × PL.Env)
  | (d, e) => (asB d).map (kBr e)
theorem q_tB (m : EM) (env : PL.Env) : tB_ m env = (m env).bind kB := congrArg (Option.bind _) (funext fun ⟨d, e⟩ => bm fun _ => rfl)
theorem q_tB1 (b : Bool) (e : PL.Env) : kB (.bl b, e) = some (b, e) := rfl
def kTr : List D × PL.Env → Option (Bool × PL.Env)
  | ([d], e) => (truth d).map (kBr e)
  | _ => none
theorem q_tTr (a : Arg) (env : PL.Env) : tTr a env = (evA [a] env).bind kTr := congrArg (Option.bind _) (funext fun ⟨ds, e⟩ => match ds with | [] => rfl | [d] => bm fun _ => rfl | _ :: _ :: _ => rfl)
theorem q_tTr1 (d : D) (e : PL.Env) : kTr ([d], e) = (truth d).map (kBr e) := rfl
def kNo : Bool × PL.Env → Bool × PL.Env
  | (b, e) => (!b, e)
theorem q_tNo (t : TM) (env : PL.Env) : tNo t env = (t env).map kNo := rfl
theorem q_tNo1 (b : Bool) (e : PL.Env) : kNo (b, e) = (!b, e) := rfl
def kAn (u : TM) : Bool × PL.Env → Option (Bool × PL.Env)
  | (b, e) => if b = true then u e else some (false, e)
theorem q_tAn (t u : TM) (env : PL.Env) : tAn t u env = (t env).bind (kAn u) := rfl
theorem q_tAn1 (u : TM) (e : PL.Env) : kAn u (true, e) = u e := rfl
theorem q_tAn2 (u : TM) (e : PL.Env) : kAn u (false, e) = some (false, e) := rfl
def kOr (u : TM) : Bool × PL.Env → Option (Bool × PL.Env)
  | (b, e) => if b = true then some (true, e) else u e
theorem q_tOr (t u : TM) (env : PL.Env) : tOrr t u env = (t env).bind (kOr u) := rfl
theorem q_tOr1 (u : TM) (e : PL.Env) : kOr u (true, e) = some (true, e) := rfl
theorem q_tOr2 (u : TM) (e : PL.Env) : kOr u (false, e) = u e := rfl
theorem q_tT (env : PL.Env) : tTrue env = some (true, env) := rfl
def kIf {α : Type} (m n : PL.Env → Option α) : Bool × PL.Env → Option α
  | (b, e) => if b = true then m e else n e
theorem q_eIf (t : TM) (m n : EM) (env : PL.Env) : eIf t m n env = (t env).bind (kIf m n) := rfl
theorem q_sIf (t : TM) (m n : SM) (env : PL.Env) : sIf t m n env = (t env).bind (kIf m n) := rfl
theorem q_if1 {α : Type} (m n : PL.Env → Option α) (e : PL.Env) : kIf m n (true, e) = m e := rfl
theorem q_if2 {α : Type} (m n : PL.Env → Option α) (e : PL.Env) : kIf m n (false, e) = n e := rfl
def kEO2 (n : EM) (d : D) (e : PL.Env) (b : Bool) : Option (D × PL.Env) := if b = true then some (d, e) else n e
def kEO (n : EM) : D × PL.Env → Option (D × PL.Env)
  | (d, e) => (truth d).bind (kEO2 n d e)
theorem q_eOr (m n : EM) (env : PL.Env) : eOr m n env = (m env).bind (kEO n) := rfl
theorem q_eOr1 (n : EM) (d : D) (e : PL.Env) : kEO n (d, e) = (truth d).bind (kEO2 n d e) := rfl
theorem q_eOr2 (n : EM) (d : D) (e : PL.Env) : kEO2 n d e true = some (d, e) := rfl
theorem q_eOr3 (n : EM) (d : D) (e : PL.Env) : kEO2 n d e false = n e := rfl
def kEA2 (n : EM) (d : D) (e : PL.Env) (b : Bool) : Option (D × PL.Env) := if b = true then n e else some (d, e)
def kEA (n : EM) : D × PL.Env → Option (D × PL.Env)
  | (d, e) => (truth d).bind (kEA2 n d e)
theorem q_eAn (m n : EM) (env : PL.Env) : eAnd m n env = (m env).bind (kEA n) := rfl
theorem q_eAn1 (n : EM) (d : D) (e : PL.Env) : kEA n (d, e) = (truth d).bind (kEA2 n d e) := rfl
theorem q_eAn2 (n : EM) (d : D) (e : PL.Env) : kEA2 n d e true = n e := rfl
theorem q_eAn3 (n : EM) (d : D) (e : PL.Env) : kEA2 n d e false = some (d, e) := rfl
def kNt2 (e : PL.Env) (b : Bool) : D × PL.Env := (.bl (!b), e)
theorem q_Nt2 (e : PL.Env) (b : Bool) : kNt2 e b = (.bl (!b), e) := rfl
def kNt : List D × PL.Env → Option (D × PL.Env)
  | ([d], e) => (truth d).map (kNt2 e)
  | _ => none
theorem q_eNt (a : Arg) (env : PL.Env) : eNot a env = (evA [a] env).bind kNt := congrArg (Option.bind _) (funext fun ⟨ds, e⟩ => match ds with | [] => rfl | [d] => bm fun _ => rfl | _ :: _ :: _ => rfl)
theorem q_eNt1 (d : D) (e : PL.Env) : kNt ([d], e) = (truth d).map (kNt2 e) := rfl
def kC4 (g' : List D → Option D) (y : D) : D × PL.Env → Option (D × PL.Env)
  | (w, e) => (g' [y, w]).map (kR e)
def kC3 (g' : List D → Option D) (c : EM) (y : D) (e : PL.Env) : D → Option (D × PL.Env)
  | .bl true => (c e).bind (kC4 g' y)
  | .bl false => some (.bl false, e)
  | _ => none
def kC2 (g g' : List D → Option D) (c : EM) (x : D) : D × PL.Env → Option (D × PL.Env)
  | (y, e) => (g [x, y]).bind (kC3 g' c y e)
def kC1 (g g' : List D → Option D) (b c : EM) : D × PL.Env → Option (D × PL.Env)
  | (x, e) => (b e).bind (kC2 g g' c x)
theorem q_ch (g g' : List D → Option D) (a b c : EM) (env : PL.Env) : eChain g g' a b c env = (a env).bind (kC1 g g' b c) := by
  show (a env).bind _ = _
  congr 1
  funext ⟨x, e⟩
  show (b e).bind _ = (b e).bind _
  congr 1
  funext ⟨y, e2⟩
  show (g [x, y]).bind _ = (g [x, y]).bind _
  congr 1
  funext z
  cases z with
  | bl k =>
    cases k with
    | true => exact congrArg (Option.bind (c e2)) (funext fun ⟨w, e3⟩ => bm fun _ => rfl)
    | false => rfl
  | _ => rfl
theorem q_ch1 (g g' : List D → Option D) (b c : EM) (x : D) (e : PL.Env) : kC1 g g' b c (x, e) = (b e).bind (kC2 g g' c x) := rfl
theorem q_ch2 (g g' : List D → Option D) (c : EM) (x y : D) (e : PL.Env) : kC2 g g' c x (y, e) = (g [x, y]).bind (kC3 g' c y e) := rfl
theorem q_ch3 (g' : List D → Option D) (c : EM) (y : D) (e : PL.Env) : kC3 g' c y e (.bl true) = (c e).bind (kC4 g' y) := rfl
theorem q_ch4 (g' : List D → Option D) (c : EM) (y : D) (e : PL.Env) : kC3 g' c y e (.bl false) = some (.bl false, e) := rfl
theorem q_ch5 (g' : List D → Option D) (y w : D) (e : PL.Env) : kC4 g' y (w, e) = (g' [y, w]).map (kR e) := rfl
def kS3 (g : D → Option Int → Option Int → Option D) (d : D) (l : Option Int) : Option Int × PL.Env → Option (D × PL.Env)
  | (h, e) => (g d l h).map (kR e)
def kS2 (g : D → Option Int → Option Int → Option D) (hi : OM) (d : D) : Option Int × PL.Env → Option (D × PL.Env)
  | (l, e) => (hi e).bind (kS3 g d l)
def kS1 (g : D → Option Int → Option Int → Option D) (lo hi : OM) : D × PL.Env → Option (D × PL.Env)
  | (d, e) => (lo e).bind (kS2 g hi d)
theorem q_sl (g : D → Option Int → Option Int → Option D) (m : EM) (lo hi : OM) (env : PL.Env) : eSl g (.v m) lo hi env = (m env).bind (kS1 g lo hi) := congrArg (Option.bind (m env)) (funext fun ⟨d, e⟩ => congrArg (Option.bind (lo e)) (funext fun ⟨l, e2⟩ => congrArg (Option.bind (hi e2)) (funext fun ⟨h, e3⟩ => bm fun _ => rfl)))
theorem q_sl1 (g : D → Option Int → Option Int → Option D) (lo hi : OM) (d : D) (e : PL.Env) : kS1 g lo hi (d, e) = (lo e).bind (kS2 g hi d) := rfl
theorem q_sl2 (g : D → Option Int → Option Int → Option D) (hi : OM) (d : D) (l : Option Int) (e : PL.Env) : kS2 g hi d (l, e) = (hi e).bind (kS3 g d l) := rfl
theorem q_sl3 (g : D → Option Int → Option Int → Option D) (d : D) (l h : Option Int) (e : PL.Env) : kS3 g d l (h, e) = (g d l h).map (kR e) := rfl
def kT3 (g : D → Option Int → Option Int → Option D) (l h : Option Int) (e : PL.Env) (d : D) : Option (D × PL.Env) := (g d l h).map (kR e)
def kT2 (g : D → Option Int → Option Int → Option D) (i : Nat) (l : Option Int) : Option Int × PL.Env → Option (D × PL.Env)
  | (h, e) => (peek e i).bind (kT3 g l h e)
def kT1 (g : D → Option Int → Option Int → Option D) (i : Nat) (hi : OM) : Option Int × PL.Env → Option (D × PL.Env)
  | (l, e) => (hi e).bind (kT2 g i l)
theorem q_slb (g : D → Option Int → Option Int → Option D) (i : Nat) (lo hi : OM) (env : PL.Env) : eSl g (.b i) lo hi env = (peek env i).bind (kK ((lo env).bind (kT1 g i hi))) := congrArg (Option.bind (peek env i)) (funext fun _ => congrArg (Option.bind (lo env)) (funext fun ⟨l, e2⟩ => congrArg (Option.bind (hi e2)) (funext fun ⟨h, e3⟩ => congrArg (Option.bind (peek e3 i)) (funext fun d => bm fun _ => rfl))))
theorem q_slb1 (g : D → Option Int → Option Int → Option D) (i : Nat) (hi : OM) (l : Option Int) (e : PL.Env) : kT1 g i hi (l, e) = (hi e).bind (kT2 g i l) := rfl
theorem q_slb2 (g : D → Option Int → Option Int → Option D) (i : Nat) (l h : Option Int) (e : PL.Env) : kT2 g i l (h, e) = (peek e i).bind (kT3 g l h e) := rfl
theorem q_slb3 (g : D → Option Int → Option Int → Option D) (l h : Option Int) (e : PL.Env) (d : D) : kT3 g l h e d = (g d l h).map (kR e) := rfl
theorem q_oNo (env : PL.Env) : oNo env = some (none, env) := rfl
def kSo : D × PL.Env → Option (Option Int × PL.Env)
  | (.int i, e) => some (some i, e)
  | _ => none
theorem q_oSo (m : EM) (env : PL.Env) : oSo m env = (m env).bind kSo := by
  show (m env).bind _ = _
  congr 1
  funext ⟨d, e⟩
  cases d <;> rfl
theorem q_oSo1 (i : Int) (e : PL.Env) : kSo (.int i, e) = some (some i, e) := rfl
def kI2 (e : PL.Env) (ds : List D) : List D × PL.Env := (ds, e)
theorem q_I2 (e : PL.Env) (ds : List D) : kI2 e ds = (ds, e) := rfl
def kI : D × PL.Env → Option (List D × PL.Env)
  | (d, e) => (items d).map (kI2 e)
theorem q_iOf (m : EM) (env : PL.Env) : iOf m env = (m env).bind kI := rfl
theorem q_iOf1 (d : D) (e : PL.Env) : kI (d, e) = (items d).map (kI2 e) := rfl
theorem q_it1 (ds : List D) : items (.tup ds) = some ds := rfl
theorem q_it2 (ds : List D) : items (.lst ds) = some ds := rfl
theorem q_it3 (s : List Nat) : items (.str s) = some (chars s) := rfl
def kRn : D × PL.Env → Option (List D × PL.Env)
  | (.int n, e) => if smallI n = true then some (rngD 0 n.toNat, e) else none
  | _ => none
theorem q_R1 (m : EM) (env : PL.Env) : iR1 m env = (m env).bind kRn := by
  show (m env).bind _ = _
  congr 1
  funext ⟨d, e⟩
  cases d <;> rfl
theorem q_R1a (n : Nat) (e : PL.Env) (h : n ≤ 16777216) : kRn (.int n, e) = some (rngD 0 n, e) := by
  show (if smallI n = true then _ else none) = _
  rw [if_pos (smallI_nat h)]; rfl
theorem q_R1b (n : Int) (e : PL.Env) (h : smallI n = true) : kRn (.int n, e) = some (rngD 0 n.toNat, e) := by
  show (if smallI n = true then _ else none) = _
  rw [if_pos h]
def kRn3 (lo : Int) : D × PL.Env → Option (List D × PL.Env)
  | (.int hi, e) => if (smallI lo && smallI hi) = true then some (rngD lo (hi - lo).toNat, e) else none
  | _ => none
def kRn2 (n : EM) : D × PL.Env → Option (List D × PL.Env)
  | (.int lo, e) => (n e).bind (kRn3 lo)
  | _ => none
theorem q_R2 (m n : EM) (env : PL.Env) : iR2 m n env = (m env).bind (kRn2 n) := by
  show (m env).bind _ = _
  congr 1
  funext ⟨d, e⟩
  cases d <;> first | rfl | skip
  rename_i lo
  show (n e).bind _ = (n e).bind _
  congr 1
  funext ⟨d, e⟩
  cases d <;> rfl
theorem q_R2a (n : EM) (lo : Int) (e : PL.Env) : kRn2 n (.int lo, e) = (n e).bind (kRn3 lo) := rfl
theorem q_R2b (lo hi : Int) (e : PL.Env) (h1 : smallI lo = true) (h2 : smallI hi = true) : kRn3 lo (.int hi, e) = some (rngD lo (hi - lo).toNat, e) := by
  show (if (smallI lo && smallI hi) = true then _ else none) = _
  rw [h1, h2]; rfl
def kEn : D × PL.Env → Option (List D × PL.Env)
  | (d, e) => (items d).map fun ds => (enD 0 ds, e)
def kEn2 (e : PL.Env) (ds : List D) : List D × PL.Env := (enD 0 ds, e)
theorem q_En2 (e : PL.Env) (ds : List D) : kEn2 e ds = (enD 0 ds, e) := rfl
theorem q_En (m : EM) (env : PL.Env) : iEnM m env = (m env).bind kEn := rfl
theorem q_En1 (d : D) (e : PL.Env) : kEn (d, e) = (items d).map (kEn2 e) := rfl
def kZp4 (e : PL.Env) (ds es : List D) : List D × PL.Env := (zpD ds es, e)
def kZp3 (ds : List D) : D × PL.Env → Option (List D × PL.Env)
  | (d, e) => (items d).map (kZp4 e ds)
def kZp2 (n : EM) (e : PL.Env) (ds : List D) : Option (List D × PL.Env) := (n e).bind (kZp3 ds)
def kZp1 (n : EM) : D × PL.Env → Option (List D × PL.Env)
  | (d, e) => (items d).bind (kZp2 n e)
theorem q_Zp (m n : EM) (env : PL.Env) : iZpM m n env = (m env).bind (kZp1 n) := rfl
theorem q_Zp1 (n : EM) (d : D) (e : PL.Env) : kZp1 n (d, e) = (items d).bind (kZp2 n e) := rfl
theorem q_Zp2 (n : EM) (e : PL.Env) (ds : List D) : kZp2 n e ds = (n e).bind (kZp3 ds) := rfl
theorem q_Zp3 (ds : List D) (d : D) (e : PL.Env) : kZp3 ds (d, e) = (items d).map (kZp4 e ds) := rfl
theorem q_Zp4 (e : PL.Env) (ds es : List D) : kZp4 e ds es = (zpD ds es, e) := rfl
def kLc3 : List D × PL.Env → D × PL.Env
  | (r, e) => (.lst r, e)
def kLc2 (vs : List Nat) (g : GM) (t : TM) (m : EM) (ds : List D) (e : PL.Env) : Option (D × PL.Env) := (lcGo vs g t m ds e).map kLc3
def kLc (vs : List Nat) (g : GM) (t : TM) (m : EM) : List D × PL.Env → Option (D × PL.Env)
  | (ds, e) => if ds.length ≤ 16777216 then (wipeE vs e).bind (kLc2 vs g t m ds) else none
theorem q_Lc (src : IM) (vs : List Nat) (g : GM) (t : TM) (m : EM) (env : PL.Env) : eLc src vs g t m env = (src env).bind (kLc vs g t m) := congrArg (Option.bind _) (funext fun ⟨ds, e⟩ => by
  show (if _ then _ else _) = (if _ then _ else _)
  congr 1
  exact congrArg (Option.bind _) (funext fun e2 => bm fun ⟨_, _⟩ => rfl))
theorem q_Lc1 (vs : List Nat) (g : GM) (t : TM) (m : EM) (ds : List D) (e : PL.Env) (h : ds.length ≤ 16777216) : kLc vs g t m (ds, e) = (wipeE vs e).bind (kLc2 vs g t m ds) := if_pos h
theorem q_Lc2 (vs : List Nat) (g : GM) (t : TM) (m : EM) (ds : List D) (e : PL.Env) : kLc2 vs g t m ds e = (lcGo vs g t m ds e).map kLc3 := rfl
theorem q_Lc3 (r : List D) (e : PL.Env) : kLc3 (r, e) = (.lst r, e) := rfl
theorem q_w0 (env : PL.Env) : wipeE [] env = some env := rfl
def kW (v : Nat) (e : PL.Env) : Option PL.Env := kSet (free e v) (e.set v .no)
theorem q_w1 (v : Nat) (vs : List Nat) (env : PL.Env) : wipeE (v :: vs) env = (wipeE vs env).bind (kW v) := rfl
theorem q_w2 (v : Nat) (e : PL.Env) : kW v e = kSet (free e v) (e.set v .no) := rfl
def kCall (k : Nat) (f : PFn) : List D × PL.Env → Option (D × PL.Env)
  | (ds, e) => if ds.length = k then (f ds).map (kR e) else none
theorem q_call (k : Nat) (f : PFn) (ms : List EM) (env : PL.Env) : eCall k f ms env = (evL ms env).bind (kCall k f) := congrArg (Option.bind _) (funext fun ⟨ds, e⟩ => by
  show (if _ then _ else _) = (if _ then _ else _)
  congr 1
  exact bm fun _ => rfl)
theorem q_call0 (f : PFn) (e : PL.Env) : kCall 0 f ([], e) = (f []).map (kR e) := rfl
theorem q_call1 (f : PFn) (a : D) (e : PL.Env) : kCall 1 f ([a], e) = (f [a]).map (kR e) := rfl
theorem q_call2 (f : PFn) (a b : D) (e : PL.Env) : kCall 2 f ([a, b], e) = (f [a, b]).map (kR e) := rfl
theorem q_call3 (f : PFn) (a b c : D) (e : PL.Env) : kCall 3 f ([a, b, c], e) = (f [a, b, c]).map (kR e) := rfl
theorem q_call4 (f : PFn) (a b c d : D) (e : PL.Env) : kCall 4 f ([a, b, c, d], e) = (f [a, b, c, d]).map (kR e) := rfl
theorem q_call5 (f : PFn) (a b c d a5 : D) (e : PL.Env) : kCall 5 f ([a, b, c, d, a5], e) = (f [a, b, c, d, a5]).map (kR e) := rfl
def kLent (fr : Bool) (e : PL.Env) (d : D) : Option (D × PL.Env) := if lent fr d = true then some (d, e) else none
def kCallB (k : Nat) (fr : Bool) (f : PFn) : List D × PL.Env → Option (D × PL.Env)
  | (ds, e) => if ds.length = k then (f ds).bind (kLent fr e) else none
theorem q_cB (k : Nat) (fr : Bool) (f : PFn) (as : List Arg) (env : PL.Env) : eCallB k fr f as env = (evA as env).bind (kCallB k fr f) := rfl
theorem q_cB1 (fr : Bool) (f : PFn) (a : D) (e : PL.Env) : kCallB 1 fr f ([a], e) = (f [a]).bind (kLent fr e) := rfl
theorem q_cB2 (fr : Bool) (f : PFn) (a b : D) (e : PL.Env) : kCallB 2 fr f ([a, b], e) = (f [a, b]).bind (kLent fr e) := rfl
theorem q_cB3 (fr : Bool) (f : PFn) (a b c : D) (e : PL.Env) : kCallB 3 fr f ([a, b, c], e) = (f [a, b, c]).bind (kLent fr e) := rfl
theorem q_cB4 (fr : Bool) (f : PFn) (a b c d : D) (e : PL.Env) : kCallB 4 fr f ([a, b, c, d], e) = (f [a, b, c, d]).bind (kLent fr e) := rfl
theorem q_len (fr : Bool) (e : PL.Env) (d : D) (h : lent fr d = true) : kLent fr e d = some (d, e) := if_pos h
theorem q_lenI (fr : Bool) (e : PL.Env) (i : Int) : kLent fr e (.int i) = some (.int i, e) := rfl
theorem q_lenB (fr : Bool) (e : PL.Env) (b : Bool) : kLent fr e (.bl b) = some (.bl b, e) := rfl
theorem q_lenS (fr : Bool) (e : PL.Env) (s : List Nat) : kLent fr e (.str s) = some (.str s, e) := rfl
theorem q_lenN (fr : Bool) (e : PL.Env) : kLent fr e .non = some (.non, e) := rfl
def kCallK (π : List Nat) (k : Nat) (f : PFn) : List D × PL.Env → Option (D × PL.Env)
  | (ds, e) => if π.length = k then (f (perm D.non π ds)).map (kR e) else none
theorem q_cK (π : List Nat) (k : Nat) (f : PFn) (ms : List EM) (env : PL.Env) : eCallK π k f ms env = (evL ms env).bind (kCallK π k f) := congrArg (Option.bind _) (funext fun ⟨ds, e⟩ => by
  show (if _ then _ else _) = (if _ then _ else _)
  congr 1
  exact bm fun _ => rfl)
theorem q_cKn (π : List Nat) (k : Nat) (f : PFn) (ds : List D) (e : PL.Env) : kCallK π k f (ds, e) = if π.length = k then (f (perm D.non π ds)).map (kR e) else none := rfl
theorem q_pm0 (d : D) (xs : List D) : perm d [] xs = [] := rfl
theorem q_pm1 (d : D) (i : Nat) (π : List Nat) (xs : List D) : perm d (i :: π) xs = xs.getD i d :: perm d π xs := rfl
def kV2 (as : List CA) : D × PL.Env → Option (List D × PL.Env)
  | (d, e) => (evC as e).map (kCons d)
theorem q_C0 (env : PL.Env) : evC [] env = some ([], env) := rfl
theorem q_C1 (m : EM) (as : List CA) (env : PL.Env) : evC (.v m :: as) env = (m env).bind (kV2 as) := congrArg (Option.bind _) (funext fun ⟨d, e⟩ => bm fun ⟨ds, e2⟩ => rfl)
theorem q_C2 (as : List CA) (d : D) (e : PL.Env) : kV2 as (d, e) = (evC as e).map (kCons d) := rfl
def kTm (as : List CA) : D × PL.Env → Option (List D × PL.Env)
  | (d, e) => if isMutD d = true then (evC as e).map (kCons d) else none
theorem q_C3 (m : EM) (as : List CA) (env : PL.Env) : evC (.t m :: as) env = (m env).bind (kTm as) := congrArg (Option.bind _) (funext fun ⟨d, e⟩ => by
  show (if _ then _ else _) = (if _ then _ else _)
  congr 1
  exact bm fun ⟨_, _⟩ => rfl)
theorem q_C4 (as : List CA) (ds : List D) (e : PL.Env) : kTm as (.lst ds, e) = (evC as e).map (kCons (.lst ds)) := rfl
def kIo (i : Nat) : List D × PL.Env → Option (List D × PL.Env)
  | (ds, e) => (ownD e i).map (kAb2 ds e)
theorem q_C5 (i : Nat) (as : List CA) (env : PL.Env) : evC (.io i :: as) env = (ownD env i).bind (kK ((evC as env).bind (kIo i))) := congrArg (Option.bind (ownD env i)) (funext fun _ => congrArg (Option.bind (evC as env)) (funext fun ⟨ds, e2⟩ => bm fun d => rfl))
theorem q_C6 (i : Nat) (ds : List D) (e : PL.Env) : kIo i (ds, e) = (ownD e i).map (kAb2 ds e) := rfl
def kNd (b : Bool) (x : D × PL.Env) : Option (D × PL.Env) := if b = true then some x else none
theorem q_nd (x : D × PL.Env) : kNd true x = some x := rfl
def ndB (l : List Nat) : Bool := decide l.Nodup
def kCi2 (as : List CA) (e : PL.Env) : D × List D → Option (D × PL.Env)
  | (d, os) => kNd (ndB (ioSl as)) (d, putOuts as os e)
def kCi (f : Fn) (as : List CA) : List D × PL.Env → Option (D × PL.Env)
  | (ds, e) => (f ds).bind (kCi2 as e)
theorem q_ci (f : Fn) (as : List CA) (env : PL.Env) : eCallIo f as env = (evC as env).bind (kCi f as) := by
  show (evC as env).bind _ = _
  congr 1
  funext ⟨ds, e⟩
  show (f ds).bind _ = (f ds).bind _
  congr 1
  funext ⟨d, os⟩
  show _ = kNd _ _
  unfold kNd ndB
  by_cases h : (ioSl as).Nodup
  · rw [decide_eq_true h]; exact if_pos h
  · rw [decide_eq_false h]; exact if_neg h
theorem q_ci1 (f : Fn) (as : List CA) (ds : List D) (e : PL.Env) : kCi f as (ds, e) = (f ds).bind (kCi2 as e) := rfl
theorem q_ci2 (as : List CA) (e : PL.Env) (d : D) (os : List D) : kCi2 as e (d, os) = kNd (ndB (ioSl as)) (d, putOuts as os e) := rfl
theorem q_is0 : ioSl [] = [] := rfl
theorem q_is1 (i : Nat) (as : List CA) : ioSl (.io i :: as) = i :: ioSl as := rfl
theorem q_is2 (m : EM) (as : List CA) : ioSl (.v m :: as) = ioSl as := rfl
theorem q_is3 (m : EM) (as : List CA) : ioSl (.t m :: as) = ioSl as := rfl
theorem q_nd0 : ndB [] = true := rfl
theorem q_nd1 (i : Nat) : ndB [i] = true := decide_eq_true (by simp)
theorem q_nd2 (i j : Nat) : ndB [i, j] = decide (i ≠ j) := by unfold ndB; simp
theorem q_po0 (e : PL.Env) (os : List D) : putOuts [] os e = e := by cases os <;> rfl
theorem q_po1 (i : Nat) (as : List CA) (o : D) (os : List D) (e : PL.Env) : putOuts (.io i :: as) (o :: os) e = putOuts as os (putD e i o) := rfl
theorem q_po2 (m : EM) (as : List CA) (o : D) (os : List D) (e : PL.Env) : putOuts (.v m :: as) (o :: os) e = putOuts as os e := rfl
theorem q_po3 (m : EM) (as : List CA) (o : D) (os : List D) (e : PL.Env) : putOuts (.t m :: as) (o :: os) e = putOuts as os e := rfl
def kRev : D × PL.Env → Option (D × PL.Env)
  | (d, e) => (dRev d).map (kR e)
theorem q_rev (m : EM) (env : PL.Env) : eRev m env = (m env).bind kRev := rfl
theorem q_rev1 (d : D) (e : PL.Env) : kRev (d, e) = (dRev d).map (kR e) := rfl
theorem q_rev2 (ds : List D) : dRev (.lst ds) = some (.lst ds.reverse) := rfl
theorem q_rev3 (ds : List D) : dRev (.tup ds) = some (.tup ds.reverse) := rfl
def kRg1 (mk : List D → D) : D × PL.Env → Option (D × PL.Env)
  | (.int n, e) => if n.natAbs ≤ 16777216 then some (mk (rngD 0 n.toNat), e) else none
  | _ => none
theorem q_rg1 (mk : List D → D) (m : EM) (env : PL.Env) : eRg1 mk m env = (m env).bind (kRg1 mk) := by
  show (m env).bind _ = _
  congr 1
  funext ⟨d, e⟩
  cases d <;> rfl
theorem q_rg1a (mk : List D → D) (n : Nat) (e : PL.Env) (h : n ≤ 16777216) : kRg1 mk (.int n, e) = some (mk (rngD 0 n), e) := if_pos (by omega)
theorem q_rg1b (mk : List D → D) (n : Int) (e : PL.Env) (h : n.natAbs ≤ 16777216) : kRg1 mk (.int n, e) = some (mk (rngD 0 n.toNat), e) := if_pos h
def kJ2 (s : D) : D × PL.Env → Option (D × PL.Env)
  | (d, e) => (dJoin s d).map (kR e)
def kJ1 (m : EM) : D × PL.Env → Option (D × PL.Env)
  | (s, e) => (m e).bind (kJ2 s)
theorem q_jn (o m : EM) (env : PL.Env) : eJoin o m env = (o env).bind (kJ1 m) := rfl
theorem q_jn1 (m : EM) (s : D) (e : PL.Env) : kJ1 m (s, e) = (m e).bind (kJ2 s) := rfl
theorem q_jn2 (s d : D) (e : PL.Env) : kJ2 s (d, e) = (dJoin s d).map (kR e) := rfl
def kBi : D × PL.Env → Option (D × PL.Env)
  | (.int n, e) => some (.int (Builtin.Int.intBits n : Nat), e)
  | _ => none
theorem q_bi (m : EM) (env : PL.Env) : eBits m env = (m env).bind kBi := by
  show (m env).bind _ = _
  congr 1
  funext ⟨d, e⟩
  cases d <;> rfl
theorem q_bi1 (n : Int) (e : PL.Env) : kBi (.int n, e) = some (.int (Builtin.Int.intBits n : Nat), e) := rfl
def kAp2 (i : Nat) (d : D) (e : PL.Env) (ds : List D) : Option (D × PL.Env) := if ds.length < 16777216 then some (.non, putL e i (ds ++ [d])) else none
def kAp1 (i : Nat) : D × PL.Env → Option (D × PL.Env)
  | (d, e) => (ownL e i).bind (kAp2 i d e)
theorem q_ap (i : Nat) (m : EM) (env : PL.Env) : eApd i m env = (ownL env i).bind (kK ((m env).bind (kAp1 i))) := rfl
theorem q_ap1 (i : Nat) (d : D) (e : PL.Env) : kAp1 i (d, e) = (ownL e i).bind (kAp2 i d e) := rfl
theorem q_ap2 (i : Nat) (d : D) (e : PL.Env) (ds : List D) (h : ds.length < 16777216) : kAp2 i d e ds = some (.non, putL e i (ds ++ [d])) := if_pos h
def kPo2 (i : Nat) (k : Int) (e : PL.Env) (ds : List D) : Option (D × PL.Env) := (ixNat ds.length k).bind fun j => (ds[j]?).bind fun y => some (y, putL e i (ds.eraseIdx j))
def kPo1 (i : Nat) : D × PL.Env → Option (D × PL.Env)
  | (.int k, e) => (ownL e i).bind (kPo2 i k e)
  | _ => none
theorem q_pa (i : Nat) (m : EM) (env : PL.Env) : ePopAt i m env = (ownL env i).bind (kK ((m env).bind (kPo1 i))) := by
  show (ownL env i).bind _ = _
  congr 1
  funext x
  show (m env).bind _ = (m env).bind _
  congr 1
  funext ⟨d, e⟩
  cases d <;> rfl
theorem q_pa1 (i : Nat) (k : Int) (e : PL.Env) : kPo1 i (.int k, e) = (ownL e i).bind (kPo2 i k e) := rfl
theorem q_pa2 (i : Nat) (j : Nat) (e : PL.Env) (ds : List D) (h : j < ds.length) (hz : ds.length ≤ 16777216) : kPo2 i (j : Int) e ds = some (ds[j], putL e i (ds.eraseIdx j)) := by
  unfold kPo2 ixNat
  rw [if_pos hz, ixN_nat h, Option.bind_some, List.getElem?_eq_getElem h]; rfl
def kPp (i : Nat) (env : PL.Env) (ds : List D) : Option (D × PL.Env) := (ds[ds.length - 1]?).bind fun y => some (y, putL env i ds.dropLast)
theorem q_pp (i : Nat) (env : PL.Env) : ePop i env = (ownL env i).bind (kPp i env) := rfl
theorem q_pp1 (i : Nat) (env : PL.Env) (ds : List D) (d : D) : kPp i env (ds ++ [d]) = some (d, putL env i ds) := by
  unfold kPp
  simp
def kIn3 (i : Nat) (k : Int) (y : D) (e : PL.Env) (ds : List D) : Option (D × PL.Env) := if 0 ≤ k ∧ k.natAbs < 2 ^ 62 ∧ ds.length < 16777216 then some (.non, putL e i (ds.take k.toNat ++ [y] ++ ds.drop k.toNat)) else none
def kIn2 (i : Nat) (k : Int) : D × PL.Env → Option (D × PL.Env)
  | (y, e) => (ownL e i).bind (kIn3 i k y e)
def kIn1 (i : Nat) (n : EM) : D × PL.Env → Option (D × PL.Env)
  | (.int k, e) => (n e).bind (kIn2 i k)
  | _ => none
theorem q_in (i : Nat) (m n : EM) (env : PL.Env) : eIns i m n env = (ownL env i).bind (kK ((m env).bind (kIn1 i n))) := by
  show (ownL env i).bind _ = _
  congr 1
  funext x
  show (m env).bind _ = (m env).bind _
  congr 1
  funext ⟨d, e⟩
  cases d <;> rfl
theorem q_in1 (i : Nat) (n : EM) (k : Int) (e : PL.Env) : kIn1 i n (.int k, e) = (n e).bind (kIn2 i k) := rfl
theorem q_in2 (i : Nat) (k : Int) (y : D) (e : PL.Env) : kIn2 i k (y, e) = (ownL e i).bind (kIn3 i k y e) := rfl
theorem q_in3 (i : Nat) (k : Nat) (y : D) (e : PL.Env) (ds : List D) (h : k ≤ 16777216) (h2 : ds.length < 16777216) : kIn3 i (k : Int) y e ds = some (.non, putL e i (ds.take k ++ [y] ++ ds.drop k)) := by
  unfold kIn3
  rw [if_pos ⟨by omega, by omega, h2⟩, Int.toNat_natCast]
/-! statements -/
theorem q_nop (env : PL.Env) : sNop env = some (.nx, env) := rfl
def kSq (n : SM) : Fl × PL.Env → Option (Fl × PL.Env)
  | (.nx, e) => n e
  | (f, e) => some (f, e)
theorem q_sq (m n : SM) (env : PL.Env) : sSeq m n env = (m env).bind (kSq n) := by
  show (m env).bind _ = _
  congr 1
  funext ⟨f, e⟩
  cases f <;> rfl
theorem q_sq1 (n : SM) (e : PL.Env) : kSq n (.nx, e) = n e := rfl
theorem q_sq2 (n : SM) (b : Bool) (d : D) (e : PL.Env) : kSq n (.rt b d, e) = some (.rt b d, e) := rfl
theorem q_sq3 (n : SM) (e : PL.Env) : kSq n (.bk, e) = some (.bk, e) := rfl
theorem q_sq4 (n : SM) (e : PL.Env) : kSq n (.ct, e) = some (.ct, e) := rfl
def kDr : D × PL.Env → Fl × PL.Env
  | (_, e) => (.nx, e)
theorem q_dr (m : EM) (env : PL.Env) : sDrop m env = (m env).map kDr := by
  show (m env).bind _ = _
  cases m env <;> rfl
theorem q_dr1 (d : D) (e : PL.Env) : kDr (d, e) = (.nx, e) := rfl
def kRtF : D × PL.Env → Fl × PL.Env
  | (d, e) => (.rt true d, e)
theorem q_rF (m : EM) (env : PL.Env) : sRetF m env = (m env).map kRtF := by
  show (m env).bind _ = _
  cases m env <;> rfl
theorem q_rF1 (d : D) (e : PL.Env) : kRtF (d, e) = (.rt true d, e) := rfl
def kRt : D × PL.Env → Fl × PL.Env
  | (d, e) => (.rt (!isMutD d) d, e)
theorem q_rt (m : EM) (env : PL.Env) : sRet m env = (m env).map kRt := by
  show (m env).bind _ = _
  cases m env <;> rfl
theorem q_rt1 (d : D) (e : PL.Env) : kRt (d, e) = (.rt (!isMutD d) d, e) := rfl
theorem q_rN (env : PL.Env) : sRetN env = some (.rt true .non, env) := rfl
def kRO (i : Nat) (env : PL.Env) : Option PL.Slot → Option (Fl × PL.Env)
  | some (.own d) => some (.rt true d, env.set i .no)
  | some (.shr d) => some (.rt (!isMutD d) d, env)
  | _ => none
theorem q_rO (i : Nat) (env : PL.Env) : sRetO i env = kRO i env env[i]? := rfl
theorem q_rO1 (i : Nat) (env : PL.Env) (d : D) : kRO i env (some (.own d)) = some (.rt true d, env.set i .no) := rfl
theorem q_rO2 (i : Nat) (env : PL.Env) (d : D) : kRO i env (some (.shr d)) = some (.rt (!isMutD d) d, env) := rfl
theorem q_m1 : isMutD .non = false := rfl
theorem q_m2 (b : Bool) : isMutD (.bl b) = false := rfl
theorem q_m3 (i : Int) : isMutD (.int i) = false := rfl
theorem q_m4 (s : List Nat) : isMutD (.str s) = false := rfl
theorem q_m5 (ds : List D) : isMutD (.tup ds) = false := rfl
theorem q_m6 (ds : List D) : isMutD (.lst ds) = true := rfl
def kNx (e : PL.Env) : Fl × PL.Env := (.nx, e)
theorem q_Nx (e : PL.Env) : kNx e = (.nx, e) := rfl
def kAs (g : GM) : D × PL.Env → Option (Fl × PL.Env)
  | (d, e) => (g d e).map kNx
theorem q_as (m : EM) (g : GM) (env : PL.Env) : sAsg m g env = (m env).bind (kAs g) := congrArg (Option.bind _) (funext fun ⟨d, e⟩ => bm fun _ => rfl)
theorem q_as1 (g : GM) (d : D) (e : PL.Env) : kAs g (d, e) = (g d e).map kNx := rfl
def kOw (i : Nat) : D × PL.Env → Option (Fl × PL.Env)
  | (d, e) => (kSet (free e i) (e.set i (mkOwn d))).map kNx
theorem q_ow (m : EM) (i : Nat) (env : PL.Env) : sOwn m i env = (m env).bind (kOw i) := by
  show (m env).bind _ = _
  congr 1
  funext ⟨d, e⟩
  show (if free e i = true then _ else none) = (kSet (free e i) _).map kNx
  unfold kSet
  cases free e i <;> rfl
theorem q_ow1 (i : Nat) (d : D) (e : PL.Env) : kOw i (d, e) = (kSet (free e i) (e.set i (mkOwn d))).map kNx := rfl
theorem q_mo1 : mkOwn .non = .shr .non := rfl
theorem q_mo2 (b : Bool) : mkOwn (.bl b) = .shr (.bl b) := rfl
theorem q_mo3 (i : Int) : mkOwn (.int i) = .shr (.int i) := rfl
theorem q_mo4 (s : List Nat) : mkOwn (.str s) = .shr (.str s) := rfl
theorem q_mo5 (ds : List D) : mkOwn (.tup ds) = .shr (.tup ds) := rfl
theorem q_mo6 (ds : List D) : mkOwn (.lst ds) = .own (.lst ds) := rfl
theorem q_so1 (d : D) : slotOf true d = mkOwn d := rfl
theorem q_so2 (d : D) : slotOf false d = .shr d := rfl
def kP2b (i j : Nat) (o1 o2 : Bool) (d1 : D) : D × PL.Env → Option (Fl × PL.Env)
  | (d2, e) => (kSet (free e i && free e j && decide (i ≠ j)) ((e.set j (slotOf o2 d2)).set i (slotOf o1 d1))).map kNx
def kP2a (i j : Nat) (o1 : Bool) (y : OE) : D × PL.Env → Option (Fl × PL.Env)
  | (d1, e) => (y.2 e).bind (kP2b i j o1 y.1 d1)
theorem q_p2 (i j : Nat) (o1 : Bool) (m1 : EM) (y : OE) (env : PL.Env) : sPar2 i j (o1, m1) y env = (m1 env).bind (kP2a i j o1 y) := by
  show (m1 env).bind _ = _
  congr 1
  funext ⟨d, e⟩
  show (y.2 e).bind _ = (y.2 e).bind _
  congr 1
  funext ⟨d2, e2⟩
  show (if (free e2 i && free e2 j && decide (i ≠ j)) = true then _ else none) = (kSet (free e2 i && free e2 j && decide (i ≠ j)) _).map kNx
  unfold kSet
  cases free e2 i && free e2 j && decide (i ≠ j) <;> rfl
theorem q_p2a (i j : Nat) (o1 o2 : Bool) (m2 : EM) (d1 : D) (e : PL.Env) : kP2a i j o1 (o2, m2) (d1, e) = (m2 e).bind (kP2b i j o1 o2 d1) := rfl
theorem q_p2b (i j : Nat) (o1 o2 : Bool) (d1 d2 : D) (e : PL.Env) : kP2b i j o1 o2 d1 (d2, e) = (kSet (free e i && free e j && decide (i ≠ j)) ((e.set j (slotOf o2 d2)).set i (slotOf o1 d1))).map kNx := rfl
def kP3c (i j l : Nat) (o1 o2 o3 : Bool) (d1 d2 : D) : D × PL.Env → Option (Fl × PL.Env)
  | (d3, e) => (kSet (free e i && free e j && free e l && decide (i ≠ j) && decide (i ≠ l) && decide (j ≠ l)) (((e.set l (slotOf o3 d3)).set j (slotOf o2 d2)).set i (slotOf o1 d1))).map kNx
def kP3b (i j l : Nat) (o1 o2 : Bool) (z : OE) (d1 : D) : D × PL.Env → Option (Fl × PL.Env)
  | (d2, e) => (z.2 e).bind (kP3c i j l o1 o2 z.1 d1 d2)
def kP3a (i j l : Nat) (o1 : Bool) (y z : OE) : D × PL.Env → Option (Fl × PL.Env)
  | (d1, e) => (y.2 e).bind (kP3b i j l o1 y.1 z d1)
theorem q_p3 (i j l : Nat) (o1 : Bool) (m1 : EM) (y z : OE) (env : PL.Env) : sPar3 i j l (o1, m1) y z env = (m1 env).bind (kP3a i j l o1 y z) := by
  show (m1 env).bind _ = _
  congr 1
  funext ⟨d, e⟩
  show (y.2 e).bind _ = (y.2 e).bind _
  congr 1
  funext ⟨d2, e2⟩
  show (z.2 e2).bind _ = (z.2 e2).bind _
  congr 1
  funext ⟨d3, e3⟩
  show (if (free e3 i && free e3 j && free e3 l && decide (i ≠ j) && decide (i ≠ l) && decide (j ≠ l)) = true then _ else none) = (kSet (free e3 i && free e3 j && free e3 l && decide (i ≠ j) && decide (i ≠ l) && decide (j ≠ l)) _).map kNx
  unfold kSet
  cases free e3 i && free e3 j && free e3 l && decide (i ≠ j) && decide (i ≠ l) && decide (j ≠ l) <;> rfl
theorem q_p3a (i j l : Nat) (o1 o2 : Bool) (m2 : EM) (z : OE) (d1 : D) (e : PL.Env) : kP3a i j l o1 (o2, m2) z (d1, e) = (m2 e).bind (kP3b i j l o1 o2 z d1) := rfl
theorem q_p3b (i j l : Nat) (o1 o2 o3 : Bool) (m3 : EM) (d1 d2 : D) (e : PL.Env) : kP3b i j l o1 o2 (o3, m3) d1 (d2, e) = (m3 e).bind (kP3c i j l o1 o2 o3 d1 d2) := rfl
theorem q_p3c (i j l : Nat) (o1 o2 o3 : Bool) (d1 d2 d3 : D) (e : PL.Env) : kP3c i j l o1 o2 o3 d1 d2 (d3, e) = (kSet (free e i && free e j && free e l && decide (i ≠ j) && decide (i ≠ l) && decide (j ≠ l)) (((e.set l (slotOf o3 d3)).set j (slotOf o2 d2)).set i (slotOf o1 d1))).map kNx := rfl
def kFo (g : GM) (body : SM) : List D × PL.Env → Option (Fl × PL.Env)
  | (ds, e) => forGo g body ds e
theorem q_for (src : IM) (g : GM) (body : SM) (env : PL.Env) : sFor src g body env = (src env).bind (kFo g body) := rfl
theorem q_for1 (g : GM) (body : SM) (ds : List D) (e : PL.Env) : kFo g body (ds, e) = forGo g body ds e := rfl
def kFL2 (i : Nat) (ds : List D) : Fl × PL.Env → Option (Fl × PL.Env)
  | (.nx, e) => some (.nx, e.set i (.own (.lst ds)))
  | (.rt b d, e) => some (.rt b d, e)
  | _ => none
theorem q_wh (n : Nat) (t : TM) (body : SM) (env : PL.Env) : sWhile n t body env = whGo t body n env := rfl
theorem q_bk (env : PL.Env) : sBk env = some (.bk, env) := rfl
theorem q_ct (env : PL.Env) : sCt env = some (.ct, env) := rfl
/-! defs -/
def kP (fr : Bool) (k : Nat) : Fl × PL.Env → Option D
  | (f, e) => if k ≤ e.length then retOf fr f else none
theorem q_kP (fr : Bool) (k : Nat) (f : Fl) (e : PL.Env) : kP fr k (f, e) = if k ≤ e.length then retOf fr f else none := rfl
theorem outs_len : ∀ (k : Nat) (e : PL.Env), outsOf (List.replicate k false) e = if k ≤ e.length then some (List.replicate k .non) else none
  | 0, e => by rw [if_pos (Nat.zero_le _)]; rfl
  | k + 1, [] => by rw [if_neg (by simp)]; rfl
  | k + 1, s :: e => by
    have ih := outs_len k e
    rw [List.replicate_succ]
    show (some D.non).bind _ = _
    rw [Option.bind_some, ih]
    by_cases h : k ≤ e.length
    · rw [if_pos h, if_pos (by simp only [List.length_cons]; omega)]; rfl
    · rw [if_neg h, if_neg (by simp only [List.length_cons]; omega)]; rfl
theorem runP_eq {fr : Bool} {k n : Nat} {body : SM} {ds : List D} (h : ds.length = k) : runP fr k n body ds = (body (envOf (List.replicate k false) ds ++ List.replicate (n - ds.length) .no)).bind (kP fr k) := by
  unfold runP runFn
  rw [if_pos (by simpa using h)]
  show Option.map _ (Option.bind (body _) _) = Option.bind (body _) _
  cases body (envOf (List.replicate k false) ds ++ List.replicate (n - ds.length) .no) with
  | none => rfl
  | some r =>
    obtain ⟨f, e⟩ := r
    show Option.map _ ((retOf fr f).bind fun d => (outsOf (List.replicate k false) e).map _) = (if k ≤ e.length then retOf fr f else none)
    rw [outs_len]
    by_cases h : k ≤ e.length
    · rw [if_pos h, if_pos h]
      cases retOf fr f <;> rfl
    · rw [if_neg h, if_neg h]
      cases retOf fr f <;> rfl
theorem q_ro1 (fr : Bool) (d : D) : retOf fr (.rt true d) = some d := by
  show (if fr = true ∧ (true : Bool) = false then none else some d) = _
  rw [if_neg (by simp)]
theorem q_ro2 (b : Bool) (d : D) : retOf false (.rt b d) = some d := by
  show (if (false : Bool) = true ∧ b = false then none else some d) = _
  rw [if_neg (by simp)]
theorem q_ro3 (fr : Bool) : retOf fr .nx = some .non := rfl
def kF2 (bs : List Bool) (e : PL.Env) (d : D) : Option (D × List D) := (outsOf bs e).map (Prod.mk d)
def kF (fr : Bool) (bs : List Bool) : Fl × PL.Env → Option (D × List D)
  | (f, e) => (retOf fr f).bind (kF2 bs e)
theorem q_kF (fr : Bool) (bs : List Bool) (f : Fl) (e : PL.Env) : kF fr bs (f, e) = (retOf fr f).bind (kF2 bs e) := rfl
theorem q_kF2 (bs : List Bool) (e : PL.Env) (d : D) : kF2 bs e d = (outsOf bs e).map (Prod.mk d) := rfl
theorem q_os0 (e : PL.Env) : outsOf [] e = some [] := rfl
theorem q_os1 (bs : List Bool) (d : D) (e : PL.Env) : outsOf (true :: bs) (.iow d :: e) = (outsOf bs e).map (List.cons d) := rfl
theorem q_os2 (bs : List Bool) (s : PL.Slot) (e : PL.Env) : outsOf (false :: bs) (s :: e) = (outsOf bs e).map (List.cons .non) := rfl
end PL
end

section
set_option maxRecDepth 100000
/-! M3: what holds behind a run; rules for loops; typed lists. -/
namespace PL
open PySem L2
def Aft {α : Type} (x : Option α) (Q : α → Prop) : Prop := ∃ a, x = some a ∧ Q a
theorem aft_some {α : Type} (a : α) (Q : α → Prop) : Aft (some a) Q = Q a := by
  apply propext
  constructor
  · rintro ⟨b, h, q⟩; cases h; exact q
  · exact fun q => ⟨a, rfl, q⟩
theorem aft_bind {α β : Type} (x : Option α) (k : α → Option β) (Q : β → Prop) : Aft (x.bind k) Q = Aft x fun a => Aft (k a) Q := by
  cases x with
  | none =>
    apply propext
    constructor
    · rintro ⟨b, h, q⟩; cases h
    · rintro ⟨b, h, q⟩; cases h
  | some a => rw [Option.bind_some, aft_some]
theorem aft_map {α β : Type} (x : Option α) (f : α → β) (Q : β → Prop) : Aft (x.map f) Q = Aft x fun a => Q (f a) := by
  cases x with
  | none =>
    apply propext
    constructor
    · rintro ⟨b, h, q⟩; cases h
    · rintro ⟨b, h, q⟩; cases h
  | some a => rw [Option.map_some, aft_some, aft_some]
theorem Aft.mono {α : Type} {x : Option α} {P Q : α → Prop} (h : Aft x P) (w : ∀ a, P a → Q a) : Aft x Q := by
  obtain ⟨a, e, p⟩ := h
  exact ⟨a, e, w a p⟩
theorem aft_eq {α : Type} {x : Option α} {a : α} {Q : α → Prop} (h : x = some a) (q : Q a) : Aft x Q := ⟨a, h, q⟩
theorem of_aft {α : Type} {x : Option α} {a : α} (h : Aft x fun b => b = a) : x = some a := by
  obtain ⟨b, e, rfl⟩ := h; exact e
theorem aft_of {α : Type} {x : Option α} {a : α} (h : x = some a) : Aft x fun b => b = a := ⟨a, h, rfl⟩
theorem aft_an {b : Bool} {u : TM} {e : PL.Env} {Q : Bool × PL.Env → Prop} (v : Bool) (h1 : b = true → u e = some (v, e)) (h2 : b = false → v = false) (q : Q (v, e)) : Aft (kAn u (b, e)) Q := by
  cases b with
  | true => exact ⟨_, h1 rfl, q⟩
  | false => have := h2 rfl; subst this; exact ⟨_, rfl, q⟩
theorem aft_an2 {b : Bool} {u : TM} {e : PL.Env} {Q : Bool × PL.Env → Prop} (h1 : b = true → Aft (u e) Q) (h2 : b = false → Q (false, e)) : Aft (kAn u (b, e)) Q := by
  cases b with
  | true => exact h1 rfl
  | false => exact ⟨_, rfl, h2 rfl⟩
theorem aft_or2 {b : Bool} {u : TM} {e : PL.Env} {Q : Bool × PL.Env → Prop} (h1 : b = false → Aft (u e) Q) (h2 : b = true → Q (true, e)) : Aft (kOr u (b, e)) Q := by
  cases b with
  | false => exact h1 rfl
  | true => exact ⟨_, rfl, h2 rfl⟩
theorem aft_or {b : Bool} {u : TM} {e : PL.Env} {Q : Bool × PL.Env → Prop} (v : Bool) (h1 : b = false → u e = some (v, e)) (h2 : b = true → v = true) (q : Q (v, e)) : Aft (kOr u (b, e)) Q := by
  cases b with
  | false => exact ⟨_, h1 rfl, q⟩
  | true => have := h2 rfl; subst this; exact ⟨_, rfl, q⟩
theorem aft_if {α : Type} {b : Bool} {m n : PL.Env → Option α} {e : PL.Env} {Q : α → Prop} (h1 : b = true → Aft (m e) Q) (h2 : b = false → Aft (n e) Q) : Aft (kIf m n (b, e)) Q := by
  cases b with
  | true => exact h1 rfl
  | false => exact h2 rfl
def Nxt (I : PL.Env → Prop) (Q : Fl × PL.Env → Prop) : Fl × PL.Env → Prop
  | (.nx, e) => I e
  | (.ct, e) => I e
  | (.bk, e) => Q (.nx, e)
  | (.rt b v, e) => Q (.rt b v, e)
theorem q_n1 (I : PL.Env → Prop) (Q : Fl × PL.Env → Prop) (e : PL.Env) : Nxt I Q (.nx, e) = I e := rfl
theorem q_n2 (I : PL.Env → Prop) (Q : Fl × PL.Env → Prop) (e : PL.Env) : Nxt I Q (.ct, e) = I e := rfl
theorem q_n3 (I : PL.Env → Prop) (Q : Fl × PL.Env → Prop) (e : PL.Env) : Nxt I Q (.bk, e) = Q (.nx, e) := rfl
theorem q_n4 (I : PL.Env → Prop) (Q : Fl × PL.Env → Prop) (b : Bool) (v : D) (e : PL.Env) : Nxt I Q (.rt b v, e) = Q (.rt b v, e) := rfl
theorem aft_for {g : GM} {body : SM} {ds : List D} {env : PL.Env} {Q : Fl × PL.Env → Prop} (Inv : Nat → PL.Env → Prop) (h0 : Inv 0 env)
    (hs : ∀ i d e, ds[i]? = some d → Inv i e → Aft ((g d e).bind body) (Nxt (Inv (i + 1)) Q)) (hf : ∀ e, Inv ds.length e → Q (.nx, e)) : Aft (forGo g body ds env) Q := by
  suffices h : ∀ (es : List D) (i : Nat) (env : PL.Env), ds.drop i = es → i ≤ ds.length → Inv i env → Aft (forGo g body es env) Q by
    exact h ds 0 env (List.drop_zero) (Nat.zero_le _) h0
  intro es
  induction es with
  | nil =>
    intro i env hd hi hI
    have : i = ds.length := by have := congrArg List.length hd; rw [List.length_drop, List.length_nil] at this; omega
    exact ⟨_, rfl, hf _ (this ▸ hI)⟩
  | cons d es ih =>
    intro i env hd hi hI
    have hget : ds[i]? = some d := by
      have := congrArg (·[0]?) hd
      simpa using this
    have hlt : i < ds.length := (List.getElem?_eq_some_iff.mp hget).1
    obtain ⟨⟨f, e2⟩, h1, h2⟩ := hs i d env hget hI
    rw [Option.bind_eq_some_iff] at h1
    obtain ⟨e1, h3, h4⟩ := h1
    have hd2 : ds.drop (i + 1) = es := by rw [← List.drop_drop, hd]; rfl
    show Aft ((g d env).bind _) Q
    rw [h3, Option.bind_some]
    show Aft ((body e1).bind _) Q
    rw [h4, Option.bind_some]
    cases f with
    | nx => exact ih (i + 1) e2 hd2 hlt h2
    | ct => exact ih (i + 1) e2 hd2 hlt h2
    | bk => exact ⟨_, rfl, h2⟩
    | rt b v => exact ⟨_, rfl, h2⟩
/-- over a typed list -/
theorem aft_forT {α : Type} {f : α → D} {l : List α} {g : GM} {body : SM} {env : PL.Env} {Q : Fl × PL.Env → Prop} (Inv : Nat → PL.Env → Prop) (h0 : Inv 0 env)
    (hs : ∀ i a e, l[i]? = some a → Inv i e → Aft ((g (f a) e).bind body) (Nxt (Inv (i + 1)) Q)) (hf : ∀ e, Inv l.length e → Q (.nx, e)) : Aft (forGo g body (l.map f) env) Q := by
  refine aft_for Inv h0 (fun i d e hd hI => ?_) (by rw [List.length_map]; exact hf)
  rw [List.getElem?_map, Option.map_eq_some_iff] at hd
  obtain ⟨a, ha, rfl⟩ := hd
  exact hs i a e ha hI
/-- a state that goes along, folded -/
theorem aft_wh {t : TM} {body : SM} {n : Nat} {env : PL.Env} {Q : Fl × PL.Env → Prop} (Inv : Nat → PL.Env → Prop) (k : Nat) (hk : k < n) (h0 : Inv k env)
    (hs : ∀ k e, Inv k e → Aft (t e) fun r => if r.1 = true then Aft (body r.2) (Nxt (fun e' => ∃ k', k' < k ∧ Inv k' e') Q) else Q (.nx, r.2)) : Aft (whGo t body n env) Q := by
  induction n generalizing k env with
  | zero => omega
  | succ n ih =>
    obtain ⟨⟨b, e1⟩, h1, h2⟩ := hs k env h0
    show Aft ((t env).bind _) Q
    rw [h1, Option.bind_some]
    cases b with
    | false => exact ⟨_, rfl, h2⟩
    | true =>
      obtain ⟨⟨f, e2⟩, h3, h4⟩ := h2
      show Aft ((body e1).bind _) Q
      rw [h3, Option.bind_some]
      cases f with
      | nx => obtain ⟨k', hk', hI⟩ := h4; exact ih k' (by omega) hI
      | ct => obtain ⟨k', hk', hI⟩ := h4; exact ih k' (by omega) hI
      | bk => exact ⟨_, rfl, h4⟩
      | rt b v => exact ⟨_, rfl, h4⟩
def lcK (vs : List Nat) (m : EM) (env : PL.Env) (F : Bool → D → Prop) : Bool × PL.Env → Prop
  | (true, e) => Aft (m e) fun r => F true r.1 ∧ Aft (wipeE vs r.2) fun e' => e' = env
  | (false, e) => F false .non ∧ Aft (wipeE vs e) fun e' => e' = env
theorem q_lk1 (vs : List Nat) (m : EM) (env : PL.Env) (F : Bool → D → Prop) (e : PL.Env) : lcK vs m env F (true, e) = Aft (m e) fun r => F true r.1 ∧ Aft (wipeE vs r.2) fun e' => e' = env := rfl
theorem q_lk2 (vs : List Nat) (m : EM) (env : PL.Env) (F : Bool → D → Prop) (e : PL.Env) : lcK vs m env F (false, e) = (F false .non ∧ Aft (wipeE vs e) fun e' => e' = env) := rfl
/-- a comprehension that leaves the slots as they are -/
theorem aft_lc {α β : Type} {f : α → D} {h : β → D} {l : List α} {vs : List Nat} {g : GM} {t : TM} {m : EM} {env : PL.Env} {Q : List D × PL.Env → Prop} (F : α → Option β)
    (hs : ∀ a, a ∈ l → Aft ((g (f a) env).bind t) (lcK vs m env fun b d => (F a).isSome = b ∧ ∀ x, F a = some x → d = h x)) (hq : Q ((l.filterMap F).map h, env)) : Aft (lcGo vs g t m (l.map f) env) Q := by
  refine ⟨_, ?_, hq⟩
  clear hq
  induction l with
  | nil => rfl
  | cons a l ih =>
    have ih' := ih fun b hb => hs b (List.mem_cons_of_mem _ hb)
    obtain ⟨⟨b, e2⟩, h1, h2⟩ := hs a List.mem_cons_self
    rw [Option.bind_eq_some_iff] at h1
    obtain ⟨e1, h3, h4⟩ := h1
    cases b with
    | true =>
      obtain ⟨⟨d, e3⟩, h5, ⟨h6, h7⟩, e4, h8, rfl⟩ := h2
      cases hF : F a with
      | none => rw [hF] at h6; cases h6
      | some x =>
        have := h7 x hF
        simp only at this
        subst this
        rw [List.filterMap_cons_some hF]
        simp only at h8
        simp only [List.map_cons, lcGo, h3, h4, h5, h8, ih', Option.bind_some, if_true]
    | false =>
      obtain ⟨⟨h6, h7⟩, e4, h8, rfl⟩ := h2
      cases hF : F a with
      | none =>
        rw [List.filterMap_cons_none hF]
        simp only [List.map_cons, lcGo, h3, h4, h8, ih', Option.bind_some, Bool.false_eq_true, if_false]
      | some x => rw [hF] at h6; cases h6
def lmK (vs : List Nat) (m : EM) (env : PL.Env) (d : D) : Bool × PL.Env → Prop
  | (true, e) => Aft (m e) fun r => r.1 = d ∧ Aft (wipeE vs r.2) fun e' => e' = env
  | (false, _) => False
theorem q_lm1 (vs : List Nat) (m : EM) (env : PL.Env) (d : D) (e : PL.Env) : lmK vs m env d (true, e) = Aft (m e) fun r => r.1 = d ∧ Aft (wipeE vs r.2) fun e' => e' = env := rfl
theorem aft_lm {α β : Type} {f : α → D} {h : β → D} {l : List α} {vs : List Nat} {g : GM} {t : TM} {m : EM} {env : PL.Env} {Q : List D × PL.Env → Prop} (F : α → β)
    (hs : ∀ a, a ∈ l → Aft ((g (f a) env).bind t) (lmK vs m env (h (F a)))) (hq : Q ((l.map F).map h, env)) : Aft (lcGo vs g t m (l.map f) env) Q := by
  refine aft_lc (h := h) (fun a => some (F a)) (fun a ha => (hs a ha).mono fun r hr => ?_) (by rw [List.filterMap_eq_map']; exact hq)
  obtain ⟨b, e⟩ := r
  cases b with
  | true => exact Aft.mono hr fun r hr => ⟨⟨rfl, fun x hx => by cases hx; exact hr.1⟩, hr.2⟩
  | false => cases hr
def lfK (vs : List Nat) (m : EM) (env : PL.Env) (p : Bool) (d : D) : Bool × PL.Env → Prop
  | (true, e) => p = true ∧ Aft (m e) fun r => r.1 = d ∧ Aft (wipeE vs r.2) fun e' => e' = env
  | (false, e) => p = false ∧ Aft (wipeE vs e) fun e' => e' = env
theorem q_lf1 (vs : List Nat) (m : EM) (env : PL.Env) (p : Bool) (d : D) (e : PL.Env) : lfK vs m env p d (true, e) = (p = true ∧ Aft (m e) fun r => r.1 = d ∧ Aft (wipeE vs r.2) fun e' => e' = env) := rfl
theorem q_lf2 (vs : List Nat) (m : EM) (env : PL.Env) (p : Bool) (d : D) (e : PL.Env) : lfK vs m env p d (false, e) = (p = false ∧ Aft (wipeE vs e) fun e' => e' = env) := rfl
theorem aft_lf {α β : Type} {f : α → D} {h : β → D} {l : List α} {vs : List Nat} {g : GM} {t : TM} {m : EM} {env : PL.Env} {Q : List D × PL.Env → Prop} (p : α → Bool) (F : α → β)
    (hs : ∀ a, a ∈ l → Aft ((g (f a) env).bind t) (lfK vs m env (p a) (h (F a)))) (hq : Q (((l.filter p).map F).map h, env)) : Aft (lcGo vs g t m (l.map f) env) Q := by
  refine aft_lc (h := h) (fun a => if p a = true then some (F a) else none) (fun a ha => (hs a ha).mono fun r hr => ?_) ?_
  · obtain ⟨b, e⟩ := r
    cases b with
    | true =>
      obtain ⟨hp, hr⟩ := hr
      refine Aft.mono hr fun r hr => ⟨⟨by rw [if_pos hp]; rfl, fun x hx => ?_⟩, hr.2⟩
      rw [if_pos hp] at hx; cases hx; exact hr.1
    | false =>
      obtain ⟨hp, hr⟩ := hr
      have hn : ¬ p a = true := by rw [hp]; decide
      refine ⟨⟨by rw [if_neg hn]; rfl, fun x hx => ?_⟩, hr⟩
      rw [if_neg hn] at hx; cases hx
  · have : (l.filterMap fun a => if p a = true then some (F a) else none) = (l.filter p).map F := by
      rw [← List.filterMap_eq_map', List.filterMap_filter]
    rw [this]; exact hq
/-- a comprehension that goes on with a state -/
def liK (vs : List Nat) (m : EM) (Inv : PL.Env → Prop) (P : D → Prop) : Bool × PL.Env → Prop
  | (true, e) => Aft (m e) fun r => P r.1 ∧ Aft (wipeE vs r.2) Inv
  | (false, e) => Aft (wipeE vs e) Inv
theorem q_li1 (vs : List Nat) (m : EM) (Inv : PL.Env → Prop) (P : D → Prop) (e : PL.Env) : liK vs m Inv P (true, e) = Aft (m e) fun r => P r.1 ∧ Aft (wipeE vs r.2) Inv := rfl
theorem q_li2 (vs : List Nat) (m : EM) (Inv : PL.Env → Prop) (P : D → Prop) (e : PL.Env) : liK vs m Inv P (false, e) = Aft (wipeE vs e) Inv := rfl
/-- every turn gives an element -/
def leK (vs : List Nat) (m : EM) (Inv : PL.Env → Prop) (P : D → Prop) : Bool × PL.Env → Prop
  | (true, e) => Aft (m e) fun r => P r.1 ∧ Aft (wipeE vs r.2) Inv
  | (false, _) => False
theorem q_le1 (vs : List Nat) (m : EM) (Inv : PL.Env → Prop) (P : D → Prop) (e : PL.Env) : leK vs m Inv P (true, e) = Aft (m e) fun r => P r.1 ∧ Aft (wipeE vs r.2) Inv := rfl
theorem aft_le {ds : List D} {vs : List Nat} {g : GM} {t : TM} {m : EM} {env : PL.Env} {Q : List D × PL.Env → Prop} (Inv : List D → PL.Env → Prop) (h0 : Inv [] env)
    (hs : ∀ i d ys e, ds[i]? = some d → ys.length = i → Inv ys e → Aft ((g d e).bind t) (fun r => r.1 = true ∧ Aft (m r.2) fun r => Aft (wipeE vs r.2) (Inv (ys ++ [r.1])))) (hq : ∀ ys e, ys.length = ds.length → Inv ys e → Q (ys, e)) : Aft (lcGo vs g t m ds env) Q := by
  suffices h : ∀ (es : List D) (i : Nat) (ys : List D) (env : PL.Env), ds.drop i = es → i ≤ ds.length → ys.length = i → Inv ys env → ∃ zs e, lcGo vs g t m es env = some (zs, e) ∧ (ys ++ zs).length = ds.length ∧ Inv (ys ++ zs) e by
    obtain ⟨zs, e, h1, h2, h3⟩ := h ds 0 [] env List.drop_zero (Nat.zero_le _) rfl h0
    exact ⟨_, h1, hq _ _ (by simpa using h2) (by simpa using h3)⟩
  intro es
  induction es with
  | nil =>
    intro i ys env hd hi hl hI
    have : i = ds.length := by have := congrArg List.length hd; rw [List.length_drop, List.length_nil] at this; omega
    exact ⟨[], env, rfl, by rw [List.append_nil]; omega, by rw [List.append_nil]; exact hI⟩
  | cons d es ih =>
    intro i ys env hd hi hl hI
    have hget : ds[i]? = some d := by
      have := congrArg (·[0]?) hd
      simpa using this
    have hlt : i < ds.length := (List.getElem?_eq_some_iff.mp hget).1
    obtain ⟨⟨b, e2⟩, h1, hb, ⟨y, e3⟩, h2, e4, h3, h4⟩ := hs i d ys env hget hl hI
    simp only at hb h2 h3 h4
    subst hb
    rw [Option.bind_eq_some_iff] at h1
    obtain ⟨e1, h5, h6⟩ := h1
    have hd2 : ds.drop (i + 1) = es := by rw [← List.drop_drop, hd]; rfl
    obtain ⟨zs, e, h7, h8, h9⟩ := ih (i + 1) (ys ++ [y]) e4 hd2 hlt (by rw [List.length_append]; simp only [List.length_cons, List.length_nil]; omega) h4
    refine ⟨y :: zs, e, by simp only [lcGo, h5, h6, h2, h3, h7, Option.bind_some, if_true], ?_, ?_⟩
    · rw [List.append_assoc] at h8; exact h8
    · rw [List.append_assoc] at h9; exact h9
theorem aft_cm {α β : Type} {f : α → D} {h : β → D} {l : List α} {vs : List Nat} {g : GM} {t : TM} {m : EM} {e e' : PL.Env} {Q : D × PL.Env → Prop} (F : α → β) (hz : l.length ≤ 16777216) (hw : wipeE vs e = some e')
    (hs : ∀ a, a ∈ l → Aft ((g (f a) e').bind t) (lmK vs m e' (h (F a)))) (hq : Q (.lst ((l.map F).map h), e')) : Aft (kLc vs g t m (l.map f, e)) Q := by
  rw [q_Lc1 _ _ _ _ _ _ (by rw [List.length_map]; exact hz), hw, Option.bind_some, q_Lc2, aft_map]
  exact aft_lm F hs hq
theorem aft_cf {α β : Type} {f : α → D} {h : β → D} {l : List α} {vs : List Nat} {g : GM} {t : TM} {m : EM} {e e' : PL.Env} {Q : D × PL.Env → Prop} (p : α → Bool) (F : α → β) (hz : l.length ≤ 16777216) (hw : wipeE vs e = some e')
    (hs : ∀ a, a ∈ l → Aft ((g (f a) e').bind t) (lfK vs m e' (p a) (h (F a)))) (hq : Q (.lst (((l.filter p).map F).map h), e')) : Aft (kLc vs g t m (l.map f, e)) Q := by
  rw [q_Lc1 _ _ _ _ _ _ (by rw [List.length_map]; exact hz), hw, Option.bind_some, q_Lc2, aft_map]
  exact aft_lf p F hs hq
theorem aft_ce {ds : List D} {vs : List Nat} {g : GM} {t : TM} {m : EM} {e e' : PL.Env} {Q : D × PL.Env → Prop} (Inv : List D → PL.Env → Prop) (hz : ds.length ≤ 16777216) (hw : wipeE vs e = some e') (h0 : Inv [] e')
    (hs : ∀ i d ys e, ds[i]? = some d → ys.length = i → Inv ys e → Aft ((g d e).bind t) (fun r => r.1 = true ∧ Aft (m r.2) fun r => Aft (wipeE vs r.2) (Inv (ys ++ [r.1])))) (hq : ∀ ys e, ys.length = ds.length → Inv ys e → Q (.lst ys, e)) : Aft (kLc vs g t m (ds, e)) Q := by
  rw [q_Lc1 _ _ _ _ _ _ hz, hw, Option.bind_some, q_Lc2, aft_map]
  exact aft_le Inv h0 hs hq
/-! typed lists -/
def nI (n : Nat) : D := .int n
theorem rng_nI (n : Nat) : rngD 0 n = (List.range n).map nI := by
  rw [rngD_eq]
  apply List.map_congr_left
  intro i _
  show D.int (0 + (i : Int)) = D.int i
  rw [Int.zero_add]
def enP {α : Type} (f : α → D) (p : α × Nat) : D := .tup [.int p.2, f p.1]
theorem enD_map {α : Type} (f : α → D) : ∀ (l : List α) (k : Nat), enD k (l.map f) = (l.zipIdx k).map (enP f)
  | [], _ => rfl
  | a :: l, k => by
    rw [List.map_cons, enD, List.zipIdx_cons, List.map_cons, ← enD_map f l (k + 1)]; rfl
theorem enD_map0 {α : Type} (f : α → D) (l : List α) : enD 0 (l.map f) = l.zipIdx.map (enP f) := enD_map f l 0
def zpP {α β : Type} (f : α → D) (g : β → D) (p : α × β) : D := .tup [f p.1, g p.2]
theorem zpD_map {α β : Type} (f : α → D) (g : β → D) : ∀ (l : List α) (r : List β), zpD (l.map f) (r.map g) = (l.zip r).map (zpP f g)
  | [], _ => by simp [zpD]
  | _ :: _, [] => by simp [zpD]
  | a :: l, b :: r => by
    rw [List.map_cons, List.map_cons, zpD, zpD_map f g l r]; rfl
def chD (c : Nat) : D := .str [c]
theorem chars_map (s : List Nat) : chars s = s.map chD := rfl
/-- data that may be compared -/
structure Emb {α : Type} [DecidableEq α] (f : α → D) : Prop where
  eq : ∀ a b, deq (f a) (f b) = decide (a = b)
  ok : ∀ a, okD (f a) 60 = true
theorem okD_mono : ∀ (d : D) (n m : Nat), n ≤ m → okD d n = true → okD d m = true := by
  intro d
  refine D.rec (motive_1 := fun d => ∀ n m, n ≤ m → okD d n = true → okD d m = true) (motive_2 := fun ds => ∀ n m, n ≤ m → okDs ds n = true → okDs ds m = true) (motive_3 := fun _ => True) (motive_4 := fun _ => True)
    ?_ ?_ ?_ ?_ ?_ ?_ ?_ ?_ ?_ ?_ ?_ ?_ ?_ d
  · intros; rfl
  · intros; rfl
  · intros; rfl
  · intro s n m _ h; exact h
  · intro ds ih n m hnm h
    rw [okD, Bool.and_eq_true, decide_eq_true_eq] at h ⊢
    exact ⟨by omega, ih (n - 1) (m - 1) (by omega) h.2⟩
  · intro ds ih n m hnm h
    rw [okD, Bool.and_eq_true, decide_eq_true_eq] at h ⊢
    exact ⟨by omega, ih (n - 1) (m - 1) (by omega) h.2⟩
  · intro kvs _ n m _ h; cases h
  · intro v n m _ h; cases h
  · intros; rfl
  · intro d ds h1 h2 n m hnm h
    rw [okDs, Bool.and_eq_true] at h ⊢
    exact ⟨h1 n m hnm h.1, h2 n m hnm h.2⟩
  · trivial
  · intros; trivial
  · intros; trivial
theorem okDs_map {α : Type} {f : α → D} {n : Nat} (h : ∀ a, okD (f a) n = true) : ∀ l : List α, okDs (l.map f) n = true
  | [] => rfl
  | a :: l => by rw [List.map_cons, okDs, h a, okDs_map h l]; rfl
section
variable {α : Type} [DecidableEq α] {f : α → D} (E : Emb f)
include E
theorem Emb.ok64 (a : α) (n : Nat) (h : 60 ≤ n) : okD (f a) n = true := okD_mono _ _ _ h (E.ok a)
theorem Emb.any (a : α) (l : List α) : ((l.map f).any fun z => deq z (f a)) = decide (a ∈ l) := by
  induction l with
  | nil => simp
  | cons b l ih =>
    rw [List.map_cons, List.any_cons, ih, E.eq]
    by_cases h : b = a
    · subst h; simp
    · simp [h, Ne.symm h]
theorem Emb.dEq (a b : α) : dEq [f a, f b] = some (.bl (decide (a = b))) := by
  show (if _ then _ else _) = _
  rw [if_pos (by rw [E.ok64 a 64 (by omega), E.ok64 b 64 (by omega)]; simp), E.eq]
theorem Emb.dNe (a b : α) : dNe [f a, f b] = some (.bl (decide (a ≠ b))) := by
  show (if _ then _ else _) = _
  rw [if_pos (by rw [E.ok64 a 64 (by omega), E.ok64 b 64 (by omega)]; simp), E.eq]
  simp
theorem Emb.inT (a : α) (l : List α) : dIn [f a, .tup (l.map f)] = some (.bl (decide (a ∈ l))) := by
  show Option.map D.bl (inD (f a) (.tup (l.map f))) = _
  have h : (okD (f a) 64 && decide (0 < 64) && okDs (l.map f) 63) = true := by
    rw [E.ok64 a 64 (by omega), okDs_map fun a => E.ok64 a 63 (by omega)]; rfl
  have : inD (f a) (.tup (l.map f)) = if (okD (f a) 64 && decide (0 < 64) && okDs (l.map f) 63) = true then some ((l.map f).any fun z => deq z (f a)) else none := by
    cases f a <;> rfl
  rw [this, if_pos h, E.any]; rfl
theorem Emb.inL (a : α) (l : List α) : dIn [f a, .lst (l.map f)] = some (.bl (decide (a ∈ l))) := by
  show Option.map D.bl (inD (f a) (.lst (l.map f))) = _
  have h : (okD (f a) 64 && decide (0 < 64) && okDs (l.map f) 63) = true := by
    rw [E.ok64 a 64 (by omega), okDs_map fun a => E.ok64 a 63 (by omega)]; rfl
  have : inD (f a) (.lst (l.map f)) = if (okD (f a) 64 && decide (0 < 64) && okDs (l.map f) 63) = true then some ((l.map f).any fun z => deq z (f a)) else none := by
    cases f a <;> rfl
  rw [this, if_pos h, E.any]; rfl
theorem Emb.ninT (a : α) (l : List α) : dNotIn [f a, .tup (l.map f)] = some (.bl (decide (a ∉ l))) := by
  have h := E.inT a l
  have h2 : dIn [f a, .tup (l.map f)] = (inD (f a) (.tup (l.map f))).map D.bl := rfl
  show Option.map _ (inD (f a) (.tup (l.map f))) = _
  rw [h2] at h
  cases e : inD (f a) (.tup (l.map f)) with
  | none => rw [e] at h; cases h
  | some b =>
    rw [e] at h
    simp only [Option.map_some, Option.some.injEq, D.bl.injEq] at h ⊢
    rw [h]; simp
theorem Emb.ninL (a : α) (l : List α) : dNotIn [f a, .lst (l.map f)] = some (.bl (decide (a ∉ l))) := by
  have h := E.inL a l
  have h2 : dIn [f a, .lst (l.map f)] = (inD (f a) (.lst (l.map f))).map D.bl := rfl
  show Option.map _ (inD (f a) (.lst (l.map f))) = _
  rw [h2] at h
  cases e : inD (f a) (.lst (l.map f)) with
  | none => rw [e] at h; cases h
  | some b =>
    rw [e] at h
    simp only [Option.map_some, Option.some.injEq, D.bl.injEq] at h ⊢
    rw [h]; simp
end
/-- lists of comparable data, no deeper than k -/
structure EmbN {α : Type} [DecidableEq α] (f : α → D) (k : Nat) : Prop where
  eq : ∀ a b, deq (f a) (f b) = decide (a = b)
  ok : ∀ a, okD (f a) k = true
theorem EmbN.emb {α : Type} [DecidableEq α] {f : α → D} {k : Nat} (h : EmbN f k) (hk : k ≤ 60) : Emb f := ⟨h.eq, fun a => okD_mono _ _ _ hk (h.ok a)⟩
def tI {α : Type} (f : α → D) (l : List α) : D := .tup (l.map f)
def lI {α : Type} (f : α → D) (l : List α) : D := .lst (l.map f)
theorem EmbN.deqL {α : Type} [DecidableEq α] {f : α → D} {k : Nat} (E : EmbN f k) : ∀ l r : List α, PL.deqL (l.map f) (r.map f) = decide (l = r)
  | [], [] => rfl
  | [], _ :: _ => rfl
  | _ :: _, [] => rfl
  | a :: l, b :: r => by
    rw [List.map_cons, List.map_cons, PL.deqL, E.deqL l r, E.eq]
    by_cases h : a = b <;> by_cases h2 : l = r <;> simp [h, h2]
theorem EmbN.tI {α : Type} [DecidableEq α] {f : α → D} {k : Nat} (h : EmbN f k) : EmbN (tI f) (k + 1) :=
  ⟨fun a b => by show deq (.tup _) (.tup _) = _; rw [deq, h.deqL], fun l => by
    show okD (.tup _) (k + 1) = true
    rw [okD, Nat.add_sub_cancel, okDs_map h.ok]; simp⟩
theorem EmbN.lI {α : Type} [DecidableEq α] {f : α → D} {k : Nat} (h : EmbN f k) : EmbN (lI f) (k + 1) :=
  ⟨fun a b => by show deq (.lst _) (.lst _) = _; rw [deq, h.deqL], fun l => by
    show okD (.lst _) (k + 1) = true
    rw [okD, Nat.add_sub_cancel, okDs_map h.ok]; simp⟩
theorem emb_nI : EmbN nI 0 := ⟨fun a b => by
  show deq (.int a) (.int b) = _
  rw [deq]
  by_cases h : a = b
  · subst h; simp
  · have : ¬ ((a : Int) = b) := by omega
    simp [h, this], fun _ => rfl⟩
theorem emb_int : EmbN D.int 0 := ⟨fun a b => by
  rw [deq]
  by_cases h : a = b <;> simp [h], fun _ => rfl⟩
/-- a card: true for a notched hole -/
def sg (b : Bool) : Nat := if b = true then 118 else 111
def cD (c : List Bool) : D := .str (c.map sg)
theorem sg_inj {a b : Bool} : sg a = sg b ↔ a = b := by cases a <;> cases b <;> decide
theorem cD_map_inj {a b : List Bool} : a.map sg = b.map sg ↔ a = b := by
  constructor
  · intro h
    induction a generalizing b with
    | nil => cases b with
      | nil => rfl
      | cons _ _ => cases h
    | cons x a ih => cases b with
      | nil => cases h
      | cons y b =>
        rw [List.map_cons, List.map_cons, List.cons.injEq] at h
        rw [sg_inj.mp h.1, ih h.2]
  · rintro rfl; rfl
theorem emb_cD : EmbN cD 0 := ⟨fun a b => by
  show deq (.str _) (.str _) = _
  rw [deq]
  by_cases h : a = b
  · subst h; simp
  · have : ¬ (a.map sg = b.map sg) := fun e => h (cD_map_inj.mp e)
    simp [h, this], fun a => by
  show (a.map sg).all _ = true
  rw [List.all_eq_true]
  intro x hx
  rw [List.mem_map] at hx
  obtain ⟨b, _, rfl⟩ := hx
  cases b <;> decide⟩
end PL
end

section
set_option maxRecDepth 100000
/-! M4: operations on data, by constructors. -/
namespace PL
open PySem L2
theorem q_addI (a b : Int) : dAdd [.int a, .int b] = some (.int (a + b)) := rfl
theorem q_subI (a b : Int) : dSub [.int a, .int b] = some (.int (a - b)) := rfl
theorem q_mulI1 (a b : Int) (h : PL.small64 a = true) : dMul [.int a, .int b] = some (.int (a * b)) := if_pos (by rw [h]; rfl)
theorem q_mulI2 (a b : Int) (h : PL.small64 b = true) : dMul [.int a, .int b] = some (.int (a * b)) := if_pos (by rw [h, Bool.or_true])
theorem q_s64 (n : Nat) : PL.small64 (@OfNat.ofNat Int n instOfNat) = decide (n < 18446744073709551616) := rfl
theorem q_s64n (n : Nat) : PL.small64 (n : Int) = decide (n < 18446744073709551616) := by unfold PL.small64; rw [Int.natAbs_natCast]
theorem q_sm (n : Nat) : smallI (@OfNat.ofNat Int n instOfNat) = decide (n < 4611686018427387904) := rfl
theorem q_smn (n : Nat) : smallI (n : Int) = decide (n < 4611686018427387904) := by unfold smallI; rw [Int.natAbs_natCast]
theorem q_fdI (a b : Int) (h : 0 < b) (h2 : b.natAbs < 1073741824) : dFdiv [.int a, .int b] = some (.int (a / b)) := if_pos ⟨h, h2⟩
theorem q_mdI (a b : Int) (h : 0 < b) : dMod [.int a, .int b] = some (.int (a % b)) := if_pos h
theorem q_negI (a : Int) : dNeg [.int a] = some (.int (-a)) := rfl
theorem q_absI (a : Int) : dAbs [.int a] = some (.int (if a < 0 then -a else a)) := rfl
theorem q_intI (a : Int) : dInt [.int a] = some (.int a) := rfl
theorem q_intB (b : Bool) : dInt [.bl b] = some (.int (if b then 1 else 0)) := rfl
theorem q_maxI (a b : Int) : dMax [.int a, .int b] = some (.int (max a b)) := by show some (D.int _) = _; congr 2; rw [Int.max_def]; split <;> split <;> omega
theorem q_minI (a b : Int) : dMin [.int a, .int b] = some (.int (min a b)) := by show some (D.int _) = _; congr 2; rw [Int.min_def]; split <;> split <;> omega
theorem q_dmI (a b : Int) (h : 0 < b) (h2 : b.natAbs < 1073741824) : dDivmod [.int a, .int b] = some (.tup [.int (a / b), .int (a % b)]) := if_pos ⟨h, h2⟩
theorem q_ltI (a b : Int) : dLt [.int a, .int b] = some (.bl (decide (a < b))) := rfl
theorem q_leI (a b : Int) : dLe [.int a, .int b] = some (.bl (decide (a ≤ b))) := rfl
theorem q_gtI (a b : Int) : dGt [.int a, .int b] = some (.bl (decide (b < a))) := rfl
theorem q_geI (a b : Int) : dGe [.int a, .int b] = some (.bl (decide (b ≤ a))) := rfl
theorem q_ltS (a b : List Nat) : dLt [.str a, .str b] = some (.bl (decide (a < b))) := rfl
theorem q_leS (a b : List Nat) : dLe [.str a, .str b] = some (.bl (!decide (b < a))) := rfl
theorem q_gtS (a b : List Nat) : dGt [.str a, .str b] = some (.bl (decide (b < a))) := rfl
theorem q_geS (a b : List Nat) : dGe [.str a, .str b] = some (.bl (!decide (a < b))) := rfl
theorem q_eqI (a b : Int) : dEq [.int a, .int b] = some (.bl (decide (a = b))) := rfl
theorem q_neI (a b : Int) : dNe [.int a, .int b] = some (.bl (decide (a ≠ b))) := by show some (D.bl (!(a == b))) = _; by_cases h : a = b <;> simp [h]
theorem q_eqS (a b : List Nat) : dEq [.str a, .str b] = some (.bl (decide (a = b))) := by show some (D.bl (a == b)) = _; by_cases h : a = b <;> simp [h]
theorem q_neS (a b : List Nat) : dNe [.str a, .str b] = some (.bl (decide (a ≠ b))) := by show some (D.bl (!(a == b))) = _; by_cases h : a = b <;> simp [h]
theorem q_eqB (a b : Bool) : dEq [.bl a, .bl b] = some (.bl (decide (a = b))) := by cases a <;> cases b <;> rfl
theorem q_neB (a b : Bool) : dNe [.bl a, .bl b] = some (.bl (decide (a ≠ b))) := by cases a <;> cases b <;> rfl
theorem q_isN_int  : dIsi [.non, .opq (.ty "int")] = some (.bl false) := rfl
theorem q_isN_bool  : dIsi [.non, .opq (.ty "bool")] = some (.bl false) := rfl
theorem q_isN_str  : dIsi [.non, .opq (.ty "str")] = some (.bl false) := rfl
theorem q_isN_tuple  : dIsi [.non, .opq (.ty "tuple")] = some (.bl false) := rfl
theorem q_isN_list  : dIsi [.non, .opq (.ty "list")] = some (.bl false) := rfl
theorem q_isNN  : dIs [.non, .non] = some (.bl true) := rfl
theorem q_inNN  : dIsNot [.non, .non] = some (.bl false) := rfl
theorem q_isB_int (b : Bool) : dIsi [.bl b, .opq (.ty "int")] = some (.bl true) := rfl
theorem q_isB_bool (b : Bool) : dIsi [.bl b, .opq (.ty "bool")] = some (.bl true) := rfl
theorem q_isB_str (b : Bool) : dIsi [.bl b, .opq (.ty "str")] = some (.bl false) := rfl
theorem q_isB_tuple (b : Bool) : dIsi [.bl b, .opq (.ty "tuple")] = some (.bl false) := rfl
theorem q_isB_list (b : Bool) : dIsi [.bl b, .opq (.ty "list")] = some (.bl false) := rfl
theorem q_isNB (b : Bool) : dIs [.bl b, .non] = some (.bl false) := rfl
theorem q_inNB (b : Bool) : dIsNot [.bl b, .non] = some (.bl true) := rfl
theorem q_isBB (a b : Bool) : dIs [.bl a, .bl b] = some (.bl (a == b)) := rfl
theorem q_isI_int (i : Int) : dIsi [.int i, .opq (.ty "int")] = some (.bl true) := rfl
theorem q_isI_bool (i : Int) : dIsi [.int i, .opq (.ty "bool")] = some (.bl false) := rfl
theorem q_isI_str (i : Int) : dIsi [.int i, .opq (.ty "str")] = some (.bl false) := rfl
theorem q_isI_tuple (i : Int) : dIsi [.int i, .opq (.ty "tuple")] = some (.bl false) := rfl
theorem q_isI_list (i : Int) : dIsi [.int i, .opq (.ty "list")] = some (.bl false) := rfl
theorem q_isNI (i : Int) : dIs [.int i, .non] = some (.bl false) := rfl
theorem q_inNI (i : Int) : dIsNot [.int i, .non] = some (.bl true) := rfl
theorem q_isBI (i : Int) (a : Bool) : dIs [.int i, .bl a] = some (.bl false) := rfl
theorem q_isS_int (s : List Nat) : dIsi [.str s, .opq (.ty "int")] = some (.bl false) := rfl
theorem q_isS_bool (s : List Nat) : dIsi [.str s, .opq (.ty "bool")] = some (.bl false) := rfl
theorem q_isS_str (s : List Nat) : dIsi [.str s, .opq (.ty "str")] = some (.bl true) := rfl
theorem q_isS_tuple (s : List Nat) : dIsi [.str s, .opq (.ty "tuple")] = some (.bl false) := rfl
theorem q_isS_list (s : List Nat) : dIsi [.str s, .opq (.ty "list")] = some (.bl false) := rfl
theorem q_isNS (s : List Nat) : dIs [.str s, .non] = some (.bl false) := rfl
theorem q_inNS (s : List Nat) : dIsNot [.str s, .non] = some (.bl true) := rfl
theorem q_isBS (s : List Nat) (a : Bool) : dIs [.str s, .bl a] = some (.bl false) := rfl
theorem q_isT_int (ds : List D) : dIsi [.tup ds, .opq (.ty "int")] = some (.bl false) := rfl
theorem q_isT_bool (ds : List D) : dIsi [.tup ds, .opq (.ty "bool")] = some (.bl false) := rfl
theorem q_isT_str (ds : List D) : dIsi [.tup ds, .opq (.ty "str")] = some (.bl false) := rfl
theorem q_isT_tuple (ds : List D) : dIsi [.tup ds, .opq (.ty "tuple")] = some (.bl true) := rfl
theorem q_isT_list (ds : List D) : dIsi [.tup ds, .opq (.ty "list")] = some (.bl false) := rfl
theorem q_isNT (ds : List D) : dIs [.tup ds, .non] = some (.bl false) := rfl
theorem q_inNT (ds : List D) : dIsNot [.tup ds, .non] = some (.bl true) := rfl
theorem q_isBT (ds : List D) (a : Bool) : dIs [.tup ds, .bl a] = some (.bl false) := rfl
theorem q_lenT (ds : List D) : dLen [.tup ds] = some (.int (ds.length : Nat)) := rfl
theorem q_isL_int (ds : List D) : dIsi [.lst ds, .opq (.ty "int")] = some (.bl false) := rfl
theorem q_isL_bool (ds : List D) : dIsi [.lst ds, .opq (.ty "bool")] = some (.bl false) := rfl
theorem q_isL_str (ds : List D) : dIsi [.lst ds, .opq (.ty "str")] = some (.bl false) := rfl
theorem q_isL_tuple (ds : List D) : dIsi [.lst ds, .opq (.ty "tuple")] = some (.bl false) := rfl
theorem q_isL_list (ds : List D) : dIsi [.lst ds, .opq (.ty "list")] = some (.bl true) := rfl
theorem q_isNL (ds : List D) : dIs [.lst ds, .non] = some (.bl false) := rfl
theorem q_inNL (ds : List D) : dIsNot [.lst ds, .non] = some (.bl true) := rfl
theorem q_isBL (ds : List D) (a : Bool) : dIs [.lst ds, .bl a] = some (.bl false) := rfl
theorem q_lenL (ds : List D) : dLen [.lst ds] = some (.int (ds.length : Nat)) := rfl
theorem q_isBN (a : Bool) : dIs [.non, .bl a] = some (.bl false) := by cases a <;> rfl
theorem q_lnS (s : List Nat) (h : s.length ≤ 16777216) : dLen [.str s] = some (.int (s.length : Nat)) := if_pos h
theorem q_trN : truth .non = some false := rfl
theorem q_trB (b : Bool) : truth (.bl b) = some b := rfl
theorem q_trI (i : Int) : truth (.int i) = some (decide (i ≠ 0)) := by show some (i != 0) = _; by_cases h : i = 0 <;> simp [h]
theorem q_trT (ds : List D) : truth (.tup ds) = some (!ds.isEmpty) := rfl
theorem q_trL (ds : List D) : truth (.lst ds) = some (!ds.isEmpty) := rfl
theorem q_trS (s : List Nat) (h : s.length ≤ 16777216) : truth (.str s) = some (!s.isEmpty) := if_pos h
theorem q_tupL (ds : List D) : dTup [.lst ds] = some (.tup ds) := rfl
theorem q_tupT (ds : List D) : dTup [.tup ds] = some (.tup ds) := rfl
theorem q_lstL (ds : List D) : dLst [.lst ds] = some (.lst ds) := rfl
theorem q_lstT (ds : List D) : dLst [.tup ds] = some (.lst ds) := rfl
theorem q_addT (a b : List D) (h : a.length + b.length ≤ 16777216) : dAdd [.tup a, .tup b] = some (.tup (a ++ b)) := if_pos h
theorem q_addL (a b : List D) (h : a.length + b.length ≤ 16777216) : dAdd [.lst a, .lst b] = some (.lst (a ++ b)) := if_pos h
theorem q_addS (a b : List Nat) (h : a.length + b.length ≤ 16777216) : dAdd [.str a, .str b] = some (.str (a ++ b)) := if_pos h
theorem q_ixT (ds : List D) (i : Int) : dIx [.tup ds, .int i] = atI ds i := rfl
theorem q_ixL (ds : List D) (i : Int) : dIx [.lst ds, .int i] = atI ds i := rfl
theorem q_ixS (s : List Nat) (i : Int) (h : s.length ≤ 16777216) : dIx [.str s, .int i] = (atI s i).map chD := if_pos h
theorem q_chD (c : Nat) : chD c = .str [c] := rfl
theorem q_at0 {α : Type} (a : α) (l : List α) : atI (a :: l) 0 = some a := by unfold atI ixN; simp
theorem q_at1 {α : Type} (a b : α) (l : List α) : atI (a :: b :: l) 1 = some b := by
  unfold atI ixN; simp only [List.length_cons]; rw [if_pos (by omega), if_pos (by omega)]; rfl
theorem q_at2 {α : Type} (a b c : α) (l : List α) : atI (a :: b :: c :: l) 2 = some c := by
  unfold atI ixN; simp only [List.length_cons]; rw [if_pos (by omega), if_pos (by omega)]; rfl
theorem q_atN {α : Type} (l : List α) (t : Nat) (h : t < l.length) : atI l (t : Int) = some l[t] := atI_lt h
theorem at_map {α : Type} (f : α → D) (l : List α) (i : Int) : atI (l.map f) i = (atI l i).map f := atI_map f l i
theorem at_neg {α : Type} (l : List α) (a : α) : atI (l ++ [a]) (-1) = some a := by
  unfold atI ixN
  rw [List.length_append]
  simp only [List.length_cons, List.length_nil]
  rw [if_neg (by omega), if_pos (by omega), Option.bind_some]
  have : ((-1 : Int) + ((l.length + (0 + 1) : Nat) : Int)).toNat = l.length := by omega
  rw [this]; simp
theorem q_slT (ds : List D) (l h : Option Int) : dSl (.tup ds) l h = some (.tup (cutL ds l h)) := rfl
theorem q_slL (ds : List D) (l h : Option Int) : dSl (.lst ds) l h = some (.lst (cutL ds l h)) := rfl
theorem q_slS (s : List Nat) (l h : Option Int) (hs : s.length ≤ 16777216) : dSl (.str s) l h = some (.str (cutL s l h)) := if_pos hs
theorem sIx_none (n d : Nat) : HT.sIx n d none = d := HT.sIx_none ..
theorem cut_to {α : Type} (l : List α) (k : Nat) : cutL l none (some (k : Int)) = l.take k := by
  unfold cutL
  rw [HT.sIx_none, HT.sIx_nat, List.drop_zero, Nat.sub_zero]
  by_cases h : k ≤ l.length
  · rw [Nat.min_eq_left h]
  · rw [Nat.min_eq_right (by omega), List.take_of_length_le (by omega), List.take_of_length_le (by omega)]
theorem cut_from {α : Type} (l : List α) (k : Nat) : cutL l (some (k : Int)) none = l.drop k := by
  unfold cutL
  rw [HT.sIx_none, HT.sIx_nat]
  by_cases h : k ≤ l.length
  · rw [Nat.min_eq_left h, List.take_of_length_le (by rw [List.length_drop]; omega)]
  · rw [Nat.min_eq_right (by omega), List.drop_of_length_le (by omega), List.drop_of_length_le (by omega)]; simp
theorem cut_mid {α : Type} (l : List α) (j k : Nat) (h : j ≤ k) (hk : k ≤ l.length) : cutL l (some (j : Int)) (some (k : Int)) = (l.drop j).take (k - j) := by
  unfold cutL
  rw [HT.sIx_nat, HT.sIx_nat, Nat.min_eq_left (show j ≤ l.length by omega), Nat.min_eq_left hk]
theorem allB (l : List Bool) : dAll [.lst (l.map .bl)] = some (.bl (l.all id)) := by
  show (blsD _).map _ = _
  rw [blsD_map]; rfl
theorem anyB (l : List Bool) : dAny [.lst (l.map .bl)] = some (.bl (l.any id)) := by
  show (blsD _).map _ = _
  rw [blsD_map]; rfl
theorem sumI (l : List Int) : dSum [.lst (l.map .int)] = some (.int l.sum) := by
  show (intsD _).map _ = _
  rw [intsD_map]; rfl
theorem nI_map (l : List Nat) : l.map nI = (l.map fun (n : Nat) => ((n : Nat) : Int)).map D.int := by rw [List.map_map]; rfl
theorem sumN (l : List Nat) : dSum [.lst (l.map nI)] = some (.int (l.sum : Nat)) := by
  rw [nI_map, sumI]
  congr 2
  induction l with
  | nil => rfl
  | cons a l ih => rw [List.map_cons, List.sum_cons, List.sum_cons, ih]; omega
theorem joinS (sep : List Nat) (l : List (List Nat)) (h : (l.map List.length).sum + l.length * sep.length ≤ 16777216) : dJoin (.str sep) (.lst (l.map .str)) = some (.str (TL.joinL sep l)) := by
  show (strsD _).bind _ = _
  rw [strsD_map, Option.bind_some, if_pos h]
theorem maxL {l : List Int} {m : Int} (h : l.max? = some m) : dMax [.lst (l.map .int)] = some (.int m) := by
  show (intsD _).bind _ = _
  rw [intsD_map, Option.bind_some, h]; rfl
theorem minL {l : List Int} {m : Int} (h : l.min? = some m) : dMin [.lst (l.map .int)] = some (.int m) := by
  show (intsD _).bind _ = _
  rw [intsD_map, Option.bind_some, h]; rfl
theorem q_mulL (s : List D) (k : Nat) (h : k ≤ 16777216) (h2 : s.length * k ≤ 16777216) : dMul [.lst s, .int (k : Int)] = some (.lst (List.replicate k s).flatten) := by
  show (if _ then _ else _) = _
  rw [if_pos ⟨by omega, by rw [Int.toNat_natCast]; exact h2⟩, Int.toNat_natCast]
theorem rep1 (k : Nat) (d : D) : (List.replicate k [d]).flatten = List.replicate k d := by
  induction k with
  | zero => rfl
  | succ k ih => rw [List.replicate_succ, List.flatten_cons, ih, List.replicate_succ]; rfl
end PL
end

section
set_option maxRecDepth 100000
namespace K15
open PySem PySem.Spec PyProof.Rows L2 PL

def b_is_whole : SM :=
    sRet (eAnd (eApp dIsi [.v (eVar 0), .v (eC (.opq (.ty "int")))]) (eNot (.v (eApp dIsi [.v (eVar 0), .v (eC (.opq (.ty "bool")))]))))
def m_is_whole : PFn := runP true 1 1 b_is_whole
def b_is_between : SM :=
    sRet (eAnd (eCall 1 m_is_whole [eVar 0]) (eChain dLe dLe (eVar 1) (eVar 0) (eVar 2)))
def m_is_between : PFn := runP true 3 3 b_is_between
def b_first_wrong_place : SM :=
    sSeq (sFor (iEnM (eVar 1)) (gT 2 (gsC (gN 2) (gsC (gN 3) (gsN)))) (sIf (tOrr (tB_ (eApp dEq [.b 2, .v (eVar 0)])) (tOrr (tNo (tTr (.v (eCall 3 m_is_between [eVar 3, eC (.int 0), eApp dSub [.v (eVar 0), .v (eC (.int 1))]])))) (tB_ (eApp dIn [.v (eVar 3), .v (eSl dSl (.v (eVar 1)) oNo (oSo (eVar 2)))])))) (sRetO 2) (sNop)))
    (sRetF (eIf (tB_ (eApp dLt [.v (eApp dLen [.v (eVar 1)]), .v (eVar 0)])) (eApp dLen [.v (eVar 1)]) (eC .non)))
def m_first_wrong_place : PFn := runP true 2 4 b_first_wrong_place
def b_check_order_of : SM :=
    sSeq (sIf (tNo (tTr (.v (eApp dIsi [.v (eVar 1), .v (eC (.opq (.ty "tuple")))])))) (sNever) (sNop))
    (sSeq (sAsg (eCall 2 m_first_wrong_place [eVar 0, eVar 1]) (gN 2))
    (sIf (tB_ (eApp dIsNot [.v (eVar 2), .v (eC .non)])) (sNever) (sNop)))
def m_check_order_of : PFn := runP true 2 3 b_check_order_of
def b_check_order : SM :=
    sSeq (sIf (tNo (tTr (.v (eApp dIsi [.v (eVar 0), .v (eC (.opq (.ty "tuple")))])))) (sNever) (sNop))
    (sDrop (eCall 2 m_check_order_of [eApp dMax [.v (eC (.int 1)), .v (eApp dMin [.v (eApp dLen [.v (eVar 0)]), .v (eC (.int (40)))])], eVar 0]))
def m_check_order : PFn := runP true 1 1 b_check_order
def b_runs_by : SM :=
    sSeq (sPar2 1 2 (true, eApp dMul [.v (eLst [eC (.int 0)]), .v (eApp dLen [.v (eVar 0)])]) (false, eC (.int 0)))
    (sSeq (sFor (iZpM (eVar 0) (eSl dSl (.v (eVar 0)) (oSo (eC (.int 1))) oNo)) (gT 2 (gsC (gN 3) (gsC (gN 4) (gsN)))) (sSeq (sAsg (eIf (tB_ (eApp dLt [.v (eVar 4), .v (eVar 3)])) (eApp dAdd [.v (eVar 2), .v (eC (.int 1))]) (eVar 2)) (gN 2))
    (sAsg (eVar 2) (gIx 1 (eVar 4)))))
    (sRetO 1))
def m_runs_by : PFn := runP true 1 5 b_runs_by
def b_run_count_by : SM :=
    sRetF (eApp dAdd [.v (eApp dMax [.v (eCall 1 m_runs_by [eVar 0])]), .v (eC (.int 1))])
def m_run_count_by : PFn := runP true 1 1 b_run_count_by
def b_new_holes_by : SM :=
    sSeq (sAsg (eCall 1 m_runs_by [eVar 0]) (gN 1))
    (sSeq (sOwn (eLst []) 2)
    (sSeq (sFor (iR1 (eBits (eApp dMax [.v (eVar 1)]))) (gN 3) (sDrop (eApd 2 (eJoin (eC (.str [])) (eLc (iOf (eVar 1)) [4] (gN 4) (tTrue) (eIf (tB_ (eApp dEq [.v (eApp dAnd [.v (eApp dShr [.v (eVar 4), .v (eVar 3)]), .v (eC (.int 1))]), .v (eC (.int 1))])) (eC (.str [111])) (eC (.str [118]))))))))
    (sRetO 2)))
def m_new_holes_by : PFn := runP true 1 5 b_new_holes_by
def b_run_count : SM :=
    sSeq (sDrop (eCall 1 m_check_order [eVar 0]))
    (sRetF (eCall 1 m_run_count_by [eVar 0]))
def m_run_count : PFn := runP true 1 1 b_run_count
def b_new_holes : SM :=
    sSeq (sDrop (eCall 1 m_check_order [eVar 0]))
    (sRetF (eApp dTup [.v (eCall 1 m_new_holes_by [eVar 0])]))
def m_new_holes : PFn := runP true 1 1 b_new_holes
def b__law_well : SM :=
    sSeq (sAsg (eIf (tB_ (eApp dLt [.v (eVar 1), .v (eApp dLen [.v (eVar 0)])])) (eApp dInt [.v (eApp dIx [.v (eVar 0), .v (eVar 1)])]) (eApp dAdd [.v (eApp dAdd [.v (eApp dMul [.v (eC (.int 9311)), .v (eVar 1)]), .v (eApp dMod [.v (eApp dInt [.v (eApp dSum [.v (eSl dSl (.v (eVar 0)) oNo (oSo (eC (.int 2))))])]), .v (eC (.int 1000003))])]), .v (eC (.int 71))])) (gN 2))
    (sSeq (sAsg (eApp dAdd [.v (eC (.int 50021)), .v (eApp dMul [.v (eC (.int 1013)), .v (eVar 1)])]) (gN 3))
    (sSeq (sFor (iOf (eApp dAdd [.v (eSl dSl (.v (eVar 0)) oNo (oSo (eC (.int 5)))), .v (eLst [eVar 2])])) (gN 4) (sAsg (eApp dMod [.v (eApp dInt [.v (eApp dAdd [.v (eApp dAdd [.v (eApp dMul [.v (eVar 3), .v (eC (.int 45013))]), .v (eApp dMod [.v (eApp dInt [.v (eVar 4)]), .v (eC (.int 2147483399))])]), .v (eC (.int 37))])]), .v (eC (.int 2147483563))]) (gN 3)))
    (sRetF (eLst [eIf (tOrr (tB_ (eApp dLt [.v (eVar 2), .v (eC (.int 0))])) (tB_ (eApp dGe [.v (eVar 2), .v (eApp dPow [.v (eC (.int 10)), .v (eC (.int 17))])]))) (eApp dAbs [.v (eVar 2)]) (eC (.int 0)), eVar 3, eC (.int 0)]))))
def m__law_well : PFn := runP true 2 5 b__law_well
def b__law_take : SM :=
    sSeq (sIf (tB_ (eApp dGt [.v (eApp dIx [.b 0, .v (eC (.int 0))]), .v (eC (.int 0))])) (sSeq (sAsg (eApp dDivmod [.v (eApp dIx [.b 0, .v (eC (.int 0))]), .v (eVar 1)]) (gT 2 (gsC (gIx 0 (eC (.int 0))) (gsC (gN 3) (gsN)))))
    (sRetO 3)) (sNop))
    (sSeq (sAsg (eApp dAdd [.v (eApp dIx [.b 0, .v (eC (.int 2))]), .v (eC (.int 1))]) (gIx 0 (eC (.int 2))))
    (sSeq (sAsg (eApp dAdd [.v (eApp dMod [.v (eApp dInt [.v (eApp dIx [.b 0, .v (eC (.int 1))])]), .v (eC (.int 28657))]), .v (eC (.int 40009))]) (gN 2))
    (sSeq (sAsg (eApp dMod [.v (eApp dInt [.v (eApp dAdd [.v (eApp dAdd [.v (eApp dMul [.v (eApp dIx [.b 0, .v (eC (.int 1))]), .v (eVar 2)]), .v (eApp dMul [.v (eC (.int 50023)), .v (eApp dIx [.b 0, .v (eC (.int 2))])])]), .v (eC (.int 17))])]), .v (eC (.int 2147483563))]) (gIx 0 (eC (.int 1))))
    (sRetF (eApp dMod [.v (eApp dInt [.v (eApp dFdiv [.v (eApp dIx [.b 0, .v (eC (.int 1))]), .v (eC (.int 83))])]), .v (eVar 1)])))))
def m__law_take : Fn := runFn ⟨[true, false], true⟩ 4 b__law_take
def b__law_same (self : PFn) : SM :=
    sSeq (sIf (tTr (.v (eApp dIsi [.v (eVar 1), .v (eC (.opq (.ty "tuple")))]))) (sSeq (sIf (tOrr (tNo (tTr (.v (eApp dIsi [.v (eVar 0), .v (eC (.opq (.ty "tuple")))])))) (tB_ (eApp dNe [.v (eApp dLen [.v (eVar 0)]), .v (eApp dLen [.v (eVar 1)])]))) (sRetF (eC (.bl false))) (sNop))
    (sRetF (eApp dAll [.v (eLc (iR1 (eApp dLen [.v (eVar 1)])) [2] (gN 2) (tTrue) (eCall 2 self [eApp dIx [.v (eVar 0), .v (eVar 2)], eApp dIx [.v (eVar 1), .v (eVar 2)]]))]))) (sNop))
    (sSeq (sIf (tOrr (tB_ (eApp dIs [.v (eVar 1), .v (eC .non)])) (tOrr (tB_ (eApp dIs [.v (eVar 1), .v (eC (.bl true))])) (tB_ (eApp dIs [.v (eVar 1), .v (eC (.bl false))])))) (sRet (eOr (eAnd (eApp dIs [.v (eVar 1), .v (eC .non)]) (eApp dIs [.v (eVar 0), .v (eC .non)])) (eOr (eAnd (eApp dIs [.v (eVar 1), .v (eC (.bl true))]) (eApp dIs [.v (eVar 0), .v (eC (.bl true))])) (eAnd (eApp dIs [.v (eVar 1), .v (eC (.bl false))]) (eApp dIs [.v (eVar 0), .v (eC (.bl false))]))))) (sNop))
    (sSeq (sIf (tTr (.v (eApp dIsi [.v (eVar 1), .v (eC (.opq (.ty "int")))]))) (sRet (eAnd (eApp dIsi [.v (eVar 0), .v (eC (.opq (.ty "int")))]) (eAnd (eNot (.v (eApp dIsi [.v (eVar 0), .v (eC (.opq (.ty "bool")))]))) (eApp dEq [.v (eVar 0), .v (eVar 1)])))) (sNop))
    (sRet (eAnd (eApp dIsi [.v (eVar 0), .v (eC (.opq (.ty "str")))]) (eApp dEq [.v (eVar 0), .v (eVar 1)])))))
def m__law_same : Nat → PFn
  | 0 => fun _ => none
  | n + 1 => runP true 2 3 (b__law_same (m__law_same n))
def b__law_order : SM :=
    sSeq (sPar3 3 4 5 (true, eRg1 .lst (eVar 1)) (true, eLst []) (false, eCallIo m__law_take [.io 0, .v (eC (.int 5))]))
    (sSeq (sIf (tB_ (eApp dLt [.v (eVar 5), .v (eC (.int 3))])) (sSeq (sWhile 16777216 (tB_ (eApp dNe [.b 3, .v (eLst [])])) (sDrop (eApd 4 (ePopAt 3 (eCallIo m__law_take [.io 0, .v (eApp dLen [.b 3])])))))
    (sRetF (eApp dTup [.b 4]))) (sNop))
    (sSeq (sIf (tB_ (eApp dEq [.v (eVar 5), .v (eC (.int 3))])) (sOwn (eRev (eVar 3)) 3) (sNop))
    (sSeq (sFor (iR1 (eIf (tB_ (eApp dGt [.v (eVar 1), .v (eC (.int 0))])) (eCallIo m__law_take [.io 0, .v (eC (.int 4))]) (eC (.int 0)))) (gN 2) (sDrop (eIns 3 (eCallIo m__law_take [.io 0, .v (eVar 1)]) (ePopAt 3 (eCallIo m__law_take [.io 0, .v (eVar 1)])))))
    (sRetF (eApp dTup [.b 3])))))
def m__law_order : Fn := runFn ⟨[true, false], true⟩ 6 b__law_order
def b__law_runs : SM :=
    sSeq (sOwn (eLst []) 1)
    (sSeq (sFor (iEnM (eVar 0)) (gT 2 (gsC (gN 2) (gsC (gN 3) (gsN)))) (sSeq (sAsg (eIf (tB_ (eApp dGt [.v (eVar 2), .v (eC (.int 0))])) (eApp dInt [.v (eApp dGt [.v (eApp dIx [.v (eVar 0), .v (eApp dSub [.v (eVar 2), .v (eC (.int 1))])]), .v (eVar 3)])]) (eC (.int 0))) (gN 4))
    (sDrop (eApd 1 (eIf (tB_ (eApp dGt [.v (eVar 2), .v (eC (.int 0))])) (eApp dAdd [.v (eApp dIx [.b 1, .v (eApp dNeg [.v (eC (.int 1))])]), .v (eVar 4)]) (eC (.int 0)))))))
    (sRetO 1))
def m__law_runs : PFn := runP true 1 5 b__law_runs
def b__law_order_right : SM :=
    sSeq (sAsg (eApp dAdd [.v (eApp dIx [.v (eCall 1 m__law_runs [eVar 1]), .v (eApp dNeg [.v (eC (.int 1))])]), .v (eC (.int 1))]) (gN 2))
    (sSeq (sIf (tNo (tTr (.v (eCall 2 (m__law_same 8) [eTup [eCall 1 m_run_count [eVar 1], eCallK [0] 1 m_run_count [eVar 1], eCall 1 m_run_count [eRev (eVar 1)]], eTup [eVar 2, eVar 2, eApp dSub [.v (eApp dAdd [.v (eApp dLen [.v (eVar 1)]), .v (eC (.int 1))]), .v (eVar 2)]]])))) (sRetF (eC (.bl false))) (sNop))
    (sSeq (sAsg (eC (.int 1)) (gN 3))
    (sSeq (sFor (iOf (eCall 1 m_new_holes [eVar 1])) (gN 4) (sAsg (eApp dMul [.v (eC (.int 2)), .v (eVar 3)]) (gN 3)))
    (sSeq (sIf (tOrr (tB_ (eApp dGt [.v (eVar 2), .v (eVar 3)])) (tAn (tB_ (eApp dGt [.v (eVar 3), .v (eC (.int 1))])) (tB_ (eApp dLe [.v (eApp dMul [.v (eC (.int 2)), .v (eVar 2)]), .v (eVar 3)])))) (sRetF (eC (.bl false))) (sNop))
    (sSeq (sOwn (eApp dLst [.v (eVar 1)]) 5)
    (sSeq (sDrop (eIns 5 (eCallIo m__law_take [.io 0, .v (eApp dLen [.v (eVar 1)])]) (ePopAt 5 (eCallIo m__law_take [.io 0, .v (eApp dLen [.v (eVar 1)])]))))
    (sRet (eAnd (eApp dLt [.v (eApp dAbs [.v (eApp dSub [.v (eCall 1 m_run_count [eApp dTup [.b 5]]), .v (eVar 2)])]), .v (eC (.int 3))]) (eApp dEq [.v (eCall 1 m_run_count [eApp dTup [.b 5]]), .v (eApp dAdd [.v (eApp dIx [.v (eCallB 1 true m__law_runs [.b 5]), .v (eApp dNeg [.v (eC (.int 1))])]), .v (eC (.int 1))])])))))))))
def m__law_order_right : Fn := runFn ⟨[true, false], true⟩ 6 b__law_order_right
def b__law_two_right : SM :=
    sSeq (sAsg (eApp dAdd [.v (eVar 0), .v (eApp dTup [.v (eLc (iOf (eVar 1)) [6] (gN 6) (tTrue) (eApp dAdd [.v (eApp dLen [.v (eVar 0)]), .v (eVar 6)]))])]) (gN 2))
    (sSeq (sAsg (eApp dAdd [.v (eApp dTup [.v (eLc (iOf (eVar 0)) [6] (gN 6) (tTrue) (eApp dAdd [.v (eApp dLen [.v (eVar 1)]), .v (eVar 6)]))]), .v (eVar 1)]) (gN 3))
    (sSeq (sPar2 4 5 (false, eCall 1 m_run_count [eVar 0]) (false, eCall 1 m_run_count [eVar 1]))
    (sRetF (eCall 2 (m__law_same 8) [eTup [eCall 1 m_run_count [eVar 2], eCall 1 m_run_count [eVar 3]], eTup [eApp dSub [.v (eApp dAdd [.v (eVar 4), .v (eVar 5)]), .v (eC (.int 1))], eApp dAdd [.v (eVar 4), .v (eVar 5)]]]))))
def m__law_two_right : PFn := runP true 2 7 b__law_two_right
def b__law_round : SM :=
    sSeq (sFor (iOf (eLst [eC (.int 40), eApp dAdd [.v (eC (.int 1)), .v (eCallIo m__law_take [.io 0, .v (eC (.int 40))])], eC (.int 5), eApp dAdd [.v (eC (.int 1)), .v (eCallIo m__law_take [.io 0, .v (eC (.int 6))])], eC (.int 12)])) (gN 1) (sSeq (sAsg (eCallIo m__law_order [.io 0, .v (eVar 1)]) (gN 3))
    (sSeq (sIf (tNo (tTr (.v (eCallIo m__law_order_right [.io 0, .v (eVar 3)])))) (sRetF (eC (.bl false))) (sNop))
    (sIf (tAn (tB_ (eApp dLt [.v (eVar 1), .v (eC (.int 20))])) (tNo (tTr (.v (eCall 2 m__law_two_right [eVar 3, eCallIo m__law_order [.io 0, .v (eApp dAdd [.v (eC (.int 1)), .v (eCallIo m__law_take [.io 0, .v (eC (.int 20))])])]]))))) (sRetF (eC (.bl false))) (sNop)))))
    (sSeq (sAsg (eRg1 .tup (eApp dAdd [.v (eC (.int 1)), .v (eCallIo m__law_take [.io 0, .v (eC (.int 40))])])) (gN 2))
    (sRetF (eCall 2 (m__law_same 8) [eTup [eCall 1 m_run_count [eVar 2], eCall 1 m_run_count [eRev (eVar 2)]], eTup [eC (.int 1), eApp dLen [.v (eVar 2)]]])))
def m__law_round : Fn := runFn ⟨[true], true⟩ 4 b__law_round
def b_law : SM :=
    sRetF (eApp dAll [.v (eLc (iR1 (eApp dMax [.v (eC (.int 2)), .v (eApp dMin [.v (eApp dLen [.v (eVar 0)]), .v (eC (.int 3))])])) [1] (gN 1) (tTrue) (eCallIo m__law_round [.t (eCall 2 m__law_well [eVar 0, eVar 1])]))])
def m_law : PFn := runP true 1 2 b_law
theorem eq_is_whole (a0 : D) : m_is_whole [a0] = (b_is_whole [.shr a0]).bind (kP true 1) := runP_eq rfl
theorem eq_is_between (a0 a1 a2 : D) : m_is_between [a0, a1, a2] = (b_is_between [.shr a0, .shr a1, .shr a2]).bind (kP true 3) := runP_eq rfl
theorem eq_first_wrong_place (a0 a1 : D) : m_first_wrong_place [a0, a1] = (b_first_wrong_place [.shr a0, .shr a1, .no, .no]).bind (kP true 2) := runP_eq rfl
theorem eq_check_order_of (a0 a1 : D) : m_check_order_of [a0, a1] = (b_check_order_of [.shr a0, .shr a1, .no]).bind (kP true 2) := runP_eq rfl
theorem eq_check_order (a0 : D) : m_check_order [a0] = (b_check_order [.shr a0]).bind (kP true 1) := runP_eq rfl
theorem eq_runs_by (a0 : D) : m_runs_by [a0] = (b_runs_by [.shr a0, .no, .no, .no, .no]).bind (kP true 1) := runP_eq rfl
theorem eq_run_count_by (a0 : D) : m_run_count_by [a0] = (b_run_count_by [.shr a0]).bind (kP true 1) := runP_eq rfl
theorem eq_new_holes_by (a0 : D) : m_new_holes_by [a0] = (b_new_holes_by [.shr a0, .no, .no, .no, .no]).bind (kP true 1) := runP_eq rfl
theorem eq_run_count (a0 : D) : m_run_count [a0] = (b_run_count [.shr a0]).bind (kP true 1) := runP_eq rfl
theorem eq_new_holes (a0 : D) : m_new_holes [a0] = (b_new_holes [.shr a0]).bind (kP true 1) := runP_eq rfl
theorem eq__law_well (a0 a1 : D) : m__law_well [a0, a1] = (b__law_well [.shr a0, .shr a1, .no, .no, .no]).bind (kP true 2) := runP_eq rfl
theorem eq__law_take (a0 a1 : D) : m__law_take [a0, a1] = (b__law_take [.iow a0, .shr a1, .no, .no]).bind (kF true [true, false]) := rfl
theorem eq__law_same (n : Nat) (a0 a1 : D) : m__law_same (n + 1) [a0, a1] = (b__law_same (m__law_same n) [.shr a0, .shr a1, .no]).bind (kP true 2) := runP_eq rfl
theorem eq__law_order (a0 a1 : D) : m__law_order [a0, a1] = (b__law_order [.iow a0, .shr a1, .no, .no, .no, .no]).bind (kF true [true, false]) := rfl
theorem eq__law_runs (a0 : D) : m__law_runs [a0] = (b__law_runs [.shr a0, .no, .no, .no, .no]).bind (kP true 1) := runP_eq rfl
theorem eq__law_order_right (a0 a1 : D) : m__law_order_right [a0, a1] = (b__law_order_right [.iow a0, .shr a1, .no, .no, .no, .no]).bind (kF true [true, false]) := rfl
theorem eq__law_two_right (a0 a1 : D) : m__law_two_right [a0, a1] = (b__law_two_right [.shr a0, .shr a1, .no, .no, .no, .no, .no]).bind (kP true 2) := runP_eq rfl
theorem eq__law_round (a0 : D) : m__law_round [a0] = (b__law_round [.iow a0, .no, .no, .no]).bind (kF true [true]) := rfl
theorem eq_law (a0 : D) : m_law [a0] = (b_law [.shr a0, .no]).bind (kP true 1) := runP_eq rfl
end K15
end

section
set_option maxRecDepth 100000
set_option maxHeartbeats 4000000
namespace K15
open PySem PySem.Spec PyProof.Rows L2 PL

def topS (i : Nat) : Stmt := PySem.Challenge.pw_notchdeck_k15_whole_runs_of_orders.main.body.getD i (.Pass ⟨0, 0, 0, 0⟩)
abbrev s_is_whole : Stmt := topS 1
abbrev N_is_whole : List Str := ["value"]
theorem sc_is_whole : FnScope N_is_whole ["value"] (defScope s_is_whole) := ⟨rfl, rfl, rfl, by decide +kernel, rfl, by decide +kernel, by decide +kernel⟩
abbrev s_is_between : Stmt := topS 2
abbrev N_is_between : List Str := ["value", "low", "high"]
theorem sc_is_between : FnScope N_is_between ["value", "low", "high"] (defScope s_is_between) := ⟨rfl, rfl, rfl, by decide +kernel, rfl, by decide +kernel, by decide +kernel⟩
abbrev s_first_wrong_place : Stmt := topS 10
abbrev N_first_wrong_place : List Str := ["many", "value", "index", "place"]
theorem sc_first_wrong_place : FnScope N_first_wrong_place ["many", "value"] (defScope s_first_wrong_place) := ⟨rfl, rfl, rfl, by decide +kernel, rfl, by decide +kernel, by decide +kernel⟩
abbrev s_check_order_of : Stmt := topS 11
abbrev N_check_order_of : List Str := ["many", "order", "wrong"]
theorem sc_check_order_of : FnScope N_check_order_of ["many", "order"] (defScope s_check_order_of) := ⟨rfl, rfl, rfl, by decide +kernel, rfl, by decide +kernel, by decide +kernel⟩
abbrev s_check_order : Stmt := topS 12
abbrev N_check_order : List Str := ["order"]
theorem sc_check_order : FnScope N_check_order ["order"] (defScope s_check_order) := ⟨rfl, rfl, rfl, by decide +kernel, rfl, by decide +kernel, by decide +kernel⟩
abbrev s_runs_by : Stmt := topS 14
abbrev N_runs_by : List Str := ["order", "found", "run", "ahead", "place"]
theorem sc_runs_by : FnScope N_runs_by ["order"] (defScope s_runs_by) := ⟨rfl, rfl, rfl, by decide +kernel, rfl, by decide +kernel, by decide +kernel⟩
abbrev s_run_count_by : Stmt := topS 15
abbrev N_run_count_by : List Str := ["order"]
theorem sc_run_count_by : FnScope N_run_count_by ["order"] (defScope s_run_count_by) := ⟨rfl, rfl, rfl, by decide +kernel, rfl, by decide +kernel, by decide +kernel⟩
abbrev s_new_holes_by : Stmt := topS 16
abbrev N_new_holes_by : List Str := ["order", "runs", "found", "place", "run"]
theorem sc_new_holes_by : FnScope N_new_holes_by ["order"] (defScope s_new_holes_by) := ⟨rfl, rfl, rfl, by decide +kernel, rfl, by decide +kernel, by decide +kernel⟩
abbrev s_run_count : Stmt := topS 18
abbrev N_run_count : List Str := ["order"]
theorem sc_run_count : FnScope N_run_count ["order"] (defScope s_run_count) := ⟨rfl, rfl, rfl, by decide +kernel, rfl, by decide +kernel, by decide +kernel⟩
abbrev s_new_holes : Stmt := topS 19
abbrev N_new_holes : List Str := ["order"]
theorem sc_new_holes : FnScope N_new_holes ["order"] (defScope s_new_holes) := ⟨rfl, rfl, rfl, by decide +kernel, rfl, by decide +kernel, by decide +kernel⟩
abbrev s__law_well : Stmt := topS 21
abbrev N__law_well : List Str := ["script", "turn", "own", "stir", "cell"]
theorem sc__law_well : FnScope N__law_well ["script", "turn"] (defScope s__law_well) := ⟨rfl, rfl, rfl, by decide +kernel, rfl, by decide +kernel, by decide +kernel⟩
abbrev s__law_take : Stmt := topS 22
abbrev N__law_take : List Str := ["well", "many", "by", "figure"]
theorem sc__law_take : FnScope N__law_take ["well", "many"] (defScope s__law_take) := ⟨rfl, rfl, rfl, by decide +kernel, rfl, by decide +kernel, by decide +kernel⟩
abbrev s__law_same : Stmt := topS 23
abbrev N__law_same : List Str := ["told", "due", "at"]
theorem sc__law_same : FnScope N__law_same ["told", "due"] (defScope s__law_same) := ⟨rfl, rfl, rfl, by decide +kernel, rfl, by decide +kernel, by decide +kernel⟩
abbrev s__law_order : Stmt := topS 24
abbrev N__law_order : List Str := ["well", "many", "turn", "left", "made", "way"]
theorem sc__law_order : FnScope N__law_order ["well", "many"] (defScope s__law_order) := ⟨rfl, rfl, rfl, by decide +kernel, rfl, by decide +kernel, by decide +kernel⟩
abbrev s__law_runs : Stmt := topS 25
abbrev N__law_runs : List Str := ["order", "made", "at", "each", "more"]
theorem sc__law_runs : FnScope N__law_runs ["order"] (defScope s__law_runs) := ⟨rfl, rfl, rfl, by decide +kernel, rfl, by decide +kernel, by decide +kernel⟩
abbrev s__law_order_right : Stmt := topS 26
abbrev N__law_order_right : List Str := ["well", "order", "many", "room", "hole", "left"]
theorem sc__law_order_right : FnScope N__law_order_right ["well", "order"] (defScope s__law_order_right) := ⟨rfl, rfl, rfl, by decide +kernel, rfl, by decide +kernel, by decide +kernel⟩
abbrev s__law_two_right : Stmt := topS 27
abbrev N__law_two_right : List Str := ["one", "other", "both", "back", "many", "more", "each"]
theorem sc__law_two_right : FnScope N__law_two_right ["one", "other"] (defScope s__law_two_right) := ⟨rfl, rfl, rfl, by decide +kernel, rfl, by decide +kernel, by decide +kernel⟩
abbrev s__law_round : Stmt := topS 28
abbrev N__law_round : List Str := ["well", "many", "every", "order"]
theorem sc__law_round : FnScope N__law_round ["well"] (defScope s__law_round) := ⟨rfl, rfl, rfl, by decide +kernel, rfl, by decide +kernel, by decide +kernel⟩
abbrev s_law : Stmt := topS 29
abbrev N_law : List Str := ["script", "turn"]
theorem sc_law : FnScope N_law ["script"] (defScope s_law) := ⟨rfl, rfl, rfl, by decide +kernel, rfl, by decide +kernel, by decide +kernel⟩
section
variable {P : Program} {w : World} {K : PySem.W.Frag} {mg : Str → Option Value} {base : Heap}
theorem ok_is_whole {f : Addr} {fd : FuncData} (F : Fun K "is_whole" "is_whole" s_is_whole f fd) (h_bool : mg "bool" = none) (h_int : mg "int" = none) (h_isinstance : mg "isinstance" = none) : FnOk P w K mg base CX0 1 f fd ["value"] (spF K 1 true m_is_whole) := by
  have nd := sc_is_whole.nd
  have h := fn_pure (P := P) (w := w) (mg := mg) (base := base) (fr := true) (np := 1) (k := 0) (body := b_is_whole) F sc_is_whole rfl (fun cdv A outer s H E hr => (ss_one (s_ret (e_and (e_sh (e_callB o_isi rfl h_isinstance boot_isinstance (pargs_cons (p_v (e_v 0)) (pargs_cons (p_v (e_ty rfl h_int boot_int)) pargs_nil)))) (e_one (e_sh (e_not (p_f (e_callB o_isi rfl h_isinstance boot_isinstance (pargs_cons (p_v (e_v 0)) (pargs_cons (p_v (e_ty rfl h_bool boot_bool)) pargs_nil)))))))))))
  exact h
theorem ok_is_between {f : Addr} {fd : FuncData} (F : Fun K "is_between" "is_between" s_is_between f fd) (C_is_whole : Callee P w K mg base "is_whole" 1 ["value"] [] (spF K 1 true m_is_whole)) : FnOk P w K mg base CX0 2 f fd ["value", "low", "high"] (spF K 3 true m_is_between) := by
  have nd := sc_is_between.nd
  have h := fn_pure (P := P) (w := w) (mg := mg) (base := base) (fr := true) (np := 3) (k := 1) (body := b_is_between) F sc_is_between rfl (fun cdv A outer s H E hr => (ss_one (s_ret (e_and (e_sh (c_call C_is_whole hr (by decide) (pes_cons (e_v 0) pes_nil))) (e_one (e_sh (e_chain o_le o_le (e_v 1) (e_v 0) (e_v 2))))))))
  exact h
theorem ok_first_wrong_place {f : Addr} {fd : FuncData} (F : Fun K "first_wrong_place" "first_wrong_place" s_first_wrong_place f fd) (h_enumerate : mg "enumerate" = none) (h_len : mg "len" = none) (C_is_between : Callee P w K mg base "is_between" 2 ["value", "low", "high"] [] (spF K 3 true m_is_between)) : FnOk P w K mg base CX0 3 f fd ["many", "value"] (spF K 2 true m_first_wrong_place) := by
  have nd := sc_first_wrong_place.nd
  have h := fn_pure (P := P) (w := w) (mg := mg) (base := base) (fr := true) (np := 2) (k := 2) (body := b_first_wrong_place) F sc_first_wrong_place rfl (fun cdv A outer s H E hr => (ss_cons (s_loop rfl (i_en rfl h_enumerate (pes_cons (e_v 1) pes_nil)) (g_t rfl (gs_cons (g_nm 2 nd) (gs_cons (g_nm 3 nd) gs_nil))) (ss_one (s_if (PW.pt (w_or (t_cmp (o_eq hr.units) (p_o 2) (p_v (e_v 0)) (nomark _)) (w_or (t_not (t_truth (p_f (c_call C_is_between hr (by decide) (pes_cons (e_v 3) (pes_cons (e_sh e_int) (pes_cons (e_sh (e_bin o_sub (p_v (e_v 0)) (p_f e_int))) pes_nil))))))) (w_or1 (t_cmp (o_in (room65 hr)) (p_v (e_v 3)) (p_f (e_sl o_sl (p_v (e_v 1)) o_no (o_so (e_v 2)))) (by with_unfolding_all rfl)))))) (ss_one (s_ro 2)) ss_nil)))
      (ss_one (s_retF (e_if (t_cmp (o_lt hr.units0) (p_f (e_callB o_len rfl h_len boot_len (pargs_cons (p_v (e_v 1)) pargs_nil))) (p_v (e_v 0)) (nomark _)) (e_callB o_len rfl h_len boot_len (pargs_cons (p_v (e_v 1)) pargs_nil)) e_non)))))
  exact h
theorem ok_check_order_of {f : Addr} {fd : FuncData} (F : Fun K "check_order_of" "check_order_of" s_check_order_of f fd) (h_isinstance : mg "isinstance" = none) (h_tuple : mg "tuple" = none) (C_first_wrong_place : Callee P w K mg base "first_wrong_place" 3 ["many", "value"] [] (spF K 2 true m_first_wrong_place)) : FnOk P w K mg base CX0 4 f fd ["many", "order"] (spF K 2 true m_check_order_of) := by
  have nd := sc_check_order_of.nd
  have h := fn_pure (P := P) (w := w) (mg := mg) (base := base) (fr := true) (np := 2) (k := 3) (body := b_check_order_of) F sc_check_order_of rfl (fun cdv A outer s H E hr => (ss_cons (s_if (t_not (t_truth (p_f (e_callB o_isi rfl h_isinstance boot_isinstance (pargs_cons (p_v (e_v 1)) (pargs_cons (p_v (e_ty rfl h_tuple boot_tuple)) pargs_nil)))))) (ss_one s_never) ss_nil)
      (ss_cons (s_st (i := 2) nd (e_sh (c_call C_first_wrong_place hr (by decide) (pes_cons (e_v 0) (pes_cons (e_v 1) pes_nil)))))
      (ss_one (s_if (t_cmp o_isnot (p_v (e_v 2)) (p_f e_non) (nomark _)) (ss_one s_never) ss_nil)))))
  exact h
theorem ok_check_order {f : Addr} {fd : FuncData} (F : Fun K "check_order" "check_order" s_check_order f fd) (h_isinstance : mg "isinstance" = none) (h_len : mg "len" = none) (h_max : mg "max" = none) (h_min : mg "min" = none) (h_tuple : mg "tuple" = none) (h_MOST_CARDS : ∃ v u, mg "MOST_CARDS" = some u ∧ RelV v u ∧ ∀ H P, Rp K H P v (.int (40))) (C_check_order_of : Callee P w K mg base "check_order_of" 4 ["many", "order"] [] (spF K 2 true m_check_order_of)) : FnOk P w K mg base CX0 5 f fd ["order"] (spF K 1 true m_check_order) := by
  have nd := sc_check_order.nd
  have h := fn_pure (P := P) (w := w) (mg := mg) (base := base) (fr := true) (np := 1) (k := 4) (body := b_check_order) F sc_check_order rfl (fun cdv A outer s H E hr => (ss_cons (s_if (t_not (t_truth (p_f (e_callB o_isi rfl h_isinstance boot_isinstance (pargs_cons (p_v (e_v 0)) (pargs_cons (p_v (e_ty rfl h_tuple boot_tuple)) pargs_nil)))))) (ss_one s_never) ss_nil)
      (ss_one (s_expr (e_sh (c_call C_check_order_of hr (by decide) (pes_cons (e_sh (e_callB (o_max rfl) rfl h_max boot_max (pargs_cons (p_f e_int) (pargs_cons (p_f (e_callB (o_min rfl) rfl h_min boot_min (pargs_cons (p_f (e_callB o_len rfl h_len boot_len (pargs_cons (p_v (e_v 0)) pargs_nil))) (pargs_cons (p_v (e_glob rfl h_MOST_CARDS)) pargs_nil)))) pargs_nil)))) (pes_cons (e_v 0) pes_nil))))))))
  exact h
theorem ok_runs_by {f : Addr} {fd : FuncData} (F : Fun K "runs_by" "runs_by" s_runs_by f fd) (h_len : mg "len" = none) (h_zip : mg "zip" = none) : FnOk P w K mg base CX0 1 f fd ["order"] (spF K 1 true m_runs_by) := by
  have nd := sc_runs_by.nd
  have h := fn_pure (P := P) (w := w) (mg := mg) (base := base) (fr := true) (np := 1) (k := 0) (body := b_runs_by) F sc_runs_by rfl (fun cdv A outer s H E hr => (ss_cons (s_p2 1 2 rfl nd (e_bin o_mul (p_f (e_lst (pes_cons (e_sh e_int) pes_nil))) (p_f (e_callB o_len rfl h_len boot_len (pargs_cons (p_v (e_v 0)) pargs_nil)))) (e_sh e_int))
      (ss_cons (s_loop rfl (i_zp rfl h_zip (pes_cons (e_v 0) (pes_cons (e_sh (e_sl o_sl (p_v (e_v 0)) (o_so (e_sh e_int)) o_no)) pes_nil))) (g_t rfl (gs_cons (g_nm 3 nd) (gs_cons (g_nm 4 nd) gs_nil))) (ss_cons (s_st (i := 2) nd (e_if (t_cmp (o_lt hr.units0) (p_v (e_v 4)) (p_v (e_v 3)) (nomark _)) (e_sh (e_bin o_add (p_v (e_v 2)) (p_f e_int))) (e_v 2)))
      (ss_one (s_asg (e_v 2) (g_at 1 (e_v 4))))))
      (ss_one (s_ro 1)))))
  exact h
theorem ok_run_count_by {f : Addr} {fd : FuncData} (F : Fun K "run_count_by" "run_count_by" s_run_count_by f fd) (h_max : mg "max" = none) (C_runs_by : Callee P w K mg base "runs_by" 1 ["order"] [] (spF K 1 true m_runs_by)) : FnOk P w K mg base CX0 2 f fd ["order"] (spF K 1 true m_run_count_by) := by
  have nd := sc_run_count_by.nd
  have h := fn_pure (P := P) (w := w) (mg := mg) (base := base) (fr := true) (np := 1) (k := 1) (body := b_run_count_by) F sc_run_count_by rfl (fun cdv A outer s H E hr => (ss_one (s_retF (e_bin o_add (p_f (e_callB (o_max rfl) rfl h_max boot_max (pargs_cons (p_f (c_call C_runs_by hr (by decide) (pes_cons (e_v 0) pes_nil))) pargs_nil))) (p_f e_int)))))
  exact h
theorem ok_new_holes_by {f : Addr} {fd : FuncData} (F : Fun K "new_holes_by" "new_holes_by" s_new_holes_by f fd) (h_max : mg "max" = none) (h_range : mg "range" = none) (h_NOTCHED : ∃ v u, mg "NOTCHED" = some u ∧ RelV v u ∧ ∀ H P, Rp K H P v (.str [118])) (h_WHOLE : ∃ v u, mg "WHOLE" = some u ∧ RelV v u ∧ ∀ H P, Rp K H P v (.str [111])) (C_runs_by : Callee P w K mg base "runs_by" 1 ["order"] [] (spF K 1 true m_runs_by)) : FnOk P w K mg base CX0 2 f fd ["order"] (spF K 1 true m_new_holes_by) := by
  have nd := sc_new_holes_by.nd
  have h := fn_pure (P := P) (w := w) (mg := mg) (base := base) (fr := true) (np := 1) (k := 1) (body := b_new_holes_by) F sc_new_holes_by rfl (fun cdv A outer s H E hr => (ss_cons (s_st (i := 1) nd (e_sh (c_call C_runs_by hr (by decide) (pes_cons (e_v 0) pes_nil))))
      (ss_cons (s_ow (i := 2) nd (e_lst pes_nil))
      (ss_cons (s_loop rfl (i_r1 rfl h_range (pes_cons (e_sh (e_bits (e_sh (e_callB (o_max rfl) rfl h_max boot_max (pargs_cons (p_v (e_v 1)) pargs_nil))))) pes_nil)) (g_nm 3 nd) (ss_one (s_expr (e_sh (m_apd 2 (e_sh (e_join (e_sh (e_str [])) (e_sh (e_lc (own := [("run", 4)]) rfl nd (i_of (e_v 1)) (blkOk_by (N := N_new_holes_by) (sc := defScope s_new_holes_by) (by decide +kernel)) (fun _ _ _ _ _ => (g_nm 4 nd)) (fun _ _ _ _ _ => ts_nil) (fun _ _ _ _ _ => (e_if (t_cmp (o_eq hr.units) (p_f (e_bin o_and (p_f (e_bin o_shr (p_v (e_v 4)) (p_v (e_v 3)))) (p_f e_int))) (p_f e_int) (nomark _)) (e_glob rfl h_WHOLE) (e_glob rfl h_NOTCHED))))))))))))
      (ss_one (s_ro 2))))))
  exact h
theorem ok_run_count {f : Addr} {fd : FuncData} (F : Fun K "run_count" "run_count" s_run_count f fd) (C_check_order : Callee P w K mg base "check_order" 5 ["order"] [] (spF K 1 true m_check_order)) (C_run_count_by : Callee P w K mg base "run_count_by" 2 ["order"] [] (spF K 1 true m_run_count_by)) : FnOk P w K mg base CX0 6 f fd ["order"] (spF K 1 true m_run_count) := by
  have nd := sc_run_count.nd
  have h := fn_pure (P := P) (w := w) (mg := mg) (base := base) (fr := true) (np := 1) (k := 5) (body := b_run_count) F sc_run_count rfl (fun cdv A outer s H E hr => (ss_cons (s_expr (e_sh (c_call C_check_order hr (by decide) (pes_cons (e_v 0) pes_nil))))
      (ss_one (s_retF (c_call C_run_count_by hr (by decide) (pes_cons (e_v 0) pes_nil))))))
  exact h
theorem ok_new_holes {f : Addr} {fd : FuncData} (F : Fun K "new_holes" "new_holes" s_new_holes f fd) (h_tuple : mg "tuple" = none) (C_check_order : Callee P w K mg base "check_order" 5 ["order"] [] (spF K 1 true m_check_order)) (C_new_holes_by : Callee P w K mg base "new_holes_by" 2 ["order"] [] (spF K 1 true m_new_holes_by)) : FnOk P w K mg base CX0 6 f fd ["order"] (spF K 1 true m_new_holes) := by
  have nd := sc_new_holes.nd
  have h := fn_pure (P := P) (w := w) (mg := mg) (base := base) (fr := true) (np := 1) (k := 5) (body := b_new_holes) F sc_new_holes rfl (fun cdv A outer s H E hr => (ss_cons (s_expr (e_sh (c_call C_check_order hr (by decide) (pes_cons (e_v 0) pes_nil))))
      (ss_one (s_retF (e_callTy o_tup rfl h_tuple boot_tuple (pargs_cons (p_f (c_call C_new_holes_by hr (by decide) (pes_cons (e_v 0) pes_nil))) pargs_nil))))))
  exact h
theorem ok__law_well {f : Addr} {fd : FuncData} (F : Fun K "_law_well" "_law_well" s__law_well f fd) (h_abs : mg "abs" = none) (h_int : mg "int" = none) (h_len : mg "len" = none) (h_sum : mg "sum" = none) : FnOk P w K mg base CX0 1 f fd ["script", "turn"] (spF K 2 true m__law_well) := by
  have nd := sc__law_well.nd
  have h := fn_pure (P := P) (w := w) (mg := mg) (base := base) (fr := true) (np := 2) (k := 0) (body := b__law_well) F sc__law_well rfl (fun cdv A outer s H E hr => (ss_cons (s_st (i := 2) nd (e_sh (e_if (t_cmp (o_lt hr.units0) (p_v (e_v 1)) (p_f (e_callB o_len rfl h_len boot_len (pargs_cons (p_v (e_v 0)) pargs_nil))) (nomark _)) (e_callTy o_int rfl h_int boot_int (pargs_cons (p_v (e_ix o_ix (p_v (e_v 0)) (p_v (e_v 1)) (fun _ _ => rfl))) pargs_nil)) (e_bin o_add (p_f (e_bin o_add (p_f (e_bin o_mul (p_f e_int) (p_v (e_v 1)))) (p_f (e_bin o_mod (p_f (e_callTy o_int rfl h_int boot_int (pargs_cons (p_f (e_callB (o_sum rfl) rfl h_sum boot_sum (pargs_cons (p_f (e_sl o_sl (p_v (e_v 0)) o_no (o_so (e_sh e_int)))) pargs_nil))) pargs_nil))) (p_f e_int))))) (p_f e_int)))))
      (ss_cons (s_st (i := 3) nd (e_sh (e_bin o_add (p_f e_int) (p_f (e_bin o_mul (p_f e_int) (p_v (e_v 1)))))))
      (ss_cons (s_loop rfl (i_of (e_sh (e_bin o_add (p_f (e_sl o_sl (p_v (e_v 0)) o_no (o_so (e_sh e_int)))) (p_f (e_lst (pes_cons (e_v 2) pes_nil)))))) (g_nm 4 nd) (ss_one (s_st (i := 3) nd (e_sh (e_bin o_mod (p_f (e_callTy o_int rfl h_int boot_int (pargs_cons (p_f (e_bin o_add (p_f (e_bin o_add (p_f (e_bin o_mul (p_v (e_v 3)) (p_f e_int))) (p_f (e_bin o_mod (p_f (e_callTy o_int rfl h_int boot_int (pargs_cons (p_v (e_v 4)) pargs_nil))) (p_f e_int))))) (p_f e_int))) pargs_nil))) (p_f e_int))))))
      (ss_one (s_retF (e_lst (pes_cons (e_sh (e_if (PW.pt (w_or (t_cmp (o_lt hr.units0) (p_v (e_v 2)) (p_f e_int) (nomark _)) (w_or1 (t_cmp o_ge (p_v (e_v 2)) (p_f (e_bin o_pow (p_f e_int) (p_f e_int))) (nomark _))))) (e_callB o_abs rfl h_abs boot_abs (pargs_cons (p_v (e_v 2)) pargs_nil)) e_int)) (pes_cons (e_v 3) (pes_cons (e_sh e_int) pes_nil))))))))))
  exact h
theorem ok__law_take {f : Addr} {fd : FuncData} (F : Fun K "_law_take" "_law_take" s__law_take f fd) (h_divmod : mg "divmod" = none) (h_int : mg "int" = none) : FnOk P w K mg base CX0 1 f fd ["well", "many"] (spP K ⟨[true, false], true⟩ m__law_take) := by
  have nd := sc__law_take.nd
  have h := fn_mk (P := P) (w := w) (mg := mg) (base := base) (sg := ⟨[true, false], true⟩) (k := 0) (body := b__law_take) F sc__law_take rfl (fun cdv A outer s H E hr => (ss_cons (s_if (t_cmp o_gt (p_v (e_ix o_ix (p_o 0) (p_f e_int) (fun _ _ => rfl))) (p_f e_int) (nomark _)) (ss_cons (s_asg (e_sh (e_callB o_divmod rfl h_divmod boot_divmod (pargs_cons (p_v (e_ix o_ix (p_o 0) (p_f e_int) (fun _ _ => rfl))) (pargs_cons (p_v (e_v 1)) pargs_nil)))) (g_t rfl (gs_cons (g_at 0 (e_sh e_int)) (gs_cons (g_nm 3 nd) gs_nil))))
      (ss_one (s_ro 3))) ss_nil)
      (ss_cons (s_asg (e_sh (e_bin o_add (p_v (e_ix o_ix (p_o 0) (p_f e_int) (fun _ _ => rfl))) (p_f e_int))) (g_at 0 (e_sh e_int)))
      (ss_cons (s_st (i := 2) nd (e_sh (e_bin o_add (p_f (e_bin o_mod (p_f (e_callTy o_int rfl h_int boot_int (pargs_cons (p_v (e_ix o_ix (p_o 0) (p_f e_int) (fun _ _ => rfl))) pargs_nil))) (p_f e_int))) (p_f e_int))))
      (ss_cons (s_asg (e_sh (e_bin o_mod (p_f (e_callTy o_int rfl h_int boot_int (pargs_cons (p_f (e_bin o_add (p_f (e_bin o_add (p_f (e_bin o_mul (p_v (e_ix o_ix (p_o 0) (p_f e_int) (fun _ _ => rfl))) (p_v (e_v 2)))) (p_f (e_bin o_mul (p_f e_int) (p_v (e_ix o_ix (p_o 0) (p_f e_int) (fun _ _ => rfl))))))) (p_f e_int))) pargs_nil))) (p_f e_int))) (g_at 0 (e_sh e_int)))
      (ss_one (s_retF (e_bin o_mod (p_f (e_callTy o_int rfl h_int boot_int (pargs_cons (p_f (e_bin o_fdiv (p_v (e_ix o_ix (p_o 0) (p_f e_int) (fun _ _ => rfl))) (p_f e_int))) pargs_nil))) (p_v (e_v 1))))))))))
  exact h
theorem ok__law_same {f : Addr} {fd : FuncData} (F : Fun K "_law_same" "_law_same" s__law_same f fd) (hmg : mg "_law_same" = some (.ref f)) (hbd : Binds K fd ["told", "due"] []) (h_all : mg "all" = none) (h_bool : mg "bool" = none) (h_int : mg "int" = none) (h_isinstance : mg "isinstance" = none) (h_len : mg "len" = none) (h_range : mg "range" = none) (h_str : mg "str" = none) (h_tuple : mg "tuple" = none) : ∀ n : Nat, FnOk P w K mg base CX0 (n + 1) f fd ["told", "due"] (spF K 2 true (m__law_same n))
  | 0 => by
    have h := fn_pure (P := P) (w := w) (mg := mg) (base := base) (fr := true) (np := 2) (k := 0) (body := sNever) F sc__law_same rfl (fun cdv A outer s H E hr => ⟨fun pins s σ H Dd I ⟨_, _, _, _, _, _, hm, _⟩ => by cases hm⟩)
    rw [Nat.zero_add]
    exact h.imp fun vs H Q E ⟨_, _, _, hm, _⟩ => by cases hm
  | n + 1 => by
    have nd := sc__law_same.nd
    have C__law_same : Callee P w K mg base "_law_same" (n + 1) ["told", "due"] [] (spF K 2 true (m__law_same n)) := ⟨f, fd, ok__law_same F hmg hbd h_all h_bool h_int h_isinstance h_len h_range h_str h_tuple n, hmg, F.kp, hbd, fun q hq => by cases hq⟩
    have h := fn_pure (P := P) (w := w) (mg := mg) (base := base) (fr := true) (np := 2) (k := n + 1) (body := b__law_same (m__law_same n)) F sc__law_same rfl (fun cdv A outer s H E hr => (ss_cons (s_if (t_truth (p_f (e_callB o_isi rfl h_isinstance boot_isinstance (pargs_cons (p_v (e_v 1)) (pargs_cons (p_v (e_ty rfl h_tuple boot_tuple)) pargs_nil))))) (ss_cons (s_if (PW.pt (w_or (t_not (t_truth (p_f (e_callB o_isi rfl h_isinstance boot_isinstance (pargs_cons (p_v (e_v 0)) (pargs_cons (p_v (e_ty rfl h_tuple boot_tuple)) pargs_nil)))))) (w_or1 (t_cmp (o_ne hr.units) (p_f (e_callB o_len rfl h_len boot_len (pargs_cons (p_v (e_v 0)) pargs_nil))) (p_f (e_callB o_len rfl h_len boot_len (pargs_cons (p_v (e_v 1)) pargs_nil))) (nomark _))))) (ss_one (s_retF e_bl)) ss_nil)
      (ss_one (s_retF (e_callB (o_all rfl) rfl h_all boot_all (pargs_cons (p_f (e_lc (own := [("at", 2)]) rfl nd (i_r1 rfl h_range (pes_cons (e_sh (e_callB o_len rfl h_len boot_len (pargs_cons (p_v (e_v 1)) pargs_nil))) pes_nil)) (blkOk_by (N := N__law_same) (sc := defScope s__law_same) (by decide +kernel)) (fun _ _ _ _ _ => (g_nm 2 nd)) (fun _ _ _ _ _ => ts_nil) (fun _ _ _ _ _ => (e_sh (c_call C__law_same hr (by omega) (pes_cons (e_ix o_ix (p_v (e_v 0)) (p_v (e_v 2)) (fun _ _ => rfl)) (pes_cons (e_ix o_ix (p_v (e_v 1)) (p_v (e_v 2)) (fun _ _ => rfl)) pes_nil))))))) pargs_nil))))) ss_nil)
      (ss_cons (s_if (PW.pt (w_or (t_cmp o_is (p_v (e_v 1)) (p_f e_non) (nomark _)) (w_or (t_cmp o_is (p_v (e_v 1)) (p_f e_bl) (nomark _)) (w_or1 (t_cmp o_is (p_v (e_v 1)) (p_f e_bl) (nomark _)))))) (ss_one (s_ret (e_or (e_and (e_sh (e_cmp o_is (p_v (e_v 1)) (p_f e_non) (nomark _))) (e_one (e_sh (e_cmp o_is (p_v (e_v 0)) (p_f e_non) (nomark _))))) (e_or (e_and (e_sh (e_cmp o_is (p_v (e_v 1)) (p_f e_bl) (nomark _))) (e_one (e_sh (e_cmp o_is (p_v (e_v 0)) (p_f e_bl) (nomark _))))) (e_one (e_and (e_sh (e_cmp o_is (p_v (e_v 1)) (p_f e_bl) (nomark _))) (e_one (e_sh (e_cmp o_is (p_v (e_v 0)) (p_f e_bl) (nomark _)))))))))) ss_nil)
      (ss_cons (s_if (t_truth (p_f (e_callB o_isi rfl h_isinstance boot_isinstance (pargs_cons (p_v (e_v 1)) (pargs_cons (p_v (e_ty rfl h_int boot_int)) pargs_nil))))) (ss_one (s_ret (e_and (e_sh (e_callB o_isi rfl h_isinstance boot_isinstance (pargs_cons (p_v (e_v 0)) (pargs_cons (p_v (e_ty rfl h_int boot_int)) pargs_nil)))) (e_and (e_sh (e_not (p_f (e_callB o_isi rfl h_isinstance boot_isinstance (pargs_cons (p_v (e_v 0)) (pargs_cons (p_v (e_ty rfl h_bool boot_bool)) pargs_nil)))))) (e_one (e_sh (e_cmp (o_eq hr.units) (p_v (e_v 0)) (p_v (e_v 1)) (nomark _)))))))) ss_nil)
      (ss_one (s_ret (e_and (e_sh (e_callB o_isi rfl h_isinstance boot_isinstance (pargs_cons (p_v (e_v 0)) (pargs_cons (p_v (e_ty rfl h_str boot_str)) pargs_nil)))) (e_one (e_sh (e_cmp (o_eq hr.units) (p_v (e_v 0)) (p_v (e_v 1)) (nomark _)))))))))))
    exact h
theorem ok__law_order {f : Addr} {fd : FuncData} (F : Fun K "_law_order" "_law_order" s__law_order f fd) (h_len : mg "len" = none) (h_list : mg "list" = none) (h_range : mg "range" = none) (h_tuple : mg "tuple" = none) (C__law_take : Callee P w K mg base "_law_take" 1 ["well", "many"] [] (spP K ⟨[true, false], true⟩ m__law_take)) : FnOk P w K mg base CX0 2 f fd ["well", "many"] (spP K ⟨[true, false], true⟩ m__law_order) := by
  have nd := sc__law_order.nd
  have h := fn_mk (P := P) (w := w) (mg := mg) (base := base) (sg := ⟨[true, false], true⟩) (k := 1) (body := b__law_order) F sc__law_order rfl (fun cdv A outer s H E hr => (ss_cons (s_p3 3 4 5 rfl nd (e_listRg1 rfl rfl h_list rfl h_range (e_v 1)) (e_lst pes_nil) (e_sh (c_callIo C__law_take hr (by decide) (pcas_cons (c_io 0) (pcas_cons (ca_f e_int) pcas_nil)))))
      (ss_cons (s_if (t_cmp (o_lt hr.units0) (p_v (e_v 5)) (p_f e_int) (nomark _)) (ss_cons (s_wh 16777216 (t_cmp (o_ne hr.units) (p_o 3) (p_f (e_lst pes_nil)) (nomark _)) (ss_one (s_expr (e_sh (m_apd 4 (m_popAt 3 (e_sh (c_callIo C__law_take hr (by decide) (pcas_cons (c_io 0) (pcas_cons (ca_f (e_callB o_len rfl h_len boot_len (pargs_cons (p_o 3) pargs_nil))) pcas_nil))))))))))
      (ss_one (s_retF (e_callTy o_tup rfl h_tuple boot_tuple (pargs_cons (p_o 4) pargs_nil))))) ss_nil)
      (ss_cons (s_if (t_cmp (o_eq hr.units) (p_v (e_v 5)) (p_f e_int) (nomark _)) (ss_one (s_ow (i := 3) nd (e_rev (e_v 3)))) ss_nil)
      (ss_cons (s_loop rfl (i_r1 rfl h_range (pes_cons (e_sh (e_if (t_cmp o_gt (p_v (e_v 1)) (p_f e_int) (nomark _)) (c_callIo C__law_take hr (by decide) (pcas_cons (c_io 0) (pcas_cons (ca_f e_int) pcas_nil))) e_int)) pes_nil)) (g_nm 2 nd) (ss_one (s_expr (e_sh (m_ins 3 (e_sh (c_callIo C__law_take hr (by decide) (pcas_cons (c_io 0) (pcas_cons (ca_v (e_v 1)) pcas_nil)))) (m_popAt 3 (e_sh (c_callIo C__law_take hr (by decide) (pcas_cons (c_io 0) (pcas_cons (ca_v (e_v 1)) pcas_nil))))))))))
      (ss_one (s_retF (e_callTy o_tup rfl h_tuple boot_tuple (pargs_cons (p_o 3) pargs_nil)))))))))
  exact h
theorem ok__law_runs {f : Addr} {fd : FuncData} (F : Fun K "_law_runs" "_law_runs" s__law_runs f fd) (h_enumerate : mg "enumerate" = none) (h_int : mg "int" = none) : FnOk P w K mg base CX0 1 f fd ["order"] (spF K 1 true m__law_runs) := by
  have nd := sc__law_runs.nd
  have h := fn_pure (P := P) (w := w) (mg := mg) (base := base) (fr := true) (np := 1) (k := 0) (body := b__law_runs) F sc__law_runs rfl (fun cdv A outer s H E hr => (ss_cons (s_ow (i := 1) nd (e_lst pes_nil))
      (ss_cons (s_loop rfl (i_en rfl h_enumerate (pes_cons (e_v 0) pes_nil)) (g_t rfl (gs_cons (g_nm 2 nd) (gs_cons (g_nm 3 nd) gs_nil))) (ss_cons (s_st (i := 4) nd (e_sh (e_if (t_cmp o_gt (p_v (e_v 2)) (p_f e_int) (nomark _)) (e_callTy o_int rfl h_int boot_int (pargs_cons (p_f (e_cmp o_gt (p_v (e_ix o_ix (p_v (e_v 0)) (p_f (e_bin o_sub (p_v (e_v 2)) (p_f e_int))) (fun _ _ => rfl))) (p_v (e_v 3)) (nomark _))) pargs_nil)) e_int)))
      (ss_one (s_expr (e_sh (m_apd 1 (e_sh (e_if (t_cmp o_gt (p_v (e_v 2)) (p_f e_int) (nomark _)) (e_bin o_add (p_v (e_ix o_ix (p_o 1) (p_f (e_un o_neg (p_f e_int))) (fun _ _ => rfl))) (p_v (e_v 4))) e_int))))))))
      (ss_one (s_ro 1)))))
  exact h
theorem ok__law_order_right {f : Addr} {fd : FuncData} (F : Fun K "_law_order_right" "_law_order_right" s__law_order_right f fd) (h_abs : mg "abs" = none) (h_len : mg "len" = none) (h_list : mg "list" = none) (h_tuple : mg "tuple" = none) (C__law_runs : Callee P w K mg base "_law_runs" 1 ["order"] [] (spF K 1 true m__law_runs)) (C__law_same : Callee P w K mg base "_law_same" 9 ["told", "due"] [] (spF K 2 true (m__law_same 8))) (C__law_take : Callee P w K mg base "_law_take" 1 ["well", "many"] [] (spP K ⟨[true, false], true⟩ m__law_take)) (C_new_holes : Callee P w K mg base "new_holes" 6 ["order"] [] (spF K 1 true m_new_holes)) (C_run_count : Callee P w K mg base "run_count" 6 ["order"] [(["order"], [0])] (spF K 1 true m_run_count)) : FnOk P w K mg base CX0 10 f fd ["well", "order"] (spP K ⟨[true, false], true⟩ m__law_order_right) := by
  have nd := sc__law_order_right.nd
  have h := fn_mk (P := P) (w := w) (mg := mg) (base := base) (sg := ⟨[true, false], true⟩) (k := 9) (body := b__law_order_right) F sc__law_order_right rfl (fun cdv A outer s H E hr => (ss_cons (s_st (i := 2) nd (e_sh (e_bin o_add (p_v (e_ix o_ix (p_f (c_call C__law_runs hr (by decide) (pes_cons (e_v 1) pes_nil))) (p_f (e_un o_neg (p_f e_int))) (fun _ _ => rfl))) (p_f e_int))))
      (ss_cons (s_if (t_not (t_truth (p_f (c_call C__law_same hr (by decide) (pes_cons (e_sh (e_tup (pes_cons (e_sh (c_call C_run_count hr (by decide) (pes_cons (e_v 1) pes_nil))) (pes_cons (e_sh (c_callK ["order"] [0] C_run_count hr (by decide) (pks_cons (e_v 1) pks_nil))) (pes_cons (e_sh (c_call C_run_count hr (by decide) (pes_cons (e_sh (e_rev (e_v 1))) pes_nil))) pes_nil))))) (pes_cons (e_sh (e_tup (pes_cons (e_v 2) (pes_cons (e_v 2) (pes_cons (e_sh (e_bin o_sub (p_f (e_bin o_add (p_f (e_callB o_len rfl h_len boot_len (pargs_cons (p_v (e_v 1)) pargs_nil))) (p_f e_int))) (p_v (e_v 2)))) pes_nil))))) pes_nil)))))) (ss_one (s_retF e_bl)) ss_nil)
      (ss_cons (s_st (i := 3) nd (e_sh e_int))
      (ss_cons (s_loop rfl (i_of (e_sh (c_call C_new_holes hr (by decide) (pes_cons (e_v 1) pes_nil)))) (g_nm 4 nd) (ss_one (s_st (i := 3) nd (e_sh (e_bin o_mul (p_f e_int) (p_v (e_v 3)))))))
      (ss_cons (s_if (PW.pt (w_or (t_cmp o_gt (p_v (e_v 2)) (p_v (e_v 3)) (nomark _)) (w_or1 (PW.pt (w_and (t_cmp o_gt (p_v (e_v 3)) (p_f e_int) (nomark _)) (w_and1 (t_cmp o_le (p_f (e_bin o_mul (p_f e_int) (p_v (e_v 2)))) (p_v (e_v 3)) (nomark _)))))))) (ss_one (s_retF e_bl)) ss_nil)
      (ss_cons (s_ow (i := 5) nd (e_callTy o_lst rfl h_list boot_list (pargs_cons (p_v (e_v 1)) pargs_nil)))
      (ss_cons (s_expr (e_sh (m_ins 5 (e_sh (c_callIo C__law_take hr (by decide) (pcas_cons (c_io 0) (pcas_cons (ca_f (e_callB o_len rfl h_len boot_len (pargs_cons (p_v (e_v 1)) pargs_nil))) pcas_nil)))) (m_popAt 5 (e_sh (c_callIo C__law_take hr (by decide) (pcas_cons (c_io 0) (pcas_cons (ca_f (e_callB o_len rfl h_len boot_len (pargs_cons (p_v (e_v 1)) pargs_nil))) pcas_nil))))))))
      (ss_one (s_ret (e_and (e_sh (e_cmp (o_lt hr.units0) (p_f (e_callB o_abs rfl h_abs boot_abs (pargs_cons (p_f (e_bin o_sub (p_f (c_call C_run_count hr (by decide) (pes_cons (e_sh (e_callTy o_tup rfl h_tuple boot_tuple (pargs_cons (p_o 5) pargs_nil))) pes_nil))) (p_v (e_v 2)))) pargs_nil))) (p_f e_int) (nomark _))) (e_one (e_sh (e_cmp (o_eq hr.units) (p_f (c_call C_run_count hr (by decide) (pes_cons (e_sh (e_callTy o_tup rfl h_tuple boot_tuple (pargs_cons (p_o 5) pargs_nil))) pes_nil))) (p_f (e_bin o_add (p_v (e_ix o_ix (p_f (c_callL C__law_runs hr (by decide) (pargs_cons (p_o 5) pargs_nil))) (p_f (e_un o_neg (p_f e_int))) (fun _ _ => rfl))) (p_f e_int))) (nomark _)))))))))))))))
  exact h
theorem ok__law_two_right {f : Addr} {fd : FuncData} (F : Fun K "_law_two_right" "_law_two_right" s__law_two_right f fd) (h_len : mg "len" = none) (h_tuple : mg "tuple" = none) (C__law_same : Callee P w K mg base "_law_same" 9 ["told", "due"] [] (spF K 2 true (m__law_same 8))) (C_run_count : Callee P w K mg base "run_count" 6 ["order"] [(["order"], [0])] (spF K 1 true m_run_count)) : FnOk P w K mg base CX0 10 f fd ["one", "other"] (spF K 2 true m__law_two_right) := by
  have nd := sc__law_two_right.nd
  have h := fn_pure (P := P) (w := w) (mg := mg) (base := base) (fr := true) (np := 2) (k := 9) (body := b__law_two_right) F sc__law_two_right rfl (fun cdv A outer s H E hr => (ss_cons (s_st (i := 2) nd (e_sh (e_bin o_add (p_v (e_v 0)) (p_f (e_callTy o_tup rfl h_tuple boot_tuple (pargs_cons (p_f (e_lc (own := [("each", 6)]) rfl nd (i_of (e_v 1)) (blkOk_by (N := N__law_two_right) (sc := defScope s__law_two_right) (by decide +kernel)) (fun _ _ _ _ _ => (g_nm 6 nd)) (fun _ _ _ _ _ => ts_nil) (fun _ _ _ _ _ => (e_sh (e_bin o_add (p_f (e_callB o_len rfl h_len boot_len (pargs_cons (p_v (e_v 0)) pargs_nil))) (p_v (e_v 6))))))) pargs_nil))))))
      (ss_cons (s_st (i := 3) nd (e_sh (e_bin o_add (p_f (e_callTy o_tup rfl h_tuple boot_tuple (pargs_cons (p_f (e_lc (own := [("each", 6)]) rfl nd (i_of (e_v 0)) (blkOk_by (N := N__law_two_right) (sc := defScope s__law_two_right) (by decide +kernel)) (fun _ _ _ _ _ => (g_nm 6 nd)) (fun _ _ _ _ _ => ts_nil) (fun _ _ _ _ _ => (e_sh (e_bin o_add (p_f (e_callB o_len rfl h_len boot_len (pargs_cons (p_v (e_v 1)) pargs_nil))) (p_v (e_v 6))))))) pargs_nil))) (p_v (e_v 1)))))
      (ss_cons (s_p2 4 5 rfl nd (e_sh (c_call C_run_count hr (by decide) (pes_cons (e_v 0) pes_nil))) (e_sh (c_call C_run_count hr (by decide) (pes_cons (e_v 1) pes_nil))))
      (ss_one (s_retF (c_call C__law_same hr (by decide) (pes_cons (e_sh (e_tup (pes_cons (e_sh (c_call C_run_count hr (by decide) (pes_cons (e_v 2) pes_nil))) (pes_cons (e_sh (c_call C_run_count hr (by decide) (pes_cons (e_v 3) pes_nil))) pes_nil)))) (pes_cons (e_sh (e_tup (pes_cons (e_sh (e_bin o_sub (p_f (e_bin o_add (p_v (e_v 4)) (p_v (e_v 5)))) (p_f e_int))) (pes_cons (e_sh (e_bin o_add (p_v (e_v 4)) (p_v (e_v 5)))) pes_nil)))) pes_nil)))))))))
  exact h
theorem ok__law_round {f : Addr} {fd : FuncData} (F : Fun K "_law_round" "_law_round" s__law_round f fd) (h_len : mg "len" = none) (h_range : mg "range" = none) (h_tuple : mg "tuple" = none) (C__law_order : Callee P w K mg base "_law_order" 2 ["well", "many"] [] (spP K ⟨[true, false], true⟩ m__law_order)) (C__law_order_right : Callee P w K mg base "_law_order_right" 10 ["well", "order"] [] (spP K ⟨[true, false], true⟩ m__law_order_right)) (C__law_same : Callee P w K mg base "_law_same" 9 ["told", "due"] [] (spF K 2 true (m__law_same 8))) (C__law_take : Callee P w K mg base "_law_take" 1 ["well", "many"] [] (spP K ⟨[true, false], true⟩ m__law_take)) (C__law_two_right : Callee P w K mg base "_law_two_right" 10 ["one", "other"] [] (spF K 2 true m__law_two_right)) (C_run_count : Callee P w K mg base "run_count" 6 ["order"] [(["order"], [0])] (spF K 1 true m_run_count)) : FnOk P w K mg base CX0 11 f fd ["well"] (spP K ⟨[true], true⟩ m__law_round) := by
  have nd := sc__law_round.nd
  have h := fn_mk (P := P) (w := w) (mg := mg) (base := base) (sg := ⟨[true], true⟩) (k := 10) (body := b__law_round) F sc__law_round rfl (fun cdv A outer s H E hr => (ss_cons (s_loop rfl (i_of (e_sh (e_lst (pes_cons (e_sh e_int) (pes_cons (e_sh (e_bin o_add (p_f e_int) (p_f (c_callIo C__law_take hr (by decide) (pcas_cons (c_io 0) (pcas_cons (ca_f e_int) pcas_nil)))))) (pes_cons (e_sh e_int) (pes_cons (e_sh (e_bin o_add (p_f e_int) (p_f (c_callIo C__law_take hr (by decide) (pcas_cons (c_io 0) (pcas_cons (ca_f e_int) pcas_nil)))))) (pes_cons (e_sh e_int) pes_nil)))))))) (g_nm 1 nd) (ss_cons (s_st (i := 3) nd (e_sh (c_callIo C__law_order hr (by decide) (pcas_cons (c_io 0) (pcas_cons (ca_v (e_v 1)) pcas_nil)))))
      (ss_cons (s_if (t_not (t_truth (p_f (c_callIo C__law_order_right hr (by decide) (pcas_cons (c_io 0) (pcas_cons (ca_v (e_v 3)) pcas_nil)))))) (ss_one (s_retF e_bl)) ss_nil)
      (ss_one (s_if (PW.pt (w_and (t_cmp (o_lt hr.units0) (p_v (e_v 1)) (p_f e_int) (nomark _)) (w_and1 (t_not (t_truth (p_f (c_call C__law_two_right hr (by decide) (pes_cons (e_v 3) (pes_cons (e_sh (c_callIo C__law_order hr (by decide) (pcas_cons (c_io 0) (pcas_cons (ca_f (e_bin o_add (p_f e_int) (p_f (c_callIo C__law_take hr (by decide) (pcas_cons (c_io 0) (pcas_cons (ca_f e_int) pcas_nil)))))) pcas_nil)))) pes_nil))))))))) (ss_one (s_retF e_bl)) ss_nil)))))
      (ss_cons (s_st (i := 2) nd (e_sh (e_tupRg1 rfl rfl h_tuple rfl h_range (e_sh (e_bin o_add (p_f e_int) (p_f (c_callIo C__law_take hr (by decide) (pcas_cons (c_io 0) (pcas_cons (ca_f e_int) pcas_nil)))))))))
      (ss_one (s_retF (c_call C__law_same hr (by decide) (pes_cons (e_sh (e_tup (pes_cons (e_sh (c_call C_run_count hr (by decide) (pes_cons (e_v 2) pes_nil))) (pes_cons (e_sh (c_call C_run_count hr (by decide) (pes_cons (e_sh (e_rev (e_v 2))) pes_nil))) pes_nil)))) (pes_cons (e_sh (e_tup (pes_cons (e_sh e_int) (pes_cons (e_sh (e_callB o_len rfl h_len boot_len (pargs_cons (p_v (e_v 2)) pargs_nil))) pes_nil)))) pes_nil))))))))
  exact h
theorem ok_law {f : Addr} {fd : FuncData} (F : Fun K "law" "law" s_law f fd) (h_all : mg "all" = none) (h_len : mg "len" = none) (h_max : mg "max" = none) (h_min : mg "min" = none) (h_range : mg "range" = none) (C__law_round : Callee P w K mg base "_law_round" 11 ["well"] [] (spP K ⟨[true], true⟩ m__law_round)) (C__law_well : Callee P w K mg base "_law_well" 1 ["script", "turn"] [] (spF K 2 true m__law_well)) : FnOk P w K mg base CX0 12 f fd ["script"] (spF K 1 true m_law) := by
  have nd := sc_law.nd
  have h := fn_pure (P := P) (w := w) (mg := mg) (base := base) (fr := true) (np := 1) (k := 11) (body := b_law) F sc_law rfl (fun cdv A outer s H E hr => (ss_one (s_retF (e_callB (o_all rfl) rfl h_all boot_all (pargs_cons (p_f (e_lc (own := [("turn", 1)]) rfl nd (i_r1 rfl h_range (pes_cons (e_sh (e_callB (o_max rfl) rfl h_max boot_max (pargs_cons (p_f e_int) (pargs_cons (p_f (e_callB (o_min rfl) rfl h_min boot_min (pargs_cons (p_f (e_callB o_len rfl h_len boot_len (pargs_cons (p_v (e_v 0)) pargs_nil))) (pargs_cons (p_f e_int) pargs_nil)))) pargs_nil)))) pes_nil)) (blkOk_by (N := N_law) (sc := defScope s_law) (by decide +kernel)) (fun _ _ _ _ _ => (g_nm 1 nd)) (fun _ _ _ _ _ => ts_nil) (fun _ _ _ _ _ => (e_sh (c_callIo C__law_round hr (by decide) (pcas_cons (ca_t (c_call C__law_well hr (by decide) (pes_cons (e_v 0) (pes_cons (e_v 1) pes_nil)))) pcas_nil)))))) pargs_nil)))))
  exact h
end
end K15
end

section
set_option maxRecDepth 100000
namespace K15
open PL PySem L2
set_option maxHeartbeats 1000000
theorem take_ok : Draws m__law_take := by
  intro w many hw h1 h2
  obtain ⟨a, b, c, rfl, ha, hb, hb2, hc⟩ := hw
  have s1 : b.natAbs < 18446744073709551616 := by omega
  have h3 : many.natAbs < 1073741824 := by omega
  have h0 : 0 < many := by omega
  by_cases h : 0 < a
  · refine ⟨a % many, .lst [.int (a / many), .int b, .int c], ?_, Int.emod_nonneg _ (by omega), Int.emod_lt_of_pos _ (by omega), _, _, _, rfl, Int.ediv_nonneg ha (by omega), hb, hb2, hc⟩
    simp only [m__law_take, b__law_take, runP, runFn, envOf, outsOf, retOf, sSeq, sAsg, sIf, sRet, sRetF, sRetN, sRetO, sDrop, sNop, sOwn, sFor, sForL, sWhile, sPar2, sPar3, sBk, sCt, slotOf, mkOwn, isMutD, gN, gT, gsC, gsN, gIx, free, peek, ownL, putL, eApp, evA, evL, eVar, eC, eTup, eLst, eIf, eOr, eAnd, eNot, eChain, eSl, oNo, oSo, eCall, eCallB, eCallK, eCallIo, evC, ioSl, putD, putOuts, ownD, perm, lent, tB_, tTr, tNo, tAn, tOrr, tTrue, asB, asI, truth, eRev, dRev, eRg1, eJoin, dJoin, eBits, eApd, ePopAt, ePop, eIns, eLc, wipeE, iOf, iR1, iR2, iR3, iEnM, iZpM, items, smallI, dAdd, dSub, dMul, dFdiv, dMod, dPow, dShl, dShr, dAnd, dOr, dXor, dNeg, dInv, dEq, dNe, dLt, dLe, dGt, dGe, dIs, isD, dIsNot, dIn, inD, dNotIn, dIsi, isiB, tyD, dLen, dAbs, dMax, dMin, dInt, dDivmod, dSum, dAll, dAny, dTup, dLst, dIx, dSl, scalD, deq, PL.small64, Option.bind_some, Option.map_some, Option.bind_none, Option.map_none, List.length_cons, List.length_nil, List.cons_append, List.nil_append, List.getElem?_cons_zero, List.getElem?_cons_succ, List.set_cons_zero, List.set_cons_succ, List.replicate_succ, List.replicate_zero, List.map_cons, List.map_nil, List.getD_cons_zero, List.getD_cons_succ, Nat.zero_add, Nat.reduceAdd, Nat.reduceSub, Nat.reduceEqDiff, if_true, if_false, ite_true, ite_false, Bool.false_eq_true, Bool.true_or, Bool.false_or, Bool.and_true, Bool.true_and, Bool.and_false, Bool.false_and, Bool.or_true, Bool.or_false, Bool.not_true, Bool.not_false, decide_true, decide_false, true_and, and_true, false_and, and_false, true_or, or_true, false_or, or_false, Option.some.injEq, reduceCtorEq, String.reduceEq, String.reduceBEq, beq_self_eq_true, decide_eq_true_eq, Bool.and_eq_true, Bool.or_eq_true, Bool.not_eq_true, ne_eq, not_true_eq_false, not_false_eq_true, and_self, or_self, Int.reduceAbs, Int.natAbs_neg, Nat.reducePow, Int.reduceLT, Int.reduceLE, Int.reducePow, Int.reduceNeg, Int.reduceAdd, Int.reduceSub, Int.reduceMul, Int.reduceDiv, Int.reduceMod, Int.reduceToNat, Int.reduceEq, Int.reduceBEq, Nat.reduceLT, Nat.reduceLeDiff, Nat.reduceMul, Nat.reduceBEq, Int.zero_add, Int.add_zero, Int.toNat_natCast, List.nodup_nil, List.nodup_cons, List.not_mem_nil, List.mem_cons, at0, at1, at2, ix0, ix1, ix2, h, h0, h2, h3]
  · refine ⟨((b * (b % 28657 + 40009) + 50023 * (c + 1) + 17) % 2147483563 / 83) % many, .lst [.int a, .int ((b * (b % 28657 + 40009) + 50023 * (c + 1) + 17) % 2147483563), .int (c + 1)], ?_, Int.emod_nonneg _ (by omega), Int.emod_lt_of_pos _ (by omega), _, _, _, rfl, ha, Int.emod_nonneg _ (by omega), by have := Int.emod_lt_of_pos (b * (b % 28657 + 40009) + 50023 * (c + 1) + 17) (show (0 : Int) < 2147483563 by omega); omega, by omega⟩
    simp only [m__law_take, b__law_take, runP, runFn, envOf, outsOf, retOf, sSeq, sAsg, sIf, sRet, sRetF, sRetN, sRetO, sDrop, sNop, sOwn, sFor, sForL, sWhile, sPar2, sPar3, sBk, sCt, slotOf, mkOwn, isMutD, gN, gT, gsC, gsN, gIx, free, peek, ownL, putL, eApp, evA, evL, eVar, eC, eTup, eLst, eIf, eOr, eAnd, eNot, eChain, eSl, oNo, oSo, eCall, eCallB, eCallK, eCallIo, evC, ioSl, putD, putOuts, ownD, perm, lent, tB_, tTr, tNo, tAn, tOrr, tTrue, asB, asI, truth, eRev, dRev, eRg1, eJoin, dJoin, eBits, eApd, ePopAt, ePop, eIns, eLc, wipeE, iOf, iR1, iR2, iR3, iEnM, iZpM, items, smallI, dAdd, dSub, dMul, dFdiv, dMod, dPow, dShl, dShr, dAnd, dOr, dXor, dNeg, dInv, dEq, dNe, dLt, dLe, dGt, dGe, dIs, isD, dIsNot, dIn, inD, dNotIn, dIsi, isiB, tyD, dLen, dAbs, dMax, dMin, dInt, dDivmod, dSum, dAll, dAny, dTup, dLst, dIx, dSl, scalD, deq, PL.small64, Option.bind_some, Option.map_some, Option.bind_none, Option.map_none, List.length_cons, List.length_nil, List.cons_append, List.nil_append, List.getElem?_cons_zero, List.getElem?_cons_succ, List.set_cons_zero, List.set_cons_succ, List.replicate_succ, List.replicate_zero, List.map_cons, List.map_nil, List.getD_cons_zero, List.getD_cons_succ, Nat.zero_add, Nat.reduceAdd, Nat.reduceSub, Nat.reduceEqDiff, if_true, if_false, ite_true, ite_false, Bool.false_eq_true, Bool.true_or, Bool.false_or, Bool.and_true, Bool.true_and, Bool.and_false, Bool.false_and, Bool.or_true, Bool.or_false, Bool.not_true, Bool.not_false, decide_true, decide_false, true_and, and_true, false_and, and_false, true_or, or_true, false_or, or_false, Option.some.injEq, reduceCtorEq, String.reduceEq, String.reduceBEq, beq_self_eq_true, decide_eq_true_eq, Bool.and_eq_true, Bool.or_eq_true, Bool.not_eq_true, ne_eq, not_true_eq_false, not_false_eq_true, and_self, or_self, Int.reduceAbs, Int.natAbs_neg, Nat.reducePow, Int.reduceLT, Int.reduceLE, Int.reducePow, Int.reduceNeg, Int.reduceAdd, Int.reduceSub, Int.reduceMul, Int.reduceDiv, Int.reduceMod, Int.reduceToNat, Int.reduceEq, Int.reduceBEq, Nat.reduceLT, Nat.reduceLeDiff, Nat.reduceMul, Nat.reduceBEq, Int.zero_add, Int.add_zero, Int.toNat_natCast, List.nodup_nil, List.nodup_cons, List.not_mem_nil, List.mem_cons, at0, at1, at2, ix0, ix1, ix2, h, h0, h2, h3, s1]
theorem well_ok : Pots m__law_well := by
  intro ns t hn ht
  have key : ∀ cell : Int, ∃ d e, (sSeq (sAsg (eApp dAdd [.v (eC (.int 50021)), .v (eApp dMul [.v (eC (.int 1013)), .v (eVar 1)])]) (gN 3))
    (sSeq (sFor (iOf (eApp dAdd [.v (eSl dSl (.v (eVar 0)) oNo (oSo (eC (.int 5)))), .v (eLst [eVar 2])])) (gN 4) (sAsg (eApp dMod [.v (eApp dInt [.v (eApp dAdd [.v (eApp dAdd [.v (eApp dMul [.v (eVar 3), .v (eC (.int 45013))]), .v (eApp dMod [.v (eApp dInt [.v (eVar 4)]), .v (eC (.int 2147483399))])]), .v (eC (.int 37))])]), .v (eC (.int 2147483563))]) (gN 3)))
    (sRetF (eLst [eIf (tOrr (tB_ (eApp dLt [.v (eVar 2), .v (eC (.int 0))])) (tB_ (eApp dGe [.v (eVar 2), .v (eApp dPow [.v (eC (.int 10)), .v (eC (.int 17))])]))) (eApp dAbs [.v (eVar 2)]) (eC (.int 0)), eVar 3, eC (.int 0)])))) [.shr (.lst (ns.map .int)), .shr (.int t), .shr (.int cell), .no, .no] = some (.rt true d, e) ∧ Wl d ∧ outsOf [false, false] e = some [.non, .non] := by
    intro cell
    have hl := cutL_len ns none (some 5)
    have hlen : (cutL ns none (some 5)).length + 1 ≤ 16777216 := by omega
    obtain ⟨e, h1, s4, x, rfl, h3, h4⟩ := for_inv (g := gN 4) (body := sAsg (eApp dMod [.v (eApp dInt [.v (eApp dAdd [.v (eApp dAdd [.v (eApp dMul [.v (eVar 3), .v (eC (.int 45013))]), .v (eApp dMod [.v (eApp dInt [.v (eVar 4)]), .v (eC (.int 2147483399))])]), .v (eC (.int 37))])]), .v (eC (.int 2147483563))]) (gN 3)) (((cutL ns none (some 5)) ++ [cell]).map .int)
      (fun _ env => ∃ (s4 : PL.Slot) (x : Int), env = [.shr (.lst (ns.map .int)), .shr (.int t), .shr (.int cell), .shr (.int x), s4] ∧ (0 ≤ x ∧ x < 2147483648) ∧ (s4 = .no ∨ ∃ d, s4 = .shr d))
      [.shr (.lst (ns.map .int)), .shr (.int t), .shr (.int cell), .shr (.int (50021 + 1013 * t)), .no] ⟨.no, _, rfl, by omega, .inl rfl⟩ (fun i d env hd hI => by
        obtain ⟨s4, x, rfl, hx, h4⟩ := hI
        rw [List.getElem?_map, Option.map_eq_some_iff] at hd
        obtain ⟨y, hy, rfl⟩ := hd
        have s1 : x.natAbs < 18446744073709551616 := by omega
        have hb := emod_b (x * 45013 + y % 2147483399 + 37) (show (0 : Int) < 2147483563 by omega)
        refine ⟨[.shr (.lst (ns.map .int)), .shr (.int t), .shr (.int cell), .shr (.int x), .shr (.int y)], [.shr (.lst (ns.map .int)), .shr (.int t), .shr (.int cell), .shr (.int ((x * 45013 + y % 2147483399 + 37) % 2147483563)), .shr (.int y)], .nx, ?_, ?_, .inl rfl, .shr (.int y), _, rfl, by omega, .inr ⟨_, rfl⟩⟩
        · rcases h4 with rfl | ⟨d, rfl⟩ <;> simp only [runP, runFn, envOf, outsOf, retOf, sSeq, sAsg, sIf, sRet, sRetF, sRetN, sRetO, sDrop, sNop, sOwn, sFor, sForL, sWhile, sPar2, sPar3, sBk, sCt, slotOf, mkOwn, isMutD, gN, gT, gsC, gsN, gIx, free, peek, ownL, putL, eApp, evA, evL, eVar, eC, eTup, eLst, eIf, eOr, eAnd, eNot, eChain, eSl, oNo, oSo, eCall, eCallB, eCallK, eCallIo, evC, ioSl, putD, putOuts, ownD, perm, lent, tB_, tTr, tNo, tAn, tOrr, tTrue, asB, asI, truth, eRev, dRev, eRg1, eJoin, dJoin, eBits, eApd, ePopAt, ePop, eIns, eLc, wipeE, iOf, iR1, iR2, iR3, iEnM, iZpM, items, smallI, dAdd, dSub, dMul, dFdiv, dMod, dPow, dShl, dShr, dAnd, dOr, dXor, dNeg, dInv, dEq, dNe, dLt, dLe, dGt, dGe, dIs, isD, dIsNot, dIn, inD, dNotIn, dIsi, isiB, tyD, dLen, dAbs, dMax, dMin, dInt, dDivmod, dSum, dAll, dAny, dTup, dLst, dIx, dSl, scalD, deq, PL.small64, Option.bind_some, Option.map_some, Option.bind_none, Option.map_none, List.length_cons, List.length_nil, List.cons_append, List.nil_append, List.getElem?_cons_zero, List.getElem?_cons_succ, List.set_cons_zero, List.set_cons_succ, List.replicate_succ, List.replicate_zero, List.map_cons, List.map_nil, List.getD_cons_zero, List.getD_cons_succ, Nat.zero_add, Nat.reduceAdd, Nat.reduceSub, Nat.reduceEqDiff, if_true, if_false, ite_true, ite_false, Bool.false_eq_true, Bool.true_or, Bool.false_or, Bool.and_true, Bool.true_and, Bool.and_false, Bool.false_and, Bool.or_true, Bool.or_false, Bool.not_true, Bool.not_false, decide_true, decide_false, true_and, and_true, false_and, and_false, true_or, or_true, false_or, or_false, Option.some.injEq, reduceCtorEq, String.reduceEq, String.reduceBEq, beq_self_eq_true, decide_eq_true_eq, Bool.and_eq_true, Bool.or_eq_true, Bool.not_eq_true, ne_eq, not_true_eq_false, not_false_eq_true, and_self, or_self, Int.reduceAbs, Int.natAbs_neg, Nat.reducePow, Int.reduceLT, Int.reduceLE, Int.reducePow, Int.reduceNeg, Int.reduceAdd, Int.reduceSub, Int.reduceMul, Int.reduceDiv, Int.reduceMod, Int.reduceToNat, Int.reduceEq, Int.reduceBEq, Nat.reduceLT, Nat.reduceLeDiff, Nat.reduceMul, Nat.reduceBEq, Int.zero_add, Int.add_zero, Int.toNat_natCast, List.nodup_nil, List.nodup_cons, List.not_mem_nil, List.mem_cons]
        · simp only [runP, runFn, envOf, outsOf, retOf, sSeq, sAsg, sIf, sRet, sRetF, sRetN, sRetO, sDrop, sNop, sOwn, sFor, sForL, sWhile, sPar2, sPar3, sBk, sCt, slotOf, mkOwn, isMutD, gN, gT, gsC, gsN, gIx, free, peek, ownL, putL, eApp, evA, evL, eVar, eC, eTup, eLst, eIf, eOr, eAnd, eNot, eChain, eSl, oNo, oSo, eCall, eCallB, eCallK, eCallIo, evC, ioSl, putD, putOuts, ownD, perm, lent, tB_, tTr, tNo, tAn, tOrr, tTrue, asB, asI, truth, eRev, dRev, eRg1, eJoin, dJoin, eBits, eApd, ePopAt, ePop, eIns, eLc, wipeE, iOf, iR1, iR2, iR3, iEnM, iZpM, items, smallI, dAdd, dSub, dMul, dFdiv, dMod, dPow, dShl, dShr, dAnd, dOr, dXor, dNeg, dInv, dEq, dNe, dLt, dLe, dGt, dGe, dIs, isD, dIsNot, dIn, inD, dNotIn, dIsi, isiB, tyD, dLen, dAbs, dMax, dMin, dInt, dDivmod, dSum, dAll, dAny, dTup, dLst, dIx, dSl, scalD, deq, PL.small64, Option.bind_some, Option.map_some, Option.bind_none, Option.map_none, List.length_cons, List.length_nil, List.cons_append, List.nil_append, List.getElem?_cons_zero, List.getElem?_cons_succ, List.set_cons_zero, List.set_cons_succ, List.replicate_succ, List.replicate_zero, List.map_cons, List.map_nil, List.getD_cons_zero, List.getD_cons_succ, Nat.zero_add, Nat.reduceAdd, Nat.reduceSub, Nat.reduceEqDiff, if_true, if_false, ite_true, ite_false, Bool.false_eq_true, Bool.true_or, Bool.false_or, Bool.and_true, Bool.true_and, Bool.and_false, Bool.false_and, Bool.or_true, Bool.or_false, Bool.not_true, Bool.not_false, decide_true, decide_false, true_and, and_true, false_and, and_false, true_or, or_true, false_or, or_false, Option.some.injEq, reduceCtorEq, String.reduceEq, String.reduceBEq, beq_self_eq_true, decide_eq_true_eq, Bool.and_eq_true, Bool.or_eq_true, Bool.not_eq_true, ne_eq, not_true_eq_false, not_false_eq_true, and_self, or_self, Int.reduceAbs, Int.natAbs_neg, Nat.reducePow, Int.reduceLT, Int.reduceLE, Int.reducePow, Int.reduceNeg, Int.reduceAdd, Int.reduceSub, Int.reduceMul, Int.reduceDiv, Int.reduceMod, Int.reduceToNat, Int.reduceEq, Int.reduceBEq, Nat.reduceLT, Nat.reduceLeDiff, Nat.reduceMul, Nat.reduceBEq, Int.zero_add, Int.add_zero, Int.toNat_natCast, List.nodup_nil, List.nodup_cons, List.not_mem_nil, List.mem_cons, s1])
    rw [List.map_append, List.map_cons, List.map_nil] at h1
    by_cases hc : cell < 0
    · refine ⟨.lst [.int (-cell), .int x, .int 0], [.shr (.lst (ns.map .int)), .shr (.int t), .shr (.int cell), .shr (.int x), s4], ?_, ⟨_, _, _, rfl, by omega, h3.1, h3.2, by omega⟩, ?_⟩
      · simp only [runP, runFn, envOf, outsOf, retOf, sSeq, sAsg, sIf, sRet, sRetF, sRetN, sRetO, sDrop, sNop, sOwn, sFor, sForL, sWhile, sPar2, sPar3, sBk, sCt, slotOf, mkOwn, isMutD, gN, gT, gsC, gsN, gIx, free, peek, ownL, putL, eApp, evA, evL, eVar, eC, eTup, eLst, eIf, eOr, eAnd, eNot, eChain, eSl, oNo, oSo, eCall, eCallB, eCallK, eCallIo, evC, ioSl, putD, putOuts, ownD, perm, lent, tB_, tTr, tNo, tAn, tOrr, tTrue, asB, asI, truth, eRev, dRev, eRg1, eJoin, dJoin, eBits, eApd, ePopAt, ePop, eIns, eLc, wipeE, iOf, iR1, iR2, iR3, iEnM, iZpM, items, smallI, dAdd, dSub, dMul, dFdiv, dMod, dPow, dShl, dShr, dAnd, dOr, dXor, dNeg, dInv, dEq, dNe, dLt, dLe, dGt, dGe, dIs, isD, dIsNot, dIn, inD, dNotIn, dIsi, isiB, tyD, dLen, dAbs, dMax, dMin, dInt, dDivmod, dSum, dAll, dAny, dTup, dLst, dIx, dSl, scalD, deq, PL.small64, Option.bind_some, Option.map_some, Option.bind_none, Option.map_none, List.length_cons, List.length_nil, List.cons_append, List.nil_append, List.getElem?_cons_zero, List.getElem?_cons_succ, List.set_cons_zero, List.set_cons_succ, List.replicate_succ, List.replicate_zero, List.map_cons, List.map_nil, List.getD_cons_zero, List.getD_cons_succ, Nat.zero_add, Nat.reduceAdd, Nat.reduceSub, Nat.reduceEqDiff, if_true, if_false, ite_true, ite_false, Bool.false_eq_true, Bool.true_or, Bool.false_or, Bool.and_true, Bool.true_and, Bool.and_false, Bool.false_and, Bool.or_true, Bool.or_false, Bool.not_true, Bool.not_false, decide_true, decide_false, true_and, and_true, false_and, and_false, true_or, or_true, false_or, or_false, Option.some.injEq, reduceCtorEq, String.reduceEq, String.reduceBEq, beq_self_eq_true, decide_eq_true_eq, Bool.and_eq_true, Bool.or_eq_true, Bool.not_eq_true, ne_eq, not_true_eq_false, not_false_eq_true, and_self, or_self, Int.reduceAbs, Int.natAbs_neg, Nat.reducePow, Int.reduceLT, Int.reduceLE, Int.reducePow, Int.reduceNeg, Int.reduceAdd, Int.reduceSub, Int.reduceMul, Int.reduceDiv, Int.reduceMod, Int.reduceToNat, Int.reduceEq, Int.reduceBEq, Nat.reduceLT, Nat.reduceLeDiff, Nat.reduceMul, Nat.reduceBEq, Int.zero_add, Int.add_zero, Int.toNat_natCast, List.nodup_nil, List.nodup_cons, List.not_mem_nil, List.mem_cons, cutL_map, List.length_append, List.length_map, hlen, h1, hc]
      · simp only [runP, runFn, envOf, outsOf, retOf, sSeq, sAsg, sIf, sRet, sRetF, sRetN, sRetO, sDrop, sNop, sOwn, sFor, sForL, sWhile, sPar2, sPar3, sBk, sCt, slotOf, mkOwn, isMutD, gN, gT, gsC, gsN, gIx, free, peek, ownL, putL, eApp, evA, evL, eVar, eC, eTup, eLst, eIf, eOr, eAnd, eNot, eChain, eSl, oNo, oSo, eCall, eCallB, eCallK, eCallIo, evC, ioSl, putD, putOuts, ownD, perm, lent, tB_, tTr, tNo, tAn, tOrr, tTrue, asB, asI, truth, eRev, dRev, eRg1, eJoin, dJoin, eBits, eApd, ePopAt, ePop, eIns, eLc, wipeE, iOf, iR1, iR2, iR3, iEnM, iZpM, items, smallI, dAdd, dSub, dMul, dFdiv, dMod, dPow, dShl, dShr, dAnd, dOr, dXor, dNeg, dInv, dEq, dNe, dLt, dLe, dGt, dGe, dIs, isD, dIsNot, dIn, inD, dNotIn, dIsi, isiB, tyD, dLen, dAbs, dMax, dMin, dInt, dDivmod, dSum, dAll, dAny, dTup, dLst, dIx, dSl, scalD, deq, PL.small64, Option.bind_some, Option.map_some, Option.bind_none, Option.map_none, List.length_cons, List.length_nil, List.cons_append, List.nil_append, List.getElem?_cons_zero, List.getElem?_cons_succ, List.set_cons_zero, List.set_cons_succ, List.replicate_succ, List.replicate_zero, List.map_cons, List.map_nil, List.getD_cons_zero, List.getD_cons_succ, Nat.zero_add, Nat.reduceAdd, Nat.reduceSub, Nat.reduceEqDiff, if_true, if_false, ite_true, ite_false, Bool.false_eq_true, Bool.true_or, Bool.false_or, Bool.and_true, Bool.true_and, Bool.and_false, Bool.false_and, Bool.or_true, Bool.or_false, Bool.not_true, Bool.not_false, decide_true, decide_false, true_and, and_true, false_and, and_false, true_or, or_true, false_or, or_false, Option.some.injEq, reduceCtorEq, String.reduceEq, String.reduceBEq, beq_self_eq_true, decide_eq_true_eq, Bool.and_eq_true, Bool.or_eq_true, Bool.not_eq_true, ne_eq, not_true_eq_false, not_false_eq_true, and_self, or_self, Int.reduceAbs, Int.natAbs_neg, Nat.reducePow, Int.reduceLT, Int.reduceLE, Int.reducePow, Int.reduceNeg, Int.reduceAdd, Int.reduceSub, Int.reduceMul, Int.reduceDiv, Int.reduceMod, Int.reduceToNat, Int.reduceEq, Int.reduceBEq, Nat.reduceLT, Nat.reduceLeDiff, Nat.reduceMul, Nat.reduceBEq, Int.zero_add, Int.add_zero, Int.toNat_natCast, List.nodup_nil, List.nodup_cons, List.not_mem_nil, List.mem_cons]
    · by_cases hc2 : 100000000000000000 ≤ cell
      · refine ⟨.lst [.int cell, .int x, .int 0], [.shr (.lst (ns.map .int)), .shr (.int t), .shr (.int cell), .shr (.int x), s4], ?_, ⟨_, _, _, rfl, by omega, h3.1, h3.2, by omega⟩, ?_⟩
        · simp only [runP, runFn, envOf, outsOf, retOf, sSeq, sAsg, sIf, sRet, sRetF, sRetN, sRetO, sDrop, sNop, sOwn, sFor, sForL, sWhile, sPar2, sPar3, sBk, sCt, slotOf, mkOwn, isMutD, gN, gT, gsC, gsN, gIx, free, peek, ownL, putL, eApp, evA, evL, eVar, eC, eTup, eLst, eIf, eOr, eAnd, eNot, eChain, eSl, oNo, oSo, eCall, eCallB, eCallK, eCallIo, evC, ioSl, putD, putOuts, ownD, perm, lent, tB_, tTr, tNo, tAn, tOrr, tTrue, asB, asI, truth, eRev, dRev, eRg1, eJoin, dJoin, eBits, eApd, ePopAt, ePop, eIns, eLc, wipeE, iOf, iR1, iR2, iR3, iEnM, iZpM, items, smallI, dAdd, dSub, dMul, dFdiv, dMod, dPow, dShl, dShr, dAnd, dOr, dXor, dNeg, dInv, dEq, dNe, dLt, dLe, dGt, dGe, dIs, isD, dIsNot, dIn, inD, dNotIn, dIsi, isiB, tyD, dLen, dAbs, dMax, dMin, dInt, dDivmod, dSum, dAll, dAny, dTup, dLst, dIx, dSl, scalD, deq, PL.small64, Option.bind_some, Option.map_some, Option.bind_none, Option.map_none, List.length_cons, List.length_nil, List.cons_append, List.nil_append, List.getElem?_cons_zero, List.getElem?_cons_succ, List.set_cons_zero, List.set_cons_succ, List.replicate_succ, List.replicate_zero, List.map_cons, List.map_nil, List.getD_cons_zero, List.getD_cons_succ, Nat.zero_add, Nat.reduceAdd, Nat.reduceSub, Nat.reduceEqDiff, if_true, if_false, ite_true, ite_false, Bool.false_eq_true, Bool.true_or, Bool.false_or, Bool.and_true, Bool.true_and, Bool.and_false, Bool.false_and, Bool.or_true, Bool.or_false, Bool.not_true, Bool.not_false, decide_true, decide_false, true_and, and_true, false_and, and_false, true_or, or_true, false_or, or_false, Option.some.injEq, reduceCtorEq, String.reduceEq, String.reduceBEq, beq_self_eq_true, decide_eq_true_eq, Bool.and_eq_true, Bool.or_eq_true, Bool.not_eq_true, ne_eq, not_true_eq_false, not_false_eq_true, and_self, or_self, Int.reduceAbs, Int.natAbs_neg, Nat.reducePow, Int.reduceLT, Int.reduceLE, Int.reducePow, Int.reduceNeg, Int.reduceAdd, Int.reduceSub, Int.reduceMul, Int.reduceDiv, Int.reduceMod, Int.reduceToNat, Int.reduceEq, Int.reduceBEq, Nat.reduceLT, Nat.reduceLeDiff, Nat.reduceMul, Nat.reduceBEq, Int.zero_add, Int.add_zero, Int.toNat_natCast, List.nodup_nil, List.nodup_cons, List.not_mem_nil, List.mem_cons, cutL_map, List.length_append, List.length_map, hlen, h1, hc, hc2]
        · simp only [runP, runFn, envOf, outsOf, retOf, sSeq, sAsg, sIf, sRet, sRetF, sRetN, sRetO, sDrop, sNop, sOwn, sFor, sForL, sWhile, sPar2, sPar3, sBk, sCt, slotOf, mkOwn, isMutD, gN, gT, gsC, gsN, gIx, free, peek, ownL, putL, eApp, evA, evL, eVar, eC, eTup, eLst, eIf, eOr, eAnd, eNot, eChain, eSl, oNo, oSo, eCall, eCallB, eCallK, eCallIo, evC, ioSl, putD, putOuts, ownD, perm, lent, tB_, tTr, tNo, tAn, tOrr, tTrue, asB, asI, truth, eRev, dRev, eRg1, eJoin, dJoin, eBits, eApd, ePopAt, ePop, eIns, eLc, wipeE, iOf, iR1, iR2, iR3, iEnM, iZpM, items, smallI, dAdd, dSub, dMul, dFdiv, dMod, dPow, dShl, dShr, dAnd, dOr, dXor, dNeg, dInv, dEq, dNe, dLt, dLe, dGt, dGe, dIs, isD, dIsNot, dIn, inD, dNotIn, dIsi, isiB, tyD, dLen, dAbs, dMax, dMin, dInt, dDivmod, dSum, dAll, dAny, dTup, dLst, dIx, dSl, scalD, deq, PL.small64, Option.bind_some, Option.map_some, Option.bind_none, Option.map_none, List.length_cons, List.length_nil, List.cons_append, List.nil_append, List.getElem?_cons_zero, List.getElem?_cons_succ, List.set_cons_zero, List.set_cons_succ, List.replicate_succ, List.replicate_zero, List.map_cons, List.map_nil, List.getD_cons_zero, List.getD_cons_succ, Nat.zero_add, Nat.reduceAdd, Nat.reduceSub, Nat.reduceEqDiff, if_true, if_false, ite_true, ite_false, Bool.false_eq_true, Bool.true_or, Bool.false_or, Bool.and_true, Bool.true_and, Bool.and_false, Bool.false_and, Bool.or_true, Bool.or_false, Bool.not_true, Bool.not_false, decide_true, decide_false, true_and, and_true, false_and, and_false, true_or, or_true, false_or, or_false, Option.some.injEq, reduceCtorEq, String.reduceEq, String.reduceBEq, beq_self_eq_true, decide_eq_true_eq, Bool.and_eq_true, Bool.or_eq_true, Bool.not_eq_true, ne_eq, not_true_eq_false, not_false_eq_true, and_self, or_self, Int.reduceAbs, Int.natAbs_neg, Nat.reducePow, Int.reduceLT, Int.reduceLE, Int.reducePow, Int.reduceNeg, Int.reduceAdd, Int.reduceSub, Int.reduceMul, Int.reduceDiv, Int.reduceMod, Int.reduceToNat, Int.reduceEq, Int.reduceBEq, Nat.reduceLT, Nat.reduceLeDiff, Nat.reduceMul, Nat.reduceBEq, Int.zero_add, Int.add_zero, Int.toNat_natCast, List.nodup_nil, List.nodup_cons, List.not_mem_nil, List.mem_cons]
      · refine ⟨.lst [.int 0, .int x, .int 0], [.shr (.lst (ns.map .int)), .shr (.int t), .shr (.int cell), .shr (.int x), s4], ?_, ⟨_, _, _, rfl, by omega, h3.1, h3.2, by omega⟩, ?_⟩
        · simp only [runP, runFn, envOf, outsOf, retOf, sSeq, sAsg, sIf, sRet, sRetF, sRetN, sRetO, sDrop, sNop, sOwn, sFor, sForL, sWhile, sPar2, sPar3, sBk, sCt, slotOf, mkOwn, isMutD, gN, gT, gsC, gsN, gIx, free, peek, ownL, putL, eApp, evA, evL, eVar, eC, eTup, eLst, eIf, eOr, eAnd, eNot, eChain, eSl, oNo, oSo, eCall, eCallB, eCallK, eCallIo, evC, ioSl, putD, putOuts, ownD, perm, lent, tB_, tTr, tNo, tAn, tOrr, tTrue, asB, asI, truth, eRev, dRev, eRg1, eJoin, dJoin, eBits, eApd, ePopAt, ePop, eIns, eLc, wipeE, iOf, iR1, iR2, iR3, iEnM, iZpM, items, smallI, dAdd, dSub, dMul, dFdiv, dMod, dPow, dShl, dShr, dAnd, dOr, dXor, dNeg, dInv, dEq, dNe, dLt, dLe, dGt, dGe, dIs, isD, dIsNot, dIn, inD, dNotIn, dIsi, isiB, tyD, dLen, dAbs, dMax, dMin, dInt, dDivmod, dSum, dAll, dAny, dTup, dLst, dIx, dSl, scalD, deq, PL.small64, Option.bind_some, Option.map_some, Option.bind_none, Option.map_none, List.length_cons, List.length_nil, List.cons_append, List.nil_append, List.getElem?_cons_zero, List.getElem?_cons_succ, List.set_cons_zero, List.set_cons_succ, List.replicate_succ, List.replicate_zero, List.map_cons, List.map_nil, List.getD_cons_zero, List.getD_cons_succ, Nat.zero_add, Nat.reduceAdd, Nat.reduceSub, Nat.reduceEqDiff, if_true, if_false, ite_true, ite_false, Bool.false_eq_true, Bool.true_or, Bool.false_or, Bool.and_true, Bool.true_and, Bool.and_false, Bool.false_and, Bool.or_true, Bool.or_false, Bool.not_true, Bool.not_false, decide_true, decide_false, true_and, and_true, false_and, and_false, true_or, or_true, false_or, or_false, Option.some.injEq, reduceCtorEq, String.reduceEq, String.reduceBEq, beq_self_eq_true, decide_eq_true_eq, Bool.and_eq_true, Bool.or_eq_true, Bool.not_eq_true, ne_eq, not_true_eq_false, not_false_eq_true, and_self, or_self, Int.reduceAbs, Int.natAbs_neg, Nat.reducePow, Int.reduceLT, Int.reduceLE, Int.reducePow, Int.reduceNeg, Int.reduceAdd, Int.reduceSub, Int.reduceMul, Int.reduceDiv, Int.reduceMod, Int.reduceToNat, Int.reduceEq, Int.reduceBEq, Nat.reduceLT, Nat.reduceLeDiff, Nat.reduceMul, Nat.reduceBEq, Int.zero_add, Int.add_zero, Int.toNat_natCast, List.nodup_nil, List.nodup_cons, List.not_mem_nil, List.mem_cons, cutL_map, List.length_append, List.length_map, hlen, h1, hc, hc2]
        · simp only [runP, runFn, envOf, outsOf, retOf, sSeq, sAsg, sIf, sRet, sRetF, sRetN, sRetO, sDrop, sNop, sOwn, sFor, sForL, sWhile, sPar2, sPar3, sBk, sCt, slotOf, mkOwn, isMutD, gN, gT, gsC, gsN, gIx, free, peek, ownL, putL, eApp, evA, evL, eVar, eC, eTup, eLst, eIf, eOr, eAnd, eNot, eChain, eSl, oNo, oSo, eCall, eCallB, eCallK, eCallIo, evC, ioSl, putD, putOuts, ownD, perm, lent, tB_, tTr, tNo, tAn, tOrr, tTrue, asB, asI, truth, eRev, dRev, eRg1, eJoin, dJoin, eBits, eApd, ePopAt, ePop, eIns, eLc, wipeE, iOf, iR1, iR2, iR3, iEnM, iZpM, items, smallI, dAdd, dSub, dMul, dFdiv, dMod, dPow, dShl, dShr, dAnd, dOr, dXor, dNeg, dInv, dEq, dNe, dLt, dLe, dGt, dGe, dIs, isD, dIsNot, dIn, inD, dNotIn, dIsi, isiB, tyD, dLen, dAbs, dMax, dMin, dInt, dDivmod, dSum, dAll, dAny, dTup, dLst, dIx, dSl, scalD, deq, PL.small64, Option.bind_some, Option.map_some, Option.bind_none, Option.map_none, List.length_cons, List.length_nil, List.cons_append, List.nil_append, List.getElem?_cons_zero, List.getElem?_cons_succ, List.set_cons_zero, List.set_cons_succ, List.replicate_succ, List.replicate_zero, List.map_cons, List.map_nil, List.getD_cons_zero, List.getD_cons_succ, Nat.zero_add, Nat.reduceAdd, Nat.reduceSub, Nat.reduceEqDiff, if_true, if_false, ite_true, ite_false, Bool.false_eq_true, Bool.true_or, Bool.false_or, Bool.and_true, Bool.true_and, Bool.and_false, Bool.false_and, Bool.or_true, Bool.or_false, Bool.not_true, Bool.not_false, decide_true, decide_false, true_and, and_true, false_and, and_false, true_or, or_true, false_or, or_false, Option.some.injEq, reduceCtorEq, String.reduceEq, String.reduceBEq, beq_self_eq_true, decide_eq_true_eq, Bool.and_eq_true, Bool.or_eq_true, Bool.not_eq_true, ne_eq, not_true_eq_false, not_false_eq_true, and_self, or_self, Int.reduceAbs, Int.natAbs_neg, Nat.reducePow, Int.reduceLT, Int.reduceLE, Int.reducePow, Int.reduceNeg, Int.reduceAdd, Int.reduceSub, Int.reduceMul, Int.reduceDiv, Int.reduceMod, Int.reduceToNat, Int.reduceEq, Int.reduceBEq, Nat.reduceLT, Nat.reduceLeDiff, Nat.reduceMul, Nat.reduceBEq, Int.zero_add, Int.add_zero, Int.toNat_natCast, List.nodup_nil, List.nodup_cons, List.not_mem_nil, List.mem_cons]
  have fin : ∀ cell : Int, (eIf (tB_ (eApp dLt [.v (eVar 1), .v (eApp dLen [.v (eVar 0)])])) (eApp dInt [.v (eApp dIx [.v (eVar 0), .v (eVar 1)])]) (eApp dAdd [.v (eApp dAdd [.v (eApp dMul [.v (eC (.int 9311)), .v (eVar 1)]), .v (eApp dMod [.v (eApp dInt [.v (eApp dSum [.v (eSl dSl (.v (eVar 0)) oNo (oSo (eC (.int 2))))])]), .v (eC (.int 1000003))])]), .v (eC (.int 71))])) [.shr (.lst (ns.map .int)), .shr (.int t), .no, .no, .no] = some (.int cell, [.shr (.lst (ns.map .int)), .shr (.int t), .no, .no, .no]) →
      ∃ w, m__law_well [.lst (ns.map .int), .int (t : Nat)] = some w ∧ Wl w := by
    intro cell hcell
    obtain ⟨d, e, h1, h2, h3⟩ := key cell
    refine ⟨d, ?_, h2⟩
    have e1 : b__law_well [.shr (.lst (ns.map .int)), .shr (.int t), .no, .no, .no] = some (.rt true d, e) := (seq_nx (asg_nx hcell rfl)).trans h1
    exact runP_of rfl e1 h3
  by_cases h : t < ns.length
  · have hi : (t : Int) < (ns.length : Int) := by omega
    refine fin ns[t] ?_
    simp only [runP, runFn, envOf, outsOf, retOf, sSeq, sAsg, sIf, sRet, sRetF, sRetN, sRetO, sDrop, sNop, sOwn, sFor, sForL, sWhile, sPar2, sPar3, sBk, sCt, slotOf, mkOwn, isMutD, gN, gT, gsC, gsN, gIx, free, peek, ownL, putL, eApp, evA, evL, eVar, eC, eTup, eLst, eIf, eOr, eAnd, eNot, eChain, eSl, oNo, oSo, eCall, eCallB, eCallK, eCallIo, evC, ioSl, putD, putOuts, ownD, perm, lent, tB_, tTr, tNo, tAn, tOrr, tTrue, asB, asI, truth, eRev, dRev, eRg1, eJoin, dJoin, eBits, eApd, ePopAt, ePop, eIns, eLc, wipeE, iOf, iR1, iR2, iR3, iEnM, iZpM, items, smallI, dAdd, dSub, dMul, dFdiv, dMod, dPow, dShl, dShr, dAnd, dOr, dXor, dNeg, dInv, dEq, dNe, dLt, dLe, dGt, dGe, dIs, isD, dIsNot, dIn, inD, dNotIn, dIsi, isiB, tyD, dLen, dAbs, dMax, dMin, dInt, dDivmod, dSum, dAll, dAny, dTup, dLst, dIx, dSl, scalD, deq, PL.small64, Option.bind_some, Option.map_some, Option.bind_none, Option.map_none, List.length_cons, List.length_nil, List.cons_append, List.nil_append, List.getElem?_cons_zero, List.getElem?_cons_succ, List.set_cons_zero, List.set_cons_succ, List.replicate_succ, List.replicate_zero, List.map_cons, List.map_nil, List.getD_cons_zero, List.getD_cons_succ, Nat.zero_add, Nat.reduceAdd, Nat.reduceSub, Nat.reduceEqDiff, if_true, if_false, ite_true, ite_false, Bool.false_eq_true, Bool.true_or, Bool.false_or, Bool.and_true, Bool.true_and, Bool.and_false, Bool.false_and, Bool.or_true, Bool.or_false, Bool.not_true, Bool.not_false, decide_true, decide_false, true_and, and_true, false_and, and_false, true_or, or_true, false_or, or_false, Option.some.injEq, reduceCtorEq, String.reduceEq, String.reduceBEq, beq_self_eq_true, decide_eq_true_eq, Bool.and_eq_true, Bool.or_eq_true, Bool.not_eq_true, ne_eq, not_true_eq_false, not_false_eq_true, and_self, or_self, Int.reduceAbs, Int.natAbs_neg, Nat.reducePow, Int.reduceLT, Int.reduceLE, Int.reducePow, Int.reduceNeg, Int.reduceAdd, Int.reduceSub, Int.reduceMul, Int.reduceDiv, Int.reduceMod, Int.reduceToNat, Int.reduceEq, Int.reduceBEq, Nat.reduceLT, Nat.reduceLeDiff, Nat.reduceMul, Nat.reduceBEq, Int.zero_add, Int.add_zero, Int.toNat_natCast, List.nodup_nil, List.nodup_cons, List.not_mem_nil, List.mem_cons, List.length_map, hi, atI_map, atI_lt h]
  · have hi : ¬ (t : Int) < (ns.length : Int) := by omega
    refine fin (9311 * t + (cutL ns none (some 2)).sum % 1000003 + 71) ?_
    simp only [runP, runFn, envOf, outsOf, retOf, sSeq, sAsg, sIf, sRet, sRetF, sRetN, sRetO, sDrop, sNop, sOwn, sFor, sForL, sWhile, sPar2, sPar3, sBk, sCt, slotOf, mkOwn, isMutD, gN, gT, gsC, gsN, gIx, free, peek, ownL, putL, eApp, evA, evL, eVar, eC, eTup, eLst, eIf, eOr, eAnd, eNot, eChain, eSl, oNo, oSo, eCall, eCallB, eCallK, eCallIo, evC, ioSl, putD, putOuts, ownD, perm, lent, tB_, tTr, tNo, tAn, tOrr, tTrue, asB, asI, truth, eRev, dRev, eRg1, eJoin, dJoin, eBits, eApd, ePopAt, ePop, eIns, eLc, wipeE, iOf, iR1, iR2, iR3, iEnM, iZpM, items, smallI, dAdd, dSub, dMul, dFdiv, dMod, dPow, dShl, dShr, dAnd, dOr, dXor, dNeg, dInv, dEq, dNe, dLt, dLe, dGt, dGe, dIs, isD, dIsNot, dIn, inD, dNotIn, dIsi, isiB, tyD, dLen, dAbs, dMax, dMin, dInt, dDivmod, dSum, dAll, dAny, dTup, dLst, dIx, dSl, scalD, deq, PL.small64, Option.bind_some, Option.map_some, Option.bind_none, Option.map_none, List.length_cons, List.length_nil, List.cons_append, List.nil_append, List.getElem?_cons_zero, List.getElem?_cons_succ, List.set_cons_zero, List.set_cons_succ, List.replicate_succ, List.replicate_zero, List.map_cons, List.map_nil, List.getD_cons_zero, List.getD_cons_succ, Nat.zero_add, Nat.reduceAdd, Nat.reduceSub, Nat.reduceEqDiff, if_true, if_false, ite_true, ite_false, Bool.false_eq_true, Bool.true_or, Bool.false_or, Bool.and_true, Bool.true_and, Bool.and_false, Bool.false_and, Bool.or_true, Bool.or_false, Bool.not_true, Bool.not_false, decide_true, decide_false, true_and, and_true, false_and, and_false, true_or, or_true, false_or, or_false, Option.some.injEq, reduceCtorEq, String.reduceEq, String.reduceBEq, beq_self_eq_true, decide_eq_true_eq, Bool.and_eq_true, Bool.or_eq_true, Bool.not_eq_true, ne_eq, not_true_eq_false, not_false_eq_true, and_self, or_self, Int.reduceAbs, Int.natAbs_neg, Nat.reducePow, Int.reduceLT, Int.reduceLE, Int.reducePow, Int.reduceNeg, Int.reduceAdd, Int.reduceSub, Int.reduceMul, Int.reduceDiv, Int.reduceMod, Int.reduceToNat, Int.reduceEq, Int.reduceBEq, Nat.reduceLT, Nat.reduceLeDiff, Nat.reduceMul, Nat.reduceBEq, Int.zero_add, Int.add_zero, Int.toNat_natCast, List.nodup_nil, List.nodup_cons, List.not_mem_nil, List.mem_cons, List.length_map, hi, cutL_map, intsD_map]

theorem noLsts_get : ∀ {ds : List D} {i : Nat} {d : D}, noLsts ds = true → ds[i]? = some d → noLst d = true
  | [], _, _, _, h => by cases h
  | d :: ds, 0, e, h, g => by rw [noLsts, Bool.and_eq_true] at h; cases g; exact h.1
  | d :: ds, i + 1, e, h, g => by rw [noLsts, Bool.and_eq_true] at h; exact noLsts_get h.2 (by simpa using g)
theorem same_seq (n : Nat) (ds : List D) (ih : ∀ d, okS d n = true → noLst d = true → m__law_same (n + 1) [d, d] = some (.bl true)) (hz : ds.length ≤ 16777216) (hs : okSs ds n = true) (hno : noLsts ds = true) (S : D) (hS : S = .tup ds) :
    eApp dAll [.v (eLc (iR1 (eApp dLen [.v (eVar 1)])) [2] (gN 2) (tTrue) (eCall 2 (m__law_same (n + 1)) [eApp dIx [.v (eVar 0), .v (eVar 2)], eApp dIx [.v (eVar 1), .v (eVar 2)]]))] [.shr S, .shr S, .no] = some (.bl true, [.shr S, .shr S, .no]) := by
  subst hS
  have hl := lc_map (vs := [2]) (g := gN 2) (t := tTrue) (m := eCall 2 (m__law_same (n + 1)) [eApp dIx [.v (eVar 0), .v (eVar 2)], eApp dIx [.v (eVar 1), .v (eVar 2)]]) (rngD 0 ds.length) [.shr (.tup ds), .shr (.tup ds), .no] (fun _ => .bl true) (fun d hd => by
    obtain ⟨i, hi, rfl⟩ := mem_rngD hd
    rw [Int.zero_add]
    have hgt := List.getElem?_eq_getElem hi
    have hg := ih ds[i] (okSs_get hs hgt) (noLsts_get hno hgt)
    have hx : dIx [.tup ds, .int i] = some ds[i] := atI_lt hi
    refine ⟨[.shr (.tup ds), .shr (.tup ds), .shr (.int i)], [.shr (.tup ds), .shr (.tup ds), .shr (.int i)], [.shr (.tup ds), .shr (.tup ds), .shr (.int i)], rfl, rfl, ?_, rfl⟩
    exact call_of (evLc (app_of (ev2 rfl rfl) hx) (evLc (app_of (ev2 rfl rfl) hx) evL0)) rfl hg)
  rw [map_rep, rngD_len] at hl
  refine app_of (ev1 (lc_of (r1_of (n := ds.length) rfl hz) (by rw [rngD_len]; exact hz) rfl hl)) ?_
  show (blsD _).map _ = _
  rw [blsD_rep]
  show some (D.bl _) = _
  rw [all_rep]
theorem same_ok : ∀ (n : Nat) (d : D), okS d n = true → noLst d = true → m__law_same (n + 1) [d, d] = some (.bl true)
  | n, .non, _, _ => runP_of (e := [.shr .non, .shr .non, .no]) rfl ((seq_nx rfl).trans ((seq_rt rfl))) rfl
  | n, .bl true, _, _ => runP_of (e := [.shr (.bl true), .shr (.bl true), .no]) rfl ((seq_nx rfl).trans (seq_rt rfl)) rfl
  | n, .bl false, _, _ => runP_of (e := [.shr (.bl false), .shr (.bl false), .no]) rfl ((seq_nx rfl).trans (seq_rt rfl)) rfl
  | n, .int b, _, _ => runP_of (e := [.shr (.int b), .shr (.int b), .no]) rfl ((seq_nx rfl).trans ((seq_nx rfl).trans (seq_rt (by simp only [runP, runFn, envOf, outsOf, retOf, sSeq, sAsg, sIf, sRet, sRetF, sRetN, sRetO, sDrop, sNop, sOwn, sFor, sForL, sWhile, sPar2, sPar3, sBk, sCt, slotOf, mkOwn, isMutD, gN, gT, gsC, gsN, gIx, free, peek, ownL, putL, eApp, evA, evL, eVar, eC, eTup, eLst, eIf, eOr, eAnd, eNot, eChain, eSl, oNo, oSo, eCall, eCallB, eCallK, eCallIo, evC, ioSl, putD, putOuts, ownD, perm, lent, tB_, tTr, tNo, tAn, tOrr, tTrue, asB, asI, truth, eRev, dRev, eRg1, eJoin, dJoin, eBits, eApd, ePopAt, ePop, eIns, eLc, wipeE, iOf, iR1, iR2, iR3, iEnM, iZpM, items, smallI, dAdd, dSub, dMul, dFdiv, dMod, dPow, dShl, dShr, dAnd, dOr, dXor, dNeg, dInv, dEq, dNe, dLt, dLe, dGt, dGe, dIs, isD, dIsNot, dIn, inD, dNotIn, dIsi, isiB, tyD, dLen, dAbs, dMax, dMin, dInt, dDivmod, dSum, dAll, dAny, dTup, dLst, dIx, dSl, scalD, deq, PL.small64, Option.bind_some, Option.map_some, Option.bind_none, Option.map_none, List.length_cons, List.length_nil, List.cons_append, List.nil_append, List.getElem?_cons_zero, List.getElem?_cons_succ, List.set_cons_zero, List.set_cons_succ, List.replicate_succ, List.replicate_zero, List.map_cons, List.map_nil, List.getD_cons_zero, List.getD_cons_succ, Nat.zero_add, Nat.reduceAdd, Nat.reduceSub, Nat.reduceEqDiff, if_true, if_false, ite_true, ite_false, Bool.false_eq_true, Bool.true_or, Bool.false_or, Bool.and_true, Bool.true_and, Bool.and_false, Bool.false_and, Bool.or_true, Bool.or_false, Bool.not_true, Bool.not_false, decide_true, decide_false, true_and, and_true, false_and, and_false, true_or, or_true, false_or, or_false, Option.some.injEq, reduceCtorEq, String.reduceEq, String.reduceBEq, beq_self_eq_true, decide_eq_true_eq, Bool.and_eq_true, Bool.or_eq_true, Bool.not_eq_true, ne_eq, not_true_eq_false, not_false_eq_true, and_self, or_self, Int.reduceAbs, Int.natAbs_neg, Nat.reducePow, Int.reduceLT, Int.reduceLE, Int.reducePow, Int.reduceNeg, Int.reduceAdd, Int.reduceSub, Int.reduceMul, Int.reduceDiv, Int.reduceMod, Int.reduceToNat, Int.reduceEq, Int.reduceBEq, Nat.reduceLT, Nat.reduceLeDiff, Nat.reduceMul, Nat.reduceBEq, Int.zero_add, Int.add_zero, Int.toNat_natCast, List.nodup_nil, List.nodup_cons, List.not_mem_nil, List.mem_cons])))) rfl
  | n, .str b, _, _ => runP_of (e := [.shr (.str b), .shr (.str b), .no]) rfl ((seq_nx rfl).trans ((seq_nx rfl).trans ((seq_nx rfl).trans (by simp only [runP, runFn, envOf, outsOf, retOf, sSeq, sAsg, sIf, sRet, sRetF, sRetN, sRetO, sDrop, sNop, sOwn, sFor, sForL, sWhile, sPar2, sPar3, sBk, sCt, slotOf, mkOwn, isMutD, gN, gT, gsC, gsN, gIx, free, peek, ownL, putL, eApp, evA, evL, eVar, eC, eTup, eLst, eIf, eOr, eAnd, eNot, eChain, eSl, oNo, oSo, eCall, eCallB, eCallK, eCallIo, evC, ioSl, putD, putOuts, ownD, perm, lent, tB_, tTr, tNo, tAn, tOrr, tTrue, asB, asI, truth, eRev, dRev, eRg1, eJoin, dJoin, eBits, eApd, ePopAt, ePop, eIns, eLc, wipeE, iOf, iR1, iR2, iR3, iEnM, iZpM, items, smallI, dAdd, dSub, dMul, dFdiv, dMod, dPow, dShl, dShr, dAnd, dOr, dXor, dNeg, dInv, dEq, dNe, dLt, dLe, dGt, dGe, dIs, isD, dIsNot, dIn, inD, dNotIn, dIsi, isiB, tyD, dLen, dAbs, dMax, dMin, dInt, dDivmod, dSum, dAll, dAny, dTup, dLst, dIx, dSl, scalD, deq, PL.small64, Option.bind_some, Option.map_some, Option.bind_none, Option.map_none, List.length_cons, List.length_nil, List.cons_append, List.nil_append, List.getElem?_cons_zero, List.getElem?_cons_succ, List.set_cons_zero, List.set_cons_succ, List.replicate_succ, List.replicate_zero, List.map_cons, List.map_nil, List.getD_cons_zero, List.getD_cons_succ, Nat.zero_add, Nat.reduceAdd, Nat.reduceSub, Nat.reduceEqDiff, if_true, if_false, ite_true, ite_false, Bool.false_eq_true, Bool.true_or, Bool.false_or, Bool.and_true, Bool.true_and, Bool.and_false, Bool.false_and, Bool.or_true, Bool.or_false, Bool.not_true, Bool.not_false, decide_true, decide_false, true_and, and_true, false_and, and_false, true_or, or_true, false_or, or_false, Option.some.injEq, reduceCtorEq, String.reduceEq, String.reduceBEq, beq_self_eq_true, decide_eq_true_eq, Bool.and_eq_true, Bool.or_eq_true, Bool.not_eq_true, ne_eq, not_true_eq_false, not_false_eq_true, and_self, or_self, Int.reduceAbs, Int.natAbs_neg, Nat.reducePow, Int.reduceLT, Int.reduceLE, Int.reducePow, Int.reduceNeg, Int.reduceAdd, Int.reduceSub, Int.reduceMul, Int.reduceDiv, Int.reduceMod, Int.reduceToNat, Int.reduceEq, Int.reduceBEq, Nat.reduceLT, Nat.reduceLeDiff, Nat.reduceMul, Nat.reduceBEq, Int.zero_add, Int.add_zero, Int.toNat_natCast, List.nodup_nil, List.nodup_cons, List.not_mem_nil, List.mem_cons])))) rfl
  | n + 1, .tup ds, h, h2 => by
    rw [okS, Bool.and_eq_true, Bool.and_eq_true, decide_eq_true_eq, decide_eq_true_eq] at h
    have hq := same_seq n ds (fun d hd hd2 => same_ok n d hd hd2) h.1.2 h.2 h2 (.tup ds) rfl
    have hlen : tOrr (tNo (tTr (.v (eApp dIsi [.v (eVar 0), .v (eC (.opq (.ty "tuple")))])))) (tB_ (eApp dNe [.v (eApp dLen [.v (eVar 0)]), .v (eApp dLen [.v (eVar 1)])])) [.shr (.tup ds), .shr (.tup ds), .no] = some (false, [.shr (.tup ds), .shr (.tup ds), .no]) := by simp only [runP, runFn, envOf, outsOf, retOf, sSeq, sAsg, sIf, sRet, sRetF, sRetN, sRetO, sDrop, sNop, sOwn, sFor, sForL, sWhile, sPar2, sPar3, sBk, sCt, slotOf, mkOwn, isMutD, gN, gT, gsC, gsN, gIx, free, peek, ownL, putL, eApp, evA, evL, eVar, eC, eTup, eLst, eIf, eOr, eAnd, eNot, eChain, eSl, oNo, oSo, eCall, eCallB, eCallK, eCallIo, evC, ioSl, putD, putOuts, ownD, perm, lent, tB_, tTr, tNo, tAn, tOrr, tTrue, asB, asI, truth, eRev, dRev, eRg1, eJoin, dJoin, eBits, eApd, ePopAt, ePop, eIns, eLc, wipeE, iOf, iR1, iR2, iR3, iEnM, iZpM, items, smallI, dAdd, dSub, dMul, dFdiv, dMod, dPow, dShl, dShr, dAnd, dOr, dXor, dNeg, dInv, dEq, dNe, dLt, dLe, dGt, dGe, dIs, isD, dIsNot, dIn, inD, dNotIn, dIsi, isiB, tyD, dLen, dAbs, dMax, dMin, dInt, dDivmod, dSum, dAll, dAny, dTup, dLst, dIx, dSl, scalD, deq, PL.small64, Option.bind_some, Option.map_some, Option.bind_none, Option.map_none, List.length_cons, List.length_nil, List.cons_append, List.nil_append, List.getElem?_cons_zero, List.getElem?_cons_succ, List.set_cons_zero, List.set_cons_succ, List.replicate_succ, List.replicate_zero, List.map_cons, List.map_nil, List.getD_cons_zero, List.getD_cons_succ, Nat.zero_add, Nat.reduceAdd, Nat.reduceSub, Nat.reduceEqDiff, if_true, if_false, ite_true, ite_false, Bool.false_eq_true, Bool.true_or, Bool.false_or, Bool.and_true, Bool.true_and, Bool.and_false, Bool.false_and, Bool.or_true, Bool.or_false, Bool.not_true, Bool.not_false, decide_true, decide_false, true_and, and_true, false_and, and_false, true_or, or_true, false_or, or_false, Option.some.injEq, reduceCtorEq, String.reduceEq, String.reduceBEq, beq_self_eq_true, decide_eq_true_eq, Bool.and_eq_true, Bool.or_eq_true, Bool.not_eq_true, ne_eq, not_true_eq_false, not_false_eq_true, and_self, or_self, Int.reduceAbs, Int.natAbs_neg, Nat.reducePow, Int.reduceLT, Int.reduceLE, Int.reducePow, Int.reduceNeg, Int.reduceAdd, Int.reduceSub, Int.reduceMul, Int.reduceDiv, Int.reduceMod, Int.reduceToNat, Int.reduceEq, Int.reduceBEq, Nat.reduceLT, Nat.reduceLeDiff, Nat.reduceMul, Nat.reduceBEq, Int.zero_add, Int.add_zero, Int.toNat_natCast, List.nodup_nil, List.nodup_cons, List.not_mem_nil, List.mem_cons]
    exact runP_of (e := [.shr (.tup ds), .shr (.tup ds), .no]) rfl (seq_rt ((if_t rfl).trans ((seq_nx (if_f hlen)).trans (retF_of hq)))) rfl
  | 0, .tup ds, h, _ => by simp [okS] at h
  | n, .lst ds, _, h => by simp [noLst] at h
  | n, .dct _, h, _ => by simp [okS] at h
  | n, .opq _, h, _ => by simp [okS] at h

/-! ### orders -/
def nuD (os : List Nat) : List D := os.map fun (x : Nat) => D.int (x : Int)
structure Ord (os : List Nat) : Prop where
  nd : os.Nodup
  lt : ∀ x ∈ os, x < os.length
  pos : 1 ≤ os.length
  le : os.length ≤ 40
theorem nuD_len (os : List Nat) : (nuD os).length = os.length := by simp [nuD]
theorem is_whole_int (v : Int) : m_is_whole [.int v] = some (.bl true) := by
  simp only [m_is_whole, b_is_whole, runP, runFn, envOf, outsOf, retOf, sSeq, sAsg, sIf, sRet, sRetF, sRetN, sRetO, sDrop, sNop, sOwn, sFor, sForL, sWhile, sPar2, sPar3, sBk, sCt, slotOf, mkOwn, isMutD, gN, gT, gsC, gsN, gIx, free, peek, ownL, putL, eApp, evA, evL, eVar, eC, eTup, eLst, eIf, eOr, eAnd, eNot, eChain, eSl, oNo, oSo, eCall, eCallB, eCallK, eCallIo, evC, ioSl, putD, putOuts, ownD, perm, lent, tB_, tTr, tNo, tAn, tOrr, tTrue, asB, asI, truth, eRev, dRev, eRg1, eJoin, dJoin, eBits, eApd, ePopAt, ePop, eIns, eLc, wipeE, iOf, iR1, iR2, iR3, iEnM, iZpM, items, smallI, dAdd, dSub, dMul, dFdiv, dMod, dPow, dShl, dShr, dAnd, dOr, dXor, dNeg, dInv, dEq, dNe, dLt, dLe, dGt, dGe, dIs, isD, dIsNot, dIn, inD, dNotIn, dIsi, isiB, tyD, dLen, dAbs, dMax, dMin, dInt, dDivmod, dSum, dAll, dAny, dTup, dLst, dIx, dSl, scalD, deq, PL.small64, Option.bind_some, Option.map_some, Option.bind_none, Option.map_none, List.length_cons, List.length_nil, List.cons_append, List.nil_append, List.getElem?_cons_zero, List.getElem?_cons_succ, List.set_cons_zero, List.set_cons_succ, List.replicate_succ, List.replicate_zero, List.map_cons, List.map_nil, List.getD_cons_zero, List.getD_cons_succ, Nat.zero_add, Nat.reduceAdd, Nat.reduceSub, Nat.reduceEqDiff, if_true, if_false, ite_true, ite_false, Bool.false_eq_true, Bool.true_or, Bool.false_or, Bool.and_true, Bool.true_and, Bool.and_false, Bool.false_and, Bool.or_true, Bool.or_false, Bool.not_true, Bool.not_false, decide_true, decide_false, true_and, and_true, false_and, and_false, true_or, or_true, false_or, or_false, Option.some.injEq, reduceCtorEq, String.reduceEq, String.reduceBEq, beq_self_eq_true, decide_eq_true_eq, Bool.and_eq_true, Bool.or_eq_true, Bool.not_eq_true, ne_eq, not_true_eq_false, not_false_eq_true, and_self, or_self, Int.reduceAbs, Int.natAbs_neg, Nat.reducePow, Int.reduceLT, Int.reduceLE, Int.reducePow, Int.reduceNeg, Int.reduceAdd, Int.reduceSub, Int.reduceMul, Int.reduceDiv, Int.reduceMod, Int.reduceToNat, Int.reduceEq, Int.reduceBEq, Nat.reduceLT, Nat.reduceLeDiff, Nat.reduceMul, Nat.reduceBEq, Int.zero_add, Int.add_zero, Int.toNat_natCast, List.nodup_nil, List.nodup_cons, List.not_mem_nil, List.mem_cons]
theorem between_int (v lo hi : Int) (h1 : lo ≤ v) (h2 : v ≤ hi) : m_is_between [.int v, .int lo, .int hi] = some (.bl true) := by
  simp only [m_is_between, b_is_between, runP, runFn, envOf, outsOf, retOf, sSeq, sAsg, sIf, sRet, sRetF, sRetN, sRetO, sDrop, sNop, sOwn, sFor, sForL, sWhile, sPar2, sPar3, sBk, sCt, slotOf, mkOwn, isMutD, gN, gT, gsC, gsN, gIx, free, peek, ownL, putL, eApp, evA, evL, eVar, eC, eTup, eLst, eIf, eOr, eAnd, eNot, eChain, eSl, oNo, oSo, eCall, eCallB, eCallK, eCallIo, evC, ioSl, putD, putOuts, ownD, perm, lent, tB_, tTr, tNo, tAn, tOrr, tTrue, asB, asI, truth, eRev, dRev, eRg1, eJoin, dJoin, eBits, eApd, ePopAt, ePop, eIns, eLc, wipeE, iOf, iR1, iR2, iR3, iEnM, iZpM, items, smallI, dAdd, dSub, dMul, dFdiv, dMod, dPow, dShl, dShr, dAnd, dOr, dXor, dNeg, dInv, dEq, dNe, dLt, dLe, dGt, dGe, dIs, isD, dIsNot, dIn, inD, dNotIn, dIsi, isiB, tyD, dLen, dAbs, dMax, dMin, dInt, dDivmod, dSum, dAll, dAny, dTup, dLst, dIx, dSl, scalD, deq, PL.small64, Option.bind_some, Option.map_some, Option.bind_none, Option.map_none, List.length_cons, List.length_nil, List.cons_append, List.nil_append, List.getElem?_cons_zero, List.getElem?_cons_succ, List.set_cons_zero, List.set_cons_succ, List.replicate_succ, List.replicate_zero, List.map_cons, List.map_nil, List.getD_cons_zero, List.getD_cons_succ, Nat.zero_add, Nat.reduceAdd, Nat.reduceSub, Nat.reduceEqDiff, if_true, if_false, ite_true, ite_false, Bool.false_eq_true, Bool.true_or, Bool.false_or, Bool.and_true, Bool.true_and, Bool.and_false, Bool.false_and, Bool.or_true, Bool.or_false, Bool.not_true, Bool.not_false, decide_true, decide_false, true_and, and_true, false_and, and_false, true_or, or_true, false_or, or_false, Option.some.injEq, reduceCtorEq, String.reduceEq, String.reduceBEq, beq_self_eq_true, decide_eq_true_eq, Bool.and_eq_true, Bool.or_eq_true, Bool.not_eq_true, ne_eq, not_true_eq_false, not_false_eq_true, and_self, or_self, Int.reduceAbs, Int.natAbs_neg, Nat.reducePow, Int.reduceLT, Int.reduceLE, Int.reducePow, Int.reduceNeg, Int.reduceAdd, Int.reduceSub, Int.reduceMul, Int.reduceDiv, Int.reduceMod, Int.reduceToNat, Int.reduceEq, Int.reduceBEq, Nat.reduceLT, Nat.reduceLeDiff, Nat.reduceMul, Nat.reduceBEq, Int.zero_add, Int.add_zero, Int.toNat_natCast, List.nodup_nil, List.nodup_cons, List.not_mem_nil, List.mem_cons, is_whole_int, h1, h2]
theorem enI_mem : ∀ (ds : List D) (k : Int) (i : Nat) (d : D), (enD k ds)[i]? = some d → ∃ x, ds[i]? = some x ∧ d = .tup [.int (k + i), x] := fun ds k i d h => enD_get ds k i d h
theorem okDs_ints : ∀ (l : List Nat) (n : Nat), okDs (nuD l) n = true
  | [], _ => rfl
  | a :: l, n => by
    show (okD (.int a) n && okDs (nuD l) n) = true
    rw [okDs_ints l n]; rfl
theorem any_nuD : ∀ (l : List Nat) (x : Nat), x ∉ l → ((nuD l).any fun z => deq z (.int (x : Int))) = false
  | [], _, _ => rfl
  | a :: l, x, h => by
    have h1 : (a : Int) ≠ (x : Int) := fun e => h (List.mem_cons.mpr (.inl (by omega)))
    show (deq (.int a) (.int x) || (nuD l).any fun z => deq z (.int x)) = false
    rw [any_nuD l x fun m => h (List.mem_cons.mpr (.inr m)), deq]
    simp [h1]
theorem first_none {os : List Nat} (h : Ord os) : m_first_wrong_place [.int (os.length : Nat), .tup (nuD os)] = some .non := by
  obtain ⟨e, hf, s2, s3, he, h2, h3⟩ := for_inv (g := gT 2 (gsC (gN 2) (gsC (gN 3) (gsN)))) (body := sIf (tOrr (tB_ (eApp dEq [.b 2, .v (eVar 0)])) (tOrr (tNo (tTr (.v (eCall 3 m_is_between [eVar 3, eC (.int 0), eApp dSub [.v (eVar 0), .v (eC (.int 1))]])))) (tB_ (eApp dIn [.v (eVar 3), .v (eSl dSl (.v (eVar 1)) oNo (oSo (eVar 2)))])))) (sRetO 2) (sNop)) (enD 0 (nuD os))
    (fun _ env => ∃ s2 s3 : PL.Slot, env = [.shr (.int (os.length : Nat)), .shr (.tup (nuD os)), s2, s3] ∧ (s2 = .no ∨ ∃ d, s2 = .shr d) ∧ (s3 = .no ∨ ∃ d, s3 = .shr d)) [.shr (.int (os.length : Nat)), .shr (.tup (nuD os)), .no, .no] ⟨.no, .no, rfl, .inl rfl, .inl rfl⟩ (fun i d env hd hI => by
      obtain ⟨s2, s3, rfl, h2, h3⟩ := hI
      obtain ⟨x, hx, rfl⟩ := enI_mem _ _ _ _ hd
      rw [Int.zero_add]
      unfold nuD at hx
      rw [List.getElem?_map, Option.map_eq_some_iff] at hx
      obtain ⟨y, hy, rfl⟩ := hx
      have hil : i < os.length := (List.getElem?_eq_some_iff.mp hy).1
      have hyl : y < os.length := h.lt y (List.mem_of_getElem? hy)
      have hb := between_int (y : Int) 0 ((os.length : Int) - 1) (by omega) (by omega)
      have hcut : dSl (.tup (nuD os)) none (some (i : Int)) = some (.tup (nuD (os.take i))) := by
        show some (D.tup (cutL (nuD os) none (some (i : Int)))) = _
        congr 2
        unfold cutL
        rw [HT.sIx_none, HT.sIx_nat, List.drop_zero, Nat.sub_zero, nuD_len, show min i os.length = i by omega]
        simp [nuD]
      have hnot : y ∉ os.take i := by
        intro hm
        obtain ⟨j, hj⟩ := List.getElem?_of_mem hm
        rw [List.getElem?_take] at hj
        split at hj
        · rename_i hji
          have h1 := (List.getElem?_eq_some_iff.mp hj)
          have h2 := (List.getElem?_eq_some_iff.mp hy)
          obtain ⟨a1, b1⟩ := h1
          obtain ⟨a2, b2⟩ := h2
          exact List.pairwise_iff_getElem.mp h.nd j i a1 a2 hji (b1.trans b2.symm)
        · cases hj
      have hin : dIn [.int (y : Int), .tup (nuD (os.take i))] = some (.bl false) := by
        have ho : (okD (.int (y : Int)) 64 && decide (0 < 64) && okDs (nuD (os.take i)) 63) = true := by rw [okDs_ints]; rfl
        show (inD (.int (y : Int)) (.tup (nuD (os.take i)))).map D.bl = _
        rw [show inD (.int (y : Int)) (.tup (nuD (os.take i))) = if (okD (.int (y : Int)) 64 && decide (0 < 64) && okDs (nuD (os.take i)) 63) = true then some ((nuD (os.take i)).any fun z => deq z (.int (y : Int))) else none from rfl, if_pos ho, any_nuD _ _ hnot]; rfl
      have heq : dEq [.int (i : Int), .int (os.length : Nat)] = some (.bl false) := by
        have : deq (.int (i : Int)) (.int ((os.length : Nat) : Int)) = false := by rw [deq]; simp; omega
        unfold dEq
        simp only
        rw [this]; rfl
      refine ⟨[.shr (.int (os.length : Nat)), .shr (.tup (nuD os)), .shr (.int (i : Int)), .shr (.int (y : Int))], [.shr (.int (os.length : Nat)), .shr (.tup (nuD os)), .shr (.int (i : Int)), .shr (.int (y : Int))], .nx, ?_, ?_, .inl rfl, _, _, rfl, .inr ⟨_, rfl⟩, .inr ⟨_, rfl⟩⟩
      · rcases h2 with rfl | ⟨d', rfl⟩ <;> rcases h3 with rfl | ⟨d'', rfl⟩ <;> rfl
      · have t1 : tB_ (eApp dEq [.b 2, .v (eVar 0)]) [.shr (.int (os.length : Nat)), .shr (.tup (nuD os)), .shr (.int (i : Int)), .shr (.int (y : Int))] = some (false, [.shr (.int (os.length : Nat)), .shr (.tup (nuD os)), .shr (.int (i : Int)), .shr (.int (y : Int))]) := tB_of (app_of (ds := [.int (i : Int), .int (os.length : Nat)]) rfl heq)
        have t2 : tNo (tTr (.v (eCall 3 m_is_between [eVar 3, eC (.int 0), eApp dSub [.v (eVar 0), .v (eC (.int 1))]]))) [.shr (.int (os.length : Nat)), .shr (.tup (nuD os)), .shr (.int (i : Int)), .shr (.int (y : Int))] = some (false, [.shr (.int (os.length : Nat)), .shr (.tup (nuD os)), .shr (.int (i : Int)), .shr (.int (y : Int))]) := tNo_of (tTr_of (call_of (ds := [.int (y : Int), .int 0, .int ((os.length : Int) - 1)]) rfl rfl hb) rfl)
        have t3 : eSl dSl (.v (eVar 1)) oNo (oSo (eVar 2)) [.shr (.int (os.length : Nat)), .shr (.tup (nuD os)), .shr (.int (i : Int)), .shr (.int (y : Int))] = some (.tup (nuD (os.take i)), [.shr (.int (os.length : Nat)), .shr (.tup (nuD os)), .shr (.int (i : Int)), .shr (.int (y : Int))]) := by
          simp only [eSl, eVar, oNo, oSo, asI, List.getElem?_cons_succ, List.getElem?_cons_zero, Option.bind_some, hcut]
        exact (if_f ((or_f t1).trans ((or_f t2).trans (tB_of (app_of (ev2 rfl t3) hin))))).trans rfl)
  have hb : b_first_wrong_place [.shr (.int (os.length : Nat)), .shr (.tup (nuD os)), .no, .no] = some (.rt true .non, e) := by
    refine (seq_nx (for_nx (ds := enD 0 (nuD os)) rfl hf)).trans (retF_of ?_)
    have hlt : dLt [.int ((nuD os).length : Nat), .int (os.length : Nat)] = some (.bl false) := by
      show some (D.bl (decide (((nuD os).length : Int) < (os.length : Int)))) = _
      rw [nuD_len]; simp
    subst he
    have t1 : tB_ (eApp dLt [.v (eApp dLen [.v (eVar 1)]), .v (eVar 0)]) [.shr (.int (os.length : Nat)), .shr (.tup (nuD os)), s2, s3] = some (false, [.shr (.int (os.length : Nat)), .shr (.tup (nuD os)), s2, s3]) := tB_of (app_of (ds := [.int ((nuD os).length : Nat), .int (os.length : Nat)]) rfl hlt)
    show (tB_ _ _).bind _ = _
    rw [t1]; rfl
  refine runP_of (e := e) rfl hb ?_
  subst he
  rfl
theorem check_ok {os : List Nat} (h : Ord os) : m_check_order [.tup (nuD os)] = some .non := by
  have h1 := first_none h
  have h2 : m_check_order_of [.int (os.length : Nat), .tup (nuD os)] = some .non := by
    refine runP_nx (e := [.shr (.int (os.length : Nat)), .shr (.tup (nuD os)), .shr .non]) rfl ((seq_nx rfl).trans ((seq_nx (asg_nx (call_of (ds := [.int (os.length : Nat), .tup (nuD os)]) rfl rfl h1) rfl)).trans rfl)) rfl
  have e1 : (if (40 : Int) < (os.length : Int) then (40 : Int) else os.length) = os.length := by have := h.le; split <;> omega
  have e2 : (if (os.length : Int) > 1 then (os.length : Int) else 1) = os.length := by have := h.pos; split <;> omega
  have hm : eApp dMax [.v (eC (.int 1)), .v (eApp dMin [.v (eApp dLen [.v (eVar 0)]), .v (eC (.int (40)))])] [.shr (.tup (nuD os))] = some (.int (os.length : Nat), [.shr (.tup (nuD os))]) := by
    refine app_of (ds := [.int 1, .int (os.length : Nat)]) (ev2 rfl (app_of (ds := [.int ((nuD os).length : Nat), .int 40]) rfl ?_)) ?_
    · show some (D.int (if (40 : Int) < ((nuD os).length : Int) then (40 : Int) else ((nuD os).length : Int))) = _
      rw [nuD_len, e1]
    · show some (D.int (if (os.length : Int) > 1 then (os.length : Int) else 1)) = _
      rw [e2]
  show (runFn _ _ _ _).map _ = _
  have hb : b_check_order [.shr (.tup (nuD os))] = some (.nx, [.shr (.tup (nuD os))]) := (seq_nx rfl).trans (drop_of (call_of (evLc hm (evLc rfl evL0)) rfl h2))
  show ((b_check_order [.shr (.tup (nuD os))]).bind _).map _ = _
  rw [hb]; rfl

/-! ### runs -/
def desc : List Nat → Nat
  | a :: b :: r => (if b < a then 1 else 0) + desc (b :: r)
  | _ => 0
theorem desc_snoc : ∀ (l : List Nat) (a b : Nat), desc (l ++ [a, b]) = desc (l ++ [a]) + (if b < a then 1 else 0)
  | [], a, b => by simp [desc]
  | [x], a, b => by simp [desc]
  | x :: y :: l, a, b => by
    have ih := desc_snoc (y :: l) a b
    show (if y < x then 1 else 0) + desc (y :: l ++ [a, b]) = (if y < x then 1 else 0) + desc (y :: l ++ [a]) + _
    rw [ih]; omega
theorem take_two {os : List Nat} {i a b : Nat} (ha : os[i]? = some a) (hb : os[i + 1]? = some b) : os.take (i + 2) = os.take i ++ [a, b] ∧ os.take (i + 1) = os.take i ++ [a] := by
  constructor
  · rw [List.take_add_one, hb, List.take_add_one, ha]; simp
  · rw [List.take_add_one, ha]; rfl
theorem desc_step {os : List Nat} {i a b : Nat} (ha : os[i]? = some a) (hb : os[i + 1]? = some b) : desc (os.take (i + 2)) = desc (os.take (i + 1)) + (if b < a then 1 else 0) := by
  obtain ⟨h1, h2⟩ := take_two ha hb
  rw [h1, h2, desc_snoc]
theorem rep_nuD (n : Nat) : (List.replicate n [D.int 0]).flatten = (List.replicate n (0 : Int)).map D.int := by
  induction n with
  | zero => rfl
  | succ n ih => rw [List.replicate_succ, List.flatten_cons, ih, List.replicate_succ, List.map_cons]; rfl
/-- what the runs are: the greatest is the number of falls -/
theorem runs_ok {os : List Nat} (h : Ord os) : ∃ f : List Int, m_runs_by [.tup (nuD os)] = some (.lst (f.map .int)) ∧ f.length = os.length ∧ (∀ x ∈ f, 0 ≤ x ∧ x ≤ (desc os : Int)) ∧ (desc os : Int) ∈ f := by
  have hpos := h.pos
  have hle := h.le
  have hcut : dSl (.tup (nuD os)) (some 1) none = some (.tup (nuD (os.drop 1))) := by
    show some (D.tup (cutL (nuD os) (some 1) none)) = _
    congr 2
    unfold cutL
    rw [HT.sIx_none, show HT.sIx (nuD os).length 0 (some 1) = min 1 (nuD os).length from HT.sIx_nat _ 0 1, nuD_len, show min 1 os.length = 1 by omega]
    unfold nuD
    rw [← List.map_drop, List.take_of_length_le (by simp)]
  have hsrc : iZpM (eVar 0) (eSl dSl (.v (eVar 0)) (oSo (eC (.int 1))) oNo) [.shr (.tup (nuD os)), .own (.lst ((List.replicate os.length (0 : Int)).map .int)), .shr (.int 0), .no, .no] = some (zpD (nuD os) (nuD (os.drop 1)), [.shr (.tup (nuD os)), .own (.lst ((List.replicate os.length (0 : Int)).map .int)), .shr (.int 0), .no, .no]) := by
    simp only [iZpM, eVar, eSl, oSo, oNo, eC, asI, List.getElem?_cons_zero, Option.bind_some, hcut, items, Option.map_some]
  have inv : ∃ e, forGo (gT 2 (gsC (gN 3) (gsC (gN 4) (gsN)))) (sSeq (sAsg (eIf (tB_ (eApp dLt [.v (eVar 4), .v (eVar 3)])) (eApp dAdd [.v (eVar 2), .v (eC (.int 1))]) (eVar 2)) (gN 2)) (sAsg (eVar 2) (gIx 1 (eVar 4)))) (zpD (nuD os) (nuD (os.drop 1))) [.shr (.tup (nuD os)), .own (.lst ((List.replicate os.length (0 : Int)).map .int)), .shr (.int 0), .no, .no] = some (.nx, e) ∧ ((fun i env => ∃ (s3 s4 : PL.Slot) (f : List Int), (env = [.shr (.tup (nuD os)), .own (.lst (f.map .int)), .shr (.int (desc (os.take (i + 1)) : Nat)), s3, s4] ∧ (s3 = .no ∨ ∃ d, s3 = .shr d) ∧ (s4 = .no ∨ ∃ d, s4 = .shr d)) ∧ f.length = os.length ∧ (∀ x ∈ f, 0 ≤ x ∧ x ≤ (desc (os.take (i + 1)) : Int)) ∧ ((desc (os.take (i + 1)) : Nat) : Int) ∈ f)) (zpD (nuD os) (nuD (os.drop 1))).length e := by
    refine for_inv (zpD (nuD os) (nuD (os.drop 1))) (fun i env => ∃ (s3 s4 : PL.Slot) (f : List Int), (env = [.shr (.tup (nuD os)), .own (.lst (f.map .int)), .shr (.int (desc (os.take (i + 1)) : Nat)), s3, s4] ∧ (s3 = .no ∨ ∃ d, s3 = .shr d) ∧ (s4 = .no ∨ ∃ d, s4 = .shr d)) ∧ f.length = os.length ∧ (∀ x ∈ f, 0 ≤ x ∧ x ≤ (desc (os.take (i + 1)) : Int)) ∧ ((desc (os.take (i + 1)) : Nat) : Int) ∈ f) [.shr (.tup (nuD os)), .own (.lst ((List.replicate os.length (0 : Int)).map .int)), .shr (.int 0), .no, .no] ?_ ?_
    · refine ⟨.no, .no, List.replicate os.length 0, ⟨?_, .inl rfl, .inl rfl⟩, by simp, ?_, ?_⟩
      · have h0 : desc (os.take 1) = 0 := by
          cases os with
          | nil => rfl
          | cons a r => rfl
        rw [h0]; rfl
      · intro x hx
        rw [(List.mem_replicate.mp hx).2]
        omega
      · have h0 : desc (os.take 1) = 0 := by
          cases os with
          | nil => rfl
          | cons a r => rfl
        rw [h0]
        exact List.mem_replicate.mpr ⟨by omega, rfl⟩
    · intro i d env hd hI
      obtain ⟨s3, s4, f, ⟨rfl, h3, h4⟩, hfl, hall, hmem⟩ := hI
      obtain ⟨x, y, hx, hy, rfl⟩ := zpD_get _ _ _ _ hd
      unfold nuD at hx hy
      rw [List.getElem?_map, Option.map_eq_some_iff] at hx hy
      obtain ⟨a, ha, rfl⟩ := hx
      obtain ⟨b, hb, rfl⟩ := hy
      rw [List.getElem?_drop, Nat.add_comm] at hb
      have hst := desc_step ha hb
      have hbl : b < f.length := by rw [hfl]; exact h.lt b (List.mem_of_getElem? hb)
      have hix : ixN (f.map D.int).length (b : Int) = some b := ixN_nat (by rw [List.length_map]; exact hbl)
      refine ⟨[.shr (.tup (nuD os)), .own (.lst (f.map .int)), .shr (.int (desc (os.take (i + 1)) : Nat)), .shr (.int (a : Int)), .shr (.int (b : Int))], [.shr (.tup (nuD os)), .own (.lst ((f.set b (desc (os.take (i + 2)) : Int)).map .int)), .shr (.int (desc (os.take (i + 2)) : Nat)), .shr (.int (a : Int)), .shr (.int (b : Int))], .nx, ?_, ?_, .inl rfl, _, _, f.set b (desc (os.take (i + 2)) : Int), ⟨rfl, .inr ⟨_, rfl⟩, .inr ⟨_, rfl⟩⟩, by simp [hfl], ?_, ?_⟩
      · rcases h3 with rfl | ⟨d', rfl⟩ <;> rcases h4 with rfl | ⟨d'', rfl⟩ <;> rfl
      · have t1 : eIf (tB_ (eApp dLt [.v (eVar 4), .v (eVar 3)])) (eApp dAdd [.v (eVar 2), .v (eC (.int 1))]) (eVar 2) [.shr (.tup (nuD os)), .own (.lst (f.map .int)), .shr (.int (desc (os.take (i + 1)) : Nat)), .shr (.int (a : Int)), .shr (.int (b : Int))] = some (.int (desc (os.take (i + 2)) : Nat), [.shr (.tup (nuD os)), .own (.lst (f.map .int)), .shr (.int (desc (os.take (i + 1)) : Nat)), .shr (.int (a : Int)), .shr (.int (b : Int))]) := by
          have hlt : dLt [.int (b : Int), .int (a : Int)] = some (.bl (decide (b < a))) := by
            show some (D.bl (decide ((b : Int) < (a : Int)))) = _
            congr 2
            rw [Bool.eq_iff_iff, decide_eq_true_eq, decide_eq_true_eq]; omega
          have tt : tB_ (eApp dLt [.v (eVar 4), .v (eVar 3)]) [.shr (.tup (nuD os)), .own (.lst (f.map .int)), .shr (.int (desc (os.take (i + 1)) : Nat)), .shr (.int (a : Int)), .shr (.int (b : Int))] = some (decide (b < a), [.shr (.tup (nuD os)), .own (.lst (f.map .int)), .shr (.int (desc (os.take (i + 1)) : Nat)), .shr (.int (a : Int)), .shr (.int (b : Int))]) := tB_of (app_of (ds := [.int (b : Int), .int (a : Int)]) rfl hlt)
          show (tB_ _ _).bind _ = _
          rw [tt, Option.bind_some, hst]
          by_cases hba : b < a
          · rw [decide_eq_true hba, if_pos hba]; rfl
          · rw [decide_eq_false hba, if_neg hba]; rfl
        refine (seq_nx (asg_nx t1 rfl)).trans (asg_nx rfl ?_)
        simp only [gIx, ownL, eVar, asI, hix, putL, List.getElem?_cons_succ, List.getElem?_cons_zero, List.set_cons_succ, List.set_cons_zero, Option.bind_some, List.map_set]
      · intro x hx
        have hmono : (desc (os.take (i + 1)) : Int) ≤ (desc (os.take (i + 2)) : Int) := by rw [hst]; split <;> omega
        rcases List.mem_or_eq_of_mem_set hx with hx | hx
        · have := hall x hx
          exact ⟨this.1, by show x ≤ (desc (os.take (i + 2)) : Int); omega⟩
        · subst hx
          exact ⟨by omega, Int.le_refl _⟩
      · exact List.mem_set hbl _
  obtain ⟨e, hf, s3, s4, f, he, hfl, hall, hmem⟩ := inv
  have hlen : (zpD (nuD os) (nuD (os.drop 1))).length + 1 = os.length := by
    rw [zpD_len, nuD_len, nuD_len, List.length_drop]; omega
  rw [hlen, List.take_length] at hall hmem
  refine ⟨f, ?_, hfl, hall, hmem⟩
  have c1 : ((os.length : Nat) : Int).natAbs < 2 ^ 62 ∧ [D.int 0].length * (((os.length : Nat) : Int).toNat) ≤ 16777216 := ⟨by omega, by simp; omega⟩
  have hm : dMul [.lst [.int 0], .int ((nuD os).length : Nat)] = some (.lst ((List.replicate os.length (0 : Int)).map .int)) := by
    unfold dMul
    simp only
    rw [nuD_len, if_pos c1, Int.toNat_natCast, rep_nuD]
  have e1 : sPar2 1 2 (true, eApp dMul [.v (eLst [eC (.int 0)]), .v (eApp dLen [.v (eVar 0)])]) (false, eC (.int 0)) [.shr (.tup (nuD os)), .no, .no, .no, .no] = some (.nx, [.shr (.tup (nuD os)), .own (.lst ((List.replicate os.length (0 : Int)).map .int)), .shr (.int 0), .no, .no]) := by
    have := app_of (g := dMul) (as := [.v (eLst [eC (.int 0)]), .v (eApp dLen [.v (eVar 0)])]) (env := [.shr (.tup (nuD os)), .no, .no, .no, .no]) (e := [.shr (.tup (nuD os)), .no, .no, .no, .no]) (ds := [.lst [.int 0], .int ((nuD os).length : Nat)]) rfl hm
    simp only [sPar2, this, Option.bind_some]
    rfl
  refine runP_of (e := e.set 1 .no) rfl ((seq_nx e1).trans ((seq_nx (for_nx hsrc hf)).trans ?_)) ?_
  · rw [he.1]; rfl
  · rw [he.1]; rfl

/-! ### run_count, new_holes -/
theorem max_of {f : List Int} {m : Int} (h1 : ∀ x ∈ f, x ≤ m) (h2 : m ∈ f) : f.max? = some m := List.max?_eq_some_iff.mpr ⟨h2, h1⟩
theorem dMax_ints {f : List Int} {m : Int} (h : f.max? = some m) : dMax [.lst (f.map .int)] = some (.int m) := by
  show (intsD (f.map .int)).bind _ = _
  rw [intsD_map, Option.bind_some, h]; rfl
theorem count_ok {os : List Nat} (h : Ord os) : m_run_count [.tup (nuD os)] = some (.int ((desc os + 1 : Nat) : Int)) := by
  obtain ⟨f, hf, hl, ha, hm⟩ := runs_ok h
  have hmax := dMax_ints (max_of (fun x hx => (ha x hx).2) hm)
  have h1 : m_run_count_by [.tup (nuD os)] = some (.int ((desc os + 1 : Nat) : Int)) := by
    refine runP_of (e := [.shr (.tup (nuD os))]) rfl (retF_of (app_of (ds := [.int (desc os : Int), .int 1]) (ev2 (app_of (ev1 (call_of (ds := [.tup (nuD os)]) rfl rfl hf)) hmax) rfl) rfl)) rfl
  have h2 := check_ok h
  refine runP_of (e := [.shr (.tup (nuD os))]) rfl ((seq_nx (drop_of (call_of (ds := [.tup (nuD os)]) rfl rfl h2))).trans (retF_of (call_of (ds := [.tup (nuD os)]) rfl rfl h1))) rfl
theorem holes_ok {os : List Nat} (h : Ord os) : ∃ ds : List D, m_new_holes [.tup (nuD os)] = some (.tup ds) ∧ ds.length = Builtin.Int.intBits (desc os : Int) := by
  obtain ⟨f, hf, hl, ha, hm⟩ := runs_ok h
  have hmax := dMax_ints (max_of (fun x hx => (ha x hx).2) hm)
  have hb : Builtin.Int.intBits (desc os : Int) ≤ 1000 := by
    have h1 : (desc os : Int).natAbs < 2 ^ 10 := by
      have : desc os ≤ os.length := by
        have : ∀ l : List Nat, desc l ≤ l.length := by
          intro l
          induction l with
          | nil => simp [desc]
          | cons a r ih =>
            cases r with
            | nil => simp [desc]
            | cons b r => rw [desc]; simp only [List.length_cons] at ih ⊢; split <;> omega
        exact this os
      have := h.le
      omega
    exact Nat.le_trans (PyProof.Rows.intBits_le h1) (by decide)
  have key : ∃ e, forGo (gN 3) (sDrop (eApd 2 (eJoin (eC (.str [])) (eLc (iOf (eVar 1)) [4] (gN 4) (tTrue) (eIf (tB_ (eApp dEq [.v (eApp dAnd [.v (eApp dShr [.v (eVar 4), .v (eVar 3)]), .v (eC (.int 1))]), .v (eC (.int 1))])) (eC (.str [111])) (eC (.str [118]))))))) (rngD 0 (Builtin.Int.intBits (desc os : Int))) [.shr (.tup (nuD os)), .shr (.lst (f.map .int)), .own (.lst []), .no, .no] = some (.nx, e) ∧
      (fun (i : Nat) (env : PL.Env) => ∃ (s3 : PL.Slot) (ds : List D), env = [.shr (.tup (nuD os)), .shr (.lst (f.map .int)), .own (.lst ds), s3, .no] ∧ (s3 = .no ∨ ∃ d, s3 = .shr d) ∧ ds.length = i) (rngD 0 (Builtin.Int.intBits (desc os : Int))).length e := by
    refine for_inv (rngD 0 (Builtin.Int.intBits (desc os : Int))) (fun (i : Nat) (env : PL.Env) => ∃ (s3 : PL.Slot) (ds : List D), env = [.shr (.tup (nuD os)), .shr (.lst (f.map .int)), .own (.lst ds), s3, .no] ∧ (s3 = .no ∨ ∃ d, s3 = .shr d) ∧ ds.length = i) [.shr (.tup (nuD os)), .shr (.lst (f.map .int)), .own (.lst []), .no, .no] ⟨.no, [], rfl, .inl rfl, rfl⟩ ?_
    intro i d env hd hI
    obtain ⟨s3, ds, rfl, h3, hdl⟩ := hI
    have hi : i < Builtin.Int.intBits (desc os : Int) := by have := (List.getElem?_eq_some_iff.mp hd).1; rw [rngD_len] at this; exact this
    rw [rngD_get _ 0 i hi, Int.zero_add] at hd
    cases hd
    have hlc := lc_map (vs := [4]) (g := gN 4) (t := tTrue) (m := eIf (tB_ (eApp dEq [.v (eApp dAnd [.v (eApp dShr [.v (eVar 4), .v (eVar 3)]), .v (eC (.int 1))]), .v (eC (.int 1))])) (eC (.str [111])) (eC (.str [118]))) (f.map .int) [.shr (.tup (nuD os)), .shr (.lst (f.map .int)), .own (.lst ds), .shr (.int (i : Int)), .no]
      (fun d => match d with | .int r => if Builtin.bitAnd (r / 2 ^ i) 1 == 1 then .str [111] else .str [118] | _ => .non) (fun d hd => by
        obtain ⟨r, hr, rfl⟩ := List.mem_map.mp hd
        refine ⟨[.shr (.tup (nuD os)), .shr (.lst (f.map .int)), .own (.lst ds), .shr (.int (i : Int)), .shr (.int r)], [.shr (.tup (nuD os)), .shr (.lst (f.map .int)), .own (.lst ds), .shr (.int (i : Int)), .shr (.int r)], [.shr (.tup (nuD os)), .shr (.lst (f.map .int)), .own (.lst ds), .shr (.int (i : Int)), .shr (.int r)], rfl, rfl, ?_, rfl⟩
        have e1 : dShr [.int r, .int (i : Int)] = some (.int (r / 2 ^ i)) := by
          show (if 0 ≤ (i : Int) then some (D.int (r / 2 ^ ((i : Int).toNat))) else none) = _
          rw [if_pos (by omega), Int.toNat_natCast]
        have tt := tB_of (app_of (g := dEq) (ds := [.int (Builtin.bitAnd (r / 2 ^ i) 1), .int 1]) (as := [.v (eApp dAnd [.v (eApp dShr [.v (eVar 4), .v (eVar 3)]), .v (eC (.int 1))]), .v (eC (.int 1))]) (env := [.shr (.tup (nuD os)), .shr (.lst (f.map .int)), .own (.lst ds), .shr (.int (i : Int)), .shr (.int r)]) (e := [.shr (.tup (nuD os)), .shr (.lst (f.map .int)), .own (.lst ds), .shr (.int (i : Int)), .shr (.int r)]) (d := .bl (Builtin.bitAnd (r / 2 ^ i) 1 == 1)) (ev2 (app_of (ds := [.int (r / 2 ^ i), .int 1]) (ev2 (app_of (ds := [.int r, .int (i : Int)]) rfl e1) rfl) rfl) rfl) rfl)
        show (tB_ _ _).bind _ = _
        rw [tt, Option.bind_some]
        by_cases hbit : (Builtin.bitAnd (r / 2 ^ i) 1 == 1) = true
        · simp only [hbit, if_true, eC]
        · simp only [hbit, if_false, eC, Bool.false_eq_true])
    have hbits : ((f.map D.int).map fun d => match d with | .int r => if Builtin.bitAnd (r / 2 ^ i) 1 == 1 then D.str [111] else .str [118] | _ => .non) = (f.map fun r => if Builtin.bitAnd (r / 2 ^ i) 1 == 1 then [111] else [118]).map D.str := by
      rw [List.map_map, List.map_map]
      apply List.map_congr_left
      intro r _
      show (if _ then D.str [111] else .str [118]) = D.str (if _ then [111] else [118])
      split <;> rfl
    rw [hbits] at hlc
    generalize hys : (f.map fun r => if Builtin.bitAnd (r / 2 ^ i) 1 == 1 then ([111] : List Nat) else [118]) = ys at hlc
    have hyl : ys.length = os.length := by rw [← hys, List.length_map, hl]
    have hy1 : ∀ y ∈ ys, y.length = 1 := by
      intro y hy
      rw [← hys] at hy
      obtain ⟨r, _, rfl⟩ := List.mem_map.mp hy
      split <;> rfl
    have hsum : (ys.map List.length).sum ≤ ys.length := by
      clear hys hyl hlc
      induction ys with
      | nil => simp
      | cons y ys ih =>
        have h1 := hy1 y List.mem_cons_self
        have h2 := ih fun z hz => hy1 z (List.mem_cons_of_mem _ hz)
        rw [List.map_cons, List.sum_cons, List.length_cons]; omega
    have hle := h.le
    have hj : dJoin (.str []) (.lst (ys.map .str)) = some (.str (TL.joinL [] ys)) := by
      show (strsD (ys.map .str)).bind _ = _
      rw [strsD_map, Option.bind_some, if_pos (by rw [List.length_nil, Nat.mul_zero]; omega)]
    have hcomp : eLc (iOf (eVar 1)) [4] (gN 4) (tTrue) (eIf (tB_ (eApp dEq [.v (eApp dAnd [.v (eApp dShr [.v (eVar 4), .v (eVar 3)]), .v (eC (.int 1))]), .v (eC (.int 1))])) (eC (.str [111])) (eC (.str [118]))) [.shr (.tup (nuD os)), .shr (.lst (f.map .int)), .own (.lst ds), .shr (.int (i : Int)), .no] = some (.lst (ys.map .str), [.shr (.tup (nuD os)), .shr (.lst (f.map .int)), .own (.lst ds), .shr (.int (i : Int)), .no]) :=
      lc_of (ds := f.map .int) rfl (by rw [List.length_map, hl]; omega) rfl hlc
    have hjoin : eJoin (eC (.str [])) (eLc (iOf (eVar 1)) [4] (gN 4) (tTrue) (eIf (tB_ (eApp dEq [.v (eApp dAnd [.v (eApp dShr [.v (eVar 4), .v (eVar 3)]), .v (eC (.int 1))]), .v (eC (.int 1))])) (eC (.str [111])) (eC (.str [118])))) [.shr (.tup (nuD os)), .shr (.lst (f.map .int)), .own (.lst ds), .shr (.int (i : Int)), .no] = some (.str (TL.joinL [] ys), [.shr (.tup (nuD os)), .shr (.lst (f.map .int)), .own (.lst ds), .shr (.int (i : Int)), .no]) := by
      show ((eC (.str []) _).bind _) = _
      simp only [eC, Option.bind_some, hcomp, hj, Option.map_some]
    refine ⟨[.shr (.tup (nuD os)), .shr (.lst (f.map .int)), .own (.lst ds), .shr (.int (i : Int)), .no], [.shr (.tup (nuD os)), .shr (.lst (f.map .int)), .own (.lst (ds ++ [.str (TL.joinL [] ys)])), .shr (.int (i : Int)), .no], .nx, ?_, ?_, .inl rfl, _, _, rfl, .inr ⟨_, rfl⟩, by simp [hdl]⟩
    · rcases h3 with rfl | ⟨d', rfl⟩ <;> rfl
    · refine drop_of (d := .non) ?_
      have hlt : ds.length < 16777216 := by omega
      simp only [eApd, ownL, hjoin, List.getElem?_cons_succ, List.getElem?_cons_zero, Option.bind_some, hlt, if_true, putL, List.set_cons_succ, List.set_cons_zero]
  obtain ⟨e, hfor, s3, ds, rfl, h3, hdl⟩ := key
  rw [rngD_len] at hdl
  refine ⟨ds, ?_, hdl⟩
  have hr1 : iR1 (eBits (eApp dMax [.v (eVar 1)])) [.shr (.tup (nuD os)), .shr (.lst (f.map .int)), .own (.lst []), .no, .no] = some (rngD 0 (Builtin.Int.intBits (desc os : Int)), [.shr (.tup (nuD os)), .shr (.lst (f.map .int)), .own (.lst []), .no, .no]) := by
    have hx := app_of (g := dMax) (as := [.v (eVar 1)]) (env := [.shr (.tup (nuD os)), .shr (.lst (f.map .int)), .own (.lst []), .no, .no]) (e := [.shr (.tup (nuD os)), .shr (.lst (f.map .int)), .own (.lst []), .no, .no]) (ds := [.lst (f.map .int)]) rfl hmax
    refine r1_of ?_ (by omega)
    simp only [eBits, hx, Option.bind_some, asI, Option.map_some]
  have hby : m_new_holes_by [.tup (nuD os)] = some (.lst ds) :=
    runP_of (e := [.shr (.tup (nuD os)), .shr (.lst (f.map .int)), .no, s3, .no]) rfl ((seq_nx (asg_nx (call_of (ds := [.tup (nuD os)]) rfl rfl hf) rfl)).trans ((seq_nx rfl).trans ((seq_nx (for_nx hr1 hfor)).trans rfl))) rfl
  exact runP_of (e := [.shr (.tup (nuD os))]) rfl ((seq_nx (drop_of (call_of (ds := [.tup (nuD os)]) rfl rfl (check_ok h)))).trans (retF_of (app_of (ev1 (call_of (ds := [.tup (nuD os)]) rfl rfl hby)) rfl))) rfl

/-! ### the law's own runs -/
def pre (os : List Nat) (i : Nat) : List Int := (List.range i).map fun j => ((desc (os.take (j + 1)) : Nat) : Int)
theorem pre_succ (os : List Nat) (i : Nat) : pre os (i + 1) = pre os i ++ [((desc (os.take (i + 1)) : Nat) : Int)] := by
  unfold pre
  rw [List.range_succ, List.map_append]; rfl
theorem pre_len (os : List Nat) (i : Nat) : (pre os i).length = i := by simp [pre]
theorem atI_lastD (l : List Int) (x : Int) : atI ((l ++ [x]).map D.int) (-1) = some (.int x) := by
  rw [List.map_append]
  exact atI_last _ _
/-- any list of numbers that is not empty and not too long -/
theorem lawruns_of (S : D) (os : List Nat) (hS : S = .tup (nuD os) ∨ S = .lst (nuD os)) (hn : os.length ≤ 1000) : m__law_runs [S] = some (.lst ((pre os os.length).map .int)) := by
  have hit : ∀ env1 : PL.Env, iEnM (eVar 0) (.shr S :: env1) = some (enD 0 (nuD os), .shr S :: env1) := by
    intro env1
    rcases hS with rfl | rfl <;> rfl
  have key : ∃ e, forGo (gT 2 (gsC (gN 2) (gsC (gN 3) (gsN)))) (sSeq (sAsg (eIf (tB_ (eApp dGt [.v (eVar 2), .v (eC (.int 0))])) (eApp dInt [.v (eApp dGt [.v (eApp dIx [.v (eVar 0), .v (eApp dSub [.v (eVar 2), .v (eC (.int 1))])]), .v (eVar 3)])]) (eC (.int 0))) (gN 4))
    (sDrop (eApd 1 (eIf (tB_ (eApp dGt [.v (eVar 2), .v (eC (.int 0))])) (eApp dAdd [.v (eApp dIx [.b 1, .v (eApp dNeg [.v (eC (.int 1))])]), .v (eVar 4)]) (eC (.int 0)))))) (enD 0 (nuD os)) [.shr S, .own (.lst []), .no, .no, .no] = some (.nx, e) ∧ (fun (i : Nat) (env : PL.Env) => ∃ s2 s3 s4 : PL.Slot, env = [.shr S, .own (.lst ((pre os i).map .int)), s2, s3, s4] ∧ (s2 = .no ∨ ∃ d, s2 = .shr d) ∧ (s3 = .no ∨ ∃ d, s3 = .shr d) ∧ (s4 = .no ∨ ∃ d, s4 = .shr d)) (enD 0 (nuD os)).length e := by
    refine for_inv (enD 0 (nuD os)) (fun (i : Nat) (env : PL.Env) => ∃ s2 s3 s4 : PL.Slot, env = [.shr S, .own (.lst ((pre os i).map .int)), s2, s3, s4] ∧ (s2 = .no ∨ ∃ d, s2 = .shr d) ∧ (s3 = .no ∨ ∃ d, s3 = .shr d) ∧ (s4 = .no ∨ ∃ d, s4 = .shr d)) [.shr S, .own (.lst []), .no, .no, .no] ⟨.no, .no, .no, rfl, .inl rfl, .inl rfl, .inl rfl⟩ ?_
    intro i d env hd hI
    obtain ⟨s2, s3, s4, rfl, h2, h3, h4⟩ := hI
    obtain ⟨x, hx, rfl⟩ := enI_mem _ _ _ _ hd
    rw [Int.zero_add]
    unfold nuD at hx
    rw [List.getElem?_map, Option.map_eq_some_iff] at hx
    obtain ⟨b, hb, rfl⟩ := hx
    have hi : i < os.length := (List.getElem?_eq_some_iff.mp hb).1
    have hlt : (((pre os i).map D.int)).length < 16777216 := by rw [List.length_map, pre_len]; omega
    have hg : gT 2 (gsC (gN 2) (gsC (gN 3) (gsN))) (.tup [.int (i : Int), .int (b : Int)]) [.shr S, .own (.lst ((pre os i).map .int)), s2, s3, s4] = some [.shr S, .own (.lst ((pre os i).map .int)), .shr (.int (i : Int)), .shr (.int (b : Int)), s4] := by
      rcases h2 with rfl | ⟨d', rfl⟩ <;> rcases h3 with rfl | ⟨d'', rfl⟩ <;> rfl
    cases i with
    | zero =>
      have hp1 : pre os 1 = [0] := by
        rw [show (1 : Nat) = 0 + 1 from rfl, pre_succ]
        have : desc (os.take 1) = 0 := by cases os with | nil => rfl | cons a r => rfl
        rw [this]; rfl
      refine ⟨_, [.shr S, .own (.lst ((pre os 1).map .int)), .shr (.int ((0 : Nat) : Int)), .shr (.int (b : Int)), .shr (.int 0)], .nx, hg, ?_, .inl rfl, _, _, _, rfl, .inr ⟨_, rfl⟩, .inr ⟨_, rfl⟩, .inr ⟨_, rfl⟩⟩
      rw [hp1]
      rcases h4 with rfl | ⟨d', rfl⟩ <;> rfl
    | succ i =>
      obtain ⟨a, ha⟩ : ∃ a, os[i]? = some a := ⟨os[i], List.getElem?_eq_getElem (by omega)⟩
      have hst := desc_step ha hb
      have hgt : dGt [.int ((i + 1 : Nat) : Int), .int 0] = some (.bl true) := by
        show some (D.bl (decide ((0 : Int) < ((i + 1 : Nat) : Int)))) = _
        rw [decide_eq_true (by omega)]
      have hia : dIx [S, .int (((i + 1 : Nat) : Int) - 1)] = some (.int (a : Int)) := by
        rw [show ((i + 1 : Nat) : Int) - 1 = (i : Int) by omega]
        have e : atI (nuD os) (i : Int) = some (.int (a : Int)) := by
          unfold nuD
          rw [atI_map, atI_lt (by omega), Option.map_some, (List.getElem?_eq_some_iff.mp ha).2]
        rcases hS with rfl | rfl <;> exact e
      have hcmp : dGt [.int (a : Int), .int (b : Int)] = some (.bl (decide (b < a))) := by
        show some (D.bl (decide ((b : Int) < (a : Int)))) = _
        congr 2
        rw [Bool.eq_iff_iff, decide_eq_true_eq, decide_eq_true_eq]; omega
      have hmore : dInt [.bl (decide (b < a))] = some (.int (((if b < a then 1 else 0 : Nat)) : Int)) := by
        by_cases h : b < a
        · rw [decide_eq_true h, if_pos h]; rfl
        · rw [decide_eq_false h, if_neg h]; rfl
      have e1 : sAsg (eIf (tB_ (eApp dGt [.v (eVar 2), .v (eC (.int 0))])) (eApp dInt [.v (eApp dGt [.v (eApp dIx [.v (eVar 0), .v (eApp dSub [.v (eVar 2), .v (eC (.int 1))])]), .v (eVar 3)])]) (eC (.int 0))) (gN 4) [.shr S, .own (.lst ((pre os (i + 1)).map .int)), .shr (.int ((i + 1 : Nat) : Int)), .shr (.int (b : Int)), s4] = some (.nx, [.shr S, .own (.lst ((pre os (i + 1)).map .int)), .shr (.int ((i + 1 : Nat) : Int)), .shr (.int (b : Int)), .shr (.int (((if b < a then 1 else 0 : Nat)) : Int))]) := by
        refine asg_nx (e := [.shr S, .own (.lst ((pre os (i + 1)).map .int)), .shr (.int ((i + 1 : Nat) : Int)), .shr (.int (b : Int)), s4]) (d := .int (((if b < a then 1 else 0 : Nat)) : Int)) ?_ ?_
        · have tt := tB_of (app_of (g := dGt) (as := [.v (eVar 2), .v (eC (.int 0))]) (env := [.shr S, .own (.lst ((pre os (i + 1)).map .int)), .shr (.int ((i + 1 : Nat) : Int)), .shr (.int (b : Int)), s4]) (e := [.shr S, .own (.lst ((pre os (i + 1)).map .int)), .shr (.int ((i + 1 : Nat) : Int)), .shr (.int (b : Int)), s4]) (ds := [.int ((i + 1 : Nat) : Int), .int 0]) rfl hgt)
          show (tB_ _ _).bind _ = _
          rw [tt, Option.bind_some]
          exact app_of (ev1 (app_of (ev2 (app_of (ds := [S, .int (((i + 1 : Nat) : Int) - 1)]) rfl hia) rfl) hcmp)) hmore
        · rcases h4 with rfl | ⟨d', rfl⟩ <;> rfl
      have hlast : atI ((pre os (i + 1)).map D.int) (-1) = some (.int ((desc (os.take (i + 1)) : Nat) : Int)) := by
        rw [pre_succ]; exact atI_lastD _ _
      refine ⟨_, [.shr S, .own (.lst ((pre os (i + 2)).map .int)), .shr (.int ((i + 1 : Nat) : Int)), .shr (.int (b : Int)), .shr (.int (((if b < a then 1 else 0 : Nat)) : Int))], .nx, hg, (seq_nx e1).trans (drop_of (d := .non) ?_), .inl rfl, _, _, _, rfl, .inr ⟨_, rfl⟩, .inr ⟨_, rfl⟩, .inr ⟨_, rfl⟩⟩
      have tt2 := tB_of (app_of (g := dGt) (as := [.v (eVar 2), .v (eC (.int 0))]) (env := [.shr S, .own (.lst ((pre os (i + 1)).map .int)), .shr (.int ((i + 1 : Nat) : Int)), .shr (.int (b : Int)), .shr (.int (((if b < a then 1 else 0 : Nat)) : Int))]) (e := [.shr S, .own (.lst ((pre os (i + 1)).map .int)), .shr (.int ((i + 1 : Nat) : Int)), .shr (.int (b : Int)), .shr (.int (((if b < a then 1 else 0 : Nat)) : Int))]) (ds := [.int ((i + 1 : Nat) : Int), .int 0]) rfl hgt)
      have val : eIf (tB_ (eApp dGt [.v (eVar 2), .v (eC (.int 0))])) (eApp dAdd [.v (eApp dIx [.b 1, .v (eApp dNeg [.v (eC (.int 1))])]), .v (eVar 4)]) (eC (.int 0)) [.shr S, .own (.lst ((pre os (i + 1)).map .int)), .shr (.int ((i + 1 : Nat) : Int)), .shr (.int (b : Int)), .shr (.int (((if b < a then 1 else 0 : Nat)) : Int))] = some (.int ((desc (os.take (i + 2)) : Nat) : Int), [.shr S, .own (.lst ((pre os (i + 1)).map .int)), .shr (.int ((i + 1 : Nat) : Int)), .shr (.int (b : Int)), .shr (.int (((if b < a then 1 else 0 : Nat)) : Int))]) := by
        show (tB_ _ _).bind _ = _
        rw [tt2, Option.bind_some, hst]
        exact app_of (ds := [.int ((desc (os.take (i + 1)) : Nat) : Int), .int (((if b < a then 1 else 0 : Nat)) : Int)]) (ev2 (app_of (ds := [.lst ((pre os (i + 1)).map D.int), .int (-1)]) rfl hlast) rfl) (by show some (D.int _) = _; rw [Int.natCast_add])
      simp only [eApd, ownL, val, List.getElem?_cons_succ, List.getElem?_cons_zero, Option.bind_some, hlt, if_true, putL, List.set_cons_succ, List.set_cons_zero]
      rw [pre_succ os (i + 1), List.map_append]; rfl
  obtain ⟨e, hf, s2, s3, s4, rfl, _⟩ := key
  rw [enD_len, nuD_len] at hf
  exact runP_of (e := [.shr S, .no, s2, s3, s4]) rfl ((seq_nx rfl).trans ((seq_nx (for_nx (hit _) hf)).trans rfl)) rfl
theorem lawlast {os : List Nat} (hpos : 1 ≤ os.length) : atI ((pre os os.length).map D.int) (-1) = some (.int (desc os : Int)) := by
  obtain ⟨n, hn⟩ : ∃ n, os.length = n + 1 := ⟨os.length - 1, by omega⟩
  rw [hn, pre_succ, atI_lastD, ← hn, List.take_length]

/-! ### falls of orders -/
theorem desc_le : ∀ l : List Nat, desc l + 1 ≤ l.length ∨ l = []
  | [] => .inr rfl
  | [a] => .inl (by simp [desc])
  | a :: b :: r => by
    rcases desc_le (b :: r) with h | h
    · left; rw [desc]; simp only [List.length_cons] at h ⊢; split <;> omega
    · cases h
theorem desc_app : ∀ (l r : List Nat) (x y : Nat), desc (l ++ [x] ++ y :: r) = desc (l ++ [x]) + (if y < x then 1 else 0) + desc (y :: r)
  | [], r, x, y => by show (if y < x then 1 else 0) + desc (y :: r) = _; simp [desc]
  | [a], r, x, y => by
    show (if x < a then 1 else 0) + ((if y < x then 1 else 0) + desc (y :: r)) = (if x < a then 1 else 0) + desc [x] + _ + _
    simp [desc]; omega
  | a :: b :: l, r, x, y => by
    have ih := desc_app (b :: l) r x y
    show (if b < a then 1 else 0) + desc ((b :: l) ++ [x] ++ y :: r) = (if b < a then 1 else 0) + desc ((b :: l) ++ [x]) + _ + _
    rw [ih]; omega
theorem desc_rev : ∀ l : List Nat, l.Nodup → l ≠ [] → desc l.reverse + desc l + 1 = l.length
  | [], _, h => absurd rfl h
  | [a], _, _ => rfl
  | a :: b :: r, hn, _ => by
    have h1 := desc_rev (b :: r) (List.nodup_cons.mp hn).2 (by simp)
    have hne : a ≠ b := fun e => (List.nodup_cons.mp hn).1 (by rw [e]; exact List.mem_cons_self)
    have h2 : (a :: b :: r).reverse = r.reverse ++ [b] ++ a :: [] := by simp
    have h3 : (b :: r).reverse = r.reverse ++ [b] := by simp
    rw [h2, desc_app, ← h3]
    show desc (b :: r).reverse + (if a < b then 1 else 0) + desc [a] + ((if b < a then 1 else 0) + desc (b :: r)) + 1 = (b :: r).length + 1
    have h4 : desc [a] = 0 := rfl
    rw [h4]
    by_cases h : a < b
    · rw [if_pos h, if_neg (by omega)]; omega
    · rw [if_neg h, if_pos (by omega)]; omega
/-- one taken out -/
theorem desc_out : ∀ (l r : List Nat) (x : Nat), desc (l ++ r) ≤ desc (l ++ x :: r) ∧ desc (l ++ x :: r) ≤ desc (l ++ r) + 1 := by
  intro l r x
  cases l.eq_nil_or_concat with
  | inl h =>
    subst h
    cases r with
    | nil => simp [desc]
    | cons b r => rw [List.nil_append, List.nil_append, desc]; split <;> omega
  | inr h =>
    obtain ⟨l', a, rfl⟩ := h
    rw [List.concat_eq_append]
    cases r with
    | nil =>
      have := desc_app l' [] a x
      rw [List.append_nil]
      rw [this]
      have h0 : desc [x] = 0 := rfl
      rw [h0]; split <;> omega
    | cons b r =>
      have e1 := desc_app l' (b :: r) a x
      have e2 := desc_app l' r a b
      rw [e1, e2]
      show _ ≤ desc (l' ++ [a]) + (if x < a then 1 else 0) + ((if b < x then 1 else 0) + desc (b :: r)) ∧ desc (l' ++ [a]) + (if x < a then 1 else 0) + ((if b < x then 1 else 0) + desc (b :: r)) ≤ _
      by_cases h1 : x < a <;> by_cases h2 : b < x <;> by_cases h3 : b < a <;> simp only [h1, h2, h3, if_true, if_false] <;> omega
theorem desc_two {l r : List Nat} (hl : l ≠ []) (hr : r ≠ []) (h : ∀ x ∈ l, ∀ y ∈ r, x < y) : desc (l ++ r) = desc l + desc r := by
  cases l.eq_nil_or_concat with
  | inl e => exact absurd e hl
  | inr e =>
    obtain ⟨l', a, rfl⟩ := e
    rw [List.concat_eq_append] at *
    cases r with
    | nil => exact absurd rfl hr
    | cons b r =>
      rw [desc_app, if_neg]
      · omega
      · have := h a (by simp) b (by simp); omega
theorem desc_two' {l r : List Nat} (hl : l ≠ []) (hr : r ≠ []) (h : ∀ x ∈ l, ∀ y ∈ r, y < x) : desc (l ++ r) = desc l + desc r + 1 := by
  cases l.eq_nil_or_concat with
  | inl e => exact absurd e hl
  | inr e =>
    obtain ⟨l', a, rfl⟩ := e
    rw [List.concat_eq_append] at *
    cases r with
    | nil => exact absurd rfl hr
    | cons b r =>
      rw [desc_app, if_pos]
      · omega
      · exact h a (by simp) b (by simp)
theorem desc_map (k : Nat) : ∀ l : List Nat, desc (l.map fun x => k + x) = desc l
  | [] => rfl
  | [a] => rfl
  | a :: b :: r => by
    have ih := desc_map k (b :: r)
    rw [List.map_cons, List.map_cons, desc, desc, ← List.map_cons, ih]
    congr 1
    by_cases h : b < a
    · rw [if_pos h, if_pos (by omega)]
    · rw [if_neg h, if_neg (by omega)]
theorem desc_range (n : Nat) : desc (List.range n) = 0 := by
  have : ∀ (n s : Nat), desc (List.range' s n) = 0 := by
    intro n
    induction n with
    | zero => intro s; rfl
    | succ n ih =>
      intro s
      cases n with
      | zero => rfl
      | succ n =>
        have h := ih (s + 1)
        show (if s + 1 < s then 1 else 0) + desc (List.range' (s + 1) (n + 1)) = 0
        rw [h, if_neg (by omega)]
  rw [List.range_eq_range']
  exact this n 0

/-! ### drawn orders -/
theorem wh_inv {t : TM} {body : SM} (Inv : Nat → PL.Env → Prop) (Fin : PL.Env → Prop)
    (step : ∀ k env, Inv k env → (∃ e1, t env = some (false, e1) ∧ Fin e1) ∨ ∃ e1 e2 f k', t env = some (true, e1) ∧ body e1 = some (f, e2) ∧ (f = .nx ∨ f = .ct) ∧ k' < k ∧ Inv k' e2) :
    ∀ (n k : Nat) (env : PL.Env), k < n → Inv k env → ∃ e, whGo t body n env = some (.nx, e) ∧ Fin e := by
  intro n
  induction n with
  | zero => intro k env h; omega
  | succ n ih =>
    intro k env h hI
    rcases step k env hI with ⟨e1, h1, h2⟩ | ⟨e1, e2, f, k', h1, h2, h3, h4, h5⟩
    · exact ⟨e1, by simp only [whGo, h1, Option.bind_some, Bool.false_eq_true, if_false], h2⟩
    · obtain ⟨e, h6, h7⟩ := ih k' e2 (by omega) h5
      refine ⟨e, ?_, h7⟩
      rcases h3 with rfl | rfl <;> simp only [whGo, h1, h2, Option.bind_some, if_true] <;> exact h6
theorem ord_of {os : List Nat} {n : Nat} (h : os.Perm (List.range n)) (h1 : 1 ≤ n) (h2 : n ≤ 40) : Ord os ∧ os.length = n := by
  have hl : os.length = n := by rw [h.length_eq, List.length_range]
  refine ⟨⟨h.nodup_iff.mpr List.nodup_range, fun x hx => ?_, by omega, by omega⟩, hl⟩
  rw [hl]
  exact List.mem_range.mp (h.mem_iff.mp hx)
theorem ne_nil (l : List Nat) : dNe [.lst (nuD l), .lst []] = some (.bl (!l.isEmpty)) := by
  have ho : okD (.lst (nuD l)) 64 = true := by rw [okD, okDs_ints]; rfl
  have hd : deq (.lst (nuD l)) (.lst []) = l.isEmpty := by
    rw [deq]
    cases l with
    | nil => rfl
    | cons a r => rfl
  unfold dNe
  simp only
  rw [ho, hd]; rfl
theorem nuD_erase (l : List Nat) (j : Nat) : (nuD l).eraseIdx j = nuD (l.eraseIdx j) := by
  unfold nuD
  induction l generalizing j with
  | nil => rfl
  | cons a r ih =>
    cases j with
    | zero => rfl
    | succ j => simp only [List.map_cons, List.eraseIdx_cons_succ, ih]
theorem erase_perm (l : List Nat) (j : Nat) (h : j < l.length) : (l[j] :: l.eraseIdx j).Perm l := by
  induction l generalizing j with
  | nil => simp at h
  | cons a r ih =>
    cases j with
    | zero => exact List.Perm.refl _
    | succ j =>
      simp only [List.getElem_cons_succ, List.eraseIdx_cons_succ]
      exact (List.Perm.swap _ _ _).trans ((ih j (by simpa using h)).cons a)
theorem take_call {w w' : D} {n r : Int} {env env' : PL.Env} {m : EM} (h : m__law_take [w, .int n] = some (.int r, [w', .non])) (hm : m (.iow w :: env) = some (.int n, .iow w :: env)) : eCallIo m__law_take [.io 0, .v m] (.iow w :: env) = some (.int r, .iow w' :: env) := by
  have he : evC [.io 0, .v m] (.iow w :: env) = some ([w, .int n], .iow w :: env) := by
    simp only [evC, ownD, List.getElem?_cons_zero, Option.bind_some, hm]
  exact (callIo_of he h (by simp [ioSl])).trans rfl
theorem pop_of {l : List Nat} {j : Nat} {env e : PL.Env} {m : EM} {i : Nat} (hj : j < l.length) (hz : l.length ≤ 1000) (h0 : ownL env i = some (nuD l)) (hm : m env = some (.int (j : Int), e)) (h1 : ownL e i = some (nuD l)) : ePopAt i m env = some (.int (l[j] : Nat), putL e i (nuD (l.eraseIdx j))) := by
  have hx : ixNat (nuD l).length (j : Int) = some j := by
    unfold ixNat
    rw [nuD_len, if_pos (by omega), ixN_nat hj]
  have hg : (nuD l)[j]? = some (.int (l[j] : Nat)) := by
    unfold nuD
    rw [List.getElem?_map, List.getElem?_eq_getElem hj]; rfl
  simp only [ePopAt, h0, hm, Option.bind_some, asI, h1, hx, hg, nuD_erase]
theorem order1 {w0 w : D} {many : Nat} (hw : Wl w) (h1 : 1 ≤ many) (h2 : many ≤ 40) (s5 : PL.Slot) : ∃ (os : List Nat) (w' : D), whGo (tB_ (eApp dNe [.b 3, .v (eLst [])])) (sDrop (eApd 4 (ePopAt 3 (eCallIo m__law_take [.io 0, .v (eApp dLen [.b 3])])))) 16777216 [.iow w, .shr (.int many), .no, .own (.lst (nuD (List.range many))), .own (.lst []), s5] = some (.nx, [.iow w', .shr (.int many), .no, .own (.lst []), .own (.lst (nuD os)), s5]) ∧ os.Perm (List.range many) ∧ Wl w' := by
  have := wh_inv (t := tB_ (eApp dNe [.b 3, .v (eLst [])])) (body := sDrop (eApd 4 (ePopAt 3 (eCallIo m__law_take [.io 0, .v (eApp dLen [.b 3])]))))
    (fun k env => ∃ (w : D) (l m : List Nat), env = [.iow w, .shr (.int many), .no, .own (.lst (nuD l)), .own (.lst (nuD m)), s5] ∧ Wl w ∧ l.length = k ∧ (l ++ m).Perm (List.range many))
    (fun env => ∃ (w : D) (m : List Nat), env = [.iow w, .shr (.int many), .no, .own (.lst []), .own (.lst (nuD m)), s5] ∧ Wl w ∧ m.Perm (List.range many))
    (fun k env hI => by
      obtain ⟨w, l, m, rfl, hw, hk, hp⟩ := hI
      have hlen : l.length + m.length = many := by have := hp.length_eq; rwa [List.length_append, List.length_range] at this
      have ht : tB_ (eApp dNe [.b 3, .v (eLst [])]) [.iow w, .shr (.int many), .no, .own (.lst (nuD l)), .own (.lst (nuD m)), s5] = some (!l.isEmpty, [.iow w, .shr (.int many), .no, .own (.lst (nuD l)), .own (.lst (nuD m)), s5]) := tB_of (app_of (ds := [.lst (nuD l), .lst []]) rfl (ne_nil l))
      cases l with
      | nil => exact .inl ⟨_, ht, w, m, rfl, hw, by simpa using hp⟩
      | cons a r =>
        right
        obtain ⟨q, w', hq, hq1, hq2, hw'⟩ := take_ok w ((a :: r).length : Nat) hw (by simp only [List.length_cons]; omega) (by omega)
        obtain ⟨j, rfl⟩ : ∃ j : Nat, q = (j : Int) := ⟨q.toNat, by omega⟩
        have hj : j < (a :: r).length := by omega
        have hlenE : eApp dLen [.b 3] [.iow w, .shr (.int many), .no, .own (.lst (nuD (a :: r))), .own (.lst (nuD m)), s5] = some (.int ((a :: r).length : Nat), [.iow w, .shr (.int many), .no, .own (.lst (nuD (a :: r))), .own (.lst (nuD m)), s5]) := app_of (ds := [.lst (nuD (a :: r))]) rfl (by show some (D.int ((nuD (a :: r)).length : Nat)) = _; rw [nuD_len])
        have hc := take_call (env' := []) hq hlenE
        have hpop := pop_of (i := 3) hj (by omega) rfl hc rfl
        have hapd : eApd 4 (ePopAt 3 (eCallIo m__law_take [.io 0, .v (eApp dLen [.b 3])])) [.iow w, .shr (.int many), .no, .own (.lst (nuD (a :: r))), .own (.lst (nuD m)), s5] = some (.non, [.iow w', .shr (.int many), .no, .own (.lst (nuD ((a :: r).eraseIdx j))), .own (.lst (nuD (m ++ [(a :: r)[j]]))), s5]) := by
          have hlt : (nuD m).length < 16777216 := by rw [nuD_len]; omega
          have e0 : ∀ l' : List D, putL [.iow w', .shr (.int many), .no, .own (.lst (nuD (a :: r))), .own (.lst (nuD m)), s5] 3 l' = [.iow w', .shr (.int many), .no, .own (.lst l'), .own (.lst (nuD m)), s5] := fun _ => rfl
          rw [e0] at hpop
          simp only [eApd, hpop, ownL, List.getElem?_cons_succ, List.getElem?_cons_zero, Option.bind_some, hlt, if_true, putL, List.set_cons_succ, List.set_cons_zero]
          unfold nuD
          rw [List.map_append]; rfl
        refine ⟨_, _, .nx, ((a :: r).eraseIdx j).length, ht, drop_of hapd, .inl rfl, ?_, w', (a :: r).eraseIdx j, m ++ [(a :: r)[j]], rfl, hw', rfl, ?_⟩
        · rw [List.length_eraseIdx_of_lt hj]; omega
        · refine List.Perm.trans ?_ hp
          have p1 : ((a :: r)[j] :: (a :: r).eraseIdx j).Perm (a :: r) := erase_perm _ j hj
          have p2 : ((a :: r).eraseIdx j ++ (m ++ [(a :: r)[j]])).Perm ((a :: r)[j] :: (a :: r).eraseIdx j ++ m) := by
            rw [← List.append_assoc]
            exact List.perm_append_comm.trans (by simp)
          exact p2.trans (p1.append_right m))
    16777216 many [.iow w, .shr (.int many), .no, .own (.lst (nuD (List.range many))), .own (.lst []), s5] (by omega) ⟨w, List.range many, [], rfl, hw, by simp, by simp⟩
  obtain ⟨e, h3, w', m, rfl, hw', hp⟩ := this
  exact ⟨m, w', h3, hp, hw'⟩

/-! ### one card moved; the drawn order -/
theorem rng_nuD (n : Nat) : rngD 0 n = nuD (List.range n) := by
  rw [rngD_eq]
  unfold nuD
  apply List.map_congr_left
  intro i _
  rw [Int.zero_add]
theorem move_perm (l : List Nat) (j k : Nat) (h : j < l.length) : ((l.eraseIdx j).take k ++ l[j] :: (l.eraseIdx j).drop k).Perm l := by
  refine List.perm_middle.trans ?_
  rw [List.take_append_drop]
  exact erase_perm l j h
theorem move_desc (l : List Nat) (j k : Nat) (h : j < l.length) : desc l ≤ desc ((l.eraseIdx j).take k ++ l[j] :: (l.eraseIdx j).drop k) + 1 ∧ desc ((l.eraseIdx j).take k ++ l[j] :: (l.eraseIdx j).drop k) ≤ desc l + 1 := by
  have h1 := desc_out ((l.eraseIdx j).take k) ((l.eraseIdx j).drop k) l[j]
  rw [List.take_append_drop] at h1
  have h2 := desc_out (l.take j) (l.drop (j + 1)) l[j]
  rw [← List.eraseIdx_eq_take_drop_succ, ← List.drop_eq_getElem_cons h, List.take_append_drop] at h2
  omega
theorem move_ok {i : Nat} {m : EM} {l : List Nat} {w : D} {R : List D → PL.Env} (hw : Wl w) (h1 : 1 ≤ l.length) (h2 : l.length ≤ 40)
    (hm : ∀ w, m (.iow w :: R (nuD l)) = some (.int (l.length : Nat), .iow w :: R (nuD l)))
    (ho : ∀ w l, ownL (.iow w :: R l) i = some l)
    (hp : ∀ w l l', putL (.iow w :: R l) i l' = .iow w :: R l') :
    ∃ (l' : List Nat) (w' : D), eIns i (eCallIo m__law_take [.io 0, .v m]) (ePopAt i (eCallIo m__law_take [.io 0, .v m])) (.iow w :: R (nuD l)) = some (.non, .iow w' :: R (nuD l')) ∧ l'.Perm l ∧ desc l ≤ desc l' + 1 ∧ desc l' ≤ desc l + 1 ∧ Wl w' := by
  obtain ⟨q, w1, hq, hq1, hq2, hw1⟩ := take_ok w (l.length : Nat) hw (by omega) (by omega)
  obtain ⟨p, w2, hp', hp1, hp2, hw2⟩ := take_ok w1 (l.length : Nat) hw1 (by omega) (by omega)
  obtain ⟨k, rfl⟩ : ∃ k : Nat, q = (k : Int) := ⟨q.toNat, by omega⟩
  obtain ⟨j, rfl⟩ : ∃ j : Nat, p = (j : Int) := ⟨p.toNat, by omega⟩
  have hj : j < l.length := by omega
  have c1 := take_call (env' := []) hq (hm w)
  have c2 := take_call (env' := []) hp' (hm w1)
  have c3 := pop_of (i := i) hj (by omega) (ho w1 _) c2 (ho w2 _)
  rw [hp] at c3
  refine ⟨(l.eraseIdx j).take k ++ l[j] :: (l.eraseIdx j).drop k, w2, ?_, move_perm l j k hj, (move_desc l j k hj).1, (move_desc l j k hj).2, hw2⟩
  have hcond : (0 : Int) ≤ (k : Int) ∧ (k : Int).natAbs < 2 ^ 62 ∧ (nuD (l.eraseIdx j)).length < 16777216 := by
    refine ⟨by omega, by omega, ?_⟩
    rw [nuD_len, List.length_eraseIdx_of_lt hj]; omega
  simp only [eIns, ho, c1, c3, Option.bind_some, asI]
  rw [if_pos hcond, hp]
  unfold nuD
  rw [List.map_append, List.map_cons, List.map_take, List.map_drop, Int.toNat_natCast, List.append_assoc]; rfl
theorem moves {w : D} {many : Nat} {l : List Nat} (n : Nat) (hw : Wl w) (h1 : 1 ≤ many) (h2 : many ≤ 40) (hl : l.Perm (List.range many)) (s4 s5 : PL.Slot) :
    ∃ (os : List Nat) (w' : D) (s2 : PL.Slot), forGo (gN 2) (sDrop (eIns 3 (eCallIo m__law_take [.io 0, .v (eVar 1)]) (ePopAt 3 (eCallIo m__law_take [.io 0, .v (eVar 1)])))) (rngD 0 n) [.iow w, .shr (.int many), .no, .own (.lst (nuD l)), s4, s5] = some (.nx, [.iow w', .shr (.int many), s2, .own (.lst (nuD os)), s4, s5]) ∧ os.Perm (List.range many) ∧ Wl w' := by
  obtain ⟨e, hf, w', os, s2, rfl, hp, hw', _⟩ := for_inv (g := gN 2) (body := sDrop (eIns 3 (eCallIo m__law_take [.io 0, .v (eVar 1)]) (ePopAt 3 (eCallIo m__law_take [.io 0, .v (eVar 1)])))) (rngD 0 n)
    (fun _ env => ∃ (w : D) (l : List Nat) (s2 : PL.Slot), env = [.iow w, .shr (.int many), s2, .own (.lst (nuD l)), s4, s5] ∧ l.Perm (List.range many) ∧ Wl w ∧ (s2 = .no ∨ ∃ d, s2 = .shr d))
    [.iow w, .shr (.int many), .no, .own (.lst (nuD l)), s4, s5] ⟨w, l, .no, rfl, hl, hw, .inl rfl⟩ (fun i d env hd hI => by
      obtain ⟨w, l, s2, rfl, hl, hw, hs⟩ := hI
      have hlen : l.length = many := by rw [hl.length_eq, List.length_range]
      obtain ⟨l', w', hm, hp, _, _, hw'⟩ := move_ok (i := 3) (m := eVar 1) (l := l) (R := fun x => [.shr (.int many), .shr d, .own (.lst x), s4, s5]) hw (by omega) (by omega) (fun w => by rw [hlen]; rfl) (fun _ _ => rfl) (fun _ _ _ => rfl)
      refine ⟨[.iow w, .shr (.int many), .shr d, .own (.lst (nuD l)), s4, s5], _, .nx, ?_, drop_of hm, .inl rfl, w', l', .shr d, rfl, hp.trans hl, hw', .inr ⟨_, rfl⟩⟩
      rcases hs with rfl | ⟨d', rfl⟩ <;> rfl)
  exact ⟨os, w', s2, hf, hp, hw'⟩
theorem nuD_rev (l : List Nat) : (nuD l).reverse = nuD l.reverse := by
  unfold nuD
  rw [List.map_reverse]
theorem order_ok {w : D} {many : Nat} (hw : Wl w) (h1 : 1 ≤ many) (h2 : many ≤ 40) : ∃ (os : List Nat) (w' : D), m__law_order [w, .int many] = some (.tup (nuD os), [w', .non]) ∧ Ord os ∧ os.length = many ∧ Wl w' := by
  obtain ⟨q, w1, hq, hq1, hq2, hw1⟩ := take_ok w 5 hw (by omega) (by omega)
  have hrg : eRg1 .lst (eVar 1) [.iow w, .shr (.int many), .no, .no, .no, .no] = some (.lst (nuD (List.range many)), [.iow w, .shr (.int many), .no, .no, .no, .no]) := by
    have hn : (many : Int).natAbs ≤ 16777216 := by omega
    simp only [eRg1, eVar, asI, List.getElem?_cons_zero, List.getElem?_cons_succ, Option.bind_some, hn, if_true, Int.toNat_natCast, rng_nuD]
  have hpar : sPar3 3 4 5 (true, eRg1 .lst (eVar 1)) (true, eLst []) (false, eCallIo m__law_take [.io 0, .v (eC (.int 5))]) [.iow w, .shr (.int many), .no, .no, .no, .no] = some (.nx, [.iow w1, .shr (.int many), .no, .own (.lst (nuD (List.range many))), .own (.lst []), .shr (.int q)]) := by
    have c := take_call (env := [.shr (.int many), .no, .no, .no, .no]) (env' := []) (m := eC (.int 5)) hq rfl
    simp only [sPar3, hrg, eLst, evL, Option.bind_some, Option.map_some, c]; rfl
  have hpm : ∀ os : List Nat, os.Perm (List.range many) → Ord os ∧ os.length = many := fun os h => ord_of h h1 h2
  by_cases hc : q < 3
  · obtain ⟨os, w', hb, hp, hw'⟩ := order1 (w0 := w1) hw1 h1 h2 (.shr (.int q))
    obtain ⟨ho, hl⟩ := hpm os hp
    refine ⟨os, w', ?_, ho, hl, hw'⟩
    have hif : tB_ (eApp dLt [.v (eVar 5), .v (eC (.int 3))]) [.iow w1, .shr (.int many), .no, .own (.lst (nuD (List.range many))), .own (.lst []), .shr (.int q)] = some (true, [.iow w1, .shr (.int many), .no, .own (.lst (nuD (List.range many))), .own (.lst []), .shr (.int q)]) := tB_of (app_of (ds := [.int q, .int 3]) rfl (by show some (D.bl (decide (q < 3))) = _; rw [decide_eq_true hc]))
    have hb2 : b__law_order [.iow w, .shr (.int many), .no, .no, .no, .no] = some (.rt true (.tup (nuD os)), [.iow w', .shr (.int many), .no, .own (.lst []), .own (.lst (nuD os)), .shr (.int q)]) := by
      refine (seq_nx hpar).trans (seq_rt ((if_t hif).trans ((seq_nx (e := [.iow w', .shr (.int many), .no, .own (.lst []), .own (.lst (nuD os)), .shr (.int q)]) ?_).trans (retF_of rfl))))
      exact hb
    show (b__law_order [.iow w, .shr (.int many), .no, .no, .no, .no]).bind _ = _
    rw [hb2]; rfl
  · have hif : tB_ (eApp dLt [.v (eVar 5), .v (eC (.int 3))]) [.iow w1, .shr (.int many), .no, .own (.lst (nuD (List.range many))), .own (.lst []), .shr (.int q)] = some (false, [.iow w1, .shr (.int many), .no, .own (.lst (nuD (List.range many))), .own (.lst []), .shr (.int q)]) := tB_of (app_of (ds := [.int q, .int 3]) rfl (by show some (D.bl (decide (q < 3))) = _; rw [decide_eq_false hc]))
    obtain ⟨l, hl, hif3⟩ : ∃ l : List Nat, l.Perm (List.range many) ∧ sIf (tB_ (eApp dEq [.v (eVar 5), .v (eC (.int 3))])) (sOwn (eRev (eVar 3)) 3) (sNop) [.iow w1, .shr (.int many), .no, .own (.lst (nuD (List.range many))), .own (.lst []), .shr (.int q)] = some (.nx, [.iow w1, .shr (.int many), .no, .own (.lst (nuD l)), .own (.lst []), .shr (.int q)]) := by
      have ht : tB_ (eApp dEq [.v (eVar 5), .v (eC (.int 3))]) [.iow w1, .shr (.int many), .no, .own (.lst (nuD (List.range many))), .own (.lst []), .shr (.int q)] = some (q == 3, [.iow w1, .shr (.int many), .no, .own (.lst (nuD (List.range many))), .own (.lst []), .shr (.int q)]) := tB_of (app_of (ds := [.int q, .int 3]) rfl rfl)
      by_cases h3 : q = 3
      · rw [show (q == 3) = true by rw [h3]; rfl] at ht
        refine ⟨(List.range many).reverse, List.reverse_perm _, (if_t ht).trans ?_⟩
        refine (own_of (d := .lst (nuD (List.range many).reverse)) (e := [.iow w1, .shr (.int many), .no, .shr (.lst (nuD (List.range many))), .own (.lst []), .shr (.int q)]) ?_ rfl).trans rfl
        show ((eVar 3 _).bind _) = _
        simp only [eVar, List.getElem?_cons_succ, List.getElem?_cons_zero, Option.bind_some, dRev, Option.map_some, nuD_rev]; rfl
      · rw [show (q == 3) = false by simp [h3]] at ht
        exact ⟨List.range many, List.Perm.refl _, (if_f ht).trans rfl⟩
    obtain ⟨q2, w2, hq', hq21, hq22, hw2⟩ := take_ok w1 4 hw1 (by omega) (by omega)
    obtain ⟨n, rfl⟩ : ∃ n : Nat, q2 = (n : Int) := ⟨q2.toNat, by omega⟩
    obtain ⟨os, w', s2, hf, hp, hw'⟩ := moves (l := l) n hw2 h1 h2 hl (.own (.lst [])) (.shr (.int q))
    obtain ⟨ho, hlen⟩ := hpm os hp
    refine ⟨os, w', ?_, ho, hlen, hw'⟩
    have hr : iR1 (eIf (tB_ (eApp dGt [.v (eVar 1), .v (eC (.int 0))])) (eCallIo m__law_take [.io 0, .v (eC (.int 4))]) (eC (.int 0))) [.iow w1, .shr (.int many), .no, .own (.lst (nuD l)), .own (.lst []), .shr (.int q)] = some (rngD 0 n, [.iow w2, .shr (.int many), .no, .own (.lst (nuD l)), .own (.lst []), .shr (.int q)]) := by
      have c := take_call (env := [.shr (.int many), .no, .own (.lst (nuD l)), .own (.lst []), .shr (.int q)]) (env' := []) (m := eC (.int 4)) hq' rfl
      refine r1_of ?_ (by omega)
      have ht : tB_ (eApp dGt [.v (eVar 1), .v (eC (.int 0))]) [.iow w1, .shr (.int many), .no, .own (.lst (nuD l)), .own (.lst []), .shr (.int q)] = some (true, [.iow w1, .shr (.int many), .no, .own (.lst (nuD l)), .own (.lst []), .shr (.int q)]) := tB_of (app_of (ds := [.int many, .int 0]) rfl (by show some (D.bl (decide ((0 : Int) < many))) = _; rw [decide_eq_true (by omega)]))
      show (tB_ _ _).bind _ = _
      rw [ht]; exact c
    have hb2 : b__law_order [.iow w, .shr (.int many), .no, .no, .no, .no] = some (.rt true (.tup (nuD os)), [.iow w', .shr (.int many), s2, .own (.lst (nuD os)), .own (.lst []), .shr (.int q)]) :=
      (seq_nx hpar).trans ((seq_nx ((if_f hif).trans rfl)).trans ((seq_nx hif3).trans ((seq_nx (for_nx hr hf)).trans (retF_of rfl))))
    show (b__law_order [.iow w, .shr (.int many), .no, .no, .no, .no]).bind _ = _
    rw [hb2]; rfl
end K15
end

section
set_option maxRecDepth 100000
namespace K15
open PL PySem L2
set_option maxHeartbeats 1000000
theorem take_aft {w : D} {n : Nat} (hw : Wl w) (h1 : 1 ≤ n) (h2 : n < 1073741824) : Aft (m__law_take [w, .int n]) fun r => ∃ (k : Nat) (w' : D), r = (.int k, [w', .non]) ∧ k < n ∧ Wl w' := by
  obtain ⟨r, w', h, h3, h4, h5⟩ := take_ok w n hw (by omega) (by omega)
  exact ⟨_, h, r.toNat, w', by rw [Int.toNat_of_nonneg h3], by omega, h5⟩
mutual
theorem okS_mono : ∀ (d : D) (n m : Nat), n ≤ m → okS d n = true → okS d m = true
  | .non, _, _, _, _ => rfl
  | .bl _, _, _, _, _ => rfl
  | .int _, _, _, _, _ => rfl
  | .str _, _, _, _, _ => rfl
  | .lst ds, n, m, h, g => by
    simp only [okS, Bool.and_eq_true, decide_eq_true_eq] at g ⊢
    exact ⟨⟨by omega, g.1.2⟩, okSs_mono ds _ _ (by omega) g.2⟩
  | .tup ds, n, m, h, g => by
    simp only [okS, Bool.and_eq_true, decide_eq_true_eq] at g ⊢
    exact ⟨⟨by omega, g.1.2⟩, okSs_mono ds _ _ (by omega) g.2⟩
  | .dct _, _, _, _, g => by cases g
  | .opq _, _, _, _, g => by cases g
theorem okSs_mono : ∀ (ds : List D) (n m : Nat), n ≤ m → okSs ds n = true → okSs ds m = true
  | [], _, _, _, _ => rfl
  | d :: ds, n, m, h, g => by
    simp only [okSs, Bool.and_eq_true] at g ⊢
    exact ⟨okS_mono d n m h g.1, okSs_mono ds n m h g.2⟩
end
theorem aft_same {a b : D} {Q : D → Prop} (e : a = b) (h : (okS b 6 && noLst b) = true) (q : Q (.bl true)) : Aft (m__law_same 8 [a, b]) Q := by
  subst e
  rw [Bool.and_eq_true] at h
  have h1 : okS a 7 = true := okS_mono _ _ _ (by omega) h.1
  exact ⟨_, same_ok 7 a h1 h.2, q⟩
theorem ord_rev {os : List Nat} (h : Ord os) : Ord os.reverse :=
  ⟨(List.reverse_perm os).nodup_iff.mpr h.nd, fun x hx => by rw [List.length_reverse]; exact h.lt x (List.mem_reverse.mp hx), by rw [List.length_reverse]; exact h.pos, by rw [List.length_reverse]; exact h.le⟩
theorem ord_perm {os l : List Nat} (h : Ord os) (p : l.Perm os) : Ord l :=
  ⟨p.nodup_iff.mpr h.nd, fun x hx => by rw [p.length_eq]; exact h.lt x (p.mem_iff.mp hx), by rw [p.length_eq]; exact h.pos, by rw [p.length_eq]; exact h.le⟩
theorem room {ds : List D} {e0 e1 e2 e5 : PL.Slot} {Q : Fl × PL.Env → Prop} (hz : ds.length ≤ 60)
    (h : ∀ s, Q (.nx, [e0, e1, e2, .shr (.int ((2 ^ ds.length : Nat) : Int)), s, e5])) : Aft (forGo (gN 4) (sAsg (eApp dMul [Arg.v (eC (D.int 2)), Arg.v (eVar 3)]) (gN 3)) ds [e0, e1, e2, .shr (.int 1), .no, e5]) Q := by
  refine aft_for (fun i e => ∃ s, fre s = true ∧ e = [e0, e1, e2, .shr (.int ((2 ^ i : Nat) : Int)), s, e5]) ⟨.no, rfl, rfl⟩ ?_ ?_
  · rintro i d e hd ⟨s, hs, rfl⟩
    simp only [q_var, q_var1, q_var2, q_pk, q_pk1, q_pk2, q_pk3, q_ol, q_ol1, q_ol2, q_pl, q_pl1, q_pl2, q_od, q_od1, q_od2, q_pd, q_pd1, q_pd2, q_fr, q_fr1, q_fr2, q_fr3, q_fr4, q_set1, q_gN, q_gsN, q_gsC, q_gT, q_kK, q_gIx, q_gIx1, q_c, q_cons, q_A0, q_A1, q_A2, q_A3, q_A4, q_A5, q_R, q_app, q_app1, q_L0, q_L1, q_L2, q_tup, q_tup1, q_lst, q_lst1, q_Br, q_tB, q_tB1, q_tTr, q_tTr1, q_tNo, q_tNo1, q_tAn, q_tAn1, q_tAn2, q_tOr, q_tOr1, q_tOr2, q_tT, q_eIf, q_sIf, q_if1, q_if2, q_eOr, q_eOr1, q_eOr2, q_eOr3, q_eAn, q_eAn1, q_eAn2, q_eAn3, q_Nt2, q_eNt, q_eNt1, q_ch, q_ch1, q_ch2, q_ch3, q_ch4, q_ch5, q_sl, q_sl1, q_sl2, q_sl3, q_slb, q_slb1, q_slb2, q_slb3, q_oNo, q_oSo, q_oSo1, q_I2, q_iOf, q_iOf1, q_it1, q_it2, q_it3, q_R1, q_R1a, q_R1b, q_R2, q_R2a, q_R2b, q_En2, q_En, q_En1, q_Zp, q_Zp1, q_Zp2, q_Zp3, q_Zp4, q_Lc, q_Lc1, q_Lc2, q_Lc3, q_w0, q_w1, q_w2, q_call, q_call0, q_call1, q_call2, q_call3, q_call4, q_call5, q_cB, q_cB1, q_cB2, q_cB3, q_cB4, q_len, q_lenI, q_lenB, q_lenS, q_lenN, q_cK, q_cKn, q_pm0, q_pm1, q_C0, q_C1, q_C2, q_C3, q_C4, q_C5, q_C6, q_nd, q_ci, q_ci1, q_ci2, q_is0, q_is1, q_is2, q_is3, q_nd0, q_nd1, q_nd2, q_po0, q_po1, q_po2, q_po3, q_rev, q_rev1, q_rev2, q_rev3, q_rg1, q_rg1a, q_rg1b, q_jn, q_jn1, q_jn2, q_bi, q_bi1, q_ap, q_ap1, q_ap2, q_pa, q_pa1, q_pa2, q_pp, q_pp1, q_in, q_in1, q_in2, q_in3, q_nop, q_sq, q_sq1, q_sq2, q_sq3, q_sq4, q_dr, q_dr1, q_rF, q_rF1, q_rt, q_rt1, q_rN, q_rO, q_rO1, q_rO2, q_m1, q_m2, q_m3, q_m4, q_m5, q_m6, q_Nx, q_as, q_as1, q_ow, q_ow1, q_mo1, q_mo2, q_mo3, q_mo4, q_mo5, q_mo6, q_so1, q_so2, q_p2, q_p2a, q_p2b, q_p3, q_p3a, q_p3b, q_p3c, q_for, q_for1, q_wh, q_bk, q_ct, q_kP, q_ro1, q_ro2, q_ro3, q_kF, q_kF2, q_os0, q_os1, q_os2, q_n1, q_n2, q_n3, q_n4, q_lk1, q_lk2, q_lm1, q_lf1, q_lf2, q_li1, q_li2, q_le1, q_addI, q_subI, q_mulI1, q_mulI2, q_fdI, q_mdI, q_negI, q_absI, q_intI, q_intB, q_maxI, q_minI, q_dmI, q_ltI, q_leI, q_gtI, q_geI, q_ltS, q_leS, q_gtS, q_geS, q_eqI, q_neI, q_eqS, q_neS, q_eqB, q_neB, q_isN_int, q_isN_bool, q_isN_str, q_isN_tuple, q_isN_list, q_isNN, q_inNN, q_isB_int, q_isB_bool, q_isB_str, q_isB_tuple, q_isB_list, q_isNB, q_inNB, q_isBB, q_isI_int, q_isI_bool, q_isI_str, q_isI_tuple, q_isI_list, q_isNI, q_inNI, q_isBI, q_isS_int, q_isS_bool, q_isS_str, q_isS_tuple, q_isS_list, q_isNS, q_inNS, q_isBS, q_isT_int, q_isT_bool, q_isT_str, q_isT_tuple, q_isT_list, q_isNT, q_inNT, q_isBT, q_lenT, q_isL_int, q_isL_bool, q_isL_str, q_isL_tuple, q_isL_list, q_isNL, q_inNL, q_isBL, q_lenL, q_isBN, q_lnS, q_trN, q_trB, q_trI, q_trT, q_trL, q_trS, q_tupL, q_tupT, q_lstL, q_lstT, q_addT, q_addL, q_addS, q_ixT, q_ixL, q_ixS, q_chD, q_at0, q_at1, q_at2, q_atN, q_slT, q_slL, q_slS, q_mulL, aft_some, aft_bind, aft_map, Option.bind_some, Option.map_some, List.getElem?_cons_zero, List.getElem?_cons_succ, List.set_cons_zero, List.set_cons_succ, PL.small64, smallI, Int.reduceAbs, Int.natAbs_natCast, Nat.reducePow, List.getD_cons_zero, List.getD_cons_succ, List.length_cons, List.length_nil, Nat.zero_add, Nat.reduceAdd, Nat.reduceEqDiff, if_true, if_false, ite_true, ite_false, Bool.false_eq_true, Bool.not_true, Bool.not_false, decide_true, decide_false, Bool.true_and, Bool.and_true, Bool.and_self, ne_eq, Nat.reduceLT, Nat.reduceLeDiff, Int.reduceLT, Int.reduceLE, Int.reduceToNat, Int.reduceNeg, rng_nI, enD_map0, zpD_map, chars_map, List.length_map, List.length_range, Int.reduceEq, not_false_eq_true, not_true_eq_false, reduceCtorEq, true_and, and_true, Int.toNat_natCast, Bool.not_eq_true, hs]
    exact ⟨_, rfl, by rw [Nat.pow_succ]; congr 6; simp; omega⟩
  · rintro e ⟨s, hs, rfl⟩
    exact h s
theorem bits_lt : ∀ n : Nat, n < 64 → Builtin.Int.intBits (n : Int) ≤ 6 ∧ n + 1 ≤ 2 ^ Builtin.Int.intBits (n : Int) ∧ (1 < 2 ^ Builtin.Int.intBits (n : Int) → 2 ^ Builtin.Int.intBits (n : Int) < 2 * (n + 1)) := by
  decide +kernel
theorem nuD_move (l : List Nat) (j k : Nat) (h : j < l.length) (h' : j < (nuD l).length) : ((nuD l).eraseIdx j).take k ++ [(nuD l)[j]] ++ ((nuD l).eraseIdx j).drop k = nuD ((l.eraseIdx j).take k ++ l[j] :: (l.eraseIdx j).drop k) := by
  have e : (nuD l)[j] = .int (l[j] : Nat) := List.getElem_map _
  rw [nuD_erase, e]
  unfold nuD
  rw [List.map_append, List.map_cons, List.map_take, List.map_drop, List.append_assoc]; rfl
theorem noLsts_int : ∀ l : List Int, noLsts (l.map D.int) = true
  | [] => rfl
  | a :: l => by
    show (noLst (.int a) && noLsts (l.map D.int)) = true
    rw [noLsts_int l]; rfl
theorem order_right {w : D} {os : List Nat} (hw : Wl w) (h : Ord os) : Aft (m__law_order_right [w, .tup (nuD os)]) fun r => ∃ w', r = (.bl true, [w', .non]) ∧ Wl w' := by
  have hlen := h.le
  have hpos := h.pos
  have h1 := lawruns_of (.tup (nuD os)) os (.inl rfl) (by omega)
  have h2 := lawlast (os := os) (by omega)
  have h3 := count_ok h
  have h4 := count_ok (ord_rev h)
  have h5 : desc os.reverse + desc os + 1 = os.length := desc_rev os h.nd (by intro e; rw [e] at hpos; simp at hpos)
  obtain ⟨hs, h6, h7⟩ := holes_ok h
  rw [eq__law_order_right]
  simp only [b__law_order_right, q_var, q_var1, q_var2, q_pk, q_pk1, q_pk2, q_pk3, q_ol, q_ol1, q_ol2, q_pl, q_pl1, q_pl2, q_od, q_od1, q_od2, q_pd, q_pd1, q_pd2, q_fr, q_fr1, q_fr2, q_fr3, q_fr4, q_set1, q_gN, q_gsN, q_gsC, q_gT, q_kK, q_gIx, q_gIx1, q_c, q_cons, q_A0, q_A1, q_A2, q_A3, q_A4, q_A5, q_R, q_app, q_app1, q_L0, q_L1, q_L2, q_tup, q_tup1, q_lst, q_lst1, q_Br, q_tB, q_tB1, q_tTr, q_tTr1, q_tNo, q_tNo1, q_tAn, q_tAn1, q_tAn2, q_tOr, q_tOr1, q_tOr2, q_tT, q_eIf, q_sIf, q_if1, q_if2, q_eOr, q_eOr1, q_eOr2, q_eOr3, q_eAn, q_eAn1, q_eAn2, q_eAn3, q_Nt2, q_eNt, q_eNt1, q_ch, q_ch1, q_ch2, q_ch3, q_ch4, q_ch5, q_sl, q_sl1, q_sl2, q_sl3, q_slb, q_slb1, q_slb2, q_slb3, q_oNo, q_oSo, q_oSo1, q_I2, q_iOf, q_iOf1, q_it1, q_it2, q_it3, q_R1, q_R1a, q_R1b, q_R2, q_R2a, q_R2b, q_En2, q_En, q_En1, q_Zp, q_Zp1, q_Zp2, q_Zp3, q_Zp4, q_Lc, q_Lc1, q_Lc2, q_Lc3, q_w0, q_w1, q_w2, q_call, q_call0, q_call1, q_call2, q_call3, q_call4, q_call5, q_cB, q_cB1, q_cB2, q_cB3, q_cB4, q_len, q_lenI, q_lenB, q_lenS, q_lenN, q_cK, q_cKn, q_pm0, q_pm1, q_C0, q_C1, q_C2, q_C3, q_C4, q_C5, q_C6, q_nd, q_ci, q_ci1, q_ci2, q_is0, q_is1, q_is2, q_is3, q_nd0, q_nd1, q_nd2, q_po0, q_po1, q_po2, q_po3, q_rev, q_rev1, q_rev2, q_rev3, q_rg1, q_rg1a, q_rg1b, q_jn, q_jn1, q_jn2, q_bi, q_bi1, q_ap, q_ap1, q_ap2, q_pa, q_pa1, q_pa2, q_pp, q_pp1, q_in, q_in1, q_in2, q_in3, q_nop, q_sq, q_sq1, q_sq2, q_sq3, q_sq4, q_dr, q_dr1, q_rF, q_rF1, q_rt, q_rt1, q_rN, q_rO, q_rO1, q_rO2, q_m1, q_m2, q_m3, q_m4, q_m5, q_m6, q_Nx, q_as, q_as1, q_ow, q_ow1, q_mo1, q_mo2, q_mo3, q_mo4, q_mo5, q_mo6, q_so1, q_so2, q_p2, q_p2a, q_p2b, q_p3, q_p3a, q_p3b, q_p3c, q_for, q_for1, q_wh, q_bk, q_ct, q_kP, q_ro1, q_ro2, q_ro3, q_kF, q_kF2, q_os0, q_os1, q_os2, q_n1, q_n2, q_n3, q_n4, q_lk1, q_lk2, q_lm1, q_lf1, q_lf2, q_li1, q_li2, q_le1, q_addI, q_subI, q_mulI1, q_mulI2, q_fdI, q_mdI, q_negI, q_absI, q_intI, q_intB, q_maxI, q_minI, q_dmI, q_ltI, q_leI, q_gtI, q_geI, q_ltS, q_leS, q_gtS, q_geS, q_eqI, q_neI, q_eqS, q_neS, q_eqB, q_neB, q_isN_int, q_isN_bool, q_isN_str, q_isN_tuple, q_isN_list, q_isNN, q_inNN, q_isB_int, q_isB_bool, q_isB_str, q_isB_tuple, q_isB_list, q_isNB, q_inNB, q_isBB, q_isI_int, q_isI_bool, q_isI_str, q_isI_tuple, q_isI_list, q_isNI, q_inNI, q_isBI, q_isS_int, q_isS_bool, q_isS_str, q_isS_tuple, q_isS_list, q_isNS, q_inNS, q_isBS, q_isT_int, q_isT_bool, q_isT_str, q_isT_tuple, q_isT_list, q_isNT, q_inNT, q_isBT, q_lenT, q_isL_int, q_isL_bool, q_isL_str, q_isL_tuple, q_isL_list, q_isNL, q_inNL, q_isBL, q_lenL, q_isBN, q_lnS, q_trN, q_trB, q_trI, q_trT, q_trL, q_trS, q_tupL, q_tupT, q_lstL, q_lstT, q_addT, q_addL, q_addS, q_ixT, q_ixL, q_ixS, q_chD, q_at0, q_at1, q_at2, q_atN, q_slT, q_slL, q_slS, q_mulL, aft_some, aft_bind, aft_map, Option.bind_some, Option.map_some, List.getElem?_cons_zero, List.getElem?_cons_succ, List.set_cons_zero, List.set_cons_succ, PL.small64, smallI, Int.reduceAbs, Int.natAbs_natCast, Nat.reducePow, List.getD_cons_zero, List.getD_cons_succ, List.length_cons, List.length_nil, Nat.zero_add, Nat.reduceAdd, Nat.reduceEqDiff, if_true, if_false, ite_true, ite_false, Bool.false_eq_true, Bool.not_true, Bool.not_false, decide_true, decide_false, Bool.true_and, Bool.and_true, Bool.and_self, ne_eq, Nat.reduceLT, Nat.reduceLeDiff, Int.reduceLT, Int.reduceLE, Int.reduceToNat, Int.reduceNeg, rng_nI, enD_map0, zpD_map, chars_map, List.length_map, List.length_range, Int.reduceEq, not_false_eq_true, not_true_eq_false, reduceCtorEq, true_and, and_true, Int.toNat_natCast, Bool.not_eq_true, h1, h2, h3, h4, nuD_rev, nuD_len]
  refine aft_same ?_ rfl ?_
  · simp only [D.tup.injEq, List.cons.injEq, D.int.injEq, and_true]; omega
  have hbits := bits_lt (desc os) (by omega)
  rw [← h7] at hbits
  obtain ⟨hb1, hb2, hb3⟩ := hbits
  simp only [q_var, q_var1, q_var2, q_pk, q_pk1, q_pk2, q_pk3, q_ol, q_ol1, q_ol2, q_pl, q_pl1, q_pl2, q_od, q_od1, q_od2, q_pd, q_pd1, q_pd2, q_fr, q_fr1, q_fr2, q_fr3, q_fr4, q_set1, q_gN, q_gsN, q_gsC, q_gT, q_kK, q_gIx, q_gIx1, q_c, q_cons, q_A0, q_A1, q_A2, q_A3, q_A4, q_A5, q_R, q_app, q_app1, q_L0, q_L1, q_L2, q_tup, q_tup1, q_lst, q_lst1, q_Br, q_tB, q_tB1, q_tTr, q_tTr1, q_tNo, q_tNo1, q_tAn, q_tAn1, q_tAn2, q_tOr, q_tOr1, q_tOr2, q_tT, q_eIf, q_sIf, q_if1, q_if2, q_eOr, q_eOr1, q_eOr2, q_eOr3, q_eAn, q_eAn1, q_eAn2, q_eAn3, q_Nt2, q_eNt, q_eNt1, q_ch, q_ch1, q_ch2, q_ch3, q_ch4, q_ch5, q_sl, q_sl1, q_sl2, q_sl3, q_slb, q_slb1, q_slb2, q_slb3, q_oNo, q_oSo, q_oSo1, q_I2, q_iOf, q_iOf1, q_it1, q_it2, q_it3, q_R1, q_R1a, q_R1b, q_R2, q_R2a, q_R2b, q_En2, q_En, q_En1, q_Zp, q_Zp1, q_Zp2, q_Zp3, q_Zp4, q_Lc, q_Lc1, q_Lc2, q_Lc3, q_w0, q_w1, q_w2, q_call, q_call0, q_call1, q_call2, q_call3, q_call4, q_call5, q_cB, q_cB1, q_cB2, q_cB3, q_cB4, q_len, q_lenI, q_lenB, q_lenS, q_lenN, q_cK, q_cKn, q_pm0, q_pm1, q_C0, q_C1, q_C2, q_C3, q_C4, q_C5, q_C6, q_nd, q_ci, q_ci1, q_ci2, q_is0, q_is1, q_is2, q_is3, q_nd0, q_nd1, q_nd2, q_po0, q_po1, q_po2, q_po3, q_rev, q_rev1, q_rev2, q_rev3, q_rg1, q_rg1a, q_rg1b, q_jn, q_jn1, q_jn2, q_bi, q_bi1, q_ap, q_ap1, q_ap2, q_pa, q_pa1, q_pa2, q_pp, q_pp1, q_in, q_in1, q_in2, q_in3, q_nop, q_sq, q_sq1, q_sq2, q_sq3, q_sq4, q_dr, q_dr1, q_rF, q_rF1, q_rt, q_rt1, q_rN, q_rO, q_rO1, q_rO2, q_m1, q_m2, q_m3, q_m4, q_m5, q_m6, q_Nx, q_as, q_as1, q_ow, q_ow1, q_mo1, q_mo2, q_mo3, q_mo4, q_mo5, q_mo6, q_so1, q_so2, q_p2, q_p2a, q_p2b, q_p3, q_p3a, q_p3b, q_p3c, q_for, q_for1, q_wh, q_bk, q_ct, q_kP, q_ro1, q_ro2, q_ro3, q_kF, q_kF2, q_os0, q_os1, q_os2, q_n1, q_n2, q_n3, q_n4, q_lk1, q_lk2, q_lm1, q_lf1, q_lf2, q_li1, q_li2, q_le1, q_addI, q_subI, q_mulI1, q_mulI2, q_fdI, q_mdI, q_negI, q_absI, q_intI, q_intB, q_maxI, q_minI, q_dmI, q_ltI, q_leI, q_gtI, q_geI, q_ltS, q_leS, q_gtS, q_geS, q_eqI, q_neI, q_eqS, q_neS, q_eqB, q_neB, q_isN_int, q_isN_bool, q_isN_str, q_isN_tuple, q_isN_list, q_isNN, q_inNN, q_isB_int, q_isB_bool, q_isB_str, q_isB_tuple, q_isB_list, q_isNB, q_inNB, q_isBB, q_isI_int, q_isI_bool, q_isI_str, q_isI_tuple, q_isI_list, q_isNI, q_inNI, q_isBI, q_isS_int, q_isS_bool, q_isS_str, q_isS_tuple, q_isS_list, q_isNS, q_inNS, q_isBS, q_isT_int, q_isT_bool, q_isT_str, q_isT_tuple, q_isT_list, q_isNT, q_inNT, q_isBT, q_lenT, q_isL_int, q_isL_bool, q_isL_str, q_isL_tuple, q_isL_list, q_isNL, q_inNL, q_isBL, q_lenL, q_isBN, q_lnS, q_trN, q_trB, q_trI, q_trT, q_trL, q_trS, q_tupL, q_tupT, q_lstL, q_lstT, q_addT, q_addL, q_addS, q_ixT, q_ixL, q_ixS, q_chD, q_at0, q_at1, q_at2, q_atN, q_slT, q_slL, q_slS, q_mulL, aft_some, aft_bind, aft_map, Option.bind_some, Option.map_some, List.getElem?_cons_zero, List.getElem?_cons_succ, List.set_cons_zero, List.set_cons_succ, PL.small64, smallI, Int.reduceAbs, Int.natAbs_natCast, Nat.reducePow, List.getD_cons_zero, List.getD_cons_succ, List.length_cons, List.length_nil, Nat.zero_add, Nat.reduceAdd, Nat.reduceEqDiff, if_true, if_false, ite_true, ite_false, Bool.false_eq_true, Bool.not_true, Bool.not_false, decide_true, decide_false, Bool.true_and, Bool.and_true, Bool.and_self, ne_eq, Nat.reduceLT, Nat.reduceLeDiff, Int.reduceLT, Int.reduceLE, Int.reduceToNat, Int.reduceNeg, rng_nI, enD_map0, zpD_map, chars_map, List.length_map, List.length_range, Int.reduceEq, not_false_eq_true, not_true_eq_false, reduceCtorEq, true_and, and_true, Int.toNat_natCast, Bool.not_eq_true, h6]
  refine room (by omega) fun s => ?_
  have c1 : ¬ ((2 ^ hs.length : Nat) : Int) < ↑(desc os) + 1 := by omega
  simp only [q_var, q_var1, q_var2, q_pk, q_pk1, q_pk2, q_pk3, q_ol, q_ol1, q_ol2, q_pl, q_pl1, q_pl2, q_od, q_od1, q_od2, q_pd, q_pd1, q_pd2, q_fr, q_fr1, q_fr2, q_fr3, q_fr4, q_set1, q_gN, q_gsN, q_gsC, q_gT, q_kK, q_gIx, q_gIx1, q_c, q_cons, q_A0, q_A1, q_A2, q_A3, q_A4, q_A5, q_R, q_app, q_app1, q_L0, q_L1, q_L2, q_tup, q_tup1, q_lst, q_lst1, q_Br, q_tB, q_tB1, q_tTr, q_tTr1, q_tNo, q_tNo1, q_tAn, q_tAn1, q_tAn2, q_tOr, q_tOr1, q_tOr2, q_tT, q_eIf, q_sIf, q_if1, q_if2, q_eOr, q_eOr1, q_eOr2, q_eOr3, q_eAn, q_eAn1, q_eAn2, q_eAn3, q_Nt2, q_eNt, q_eNt1, q_ch, q_ch1, q_ch2, q_ch3, q_ch4, q_ch5, q_sl, q_sl1, q_sl2, q_sl3, q_slb, q_slb1, q_slb2, q_slb3, q_oNo, q_oSo, q_oSo1, q_I2, q_iOf, q_iOf1, q_it1, q_it2, q_it3, q_R1, q_R1a, q_R1b, q_R2, q_R2a, q_R2b, q_En2, q_En, q_En1, q_Zp, q_Zp1, q_Zp2, q_Zp3, q_Zp4, q_Lc, q_Lc1, q_Lc2, q_Lc3, q_w0, q_w1, q_w2, q_call, q_call0, q_call1, q_call2, q_call3, q_call4, q_call5, q_cB, q_cB1, q_cB2, q_cB3, q_cB4, q_len, q_lenI, q_lenB, q_lenS, q_lenN, q_cK, q_cKn, q_pm0, q_pm1, q_C0, q_C1, q_C2, q_C3, q_C4, q_C5, q_C6, q_nd, q_ci, q_ci1, q_ci2, q_is0, q_is1, q_is2, q_is3, q_nd0, q_nd1, q_nd2, q_po0, q_po1, q_po2, q_po3, q_rev, q_rev1, q_rev2, q_rev3, q_rg1, q_rg1a, q_rg1b, q_jn, q_jn1, q_jn2, q_bi, q_bi1, q_ap, q_ap1, q_ap2, q_pa, q_pa1, q_pa2, q_pp, q_pp1, q_in, q_in1, q_in2, q_in3, q_nop, q_sq, q_sq1, q_sq2, q_sq3, q_sq4, q_dr, q_dr1, q_rF, q_rF1, q_rt, q_rt1, q_rN, q_rO, q_rO1, q_rO2, q_m1, q_m2, q_m3, q_m4, q_m5, q_m6, q_Nx, q_as, q_as1, q_ow, q_ow1, q_mo1, q_mo2, q_mo3, q_mo4, q_mo5, q_mo6, q_so1, q_so2, q_p2, q_p2a, q_p2b, q_p3, q_p3a, q_p3b, q_p3c, q_for, q_for1, q_wh, q_bk, q_ct, q_kP, q_ro1, q_ro2, q_ro3, q_kF, q_kF2, q_os0, q_os1, q_os2, q_n1, q_n2, q_n3, q_n4, q_lk1, q_lk2, q_lm1, q_lf1, q_lf2, q_li1, q_li2, q_le1, q_addI, q_subI, q_mulI1, q_mulI2, q_fdI, q_mdI, q_negI, q_absI, q_intI, q_intB, q_maxI, q_minI, q_dmI, q_ltI, q_leI, q_gtI, q_geI, q_ltS, q_leS, q_gtS, q_geS, q_eqI, q_neI, q_eqS, q_neS, q_eqB, q_neB, q_isN_int, q_isN_bool, q_isN_str, q_isN_tuple, q_isN_list, q_isNN, q_inNN, q_isB_int, q_isB_bool, q_isB_str, q_isB_tuple, q_isB_list, q_isNB, q_inNB, q_isBB, q_isI_int, q_isI_bool, q_isI_str, q_isI_tuple, q_isI_list, q_isNI, q_inNI, q_isBI, q_isS_int, q_isS_bool, q_isS_str, q_isS_tuple, q_isS_list, q_isNS, q_inNS, q_isBS, q_isT_int, q_isT_bool, q_isT_str, q_isT_tuple, q_isT_list, q_isNT, q_inNT, q_isBT, q_lenT, q_isL_int, q_isL_bool, q_isL_str, q_isL_tuple, q_isL_list, q_isNL, q_inNL, q_isBL, q_lenL, q_isBN, q_lnS, q_trN, q_trB, q_trI, q_trT, q_trL, q_trS, q_tupL, q_tupT, q_lstL, q_lstT, q_addT, q_addL, q_addS, q_ixT, q_ixL, q_ixS, q_chD, q_at0, q_at1, q_at2, q_atN, q_slT, q_slL, q_slS, q_mulL, aft_some, aft_bind, aft_map, Option.bind_some, Option.map_some, List.getElem?_cons_zero, List.getElem?_cons_succ, List.set_cons_zero, List.set_cons_succ, PL.small64, smallI, Int.reduceAbs, Int.natAbs_natCast, Nat.reducePow, List.getD_cons_zero, List.getD_cons_succ, List.length_cons, List.length_nil, Nat.zero_add, Nat.reduceAdd, Nat.reduceEqDiff, if_true, if_false, ite_true, ite_false, Bool.false_eq_true, Bool.not_true, Bool.not_false, decide_true, decide_false, Bool.true_and, Bool.and_true, Bool.and_self, ne_eq, Nat.reduceLT, Nat.reduceLeDiff, Int.reduceLT, Int.reduceLE, Int.reduceToNat, Int.reduceNeg, rng_nI, enD_map0, zpD_map, chars_map, List.length_map, List.length_range, Int.reduceEq, not_false_eq_true, not_true_eq_false, reduceCtorEq, true_and, and_true, Int.toNat_natCast, Bool.not_eq_true, c1]
  refine aft_an false (fun hb => ?_) (fun _ => rfl) ?_
  · have hb := of_decide_eq_true hb
    have := hb3 (by omega)
    have c2 : ¬ 2 * ((desc os : Int) + 1) ≤ ((2 ^ hs.length : Nat) : Int) := by omega
    simp only [q_var, q_var1, q_var2, q_pk, q_pk1, q_pk2, q_pk3, q_ol, q_ol1, q_ol2, q_pl, q_pl1, q_pl2, q_od, q_od1, q_od2, q_pd, q_pd1, q_pd2, q_fr, q_fr1, q_fr2, q_fr3, q_fr4, q_set1, q_gN, q_gsN, q_gsC, q_gT, q_kK, q_gIx, q_gIx1, q_c, q_cons, q_A0, q_A1, q_A2, q_A3, q_A4, q_A5, q_R, q_app, q_app1, q_L0, q_L1, q_L2, q_tup, q_tup1, q_lst, q_lst1, q_Br, q_tB, q_tB1, q_tTr, q_tTr1, q_tNo, q_tNo1, q_tAn, q_tAn1, q_tAn2, q_tOr, q_tOr1, q_tOr2, q_tT, q_eIf, q_sIf, q_if1, q_if2, q_eOr, q_eOr1, q_eOr2, q_eOr3, q_eAn, q_eAn1, q_eAn2, q_eAn3, q_Nt2, q_eNt, q_eNt1, q_ch, q_ch1, q_ch2, q_ch3, q_ch4, q_ch5, q_sl, q_sl1, q_sl2, q_sl3, q_slb, q_slb1, q_slb2, q_slb3, q_oNo, q_oSo, q_oSo1, q_I2, q_iOf, q_iOf1, q_it1, q_it2, q_it3, q_R1, q_R1a, q_R1b, q_R2, q_R2a, q_R2b, q_En2, q_En, q_En1, q_Zp, q_Zp1, q_Zp2, q_Zp3, q_Zp4, q_Lc, q_Lc1, q_Lc2, q_Lc3, q_w0, q_w1, q_w2, q_call, q_call0, q_call1, q_call2, q_call3, q_call4, q_call5, q_cB, q_cB1, q_cB2, q_cB3, q_cB4, q_len, q_lenI, q_lenB, q_lenS, q_lenN, q_cK, q_cKn, q_pm0, q_pm1, q_C0, q_C1, q_C2, q_C3, q_C4, q_C5, q_C6, q_nd, q_ci, q_ci1, q_ci2, q_is0, q_is1, q_is2, q_is3, q_nd0, q_nd1, q_nd2, q_po0, q_po1, q_po2, q_po3, q_rev, q_rev1, q_rev2, q_rev3, q_rg1, q_rg1a, q_rg1b, q_jn, q_jn1, q_jn2, q_bi, q_bi1, q_ap, q_ap1, q_ap2, q_pa, q_pa1, q_pa2, q_pp, q_pp1, q_in, q_in1, q_in2, q_in3, q_nop, q_sq, q_sq1, q_sq2, q_sq3, q_sq4, q_dr, q_dr1, q_rF, q_rF1, q_rt, q_rt1, q_rN, q_rO, q_rO1, q_rO2, q_m1, q_m2, q_m3, q_m4, q_m5, q_m6, q_Nx, q_as, q_as1, q_ow, q_ow1, q_mo1, q_mo2, q_mo3, q_mo4, q_mo5, q_mo6, q_so1, q_so2, q_p2, q_p2a, q_p2b, q_p3, q_p3a, q_p3b, q_p3c, q_for, q_for1, q_wh, q_bk, q_ct, q_kP, q_ro1, q_ro2, q_ro3, q_kF, q_kF2, q_os0, q_os1, q_os2, q_n1, q_n2, q_n3, q_n4, q_lk1, q_lk2, q_lm1, q_lf1, q_lf2, q_li1, q_li2, q_le1, q_addI, q_subI, q_mulI1, q_mulI2, q_fdI, q_mdI, q_negI, q_absI, q_intI, q_intB, q_maxI, q_minI, q_dmI, q_ltI, q_leI, q_gtI, q_geI, q_ltS, q_leS, q_gtS, q_geS, q_eqI, q_neI, q_eqS, q_neS, q_eqB, q_neB, q_isN_int, q_isN_bool, q_isN_str, q_isN_tuple, q_isN_list, q_isNN, q_inNN, q_isB_int, q_isB_bool, q_isB_str, q_isB_tuple, q_isB_list, q_isNB, q_inNB, q_isBB, q_isI_int, q_isI_bool, q_isI_str, q_isI_tuple, q_isI_list, q_isNI, q_inNI, q_isBI, q_isS_int, q_isS_bool, q_isS_str, q_isS_tuple, q_isS_list, q_isNS, q_inNS, q_isBS, q_isT_int, q_isT_bool, q_isT_str, q_isT_tuple, q_isT_list, q_isNT, q_inNT, q_isBT, q_lenT, q_isL_int, q_isL_bool, q_isL_str, q_isL_tuple, q_isL_list, q_isNL, q_inNL, q_isBL, q_lenL, q_isBN, q_lnS, q_trN, q_trB, q_trI, q_trT, q_trL, q_trS, q_tupL, q_tupT, q_lstL, q_lstT, q_addT, q_addL, q_addS, q_ixT, q_ixL, q_ixS, q_chD, q_at0, q_at1, q_at2, q_atN, q_slT, q_slL, q_slS, q_mulL, aft_some, aft_bind, aft_map, Option.bind_some, Option.map_some, List.getElem?_cons_zero, List.getElem?_cons_succ, List.set_cons_zero, List.set_cons_succ, PL.small64, smallI, Int.reduceAbs, Int.natAbs_natCast, Nat.reducePow, List.getD_cons_zero, List.getD_cons_succ, List.length_cons, List.length_nil, Nat.zero_add, Nat.reduceAdd, Nat.reduceEqDiff, if_true, if_false, ite_true, ite_false, Bool.false_eq_true, Bool.not_true, Bool.not_false, decide_true, decide_false, Bool.true_and, Bool.and_true, Bool.and_self, ne_eq, Nat.reduceLT, Nat.reduceLeDiff, Int.reduceLT, Int.reduceLE, Int.reduceToNat, Int.reduceNeg, rng_nI, enD_map0, zpD_map, chars_map, List.length_map, List.length_range, Int.reduceEq, not_false_eq_true, not_true_eq_false, reduceCtorEq, true_and, and_true, Int.toNat_natCast, Bool.not_eq_true, c2]
  simp only [q_var, q_var1, q_var2, q_pk, q_pk1, q_pk2, q_pk3, q_ol, q_ol1, q_ol2, q_pl, q_pl1, q_pl2, q_od, q_od1, q_od2, q_pd, q_pd1, q_pd2, q_fr, q_fr1, q_fr2, q_fr3, q_fr4, q_set1, q_gN, q_gsN, q_gsC, q_gT, q_kK, q_gIx, q_gIx1, q_c, q_cons, q_A0, q_A1, q_A2, q_A3, q_A4, q_A5, q_R, q_app, q_app1, q_L0, q_L1, q_L2, q_tup, q_tup1, q_lst, q_lst1, q_Br, q_tB, q_tB1, q_tTr, q_tTr1, q_tNo, q_tNo1, q_tAn, q_tAn1, q_tAn2, q_tOr, q_tOr1, q_tOr2, q_tT, q_eIf, q_sIf, q_if1, q_if2, q_eOr, q_eOr1, q_eOr2, q_eOr3, q_eAn, q_eAn1, q_eAn2, q_eAn3, q_Nt2, q_eNt, q_eNt1, q_ch, q_ch1, q_ch2, q_ch3, q_ch4, q_ch5, q_sl, q_sl1, q_sl2, q_sl3, q_slb, q_slb1, q_slb2, q_slb3, q_oNo, q_oSo, q_oSo1, q_I2, q_iOf, q_iOf1, q_it1, q_it2, q_it3, q_R1, q_R1a, q_R1b, q_R2, q_R2a, q_R2b, q_En2, q_En, q_En1, q_Zp, q_Zp1, q_Zp2, q_Zp3, q_Zp4, q_Lc, q_Lc1, q_Lc2, q_Lc3, q_w0, q_w1, q_w2, q_call, q_call0, q_call1, q_call2, q_call3, q_call4, q_call5, q_cB, q_cB1, q_cB2, q_cB3, q_cB4, q_len, q_lenI, q_lenB, q_lenS, q_lenN, q_cK, q_cKn, q_pm0, q_pm1, q_C0, q_C1, q_C2, q_C3, q_C4, q_C5, q_C6, q_nd, q_ci, q_ci1, q_ci2, q_is0, q_is1, q_is2, q_is3, q_nd0, q_nd1, q_nd2, q_po0, q_po1, q_po2, q_po3, q_rev, q_rev1, q_rev2, q_rev3, q_rg1, q_rg1a, q_rg1b, q_jn, q_jn1, q_jn2, q_bi, q_bi1, q_ap, q_ap1, q_ap2, q_pa, q_pa1, q_pa2, q_pp, q_pp1, q_in, q_in1, q_in2, q_in3, q_nop, q_sq, q_sq1, q_sq2, q_sq3, q_sq4, q_dr, q_dr1, q_rF, q_rF1, q_rt, q_rt1, q_rN, q_rO, q_rO1, q_rO2, q_m1, q_m2, q_m3, q_m4, q_m5, q_m6, q_Nx, q_as, q_as1, q_ow, q_ow1, q_mo1, q_mo2, q_mo3, q_mo4, q_mo5, q_mo6, q_so1, q_so2, q_p2, q_p2a, q_p2b, q_p3, q_p3a, q_p3b, q_p3c, q_for, q_for1, q_wh, q_bk, q_ct, q_kP, q_ro1, q_ro2, q_ro3, q_kF, q_kF2, q_os0, q_os1, q_os2, q_n1, q_n2, q_n3, q_n4, q_lk1, q_lk2, q_lm1, q_lf1, q_lf2, q_li1, q_li2, q_le1, q_addI, q_subI, q_mulI1, q_mulI2, q_fdI, q_mdI, q_negI, q_absI, q_intI, q_intB, q_maxI, q_minI, q_dmI, q_ltI, q_leI, q_gtI, q_geI, q_ltS, q_leS, q_gtS, q_geS, q_eqI, q_neI, q_eqS, q_neS, q_eqB, q_neB, q_isN_int, q_isN_bool, q_isN_str, q_isN_tuple, q_isN_list, q_isNN, q_inNN, q_isB_int, q_isB_bool, q_isB_str, q_isB_tuple, q_isB_list, q_isNB, q_inNB, q_isBB, q_isI_int, q_isI_bool, q_isI_str, q_isI_tuple, q_isI_list, q_isNI, q_inNI, q_isBI, q_isS_int, q_isS_bool, q_isS_str, q_isS_tuple, q_isS_list, q_isNS, q_inNS, q_isBS, q_isT_int, q_isT_bool, q_isT_str, q_isT_tuple, q_isT_list, q_isNT, q_inNT, q_isBT, q_lenT, q_isL_int, q_isL_bool, q_isL_str, q_isL_tuple, q_isL_list, q_isNL, q_inNL, q_isBL, q_lenL, q_isBN, q_lnS, q_trN, q_trB, q_trI, q_trT, q_trL, q_trS, q_tupL, q_tupT, q_lstL, q_lstT, q_addT, q_addL, q_addS, q_ixT, q_ixL, q_ixS, q_chD, q_at0, q_at1, q_at2, q_atN, q_slT, q_slL, q_slS, q_mulL, aft_some, aft_bind, aft_map, Option.bind_some, Option.map_some, List.getElem?_cons_zero, List.getElem?_cons_succ, List.set_cons_zero, List.set_cons_succ, PL.small64, smallI, Int.reduceAbs, Int.natAbs_natCast, Nat.reducePow, List.getD_cons_zero, List.getD_cons_succ, List.length_cons, List.length_nil, Nat.zero_add, Nat.reduceAdd, Nat.reduceEqDiff, if_true, if_false, ite_true, ite_false, Bool.false_eq_true, Bool.not_true, Bool.not_false, decide_true, decide_false, Bool.true_and, Bool.and_true, Bool.and_self, ne_eq, Nat.reduceLT, Nat.reduceLeDiff, Int.reduceLT, Int.reduceLE, Int.reduceToNat, Int.reduceNeg, rng_nI, enD_map0, zpD_map, chars_map, List.length_map, List.length_range, Int.reduceEq, not_false_eq_true, not_true_eq_false, reduceCtorEq, true_and, and_true, Int.toNat_natCast, Bool.not_eq_true, nuD_len]
  refine (take_aft (n := os.length) hw hpos (by omega)).mono ?_
  rintro _ ⟨k, w1, rfl, hk, hw1⟩
  simp only [q_var, q_var1, q_var2, q_pk, q_pk1, q_pk2, q_pk3, q_ol, q_ol1, q_ol2, q_pl, q_pl1, q_pl2, q_od, q_od1, q_od2, q_pd, q_pd1, q_pd2, q_fr, q_fr1, q_fr2, q_fr3, q_fr4, q_set1, q_gN, q_gsN, q_gsC, q_gT, q_kK, q_gIx, q_gIx1, q_c, q_cons, q_A0, q_A1, q_A2, q_A3, q_A4, q_A5, q_R, q_app, q_app1, q_L0, q_L1, q_L2, q_tup, q_tup1, q_lst, q_lst1, q_Br, q_tB, q_tB1, q_tTr, q_tTr1, q_tNo, q_tNo1, q_tAn, q_tAn1, q_tAn2, q_tOr, q_tOr1, q_tOr2, q_tT, q_eIf, q_sIf, q_if1, q_if2, q_eOr, q_eOr1, q_eOr2, q_eOr3, q_eAn, q_eAn1, q_eAn2, q_eAn3, q_Nt2, q_eNt, q_eNt1, q_ch, q_ch1, q_ch2, q_ch3, q_ch4, q_ch5, q_sl, q_sl1, q_sl2, q_sl3, q_slb, q_slb1, q_slb2, q_slb3, q_oNo, q_oSo, q_oSo1, q_I2, q_iOf, q_iOf1, q_it1, q_it2, q_it3, q_R1, q_R1a, q_R1b, q_R2, q_R2a, q_R2b, q_En2, q_En, q_En1, q_Zp, q_Zp1, q_Zp2, q_Zp3, q_Zp4, q_Lc, q_Lc1, q_Lc2, q_Lc3, q_w0, q_w1, q_w2, q_call, q_call0, q_call1, q_call2, q_call3, q_call4, q_call5, q_cB, q_cB1, q_cB2, q_cB3, q_cB4, q_len, q_lenI, q_lenB, q_lenS, q_lenN, q_cK, q_cKn, q_pm0, q_pm1, q_C0, q_C1, q_C2, q_C3, q_C4, q_C5, q_C6, q_nd, q_ci, q_ci1, q_ci2, q_is0, q_is1, q_is2, q_is3, q_nd0, q_nd1, q_nd2, q_po0, q_po1, q_po2, q_po3, q_rev, q_rev1, q_rev2, q_rev3, q_rg1, q_rg1a, q_rg1b, q_jn, q_jn1, q_jn2, q_bi, q_bi1, q_ap, q_ap1, q_ap2, q_pa, q_pa1, q_pa2, q_pp, q_pp1, q_in, q_in1, q_in2, q_in3, q_nop, q_sq, q_sq1, q_sq2, q_sq3, q_sq4, q_dr, q_dr1, q_rF, q_rF1, q_rt, q_rt1, q_rN, q_rO, q_rO1, q_rO2, q_m1, q_m2, q_m3, q_m4, q_m5, q_m6, q_Nx, q_as, q_as1, q_ow, q_ow1, q_mo1, q_mo2, q_mo3, q_mo4, q_mo5, q_mo6, q_so1, q_so2, q_p2, q_p2a, q_p2b, q_p3, q_p3a, q_p3b, q_p3c, q_for, q_for1, q_wh, q_bk, q_ct, q_kP, q_ro1, q_ro2, q_ro3, q_kF, q_kF2, q_os0, q_os1, q_os2, q_n1, q_n2, q_n3, q_n4, q_lk1, q_lk2, q_lm1, q_lf1, q_lf2, q_li1, q_li2, q_le1, q_addI, q_subI, q_mulI1, q_mulI2, q_fdI, q_mdI, q_negI, q_absI, q_intI, q_intB, q_maxI, q_minI, q_dmI, q_ltI, q_leI, q_gtI, q_geI, q_ltS, q_leS, q_gtS, q_geS, q_eqI, q_neI, q_eqS, q_neS, q_eqB, q_neB, q_isN_int, q_isN_bool, q_isN_str, q_isN_tuple, q_isN_list, q_isNN, q_inNN, q_isB_int, q_isB_bool, q_isB_str, q_isB_tuple, q_isB_list, q_isNB, q_inNB, q_isBB, q_isI_int, q_isI_bool, q_isI_str, q_isI_tuple, q_isI_list, q_isNI, q_inNI, q_isBI, q_isS_int, q_isS_bool, q_isS_str, q_isS_tuple, q_isS_list, q_isNS, q_inNS, q_isBS, q_isT_int, q_isT_bool, q_isT_str, q_isT_tuple, q_isT_list, q_isNT, q_inNT, q_isBT, q_lenT, q_isL_int, q_isL_bool, q_isL_str, q_isL_tuple, q_isL_list, q_isNL, q_inNL, q_isBL, q_lenL, q_isBN, q_lnS, q_trN, q_trB, q_trI, q_trT, q_trL, q_trS, q_tupL, q_tupT, q_lstL, q_lstT, q_addT, q_addL, q_addS, q_ixT, q_ixL, q_ixS, q_chD, q_at0, q_at1, q_at2, q_atN, q_slT, q_slL, q_slS, q_mulL, aft_some, aft_bind, aft_map, Option.bind_some, Option.map_some, List.getElem?_cons_zero, List.getElem?_cons_succ, List.set_cons_zero, List.set_cons_succ, PL.small64, smallI, Int.reduceAbs, Int.natAbs_natCast, Nat.reducePow, List.getD_cons_zero, List.getD_cons_succ, List.length_cons, List.length_nil, Nat.zero_add, Nat.reduceAdd, Nat.reduceEqDiff, if_true, if_false, ite_true, ite_false, Bool.false_eq_true, Bool.not_true, Bool.not_false, decide_true, decide_false, Bool.true_and, Bool.and_true, Bool.and_self, ne_eq, Nat.reduceLT, Nat.reduceLeDiff, Int.reduceLT, Int.reduceLE, Int.reduceToNat, Int.reduceNeg, rng_nI, enD_map0, zpD_map, chars_map, List.length_map, List.length_range, Int.reduceEq, not_false_eq_true, not_true_eq_false, reduceCtorEq, true_and, and_true, Int.toNat_natCast, Bool.not_eq_true, nuD_len]
  refine (take_aft (n := os.length) hw1 hpos (by omega)).mono ?_
  rintro _ ⟨j, w2, rfl, hj, hw2⟩
  have hj' : j < (nuD os).length := by rw [nuD_len]; exact hj
  have hz : (nuD os).length ≤ 16777216 := by rw [nuD_len]; omega
  have hz2 : (List.eraseIdx (nuD os) j).length < 16777216 := by rw [List.length_eraseIdx_of_lt hj']; omega
  have hmv := nuD_move os j k hj hj'
  have p1 := move_perm os j k hj
  have p2 := move_desc os j k hj
  have ho := ord_perm h p1
  generalize hl : (os.eraseIdx j).take k ++ os[j] :: (os.eraseIdx j).drop k = l at hmv p1 p2 ho
  have hlen2 := ho.le
  have hpos2 := ho.pos
  have r1 := count_ok ho
  have r2 := lawruns_of (.lst (nuD l)) l (.inr rfl) (by omega)
  have r3 := lawlast (os := l) (by omega)
  simp only [q_var, q_var1, q_var2, q_pk, q_pk1, q_pk2, q_pk3, q_ol, q_ol1, q_ol2, q_pl, q_pl1, q_pl2, q_od, q_od1, q_od2, q_pd, q_pd1, q_pd2, q_fr, q_fr1, q_fr2, q_fr3, q_fr4, q_set1, q_gN, q_gsN, q_gsC, q_gT, q_kK, q_gIx, q_gIx1, q_c, q_cons, q_A0, q_A1, q_A2, q_A3, q_A4, q_A5, q_R, q_app, q_app1, q_L0, q_L1, q_L2, q_tup, q_tup1, q_lst, q_lst1, q_Br, q_tB, q_tB1, q_tTr, q_tTr1, q_tNo, q_tNo1, q_tAn, q_tAn1, q_tAn2, q_tOr, q_tOr1, q_tOr2, q_tT, q_eIf, q_sIf, q_if1, q_if2, q_eOr, q_eOr1, q_eOr2, q_eOr3, q_eAn, q_eAn1, q_eAn2, q_eAn3, q_Nt2, q_eNt, q_eNt1, q_ch, q_ch1, q_ch2, q_ch3, q_ch4, q_ch5, q_sl, q_sl1, q_sl2, q_sl3, q_slb, q_slb1, q_slb2, q_slb3, q_oNo, q_oSo, q_oSo1, q_I2, q_iOf, q_iOf1, q_it1, q_it2, q_it3, q_R1, q_R1a, q_R1b, q_R2, q_R2a, q_R2b, q_En2, q_En, q_En1, q_Zp, q_Zp1, q_Zp2, q_Zp3, q_Zp4, q_Lc, q_Lc1, q_Lc2, q_Lc3, q_w0, q_w1, q_w2, q_call, q_call0, q_call1, q_call2, q_call3, q_call4, q_call5, q_cB, q_cB1, q_cB2, q_cB3, q_cB4, q_len, q_lenI, q_lenB, q_lenS, q_lenN, q_cK, q_cKn, q_pm0, q_pm1, q_C0, q_C1, q_C2, q_C3, q_C4, q_C5, q_C6, q_nd, q_ci, q_ci1, q_ci2, q_is0, q_is1, q_is2, q_is3, q_nd0, q_nd1, q_nd2, q_po0, q_po1, q_po2, q_po3, q_rev, q_rev1, q_rev2, q_rev3, q_rg1, q_rg1a, q_rg1b, q_jn, q_jn1, q_jn2, q_bi, q_bi1, q_ap, q_ap1, q_ap2, q_pa, q_pa1, q_pa2, q_pp, q_pp1, q_in, q_in1, q_in2, q_in3, q_nop, q_sq, q_sq1, q_sq2, q_sq3, q_sq4, q_dr, q_dr1, q_rF, q_rF1, q_rt, q_rt1, q_rN, q_rO, q_rO1, q_rO2, q_m1, q_m2, q_m3, q_m4, q_m5, q_m6, q_Nx, q_as, q_as1, q_ow, q_ow1, q_mo1, q_mo2, q_mo3, q_mo4, q_mo5, q_mo6, q_so1, q_so2, q_p2, q_p2a, q_p2b, q_p3, q_p3a, q_p3b, q_p3c, q_for, q_for1, q_wh, q_bk, q_ct, q_kP, q_ro1, q_ro2, q_ro3, q_kF, q_kF2, q_os0, q_os1, q_os2, q_n1, q_n2, q_n3, q_n4, q_lk1, q_lk2, q_lm1, q_lf1, q_lf2, q_li1, q_li2, q_le1, q_addI, q_subI, q_mulI1, q_mulI2, q_fdI, q_mdI, q_negI, q_absI, q_intI, q_intB, q_maxI, q_minI, q_dmI, q_ltI, q_leI, q_gtI, q_geI, q_ltS, q_leS, q_gtS, q_geS, q_eqI, q_neI, q_eqS, q_neS, q_eqB, q_neB, q_isN_int, q_isN_bool, q_isN_str, q_isN_tuple, q_isN_list, q_isNN, q_inNN, q_isB_int, q_isB_bool, q_isB_str, q_isB_tuple, q_isB_list, q_isNB, q_inNB, q_isBB, q_isI_int, q_isI_bool, q_isI_str, q_isI_tuple, q_isI_list, q_isNI, q_inNI, q_isBI, q_isS_int, q_isS_bool, q_isS_str, q_isS_tuple, q_isS_list, q_isNS, q_inNS, q_isBS, q_isT_int, q_isT_bool, q_isT_str, q_isT_tuple, q_isT_list, q_isNT, q_inNT, q_isBT, q_lenT, q_isL_int, q_isL_bool, q_isL_str, q_isL_tuple, q_isL_list, q_isNL, q_inNL, q_isBL, q_lenL, q_isBN, q_lnS, q_trN, q_trB, q_trI, q_trT, q_trL, q_trS, q_tupL, q_tupT, q_lstL, q_lstT, q_addT, q_addL, q_addS, q_ixT, q_ixL, q_ixS, q_chD, q_at0, q_at1, q_at2, q_atN, q_slT, q_slL, q_slS, q_mulL, aft_some, aft_bind, aft_map, Option.bind_some, Option.map_some, List.getElem?_cons_zero, List.getElem?_cons_succ, List.set_cons_zero, List.set_cons_succ, PL.small64, smallI, Int.reduceAbs, Int.natAbs_natCast, Nat.reducePow, List.getD_cons_zero, List.getD_cons_succ, List.length_cons, List.length_nil, Nat.zero_add, Nat.reduceAdd, Nat.reduceEqDiff, if_true, if_false, ite_true, ite_false, Bool.false_eq_true, Bool.not_true, Bool.not_false, decide_true, decide_false, Bool.true_and, Bool.and_true, Bool.and_self, ne_eq, Nat.reduceLT, Nat.reduceLeDiff, Int.reduceLT, Int.reduceLE, Int.reduceToNat, Int.reduceNeg, rng_nI, enD_map0, zpD_map, chars_map, List.length_map, List.length_range, Int.reduceEq, not_false_eq_true, not_true_eq_false, reduceCtorEq, true_and, and_true, Int.toNat_natCast, Bool.not_eq_true, q_pa2 _ _ _ _ hj' hz, q_in3 _ _ _ _ _ (show k ≤ 16777216 by omega) hz2, hmv, r1, r2, r3]
  have r4 : lent true (D.lst (List.map D.int (pre l l.length))) = true := by
    show (false || (true && noLsts _)) = true
    rw [noLsts_int]; rfl
  rw [decide_eq_true (by split <;> omega)]
  simp only [q_var, q_var1, q_var2, q_pk, q_pk1, q_pk2, q_pk3, q_ol, q_ol1, q_ol2, q_pl, q_pl1, q_pl2, q_od, q_od1, q_od2, q_pd, q_pd1, q_pd2, q_fr, q_fr1, q_fr2, q_fr3, q_fr4, q_set1, q_gN, q_gsN, q_gsC, q_gT, q_kK, q_gIx, q_gIx1, q_c, q_cons, q_A0, q_A1, q_A2, q_A3, q_A4, q_A5, q_R, q_app, q_app1, q_L0, q_L1, q_L2, q_tup, q_tup1, q_lst, q_lst1, q_Br, q_tB, q_tB1, q_tTr, q_tTr1, q_tNo, q_tNo1, q_tAn, q_tAn1, q_tAn2, q_tOr, q_tOr1, q_tOr2, q_tT, q_eIf, q_sIf, q_if1, q_if2, q_eOr, q_eOr1, q_eOr2, q_eOr3, q_eAn, q_eAn1, q_eAn2, q_eAn3, q_Nt2, q_eNt, q_eNt1, q_ch, q_ch1, q_ch2, q_ch3, q_ch4, q_ch5, q_sl, q_sl1, q_sl2, q_sl3, q_slb, q_slb1, q_slb2, q_slb3, q_oNo, q_oSo, q_oSo1, q_I2, q_iOf, q_iOf1, q_it1, q_it2, q_it3, q_R1, q_R1a, q_R1b, q_R2, q_R2a, q_R2b, q_En2, q_En, q_En1, q_Zp, q_Zp1, q_Zp2, q_Zp3, q_Zp4, q_Lc, q_Lc1, q_Lc2, q_Lc3, q_w0, q_w1, q_w2, q_call, q_call0, q_call1, q_call2, q_call3, q_call4, q_call5, q_cB, q_cB1, q_cB2, q_cB3, q_cB4, q_len, q_lenI, q_lenB, q_lenS, q_lenN, q_cK, q_cKn, q_pm0, q_pm1, q_C0, q_C1, q_C2, q_C3, q_C4, q_C5, q_C6, q_nd, q_ci, q_ci1, q_ci2, q_is0, q_is1, q_is2, q_is3, q_nd0, q_nd1, q_nd2, q_po0, q_po1, q_po2, q_po3, q_rev, q_rev1, q_rev2, q_rev3, q_rg1, q_rg1a, q_rg1b, q_jn, q_jn1, q_jn2, q_bi, q_bi1, q_ap, q_ap1, q_ap2, q_pa, q_pa1, q_pa2, q_pp, q_pp1, q_in, q_in1, q_in2, q_in3, q_nop, q_sq, q_sq1, q_sq2, q_sq3, q_sq4, q_dr, q_dr1, q_rF, q_rF1, q_rt, q_rt1, q_rN, q_rO, q_rO1, q_rO2, q_m1, q_m2, q_m3, q_m4, q_m5, q_m6, q_Nx, q_as, q_as1, q_ow, q_ow1, q_mo1, q_mo2, q_mo3, q_mo4, q_mo5, q_mo6, q_so1, q_so2, q_p2, q_p2a, q_p2b, q_p3, q_p3a, q_p3b, q_p3c, q_for, q_for1, q_wh, q_bk, q_ct, q_kP, q_ro1, q_ro2, q_ro3, q_kF, q_kF2, q_os0, q_os1, q_os2, q_n1, q_n2, q_n3, q_n4, q_lk1, q_lk2, q_lm1, q_lf1, q_lf2, q_li1, q_li2, q_le1, q_addI, q_subI, q_mulI1, q_mulI2, q_fdI, q_mdI, q_negI, q_absI, q_intI, q_intB, q_maxI, q_minI, q_dmI, q_ltI, q_leI, q_gtI, q_geI, q_ltS, q_leS, q_gtS, q_geS, q_eqI, q_neI, q_eqS, q_neS, q_eqB, q_neB, q_isN_int, q_isN_bool, q_isN_str, q_isN_tuple, q_isN_list, q_isNN, q_inNN, q_isB_int, q_isB_bool, q_isB_str, q_isB_tuple, q_isB_list, q_isNB, q_inNB, q_isBB, q_isI_int, q_isI_bool, q_isI_str, q_isI_tuple, q_isI_list, q_isNI, q_inNI, q_isBI, q_isS_int, q_isS_bool, q_isS_str, q_isS_tuple, q_isS_list, q_isNS, q_inNS, q_isBS, q_isT_int, q_isT_bool, q_isT_str, q_isT_tuple, q_isT_list, q_isNT, q_inNT, q_isBT, q_lenT, q_isL_int, q_isL_bool, q_isL_str, q_isL_tuple, q_isL_list, q_isNL, q_inNL, q_isBL, q_lenL, q_isBN, q_lnS, q_trN, q_trB, q_trI, q_trT, q_trL, q_trS, q_tupL, q_tupT, q_lstL, q_lstT, q_addT, q_addL, q_addS, q_ixT, q_ixL, q_ixS, q_chD, q_at0, q_at1, q_at2, q_atN, q_slT, q_slL, q_slS, q_mulL, aft_some, aft_bind, aft_map, Option.bind_some, Option.map_some, List.getElem?_cons_zero, List.getElem?_cons_succ, List.set_cons_zero, List.set_cons_succ, PL.small64, smallI, Int.reduceAbs, Int.natAbs_natCast, Nat.reducePow, List.getD_cons_zero, List.getD_cons_succ, List.length_cons, List.length_nil, Nat.zero_add, Nat.reduceAdd, Nat.reduceEqDiff, if_true, if_false, ite_true, ite_false, Bool.false_eq_true, Bool.not_true, Bool.not_false, decide_true, decide_false, Bool.true_and, Bool.and_true, Bool.and_self, ne_eq, Nat.reduceLT, Nat.reduceLeDiff, Int.reduceLT, Int.reduceLE, Int.reduceToNat, Int.reduceNeg, rng_nI, enD_map0, zpD_map, chars_map, List.length_map, List.length_range, Int.reduceEq, not_false_eq_true, not_true_eq_false, reduceCtorEq, true_and, and_true, Int.toNat_natCast, Bool.not_eq_true, r1, r2, r3, r4, q_len _ _ _ r4]
  refine ⟨w2, ?_, hw2⟩
  rw [decide_eq_true (by omega)]
theorem ord_two {a b : List Nat} (ha : Ord a) (hb : Ord b) (hl : a.length + b.length ≤ 40) : Ord (a ++ b.map fun x => a.length + x) := by
  refine ⟨?_, ?_, ?_, ?_⟩
  · rw [List.nodup_append]
    refine ⟨ha.nd, ?_, ?_⟩
    · exact List.Pairwise.map _ (fun x y h => by intro e; exact h (by omega)) hb.nd
    · intro x hx y hy
      rw [List.mem_map] at hy
      obtain ⟨z, hz, rfl⟩ := hy
      have := ha.lt x hx
      omega
  · intro x hx
    rw [List.length_append, List.length_map]
    rw [List.mem_append, List.mem_map] at hx
    rcases hx with hx | ⟨z, hz, rfl⟩
    · have := ha.lt x hx; omega
    · have := hb.lt z hz; omega
  · rw [List.length_append]; have := ha.pos; omega
  · rw [List.length_append, List.length_map]; omega
theorem ord_two' {a b : List Nat} (ha : Ord a) (hb : Ord b) (hl : a.length + b.length ≤ 40) : Ord ((a.map fun x => b.length + x) ++ b) := by
  refine ord_perm (os := b ++ a.map fun x => b.length + x) (ord_two hb ha (by omega)) List.perm_append_comm
theorem desc_both {a b : List Nat} (ha : Ord a) (hb : Ord b) : desc (a ++ b.map fun x => a.length + x) = desc a + desc b ∧ desc ((a.map fun x => b.length + x) ++ b) = desc a + desc b + 1 := by
  have na : a ≠ [] := by rintro rfl; have := ha.pos; simp at this
  have nb : b ≠ [] := by rintro rfl; have := hb.pos; simp at this
  constructor
  · rw [desc_two na (by simpa using nb), desc_map]
    intro x hx y hy
    rw [List.mem_map] at hy
    obtain ⟨z, hz, rfl⟩ := hy
    have := ha.lt x hx
    omega
  · rw [desc_two' (by simpa using na) nb, desc_map]
    intro x hx y hy
    rw [List.mem_map] at hx
    obtain ⟨z, hz, rfl⟩ := hx
    have := hb.lt y hy
    omega
theorem two_right {a b : List Nat} (ha : Ord a) (hb : Ord b) (hl : a.length + b.length ≤ 40) : m__law_two_right [.tup (nuD a), .tup (nuD b)] = some (.bl true) := by
  apply of_aft
  have la := ha.le
  have lb := hb.le
  have c1 := count_ok ha
  have c2 := count_ok hb
  have c3 := count_ok (ord_two ha hb hl)
  have c4 := count_ok (ord_two' ha hb hl)
  obtain ⟨d1, d2⟩ := desc_both ha hb
  rw [eq__law_two_right]
  simp only [b__law_two_right, q_var, q_var1, q_var2, q_pk, q_pk1, q_pk2, q_pk3, q_ol, q_ol1, q_ol2, q_pl, q_pl1, q_pl2, q_od, q_od1, q_od2, q_pd, q_pd1, q_pd2, q_fr, q_fr1, q_fr2, q_fr3, q_fr4, q_set1, q_gN, q_gsN, q_gsC, q_gT, q_kK, q_gIx, q_gIx1, q_c, q_cons, q_A0, q_A1, q_A2, q_A3, q_A4, q_A5, q_R, q_app, q_app1, q_L0, q_L1, q_L2, q_tup, q_tup1, q_lst, q_lst1, q_Br, q_tB, q_tB1, q_tTr, q_tTr1, q_tNo, q_tNo1, q_tAn, q_tAn1, q_tAn2, q_tOr, q_tOr1, q_tOr2, q_tT, q_eIf, q_sIf, q_if1, q_if2, q_eOr, q_eOr1, q_eOr2, q_eOr3, q_eAn, q_eAn1, q_eAn2, q_eAn3, q_Nt2, q_eNt, q_eNt1, q_ch, q_ch1, q_ch2, q_ch3, q_ch4, q_ch5, q_sl, q_sl1, q_sl2, q_sl3, q_slb, q_slb1, q_slb2, q_slb3, q_oNo, q_oSo, q_oSo1, q_I2, q_iOf, q_iOf1, q_it1, q_it2, q_it3, q_R1, q_R1a, q_R1b, q_R2, q_R2a, q_R2b, q_En2, q_En, q_En1, q_Zp, q_Zp1, q_Zp2, q_Zp3, q_Zp4, q_Lc, q_Lc1, q_Lc2, q_Lc3, q_w0, q_w1, q_w2, q_call, q_call0, q_call1, q_call2, q_call3, q_call4, q_call5, q_cB, q_cB1, q_cB2, q_cB3, q_cB4, q_len, q_lenI, q_lenB, q_lenS, q_lenN, q_cK, q_cKn, q_pm0, q_pm1, q_C0, q_C1, q_C2, q_C3, q_C4, q_C5, q_C6, q_nd, q_ci, q_ci1, q_ci2, q_is0, q_is1, q_is2, q_is3, q_nd0, q_nd1, q_nd2, q_po0, q_po1, q_po2, q_po3, q_rev, q_rev1, q_rev2, q_rev3, q_rg1, q_rg1a, q_rg1b, q_jn, q_jn1, q_jn2, q_bi, q_bi1, q_ap, q_ap1, q_ap2, q_pa, q_pa1, q_pa2, q_pp, q_pp1, q_in, q_in1, q_in2, q_in3, q_nop, q_sq, q_sq1, q_sq2, q_sq3, q_sq4, q_dr, q_dr1, q_rF, q_rF1, q_rt, q_rt1, q_rN, q_rO, q_rO1, q_rO2, q_m1, q_m2, q_m3, q_m4, q_m5, q_m6, q_Nx, q_as, q_as1, q_ow, q_ow1, q_mo1, q_mo2, q_mo3, q_mo4, q_mo5, q_mo6, q_so1, q_so2, q_p2, q_p2a, q_p2b, q_p3, q_p3a, q_p3b, q_p3c, q_for, q_for1, q_wh, q_bk, q_ct, q_kP, q_ro1, q_ro2, q_ro3, q_kF, q_kF2, q_os0, q_os1, q_os2, q_n1, q_n2, q_n3, q_n4, q_lk1, q_lk2, q_lm1, q_lf1, q_lf2, q_li1, q_li2, q_le1, q_addI, q_subI, q_mulI1, q_mulI2, q_fdI, q_mdI, q_negI, q_absI, q_intI, q_intB, q_maxI, q_minI, q_dmI, q_ltI, q_leI, q_gtI, q_geI, q_ltS, q_leS, q_gtS, q_geS, q_eqI, q_neI, q_eqS, q_neS, q_eqB, q_neB, q_isN_int, q_isN_bool, q_isN_str, q_isN_tuple, q_isN_list, q_isNN, q_inNN, q_isB_int, q_isB_bool, q_isB_str, q_isB_tuple, q_isB_list, q_isNB, q_inNB, q_isBB, q_isI_int, q_isI_bool, q_isI_str, q_isI_tuple, q_isI_list, q_isNI, q_inNI, q_isBI, q_isS_int, q_isS_bool, q_isS_str, q_isS_tuple, q_isS_list, q_isNS, q_inNS, q_isBS, q_isT_int, q_isT_bool, q_isT_str, q_isT_tuple, q_isT_list, q_isNT, q_inNT, q_isBT, q_lenT, q_isL_int, q_isL_bool, q_isL_str, q_isL_tuple, q_isL_list, q_isNL, q_inNL, q_isBL, q_lenL, q_isBN, q_lnS, q_trN, q_trB, q_trI, q_trT, q_trL, q_trS, q_tupL, q_tupT, q_lstL, q_lstT, q_addT, q_addL, q_addS, q_ixT, q_ixL, q_ixS, q_chD, q_at0, q_at1, q_at2, q_atN, q_slT, q_slL, q_slS, q_mulL, aft_some, aft_bind, aft_map, Option.bind_some, Option.map_some, List.getElem?_cons_zero, List.getElem?_cons_succ, List.set_cons_zero, List.set_cons_succ, PL.small64, smallI, Int.reduceAbs, Int.natAbs_natCast, Nat.reducePow, List.getD_cons_zero, List.getD_cons_succ, List.length_cons, List.length_nil, Nat.zero_add, Nat.reduceAdd, Nat.reduceEqDiff, if_true, if_false, ite_true, ite_false, Bool.false_eq_true, Bool.not_true, Bool.not_false, decide_true, decide_false, Bool.true_and, Bool.and_true, Bool.and_self, ne_eq, Nat.reduceLT, Nat.reduceLeDiff, Int.reduceLT, Int.reduceLE, Int.reduceToNat, Int.reduceNeg, rng_nI, enD_map0, zpD_map, chars_map, List.length_map, List.length_range, Int.reduceEq, not_false_eq_true, not_true_eq_false, reduceCtorEq, true_and, and_true, Int.toNat_natCast, Bool.not_eq_true, nuD_len]
  refine aft_cm (f := nI) (l := b) (h := nI) (fun x => a.length + x) (by omega) rfl (fun x hx => ?_) ?_
  · simp only [q_var, q_var1, q_var2, q_pk, q_pk1, q_pk2, q_pk3, q_ol, q_ol1, q_ol2, q_pl, q_pl1, q_pl2, q_od, q_od1, q_od2, q_pd, q_pd1, q_pd2, q_fr, q_fr1, q_fr2, q_fr3, q_fr4, q_set1, q_gN, q_gsN, q_gsC, q_gT, q_kK, q_gIx, q_gIx1, q_c, q_cons, q_A0, q_A1, q_A2, q_A3, q_A4, q_A5, q_R, q_app, q_app1, q_L0, q_L1, q_L2, q_tup, q_tup1, q_lst, q_lst1, q_Br, q_tB, q_tB1, q_tTr, q_tTr1, q_tNo, q_tNo1, q_tAn, q_tAn1, q_tAn2, q_tOr, q_tOr1, q_tOr2, q_tT, q_eIf, q_sIf, q_if1, q_if2, q_eOr, q_eOr1, q_eOr2, q_eOr3, q_eAn, q_eAn1, q_eAn2, q_eAn3, q_Nt2, q_eNt, q_eNt1, q_ch, q_ch1, q_ch2, q_ch3, q_ch4, q_ch5, q_sl, q_sl1, q_sl2, q_sl3, q_slb, q_slb1, q_slb2, q_slb3, q_oNo, q_oSo, q_oSo1, q_I2, q_iOf, q_iOf1, q_it1, q_it2, q_it3, q_R1, q_R1a, q_R1b, q_R2, q_R2a, q_R2b, q_En2, q_En, q_En1, q_Zp, q_Zp1, q_Zp2, q_Zp3, q_Zp4, q_Lc, q_Lc1, q_Lc2, q_Lc3, q_w0, q_w1, q_w2, q_call, q_call0, q_call1, q_call2, q_call3, q_call4, q_call5, q_cB, q_cB1, q_cB2, q_cB3, q_cB4, q_len, q_lenI, q_lenB, q_lenS, q_lenN, q_cK, q_cKn, q_pm0, q_pm1, q_C0, q_C1, q_C2, q_C3, q_C4, q_C5, q_C6, q_nd, q_ci, q_ci1, q_ci2, q_is0, q_is1, q_is2, q_is3, q_nd0, q_nd1, q_nd2, q_po0, q_po1, q_po2, q_po3, q_rev, q_rev1, q_rev2, q_rev3, q_rg1, q_rg1a, q_rg1b, q_jn, q_jn1, q_jn2, q_bi, q_bi1, q_ap, q_ap1, q_ap2, q_pa, q_pa1, q_pa2, q_pp, q_pp1, q_in, q_in1, q_in2, q_in3, q_nop, q_sq, q_sq1, q_sq2, q_sq3, q_sq4, q_dr, q_dr1, q_rF, q_rF1, q_rt, q_rt1, q_rN, q_rO, q_rO1, q_rO2, q_m1, q_m2, q_m3, q_m4, q_m5, q_m6, q_Nx, q_as, q_as1, q_ow, q_ow1, q_mo1, q_mo2, q_mo3, q_mo4, q_mo5, q_mo6, q_so1, q_so2, q_p2, q_p2a, q_p2b, q_p3, q_p3a, q_p3b, q_p3c, q_for, q_for1, q_wh, q_bk, q_ct, q_kP, q_ro1, q_ro2, q_ro3, q_kF, q_kF2, q_os0, q_os1, q_os2, q_n1, q_n2, q_n3, q_n4, q_lk1, q_lk2, q_lm1, q_lf1, q_lf2, q_li1, q_li2, q_le1, q_addI, q_subI, q_mulI1, q_mulI2, q_fdI, q_mdI, q_negI, q_absI, q_intI, q_intB, q_maxI, q_minI, q_dmI, q_ltI, q_leI, q_gtI, q_geI, q_ltS, q_leS, q_gtS, q_geS, q_eqI, q_neI, q_eqS, q_neS, q_eqB, q_neB, q_isN_int, q_isN_bool, q_isN_str, q_isN_tuple, q_isN_list, q_isNN, q_inNN, q_isB_int, q_isB_bool, q_isB_str, q_isB_tuple, q_isB_list, q_isNB, q_inNB, q_isBB, q_isI_int, q_isI_bool, q_isI_str, q_isI_tuple, q_isI_list, q_isNI, q_inNI, q_isBI, q_isS_int, q_isS_bool, q_isS_str, q_isS_tuple, q_isS_list, q_isNS, q_inNS, q_isBS, q_isT_int, q_isT_bool, q_isT_str, q_isT_tuple, q_isT_list, q_isNT, q_inNT, q_isBT, q_lenT, q_isL_int, q_isL_bool, q_isL_str, q_isL_tuple, q_isL_list, q_isNL, q_inNL, q_isBL, q_lenL, q_isBN, q_lnS, q_trN, q_trB, q_trI, q_trT, q_trL, q_trS, q_tupL, q_tupT, q_lstL, q_lstT, q_addT, q_addL, q_addS, q_ixT, q_ixL, q_ixS, q_chD, q_at0, q_at1, q_at2, q_atN, q_slT, q_slL, q_slS, q_mulL, aft_some, aft_bind, aft_map, Option.bind_some, Option.map_some, List.getElem?_cons_zero, List.getElem?_cons_succ, List.set_cons_zero, List.set_cons_succ, PL.small64, smallI, Int.reduceAbs, Int.natAbs_natCast, Nat.reducePow, List.getD_cons_zero, List.getD_cons_succ, List.length_cons, List.length_nil, Nat.zero_add, Nat.reduceAdd, Nat.reduceEqDiff, if_true, if_false, ite_true, ite_false, Bool.false_eq_true, Bool.not_true, Bool.not_false, decide_true, decide_false, Bool.true_and, Bool.and_true, Bool.and_self, ne_eq, Nat.reduceLT, Nat.reduceLeDiff, Int.reduceLT, Int.reduceLE, Int.reduceToNat, Int.reduceNeg, rng_nI, enD_map0, zpD_map, chars_map, List.length_map, List.length_range, Int.reduceEq, not_false_eq_true, not_true_eq_false, reduceCtorEq, true_and, and_true, Int.toNat_natCast, Bool.not_eq_true, nI, nuD_len]; rfl
  have e1 : dAdd [D.tup (nuD a), D.tup (List.map nI (List.map (fun x => a.length + x) b))] = some (.tup (nuD (a ++ b.map fun x => a.length + x))) := by
    rw [q_addT _ _ (by rw [nuD_len, List.length_map, List.length_map]; omega)]
    unfold nuD
    rw [List.map_append]; rfl
  have e2 : dAdd [D.tup (List.map nI (List.map (fun x => b.length + x) a)), D.tup (nuD b)] = some (.tup (nuD ((a.map fun x => b.length + x) ++ b))) := by
    rw [q_addT _ _ (by rw [nuD_len, List.length_map, List.length_map]; omega)]
    unfold nuD
    rw [List.map_append]; rfl
  simp only [q_var, q_var1, q_var2, q_pk, q_pk1, q_pk2, q_pk3, q_ol, q_ol1, q_ol2, q_pl, q_pl1, q_pl2, q_od, q_od1, q_od2, q_pd, q_pd1, q_pd2, q_fr, q_fr1, q_fr2, q_fr3, q_fr4, q_set1, q_gN, q_gsN, q_gsC, q_gT, q_kK, q_gIx, q_gIx1, q_c, q_cons, q_A0, q_A1, q_A2, q_A3, q_A4, q_A5, q_R, q_app, q_app1, q_L0, q_L1, q_L2, q_tup, q_tup1, q_lst, q_lst1, q_Br, q_tB, q_tB1, q_tTr, q_tTr1, q_tNo, q_tNo1, q_tAn, q_tAn1, q_tAn2, q_tOr, q_tOr1, q_tOr2, q_tT, q_eIf, q_sIf, q_if1, q_if2, q_eOr, q_eOr1, q_eOr2, q_eOr3, q_eAn, q_eAn1, q_eAn2, q_eAn3, q_Nt2, q_eNt, q_eNt1, q_ch, q_ch1, q_ch2, q_ch3, q_ch4, q_ch5, q_sl, q_sl1, q_sl2, q_sl3, q_slb, q_slb1, q_slb2, q_slb3, q_oNo, q_oSo, q_oSo1, q_I2, q_iOf, q_iOf1, q_it1, q_it2, q_it3, q_R1, q_R1a, q_R1b, q_R2, q_R2a, q_R2b, q_En2, q_En, q_En1, q_Zp, q_Zp1, q_Zp2, q_Zp3, q_Zp4, q_Lc, q_Lc1, q_Lc2, q_Lc3, q_w0, q_w1, q_w2, q_call, q_call0, q_call1, q_call2, q_call3, q_call4, q_call5, q_cB, q_cB1, q_cB2, q_cB3, q_cB4, q_len, q_lenI, q_lenB, q_lenS, q_lenN, q_cK, q_cKn, q_pm0, q_pm1, q_C0, q_C1, q_C2, q_C3, q_C4, q_C5, q_C6, q_nd, q_ci, q_ci1, q_ci2, q_is0, q_is1, q_is2, q_is3, q_nd0, q_nd1, q_nd2, q_po0, q_po1, q_po2, q_po3, q_rev, q_rev1, q_rev2, q_rev3, q_rg1, q_rg1a, q_rg1b, q_jn, q_jn1, q_jn2, q_bi, q_bi1, q_ap, q_ap1, q_ap2, q_pa, q_pa1, q_pa2, q_pp, q_pp1, q_in, q_in1, q_in2, q_in3, q_nop, q_sq, q_sq1, q_sq2, q_sq3, q_sq4, q_dr, q_dr1, q_rF, q_rF1, q_rt, q_rt1, q_rN, q_rO, q_rO1, q_rO2, q_m1, q_m2, q_m3, q_m4, q_m5, q_m6, q_Nx, q_as, q_as1, q_ow, q_ow1, q_mo1, q_mo2, q_mo3, q_mo4, q_mo5, q_mo6, q_so1, q_so2, q_p2, q_p2a, q_p2b, q_p3, q_p3a, q_p3b, q_p3c, q_for, q_for1, q_wh, q_bk, q_ct, q_kP, q_ro1, q_ro2, q_ro3, q_kF, q_kF2, q_os0, q_os1, q_os2, q_n1, q_n2, q_n3, q_n4, q_lk1, q_lk2, q_lm1, q_lf1, q_lf2, q_li1, q_li2, q_le1, q_addI, q_subI, q_mulI1, q_mulI2, q_fdI, q_mdI, q_negI, q_absI, q_intI, q_intB, q_maxI, q_minI, q_dmI, q_ltI, q_leI, q_gtI, q_geI, q_ltS, q_leS, q_gtS, q_geS, q_eqI, q_neI, q_eqS, q_neS, q_eqB, q_neB, q_isN_int, q_isN_bool, q_isN_str, q_isN_tuple, q_isN_list, q_isNN, q_inNN, q_isB_int, q_isB_bool, q_isB_str, q_isB_tuple, q_isB_list, q_isNB, q_inNB, q_isBB, q_isI_int, q_isI_bool, q_isI_str, q_isI_tuple, q_isI_list, q_isNI, q_inNI, q_isBI, q_isS_int, q_isS_bool, q_isS_str, q_isS_tuple, q_isS_list, q_isNS, q_inNS, q_isBS, q_isT_int, q_isT_bool, q_isT_str, q_isT_tuple, q_isT_list, q_isNT, q_inNT, q_isBT, q_lenT, q_isL_int, q_isL_bool, q_isL_str, q_isL_tuple, q_isL_list, q_isNL, q_inNL, q_isBL, q_lenL, q_isBN, q_lnS, q_trN, q_trB, q_trI, q_trT, q_trL, q_trS, q_tupL, q_tupT, q_lstL, q_lstT, q_addT, q_addL, q_addS, q_ixT, q_ixL, q_ixS, q_chD, q_at0, q_at1, q_at2, q_atN, q_slT, q_slL, q_slS, q_mulL, aft_some, aft_bind, aft_map, Option.bind_some, Option.map_some, List.getElem?_cons_zero, List.getElem?_cons_succ, List.set_cons_zero, List.set_cons_succ, PL.small64, smallI, Int.reduceAbs, Int.natAbs_natCast, Nat.reducePow, List.getD_cons_zero, List.getD_cons_succ, List.length_cons, List.length_nil, Nat.zero_add, Nat.reduceAdd, Nat.reduceEqDiff, if_true, if_false, ite_true, ite_false, Bool.false_eq_true, Bool.not_true, Bool.not_false, decide_true, decide_false, Bool.true_and, Bool.and_true, Bool.and_self, ne_eq, Nat.reduceLT, Nat.reduceLeDiff, Int.reduceLT, Int.reduceLE, Int.reduceToNat, Int.reduceNeg, rng_nI, enD_map0, zpD_map, chars_map, List.length_map, List.length_range, Int.reduceEq, not_false_eq_true, not_true_eq_false, reduceCtorEq, true_and, and_true, Int.toNat_natCast, Bool.not_eq_true, nuD_len, e1]
  refine aft_cm (f := nI) (l := a) (h := nI) (fun x => b.length + x) (by omega) rfl (fun x hx => ?_) ?_
  · simp only [q_var, q_var1, q_var2, q_pk, q_pk1, q_pk2, q_pk3, q_ol, q_ol1, q_ol2, q_pl, q_pl1, q_pl2, q_od, q_od1, q_od2, q_pd, q_pd1, q_pd2, q_fr, q_fr1, q_fr2, q_fr3, q_fr4, q_set1, q_gN, q_gsN, q_gsC, q_gT, q_kK, q_gIx, q_gIx1, q_c, q_cons, q_A0, q_A1, q_A2, q_A3, q_A4, q_A5, q_R, q_app, q_app1, q_L0, q_L1, q_L2, q_tup, q_tup1, q_lst, q_lst1, q_Br, q_tB, q_tB1, q_tTr, q_tTr1, q_tNo, q_tNo1, q_tAn, q_tAn1, q_tAn2, q_tOr, q_tOr1, q_tOr2, q_tT, q_eIf, q_sIf, q_if1, q_if2, q_eOr, q_eOr1, q_eOr2, q_eOr3, q_eAn, q_eAn1, q_eAn2, q_eAn3, q_Nt2, q_eNt, q_eNt1, q_ch, q_ch1, q_ch2, q_ch3, q_ch4, q_ch5, q_sl, q_sl1, q_sl2, q_sl3, q_slb, q_slb1, q_slb2, q_slb3, q_oNo, q_oSo, q_oSo1, q_I2, q_iOf, q_iOf1, q_it1, q_it2, q_it3, q_R1, q_R1a, q_R1b, q_R2, q_R2a, q_R2b, q_En2, q_En, q_En1, q_Zp, q_Zp1, q_Zp2, q_Zp3, q_Zp4, q_Lc, q_Lc1, q_Lc2, q_Lc3, q_w0, q_w1, q_w2, q_call, q_call0, q_call1, q_call2, q_call3, q_call4, q_call5, q_cB, q_cB1, q_cB2, q_cB3, q_cB4, q_len, q_lenI, q_lenB, q_lenS, q_lenN, q_cK, q_cKn, q_pm0, q_pm1, q_C0, q_C1, q_C2, q_C3, q_C4, q_C5, q_C6, q_nd, q_ci, q_ci1, q_ci2, q_is0, q_is1, q_is2, q_is3, q_nd0, q_nd1, q_nd2, q_po0, q_po1, q_po2, q_po3, q_rev, q_rev1, q_rev2, q_rev3, q_rg1, q_rg1a, q_rg1b, q_jn, q_jn1, q_jn2, q_bi, q_bi1, q_ap, q_ap1, q_ap2, q_pa, q_pa1, q_pa2, q_pp, q_pp1, q_in, q_in1, q_in2, q_in3, q_nop, q_sq, q_sq1, q_sq2, q_sq3, q_sq4, q_dr, q_dr1, q_rF, q_rF1, q_rt, q_rt1, q_rN, q_rO, q_rO1, q_rO2, q_m1, q_m2, q_m3, q_m4, q_m5, q_m6, q_Nx, q_as, q_as1, q_ow, q_ow1, q_mo1, q_mo2, q_mo3, q_mo4, q_mo5, q_mo6, q_so1, q_so2, q_p2, q_p2a, q_p2b, q_p3, q_p3a, q_p3b, q_p3c, q_for, q_for1, q_wh, q_bk, q_ct, q_kP, q_ro1, q_ro2, q_ro3, q_kF, q_kF2, q_os0, q_os1, q_os2, q_n1, q_n2, q_n3, q_n4, q_lk1, q_lk2, q_lm1, q_lf1, q_lf2, q_li1, q_li2, q_le1, q_addI, q_subI, q_mulI1, q_mulI2, q_fdI, q_mdI, q_negI, q_absI, q_intI, q_intB, q_maxI, q_minI, q_dmI, q_ltI, q_leI, q_gtI, q_geI, q_ltS, q_leS, q_gtS, q_geS, q_eqI, q_neI, q_eqS, q_neS, q_eqB, q_neB, q_isN_int, q_isN_bool, q_isN_str, q_isN_tuple, q_isN_list, q_isNN, q_inNN, q_isB_int, q_isB_bool, q_isB_str, q_isB_tuple, q_isB_list, q_isNB, q_inNB, q_isBB, q_isI_int, q_isI_bool, q_isI_str, q_isI_tuple, q_isI_list, q_isNI, q_inNI, q_isBI, q_isS_int, q_isS_bool, q_isS_str, q_isS_tuple, q_isS_list, q_isNS, q_inNS, q_isBS, q_isT_int, q_isT_bool, q_isT_str, q_isT_tuple, q_isT_list, q_isNT, q_inNT, q_isBT, q_lenT, q_isL_int, q_isL_bool, q_isL_str, q_isL_tuple, q_isL_list, q_isNL, q_inNL, q_isBL, q_lenL, q_isBN, q_lnS, q_trN, q_trB, q_trI, q_trT, q_trL, q_trS, q_tupL, q_tupT, q_lstL, q_lstT, q_addT, q_addL, q_addS, q_ixT, q_ixL, q_ixS, q_chD, q_at0, q_at1, q_at2, q_atN, q_slT, q_slL, q_slS, q_mulL, aft_some, aft_bind, aft_map, Option.bind_some, Option.map_some, List.getElem?_cons_zero, List.getElem?_cons_succ, List.set_cons_zero, List.set_cons_succ, PL.small64, smallI, Int.reduceAbs, Int.natAbs_natCast, Nat.reducePow, List.getD_cons_zero, List.getD_cons_succ, List.length_cons, List.length_nil, Nat.zero_add, Nat.reduceAdd, Nat.reduceEqDiff, if_true, if_false, ite_true, ite_false, Bool.false_eq_true, Bool.not_true, Bool.not_false, decide_true, decide_false, Bool.true_and, Bool.and_true, Bool.and_self, ne_eq, Nat.reduceLT, Nat.reduceLeDiff, Int.reduceLT, Int.reduceLE, Int.reduceToNat, Int.reduceNeg, rng_nI, enD_map0, zpD_map, chars_map, List.length_map, List.length_range, Int.reduceEq, not_false_eq_true, not_true_eq_false, reduceCtorEq, true_and, and_true, Int.toNat_natCast, Bool.not_eq_true, nI, nuD_len]; rfl
  simp only [q_var, q_var1, q_var2, q_pk, q_pk1, q_pk2, q_pk3, q_ol, q_ol1, q_ol2, q_pl, q_pl1, q_pl2, q_od, q_od1, q_od2, q_pd, q_pd1, q_pd2, q_fr, q_fr1, q_fr2, q_fr3, q_fr4, q_set1, q_gN, q_gsN, q_gsC, q_gT, q_kK, q_gIx, q_gIx1, q_c, q_cons, q_A0, q_A1, q_A2, q_A3, q_A4, q_A5, q_R, q_app, q_app1, q_L0, q_L1, q_L2, q_tup, q_tup1, q_lst, q_lst1, q_Br, q_tB, q_tB1, q_tTr, q_tTr1, q_tNo, q_tNo1, q_tAn, q_tAn1, q_tAn2, q_tOr, q_tOr1, q_tOr2, q_tT, q_eIf, q_sIf, q_if1, q_if2, q_eOr, q_eOr1, q_eOr2, q_eOr3, q_eAn, q_eAn1, q_eAn2, q_eAn3, q_Nt2, q_eNt, q_eNt1, q_ch, q_ch1, q_ch2, q_ch3, q_ch4, q_ch5, q_sl, q_sl1, q_sl2, q_sl3, q_slb, q_slb1, q_slb2, q_slb3, q_oNo, q_oSo, q_oSo1, q_I2, q_iOf, q_iOf1, q_it1, q_it2, q_it3, q_R1, q_R1a, q_R1b, q_R2, q_R2a, q_R2b, q_En2, q_En, q_En1, q_Zp, q_Zp1, q_Zp2, q_Zp3, q_Zp4, q_Lc, q_Lc1, q_Lc2, q_Lc3, q_w0, q_w1, q_w2, q_call, q_call0, q_call1, q_call2, q_call3, q_call4, q_call5, q_cB, q_cB1, q_cB2, q_cB3, q_cB4, q_len, q_lenI, q_lenB, q_lenS, q_lenN, q_cK, q_cKn, q_pm0, q_pm1, q_C0, q_C1, q_C2, q_C3, q_C4, q_C5, q_C6, q_nd, q_ci, q_ci1, q_ci2, q_is0, q_is1, q_is2, q_is3, q_nd0, q_nd1, q_nd2, q_po0, q_po1, q_po2, q_po3, q_rev, q_rev1, q_rev2, q_rev3, q_rg1, q_rg1a, q_rg1b, q_jn, q_jn1, q_jn2, q_bi, q_bi1, q_ap, q_ap1, q_ap2, q_pa, q_pa1, q_pa2, q_pp, q_pp1, q_in, q_in1, q_in2, q_in3, q_nop, q_sq, q_sq1, q_sq2, q_sq3, q_sq4, q_dr, q_dr1, q_rF, q_rF1, q_rt, q_rt1, q_rN, q_rO, q_rO1, q_rO2, q_m1, q_m2, q_m3, q_m4, q_m5, q_m6, q_Nx, q_as, q_as1, q_ow, q_ow1, q_mo1, q_mo2, q_mo3, q_mo4, q_mo5, q_mo6, q_so1, q_so2, q_p2, q_p2a, q_p2b, q_p3, q_p3a, q_p3b, q_p3c, q_for, q_for1, q_wh, q_bk, q_ct, q_kP, q_ro1, q_ro2, q_ro3, q_kF, q_kF2, q_os0, q_os1, q_os2, q_n1, q_n2, q_n3, q_n4, q_lk1, q_lk2, q_lm1, q_lf1, q_lf2, q_li1, q_li2, q_le1, q_addI, q_subI, q_mulI1, q_mulI2, q_fdI, q_mdI, q_negI, q_absI, q_intI, q_intB, q_maxI, q_minI, q_dmI, q_ltI, q_leI, q_gtI, q_geI, q_ltS, q_leS, q_gtS, q_geS, q_eqI, q_neI, q_eqS, q_neS, q_eqB, q_neB, q_isN_int, q_isN_bool, q_isN_str, q_isN_tuple, q_isN_list, q_isNN, q_inNN, q_isB_int, q_isB_bool, q_isB_str, q_isB_tuple, q_isB_list, q_isNB, q_inNB, q_isBB, q_isI_int, q_isI_bool, q_isI_str, q_isI_tuple, q_isI_list, q_isNI, q_inNI, q_isBI, q_isS_int, q_isS_bool, q_isS_str, q_isS_tuple, q_isS_list, q_isNS, q_inNS, q_isBS, q_isT_int, q_isT_bool, q_isT_str, q_isT_tuple, q_isT_list, q_isNT, q_inNT, q_isBT, q_lenT, q_isL_int, q_isL_bool, q_isL_str, q_isL_tuple, q_isL_list, q_isNL, q_inNL, q_isBL, q_lenL, q_isBN, q_lnS, q_trN, q_trB, q_trI, q_trT, q_trL, q_trS, q_tupL, q_tupT, q_lstL, q_lstT, q_addT, q_addL, q_addS, q_ixT, q_ixL, q_ixS, q_chD, q_at0, q_at1, q_at2, q_atN, q_slT, q_slL, q_slS, q_mulL, aft_some, aft_bind, aft_map, Option.bind_some, Option.map_some, List.getElem?_cons_zero, List.getElem?_cons_succ, List.set_cons_zero, List.set_cons_succ, PL.small64, smallI, Int.reduceAbs, Int.natAbs_natCast, Nat.reducePow, List.getD_cons_zero, List.getD_cons_succ, List.length_cons, List.length_nil, Nat.zero_add, Nat.reduceAdd, Nat.reduceEqDiff, if_true, if_false, ite_true, ite_false, Bool.false_eq_true, Bool.not_true, Bool.not_false, decide_true, decide_false, Bool.true_and, Bool.and_true, Bool.and_self, ne_eq, Nat.reduceLT, Nat.reduceLeDiff, Int.reduceLT, Int.reduceLE, Int.reduceToNat, Int.reduceNeg, rng_nI, enD_map0, zpD_map, chars_map, List.length_map, List.length_range, Int.reduceEq, not_false_eq_true, not_true_eq_false, reduceCtorEq, true_and, and_true, Int.toNat_natCast, Bool.not_eq_true, nuD_len, e2, c1, c2, c3, c4, d1, d2]
  refine aft_same ?_ rfl rfl
  simp only [D.tup.injEq, List.cons.injEq, D.int.injEq, and_true]; omega
theorem order_aft {w : D} {many : Nat} (hw : Wl w) (h1 : 1 ≤ many) (h2 : many ≤ 40) : Aft (m__law_order [w, .int many]) fun r => ∃ (os : List Nat) (w' : D), r = (.tup (nuD os), [w', .non]) ∧ Ord os ∧ os.length = many ∧ Wl w' := by
  obtain ⟨os, w', h, h3, h4, h5⟩ := order_ok hw h1 h2
  exact ⟨_, h, os, w', rfl, h3, h4, h5⟩
theorem ord_range {n : Nat} (h1 : 1 ≤ n) (h2 : n ≤ 40) : Ord (List.range n) := by
  refine ⟨List.nodup_range, fun x hx => ?_, ?_, ?_⟩
  · rw [List.length_range]; exact List.mem_range.mp hx
  · rw [List.length_range]; exact h1
  · rw [List.length_range]; exact h2
theorem round_ok {w : D} (hw : Wl w) : ∃ w', m__law_round [w] = some (.bl true, [w']) := by
  suffices h : Aft (m__law_round [w]) fun r => ∃ w', r = (.bl true, [w']) by
    obtain ⟨r, h1, w', rfl⟩ := h; exact ⟨w', h1⟩
  rw [eq__law_round]
  simp only [b__law_round, q_var, q_var1, q_var2, q_pk, q_pk1, q_pk2, q_pk3, q_ol, q_ol1, q_ol2, q_pl, q_pl1, q_pl2, q_od, q_od1, q_od2, q_pd, q_pd1, q_pd2, q_fr, q_fr1, q_fr2, q_fr3, q_fr4, q_set1, q_gN, q_gsN, q_gsC, q_gT, q_kK, q_gIx, q_gIx1, q_c, q_cons, q_A0, q_A1, q_A2, q_A3, q_A4, q_A5, q_R, q_app, q_app1, q_L0, q_L1, q_L2, q_tup, q_tup1, q_lst, q_lst1, q_Br, q_tB, q_tB1, q_tTr, q_tTr1, q_tNo, q_tNo1, q_tAn, q_tAn1, q_tAn2, q_tOr, q_tOr1, q_tOr2, q_tT, q_eIf, q_sIf, q_if1, q_if2, q_eOr, q_eOr1, q_eOr2, q_eOr3, q_eAn, q_eAn1, q_eAn2, q_eAn3, q_Nt2, q_eNt, q_eNt1, q_ch, q_ch1, q_ch2, q_ch3, q_ch4, q_ch5, q_sl, q_sl1, q_sl2, q_sl3, q_slb, q_slb1, q_slb2, q_slb3, q_oNo, q_oSo, q_oSo1, q_I2, q_iOf, q_iOf1, q_it1, q_it2, q_it3, q_R1, q_R1a, q_R1b, q_R2, q_R2a, q_R2b, q_En2, q_En, q_En1, q_Zp, q_Zp1, q_Zp2, q_Zp3, q_Zp4, q_Lc, q_Lc1, q_Lc2, q_Lc3, q_w0, q_w1, q_w2, q_call, q_call0, q_call1, q_call2, q_call3, q_call4, q_call5, q_cB, q_cB1, q_cB2, q_cB3, q_cB4, q_len, q_lenI, q_lenB, q_lenS, q_lenN, q_cK, q_cKn, q_pm0, q_pm1, q_C0, q_C1, q_C2, q_C3, q_C4, q_C5, q_C6, q_nd, q_ci, q_ci1, q_ci2, q_is0, q_is1, q_is2, q_is3, q_nd0, q_nd1, q_nd2, q_po0, q_po1, q_po2, q_po3, q_rev, q_rev1, q_rev2, q_rev3, q_rg1, q_rg1a, q_rg1b, q_jn, q_jn1, q_jn2, q_bi, q_bi1, q_ap, q_ap1, q_ap2, q_pa, q_pa1, q_pa2, q_pp, q_pp1, q_in, q_in1, q_in2, q_in3, q_nop, q_sq, q_sq1, q_sq2, q_sq3, q_sq4, q_dr, q_dr1, q_rF, q_rF1, q_rt, q_rt1, q_rN, q_rO, q_rO1, q_rO2, q_m1, q_m2, q_m3, q_m4, q_m5, q_m6, q_Nx, q_as, q_as1, q_ow, q_ow1, q_mo1, q_mo2, q_mo3, q_mo4, q_mo5, q_mo6, q_so1, q_so2, q_p2, q_p2a, q_p2b, q_p3, q_p3a, q_p3b, q_p3c, q_for, q_for1, q_wh, q_bk, q_ct, q_kP, q_ro1, q_ro2, q_ro3, q_kF, q_kF2, q_os0, q_os1, q_os2, q_n1, q_n2, q_n3, q_n4, q_lk1, q_lk2, q_lm1, q_lf1, q_lf2, q_li1, q_li2, q_le1, q_addI, q_subI, q_mulI1, q_mulI2, q_fdI, q_mdI, q_negI, q_absI, q_intI, q_intB, q_maxI, q_minI, q_dmI, q_ltI, q_leI, q_gtI, q_geI, q_ltS, q_leS, q_gtS, q_geS, q_eqI, q_neI, q_eqS, q_neS, q_eqB, q_neB, q_isN_int, q_isN_bool, q_isN_str, q_isN_tuple, q_isN_list, q_isNN, q_inNN, q_isB_int, q_isB_bool, q_isB_str, q_isB_tuple, q_isB_list, q_isNB, q_inNB, q_isBB, q_isI_int, q_isI_bool, q_isI_str, q_isI_tuple, q_isI_list, q_isNI, q_inNI, q_isBI, q_isS_int, q_isS_bool, q_isS_str, q_isS_tuple, q_isS_list, q_isNS, q_inNS, q_isBS, q_isT_int, q_isT_bool, q_isT_str, q_isT_tuple, q_isT_list, q_isNT, q_inNT, q_isBT, q_lenT, q_isL_int, q_isL_bool, q_isL_str, q_isL_tuple, q_isL_list, q_isNL, q_inNL, q_isBL, q_lenL, q_isBN, q_lnS, q_trN, q_trB, q_trI, q_trT, q_trL, q_trS, q_tupL, q_tupT, q_lstL, q_lstT, q_addT, q_addL, q_addS, q_ixT, q_ixL, q_ixS, q_chD, q_at0, q_at1, q_at2, q_atN, q_slT, q_slL, q_slS, q_mulL, aft_some, aft_bind, aft_map, Option.bind_some, Option.map_some, List.getElem?_cons_zero, List.getElem?_cons_succ, List.set_cons_zero, List.set_cons_succ, PL.small64, smallI, Int.reduceAbs, Int.natAbs_natCast, Nat.reducePow, List.getD_cons_zero, List.getD_cons_succ, List.length_cons, List.length_nil, Nat.zero_add, Nat.reduceAdd, Nat.reduceEqDiff, if_true, if_false, ite_true, ite_false, Bool.false_eq_true, Bool.not_true, Bool.not_false, decide_true, decide_false, Bool.true_and, Bool.and_true, Bool.and_self, ne_eq, Nat.reduceLT, Nat.reduceLeDiff, Int.reduceLT, Int.reduceLE, Int.reduceToNat, Int.reduceNeg, rng_nI, enD_map0, zpD_map, chars_map, List.length_map, List.length_range, Int.reduceEq, not_false_eq_true, not_true_eq_false, reduceCtorEq, true_and, and_true, Int.toNat_natCast, Bool.not_eq_true]
  refine (take_aft (n := 40) hw (by omega) (by omega)).mono ?_
  rintro _ ⟨k1, w1, rfl, hk1, hw1⟩
  simp only [q_var, q_var1, q_var2, q_pk, q_pk1, q_pk2, q_pk3, q_ol, q_ol1, q_ol2, q_pl, q_pl1, q_pl2, q_od, q_od1, q_od2, q_pd, q_pd1, q_pd2, q_fr, q_fr1, q_fr2, q_fr3, q_fr4, q_set1, q_gN, q_gsN, q_gsC, q_gT, q_kK, q_gIx, q_gIx1, q_c, q_cons, q_A0, q_A1, q_A2, q_A3, q_A4, q_A5, q_R, q_app, q_app1, q_L0, q_L1, q_L2, q_tup, q_tup1, q_lst, q_lst1, q_Br, q_tB, q_tB1, q_tTr, q_tTr1, q_tNo, q_tNo1, q_tAn, q_tAn1, q_tAn2, q_tOr, q_tOr1, q_tOr2, q_tT, q_eIf, q_sIf, q_if1, q_if2, q_eOr, q_eOr1, q_eOr2, q_eOr3, q_eAn, q_eAn1, q_eAn2, q_eAn3, q_Nt2, q_eNt, q_eNt1, q_ch, q_ch1, q_ch2, q_ch3, q_ch4, q_ch5, q_sl, q_sl1, q_sl2, q_sl3, q_slb, q_slb1, q_slb2, q_slb3, q_oNo, q_oSo, q_oSo1, q_I2, q_iOf, q_iOf1, q_it1, q_it2, q_it3, q_R1, q_R1a, q_R1b, q_R2, q_R2a, q_R2b, q_En2, q_En, q_En1, q_Zp, q_Zp1, q_Zp2, q_Zp3, q_Zp4, q_Lc, q_Lc1, q_Lc2, q_Lc3, q_w0, q_w1, q_w2, q_call, q_call0, q_call1, q_call2, q_call3, q_call4, q_call5, q_cB, q_cB1, q_cB2, q_cB3, q_cB4, q_len, q_lenI, q_lenB, q_lenS, q_lenN, q_cK, q_cKn, q_pm0, q_pm1, q_C0, q_C1, q_C2, q_C3, q_C4, q_C5, q_C6, q_nd, q_ci, q_ci1, q_ci2, q_is0, q_is1, q_is2, q_is3, q_nd0, q_nd1, q_nd2, q_po0, q_po1, q_po2, q_po3, q_rev, q_rev1, q_rev2, q_rev3, q_rg1, q_rg1a, q_rg1b, q_jn, q_jn1, q_jn2, q_bi, q_bi1, q_ap, q_ap1, q_ap2, q_pa, q_pa1, q_pa2, q_pp, q_pp1, q_in, q_in1, q_in2, q_in3, q_nop, q_sq, q_sq1, q_sq2, q_sq3, q_sq4, q_dr, q_dr1, q_rF, q_rF1, q_rt, q_rt1, q_rN, q_rO, q_rO1, q_rO2, q_m1, q_m2, q_m3, q_m4, q_m5, q_m6, q_Nx, q_as, q_as1, q_ow, q_ow1, q_mo1, q_mo2, q_mo3, q_mo4, q_mo5, q_mo6, q_so1, q_so2, q_p2, q_p2a, q_p2b, q_p3, q_p3a, q_p3b, q_p3c, q_for, q_for1, q_wh, q_bk, q_ct, q_kP, q_ro1, q_ro2, q_ro3, q_kF, q_kF2, q_os0, q_os1, q_os2, q_n1, q_n2, q_n3, q_n4, q_lk1, q_lk2, q_lm1, q_lf1, q_lf2, q_li1, q_li2, q_le1, q_addI, q_subI, q_mulI1, q_mulI2, q_fdI, q_mdI, q_negI, q_absI, q_intI, q_intB, q_maxI, q_minI, q_dmI, q_ltI, q_leI, q_gtI, q_geI, q_ltS, q_leS, q_gtS, q_geS, q_eqI, q_neI, q_eqS, q_neS, q_eqB, q_neB, q_isN_int, q_isN_bool, q_isN_str, q_isN_tuple, q_isN_list, q_isNN, q_inNN, q_isB_int, q_isB_bool, q_isB_str, q_isB_tuple, q_isB_list, q_isNB, q_inNB, q_isBB, q_isI_int, q_isI_bool, q_isI_str, q_isI_tuple, q_isI_list, q_isNI, q_inNI, q_isBI, q_isS_int, q_isS_bool, q_isS_str, q_isS_tuple, q_isS_list, q_isNS, q_inNS, q_isBS, q_isT_int, q_isT_bool, q_isT_str, q_isT_tuple, q_isT_list, q_isNT, q_inNT, q_isBT, q_lenT, q_isL_int, q_isL_bool, q_isL_str, q_isL_tuple, q_isL_list, q_isNL, q_inNL, q_isBL, q_lenL, q_isBN, q_lnS, q_trN, q_trB, q_trI, q_trT, q_trL, q_trS, q_tupL, q_tupT, q_lstL, q_lstT, q_addT, q_addL, q_addS, q_ixT, q_ixL, q_ixS, q_chD, q_at0, q_at1, q_at2, q_atN, q_slT, q_slL, q_slS, q_mulL, aft_some, aft_bind, aft_map, Option.bind_some, Option.map_some, List.getElem?_cons_zero, List.getElem?_cons_succ, List.set_cons_zero, List.set_cons_succ, PL.small64, smallI, Int.reduceAbs, Int.natAbs_natCast, Nat.reducePow, List.getD_cons_zero, List.getD_cons_succ, List.length_cons, List.length_nil, Nat.zero_add, Nat.reduceAdd, Nat.reduceEqDiff, if_true, if_false, ite_true, ite_false, Bool.false_eq_true, Bool.not_true, Bool.not_false, decide_true, decide_false, Bool.true_and, Bool.and_true, Bool.and_self, ne_eq, Nat.reduceLT, Nat.reduceLeDiff, Int.reduceLT, Int.reduceLE, Int.reduceToNat, Int.reduceNeg, rng_nI, enD_map0, zpD_map, chars_map, List.length_map, List.length_range, Int.reduceEq, not_false_eq_true, not_true_eq_false, reduceCtorEq, true_and, and_true, Int.toNat_natCast, Bool.not_eq_true]
  refine (take_aft (n := 6) hw1 (by omega) (by omega)).mono ?_
  rintro _ ⟨k2, w2, rfl, hk2, hw2⟩
  simp only [q_var, q_var1, q_var2, q_pk, q_pk1, q_pk2, q_pk3, q_ol, q_ol1, q_ol2, q_pl, q_pl1, q_pl2, q_od, q_od1, q_od2, q_pd, q_pd1, q_pd2, q_fr, q_fr1, q_fr2, q_fr3, q_fr4, q_set1, q_gN, q_gsN, q_gsC, q_gT, q_kK, q_gIx, q_gIx1, q_c, q_cons, q_A0, q_A1, q_A2, q_A3, q_A4, q_A5, q_R, q_app, q_app1, q_L0, q_L1, q_L2, q_tup, q_tup1, q_lst, q_lst1, q_Br, q_tB, q_tB1, q_tTr, q_tTr1, q_tNo, q_tNo1, q_tAn, q_tAn1, q_tAn2, q_tOr, q_tOr1, q_tOr2, q_tT, q_eIf, q_sIf, q_if1, q_if2, q_eOr, q_eOr1, q_eOr2, q_eOr3, q_eAn, q_eAn1, q_eAn2, q_eAn3, q_Nt2, q_eNt, q_eNt1, q_ch, q_ch1, q_ch2, q_ch3, q_ch4, q_ch5, q_sl, q_sl1, q_sl2, q_sl3, q_slb, q_slb1, q_slb2, q_slb3, q_oNo, q_oSo, q_oSo1, q_I2, q_iOf, q_iOf1, q_it1, q_it2, q_it3, q_R1, q_R1a, q_R1b, q_R2, q_R2a, q_R2b, q_En2, q_En, q_En1, q_Zp, q_Zp1, q_Zp2, q_Zp3, q_Zp4, q_Lc, q_Lc1, q_Lc2, q_Lc3, q_w0, q_w1, q_w2, q_call, q_call0, q_call1, q_call2, q_call3, q_call4, q_call5, q_cB, q_cB1, q_cB2, q_cB3, q_cB4, q_len, q_lenI, q_lenB, q_lenS, q_lenN, q_cK, q_cKn, q_pm0, q_pm1, q_C0, q_C1, q_C2, q_C3, q_C4, q_C5, q_C6, q_nd, q_ci, q_ci1, q_ci2, q_is0, q_is1, q_is2, q_is3, q_nd0, q_nd1, q_nd2, q_po0, q_po1, q_po2, q_po3, q_rev, q_rev1, q_rev2, q_rev3, q_rg1, q_rg1a, q_rg1b, q_jn, q_jn1, q_jn2, q_bi, q_bi1, q_ap, q_ap1, q_ap2, q_pa, q_pa1, q_pa2, q_pp, q_pp1, q_in, q_in1, q_in2, q_in3, q_nop, q_sq, q_sq1, q_sq2, q_sq3, q_sq4, q_dr, q_dr1, q_rF, q_rF1, q_rt, q_rt1, q_rN, q_rO, q_rO1, q_rO2, q_m1, q_m2, q_m3, q_m4, q_m5, q_m6, q_Nx, q_as, q_as1, q_ow, q_ow1, q_mo1, q_mo2, q_mo3, q_mo4, q_mo5, q_mo6, q_so1, q_so2, q_p2, q_p2a, q_p2b, q_p3, q_p3a, q_p3b, q_p3c, q_for, q_for1, q_wh, q_bk, q_ct, q_kP, q_ro1, q_ro2, q_ro3, q_kF, q_kF2, q_os0, q_os1, q_os2, q_n1, q_n2, q_n3, q_n4, q_lk1, q_lk2, q_lm1, q_lf1, q_lf2, q_li1, q_li2, q_le1, q_addI, q_subI, q_mulI1, q_mulI2, q_fdI, q_mdI, q_negI, q_absI, q_intI, q_intB, q_maxI, q_minI, q_dmI, q_ltI, q_leI, q_gtI, q_geI, q_ltS, q_leS, q_gtS, q_geS, q_eqI, q_neI, q_eqS, q_neS, q_eqB, q_neB, q_isN_int, q_isN_bool, q_isN_str, q_isN_tuple, q_isN_list, q_isNN, q_inNN, q_isB_int, q_isB_bool, q_isB_str, q_isB_tuple, q_isB_list, q_isNB, q_inNB, q_isBB, q_isI_int, q_isI_bool, q_isI_str, q_isI_tuple, q_isI_list, q_isNI, q_inNI, q_isBI, q_isS_int, q_isS_bool, q_isS_str, q_isS_tuple, q_isS_list, q_isNS, q_inNS, q_isBS, q_isT_int, q_isT_bool, q_isT_str, q_isT_tuple, q_isT_list, q_isNT, q_inNT, q_isBT, q_lenT, q_isL_int, q_isL_bool, q_isL_str, q_isL_tuple, q_isL_list, q_isNL, q_inNL, q_isBL, q_lenL, q_isBN, q_lnS, q_trN, q_trB, q_trI, q_trT, q_trL, q_trS, q_tupL, q_tupT, q_lstL, q_lstT, q_addT, q_addL, q_addS, q_ixT, q_ixL, q_ixS, q_chD, q_at0, q_at1, q_at2, q_atN, q_slT, q_slL, q_slS, q_mulL, aft_some, aft_bind, aft_map, Option.bind_some, Option.map_some, List.getElem?_cons_zero, List.getElem?_cons_succ, List.set_cons_zero, List.set_cons_succ, PL.small64, smallI, Int.reduceAbs, Int.natAbs_natCast, Nat.reducePow, List.getD_cons_zero, List.getD_cons_succ, List.length_cons, List.length_nil, Nat.zero_add, Nat.reduceAdd, Nat.reduceEqDiff, if_true, if_false, ite_true, ite_false, Bool.false_eq_true, Bool.not_true, Bool.not_false, decide_true, decide_false, Bool.true_and, Bool.and_true, Bool.and_self, ne_eq, Nat.reduceLT, Nat.reduceLeDiff, Int.reduceLT, Int.reduceLE, Int.reduceToNat, Int.reduceNeg, rng_nI, enD_map0, zpD_map, chars_map, List.length_map, List.length_range, Int.reduceEq, not_false_eq_true, not_true_eq_false, reduceCtorEq, true_and, and_true, Int.toNat_natCast, Bool.not_eq_true]
  refine aft_for (fun _ e => ∃ w s1 s3, Wl w ∧ fre s1 = true ∧ fre s3 = true ∧ e = [.iow w, s1, .no, s3]) ⟨w2, .no, .no, hw2, rfl, rfl, rfl⟩ ?_ ?_
  · rintro i d e hd ⟨w, s1, s3, hw, hs1, hs3, rfl⟩
    obtain ⟨many, rfl, hm1, hm2⟩ : ∃ many : Nat, d = .int many ∧ 1 ≤ many ∧ many ≤ 40 := by
      have hm := List.mem_of_getElem? hd
      simp only [List.mem_cons, List.not_mem_nil, or_false] at hm
      rcases hm with rfl | rfl | rfl | rfl | rfl
      · exact ⟨40, rfl, by omega, by omega⟩
      · exact ⟨1 + k1, by congr 1, by omega, by omega⟩
      · exact ⟨5, rfl, by omega, by omega⟩
      · exact ⟨1 + k2, by congr 1, by omega, by omega⟩
      · exact ⟨12, rfl, by omega, by omega⟩
    simp only [q_var, q_var1, q_var2, q_pk, q_pk1, q_pk2, q_pk3, q_ol, q_ol1, q_ol2, q_pl, q_pl1, q_pl2, q_od, q_od1, q_od2, q_pd, q_pd1, q_pd2, q_fr, q_fr1, q_fr2, q_fr3, q_fr4, q_set1, q_gN, q_gsN, q_gsC, q_gT, q_kK, q_gIx, q_gIx1, q_c, q_cons, q_A0, q_A1, q_A2, q_A3, q_A4, q_A5, q_R, q_app, q_app1, q_L0, q_L1, q_L2, q_tup, q_tup1, q_lst, q_lst1, q_Br, q_tB, q_tB1, q_tTr, q_tTr1, q_tNo, q_tNo1, q_tAn, q_tAn1, q_tAn2, q_tOr, q_tOr1, q_tOr2, q_tT, q_eIf, q_sIf, q_if1, q_if2, q_eOr, q_eOr1, q_eOr2, q_eOr3, q_eAn, q_eAn1, q_eAn2, q_eAn3, q_Nt2, q_eNt, q_eNt1, q_ch, q_ch1, q_ch2, q_ch3, q_ch4, q_ch5, q_sl, q_sl1, q_sl2, q_sl3, q_slb, q_slb1, q_slb2, q_slb3, q_oNo, q_oSo, q_oSo1, q_I2, q_iOf, q_iOf1, q_it1, q_it2, q_it3, q_R1, q_R1a, q_R1b, q_R2, q_R2a, q_R2b, q_En2, q_En, q_En1, q_Zp, q_Zp1, q_Zp2, q_Zp3, q_Zp4, q_Lc, q_Lc1, q_Lc2, q_Lc3, q_w0, q_w1, q_w2, q_call, q_call0, q_call1, q_call2, q_call3, q_call4, q_call5, q_cB, q_cB1, q_cB2, q_cB3, q_cB4, q_len, q_lenI, q_lenB, q_lenS, q_lenN, q_cK, q_cKn, q_pm0, q_pm1, q_C0, q_C1, q_C2, q_C3, q_C4, q_C5, q_C6, q_nd, q_ci, q_ci1, q_ci2, q_is0, q_is1, q_is2, q_is3, q_nd0, q_nd1, q_nd2, q_po0, q_po1, q_po2, q_po3, q_rev, q_rev1, q_rev2, q_rev3, q_rg1, q_rg1a, q_rg1b, q_jn, q_jn1, q_jn2, q_bi, q_bi1, q_ap, q_ap1, q_ap2, q_pa, q_pa1, q_pa2, q_pp, q_pp1, q_in, q_in1, q_in2, q_in3, q_nop, q_sq, q_sq1, q_sq2, q_sq3, q_sq4, q_dr, q_dr1, q_rF, q_rF1, q_rt, q_rt1, q_rN, q_rO, q_rO1, q_rO2, q_m1, q_m2, q_m3, q_m4, q_m5, q_m6, q_Nx, q_as, q_as1, q_ow, q_ow1, q_mo1, q_mo2, q_mo3, q_mo4, q_mo5, q_mo6, q_so1, q_so2, q_p2, q_p2a, q_p2b, q_p3, q_p3a, q_p3b, q_p3c, q_for, q_for1, q_wh, q_bk, q_ct, q_kP, q_ro1, q_ro2, q_ro3, q_kF, q_kF2, q_os0, q_os1, q_os2, q_n1, q_n2, q_n3, q_n4, q_lk1, q_lk2, q_lm1, q_lf1, q_lf2, q_li1, q_li2, q_le1, q_addI, q_subI, q_mulI1, q_mulI2, q_fdI, q_mdI, q_negI, q_absI, q_intI, q_intB, q_maxI, q_minI, q_dmI, q_ltI, q_leI, q_gtI, q_geI, q_ltS, q_leS, q_gtS, q_geS, q_eqI, q_neI, q_eqS, q_neS, q_eqB, q_neB, q_isN_int, q_isN_bool, q_isN_str, q_isN_tuple, q_isN_list, q_isNN, q_inNN, q_isB_int, q_isB_bool, q_isB_str, q_isB_tuple, q_isB_list, q_isNB, q_inNB, q_isBB, q_isI_int, q_isI_bool, q_isI_str, q_isI_tuple, q_isI_list, q_isNI, q_inNI, q_isBI, q_isS_int, q_isS_bool, q_isS_str, q_isS_tuple, q_isS_list, q_isNS, q_inNS, q_isBS, q_isT_int, q_isT_bool, q_isT_str, q_isT_tuple, q_isT_list, q_isNT, q_inNT, q_isBT, q_lenT, q_isL_int, q_isL_bool, q_isL_str, q_isL_tuple, q_isL_list, q_isNL, q_inNL, q_isBL, q_lenL, q_isBN, q_lnS, q_trN, q_trB, q_trI, q_trT, q_trL, q_trS, q_tupL, q_tupT, q_lstL, q_lstT, q_addT, q_addL, q_addS, q_ixT, q_ixL, q_ixS, q_chD, q_at0, q_at1, q_at2, q_atN, q_slT, q_slL, q_slS, q_mulL, aft_some, aft_bind, aft_map, Option.bind_some, Option.map_some, List.getElem?_cons_zero, List.getElem?_cons_succ, List.set_cons_zero, List.set_cons_succ, PL.small64, smallI, Int.reduceAbs, Int.natAbs_natCast, Nat.reducePow, List.getD_cons_zero, List.getD_cons_succ, List.length_cons, List.length_nil, Nat.zero_add, Nat.reduceAdd, Nat.reduceEqDiff, if_true, if_false, ite_true, ite_false, Bool.false_eq_true, Bool.not_true, Bool.not_false, decide_true, decide_false, Bool.true_and, Bool.and_true, Bool.and_self, ne_eq, Nat.reduceLT, Nat.reduceLeDiff, Int.reduceLT, Int.reduceLE, Int.reduceToNat, Int.reduceNeg, rng_nI, enD_map0, zpD_map, chars_map, List.length_map, List.length_range, Int.reduceEq, not_false_eq_true, not_true_eq_false, reduceCtorEq, true_and, and_true, Int.toNat_natCast, Bool.not_eq_true, hs1, hs3]
    refine (order_aft hw hm1 hm2).mono ?_
    rintro _ ⟨os, w1, rfl, ho, hl, hw1⟩
    simp only [q_var, q_var1, q_var2, q_pk, q_pk1, q_pk2, q_pk3, q_ol, q_ol1, q_ol2, q_pl, q_pl1, q_pl2, q_od, q_od1, q_od2, q_pd, q_pd1, q_pd2, q_fr, q_fr1, q_fr2, q_fr3, q_fr4, q_set1, q_gN, q_gsN, q_gsC, q_gT, q_kK, q_gIx, q_gIx1, q_c, q_cons, q_A0, q_A1, q_A2, q_A3, q_A4, q_A5, q_R, q_app, q_app1, q_L0, q_L1, q_L2, q_tup, q_tup1, q_lst, q_lst1, q_Br, q_tB, q_tB1, q_tTr, q_tTr1, q_tNo, q_tNo1, q_tAn, q_tAn1, q_tAn2, q_tOr, q_tOr1, q_tOr2, q_tT, q_eIf, q_sIf, q_if1, q_if2, q_eOr, q_eOr1, q_eOr2, q_eOr3, q_eAn, q_eAn1, q_eAn2, q_eAn3, q_Nt2, q_eNt, q_eNt1, q_ch, q_ch1, q_ch2, q_ch3, q_ch4, q_ch5, q_sl, q_sl1, q_sl2, q_sl3, q_slb, q_slb1, q_slb2, q_slb3, q_oNo, q_oSo, q_oSo1, q_I2, q_iOf, q_iOf1, q_it1, q_it2, q_it3, q_R1, q_R1a, q_R1b, q_R2, q_R2a, q_R2b, q_En2, q_En, q_En1, q_Zp, q_Zp1, q_Zp2, q_Zp3, q_Zp4, q_Lc, q_Lc1, q_Lc2, q_Lc3, q_w0, q_w1, q_w2, q_call, q_call0, q_call1, q_call2, q_call3, q_call4, q_call5, q_cB, q_cB1, q_cB2, q_cB3, q_cB4, q_len, q_lenI, q_lenB, q_lenS, q_lenN, q_cK, q_cKn, q_pm0, q_pm1, q_C0, q_C1, q_C2, q_C3, q_C4, q_C5, q_C6, q_nd, q_ci, q_ci1, q_ci2, q_is0, q_is1, q_is2, q_is3, q_nd0, q_nd1, q_nd2, q_po0, q_po1, q_po2, q_po3, q_rev, q_rev1, q_rev2, q_rev3, q_rg1, q_rg1a, q_rg1b, q_jn, q_jn1, q_jn2, q_bi, q_bi1, q_ap, q_ap1, q_ap2, q_pa, q_pa1, q_pa2, q_pp, q_pp1, q_in, q_in1, q_in2, q_in3, q_nop, q_sq, q_sq1, q_sq2, q_sq3, q_sq4, q_dr, q_dr1, q_rF, q_rF1, q_rt, q_rt1, q_rN, q_rO, q_rO1, q_rO2, q_m1, q_m2, q_m3, q_m4, q_m5, q_m6, q_Nx, q_as, q_as1, q_ow, q_ow1, q_mo1, q_mo2, q_mo3, q_mo4, q_mo5, q_mo6, q_so1, q_so2, q_p2, q_p2a, q_p2b, q_p3, q_p3a, q_p3b, q_p3c, q_for, q_for1, q_wh, q_bk, q_ct, q_kP, q_ro1, q_ro2, q_ro3, q_kF, q_kF2, q_os0, q_os1, q_os2, q_n1, q_n2, q_n3, q_n4, q_lk1, q_lk2, q_lm1, q_lf1, q_lf2, q_li1, q_li2, q_le1, q_addI, q_subI, q_mulI1, q_mulI2, q_fdI, q_mdI, q_negI, q_absI, q_intI, q_intB, q_maxI, q_minI, q_dmI, q_ltI, q_leI, q_gtI, q_geI, q_ltS, q_leS, q_gtS, q_geS, q_eqI, q_neI, q_eqS, q_neS, q_eqB, q_neB, q_isN_int, q_isN_bool, q_isN_str, q_isN_tuple, q_isN_list, q_isNN, q_inNN, q_isB_int, q_isB_bool, q_isB_str, q_isB_tuple, q_isB_list, q_isNB, q_inNB, q_isBB, q_isI_int, q_isI_bool, q_isI_str, q_isI_tuple, q_isI_list, q_isNI, q_inNI, q_isBI, q_isS_int, q_isS_bool, q_isS_str, q_isS_tuple, q_isS_list, q_isNS, q_inNS, q_isBS, q_isT_int, q_isT_bool, q_isT_str, q_isT_tuple, q_isT_list, q_isNT, q_inNT, q_isBT, q_lenT, q_isL_int, q_isL_bool, q_isL_str, q_isL_tuple, q_isL_list, q_isNL, q_inNL, q_isBL, q_lenL, q_isBN, q_lnS, q_trN, q_trB, q_trI, q_trT, q_trL, q_trS, q_tupL, q_tupT, q_lstL, q_lstT, q_addT, q_addL, q_addS, q_ixT, q_ixL, q_ixS, q_chD, q_at0, q_at1, q_at2, q_atN, q_slT, q_slL, q_slS, q_mulL, aft_some, aft_bind, aft_map, Option.bind_some, Option.map_some, List.getElem?_cons_zero, List.getElem?_cons_succ, List.set_cons_zero, List.set_cons_succ, PL.small64, smallI, Int.reduceAbs, Int.natAbs_natCast, Nat.reducePow, List.getD_cons_zero, List.getD_cons_succ, List.length_cons, List.length_nil, Nat.zero_add, Nat.reduceAdd, Nat.reduceEqDiff, if_true, if_false, ite_true, ite_false, Bool.false_eq_true, Bool.not_true, Bool.not_false, decide_true, decide_false, Bool.true_and, Bool.and_true, Bool.and_self, ne_eq, Nat.reduceLT, Nat.reduceLeDiff, Int.reduceLT, Int.reduceLE, Int.reduceToNat, Int.reduceNeg, rng_nI, enD_map0, zpD_map, chars_map, List.length_map, List.length_range, Int.reduceEq, not_false_eq_true, not_true_eq_false, reduceCtorEq, true_and, and_true, Int.toNat_natCast, Bool.not_eq_true, hs3]
    refine (order_right hw1 ho).mono ?_
    rintro _ ⟨w2, rfl, hw2⟩
    simp only [q_var, q_var1, q_var2, q_pk, q_pk1, q_pk2, q_pk3, q_ol, q_ol1, q_ol2, q_pl, q_pl1, q_pl2, q_od, q_od1, q_od2, q_pd, q_pd1, q_pd2, q_fr, q_fr1, q_fr2, q_fr3, q_fr4, q_set1, q_gN, q_gsN, q_gsC, q_gT, q_kK, q_gIx, q_gIx1, q_c, q_cons, q_A0, q_A1, q_A2, q_A3, q_A4, q_A5, q_R, q_app, q_app1, q_L0, q_L1, q_L2, q_tup, q_tup1, q_lst, q_lst1, q_Br, q_tB, q_tB1, q_tTr, q_tTr1, q_tNo, q_tNo1, q_tAn, q_tAn1, q_tAn2, q_tOr, q_tOr1, q_tOr2, q_tT, q_eIf, q_sIf, q_if1, q_if2, q_eOr, q_eOr1, q_eOr2, q_eOr3, q_eAn, q_eAn1, q_eAn2, q_eAn3, q_Nt2, q_eNt, q_eNt1, q_ch, q_ch1, q_ch2, q_ch3, q_ch4, q_ch5, q_sl, q_sl1, q_sl2, q_sl3, q_slb, q_slb1, q_slb2, q_slb3, q_oNo, q_oSo, q_oSo1, q_I2, q_iOf, q_iOf1, q_it1, q_it2, q_it3, q_R1, q_R1a, q_R1b, q_R2, q_R2a, q_R2b, q_En2, q_En, q_En1, q_Zp, q_Zp1, q_Zp2, q_Zp3, q_Zp4, q_Lc, q_Lc1, q_Lc2, q_Lc3, q_w0, q_w1, q_w2, q_call, q_call0, q_call1, q_call2, q_call3, q_call4, q_call5, q_cB, q_cB1, q_cB2, q_cB3, q_cB4, q_len, q_lenI, q_lenB, q_lenS, q_lenN, q_cK, q_cKn, q_pm0, q_pm1, q_C0, q_C1, q_C2, q_C3, q_C4, q_C5, q_C6, q_nd, q_ci, q_ci1, q_ci2, q_is0, q_is1, q_is2, q_is3, q_nd0, q_nd1, q_nd2, q_po0, q_po1, q_po2, q_po3, q_rev, q_rev1, q_rev2, q_rev3, q_rg1, q_rg1a, q_rg1b, q_jn, q_jn1, q_jn2, q_bi, q_bi1, q_ap, q_ap1, q_ap2, q_pa, q_pa1, q_pa2, q_pp, q_pp1, q_in, q_in1, q_in2, q_in3, q_nop, q_sq, q_sq1, q_sq2, q_sq3, q_sq4, q_dr, q_dr1, q_rF, q_rF1, q_rt, q_rt1, q_rN, q_rO, q_rO1, q_rO2, q_m1, q_m2, q_m3, q_m4, q_m5, q_m6, q_Nx, q_as, q_as1, q_ow, q_ow1, q_mo1, q_mo2, q_mo3, q_mo4, q_mo5, q_mo6, q_so1, q_so2, q_p2, q_p2a, q_p2b, q_p3, q_p3a, q_p3b, q_p3c, q_for, q_for1, q_wh, q_bk, q_ct, q_kP, q_ro1, q_ro2, q_ro3, q_kF, q_kF2, q_os0, q_os1, q_os2, q_n1, q_n2, q_n3, q_n4, q_lk1, q_lk2, q_lm1, q_lf1, q_lf2, q_li1, q_li2, q_le1, q_addI, q_subI, q_mulI1, q_mulI2, q_fdI, q_mdI, q_negI, q_absI, q_intI, q_intB, q_maxI, q_minI, q_dmI, q_ltI, q_leI, q_gtI, q_geI, q_ltS, q_leS, q_gtS, q_geS, q_eqI, q_neI, q_eqS, q_neS, q_eqB, q_neB, q_isN_int, q_isN_bool, q_isN_str, q_isN_tuple, q_isN_list, q_isNN, q_inNN, q_isB_int, q_isB_bool, q_isB_str, q_isB_tuple, q_isB_list, q_isNB, q_inNB, q_isBB, q_isI_int, q_isI_bool, q_isI_str, q_isI_tuple, q_isI_list, q_isNI, q_inNI, q_isBI, q_isS_int, q_isS_bool, q_isS_str, q_isS_tuple, q_isS_list, q_isNS, q_inNS, q_isBS, q_isT_int, q_isT_bool, q_isT_str, q_isT_tuple, q_isT_list, q_isNT, q_inNT, q_isBT, q_lenT, q_isL_int, q_isL_bool, q_isL_str, q_isL_tuple, q_isL_list, q_isNL, q_inNL, q_isBL, q_lenL, q_isBN, q_lnS, q_trN, q_trB, q_trI, q_trT, q_trL, q_trS, q_tupL, q_tupT, q_lstL, q_lstT, q_addT, q_addL, q_addS, q_ixT, q_ixL, q_ixS, q_chD, q_at0, q_at1, q_at2, q_atN, q_slT, q_slL, q_slS, q_mulL, aft_some, aft_bind, aft_map, Option.bind_some, Option.map_some, List.getElem?_cons_zero, List.getElem?_cons_succ, List.set_cons_zero, List.set_cons_succ, PL.small64, smallI, Int.reduceAbs, Int.natAbs_natCast, Nat.reducePow, List.getD_cons_zero, List.getD_cons_succ, List.length_cons, List.length_nil, Nat.zero_add, Nat.reduceAdd, Nat.reduceEqDiff, if_true, if_false, ite_true, ite_false, Bool.false_eq_true, Bool.not_true, Bool.not_false, decide_true, decide_false, Bool.true_and, Bool.and_true, Bool.and_self, ne_eq, Nat.reduceLT, Nat.reduceLeDiff, Int.reduceLT, Int.reduceLE, Int.reduceToNat, Int.reduceNeg, rng_nI, enD_map0, zpD_map, chars_map, List.length_map, List.length_range, Int.reduceEq, not_false_eq_true, not_true_eq_false, reduceCtorEq, true_and, and_true, Int.toNat_natCast, Bool.not_eq_true]
    refine aft_an2 (fun hb => ?_) (fun _ => ?_)
    · have hb : (many : Int) < 20 := of_decide_eq_true hb
      simp only [q_var, q_var1, q_var2, q_pk, q_pk1, q_pk2, q_pk3, q_ol, q_ol1, q_ol2, q_pl, q_pl1, q_pl2, q_od, q_od1, q_od2, q_pd, q_pd1, q_pd2, q_fr, q_fr1, q_fr2, q_fr3, q_fr4, q_set1, q_gN, q_gsN, q_gsC, q_gT, q_kK, q_gIx, q_gIx1, q_c, q_cons, q_A0, q_A1, q_A2, q_A3, q_A4, q_A5, q_R, q_app, q_app1, q_L0, q_L1, q_L2, q_tup, q_tup1, q_lst, q_lst1, q_Br, q_tB, q_tB1, q_tTr, q_tTr1, q_tNo, q_tNo1, q_tAn, q_tAn1, q_tAn2, q_tOr, q_tOr1, q_tOr2, q_tT, q_eIf, q_sIf, q_if1, q_if2, q_eOr, q_eOr1, q_eOr2, q_eOr3, q_eAn, q_eAn1, q_eAn2, q_eAn3, q_Nt2, q_eNt, q_eNt1, q_ch, q_ch1, q_ch2, q_ch3, q_ch4, q_ch5, q_sl, q_sl1, q_sl2, q_sl3, q_slb, q_slb1, q_slb2, q_slb3, q_oNo, q_oSo, q_oSo1, q_I2, q_iOf, q_iOf1, q_it1, q_it2, q_it3, q_R1, q_R1a, q_R1b, q_R2, q_R2a, q_R2b, q_En2, q_En, q_En1, q_Zp, q_Zp1, q_Zp2, q_Zp3, q_Zp4, q_Lc, q_Lc1, q_Lc2, q_Lc3, q_w0, q_w1, q_w2, q_call, q_call0, q_call1, q_call2, q_call3, q_call4, q_call5, q_cB, q_cB1, q_cB2, q_cB3, q_cB4, q_len, q_lenI, q_lenB, q_lenS, q_lenN, q_cK, q_cKn, q_pm0, q_pm1, q_C0, q_C1, q_C2, q_C3, q_C4, q_C5, q_C6, q_nd, q_ci, q_ci1, q_ci2, q_is0, q_is1, q_is2, q_is3, q_nd0, q_nd1, q_nd2, q_po0, q_po1, q_po2, q_po3, q_rev, q_rev1, q_rev2, q_rev3, q_rg1, q_rg1a, q_rg1b, q_jn, q_jn1, q_jn2, q_bi, q_bi1, q_ap, q_ap1, q_ap2, q_pa, q_pa1, q_pa2, q_pp, q_pp1, q_in, q_in1, q_in2, q_in3, q_nop, q_sq, q_sq1, q_sq2, q_sq3, q_sq4, q_dr, q_dr1, q_rF, q_rF1, q_rt, q_rt1, q_rN, q_rO, q_rO1, q_rO2, q_m1, q_m2, q_m3, q_m4, q_m5, q_m6, q_Nx, q_as, q_as1, q_ow, q_ow1, q_mo1, q_mo2, q_mo3, q_mo4, q_mo5, q_mo6, q_so1, q_so2, q_p2, q_p2a, q_p2b, q_p3, q_p3a, q_p3b, q_p3c, q_for, q_for1, q_wh, q_bk, q_ct, q_kP, q_ro1, q_ro2, q_ro3, q_kF, q_kF2, q_os0, q_os1, q_os2, q_n1, q_n2, q_n3, q_n4, q_lk1, q_lk2, q_lm1, q_lf1, q_lf2, q_li1, q_li2, q_le1, q_addI, q_subI, q_mulI1, q_mulI2, q_fdI, q_mdI, q_negI, q_absI, q_intI, q_intB, q_maxI, q_minI, q_dmI, q_ltI, q_leI, q_gtI, q_geI, q_ltS, q_leS, q_gtS, q_geS, q_eqI, q_neI, q_eqS, q_neS, q_eqB, q_neB, q_isN_int, q_isN_bool, q_isN_str, q_isN_tuple, q_isN_list, q_isNN, q_inNN, q_isB_int, q_isB_bool, q_isB_str, q_isB_tuple, q_isB_list, q_isNB, q_inNB, q_isBB, q_isI_int, q_isI_bool, q_isI_str, q_isI_tuple, q_isI_list, q_isNI, q_inNI, q_isBI, q_isS_int, q_isS_bool, q_isS_str, q_isS_tuple, q_isS_list, q_isNS, q_inNS, q_isBS, q_isT_int, q_isT_bool, q_isT_str, q_isT_tuple, q_isT_list, q_isNT, q_inNT, q_isBT, q_lenT, q_isL_int, q_isL_bool, q_isL_str, q_isL_tuple, q_isL_list, q_isNL, q_inNL, q_isBL, q_lenL, q_isBN, q_lnS, q_trN, q_trB, q_trI, q_trT, q_trL, q_trS, q_tupL, q_tupT, q_lstL, q_lstT, q_addT, q_addL, q_addS, q_ixT, q_ixL, q_ixS, q_chD, q_at0, q_at1, q_at2, q_atN, q_slT, q_slL, q_slS, q_mulL, aft_some, aft_bind, aft_map, Option.bind_some, Option.map_some, List.getElem?_cons_zero, List.getElem?_cons_succ, List.set_cons_zero, List.set_cons_succ, PL.small64, smallI, Int.reduceAbs, Int.natAbs_natCast, Nat.reducePow, List.getD_cons_zero, List.getD_cons_succ, List.length_cons, List.length_nil, Nat.zero_add, Nat.reduceAdd, Nat.reduceEqDiff, if_true, if_false, ite_true, ite_false, Bool.false_eq_true, Bool.not_true, Bool.not_false, decide_true, decide_false, Bool.true_and, Bool.and_true, Bool.and_self, ne_eq, Nat.reduceLT, Nat.reduceLeDiff, Int.reduceLT, Int.reduceLE, Int.reduceToNat, Int.reduceNeg, rng_nI, enD_map0, zpD_map, chars_map, List.length_map, List.length_range, Int.reduceEq, not_false_eq_true, not_true_eq_false, reduceCtorEq, true_and, and_true, Int.toNat_natCast, Bool.not_eq_true]
      refine (take_aft (n := 20) hw2 (by omega) (by omega)).mono ?_
      rintro _ ⟨k3, w3, rfl, hk3, hw3⟩
      simp only [q_var, q_var1, q_var2, q_pk, q_pk1, q_pk2, q_pk3, q_ol, q_ol1, q_ol2, q_pl, q_pl1, q_pl2, q_od, q_od1, q_od2, q_pd, q_pd1, q_pd2, q_fr, q_fr1, q_fr2, q_fr3, q_fr4, q_set1, q_gN, q_gsN, q_gsC, q_gT, q_kK, q_gIx, q_gIx1, q_c, q_cons, q_A0, q_A1, q_A2, q_A3, q_A4, q_A5, q_R, q_app, q_app1, q_L0, q_L1, q_L2, q_tup, q_tup1, q_lst, q_lst1, q_Br, q_tB, q_tB1, q_tTr, q_tTr1, q_tNo, q_tNo1, q_tAn, q_tAn1, q_tAn2, q_tOr, q_tOr1, q_tOr2, q_tT, q_eIf, q_sIf, q_if1, q_if2, q_eOr, q_eOr1, q_eOr2, q_eOr3, q_eAn, q_eAn1, q_eAn2, q_eAn3, q_Nt2, q_eNt, q_eNt1, q_ch, q_ch1, q_ch2, q_ch3, q_ch4, q_ch5, q_sl, q_sl1, q_sl2, q_sl3, q_slb, q_slb1, q_slb2, q_slb3, q_oNo, q_oSo, q_oSo1, q_I2, q_iOf, q_iOf1, q_it1, q_it2, q_it3, q_R1, q_R1a, q_R1b, q_R2, q_R2a, q_R2b, q_En2, q_En, q_En1, q_Zp, q_Zp1, q_Zp2, q_Zp3, q_Zp4, q_Lc, q_Lc1, q_Lc2, q_Lc3, q_w0, q_w1, q_w2, q_call, q_call0, q_call1, q_call2, q_call3, q_call4, q_call5, q_cB, q_cB1, q_cB2, q_cB3, q_cB4, q_len, q_lenI, q_lenB, q_lenS, q_lenN, q_cK, q_cKn, q_pm0, q_pm1, q_C0, q_C1, q_C2, q_C3, q_C4, q_C5, q_C6, q_nd, q_ci, q_ci1, q_ci2, q_is0, q_is1, q_is2, q_is3, q_nd0, q_nd1, q_nd2, q_po0, q_po1, q_po2, q_po3, q_rev, q_rev1, q_rev2, q_rev3, q_rg1, q_rg1a, q_rg1b, q_jn, q_jn1, q_jn2, q_bi, q_bi1, q_ap, q_ap1, q_ap2, q_pa, q_pa1, q_pa2, q_pp, q_pp1, q_in, q_in1, q_in2, q_in3, q_nop, q_sq, q_sq1, q_sq2, q_sq3, q_sq4, q_dr, q_dr1, q_rF, q_rF1, q_rt, q_rt1, q_rN, q_rO, q_rO1, q_rO2, q_m1, q_m2, q_m3, q_m4, q_m5, q_m6, q_Nx, q_as, q_as1, q_ow, q_ow1, q_mo1, q_mo2, q_mo3, q_mo4, q_mo5, q_mo6, q_so1, q_so2, q_p2, q_p2a, q_p2b, q_p3, q_p3a, q_p3b, q_p3c, q_for, q_for1, q_wh, q_bk, q_ct, q_kP, q_ro1, q_ro2, q_ro3, q_kF, q_kF2, q_os0, q_os1, q_os2, q_n1, q_n2, q_n3, q_n4, q_lk1, q_lk2, q_lm1, q_lf1, q_lf2, q_li1, q_li2, q_le1, q_addI, q_subI, q_mulI1, q_mulI2, q_fdI, q_mdI, q_negI, q_absI, q_intI, q_intB, q_maxI, q_minI, q_dmI, q_ltI, q_leI, q_gtI, q_geI, q_ltS, q_leS, q_gtS, q_geS, q_eqI, q_neI, q_eqS, q_neS, q_eqB, q_neB, q_isN_int, q_isN_bool, q_isN_str, q_isN_tuple, q_isN_list, q_isNN, q_inNN, q_isB_int, q_isB_bool, q_isB_str, q_isB_tuple, q_isB_list, q_isNB, q_inNB, q_isBB, q_isI_int, q_isI_bool, q_isI_str, q_isI_tuple, q_isI_list, q_isNI, q_inNI, q_isBI, q_isS_int, q_isS_bool, q_isS_str, q_isS_tuple, q_isS_list, q_isNS, q_inNS, q_isBS, q_isT_int, q_isT_bool, q_isT_str, q_isT_tuple, q_isT_list, q_isNT, q_inNT, q_isBT, q_lenT, q_isL_int, q_isL_bool, q_isL_str, q_isL_tuple, q_isL_list, q_isNL, q_inNL, q_isBL, q_lenL, q_isBN, q_lnS, q_trN, q_trB, q_trI, q_trT, q_trL, q_trS, q_tupL, q_tupT, q_lstL, q_lstT, q_addT, q_addL, q_addS, q_ixT, q_ixL, q_ixS, q_chD, q_at0, q_at1, q_at2, q_atN, q_slT, q_slL, q_slS, q_mulL, aft_some, aft_bind, aft_map, Option.bind_some, Option.map_some, List.getElem?_cons_zero, List.getElem?_cons_succ, List.set_cons_zero, List.set_cons_succ, PL.small64, smallI, Int.reduceAbs, Int.natAbs_natCast, Nat.reducePow, List.getD_cons_zero, List.getD_cons_succ, List.length_cons, List.length_nil, Nat.zero_add, Nat.reduceAdd, Nat.reduceEqDiff, if_true, if_false, ite_true, ite_false, Bool.false_eq_true, Bool.not_true, Bool.not_false, decide_true, decide_false, Bool.true_and, Bool.and_true, Bool.and_self, ne_eq, Nat.reduceLT, Nat.reduceLeDiff, Int.reduceLT, Int.reduceLE, Int.reduceToNat, Int.reduceNeg, rng_nI, enD_map0, zpD_map, chars_map, List.length_map, List.length_range, Int.reduceEq, not_false_eq_true, not_true_eq_false, reduceCtorEq, true_and, and_true, Int.toNat_natCast, Bool.not_eq_true]
      have ek : (1 : Int) + (k3 : Int) = ((1 + k3 : Nat) : Int) := by omega
      rw [ek]
      refine (order_aft hw3 (by omega) (by omega)).mono ?_
      rintro _ ⟨os2, w4, rfl, ho2, hl2, hw4⟩
      have ht := two_right ho ho2 (by omega)
      simp only [q_var, q_var1, q_var2, q_pk, q_pk1, q_pk2, q_pk3, q_ol, q_ol1, q_ol2, q_pl, q_pl1, q_pl2, q_od, q_od1, q_od2, q_pd, q_pd1, q_pd2, q_fr, q_fr1, q_fr2, q_fr3, q_fr4, q_set1, q_gN, q_gsN, q_gsC, q_gT, q_kK, q_gIx, q_gIx1, q_c, q_cons, q_A0, q_A1, q_A2, q_A3, q_A4, q_A5, q_R, q_app, q_app1, q_L0, q_L1, q_L2, q_tup, q_tup1, q_lst, q_lst1, q_Br, q_tB, q_tB1, q_tTr, q_tTr1, q_tNo, q_tNo1, q_tAn, q_tAn1, q_tAn2, q_tOr, q_tOr1, q_tOr2, q_tT, q_eIf, q_sIf, q_if1, q_if2, q_eOr, q_eOr1, q_eOr2, q_eOr3, q_eAn, q_eAn1, q_eAn2, q_eAn3, q_Nt2, q_eNt, q_eNt1, q_ch, q_ch1, q_ch2, q_ch3, q_ch4, q_ch5, q_sl, q_sl1, q_sl2, q_sl3, q_slb, q_slb1, q_slb2, q_slb3, q_oNo, q_oSo, q_oSo1, q_I2, q_iOf, q_iOf1, q_it1, q_it2, q_it3, q_R1, q_R1a, q_R1b, q_R2, q_R2a, q_R2b, q_En2, q_En, q_En1, q_Zp, q_Zp1, q_Zp2, q_Zp3, q_Zp4, q_Lc, q_Lc1, q_Lc2, q_Lc3, q_w0, q_w1, q_w2, q_call, q_call0, q_call1, q_call2, q_call3, q_call4, q_call5, q_cB, q_cB1, q_cB2, q_cB3, q_cB4, q_len, q_lenI, q_lenB, q_lenS, q_lenN, q_cK, q_cKn, q_pm0, q_pm1, q_C0, q_C1, q_C2, q_C3, q_C4, q_C5, q_C6, q_nd, q_ci, q_ci1, q_ci2, q_is0, q_is1, q_is2, q_is3, q_nd0, q_nd1, q_nd2, q_po0, q_po1, q_po2, q_po3, q_rev, q_rev1, q_rev2, q_rev3, q_rg1, q_rg1a, q_rg1b, q_jn, q_jn1, q_jn2, q_bi, q_bi1, q_ap, q_ap1, q_ap2, q_pa, q_pa1, q_pa2, q_pp, q_pp1, q_in, q_in1, q_in2, q_in3, q_nop, q_sq, q_sq1, q_sq2, q_sq3, q_sq4, q_dr, q_dr1, q_rF, q_rF1, q_rt, q_rt1, q_rN, q_rO, q_rO1, q_rO2, q_m1, q_m2, q_m3, q_m4, q_m5, q_m6, q_Nx, q_as, q_as1, q_ow, q_ow1, q_mo1, q_mo2, q_mo3, q_mo4, q_mo5, q_mo6, q_so1, q_so2, q_p2, q_p2a, q_p2b, q_p3, q_p3a, q_p3b, q_p3c, q_for, q_for1, q_wh, q_bk, q_ct, q_kP, q_ro1, q_ro2, q_ro3, q_kF, q_kF2, q_os0, q_os1, q_os2, q_n1, q_n2, q_n3, q_n4, q_lk1, q_lk2, q_lm1, q_lf1, q_lf2, q_li1, q_li2, q_le1, q_addI, q_subI, q_mulI1, q_mulI2, q_fdI, q_mdI, q_negI, q_absI, q_intI, q_intB, q_maxI, q_minI, q_dmI, q_ltI, q_leI, q_gtI, q_geI, q_ltS, q_leS, q_gtS, q_geS, q_eqI, q_neI, q_eqS, q_neS, q_eqB, q_neB, q_isN_int, q_isN_bool, q_isN_str, q_isN_tuple, q_isN_list, q_isNN, q_inNN, q_isB_int, q_isB_bool, q_isB_str, q_isB_tuple, q_isB_list, q_isNB, q_inNB, q_isBB, q_isI_int, q_isI_bool, q_isI_str, q_isI_tuple, q_isI_list, q_isNI, q_inNI, q_isBI, q_isS_int, q_isS_bool, q_isS_str, q_isS_tuple, q_isS_list, q_isNS, q_inNS, q_isBS, q_isT_int, q_isT_bool, q_isT_str, q_isT_tuple, q_isT_list, q_isNT, q_inNT, q_isBT, q_lenT, q_isL_int, q_isL_bool, q_isL_str, q_isL_tuple, q_isL_list, q_isNL, q_inNL, q_isBL, q_lenL, q_isBN, q_lnS, q_trN, q_trB, q_trI, q_trT, q_trL, q_trS, q_tupL, q_tupT, q_lstL, q_lstT, q_addT, q_addL, q_addS, q_ixT, q_ixL, q_ixS, q_chD, q_at0, q_at1, q_at2, q_atN, q_slT, q_slL, q_slS, q_mulL, aft_some, aft_bind, aft_map, Option.bind_some, Option.map_some, List.getElem?_cons_zero, List.getElem?_cons_succ, List.set_cons_zero, List.set_cons_succ, PL.small64, smallI, Int.reduceAbs, Int.natAbs_natCast, Nat.reducePow, List.getD_cons_zero, List.getD_cons_succ, List.length_cons, List.length_nil, Nat.zero_add, Nat.reduceAdd, Nat.reduceEqDiff, if_true, if_false, ite_true, ite_false, Bool.false_eq_true, Bool.not_true, Bool.not_false, decide_true, decide_false, Bool.true_and, Bool.and_true, Bool.and_self, ne_eq, Nat.reduceLT, Nat.reduceLeDiff, Int.reduceLT, Int.reduceLE, Int.reduceToNat, Int.reduceNeg, rng_nI, enD_map0, zpD_map, chars_map, List.length_map, List.length_range, Int.reduceEq, not_false_eq_true, not_true_eq_false, reduceCtorEq, true_and, and_true, Int.toNat_natCast, Bool.not_eq_true, ht]
      exact ⟨w4, _, _, hw4, rfl, rfl, rfl⟩
    · simp only [q_var, q_var1, q_var2, q_pk, q_pk1, q_pk2, q_pk3, q_ol, q_ol1, q_ol2, q_pl, q_pl1, q_pl2, q_od, q_od1, q_od2, q_pd, q_pd1, q_pd2, q_fr, q_fr1, q_fr2, q_fr3, q_fr4, q_set1, q_gN, q_gsN, q_gsC, q_gT, q_kK, q_gIx, q_gIx1, q_c, q_cons, q_A0, q_A1, q_A2, q_A3, q_A4, q_A5, q_R, q_app, q_app1, q_L0, q_L1, q_L2, q_tup, q_tup1, q_lst, q_lst1, q_Br, q_tB, q_tB1, q_tTr, q_tTr1, q_tNo, q_tNo1, q_tAn, q_tAn1, q_tAn2, q_tOr, q_tOr1, q_tOr2, q_tT, q_eIf, q_sIf, q_if1, q_if2, q_eOr, q_eOr1, q_eOr2, q_eOr3, q_eAn, q_eAn1, q_eAn2, q_eAn3, q_Nt2, q_eNt, q_eNt1, q_ch, q_ch1, q_ch2, q_ch3, q_ch4, q_ch5, q_sl, q_sl1, q_sl2, q_sl3, q_slb, q_slb1, q_slb2, q_slb3, q_oNo, q_oSo, q_oSo1, q_I2, q_iOf, q_iOf1, q_it1, q_it2, q_it3, q_R1, q_R1a, q_R1b, q_R2, q_R2a, q_R2b, q_En2, q_En, q_En1, q_Zp, q_Zp1, q_Zp2, q_Zp3, q_Zp4, q_Lc, q_Lc1, q_Lc2, q_Lc3, q_w0, q_w1, q_w2, q_call, q_call0, q_call1, q_call2, q_call3, q_call4, q_call5, q_cB, q_cB1, q_cB2, q_cB3, q_cB4, q_len, q_lenI, q_lenB, q_lenS, q_lenN, q_cK, q_cKn, q_pm0, q_pm1, q_C0, q_C1, q_C2, q_C3, q_C4, q_C5, q_C6, q_nd, q_ci, q_ci1, q_ci2, q_is0, q_is1, q_is2, q_is3, q_nd0, q_nd1, q_nd2, q_po0, q_po1, q_po2, q_po3, q_rev, q_rev1, q_rev2, q_rev3, q_rg1, q_rg1a, q_rg1b, q_jn, q_jn1, q_jn2, q_bi, q_bi1, q_ap, q_ap1, q_ap2, q_pa, q_pa1, q_pa2, q_pp, q_pp1, q_in, q_in1, q_in2, q_in3, q_nop, q_sq, q_sq1, q_sq2, q_sq3, q_sq4, q_dr, q_dr1, q_rF, q_rF1, q_rt, q_rt1, q_rN, q_rO, q_rO1, q_rO2, q_m1, q_m2, q_m3, q_m4, q_m5, q_m6, q_Nx, q_as, q_as1, q_ow, q_ow1, q_mo1, q_mo2, q_mo3, q_mo4, q_mo5, q_mo6, q_so1, q_so2, q_p2, q_p2a, q_p2b, q_p3, q_p3a, q_p3b, q_p3c, q_for, q_for1, q_wh, q_bk, q_ct, q_kP, q_ro1, q_ro2, q_ro3, q_kF, q_kF2, q_os0, q_os1, q_os2, q_n1, q_n2, q_n3, q_n4, q_lk1, q_lk2, q_lm1, q_lf1, q_lf2, q_li1, q_li2, q_le1, q_addI, q_subI, q_mulI1, q_mulI2, q_fdI, q_mdI, q_negI, q_absI, q_intI, q_intB, q_maxI, q_minI, q_dmI, q_ltI, q_leI, q_gtI, q_geI, q_ltS, q_leS, q_gtS, q_geS, q_eqI, q_neI, q_eqS, q_neS, q_eqB, q_neB, q_isN_int, q_isN_bool, q_isN_str, q_isN_tuple, q_isN_list, q_isNN, q_inNN, q_isB_int, q_isB_bool, q_isB_str, q_isB_tuple, q_isB_list, q_isNB, q_inNB, q_isBB, q_isI_int, q_isI_bool, q_isI_str, q_isI_tuple, q_isI_list, q_isNI, q_inNI, q_isBI, q_isS_int, q_isS_bool, q_isS_str, q_isS_tuple, q_isS_list, q_isNS, q_inNS, q_isBS, q_isT_int, q_isT_bool, q_isT_str, q_isT_tuple, q_isT_list, q_isNT, q_inNT, q_isBT, q_lenT, q_isL_int, q_isL_bool, q_isL_str, q_isL_tuple, q_isL_list, q_isNL, q_inNL, q_isBL, q_lenL, q_isBN, q_lnS, q_trN, q_trB, q_trI, q_trT, q_trL, q_trS, q_tupL, q_tupT, q_lstL, q_lstT, q_addT, q_addL, q_addS, q_ixT, q_ixL, q_ixS, q_chD, q_at0, q_at1, q_at2, q_atN, q_slT, q_slL, q_slS, q_mulL, aft_some, aft_bind, aft_map, Option.bind_some, Option.map_some, List.getElem?_cons_zero, List.getElem?_cons_succ, List.set_cons_zero, List.set_cons_succ, PL.small64, smallI, Int.reduceAbs, Int.natAbs_natCast, Nat.reducePow, List.getD_cons_zero, List.getD_cons_succ, List.length_cons, List.length_nil, Nat.zero_add, Nat.reduceAdd, Nat.reduceEqDiff, if_true, if_false, ite_true, ite_false, Bool.false_eq_true, Bool.not_true, Bool.not_false, decide_true, decide_false, Bool.true_and, Bool.and_true, Bool.and_self, ne_eq, Nat.reduceLT, Nat.reduceLeDiff, Int.reduceLT, Int.reduceLE, Int.reduceToNat, Int.reduceNeg, rng_nI, enD_map0, zpD_map, chars_map, List.length_map, List.length_range, Int.reduceEq, not_false_eq_true, not_true_eq_false, reduceCtorEq, true_and, and_true, Int.toNat_natCast, Bool.not_eq_true]
      exact ⟨w2, _, _, hw2, rfl, rfl, rfl⟩
  · rintro e ⟨w, s1, s3, hw, hs1, hs3, rfl⟩
    simp only [q_var, q_var1, q_var2, q_pk, q_pk1, q_pk2, q_pk3, q_ol, q_ol1, q_ol2, q_pl, q_pl1, q_pl2, q_od, q_od1, q_od2, q_pd, q_pd1, q_pd2, q_fr, q_fr1, q_fr2, q_fr3, q_fr4, q_set1, q_gN, q_gsN, q_gsC, q_gT, q_kK, q_gIx, q_gIx1, q_c, q_cons, q_A0, q_A1, q_A2, q_A3, q_A4, q_A5, q_R, q_app, q_app1, q_L0, q_L1, q_L2, q_tup, q_tup1, q_lst, q_lst1, q_Br, q_tB, q_tB1, q_tTr, q_tTr1, q_tNo, q_tNo1, q_tAn, q_tAn1, q_tAn2, q_tOr, q_tOr1, q_tOr2, q_tT, q_eIf, q_sIf, q_if1, q_if2, q_eOr, q_eOr1, q_eOr2, q_eOr3, q_eAn, q_eAn1, q_eAn2, q_eAn3, q_Nt2, q_eNt, q_eNt1, q_ch, q_ch1, q_ch2, q_ch3, q_ch4, q_ch5, q_sl, q_sl1, q_sl2, q_sl3, q_slb, q_slb1, q_slb2, q_slb3, q_oNo, q_oSo, q_oSo1, q_I2, q_iOf, q_iOf1, q_it1, q_it2, q_it3, q_R1, q_R1a, q_R1b, q_R2, q_R2a, q_R2b, q_En2, q_En, q_En1, q_Zp, q_Zp1, q_Zp2, q_Zp3, q_Zp4, q_Lc, q_Lc1, q_Lc2, q_Lc3, q_w0, q_w1, q_w2, q_call, q_call0, q_call1, q_call2, q_call3, q_call4, q_call5, q_cB, q_cB1, q_cB2, q_cB3, q_cB4, q_len, q_lenI, q_lenB, q_lenS, q_lenN, q_cK, q_cKn, q_pm0, q_pm1, q_C0, q_C1, q_C2, q_C3, q_C4, q_C5, q_C6, q_nd, q_ci, q_ci1, q_ci2, q_is0, q_is1, q_is2, q_is3, q_nd0, q_nd1, q_nd2, q_po0, q_po1, q_po2, q_po3, q_rev, q_rev1, q_rev2, q_rev3, q_rg1, q_rg1a, q_rg1b, q_jn, q_jn1, q_jn2, q_bi, q_bi1, q_ap, q_ap1, q_ap2, q_pa, q_pa1, q_pa2, q_pp, q_pp1, q_in, q_in1, q_in2, q_in3, q_nop, q_sq, q_sq1, q_sq2, q_sq3, q_sq4, q_dr, q_dr1, q_rF, q_rF1, q_rt, q_rt1, q_rN, q_rO, q_rO1, q_rO2, q_m1, q_m2, q_m3, q_m4, q_m5, q_m6, q_Nx, q_as, q_as1, q_ow, q_ow1, q_mo1, q_mo2, q_mo3, q_mo4, q_mo5, q_mo6, q_so1, q_so2, q_p2, q_p2a, q_p2b, q_p3, q_p3a, q_p3b, q_p3c, q_for, q_for1, q_wh, q_bk, q_ct, q_kP, q_ro1, q_ro2, q_ro3, q_kF, q_kF2, q_os0, q_os1, q_os2, q_n1, q_n2, q_n3, q_n4, q_lk1, q_lk2, q_lm1, q_lf1, q_lf2, q_li1, q_li2, q_le1, q_addI, q_subI, q_mulI1, q_mulI2, q_fdI, q_mdI, q_negI, q_absI, q_intI, q_intB, q_maxI, q_minI, q_dmI, q_ltI, q_leI, q_gtI, q_geI, q_ltS, q_leS, q_gtS, q_geS, q_eqI, q_neI, q_eqS, q_neS, q_eqB, q_neB, q_isN_int, q_isN_bool, q_isN_str, q_isN_tuple, q_isN_list, q_isNN, q_inNN, q_isB_int, q_isB_bool, q_isB_str, q_isB_tuple, q_isB_list, q_isNB, q_inNB, q_isBB, q_isI_int, q_isI_bool, q_isI_str, q_isI_tuple, q_isI_list, q_isNI, q_inNI, q_isBI, q_isS_int, q_isS_bool, q_isS_str, q_isS_tuple, q_isS_list, q_isNS, q_inNS, q_isBS, q_isT_int, q_isT_bool, q_isT_str, q_isT_tuple, q_isT_list, q_isNT, q_inNT, q_isBT, q_lenT, q_isL_int, q_isL_bool, q_isL_str, q_isL_tuple, q_isL_list, q_isNL, q_inNL, q_isBL, q_lenL, q_isBN, q_lnS, q_trN, q_trB, q_trI, q_trT, q_trL, q_trS, q_tupL, q_tupT, q_lstL, q_lstT, q_addT, q_addL, q_addS, q_ixT, q_ixL, q_ixS, q_chD, q_at0, q_at1, q_at2, q_atN, q_slT, q_slL, q_slS, q_mulL, aft_some, aft_bind, aft_map, Option.bind_some, Option.map_some, List.getElem?_cons_zero, List.getElem?_cons_succ, List.set_cons_zero, List.set_cons_succ, PL.small64, smallI, Int.reduceAbs, Int.natAbs_natCast, Nat.reducePow, List.getD_cons_zero, List.getD_cons_succ, List.length_cons, List.length_nil, Nat.zero_add, Nat.reduceAdd, Nat.reduceEqDiff, if_true, if_false, ite_true, ite_false, Bool.false_eq_true, Bool.not_true, Bool.not_false, decide_true, decide_false, Bool.true_and, Bool.and_true, Bool.and_self, ne_eq, Nat.reduceLT, Nat.reduceLeDiff, Int.reduceLT, Int.reduceLE, Int.reduceToNat, Int.reduceNeg, rng_nI, enD_map0, zpD_map, chars_map, List.length_map, List.length_range, Int.reduceEq, not_false_eq_true, not_true_eq_false, reduceCtorEq, true_and, and_true, Int.toNat_natCast, Bool.not_eq_true]
    refine (take_aft (n := 40) hw (by omega) (by omega)).mono ?_
    rintro _ ⟨k, w', rfl, hk, hw'⟩
    have ek : (1 : Int) + (k : Int) = ((1 + k : Nat) : Int) := by omega
    have o1 := ord_range (n := 1 + k) (by omega) (by omega)
    have c1 := count_ok o1
    have c2 := count_ok (ord_rev o1)
    have d1 : desc (List.range (1 + k)) = 0 := desc_range _
    have d2 := desc_rev (List.range (1 + k)) List.nodup_range (by simp [List.range_eq_nil])
    have e1 : List.map nI (List.range (1 + k)) = nuD (List.range (1 + k)) := rfl
    rw [List.length_range] at d2
    simp only [q_var, q_var1, q_var2, q_pk, q_pk1, q_pk2, q_pk3, q_ol, q_ol1, q_ol2, q_pl, q_pl1, q_pl2, q_od, q_od1, q_od2, q_pd, q_pd1, q_pd2, q_fr, q_fr1, q_fr2, q_fr3, q_fr4, q_set1, q_gN, q_gsN, q_gsC, q_gT, q_kK, q_gIx, q_gIx1, q_c, q_cons, q_A0, q_A1, q_A2, q_A3, q_A4, q_A5, q_R, q_app, q_app1, q_L0, q_L1, q_L2, q_tup, q_tup1, q_lst, q_lst1, q_Br, q_tB, q_tB1, q_tTr, q_tTr1, q_tNo, q_tNo1, q_tAn, q_tAn1, q_tAn2, q_tOr, q_tOr1, q_tOr2, q_tT, q_eIf, q_sIf, q_if1, q_if2, q_eOr, q_eOr1, q_eOr2, q_eOr3, q_eAn, q_eAn1, q_eAn2, q_eAn3, q_Nt2, q_eNt, q_eNt1, q_ch, q_ch1, q_ch2, q_ch3, q_ch4, q_ch5, q_sl, q_sl1, q_sl2, q_sl3, q_slb, q_slb1, q_slb2, q_slb3, q_oNo, q_oSo, q_oSo1, q_I2, q_iOf, q_iOf1, q_it1, q_it2, q_it3, q_R1, q_R1a, q_R1b, q_R2, q_R2a, q_R2b, q_En2, q_En, q_En1, q_Zp, q_Zp1, q_Zp2, q_Zp3, q_Zp4, q_Lc, q_Lc1, q_Lc2, q_Lc3, q_w0, q_w1, q_w2, q_call, q_call0, q_call1, q_call2, q_call3, q_call4, q_call5, q_cB, q_cB1, q_cB2, q_cB3, q_cB4, q_len, q_lenI, q_lenB, q_lenS, q_lenN, q_cK, q_cKn, q_pm0, q_pm1, q_C0, q_C1, q_C2, q_C3, q_C4, q_C5, q_C6, q_nd, q_ci, q_ci1, q_ci2, q_is0, q_is1, q_is2, q_is3, q_nd0, q_nd1, q_nd2, q_po0, q_po1, q_po2, q_po3, q_rev, q_rev1, q_rev2, q_rev3, q_rg1, q_rg1a, q_rg1b, q_jn, q_jn1, q_jn2, q_bi, q_bi1, q_ap, q_ap1, q_ap2, q_pa, q_pa1, q_pa2, q_pp, q_pp1, q_in, q_in1, q_in2, q_in3, q_nop, q_sq, q_sq1, q_sq2, q_sq3, q_sq4, q_dr, q_dr1, q_rF, q_rF1, q_rt, q_rt1, q_rN, q_rO, q_rO1, q_rO2, q_m1, q_m2, q_m3, q_m4, q_m5, q_m6, q_Nx, q_as, q_as1, q_ow, q_ow1, q_mo1, q_mo2, q_mo3, q_mo4, q_mo5, q_mo6, q_so1, q_so2, q_p2, q_p2a, q_p2b, q_p3, q_p3a, q_p3b, q_p3c, q_for, q_for1, q_wh, q_bk, q_ct, q_kP, q_ro1, q_ro2, q_ro3, q_kF, q_kF2, q_os0, q_os1, q_os2, q_n1, q_n2, q_n3, q_n4, q_lk1, q_lk2, q_lm1, q_lf1, q_lf2, q_li1, q_li2, q_le1, q_addI, q_subI, q_mulI1, q_mulI2, q_fdI, q_mdI, q_negI, q_absI, q_intI, q_intB, q_maxI, q_minI, q_dmI, q_ltI, q_leI, q_gtI, q_geI, q_ltS, q_leS, q_gtS, q_geS, q_eqI, q_neI, q_eqS, q_neS, q_eqB, q_neB, q_isN_int, q_isN_bool, q_isN_str, q_isN_tuple, q_isN_list, q_isNN, q_inNN, q_isB_int, q_isB_bool, q_isB_str, q_isB_tuple, q_isB_list, q_isNB, q_inNB, q_isBB, q_isI_int, q_isI_bool, q_isI_str, q_isI_tuple, q_isI_list, q_isNI, q_inNI, q_isBI, q_isS_int, q_isS_bool, q_isS_str, q_isS_tuple, q_isS_list, q_isNS, q_inNS, q_isBS, q_isT_int, q_isT_bool, q_isT_str, q_isT_tuple, q_isT_list, q_isNT, q_inNT, q_isBT, q_lenT, q_isL_int, q_isL_bool, q_isL_str, q_isL_tuple, q_isL_list, q_isNL, q_inNL, q_isBL, q_lenL, q_isBN, q_lnS, q_trN, q_trB, q_trI, q_trT, q_trL, q_trS, q_tupL, q_tupT, q_lstL, q_lstT, q_addT, q_addL, q_addS, q_ixT, q_ixL, q_ixS, q_chD, q_at0, q_at1, q_at2, q_atN, q_slT, q_slL, q_slS, q_mulL, aft_some, aft_bind, aft_map, Option.bind_some, Option.map_some, List.getElem?_cons_zero, List.getElem?_cons_succ, List.set_cons_zero, List.set_cons_succ, PL.small64, smallI, Int.reduceAbs, Int.natAbs_natCast, Nat.reducePow, List.getD_cons_zero, List.getD_cons_succ, List.length_cons, List.length_nil, Nat.zero_add, Nat.reduceAdd, Nat.reduceEqDiff, if_true, if_false, ite_true, ite_false, Bool.false_eq_true, Bool.not_true, Bool.not_false, decide_true, decide_false, Bool.true_and, Bool.and_true, Bool.and_self, ne_eq, Nat.reduceLT, Nat.reduceLeDiff, Int.reduceLT, Int.reduceLE, Int.reduceToNat, Int.reduceNeg, rng_nI, enD_map0, zpD_map, chars_map, List.length_map, List.length_range, Int.reduceEq, not_false_eq_true, not_true_eq_false, reduceCtorEq, true_and, and_true, Int.toNat_natCast, Bool.not_eq_true, ek, q_rg1a _ (1 + k) _ (by omega), e1, c1, c2, nuD_rev, nuD_len, d1]
    refine aft_same ?_ rfl ?_
    · simp only [D.tup.injEq, List.cons.injEq, D.int.injEq, and_true]; omega
    · exact ⟨w', rfl⟩
theorem main_law (ns : List Int) (h : ns.length ≤ 63) : m_law [.lst (ns.map .int)] = some (.bl true) := by
  apply of_aft
  rw [eq_law]
  have em : max (2 : Int) (min ((ns.length : Nat) : Int) 3) = ((max 2 (min ns.length 3) : Nat) : Int) := by omega
  simp only [b_law, q_var, q_var1, q_var2, q_pk, q_pk1, q_pk2, q_pk3, q_ol, q_ol1, q_ol2, q_pl, q_pl1, q_pl2, q_od, q_od1, q_od2, q_pd, q_pd1, q_pd2, q_fr, q_fr1, q_fr2, q_fr3, q_fr4, q_set1, q_gN, q_gsN, q_gsC, q_gT, q_kK, q_gIx, q_gIx1, q_c, q_cons, q_A0, q_A1, q_A2, q_A3, q_A4, q_A5, q_R, q_app, q_app1, q_L0, q_L1, q_L2, q_tup, q_tup1, q_lst, q_lst1, q_Br, q_tB, q_tB1, q_tTr, q_tTr1, q_tNo, q_tNo1, q_tAn, q_tAn1, q_tAn2, q_tOr, q_tOr1, q_tOr2, q_tT, q_eIf, q_sIf, q_if1, q_if2, q_eOr, q_eOr1, q_eOr2, q_eOr3, q_eAn, q_eAn1, q_eAn2, q_eAn3, q_Nt2, q_eNt, q_eNt1, q_ch, q_ch1, q_ch2, q_ch3, q_ch4, q_ch5, q_sl, q_sl1, q_sl2, q_sl3, q_slb, q_slb1, q_slb2, q_slb3, q_oNo, q_oSo, q_oSo1, q_I2, q_iOf, q_iOf1, q_it1, q_it2, q_it3, q_R1, q_R1a, q_R1b, q_R2, q_R2a, q_R2b, q_En2, q_En, q_En1, q_Zp, q_Zp1, q_Zp2, q_Zp3, q_Zp4, q_Lc, q_Lc1, q_Lc2, q_Lc3, q_w0, q_w1, q_w2, q_call, q_call0, q_call1, q_call2, q_call3, q_call4, q_call5, q_cB, q_cB1, q_cB2, q_cB3, q_cB4, q_len, q_lenI, q_lenB, q_lenS, q_lenN, q_cK, q_cKn, q_pm0, q_pm1, q_C0, q_C1, q_C2, q_C3, q_C4, q_C5, q_C6, q_nd, q_ci, q_ci1, q_ci2, q_is0, q_is1, q_is2, q_is3, q_nd0, q_nd1, q_nd2, q_po0, q_po1, q_po2, q_po3, q_rev, q_rev1, q_rev2, q_rev3, q_rg1, q_rg1a, q_rg1b, q_jn, q_jn1, q_jn2, q_bi, q_bi1, q_ap, q_ap1, q_ap2, q_pa, q_pa1, q_pa2, q_pp, q_pp1, q_in, q_in1, q_in2, q_in3, q_nop, q_sq, q_sq1, q_sq2, q_sq3, q_sq4, q_dr, q_dr1, q_rF, q_rF1, q_rt, q_rt1, q_rN, q_rO, q_rO1, q_rO2, q_m1, q_m2, q_m3, q_m4, q_m5, q_m6, q_Nx, q_as, q_as1, q_ow, q_ow1, q_mo1, q_mo2, q_mo3, q_mo4, q_mo5, q_mo6, q_so1, q_so2, q_p2, q_p2a, q_p2b, q_p3, q_p3a, q_p3b, q_p3c, q_for, q_for1, q_wh, q_bk, q_ct, q_kP, q_ro1, q_ro2, q_ro3, q_kF, q_kF2, q_os0, q_os1, q_os2, q_n1, q_n2, q_n3, q_n4, q_lk1, q_lk2, q_lm1, q_lf1, q_lf2, q_li1, q_li2, q_le1, q_addI, q_subI, q_mulI1, q_mulI2, q_fdI, q_mdI, q_negI, q_absI, q_intI, q_intB, q_maxI, q_minI, q_dmI, q_ltI, q_leI, q_gtI, q_geI, q_ltS, q_leS, q_gtS, q_geS, q_eqI, q_neI, q_eqS, q_neS, q_eqB, q_neB, q_isN_int, q_isN_bool, q_isN_str, q_isN_tuple, q_isN_list, q_isNN, q_inNN, q_isB_int, q_isB_bool, q_isB_str, q_isB_tuple, q_isB_list, q_isNB, q_inNB, q_isBB, q_isI_int, q_isI_bool, q_isI_str, q_isI_tuple, q_isI_list, q_isNI, q_inNI, q_isBI, q_isS_int, q_isS_bool, q_isS_str, q_isS_tuple, q_isS_list, q_isNS, q_inNS, q_isBS, q_isT_int, q_isT_bool, q_isT_str, q_isT_tuple, q_isT_list, q_isNT, q_inNT, q_isBT, q_lenT, q_isL_int, q_isL_bool, q_isL_str, q_isL_tuple, q_isL_list, q_isNL, q_inNL, q_isBL, q_lenL, q_isBN, q_lnS, q_trN, q_trB, q_trI, q_trT, q_trL, q_trS, q_tupL, q_tupT, q_lstL, q_lstT, q_addT, q_addL, q_addS, q_ixT, q_ixL, q_ixS, q_chD, q_at0, q_at1, q_at2, q_atN, q_slT, q_slL, q_slS, q_mulL, aft_some, aft_bind, aft_map, Option.bind_some, Option.map_some, List.getElem?_cons_zero, List.getElem?_cons_succ, List.set_cons_zero, List.set_cons_succ, PL.small64, smallI, Int.reduceAbs, Int.natAbs_natCast, Nat.reducePow, List.getD_cons_zero, List.getD_cons_succ, List.length_cons, List.length_nil, Nat.zero_add, Nat.reduceAdd, Nat.reduceEqDiff, if_true, if_false, ite_true, ite_false, Bool.false_eq_true, Bool.not_true, Bool.not_false, decide_true, decide_false, Bool.true_and, Bool.and_true, Bool.and_self, ne_eq, Nat.reduceLT, Nat.reduceLeDiff, Int.reduceLT, Int.reduceLE, Int.reduceToNat, Int.reduceNeg, rng_nI, enD_map0, zpD_map, chars_map, List.length_map, List.length_range, Int.reduceEq, not_false_eq_true, not_true_eq_false, reduceCtorEq, true_and, and_true, Int.toNat_natCast, Bool.not_eq_true, em, q_R1a (max 2 (min ns.length 3)) _ (by omega)]
  refine aft_cm (f := nI) (h := D.bl) (fun _ => true) (by rw [List.length_range]; omega) rfl (fun t ht => ?_) ?_
  · rw [List.mem_range] at ht
    obtain ⟨w, hwell, hw⟩ := well_ok ns t h (by omega)
    obtain ⟨a, b, c, rfl, _⟩ := id hw
    obtain ⟨w', hr⟩ := round_ok hw
    simp only [q_var, q_var1, q_var2, q_pk, q_pk1, q_pk2, q_pk3, q_ol, q_ol1, q_ol2, q_pl, q_pl1, q_pl2, q_od, q_od1, q_od2, q_pd, q_pd1, q_pd2, q_fr, q_fr1, q_fr2, q_fr3, q_fr4, q_set1, q_gN, q_gsN, q_gsC, q_gT, q_kK, q_gIx, q_gIx1, q_c, q_cons, q_A0, q_A1, q_A2, q_A3, q_A4, q_A5, q_R, q_app, q_app1, q_L0, q_L1, q_L2, q_tup, q_tup1, q_lst, q_lst1, q_Br, q_tB, q_tB1, q_tTr, q_tTr1, q_tNo, q_tNo1, q_tAn, q_tAn1, q_tAn2, q_tOr, q_tOr1, q_tOr2, q_tT, q_eIf, q_sIf, q_if1, q_if2, q_eOr, q_eOr1, q_eOr2, q_eOr3, q_eAn, q_eAn1, q_eAn2, q_eAn3, q_Nt2, q_eNt, q_eNt1, q_ch, q_ch1, q_ch2, q_ch3, q_ch4, q_ch5, q_sl, q_sl1, q_sl2, q_sl3, q_slb, q_slb1, q_slb2, q_slb3, q_oNo, q_oSo, q_oSo1, q_I2, q_iOf, q_iOf1, q_it1, q_it2, q_it3, q_R1, q_R1a, q_R1b, q_R2, q_R2a, q_R2b, q_En2, q_En, q_En1, q_Zp, q_Zp1, q_Zp2, q_Zp3, q_Zp4, q_Lc, q_Lc1, q_Lc2, q_Lc3, q_w0, q_w1, q_w2, q_call, q_call0, q_call1, q_call2, q_call3, q_call4, q_call5, q_cB, q_cB1, q_cB2, q_cB3, q_cB4, q_len, q_lenI, q_lenB, q_lenS, q_lenN, q_cK, q_cKn, q_pm0, q_pm1, q_C0, q_C1, q_C2, q_C3, q_C4, q_C5, q_C6, q_nd, q_ci, q_ci1, q_ci2, q_is0, q_is1, q_is2, q_is3, q_nd0, q_nd1, q_nd2, q_po0, q_po1, q_po2, q_po3, q_rev, q_rev1, q_rev2, q_rev3, q_rg1, q_rg1a, q_rg1b, q_jn, q_jn1, q_jn2, q_bi, q_bi1, q_ap, q_ap1, q_ap2, q_pa, q_pa1, q_pa2, q_pp, q_pp1, q_in, q_in1, q_in2, q_in3, q_nop, q_sq, q_sq1, q_sq2, q_sq3, q_sq4, q_dr, q_dr1, q_rF, q_rF1, q_rt, q_rt1, q_rN, q_rO, q_rO1, q_rO2, q_m1, q_m2, q_m3, q_m4, q_m5, q_m6, q_Nx, q_as, q_as1, q_ow, q_ow1, q_mo1, q_mo2, q_mo3, q_mo4, q_mo5, q_mo6, q_so1, q_so2, q_p2, q_p2a, q_p2b, q_p3, q_p3a, q_p3b, q_p3c, q_for, q_for1, q_wh, q_bk, q_ct, q_kP, q_ro1, q_ro2, q_ro3, q_kF, q_kF2, q_os0, q_os1, q_os2, q_n1, q_n2, q_n3, q_n4, q_lk1, q_lk2, q_lm1, q_lf1, q_lf2, q_li1, q_li2, q_le1, q_addI, q_subI, q_mulI1, q_mulI2, q_fdI, q_mdI, q_negI, q_absI, q_intI, q_intB, q_maxI, q_minI, q_dmI, q_ltI, q_leI, q_gtI, q_geI, q_ltS, q_leS, q_gtS, q_geS, q_eqI, q_neI, q_eqS, q_neS, q_eqB, q_neB, q_isN_int, q_isN_bool, q_isN_str, q_isN_tuple, q_isN_list, q_isNN, q_inNN, q_isB_int, q_isB_bool, q_isB_str, q_isB_tuple, q_isB_list, q_isNB, q_inNB, q_isBB, q_isI_int, q_isI_bool, q_isI_str, q_isI_tuple, q_isI_list, q_isNI, q_inNI, q_isBI, q_isS_int, q_isS_bool, q_isS_str, q_isS_tuple, q_isS_list, q_isNS, q_inNS, q_isBS, q_isT_int, q_isT_bool, q_isT_str, q_isT_tuple, q_isT_list, q_isNT, q_inNT, q_isBT, q_lenT, q_isL_int, q_isL_bool, q_isL_str, q_isL_tuple, q_isL_list, q_isNL, q_inNL, q_isBL, q_lenL, q_isBN, q_lnS, q_trN, q_trB, q_trI, q_trT, q_trL, q_trS, q_tupL, q_tupT, q_lstL, q_lstT, q_addT, q_addL, q_addS, q_ixT, q_ixL, q_ixS, q_chD, q_at0, q_at1, q_at2, q_atN, q_slT, q_slL, q_slS, q_mulL, aft_some, aft_bind, aft_map, Option.bind_some, Option.map_some, List.getElem?_cons_zero, List.getElem?_cons_succ, List.set_cons_zero, List.set_cons_succ, PL.small64, smallI, Int.reduceAbs, Int.natAbs_natCast, Nat.reducePow, List.getD_cons_zero, List.getD_cons_succ, List.length_cons, List.length_nil, Nat.zero_add, Nat.reduceAdd, Nat.reduceEqDiff, if_true, if_false, ite_true, ite_false, Bool.false_eq_true, Bool.not_true, Bool.not_false, decide_true, decide_false, Bool.true_and, Bool.and_true, Bool.and_self, ne_eq, Nat.reduceLT, Nat.reduceLeDiff, Int.reduceLT, Int.reduceLE, Int.reduceToNat, Int.reduceNeg, rng_nI, enD_map0, zpD_map, chars_map, List.length_map, List.length_range, Int.reduceEq, not_false_eq_true, not_true_eq_false, reduceCtorEq, true_and, and_true, Int.toNat_natCast, Bool.not_eq_true, nI, hwell, hr]
  · simp only [q_var, q_var1, q_var2, q_pk, q_pk1, q_pk2, q_pk3, q_ol, q_ol1, q_ol2, q_pl, q_pl1, q_pl2, q_od, q_od1, q_od2, q_pd, q_pd1, q_pd2, q_fr, q_fr1, q_fr2, q_fr3, q_fr4, q_set1, q_gN, q_gsN, q_gsC, q_gT, q_kK, q_gIx, q_gIx1, q_c, q_cons, q_A0, q_A1, q_A2, q_A3, q_A4, q_A5, q_R, q_app, q_app1, q_L0, q_L1, q_L2, q_tup, q_tup1, q_lst, q_lst1, q_Br, q_tB, q_tB1, q_tTr, q_tTr1, q_tNo, q_tNo1, q_tAn, q_tAn1, q_tAn2, q_tOr, q_tOr1, q_tOr2, q_tT, q_eIf, q_sIf, q_if1, q_if2, q_eOr, q_eOr1, q_eOr2, q_eOr3, q_eAn, q_eAn1, q_eAn2, q_eAn3, q_Nt2, q_eNt, q_eNt1, q_ch, q_ch1, q_ch2, q_ch3, q_ch4, q_ch5, q_sl, q_sl1, q_sl2, q_sl3, q_slb, q_slb1, q_slb2, q_slb3, q_oNo, q_oSo, q_oSo1, q_I2, q_iOf, q_iOf1, q_it1, q_it2, q_it3, q_R1, q_R1a, q_R1b, q_R2, q_R2a, q_R2b, q_En2, q_En, q_En1, q_Zp, q_Zp1, q_Zp2, q_Zp3, q_Zp4, q_Lc, q_Lc1, q_Lc2, q_Lc3, q_w0, q_w1, q_w2, q_call, q_call0, q_call1, q_call2, q_call3, q_call4, q_call5, q_cB, q_cB1, q_cB2, q_cB3, q_cB4, q_len, q_lenI, q_lenB, q_lenS, q_lenN, q_cK, q_cKn, q_pm0, q_pm1, q_C0, q_C1, q_C2, q_C3, q_C4, q_C5, q_C6, q_nd, q_ci, q_ci1, q_ci2, q_is0, q_is1, q_is2, q_is3, q_nd0, q_nd1, q_nd2, q_po0, q_po1, q_po2, q_po3, q_rev, q_rev1, q_rev2, q_rev3, q_rg1, q_rg1a, q_rg1b, q_jn, q_jn1, q_jn2, q_bi, q_bi1, q_ap, q_ap1, q_ap2, q_pa, q_pa1, q_pa2, q_pp, q_pp1, q_in, q_in1, q_in2, q_in3, q_nop, q_sq, q_sq1, q_sq2, q_sq3, q_sq4, q_dr, q_dr1, q_rF, q_rF1, q_rt, q_rt1, q_rN, q_rO, q_rO1, q_rO2, q_m1, q_m2, q_m3, q_m4, q_m5, q_m6, q_Nx, q_as, q_as1, q_ow, q_ow1, q_mo1, q_mo2, q_mo3, q_mo4, q_mo5, q_mo6, q_so1, q_so2, q_p2, q_p2a, q_p2b, q_p3, q_p3a, q_p3b, q_p3c, q_for, q_for1, q_wh, q_bk, q_ct, q_kP, q_ro1, q_ro2, q_ro3, q_kF, q_kF2, q_os0, q_os1, q_os2, q_n1, q_n2, q_n3, q_n4, q_lk1, q_lk2, q_lm1, q_lf1, q_lf2, q_li1, q_li2, q_le1, q_addI, q_subI, q_mulI1, q_mulI2, q_fdI, q_mdI, q_negI, q_absI, q_intI, q_intB, q_maxI, q_minI, q_dmI, q_ltI, q_leI, q_gtI, q_geI, q_ltS, q_leS, q_gtS, q_geS, q_eqI, q_neI, q_eqS, q_neS, q_eqB, q_neB, q_isN_int, q_isN_bool, q_isN_str, q_isN_tuple, q_isN_list, q_isNN, q_inNN, q_isB_int, q_isB_bool, q_isB_str, q_isB_tuple, q_isB_list, q_isNB, q_inNB, q_isBB, q_isI_int, q_isI_bool, q_isI_str, q_isI_tuple, q_isI_list, q_isNI, q_inNI, q_isBI, q_isS_int, q_isS_bool, q_isS_str, q_isS_tuple, q_isS_list, q_isNS, q_inNS, q_isBS, q_isT_int, q_isT_bool, q_isT_str, q_isT_tuple, q_isT_list, q_isNT, q_inNT, q_isBT, q_lenT, q_isL_int, q_isL_bool, q_isL_str, q_isL_tuple, q_isL_list, q_isNL, q_inNL, q_isBL, q_lenL, q_isBN, q_lnS, q_trN, q_trB, q_trI, q_trT, q_trL, q_trS, q_tupL, q_tupT, q_lstL, q_lstT, q_addT, q_addL, q_addS, q_ixT, q_ixL, q_ixS, q_chD, q_at0, q_at1, q_at2, q_atN, q_slT, q_slL, q_slS, q_mulL, aft_some, aft_bind, aft_map, Option.bind_some, Option.map_some, List.getElem?_cons_zero, List.getElem?_cons_succ, List.set_cons_zero, List.set_cons_succ, PL.small64, smallI, Int.reduceAbs, Int.natAbs_natCast, Nat.reducePow, List.getD_cons_zero, List.getD_cons_succ, List.length_cons, List.length_nil, Nat.zero_add, Nat.reduceAdd, Nat.reduceEqDiff, if_true, if_false, ite_true, ite_false, Bool.false_eq_true, Bool.not_true, Bool.not_false, decide_true, decide_false, Bool.true_and, Bool.and_true, Bool.and_self, ne_eq, Nat.reduceLT, Nat.reduceLeDiff, Int.reduceLT, Int.reduceLE, Int.reduceToNat, Int.reduceNeg, rng_nI, enD_map0, zpD_map, chars_map, List.length_map, List.length_range, Int.reduceEq, not_false_eq_true, not_true_eq_false, reduceCtorEq, true_and, and_true, Int.toNat_natCast, Bool.not_eq_true, allB, List.map_const', List.all_replicate]
    split <;> rfl
end K15
end

section

end

section
set_option maxRecDepth 100000
set_option maxHeartbeats 4000000
namespace K15
open PySem PySem.Spec PyProof.Rows L2 PL

theorem all_mk {l : PySem.W.OpenLaw} {w : World} {K : PySem.W.Frag} {h : Heap} {mg : Str → Option Value} {fa : Addr} (X : K.In h) (G : h.Ns mainGlobals mg) (hfa : mg "law" = some (.ref fa))
    {f0 : Addr} {od0 an0 : Option Addr} {sl0 : Array (Option Value)} {oc0 kV0 dc0 pm0 cd0 ct0 : Value}
    (a0 : PySem.W.nsIn K mainGlobals "_law_well" = some (some (.ref f0))) (l0 : K.lookup f0 = some ⟨oc0, od0, .func (PySem.W.fnOf "_law_well" "_law_well" (defArgs s__law_well) (defBody s__law_well) (defScope s__law_well) .none kV0 dc0 pm0 an0 cd0 ct0), sl0⟩) (c0 : PySem.W.codeIn K cd0 "_law_well" = true) (k0 : PySem.W.keepIn K (.ref f0) = true)
    {f1 : Addr} {od1 an1 : Option Addr} {sl1 : Array (Option Value)} {oc1 kV1 dc1 pm1 cd1 ct1 : Value}
    (a1 : PySem.W.nsIn K mainGlobals "is_whole" = some (some (.ref f1))) (l1 : K.lookup f1 = some ⟨oc1, od1, .func (PySem.W.fnOf "is_whole" "is_whole" (defArgs s_is_whole) (defBody s_is_whole) (defScope s_is_whole) .none kV1 dc1 pm1 an1 cd1 ct1), sl1⟩) (c1 : PySem.W.codeIn K cd1 "is_whole" = true) (k1 : PySem.W.keepIn K (.ref f1) = true)
    {f2 : Addr} {od2 an2 : Option Addr} {sl2 : Array (Option Value)} {oc2 kV2 dc2 pm2 cd2 ct2 : Value}
    (a2 : PySem.W.nsIn K mainGlobals "is_between" = some (some (.ref f2))) (l2 : K.lookup f2 = some ⟨oc2, od2, .func (PySem.W.fnOf "is_between" "is_between" (defArgs s_is_between) (defBody s_is_between) (defScope s_is_between) .none kV2 dc2 pm2 an2 cd2 ct2), sl2⟩) (c2 : PySem.W.codeIn K cd2 "is_between" = true) (k2 : PySem.W.keepIn K (.ref f2) = true)
    {f3 : Addr} {od3 an3 : Option Addr} {sl3 : Array (Option Value)} {oc3 kV3 dc3 pm3 cd3 ct3 : Value}
    (a3 : PySem.W.nsIn K mainGlobals "first_wrong_place" = some (some (.ref f3))) (l3 : K.lookup f3 = some ⟨oc3, od3, .func (PySem.W.fnOf "first_wrong_place" "first_wrong_place" (defArgs s_first_wrong_place) (defBody s_first_wrong_place) (defScope s_first_wrong_place) .none kV3 dc3 pm3 an3 cd3 ct3), sl3⟩) (c3 : PySem.W.codeIn K cd3 "first_wrong_place" = true) (k3 : PySem.W.keepIn K (.ref f3) = true)
    {f4 : Addr} {od4 an4 : Option Addr} {sl4 : Array (Option Value)} {oc4 kV4 dc4 pm4 cd4 ct4 : Value}
    (a4 : PySem.W.nsIn K mainGlobals "check_order_of" = some (some (.ref f4))) (l4 : K.lookup f4 = some ⟨oc4, od4, .func (PySem.W.fnOf "check_order_of" "check_order_of" (defArgs s_check_order_of) (defBody s_check_order_of) (defScope s_check_order_of) .none kV4 dc4 pm4 an4 cd4 ct4), sl4⟩) (c4 : PySem.W.codeIn K cd4 "check_order_of" = true) (k4 : PySem.W.keepIn K (.ref f4) = true)
    {f5 : Addr} {od5 an5 : Option Addr} {sl5 : Array (Option Value)} {oc5 kV5 dc5 pm5 cd5 ct5 : Value}
    (a5 : PySem.W.nsIn K mainGlobals "check_order" = some (some (.ref f5))) (l5 : K.lookup f5 = some ⟨oc5, od5, .func (PySem.W.fnOf "check_order" "check_order" (defArgs s_check_order) (defBody s_check_order) (defScope s_check_order) .none kV5 dc5 pm5 an5 cd5 ct5), sl5⟩) (c5 : PySem.W.codeIn K cd5 "check_order" = true) (k5 : PySem.W.keepIn K (.ref f5) = true)
    {f6 : Addr} {od6 an6 : Option Addr} {sl6 : Array (Option Value)} {oc6 kV6 dc6 pm6 cd6 ct6 : Value}
    (a6 : PySem.W.nsIn K mainGlobals "runs_by" = some (some (.ref f6))) (l6 : K.lookup f6 = some ⟨oc6, od6, .func (PySem.W.fnOf "runs_by" "runs_by" (defArgs s_runs_by) (defBody s_runs_by) (defScope s_runs_by) .none kV6 dc6 pm6 an6 cd6 ct6), sl6⟩) (c6 : PySem.W.codeIn K cd6 "runs_by" = true) (k6 : PySem.W.keepIn K (.ref f6) = true)
    {f7 : Addr} {od7 an7 : Option Addr} {sl7 : Array (Option Value)} {oc7 kV7 dc7 pm7 cd7 ct7 : Value}
    (a7 : PySem.W.nsIn K mainGlobals "run_count_by" = some (some (.ref f7))) (l7 : K.lookup f7 = some ⟨oc7, od7, .func (PySem.W.fnOf "run_count_by" "run_count_by" (defArgs s_run_count_by) (defBody s_run_count_by) (defScope s_run_count_by) .none kV7 dc7 pm7 an7 cd7 ct7), sl7⟩) (c7 : PySem.W.codeIn K cd7 "run_count_by" = true) (k7 : PySem.W.keepIn K (.ref f7) = true)
    {f8 : Addr} {od8 an8 : Option Addr} {sl8 : Array (Option Value)} {oc8 kV8 dc8 pm8 cd8 ct8 : Value}
    (a8 : PySem.W.nsIn K mainGlobals "run_count" = some (some (.ref f8))) (l8 : K.lookup f8 = some ⟨oc8, od8, .func (PySem.W.fnOf "run_count" "run_count" (defArgs s_run_count) (defBody s_run_count) (defScope s_run_count) .none kV8 dc8 pm8 an8 cd8 ct8), sl8⟩) (c8 : PySem.W.codeIn K cd8 "run_count" = true) (k8 : PySem.W.keepIn K (.ref f8) = true)
    {f9 : Addr} {od9 an9 : Option Addr} {sl9 : Array (Option Value)} {oc9 kV9 dc9 pm9 cd9 ct9 : Value}
    (a9 : PySem.W.nsIn K mainGlobals "_law_take" = some (some (.ref f9))) (l9 : K.lookup f9 = some ⟨oc9, od9, .func (PySem.W.fnOf "_law_take" "_law_take" (defArgs s__law_take) (defBody s__law_take) (defScope s__law_take) .none kV9 dc9 pm9 an9 cd9 ct9), sl9⟩) (c9 : PySem.W.codeIn K cd9 "_law_take" = true) (k9 : PySem.W.keepIn K (.ref f9) = true)
    {f10 : Addr} {od10 an10 : Option Addr} {sl10 : Array (Option Value)} {oc10 kV10 dc10 pm10 cd10 ct10 : Value}
    (a10 : PySem.W.nsIn K mainGlobals "_law_same" = some (some (.ref f10))) (l10 : K.lookup f10 = some ⟨oc10, od10, .func (PySem.W.fnOf "_law_same" "_law_same" (defArgs s__law_same) (defBody s__law_same) (defScope s__law_same) .none kV10 dc10 pm10 an10 cd10 ct10), sl10⟩) (c10 : PySem.W.codeIn K cd10 "_law_same" = true) (k10 : PySem.W.keepIn K (.ref f10) = true)
    {f11 : Addr} {od11 an11 : Option Addr} {sl11 : Array (Option Value)} {oc11 kV11 dc11 pm11 cd11 ct11 : Value}
    (a11 : PySem.W.nsIn K mainGlobals "_law_order" = some (some (.ref f11))) (l11 : K.lookup f11 = some ⟨oc11, od11, .func (PySem.W.fnOf "_law_order" "_law_order" (defArgs s__law_order) (defBody s__law_order) (defScope s__law_order) .none kV11 dc11 pm11 an11 cd11 ct11), sl11⟩) (c11 : PySem.W.codeIn K cd11 "_law_order" = true) (k11 : PySem.W.keepIn K (.ref f11) = true)
    {f12 : Addr} {od12 an12 : Option Addr} {sl12 : Array (Option Value)} {oc12 kV12 dc12 pm12 cd12 ct12 : Value}
    (a12 : PySem.W.nsIn K mainGlobals "new_holes_by" = some (some (.ref f12))) (l12 : K.lookup f12 = some ⟨oc12, od12, .func (PySem.W.fnOf "new_holes_by" "new_holes_by" (defArgs s_new_holes_by) (defBody s_new_holes_by) (defScope s_new_holes_by) .none kV12 dc12 pm12 an12 cd12 ct12), sl12⟩) (c12 : PySem.W.codeIn K cd12 "new_holes_by" = true) (k12 : PySem.W.keepIn K (.ref f12) = true)
    {f13 : Addr} {od13 an13 : Option Addr} {sl13 : Array (Option Value)} {oc13 kV13 dc13 pm13 cd13 ct13 : Value}
    (a13 : PySem.W.nsIn K mainGlobals "new_holes" = some (some (.ref f13))) (l13 : K.lookup f13 = some ⟨oc13, od13, .func (PySem.W.fnOf "new_holes" "new_holes" (defArgs s_new_holes) (defBody s_new_holes) (defScope s_new_holes) .none kV13 dc13 pm13 an13 cd13 ct13), sl13⟩) (c13 : PySem.W.codeIn K cd13 "new_holes" = true) (k13 : PySem.W.keepIn K (.ref f13) = true)
    {f14 : Addr} {od14 an14 : Option Addr} {sl14 : Array (Option Value)} {oc14 kV14 dc14 pm14 cd14 ct14 : Value}
    (a14 : PySem.W.nsIn K mainGlobals "_law_runs" = some (some (.ref f14))) (l14 : K.lookup f14 = some ⟨oc14, od14, .func (PySem.W.fnOf "_law_runs" "_law_runs" (defArgs s__law_runs) (defBody s__law_runs) (defScope s__law_runs) .none kV14 dc14 pm14 an14 cd14 ct14), sl14⟩) (c14 : PySem.W.codeIn K cd14 "_law_runs" = true) (k14 : PySem.W.keepIn K (.ref f14) = true)
    {f15 : Addr} {od15 an15 : Option Addr} {sl15 : Array (Option Value)} {oc15 kV15 dc15 pm15 cd15 ct15 : Value}
    (a15 : PySem.W.nsIn K mainGlobals "_law_order_right" = some (some (.ref f15))) (l15 : K.lookup f15 = some ⟨oc15, od15, .func (PySem.W.fnOf "_law_order_right" "_law_order_right" (defArgs s__law_order_right) (defBody s__law_order_right) (defScope s__law_order_right) .none kV15 dc15 pm15 an15 cd15 ct15), sl15⟩) (c15 : PySem.W.codeIn K cd15 "_law_order_right" = true) (k15 : PySem.W.keepIn K (.ref f15) = true)
    {f16 : Addr} {od16 an16 : Option Addr} {sl16 : Array (Option Value)} {oc16 kV16 dc16 pm16 cd16 ct16 : Value}
    (a16 : PySem.W.nsIn K mainGlobals "_law_two_right" = some (some (.ref f16))) (l16 : K.lookup f16 = some ⟨oc16, od16, .func (PySem.W.fnOf "_law_two_right" "_law_two_right" (defArgs s__law_two_right) (defBody s__law_two_right) (defScope s__law_two_right) .none kV16 dc16 pm16 an16 cd16 ct16), sl16⟩) (c16 : PySem.W.codeIn K cd16 "_law_two_right" = true) (k16 : PySem.W.keepIn K (.ref f16) = true)
    {f17 : Addr} {od17 an17 : Option Addr} {sl17 : Array (Option Value)} {oc17 kV17 dc17 pm17 cd17 ct17 : Value}
    (a17 : PySem.W.nsIn K mainGlobals "_law_round" = some (some (.ref f17))) (l17 : K.lookup f17 = some ⟨oc17, od17, .func (PySem.W.fnOf "_law_round" "_law_round" (defArgs s__law_round) (defBody s__law_round) (defScope s__law_round) .none kV17 dc17 pm17 an17 cd17 ct17), sl17⟩) (c17 : PySem.W.codeIn K cd17 "_law_round" = true) (k17 : PySem.W.keepIn K (.ref f17) = true)
    {f18 : Addr} {od18 an18 : Option Addr} {sl18 : Array (Option Value)} {oc18 kV18 dc18 pm18 cd18 ct18 : Value}
    (a18 : PySem.W.nsIn K mainGlobals "law" = some (some (.ref f18))) (l18 : K.lookup f18 = some ⟨oc18, od18, .func (PySem.W.fnOf "law" "law" (defArgs s_law) (defBody s_law) (defScope s_law) .none kV18 dc18 pm18 an18 cd18 ct18), sl18⟩) (c18 : PySem.W.codeIn K cd18 "law" = true) (k18 : PySem.W.keepIn K (.ref f18) = true)
    (z_abs : PySem.W.nsIn K mainGlobals "abs" = some none)
    (z_all : PySem.W.nsIn K mainGlobals "all" = some none)
    (z_bool : PySem.W.nsIn K mainGlobals "bool" = some none)
    (z_divmod : PySem.W.nsIn K mainGlobals "divmod" = some none)
    (z_enumerate : PySem.W.nsIn K mainGlobals "enumerate" = some none)
    (z_int : PySem.W.nsIn K mainGlobals "int" = some none)
    (z_isinstance : PySem.W.nsIn K mainGlobals "isinstance" = some none)
    (z_len : PySem.W.nsIn K mainGlobals "len" = some none)
    (z_list : PySem.W.nsIn K mainGlobals "list" = some none)
    (z_max : PySem.W.nsIn K mainGlobals "max" = some none)
    (z_min : PySem.W.nsIn K mainGlobals "min" = some none)
    (z_range : PySem.W.nsIn K mainGlobals "range" = some none)
    (z_str : PySem.W.nsIn K mainGlobals "str" = some none)
    (z_sum : PySem.W.nsIn K mainGlobals "sum" = some none)
    (z_tuple : PySem.W.nsIn K mainGlobals "tuple" = some none)
    (z_zip : PySem.W.nsIn K mainGlobals "zip" = some none)
    {t_MOST_CARDS : Tok} (g_MOST_CARDS : PySem.W.nsIn K mainGlobals "MOST_CARDS" = some (some (.int 40 t_MOST_CARDS)))
    {t_NOTCHED : Tok} (g_NOTCHED : PySem.W.nsIn K mainGlobals "NOTCHED" = some (some (.str (PySem.Str.ofString "v") t_NOTCHED)))
    {t_WHOLE : Tok} (g_WHOLE : PySem.W.nsIn K mainGlobals "WHOLE" = some (some (.str (PySem.Str.ofString "o") t_WHOLE))) :
    ∃ fd : FuncData, (∀ (s : Shared) (v : Value), BindsTo s fd ⟨[v], []⟩ [("script", v)]) ∧ ∀ base : Heap, K.In base → base.Ns mainGlobals mg → FnOk l.prog w K mg base CX0 12 fa fd ["script"] (spF K 1 true m_law) := by
  have e := hfa.symm.trans (PySem.W.mg_of X G a18)
  cases e
  have h_abs := PySem.W.mg_none_of X G z_abs
  have h_all := PySem.W.mg_none_of X G z_all
  have h_bool := PySem.W.mg_none_of X G z_bool
  have h_divmod := PySem.W.mg_none_of X G z_divmod
  have h_enumerate := PySem.W.mg_none_of X G z_enumerate
  have h_int := PySem.W.mg_none_of X G z_int
  have h_isinstance := PySem.W.mg_none_of X G z_isinstance
  have h_len := PySem.W.mg_none_of X G z_len
  have h_list := PySem.W.mg_none_of X G z_list
  have h_max := PySem.W.mg_none_of X G z_max
  have h_min := PySem.W.mg_none_of X G z_min
  have h_range := PySem.W.mg_none_of X G z_range
  have h_str := PySem.W.mg_none_of X G z_str
  have h_sum := PySem.W.mg_none_of X G z_sum
  have h_tuple := PySem.W.mg_none_of X G z_tuple
  have h_zip := PySem.W.mg_none_of X G z_zip
  have h_MOST_CARDS := glob_of (v := .int 40) (d := .int (40)) X G g_MOST_CARDS ⟨_, rfl⟩ (fun _ _ => .int _)
  have h_NOTCHED := glob_of (v := .str (PySem.Str.ofString "v")) (d := .str [118]) X G g_NOTCHED ⟨_, rfl⟩ (fun _ _ => .strEq rfl)
  have h_WHOLE := glob_of (v := .str (PySem.Str.ofString "o")) (d := .str [111]) X G g_WHOLE ⟨_, rfl⟩ (fun _ _ => .strEq rfl)
  have F__law_well := fun_mk (st := s__law_well) l0 c0 k0
  have C__law_well : ∀ base : Heap, Callee l.prog w K mg base "_law_well" 1 ["script", "turn"] [] (spF K 2 true m__law_well) := fun base => Callee.of F__law_well (PySem.W.mg_of X G a0) (ok__law_well F__law_well h_abs h_int h_len h_sum) (fun _ _ _ _ _ _ us hl => match us, hl with | [_, _], _ => rfl)
  have F_is_whole := fun_mk (st := s_is_whole) l1 c1 k1
  have C_is_whole : ∀ base : Heap, Callee l.prog w K mg base "is_whole" 1 ["value"] [] (spF K 1 true m_is_whole) := fun base => Callee.of F_is_whole (PySem.W.mg_of X G a1) (ok_is_whole F_is_whole h_bool h_int h_isinstance) (fun _ _ _ _ _ _ us hl => match us, hl with | [_], _ => rfl)
  have F_is_between := fun_mk (st := s_is_between) l2 c2 k2
  have C_is_between : ∀ base : Heap, Callee l.prog w K mg base "is_between" 2 ["value", "low", "high"] [] (spF K 3 true m_is_between) := fun base => Callee.of F_is_between (PySem.W.mg_of X G a2) (ok_is_between F_is_between (C_is_whole base)) (fun _ _ _ _ _ _ us hl => match us, hl with | [_, _, _], _ => rfl)
  have F_first_wrong_place := fun_mk (st := s_first_wrong_place) l3 c3 k3
  have C_first_wrong_place : ∀ base : Heap, Callee l.prog w K mg base "first_wrong_place" 3 ["many", "value"] [] (spF K 2 true m_first_wrong_place) := fun base => Callee.of F_first_wrong_place (PySem.W.mg_of X G a3) (ok_first_wrong_place F_first_wrong_place h_enumerate h_len (C_is_between base)) (fun _ _ _ _ _ _ us hl => match us, hl with | [_, _], _ => rfl)
  have F_check_order_of := fun_mk (st := s_check_order_of) l4 c4 k4
  have C_check_order_of : ∀ base : Heap, Callee l.prog w K mg base "check_order_of" 4 ["many", "order"] [] (spF K 2 true m_check_order_of) := fun base => Callee.of F_check_order_of (PySem.W.mg_of X G a4) (ok_check_order_of F_check_order_of h_isinstance h_tuple (C_first_wrong_place base)) (fun _ _ _ _ _ _ us hl => match us, hl with | [_, _], _ => rfl)
  have F_check_order := fun_mk (st := s_check_order) l5 c5 k5
  have C_check_order : ∀ base : Heap, Callee l.prog w K mg base "check_order" 5 ["order"] [] (spF K 1 true m_check_order) := fun base => Callee.of F_check_order (PySem.W.mg_of X G a5) (ok_check_order F_check_order h_isinstance h_len h_max h_min h_tuple h_MOST_CARDS (C_check_order_of base)) (fun _ _ _ _ _ _ us hl => match us, hl with | [_], _ => rfl)
  have F_runs_by := fun_mk (st := s_runs_by) l6 c6 k6
  have C_runs_by : ∀ base : Heap, Callee l.prog w K mg base "runs_by" 1 ["order"] [] (spF K 1 true m_runs_by) := fun base => Callee.of F_runs_by (PySem.W.mg_of X G a6) (ok_runs_by F_runs_by h_len h_zip) (fun _ _ _ _ _ _ us hl => match us, hl with | [_], _ => rfl)
  have F_run_count_by := fun_mk (st := s_run_count_by) l7 c7 k7
  have C_run_count_by : ∀ base : Heap, Callee l.prog w K mg base "run_count_by" 2 ["order"] [] (spF K 1 true m_run_count_by) := fun base => Callee.of F_run_count_by (PySem.W.mg_of X G a7) (ok_run_count_by F_run_count_by h_max (C_runs_by base)) (fun _ _ _ _ _ _ us hl => match us, hl with | [_], _ => rfl)
  have F_run_count := fun_mk (st := s_run_count) l8 c8 k8
  have C_run_count : ∀ base : Heap, Callee l.prog w K mg base "run_count" 6 ["order"] [(["order"], [0])] (spF K 1 true m_run_count) := fun base => Callee.kw F_run_count (PySem.W.mg_of X G a8) (ok_run_count F_run_count (C_check_order base) (C_run_count_by base)) (fun _ _ _ _ _ _ us hl => match us, hl with | [_], _ => rfl) (by
    intro _ _ _ _ _ _ q hq ws hl
    simp only [List.mem_cons, List.not_mem_nil, or_false] at hq
    rcases hq with rfl
    all_goals exact match ws, hl with | [_], _ => rfl)
  have F__law_take := fun_mk (st := s__law_take) l9 c9 k9
  have C__law_take : ∀ base : Heap, Callee l.prog w K mg base "_law_take" 1 ["well", "many"] [] (spP K ⟨[true, false], true⟩ m__law_take) := fun base => Callee.of F__law_take (PySem.W.mg_of X G a9) (ok__law_take F__law_take h_divmod h_int) (fun _ _ _ _ _ _ us hl => match us, hl with | [_, _], _ => rfl)
  have F__law_same := fun_mk (st := s__law_same) l10 c10 k10
  have C__law_same : ∀ base : Heap, Callee l.prog w K mg base "_law_same" 9 ["told", "due"] [] (spF K 2 true (m__law_same 8)) := fun base => Callee.of F__law_same (PySem.W.mg_of X G a10) (ok__law_same F__law_same (PySem.W.mg_of X G a10) (F__law_same.binds (ps := ["told", "due"]) (fun _ _ _ _ _ _ us hl => match us, hl with | [_, _], _ => rfl)) h_all h_bool h_int h_isinstance h_len h_range h_str h_tuple 8) (fun _ _ _ _ _ _ us hl => match us, hl with | [_, _], _ => rfl)
  have F__law_order := fun_mk (st := s__law_order) l11 c11 k11
  have C__law_order : ∀ base : Heap, Callee l.prog w K mg base "_law_order" 2 ["well", "many"] [] (spP K ⟨[true, false], true⟩ m__law_order) := fun base => Callee.of F__law_order (PySem.W.mg_of X G a11) (ok__law_order F__law_order h_len h_list h_range h_tuple (C__law_take base)) (fun _ _ _ _ _ _ us hl => match us, hl with | [_, _], _ => rfl)
  have F_new_holes_by := fun_mk (st := s_new_holes_by) l12 c12 k12
  have C_new_holes_by : ∀ base : Heap, Callee l.prog w K mg base "new_holes_by" 2 ["order"] [] (spF K 1 true m_new_holes_by) := fun base => Callee.of F_new_holes_by (PySem.W.mg_of X G a12) (ok_new_holes_by F_new_holes_by h_max h_range h_NOTCHED h_WHOLE (C_runs_by base)) (fun _ _ _ _ _ _ us hl => match us, hl with | [_], _ => rfl)
  have F_new_holes := fun_mk (st := s_new_holes) l13 c13 k13
  have C_new_holes : ∀ base : Heap, Callee l.prog w K mg base "new_holes" 6 ["order"] [] (spF K 1 true m_new_holes) := fun base => Callee.of F_new_holes (PySem.W.mg_of X G a13) (ok_new_holes F_new_holes h_tuple (C_check_order base) (C_new_holes_by base)) (fun _ _ _ _ _ _ us hl => match us, hl with | [_], _ => rfl)
  have F__law_runs := fun_mk (st := s__law_runs) l14 c14 k14
  have C__law_runs : ∀ base : Heap, Callee l.prog w K mg base "_law_runs" 1 ["order"] [] (spF K 1 true m__law_runs) := fun base => Callee.of F__law_runs (PySem.W.mg_of X G a14) (ok__law_runs F__law_runs h_enumerate h_int) (fun _ _ _ _ _ _ us hl => match us, hl with | [_], _ => rfl)
  have F__law_order_right := fun_mk (st := s__law_order_right) l15 c15 k15
  have C__law_order_right : ∀ base : Heap, Callee l.prog w K mg base "_law_order_right" 10 ["well", "order"] [] (spP K ⟨[true, false], true⟩ m__law_order_right) := fun base => Callee.of F__law_order_right (PySem.W.mg_of X G a15) (ok__law_order_right F__law_order_right h_abs h_len h_list h_tuple (C__law_runs base) (C__law_same base) (C__law_take base) (C_new_holes base) (C_run_count base)) (fun _ _ _ _ _ _ us hl => match us, hl with | [_, _], _ => rfl)
  have F__law_two_right := fun_mk (st := s__law_two_right) l16 c16 k16
  have C__law_two_right : ∀ base : Heap, Callee l.prog w K mg base "_law_two_right" 10 ["one", "other"] [] (spF K 2 true m__law_two_right) := fun base => Callee.of F__law_two_right (PySem.W.mg_of X G a16) (ok__law_two_right F__law_two_right h_len h_tuple (C__law_same base) (C_run_count base)) (fun _ _ _ _ _ _ us hl => match us, hl with | [_, _], _ => rfl)
  have F__law_round := fun_mk (st := s__law_round) l17 c17 k17
  have C__law_round : ∀ base : Heap, Callee l.prog w K mg base "_law_round" 11 ["well"] [] (spP K ⟨[true], true⟩ m__law_round) := fun base => Callee.of F__law_round (PySem.W.mg_of X G a17) (ok__law_round F__law_round h_len h_range h_tuple (C__law_order base) (C__law_order_right base) (C__law_same base) (C__law_take base) (C__law_two_right base) (C_run_count base)) (fun _ _ _ _ _ _ us hl => match us, hl with | [_], _ => rfl)
  have F_law := fun_mk (st := s_law) l18 c18 k18
  exact ⟨PySem.W.fnOf "law" "law" (defArgs s_law) (defBody s_law) (defScope s_law) .none kV18 dc18 pm18 an18 cd18 ct18, fun s v => .of_eq rfl, fun base _ _ => ok_law F_law h_all h_len h_max h_min h_range (C__law_round base) (C__law_well base)⟩
def spLaw (K : PySem.W.Frag) : Sp := spF K 1 true m_law
end K15
open PySem PySem.W PyProof.Rows
set_option maxHeartbeats 0 in
theorem PySem.Challenge.cw_notchdeck_k15_whole_runs_of_orders_holds : PySem.Challenge.rw_notchdeck_k15_whole_runs_of_orders.Holds := by
  w_on; o_law; k_head; (case hw => w_witness2)
  k_fill
  refine L2.walk_of (l := PySem.Challenge.rw_notchdeck_k15_whole_runs_of_orders) (n := 63) (k := 12) (x := "script") (CX := fun _ => L2.CX0) (sp := fun w => K15.spLaw _) rfl (by decide) rfl ⟨rfl, by decide, by decide⟩ (fun w h Y => PySem.W.kIn_of Y) ?F (fun _ _ a ns hl _ hS => PL.law_sp (E := fun _ _ _ => False) hS (K15.main_law ns hl)) (fun _ _ _ _ _ h => h)
  case F =>
    intro w mg fa h KX G hmg
    refine' K15.all_mk KX G hmg ?a0 ?l0 ?c0 ?k0 ?a1 ?l1 ?c1 ?k1 ?a2 ?l2 ?c2 ?k2 ?a3 ?l3 ?c3 ?k3 ?a4 ?l4 ?c4 ?k4 ?a5 ?l5 ?c5 ?k5 ?a6 ?l6 ?c6 ?k6 ?a7 ?l7 ?c7 ?k7 ?a8 ?l8 ?c8 ?k8 ?a9 ?l9 ?c9 ?k9 ?a10 ?l10 ?c10 ?k10 ?a11 ?l11 ?c11 ?k11 ?a12 ?l12 ?c12 ?k12 ?a13 ?l13 ?c13 ?k13 ?a14 ?l14 ?c14 ?k14 ?a15 ?l15 ?c15 ?k15 ?a16 ?l16 ?c16 ?k16 ?a17 ?l17 ?c17 ?k17 ?a18 ?l18 ?c18 ?k18 ?z_abs ?z_all ?z_bool ?z_divmod ?z_enumerate ?z_int ?z_isinstance ?z_len ?z_list ?z_max ?z_min ?z_range ?z_str ?z_sum ?z_tuple ?z_zip ?g_MOST_CARDS ?g_NOTCHED ?g_WHOLE
    (case a0 => k_is); (case l0 => k_is); (case c0 => k_is); (case k0 => k_is); (case a1 => k_is); (case l1 => k_is); (case c1 => k_is); (case k1 => k_is); (case a2 => k_is); (case l2 => k_is); (case c2 => k_is); (case k2 => k_is); (case a3 => k_is); (case l3 => k_is); (case c3 => k_is); (case k3 => k_is); (case a4 => k_is); (case l4 => k_is); (case c4 => k_is); (case k4 => k_is); (case a5 => k_is); (case l5 => k_is); (case c5 => k_is); (case k5 => k_is); (case a6 => k_is); (case l6 => k_is); (case c6 => k_is); (case k6 => k_is); (case a7 => k_is); (case l7 => k_is); (case c7 => k_is); (case k7 => k_is); (case a8 => k_is); (case l8 => k_is); (case c8 => k_is); (case k8 => k_is); (case a9 => k_is); (case l9 => k_is); (case c9 => k_is); (case k9 => k_is); (case a10 => k_is); (case l10 => k_is); (case c10 => k_is); (case k10 => k_is); (case a11 => k_is); (case l11 => k_is); (case c11 => k_is); (case k11 => k_is); (case a12 => k_is); (case l12 => k_is); (case c12 => k_is); (case k12 => k_is); (case a13 => k_is); (case l13 => k_is); (case c13 => k_is); (case k13 => k_is); (case a14 => k_is); (case l14 => k_is); (case c14 => k_is); (case k14 => k_is); (case a15 => k_is); (case l15 => k_is); (case c15 => k_is); (case k15 => k_is); (case a16 => k_is); (case l16 => k_is); (case c16 => k_is); (case k16 => k_is); (case a17 => k_is); (case l17 => k_is); (case c17 => k_is); (case k17 => k_is); (case a18 => k_is); (case l18 => k_is); (case c18 => k_is); (case k18 => k_is); (case z_abs => k_is); (case z_all => k_is); (case z_bool => k_is); (case z_divmod => k_is); (case z_enumerate => k_is); (case z_int => k_is); (case z_isinstance => k_is); (case z_len => k_is); (case z_list => k_is); (case z_max => k_is); (case z_min => k_is); (case z_range => k_is); (case z_str => k_is); (case z_sum => k_is); (case z_tuple => k_is); (case z_zip => k_is); (case g_MOST_CARDS => k_is); (case g_NOTCHED => k_is); (case g_WHOLE => k_is)
end
