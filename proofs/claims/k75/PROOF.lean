import PyProof.Rows.All
import Wide.All
import OpenK.AllK
import Wide.FinOn
import PySem.Challenge.RW_notchdeck_k75_whole_counts_of_sums
import HandS.ForMost
import HandS.Flow
import HandS.Style
import HandS.TupAny
import HandS.TupMul
import HandS.TupLe
import HandS.Walk
import HandS.IsInst
import HandS.Zip
import HandS.More
import HandS.WideBits
import HandS.Conv
import HandS.Text
import HandS.Wide
import PyProof.ListMulAny
import HandS.Deep
import KE.GoesEnum
import KE.GoesZip
import HandS.Defaults
set_option Elab.async false
set_option linter.all false
section
set_option maxRecDepth 100000
set_option maxHeartbeats 3900000
/-! PL0: plain data D, how values stand for it, frames' states, readings over it. -/
namespace PL
open PySem Spec PyProof.Rows L2

/-- plain data -/
inductive D where
  | non
  | bl (b : Bool)
  | int (i : Int)
  | str (s : List Nat)
  | tup (ds : List D)
  | lst (ds : List D)
  | dct (kvs : List (D × D))
  | opq (v : V)

def kD : Key → D
  | .inl i => .int i
  | .inr s => .str s.cps.toList
def isMutD : D → Bool
  | .lst _ => true
  | .dct _ => true
  | _ => false
/-- an object that may change -/
def Mu : HO → Prop
  | .lst _ => True
  | .dK _ => True
  | .dT _ => True
  | _ => False

/-- a list of the written part -/
def KLst (K : PySem.W.Frag) (a : Addr) (xs : List V) : Prop := SqL K (fun _ => none) a xs
theorem KLst.sq {K : PySem.W.Frag} {a : Addr} {xs : List V} {H : Hp} (h : KLst K a xs) : SqL K H a xs := by
  rcases h with ((h | h) | h)
  · cases h
  · obtain ⟨_, h⟩ := h; cases h
  · exact .inr h

mutual
/-- v stands for d in H; no list or dict at an address of P is passed -/
inductive Rp (K : PySem.W.Frag) (H : Hp) (P : Addr → Prop) : V → D → Prop
  | non : Rp K H P .non .non
  | bl (b : Bool) : Rp K H P (.bl b) (.bl b)
  | int (i : Int) : Rp K H P (.int i) (.int i)
  | str (x : Str) : Rp K H P (.str x) (.str x.cps.toList)
  | tup {a : Addr} {vs : List V} {ds : List D} : SqT K H a vs → RpL K H P vs ds → Rp K H P (.ref a) (.tup ds)
  | cell {a : Addr} {o : HO} {d : D} : H a = some o → ¬ P a → RpC K H P o d → Rp K H P (.ref a) d
  | frz {a : Addr} {ob : Obj} {o : HO} {d : D} : H a = some (.frz ob o) → RpC K H P o d → Rp K H P (.ref a) d
  | kls {a : Addr} {vs : List V} {ds : List D} : KLst K a vs → RpL K H P vs ds → Rp K H P (.ref a) (.lst ds)
  | opq (v : V) : Rp K H P v (.opq v)
inductive RpL (K : PySem.W.Frag) (H : Hp) (P : Addr → Prop) : List V → List D → Prop
  | nil : RpL K H P [] []
  | cons {v : V} {vs : List V} {d : D} {ds : List D} : Rp K H P v d → RpL K H P vs ds → RpL K H P (v :: vs) (d :: ds)
inductive RpK (K : PySem.W.Frag) (H : Hp) (P : Addr → Prop) : List (Key × V) → List (D × D) → Prop
  | nil : RpK K H P [] []
  | cons {k : Key} {v : V} {kvs : List (Key × V)} {d : D} {es : List (D × D)} : Rp K H P v d → RpK K H P kvs es → RpK K H P ((k, v) :: kvs) ((kD k, d) :: es)
inductive RpT' (K : PySem.W.Frag) (H : Hp) (P : Addr → Prop) : List (List Key × V) → List (D × D) → Prop
  | nil : RpT' K H P [] []
  | cons {k : List Key} {v : V} {kvs : List (List Key × V)} {d : D} {es : List (D × D)} : Rp K H P v d → RpT' K H P kvs es → RpT' K H P ((k, v) :: kvs) ((.tup (k.map kD), d) :: es)
/-- what stands at an address -/
inductive RpC (K : PySem.W.Frag) (H : Hp) (P : Addr → Prop) : HO → D → Prop
  | lst {vs : List V} {ds : List D} : RpL K H P vs ds → RpC K H P (.lst vs) (.lst ds)
  | dK {kvs : List (Key × V)} {es : List (D × D)} : RpK K H P kvs es → RpC K H P (.dK kvs) (.dct es)
  | dT {kvs : List (List Key × V)} {es : List (D × D)} : RpT' K H P kvs es → RpC K H P (.dT kvs) (.dct es)
end

/-- what is tracked outside P stays, and stays outside -/
structure Pres (H : Hp) (P : Addr → Prop) (H' : Hp) (P' : Addr → Prop) : Prop where
  cell : ∀ a o, H a = some o → ¬ P a → H' a = some o ∧ ¬ P' a
  tup : ∀ a xs, H a = some (.tup xs) → H' a = some (.tup xs)
  frz : ∀ a o u, H a = some (.frz o u) → H' a = some (.frz o u)

section
variable {K : PySem.W.Frag} {H H' : Hp} {P P' : Addr → Prop}
theorem Pres.sqT (p : Pres H P H' P') {a : Addr} {vs : List V} (h : SqT K H a vs) : SqT K H' a vs := by
  rcases h with (h | ⟨o, h⟩) | h
  · exact .inl (.inl (p.tup _ _ h))
  · exact .inl (.inr ⟨o, p.frz _ _ _ h⟩)
  · exact .inr h
theorem Rp.pres (p : Pres H P H' P') {v : V} {d : D} (h : Rp K H P v d) : Rp K H' P' v d :=
  Rp.rec (motive_1 := fun v d _ => Rp K H' P' v d) (motive_2 := fun v d _ => RpL K H' P' v d) (motive_3 := fun v d _ => RpK K H' P' v d) (motive_4 := fun v d _ => RpT' K H' P' v d) (motive_5 := fun o d _ => RpC K H' P' o d)
    .non .bl .int .str (fun h _ ih => .tup (p.sqT h) ih) (fun h n _ ih => .cell (p.cell _ _ h n).1 (p.cell _ _ h n).2 ih) (fun h _ ih => .frz (p.frz _ _ _ h) ih) (fun h _ ih => .kls h ih) .opq
    .nil (fun _ _ a b => .cons a b) .nil (fun _ _ a b => .cons a b) .nil (fun _ _ a b => .cons a b) (fun _ a => .lst a) (fun _ a => .dK a) (fun _ a => .dT a) h
theorem RpL.pres (p : Pres H P H' P') : ∀ {vs : List V} {ds : List D}, RpL K H P vs ds → RpL K H' P' vs ds
  | _, _, .nil => .nil
  | _, _, .cons a b => .cons (a.pres p) (RpL.pres p b)
theorem RpK.pres (p : Pres H P H' P') : ∀ {vs : List (Key × V)} {ds : List (D × D)}, RpK K H P vs ds → RpK K H' P' vs ds
  | _, _, .nil => .nil
  | _, _, .cons a b => .cons (a.pres p) (RpK.pres p b)
theorem RpT'.pres (p : Pres H P H' P') : ∀ {vs : List (List Key × V)} {ds : List (D × D)}, RpT' K H P vs ds → RpT' K H' P' vs ds
  | _, _, .nil => .nil
  | _, _, .cons a b => .cons (a.pres p) (RpT'.pres p b)
theorem RpC.pres (p : Pres H P H' P') {o : HO} {d : D} (h : RpC K H P o d) : RpC K H' P' o d := by
  cases h with
  | lst h => exact .lst (h.pres p)
  | dK h => exact .dK (h.pres p)
  | dT h => exact .dT (h.pres p)
theorem RpC.mu {o : HO} {d : D} (h : RpC K H P o d) : Mu o := by cases h <;> trivial
theorem RpC.mutD {o : HO} {d : D} (h : RpC K H P o d) : isMutD d = true := by cases h <;> rfl
/-- a lesser P -/
theorem Pres.less (h : ∀ a, P' a → P a) : Pres H P H P' := ⟨fun _ _ e n => ⟨e, fun z => n (h _ z)⟩, fun _ _ e => e, fun _ _ _ e => e⟩
/-- an address that is new -/
theorem Pres.addFresh {p : Addr} (h : H p = none) : Pres H P H (fun a => P a ∨ a = p) := ⟨fun _ _ e n => ⟨e, fun z => z.elim n fun z => by rw [z, h] at e; cases e⟩, fun _ _ e => e, fun _ _ _ e => e⟩
theorem Pres.trans {H'' : Hp} {P'' : Addr → Prop} (a : Pres H P H' P') (b : Pres H' P' H'' P'') : Pres H P H'' P'' :=
  ⟨fun x o e n => let ⟨e1, n1⟩ := a.cell x o e n; b.cell x o e1 n1, fun x xs e => b.tup x xs (a.tup x xs e), fun x o u e => b.frz x o u (a.frz x o u e)⟩
theorem Pres.new {p : Addr} {o : HO} (h : H p = none) : Pres H P (upd H p o) P :=
  ⟨fun _ _ e n => ⟨by rw [upd_ne (ne_of_none e h)]; exact e, n⟩, fun _ _ e => by rw [upd_ne (ne_of_none e h)]; exact e, fun _ _ _ e => by rw [upd_ne (ne_of_none e h)]; exact e⟩
theorem RpL.length {vs : List V} {ds : List D} (h : RpL K H P vs ds) : vs.length = ds.length := by
  induction ds generalizing vs with
  | nil => cases h; rfl
  | cons d ds ih => cases h with | cons a b => simp [ih b]
theorem RpL.get : ∀ {vs : List V} {ds : List D} {i : Nat} {d : D}, RpL K H P vs ds → ds[i]? = some d → ∃ v, vs[i]? = some v ∧ Rp K H P v d
  | _, _, _, _, .nil, e => by simp at e
  | _, _, 0, _, .cons a _, e => by simp at e; subst e; exact ⟨_, rfl, a⟩
  | _, _, i + 1, _, .cons _ b, e => by
    obtain ⟨v, h1, h2⟩ := RpL.get (i := i) b (by simpa using e)
    exact ⟨v, by simpa using h1, h2⟩
theorem RpL.get' : ∀ {vs : List V} {ds : List D} {i : Nat} {v : V}, RpL K H P vs ds → vs[i]? = some v → ∃ d, ds[i]? = some d ∧ Rp K H P v d
  | _, _, _, _, .nil, e => by simp at e
  | _, _, 0, _, .cons a _, e => by simp at e; subst e; exact ⟨_, rfl, a⟩
  | _, _, i + 1, _, .cons _ b, e => by
    obtain ⟨v, h1, h2⟩ := RpL.get' (i := i) b (by simpa using e)
    exact ⟨v, by simpa using h1, h2⟩
theorem RpL.append : ∀ {vs ws : List V} {ds es : List D}, RpL K H P vs ds → RpL K H P ws es → RpL K H P (vs ++ ws) (ds ++ es)
  | _, _, _, _, .nil, b => b
  | _, _, _, _, .cons a r, b => .cons a (r.append b)
theorem RpL.set {v : V} {d : D} (r : Rp K H P v d) : ∀ {vs : List V} {ds : List D} (i : Nat), RpL K H P vs ds → RpL K H P (vs.set i v) (ds.set i d)
  | _, _, _, .nil => .nil
  | _, _, 0, .cons _ t => .cons r t
  | _, _, i + 1, .cons q t => .cons q (RpL.set r i t)
theorem RpL.take : ∀ {vs : List V} {ds : List D} (n : Nat), RpL K H P vs ds → RpL K H P (vs.take n) (ds.take n)
  | _, _, 0, _ => .nil
  | _, _, _ + 1, .nil => .nil
  | _, _, n + 1, .cons r t => .cons r (RpL.take n t)
theorem RpL.drop : ∀ {vs : List V} {ds : List D} (n : Nat), RpL K H P vs ds → RpL K H P (vs.drop n) (ds.drop n)
  | _, _, 0, r => r
  | _, _, _ + 1, .nil => .nil
  | _, _, n + 1, .cons _ t => RpL.drop n t
theorem RpL.eraseIdx : ∀ {vs : List V} {ds : List D} (i : Nat), RpL K H P vs ds → RpL K H P (vs.eraseIdx i) (ds.eraseIdx i)
  | _, _, _, .nil => .nil
  | _, _, 0, .cons _ t => t
  | _, _, i + 1, .cons q t => .cons q (RpL.eraseIdx i t)
theorem RpL.reverse {vs : List V} {ds : List D} (h : RpL K H P vs ds) : RpL K H P vs.reverse ds.reverse := by
  induction ds generalizing vs with
  | nil => cases h; exact .nil
  | cons d ds ih => cases h with | cons a b => simp only [List.reverse_cons]; exact (ih b).append (.cons a .nil)
theorem RpL.rep {vs : List V} {ds : List D} (h : RpL K H P vs ds) : ∀ k : Nat, RpL K H P (List.replicate k vs).flatten (List.replicate k ds).flatten
  | 0 => .nil
  | k + 1 => by rw [List.replicate_succ, List.replicate_succ, List.flatten_cons, List.flatten_cons]; exact h.append (h.rep k)
theorem RpL.dropLast {vs : List V} {ds : List D} (h : RpL K H P vs ds) : RpL K H P vs.dropLast ds.dropLast := by
  rw [List.dropLast_eq_take, List.dropLast_eq_take, h.length]; exact h.take _
end

/-! ### slots, frames -/
inductive Slot where
  | no | lck
  | shr (d : D)
  | own (d : D)
  | iow (d : D)
abbrev Env := List Slot
def peek (env : Env) (i : Nat) : Option D := match env[i]? with
  | some (.shr d) => some d
  | some (.own d) => some d
  | some (.iow d) => some d
  | _ => none
def Av (A : Addr → Prop) (ow : List (Option Addr)) : Addr → Prop := fun a => A a ∨ some a ∈ ow
structure SS where
  A : Addr → Prop
  H0 : Hp
  io : List (Nat × Addr)
  lk : List (Nat × V)
def SS.add (S : SS) (p : Addr) : SS := { S with A := fun a => S.A a ∨ a = p }
/-- one slot -/
def SlotOk (K : PySem.W.Frag) (H : Hp) (P : Addr → Prop) (sv : Option (Option V)) (oa : Option (Option Addr)) : Slot → Prop
  | .no => True
  | .lck => True
  | .shr d => ∃ v, sv = some (some v) ∧ Rp K H P v d
  | .own d => ∃ a o, sv = some (some (.ref a)) ∧ oa = some (some a) ∧ H a = some o ∧ RpC K H P o d
  | .iow d => ∃ a o, sv = some (some (.ref a)) ∧ oa = some (some a) ∧ H a = some o ∧ RpC K H P o d
structure Sim (K : PySem.W.Frag) (S : SS) (ow : List (Option Addr)) (σ : L2.St) (H : Hp) (env : Env) : Prop where
  len : env.length = σ.length
  lenO : ow.length = σ.length
  slot : ∀ (i : Nat) s, env[i]? = some s → SlotOk K H (Av S.A ow) (σ[i]?) (ow[i]?) s
  inj : ∀ (i j : Nat) a, ow[i]? = some (some a) → ow[j]? = some (some a) → i = j
  live : ∀ a, Av S.A ow a → ∃ o, H a = some o ∧ Mu o
  sep : ∀ a, some a ∈ ow → ¬ S.A a
  frame : ∀ a o, S.H0 a = some o → (∀ p ∈ S.io, p.2 ≠ a) → H a = some o
  fresh : ∀ a, some a ∈ ow → S.H0 a = none ∨ ∃ j, (j, a) ∈ S.io
  io : ∀ p ∈ S.io, ow[p.1]? = some (some p.2) ∧ ∃ d, env[p.1]? = some (.iow d)
  iow : ∀ (i : Nat) d, env[i]? = some (.iow d) → ∃ a, (i, a) ∈ S.io
  lk : ∀ p ∈ S.lk, σ[p.1]? = some (some p.2) ∧ env[p.1]? = some .lck
/-- how heap and owned addresses go on -/
structure Stp (ow : List (Option Addr)) (H : Hp) (ow' : List (Option Addr)) (H' : Hp) : Prop where
  cell : ∀ a o, H a = some o → some a ∉ ow → H' a = some o ∧ some a ∉ ow'
  tup : ∀ a xs, H a = some (.tup xs) → H' a = some (.tup xs)
  frz : ∀ a o u, H a = some (.frz o u) → H' a = some (.frz o u)
  dom : ∀ a o, H a = some o → ∃ o', H' a = some o'
section
variable {K : PySem.W.Frag} {S S' : SS} {H H' H'' : Hp} {ow ow' ow'' : List (Option Addr)} {σ : L2.St} {env : Env} {A : Addr → Prop}
theorem Stp.pres (s : Stp ow H ow' H') : Pres H (Av A ow) H' (Av A ow') :=
  ⟨fun a o e n => let ⟨e1, n1⟩ := s.cell a o e (fun z => n (.inr z)); ⟨e1, fun z => z.elim (fun z => n (.inl z)) n1⟩, s.tup, s.frz⟩
theorem Stp.refl : Stp ow H ow H := ⟨fun _ _ e n => ⟨e, n⟩, fun _ _ e => e, fun _ _ _ e => e, fun _ o e => ⟨o, e⟩⟩
theorem Stp.trans (a : Stp ow H ow' H') (b : Stp ow' H' ow'' H'') : Stp ow H ow'' H'' :=
  ⟨fun x o e n => let ⟨e1, n1⟩ := a.cell x o e n; b.cell x o e1 n1, fun x xs e => b.tup x xs (a.tup x xs e), fun x o u e => b.frz x o u (a.frz x o u e), fun x o e => let ⟨o1, e1⟩ := a.dom x o e; b.dom x o1 e1⟩
theorem Stp.new {p : Addr} {o : HO} (h : H p = none) : Stp ow H ow (upd H p o) :=
  ⟨fun _ _ e n => ⟨by rw [upd_ne (ne_of_none e h)]; exact e, n⟩, fun _ _ e => by rw [upd_ne (ne_of_none e h)]; exact e, fun _ _ _ e => by rw [upd_ne (ne_of_none e h)]; exact e, fun a u e => ⟨u, by rw [upd_ne (ne_of_none e h)]; exact e⟩⟩
theorem Stp.back (s : Stp ow H ow' H') {p : Addr} (h : H' p = none) : H p = none := by
  cases e : H p with
  | none => rfl
  | some o => obtain ⟨o', e'⟩ := s.dom p o e; rw [h] at e'; cases e'
theorem Sim.mutne (I : Sim K S ow σ H env) {a : Addr} (h : Av S.A ow a) : H a ≠ none := fun e => by obtain ⟨o, e', _⟩ := I.live a h; rw [e] at e'; cases e'
theorem mem_get {α : Type} {l : List α} {x : α} (h : x ∈ l) : ∃ i : Nat, l[i]? = some x := List.getElem?_of_mem h
theorem Sim.peek (I : Sim K S ow σ H env) {i : Nat} {d : D} (h : peek env i = some d) :
    ∃ v, σ[i]? = some (some v) ∧ (Rp K H (Av S.A ow) v d ∨ ∃ a o, v = .ref a ∧ H a = some o ∧ RpC K H (Av S.A ow) o d) := by
  unfold PL.peek at h
  cases e : env[i]? with
  | none => rw [e] at h; cases h
  | some s =>
    rw [e] at h
    have q := I.slot i s e
    cases s with
    | no => cases h
    | lck => cases h
    | shr d' => cases h; obtain ⟨v, e1, r⟩ := q; exact ⟨v, e1, .inl r⟩
    | own d' => cases h; obtain ⟨a, o, e1, e2, e3, r⟩ := q; exact ⟨_, e1, .inr ⟨a, o, rfl, e3, r⟩⟩
    | iow d' => cases h; obtain ⟨a, o, e1, e2, e3, r⟩ := q; exact ⟨_, e1, .inr ⟨a, o, rfl, e3, r⟩⟩
theorem SlotOk.pres {P P' : Addr → Prop} {sv : Option (Option V)} {oa : Option (Option Addr)} {s : Slot} (p : Pres H P H' P') (ho : ∀ a, oa = some (some a) → H' a = H a) (h : SlotOk K H P sv oa s) : SlotOk K H' P' sv oa s := by
  cases s with
  | no => trivial
  | lck => trivial
  | shr d => obtain ⟨v, e, r⟩ := h; exact ⟨v, e, r.pres p⟩
  | own d => obtain ⟨a, o, e1, e2, e3, r⟩ := h; exact ⟨a, o, e1, e2, by rw [ho a e2]; exact e3, r.pres p⟩
  | iow d => obtain ⟨a, o, e1, e2, e3, r⟩ := h; exact ⟨a, o, e1, e2, by rw [ho a e2]; exact e3, r.pres p⟩
/-- a new object that is not kept by any slot -/
theorem Sim.newAny (I : Sim K S ow σ H env) {p : Addr} {o : HO} (h : H p = none) : Sim K S ow σ (upd H p o) env where
  len := I.len
  lenO := I.lenO
  slot := fun i s e => (I.slot i s e).pres (Pres.new h) fun a ea => upd_ne fun z => I.mutne (a := a) (.inr (List.mem_of_getElem? ea)) (by rw [z]; exact h)
  inj := I.inj
  live := fun a ha => by obtain ⟨u, e, m⟩ := I.live a ha; exact ⟨u, by rw [upd_ne (ne_of_none e h)]; exact e, m⟩
  sep := I.sep
  frame := fun a u e n => by have := I.frame a u e n; rw [upd_ne (ne_of_none this h)]; exact this
  fresh := I.fresh
  io := I.io
  iow := I.iow
  lk := I.lk
/-- a new list or dict, kept apart -/
theorem Sim.newCell (I : Sim K S ow σ H env) {p : Addr} {o : HO} (h : H p = none) (m : Mu o) : Sim K (S.add p) ow σ (upd H p o) env where
  len := I.len
  lenO := I.lenO
  slot := fun i s e => by
    have q := (I.newAny (o := o) h).slot i s e
    have pr : Pres H (Av S.A ow) (upd H p o) (Av (S.add p).A ow) := ⟨fun a u e n => ⟨by rw [upd_ne (ne_of_none e h)]; exact e, fun z => by
      rcases z with (z | z) | z
      · exact n (.inl z)
      · rw [z, h] at e; cases e
      · exact n (.inr z)⟩, fun _ _ e => by rw [upd_ne (ne_of_none e h)]; exact e, fun _ _ _ e => by rw [upd_ne (ne_of_none e h)]; exact e⟩
    exact (I.slot i s e).pres pr fun a ea => upd_ne fun z => I.mutne (a := a) (.inr (List.mem_of_getElem? ea)) (by rw [z]; exact h)
  inj := I.inj
  live := fun a ha => by
    rcases ha with (ha | ha) | ha
    · obtain ⟨u, e, m⟩ := I.live a (.inl ha); exact ⟨u, by rw [upd_ne (ne_of_none e h)]; exact e, m⟩
    · subst ha; exact ⟨o, upd_same, m⟩
    · obtain ⟨u, e, m⟩ := I.live a (.inr ha); exact ⟨u, by rw [upd_ne (ne_of_none e h)]; exact e, m⟩
  sep := fun a ha z => by
    rcases z with z | z
    · exact I.sep a ha z
    · exact I.mutne (a := a) (.inr ha) (by rw [z]; exact h)
  frame := (I.newAny (o := o) h).frame
  fresh := I.fresh
  io := I.io
  iow := I.iow
  lk := I.lk
/-- less is kept apart -/
theorem Sim.drop {p : Addr} (I : Sim K (S.add p) ow σ H env) : Sim K S ow σ H env where
  len := I.len
  lenO := I.lenO
  slot := fun i s e => (I.slot i s e).pres (Pres.less fun a z => z.elim (fun z => .inl (.inl z)) .inr) fun _ _ => rfl
  inj := I.inj
  live := fun a ha => I.live a (ha.elim (fun z => .inl (.inl z)) .inr)
  sep := fun a ha z => I.sep a ha (.inl z)
  frame := I.frame
  fresh := I.fresh
  io := I.io
  iow := I.iow
  lk := I.lk
end
end PL
end

section
set_option maxRecDepth 100000
set_option maxHeartbeats 3900000
/-! PL1: expressions over plain data. -/
namespace PL
open PySem Spec PyProof.Rows L2

abbrev EM := Env → Option (D × Env)
abbrev TM := Env → Option (Bool × Env)
inductive Arg where
  | v (m : EM)
  | b (i : Nat)
/-- what v has at its top may be read -/
def RpT (K : PySem.W.Frag) (H : Hp) (P : Addr → Prop) (v : V) (d : D) : Prop := Rp K H P v d ∨ ∃ a o, v = .ref a ∧ H a = some o ∧ RpC K H P o d
inductive RpTs (K : PySem.W.Frag) (H : Hp) (P : Addr → Prop) : List V → List D → Prop
  | nil : RpTs K H P [] []
  | cons {v : V} {vs : List V} {d : D} {ds : List D} : RpT K H P v d → RpTs K H P vs ds → RpTs K H P (v :: vs) (d :: ds)
/-- a result: told by what stood, or a new tuple, or a new list or dict -/
inductive Res (fr : Bool) (K : PySem.W.Frag) (H : Hp) (P : Addr → Prop) : V → D → Hp → Prop
  | same {v : V} {d : D} : Rp K H P v d → (fr = true → isMutD d = false) → Res fr K H P v d H
  | newT {p : Addr} {vs : List V} {ds : List D} : H p = none → RpL K H P vs ds → Res fr K H P (.ref p) (.tup ds) (upd H p (.tup vs))
  | newC {p : Addr} {o : HO} {d : D} : H p = none → RpC K H P o d → Res fr K H P (.ref p) d (upd H p o)
def r2 (fr : Bool) (K : PySem.W.Frag) (g : List D → Option D) : R2 := fun x y H Q => ∃ P dx dy d, RpT K H P x dx ∧ RpT K H P y dy ∧ g [dx, dy] = some d ∧ ∀ v H', Res fr K H P v d H' → Q v H'
def r1 (fr : Bool) (K : PySem.W.Frag) (g : List D → Option D) : V → Hp → VK → Prop := fun x H Q => ∃ P dx d, RpT K H P x dx ∧ g [dx] = some d ∧ ∀ v H', Res fr K H P v d H' → Q v H'
def rL (fr : Bool) (K : PySem.W.Frag) (g : List D → Option D) : List V → Hp → VK → Prop := fun vs H Q => ∃ P ds d, RpTs K H P vs ds ∧ g ds = some d ∧ ∀ v H', Res fr K H P v d H' → Q v H'
/-- how an expression's value comes -/
def FrR (fr : Bool) (K : PySem.W.Frag) (S S' : SS) (Hs H' : Hp) (ow' : List (Option Addr)) (v : V) (d : D) : Prop :=
  (S' = S ∧ Rp K H' (Av S.A ow') v d ∧ (fr = true → isMutD d = false)) ∨ (fr = true ∧ ∃ p o, S' = S.add p ∧ v = .ref p ∧ Hs p = none ∧ H' p = some o ∧ RpC K H' (Av S'.A ow') o d)
def Ev (fr : Bool) (K : PySem.W.Frag) (m : EM) : TE := fun σ H Q => ∃ S ow env, Sim K S ow σ H env ∧ ∃ d env', m env = some (d, env') ∧
  ∀ S' ow' v H', Stp ow H ow' H' → Sim K S' ow' σ H' env' → FrR fr K S S' H H' ow' v d → Q v H'
abbrev EvS := Ev false
abbrev EvF := Ev true
def EvT (K : PySem.W.Frag) (m : TM) : TT := fun σ H Q => ∃ S ow env, Sim K S ow σ H env ∧ ∃ b env', m env = some (b, env') ∧ ∀ ow' H', Stp ow H ow' H' → Sim K S ow' σ H' env' → Q b H'

section
variable {K : PySem.W.Frag} {S S' : SS} {H H1 H2 H' : Hp} {P P' : Addr → Prop} {ow ow' ow1 ow2 : List (Option Addr)} {σ : L2.St} {env env1 env2 env' : Env} {v x y : V} {d dx dy : D} {fr : Bool}
theorem RpT.pres (p : Pres H P H' P') (h : RpT K H P v d) (hc : ∀ a o, v = .ref a → H a = some o → Mu o → H' a = some o) : RpT K H' P' v d := by
  rcases h with h | ⟨a, o, e, e2, r⟩
  · exact .inl (h.pres p)
  · exact .inr ⟨a, o, e, hc a o e e2 r.mu, r.pres p⟩
theorem FrR.shared (h : FrR false K S S' H H' ow' v d) : S' = S ∧ Rp K H' (Av S.A ow') v d := by
  rcases h with ⟨e, r, _⟩ | ⟨e, _⟩
  · exact ⟨e, r⟩
  · cases e
/-- a result, kept for no slot -/
theorem Res.go {Q : VK} {H0 : Hp} {ow0 : List (Option Addr)} (r : Res fr K H (Av S.A ow) v d H') (I : Sim K S ow σ H env) (st : Stp ow0 H0 ow H)
    (k : ∀ S' ow' v H', Stp ow0 H0 ow' H' → Sim K S' ow' σ H' env → FrR fr K S S' H0 H' ow' v d → Q v H') : Q v H' := by
  cases r with
  | same r n => exact k S ow v H st I (.inl ⟨rfl, r, n⟩)
  | @newT p vs ds hp r =>
    refine k S ow _ _ (st.trans (Stp.new hp)) (I.newAny hp) (.inl ⟨rfl, .tup (.inl (.inl upd_same)) (r.pres (Pres.new hp)), fun _ => rfl⟩)
  | @newC p o d hp r =>
    have pr : Pres H (Av S.A ow) (upd H p o) (Av (S.add p).A ow) := by
      refine Pres.trans (Pres.addFresh hp) (Pres.trans (Pres.new hp) (Pres.less fun a z => ?_))
      rcases z with (z | z) | z
      · exact .inl (.inl z)
      · exact .inr z
      · exact .inl (.inr z)
    cases fr with
    | true => exact k (S.add p) ow _ _ (st.trans (Stp.new hp)) (I.newCell hp r.mu) (.inr ⟨rfl, p, o, rfl, rfl, st.back hp, upd_same, r.pres pr⟩)
    | false =>
      refine k S ow _ _ (st.trans (Stp.new hp)) (I.newAny hp) (.inl ⟨rfl, .cell upd_same (fun z => I.mutne z hp) (r.pres (Pres.new hp)), fun z => by cases z⟩)
end

/-! ### weakening -/
theorem _root_.L2.PE.imp {X : Cx} {e : Expr} {t t' : TE} (h : PE X e t) (w : ∀ σ H Q, t' σ H Q → t σ H Q) : PE X e t' := ⟨fun pins s σ H Q I q => h.run pins s σ H Q I (w σ H Q q)⟩
theorem _root_.L2.PT.imp {X : Cx} {e : Expr} {t t' : TT} (h : PT X e t) (w : ∀ σ H Q, t' σ H Q → t σ H Q) : PT X e t' := ⟨fun pins s σ H Q I q => h.run pins s σ H Q I (w σ H Q q)⟩
theorem _root_.L2.PA.imp {X : Cx} {e : List Expr} {t t' : TA} (h : PA X e t) (w : ∀ σ H Q, t' σ H Q → t σ H Q) : PA X e t' := ⟨fun pos pins s σ H Q I q => h.run pos pins s σ H Q I (w σ H Q q)⟩
theorem _root_.L2.PS.imp {X : Cx} {e : Stmt} {t t' : TS} (h : PS X e t) (w : ∀ D σ H, t' D σ H → t D σ H) : PS X e t' := ⟨fun pins s σ H D I q => h.run pins s σ H D I (w D σ H q)⟩
theorem _root_.L2.PSs.imp {X : Cx} {e : List Stmt} {t t' : TS} (h : PSs X e t) (w : ∀ D σ H, t' D σ H → t D σ H) : PSs X e t' := ⟨fun pins s σ H D I q => h.run pins s σ H D I (w D σ H q)⟩
/-- a fresh value is a value -/
theorem e_sh {X : Cx} {e : Expr} {m : EM} (h : PE X e (EvF X.K m)) : PE X e (EvS X.K m) := h.imp fun σ H Q ⟨S, ow, env, I, d, env', hm, k⟩ => ⟨S, ow, env, I, d, env', hm, fun S' ow' v H' st J f => by
  rcases f with ⟨rfl, r, _⟩ | ⟨_, p, o, rfl, rfl, hp, ho, r⟩
  · exact k S' ow' v H' st J (.inl ⟨rfl, r, fun z => by cases z⟩)
  · refine k S ow' _ H' st J.drop (.inl ⟨rfl, .cell ho (fun z => ?_) (r.pres (Pres.less fun a z => z.elim (fun z => .inl (.inl z)) .inr)), fun z => by cases z⟩)
    rcases z with z | z
    · exact I.mutne (.inl z) hp
    · exact J.sep p z (.inr rfl)⟩

/-! ### names, constants -/
def eVar (i : Nat) : EM := fun env => match env[i]? with
  | some (.shr d) => some (d, env)
  | some (.own d) => some (d, env.set i (.shr d))
  | _ => none
def eC (d : D) : EM := fun env => some (d, env)
theorem Sim.share {K : PySem.W.Frag} {S : SS} {ow : List (Option Addr)} {σ : L2.St} {H : Hp} {env : Env} (I : Sim K S ow σ H env) {i : Nat} {d : D} (h : env[i]? = some (.own d)) :
    ∃ a, σ[i]? = some (some (.ref a)) ∧ Sim K S (ow.set i none) σ H (env.set i (.shr d)) ∧ Rp K H (Av S.A (ow.set i none)) (.ref a) d := by
  obtain ⟨a, o, e1, e2, e3, r⟩ := I.slot i _ h
  have hin : ∀ {b : Addr}, some b ∈ ow.set i none → some b ∈ ow ∧ b ≠ a := fun {b} hb => by
    obtain ⟨j, hj⟩ := List.getElem?_of_mem hb
    by_cases hij : j = i
    · subst hij
      rw [List.getElem?_set] at hj
      split at hj
      · split at hj <;> cases hj
      · contradiction
    · rw [List.getElem?_set_ne (Ne.symm hij)] at hj
      exact ⟨List.mem_of_getElem? hj, fun z => hij (I.inj j i a (by rw [← z]; exact hj) e2)⟩
  have hget : ∀ {j : Nat} {b : Addr}, (ow.set i none)[j]? = some (some b) → ow[j]? = some (some b) ∧ j ≠ i := fun {j b} hj => by
    by_cases hij : j = i
    · subst hij
      rw [List.getElem?_set] at hj
      split at hj
      · split at hj <;> cases hj
      · contradiction
    · rw [List.getElem?_set_ne (Ne.symm hij)] at hj
      exact ⟨hj, hij⟩
  have less : ∀ b, Av S.A (ow.set i none) b → Av S.A ow b := fun b z => z.elim .inl fun z => .inr (hin z).1
  have na : ¬ Av S.A (ow.set i none) a := fun z => z.elim (fun z => I.sep a (List.mem_of_getElem? e2) z) fun z => (hin z).2 rfl
  have rr : Rp K H (Av S.A (ow.set i none)) (.ref a) d := .cell e3 na (r.pres (Pres.less less))
  refine ⟨a, e1, ⟨by simpa using I.len, by simpa using I.lenO, fun j s e => ?_, fun j k b h1 h2 => I.inj j k b (hget h1).1 (hget h2).1, fun b hb => I.live b (less b hb), fun b hb => I.sep b (hin hb).1, I.frame, fun b hb => I.fresh b (hin hb).1, fun p hp => ?_, fun j d' e => ?_, fun p hp => ?_⟩, rr⟩
  · by_cases hij : j = i
    · subst hij
      rw [List.getElem?_set] at e
      split at e
      · split at e
        · cases e; exact ⟨_, e1, rr⟩
        · cases e
      · contradiction
    · rw [List.getElem?_set_ne (Ne.symm hij)] at e
      rw [List.getElem?_set_ne (Ne.symm hij)]
      exact (I.slot j s e).pres (Pres.less less) fun _ _ => rfl
  · obtain ⟨h1, d', h2⟩ := I.io p hp
    have hne : i ≠ p.1 := fun z => by rw [← z, h] at h2; cases h2
    exact ⟨by rw [List.getElem?_set_ne hne]; exact h1, d', by rw [List.getElem?_set_ne hne]; exact h2⟩
  · by_cases hij : j = i
    · subst hij
      rw [List.getElem?_set] at e
      split at e
      · split at e <;> cases e
      · contradiction
    · rw [List.getElem?_set_ne (Ne.symm hij)] at e
      exact I.iow j d' e
  · obtain ⟨h1, h2⟩ := I.lk p hp
    have hne : i ≠ p.1 := fun z => by rw [← z, h] at h2; cases h2
    exact ⟨h1, by rw [List.getElem?_set_ne hne]; exact h2⟩
theorem mem_set_none {ow : List (Option Addr)} {i : Nat} {a : Addr} (h : some a ∈ ow.set i none) : some a ∈ ow := by
  rcases List.mem_or_eq_of_mem_set h with h | h
  · exact h
  · cases h
theorem stp_less {H : Hp} {ow ow' : List (Option Addr)} (h : ∀ a : Addr, some a ∈ ow' → some a ∈ ow) : Stp ow H ow' H := ⟨fun a o e n => ⟨e, fun z => n (h a z)⟩, fun _ _ e => e, fun _ _ _ e => e, fun _ o e => ⟨o, e⟩⟩
theorem e_var {X : Cx} (i : Nat) {x : Str} {pos : Pos} (h : PE X (.Name x pos) (tVar i)) : PE X (.Name x pos) (EvS X.K (eVar i)) := h.imp fun σ H Q ⟨S, ow, env, I, d, env', hm, k⟩ => by
  unfold eVar at hm
  split at hm
  · rename_i d' e
    cases hm
    obtain ⟨v, e1, r⟩ := I.slot i _ e
    exact ⟨v, e1, k S ow v H .refl I (.inl ⟨rfl, r, fun z => by cases z⟩)⟩
  · rename_i d' e
    cases hm
    obtain ⟨a, e1, J, r⟩ := I.share e
    exact ⟨_, e1, k S _ _ H (stp_less fun a z => mem_set_none z) J (.inl ⟨rfl, r, fun z => by cases z⟩)⟩
  · cases hm
theorem e_c {X : Cx} {e : Expr} {v : V} {d : D} (h : PE X e (tC v)) (r : ∀ H P, Rp X.K H P v d) (n : isMutD d = false := by rfl) : PE X e (EvF X.K (eC d)) := h.imp fun σ H Q ⟨S, ow, env, I, d', env', hm, k⟩ => by
  cases hm
  exact k S ow v H .refl I (.inl ⟨rfl, r _ _, fun _ => n⟩)

/-! ### argument lists -/
def evA : List Arg → Env → Option (List D × Env)
  | [], env => some ([], env)
  | .v m :: as, env => (m env).bind fun (d, e1) => (evA as e1).bind fun (ds, e2) => some (d :: ds, e2)
  | .b i :: as, env => (peek env i).bind fun _ => (evA as env).bind fun (ds, e2) => (peek e2 i).bind fun d => some (d :: ds, e2)
def rdArg (K : PySem.W.Frag) : Arg → TE
  | .v m => EvS K m
  | .b i => tVar i
def tArgs (K : PySem.W.Frag) : List Arg → TA
  | [] => tNil
  | a :: as => tCons (rdArg K a) (tArgs K as)
theorem args_ok {K : PySem.W.Frag} {S : SS} {σ : L2.St} : ∀ (args : List Arg) {ow : List (Option Addr)} {H : Hp} {env env' : Env} {ds : List D} {R : List V → Hp → Prop}, Sim K S ow σ H env → evA args env = some (ds, env') →
    (∀ ow' vs H', Stp ow H ow' H' → Sim K S ow' σ H' env' → RpTs K H' (Av S.A ow') vs ds → R vs H') → tArgs K args σ H R
  | [], ow, H, env, env', ds, R, I, h, k => by
    cases h
    exact k ow [] H .refl I .nil
  | .v m :: as, ow, H, env, env', ds, R, I, h, k => by
    unfold evA at h
    simp only [Option.bind_eq_some_iff] at h
    obtain ⟨⟨d, e1⟩, h1, ⟨ds1, e2⟩, h2, h3⟩ := h
    cases h3
    refine ⟨S, ow, env, I, d, e1, h1, fun S' ow1 v H1 st1 I1 f => ?_⟩
    obtain ⟨rfl, r⟩ := f.shared
    refine args_ok as I1 h2 fun ow2 vs H2 st2 I2 rs => ?_
    exact k ow2 (v :: vs) H2 (st1.trans st2) I2 (.cons (.inl (r.pres st2.pres)) rs)
  | .b i :: as, ow, H, env, env', ds, R, I, h, k => by
    unfold evA at h
    simp only [Option.bind_eq_some_iff] at h
    obtain ⟨d0, h0, ⟨ds1, e2⟩, h2, d, hp, h3⟩ := h
    cases h3
    obtain ⟨v, ev, _⟩ := I.peek h0
    refine ⟨v, ev, ?_⟩
    refine args_ok as I h2 fun ow2 vs H2 st2 I2 rs => ?_
    obtain ⟨v', ev', r⟩ := I2.peek hp
    rw [ev] at ev'
    cases ev'
    exact k ow2 (v :: vs) H2 st2 I2 (.cons r rs)
/-- an argument as an expression of its own -/
def PArg (X : Cx) (e : Expr) (a : Arg) : Prop := PE X e (rdArg X.K a)
def eApp (g : List D → Option D) (args : List Arg) : EM := fun env => (evA args env).bind fun (ds, e) => (g ds).bind fun d => some (d, e)
section
variable {X : Cx} {fr : Bool} {g : List D → Option D} {a b : Expr} {ma mb : Arg} {pos : Pos}
theorem evA_len : ∀ {args : List Arg} {env e : Env} {ds : List D}, evA args env = some (ds, e) → ds.length = args.length
  | [], _, _, _, h => by cases h; rfl
  | .v m :: as, env, e, ds, h => by
    unfold evA at h
    simp only [Option.bind_eq_some_iff] at h
    obtain ⟨⟨d, e1⟩, h1, ⟨ds1, e2⟩, h2, h3⟩ := h
    cases h3
    simp [evA_len h2]
  | .b i :: as, env, e, ds, h => by
    unfold evA at h
    simp only [Option.bind_eq_some_iff] at h
    obtain ⟨d0, h0, ⟨ds1, e2⟩, h2, d, hp, h3⟩ := h
    cases h3
    simp [evA_len h2]
theorem RpTs.length {K : PySem.W.Frag} {H : Hp} {P : Addr → Prop} : ∀ {vs : List V} {ds : List D}, RpTs K H P vs ds → vs.length = ds.length
  | _, _, .nil => rfl
  | _, _, .cons _ t => by simp [t.length]
theorem two_go {K : PySem.W.Frag} {σ : L2.St} {H : Hp} {Q : VK} {r : R2} (hr : ∀ x y H Q, r2 fr K g x y H Q → r x y H Q) (h : Ev fr K (eApp g [ma, mb]) σ H Q) : tOp r (rdArg K ma) (rdArg K mb) σ H Q := by
  obtain ⟨S, ow, env, I, d, env', hm, k⟩ := h
  unfold eApp at hm
  simp only [Option.bind_eq_some_iff] at hm
  obtain ⟨⟨ds, e⟩, h1, d', h2, h3⟩ := hm
  cases h3
  have q : tArgs K [ma, mb] σ H (fun vs H2 => match vs with | [x, y] => r x y H2 Q | _ => False) := by
    refine args_ok [ma, mb] I h1 fun ow' vs H' st I' rs => ?_
    have l1 := evA_len h1
    have l2 := rs.length
    match vs, ds, rs with
    | [x, y], [dx, dy], .cons rx (.cons ry .nil) => exact hr _ _ _ _ ⟨_, dx, dy, d, rx, ry, h2, fun v H2 res => res.go I' st k⟩
    | [], [], .nil => simp at l1
    | [x], [dx], .cons rx .nil => simp at l1
    | x :: y :: z :: r, dx :: dy :: dz :: ds', .cons rx (.cons ry (.cons rz rr)) => simp at l1
  exact q
theorem one_go {K : PySem.W.Frag} {σ : L2.St} {H : Hp} {Q : VK} {r : V → Hp → VK → Prop} (hr : ∀ x H Q, r1 fr K g x H Q → r x H Q) (h : Ev fr K (eApp g [ma]) σ H Q) : tUn r (rdArg K ma) σ H Q := by
  obtain ⟨S, ow, env, I, d, env', hm, k⟩ := h
  unfold eApp at hm
  simp only [Option.bind_eq_some_iff] at hm
  obtain ⟨⟨ds, e⟩, h1, d', h2, h3⟩ := hm
  cases h3
  have q : tArgs K [ma] σ H (fun vs H2 => match vs with | [x] => r x H2 Q | _ => False) := by
    refine args_ok [ma] I h1 fun ow' vs H' st I' rs => ?_
    have l1 := evA_len h1
    have l2 := rs.length
    match vs, ds, rs with
    | [x], [dx], .cons rx .nil => exact hr _ _ _ ⟨_, dx, d, rx, h2, fun v H2 res => res.go I' st k⟩
    | [], [], .nil => simp at l1
    | x :: y :: r, dx :: dy :: ds', .cons rx (.cons ry rr) => simp at l1
  exact q
theorem many_go {K : PySem.W.Frag} {σ : L2.St} {H : Hp} {Q : VK} {args : List Arg} {r : List V → Hp → VK → Prop} (hr : ∀ xs H Q, rL fr K g xs H Q → r xs H Q) (h : Ev fr K (eApp g args) σ H Q) : tCB r (tArgs K args) σ H Q := by
  obtain ⟨S, ow, env, I, d, env', hm, k⟩ := h
  unfold eApp at hm
  simp only [Option.bind_eq_some_iff] at hm
  obtain ⟨⟨ds, e⟩, h1, d', h2, h3⟩ := hm
  cases h3
  exact args_ok args I h1 fun ow' vs H' st I' rs => hr _ _ _ ⟨_, ds, d, rs, h2, fun v H2 res => res.go I' st k⟩
theorem e_bin {op : Operator} (ho : OpR X (binaryOp op) (r2 fr X.K g)) (ha : PArg X a ma) (hb : PArg X b mb) : PE X (.BinOp a op b pos) (Ev fr X.K (eApp g [ma, mb])) :=
  (pe_op ho ha hb).imp fun _ _ _ h => two_go (fun _ _ _ _ q => q) h
theorem e_un {op : UnaryOp} (ho : UnR X (unaryOp op) (r1 fr X.K g)) (ha : PArg X a ma) : PE X (.UnaryOp op a pos) (Ev fr X.K (eApp g [ma])) :=
  (pe_un ho ha).imp fun _ _ _ h => one_go (fun _ _ _ q => q) h
theorem e_cmp {op : CmpOp} (ho : OpR X (compareOp op) (r2 fr X.K g)) (ha : PArg X a ma) (hb : PArg X b mb) (hm : behindInMarks op b = false) : PE X (.Compare a [op] [b] pos) (Ev fr X.K (eApp g [ma, mb])) :=
  (pe_cmpR ho ha hb hm).imp fun _ _ _ h => two_go (fun _ _ _ _ q => q) h
theorem e_ix (ho : IxR X (r2 fr X.K g)) (ha : PArg X a ma) (hb : PArg X b mb) (hs : PlainIx b) : PE X (.Subscript a b pos) (Ev fr X.K (eApp g [ma, mb])) :=
  (pe_ix ho ha hb hs).imp fun _ _ _ h => two_go (fun _ _ _ _ q => q) h
/-- argument lists -/
theorem pargs_nil : PA X [] (tArgs X.K []) := pa_nil
theorem pargs_cons {e : Expr} {es : List Expr} {a : Arg} {as : List Arg} (ha : PArg X e a) (hr : PA X es (tArgs X.K as)) (hs : starEach (e :: es) X.env = (false, eval e X.env) :: starEach es X.env := by rfl) : PA X (e :: es) (tArgs X.K (a :: as)) := pa_cons ha hr hs
theorem e_callB {x : Str} {p : Pos} {id : String} {e : Expr} {es : List Expr} {args : List Arg} (hc : CallR X (.builtin id) (rL fr X.K g)) (hg : Gl X x) (hm : X.mg x = none) (hv : bootBuiltins x = some (.builtin id)) (ha : PA X (e :: es) (tArgs X.K args)) (hn : x ≠ "__name__" := by decide) (hdb : (x == ("__debug__" : Str)) = false := by decide)
    (he : starEach (e :: es) X.env = (false, eval e X.env) :: starEach es X.env := by rfl) (hpl : (backTo pos (starEach es X.env)).any (·.1) = false := by rfl) : PE X (.Call (.Name x p) (e :: es) [] pos) (Ev fr X.K (eApp g args)) :=
  (pe_callB hc hg hm hv ha hn hdb he hpl).imp fun _ _ _ h => many_go (fun _ _ _ q => q) h
theorem e_callTy {x : Str} {p : Pos} {T : String} {e : Expr} {es : List Expr} {args : List Arg} (hc : CallR X (.type T) (rL fr X.K g)) (hg : Gl X x) (hm : X.mg x = none) (hv : bootBuiltins x = some (.type T)) (ha : PA X (e :: es) (tArgs X.K args)) (hn : x ≠ "__name__" := by decide) (hdb : (x == ("__debug__" : Str)) = false := by decide)
    (he : starEach (e :: es) X.env = (false, eval e X.env) :: starEach es X.env := by rfl) (hpl : (backTo pos (starEach es X.env)).any (·.1) = false := by rfl) : PE X (.Call (.Name x p) (e :: es) [] pos) (Ev fr X.K (eApp g args)) :=
  (pe_callTy hc hg hm hv ha hn hdb he hpl).imp fun _ _ _ h => many_go (fun _ _ _ q => q) h
theorem p_v {e : Expr} {m : EM} (h : PE X e (EvS X.K m)) : PArg X e (.v m) := h
theorem p_f {e : Expr} {m : EM} (h : PE X e (EvF X.K m)) : PArg X e (.v m) := e_sh h
theorem p_b {i : Nat} {x : Str} (h : PE X (.Name x pos) (tVar i)) : PArg X (.Name x pos) (.b i) := h

/-! ### displays -/
def evL : List EM → Env → Option (List D × Env)
  | [], env => some ([], env)
  | m :: ms, env => (m env).bind fun (d, e1) => (evL ms e1).bind fun (ds, e2) => some (d :: ds, e2)
def tEs (K : PySem.W.Frag) : List EM → TA
  | [] => tNil
  | m :: ms => tCons (EvS K m) (tEs K ms)
theorem es_ok {K : PySem.W.Frag} {S : SS} {σ : L2.St} : ∀ (ms : List EM) {ow : List (Option Addr)} {H : Hp} {env env' : Env} {ds : List D} {R : List V → Hp → Prop}, Sim K S ow σ H env → evL ms env = some (ds, env') →
    (∀ ow' vs H', Stp ow H ow' H' → Sim K S ow' σ H' env' → RpL K H' (Av S.A ow') vs ds → R vs H') → tEs K ms σ H R
  | [], ow, H, env, env', ds, R, I, h, k => by
    cases h
    exact k ow [] H .refl I .nil
  | m :: as, ow, H, env, env', ds, R, I, h, k => by
    unfold evL at h
    simp only [Option.bind_eq_some_iff] at h
    obtain ⟨⟨d, e1⟩, h1, ⟨ds1, e2⟩, h2, h3⟩ := h
    cases h3
    refine ⟨S, ow, env, I, d, e1, h1, fun S' ow1 v H1 st1 I1 f => ?_⟩
    obtain ⟨rfl, r⟩ := f.shared
    refine es_ok as I1 h2 fun ow2 vs H2 st2 I2 rs => ?_
    exact k ow2 (v :: vs) H2 (st1.trans st2) I2 (.cons (r.pres st2.pres) rs)
theorem evL_len : ∀ {ms : List EM} {env e : Env} {ds : List D}, evL ms env = some (ds, e) → ds.length = ms.length
  | [], _, _, _, h => by cases h; rfl
  | m :: as, env, e, ds, h => by
    unfold evL at h
    simp only [Option.bind_eq_some_iff] at h
    obtain ⟨⟨d, e1⟩, h1, ⟨ds1, e2⟩, h2, h3⟩ := h
    cases h3
    simp [evL_len h2]
def eTup (ms : List EM) : EM := fun env => (evL ms env).map fun (ds, e) => (.tup ds, e)
def eLst (ms : List EM) : EM := fun env => (evL ms env).map fun (ds, e) => (.lst ds, e)
theorem pes_nil : PA X [] (tEs X.K []) := pa_nil
theorem pes_cons {e : Expr} {es : List Expr} {a : EM} {as : List EM} (ha : PE X e (EvS X.K a)) (hr : PA X es (tEs X.K as)) (hs : starEach (e :: es) X.env = (false, eval e X.env) :: starEach es X.env := by rfl) : PA X (e :: es) (tEs X.K (a :: as)) := pa_cons ha hr hs
theorem e_tup {es : List Expr} {ms : List EM} {x1 : Nat} (h : PA X es (tEs X.K ms)) (hz : ms.length ≤ 1000 := by decide) : PE X (.Tuple es x1 pos) (EvF X.K (eTup ms)) := (pe_tup h).imp fun σ H Q ⟨S, ow, env, I, d, env', hm, k⟩ => by
  unfold eTup at hm
  simp only [Option.map_eq_some_iff] at hm
  obtain ⟨⟨ds, e⟩, h1, h2⟩ := hm
  cases h2
  refine es_ok ms I h1 fun ow' vs H' st I' rs => ⟨?_, fun p hp => ?_⟩
  · rw [rs.length, evL_len h1, sizeLine_eq]; omega
  · exact Res.go (fr := true) (.newT hp rs) I' st k
theorem e_lst {es : List Expr} {ms : List EM} (h : PA X es (tEs X.K ms)) (hz : ms.length ≤ 1000 := by decide) : PE X (.List es pos) (EvF X.K (eLst ms)) := (pe_lst h).imp fun σ H Q ⟨S, ow, env, I, d, env', hm, k⟩ => by
  unfold eLst at hm
  simp only [Option.map_eq_some_iff] at hm
  obtain ⟨⟨ds, e⟩, h1, h2⟩ := hm
  cases h2
  refine es_ok ms I h1 fun ow' vs H' st I' rs => ⟨?_, fun p hp => ?_⟩
  · rw [rs.length, evL_len h1, sizeLine_eq]; omega
  · exact Res.go (fr := true) (.newC hp (.lst rs)) I' st k

/-! ### tests, and or not, a if t else b -/
def truth : D → Option Bool
  | .non => some false
  | .bl b => some b
  | .int i => some (i != 0)
  | .str s => if s.length ≤ 16777216 then some (!s.isEmpty) else none
  | .tup ds => some (!ds.isEmpty)
  | .lst ds => some (!ds.isEmpty)
  | _ => none
theorem truth_ok {K : PySem.W.Frag} {H : Hp} {P : Addr → Prop} {v : V} {d : D} {k : Bool} (r : RpT K H P v d) (h : truth d = some k) : TruV K v H k := by
  have fin : ∀ {o : HO} {a : Addr}, (H a = some o ∨ ∃ ob, H a = some (.frz ob o)) → RpC K H P o d → TruV K (.ref a) H k := fun {o a} e rc => by
    cases rc with
    | @lst vs ds rl =>
      have hk : k = !ds.isEmpty := (Option.some.inj h).symm
      refine .inl ⟨vs, .inl ?_, ?_⟩
      · rcases e with e | e
        · exact .inl e
        · exact .inr e
      · rw [hk]; cases rl <;> rfl
    | dK _ => cases h
    | dT _ => cases h
  rcases r with r | ⟨a, o, rfl, e, rc⟩
  · cases r with
    | non => exact (Option.some.inj h).symm
    | bl b => exact (Option.some.inj h).symm
    | int i => exact (Option.some.inj h).symm
    | str x =>
      have h : (if x.cps.toList.length ≤ 16777216 then some (!x.cps.toList.isEmpty) else none) = some k := h
      by_cases hz : x.cps.toList.length ≤ 16777216
      · rw [if_pos hz] at h
        refine ⟨by rw [sizeLine_eq]; simpa [Str.length] using hz, ?_⟩
        rw [← Option.some.inj h]
        show _ = ((x.cps.size : Int) != 0)
        rw [← Array.length_toList]
        cases x.cps.toList with
        | nil => rfl
        | cons c r => rw [Bool.eq_iff_iff]; simp; omega
      · rw [if_neg hz] at h; cases h
    | @tup a vs ds hs rl =>
      have hk : k = !ds.isEmpty := (Option.some.inj h).symm
      refine .inr (.inl ⟨vs, hs, ?_⟩)
      rw [hk]; cases rl <;> rfl
    | cell e _ rc => exact fin (.inl e) rc
    | frz e rc => exact fin (.inr ⟨_, e⟩) rc
    | @kls a vs ds hs rl =>
      have hk : k = !ds.isEmpty := (Option.some.inj h).symm
      refine .inl ⟨vs, hs.sq, ?_⟩
      rw [hk]; cases rl <;> rfl
    | opq v => cases h
  · exact fin (.inl e) rc
def asB : D → Option Bool
  | .bl b => some b
  | _ => none
def tB_ (m : EM) : TM := fun env => (m env).bind fun (d, e) => (asB d).bind fun b => some (b, e)
def tTr (a : Arg) : TM := fun env => (evA [a] env).bind fun (ds, e) => match ds with | [d] => (truth d).bind fun b => some (b, e) | _ => none
def tNo (t : TM) : TM := fun env => (t env).map fun (b, e) => (!b, e)
def tAn (t u : TM) : TM := fun env => (t env).bind fun (b, e) => if b = true then u e else some (false, e)
def tOrr (t u : TM) : TM := fun env => (t env).bind fun (b, e) => if b = true then some (true, e) else u e
theorem Rp.bl_inv {K : PySem.W.Frag} {H : Hp} {P : Addr → Prop} {v : V} {b : Bool} (r : Rp K H P v (.bl b)) : v = .bl b := by
  cases r with
  | bl => rfl
  | cell _ _ rc => cases rc
  | frz _ rc => cases rc
theorem t_cmp {op : CmpOp} (ho : OpR X (compareOp op) (r2 true X.K g)) (ha : PArg X a ma) (hb : PArg X b mb) (hm : behindInMarks op b = false) : PT X (.Compare a [op] [b] pos) (EvT X.K (tB_ (eApp g [ma, mb]))) :=
  (pt_cmpR ho ha hb hm).imp fun σ H Q ⟨S, ow, env, I, c, env', hm, k⟩ => by
    unfold tB_ at hm
    simp only [Option.bind_eq_some_iff] at hm
    obtain ⟨⟨d, e⟩, h1, c', h2, h3⟩ := hm
    cases h3
    refine two_go (fr := true) (g := g) (fun _ _ _ _ q => q) ⟨S, ow, env, I, d, _, h1, fun S' ow' v H' st J f => ?_⟩
    have hd : d = .bl c := by
      cases d <;> first | (cases h2; rfl) | cases h2
    subst hd
    rcases f with ⟨rfl, r, _⟩ | ⟨_, p, o, _, _, _, _, r⟩
    · exact ⟨c, r.bl_inv, k ow' H' st J⟩
    · cases r
theorem t_truth (ha : PArg X a ma) (he : ∀ whole, isTrue a X.env whole = (do let v ← whole; standAt a.pos; holding [v] (truthy v)) := by intro _; rfl) : PT X a (EvT X.K (tTr ma)) :=
  (pt_truth ha he).imp fun σ H Q ⟨S, ow, env, I, c, env', hm, k⟩ => by
    unfold tTr at hm
    simp only [Option.bind_eq_some_iff] at hm
    obtain ⟨⟨ds, e⟩, h1, h2⟩ := hm
    have q : tArgs X.K [ma] σ H (fun vs H2 => match vs with | [x] => ∃ k, TruV X.K x H2 k ∧ Q k H2 | _ => False) := by
      refine args_ok [ma] I h1 fun ow' vs H' st I' rs => ?_
      have l1 := evA_len h1
      match vs, ds, rs with
      | [x], [dx], .cons rx .nil =>
        simp only [Option.bind_eq_some_iff] at h2
        obtain ⟨b', h3, h4⟩ := h2
        cases h4
        exact ⟨_, truth_ok rx h3, k ow' H' st I'⟩
      | [], [], .nil => simp at l1
      | x :: y :: r, dx :: dy :: ds', .cons rx (.cons ry rr) => simp at l1
    exact q
theorem t_not {t : TM} (h : PT X a (EvT X.K t)) : PT X (.UnaryOp .Not a pos) (EvT X.K (tNo t)) := (pt_not h).imp fun σ H Q ⟨S, ow, env, I, c, env', hm, k⟩ => by
  unfold tNo at hm
  simp only [Option.map_eq_some_iff] at hm
  obtain ⟨⟨b, e⟩, h1, h2⟩ := hm
  cases h2
  exact ⟨S, ow, env, I, b, _, h1, k⟩
theorem _root_.L2.PW.imp {e : Expr} {t t' : TT} (h : PW X e t) (w : ∀ σ H Q, t' σ H Q → t σ H Q) : PW X e t' := ⟨fun wh pins s σ H Q I q => h.run wh pins s σ H Q I (w σ H Q q)⟩
theorem w_and1 {t : TM} (h : PT X a (EvT X.K t)) : PW X (.BoolOp .And [a] pos) (EvT X.K t) := pw_and1 h
theorem w_or1 {t : TM} (h : PT X a (EvT X.K t)) : PW X (.BoolOp .Or [a] pos) (EvT X.K t) := pw_or1 h
theorem w_and {rest : List Expr} {t u : TM} (h : PT X a (EvT X.K t)) (h' : PW X (.BoolOp .And (b :: rest) pos) (EvT X.K u)) : PW X (.BoolOp .And (a :: b :: rest) pos) (EvT X.K (tAn t u)) := (pw_and h h').imp fun σ H Q ⟨S, ow, env, I, c, env', hm, k⟩ => by
  unfold tAn at hm
  simp only [Option.bind_eq_some_iff] at hm
  obtain ⟨⟨b, e⟩, h1, h2⟩ := hm
  refine ⟨S, ow, env, I, b, e, h1, fun ow1 H1 st1 I1 => ?_⟩
  cases b with
  | true => exact ⟨S, ow1, e, I1, c, env', h2, fun ow2 H2 st2 I2 => k ow2 H2 (st1.trans st2) I2⟩
  | false => cases h2; exact k ow1 H1 st1 I1
theorem w_or {rest : List Expr} {t u : TM} (h : PT X a (EvT X.K t)) (h' : PW X (.BoolOp .Or (b :: rest) pos) (EvT X.K u)) : PW X (.BoolOp .Or (a :: b :: rest) pos) (EvT X.K (tOrr t u)) := (pw_or h h').imp fun σ H Q ⟨S, ow, env, I, c, env', hm, k⟩ => by
  unfold tOrr at hm
  simp only [Option.bind_eq_some_iff] at hm
  obtain ⟨⟨b, e⟩, h1, h2⟩ := hm
  refine ⟨S, ow, env, I, b, e, h1, fun ow1 H1 st1 I1 => ?_⟩
  cases b with
  | true => cases h2; exact k ow1 H1 st1 I1
  | false => exact ⟨S, ow1, e, I1, c, env', h2, fun ow2 H2 st2 I2 => k ow2 H2 (st1.trans st2) I2⟩
def eIf (t : TM) (m n : EM) : EM := fun env => (t env).bind fun (b, e) => if b = true then m e else n e
theorem Ev.after {K : PySem.W.Frag} {m : EM} {S : SS} {ow ow1 : List (Option Addr)} {σ : L2.St} {H H1 : Hp} {e1 env' : Env} {d : D} {Q : VK} (st : Stp ow H ow1 H1) (I : Sim K S ow1 σ H1 e1) (hm : m e1 = some (d, env'))
    (k : ∀ S' ow' v H', Stp ow H ow' H' → Sim K S' ow' σ H' env' → FrR fr K S S' H H' ow' v d → Q v H') : Ev fr K m σ H1 Q :=
  ⟨S, ow1, e1, I, d, env', hm, fun S' ow' v H' st' J f => k S' ow' v H' (st.trans st') J (f.elim .inl fun ⟨e, p, o, e1, e2, e3, r⟩ => .inr ⟨e, p, o, e1, e2, st.back e3, r⟩)⟩
theorem e_if {c : Expr} {t : TM} {m n : EM} (hc : PT X c (EvT X.K t)) (ha : PE X a (Ev fr X.K m)) (hb : PE X b (Ev fr X.K n)) : PE X (.IfExp c a b pos) (Ev fr X.K (eIf t m n)) := (pe_ifExp hc ha hb).imp fun σ H Q ⟨S, ow, env, I, d, env', hm, k⟩ => by
  unfold eIf at hm
  simp only [Option.bind_eq_some_iff] at hm
  obtain ⟨⟨b, e⟩, h1, h2⟩ := hm
  refine ⟨S, ow, env, I, b, e, h1, fun ow1 H1 st1 I1 => ?_⟩
  cases b with
  | true => exact Ev.after st1 I1 h2 k
  | false => exact Ev.after st1 I1 h2 k
/-- or, and, not as values, by truth -/
def eOr (m n : EM) : EM := fun env => (m env).bind fun (d, e) => (truth d).bind fun b => if b = true then some (d, e) else n e
def eAnd (m n : EM) : EM := fun env => (m env).bind fun (d, e) => (truth d).bind fun b => if b = true then n e else some (d, e)
def eNot (a : Arg) : EM := fun env => (evA [a] env).bind fun (ds, e) => match ds with | [d] => (truth d).bind fun b => some (.bl (!b), e) | _ => none
theorem e_one {op : BoolOp} {m : EM} (h : PE X a (Ev fr X.K m)) : PE X (.BoolOp op [a] pos) (Ev fr X.K m) := pe_one h
theorem e_or {rest : List Expr} {m n : EM} (h : PE X a (EvS X.K m)) (h' : PE X (.BoolOp .Or (b :: rest) pos) (EvS X.K n)) : PE X (.BoolOp .Or (a :: b :: rest) pos) (EvS X.K (eOr m n)) := (pe_orT h h').imp fun σ H Q ⟨S, ow, env, I, d, env', hm, k⟩ => by
  unfold eOr at hm
  simp only [Option.bind_eq_some_iff] at hm
  obtain ⟨⟨d1, e⟩, h1, b, h2, h3⟩ := hm
  refine ⟨S, ow, env, I, d1, e, h1, fun S' ow1 v H1 st1 I1 f => ⟨b, truth_ok (.inl f.shared.2) h2, ?_⟩⟩
  obtain ⟨rfl, r⟩ := f.shared
  cases b with
  | true => cases h3; exact k _ ow1 v H1 st1 I1 f
  | false => exact Ev.after st1 I1 h3 k
theorem e_and {rest : List Expr} {m n : EM} (h : PE X a (EvS X.K m)) (h' : PE X (.BoolOp .And (b :: rest) pos) (EvS X.K n)) : PE X (.BoolOp .And (a :: b :: rest) pos) (EvS X.K (eAnd m n)) := (pe_andT h h').imp fun σ H Q ⟨S, ow, env, I, d, env', hm, k⟩ => by
  unfold eAnd at hm
  simp only [Option.bind_eq_some_iff] at hm
  obtain ⟨⟨d1, e⟩, h1, b, h2, h3⟩ := hm
  refine ⟨S, ow, env, I, d1, e, h1, fun S' ow1 v H1 st1 I1 f => ⟨b, truth_ok (.inl f.shared.2) h2, ?_⟩⟩
  obtain ⟨rfl, r⟩ := f.shared
  cases b with
  | true => exact Ev.after st1 I1 h3 k
  | false => cases h3; exact k _ ow1 v H1 st1 I1 f
theorem e_not (ha : PArg X a ma) : PE X (.UnaryOp .Not a pos) (EvF X.K (eNot ma)) := (pe_notT ha).imp fun σ H Q ⟨S, ow, env, I, d, env', hm, k⟩ => by
  unfold eNot at hm
  simp only [Option.bind_eq_some_iff] at hm
  obtain ⟨⟨ds, e⟩, h1, h2⟩ := hm
  have q : tArgs X.K [ma] σ H (fun vs H2 => match vs with | [x] => ∃ k, TruV X.K x H2 k ∧ Q (.bl (!k)) H2 | _ => False) := by
    refine args_ok [ma] I h1 fun ow' vs H' st I' rs => ?_
    have l1 := evA_len h1
    match vs, ds, rs with
    | [x], [dx], .cons rx .nil =>
      simp only [Option.bind_eq_some_iff] at h2
      obtain ⟨b', h3, h4⟩ := h2
      cases h4
      exact ⟨_, truth_ok rx h3, k S ow' _ H' st I' (.inl ⟨rfl, .bl _, fun _ => rfl⟩)⟩
    | [], [], .nil => simp at l1
    | x :: y :: r, dx :: dy :: ds', .cons rx (.cons ry rr) => simp at l1
  exact q
/-- a op b op' c -/
def eChain (g g' : List D → Option D) (a b c : EM) : EM := fun env => (a env).bind fun (x, e1) => (b e1).bind fun (y, e2) => (g [x, y]).bind fun z => (asB z).bind fun k => if k = true then (c e2).bind fun (w, e3) => (g' [y, w]).bind fun z' => some (z', e3) else some (.bl false, e2)
theorem chain_go {K : PySem.W.Frag} {g' : List D → Option D} {r r' : R2} {m n l : EM} {σ : L2.St} {H : Hp} {Q : VK} (hr : ∀ x y H Q, r2 true K g x y H Q → r x y H Q) (hr' : ∀ x y H Q, r2 true K g' x y H Q → r' x y H Q)
    (h : EvF K (eChain g g' m n l) σ H Q) : tChain r r' (EvS K m) (EvS K n) (EvS K l) σ H Q := by
  obtain ⟨S, ow, env, I, d, env', hm, k⟩ := h
  unfold eChain at hm
  simp only [Option.bind_eq_some_iff] at hm
  obtain ⟨⟨x, e1⟩, h1, ⟨y, e2⟩, h2, z, h3, b, h4, h5⟩ := hm
  have hz : z = .bl b := by cases z <;> first | (cases h4; rfl) | cases h4
  subst hz
  refine ⟨S, ow, env, I, x, e1, h1, fun S1 ow1 v1 H1 st1 I1 f1 => ?_⟩
  obtain ⟨rfl, q1⟩ := f1.shared
  refine ⟨_, ow1, e1, I1, y, e2, h2, fun S2 ow2 v2 H2 st2 I2 f2 => ?_⟩
  obtain ⟨rfl, q2⟩ := f2.shared
  refine hr _ _ _ _ ⟨_, x, y, _, .inl (q1.pres st2.pres), .inl q2, h3, fun v H3 res => ?_⟩
  cases res with
  | newC _ rc => cases rc
  | same rr _ =>
    refine ⟨b, rr.bl_inv, ?_⟩
    cases b with
    | false =>
      cases h5
      exact k _ ow2 _ H2 (st1.trans st2) I2 (.inl ⟨rfl, .bl _, fun _ => rfl⟩)
    | true =>
      simp only [if_true, Option.bind_eq_some_iff] at h5
      obtain ⟨⟨w, e3⟩, h6, z', h7, h8⟩ := h5
      cases h8
      refine ⟨_, ow2, e2, I2, w, e3, h6, fun S3 ow3 v3 H3 st3 I3 f3 => ?_⟩
      obtain ⟨rfl, q3⟩ := f3.shared
      exact hr' _ _ _ _ ⟨_, y, w, _, .inl (q2.pres st3.pres), .inl q3, h7, fun v H4 res => res.go I3 ((st1.trans st2).trans st3) k⟩
theorem e_chain {op op' : CmpOp} {g' : List D → Option D} {c : Expr} {m n l : EM} (ho : OpR X (compareOp op) (r2 true X.K g)) (ho' : OpR X (compareOp op') (r2 true X.K g')) (ha : PE X a (EvS X.K m)) (hb : PE X b (EvS X.K n)) (hc : PE X c (EvS X.K l))
    (hm : lastMarks [op, op'] [b, c] = false := by with_unfolding_all rfl) : PE X (.Compare a [op, op'] [b, c] pos) (EvF X.K (eChain g g' m n l)) :=
  (pe_chain ho ho' ha hb hc hm).imp fun _ _ _ h => chain_go (fun _ _ _ _ q => q) (fun _ _ _ _ q => q) h
theorem t_chain {op op' : CmpOp} {g' : List D → Option D} {c : Expr} {m n l : EM} (ho : OpR X (compareOp op) (r2 true X.K g)) (ho' : OpR X (compareOp op') (r2 true X.K g')) (ha : PE X a (EvS X.K m)) (hb : PE X b (EvS X.K n)) (hc : PE X c (EvS X.K l))
    (hm : lastMarks [op, op'] [b, c] = false := by with_unfolding_all rfl) : PT X (.Compare a [op, op'] [b, c] pos) (EvT X.K (tB_ (eChain g g' m n l))) :=
  (pt_chain ho ho' ha hb hc hm).imp fun σ H Q ⟨S, ow, env, I, c, env', hm, k⟩ => by
    unfold tB_ at hm
    simp only [Option.bind_eq_some_iff] at hm
    obtain ⟨⟨d, e⟩, h1, c', h2, h3⟩ := hm
    cases h3
    refine chain_go (g := g) (g' := g') (fun _ _ _ _ q => q) (fun _ _ _ _ q => q) ⟨S, ow, env, I, d, _, h1, fun S' ow' v H' st J f => ?_⟩
    have hd : d = .bl c := by cases d <;> first | (cases h2; rfl) | cases h2
    subst hd
    rcases f with ⟨rfl, r, _⟩ | ⟨_, p, o, _, _, _, _, r⟩
    · exact ⟨c, r.bl_inv, k ow' H' st J⟩
    · cases r
/-- slices -/
def rS (fr : Bool) (K : PySem.W.Frag) (g : D → Option Int → Option Int → Option D) : V → Option Int → Option Int → Hp → VK → Prop := fun x lo hi H Q => ∃ P dx d, RpT K H P x dx ∧ g dx lo hi = some d ∧ ∀ v H', Res fr K H P v d H' → Q v H'
abbrev OM := Env → Option (Option Int × Env)
def oNo : OM := fun env => some (none, env)
def asI : D → Option Int
  | .int i => some i
  | _ => none
def oSo (m : EM) : OM := fun env => (m env).bind fun (d, e) => (asI d).bind fun i => some (some i, e)
def EvO (K : PySem.W.Frag) (m : OM) : TO := fun σ H Q => ∃ S ow env, Sim K S ow σ H env ∧ ∃ o env', m env = some (o, env') ∧ ∀ ow' H', Stp ow H ow' H' → Sim K S ow' σ H' env' → Q o H'
theorem _root_.L2.PO.imp {e : Option Expr} {t t' : TO} (h : PO X e t) (w : ∀ σ H Q, t' σ H Q → t σ H Q) : PO X e t' := ⟨fun pins s σ H Q I q => h.run pins s σ H Q I (w σ H Q q)⟩
theorem o_no : PO X none (EvO X.K oNo) := po_none.imp fun σ H Q ⟨S, ow, env, I, c, env', hm, k⟩ => by cases hm; exact k ow H .refl I
theorem Rp.int_inv {K : PySem.W.Frag} {H : Hp} {P : Addr → Prop} {v : V} {i : Int} (r : Rp K H P v (.int i)) : v = .int i := by
  cases r with
  | int => rfl
  | cell _ _ rc => cases rc
  | frz _ rc => cases rc
theorem o_so {e : Expr} {m : EM} (h : PE X e (EvS X.K m)) : PO X (some e) (EvO X.K (oSo m)) := (po_some h).imp fun σ H Q ⟨S, ow, env, I, c, env', hm, k⟩ => by
  unfold oSo at hm
  simp only [Option.bind_eq_some_iff] at hm
  obtain ⟨⟨d, e⟩, h1, i, h2, h3⟩ := hm
  cases h3
  have hd : d = .int i := by cases d <;> first | (cases h2; rfl) | cases h2
  subst hd
  refine ⟨S, ow, env, I, _, _, h1, fun S' ow' v H' st J f => ?_⟩
  obtain ⟨rfl, r⟩ := f.shared
  exact ⟨i, r.int_inv, k ow' H' st J⟩
def eSl (g : D → Option Int → Option Int → Option D) (a : Arg) (lo hi : OM) : EM := fun env => match a with
  | .v m => (m env).bind fun (d, e1) => (lo e1).bind fun (l, e2) => (hi e2).bind fun (h, e3) => (g d l h).bind fun r => some (r, e3)
  | .b i => (peek env i).bind fun _ => (lo env).bind fun (l, e2) => (hi e2).bind fun (h, e3) => (peek e3 i).bind fun d => (g d l h).bind fun r => some (r, e3)
theorem e_sl {gs : D → Option Int → Option Int → Option D} {lo hi : Option Expr} {ml mh : OM} {p2 : Pos} (hr : SlR X (rS fr X.K gs)) (ha : PArg X a ma) (hl : PO X lo (EvO X.K ml)) (hh : PO X hi (EvO X.K mh)) : PE X (.Subscript a (.Slice lo hi none p2) pos) (Ev fr X.K (eSl gs ma ml mh)) := (pe_slice hr ha hl hh).imp fun σ H Q ⟨S, ow, env, I, d, env', hm, k⟩ => by
  unfold eSl at hm
  cases ma with
  | v m =>
    simp only [Option.bind_eq_some_iff] at hm
    obtain ⟨⟨dx, e1⟩, h1, ⟨l, e2⟩, h2, ⟨h, e3⟩, h3, r, h4, h5⟩ := hm
    cases h5
    refine ⟨S, ow, env, I, dx, e1, h1, fun S1 ow1 v1 H1 st1 I1 f1 => ?_⟩
    obtain ⟨rfl, q1⟩ := f1.shared
    refine ⟨_, ow1, e1, I1, l, e2, h2, fun ow2 H2 st2 I2 => ⟨_, ow2, e2, I2, h, e3, h3, fun ow3 H3 st3 I3 => ?_⟩⟩
    exact ⟨_, dx, d, .inl (q1.pres (st2.trans st3).pres), h4, fun v H4 res => res.go I3 ((st1.trans st2).trans st3) k⟩
  | b i =>
    simp only [Option.bind_eq_some_iff] at hm
    obtain ⟨d0, h0, ⟨l, e2⟩, h2, ⟨h, e3⟩, h3, dx, hp, r, h4, h5⟩ := hm
    cases h5
    obtain ⟨v, ev, _⟩ := I.peek h0
    refine ⟨v, ev, ⟨S, ow, env, I, l, e2, h2, fun ow2 H2 st2 I2 => ⟨S, ow2, e2, I2, h, e3, h3, fun ow3 H3 st3 I3 => ?_⟩⟩⟩
    obtain ⟨v', ev', r⟩ := I3.peek hp
    rw [ev] at ev'
    cases ev'
    exact ⟨_, dx, d, r, h4, fun v H4 res => res.go I3 (st2.trans st3) k⟩
end
end PL
end

section
set_option maxRecDepth 100000
set_option maxHeartbeats 3900000
/-! PL2: what is walked, comprehensions, statements over plain data. -/
namespace PL
open PySem Spec PyProof.Rows L2

/-- a walk yields the values for ds, from (ow, H) on -/
def Src (K : PySem.W.Frag) (A : Addr → Prop) (J : It) (ow : List (Option Addr)) (H : Hp) (ds : List D) : Prop :=
  ∀ A' ow2 H2, (∀ a, A' a → A a ∨ H a = none) → Stp ow H ow2 H2 → ∀ i : Nat, (∀ d, ds[i]? = some d → J.go i H2 ∧ ∀ x H3, J.yld i H2 x H3 → (H3 = H2 ∨ ∃ p vs, H2 p = none ∧ H3 = upd H2 p (.tup vs)) ∧ Rp K H3 (Av A' ow2) x d) ∧ (ds.length = i → J.stop i H2)
abbrev IM := Env → Option (List D × Env)
def EvI (K : PySem.W.Frag) (m : IM) : TI := fun σ H R => ∃ S ow env, Sim K S ow σ H env ∧ ∃ ds env', m env = some (ds, env') ∧
  ∀ ow' H' J, Stp ow H ow' H' → Sim K S ow' σ H' env' → Src K S.A J ow' H' ds → R J H'
theorem _root_.L2.PI.imp {X : Cx} {tg e : Expr} {t t' : TI} (h : PI X tg e t) (w : ∀ σ H R, t' σ H R → t σ H R) : PI X tg e t' := ⟨fun pins s σ H R I q => h.run pins s σ H R I (w σ H R q)⟩
theorem _root_.L2.PI.or {X : Cx} {tg e : Expr} {t t' : TI} (h : PI X tg e t) (h' : PI X tg e t') : PI X tg e (fun σ H R => t σ H R ∨ t' σ H R) :=
  ⟨fun pins s σ H R I q => q.elim (h.run pins s σ H R I) (h'.run pins s σ H R I)⟩
theorem Pres.grow {H : Hp} {A A' : Addr → Prop} {ow : List (Option Addr)} (h : ∀ a, A' a → A a ∨ H a = none) : Pres H (Av A ow) H (Av A' ow) :=
  ⟨fun a o e n => ⟨e, fun z => z.elim (fun z => (h a z).elim (fun z => n (.inl z)) fun z => by rw [e] at z; cases z) fun z => n (.inr z)⟩, fun _ _ e => e, fun _ _ _ e => e⟩

section
variable {K : PySem.W.Frag} {A : Addr → Prop} {ow : List (Option Addr)} {H : Hp} {a : Addr} {vs : List V} {ds : List D}
theorem Stp.sqT {ow2 : List (Option Addr)} {H2 : Hp} (st : Stp ow H ow2 H2) (h : SqT K H a vs) : SqT K H2 a vs := (st.pres (A := fun _ => False)).sqT h
/-- a list that stands, told so that it stands behind any step -/
def StL (K : PySem.W.Frag) (ow : List (Option Addr)) (H : Hp) (a : Addr) (vs : List V) : Prop := ∀ ow2 H2, Stp ow H ow2 H2 → SqL K H2 a vs
theorem StL.of {o : HO} (e : H a = some (.lst vs)) (n : some a ∉ ow) : StL K ow H a vs := fun ow2 H2 st => .inl (.inl (st.cell a _ e n).1)
theorem StL.frz {ob : Obj} (e : H a = some (.frz ob (.lst vs))) : StL K ow H a vs := fun ow2 H2 st => .inl (.inr ⟨ob, st.frz a _ _ e⟩)
theorem src_list (h : StL K ow H a vs) (r : RpL K H (Av A ow) vs ds) : Src K A (Itl K a) ow H ds := fun A' ow2 H2 hA st i => by
  have q := h ow2 H2 st
  have r2 := (r.pres (Pres.grow hA)).pres st.pres
  refine ⟨fun d e => ?_, fun e => ?_⟩
  · obtain ⟨v, ev, rv⟩ := r2.get e
    refine ⟨⟨vs, v, q, ev⟩, fun x H3 y => ?_⟩
    obtain ⟨rfl, y⟩ := y
    have := y vs q
    rw [ev] at this; cases this
    exact ⟨.inl rfl, rv⟩
  · exact ⟨vs, q, by rw [r.length]; omega⟩
theorem src_tup (h : SqT K H a vs) (r : RpL K H (Av A ow) vs ds) : Src K A (Itt K a) ow H ds := fun A' ow2 H2 hA st i => by
  have q := st.sqT h
  have r2 := (r.pres (Pres.grow hA)).pres st.pres
  refine ⟨fun d e => ?_, fun e => ?_⟩
  · obtain ⟨v, ev, rv⟩ := r2.get e
    refine ⟨⟨vs, v, q, ev⟩, fun x H3 y => ?_⟩
    obtain ⟨rfl, y⟩ := y
    have := y vs q
    rw [ev] at this; cases this
    exact ⟨.inl rfl, rv⟩
  · exact ⟨vs, q, by rw [r.length]; omega⟩
def chars (cs : List Nat) : List D := cs.map fun c => .str [c]
theorem src_str (x : Str) : Src K A (Its x) ow H (chars x.cps.toList) := fun A' ow2 H2 hA st i => by
  refine ⟨fun d e => ?_, fun e => ?_⟩
  · unfold chars at e
    rw [List.getElem?_map, Option.map_eq_some_iff] at e
    obtain ⟨c, e, rfl⟩ := e
    rw [Array.getElem?_toList] at e
    refine ⟨?_, fun x' H3 y => ?_⟩
    · exact (Array.getElem?_eq_some_iff.mp e).1
    · obtain ⟨rfl, c', e', rfl⟩ := y
      rw [e] at e'; cases e'
      exact ⟨.inl rfl, .str ⟨#[c]⟩⟩
  · unfold chars at e
    rw [List.length_map, Array.length_toList] at e
    show x.cps.size ≤ i
    omega
def rngD (lo : Int) : Nat → List D
  | 0 => []
  | n + 1 => .int lo :: rngD (lo + 1) n
theorem rngD_len : ∀ (n : Nat) (lo : Int), (rngD lo n).length = n
  | 0, _ => rfl
  | n + 1, lo => by rw [rngD, List.length_cons, rngD_len n]
theorem rngD_get : ∀ (n : Nat) (lo : Int) (i : Nat), i < n → (rngD lo n)[i]? = some (.int (lo + i))
  | 0, _, _, h => absurd h (Nat.not_lt_zero _)
  | n + 1, lo, 0, _ => by rw [rngD]; simp
  | n + 1, lo, i + 1, h => by rw [rngD, List.getElem?_cons_succ, rngD_get n (lo + 1) i (by omega)]; congr 2; omega
theorem src_range (lo : Int) (n : Nat) : Src K A (Itr lo n) ow H (rngD lo n) := fun A' ow2 H2 hA st i => by
  refine ⟨fun d e => ?_, fun e => ?_⟩
  · have hi : i < n := by have := (List.getElem?_eq_some_iff.mp e).1; rw [rngD_len] at this; exact this
    rw [rngD_get n lo i hi] at e
    cases e
    refine ⟨hi, fun x H3 y => ?_⟩
    obtain ⟨rfl, rfl⟩ := y
    exact ⟨.inl rfl, .int _⟩
  · rw [rngD_len] at e
    show n ≤ i
    omega
end
/-- the items of a value -/
def items : D → Option (List D)
  | .tup ds => some ds
  | .lst ds => some ds
  | .str cs => some (chars cs)
  | _ => none
def iOf (m : EM) : IM := fun env => (m env).bind fun (d, e) => (items d).map fun ds => (ds, e)
section
variable {X : Cx} {tg : Expr}
theorem i_of {e : Expr} {m : EM} (h : PE X e (EvS X.K m)) : PI X tg e (EvI X.K (iOf m)) :=
  (((pi_list h).or (pi_tup h)).or (pi_str h)).imp fun σ H R ⟨S, ow, env, I, ds, env', hm, k⟩ => by
    unfold iOf at hm
    simp only [Option.bind_eq_some_iff, Option.map_eq_some_iff] at hm
    obtain ⟨⟨d, e1⟩, h1, ds', h2, h3⟩ := hm
    cases h3
    cases d with
    | lst ds0 =>
      cases h2
      refine .inl (.inl ⟨S, ow, env, I, _, _, h1, fun S' ow' v H' st J f => ?_⟩)
      obtain ⟨rfl, r⟩ := f.shared
      cases r with
      | @cell a o _ e n rc =>
        cases rc with
        | @lst vs _ rl =>
          have sl : StL X.K ow' H' a vs := .of (o := .lst vs) e fun z => n (.inr z)
          exact ⟨a, rfl, ⟨vs, sl _ _ .refl⟩, k _ H' _ st J (src_list sl rl)⟩
      | @frz a ob o _ e rc =>
        cases rc with
        | @lst vs _ rl =>
          have sl : StL X.K ow' H' a vs := .frz e
          exact ⟨a, rfl, ⟨vs, sl _ _ .refl⟩, k _ H' _ st J (src_list sl rl)⟩
      | @kls a vs _ hk rl =>
        have sl : StL X.K ow' H' a vs := fun _ _ _ => hk.sq
        exact ⟨a, rfl, ⟨vs, sl _ _ .refl⟩, k _ H' _ st J (src_list sl rl)⟩
    | tup ds0 =>
      cases h2
      refine .inl (.inr ⟨S, ow, env, I, _, _, h1, fun S' ow' v H' st J f => ?_⟩)
      obtain ⟨rfl, r⟩ := f.shared
      cases r with
      | @tup a vs _ hs rl => exact ⟨a, rfl, ⟨vs, hs⟩, k _ H' _ st J (src_tup hs rl)⟩
      | cell _ _ rc => cases rc
      | frz _ rc => cases rc
    | str cs =>
      cases h2
      refine .inr ⟨S, ow, env, I, _, _, h1, fun S' ow' v H' st J f => ?_⟩
      obtain ⟨rfl, r⟩ := f.shared
      cases r with
      | str x => exact ⟨x, rfl, k _ H' _ st J (src_str x)⟩
      | cell _ _ rc => cases rc
      | frz _ rc => cases rc
    | _ => cases h2
def smallI (i : Int) : Bool := decide (i.natAbs < 2 ^ 62)
def iR1 (m : EM) : IM := fun env => (m env).bind fun (d, e) => (asI d).bind fun n => if smallI n = true then some (rngD 0 n.toNat, e) else none
def iR2 (m n : EM) : IM := fun env => (m env).bind fun (d, e) => (asI d).bind fun lo => (n e).bind fun (d', e') => (asI d').bind fun hi => if (smallI lo && smallI hi) = true then some (rngD lo (hi - lo).toNat, e') else none
theorem asI_some {d : D} {i : Int} (h : asI d = some i) : d = .int i := by cases d <;> first | (cases h; rfl) | cases h
theorem i_r1 {a : Expr} {m : EM} {p pos : Pos} (hg : Gl X "range") (hm : X.mg "range" = none) (ha : PA X [a] (tEs X.K [m])) (hs : starEach [a] X.env = [(false, eval a X.env)] := by rfl) : PI X tg (.Call (.Name "range" p) [a] [] pos) (EvI X.K (iR1 m)) :=
  (pi_range1 hg hm ha hs).imp fun σ H R ⟨S, ow, env, I, ds, env', hm, k⟩ => by
    unfold iR1 at hm
    simp only [Option.bind_eq_some_iff] at hm
    obtain ⟨⟨d, e⟩, h1, n, h2, h3⟩ := hm
    have := asI_some h2
    subst this
    split at h3
    · rename_i hz
      cases h3
      simp only [smallI, Bool.and_eq_true, decide_eq_true_eq] at hz
      refine ⟨S, ow, env, I, _, _, h1, fun S' ow' v H' st J f => ?_⟩
      obtain ⟨rfl, r⟩ := f.shared
      exact ⟨n, by rw [r.int_inv], by omega, by omega, k _ H' _ st J (src_range 0 _)⟩
    · cases h3
theorem i_r2 {a b : Expr} {m n : EM} {p pos : Pos} (hg : Gl X "range") (hm : X.mg "range" = none) (ha : PA X [a, b] (tEs X.K [m, n])) (hs : starEach [a, b] X.env = [(false, eval a X.env), (false, eval b X.env)] := by rfl) (hs2 : starEach [b] X.env = [(false, eval b X.env)] := by rfl) :
    PI X tg (.Call (.Name "range" p) [a, b] [] pos) (EvI X.K (iR2 m n)) :=
  (pi_range2 hg hm ha hs hs2).imp fun σ H R ⟨S, ow, env, I, ds, env', hm, k⟩ => by
    unfold iR2 at hm
    simp only [Option.bind_eq_some_iff] at hm
    obtain ⟨⟨d, e⟩, h1, lo, h2, ⟨d', e'⟩, h3, hi, h4, h5⟩ := hm
    have := asI_some h2
    subst this
    have := asI_some h4
    subst this
    split at h5
    · rename_i hz
      cases h5
      simp only [smallI, Bool.and_eq_true, decide_eq_true_eq] at hz
      refine ⟨S, ow, env, I, _, _, h1, fun S' ow' v H' st J f => ?_⟩
      obtain ⟨rfl, r⟩ := f.shared
      refine ⟨_, ow', _, J, _, _, h3, fun S' ow2 v2 H2 st2 J2 f2 => ?_⟩
      obtain ⟨rfl, r2⟩ := f2.shared
      exact ⟨lo, hi, by rw [r.int_inv, r2.int_inv], ⟨by omega, by omega, by omega, by omega⟩, k _ H2 _ (st.trans st2) J2 (src_range lo _)⟩
    · cases h5
end

/-! ### targets -/
abbrev GM := D → Env → Option Env
def free (env : Env) (i : Nat) : Bool := match env[i]? with
  | some .no => true
  | some (.shr _) => true
  | some (.own _) => true
  | _ => false
def gN (i : Nat) : GM := fun d env => if free env i = true then some (env.set i (.shr d)) else none
/-- the slots is alone change -/
def Out (is : List Nat) (σ σ' : L2.St) : Prop := σ'.length = σ.length ∧ ∀ j, j ∉ is → σ'[j]? = σ[j]?
theorem Out.refl {is : List Nat} {σ : L2.St} : Out is σ σ := ⟨rfl, fun _ _ => rfl⟩
theorem Out.trans {is is' : List Nat} {σ σ' σ'' : L2.St} (a : Out is σ σ') (b : Out is' σ' σ'') : Out (is ++ is') σ σ'' := ⟨b.1.trans a.1, fun j h => by
  rw [List.mem_append] at h
  exact (b.2 j fun z => h (.inr z)).trans (a.2 j fun z => h (.inl z))⟩
theorem Out.set {i : Nat} {v : Option V} {σ : L2.St} : Out [i] σ (σ.set i v) := ⟨by simp, fun j h => by
  rw [List.getElem?_set_ne]
  intro z; exact h (by simp [z])⟩
def EvG (K : PySem.W.Frag) (is : List Nat) (g : GM) : TG := fun v σ H Q => ∃ S ow env, Sim K S ow σ H env ∧ ∃ d, Rp K H (Av S.A ow) v d ∧ ∃ env', g d env = some env' ∧
  ∀ ow' σ' H', Stp ow H ow' H' → Sim K S ow' σ' H' env' → Out is σ σ' → Q σ' H'
theorem _root_.L2.PG.imp {X : Cx} {e : Expr} {t t' : TG} (h : PG X e t) (w : ∀ v σ H Q, t' v σ H Q → t v σ H Q) : PG X e t' := ⟨fun pins s σ H v u Q I r q => h.run pins s σ H v u Q I r (w v σ H Q q)⟩
section
variable {K : PySem.W.Frag} {S : SS} {ow : List (Option Addr)} {σ : L2.St} {H : Hp} {env : Env} {i : Nat} {v : V} {d : D}
theorem free_lt (h : free env i = true) : i < env.length := by
  unfold free at h
  cases e : env[i]? with
  | none => rw [e] at h; cases h
  | some s => exact (List.getElem?_eq_some_iff.mp e).1
theorem free_no_io (I : Sim K S ow σ H env) (h : free env i = true) : ∀ p ∈ S.io, i ≠ p.1 := fun p hp z => by
  obtain ⟨_, d', e⟩ := I.io p hp
  unfold free at h
  rw [z, e] at h
  cases h
theorem free_no_lk (I : Sim K S ow σ H env) (h : free env i = true) : ∀ p ∈ S.lk, i ≠ p.1 := fun p hp z => by
  obtain ⟨_, e⟩ := I.lk p hp
  unfold free at h
  rw [z, e] at h
  cases h
theorem get_set_none {ow : List (Option Addr)} {i j : Nat} {b : Addr} (hj : (ow.set i none)[j]? = some (some b)) : ow[j]? = some (some b) ∧ j ≠ i := by
  by_cases hij : j = i
  · subst hij
    rw [List.getElem?_set] at hj
    split at hj
    · split at hj <;> cases hj
    · contradiction
  · rw [List.getElem?_set_ne (Ne.symm hij)] at hj
    exact ⟨hj, hij⟩
/-- a name takes a value -/
theorem Sim.put (I : Sim K S ow σ H env) (h : free env i = true) (r : Rp K H (Av S.A ow) v d) : Sim K S (ow.set i none) (σ.set i (some v)) H (env.set i (.shr d)) := by
  have hi := free_lt h
  have less : ∀ b, Av S.A (ow.set i none) b → Av S.A ow b := fun b z => z.elim .inl fun z => .inr (mem_set_none z)
  refine ⟨by simpa using I.len, by simpa using I.lenO, fun j s e => ?_, fun j k b h1 h2 => I.inj j k b (get_set_none h1).1 (get_set_none h2).1, fun b hb => I.live b (less b hb), fun b hb => I.sep b (mem_set_none hb), I.frame, fun b hb => I.fresh b (mem_set_none hb), fun p hp => ?_, fun j d' e => ?_, fun p hp => ?_⟩
  · by_cases hij : j = i
    · subst hij
      rw [List.getElem?_set_self (by simpa using hi)] at e
      cases e
      rw [List.getElem?_set_self (by rw [← I.len]; exact hi)]
      exact ⟨v, rfl, r.pres (Pres.less less)⟩
    · rw [List.getElem?_set_ne (Ne.symm hij)] at e
      rw [List.getElem?_set_ne (Ne.symm hij), List.getElem?_set_ne (Ne.symm hij)]
      exact (I.slot j s e).pres (Pres.less less) fun _ _ => rfl
  · obtain ⟨h1, d', h2⟩ := I.io p hp
    have hne := free_no_io I h p hp
    exact ⟨by rw [List.getElem?_set_ne hne]; exact h1, d', by rw [List.getElem?_set_ne hne]; exact h2⟩
  · by_cases hij : j = i
    · subst hij
      rw [List.getElem?_set_self (by simpa using hi)] at e
      cases e
    · rw [List.getElem?_set_ne (Ne.symm hij)] at e
      exact I.iow j d' e
  · obtain ⟨h1, h2⟩ := I.lk p hp
    have hne := free_no_lk I h p hp
    exact ⟨by rw [List.getElem?_set_ne hne]; exact h1, by rw [List.getElem?_set_ne hne]; exact h2⟩
/-- a name takes a list or dict that is kept apart -/
theorem Sim.putOwn {p : Addr} {o : HO} (I : Sim K (S.add p) ow σ H env) (h : free env i = true) (e0 : H p = some o) (rc : RpC K H (Av (S.add p).A ow) o d) (hS : ¬ S.A p) (h0 : S.H0 p = none) : Sim K S (ow.set i (some p)) (σ.set i (some (.ref p))) H (env.set i (.own d)) := by
  have hi := free_lt h
  have hio : i < ow.length := by rw [I.lenO, ← I.len]; exact hi
  have hp_ow : some p ∉ ow := fun z => I.sep p z (.inr rfl)
  have mem : ∀ {b : Addr}, some b ∈ ow.set i (some p) → some b ∈ ow ∨ b = p := fun {b} z => by
    rcases List.mem_or_eq_of_mem_set z with z | z
    · exact .inl z
    · cases z; exact .inr rfl
  have to : ∀ b, Av S.A (ow.set i (some p)) b → Av (S.add p).A ow b := fun b z => by
    rcases z with z | z
    · exact .inl (.inl z)
    · rcases mem z with z | z
      · exact .inr z
      · exact .inl (.inr z)
  have get : ∀ {j : Nat} {b : Addr}, (ow.set i (some p))[j]? = some (some b) → (j = i ∧ b = p) ∨ (j ≠ i ∧ ow[j]? = some (some b)) := fun {j b} z => by
    by_cases hij : j = i
    · subst hij
      rw [List.getElem?_set_self hio] at z
      cases z
      exact .inl ⟨rfl, rfl⟩
    · rw [List.getElem?_set_ne (Ne.symm hij)] at z
      exact .inr ⟨hij, z⟩
  refine ⟨by simpa using I.len, by simpa using I.lenO, fun j s e => ?_, fun j k b h1 h2 => ?_, fun b hb => I.live b (to b hb), fun b hb z => ?_, I.frame, fun b hb => ?_, fun q hq => ?_, fun j d' e => ?_, fun q hq => ?_⟩
  · by_cases hij : j = i
    · subst hij
      rw [List.getElem?_set_self (by simpa using hi)] at e
      cases e
      rw [List.getElem?_set_self (by rw [← I.len]; exact hi), List.getElem?_set_self hio]
      exact ⟨p, o, rfl, rfl, e0, rc.pres (Pres.less to)⟩
    · rw [List.getElem?_set_ne (Ne.symm hij)] at e
      rw [List.getElem?_set_ne (Ne.symm hij), List.getElem?_set_ne (Ne.symm hij)]
      exact (I.slot j s e).pres (Pres.less to) fun _ _ => rfl
  · rcases get h1 with ⟨a1, a2⟩ | ⟨a1, a2⟩ <;> rcases get h2 with ⟨b1, b2⟩ | ⟨b1, b2⟩
    · rw [a1, b1]
    · exact absurd (List.mem_of_getElem? b2) (by rw [a2]; exact hp_ow)
    · exact absurd (List.mem_of_getElem? a2) (by rw [b2]; exact hp_ow)
    · exact I.inj j k b a2 b2
  · rcases mem hb with hb | hb
    · exact I.sep b hb (.inl z)
    · rw [hb] at z; exact hS z
  · rcases mem hb with hb | hb
    · exact I.fresh b hb
    · rw [hb]; exact .inl h0
  · obtain ⟨h1, d', h2⟩ := I.io q hq
    have hne := free_no_io I h q hq
    exact ⟨by rw [List.getElem?_set_ne hne]; exact h1, d', by rw [List.getElem?_set_ne hne]; exact h2⟩
  · by_cases hij : j = i
    · subst hij
      rw [List.getElem?_set_self (by simpa using hi)] at e
      cases e
    · rw [List.getElem?_set_ne (Ne.symm hij)] at e
      exact I.iow j d' e
  · obtain ⟨h1, h2⟩ := I.lk q hq
    have hne := free_no_lk I h q hq
    exact ⟨by rw [List.getElem?_set_ne hne]; exact h1, by rw [List.getElem?_set_ne hne]; exact h2⟩
end
section
variable {X : Cx} {pos : Pos}
theorem g_n {i : Nat} {x : Str} (h : PG X (.Name x pos) (gName i)) : PG X (.Name x pos) (EvG X.K [i] (gN i)) := h.imp fun v σ H Q ⟨S, ow, env, I, d, r, env', hm, k⟩ => by
  unfold gN at hm
  split at hm
  · rename_i hf
    cases hm
    exact k _ _ H (stp_less fun a z => mem_set_none z) (I.put hf r) .set
  · cases hm
/-- several targets -/
abbrev GMs := List D → Env → Option Env
def EvGs (K : PySem.W.Frag) (is : List Nat) (g : GMs) : TGs := fun vs σ H Q => ∃ S ow env, Sim K S ow σ H env ∧ ∃ ds, RpL K H (Av S.A ow) vs ds ∧ ∃ env', g ds env = some env' ∧ ∀ ow' σ' H', Stp ow H ow' H' → Sim K S ow' σ' H' env' → Out is σ σ' → Q σ' H'
theorem _root_.L2.PGs.imp {es : List Expr} {t t' : TGs} (h : PGs X es t) (w : ∀ v σ H Q, t' v σ H Q → t v σ H Q) : PGs X es t' := ⟨fun pins s σ H v u Q I r q => h.run pins s σ H v u Q I r (w v σ H Q q)⟩
def gsN : GMs := fun ds env => match ds with | [] => some env | _ => none
def gsC (g : GM) (gs : GMs) : GMs := fun ds env => match ds with | d :: r => (g d env).bind fun e => gs r e | _ => none
theorem gs_nil : PGs X [] (EvGs X.K [] gsN) := pgs_nil.imp fun vs σ H Q ⟨S, ow, env, I, ds, r, env', hm, k⟩ => by
  cases r with
  | nil => cases hm; exact ⟨rfl, k ow σ H .refl I .refl⟩
  | cons _ _ => cases hm
theorem gs_cons {e : Expr} {es : List Expr} {is js : List Nat} {g : GM} {gs : GMs} (h1 : PG X e (EvG X.K is g)) (h2 : PGs X es (EvGs X.K js gs)) (hs : (assignEach (e :: es) X.env).map (·.2) = assign e X.env :: (assignEach es X.env).map (·.2) := by rfl) : PGs X (e :: es) (EvGs X.K (is ++ js) (gsC g gs)) := (pgs_cons h1 h2 hs).imp fun vs σ H Q ⟨S, ow, env, I, ds, r, env', hm, k⟩ => by
  cases r with
  | nil => cases hm
  | @cons v vs d ds rv rs =>
    unfold gsC at hm
    simp only [Option.bind_eq_some_iff] at hm
    obtain ⟨e1, h1, h2⟩ := hm
    refine ⟨v, vs, rfl, S, ow, env, I, d, rv, e1, h1, fun ow1 σ1 H1 st1 I1 o1 => ?_⟩
    exact ⟨S, ow1, e1, I1, ds, rs.pres st1.pres, env', h2, fun ow2 σ2 H2 st2 I2 o2 => k ow2 σ2 H2 (st1.trans st2) I2 (o1.trans o2)⟩
def gT (n : Nat) (gs : GMs) : GM := fun d env => match d with | .tup ds => if ds.length = n then gs ds env else none | _ => none
theorem g_t {es : List Expr} {k : Nat} {is : List Nat} {gs : GMs} {n : Nat} (hc : X.calm = true) (h : PGs X es (EvGs X.K is gs)) (hn : (assignEach es X.env).length = n := by rfl) (hst : (assignEach es X.env).findIdx? (·.1) = none := by rfl) : PG X (.Tuple es k pos) (EvG X.K is (gT n gs)) := (pg_tup hc h hn hst).imp fun v σ H Q ⟨S, ow, env, I, d, r, env', hm, kk⟩ => by
  unfold gT at hm
  cases d with
  | tup ds =>
    simp only at hm
    split at hm
    · rename_i hl
      cases r with
      | @tup a vs _ hs rl => exact ⟨a, vs, rfl, hs, by rw [rl.length]; exact hl, S, ow, env, I, ds, rl, env', hm, kk⟩
      | cell _ _ rc => cases rc
      | frz _ rc => cases rc
    · cases hm
  | _ => cases hm
end
end PL
end

section
set_option maxRecDepth 100000
set_option maxHeartbeats 3900000
/-! PL3: comprehensions and statements over plain data. -/
namespace PL
open PySem Spec PyProof.Rows L2

/-! ### comprehensions -/
/-- the slots vs forgotten -/
def wipeE : List Nat → Env → Option Env
  | [], env => some env
  | v :: vs, env => (wipeE vs env).bind fun e => if free e v = true then some (e.set v .no) else none
def lcGo (vs : List Nat) (g : GM) (t : TM) (m : EM) : List D → Env → Option (List D × Env)
  | [], env => some ([], env)
  | d :: ds, env => (g d env).bind fun e1 => (t e1).bind fun (b, e2) =>
    if b = true then (m e2).bind fun (y, e3) => (wipeE vs e3).bind fun e4 => (lcGo vs g t m ds e4).bind fun (r, e) => some (y :: r, e)
    else (wipeE vs e2).bind fun e4 => lcGo vs g t m ds e4
def eLc (src : IM) (vs : List Nat) (g : GM) (t : TM) (m : EM) : EM := fun env => (src env).bind fun (ds, e1) => if ds.length ≤ 16777216 then (wipeE vs e1).bind fun e2 => (lcGo vs g t m ds e2).bind fun (r, e) => some (.lst r, e) else none
def tTrue : TM := fun env => some (true, env)
section
variable {K : PySem.W.Frag} {S : SS} {ow : List (Option Addr)} {σ σ' : L2.St} {H : Hp} {env env' : Env}
/-- a slot is forgotten -/
theorem Sim.forget {i : Nat} {x : Option V} (I : Sim K S ow σ H env) (h : free env i = true) : Sim K S ow (σ.set i x) H (env.set i .no) := by
  have hi := free_lt h
  refine ⟨by simpa using I.len, by simpa using I.lenO, fun j s e => ?_, I.inj, I.live, I.sep, I.frame, I.fresh, fun p hp => ?_, fun j d' e => ?_, fun p hp => ?_⟩
  · by_cases hij : j = i
    · subst hij
      rw [List.getElem?_set_self (by simpa using hi)] at e
      cases e
      trivial
    · rw [List.getElem?_set_ne (Ne.symm hij)] at e
      rw [List.getElem?_set_ne (Ne.symm hij)]
      exact I.slot j s e
  · obtain ⟨h1, d', h2⟩ := I.io p hp
    exact ⟨h1, d', by rw [List.getElem?_set_ne (free_no_io I h p hp)]; exact h2⟩
  · by_cases hij : j = i
    · subst hij
      rw [List.getElem?_set_self (by simpa using hi)] at e
      cases e
    · rw [List.getElem?_set_ne (Ne.symm hij)] at e
      exact I.iow j d' e
  · obtain ⟨h1, h2⟩ := I.lk p hp
    have hne := free_no_lk I h p hp
    exact ⟨by rw [List.getElem?_set_ne hne]; exact h1, by rw [List.getElem?_set_ne hne]; exact h2⟩
theorem Sim.wipe (I : Sim K S ow σ H env) : ∀ {vs : List Nat} {env' : Env}, wipeE vs env = some env' → Sim K S ow (wipe σ vs) H env'
  | [], env', h => by cases h; exact I
  | v :: vs, env', h => by
    unfold wipeE at h
    simp only [Option.bind_eq_some_iff] at h
    obtain ⟨e, h1, h2⟩ := h
    split at h2
    · rename_i hf
      cases h2
      exact (Sim.wipe I h1).forget hf
    · cases h2
theorem wipeE_no : ∀ {vs : List Nat} {env env' : Env}, wipeE vs env = some env' → ∀ i ∈ vs, env'[i]? = some .no
  | [], _, _, _, i, hi => by cases hi
  | v :: vs, env, env', h, i, hi => by
    unfold wipeE at h
    simp only [Option.bind_eq_some_iff] at h
    obtain ⟨e, h1, h2⟩ := h
    split at h2
    · rename_i hf
      cases h2
      by_cases hv : i = v
      · subst hv
        exact List.getElem?_set_self (free_lt hf)
      · rw [List.getElem?_set_ne (Ne.symm hv)]
        exact wipeE_no h1 i ((List.mem_cons.mp hi).resolve_left hv)
    · cases h2
/-- the slots may hold anything where nothing is known of them -/
theorem Sim.slots {vs : List Nat} (I : Sim K S ow σ H env) (hn : ∀ i ∈ vs, env[i]? = some .no) (hl : σ'.length = σ.length) (ho : ∀ j, j ∉ vs → σ'[j]? = σ[j]?) : Sim K S ow σ' H env := by
  refine ⟨by rw [hl]; exact I.len, by rw [hl]; exact I.lenO, fun j s e => ?_, I.inj, I.live, I.sep, I.frame, I.fresh, I.io, I.iow, fun p hp => ?_⟩
  · by_cases hj : j ∈ vs
    · rw [hn j hj] at e
      cases e
      trivial
    · rw [ho j hj]
      exact I.slot j s e
  · obtain ⟨h1, h2⟩ := I.lk p hp
    have hj : p.1 ∉ vs := fun z => by rw [hn _ z] at h2; cases h2
    exact ⟨by rw [ho _ hj]; exact h1, h2⟩
theorem wipe_out' {σ : L2.St} {i : Nat} {vs : List Nat} (h : i ∉ vs) : (wipe σ vs)[i]? = σ[i]? := by
  induction vs with
  | nil => rfl
  | cons v vs ih =>
    unfold L2.wipe
    rw [List.getElem?_set_ne (fun z => h (by simp [z]))]
    exact ih fun z => h (by simp [z])
theorem wipe_in {σ : L2.St} {i : Nat} {vs : List Nat} (h : i ∈ vs) (hi : i < σ.length) : (wipe σ vs)[i]? = some none := by
  induction vs with
  | nil => cases h
  | cons v vs ih =>
    unfold L2.wipe
    by_cases hv : i = v
    · subst hv
      exact List.getElem?_set_self (by rw [wipe_length]; exact hi)
    · rw [List.getElem?_set_ne (Ne.symm hv)]
      exact ih ((List.mem_cons.mp h).resolve_left hv)
theorem wipe_same {σ σ' : L2.St} {is vs : List Nat} (o : Out is (wipe σ vs) σ') (hs : ∀ i ∈ is, i ∈ vs) : wipe σ' vs = wipe σ vs := by
  have hl : σ'.length = σ.length := by rw [o.1, wipe_length]
  apply List.ext_getElem?
  intro i
  by_cases hi : i ∈ vs
  · by_cases hz : i < σ.length
    · rw [wipe_in hi (by rw [hl]; exact hz), wipe_in hi hz]
    · rw [List.getElem?_eq_none (by rw [wipe_length, hl]; omega), List.getElem?_eq_none (by rw [wipe_length]; omega)]
  · rw [wipe_out' hi, o.2 i (fun z => hi (hs i z))]
/-- a kept-apart list changes -/
theorem Sim.updA {D : Addr} {o : HO} (I : Sim K S ow σ H env) (hA : S.A D) (hm : Mu o) (h0 : S.H0 D = none) : Sim K S ow σ (upd H D o) env := by
  obtain ⟨o0, e0, m0⟩ := I.live D (.inl hA)
  have pr : Pres H (Av S.A ow) (upd H D o) (Av S.A ow) := ⟨fun a u e n => ⟨by rw [upd_ne fun z => n (.inl (by rw [z]; exact hA))]; exact e, n⟩,
    fun a xs e => by rw [upd_ne fun z => by rw [z, e0] at e; cases e; exact m0]; exact e, fun a u w e => by rw [upd_ne fun z => by rw [z, e0] at e; cases e; exact m0]; exact e⟩
  refine ⟨I.len, I.lenO, fun j s e => (I.slot j s e).pres pr fun a ea => upd_ne fun z => I.sep a (List.mem_of_getElem? ea) (by rw [z]; exact hA), I.inj, fun a ha => ?_, I.sep, fun a u e n => ?_, I.fresh, I.io, I.iow, I.lk⟩
  · by_cases hz : a = D
    · subst hz; exact ⟨o, upd_same, hm⟩
    · obtain ⟨u, e, m⟩ := I.live a ha
      exact ⟨u, by rw [upd_ne hz]; exact e, m⟩
  · rw [upd_ne fun z => by rw [z, h0] at e; cases e]
    exact I.frame a u e n
theorem Sim.h0none (I : Sim K S ow σ H env) {p : Addr} (h : H p = none) : S.H0 p = none := by
  cases e : S.H0 p with
  | none => rfl
  | some o =>
    by_cases hio : ∃ q ∈ S.io, q.2 = p
    · obtain ⟨q, hq, rfl⟩ := hio
      obtain ⟨h1, _⟩ := I.io q hq
      exact absurd h (I.mutne (.inr (List.mem_of_getElem? h1)))
    · have := I.frame p o e fun q hq z => hio ⟨q, hq, z⟩
      rw [h] at this
      cases this
end
section
variable {K : PySem.W.Frag} {wi : TI} {g : GM} {is vs : List Nat} {t : TM} {m : EM} {src : IM} {σ : L2.St} {H : Hp} {Q : VK}
theorem lc_in {S : SS} {ow1 : List (Option Addr)} {H1 : Hp} {e1 e2 eF : Env} {ds out : List D} {J : It} (hs : ∀ i ∈ is, i ∈ vs) (I1 : Sim K S ow1 σ H1 e1) (sr : Src K S.A J ow1 H1 ds) (hbig : ds.length ≤ 16777216) (hw : wipeE vs e1 = some e2) (hgo : lcGo vs g t m ds e2 = some (out, eF))
    (k : ∀ Dl ow' acc H', H1 Dl = none → Stp ow1 H1 ow' H' → Sim K (S.add Dl) ow' σ H' eF → H' Dl = some (.lst acc) → RpL K H' (Av (S.add Dl).A ow') acc out → Q (.ref Dl) H') :
    ∀ D, H1 D = none → ∃ W : Nat → Nat → Hp → Prop, (∃ m, W 0 m (upd H1 D (.lst []))) ∧ ∀ i m' H, W i m' H →
      (J.stop i H ∧ Q (.ref D) H) ∨ (J.go i H ∧ ∃ Nx : Hp → Prop, (∀ H', Nx H' → ∃ m2, m2 < m' ∧ W (i + 1) m2 H') ∧ ∀ x H', J.yld i H x H' → EvG K is g x (wipe σ vs) H' fun σ2 H2 => wipe σ2 vs = wipe σ vs ∧ EvT K t σ2 H2 fun b H3 =>
        if b = true then EvS K m σ2 H3 fun y H4 => ∃ acc, H4 D = some (.lst acc) ∧ acc.length < sizeLine ∧ Nx (upd H4 D (.lst (acc ++ [y]))) else Nx H3) := by
  intro Dl hD
  have hD0 : S.H0 Dl = none := I1.h0none hD
  refine ⟨fun i mm H2 => mm = ds.length - i ∧ i ≤ ds.length ∧ ∃ ow2 env2 acc outs rest, Stp ow1 H1 ow2 H2 ∧ Sim K (S.add Dl) ow2 (wipe σ vs) H2 env2 ∧ (∀ j ∈ vs, env2[j]? = some .no) ∧ H2 Dl = some (.lst acc) ∧ RpL K H2 (Av (S.add Dl).A ow2) acc outs ∧
    lcGo vs g t m (ds.drop i) env2 = some (rest, eF) ∧ outs ++ rest = out ∧ outs.length ≤ i, ⟨ds.length, by simp, Nat.zero_le _, ow1, e2, [], [], out, .new hD, (I1.newCell hD (show Mu (.lst []) from trivial)).wipe hw, wipeE_no hw, upd_same, .nil, by simpa using hgo, rfl, Nat.zero_le _⟩, ?_⟩
  rintro i mm H2 ⟨rfl, hi, ow2, env2, acc, outs, rest, st2, I2, hno, hacc, racc, hrest, hout, hlen⟩
  have sr2 := sr (S.add Dl).A ow2 H2 (fun a z => z.elim .inl fun z => .inr (by rw [z]; exact hD)) st2 i
  by_cases hlt : i < ds.length
  · obtain ⟨go, yl⟩ := sr2.1 ds[i] (List.getElem?_eq_getElem hlt)
    refine .inr ⟨go, fun H' => ∃ ow3 env3 acc3 outs3 rest3, Stp ow1 H1 ow3 H' ∧ Sim K (S.add Dl) ow3 (wipe σ vs) H' env3 ∧ (∀ j ∈ vs, env3[j]? = some .no) ∧ H' Dl = some (.lst acc3) ∧ RpL K H' (Av (S.add Dl).A ow3) acc3 outs3 ∧
      lcGo vs g t m (ds.drop (i + 1)) env3 = some (rest3, eF) ∧ outs3 ++ rest3 = out ∧ outs3.length ≤ i + 1, fun H' z => ⟨ds.length - (i + 1), by omega, rfl, hlt, z⟩, fun x H' y => ?_⟩
    obtain ⟨hH', rx⟩ := yl x H' y
    rw [List.drop_eq_getElem_cons hlt] at hrest
    unfold lcGo at hrest
    simp only [Option.bind_eq_some_iff] at hrest
    obtain ⟨e3, hg, ⟨b, e4⟩, ht, hr⟩ := hrest
    have hnew : Stp ow2 H2 ow2 H' ∧ Sim K (S.add Dl) ow2 (wipe σ vs) H' env2 ∧ H' Dl = some (.lst acc) ∧ RpL K H' (Av (S.add Dl).A ow2) acc outs := by
      rcases hH' with rfl | ⟨p, tvs, hp, rfl⟩
      · exact ⟨.refl, I2, hacc, racc⟩
      · exact ⟨.new hp, I2.newAny hp, by rw [upd_ne (ne_of_none hacc hp)]; exact hacc, racc.pres (Pres.new hp)⟩
    obtain ⟨st3, I3, hacc3, racc3⟩ := hnew
    refine ⟨S.add Dl, ow2, env2, I3, _, rx, e3, hg, fun ow4 σ4 H4 st4 I4 o4 => ⟨wipe_same o4 hs, ?_⟩⟩
    have hw4 := wipe_same o4 hs
    refine ⟨S.add Dl, ow4, e3, I4, b, e4, ht, fun ow5 H5 st5 I5 => ?_⟩
    have stA : Stp ow2 H2 ow5 H5 := (st3.trans st4).trans st5
    have keepD : ∀ {owx : List (Option Addr)} {Hx : Hp}, Stp ow2 H' owx Hx → Hx Dl = some (.lst acc) := fun {owx Hx} s => (s.cell Dl _ hacc3 fun z => I3.sep Dl z (.inr rfl)).1
    cases b with
    | false =>
      simp only [Bool.false_eq_true, if_false, Option.bind_eq_some_iff] at hr ⊢
      obtain ⟨e5, hw5, hr⟩ := hr
      refine ⟨ow5, e5, acc, outs, rest, (st2.trans stA), ?_, wipeE_no hw5, keepD (st4.trans st5), racc3.pres (st4.trans st5).pres, hr, hout, by omega⟩
      rw [← hw4]
      exact I5.wipe hw5
    | true =>
      simp only [if_true, Option.bind_eq_some_iff] at hr ⊢
      obtain ⟨⟨y, e5⟩, hm5, e6, hw6, ⟨r, eE⟩, hr, hend⟩ := hr
      cases hend
      refine ⟨S.add Dl, ow5, e4, I5, y, e5, hm5, fun S' ow6 v6 H6 st6 I6 f6 => ?_⟩
      obtain ⟨rfl, r6⟩ := f6.shared
      have stB := (st4.trans st5).trans st6
      have hD6 := keepD stB
      have ra6 : RpL K H6 (Av (S.add Dl).A ow6) acc outs := racc3.pres stB.pres
      have pr6 : Pres H6 (Av (S.add Dl).A ow6) (upd H6 Dl (.lst (acc ++ [v6]))) (Av (S.add Dl).A ow6) := ⟨fun a u e n => ⟨by rw [upd_ne fun z => n (.inl (.inr z))]; exact e, n⟩,
        fun a xs e => by rw [upd_ne fun z => by rw [z, hD6] at e; cases e]; exact e, fun a u w e => by rw [upd_ne fun z => by rw [z, hD6] at e; cases e]; exact e⟩
      refine ⟨acc, hD6, ?_, ow6, e6, acc ++ [v6], outs ++ [y], r, ?_, ?_, wipeE_no hw6, upd_same, ?_, hr, ?_, ?_⟩
      · rw [racc3.length, sizeLine_eq]; omega
      · have s := (st2.trans st3).trans stB
        refine ⟨fun a o e n => ?_, fun a xs e => ?_, fun a o u e => ?_, fun a o e => ?_⟩
        · obtain ⟨q1, q2⟩ := s.cell a o e n
          exact ⟨by rw [upd_ne (ne_of_none e hD)]; exact q1, q2⟩
        · rw [upd_ne (ne_of_none e hD)]; exact s.tup a xs e
        · rw [upd_ne (ne_of_none e hD)]; exact s.frz a o u e
        · rw [upd_ne (ne_of_none e hD)]; exact s.dom a o e
      · rw [← hw4]
        exact (I6.updA (o := .lst (acc ++ [v6])) (.inr rfl) trivial hD0).wipe hw6
      · exact (ra6.append (.cons r6 .nil)).pres pr6
      · rw [← hout, List.append_assoc]; rfl
      · rw [List.length_append]; simpa using hlen
  · have e : i = ds.length := by omega
    subst e
    rw [List.drop_length] at hrest
    cases hrest
    refine .inl ⟨sr2.2 rfl, ?_⟩
    rw [List.append_nil] at hout
    subst hout
    have I3 : Sim K (S.add Dl) ow2 σ H2 eF := I2.slots hno (by rw [wipe_length]) fun j hj => (wipe_out' hj).symm
    exact k Dl ow2 acc H2 hD st2 I3 hacc racc
theorem lc_go (hs : ∀ i ∈ is, i ∈ vs) (h : EvF K (eLc src vs g t m) σ H Q) : tLc (EvI K src) (EvG K is g) (EvT K t) (EvS K m) vs σ H Q := by
  obtain ⟨S, ow, env, I, d, envF, hm, k⟩ := h
  unfold eLc at hm
  simp only [Option.bind_eq_some_iff] at hm
  obtain ⟨⟨ds, e1⟩, h1, h2⟩ := hm
  split at h2
  rotate_left
  · cases h2
  rename_i hbig
  simp only [Option.bind_eq_some_iff] at h2
  obtain ⟨e2, hw, ⟨out, eF⟩, hgo, hend⟩ := h2
  cases hend
  refine ⟨S, ow, env, I, ds, e1, h1, fun ow1 H1 J st1 I1 sr => ?_⟩
  exact lc_in hs I1 sr hbig hw hgo fun Dl ow' acc H' hD st' I' hacc racc => k (S.add Dl) ow' _ H' (st1.trans st') I' (.inr ⟨rfl, Dl, _, rfl, rfl, st1.back hD, hacc, .lst racc⟩)
end
section
variable {X : Cx}
theorem e_lc {elt tg iter : Expr} {ifs : List Expr} {scope : Scope} {own : List (Str × Nat)} {pos : Pos} {src : IM} {g : GM} {is : List Nat} {t : TM} {m : EM} (hc : X.calm = true) (hN : X.N.Nodup) (hi : PI X tg iter (EvI X.K src)) (ok : BlkOk X.N X.env.scope scope own)
    (hg : ∀ (s : Shared) (H : Hp) (C : Addr) (cl : List (Str × Addr)) (fp : List Addr), PG (X.blk s H scope (compEnvC scope cl C X.env) fp) tg (EvG X.K is g)) (ht : ∀ (s : Shared) (H : Hp) (C : Addr) (cl : List (Str × Addr)) (fp : List Addr), PTs (X.blk s H scope (compEnvC scope cl C X.env) fp) ifs (EvT X.K t))
    (he : ∀ (s : Shared) (H : Hp) (C : Addr) (cl : List (Str × Addr)) (fp : List Addr), PE (X.blk s H scope (compEnvC scope cl C X.env) fp) elt (EvS X.K m)) (hsub : ∀ i ∈ is, i ∈ own.map (·.2) := by decide) (hs : ∀ x, foldedSetIterable iter X.env x = pure x := by intro _; rfl) :
    PE X (.ListComp elt [⟨tg, iter, ifs, 0⟩] scope pos) (EvF X.K (eLc src (own.map (·.2)) g t m)) :=
  (pe_lc hc hN hi ok hg ht he hs).imp fun _ _ _ h => lc_go hsub h
theorem ts_nil : PTs X [] (EvT X.K tTrue) := ⟨fun pins s σ H Q I ⟨S, ow, env, J, b, env', hm, k⟩ => by cases hm; exact pts_nil.run pins s σ H Q I (k ow H .refl J)⟩
theorem ts_one {c : Expr} {t : TM} (h : PT X c (EvT X.K t)) : PTs X [c] (EvT X.K t) := pts_one h
end

/-! ### statements -/
inductive Fl where
  | nx | bk | ct
  | rt (fr : Bool) (d : D)
abbrev SM := Env → Option (Fl × Env)
def RtR (fr : Bool) (K : PySem.W.Frag) (S S' : SS) (H' : Hp) (ow' : List (Option Addr)) (v : V) (d : D) : Prop :=
  (S' = S ∧ Rp K H' (Av S.A ow') v d ∧ (fr = true → isMutD d = false)) ∨ (fr = true ∧ ∃ p o, S' = S.add p ∧ v = .ref p ∧ S.H0 p = none ∧ ¬ S.A p ∧ H' p = some o ∧ RpC K H' (Av S'.A ow') o d)
def FlK (K : PySem.W.Frag) (S : SS) (ow : List (Option Addr)) (H : Hp) (Dd : Ends) (env' : Env) : Fl → Prop
  | .nx => ∀ ow' σ' H', Stp ow H ow' H' → Sim K S ow' σ' H' env' → Dd.nx σ' H'
  | .bk => ∀ ow' σ' H', Stp ow H ow' H' → Sim K S ow' σ' H' env' → Dd.bk σ' H'
  | .ct => ∀ ow' σ' H', Stp ow H ow' H' → Sim K S ow' σ' H' env' → Dd.ct σ' H'
  | .rt fr d => ∀ S' ow' σ' H' v, Stp ow H ow' H' → Sim K S' ow' σ' H' env' → RtR fr K S S' H' ow' v d → Dd.rt v H'
def EvSt (K : PySem.W.Frag) (m : SM) : TS := fun Dd σ H => ∃ S ow env, Sim K S ow σ H env ∧ ∃ f env', m env = some (f, env') ∧ FlK K S ow H Dd env' f
theorem FlK.after {K : PySem.W.Frag} {S : SS} {ow ow1 : List (Option Addr)} {H H1 : Hp} {Dd : Ends} {env' : Env} {f : Fl} (st : Stp ow H ow1 H1) (h : FlK K S ow H Dd env' f) : FlK K S ow1 H1 Dd env' f := by
  cases f with
  | nx => exact fun ow' σ' H' st' => h ow' σ' H' (st.trans st')
  | bk => exact fun ow' σ' H' st' => h ow' σ' H' (st.trans st')
  | ct => exact fun ow' σ' H' st' => h ow' σ' H' (st.trans st')
  | rt fr d => exact fun S' ow' σ' H' v st' => h S' ow' σ' H' v (st.trans st')
section
variable {X : Cx} {st : Stmt} {rest : List Stmt} {pos : Pos} {e : Expr}
def sNop : SM := fun env => some (.nx, env)
def sSeq (m n : SM) : SM := fun env => (m env).bind fun (f, e) => match f with
  | .nx => n e
  | f => some (f, e)
theorem ss_nil : PSs X [] (EvSt X.K sNop) := pss_nil.imp fun D σ H ⟨S, ow, env, I, f, env', hm, k⟩ => by cases hm; exact k ow σ H .refl I
theorem ss_one {m : SM} (h : PS X st (EvSt X.K m)) : PSs X [st] (EvSt X.K m) := pss_one h
theorem ss_cons {m n : SM} (h1 : PS X st (EvSt X.K m)) (h2 : PSs X rest (EvSt X.K n)) : PSs X (st :: rest) (EvSt X.K (sSeq m n)) := (pss_cons h1 h2).imp fun D σ H ⟨S, ow, env, I, f, env', hm, k⟩ => by
  unfold sSeq at hm
  simp only [Option.bind_eq_some_iff] at hm
  obtain ⟨⟨f1, e1⟩, h1, h2⟩ := hm
  refine ⟨S, ow, env, I, f1, e1, h1, ?_⟩
  cases f1 with
  | nx => exact fun ow1 σ1 H1 st1 I1 => ⟨S, ow1, e1, I1, f, env', h2, k.after st1⟩
  | bk => cases h2; exact k
  | ct => cases h2; exact k
  | rt fr d => cases h2; exact k
theorem s_pass : PS X (.Pass pos) (EvSt X.K sNop) := ps_pass.imp fun D σ H ⟨S, ow, env, I, f, env', hm, k⟩ => by cases hm; exact k ow σ H .refl I
def sBk : SM := fun env => some (.bk, env)
def sCt : SM := fun env => some (.ct, env)
theorem s_break : PS X (.Break pos) (EvSt X.K sBk) := ps_break.imp fun D σ H ⟨S, ow, env, I, f, env', hm, k⟩ => by cases hm; exact k ow σ H .refl I
theorem s_cont : PS X (.Continue pos) (EvSt X.K sCt) := ps_continue.imp fun D σ H ⟨S, ow, env, I, f, env', hm, k⟩ => by cases hm; exact k ow σ H .refl I
/-- a value dropped -/
def sDrop (m : EM) : SM := fun env => (m env).bind fun (_, e) => some (.nx, e)
theorem s_expr {m : EM} (he : PE X e (EvS X.K m)) (hs : swapsWith e none pos.line X.env = pure false := by rfl) : PS X (.Expr e pos) (EvSt X.K (sDrop m)) := (ps_expr he hs).imp fun D σ H ⟨S, ow, env, I, f, env', hm, k⟩ => by
  unfold sDrop at hm
  simp only [Option.bind_eq_some_iff] at hm
  obtain ⟨⟨d, e1⟩, h1, h2⟩ := hm
  cases h2
  refine ⟨S, ow, env, I, d, _, h1, fun S' ow' v H' st J f => ?_⟩
  obtain ⟨rfl, _⟩ := f.shared
  exact k ow' σ H' st J
/-- return -/
def sRet (m : EM) : SM := fun env => (m env).bind fun (d, e) => some (.rt (!isMutD d) d, e)
def sRetF (m : EM) : SM := fun env => (m env).bind fun (d, e) => some (.rt true d, e)
theorem s_ret {m : EM} (he : PE X e (EvS X.K m)) : PS X (.Return (some e) pos) (EvSt X.K (sRet m)) := (ps_ret he).imp fun D σ H ⟨S, ow, env, I, f, env', hm, k⟩ => by
  unfold sRet at hm
  simp only [Option.bind_eq_some_iff] at hm
  obtain ⟨⟨d, e1⟩, h1, h2⟩ := hm
  cases h2
  refine ⟨S, ow, env, I, d, _, h1, fun S' ow' v H' st J f => ?_⟩
  obtain ⟨rfl, r⟩ := f.shared
  exact k _ ow' σ H' v st J (.inl ⟨rfl, r, fun z => by simpa using z⟩)
theorem s_retF {m : EM} (he : PE X e (EvF X.K m)) : PS X (.Return (some e) pos) (EvSt X.K (sRetF m)) := (ps_ret he).imp fun D σ H ⟨S, ow, env, I, f, env', hm, k⟩ => by
  unfold sRetF at hm
  simp only [Option.bind_eq_some_iff] at hm
  obtain ⟨⟨d, e1⟩, h1, h2⟩ := hm
  cases h2
  refine ⟨S, ow, env, I, d, _, h1, fun S' ow' v H' st J f => ?_⟩
  refine k S' ow' σ H' v st J (f.elim .inl fun ⟨z, p, o, e1, e2, e3, e4, r⟩ => .inr ⟨z, p, o, e1, e2, I.h0none e3, fun z => I.mutne (.inl z) e3, e4, r⟩)
def sRetN : SM := fun env => some (.rt true .non, env)
theorem s_retN : PS X (.Return none pos) (EvSt X.K sRetN) := ps_retN.imp fun D σ H ⟨S, ow, env, I, f, env', hm, k⟩ => by
  cases hm
  exact k S ow σ H .non .refl I (.inl ⟨rfl, .non, fun _ => rfl⟩)
/-- return x, x an own list or dict: it leaves the frame -/
def sRetO (i : Nat) : SM := fun env => match env[i]? with
  | some (.own d) => some (.rt true d, env.set i .no)
  | some (.shr d) => some (.rt (!isMutD d) d, env)
  | _ => none
theorem Sim.moveOut {K : PySem.W.Frag} {S : SS} {ow : List (Option Addr)} {σ : L2.St} {H : Hp} {env : Env} (I : Sim K S ow σ H env) {i : Nat} {d : D} (h : env[i]? = some (.own d)) :
    ∃ a o, σ[i]? = some (some (.ref a)) ∧ Sim K (S.add a) (ow.set i none) σ H (env.set i .no) ∧ H a = some o ∧ RpC K H (Av (S.add a).A (ow.set i none)) o d ∧ S.H0 a = none ∧ ¬ S.A a := by
  obtain ⟨a, o, e1, e2, e3, r⟩ := I.slot i _ h
  have hin : ∀ {b : Addr}, some b ∈ ow.set i none → some b ∈ ow ∧ b ≠ a := fun {b} hb => by
    obtain ⟨j, hj⟩ := List.getElem?_of_mem hb
    obtain ⟨q1, q2⟩ := get_set_none hj
    exact ⟨List.mem_of_getElem? q1, fun z => q2 (I.inj j i a (by rw [← z]; exact q1) e2)⟩
  have less : ∀ b, Av (S.add a).A (ow.set i none) b → Av S.A ow b := fun b z => by
    rcases z with (z | z) | z
    · exact .inl z
    · exact .inr (by rw [z]; exact List.mem_of_getElem? e2)
    · exact .inr (hin z).1
  have hio : S.H0 a = none := by
    rcases I.fresh a (List.mem_of_getElem? e2) with z | ⟨j, hj⟩
    · exact z
    · obtain ⟨h1, d', h2⟩ := I.io _ hj
      have hji : j = i := I.inj j i a h1 e2
      subst hji
      rw [h] at h2
      cases h2
  refine ⟨a, o, e1, ⟨by simpa using I.len, by simpa using I.lenO, fun j s e => ?_, fun j k b h1 h2 => I.inj j k b (get_set_none h1).1 (get_set_none h2).1, fun b hb => I.live b (less b hb), fun b hb z => z.elim (fun z => I.sep b (hin hb).1 z) (hin hb).2, I.frame, fun b hb => I.fresh b (hin hb).1, fun p hp => ?_, fun j d' e => ?_, fun p hp => ?_⟩, e3, r.pres (Pres.less less), hio, I.sep a (List.mem_of_getElem? e2)⟩
  · by_cases hij : j = i
    · subst hij
      rw [List.getElem?_set] at e
      split at e
      · split at e
        · cases e; trivial
        · cases e
      · contradiction
    · rw [List.getElem?_set_ne (Ne.symm hij)] at e
      rw [List.getElem?_set_ne (Ne.symm hij)]
      exact (I.slot j s e).pres (Pres.less less) fun _ _ => rfl
  · obtain ⟨h1, d', h2⟩ := I.io p hp
    have hne : i ≠ p.1 := fun z => by rw [← z, h] at h2; cases h2
    exact ⟨by rw [List.getElem?_set_ne hne]; exact h1, d', by rw [List.getElem?_set_ne hne]; exact h2⟩
  · by_cases hij : j = i
    · subst hij
      rw [List.getElem?_set] at e
      split at e
      · split at e <;> cases e
      · contradiction
    · rw [List.getElem?_set_ne (Ne.symm hij)] at e
      exact I.iow j d' e
  · obtain ⟨h1, h2⟩ := I.lk p hp
    have hne : i ≠ p.1 := fun z => by rw [← z, h] at h2; cases h2
    exact ⟨h1, by rw [List.getElem?_set_ne hne]; exact h2⟩
theorem s_retO {i : Nat} {x : Str} {p : Pos} (he : PE X (.Name x p) (tVar i)) : PS X (.Return (some (.Name x p)) pos) (EvSt X.K (sRetO i)) := (ps_ret he).imp fun D σ H ⟨S, ow, env, I, f, env', hm, k⟩ => by
  unfold sRetO at hm
  split at hm
  · rename_i d e
    cases hm
    obtain ⟨a, o, e1, J, e3, r, h0, hA⟩ := I.moveOut e
    exact ⟨_, e1, k _ _ σ H _ (stp_less fun a z => mem_set_none z) J (.inr ⟨rfl, a, o, rfl, rfl, h0, hA, e3, r⟩)⟩
  · rename_i d e
    cases hm
    obtain ⟨v, e1, r⟩ := I.slot i _ e
    exact ⟨v, e1, k S ow σ H v .refl I (.inl ⟨rfl, r, fun z => by simpa using z⟩)⟩
  · cases hm
/-- if -/
def sIf (t : TM) (m n : SM) : SM := fun env => (t env).bind fun (b, e) => if b = true then m e else n e
theorem s_if {c : Expr} {a b : List Stmt} {t : TM} {m n : SM} (hc : PT X c (EvT X.K t)) (ha : PSs X a (EvSt X.K m)) (hb : PSs X b (EvSt X.K n)) : PS X (.If c a b pos) (EvSt X.K (sIf t m n)) := (ps_if hc ha hb).imp fun D σ H ⟨S, ow, env, I, f, env', hm, k⟩ => by
  unfold sIf at hm
  simp only [Option.bind_eq_some_iff] at hm
  obtain ⟨⟨b, e⟩, h1, h2⟩ := hm
  refine ⟨S, ow, env, I, b, e, h1, fun ow1 H1 st1 I1 => ?_⟩
  cases b with
  | true => exact ⟨S, ow1, e, I1, f, env', h2, k.after st1⟩
  | false => exact ⟨S, ow1, e, I1, f, env', h2, k.after st1⟩
/-- code that is never come to -/
def sNever : SM := fun _ => none
theorem s_never : PS X st (EvSt X.K sNever) := ps_never.imp fun D σ H ⟨S, ow, env, I, f, env', hm, k⟩ => by cases hm
/-- target = e -/
def sAsg (m : EM) (g : GM) : SM := fun env => (m env).bind fun (d, e) => (g d e).bind fun e' => some (.nx, e')
theorem asg_go {K : PySem.W.Frag} {te : TE} {m : EM} {g : GM} {is : List Nat} {D : Ends} {σ : L2.St} {H : Hp} (hte : ∀ σ H Q, EvS K m σ H Q → te σ H Q) (h : EvSt K (sAsg m g) D σ H) : tAsg te (EvG K is g) D σ H := by
  obtain ⟨S, ow, env, I, f, env', hm, k⟩ := h
  unfold sAsg at hm
  simp only [Option.bind_eq_some_iff] at hm
  obtain ⟨⟨d, e1⟩, h1, e2, h2, h3⟩ := hm
  cases h3
  refine hte _ _ _ ⟨S, ow, env, I, d, e1, h1, fun S' ow' v H' st J f => ?_⟩
  obtain ⟨rfl, r⟩ := f.shared
  exact ⟨_, ow', e1, J, d, r, _, h2, fun ow2 σ2 H2 st2 I2 _ => k ow2 σ2 H2 (st.trans st2) I2⟩
theorem s_asg {tg : Expr} {m : EM} {g : GM} {is : List Nat} (he : PE X e (EvS X.K m)) (hg : PG X tg (EvG X.K is g)) (hs : swapsWithSole [tg] e pos.line X.env = pure false := by rfl) (hw : swappedStores [tg] e X.env = pure none := by rfl)
    (h1 : (assignEach [tg] X.env).map (·.2) = [assign tg X.env] := by rfl) : PS X (.Assign [tg] e pos) (EvSt X.K (sAsg m g)) := (ps_asg he hg hs hw h1).imp fun _ _ _ h => asg_go (fun _ _ _ q => q) h
/-- name = e, shared -/
theorem s_set {i : Nat} {x : Str} {m : EM} {p : Pos} (h : PS X (.Assign [.Name x p] e pos) (tAsg (EvS X.K m) (gName i))) : PS X (.Assign [.Name x p] e pos) (EvSt X.K (sAsg m (gN i))) := h.imp fun D σ H ⟨S, ow, env, I, f, env', hm, k⟩ => by
  unfold sAsg at hm
  simp only [Option.bind_eq_some_iff] at hm
  obtain ⟨⟨d, e1⟩, h1, e2, h2, h3⟩ := hm
  cases h3
  refine ⟨S, ow, env, I, d, e1, h1, fun S' ow' v H' st J f => ?_⟩
  obtain ⟨rfl, r⟩ := f.shared
  unfold gN at h2
  split at h2
  · rename_i hf
    cases h2
    exact k _ _ H' (st.trans (stp_less fun a z => mem_set_none z)) (J.put hf r)
  · cases h2
/-- name = e, e new, kept as the name's own -/
def mkOwn (d : D) : Slot := if isMutD d = true then .own d else .shr d
def sOwn (m : EM) (i : Nat) : SM := fun env => (m env).bind fun (d, e) => if free e i = true then some (.nx, e.set i (mkOwn d)) else none
theorem own_go {K : PySem.W.Frag} {m : EM} {i : Nat} {D : Ends} {σ : L2.St} {H : Hp} (h : EvSt K (sOwn m i) D σ H) : tAsg (EvF K m) (gName i) D σ H := by
  obtain ⟨S, ow, env, I, f, env', hm, k⟩ := h
  unfold sOwn at hm
  simp only [Option.bind_eq_some_iff] at hm
  obtain ⟨⟨d, e1⟩, h1, h2⟩ := hm
  split at h2
  rotate_left
  · cases h2
  rename_i hf
  cases h2
  refine ⟨S, ow, env, I, d, e1, h1, fun S' ow' v H' st J f => ?_⟩
  rcases f with ⟨rfl, r, n⟩ | ⟨_, p, o, rfl, rfl, hp, ho, r⟩
  · have e : mkOwn d = .shr d := by unfold mkOwn; rw [n rfl]; rfl
    refine k (ow'.set i none) _ H' (st.trans (stp_less fun a z => mem_set_none z)) ?_
    show Sim K _ _ _ _ (List.set e1 i (mkOwn d))
    rw [e]
    exact J.put hf r
  · have e : mkOwn d = .own d := by unfold mkOwn; rw [r.mutD]; rfl
    have hS : ¬ S.A p := fun z => I.mutne (.inl z) hp
    refine k (ow'.set i (some p)) _ H' ⟨fun a u ea n => ?_, st.tup, st.frz, st.dom⟩ ?_
    · obtain ⟨q1, q2⟩ := st.cell a u ea n
      refine ⟨q1, fun z => ?_⟩
      rcases List.mem_or_eq_of_mem_set z with z | z
      · exact q2 z
      · cases z
        rw [ea] at hp; cases hp
    · show Sim K _ _ _ _ (List.set e1 i (mkOwn d))
      rw [e]
      exact J.putOwn hf ho r hS (I.h0none hp)
end
end PL
end

section
set_option maxRecDepth 100000
set_option maxHeartbeats 3900000
/-! PL4: loops, locks, several targets, lists that change. -/
namespace PL
open PySem Spec PyProof.Rows L2

/-! ### for, while -/
def forGo (g : GM) (body : SM) : List D → Env → Option (Fl × Env)
  | [], env => some (.nx, env)
  | d :: ds, env => (g d env).bind fun e1 => (body e1).bind fun (f, e2) => match f with
    | .nx => forGo g body ds e2
    | .ct => forGo g body ds e2
    | .bk => some (.nx, e2)
    | .rt fr d => some (.rt fr d, e2)
def sFor (src : IM) (g : GM) (body : SM) : SM := fun env => (src env).bind fun (ds, e1) => forGo g body ds e1
def whGo (t : TM) (body : SM) : Nat → Env → Option (Fl × Env)
  | 0, _ => none
  | n + 1, env => (t env).bind fun (b, e1) => if b = true then (body e1).bind fun (f, e2) => match f with
    | .nx => whGo t body n e2
    | .ct => whGo t body n e2
    | .bk => some (.nx, e2)
    | .rt fr d => some (.rt fr d, e2)
  else some (.nx, e1)
def sWhile (n : Nat) (t : TM) (body : SM) : SM := fun env => whGo t body n env
section
variable {K : PySem.W.Frag} {g : GM} {is : List Nat} {body : SM} {σ : L2.St} {H : Hp} {Dd : Ends}
theorem for_in {S : SS} {ow1 : List (Option Addr)} {H1 : Hp} {e1 envF : Env} {ds : List D} {J : It} {f : Fl} (I1 : Sim K S ow1 σ H1 e1) (sr : Src K S.A J ow1 H1 ds) (hgo : forGo g body ds e1 = some (f, envF)) (k : FlK K S ow1 H1 Dd envF f) :
    ∃ W : Nat → Nat → L2.St → Hp → Prop, (∃ m, W 0 m σ H1) ∧ ∀ i m σ H, W i m σ H →
      (J.stop i H ∧ Dd.nx σ H) ∨ (J.go i H ∧ ∃ N : L2.St → Hp → Prop, (∀ σ' H', N σ' H' → ∃ m', m' < m ∧ W (i + 1) m' σ' H') ∧ ∀ x H', J.yld i H x H' → EvG K is g x σ H' fun σ2 H2 => EvSt K body { Dd with nx := N, ct := N, bk := Dd.nx } σ2 H2) := by
  refine ⟨fun i m σ2 H2 => m = ds.length - i ∧ i ≤ ds.length ∧ ∃ ow2 env2, Stp ow1 H1 ow2 H2 ∧ Sim K S ow2 σ2 H2 env2 ∧ forGo g body (ds.drop i) env2 = some (f, envF), ⟨ds.length, by simp, Nat.zero_le _, ow1, e1, .refl, I1, by simpa using hgo⟩, ?_⟩
  rintro i m σ2 H2 ⟨rfl, hi, ow2, env2, st2, I2, hrest⟩
  have sr2 := sr S.A ow2 H2 (fun a z => .inl z) st2 i
  by_cases hlt : i < ds.length
  · obtain ⟨go, yl⟩ := sr2.1 ds[i] (List.getElem?_eq_getElem hlt)
    refine .inr ⟨go, fun σ' H' => ∃ ow3 env3, Stp ow1 H1 ow3 H' ∧ Sim K S ow3 σ' H' env3 ∧ forGo g body (ds.drop (i + 1)) env3 = some (f, envF), fun σ' H' z => ⟨ds.length - (i + 1), by omega, rfl, hlt, z⟩, fun x H' y => ?_⟩
    obtain ⟨hH', rx⟩ := yl x H' y
    rw [List.drop_eq_getElem_cons hlt] at hrest
    unfold forGo at hrest
    simp only [Option.bind_eq_some_iff] at hrest
    obtain ⟨e3, hg, ⟨f1, e4⟩, hb, hr⟩ := hrest
    have hnew : Stp ow2 H2 ow2 H' ∧ Sim K S ow2 σ2 H' env2 := by
      rcases hH' with rfl | ⟨p, tvs, hp, rfl⟩
      · exact ⟨.refl, I2⟩
      · exact ⟨.new hp, I2.newAny hp⟩
    obtain ⟨st3, I3⟩ := hnew
    refine ⟨S, ow2, env2, I3, _, rx, e3, hg, fun ow4 σ4 H4 st4 I4 o4 => ?_⟩
    have stA := (st2.trans st3).trans st4
    refine ⟨S, ow4, e3, I4, f1, e4, hb, ?_⟩
    cases f1 with
    | nx => exact fun ow5 σ5 H5 st5 I5 => ⟨ow5, e4, stA.trans st5, I5, hr⟩
    | ct => exact fun ow5 σ5 H5 st5 I5 => ⟨ow5, e4, stA.trans st5, I5, hr⟩
    | bk => cases hr; exact fun ow5 σ5 H5 st5 I5 => k ow5 σ5 H5 (stA.trans st5) I5
    | rt fr d => cases hr; exact fun S' ow5 σ5 H5 v st5 I5 r => k S' ow5 σ5 H5 v (stA.trans st5) I5 r
  · have e : i = ds.length := by omega
    subst e
    rw [List.drop_length] at hrest
    cases hrest
    exact .inl ⟨sr2.2 rfl, k ow2 σ2 H2 st2 I2⟩
theorem for_go {src : IM} (h : EvSt K (sFor src g body) Dd σ H) : tFor (EvI K src) (EvG K is g) (EvSt K body) Dd σ H := by
  obtain ⟨S, ow, env, I, f, env', hm, k⟩ := h
  unfold sFor at hm
  simp only [Option.bind_eq_some_iff] at hm
  obtain ⟨⟨ds, e1⟩, h1, h2⟩ := hm
  exact ⟨S, ow, env, I, ds, e1, h1, fun ow1 H1 J st1 I1 sr => for_in I1 sr h2 (k.after st1)⟩
theorem while_go {n : Nat} {t : TM} (h : EvSt K (sWhile n t body) Dd σ H) : tWhile (EvT K t) (EvSt K body) Dd σ H := by
  obtain ⟨S, ow, env, I, f, envF, hm, k⟩ := h
  refine ⟨fun m σ2 H2 => ∃ ow2 env2, Stp ow H ow2 H2 ∧ Sim K S ow2 σ2 H2 env2 ∧ whGo t body m env2 = some (f, envF), ⟨n, ow, env, .refl, I, hm⟩, ?_⟩
  rintro m σ2 H2 ⟨ow2, env2, st2, I2, hm2⟩
  cases m with
  | zero => cases hm2
  | succ m =>
    unfold whGo at hm2
    simp only [Option.bind_eq_some_iff] at hm2
    obtain ⟨⟨b, e1⟩, ht, hr⟩ := hm2
    refine ⟨S, ow2, env2, I2, b, e1, ht, fun ow3 H3 st3 I3 => ?_⟩
    cases b with
    | false => cases hr; exact k ow3 σ2 H3 (st2.trans st3) I3
    | true =>
      simp only [if_true, Option.bind_eq_some_iff] at hr
      obtain ⟨⟨f1, e4⟩, hb, hr⟩ := hr
      have stA := st2.trans st3
      refine ⟨fun σ' H' => ∃ ow3 env3, Stp ow H ow3 H' ∧ Sim K S ow3 σ' H' env3 ∧ whGo t body m env3 = some (f, envF), fun σ' H' z => ⟨m, Nat.lt_succ_self m, z⟩, S, ow3, e1, I3, f1, e4, hb, ?_⟩
      cases f1 with
      | nx => exact fun ow5 σ5 H5 st5 I5 => ⟨ow5, e4, stA.trans st5, I5, hr⟩
      | ct => exact fun ow5 σ5 H5 st5 I5 => ⟨ow5, e4, stA.trans st5, I5, hr⟩
      | bk => cases hr; exact fun ow5 σ5 H5 st5 I5 => k ow5 σ5 H5 (stA.trans st5) I5
      | rt fr d => cases hr; exact fun S' ow5 σ5 H5 v st5 I5 r => k S' ow5 σ5 H5 v (stA.trans st5) I5 r
end
section
variable {X : Cx} {pos : Pos}
theorem s_for {tg iter : Expr} {body : List Stmt} {src : IM} {g : GM} {is : List Nat} {m : SM} (hp : PassesOwn (model X.prog X.w) X.A X.env X.xe) (hc : X.calm = true) (hi : PI X tg iter (EvI X.K src)) (hg : PG X tg (EvG X.K is g)) (hb : PSs X body (EvSt X.K m))
    (hs : ∀ x, foldedSetIterable iter X.env x = pure x := by intro _; rfl) : PS X (.For tg iter body [] pos) (EvSt X.K (sFor src g m)) := (ps_for hp hc hi hg hb hs).imp fun _ _ _ h => for_go h
theorem s_while {c : Expr} {body : List Stmt} {t : TM} {m : SM} (n : Nat) (hp : PassesOwn (model X.prog X.w) X.A X.env X.xe) (hc : PT X c (EvT X.K t)) (hb : PSs X body (EvSt X.K m)) : PS X (.While c body [] pos) (EvSt X.K (sWhile n t m)) := (ps_while hp hc hb).imp fun _ _ _ h => while_go h
end

/-! ### locks: an own list is walked -/
def SS.lock (S : SS) (i : Nat) (a : Addr) : SS := { S with A := fun b => S.A b ∨ b = a, lk := (i, .ref a) :: S.lk }
section
variable {K : PySem.W.Frag} {S : SS} {ow : List (Option Addr)} {σ : L2.St} {H : Hp} {env : Env} {i : Nat} {d : D}
theorem Sim.lock (I : Sim K S ow σ H env) (h : env[i]? = some (.own d)) :
    ∃ a o, σ[i]? = some (some (.ref a)) ∧ H a = some o ∧ RpC K H (Av (S.lock i a).A (ow.set i none)) o d ∧ Sim K (S.lock i a) (ow.set i none) σ H (env.set i .lck) ∧ S.H0 a = none ∧ ¬ S.A a ∧ some a ∉ ow.set i none ∧ ∀ q ∈ S.lk, q.1 ≠ i := by
  obtain ⟨a, o, e1, J, e3, r, h0, hA⟩ := I.moveOut h
  have hi : i < env.length := (List.getElem?_eq_some_iff.mp h).1
  refine ⟨a, o, e1, e3, r, ⟨by simpa using I.len, by simpa using I.lenO, fun j s e => ?_, J.inj, J.live, J.sep, J.frame, J.fresh, fun p hp => ?_, fun j d' e => ?_, fun p hp => ?_⟩, h0, hA, fun z => J.sep a z (.inr rfl), fun q hq z => by obtain ⟨_, h2⟩ := I.lk q hq; rw [z, h] at h2; cases h2⟩
  · by_cases hij : j = i
    · subst hij
      rw [List.getElem?_set_self hi] at e
      cases e
      trivial
    · rw [List.getElem?_set_ne (Ne.symm hij)] at e
      exact J.slot j s (by rw [List.getElem?_set_ne (Ne.symm hij)]; exact e)
  · obtain ⟨h1, d', h2⟩ := J.io p hp
    refine ⟨h1, d', ?_⟩
    by_cases hij : p.1 = i
    · rw [hij, List.getElem?_set_self hi] at h2; cases h2
    · rw [List.getElem?_set_ne (Ne.symm hij)] at h2 ⊢; exact h2
  · by_cases hij : j = i
    · subst hij
      rw [List.getElem?_set_self hi] at e
      cases e
    · rw [List.getElem?_set_ne (Ne.symm hij)] at e
      exact I.iow j d' e
  · have hp' : p = (i, .ref a) ∨ p ∈ S.lk := List.mem_cons.mp hp
    rcases hp' with rfl | hp'
    · exact ⟨e1, List.getElem?_set_self hi⟩
    · obtain ⟨h1, h2⟩ := I.lk p hp'
      have hne : i ≠ p.1 := fun z => by rw [← z, h] at h2; cases h2
      exact ⟨h1, by rw [List.getElem?_set_ne hne]; exact h2⟩
theorem Sim.unlock {a : Addr} {o : HO} (I : Sim K (S.lock i a) ow σ H env) (e3 : H a = some o) (r : RpC K H (Av (S.lock i a).A ow) o d) (h0 : S.H0 a = none) (hA : ¬ S.A a) (hlk : ∀ q ∈ S.lk, q.1 ≠ i) : Sim K S (ow.set i (some a)) σ H (env.set i (.own d)) := by
  obtain ⟨l1, l2⟩ := I.lk (i, .ref a) (List.mem_cons_self ..)
  have hi : i < env.length := (List.getElem?_eq_some_iff.mp l2).1
  have hio : i < ow.length := by rw [I.lenO, ← I.len]; exact hi
  have ha_ow : some a ∉ ow := fun z => I.sep a z (.inr rfl)
  have mem : ∀ {b : Addr}, some b ∈ ow.set i (some a) → some b ∈ ow ∨ b = a := fun {b} z => by
    rcases List.mem_or_eq_of_mem_set z with z | z
    · exact .inl z
    · cases z; exact .inr rfl
  have to : ∀ b, Av S.A (ow.set i (some a)) b → Av (S.lock i a).A ow b := fun b z => by
    rcases z with z | z
    · exact .inl (.inl z)
    · rcases mem z with z | z
      · exact .inr z
      · exact .inl (.inr z)
  have get : ∀ {j : Nat} {b : Addr}, (ow.set i (some a))[j]? = some (some b) → (j = i ∧ b = a) ∨ (j ≠ i ∧ ow[j]? = some (some b)) := fun {j b} z => by
    by_cases hij : j = i
    · subst hij
      rw [List.getElem?_set_self hio] at z
      cases z
      exact .inl ⟨rfl, rfl⟩
    · rw [List.getElem?_set_ne (Ne.symm hij)] at z
      exact .inr ⟨hij, z⟩
  refine ⟨by simpa using I.len, by simpa using I.lenO, fun j s e => ?_, fun j k b h1 h2 => ?_, fun b hb => I.live b (to b hb), fun b hb z => ?_, I.frame, fun b hb => ?_, fun q hq => ?_, fun j d' e => ?_, fun q hq => ?_⟩
  · by_cases hij : j = i
    · subst hij
      rw [List.getElem?_set_self hi] at e
      cases e
      rw [List.getElem?_set_self hio]
      exact ⟨a, o, l1, rfl, e3, r.pres (Pres.less to)⟩
    · rw [List.getElem?_set_ne (Ne.symm hij)] at e
      rw [List.getElem?_set_ne (Ne.symm hij)]
      exact (I.slot j s e).pres (Pres.less to) fun _ _ => rfl
  · rcases get h1 with ⟨a1, a2⟩ | ⟨a1, a2⟩ <;> rcases get h2 with ⟨b1, b2⟩ | ⟨b1, b2⟩
    · rw [a1, b1]
    · exact absurd (List.mem_of_getElem? b2) (by rw [a2]; exact ha_ow)
    · exact absurd (List.mem_of_getElem? a2) (by rw [b2]; exact ha_ow)
    · exact I.inj j k b a2 b2
  · rcases mem hb with hb | hb
    · exact I.sep b hb (.inl z)
    · rw [hb] at z; exact hA z
  · rcases mem hb with hb | hb
    · exact I.fresh b hb
    · rw [hb]; exact .inl h0
  · obtain ⟨h1, d', h2⟩ := I.io q hq
    have hne : i ≠ q.1 := fun z => by rw [← z, l2] at h2; cases h2
    exact ⟨by rw [List.getElem?_set_ne hne]; exact h1, d', by rw [List.getElem?_set_ne hne]; exact h2⟩
  · by_cases hij : j = i
    · subst hij
      rw [List.getElem?_set_self hi] at e
      cases e
    · rw [List.getElem?_set_ne (Ne.symm hij)] at e
      exact I.iow j d' e
  · obtain ⟨h1, h2⟩ := I.lk q (List.mem_cons_of_mem _ hq)
    exact ⟨h1, by rw [List.getElem?_set_ne (Ne.symm (hlk q hq))]; exact h2⟩
end
/-- [.. for .. in x], for .. in x, x an own list that goes on behind -/
def eLcL (i : Nat) (vs : List Nat) (g : GM) (t : TM) (m : EM) : EM := fun env => match env[i]? with
  | some (.own (.lst ds)) => if ds.length ≤ 16777216 then (wipeE vs (env.set i .lck)).bind fun e2 => (lcGo vs g t m ds e2).bind fun (r, e) => some (.lst r, e.set i (.own (.lst ds))) else none
  | _ => none
def sForL (i : Nat) (g : GM) (body : SM) : SM := fun env => match env[i]? with
  | some (.own (.lst ds)) => (forGo g body ds (env.set i .lck)).bind fun (f, e) => match f with
    | .nx => some (.nx, e.set i (.own (.lst ds)))
    | .rt fr d => some (.rt fr d, e)
    | _ => none
  | _ => none
theorem Sim.less {K : PySem.W.Frag} {S S' : SS} {ow : List (Option Addr)} {σ : L2.St} {H : Hp} {env : Env} (I : Sim K S' ow σ H env) (hA : ∀ a, S.A a → S'.A a) (h0 : S'.H0 = S.H0) (hio : S'.io = S.io) (hlk : ∀ p ∈ S.lk, p ∈ S'.lk) : Sim K S ow σ H env := by
  refine ⟨I.len, I.lenO, fun j s e => (I.slot j s e).pres (Pres.less fun a z => z.elim (fun z => .inl (hA a z)) .inr) fun _ _ => rfl, I.inj, fun a ha => I.live a (ha.elim (fun z => .inl (hA a z)) .inr), fun a ha z => I.sep a ha (hA a z), ?_, ?_, ?_, ?_, fun p hp => I.lk p (hlk p hp)⟩
  · rw [← h0, ← hio]; exact I.frame
  · rw [← h0, ← hio]; exact I.fresh
  · rw [← hio]; exact I.io
  · rw [← hio]; exact I.iow
section
variable {K : PySem.W.Frag} {g : GM} {is vs : List Nat} {t : TM} {m : EM} {body : SM} {σ : L2.St} {H : Hp} {Q : VK} {Dd : Ends} {i : Nat}
theorem stp_lock {ow ow' : List (Option Addr)} {H' : Hp} {a : Addr} (st : Stp (ow.set i none) H ow' H') (hin : some a ∈ ow) (hx : some a ∉ ow.set i none) : Stp ow H (ow'.set i (some a)) H' := ⟨fun b u e n => by
  obtain ⟨q1, q2⟩ := st.cell b u e fun z => n (mem_set_none z)
  refine ⟨q1, fun z => ?_⟩
  rcases List.mem_or_eq_of_mem_set z with z | z
  · exact q2 z
  · cases z; exact n hin, st.tup, st.frz, st.dom⟩
theorem lcL_go (hs : ∀ i ∈ is, i ∈ vs) (h : EvF K (eLcL i vs g t m) σ H Q) : tLc (iList K (tVar i)) (EvG K is g) (EvT K t) (EvS K m) vs σ H Q := by
  obtain ⟨S, ow, env, I, d, envF, hm, k⟩ := h
  unfold eLcL at hm
  split at hm
  rotate_left
  · cases hm
  rename_i ds hown
  split at hm
  rotate_left
  · cases hm
  rename_i hbig
  simp only [Option.bind_eq_some_iff] at hm
  obtain ⟨e2, hw, ⟨out, eF⟩, hgo, hend⟩ := hm
  cases hend
  obtain ⟨a, o, e1, e3, rc, J, h0, hA, hx, hlk⟩ := I.lock hown
  have hin : some a ∈ ow := by
    obtain ⟨a', o', q1, q2, _⟩ := I.slot i _ hown
    rw [e1] at q1
    cases q1
    exact List.mem_of_getElem? q2
  cases rc with
  | @lst vsl _ rl =>
    have sl : StL K (ow.set i none) H a vsl := .of (o := .lst vsl) e3 hx
    refine ⟨_, e1, a, rfl, ⟨vsl, sl _ _ .refl⟩, ?_⟩
    refine lc_in hs J (src_list sl rl) hbig hw hgo fun Dl ow' acc H' hD st' I' hacc racc => ?_
    have ha' := st'.cell a _ e3 hx
    have I2 : Sim K ((S.add Dl).lock i a) ow' σ H' eF := I'.less (fun b z => by
      rcases z with (z | z) | z
      · exact .inl (.inl z)
      · exact .inr z
      · exact .inl (.inr z)) rfl rfl fun p hp => hp
    have hDa : a ≠ Dl := fun z => by rw [z, hD] at e3; cases e3
    have pr : RpC K H' (Av ((S.add Dl).lock i a).A ow') (.lst vsl) (.lst ds) := by
      refine ((RpC.lst rl).pres (Pres.grow (A' := ((S.add Dl).lock i a).A) fun b z => ?_)).pres st'.pres
      rcases z with (z | z) | z
      · exact .inl (.inl z)
      · exact .inr (by rw [z]; exact hD)
      · exact .inl (.inr z)
    have U := I2.unlock ha'.1 pr h0 (fun z => z.elim hA hDa) hlk
    refine k (S.add Dl) _ _ H' (stp_lock st' hin hx) U (.inr ⟨rfl, Dl, _, rfl, rfl, hD, hacc, .lst (racc.pres ?_)⟩)
    refine ⟨fun b u e n => ⟨e, fun z => ?_⟩, fun _ _ e => e, fun _ _ _ e => e⟩
    rcases z with (z | z) | z
    · exact n (.inl (.inl (.inl z)))
    · exact n (.inl (.inr z))
    · rcases List.mem_or_eq_of_mem_set z with z | z
      · exact n (.inr z)
      · cases z; exact n (.inl (.inl (.inr rfl)))
theorem forL_go (h : EvSt K (sForL i g body) Dd σ H) : tFor (iList K (tVar i)) (EvG K is g) (EvSt K body) Dd σ H := by
  obtain ⟨S, ow, env, I, f, envF, hm, k⟩ := h
  unfold sForL at hm
  split at hm
  rotate_left
  · cases hm
  rename_i ds hown
  simp only [Option.bind_eq_some_iff] at hm
  obtain ⟨⟨f1, e1'⟩, hgo, hend⟩ := hm
  obtain ⟨a, o, e1, e3, rc, J, h0, hA, hx, hlk⟩ := I.lock hown
  have hin : some a ∈ ow := by
    obtain ⟨a', o', q1, q2, _⟩ := I.slot i _ hown
    rw [e1] at q1
    cases q1
    exact List.mem_of_getElem? q2
  cases rc with
  | @lst vsl _ rl =>
    have sl : StL K (ow.set i none) H a vsl := .of (o := .lst vsl) e3 hx
    refine ⟨_, e1, a, rfl, ⟨vsl, sl _ _ .refl⟩, ?_⟩
    refine for_in J (src_list sl rl) hgo ?_
    cases f1 with
    | nx =>
      cases hend
      intro ow' σ' H' st' I'
      have ha' := st'.cell a _ e3 hx
      exact k _ σ' H' (stp_lock st' hin hx) (I'.unlock ha'.1 ((RpC.lst rl).pres st'.pres) h0 hA hlk)
    | bk => cases hend
    | ct => cases hend
    | rt fr d =>
      cases hend
      intro S' ow' σ' H' v st' I' r
      have stp : Stp ow H ow' H' := ⟨fun b u e n => st'.cell b u e fun z => n (mem_set_none z), st'.tup, st'.frz, st'.dom⟩
      rcases r with ⟨rfl, r, n⟩ | ⟨z, p, o, rfl, rfl, q1, q2, q3, q4⟩
      · exact k S ow' σ' H' v stp (I'.less (fun b z => .inl z) rfl rfl fun p hp => List.mem_cons_of_mem _ hp) (.inl ⟨rfl, r.pres (Pres.less fun b z => z.elim (fun z => .inl (.inl z)) .inr), n⟩)
      · refine k (S.add p) ow' σ' H' _ stp (I'.less (fun b z => z.elim (fun z => .inl (.inl z)) .inr) rfl rfl fun p hp => List.mem_cons_of_mem _ hp) (.inr ⟨z, p, o, rfl, rfl, q1, fun z => q2 (.inl z), q3, q4.pres (Pres.less fun b z => z.elim (fun z => .inl (z.elim (fun z => .inl (.inl z)) .inr)) .inr)⟩)
end
section
variable {X : Cx} {pos : Pos}
theorem e_lcL {i : Nat} {x : Str} {px : Pos} {elt tg : Expr} {ifs : List Expr} {scope : Scope} {own : List (Str × Nat)} {g : GM} {is : List Nat} {t : TM} {m : EM} (hc : X.calm = true) (hN : X.N.Nodup) (hi : PE X (.Name x px) (tVar i)) (ok : BlkOk X.N X.env.scope scope own)
    (hg : ∀ (s : Shared) (H : Hp) (C : Addr) (cl : List (Str × Addr)) (fp : List Addr), PG (X.blk s H scope (compEnvC scope cl C X.env) fp) tg (EvG X.K is g)) (ht : ∀ (s : Shared) (H : Hp) (C : Addr) (cl : List (Str × Addr)) (fp : List Addr), PTs (X.blk s H scope (compEnvC scope cl C X.env) fp) ifs (EvT X.K t))
    (he : ∀ (s : Shared) (H : Hp) (C : Addr) (cl : List (Str × Addr)) (fp : List Addr), PE (X.blk s H scope (compEnvC scope cl C X.env) fp) elt (EvS X.K m)) (hsub : ∀ i ∈ is, i ∈ own.map (·.2) := by decide) (hs : ∀ v, foldedSetIterable (.Name x px) X.env v = pure v := by intro _; rfl) :
    PE X (.ListComp elt [⟨tg, .Name x px, ifs, 0⟩] scope pos) (EvF X.K (eLcL i (own.map (·.2)) g t m)) :=
  (pe_lc hc hN (pi_list hi) ok hg ht he hs).imp fun _ _ _ h => lcL_go hsub h
theorem s_forL {i : Nat} {x : Str} {px : Pos} {tg : Expr} {body : List Stmt} {g : GM} {is : List Nat} {m : SM} (hp : PassesOwn (model X.prog X.w) X.A X.env X.xe) (hc : X.calm = true) (hi : PE X (.Name x px) (tVar i)) (hg : PG X tg (EvG X.K is g)) (hb : PSs X body (EvSt X.K m))
    (hs : ∀ v, foldedSetIterable (.Name x px) X.env v = pure v := by intro _; rfl) : PS X (.For tg (.Name x px) body [] pos) (EvSt X.K (sForL i g m)) := (ps_for hp hc (pi_list hi) hg hb hs).imp fun _ _ _ h => forL_go h
end

/-! ### a, b = e1, e2 and a, b, c = e1, e2, e3 with plain local names -/
abbrev OE := Bool × EM
def slotOf (o : Bool) (d : D) : Slot := if o = true then mkOwn d else .shr d
section
variable {K : PySem.W.Frag} {S S' S1 : SS} {ow ow1 ow2 : List (Option Addr)} {σ : L2.St} {H Hs H1 H2 H' : Hp} {env : Env} {i j : Nat} {v : V} {d : D} {o : Bool}
theorem put_fr (f : FrR o K S S' Hs H' ow v d) (J : Sim K S' ow σ H' env) (hf : free env i = true) (h0 : ∀ p, Hs p = none → ¬ S.A p ∧ S.H0 p = none) :
    ∃ x : Option Addr, (∀ p, x = some p → Hs p = none) ∧ Sim K S (ow.set i x) (σ.set i (some v)) H' (env.set i (slotOf o d)) := by
  rcases f with ⟨rfl, r, n⟩ | ⟨rfl, p, ob, rfl, rfl, hp, ho, r⟩
  · have e : slotOf o d = .shr d := by
      unfold slotOf
      cases o with
      | true => unfold mkOwn; rw [n rfl]; rfl
      | false => rfl
    exact ⟨none, (fun _ z => nomatch z), (by rw [e]; exact J.put hf r)⟩
  · have e : slotOf true d = .own d := by unfold slotOf mkOwn; rw [r.mutD]; rfl
    exact ⟨some p, (fun q z => by cases z; exact hp), (by rw [e]; exact J.putOwn hf ho r (h0 p hp).1 (h0 p hp).2)⟩
theorem stp_set {x : Option Addr} (st : Stp ow H ow2 H2) (hx : ∀ p, x = some p → H p = none) : Stp ow H (ow2.set i x) H2 := by
  refine ⟨fun a u e n => ?_, st.tup, st.frz, st.dom⟩
  obtain ⟨q1, q2⟩ := st.cell a u e n
  refine ⟨q1, fun z => ?_⟩
  rcases List.mem_or_eq_of_mem_set z with z | z
  · exact q2 z
  · have := hx a z.symm
    rw [e] at this
    cases this
theorem FrR.step (f : FrR o K S S1 H H1 ow1 v d) (I1 : Sim K S1 ow1 σ H1 env) (st : Stp ow1 H1 ow2 H2) : FrR o K S S1 H H2 ow2 v d := by
  rcases f with ⟨rfl, r, n⟩ | ⟨rfl, p, ob, rfl, rfl, hp, ho, r⟩
  · exact .inl ⟨rfl, r.pres st.pres, n⟩
  · exact .inr ⟨rfl, p, ob, rfl, rfl, hp, (st.cell p _ ho fun z => I1.sep p z (.inr rfl)).1, r.pres st.pres⟩
theorem Sim.h0' (I : Sim K S ow σ H env) : ∀ p, H p = none → ¬ S.A p ∧ S.H0 p = none := fun p hp => ⟨fun z => I.mutne (.inl z) hp, I.h0none hp⟩
theorem free_set (h : free env i = true) (hij : i ≠ j) (s : Slot) : free (env.set j s) i = true := by
  unfold free
  rw [List.getElem?_set_ne (Ne.symm hij)]
  exact h
end
def sPar2 (i j : Nat) (x y : OE) : SM := fun env => (x.2 env).bind fun (d1, e1) => (y.2 e1).bind fun (d2, e2) => if (free e2 i && free e2 j && decide (i ≠ j)) = true then some (.nx, (e2.set j (slotOf y.1 d2)).set i (slotOf x.1 d1)) else none
def sPar3 (i j l : Nat) (x y z : OE) : SM := fun env => (x.2 env).bind fun (d1, e1) => (y.2 e1).bind fun (d2, e2) => (z.2 e2).bind fun (d3, e3) => if (free e3 i && free e3 j && free e3 l && decide (i ≠ j) && decide (i ≠ l) && decide (j ≠ l)) = true then some (.nx, ((e3.set l (slotOf z.1 d3)).set j (slotOf y.1 d2)).set i (slotOf x.1 d1)) else none
section
variable {X : Cx} {pos : Pos}
theorem par2_go {K : PySem.W.Frag} {i j : Nat} {x y : OE} {Dd : Ends} {σ : L2.St} {H : Hp} (h : EvSt K (sPar2 i j x y) Dd σ H) : tPar i j (tCons (Ev x.1 K x.2) (tCons (Ev y.1 K y.2) tNil)) Dd σ H := by
  obtain ⟨S, ow, env, I, f, envF, hm, k⟩ := h
  unfold sPar2 at hm
  simp only [Option.bind_eq_some_iff] at hm
  obtain ⟨⟨d1, e1⟩, h1, ⟨d2, e2⟩, h2, h3⟩ := hm
  split at h3
  rotate_left
  · cases h3
  rename_i hc
  simp only [Bool.and_eq_true, decide_eq_true_eq] at hc
  obtain ⟨⟨fi, fj⟩, hij⟩ := hc
  cases h3
  refine ⟨S, ow, env, I, d1, e1, h1, fun S1 ow1 v1 H1 st1 I1 f1 => ⟨S1, ow1, e1, I1, d2, e2, h2, fun S2 ow2 v2 H2 st2 I2 f2 => ⟨v1, v2, rfl, ?_⟩⟩⟩
  obtain ⟨x2, hx2, J2⟩ := put_fr f2 I2 fj I1.h0'
  have st2' := stp_set (i := j) st2 hx2
  obtain ⟨x1, hx1, J1⟩ := put_fr (f1.step I1 st2') J2 (free_set fi hij _) I.h0'
  rw [List.set_comm _ _ hij]
  exact k _ _ H2 (stp_set (st1.trans st2') hx1) J1
theorem s_par2 {i j : Nat} {x y : Str} {a b : Expr} {m n : OE} {px py pt : Pos} {kt k2 : Nat} {pt2 : Pos} (h : PS X (.Assign [.Tuple [.Name x px, .Name y py] kt pt] (.Tuple [a, b] k2 pt2) pos) (tPar i j (tCons (Ev m.1 X.K m.2) (tCons (Ev n.1 X.K n.2) tNil)))) :
    PS X (.Assign [.Tuple [.Name x px, .Name y py] kt pt] (.Tuple [a, b] k2 pt2) pos) (EvSt X.K (sPar2 i j m n)) := h.imp fun _ _ _ h => par2_go h
theorem par3_go {K : PySem.W.Frag} {i j l : Nat} {x y z : OE} {Dd : Ends} {σ : L2.St} {H : Hp} (h : EvSt K (sPar3 i j l x y z) Dd σ H) : tPar3 i j l (tCons (Ev x.1 K x.2) (tCons (Ev y.1 K y.2) (tCons (Ev z.1 K z.2) tNil))) Dd σ H := by
  obtain ⟨S, ow, env, I, f, envF, hm, k⟩ := h
  unfold sPar3 at hm
  simp only [Option.bind_eq_some_iff] at hm
  obtain ⟨⟨d1, e1⟩, h1, ⟨d2, e2⟩, h2, ⟨d3, e3⟩, h3, h4⟩ := hm
  split at h4
  rotate_left
  · cases h4
  rename_i hc
  simp only [Bool.and_eq_true, decide_eq_true_eq] at hc
  obtain ⟨⟨⟨⟨⟨fi, fj⟩, fl⟩, hij⟩, hil⟩, hjl⟩ := hc
  cases h4
  refine ⟨S, ow, env, I, d1, e1, h1, fun S1 ow1 v1 H1 st1 I1 f1 => ⟨S1, ow1, e1, I1, d2, e2, h2, fun S2 ow2 v2 H2 st2 I2 f2 => ⟨S2, ow2, e2, I2, d3, e3, h3, fun S3 ow3 v3 H3 st3 I3 f3 => ⟨v1, v2, v3, rfl, ?_⟩⟩⟩⟩
  obtain ⟨x3, hx3, J3⟩ := put_fr f3 I3 fl I2.h0'
  have st3' := stp_set (i := l) st3 hx3
  obtain ⟨x2, hx2, J2⟩ := put_fr (f2.step I2 st3') J3 (free_set fj hjl _) I1.h0'
  have st2' := stp_set (i := j) (st2.trans st3') hx2
  obtain ⟨x1, hx1, J1⟩ := put_fr (f1.step I1 st2') J2 (free_set (free_set fi hil _) hij _) I.h0'
  rw [List.set_comm _ _ hij, List.set_comm _ _ hil, List.set_comm _ _ hjl]
  exact k _ _ H3 (stp_set (st1.trans st2') hx1) J1
theorem s_par3 {i j l : Nat} {x y z : Str} {a b c : Expr} {m n o : OE} {px py pz pt : Pos} {kt k2 : Nat} {pt2 : Pos} (h : PS X (.Assign [.Tuple [.Name x px, .Name y py, .Name z pz] kt pt] (.Tuple [a, b, c] k2 pt2) pos) (tPar3 i j l (tCons (Ev m.1 X.K m.2) (tCons (Ev n.1 X.K n.2) (tCons (Ev o.1 X.K o.2) tNil))))) :
    PS X (.Assign [.Tuple [.Name x px, .Name y py, .Name z pz] kt pt] (.Tuple [a, b, c] k2 pt2) pos) (EvSt X.K (sPar3 i j l m n o)) := h.imp fun _ _ _ h => par3_go h
end

/-! ### lists that change -/
def ownL (env : Env) (i : Nat) : Option (List D) := match env[i]? with
  | some (.own (.lst ds)) => some ds
  | some (.iow (.lst ds)) => some ds
  | _ => none
/-- the slot goes on with another list -/
def putL (env : Env) (i : Nat) (ds : List D) : Env := match env[i]? with
  | some (.iow _) => env.set i (.iow (.lst ds))
  | _ => env.set i (.own (.lst ds))
section
variable {K : PySem.W.Frag} {S : SS} {ow : List (Option Addr)} {σ : L2.St} {H : Hp} {env : Env} {i : Nat} {d : D} {ds es : List D}
theorem Sim.ownL (I : Sim K S ow σ H env) (h : ownL env i = some ds) : ∃ a vs, σ[i]? = some (some (.ref a)) ∧ ow[i]? = some (some a) ∧ H a = some (.lst vs) ∧ RpL K H (Av S.A ow) vs ds := by
  unfold PL.ownL at h
  cases e : env[i]? with
  | none => rw [e] at h; cases h
  | some s =>
    rw [e] at h
    have q := I.slot i s e
    cases s with
    | no => cases h
    | lck => cases h
    | shr d => cases h
    | own d =>
      cases d <;> first | cases h | skip
      obtain ⟨a, o, e1, e2, e3, r⟩ := q
      cases r with
      | @lst vs _ rl => exact ⟨a, vs, e1, e2, e3, rl⟩
    | iow d =>
      cases d <;> first | cases h | skip
      obtain ⟨a, o, e1, e2, e3, r⟩ := q
      cases r with
      | @lst vs _ rl => exact ⟨a, vs, e1, e2, e3, rl⟩
theorem Sim.chg {a : Addr} {vs : List V} (I : Sim K S ow σ H env) (h : PL.ownL env i = some ds) (h1 : σ[i]? = some (some (.ref a))) (h2 : ow[i]? = some (some a)) (r : RpL K H (Av S.A ow) vs es) :
    Sim K S ow σ (upd H a (.lst vs)) (putL env i es) ∧ Stp ow H ow (upd H a (.lst vs)) := by
  obtain ⟨a', vs0, q1, q2, e3, _⟩ := I.ownL h
  rw [h1] at q1
  cases q1
  have hin : some a ∈ ow := List.mem_of_getElem? h2
  have hi : i < env.length := by rw [I.len]; exact (List.getElem?_eq_some_iff.mp h1).1
  have pr : Pres H (Av S.A ow) (upd H a (.lst vs)) (Av S.A ow) := ⟨fun b u e n => ⟨by rw [upd_ne fun z => n (.inr (by rw [z]; exact hin))]; exact e, n⟩,
    fun b xs e => by rw [upd_ne fun z => by rw [z, e3] at e; cases e]; exact e, fun b u w e => by rw [upd_ne fun z => by rw [z, e3] at e; cases e]; exact e⟩
  have hput : ∃ s0 s1, env[i]? = some s0 ∧ PL.putL env i es = env.set i s1 ∧ ((∃ d0, s0 = .iow d0 ∧ s1 = .iow (.lst es)) ∨ (∃ d0, s0 = .own d0 ∧ s1 = .own (.lst es))) := by
    unfold PL.ownL at h
    unfold PL.putL
    cases e : env[i]? with
    | none => rw [e] at h; cases h
    | some s =>
      rw [e] at h
      cases s with
      | own d0 => exact ⟨_, _, rfl, rfl, .inr ⟨d0, rfl, rfl⟩⟩
      | iow d0 => exact ⟨_, _, rfl, rfl, .inl ⟨d0, rfl, rfl⟩⟩
      | _ => cases h
  obtain ⟨s0, s1, hs0, hs1, hk⟩ := hput
  rw [hs1]
  refine ⟨⟨by simpa using I.len, I.lenO, fun j s e => ?_, I.inj, fun b hb => ?_, I.sep, fun b u e n => ?_, I.fresh, fun p hp => ?_, fun j d' e => ?_, fun p hp => ?_⟩, ⟨fun b u e n => ⟨by rw [upd_ne fun z => n (by rw [z]; exact hin)]; exact e, n⟩, pr.tup, pr.frz, fun b u e => ?_⟩⟩
  · by_cases hij : j = i
    · subst hij
      rw [List.getElem?_set_self hi] at e
      cases e
      rcases hk with ⟨d0, _, rfl⟩ | ⟨d0, _, rfl⟩
      · exact ⟨a, _, h1, h2, upd_same, .lst (r.pres pr)⟩
      · exact ⟨a, _, h1, h2, upd_same, .lst (r.pres pr)⟩
    · rw [List.getElem?_set_ne (Ne.symm hij)] at e
      exact (I.slot j s e).pres pr fun b eb => upd_ne fun z => hij (I.inj j i a (by rw [← z]; exact eb) h2)
  · by_cases hz : b = a
    · subst hz; exact ⟨_, upd_same, trivial⟩
    · obtain ⟨u, e, m⟩ := I.live b hb
      exact ⟨u, by rw [upd_ne hz]; exact e, m⟩
  · rw [upd_ne]
    · exact I.frame b u e n
    · intro z
      subst z
      rcases I.fresh b hin with z | ⟨j, hj⟩
      · rw [z] at e; cases e
      · exact n _ hj rfl
  · obtain ⟨q1, d', q2⟩ := I.io p hp
    by_cases hij : p.1 = i
    · rcases hk with ⟨d0, _, rfl⟩ | ⟨d0, rfl, rfl⟩
      · exact ⟨q1, _, by rw [hij, List.getElem?_set_self hi]⟩
      · rw [hij, hs0] at q2; cases q2
    · exact ⟨q1, d', by rw [List.getElem?_set_ne (Ne.symm hij)]; exact q2⟩
  · by_cases hij : j = i
    · subst hij
      rw [List.getElem?_set_self hi] at e
      rcases hk with ⟨d0, rfl, rfl⟩ | ⟨d0, rfl, rfl⟩
      · exact I.iow j _ hs0
      · cases e
    · rw [List.getElem?_set_ne (Ne.symm hij)] at e
      exact I.iow j d' e
  · obtain ⟨q1, q2⟩ := I.lk p hp
    have hne : i ≠ p.1 := fun z => by
      rw [← z, hs0] at q2
      rcases hk with ⟨d0, rfl, _⟩ | ⟨d0, rfl, _⟩ <;> cases q2
    exact ⟨q1, by rw [List.getElem?_set_ne hne]; exact q2⟩
  · by_cases hz : b = a
    · subst hz; exact ⟨_, upd_same⟩
    · exact ⟨u, by rw [upd_ne hz]; exact e⟩
end
/-- x.append(e) -/
def eApd (i : Nat) (m : EM) : EM := fun env => (ownL env i).bind fun _ => (m env).bind fun (d, e) => (ownL e i).bind fun ds => if ds.length < 16777216 then some (.non, putL e i (ds ++ [d])) else none
/-- x.pop(e), x.pop() -/
def ixNat (n : Nat) (i : Int) : Option Nat := if n ≤ 16777216 then ixN n i else none
def ePopAt (i : Nat) (m : EM) : EM := fun env => (ownL env i).bind fun _ => (m env).bind fun (d, e) => (asI d).bind fun k => (ownL e i).bind fun ds => (ixNat ds.length k).bind fun j => (ds[j]?).bind fun y => some (y, putL e i (ds.eraseIdx j))
def ePop (i : Nat) : EM := fun env => (ownL env i).bind fun ds => (ds[ds.length - 1]?).bind fun y => some (y, putL env i ds.dropLast)
/-- x.insert(i, e) -/
def eIns (i : Nat) (m n : EM) : EM := fun env => (ownL env i).bind fun _ => (m env).bind fun (d, e) => (asI d).bind fun k => (n e).bind fun (y, e') => (ownL e' i).bind fun ds => if 0 ≤ k ∧ k.natAbs < 2 ^ 62 ∧ ds.length < 16777216 then some (.non, putL e' i (ds.take k.toNat ++ [y] ++ ds.drop k.toNat)) else none
/-- x[i] = e -/
def gIx (i : Nat) (m : EM) : GM := fun d env => (ownL env i).bind fun _ => (m env).bind fun (k, e) => (asI k).bind fun k => (ownL e i).bind fun ds => (ixN ds.length k).bind fun j => some (putL e i (ds.set j d))
section
variable {X : Cx} {pos : Pos} {K : PySem.W.Frag}
theorem apd_go {i : Nat} {m : EM} {σ : L2.St} {H : Hp} {Q : VK} (h : EvF K (eApd i m) σ H Q) : tBM K "list" rAppend (tVar i) (tCons (EvS K m) tNil) σ H Q := by
  obtain ⟨S, ow, env, I, d0, envF, hm, k⟩ := h
  unfold eApd at hm
  simp only [Option.bind_eq_some_iff] at hm
  obtain ⟨ds0, h0, ⟨d, e⟩, h1, ds, h2, h3⟩ := hm
  split at h3
  rotate_left
  · cases h3
  rename_i hz
  cases h3
  obtain ⟨a, vs0, q1, q2, q3, q4⟩ := I.ownL h0
  refine ⟨_, q1, .inl ⟨rfl, _, .inl (.inl q3)⟩, S, ow, env, I, d, e, h1, fun S' ow1 v H1 st1 I1 f => ?_⟩
  obtain ⟨rfl, r⟩ := f.shared
  obtain ⟨a', vs, p1, p2, p3, p4⟩ := I1.ownL h2
  rw [q1] at p1
  cases p1
  obtain ⟨J, st⟩ := I1.chg h2 q1 p2 (p4.append (.cons r .nil))
  exact ⟨a, vs, v, rfl, rfl, p3, by rw [p4.length, sizeLine_eq]; exact hz, k _ _ _ _ (st1.trans st) J (.inl ⟨rfl, .non, fun _ => rfl⟩)⟩
theorem e_apd {i : Nat} {x : Str} {p apos : Pos} {e : Expr} {m : EM} (h : PE X (.Call (.Attribute (.Name x p) "append" apos) [e] [] pos) (tBM X.K "list" rAppend (tVar i) (tCons (EvS X.K m) tNil))) : PE X (.Call (.Attribute (.Name x p) "append" apos) [e] [] pos) (EvF X.K (eApd i m)) := h.imp fun _ _ _ h => apd_go h
theorem popAt_go {i : Nat} {m : EM} {σ : L2.St} {H : Hp} {Q : VK} (h : EvS K (ePopAt i m) σ H Q) : tBM K "list" rPopAt (tVar i) (tCons (EvS K m) tNil) σ H Q := by
  obtain ⟨S, ow, env, I, d0, envF, hm, k⟩ := h
  unfold ePopAt at hm
  simp only [Option.bind_eq_some_iff] at hm
  obtain ⟨ds0, h0, ⟨d, e⟩, h1, kk, hk, ds, h2, j, hj, y, hy, h3⟩ := hm
  cases h3
  have := asI_some hk
  subst this
  obtain ⟨a, vs0, q1, q2, q3, q4⟩ := I.ownL h0
  refine ⟨_, q1, .inl ⟨rfl, _, .inl (.inl q3)⟩, S, ow, env, I, _, e, h1, fun S' ow1 v H1 st1 I1 f => ?_⟩
  obtain ⟨rfl, r⟩ := f.shared
  obtain ⟨a', vs, p1, p2, p3, p4⟩ := I1.ownL h2
  rw [q1] at p1
  cases p1
  unfold ixNat at hj
  split at hj
  rotate_left
  · cases hj
  rename_i hb
  obtain ⟨hj, hj2, hj3, hj4⟩ := ixN_seq hj
  obtain ⟨J, st⟩ := I1.chg h2 q1 p2 (p4.eraseIdx j)
  obtain ⟨vy, ey, ry⟩ := p4.get hy
  refine ⟨a, vs, kk, j, vy, rfl, by rw [r.int_inv], p3, by omega, by omega, by rw [p4.length]; exact hj, ey, k _ ow1 vy _ (st1.trans st) J (.inl ⟨rfl, ?_, fun z => by cases z⟩)⟩
  exact ry.pres st.pres
theorem e_popAt {i : Nat} {x : Str} {p apos : Pos} {e : Expr} {m : EM} (h : PE X (.Call (.Attribute (.Name x p) "pop" apos) [e] [] pos) (tBM X.K "list" rPopAt (tVar i) (tCons (EvS X.K m) tNil))) : PE X (.Call (.Attribute (.Name x p) "pop" apos) [e] [] pos) (EvS X.K (ePopAt i m)) := h.imp fun _ _ _ h => popAt_go h
theorem pop_go {i : Nat} {σ : L2.St} {H : Hp} {Q : VK} (h : EvS K (ePop i) σ H Q) : tBM0 K "list" rPop (tVar i) σ H Q := by
  obtain ⟨S, ow, env, I, d0, envF, hm, k⟩ := h
  unfold ePop at hm
  simp only [Option.bind_eq_some_iff] at hm
  obtain ⟨ds, h2, y, hy, h3⟩ := hm
  cases h3
  obtain ⟨a, vs, q1, p2, p3, p4⟩ := I.ownL h2
  obtain ⟨J, st⟩ := I.chg h2 q1 p2 p4.dropLast
  obtain ⟨vy, ey, ry⟩ := p4.get hy
  exact ⟨_, q1, .inl ⟨rfl, _, .inl (.inl p3)⟩, a, vs, vy, rfl, rfl, p3, by rw [p4.length]; exact ey, k _ ow vy _ st J (.inl ⟨rfl, ry.pres st.pres, fun z => by cases z⟩)⟩
theorem e_pop {i : Nat} {x : Str} {p apos : Pos} (h : PE X (.Call (.Attribute (.Name x p) "pop" apos) [] [] pos) (tBM0 X.K "list" rPop (tVar i))) : PE X (.Call (.Attribute (.Name x p) "pop" apos) [] [] pos) (EvS X.K (ePop i)) := h.imp fun _ _ _ h => pop_go h
def rInsert : V → List V → Hp → VK → Prop := fun x vs H Q => ∃ (l : Addr) (xs : List V) (i : Int) (y : V), x = .ref l ∧ vs = [.int i, y] ∧ H l = some (.lst xs) ∧ xs.length < sizeLine ∧ 0 ≤ i ∧ i < 2 ^ 63 ∧ Q .non (upd H l (.lst (xs.take i.toNat ++ [y] ++ xs.drop i.toNat)))
theorem ins_go {i : Nat} {m n : EM} {σ : L2.St} {H : Hp} {Q : VK} (h : EvF K (eIns i m n) σ H Q) : tBM K "list" rInsert (tVar i) (tCons (EvS K m) (tCons (EvS K n) tNil)) σ H Q := by
  obtain ⟨S, ow, env, I, d0, envF, hm, k⟩ := h
  unfold eIns at hm
  simp only [Option.bind_eq_some_iff] at hm
  obtain ⟨ds0, h0, ⟨d, e⟩, h1, kk, hk, ⟨y, e'⟩, hn, ds, h2, h3⟩ := hm
  split at h3
  rotate_left
  · cases h3
  rename_i hb
  cases h3
  have := asI_some hk
  subst this
  obtain ⟨a, vs0, q1, q2, q3, q4⟩ := I.ownL h0
  refine ⟨_, q1, .inl ⟨rfl, _, .inl (.inl q3)⟩, S, ow, env, I, _, e, h1, fun S' ow1 v H1 st1 I1 f => ?_⟩
  obtain ⟨rfl, r⟩ := f.shared
  refine ⟨_, ow1, e, I1, y, e', hn, fun S' ow2 vy H2 st2 I2 f2 => ?_⟩
  obtain ⟨rfl, r2⟩ := f2.shared
  obtain ⟨a', vs, p1, p2, p3, p4⟩ := I2.ownL h2
  rw [q1] at p1
  cases p1
  obtain ⟨J, st⟩ := I2.chg h2 q1 p2 (((p4.take kk.toNat).append (.cons r2 .nil)).append (p4.drop kk.toNat))
  exact ⟨a, vs, kk, vy, rfl, by rw [r.int_inv], p3, by rw [p4.length, sizeLine_eq]; exact hb.2.2, hb.1, by omega, k _ ow2 _ _ ((st1.trans st2).trans st) J (.inl ⟨rfl, .non, fun _ => rfl⟩)⟩
theorem e_ins {i : Nat} {x : Str} {p apos : Pos} {e e2 : Expr} {m n : EM} (h : PE X (.Call (.Attribute (.Name x p) "insert" apos) [e, e2] [] pos) (tBM X.K "list" rInsert (tVar i) (tCons (EvS X.K m) (tCons (EvS X.K n) tNil)))) : PE X (.Call (.Attribute (.Name x p) "insert" apos) [e, e2] [] pos) (EvF X.K (eIns i m n)) := h.imp fun _ _ _ h => ins_go h
theorem gix_go {i : Nat} {m : EM} {v : V} {σ : L2.St} {H : Hp} {Q : L2.St → Hp → Prop} (h : EvG K [] (gIx i m) v σ H Q) : gSub (tVar i) (EvS K m) rSetL v σ H Q := by
  obtain ⟨S, ow, env, I, d, r, envF, hm, k⟩ := h
  unfold gIx at hm
  simp only [Option.bind_eq_some_iff] at hm
  obtain ⟨ds0, h0, ⟨kd, e⟩, h1, kk, hk, ds, h2, j, hj, h3⟩ := hm
  cases h3
  have := asI_some hk
  subst this
  obtain ⟨a, vs0, q1, q2, q3, q4⟩ := I.ownL h0
  refine ⟨_, q1, S, ow, env, I, _, e, h1, fun S' ow1 w H1 st1 I1 f => ?_⟩
  obtain ⟨rfl, r2⟩ := f.shared
  obtain ⟨a', vs, p1, p2, p3, p4⟩ := I1.ownL h2
  rw [q1] at p1
  cases p1
  obtain ⟨J, st⟩ := I1.chg h2 q1 p2 (RpL.set (r.pres st1.pres) j p4)
  exact ⟨a, vs, kk, j, rfl, r2.int_inv, p3, by rw [p4.length]; exact hj, k ow1 σ _ (st1.trans st) J .refl⟩
theorem g_ix {i : Nat} {x : Str} {p : Pos} {e : Expr} {m : EM} (h : PG X (.Subscript (.Name x p) e pos) (gSub (tVar i) (EvS X.K m) rSetL)) : PG X (.Subscript (.Name x p) e pos) (EvG X.K [] (gIx i m)) := h.imp fun _ _ _ _ h => gix_go h
end
end PL
end

section
set_option maxRecDepth 100000
set_option maxHeartbeats 3900000
/-! PL5: a def's promise over plain data; its body; its calls. -/
namespace PL
open PySem Spec PyProof.Rows L2

/-- a def as a function: the value, and for each parameter that it changes (io) what it holds behind -/
abbrev Fn := List D → Option (D × List D)
structure Sg where
  io : List Bool
  fr : Bool

/-- the addresses of the changed parameters -/
def owOf : List Bool → List V → List (Option Addr)
  | [], _ => []
  | _, [] => []
  | true :: bs, .ref a :: vs => some a :: owOf bs vs
  | _ :: bs, _ :: vs => none :: owOf bs vs
def IoA (bs : List Bool) (vs : List V) (a : Addr) : Prop := some a ∈ owOf bs vs
/-- no address twice -/
def NdO (l : List (Option Addr)) : Prop := ∀ (i j : Nat) a, l[i]? = some (some a) → l[j]? = some (some a) → i = j
inductive CArgs (K : PySem.W.Frag) (H : Hp) (P : Addr → Prop) : List Bool → List V → List D → Prop
  | nil : CArgs K H P [] [] []
  | val {v : V} {d : D} {bs : List Bool} {vs : List V} {ds : List D} : Rp K H P v d → CArgs K H P bs vs ds → CArgs K H P (false :: bs) (v :: vs) (d :: ds)
  | io {a : Addr} {o : HO} {d : D} {bs : List Bool} {vs : List V} {ds : List D} : H a = some o → RpC K H P o d → CArgs K H P bs vs ds → CArgs K H P (true :: bs) (.ref a :: vs) (d :: ds)
/-- what the changed parameters hold behind -/
inductive Outs (K : PySem.W.Frag) (H : Hp) (P : Addr → Prop) : List (Option Addr) → List D → Prop
  | nil : Outs K H P [] []
  | no {d : D} {l : List (Option Addr)} {ds : List D} : Outs K H P l ds → Outs K H P (none :: l) (d :: ds)
  | io {a : Addr} {o : HO} {d : D} {l : List (Option Addr)} {ds : List D} : H a = some o → RpC K H P o d → Outs K H P l ds → Outs K H P (some a :: l) (d :: ds)
def Pio (A : Addr → Prop) (l : List (Option Addr)) : Addr → Prop := fun a => A a ∨ some a ∈ l
structure FnPost (K : PySem.W.Frag) (fr : Bool) (A : Addr → Prop) (l : List (Option Addr)) (H H' : Hp) (v : V) (d : D) (os : List D) : Prop where
  frame : ∀ a o, H a = some o → some a ∉ l → H' a = some o
  ret : (Rp K H' (Pio A l) v d ∧ (fr = true → isMutD d = false) ∧ Outs K H' (Pio A l) l os) ∨
    (fr = true ∧ ∃ p o, v = .ref p ∧ H p = none ∧ H' p = some o ∧ RpC K H' (fun a => Pio A l a ∨ a = p) o d ∧ Outs K H' (fun a => Pio A l a ∨ a = p) l os)
def spP (K : PySem.W.Frag) (sg : Sg) (m : Fn) : Sp := fun vs H Q _ => ∃ (A : Addr → Prop) (ds : List D) (r : D × List D), m ds = some r ∧ CArgs K H (Pio A (owOf sg.io vs)) sg.io vs ds ∧ NdO (owOf sg.io vs) ∧
  (∀ a, some a ∈ owOf sg.io vs → ¬ A a) ∧ (∀ a, A a → ∃ o, H a = some o ∧ Mu o) ∧ ∀ v H', FnPost K sg.fr A (owOf sg.io vs) H H' v r.1 r.2 → Q v H'

section
variable {K : PySem.W.Frag} {H H' : Hp} {P P' : Addr → Prop}
theorem CArgs.len : ∀ {bs : List Bool} {vs : List V} {ds : List D}, CArgs K H P bs vs ds → vs.length = bs.length ∧ ds.length = bs.length
  | _, _, _, .nil => ⟨rfl, rfl⟩
  | _, _, _, .val _ t => ⟨by simp [t.len.1], by simp [t.len.2]⟩
  | _, _, _, .io _ _ t => ⟨by simp [t.len.1], by simp [t.len.2]⟩
theorem CArgs.owLen : ∀ {bs : List Bool} {vs : List V} {ds : List D}, CArgs K H P bs vs ds → (owOf bs vs).length = vs.length
  | _, _, _, .nil => rfl
  | _, _, _, .val (v := v) _ t => by cases v <;> simp [owOf, t.owLen]
  | _, _, _, .io _ _ t => by simp [owOf, t.owLen]
def envOf : List Bool → List D → Env
  | [], _ => []
  | _, [] => []
  | b :: bs, d :: ds => (if b = true then .iow d else .shr d) :: envOf bs ds
theorem CArgs.slot : ∀ {bs : List Bool} {vs : List V} {ds : List D} (i : Nat) {s : Slot}, CArgs K H P bs vs ds → (envOf bs ds)[i]? = some s → SlotOk K H P ((vs.map some)[i]?) ((owOf bs vs)[i]?) s
  | _, _, _, _, _, .nil, e => by simp [envOf] at e
  | _, _, _, 0, s, .val (v := v) r t, e => by
    simp [envOf] at e
    subst e
    exact ⟨v, by simp, r⟩
  | _, _, _, 0, s, .io (a := a) (o := o) e0 r t, e => by
    simp [envOf] at e
    subst e
    exact ⟨a, o, by simp, by simp [owOf], e0, r⟩
  | _, _, _, i + 1, s, .val (v := v) r t, e => by
    have q := CArgs.slot i t (by simpa [envOf] using e)
    cases v <;> simpa [owOf] using q
  | _, _, _, i + 1, s, .io (a := a) e0 r t, e => by
    have q := CArgs.slot i t (by simpa [envOf] using e)
    simpa [owOf] using q
theorem CArgs.live : ∀ {bs : List Bool} {vs : List V} {ds : List D} {a : Addr}, CArgs K H P bs vs ds → some a ∈ owOf bs vs → ∃ o, H a = some o ∧ Mu o
  | _, _, _, _, .nil, h => by simp [owOf] at h
  | _, _, _, a, .val (v := v) (bs := bs) (vs := vs) r t, h => by
    have : some a ∈ owOf bs vs := by cases v <;> simpa [owOf] using h
    exact t.live this
  | _, _, _, a, .io (a := a0) (o := o) (bs := bs) (vs := vs) e0 r t, h => by
    have h' : a = a0 ∨ some a ∈ owOf bs vs := by simpa [owOf] using h
    rcases h' with rfl | h'
    · exact ⟨o, e0, r.mu⟩
    · exact t.live h'
theorem CArgs.iow : ∀ {bs : List Bool} {vs : List V} {ds : List D} (i : Nat), CArgs K H P bs vs ds → (∀ a, (owOf bs vs)[i]? = some (some a) → ∃ d, (envOf bs ds)[i]? = some (.iow d)) ∧ (∀ d, (envOf bs ds)[i]? = some (.iow d) → ∃ a, (owOf bs vs)[i]? = some (some a))
  | _, _, _, i, .nil => ⟨fun a h => by simp [owOf] at h, fun d h => by simp [envOf] at h⟩
  | _, _, _, 0, .val (v := v) r t => ⟨fun a h => by cases v <;> simp [owOf] at h, fun d h => by simp [envOf] at h⟩
  | _, _, _, 0, .io (a := a0) (d := d0) e0 r t => ⟨fun a h => ⟨d0, by simp [envOf]⟩, fun d h => ⟨a0, by simp [owOf]⟩⟩
  | _, _, _, i + 1, .val (v := v) r t => by
    obtain ⟨q1, q2⟩ := CArgs.iow i t
    refine ⟨fun a h => ?_, fun d h => ?_⟩
    · have := q1 a (by cases v <;> simpa [owOf] using h)
      simpa [envOf] using this
    · have := q2 d (by simpa [envOf] using h)
      cases v <;> simpa [owOf] using this
  | _, _, _, i + 1, .io (a := a0) e0 r t => by
    obtain ⟨q1, q2⟩ := CArgs.iow i t
    refine ⟨fun a h => ?_, fun d h => ?_⟩
    · have := q1 a (by simpa [owOf] using h)
      simpa [envOf] using this
    · have := q2 d (by simpa [envOf] using h)
      simpa [owOf] using this
end
/-- places and addresses of the changed parameters -/
def ioS (l : List (Option Addr)) : List (Nat × Addr) := (List.range l.length).filterMap fun i => match l[i]? with
  | some (some a) => some (i, a)
  | _ => none
theorem mem_ioS {l : List (Option Addr)} {p : Nat × Addr} : p ∈ ioS l ↔ l[p.1]? = some (some p.2) := by
  unfold ioS
  rw [List.mem_filterMap]
  constructor
  · rintro ⟨i, hi, h⟩
    split at h
    · rename_i a e
      cases h
      exact e
    · cases h
  · intro h
    refine ⟨p.1, List.mem_range.mpr (List.getElem?_eq_some_iff.mp h).1, ?_⟩
    rw [h]
def outsOf : List Bool → Env → Option (List D)
  | [], _ => some []
  | _ :: _, [] => none
  | b :: bs, s :: e => (if b = true then (match s with | .iow d => some d | _ => none) else some .non).bind fun d => (outsOf bs e).map fun r => d :: r
def retOf (fr : Bool) : Fl → Option D
  | .nx => some .non
  | .rt fr' d => if fr = true ∧ fr' = false then none else some d
  | _ => none
/-- a def's function by its body -/
def runFn (sg : Sg) (n : Nat) (body : SM) : Fn := fun ds => if ds.length = sg.io.length then (body (envOf sg.io ds ++ List.replicate (n - ds.length) .no)).bind fun (f, e) => (retOf sg.fr f).bind fun d => (outsOf sg.io e).map fun os => (d, os) else none
theorem envOf_len : ∀ {bs : List Bool} {ds : List D}, ds.length = bs.length → (envOf bs ds).length = bs.length
  | [], [], _ => rfl
  | b :: bs, d :: ds, h => by simp [envOf, envOf_len (by simpa using h : ds.length = bs.length)]
section
variable {K : PySem.W.Frag} {S S' : SS} {H H' : Hp} {ow : List (Option Addr)} {σ : L2.St} {env : Env}
theorem outs_ok : ∀ {bs : List Bool} {l : List (Option Addr)} {k : Nat} {env0 : Env} {os : List D}, l.length = bs.length → (∀ i a, l[i]? = some (some a) → bs[i]? = some true ∧ ow[k + i]? = some (some a)) → (∀ (i : Nat), bs[i]? = some true → ∃ a, l[i]? = some (some a)) → (∀ i, env0[i]? = env[k + i]?) → Sim K S ow σ H env → outsOf bs env0 = some os → Outs K H (Av S.A ow) l os
  | [], [], k, env0, os, hl, h1, h2, he, I, h => by cases h; exact .nil
  | b :: bs, x :: l, k, [], os, hl, h1, h2, he, I, h => by cases h
  | b :: bs, x :: l, k, s :: e, os, hl, h1, h2, he, I, h => by
    unfold outsOf at h
    simp only [Option.bind_eq_some_iff, Option.map_eq_some_iff] at h
    obtain ⟨d, hd, r, hr, e1⟩ := h
    subst e1
    have ih := outs_ok (bs := bs) (l := l) (k := k + 1) (env0 := e) (os := r) (by simpa using hl) (fun i a q => by
      have := h1 (i + 1) a (by simpa using q)
      refine ⟨by simpa using this.1, ?_⟩
      have h3 := this.2
      rw [show k + 1 + i = k + (i + 1) by omega]
      exact h3) (fun i q => by
      have := h2 (i + 1) (by simpa using q)
      simpa using this) (fun i => by
      have := he (i + 1)
      rw [show k + 1 + i = k + (i + 1) by omega, ← this]
      simp) I hr
    cases x with
    | none => exact .no ih
    | some a =>
      obtain ⟨hb, ho⟩ := h1 0 a (by simp)
      have hb' : b = true := by simpa using hb
      subst hb'
      simp only [if_true] at hd
      have hs : env[k]? = some s := by have := he 0; simpa using this.symm
      cases s with
      | iow d' =>
        cases hd
        obtain ⟨a', o, e1, e2, e3, rc⟩ := I.slot k _ hs
        rw [show k + 0 = k by omega] at ho
        rw [ho] at e2
        cases e2
        exact .io e3 rc ih
      | _ => cases hd
end
/-- A DEF KEEPS ITS PROMISE -/
theorem fn_mk {P : Program} {w : World} {K : PySem.W.Frag} {mg : Str → Option Value} {base : Heap} {x qual : Str} {st : Stmt} {f : Addr} {fd : FuncData} {N ps : List Str} {k : Nat} {sg : Sg} {body : SM}
    (F : Fun K x qual st f fd) (Sc : FnScope N ps (defScope st)) (hps : ps.length = sg.io.length)
    (hb : ∀ (cdv : Value) (A : Around) (outer : List PySem.Env) (s : Shared) (H : Hp) (E : XK), Room k (A.deeper (envOfC qual (defScope st) s.heap.objs.size f cdv)) →
      PSs (cxOf CX0 P w K mg base N qual (defScope st) f cdv A outer s H E).nox (defBody st) (EvSt K body)) :
    FnOk P w K mg base CX0 (k + 1) f fd ps (spP K sg (runFn sg N.length body)) := by
  refine F.ok Sc (fun vs H Q E h => ?_) (fun cdv A outer s H vs Q E hr h => ⟨_, hb cdv A outer s H E hr, ?_⟩)
  · obtain ⟨A, ds, r, hm, ca, _⟩ := h
    rw [ca.len.1, hps]
  · obtain ⟨Av0, ds, ⟨d, os⟩, hm, ca, nd, dis, live, q⟩ := h
    unfold runFn at hm
    split at hm
    rotate_left
    · cases hm
    rename_i hlen
    simp only [Option.bind_eq_some_iff, Option.map_eq_some_iff] at hm
    obtain ⟨⟨fl, e⟩, hbody, d', hret, os', houts, heq⟩ := hm
    cases heq
    have hvl : vs.length = ps.length := by rw [ca.len.1, hps]
    have hpl : ps.length ≤ N.length := by have := congrArg List.length Sc.pre; rw [List.length_take] at this; omega
    have hol := ca.owLen
    have hel := envOf_len ca.len.2
    have hNl : vs.length ≤ N.length := by rw [hvl]; exact hpl
    let l := owOf sg.io vs
    let S : SS := { A := Av0, H0 := H, io := ioS l, lk := [] }
    let ow0 : List (Option Addr) := l ++ List.replicate (N.length - vs.length) none
    have hl : l.length = vs.length := hol
    have mem0 : ∀ {a : Addr}, some a ∈ ow0 ↔ some a ∈ l := fun {a} => by
      show some a ∈ l ++ _ ↔ _
      rw [List.mem_append]
      refine ⟨fun z => z.elim id fun z => ?_, .inl⟩
      have := (List.mem_replicate.mp z).2
      cases this
    have get0 : ∀ {i : Nat} {a : Addr}, ow0[i]? = some (some a) ↔ l[i]? = some (some a) := fun {i a} => by
      show (l ++ _)[i]? = _ ↔ _
      by_cases hi : i < l.length
      · rw [List.getElem?_append_left hi]
      · rw [List.getElem?_append_right (by omega), List.getElem?_replicate, List.getElem?_eq_none (l := l) (by omega)]
        constructor
        · intro z; split at z <;> cases z
        · intro z; cases z
    have hP : ∀ a, Av S.A ow0 a ↔ Pio Av0 l a := fun a => by
      show (Av0 a ∨ some a ∈ ow0) ↔ (Av0 a ∨ some a ∈ l)
      rw [mem0]
    have I0 : Sim K S ow0 (L2.start N vs) H (envOf sg.io ds ++ List.replicate (N.length - ds.length) .no) := by
      refine ⟨?_, ?_, fun i s e => ?_, fun i j a h1 h2 => nd i j a (get0.mp h1) (get0.mp h2), fun a ha => ?_, fun a ha => dis a (mem0.mp ha), fun a o e _ => e, fun a ha => ?_, fun p hp => ?_, fun i d e => ?_, fun p hp => by cases hp⟩
      · unfold L2.start; simp only [List.length_append, List.length_map, List.length_replicate, hel, ca.len.1, ca.len.2]
      · show (l ++ _).length = _
        unfold L2.start; simp only [List.length_append, List.length_map, List.length_replicate, hl]
      · by_cases hi : i < vs.length
        · have hi2 : i < (envOf sg.io ds).length := by rw [hel, ← ca.len.1]; exact hi
          rw [List.getElem?_append_left hi2] at e
          have q := ca.slot i e
          have e1 : (L2.start N vs)[i]? = (vs.map some)[i]? := by unfold L2.start; rw [List.getElem?_append_left (by simpa using hi)]
          have e2 : ow0[i]? = (owOf sg.io vs)[i]? := by show (l ++ _)[i]? = _; rw [List.getElem?_append_left (by rw [hl]; exact hi)]
          rw [e1, e2]
          exact q.pres (Pres.less fun a z => (hP a).mp z) fun _ _ => rfl
        · have hi2 : ¬ i < (envOf sg.io ds).length := by rw [hel, ← ca.len.1]; exact hi
          rw [List.getElem?_append_right (by omega), List.getElem?_replicate] at e
          split at e
          · cases e; trivial
          · cases e
      · rcases (hP a).mp ha with z | z
        · exact live a z
        · exact ca.live z
      · right
        obtain ⟨i, hi⟩ := List.getElem?_of_mem (mem0.mp ha)
        exact ⟨i, mem_ioS.mpr hi⟩
      · have hp' := mem_ioS.mp hp
        obtain ⟨d, hd⟩ := (ca.iow p.1).1 p.2 hp'
        refine ⟨get0.mpr hp', d, ?_⟩
        rw [List.getElem?_append_left (List.getElem?_eq_some_iff.mp hd).1]
        exact hd
      · by_cases hi : i < (envOf sg.io ds).length
        · rw [List.getElem?_append_left hi] at e
          obtain ⟨a, ha⟩ := (ca.iow i).2 d e
          exact ⟨a, mem_ioS.mpr ha⟩
        · rw [List.getElem?_append_right (by omega), List.getElem?_replicate] at e
          split at e <;> cases e
    -- the ends
    have fin : ∀ {S' : SS} {ow' : List (Option Addr)} {σ' : L2.St} {H' : Hp}, S'.io = S.io → S'.H0 = S.H0 → Sim K S' ow' σ' H' e → (∀ a o, H a = some o → some a ∉ l → H' a = some o) ∧ Outs K H' (Av S'.A ow') l os := fun {S' ow' σ' H'} hio h0 J => by
      refine ⟨fun a o ea n => J.frame a o (by rw [h0]; exact ea) fun p hp z => n ?_, ?_⟩
      · rw [hio] at hp
        have := mem_ioS.mp hp
        rw [← z]
        exact List.mem_of_getElem? this
      · refine outs_ok (k := 0) (env0 := e) (by rw [hl, ca.len.1]) (fun i a q => ?_) (fun i q => ?_) (fun i => by rw [Nat.zero_add]) J houts
        · have hm : (i, a) ∈ S'.io := by rw [hio]; exact mem_ioS.mpr q
          refine ⟨?_, by rw [Nat.zero_add]; exact (J.io _ hm).1⟩
          have hlen2 : i < sg.io.length := by have := (List.getElem?_eq_some_iff.mp q).1; rw [hl, ca.len.1] at this; exact this
          obtain ⟨d, hd⟩ := (ca.iow i).1 a q
          cases hb : sg.io[i]? with
          | none => rw [List.getElem?_eq_none_iff] at hb; omega
          | some b =>
            cases b with
            | true => rfl
            | false =>
              exfalso
              have key : ∀ {bs : List Bool} {ds : List D} {i : Nat} {d : D}, bs[i]? = some false → (envOf bs ds)[i]? ≠ some (.iow d) := by
                intro bs
                induction bs with
                | nil => intro ds i d h; simp at h
                | cons b bs ih =>
                  intro ds i d h
                  cases ds with
                  | nil => simp [envOf]
                  | cons x ds =>
                    cases i with
                    | zero => simp at h; subst h; simp [envOf]
                    | succ i => simp [envOf]; exact ih (by simpa using h)
              exact key hb hd
        · have hlen2 : i < sg.io.length := (List.getElem?_eq_some_iff.mp q).1
          have key : ∀ {bs : List Bool} {ds : List D} {i : Nat}, bs.length = ds.length → bs[i]? = some true → ∃ d, (envOf bs ds)[i]? = some (.iow d) := by
            intro bs
            induction bs with
            | nil => intro ds i _ h; simp at h
            | cons b bs ih =>
              intro ds i hl h
              cases ds with
              | nil => simp at hl
              | cons x ds =>
                cases i with
                | zero => simp at h; subst h; exact ⟨x, by simp [envOf]⟩
                | succ i =>
                  obtain ⟨d, hd⟩ := ih (ds := ds) (by simpa using hl) (by simpa using h)
                  exact ⟨d, by simpa [envOf] using hd⟩
          obtain ⟨d, hd⟩ := key (ds := ds) ca.len.2.symm q
          exact (ca.iow i).2 d hd
    have toP : ∀ {S' : SS} {ow' : List (Option Addr)} {σ' : L2.St} {H' : Hp}, S'.io = S.io → Sim K S' ow' σ' H' e → (∀ a, S.A a → S'.A a) → ∀ a, Pio Av0 l a → Av S'.A ow' a := fun {S' ow' σ' H'} hio J hA a z => by
      rcases z with z | z
      · exact .inl (hA a z)
      · obtain ⟨i, hi⟩ := List.getElem?_of_mem z
        have hm : (i, a) ∈ S'.io := by rw [hio]; exact mem_ioS.mpr hi
        exact .inr (List.mem_of_getElem? (J.io _ hm).1)
    have outsLess : ∀ {H' : Hp} {P P' : Addr → Prop}, (∀ a, P' a → P a) → ∀ {l : List (Option Addr)} {os : List D}, Outs K H' P l os → Outs K H' P' l os := by
      intro H' P P' hPP l os ho
      induction ho with
      | nil => exact .nil
      | no _ ih => exact .no ih
      | io e r _ ih => exact .io e (r.pres (Pres.less hPP)) ih
    refine ⟨S, ow0, _, I0, fl, e, ?_, ?_⟩
    · rw [← hlen] at *
      exact hbody
    · cases fl with
      | nx =>
        intro ow' σ' H' st' J
        cases hret
        obtain ⟨fr, ou⟩ := fin rfl rfl J
        exact q _ H' ⟨fr, .inl ⟨.non, fun _ => rfl, outsLess (toP rfl J fun _ z => z) ou⟩⟩
      | bk => cases hret
      | ct => cases hret
      | rt fr' d2 =>
        intro S' ow' σ' H' v st' J rr
        have hret : (if sg.fr = true ∧ fr' = false then none else some d2) = some d := hret
        split at hret
        · cases hret
        rename_i hfr
        cases hret
        rcases rr with ⟨rfl, r, n⟩ | ⟨hf, p, o, rfl, rfl, h0p, hAp, ep, rc⟩
        · obtain ⟨fr, ou⟩ := fin rfl rfl J
          refine q _ H' ⟨fr, .inl ⟨r.pres (Pres.less (toP rfl J fun _ z => z)), fun z => ?_, outsLess (toP rfl J fun _ z => z) ou⟩⟩
          refine n ?_
          cases fr' with
          | true => rfl
          | false => exact absurd ⟨z, rfl⟩ hfr
        · obtain ⟨fr, ou⟩ := fin (S' := S.add p) rfl rfl J
          have toB : ∀ a, (Pio Av0 l a ∨ a = p) → Av (S.add p).A ow' a := fun a z => z.elim (toP (S' := S.add p) rfl J (fun _ z => .inl z) a) fun z => .inl (.inr z)
          by_cases hsg : sg.fr = true
          · exact q _ H' ⟨fr, .inr ⟨hsg, p, o, rfl, h0p, ep, rc.pres (Pres.less toB), outsLess toB ou⟩⟩
          · refine q _ H' ⟨fr, .inl ⟨.cell ep (fun z => ?_) (rc.pres (Pres.less fun a z => toB a (.inl z))), fun z => absurd z hsg, outsLess (fun a z => toB a (.inl z)) ou⟩⟩
            rcases z with z | z
            · exact hAp z
            · have := toP (S' := S.add p) rfl J (fun _ z => .inl z) p (.inr z)
              obtain ⟨i, hi⟩ := List.getElem?_of_mem z
              have hm : (i, p) ∈ (S.add p).io := mem_ioS.mpr hi
              exact J.sep p (List.mem_of_getElem? (J.io _ hm).1) (.inr rfl)
end PL
end

section
set_option maxRecDepth 100000
set_option maxHeartbeats 3900000
/-! PL6: calls of defs over plain data. -/
namespace PL
open PySem Spec PyProof.Rows L2

mutual
/-- no list, no dict, nothing that is not told within -/
def noLst : D → Bool
  | .tup ds => noLsts ds
  | .lst _ => false
  | .dct _ => false
  | .opq _ => false
  | _ => true
def noLsts : List D → Bool
  | [] => true
  | d :: ds => noLst d && noLsts ds
end
mutual
theorem Rp.any {K : PySem.W.Frag} {H : Hp} {P P' : Addr → Prop} : ∀ {d : D} {v : V}, noLst d = true → Rp K H P v d → Rp K H P' v d
  | .non, v, _, r => by
    cases r with
    | non => exact .non
    | cell _ _ rc => cases rc
    | frz _ rc => cases rc
  | .bl b, v, _, r => by rw [r.bl_inv]; exact .bl b
  | .int i, v, _, r => by rw [r.int_inv]; exact .int i
  | .str s, v, _, r => by
    cases r with
    | str x => exact .str x
    | cell _ _ rc => cases rc
    | frz _ rc => cases rc
  | .tup ds, v, h, r => by
    cases r with
    | tup hs rl => exact .tup hs (RpL.any (by simpa [noLst] using h) rl)
    | cell _ _ rc => cases rc
    | frz _ rc => cases rc
  | .lst _, _, h, _ => by simp [noLst] at h
  | .dct _, _, h, _ => by simp [noLst] at h
  | .opq _, _, h, _ => by simp [noLst] at h
theorem RpL.any {K : PySem.W.Frag} {H : Hp} {P P' : Addr → Prop} : ∀ {ds : List D} {vs : List V}, noLsts ds = true → RpL K H P vs ds → RpL K H P' vs ds
  | [], _, _, .nil => .nil
  | d :: ds, _, h, .cons a b => by
    have h' : noLst d = true ∧ noLsts ds = true := by simpa [noLsts] using h
    exact .cons (Rp.any h'.1 a) (RpL.any h'.2 b)
end
/-- the pure defs -/
abbrev PFn := List D → Option D
def pureFn (f : PFn) : Fn := fun ds => (f ds).map fun d => (d, ds.map fun _ => .non)
def runP (fr : Bool) (k n : Nat) (body : SM) : PFn := fun ds => (runFn ⟨List.replicate k false, fr⟩ n body ds).map (·.1)
theorem outsOf_false : ∀ (k : Nat) (e : Env), outsOf (List.replicate k false) e = none ∨ outsOf (List.replicate k false) e = some (List.replicate k .non)
  | 0, _ => .inr rfl
  | k + 1, [] => .inl rfl
  | k + 1, s :: e => by
    rcases outsOf_false k e with h | h
    · left; simp [List.replicate_succ, outsOf, h]
    · right; simp [List.replicate_succ, outsOf, h]
theorem runP_run {fr : Bool} {k n : Nat} {body : SM} {ds : List D} {d : D} (h : runP fr k n body ds = some d) : runFn ⟨List.replicate k false, fr⟩ n body ds = some (d, ds.map fun _ => .non) := by
  unfold runP at h
  simp only [Option.map_eq_some_iff] at h
  obtain ⟨⟨d', os⟩, h1, h2⟩ := h
  cases h2
  rw [h1]
  have h1' := h1
  unfold runFn at h1'
  split at h1'
  rotate_left
  · cases h1'
  rename_i hl
  simp only [Option.bind_eq_some_iff, Option.map_eq_some_iff] at h1'
  obtain ⟨⟨fl, e⟩, _, d2, _, os2, ho, heq⟩ := h1'
  cases heq
  rcases outsOf_false k e with z | z
  · rw [z] at ho; cases ho
  · rw [z] at ho
    cases ho
    simp only [List.length_replicate] at hl
    congr 2
    apply List.ext_getElem <;> simp [hl]
theorem spP_pure {K : PySem.W.Frag} {fr : Bool} {k n : Nat} {body : SM} {vs : List V} {H : Hp} {Q : VK} {E : XK} (h : spP K ⟨List.replicate k false, fr⟩ (pureFn (runP fr k n body)) vs H Q E) : spP K ⟨List.replicate k false, fr⟩ (runFn ⟨List.replicate k false, fr⟩ n body) vs H Q E := by
  obtain ⟨A, ds, r, hm, rest⟩ := h
  refine ⟨A, ds, r, ?_, rest⟩
  unfold pureFn at hm
  simp only [Option.map_eq_some_iff] at hm
  obtain ⟨d, h1, h2⟩ := hm
  rw [runP_run h1, h2]
/-- a pure def keeps its promise -/
abbrev spF (K : PySem.W.Frag) (k : Nat) (fr : Bool) (f : PFn) : Sp := spP K ⟨List.replicate k false, fr⟩ (pureFn f)
theorem fn_pure {P : Program} {w : World} {K : PySem.W.Frag} {mg : Str → Option Value} {base : Heap} {x qual : Str} {st : Stmt} {f : Addr} {fd : FuncData} {N ps : List Str} {k np : Nat} {fr : Bool} {body : SM}
    (F : Fun K x qual st f fd) (Sc : FnScope N ps (defScope st)) (hps : ps.length = np)
    (hb : ∀ (cdv : Value) (A : Around) (outer : List PySem.Env) (s : Shared) (H : Hp) (E : XK), Room k (A.deeper (envOfC qual (defScope st) s.heap.objs.size f cdv)) →
      PSs (cxOf CX0 P w K mg base N qual (defScope st) f cdv A outer s H E).nox (defBody st) (EvSt K body)) :
    FnOk P w K mg base CX0 (k + 1) f fd ps (spF K np fr (runP fr np N.length body)) :=
  (fn_mk (sg := ⟨List.replicate np false, fr⟩) F Sc (by simpa using hps) hb).imp fun _ _ _ _ h => spP_pure h
theorem owOf_false : ∀ (k : Nat) (vs : List V) (a : Addr), some a ∉ owOf (List.replicate k false) vs
  | 0, _, _ => by simp [owOf]
  | k + 1, [], _ => by simp [owOf, List.replicate_succ]
  | k + 1, v :: vs, a => by
    have := owOf_false k vs a
    cases v <;> simpa [owOf, List.replicate_succ] using this
theorem cargs_pure {K : PySem.W.Frag} {H : Hp} {P : Addr → Prop} : ∀ {k : Nat} {vs : List V} {ds : List D}, ds.length = k → RpL K H P vs ds → CArgs K H P (List.replicate k false) vs ds
  | 0, _, _, h, .nil => .nil
  | 0, _, _, h, .cons _ _ => by simp at h
  | k + 1, _, _, h, .nil => by simp at h
  | k + 1, _, _, h, .cons a b => by rw [List.replicate_succ]; exact .val a (cargs_pure (by simpa using h) b)
/-- f(e, ..), shared arguments -/
def eCall (k : Nat) (f : PFn) (ms : List EM) : EM := fun env => (evL ms env).bind fun (ds, e) => if ds.length = k then (f ds).bind fun d => some (d, e) else none
/-- f(x, e, ..), where own lists are lent -/
def lent (fr : Bool) (d : D) : Bool := noLst d || (fr && match d with | .lst ds => noLsts ds | _ => false)
def eCallB (k : Nat) (fr : Bool) (f : PFn) (as : List Arg) : EM := fun env => (evA as env).bind fun (ds, e) => if ds.length = k then (f ds).bind fun d => if lent fr d = true then some (d, e) else none else none
section
variable {K : PySem.W.Frag} {S : SS} {ow : List (Option Addr)} {σ : L2.St} {H H' : Hp} {env : Env} {fr : Bool} {k : Nat} {f : PFn} {vs : List V} {ds : List D} {d : D} {Q : VK} {E : XK}
theorem Sim.frameOnly (I : Sim K S ow σ H env) (h : ∀ a o, H a = some o → H' a = some o) : Sim K S ow σ H' env := by
  have pr : Pres H (Av S.A ow) H' (Av S.A ow) := ⟨fun a o e n => ⟨h a o e, n⟩, fun a xs e => h a _ e, fun a o u e => h a _ e⟩
  refine ⟨I.len, I.lenO, fun i s e => (I.slot i s e).pres pr fun a ea => ?_, I.inj, fun a ha => ?_, I.sep, fun a o e n => h a o (I.frame a o e n), I.fresh, I.io, I.iow, I.lk⟩
  · obtain ⟨o, e1, _⟩ := I.live a (.inr (List.mem_of_getElem? ea))
    rw [e1, h a o e1]
  · obtain ⟨o, e1, m⟩ := I.live a ha
    exact ⟨o, h a o e1, m⟩
theorem stp_frame (h : ∀ a o, H a = some o → H' a = some o) : Stp ow H ow H' := ⟨fun a o e n => ⟨h a o e, n⟩, fun a xs e => h a _ e, fun a o u e => h a _ e, fun a o e => ⟨o, h a o e⟩⟩
/-- behind a new object that no slot knows -/
theorem Sim.newAt {p : Addr} {o : HO} (I : Sim K S ow σ H env) (hp : H p = none) (h : ∀ a u, H a = some u → H' a = some u) (ep : H' p = some o) (hm : Mu o) : Sim K (S.add p) ow σ H' env := by
  have J := I.frameOnly h
  refine ⟨I.len, I.lenO, fun i s e => ?_, I.inj, fun a ha => ?_, fun a ha z => ?_, J.frame, I.fresh, I.io, I.iow, I.lk⟩
  · refine (I.slot i s e).pres (H' := H') (P' := Av (S.add p).A ow) ⟨fun a u e n => ⟨h a u e, fun z => ?_⟩, fun a xs e => h a _ e, fun a u w e => h a _ e⟩ fun a ea => ?_
    · rcases z with (z | z) | z
      · exact n (.inl z)
      · rw [z, hp] at e; cases e
      · exact n (.inr z)
    · obtain ⟨o, e1, _⟩ := I.live a (.inr (List.mem_of_getElem? ea))
      rw [e1, h a o e1]
  · rcases ha with (ha | ha) | ha
    · exact J.live a (.inl ha)
    · subst ha; exact ⟨o, ep, hm⟩
    · exact J.live a (.inr ha)
  · rcases z with z | z
    · exact I.sep a ha z
    · exact I.mutne (a := a) (.inr ha) (by rw [z]; exact hp)
theorem call_fin {H0 : Hp} {ow0 : List (Option Addr)} (I : Sim K S ow σ H env) (st : Stp ow0 H0 ow H) {v : V} {os : List D} {A : Addr → Prop} {l : List (Option Addr)} (hl : ∀ a, some a ∉ l) (p : FnPost K fr A l H H' v d os)
    (hs : Rp K H' (Pio A l) v d → (fr = true → isMutD d = false) → Rp K H' (Av S.A ow) v d) (hf : ∀ p o, H p = none → RpC K H' (fun a => Pio A l a ∨ a = p) o d → RpC K H' (Av (S.add p).A ow) o d)
    (q : ∀ S' ow' v H', Stp ow0 H0 ow' H' → Sim K S' ow' σ H' env → FrR fr K S S' H0 H' ow' v d → Q v H') : Q v H' := by
  have fr' : ∀ a o, H a = some o → H' a = some o := fun a o e => p.frame a o e (hl a)
  rcases p.ret with ⟨r, n, _⟩ | ⟨hfr, pp, o, rfl, hp, ep, rc, _⟩
  · exact q S ow v H' (st.trans (stp_frame fr')) (I.frameOnly fr') (.inl ⟨rfl, hs r n, n⟩)
  · exact q (S.add pp) ow _ H' (st.trans (stp_frame fr')) (I.newAt hp fr' ep rc.mu) (.inr ⟨hfr, pp, o, rfl, rfl, st.back hp, ep, hf pp o hp rc⟩)
theorem call_go {ms : List EM} (h : Ev fr K (eCall k f ms) σ H Q) : tCall (spF K k fr f) [] E (tEs K ms) σ H Q := by
  obtain ⟨S, ow, env, I, d, envF, hm, q⟩ := h
  unfold eCall at hm
  simp only [Option.bind_eq_some_iff] at hm
  obtain ⟨⟨ds, e⟩, h1, h2⟩ := hm
  split at h2
  rotate_left
  · cases h2
  rename_i hk
  simp only [Option.bind_eq_some_iff] at h2
  obtain ⟨d', h3, h4⟩ := h2
  cases h4
  refine es_ok ms I h1 fun ow' vs H1 st J rs => ?_
  rw [List.append_nil]
  have hl : ∀ a, some a ∉ owOf (List.replicate k false) vs := fun a => owOf_false k vs a
  have eqP : ∀ a, Pio (Av S.A ow') (owOf (List.replicate k false) vs) a ↔ Av S.A ow' a := fun a => ⟨fun z => z.elim id fun z => absurd z (hl a), .inl⟩
  refine ⟨Av S.A ow', ds, (d, ds.map fun _ => .non), by unfold pureFn; rw [h3]; rfl, (cargs_pure hk rs) |> fun c => ?_, fun i j a z => absurd (List.mem_of_getElem? z) (hl a), fun a z => absurd z (hl a), fun a z => J.live a z, fun v H2 p => ?_⟩
  · exact cargs_pure hk (rs.pres (Pres.less fun a z => (eqP a).mp z))
  · refine call_fin J st hl p (fun r _ => r.pres (Pres.less fun a z => (eqP a).mpr z)) (fun pp o hp rc => rc.pres (Pres.less fun a z => ?_)) q
    rcases z with (z | z) | z
    · exact .inl ((eqP a).mpr (.inl z))
    · exact .inr z
    · exact .inl ((eqP a).mpr (.inr z))
theorem callB_go {as : List Arg} (h : Ev fr K (eCallB k fr f as) σ H Q) : tCall (spF K k fr f) [] E (tArgs K as) σ H Q := by
  obtain ⟨S, ow, env, I, d, envF, hm, q⟩ := h
  unfold eCallB at hm
  simp only [Option.bind_eq_some_iff] at hm
  obtain ⟨⟨ds, e⟩, h1, h2⟩ := hm
  split at h2
  rotate_left
  · cases h2
  rename_i hk
  simp only [Option.bind_eq_some_iff] at h2
  obtain ⟨d', h3, h4⟩ := h2
  split at h4
  rotate_left
  · cases h4
  rename_i hlent
  cases h4
  refine args_ok as I h1 fun ow' vs H1 st J rs => ?_
  rw [List.append_nil]
  have hl : ∀ a, some a ∉ owOf (List.replicate k false) vs := fun a => owOf_false k vs a
  let A : Addr → Prop := fun a => Av S.A ow' a ∧ ∀ v ∈ vs, v ≠ .ref a
  have eqP : ∀ a, Pio A (owOf (List.replicate k false) vs) a ↔ A a := fun a => ⟨fun z => z.elim id fun z => absurd z (hl a), .inl⟩
  have key : ∀ {vs' : List V} {ds' : List D}, (∀ v ∈ vs', v ∈ vs) → RpTs K H1 (Av S.A ow') vs' ds' → RpL K H1 (Pio A (owOf (List.replicate k false) vs)) vs' ds' := by
    intro vs' ds' hsub r
    induction r with
    | nil => exact .nil
    | @cons v vs0 d0 ds0 rv _ ih =>
      refine .cons ?_ (ih fun w hw => hsub w (List.mem_cons_of_mem _ hw))
      have hv : v ∈ vs := hsub v (List.mem_cons_self ..)
      rcases rv with rv | ⟨a, o, rfl, ea, rc⟩
      · exact rv.pres (Pres.less fun a z => ((eqP a).mp z).1)
      · exact .cell ea (fun z => ((eqP a).mp z).2 _ hv rfl) (rc.pres (Pres.less fun a z => ((eqP a).mp z).1))
  refine ⟨A, ds, (d, ds.map fun _ => .non), by unfold pureFn; rw [h3]; rfl, cargs_pure hk (key (fun _ z => z) rs), fun i j a z => absurd (List.mem_of_getElem? z) (hl a), fun a z => absurd z (hl a), fun a z => J.live a z.1, fun v H2 p => ?_⟩
  unfold lent at hlent
  rw [Bool.or_eq_true, Bool.and_eq_true] at hlent
  rcases hlent with hn | ⟨hfr, hn⟩
  · refine call_fin J st hl p (fun r _ => Rp.any hn r) (fun pp o hp rc => ?_) q
    cases rc <;> simp [noLst] at hn
  · subst hfr
    refine call_fin J st hl p (fun r n => ?_) (fun pp o hp rc => ?_) q
    · have := n rfl
      cases d <;> first | (simp at hn; done) | (simp [isMutD] at this; done)
    · cases rc with
      | lst rl => exact .lst (RpL.any hn rl)
      | dK _ => simp at hn
      | dT _ => simp at hn
end

/-! ### the calls as expressions -/
section
variable {X : Cx} {pos : Pos}
theorem e_call {fr : Bool} {np k : Nat} {f : PFn} {fa : Addr} {fd : FuncData} {ps : List Str} {x : Str} {p : Pos} {e : Expr} {es : List Expr} {ms : List EM} (F : FnOk X.prog X.w X.K X.mg X.base CX0 k fa fd ps (spF X.K np fr f)) (hr : Room k X.A) (hg : Gl X x) (hm : X.mg x = some (.ref fa)) (hk : PySem.W.keepIn X.K (.ref fa) = true) (hb : Binds X.K fd ps [])
    (ha : PA X (e :: es) (tEs X.K ms)) (hdb : (x == ("__debug__" : Str)) = false := by decide) (he : starEach (e :: es) X.env = (false, eval e X.env) :: starEach es X.env := by rfl) (hpl : (backTo pos (starEach es X.env)).any (·.1) = false := by rfl) :
    PE X (.Call (.Name x p) (e :: es) [] pos) (Ev fr X.K (eCall np f ms)) := (pe_call F hr hg hm hk hb .nil pass0 ha hdb he hpl).imp fun _ _ _ h => call_go h
theorem e_callL {fr : Bool} {np k : Nat} {f : PFn} {fa : Addr} {fd : FuncData} {ps : List Str} {x : Str} {p : Pos} {e : Expr} {es : List Expr} {as : List Arg} (F : FnOk X.prog X.w X.K X.mg X.base CX0 k fa fd ps (spF X.K np fr f)) (hr : Room k X.A) (hg : Gl X x) (hm : X.mg x = some (.ref fa)) (hk : PySem.W.keepIn X.K (.ref fa) = true) (hb : Binds X.K fd ps [])
    (ha : PA X (e :: es) (tArgs X.K as)) (hdb : (x == ("__debug__" : Str)) = false := by decide) (he : starEach (e :: es) X.env = (false, eval e X.env) :: starEach es X.env := by rfl) (hpl : (backTo pos (starEach es X.env)).any (·.1) = false := by rfl) :
    PE X (.Call (.Name x p) (e :: es) [] pos) (Ev fr X.K (eCallB np fr f as)) := (pe_call F hr hg hm hk hb .nil pass0 ha hdb he hpl).imp fun _ _ _ h => callB_go h
theorem e_call0 {fr : Bool} {k : Nat} {f : PFn} {fa : Addr} {fd : FuncData} {ps : List Str} {x : Str} {p : Pos} (F : FnOk X.prog X.w X.K X.mg X.base CX0 k fa fd ps (spF X.K 0 fr f)) (hr : Room k X.A) (hg : Gl X x) (hm : X.mg x = some (.ref fa)) (hk : PySem.W.keepIn X.K (.ref fa) = true) (hb : Binds X.K fd ps [])
    (hdb : (x == ("__debug__" : Str)) = false := by decide) : PE X (.Call (.Name x p) [] [] pos) (Ev fr X.K (eCall 0 f [])) := (pe_call0 F hr hg hm hk hb .nil pass0 hdb).imp fun _ _ _ h => call_go h
end
end PL
end

section
set_option maxRecDepth 100000
set_option maxHeartbeats 3900000
/-! PL7: calls that change own lists. -/
namespace PL
open PySem Spec PyProof.Rows L2

inductive CA where
  | v (m : EM)
  | io (i : Nat)
  | t (m : EM)
def CA.fl : CA → Bool
  | .v _ => false
  | _ => true
def ownD (env : Env) (i : Nat) : Option D := match env[i]? with
  | some (.own d) => some d
  | some (.iow d) => some d
  | _ => none
def putD (env : Env) (i : Nat) (d : D) : Env := match env[i]? with
  | some (.iow _) => env.set i (.iow d)
  | _ => env.set i (.own d)
def evC : List CA → Env → Option (List D × Env)
  | [], env => some ([], env)
  | .v m :: as, env => (m env).bind fun (d, e1) => (evC as e1).bind fun (ds, e2) => some (d :: ds, e2)
  | .t m :: as, env => (m env).bind fun (d, e1) => if isMutD d = true then (evC as e1).bind fun (ds, e2) => some (d :: ds, e2) else none
  | .io i :: as, env => (ownD env i).bind fun _ => (evC as env).bind fun (ds, e2) => (ownD e2 i).bind fun d => some (d :: ds, e2)
def ioSl : List CA → List Nat
  | [] => []
  | .io i :: as => i :: ioSl as
  | _ :: as => ioSl as
def putOuts : List CA → List D → Env → Env
  | .io i :: as, o :: os, e => putOuts as os (putD e i o)
  | _ :: as, _ :: os, e => putOuts as os e
  | _, _, e => e
def eCallIo (f : Fn) (as : List CA) : EM := fun env => (evC as env).bind fun (ds, e) => (f ds).bind fun (d, os) => if (ioSl as).Nodup then some (d, putOuts as os e) else none
def rdCA (K : PySem.W.Frag) : CA → TE
  | .v m => EvS K m
  | .io i => tVar i
  | .t m => EvF K m
def tCas (K : PySem.W.Frag) : List CA → TA
  | [] => tNil
  | a :: as => tCons (rdCA K a) (tCas K as)
/-- what an argument hands on -/
inductive CR (K : PySem.W.Frag) (S S' : SS) (σ : L2.St) (ow' : List (Option Addr)) (H' : Hp) : List CA → List V → List D → Prop
  | nil : CR K S S' σ ow' H' [] [] []
  | v {m : EM} {as : List CA} {v : V} {vs : List V} {d : D} {ds : List D} : Rp K H' (Av S'.A ow') v d → CR K S S' σ ow' H' as vs ds → CR K S S' σ ow' H' (.v m :: as) (v :: vs) (d :: ds)
  | io {i : Nat} {as : List CA} {a : Addr} {o : HO} {vs : List V} {d : D} {ds : List D} : σ[i]? = some (some (.ref a)) → ow'[i]? = some (some a) → H' a = some o → RpC K H' (Av S'.A ow') o d → CR K S S' σ ow' H' as vs ds → CR K S S' σ ow' H' (.io i :: as) (.ref a :: vs) (d :: ds)
  | t {m : EM} {as : List CA} {p : Addr} {o : HO} {vs : List V} {d : D} {ds : List D} : H' p = some o → RpC K H' (Av S'.A ow') o d → S'.A p → ¬ S.A p → S.H0 p = none → CR K S S' σ ow' H' as vs ds → CR K S S' σ ow' H' (.t m :: as) (.ref p :: vs) (d :: ds)
section
variable {K : PySem.W.Frag} {S S' S1 : SS} {σ : L2.St} {H H' : Hp} {ow ow' : List (Option Addr)} {env : Env}
theorem Sim.ownD (I : Sim K S ow σ H env) {i : Nat} {d : D} (h : ownD env i = some d) : ∃ a o, σ[i]? = some (some (.ref a)) ∧ ow[i]? = some (some a) ∧ H a = some o ∧ RpC K H (Av S.A ow) o d := by
  unfold PL.ownD at h
  cases e : env[i]? with
  | none => rw [e] at h; cases h
  | some s =>
    rw [e] at h
    have q := I.slot i s e
    cases s with
    | no => cases h
    | lck => cases h
    | shr d => cases h
    | own d => cases h; obtain ⟨a, o, e1, e2, e3, r⟩ := q; exact ⟨a, o, e1, e2, e3, r⟩
    | iow d => cases h; obtain ⟨a, o, e1, e2, e3, r⟩ := q; exact ⟨a, o, e1, e2, e3, r⟩
theorem CR.base (hS : ∀ a, S.A a → S1.A a) (h0 : S1.H0 = S.H0) {as : List CA} {vs : List V} {ds : List D} (c : CR K S1 S' σ ow' H' as vs ds) : CR K S S' σ ow' H' as vs ds := by
  induction c with
  | nil => exact .nil
  | v r _ ih => exact .v r ih
  | io a b c d _ ih => exact .io a b c d ih
  | t a b c d e _ ih => exact .t a b c (fun z => d (hS _ z)) (by rw [← h0]; exact e) ih
structure Ext (S S' : SS) (H : Hp) : Prop where
  sub : ∀ a, S.A a → S'.A a
  new : ∀ a, S'.A a → S.A a ∨ H a = none
  h0 : S'.H0 = S.H0
  io : S'.io = S.io
  lk : S'.lk = S.lk
theorem Ext.refl : Ext S S H := ⟨fun _ z => z, fun _ z => .inl z, rfl, rfl, rfl⟩
theorem cas_ok : ∀ (as : List CA) {S : SS} {ow : List (Option Addr)} {H : Hp} {env env' : Env} {ds : List D} {R : List V → Hp → Prop}, Sim K S ow σ H env → evC as env = some (ds, env') → (ioSl as).Nodup →
    (∀ S' ow' vs H', Ext S S' H → Stp ow H ow' H' → Sim K S' ow' σ H' env' → CR K S S' σ ow' H' as vs ds → NdO (owOf (as.map CA.fl) vs) →
      (∀ a, some a ∈ owOf (as.map CA.fl) vs → (∃ i ∈ ioSl as, ow'[i]? = some (some a)) ∨ (H a = none ∧ S'.A a ∧ ¬ S.A a)) → R vs H') → tCas K as σ H R
  | [], S, ow, H, env, env', ds, R, I, h, nd, k => by
    cases h
    exact k S ow [] H .refl .refl I .nil (fun i j a z => by simp [owOf] at z) (fun a z => by simp [owOf] at z)
  | .v m :: as, S, ow, H, env, env', ds, R, I, h, nd, k => by
    unfold evC at h
    simp only [Option.bind_eq_some_iff] at h
    obtain ⟨⟨d, e1⟩, h1, ⟨ds1, e2⟩, h2, h3⟩ := h
    cases h3
    refine ⟨S, ow, env, I, d, e1, h1, fun S1 ow1 v H1 st1 I1 f => ?_⟩
    obtain ⟨rfl, r⟩ := f.shared
    refine cas_ok as I1 h2 nd fun S' ow2 vs H2 ex st2 I2 c no nn => ?_
    have hcons : owOf ((CA.v m :: as).map CA.fl) (v :: vs) = none :: owOf (as.map CA.fl) vs := by cases v <;> rfl
    refine k S' ow2 (v :: vs) H2 ⟨ex.sub, fun a z => (ex.new a z).imp id fun z => st1.back z, ex.h0, ex.io, ex.lk⟩ (st1.trans st2) I2 (.v ?_ c) ?_ fun a z => ?_
    · exact (r.pres (Pres.grow ex.new)).pres st2.pres
    · rw [hcons]
      intro i j a h1 h2
      cases i with
      | zero => simp at h1
      | succ i =>
        cases j with
        | zero => simp at h2
        | succ j => rw [no i j a (by simpa using h1) (by simpa using h2)]
    · rw [hcons] at z
      have z' : some a ∈ owOf (as.map CA.fl) vs := by simpa using z
      exact (nn a z').imp (fun ⟨i, hi, e⟩ => ⟨i, hi, e⟩) fun ⟨q1, q2, q3⟩ => ⟨st1.back q1, q2, q3⟩
  | .t m :: as, S, ow, H, env, env', ds, R, I, h, nd, k => by
    unfold evC at h
    simp only [Option.bind_eq_some_iff] at h
    obtain ⟨⟨d, e1⟩, h1, h2⟩ := h
    split at h2
    rotate_left
    · cases h2
    rename_i hmut
    simp only [Option.bind_eq_some_iff] at h2
    obtain ⟨⟨ds1, e2⟩, h2, h3⟩ := h2
    cases h3
    refine ⟨S, ow, env, I, d, e1, h1, fun S1 ow1 v H1 st1 I1 f => ?_⟩
    rcases f with ⟨_, _, n⟩ | ⟨_, p, o, rfl, rfl, hp, ep, rc⟩
    · rw [n rfl] at hmut; cases hmut
    refine cas_ok as I1 h2 nd fun S' ow2 vs H2 ex st2 I2 c no nn => ?_
    have hcons : owOf ((CA.t m :: as).map CA.fl) (.ref p :: vs) = some p :: owOf (as.map CA.fl) vs := rfl
    have hpA : S'.A p := ex.sub p (.inr rfl)
    have hp1 : some p ∉ ow1 := fun z => I1.sep p z (.inr rfl)
    have ep2 := (st2.cell p _ ep hp1).1
    have hnp : some p ∉ owOf (as.map CA.fl) vs := fun z => by
      rcases nn p z with ⟨i, _, e⟩ | ⟨e, _⟩
      · exact I2.sep p (List.mem_of_getElem? e) hpA
      · rw [ep] at e; cases e
    refine k S' ow2 (.ref p :: vs) H2 ⟨fun a z => ex.sub a (.inl z), fun a z => ?_, ex.h0, ex.io, ex.lk⟩ (st1.trans st2) I2 (.t ep2 ?_ hpA (I.h0' p hp).1 (I.h0' p hp).2 (c.base (S1 := S.add p) (fun a z => Or.inl z) rfl)) ?_ fun a z => ?_
    · rcases ex.new a z with (z | z) | z
      · exact .inl z
      · exact .inr (by rw [z]; exact hp)
      · exact .inr (st1.back z)
    · exact (rc.pres (Pres.grow ex.new)).pres st2.pres
    · rw [hcons]
      intro i j a h1 h2
      cases i with
      | zero =>
        cases j with
        | zero => rfl
        | succ j =>
          have e1 : p = a := by simpa using h1
          subst e1
          exact absurd (List.mem_of_getElem? (by simpa using h2)) hnp
      | succ i =>
        cases j with
        | zero =>
          have e1 : p = a := by simpa using h2
          subst e1
          exact absurd (List.mem_of_getElem? (by simpa using h1)) hnp
        | succ j => rw [no i j a (by simpa using h1) (by simpa using h2)]
    · rw [hcons] at z
      have z' : a = p ∨ some a ∈ owOf (as.map CA.fl) vs := by simpa using z
      rcases z' with rfl | z'
      · exact .inr ⟨hp, hpA, (I.h0' _ hp).1⟩
      · exact (nn a z').imp id fun ⟨q1, q2, q3⟩ => ⟨st1.back q1, q2, fun z => q3 (.inl z)⟩
  | .io i :: as, S, ow, H, env, env', ds, R, I, h, nd, k => by
    unfold evC at h
    simp only [Option.bind_eq_some_iff] at h
    obtain ⟨d0, hd0, ⟨ds1, e2⟩, h2, d, hd, h3⟩ := h
    cases h3
    obtain ⟨a, o0, s1, s2, s3, s4⟩ := I.ownD hd0
    have nd' : i ∉ ioSl as ∧ (ioSl as).Nodup := List.nodup_cons.mp nd
    refine ⟨_, s1, cas_ok as I h2 nd'.2 fun S' ow2 vs H2 ex st2 I2 c no nn => ?_⟩
    obtain ⟨a', o, t1, t2, t3, t4⟩ := I2.ownD hd
    rw [s1] at t1
    cases t1
    have hcons : owOf ((CA.io i :: as).map CA.fl) (.ref a :: vs) = some a :: owOf (as.map CA.fl) vs := rfl
    have hnp : some a ∉ owOf (as.map CA.fl) vs := fun z => by
      rcases nn a z with ⟨j, hj, e⟩ | ⟨e, _⟩
      · have := I2.inj j i a e t2
        subst this
        exact nd'.1 hj
      · exact I.mutne (.inr (List.mem_of_getElem? s2)) e
    refine k S' ow2 (.ref a :: vs) H2 ex st2 I2 (.io s1 t2 t3 t4 c) ?_ fun b z => ?_
    · rw [hcons]
      intro i' j b h1 h2
      cases i' with
      | zero =>
        cases j with
        | zero => rfl
        | succ j =>
          have e1 : a = b := by simpa using h1
          subst e1
          exact absurd (List.mem_of_getElem? (by simpa using h2)) hnp
      | succ i' =>
        cases j with
        | zero =>
          have e1 : a = b := by simpa using h2
          subst e1
          exact absurd (List.mem_of_getElem? (by simpa using h1)) hnp
        | succ j => rw [no i' j b (by simpa using h1) (by simpa using h2)]
    · rw [hcons] at z
      have z' : b = a ∨ some b ∈ owOf (as.map CA.fl) vs := by simpa using z
      rcases z' with rfl | z'
      · exact .inl ⟨i, List.mem_cons_self .., t2⟩
      · exact (nn b z').imp (fun ⟨j, hj, e⟩ => ⟨j, List.mem_cons_of_mem _ hj, e⟩) id
theorem CR.cargs {P : Addr → Prop} (hP : ∀ a, P a → Av S'.A ow' a) : ∀ {as : List CA} {vs : List V} {ds : List D}, CR K S S' σ ow' H' as vs ds → CArgs K H' P (as.map CA.fl) vs ds
  | _, _, _, .nil => .nil
  | _, _, _, .v r c => .val (r.pres (Pres.less hP)) (CR.cargs hP c)
  | _, _, _, .io _ _ e r c => .io e (r.pres (Pres.less hP)) (CR.cargs hP c)
  | _, _, _, .t e r _ _ _ c => .io e (r.pres (Pres.less hP)) (CR.cargs hP c)
theorem CR.av {as : List CA} {vs : List V} {ds : List D} (c : CR K S S' σ ow' H' as vs ds) {a : Addr} (h : some a ∈ owOf (as.map CA.fl) vs) : Av S'.A ow' a ∧ (some a ∈ ow' ∨ S.H0 a = none) := by
  induction c with
  | nil => simp [owOf] at h
  | v r _ ih => exact ih (by rename_i v _ _ _ _; cases v <;> simpa [owOf, CA.fl] using h)
  | io _ e2 _ _ _ ih =>
    have h' := (by simpa [owOf, CA.fl] using h : a = _ ∨ some a ∈ owOf _ _)
    rcases h' with rfl | h'
    · exact ⟨.inr (List.mem_of_getElem? e2), .inl (List.mem_of_getElem? e2)⟩
    · exact ih h'
  | t _ _ e3 _ e5 _ ih =>
    have h' := (by simpa [owOf, CA.fl] using h : a = _ ∨ some a ∈ owOf _ _)
    rcases h' with rfl | h'
    · exact ⟨.inl e3, .inr e5⟩
    · exact ih h'
/-- slots of the same kinds -/
structure Knd (e e' : Env) : Prop where
  len : e'.length = e.length
  iow : ∀ (j : Nat), (∃ d, e[j]? = some (.iow d)) ↔ ∃ d, e'[j]? = some (.iow d)
  lck : ∀ (j : Nat), e[j]? = some .lck → e'[j]? = some .lck
theorem Knd.refl {e : Env} : Knd e e := ⟨rfl, fun _ => Iff.rfl, fun _ z => z⟩
theorem Knd.trans {a b c : Env} (x : Knd a b) (y : Knd b c) : Knd a c := ⟨y.len.trans x.len, fun j => (x.iow j).trans (y.iow j), fun j z => y.lck j (x.lck j z)⟩
theorem putD_spec {e : Env} {i : Nat} {d0 : D} (h : ownD e i = some d0) (d : D) : Knd e (putD e i d) ∧ (∀ j, j ≠ i → (putD e i d)[j]? = e[j]?) ∧ ((putD e i d)[i]? = some (.own d) ∨ (putD e i d)[i]? = some (.iow d)) := by
  unfold PL.ownD at h
  cases q : e[i]? with
  | none => rw [q] at h; cases h
  | some s =>
    have hi : i < e.length := (List.getElem?_eq_some_iff.mp q).1
    have mk : ∀ (s1 : Slot), putD e i d = e.set i s1 → ((∃ d', s = .iow d') ↔ (∃ d', s1 = .iow d')) → s ≠ .lck → (s1 = .own d ∨ s1 = .iow d) → Knd e (putD e i d) ∧ (∀ j, j ≠ i → (putD e i d)[j]? = e[j]?) ∧ ((putD e i d)[i]? = some (.own d) ∨ (putD e i d)[i]? = some (.iow d)) := fun s1 hs hk hl ho => by
      rw [hs]
      refine ⟨⟨by simp, fun j => ?_, fun j z => ?_⟩, fun j hj => List.getElem?_set_ne (Ne.symm hj), ?_⟩
      · by_cases hj : j = i
        · subst hj
          rw [q, List.getElem?_set_self hi]
          constructor
          · rintro ⟨d', z⟩; cases z; obtain ⟨d2, z2⟩ := hk.mp ⟨d', rfl⟩; exact ⟨d2, by rw [z2]⟩
          · rintro ⟨d', z⟩; cases z; obtain ⟨d2, z2⟩ := hk.mpr ⟨d', rfl⟩; exact ⟨d2, by rw [z2]⟩
        · rw [List.getElem?_set_ne (Ne.symm hj)]
      · by_cases hj : j = i
        · subst hj; rw [q] at z; cases z; exact absurd rfl hl
        · rw [List.getElem?_set_ne (Ne.symm hj)]; exact z
      · rw [List.getElem?_set_self hi]
        rcases ho with rfl | rfl
        · exact .inl rfl
        · exact .inr rfl
    rw [q] at h
    cases s with
    | own d1 => exact mk (.own d) (by unfold PL.putD; rw [q]) ⟨(fun ⟨_, z⟩ => nomatch z), (fun ⟨_, z⟩ => nomatch z)⟩ (by intro z; cases z) (.inl rfl)
    | iow d1 => exact mk (.iow d) (by unfold PL.putD; rw [q]) ⟨fun _ => ⟨_, rfl⟩, fun _ => ⟨_, rfl⟩⟩ (by intro z; cases z) (.inr rfl)
    | _ => cases h
theorem putOuts_ok {H2 : Hp} {P2 : Addr → Prop} : ∀ {as : List CA} {vs : List V} {ds os : List D} {e : Env}, CR K S S' σ ow' H' as vs ds → Outs K H2 P2 (owOf (as.map CA.fl) vs) os → (∀ i ∈ ioSl as, ∃ d, ownD e i = some d) → (ioSl as).Nodup →
    (∀ (j : Nat) s, e[j]? = some s → SlotOk K H2 P2 (σ[j]?) (ow'[j]?) s ∨ j ∈ ioSl as) → Knd e (putOuts as os e) ∧ ∀ (j : Nat) s, (putOuts as os e)[j]? = some s → SlotOk K H2 P2 (σ[j]?) (ow'[j]?) s
  | _, _, _, os, e, .nil, ou, ho, nd, hs => by
    have : putOuts [] os e = e := by cases os <;> rfl
    rw [this]
    exact ⟨.refl, fun j s z => (hs j s z).elim id fun z => by simp [ioSl] at z⟩
  | _, _, _, os, e, .v (v := v) (vs := vs) (as := as) (m := m) r c, ou, ho, nd, hs => by
    have hc : owOf ((CA.v m :: as).map CA.fl) (v :: vs) = none :: owOf (as.map CA.fl) vs := by cases v <;> rfl
    rw [hc] at ou
    cases ou with
    | no ou => exact putOuts_ok (as := as) c ou ho nd hs
  | _, _, _, os, e, .t (p := p) (vs := vs) (as := as) (m := m) e1 r a1 a2 a3 c, ou, ho, nd, hs => by
    have hc : owOf ((CA.t m :: as).map CA.fl) (.ref p :: vs) = some p :: owOf (as.map CA.fl) vs := rfl
    rw [hc] at ou
    cases ou with
    | io _ _ ou => exact putOuts_ok (as := as) c ou ho nd hs
  | _, _, _, os, e, .io (i := i) (a := a) (vs := vs) (as := as) e1 e2 e3 r c, ou, ho, nd, hs => by
    have hc : owOf ((CA.io i :: as).map CA.fl) (.ref a :: vs) = some a :: owOf (as.map CA.fl) vs := rfl
    rw [hc] at ou
    have nd' : i ∉ ioSl as ∧ (ioSl as).Nodup := List.nodup_cons.mp nd
    cases ou with
    | @io _ o d _ os' h2 rc ou =>
      obtain ⟨d0, hd0⟩ := ho i (List.mem_cons_self ..)
      obtain ⟨kn, ne, at_⟩ := putD_spec hd0 d
      have hnew : SlotOk K H2 P2 (σ[i]?) (ow'[i]?) (.own d) ∧ SlotOk K H2 P2 (σ[i]?) (ow'[i]?) (.iow d) := ⟨⟨a, o, e1, e2, h2, rc⟩, ⟨a, o, e1, e2, h2, rc⟩⟩
      obtain ⟨q1, q2⟩ := putOuts_ok (e := putD e i d) c ou (fun j hj => by
        obtain ⟨dj, hdj⟩ := ho j (List.mem_cons_of_mem _ hj)
        refine ⟨dj, ?_⟩
        unfold PL.ownD
        rw [ne j (fun z => nd'.1 (z ▸ hj))]
        exact hdj) nd'.2 (fun j s z => by
        by_cases hj : j = i
        · subst hj
          left
          rcases at_ with at_ | at_
          · rw [at_] at z; cases z; exact hnew.1
          · rw [at_] at z; cases z; exact hnew.2
        · rw [ne j hj] at z
          rcases hs j s z with z | z
          · exact .inl z
          · exact .inr ((List.mem_cons.mp z).resolve_left hj))
      exact ⟨kn.trans q1, q2⟩
theorem outs_mu {H2 : Hp} {P2 : Addr → Prop} {l : List (Option Addr)} {os : List D} (h : Outs K H2 P2 l os) {a : Addr} (ha : some a ∈ l) : ∃ o, H2 a = some o ∧ Mu o := by
  induction h with
  | nil => cases ha
  | no _ ih => exact ih (by simpa using ha)
  | io e r _ ih =>
    rcases (by simpa using ha : a = _ ∨ some a ∈ _) with rfl | z
    · exact ⟨_, e, r.mu⟩
    · exact ih z
theorem evC_own : ∀ {as : List CA} {env e : Env} {ds : List D}, evC as env = some (ds, e) → ∀ i ∈ ioSl as, ∃ d, ownD e i = some d
  | [], _, _, _, _, i, hi => by cases hi
  | .v m :: as, env, e, ds, h, i, hi => by
    unfold evC at h
    simp only [Option.bind_eq_some_iff] at h
    obtain ⟨⟨d, e1⟩, h1, ⟨ds1, e2⟩, h2, h3⟩ := h
    cases h3
    exact evC_own h2 i hi
  | .t m :: as, env, e, ds, h, i, hi => by
    unfold evC at h
    simp only [Option.bind_eq_some_iff] at h
    obtain ⟨⟨d, e1⟩, h1, h2⟩ := h
    split at h2
    rotate_left
    · cases h2
    simp only [Option.bind_eq_some_iff] at h2
    obtain ⟨⟨ds1, e2⟩, h2, h3⟩ := h2
    cases h3
    exact evC_own h2 i hi
  | .io j :: as, env, e, ds, h, i, hi => by
    unfold evC at h
    simp only [Option.bind_eq_some_iff] at h
    obtain ⟨d0, hd0, ⟨ds1, e2⟩, h2, d, hd, h3⟩ := h
    cases h3
    rcases List.mem_cons.mp hi with rfl | hi
    · exact ⟨d, hd⟩
    · exact evC_own h2 i hi
/-- behind the call -/
theorem Sim.afterIo {S2 : SS} {H2 : Hp} {as : List CA} {vs : List V} {ds os : List D} {e : Env} (J : Sim K S' ow' σ H' e) (c : CR K S S' σ ow' H' as vs ds) (nd : (ioSl as).Nodup) (ho : ∀ i ∈ ioSl as, ∃ d, PL.ownD e i = some d) (hS0 : S'.H0 = S.H0)
    (hfr : ∀ a o, H' a = some o → some a ∉ owOf (as.map CA.fl) vs → H2 a = some o) (ou : Outs K H2 (Av S2.A ow') (owOf (as.map CA.fl) vs) os)
    (hS2 : S2 = S' ∨ ∃ p o, S2 = S'.add p ∧ H' p = none ∧ H2 p = some o ∧ Mu o) : Sim K S2 ow' σ H2 (putOuts as os e) := by
  have hA2 : ∀ a, S2.A a → S'.A a ∨ H' a = none := fun a z => by
    rcases hS2 with rfl | ⟨p, o, rfl, hp, _⟩
    · exact .inl z
    · rcases z with z | z
      · exact .inl z
      · exact .inr (by rw [z]; exact hp)
  have hmu : ∀ a xs, H' a = some (.tup xs) → some a ∉ owOf (as.map CA.fl) vs := fun a xs e z => by
    obtain ⟨o, e2, m⟩ := J.live a (c.av z).1
    rw [e] at e2; cases e2; exact m
  have hmu2 : ∀ a ob u, H' a = some (.frz ob u) → some a ∉ owOf (as.map CA.fl) vs := fun a ob u e z => by
    obtain ⟨o, e2, m⟩ := J.live a (c.av z).1
    rw [e] at e2; cases e2; exact m
  have pr : Pres H' (Av S'.A ow') H2 (Av S2.A ow') := by
    refine ⟨fun a o e n => ⟨hfr a o e fun z => n (c.av z).1, fun z => ?_⟩, fun a xs e => hfr a _ e (hmu a xs e), fun a ob u e => hfr a _ e (hmu2 a ob u e)⟩
    rcases z with z | z
    · rcases hA2 a z with z | z
      · exact n (.inl z)
      · rw [e] at z; cases z
    · exact n (.inr z)
  have slots0 : ∀ (j : Nat) s, e[j]? = some s → SlotOk K H2 (Av S2.A ow') (σ[j]?) (ow'[j]?) s ∨ j ∈ ioSl as := fun j s ej => by
    by_cases hj : j ∈ ioSl as
    · exact .inr hj
    · left
      have q := J.slot j s ej
      have own : ∀ a o, ow'[j]? = some (some a) → H' a = some o → H2 a = some o := fun a o ea eo => hfr a o eo fun z => by
        have key : ∀ {as : List CA} {vs : List V} {ds : List D}, CR K S S' σ ow' H' as vs ds → some a ∈ owOf (as.map CA.fl) vs → j ∈ ioSl as := by
          intro as vs ds c
          induction c with
          | nil => intro z; simp [owOf] at z
          | v r _ ih => intro z; exact ih (by rename_i v _ _ _ _; cases v <;> simpa [owOf, CA.fl] using z)
          | io _ e2 _ _ _ ih =>
            intro z
            rcases (by simpa [owOf, CA.fl] using z : a = _ ∨ some a ∈ owOf _ _) with rfl | z
            · rw [J.inj j _ _ ea e2]; exact List.mem_cons_self ..
            · exact List.mem_cons_of_mem _ (ih z)
          | t _ _ e3 _ _ _ ih =>
            intro z
            rcases (by simpa [owOf, CA.fl] using z : a = _ ∨ some a ∈ owOf _ _) with rfl | z
            · exact absurd e3 (J.sep _ (List.mem_of_getElem? ea))
            · exact ih z
        exact hj (key c z)
      cases s with
      | no => trivial
      | lck => trivial
      | shr d => obtain ⟨v, e1, r⟩ := q; exact ⟨v, e1, r.pres pr⟩
      | own d => obtain ⟨a, o, e1, e2, e3, r⟩ := q; exact ⟨a, o, e1, e2, own a o e2 e3, r.pres pr⟩
      | iow d => obtain ⟨a, o, e1, e2, e3, r⟩ := q; exact ⟨a, o, e1, e2, own a o e2 e3, r.pres pr⟩
  obtain ⟨kn, sl⟩ := putOuts_ok c ou ho nd slots0
  have hS2' : S2.H0 = S'.H0 ∧ S2.io = S'.io ∧ S2.lk = S'.lk := by rcases hS2 with rfl | ⟨p, o, rfl, _⟩ <;> exact ⟨rfl, rfl, rfl⟩
  refine ⟨by rw [kn.len]; exact J.len, J.lenO, sl, J.inj, fun a ha => ?_, fun a ha z => ?_, fun a o e1 n => ?_, ?_, fun p hp => ?_, fun i d e1 => ?_, fun p hp => ?_⟩
  · by_cases hl : some a ∈ owOf (as.map CA.fl) vs
    · exact outs_mu ou hl
    · rcases ha with ha | ha
      · rcases hS2 with rfl | ⟨p, o, rfl, hp, hp2, hm⟩
        · obtain ⟨o, e1, m⟩ := J.live a (.inl ha); exact ⟨o, hfr a o e1 hl, m⟩
        · rcases ha with ha | ha
          · obtain ⟨o, e1, m⟩ := J.live a (.inl ha); exact ⟨o, hfr a o e1 hl, m⟩
          · rw [ha]; exact ⟨o, hp2, hm⟩
      · obtain ⟨o, e1, m⟩ := J.live a (.inr ha); exact ⟨o, hfr a o e1 hl, m⟩
  · rcases hA2 a z with z | z
    · exact J.sep a ha z
    · exact J.mutne (.inr ha) z
  · rw [hS2'.1] at e1
    rw [hS2'.2.1] at n
    refine hfr a o (J.frame a o e1 n) fun z => ?_
    rcases (c.av z).2 with z2 | z2
    · rcases J.fresh a z2 with z3 | ⟨j, hj⟩
      · rw [z3] at e1; cases e1
      · exact n _ hj rfl
    · rw [hS0, z2] at e1; cases e1
  · rw [hS2'.1, hS2'.2.1]; exact J.fresh
  · rw [hS2'.2.1] at hp
    obtain ⟨q1, q2⟩ := J.io p hp
    exact ⟨q1, (kn.iow p.1).mp q2⟩
  · rw [hS2'.2.1]
    obtain ⟨d', q⟩ := (kn.iow i).mpr ⟨d, e1⟩
    exact J.iow i d' q
  · rw [hS2'.2.2] at hp
    obtain ⟨q1, q2⟩ := J.lk p hp
    exact ⟨q1, kn.lck _ q2⟩
theorem callIo_go {fr : Bool} {f : Fn} {as : List CA} {Q : VK} {E : XK} (h : Ev fr K (eCallIo f as) σ H Q) : tCall (spP K ⟨as.map CA.fl, fr⟩ f) [] E (tCas K as) σ H Q := by
  obtain ⟨S, ow, env, I, d, envF, hm, q⟩ := h
  unfold eCallIo at hm
  simp only [Option.bind_eq_some_iff] at hm
  obtain ⟨⟨ds, e⟩, h1, ⟨d', os⟩, h2, h3⟩ := hm
  split at h3
  rotate_left
  · cases h3
  rename_i nd
  cases h3
  refine cas_ok as I h1 nd fun S' ow' vs H1 ex st J c no nn => ?_
  rw [List.append_nil]
  let l := owOf (as.map CA.fl) vs
  have eqP : ∀ a, Pio (fun a => Av S'.A ow' a ∧ some a ∉ l) l a ↔ Av S'.A ow' a := fun a => by
    constructor
    · rintro (z | z)
      · exact z.1
      · exact (c.av z).1
    · intro z
      by_cases hl : some a ∈ l
      · exact .inr hl
      · exact .inl ⟨z, hl⟩
  have less : ∀ {P P' : Addr → Prop} {H2 : Hp} {l : List (Option Addr)} {os : List D}, (∀ a, P' a → P a) → Outs K H2 P l os → Outs K H2 P' l os := by
    intro P P' H2 l os hPP ho
    induction ho with
    | nil => exact .nil
    | no _ ih => exact .no ih
    | io e r _ ih => exact .io e (r.pres (Pres.less hPP)) ih
  refine ⟨fun a => Av S'.A ow' a ∧ some a ∉ l, ds, (_, os), h2, c.cargs fun a z => (eqP a).mp z, no, fun a z z2 => z2.2 z, fun a z => J.live a z.1, fun v H2 p => ?_⟩
  have ho := evC_own h1
  have nl : ∀ a o, H a = some o → some a ∉ ow → H1 a = some o ∧ some a ∉ ow' ∧ some a ∉ l := fun a o e n => by
    obtain ⟨q1, q2⟩ := st.cell a o e n
    refine ⟨q1, q2, fun z => ?_⟩
    rcases nn a z with ⟨i, _, ei⟩ | ⟨ei, _⟩
    · exact q2 (List.mem_of_getElem? ei)
    · rw [e] at ei; cases ei
  have stC : ∀ {P : Addr → Prop}, Outs K H2 P l os → Stp ow H ow' H2 := fun ou => by
    refine ⟨fun a o e n => ?_, fun a xs e => ?_, fun a o u e => ?_, fun a o e => ?_⟩
    · obtain ⟨q1, q2, q3⟩ := nl a o e n
      exact ⟨p.frame a o q1 q3, q2⟩
    · have e1 := st.tup a xs e
      refine p.frame a _ e1 fun z => ?_
      obtain ⟨o, e2, m⟩ := J.live a (c.av z).1
      rw [e1] at e2; cases e2; exact m
    · have e1 := st.frz a o u e
      refine p.frame a _ e1 fun z => ?_
      obtain ⟨o, e2, m⟩ := J.live a (c.av z).1
      rw [e1] at e2; cases e2; exact m
    · obtain ⟨o1, e1⟩ := st.dom a o e
      by_cases hl : some a ∈ l
      · obtain ⟨o', e', _⟩ := outs_mu ou hl; exact ⟨o', e'⟩
      · exact ⟨o1, p.frame a o1 e1 hl⟩
  rcases p.ret with ⟨r, n, ou⟩ | ⟨hfr, pp, o, rfl, hp, ep, rc, ou⟩
  · have J2 : Sim K S' ow' σ H2 (putOuts as os e) := J.afterIo c nd ho ex.h0 p.frame (less (fun a z => (eqP a).mpr z) ou) (.inl rfl)
    refine q S ow' v H2 (stC ou) (J2.less ex.sub ex.h0 ex.io (by rw [ex.lk]; exact fun _ z => z)) (.inl ⟨rfl, r.pres (Pres.less fun a z => (eqP a).mpr (Or.imp (ex.sub a) id z)), n⟩)
  · have J2 : Sim K (S'.add pp) ow' σ H2 (putOuts as os e) := J.afterIo (S2 := S'.add pp) c nd ho ex.h0 p.frame (less (fun a z => by
      rcases z with (z | z) | z
      · exact .inl ((eqP a).mpr (.inl z))
      · exact .inr z
      · exact .inl ((eqP a).mpr (.inr z))) ou) (.inr ⟨pp, o, rfl, hp, ep, rc.mu⟩)
    refine q (S.add pp) ow' _ H2 (stC ou) (J2.less (S := S.add pp) (fun a z => Or.imp (ex.sub a) id z) ex.h0 ex.io (by show ∀ p ∈ S.lk, p ∈ S'.lk; rw [ex.lk]; exact fun _ z => z)) (.inr ⟨hfr, pp, o, rfl, rfl, st.back hp, ep, rc.pres (Pres.less fun a z => ?_)⟩)
    rcases z with (z | z) | z
    · exact .inl ((eqP a).mpr (.inl (ex.sub a z)))
    · exact .inr z
    · exact .inl ((eqP a).mpr (.inr z))
end
section
variable {X : Cx} {pos : Pos}
theorem pcas_nil : PA X [] (tCas X.K []) := pa_nil
theorem pcas_cons {e : Expr} {es : List Expr} {a : CA} {as : List CA} (ha : PE X e (rdCA X.K a)) (hr : PA X es (tCas X.K as)) (hs : starEach (e :: es) X.env = (false, eval e X.env) :: starEach es X.env := by rfl) : PA X (e :: es) (tCas X.K (a :: as)) := pa_cons ha hr hs
theorem ca_v {e : Expr} {m : EM} (h : PE X e (EvS X.K m)) : PE X e (rdCA X.K (.v m)) := h
theorem ca_f {e : Expr} {m : EM} (h : PE X e (EvF X.K m)) : PE X e (rdCA X.K (.v m)) := e_sh h
theorem ca_t {e : Expr} {m : EM} (h : PE X e (EvF X.K m)) : PE X e (rdCA X.K (.t m)) := h
theorem ca_io {i : Nat} {x : Str} (h : PE X (.Name x pos) (tVar i)) : PE X (.Name x pos) (rdCA X.K (.io i)) := h
theorem e_callIo {fr : Bool} {k : Nat} {f : Fn} {bs : List Bool} {fa : Addr} {fd : FuncData} {ps : List Str} {x : Str} {p : Pos} {e : Expr} {es : List Expr} {as : List CA} (F : FnOk X.prog X.w X.K X.mg X.base CX0 k fa fd ps (spP X.K ⟨bs, fr⟩ f)) (hbs : as.map CA.fl = bs) (hr : Room k X.A) (hg : Gl X x) (hm : X.mg x = some (.ref fa)) (hk : PySem.W.keepIn X.K (.ref fa) = true) (hb : Binds X.K fd ps [])
    (ha : PA X (e :: es) (tCas X.K as)) (hdb : (x == ("__debug__" : Str)) = false := by decide) (he : starEach (e :: es) X.env = (false, eval e X.env) :: starEach es X.env := by rfl) (hpl : (backTo pos (starEach es X.env)).any (·.1) = false := by rfl) :
    PE X (.Call (.Name x p) (e :: es) [] pos) (Ev fr X.K (eCallIo f as)) := by
  subst hbs
  exact (pe_call F hr hg hm hk hb .nil pass0 ha hdb he hpl).imp fun _ _ _ h => callIo_go h
end
end PL
end

section
set_option maxRecDepth 100000
set_option maxHeartbeats 3900000
/-! PV1: operations on plain data: numbers, comparisons, texts, tuples, lists. -/
namespace PL
open PySem Spec PyProof.Rows L2

section
variable {K : PySem.W.Frag} {H : Hp} {P : Addr → Prop} {v : V} {d : D}
theorem RpT.int (h : RpT K H P v (.int i)) : v = .int i := by
  rcases h with h | ⟨a, o, _, _, r⟩
  · exact h.int_inv
  · cases r
theorem RpT.bl (h : RpT K H P v (.bl b)) : v = .bl b := by
  rcases h with h | ⟨a, o, _, _, r⟩
  · exact h.bl_inv
  · cases r
theorem RpT.non (h : RpT K H P v .non) : v = .non := by
  rcases h with h | ⟨a, o, _, _, r⟩
  · cases h with
    | non => rfl
    | cell _ _ rc => cases rc
    | frz _ rc => cases rc
  · cases r
theorem RpT.str {s : List Nat} (h : RpT K H P v (.str s)) : ∃ x : Str, v = .str x ∧ x.cps.toList = s := by
  rcases h with h | ⟨a, o, _, _, r⟩
  · cases h with
    | str x => exact ⟨x, rfl, rfl⟩
    | cell _ _ rc => cases rc
    | frz _ rc => cases rc
  · cases r
theorem RpT.tup {ds : List D} (h : RpT K H P v (.tup ds)) : ∃ a vs, v = .ref a ∧ SqT K H a vs ∧ RpL K H P vs ds := by
  rcases h with h | ⟨a, o, _, _, r⟩
  · cases h with
    | @tup a vs _ hs rl => exact ⟨a, vs, rfl, hs, rl⟩
    | cell _ _ rc => cases rc
    | frz _ rc => cases rc
  · cases r
theorem RpT.lst {ds : List D} (h : RpT K H P v (.lst ds)) : ∃ a vs, v = .ref a ∧ SqL K H a vs ∧ RpL K H P vs ds := by
  rcases h with h | ⟨a, o, rfl, e, r⟩
  · cases h with
    | @cell a o _ e _ rc => cases rc with | @lst vs _ rl => exact ⟨a, vs, rfl, .inl (.inl e), rl⟩
    | @frz a ob o _ e rc => cases rc with | @lst vs _ rl => exact ⟨a, vs, rfl, .inl (.inr ⟨ob, e⟩), rl⟩
    | @kls a vs _ hk rl => exact ⟨a, vs, rfl, hk.sq, rl⟩
  · cases r with | @lst vs _ rl => exact ⟨a, vs, rfl, .inl (.inl e), rl⟩
theorem Rp.strOf (s : List Nat) : Rp K H P (.str ⟨s.toArray⟩) (.str s) := by
  have := Rp.str (K := K) (H := H) (P := P) ⟨s.toArray⟩
  simpa using this
theorem Rp.strEq {x : Str} {s : List Nat} (h : x.cps.toList = s) : Rp K H P (.str x) (.str s) := by rw [← h]; exact .str x
end
theorem str_eta (x : Str) : (⟨x.cps.toList.toArray⟩ : Str) = x := by cases x; simp
theorem str_app (x y : Str) : (x ++ y).cps.toList = x.cps.toList ++ y.cps.toList := by
  show (x.cps ++ y.cps).toList = _
  simp
theorem str_len (x : Str) : x.length = x.cps.toList.length := by
  show x.cps.size = _
  simp

/-! ### numbers -/
def small64 (i : Int) : Bool := decide (i.natAbs < 2 ^ 64)
def dAdd : List D → Option D
  | [.int i, .int j] => some (.int (i + j))
  | [.str s, .str t] => if s.length + t.length ≤ 16777216 then some (.str (s ++ t)) else none
  | [.tup s, .tup t] => if s.length + t.length ≤ 16777216 then some (.tup (s ++ t)) else none
  | [.lst s, .lst t] => if s.length + t.length ≤ 16777216 then some (.lst (s ++ t)) else none
  | _ => none
def dSub : List D → Option D
  | [.int i, .int j] => some (.int (i - j))
  | _ => none
def dMul : List D → Option D
  | [.int i, .int j] => if (small64 i || small64 j) = true then some (.int (i * j)) else none
  | [.lst s, .int k] => if k.natAbs < 2 ^ 62 ∧ s.length * k.toNat ≤ 16777216 then some (.lst (List.replicate k.toNat s).flatten) else none
  | _ => none
def dFdiv : List D → Option D
  | [.int i, .int j] => if 0 < j ∧ j.natAbs < 1073741824 then some (.int (i / j)) else none
  | _ => none
def dMod : List D → Option D
  | [.int i, .int j] => if 0 < j then some (.int (i % j)) else none
  | _ => none
def dPow : List D → Option D
  | [.int i, .int j] => if 0 ≤ j ∧ j.natAbs ≤ 1000000 ∧ i.natAbs < 2 ^ 64 then some (.int (i ^ j.toNat)) else none
  | _ => none
def dShl : List D → Option D
  | [.int i, .int j] => if 0 ≤ j ∧ j.natAbs ≤ 1000000 ∧ i.natAbs < 2 ^ 64 then some (.int (i * 2 ^ j.toNat)) else none
  | _ => none
def dShr : List D → Option D
  | [.int i, .int j] => if 0 ≤ j then some (.int (i / 2 ^ j.toNat)) else none
  | _ => none
def dAnd : List D → Option D
  | [.int i, .int j] => some (.int (Builtin.bitAnd i j))
  | _ => none
def dOr : List D → Option D
  | [.int i, .int j] => some (.int (Builtin.bitOr i j))
  | _ => none
def dXor : List D → Option D
  | [.int i, .int j] => some (.int (Builtin.bitXor i j))
  | _ => none
def dNeg : List D → Option D
  | [.int i] => some (.int (-i))
  | _ => none
def dInv : List D → Option D
  | [.int i] => some (.int (Builtin.bitNot i))
  | _ => none
section
variable {X : Cx}
/-- two ints in, an int out -/
theorem op_int2 {f : Value → Value → Sem Value} {C : Int → Int → Prop} {g : Int → Int → Int} {gd : List D → Option D} (ho : OpR X f (rI C fun i j => .int (g i j)))
    (hg : ∀ dx dy d, gd [dx, dy] = some d → ∃ i j, dx = .int i ∧ dy = .int j ∧ C i j ∧ d = .int (g i j)) : OpR X f (r2 true X.K gd) := by
  intro pins s σ H x y v u Q I rx ry ⟨P, dx, dy, d, hx, hy, hd, q⟩
  obtain ⟨i, j, rfl, rfl, hc, rfl⟩ := hg dx dy d hd
  exact ho pins s σ H x y v u Q I rx ry ⟨i, j, hx.int, hy.int, hc, q _ _ (.same (.int _) fun _ => rfl)⟩
theorem op_int20 {f : Value → Value → Sem Value} {g : Int → Int → Int} {gd : List D → Option D} (ho : OpR X f (rI0 fun i j => .int (g i j)))
    (hg : ∀ dx dy d, gd [dx, dy] = some d → ∃ i j, dx = .int i ∧ dy = .int j ∧ d = .int (g i j)) : OpR X f (r2 true X.K gd) := by
  intro pins s σ H x y v u Q I rx ry ⟨P, dx, dy, d, hx, hy, hd, q⟩
  obtain ⟨i, j, rfl, rfl, rfl⟩ := hg dx dy d hd
  exact ho pins s σ H x y v u Q I rx ry ⟨i, j, hx.int, hy.int, q _ _ (.same (.int _) fun _ => rfl)⟩
theorem o_sub : OpR X (binaryOp .Sub) (r2 true X.K dSub) := op_int20 op_sub fun dx dy d h => by
  unfold dSub at h
  split at h
  · rename_i i j e; cases e; cases h; exact ⟨i, j, rfl, rfl, rfl⟩
  · cases h
theorem o_fdiv : OpR X (binaryOp .FloorDiv) (r2 true X.K dFdiv) := op_int2 op_fdiv fun dx dy d h => by
  unfold dFdiv at h
  split at h
  · rename_i i j e; cases e
    split at h
    · rename_i hc; cases h; exact ⟨i, j, rfl, rfl, ⟨hc.1, by omega⟩, rfl⟩
    · cases h
  · cases h
theorem o_mod : OpR X (binaryOp .Mod) (r2 true X.K dMod) := op_int2 op_mod fun dx dy d h => by
  unfold dMod at h
  split at h
  · rename_i i j e; cases e
    split at h
    · rename_i hc; cases h; exact ⟨i, j, rfl, rfl, hc, rfl⟩
    · cases h
  · cases h
theorem o_pow : OpR X (binaryOp .Pow) (r2 true X.K dPow) := op_int2 op_pow fun dx dy d h => by
  unfold dPow at h
  split at h
  · rename_i i j e; cases e
    split at h
    · rename_i hc; cases h; exact ⟨i, j, rfl, rfl, ⟨hc.1, by omega, hc.2.2⟩, rfl⟩
    · cases h
  · cases h
theorem o_shl : OpR X (binaryOp .LShift) (r2 true X.K dShl) := op_int2 op_shl fun dx dy d h => by
  unfold dShl at h
  split at h
  · rename_i i j e; cases e
    split at h
    · rename_i hc; cases h; exact ⟨i, j, rfl, rfl, ⟨hc.1, by omega, hc.2.2⟩, rfl⟩
    · cases h
  · cases h
theorem o_shr : OpR X (binaryOp .RShift) (r2 true X.K dShr) := op_int2 op_shr fun dx dy d h => by
  unfold dShr at h
  split at h
  · rename_i i j e; cases e
    split at h
    · rename_i hc; cases h; exact ⟨i, j, rfl, rfl, hc, rfl⟩
    · cases h
  · cases h
theorem o_and : OpR X (binaryOp .BitAnd) (r2 true X.K dAnd) := op_int20 op_and fun dx dy d h => by
  unfold dAnd at h
  split at h
  · rename_i i j e; cases e; cases h; exact ⟨i, j, rfl, rfl, rfl⟩
  · cases h
theorem o_or : OpR X (binaryOp .BitOr) (r2 true X.K dOr) := op_int20 op_or fun dx dy d h => by
  unfold dOr at h
  split at h
  · rename_i i j e; cases e; cases h; exact ⟨i, j, rfl, rfl, rfl⟩
  · cases h
theorem o_xor : OpR X (binaryOp .BitXor) (r2 true X.K dXor) := op_int20 op_xor fun dx dy d h => by
  unfold dXor at h
  split at h
  · rename_i i j e; cases e; cases h; exact ⟨i, j, rfl, rfl, rfl⟩
  · cases h
theorem o_neg : UnR X (unaryOp .USub) (r1 true X.K dNeg) := by
  intro pins s σ H x v Q I rx ⟨P, dx, d, hx, hd, q⟩
  unfold dNeg at hd
  split at hd
  · rename_i i e; cases e; cases hd
    exact un_neg pins s σ H x v Q I rx ⟨i, hx.int, q _ _ (.same (.int _) fun _ => rfl)⟩
  · cases hd
theorem o_inv : UnR X (unaryOp .Invert) (r1 true X.K dInv) := by
  intro pins s σ H x v Q I rx ⟨P, dx, d, hx, hd, q⟩
  unfold dInv at hd
  split at hd
  · rename_i i e; cases e; cases hd
    exact un_inv pins s σ H x v Q I rx ⟨i, hx.int, q _ _ (.same (.int _) fun _ => rfl)⟩
  · cases hd
/-- two lists, told or of the module -/
theorem cat_lists {pins : List (Addr × Obj)} {s : Shared} {σ : L2.St} {H : Hp} {l b : Addr} {xs zs : List V} {Q : VK} (I : Inv X pins σ H s) (hH : SqL X.K H l xs) (hB : SqL X.K H b zs) (hz : xs.length + zs.length ≤ sizeLine)
    (q : ∀ p, H p = none → Q (.ref p) (upd H p (.lst (xs ++ zs)))) : wpAny (model X.prog X.w) X.A (binaryOp .Add (.ref l) (.ref b)) (EP X pins σ Q) X.xe s := by
  obtain ⟨us1, r, ⟨⟨c1, d1, dt1, sl1⟩, n, e, hc, hd, hs⟩, _⟩ := I.list hH
  obtain ⟨us2, r2, ⟨⟨c2, d2, dt2, sl2⟩, n2, e2, hc2, hd2, hs2⟩, _⟩ := I.list hB
  simp only at hc hd hs hc2 hd2 hs2
  subst hc hd hs hc2 hd2 hs2
  have joined : us1.toArray ++ us2.toArray = (us1 ++ us2).toArray := by simp
  refine concat_meets ⟨_, e, rfl⟩ ⟨_, e2, rfl⟩ noFill_list_add seq_list_add PySem.F.slot_list_add PySem.F.entry_list_add (PySem.F.args_list_add_2 _ _) (list_addW l b us1.toArray us2.toArray n n2 _ _ sl1 sl2 (by rw [List.size_toArray, List.size_toArray, ← r.length, ← r2.length]; exact hz)) ⟨e, e2, ?_⟩
  rw [joined]
  exact ⟨.ref _, _, I.lnew (t' := s.toks) (r.append r2) (by rw [List.length_append]; exact hz), rfl, q _ I.fresh⟩
theorem o_add : OpR X (binaryOp .Add) (r2 true X.K dAdd) := by
  intro pins s σ H x y v u Q I rx ry ⟨P, dx, dy, d, hx, hy, hd, q⟩
  unfold dAdd at hd
  split at hd
  · rename_i i j e; cases e; cases hd
    exact op_add pins s σ H x y v u Q I rx ry ⟨i, j, hx.int, hy.int, q _ _ (.same (.int _) fun _ => rfl)⟩
  · rename_i a b e; cases e
    split at hd
    · rename_i hz; cases hd
      obtain ⟨x', rfl, ex⟩ := hx.str
      obtain ⟨y', rfl, ey⟩ := hy.str
      refine op_add_str pins s σ H _ _ v u Q I rx ry ⟨x', y', rfl, rfl, ?_, q _ _ (.same (.strEq ?_) fun _ => rfl)⟩
      · rw [str_len, str_len, ex, ey, sizeLine_eq]; exact hz
      · rw [str_app, ex, ey]
    · cases hd
  · rename_i a b e; cases e
    split at hd
    · rename_i hz; cases hd
      obtain ⟨ax, vx, rfl, sx, lx⟩ := hx.tup
      obtain ⟨ay, vy, rfl, sy, ly⟩ := hy.tup
      refine op_catA pins s σ H _ _ v u Q I rx ry ⟨ax, ay, vx, vy, rfl, rfl, sx, sy, ?_, fun e => ?_, fun _ e => ?_, fun _ _ p hp => ?_⟩
      · rw [lx.length, ly.length, sizeLine_eq]; exact hz
      · subst e; cases lx
        exact q _ _ (.same (.tup sy ly) fun _ => rfl)
      · subst e; cases ly
        rw [List.append_nil] at q
        exact q _ _ (.same (.tup sx lx) fun _ => rfl)
      · exact q _ _ (.newT hp (lx.append ly))
    · cases hd
  · rename_i a b e; cases e
    split at hd
    · rename_i hz; cases hd
      obtain ⟨ax, vx, rfl, sx, lx⟩ := hx.lst
      obtain ⟨ay, vy, rfl, sy, ly⟩ := hy.lst
      cases rx
      cases ry
      exact cat_lists I sx sy (by rw [lx.length, ly.length, sizeLine_eq]; exact hz) fun p hp => q _ _ (.newC hp (.lst (lx.append ly)))
    · cases hd
  · cases hd
theorem rep_list {pins : List (Addr × Obj)} {s : Shared} {σ : L2.St} {H : Hp} {l : Addr} {xs : List V} {k : Int} {t : Tok} {Q : VK} (I : Inv X pins σ H s) (hH : SqL X.K H l xs) (h1 : -(2 ^ 63) ≤ k) (h2 : k < 2 ^ 63) (hz : xs.length * k.toNat ≤ sizeLine)
    (q : ∀ p, H p = none → Q (.ref p) (upd H p (.lst (List.replicate k.toNat xs).flatten))) : wpAny (model X.prog X.w) X.A (binaryOp .Mult (.ref l) (.int k t)) (EP X pins σ Q) X.xe s := by
  obtain ⟨us1, r, ⟨⟨c1, d1, dt1, sl1⟩, n, e, hc, hd, hs⟩, _⟩ := I.list hH
  simp only at hc hd hs
  subst hc hd hs
  have hl := r.length
  have szq : us1.toArray.size * k.toNat ≤ sizeLine := by rw [List.size_toArray, ← hl]; exact hz
  have capq : ¬ us1.toArray.size * k.toNat > (2 ^ 63 - 1) / 8 := by
    have : (sizeLine : Nat) ≤ (2 ^ 63 - 1) / 8 := by decide
    omega
  have fitq : ¬ (!Builtin.List.listFitsIndex k) = true := by
    rw [fitsIndex_both h1 h2]
    exact Bool.false_ne_true
  have longq : ¬ Builtin.List.listTooLong (us1.toArray.size * k.toNat) = true := by
    rw [notLongL szq]
    exact Bool.false_ne_true
  have rowsq : List.foldl (fun x1 x2 => x1 ++ x2) #[] (List.replicate (if us1.toArray.isEmpty = true then 0 else k.toNat) us1.toArray) = (List.replicate k.toNat us1).flatten.toArray := by
    have step0 : ∀ m : Nat, List.foldl (fun x1 x2 => x1 ++ x2) #[] (List.replicate m us1.toArray) = (List.replicate m us1).flatten.toArray := fun m => by
      have := foldl_rep us1 m []
      rw [List.nil_append] at this
      exact this
    rw [step0]
    cases us1 with
    | nil => simp
    | cons hd0 tl0 => rw [if_neg (by simp)]
  refine wpAny_binaryOp_repeat_ref (T := "list") (U := "int") (by decide) ⟨_, e, rfl⟩ (fun s' => typeIs_int s' k t) noFill_list_mul PySem.F.fills_int_mul PySem.F.slot_int_rmul repeat_list PySem.F.slot_int_index.lookup
    (call_meets PySem.F.slot_int_rmul (typeIs_int s k t) PySem.F.entry_int_rmul (PySem.F.args_int_rmul_2 _ _) (lm_int_rmul_list_any k t l us1.toArray n _ sl1)
      ⟨e, rfl, ⟨_, e, rfl⟩, call_meets PySem.F.slot_list_mul ⟨_, e, rfl⟩ PySem.F.entry_list_mul (PySem.F.args_list_mul_2 _ _) (lm_list_mul_any l us1.toArray n _ sl1 k t fitq capq longq) ⟨e, ?_⟩⟩)
  rw [rowsq]
  refine ⟨.ref _, _, I.lnew (t' := s.toks) (r.rep k.toNat) ?_, rfl, q _ I.fresh⟩
  rw [PyProof.Rows.lm_len_rep_flat, Nat.mul_comm]; exact hz
end
end PL
end

section
set_option maxRecDepth 100000
set_option maxHeartbeats 3900000
/-! PV2: comparisons. -/
namespace PL
open PySem Spec PyProof.Rows L2

mutual
def deq : D → D → Bool
  | .non, .non => true
  | .bl a, .bl b => a == b
  | .bl a, .int j => (if a then 1 else 0) == j
  | .int i, .bl b => i == (if b then 1 else 0)
  | .int i, .int j => i == j
  | .str x, .str y => x == y
  | .lst xs, .lst ys => deqL xs ys
  | .tup xs, .tup ys => deqL xs ys
  | _, _ => false
def deqL : List D → List D → Bool
  | [], [] => true
  | x :: xs, y :: ys => deq x y && deqL xs ys
  | _, _ => false
end
mutual
def okD : D → Nat → Bool
  | .non, _ => true
  | .bl _, _ => true
  | .int _, _ => true
  | .str s, _ => s.all (· < 0x110000)
  | .lst ds, n => decide (0 < n) && okDs ds (n - 1)
  | .tup ds, n => decide (0 < n) && okDs ds (n - 1)
  | _, _ => false
def okDs : List D → Nat → Bool
  | [], _ => true
  | d :: ds, n => okD d n && okDs ds n
end
mutual
def pyD : D → PyData
  | .non => .none
  | .bl b => .bool b
  | .int i => .int i
  | .str s => .str ⟨s.toArray⟩
  | .lst ds => .list (pyDs ds)
  | .tup ds => .tuple (pyDs ds)
  | .dct _ => .none
  | .opq _ => .none
def pyDs : List D → List PyData
  | [] => []
  | d :: ds => pyD d :: pyDs ds
end
def scalD : D → D → Bool
  | .non, .non => true | .non, .int _ => true | .int _, .non => true | .non, .bl _ => true | .bl _, .non => true | .non, .str _ => true | .str _, .non => true
  | .int _, .int _ => true | .bl _, .bl _ => true | .str _, .str _ => true
  | .int _, .str _ => true | .str _, .int _ => true | .bl _, .str _ => true | .str _, .bl _ => true
  | _, _ => false
mutual
theorem py_lay : ∀ (d : D) (n : Nat), okD d n = true → (pyD d).canLay0 = true ∧ (pyD d).depth ≤ n
  | .non, n, _ => by simp [pyD, PyData.canLay0, PyData.depth]
  | .bl b, n, _ => by simp [pyD, PyData.canLay0, PyData.depth]
  | .int i, n, _ => by simp [pyD, PyData.canLay0, PyData.depth]
  | .str s, n, h => by
    rw [okD] at h
    simp only [pyD, PyData.canLay0, PyData.depth]
    refine ⟨?_, Nat.zero_le _⟩
    show (s.toArray).all (· < 0x110000) = true
    simpa using h
  | .lst ds, n, h => by
    rw [okD, Bool.and_eq_true, decide_eq_true_eq] at h
    have := py_lays ds (n - 1) h.2
    simp only [pyD, PyData.canLay0, PyData.depth]
    exact ⟨this.1, by omega⟩
  | .tup ds, n, h => by
    rw [okD, Bool.and_eq_true, decide_eq_true_eq] at h
    have := py_lays ds (n - 1) h.2
    simp only [pyD, PyData.canLay0, PyData.depth]
    exact ⟨this.1, by omega⟩
  | .dct _, n, h => by simp [okD] at h
  | .opq _, n, h => by simp [okD] at h
theorem py_lays : ∀ (ds : List D) (n : Nat), okDs ds n = true → PyData.canLayAll0 (pyDs ds) = true ∧ PyData.depthAll (pyDs ds) ≤ n
  | [], n, _ => by simp [pyDs, PyData.canLayAll0, PyData.depthAll]
  | d :: ds, n, h => by
    rw [okDs, Bool.and_eq_true] at h
    have h1 := py_lay d n h.1
    have h2 := py_lays ds n h.2
    simp only [pyDs, PyData.canLayAll0, PyData.depthAll]
    exact ⟨by rw [h1.1, h2.1]; rfl, by omega⟩
end
theorem py_shaped {d : D} (h : okD d 64 = true) : SeqAt.shaped (pyD d) = true := by
  have := py_lay d 64 h
  show ((pyD d).canLay0 && decide ((pyD d).depth ≤ 64)) = true
  rw [this.1, decide_eq_true this.2]; rfl
section
variable {K : PySem.W.Frag} {H : Hp} {P : Addr → Prop}
mutual
theorem RpT.dp : ∀ (d : D) (n : Nat) (v : V), okD d n = true → RpT K H P v d → Dp K H v (pyD d)
  | .non, n, v, _, h => by rw [h.non, pyD]; exact .non
  | .bl b, n, v, _, h => by rw [h.bl, pyD]; exact .bl b
  | .int i, n, v, _, h => by rw [h.int, pyD]; exact .int i
  | .str s, n, v, _, h => by
    obtain ⟨x, rfl, ex⟩ := h.str
    rw [pyD, ← ex, str_eta]; exact .str x
  | .lst ds, n, v, o, h => by
    rw [okD, Bool.and_eq_true] at o
    obtain ⟨a, vs, rfl, s, l⟩ := h.lst
    rw [pyD]; exact .lst s (Rp.dps ds (n - 1) vs o.2 l)
  | .tup ds, n, v, o, h => by
    rw [okD, Bool.and_eq_true] at o
    obtain ⟨a, vs, rfl, s, l⟩ := h.tup
    rw [pyD]; exact .tup s (Rp.dps ds (n - 1) vs o.2 l)
  | .dct _, n, _, h, _ => by simp [okD] at h
  | .opq _, n, _, h, _ => by simp [okD] at h
theorem Rp.dps : ∀ (ds : List D) (n : Nat) (vs : List V), okDs ds n = true → RpL K H P vs ds → DpAll K H vs (pyDs ds)
  | [], n, vs, _, h => by cases h; rw [pyDs]; exact .nil
  | d :: ds, n, vs, o, h => by
    rw [okDs, Bool.and_eq_true] at o
    cases h with
    | cons h1 h2 => rw [pyDs]; exact .cons (RpT.dp d n _ o.1 (.inl h1)) (Rp.dps ds n _ o.2 h2)
end
end
theorem str_beq (s t : List Nat) : ((⟨s.toArray⟩ : Str) == ⟨t.toArray⟩) = (s == t) := by
  rw [Bool.eq_iff_iff]; simp
mutual
theorem py_eqv : ∀ (d e : D) (n m : Nat), okD d n = true → okD e m = true → PyData.eqv (pyD d) (pyD e) = deq d e
  | .non, e, n, m, _, h => by cases e <;> simp_all [pyD, PyData.eqv, deq, okD]
  | .bl b, e, n, m, _, h => by cases e <;> simp_all [pyD, PyData.eqv, deq, okD]
  | .int i, e, n, m, _, h => by cases e <;> simp_all [pyD, PyData.eqv, deq, okD]
  | .str s, e, n, m, _, h => by
    cases e <;> first | (simp only [pyD, PyData.eqv, deq]; exact str_beq _ _) | simp_all [pyD, PyData.eqv, deq, okD]
  | .lst ds, e, n, m, h1, h => by
    cases e with
    | lst es =>
      rw [okD, Bool.and_eq_true] at h h1
      simp only [pyD, PyData.eqv, deq]; exact py_eqvs ds es _ _ h1.2 h.2
    | _ => simp_all [pyD, PyData.eqv, deq, okD]
  | .tup ds, e, n, m, h1, h => by
    cases e with
    | tup es =>
      rw [okD, Bool.and_eq_true] at h h1
      simp only [pyD, PyData.eqv, deq]; exact py_eqvs ds es _ _ h1.2 h.2
    | _ => simp_all [pyD, PyData.eqv, deq, okD]
  | .dct _, _, _, _, h, _ => by simp [okD] at h
  | .opq _, _, _, _, h, _ => by simp [okD] at h
theorem py_eqvs : ∀ (ds es : List D) (n m : Nat), okDs ds n = true → okDs es m = true → PyData.eqvAll (pyDs ds) (pyDs es) = deqL ds es
  | [], [], _, _, _, _ => by simp [pyDs, PyData.eqvAll, deqL]
  | [], _ :: _, _, _, _, _ => by simp [pyDs, PyData.eqvAll, deqL]
  | _ :: _, [], _, _, _, _ => by simp [pyDs, PyData.eqvAll, deqL]
  | d :: ds, e :: es, n, m, h1, h2 => by
    rw [okDs, Bool.and_eq_true] at h1 h2
    simp only [pyDs, PyData.eqvAll, deqL]
    rw [py_eqv d e n m h1.1 h2.1, py_eqvs ds es n m h1.2 h2.2]
end
def dEq : List D → Option D
  | [x, y] => if (scalD x y || (okD x 64 && okD y 64)) = true then some (.bl (deq x y)) else none
  | _ => none
def dNe : List D → Option D
  | [x, y] => if (scalD x y || (okD x 64 && okD y 64)) = true then some (.bl (!deq x y)) else none
  | _ => none
section
variable {X : Cx}
theorem scal_eq {K : PySem.W.Frag} {H : Hp} {P P' : Addr → Prop} {v u : V} {x y : D} (h : scalD x y = true) (hx : RpT K H P v x) (hy : RpT K H P' u y) : scal v u = true ∧ decide (v = u) = deq x y := by
  cases x <;> cases y <;> first | exact absurd (show false = true from h) Bool.false_ne_true | skip
  all_goals try (have e1 := hx.non; subst e1)
  all_goals try (have e1 := hx.int; subst e1)
  all_goals try (have e1 := hx.bl; subst e1)
  all_goals try (have e1 := hy.non; subst e1)
  all_goals try (have e1 := hy.int; subst e1)
  all_goals try (have e1 := hy.bl; subst e1)
  all_goals try (obtain ⟨sx, e1, ex⟩ := hx.str; subst e1; subst ex)
  all_goals try (obtain ⟨sy, e1, ey⟩ := hy.str; subst e1; subst ey)
  all_goals first
    | exact ⟨rfl, dec_int⟩
    | exact ⟨rfl, dec_bl⟩
    | exact ⟨rfl, dec_str.trans (by obtain ⟨⟨a⟩⟩ := sx; obtain ⟨⟨b⟩⟩ := sy; exact str_beq _ _)⟩
    | exact ⟨rfl, by simp [deq]⟩
theorem o_eq (hu : X.A.units + 64 < cLine) : OpR X (compareOp .Eq) (r2 true X.K dEq) := by
  intro pins s σ H x y v u Q I rx ry ⟨P, dx, dy, d, hx, hy, hd, q⟩
  unfold dEq at hd
  · simp only at hd
    split at hd
    · rename_i hc; cases hd
      by_cases hs : scalD dx dy = true
      · obtain ⟨h1, h2⟩ := scal_eq hs hx hy
        exact op_eq pins s σ H _ _ v u Q I rx ry ⟨h1, by rw [h2]; exact q _ _ (.same (.bl _) fun _ => rfl)⟩
      · rw [Bool.or_eq_true, Bool.and_eq_true] at hc
        obtain ⟨c1, c2⟩ := hc.resolve_left hs
        refine op_eqD hu pins s σ H _ _ v u Q I rx ry ⟨_, _, RpT.dp _ _ _ c1 hx, RpT.dp _ _ _ c2 hy, py_shaped c1, py_shaped c2, ?_⟩
        rw [py_eqv _ _ _ _ c1 c2]
        exact q _ _ (.same (.bl _) fun _ => rfl)
    · cases hd
theorem o_ne (hu : X.A.units + 64 < cLine) : OpR X (compareOp .NotEq) (r2 true X.K dNe) := by
  intro pins s σ H x y v u Q I rx ry ⟨P, dx, dy, d, hx, hy, hd, q⟩
  unfold dNe at hd
  · simp only at hd
    split at hd
    · rename_i hc; cases hd
      by_cases hs : scalD dx dy = true
      · obtain ⟨h1, h2⟩ := scal_eq hs hx hy
        exact op_ne pins s σ H _ _ v u Q I rx ry ⟨h1, by rw [h2]; exact q _ _ (.same (.bl _) fun _ => rfl)⟩
      · rw [Bool.or_eq_true, Bool.and_eq_true] at hc
        obtain ⟨c1, c2⟩ := hc.resolve_left hs
        refine op_neD hu pins s σ H _ _ v u Q I rx ry ⟨_, _, RpT.dp _ _ _ c1 hx, RpT.dp _ _ _ c2 hy, py_shaped c1, py_shaped c2, ?_⟩
        rw [py_eqv _ _ _ _ c1 c2]
        exact q _ _ (.same (.bl _) fun _ => rfl)
    · cases hd
end
end PL
end

section
set_option maxRecDepth 100000
set_option maxHeartbeats 3900000
/-! PV3: order, is, in, isinstance, index, slices, plain built-in calls. -/
namespace PL
open PySem Spec PyProof.Rows L2

/-- the ints of a list of data -/
def intsD : List D → Option (List Int)
  | [] => some []
  | .int i :: r => (intsD r).map (i :: ·)
  | _ => none
def blsD : List D → Option (List Bool)
  | [] => some []
  | .bl i :: r => (blsD r).map (i :: ·)
  | _ => none
def strsD : List D → Option (List (List Nat))
  | [] => some []
  | .str i :: r => (strsD r).map (i :: ·)
  | _ => none
theorem intsD_map (ns : List Int) : intsD (ns.map .int) = some ns := by
  induction ns with
  | nil => rfl
  | cons n r ih => rw [List.map_cons, intsD, ih]; rfl
theorem blsD_map (ns : List Bool) : blsD (ns.map .bl) = some ns := by
  induction ns with
  | nil => rfl
  | cons n r ih => rw [List.map_cons, blsD, ih]; rfl
theorem strsD_map (ns : List (List Nat)) : strsD (ns.map .str) = some ns := by
  induction ns with
  | nil => rfl
  | cons n r ih => rw [List.map_cons, strsD, ih]; rfl
theorem intsD_eq : ∀ {ds : List D} {ns : List Int}, intsD ds = some ns → ds = ns.map .int
  | [], ns, h => by cases h; rfl
  | d :: ds, ns, h => by
    cases d <;> first | (cases h; done) | skip
    rename_i i
    rw [intsD, Option.map_eq_some_iff] at h
    obtain ⟨r, h1, rfl⟩ := h
    rw [intsD_eq h1]; rfl
theorem blsD_eq : ∀ {ds : List D} {ns : List Bool}, blsD ds = some ns → ds = ns.map .bl
  | [], ns, h => by cases h; rfl
  | d :: ds, ns, h => by
    cases d <;> first | (cases h; done) | skip
    rename_i i
    rw [blsD, Option.map_eq_some_iff] at h
    obtain ⟨r, h1, rfl⟩ := h
    rw [blsD_eq h1]; rfl
theorem strsD_eq : ∀ {ds : List D} {ns : List (List Nat)}, strsD ds = some ns → ds = ns.map .str
  | [], ns, h => by cases h; rfl
  | d :: ds, ns, h => by
    cases d <;> first | (cases h; done) | skip
    rename_i i
    rw [strsD, Option.map_eq_some_iff] at h
    obtain ⟨r, h1, rfl⟩ := h
    rw [strsD_eq h1]; rfl
section
variable {K : PySem.W.Frag} {H : Hp} {P : Addr → Prop}
theorem RpL.ints : ∀ {ns : List Int} {vs : List V}, RpL K H P vs (ns.map .int) → vs = ns.map V.int
  | [], _, h => by cases h; rfl
  | n :: ns, _, h => by
    rw [List.map_cons] at h
    cases h with | cons h1 h2 => rw [h1.int_inv, h2.ints]; rfl
theorem RpL.bls : ∀ {ns : List Bool} {vs : List V}, RpL K H P vs (ns.map .bl) → vs = ns.map V.bl
  | [], _, h => by cases h; rfl
  | n :: ns, _, h => by
    rw [List.map_cons] at h
    cases h with | cons h1 h2 => rw [h1.bl_inv, h2.bls]; rfl
theorem RpL.strs : ∀ {ns : List (List Nat)} {vs : List V}, RpL K H P vs (ns.map .str) → ∃ ys : List Str, vs = ys.map V.str ∧ ys.map (·.cps.toList) = ns
  | [], _, h => by cases h; exact ⟨[], rfl, rfl⟩
  | n :: ns, _, h => by
    rw [List.map_cons] at h
    cases h with | cons h1 h2 =>
      obtain ⟨x, rfl, e⟩ := RpT.str (.inl h1)
      obtain ⟨ys, rfl, e2⟩ := h2.strs
      exact ⟨x :: ys, rfl, by rw [List.map_cons, e, e2]⟩
theorem rpInts : ∀ (ns : List Int), RpL K H P (ns.map V.int) (ns.map .int)
  | [] => .nil
  | n :: ns => .cons (.int n) (rpInts ns)
end

/-! ### order -/
def dLt : List D → Option D
  | [.int i, .int j] => some (.bl (decide (i < j)))
  | [.str i, .str j] => some (.bl (decide (i < j)))
  | [.tup s, .tup t] => (intsD s).bind fun ns => (intsD t).map fun ms => .bl (HT.lexLt ns ms)
  | _ => none
def dLe : List D → Option D
  | [.int i, .int j] => some (.bl (decide (i ≤ j)))
  | [.str i, .str j] => some (.bl (!decide (j < i)))
  | _ => none
def dGt : List D → Option D
  | [.int i, .int j] => some (.bl (decide (j < i)))
  | [.str i, .str j] => some (.bl (decide (j < i)))
  | _ => none
def dGe : List D → Option D
  | [.int i, .int j] => some (.bl (decide (j ≤ i)))
  | [.str i, .str j] => some (.bl (!decide (i < j)))
  | _ => none
section
variable {X : Cx}
theorem o_lt (hu : X.A.units < cLine) : OpR X (compareOp .Lt) (r2 true X.K dLt) := by
  intro pins s σ H x y v u Q I rx ry ⟨P, dx, dy, d, hx, hy, hd, q⟩
  unfold dLt at hd
  split at hd
  · rename_i i j e; cases e; cases hd
    exact op_lt pins s σ H x y v u Q I rx ry ⟨i, j, hx.int, hy.int, q _ _ (.same (.bl _) fun _ => rfl)⟩
  · rename_i i j e; cases e; cases hd
    obtain ⟨x', rfl, ex⟩ := hx.str
    obtain ⟨y', rfl, ey⟩ := hy.str
    subst ex ey
    exact op_lt_str pins s σ H _ _ v u Q I rx ry ⟨x', y', rfl, rfl, q _ _ (.same (.bl _) fun _ => rfl)⟩
  · rename_i a b e; cases e
    simp only [Option.bind_eq_some_iff, Option.map_eq_some_iff] at hd
    obtain ⟨ns, h1, ms, h2, rfl⟩ := hd
    obtain ⟨ax, vx, rfl, sx, lx⟩ := hx.tup
    obtain ⟨ay, vy, rfl, sy, ly⟩ := hy.tup
    rw [intsD_eq h1] at lx
    rw [intsD_eq h2] at ly
    rw [lx.ints] at sx
    rw [ly.ints] at sy
    exact op_ltT hu pins s σ H _ _ v u Q I rx ry ⟨ax, ay, ns, ms, rfl, rfl, sx, sy, q _ _ (.same (.bl _) fun _ => rfl)⟩
  · cases hd
theorem o_le : OpR X (compareOp .LtE) (r2 true X.K dLe) := by
  intro pins s σ H x y v u Q I rx ry ⟨P, dx, dy, d, hx, hy, hd, q⟩
  unfold dLe at hd
  split at hd
  · rename_i i j e; cases e; cases hd
    exact op_le pins s σ H x y v u Q I rx ry ⟨i, j, hx.int, hy.int, q _ _ (.same (.bl _) fun _ => rfl)⟩
  · rename_i i j e; cases e; cases hd
    obtain ⟨x', rfl, ex⟩ := hx.str
    obtain ⟨y', rfl, ey⟩ := hy.str
    subst ex ey
    exact op_le_str pins s σ H _ _ v u Q I rx ry ⟨x', y', rfl, rfl, q _ _ (.same (.bl _) fun _ => rfl)⟩
  · cases hd
theorem o_gt : OpR X (compareOp .Gt) (r2 true X.K dGt) := by
  intro pins s σ H x y v u Q I rx ry ⟨P, dx, dy, d, hx, hy, hd, q⟩
  unfold dGt at hd
  split at hd
  · rename_i i j e; cases e; cases hd
    exact op_gt pins s σ H x y v u Q I rx ry ⟨i, j, hx.int, hy.int, q _ _ (.same (.bl _) fun _ => rfl)⟩
  · rename_i i j e; cases e; cases hd
    obtain ⟨x', rfl, ex⟩ := hx.str
    obtain ⟨y', rfl, ey⟩ := hy.str
    subst ex ey
    exact op_gt_str pins s σ H _ _ v u Q I rx ry ⟨x', y', rfl, rfl, q _ _ (.same (.bl _) fun _ => rfl)⟩
  · cases hd
theorem o_ge : OpR X (compareOp .GtE) (r2 true X.K dGe) := by
  intro pins s σ H x y v u Q I rx ry ⟨P, dx, dy, d, hx, hy, hd, q⟩
  unfold dGe at hd
  split at hd
  · rename_i i j e; cases e; cases hd
    exact op_ge pins s σ H x y v u Q I rx ry ⟨i, j, hx.int, hy.int, q _ _ (.same (.bl _) fun _ => rfl)⟩
  · rename_i i j e; cases e; cases hd
    obtain ⟨x', rfl, ex⟩ := hx.str
    obtain ⟨y', rfl, ey⟩ := hy.str
    subst ex ey
    exact op_ge_str pins s σ H _ _ v u Q I rx ry ⟨x', y', rfl, rfl, q _ _ (.same (.bl _) fun _ => rfl)⟩
  · cases hd

/-! ### is, is not -/
def isD : D → D → Option Bool
  | .opq _, _ => none
  | .non, .non => some true
  | _, .non => some false
  | .bl a, .bl b => some (a == b)
  | _, .bl _ => some false
  | _, _ => none
def dIs : List D → Option D
  | [x, y] => (isD x y).map .bl
  | _ => none
def dIsNot : List D → Option D
  | [x, y] => (isD x y).map fun b => .bl (!b)
  | _ => none
def isNonD : D → Bool
  | .non => true
  | _ => false
theorem plain_of {K : PySem.W.Frag} {H : Hp} {P : Addr → Prop} {x : V} {v : Value} {d : D} {b : Bool} (hx : RpT K H P x d) (rx : RelV x v) (hd : ∀ z, d ≠ .opq z) : plainIs v (.bool b) = true := by
  cases d with
  | opq z => exact absurd rfl (hd z)
  | non => cases hx.non; cases rx; rfl
  | bl a => cases hx.bl; cases rx; rfl
  | int i => cases hx.int; obtain ⟨t, rfl⟩ := rx; rfl
  | str i => obtain ⟨z, rfl, _⟩ := hx.str; obtain ⟨t, rfl⟩ := rx; rfl
  | tup ds => obtain ⟨a, _, rfl, _⟩ := hx.tup; cases rx; rfl
  | lst ds => obtain ⟨a, _, rfl, _⟩ := hx.lst; cases rx; rfl
  | dct ds =>
    rcases hx with h | ⟨a, o, rfl, _⟩
    · cases h with
      | cell => cases rx; rfl
      | frz => cases rx; rfl
    · cases rx; rfl
theorem vbl_ne {K : PySem.W.Frag} {H : Hp} {P : Addr → Prop} {x : V} {v : Value} {d : D} {b : Bool} (hx : RpT K H P x d) (rx : RelV x v) (hd : ∀ z, d ≠ .opq z) (hb : ∀ a, d = .bl a → a ≠ b) : v ≠ .bool b := by
  intro e
  subst e
  cases d with
  | opq z => exact hd z rfl
  | non => cases hx.non; cases rx
  | bl a => cases hx.bl; cases rx; exact hb _ rfl rfl
  | int i => cases hx.int; obtain ⟨t, e⟩ := rx; cases e
  | str i => obtain ⟨z, rfl, _⟩ := hx.str; obtain ⟨t, e⟩ := rx; cases e
  | tup ds => obtain ⟨a, _, rfl, _⟩ := hx.tup; cases rx
  | lst ds => obtain ⟨a, _, rfl, _⟩ := hx.lst; cases rx
  | dct ds =>
    rcases hx with h | ⟨a, o, rfl, _⟩
    · cases h with
      | cell => cases rx
      | frz => cases rx
    · cases rx
theorem vnon {K : PySem.W.Frag} {H : Hp} {P : Addr → Prop} {x : V} {d : D} (hx : RpT K H P x d) (hd : ∀ z, d ≠ .opq z) : decide (x = .non) = isNonD d := by
  cases d with
  | opq z => exact absurd rfl (hd z)
  | non => cases hx.non; rfl
  | bl a => cases hx.bl; rfl
  | int i => cases hx.int; rfl
  | str i => obtain ⟨z, rfl, _⟩ := hx.str; rfl
  | tup ds => obtain ⟨a, _, rfl, _⟩ := hx.tup; rfl
  | lst ds => obtain ⟨a, _, rfl, _⟩ := hx.lst; rfl
  | dct ds =>
    rcases hx with h | ⟨a, o, rfl, _⟩
    · cases h with
      | cell => rfl
      | frz => rfl
    · rfl
theorem isD_opq {x y : D} {b : Bool} (h : isD x y = some b) : ∀ z, x ≠ .opq z := fun z e => by subst e; cases h
theorem isD_non {x : D} {b : Bool} (h : isD x .non = some b) : b = isNonD x := by
  cases x <;> cases h <;> rfl
theorem isD_bl {x : D} {b c : Bool} (h : isD x (.bl c) = some b) : (b = true ∧ x = .bl c) ∨ (b = false ∧ ∀ a, x = .bl a → a ≠ c) := by
  cases x with
  | bl a =>
    cases h
    by_cases e : a = c
    · subst e; exact .inl ⟨by simp, rfl⟩
    · exact .inr ⟨by simp [e], fun _ z => by cases z; exact e⟩
  | _ => first | (cases h; exact .inr ⟨rfl, fun _ z => by cases z⟩) | cases h
theorem isD_r {x y : D} {b : Bool} (h : isD x y = some b) : y = .non ∨ ∃ c, y = .bl c := by
  cases y <;> first | exact .inl rfl | exact .inr ⟨_, rfl⟩ | (cases x <;> cases h)
theorem o_is : OpR X (compareOp .Is) (r2 true X.K dIs) := by
  intro pins s σ H x y v u Q I rx ry ⟨P, dx, dy, d, hx, hy, hd, q⟩
  simp only [dIs, Option.map_eq_some_iff] at hd
  obtain ⟨b, hb, rfl⟩ := hd
  have no := isD_opq hb
  rcases isD_r hb with rfl | ⟨c, rfl⟩
  · refine op_isN pins s σ H x y v u Q I rx ry ⟨hy.non, ?_⟩
    rw [vnon hx no, ← isD_non hb]
    exact q _ _ (.same (.bl _) fun _ => rfl)
  · cases hy.bl
    cases ry
    rcases isD_bl hb with ⟨rfl, rfl⟩ | ⟨rfl, n⟩
    · cases hx.bl; cases rx
      exact wpAny_is_self rfl ⟨.bl true, H, I, rfl, q _ _ (.same (.bl _) fun _ => rfl)⟩
    · exact wpAny_is_other (plain_of hx rx no) (vbl_ne hx rx no n) ⟨.bl false, H, I, rfl, q _ _ (.same (.bl _) fun _ => rfl)⟩
theorem o_isnot : OpR X (compareOp .IsNot) (r2 true X.K dIsNot) := by
  intro pins s σ H x y v u Q I rx ry ⟨P, dx, dy, d, hx, hy, hd, q⟩
  simp only [dIsNot, Option.map_eq_some_iff] at hd
  obtain ⟨b, hb, rfl⟩ := hd
  have no := isD_opq hb
  rcases isD_r hb with rfl | ⟨c, rfl⟩
  · refine op_notN pins s σ H x y v u Q I rx ry ⟨hy.non, ?_⟩
    rw [vnon hx no, ← isD_non hb]
    exact q _ _ (.same (.bl _) fun _ => rfl)
  · cases hy.bl
    cases ry
    rcases isD_bl hb with ⟨rfl, rfl⟩ | ⟨rfl, n⟩
    · cases hx.bl; cases rx
      exact wpAny_isNot_self rfl ⟨.bl false, H, I, rfl, q _ _ (.same (.bl _) fun _ => rfl)⟩
    · exact wpAny_isNot_other (plain_of hx rx no) (vbl_ne hx rx no n) ⟨.bl true, H, I, rfl, q _ _ (.same (.bl _) fun _ => rfl)⟩

/-! ### in, not in -/
def inD : D → D → Option Bool
  | x, .lst ds => if (okD x 64 && decide (0 < 64) && okDs ds 63) = true then some (ds.any fun z => deq z x) else none
  | x, .tup ds => if (okD x 64 && decide (0 < 64) && okDs ds 63) = true then some (ds.any fun z => deq z x) else none
  | .str [c], .str s => some (decide (c ∈ s))
  | _, _ => none
def dIn : List D → Option D
  | [x, y] => (inD x y).map .bl
  | _ => none
def dNotIn : List D → Option D
  | [x, y] => (inD x y).map fun b => .bl (!b)
  | _ => none
theorem any_py {x : D} {n m : Nat} (hx : okD x n = true) : ∀ (ds : List D), okDs ds m = true → ((pyDs ds).any fun y => PyData.eqv y (pyD x)) = ds.any fun z => deq z x
  | [], _ => by simp [pyDs]
  | d :: ds, h => by
    rw [okDs, Bool.and_eq_true] at h
    rw [pyDs, List.any_cons, List.any_cons, any_py hx ds h.2, py_eqv d x m n h.1 hx]
theorem ds_len : ∀ ds : List D, (pyDs ds).length = ds.length
  | [] => rfl
  | d :: ds => by rw [pyDs, List.length_cons, ds_len ds]; rfl
theorem in_room {A : Around} {x : D} {ds : List D} (hu : A.units + 65 < cLine) (hx : okD x 64 = true) : A.units + 1 + min (PyData.depthAll (pyDs ds)) (pyD x).depth < cLine := by
  have h1 := (py_lay x 64 hx).2
  have h2 : min (PyData.depthAll (pyDs ds)) (pyD x).depth ≤ (pyD x).depth := Nat.min_le_right _ _
  omega
theorem o_in (hu : X.A.units + 65 < cLine) : OpR X (compareOp .In) (r2 true X.K dIn) := by
  intro pins s σ H x y v u Q I rx ry ⟨P, dx, dy, d, hx, hy, hd, q⟩
  simp only [dIn, Option.map_eq_some_iff] at hd
  obtain ⟨b, hb, rfl⟩ := hd
  unfold inD at hb
  split at hb
  · rename_i ds
    split at hb
    · rename_i hc
      cases hb
      simp only [Bool.and_eq_true] at hc
      have hok : okD (.lst ds) 64 = true := by rw [okD, Bool.and_eq_true]; exact ⟨rfl, hc.2⟩
      obtain ⟨as, r1⟩ := Dp.reads I _ x v (RpT.dp _ 64 _ hc.1.1 hx) rx
      have h2 := RpT.dp _ 64 _ hok hy
      rw [pyD] at h2
      obtain ⟨bs, r2⟩ := Dp.reads I _ y u h2 ry
      refine SeqAt.in_list_reads r2 r1 (py_lays ds 63 hc.2).1 (py_lay _ 64 hc.1.1).1 (in_room hu hc.1.1) ?_
      rw [any_py hc.1.1 ds hc.2]
      exact ⟨.bl _, H, I, rfl, q _ _ (.same (.bl _) fun _ => rfl)⟩
    · cases hb
  · rename_i ds
    split at hb
    · rename_i hc
      cases hb
      simp only [Bool.and_eq_true] at hc
      have hok : okD (.tup ds) 64 = true := by rw [okD, Bool.and_eq_true]; exact ⟨rfl, hc.2⟩
      obtain ⟨as, r1⟩ := Dp.reads I _ x v (RpT.dp _ 64 _ hc.1.1 hx) rx
      have h2 := RpT.dp _ 64 _ hok hy
      rw [pyD] at h2
      obtain ⟨bs, r2⟩ := Dp.reads I _ y u h2 ry
      refine SeqAt.in_tuple_reads r2 r1 (py_lays ds 63 hc.2).1 (py_lay _ 64 hc.1.1).1 (in_room hu hc.1.1) ?_
      rw [any_py hc.1.1 ds hc.2]
      exact ⟨.bl _, H, I, rfl, q _ _ (.same (.bl _) fun _ => rfl)⟩
    · cases hb
  · rename_i c s'
    cases hb
    obtain ⟨x', rfl, ex⟩ := hx.str
    obtain ⟨y', rfl, ey⟩ := hy.str
    subst ey
    refine op_in_sign pins s σ H _ _ v u Q I rx ry ⟨c, y', ?_, rfl, q _ _ (.same (.bl _) fun _ => rfl)⟩
    rw [← str_eta x', ex]
  · cases hb
theorem o_notin (hu : X.A.units + 65 < cLine) : OpR X (compareOp .NotIn) (r2 true X.K dNotIn) := by
  intro pins s σ H x y v u Q I rx ry ⟨P, dx, dy, d, hx, hy, hd, q⟩
  simp only [dNotIn, Option.map_eq_some_iff] at hd
  obtain ⟨b, hb, rfl⟩ := hd
  unfold inD at hb
  split at hb
  · rename_i ds
    split at hb
    · rename_i hc
      cases hb
      simp only [Bool.and_eq_true] at hc
      have hok : okD (.lst ds) 64 = true := by rw [okD, Bool.and_eq_true]; exact ⟨rfl, hc.2⟩
      obtain ⟨as, r1⟩ := Dp.reads I _ x v (RpT.dp _ 64 _ hc.1.1 hx) rx
      have h2 := RpT.dp _ 64 _ hok hy
      rw [pyD] at h2
      obtain ⟨bs, r2⟩ := Dp.reads I _ y u h2 ry
      refine SeqAt.notIn_list_reads r2 r1 (py_lays ds 63 hc.2).1 (py_lay _ 64 hc.1.1).1 (in_room hu hc.1.1) ?_
      rw [any_py hc.1.1 ds hc.2]
      exact ⟨.bl _, H, I, rfl, q _ _ (.same (.bl _) fun _ => rfl)⟩
    · cases hb
  · rename_i ds
    split at hb
    · rename_i hc
      cases hb
      simp only [Bool.and_eq_true] at hc
      have hok : okD (.tup ds) 64 = true := by rw [okD, Bool.and_eq_true]; exact ⟨rfl, hc.2⟩
      obtain ⟨as, r1⟩ := Dp.reads I _ x v (RpT.dp _ 64 _ hc.1.1 hx) rx
      have h2 := RpT.dp _ 64 _ hok hy
      rw [pyD] at h2
      obtain ⟨bs, r2⟩ := Dp.reads I _ y u h2 ry
      refine SeqAt.notIn_tuple_reads r2 r1 (py_lays ds 63 hc.2).1 (py_lay _ 64 hc.1.1).1 (in_room hu hc.1.1) ?_
      rw [any_py hc.1.1 ds hc.2]
      exact ⟨.bl _, H, I, rfl, q _ _ (.same (.bl _) fun _ => rfl)⟩
    · cases hb
  · rename_i c s'
    cases hb
    obtain ⟨x', rfl, ex⟩ := hx.str
    obtain ⟨y', rfl, ey⟩ := hy.str
    subst ey
    refine op_notIn_sign pins s σ H _ _ v u Q I rx ry ⟨c, y', ?_, rfl, q _ _ (.same (.bl _) fun _ => rfl)⟩
    rw [← str_eta x', ex]
  · cases hb
end
end PL
end

section
set_option maxRecDepth 100000
set_option maxHeartbeats 3900000
/-! PV4: isinstance, index, slices, plain built-in calls. -/
namespace PL
open PySem Spec PyProof.Rows L2

/-! ### constants of the module, types -/
section
variable {X : Cx}
theorem evCst {v : V} {d : D} (h : ∀ H P, Rp X.K H P v d) {e : Expr} (hp : PE X e (tC v)) : PE X e (EvS X.K (eC d)) := hp.imp fun σ H Q ⟨S, ow, env, I, d', env', hm, k⟩ => by
  cases hm
  exact k S ow v H .refl I (.inl ⟨rfl, h _ _, fun z => by cases z⟩)
theorem e_glob {x : Str} {d : D} {pos : Pos} (hg : Gl X x) (h : ∃ v u, X.mg x = some u ∧ RelV v u ∧ ∀ H P, Rp X.K H P v d) (hd : (x == ("__debug__" : Str)) = false := by decide) : PE X (.Name x pos) (EvS X.K (eC d)) := by
  obtain ⟨v, u, hm, r, hr⟩ := h
  exact evCst hr (pe_glob hg hm r hd)
theorem e_ty {x : Str} {T : String} {pos : Pos} (hg : Gl X x) (hm : X.mg x = none) (hv : bootBuiltins x = some (.type T)) (hn : x ≠ "__name__" := by decide) (hd : (x == ("__debug__" : Str)) = false := by decide) :
    PE X (.Name x pos) (EvS X.K (eC (.opq (.ty T)))) := evCst (fun _ _ => .opq _) (pe_bltn (v := .ty T) hg hm hv rfl hn hd)
end

/-! ### isinstance -/
def tyD : D → Option String
  | .non => some "NoneType"
  | .bl _ => some "bool"
  | .int _ => some "int"
  | .str _ => some "str"
  | .tup _ => some "tuple"
  | .lst _ => some "list"
  | _ => none
def isiB (a T : String) : Option Bool :=
  if T = "int" then some (a == "int" || a == "bool")
  else if T = "bool" then some (a == "bool")
  else if T = "str" then some (a == "str")
  else if T = "tuple" then some (a == "tuple")
  else if T = "list" then some (a == "list")
  else none
def dIsi : List D → Option D
  | [x, .opq (.ty T)] => (tyD x).bind fun a => (isiB a T).map .bl
  | _ => none
theorem isiB_kit {d : D} {a T : String} {b : Bool} (ha : tyD d = some a) (h : isiB a T = some b) : kitB a T = some b := by
  have : a = "NoneType" ∨ a = "bool" ∨ a = "int" ∨ a = "str" ∨ a = "tuple" ∨ a = "list" := by
    cases d <;> cases ha <;> simp
  unfold isiB at h
  split at h
  · subst T; cases h; rcases this with rfl | rfl | rfl | rfl | rfl | rfl <;> decide +kernel
  split at h
  · subst T; cases h; rcases this with rfl | rfl | rfl | rfl | rfl | rfl <;> decide +kernel
  split at h
  · subst T; cases h; rcases this with rfl | rfl | rfl | rfl | rfl | rfl <;> decide +kernel
  split at h
  · subst T; cases h; rcases this with rfl | rfl | rfl | rfl | rfl | rfl <;> decide +kernel
  split at h
  · subst T; cases h; rcases this with rfl | rfl | rfl | rfl | rfl | rfl <;> decide +kernel
  · cases h
section
variable {X : Cx}
theorem tyx_tup {K : PySem.W.Frag} {H : Hp} {a : Addr} {vs : List V} (h : SqT K H a vs) : TyX K H (.ref a) (.type "tuple") := by
  rcases h with (h | ⟨ob, h⟩) | ⟨o, its, n, hk, hc, _⟩
  · exact .base (.tup h)
  · exact .fTuple h
  · exact .kTuple hk hc
theorem tyx_lst {K : PySem.W.Frag} {H : Hp} {a : Addr} {vs : List V} (h : SqL K H a vs) : TyX K H (.ref a) (.type "list") := by
  rcases h with (h | ⟨ob, h⟩) | ⟨o, its, n, hk, hc, _⟩
  · exact .base (.lst h)
  · exact .base (.frz h)
  · exact .kList hk hc
theorem tyx {K : PySem.W.Frag} {H : Hp} {P : Addr → Prop} {v : V} {d : D} {a : String} (h : RpT K H P v d) (ha : tyD d = some a) : TyX K H v (.type a) := by
  cases d with
  | non => cases ha; cases h.non; exact .base .non
  | bl b => cases ha; cases h.bl; exact .base (.bl _)
  | int b => cases ha; cases h.int; exact .base (.int _)
  | str b => cases ha; obtain ⟨x, rfl, _⟩ := h.str; exact .base (.str _)
  | tup ds => cases ha; obtain ⟨p, vs, rfl, s, _⟩ := h.tup; exact tyx_tup s
  | lst ds => cases ha; obtain ⟨p, vs, rfl, s, _⟩ := h.lst; exact tyx_lst s
  | dct _ => cases ha
  | opq _ => cases ha
theorem RpT.opq {K : PySem.W.Frag} {H : Hp} {P : Addr → Prop} {v w : V} (h : RpT K H P v (.opq w)) : v = w := by
  rcases h with h | ⟨a, o, _, _, r⟩
  · cases h with
    | opq => rfl
    | cell _ _ rc => cases rc
    | frz _ rc => cases rc
  · cases r
theorem o_isi : CallR X (.builtin "isinstance") (rL true X.K dIsi) := by
  intro pins s σ H xs us Q I r ⟨P, ds, d, hr, hd, q⟩
  unfold dIsi at hd
  split at hd
  · rename_i x T
    simp only [Option.bind_eq_some_iff, Option.map_eq_some_iff] at hd
    obtain ⟨a, h1, b, h2, rfl⟩ := hd
    cases hr with | cons r1 r2 => cases r2 with | cons r2 r3 =>
      cases r3
      cases r2.opq
      exact call_isi pins s σ H _ us Q I r ⟨_, _, .type a, .type T, b, rfl, .ty T, tyx r1 h1, kit_ty (isiB_kit h1 h2), q _ _ (.same (.bl _) fun _ => rfl)⟩
  · cases hd

/-! ### len, abs, max, min, int, divmod, sum, all, any -/
theorem rts1 {K : PySem.W.Frag} {H : Hp} {P : Addr → Prop} {vs : List V} {d : D} (h : RpTs K H P vs [d]) : ∃ v, vs = [v] ∧ RpT K H P v d := by
  cases h with | cons a b => cases b; exact ⟨_, rfl, a⟩
theorem rts2 {K : PySem.W.Frag} {H : Hp} {P : Addr → Prop} {vs : List V} {d e : D} (h : RpTs K H P vs [d, e]) : ∃ v w, vs = [v, w] ∧ RpT K H P v d ∧ RpT K H P w e := by
  cases h with | cons a b => cases b with | cons b c => cases c; exact ⟨_, _, rfl, a, b⟩
def dLen : List D → Option D
  | [.str s] => if s.length ≤ 16777216 then some (.int s.length) else none
  | [.tup ds] => some (.int ds.length)
  | [.lst ds] => some (.int ds.length)
  | _ => none
def dAbs : List D → Option D
  | [.int i] => some (.int (if i < 0 then -i else i))
  | _ => none
def dMax : List D → Option D
  | [.int i, .int j] => some (.int (if j > i then j else i))
  | [.lst ds] => (intsD ds).bind fun ns => ns.max?.map .int
  | _ => none
def dMin : List D → Option D
  | [.int i, .int j] => some (.int (if j < i then j else i))
  | [.lst ds] => (intsD ds).bind fun ns => ns.min?.map .int
  | _ => none
def dInt : List D → Option D
  | [.int i] => some (.int i)
  | [.bl b] => some (.int (if b then 1 else 0))
  | _ => none
def dDivmod : List D → Option D
  | [.int i, .int j] => if 0 < j ∧ j.natAbs < 1073741824 then some (.tup [.int (i / j), .int (i % j)]) else none
  | _ => none
def dSum : List D → Option D
  | [.lst ds] => (intsD ds).map fun ns => .int ns.sum
  | _ => none
def dAll : List D → Option D
  | [.lst ds] => (blsD ds).map fun ns => .bl (ns.all id)
  | _ => none
def dAny : List D → Option D
  | [.lst ds] => (blsD ds).map fun ns => .bl (ns.any id)
  | _ => none
def dTup : List D → Option D
  | [.lst ds] => some (.tup ds)
  | [.tup ds] => some (.tup ds)
  | _ => none
def dLst : List D → Option D
  | [.lst ds] => some (.lst ds)
  | [.tup ds] => some (.lst ds)
  | _ => none
theorem o_len : CallR X (.builtin "len") (rL true X.K dLen) := by
  intro pins s σ H xs us Q I r ⟨P, ds, d, hr, hd, q⟩
  unfold dLen at hd
  split at hd
  · split at hd
    · rename_i x hz
      cases hd
      obtain ⟨v, rfl, r1⟩ := rts1 hr
      obtain ⟨x', rfl, ex⟩ := r1.str
      subst ex
      refine call_len pins s σ H _ us Q I r ⟨_, x'.length, rfl, ⟨?_, rfl⟩, ?_⟩
      · rw [str_len, sizeLine_eq]; exact hz
      · rw [str_len]; exact q _ _ (.same (.int _) fun _ => rfl)
    · cases hd
  · cases hd
    obtain ⟨v, rfl, r1⟩ := rts1 hr
    obtain ⟨a, vs, rfl, sq, l⟩ := r1.tup
    exact call_len pins s σ H _ us Q I r ⟨_, vs.length, rfl, .inr ⟨_, sq, rfl⟩, by rw [l.length]; exact q _ _ (.same (.int _) fun _ => rfl)⟩
  · cases hd
    obtain ⟨v, rfl, r1⟩ := rts1 hr
    obtain ⟨a, vs, rfl, sq, l⟩ := r1.lst
    exact call_len pins s σ H _ us Q I r ⟨_, vs.length, rfl, .inl ⟨_, sq, rfl⟩, by rw [l.length]; exact q _ _ (.same (.int _) fun _ => rfl)⟩
  · cases hd
theorem o_abs : CallR X (.builtin "abs") (rL true X.K dAbs) := by
  intro pins s σ H xs us Q I r ⟨P, ds, d, hr, hd, q⟩
  unfold dAbs at hd
  split at hd
  · cases hd
    obtain ⟨v, rfl, r1⟩ := rts1 hr
    cases r1.int
    exact call_abs pins s σ H _ us Q I r ⟨_, rfl, q _ _ (.same (.int _) fun _ => rfl)⟩
  · cases hd
theorem o_int : CallR X (.type "int") (rL true X.K dInt) := by
  intro pins s σ H xs us Q I r ⟨P, ds, d, hr, hd, q⟩
  unfold dInt at hd
  split at hd
  · cases hd
    obtain ⟨v, rfl, r1⟩ := rts1 hr
    cases r1.int
    exact call_int1 pins s σ H _ us Q I r (.inl ⟨_, rfl, q _ _ (.same (.int _) fun _ => rfl)⟩)
  · cases hd
    obtain ⟨v, rfl, r1⟩ := rts1 hr
    cases r1.bl
    exact call_int1 pins s σ H _ us Q I r (.inr ⟨_, rfl, q _ _ (.same (.int _) fun _ => rfl)⟩)
  · cases hd
theorem max?_mem {ns : List Int} {m : Int} (h : ns.max? = some m) : 0 < ns.length ∧ ∀ k, k ∈ ns → (∀ y, y ∈ ns → y ≤ k) → k = m := by
  have h1 := List.max?_eq_some_iff.mp h
  refine ⟨List.length_pos_of_mem h1.1, fun k hk hy => ?_⟩
  have a := h1.2 k hk
  have b := hy m h1.1
  omega
theorem min?_mem {ns : List Int} {m : Int} (h : ns.min? = some m) : 0 < ns.length ∧ ∀ k, k ∈ ns → (∀ y, y ∈ ns → k ≤ y) → k = m := by
  have h1 := List.min?_eq_some_iff.mp h
  refine ⟨List.length_pos_of_mem h1.1, fun k hk hy => ?_⟩
  have a := h1.2 k hk
  have b := hy m h1.1
  omega
theorem o_max (hc : X.calm = true) : CallR X (.builtin "max") (rL true X.K dMax) := by
  intro pins s σ H xs us Q I r ⟨P, ds, d, hr, hd, q⟩
  unfold dMax at hd
  split at hd
  · cases hd
    obtain ⟨v, w, rfl, r1, r2⟩ := rts2 hr
    cases r1.int
    cases r2.int
    exact call_max2 hc pins s σ H _ us Q I r ⟨_, _, rfl, q _ _ (.same (.int _) fun _ => rfl)⟩
  · simp only [Option.bind_eq_some_iff, Option.map_eq_some_iff] at hd
    obtain ⟨ns, h1, m, h2, rfl⟩ := hd
    obtain ⟨v, rfl, r1⟩ := rts1 hr
    obtain ⟨a, vs, rfl, sq, l⟩ := r1.lst
    rw [intsD_eq h1] at l
    rw [l.ints] at sq
    have hm := max?_mem h2
    exact cr_max hc pins s σ H _ us Q I r ⟨a, ns, rfl, sq, hm.1, fun k hk hy => by rw [hm.2 k hk hy]; exact q _ _ (.same (.int _) fun _ => rfl)⟩
  · cases hd
theorem o_min (hc : X.calm = true) : CallR X (.builtin "min") (rL true X.K dMin) := by
  intro pins s σ H xs us Q I r ⟨P, ds, d, hr, hd, q⟩
  unfold dMin at hd
  split at hd
  · cases hd
    obtain ⟨v, w, rfl, r1, r2⟩ := rts2 hr
    cases r1.int
    cases r2.int
    exact call_min2 hc pins s σ H _ us Q I r ⟨_, _, rfl, q _ _ (.same (.int _) fun _ => rfl)⟩
  · simp only [Option.bind_eq_some_iff, Option.map_eq_some_iff] at hd
    obtain ⟨ns, h1, m, h2, rfl⟩ := hd
    obtain ⟨v, rfl, r1⟩ := rts1 hr
    obtain ⟨a, vs, rfl, sq, l⟩ := r1.lst
    rw [intsD_eq h1] at l
    rw [l.ints] at sq
    have hm := min?_mem h2
    exact cr_min hc pins s σ H _ us Q I r ⟨a, ns, rfl, sq, hm.1, fun k hk hy => by rw [hm.2 k hk hy]; exact q _ _ (.same (.int _) fun _ => rfl)⟩
  · cases hd
theorem o_sum (hc : X.calm = true) : CallR X (.builtin "sum") (rL true X.K dSum) := by
  intro pins s σ H xs us Q I r ⟨P, ds, d, hr, hd, q⟩
  unfold dSum at hd
  split at hd
  · simp only [Option.map_eq_some_iff] at hd
    obtain ⟨ns, h1, rfl⟩ := hd
    obtain ⟨v, rfl, r1⟩ := rts1 hr
    obtain ⟨a, vs, rfl, sq, l⟩ := r1.lst
    rw [intsD_eq h1] at l
    rw [l.ints] at sq
    exact cr_sum hc pins s σ H _ us Q I r ⟨a, ns, rfl, sq, q _ _ (.same (.int _) fun _ => rfl)⟩
  · cases hd
theorem o_all (hc : X.calm = true) : CallR X (.builtin "all") (rL true X.K dAll) := by
  intro pins s σ H xs us Q I r ⟨P, ds, d, hr, hd, q⟩
  unfold dAll at hd
  split at hd
  · simp only [Option.map_eq_some_iff] at hd
    obtain ⟨ns, h1, rfl⟩ := hd
    obtain ⟨v, rfl, r1⟩ := rts1 hr
    obtain ⟨a, vs, rfl, sq, l⟩ := r1.lst
    rw [blsD_eq h1] at l
    rw [l.bls] at sq
    exact cr_all hc pins s σ H _ us Q I r ⟨a, ns, rfl, sq, q _ _ (.same (.bl _) fun _ => rfl)⟩
  · cases hd
theorem o_any (hc : X.calm = true) : CallR X (.builtin "any") (rL true X.K dAny) := by
  intro pins s σ H xs us Q I r ⟨P, ds, d, hr, hd, q⟩
  unfold dAny at hd
  split at hd
  · simp only [Option.map_eq_some_iff] at hd
    obtain ⟨ns, h1, rfl⟩ := hd
    obtain ⟨v, rfl, r1⟩ := rts1 hr
    obtain ⟨a, vs, rfl, sq, l⟩ := r1.lst
    rw [blsD_eq h1] at l
    rw [l.bls] at sq
    exact cr_any hc pins s σ H _ us Q I r ⟨a, ns, rfl, sq, q _ _ (.same (.bl _) fun _ => rfl)⟩
  · cases hd
theorem o_divmod : CallR X (.builtin "divmod") (rL true X.K dDivmod) := by
  intro pins s σ H xs us Q I r ⟨P, ds, d, hr, hd, q⟩
  unfold dDivmod at hd
  split at hd
  · split at hd
    · rename_i i j hc
      cases hd
      obtain ⟨v, w, rfl, r1, r2⟩ := rts2 hr
      cases r1.int
      cases r2.int
      refine call_divmod pins s σ H _ us Q I r ⟨_, _, rfl, ⟨hc.1, by omega⟩, fun p hp => q _ _ (.newT hp (.cons (.int _) (.cons (.int _) .nil)))⟩
    · cases hd
  · cases hd
theorem o_tup : CallR X (.type "tuple") (rL true X.K dTup) := by
  intro pins s σ H xs us Q I r ⟨P, ds, d, hr, hd, q⟩
  unfold dTup at hd
  split at hd
  · cases hd
    obtain ⟨v, rfl, r1⟩ := rts1 hr
    obtain ⟨a, vs, rfl, sq, l⟩ := r1.lst
    exact call_tuple_of pins s σ H _ us Q I r ⟨a, vs, rfl, .inl ⟨sq, fun p hp => q _ _ (.newT hp l)⟩⟩
  · cases hd
    obtain ⟨v, rfl, r1⟩ := rts1 hr
    obtain ⟨a, vs, rfl, sq, l⟩ := r1.tup
    exact call_tuple_of pins s σ H _ us Q I r ⟨a, vs, rfl, .inr ⟨sq, q _ _ (.same (.tup sq l) fun _ => rfl)⟩⟩
  · cases hd
theorem o_lst : CallR X (.type "list") (rL true X.K dLst) := by
  intro pins s σ H xs us Q I r ⟨P, ds, d, hr, hd, q⟩
  unfold dLst at hd
  split at hd
  · cases hd
    obtain ⟨v, rfl, r1⟩ := rts1 hr
    obtain ⟨a, vs, rfl, sq, l⟩ := r1.lst
    exact call_list_of pins s σ H _ us Q I r ⟨a, vs, rfl, .inl sq, fun p hp => q _ _ (.newC hp (.lst l))⟩
  · cases hd
    obtain ⟨v, rfl, r1⟩ := rts1 hr
    obtain ⟨a, vs, rfl, sq, l⟩ := r1.tup
    exact call_list_of pins s σ H _ us Q I r ⟨a, vs, rfl, .inr sq, fun p hp => q _ _ (.newC hp (.lst l))⟩
  · cases hd
end


/-! ### index -/
def dIx : List D → Option D
  | [.lst ds, .int i] => atI ds i
  | [.tup ds, .int i] => atI ds i
  | [.str s, .int i] => if s.length ≤ 16777216 then (atI s i).map fun c => .str [c] else none
  | _ => none
theorem atI_rp {K : PySem.W.Frag} {H : Hp} {P : Addr → Prop} {vs : List V} {ds : List D} {i : Int} {d : D} (l : RpL K H P vs ds) (h : atI ds i = some d) : ∃ v, atI vs i = some v ∧ Rp K H P v d := by
  unfold atI at h ⊢
  rw [l.length]
  cases e : ixN ds.length i with
  | none => rw [e] at h; cases h
  | some j => rw [e] at h; exact l.get h
section
variable {X : Cx}
theorem o_ix : IxR X (r2 false X.K dIx) := by
  intro value slice pins s σ H x y v u Q I rx ry ⟨P, dx, dy, d, hx, hy, hd, q⟩ hs
  unfold dIx at hd
  split at hd
  · rename_i ds i e; cases e
    cases hy.int
    obtain ⟨a, vs, rfl, sq, l⟩ := hx.lst
    obtain ⟨w, hw, rw'⟩ := atI_rp l hd
    exact ix_list value slice pins s σ H _ _ v u Q I rx ry ⟨a, vs, i, w, rfl, rfl, sq, hw, q _ _ (.same rw' fun z => by cases z)⟩ hs
  · rename_i ds i e; cases e
    cases hy.int
    obtain ⟨a, vs, rfl, sq, l⟩ := hx.tup
    obtain ⟨w, hw, rw'⟩ := atI_rp l hd
    exact ix_tup value slice pins s σ H _ _ v u Q I rx ry ⟨a, vs, i, w, rfl, rfl, sq, hw, q _ _ (.same rw' fun z => by cases z)⟩ hs
  · rename_i t i e; cases e
    split at hd
    · rename_i hz
      rw [Option.map_eq_some_iff] at hd
      obtain ⟨c, hc, rfl⟩ := hd
      cases hy.int
      obtain ⟨x', rfl, ex⟩ := hx.str
      subst ex
      exact ix_str value slice pins s σ H _ _ v u Q I rx ry ⟨x', i, c, rfl, rfl, by rw [str_len, sizeLine_eq]; exact hz, hc, q _ _ (.same (.strOf [c]) fun z => by cases z)⟩ hs
    · cases hd
  · cases hd
end

/-! ### slices -/
def cutL {α : Type} (xs : List α) (lo hi : Option Int) : List α := (xs.drop (HT.sIx xs.length 0 lo)).take (HT.sIx xs.length xs.length hi - HT.sIx xs.length 0 lo)
def dSl : D → Option Int → Option Int → Option D
  | .lst ds, lo, hi => some (.lst (cutL ds lo hi))
  | .tup ds, lo, hi => some (.tup (cutL ds lo hi))
  | .str s, lo, hi => if s.length ≤ 16777216 then some (.str (cutL s lo hi)) else none
  | _, _, _ => none
theorem cut_rp {K : PySem.W.Frag} {H : Hp} {P : Addr → Prop} {vs : List V} {ds : List D} (lo hi : Option Int) (l : RpL K H P vs ds) : RpL K H P (cutV vs lo hi) (cutL ds lo hi) := by
  unfold cutV cutL
  rw [l.length]
  exact (l.drop _).take _
theorem cut_whole {α : Type} {xs : List α} {lo hi : Option Int} (h : HT.sIx xs.length 0 lo = 0 ∧ HT.sIx xs.length xs.length hi = xs.length) : cutL xs lo hi = xs := by
  unfold cutL
  rw [h.1, h.2, List.drop_zero, Nat.sub_zero, List.take_length]
section
variable {X : Cx}
theorem o_sl : SlR X (rS true X.K dSl) := by
  intro pins s σ H x v vl vu lo hi sl Q I rx hs pl pu ⟨P, dx, d, hx, hd, q⟩
  cases dx with
  | lst ds =>
    cases hd
    obtain ⟨a, vs, rfl, sq, l⟩ := hx.lst
    exact sl_list pins s σ H _ v vl vu lo hi sl Q I rx hs pl pu ⟨a, vs, rfl, sq, fun p hp => q _ _ (.newC hp (.lst (cut_rp lo hi l)))⟩
  | tup ds =>
    cases hd
    obtain ⟨a, vs, rfl, sq, l⟩ := hx.tup
    refine sl_tupA pins s σ H _ v vl vu lo hi sl Q I rx hs pl pu ⟨a, vs, rfl, sq, fun hw => ?_, fun _ p hp => q _ _ (.newT hp (cut_rp lo hi l))⟩
    rw [l.length] at hw
    rw [cut_whole hw] at q
    exact q _ _ (.same (.tup sq l) fun _ => rfl)
  | str t =>
    simp only [dSl] at hd
    split at hd
    · rename_i hz
      cases hd
      obtain ⟨x', rfl, ex⟩ := hx.str
      subst ex
      refine sl_str pins s σ H _ v vl vu lo hi sl Q I rx hs pl pu ⟨x', rfl, by rw [str_len, sizeLine_eq]; exact hz, q _ _ (.same (.strEq ?_) fun _ => rfl)⟩
      unfold cutS cutL
      rw [str_len]
    · cases hd
  | _ => cases hd
end

/-! ### x[::-1] -/
theorem fm_map {α β : Type} (f : α → Option β) (g : α → β) : ∀ l : List α, (∀ m ∈ l, f m = some (g m)) → l.filterMap f = l.map g
  | [], _ => rfl
  | a :: l, h => by
    rw [List.filterMap_cons, h a List.mem_cons_self, List.map_cons, fm_map f g l fun m hm => h m (List.mem_cons_of_mem _ hm)]
theorem rev_pick (xs : Array Value) : ((List.range xs.size).filterMap fun (m : Nat) => xs[(((xs.size : Int) - 1) + (m : Int) * (-1)).toNat]?).toArray = xs.toList.reverse.toArray := by
  congr 1
  have e : ∀ m ∈ List.range xs.size, xs[(((xs.size : Int) - 1) + (m : Int) * (-1)).toNat]? = some (xs.toList.reverse.getD m default) := by
    intro m hm
    rw [List.mem_range] at hm
    have e1 : (((xs.size : Int) - 1) + (m : Int) * (-1)).toNat = xs.size - 1 - m := by omega
    have hl : m < xs.toList.reverse.length := by simpa using hm
    rw [e1, List.getD_eq_getElem?_getD, List.getElem?_eq_getElem hl, List.getElem_reverse, Option.getD_some, Array.getElem?_eq_getElem (by omega)]
    simp
  rw [fm_map _ _ _ e]
  apply List.ext_getElem?
  intro i
  by_cases hi : i < xs.size
  · rw [List.getElem?_map, List.getElem?_range hi, Option.map_some, List.getD_eq_getElem?_getD, List.getElem?_eq_getElem (l := xs.toList.reverse) (by simpa using hi)]
    rfl
  · rw [List.getElem?_eq_none (by simpa using hi), List.getElem?_eq_none (by simpa using hi)]

section
variable {prog : Program} {w : World} {A : Around} {E : Value → Shared → Prop} {s : Shared}
theorem sliceApplied_rev {cut : Addr} {vl vu vk : Value} {n : Nat} {Q : Int × Int × Nat → Shared → Prop} (hs : s.heap.IsSliceOf cut vl vu vk) (pl : IsPart vl none) (pu : IsPart vu none) (pk : IsPart vk (some (-1)))
    (h : Q ((n : Int) - 1, -1, n) s) : wpAny (model prog w) A (Builtin.Slice.sliceApplied (.ref cut) (pure (n : Int))) Q E s := by
  obtain ⟨ob, hob, hcl, hdt⟩ := id hs
  unfold Builtin.Slice.sliceApplied
  unfold Builtin.Slice.sliceFields
  refine wpAny_bind (wpAny_bind (wpAny_field hob hdt (x := vl) rfl (wpAny_bind (wpAny_field hob hdt (x := vu) rfl (wpAny_bind (wpAny_field hob hdt (x := vk) rfl (wpAny_pure ?_)))))))
  refine wpAny_bind (HT.slicePart_ pk ?_)
  show wpAny _ _ (if ((-1 : Int) == 0) = true then _ else _) _ _ s
  rw [if_neg (by decide)]
  refine wpAny_bind (HT.slicePart_ pl (wpAny_bind (HT.slicePart_ pu (wpAny_bind (wpAny_pure ?_)))))
  show wpAny _ _ (match Builtin.Slice.sliceAdjust none none (-1) (n : Int) with | (lo, hi) => pure (lo, (-1 : Int), Builtin.Slice.slicePlaces lo hi (-1))) _ _ s
  have e : Builtin.Slice.sliceAdjust none none (-1) (n : Int) = ((n : Int) - 1, -1) := by
    simp [Builtin.Slice.sliceAdjust]
  rw [e]
  show wpAny _ _ (pure ((n : Int) - 1, (-1 : Int), Builtin.Slice.slicePlaces ((n : Int) - 1) (-1) (-1))) _ _ s
  have e2 : Builtin.Slice.slicePlaces ((n : Int) - 1) (-1) (-1) = n := by
    unfold Builtin.Slice.slicePlaces
    simp
    split <;> omega
  rw [e2]
  exact wpAny_pure h
theorem getItem_tuple_rev {ta cut : Addr} {xs : Array Value} {vl vu vk : Value} {Q : Value → Shared → Prop} (tup : IsTup s.heap ta xs) (hs : s.heap.IsSliceOf cut vl vu vk) (pl : IsPart vl none) (pu : IsPart vu none) (pk : IsPart vk (some (-1)))
    (h : Q (.ref s.heap.objs.size) { s with heap := s.heap.push { cls := .type "tuple", data := .seq xs.toList.reverse.toArray } })
    (hxz : xs.size ≤ sizeLine) : wpAny (model prog w) A (getItem (.ref ta) (.ref cut)) Q E s := by
  have hsmall : sizeOk (.seq xs.toList.reverse.toArray) := by
    show xs.toList.reverse.toArray.size ≤ sizeLine
    rw [List.size_toArray, List.length_reverse, Array.length_toList]
    exact hxz
  obtain ⟨ob, hob, hcl, hdt⟩ := id hs
  have hty : s.TypeIs (.ref cut) "slice" := ⟨ob, hob, hcl⟩
  unfold getItem
  try (with_reducible refine wpAny_holding ?_)
  try (refine wpAny_bind (wpAny_pure ?_))
  refine wpAny_bind (wpAny_sequenceKey tup.typeIs (by decide) ?_)
  refine wpAny_bind (wpAny_callSpecial?_slot (name := Str.ofString "__getitem__") tup.typeIs PyProof.Rows.slot_tuple_getitem
    (wpAny_call_entry PyProof.Rows.slot_tuple_getitem tup.typeIs entry_tuple_getitem ?_ (args_tuple_getitem _ _)))
  show wpAny _ _ (Builtin.Tuple.tupleItemsOf (.ref ta) >>= _) _ _ s
  refine wpAny_bind (tupleItemsOf_ tup ?_)
  refine wpAny_bind (wpAny_typeOf hty ?_)
  rw [if_pos (by decide)]
  refine wpAny_bind (sliceApplied_rev hs pl pu pk ?_)
  have hno : ¬ ((((xs.size : Int) - 1) == 0 && (-1 : Int) == 1 && xs.size == xs.size) = true) := by
    intro z
    rw [Bool.and_eq_true, Bool.and_eq_true] at z
    exact absurd (eq_of_beq z.1.2) (by decide)
  show wpAny _ _ (if (((xs.size : Int) - 1) == 0 && (-1 : Int) == 1 && xs.size == xs.size) = true then _ else _) _ _ s
  rw [if_neg hno, rev_pick]
  first
    | exact wpAny_bind (m := Builtin.Tuple.tupleExact _) (wpAny_newObj_type (wpAny_pure ⟨_, rfl, wpAny_pure h⟩) hsmall)
    | exact wpAny_bind (m := Builtin.Tuple.tupleExact _) (wpAny_newObj_type (wpAny_bind (wpAny_pure (wpAny_pure ⟨_, rfl, wpAny_pure h⟩))) hsmall)
    | exact wpAny_bind (wpAny_bind (m := Builtin.Tuple.tupleExact _) (wpAny_newObj_type (wpAny_pure (wpAny_pure ⟨_, rfl, wpAny_pure h⟩)) hsmall))
    | exact wpAny_bind (wpAny_bind (m := Builtin.Tuple.tupleExact _) (wpAny_newObj_type (wpAny_pure ⟨_, rfl, wpAny_pure h⟩) hsmall))
end
section
variable {X : Cx} {pos : Pos}
def tRevT (K : PySem.W.Frag) (te : TE) : TE := fun σ H Q => te σ H fun x H1 => ∃ a xs, x = .ref a ∧ SqT K H1 a xs ∧ ∀ p, H1 p = none → Q (.ref p) (upd H1 p (.tup xs.reverse))
theorem pe_revT {e : Expr} {te : TE} {k : Nat} {p1 p2 p3 pos : Pos} (he : PE X e te) : PE X (.Subscript e (.Slice none none (some (.UnaryOp .USub (.Constant (.int 1) k p1) p2)) p3) pos) (tRevT X.K te) := by
  refine ⟨fun pins s σ H Q I0 hw => Subscript_ (thn (he.run pins s σ H _ I0 hw) fun v t1 ⟨x, G1, J1, rv, way⟩ => ?_)⟩
  have back : PO X (some (.UnaryOp .USub (.Constant (.int 1) k p1) p2)) (tPart (tUn (rU fun i => .int (-i)) (tC (.int 1)))) := po_some (pe_un un_neg pe_int)
  refine wpAny_Slice (thn (po_none.run pins t1 σ G1 (fun o G2 => o = none ∧ G2 = G1) J1 ⟨rfl, rfl⟩) fun va t2 ⟨l, G2, J2, pa, ea, eg⟩ => ?_)
  subst ea eg
  refine thn (po_none.run pins t2 σ G2 (fun o G3 => o = none ∧ G3 = G2) J2 ⟨rfl, rfl⟩) fun vb t3 ⟨u, G3, J3, pb, eb, eg⟩ => ?_
  subst eb eg
  refine thn (back.run pins t3 σ G3 (fun o G4 => o = some (-1) ∧ G4 = G3) J3 ⟨1, rfl, -1, rfl, rfl, rfl⟩) fun vc t4 ⟨o, G4, J4, pc, ec, eg⟩ => ?_
  subst ec eg
  obtain ⟨a, xs, ex, hx, q⟩ := way
  subst ex
  cases rv
  have J5 : Inv X pins σ G4 { t4 with heap := t4.heap.push { cls := .type "slice", data := .fields #[va, vb, vc] } } := J4.kept (t' := t4.toks) fun _ _ z => Heap.get?_push_of_some _ z
  obtain ⟨us, rel, tup, small⟩ := J5.tuple hx
  have len := rel.length
  show wpAny (model X.prog X.w) X.A (subscriptTail e (.Slice none none (some (.UnaryOp .USub (.Constant (.int 1) k p1) p2)) p3) (.ref a) (.ref t4.heap.objs.size)) (EP X pins σ Q) X.xe { t4 with heap := t4.heap.push { cls := .type "slice", data := .fields #[va, vb, vc] } }
  refine tail_any (ops := [.ref a, .ref t4.heap.objs.size]) tup.typeIs (PyProof.Rows.slot_tuple_getitem.lookup) ?_ (by with_unfolding_all rfl)
  refine getItem_tuple_rev tup (Heap.IsSliceOf.new _ va vb vc) pa pb pc ?_ (by rw [List.size_toArray]; omega)
  refine ⟨.ref _, _, J5.laid (t' := t4.toks) (o := .tup xs.reverse) (fun _ _ z => Heap.get?_push_of_some _ z) (Nat.le_refl _) ?_, rfl, q _ (J5.hok.fresh (Nat.le_refl _))⟩
  exact ⟨by rw [List.length_reverse]; exact small, _, rel.reverse, IsTup.new _ _⟩
theorem _root_.L2.PE.or {X : Cx} {e : Expr} {t t' : TE} (h : PE X e t) (h' : PE X e t') : PE X e (fun σ H Q => t σ H Q ∨ t' σ H Q) :=
  ⟨fun pins s σ H Q I q => q.elim (h.run pins s σ H Q I) (h'.run pins s σ H Q I)⟩
def dRev : D → Option D
  | .lst ds => some (.lst ds.reverse)
  | .tup ds => some (.tup ds.reverse)
  | _ => none
def eRev (m : EM) : EM := fun env => (m env).bind fun (d, e) => (dRev d).map fun r => (r, e)
theorem e_rev {e : Expr} {m : EM} {k : Nat} {p1 p2 p3 pos : Pos} (he : PE X e (EvS X.K m)) : PE X (.Subscript e (.Slice none none (some (.UnaryOp .USub (.Constant (.int 1) k p1) p2)) p3) pos) (EvF X.K (eRev m)) :=
  ((pe_revL he).or (pe_revT he)).imp fun σ H Q ⟨S, ow, env, I, d, env', hm, k⟩ => by
    simp only [eRev, Option.bind_eq_some_iff, Option.map_eq_some_iff] at hm
    obtain ⟨⟨d1, e1⟩, h1, r, h2, h3⟩ := hm
    cases h3
    cases d1 with
    | lst ds =>
      cases h2
      refine .inl ⟨S, ow, env, I, _, _, h1, fun S' ow' v H' st J f => ?_⟩
      obtain ⟨rfl, r⟩ := f.shared
      obtain ⟨a, vs, rfl, sq, l⟩ := RpT.lst (.inl r)
      exact ⟨a, vs, rfl, sq, fun p hp => Res.go (fr := true) (.newC hp (.lst l.reverse)) J st k⟩
    | tup ds =>
      cases h2
      refine .inr ⟨S, ow, env, I, _, _, h1, fun S' ow' v H' st J f => ?_⟩
      obtain ⟨rfl, r⟩ := f.shared
      obtain ⟨a, vs, rfl, sq, l⟩ := RpT.tup (.inl r)
      exact ⟨a, vs, rfl, sq, fun p hp => Res.go (fr := true) (.newT hp l.reverse) J st k⟩
    | _ => cases h2

/-! ### list(range(..)), tuple(range(..)) -/
def eRg1 (mk : List D → D) (m : EM) : EM := fun env => (m env).bind fun (d, e) => (asI d).bind fun n => if n.natAbs ≤ 16777216 then some (mk (rngD 0 n.toNat), e) else none
def eRg2 (mk : List D → D) (m n : EM) : EM := fun env => (m env).bind fun (d, e) => (asI d).bind fun lo => (n e).bind fun (d', e') => (asI d').bind fun hi =>
  if lo.natAbs < 2 ^ 62 ∧ hi.natAbs < 2 ^ 62 ∧ (hi - lo).natAbs ≤ 16777216 then some (mk (rngD lo (hi - lo).toNat), e') else none
theorem rg_rp {K : PySem.W.Frag} {H : Hp} {P : Addr → Prop} : ∀ (n : Nat) (lo : Int) (f : Nat → Int), (∀ i, f i = lo + i) → RpL K H P ((List.range n).map fun i => V.int (f i)) (rngD lo n)
  | 0, _, _, _ => .nil
  | n + 1, lo, f, h => by
    rw [List.range_succ_eq_map, List.map_cons, List.map_map, rngD]
    have e0 : f 0 = lo := by rw [h]; simp
    refine .cons (by rw [e0]; exact .int lo) ?_
    exact rg_rp n (lo + 1) (fun i => f (i + 1)) fun i => by rw [h]; omega
theorem rgV_rp {K : PySem.W.Frag} {H : Hp} {P : Addr → Prop} (a b : Int) : RpL K H P (rgV a b) (rngD a (b - a).toNat) := rg_rp _ _ _ fun _ => rfl
theorem e_listRg1 {a : Expr} {m : EM} {p p' pos pos' : Pos} (hc : X.calm = true) (hl : Gl X "list") (ml : X.mg "list" = none) (hg : Gl X "range") (hm : X.mg "range" = none) (ha : PE X a (EvS X.K m))
    (na : starEach [a] X.env = (false, eval a X.env) :: starEach [] X.env := by rfl)
    (nb : starEach [Expr.Call (.Name "range" p') [a] [] pos'] X.env = (false, eval (Expr.Call (.Name "range" p') [a] [] pos') X.env) :: starEach [] X.env := by rfl) :
    PE X (.Call (.Name "list" p) [.Call (.Name "range" p') [a] [] pos'] [] pos) (EvF X.K (eRg1 .lst m)) :=
  (pe_listRg hc hl ml (prg_1 hg hm ha na) nb).imp fun σ H Q ⟨S, ow, env, I, d, env', hm, k⟩ => by
    simp only [eRg1, Option.bind_eq_some_iff] at hm
    obtain ⟨⟨d1, e1⟩, h1, n, h2, h3⟩ := hm
    cases asI_some h2
    split at h3
    · rename_i hz
      cases h3
      refine ⟨S, ow, env, I, _, _, h1, fun S' ow' v H' st J f => ?_⟩
      obtain ⟨rfl, r⟩ := f.shared
      refine ⟨n, r.int_inv, ⟨by decide, by decide, by omega, by omega, by omega⟩, fun p hp => ?_⟩
      have := rgV_rp (K := X.K) (H := H') (P := Av S'.A ow') 0 n
      rw [Int.sub_zero] at this
      exact Res.go (fr := true) (.newC hp (.lst this)) J st k
    · cases h3
theorem e_tupRg1 {a : Expr} {m : EM} {p p' pos pos' : Pos} (hc : X.calm = true) (hl : Gl X "tuple") (ml : X.mg "tuple" = none) (hg : Gl X "range") (hm : X.mg "range" = none) (ha : PE X a (EvS X.K m))
    (na : starEach [a] X.env = (false, eval a X.env) :: starEach [] X.env := by rfl)
    (nb : starEach [Expr.Call (.Name "range" p') [a] [] pos'] X.env = (false, eval (Expr.Call (.Name "range" p') [a] [] pos') X.env) :: starEach [] X.env := by rfl) :
    PE X (.Call (.Name "tuple" p) [.Call (.Name "range" p') [a] [] pos'] [] pos) (EvF X.K (eRg1 .tup m)) :=
  (pe_tupRg hc hl ml (prg_1 hg hm ha na) nb).imp fun σ H Q ⟨S, ow, env, I, d, env', hm, k⟩ => by
    simp only [eRg1, Option.bind_eq_some_iff] at hm
    obtain ⟨⟨d1, e1⟩, h1, n, h2, h3⟩ := hm
    cases asI_some h2
    split at h3
    · rename_i hz
      cases h3
      refine ⟨S, ow, env, I, _, _, h1, fun S' ow' v H' st J f => ?_⟩
      obtain ⟨rfl, r⟩ := f.shared
      refine ⟨n, r.int_inv, ⟨by decide, by decide, by omega, by omega, by omega⟩, fun p hp => ?_⟩
      have := rgV_rp (K := X.K) (H := H') (P := Av S'.A ow') 0 n
      rw [Int.sub_zero] at this
      exact Res.go (fr := true) (.newT hp this) J st k
    · cases h3

/-! ### sep.join(xs), n.bit_length() -/
def dJoin : D → D → Option D
  | .str sep, .lst ds => (strsD ds).bind fun ys => if (ys.map List.length).sum + ys.length * sep.length ≤ 16777216 then some (.str (TL.joinL sep ys)) else none
  | _, _ => none
def eJoin (o m : EM) : EM := fun env => (o env).bind fun (s, e1) => (m e1).bind fun (d, e2) => (dJoin s d).map fun r => (r, e2)

theorem str_sum (ys : List Str) : (ys.map (·.length)).sum = ((ys.map (·.cps.toList)).map List.length).sum := by
  congr 1
  rw [List.map_map]
  exact List.map_congr_left fun x _ => str_len x
theorem e_join {o e : Expr} {mo m : EM} {apos pos : Pos} (ho : PE X o (EvS X.K mo)) (he : PE X e (EvS X.K m)) (hs : starEach [e] X.env = [(false, eval e X.env)] := by rfl) (hbase : attributeBase o "join" X.env (eval o X.env) = eval o X.env := by rfl) (hline : (apos.endLine == pos.line) = true := by rfl) :
    PE X (.Call (.Attribute o "join" apos) [e] [] pos) (EvF X.K (eJoin mo m)) :=
  (pe_join ho he hs hbase hline).imp fun σ H Q ⟨S, ow, env, I, d, env', hm, k⟩ => by
    simp only [eJoin, Option.bind_eq_some_iff, Option.map_eq_some_iff] at hm
    obtain ⟨⟨d1, e1⟩, h1, ⟨d2, e2⟩, h2, r, h3, h4⟩ := hm
    cases h4
    cases d1 with
    | str sep =>
      cases d2 with
      | lst ds =>
        simp only [dJoin, Option.bind_eq_some_iff] at h3
        obtain ⟨ys, h5, h6⟩ := h3
        split at h6
        · rename_i hz
          cases h6
          refine ⟨S, ow, env, I, _, _, h1, fun S' ow' v H' st J f => ?_⟩
          obtain ⟨rfl, r⟩ := f.shared
          obtain ⟨x, rfl, ex⟩ := RpT.str (.inl r)
          refine ⟨⟨x, rfl⟩, S', ow', _, J, _, _, h2, fun S2 ow2 v2 H2 st2 J2 f2 => ?_⟩
          obtain ⟨rfl, r2⟩ := f2.shared
          obtain ⟨p, vs, rfl, sq, l⟩ := RpT.lst (.inl r2)
          rw [strsD_eq h5] at l
          obtain ⟨zs, rfl, ez⟩ := l.strs
          refine ⟨x, p, zs, rfl, rfl, .inl sq, ?_, ?_⟩
          · rw [str_sum, ez, str_len, ex, ← List.length_map (as := zs) (fun z : Str => z.cps.toList), ez]; exact hz
          · refine Res.go (fr := true) (.same (.strEq ?_) fun _ => rfl) J2 (st.trans st2) k
            rw [TL.join_eq]
            show TL.tl (Str.join x zs) = _
            rw [TL.tl_join]
            show TL.joinL x.cps.toList (zs.map fun z => z.cps.toList) = _
            rw [ex, ez]
        · cases h6
      | _ => cases h3
    | _ => cases h3
def eBits (m : EM) : EM := fun env => (m env).bind fun (d, e) => (asI d).map fun n => (.int (Builtin.Int.intBits n : Nat), e)
theorem e_bits {o : Expr} {m : EM} {apos pos : Pos} (ho : PE X o (EvS X.K m)) (hbase : attributeBase o "bit_length" X.env (eval o X.env) = eval o X.env := by rfl) (hline : (apos.endLine == pos.line) = true := by rfl) :
    PE X (.Call (.Attribute o "bit_length" apos) [] [] pos) (EvF X.K (eBits m)) :=
  (pe_bits ho hbase hline).imp fun σ H Q ⟨S, ow, env, I, d, env', hm, k⟩ => by
    simp only [eBits, Option.bind_eq_some_iff, Option.map_eq_some_iff] at hm
    obtain ⟨⟨d1, e1⟩, h1, n, h2, h3⟩ := hm
    cases h3
    cases asI_some h2
    refine ⟨S, ow, env, I, _, _, h1, fun S' ow' v H' st J f => ?_⟩
    obtain ⟨rfl, r⟩ := f.shared
    exact ⟨n, r.int_inv, Res.go (fr := true) (.same (.int _) fun _ => rfl) J st k⟩
end
end PL
end

section
set_option maxRecDepth 100000
set_option maxHeartbeats 3900000
/-! PV5: enumerate and zip over lists, tuples, texts in any mix. -/
namespace PL
open PySem Spec PyProof.Rows L2

theorem vals_get' : ∀ {vs : List V} {us : List Value} {i : Nat} {u : Value}, Vals vs us → us[i]? = some u → ∃ v, vs[i]? = some v ∧ RelV v u
  | _, _, _, _, .nil, h => by cases h
  | v :: _, _, 0, _, .cons r t, h => by cases h; exact ⟨v, rfl, r⟩
  | _ :: _, _, i + 1, _, .cons r t, h => vals_get' (i := i) t h
/-- what is walked -/
inductive Sk where
  | l (a : Addr)
  | t (a : Addr)
  | s (x : Str) (tk : Tok)
def Sk.has (K : PySem.W.Frag) (H : Hp) : Sk → List V → Prop
  | .l a, xs => SqL K H a xs
  | .t a, xs => SqT K H a xs
  | .s x _, xs => xs = x.cps.toList.map fun c => V.str ⟨#[c]⟩
def Sk.tn (it : Addr) (i : Nat) (h : Heap) : Sk → Prop
  | .l a => h.IsListIter it a i
  | .t a => h.IsTupleIter it a i
  | .s x tk => h.IsStrIter it (strIterType x) x tk i
def Sk.fp (it : Addr) : Sk → List Addr
  | .l a => [it, a]
  | .t a => [it, a]
  | .s _ _ => [it]
def Sk.obj : Sk → Obj
  | .l a => { cls := .type "list_iterator", data := .fields #[.ref a, .int 0 0] }
  | .t a => { cls := .type "tuple_iterator", data := .fields #[.ref a, .int 0 0] }
  | .s x tk => { cls := .type (strIterType x), data := .fields #[.str x tk, .int 0 0] }
def Sk.ok (h : Heap) (xs : Array Value) : Sk → Prop
  | .l a => h.IsList a xs
  | .t a => h.IsTuple a xs
  | .s _ _ => True
def Sk.val : Sk → Value
  | .l a => .ref a
  | .t a => .ref a
  | .s x tk => .str x tk
def Sk.far (e : Addr) : Sk → Prop
  | .l a => a ≠ e
  | .t a => a ≠ e
  | .s _ _ => True
theorem Sk.nfp {k : Sk} {e it : Addr} (h : e ≠ it) (f : k.far e) : e ∉ k.fp it := by
  cases k with
  | l a => intro z; have z' : e = it ∨ e = a := by simpa [Sk.fp] using z
           exact z'.elim h fun q => f q.symm
  | t a => intro z; have z' : e = it ∨ e = a := by simpa [Sk.fp] using z
           exact z'.elim h fun q => f q.symm
  | s x tk => intro z; exact h (by simpa [Sk.fp] using z)
theorem Sk.far_of {k : Sk} {e : Addr} {h : Heap} {xs : Array Value} (o : k.ok h xs) (le : h.objs.size ≤ e) : k.far e := by
  cases k with
  | l a => obtain ⟨o, q, _⟩ := o; exact Nat.ne_of_lt (Nat.lt_of_lt_of_le (Heap.lt_size q) le)
  | t a => obtain ⟨o, q, _⟩ := o; exact Nat.ne_of_lt (Nat.lt_of_lt_of_le (Heap.lt_size q) le)
  | s x tk => trivial
theorem Sk.begins (k : Sk) (xs : Array Value) : Begins k.val k.obj fun h => k.ok h xs := by
  cases k with
  | l a => exact begins_list a xs
  | t a => exact begins_tuple a xs
  | s x tk => exact begins_text x tk
section
variable {X : Cx} {pins : List (Addr × Obj)} {σ : L2.St} {H : Hp} {s : Shared}
theorem Sk.inj {k : Sk} {xs ys : List V} (I : L2.Inv X pins σ H s) (h : k.has X.K H xs) (h' : k.has X.K H ys) : xs = ys := by
  cases k with
  | l a => exact I.list_inj h h'
  | t a => exact I.tuple_inj h h'
  | s x tk => exact h.trans h'.symm
theorem Sk.items {k : Sk} {xs : List V} (I : L2.Inv X pins σ H s) (h : k.has X.K H xs) : ∃ its, k.ok s.heap its := by
  cases k with
  | l a => obtain ⟨its, r, p, _⟩ := I.list h; exact ⟨_, p.isList⟩
  | t a => obtain ⟨its, r, p, _⟩ := I.tuple h; exact ⟨its.toArray, p⟩
  | s x tk => exact ⟨#[], trivial⟩
theorem Sk.memFp {k : Sk} {it : Addr} : it ∈ k.fp it := by cases k <;> simp [Sk.fp]
theorem Sk.tn0 {k : Sk} {it : Addr} {h : Heap} (e : h.get? it = some k.obj) : k.tn it 0 h := by
  cases k with
  | l a => exact ⟨_, e, rfl, rfl⟩
  | t a => exact ⟨_, e, rfl, rfl⟩
  | s x tk => exact ⟨_, e, rfl, rfl⟩
theorem Sk.get {k : Sk} {it : Addr} {i : Nat} {h : Heap} (st : k.tn it i h) : ∃ o, h.get? it = some o ∧ ∀ v, o.data ≠ .cell v := by
  cases k with
  | l a => obtain ⟨o, e, _, d⟩ := st; exact ⟨o, e, fun v q => by rw [d] at q; cases q⟩
  | t a => obtain ⟨o, e, _, d⟩ := st; exact ⟨o, e, fun v q => by rw [d] at q; cases q⟩
  | s x tk => obtain ⟨o, e, _, d⟩ := st; exact ⟨o, e, fun v q => by rw [d] at q; cases q⟩
theorem Sk.keep {k : Sk} {it : Addr} {i : Nat} {h h' : Heap} (st : k.tn it i h) (kp : ∀ o, h.get? it = some o → h'.get? it = some o) : k.tn it i h' := by
  cases k with
  | l a => exact st.at kp
  | t a => exact st.at kp
  | s x tk => obtain ⟨o, e, c, d⟩ := st; exact ⟨o, kp o e, c, d⟩
/-- a source read through the library's draws -/
theorem Sk.draws {k : Sk} {it : Addr} {i : Nat} {xs : List V} (I : L2.Inv X pins σ H s) (hh : X.A.handled = none) (h : k.has X.K H xs) (st : k.tn it i s.heap) :
    ∃ (n : Nat) (P : Nat → Value → Prop) (St : Nat → Heap → Prop), Draws X.prog X.w X.A.in1 it (k.fp it) n P St ∧ n = xs.length ∧ St i s.heap ∧ (∀ j v, P j v → ∃ x, xs[j]? = some x ∧ RelV x v) ∧ ∀ j h, St j h → k.tn it j h := by
  cases k with
  | l a =>
    obtain ⟨its, r, p, _⟩ := I.list h
    have hne : a ≠ it := fun e => by
      obtain ⟨o, e1, c1, _⟩ := st
      obtain ⟨o2, e2, c2, _⟩ := p.isList
      rw [e, e1] at e2; cases e2
      rw [c1] at c2; exact absurd c2 (by decide)
    refine ⟨_, _, _, Draws.list (show X.A.in1.handled = none from hh) it a hne its.toArray, by rw [List.size_toArray, ← r.length], ⟨st, p.isList⟩, fun j v e => ?_, fun j h z => z.1⟩
    obtain ⟨x, ex, rx⟩ := vals_get' r (by simpa using e)
    exact ⟨x, ex, rx⟩
  | t a =>
    obtain ⟨its, r, p, _⟩ := I.tuple h
    have hne : a ≠ it := fun e => by
      obtain ⟨o, e1, c1, _⟩ := st
      obtain ⟨o2, e2, c2, _⟩ := p
      rw [e, e1] at e2; cases e2
      rw [c1] at c2; exact absurd c2 (by decide)
    refine ⟨_, _, _, Draws.tuple (show X.A.in1.handled = none from hh) it a hne its.toArray, by rw [List.size_toArray, ← r.length], ⟨st, p⟩, fun j v e => ?_, fun j h z => z.1⟩
    obtain ⟨x, ex, rx⟩ := vals_get' r (by simpa using e)
    exact ⟨x, ex, rx⟩
  | s x tk =>
    refine ⟨_, _, _, Draws.text (show X.A.in1.handled = none from hh) it x tk, by rw [show xs = _ from h, List.length_map, Array.length_toList], st, fun j v ⟨c, u, e1, e2⟩ => ?_, fun j h z => z⟩
    subst e2
    refine ⟨.str ⟨#[c]⟩, ?_, ⟨u, rfl⟩⟩
    rw [show xs = _ from h, List.getElem?_map, Array.getElem?_toList, e1]; rfl
/-- one turn, told by the library's walk -/
theorem walk_turn {it : Addr} {fp wr : List Addr} {n i : Nat} {Pt : Nat → Array Value → Prop} {St : Nat → Heap → Prop} {Mid : Nat → Addr → Heap → Prop} {R : List V → Prop} {elts : List Expr} {kk : Nat} {tpos : Pos} {E : Value → Shared → Prop}
    (I : L2.Inv X pins σ H s) (W : WalksT X.prog X.w X.A it fp wr n Pt St Mid) (hi : i < n) (st : St i s.heap) (wf : ∀ b ∈ wr, FpOk X pins H b) (rel : ∀ vals, Pt i vals → ∃ xs, Vals xs vals.toList ∧ xs.length ≤ sizeLine ∧ R xs) :
    wpAny (model X.prog X.w) X.A (pyNext (.ref it)) (fun r s1 => ∃ u, r = some u ∧ wpAny (model X.prog X.w) X.A (letOwnedTupleGo (.Tuple elts kk tpos) (.ref it) u)
      (fun _ s2 => ∃ T xs, u = .ref T ∧ L2.Inv X pins σ (upd H T (.tup xs)) s2 ∧ H T = none ∧ s.heap.objs.size ≤ T ∧ R xs ∧ St (i + 1) s2.heap ∧ ∀ b o, b ∉ wr → s.heap.get? b = some o → s2.heap.get? b = some o) E s1) E s := by
  refine W.item i s _ _ hi st fun T vals h' tk hp hT htup mid ext => ⟨_, rfl, W.go elts kk tpos i T _ _ _ mid fun h'' st2 ext2 => ?_⟩
  obtain ⟨xs, rv, hz, hr⟩ := rel vals hp
  have ht2 : h''.IsTuple T vals := htup.at fun o q => ext2 T o (W.apart i T h' mid) q
  have new : ObjOk X.prog X.w (upd H T (.tup xs)) h'' T (.tup xs) := ⟨hz, vals.toList, rv, by simpa using (show IsTup h'' T vals from ht2)⟩
  exact ⟨T, xs, rfl, I.turnedNew (ch := wr) (fun b o hb q => ext2 b o hb (ext b o hb q)) wf hT new, I.hok.fresh hT, hT, hr, st2, fun b o hb q => ext2 b o hb (ext b o hb q)⟩
end

/-! ### enumerate -/
def ItEn (K : PySem.W.Frag) (k : Sk) : It :=
  ⟨fun i H => ∃ xs, k.has K H xs ∧ i < xs.length, fun i H v H' => ∃ T x, v = .ref T ∧ H T = none ∧ H' = upd H T (.tup [.int (i : Nat), x]) ∧ ∀ xs, k.has K H xs → xs[i]? = some x, fun i H => ∃ xs, k.has K H xs ∧ xs.length = i⟩
theorem turn_en {P : Program} {w : World} {K : PySem.W.Frag} {elts : List Expr} {kk : Nat} {tpos : Pos} (k : Sk) (e it : Addr) (hne : e ≠ it) (far : k.far e) :
    Turn P w K (.Tuple elts kk tpos) (ItEn K k) [e, it] e (fun i h => (∃ was, IsEnum h e it ((i : Nat) : Int) was) ∧ k.tn it i h) where
  mem := by simp
  obj := fun i h st b hb => by
    obtain ⟨⟨was, hen⟩, hk⟩ := st
    have ec : b = e ∨ b = it := by simpa using hb
    rcases ec with z | z
    · rw [z]; exact ⟨_, hen, fun v q => nomatch q⟩
    · rw [z]; exact Sk.get hk
  keep := fun i h h' st kp => by
    obtain ⟨⟨was, hen⟩, hk⟩ := st
    exact ⟨⟨was, kp e (by simp) _ hen⟩, Sk.keep hk fun o q => kp it (by simp) o q⟩
  item := by
    intro X eP ew eK hc i pins s σ H E I hf st hg
    subst eP ew eK
    obtain ⟨⟨was, hen⟩, hk⟩ := st
    obtain ⟨xs, hq, hx⟩ := hg
    obtain ⟨n, P, St, D, en, st0, rel, back⟩ := Sk.draws I (I.ok.hd hc) hq hk
    have hef : e ∉ k.fp it := Sk.nfp hne far
    have W := WalksT.enumFrom 0 D e hne hef Sk.memFp
    refine wpAny_mono (walk_turn (R := fun ys => ∃ x, ys = [.int (i : Nat), x] ∧ xs[i]? = some x) I W (by rw [en]; exact hx) ⟨⟨was, by simpa using hen⟩, st0⟩ hf fun vals hv => ?_) (fun r s1 ⟨u, e1, q⟩ => ⟨u, e1, wpAny_mono q (fun _ s2 z => ?_) fun _ _ z => z⟩) fun _ _ z => z
    · obtain ⟨t, v, hp, rfl⟩ := hv
      obtain ⟨x, ex, rx⟩ := rel i v hp
      exact ⟨[.int (i : Nat), x], .cons ⟨t, by simp⟩ (.cons rx .nil), by show 2 ≤ sizeLine; decide, x, rfl, ex⟩
    · obtain ⟨T, ys, rfl, I1, hT, hsz, ⟨x, rfl, ex⟩, ⟨⟨old', hen1⟩, st'⟩, _⟩ := z
      refine ⟨.ref T, _, I1, rfl, ⟨T, x, rfl, hT, rfl, fun zs hz => by rw [Sk.inj I hz hq]; exact ex⟩, ⟨⟨old', by simpa using hen1⟩, back _ _ st'⟩, fun b hb => ?_⟩
      have hlt : b < s.heap.objs.size := by
        have ec : b = e ∨ b = it := by simpa using hb
        rcases ec with z | z
        · rw [z]; exact Heap.lt_size hen
        · rw [z]; obtain ⟨o, q, _⟩ := Sk.get hk; exact Heap.lt_size q
      rw [upd_ne (Nat.ne_of_lt (Nat.lt_of_lt_of_le hlt hsz))]
      exact (hf b hb).1
  done := by
    intro X eP ew eK hc i pins s σ H E I hf st hg
    subst eP ew eK
    obtain ⟨⟨was, hen⟩, hk⟩ := st
    obtain ⟨xs, hq, hx⟩ := hg
    obtain ⟨n, P, St, D, en, st0, rel, back⟩ := Sk.draws I (I.ok.hd hc) hq hk
    have hef : e ∉ k.fp it := Sk.nfp hne far
    have W := WalksT.enumFrom 0 D e hne hef Sk.memFp
    have ei : n = i := by rw [en, hx]
    subst ei
    exact W.done s _ _ ⟨⟨was, by simpa using hen⟩, st0⟩ fun h' tk ext => ⟨rfl, I.turnedL (ch := [e, it]) ext hf⟩
  self := fun A i s Q E st h => let ⟨⟨_, hen⟩, _⟩ := st; wpAny_pyIter_enum hen h

theorem meets_enum1 {v : Value} {o : Obj} {H : Heap → Prop} (B : Begins v o H) :
    Meets (Builtin.«enumerate.__new__» ⟨[.type "enumerate", v], []⟩) (fun _ R s => H s.heap ∧
      R (.ok (.ret (.ref (s.heap.push o).objs.size))) { s with heap := (s.heap.push o).push { cls := .type "enumerate", data := .fields #[.none, .bool false, .ref s.heap.objs.size, rawInt 0, .none, .none] } }) :=
  .of_wp fun prog w A R s h => by
    obtain ⟨hh, gg, d, tt, oo⟩ := s; obtain ⟨hb, h⟩ := h
    have hsub := sub_enumerate
    have go1 : ∀ {A' : Around} {E : Value → Shared → Prop} {Q : Value → Shared → Prop}, Q (.ref hh.objs.size) ⟨hh.push o, gg, d, tt, oo⟩ → wpAny (model prog w) A' (pyIter v) Q E ⟨hh, gg, d, tt, oo⟩ :=
      fun q => B.iter prog w _ _ ⟨hh, gg, d, tt, oo⟩ _ hb q
    wp_walk using go1
    refine wpAny_stack_any fun sk => wpAny_pure ?_
    split
    · rename_i c _ _ _ _ _
      cases (c == Value.type "enumerate")
      · wp_walk using go1
        exact ⟨_, rfl, h⟩
      · wp_walk using go1
        exact ⟨_, rfl, h⟩
    · wp_walk using go1
      exact ⟨_, rfl, h⟩
section
variable {prog : Program} {w : World} {A : Around} {E : Value → Shared → Prop} {s : Shared}
theorem enum_begins1 {v : Value} {o : Obj} {H : Heap → Prop} {Q : Value → Shared → Prop} (B : Begins v o H) (h1 : H s.heap)
    (h : ∀ h', IsEnum h' (s.heap.objs.size + 1) s.heap.objs.size 0 .none → h'.get? s.heap.objs.size = some o → h'.objs.size = s.heap.objs.size + 2 →
      (∀ b o, s.heap.get? b = some o → h'.get? b = some o) → Q (.ref (s.heap.objs.size + 1)) { s with heap := h' }) :
    wpAny (model prog w) A (call (.type "enumerate") [v]) Q E s := by
  refine callType_new PySem.F.called_enumerate (by decide) (PySem.F.typeCall_enumerate_1 _) (PySem.F.newCall_enumerate_1 _) (fun obj => PySem.F.args_object_init_2 obj _) PySem.F.entry_enumerate_new
    (meets_enum1 B) ⟨h1, ?_⟩
  have sz1 : (s.heap.push o).objs.size = s.heap.objs.size + 1 := Heap.size_push ..
  show _ ∧ _
  rw [sz1]
  have hen : IsEnum ((s.heap.push o).push { cls := .type "enumerate", data := .fields #[.none, .bool false, .ref s.heap.objs.size, rawInt 0, .none, .none] }) (s.heap.objs.size + 1) s.heap.objs.size 0 .none := by
    have := Heap.get?_push_size (s.heap.push o) (o := { cls := .type "enumerate", data := .fields #[.none, .bool false, .ref s.heap.objs.size, rawInt 0, .none, .none] }) rfl
    rw [sz1] at this; exact this
  refine ⟨⟨_, hen, rfl⟩, h _ hen (Heap.get?_push_of_some _ (Heap.get?_push_size _ B.free)) (by rw [Heap.size_push, sz1]) fun b o x => Heap.get?_push_of_some _ (Heap.get?_push_of_some _ x)⟩
end
/-- the source that a value is -/
inductive SkV (K : PySem.W.Frag) (H : Hp) : V → List V → (Value → Sk) → Prop
  | l {a : Addr} {xs : List V} : SqL K H a xs → SkV K H (.ref a) xs fun _ => .l a
  | t {a : Addr} {xs : List V} : SqT K H a xs → SkV K H (.ref a) xs fun _ => .t a
  | s (x : Str) : SkV K H (.str x) (x.cps.toList.map fun c => V.str ⟨#[c]⟩) fun v => match v with | .str _ t => .s x t | _ => .s x 0
theorem SkV.val {K : PySem.W.Frag} {H : Hp} {v : V} {u : Value} {xs : List V} {k : Value → Sk} (h : SkV K H v xs k) (r : RelV v u) : (k u).val = u ∧ (k u).has K H xs := by
  cases h with
  | l h => cases r; exact ⟨rfl, h⟩
  | t h => cases r; exact ⟨rfl, h⟩
  | s x => obtain ⟨t, rfl⟩ := r; exact ⟨rfl, rfl⟩
def iEn (K : PySem.W.Frag) (ta : TA) : TI := fun σ H R => ta σ H fun vs H1 => ∃ x xs k, vs = [x] ∧ SkV K H1 x xs k ∧ ∀ u, R (ItEn K (k u)) H1
theorem pi_en {X : Cx} {e : Expr} {ta : TA} {p pos tpos : Pos} {elts : List Expr} {kk : Nat} (hg : Gl X "enumerate") (hm : X.mg "enumerate" = none) (ha : PA X [e] ta) (hs : starEach [e] X.env = [(false, eval e X.env)] := by rfl) :
    PI X (.Tuple elts kk tpos) (.Call (.Name "enumerate" p) [e] [] pos) (iEn X.K ta) := by
  refine ⟨fun pins s σ H R I h => ?_⟩
  refine Call_ (ld_blt I hg hm boot_enumerate (PyProof.Rows.callWith_type1 (thn (ha.run pos pins s σ H _ I h) fun args s1 ⟨vs, H1, J1, rv1, way⟩ => ?_) hs rfl))
  obtain ⟨x, xs, k, ex, hq, q⟩ := way
  subst ex
  obtain ⟨u, rfl, r⟩ := rv1.one
  obtain ⟨ev, hh⟩ := hq.val r
  obtain ⟨its, ok⟩ := Sk.items J1 hh
  have B := (k u).begins its
  rw [ev] at B
  refine enum_begins1 B ok fun h' he hit hsz hk => wpAny_pyIter_enum he ?_
  have I2 : L2.Inv X pins σ H1 { s1 with heap := h' } := J1.kept (t' := s1.toks) hk
  refine ⟨s1.heap.objs.size + 1, [s1.heap.objs.size + 1, s1.heap.objs.size], _, _, H1, rfl, I2, turn_en (k u) (s1.heap.objs.size + 1) s1.heap.objs.size (Nat.succ_ne_self _) (Sk.far_of ok (Nat.le_succ _)), ⟨⟨.none, he⟩, Sk.tn0 hit⟩, fun b hb => ?_, q u⟩
  have ec : b = s1.heap.objs.size + 1 ∨ b = s1.heap.objs.size := by simpa using hb
  have low : s1.heap.objs.size ≤ b := by
    rcases ec with z | z
    · rw [z]; exact Nat.le_add_right _ _
    · rw [z]; exact Nat.le_refl _
  exact J1.fpOk low (J1.hok.fresh low)

/-! ### zip -/
def ItZp (K : PySem.W.Frag) (k1 k2 : Sk) : It :=
  ⟨fun i H => ∃ xs ys, k1.has K H xs ∧ k2.has K H ys ∧ i < min xs.length ys.length, fun i H v H' => ∃ T x y, v = .ref T ∧ H T = none ∧ H' = upd H T (.tup [x, y]) ∧ (∀ xs, k1.has K H xs → xs[i]? = some x) ∧ ∀ ys, k2.has K H ys → ys[i]? = some y,
    fun i H => ∃ xs ys, k1.has K H xs ∧ k2.has K H ys ∧ min xs.length ys.length = i⟩
structure Zs (z TI TO i1 i2 : Addr) (k1 k2 : Sk) : Prop where
  TIz : TI ≠ z
  TOz : TO ≠ z
  TITO : TI ≠ TO
  TIi1 : TI ≠ i1
  TIi2 : TI ≠ i2
  zi1 : z ≠ i1
  zi2 : z ≠ i2
  TOi1 : TO ≠ i1
  TOi2 : TO ≠ i2
  i12 : i1 ≠ i2
  z1 : k1.far z
  z2 : k2.far z
  T1 : k1.far TO
  T2 : k2.far TO
  a1 : k1.far i2
  a2 : k2.far i1
theorem Zs.sep {z TI TO i1 i2 : Addr} {k1 k2 : Sk} (D : Zs z TI TO i1 i2 k1 k2) : ZipSep2 z TI TO i1 i2 (k1.fp i1) (k2.fp i2) where
  TIz := D.TIz
  TOz := D.TOz
  TITO := D.TITO
  TIi1 := D.TIi1
  mem1 := Sk.memFp
  zf1 := Sk.nfp D.zi1 D.z1
  Tf1 := Sk.nfp D.TOi1 D.T1
  TIi2 := D.TIi2
  mem2 := Sk.memFp
  zf2 := Sk.nfp D.zi2 D.z2
  Tf2 := Sk.nfp D.TOi2 D.T2
  sep1_2 := Sk.nfp D.i12 D.a2
  sep2_1 := Sk.nfp (Ne.symm D.i12) D.a1
theorem turn_zp {P : Program} {w : World} {K : PySem.W.Frag} {elts : List Expr} {kk : Nat} {tpos : Pos} {z TI TO i1 i2 : Addr} {k1 k2 : Sk} (D : Zs z TI TO i1 i2 k1 k2) :
    Turn P w K (.Tuple elts kk tpos) (ItZp K k1 k2) [z, TI, TO, i1, i2] z (fun i h => IsZip h z TI TO .none ∧ IsTupOf2 h TI (.ref i1) (.ref i2) ∧ (∃ x y, IsTupOf2 h TO x y) ∧ k1.tn i1 i h ∧ k2.tn i2 i h) where
  mem := by simp
  obj := fun i h st c hc => by
    obtain ⟨gz, gTI, ⟨x, y, gTO⟩, g1, g2⟩ := st
    have ec : c = z ∨ c = TI ∨ c = TO ∨ c = i1 ∨ c = i2 := by simpa using hc
    rcases ec with q | q | q | q | q
    · rw [q]; exact ⟨_, gz, fun v q => nomatch q⟩
    · rw [q]; exact ⟨_, gTI, fun v q => nomatch q⟩
    · rw [q]; exact ⟨_, gTO, fun v q => nomatch q⟩
    · rw [q]; exact Sk.get g1
    · rw [q]; exact Sk.get g2
  keep := fun i h h' st k => by
    obtain ⟨gz, gTI, ⟨x, y, gTO⟩, g1, g2⟩ := st
    exact ⟨k z (by simp) _ gz, k TI (by simp) _ gTI, ⟨x, y, k TO (by simp) _ gTO⟩, Sk.keep g1 fun o q => k i1 (by simp) o q, Sk.keep g2 fun o q => k i2 (by simp) o q⟩
  item := by
    intro X eP ew eK hc i pins s σ H E I hf st hg
    subst eP ew eK
    obtain ⟨gz, gTI, gTO, g1, g2⟩ := st
    obtain ⟨xs, ys, hqx, hqy, hlt⟩ := hg
    obtain ⟨n1, P1, St1, D1, en1, st1, rel1, back1⟩ := Sk.draws I (I.ok.hd hc) hqx g1
    obtain ⟨n2, P2, St2, D2, en2, st2, rel2, back2⟩ := Sk.draws I (I.ok.hd hc) hqy g2
    have W := WalksT.zipD2 D.sep D1 D2
    have sub : ∀ b, b ∈ [z, TO, i1, i2] → b ∈ [z, TI, TO, i1, i2] := fun b hb => by
      have : b = z ∨ b = TO ∨ b = i1 ∨ b = i2 := by simpa using hb
      rcases this with q | q | q | q <;> simp [q]
    refine wpAny_mono (walk_turn (R := fun zs => ∃ x y, zs = [x, y] ∧ xs[i]? = some x ∧ ys[i]? = some y) I W (by rw [en1, en2]; exact hlt) ⟨gz, gTI, gTO, st1, st2⟩ (fun b hb => hf b (sub b hb)) fun vals hv => ?_) (fun r s1 ⟨u, e1, q⟩ => ⟨u, e1, wpAny_mono q (fun _ s2 zz => ?_) fun _ _ zz => zz⟩) fun _ _ zz => zz
    · obtain ⟨v1, v2, p1, p2, rfl⟩ := hv
      obtain ⟨x, ex, rx⟩ := rel1 i v1 p1
      obtain ⟨y, ey, ry⟩ := rel2 i v2 p2
      exact ⟨[x, y], .cons rx (.cons ry .nil), by show 2 ≤ sizeLine; decide, x, y, rfl, ex, ey⟩
    · obtain ⟨T, zs, rfl, I1, hT, hsz, ⟨x, y, rfl, ex, ey⟩, ⟨hz', hTI', hTO', st1', st2'⟩, _⟩ := zz
      refine ⟨.ref T, _, I1, rfl, ⟨T, x, y, rfl, hT, rfl, fun l hl => by rw [Sk.inj I hl hqx]; exact ex, fun l hl => by rw [Sk.inj I hl hqy]; exact ey⟩, ⟨hz', hTI', hTO', back1 _ _ st1', back2 _ _ st2'⟩, fun c hcm => ?_⟩
      have hlt' : c < s.heap.objs.size := by
        obtain ⟨x0, y0, gTO⟩ := gTO
        have ec : c = z ∨ c = TI ∨ c = TO ∨ c = i1 ∨ c = i2 := by simpa using hcm
        rcases ec with q | q | q | q | q
        · rw [q]; exact Heap.lt_size gz
        · rw [q]; exact Heap.lt_size gTI
        · rw [q]; exact Heap.lt_size gTO
        · rw [q]; obtain ⟨o, q, _⟩ := Sk.get g1; exact Heap.lt_size q
        · rw [q]; obtain ⟨o, q, _⟩ := Sk.get g2; exact Heap.lt_size q
      rw [upd_ne (Nat.ne_of_lt (Nat.lt_of_lt_of_le hlt' hsz))]
      exact (hf c hcm).1
  done := by
    intro X eP ew eK hc i pins s σ H E I hf st hg
    subst eP ew eK
    obtain ⟨gz, gTI, gTO, g1, g2⟩ := st
    obtain ⟨xs, ys, hqx, hqy, hlt⟩ := hg
    obtain ⟨n1, P1, St1, D1, en1, st1, rel1, back1⟩ := Sk.draws I (I.ok.hd hc) hqx g1
    obtain ⟨n2, P2, St2, D2, en2, st2, rel2, back2⟩ := Sk.draws I (I.ok.hd hc) hqy g2
    have W := WalksT.zipD2 D.sep D1 D2
    have sub : ∀ b, b ∈ [z, TO, i1, i2] → b ∈ [z, TI, TO, i1, i2] := fun b hb => by
      have : b = z ∨ b = TO ∨ b = i1 ∨ b = i2 := by simpa using hb
      rcases this with q | q | q | q <;> simp [q]
    rw [← en1, ← en2] at hlt
    subst hlt
    exact W.done s _ _ ⟨gz, gTI, gTO, st1, st2⟩ fun h' tk ext => ⟨rfl, I.turnedL (ch := [z, TO, i1, i2]) ext fun b hb => hf b (sub b hb)⟩
  self := fun A i s Q E st h => wpAny_pyIter_zip st.1 h
def iZp (K : PySem.W.Frag) (ta : TA) : TI := fun σ H R => ta σ H fun vs H1 => ∃ x y xs ys k1 k2, vs = [x, y] ∧ SkV K H1 x xs k1 ∧ SkV K H1 y ys k2 ∧ ∀ u w, R (ItZp K (k1 u) (k2 w)) H1
theorem pi_zp {X : Cx} {e e2 : Expr} {ta : TA} {p pos tpos : Pos} {elts : List Expr} {kk : Nat} (hg : Gl X "zip") (hm : X.mg "zip" = none) (ha : PA X [e, e2] ta)
    (hs : starEach [e, e2] X.env = (false, eval e X.env) :: starEach [e2] X.env := by rfl) (plq : (backTo pos (starEach [e2] X.env)).any (·.1) = false := by rfl) :
    PI X (.Tuple elts kk tpos) (.Call (.Name "zip" p) [e, e2] [] pos) (iZp X.K ta) := by
  refine ⟨fun pins s σ H R I h => ?_⟩
  refine Call_ (ld_blt I hg hm PyProof.Rows.boot_zip (PyProof.Rows.callWith_type1 (thn (ha.run pos pins s σ H _ I h) fun args s1 ⟨vs, H1, J1, rv1, way⟩ => ?_) hs plq))
  obtain ⟨x, y, xs, ys, k1, k2, ex, hqx, hqy, q⟩ := way
  subst ex
  obtain ⟨u, w', rfl, rx, ry⟩ := vals2 rv1
  obtain ⟨ev, hx⟩ := hqx.val rx
  obtain ⟨ew, hy⟩ := hqy.val ry
  obtain ⟨its, ok⟩ := Sk.items J1 hx
  obtain ⟨its2, ok2⟩ := Sk.items J1 hy
  have B := (k1 u).begins its
  rw [ev] at B
  have B2 := (k2 w').begins its2
  rw [ew] at B2
  refine zip_begins2 B B2 ok ok2 fun h' hz hTI hTO e1 e2 hsz hk => wpAny_pyIter_zip hz ?_
  have I2 : L2.Inv X pins σ H1 { s1 with heap := h' } := J1.kept (t' := s1.toks) hk
  have far1 : ∀ j, (k1 u).far (s1.heap.objs.size + j) := fun j => Sk.far_of ok (Nat.le_add_right _ _)
  have far2 : ∀ j, (k2 w').far (s1.heap.objs.size + j) := fun j => Sk.far_of ok2 (Nat.le_add_right _ _)
  refine ⟨s1.heap.objs.size + 4, [s1.heap.objs.size + 4, s1.heap.objs.size + 2, s1.heap.objs.size + 3, s1.heap.objs.size, s1.heap.objs.size + 1], _, _, H1, rfl, I2,
    turn_zp (k1 := k1 u) (k2 := k2 w') ⟨?_, ?_, ?_, ?_, ?_, ?_, ?_, ?_, ?_, ?_, far1 4, far2 4, far1 3, far2 3, far1 1, far2 0⟩, ⟨hz, hTI, ⟨_, _, hTO⟩, Sk.tn0 e1, Sk.tn0 e2⟩, fun c hmem => ?_, q u w'⟩
  all_goals try (exact fun z => absurd (show (s1.heap.objs.size + _ : Nat) = s1.heap.objs.size + _ from z) (by omega))
  · exact fun z => absurd (show (s1.heap.objs.size + 2 : Nat) = s1.heap.objs.size from z) (by omega)
  · exact fun z => absurd (show (s1.heap.objs.size + 4 : Nat) = s1.heap.objs.size from z) (by omega)
  · exact fun z => absurd (show (s1.heap.objs.size + 3 : Nat) = s1.heap.objs.size from z) (by omega)
  · exact fun z => absurd (show (s1.heap.objs.size : Nat) = s1.heap.objs.size + 1 from z) (by omega)
  · have ec : c = s1.heap.objs.size + 4 ∨ c = s1.heap.objs.size + 2 ∨ c = s1.heap.objs.size + 3 ∨ c = s1.heap.objs.size ∨ c = s1.heap.objs.size + 1 := by simpa using hmem
    have low : s1.heap.objs.size ≤ c := by
      rcases ec with z | z | z | z | z
      · rw [z]; exact Nat.le_add_right _ _
      · rw [z]; exact Nat.le_add_right _ _
      · rw [z]; exact Nat.le_add_right _ _
      · rw [z]; exact Nat.le_refl _
      · rw [z]; exact Nat.le_add_right _ _
    exact J1.fpOk low (J1.hok.fresh low)

/-! ### over plain data -/
section
variable {K : PySem.W.Frag} {A : Addr → Prop} {ow : List (Option Addr)} {H : Hp}
/-- a source that stands behind any step -/
def StS (K : PySem.W.Frag) (ow : List (Option Addr)) (H : Hp) (k : Sk) (vs : List V) : Prop := ∀ ow2 H2, Stp ow H ow2 H2 → k.has K H2 vs
theorem sk_of {v : V} {d : D} {ds : List D} (hd : items d = some ds) (r : Rp K H (Av A ow) v d) : ∃ vs k, SkV K H v vs k ∧ (∀ u, StS K ow H (k u) vs) ∧ RpL K H (Av A ow) vs ds := by
  cases d with
  | lst ds0 =>
    cases hd
    cases r with
    | @cell a o _ e n rc =>
      cases rc with
      | @lst vs _ rl =>
        have sl : StL K ow H a vs := .of (o := .lst vs) e fun z => n (.inr z)
        exact ⟨vs, _, .l (sl _ _ .refl), fun _ => sl, rl⟩
    | @frz a ob o _ e rc =>
      cases rc with
      | @lst vs _ rl =>
        have sl : StL K ow H a vs := .frz e
        exact ⟨vs, _, .l (sl _ _ .refl), fun _ => sl, rl⟩
    | @kls a vs _ hk rl =>
      have sl : StL K ow H a vs := fun _ _ _ => hk.sq
      exact ⟨vs, _, .l (sl _ _ .refl), fun _ => sl, rl⟩
  | tup ds0 =>
    cases hd
    cases r with
    | @tup a vs _ hs rl => exact ⟨vs, _, .t hs, fun _ _ _ st => st.sqT hs, rl⟩
    | cell _ _ rc => cases rc
    | frz _ rc => cases rc
  | str cs =>
    cases hd
    cases r with
    | str x =>
      refine ⟨_, _, .s x, fun u => ?_, ?_⟩
      · cases u <;> exact fun _ _ _ => rfl
      · unfold chars
        induction x.cps.toList with
        | nil => exact .nil
        | cons c cs ih => exact .cons (.strOf [c]) ih
    | cell _ _ rc => cases rc
    | frz _ rc => cases rc
  | _ => cases hd
def enD : Int → List D → List D
  | _, [] => []
  | i, d :: ds => .tup [.int i, d] :: enD (i + 1) ds
theorem enD_len : ∀ (ds : List D) (i : Int), (enD i ds).length = ds.length
  | [], _ => rfl
  | d :: ds, i => by rw [enD, List.length_cons, enD_len ds]; rfl
theorem enD_get : ∀ (ds : List D) (i : Int) (j : Nat) (d : D), (enD i ds)[j]? = some d → ∃ x, ds[j]? = some x ∧ d = .tup [.int (i + j), x]
  | [], _, _, _, h => by cases h
  | x :: ds, i, 0, d, h => by rw [enD] at h; cases h; exact ⟨x, rfl, by simp⟩
  | x :: ds, i, j + 1, d, h => by
    rw [enD, List.getElem?_cons_succ] at h
    obtain ⟨y, h1, rfl⟩ := enD_get ds (i + 1) j d h
    exact ⟨y, h1, by congr 3; omega⟩
theorem src_en {k : Sk} {vs : List V} {ds : List D} (h : StS K ow H k vs) (r : RpL K H (Av A ow) vs ds) : Src K A (ItEn K k) ow H (enD 0 ds) := fun A' ow2 H2 hA st i => by
  have q := h ow2 H2 st
  have r2 := (r.pres (Pres.grow hA)).pres st.pres
  refine ⟨fun d e => ?_, fun e => ?_⟩
  · obtain ⟨x, e1, rfl⟩ := enD_get _ _ _ _ e
    obtain ⟨v, ev, rv⟩ := r2.get e1
    refine ⟨⟨vs, q, (List.getElem?_eq_some_iff.mp ev).1⟩, fun y H3 yl => ?_⟩
    obtain ⟨T, v', rfl, hT, rfl, hv⟩ := yl
    have := hv vs q
    rw [ev] at this; cases this
    refine ⟨.inr ⟨T, _, hT, rfl⟩, .tup (.inl (.inl upd_same)) (.cons ?_ (.cons (rv.pres (Pres.new hT)) .nil))⟩
    have : (0 : Int) + (i : Nat) = (i : Nat) := by omega
    rw [this]; exact .int _
  · rw [enD_len] at e
    exact ⟨vs, q, by rw [r.length]; exact e⟩
def zpD : List D → List D → List D
  | d :: ds, e :: es => .tup [d, e] :: zpD ds es
  | _, _ => []
theorem zpD_len : ∀ (ds es : List D), (zpD ds es).length = min ds.length es.length
  | [], _ => by simp [zpD]
  | _ :: _, [] => by simp [zpD]
  | d :: ds, e :: es => by rw [zpD, List.length_cons, zpD_len ds es]; simp only [List.length_cons]; omega
theorem zpD_get : ∀ (ds es : List D) (j : Nat) (d : D), (zpD ds es)[j]? = some d → ∃ x y, ds[j]? = some x ∧ es[j]? = some y ∧ d = .tup [x, y]
  | [], _, _, _, h => by simp [zpD] at h
  | _ :: _, [], _, _, h => by simp [zpD] at h
  | x :: ds, y :: es, 0, d, h => by rw [zpD] at h; cases h; exact ⟨x, y, rfl, rfl, rfl⟩
  | x :: ds, y :: es, j + 1, d, h => by
    rw [zpD, List.getElem?_cons_succ] at h
    exact zpD_get ds es j d h
theorem src_zp {k1 k2 : Sk} {vs ws : List V} {ds es : List D} (h1 : StS K ow H k1 vs) (h2 : StS K ow H k2 ws) (r1 : RpL K H (Av A ow) vs ds) (r2 : RpL K H (Av A ow) ws es) : Src K A (ItZp K k1 k2) ow H (zpD ds es) := fun A' ow2 H2 hA st i => by
  have q1 := h1 ow2 H2 st
  have q2 := h2 ow2 H2 st
  have s1 := (r1.pres (Pres.grow hA)).pres st.pres
  have s2 := (r2.pres (Pres.grow hA)).pres st.pres
  refine ⟨fun d e => ?_, fun e => ?_⟩
  · obtain ⟨x, y, e1, e2, rfl⟩ := zpD_get _ _ _ _ e
    obtain ⟨v, ev, rv⟩ := s1.get e1
    obtain ⟨w, ew, rw'⟩ := s2.get e2
    have l1 := (List.getElem?_eq_some_iff.mp ev).1
    have l2 := (List.getElem?_eq_some_iff.mp ew).1
    refine ⟨⟨vs, ws, q1, q2, by omega⟩, fun y' H3 yl => ?_⟩
    obtain ⟨T, v', w', rfl, hT, rfl, hv, hw⟩ := yl
    have := hv vs q1
    rw [ev] at this; cases this
    have := hw ws q2
    rw [ew] at this; cases this
    exact ⟨.inr ⟨T, _, hT, rfl⟩, .tup (.inl (.inl upd_same)) (.cons (rv.pres (Pres.new hT)) (.cons (rw'.pres (Pres.new hT)) .nil))⟩
  · rw [zpD_len] at e
    exact ⟨vs, ws, q1, q2, by rw [r1.length, r2.length]; exact e⟩
end
section
variable {X : Cx} {elts : List Expr} {kk : Nat} {tpos p pos : Pos}
def iEnM (m : EM) : IM := fun env => (m env).bind fun (d, e) => (items d).map fun ds => (enD 0 ds, e)
def iZpM (m n : EM) : IM := fun env => (m env).bind fun (d, e) => (items d).bind fun ds => (n e).bind fun (d2, e2) => (items d2).map fun es => (zpD ds es, e2)
theorem i_en {e : Expr} {m : EM} (hg : Gl X "enumerate") (hm : X.mg "enumerate" = none) (ha : PA X [e] (tEs X.K [m])) (hs : starEach [e] X.env = [(false, eval e X.env)] := by rfl) :
    PI X (.Tuple elts kk tpos) (.Call (.Name "enumerate" p) [e] [] pos) (EvI X.K (iEnM m)) :=
  (pi_en hg hm ha hs).imp fun σ H R ⟨S, ow, env, I, ds, env', hm, k⟩ => by
    simp only [iEnM, Option.bind_eq_some_iff, Option.map_eq_some_iff] at hm
    obtain ⟨⟨d1, e1⟩, h1, es, h2, h3⟩ := hm
    cases h3
    refine ⟨S, ow, env, I, _, _, h1, fun S' ow' v H' st J f => ?_⟩
    obtain ⟨rfl, r⟩ := f.shared
    obtain ⟨vs, kf, sk, ss, rl⟩ := sk_of h2 r
    exact ⟨v, vs, kf, rfl, sk, fun u => k _ H' _ st J (src_en (ss u) rl)⟩
theorem i_zp {e e2 : Expr} {m n : EM} (hg : Gl X "zip") (hm : X.mg "zip" = none) (ha : PA X [e, e2] (tEs X.K [m, n]))
    (hs : starEach [e, e2] X.env = (false, eval e X.env) :: starEach [e2] X.env := by rfl) (plq : (backTo pos (starEach [e2] X.env)).any (·.1) = false := by rfl) :
    PI X (.Tuple elts kk tpos) (.Call (.Name "zip" p) [e, e2] [] pos) (EvI X.K (iZpM m n)) :=
  (pi_zp hg hm ha hs plq).imp fun σ H R ⟨S, ow, env, I, ds, env', hm, k⟩ => by
    simp only [iZpM, Option.bind_eq_some_iff, Option.map_eq_some_iff] at hm
    obtain ⟨⟨d1, e1⟩, h1, es, h2, ⟨d2, e2'⟩, h3, fs, h4, h5⟩ := hm
    cases h5
    refine ⟨S, ow, env, I, _, _, h1, fun S' ow' v H' st J f => ?_⟩
    obtain ⟨rfl, r⟩ := f.shared
    refine ⟨_, ow', _, J, _, _, h3, fun S2 ow2 w H2 st2 J2 f2 => ?_⟩
    obtain ⟨rfl, r2⟩ := f2.shared
    obtain ⟨vs, kf, sk, ss, rl⟩ := sk_of h2 (r.pres st2.pres)
    obtain ⟨ws, kg, sk2, ss2, rl2⟩ := sk_of h4 r2
    exact ⟨v, w, vs, ws, kf, kg, rfl, sk, sk2, fun u w' => k _ H2 _ (st.trans st2) J2 (src_zp (ss u) (ss2 w') rl rl2)⟩
end
end PL
end

section
set_option maxRecDepth 100000
set_option maxHeartbeats 3900000
/-! PV6: calls by keywords alone. -/
namespace PL
open PySem Spec PyProof.Rows L2

def perm {α : Type} (d : α) (π : List Nat) (xs : List α) : List α := π.map fun i => xs.getD i d
section
variable {K : PySem.W.Frag} {H : Hp} {P : Addr → Prop}
theorem vals_perm {zs : List V} {ws : List Value} (r : Vals zs ws) : ∀ π : List Nat, Vals (perm V.non π zs) (perm Value.none π ws)
  | [] => .nil
  | i :: π => by
    refine .cons ?_ (vals_perm r π)
    show RelV (zs.getD i V.non) (ws.getD i Value.none)
    rw [List.getD_eq_getElem?_getD, List.getD_eq_getElem?_getD]
    cases e : ws[i]? with
    | some u =>
      obtain ⟨v, ev, rv⟩ := vals_get' r e
      rw [ev]; exact rv
    | none =>
      have hl := r.length
      rw [List.getElem?_eq_none_iff] at e
      rw [List.getElem?_eq_none (by omega)]
      exact rfl
theorem rp_perm {vs : List V} {ds : List D} (r : RpL K H P vs ds) : ∀ π : List Nat, RpL K H P (perm V.non π vs) (perm D.non π ds)
  | [] => .nil
  | i :: π => by
    refine .cons ?_ (rp_perm r π)
    show Rp K H P (vs.getD i V.non) (ds.getD i D.non)
    rw [List.getD_eq_getElem?_getD, List.getD_eq_getElem?_getD]
    cases e : ds[i]? with
    | some u =>
      obtain ⟨v, ev, rv⟩ := r.get e
      rw [ev]; exact rv
    | none =>
      have hl := r.length
      rw [List.getElem?_eq_none_iff] at e
      rw [List.getElem?_eq_none (by omega)]
      exact .non
end
theorem kbn {K : PySem.W.Frag} {fd : FuncData} {ps ks : List Str} (π : List Nat) (h : ∀ ws : List Value, ws.length = ks.length → bindArgs fd ⟨[], ks.zip ws⟩ = pure (ps.zip (perm Value.none π ws))) : KBn K fd ps 0 ks (fun _ ws => perm Value.none π ws) (fun _ zs => perm V.non π zs) where
  to := fun s us ws _ h1 h2 => by
    cases us with
    | cons a b => cases h1
    | nil => exact .of_eq (h ws h2)
  rel := fun _ r => vals_perm r π
section
variable {X : Cx} {CX : CXT} {k : Nat} {f : Addr} {fd : FuncData} {ps ks : List Str} {sp : Sp} {E : XK} {x : Str} {p pos : Pos} {kws : List Keyword} {tk : TA} {g : List Value → List Value → List Value} {gV : List V → List V → List V}
theorem pe_callK0 (F : FnOk X.prog X.w X.K X.mg X.base CX k f fd ps sp) (hr : Room k X.A) (hg : Gl X x) (hm : X.mg x = some (.ref f)) (hk : PySem.W.keepIn X.K (.ref f) = true) (hb : KBn X.K fd ps 0 ks g gV) (hx : Passes CX X E)
    (hkw : PK X kws tk) (hall : (backToKw pos (keywordEach kws X.env)).all (·.1.isSome) = true := by rfl) (hks : (backToKw pos (keywordEach kws X.env)).filterMap (·.1) = ks := by rfl)
    (hdb : (x == ("__debug__" : Str)) = false := by decide)
    (plq : ((backTo pos (starEach [] X.env)).any (·.1) || (backToKw pos (keywordEach kws X.env)).any (·.1.isNone)) = false := by rfl) :
    PE X (.Call (.Name x p) [] kws pos) (tCallN 0 ks.length sp gV E tNil tk) := by
  refine ⟨fun pins s σ H Q I h => ?_⟩
  refine wpAny_Call_Name_kw (ld_glob I hg hm ?_ hdb)
  refine PySem.W.callWith_KW0 (h₀ := X.base) I.ok.mod.kin hk hall (thn (hkw.run pos pins s σ H _ I h) fun ws s2 ⟨zs, H2, I2, rz, l1, l2, q2⟩ => ⟨I2.kIn, ?_⟩) plq
  rw [hks]
  exact run_fnN F hr hb hx I2 .nil rz l1 l2 q2
end
theorem _root_.L2.PK.imp {X : Cx} {e : List Keyword} {t t' : TA} (h : PK X e t) (w : ∀ σ H Q, t' σ H Q → t σ H Q) : PK X e t' := ⟨fun pos pins s σ H Q I q => h.run pos pins s σ H Q I (w σ H Q q)⟩
/-- f(k = e, ..), shared arguments -/
def eCallK (π : List Nat) (k : Nat) (f : PFn) (ms : List EM) : EM := fun env => (evL ms env).bind fun (ds, e) => if π.length = k then (f (perm D.non π ds)).bind fun d => some (d, e) else none
section
variable {K : PySem.W.Frag} {S : SS} {ow : List (Option Addr)} {σ : L2.St} {H H' : Hp} {env : Env} {fr : Bool} {k : Nat} {f : PFn} {vs : List V} {ds : List D} {d : D} {Q : VK} {E : XK}
theorem callK_go {π : List Nat} {ms : List EM} (h : Ev fr K (eCallK π k f ms) σ H Q) : tCallN 0 ms.length (spF K k fr f) (fun _ zs => perm V.non π zs) E tNil (tEs K ms) σ H Q := by
  obtain ⟨S, ow, env, I, d, envF, hm, q⟩ := h
  unfold eCallK at hm
  simp only [Option.bind_eq_some_iff] at hm
  obtain ⟨⟨ds, e⟩, h1, h2⟩ := hm
  split at h2
  rotate_left
  · cases h2
  rename_i hk
  simp only [Option.bind_eq_some_iff] at h2
  obtain ⟨d', h3, h4⟩ := h2
  cases h4
  refine es_ok ms I h1 fun ow' vs0 H1 st J rs0 => ⟨rfl, by rw [rs0.length, evL_len h1], ?_⟩
  have hk : (perm D.non π ds).length = k := by unfold perm; rw [List.length_map]; exact hk
  have rs := rp_perm rs0 π
  show spF K k fr f (perm V.non π vs0) H1 Q E
  revert h3 hk rs
  generalize perm D.non π ds = es
  generalize perm V.non π vs0 = vs
  intro h3 hk rs
  have hl : ∀ a, some a ∉ owOf (List.replicate k false) vs := fun a => owOf_false k vs a
  have eqP : ∀ a, Pio (Av S.A ow') (owOf (List.replicate k false) vs) a ↔ Av S.A ow' a := fun a => ⟨fun z => z.elim id fun z => absurd z (hl a), .inl⟩
  refine ⟨Av S.A ow', es, (d, es.map fun _ => .non), by unfold pureFn; rw [h3]; rfl, ?_, fun i j a z => absurd (List.mem_of_getElem? z) (hl a), fun a z => absurd z (hl a), fun a z => J.live a z, fun v H2 p => ?_⟩
  · exact cargs_pure hk (rs.pres (Pres.less fun a z => (eqP a).mp z))
  · refine call_fin J st hl p (fun r _ => r.pres (Pres.less fun a z => (eqP a).mpr z)) (fun pp o hp rc => rc.pres (Pres.less fun a z => ?_)) q
    rcases z with (z | z) | z
    · exact .inl ((eqP a).mpr (.inl z))
    · exact .inr z
    · exact .inl ((eqP a).mpr (.inr z))
end
section
variable {X : Cx} {pos : Pos}
theorem pks_nil : PK X [] (tEs X.K []) := pk_nil
theorem pks_cons {x : Str} {e : Expr} {pk : Pos} {kws : List Keyword} {m : EM} {ms : List EM} (h : PE X e (EvS X.K m)) (hr : PK X kws (tEs X.K ms)) : PK X (⟨some x, e, pk⟩ :: kws) (tEs X.K (m :: ms)) := pk_cons h hr
theorem e_callK {fr : Bool} {np k : Nat} {f : PFn} {fa : Addr} {fd : FuncData} {ps ks : List Str} {x : Str} {p : Pos} {kws : List Keyword} {ms : List EM} (π : List Nat) (F : FnOk X.prog X.w X.K X.mg X.base CX0 k fa fd ps (spF X.K np fr f)) (hr : Room k X.A) (hg : Gl X x) (hm : X.mg x = some (.ref fa)) (hk : PySem.W.keepIn X.K (.ref fa) = true)
    (hb : KBn X.K fd ps 0 ks (fun _ ws => perm Value.none π ws) (fun _ zs => perm V.non π zs)) (hkw : PK X kws (tEs X.K ms)) (hl : ms.length = ks.length := by rfl) (hall : (backToKw pos (keywordEach kws X.env)).all (·.1.isSome) = true := by rfl) (hks : (backToKw pos (keywordEach kws X.env)).filterMap (·.1) = ks := by rfl)
    (hdb : (x == ("__debug__" : Str)) = false := by decide)
    (plq : ((backTo pos (starEach [] X.env)).any (·.1) || (backToKw pos (keywordEach kws X.env)).any (·.1.isNone)) = false := by rfl) :
    PE X (.Call (.Name x p) [] kws pos) (Ev fr X.K (eCallK π np f ms)) := (pe_callK0 F hr hg hm hk hb pass0 hkw hall hks hdb plq).imp fun _ _ _ h => by rw [← hl]; exact callK_go h
end
end PL
end

section
set_option maxRecDepth 100000
set_option maxHeartbeats 3900000
/-! PV7: short forms for printed derivations. -/
namespace PL
open PySem Spec PyProof.Rows L2

section
variable {X : Cx} {pos : Pos}
theorem sh_go {K : PySem.W.Frag} {m : EM} {σ : L2.St} {H : Hp} {Q : VK} (h : EvS K m σ H Q) : EvF K m σ H Q := by
  obtain ⟨S, ow, env, I, d, env', hm, k⟩ := h
  refine ⟨S, ow, env, I, d, env', hm, fun S' ow' v H' st J f => ?_⟩
  rcases f with ⟨rfl, r, _⟩ | ⟨_, p, o, rfl, rfl, hp, ho, r⟩
  · exact k S' ow' v H' st J (.inl ⟨rfl, r, fun z => by cases z⟩)
  · refine k S ow' _ H' st J.drop (.inl ⟨rfl, .cell ho (fun z => ?_) (r.pres (Pres.less fun a z => z.elim (fun z => .inl (.inl z)) .inr)), fun z => by cases z⟩)
    rcases z with z | z
    · exact I.mutne (.inl z) hp
    · exact J.sep p z (.inr rfl)
theorem e_int {i j} : PE X (.Constant (.int i) j pos) (EvF X.K (eC (.int i))) := e_c pe_int fun _ _ => .int _
theorem e_bl {b j} : PE X (.Constant (.bool b) j pos) (EvF X.K (eC (.bl b))) := e_c pe_bl fun _ _ => .bl _
theorem e_non {j} : PE X (.Constant .none j pos) (EvF X.K (eC .non)) := e_c pe_non fun _ _ => .non
theorem e_str {x : Str} {j} (s : List Nat) (h : x.cps.toList = s := by rfl) : PE X (.Constant (.str x) j pos) (EvF X.K (eC (.str s))) := e_c pe_str (fun _ _ => .strEq h) rfl
theorem e_v {x : Str} {p : Pos} (i : Nat) (hN : X.N[i]? = some x := by rfl) (hv : Vis X.env.scope x := by first | exact Or.inl rfl | exact Or.inr (Or.inl rfl) | exact Or.inr (Or.inr rfl)) (hd : (x == ("__debug__" : Str)) = false := by decide)
    (hcd : (x == ("__classdict__" : Str)) = false := by decide) : PE X (.Name x p) (EvS X.K (eVar i)) := e_var i (pe_var hN hv hd hcd)
theorem p_o {x : Str} {p : Pos} (i : Nat) (hN : X.N[i]? = some x := by rfl) (hv : Vis X.env.scope x := by first | exact Or.inl rfl | exact Or.inr (Or.inl rfl) | exact Or.inr (Or.inr rfl)) (hd : (x == ("__debug__" : Str)) = false := by decide)
    (hcd : (x == ("__classdict__" : Str)) = false := by decide) : PArg X (.Name x p) (.b i) := p_b (pe_var hN hv hd hcd)
theorem c_io {x : Str} {p : Pos} (i : Nat) (hN : X.N[i]? = some x := by rfl) (hv : Vis X.env.scope x := by first | exact Or.inl rfl | exact Or.inr (Or.inl rfl) | exact Or.inr (Or.inr rfl)) (hd : (x == ("__debug__" : Str)) = false := by decide)
    (hcd : (x == ("__classdict__" : Str)) = false := by decide) : PE X (.Name x p) (rdCA X.K (.io i)) := ca_io (pe_var hN hv hd hcd)
theorem s_ro {x : Str} {p : Pos} (i : Nat) (hN : X.N[i]? = some x := by rfl) (hv : Vis X.env.scope x := by first | exact Or.inl rfl | exact Or.inr (Or.inl rfl) | exact Or.inr (Or.inr rfl)) (hd : (x == ("__debug__" : Str)) = false := by decide)
    (hcd : (x == ("__classdict__" : Str)) = false := by decide) : PS X (.Return (some (.Name x p)) pos) (EvSt X.K (sRetO i)) := s_retO (pe_var hN hv hd hcd)
/-! ### stores -/
theorem s_st {i : Nat} {x : Str} {e : Expr} {m : EM} {p : Pos} (hN : X.N.Nodup) (he : PE X e (EvS X.K m)) (hi : X.N[i]? = some x := by rfl) (hx : Loc X.env.scope x := by first | exact .inl rfl | exact .inr rfl) (hs : swapsWith e (some (.Name x p)) pos.line X.env = pure false := by rfl)
    (hf : X.fn x = true ∨ X.env.scope.names.lookup x = some .local := by first | exact .inl rfl | exact .inr rfl) : PS X (.Assign [.Name x p] e pos) (EvSt X.K (sAsg m (gN i))) := s_set (ps_set hN hi hx he hs hf)
theorem s_ow {i : Nat} {x : Str} {e : Expr} {m : EM} {p : Pos} (hN : X.N.Nodup) (he : PE X e (EvF X.K m)) (hi : X.N[i]? = some x := by rfl) (hx : Loc X.env.scope x := by first | exact .inl rfl | exact .inr rfl) (hs : swapsWith e (some (.Name x p)) pos.line X.env = pure false := by rfl)
    (hf : X.fn x = true ∨ X.env.scope.names.lookup x = some .local := by first | exact .inl rfl | exact .inr rfl) : PS X (.Assign [.Name x p] e pos) (EvSt X.K (sOwn m i)) := (ps_set hN hi hx he hs hf).imp fun _ _ _ h => own_go h
theorem set_go {K : PySem.W.Frag} {m : EM} {i : Nat} {D : Ends} {σ : L2.St} {H : Hp} (h : EvSt K (sAsg m (gN i)) D σ H) : tAsg (EvS K m) (gName i) D σ H := by
  obtain ⟨S, ow, env, I, f, env', hm, k⟩ := h
  unfold sAsg at hm
  simp only [Option.bind_eq_some_iff] at hm
  obtain ⟨⟨d, e1⟩, h1, e2, h2, h3⟩ := hm
  cases h3
  refine ⟨S, ow, env, I, d, e1, h1, fun S' ow' v H' st J f => ?_⟩
  obtain ⟨rfl, r⟩ := f.shared
  unfold gN at h2
  split at h2
  · rename_i hf
    cases h2
    exact k _ _ H' (st.trans (stp_less fun a z => mem_set_none z)) (J.put hf r)
  · cases h2
/-- y = [.. for ..] on one line -/
theorem s_lcS {i : Nat} {y : Str} {py : Pos} {elt tg iter : Expr} {ifs : List Expr} {scope : Scope} {own : List (Str × Nat)} {spos : Pos} {src : IM} {g : GM} {is : List Nat} {t : TM} {m : EM} (hc : X.calm = true) (hN : X.N.Nodup) (hi : PI X tg iter (EvI X.K src)) (ok : BlkOk X.N X.env.scope scope own)
    (hg : ∀ (s : Shared) (H : Hp) (C : Addr) (cl : List (Str × Addr)) (fp : List Addr), PG (X.blk s H scope (compEnvC scope cl C X.env) fp) tg (EvG X.K is g)) (ht : ∀ (s : Shared) (H : Hp) (C : Addr) (cl : List (Str × Addr)) (fp : List Addr), PTs (X.blk s H scope (compEnvC scope cl C X.env) fp) ifs (EvT X.K t))
    (he : ∀ (s : Shared) (H : Hp) (C : Addr) (cl : List (Str × Addr)) (fp : List Addr), PE (X.blk s H scope (compEnvC scope cl C X.env) fp) elt (EvS X.K m)) (hy : X.N[i]? = some y := by rfl) (hyl : X.env.scope.names.lookup y = some .local := by rfl)
    (hsub : ∀ i ∈ is, i ∈ own.map (·.2) := by decide) (hsw : swapsWith (.ListComp elt [⟨tg, iter, ifs, 0⟩] scope pos) (some (.Name y py)) spos.line X.env = pure true := by rfl) (hs : ∀ x, foldedSetIterable iter X.env x = pure x := by intro _; rfl) :
    PS X (.Assign [.Name y py] (.ListComp elt [⟨tg, iter, ifs, 0⟩] scope pos) spos) (EvSt X.K (sAsg (eLc src (own.map (·.2)) g t m) (gN i))) :=
  (ps_setLc hc hN hy hyl hsw hi ok hg ht he hs).imp fun D σ H h => by
    have h2 := set_go h
    exact lc_go hsub (sh_go h2)
theorem s_lcO {i : Nat} {y : Str} {py : Pos} {elt tg iter : Expr} {ifs : List Expr} {scope : Scope} {own : List (Str × Nat)} {spos : Pos} {src : IM} {g : GM} {is : List Nat} {t : TM} {m : EM} (hc : X.calm = true) (hN : X.N.Nodup) (hi : PI X tg iter (EvI X.K src)) (ok : BlkOk X.N X.env.scope scope own)
    (hg : ∀ (s : Shared) (H : Hp) (C : Addr) (cl : List (Str × Addr)) (fp : List Addr), PG (X.blk s H scope (compEnvC scope cl C X.env) fp) tg (EvG X.K is g)) (ht : ∀ (s : Shared) (H : Hp) (C : Addr) (cl : List (Str × Addr)) (fp : List Addr), PTs (X.blk s H scope (compEnvC scope cl C X.env) fp) ifs (EvT X.K t))
    (he : ∀ (s : Shared) (H : Hp) (C : Addr) (cl : List (Str × Addr)) (fp : List Addr), PE (X.blk s H scope (compEnvC scope cl C X.env) fp) elt (EvS X.K m)) (hy : X.N[i]? = some y := by rfl) (hyl : X.env.scope.names.lookup y = some .local := by rfl)
    (hsub : ∀ i ∈ is, i ∈ own.map (·.2) := by decide) (hsw : swapsWith (.ListComp elt [⟨tg, iter, ifs, 0⟩] scope pos) (some (.Name y py)) spos.line X.env = pure true := by rfl) (hs : ∀ x, foldedSetIterable iter X.env x = pure x := by intro _; rfl) :
    PS X (.Assign [.Name y py] (.ListComp elt [⟨tg, iter, ifs, 0⟩] scope pos) spos) (EvSt X.K (sOwn (eLc src (own.map (·.2)) g t m) i)) :=
  (ps_setLc hc hN hy hyl hsw hi ok hg ht he hs).imp fun D σ H h => by
    have h2 := own_go h
    exact lc_go hsub h2
/-! ### methods of own lists -/
theorem m_apd {x : Str} {p apos : Pos} {e : Expr} {m : EM} (i : Nat) (he : PE X e (EvS X.K m)) (hN : X.N[i]? = some x := by rfl) (hv : Vis X.env.scope x := by first | exact Or.inl rfl | exact Or.inr (Or.inl rfl) | exact Or.inr (Or.inr rfl)) (hd : (x == ("__debug__" : Str)) = false := by decide)
    (hcd : (x == ("__classdict__" : Str)) = false := by decide) (hbase : attributeBase (.Name x p) "append" X.env (eval (.Name x p) X.env) = eval (.Name x p) X.env := by rfl)
    (hfew : ((backTo pos (starEach [e] X.env)).all (fun x => !x.1) && (backToKw pos (keywordEach [] X.env)).all (fun x => x.1.isSome) && decide (([e] : List Expr).length + ([] : List Keyword).length + (if ([] : List Keyword).isEmpty then 0 else 1) < 30)) = true := by rfl)
    (hline : (apos.endLine == pos.line) = true := by rfl) (hs : starEach [e] X.env = (false, eval e X.env) :: starEach [] X.env := by rfl) (hplain : (backTo pos (starEach [] X.env)).any (·.1) = false := by rfl) :
    PE X (.Call (.Attribute (.Name x p) "append" apos) [e] [] pos) (EvF X.K (eApd i m)) :=
  e_apd (pe_bm PySem.F.plainAttrs_list PySem.F.slot_list_append PySem.F.type_list_append mt_append (pe_var hN hv hd hcd) (pa_cons he pa_nil hs) hbase hfew hline hs hplain)
theorem m_popAt {x : Str} {p apos : Pos} {e : Expr} {m : EM} (i : Nat) (he : PE X e (EvS X.K m)) (hN : X.N[i]? = some x := by rfl) (hv : Vis X.env.scope x := by first | exact Or.inl rfl | exact Or.inr (Or.inl rfl) | exact Or.inr (Or.inr rfl)) (hd : (x == ("__debug__" : Str)) = false := by decide)
    (hcd : (x == ("__classdict__" : Str)) = false := by decide) (hbase : attributeBase (.Name x p) "pop" X.env (eval (.Name x p) X.env) = eval (.Name x p) X.env := by rfl)
    (hfew : ((backTo pos (starEach [e] X.env)).all (fun x => !x.1) && (backToKw pos (keywordEach [] X.env)).all (fun x => x.1.isSome) && decide (([e] : List Expr).length + ([] : List Keyword).length + (if ([] : List Keyword).isEmpty then 0 else 1) < 30)) = true := by rfl)
    (hline : (apos.endLine == pos.line) = true := by rfl) (hs : starEach [e] X.env = (false, eval e X.env) :: starEach [] X.env := by rfl) (hplain : (backTo pos (starEach [] X.env)).any (·.1) = false := by rfl) :
    PE X (.Call (.Attribute (.Name x p) "pop" apos) [e] [] pos) (EvS X.K (ePopAt i m)) :=
  e_popAt (pe_bm PySem.F.plainAttrs_list PySem.F.slot_list_pop PySem.F.type_list_pop mt_popAt (pe_var hN hv hd hcd) (pa_cons he pa_nil hs) hbase hfew hline hs hplain)
theorem m_pop {x : Str} {p apos : Pos} (i : Nat) (hN : X.N[i]? = some x := by rfl) (hv : Vis X.env.scope x := by first | exact Or.inl rfl | exact Or.inr (Or.inl rfl) | exact Or.inr (Or.inr rfl)) (hd : (x == ("__debug__" : Str)) = false := by decide)
    (hcd : (x == ("__classdict__" : Str)) = false := by decide) (hbase : attributeBase (.Name x p) "pop" X.env (eval (.Name x p) X.env) = eval (.Name x p) X.env := by rfl) (hline : (apos.endLine == pos.line) = true := by rfl) :
    PE X (.Call (.Attribute (.Name x p) "pop" apos) [] [] pos) (EvS X.K (ePop i)) :=
  e_pop (pe_bm0 PySem.F.plainAttrs_list PySem.F.slot_list_pop PySem.F.type_list_pop mt_pop (pe_var hN hv hd hcd) hbase hline)
theorem m_ins {x : Str} {p apos : Pos} {e e2 : Expr} {m n : EM} (i : Nat) (he : PE X e (EvS X.K m)) (he2 : PE X e2 (EvS X.K n)) (hN : X.N[i]? = some x := by rfl) (hv : Vis X.env.scope x := by first | exact Or.inl rfl | exact Or.inr (Or.inl rfl) | exact Or.inr (Or.inr rfl)) (hd : (x == ("__debug__" : Str)) = false := by decide)
    (hcd : (x == ("__classdict__" : Str)) = false := by decide) (hbase : attributeBase (.Name x p) "insert" X.env (eval (.Name x p) X.env) = eval (.Name x p) X.env := by rfl)
    (hfew : ((backTo pos (starEach [e, e2] X.env)).all (fun x => !x.1) && (backToKw pos (keywordEach [] X.env)).all (fun x => x.1.isSome) && decide (([e, e2] : List Expr).length + ([] : List Keyword).length + (if ([] : List Keyword).isEmpty then 0 else 1) < 30)) = true := by rfl)
    (hline : (apos.endLine == pos.line) = true := by rfl) (hs : starEach [e, e2] X.env = (false, eval e X.env) :: starEach [e2] X.env := by rfl) (hs2 : starEach [e2] X.env = (false, eval e2 X.env) :: starEach [] X.env := by rfl) (hplain : (backTo pos (starEach [e2] X.env)).any (·.1) = false := by rfl) :
    PE X (.Call (.Attribute (.Name x p) "insert" apos) [e, e2] [] pos) (EvF X.K (eIns i m n)) :=
  e_ins (pe_bm PySem.F.plainAttrs_list PySem.F.slot_list_insert PySem.F.type_list_insert mt_insert (pe_var hN hv hd hcd) (pa_cons he (pa_cons he2 pa_nil hs2) hs) hbase hfew hline hs hplain)
theorem g_at {x : Str} {p : Pos} {e : Expr} {m : EM} (i : Nat) (he : PE X e (EvS X.K m)) (hN : X.N[i]? = some x := by rfl) (hv : Vis X.env.scope x := by first | exact Or.inl rfl | exact Or.inr (Or.inl rfl) | exact Or.inr (Or.inr rfl)) (hd : (x == ("__debug__" : Str)) = false := by decide)
    (hcd : (x == ("__classdict__" : Str)) = false := by decide)
    (ha : ∀ v, assign (.Subscript (.Name x p) e pos) X.env v = (do let ov ← holding [v] (eval (.Name x p) X.env); let iv ← holding [v, ov] (eval e X.env); standAt pos; holding [v, ov, iv] (setItem ov iv v); release [v, ov, iv] []) := by intro _; rfl) : PG X (.Subscript (.Name x p) e pos) (EvG X.K [] (gIx i m)) := g_ix (pg_sub (pe_var hN hv hd hcd) he set_list ha)
theorem g_nm {x : Str} (i : Nat) (hN : X.N.Nodup) (hi : X.N[i]? = some x := by rfl) (hx : Loc X.env.scope x := by first | exact .inl rfl | exact .inr rfl) (hf : X.fn x = true ∨ X.env.scope.names.lookup x = some .local := by first | exact .inl rfl | exact .inr rfl) :
    PG X (.Name x pos) (EvG X.K [i] (gN i)) := g_n (pg_name hN hi hx hf)
/-! ### pairs of stores -/
theorem s_p2 {x y : Str} {a b : Expr} {fm fn : Bool} {m n : EM} {px py pt : Pos} {kt k2 : Nat} {pt2 : Pos} (i j : Nat) (hc : X.calm = true) (hN : X.N.Nodup) (ha : PE X a (Ev fm X.K m)) (hb : PE X b (Ev fn X.K n)) (hi : X.N[i]? = some x := by rfl) (hj : X.N[j]? = some y := by rfl) (hij : i ≠ j := by decide)
    (hx : X.env.scope.names.lookup x = some .local := by rfl) (hy : X.env.scope.names.lookup y = some .local := by rfl) (h1 : starEach [a, b] X.env = (false, eval a X.env) :: starEach [b] X.env := by rfl) (h2 : starEach [b] X.env = (false, eval b X.env) :: starEach [] X.env := by rfl)
    (hw : swappedStores [.Tuple [.Name x px, .Name y py] kt pt] (.Tuple [a, b] k2 pt2) X.env = pure (some [x, y]) := by rfl)
    (hs : swapsWithSole [.Tuple [.Name x px, .Name y py] kt pt] (.Tuple [a, b] k2 pt2) pos.line X.env = pure false := by rfl) :
    PS X (.Assign [.Tuple [.Name x px, .Name y py] kt pt] (.Tuple [a, b] k2 pt2) pos) (EvSt X.K (sPar2 i j (fm, m) (fn, n))) := s_par2 (ps_par hc hN hi hj hij hx hy (pa_cons ha (pa_cons hb pa_nil h2) h1) hw hs)
theorem s_p3 {x y z : Str} {a b c : Expr} {fm fn fo : Bool} {m n o : EM} {px py pz pt : Pos} {kt k2 : Nat} {pt2 : Pos} (i j l : Nat) (hc : X.calm = true) (hN : X.N.Nodup) (ha : PE X a (Ev fm X.K m)) (hb : PE X b (Ev fn X.K n)) (hd : PE X c (Ev fo X.K o)) (hi : X.N[i]? = some x := by rfl) (hj : X.N[j]? = some y := by rfl) (hl : X.N[l]? = some z := by rfl)
    (hij : i ≠ j := by decide) (hil : i ≠ l := by decide) (hjl : j ≠ l := by decide)
    (hx : X.env.scope.names.lookup x = some .local := by rfl) (hy : X.env.scope.names.lookup y = some .local := by rfl) (hz : X.env.scope.names.lookup z = some .local := by rfl) (h1 : starEach [a, b, c] X.env = (false, eval a X.env) :: starEach [b, c] X.env := by rfl) (h2 : starEach [b, c] X.env = (false, eval b X.env) :: starEach [c] X.env := by rfl) (h3 : starEach [c] X.env = (false, eval c X.env) :: starEach [] X.env := by rfl)
    (hw : swappedStores [.Tuple [.Name x px, .Name y py, .Name z pz] kt pt] (.Tuple [a, b, c] k2 pt2) X.env = pure (some [x, y, z]) := by rfl)
    (hs : swapsWithSole [.Tuple [.Name x px, .Name y py, .Name z pz] kt pt] (.Tuple [a, b, c] k2 pt2) pos.line X.env = pure false := by rfl) :
    PS X (.Assign [.Tuple [.Name x px, .Name y py, .Name z pz] kt pt] (.Tuple [a, b, c] k2 pt2) pos) (EvSt X.K (sPar3 i j l (fm, m) (fn, n) (fo, o))) := s_par3 (ps_par3 hc hN hi hj hl hij hil hjl hx hy hz (pa_cons ha (pa_cons hb (pa_cons hd pa_nil h3) h2) h1) hw hs)
theorem s_loop {tg iter : Expr} {body : List Stmt} {src : IM} {g : GM} {is : List Nat} {m : SM} (hc : X.calm = true) (hi : PI X tg iter (EvI X.K src)) (hg : PG X tg (EvG X.K is g)) (hb : PSs X body (EvSt X.K m))
    (hp : PassesOwn (model X.prog X.w) X.A X.env X.xe := by exact PassesOwn.never) (hs : ∀ x, foldedSetIterable iter X.env x = pure x := by intro _; rfl) : PS X (.For tg iter body [] pos) (EvSt X.K (sFor src g m)) := s_for hp hc hi hg hb hs
theorem s_loopL {x : Str} {px : Pos} {tg : Expr} {body : List Stmt} {g : GM} {is : List Nat} {m : SM} (i : Nat) (hc : X.calm = true) (hg : PG X tg (EvG X.K is g)) (hb : PSs X body (EvSt X.K m)) (hN : X.N[i]? = some x := by rfl) (hv : Vis X.env.scope x := by first | exact Or.inl rfl | exact Or.inr (Or.inl rfl) | exact Or.inr (Or.inr rfl)) (hd : (x == ("__debug__" : Str)) = false := by decide)
    (hcd : (x == ("__classdict__" : Str)) = false := by decide) (hp : PassesOwn (model X.prog X.w) X.A X.env X.xe := by exact PassesOwn.never) (hs : ∀ v, foldedSetIterable (.Name x px) X.env v = pure v := by intro _; rfl) : PS X (.For tg (.Name x px) body [] pos) (EvSt X.K (sForL i g m)) := s_forL hp hc (pe_var hN hv hd hcd) hg hb hs
theorem s_wh {c : Expr} {body : List Stmt} {t : TM} {m : SM} (n : Nat) (hc : PT X c (EvT X.K t)) (hb : PSs X body (EvSt X.K m)) (hp : PassesOwn (model X.prog X.w) X.A X.env X.xe := by exact PassesOwn.never) : PS X (.While c body [] pos) (EvSt X.K (sWhile n t m)) := s_while n hp hc hb
end

/-! ### the defs that a def calls -/
/-- a def that stands, with what it computes; ks: the keyword orders in use -/
structure Callee (P : Program) (w : World) (K : PySem.W.Frag) (mg : Str → Option Value) (base : Heap) (x : Str) (k : Nat) (ps : List Str) (kss : List (List Str × List Nat)) (sp : Sp) : Prop where
  ex : ∃ fa fd, FnOk P w K mg base CX0 k fa fd ps sp ∧ mg x = some (.ref fa) ∧ PySem.W.keepIn K (.ref fa) = true ∧ Binds K fd ps [] ∧ ∀ q ∈ kss, KBn K fd ps 0 q.1 (fun _ ws => perm Value.none q.2 ws) (fun _ zs => perm V.non q.2 zs)
section
variable {X : Cx} {pos : Pos} {fr : Bool} {np k j : Nat} {x : Str} {ps : List Str} {kss : List (List Str × List Nat)} {p : Pos} {e : Expr} {es : List Expr}
theorem c_call {f : PFn} {ms : List EM} (C : Callee X.prog X.w X.K X.mg X.base x j ps kss (spF X.K np fr f)) (hr : Room k X.A) (hj : j ≤ k) (ha : PA X (e :: es) (tEs X.K ms)) (hg : Gl X x := by rfl) (hdb : (x == ("__debug__" : Str)) = false := by decide)
    (he : starEach (e :: es) X.env = (false, eval e X.env) :: starEach es X.env := by rfl) (plq : (backTo pos (starEach es X.env)).any (·.1) = false := by rfl) :
    PE X (.Call (.Name x p) (e :: es) [] pos) (Ev fr X.K (eCall np f ms)) := by
  obtain ⟨fa, fd, F, hm, hk, hb, _⟩ := C.ex
  exact e_call F (hr.mono hj) hg hm hk hb ha hdb he plq
theorem c_callL {f : PFn} {as : List Arg} (C : Callee X.prog X.w X.K X.mg X.base x j ps kss (spF X.K np fr f)) (hr : Room k X.A) (hj : j ≤ k) (ha : PA X (e :: es) (tArgs X.K as)) (hg : Gl X x := by rfl) (hdb : (x == ("__debug__" : Str)) = false := by decide)
    (he : starEach (e :: es) X.env = (false, eval e X.env) :: starEach es X.env := by rfl) (plq : (backTo pos (starEach es X.env)).any (·.1) = false := by rfl) :
    PE X (.Call (.Name x p) (e :: es) [] pos) (Ev fr X.K (eCallB np fr f as)) := by
  obtain ⟨fa, fd, F, hm, hk, hb, _⟩ := C.ex
  exact e_callL F (hr.mono hj) hg hm hk hb ha hdb he plq
theorem c_call0 {f : PFn} (C : Callee X.prog X.w X.K X.mg X.base x j ps kss (spF X.K 0 fr f)) (hr : Room k X.A) (hj : j ≤ k) (hg : Gl X x := by rfl) (hdb : (x == ("__debug__" : Str)) = false := by decide) :
    PE X (.Call (.Name x p) [] [] pos) (Ev fr X.K (eCall 0 f [])) := by
  obtain ⟨fa, fd, F, hm, hk, hb, _⟩ := C.ex
  exact e_call0 F (hr.mono hj) hg hm hk hb hdb
theorem c_callIo {f : Fn} {bs : List Bool} {as : List CA} (C : Callee X.prog X.w X.K X.mg X.base x j ps kss (spP X.K ⟨bs, fr⟩ f)) (hr : Room k X.A) (hj : j ≤ k) (ha : PA X (e :: es) (tCas X.K as)) (hbs : as.map CA.fl = bs := by rfl) (hg : Gl X x := by rfl) (hdb : (x == ("__debug__" : Str)) = false := by decide)
    (he : starEach (e :: es) X.env = (false, eval e X.env) :: starEach es X.env := by rfl) (plq : (backTo pos (starEach es X.env)).any (·.1) = false := by rfl) :
    PE X (.Call (.Name x p) (e :: es) [] pos) (Ev fr X.K (eCallIo f as)) := by
  obtain ⟨fa, fd, F, hm, hk, hb, _⟩ := C.ex
  exact e_callIo F hbs (hr.mono hj) hg hm hk hb ha hdb he plq
theorem c_callK {f : PFn} {ms : List EM} {kws : List Keyword} (ks : List Str) (π : List Nat) (C : Callee X.prog X.w X.K X.mg X.base x j ps kss (spF X.K np fr f)) (hr : Room k X.A) (hj : j ≤ k) (hkw : PK X kws (tEs X.K ms)) (hq : (ks, π) ∈ kss := by simp) (hg : Gl X x := by rfl)
    (hl : ms.length = ks.length := by rfl) (hall : (backToKw pos (keywordEach kws X.env)).all (·.1.isSome) = true := by rfl) (hks : (backToKw pos (keywordEach kws X.env)).filterMap (·.1) = ks := by rfl)
    (hdb : (x == ("__debug__" : Str)) = false := by decide)
    (plq : ((backTo pos (starEach [] X.env)).any (·.1) || (backToKw pos (keywordEach kws X.env)).any (·.1.isNone)) = false := by rfl) :
    PE X (.Call (.Name x p) [] kws pos) (Ev fr X.K (eCallK π np f ms)) := by
  obtain ⟨fa, fd, F, hm, hk, hb, hkb⟩ := C.ex
  exact e_callK π F (hr.mono hj) hg hm hk (hkb _ hq) hkw hl hall hks hdb plq
end
section
variable {P : Program} {w : World} {K : PySem.W.Frag} {mg : Str → Option Value} {base : Heap} {x qual : Str} {st : Stmt} {f : Addr} {fd : FuncData} {ps : List Str} {k : Nat} {sp : Sp}
theorem Callee.of (F : Fun K x qual st f fd) (hm : mg x = some (.ref f)) (ok : FnOk P w K mg base CX0 k f fd ps sp)
    (h : ∀ (kV doc pm : Value) (an : Option Addr) (cdv ct : Value) (us : List Value), us.length = ps.length → bindArgs (PySem.W.fnOf x qual (defArgs st) (defBody st) (defScope st) .none kV doc pm an cdv ct) ⟨us, []⟩ = pure (ps.zip us)) : Callee P w K mg base x k ps [] sp :=
  ⟨f, fd, ok, hm, F.kp, F.binds h, fun q hq => by cases hq⟩
theorem Callee.kw {kss : List (List Str × List Nat)} (F : Fun K x qual st f fd) (hm : mg x = some (.ref f)) (ok : FnOk P w K mg base CX0 k f fd ps sp)
    (h : ∀ (kV doc pm : Value) (an : Option Addr) (cdv ct : Value) (us : List Value), us.length = ps.length → bindArgs (PySem.W.fnOf x qual (defArgs st) (defBody st) (defScope st) .none kV doc pm an cdv ct) ⟨us, []⟩ = pure (ps.zip us))
    (hk : ∀ (kV doc pm : Value) (an : Option Addr) (cdv ct : Value), ∀ q ∈ kss, ∀ ws : List Value, ws.length = q.1.length → bindArgs (PySem.W.fnOf x qual (defArgs st) (defBody st) (defScope st) .none kV doc pm an cdv ct) ⟨[], q.1.zip ws⟩ = pure (ps.zip (perm Value.none q.2 ws))) : Callee P w K mg base x k ps kss sp := by
  refine ⟨f, fd, ok, hm, F.kp, F.binds h, fun q hq => kbn q.2 ?_⟩
  obtain ⟨oc, od, kV, doc, pm, an, cdv, ct, osl, rfl, lk, hcd⟩ := F.ex
  exact hk kV doc pm an cdv ct q hq
end
end PL
end

section
set_option maxRecDepth 100000
set_option maxHeartbeats 3900000
/-! PV8: products, room. -/
namespace PL
open PySem Spec PyProof.Rows L2
section
variable {X : Cx}
theorem o_mul : OpR X (binaryOp .Mult) (r2 true X.K dMul) := by
  intro pins s σ H x y v u Q I rx ry ⟨P, dx, dy, d, hx, hy, hd, q⟩
  unfold dMul at hd
  split at hd
  · rename_i i j e; cases e
    split at hd
    · rename_i hc
      cases hd
      refine op_mul pins s σ H x y v u Q I rx ry ⟨i, j, hx.int, hy.int, ?_, q _ _ (.same (.int _) fun _ => rfl)⟩
      simp only [small64, Bool.or_eq_true, decide_eq_true_eq] at hc
      rcases hc with hc | hc
      · exact .inl ⟨by omega, by omega⟩
      · exact .inr ⟨by omega, by omega⟩
    · cases hd
  · rename_i a k e; cases e
    split at hd
    · rename_i hc
      cases hd
      obtain ⟨ax, vx, rfl, sx, lx⟩ := hx.lst
      cases hy.int
      cases rx
      obtain ⟨t, rfl⟩ := ry
      exact rep_list I sx (by omega) (by omega) (by rw [lx.length, sizeLine_eq]; exact hc.2) fun p hp => q _ _ (.newC hp (.lst (lx.rep k.toNat)))
    · cases hd
  · cases hd
end
theorem room65 {k : Nat} {A : Around} (hr : Room k A) : A.units + 65 < cLine := by have := hr.un; omega
end PL
end

section
set_option maxRecDepth 100000
set_option maxHeartbeats 3900000
/-! PV9: the law's own call. -/
namespace PL
open PySem Spec PyProof.Rows L2
theorem rp_script {K : PySem.W.Frag} {H : Hp} {P : Addr → Prop} {a : Addr} {ns : List Int} (hP : ¬ P a) (h : SqL K H a (ns.map V.int)) : Rp K H P (.ref a) (.lst (ns.map .int)) := by
  rcases h with (h | ⟨ob, h⟩) | h
  · exact .cell h hP (.lst (rpInts ns))
  · exact .frz h (.lst (rpInts ns))
  · exact .kls (.inr h) (rpInts ns)
theorem law_sp {K : PySem.W.Frag} {H : Hp} {a : Addr} {ns : List Int} {m : PFn} {E : XK} (h : SqL K H a (ns.map V.int)) (hm : m [.lst (ns.map .int)] = some (.bl true)) : spF K 1 true m [.ref a] H (fun v _ => v = .bl true) E := by
  have hl : ∀ b, some b ∉ owOf (List.replicate 1 false) [V.ref a] := fun b => owOf_false 1 _ b
  have hP : ∀ b, ¬ Pio (fun _ => False) (owOf (List.replicate 1 false) [V.ref a]) b := fun b z => z.elim id fun z => hl b z
  refine ⟨fun _ => False, [.lst (ns.map .int)], (.bl true, [.non]), by unfold pureFn; rw [hm]; rfl, .val (rp_script (hP a) h) .nil, fun i j b z => absurd (List.mem_of_getElem? z) (hl b), fun b z => absurd z (hl b), fun b z => z.elim, fun v H' p => ?_⟩
  rcases p.ret with ⟨r, _, _⟩ | ⟨_, pp, o, _, _, _, rc, _⟩
  · exact r.bl_inv
  · cases rc
theorem glob_of {K : PySem.W.Frag} {mg : Str → Option Value} {h : Heap} {x : Str} {u : Value} {v : V} {d : D} (X : K.In h) (G : h.Ns mainGlobals mg) (a : PySem.W.nsIn K mainGlobals x = some (some u)) (r : RelV v u) (hr : ∀ H P, Rp K H P v d) : ∃ v u, mg x = some u ∧ RelV v u ∧ ∀ H P, Rp K H P v d :=
  ⟨v, u, PySem.W.mg_of X G a, r, hr⟩
end PL
end

section
set_option maxRecDepth 100000
set_option maxHeartbeats 3900000
/-! PVA: range with a step. -/
namespace PL
open PySem Spec PyProof.Rows L2
def rngC (c : Int) : Int → Nat → List D
  | _, 0 => []
  | lo, n + 1 => .int lo :: rngC c (lo + c) n
theorem rngC_len (c : Int) : ∀ (n : Nat) (lo : Int), (rngC c lo n).length = n
  | 0, _ => rfl
  | n + 1, lo => by rw [rngC, List.length_cons, rngC_len c n]
theorem rngC_get (c : Int) : ∀ (n : Nat) (lo : Int) (i : Nat), i < n → (rngC c lo n)[i]? = some (.int (lo + (i : Nat) * c))
  | 0, _, _, h => absurd h (Nat.not_lt_zero _)
  | n + 1, lo, 0, _ => by rw [rngC]; simp
  | n + 1, lo, i + 1, h => by
    rw [rngC, List.getElem?_cons_succ, rngC_get c n (lo + c) i (by omega)]
    congr 2
    rw [Int.natCast_add, Int.add_mul, Int.add_assoc, Int.add_comm c]
    congr 2
    simp
theorem src_rangeC {K : PySem.W.Frag} {A : Addr → Prop} {ow : List (Option Addr)} {H : Hp} (lo c : Int) (n : Nat) : Src K A (Itc lo c n) ow H (rngC c lo n) := fun A' ow2 H2 hA st i => by
  refine ⟨fun d e => ?_, fun e => ?_⟩
  · have hi : i < n := by have := (List.getElem?_eq_some_iff.mp e).1; rw [rngC_len] at this; exact this
    rw [rngC_get c n lo i hi] at e
    cases e
    refine ⟨hi, fun x H3 y => ?_⟩
    obtain ⟨rfl, rfl⟩ := y
    exact ⟨.inl rfl, .int _⟩
  · rw [rngC_len] at e
    show n ≤ i
    omega
def iR3 (m n l : EM) : IM := fun env => (m env).bind fun (d, e) => (asI d).bind fun lo => (n e).bind fun (d', e') => (asI d').bind fun hi => (l e').bind fun (d2, e2) => (asI d2).bind fun c =>
  if c ≠ 0 ∧ c.natAbs < 1073741824 ∧ Builtin.Range.small lo hi c = true ∧ 0 ≤ Builtin.Range.rangeSize lo hi c then some (rngC c lo (Builtin.Range.rangeSize lo hi c).toNat, e2) else none
section
variable {X : Cx} {tg : Expr}
theorem i_r3 {a b c : Expr} {m n l : EM} {p pos : Pos} (hg : Gl X "range") (hm : X.mg "range" = none) (ha : PA X [a, b, c] (tEs X.K [m, n, l]))
    (hs : starEach [a, b, c] X.env = (false, eval a X.env) :: starEach [b, c] X.env := by rfl) (plq : (backTo pos (starEach [b, c] X.env)).any (·.1) = false := by rfl) :
    PI X tg (.Call (.Name "range" p) [a, b, c] [] pos) (EvI X.K (iR3 m n l)) :=
  (pi_range3 hg hm ha hs plq).imp fun σ H R ⟨S, ow, env, I, ds, env', hm, k⟩ => by
    unfold iR3 at hm
    simp only [Option.bind_eq_some_iff] at hm
    obtain ⟨⟨d, e⟩, h1, lo, h2, ⟨d', e'⟩, h3, hi, h4, ⟨d2, e2⟩, h5, cc, h6, h7⟩ := hm
    cases asI_some h2
    cases asI_some h4
    cases asI_some h6
    split at h7
    · rename_i hz
      cases h7
      refine ⟨S, ow, env, I, _, _, h1, fun S' ow' v H' st J f => ?_⟩
      obtain ⟨rfl, r⟩ := f.shared
      refine ⟨_, ow', _, J, _, _, h3, fun S' ow2 v2 H2 st2 J2 f2 => ?_⟩
      obtain ⟨rfl, r2⟩ := f2.shared
      refine ⟨_, ow2, _, J2, _, _, h5, fun S' ow3 v3 H3 st3 J3 f3 => ?_⟩
      obtain ⟨rfl, r3⟩ := f3.shared
      exact ⟨lo, hi, cc, _, by rw [r.int_inv, r2.int_inv, r3.int_inv], ⟨hz.1, hz.2.1, hz.2.2.1, (Int.toNat_of_nonneg hz.2.2.2).symm⟩, k _ H3 _ ((st.trans st2).trans st3) J3 (src_rangeC lo cc _)⟩
    · cases h7
end
end PL
end

section
set_option maxRecDepth 100000
/-! M0: plain tools for the mathematics about mirrors. -/
namespace PL
open PySem L2
/-- a state of the law's own chance: three ints -/
def Wl (d : D) : Prop := ∃ a b c : Int, d = .lst [.int a, .int b, .int c] ∧ 0 ≤ a ∧ 0 ≤ b ∧ b < 2147483648 ∧ 0 ≤ c
/-- a def that draws -/
def Draws (f : Fn) : Prop := ∀ (w : D) (many : Int), Wl w → 1 ≤ many → many < 1073741824 → ∃ (r : Int) (w' : D), f [w, .int many] = some (.int r, [w', .non]) ∧ 0 ≤ r ∧ r < many ∧ Wl w'
theorem at0 {α : Type} (a b c : α) : atI [a, b, c] 0 = some a := by simp [atI, ixN]
theorem at1 {α : Type} (a b c : α) : atI [a, b, c] 1 = some b := by simp [atI, ixN]
theorem at2 {α : Type} (a b c : α) : atI [a, b, c] 2 = some c := by simp [atI, ixN]
theorem ix0 : ixN 3 0 = some 0 := by decide
theorem ix1 : ixN 3 1 = some 1 := by decide
theorem ix2 : ixN 3 2 = some 2 := by decide
theorem small_of {b : Int} (h0 : 0 ≤ b) (h1 : b < 2147483648) : PL.small64 b = true := by
  have h : b.natAbs < 2 ^ 64 := by omega
  exact decide_eq_true h
def isT : Option D → Bool
  | some (.bl true) => true
  | _ => false
theorem isT_eq {x : Option D} (h : isT x = true) : x = some (.bl true) := by
  unfold isT at h
  split at h
  · rfl
  · cases h
mutual
def deqS : D → D → Bool
  | .non, .non => true
  | .bl a, .bl b => a == b
  | .int a, .int b => a == b
  | .str a, .str b => a == b
  | .tup a, .tup b => deqSs a b
  | .lst a, .lst b => deqSs a b
  | _, _ => false
def deqSs : List D → List D → Bool
  | [], [] => true
  | a :: as, b :: bs => deqS a b && deqSs as bs
  | _, _ => false
end
mutual
theorem deqS_eq : ∀ {a b : D}, deqS a b = true → a = b
  | .non, .non, _ => rfl
  | .bl a, .bl b, h => by rw [deqS] at h; rw [eq_of_beq h]
  | .int a, .int b, h => by rw [deqS] at h; rw [eq_of_beq h]
  | .str a, .str b, h => by rw [deqS] at h; rw [eq_of_beq h]
  | .tup a, .tup b, h => by rw [deqS] at h; rw [deqSs_eq h]
  | .lst a, .lst b, h => by rw [deqS] at h; rw [deqSs_eq h]
  | .non, .bl _, h | .non, .int _, h | .non, .str _, h | .non, .tup _, h | .non, .lst _, h | .non, .dct _, h | .non, .opq _, h => by cases h
  | .bl _, .non, h | .bl _, .int _, h | .bl _, .str _, h | .bl _, .tup _, h | .bl _, .lst _, h | .bl _, .dct _, h | .bl _, .opq _, h => by cases h
  | .int _, .non, h | .int _, .bl _, h | .int _, .str _, h | .int _, .tup _, h | .int _, .lst _, h | .int _, .dct _, h | .int _, .opq _, h => by cases h
  | .str _, .non, h | .str _, .bl _, h | .str _, .int _, h | .str _, .tup _, h | .str _, .lst _, h | .str _, .dct _, h | .str _, .opq _, h => by cases h
  | .tup _, .non, h | .tup _, .bl _, h | .tup _, .int _, h | .tup _, .str _, h | .tup _, .lst _, h | .tup _, .dct _, h | .tup _, .opq _, h => by cases h
  | .lst _, .non, h | .lst _, .bl _, h | .lst _, .int _, h | .lst _, .str _, h | .lst _, .tup _, h | .lst _, .dct _, h | .lst _, .opq _, h => by cases h
  | .dct _, b, h => by cases b <;> cases h
  | .opq _, b, h => by cases b <;> cases h
theorem deqSs_eq : ∀ {a b : List D}, deqSs a b = true → a = b
  | [], [], _ => rfl
  | a :: as, b :: bs, h => by
    rw [deqSs, Bool.and_eq_true] at h
    rw [deqS_eq h.1, deqSs_eq h.2]
  | [], _ :: _, h => by cases h
  | _ :: _, [], h => by cases h
end
def someS (x : Option D) (d : D) : Bool := match x with
  | some e => deqS e d
  | none => false
theorem someS_eq {x : Option D} {d : D} (h : someS x d = true) : x = some d := by
  unfold someS at h
  split at h
  · rw [deqS_eq h]
  · cases h
/-! ### loops -/
/-- a loop that runs to its end -/
theorem for_inv {g : GM} {body : SM} (ds : List D) (Inv : Nat → Env → Prop) (env : Env) (h0 : Inv 0 env)
    (step : ∀ i d env, ds[i]? = some d → Inv i env → ∃ e1 e2 f, g d env = some e1 ∧ body e1 = some (f, e2) ∧ (f = .nx ∨ f = .ct) ∧ Inv (i + 1) e2) :
    ∃ e, forGo g body ds env = some (.nx, e) ∧ Inv ds.length e := by
  suffices h : ∀ (es : List D) (i : Nat) (env : Env), ds.drop i = es → i ≤ ds.length → Inv i env → ∃ e, forGo g body es env = some (.nx, e) ∧ Inv ds.length e by
    exact h ds 0 env (List.drop_zero) (Nat.zero_le _) h0
  intro es
  induction es with
  | nil =>
    intro i env hd hi hI
    have : i = ds.length := by have := congrArg List.length hd; rw [List.length_drop, List.length_nil] at this; omega
    exact ⟨env, rfl, this ▸ hI⟩
  | cons d es ih =>
    intro i env hd hi hI
    have hget : ds[i]? = some d := by
      have := congrArg (·[0]?) hd
      simpa using this
    have hlt : i < ds.length := (List.getElem?_eq_some_iff.mp hget).1
    obtain ⟨e1, e2, f, h1, h2, hf, h3⟩ := step i d env hget hI
    obtain ⟨e, h4, h5⟩ := ih (i + 1) e2 (by rw [← List.drop_drop, hd]; rfl) hlt h3
    refine ⟨e, ?_, h5⟩
    rcases hf with rfl | rfl <;> simp only [forGo, h1, h2, Option.bind_some] <;> exact h4
/-- a comprehension: what comes out, told by places -/
theorem lc_inv {vs : List Nat} {g : GM} {t : TM} {m : EM} (ds : List D) (Inv : Env → Prop) (Out : D → D → Prop) (env : Env) (h0 : Inv env)
    (step : ∀ d env, d ∈ ds → Inv env → ∃ e1 e2 e3 e4 y, g d env = some e1 ∧ t e1 = some (true, e2) ∧ m e2 = some (y, e3) ∧ wipeE vs e3 = some e4 ∧ Inv e4 ∧ Out d y) :
    ∃ ys e, lcGo vs g t m ds env = some (ys, e) ∧ Inv e ∧ ys.length = ds.length ∧ ∀ (i : Nat) (d y : D), ds[i]? = some d → ys[i]? = some y → Out d y := by
  induction ds generalizing env with
  | nil => exact ⟨[], env, rfl, h0, rfl, fun i d y h => by cases h⟩
  | cons d ds ih =>
    obtain ⟨e1, e2, e3, e4, y, h1, h2, h3, h4, h5, h6⟩ := step d env List.mem_cons_self h0
    obtain ⟨ys, e, h7, h8, h9, h10⟩ := ih e4 h5 fun d' env' hd hI => step d' env' (List.mem_cons_of_mem _ hd) hI
    refine ⟨y :: ys, e, ?_, h8, by rw [List.length_cons, List.length_cons, h9], fun i d' y' hd hy => ?_⟩
    · simp only [lcGo, h1, h2, h3, h4, h7, Option.bind_some, if_true]
    · cases i with
      | zero => cases hd; cases hy; exact h6
      | succ i => exact h10 i d' y' (by simpa using hd) (by simpa using hy)
/-- a comprehension that leaves the slots as they are -/
theorem lc_map {vs : List Nat} {g : GM} {t : TM} {m : EM} (ds : List D) (env : Env) (F : D → D)
    (step : ∀ d, d ∈ ds → ∃ e1 e2 e3, g d env = some e1 ∧ t e1 = some (true, e2) ∧ m e2 = some (F d, e3) ∧ wipeE vs e3 = some env) :
    lcGo vs g t m ds env = some (ds.map F, env) := by
  induction ds with
  | nil => rfl
  | cons d ds ih =>
    obtain ⟨e1, e2, e3, h1, h2, h3, h4⟩ := step d List.mem_cons_self
    have ih' := ih fun d' hd => step d' (List.mem_cons_of_mem _ hd)
    simp only [lcGo, h1, h2, h3, h4, ih', Option.bind_some, if_true, List.map_cons]
/-- a comprehension with an if -/
theorem lc_filter {vs : List Nat} {g : GM} {t : TM} {m : EM} (ds : List D) (env : Env) (p : D → Bool) (F : D → D)
    (step : ∀ d, d ∈ ds → ∃ e1 e2, g d env = some e1 ∧ t e1 = some (p d, e2) ∧ (p d = true → ∃ e3, m e2 = some (F d, e3) ∧ wipeE vs e3 = some env) ∧ (p d = false → wipeE vs e2 = some env)) :
    lcGo vs g t m ds env = some ((ds.filter p).map F, env) := by
  induction ds with
  | nil => rfl
  | cons d ds ih =>
    obtain ⟨e1, e2, h1, h2, h3, h4⟩ := step d List.mem_cons_self
    have ih' := ih fun d' hd => step d' (List.mem_cons_of_mem _ hd)
    cases hp : p d with
    | true =>
      obtain ⟨e3, h5, h6⟩ := h3 hp
      rw [hp] at h2
      rw [List.filter_cons_of_pos hp]
      simp only [lcGo, h1, h2, h5, h6, ih', Option.bind_some, if_true, List.map_cons]
    | false =>
      rw [hp] at h2
      have h7 := h4 hp
      rw [List.filter_cons_of_neg (by rw [hp]; decide)]
      simp only [lcGo, h1, h2, h7, ih', Option.bind_some, Bool.false_eq_true, if_false]
theorem mem_rngD {n : Nat} {lo : Int} {d : D} (h : d ∈ rngD lo n) : ∃ i : Nat, i < n ∧ d = .int (lo + i) := by
  obtain ⟨i, hi⟩ := List.getElem?_of_mem h
  have hl : i < n := by have := (List.getElem?_eq_some_iff.mp hi).1; rw [rngD_len] at this; exact this
  rw [rngD_get n lo i hl] at hi
  exact ⟨i, hl, (Option.some.inj hi).symm⟩
theorem rngD_eq (lo : Int) : ∀ n : Nat, rngD lo n = (List.range n).map fun i => .int (lo + (i : Nat)) := fun n => by
  apply List.ext_getElem?
  intro i
  by_cases hi : i < n
  · rw [rngD_get n lo i hi, List.getElem?_map, List.getElem?_range hi]; rfl
  · rw [List.getElem?_eq_none (by rw [rngD_len]; omega), List.getElem?_eq_none (by simpa using hi)]
end PL
end

section
set_option maxRecDepth 100000
/-! M1: lists of data. -/
namespace PL
open PySem L2
theorem ixN_nat {n t : Nat} (h : t < n) : ixN n (t : Int) = some t := by
  unfold ixN
  rw [if_pos (by omega), if_pos (by omega)]; simp
theorem atI_map {α β : Type} (f : α → β) (xs : List α) (i : Int) : atI (xs.map f) i = (atI xs i).map f := by
  unfold atI
  rw [List.length_map]
  cases ixN xs.length i with
  | none => rfl
  | some j => simp
theorem atI_lt {α : Type} {xs : List α} {t : Nat} (h : t < xs.length) : atI xs (t : Int) = some xs[t] := by
  unfold atI
  rw [ixN_nat h, Option.bind_some, List.getElem?_eq_getElem h]
theorem cutL_map {α β : Type} (f : α → β) (xs : List α) (lo hi : Option Int) : cutL (xs.map f) lo hi = (cutL xs lo hi).map f := by
  unfold cutL
  rw [List.length_map, List.map_take, List.map_drop]
theorem cutL_len {α : Type} (xs : List α) (lo hi : Option Int) : (cutL xs lo hi).length ≤ xs.length := by
  unfold cutL
  rw [List.length_take, List.length_drop]
  omega
/-- what makes a state of the law's own chance -/
def Pots (f : PFn) : Prop := ∀ (ns : List Int) (t : Nat), ns.length ≤ 63 → t ≤ 1000 → ∃ w, f [.lst (ns.map .int), .int (t : Nat)] = some w ∧ Wl w
theorem emod_b (a : Int) {m : Int} (h : 0 < m) : 0 ≤ a % m ∧ a % m < m := ⟨Int.emod_nonneg _ (by omega), Int.emod_lt_of_pos _ h⟩
end PL
namespace PL
theorem natAbs_lit (n : Nat) : Int.natAbs (@OfNat.ofNat Int n instOfNat) = @OfNat.ofNat Nat n (instOfNatNat n) := rfl
end PL
namespace PL
open PySem L2
mutual
/-- data of depth at most n, no dicts -/
def okS : D → Nat → Bool
  | .non, _ => true
  | .bl _, _ => true
  | .int _, _ => true
  | .str _, _ => true
  | .lst ds, n => decide (0 < n) && decide (ds.length ≤ 16777216) && okSs ds (n - 1)
  | .tup ds, n => decide (0 < n) && decide (ds.length ≤ 16777216) && okSs ds (n - 1)
  | _, _ => false
def okSs : List D → Nat → Bool
  | [], _ => true
  | d :: ds, n => okS d n && okSs ds n
end
theorem okSs_get : ∀ {ds : List D} {n i : Nat} {d : D}, okSs ds n = true → ds[i]? = some d → okS d n = true
  | [], _, _, _, _, h => by cases h
  | d :: ds, n, 0, e, h, g => by rw [okSs, Bool.and_eq_true] at h; cases g; exact h.1
  | d :: ds, n, i + 1, e, h, g => by rw [okSs, Bool.and_eq_true] at h; exact okSs_get h.2 (by simpa using g)
theorem blsD_rep (n : Nat) : blsD (List.replicate n (.bl true)) = some (List.replicate n true) := by
  have := blsD_map (List.replicate n true)
  rwa [List.map_replicate] at this
theorem all_rep (n : Nat) : (List.replicate n true).all id = true := by
  rw [List.all_eq_true]
  intro x hx
  rw [(List.mem_replicate.mp hx).2]; rfl
theorem map_rep {α : Type} (d : D) : ∀ l : List α, (l.map fun _ => d) = List.replicate l.length d
  | [] => rfl
  | _ :: l => by rw [List.map_cons, map_rep d l]; rfl
end PL
namespace PL
open PySem L2
/-! ### bodies, a statement at a time -/
theorem seq_nx {m n : SM} {env e : PL.Env} (h : m env = some (.nx, e)) : sSeq m n env = n e := by
  show (m env).bind _ = _
  rw [h]; rfl
theorem seq_rt {m n : SM} {env e : PL.Env} {b : Bool} {d : D} (h : m env = some (.rt b d, e)) : sSeq m n env = some (.rt b d, e) := by
  show (m env).bind _ = _
  rw [h]; rfl
theorem if_t {t : TM} {m n : SM} {env e : PL.Env} (h : t env = some (true, e)) : sIf t m n env = m e := by
  show (t env).bind _ = _
  rw [h]; rfl
theorem if_f {t : TM} {m n : SM} {env e : PL.Env} (h : t env = some (false, e)) : sIf t m n env = n e := by
  show (t env).bind _ = _
  rw [h]; rfl
theorem asg_nx {m : EM} {g : GM} {env e e' : PL.Env} {d : D} (h : m env = some (d, e)) (hg : g d e = some e') : sAsg m g env = some (.nx, e') := by
  show (m env).bind _ = _
  rw [h, Option.bind_some]
  show (g d e).bind _ = _
  rw [hg]; rfl
theorem retF_of {m : EM} {env e : PL.Env} {d : D} (h : m env = some (d, e)) : sRetF m env = some (.rt true d, e) := by
  show (m env).bind _ = _
  rw [h]; rfl
theorem ret_of {m : EM} {env e : PL.Env} {d : D} (h : m env = some (d, e)) : sRet m env = some (.rt (!isMutD d) d, e) := by
  show (m env).bind _ = _
  rw [h]; rfl
theorem and_f {m n : EM} {env e : PL.Env} {d : D} (h : m env = some (d, e)) (ht : truth d = some false) : eAnd m n env = some (d, e) := by
  show (m env).bind _ = _
  rw [h, Option.bind_some]
  show (truth d).bind _ = _
  rw [ht]; rfl
theorem and_t {m n : EM} {env e : PL.Env} {d : D} (h : m env = some (d, e)) (ht : truth d = some true) : eAnd m n env = n e := by
  show (m env).bind _ = _
  rw [h, Option.bind_some]
  show (truth d).bind _ = _
  rw [ht]; rfl
theorem runP_of {k n : Nat} {body : SM} {ds : List D} {d : D} {e : PL.Env} (hk : ds.length = k) (h : body (envOf (List.replicate k false) ds ++ List.replicate (n - ds.length) .no) = some (.rt true d, e)) (ho : outsOf (List.replicate k false) e = some (ds.map fun _ => .non)) : runP true k n body ds = some d := by
  unfold runP runFn
  rw [if_pos (by simpa using hk), h, Option.bind_some]
  show (((retOf true (.rt true d)).bind fun d => (outsOf (List.replicate k false) e).map fun os => (d, os))).map _ = _
  rw [ho]; rfl
end PL
namespace PL
open PySem L2
/-! ### expressions, a step at a time -/
theorem lc_of {src : IM} {vs : List Nat} {g : GM} {t : TM} {m : EM} {env e1 e2 e : PL.Env} {ds ys : List D} (h1 : src env = some (ds, e1)) (hz : ds.length ≤ 16777216) (hw : wipeE vs e1 = some e2) (hg : lcGo vs g t m ds e2 = some (ys, e)) : eLc src vs g t m env = some (.lst ys, e) := by
  simp only [eLc, h1, hz, hw, hg, Option.bind_some, if_true]
theorem smallI_nat {n : Nat} (h : n ≤ 16777216) : smallI (n : Int) = true := by
  have h1 : (n : Int).natAbs < 2 ^ 62 := by omega
  exact decide_eq_true h1
theorem r1_of {m : EM} {env e : PL.Env} {n : Nat} (h : m env = some (.int n, e)) (hz : n ≤ 16777216) : iR1 m env = some (rngD 0 n, e) := by
  simp only [iR1, h, Option.bind_some, asI, smallI_nat hz, if_true, Int.toNat_natCast]
theorem app_of {g : List D → Option D} {as : List Arg} {env e : PL.Env} {ds : List D} {d : D} (h : evA as env = some (ds, e)) (hg : g ds = some d) : eApp g as env = some (d, e) := by
  show (evA as env).bind _ = _
  rw [h, Option.bind_some]
  show (g ds).bind _ = _
  rw [hg]; rfl
theorem ev1 {m : EM} {env e : PL.Env} {d : D} (h : m env = some (d, e)) : evA [.v m] env = some ([d], e) := by
  show (m env).bind _ = _
  rw [h]; rfl
theorem ev2 {m n : EM} {env e e' : PL.Env} {d d' : D} (h : m env = some (d, e)) (h' : n e = some (d', e')) : evA [.v m, .v n] env = some ([d, d'], e') := by
  show (m env).bind _ = _
  rw [h, Option.bind_some]
  show (evA [.v n] e).bind _ = _
  rw [ev1 h']; rfl
theorem tB_of {m : EM} {env e : PL.Env} {b : Bool} (h : m env = some (.bl b, e)) : tB_ m env = some (b, e) := by
  show (m env).bind _ = _
  rw [h]; rfl
theorem tTr_of {m : EM} {env e : PL.Env} {d : D} {b : Bool} (h : m env = some (d, e)) (ht : truth d = some b) : tTr (.v m) env = some (b, e) := by
  show (evA [.v m] env).bind _ = _
  rw [ev1 h, Option.bind_some]
  show (truth d).bind _ = _
  rw [ht]; rfl
theorem tNo_of {t : TM} {env e : PL.Env} {b : Bool} (h : t env = some (b, e)) : tNo t env = some (!b, e) := by
  show (t env).map _ = _
  rw [h]; rfl
theorem or_f {t u : TM} {env e : PL.Env} (h : t env = some (false, e)) : tOrr t u env = u e := by
  show (t env).bind _ = _
  rw [h]; rfl
theorem or_t {t u : TM} {env e : PL.Env} (h : t env = some (true, e)) : tOrr t u env = some (true, e) := by
  show (t env).bind _ = _
  rw [h]; rfl
theorem an_t {t u : TM} {env e : PL.Env} (h : t env = some (true, e)) : tAn t u env = u e := by
  show (t env).bind _ = _
  rw [h]; rfl
theorem an_f {t u : TM} {env e : PL.Env} (h : t env = some (false, e)) : tAn t u env = some (false, e) := by
  show (t env).bind _ = _
  rw [h]; rfl
theorem call_of {k : Nat} {f : PFn} {ms : List EM} {env e : PL.Env} {ds : List D} {d : D} (h : evL ms env = some (ds, e)) (hk : ds.length = k) (hf : f ds = some d) : eCall k f ms env = some (d, e) := by
  show (evL ms env).bind _ = _
  rw [h, Option.bind_some]
  show (if ds.length = k then (f ds).bind _ else none) = _
  rw [if_pos hk, hf]; rfl
theorem callK_of {π : List Nat} {k : Nat} {f : PFn} {ms : List EM} {env e : PL.Env} {ds es : List D} {d : D} (h : evL ms env = some (ds, e)) (hk : π.length = k) (hp : perm D.non π ds = es) (hf : f es = some d) : eCallK π k f ms env = some (d, e) := by
  show (evL ms env).bind _ = _
  rw [h, Option.bind_some]
  show (if π.length = k then (f (perm D.non π ds)).bind _ else none) = _
  rw [if_pos hk, hp, hf]; rfl
theorem callIo_of {f : Fn} {as : List CA} {env e : PL.Env} {ds os : List D} {d : D} (h : evC as env = some (ds, e)) (hf : f ds = some (d, os)) (hn : (ioSl as).Nodup := by decide) : eCallIo f as env = some (d, putOuts as os e) := by
  show (evC as env).bind _ = _
  rw [h, Option.bind_some]
  show (f ds).bind _ = _
  rw [hf, Option.bind_some]
  show (if (ioSl as).Nodup then _ else none) = _
  rw [if_pos hn]
theorem evL0 {env : PL.Env} : evL [] env = some ([], env) := rfl
theorem evLc {m : EM} {ms : List EM} {env e e' : PL.Env} {d : D} {ds : List D} (h : m env = some (d, e)) (h' : evL ms e = some (ds, e')) : evL (m :: ms) env = some (d :: ds, e') := by
  show (m env).bind _ = _
  rw [h, Option.bind_some]
  show (evL ms e).bind _ = _
  rw [h']; rfl
theorem tup_of {ms : List EM} {env e : PL.Env} {ds : List D} (h : evL ms env = some (ds, e)) : eTup ms env = some (.tup ds, e) := by
  show (evL ms env).map _ = _
  rw [h]; rfl
theorem lst_of {ms : List EM} {env e : PL.Env} {ds : List D} (h : evL ms env = some (ds, e)) : eLst ms env = some (.lst ds, e) := by
  show (evL ms env).map _ = _
  rw [h]; rfl
theorem for_nx {src : IM} {g : GM} {body : SM} {env e1 e : PL.Env} {ds : List D} (h : src env = some (ds, e1)) (hf : forGo g body ds e1 = some (.nx, e)) : sFor src g body env = some (.nx, e) := by
  show (src env).bind _ = _
  rw [h]; exact hf
theorem drop_of {m : EM} {env e : PL.Env} {d : D} (h : m env = some (d, e)) : sDrop m env = some (.nx, e) := by
  show (m env).bind _ = _
  rw [h]; rfl
theorem own_of {m : EM} {i : Nat} {env e : PL.Env} {d : D} (h : m env = some (d, e)) (hf : free e i = true) : sOwn m i env = some (.nx, e.set i (mkOwn d)) := by
  show (m env).bind _ = _
  rw [h, Option.bind_some]
  show (if free e i = true then _ else none) = _
  rw [if_pos hf]
end PL
namespace PL
open PySem L2
theorem r2_of {m n : EM} {env e1 e2 : PL.Env} {lo hi : Int} (h1 : m env = some (.int lo, e1)) (h2 : n e1 = some (.int hi, e2)) (hl : smallI lo = true) (hh : smallI hi = true) : iR2 m n env = some (rngD lo (hi - lo).toNat, e2) := by
  simp only [iR2, h1, h2, Option.bind_some, asI, hl, hh, Bool.and_self, if_true]
end PL
end

section
set_option maxRecDepth 100000
namespace K75
open PySem PySem.Spec PyProof.Rows L2 PL

def b_is_whole : SM :=
    sRet (eAnd (eApp dIsi [.v (eVar 0), .v (eC (.opq (.ty "int")))]) (eNot (.v (eApp dIsi [.v (eVar 0), .v (eC (.opq (.ty "bool")))]))))
def m_is_whole : PFn := runP true 1 1 b_is_whole
def b_is_between : SM :=
    sRet (eAnd (eCall 1 m_is_whole [eVar 0]) (eChain dLe dLe (eVar 1) (eVar 0) (eVar 2)))
def m_is_between : PFn := runP true 3 3 b_is_between
def b_check_number : SM :=
    sIf (tNo (tTr (.v (eCall 3 m_is_between [eVar 0, eVar 1, eVar 2])))) (sNever) (sNop)
def m_check_number : PFn := runP true 3 3 b_check_number
def b_sum_counts : SM :=
    sSeq (sOwn (eApp dAdd [.v (eLst [eC (.int 1)]), .v (eApp dMul [.v (eLst [eC (.int 0)]), .v (eVar 0)])]) 1)
    (sSeq (sFor (iR2 (eC (.int 1)) (eApp dAdd [.v (eVar 0), .v (eC (.int 1))])) (gN 2) (sOwn (eLc (iR1 (eApp dAdd [.v (eVar 0), .v (eC (.int 1))])) [3] (gN 3) (tTrue) (eApp dAdd [.v (eApp dIx [.b 1, .v (eVar 3)]), .v (eApp dIx [.b 1, .v (eApp dSub [.v (eVar 3), .v (eVar 2)])])])) 1))
    (sRetO 1))
def m_sum_counts : PFn := runP true 1 4 b_sum_counts
def b_sum_count : SM :=
    sSeq (sDrop (eCall 3 m_check_number [eVar 0, eC (.int 1), eC (.int (60))]))
    (sSeq (sDrop (eCall 3 m_check_number [eVar 1, eC (.int 0), eVar 0]))
    (sRet (eApp dIx [.v (eCall 1 m_sum_counts [eVar 0]), .v (eVar 1)])))
def m_sum_count : PFn := runP true 2 2 b_sum_count
def b__law_pot : SM :=
    sSeq (sAsg (eIf (tB_ (eApp dLt [.v (eVar 1), .v (eApp dLen [.v (eVar 0)])])) (eApp dInt [.v (eApp dIx [.v (eVar 0), .v (eVar 1)])]) (eApp dAdd [.v (eApp dAdd [.v (eApp dMul [.v (eC (.int 7907)), .v (eVar 1)]), .v (eC (.int 37))]), .v (eApp dMod [.v (eApp dInt [.v (eApp dSum [.v (eSl dSl (.v (eVar 0)) oNo (oSo (eC (.int 3))))])]), .v (eC (.int 1000033))])])) (gN 2))
    (sSeq (sAsg (eApp dAdd [.v (eC (.int 1000547)), .v (eApp dMul [.v (eC (.int 8269)), .v (eVar 1)])]) (gN 3))
    (sSeq (sFor (iOf (eApp dAdd [.v (eSl dSl (.v (eVar 0)) oNo (oSo (eC (.int 7)))), .v (eLst [eVar 2])])) (gN 4) (sAsg (eApp dMod [.v (eApp dInt [.v (eApp dAdd [.v (eApp dAdd [.v (eApp dMul [.v (eVar 3), .v (eC (.int 69621))]), .v (eApp dMod [.v (eApp dInt [.v (eVar 4)]), .v (eC (.int 2147483563))])]), .v (eC (.int 23))])]), .v (eC (.int 2147483563))]) (gN 3)))
    (sRetF (eLst [eIf (tOrr (tB_ (eApp dLt [.v (eVar 2), .v (eC (.int 0))])) (tB_ (eApp dGe [.v (eVar 2), .v (eApp dPow [.v (eC (.int 10)), .v (eC (.int 18))])]))) (eApp dAbs [.v (eVar 2)]) (eC (.int 0)), eVar 3, eC (.int 0)]))))
def m__law_pot : PFn := runP true 2 5 b__law_pot
def b__law_draw : SM :=
    sSeq (sIf (tB_ (eApp dGt [.v (eApp dIx [.b 0, .v (eC (.int 0))]), .v (eC (.int 0))])) (sSeq (sAsg (eApp dDivmod [.v (eApp dIx [.b 0, .v (eC (.int 0))]), .v (eVar 1)]) (gT 2 (gsC (gIx 0 (eC (.int 0))) (gsC (gN 2) (gsN)))))
    (sRetO 2)) (sNop))
    (sSeq (sAsg (eApp dAdd [.v (eApp dIx [.b 0, .v (eC (.int 2))]), .v (eC (.int 1))]) (gIx 0 (eC (.int 2))))
    (sSeq (sAsg (eApp dMod [.v (eApp dInt [.v (eApp dAdd [.v (eApp dAdd [.v (eApp dMul [.v (eApp dIx [.b 0, .v (eC (.int 1))]), .v (eApp dAdd [.v (eApp dMod [.v (eApp dInt [.v (eApp dIx [.b 0, .v (eC (.int 1))])]), .v (eC (.int 10007))]), .v (eC (.int 20011))])]), .v (eApp dMul [.v (eC (.int 60013)), .v (eApp dIx [.b 0, .v (eC (.int 2))])])]), .v (eC (.int 61))])]), .v (eC (.int 2147483563))]) (gIx 0 (eC (.int 1))))
    (sRetF (eApp dMod [.v (eApp dInt [.v (eApp dFdiv [.v (eApp dIx [.b 0, .v (eC (.int 1))]), .v (eC (.int 97))])]), .v (eVar 1)]))))
def m__law_draw : Fn := runFn ⟨[true, false], true⟩ 3 b__law_draw
def b__law_pick : SM :=
    sRet (eApp dIx [.v (eVar 1), .v (eCallIo m__law_draw [.io 0, .v (eApp dLen [.v (eVar 1)])])])
def m__law_pick : Fn := runFn ⟨[true, false], true⟩ 2 b__law_pick
def b__law_same (self : PFn) : SM :=
    sSeq (sIf (tOrr (tAn (tTr (.v (eApp dIsi [.v (eVar 1), .v (eC (.opq (.ty "tuple")))]))) (tTr (.v (eApp dIsi [.v (eVar 0), .v (eC (.opq (.ty "tuple")))])))) (tAn (tTr (.v (eApp dIsi [.v (eVar 1), .v (eC (.opq (.ty "list")))]))) (tTr (.v (eApp dIsi [.v (eVar 0), .v (eC (.opq (.ty "list")))]))))) (sRet (eAnd (eApp dEq [.v (eApp dLen [.v (eVar 0)]), .v (eApp dLen [.v (eVar 1)])]) (eApp dAll [.v (eLc (iR1 (eApp dLen [.v (eVar 1)])) [2] (gN 2) (tTrue) (eCall 2 self [eApp dIx [.v (eVar 0), .v (eVar 2)], eApp dIx [.v (eVar 1), .v (eVar 2)]]))]))) (sNop))
    (sSeq (sIf (tOrr (tTr (.v (eApp dIsi [.v (eVar 1), .v (eC (.opq (.ty "tuple")))]))) (tOrr (tTr (.v (eApp dIsi [.v (eVar 1), .v (eC (.opq (.ty "list")))]))) (tB_ (eApp dNe [.v (eApp dIsi [.v (eVar 1), .v (eC (.opq (.ty "bool")))]), .v (eApp dIsi [.v (eVar 0), .v (eC (.opq (.ty "bool")))])])))) (sRetF (eC (.bl false))) (sNop))
    (sSeq (sIf (tOrr (tB_ (eApp dNe [.v (eApp dIsi [.v (eVar 1), .v (eC (.opq (.ty "int")))]), .v (eApp dIsi [.v (eVar 0), .v (eC (.opq (.ty "int")))])])) (tB_ (eApp dNe [.v (eApp dIsi [.v (eVar 1), .v (eC (.opq (.ty "str")))]), .v (eApp dIsi [.v (eVar 0), .v (eC (.opq (.ty "str")))])]))) (sRetF (eC (.bl false))) (sNop))
    (sRetF (eIf (tB_ (eApp dIs [.v (eVar 1), .v (eC .non)])) (eApp dIs [.v (eVar 0), .v (eC .non)]) (eApp dEq [.v (eVar 0), .v (eVar 1)])))))
def m__law_same : Nat → PFn
  | 0 => fun _ => none
  | n + 1 => runP true 2 3 (b__law_same (m__law_same n))
def b__law_all : SM :=
    sSeq (sAsg (eLst [eC (.str [])]) (gN 1))
    (sSeq (sFor (iR1 (eVar 0)) (gN 2) (sSeq (sAsg (eLst []) (gN 3))
    (sSeq (sFor (iOf (eVar 1)) (gN 4) (sAsg (eApp dAdd [.v (eVar 3), .v (eLst [eApp dAdd [.v (eVar 4), .v (eC (.str [111]))], eApp dAdd [.v (eVar 4), .v (eC (.str [118]))]])]) (gN 3)))
    (sAsg (eVar 3) (gN 1)))))
    (sRet (eVar 1)))
def m__law_all : PFn := runP false 1 5 b__law_all
def b__law_sum : SM :=
    sRetF (eApp dMod [.v (eApp dInt [.v (eApp dSum [.v (eLc (iEnM (eVar 0)) [1, 2] (gT 2 (gsC (gN 1) (gsC (gN 2) (gsN)))) (tB_ (eApp dEq [.v (eVar 2), .v (eC (.str [118]))])) (eApp dAdd [.v (eVar 1), .v (eC (.int 1))]))])]), .v (eApp dAdd [.v (eApp dLen [.v (eVar 0)]), .v (eC (.int 1))])])
def m__law_sum : PFn := runP true 1 3 b__law_sum
def b__law_counts : SM :=
    sSeq (sOwn (eApp dAdd [.v (eLst [eC (.int 1)]), .v (eApp dMul [.v (eLst [eC (.int 0)]), .v (eVar 0)])]) 1)
    (sSeq (sFor (iR1 (eVar 0)) (gN 2) (sOwn (eLc (iR1 (eApp dAdd [.v (eVar 0), .v (eC (.int 1))])) [3] (gN 3) (tTrue) (eApp dAdd [.v (eApp dIx [.b 1, .v (eVar 3)]), .v (eApp dIx [.b 1, .v (eApp dMod [.v (eApp dInt [.v (eApp dSub [.v (eApp dSub [.v (eVar 3), .v (eVar 2)]), .v (eC (.int 1))])]), .v (eApp dAdd [.v (eVar 0), .v (eC (.int 1))])])])])) 1))
    (sRetO 1))
def m__law_counts : PFn := runP true 1 4 b__law_counts
def b__law_common : SM :=
    sSeq (sAsg (eC (.int 0)) (gN 2))
    (sSeq (sWhile 16777216 (tAn (tB_ (eApp dNe [.v (eVar 1), .v (eC (.int 0))])) (tB_ (eApp dLt [.v (eVar 2), .v (eC (.int 100))]))) (sPar3 0 1 2 (false, eVar 1) (false, eApp dMod [.v (eApp dInt [.v (eVar 0)]), .v (eVar 1)]) (false, eApp dAdd [.v (eVar 2), .v (eC (.int 1))])))
    (sRet (eVar 0)))
def m__law_common : PFn := runP true 2 3 b__law_common
def b__law_first : SM :=
    sSeq (sPar2 2 3 (false, eApp dAdd [.v (eVar 0), .v (eC (.int 1))]) (false, eC (.int 0)))
    (sSeq (sFor (iR3 (eC (.int 1)) (eApp dAdd [.v (eVar 2), .v (eC (.int 1))]) (eC (.int 2))) (gN 1) (sIf (tB_ (eApp dEq [.v (eApp dMod [.v (eApp dInt [.v (eVar 2)]), .v (eVar 1)]), .v (eC (.int 0))])) (sSeq (sAsg (eApp dShl [.v (eC (.int 1)), .v (eApp dFdiv [.v (eVar 2), .v (eVar 1)])]) (gN 4))
    (sAsg (eApp dAdd [.v (eVar 3), .v (eApp dMul [.v (eApp dLen [.v (eLc (iR2 (eC (.int 1)) (eApp dAdd [.v (eVar 1), .v (eC (.int 1))])) [5] (gN 5) (tB_ (eApp dEq [.v (eCall 2 m__law_common [eVar 5, eVar 1]), .v (eC (.int 1))])) (eVar 5))]), .v (eVar 4)])]) (gN 3))) (sNop)))
    (sRetF (eApp dFdiv [.v (eVar 3), .v (eApp dMul [.v (eC (.int 2)), .v (eVar 2)])])))
def m__law_first : PFn := runP true 1 6 b__law_first
def b__law_is_right : SM :=
    sSeq (sAsg (eCall 1 m__law_counts [eVar 0]) (gN 1))
    (sSeq (sAsg (eLc (iR1 (eApp dAdd [.v (eVar 0), .v (eC (.int 1))])) [3] (gN 3) (tTrue) (eCall 2 m_sum_count [eVar 0, eVar 3])) (gN 2))
    (sSeq (sIf (tOrr (tNo (tTr (.v (eCall 2 (m__law_same 8) [eVar 2, eVar 1])))) (tOrr (tB_ (eApp dNe [.v (eApp dSum [.v (eVar 2)]), .v (eApp dShl [.v (eC (.int 1)), .v (eVar 0)])])) (tOrr (tB_ (eApp dNe [.v (eApp dMax [.v (eVar 2)]), .v (eApp dIx [.v (eVar 2), .v (eC (.int 0))])])) (tB_ (eApp dNe [.v (eApp dIx [.v (eVar 2), .v (eC (.int 0))]), .v (eCall 1 m__law_first [eVar 0])]))))) (sRetF (eC (.bl false))) (sNop))
    (sSeq (sFor (iR1 (eApp dAdd [.v (eVar 0), .v (eC (.int 1))])) (gN 3) (sIf (tB_ (eApp dNe [.v (eApp dIx [.v (eVar 2), .v (eVar 3)]), .v (eApp dIx [.v (eVar 2), .v (eApp dMod [.v (eApp dInt [.v (eCall 2 m__law_common [eVar 3, eApp dAdd [.v (eVar 0), .v (eC (.int 1))]])]), .v (eApp dAdd [.v (eVar 0), .v (eC (.int 1))])])])])) (sRetF (eC (.bl false))) (sNop)))
    (sRetF (eCall 2 (m__law_same 8) [eLc (iOf (eTup [eC (.int 0), eVar 0])) [3] (gN 3) (tTrue) (eCallK [1, 0] 2 m_sum_count [eVar 3, eVar 0]), eLst [eApp dIx [.v (eVar 1), .v (eC (.int 0))], eApp dIx [.v (eVar 1), .v (eVar 0)]]])))))
def m__law_is_right : PFn := runP true 1 4 b__law_is_right
def b__law_right : SM :=
    sSeq (sFor (iR1 (eC (.int 6))) (gN 1) (sIf (tNo (tTr (.v (eCall 1 m__law_is_right [eCallIo m__law_pick [.io 0, .v (eTup [eApp dAdd [.v (eC (.int 1)), .v (eCallIo m__law_draw [.io 0, .v (eC (.int 60))])], eApp dAdd [.v (eC (.int 1)), .v (eCallIo m__law_draw [.io 0, .v (eC (.int 60))])], eC (.int 59), eC (.int 60)])]])))) (sRetF (eC (.bl false))) (sNop)))
    (sRetF (eC (.bl true)))
def m__law_right : Fn := runFn ⟨[true], true⟩ 2 b__law_right
def b_law : SM :=
    sSeq (sFor (iR2 (eC (.int 1)) (eC (.int 11))) (gN 1) (sSeq (sOwn (eApp dMul [.v (eLst [eC (.int 0)]), .v (eApp dAdd [.v (eVar 1), .v (eC (.int 1))])]) 2)
    (sSeq (sFor (iOf (eCall 1 m__law_all [eVar 1])) (gN 3) (sAsg (eApp dAdd [.v (eApp dIx [.b 2, .v (eCall 1 m__law_sum [eVar 3])]), .v (eC (.int 1))]) (gIx 2 (eCall 1 m__law_sum [eVar 3]))))
    (sIf (tOrr (tB_ (eApp dNe [.b 2, .v (eCall 1 m__law_counts [eVar 1])])) (tNo (tTr (.v (eCall 1 m__law_is_right [eVar 1]))))) (sRetF (eC (.bl false))) (sNop)))))
    (sRetF (eApp dAll [.v (eLc (iR1 (eApp dMax [.v (eC (.int 2)), .v (eApp dMin [.v (eApp dLen [.v (eVar 0)]), .v (eC (.int 4))])])) [4] (gN 4) (tTrue) (eCallIo m__law_right [.t (eCall 2 m__law_pot [eVar 0, eVar 4])]))]))
def m_law : PFn := runP true 1 5 b_law
end K75
end

section
set_option maxRecDepth 100000
set_option maxHeartbeats 4000000
namespace K75
open PySem PySem.Spec PyProof.Rows L2 PL

def topS (i : Nat) : Stmt := PySem.Challenge.pw_notchdeck_k75_whole_counts_of_sums.main.body.getD i (.Pass ⟨0, 0, 0, 0⟩)
abbrev s_is_whole : Stmt := topS 1
abbrev N_is_whole : List Str := ["value"]
theorem sc_is_whole : FnScope N_is_whole ["value"] (defScope s_is_whole) := ⟨rfl, rfl, rfl, by decide +kernel, rfl, by decide +kernel, by decide +kernel⟩
abbrev s_is_between : Stmt := topS 2
abbrev N_is_between : List Str := ["value", "low", "high"]
theorem sc_is_between : FnScope N_is_between ["value", "low", "high"] (defScope s_is_between) := ⟨rfl, rfl, rfl, by decide +kernel, rfl, by decide +kernel, by decide +kernel⟩
abbrev s_check_number : Stmt := topS 7
abbrev N_check_number : List Str := ["value", "low", "high"]
theorem sc_check_number : FnScope N_check_number ["value", "low", "high"] (defScope s_check_number) := ⟨rfl, rfl, rfl, by decide +kernel, rfl, by decide +kernel, by decide +kernel⟩
abbrev s_sum_counts : Stmt := topS 9
abbrev N_sum_counts : List Str := ["many", "found", "worth", "rest"]
theorem sc_sum_counts : FnScope N_sum_counts ["many"] (defScope s_sum_counts) := ⟨rfl, rfl, rfl, by decide +kernel, rfl, by decide +kernel, by decide +kernel⟩
abbrev s_sum_count : Stmt := topS 12
abbrev N_sum_count : List Str := ["number", "rest"]
theorem sc_sum_count : FnScope N_sum_count ["number", "rest"] (defScope s_sum_count) := ⟨rfl, rfl, rfl, by decide +kernel, rfl, by decide +kernel, by decide +kernel⟩
abbrev s__law_pot : Stmt := topS 14
abbrev N__law_pot : List Str := ["script", "turn", "cell", "stirred", "each"]
theorem sc__law_pot : FnScope N__law_pot ["script", "turn"] (defScope s__law_pot) := ⟨rfl, rfl, rfl, by decide +kernel, rfl, by decide +kernel, by decide +kernel⟩
abbrev s__law_draw : Stmt := topS 15
abbrev N__law_draw : List Str := ["pot", "many", "digit"]
theorem sc__law_draw : FnScope N__law_draw ["pot", "many"] (defScope s__law_draw) := ⟨rfl, rfl, rfl, by decide +kernel, rfl, by decide +kernel, by decide +kernel⟩
abbrev s__law_pick : Stmt := topS 16
abbrev N__law_pick : List Str := ["pot", "some"]
theorem sc__law_pick : FnScope N__law_pick ["pot", "some"] (defScope s__law_pick) := ⟨rfl, rfl, rfl, by decide +kernel, rfl, by decide +kernel, by decide +kernel⟩
abbrev s__law_same : Stmt := topS 17
abbrev N__law_same : List Str := ["told", "due", "at"]
theorem sc__law_same : FnScope N__law_same ["told", "due"] (defScope s__law_same) := ⟨rfl, rfl, rfl, by decide +kernel, rfl, by decide +kernel, by decide +kernel⟩
abbrev s__law_all : Stmt := topS 20
abbrev N__law_all : List Str := ["many", "found", "hole", "longer", "card"]
theorem sc__law_all : FnScope N__law_all ["many"] (defScope s__law_all) := ⟨rfl, rfl, rfl, by decide +kernel, rfl, by decide +kernel, by decide +kernel⟩
abbrev s__law_sum : Stmt := topS 21
abbrev N__law_sum : List Str := ["card", "hole", "sign"]
theorem sc__law_sum : FnScope N__law_sum ["card"] (defScope s__law_sum) := ⟨rfl, rfl, rfl, by decide +kernel, rfl, by decide +kernel, by decide +kernel⟩
abbrev s__law_counts : Stmt := topS 24
abbrev N__law_counts : List Str := ["many", "row", "hole", "k"]
theorem sc__law_counts : FnScope N__law_counts ["many"] (defScope s__law_counts) := ⟨rfl, rfl, rfl, by decide +kernel, rfl, by decide +kernel, by decide +kernel⟩
abbrev s__law_common : Stmt := topS 25
abbrev N__law_common : List Str := ["one", "other", "laps"]
theorem sc__law_common : FnScope N__law_common ["one", "other"] (defScope s__law_common) := ⟨rfl, rfl, rfl, by decide +kernel, rfl, by decide +kernel, by decide +kernel⟩
abbrev s__law_first : Stmt := topS 26
abbrev N__law_first : List Str := ["many", "d", "whole", "found", "power", "k"]
theorem sc__law_first : FnScope N__law_first ["many"] (defScope s__law_first) := ⟨rfl, rfl, rfl, by decide +kernel, rfl, by decide +kernel, by decide +kernel⟩
abbrev s__law_is_right : Stmt := topS 27
abbrev N__law_is_right : List Str := ["many", "due", "told", "rest"]
theorem sc__law_is_right : FnScope N__law_is_right ["many"] (defScope s__law_is_right) := ⟨rfl, rfl, rfl, by decide +kernel, rfl, by decide +kernel, by decide +kernel⟩
abbrev s__law_right : Stmt := topS 28
abbrev N__law_right : List Str := ["pot", "turn"]
theorem sc__law_right : FnScope N__law_right ["pot"] (defScope s__law_right) := ⟨rfl, rfl, rfl, by decide +kernel, rfl, by decide +kernel, by decide +kernel⟩
abbrev s_law : Stmt := topS 29
abbrev N_law : List Str := ["script", "many", "found", "card", "turn"]
theorem sc_law : FnScope N_law ["script"] (defScope s_law) := ⟨rfl, rfl, rfl, by decide +kernel, rfl, by decide +kernel, by decide +kernel⟩
section
variable {P : Program} {w : World} {K : PySem.W.Frag} {mg : Str → Option Value} {base : Heap}
theorem ok_is_whole {f : Addr} {fd : FuncData} (F : Fun K "is_whole" "is_whole" s_is_whole f fd) (h_bool : mg "bool" = none) (h_int : mg "int" = none) (h_isinstance : mg "isinstance" = none) : FnOk P w K mg base CX0 1 f fd ["value"] (spF K 1 true m_is_whole) := by
  have nd := sc_is_whole.nd
  have h := fn_pure (P := P) (w := w) (mg := mg) (base := base) (fr := true) (np := 1) (k := 0) (body := b_is_whole) F sc_is_whole rfl (fun cdv A outer s H E hr => (ss_one (s_ret (e_and (e_sh (e_callB o_isi rfl h_isinstance boot_isinstance (pargs_cons (p_v (e_v 0)) (pargs_cons (p_v (e_ty rfl h_int boot_int)) pargs_nil)))) (e_one (e_sh (e_not (p_f (e_callB o_isi rfl h_isinstance boot_isinstance (pargs_cons (p_v (e_v 0)) (pargs_cons (p_v (e_ty rfl h_bool boot_bool)) pargs_nil)))))))))))
  exact h
theorem ok_is_between {f : Addr} {fd : FuncData} (F : Fun K "is_between" "is_between" s_is_between f fd) (C_is_whole : Callee P w K mg base "is_whole" 1 ["value"] [] (spF K 1 true m_is_whole)) : FnOk P w K mg base CX0 2 f fd ["value", "low", "high"] (spF K 3 true m_is_between) := by
  have nd := sc_is_between.nd
  have h := fn_pure (P := P) (w := w) (mg := mg) (base := base) (fr := true) (np := 3) (k := 1) (body := b_is_between) F sc_is_between rfl (fun cdv A outer s H E hr => (ss_one (s_ret (e_and (e_sh (c_call C_is_whole hr (by decide) (pes_cons (e_v 0) pes_nil))) (e_one (e_sh (e_chain o_le o_le (e_v 1) (e_v 0) (e_v 2))))))))
  exact h
theorem ok_check_number {f : Addr} {fd : FuncData} (F : Fun K "check_number" "check_number" s_check_number f fd) (C_is_between : Callee P w K mg base "is_between" 2 ["value", "low", "high"] [] (spF K 3 true m_is_between)) : FnOk P w K mg base CX0 3 f fd ["value", "low", "high"] (spF K 3 true m_check_number) := by
  have nd := sc_check_number.nd
  have h := fn_pure (P := P) (w := w) (mg := mg) (base := base) (fr := true) (np := 3) (k := 2) (body := b_check_number) F sc_check_number rfl (fun cdv A outer s H E hr => (ss_one (s_if (t_not (t_truth (p_f (c_call C_is_between hr (by decide) (pes_cons (e_v 0) (pes_cons (e_v 1) (pes_cons (e_v 2) pes_nil))))))) (ss_one s_never) ss_nil)))
  exact h
theorem ok_sum_counts {f : Addr} {fd : FuncData} (F : Fun K "sum_counts" "sum_counts" s_sum_counts f fd) (h_range : mg "range" = none) : FnOk P w K mg base CX0 1 f fd ["many"] (spF K 1 true m_sum_counts) := by
  have nd := sc_sum_counts.nd
  have h := fn_pure (P := P) (w := w) (mg := mg) (base := base) (fr := true) (np := 1) (k := 0) (body := b_sum_counts) F sc_sum_counts rfl (fun cdv A outer s H E hr => (ss_cons (s_ow (i := 1) nd (e_bin o_add (p_f (e_lst (pes_cons (e_sh e_int) pes_nil))) (p_f (e_bin o_mul (p_f (e_lst (pes_cons (e_sh e_int) pes_nil))) (p_v (e_v 0))))))
      (ss_cons (s_loop rfl (i_r2 rfl h_range (pes_cons (e_sh e_int) (pes_cons (e_sh (e_bin o_add (p_v (e_v 0)) (p_f e_int))) pes_nil))) (g_nm 2 nd) (ss_one (s_ow (i := 1) nd (e_lc (own := [("rest", 3)]) rfl nd (i_r1 rfl h_range (pes_cons (e_sh (e_bin o_add (p_v (e_v 0)) (p_f e_int))) pes_nil)) (blkOk_by (N := N_sum_counts) (sc := defScope s_sum_counts) (by decide +kernel)) (fun _ _ _ _ _ => (g_nm 3 nd)) (fun _ _ _ _ _ => ts_nil) (fun _ _ _ _ _ => (e_sh (e_bin o_add (p_v (e_ix o_ix (p_o 1) (p_v (e_v 3)) (fun _ _ => rfl))) (p_v (e_ix o_ix (p_o 1) (p_f (e_bin o_sub (p_v (e_v 3)) (p_v (e_v 2)))) (fun _ _ => rfl))))))))))
      (ss_one (s_ro 1)))))
  exact h
theorem ok_sum_count {f : Addr} {fd : FuncData} (F : Fun K "sum_count" "sum_count" s_sum_count f fd) (h_MOST_COUNTED : ∃ v u, mg "MOST_COUNTED" = some u ∧ RelV v u ∧ ∀ H P, Rp K H P v (.int (60))) (C_check_number : Callee P w K mg base "check_number" 3 ["value", "low", "high"] [] (spF K 3 true m_check_number)) (C_sum_counts : Callee P w K mg base "sum_counts" 1 ["many"] [] (spF K 1 true m_sum_counts)) : FnOk P w K mg base CX0 4 f fd ["number", "rest"] (spF K 2 true m_sum_count) := by
  have nd := sc_sum_count.nd
  have h := fn_pure (P := P) (w := w) (mg := mg) (base := base) (fr := true) (np := 2) (k := 3) (body := b_sum_count) F sc_sum_count rfl (fun cdv A outer s H E hr => (ss_cons (s_expr (e_sh (c_call C_check_number hr (by decide) (pes_cons (e_v 0) (pes_cons (e_sh e_int) (pes_cons (e_glob rfl h_MOST_COUNTED) pes_nil))))))
      (ss_cons (s_expr (e_sh (c_call C_check_number hr (by decide) (pes_cons (e_v 1) (pes_cons (e_sh e_int) (pes_cons (e_v 0) pes_nil))))))
      (ss_one (s_ret (e_ix o_ix (p_f (c_call C_sum_counts hr (by decide) (pes_cons (e_v 0) pes_nil))) (p_v (e_v 1)) (fun _ _ => rfl)))))))
  exact h
theorem ok__law_pot {f : Addr} {fd : FuncData} (F : Fun K "_law_pot" "_law_pot" s__law_pot f fd) (h_abs : mg "abs" = none) (h_int : mg "int" = none) (h_len : mg "len" = none) (h_sum : mg "sum" = none) : FnOk P w K mg base CX0 1 f fd ["script", "turn"] (spF K 2 true m__law_pot) := by
  have nd := sc__law_pot.nd
  have h := fn_pure (P := P) (w := w) (mg := mg) (base := base) (fr := true) (np := 2) (k := 0) (body := b__law_pot) F sc__law_pot rfl (fun cdv A outer s H E hr => (ss_cons (s_st (i := 2) nd (e_sh (e_if (t_cmp (o_lt hr.units0) (p_v (e_v 1)) (p_f (e_callB o_len rfl h_len boot_len (pargs_cons (p_v (e_v 0)) pargs_nil))) (nomark _)) (e_callTy o_int rfl h_int boot_int (pargs_cons (p_v (e_ix o_ix (p_v (e_v 0)) (p_v (e_v 1)) (fun _ _ => rfl))) pargs_nil)) (e_bin o_add (p_f (e_bin o_add (p_f (e_bin o_mul (p_f e_int) (p_v (e_v 1)))) (p_f e_int))) (p_f (e_bin o_mod (p_f (e_callTy o_int rfl h_int boot_int (pargs_cons (p_f (e_callB (o_sum rfl) rfl h_sum boot_sum (pargs_cons (p_f (e_sl o_sl (p_v (e_v 0)) o_no (o_so (e_sh e_int)))) pargs_nil))) pargs_nil))) (p_f e_int)))))))
      (ss_cons (s_st (i := 3) nd (e_sh (e_bin o_add (p_f e_int) (p_f (e_bin o_mul (p_f e_int) (p_v (e_v 1)))))))
      (ss_cons (s_loop rfl (i_of (e_sh (e_bin o_add (p_f (e_sl o_sl (p_v (e_v 0)) o_no (o_so (e_sh e_int)))) (p_f (e_lst (pes_cons (e_v 2) pes_nil)))))) (g_nm 4 nd) (ss_one (s_st (i := 3) nd (e_sh (e_bin o_mod (p_f (e_callTy o_int rfl h_int boot_int (pargs_cons (p_f (e_bin o_add (p_f (e_bin o_add (p_f (e_bin o_mul (p_v (e_v 3)) (p_f e_int))) (p_f (e_bin o_mod (p_f (e_callTy o_int rfl h_int boot_int (pargs_cons (p_v (e_v 4)) pargs_nil))) (p_f e_int))))) (p_f e_int))) pargs_nil))) (p_f e_int))))))
      (ss_one (s_retF (e_lst (pes_cons (e_sh (e_if (PW.pt (w_or (t_cmp (o_lt hr.units0) (p_v (e_v 2)) (p_f e_int) (nomark _)) (w_or1 (t_cmp o_ge (p_v (e_v 2)) (p_f (e_bin o_pow (p_f e_int) (p_f e_int))) (nomark _))))) (e_callB o_abs rfl h_abs boot_abs (pargs_cons (p_v (e_v 2)) pargs_nil)) e_int)) (pes_cons (e_v 3) (pes_cons (e_sh e_int) pes_nil))))))))))
  exact h
theorem ok__law_draw {f : Addr} {fd : FuncData} (F : Fun K "_law_draw" "_law_draw" s__law_draw f fd) (h_divmod : mg "divmod" = none) (h_int : mg "int" = none) : FnOk P w K mg base CX0 1 f fd ["pot", "many"] (spP K ⟨[true, false], true⟩ m__law_draw) := by
  have nd := sc__law_draw.nd
  have h := fn_mk (P := P) (w := w) (mg := mg) (base := base) (sg := ⟨[true, false], true⟩) (k := 0) (body := b__law_draw) F sc__law_draw rfl (fun cdv A outer s H E hr => (ss_cons (s_if (t_cmp o_gt (p_v (e_ix o_ix (p_o 0) (p_f e_int) (fun _ _ => rfl))) (p_f e_int) (nomark _)) (ss_cons (s_asg (e_sh (e_callB o_divmod rfl h_divmod boot_divmod (pargs_cons (p_v (e_ix o_ix (p_o 0) (p_f e_int) (fun _ _ => rfl))) (pargs_cons (p_v (e_v 1)) pargs_nil)))) (g_t rfl (gs_cons (g_at 0 (e_sh e_int)) (gs_cons (g_nm 2 nd) gs_nil))))
      (ss_one (s_ro 2))) ss_nil)
      (ss_cons (s_asg (e_sh (e_bin o_add (p_v (e_ix o_ix (p_o 0) (p_f e_int) (fun _ _ => rfl))) (p_f e_int))) (g_at 0 (e_sh e_int)))
      (ss_cons (s_asg (e_sh (e_bin o_mod (p_f (e_callTy o_int rfl h_int boot_int (pargs_cons (p_f (e_bin o_add (p_f (e_bin o_add (p_f (e_bin o_mul (p_v (e_ix o_ix (p_o 0) (p_f e_int) (fun _ _ => rfl))) (p_f (e_bin o_add (p_f (e_bin o_mod (p_f (e_callTy o_int rfl h_int boot_int (pargs_cons (p_v (e_ix o_ix (p_o 0) (p_f e_int) (fun _ _ => rfl))) pargs_nil))) (p_f e_int))) (p_f e_int))))) (p_f (e_bin o_mul (p_f e_int) (p_v (e_ix o_ix (p_o 0) (p_f e_int) (fun _ _ => rfl))))))) (p_f e_int))) pargs_nil))) (p_f e_int))) (g_at 0 (e_sh e_int)))
      (ss_one (s_retF (e_bin o_mod (p_f (e_callTy o_int rfl h_int boot_int (pargs_cons (p_f (e_bin o_fdiv (p_v (e_ix o_ix (p_o 0) (p_f e_int) (fun _ _ => rfl))) (p_f e_int))) pargs_nil))) (p_v (e_v 1)))))))))
  exact h
theorem ok__law_pick {f : Addr} {fd : FuncData} (F : Fun K "_law_pick" "_law_pick" s__law_pick f fd) (h_len : mg "len" = none) (C__law_draw : Callee P w K mg base "_law_draw" 1 ["pot", "many"] [] (spP K ⟨[true, false], true⟩ m__law_draw)) : FnOk P w K mg base CX0 2 f fd ["pot", "some"] (spP K ⟨[true, false], true⟩ m__law_pick) := by
  have nd := sc__law_pick.nd
  have h := fn_mk (P := P) (w := w) (mg := mg) (base := base) (sg := ⟨[true, false], true⟩) (k := 1) (body := b__law_pick) F sc__law_pick rfl (fun cdv A outer s H E hr => (ss_one (s_ret (e_ix o_ix (p_v (e_v 1)) (p_f (c_callIo C__law_draw hr (by decide) (pcas_cons (c_io 0) (pcas_cons (ca_f (e_callB o_len rfl h_len boot_len (pargs_cons (p_v (e_v 1)) pargs_nil))) pcas_nil)))) (fun _ _ => rfl)))))
  exact h
theorem ok__law_same {f : Addr} {fd : FuncData} (F : Fun K "_law_same" "_law_same" s__law_same f fd) (hmg : mg "_law_same" = some (.ref f)) (hbd : Binds K fd ["told", "due"] []) (h_all : mg "all" = none) (h_bool : mg "bool" = none) (h_int : mg "int" = none) (h_isinstance : mg "isinstance" = none) (h_len : mg "len" = none) (h_list : mg "list" = none) (h_range : mg "range" = none) (h_str : mg "str" = none) (h_tuple : mg "tuple" = none) : ∀ n : Nat, FnOk P w K mg base CX0 (n + 1) f fd ["told", "due"] (spF K 2 true (m__law_same n))
  | 0 => by
    have h := fn_pure (P := P) (w := w) (mg := mg) (base := base) (fr := true) (np := 2) (k := 0) (body := sNever) F sc__law_same rfl (fun cdv A outer s H E hr => ⟨fun pins s σ H Dd I ⟨_, _, _, _, _, _, hm, _⟩ => by cases hm⟩)
    rw [Nat.zero_add]
    exact h.imp fun vs H Q E ⟨_, _, _, hm, _⟩ => by cases hm
  | n + 1 => by
    have nd := sc__law_same.nd
    have C__law_same : Callee P w K mg base "_law_same" (n + 1) ["told", "due"] [] (spF K 2 true (m__law_same n)) := ⟨f, fd, ok__law_same F hmg hbd h_all h_bool h_int h_isinstance h_len h_list h_range h_str h_tuple n, hmg, F.kp, hbd, fun q hq => by cases hq⟩
    have h := fn_pure (P := P) (w := w) (mg := mg) (base := base) (fr := true) (np := 2) (k := n + 1) (body := b__law_same (m__law_same n)) F sc__law_same rfl (fun cdv A outer s H E hr => (ss_cons (s_if (PW.pt (w_or (PW.pt (w_and (t_truth (p_f (e_callB o_isi rfl h_isinstance boot_isinstance (pargs_cons (p_v (e_v 1)) (pargs_cons (p_v (e_ty rfl h_tuple boot_tuple)) pargs_nil))))) (w_and1 (t_truth (p_f (e_callB o_isi rfl h_isinstance boot_isinstance (pargs_cons (p_v (e_v 0)) (pargs_cons (p_v (e_ty rfl h_tuple boot_tuple)) pargs_nil)))))))) (w_or1 (PW.pt (w_and (t_truth (p_f (e_callB o_isi rfl h_isinstance boot_isinstance (pargs_cons (p_v (e_v 1)) (pargs_cons (p_v (e_ty rfl h_list boot_list)) pargs_nil))))) (w_and1 (t_truth (p_f (e_callB o_isi rfl h_isinstance boot_isinstance (pargs_cons (p_v (e_v 0)) (pargs_cons (p_v (e_ty rfl h_list boot_list)) pargs_nil))))))))))) (ss_one (s_ret (e_and (e_sh (e_cmp (o_eq hr.units) (p_f (e_callB o_len rfl h_len boot_len (pargs_cons (p_v (e_v 0)) pargs_nil))) (p_f (e_callB o_len rfl h_len boot_len (pargs_cons (p_v (e_v 1)) pargs_nil))) (nomark _))) (e_one (e_sh (e_callB (o_all rfl) rfl h_all boot_all (pargs_cons (p_f (e_lc (own := [("at", 2)]) rfl nd (i_r1 rfl h_range (pes_cons (e_sh (e_callB o_len rfl h_len boot_len (pargs_cons (p_v (e_v 1)) pargs_nil))) pes_nil)) (blkOk_by (N := N__law_same) (sc := defScope s__law_same) (by decide +kernel)) (fun _ _ _ _ _ => (g_nm 2 nd)) (fun _ _ _ _ _ => ts_nil) (fun _ _ _ _ _ => (e_sh (c_call C__law_same hr (by omega) (pes_cons (e_ix o_ix (p_v (e_v 0)) (p_v (e_v 2)) (fun _ _ => rfl)) (pes_cons (e_ix o_ix (p_v (e_v 1)) (p_v (e_v 2)) (fun _ _ => rfl)) pes_nil))))))) pargs_nil))))))) ss_nil)
      (ss_cons (s_if (PW.pt (w_or (t_truth (p_f (e_callB o_isi rfl h_isinstance boot_isinstance (pargs_cons (p_v (e_v 1)) (pargs_cons (p_v (e_ty rfl h_tuple boot_tuple)) pargs_nil))))) (w_or (t_truth (p_f (e_callB o_isi rfl h_isinstance boot_isinstance (pargs_cons (p_v (e_v 1)) (pargs_cons (p_v (e_ty rfl h_list boot_list)) pargs_nil))))) (w_or1 (t_cmp (o_ne hr.units) (p_f (e_callB o_isi rfl h_isinstance boot_isinstance (pargs_cons (p_v (e_v 1)) (pargs_cons (p_v (e_ty rfl h_bool boot_bool)) pargs_nil)))) (p_f (e_callB o_isi rfl h_isinstance boot_isinstance (pargs_cons (p_v (e_v 0)) (pargs_cons (p_v (e_ty rfl h_bool boot_bool)) pargs_nil)))) (nomark _)))))) (ss_one (s_retF e_bl)) ss_nil)
      (ss_cons (s_if (PW.pt (w_or (t_cmp (o_ne hr.units) (p_f (e_callB o_isi rfl h_isinstance boot_isinstance (pargs_cons (p_v (e_v 1)) (pargs_cons (p_v (e_ty rfl h_int boot_int)) pargs_nil)))) (p_f (e_callB o_isi rfl h_isinstance boot_isinstance (pargs_cons (p_v (e_v 0)) (pargs_cons (p_v (e_ty rfl h_int boot_int)) pargs_nil)))) (nomark _)) (w_or1 (t_cmp (o_ne hr.units) (p_f (e_callB o_isi rfl h_isinstance boot_isinstance (pargs_cons (p_v (e_v 1)) (pargs_cons (p_v (e_ty rfl h_str boot_str)) pargs_nil)))) (p_f (e_callB o_isi rfl h_isinstance boot_isinstance (pargs_cons (p_v (e_v 0)) (pargs_cons (p_v (e_ty rfl h_str boot_str)) pargs_nil)))) (nomark _))))) (ss_one (s_retF e_bl)) ss_nil)
      (ss_one (s_retF (e_if (t_cmp o_is (p_v (e_v 1)) (p_f e_non) (nomark _)) (e_cmp o_is (p_v (e_v 0)) (p_f e_non) (nomark _)) (e_cmp (o_eq hr.units) (p_v (e_v 0)) (p_v (e_v 1)) (nomark _)))))))))
    exact h
theorem ok__law_all {f : Addr} {fd : FuncData} (F : Fun K "_law_all" "_law_all" s__law_all f fd) (h_range : mg "range" = none) : FnOk P w K mg base CX0 1 f fd ["many"] (spF K 1 false m__law_all) := by
  have nd := sc__law_all.nd
  have h := fn_pure (P := P) (w := w) (mg := mg) (base := base) (fr := false) (np := 1) (k := 0) (body := b__law_all) F sc__law_all rfl (fun cdv A outer s H E hr => (ss_cons (s_st (i := 1) nd (e_sh (e_lst (pes_cons (e_sh (e_str [])) pes_nil))))
      (ss_cons (s_loop rfl (i_r1 rfl h_range (pes_cons (e_v 0) pes_nil)) (g_nm 2 nd) (ss_cons (s_st (i := 3) nd (e_sh (e_lst pes_nil)))
      (ss_cons (s_loop rfl (i_of (e_v 1)) (g_nm 4 nd) (ss_one (s_st (i := 3) nd (e_sh (e_bin o_add (p_v (e_v 3)) (p_f (e_lst (pes_cons (e_sh (e_bin o_add (p_v (e_v 4)) (p_f (e_str [111])))) (pes_cons (e_sh (e_bin o_add (p_v (e_v 4)) (p_f (e_str [118])))) pes_nil)))))))))
      (ss_one (s_st (i := 1) nd (e_v 3))))))
      (ss_one (s_ret (e_v 1))))))
  exact h
theorem ok__law_sum {f : Addr} {fd : FuncData} (F : Fun K "_law_sum" "_law_sum" s__law_sum f fd) (h_enumerate : mg "enumerate" = none) (h_int : mg "int" = none) (h_len : mg "len" = none) (h_sum : mg "sum" = none) : FnOk P w K mg base CX0 1 f fd ["card"] (spF K 1 true m__law_sum) := by
  have nd := sc__law_sum.nd
  have h := fn_pure (P := P) (w := w) (mg := mg) (base := base) (fr := true) (np := 1) (k := 0) (body := b__law_sum) F sc__law_sum rfl (fun cdv A outer s H E hr => (ss_one (s_retF (e_bin o_mod (p_f (e_callTy o_int rfl h_int boot_int (pargs_cons (p_f (e_callB (o_sum rfl) rfl h_sum boot_sum (pargs_cons (p_f (e_lc (own := [("hole", 1), ("sign", 2)]) rfl nd (i_en rfl h_enumerate (pes_cons (e_v 0) pes_nil)) (blkOk_by (N := N__law_sum) (sc := defScope s__law_sum) (by decide +kernel)) (fun _ _ _ _ _ => (g_t rfl (gs_cons (g_nm 1 nd) (gs_cons (g_nm 2 nd) gs_nil)))) (fun _ _ _ _ _ => (ts_one (t_cmp (o_eq hr.units) (p_v (e_v 2)) (p_f (e_str [118])) (nomark _)))) (fun _ _ _ _ _ => (e_sh (e_bin o_add (p_v (e_v 1)) (p_f e_int)))))) pargs_nil))) pargs_nil))) (p_f (e_bin o_add (p_f (e_callB o_len rfl h_len boot_len (pargs_cons (p_v (e_v 0)) pargs_nil))) (p_f e_int)))))))
  exact h
theorem ok__law_counts {f : Addr} {fd : FuncData} (F : Fun K "_law_counts" "_law_counts" s__law_counts f fd) (h_int : mg "int" = none) (h_range : mg "range" = none) : FnOk P w K mg base CX0 1 f fd ["many"] (spF K 1 true m__law_counts) := by
  have nd := sc__law_counts.nd
  have h := fn_pure (P := P) (w := w) (mg := mg) (base := base) (fr := true) (np := 1) (k := 0) (body := b__law_counts) F sc__law_counts rfl (fun cdv A outer s H E hr => (ss_cons (s_ow (i := 1) nd (e_bin o_add (p_f (e_lst (pes_cons (e_sh e_int) pes_nil))) (p_f (e_bin o_mul (p_f (e_lst (pes_cons (e_sh e_int) pes_nil))) (p_v (e_v 0))))))
      (ss_cons (s_loop rfl (i_r1 rfl h_range (pes_cons (e_v 0) pes_nil)) (g_nm 2 nd) (ss_one (s_ow (i := 1) nd (e_lc (own := [("k", 3)]) rfl nd (i_r1 rfl h_range (pes_cons (e_sh (e_bin o_add (p_v (e_v 0)) (p_f e_int))) pes_nil)) (blkOk_by (N := N__law_counts) (sc := defScope s__law_counts) (by decide +kernel)) (fun _ _ _ _ _ => (g_nm 3 nd)) (fun _ _ _ _ _ => ts_nil) (fun _ _ _ _ _ => (e_sh (e_bin o_add (p_v (e_ix o_ix (p_o 1) (p_v (e_v 3)) (fun _ _ => rfl))) (p_v (e_ix o_ix (p_o 1) (p_f (e_bin o_mod (p_f (e_callTy o_int rfl h_int boot_int (pargs_cons (p_f (e_bin o_sub (p_f (e_bin o_sub (p_v (e_v 3)) (p_v (e_v 2)))) (p_f e_int))) pargs_nil))) (p_f (e_bin o_add (p_v (e_v 0)) (p_f e_int))))) (fun _ _ => rfl))))))))))
      (ss_one (s_ro 1)))))
  exact h
theorem ok__law_common {f : Addr} {fd : FuncData} (F : Fun K "_law_common" "_law_common" s__law_common f fd) (h_int : mg "int" = none) : FnOk P w K mg base CX0 1 f fd ["one", "other"] (spF K 2 true m__law_common) := by
  have nd := sc__law_common.nd
  have h := fn_pure (P := P) (w := w) (mg := mg) (base := base) (fr := true) (np := 2) (k := 0) (body := b__law_common) F sc__law_common rfl (fun cdv A outer s H E hr => (ss_cons (s_st (i := 2) nd (e_sh e_int))
      (ss_cons (s_wh 16777216 (PW.pt (w_and (t_cmp (o_ne hr.units) (p_v (e_v 1)) (p_f e_int) (nomark _)) (w_and1 (t_cmp (o_lt hr.units0) (p_v (e_v 2)) (p_f e_int) (nomark _))))) (ss_one (s_p3 0 1 2 rfl nd (e_v 1) (e_sh (e_bin o_mod (p_f (e_callTy o_int rfl h_int boot_int (pargs_cons (p_v (e_v 0)) pargs_nil))) (p_v (e_v 1)))) (e_sh (e_bin o_add (p_v (e_v 2)) (p_f e_int))))))
      (ss_one (s_ret (e_v 0))))))
  exact h
theorem ok__law_first {f : Addr} {fd : FuncData} (F : Fun K "_law_first" "_law_first" s__law_first f fd) (h_int : mg "int" = none) (h_len : mg "len" = none) (h_range : mg "range" = none) (C__law_common : Callee P w K mg base "_law_common" 1 ["one", "other"] [] (spF K 2 true m__law_common)) : FnOk P w K mg base CX0 2 f fd ["many"] (spF K 1 true m__law_first) := by
  have nd := sc__law_first.nd
  have h := fn_pure (P := P) (w := w) (mg := mg) (base := base) (fr := true) (np := 1) (k := 1) (body := b__law_first) F sc__law_first rfl (fun cdv A outer s H E hr => (ss_cons (s_p2 2 3 rfl nd (e_sh (e_bin o_add (p_v (e_v 0)) (p_f e_int))) (e_sh e_int))
      (ss_cons (s_loop rfl (i_r3 rfl h_range (pes_cons (e_sh e_int) (pes_cons (e_sh (e_bin o_add (p_v (e_v 2)) (p_f e_int))) (pes_cons (e_sh e_int) pes_nil)))) (g_nm 1 nd) (ss_one (s_if (t_cmp (o_eq hr.units) (p_f (e_bin o_mod (p_f (e_callTy o_int rfl h_int boot_int (pargs_cons (p_v (e_v 2)) pargs_nil))) (p_v (e_v 1)))) (p_f e_int) (nomark _)) (ss_cons (s_st (i := 4) nd (e_sh (e_bin o_shl (p_f e_int) (p_f (e_bin o_fdiv (p_v (e_v 2)) (p_v (e_v 1)))))))
      (ss_one (s_st (i := 3) nd (e_sh (e_bin o_add (p_v (e_v 3)) (p_f (e_bin o_mul (p_f (e_callB o_len rfl h_len boot_len (pargs_cons (p_f (e_lc (own := [("k", 5)]) rfl nd (i_r2 rfl h_range (pes_cons (e_sh e_int) (pes_cons (e_sh (e_bin o_add (p_v (e_v 1)) (p_f e_int))) pes_nil))) (blkOk_by (N := N__law_first) (sc := defScope s__law_first) (by decide +kernel)) (fun _ _ _ _ _ => (g_nm 5 nd)) (fun _ _ _ _ _ => (ts_one (t_cmp (o_eq hr.units) (p_f (c_call C__law_common hr (by decide) (pes_cons (e_v 5) (pes_cons (e_v 1) pes_nil)))) (p_f e_int) (nomark _)))) (fun _ _ _ _ _ => (e_v 5)))) pargs_nil))) (p_v (e_v 4))))))))) ss_nil)))
      (ss_one (s_retF (e_bin o_fdiv (p_v (e_v 3)) (p_f (e_bin o_mul (p_f e_int) (p_v (e_v 2))))))))))
  exact h
theorem ok__law_is_right {f : Addr} {fd : FuncData} (F : Fun K "_law_is_right" "_law_is_right" s__law_is_right f fd) (h_int : mg "int" = none) (h_max : mg "max" = none) (h_range : mg "range" = none) (h_sum : mg "sum" = none) (C__law_common : Callee P w K mg base "_law_common" 1 ["one", "other"] [] (spF K 2 true m__law_common)) (C__law_counts : Callee P w K mg base "_law_counts" 1 ["many"] [] (spF K 1 true m__law_counts)) (C__law_first : Callee P w K mg base "_law_first" 2 ["many"] [] (spF K 1 true m__law_first)) (C__law_same : Callee P w K mg base "_law_same" 9 ["told", "due"] [] (spF K 2 true (m__law_same 8))) (C_sum_count : Callee P w K mg base "sum_count" 4 ["number", "rest"] [(["rest", "number"], [1, 0])] (spF K 2 true m_sum_count)) : FnOk P w K mg base CX0 10 f fd ["many"] (spF K 1 true m__law_is_right) := by
  have nd := sc__law_is_right.nd
  have h := fn_pure (P := P) (w := w) (mg := mg) (base := base) (fr := true) (np := 1) (k := 9) (body := b__law_is_right) F sc__law_is_right rfl (fun cdv A outer s H E hr => (ss_cons (s_st (i := 1) nd (e_sh (c_call C__law_counts hr (by decide) (pes_cons (e_v 0) pes_nil))))
      (ss_cons (s_lcS (own := [("rest", 3)]) (i := 2) rfl nd (i_r1 rfl h_range (pes_cons (e_sh (e_bin o_add (p_v (e_v 0)) (p_f e_int))) pes_nil)) (blkOk_by (N := N__law_is_right) (sc := defScope s__law_is_right) (by decide +kernel)) (fun _ _ _ _ _ => (g_nm 3 nd)) (fun _ _ _ _ _ => ts_nil) (fun _ _ _ _ _ => (e_sh (c_call C_sum_count hr (by decide) (pes_cons (e_v 0) (pes_cons (e_v 3) pes_nil))))) (hsw := sw_true rfl rfl rfl (by decide +kernel)))
      (ss_cons (s_if (PW.pt (w_or (t_not (t_truth (p_f (c_call C__law_same hr (by decide) (pes_cons (e_v 2) (pes_cons (e_v 1) pes_nil)))))) (w_or (t_cmp (o_ne hr.units) (p_f (e_callB (o_sum rfl) rfl h_sum boot_sum (pargs_cons (p_v (e_v 2)) pargs_nil))) (p_f (e_bin o_shl (p_f e_int) (p_v (e_v 0)))) (nomark _)) (w_or (t_cmp (o_ne hr.units) (p_f (e_callB (o_max rfl) rfl h_max boot_max (pargs_cons (p_v (e_v 2)) pargs_nil))) (p_v (e_ix o_ix (p_v (e_v 2)) (p_f e_int) (fun _ _ => rfl))) (nomark _)) (w_or1 (t_cmp (o_ne hr.units) (p_v (e_ix o_ix (p_v (e_v 2)) (p_f e_int) (fun _ _ => rfl))) (p_f (c_call C__law_first hr (by decide) (pes_cons (e_v 0) pes_nil))) (nomark _))))))) (ss_one (s_retF e_bl)) ss_nil)
      (ss_cons (s_loop rfl (i_r1 rfl h_range (pes_cons (e_sh (e_bin o_add (p_v (e_v 0)) (p_f e_int))) pes_nil)) (g_nm 3 nd) (ss_one (s_if (t_cmp (o_ne hr.units) (p_v (e_ix o_ix (p_v (e_v 2)) (p_v (e_v 3)) (fun _ _ => rfl))) (p_v (e_ix o_ix (p_v (e_v 2)) (p_f (e_bin o_mod (p_f (e_callTy o_int rfl h_int boot_int (pargs_cons (p_f (c_call C__law_common hr (by decide) (pes_cons (e_v 3) (pes_cons (e_sh (e_bin o_add (p_v (e_v 0)) (p_f e_int))) pes_nil)))) pargs_nil))) (p_f (e_bin o_add (p_v (e_v 0)) (p_f e_int))))) (fun _ _ => rfl))) (nomark _)) (ss_one (s_retF e_bl)) ss_nil)))
      (ss_one (s_retF (c_call C__law_same hr (by decide) (pes_cons (e_sh (e_lc (own := [("rest", 3)]) rfl nd (i_of (e_sh (e_tup (pes_cons (e_sh e_int) (pes_cons (e_v 0) pes_nil))))) (blkOk_by (N := N__law_is_right) (sc := defScope s__law_is_right) (by decide +kernel)) (fun _ _ _ _ _ => (g_nm 3 nd)) (fun _ _ _ _ _ => ts_nil) (fun _ _ _ _ _ => (e_sh (c_callK ["rest", "number"] [1, 0] C_sum_count hr (by decide) (pks_cons (e_v 3) (pks_cons (e_v 0) pks_nil))))))) (pes_cons (e_sh (e_lst (pes_cons (e_ix o_ix (p_v (e_v 1)) (p_f e_int) (fun _ _ => rfl)) (pes_cons (e_ix o_ix (p_v (e_v 1)) (p_v (e_v 0)) (fun _ _ => rfl)) pes_nil)))) pes_nil))))))))))
  exact h
theorem ok__law_right {f : Addr} {fd : FuncData} (F : Fun K "_law_right" "_law_right" s__law_right f fd) (h_range : mg "range" = none) (C__law_draw : Callee P w K mg base "_law_draw" 1 ["pot", "many"] [] (spP K ⟨[true, false], true⟩ m__law_draw)) (C__law_is_right : Callee P w K mg base "_law_is_right" 10 ["many"] [] (spF K 1 true m__law_is_right)) (C__law_pick : Callee P w K mg base "_law_pick" 2 ["pot", "some"] [] (spP K ⟨[true, false], true⟩ m__law_pick)) : FnOk P w K mg base CX0 11 f fd ["pot"] (spP K ⟨[true], true⟩ m__law_right) := by
  have nd := sc__law_right.nd
  have h := fn_mk (P := P) (w := w) (mg := mg) (base := base) (sg := ⟨[true], true⟩) (k := 10) (body := b__law_right) F sc__law_right rfl (fun cdv A outer s H E hr => (ss_cons (s_loop rfl (i_r1 rfl h_range (pes_cons (e_sh e_int) pes_nil)) (g_nm 1 nd) (ss_one (s_if (t_not (t_truth (p_f (c_call C__law_is_right hr (by decide) (pes_cons (e_sh (c_callIo C__law_pick hr (by decide) (pcas_cons (c_io 0) (pcas_cons (ca_f (e_tup (pes_cons (e_sh (e_bin o_add (p_f e_int) (p_f (c_callIo C__law_draw hr (by decide) (pcas_cons (c_io 0) (pcas_cons (ca_f e_int) pcas_nil)))))) (pes_cons (e_sh (e_bin o_add (p_f e_int) (p_f (c_callIo C__law_draw hr (by decide) (pcas_cons (c_io 0) (pcas_cons (ca_f e_int) pcas_nil)))))) (pes_cons (e_sh e_int) (pes_cons (e_sh e_int) pes_nil)))))) pcas_nil)))) pes_nil))))) (ss_one (s_retF e_bl)) ss_nil)))
      (ss_one (s_retF e_bl))))
  exact h
theorem ok_law {f : Addr} {fd : FuncData} (F : Fun K "law" "law" s_law f fd) (h_all : mg "all" = none) (h_len : mg "len" = none) (h_max : mg "max" = none) (h_min : mg "min" = none) (h_range : mg "range" = none) (C__law_all : Callee P w K mg base "_law_all" 1 ["many"] [] (spF K 1 false m__law_all)) (C__law_counts : Callee P w K mg base "_law_counts" 1 ["many"] [] (spF K 1 true m__law_counts)) (C__law_is_right : Callee P w K mg base "_law_is_right" 10 ["many"] [] (spF K 1 true m__law_is_right)) (C__law_pot : Callee P w K mg base "_law_pot" 1 ["script", "turn"] [] (spF K 2 true m__law_pot)) (C__law_right : Callee P w K mg base "_law_right" 11 ["pot"] [] (spP K ⟨[true], true⟩ m__law_right)) (C__law_sum : Callee P w K mg base "_law_sum" 1 ["card"] [] (spF K 1 true m__law_sum)) : FnOk P w K mg base CX0 12 f fd ["script"] (spF K 1 true m_law) := by
  have nd := sc_law.nd
  have h := fn_pure (P := P) (w := w) (mg := mg) (base := base) (fr := true) (np := 1) (k := 11) (body := b_law) F sc_law rfl (fun cdv A outer s H E hr => (ss_cons (s_loop rfl (i_r2 rfl h_range (pes_cons (e_sh e_int) (pes_cons (e_sh e_int) pes_nil))) (g_nm 1 nd) (ss_cons (s_ow (i := 2) nd (e_bin o_mul (p_f (e_lst (pes_cons (e_sh e_int) pes_nil))) (p_f (e_bin o_add (p_v (e_v 1)) (p_f e_int)))))
      (ss_cons (s_loop rfl (i_of (c_call C__law_all hr (by decide) (pes_cons (e_v 1) pes_nil))) (g_nm 3 nd) (ss_one (s_asg (e_sh (e_bin o_add (p_v (e_ix o_ix (p_o 2) (p_f (c_call C__law_sum hr (by decide) (pes_cons (e_v 3) pes_nil))) (fun _ _ => rfl))) (p_f e_int))) (g_at 2 (e_sh (c_call C__law_sum hr (by decide) (pes_cons (e_v 3) pes_nil)))))))
      (ss_one (s_if (PW.pt (w_or (t_cmp (o_ne hr.units) (p_o 2) (p_f (c_call C__law_counts hr (by decide) (pes_cons (e_v 1) pes_nil))) (nomark _)) (w_or1 (t_not (t_truth (p_f (c_call C__law_is_right hr (by decide) (pes_cons (e_v 1) pes_nil)))))))) (ss_one (s_retF e_bl)) ss_nil)))))
      (ss_one (s_retF (e_callB (o_all rfl) rfl h_all boot_all (pargs_cons (p_f (e_lc (own := [("turn", 4)]) rfl nd (i_r1 rfl h_range (pes_cons (e_sh (e_callB (o_max rfl) rfl h_max boot_max (pargs_cons (p_f e_int) (pargs_cons (p_f (e_callB (o_min rfl) rfl h_min boot_min (pargs_cons (p_f (e_callB o_len rfl h_len boot_len (pargs_cons (p_v (e_v 0)) pargs_nil))) (pargs_cons (p_f e_int) pargs_nil)))) pargs_nil)))) pes_nil)) (blkOk_by (N := N_law) (sc := defScope s_law) (by decide +kernel)) (fun _ _ _ _ _ => (g_nm 4 nd)) (fun _ _ _ _ _ => ts_nil) (fun _ _ _ _ _ => (e_sh (c_callIo C__law_right hr (by decide) (pcas_cons (ca_t (c_call C__law_pot hr (by decide) (pes_cons (e_v 0) (pes_cons (e_v 4) pes_nil)))) pcas_nil)))))) pargs_nil))))))
  exact h
end
end K75
end

section
set_option maxRecDepth 100000
namespace K75
open PL PySem L2
set_option maxHeartbeats 4000000

theorem draw_ok : Draws m__law_draw := by
  intro w many hw h1 h2
  obtain ⟨a, b, c, rfl, ha, hb, hb2, hc⟩ := hw
  have s1 : b.natAbs < 18446744073709551616 := by omega
  have h3 : many.natAbs < 1073741824 := by omega
  have h0 : 0 < many := by omega
  by_cases h : 0 < a
  · refine ⟨a % many, .lst [.int (a / many), .int b, .int c], ?_, Int.emod_nonneg _ (by omega), Int.emod_lt_of_pos _ (by omega), _, _, _, rfl, Int.ediv_nonneg ha (by omega), hb, hb2, hc⟩
    simp only [m__law_draw, b__law_draw, runP, runFn, envOf, outsOf, retOf, sSeq, sAsg, sIf, sRet, sRetF, sRetN, sRetO, sDrop, sNop, sOwn, sFor, sForL, sWhile, sPar2, sPar3, sBk, sCt, slotOf, mkOwn, isMutD, gN, gT, gsC, gsN, gIx, free, peek, ownL, putL, eApp, evA, evL, eVar, eC, eTup, eLst, eIf, eOr, eAnd, eNot, eChain, eSl, oNo, oSo, eCall, eCallB, eCallK, eCallIo, evC, ioSl, putD, putOuts, ownD, perm, lent, tB_, tTr, tNo, tAn, tOrr, tTrue, asB, asI, truth, eRev, dRev, eRg1, eJoin, dJoin, eBits, eApd, ePopAt, ePop, eIns, eLc, wipeE, iOf, iR1, iR2, iR3, iEnM, iZpM, items, smallI, dAdd, dSub, dMul, dFdiv, dMod, dPow, dShl, dShr, dAnd, dOr, dXor, dNeg, dInv, dEq, dNe, dLt, dLe, dGt, dGe, dIs, isD, dIsNot, dIn, inD, dNotIn, dIsi, isiB, tyD, dLen, dAbs, dMax, dMin, dInt, dDivmod, dSum, dAll, dAny, dTup, dLst, dIx, dSl, scalD, deq, PL.small64, Option.bind_some, Option.map_some, Option.bind_none, Option.map_none, List.length_cons, List.length_nil, List.cons_append, List.nil_append, List.getElem?_cons_zero, List.getElem?_cons_succ, List.set_cons_zero, List.set_cons_succ, List.replicate_succ, List.replicate_zero, List.map_cons, List.map_nil, List.getD_cons_zero, List.getD_cons_succ, Nat.zero_add, Nat.reduceAdd, Nat.reduceSub, Nat.reduceEqDiff, if_true, if_false, ite_true, ite_false, Bool.false_eq_true, Bool.true_or, Bool.false_or, Bool.and_true, Bool.true_and, Bool.and_false, Bool.false_and, Bool.or_true, Bool.or_false, Bool.not_true, Bool.not_false, decide_true, decide_false, true_and, and_true, false_and, and_false, true_or, or_true, false_or, or_false, Option.some.injEq, reduceCtorEq, String.reduceEq, String.reduceBEq, beq_self_eq_true, decide_eq_true_eq, Bool.and_eq_true, Bool.or_eq_true, Bool.not_eq_true, ne_eq, not_true_eq_false, not_false_eq_true, and_self, or_self, Int.reduceAbs, Int.natAbs_neg, Nat.reducePow, Int.reduceLT, Int.reduceLE, Int.reducePow, Int.reduceNeg, Int.reduceAdd, Int.reduceSub, Int.reduceMul, Int.reduceDiv, Int.reduceMod, Int.reduceToNat, Int.reduceEq, Int.reduceBEq, Nat.reduceLT, Nat.reduceLeDiff, Nat.reduceMul, Nat.reduceBEq, Int.zero_add, Int.add_zero, Int.toNat_natCast, List.nodup_nil, List.nodup_cons, List.not_mem_nil, List.mem_cons, at0, at1, at2, ix0, ix1, ix2, h, h0, h2, h3]
  · refine ⟨((b * (b % 10007 + 20011) + 60013 * (c + 1) + 61) % 2147483563 / 97) % many, .lst [.int a, .int ((b * (b % 10007 + 20011) + 60013 * (c + 1) + 61) % 2147483563), .int (c + 1)], ?_, Int.emod_nonneg _ (by omega), Int.emod_lt_of_pos _ (by omega), _, _, _, rfl, ha, Int.emod_nonneg _ (by omega), by have := Int.emod_lt_of_pos (b * (b % 10007 + 20011) + 60013 * (c + 1) + 61) (show (0 : Int) < 2147483563 by omega); omega, by omega⟩
    simp only [m__law_draw, b__law_draw, runP, runFn, envOf, outsOf, retOf, sSeq, sAsg, sIf, sRet, sRetF, sRetN, sRetO, sDrop, sNop, sOwn, sFor, sForL, sWhile, sPar2, sPar3, sBk, sCt, slotOf, mkOwn, isMutD, gN, gT, gsC, gsN, gIx, free, peek, ownL, putL, eApp, evA, evL, eVar, eC, eTup, eLst, eIf, eOr, eAnd, eNot, eChain, eSl, oNo, oSo, eCall, eCallB, eCallK, eCallIo, evC, ioSl, putD, putOuts, ownD, perm, lent, tB_, tTr, tNo, tAn, tOrr, tTrue, asB, asI, truth, eRev, dRev, eRg1, eJoin, dJoin, eBits, eApd, ePopAt, ePop, eIns, eLc, wipeE, iOf, iR1, iR2, iR3, iEnM, iZpM, items, smallI, dAdd, dSub, dMul, dFdiv, dMod, dPow, dShl, dShr, dAnd, dOr, dXor, dNeg, dInv, dEq, dNe, dLt, dLe, dGt, dGe, dIs, isD, dIsNot, dIn, inD, dNotIn, dIsi, isiB, tyD, dLen, dAbs, dMax, dMin, dInt, dDivmod, dSum, dAll, dAny, dTup, dLst, dIx, dSl, scalD, deq, PL.small64, Option.bind_some, Option.map_some, Option.bind_none, Option.map_none, List.length_cons, List.length_nil, List.cons_append, List.nil_append, List.getElem?_cons_zero, List.getElem?_cons_succ, List.set_cons_zero, List.set_cons_succ, List.replicate_succ, List.replicate_zero, List.map_cons, List.map_nil, List.getD_cons_zero, List.getD_cons_succ, Nat.zero_add, Nat.reduceAdd, Nat.reduceSub, Nat.reduceEqDiff, if_true, if_false, ite_true, ite_false, Bool.false_eq_true, Bool.true_or, Bool.false_or, Bool.and_true, Bool.true_and, Bool.and_false, Bool.false_and, Bool.or_true, Bool.or_false, Bool.not_true, Bool.not_false, decide_true, decide_false, true_and, and_true, false_and, and_false, true_or, or_true, false_or, or_false, Option.some.injEq, reduceCtorEq, String.reduceEq, String.reduceBEq, beq_self_eq_true, decide_eq_true_eq, Bool.and_eq_true, Bool.or_eq_true, Bool.not_eq_true, ne_eq, not_true_eq_false, not_false_eq_true, and_self, or_self, Int.reduceAbs, Int.natAbs_neg, Nat.reducePow, Int.reduceLT, Int.reduceLE, Int.reducePow, Int.reduceNeg, Int.reduceAdd, Int.reduceSub, Int.reduceMul, Int.reduceDiv, Int.reduceMod, Int.reduceToNat, Int.reduceEq, Int.reduceBEq, Nat.reduceLT, Nat.reduceLeDiff, Nat.reduceMul, Nat.reduceBEq, Int.zero_add, Int.add_zero, Int.toNat_natCast, List.nodup_nil, List.nodup_cons, List.not_mem_nil, List.mem_cons, at0, at1, at2, ix0, ix1, ix2, h, h0, h2, h3, s1]

theorem pot_ok : Pots m__law_pot := by
  intro ns t hn ht
  have key : ∀ cell : Int, ∃ d e, (sSeq (sAsg (eApp dAdd [.v (eC (.int 1000547)), .v (eApp dMul [.v (eC (.int 8269)), .v (eVar 1)])]) (gN 3))
    (sSeq (sFor (iOf (eApp dAdd [.v (eSl dSl (.v (eVar 0)) oNo (oSo (eC (.int 7)))), .v (eLst [eVar 2])])) (gN 4) (sAsg (eApp dMod [.v (eApp dInt [.v (eApp dAdd [.v (eApp dAdd [.v (eApp dMul [.v (eVar 3), .v (eC (.int 69621))]), .v (eApp dMod [.v (eApp dInt [.v (eVar 4)]), .v (eC (.int 2147483563))])]), .v (eC (.int 23))])]), .v (eC (.int 2147483563))]) (gN 3)))
    (sRetF (eLst [eIf (tOrr (tB_ (eApp dLt [.v (eVar 2), .v (eC (.int 0))])) (tB_ (eApp dGe [.v (eVar 2), .v (eApp dPow [.v (eC (.int 10)), .v (eC (.int 18))])]))) (eApp dAbs [.v (eVar 2)]) (eC (.int 0)), eVar 3, eC (.int 0)])))) [.shr (.lst (ns.map .int)), .shr (.int t), .shr (.int cell), .no, .no] = some (.rt true d, e) ∧ Wl d ∧ outsOf [false, false] e = some [.non, .non] := by
    intro cell
    have hl := cutL_len ns none (some 7)
    have hlen : (cutL ns none (some 7)).length + 1 ≤ 16777216 := by omega
    obtain ⟨e, h1, s4, x, rfl, h3, h4⟩ := for_inv (g := gN 4) (body := sAsg (eApp dMod [.v (eApp dInt [.v (eApp dAdd [.v (eApp dAdd [.v (eApp dMul [.v (eVar 3), .v (eC (.int 69621))]), .v (eApp dMod [.v (eApp dInt [.v (eVar 4)]), .v (eC (.int 2147483563))])]), .v (eC (.int 23))])]), .v (eC (.int 2147483563))]) (gN 3)) (((cutL ns none (some 7)) ++ [cell]).map .int)
      (fun _ env => ∃ (s4 : PL.Slot) (x : Int), env = [.shr (.lst (ns.map .int)), .shr (.int t), .shr (.int cell), .shr (.int x), s4] ∧ (0 ≤ x ∧ x < 2147483648) ∧ (s4 = .no ∨ ∃ d, s4 = .shr d))
      [.shr (.lst (ns.map .int)), .shr (.int t), .shr (.int cell), .shr (.int (1000547 + 8269 * t)), .no] ⟨.no, _, rfl, by omega, .inl rfl⟩ (fun i d env hd hI => by
        obtain ⟨s4, x, rfl, hx, h4⟩ := hI
        rw [List.getElem?_map, Option.map_eq_some_iff] at hd
        obtain ⟨y, hy, rfl⟩ := hd
        have s1 : x.natAbs < 18446744073709551616 := by omega
        have hb := emod_b (x * 69621 + y % 2147483563 + 23) (show (0 : Int) < 2147483563 by omega)
        refine ⟨[.shr (.lst (ns.map .int)), .shr (.int t), .shr (.int cell), .shr (.int x), .shr (.int y)], [.shr (.lst (ns.map .int)), .shr (.int t), .shr (.int cell), .shr (.int ((x * 69621 + y % 2147483563 + 23) % 2147483563)), .shr (.int y)], .nx, ?_, ?_, .inl rfl, .shr (.int y), _, rfl, by omega, .inr ⟨_, rfl⟩⟩
        · rcases h4 with rfl | ⟨d, rfl⟩ <;> simp only [runP, runFn, envOf, outsOf, retOf, sSeq, sAsg, sIf, sRet, sRetF, sRetN, sRetO, sDrop, sNop, sOwn, sFor, sForL, sWhile, sPar2, sPar3, sBk, sCt, slotOf, mkOwn, isMutD, gN, gT, gsC, gsN, gIx, free, peek, ownL, putL, eApp, evA, evL, eVar, eC, eTup, eLst, eIf, eOr, eAnd, eNot, eChain, eSl, oNo, oSo, eCall, eCallB, eCallK, eCallIo, evC, ioSl, putD, putOuts, ownD, perm, lent, tB_, tTr, tNo, tAn, tOrr, tTrue, asB, asI, truth, eRev, dRev, eRg1, eJoin, dJoin, eBits, eApd, ePopAt, ePop, eIns, eLc, wipeE, iOf, iR1, iR2, iR3, iEnM, iZpM, items, smallI, dAdd, dSub, dMul, dFdiv, dMod, dPow, dShl, dShr, dAnd, dOr, dXor, dNeg, dInv, dEq, dNe, dLt, dLe, dGt, dGe, dIs, isD, dIsNot, dIn, inD, dNotIn, dIsi, isiB, tyD, dLen, dAbs, dMax, dMin, dInt, dDivmod, dSum, dAll, dAny, dTup, dLst, dIx, dSl, scalD, deq, PL.small64, Option.bind_some, Option.map_some, Option.bind_none, Option.map_none, List.length_cons, List.length_nil, List.cons_append, List.nil_append, List.getElem?_cons_zero, List.getElem?_cons_succ, List.set_cons_zero, List.set_cons_succ, List.replicate_succ, List.replicate_zero, List.map_cons, List.map_nil, List.getD_cons_zero, List.getD_cons_succ, Nat.zero_add, Nat.reduceAdd, Nat.reduceSub, Nat.reduceEqDiff, if_true, if_false, ite_true, ite_false, Bool.false_eq_true, Bool.true_or, Bool.false_or, Bool.and_true, Bool.true_and, Bool.and_false, Bool.false_and, Bool.or_true, Bool.or_false, Bool.not_true, Bool.not_false, decide_true, decide_false, true_and, and_true, false_and, and_false, true_or, or_true, false_or, or_false, Option.some.injEq, reduceCtorEq, String.reduceEq, String.reduceBEq, beq_self_eq_true, decide_eq_true_eq, Bool.and_eq_true, Bool.or_eq_true, Bool.not_eq_true, ne_eq, not_true_eq_false, not_false_eq_true, and_self, or_self, Int.reduceAbs, Int.natAbs_neg, Nat.reducePow, Int.reduceLT, Int.reduceLE, Int.reducePow, Int.reduceNeg, Int.reduceAdd, Int.reduceSub, Int.reduceMul, Int.reduceDiv, Int.reduceMod, Int.reduceToNat, Int.reduceEq, Int.reduceBEq, Nat.reduceLT, Nat.reduceLeDiff, Nat.reduceMul, Nat.reduceBEq, Int.zero_add, Int.add_zero, Int.toNat_natCast, List.nodup_nil, List.nodup_cons, List.not_mem_nil, List.mem_cons]
        · simp only [runP, runFn, envOf, outsOf, retOf, sSeq, sAsg, sIf, sRet, sRetF, sRetN, sRetO, sDrop, sNop, sOwn, sFor, sForL, sWhile, sPar2, sPar3, sBk, sCt, slotOf, mkOwn, isMutD, gN, gT, gsC, gsN, gIx, free, peek, ownL, putL, eApp, evA, evL, eVar, eC, eTup, eLst, eIf, eOr, eAnd, eNot, eChain, eSl, oNo, oSo, eCall, eCallB, eCallK, eCallIo, evC, ioSl, putD, putOuts, ownD, perm, lent, tB_, tTr, tNo, tAn, tOrr, tTrue, asB, asI, truth, eRev, dRev, eRg1, eJoin, dJoin, eBits, eApd, ePopAt, ePop, eIns, eLc, wipeE, iOf, iR1, iR2, iR3, iEnM, iZpM, items, smallI, dAdd, dSub, dMul, dFdiv, dMod, dPow, dShl, dShr, dAnd, dOr, dXor, dNeg, dInv, dEq, dNe, dLt, dLe, dGt, dGe, dIs, isD, dIsNot, dIn, inD, dNotIn, dIsi, isiB, tyD, dLen, dAbs, dMax, dMin, dInt, dDivmod, dSum, dAll, dAny, dTup, dLst, dIx, dSl, scalD, deq, PL.small64, Option.bind_some, Option.map_some, Option.bind_none, Option.map_none, List.length_cons, List.length_nil, List.cons_append, List.nil_append, List.getElem?_cons_zero, List.getElem?_cons_succ, List.set_cons_zero, List.set_cons_succ, List.replicate_succ, List.replicate_zero, List.map_cons, List.map_nil, List.getD_cons_zero, List.getD_cons_succ, Nat.zero_add, Nat.reduceAdd, Nat.reduceSub, Nat.reduceEqDiff, if_true, if_false, ite_true, ite_false, Bool.false_eq_true, Bool.true_or, Bool.false_or, Bool.and_true, Bool.true_and, Bool.and_false, Bool.false_and, Bool.or_true, Bool.or_false, Bool.not_true, Bool.not_false, decide_true, decide_false, true_and, and_true, false_and, and_false, true_or, or_true, false_or, or_false, Option.some.injEq, reduceCtorEq, String.reduceEq, String.reduceBEq, beq_self_eq_true, decide_eq_true_eq, Bool.and_eq_true, Bool.or_eq_true, Bool.not_eq_true, ne_eq, not_true_eq_false, not_false_eq_true, and_self, or_self, Int.reduceAbs, Int.natAbs_neg, Nat.reducePow, Int.reduceLT, Int.reduceLE, Int.reducePow, Int.reduceNeg, Int.reduceAdd, Int.reduceSub, Int.reduceMul, Int.reduceDiv, Int.reduceMod, Int.reduceToNat, Int.reduceEq, Int.reduceBEq, Nat.reduceLT, Nat.reduceLeDiff, Nat.reduceMul, Nat.reduceBEq, Int.zero_add, Int.add_zero, Int.toNat_natCast, List.nodup_nil, List.nodup_cons, List.not_mem_nil, List.mem_cons, s1])
    rw [List.map_append, List.map_cons, List.map_nil] at h1
    by_cases hc : cell < 0
    · refine ⟨.lst [.int (-cell), .int x, .int 0], [.shr (.lst (ns.map .int)), .shr (.int t), .shr (.int cell), .shr (.int x), s4], ?_, ⟨_, _, _, rfl, by omega, h3.1, h3.2, by omega⟩, ?_⟩
      · simp only [runP, runFn, envOf, outsOf, retOf, sSeq, sAsg, sIf, sRet, sRetF, sRetN, sRetO, sDrop, sNop, sOwn, sFor, sForL, sWhile, sPar2, sPar3, sBk, sCt, slotOf, mkOwn, isMutD, gN, gT, gsC, gsN, gIx, free, peek, ownL, putL, eApp, evA, evL, eVar, eC, eTup, eLst, eIf, eOr, eAnd, eNot, eChain, eSl, oNo, oSo, eCall, eCallB, eCallK, eCallIo, evC, ioSl, putD, putOuts, ownD, perm, lent, tB_, tTr, tNo, tAn, tOrr, tTrue, asB, asI, truth, eRev, dRev, eRg1, eJoin, dJoin, eBits, eApd, ePopAt, ePop, eIns, eLc, wipeE, iOf, iR1, iR2, iR3, iEnM, iZpM, items, smallI, dAdd, dSub, dMul, dFdiv, dMod, dPow, dShl, dShr, dAnd, dOr, dXor, dNeg, dInv, dEq, dNe, dLt, dLe, dGt, dGe, dIs, isD, dIsNot, dIn, inD, dNotIn, dIsi, isiB, tyD, dLen, dAbs, dMax, dMin, dInt, dDivmod, dSum, dAll, dAny, dTup, dLst, dIx, dSl, scalD, deq, PL.small64, Option.bind_some, Option.map_some, Option.bind_none, Option.map_none, List.length_cons, List.length_nil, List.cons_append, List.nil_append, List.getElem?_cons_zero, List.getElem?_cons_succ, List.set_cons_zero, List.set_cons_succ, List.replicate_succ, List.replicate_zero, List.map_cons, List.map_nil, List.getD_cons_zero, List.getD_cons_succ, Nat.zero_add, Nat.reduceAdd, Nat.reduceSub, Nat.reduceEqDiff, if_true, if_false, ite_true, ite_false, Bool.false_eq_true, Bool.true_or, Bool.false_or, Bool.and_true, Bool.true_and, Bool.and_false, Bool.false_and, Bool.or_true, Bool.or_false, Bool.not_true, Bool.not_false, decide_true, decide_false, true_and, and_true, false_and, and_false, true_or, or_true, false_or, or_false, Option.some.injEq, reduceCtorEq, String.reduceEq, String.reduceBEq, beq_self_eq_true, decide_eq_true_eq, Bool.and_eq_true, Bool.or_eq_true, Bool.not_eq_true, ne_eq, not_true_eq_false, not_false_eq_true, and_self, or_self, Int.reduceAbs, Int.natAbs_neg, Nat.reducePow, Int.reduceLT, Int.reduceLE, Int.reducePow, Int.reduceNeg, Int.reduceAdd, Int.reduceSub, Int.reduceMul, Int.reduceDiv, Int.reduceMod, Int.reduceToNat, Int.reduceEq, Int.reduceBEq, Nat.reduceLT, Nat.reduceLeDiff, Nat.reduceMul, Nat.reduceBEq, Int.zero_add, Int.add_zero, Int.toNat_natCast, List.nodup_nil, List.nodup_cons, List.not_mem_nil, List.mem_cons, cutL_map, List.length_append, List.length_map, hlen, h1, hc]
      · simp only [runP, runFn, envOf, outsOf, retOf, sSeq, sAsg, sIf, sRet, sRetF, sRetN, sRetO, sDrop, sNop, sOwn, sFor, sForL, sWhile, sPar2, sPar3, sBk, sCt, slotOf, mkOwn, isMutD, gN, gT, gsC, gsN, gIx, free, peek, ownL, putL, eApp, evA, evL, eVar, eC, eTup, eLst, eIf, eOr, eAnd, eNot, eChain, eSl, oNo, oSo, eCall, eCallB, eCallK, eCallIo, evC, ioSl, putD, putOuts, ownD, perm, lent, tB_, tTr, tNo, tAn, tOrr, tTrue, asB, asI, truth, eRev, dRev, eRg1, eJoin, dJoin, eBits, eApd, ePopAt, ePop, eIns, eLc, wipeE, iOf, iR1, iR2, iR3, iEnM, iZpM, items, smallI, dAdd, dSub, dMul, dFdiv, dMod, dPow, dShl, dShr, dAnd, dOr, dXor, dNeg, dInv, dEq, dNe, dLt, dLe, dGt, dGe, dIs, isD, dIsNot, dIn, inD, dNotIn, dIsi, isiB, tyD, dLen, dAbs, dMax, dMin, dInt, dDivmod, dSum, dAll, dAny, dTup, dLst, dIx, dSl, scalD, deq, PL.small64, Option.bind_some, Option.map_some, Option.bind_none, Option.map_none, List.length_cons, List.length_nil, List.cons_append, List.nil_append, List.getElem?_cons_zero, List.getElem?_cons_succ, List.set_cons_zero, List.set_cons_succ, List.replicate_succ, List.replicate_zero, List.map_cons, List.map_nil, List.getD_cons_zero, List.getD_cons_succ, Nat.zero_add, Nat.reduceAdd, Nat.reduceSub, Nat.reduceEqDiff, if_true, if_false, ite_true, ite_false, Bool.false_eq_true, Bool.true_or, Bool.false_or, Bool.and_true, Bool.true_and, Bool.and_false, Bool.false_and, Bool.or_true, Bool.or_false, Bool.not_true, Bool.not_false, decide_true, decide_false, true_and, and_true, false_and, and_false, true_or, or_true, false_or, or_false, Option.some.injEq, reduceCtorEq, String.reduceEq, String.reduceBEq, beq_self_eq_true, decide_eq_true_eq, Bool.and_eq_true, Bool.or_eq_true, Bool.not_eq_true, ne_eq, not_true_eq_false, not_false_eq_true, and_self, or_self, Int.reduceAbs, Int.natAbs_neg, Nat.reducePow, Int.reduceLT, Int.reduceLE, Int.reducePow, Int.reduceNeg, Int.reduceAdd, Int.reduceSub, Int.reduceMul, Int.reduceDiv, Int.reduceMod, Int.reduceToNat, Int.reduceEq, Int.reduceBEq, Nat.reduceLT, Nat.reduceLeDiff, Nat.reduceMul, Nat.reduceBEq, Int.zero_add, Int.add_zero, Int.toNat_natCast, List.nodup_nil, List.nodup_cons, List.not_mem_nil, List.mem_cons]
    · by_cases hc2 : 1000000000000000000 ≤ cell
      · refine ⟨.lst [.int cell, .int x, .int 0], [.shr (.lst (ns.map .int)), .shr (.int t), .shr (.int cell), .shr (.int x), s4], ?_, ⟨_, _, _, rfl, by omega, h3.1, h3.2, by omega⟩, ?_⟩
        · simp only [runP, runFn, envOf, outsOf, retOf, sSeq, sAsg, sIf, sRet, sRetF, sRetN, sRetO, sDrop, sNop, sOwn, sFor, sForL, sWhile, sPar2, sPar3, sBk, sCt, slotOf, mkOwn, isMutD, gN, gT, gsC, gsN, gIx, free, peek, ownL, putL, eApp, evA, evL, eVar, eC, eTup, eLst, eIf, eOr, eAnd, eNot, eChain, eSl, oNo, oSo, eCall, eCallB, eCallK, eCallIo, evC, ioSl, putD, putOuts, ownD, perm, lent, tB_, tTr, tNo, tAn, tOrr, tTrue, asB, asI, truth, eRev, dRev, eRg1, eJoin, dJoin, eBits, eApd, ePopAt, ePop, eIns, eLc, wipeE, iOf, iR1, iR2, iR3, iEnM, iZpM, items, smallI, dAdd, dSub, dMul, dFdiv, dMod, dPow, dShl, dShr, dAnd, dOr, dXor, dNeg, dInv, dEq, dNe, dLt, dLe, dGt, dGe, dIs, isD, dIsNot, dIn, inD, dNotIn, dIsi, isiB, tyD, dLen, dAbs, dMax, dMin, dInt, dDivmod, dSum, dAll, dAny, dTup, dLst, dIx, dSl, scalD, deq, PL.small64, Option.bind_some, Option.map_some, Option.bind_none, Option.map_none, List.length_cons, List.length_nil, List.cons_append, List.nil_append, List.getElem?_cons_zero, List.getElem?_cons_succ, List.set_cons_zero, List.set_cons_succ, List.replicate_succ, List.replicate_zero, List.map_cons, List.map_nil, List.getD_cons_zero, List.getD_cons_succ, Nat.zero_add, Nat.reduceAdd, Nat.reduceSub, Nat.reduceEqDiff, if_true, if_false, ite_true, ite_false, Bool.false_eq_true, Bool.true_or, Bool.false_or, Bool.and_true, Bool.true_and, Bool.and_false, Bool.false_and, Bool.or_true, Bool.or_false, Bool.not_true, Bool.not_false, decide_true, decide_false, true_and, and_true, false_and, and_false, true_or, or_true, false_or, or_false, Option.some.injEq, reduceCtorEq, String.reduceEq, String.reduceBEq, beq_self_eq_true, decide_eq_true_eq, Bool.and_eq_true, Bool.or_eq_true, Bool.not_eq_true, ne_eq, not_true_eq_false, not_false_eq_true, and_self, or_self, Int.reduceAbs, Int.natAbs_neg, Nat.reducePow, Int.reduceLT, Int.reduceLE, Int.reducePow, Int.reduceNeg, Int.reduceAdd, Int.reduceSub, Int.reduceMul, Int.reduceDiv, Int.reduceMod, Int.reduceToNat, Int.reduceEq, Int.reduceBEq, Nat.reduceLT, Nat.reduceLeDiff, Nat.reduceMul, Nat.reduceBEq, Int.zero_add, Int.add_zero, Int.toNat_natCast, List.nodup_nil, List.nodup_cons, List.not_mem_nil, List.mem_cons, cutL_map, List.length_append, List.length_map, hlen, h1, hc, hc2]
        · simp only [runP, runFn, envOf, outsOf, retOf, sSeq, sAsg, sIf, sRet, sRetF, sRetN, sRetO, sDrop, sNop, sOwn, sFor, sForL, sWhile, sPar2, sPar3, sBk, sCt, slotOf, mkOwn, isMutD, gN, gT, gsC, gsN, gIx, free, peek, ownL, putL, eApp, evA, evL, eVar, eC, eTup, eLst, eIf, eOr, eAnd, eNot, eChain, eSl, oNo, oSo, eCall, eCallB, eCallK, eCallIo, evC, ioSl, putD, putOuts, ownD, perm, lent, tB_, tTr, tNo, tAn, tOrr, tTrue, asB, asI, truth, eRev, dRev, eRg1, eJoin, dJoin, eBits, eApd, ePopAt, ePop, eIns, eLc, wipeE, iOf, iR1, iR2, iR3, iEnM, iZpM, items, smallI, dAdd, dSub, dMul, dFdiv, dMod, dPow, dShl, dShr, dAnd, dOr, dXor, dNeg, dInv, dEq, dNe, dLt, dLe, dGt, dGe, dIs, isD, dIsNot, dIn, inD, dNotIn, dIsi, isiB, tyD, dLen, dAbs, dMax, dMin, dInt, dDivmod, dSum, dAll, dAny, dTup, dLst, dIx, dSl, scalD, deq, PL.small64, Option.bind_some, Option.map_some, Option.bind_none, Option.map_none, List.length_cons, List.length_nil, List.cons_append, List.nil_append, List.getElem?_cons_zero, List.getElem?_cons_succ, List.set_cons_zero, List.set_cons_succ, List.replicate_succ, List.replicate_zero, List.map_cons, List.map_nil, List.getD_cons_zero, List.getD_cons_succ, Nat.zero_add, Nat.reduceAdd, Nat.reduceSub, Nat.reduceEqDiff, if_true, if_false, ite_true, ite_false, Bool.false_eq_true, Bool.true_or, Bool.false_or, Bool.and_true, Bool.true_and, Bool.and_false, Bool.false_and, Bool.or_true, Bool.or_false, Bool.not_true, Bool.not_false, decide_true, decide_false, true_and, and_true, false_and, and_false, true_or, or_true, false_or, or_false, Option.some.injEq, reduceCtorEq, String.reduceEq, String.reduceBEq, beq_self_eq_true, decide_eq_true_eq, Bool.and_eq_true, Bool.or_eq_true, Bool.not_eq_true, ne_eq, not_true_eq_false, not_false_eq_true, and_self, or_self, Int.reduceAbs, Int.natAbs_neg, Nat.reducePow, Int.reduceLT, Int.reduceLE, Int.reducePow, Int.reduceNeg, Int.reduceAdd, Int.reduceSub, Int.reduceMul, Int.reduceDiv, Int.reduceMod, Int.reduceToNat, Int.reduceEq, Int.reduceBEq, Nat.reduceLT, Nat.reduceLeDiff, Nat.reduceMul, Nat.reduceBEq, Int.zero_add, Int.add_zero, Int.toNat_natCast, List.nodup_nil, List.nodup_cons, List.not_mem_nil, List.mem_cons]
      · refine ⟨.lst [.int 0, .int x, .int 0], [.shr (.lst (ns.map .int)), .shr (.int t), .shr (.int cell), .shr (.int x), s4], ?_, ⟨_, _, _, rfl, by omega, h3.1, h3.2, by omega⟩, ?_⟩
        · simp only [runP, runFn, envOf, outsOf, retOf, sSeq, sAsg, sIf, sRet, sRetF, sRetN, sRetO, sDrop, sNop, sOwn, sFor, sForL, sWhile, sPar2, sPar3, sBk, sCt, slotOf, mkOwn, isMutD, gN, gT, gsC, gsN, gIx, free, peek, ownL, putL, eApp, evA, evL, eVar, eC, eTup, eLst, eIf, eOr, eAnd, eNot, eChain, eSl, oNo, oSo, eCall, eCallB, eCallK, eCallIo, evC, ioSl, putD, putOuts, ownD, perm, lent, tB_, tTr, tNo, tAn, tOrr, tTrue, asB, asI, truth, eRev, dRev, eRg1, eJoin, dJoin, eBits, eApd, ePopAt, ePop, eIns, eLc, wipeE, iOf, iR1, iR2, iR3, iEnM, iZpM, items, smallI, dAdd, dSub, dMul, dFdiv, dMod, dPow, dShl, dShr, dAnd, dOr, dXor, dNeg, dInv, dEq, dNe, dLt, dLe, dGt, dGe, dIs, isD, dIsNot, dIn, inD, dNotIn, dIsi, isiB, tyD, dLen, dAbs, dMax, dMin, dInt, dDivmod, dSum, dAll, dAny, dTup, dLst, dIx, dSl, scalD, deq, PL.small64, Option.bind_some, Option.map_some, Option.bind_none, Option.map_none, List.length_cons, List.length_nil, List.cons_append, List.nil_append, List.getElem?_cons_zero, List.getElem?_cons_succ, List.set_cons_zero, List.set_cons_succ, List.replicate_succ, List.replicate_zero, List.map_cons, List.map_nil, List.getD_cons_zero, List.getD_cons_succ, Nat.zero_add, Nat.reduceAdd, Nat.reduceSub, Nat.reduceEqDiff, if_true, if_false, ite_true, ite_false, Bool.false_eq_true, Bool.true_or, Bool.false_or, Bool.and_true, Bool.true_and, Bool.and_false, Bool.false_and, Bool.or_true, Bool.or_false, Bool.not_true, Bool.not_false, decide_true, decide_false, true_and, and_true, false_and, and_false, true_or, or_true, false_or, or_false, Option.some.injEq, reduceCtorEq, String.reduceEq, String.reduceBEq, beq_self_eq_true, decide_eq_true_eq, Bool.and_eq_true, Bool.or_eq_true, Bool.not_eq_true, ne_eq, not_true_eq_false, not_false_eq_true, and_self, or_self, Int.reduceAbs, Int.natAbs_neg, Nat.reducePow, Int.reduceLT, Int.reduceLE, Int.reducePow, Int.reduceNeg, Int.reduceAdd, Int.reduceSub, Int.reduceMul, Int.reduceDiv, Int.reduceMod, Int.reduceToNat, Int.reduceEq, Int.reduceBEq, Nat.reduceLT, Nat.reduceLeDiff, Nat.reduceMul, Nat.reduceBEq, Int.zero_add, Int.add_zero, Int.toNat_natCast, List.nodup_nil, List.nodup_cons, List.not_mem_nil, List.mem_cons, cutL_map, List.length_append, List.length_map, hlen, h1, hc, hc2]
        · simp only [runP, runFn, envOf, outsOf, retOf, sSeq, sAsg, sIf, sRet, sRetF, sRetN, sRetO, sDrop, sNop, sOwn, sFor, sForL, sWhile, sPar2, sPar3, sBk, sCt, slotOf, mkOwn, isMutD, gN, gT, gsC, gsN, gIx, free, peek, ownL, putL, eApp, evA, evL, eVar, eC, eTup, eLst, eIf, eOr, eAnd, eNot, eChain, eSl, oNo, oSo, eCall, eCallB, eCallK, eCallIo, evC, ioSl, putD, putOuts, ownD, perm, lent, tB_, tTr, tNo, tAn, tOrr, tTrue, asB, asI, truth, eRev, dRev, eRg1, eJoin, dJoin, eBits, eApd, ePopAt, ePop, eIns, eLc, wipeE, iOf, iR1, iR2, iR3, iEnM, iZpM, items, smallI, dAdd, dSub, dMul, dFdiv, dMod, dPow, dShl, dShr, dAnd, dOr, dXor, dNeg, dInv, dEq, dNe, dLt, dLe, dGt, dGe, dIs, isD, dIsNot, dIn, inD, dNotIn, dIsi, isiB, tyD, dLen, dAbs, dMax, dMin, dInt, dDivmod, dSum, dAll, dAny, dTup, dLst, dIx, dSl, scalD, deq, PL.small64, Option.bind_some, Option.map_some, Option.bind_none, Option.map_none, List.length_cons, List.length_nil, List.cons_append, List.nil_append, List.getElem?_cons_zero, List.getElem?_cons_succ, List.set_cons_zero, List.set_cons_succ, List.replicate_succ, List.replicate_zero, List.map_cons, List.map_nil, List.getD_cons_zero, List.getD_cons_succ, Nat.zero_add, Nat.reduceAdd, Nat.reduceSub, Nat.reduceEqDiff, if_true, if_false, ite_true, ite_false, Bool.false_eq_true, Bool.true_or, Bool.false_or, Bool.and_true, Bool.true_and, Bool.and_false, Bool.false_and, Bool.or_true, Bool.or_false, Bool.not_true, Bool.not_false, decide_true, decide_false, true_and, and_true, false_and, and_false, true_or, or_true, false_or, or_false, Option.some.injEq, reduceCtorEq, String.reduceEq, String.reduceBEq, beq_self_eq_true, decide_eq_true_eq, Bool.and_eq_true, Bool.or_eq_true, Bool.not_eq_true, ne_eq, not_true_eq_false, not_false_eq_true, and_self, or_self, Int.reduceAbs, Int.natAbs_neg, Nat.reducePow, Int.reduceLT, Int.reduceLE, Int.reducePow, Int.reduceNeg, Int.reduceAdd, Int.reduceSub, Int.reduceMul, Int.reduceDiv, Int.reduceMod, Int.reduceToNat, Int.reduceEq, Int.reduceBEq, Nat.reduceLT, Nat.reduceLeDiff, Nat.reduceMul, Nat.reduceBEq, Int.zero_add, Int.add_zero, Int.toNat_natCast, List.nodup_nil, List.nodup_cons, List.not_mem_nil, List.mem_cons]
  have fin : ∀ cell : Int, (eIf (tB_ (eApp dLt [.v (eVar 1), .v (eApp dLen [.v (eVar 0)])])) (eApp dInt [.v (eApp dIx [.v (eVar 0), .v (eVar 1)])]) (eApp dAdd [.v (eApp dAdd [.v (eApp dMul [.v (eC (.int 7907)), .v (eVar 1)]), .v (eC (.int 37))]), .v (eApp dMod [.v (eApp dInt [.v (eApp dSum [.v (eSl dSl (.v (eVar 0)) oNo (oSo (eC (.int 3))))])]), .v (eC (.int 1000033))])])) [.shr (.lst (ns.map .int)), .shr (.int t), .no, .no, .no] = some (.int cell, [.shr (.lst (ns.map .int)), .shr (.int t), .no, .no, .no]) →
      ∃ w, m__law_pot [.lst (ns.map .int), .int (t : Nat)] = some w ∧ Wl w := by
    intro cell hcell
    obtain ⟨d, e, h1, h2, h3⟩ := key cell
    refine ⟨d, ?_, h2⟩
    have e1 : b__law_pot [.shr (.lst (ns.map .int)), .shr (.int t), .no, .no, .no] = some (.rt true d, e) := by
      have h0 : ∀ (m : EM) (n : SM) (env env' : PL.Env) (d : D), m env = some (d, env') → free env' 2 = true → (sSeq (sAsg m (gN 2)) n) env = n (env'.set 2 (.shr d)) := by
        intro m n env env' d hm hf
        unfold sSeq sAsg gN
        rw [hm, Option.bind_some]
        show ((if free env' 2 = true then some (env'.set 2 (Slot.shr d)) else none).bind fun e' => some (Fl.nx, e')).bind _ = _
        rw [if_pos hf]; rfl
      exact (h0 _ _ _ _ _ hcell rfl).trans h1
    show (runFn ⟨[false, false], true⟩ 5 b__law_pot [.lst (ns.map .int), .int t]).map (·.1) = some d
    have e2 : runFn ⟨[false, false], true⟩ 5 b__law_pot [.lst (ns.map .int), .int t] = some (d, [.non, .non]) := by
      show (b__law_pot [.shr (.lst (ns.map .int)), .shr (.int t), .no, .no, .no]).bind _ = _
      rw [e1, Option.bind_some]
      show ((retOf true (.rt true d)).bind fun d => (outsOf [false, false] e).map fun os => (d, os)) = _
      rw [h3]; rfl
    rw [e2]; rfl
  by_cases h : t < ns.length
  · have hi : (t : Int) < (ns.length : Int) := by omega
    refine fin ns[t] ?_
    simp only [runP, runFn, envOf, outsOf, retOf, sSeq, sAsg, sIf, sRet, sRetF, sRetN, sRetO, sDrop, sNop, sOwn, sFor, sForL, sWhile, sPar2, sPar3, sBk, sCt, slotOf, mkOwn, isMutD, gN, gT, gsC, gsN, gIx, free, peek, ownL, putL, eApp, evA, evL, eVar, eC, eTup, eLst, eIf, eOr, eAnd, eNot, eChain, eSl, oNo, oSo, eCall, eCallB, eCallK, eCallIo, evC, ioSl, putD, putOuts, ownD, perm, lent, tB_, tTr, tNo, tAn, tOrr, tTrue, asB, asI, truth, eRev, dRev, eRg1, eJoin, dJoin, eBits, eApd, ePopAt, ePop, eIns, eLc, wipeE, iOf, iR1, iR2, iR3, iEnM, iZpM, items, smallI, dAdd, dSub, dMul, dFdiv, dMod, dPow, dShl, dShr, dAnd, dOr, dXor, dNeg, dInv, dEq, dNe, dLt, dLe, dGt, dGe, dIs, isD, dIsNot, dIn, inD, dNotIn, dIsi, isiB, tyD, dLen, dAbs, dMax, dMin, dInt, dDivmod, dSum, dAll, dAny, dTup, dLst, dIx, dSl, scalD, deq, PL.small64, Option.bind_some, Option.map_some, Option.bind_none, Option.map_none, List.length_cons, List.length_nil, List.cons_append, List.nil_append, List.getElem?_cons_zero, List.getElem?_cons_succ, List.set_cons_zero, List.set_cons_succ, List.replicate_succ, List.replicate_zero, List.map_cons, List.map_nil, List.getD_cons_zero, List.getD_cons_succ, Nat.zero_add, Nat.reduceAdd, Nat.reduceSub, Nat.reduceEqDiff, if_true, if_false, ite_true, ite_false, Bool.false_eq_true, Bool.true_or, Bool.false_or, Bool.and_true, Bool.true_and, Bool.and_false, Bool.false_and, Bool.or_true, Bool.or_false, Bool.not_true, Bool.not_false, decide_true, decide_false, true_and, and_true, false_and, and_false, true_or, or_true, false_or, or_false, Option.some.injEq, reduceCtorEq, String.reduceEq, String.reduceBEq, beq_self_eq_true, decide_eq_true_eq, Bool.and_eq_true, Bool.or_eq_true, Bool.not_eq_true, ne_eq, not_true_eq_false, not_false_eq_true, and_self, or_self, Int.reduceAbs, Int.natAbs_neg, Nat.reducePow, Int.reduceLT, Int.reduceLE, Int.reducePow, Int.reduceNeg, Int.reduceAdd, Int.reduceSub, Int.reduceMul, Int.reduceDiv, Int.reduceMod, Int.reduceToNat, Int.reduceEq, Int.reduceBEq, Nat.reduceLT, Nat.reduceLeDiff, Nat.reduceMul, Nat.reduceBEq, Int.zero_add, Int.add_zero, Int.toNat_natCast, List.nodup_nil, List.nodup_cons, List.not_mem_nil, List.mem_cons, List.length_map, hi, atI_map, atI_lt h]
  · have hi : ¬ (t : Int) < (ns.length : Int) := by omega
    refine fin (7907 * t + 37 + (cutL ns none (some 3)).sum % 1000033) ?_
    simp only [runP, runFn, envOf, outsOf, retOf, sSeq, sAsg, sIf, sRet, sRetF, sRetN, sRetO, sDrop, sNop, sOwn, sFor, sForL, sWhile, sPar2, sPar3, sBk, sCt, slotOf, mkOwn, isMutD, gN, gT, gsC, gsN, gIx, free, peek, ownL, putL, eApp, evA, evL, eVar, eC, eTup, eLst, eIf, eOr, eAnd, eNot, eChain, eSl, oNo, oSo, eCall, eCallB, eCallK, eCallIo, evC, ioSl, putD, putOuts, ownD, perm, lent, tB_, tTr, tNo, tAn, tOrr, tTrue, asB, asI, truth, eRev, dRev, eRg1, eJoin, dJoin, eBits, eApd, ePopAt, ePop, eIns, eLc, wipeE, iOf, iR1, iR2, iR3, iEnM, iZpM, items, smallI, dAdd, dSub, dMul, dFdiv, dMod, dPow, dShl, dShr, dAnd, dOr, dXor, dNeg, dInv, dEq, dNe, dLt, dLe, dGt, dGe, dIs, isD, dIsNot, dIn, inD, dNotIn, dIsi, isiB, tyD, dLen, dAbs, dMax, dMin, dInt, dDivmod, dSum, dAll, dAny, dTup, dLst, dIx, dSl, scalD, deq, PL.small64, Option.bind_some, Option.map_some, Option.bind_none, Option.map_none, List.length_cons, List.length_nil, List.cons_append, List.nil_append, List.getElem?_cons_zero, List.getElem?_cons_succ, List.set_cons_zero, List.set_cons_succ, List.replicate_succ, List.replicate_zero, List.map_cons, List.map_nil, List.getD_cons_zero, List.getD_cons_succ, Nat.zero_add, Nat.reduceAdd, Nat.reduceSub, Nat.reduceEqDiff, if_true, if_false, ite_true, ite_false, Bool.false_eq_true, Bool.true_or, Bool.false_or, Bool.and_true, Bool.true_and, Bool.and_false, Bool.false_and, Bool.or_true, Bool.or_false, Bool.not_true, Bool.not_false, decide_true, decide_false, true_and, and_true, false_and, and_false, true_or, or_true, false_or, or_false, Option.some.injEq, reduceCtorEq, String.reduceEq, String.reduceBEq, beq_self_eq_true, decide_eq_true_eq, Bool.and_eq_true, Bool.or_eq_true, Bool.not_eq_true, ne_eq, not_true_eq_false, not_false_eq_true, and_self, or_self, Int.reduceAbs, Int.natAbs_neg, Nat.reducePow, Int.reduceLT, Int.reduceLE, Int.reducePow, Int.reduceNeg, Int.reduceAdd, Int.reduceSub, Int.reduceMul, Int.reduceDiv, Int.reduceMod, Int.reduceToNat, Int.reduceEq, Int.reduceBEq, Nat.reduceLT, Nat.reduceLeDiff, Nat.reduceMul, Nat.reduceBEq, Int.zero_add, Int.add_zero, Int.toNat_natCast, List.nodup_nil, List.nodup_cons, List.not_mem_nil, List.mem_cons, List.length_map, hi, cutL_map, intsD_map]

theorem same_seq (n : Nat) (ds : List D) (ih : ∀ d, okS d n = true → m__law_same (n + 1) [d, d] = some (.bl true)) (hz : ds.length ≤ 16777216) (hs : okSs ds n = true) (S : D) (hS : S = .tup ds ∨ S = .lst ds) :
    eApp dAll [.v (eLc (iR1 (eApp dLen [.v (eVar 1)])) [2] (gN 2) (tTrue) (eCall 2 (m__law_same (n + 1)) [eApp dIx [.v (eVar 0), .v (eVar 2)], eApp dIx [.v (eVar 1), .v (eVar 2)]]))] [.shr S, .shr S, .no] = some (.bl true, [.shr S, .shr S, .no]) := by
  have hl := lc_map (vs := [2]) (g := gN 2) (t := tTrue) (m := eCall 2 (m__law_same (n + 1)) [eApp dIx [.v (eVar 0), .v (eVar 2)], eApp dIx [.v (eVar 1), .v (eVar 2)]]) (rngD 0 ds.length) [.shr S, .shr S, .no] (fun _ => .bl true) (fun d hd => by
    obtain ⟨i, hi, rfl⟩ := mem_rngD hd
    rw [Int.zero_add]
    have hg := ih ds[i] (okSs_get hs (List.getElem?_eq_getElem hi))
    refine ⟨[.shr S, .shr S, .shr (.int i)], [.shr S, .shr S, .shr (.int i)], [.shr S, .shr S, .shr (.int i)], by simp only [runP, runFn, envOf, outsOf, retOf, sSeq, sAsg, sIf, sRet, sRetF, sRetN, sRetO, sDrop, sNop, sOwn, sFor, sForL, sWhile, sPar2, sPar3, sBk, sCt, slotOf, mkOwn, isMutD, gN, gT, gsC, gsN, gIx, free, peek, ownL, putL, eApp, evA, evL, eVar, eC, eTup, eLst, eIf, eOr, eAnd, eNot, eChain, eSl, oNo, oSo, eCall, eCallB, eCallK, eCallIo, evC, ioSl, putD, putOuts, ownD, perm, lent, tB_, tTr, tNo, tAn, tOrr, tTrue, asB, asI, truth, eRev, dRev, eRg1, eJoin, dJoin, eBits, eApd, ePopAt, ePop, eIns, eLc, wipeE, iOf, iR1, iR2, iR3, iEnM, iZpM, items, smallI, dAdd, dSub, dMul, dFdiv, dMod, dPow, dShl, dShr, dAnd, dOr, dXor, dNeg, dInv, dEq, dNe, dLt, dLe, dGt, dGe, dIs, isD, dIsNot, dIn, inD, dNotIn, dIsi, isiB, tyD, dLen, dAbs, dMax, dMin, dInt, dDivmod, dSum, dAll, dAny, dTup, dLst, dIx, dSl, scalD, deq, PL.small64, Option.bind_some, Option.map_some, Option.bind_none, Option.map_none, List.length_cons, List.length_nil, List.cons_append, List.nil_append, List.getElem?_cons_zero, List.getElem?_cons_succ, List.set_cons_zero, List.set_cons_succ, List.replicate_succ, List.replicate_zero, List.map_cons, List.map_nil, List.getD_cons_zero, List.getD_cons_succ, Nat.zero_add, Nat.reduceAdd, Nat.reduceSub, Nat.reduceEqDiff, if_true, if_false, ite_true, ite_false, Bool.false_eq_true, Bool.true_or, Bool.false_or, Bool.and_true, Bool.true_and, Bool.and_false, Bool.false_and, Bool.or_true, Bool.or_false, Bool.not_true, Bool.not_false, decide_true, decide_false, true_and, and_true, false_and, and_false, true_or, or_true, false_or, or_false, Option.some.injEq, reduceCtorEq, String.reduceEq, String.reduceBEq, beq_self_eq_true, decide_eq_true_eq, Bool.and_eq_true, Bool.or_eq_true, Bool.not_eq_true, ne_eq, not_true_eq_false, not_false_eq_true, and_self, or_self, Int.reduceAbs, Int.natAbs_neg, Nat.reducePow, Int.reduceLT, Int.reduceLE, Int.reducePow, Int.reduceNeg, Int.reduceAdd, Int.reduceSub, Int.reduceMul, Int.reduceDiv, Int.reduceMod, Int.reduceToNat, Int.reduceEq, Int.reduceBEq, Nat.reduceLT, Nat.reduceLeDiff, Nat.reduceMul, Nat.reduceBEq, Int.zero_add, Int.add_zero, Int.toNat_natCast, List.nodup_nil, List.nodup_cons, List.not_mem_nil, List.mem_cons], by simp only [runP, runFn, envOf, outsOf, retOf, sSeq, sAsg, sIf, sRet, sRetF, sRetN, sRetO, sDrop, sNop, sOwn, sFor, sForL, sWhile, sPar2, sPar3, sBk, sCt, slotOf, mkOwn, isMutD, gN, gT, gsC, gsN, gIx, free, peek, ownL, putL, eApp, evA, evL, eVar, eC, eTup, eLst, eIf, eOr, eAnd, eNot, eChain, eSl, oNo, oSo, eCall, eCallB, eCallK, eCallIo, evC, ioSl, putD, putOuts, ownD, perm, lent, tB_, tTr, tNo, tAn, tOrr, tTrue, asB, asI, truth, eRev, dRev, eRg1, eJoin, dJoin, eBits, eApd, ePopAt, ePop, eIns, eLc, wipeE, iOf, iR1, iR2, iR3, iEnM, iZpM, items, smallI, dAdd, dSub, dMul, dFdiv, dMod, dPow, dShl, dShr, dAnd, dOr, dXor, dNeg, dInv, dEq, dNe, dLt, dLe, dGt, dGe, dIs, isD, dIsNot, dIn, inD, dNotIn, dIsi, isiB, tyD, dLen, dAbs, dMax, dMin, dInt, dDivmod, dSum, dAll, dAny, dTup, dLst, dIx, dSl, scalD, deq, PL.small64, Option.bind_some, Option.map_some, Option.bind_none, Option.map_none, List.length_cons, List.length_nil, List.cons_append, List.nil_append, List.getElem?_cons_zero, List.getElem?_cons_succ, List.set_cons_zero, List.set_cons_succ, List.replicate_succ, List.replicate_zero, List.map_cons, List.map_nil, List.getD_cons_zero, List.getD_cons_succ, Nat.zero_add, Nat.reduceAdd, Nat.reduceSub, Nat.reduceEqDiff, if_true, if_false, ite_true, ite_false, Bool.false_eq_true, Bool.true_or, Bool.false_or, Bool.and_true, Bool.true_and, Bool.and_false, Bool.false_and, Bool.or_true, Bool.or_false, Bool.not_true, Bool.not_false, decide_true, decide_false, true_and, and_true, false_and, and_false, true_or, or_true, false_or, or_false, Option.some.injEq, reduceCtorEq, String.reduceEq, String.reduceBEq, beq_self_eq_true, decide_eq_true_eq, Bool.and_eq_true, Bool.or_eq_true, Bool.not_eq_true, ne_eq, not_true_eq_false, not_false_eq_true, and_self, or_self, Int.reduceAbs, Int.natAbs_neg, Nat.reducePow, Int.reduceLT, Int.reduceLE, Int.reducePow, Int.reduceNeg, Int.reduceAdd, Int.reduceSub, Int.reduceMul, Int.reduceDiv, Int.reduceMod, Int.reduceToNat, Int.reduceEq, Int.reduceBEq, Nat.reduceLT, Nat.reduceLeDiff, Nat.reduceMul, Nat.reduceBEq, Int.zero_add, Int.add_zero, Int.toNat_natCast, List.nodup_nil, List.nodup_cons, List.not_mem_nil, List.mem_cons], ?_, by simp only [runP, runFn, envOf, outsOf, retOf, sSeq, sAsg, sIf, sRet, sRetF, sRetN, sRetO, sDrop, sNop, sOwn, sFor, sForL, sWhile, sPar2, sPar3, sBk, sCt, slotOf, mkOwn, isMutD, gN, gT, gsC, gsN, gIx, free, peek, ownL, putL, eApp, evA, evL, eVar, eC, eTup, eLst, eIf, eOr, eAnd, eNot, eChain, eSl, oNo, oSo, eCall, eCallB, eCallK, eCallIo, evC, ioSl, putD, putOuts, ownD, perm, lent, tB_, tTr, tNo, tAn, tOrr, tTrue, asB, asI, truth, eRev, dRev, eRg1, eJoin, dJoin, eBits, eApd, ePopAt, ePop, eIns, eLc, wipeE, iOf, iR1, iR2, iR3, iEnM, iZpM, items, smallI, dAdd, dSub, dMul, dFdiv, dMod, dPow, dShl, dShr, dAnd, dOr, dXor, dNeg, dInv, dEq, dNe, dLt, dLe, dGt, dGe, dIs, isD, dIsNot, dIn, inD, dNotIn, dIsi, isiB, tyD, dLen, dAbs, dMax, dMin, dInt, dDivmod, dSum, dAll, dAny, dTup, dLst, dIx, dSl, scalD, deq, PL.small64, Option.bind_some, Option.map_some, Option.bind_none, Option.map_none, List.length_cons, List.length_nil, List.cons_append, List.nil_append, List.getElem?_cons_zero, List.getElem?_cons_succ, List.set_cons_zero, List.set_cons_succ, List.replicate_succ, List.replicate_zero, List.map_cons, List.map_nil, List.getD_cons_zero, List.getD_cons_succ, Nat.zero_add, Nat.reduceAdd, Nat.reduceSub, Nat.reduceEqDiff, if_true, if_false, ite_true, ite_false, Bool.false_eq_true, Bool.true_or, Bool.false_or, Bool.and_true, Bool.true_and, Bool.and_false, Bool.false_and, Bool.or_true, Bool.or_false, Bool.not_true, Bool.not_false, decide_true, decide_false, true_and, and_true, false_and, and_false, true_or, or_true, false_or, or_false, Option.some.injEq, reduceCtorEq, String.reduceEq, String.reduceBEq, beq_self_eq_true, decide_eq_true_eq, Bool.and_eq_true, Bool.or_eq_true, Bool.not_eq_true, ne_eq, not_true_eq_false, not_false_eq_true, and_self, or_self, Int.reduceAbs, Int.natAbs_neg, Nat.reducePow, Int.reduceLT, Int.reduceLE, Int.reducePow, Int.reduceNeg, Int.reduceAdd, Int.reduceSub, Int.reduceMul, Int.reduceDiv, Int.reduceMod, Int.reduceToNat, Int.reduceEq, Int.reduceBEq, Nat.reduceLT, Nat.reduceLeDiff, Nat.reduceMul, Nat.reduceBEq, Int.zero_add, Int.add_zero, Int.toNat_natCast, List.nodup_nil, List.nodup_cons, List.not_mem_nil, List.mem_cons]⟩
    rcases hS with rfl | rfl <;> simp only [runP, runFn, envOf, outsOf, retOf, sSeq, sAsg, sIf, sRet, sRetF, sRetN, sRetO, sDrop, sNop, sOwn, sFor, sForL, sWhile, sPar2, sPar3, sBk, sCt, slotOf, mkOwn, isMutD, gN, gT, gsC, gsN, gIx, free, peek, ownL, putL, eApp, evA, evL, eVar, eC, eTup, eLst, eIf, eOr, eAnd, eNot, eChain, eSl, oNo, oSo, eCall, eCallB, eCallK, eCallIo, evC, ioSl, putD, putOuts, ownD, perm, lent, tB_, tTr, tNo, tAn, tOrr, tTrue, asB, asI, truth, eRev, dRev, eRg1, eJoin, dJoin, eBits, eApd, ePopAt, ePop, eIns, eLc, wipeE, iOf, iR1, iR2, iR3, iEnM, iZpM, items, smallI, dAdd, dSub, dMul, dFdiv, dMod, dPow, dShl, dShr, dAnd, dOr, dXor, dNeg, dInv, dEq, dNe, dLt, dLe, dGt, dGe, dIs, isD, dIsNot, dIn, inD, dNotIn, dIsi, isiB, tyD, dLen, dAbs, dMax, dMin, dInt, dDivmod, dSum, dAll, dAny, dTup, dLst, dIx, dSl, scalD, deq, PL.small64, Option.bind_some, Option.map_some, Option.bind_none, Option.map_none, List.length_cons, List.length_nil, List.cons_append, List.nil_append, List.getElem?_cons_zero, List.getElem?_cons_succ, List.set_cons_zero, List.set_cons_succ, List.replicate_succ, List.replicate_zero, List.map_cons, List.map_nil, List.getD_cons_zero, List.getD_cons_succ, Nat.zero_add, Nat.reduceAdd, Nat.reduceSub, Nat.reduceEqDiff, if_true, if_false, ite_true, ite_false, Bool.false_eq_true, Bool.true_or, Bool.false_or, Bool.and_true, Bool.true_and, Bool.and_false, Bool.false_and, Bool.or_true, Bool.or_false, Bool.not_true, Bool.not_false, decide_true, decide_false, true_and, and_true, false_and, and_false, true_or, or_true, false_or, or_false, Option.some.injEq, reduceCtorEq, String.reduceEq, String.reduceBEq, beq_self_eq_true, decide_eq_true_eq, Bool.and_eq_true, Bool.or_eq_true, Bool.not_eq_true, ne_eq, not_true_eq_false, not_false_eq_true, and_self, or_self, Int.reduceAbs, Int.natAbs_neg, Nat.reducePow, Int.reduceLT, Int.reduceLE, Int.reducePow, Int.reduceNeg, Int.reduceAdd, Int.reduceSub, Int.reduceMul, Int.reduceDiv, Int.reduceMod, Int.reduceToNat, Int.reduceEq, Int.reduceBEq, Nat.reduceLT, Nat.reduceLeDiff, Nat.reduceMul, Nat.reduceBEq, Int.zero_add, Int.add_zero, Int.toNat_natCast, List.nodup_nil, List.nodup_cons, List.not_mem_nil, List.mem_cons, atI_lt hi, hg])
  rw [map_rep, rngD_len] at hl
  have hlen : eApp dLen [.v (eVar 1)] [.shr S, .shr S, .no] = some (.int ds.length, [.shr S, .shr S, .no]) := by rcases hS with rfl | rfl <;> rfl
  refine app_of (ev1 (lc_of (r1_of hlen hz) (by rw [rngD_len]; exact hz) rfl hl)) ?_
  show (blsD _).map _ = _
  rw [blsD_rep]
  show some (D.bl _) = _
  rw [all_rep]
theorem same_ok : ∀ (n : Nat) (d : D), okS d n = true → m__law_same (n + 1) [d, d] = some (.bl true)
  | n, .non, _ => runP_of (e := [.shr .non, .shr .non, .no]) rfl ((seq_nx rfl).trans ((seq_nx rfl).trans ((seq_nx rfl).trans rfl))) rfl
  | n, .bl b, _ => runP_of (e := [.shr (.bl b), .shr (.bl b), .no]) rfl ((seq_nx rfl).trans ((seq_nx rfl).trans ((seq_nx rfl).trans (by simp only [runP, runFn, envOf, outsOf, retOf, sSeq, sAsg, sIf, sRet, sRetF, sRetN, sRetO, sDrop, sNop, sOwn, sFor, sForL, sWhile, sPar2, sPar3, sBk, sCt, slotOf, mkOwn, isMutD, gN, gT, gsC, gsN, gIx, free, peek, ownL, putL, eApp, evA, evL, eVar, eC, eTup, eLst, eIf, eOr, eAnd, eNot, eChain, eSl, oNo, oSo, eCall, eCallB, eCallK, eCallIo, evC, ioSl, putD, putOuts, ownD, perm, lent, tB_, tTr, tNo, tAn, tOrr, tTrue, asB, asI, truth, eRev, dRev, eRg1, eJoin, dJoin, eBits, eApd, ePopAt, ePop, eIns, eLc, wipeE, iOf, iR1, iR2, iR3, iEnM, iZpM, items, smallI, dAdd, dSub, dMul, dFdiv, dMod, dPow, dShl, dShr, dAnd, dOr, dXor, dNeg, dInv, dEq, dNe, dLt, dLe, dGt, dGe, dIs, isD, dIsNot, dIn, inD, dNotIn, dIsi, isiB, tyD, dLen, dAbs, dMax, dMin, dInt, dDivmod, dSum, dAll, dAny, dTup, dLst, dIx, dSl, scalD, deq, PL.small64, Option.bind_some, Option.map_some, Option.bind_none, Option.map_none, List.length_cons, List.length_nil, List.cons_append, List.nil_append, List.getElem?_cons_zero, List.getElem?_cons_succ, List.set_cons_zero, List.set_cons_succ, List.replicate_succ, List.replicate_zero, List.map_cons, List.map_nil, List.getD_cons_zero, List.getD_cons_succ, Nat.zero_add, Nat.reduceAdd, Nat.reduceSub, Nat.reduceEqDiff, if_true, if_false, ite_true, ite_false, Bool.false_eq_true, Bool.true_or, Bool.false_or, Bool.and_true, Bool.true_and, Bool.and_false, Bool.false_and, Bool.or_true, Bool.or_false, Bool.not_true, Bool.not_false, decide_true, decide_false, true_and, and_true, false_and, and_false, true_or, or_true, false_or, or_false, Option.some.injEq, reduceCtorEq, String.reduceEq, String.reduceBEq, beq_self_eq_true, decide_eq_true_eq, Bool.and_eq_true, Bool.or_eq_true, Bool.not_eq_true, ne_eq, not_true_eq_false, not_false_eq_true, and_self, or_self, Int.reduceAbs, Int.natAbs_neg, Nat.reducePow, Int.reduceLT, Int.reduceLE, Int.reducePow, Int.reduceNeg, Int.reduceAdd, Int.reduceSub, Int.reduceMul, Int.reduceDiv, Int.reduceMod, Int.reduceToNat, Int.reduceEq, Int.reduceBEq, Nat.reduceLT, Nat.reduceLeDiff, Nat.reduceMul, Nat.reduceBEq, Int.zero_add, Int.add_zero, Int.toNat_natCast, List.nodup_nil, List.nodup_cons, List.not_mem_nil, List.mem_cons])))) rfl
  | n, .int b, _ => runP_of (e := [.shr (.int b), .shr (.int b), .no]) rfl ((seq_nx rfl).trans ((seq_nx rfl).trans ((seq_nx rfl).trans (by simp only [runP, runFn, envOf, outsOf, retOf, sSeq, sAsg, sIf, sRet, sRetF, sRetN, sRetO, sDrop, sNop, sOwn, sFor, sForL, sWhile, sPar2, sPar3, sBk, sCt, slotOf, mkOwn, isMutD, gN, gT, gsC, gsN, gIx, free, peek, ownL, putL, eApp, evA, evL, eVar, eC, eTup, eLst, eIf, eOr, eAnd, eNot, eChain, eSl, oNo, oSo, eCall, eCallB, eCallK, eCallIo, evC, ioSl, putD, putOuts, ownD, perm, lent, tB_, tTr, tNo, tAn, tOrr, tTrue, asB, asI, truth, eRev, dRev, eRg1, eJoin, dJoin, eBits, eApd, ePopAt, ePop, eIns, eLc, wipeE, iOf, iR1, iR2, iR3, iEnM, iZpM, items, smallI, dAdd, dSub, dMul, dFdiv, dMod, dPow, dShl, dShr, dAnd, dOr, dXor, dNeg, dInv, dEq, dNe, dLt, dLe, dGt, dGe, dIs, isD, dIsNot, dIn, inD, dNotIn, dIsi, isiB, tyD, dLen, dAbs, dMax, dMin, dInt, dDivmod, dSum, dAll, dAny, dTup, dLst, dIx, dSl, scalD, deq, PL.small64, Option.bind_some, Option.map_some, Option.bind_none, Option.map_none, List.length_cons, List.length_nil, List.cons_append, List.nil_append, List.getElem?_cons_zero, List.getElem?_cons_succ, List.set_cons_zero, List.set_cons_succ, List.replicate_succ, List.replicate_zero, List.map_cons, List.map_nil, List.getD_cons_zero, List.getD_cons_succ, Nat.zero_add, Nat.reduceAdd, Nat.reduceSub, Nat.reduceEqDiff, if_true, if_false, ite_true, ite_false, Bool.false_eq_true, Bool.true_or, Bool.false_or, Bool.and_true, Bool.true_and, Bool.and_false, Bool.false_and, Bool.or_true, Bool.or_false, Bool.not_true, Bool.not_false, decide_true, decide_false, true_and, and_true, false_and, and_false, true_or, or_true, false_or, or_false, Option.some.injEq, reduceCtorEq, String.reduceEq, String.reduceBEq, beq_self_eq_true, decide_eq_true_eq, Bool.and_eq_true, Bool.or_eq_true, Bool.not_eq_true, ne_eq, not_true_eq_false, not_false_eq_true, and_self, or_self, Int.reduceAbs, Int.natAbs_neg, Nat.reducePow, Int.reduceLT, Int.reduceLE, Int.reducePow, Int.reduceNeg, Int.reduceAdd, Int.reduceSub, Int.reduceMul, Int.reduceDiv, Int.reduceMod, Int.reduceToNat, Int.reduceEq, Int.reduceBEq, Nat.reduceLT, Nat.reduceLeDiff, Nat.reduceMul, Nat.reduceBEq, Int.zero_add, Int.add_zero, Int.toNat_natCast, List.nodup_nil, List.nodup_cons, List.not_mem_nil, List.mem_cons])))) rfl
  | n, .str b, _ => runP_of (e := [.shr (.str b), .shr (.str b), .no]) rfl ((seq_nx rfl).trans ((seq_nx rfl).trans ((seq_nx rfl).trans (by simp only [runP, runFn, envOf, outsOf, retOf, sSeq, sAsg, sIf, sRet, sRetF, sRetN, sRetO, sDrop, sNop, sOwn, sFor, sForL, sWhile, sPar2, sPar3, sBk, sCt, slotOf, mkOwn, isMutD, gN, gT, gsC, gsN, gIx, free, peek, ownL, putL, eApp, evA, evL, eVar, eC, eTup, eLst, eIf, eOr, eAnd, eNot, eChain, eSl, oNo, oSo, eCall, eCallB, eCallK, eCallIo, evC, ioSl, putD, putOuts, ownD, perm, lent, tB_, tTr, tNo, tAn, tOrr, tTrue, asB, asI, truth, eRev, dRev, eRg1, eJoin, dJoin, eBits, eApd, ePopAt, ePop, eIns, eLc, wipeE, iOf, iR1, iR2, iR3, iEnM, iZpM, items, smallI, dAdd, dSub, dMul, dFdiv, dMod, dPow, dShl, dShr, dAnd, dOr, dXor, dNeg, dInv, dEq, dNe, dLt, dLe, dGt, dGe, dIs, isD, dIsNot, dIn, inD, dNotIn, dIsi, isiB, tyD, dLen, dAbs, dMax, dMin, dInt, dDivmod, dSum, dAll, dAny, dTup, dLst, dIx, dSl, scalD, deq, PL.small64, Option.bind_some, Option.map_some, Option.bind_none, Option.map_none, List.length_cons, List.length_nil, List.cons_append, List.nil_append, List.getElem?_cons_zero, List.getElem?_cons_succ, List.set_cons_zero, List.set_cons_succ, List.replicate_succ, List.replicate_zero, List.map_cons, List.map_nil, List.getD_cons_zero, List.getD_cons_succ, Nat.zero_add, Nat.reduceAdd, Nat.reduceSub, Nat.reduceEqDiff, if_true, if_false, ite_true, ite_false, Bool.false_eq_true, Bool.true_or, Bool.false_or, Bool.and_true, Bool.true_and, Bool.and_false, Bool.false_and, Bool.or_true, Bool.or_false, Bool.not_true, Bool.not_false, decide_true, decide_false, true_and, and_true, false_and, and_false, true_or, or_true, false_or, or_false, Option.some.injEq, reduceCtorEq, String.reduceEq, String.reduceBEq, beq_self_eq_true, decide_eq_true_eq, Bool.and_eq_true, Bool.or_eq_true, Bool.not_eq_true, ne_eq, not_true_eq_false, not_false_eq_true, and_self, or_self, Int.reduceAbs, Int.natAbs_neg, Nat.reducePow, Int.reduceLT, Int.reduceLE, Int.reducePow, Int.reduceNeg, Int.reduceAdd, Int.reduceSub, Int.reduceMul, Int.reduceDiv, Int.reduceMod, Int.reduceToNat, Int.reduceEq, Int.reduceBEq, Nat.reduceLT, Nat.reduceLeDiff, Nat.reduceMul, Nat.reduceBEq, Int.zero_add, Int.add_zero, Int.toNat_natCast, List.nodup_nil, List.nodup_cons, List.not_mem_nil, List.mem_cons])))) rfl
  | n + 1, .tup ds, h => by
    rw [okS, Bool.and_eq_true, Bool.and_eq_true, decide_eq_true_eq, decide_eq_true_eq] at h
    have hq := same_seq n ds (fun d hd => same_ok n d hd) h.1.2 h.2 (.tup ds) (.inl rfl)
    refine runP_of (e := [.shr (.tup ds), .shr (.tup ds), .no]) rfl (seq_rt ((if_t rfl).trans ((ret_of (d := .bl true) ((and_t (d := .bl true) (by simp only [runP, runFn, envOf, outsOf, retOf, sSeq, sAsg, sIf, sRet, sRetF, sRetN, sRetO, sDrop, sNop, sOwn, sFor, sForL, sWhile, sPar2, sPar3, sBk, sCt, slotOf, mkOwn, isMutD, gN, gT, gsC, gsN, gIx, free, peek, ownL, putL, eApp, evA, evL, eVar, eC, eTup, eLst, eIf, eOr, eAnd, eNot, eChain, eSl, oNo, oSo, eCall, eCallB, eCallK, eCallIo, evC, ioSl, putD, putOuts, ownD, perm, lent, tB_, tTr, tNo, tAn, tOrr, tTrue, asB, asI, truth, eRev, dRev, eRg1, eJoin, dJoin, eBits, eApd, ePopAt, ePop, eIns, eLc, wipeE, iOf, iR1, iR2, iR3, iEnM, iZpM, items, smallI, dAdd, dSub, dMul, dFdiv, dMod, dPow, dShl, dShr, dAnd, dOr, dXor, dNeg, dInv, dEq, dNe, dLt, dLe, dGt, dGe, dIs, isD, dIsNot, dIn, inD, dNotIn, dIsi, isiB, tyD, dLen, dAbs, dMax, dMin, dInt, dDivmod, dSum, dAll, dAny, dTup, dLst, dIx, dSl, scalD, deq, PL.small64, Option.bind_some, Option.map_some, Option.bind_none, Option.map_none, List.length_cons, List.length_nil, List.cons_append, List.nil_append, List.getElem?_cons_zero, List.getElem?_cons_succ, List.set_cons_zero, List.set_cons_succ, List.replicate_succ, List.replicate_zero, List.map_cons, List.map_nil, List.getD_cons_zero, List.getD_cons_succ, Nat.zero_add, Nat.reduceAdd, Nat.reduceSub, Nat.reduceEqDiff, if_true, if_false, ite_true, ite_false, Bool.false_eq_true, Bool.true_or, Bool.false_or, Bool.and_true, Bool.true_and, Bool.and_false, Bool.false_and, Bool.or_true, Bool.or_false, Bool.not_true, Bool.not_false, decide_true, decide_false, true_and, and_true, false_and, and_false, true_or, or_true, false_or, or_false, Option.some.injEq, reduceCtorEq, String.reduceEq, String.reduceBEq, beq_self_eq_true, decide_eq_true_eq, Bool.and_eq_true, Bool.or_eq_true, Bool.not_eq_true, ne_eq, not_true_eq_false, not_false_eq_true, and_self, or_self, Int.reduceAbs, Int.natAbs_neg, Nat.reducePow, Int.reduceLT, Int.reduceLE, Int.reducePow, Int.reduceNeg, Int.reduceAdd, Int.reduceSub, Int.reduceMul, Int.reduceDiv, Int.reduceMod, Int.reduceToNat, Int.reduceEq, Int.reduceBEq, Nat.reduceLT, Nat.reduceLeDiff, Nat.reduceMul, Nat.reduceBEq, Int.zero_add, Int.add_zero, Int.toNat_natCast, List.nodup_nil, List.nodup_cons, List.not_mem_nil, List.mem_cons]) rfl).trans hq)).trans rfl))) rfl
  | n + 1, .lst ds, h => by
    rw [okS, Bool.and_eq_true, Bool.and_eq_true, decide_eq_true_eq, decide_eq_true_eq] at h
    have hq := same_seq n ds (fun d hd => same_ok n d hd) h.1.2 h.2 (.lst ds) (.inr rfl)
    refine runP_of (e := [.shr (.lst ds), .shr (.lst ds), .no]) rfl (seq_rt ((if_t rfl).trans ((ret_of (d := .bl true) ((and_t (d := .bl true) (by simp only [runP, runFn, envOf, outsOf, retOf, sSeq, sAsg, sIf, sRet, sRetF, sRetN, sRetO, sDrop, sNop, sOwn, sFor, sForL, sWhile, sPar2, sPar3, sBk, sCt, slotOf, mkOwn, isMutD, gN, gT, gsC, gsN, gIx, free, peek, ownL, putL, eApp, evA, evL, eVar, eC, eTup, eLst, eIf, eOr, eAnd, eNot, eChain, eSl, oNo, oSo, eCall, eCallB, eCallK, eCallIo, evC, ioSl, putD, putOuts, ownD, perm, lent, tB_, tTr, tNo, tAn, tOrr, tTrue, asB, asI, truth, eRev, dRev, eRg1, eJoin, dJoin, eBits, eApd, ePopAt, ePop, eIns, eLc, wipeE, iOf, iR1, iR2, iR3, iEnM, iZpM, items, smallI, dAdd, dSub, dMul, dFdiv, dMod, dPow, dShl, dShr, dAnd, dOr, dXor, dNeg, dInv, dEq, dNe, dLt, dLe, dGt, dGe, dIs, isD, dIsNot, dIn, inD, dNotIn, dIsi, isiB, tyD, dLen, dAbs, dMax, dMin, dInt, dDivmod, dSum, dAll, dAny, dTup, dLst, dIx, dSl, scalD, deq, PL.small64, Option.bind_some, Option.map_some, Option.bind_none, Option.map_none, List.length_cons, List.length_nil, List.cons_append, List.nil_append, List.getElem?_cons_zero, List.getElem?_cons_succ, List.set_cons_zero, List.set_cons_succ, List.replicate_succ, List.replicate_zero, List.map_cons, List.map_nil, List.getD_cons_zero, List.getD_cons_succ, Nat.zero_add, Nat.reduceAdd, Nat.reduceSub, Nat.reduceEqDiff, if_true, if_false, ite_true, ite_false, Bool.false_eq_true, Bool.true_or, Bool.false_or, Bool.and_true, Bool.true_and, Bool.and_false, Bool.false_and, Bool.or_true, Bool.or_false, Bool.not_true, Bool.not_false, decide_true, decide_false, true_and, and_true, false_and, and_false, true_or, or_true, false_or, or_false, Option.some.injEq, reduceCtorEq, String.reduceEq, String.reduceBEq, beq_self_eq_true, decide_eq_true_eq, Bool.and_eq_true, Bool.or_eq_true, Bool.not_eq_true, ne_eq, not_true_eq_false, not_false_eq_true, and_self, or_self, Int.reduceAbs, Int.natAbs_neg, Nat.reducePow, Int.reduceLT, Int.reduceLE, Int.reducePow, Int.reduceNeg, Int.reduceAdd, Int.reduceSub, Int.reduceMul, Int.reduceDiv, Int.reduceMod, Int.reduceToNat, Int.reduceEq, Int.reduceBEq, Nat.reduceLT, Nat.reduceLeDiff, Nat.reduceMul, Nat.reduceBEq, Int.zero_add, Int.add_zero, Int.toNat_natCast, List.nodup_nil, List.nodup_cons, List.not_mem_nil, List.mem_cons]) rfl).trans hq)).trans rfl))) rfl
  | 0, .tup ds, h => by simp [okS] at h
  | 0, .lst ds, h => by simp [okS] at h
  | n, .dct _, h => by simp [okS] at h
  | n, .opq _, h => by simp [okS] at h

theorem is_whole_int (v : Int) : m_is_whole [.int v] = some (.bl true) := by
  simp only [m_is_whole, b_is_whole, runP, runFn, envOf, outsOf, retOf, sSeq, sAsg, sIf, sRet, sRetF, sRetN, sRetO, sDrop, sNop, sOwn, sFor, sForL, sWhile, sPar2, sPar3, sBk, sCt, slotOf, mkOwn, isMutD, gN, gT, gsC, gsN, gIx, free, peek, ownL, putL, eApp, evA, evL, eVar, eC, eTup, eLst, eIf, eOr, eAnd, eNot, eChain, eSl, oNo, oSo, eCall, eCallB, eCallK, eCallIo, evC, ioSl, putD, putOuts, ownD, perm, lent, tB_, tTr, tNo, tAn, tOrr, tTrue, asB, asI, truth, eRev, dRev, eRg1, eJoin, dJoin, eBits, eApd, ePopAt, ePop, eIns, eLc, wipeE, iOf, iR1, iR2, iR3, iEnM, iZpM, items, smallI, dAdd, dSub, dMul, dFdiv, dMod, dPow, dShl, dShr, dAnd, dOr, dXor, dNeg, dInv, dEq, dNe, dLt, dLe, dGt, dGe, dIs, isD, dIsNot, dIn, inD, dNotIn, dIsi, isiB, tyD, dLen, dAbs, dMax, dMin, dInt, dDivmod, dSum, dAll, dAny, dTup, dLst, dIx, dSl, scalD, deq, PL.small64, Option.bind_some, Option.map_some, Option.bind_none, Option.map_none, List.length_cons, List.length_nil, List.cons_append, List.nil_append, List.getElem?_cons_zero, List.getElem?_cons_succ, List.set_cons_zero, List.set_cons_succ, List.replicate_succ, List.replicate_zero, List.map_cons, List.map_nil, List.getD_cons_zero, List.getD_cons_succ, Nat.zero_add, Nat.reduceAdd, Nat.reduceSub, Nat.reduceEqDiff, if_true, if_false, ite_true, ite_false, Bool.false_eq_true, Bool.true_or, Bool.false_or, Bool.and_true, Bool.true_and, Bool.and_false, Bool.false_and, Bool.or_true, Bool.or_false, Bool.not_true, Bool.not_false, decide_true, decide_false, true_and, and_true, false_and, and_false, true_or, or_true, false_or, or_false, Option.some.injEq, reduceCtorEq, String.reduceEq, String.reduceBEq, beq_self_eq_true, decide_eq_true_eq, Bool.and_eq_true, Bool.or_eq_true, Bool.not_eq_true, ne_eq, not_true_eq_false, not_false_eq_true, and_self, or_self, Int.reduceAbs, Int.natAbs_neg, Nat.reducePow, Int.reduceLT, Int.reduceLE, Int.reducePow, Int.reduceNeg, Int.reduceAdd, Int.reduceSub, Int.reduceMul, Int.reduceDiv, Int.reduceMod, Int.reduceToNat, Int.reduceEq, Int.reduceBEq, Nat.reduceLT, Nat.reduceLeDiff, Nat.reduceMul, Nat.reduceBEq, Int.zero_add, Int.add_zero, Int.toNat_natCast, List.nodup_nil, List.nodup_cons, List.not_mem_nil, List.mem_cons]
theorem between_int (v lo hi : Int) (h1 : lo ≤ v) (h2 : v ≤ hi) : m_is_between [.int v, .int lo, .int hi] = some (.bl true) := by
  simp only [m_is_between, b_is_between, runP, runFn, envOf, outsOf, retOf, sSeq, sAsg, sIf, sRet, sRetF, sRetN, sRetO, sDrop, sNop, sOwn, sFor, sForL, sWhile, sPar2, sPar3, sBk, sCt, slotOf, mkOwn, isMutD, gN, gT, gsC, gsN, gIx, free, peek, ownL, putL, eApp, evA, evL, eVar, eC, eTup, eLst, eIf, eOr, eAnd, eNot, eChain, eSl, oNo, oSo, eCall, eCallB, eCallK, eCallIo, evC, ioSl, putD, putOuts, ownD, perm, lent, tB_, tTr, tNo, tAn, tOrr, tTrue, asB, asI, truth, eRev, dRev, eRg1, eJoin, dJoin, eBits, eApd, ePopAt, ePop, eIns, eLc, wipeE, iOf, iR1, iR2, iR3, iEnM, iZpM, items, smallI, dAdd, dSub, dMul, dFdiv, dMod, dPow, dShl, dShr, dAnd, dOr, dXor, dNeg, dInv, dEq, dNe, dLt, dLe, dGt, dGe, dIs, isD, dIsNot, dIn, inD, dNotIn, dIsi, isiB, tyD, dLen, dAbs, dMax, dMin, dInt, dDivmod, dSum, dAll, dAny, dTup, dLst, dIx, dSl, scalD, deq, PL.small64, Option.bind_some, Option.map_some, Option.bind_none, Option.map_none, List.length_cons, List.length_nil, List.cons_append, List.nil_append, List.getElem?_cons_zero, List.getElem?_cons_succ, List.set_cons_zero, List.set_cons_succ, List.replicate_succ, List.replicate_zero, List.map_cons, List.map_nil, List.getD_cons_zero, List.getD_cons_succ, Nat.zero_add, Nat.reduceAdd, Nat.reduceSub, Nat.reduceEqDiff, if_true, if_false, ite_true, ite_false, Bool.false_eq_true, Bool.true_or, Bool.false_or, Bool.and_true, Bool.true_and, Bool.and_false, Bool.false_and, Bool.or_true, Bool.or_false, Bool.not_true, Bool.not_false, decide_true, decide_false, true_and, and_true, false_and, and_false, true_or, or_true, false_or, or_false, Option.some.injEq, reduceCtorEq, String.reduceEq, String.reduceBEq, beq_self_eq_true, decide_eq_true_eq, Bool.and_eq_true, Bool.or_eq_true, Bool.not_eq_true, ne_eq, not_true_eq_false, not_false_eq_true, and_self, or_self, Int.reduceAbs, Int.natAbs_neg, Nat.reducePow, Int.reduceLT, Int.reduceLE, Int.reducePow, Int.reduceNeg, Int.reduceAdd, Int.reduceSub, Int.reduceMul, Int.reduceDiv, Int.reduceMod, Int.reduceToNat, Int.reduceEq, Int.reduceBEq, Nat.reduceLT, Nat.reduceLeDiff, Nat.reduceMul, Nat.reduceBEq, Int.zero_add, Int.add_zero, Int.toNat_natCast, List.nodup_nil, List.nodup_cons, List.not_mem_nil, List.mem_cons, is_whole_int, h1, h2]
theorem check_int (v lo hi : Int) (h1 : lo ≤ v) (h2 : v ≤ hi) : m_check_number [.int v, .int lo, .int hi] = some .non := by
  simp only [m_check_number, b_check_number, runP, runFn, envOf, outsOf, retOf, sSeq, sAsg, sIf, sRet, sRetF, sRetN, sRetO, sDrop, sNop, sOwn, sFor, sForL, sWhile, sPar2, sPar3, sBk, sCt, slotOf, mkOwn, isMutD, gN, gT, gsC, gsN, gIx, free, peek, ownL, putL, eApp, evA, evL, eVar, eC, eTup, eLst, eIf, eOr, eAnd, eNot, eChain, eSl, oNo, oSo, eCall, eCallB, eCallK, eCallIo, evC, ioSl, putD, putOuts, ownD, perm, lent, tB_, tTr, tNo, tAn, tOrr, tTrue, asB, asI, truth, eRev, dRev, eRg1, eJoin, dJoin, eBits, eApd, ePopAt, ePop, eIns, eLc, wipeE, iOf, iR1, iR2, iR3, iEnM, iZpM, items, smallI, dAdd, dSub, dMul, dFdiv, dMod, dPow, dShl, dShr, dAnd, dOr, dXor, dNeg, dInv, dEq, dNe, dLt, dLe, dGt, dGe, dIs, isD, dIsNot, dIn, inD, dNotIn, dIsi, isiB, tyD, dLen, dAbs, dMax, dMin, dInt, dDivmod, dSum, dAll, dAny, dTup, dLst, dIx, dSl, scalD, deq, PL.small64, Option.bind_some, Option.map_some, Option.bind_none, Option.map_none, List.length_cons, List.length_nil, List.cons_append, List.nil_append, List.getElem?_cons_zero, List.getElem?_cons_succ, List.set_cons_zero, List.set_cons_succ, List.replicate_succ, List.replicate_zero, List.map_cons, List.map_nil, List.getD_cons_zero, List.getD_cons_succ, Nat.zero_add, Nat.reduceAdd, Nat.reduceSub, Nat.reduceEqDiff, if_true, if_false, ite_true, ite_false, Bool.false_eq_true, Bool.true_or, Bool.false_or, Bool.and_true, Bool.true_and, Bool.and_false, Bool.false_and, Bool.or_true, Bool.or_false, Bool.not_true, Bool.not_false, decide_true, decide_false, true_and, and_true, false_and, and_false, true_or, or_true, false_or, or_false, Option.some.injEq, reduceCtorEq, String.reduceEq, String.reduceBEq, beq_self_eq_true, decide_eq_true_eq, Bool.and_eq_true, Bool.or_eq_true, Bool.not_eq_true, ne_eq, not_true_eq_false, not_false_eq_true, and_self, or_self, Int.reduceAbs, Int.natAbs_neg, Nat.reducePow, Int.reduceLT, Int.reduceLE, Int.reducePow, Int.reduceNeg, Int.reduceAdd, Int.reduceSub, Int.reduceMul, Int.reduceDiv, Int.reduceMod, Int.reduceToNat, Int.reduceEq, Int.reduceBEq, Nat.reduceLT, Nat.reduceLeDiff, Nat.reduceMul, Nat.reduceBEq, Int.zero_add, Int.add_zero, Int.toNat_natCast, List.nodup_nil, List.nodup_cons, List.not_mem_nil, List.mem_cons, between_int v lo hi h1 h2]
theorem count_of {n r : Int} {T : List D} {d : D} (h : m_sum_counts [.int n] = some (.lst T)) (h1 : 1 ≤ n) (h2 : n ≤ 60) (h3 : 0 ≤ r) (h4 : r ≤ n) (hd : atI T r = some d) (hm : isMutD d = false) : m_sum_count [.int n, .int r] = some d := by
  have c1 := check_int n 1 60 h1 h2
  have c2 := check_int r 0 n h3 h4
  refine runP_of (e := [.shr (.int n), .shr (.int r)]) rfl ((seq_nx (drop_of (call_of (evLc rfl (evLc rfl (evLc rfl evL0))) rfl c1))).trans ((seq_nx (drop_of (call_of (evLc rfl (evLc rfl (evLc rfl evL0))) rfl c2))).trans ?_)) rfl
  refine (ret_of (d := d) (app_of (ev2 (call_of (evLc rfl evL0) rfl h) rfl) hd)).trans ?_
  rw [hm]; rfl
/-- the counts, laid up -/
def F (n : Int) (T : List D) : PFn := fun ds => match ds with
  | [.int a, .int r] => if a = n ∧ 0 ≤ r ∧ r ≤ n then atI T r else m_sum_count ds
  | _ => m_sum_count ds
theorem F_eq {n : Int} {T : List D} (h : m_sum_counts [.int n] = some (.lst T)) (h1 : 1 ≤ n) (h2 : n ≤ 60) (hl : (T.length : Int) = n + 1) (hm : T.all (fun d => !isMutD d) = true) : m_sum_count = F n T := by
  funext ds
  unfold F
  split
  · rename_i a r
    split
    · rename_i hc
      obtain ⟨rfl, h3, h4⟩ := hc
      have hlt : r.toNat < T.length := by omega
      have e : atI T r = some T[r.toNat] := by
        have := atI_lt hlt
        rwa [Int.toNat_of_nonneg h3] at this
      rw [e]
      refine count_of h h1 h2 h3 h4 e ?_
      have := List.all_eq_true.mp hm _ (List.getElem_mem hlt)
      simpa using this
    · rfl
  · rfl

/-- one round: the row shifted by w and added -/
def rowS (n w : Nat) (T : List Int) : List Int := (List.range (n + 1)).map fun r => T.getD r 0 + T.getD ((r + (n + 1) - w) % (n + 1)) 0
def cnt (n : Nat) : Nat → List Int
  | 0 => 1 :: List.replicate n 0
  | w + 1 => rowS n (w + 1) (cnt n w)
theorem cnt_len (n : Nat) : ∀ w, (cnt n w).length = n + 1
  | 0 => by simp [cnt]
  | w + 1 => by simp [cnt, rowS]
theorem getD_at {T : List Int} {i : Nat} (h : i < T.length) : atI (T.map D.int) (i : Int) = some (.int (T.getD i 0)) := by
  rw [atI_map, atI_lt h, Option.map_some, List.getD_eq_getElem?_getD, List.getElem?_eq_getElem h]; rfl
theorem wrap_at {T : List Int} {n r w : Nat} (hT : T.length = n + 1) (hr : r < n + 1) (h1 : 1 ≤ w) (h2 : w ≤ n) : atI (T.map D.int) ((r : Int) - (w : Int)) = some (.int (T.getD ((r + (n + 1) - w) % (n + 1)) 0)) := by
  by_cases h : w ≤ r
  · have e : ((r : Int) - (w : Int)) = ((r - w : Nat) : Int) := by omega
    have e2 : (r + (n + 1) - w) % (n + 1) = r - w := by
      rw [show r + (n + 1) - w = (r - w) + (n + 1) by omega, Nat.add_mod_right, Nat.mod_eq_of_lt (by omega)]
    rw [e, e2]
    exact getD_at (by omega)
  · have e2 : (r + (n + 1) - w) % (n + 1) = r + (n + 1) - w := Nat.mod_eq_of_lt (by omega)
    rw [e2]
    have hl : r + (n + 1) - w < T.length := by omega
    have e3 : ixN (n + 1) ((r : Int) - (w : Int)) = some (r + (n + 1) - w) := by
      unfold ixN
      rw [if_neg (by omega), if_pos (by omega)]
      congr 1
      omega
    rw [atI_map]
    unfold atI
    rw [hT, e3, Option.bind_some, List.getElem?_eq_getElem hl, List.getD_eq_getElem?_getD, List.getElem?_eq_getElem hl]
    rfl
theorem flat0 : ∀ n : Nat, (List.replicate n [D.int 0]).flatten = (List.replicate n 0).map D.int
  | 0 => rfl
  | n + 1 => by rw [List.replicate_succ, List.flatten_cons, flat0 n, List.replicate_succ, List.map_cons]; rfl
theorem rng_map (n : Nat) (f : Nat → Int) (F : D → D) (h : ∀ i, F (.int (i : Nat)) = .int (f i)) : (rngD 0 n).map F = ((List.range n).map f).map D.int := by
  rw [rngD_eq, List.map_map, List.map_map]
  apply List.map_congr_left
  intro i _
  show F (.int (0 + (i : Nat))) = _
  rw [Int.zero_add]
  exact h i
theorem start_row {n : Nat} (h : n ≤ 60) (e1 e2 e3 : PL.Slot) : eApp dAdd [.v (eLst [eC (.int 1)]), .v (eApp dMul [.v (eLst [eC (.int 0)]), .v (eVar 0)])] [.shr (.int n), e1, e2, e3] = some (.lst ((cnt n 0).map D.int), [.shr (.int n), e1, e2, e3]) := by
  have c1 : (n : Int).natAbs < 2 ^ 62 ∧ [D.int 0].length * ((n : Int).toNat) ≤ 16777216 := ⟨by omega, by simp; omega⟩
  have hm : dMul [.lst [.int 0], .int n] = some (.lst ((List.replicate n 0).map D.int)) := by
    unfold dMul
    simp only
    rw [if_pos c1, Int.toNat_natCast, flat0]
  refine app_of (ds := [.lst [.int 1], .lst ((List.replicate n 0).map D.int)]) (ev2 rfl (app_of (ev2 rfl rfl) hm)) ?_
  have c2 : [D.int 1].length + ((List.replicate n 0).map D.int).length ≤ 16777216 := by simp; omega
  unfold dAdd
  simp only
  rw [if_pos c2]
  rfl
theorem sums_eq {n : Nat} (h1 : 1 ≤ n) (h2 : n ≤ 60) : m_sum_counts [.int n] = some (.lst ((cnt n n).map D.int)) := by
  obtain ⟨e, hf, s2, rfl, hs⟩ := for_inv (g := gN 2) (body := sOwn (eLc (iR1 (eApp dAdd [.v (eVar 0), .v (eC (.int 1))])) [3] (gN 3) (tTrue) (eApp dAdd [.v (eApp dIx [.b 1, .v (eVar 3)]), .v (eApp dIx [.b 1, .v (eApp dSub [.v (eVar 3), .v (eVar 2)])])])) 1) (rngD 1 n)
    (fun i env => ∃ s2 : PL.Slot, env = [.shr (.int n), .own (.lst ((cnt n i).map D.int)), s2, .no] ∧ (s2 = .no ∨ ∃ d, s2 = .shr d)) [.shr (.int n), .own (.lst ((cnt n 0).map D.int)), .no, .no] ⟨.no, rfl, .inl rfl⟩ (fun i d env hd hI => by
      obtain ⟨s2, rfl, hs⟩ := hI
      have hi : i < n := by have := (List.getElem?_eq_some_iff.mp hd).1; rw [rngD_len] at this; exact this
      rw [rngD_get n 1 i hi] at hd
      have hd : d = .int ((i + 1 : Nat) : Int) := by cases hd; congr 1; omega
      subst hd
      have hl := cnt_len n i
      have hlc := lc_map (vs := [3]) (g := gN 3) (t := tTrue) (m := eApp dAdd [.v (eApp dIx [.b 1, .v (eVar 3)]), .v (eApp dIx [.b 1, .v (eApp dSub [.v (eVar 3), .v (eVar 2)])])]) (rngD 0 (n + 1)) [.shr (.int n), .own (.lst ((cnt n i).map D.int)), .shr (.int ((i + 1 : Nat) : Int)), .no]
        (fun d => match d with | .int r => .int ((cnt n i).getD r.toNat 0 + (cnt n i).getD ((r.toNat + (n + 1) - (i + 1)) % (n + 1)) 0) | _ => .non) (fun d hd => by
          obtain ⟨r, hr, rfl⟩ := mem_rngD hd
          rw [Int.zero_add]
          have a1 := getD_at (T := cnt n i) (i := r) (by omega)
          have a2 := wrap_at (T := cnt n i) hl hr (show 1 ≤ i + 1 by omega) (by omega)
          refine ⟨[.shr (.int n), .own (.lst ((cnt n i).map D.int)), .shr (.int ((i + 1 : Nat) : Int)), .shr (.int r)], [.shr (.int n), .own (.lst ((cnt n i).map D.int)), .shr (.int ((i + 1 : Nat) : Int)), .shr (.int r)], [.shr (.int n), .own (.lst ((cnt n i).map D.int)), .shr (.int ((i + 1 : Nat) : Int)), .shr (.int r)], rfl, rfl, ?_, rfl⟩
          refine app_of (ev2 (app_of (ds := [.lst ((cnt n i).map D.int), .int r]) rfl a1) (app_of (ds := [.lst ((cnt n i).map D.int), .int ((r : Int) - ((i + 1 : Nat) : Int))]) rfl a2)) ?_
          simp only [dAdd, Int.toNat_natCast])
      rw [rng_map (n + 1) (fun r => (cnt n i).getD r 0 + (cnt n i).getD ((r + (n + 1) - (i + 1)) % (n + 1)) 0) _ (fun i => by simp only [Int.toNat_natCast])] at hlc
      have hn : eApp dAdd [.v (eVar 0), .v (eC (.int 1))] [.shr (.int n), .own (.lst ((cnt n i).map D.int)), .shr (.int ((i + 1 : Nat) : Int)), .no] = some (.int ((n + 1 : Nat) : Int), [.shr (.int n), .own (.lst ((cnt n i).map D.int)), .shr (.int ((i + 1 : Nat) : Int)), .no]) := rfl
      refine ⟨[.shr (.int n), .own (.lst ((cnt n i).map D.int)), .shr (.int ((i + 1 : Nat) : Int)), .no], [.shr (.int n), .own (.lst ((cnt n (i + 1)).map D.int)), .shr (.int ((i + 1 : Nat) : Int)), .no], .nx, ?_, ?_, .inl rfl, .shr (.int ((i + 1 : Nat) : Int)), rfl, .inr ⟨_, rfl⟩⟩
      · rcases hs with rfl | ⟨d', rfl⟩ <;> rfl
      · exact own_of (lc_of (r1_of hn (by omega)) (by rw [rngD_len]; omega) rfl hlc) rfl)
  rw [rngD_len] at hf
  have c2 : smallI ((n : Int) + 1) = true := smallI_nat (n := n + 1) (by omega)
  have c3 : ((n : Int) + 1 - 1).toNat = n := by omega
  have e2 : iR2 (eC (.int 1)) (eApp dAdd [.v (eVar 0), .v (eC (.int 1))]) [.shr (.int n), .own (.lst ((cnt n 0).map D.int)), .no, .no] = some (rngD 1 ((n : Int) + 1 - 1).toNat, [.shr (.int n), .own (.lst ((cnt n 0).map D.int)), .no, .no]) := r2_of rfl rfl rfl c2
  rw [c3] at e2
  refine runP_of (e := [.shr (.int n), .no, s2, .no]) rfl ((seq_nx (own_of (start_row h2 _ _ _) rfl)).trans ((seq_nx (for_nx e2 hf)).trans rfl)) rfl
theorem counts_eq {n : Nat} (h1 : 1 ≤ n) (h2 : n ≤ 60) : m__law_counts [.int n] = some (.lst ((cnt n n).map D.int)) := by
  obtain ⟨e, hf, s2, rfl, hs⟩ := for_inv (g := gN 2) (body := sOwn (eLc (iR1 (eApp dAdd [.v (eVar 0), .v (eC (.int 1))])) [3] (gN 3) (tTrue) (eApp dAdd [.v (eApp dIx [.b 1, .v (eVar 3)]), .v (eApp dIx [.b 1, .v (eApp dMod [.v (eApp dInt [.v (eApp dSub [.v (eApp dSub [.v (eVar 3), .v (eVar 2)]), .v (eC (.int 1))])]), .v (eApp dAdd [.v (eVar 0), .v (eC (.int 1))])])])])) 1) (rngD 0 n)
    (fun i env => ∃ s2 : PL.Slot, env = [.shr (.int n), .own (.lst ((cnt n i).map D.int)), s2, .no] ∧ (s2 = .no ∨ ∃ d, s2 = .shr d)) [.shr (.int n), .own (.lst ((cnt n 0).map D.int)), .no, .no] ⟨.no, rfl, .inl rfl⟩ (fun i d env hd hI => by
      obtain ⟨s2, rfl, hs⟩ := hI
      have hi : i < n := by have := (List.getElem?_eq_some_iff.mp hd).1; rw [rngD_len] at this; exact this
      rw [rngD_get n 0 i hi] at hd
      have hd : d = .int ((i : Nat) : Int) := by cases hd; congr 1; omega
      subst hd
      have hl := cnt_len n i
      have hlc := lc_map (vs := [3]) (g := gN 3) (t := tTrue) (m := eApp dAdd [.v (eApp dIx [.b 1, .v (eVar 3)]), .v (eApp dIx [.b 1, .v (eApp dMod [.v (eApp dInt [.v (eApp dSub [.v (eApp dSub [.v (eVar 3), .v (eVar 2)]), .v (eC (.int 1))])]), .v (eApp dAdd [.v (eVar 0), .v (eC (.int 1))])])])]) (rngD 0 (n + 1)) [.shr (.int n), .own (.lst ((cnt n i).map D.int)), .shr (.int ((i : Nat) : Int)), .no]
        (fun d => match d with | .int r => .int ((cnt n i).getD r.toNat 0 + (cnt n i).getD ((r.toNat + (n + 1) - (i + 1)) % (n + 1)) 0) | _ => .non) (fun d hd => by
          obtain ⟨r, hr, rfl⟩ := mem_rngD hd
          rw [Int.zero_add]
          have a1 := getD_at (T := cnt n i) (i := r) (by omega)
          have a2 := getD_at (T := cnt n i) (i := (r + (n + 1) - (i + 1)) % (n + 1)) (by rw [hl]; exact Nat.mod_lt _ (by omega))
          have a3 : ((r : Int) - (i : Nat) - 1) % ((n : Int) + 1) = (((r + (n + 1) - (i + 1)) % (n + 1) : Nat) : Int) := by
            rw [Int.natCast_emod, show ((r + (n + 1) - (i + 1) : Nat) : Int) = ((r : Int) - (i : Nat) - 1) + ((n + 1 : Nat) : Int) by omega, Int.add_emod_right]
            rfl
          have a4 : dMod [.int ((r : Int) - (i : Nat) - 1), .int ((n : Int) + 1)] = some (.int (((r + (n + 1) - (i + 1)) % (n + 1) : Nat) : Int)) := by
            unfold dMod
            simp only
            rw [if_pos (by omega), a3]
          refine ⟨[.shr (.int n), .own (.lst ((cnt n i).map D.int)), .shr (.int ((i : Nat) : Int)), .shr (.int r)], [.shr (.int n), .own (.lst ((cnt n i).map D.int)), .shr (.int ((i : Nat) : Int)), .shr (.int r)], [.shr (.int n), .own (.lst ((cnt n i).map D.int)), .shr (.int ((i : Nat) : Int)), .shr (.int r)], rfl, rfl, ?_, rfl⟩
          refine app_of (ev2 (app_of (ds := [.lst ((cnt n i).map D.int), .int r]) rfl a1) (app_of (ds := [.lst ((cnt n i).map D.int), .int (((r + (n + 1) - (i + 1)) % (n + 1) : Nat) : Int)]) (e := [.shr (.int n), .own (.lst ((cnt n i).map D.int)), .shr (.int ((i : Nat) : Int)), .shr (.int r)]) (by have a5 := app_of (g := dMod) (as := [.v (eApp dInt [.v (eApp dSub [.v (eApp dSub [.v (eVar 3), .v (eVar 2)]), .v (eC (.int 1))])]), .v (eApp dAdd [.v (eVar 0), .v (eC (.int 1))])]) (env := [.shr (.int n), .own (.lst ((cnt n i).map D.int)), .shr (.int ((i : Nat) : Int)), .shr (.int r)]) (e := [.shr (.int n), .own (.lst ((cnt n i).map D.int)), .shr (.int ((i : Nat) : Int)), .shr (.int r)]) (ds := [.int ((r : Int) - (i : Nat) - 1), .int ((n : Int) + 1)]) rfl a4; simp only [evA, peek, List.getElem?_cons_succ, List.getElem?_cons_zero, Option.bind_some, a5]) a2)) ?_
          simp only [dAdd, Int.toNat_natCast])
      rw [rng_map (n + 1) (fun r => (cnt n i).getD r 0 + (cnt n i).getD ((r + (n + 1) - (i + 1)) % (n + 1)) 0) _ (fun i => by simp only [Int.toNat_natCast])] at hlc
      have hn : eApp dAdd [.v (eVar 0), .v (eC (.int 1))] [.shr (.int n), .own (.lst ((cnt n i).map D.int)), .shr (.int ((i : Nat) : Int)), .no] = some (.int ((n + 1 : Nat) : Int), [.shr (.int n), .own (.lst ((cnt n i).map D.int)), .shr (.int ((i : Nat) : Int)), .no]) := rfl
      refine ⟨[.shr (.int n), .own (.lst ((cnt n i).map D.int)), .shr (.int ((i : Nat) : Int)), .no], [.shr (.int n), .own (.lst ((cnt n (i + 1)).map D.int)), .shr (.int ((i : Nat) : Int)), .no], .nx, ?_, ?_, .inl rfl, .shr (.int ((i : Nat) : Int)), rfl, .inr ⟨_, rfl⟩⟩
      · rcases hs with rfl | ⟨d', rfl⟩ <;> rfl
      · exact own_of (lc_of (r1_of hn (by omega)) (by rw [rngD_len]; omega) rfl hlc) rfl)
  rw [rngD_len] at hf
  have e2 : iR1 (eVar 0) [.shr (.int n), .own (.lst ((cnt n 0).map D.int)), .no, .no] = some (rngD 0 n, [.shr (.int n), .own (.lst ((cnt n 0).map D.int)), .no, .no]) := r1_of rfl (by omega)
  refine runP_of (e := [.shr (.int n), .no, s2, .no]) rfl ((seq_nx (own_of (start_row h2 _ _ _) rfl)).trans ((seq_nx (for_nx e2 hf)).trans rfl)) rfl

def bR (m_sum_count mc : PFn) : SM :=
    sSeq (sAsg (eCall 1 mc [eVar 0]) (gN 1))
    (sSeq (sAsg (eLc (iR1 (eApp dAdd [.v (eVar 0), .v (eC (.int 1))])) [3] (gN 3) (tTrue) (eCall 2 m_sum_count [eVar 0, eVar 3])) (gN 2))
    (sSeq (sIf (tOrr (tNo (tTr (.v (eCall 2 (m__law_same 8) [eVar 2, eVar 1])))) (tOrr (tB_ (eApp dNe [.v (eApp dSum [.v (eVar 2)]), .v (eApp dShl [.v (eC (.int 1)), .v (eVar 0)])])) (tOrr (tB_ (eApp dNe [.v (eApp dMax [.v (eVar 2)]), .v (eApp dIx [.v (eVar 2), .v (eC (.int 0))])])) (tB_ (eApp dNe [.v (eApp dIx [.v (eVar 2), .v (eC (.int 0))]), .v (eCall 1 m__law_first [eVar 0])]))))) (sRetF (eC (.bl false))) (sNop))
    (sSeq (sFor (iR1 (eApp dAdd [.v (eVar 0), .v (eC (.int 1))])) (gN 3) (sIf (tB_ (eApp dNe [.v (eApp dIx [.v (eVar 2), .v (eVar 3)]), .v (eApp dIx [.v (eVar 2), .v (eApp dMod [.v (eApp dInt [.v (eCall 2 m__law_common [eVar 3, eApp dAdd [.v (eVar 0), .v (eC (.int 1))]])]), .v (eApp dAdd [.v (eVar 0), .v (eC (.int 1))])])])])) (sRetF (eC (.bl false))) (sNop)))
    (sRetF (eCall 2 (m__law_same 8) [eLc (iOf (eTup [eC (.int 0), eVar 0])) [3] (gN 3) (tTrue) (eCallK [1, 0] 2 m_sum_count [eVar 3, eVar 0]), eLst [eApp dIx [.v (eVar 1), .v (eC (.int 0))], eApp dIx [.v (eVar 1), .v (eVar 0)]]])))))
theorem bR_eq : b__law_is_right = bR m_sum_count m__law_counts := rfl
def GT (n : Int) (T : List D) : PFn := fun ds => match ds with
  | [.int a] => if a = n then some (.lst T) else m__law_counts ds
  | _ => m__law_counts ds
theorem GT_eq {n : Int} {T : List D} (h : m__law_counts [.int n] = some (.lst T)) : m__law_counts = GT n T := by
  funext ds
  unfold GT
  split
  · rename_i a
    split
    · rename_i hc
      subst hc
      exact h
    · rfl
  · rfl
theorem right_of {n : Nat} {T : List Int} (hT : cnt n n = T) (h1 : 1 ≤ n) (h2 : n ≤ 60) (hr : isT (runP true 1 4 (bR (F n (T.map .int)) (GT n (T.map .int))) [.int n]) = true) : m__law_is_right [.int n] = some (.bl true) := by
  have hs := sums_eq h1 h2
  have hc := counts_eq h1 h2
  have hl := cnt_len n n
  rw [hT] at hs hc hl
  show runP true 1 4 b__law_is_right [.int n] = _
  rw [bR_eq, GT_eq hc, F_eq hs (by omega) (by omega) (by rw [List.length_map, hl]; rfl) (by rw [List.all_map, List.all_eq_true]; intro x _; rfl)]
  exact isT_eq hr

def T1 : List Int := [1, 1]
theorem r1 : m__law_is_right [.int (1 : Nat)] = some (.bl true) := right_of (T := T1) (by decide +kernel) (by decide) (by decide) (by decide +kernel)
def T2 : List Int := [2, 1, 1]
theorem r2 : m__law_is_right [.int (2 : Nat)] = some (.bl true) := right_of (T := T2) (by decide +kernel) (by decide) (by decide) (by decide +kernel)
def T3 : List Int := [2, 2, 2, 2]
theorem r3 : m__law_is_right [.int (3 : Nat)] = some (.bl true) := right_of (T := T3) (by decide +kernel) (by decide) (by decide) (by decide +kernel)
def T4 : List Int := [4, 3, 3, 3, 3]
theorem r4 : m__law_is_right [.int (4 : Nat)] = some (.bl true) := right_of (T := T4) (by decide +kernel) (by decide) (by decide) (by decide +kernel)
def T5 : List Int := [6, 5, 5, 6, 5, 5]
theorem r5 : m__law_is_right [.int (5 : Nat)] = some (.bl true) := right_of (T := T5) (by decide +kernel) (by decide) (by decide) (by decide +kernel)
def T6 : List Int := [10, 9, 9, 9, 9, 9, 9]
theorem r6 : m__law_is_right [.int (6 : Nat)] = some (.bl true) := right_of (T := T6) (by decide +kernel) (by decide) (by decide) (by decide +kernel)
def T7 : List Int := [16, 16, 16, 16, 16, 16, 16, 16]
theorem r7 : m__law_is_right [.int (7 : Nat)] = some (.bl true) := right_of (T := T7) (by decide +kernel) (by decide) (by decide) (by decide +kernel)
def T8 : List Int := [30, 28, 28, 29, 28, 28, 29, 28, 28]
theorem r8 : m__law_is_right [.int (8 : Nat)] = some (.bl true) := right_of (T := T8) (by decide +kernel) (by decide) (by decide) (by decide +kernel)
def T9 : List Int := [52, 51, 51, 51, 51, 52, 51, 51, 51, 51]
theorem r9 : m__law_is_right [.int (9 : Nat)] = some (.bl true) := right_of (T := T9) (by decide +kernel) (by decide) (by decide) (by decide +kernel)
def T10 : List Int := [94, 93, 93, 93, 93, 93, 93, 93, 93, 93, 93]
theorem r10 : m__law_is_right [.int (10 : Nat)] = some (.bl true) := right_of (T := T10) (by decide +kernel) (by decide) (by decide) (by decide +kernel)
def T11 : List Int := [172, 170, 170, 172, 170, 170, 172, 170, 170, 172, 170, 170]
theorem r11 : m__law_is_right [.int (11 : Nat)] = some (.bl true) := right_of (T := T11) (by decide +kernel) (by decide) (by decide) (by decide +kernel)
def T12 : List Int := [316, 315, 315, 315, 315, 315, 315, 315, 315, 315, 315, 315, 315]
theorem r12 : m__law_is_right [.int (12 : Nat)] = some (.bl true) := right_of (T := T12) (by decide +kernel) (by decide) (by decide) (by decide +kernel)
def T13 : List Int := [586, 585, 585, 585, 585, 585, 585, 586, 585, 585, 585, 585, 585, 585]
theorem r13 : m__law_is_right [.int (13 : Nat)] = some (.bl true) := right_of (T := T13) (by decide +kernel) (by decide) (by decide) (by decide +kernel)
def T14 : List Int := [1096, 1091, 1091, 1094, 1091, 1092, 1094, 1091, 1091, 1094, 1092, 1091, 1094, 1091, 1091]
theorem r14 : m__law_is_right [.int (14 : Nat)] = some (.bl true) := right_of (T := T14) (by decide +kernel) (by decide) (by decide) (by decide +kernel)
def T15 : List Int := [2048, 2048, 2048, 2048, 2048, 2048, 2048, 2048, 2048, 2048, 2048, 2048, 2048, 2048, 2048, 2048]
theorem r15 : m__law_is_right [.int (15 : Nat)] = some (.bl true) := right_of (T := T15) (by decide +kernel) (by decide) (by decide) (by decide +kernel)
def T16 : List Int := [3856, 3855, 3855, 3855, 3855, 3855, 3855, 3855, 3855, 3855, 3855, 3855, 3855, 3855, 3855, 3855, 3855]
theorem r16 : m__law_is_right [.int (16 : Nat)] = some (.bl true) := right_of (T := T16) (by decide +kernel) (by decide) (by decide) (by decide +kernel)
def T17 : List Int := [7286, 7280, 7280, 7285, 7280, 7280, 7285, 7280, 7280, 7286, 7280, 7280, 7285, 7280, 7280, 7285, 7280, 7280]
theorem r17 : m__law_is_right [.int (17 : Nat)] = some (.bl true) := right_of (T := T17) (by decide +kernel) (by decide) (by decide) (by decide +kernel)
def T18 : List Int := [13798, 13797, 13797, 13797, 13797, 13797, 13797, 13797, 13797, 13797, 13797, 13797, 13797, 13797, 13797, 13797, 13797, 13797, 13797]
theorem r18 : m__law_is_right [.int (18 : Nat)] = some (.bl true) := right_of (T := T18) (by decide +kernel) (by decide) (by decide) (by decide +kernel)
def T19 : List Int := [26216, 26214, 26214, 26214, 26214, 26216, 26214, 26214, 26214, 26214, 26216, 26214, 26214, 26214, 26214, 26216, 26214, 26214, 26214, 26214]
theorem r19 : m__law_is_right [.int (19 : Nat)] = some (.bl true) := right_of (T := T19) (by decide +kernel) (by decide) (by decide) (by decide +kernel)
def T20 : List Int := [49940, 49929, 49929, 49938, 49929, 49929, 49938, 49930, 49929, 49938, 49929, 49929, 49938, 49929, 49930, 49938, 49929, 49929, 49938, 49929, 49929]
theorem r20 : m__law_is_right [.int (20 : Nat)] = some (.bl true) := right_of (T := T20) (by decide +kernel) (by decide) (by decide) (by decide +kernel)
def T21 : List Int := [95326, 95325, 95325, 95325, 95325, 95325, 95325, 95325, 95325, 95325, 95325, 95326, 95325, 95325, 95325, 95325, 95325, 95325, 95325, 95325, 95325, 95325]
theorem r21 : m__law_is_right [.int (21 : Nat)] = some (.bl true) := right_of (T := T21) (by decide +kernel) (by decide) (by decide) (by decide +kernel)
def T22 : List Int := [182362, 182361, 182361, 182361, 182361, 182361, 182361, 182361, 182361, 182361, 182361, 182361, 182361, 182361, 182361, 182361, 182361, 182361, 182361, 182361, 182361, 182361, 182361]
theorem r22 : m__law_is_right [.int (22 : Nat)] = some (.bl true) := right_of (T := T22) (by decide +kernel) (by decide) (by decide) (by decide +kernel)
def T23 : List Int := [349536, 349520, 349520, 349536, 349520, 349520, 349536, 349520, 349520, 349536, 349520, 349520, 349536, 349520, 349520, 349536, 349520, 349520, 349536, 349520, 349520, 349536, 349520, 349520]
theorem r23 : m__law_is_right [.int (23 : Nat)] = some (.bl true) := right_of (T := T23) (by decide +kernel) (by decide) (by decide) (by decide +kernel)
def T24 : List Int := [671092, 671088, 671088, 671088, 671088, 671091, 671088, 671088, 671088, 671088, 671091, 671088, 671088, 671088, 671088, 671091, 671088, 671088, 671088, 671088, 671091, 671088, 671088, 671088, 671088]
theorem r24 : m__law_is_right [.int (24 : Nat)] = some (.bl true) := right_of (T := T24) (by decide +kernel) (by decide) (by decide) (by decide +kernel)
def T25 : List Int := [1290556, 1290555, 1290555, 1290555, 1290555, 1290555, 1290555, 1290555, 1290555, 1290555, 1290555, 1290555, 1290555, 1290556, 1290555, 1290555, 1290555, 1290555, 1290555, 1290555, 1290555, 1290555, 1290555, 1290555, 1290555, 1290555]
theorem r25 : m__law_is_right [.int (25 : Nat)] = some (.bl true) := right_of (T := T25) (by decide +kernel) (by decide) (by decide) (by decide +kernel)
def T26 : List Int := [2485534, 2485504, 2485504, 2485532, 2485504, 2485504, 2485532, 2485504, 2485504, 2485533, 2485504, 2485504, 2485532, 2485504, 2485504, 2485532, 2485504, 2485504, 2485533, 2485504, 2485504, 2485532, 2485504, 2485504, 2485532, 2485504, 2485504]
theorem r26 : m__law_is_right [.int (26 : Nat)] = some (.bl true) := right_of (T := T26) (by decide +kernel) (by decide) (by decide) (by decide +kernel)
def T27 : List Int := [4793492, 4793490, 4793490, 4793490, 4793490, 4793490, 4793490, 4793492, 4793490, 4793490, 4793490, 4793490, 4793490, 4793490, 4793492, 4793490, 4793490, 4793490, 4793490, 4793490, 4793490, 4793492, 4793490, 4793490, 4793490, 4793490, 4793490, 4793490]
theorem r27 : m__law_is_right [.int (27 : Nat)] = some (.bl true) := right_of (T := T27) (by decide +kernel) (by decide) (by decide) (by decide +kernel)
def T28 : List Int := [9256396, 9256395, 9256395, 9256395, 9256395, 9256395, 9256395, 9256395, 9256395, 9256395, 9256395, 9256395, 9256395, 9256395, 9256395, 9256395, 9256395, 9256395, 9256395, 9256395, 9256395, 9256395, 9256395, 9256395, 9256395, 9256395, 9256395, 9256395, 9256395]
theorem r28 : m__law_is_right [.int (28 : Nat)] = some (.bl true) := right_of (T := T28) (by decide +kernel) (by decide) (by decide) (by decide +kernel)
def T29 : List Int := [17895736, 17895679, 17895679, 17895730, 17895679, 17895684, 17895730, 17895679, 17895679, 17895730, 17895684, 17895679, 17895730, 17895679, 17895679, 17895736, 17895679, 17895679, 17895730, 17895679, 17895684, 17895730, 17895679, 17895679, 17895730, 17895684, 17895679, 17895730, 17895679, 17895679]
theorem r29 : m__law_is_right [.int (29 : Nat)] = some (.bl true) := right_of (T := T29) (by decide +kernel) (by decide) (by decide) (by decide +kernel)
def T30 : List Int := [34636834, 34636833, 34636833, 34636833, 34636833, 34636833, 34636833, 34636833, 34636833, 34636833, 34636833, 34636833, 34636833, 34636833, 34636833, 34636833, 34636833, 34636833, 34636833, 34636833, 34636833, 34636833, 34636833, 34636833, 34636833, 34636833, 34636833, 34636833, 34636833, 34636833, 34636833]
theorem r30 : m__law_is_right [.int (30 : Nat)] = some (.bl true) := right_of (T := T30) (by decide +kernel) (by decide) (by decide) (by decide +kernel)
def T31 : List Int := [67108864, 67108864, 67108864, 67108864, 67108864, 67108864, 67108864, 67108864, 67108864, 67108864, 67108864, 67108864, 67108864, 67108864, 67108864, 67108864, 67108864, 67108864, 67108864, 67108864, 67108864, 67108864, 67108864, 67108864, 67108864, 67108864, 67108864, 67108864, 67108864, 67108864, 67108864, 67108864]
theorem r31 : m__law_is_right [.int (31 : Nat)] = some (.bl true) := right_of (T := T31) (by decide +kernel) (by decide) (by decide) (by decide +kernel)
def T32 : List Int := [130150588, 130150493, 130150493, 130150586, 130150493, 130150493, 130150586, 130150493, 130150493, 130150586, 130150493, 130150494, 130150586, 130150493, 130150493, 130150586, 130150493, 130150493, 130150586, 130150493, 130150493, 130150586, 130150494, 130150493, 130150586, 130150493, 130150493, 130150586, 130150493, 130150493, 130150586, 130150493, 130150493]
theorem r32 : m__law_is_right [.int (32 : Nat)] = some (.bl true) := right_of (T := T32) (by decide +kernel) (by decide) (by decide) (by decide +kernel)
def T33 : List Int := [252645136, 252645135, 252645135, 252645135, 252645135, 252645135, 252645135, 252645135, 252645135, 252645135, 252645135, 252645135, 252645135, 252645135, 252645135, 252645135, 252645135, 252645136, 252645135, 252645135, 252645135, 252645135, 252645135, 252645135, 252645135, 252645135, 252645135, 252645135, 252645135, 252645135, 252645135, 252645135, 252645135, 252645135]
theorem r33 : m__law_is_right [.int (33 : Nat)] = some (.bl true) := right_of (T := T33) (by decide +kernel) (by decide) (by decide) (by decide +kernel)
def T34 : List Int := [490853416, 490853403, 490853403, 490853403, 490853403, 490853412, 490853403, 490853406, 490853403, 490853403, 490853412, 490853403, 490853403, 490853403, 490853406, 490853412, 490853403, 490853403, 490853403, 490853403, 490853412, 490853406, 490853403, 490853403, 490853403, 490853412, 490853403, 490853403, 490853406, 490853403, 490853412, 490853403, 490853403, 490853403, 490853403]
theorem r34 : m__law_is_right [.int (34 : Nat)] = some (.bl true) := right_of (T := T34) (by decide +kernel) (by decide) (by decide) (by decide +kernel)
def T35 : List Int := [954437292, 954437120, 954437120, 954437290, 954437120, 954437120, 954437290, 954437120, 954437120, 954437292, 954437120, 954437120, 954437290, 954437120, 954437120, 954437290, 954437120, 954437120, 954437292, 954437120, 954437120, 954437290, 954437120, 954437120, 954437290, 954437120, 954437120, 954437292, 954437120, 954437120, 954437290, 954437120, 954437120, 954437290, 954437120, 954437120]
theorem r35 : m__law_is_right [.int (35 : Nat)] = some (.bl true) := right_of (T := T35) (by decide +kernel) (by decide) (by decide) (by decide +kernel)
def T36 : List Int := [1857283156, 1857283155, 1857283155, 1857283155, 1857283155, 1857283155, 1857283155, 1857283155, 1857283155, 1857283155, 1857283155, 1857283155, 1857283155, 1857283155, 1857283155, 1857283155, 1857283155, 1857283155, 1857283155, 1857283155, 1857283155, 1857283155, 1857283155, 1857283155, 1857283155, 1857283155, 1857283155, 1857283155, 1857283155, 1857283155, 1857283155, 1857283155, 1857283155, 1857283155, 1857283155, 1857283155, 1857283155]
theorem r36 : m__law_is_right [.int (36 : Nat)] = some (.bl true) := right_of (T := T36) (by decide +kernel) (by decide) (by decide) (by decide +kernel)
def T37 : List Int := [3616814566, 3616814565, 3616814565, 3616814565, 3616814565, 3616814565, 3616814565, 3616814565, 3616814565, 3616814565, 3616814565, 3616814565, 3616814565, 3616814565, 3616814565, 3616814565, 3616814565, 3616814565, 3616814565, 3616814566, 3616814565, 3616814565, 3616814565, 3616814565, 3616814565, 3616814565, 3616814565, 3616814565, 3616814565, 3616814565, 3616814565, 3616814565, 3616814565, 3616814565, 3616814565, 3616814565, 3616814565, 3616814565]
theorem r37 : m__law_is_right [.int (37 : Nat)] = some (.bl true) := right_of (T := T37) (by decide +kernel) (by decide) (by decide) (by decide +kernel)
def T38 : List Int := [7048151672, 7048151355, 7048151355, 7048151670, 7048151355, 7048151355, 7048151670, 7048151355, 7048151355, 7048151670, 7048151355, 7048151355, 7048151670, 7048151356, 7048151355, 7048151670, 7048151355, 7048151355, 7048151670, 7048151355, 7048151355, 7048151670, 7048151355, 7048151355, 7048151670, 7048151355, 7048151356, 7048151670, 7048151355, 7048151355, 7048151670, 7048151355, 7048151355, 7048151670, 7048151355, 7048151355, 7048151670, 7048151355, 7048151355]
theorem r38 : m__law_is_right [.int (38 : Nat)] = some (.bl true) := right_of (T := T38) (by decide +kernel) (by decide) (by decide) (by decide +kernel)
def T39 : List Int := [13743895360, 13743895344, 13743895344, 13743895344, 13743895344, 13743895360, 13743895344, 13743895344, 13743895344, 13743895344, 13743895360, 13743895344, 13743895344, 13743895344, 13743895344, 13743895360, 13743895344, 13743895344, 13743895344, 13743895344, 13743895360, 13743895344, 13743895344, 13743895344, 13743895344, 13743895360, 13743895344, 13743895344, 13743895344, 13743895344, 13743895360, 13743895344, 13743895344, 13743895344, 13743895344, 13743895360, 13743895344, 13743895344, 13743895344, 13743895344]
theorem r39 : m__law_is_right [.int (39 : Nat)] = some (.bl true) := right_of (T := T39) (by decide +kernel) (by decide) (by decide) (by decide +kernel)
def T40 : List Int := [26817356776, 26817356775, 26817356775, 26817356775, 26817356775, 26817356775, 26817356775, 26817356775, 26817356775, 26817356775, 26817356775, 26817356775, 26817356775, 26817356775, 26817356775, 26817356775, 26817356775, 26817356775, 26817356775, 26817356775, 26817356775, 26817356775, 26817356775, 26817356775, 26817356775, 26817356775, 26817356775, 26817356775, 26817356775, 26817356775, 26817356775, 26817356775, 26817356775, 26817356775, 26817356775, 26817356775, 26817356775, 26817356775, 26817356775, 26817356775, 26817356775]
theorem r40 : m__law_is_right [.int (40 : Nat)] = some (.bl true) := right_of (T := T40) (by decide +kernel) (by decide) (by decide) (by decide +kernel)
def T41 : List Int := [52357696956, 52357696365, 52357696365, 52357696950, 52357696365, 52357696365, 52357696950, 52357696370, 52357696365, 52357696950, 52357696365, 52357696365, 52357696950, 52357696365, 52357696370, 52357696950, 52357696365, 52357696365, 52357696950, 52357696365, 52357696365, 52357696956, 52357696365, 52357696365, 52357696950, 52357696365, 52357696365, 52357696950, 52357696370, 52357696365, 52357696950, 52357696365, 52357696365, 52357696950, 52357696365, 52357696370, 52357696950, 52357696365, 52357696365, 52357696950, 52357696365, 52357696365]
theorem r41 : m__law_is_right [.int (41 : Nat)] = some (.bl true) := right_of (T := T41) (by decide +kernel) (by decide) (by decide) (by decide +kernel)
def T42 : List Int := [102280151422, 102280151421, 102280151421, 102280151421, 102280151421, 102280151421, 102280151421, 102280151421, 102280151421, 102280151421, 102280151421, 102280151421, 102280151421, 102280151421, 102280151421, 102280151421, 102280151421, 102280151421, 102280151421, 102280151421, 102280151421, 102280151421, 102280151421, 102280151421, 102280151421, 102280151421, 102280151421, 102280151421, 102280151421, 102280151421, 102280151421, 102280151421, 102280151421, 102280151421, 102280151421, 102280151421, 102280151421, 102280151421, 102280151421, 102280151421, 102280151421, 102280151421, 102280151421]
theorem r42 : m__law_is_right [.int (42 : Nat)] = some (.bl true) := right_of (T := T42) (by decide +kernel) (by decide) (by decide) (by decide +kernel)
def T43 : List Int := [199911205052, 199911205050, 199911205050, 199911205050, 199911205050, 199911205050, 199911205050, 199911205050, 199911205050, 199911205050, 199911205050, 199911205052, 199911205050, 199911205050, 199911205050, 199911205050, 199911205050, 199911205050, 199911205050, 199911205050, 199911205050, 199911205050, 199911205052, 199911205050, 199911205050, 199911205050, 199911205050, 199911205050, 199911205050, 199911205050, 199911205050, 199911205050, 199911205050, 199911205052, 199911205050, 199911205050, 199911205050, 199911205050, 199911205050, 199911205050, 199911205050, 199911205050, 199911205050, 199911205050]
theorem r43 : m__law_is_right [.int (43 : Nat)] = some (.bl true) := right_of (T := T43) (by decide +kernel) (by decide) (by decide) (by decide +kernel)
def T44 : List Int := [390937468408, 390937467284, 390937467284, 390937468375, 390937467284, 390937467312, 390937468375, 390937467284, 390937467284, 390937468378, 390937467312, 390937467284, 390937468375, 390937467284, 390937467284, 390937468404, 390937467284, 390937467284, 390937468378, 390937467284, 390937467312, 390937468375, 390937467284, 390937467284, 390937468375, 390937467312, 390937467284, 390937468378, 390937467284, 390937467284, 390937468404, 390937467284, 390937467284, 390937468375, 390937467284, 390937467312, 390937468378, 390937467284, 390937467284, 390937468375, 390937467312, 390937467284, 390937468375, 390937467284, 390937467284]
theorem r44 : m__law_is_right [.int (44 : Nat)] = some (.bl true) := right_of (T := T44) (by decide +kernel) (by decide) (by decide) (by decide +kernel)
def T45 : List Int := [764877654106, 764877654105, 764877654105, 764877654105, 764877654105, 764877654105, 764877654105, 764877654105, 764877654105, 764877654105, 764877654105, 764877654105, 764877654105, 764877654105, 764877654105, 764877654105, 764877654105, 764877654105, 764877654105, 764877654105, 764877654105, 764877654105, 764877654105, 764877654106, 764877654105, 764877654105, 764877654105, 764877654105, 764877654105, 764877654105, 764877654105, 764877654105, 764877654105, 764877654105, 764877654105, 764877654105, 764877654105, 764877654105, 764877654105, 764877654105, 764877654105, 764877654105, 764877654105, 764877654105, 764877654105, 764877654105]
theorem r45 : m__law_is_right [.int (45 : Nat)] = some (.bl true) := right_of (T := T45) (by decide +kernel) (by decide) (by decide) (by decide +kernel)
def T46 : List Int := [1497207322930, 1497207322929, 1497207322929, 1497207322929, 1497207322929, 1497207322929, 1497207322929, 1497207322929, 1497207322929, 1497207322929, 1497207322929, 1497207322929, 1497207322929, 1497207322929, 1497207322929, 1497207322929, 1497207322929, 1497207322929, 1497207322929, 1497207322929, 1497207322929, 1497207322929, 1497207322929, 1497207322929, 1497207322929, 1497207322929, 1497207322929, 1497207322929, 1497207322929, 1497207322929, 1497207322929, 1497207322929, 1497207322929, 1497207322929, 1497207322929, 1497207322929, 1497207322929, 1497207322929, 1497207322929, 1497207322929, 1497207322929, 1497207322929, 1497207322929, 1497207322929, 1497207322929, 1497207322929, 1497207322929]
theorem r46 : m__law_is_right [.int (46 : Nat)] = some (.bl true) := right_of (T := T46) (by decide +kernel) (by decide) (by decide) (by decide +kernel)
def T47 : List Int := [2932031008768, 2932031006720, 2932031006720, 2932031008768, 2932031006720, 2932031006720, 2932031008768, 2932031006720, 2932031006720, 2932031008768, 2932031006720, 2932031006720, 2932031008768, 2932031006720, 2932031006720, 2932031008768, 2932031006720, 2932031006720, 2932031008768, 2932031006720, 2932031006720, 2932031008768, 2932031006720, 2932031006720, 2932031008768, 2932031006720, 2932031006720, 2932031008768, 2932031006720, 2932031006720, 2932031008768, 2932031006720, 2932031006720, 2932031008768, 2932031006720, 2932031006720, 2932031008768, 2932031006720, 2932031006720, 2932031008768, 2932031006720, 2932031006720, 2932031008768, 2932031006720, 2932031006720, 2932031008768, 2932031006720, 2932031006720]
theorem r47 : m__law_is_right [.int (47 : Nat)] = some (.bl true) := right_of (T := T47) (by decide +kernel) (by decide) (by decide) (by decide +kernel)
def T48 : List Int := [5744387279818, 5744387279808, 5744387279808, 5744387279808, 5744387279808, 5744387279808, 5744387279808, 5744387279817, 5744387279808, 5744387279808, 5744387279808, 5744387279808, 5744387279808, 5744387279808, 5744387279817, 5744387279808, 5744387279808, 5744387279808, 5744387279808, 5744387279808, 5744387279808, 5744387279817, 5744387279808, 5744387279808, 5744387279808, 5744387279808, 5744387279808, 5744387279808, 5744387279817, 5744387279808, 5744387279808, 5744387279808, 5744387279808, 5744387279808, 5744387279808, 5744387279817, 5744387279808, 5744387279808, 5744387279808, 5744387279808, 5744387279808, 5744387279808, 5744387279817, 5744387279808, 5744387279808, 5744387279808, 5744387279808, 5744387279808, 5744387279808]
theorem r48 : m__law_is_right [.int (48 : Nat)] = some (.bl true) := right_of (T := T48) (by decide +kernel) (by decide) (by decide) (by decide +kernel)
def T49 : List Int := [11258999068468, 11258999068416, 11258999068416, 11258999068416, 11258999068416, 11258999068467, 11258999068416, 11258999068416, 11258999068416, 11258999068416, 11258999068467, 11258999068416, 11258999068416, 11258999068416, 11258999068416, 11258999068467, 11258999068416, 11258999068416, 11258999068416, 11258999068416, 11258999068467, 11258999068416, 11258999068416, 11258999068416, 11258999068416, 11258999068468, 11258999068416, 11258999068416, 11258999068416, 11258999068416, 11258999068467, 11258999068416, 11258999068416, 11258999068416, 11258999068416, 11258999068467, 11258999068416, 11258999068416, 11258999068416, 11258999068416, 11258999068467, 11258999068416, 11258999068416, 11258999068416, 11258999068416, 11258999068467, 11258999068416, 11258999068416, 11258999068416, 11258999068416]
theorem r49 : m__law_is_right [.int (49 : Nat)] = some (.bl true) := right_of (T := T49) (by decide +kernel) (by decide) (by decide) (by decide +kernel)
def T50 : List Int := [22076468764192, 22076468760335, 22076468760335, 22076468764190, 22076468760335, 22076468760335, 22076468764190, 22076468760335, 22076468760335, 22076468764190, 22076468760335, 22076468760335, 22076468764190, 22076468760335, 22076468760335, 22076468764190, 22076468760335, 22076468760336, 22076468764190, 22076468760335, 22076468760335, 22076468764190, 22076468760335, 22076468760335, 22076468764190, 22076468760335, 22076468760335, 22076468764190, 22076468760335, 22076468760335, 22076468764190, 22076468760335, 22076468760335, 22076468764190, 22076468760336, 22076468760335, 22076468764190, 22076468760335, 22076468760335, 22076468764190, 22076468760335, 22076468760335, 22076468764190, 22076468760335, 22076468760335, 22076468764190, 22076468760335, 22076468760335, 22076468764190, 22076468760335, 22076468760335]
theorem r50 : m__law_is_right [.int (50 : Nat)] = some (.bl true) := right_of (T := T50) (by decide +kernel) (by decide) (by decide) (by decide +kernel)
def T51 : List Int := [43303842570872, 43303842570870, 43303842570870, 43303842570870, 43303842570870, 43303842570870, 43303842570870, 43303842570870, 43303842570870, 43303842570870, 43303842570870, 43303842570870, 43303842570870, 43303842570872, 43303842570870, 43303842570870, 43303842570870, 43303842570870, 43303842570870, 43303842570870, 43303842570870, 43303842570870, 43303842570870, 43303842570870, 43303842570870, 43303842570870, 43303842570872, 43303842570870, 43303842570870, 43303842570870, 43303842570870, 43303842570870, 43303842570870, 43303842570870, 43303842570870, 43303842570870, 43303842570870, 43303842570870, 43303842570870, 43303842570872, 43303842570870, 43303842570870, 43303842570870, 43303842570870, 43303842570870, 43303842570870, 43303842570870, 43303842570870, 43303842570870, 43303842570870, 43303842570870, 43303842570870]
theorem r51 : m__law_is_right [.int (51 : Nat)] = some (.bl true) := right_of (T := T51) (by decide +kernel) (by decide) (by decide) (by decide +kernel)
def T52 : List Int := [84973577874916, 84973577874915, 84973577874915, 84973577874915, 84973577874915, 84973577874915, 84973577874915, 84973577874915, 84973577874915, 84973577874915, 84973577874915, 84973577874915, 84973577874915, 84973577874915, 84973577874915, 84973577874915, 84973577874915, 84973577874915, 84973577874915, 84973577874915, 84973577874915, 84973577874915, 84973577874915, 84973577874915, 84973577874915, 84973577874915, 84973577874915, 84973577874915, 84973577874915, 84973577874915, 84973577874915, 84973577874915, 84973577874915, 84973577874915, 84973577874915, 84973577874915, 84973577874915, 84973577874915, 84973577874915, 84973577874915, 84973577874915, 84973577874915, 84973577874915, 84973577874915, 84973577874915, 84973577874915, 84973577874915, 84973577874915, 84973577874915, 84973577874915, 84973577874915, 84973577874915, 84973577874915]
theorem r52 : m__law_is_right [.int (52 : Nat)] = some (.bl true) := right_of (T := T52) (by decide +kernel) (by decide) (by decide) (by decide +kernel)
def T53 : List Int := [166799986203766, 166799986196480, 166799986196480, 166799986203760, 166799986196480, 166799986196480, 166799986203760, 166799986196480, 166799986196480, 166799986203765, 166799986196480, 166799986196480, 166799986203760, 166799986196480, 166799986196480, 166799986203760, 166799986196480, 166799986196480, 166799986203765, 166799986196480, 166799986196480, 166799986203760, 166799986196480, 166799986196480, 166799986203760, 166799986196480, 166799986196480, 166799986203766, 166799986196480, 166799986196480, 166799986203760, 166799986196480, 166799986196480, 166799986203760, 166799986196480, 166799986196480, 166799986203765, 166799986196480, 166799986196480, 166799986203760, 166799986196480, 166799986196480, 166799986203760, 166799986196480, 166799986196480, 166799986203765, 166799986196480, 166799986196480, 166799986203760, 166799986196480, 166799986196480, 166799986203760, 166799986196480, 166799986196480]
theorem r53 : m__law_is_right [.int (53 : Nat)] = some (.bl true) := right_of (T := T53) (by decide +kernel) (by decide) (by decide) (by decide +kernel)
def T54 : List Int := [327534518354296, 327534518354199, 327534518354199, 327534518354199, 327534518354199, 327534518354292, 327534518354199, 327534518354199, 327534518354199, 327534518354199, 327534518354292, 327534518354202, 327534518354199, 327534518354199, 327534518354199, 327534518354292, 327534518354199, 327534518354199, 327534518354199, 327534518354199, 327534518354292, 327534518354199, 327534518354202, 327534518354199, 327534518354199, 327534518354292, 327534518354199, 327534518354199, 327534518354199, 327534518354199, 327534518354292, 327534518354199, 327534518354199, 327534518354202, 327534518354199, 327534518354292, 327534518354199, 327534518354199, 327534518354199, 327534518354199, 327534518354292, 327534518354199, 327534518354199, 327534518354199, 327534518354202, 327534518354292, 327534518354199, 327534518354199, 327534518354199, 327534518354199, 327534518354292, 327534518354199, 327534518354199, 327534518354199, 327534518354199]
theorem r54 : m__law_is_right [.int (54 : Nat)] = some (.bl true) := right_of (T := T54) (by decide +kernel) (by decide) (by decide) (by decide +kernel)
def T55 : List Int := [643371375338656, 643371375338640, 643371375338640, 643371375338640, 643371375338640, 643371375338640, 643371375338640, 643371375338656, 643371375338640, 643371375338640, 643371375338640, 643371375338640, 643371375338640, 643371375338640, 643371375338656, 643371375338640, 643371375338640, 643371375338640, 643371375338640, 643371375338640, 643371375338640, 643371375338656, 643371375338640, 643371375338640, 643371375338640, 643371375338640, 643371375338640, 643371375338640, 643371375338656, 643371375338640, 643371375338640, 643371375338640, 643371375338640, 643371375338640, 643371375338640, 643371375338656, 643371375338640, 643371375338640, 643371375338640, 643371375338640, 643371375338640, 643371375338640, 643371375338656, 643371375338640, 643371375338640, 643371375338640, 643371375338640, 643371375338640, 643371375338640, 643371375338656, 643371375338640, 643371375338640, 643371375338640, 643371375338640, 643371375338640, 643371375338640]
theorem r55 : m__law_is_right [.int (55 : Nat)] = some (.bl true) := right_of (T := T55) (by decide +kernel) (by decide) (by decide) (by decide +kernel)
def T56 : List Int := [1264168316464076, 1264168316450277, 1264168316450277, 1264168316464074, 1264168316450277, 1264168316450277, 1264168316464074, 1264168316450277, 1264168316450277, 1264168316464074, 1264168316450277, 1264168316450277, 1264168316464074, 1264168316450277, 1264168316450277, 1264168316464074, 1264168316450277, 1264168316450277, 1264168316464074, 1264168316450278, 1264168316450277, 1264168316464074, 1264168316450277, 1264168316450277, 1264168316464074, 1264168316450277, 1264168316450277, 1264168316464074, 1264168316450277, 1264168316450277, 1264168316464074, 1264168316450277, 1264168316450277, 1264168316464074, 1264168316450277, 1264168316450277, 1264168316464074, 1264168316450277, 1264168316450278, 1264168316464074, 1264168316450277, 1264168316450277, 1264168316464074, 1264168316450277, 1264168316450277, 1264168316464074, 1264168316450277, 1264168316450277, 1264168316464074, 1264168316450277, 1264168316450277, 1264168316464074, 1264168316450277, 1264168316450277, 1264168316464074, 1264168316450277, 1264168316450277]
theorem r56 : m__law_is_right [.int (56 : Nat)] = some (.bl true) := right_of (T := T56) (by decide +kernel) (by decide) (by decide) (by decide +kernel)
def T57 : List Int := [2484744621997516, 2484744621997515, 2484744621997515, 2484744621997515, 2484744621997515, 2484744621997515, 2484744621997515, 2484744621997515, 2484744621997515, 2484744621997515, 2484744621997515, 2484744621997515, 2484744621997515, 2484744621997515, 2484744621997515, 2484744621997515, 2484744621997515, 2484744621997515, 2484744621997515, 2484744621997515, 2484744621997515, 2484744621997515, 2484744621997515, 2484744621997515, 2484744621997515, 2484744621997515, 2484744621997515, 2484744621997515, 2484744621997515, 2484744621997516, 2484744621997515, 2484744621997515, 2484744621997515, 2484744621997515, 2484744621997515, 2484744621997515, 2484744621997515, 2484744621997515, 2484744621997515, 2484744621997515, 2484744621997515, 2484744621997515, 2484744621997515, 2484744621997515, 2484744621997515, 2484744621997515, 2484744621997515, 2484744621997515, 2484744621997515, 2484744621997515, 2484744621997515, 2484744621997515, 2484744621997515, 2484744621997515, 2484744621997515, 2484744621997515, 2484744621997515, 2484744621997515]
theorem r57 : m__law_is_right [.int (57 : Nat)] = some (.bl true) := right_of (T := T57) (by decide +kernel) (by decide) (by decide) (by decide +kernel)
def T58 : List Int := [4885260612740878, 4885260612740877, 4885260612740877, 4885260612740877, 4885260612740877, 4885260612740877, 4885260612740877, 4885260612740877, 4885260612740877, 4885260612740877, 4885260612740877, 4885260612740877, 4885260612740877, 4885260612740877, 4885260612740877, 4885260612740877, 4885260612740877, 4885260612740877, 4885260612740877, 4885260612740877, 4885260612740877, 4885260612740877, 4885260612740877, 4885260612740877, 4885260612740877, 4885260612740877, 4885260612740877, 4885260612740877, 4885260612740877, 4885260612740877, 4885260612740877, 4885260612740877, 4885260612740877, 4885260612740877, 4885260612740877, 4885260612740877, 4885260612740877, 4885260612740877, 4885260612740877, 4885260612740877, 4885260612740877, 4885260612740877, 4885260612740877, 4885260612740877, 4885260612740877, 4885260612740877, 4885260612740877, 4885260612740877, 4885260612740877, 4885260612740877, 4885260612740877, 4885260612740877, 4885260612740877, 4885260612740877, 4885260612740877, 4885260612740877, 4885260612740877, 4885260612740877, 4885260612740877]
theorem r58 : m__law_is_right [.int (58 : Nat)] = some (.bl true) := right_of (T := T58) (by decide +kernel) (by decide) (by decide) (by decide +kernel)
def T59 : List Int := [9607679205074672, 9607679205048286, 9607679205048286, 9607679205074500, 9607679205048286, 9607679205048456, 9607679205074500, 9607679205048286, 9607679205048286, 9607679205074500, 9607679205048456, 9607679205048286, 9607679205074500, 9607679205048286, 9607679205048286, 9607679205074672, 9607679205048286, 9607679205048286, 9607679205074500, 9607679205048286, 9607679205048456, 9607679205074500, 9607679205048286, 9607679205048286, 9607679205074500, 9607679205048456, 9607679205048286, 9607679205074500, 9607679205048286, 9607679205048286, 9607679205074672, 9607679205048286, 9607679205048286, 9607679205074500, 9607679205048286, 9607679205048456, 9607679205074500, 9607679205048286, 9607679205048286, 9607679205074500, 9607679205048456, 9607679205048286, 9607679205074500, 9607679205048286, 9607679205048286, 9607679205074672, 9607679205048286, 9607679205048286, 9607679205074500, 9607679205048286, 9607679205048456, 9607679205074500, 9607679205048286, 9607679205048286, 9607679205074500, 9607679205048456, 9607679205048286, 9607679205074500, 9607679205048286, 9607679205048286]
theorem r59 : m__law_is_right [.int (59 : Nat)] = some (.bl true) := right_of (T := T59) (by decide +kernel) (by decide) (by decide) (by decide +kernel)
def T60 : List Int := [18900352534538476, 18900352534538475, 18900352534538475, 18900352534538475, 18900352534538475, 18900352534538475, 18900352534538475, 18900352534538475, 18900352534538475, 18900352534538475, 18900352534538475, 18900352534538475, 18900352534538475, 18900352534538475, 18900352534538475, 18900352534538475, 18900352534538475, 18900352534538475, 18900352534538475, 18900352534538475, 18900352534538475, 18900352534538475, 18900352534538475, 18900352534538475, 18900352534538475, 18900352534538475, 18900352534538475, 18900352534538475, 18900352534538475, 18900352534538475, 18900352534538475, 18900352534538475, 18900352534538475, 18900352534538475, 18900352534538475, 18900352534538475, 18900352534538475, 18900352534538475, 18900352534538475, 18900352534538475, 18900352534538475, 18900352534538475, 18900352534538475, 18900352534538475, 18900352534538475, 18900352534538475, 18900352534538475, 18900352534538475, 18900352534538475, 18900352534538475, 18900352534538475, 18900352534538475, 18900352534538475, 18900352534538475, 18900352534538475, 18900352534538475, 18900352534538475, 18900352534538475, 18900352534538475, 18900352534538475, 18900352534538475]
theorem r60 : m__law_is_right [.int (60 : Nat)] = some (.bl true) := right_of (T := T60) (by decide +kernel) (by decide) (by decide) (by decide +kernel)
theorem right_all (n : Nat) (h1 : 1 ≤ n) (h2 : n ≤ 60) : m__law_is_right [.int n] = some (.bl true) := by
  match n, h1, h2 with
  | 1, _, _ => exact r1
  | 2, _, _ => exact r2
  | 3, _, _ => exact r3
  | 4, _, _ => exact r4
  | 5, _, _ => exact r5
  | 6, _, _ => exact r6
  | 7, _, _ => exact r7
  | 8, _, _ => exact r8
  | 9, _, _ => exact r9
  | 10, _, _ => exact r10
  | 11, _, _ => exact r11
  | 12, _, _ => exact r12
  | 13, _, _ => exact r13
  | 14, _, _ => exact r14
  | 15, _, _ => exact r15
  | 16, _, _ => exact r16
  | 17, _, _ => exact r17
  | 18, _, _ => exact r18
  | 19, _, _ => exact r19
  | 20, _, _ => exact r20
  | 21, _, _ => exact r21
  | 22, _, _ => exact r22
  | 23, _, _ => exact r23
  | 24, _, _ => exact r24
  | 25, _, _ => exact r25
  | 26, _, _ => exact r26
  | 27, _, _ => exact r27
  | 28, _, _ => exact r28
  | 29, _, _ => exact r29
  | 30, _, _ => exact r30
  | 31, _, _ => exact r31
  | 32, _, _ => exact r32
  | 33, _, _ => exact r33
  | 34, _, _ => exact r34
  | 35, _, _ => exact r35
  | 36, _, _ => exact r36
  | 37, _, _ => exact r37
  | 38, _, _ => exact r38
  | 39, _, _ => exact r39
  | 40, _, _ => exact r40
  | 41, _, _ => exact r41
  | 42, _, _ => exact r42
  | 43, _, _ => exact r43
  | 44, _, _ => exact r44
  | 45, _, _ => exact r45
  | 46, _, _ => exact r46
  | 47, _, _ => exact r47
  | 48, _, _ => exact r48
  | 49, _, _ => exact r49
  | 50, _, _ => exact r50
  | 51, _, _ => exact r51
  | 52, _, _ => exact r52
  | 53, _, _ => exact r53
  | 54, _, _ => exact r54
  | 55, _, _ => exact r55
  | 56, _, _ => exact r56
  | 57, _, _ => exact r57
  | 58, _, _ => exact r58
  | 59, _, _ => exact r59
  | 60, _, _ => exact r60
  | k + 61, _, h => exact absurd h (by omega)
def grow (cs : List (List Nat)) : List (List Nat) := cs.flatMap fun c => [c ++ [111], c ++ [118]]
def allS : Nat → List (List Nat)
  | 0 => [[]]
  | n + 1 => grow (allS n)
theorem grow_len (cs : List (List Nat)) : (grow cs).length = 2 * cs.length := by
  unfold grow
  induction cs with
  | nil => rfl
  | cons c cs ih => rw [List.flatMap_cons, List.length_append, ih]; simp; omega
theorem allS_len : ∀ n, (allS n).length = 2 ^ n
  | 0 => rfl
  | n + 1 => by rw [allS, grow_len, allS_len n, Nat.pow_succ]; omega
theorem allS_each : ∀ n, ∀ c ∈ allS n, c.length = n
  | 0, c, h => by simp [allS] at h; rw [h]; rfl
  | n + 1, c, h => by
    rw [allS, grow, List.mem_flatMap] at h
    obtain ⟨a, ha, hc⟩ := h
    have := allS_each n a ha
    simp at hc
    rcases hc with rfl | rfl <;> simp [this]
def fr3 (s : PL.Slot) : Prop := s = .no ∨ ∃ d, s = .shr d
theorem all_inner (n : Nat) (hn : n < 10) (cs : List (List Nat)) (hcs : cs = allS n) (e0 e2 : PL.Slot) (e4 : PL.Slot) (h4 : fr3 e4) : ∃ s4, forGo (gN 4) (sAsg (eApp dAdd [.v (eVar 3), .v (eLst [eApp dAdd [.v (eVar 4), .v (eC (.str [111]))], eApp dAdd [.v (eVar 4), .v (eC (.str [118]))]])]) (gN 3)) (cs.map .str) [e0, .shr (.lst (cs.map .str)), e2, .shr (.lst []), e4] = some (.nx, [e0, .shr (.lst (cs.map .str)), e2, .shr (.lst ((grow cs).map .str)), s4]) ∧ fr3 s4 := by
  have hlen : cs.length ≤ 512 := by
    rw [hcs, allS_len]
    exact Nat.le_trans (Nat.pow_le_pow_right (by decide) (show n ≤ 9 by omega)) (by decide)
  obtain ⟨e, hf, s4, hs4, he⟩ := for_inv (g := gN 4) (body := sAsg (eApp dAdd [.v (eVar 3), .v (eLst [eApp dAdd [.v (eVar 4), .v (eC (.str [111]))], eApp dAdd [.v (eVar 4), .v (eC (.str [118]))]])]) (gN 3)) (cs.map .str)
    (fun i env => ∃ s4 : PL.Slot, fr3 s4 ∧ env = [e0, .shr (.lst (cs.map .str)), e2, .shr (.lst ((grow (cs.take i)).map .str)), s4]) [e0, .shr (.lst (cs.map .str)), e2, .shr (.lst []), e4] ⟨e4, h4, rfl⟩ (fun i d env hd hI => by
      obtain ⟨s4, hs4, rfl⟩ := hI
      rw [List.getElem?_map, Option.map_eq_some_iff] at hd
      obtain ⟨c, hc, rfl⟩ := hd
      have hm : c ∈ allS n := by rw [← hcs]; exact List.mem_of_getElem? hc
      have hcl := allS_each n c hm
      have h1 : dAdd [.str c, .str [111]] = some (.str (c ++ [111])) := by
        unfold dAdd; simp only; rw [if_pos (by simp; omega)]
      have h2 : dAdd [.str c, .str [118]] = some (.str (c ++ [118])) := by
        unfold dAdd; simp only; rw [if_pos (by simp; omega)]
      have hg : (grow (cs.take i)).length ≤ 1024 := by rw [grow_len, List.length_take]; omega
      have h3 : dAdd [.lst ((grow (cs.take i)).map .str), .lst [.str (c ++ [111]), .str (c ++ [118])]] = some (.lst ((grow (cs.take (i + 1))).map .str)) := by
        unfold dAdd
        simp only
        rw [if_pos (by rw [List.length_map]; simp; omega), List.take_add_one, hc]
        simp [grow]
      refine ⟨[e0, .shr (.lst (cs.map .str)), e2, .shr (.lst ((grow (cs.take i)).map .str)), .shr (.str c)], [e0, .shr (.lst (cs.map .str)), e2, .shr (.lst ((grow (cs.take (i + 1))).map .str)), .shr (.str c)], .nx, ?_, ?_, .inl rfl, .shr (.str c), .inr ⟨_, rfl⟩, rfl⟩
      · rcases hs4 with rfl | ⟨d', rfl⟩ <;> rfl
      · exact asg_nx (app_of (ds := [.lst ((grow (cs.take i)).map .str), .lst [.str (c ++ [111]), .str (c ++ [118])]]) (ev2 rfl (lst_of (evLc (app_of (ev2 rfl rfl) h1) (evLc (app_of (ev2 rfl rfl) h2) rfl)))) h3) rfl)
  rw [List.length_map, List.take_length] at he
  exact ⟨s4, by rw [hf, he], hs4⟩
theorem all_eq {n : Nat} (hn : n ≤ 10) : m__law_all [.int n] = some (.lst ((allS n).map .str)) := by
  obtain ⟨e, hf, s2, s3, s4, he, h2, h3, h4⟩ := for_inv (g := gN 2) (body := sSeq (sAsg (eLst []) (gN 3)) (sSeq (sFor (iOf (eVar 1)) (gN 4) (sAsg (eApp dAdd [.v (eVar 3), .v (eLst [eApp dAdd [.v (eVar 4), .v (eC (.str [111]))], eApp dAdd [.v (eVar 4), .v (eC (.str [118]))]])]) (gN 3))) (sAsg (eVar 3) (gN 1)))) (rngD 0 n)
    (fun i env => ∃ s2 s3 s4 : PL.Slot, env = [.shr (.int n), .shr (.lst ((allS i).map .str)), s2, s3, s4] ∧ fr3 s2 ∧ fr3 s3 ∧ fr3 s4) [.shr (.int n), .shr (.lst ((allS 0).map .str)), .no, .no, .no] ⟨.no, .no, .no, rfl, .inl rfl, .inl rfl, .inl rfl⟩ (fun i d env hd hI => by
      obtain ⟨s2, s3, s4, rfl, h2, h3, h4⟩ := hI
      have hi : i < n := by have := (List.getElem?_eq_some_iff.mp hd).1; rw [rngD_len] at this; exact this
      obtain ⟨s4', hf, h4'⟩ := all_inner i (by omega) (allS i) rfl (.shr (.int n)) (.shr d) s4 h4
      refine ⟨[.shr (.int n), .shr (.lst ((allS i).map .str)), .shr d, s3, s4], [.shr (.int n), .shr (.lst ((allS (i + 1)).map .str)), .shr d, .shr (.lst ((allS (i + 1)).map .str)), s4'], .nx, ?_, ?_, .inl rfl, .shr d, _, s4', rfl, .inr ⟨_, rfl⟩, .inr ⟨_, rfl⟩, h4'⟩
      · rcases h2 with rfl | ⟨d', rfl⟩ <;> rfl
      · have hA : sAsg (eLst []) (gN 3) [.shr (.int n), .shr (.lst ((allS i).map .str)), .shr d, s3, s4] = some (.nx, [.shr (.int n), .shr (.lst ((allS i).map .str)), .shr d, .shr (.lst []), s4]) := by
          rcases h3 with rfl | ⟨d', rfl⟩ <;> rfl
        exact (seq_nx hA).trans ((seq_nx (for_nx (ds := (allS i).map .str) rfl hf)).trans rfl))
  rw [rngD_len] at he
  have e2 : iR1 (eVar 0) [.shr (.int n), .shr (.lst ((allS 0).map .str)), .no, .no, .no] = some (rngD 0 n, [.shr (.int n), .shr (.lst ((allS 0).map .str)), .no, .no, .no]) := r1_of rfl (by omega)
  have hb : b__law_all [.shr (.int n), .no, .no, .no, .no] = some (.rt false (.lst ((allS n).map .str)), e) := by
    refine (seq_nx rfl).trans ((seq_nx (for_nx e2 hf)).trans ?_)
    rw [he]; rfl
  show (runFn ⟨[false], false⟩ 5 b__law_all [.int n]).map (·.1) = _
  have e3 : runFn ⟨[false], false⟩ 5 b__law_all [.int n] = some (.lst ((allS n).map .str), [.non]) := by
    show (b__law_all [.shr (.int n), .no, .no, .no, .no]).bind _ = _
    rw [hb, he]; rfl
  rw [e3]; rfl

def idxV : Int → List Nat → List Int
  | _, [] => []
  | k, x :: r => if x = 118 then (k + 1) :: idxV (k + 1) r else idxV (k + 1) r
def pV : D → Bool
  | .tup [_, .str s] => s == [118]
  | _ => false
def FV : D → D
  | .tup [.int i, _] => .int (i + 1)
  | _ => .non
theorem idxV_eq : ∀ (c : List Nat) (k : Int), ((enD k (chars c)).filter pV).map FV = (idxV k c).map .int
  | [], _ => rfl
  | x :: r, k => by
    have ih := idxV_eq r (k + 1)
    show ((D.tup [.int k, .str [x]] :: enD (k + 1) (chars r)).filter pV).map FV = _
    by_cases hx : x = 118
    · subst hx
      rw [List.filter_cons_of_pos rfl, List.map_cons, ih, idxV, if_pos rfl]; rfl
    · rw [List.filter_cons_of_neg (by simp [pV, hx]), ih, idxV, if_neg hx]
def sumS (c : List Nat) : Int := (idxV 0 c).sum % ((c.length : Int) + 1)
theorem enD_mem : ∀ (c : List Nat) (k : Int) (d : D), d ∈ enD k (chars c) → ∃ (i : Int) (x : Nat), d = .tup [.int i, .str [x]]
  | [], _, _, h => by cases h
  | x :: r, k, d, h => by
    have h : d ∈ (D.tup [.int k, .str [x]] :: enD (k + 1) (chars r)) := h
    rcases List.mem_cons.mp h with rfl | h
    · exact ⟨k, x, rfl⟩
    · exact enD_mem r (k + 1) d h
theorem sum_eq {c : List Nat} (hc : c.length ≤ 1000) : m__law_sum [.str c] = some (.int (sumS c)) := by
  have hlc := lc_filter (vs := [1, 2]) (g := gT 2 (gsC (gN 1) (gsC (gN 2) (gsN)))) (t := tB_ (eApp dEq [.v (eVar 2), .v (eC (.str [118]))])) (m := eApp dAdd [.v (eVar 1), .v (eC (.int 1))]) (enD 0 (chars c)) [.shr (.str c), .no, .no] pV FV (fun d hd => by
    obtain ⟨i, x, rfl⟩ := enD_mem c 0 d hd
    refine ⟨[.shr (.str c), .shr (.int i), .shr (.str [x])], [.shr (.str c), .shr (.int i), .shr (.str [x])], rfl, ?_, fun _ => ⟨[.shr (.str c), .shr (.int i), .shr (.str [x])], rfl, rfl⟩, fun _ => rfl⟩
    have e : dEq [.str [x], .str [118]] = some (.bl (pV (.tup [.int i, .str [x]]))) := rfl
    exact tB_of (app_of (ev2 rfl rfl) e))
  rw [idxV_eq] at hlc
  have hl : (enD 0 (chars c)).length = c.length := by rw [enD_len]; simp [chars]
  have e1 : eLc (iEnM (eVar 0)) [1, 2] (gT 2 (gsC (gN 1) (gsC (gN 2) (gsN)))) (tB_ (eApp dEq [.v (eVar 2), .v (eC (.str [118]))])) (eApp dAdd [.v (eVar 1), .v (eC (.int 1))]) [.shr (.str c), .no, .no] = some (.lst ((idxV 0 c).map .int), [.shr (.str c), .no, .no]) :=
    lc_of (ds := enD 0 (chars c)) (e1 := [.shr (.str c), .no, .no]) rfl (by rw [hl]; omega) rfl hlc
  have e2 : dSum [.lst ((idxV 0 c).map .int)] = some (.int (idxV 0 c).sum) := by
    show (intsD _).map _ = _
    rw [intsD_map]; rfl
  have e3 : dLen [.str c] = some (.int c.length) := by
    unfold dLen; simp only; rw [if_pos (by omega)]
  have e4 : dMod [.int (idxV 0 c).sum, .int ((c.length : Int) + 1)] = some (.int (sumS c)) := by
    unfold dMod; simp only; rw [if_pos (by omega)]; rfl
  refine runP_of (e := [.shr (.str c), .no, .no]) rfl (retF_of (app_of (ev2 (app_of (ev1 (app_of (ev1 e1) e2)) rfl) (app_of (ev2 (app_of (ev1 rfl) e3) rfl) rfl)) e4)) rfl
theorem sumS_lt (c : List Nat) : 0 ≤ sumS c ∧ sumS c < (c.length : Int) + 1 := emod_b _ (by omega)
def bump (T : List Int) (i : Nat) : List Int := T.set i (T.getD i 0 + 1)
def hist (n : Nat) (cs : List (List Nat)) : List Int := cs.foldl (fun T c => bump T (sumS c).toNat) (List.replicate (n + 1) 0)
theorem bump_len (T : List Int) (i : Nat) : (bump T i).length = T.length := by simp [bump]
theorem hist_len (n : Nat) : ∀ cs : List (List Nat), (hist n cs).length = n + 1 := by
  intro cs
  unfold hist
  suffices h : ∀ (cs : List (List Nat)) (T : List Int), (cs.foldl (fun T c => bump T (sumS c).toNat) T).length = T.length by rw [h]; simp
  intro cs
  induction cs with
  | nil => intro T; rfl
  | cons c cs ih => intro T; rw [List.foldl_cons, ih, bump_len]
theorem okDs_ints : ∀ (l : List Int) (n : Nat), okDs (l.map .int) n = true
  | [], _ => rfl
  | a :: l, n => by rw [List.map_cons, okDs, okDs_ints l n]; rfl
theorem deqL_refl : ∀ l : List Int, deqL (l.map .int) (l.map .int) = true
  | [] => rfl
  | a :: l => by rw [List.map_cons, deqL, deqL_refl l, deq]; simp
def bodyI : SM := sAsg (eApp dAdd [.v (eApp dIx [.b 2, .v (eCall 1 m__law_sum [eVar 3])]), .v (eC (.int 1))]) (gIx 2 (eCall 1 m__law_sum [eVar 3]))
theorem hist_loop {n : Nat} (hn : n ≤ 10) (s s3 : PL.Slot) (h3 : fr3 s3) : ∃ s3', forGo (gN 3) bodyI ((allS n).map .str) [s, .shr (.int n), .own (.lst ((hist n []).map .int)), s3, .no] = some (.nx, [s, .shr (.int n), .own (.lst ((hist n (allS n)).map .int)), s3', .no]) ∧ fr3 s3' := by
  obtain ⟨e, hf, s3', hs, he⟩ := for_inv (g := gN 3) (body := bodyI) ((allS n).map .str)
    (fun i env => ∃ s3 : PL.Slot, fr3 s3 ∧ env = [s, .shr (.int n), .own (.lst ((hist n ((allS n).take i)).map .int)), s3, .no]) [s, .shr (.int n), .own (.lst ((hist n []).map .int)), s3, .no] ⟨s3, h3, rfl⟩ (fun i d env hd hI => by
      obtain ⟨s3, hs3, rfl⟩ := hI
      rw [List.getElem?_map, Option.map_eq_some_iff] at hd
      obtain ⟨c, hc, rfl⟩ := hd
      have hcl := allS_each n c (List.mem_of_getElem? hc)
      have hsum := sum_eq (c := c) (by omega)
      have hb := sumS_lt c
      have hl := hist_len n ((allS n).take i)
      have hst : hist n ((allS n).take (i + 1)) = bump (hist n ((allS n).take i)) (sumS c).toNat := by
        unfold hist
        rw [List.take_add_one, hc, Option.toList_some, List.foldl_append]; rfl
      generalize hist n ((allS n).take i) = T at hl hst
      obtain ⟨k, hk⟩ : ∃ k : Nat, sumS c = (k : Int) := ⟨(sumS c).toNat, by omega⟩
      rw [hk] at hsum hb hst
      rw [Int.toNat_natCast] at hst
      have hkl : k < T.length := by omega
      have h1 := getD_at hkl
      have hcall : eCall 1 m__law_sum [eVar 3] [s, .shr (.int n), .own (.lst (T.map .int)), .shr (.str c), .no] = some (.int k, [s, .shr (.int n), .own (.lst (T.map .int)), .shr (.str c), .no]) := call_of (evLc rfl evL0) rfl hsum
      refine ⟨[s, .shr (.int n), .own (.lst (T.map .int)), .shr (.str c), .no], [s, .shr (.int n), .own (.lst ((bump T k).map .int)), .shr (.str c), .no], .nx, ?_, ?_, .inl rfl, .shr (.str c), .inr ⟨_, rfl⟩, by rw [hst]⟩
      · rcases hs3 with rfl | ⟨d', rfl⟩ <;> rfl
      · have h2 : evA [.b 2, .v (eCall 1 m__law_sum [eVar 3])] [s, .shr (.int n), .own (.lst (T.map .int)), .shr (.str c), .no] = some ([.lst (T.map .int), .int k], [s, .shr (.int n), .own (.lst (T.map .int)), .shr (.str c), .no]) := by
          simp only [evA, peek, hcall, List.getElem?_cons_succ, List.getElem?_cons_zero, Option.bind_some]
        refine asg_nx (app_of (ev2 (app_of h2 h1) rfl) rfl) ?_
        have h5 : ixN (T.map D.int).length (k : Int) = some k := ixN_nat (by rw [List.length_map]; exact hkl)
        simp only [gIx, ownL, hcall, List.getElem?_cons_succ, List.getElem?_cons_zero, Option.bind_some, asI, h5, putL, List.set_cons_succ, List.set_cons_zero]
        unfold bump
        rw [List.map_set])
  rw [List.length_map, List.take_length] at he
  exact ⟨s3', by rw [hf, he], hs⟩

def bodyA : SM := (sSeq (sOwn (eApp dMul [.v (eLst [eC (.int 0)]), .v (eApp dAdd [.v (eVar 1), .v (eC (.int 1))])]) 2)
    (sSeq (sFor (iOf (eCall 1 m__law_all [eVar 1])) (gN 3) (sAsg (eApp dAdd [.v (eApp dIx [.b 2, .v (eCall 1 m__law_sum [eVar 3])]), .v (eC (.int 1))]) (gIx 2 (eCall 1 m__law_sum [eVar 3]))))
    (sIf (tOrr (tB_ (eApp dNe [.b 2, .v (eCall 1 m__law_counts [eVar 1])])) (tNo (tTr (.v (eCall 1 m__law_is_right [eVar 1]))))) (sRetF (eC (.bl false))) (sNop))))
theorem hh1 : hist 1 (allS 1) = cnt 1 1 := by decide +kernel
theorem hh2 : hist 2 (allS 2) = cnt 2 2 := by decide +kernel
theorem hh3 : hist 3 (allS 3) = cnt 3 3 := by decide +kernel
theorem hh4 : hist 4 (allS 4) = cnt 4 4 := by decide +kernel
theorem hh5 : hist 5 (allS 5) = cnt 5 5 := by decide +kernel
theorem hh6 : hist 6 (allS 6) = cnt 6 6 := by decide +kernel
theorem hh7 : hist 7 (allS 7) = cnt 7 7 := by decide +kernel
theorem hh8 : hist 8 (allS 8) = cnt 8 8 := by decide +kernel
theorem hh9 : hist 9 (allS 9) = cnt 9 9 := by decide +kernel
theorem hh10 : hist 10 (allS 10) = cnt 10 10 := by decide +kernel
theorem hist_cnt (n : Nat) (h1 : 1 ≤ n) (h2 : n ≤ 10) : hist n (allS n) = cnt n n := by
  match n, h1, h2 with
  | 1, _, _ => exact hh1
  | 2, _, _ => exact hh2
  | 3, _, _ => exact hh3
  | 4, _, _ => exact hh4
  | 5, _, _ => exact hh5
  | 6, _, _ => exact hh6
  | 7, _, _ => exact hh7
  | 8, _, _ => exact hh8
  | 9, _, _ => exact hh9
  | 10, _, _ => exact hh10
  | k + 11, _, h => exact absurd h (by omega)
theorem one_ok {n : Nat} (h1 : 1 ≤ n) (h2 : n ≤ 10) (s s2 s3 : PL.Slot) (hs2 : s2 = .no ∨ ∃ d, s2 = .own d) (hs3 : fr3 s3) : ∃ s2' s3', bodyA [s, .shr (.int n), s2, s3, .no] = some (.nx, [s, .shr (.int n), s2', s3', .no]) ∧ (s2' = .no ∨ ∃ d, s2' = .own d) ∧ fr3 s3' := by
  obtain ⟨s3', hf, h3'⟩ := hist_loop h2 s s3 hs3
  have hc := counts_eq h1 (by omega)
  have hr := right_all n h1 (by omega)
  have ha := all_eq h2
  rw [hist_cnt n h1 h2] at hf
  refine ⟨.own (.lst ((cnt n n).map .int)), s3', ?_, .inr ⟨_, rfl⟩, h3'⟩
  have c1 : ((n : Int) + 1).natAbs < 2 ^ 62 ∧ [D.int 0].length * (((n : Int) + 1).toNat) ≤ 16777216 := ⟨by omega, by simp; omega⟩
  have hm : dMul [.lst [.int 0], .int ((n : Int) + 1)] = some (.lst ((hist n []).map D.int)) := by
    unfold dMul
    simp only
    rw [if_pos c1, show ((n : Int) + 1).toNat = n + 1 by omega, flat0]
    rfl
  have e1 : sOwn (eApp dMul [.v (eLst [eC (.int 0)]), .v (eApp dAdd [.v (eVar 1), .v (eC (.int 1))])]) 2 [s, .shr (.int n), s2, s3, .no] = some (.nx, [s, .shr (.int n), .own (.lst ((hist n []).map D.int)), s3, .no]) := by
    refine (own_of (e := [s, .shr (.int n), s2, s3, .no]) (d := .lst ((hist n []).map D.int)) (app_of (ev2 rfl rfl) hm) ?_).trans rfl
    rcases hs2 with rfl | ⟨d, rfl⟩ <;> rfl
  have e2 : iOf (eCall 1 m__law_all [eVar 1]) [s, .shr (.int n), .own (.lst ((hist n []).map D.int)), s3, .no] = some ((allS n).map .str, [s, .shr (.int n), .own (.lst ((hist n []).map D.int)), s3, .no]) := by
    have := call_of (k := 1) (f := m__law_all) (ms := [eVar 1]) (env := [s, .shr (.int n), .own (.lst ((hist n []).map D.int)), s3, .no]) (e := [s, .shr (.int n), .own (.lst ((hist n []).map D.int)), s3, .no]) (ds := [.int n]) rfl rfl ha
    simp only [iOf, this, Option.bind_some, items, Option.map_some]
  refine (seq_nx e1).trans ((seq_nx (for_nx e2 hf)).trans ((if_f ?_).trans rfl))
  have hcall : eCall 1 m__law_counts [eVar 1] [s, .shr (.int n), .own (.lst ((cnt n n).map .int)), s3', .no] = some (.lst ((cnt n n).map .int), [s, .shr (.int n), .own (.lst ((cnt n n).map .int)), s3', .no]) := call_of (ds := [.int n]) rfl rfl hc
  have hcallr : eCall 1 m__law_is_right [eVar 1] [s, .shr (.int n), .own (.lst ((cnt n n).map .int)), s3', .no] = some (.bl true, [s, .shr (.int n), .own (.lst ((cnt n n).map .int)), s3', .no]) := call_of (ds := [.int n]) rfl rfl hr
  have h2a : evA [.b 2, .v (eCall 1 m__law_counts [eVar 1])] [s, .shr (.int n), .own (.lst ((cnt n n).map .int)), s3', .no] = some ([.lst ((cnt n n).map .int), .lst ((cnt n n).map .int)], [s, .shr (.int n), .own (.lst ((cnt n n).map .int)), s3', .no]) := by
    simp only [evA, peek, hcall, List.getElem?_cons_succ, List.getElem?_cons_zero, Option.bind_some]
  have hne : dNe [.lst ((cnt n n).map .int), .lst ((cnt n n).map .int)] = some (.bl false) := by
    have ho : okD (.lst ((cnt n n).map D.int)) 64 = true := by rw [okD, okDs_ints]; rfl
    unfold dNe
    simp only
    rw [ho, deq, deqL_refl]
    rfl
  exact (or_f (tB_of (app_of h2a hne))).trans (tNo_of (tTr_of hcallr rfl))
theorem partA (s : PL.Slot) : ∃ a b c, forGo (gN 1) bodyA (rngD 1 10) [s, .no, .no, .no, .no] = some (.nx, [s, a, b, c, .no]) ∧ (b = .no ∨ ∃ d, b = .own d) := by
  obtain ⟨e, hf, s1, s2, s3, he, _, h2, _⟩ := for_inv (g := gN 1) (body := bodyA) (rngD 1 10) (fun _ env => ∃ s1 s2 s3 : PL.Slot, env = [s, s1, s2, s3, .no] ∧ fr3 s1 ∧ (s2 = .no ∨ ∃ d, s2 = .own d) ∧ fr3 s3) [s, .no, .no, .no, .no] ⟨.no, .no, .no, rfl, .inl rfl, .inl rfl, .inl rfl⟩ (fun i d env hd hI => by
    obtain ⟨s1, s2, s3, rfl, h1, h2, h3⟩ := hI
    have hi : i < 10 := by have := (List.getElem?_eq_some_iff.mp hd).1; rw [rngD_len] at this; exact this
    rw [rngD_get 10 1 i hi] at hd
    have hd : d = .int ((i + 1 : Nat) : Int) := by cases hd; congr 1; omega
    subst hd
    obtain ⟨s2', s3', hb, h2', h3'⟩ := one_ok (n := i + 1) (by omega) (by omega) s s2 s3 h2 h3
    refine ⟨[s, .shr (.int ((i + 1 : Nat) : Int)), s2, s3, .no], _, .nx, ?_, hb, .inl rfl, _, s2', s3', rfl, .inr ⟨_, rfl⟩, h2', h3'⟩
    rcases h1 with rfl | ⟨d', rfl⟩ <;> rfl)
  subst he
  exact ⟨s1, s2, s3, hf, h2⟩
theorem pick_ok {w : D} {ds : List D} (hw : Wl w) (hl : 1 ≤ ds.length) (hz : ds.length ≤ 1000) (hm : ∀ d ∈ ds, isMutD d = false) : ∃ d w', m__law_pick [w, .tup ds] = some (d, [w', .non]) ∧ d ∈ ds ∧ Wl w' := by
  obtain ⟨r, w', h1, h2, h3, h4⟩ := draw_ok w ds.length hw (by omega) (by omega)
  have hlt : r.toNat < ds.length := by omega
  have e : atI ds r = some ds[r.toNat] := by
    have := atI_lt hlt
    rwa [Int.toNat_of_nonneg h2] at this
  refine ⟨ds[r.toNat], w', ?_, List.getElem_mem hlt, h4⟩
  have hmm := hm _ (List.getElem_mem hlt)
  have hb : b__law_pick [.iow w, .shr (.tup ds)] = some (.rt (!isMutD ds[r.toNat]) ds[r.toNat], [.iow w', .shr (.tup ds)]) := by
    have hio : eCallIo m__law_draw [.io 0, .v (eApp dLen [.v (eVar 1)])] [.iow w, .shr (.tup ds)] = some (.int r, [.iow w', .shr (.tup ds)]) := callIo_of (as := [.io 0, .v (eApp dLen [.v (eVar 1)])]) (e := [.iow w, .shr (.tup ds)]) (ds := [w, .int ds.length]) (os := [w', .non]) rfl h1
    exact ret_of (app_of (ds := [.tup ds, .int r]) (ev2 rfl hio) e)
  show (b__law_pick [.iow w, .shr (.tup ds)]).bind _ = _
  rw [hb, hmm]; rfl

theorem round_ok {w : D} (hw : Wl w) : ∃ w', m__law_right [w] = some (.bl true, [w']) ∧ Wl w' := by
  obtain ⟨e, h1, w', s1, rfl, h2, h3⟩ := for_inv (g := gN 1) (body := sIf (tNo (tTr (.v (eCall 1 m__law_is_right [eCallIo m__law_pick [.io 0, .v (eTup [eApp dAdd [.v (eC (.int 1)), .v (eCallIo m__law_draw [.io 0, .v (eC (.int 60))])], eApp dAdd [.v (eC (.int 1)), .v (eCallIo m__law_draw [.io 0, .v (eC (.int 60))])], eC (.int 59), eC (.int 60)])]])))) (sRetF (eC (.bl false))) (sNop)) (rngD 0 6)
    (fun _ env => ∃ (w' : D) (s1 : PL.Slot), env = [.iow w', s1] ∧ Wl w' ∧ (s1 = .no ∨ ∃ d, s1 = .shr d)) [.iow w, .no] ⟨w, .no, rfl, hw, .inl rfl⟩ (fun i d env hd hI => by
      obtain ⟨w0, s1, rfl, hw0, hs⟩ := hI
      obtain ⟨ra, wa, ha, ha1, ha2, hwa⟩ := draw_ok w0 60 hw0 (by omega) (by omega)
      obtain ⟨rb, wb, hb, hb1, hb2, hwb⟩ := draw_ok wa 60 hwa (by omega) (by omega)
      obtain ⟨q, wc, hc, hq, hwc⟩ := pick_ok (ds := [.int (1 + ra), .int (1 + rb), .int 59, .int 60]) hwb (by simp) (by simp) (by intro d hd; simp at hd; rcases hd with rfl | rfl | rfl | rfl <;> rfl)
      have hn : ∃ n : Nat, q = .int n ∧ 1 ≤ n ∧ n ≤ 60 := by
        simp only [List.mem_cons, List.not_mem_nil, or_false] at hq
        rcases hq with rfl | rfl | rfl | rfl
        · exact ⟨(1 + ra).toNat, by rw [Int.toNat_of_nonneg (by omega)], by omega, by omega⟩
        · exact ⟨(1 + rb).toNat, by rw [Int.toNat_of_nonneg (by omega)], by omega, by omega⟩
        · exact ⟨59, rfl, by omega, by omega⟩
        · exact ⟨60, rfl, by omega, by omega⟩
      obtain ⟨n, rfl, hn1, hn2⟩ := hn
      have hr := right_all n hn1 hn2
      have e1 : eCallIo m__law_draw [.io 0, .v (eC (.int 60))] [.iow w0, .shr d] = some (.int ra, [.iow wa, .shr d]) := callIo_of (as := [.io 0, .v (eC (.int 60))]) (e := [.iow w0, .shr d]) (ds := [w0, .int 60]) (os := [wa, .non]) rfl ha
      have e2 : eCallIo m__law_draw [.io 0, .v (eC (.int 60))] [.iow wa, .shr d] = some (.int rb, [.iow wb, .shr d]) := callIo_of (as := [.io 0, .v (eC (.int 60))]) (e := [.iow wa, .shr d]) (ds := [wa, .int 60]) (os := [wb, .non]) rfl hb
      have e3 : eTup [eApp dAdd [.v (eC (.int 1)), .v (eCallIo m__law_draw [.io 0, .v (eC (.int 60))])], eApp dAdd [.v (eC (.int 1)), .v (eCallIo m__law_draw [.io 0, .v (eC (.int 60))])], eC (.int 59), eC (.int 60)] [.iow w0, .shr d] = some (.tup [.int (1 + ra), .int (1 + rb), .int 59, .int 60], [.iow wb, .shr d]) :=
        tup_of (evLc (app_of (ds := [.int 1, .int ra]) (ev2 rfl e1) rfl) (evLc (app_of (ds := [.int 1, .int rb]) (ev2 rfl e2) rfl) rfl))
      have e4 : eCallIo m__law_pick [.io 0, .v (eTup [eApp dAdd [.v (eC (.int 1)), .v (eCallIo m__law_draw [.io 0, .v (eC (.int 60))])], eApp dAdd [.v (eC (.int 1)), .v (eCallIo m__law_draw [.io 0, .v (eC (.int 60))])], eC (.int 59), eC (.int 60)])] [.iow w0, .shr d] = some (.int n, [.iow wc, .shr d]) := by
        refine callIo_of (e := [.iow wb, .shr d]) (ds := [wb, .tup [.int (1 + ra), .int (1 + rb), .int 59, .int 60]]) (os := [wc, .non]) ?_ hc
        simp only [evC, ownD, List.getElem?_cons_zero, Option.bind_some, e3]
      refine ⟨[.iow w0, .shr d], [.iow wc, .shr d], .nx, ?_, ?_, .inl rfl, wc, .shr d, rfl, hwc, .inr ⟨d, rfl⟩⟩
      · rcases hs with rfl | ⟨d', rfl⟩ <;> rfl
      · exact (if_f (tNo_of (b := true) (tTr_of (call_of (evLc e4 evL0) rfl hr) rfl))).trans rfl)
  refine ⟨w', ?_, h2⟩
  have hb : b__law_right [.iow w] = none ∨ True := .inr trivial
  have hb : b__law_right [.iow w, .no] = some (.rt true (.bl true), [.iow w', s1]) := (seq_nx (for_nx rfl h1)).trans rfl
  show (b__law_right [.iow w, .no]).bind _ = _
  rw [hb]; rfl
theorem main_law (ns : List Int) (h : ns.length ≤ 63) : m_law [.lst (ns.map .int)] = some (.bl true) := by
  obtain ⟨a, b, c, hA, _⟩ := partA (.shr (.lst (ns.map .int)))
  obtain ⟨n4, hn4, hn5⟩ : ∃ n : Nat, eApp dMax [.v (eC (.int 2)), .v (eApp dMin [.v (eApp dLen [.v (eVar 0)]), .v (eC (.int 4))])] [.shr (.lst (ns.map .int)), a, b, c, .no] = some (.int n, [.shr (.lst (ns.map .int)), a, b, c, .no]) ∧ n ≤ 4 := by
    refine ⟨max 2 (min ns.length 4), ?_, by omega⟩
    have e1 : (if (4 : Int) < (ns.length : Int) then (4 : Int) else ns.length) = ((min ns.length 4 : Nat) : Int) := by split <;> omega
    have e2 : (if ((min ns.length 4 : Nat) : Int) > 2 then ((min ns.length 4 : Nat) : Int) else 2) = ((max 2 (min ns.length 4) : Nat) : Int) := by split <;> omega
    have e3 : eApp dLen [.v (eVar 0)] [.shr (.lst (ns.map .int)), a, b, c, .no] = some (.int ns.length, [.shr (.lst (ns.map .int)), a, b, c, .no]) := app_of (ds := [.lst (ns.map .int)]) rfl (by show some (D.int ((ns.map D.int).length : Nat)) = _; rw [List.length_map])
    refine app_of (ev2 rfl (app_of (ev2 e3 rfl) (show dMin [.int ns.length, .int 4] = some (.int (min ns.length 4 : Nat)) from ?_))) ?_
    · show some (D.int (if (4 : Int) < (ns.length : Int) then (4 : Int) else ns.length)) = _
      rw [e1]
    · show some (D.int (if ((min ns.length 4 : Nat) : Int) > 2 then ((min ns.length 4 : Nat) : Int) else 2)) = _
      rw [e2]
  have hlc := lc_map (vs := [4]) (g := gN 4) (t := tTrue) (m := eCallIo m__law_right [.t (eCall 2 m__law_pot [eVar 0, eVar 4])]) (rngD 0 n4) [.shr (.lst (ns.map .int)), a, b, c, .no] (fun _ => .bl true) (fun d hd => by
    obtain ⟨i, hi, rfl⟩ := mem_rngD hd
    rw [Int.zero_add]
    obtain ⟨w, hw, hW⟩ := pot_ok ns i h (by omega)
    obtain ⟨w', hw', _⟩ := round_ok hW
    obtain ⟨x, y, z, rfl, _⟩ := hW
    refine ⟨[.shr (.lst (ns.map .int)), a, b, c, .shr (.int i)], [.shr (.lst (ns.map .int)), a, b, c, .shr (.int i)], [.shr (.lst (ns.map .int)), a, b, c, .shr (.int i)], rfl, rfl, ?_, rfl⟩
    have e1 : eCall 2 m__law_pot [eVar 0, eVar 4] [.shr (.lst (ns.map .int)), a, b, c, .shr (.int i)] = some (.lst [.int x, .int y, .int z], [.shr (.lst (ns.map .int)), a, b, c, .shr (.int i)]) := call_of (evLc rfl (evLc rfl evL0)) rfl hw
    refine callIo_of (e := [.shr (.lst (ns.map .int)), a, b, c, .shr (.int i)]) (ds := [.lst [.int x, .int y, .int z]]) (os := [w']) ?_ hw'
    simp only [evC, e1, Option.bind_some, isMutD, if_true])
  rw [map_rep, rngD_len] at hlc
  have hb : b_law [.shr (.lst (ns.map .int)), .no, .no, .no, .no] = some (.rt true (.bl true), [.shr (.lst (ns.map .int)), a, b, c, .no]) := by
    refine (seq_nx (for_nx (ds := rngD 1 10) (e1 := [.shr (.lst (ns.map .int)), .no, .no, .no, .no]) rfl hA)).trans (retF_of (app_of (ev1 (lc_of (r1_of hn4 (by omega)) (by rw [rngD_len]; omega) rfl hlc)) ?_))
    show (blsD _).map _ = _
    rw [blsD_rep]
    show some (D.bl _) = _
    rw [all_rep]
  exact runP_of rfl hb rfl
end K75
end

section
set_option maxRecDepth 100000
set_option maxHeartbeats 4000000
namespace K75
open PySem PySem.Spec PyProof.Rows L2 PL

theorem all_mk {l : PySem.W.OpenLaw} {w : World} {K : PySem.W.Frag} {h : Heap} {mg : Str → Option Value} {fa : Addr} (X : K.In h) (G : h.Ns mainGlobals mg) (hfa : mg "law" = some (.ref fa))
    {f0 : Addr} {od0 an0 : Option Addr} {sl0 : Array (Option Value)} {oc0 kV0 dc0 pm0 cd0 ct0 : Value}
    (a0 : PySem.W.nsIn K mainGlobals "_law_pot" = some (some (.ref f0))) (l0 : K.lookup f0 = some ⟨oc0, od0, .func (PySem.W.fnOf "_law_pot" "_law_pot" (defArgs s__law_pot) (defBody s__law_pot) (defScope s__law_pot) .none kV0 dc0 pm0 an0 cd0 ct0), sl0⟩) (c0 : PySem.W.codeIn K cd0 "_law_pot" = true) (k0 : PySem.W.keepIn K (.ref f0) = true)
    {f1 : Addr} {od1 an1 : Option Addr} {sl1 : Array (Option Value)} {oc1 kV1 dc1 pm1 cd1 ct1 : Value}
    (a1 : PySem.W.nsIn K mainGlobals "_law_all" = some (some (.ref f1))) (l1 : K.lookup f1 = some ⟨oc1, od1, .func (PySem.W.fnOf "_law_all" "_law_all" (defArgs s__law_all) (defBody s__law_all) (defScope s__law_all) .none kV1 dc1 pm1 an1 cd1 ct1), sl1⟩) (c1 : PySem.W.codeIn K cd1 "_law_all" = true) (k1 : PySem.W.keepIn K (.ref f1) = true)
    {f2 : Addr} {od2 an2 : Option Addr} {sl2 : Array (Option Value)} {oc2 kV2 dc2 pm2 cd2 ct2 : Value}
    (a2 : PySem.W.nsIn K mainGlobals "_law_sum" = some (some (.ref f2))) (l2 : K.lookup f2 = some ⟨oc2, od2, .func (PySem.W.fnOf "_law_sum" "_law_sum" (defArgs s__law_sum) (defBody s__law_sum) (defScope s__law_sum) .none kV2 dc2 pm2 an2 cd2 ct2), sl2⟩) (c2 : PySem.W.codeIn K cd2 "_law_sum" = true) (k2 : PySem.W.keepIn K (.ref f2) = true)
    {f3 : Addr} {od3 an3 : Option Addr} {sl3 : Array (Option Value)} {oc3 kV3 dc3 pm3 cd3 ct3 : Value}
    (a3 : PySem.W.nsIn K mainGlobals "_law_counts" = some (some (.ref f3))) (l3 : K.lookup f3 = some ⟨oc3, od3, .func (PySem.W.fnOf "_law_counts" "_law_counts" (defArgs s__law_counts) (defBody s__law_counts) (defScope s__law_counts) .none kV3 dc3 pm3 an3 cd3 ct3), sl3⟩) (c3 : PySem.W.codeIn K cd3 "_law_counts" = true) (k3 : PySem.W.keepIn K (.ref f3) = true)
    {f4 : Addr} {od4 an4 : Option Addr} {sl4 : Array (Option Value)} {oc4 kV4 dc4 pm4 cd4 ct4 : Value}
    (a4 : PySem.W.nsIn K mainGlobals "is_whole" = some (some (.ref f4))) (l4 : K.lookup f4 = some ⟨oc4, od4, .func (PySem.W.fnOf "is_whole" "is_whole" (defArgs s_is_whole) (defBody s_is_whole) (defScope s_is_whole) .none kV4 dc4 pm4 an4 cd4 ct4), sl4⟩) (c4 : PySem.W.codeIn K cd4 "is_whole" = true) (k4 : PySem.W.keepIn K (.ref f4) = true)
    {f5 : Addr} {od5 an5 : Option Addr} {sl5 : Array (Option Value)} {oc5 kV5 dc5 pm5 cd5 ct5 : Value}
    (a5 : PySem.W.nsIn K mainGlobals "is_between" = some (some (.ref f5))) (l5 : K.lookup f5 = some ⟨oc5, od5, .func (PySem.W.fnOf "is_between" "is_between" (defArgs s_is_between) (defBody s_is_between) (defScope s_is_between) .none kV5 dc5 pm5 an5 cd5 ct5), sl5⟩) (c5 : PySem.W.codeIn K cd5 "is_between" = true) (k5 : PySem.W.keepIn K (.ref f5) = true)
    {f6 : Addr} {od6 an6 : Option Addr} {sl6 : Array (Option Value)} {oc6 kV6 dc6 pm6 cd6 ct6 : Value}
    (a6 : PySem.W.nsIn K mainGlobals "check_number" = some (some (.ref f6))) (l6 : K.lookup f6 = some ⟨oc6, od6, .func (PySem.W.fnOf "check_number" "check_number" (defArgs s_check_number) (defBody s_check_number) (defScope s_check_number) .none kV6 dc6 pm6 an6 cd6 ct6), sl6⟩) (c6 : PySem.W.codeIn K cd6 "check_number" = true) (k6 : PySem.W.keepIn K (.ref f6) = true)
    {f7 : Addr} {od7 an7 : Option Addr} {sl7 : Array (Option Value)} {oc7 kV7 dc7 pm7 cd7 ct7 : Value}
    (a7 : PySem.W.nsIn K mainGlobals "sum_counts" = some (some (.ref f7))) (l7 : K.lookup f7 = some ⟨oc7, od7, .func (PySem.W.fnOf "sum_counts" "sum_counts" (defArgs s_sum_counts) (defBody s_sum_counts) (defScope s_sum_counts) .none kV7 dc7 pm7 an7 cd7 ct7), sl7⟩) (c7 : PySem.W.codeIn K cd7 "sum_counts" = true) (k7 : PySem.W.keepIn K (.ref f7) = true)
    {f8 : Addr} {od8 an8 : Option Addr} {sl8 : Array (Option Value)} {oc8 kV8 dc8 pm8 cd8 ct8 : Value}
    (a8 : PySem.W.nsIn K mainGlobals "sum_count" = some (some (.ref f8))) (l8 : K.lookup f8 = some ⟨oc8, od8, .func (PySem.W.fnOf "sum_count" "sum_count" (defArgs s_sum_count) (defBody s_sum_count) (defScope s_sum_count) .none kV8 dc8 pm8 an8 cd8 ct8), sl8⟩) (c8 : PySem.W.codeIn K cd8 "sum_count" = true) (k8 : PySem.W.keepIn K (.ref f8) = true)
    {f9 : Addr} {od9 an9 : Option Addr} {sl9 : Array (Option Value)} {oc9 kV9 dc9 pm9 cd9 ct9 : Value}
    (a9 : PySem.W.nsIn K mainGlobals "_law_same" = some (some (.ref f9))) (l9 : K.lookup f9 = some ⟨oc9, od9, .func (PySem.W.fnOf "_law_same" "_law_same" (defArgs s__law_same) (defBody s__law_same) (defScope s__law_same) .none kV9 dc9 pm9 an9 cd9 ct9), sl9⟩) (c9 : PySem.W.codeIn K cd9 "_law_same" = true) (k9 : PySem.W.keepIn K (.ref f9) = true)
    {f10 : Addr} {od10 an10 : Option Addr} {sl10 : Array (Option Value)} {oc10 kV10 dc10 pm10 cd10 ct10 : Value}
    (a10 : PySem.W.nsIn K mainGlobals "_law_common" = some (some (.ref f10))) (l10 : K.lookup f10 = some ⟨oc10, od10, .func (PySem.W.fnOf "_law_common" "_law_common" (defArgs s__law_common) (defBody s__law_common) (defScope s__law_common) .none kV10 dc10 pm10 an10 cd10 ct10), sl10⟩) (c10 : PySem.W.codeIn K cd10 "_law_common" = true) (k10 : PySem.W.keepIn K (.ref f10) = true)
    {f11 : Addr} {od11 an11 : Option Addr} {sl11 : Array (Option Value)} {oc11 kV11 dc11 pm11 cd11 ct11 : Value}
    (a11 : PySem.W.nsIn K mainGlobals "_law_first" = some (some (.ref f11))) (l11 : K.lookup f11 = some ⟨oc11, od11, .func (PySem.W.fnOf "_law_first" "_law_first" (defArgs s__law_first) (defBody s__law_first) (defScope s__law_first) .none kV11 dc11 pm11 an11 cd11 ct11), sl11⟩) (c11 : PySem.W.codeIn K cd11 "_law_first" = true) (k11 : PySem.W.keepIn K (.ref f11) = true)
    {f12 : Addr} {od12 an12 : Option Addr} {sl12 : Array (Option Value)} {oc12 kV12 dc12 pm12 cd12 ct12 : Value}
    (a12 : PySem.W.nsIn K mainGlobals "_law_is_right" = some (some (.ref f12))) (l12 : K.lookup f12 = some ⟨oc12, od12, .func (PySem.W.fnOf "_law_is_right" "_law_is_right" (defArgs s__law_is_right) (defBody s__law_is_right) (defScope s__law_is_right) .none kV12 dc12 pm12 an12 cd12 ct12), sl12⟩) (c12 : PySem.W.codeIn K cd12 "_law_is_right" = true) (k12 : PySem.W.keepIn K (.ref f12) = true)
    {f13 : Addr} {od13 an13 : Option Addr} {sl13 : Array (Option Value)} {oc13 kV13 dc13 pm13 cd13 ct13 : Value}
    (a13 : PySem.W.nsIn K mainGlobals "_law_draw" = some (some (.ref f13))) (l13 : K.lookup f13 = some ⟨oc13, od13, .func (PySem.W.fnOf "_law_draw" "_law_draw" (defArgs s__law_draw) (defBody s__law_draw) (defScope s__law_draw) .none kV13 dc13 pm13 an13 cd13 ct13), sl13⟩) (c13 : PySem.W.codeIn K cd13 "_law_draw" = true) (k13 : PySem.W.keepIn K (.ref f13) = true)
    {f14 : Addr} {od14 an14 : Option Addr} {sl14 : Array (Option Value)} {oc14 kV14 dc14 pm14 cd14 ct14 : Value}
    (a14 : PySem.W.nsIn K mainGlobals "_law_pick" = some (some (.ref f14))) (l14 : K.lookup f14 = some ⟨oc14, od14, .func (PySem.W.fnOf "_law_pick" "_law_pick" (defArgs s__law_pick) (defBody s__law_pick) (defScope s__law_pick) .none kV14 dc14 pm14 an14 cd14 ct14), sl14⟩) (c14 : PySem.W.codeIn K cd14 "_law_pick" = true) (k14 : PySem.W.keepIn K (.ref f14) = true)
    {f15 : Addr} {od15 an15 : Option Addr} {sl15 : Array (Option Value)} {oc15 kV15 dc15 pm15 cd15 ct15 : Value}
    (a15 : PySem.W.nsIn K mainGlobals "_law_right" = some (some (.ref f15))) (l15 : K.lookup f15 = some ⟨oc15, od15, .func (PySem.W.fnOf "_law_right" "_law_right" (defArgs s__law_right) (defBody s__law_right) (defScope s__law_right) .none kV15 dc15 pm15 an15 cd15 ct15), sl15⟩) (c15 : PySem.W.codeIn K cd15 "_law_right" = true) (k15 : PySem.W.keepIn K (.ref f15) = true)
    {f16 : Addr} {od16 an16 : Option Addr} {sl16 : Array (Option Value)} {oc16 kV16 dc16 pm16 cd16 ct16 : Value}
    (a16 : PySem.W.nsIn K mainGlobals "law" = some (some (.ref f16))) (l16 : K.lookup f16 = some ⟨oc16, od16, .func (PySem.W.fnOf "law" "law" (defArgs s_law) (defBody s_law) (defScope s_law) .none kV16 dc16 pm16 an16 cd16 ct16), sl16⟩) (c16 : PySem.W.codeIn K cd16 "law" = true) (k16 : PySem.W.keepIn K (.ref f16) = true)
    (z_abs : PySem.W.nsIn K mainGlobals "abs" = some none)
    (z_all : PySem.W.nsIn K mainGlobals "all" = some none)
    (z_bool : PySem.W.nsIn K mainGlobals "bool" = some none)
    (z_divmod : PySem.W.nsIn K mainGlobals "divmod" = some none)
    (z_enumerate : PySem.W.nsIn K mainGlobals "enumerate" = some none)
    (z_int : PySem.W.nsIn K mainGlobals "int" = some none)
    (z_isinstance : PySem.W.nsIn K mainGlobals "isinstance" = some none)
    (z_len : PySem.W.nsIn K mainGlobals "len" = some none)
    (z_list : PySem.W.nsIn K mainGlobals "list" = some none)
    (z_max : PySem.W.nsIn K mainGlobals "max" = some none)
    (z_min : PySem.W.nsIn K mainGlobals "min" = some none)
    (z_range : PySem.W.nsIn K mainGlobals "range" = some none)
    (z_str : PySem.W.nsIn K mainGlobals "str" = some none)
    (z_sum : PySem.W.nsIn K mainGlobals "sum" = some none)
    (z_tuple : PySem.W.nsIn K mainGlobals "tuple" = some none)
    {t_MOST_COUNTED : Tok} (g_MOST_COUNTED : PySem.W.nsIn K mainGlobals "MOST_COUNTED" = some (some (.int 60 t_MOST_COUNTED))) :
    ∃ fd : FuncData, (∀ (s : Shared) (v : Value), BindsTo s fd ⟨[v], []⟩ [("script", v)]) ∧ ∀ base : Heap, K.In base → base.Ns mainGlobals mg → FnOk l.prog w K mg base CX0 12 fa fd ["script"] (spF K 1 true m_law) := by
  have e := hfa.symm.trans (PySem.W.mg_of X G a16)
  cases e
  have h_abs := PySem.W.mg_none_of X G z_abs
  have h_all := PySem.W.mg_none_of X G z_all
  have h_bool := PySem.W.mg_none_of X G z_bool
  have h_divmod := PySem.W.mg_none_of X G z_divmod
  have h_enumerate := PySem.W.mg_none_of X G z_enumerate
  have h_int := PySem.W.mg_none_of X G z_int
  have h_isinstance := PySem.W.mg_none_of X G z_isinstance
  have h_len := PySem.W.mg_none_of X G z_len
  have h_list := PySem.W.mg_none_of X G z_list
  have h_max := PySem.W.mg_none_of X G z_max
  have h_min := PySem.W.mg_none_of X G z_min
  have h_range := PySem.W.mg_none_of X G z_range
  have h_str := PySem.W.mg_none_of X G z_str
  have h_sum := PySem.W.mg_none_of X G z_sum
  have h_tuple := PySem.W.mg_none_of X G z_tuple
  have h_MOST_COUNTED := glob_of (v := .int 60) (d := .int (60)) X G g_MOST_COUNTED ⟨_, rfl⟩ (fun _ _ => .int _)
  have F__law_pot := fun_mk (st := s__law_pot) l0 c0 k0
  have C__law_pot : ∀ base : Heap, Callee l.prog w K mg base "_law_pot" 1 ["script", "turn"] [] (spF K 2 true m__law_pot) := fun base => Callee.of F__law_pot (PySem.W.mg_of X G a0) (ok__law_pot F__law_pot h_abs h_int h_len h_sum) (fun _ _ _ _ _ _ us hl => match us, hl with | [_, _], _ => rfl)
  have F__law_all := fun_mk (st := s__law_all) l1 c1 k1
  have C__law_all : ∀ base : Heap, Callee l.prog w K mg base "_law_all" 1 ["many"] [] (spF K 1 false m__law_all) := fun base => Callee.of F__law_all (PySem.W.mg_of X G a1) (ok__law_all F__law_all h_range) (fun _ _ _ _ _ _ us hl => match us, hl with | [_], _ => rfl)
  have F__law_sum := fun_mk (st := s__law_sum) l2 c2 k2
  have C__law_sum : ∀ base : Heap, Callee l.prog w K mg base "_law_sum" 1 ["card"] [] (spF K 1 true m__law_sum) := fun base => Callee.of F__law_sum (PySem.W.mg_of X G a2) (ok__law_sum F__law_sum h_enumerate h_int h_len h_sum) (fun _ _ _ _ _ _ us hl => match us, hl with | [_], _ => rfl)
  have F__law_counts := fun_mk (st := s__law_counts) l3 c3 k3
  have C__law_counts : ∀ base : Heap, Callee l.prog w K mg base "_law_counts" 1 ["many"] [] (spF K 1 true m__law_counts) := fun base => Callee.of F__law_counts (PySem.W.mg_of X G a3) (ok__law_counts F__law_counts h_int h_range) (fun _ _ _ _ _ _ us hl => match us, hl with | [_], _ => rfl)
  have F_is_whole := fun_mk (st := s_is_whole) l4 c4 k4
  have C_is_whole : ∀ base : Heap, Callee l.prog w K mg base "is_whole" 1 ["value"] [] (spF K 1 true m_is_whole) := fun base => Callee.of F_is_whole (PySem.W.mg_of X G a4) (ok_is_whole F_is_whole h_bool h_int h_isinstance) (fun _ _ _ _ _ _ us hl => match us, hl with | [_], _ => rfl)
  have F_is_between := fun_mk (st := s_is_between) l5 c5 k5
  have C_is_between : ∀ base : Heap, Callee l.prog w K mg base "is_between" 2 ["value", "low", "high"] [] (spF K 3 true m_is_between) := fun base => Callee.of F_is_between (PySem.W.mg_of X G a5) (ok_is_between F_is_between (C_is_whole base)) (fun _ _ _ _ _ _ us hl => match us, hl with | [_, _, _], _ => rfl)
  have F_check_number := fun_mk (st := s_check_number) l6 c6 k6
  have C_check_number : ∀ base : Heap, Callee l.prog w K mg base "check_number" 3 ["value", "low", "high"] [] (spF K 3 true m_check_number) := fun base => Callee.of F_check_number (PySem.W.mg_of X G a6) (ok_check_number F_check_number (C_is_between base)) (fun _ _ _ _ _ _ us hl => match us, hl with | [_, _, _], _ => rfl)
  have F_sum_counts := fun_mk (st := s_sum_counts) l7 c7 k7
  have C_sum_counts : ∀ base : Heap, Callee l.prog w K mg base "sum_counts" 1 ["many"] [] (spF K 1 true m_sum_counts) := fun base => Callee.of F_sum_counts (PySem.W.mg_of X G a7) (ok_sum_counts F_sum_counts h_range) (fun _ _ _ _ _ _ us hl => match us, hl with | [_], _ => rfl)
  have F_sum_count := fun_mk (st := s_sum_count) l8 c8 k8
  have C_sum_count : ∀ base : Heap, Callee l.prog w K mg base "sum_count" 4 ["number", "rest"] [(["rest", "number"], [1, 0])] (spF K 2 true m_sum_count) := fun base => Callee.kw F_sum_count (PySem.W.mg_of X G a8) (ok_sum_count F_sum_count h_MOST_COUNTED (C_check_number base) (C_sum_counts base)) (fun _ _ _ _ _ _ us hl => match us, hl with | [_, _], _ => rfl) (by
    intro _ _ _ _ _ _ q hq ws hl
    simp only [List.mem_cons, List.not_mem_nil, or_false] at hq
    rcases hq with rfl
    all_goals exact match ws, hl with | [_, _], _ => rfl)
  have F__law_same := fun_mk (st := s__law_same) l9 c9 k9
  have C__law_same : ∀ base : Heap, Callee l.prog w K mg base "_law_same" 9 ["told", "due"] [] (spF K 2 true (m__law_same 8)) := fun base => Callee.of F__law_same (PySem.W.mg_of X G a9) (ok__law_same F__law_same (PySem.W.mg_of X G a9) (F__law_same.binds (ps := ["told", "due"]) (fun _ _ _ _ _ _ us hl => match us, hl with | [_, _], _ => rfl)) h_all h_bool h_int h_isinstance h_len h_list h_range h_str h_tuple 8) (fun _ _ _ _ _ _ us hl => match us, hl with | [_, _], _ => rfl)
  have F__law_common := fun_mk (st := s__law_common) l10 c10 k10
  have C__law_common : ∀ base : Heap, Callee l.prog w K mg base "_law_common" 1 ["one", "other"] [] (spF K 2 true m__law_common) := fun base => Callee.of F__law_common (PySem.W.mg_of X G a10) (ok__law_common F__law_common h_int) (fun _ _ _ _ _ _ us hl => match us, hl with | [_, _], _ => rfl)
  have F__law_first := fun_mk (st := s__law_first) l11 c11 k11
  have C__law_first : ∀ base : Heap, Callee l.prog w K mg base "_law_first" 2 ["many"] [] (spF K 1 true m__law_first) := fun base => Callee.of F__law_first (PySem.W.mg_of X G a11) (ok__law_first F__law_first h_int h_len h_range (C__law_common base)) (fun _ _ _ _ _ _ us hl => match us, hl with | [_], _ => rfl)
  have F__law_is_right := fun_mk (st := s__law_is_right) l12 c12 k12
  have C__law_is_right : ∀ base : Heap, Callee l.prog w K mg base "_law_is_right" 10 ["many"] [] (spF K 1 true m__law_is_right) := fun base => Callee.of F__law_is_right (PySem.W.mg_of X G a12) (ok__law_is_right F__law_is_right h_int h_max h_range h_sum (C__law_common base) (C__law_counts base) (C__law_first base) (C__law_same base) (C_sum_count base)) (fun _ _ _ _ _ _ us hl => match us, hl with | [_], _ => rfl)
  have F__law_draw := fun_mk (st := s__law_draw) l13 c13 k13
  have C__law_draw : ∀ base : Heap, Callee l.prog w K mg base "_law_draw" 1 ["pot", "many"] [] (spP K ⟨[true, false], true⟩ m__law_draw) := fun base => Callee.of F__law_draw (PySem.W.mg_of X G a13) (ok__law_draw F__law_draw h_divmod h_int) (fun _ _ _ _ _ _ us hl => match us, hl with | [_, _], _ => rfl)
  have F__law_pick := fun_mk (st := s__law_pick) l14 c14 k14
  have C__law_pick : ∀ base : Heap, Callee l.prog w K mg base "_law_pick" 2 ["pot", "some"] [] (spP K ⟨[true, false], true⟩ m__law_pick) := fun base => Callee.of F__law_pick (PySem.W.mg_of X G a14) (ok__law_pick F__law_pick h_len (C__law_draw base)) (fun _ _ _ _ _ _ us hl => match us, hl with | [_, _], _ => rfl)
  have F__law_right := fun_mk (st := s__law_right) l15 c15 k15
  have C__law_right : ∀ base : Heap, Callee l.prog w K mg base "_law_right" 11 ["pot"] [] (spP K ⟨[true], true⟩ m__law_right) := fun base => Callee.of F__law_right (PySem.W.mg_of X G a15) (ok__law_right F__law_right h_range (C__law_draw base) (C__law_is_right base) (C__law_pick base)) (fun _ _ _ _ _ _ us hl => match us, hl with | [_], _ => rfl)
  have F_law := fun_mk (st := s_law) l16 c16 k16
  exact ⟨PySem.W.fnOf "law" "law" (defArgs s_law) (defBody s_law) (defScope s_law) .none kV16 dc16 pm16 an16 cd16 ct16, fun s v => .of_eq rfl, fun base _ _ => ok_law F_law h_all h_len h_max h_min h_range (C__law_all base) (C__law_counts base) (C__law_is_right base) (C__law_pot base) (C__law_right base) (C__law_sum base)⟩
def spLaw (K : PySem.W.Frag) : Sp := spF K 1 true m_law
end K75
open PySem PySem.W PyProof.Rows
set_option maxHeartbeats 0 in
theorem PySem.Challenge.cw_notchdeck_k75_whole_counts_of_sums_holds : PySem.Challenge.rw_notchdeck_k75_whole_counts_of_sums.Holds := by
  w_on; o_law; k_head; (case hw => w_witness2)
  k_fill
  refine L2.walk_of (l := PySem.Challenge.rw_notchdeck_k75_whole_counts_of_sums) (n := 63) (k := 12) (x := "script") (CX := fun _ => L2.CX0) (sp := fun w => K75.spLaw _) rfl (by decide) rfl ⟨rfl, by decide, by decide⟩ (fun w h Y => PySem.W.kIn_of Y) ?F (fun _ _ a ns hl _ hS => PL.law_sp (E := fun _ _ _ => False) hS (K75.main_law ns hl)) (fun _ _ _ _ _ h => h)
  case F =>
    intro w mg fa h KX G hmg
    refine' K75.all_mk KX G hmg ?a0 ?l0 ?c0 ?k0 ?a1 ?l1 ?c1 ?k1 ?a2 ?l2 ?c2 ?k2 ?a3 ?l3 ?c3 ?k3 ?a4 ?l4 ?c4 ?k4 ?a5 ?l5 ?c5 ?k5 ?a6 ?l6 ?c6 ?k6 ?a7 ?l7 ?c7 ?k7 ?a8 ?l8 ?c8 ?k8 ?a9 ?l9 ?c9 ?k9 ?a10 ?l10 ?c10 ?k10 ?a11 ?l11 ?c11 ?k11 ?a12 ?l12 ?c12 ?k12 ?a13 ?l13 ?c13 ?k13 ?a14 ?l14 ?c14 ?k14 ?a15 ?l15 ?c15 ?k15 ?a16 ?l16 ?c16 ?k16 ?z_abs ?z_all ?z_bool ?z_divmod ?z_enumerate ?z_int ?z_isinstance ?z_len ?z_list ?z_max ?z_min ?z_range ?z_str ?z_sum ?z_tuple ?g_MOST_COUNTED
    (case a0 => k_is); (case l0 => k_is); (case c0 => k_is); (case k0 => k_is); (case a1 => k_is); (case l1 => k_is); (case c1 => k_is); (case k1 => k_is); (case a2 => k_is); (case l2 => k_is); (case c2 => k_is); (case k2 => k_is); (case a3 => k_is); (case l3 => k_is); (case c3 => k_is); (case k3 => k_is); (case a4 => k_is); (case l4 => k_is); (case c4 => k_is); (case k4 => k_is); (case a5 => k_is); (case l5 => k_is); (case c5 => k_is); (case k5 => k_is); (case a6 => k_is); (case l6 => k_is); (case c6 => k_is); (case k6 => k_is); (case a7 => k_is); (case l7 => k_is); (case c7 => k_is); (case k7 => k_is); (case a8 => k_is); (case l8 => k_is); (case c8 => k_is); (case k8 => k_is); (case a9 => k_is); (case l9 => k_is); (case c9 => k_is); (case k9 => k_is); (case a10 => k_is); (case l10 => k_is); (case c10 => k_is); (case k10 => k_is); (case a11 => k_is); (case l11 => k_is); (case c11 => k_is); (case k11 => k_is); (case a12 => k_is); (case l12 => k_is); (case c12 => k_is); (case k12 => k_is); (case a13 => k_is); (case l13 => k_is); (case c13 => k_is); (case k13 => k_is); (case a14 => k_is); (case l14 => k_is); (case c14 => k_is); (case k14 => k_is); (case a15 => k_is); (case l15 => k_is); (case c15 => k_is); (case k15 => k_is); (case a16 => k_is); (case l16 => k_is); (case c16 => k_is); (case k16 => k_is); (case z_abs => k_is); (case z_all => k_is); (case z_bool => k_is); (case z_divmod => k_is); (case z_enumerate => k_is); (case z_int => k_is); (case z_isinstance => k_is); (case z_len => k_is); (case z_list => k_is); (case z_max => k_is); (case z_min => k_is); (case z_range => k_is); (case z_str => k_is); (case z_sum => k_is); (case z_tuple => k_is); (case g_MOST_COUNTED => k_is)
end
