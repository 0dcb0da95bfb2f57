import PyProof.Rows.All
import Wide.All
import OpenK.AllK
import Wide.FinOn
import HandS.ForMost
import HandS.Walk
import HandS.Exc
import HandS.TupAny
import HandS.TupMul
import HandS.TupLe
import HandS.Wide
import HandS.Deep
import HandS.IsInst
import HandS.Conv
import HandS.SortInts
import HandS.RaiseMore
import HandS.CallSlots
import KE.GoesMore
import HandS.Zip
import HandS.Style
import HandS.Head0
import HandS.Head1
import HandS.Head2
import HandS.Head3
import HandS.HeadEnd
import HandS.HeadHook1
import HandS.HeadHook2
import HandS.Defaults
import HandS.Ends
import HandS.Small
import HandS.Codes
import PyProof.FitsInt
import PySem.Challenge.RW_keyriders_k05_whole_deeds_done_and_twice
set_option Elab.async false
set_option linter.all false
set_option maxRecDepth 100000
section
set_option Elab.async false
set_option linter.all false
set_option maxRecDepth 100000
/-! The data layer: values as plain data, the state of a def's body over them. -/
namespace KR
open PySem L2

abbrev D := PyData

def kd : Key → D
  | .inl i => .int i
  | .inr s => .str s

mutual
/-- the value v stands for the datum d, over the frozen part B of the heap -/
def Rp (K : PySem.W.Frag) (B : Hp) : D → V → Prop
  | .none, v => v = .non
  | .bool b, v => v = .bl b
  | .int i, v => v = .int i
  | .str s, v => v = .str s
  | .list ds, v => ∃ a xs, v = .ref a ∧ B a = some (.lst xs) ∧ RpAll K B ds xs
  | .tuple ds, v => ∃ a xs, v = .ref a ∧ SqT K B a xs ∧ RpAll K B ds xs
  | .dict es, v => ∃ a, v = .ref a ∧ ((∃ kvs, B a = some (.dK kvs) ∧ RpDk K B es kvs) ∨ (∃ kvs, B a = some (.dT kvs) ∧ RpDt K B es kvs))
def RpAll (K : PySem.W.Frag) (B : Hp) : List D → List V → Prop
  | [], xs => xs = []
  | d :: ds, xs => ∃ x r, xs = x :: r ∧ Rp K B d x ∧ RpAll K B ds r
def RpDk (K : PySem.W.Frag) (B : Hp) : List (D × D) → List (Key × V) → Prop
  | [], kvs => kvs = []
  | (k, d) :: es, kvs => ∃ kk v r, kvs = (kk, v) :: r ∧ k = kd kk ∧ Rp K B d v ∧ RpDk K B es r
def RpDt (K : PySem.W.Frag) (B : Hp) : List (D × D) → List (List Key × V) → Prop
  | [], kvs => kvs = []
  | (k, d) :: es, kvs => ∃ kk v r, kvs = (kk, v) :: r ∧ k = .tuple (kk.map kd) ∧ Rp K B d v ∧ RpDt K B es r
end

def Sub (B H : Hp) : Prop := ∀ a o, B a = some o → H a = some o
theorem Sub.refl (H : Hp) : Sub H H := fun _ _ h => h
theorem Sub.trans {A B C : Hp} (h : Sub A B) (k : Sub B C) : Sub A C := fun a o e => k a o (h a o e)
theorem Sub.non {B H : Hp} (h : Sub B H) {a : Addr} (e : H a = none) : B a = none := by
  cases q : B a with
  | none => rfl
  | some o => rw [h a o q] at e; cases e
theorem Sub.upd {B H : Hp} {p : Addr} {o : HO} (h : Sub B H) (n : B p = none) : Sub B (upd H p o) := fun a u e => by
  rw [upd_ne (ne_of_none e n)]; exact h a u e
theorem Sub.upd2 {B H : Hp} {p : Addr} {o : HO} (h : Sub B H) : Sub (L2.upd B p o) (L2.upd H p o) := fun a u e => by
  by_cases ha : a = p
  · subst ha; rw [upd_same] at e ⊢; exact e
  · rw [upd_ne ha] at e ⊢; exact h a u e
theorem Sub.new {H : Hp} {p : Addr} {o : HO} (n : H p = none) : Sub H (L2.upd H p o) := (Sub.refl H).upd n
theorem Sub.rd {B H : Hp} (h : Sub B H) {a : Addr} {u : HO} (r : Rd B a u) : Rd H a u := by
  rcases r with r | ⟨o, r⟩
  · exact .inl (h _ _ r)
  · exact .inr ⟨o, h _ _ r⟩
theorem Sub.sqT {K : PySem.W.Frag} {B H : Hp} (h : Sub B H) {a : Addr} {xs : List V} (r : SqT K B a xs) : SqT K H a xs := by
  rcases r with r | r
  · exact .inl (h.rd r)
  · exact .inr r

mutual
theorem Rp.mono {K : PySem.W.Frag} {B B' : Hp} (h : Sub B B') : ∀ {d : D} {v : V}, Rp K B d v → Rp K B' d v
  | .none, _, r => r
  | .bool _, _, r => r
  | .int _, _, r => r
  | .str _, _, r => r
  | .list _, _, ⟨a, xs, e, hb, r⟩ => ⟨a, xs, e, h _ _ hb, RpAll.mono h r⟩
  | .tuple _, _, ⟨a, xs, e, hb, r⟩ => ⟨a, xs, e, h.sqT hb, RpAll.mono h r⟩
  | .dict _, _, ⟨a, e, r⟩ => ⟨a, e, r.elim (fun ⟨kvs, hb, r⟩ => .inl ⟨kvs, h _ _ hb, RpDk.mono h r⟩) (fun ⟨kvs, hb, r⟩ => .inr ⟨kvs, h _ _ hb, RpDt.mono h r⟩)⟩
theorem RpAll.mono {K : PySem.W.Frag} {B B' : Hp} (h : Sub B B') : ∀ {ds : List D} {xs : List V}, RpAll K B ds xs → RpAll K B' ds xs
  | [], _, r => r
  | _ :: _, _, ⟨x, r, e, h1, h2⟩ => ⟨x, r, e, Rp.mono h h1, RpAll.mono h h2⟩
theorem RpDk.mono {K : PySem.W.Frag} {B B' : Hp} (h : Sub B B') : ∀ {es : List (D × D)} {kvs : List (Key × V)}, RpDk K B es kvs → RpDk K B' es kvs
  | [], _, r => r
  | (_, _) :: _, _, ⟨kk, v, r, e, e1, h1, h2⟩ => ⟨kk, v, r, e, e1, Rp.mono h h1, RpDk.mono h h2⟩
theorem RpDt.mono {K : PySem.W.Frag} {B B' : Hp} (h : Sub B B') : ∀ {es : List (D × D)} {kvs : List (List Key × V)}, RpDt K B es kvs → RpDt K B' es kvs
  | [], _, r => r
  | (_, _) :: _, _, ⟨kk, v, r, e, e1, h1, h2⟩ => ⟨kk, v, r, e, e1, Rp.mono h h1, RpDt.mono h h2⟩
end

section
variable {K : PySem.W.Frag} {B : Hp}
theorem RpAll.length : ∀ {ds : List D} {xs : List V}, RpAll K B ds xs → xs.length = ds.length
  | [], _, r => by rw [show _ = [] from r]; rfl
  | _ :: _, _, ⟨x, r, e, _, h2⟩ => by rw [e, List.length_cons, List.length_cons, RpAll.length h2]
theorem RpAll.nil : RpAll K B [] [] := rfl
theorem RpAll.cons {d : D} {ds : List D} {x : V} {xs : List V} (h : Rp K B d x) (r : RpAll K B ds xs) : RpAll K B (d :: ds) (x :: xs) := ⟨x, xs, rfl, h, r⟩
theorem RpAll.get : ∀ {ds : List D} {xs : List V} (i : Nat) {d : D}, RpAll K B ds xs → ds[i]? = some d → ∃ x, xs[i]? = some x ∧ Rp K B d x
  | [], _, i, d, _, e => by simp at e
  | _ :: _, _, 0, d, ⟨x, r, e, h1, h2⟩, q => by simp at q; subst q; subst e; exact ⟨x, rfl, h1⟩
  | _ :: _, _, i + 1, d, ⟨x, r, e, h1, h2⟩, q => by
    subst e
    obtain ⟨y, e1, e2⟩ := RpAll.get i h2 (by simpa using q)
    exact ⟨y, by simpa using e1, e2⟩
theorem RpAll.append : ∀ {ds es : List D} {xs ys : List V}, RpAll K B ds xs → RpAll K B es ys → RpAll K B (ds ++ es) (xs ++ ys)
  | [], _, _, _, r, q => by rw [show _ = [] from r]; exact q
  | _ :: _, _, _, _, ⟨x, r, e, h1, h2⟩, q => by subst e; exact ⟨x, _, rfl, h1, RpAll.append h2 q⟩
theorem RpAll.take : ∀ {ds : List D} {xs : List V} (n : Nat), RpAll K B ds xs → RpAll K B (ds.take n) (xs.take n)
  | _, _, 0, _ => by simp [RpAll]
  | [], _, n + 1, r => by rw [show _ = [] from r]; simp [RpAll]
  | _ :: _, _, n + 1, ⟨x, r, e, h1, h2⟩ => by subst e; exact ⟨x, _, rfl, h1, RpAll.take n h2⟩
theorem RpAll.drop : ∀ {ds : List D} {xs : List V} (n : Nat), RpAll K B ds xs → RpAll K B (ds.drop n) (xs.drop n)
  | _, _, 0, r => r
  | [], _, n + 1, r => by rw [show _ = [] from r]; simp [RpAll]
  | _ :: _, _, n + 1, ⟨x, r, e, h1, h2⟩ => by subst e; exact RpAll.drop n h2
theorem RpAll.set : ∀ {ds : List D} {xs : List V} (i : Nat) {d : D} {x : V}, RpAll K B ds xs → Rp K B d x → RpAll K B (ds.set i d) (xs.set i x)
  | [], _, _, _, _, r, _ => by rw [show _ = [] from r]; simp [RpAll]
  | _ :: _, _, 0, _, _, ⟨x, r, e, h1, h2⟩, q => by subst e; exact ⟨_, _, rfl, q, h2⟩
  | _ :: _, _, i + 1, _, _, ⟨x, r, e, h1, h2⟩, q => by subst e; exact ⟨_, _, rfl, h1, RpAll.set i h2 q⟩
theorem RpAll.eraseIdx : ∀ {ds : List D} {xs : List V} (i : Nat), RpAll K B ds xs → RpAll K B (ds.eraseIdx i) (xs.eraseIdx i)
  | [], _, _, r => by rw [show _ = [] from r]; simp [RpAll]
  | _ :: _, _, 0, ⟨x, r, e, h1, h2⟩ => by subst e; exact h2
  | _ :: _, _, i + 1, ⟨x, r, e, h1, h2⟩ => by subst e; exact ⟨_, _, rfl, h1, RpAll.eraseIdx i h2⟩
theorem RpAll.reverse : ∀ {ds : List D} {xs : List V}, RpAll K B ds xs → RpAll K B ds.reverse xs.reverse
  | [], _, r => by rw [show _ = [] from r]; simp [RpAll]
  | _ :: _, _, ⟨x, r, e, h1, h2⟩ => by
    subst e
    rw [List.reverse_cons, List.reverse_cons]
    exact RpAll.append (RpAll.reverse h2) ⟨x, [], rfl, h1, rfl⟩
theorem RpAll.ints : ∀ {ns : List Int} {xs : List V}, RpAll K B (ns.map PyData.int) xs → xs = ns.map V.int
  | [], _, r => r
  | _ :: _, _, ⟨x, r, e, h1, h2⟩ => by subst e; rw [show x = _ from h1, RpAll.ints h2]; rfl
theorem RpAll.of_ints : ∀ (ns : List Int), RpAll K B (ns.map PyData.int) (ns.map V.int)
  | [] => rfl
  | n :: ns => ⟨.int n, _, rfl, rfl, RpAll.of_ints ns⟩
theorem RpAll.flatten : ∀ {ds : List D} {xs : List V} (k : Nat), RpAll K B ds xs → RpAll K B (List.replicate k ds).flatten (List.replicate k xs).flatten
  | _, _, 0, _ => rfl
  | _, _, k + 1, r => by rw [List.replicate_succ, List.replicate_succ, List.flatten_cons, List.flatten_cons]; exact RpAll.append r (RpAll.flatten k r)
end

/-! ### results, slots -/
set_option genSizeOf false
/-- what a slot holds: nothing that is known; a frozen datum; a list or dict that this slot alone holds; the handle of the world's object -/
inductive Sl where
  | no | im (d : D) | ow (d : D) | dk
/-- what an expression hands over: a frozen datum; a new list or dict that nobody else holds; what the i-th slot holds; the handle -/
inductive R where
  | im (d : D) | fr (d : D) | br (i : Nat) | dk

abbrev En := List Sl

/-- a mutable object outside the data (the draws): its standing, given which addresses are not its own -/
structure Wld where
  inv : Hp → (Addr → Prop) → Addr → Prop
  less : ∀ {H : Hp} {pr pr' : Addr → Prop} {q : Addr}, inv H pr q → (∀ a, pr' a → pr a) → inv H pr' q
  stay : ∀ {H H' : Hp} {pr pr' : Addr → Prop} {q : Addr}, inv H pr q → (∀ a o, H a = some o → ¬ pr a → H' a = some o) → (∀ a, pr' a → pr a ∨ H a = none) → inv H' pr' q

/-- the entry of a def's body: what was frozen, what must stay, the heap, the handle's address -/
structure Act where
  B0 : Hp
  U0 : Hp
  H0 : Hp
  dp : Option Addr

def OwnO (K : PySem.W.Frag) (B : Hp) : D → HO → Prop
  | .list ds, .lst xs => RpAll K B ds xs
  | .dict es, .dK kvs => RpDk K B es kvs
  | .dict es, .dT kvs => RpDt K B es kvs
  | _, _ => False
theorem OwnO.mono {K : PySem.W.Frag} {B B' : Hp} (h : Sub B B') {d : D} {o : HO} (r : OwnO K B d o) : OwnO K B' d o := by
  cases d with
  | list ds => cases o with
    | lst xs => exact RpAll.mono h r
    | _ => exact r.elim
  | dict es => cases o with
    | dK kvs => exact RpDk.mono h r
    | dT kvs => exact RpDt.mono h r
    | _ => exact r.elim
  | _ => exact r.elim
theorem OwnO.rp {K : PySem.W.Frag} {B H : Hp} (h : Sub B H) {p : Addr} {d : D} {o : HO} (r : OwnO K B d o) (e : H p = some o) : Rp K H d (.ref p) := by
  cases d with
  | list ds => cases o with
    | lst xs => exact ⟨p, xs, rfl, e, RpAll.mono h r⟩
    | _ => exact r.elim
  | dict es => cases o with
    | dK kvs => exact ⟨p, rfl, .inl ⟨kvs, e, RpDk.mono h r⟩⟩
    | dT kvs => exact ⟨p, rfl, .inr ⟨kvs, e, RpDt.mono h r⟩⟩
    | _ => exact r.elim
  | _ => exact r.elim

def Own (σ : L2.St) (ρ : En) (a : Addr) : Prop := ∃ (i : Nat) (d : D), ρ[i]? = some (Sl.ow d) ∧ σ[i]? = some (some (V.ref a))
def Act.prot (A : Act) (B : Hp) (σ : L2.St) (ρ : En) (a : Addr) : Prop := A.U0 a ≠ none ∨ B a ≠ none ∨ Own σ ρ a

def SlOk (K : PySem.W.Frag) (A : Act) (B : Hp) (σ : L2.St) (H : Hp) (i : Nat) : Sl → Prop
  | .no => True
  | .im d => ∃ v, σ[i]? = some (some v) ∧ Rp K B d v
  | .ow d => ∃ p o, σ[i]? = some (some (V.ref p)) ∧ H p = some o ∧ OwnO K B d o ∧ B p = none ∧ A.U0 p = none ∧ A.H0 p = none
  | .dk => ∃ p, σ[i]? = some (some (V.ref p)) ∧ A.dp = some p

structure StOk (W : Wld) (K : PySem.W.Frag) (A : Act) (B : Hp) (ρ : En) (σ : L2.St) (H : Hp) : Prop where
  b0 : Sub A.B0 B
  new : ∀ a o, B a = some o → A.B0 a = some o ∨ A.H0 a = none
  bu : ∀ a o, B a = some o → A.U0 a ≠ none → A.B0 a = some o
  bh : Sub B H
  uh : Sub A.U0 H
  hh : ∀ a, H a = none → A.H0 a = none
  sl : ∀ (i : Nat) (s : Sl), ρ[i]? = some s → SlOk K A B σ H i s
  one : ∀ (i j : Nat) (d e : D) (a : Addr), ρ[i]? = some (Sl.ow d) → ρ[j]? = some (Sl.ow e) → σ[i]? = some (some (V.ref a)) → σ[j]? = some (some (V.ref a)) → i = j
  wd : ∀ q, A.dp = some q → W.inv H (A.prot B σ ρ) q
  len : ρ.length = σ.length

section
variable {W : Wld} {K : PySem.W.Frag} {A : Act} {B B' H H' : Hp} {ρ ρ' : En} {σ : L2.St} {p : Addr} {o : HO} {v : V} {d : D} {r : R}
theorem StOk.own (S : StOk W K A B ρ σ H) (h : Own σ ρ p) : H p ≠ none ∧ B p = none ∧ A.U0 p = none ∧ A.H0 p = none := by
  obtain ⟨i, d, e1, e2⟩ := h
  obtain ⟨q, o, e3, e4, _, e6, e7, e8⟩ := S.sl i _ e1
  rw [e2] at e3; cases e3
  exact ⟨by rw [e4]; simp, e6, e7, e8⟩
theorem StOk.fresh (S : StOk W K A B ρ σ H) (h : H p = none) : B p = none ∧ A.U0 p = none ∧ A.H0 p = none ∧ ¬ Own σ ρ p :=
  ⟨S.bh.non h, S.uh.non h, S.hh p h, fun q => (S.own q).1 h⟩
/-- what is a result's value -/
def ResOk (W : Wld) (K : PySem.W.Frag) (A : Act) (B : Hp) (ρ : En) (σ : L2.St) (H : Hp) : R → V → Prop
  | .im d, v => Rp K B d v
  | .fr d, v => ∃ p o, v = .ref p ∧ H p = some o ∧ OwnO K B d o ∧ B p = none ∧ A.U0 p = none ∧ A.H0 p = none ∧ ¬ Own σ ρ p ∧ ∀ q, A.dp = some q → W.inv H (fun a => A.prot B σ ρ a ∨ a = p) q
  | .br i, v => σ[i]? = some (some v)
  | .dk, v => ∃ p, v = .ref p ∧ A.dp = some p
/-- heaps that only grow -/
theorem StOk.grow (S : StOk W K A B ρ σ H) (h : Sub H H') : StOk W K A B ρ σ H' where
  b0 := S.b0
  new := S.new
  bu := S.bu
  bh := S.bh.trans h
  uh := S.uh.trans h
  hh := fun a e => S.hh a (h.non e)
  sl := fun i s e => by
    have q := S.sl i s e
    cases s with
    | no => trivial
    | im d => exact q
    | ow d => obtain ⟨p, o, e1, e2, r⟩ := q; exact ⟨p, o, e1, h _ _ e2, r⟩
    | dk => exact q
  one := S.one
  wd := fun q e => W.stay (S.wd q e) (fun a o ha _ => h a o ha) fun a ha => .inl ha
  len := S.len
theorem ResOk.grow (S : StOk W K A B ρ σ H) (h : Sub H H') : ∀ {r : R} {v : V}, ResOk W K A B ρ σ H r v → ResOk W K A B ρ σ H' r v
  | .im _, _, x => x
  | .fr _, _, ⟨p, o, e, e1, r, n1, n2, n3, n4, n5⟩ => ⟨p, o, e, h _ _ e1, r, n1, n2, n3, n4, fun q hq => W.stay (n5 q hq) (fun a o ha _ => h a o ha) fun a ha => .inl ha⟩
  | .br _, _, x => x
  | .dk, _, x => x
/-- a new object, frozen -/
theorem StOk.laid (S : StOk W K A B ρ σ H) (h : H p = none) : StOk W K A (upd B p o) ρ σ (upd H p o) := by
  obtain ⟨n1, n2, n3, n4⟩ := S.fresh h
  refine ⟨S.b0.trans (Sub.new n1), fun a u e => ?_, fun a u e ne => ?_, S.bh.upd2, S.uh.upd n2, fun a e => ?_, fun i s e => ?_, S.one, fun q e => ?_, S.len⟩
  · by_cases ha : a = p
    · subst ha; exact .inr n3
    · rw [upd_ne ha] at e; exact S.new a u e
  · by_cases ha : a = p
    · subst ha; exact absurd n2 ne
    · rw [upd_ne ha] at e; exact S.bu a u e ne
  · by_cases ha : a = p
    · subst ha; exact n3
    · rw [upd_ne ha] at e; exact S.hh a e
  · have q := S.sl i s e
    cases s with
    | no => trivial
    | im d => obtain ⟨v, e1, r⟩ := q; exact ⟨v, e1, r.mono (Sub.new n1)⟩
    | ow d =>
      obtain ⟨x, u, e1, e2, r, m1, m2, m3⟩ := q
      have ne : x ≠ p := fun z => by subst z; rw [h] at e2; cases e2
      exact ⟨x, u, e1, by rw [upd_ne ne]; exact e2, r.mono (Sub.new n1), by rw [upd_ne ne]; exact m1, m2, m3⟩
    | dk => exact q
  · refine W.stay (S.wd q e) (fun a u ha _ => (Sub.new h) a u ha) fun a ha => ?_
    rcases ha with ha | ha | ha
    · exact .inl (.inl ha)
    · by_cases z : a = p
      · subst z; exact .inr h
      · rw [upd_ne z] at ha; exact .inl (.inr (.inl ha))
    · exact .inl (.inr (.inr ha))
theorem StOk.loose (S : StOk W K A B ρ σ H) (h : H p = none) (ho : OwnO K B d o) : StOk W K A B ρ σ (upd H p o) ∧ ResOk W K A B ρ σ (upd H p o) (.fr d) (.ref p) := by
  obtain ⟨n1, n2, n3, n4⟩ := S.fresh h
  refine ⟨S.grow (Sub.new h), p, o, rfl, upd_same, ho, n1, n2, n3, n4, fun q e => ?_⟩
  refine W.stay (S.wd q e) (fun a u ha _ => (Sub.new h) a u ha) fun a ha => ?_
  rcases ha with ha | ha
  · exact .inl ha
  · subst ha; exact .inr h
/-- a loose object is frozen -/
theorem StOk.freeze (S : StOk W K A B ρ σ H) (x : ResOk W K A B ρ σ H (.fr d) v) : ∃ B', Sub B B' ∧ StOk W K A B' ρ σ H ∧ Rp K B' d v := by
  obtain ⟨p, o, rfl, e1, ho, n1, n2, n3, n4, n5⟩ := x
  refine ⟨upd B p o, Sub.new n1, ⟨S.b0.trans (Sub.new n1), fun a u e => ?_, fun a u e ne => ?_, fun a u e => ?_, S.uh, S.hh, fun i s e => ?_, S.one, fun q e => ?_, S.len⟩, ?_⟩
  · by_cases ha : a = p
    · subst ha; exact .inr n3
    · rw [upd_ne ha] at e; exact S.new a u e
  · by_cases ha : a = p
    · subst ha; exact absurd n2 ne
    · rw [upd_ne ha] at e; exact S.bu a u e ne
  · by_cases ha : a = p
    · subst ha; rw [upd_same] at e; cases e; exact e1
    · rw [upd_ne ha] at e; exact S.bh a u e
  · have q := S.sl i s e
    cases s with
    | no => trivial
    | im d => obtain ⟨v, e1, r⟩ := q; exact ⟨v, e1, r.mono (Sub.new n1)⟩
    | ow d =>
      obtain ⟨x, u, q1, q2, r, m1, m2, m3⟩ := q
      have ne : x ≠ p := fun z => by subst z; exact n4 ⟨i, d, e, q1⟩
      exact ⟨x, u, q1, q2, r.mono (Sub.new n1), by rw [upd_ne ne]; exact m1, m2, m3⟩
    | dk => exact q
  · refine W.less (n5 q e) fun a ha => ?_
    rcases ha with ha | ha | ha
    · exact .inl (.inl ha)
    · by_cases z : a = p
      · exact .inr z
      · rw [upd_ne z] at ha; exact .inl (.inr (.inl ha))
    · exact .inl (.inr (.inr ha))
  · have s1 : Sub B (upd B p o) := Sub.new n1
    exact (ho.mono s1).rp (Sub.refl _) upd_same
end
end KR

end
section
set_option Elab.async false
set_option linter.all false
set_option maxRecDepth 100000
set_option genSizeOf false
/-! The small language, and what is asked of a run of it over plain data. -/
namespace KR
open PySem L2

inductive BOp where
  | add | sub | mul | fdiv | mod | pow | shl | shr | band | bor | bxor
inductive COp where
  | eq | ne | lt | le | gt | ge | isin | notin | is_ | isnot
inductive Bi where
  | len | int | abs | min | max | list | tuple | sum | sorted | repr | any | all | str
inductive Mt where
  | bits | index | count

mutual
inductive IE where
  | var (i : Nat)
  | cst (c : D)
  | glob (x : Str)
  | bin (op : BOp) (a b : IE)
  | neg (a : IE)
  | cmp (op : COp) (a b : IE)
  | chain (op op' : COp) (a b c : IE)
  | conj (isAnd : Bool) (es : IEs)
  | notE (a : IE)
  | ite (c a b : IE)
  | tup (es : IEs)
  | lst (es : IEs)
  | dic (isT : Bool)
  | sub (a i : IE)
  | slc (a : IE) (lo hi : IO)
  | rev (a : IE)
  | call (f : Str) (es : IEs)
  | callk (f : Str) (ks : List Str) (es : IEs)
  | bi (b : Bi) (es : IEs)
  | rng (isT : Bool) (es : IEs)
  | isinst (ty : String) (a : IE)
  | mt (m : Mt) (a : IE) (es : IEs)
  | app (i : Nat) (e : IE)
  | pop (i : Nat)
  | popAt (i : Nat) (e : IE)
  | lc (elt : IE) (tg : IT) (it : II) (cond : IO) (own : List (Str × Nat))
inductive IO where
  | non
  | som (e : IE)
inductive IEs where
  | nil
  | cons (e : IE) (es : IEs)
inductive II where
  | seq (e : IE)
  | rg (es : IEs)
  | enum (e : IE)
  | zip (a b : IE)
/-- targets -/
inductive IT where
  | nm (i : Nat)
  | tup (ts : ITs)
  | sub (i : Nat) (k : IE)
inductive ITs where
  | nil
  | cons (t : IT) (ts : ITs)
end

def IEs.len : IEs → Nat
  | .nil => 0
  | .cons _ es => es.len + 1
def ITs.len : ITs → Nat
  | .nil => 0
  | .cons _ es => es.len + 1

mutual
/-- the slots that a target names -/
def IT.nms : IT → List Nat
  | .nm i => [i]
  | .tup ts => ts.nms
  | .sub _ _ => []
def ITs.nms : ITs → List Nat
  | .nil => []
  | .cons t ts => t.nms ++ ts.nms
end

mutual
inductive IS where
  | ex (e : IE)
  | asg (t : IT) (e : IE)
  | par (ts : List Nat) (es : IEs)
  | ret (e : IE)
  | ife (c : IE) (a b : ISs)
  | for_ (t : IT) (it : II) (b : ISs)
  | while_ (c : IE) (b : ISs)
  | pass | brk | cont
  | never
inductive ISs where
  | nil
  | cons (s : IS) (ss : ISs)
end

/-! ### what is asked of defs -/
structure Ex where
  cls : Str
  fld : Option (Str × D)
inductive Ar where
  | d (x : D) | dk
/-- a def's contract: keep: it hands over no list and no dict; wp: what must hold so that it hands over what is wanted -/
structure DSpec where
  keep : Bool
  ps : List Str
  wp : List Ar → (R → Prop) → (Ex → Prop) → Prop
structure Ctx where
  fns : List (Str × DSpec)
  fks : List (Str × List Str)
  gls : List (Str × D)
  free : List Str

/-! ### reading and taking results -/
def dataOf (ρ : En) : R → Option D
  | .im d => some d
  | .fr d => some d
  | .br i => match ρ[i]? with
    | some (.ow d) => some d
    | some (.im d) => some d
    | _ => none
  | .dk => none
def peek (ρ : En) (r : R) (K : D → Prop) : Prop := match dataOf ρ r with
  | some d => K d
  | none => False
def peekAll (ρ : En) : List R → (List D → Prop) → Prop
  | [], K => K []
  | r :: rs, K => peek ρ r fun d => peekAll ρ rs fun ds => K (d :: ds)
/-- what is taken is frozen -/
def takeR (ρ : En) (r : R) (K : D → En → Prop) : Prop := match r with
  | .im d => K d ρ
  | .fr d => K d ρ
  | .br i => match ρ[i]? with
    | some (.ow d) => K d (ρ.set i (.im d))
    | some (.im d) => K d ρ
    | _ => False
  | .dk => False
def takeAll (ρ : En) : List R → (List D → En → Prop) → Prop
  | [], K => K [] ρ
  | r :: rs, K => takeR ρ r fun d ρ1 => takeAll ρ1 rs fun ds ρ2 => K (d :: ds) ρ2
/-- what a slot holds that is given a result -/
def slotR (ρ : En) (r : R) (K : Sl → En → Prop) : Prop := match r with
  | .im d => K (.im d) ρ
  | .fr d => K (.ow d) ρ
  | .br i => match ρ[i]? with
    | some (.ow d) => K (.im d) (ρ.set i (.im d))
    | some (.im d) => K (.im d) ρ
    | _ => False
  | .dk => K .dk ρ
def slotAll (ρ : En) : List R → (List Sl → En → Prop) → Prop
  | [], K => K [] ρ
  | r :: rs, K => slotR ρ r fun s ρ1 => slotAll ρ1 rs fun ss ρ2 => K (s :: ss) ρ2
def setAll (ρ : En) : List Nat → List Sl → En
  | i :: is, s :: ss => setAll (ρ.set i s) is ss
  | _, _ => ρ
/-- what a def hands over -/
def retR (ρ : En) (r : R) (K : R → Prop) : Prop := match r with
  | .im d => K (.im d)
  | .fr d => K (.fr d)
  | .br i => match ρ[i]? with
    | some (.ow d) => K (.fr d)
    | some (.im d) => K (.im d)
    | _ => False
  | .dk => K .dk
def argsOf (ρ : En) : List R → (List Ar → Prop) → Prop
  | [], K => K []
  | .dk :: rs, K => argsOf ρ rs fun as => K (.dk :: as)
  | r :: rs, K => peek ρ r fun d => argsOf ρ rs fun as => K (.d d :: as)
def frzB (ρ : En) : List R → En
  | [] => ρ
  | .br i :: rs => match ρ[i]? with
    | some (.ow d) => frzB (ρ.set i (.im d)) rs
    | _ => frzB ρ rs
  | _ :: rs => frzB ρ rs
def asBool (r : R) (K : Bool → Prop) : Prop := match r with
  | .im (.bool b) => K b
  | _ => False
def wipeE (ρ : En) : List (Str × Nat) → En
  | [] => ρ
  | p :: ps => (wipeE ρ ps).set p.2 .no
def backS : Option Sl → Sl
  | some (.im d) => .im d
  | some .dk => .dk
  | _ => .no
/-- the block's own slots as they were -/
def backE (ρ : En) (ρ' : En) : List (Str × Nat) → En
  | [] => ρ'
  | p :: ps => (backE ρ ρ' ps).set p.2 (backS ρ[p.2]?)

/-! ### operators -/
def binD (op : BOp) (a b : D) (K : R → Prop) : Prop := match op, a, b with
  | .add, .int i, .int j => K (.im (.int (i + j)))
  | .add, .str x, .str y => x.length + y.length ≤ sizeLine ∧ K (.im (.str (x ++ y)))
  | .add, .list xs, .list ys => xs.length + ys.length ≤ sizeLine ∧ K (.fr (.list (xs ++ ys)))
  | .add, .tuple xs, .tuple ys => xs.length + ys.length ≤ sizeLine ∧ K (.im (.tuple (xs ++ ys)))
  | .sub, .int i, .int j => K (.im (.int (i - j)))
  | .mul, .int i, .int j => IntMulOk i j ∧ K (.im (.int (i * j)))
  | .mul, .list xs, .int k => (-(2 ^ 63) ≤ k ∧ k < 2 ^ 63 ∧ xs.length * k.toNat ≤ sizeLine) ∧ K (.fr (.list (List.replicate k.toNat xs).flatten))
  | .mul, .tuple xs, .int k => (xs ≠ [] ∧ 2 ≤ k ∧ k ≤ 1000 ∧ xs.length ≤ 1000) ∧ K (.im (.tuple (List.replicate k.toNat xs).flatten))
  | .fdiv, .int i, .int j => (0 < j ∧ j.natAbs.log2 < 9000) ∧ K (.im (.int (i / j)))
  | .mod, .int i, .int j => 0 < j ∧ K (.im (.int (i % j)))
  | .pow, .int i, .int j => (0 ≤ j ∧ j ≤ 1000000 ∧ i.natAbs < 2 ^ 64) ∧ K (.im (.int (i ^ j.toNat)))
  | .shl, .int i, .int j => (0 ≤ j ∧ j ≤ 1000000 ∧ i.natAbs < 2 ^ 64) ∧ K (.im (.int (i * 2 ^ j.toNat)))
  | .shr, .int i, .int j => 0 ≤ j ∧ K (.im (.int (i / 2 ^ j.toNat)))
  | .band, .int i, .int j => K (.im (.int (Builtin.bitAnd i j)))
  | .bor, .int i, .int j => K (.im (.int (Builtin.bitOr i j)))
  | .bxor, .int i, .int j => K (.im (.int (Builtin.bitXor i j)))
  | _, _, _ => False
def flatD : D → Bool
  | .none | .bool _ | .int _ | .str _ => true
  | _ => false
def isNon : D → Bool
  | .none => true
  | _ => false
def lexLeI : List Int → List Int → Bool
  | [], _ => true
  | _ :: _, [] => false
  | x :: xs, y :: ys => if x = y then lexLeI xs ys else decide (x < y)
def cmpD (op : COp) (a b : D) (K : Bool → Prop) : Prop := match op, a, b with
  | .eq, .str x, .str y => K (decide (x = y))
  | .ne, .str x, .str y => K (!decide (x = y))
  | .eq, .int x, .int y => K (decide (x = y))
  | .ne, .int x, .int y => K (!decide (x = y))
  | .eq, .list xs, .list ys => ((SeqAt.shaped (.list xs) = true ∧ SeqAt.shaped (.list ys) = true) ∧ K (PyData.eqv (.list xs) (.list ys))) ∨ (xs.length ≠ ys.length ∧ K false)
  | .ne, .list xs, .list ys => ((SeqAt.shaped (.list xs) = true ∧ SeqAt.shaped (.list ys) = true) ∧ K (!PyData.eqv (.list xs) (.list ys))) ∨ (xs.length ≠ ys.length ∧ K true)
  | .eq, a, b => (SeqAt.shaped a = true ∧ SeqAt.shaped b = true) ∧ K (PyData.eqv a b)
  | .ne, a, b => (SeqAt.shaped a = true ∧ SeqAt.shaped b = true) ∧ K (!PyData.eqv a b)
  | .lt, .int i, .int j => K (decide (i < j))
  | .le, .int i, .int j => K (decide (i ≤ j))
  | .gt, .int i, .int j => K (decide (j < i))
  | .ge, .int i, .int j => K (decide (j ≤ i))
  | .isin, a, .list ds => (SeqAt.shaped a = true ∧ SeqAt.shaped (.list ds) = true) ∧ K (ds.any fun z => PyData.eqv z a)
  | .notin, a, .list ds => (SeqAt.shaped a = true ∧ SeqAt.shaped (.list ds) = true) ∧ K (!ds.any fun z => PyData.eqv z a)
  | .isin, a, .tuple ds => (SeqAt.shaped a = true ∧ SeqAt.shaped (.tuple ds) = true) ∧ K (ds.any fun z => PyData.eqv z a)
  | .notin, a, .tuple ds => (SeqAt.shaped a = true ∧ SeqAt.shaped (.tuple ds) = true) ∧ K (!ds.any fun z => PyData.eqv z a)
  | .is_, a, .none => K (isNon a)
  | .isnot, a, .none => K (!isNon a)
  | _, _, _ => False
def subD (a i : D) (K : D → Prop) : Prop := match a, i with
  | .list ds, .int k => match atI ds k with
    | some d => K d
    | none => False
  | .tuple ds, .int k => match atI ds k with
    | some d => K d
    | none => False
  | .str z, .int k => z.length ≤ sizeLine ∧ match atI z.cps.toList k with
    | some c => K (.str ⟨#[c]⟩)
    | none => False
  | _, _ => False
def cutD (xs : List D) (lo hi : Option Int) : List D := (xs.drop (HT.sIx xs.length 0 lo)).take (HT.sIx xs.length xs.length hi - HT.sIx xs.length 0 lo)
def slcD (a : D) (lo hi : Option Int) (K : R → Prop) : Prop := match a with
  | .list ds => K (.fr (.list (cutD ds lo hi)))
  | .tuple ds => K (.im (.tuple (cutD ds lo hi)))
  | _ => False
def revD (a : D) (K : R → Prop) : Prop := match a with
  | .list ds => K (.fr (.list ds.reverse))
  | .tuple ds => K (.im (.tuple ds.reverse))
  | _ => False
def intsOf : List D → Option (List Int)
  | [] => some []
  | .int i :: r => (intsOf r).map (i :: ·)
  | _ :: _ => none
def boolsOf : List D → Option (List Bool)
  | [] => some []
  | .bool i :: r => (boolsOf r).map (i :: ·)
  | _ :: _ => none
def isTy (ty : String) : D → Bool
  | .none => false
  | .bool _ => ty == "bool" || ty == "int"
  | .int _ => ty == "int"
  | .str _ => ty == "str"
  | .list _ => ty == "list"
  | .tuple _ => ty == "tuple"
  | .dict _ => ty == "dict"
def biD (b : Bi) (ds : List D) (K : R → Prop) : Prop := match b, ds with
  | .len, [.list xs] => K (.im (.int xs.length))
  | .len, [.tuple xs] => K (.im (.int xs.length))
  | .len, [.str z] => z.length ≤ sizeLine ∧ K (.im (.int z.length))
  | .int, [.int i] => K (.im (.int i))
  | .int, [.bool c] => K (.im (.int (if c then 1 else 0)))
  | .abs, [.int i] => K (.im (.int (if i < 0 then -i else i)))
  | .min, [.int i, .int j] => K (.im (.int (if j < i then j else i)))
  | .max, [.int i, .int j] => K (.im (.int (if j > i then j else i)))
  | .min, [.list ds] => (match intsOf ds with
    | some ns => 0 < ns.length ∧ ∀ m, m ∈ ns → (∀ y, y ∈ ns → m ≤ y) → K (.im (.int m))
    | none => False)
  | .max, [.list ds] => (match intsOf ds with
    | some ns => 0 < ns.length ∧ ∀ m, m ∈ ns → (∀ y, y ∈ ns → y ≤ m) → K (.im (.int m))
    | none => False)
  | .list, [.list xs] => K (.fr (.list xs))
  | .list, [.tuple xs] => K (.fr (.list xs))
  | .tuple, [.list xs] => K (.im (.tuple xs))
  | .tuple, [.tuple xs] => K (.im (.tuple xs))
  | .sum, [.list xs] => (match intsOf xs with
    | some ns => K (.im (.int ns.sum))
    | none => False)
  | .sorted, [.list xs] => (match intsOf xs with
    | some ns => ns.length < 64 ∧ ∀ ms : List Int, ms.Perm ns → ms.Pairwise (· ≤ ·) → K (.fr (.list (ms.map PyData.int)))
    | none => False)
  | .sorted, [.tuple xs] => (match intsOf xs with
    | some ns => ns.length < 64 ∧ ∀ ms : List Int, ms.Perm ns → ms.Pairwise (· ≤ ·) → K (.fr (.list (ms.map PyData.int)))
    | none => False)
  | .repr, [d] => (d.showable = true ∧ d.depth ≤ 64 ∧ d.shown.length ≤ sizeLine) ∧ K (.im (.str d.shown))
  | .any, [.list xs] => (match boolsOf xs with
    | some bs => K (.im (.bool (bs.any id)))
    | none => False)
  | .all, [.list xs] => (match boolsOf xs with
    | some bs => K (.im (.bool (bs.all id)))
    | none => False)
  | .str, [.int i] => i.natAbs.log2 < 1920 ∧ K (.im (.str (toString i)))
  | _, _ => False
def rngL (a b : Int) : List D := (List.range (b - a).toNat).map fun (i : Nat) => PyData.int (a + (i : Int))
def rngD (ds : List D) (K : List D → Prop) : Prop := match ds with
  | [.int b] => (-(2 ^ 62) ≤ b ∧ b ≤ 2 ^ 24) ∧ K (rngL 0 b)
  | [.int a, .int b] => (-(2 ^ 62) ≤ a ∧ a < 2 ^ 62 ∧ -(2 ^ 62) ≤ b ∧ b < 2 ^ 62 ∧ (b - a).toNat ≤ 2 ^ 24) ∧ K (rngL a b)
  | _ => False
/-- what a for goes through -/
def itemsD (d : D) (K : List D → Prop) : Prop := match d with
  | .list ds => ds.length ≤ sizeLine ∧ K ds
  | .tuple ds => ds.length ≤ sizeLine ∧ K ds
  | _ => False

def zipD (d e : D) (K : List D → Prop) : Prop := match d, e with
  | .list xs, .list ys => (xs.length ≤ sizeLine ∧ ys.length ≤ sizeLine) ∧ K ((xs.zip ys).map fun p => .tuple [p.1, p.2])
  | .tuple xs, .tuple ys => (xs.length ≤ sizeLine ∧ ys.length ≤ sizeLine) ∧ K ((xs.zip ys).map fun p => .tuple [p.1, p.2])
  | _, _ => False

/-! ### loops -/
structure Fin' where
  nx : En → Prop
  rt : R → Prop
  bk : En → Prop
  ct : En → Prop
def forL (body : D → En → Fin' → Prop) : List D → En → Fin' → Prop
  | [], ρ, F => F.nx ρ
  | d :: ds, ρ, F => body d ρ { nx := fun ρ' => forL body ds ρ' F, rt := F.rt, bk := F.nx, ct := fun ρ' => forL body ds ρ' F }
def whileN (cond : En → (Bool → En → Prop) → Prop) (body : En → Fin' → Prop) : Nat → En → Fin' → Prop
  | 0, _, _ => False
  | n + 1, ρ, F => cond ρ fun k ρ1 => if k = true then body ρ1 { nx := fun ρ' => whileN cond body n ρ' F, rt := F.rt, bk := F.nx, ct := fun ρ' => whileN cond body n ρ' F } else F.nx ρ1
def lcL (own : List (Str × Nat)) (step : D → En → (Option D → En → Prop) → Prop) : List D → List D → En → (List D → En → Prop) → Prop
  | [], acc, ρ, K => K acc ρ
  | d :: ds, acc, ρ, K => step d ρ fun o ρ' => match o with
    | some e => lcL own step ds (acc ++ [e]) (wipeE ρ' own) K
    | none => lcL own step ds acc (wipeE ρ' own) K

/-! ### expressions -/
def asgN : List D → (List (D → En → (En → Prop) → Prop)) → En → (En → Prop) → Prop
  | [], [], ρ, K => K ρ
  | d :: ds, f :: fs, ρ, K => f d ρ fun ρ1 => asgN ds fs ρ1 K
  | _, _, _, _ => False
/-- the keywords' values in the parameters' order -/
def pickK {α : Type} (ps ks : List Str) (as : List α) : List α := ps.filterMap fun p => (ks.zip as).lookup p
def isOwL (ρ : En) (i : Nat) : Prop := ∃ ds, ρ[i]? = some (.ow (.list ds))
def flatR : R → Bool
  | .im d => flatD d
  | _ => false
def noEx : Ex → En → Prop := fun _ _ => False

mutual
def wpE (Γ : Ctx) (Ed : Ex → En → Prop) : IE → En → (R → En → Prop) → Prop
  | .var i, ρ, Q => (match ρ[i]? with
    | some (.im d) => Q (.im d) ρ
    | some (.ow _) => Q (.br i) ρ
    | some .dk => Q .dk ρ
    | _ => False)
  | .cst c, ρ, Q => Q (.im c) ρ
  | .glob x, ρ, Q => (match Γ.gls.lookup x with
    | some d => Q (.im d) ρ
    | none => False)
  | .bin op a b, ρ, Q => wpE Γ Ed a ρ fun r1 ρ1 => wpE Γ Ed b ρ1 fun r2 ρ2 => peek ρ2 r1 fun d1 => peek ρ2 r2 fun d2 => binD op d1 d2 fun r => Q r ρ2
  | .neg a, ρ, Q => wpE Γ Ed a ρ fun r1 ρ1 => (match r1 with
    | .im (.int i) => Q (.im (.int (-i))) ρ1
    | _ => False)
  | .cmp op a b, ρ, Q => wpE Γ Ed a ρ fun r1 ρ1 => wpE Γ Ed b ρ1 fun r2 ρ2 => peek ρ2 r1 fun d1 => peek ρ2 r2 fun d2 => cmpD op d1 d2 fun k => Q (.im (.bool k)) ρ2
  | .chain op op' a b c, ρ, Q => wpE Γ Ed a ρ fun r1 ρ1 => wpE Γ Ed b ρ1 fun r2 ρ2 => peek ρ2 r1 fun d1 => peek ρ2 r2 fun d2 => cmpD op d1 d2 fun k =>
      if k = true then wpE Γ Ed c ρ2 fun r3 ρ3 => peek ρ3 r2 fun d2' => peek ρ3 r3 fun d3 => cmpD op' d2' d3 fun k' => Q (.im (.bool k')) ρ3 else Q (.im (.bool false)) ρ2
  | .conj isAnd es, ρ, Q => wpC Γ Ed isAnd isAnd es ρ Q
  | .notE a, ρ, Q => wpE Γ Ed a ρ fun r ρ1 => asBool r fun k => Q (.im (.bool (!k))) ρ1
  | .ite c a b, ρ, Q => wpE Γ Ed c ρ fun r ρ1 => asBool r fun k => if k = true then wpE Γ Ed a ρ1 Q else wpE Γ Ed b ρ1 Q
  | .tup es, ρ, Q => wpEs Γ Ed es ρ fun rs ρ1 => rs.length ≤ 1000 ∧ takeAll ρ1 rs fun ds ρ2 => Q (.im (.tuple ds)) ρ2
  | .lst es, ρ, Q => wpEs Γ Ed es ρ fun rs ρ1 => rs.length ≤ 1000 ∧ takeAll ρ1 rs fun ds ρ2 => Q (.fr (.list ds)) ρ2
  | .dic _, ρ, Q => Q (.fr (.dict [])) ρ
  | .sub a i, ρ, Q => wpE Γ Ed a ρ fun r1 ρ1 => wpE Γ Ed i ρ1 fun r2 ρ2 => peek ρ2 r1 fun d1 => peek ρ2 r2 fun d2 => subD d1 d2 fun d => Q (.im d) ρ2
  | .slc a lo hi, ρ, Q => wpE Γ Ed a ρ fun r ρ1 => wpO Γ Ed lo ρ1 fun l ρ2 => wpO Γ Ed hi ρ2 fun h ρ3 => peek ρ3 r fun d => slcD d l h fun r => Q r ρ3
  | .rev a, ρ, Q => wpE Γ Ed a ρ fun r ρ1 => peek ρ1 r fun d => revD d fun r => Q r ρ1
  | .call f es, ρ, Q => (match Γ.fns.lookup f with
    | some S => wpEs Γ Ed es ρ fun rs ρ1 => rs.length = S.ps.length ∧ argsOf ρ1 rs fun as => S.wp as (fun r => if S.keep = true then flatR r = true ∧ Q r ρ1 else Q r (frzB ρ1 rs)) (fun x => Ed x (frzB ρ1 rs))
    | none => False)
  | .callk f ks es, ρ, Q => (match Γ.fns.lookup f with
    | some S => wpEs Γ Ed es ρ fun rs ρ1 => (rs.length = ks.length ∧ (pickK S.ps ks rs).length = S.ps.length) ∧ argsOf ρ1 rs fun as => S.wp (pickK S.ps ks as) (fun r => if S.keep = true then flatR r = true ∧ Q r ρ1 else Q r (frzB ρ1 rs)) (fun x => Ed x (frzB ρ1 rs))
    | none => False)
  | .bi b es, ρ, Q => wpEs Γ Ed es ρ fun rs ρ1 => peekAll ρ1 rs fun ds => biD b ds fun r => Q r ρ1
  | .rng isT es, ρ, Q => wpEs Γ Ed es ρ fun rs ρ1 => peekAll ρ1 rs fun ds => rngD ds fun xs => Q (if isT = true then .im (.tuple xs) else .fr (.list xs)) ρ1
  | .isinst ty a, ρ, Q => wpE Γ Ed a ρ fun r ρ1 => peek ρ1 r fun d => Q (.im (.bool (isTy ty d))) ρ1
  | .mt _ _ _, _, _ => False
  | .app i e, ρ, Q => isOwL ρ i ∧ wpE Γ Ed e ρ fun r ρ1 => takeR ρ1 r fun d ρ2 => (match ρ2[i]? with
    | some (.ow (.list ds)) => ds.length < sizeLine ∧ Q (.im .none) (ρ2.set i (.ow (.list (ds ++ [d]))))
    | _ => False)
  | .pop i, ρ, Q => (match ρ[i]? with
    | some (.ow (.list ds)) => (match ds[ds.length - 1]? with
      | some d => Q (.im d) (ρ.set i (.ow (.list ds.dropLast)))
      | none => False)
    | _ => False)
  | .popAt i e, ρ, Q => isOwL ρ i ∧ wpE Γ Ed e ρ fun r ρ1 => (match r, ρ1[i]? with
    | .im (.int k), some (.ow (.list ds)) => (-(2 ^ 63) ≤ k ∧ k < 2 ^ 63) ∧ (match seqIndex? k ds.length with
      | some j => (match ds[j]? with
        | some d => Q (.im d) (ρ1.set i (.ow (.list (ds.eraseIdx j))))
        | none => False)
      | none => False)
    | _, _ => False)
  | .lc elt tg it cond own, ρ, Q => wpI Γ Ed it ρ fun ds ρ1 => ds.length ≤ sizeLine ∧
      lcL own (fun d ρ' K => asgT Γ tg d ρ' fun ρ2 => wpO' Γ cond ρ2 fun b ρ3 => if b = true then wpE Γ noEx elt ρ3 fun r ρ4 => takeR ρ4 r fun e ρ5 => K (some e) ρ5 else K none ρ3) ds [] (wipeE ρ1 own) fun acc ρ' => Q (.fr (.list acc)) (backE ρ1 ρ' own)
/-- a part of a slice -/
def wpO (Γ : Ctx) (Ed : Ex → En → Prop) : IO → En → (Option Int → En → Prop) → Prop
  | .non, ρ, Q => Q none ρ
  | .som e, ρ, Q => wpE Γ Ed e ρ fun r ρ1 => (match r with
    | .im (.int i) => Q (some i) ρ1
    | _ => False)
/-- the test of a comprehension -/
def wpO' (Γ : Ctx) : IO → En → (Bool → En → Prop) → Prop
  | .non, ρ, Q => Q true ρ
  | .som e, ρ, Q => wpE Γ noEx e ρ fun r ρ1 => asBool r fun k => Q k ρ1
def wpEs (Γ : Ctx) (Ed : Ex → En → Prop) : IEs → En → (List R → En → Prop) → Prop
  | .nil, ρ, Q => Q [] ρ
  | .cons e es, ρ, Q => wpE Γ Ed e ρ fun r ρ1 => wpEs Γ Ed es ρ1 fun rs ρ2 => Q (r :: rs) ρ2
def wpC (Γ : Ctx) (Ed : Ex → En → Prop) (isAnd k : Bool) : IEs → En → (R → En → Prop) → Prop
  | .nil, ρ, Q => Q (.im (.bool k)) ρ
  | .cons e es, ρ, Q => if k = isAnd then wpE Γ Ed e ρ fun r ρ1 => asBool r fun k' => wpC Γ Ed isAnd k' es ρ1 Q else Q (.im (.bool k)) ρ
def wpI (Γ : Ctx) (Ed : Ex → En → Prop) : II → En → (List D → En → Prop) → Prop
  | .seq e, ρ, Q => wpE Γ Ed e ρ fun r ρ1 => takeR ρ1 r fun d ρ2 => itemsD d fun ds => Q ds ρ2
  | .rg es, ρ, Q => wpEs Γ Ed es ρ fun rs ρ1 => peekAll ρ1 rs fun ds => rngD ds fun xs => Q xs ρ1
  | .enum e, ρ, Q => wpE Γ Ed e ρ fun r ρ1 => takeR ρ1 r fun d ρ2 => itemsD d fun ds => Q (ds.zipIdx.map fun p => .tuple [.int (p.2 : Int), p.1]) ρ2
  | .zip a b, ρ, Q => wpE Γ Ed a ρ fun r1 ρ1 => wpE Γ Ed b ρ1 fun r2 ρ2 => takeR ρ2 r1 fun d1 ρ3 => takeR ρ3 r2 fun d2 ρ4 => zipD d1 d2 fun ds => Q ds ρ4
/-- a frozen datum to a target -/
def asgT (Γ : Ctx) : IT → D → En → (En → Prop) → Prop
  | .nm i, d, ρ, K => K (ρ.set i (.im d))
  | .tup ts, d, ρ, K => (match d with
    | .tuple ds => ds.length = ts.len ∧ asgTs Γ ts ds ρ K
    | _ => False)
  | .sub i k, d, ρ, K => isOwL ρ i ∧ wpE Γ noEx k ρ fun r ρ1 => (match r, ρ1[i]? with
    | .im (.int j), some (.ow (.list ds)) => (match ixN ds.length j with
      | some m => K (ρ1.set i (.ow (.list (ds.set m d))))
      | none => False)
    | _, _ => False)
def asgTs (Γ : Ctx) : ITs → List D → En → (En → Prop) → Prop
  | .nil, ds, ρ, K => ds = [] ∧ K ρ
  | .cons t ts, ds, ρ, K => (match ds with
    | d :: r => asgT Γ t d ρ fun ρ1 => asgTs Γ ts r ρ1 K
    | [] => False)
end

/-- a result to a target -/
def asgR (Γ : Ctx) (t : IT) (r : R) (ρ : En) (K : En → Prop) : Prop := match t with
  | .nm i => slotR ρ r fun s ρ1 => K (ρ1.set i s)
  | t => takeR ρ r fun d ρ1 => asgT Γ t d ρ1 K

mutual
def wpS (Γ : Ctx) (Ed : Ex → En → Prop) : IS → En → Fin' → Prop
  | .ex e, ρ, F => wpE Γ Ed e ρ fun _ ρ1 => F.nx ρ1
  | .asg t e, ρ, F => wpE Γ Ed e ρ fun r ρ1 => asgR Γ t r ρ1 F.nx
  | .par ts es, ρ, F => wpEs Γ Ed es ρ fun rs ρ1 => slotAll ρ1 rs fun ss ρ2 => ss.length = ts.length ∧ F.nx (setAll ρ2 ts ss)
  | .ret e, ρ, F => wpE Γ Ed e ρ fun r ρ1 => retR ρ1 r F.rt
  | .ife c a b, ρ, F => wpE Γ Ed c ρ fun r ρ1 => asBool r fun k => if k = true then wpSs Γ Ed a ρ1 F else wpSs Γ Ed b ρ1 F
  | .for_ t it b, ρ, F => wpI Γ Ed it ρ fun ds ρ1 => forL (fun d ρ' F' => asgT Γ t d ρ' fun ρ2 => wpSs Γ Ed b ρ2 F') ds ρ1 F
  | .while_ c b, ρ, F => ∃ n, whileN (fun ρ' K => wpE Γ Ed c ρ' fun r ρ1 => asBool r fun k => K k ρ1) (fun ρ' F' => wpSs Γ Ed b ρ' F') n ρ F
  | .pass, ρ, F => F.nx ρ
  | .brk, ρ, F => F.bk ρ
  | .cont, ρ, F => F.ct ρ
  | .never, _, _ => False
def wpSs (Γ : Ctx) (Ed : Ex → En → Prop) : ISs → En → Fin' → Prop
  | .nil, ρ, F => F.nx ρ
  | .cons s ss, ρ, F => wpS Γ Ed s ρ { F with nx := fun ρ1 => wpSs Γ Ed ss ρ1 F }
end
end KR

end
section
set_option Elab.async false
set_option linter.all false
set_option maxRecDepth 100000
set_option genSizeOf false
set_option maxHeartbeats 1000000
/-! Operators over data: the library's rules by values, said of data. -/
namespace KR
open PySem L2

def BOp.op : BOp → Operator
  | .add => .Add | .sub => .Sub | .mul => .Mult | .fdiv => .FloorDiv | .mod => .Mod | .pow => .Pow
  | .shl => .LShift | .shr => .RShift | .band => .BitAnd | .bor => .BitOr | .bxor => .BitXor
def COp.op : COp → CmpOp
  | .eq => .Eq | .ne => .NotEq | .lt => .Lt | .le => .LtE | .gt => .Gt | .ge => .GtE | .isin => .In | .notin => .NotIn | .is_ => .Is | .isnot => .IsNot

/-- what is known of a value that is looked at -/
def Vw (K : PySem.W.Frag) (B H : Hp) (d : D) (v : V) : Prop := match d with
  | .list ds => ∃ p xs, v = .ref p ∧ H p = some (.lst xs) ∧ RpAll K B ds xs
  | .dict es => ∃ p, v = .ref p ∧ ((∃ kvs, H p = some (.dK kvs) ∧ RpDk K B es kvs) ∨ (∃ kvs, H p = some (.dT kvs) ∧ RpDt K B es kvs))
  | d => Rp K B d v
section
variable {W : Wld} {K : PySem.W.Frag} {A : Act} {B B' H H' : Hp} {ρ ρ' : En} {σ : L2.St} {p : Addr} {o : HO} {v : V} {d : D} {r : R}
theorem Vw.of_rp (h : Sub B H) (x : Rp K B d v) : Vw K B H d v := by
  cases d with
  | list ds => obtain ⟨a, xs, e, hb, q⟩ := x; exact ⟨a, xs, e, h _ _ hb, q⟩
  | dict es =>
    obtain ⟨a, e, q⟩ := x
    refine ⟨a, e, ?_⟩
    rcases q with ⟨kvs, hb, q⟩ | ⟨kvs, hb, q⟩
    · exact .inl ⟨kvs, h _ _ hb, q⟩
    · exact .inr ⟨kvs, h _ _ hb, q⟩
  | _ => exact x
theorem Vw.of_own (e : H p = some o) (x : OwnO K B d o) : Vw K B H d (.ref p) := by
  cases d with
  | list ds => cases o with
    | lst xs => exact ⟨p, xs, rfl, e, x⟩
    | _ => exact x.elim
  | dict es => cases o with
    | dK kvs => exact ⟨p, rfl, .inl ⟨kvs, e, x⟩⟩
    | dT kvs => exact ⟨p, rfl, .inr ⟨kvs, e, x⟩⟩
    | _ => exact x.elim
  | _ => exact x.elim
theorem Vw.mono (hb : Sub B B') (hh : Sub H H') (x : Vw K B H d v) : Vw K B' H' d v := by
  cases d with
  | list ds => obtain ⟨a, xs, e, h, q⟩ := x; exact ⟨a, xs, e, hh _ _ h, q.mono hb⟩
  | dict es =>
    obtain ⟨a, e, q⟩ := x
    refine ⟨a, e, ?_⟩
    rcases q with ⟨kvs, h, q⟩ | ⟨kvs, h, q⟩
    · exact .inl ⟨kvs, hh _ _ h, q.mono hb⟩
    · exact .inr ⟨kvs, hh _ _ h, q.mono hb⟩
  | _ => exact Rp.mono hb x
/-- over the whole heap it is the datum -/
theorem Vw.rp (h : Sub B H) (x : Vw K B H d v) : Rp K H d v := by
  cases d with
  | list ds => obtain ⟨a, xs, e, hb, q⟩ := x; exact ⟨a, xs, e, hb, q.mono h⟩
  | dict es =>
    obtain ⟨a, e, q⟩ := x
    refine ⟨a, e, ?_⟩
    rcases q with ⟨kvs, hb, q⟩ | ⟨kvs, hb, q⟩
    · exact .inl ⟨kvs, hb, q.mono h⟩
    · exact .inr ⟨kvs, hb, q.mono h⟩
  | _ => exact Rp.mono h x
theorem StOk.vw (S : StOk W K A B ρ σ H) (x : ResOk W K A B ρ σ H r v) (e : dataOf ρ r = some d) : Vw K B H d v := by
  cases r with
  | im d' => cases e; exact Vw.of_rp S.bh x
  | fr d' => cases e; obtain ⟨p, o, rfl, e1, ho, _⟩ := x; exact Vw.of_own e1 ho
  | br i =>
    have x : σ[i]? = some (some v) := x
    cases q : ρ[i]? with
    | none => simp only [dataOf, q] at e; cases e
    | some s =>
      simp only [dataOf, q] at e
      have sl := S.sl i s q
      cases s with
      | no => cases e
      | dk => cases e
      | im d' =>
        cases e
        obtain ⟨u, e1, r⟩ := sl
        rw [x] at e1; cases e1
        exact Vw.of_rp S.bh r
      | ow d' =>
        cases e
        obtain ⟨p, o, e1, e2, ho, _⟩ := sl
        rw [x] at e1; cases e1
        exact Vw.of_own e2 ho
  | dk => cases e
theorem peek_ok {Kd : D → Prop} (h : peek ρ r Kd) : ∃ d, dataOf ρ r = some d ∧ Kd d := by
  unfold peek at h
  cases e : dataOf ρ r with
  | none => rw [e] at h; exact h.elim
  | some d => rw [e] at h; exact ⟨d, rfl, h⟩
end

mutual
theorem Rp.dp {K : PySem.W.Frag} {H : Hp} : ∀ {d : D} {v : V}, d.canLay0 = true → Rp K H d v → Dp K H v d
  | .none, _, _, r => by rw [show _ = _ from r]; exact .non
  | .bool b, _, _, r => by rw [show _ = _ from r]; exact .bl b
  | .int i, _, _, r => by rw [show _ = _ from r]; exact .int i
  | .str s, _, _, r => by rw [show _ = _ from r]; exact .str s
  | .list ds, _, c, ⟨a, xs, e, hb, r⟩ => by subst e; exact .lst (SqL.of hb) (RpAll.dp (by simpa [PyData.canLay0] using c) r)
  | .tuple ds, _, c, ⟨a, xs, e, hb, r⟩ => by subst e; exact .tup hb (RpAll.dp (by simpa [PyData.canLay0] using c) r)
  | .dict es, _, c, _ => by simp [PyData.canLay0] at c
theorem RpAll.dp {K : PySem.W.Frag} {H : Hp} : ∀ {ds : List D} {xs : List V}, PyData.canLayAll0 ds = true → RpAll K H ds xs → DpAll K H xs ds
  | [], _, _, r => by rw [show _ = _ from r]; exact .nil
  | d :: ds, _, c, ⟨x, r, e, h1, h2⟩ => by
    subst e
    have c' : d.canLay0 = true ∧ PyData.canLayAll0 ds = true := by simpa [PyData.canLayAll0] using c
    exact .cons (Rp.dp c'.1 h1) (RpAll.dp c'.2 h2)
end
theorem shaped_lay {d : D} (h : SeqAt.shaped d = true) : d.canLay0 = true := by
  unfold SeqAt.shaped at h
  exact (Bool.and_eq_true_iff.mp h).1

/-- what follows a result -/
def Post (W : Wld) (K : PySem.W.Frag) (A : Act) (B : Hp) (ρ : En) (σ : L2.St) (Kr : R → Prop) (Q : VK) : Prop :=
  ∀ v H' r B', StOk W K A B' ρ σ H' → Sub B B' → ResOk W K A B' ρ σ H' r v → Kr r → Q v H'
section
variable {W : Wld} {K : PySem.W.Frag} {A : Act} {B B' H H' : Hp} {ρ ρ' : En} {σ : L2.St} {p : Addr} {o : HO} {v : V} {d : D} {r : R} {Kr : R → Prop} {Q : VK}
theorem Post.here (P : Post W K A B ρ σ Kr Q) (S : StOk W K A B ρ σ H) (x : Rp K B d v) (k : Kr (.im d)) : Q v H := P v H (.im d) B S (Sub.refl _) x k
theorem Post.newT (P : Post W K A B ρ σ Kr Q) (S : StOk W K A B ρ σ H) {ds : List D} {xs : List V} (x : RpAll K B ds xs) (k : Kr (.im (.tuple ds))) (n : H p = none) : Q (.ref p) (upd H p (.tup xs)) := by
  have n1 := (S.fresh n).1
  exact P _ _ (.im (.tuple ds)) _ (S.laid n) (Sub.new n1) ⟨p, xs, rfl, SqT.of upd_same, x.mono (Sub.new n1)⟩ k
theorem Post.newL (P : Post W K A B ρ σ Kr Q) (S : StOk W K A B ρ σ H) {ds : List D} {xs : List V} (x : RpAll K B ds xs) (k : Kr (.fr (.list ds))) (n : H p = none) : Q (.ref p) (upd H p (.lst xs)) := by
  obtain ⟨S', R'⟩ := S.loose (d := .list ds) (o := .lst xs) n x
  exact P _ _ (.fr (.list ds)) _ S' (Sub.refl _) R' k
end

/-! ### binary operators -/
def rBin (W : Wld) (K : PySem.W.Frag) (op : BOp) : R2 := fun x y H Q => ∃ A ρ σ B d1 d2 Kr, StOk W K A B ρ σ H ∧ Vw K B H d1 x ∧ Vw K B H d2 y ∧ binD op d1 d2 Kr ∧ Post W K A B ρ σ Kr Q
theorem op_mulI {X : Cx} : OpR X (binaryOp .Mult) (rI IntMulOk fun i j => .int (i * j)) := opI fun _ _ _ _ _ _ _ hc q => PyProof.Rows.mul_int q hc
theorem op_bin {X : Cx} {W : Wld} (op : BOp) : OpR X (binaryOp op.op) (rBin W X.K op) := by
  intro pins s σ H x y v u Q I rx ry h
  obtain ⟨A, ρ, σ', B, d1, d2, Kr, S, h1, h2, hd, P⟩ := h
  cases op with
  | add =>
    cases d1 <;> cases d2 <;> first | exact False.elim hd | skip
    case int.int i j => exact op_add pins s σ H x y v u Q I rx ry ⟨i, j, h1, h2, P.here S (d := .int (i + j)) rfl hd⟩
    case str.str i j => exact op_add_str pins s σ H x y v u Q I rx ry ⟨i, j, h1, h2, hd.1, P.here S (d := .str (i ++ j)) rfl hd.2⟩
    case list.list i j =>
      obtain ⟨p, xs, e1, e2, r1⟩ := h1
      obtain ⟨q, ys, e3, e4, r2⟩ := h2
      exact op_cat pins s σ H x y v u Q I rx ry ⟨p, q, xs, ys, e1, e3, e2, e4, by rw [r1.length, r2.length]; exact hd.1, fun t ht => P.newL S (r1.append r2) hd.2 ht⟩
    case tuple.tuple i j =>
      obtain ⟨p, xs, e1, e2, r1⟩ := h1
      obtain ⟨q, ys, e3, e4, r2⟩ := h2
      have l1 := r1.length
      have l2 := r2.length
      refine op_catA pins s σ H x y v u Q I rx ry ⟨p, q, xs, ys, e1, e3, S.bh.sqT e2, S.bh.sqT e4, by rw [r1.length, r2.length]; exact hd.1, fun e => ?_, fun _ e => ?_, fun _ _ t ht => P.newT S (r1.append r2) hd.2 ht⟩
      · have z : i = [] := by rw [e] at l1; exact List.eq_nil_of_length_eq_zero l1.symm
        subst z
        exact P.here S (d := .tuple j) ⟨q, ys, rfl, e4, r2⟩ hd.2
      · have z : j = [] := by rw [e] at l2; exact List.eq_nil_of_length_eq_zero l2.symm
        subst z
        exact P.here S (d := .tuple i) ⟨p, xs, rfl, e2, r1⟩ (by have := hd.2; rwa [List.append_nil] at this)
  | sub =>
    cases d1 <;> cases d2 <;> first | exact False.elim hd | skip
    case int.int i j => exact op_sub pins s σ H x y v u Q I rx ry ⟨i, j, h1, h2, P.here S (d := .int (i - j)) rfl hd⟩
  | mul =>
    cases d1 <;> cases d2 <;> first | exact False.elim hd | skip
    case int.int i j => exact op_mulI pins s σ H x y v u Q I rx ry ⟨i, j, h1, h2, hd.1, P.here S (d := .int (i * j)) rfl hd.2⟩
    case list.int i j =>
      obtain ⟨p, xs, e1, e2, r1⟩ := h1
      exact op_rep pins s σ H x y v u Q I rx ry ⟨p, j, xs, e1, h2, e2, hd.1.1, hd.1.2.1, by rw [r1.length]; exact hd.1.2.2, fun t ht => P.newL S (r1.flatten j.toNat) hd.2 ht⟩
    case tuple.int i j =>
      obtain ⟨p, xs, e1, e2, r1⟩ := h1
      refine op_repT pins s σ H x y v u Q I rx ry ⟨p, j, xs, e1, h2, S.bh.sqT e2, fun e => hd.1.1 ?_, hd.1.2.1, hd.1.2.2.1, by rw [r1.length]; exact hd.1.2.2.2, fun t ht => P.newT S (r1.flatten j.toNat) hd.2 ht⟩
      have l1 := r1.length
      rw [e] at l1
      exact List.eq_nil_of_length_eq_zero l1.symm
  | fdiv =>
    cases d1 <;> cases d2 <;> first | exact False.elim hd | skip
    case int.int i j => exact op_fdivW pins s σ H x y v u Q I rx ry ⟨i, j, h1, h2, hd.1, P.here S (d := .int (i / j)) rfl hd.2⟩
  | mod =>
    cases d1 <;> cases d2 <;> first | exact False.elim hd | skip
    case int.int i j => exact op_mod pins s σ H x y v u Q I rx ry ⟨i, j, h1, h2, hd.1, P.here S (d := .int (i % j)) rfl hd.2⟩
  | pow =>
    cases d1 <;> cases d2 <;> first | exact False.elim hd | skip
    case int.int i j => exact op_pow pins s σ H x y v u Q I rx ry ⟨i, j, h1, h2, hd.1, P.here S (d := .int (i ^ j.toNat)) rfl hd.2⟩
  | shl =>
    cases d1 <;> cases d2 <;> first | exact False.elim hd | skip
    case int.int i j => exact op_shl pins s σ H x y v u Q I rx ry ⟨i, j, h1, h2, hd.1, P.here S (d := .int (i * 2 ^ j.toNat)) rfl hd.2⟩
  | shr =>
    cases d1 <;> cases d2 <;> first | exact False.elim hd | skip
    case int.int i j => exact op_shr pins s σ H x y v u Q I rx ry ⟨i, j, h1, h2, hd.1, P.here S (d := .int (i / 2 ^ j.toNat)) rfl hd.2⟩
  | band =>
    cases d1 <;> cases d2 <;> first | exact False.elim hd | skip
    case int.int i j => exact op_and pins s σ H x y v u Q I rx ry ⟨i, j, h1, h2, P.here S (d := .int (Builtin.bitAnd i j)) rfl hd⟩
  | bor =>
    cases d1 <;> cases d2 <;> first | exact False.elim hd | skip
    case int.int i j => exact op_or pins s σ H x y v u Q I rx ry ⟨i, j, h1, h2, P.here S (d := .int (Builtin.bitOr i j)) rfl hd⟩
  | bxor =>
    cases d1 <;> cases d2 <;> first | exact False.elim hd | skip
    case int.int i j => exact op_xor pins s σ H x y v u Q I rx ry ⟨i, j, h1, h2, P.here S (d := .int (Builtin.bitXor i j)) rfl hd⟩
end KR

end
section
set_option Elab.async false
set_option linter.all false
set_option maxRecDepth 100000
set_option genSizeOf false
set_option maxHeartbeats 1000000
/-! Comparisons, items, slices, built-ins over data. -/
namespace KR
open PySem L2

def rCmp (W : Wld) (K : PySem.W.Frag) (op : COp) : R2 := fun x y H Q => ∃ (A : Act) (ρ : En) (σ : L2.St) (B : Hp) (d1 d2 : D) (Kb : Bool → Prop), StOk W K A B ρ σ H ∧ Vw K B H d1 x ∧ Vw K B H d2 y ∧ cmpD op d1 d2 Kb ∧ ∀ k, Kb k → Q (.bl k) H
theorem vw_non {K : PySem.W.Frag} {B H : Hp} {d : D} {v : V} (h : Vw K B H d v) : decide (v = .non) = isNon d := by
  cases d with
  | none => rw [show v = .non from h]; rfl
  | bool b => rw [show v = .bl b from h]; rfl
  | int b => rw [show v = .int b from h]; rfl
  | str b => rw [show v = .str b from h]; rfl
  | list b => obtain ⟨p, _, e, _⟩ := h; rw [e]; rfl
  | tuple b => obtain ⟨p, _, e, _⟩ := h; rw [e]; rfl
  | dict b => obtain ⟨p, e, _⟩ := h; rw [e]; rfl
theorem in_tup {X : Cx} (hu : X.A.units + 65 < cLine) {pins : List (Addr × Obj)} {s : Shared} {σ : L2.St} {H : Hp} {x y : V} {v u : Value} {Q : VK} {d : D} {ds : List D} (I : L2.Inv X pins σ H s) (rx : RelV x v) (ry : RelV y u) (hd : Dp X.K H x d) (he : Dp X.K H y (.tuple ds))
    (sd : SeqAt.shaped d = true) (se : SeqAt.shaped (.tuple ds) = true) (q : Q (.bl (ds.any fun z => PyData.eqv z d)) H) : wpAny (model X.prog X.w) X.A (compareOp .In v u) (EP X pins σ Q) X.xe s := by
  obtain ⟨as, r1⟩ := Dp.reads I d x v hd rx
  obtain ⟨bs, r2⟩ := Dp.reads I (.tuple ds) y u he ry
  exact SeqAt.in_tuple_reads r2 r1 (by have := shaped_lay se; simpa [PyData.canLay0] using this) (shaped_lay sd) (PyProof.Rows.room_in_shaped sd hu) ⟨.bl _, H, I, rfl, q⟩
theorem notIn_tup {X : Cx} (hu : X.A.units + 65 < cLine) {pins : List (Addr × Obj)} {s : Shared} {σ : L2.St} {H : Hp} {x y : V} {v u : Value} {Q : VK} {d : D} {ds : List D} (I : L2.Inv X pins σ H s) (rx : RelV x v) (ry : RelV y u) (hd : Dp X.K H x d) (he : Dp X.K H y (.tuple ds))
    (sd : SeqAt.shaped d = true) (se : SeqAt.shaped (.tuple ds) = true) (q : Q (.bl (!ds.any fun z => PyData.eqv z d)) H) : wpAny (model X.prog X.w) X.A (compareOp .NotIn v u) (EP X pins σ Q) X.xe s := by
  obtain ⟨as, r1⟩ := Dp.reads I d x v hd rx
  obtain ⟨bs, r2⟩ := Dp.reads I (.tuple ds) y u he ry
  exact SeqAt.notIn_tuple_reads r2 r1 (by have := shaped_lay se; simpa [PyData.canLay0] using this) (shaped_lay sd) (PyProof.Rows.room_in_shaped sd hu) ⟨.bl _, H, I, rfl, q⟩
theorem op_cmp {X : Cx} {W : Wld} (hu : X.A.units + 65 < cLine) (op : COp) : OpR X (compareOp op.op) (rCmp W X.K op) := by
  intro pins s σ H x y v u Q I rx ry h
  obtain ⟨A, ρ, σ', B, d1, d2, Kb, S, h1, h2, hd, P⟩ := h
  have rp1 := h1.rp S.bh
  have rp2 := h2.rp S.bh
  have go1 : ∀ (k1 : (SeqAt.shaped d1 = true ∧ SeqAt.shaped d2 = true) ∧ Kb (PyData.eqv d1 d2)), wpAny (model X.prog X.w) X.A (compareOp .Eq v u) (EP X pins σ Q) X.xe s := fun k1 =>
    op_eqD (by omega) pins s σ H x y v u Q I rx ry ⟨d1, d2, rp1.dp (shaped_lay k1.1.1), rp2.dp (shaped_lay k1.1.2), k1.1.1, k1.1.2, P _ k1.2⟩
  have go2 : ∀ (k1 : (SeqAt.shaped d1 = true ∧ SeqAt.shaped d2 = true) ∧ Kb (!PyData.eqv d1 d2)), wpAny (model X.prog X.w) X.A (compareOp .NotEq v u) (EP X pins σ Q) X.xe s := fun k1 =>
    op_neD (by omega) pins s σ H x y v u Q I rx ry ⟨d1, d2, rp1.dp (shaped_lay k1.1.1), rp2.dp (shaped_lay k1.1.2), k1.1.1, k1.1.2, P _ k1.2⟩
  cases op with
  | eq =>
    cases d1 <;> cases d2 <;> first | exact go1 hd | skip
    case int.int i j =>
      have e1 : x = .int i := h1
      have e2 : y = .int j := h2
      subst e1; subst e2
      exact op_eq pins s σ H _ _ v u Q I rx ry ⟨rfl, by rw [show decide (V.int i = V.int j) = decide (i = j) by simp]; exact P _ hd⟩
    case str.str i j =>
      have e1 : x = .str i := h1
      have e2 : y = .str j := h2
      subst e1; subst e2
      exact op_eq pins s σ H _ _ v u Q I rx ry ⟨rfl, by rw [show decide (V.str i = V.str j) = decide (i = j) by simp]; exact P _ hd⟩
    case list.list ds es =>
      rcases hd with hd | ⟨hne, hd⟩
      · exact go1 hd
      · obtain ⟨p, xs, rfl, e1, r1⟩ := rp1
        obtain ⟨q, ys, rfl, e2, r2⟩ := rp2
        cases rx; cases ry
        obtain ⟨its, rv, pl, _⟩ := I.list (SqL.of e1)
        obtain ⟨its2, rv2, pl2, _⟩ := I.list (SqL.of e2)
        have hn : its.length ≠ its2.length := by rw [← rv.length, ← rv2.length, r1.length, r2.length]; exact hne
        exact SeqAt.eq_list_lengthsAt pl.isList pl2.isList (by simpa using hn) (by omega) ⟨.bl false, H, I, rfl, P _ hd⟩
  | ne =>
    cases d1 <;> cases d2 <;> first | exact go2 hd | skip
    case int.int i j =>
      have e1 : x = .int i := h1
      have e2 : y = .int j := h2
      subst e1; subst e2
      exact op_ne pins s σ H _ _ v u Q I rx ry ⟨rfl, by rw [show decide (V.int i = V.int j) = decide (i = j) by simp]; exact P _ hd⟩
    case str.str i j =>
      have e1 : x = .str i := h1
      have e2 : y = .str j := h2
      subst e1; subst e2
      exact op_ne pins s σ H _ _ v u Q I rx ry ⟨rfl, by rw [show decide (V.str i = V.str j) = decide (i = j) by simp]; exact P _ hd⟩
    case list.list ds es =>
      rcases hd with hd | ⟨hne, hd⟩
      · exact go2 hd
      · obtain ⟨p, xs, rfl, e1, r1⟩ := rp1
        obtain ⟨q, ys, rfl, e2, r2⟩ := rp2
        cases rx; cases ry
        obtain ⟨its, rv, pl, _⟩ := I.list (SqL.of e1)
        obtain ⟨its2, rv2, pl2, _⟩ := I.list (SqL.of e2)
        have hn : its.length ≠ its2.length := by rw [← rv.length, ← rv2.length, r1.length, r2.length]; exact hne
        exact SeqAt.RcNeAt.lists_lengths pl.isList pl2.isList (by simpa using hn) (by omega) X.prog X.w X.xe _ ⟨.bl true, H, I, rfl, P _ hd⟩
  | lt =>
    cases d1 <;> cases d2 <;> first | exact False.elim hd | skip
    case int.int i j => exact op_lt pins s σ H x y v u Q I rx ry ⟨i, j, h1, h2, P _ hd⟩
  | le =>
    cases d1 <;> cases d2 <;> first | exact False.elim hd | skip
    case int.int i j => exact op_le pins s σ H x y v u Q I rx ry ⟨i, j, h1, h2, P _ hd⟩
  | gt =>
    cases d1 <;> cases d2 <;> first | exact False.elim hd | skip
    case int.int i j => exact op_gt pins s σ H x y v u Q I rx ry ⟨i, j, h1, h2, P _ hd⟩
  | ge =>
    cases d1 <;> cases d2 <;> first | exact False.elim hd | skip
    case int.int i j => exact op_ge pins s σ H x y v u Q I rx ry ⟨i, j, h1, h2, P _ hd⟩
  | isin =>
    cases d2 with
    | list ds => exact op_inD hu pins s σ H x y v u Q I rx ry ⟨d1, ds, rp1.dp (shaped_lay hd.1.1), rp2.dp (shaped_lay hd.1.2), hd.1.1, hd.1.2, P _ hd.2⟩
    | tuple ds => exact in_tup hu I rx ry (rp1.dp (shaped_lay hd.1.1)) (rp2.dp (shaped_lay hd.1.2)) hd.1.1 hd.1.2 (P _ hd.2)
    | _ => exact False.elim hd
  | notin =>
    cases d2 with
    | list ds => exact op_notInD hu pins s σ H x y v u Q I rx ry ⟨d1, ds, rp1.dp (shaped_lay hd.1.1), rp2.dp (shaped_lay hd.1.2), hd.1.1, hd.1.2, P _ hd.2⟩
    | tuple ds => exact notIn_tup hu I rx ry (rp1.dp (shaped_lay hd.1.1)) (rp2.dp (shaped_lay hd.1.2)) hd.1.1 hd.1.2 (P _ hd.2)
    | _ => exact False.elim hd
  | is_ =>
    cases d2 with
    | none => exact op_isN pins s σ H x y v u Q I rx ry ⟨h2, by rw [vw_non h1]; exact P _ hd⟩
    | _ => exact False.elim hd
  | isnot =>
    cases d2 with
    | none =>
      refine op_notN pins s σ H x y v u Q I rx ry ⟨h2, ?_⟩
      rw [vw_non h1]
      exact P _ hd
    | _ => exact False.elim hd

/-! ### items -/
theorem RpAll.atI {K : PySem.W.Frag} {B : Hp} {ds : List D} {xs : List V} {k : Int} {d : D} (r : RpAll K B ds xs) (e : L2.atI ds k = some d) : ∃ x, L2.atI xs k = some x ∧ Rp K B d x := by
  unfold L2.atI at e ⊢
  rw [r.length]
  cases q : ixN ds.length k with
  | none => rw [q] at e; cases e
  | some j =>
    rw [q] at e
    obtain ⟨x, e1, e2⟩ := r.get j (show ds[j]? = some d from e)
    exact ⟨x, e1, e2⟩
def rSub (W : Wld) (K : PySem.W.Frag) : R2 := fun x y H Q => ∃ (A : Act) (ρ : En) (σ : L2.St) (B : Hp) (d1 d2 : D) (Kd : D → Prop), StOk W K A B ρ σ H ∧ Vw K B H d1 x ∧ Vw K B H d2 y ∧ subD d1 d2 Kd ∧ ∀ d v, Rp K B d v → Kd d → Q v H
theorem ix_sub {X : Cx} {W : Wld} : IxR X (rSub W X.K) := by
  intro e1' e2' pins s σ H x y v u Q I rx ry ⟨A, ρ, σ', B, d1, d2, Kd, S, h1, h2, hd, P⟩ hpl
  refine ix_seq e1' e2' pins s σ H x y v u Q I rx ry ?_ hpl
  cases d1 <;> cases d2 <;> first | exact False.elim hd | skip
  case list.int ds k =>
    obtain ⟨p, xs, e1, e2, r1⟩ := h1
    have hd : (match L2.atI ds k with | some d => Kd d | none => False) := hd
    cases e : L2.atI ds k with
    | none => rw [e] at hd; exact hd.elim
    | some d =>
      rw [e] at hd
      obtain ⟨z, q1, q2⟩ := r1.atI e
      exact .inl ⟨p, xs, k, z, e1, h2, SqL.of e2, q1, P d z q2 hd⟩
  case tuple.int ds k =>
    obtain ⟨p, xs, e1, e2, r1⟩ := h1
    have hd : (match L2.atI ds k with | some d => Kd d | none => False) := hd
    cases e : L2.atI ds k with
    | none => rw [e] at hd; exact hd.elim
    | some d =>
      rw [e] at hd
      obtain ⟨z, q1, q2⟩ := r1.atI e
      exact .inr (.inl ⟨p, xs, k, z, e1, h2, S.bh.sqT e2, q1, P d z q2 hd⟩)
  case str.int z k =>
    have hd : z.length ≤ sizeLine ∧ (match L2.atI z.cps.toList k with | some c => Kd (.str ⟨#[c]⟩) | none => False) := hd
    obtain ⟨hz, hd⟩ := hd
    cases e : L2.atI z.cps.toList k with
    | none => rw [e] at hd; exact hd.elim
    | some c =>
      rw [e] at hd
      exact .inr (.inr ⟨z, k, c, h1, h2, hz, e, P (.str ⟨#[c]⟩) _ rfl hd⟩)

/-! ### slices -/
theorem RpAll.cut {K : PySem.W.Frag} {B : Hp} {ds : List D} {xs : List V} {lo hi : Option Int} (r : RpAll K B ds xs) : RpAll K B (cutD ds lo hi) (cutV xs lo hi) := by
  unfold cutD cutV
  rw [r.length]
  exact (r.drop _).take _
def rSlc (W : Wld) (K : PySem.W.Frag) : V → Option Int → Option Int → Hp → VK → Prop := fun x lo hi H Q => ∃ (A : Act) (ρ : En) (σ : L2.St) (B : Hp) (d : D) (Kr : R → Prop), StOk W K A B ρ σ H ∧ Vw K B H d x ∧ slcD d lo hi Kr ∧ Post W K A B ρ σ Kr Q
theorem sl_slc {X : Cx} {W : Wld} : SlR X (rSlc W X.K) := by
  intro pins s σ H x v vl vu lo hi sl Q I rx hs pl pu ⟨A, ρ, σ', B, d, Kr, S, h1, hd, P⟩
  cases d <;> first | exact False.elim hd | skip
  case list ds =>
    obtain ⟨p, xs, e1, e2, r1⟩ := h1
    exact sl_list pins s σ H x v vl vu lo hi sl Q I rx hs pl pu ⟨p, xs, e1, SqL.of e2, fun t ht => P.newL S r1.cut hd ht⟩
  case tuple ds =>
    obtain ⟨p, xs, e1, e2, r1⟩ := h1
    refine sl_tupA pins s σ H x v vl vu lo hi sl Q I rx hs pl pu ⟨p, xs, e1, S.bh.sqT e2, fun w => ?_, fun _ t ht => P.newT S r1.cut hd ht⟩
    refine P.here S (d := .tuple (cutD ds lo hi)) ⟨p, xs, rfl, e2, ?_⟩ hd
    have l1 := r1.length
    unfold cutD
    rw [← l1, w.1, w.2, List.drop_zero, Nat.sub_zero, l1, List.take_length]
    exact r1
end KR

end
section
set_option Elab.async false
set_option linter.all false
set_option maxRecDepth 100000
namespace KR
open PySem PySem.Spec PyProof.Rows L2
section
variable {P : Program} {w : World} {A : Around} {s : Shared} {E : Value → Shared → Prop}
/-- what a tuple holds, gone through into a list of its own -/
theorem gath_tup {l : Addr} {vs : List Value} {Q : List Value → Shared → Prop} (hl : s.heap.IsTuple l vs.toArray) (hz : vs.length ≤ sizeLine)
    (h : Q vs { s with heap := (s.heap.push (seqObj "list" #[] 0)).update s.heap.objs.size (Obj.mapSeq (· ++ vs.toArray)) }) : wpAny (model P w) A (collect (.ref l)) Q E s := by
  obtain ⟨o, ho, hc, n, hd⟩ := id hl
  have keepO : (s.heap.push (seqObj "list" #[] 0)).get? l = some o := Heap.get?_push_of_some _ ho
  have own : (s.heap.push (seqObj "list" #[] 0)).get? s.heap.objs.size = some (seqObj "list" #[] 0) := Heap.get?_push_size _ rfl
  have grow : ∀ {A' : Around} {Q' : PySem.Fin → Shared → Prop}, Q' (.done (.ret (.ref s.heap.objs.size))) { s with heap := (s.heap.push (seqObj "list" #[] 0)).update s.heap.objs.size (Obj.mapSeq (· ++ vs.toArray)) } → wpAny (model P w) A' (Builtin.List.listExtendWith (.ref s.heap.objs.size) (.ref l) (.ref s.heap.objs.size)) Q' E { s with heap := s.heap.push (seqObj "list" #[] 0) } := fun q => by
    unfold Builtin.List.listExtendWith
    refine wpAny_bind (wpAny_typeOf (T := "tuple") ⟨o, keepO, hc⟩ ?_)
    rw [if_pos (by rw [show (Value.type "tuple" == Value.type "tuple") = true by decide +kernel, Bool.or_true])]
    refine wpAny_bind (listItems_at keepO hd (wpAny_bind (listItems_at (xs := #[]) (n := 0) own rfl ?_)))
    rw [if_neg (by simp)]
    exact wpAny_bind (listUpdate_at (xs := #[]) (n := 0) own rfl (wpAny_pure q) (Nat.zero_le _) (by rw [Array.size_append, List.size_toArray, List.size_toArray]; simp only [List.length_nil]; omega))
  obtain ⟨n1, whole⟩ : ∃ n1, (((s.heap.push (seqObj "list" #[] 0)).update s.heap.objs.size (Obj.mapSeq (· ++ vs.toArray)))).get? s.heap.objs.size = some (seqObj "list" vs.toArray n1) := by
    have e := get?_update_seq own (· ++ vs.toArray)
    exact ⟨_, by simpa using e⟩
  unfold collect
  refine wpAny_bind (wpAny_runValue (codeAny_builtin entry_proto_collect' ?_))
  refine wpAny_bind (wpAny_newList (wpAny_pure ⟨Code.quiet_builtin _ (by decide +kernel), codeAny_builtin entry_list_iadd' (grow ?_)⟩) (Nat.zero_le _))
  dsimp only
  refine wpAny_bind (wpAny_load whole ?_)
  exact wpAny_pure h
/-- sorted over a tuple of ints -/
theorem sort_tup {l : Addr} {vs : List Value} {ns : List Int} {Q : Value → Shared → Prop} (hl : s.heap.IsTuple l vs.toArray) (hI : IntsAre vs ns) (h64 : vs.length < 64)
    (h : ∀ (out : List Value), SrtO.Srtd SrtO.ltIv out → SrtO.Stb SrtO.ltIv out vs → Q (.ref (s.heap.objs.size + 1)) { s with heap := sortedAll s.heap vs out.toArray }) : wpAny (model P w) A (call (.builtin "sorted") [.ref l]) Q E s := by
  have hz : vs.length ≤ sizeLine := by rw [sizeLine_eq]; omega
  refine Calls.call_function_entry kind_sorted plain_sorted entry_sorted (args_sorted1 _) ?_
  unfold Builtin.«sorted»
  refine wpAny_bind (m := checkCount "sorted" 1 1 _) (wpAny_pure (wpAny_bind (gath_tup hl hz (wpAny_bind (wpAny_newList ?_ hz)))))
  generalize hh1 : (s.heap.push (seqObj "list" #[] 0)).update s.heap.objs.size (Obj.mapSeq (· ++ vs.toArray)) = h1
  have n1 : h1.objs.size = s.heap.objs.size + 1 := by rw [← hh1, Heap.size_update, size_push']
  have own : (h1.push (seqObj "list" vs.toArray 0)).get? (s.heap.objs.size + 1) = some (seqObj "list" vs.toArray 0) := by rw [← n1]; exact Heap.get?_push_size _ rfl
  show wpAny _ _ _ _ _ { s with heap := h1.push (seqObj "list" vs.toArray 0) }
  rw [n1]
  refine wpAny_bind (wpAny_holding (wpAny_call_entry slot_list_sort ⟨_, own, rfl⟩ entry_list_sort (SrtO.list_sort_ord SrtO.swo_int own hz (fun h2 => SrtO.ints_sortable hI h2) fun out hs hb => ⟨_, rfl, wpAny_pure ⟨_, rfl, ?_⟩⟩) (args_list_sort _)))
  have e := h out hs hb
  unfold sortedAll at e
  rw [hh1] at e
  exact e
end
/-- sorted(xs), xs a tuple of ints -/
def rSortT (K : PySem.W.Frag) : List V → Hp → VK → Prop := fun vs H Q => ∃ (a : Addr) (ns : List Int), vs = [V.ref a] ∧ SqT K H a (ns.map V.int) ∧ ns.length < 64 ∧
  ∀ (ns' : List Int) (p : Addr), ns'.Perm ns → ns'.Pairwise (· ≤ ·) → H p = none → Q (.ref p) (upd H p (.lst (ns'.map V.int)))
theorem cr_sortT0 {X : Cx} : CallR X (.builtin "sorted") (rSortT X.K) := by
  intro pins s σ H vs us Q I r h
  obtain ⟨a, ns, rfl, hs, h64, q⟩ := h
  obtain ⟨its, rv, hl, _⟩ := I.tuple hs
  rw [Vals.ref1 r]
  have hi := rv.ints
  refine sort_tup hl hi (by rw [hi.length]; exact h64) fun out h1 h2 => ?_
  obtain ⟨k1, k2, k3⟩ := SrtO.ints_out hi h1 h2
  obtain ⟨ep, he'⟩ := PyProof.Rows.sortedAll_at s.heap its out.toArray
  have hlen : ((out.map SrtO.iv).map V.int).length ≤ sizeLine := by
    rw [List.length_map, k2.length_eq, sizeLine_eq]; omega
  exact ⟨.ref _, upd H (s.heap.objs.size + 1) (.lst ((out.map SrtO.iv).map V.int)), I.laid (t' := s.toks) (fun _ _ => PyProof.Rows.sortedAll_old) (Nat.le_succ _) ⟨hlen, out, ep, vals_of_ints k1, he'⟩, rfl, q _ _ k2 k3 (I.hok.fresh (Nat.le_succ _))⟩
end KR

end
section
set_option Elab.async false
set_option linter.all false
set_option maxRecDepth 100000
set_option genSizeOf false
set_option maxHeartbeats 1000000
/-! Data read off the heap (repr), built-ins over data. -/
namespace KR
open PySem L2

theorem key_reads {h : Heap} {kk : Key} {u : Value} (r : keyIs kk u = true) : Reads h u (kd kk) [] := by
  rcases keyIs_shape r with ⟨i, t, rfl, rfl⟩ | ⟨x, t, rfl, rfl⟩
  · exact .int i t
  · exact .str x t
theorem keys_read {P : Program} {w : World} {h : Heap} : ∀ {ks : List Key} {us : List Value}, ItemsAre (mixKind P w) ks us → ReadsAll h us (ks.map kd) []
  | [], _, .nil => .nil
  | _ :: _, _, .cons r t => .cons (bs := []) (key_reads r) (keys_read t)
section
variable {X : Cx} {pins : List (Addr × Obj)} {σ : L2.St} {H : Hp} {s : Shared}
mutual
theorem Rp.reads (n0 : H sysModules = none) (I : L2.Inv X pins σ H s) : ∀ (d : D) (v : V) (u : Value), Rp X.K H d v → RelV v u → ∃ as, Reads s.heap u d as ∧ sysModules ∉ as
  | .none, _, _, h, r => by
    rw [show _ = V.non from h] at r
    cases r
    exact ⟨_, Reads.none, by simp⟩
  | .bool b, _, _, h, r => by
    rw [show _ = V.bl b from h] at r
    cases r
    exact ⟨_, Reads.bool b, by simp⟩
  | .int i, _, _, h, r => by
    rw [show _ = V.int i from h] at r
    obtain ⟨t, rfl⟩ := r
    exact ⟨_, Reads.int i t, by simp⟩
  | .str x, _, _, h, r => by
    rw [show _ = V.str x from h] at r
    obtain ⟨t, rfl⟩ := r
    exact ⟨_, Reads.str x t, by simp⟩
  | .list ds, _, _, ⟨a, xs, e, hb, ha⟩, r => by
    subst e
    cases r
    obtain ⟨its, rv, ⟨o, n, ho, hc, _, hd⟩, _⟩ := I.list (SqL.of hb)
    obtain ⟨as, hr, ns⟩ := RpAll.reads n0 I ds _ its ha rv
    refine ⟨_, Reads.list ho hc hd hr, fun hm => ?_⟩
    rcases List.mem_cons.mp hm with e | hm
    · rw [e, hb] at n0; cases n0
    · exact ns hm
  | .tuple ds, _, _, ⟨a, xs, e, hb, ha⟩, r => by
    subst e
    cases r
    obtain ⟨its, rv, ⟨o, ho, hc, n, hd⟩, _⟩ := I.tuple hb
    obtain ⟨as, hr, ns⟩ := RpAll.reads n0 I ds _ its ha rv
    exact ⟨_, Reads.tuple ho hc hd hr, ns⟩
  | .dict es, _, _, ⟨a, e, .inl ⟨kvs, hb, ha⟩⟩, r => by
    subst e
    cases r
    obtain ⟨_, ne, vs, rel, o, ds, ep, ho, hc, hd, _, hp, _⟩ := I.hok a _ hb
    obtain ⟨as, bs, h1, h2, n1, n2⟩ := RpDk.reads n0 I es kvs vs ds.toList ha rel hp
    refine ⟨_, Reads.dict ho hc.1 hd h1 h2, fun hm => ?_⟩
    rcases List.mem_cons.mp hm with e | hm
    · rw [e] at n0; rw [hb] at n0; cases n0
    · rcases List.mem_append.mp hm with hm | hm
      · exact n1 hm
      · exact n2 hm
  | .dict es, _, _, ⟨a, e, .inr ⟨kvs, hb, ha⟩⟩, r => by
    subst e
    cases r
    obtain ⟨_, ne, xs, rel, o, ds, ep, ho, hc, hd, he, _⟩ := I.hok a _ hb
    obtain ⟨as, bs, h1, h2, n1, n2⟩ := RpDt.reads n0 I es kvs xs ha rel
    refine ⟨_, Reads.dict (kvs := es) (as := as) (bs := bs) ho hc.1 hd (by rw [he]; exact h1) (by rw [he]; exact h2), fun hm => ?_⟩
    rcases List.mem_cons.mp hm with e | hm
    · rw [e] at n0; rw [hb] at n0; cases n0
    · rcases List.mem_append.mp hm with hm | hm
      · exact n1 hm
      · exact n2 hm
theorem RpAll.reads (n0 : H sysModules = none) (I : L2.Inv X pins σ H s) : ∀ (ds : List D) (vs : List V) (us : List Value), RpAll X.K H ds vs → Vals vs us → ∃ as, ReadsAll s.heap us ds as ∧ sysModules ∉ as
  | [], _, _, h, r => by
    rw [show _ = [] from h] at r
    cases r
    exact ⟨_, ReadsAll.nil, by simp⟩
  | d :: ds, _, _, ⟨x, xs, e, h1, h2⟩, r => by
    subst e
    cases r with
    | cons r1 r2 =>
      obtain ⟨as, q1, n1⟩ := Rp.reads n0 I d _ _ h1 r1
      obtain ⟨bs, q2, n2⟩ := RpAll.reads n0 I ds _ _ h2 r2
      exact ⟨_, ReadsAll.cons q1 q2, fun hm => (List.mem_append.mp hm).elim n1 n2⟩
theorem RpDk.reads (n0 : H sysModules = none) (I : L2.Inv X pins σ H s) : ∀ (es : List (D × D)) (kvs : List (Key × V)) (vs : List (Key × Value)) (ds : List DictEntry), RpDk X.K H es kvs → KV kvs vs → Pairs (mixKind X.prog X.w) ds vs →
    ∃ as bs, ReadsAll s.heap (ds.map (·.key)) (es.map (·.1)) as ∧ ReadsAll s.heap (ds.map (·.val)) (es.map (·.2)) bs ∧ sysModules ∉ as ∧ sysModules ∉ bs
  | [], _, _, _, h, r, p => by
    rw [show _ = [] from h] at r
    cases r
    cases p
    exact ⟨_, _, ReadsAll.nil, ReadsAll.nil, by simp, by simp⟩
  | (k, d) :: es, _, _, _, ⟨kk, v, kvs, e, ek, h1, h2⟩, r, p => by
    subst e ek
    cases r with
    | cons r1 r2 =>
      cases p with
      | cons p1 p2 p3 =>
        have rv := r1.2
        rw [← p2] at rv
        obtain ⟨as, q1, n1⟩ := Rp.reads n0 I d _ _ h1 rv
        obtain ⟨bs, cs, q2, q3, n2, n3⟩ := RpDk.reads n0 I es _ _ _ h2 r2 p3
        have p1 : keyIs _ _ = true := p1
        rw [← r1.1] at p1
        exact ⟨_, _, ReadsAll.cons (key_reads p1) q2, ReadsAll.cons q1 q3, by simpa using n2, fun hm => (List.mem_append.mp hm).elim n1 n3⟩
theorem RpDt.reads (n0 : H sysModules = none) (I : L2.Inv X pins σ H s) : ∀ (es : List (D × D)) (kvs : List (List Key × V)) (xs : List (List Key × Addr × Value)), RpDt X.K H es kvs →
    Paired (fun (p : List Key × V) (q : List Key × Addr × Value) => p.1 = q.1 ∧ H q.2.1 = some (.tup (p.1.map kV)) ∧ RelV p.2 q.2.2) kvs xs →
    ∃ as bs, ReadsAll s.heap ((xs.map (entryOfKey (tupleKind (mixKind X.prog X.w)))).map (·.key)) (es.map (·.1)) as ∧ ReadsAll s.heap ((xs.map (entryOfKey (tupleKind (mixKind X.prog X.w)))).map (·.val)) (es.map (·.2)) bs ∧ sysModules ∉ as ∧ sysModules ∉ bs
  | [], _, _, h, r => by
    rw [show _ = [] from h] at r
    cases r
    exact ⟨_, _, ReadsAll.nil, ReadsAll.nil, by simp, by simp⟩
  | (k, d) :: es, _, _, ⟨kk, v, kvs, e, ek, h1, h2⟩, r => by
    subst e ek
    cases r with
    | cons r1 r2 =>
      obtain ⟨as, q1, n1⟩ := Rp.reads n0 I d _ _ h1 r1.2.2
      obtain ⟨bs, cs, q2, q3, n2, n3⟩ := RpDt.reads n0 I es _ _ h2 r2
      obtain ⟨its, rv, ⟨o, ho, hc, n, hd⟩, _⟩ := I.tuple (SqT.of r1.2.1)
      have kr : ReadsAll s.heap its.toArray.toList (kk.map kd) [] := by
        simpa using keys_read (P := X.prog) (w := X.w) (items_are rv)
      exact ⟨_, _, ReadsAll.cons (as := []) (Reads.tuple ho hc hd kr) q2, ReadsAll.cons q1 q3, by simpa using n2, fun hm => (List.mem_append.mp hm).elim n1 n3⟩
end
end

/-! ### isinstance -/
def tyOf : D → String
  | .none => "NoneType" | .bool _ => "bool" | .int _ => "int" | .str _ => "str" | .list _ => "list" | .tuple _ => "tuple" | .dict _ => "dict"
theorem vw_ty {K : PySem.W.Frag} {B H : Hp} (hs : Sub B H) {d : D} {v : V} (h : Vw K B H d v) : TyX K H v (.type (tyOf d)) := by
  cases d with
  | none => rw [show v = .non from h]; exact .base .non
  | bool b => rw [show v = .bl b from h]; exact .base (.bl b)
  | int b => rw [show v = .int b from h]; exact .base (.int b)
  | str b => rw [show v = .str b from h]; exact .base (.str b)
  | list b => obtain ⟨p, _, e, h, _⟩ := h; rw [e]; exact .base (.lst h)
  | tuple b =>
    obtain ⟨p, _, e, h, _⟩ := h
    rw [e]
    rcases hs.sqT h with (h | ⟨o, h⟩) | ⟨o, its, n, h, hc, _⟩
    · exact .base (.tup h)
    · exact .fTuple h
    · exact .kTuple h hc
  | dict b =>
    obtain ⟨p, e, h⟩ := h
    rw [e]
    rcases h with ⟨kvs, h, _⟩ | ⟨kvs, h, _⟩
    · exact .base (.dK h)
    · exact .base (.dT h)
def tyNames : List String := ["bool", "int", "str", "list", "tuple", "dict"]
theorem kit_all : ∀ ty ∈ tyNames, ∀ t ∈ ["NoneType", "bool", "int", "str", "list", "tuple", "dict"], kitB t ty = some (t == ty || (t == "bool" && ty == "int")) := by
  decide +kernel
theorem isTy_eq (ty : String) (h : ty ∈ tyNames) (d : D) : kitB (tyOf d) ty = some (isTy ty d) := by
  have k := kit_all ty h
  simp only [tyNames, List.mem_cons, List.not_mem_nil, or_false] at h
  cases d <;> (refine (k _ (by simp [tyOf])).trans ?_; rcases h with rfl | rfl | rfl | rfl | rfl | rfl <;> rfl)
def rIst (W : Wld) (K : PySem.W.Frag) (ty : String) : List V → Hp → VK → Prop := fun xs H Q => ∃ (A : Act) (ρ : En) (σ : L2.St) (B : Hp) (d : D) (x : V), xs = [x, .ty ty] ∧ StOk W K A B ρ σ H ∧ Vw K B H d x ∧ Q (.bl (isTy ty d)) H
theorem call_ist {X : Cx} {W : Wld} {ty : String} (h : ty ∈ tyNames) : CallR X (.builtin "isinstance") (rIst W X.K ty) := by
  intro pins s σ H xs us Q I r ⟨A, ρ, σ', B, d, x, e, S, v, q⟩
  exact call_isi pins s σ H xs us Q I r ⟨x, .ty ty, _, _, _, e, .ty ty, vw_ty S.bh v, kit_ty (isTy_eq ty h d), q⟩

/-! ### built-ins by name -/
def Bi.name : Bi → Str
  | .len => "len" | .int => "int" | .abs => "abs" | .min => "min" | .max => "max" | .list => "list" | .tuple => "tuple" | .sum => "sum" | .sorted => "sorted" | .repr => "repr" | .any => "any" | .all => "all" | .str => "str"
def Bi.val : Bi → Value
  | .len => .builtin "len" | .int => .type "int" | .abs => .builtin "abs" | .min => .builtin "min" | .max => .builtin "max" | .list => .type "list" | .tuple => .type "tuple" | .sum => .builtin "sum" | .sorted => .builtin "sorted" | .repr => .builtin "repr"
  | .any => .builtin "any" | .all => .builtin "all" | .str => .type "str"
theorem Bi.boot (b : Bi) : bootBuiltins b.name = some b.val := by cases b <;> decide +kernel
inductive VwAll (K : PySem.W.Frag) (B H : Hp) : List D → List V → Prop
  | nil : VwAll K B H [] []
  | cons {d : D} {ds : List D} {v : V} {vs : List V} : Vw K B H d v → VwAll K B H ds vs → VwAll K B H (d :: ds) (v :: vs)
theorem VwAll.one {K : PySem.W.Frag} {B H : Hp} {d : D} {xs : List V} (h : VwAll K B H [d] xs) : ∃ x, xs = [x] ∧ Vw K B H d x := by
  cases h with
  | cons a b => cases b; exact ⟨_, rfl, a⟩
theorem VwAll.two {K : PySem.W.Frag} {B H : Hp} {d e : D} {xs : List V} (h : VwAll K B H [d, e] xs) : ∃ x y, xs = [x, y] ∧ Vw K B H d x ∧ Vw K B H e y := by
  cases h with
  | cons a b =>
    obtain ⟨y, e, b⟩ := b.one
    exact ⟨_, y, by rw [e], a, b⟩
def rBi (W : Wld) (K : PySem.W.Frag) (b : Bi) : List V → Hp → VK → Prop := fun xs H Q => ∃ (A : Act) (ρ : En) (σ : L2.St) (B : Hp) (ds : List D) (Kr : R → Prop), StOk W K A B ρ σ H ∧ VwAll K B H ds xs ∧ biD b ds Kr ∧ Post W K A B ρ σ Kr Q
theorem intsOf_eq : ∀ {ds : List D} {ns : List Int}, intsOf ds = some ns → ds = ns.map PyData.int
  | [], ns, h => by cases h; rfl
  | d :: ds, ns, h => by
    cases d with
    | int i =>
      have h : (intsOf ds).map (i :: ·) = some ns := h
      cases e : intsOf ds with
      | none => rw [e] at h; cases h
      | some ms => rw [e] at h; cases h; rw [intsOf_eq e]; rfl
    | _ => cases h
theorem boolsOf_eq : ∀ {ds : List D} {ns : List Bool}, boolsOf ds = some ns → ds = ns.map PyData.bool
  | [], ns, h => by cases h; rfl
  | d :: ds, ns, h => by
    cases d with
    | bool i =>
      have h : (boolsOf ds).map (i :: ·) = some ns := h
      cases e : boolsOf ds with
      | none => rw [e] at h; cases h
      | some ms => rw [e] at h; cases h; rw [boolsOf_eq e]; rfl
    | _ => cases h
theorem RpAll.bools {K : PySem.W.Frag} {B : Hp} : ∀ {ns : List Bool} {xs : List V}, RpAll K B (ns.map PyData.bool) xs → xs = ns.map V.bl
  | [], _, r => r
  | _ :: _, _, ⟨x, r, e, h1, h2⟩ => by subst e; rw [show x = _ from h1, RpAll.bools h2]; rfl
theorem guards_repr {X : Cx} (hg : X.A.guards = some []) (hu : X.A.units + 70 < cLine) {pins : List (Addr × Obj)} {s : Shared} {σ : L2.St} {H : Hp} {x : V} {v : Value} {Q : VK} {d : D} (n0 : H sysModules = none) (I : L2.Inv X pins σ H s) (rx : RelV x v) (hd : Rp X.K H d x)
    (h1 : d.showable = true) (h2 : d.depth ≤ 64) (h3 : d.shown.length ≤ sizeLine) (q : Q (.str d.shown) H) : wpAny (model X.prog X.w) X.A (call (.builtin "repr") [v]) (EP X pins σ Q) X.xe s := by
  have deep : ∀ (a : Addr) (as : List Addr), v = .ref a → Reads s.heap (.ref a) d as → sysModules ∉ as → wpAny (model X.prog X.w) X.A (call (.builtin "repr") [v]) (EP X pins σ Q) X.xe s := fun a as e r ns => by
    subst e
    exact repr_of_reads' r h1 (fun _ => ns) hg (by omega) (fun _ _ z => z) (fun h' u tk hk => ⟨.str d.shown, H, I.kept (t' := tk) hk, ⟨_, rfl⟩, q⟩) h3
  obtain ⟨as, r, ns⟩ := Rp.reads n0 I d x v hd rx
  cases d with
  | none => cases r; exact PySem.P.repr_of_none ⟨.str _, H, I.tok _, ⟨_, rfl⟩, q⟩
  | bool b => cases r; exact PySem.P.repr_of_bool ⟨.str _, H, I.tok _, ⟨_, rfl⟩, q⟩
  | int i => cases r; exact PySem.P.repr_of_int (by simpa [PyData.showable] using h1) ⟨.str _, H, I.tok _, ⟨_, rfl⟩, q⟩
  | str z => cases r; exact PySem.P.repr_of_str ⟨.str _, H, I.tok _, ⟨_, rfl⟩, q⟩ h3
  | list ds => obtain ⟨a, _, e, _⟩ := hd; subst e; cases rx; exact deep a as rfl r ns
  | tuple ds => obtain ⟨a, _, e, _⟩ := hd; subst e; cases rx; exact deep a as rfl r ns
  | dict ds => obtain ⟨a, e, _⟩ := hd; subst e; cases rx; exact deep a as rfl r ns
theorem call_bi {X : Cx} {W : Wld} (hc : X.calm = true) (hg : X.A.guards = some []) (hu : X.A.units + 70 < cLine) (n0 : ∀ {pins σ H s}, L2.Inv X pins σ H s → H sysModules = none) (b : Bi) : CallR X b.val (rBi W X.K b) := by
  intro pins s σ H xs us Q I r ⟨A, ρ, σ', B, ds, Kr, S, vw, hd, P⟩
  have one : ∀ (d : D), ds = [d] → ∃ x, xs = [x] ∧ Vw X.K B H d x := fun d e => by subst e; exact vw.one
  have two : ∀ (d e : D), ds = [d, e] → ∃ x y, xs = [x, y] ∧ Vw X.K B H d x ∧ Vw X.K B H e y := fun d e q => by subst q; exact vw.two
  rcases ds with _ | ⟨d, _ | ⟨e, _ | ⟨f, rest⟩⟩⟩
  · cases b <;> exact False.elim hd
  · obtain ⟨x, rfl, vx⟩ := one d rfl
    cases b with
    | len =>
      cases d <;> first | exact False.elim hd | skip
      case str z => exact call_len pins s σ H _ us Q I r ⟨x, z.length, rfl, by rw [show x = .str z from vx]; exact ⟨hd.1, rfl⟩, P.here S (d := .int z.length) rfl hd.2⟩
      case list zs =>
        obtain ⟨p, ys, e1, e2, r1⟩ := vx
        exact call_len pins s σ H _ us Q I r ⟨x, ys.length, rfl, by rw [e1]; exact .inl ⟨ys, SqL.of e2, rfl⟩, by rw [r1.length]; exact P.here S (d := .int zs.length) rfl hd⟩
      case tuple zs =>
        obtain ⟨p, ys, e1, e2, r1⟩ := vx
        exact call_len pins s σ H _ us Q I r ⟨x, ys.length, rfl, by rw [e1]; exact .inr ⟨ys, S.bh.sqT e2, rfl⟩, by rw [r1.length]; exact P.here S (d := .int zs.length) rfl hd⟩
    | int =>
      cases d <;> first | exact False.elim hd | skip
      case int i => exact call_int1 pins s σ H _ us Q I r (.inl ⟨i, by rw [show x = .int i from vx], P.here S (d := .int i) rfl hd⟩)
      case bool i => exact call_int1 pins s σ H _ us Q I r (.inr ⟨i, by rw [show x = .bl i from vx], P.here S (d := .int (if i then 1 else 0)) rfl hd⟩)
    | abs =>
      cases d <;> first | exact False.elim hd | skip
      case int i => exact call_abs pins s σ H _ us Q I r ⟨i, by rw [show x = .int i from vx], P.here S (d := .int _) rfl hd⟩
    | min =>
      cases d <;> first | exact False.elim hd | skip
      case list zs =>
        obtain ⟨p, ys, e1, e2, r1⟩ := vx
        have hd2 : (match intsOf zs with | some ns => 0 < ns.length ∧ ∀ m, m ∈ ns → (∀ y, y ∈ ns → m ≤ y) → Kr (.im (.int m)) | none => False) := hd
        cases e : intsOf zs with
        | none => rw [e] at hd2; exact hd2.elim
        | some ns =>
          rw [e] at hd2
          have ez := intsOf_eq e
          subst ez
          have ey := r1.ints
          subst ey e1
          exact cr_min hc pins s σ H _ us Q I r ⟨p, ns, rfl, SqL.of e2, hd2.1, fun m hm hl => P.here S (d := .int m) rfl (hd2.2 m hm hl)⟩
    | max =>
      cases d <;> first | exact False.elim hd | skip
      case list zs =>
        obtain ⟨p, ys, e1, e2, r1⟩ := vx
        have hd2 : (match intsOf zs with | some ns => 0 < ns.length ∧ ∀ m, m ∈ ns → (∀ y, y ∈ ns → y ≤ m) → Kr (.im (.int m)) | none => False) := hd
        cases e : intsOf zs with
        | none => rw [e] at hd2; exact hd2.elim
        | some ns =>
          rw [e] at hd2
          have ez := intsOf_eq e
          subst ez
          have ey := r1.ints
          subst ey e1
          exact cr_max hc pins s σ H _ us Q I r ⟨p, ns, rfl, SqL.of e2, hd2.1, fun m hm hl => P.here S (d := .int m) rfl (hd2.2 m hm hl)⟩
    | list =>
      cases d <;> first | exact False.elim hd | skip
      case list zs =>
        obtain ⟨p, ys, e1, e2, r1⟩ := vx
        exact call_list_of pins s σ H _ us Q I r ⟨p, ys, by rw [e1], .inl (SqL.of e2), fun l hl => P.newL S r1 hd hl⟩
      case tuple zs =>
        obtain ⟨p, ys, e1, e2, r1⟩ := vx
        exact call_list_of pins s σ H _ us Q I r ⟨p, ys, by rw [e1], .inr (S.bh.sqT e2), fun l hl => P.newL S r1 hd hl⟩
    | tuple =>
      cases d <;> first | exact False.elim hd | skip
      case list zs =>
        obtain ⟨p, ys, e1, e2, r1⟩ := vx
        exact call_tuple_of pins s σ H _ us Q I r ⟨p, ys, by rw [e1], .inl ⟨SqL.of e2, fun l hl => P.newT S r1 hd hl⟩⟩
      case tuple zs =>
        obtain ⟨p, ys, e1, e2, r1⟩ := vx
        exact call_tuple_of pins s σ H _ us Q I r ⟨p, ys, by rw [e1], .inr ⟨S.bh.sqT e2, P.here S (d := .tuple zs) ⟨p, ys, rfl, e2, r1⟩ hd⟩⟩
    | sum =>
      cases d <;> first | exact False.elim hd | skip
      case list zs =>
        obtain ⟨p, ys, e1, e2, r1⟩ := vx
        have hd2 : (match intsOf zs with | some ns => Kr (.im (.int ns.sum)) | none => False) := hd
        cases e : intsOf zs with
        | none => rw [e] at hd2; exact hd2.elim
        | some ns =>
          rw [e] at hd2
          have ez := intsOf_eq e
          subst ez
          have ey := r1.ints
          subst ey e1
          exact cr_sum hc pins s σ H _ us Q I r ⟨p, ns, rfl, SqL.of e2, P.here S (d := .int ns.sum) rfl hd2⟩
    | sorted =>
      cases d <;> first | exact False.elim hd | skip
      case list zs =>
        obtain ⟨p, ys, e1, e2, r1⟩ := vx
        have hd2 : (match intsOf zs with | some ns => ns.length < 64 ∧ ∀ ms : List Int, ms.Perm ns → ms.Pairwise (· ≤ ·) → Kr (.fr (.list (ms.map PyData.int))) | none => False) := hd
        cases e : intsOf zs with
        | none => rw [e] at hd2; exact hd2.elim
        | some ns =>
          rw [e] at hd2
          have ez := intsOf_eq e
          subst ez
          have ey := r1.ints
          subst ey e1
          exact cr_sorted pins s σ H _ us Q I r ⟨p, ns, rfl, SqL.of e2, hd2.1, fun ms l h1 h2 hl => P.newL S (RpAll.of_ints ms) (hd2.2 ms h1 h2) hl⟩
      case tuple zs =>
        obtain ⟨p, ys, e1, e2, r1⟩ := vx
        have hd2 : (match intsOf zs with | some ns => ns.length < 64 ∧ ∀ ms : List Int, ms.Perm ns → ms.Pairwise (· ≤ ·) → Kr (.fr (.list (ms.map PyData.int))) | none => False) := hd
        cases e : intsOf zs with
        | none => rw [e] at hd2; exact hd2.elim
        | some ns =>
          rw [e] at hd2
          have ez := intsOf_eq e
          subst ez
          have ey := r1.ints
          subst ey e1
          exact cr_sortT0 pins s σ H _ us Q I r ⟨p, ns, rfl, S.bh.sqT e2, hd2.1, fun ms l h1 h2 hl => P.newL S (RpAll.of_ints ms) (hd2.2 ms h1 h2) hl⟩
    | repr =>
      obtain ⟨u, rfl, rx⟩ := vals1 r
      exact guards_repr hg hu (n0 I) I rx (vx.rp S.bh) hd.1.1 hd.1.2.1 hd.1.2.2 (P.here S (d := .str d.shown) rfl hd.2)
    | any =>
      cases d <;> first | exact False.elim hd | skip
      case list zs =>
        obtain ⟨p, ys, e1, e2, r1⟩ := vx
        have hd2 : (match boolsOf zs with | some ns => Kr (.im (.bool (ns.any id))) | none => False) := hd
        cases e : boolsOf zs with
        | none => rw [e] at hd2; exact hd2.elim
        | some ns =>
          rw [e] at hd2
          have ez := boolsOf_eq e
          subst ez
          have ey := r1.bools
          subst ey e1
          exact cr_any hc pins s σ H _ us Q I r ⟨p, ns, rfl, SqL.of e2, P.here S (d := .bool _) rfl hd2⟩
    | all =>
      cases d <;> first | exact False.elim hd | skip
      case list zs =>
        obtain ⟨p, ys, e1, e2, r1⟩ := vx
        have hd2 : (match boolsOf zs with | some ns => Kr (.im (.bool (ns.all id))) | none => False) := hd
        cases e : boolsOf zs with
        | none => rw [e] at hd2; exact hd2.elim
        | some ns =>
          rw [e] at hd2
          have ez := boolsOf_eq e
          subst ez
          have ey := r1.bools
          subst ey e1
          exact cr_all hc pins s σ H _ us Q I r ⟨p, ns, rfl, SqL.of e2, P.here S (d := .bool _) rfl hd2⟩
    | str =>
      cases d <;> first | exact False.elim hd | skip
      case int i => exact call_str_int pins s σ H _ us Q I r ⟨i, by rw [show x = .int i from vx], hd.1, P.here S (d := .str (toString i)) rfl hd.2⟩
  · obtain ⟨x, y, rfl, vx, vy⟩ := two d e rfl
    cases b <;> cases d <;> cases e <;> first | exact False.elim hd | skip
    case min.int.int i j => exact call_min2 hc pins s σ H _ us Q I r ⟨i, j, by rw [show x = .int i from vx, show y = .int j from vy], P.here S (d := .int _) rfl hd⟩
    case max.int.int i j => exact call_max2 hc pins s σ H _ us Q I r ⟨i, j, by rw [show x = .int i from vx, show y = .int j from vy], P.here S (d := .int _) rfl hd⟩
  · cases b <;> cases d <;> first | exact False.elim hd | (cases e <;> exact False.elim hd)
end KR

end
section
set_option Elab.async false
set_option linter.all false
set_option maxRecDepth 100000
set_option genSizeOf false
set_option maxHeartbeats 1000000
/-! What a run of the small language is worth in the model: expressions. -/
namespace KR
open PySem L2

/-! ### holding a result while another one is worked out -/
def Act.hold (A : Act) (H : Hp) (r : R) (v : V) : Act := match r, v with
  | .fr _, .ref p => { A with U0 := fun a => if a = p then H p else A.U0 a }
  | _, _ => A
theorem Act.hold_dp (A : Act) (H : Hp) (r : R) (v : V) : (A.hold H r v).dp = A.dp := by
  unfold Act.hold; split <;> rfl
theorem Act.hold_B0 (A : Act) (H : Hp) (r : R) (v : V) : (A.hold H r v).B0 = A.B0 := by
  unfold Act.hold; split <;> rfl
theorem Act.hold_H0 (A : Act) (H : Hp) (r : R) (v : V) : (A.hold H r v).H0 = A.H0 := by
  unfold Act.hold; split <;> rfl
section
variable {W : Wld} {K : PySem.W.Frag} {A : Act} {B B' H H' : Hp} {ρ ρ' : En} {σ : L2.St} {p : Addr} {o : HO} {v w : V} {d : D} {r q : R}
theorem hold_U0 (x : ResOk W K A B ρ σ H r v) {a : Addr} (e : (A.hold H r v).U0 a = none) : A.U0 a = none := by
  cases r with
  | fr d =>
    obtain ⟨p, o, rfl, e1, _⟩ := x
    have e : (if a = p then H p else A.U0 a) = none := e
    by_cases h : a = p
    · rw [if_pos h, e1] at e; cases e
    · rw [if_neg h] at e; exact e
  | _ => cases v <;> exact e
theorem hold_st (S : StOk W K A B ρ σ H) (x : ResOk W K A B ρ σ H r v) : StOk W K (A.hold H r v) B ρ σ H := by
  cases r with
  | fr d =>
    obtain ⟨p, o, rfl, e1, ho, n1, n2, n3, n4, n5⟩ := x
    refine ⟨S.b0, S.new, fun a u e ne => ?_, S.bh, fun a u e => ?_, S.hh, fun i s e => ?_, S.one, fun z e => ?_, S.len⟩
    · have ne : (if a = p then H p else A.U0 a) ≠ none := ne
      by_cases h : a = p
      · subst h; rw [n1] at e; cases e
      · rw [if_neg h] at ne; exact S.bu a u e ne
    · have e : (if a = p then H p else A.U0 a) = some u := e
      by_cases h : a = p
      · rw [if_pos h] at e; rw [h]; exact e
      · rw [if_neg h] at e; exact S.uh a u e
    · have z := S.sl i s e
      cases s with
      | ow d' =>
        obtain ⟨x, u, q1, q2, r, m1, m2, m3⟩ := z
        have ne : x ≠ p := fun z => by subst z; exact n4 ⟨i, d', e, q1⟩
        exact ⟨x, u, q1, q2, r, m1, by show (if x = p then H p else A.U0 x) = none; rw [if_neg ne]; exact m2, m3⟩
      | no => trivial
      | im d' => exact z
      | dk => exact z
    · refine W.less (n5 z e) fun a ha => ?_
      rcases ha with ha | ha | ha
      · have ha : (if a = p then H p else A.U0 a) ≠ none := ha
        by_cases h : a = p
        · exact .inr h
        · rw [if_neg h] at ha; exact .inl (.inl ha)
      · exact .inl (.inr (.inl ha))
      · exact .inl (.inr (.inr ha))
  | _ => cases v <;> exact S
theorem unhold_st (x : ResOk W K A B ρ σ H r v) (S : StOk W K (A.hold H r v) B' ρ' σ H') : StOk W K A B' ρ' σ H' := by
  cases r with
  | fr d =>
    obtain ⟨p, o, rfl, e1, ho, n1, n2, n3, n4, n5⟩ := x
    refine ⟨S.b0, S.new, fun a u e ne => S.bu a u e ?_, S.bh, fun a u e => S.uh a u ?_, S.hh, fun i s e => ?_, S.one, fun z e => ?_, S.len⟩
    · show (if a = p then H p else A.U0 a) ≠ none
      by_cases h : a = p
      · rw [if_pos h, e1]; simp
      · rw [if_neg h]; exact ne
    · show (if a = p then H p else A.U0 a) = some u
      have h : a ≠ p := fun h => by subst h; rw [n2] at e; cases e
      rw [if_neg h]; exact e
    · have z := S.sl i s e
      cases s with
      | ow d' =>
        obtain ⟨x, u, q1, q2, r, m1, m2, m3⟩ := z
        refine ⟨x, u, q1, q2, r, m1, ?_, m3⟩
        have m2 : (if x = p then H p else A.U0 x) = none := m2
        by_cases h : x = p
        · rw [if_pos h, e1] at m2; cases m2
        · rw [if_neg h] at m2; exact m2
      | no => trivial
      | im d' => exact z
      | dk => exact z
    · refine W.less (S.wd z e) fun a ha => ?_
      rcases ha with ha | ha
      · left
        show (if a = p then H p else A.U0 a) ≠ none
        by_cases h : a = p
        · rw [if_pos h, e1]; simp
        · rw [if_neg h]; exact ha
      · exact .inr ha
  | _ => cases v <;> exact S
/-- the held result is still what it was -/
theorem held (S : StOk W K A B ρ σ H) (x : ResOk W K A B ρ σ H r v) (S' : StOk W K (A.hold H r v) B' ρ' σ H') (hb : Sub B B') : ResOk W K A B' ρ' σ H' r v := by
  cases r with
  | im d => exact Rp.mono hb x
  | fr d =>
    obtain ⟨p, o, rfl, e1, ho, n1, n2, n3, n4, n5⟩ := x
    have up : (A.hold H (.fr d) (.ref p)).U0 p = some o := by show (if p = p then H p else _) = _; rw [if_pos rfl]; exact e1
    refine ⟨p, o, rfl, S'.uh p o up, ho.mono hb, ?_, n2, n3, fun z => ?_, fun z e => W.less (S'.wd z e) fun a ha => ?_⟩
    · cases q : B' p with
      | none => rfl
      | some u =>
        have := S'.bu p u q (by rw [up]; simp)
        have := S.b0 p u this
        rw [n1] at this; cases this
    · have := (S'.own z).2.2.1
      rw [up] at this; cases this
    · rcases ha with (ha | ha | ha) | ha
      · left
        show (if a = p then H p else A.U0 a) ≠ none
        by_cases h : a = p
        · rw [if_pos h, e1]; simp
        · rw [if_neg h]; exact ha
      · exact .inr (.inl ha)
      · exact .inr (.inr ha)
      · left; rw [ha, up]; simp
  | br i => exact x
  | dk => exact x
theorem unhold_res (x : ResOk W K A B ρ σ H r v) (y : ResOk W K (A.hold H r v) B' ρ' σ H' q w) : ResOk W K A B' ρ' σ H' q w := by
  cases q with
  | im d => exact y
  | fr d =>
    obtain ⟨p, o, e, e1, ho, n1, n2, n3, n4, n5⟩ := y
    rw [Act.hold_H0] at n3
    rw [Act.hold_dp] at n5
    refine ⟨p, o, e, e1, ho, n1, hold_U0 x n2, n3, n4, fun z e => W.less (n5 z e) fun a ha => ?_⟩
    rcases ha with (ha | ha) | ha
    · refine .inl (.inl fun z => ha (hold_U0 x z))
    · exact .inl (.inr ha)
    · exact .inr ha
  | br i => exact y
  | dk => obtain ⟨p, e, h⟩ := y; rw [Act.hold_dp] at h; exact ⟨p, e, h⟩
end

/-! ### exceptions -/
def ExV (K : PySem.W.Frag) (cad : Str → Addr) (B H : Hp) (x : Ex) (c : Value) (d : Option Addr) : Prop := c = .ref (cad x.cls) ∧ match x.fld with
  | none => d = none
  | some (f, dt) => ∃ dx v, d = some dx ∧ H dx = some (.xd [(f, v)]) ∧ Rp K B dt v
def ExC (W : Wld) (K : PySem.W.Frag) (cad : Str → Addr) (A : Act) (Ed : Ex → En → Prop) (Wx : WX) (σ : L2.St) : Prop :=
  ∀ x c d ρ' B' H', StOk W K A B' ρ' σ H' → ExV K cad B' H' x c d → Ed x ρ' → Wx c d σ H'
theorem ExC.hold {W : Wld} {K : PySem.W.Frag} {cad : Str → Addr} {A : Act} {Ed : Ex → En → Prop} {Wx : WX} {σ : L2.St} {B H : Hp} {ρ : En} {r : R} {v : V} (h : ExC W K cad A Ed Wx σ) (x : ResOk W K A B ρ σ H r v) : ExC W K cad (A.hold H r v) Ed Wx σ :=
  fun e c d ρ' B' H' S => h e c d ρ' B' H' (unhold_st x S)
theorem ExC.no {W : Wld} {K : PySem.W.Frag} {cad : Str → Addr} {A : Act} {Wx : WX} {σ : L2.St} : ExC W K cad A noEx Wx σ := fun _ _ _ _ _ _ _ _ z => z.elim

/-! ### the readings -/
structure Lay where
  W : Wld
  K : PySem.W.Frag
  cad : Str → Addr
  Γ : Ctx
def tE (L : Lay) (Ed : Ex → En → Prop) (Wx : WX) (ie : IE) : TE := fun σ H Qv => ∃ A B ρ Q, StOk L.W L.K A B ρ σ H ∧ wpE L.Γ Ed ie ρ Q ∧ ExC L.W L.K L.cad A Ed Wx σ ∧
  ∀ v H' r ρ' B', StOk L.W L.K A B' ρ' σ H' → Sub B B' → ResOk L.W L.K A B' ρ' σ H' r v → Q r ρ' → Qv v H'
def tT (L : Lay) (Ed : Ex → En → Prop) (Wx : WX) (ie : IE) : TT := fun σ H Qb => ∃ (A : Act) (B : Hp) (ρ : En) (Q : Bool → En → Prop), StOk L.W L.K A B ρ σ H ∧ wpE L.Γ Ed ie ρ (fun r ρ' => asBool r fun k => Q k ρ') ∧ ExC L.W L.K L.cad A Ed Wx σ ∧
  ∀ k H' ρ' B', StOk L.W L.K A B' ρ' σ H' → Sub B B' → Q k ρ' → Qb k H'
/-- several results, each held while the further ones are worked out -/
def ResAll (W : Wld) (K : PySem.W.Frag) (B : Hp) (ρ : En) (σ : L2.St) (H : Hp) : Act → List R → List V → Prop
  | _, [], vs => vs = []
  | A, r :: rs, vs => ∃ v us, vs = v :: us ∧ ResOk W K A B ρ σ H r v ∧ ResAll W K B ρ σ H (A.hold H r v) rs us
def tEs (L : Lay) (Ed : Ex → En → Prop) (Wx : WX) (es : IEs) : TA := fun σ H Qv => ∃ A B ρ Q, StOk L.W L.K A B ρ σ H ∧ wpEs L.Γ Ed es ρ Q ∧ ExC L.W L.K L.cad A Ed Wx σ ∧
  ∀ vs H' rs ρ' B', StOk L.W L.K A B' ρ' σ H' → Sub B B' → ResAll L.W L.K B' ρ' σ H' A rs vs → Q rs ρ' → Qv vs H'
theorem _root_.L2.PE.imp {X : Cx} {e : Expr} {t t' : TE} (h : PE X e t) (i : ∀ σ H Q, t' σ H Q → t σ H Q) : PE X e t' := ⟨fun pins s σ H Q I z => h.run pins s σ H Q I (i σ H Q z)⟩
theorem _root_.L2.PT.imp {X : Cx} {e : Expr} {t t' : TT} (h : PT X e t) (i : ∀ σ H Q, t' σ H Q → t σ H Q) : PT X e t' := ⟨fun pins s σ H Q I z => h.run pins s σ H Q I (i σ H Q z)⟩
theorem _root_.L2.PW.imp {X : Cx} {e : Expr} {t t' : TT} (h : PW X e t) (i : ∀ σ H Q, t' σ H Q → t σ H Q) : PW X e t' := ⟨fun wh pins s σ H Q I z => h.run wh pins s σ H Q I (i σ H Q z)⟩
theorem _root_.L2.PA.imp {X : Cx} {e : List Expr} {t t' : TA} (h : PA X e t) (i : ∀ σ H Q, t' σ H Q → t σ H Q) : PA X e t' := ⟨fun pos pins s σ H Q I z => h.run pos pins s σ H Q I (i σ H Q z)⟩
section
variable {L : Lay} {Ed : Ex → En → Prop} {Wx : WX} {X : Cx} {a b : IE} {es : IEs} {x y : Expr} {xs : List Expr} {pos : Pos} {A : Act} {B : Hp} {ρ : En} {σ : L2.St} {H : Hp}
theorem two {K2 : R → R → En → Prop} {Rr : V → V → Hp → Prop} (S : StOk L.W L.K A B ρ σ H) (w : wpE L.Γ Ed a ρ fun r1 ρ1 => wpE L.Γ Ed b ρ1 fun r2 ρ2 => K2 r1 r2 ρ2) (ex : ExC L.W L.K L.cad A Ed Wx σ)
    (k : ∀ x y H2 r1 r2 ρ2 B2, StOk L.W L.K A B2 ρ2 σ H2 → Sub B B2 → ResOk L.W L.K A B2 ρ2 σ H2 r1 x → ResOk L.W L.K A B2 ρ2 σ H2 r2 y → K2 r1 r2 ρ2 → Rr x y H2) :
    tE L Ed Wx a σ H fun x H1 => tE L Ed Wx b σ H1 fun y H2 => Rr x y H2 := by
  refine ⟨A, B, ρ, _, S, w, ex, fun v H1 r1 ρ1 B1 S1 s1 x1 w1 => ?_⟩
  refine ⟨A.hold H1 r1 v, B1, ρ1, _, hold_st S1 x1, w1, ex.hold x1, fun u H2 r2 ρ2 B2 S2 s2 x2 w2 => ?_⟩
  exact k v u H2 r1 r2 ρ2 B2 (unhold_st x1 S2) (s1.trans s2) (held S1 x1 S2 s2) (unhold_res x1 x2) w2
theorem kpe_var {i : Nat} {n : Str} (hN : X.N[i]? = some n) (hv : Vis X.env.scope n) (hd : (n == ("__debug__" : Str)) = false) (hcd : (n == ("__classdict__" : Str)) = false) : PE X (.Name n pos) (tE L Ed Wx (.var i)) := by
  refine (pe_var hN hv hd hcd).imp fun σ H Q ⟨A, B, ρ, Qd, S, w, ex, k⟩ => ?_
  have w : (match ρ[i]? with | some (.im d) => Qd (.im d) ρ | some (.ow _) => Qd (.br i) ρ | some .dk => Qd .dk ρ | _ => False) := w
  cases e : ρ[i]? with
  | none => rw [e] at w; exact w.elim
  | some s =>
    rw [e] at w
    have sl := S.sl i s e
    cases s with
    | no => exact w.elim
    | im d => obtain ⟨v, e1, r⟩ := sl; exact ⟨v, e1, k v H (.im d) ρ B S (Sub.refl _) r w⟩
    | ow d => obtain ⟨p, o, e1, r⟩ := sl; exact ⟨.ref p, e1, k _ H (.br i) ρ B S (Sub.refl _) e1 w⟩
    | dk => obtain ⟨p, e1, r⟩ := sl; exact ⟨.ref p, e1, k _ H .dk ρ B S (Sub.refl _) ⟨p, rfl, r⟩ w⟩
theorem kpe_cst {v : V} {d : D} (h : PE X x (tC v)) (r : ∀ B, Rp L.K B d v) : PE X x (tE L Ed Wx (.cst d)) :=
  h.imp fun σ H Q ⟨A, B, ρ, Qd, S, w, ex, k⟩ => k v H (.im d) ρ B S (Sub.refl _) (r B) w
theorem kpe_glob {n : Str} {v : V} {d : D} (h : PE X x (tC v)) (e : L.Γ.gls.lookup n = some d) (r : ∀ B, Rp L.K B d v) : PE X x (tE L Ed Wx (.glob n)) :=
  h.imp fun σ H Q ⟨A, B, ρ, Qd, S, w, ex, k⟩ => by
    have w : (match L.Γ.gls.lookup n with | some d => Qd (.im d) ρ | none => False) := w
    rw [e] at w
    exact k v H (.im d) ρ B S (Sub.refl _) (r B) w
theorem kpe_bin (hK : X.K = L.K) (op : BOp) (ha : PE X x (tE L Ed Wx a)) (hb : PE X y (tE L Ed Wx b)) : PE X (.BinOp x op.op y pos) (tE L Ed Wx (.bin op a b)) := by
  refine (pe_op (op_bin (W := L.W) op) ha hb).imp fun σ H Q ⟨A, B, ρ, Qd, S, w, ex, k⟩ => ?_
  refine two (Rr := fun x y H2 => rBin L.W X.K op x y H2 Q) S w ex fun v u H2 r1 r2 ρ2 B2 S2 s2 x1 x2 w2 => ?_
  obtain ⟨d1, e1, w2⟩ := peek_ok w2
  obtain ⟨d2, e2, w2⟩ := peek_ok w2
  rw [hK]
  exact ⟨A, ρ2, σ, B2, d1, d2, _, S2, S2.vw x1 e1, S2.vw x2 e2, w2, fun z H3 r3 B3 S3 s3 x3 w3 => k z H3 r3 ρ2 B3 S3 (s2.trans s3) x3 w3⟩
theorem kpe_neg (ha : PE X x (tE L Ed Wx a)) : PE X (.UnaryOp .USub x pos) (tE L Ed Wx (.neg a)) := by
  refine (pe_un un_neg ha).imp fun σ H Q ⟨A, B, ρ, Qd, S, w, ex, k⟩ => ?_
  refine ⟨A, B, ρ, _, S, w, ex, fun v H1 r1 ρ1 B1 S1 s1 x1 w1 => ?_⟩
  cases r1 <;> first | exact False.elim w1 | skip
  rename_i d
  cases d <;> first | exact False.elim w1 | skip
  rename_i i
  exact ⟨i, x1, k _ H1 (.im (.int (-i))) ρ1 B1 S1 s1 rfl w1⟩
theorem kpe_cmp (hK : X.K = L.K) (hu : X.A.units + 65 < cLine) (op : COp) (ha : PE X x (tE L Ed Wx a)) (hb : PE X y (tE L Ed Wx b)) (hm : behindInMarks op.op y = false) : PE X (.Compare x [op.op] [y] pos) (tE L Ed Wx (.cmp op a b)) := by
  refine (pe_cmpR (op_cmp (W := L.W) hu op) ha hb hm).imp fun σ H Q ⟨A, B, ρ, Qd, S, w, ex, k⟩ => ?_
  refine two (Rr := fun x y H2 => rCmp L.W X.K op x y H2 Q) S w ex fun v u H2 r1 r2 ρ2 B2 S2 s2 x1 x2 w2 => ?_
  obtain ⟨d1, e1, w2⟩ := peek_ok w2
  obtain ⟨d2, e2, w2⟩ := peek_ok w2
  rw [hK]
  exact ⟨A, ρ2, σ, B2, d1, d2, _, S2, S2.vw x1 e1, S2.vw x2 e2, w2, fun c wc => k _ H2 (.im (.bool c)) ρ2 B2 S2 s2 rfl wc⟩
theorem kpt_cmp (hK : X.K = L.K) (hu : X.A.units + 65 < cLine) (op : COp) (ha : PE X x (tE L Ed Wx a)) (hb : PE X y (tE L Ed Wx b)) (hm : behindInMarks op.op y = false) : PT X (.Compare x [op.op] [y] pos) (tT L Ed Wx (.cmp op a b)) := by
  refine (pt_cmpR (op_cmp (W := L.W) hu op) ha hb hm).imp fun σ H Q ⟨A, B, ρ, Qd, S, w, ex, k⟩ => ?_
  refine two (Rr := fun x y H2 => rCmp L.W X.K op x y H2 fun x H' => ∃ k, x = .bl k ∧ Q k H') S w ex fun v u H2 r1 r2 ρ2 B2 S2 s2 x1 x2 w2 => ?_
  obtain ⟨d1, e1, w2⟩ := peek_ok w2
  obtain ⟨d2, e2, w2⟩ := peek_ok w2
  rw [hK]
  exact ⟨A, ρ2, σ, B2, d1, d2, _, S2, S2.vw x1 e1, S2.vw x2 e2, w2, fun c wc => ⟨c, rfl, k _ H2 ρ2 B2 S2 s2 wc⟩⟩
theorem kpe_sub (hK : X.K = L.K) (ha : PE X x (tE L Ed Wx a)) (hb : PE X y (tE L Ed Wx b)) (hs : PlainIx y) : PE X (.Subscript x y pos) (tE L Ed Wx (.sub a b)) := by
  refine (pe_ix (ix_sub (W := L.W)) ha hb hs).imp fun σ H Q ⟨A, B, ρ, Qd, S, w, ex, k⟩ => ?_
  refine two (Rr := fun x y H2 => rSub L.W X.K x y H2 Q) S w ex fun v u H2 r1 r2 ρ2 B2 S2 s2 x1 x2 w2 => ?_
  obtain ⟨d1, e1, w2⟩ := peek_ok w2
  obtain ⟨d2, e2, w2⟩ := peek_ok w2
  rw [hK]
  exact ⟨A, ρ2, σ, B2, d1, d2, _, S2, S2.vw x1 e1, S2.vw x2 e2, w2, fun c z rz wc => k _ H2 (.im c) ρ2 B2 S2 s2 rz wc⟩
/-- what is a truth value in a result -/
theorem bool_res {W : Wld} {K : PySem.W.Frag} {r : R} {v : V} {Kb : Bool → Prop} (x : ResOk W K A B ρ σ H r v) (w : asBool r Kb) : ∃ k, r = .im (.bool k) ∧ v = .bl k ∧ Kb k := by
  cases r with
  | im d => cases d with
    | bool k => exact ⟨k, rfl, x, w⟩
    | _ => exact w.elim
  | _ => exact w.elim
theorem kpt_val (ha : PE X x (tE L Ed Wx a)) (he : ∀ whole, isTrue x X.env whole = (do let v ← whole; standAt x.pos; holding [v] (truthy v))) : PT X x (tT L Ed Wx a) := by
  refine (pt_val ha he).imp fun σ H Q ⟨A, B, ρ, Qd, S, w, ex, k⟩ => ?_
  refine ⟨A, B, ρ, _, S, w, ex, fun v H1 r1 ρ1 B1 S1 s1 x1 w1 => ?_⟩
  obtain ⟨c, _, e, w1⟩ := bool_res x1 w1
  exact ⟨c, e, k c H1 ρ1 B1 S1 s1 w1⟩
theorem kpe_not (ha : PE X x (tE L Ed Wx a)) : PE X (.UnaryOp .Not x pos) (tE L Ed Wx (.notE a)) := by
  refine (pe_not ha).imp fun σ H Q ⟨A, B, ρ, Qd, S, w, ex, k⟩ => ?_
  refine ⟨A, B, ρ, _, S, w, ex, fun v H1 r1 ρ1 B1 S1 s1 x1 w1 => ?_⟩
  obtain ⟨c, _, e, w1⟩ := bool_res x1 w1
  exact ⟨c, e, k _ H1 (.im (.bool (!c))) ρ1 B1 S1 s1 rfl w1⟩
theorem kpt_not (ha : PT X x (tT L Ed Wx a)) : PT X (.UnaryOp .Not x pos) (tT L Ed Wx (.notE a)) := by
  refine (pt_not ha).imp fun σ H Q ⟨A, B, ρ, Qd, S, w, ex, k⟩ => ?_
  exact ⟨A, B, ρ, _, S, w, ex, fun c H1 ρ1 B1 S1 s1 w1 => k (!c) H1 ρ1 B1 S1 s1 w1⟩
theorem kpe_ite {c : IE} {z : Expr} (hc : PT X z (tT L Ed Wx c)) (ha : PE X x (tE L Ed Wx a)) (hb : PE X y (tE L Ed Wx b)) : PE X (.IfExp z x y pos) (tE L Ed Wx (.ite c a b)) := by
  refine (pe_ifExp hc ha hb).imp fun σ H Q ⟨A, B, ρ, Qd, S, w, ex, k⟩ => ?_
  refine ⟨A, B, ρ, _, S, w, ex, fun c H1 ρ1 B1 S1 s1 w1 => ?_⟩
  cases c with
  | true => exact ⟨A, B1, ρ1, _, S1, w1, ex, fun v H2 r2 ρ2 B2 S2 s2 x2 w2 => k v H2 r2 ρ2 B2 S2 (s1.trans s2) x2 w2⟩
  | false => exact ⟨A, B1, ρ1, _, S1, w1, ex, fun v H2 r2 ρ2 B2 S2 s2 x2 w2 => k v H2 r2 ρ2 B2 S2 (s1.trans s2) x2 w2⟩
/-- and, or -/
def tC1 (L : Lay) (Ed : Ex → En → Prop) (Wx : WX) (isAnd : Bool) (es : IEs) : TE := fun σ H Qv => ∃ A B ρ Q, StOk L.W L.K A B ρ σ H ∧ wpC L.Γ Ed isAnd isAnd es ρ Q ∧ ExC L.W L.K L.cad A Ed Wx σ ∧
  ∀ v H' r ρ' B', StOk L.W L.K A B' ρ' σ H' → Sub B B' → ResOk L.W L.K A B' ρ' σ H' r v → Q r ρ' → Qv v H'
def tC2 (L : Lay) (Ed : Ex → En → Prop) (Wx : WX) (isAnd : Bool) (es : IEs) : TT := fun σ H Qb => ∃ (A : Act) (B : Hp) (ρ : En) (Q : Bool → En → Prop), StOk L.W L.K A B ρ σ H ∧ wpC L.Γ Ed isAnd isAnd es ρ (fun r ρ' => asBool r fun k => Q k ρ') ∧ ExC L.W L.K L.cad A Ed Wx σ ∧
  ∀ k H' ρ' B', StOk L.W L.K A B' ρ' σ H' → Sub B B' → Q k ρ' → Qb k H'
def bop : Bool → BoolOp
  | true => .And
  | false => .Or
theorem wpC_stop {Γ : Ctx} {isAnd k : Bool} (h : k ≠ isAnd) : ∀ {es : IEs} {ρ : En} {Q : R → En → Prop}, wpC Γ Ed isAnd k es ρ Q → Q (.im (.bool k)) ρ
  | .nil, _, _, w => w
  | .cons e es, ρ, Q, w => by
    have w : (if k = isAnd then _ else Q (.im (.bool k)) ρ) := w
    rwa [if_neg h] at w
theorem wpC_cons {Γ : Ctx} {isAnd : Bool} {e : IE} {es : IEs} {ρ : En} {Q : R → En → Prop} (w : wpC Γ Ed isAnd isAnd (.cons e es) ρ Q) : wpE Γ Ed e ρ fun r ρ1 => asBool r fun k' => wpC Γ Ed isAnd k' es ρ1 Q := by
  have w : (if isAnd = isAnd then (wpE Γ Ed e ρ fun r ρ1 => asBool r fun k' => wpC Γ Ed isAnd k' es ρ1 Q) else Q (.im (.bool isAnd)) ρ) := w
  rwa [if_pos rfl] at w
theorem kpe_c1 {isAnd : Bool} (ha : PE X x (tE L Ed Wx a)) : PE X (.BoolOp (bop isAnd) [x] pos) (tC1 L Ed Wx isAnd (.cons a .nil)) := by
  refine (pe_one ha).imp fun σ H Q ⟨A, B, ρ, Qd, S, w, ex, k⟩ => ?_
  refine ⟨A, B, ρ, _, S, wpC_cons w, ex, fun v H1 r1 ρ1 B1 S1 s1 x1 w1 => ?_⟩
  obtain ⟨c, e, e', w1⟩ := bool_res x1 w1
  subst e
  exact k v H1 _ ρ1 B1 S1 s1 x1 w1
theorem kpe_c2 {isAnd : Bool} {es : IEs} (ha : PE X x (tE L Ed Wx a)) (hb : PE X (.BoolOp (bop isAnd) (y :: xs) pos) (tC1 L Ed Wx isAnd es)) : PE X (.BoolOp (bop isAnd) (x :: y :: xs) pos) (tC1 L Ed Wx isAnd (.cons a es)) := by
  cases isAnd with
  | true =>
    refine (pe_and ha hb).imp fun σ H Q ⟨A, B, ρ, Qd, S, w, ex, k⟩ => ?_
    refine ⟨A, B, ρ, _, S, wpC_cons w, ex, fun v H1 r1 ρ1 B1 S1 s1 x1 w1 => ?_⟩
    obtain ⟨c, e, e', w1⟩ := bool_res x1 w1
    refine ⟨c, e', ?_⟩
    cases c with
    | true => exact ⟨A, B1, ρ1, _, S1, w1, ex, fun v H2 r2 ρ2 B2 S2 s2 x2 w2 => k v H2 r2 ρ2 B2 S2 (s1.trans s2) x2 w2⟩
    | false => exact k _ H1 (.im (.bool false)) ρ1 B1 S1 s1 rfl (wpC_stop (by decide) w1)
  | false =>
    refine (pe_or ha hb).imp fun σ H Q ⟨A, B, ρ, Qd, S, w, ex, k⟩ => ?_
    refine ⟨A, B, ρ, _, S, wpC_cons w, ex, fun v H1 r1 ρ1 B1 S1 s1 x1 w1 => ?_⟩
    obtain ⟨c, e, e', w1⟩ := bool_res x1 w1
    refine ⟨c, e', ?_⟩
    cases c with
    | false => exact ⟨A, B1, ρ1, _, S1, w1, ex, fun v H2 r2 ρ2 B2 S2 s2 x2 w2 => k v H2 r2 ρ2 B2 S2 (s1.trans s2) x2 w2⟩
    | true => exact k _ H1 (.im (.bool true)) ρ1 B1 S1 s1 rfl (wpC_stop (by decide) w1)
theorem kpt_c1 {isAnd : Bool} (ha : PT X x (tT L Ed Wx a)) : PW X (.BoolOp (bop isAnd) [x] pos) (tC2 L Ed Wx isAnd (.cons a .nil)) := by
  cases isAnd with
  | true =>
    refine (pw_and1 ha).imp fun σ H Q ⟨A, B, ρ, Qd, S, w, ex, k⟩ => ?_
    exact ⟨A, B, ρ, _, S, wpC_cons w, ex, fun c H1 ρ1 B1 S1 s1 w1 => k c H1 ρ1 B1 S1 s1 w1⟩
  | false =>
    refine (pw_or1 ha).imp fun σ H Q ⟨A, B, ρ, Qd, S, w, ex, k⟩ => ?_
    exact ⟨A, B, ρ, _, S, wpC_cons w, ex, fun c H1 ρ1 B1 S1 s1 w1 => k c H1 ρ1 B1 S1 s1 w1⟩
theorem kpt_c2 {isAnd : Bool} {es : IEs} (ha : PT X x (tT L Ed Wx a)) (hb : PW X (.BoolOp (bop isAnd) (y :: xs) pos) (tC2 L Ed Wx isAnd es)) : PW X (.BoolOp (bop isAnd) (x :: y :: xs) pos) (tC2 L Ed Wx isAnd (.cons a es)) := by
  cases isAnd with
  | true =>
    refine (pw_and ha hb).imp fun σ H Q ⟨A, B, ρ, Qd, S, w, ex, k⟩ => ?_
    refine ⟨A, B, ρ, _, S, wpC_cons w, ex, fun c H1 ρ1 B1 S1 s1 w1 => ?_⟩
    cases c with
    | true => exact ⟨A, B1, ρ1, _, S1, w1, ex, fun c H2 ρ2 B2 S2 s2 w2 => k c H2 ρ2 B2 S2 (s1.trans s2) w2⟩
    | false => exact k false H1 ρ1 B1 S1 s1 (wpC_stop (by decide) w1)
  | false =>
    refine (pw_or ha hb).imp fun σ H Q ⟨A, B, ρ, Qd, S, w, ex, k⟩ => ?_
    refine ⟨A, B, ρ, _, S, wpC_cons w, ex, fun c H1 ρ1 B1 S1 s1 w1 => ?_⟩
    cases c with
    | false => exact ⟨A, B1, ρ1, _, S1, w1, ex, fun c H2 ρ2 B2 S2 s2 w2 => k c H2 ρ2 B2 S2 (s1.trans s2) w2⟩
    | true => exact k true H1 ρ1 B1 S1 s1 (wpC_stop (by decide) w1)
/-- a op b op' c -/
theorem chain_go (hK : X.K = L.K) {op op' : COp} {c : IE} {Q : VK} {Qd : R → En → Prop} (S : StOk L.W L.K A B ρ σ H) (w : wpE L.Γ Ed (.chain op op' a b c) ρ Qd) (ex : ExC L.W L.K L.cad A Ed Wx σ)
    (k : ∀ v H' r ρ' B', StOk L.W L.K A B' ρ' σ H' → Sub B B' → ResOk L.W L.K A B' ρ' σ H' r v → Qd r ρ' → Q v H') :
    tChain (rCmp L.W X.K op) (rCmp L.W X.K op') (tE L Ed Wx a) (tE L Ed Wx b) (tE L Ed Wx c) σ H Q := by
  refine ⟨A, B, ρ, _, S, w, ex, fun v H1 r1 ρ1 B1 S1 s1 x1 w1 => ?_⟩
  refine ⟨A.hold H1 r1 v, B1, ρ1, _, hold_st S1 x1, w1, ex.hold x1, fun u H2 r2 ρ2 B2 S2' s2 x2' w2 => ?_⟩
  have S2 := unhold_st x1 S2'
  have x1' := held S1 x1 S2' s2
  have x2 := unhold_res x1 x2'
  obtain ⟨d1, e1, w2⟩ := peek_ok w2
  obtain ⟨d2, e2, w2⟩ := peek_ok w2
  rw [hK]
  refine ⟨A, ρ2, σ, B2, d1, d2, _, S2, S2.vw x1' e1, S2.vw x2 e2, w2, fun c wc => ⟨c, rfl, ?_⟩⟩
  cases c with
  | false => exact k _ H2 (.im (.bool false)) ρ2 B2 S2 (s1.trans s2) rfl wc
  | true =>
    refine ⟨A.hold H2 r2 u, B2, ρ2, _, hold_st S2 x2, wc, ex.hold x2, fun z H3 r3 ρ3 B3 S3' s3 x3' w3 => ?_⟩
    have S3 := unhold_st x2 S3'
    have x2'' := held S2 x2 S3' s3
    have x3 := unhold_res x2 x3'
    obtain ⟨d2', e2', w3⟩ := peek_ok w3
    obtain ⟨d3, e3, w3⟩ := peek_ok w3
    exact ⟨A, ρ3, σ, B3, d2', d3, _, S3, S3.vw x2'' e2', S3.vw x3 e3, w3, fun c wc => k _ H3 (.im (.bool c)) ρ3 B3 S3 ((s1.trans s2).trans s3) rfl wc⟩
theorem kpe_chain (hK : X.K = L.K) (hu : X.A.units + 65 < cLine) {op op' : COp} {c : IE} {z : Expr} (ha : PE X x (tE L Ed Wx a)) (hb : PE X y (tE L Ed Wx b)) (hc : PE X z (tE L Ed Wx c)) (hm : lastMarks [op.op, op'.op] [y, z] = false) :
    PE X (.Compare x [op.op, op'.op] [y, z] pos) (tE L Ed Wx (.chain op op' a b c)) :=
  (pe_chain (op_cmp (W := L.W) hu op) (op_cmp (W := L.W) hu op') ha hb hc hm).imp fun σ H Q ⟨A, B, ρ, Qd, S, w, ex, k⟩ => chain_go hK S w ex k
theorem kpt_chain (hK : X.K = L.K) (hu : X.A.units + 65 < cLine) {op op' : COp} {c : IE} {z : Expr} (ha : PE X x (tE L Ed Wx a)) (hb : PE X y (tE L Ed Wx b)) (hc : PE X z (tE L Ed Wx c)) (hm : lastMarks [op.op, op'.op] [y, z] = false) :
    PT X (.Compare x [op.op, op'.op] [y, z] pos) (tT L Ed Wx (.chain op op' a b c)) :=
  (pt_chain (op_cmp (W := L.W) hu op) (op_cmp (W := L.W) hu op') ha hb hc hm).imp fun σ H Q ⟨A, B, ρ, Qd, S, w, ex, k⟩ => chain_go (Q := fun x H' => ∃ k, x = .bl k ∧ Q k H') hK S w ex fun v H' r ρ' B' S' s' x' w' => by
    obtain ⟨c, e, e', w'⟩ := bool_res x' w'
    exact ⟨c, e', k c H' ρ' B' S' s' w'⟩
/-! several expressions -/
theorem kpa_nil : PA X [] (tEs L Ed Wx .nil) := pa_nil.imp fun σ H Q ⟨A, B, ρ, Qd, S, w, ex, k⟩ => k [] H [] ρ B S (Sub.refl _) rfl w
theorem unhold_all {rs : List R} {vs : List V} {B' H' : Hp} {ρ' : En} {r : R} {v : V} {W : Wld} {K : PySem.W.Frag} {A' : Act} : ResAll W K B' ρ' σ H' A' rs vs → ResAll W K B' ρ' σ H' A' rs vs := fun h => h
theorem cons_go {σ : L2.St} {H : Hp} {Q : List V → Hp → Prop} (h : tEs L Ed Wx (.cons a es) σ H Q) : tCons (tE L Ed Wx a) (tEs L Ed Wx es) σ H Q := by
  obtain ⟨A, B, ρ, Qd, S, w, ex, k⟩ := h
  refine ⟨A, B, ρ, _, S, w, ex, fun v H1 r1 ρ1 B1 S1 s1 x1 w1 => ?_⟩
  refine ⟨A.hold H1 r1 v, B1, ρ1, _, hold_st S1 x1, w1, ex.hold x1, fun us H2 rs ρ2 B2 S2 s2 x2 w2 => ?_⟩
  have z := held S1 x1 S2 s2
  have eh : A.hold H2 r1 v = A.hold H1 r1 v := by
    cases r1 with
    | fr d =>
      obtain ⟨p, o, rfl, e1, _⟩ := x1
      obtain ⟨p', o', e, e2, _⟩ := z
      cases e
      have up : H2 p = some o := S2.uh p o (by show (if p = p then H1 p else _) = _; rw [if_pos rfl]; exact e1)
      show ({ A with U0 := fun a => if a = p then H2 p else A.U0 a } : Act) = { A with U0 := fun a => if a = p then H1 p else A.U0 a }
      rw [up, e1]
    | _ => cases v <;> rfl
  exact k (v :: us) H2 (r1 :: rs) ρ2 B2 (unhold_st x1 S2) (s1.trans s2) ⟨v, us, rfl, z, by rw [eh]; exact x2⟩ w2
theorem kpa_cons (ha : PE X x (tE L Ed Wx a)) (hb : PA X xs (tEs L Ed Wx es)) (hs : starEach (x :: xs) X.env = (false, eval x X.env) :: starEach xs X.env) : PA X (x :: xs) (tEs L Ed Wx (.cons a es)) :=
  (pa_cons ha hb hs).imp fun σ H Q h => cons_go h
theorem _root_.L2.PK.imp {X : Cx} {e : List Keyword} {t t' : TA} (h : PK X e t) (i : ∀ σ H Q, t' σ H Q → t σ H Q) : PK X e t' := ⟨fun pos pins s σ H Q I z => h.run pos pins s σ H Q I (i σ H Q z)⟩
theorem kpk_nil : PK X [] (tEs L Ed Wx .nil) := pk_nil.imp fun σ H Q ⟨A, B, ρ, Qd, S, w, ex, k⟩ => k [] H [] ρ B S (Sub.refl _) rfl w
theorem kpk_cons {kws : List Keyword} {nm : Option Str} {kpos : Pos} (ha : PE X x (tE L Ed Wx a)) (hb : PK X kws (tEs L Ed Wx es)) : PK X (⟨nm, x, kpos⟩ :: kws) (tEs L Ed Wx (.cons a es)) :=
  (pk_cons ha hb).imp fun σ H Q h => cons_go h
end
end KR

end
section
set_option Elab.async false
set_option linter.all false
set_option maxRecDepth 100000
set_option genSizeOf false
set_option maxHeartbeats 1000000
/-! Displays, slices, built-ins, methods of a slot's list. -/
namespace KR
open PySem L2

section
variable {W : Wld} {K : PySem.W.Frag} {A A' : Act} {B B' H H' : Hp} {ρ ρ' : En} {σ : L2.St} {p : Addr} {o : HO} {v w : V} {d : D} {r q : R} {i : Nat}
/-- what is known of a result when further objects have been frozen -/
theorem res_keep (h1 : ∀ a, B' a ≠ none → B a ≠ none ∨ A'.U0 a ≠ none ∨ Own σ ρ a) (hb : Sub B B') (h2 : ∀ a, Own σ ρ' a → Own σ ρ a) (x : ResOk W K A' B ρ σ H r v) : ResOk W K A' B' ρ' σ H r v := by
  cases r with
  | im d => exact Rp.mono hb x
  | fr d =>
    obtain ⟨p, o, e, e1, ho, n1, n2, n3, n4, n5⟩ := x
    refine ⟨p, o, e, e1, ho.mono hb, ?_, n2, n3, fun z => n4 (h2 p z), fun z e => W.less (n5 z e) fun a ha => ?_⟩
    · cases q : B' p with
      | none => rfl
      | some u => rcases h1 p (by rw [q]; simp) with z | z | z
                  · exact absurd n1 z
                  · exact absurd n2 z
                  · exact absurd z n4
    · rcases ha with (ha | ha | ha) | ha
      · exact .inl (.inl ha)
      · rcases h1 a ha with z | z | z
        · exact .inl (.inr (.inl z))
        · exact .inl (.inl z)
        · exact .inl (.inr (.inr z))
      · exact .inl (.inr (.inr (h2 a ha)))
      · exact .inr ha
  | br i => exact x
  | dk => exact x
theorem res_keep_all (hb : Sub B B') (h2 : ∀ a, Own σ ρ' a → Own σ ρ a) : ∀ {rs : List R} {vs : List V} {A' : Act}, (∀ a, B' a ≠ none → B a ≠ none ∨ A'.U0 a ≠ none ∨ Own σ ρ a) → ResAll W K B ρ σ H A' rs vs → ResAll W K B' ρ' σ H A' rs vs
  | [], _, _, _, x => x
  | r :: rs, _, A', h1, ⟨v, us, e, x, xs⟩ => ⟨v, us, e, res_keep h1 hb h2 x, res_keep_all hb h2 (fun a ha => by
      rcases h1 a ha with z | z | z
      · exact .inl z
      · exact .inr (.inl fun e => z (hold_U0 x e))
      · exact .inr (.inr z)) xs⟩
/-- a slot's own object is frozen -/
theorem StOk.frzSlot (S : StOk W K A B ρ σ H) (e : ρ[i]? = some (.ow d)) : ∃ p o, σ[i]? = some (some (.ref p)) ∧ H p = some o ∧ OwnO K B d o ∧ StOk W K A (upd B p o) (ρ.set i (.im d)) σ H ∧ B p = none := by
  obtain ⟨p, o, e1, e2, ho, m1, m2, m3⟩ := S.sl i _ e
  have hi : i < ρ.length := (List.getElem?_eq_some_iff.mp e).1
  have s1 : Sub B (upd B p o) := Sub.new m1
  have own' : ∀ a, Own σ (ρ.set i (.im d)) a → Own σ ρ a ∧ a ≠ p := fun a ⟨j, f, q1, q2⟩ => by
    by_cases hj : j = i
    · subst hj; rw [List.getElem?_set_self hi] at q1; cases q1
    · rw [List.getElem?_set_ne (Ne.symm hj)] at q1
      refine ⟨⟨j, f, q1, q2⟩, fun z => ?_⟩
      subst z
      exact hj (S.one j i f d a q1 e q2 e1)
  refine ⟨p, o, e1, e2, ho, ⟨S.b0.trans s1, fun a u q => ?_, fun a u q ne => ?_, fun a u q => ?_, S.uh, S.hh, fun j s q => ?_, fun j k f g a q1 q2 q3 q4 => ?_, fun z q => ?_, by rw [List.length_set]; exact S.len⟩, m1⟩
  · by_cases ha : a = p
    · subst ha; exact .inr m3
    · rw [upd_ne ha] at q; exact S.new a u q
  · by_cases ha : a = p
    · subst ha; exact absurd m2 ne
    · rw [upd_ne ha] at q; exact S.bu a u q ne
  · by_cases ha : a = p
    · subst ha; rw [upd_same] at q; cases q; exact e2
    · rw [upd_ne ha] at q; exact S.bh a u q
  · by_cases hj : j = i
    · subst hj
      rw [List.getElem?_set_self hi] at q; cases q
      exact ⟨.ref p, e1, (ho.mono s1).rp (Sub.refl _) upd_same⟩
    · rw [List.getElem?_set_ne (Ne.symm hj)] at q
      have sl := S.sl j s q
      cases s with
      | no => trivial
      | im f => obtain ⟨v, z1, r⟩ := sl; exact ⟨v, z1, r.mono s1⟩
      | ow f =>
        obtain ⟨x, u, z1, z2, r, n1, n2, n3⟩ := sl
        have ne : x ≠ p := fun z => by subst z; exact hj (S.one j i f d x q e z1 e1)
        exact ⟨x, u, z1, z2, r.mono s1, by rw [upd_ne ne]; exact n1, n2, n3⟩
      | dk => exact sl
  · by_cases hj : j = i
    · subst hj; rw [List.getElem?_set_self hi] at q1; cases q1
    · by_cases hk : k = i
      · subst hk; rw [List.getElem?_set_self hi] at q2; cases q2
      · rw [List.getElem?_set_ne (Ne.symm hj)] at q1
        rw [List.getElem?_set_ne (Ne.symm hk)] at q2
        exact S.one j k f g a q1 q2 q3 q4
  · refine W.less (S.wd z q) fun a ha => ?_
    rcases ha with ha | ha | ha
    · exact .inl ha
    · by_cases z : a = p
      · subst z; exact .inr (.inr ⟨i, d, e, e1⟩)
      · rw [upd_ne z] at ha; exact .inr (.inl ha)
    · exact .inr (.inr (own' a ha).1)
theorem own_set_im (e : ρ[i]? = some (.ow d)) : ∀ a, Own σ (ρ.set i (.im d)) a → Own σ ρ a := fun a ⟨j, f, q1, q2⟩ => by
  have hi : i < ρ.length := (List.getElem?_eq_some_iff.mp e).1
  by_cases hj : j = i
  · subst hj; rw [List.getElem?_set_self hi] at q1; cases q1
  · rw [List.getElem?_set_ne (Ne.symm hj)] at q1; exact ⟨j, f, q1, q2⟩
/-- taking a result: it is frozen -/
theorem take_ok {Kd : D → En → Prop} (S : StOk W K A B ρ σ H) (x : ResOk W K A B ρ σ H r v) (w : takeR ρ r Kd) : ∃ d ρ' B', StOk W K A B' ρ' σ H ∧ Sub B B' ∧ Rp K B' d v ∧ Kd d ρ' ∧ (∀ a, Own σ ρ' a → Own σ ρ a) ∧
    ∀ a, B' a ≠ none → B a ≠ none ∨ (A.hold H r v).U0 a ≠ none ∨ Own σ ρ a := by
  cases r with
  | im d => exact ⟨d, ρ, B, S, Sub.refl _, x, w, fun _ z => z, fun _ z => .inl z⟩
  | fr d =>
    have x' := x
    obtain ⟨p, o, rfl, e1, ho, n1, n2, n3, n4, n5⟩ := x
    have s1 : Sub B (upd B p o) := Sub.new n1
    refine ⟨d, ρ, upd B p o, ?_, s1, (ho.mono s1).rp (Sub.refl _) upd_same, w, fun _ z => z, fun a ha => ?_⟩
    · refine ⟨S.b0.trans s1, fun a u e => ?_, fun a u e ne => ?_, fun a u e => ?_, S.uh, S.hh, fun i s e => ?_, S.one, fun q e => ?_, S.len⟩
      · by_cases ha : a = p
        · subst ha; exact .inr n3
        · rw [upd_ne ha] at e; exact S.new a u e
      · by_cases ha : a = p
        · subst ha; exact absurd n2 ne
        · rw [upd_ne ha] at e; exact S.bu a u e ne
      · by_cases ha : a = p
        · subst ha; rw [upd_same] at e; cases e; exact e1
        · rw [upd_ne ha] at e; exact S.bh a u e
      · have q := S.sl i s e
        cases s with
        | no => trivial
        | im d => obtain ⟨v, e1, r⟩ := q; exact ⟨v, e1, r.mono s1⟩
        | ow d =>
          obtain ⟨x, u, q1, q2, r, m1, m2, m3⟩ := q
          have ne : x ≠ p := fun z => by subst z; exact n4 ⟨i, d, e, q1⟩
          exact ⟨x, u, q1, q2, r.mono s1, by rw [upd_ne ne]; exact m1, m2, m3⟩
        | dk => exact q
      · refine W.less (n5 q e) fun a ha => ?_
        rcases ha with ha | ha | ha
        · exact .inl (.inl ha)
        · by_cases z : a = p
          · exact .inr z
          · rw [upd_ne z] at ha; exact .inl (.inr (.inl ha))
        · exact .inl (.inr (.inr ha))
    · by_cases z : a = p
      · right; left
        show (if a = p then H p else A.U0 a) ≠ none
        rw [if_pos z, e1]; simp
      · rw [upd_ne z] at ha; exact .inl ha
  | br i =>
    have x : σ[i]? = some (some v) := x
    have w : (match ρ[i]? with | some (.ow d) => Kd d (ρ.set i (.im d)) | some (.im d) => Kd d ρ | _ => False) := w
    cases e : ρ[i]? with
    | none => rw [e] at w; exact w.elim
    | some s =>
      rw [e] at w
      cases s with
      | no => exact w.elim
      | dk => exact w.elim
      | im d =>
        obtain ⟨u, e1, r⟩ := S.sl i _ e
        rw [x] at e1; cases e1
        exact ⟨d, ρ, B, S, Sub.refl _, r, w, fun _ z => z, fun _ z => .inl z⟩
      | ow d =>
        obtain ⟨p, o, e1, e2, ho, S', n1⟩ := S.frzSlot e
        rw [x] at e1; cases e1
        have s1 : Sub B (upd B p o) := Sub.new n1
        refine ⟨d, _, _, S', s1, (ho.mono s1).rp (Sub.refl _) upd_same, w, own_set_im e, fun a ha => ?_⟩
        by_cases z : a = p
        · subst z; exact .inr (.inr ⟨i, d, e, x⟩)
        · rw [upd_ne z] at ha; exact .inl ha
  | dk => exact w.elim
/-- the same entry, more held -/
structure AExt (A A' : Act) : Prop where
  h0 : A'.H0 = A.H0
  dp : A'.dp = A.dp
  u : ∀ a, A'.U0 a = none → A.U0 a = none
theorem AExt.refl (A : Act) : AExt A A := ⟨rfl, rfl, fun _ z => z⟩
theorem AExt.hold (x : ResOk W K A' B ρ σ H r v) (e : AExt A A') : AExt A (A'.hold H r v) := ⟨by rw [Act.hold_H0]; exact e.h0, by rw [Act.hold_dp]; exact e.dp, fun a z => e.u a (hold_U0 x z)⟩
theorem AExt.hold2 (x : ResOk W K A' B ρ σ H r v) (e : AExt A A') {a : Addr} (z : (A.hold H r v).U0 a ≠ none) : (A'.hold H r v).U0 a ≠ none := by
  cases r with
  | fr d =>
    obtain ⟨p, o, rfl, e1, _⟩ := x
    have z : (if a = p then H p else A.U0 a) ≠ none := z
    show (if a = p then H p else A'.U0 a) ≠ none
    by_cases h : a = p
    · rw [if_pos h] at z ⊢; exact z
    · rw [if_neg h] at z ⊢; exact fun y => z (e.u a y)
  | _ => cases v <;> exact fun y => z (e.u a y)
theorem AExt.res (e : AExt A A') (x : ResOk W K A' B ρ σ H r v) : ResOk W K A B ρ σ H r v := by
  cases r with
  | im d => exact x
  | fr d =>
    obtain ⟨p, o, q, e1, ho, n1, n2, n3, n4, n5⟩ := x
    rw [e.h0] at n3
    rw [e.dp] at n5
    refine ⟨p, o, q, e1, ho, n1, e.u _ n2, n3, n4, fun z y => W.less (n5 z y) fun a ha => ?_⟩
    rcases ha with (ha | ha) | ha
    · exact .inl (.inl fun y => ha (e.u a y))
    · exact .inl (.inr ha)
    · exact .inr ha
  | br i => exact x
  | dk => obtain ⟨p, q, h⟩ := x; rw [e.dp] at h; exact ⟨p, q, h⟩
theorem takeAll_ok : ∀ {rs : List R} {vs : List V} {A' : Act} {B : Hp} {ρ : En} {Kd : List D → En → Prop}, StOk W K A B ρ σ H → AExt A A' → ResAll W K B ρ σ H A' rs vs → takeAll ρ rs Kd → ∃ ds ρ' B', StOk W K A B' ρ' σ H ∧ Sub B B' ∧ RpAll K B' ds vs ∧ Kd ds ρ'
  | [], _, A', B, ρ, Kd, S, _, e, w => ⟨[], ρ, B, S, Sub.refl _, e, w⟩
  | r :: rs, _, A', B, ρ, Kd, S, ex, ⟨v, us, e, x, xs⟩, w => by
    subst e
    obtain ⟨d, ρ1, B1, S1, s1, x1, w1, o1, n1⟩ := take_ok S (ex.res x) w
    obtain ⟨ds, ρ2, B2, S2, s2, x2, w2⟩ := takeAll_ok S1 (ex.hold x) (res_keep_all s1 o1 (fun a ha => by
      rcases n1 a ha with z | z | z
      · exact .inl z
      · exact .inr (.inl (ex.hold2 x z))
      · exact .inr (.inr z)) xs) w1
    exact ⟨d :: ds, ρ2, B2, S2, s1.trans s2, ⟨v, us, rfl, x1.mono s2, x2⟩, w2⟩
theorem peekAll_ok (S : StOk W K A B ρ σ H) : ∀ {rs : List R} {vs : List V} {A' : Act} {Kd : List D → Prop}, AExt A A' → ResAll W K B ρ σ H A' rs vs → peekAll ρ rs Kd → ∃ ds, VwAll K B H ds vs ∧ Kd ds
  | [], _, A', Kd, _, e, w => by rw [show _ = [] from e]; exact ⟨[], .nil, w⟩
  | r :: rs, _, A', Kd, ex, ⟨v, us, e, x, xs⟩, w => by
    subst e
    obtain ⟨d, e1, w1⟩ := peek_ok w
    obtain ⟨ds, x2, w2⟩ := peekAll_ok S (ex.hold x) xs w1
    exact ⟨d :: ds, .cons (S.vw (ex.res x) e1) x2, w2⟩
end

section
variable {L : Lay} {Ed : Ex → En → Prop} {Wx : WX} {X : Cx} {a b : IE} {es : IEs} {x y : Expr} {xs : List Expr} {pos : Pos}
theorem RpAll.len_le {K : PySem.W.Frag} {B : Hp} {ds : List D} {vs : List V} (r : RpAll K B ds vs) : vs.length = ds.length := r.length
theorem wpEs_len {Γ : Ctx} {es : IEs} : ∀ {ρ : En} {Q : List R → En → Prop}, wpEs Γ Ed es ρ Q → True := fun _ => trivial
theorem ResAll.length {W : Wld} {K : PySem.W.Frag} {B H : Hp} {ρ : En} {σ : L2.St} : ∀ {A : Act} {rs : List R} {vs : List V}, ResAll W K B ρ σ H A rs vs → vs.length = rs.length
  | _, [], _, e => by rw [show _ = [] from e]; rfl
  | _, _ :: _, _, ⟨v, us, e, _, h⟩ => by subst e; rw [List.length_cons, List.length_cons, ResAll.length h]
theorem kpe_tup {k0 : Nat} (h : PA X xs (tEs L Ed Wx es)) : PE X (.Tuple xs k0 pos) (tE L Ed Wx (.tup es)) := by
  refine (pe_tup h).imp fun σ H Q ⟨A, B, ρ, Qd, S, w, ex, k⟩ => ?_
  refine ⟨A, B, ρ, _, S, w, ex, fun vs H1 rs ρ1 B1 S1 s1 x1 w1 => ⟨Nat.le_trans (by rw [x1.length]; exact w1.1) (by rw [sizeLine_eq]; decide), fun p hp => ?_⟩⟩
  obtain ⟨ds, ρ2, B2, S2, s2, x2, w2⟩ := takeAll_ok S1 (AExt.refl A) x1 w1.2
  have n1 := (S2.fresh hp).1
  exact k _ _ (.im (.tuple ds)) ρ2 _ (S2.laid hp) ((s1.trans s2).trans (Sub.new n1)) ⟨p, vs, rfl, SqT.of upd_same, x2.mono (Sub.new n1)⟩ w2
theorem kpe_lst (h : PA X xs (tEs L Ed Wx es)) : PE X (.List xs pos) (tE L Ed Wx (.lst es)) := by
  refine (pe_lst h).imp fun σ H Q ⟨A, B, ρ, Qd, S, w, ex, k⟩ => ?_
  refine ⟨A, B, ρ, _, S, w, ex, fun vs H1 rs ρ1 B1 S1 s1 x1 w1 => ⟨Nat.le_trans (by rw [x1.length]; exact w1.1) (by rw [sizeLine_eq]; decide), fun p hp => ?_⟩⟩
  obtain ⟨ds, ρ2, B2, S2, s2, x2, w2⟩ := takeAll_ok S1 (AExt.refl A) x1 w1.2
  obtain ⟨S3, R3⟩ := S2.loose (d := .list ds) (o := .lst vs) hp x2
  exact k _ _ (.fr (.list ds)) ρ2 _ S3 (s1.trans s2) R3 w2
theorem kpe_dicK : PE X (.Dict [] [] pos) (tE L Ed Wx (.dic false)) := pe_dnewK.imp fun σ H Q ⟨A, B, ρ, Qd, S, w, ex, k⟩ p hp => by
  obtain ⟨S3, R3⟩ := S.loose (d := .dict []) (o := .dK []) hp rfl
  exact k _ _ (.fr (.dict [])) ρ _ S3 (Sub.refl _) R3 w
theorem kpe_dicT : PE X (.Dict [] [] pos) (tE L Ed Wx (.dic true)) := pe_dnewT.imp fun σ H Q ⟨A, B, ρ, Qd, S, w, ex, k⟩ p hp => by
  obtain ⟨S3, R3⟩ := S.loose (d := .dict []) (o := .dT []) hp rfl
  exact k _ _ (.fr (.dict [])) ρ _ S3 (Sub.refl _) R3 w
/-- slices -/
def tO (L : Lay) (Ed : Ex → En → Prop) (Wx : WX) (io : IO) : TO := fun σ H Qv => ∃ (A : Act) (B : Hp) (ρ : En) (Q : Option Int → En → Prop), StOk L.W L.K A B ρ σ H ∧ wpO L.Γ Ed io ρ Q ∧ ExC L.W L.K L.cad A Ed Wx σ ∧
  ∀ o H' ρ' B', StOk L.W L.K A B' ρ' σ H' → Sub B B' → Q o ρ' → Qv o H'
theorem _root_.L2.PO.imp {X : Cx} {e : Option Expr} {t t' : TO} (h : PO X e t) (i : ∀ σ H Q, t' σ H Q → t σ H Q) : PO X e t' := ⟨fun pins s σ H Q I z => h.run pins s σ H Q I (i σ H Q z)⟩
theorem kpo_non : PO X none (tO L Ed Wx .non) := po_none.imp fun σ H Q ⟨A, B, ρ, Qd, S, w, ex, k⟩ => k none H ρ B S (Sub.refl _) w
theorem kpo_som (ha : PE X x (tE L Ed Wx a)) : PO X (some x) (tO L Ed Wx (.som a)) := (po_some ha).imp fun σ H Q ⟨A, B, ρ, Qd, S, w, ex, k⟩ => by
  refine ⟨A, B, ρ, _, S, w, ex, fun v H1 r1 ρ1 B1 S1 s1 x1 w1 => ?_⟩
  cases r1 with
  | im d => cases d with
    | int i => exact ⟨i, x1, k (some i) H1 ρ1 B1 S1 s1 w1⟩
    | _ => exact False.elim w1
  | _ => exact False.elim w1
theorem kpe_slc (hK : X.K = L.K) {lo hi : IO} {l h : Option Expr} {p2 : Pos} (ha : PE X x (tE L Ed Wx a)) (hl : PO X l (tO L Ed Wx lo)) (hh : PO X h (tO L Ed Wx hi)) : PE X (.Subscript x (.Slice l h none p2) pos) (tE L Ed Wx (.slc a lo hi)) := by
  refine (pe_slice (sl_slc (W := L.W)) ha hl hh).imp fun σ H Q ⟨A, B, ρ, Qd, S, w, ex, k⟩ => ?_
  refine ⟨A, B, ρ, _, S, w, ex, fun v H1 r1 ρ1 B1 S1 s1 x1 w1 => ?_⟩
  have h1 := hold_st S1 x1
  refine ⟨A.hold H1 r1 v, B1, ρ1, _, h1, w1, ex.hold x1, fun o H2 ρ2 B2 S2 s2 w2 => ?_⟩
  refine ⟨A.hold H1 r1 v, B2, ρ2, _, S2, w2, ex.hold x1, fun o' H3 ρ3 B3 S3 s3 w3 => ?_⟩
  have x3 := held S1 x1 S3 (s2.trans s3)
  have S3' := unhold_st x1 S3
  obtain ⟨d, e1, w3⟩ := peek_ok w3
  rw [hK]
  exact ⟨A, ρ3, σ, B3, d, _, S3', S3'.vw x3 e1, w3, fun z H4 r4 B4 S4 s4 x4 w4 => k z H4 r4 ρ3 B4 S4 (((s1.trans s2).trans s3).trans s4) x4 w4⟩
/-- built-ins -/
theorem kpe_bi (hK : X.K = L.K) (hc : X.calm = true) (hg : X.A.guards = some []) (hu : X.A.units + 70 < cLine) (n0 : ∀ {pins σ H s}, L2.Inv X pins σ H s → H sysModules = none) (b : Bi) {n : Str} {p : Pos} (hn : n = b.name) (hgl : Gl X n) (hm : X.mg n = none)
    (ha : PA X (x :: xs) (tEs L Ed Wx es)) (he : starEach (x :: xs) X.env = (false, eval x X.env) :: starEach xs X.env) (hpl : (backTo pos (starEach xs X.env)).any (·.1) = false) : PE X (.Call (.Name n p) (x :: xs) [] pos) (tE L Ed Wx (.bi b es)) := by
  subst hn
  have hcall := call_bi (X := X) (W := L.W) hc hg hu n0 b
  have h : PE X (.Call (.Name b.name p) (x :: xs) [] pos) (tCB (rBi L.W X.K b) (tEs L Ed Wx es)) := by
    have hb := b.boot
    have h1 : b.name ≠ "__name__" := by cases b <;> decide
    have h2 : (b.name == ("__debug__" : Str)) = false := by cases b <;> decide
    cases b <;> first
      | exact pe_callB hcall hgl hm hb ha h1 h2 he hpl
      | exact pe_callTy hcall hgl hm hb ha h1 h2 he hpl
  refine h.imp fun σ H Q ⟨A, B, ρ, Qd, S, w, ex, k⟩ => ?_
  refine ⟨A, B, ρ, _, S, w, ex, fun vs H1 rs ρ1 B1 S1 s1 x1 w1 => ?_⟩
  obtain ⟨ds, vw, w2⟩ := peekAll_ok S1 (AExt.refl A) x1 w1
  rw [hK]
  exact ⟨A, ρ1, σ, B1, ds, _, S1, vw, w2, fun z H4 r4 B4 S4 s4 x4 w4 => k z H4 r4 ρ1 B4 S4 (s1.trans s4) x4 w4⟩
theorem kpe_isinst (hK : X.K = L.K) {ty : String} {n : Str} {p p2 : Pos} (hty : ty ∈ tyNames) (hgl : Gl X "isinstance") (hm : X.mg "isinstance" = none) (hgl2 : Gl X n) (hm2 : X.mg n = none) (hv : bootBuiltins n = some (.type ty)) (hn1 : n ≠ "__name__") (hn2 : (n == ("__debug__" : Str)) = false)
    (ha : PE X x (tE L Ed Wx a)) (he : starEach [x, .Name n p2] X.env = (false, eval x X.env) :: starEach [.Name n p2] X.env) : PE X (.Call (.Name "isinstance" p) [x, .Name n p2] [] pos) (tE L Ed Wx (.isinst ty a)) := by
  have hb : PE X (.Name n p2) (tC (.ty ty)) := pe_bltn hgl2 hm2 hv rfl hn1 hn2
  refine (pe_callB (call_ist (W := L.W) hty) hgl hm (by decide +kernel) (pa_cons ha (pa_cons hb pa_nil) he) (by decide) (by decide) he rfl).imp fun σ H Q ⟨A, B, ρ, Qd, S, w, ex, k⟩ => ?_
  refine ⟨A, B, ρ, _, S, w, ex, fun v H1 r1 ρ1 B1 S1 s1 x1 w1 => ?_⟩
  obtain ⟨d, e1, w1⟩ := peek_ok w1
  rw [hK]
  exact ⟨A, ρ1, σ, B1, d, v, rfl, S1, S1.vw x1 e1, k _ H1 (.im (.bool (isTy ty d))) ρ1 B1 S1 s1 rfl w1⟩
theorem rgl_rp {K : PySem.W.Frag} {B : Hp} {a b : Int} : RpAll K B (rngL a b) (rgV a b) := by
  unfold rngL rgV
  generalize (b - a).toNat = n
  have go : ∀ l : List Nat, RpAll K B (l.map fun (i : Nat) => PyData.int (a + (i : Int))) (l.map fun i => V.int (a + (i : Nat))) := fun l => by
    induction l with
    | nil => rfl
    | cons i l ih => exact ⟨_, _, rfl, rfl, ih⟩
  exact go _
theorem rng_ok {A : Act} {B : Hp} {ρ : En} {σ : L2.St} {H : Hp} {i j : Int} {isT : Bool} {Qd : R → En → Prop} {Q : VK} (S : StOk L.W L.K A B ρ σ H) (w : Qd (if isT = true then .im (.tuple (rngL i j)) else .fr (.list (rngL i j))) ρ)
    (k : ∀ v H' r B', StOk L.W L.K A B' ρ σ H' → Sub B B' → ResOk L.W L.K A B' ρ σ H' r v → Qd r ρ → Q v H') {p : Addr} (hp : H p = none) : Q (.ref p) (upd H p (if isT = true then .tup (rgV i j) else .lst (rgV i j))) := by
  cases isT with
  | true =>
    have n1 := (S.fresh hp).1
    exact k _ _ (.im (.tuple (rngL i j))) _ (S.laid hp) (Sub.new n1) ⟨p, _, rfl, SqT.of upd_same, rgl_rp⟩ w
  | false =>
    obtain ⟨S3, R3⟩ := S.loose (d := .list (rngL i j)) (o := .lst (rgV i j)) hp rgl_rp
    exact k _ _ (.fr (.list (rngL i j))) _ S3 (Sub.refl _) R3 w
end
end KR

end
section
set_option Elab.async false
set_option linter.all false
set_option maxRecDepth 100000
set_option genSizeOf false
set_option maxHeartbeats 1000000
/-! Ranges as values, methods of a slot's list, slots that are set, targets. -/
namespace KR
open PySem L2

section
variable {L : Lay} {Ed : Ex → En → Prop} {Wx : WX} {X : Cx} {a b : IE} {es : IEs} {x y : Expr} {xs : List Expr} {pos : Pos}
theorem rng_one {W : Wld} {K : PySem.W.Frag} {A : Act} {B : Hp} {ρ : En} {σ : L2.St} {H : Hp} {r : R} {v : V} {Kd : List D → Prop} (x1 : ResOk W K A B ρ σ H r v) (S : StOk W K A B ρ σ H) (w : peekAll ρ [r] fun ds => rngD ds Kd) : ∃ n : Int, v = .int n ∧ RgOk 0 n ∧ -(2 ^ 62) ≤ n ∧ n ≤ 2 ^ 24 ∧ Kd (rngL 0 n) := by
  obtain ⟨d, e1, w⟩ := peek_ok w
  have vw := S.vw x1 e1
  cases d <;> first | exact False.elim w | skip
  case int n =>
  exact ⟨n, vw, ⟨by decide, by decide, w.1.1, by have := w.1.2; omega, by have := w.1.2; omega⟩, w.1.1, w.1.2, w.2⟩
theorem rng_two {W : Wld} {K : PySem.W.Frag} {A : Act} {B : Hp} {ρ : En} {σ : L2.St} {H : Hp} {r q : R} {v u : V} {Kd : List D → Prop} (x1 : ResOk W K A B ρ σ H r v) (x2 : ResOk W K A B ρ σ H q u) (S : StOk W K A B ρ σ H) (w : peekAll ρ [r, q] fun ds => rngD ds Kd) :
    ∃ i j : Int, v = .int i ∧ u = .int j ∧ RgOk i j ∧ Kd (rngL i j) := by
  obtain ⟨d, e1, w⟩ := peek_ok w
  obtain ⟨e, e2, w⟩ := peek_ok w
  have vw := S.vw x1 e1
  have vw2 := S.vw x2 e2
  have w2 : rngD [d, e] Kd := w
  clear w
  cases d <;> first | exact False.elim w2 | skip
  case int i =>
  cases e <;> first | exact False.elim w2 | skip
  case int j =>
  exact ⟨i, j, vw, vw2, w2.1, w2.2⟩
theorem kpe_rng1 (isT : Bool) {n : Str} {p p2 pos2 : Pos} (hc : X.calm = true) (hn : n = if isT = true then "tuple" else "list") (hg : Gl X n) (hm : X.mg n = none) (hg2 : Gl X "range") (hm2 : X.mg "range" = none) (ha : PE X x (tE L Ed Wx a))
    (na : starEach [x] X.env = (false, eval x X.env) :: starEach [] X.env) : PE X (.Call (.Name n p) [.Call (.Name "range" p2) [x] [] pos2] [] pos) (tE L Ed Wx (.rng isT (.cons a .nil))) := by
  have pr : PRg X (.Call (.Name "range" p2) [x] [] pos2) (tRg1 (tE L Ed Wx a)) := prg_1 hg2 hm2 ha na
  have go : ∀ σ H Q, tE L Ed Wx (.rng isT (.cons a .nil)) σ H Q → tRg1 (tE L Ed Wx a) σ H fun i j H1 => RgOk i j ∧ ∀ q, H1 q = none → Q (.ref q) (upd H1 q (if isT = true then .tup (rgV i j) else .lst (rgV i j))) := fun σ H Q ⟨A, B, ρ, Qd, S, w, ex, k⟩ => by
    refine ⟨A, B, ρ, _, S, w, ex, fun v H1 r1 ρ1 B1 S1 s1 x1 w1 => ?_⟩
    obtain ⟨m, e, ok, _, _, w2⟩ := rng_one x1 S1 w1
    exact ⟨m, e, ok, fun q hq => rng_ok S1 w2 (fun z H4 r4 B4 S4 s4 x4 w4 => k z H4 r4 ρ1 B4 S4 (s1.trans s4) x4 w4) hq⟩
  cases isT with
  | true => subst hn; exact (pe_tupRg hc hg hm pr).imp go
  | false => subst hn; exact (pe_listRg hc hg hm pr).imp go
theorem kpe_rng2 (isT : Bool) {n : Str} {p p2 pos2 : Pos} (hc : X.calm = true) (hn : n = if isT = true then "tuple" else "list") (hg : Gl X n) (hm : X.mg n = none) (hg2 : Gl X "range") (hm2 : X.mg "range" = none) (ha : PE X x (tE L Ed Wx a)) (hb : PE X y (tE L Ed Wx b))
    (na : starEach [x, y] X.env = (false, eval x X.env) :: starEach [y] X.env) (nb : starEach [y] X.env = (false, eval y X.env) :: starEach [] X.env) : PE X (.Call (.Name n p) [.Call (.Name "range" p2) [x, y] [] pos2] [] pos) (tE L Ed Wx (.rng isT (.cons a (.cons b .nil)))) := by
  have pr : PRg X (.Call (.Name "range" p2) [x, y] [] pos2) (tRg2 (tE L Ed Wx a) (tE L Ed Wx b)) := prg_2 hg2 hm2 ha hb na nb (by rw [nb]; rfl)
  have go : ∀ σ H Q, tE L Ed Wx (.rng isT (.cons a (.cons b .nil))) σ H Q → tRg2 (tE L Ed Wx a) (tE L Ed Wx b) σ H fun i j H1 => RgOk i j ∧ ∀ q, H1 q = none → Q (.ref q) (upd H1 q (if isT = true then .tup (rgV i j) else .lst (rgV i j))) := fun σ H Q ⟨A, B, ρ, Qd, S, w, ex, k⟩ => by
    refine two (Rr := fun x y H2 => ∃ i j, x = .int i ∧ y = .int j ∧ RgOk i j ∧ ∀ q, H2 q = none → Q (.ref q) (upd H2 q (if isT = true then .tup (rgV i j) else .lst (rgV i j)))) S w ex fun v u H2 r1 r2 ρ2 B2 S2 s2 x1 x2 w2 => ?_
    obtain ⟨i, j, e1, e2, ok, w3⟩ := rng_two x1 x2 S2 w2
    exact ⟨i, j, e1, e2, ok, fun q hq => rng_ok S2 w3 (fun z H4 r4 B4 S4 s4 x4 w4 => k z H4 r4 ρ2 B4 S4 (s2.trans s4) x4 w4) hq⟩
  cases isT with
  | true => subst hn; exact (pe_tupRg hc hg hm pr).imp go
  | false => subst hn; exact (pe_listRg hc hg hm pr).imp go
end

section
variable {W : Wld} {K : PySem.W.Frag} {A A' : Act} {B B' H H' : Hp} {ρ ρ' : En} {σ : L2.St} {p : Addr} {o o' : HO} {v w : V} {d d' : D} {r q : R} {i : Nat}
/-- a slot's own object is changed -/
theorem StOk.mut (S : StOk W K A B ρ σ H) (e : ρ[i]? = some (.ow d)) (es : σ[i]? = some (some (.ref p))) (ho : OwnO K B d' o') : StOk W K A B (ρ.set i (.ow d')) σ (upd H p o') := by
  obtain ⟨p', o, e1, e2, _, m1, m2, m3⟩ := S.sl i _ e
  rw [es] at e1; cases e1
  have hi : i < ρ.length := (List.getElem?_eq_some_iff.mp e).1
  have own' : ∀ a, Own σ (ρ.set i (.ow d')) a ↔ Own σ ρ a := fun a => by
    constructor
    · rintro ⟨j, f, q1, q2⟩
      by_cases hj : j = i
      · subst hj; exact ⟨j, d, e, q2⟩
      · rw [List.getElem?_set_ne (Ne.symm hj)] at q1; exact ⟨j, f, q1, q2⟩
    · rintro ⟨j, f, q1, q2⟩
      by_cases hj : j = i
      · subst hj; exact ⟨j, d', by rw [List.getElem?_set_self hi], q2⟩
      · exact ⟨j, f, by rw [List.getElem?_set_ne (Ne.symm hj)]; exact q1, q2⟩
  have slot : ∀ (j : Nat) (f : D), (ρ.set i (.ow d'))[j]? = some (.ow f) → ∃ g, ρ[j]? = some (.ow g) := fun j f q => by
    by_cases hj : j = i
    · subst hj; exact ⟨d, e⟩
    · rw [List.getElem?_set_ne (Ne.symm hj)] at q; exact ⟨f, q⟩
  refine ⟨S.b0, S.new, S.bu, S.bh.upd m1, S.uh.upd m2, fun a q => ?_, fun j s q => ?_, fun j k f g a q1 q2 q3 q4 => ?_, fun z q => ?_, by rw [List.length_set]; exact S.len⟩
  · by_cases ha : a = p
    · subst ha; exact m3
    · rw [upd_ne ha] at q; exact S.hh a q
  · by_cases hj : j = i
    · subst hj
      rw [List.getElem?_set_self hi] at q; cases q
      exact ⟨p, o', es, upd_same, ho, m1, m2, m3⟩
    · rw [List.getElem?_set_ne (Ne.symm hj)] at q
      have sl := S.sl j s q
      cases s with
      | no => trivial
      | im f => exact sl
      | ow f =>
        obtain ⟨x, u, z1, z2, r, n1, n2, n3⟩ := sl
        have ne : x ≠ p := fun z => by subst z; exact hj (S.one j i f d x q e z1 es)
        exact ⟨x, u, z1, by rw [upd_ne ne]; exact z2, r, n1, n2, n3⟩
      | dk => exact sl
  · obtain ⟨f', q1⟩ := slot j f q1
    obtain ⟨g', q2⟩ := slot k g q2
    exact S.one j k f' g' a q1 q2 q3 q4
  · refine W.less (W.stay (pr' := A.prot B σ ρ) (S.wd z q) (fun a u ha np => ?_) fun a ha => .inl ha) fun a ha => ?_
    · have ne : a ≠ p := fun z => np (by subst z; exact .inr (.inr ⟨i, d, e, es⟩))
      rw [upd_ne ne]; exact ha
    · rcases ha with ha | ha | ha
      · exact .inl ha
      · exact .inr (.inl ha)
      · exact .inr (.inr ((own' a).mp ha))
/-- a slot is set -/
def SetOk (W : Wld) (K : PySem.W.Frag) (A : Act) (B : Hp) (ρ : En) (σ : L2.St) (H : Hp) : Sl → V → Prop
  | .no, _ => True
  | .im d, v => Rp K B d v
  | .ow d, v => ResOk W K A B ρ σ H (.fr d) v
  | .dk, v => ∃ p, v = .ref p ∧ A.dp = some p
theorem StOk.setSl {s : Sl} (S : StOk W K A B ρ σ H) (hi : i < ρ.length) (x : SetOk W K A B ρ σ H s v) : StOk W K A B (ρ.set i s) (σ.set i (some v)) H := by
  have hi' : i < σ.length := by rw [← S.len]; exact hi
  have own' : ∀ a, Own (σ.set i (some v)) (ρ.set i s) a → Own σ ρ a ∨ (v = .ref a ∧ ∃ d, s = .ow d) := fun a ⟨j, f, q1, q2⟩ => by
    by_cases hj : j = i
    · subst hj
      rw [List.getElem?_set_self hi] at q1; rw [List.getElem?_set_self hi'] at q2
      cases q1; cases q2
      exact .inr ⟨rfl, f, rfl⟩
    · rw [List.getElem?_set_ne (Ne.symm hj)] at q1 q2
      exact .inl ⟨j, f, q1, q2⟩
  refine ⟨S.b0, S.new, S.bu, S.bh, S.uh, S.hh, fun j t q => ?_, fun j k f g a q1 q2 q3 q4 => ?_, fun z q => ?_, by rw [List.length_set, List.length_set]; exact S.len⟩
  · by_cases hj : j = i
    · subst hj
      rw [List.getElem?_set_self hi] at q; cases q
      cases s with
      | no => trivial
      | im d => exact ⟨v, by rw [List.getElem?_set_self hi'], x⟩
      | ow d =>
        obtain ⟨p, o, e, e1, ho, n1, n2, n3, n4, _⟩ := x
        exact ⟨p, o, by rw [List.getElem?_set_self hi', e], e1, ho, n1, n2, n3⟩
      | dk =>
        obtain ⟨p, e, h⟩ := x
        exact ⟨p, by rw [List.getElem?_set_self hi', e], h⟩
    · rw [List.getElem?_set_ne (Ne.symm hj)] at q
      have sl := S.sl j t q
      cases t with
      | no => trivial
      | im f => obtain ⟨u, e1, r⟩ := sl; exact ⟨u, by rw [List.getElem?_set_ne (Ne.symm hj)]; exact e1, r⟩
      | ow f => obtain ⟨x, u, z1, r⟩ := sl; exact ⟨x, u, by rw [List.getElem?_set_ne (Ne.symm hj)]; exact z1, r⟩
      | dk => obtain ⟨p, e1, r⟩ := sl; exact ⟨p, by rw [List.getElem?_set_ne (Ne.symm hj)]; exact e1, r⟩
  · by_cases hj : j = i
    · by_cases hk : k = i
      · rw [hj, hk]
      · exfalso
        subst hj
        rw [List.getElem?_set_self hi] at q1; rw [List.getElem?_set_self hi'] at q3
        rw [List.getElem?_set_ne (Ne.symm hk)] at q2 q4
        cases q1; cases q3
        obtain ⟨p, o, e, _, _, _, _, _, n4, _⟩ := x
        cases e
        exact n4 ⟨k, g, q2, q4⟩
    · by_cases hk : k = i
      · exfalso
        subst hk
        rw [List.getElem?_set_self hi] at q2; rw [List.getElem?_set_self hi'] at q4
        rw [List.getElem?_set_ne (Ne.symm hj)] at q1 q3
        cases q2; cases q4
        obtain ⟨p, o, e, _, _, _, _, _, n4, _⟩ := x
        cases e
        exact n4 ⟨j, f, q1, q3⟩
      · rw [List.getElem?_set_ne (Ne.symm hj)] at q1 q3
        rw [List.getElem?_set_ne (Ne.symm hk)] at q2 q4
        exact S.one j k f g a q1 q2 q3 q4
  · cases s with
    | ow d =>
      obtain ⟨p, o, e, _, _, _, _, _, _, n5⟩ := x
      refine W.less (n5 z q) fun a ha => ?_
      rcases ha with ha | ha | ha
      · exact .inl (.inl ha)
      · exact .inl (.inr (.inl ha))
      · rcases own' a ha with h | ⟨h, _⟩
        · exact .inl (.inr (.inr h))
        · rw [e] at h; cases h; exact .inr rfl
    | _ =>
      refine W.less (S.wd z q) fun a ha => ?_
      rcases ha with ha | ha | ha
      · exact .inl ha
      · exact .inr (.inl ha)
      · rcases own' a ha with h | ⟨_, d, h⟩
        · exact .inr (.inr h)
        · cases h
/-- a slot is forgotten -/
theorem StOk.drop (S : StOk W K A B ρ σ H) (i : Nat) : StOk W K A B (ρ.set i .no) (σ.set i none) H := by
  by_cases hi : i < ρ.length
  · have hi' : i < σ.length := by rw [← S.len]; exact hi
    have own' : ∀ a, Own (σ.set i none) (ρ.set i .no) a → Own σ ρ a := fun a ⟨j, f, q1, q2⟩ => by
      by_cases hj : j = i
      · subst hj; rw [List.getElem?_set_self hi] at q1; cases q1
      · rw [List.getElem?_set_ne (Ne.symm hj)] at q1 q2; exact ⟨j, f, q1, q2⟩
    refine ⟨S.b0, S.new, S.bu, S.bh, S.uh, S.hh, fun j t q => ?_, fun j k f g a q1 q2 q3 q4 => ?_, fun z q => W.less (S.wd z q) fun a ha => ?_, by rw [List.length_set, List.length_set]; exact S.len⟩
    · by_cases hj : j = i
      · subst hj; rw [List.getElem?_set_self hi] at q; cases q; trivial
      · rw [List.getElem?_set_ne (Ne.symm hj)] at q
        have sl := S.sl j t q
        cases t with
        | no => trivial
        | im f => obtain ⟨u, e1, r⟩ := sl; exact ⟨u, by rw [List.getElem?_set_ne (Ne.symm hj)]; exact e1, r⟩
        | ow f => obtain ⟨x, u, z1, r⟩ := sl; exact ⟨x, u, by rw [List.getElem?_set_ne (Ne.symm hj)]; exact z1, r⟩
        | dk => obtain ⟨p, e1, r⟩ := sl; exact ⟨p, by rw [List.getElem?_set_ne (Ne.symm hj)]; exact e1, r⟩
    · by_cases hj : j = i
      · subst hj; rw [List.getElem?_set_self hi] at q1; cases q1
      · by_cases hk : k = i
        · subst hk; rw [List.getElem?_set_self hi] at q2; cases q2
        · rw [List.getElem?_set_ne (Ne.symm hj)] at q1 q3
          rw [List.getElem?_set_ne (Ne.symm hk)] at q2 q4
          exact S.one j k f g a q1 q2 q3 q4
    · rcases ha with ha | ha | ha
      · exact .inl ha
      · exact .inr (.inl ha)
      · exact .inr (.inr (own' a ha))
  · have h1 : ρ.set i .no = ρ := List.set_eq_of_length_le (Nat.le_of_not_lt hi)
    have h2 : σ.set i none = σ := List.set_eq_of_length_le (by rw [← S.len]; exact Nat.le_of_not_lt hi)
    rw [h1, h2]; exact S
theorem StOk.wipe (S : StOk W K A B ρ σ H) : ∀ own : List (Str × Nat), StOk W K A B (wipeE ρ own) (L2.wipe σ (own.map (·.2))) H
  | [] => S
  | p :: ps => (S.wipe ps).drop p.2
/-- the slot a result goes to -/
theorem slot_ok {Kd : Sl → En → Prop} (S : StOk W K A B ρ σ H) (x : ResOk W K A B ρ σ H r v) (w : slotR ρ r Kd) : ∃ s ρ' B', StOk W K A B' ρ' σ H ∧ Sub B B' ∧ SetOk W K A B' ρ' σ H s v ∧ ρ'.length = ρ.length ∧ Kd s ρ' ∧ (∀ a, Own σ ρ' a → Own σ ρ a) ∧
    ∀ a, B' a ≠ none → B a ≠ none ∨ Own σ ρ a := by
  cases r with
  | im d => exact ⟨.im d, ρ, B, S, Sub.refl _, x, rfl, w, fun _ z => z, fun _ z => .inl z⟩
  | fr d => exact ⟨.ow d, ρ, B, S, Sub.refl _, x, rfl, w, fun _ z => z, fun _ z => .inl z⟩
  | br i =>
    have x : σ[i]? = some (some v) := x
    have w : (match ρ[i]? with | some (.ow d) => Kd (.im d) (ρ.set i (.im d)) | some (.im d) => Kd (.im d) ρ | _ => False) := w
    cases e : ρ[i]? with
    | none => rw [e] at w; exact w.elim
    | some s =>
      rw [e] at w
      cases s with
      | no => exact w.elim
      | dk => exact w.elim
      | im d =>
        obtain ⟨u, e1, r⟩ := S.sl i _ e
        rw [x] at e1; cases e1
        exact ⟨.im d, ρ, B, S, Sub.refl _, r, rfl, w, fun _ z => z, fun _ z => .inl z⟩
      | ow d =>
        obtain ⟨p, o, e1, e2, ho, S', n1⟩ := S.frzSlot e
        rw [x] at e1; cases e1
        have s1 : Sub B (upd B p o) := Sub.new n1
        refine ⟨.im d, _, _, S', s1, (ho.mono s1).rp (Sub.refl _) upd_same, by rw [List.length_set], w, own_set_im e, fun a ha => ?_⟩
        by_cases z : a = p
        · subst z; exact .inr ⟨i, d, e, x⟩
        · rw [upd_ne z] at ha; exact .inl ha
  | dk => exact ⟨.dk, ρ, B, S, Sub.refl _, x, rfl, w, fun _ z => z, fun _ z => .inl z⟩
end
end KR

end
section
set_option Elab.async false
set_option linter.all false
set_option maxRecDepth 100000
set_option genSizeOf false
set_option maxHeartbeats 2000000
/-! enumerate over a tuple, a tuple read backwards. -/
namespace KR
open PySem
open Sem (wp)
open AutoSeq1 (wpAny_loadPart')
theorem meets_enum_newT (l : Addr) (items : Array Value) (n : Nat) (dct : Option Addr) (sl : Array (Option Value)) :
    Meets (Builtin.«enumerate.__new__» ⟨[.type "enumerate", .ref l], []⟩) (fun _ R s => s.heap.get? l = some { cls := .type "tuple", dict := dct, data := .seq items n, slots := sl } ∧
      R (.ok (.ret (.ref (s.heap.push { cls := .type "tuple_iterator", data := .fields #[.ref l, .int 0 0] }).objs.size)))
        { s with heap := (s.heap.push { cls := .type "tuple_iterator", data := .fields #[.ref l, .int 0 0] }).push { cls := .type "enumerate", data := .fields #[.none, .bool false, .ref s.heap.objs.size, rawInt 0, .none, .none] } }) :=
  .of_wp fun prog w A R s h => by
    obtain ⟨hp, g, d, tk, os⟩ := s; obtain ⟨hl, h⟩ := h
    have hsub := sub_enumerate
    have hL : Heap.IsTuple (Shared.heap ⟨hp, g, d, tk, os⟩) l items := ⟨_, hl, rfl, n, rfl⟩
    wp_walk using wpAny_loadPart' hl
    refine wpAny_stack_any fun st => wpAny_pure ?_
    split
    · rename_i c _ _ _ _ _
      cases (c == Value.type "enumerate")
      · wp_walk using wpAny_loadPart' hl, wpAny_pyIter_tuple hL
        exact ⟨_, rfl, h⟩
      · wp_walk using wpAny_loadPart' hl, wpAny_pyIter_tuple hL
        exact ⟨_, rfl, h⟩
    · wp_walk using wpAny_loadPart' hl, wpAny_pyIter_tuple hL
      exact ⟨_, rfl, h⟩
section
variable {prog : Program} {w : World} {A : Around} {E : Value → Shared → Prop} {s : Shared}
theorem call_enum_tup {l : Addr} {items : Array Value} {Q : Value → Shared → Prop} (hL : s.heap.IsTuple l items)
    (h : ∀ h', IsEnum h' (s.heap.objs.size + 1) s.heap.objs.size 0 .none → h'.IsTupleIter s.heap.objs.size l 0 → h'.objs.size = s.heap.objs.size + 2 →
      (∀ b o, s.heap.get? b = some o → h'.get? b = some o) → Q (.ref (s.heap.objs.size + 1)) { s with heap := h' }) :
    wpAny (model prog w) A (call (.type "enumerate") [.ref l]) Q E s := by
  obtain ⟨⟨c, dct, dt, sl⟩, hl, hc, n, hd⟩ := hL
  replace hc : c = .type "tuple" := hc
  replace hd : dt = .seq items n := hd
  subst hc hd
  refine callType_new F.called_enumerate (by decide) (F.typeCall_enumerate_1 _) (F.newCall_enumerate_1 _) (fun obj => F.args_object_init_2 obj _) F.entry_enumerate_new
    (meets_enum_newT l items n dct sl) ⟨hl, ?_⟩
  have hz : (s.heap.push { cls := .type "tuple_iterator", data := .fields #[.ref l, .int 0 0] }).objs.size = s.heap.objs.size + 1 := Heap.size_push ..
  show _ ∧ _
  rw [hz]
  have he : IsEnum ((s.heap.push { cls := .type "tuple_iterator", data := .fields #[.ref l, .int 0 0] }).push
      { cls := .type "enumerate", data := .fields #[.none, .bool false, .ref s.heap.objs.size, rawInt 0, .none, .none] }) (s.heap.objs.size + 1) s.heap.objs.size 0 .none := by
    have := Heap.get?_push_size (s.heap.push { cls := .type "tuple_iterator", data := .fields #[.ref l, .int 0 0] })
      (o := { cls := .type "enumerate", data := .fields #[.none, .bool false, .ref s.heap.objs.size, rawInt 0, .none, .none] }) rfl
    rw [hz] at this; exact this
  refine ⟨⟨_, he, rfl⟩, h _ he ⟨_, Heap.get?_push_of_some _ (Heap.get?_push_size _ rfl), rfl, rfl⟩ (by rw [Heap.size_push, hz]) fun b o x => Heap.get?_push_of_some _ (Heap.get?_push_of_some _ x)⟩
open HT PyProof.Rows in
theorem sliceApplied_rev {sl : Addr} {vs : Value} {n : Nat} {Q : Int × Int × Nat → Shared → Prop} (hs : s.heap.IsSliceOf sl .none .none vs) (ps : IsPart vs (some (-1)))
    (h : Q ((n : Int) - 1, -1, n) s) : wpAny (model prog w) A (Builtin.Slice.sliceApplied (.ref sl) (pure (n : Int))) Q E s := by
  obtain ⟨os, hos, hcs, hds⟩ := id hs
  unfold Builtin.Slice.sliceApplied Builtin.Slice.sliceFields
  refine wpAny_bind (wpAny_bind (wpAny_field hos hds (x := .none) rfl (wpAny_bind (wpAny_field hos hds (x := .none) rfl (wpAny_bind (wpAny_field hos hds (x := vs) rfl (wpAny_pure ?_)))))))
  refine wpAny_bind (slicePart_ ps ?_)
  show wpAny _ _ (if ((-1 : Int) == 0) = true then _ else _) _ _ s
  rw [if_neg (by decide)]
  refine wpAny_bind (slicePart_none (wpAny_bind (slicePart_none (wpAny_bind (wpAny_pure ?_)))))
  have e1 : Builtin.Slice.sliceAdjust none none (-1) (n : Int) = ((n : Int) - 1, -1) := by
    unfold Builtin.Slice.sliceAdjust
    simp
  have e2 : Builtin.Slice.slicePlaces ((n : Int) - 1) (-1) (-1) = n := by
    unfold Builtin.Slice.slicePlaces
    simp
    omega
  show wpAny _ _ (match Builtin.Slice.sliceAdjust none none (-1) (n : Int) with | (lo, hi) => pure (lo, (-1 : Int), Builtin.Slice.slicePlaces lo hi (-1))) _ _ s
  rw [e1]
  show wpAny _ _ (pure ((n : Int) - 1, (-1 : Int), Builtin.Slice.slicePlaces ((n : Int) - 1) (-1) (-1))) _ _ s
  rw [e2]
  exact wpAny_pure h
theorem pick_rev (xs : Array Value) : ((List.range xs.size).filterMap fun (m : Nat) => xs[((xs.size : Int) - 1 + (m : Int) * (-1)).toNat]?).toArray = xs.toList.reverse.toArray := by
  have h := PySem.W.krv_all xs
  have e : ((List.range xs.size).filterMap fun (m : Nat) => xs[((xs.size : Int) - 1 + (m : Int) * (-1)).toNat]?) = ((List.range xs.size).map fun k => xs.size - 1 - k).filterMap (xs[·]?) := by
    rw [List.filterMap_map]
    congr 1
    funext m
    have : ((xs.size : Int) - 1 + (m : Int) * (-1)).toNat = xs.size - 1 - m := by omega
    rw [this]; rfl
  rw [e, PySem.W.krv_range, List.filterMap_reverse, h]
open HT PyProof.Rows in
theorem getItem_tuple_rev {t sl : Addr} {items : Array Value} {vs : Value} {Q : Value → Shared → Prop} (ht : IsTup s.heap t items) (hs : s.heap.IsSliceOf sl .none .none vs) (ps : IsPart vs (some (-1)))
    (h : Q (.ref s.heap.objs.size) { s with heap := s.heap.push { cls := .type "tuple", data := .seq items.toList.reverse.toArray } })
    (hsz : items.size ≤ sizeLine) : wpAny (model prog w) A (getItem (.ref t) (.ref sl)) Q E s := by
  have htake : sizeOk (.seq items.toList.reverse.toArray) := by
    show items.toList.reverse.toArray.size ≤ sizeLine
    rw [List.size_toArray, List.length_reverse, Array.length_toList]
    omega
  obtain ⟨os, hos, hcs, hds⟩ := id hs
  have hTs : s.TypeIs (.ref sl) "slice" := ⟨os, hos, hcs⟩
  unfold getItem
  try with_reducible refine wpAny_holding ?_
  first | refine wpAny_bind (wpAny_pure ?_) | skip
  refine wpAny_bind (wpAny_sequenceKey ht.typeIs (by decide) ?_)
  refine wpAny_bind (wpAny_callSpecial?_slot (name := Str.ofString "__getitem__") ht.typeIs PyProof.Rows.slot_tuple_getitem
    (wpAny_call_entry PyProof.Rows.slot_tuple_getitem ht.typeIs entry_tuple_getitem ?_ (args_tuple_getitem _ _)))
  show wpAny _ _ (Builtin.Tuple.tupleItemsOf (.ref t) >>= _) _ _ s
  refine wpAny_bind (tupleItemsOf_ ht ?_)
  refine wpAny_bind (wpAny_typeOf hTs ?_)
  rw [if_pos (by decide)]
  refine wpAny_bind (sliceApplied_rev hs ps ?_)
  have hno : ¬ ((((items.size : Int) - 1) == 0 && (-1 : Int) == 1 && items.size == items.size) = true) := by
    intro q
    rw [Bool.and_eq_true, Bool.and_eq_true] at q
    have q1 : ((-1 : Int) == 1) = true := q.1.2
    exact absurd q1 (by decide)
  show wpAny _ _ (if (((items.size : Int) - 1) == 0 && (-1 : Int) == 1 && items.size == items.size) = true then _ else _) _ _ s
  rw [if_neg hno, pick_rev]
  first
    | exact wpAny_bind (m := Builtin.Tuple.tupleExact _) (wpAny_newObj_type (wpAny_pure ⟨_, rfl, wpAny_pure h⟩) htake)
    | exact wpAny_bind (m := Builtin.Tuple.tupleExact _) (wpAny_newObj_type (wpAny_bind (wpAny_pure (wpAny_pure ⟨_, rfl, wpAny_pure h⟩))) htake)
    | exact wpAny_bind (wpAny_bind (m := Builtin.Tuple.tupleExact _) (wpAny_newObj_type (wpAny_pure (wpAny_pure ⟨_, rfl, wpAny_pure h⟩)) htake))
    | exact wpAny_bind (wpAny_bind (m := Builtin.Tuple.tupleExact _) (wpAny_newObj_type (wpAny_pure ⟨_, rfl, wpAny_pure h⟩) htake))
end
end KR
namespace KR
open PySem L2 PySem.Spec PyProof.Rows
def IteT (K : PySem.W.Frag) (a : Addr) : It :=
  ⟨fun i H => ∃ (xs : List V) (x : V), SqT K H a xs ∧ xs[i]? = some x, fun i H v H' => ∃ T x, v = .ref T ∧ H T = none ∧ H' = upd H T (.tup [.int (i : Nat), x]) ∧ ∀ xs, SqT K H a xs → xs[i]? = some x, fun i H => ∃ xs : List V, SqT K H a xs ∧ xs.length ≤ i⟩
theorem turn_enumT {P : Program} {w : World} {K : PySem.W.Frag} {elts : List Expr} {kk : Nat} {tpos : Pos} (a e it : Addr) :
    Turn P w K (.Tuple elts kk tpos) (IteT K a) [e, it] e (fun i h => (∃ old, IsEnum h e it ((i : Nat) : Int) old) ∧ h.IsTupleIter it a i ∧ e ≠ it ∧ e ≠ a ∧ a ≠ it) where
  mem := by simp
  obj := fun i h st b hb => by
    obtain ⟨⟨old, he⟩, ⟨o, ho, hc, hd⟩, _⟩ := st
    have e' : b = e ∨ b = it := by simpa using hb
    rcases e' with z | z
    · rw [z]; exact ⟨_, he, fun v q => nomatch q⟩
    · rw [z]; exact ⟨o, ho, fun v q => by rw [hd] at q; cases q⟩
  keep := fun i h h' st k => let ⟨⟨old, he⟩, hi, hne⟩ := st; ⟨⟨old, k e (by simp) _ he⟩, hi.at fun o q => k it (by simp) o q, hne⟩
  item := by
    intro X hP hw hK hc i pins s σ H E I hf st hg
    subst hP hw hK
    obtain ⟨⟨old, he⟩, hit, hne, hea, hai⟩ := st
    obtain ⟨xs, x, hq, hx⟩ := hg
    obtain ⟨its, rv, p, hz⟩ := I.tuple hq
    obtain ⟨u, hu, ru⟩ := rv.get hx
    have hel : e < s.heap.objs.size := Heap.lt_size he
    have hil : it < s.heap.objs.size := by obtain ⟨_, q, _⟩ := hit; exact Heap.lt_size q
    have DT := Draws.tuple (prog := X.prog) (w := X.w) (A := X.A.in1) (I.ok.hd hc) it a hai its.toArray
    have pt : s.heap.IsTuple a its.toArray := p
    have lt : i < its.toArray.size := by
      have : i < its.length := (List.getElem?_eq_some_iff.mp hu).1
      simpa using this
    refine wpAny_pyNext_enum_itemD DT he ⟨hit, pt⟩ lt hne (by simp [hne, hea]) fun x' h' tk hP ho st' hT hsz hk => ?_
    have ex : x' = u := by
      have h1 : its.toArray[i]? = some x' := hP
      have h2 : its.toArray[i]? = some u := by simpa using hu
      rw [h1] at h2; exact Option.some.inj h2
    subst ex
    refine ⟨_, rfl, wpAny_letOwnedTupleGo_enum (s := { s with heap := h', toks := tk + 1 }) ho fun h'' he' sb => ?_⟩
    have hT2 : h''.get? s.heap.objs.size = some { cls := .type "tuple", data := .seq #[.int i tk, x'] } := (sb.2 _ (Nat.ne_of_gt hel)).trans hT
    have new : ObjOk X.prog X.w (upd H s.heap.objs.size (.tup [.int (i : Nat), x])) h'' s.heap.objs.size (.tup [.int (i : Nat), x]) :=
      ⟨by show 2 ≤ sizeLine; decide, [.int i tk, x'], .cons ⟨_, rfl⟩ (.cons ru .nil), ⟨_, hT2, rfl, _, rfl⟩⟩
    have I1 : Inv X pins σ (upd H s.heap.objs.size (.tup [.int (i : Nat), x])) { s with heap := h'', toks := tk + 1 } :=
      I.turnedNew (ch := [e, it]) (fun b ob hb q => (sb.2 b (fun z => hb (by simp [z]))).trans (hk b ob (fun z => hb (by simp [z])) (fun z => hb (by simp [z])) q)) hf (Nat.le_refl _) new
    refine ⟨.ref s.heap.objs.size, _, I1, rfl, ⟨_, x, rfl, I.hok.fresh (Nat.le_refl _), rfl, fun ys hy => by rw [I.tuple_inj hy hq]; exact hx⟩, ⟨⟨x', ?_⟩, st'.1.at fun o q => (sb.2 it (Ne.symm hne)).trans q, hne, hea, hai⟩, fun b hb => ?_⟩
    · have e1 : ((i + 1 : Nat) : Int) = (i : Int) + 1 := by omega
      rw [e1]; exact he'
    · have hb' : b < s.heap.objs.size := by
        have e' : b = e ∨ b = it := by simpa using hb
        rcases e' with z | z
        · rw [z]; exact hel
        · rw [z]; exact hil
      rw [upd_ne (Nat.ne_of_lt hb')]
      exact (hf b hb).1
  done := by
    intro X hP hw hK hc i pins s σ H E I hf st hg
    subst hP hw hK
    obtain ⟨⟨old, he⟩, hit, hne, hea, hai⟩ := st
    obtain ⟨xs, hq, hx⟩ := hg
    obtain ⟨its, rv, p, hz⟩ := I.tuple hq
    obtain ⟨f0, f1, f2, f3, f4, f5⟩ := hf it (by simp)
    have hl := rv.length
    have pt : s.heap.IsTuple a its.toArray := p
    have hT : s.TypeIs (.ref e) "enumerate" := ⟨_, he, rfl⟩
    unfold pyNext
    refine wpAny_bind (wpAny_attempt (wpAny_callSpecial?_slot (name := Str.ofString "__next__") hT F.slot_enumerate_next
      (wpAny_call_entry F.slot_enumerate_next hT F.entry_enumerate_next ?_ (F.args_enumerate_next_1 _))))
    show wpAny _ _ (field (.ref e) 2 >>= _) _ _ _
    refine wpAny_bind (wpAny_field he rfl (x := .ref it) rfl ?_)
    refine wpAny_bind (wpAny_nextOf_tuple_end (I.ok.hd hc) hit pt (by simp; omega) fun h' x he' hx' => ?_)
    obtain ⟨o, ho, hc'⟩ := hx'
    refine wpAny_bind (wpAny_isInstance (T := "StopIteration") (b := true) ⟨o, ho, hc'⟩ isSubtype_stop ?_)
    exact wpAny_pure ⟨rfl, I.turned (t' := s.toks) (fun b o hb q => he' b o hb q) f0 f1 f3 f4 f5⟩
  self := fun A i s Q E st h => let ⟨⟨_, he⟩, _⟩ := st; wpAny_pyIter_enum he h
/-- enumerate of a list or of a tuple -/
def iEnumA (K : PySem.W.Frag) (ta : TA) : TI := fun σ H R => ta σ H fun vs H1 => ∃ a xs, vs = [.ref a] ∧ ((SqL K H1 a xs ∧ R (Ite K a) H1) ∨ (SqT K H1 a xs ∧ R (IteT K a) H1))
theorem pi_enumA {X : Cx} {e : Expr} {ta : TA} {p pos tpos : Pos} {elts : List Expr} {kk : Nat} (hg : Gl X "enumerate") (hm : X.mg "enumerate" = none) (ha : PA X [e] ta) (hs : starEach [e] X.env = [(false, eval e X.env)]) :
    PI X (.Tuple elts kk tpos) (.Call (.Name "enumerate" p) [e] [] pos) (iEnumA X.K ta) := by
  refine ⟨fun pins s σ H R I h => ?_⟩
  refine Call_ (ld_blt I hg hm boot_enumerate (PyProof.Rows.callWith_type1 (thn (ha.run pos pins s σ H _ I h) fun us s1 ⟨vs, H1, I1, r1, q1⟩ => ?_) hs rfl))
  obtain ⟨a, xs, ex, q⟩ := q1
  subst ex
  cases r1 with
  | cons r rr =>
    cases rr
    cases r
    have fin : ∀ b, b ∈ [s1.heap.objs.size + 1, s1.heap.objs.size] → FpOk X pins H1 b := fun b hb => by
      have e' : b = s1.heap.objs.size + 1 ∨ b = s1.heap.objs.size := by simpa using hb
      have hle : s1.heap.objs.size ≤ b := by
        rcases e' with z | z
        · rw [z]; exact Nat.le_add_right _ _
        · rw [z]; exact Nat.le_refl _
      exact I1.fpOk hle (I1.hok.fresh hle)
    rcases q with ⟨hq, q⟩ | ⟨hq, q⟩
    · obtain ⟨its, rv, p', hz⟩ := I1.list hq
      refine call_enumerate_list p'.isList fun h' he hit hsz hk => wpAny_pyIter_enum he ?_
      have I2 : Inv X pins σ H1 { s1 with heap := h' } := I1.kept (t' := s1.toks) hk
      exact ⟨s1.heap.objs.size + 1, [s1.heap.objs.size + 1, s1.heap.objs.size], _, _, H1, rfl, I2, turn_enum a (s1.heap.objs.size + 1) s1.heap.objs.size, ⟨⟨.none, he⟩, hit, Nat.succ_ne_self _⟩, fin, q⟩
    · obtain ⟨its, rv, p', hz⟩ := I1.tuple hq
      obtain ⟨oa, hoa, _⟩ := id p'
      have hal : a < s1.heap.objs.size := Heap.lt_size hoa
      refine call_enum_tup (show s1.heap.IsTuple a its.toArray from p') fun h' he hit hsz hk => wpAny_pyIter_enum he ?_
      have I2 : Inv X pins σ H1 { s1 with heap := h' } := I1.kept (t' := s1.toks) hk
      exact ⟨s1.heap.objs.size + 1, [s1.heap.objs.size + 1, s1.heap.objs.size], _, _, H1, rfl, I2, turn_enumT a (s1.heap.objs.size + 1) s1.heap.objs.size, ⟨⟨.none, he⟩, hit, Nat.succ_ne_self _, Nat.ne_of_gt (Nat.lt_succ_of_lt hal), Nat.ne_of_lt hal⟩, fin, q⟩
/-! [::-1] of a list or of a tuple -/
def tRevA (K : PySem.W.Frag) (te : TE) : TE := fun σ H Q => te σ H fun x H1 => ∃ a xs, x = .ref a ∧ ((SqL K H1 a xs ∧ ∀ p, H1 p = none → Q (.ref p) (upd H1 p (.lst xs.reverse))) ∨ (SqT K H1 a xs ∧ ∀ p, H1 p = none → Q (.ref p) (upd H1 p (.tup xs.reverse))))
theorem pe_revA {X : Cx} {e : Expr} {te : TE} {k : Nat} {p1 p2 p3 pos : Pos} (he : PE X e te) : PE X (.Subscript e (.Slice none none (some (.UnaryOp .USub (.Constant (.int 1) k p1) p2)) p3) pos) (tRevA X.K te) := by
  refine ⟨fun pins s σ H Q I h => ?_⟩
  refine Subscript_ (thn (he.run pins s σ H _ I h) fun v s1 ⟨x, H1, I1, r1, q1⟩ => ?_)
  obtain ⟨a, xs, ex, q⟩ := q1
  subst ex
  cases r1
  have hst : PO X (some (.UnaryOp .USub (.Constant (.int 1) k p1) p2)) (tPart (tUn (rU fun i => .int (-i)) (tC (.int 1)))) := po_some (pe_un un_neg pe_int)
  have vn : ∀ {v : Value}, IsPart v none → v = .none := fun h => by cases h; rfl
  refine wpAny_Slice (thn (po_none.run pins s1 σ H1 (fun o H2 => o = none ∧ H2 = H1) I1 ⟨rfl, rfl⟩) fun vl s2 ⟨l, H2, I2, pl, el, e2⟩ => ?_)
  subst el e2
  refine thn (po_none.run pins s2 σ H2 (fun o H3 => o = none ∧ H3 = H2) I2 ⟨rfl, rfl⟩) fun vu s3 ⟨u, H3, I3, pu, eu, e3⟩ => ?_
  subst eu e3
  refine thn (hst.run pins s3 σ H3 (fun o H4 => o = some (-1) ∧ H4 = H3) I3 ⟨1, rfl, -1, rfl, rfl, rfl⟩) fun vs s4 ⟨o, H4, I4, ps, eo, e4⟩ => ?_
  subst eo e4
  have I5 : Inv X pins σ H4 { s4 with heap := s4.heap.push { cls := .type "slice", data := .fields #[vl, vu, vs] } } := I4.kept (t' := s4.toks) fun b ob q => Heap.get?_push_of_some _ q
  show wpAny (model X.prog X.w) X.A (subscriptTail e (.Slice none none (some (.UnaryOp .USub (.Constant (.int 1) k p1) p2)) p3) (.ref a) (.ref s4.heap.objs.size)) (EP X pins σ Q) X.xe { s4 with heap := s4.heap.push { cls := .type "slice", data := .fields #[vl, vu, vs] } }
  rcases q with ⟨hx, q⟩ | ⟨hx, q⟩
  · obtain ⟨its, r, ht, hz⟩ := I5.list hx
    have hlen := r.length
    refine tail_any (ops := [.ref a, .ref s4.heap.objs.size]) ht.isList.typeIs (PySem.slot_list_getitem.lookup) ?_ (by with_unfolding_all rfl)
    refine wpAny_getItem_list_slice ht.isList (Heap.IsSliceOf.new _ vl vu vs) pl pu ps (by decide) ?_ (by rw [List.size_toArray]; omega)
    rw [PySem.W.krv_pick]
    refine ⟨.ref _, _, I5.laid (t' := s4.toks) (o := .lst xs.reverse) (fun b ob q => Heap.get?_push_of_some _ q) (Nat.le_refl _) ?_, rfl, q _ (I5.hok.fresh (Nat.le_refl _))⟩
    exact ⟨by rw [List.length_reverse]; exact hz, _, 0, r.reverse, Heap.get?_push_size _ rfl⟩
  · obtain ⟨its, r, ht, hz⟩ := I5.tuple hx
    have hlen := r.length
    cases vn pl; cases vn pu
    refine tail_any (ops := [.ref a, .ref s4.heap.objs.size]) ht.typeIs (PyProof.Rows.slot_tuple_getitem.lookup) ?_ (by with_unfolding_all rfl)
    refine getItem_tuple_rev ht (Heap.IsSliceOf.new _ .none .none vs) ps ?_ (by rw [List.size_toArray]; omega)
    refine ⟨.ref _, _, I5.laid (t' := s4.toks) (o := .tup xs.reverse) (fun b ob q => Heap.get?_push_of_some _ q) (Nat.le_refl _) ?_, rfl, q _ (I5.hok.fresh (Nat.le_refl _))⟩
    exact ⟨by rw [List.length_reverse]; exact hz, _, r.reverse, IsTup.new _ _⟩
end KR

end
section
set_option Elab.async false
set_option linter.all false
set_option maxRecDepth 100000
set_option genSizeOf false
set_option maxHeartbeats 2000000
/-! What is gone through; targets; methods of a slot's list. -/
namespace KR
open PySem L2

/-- what a turn hands over -/
def YD (K : PySem.W.Frag) (B : Hp) (ds : List D) : Nat → Hp → V → Hp → Prop := fun i H x H' =>
  (H' = H ∧ ∃ d, ds[i]? = some d ∧ Rp K B d x) ∨ (∃ T a b u v, x = .ref T ∧ H T = none ∧ H' = upd H T (.tup [u, v]) ∧ ds[i]? = some (.tuple [a, b]) ∧ Rp K B a u ∧ Rp K B b v)
def DW (K : PySem.W.Frag) (B : Hp) (J : It) (ds : List D) : Prop := Walk J ds.length (fun H => Sub B H) (YD K B ds)
section
variable {W : Wld} {K : PySem.W.Frag} {A A' : Act} {B B' B1 H H' : Hp} {ρ ρ' : En} {σ σ' : L2.St} {p : Addr} {o o' : HO} {v w x : V} {d d' : D} {r q : R} {i : Nat} {ds : List D} {xs : List V} {a : Addr} {J : It}
theorem RpAll.get' : ∀ {ds : List D} {xs : List V} {i : Nat} {x : V}, RpAll K B ds xs → xs[i]? = some x → ∃ d, ds[i]? = some d ∧ Rp K B d x
  | [], _, i, x, r, e => by rw [show _ = [] from r] at e; simp at e
  | d :: ds, _, 0, x, ⟨y, r, e, h1, h2⟩, q => by subst e; simp at q; subst q; exact ⟨d, rfl, h1⟩
  | d :: ds, _, i + 1, x, ⟨y, r, e, h1, h2⟩, q => by
    subst e
    obtain ⟨d', e1, e2⟩ := RpAll.get' h2 (by simpa using q)
    exact ⟨d', by simpa using e1, e2⟩
theorem dw_list (e : B a = some (.lst xs)) (r : RpAll K B ds xs) : DW K B (Itl K a) ds := by
  unfold DW
  rw [← r.length]
  exact walk_list.mono (fun H h => SqL.of (h _ _ e)) fun i H x H' _ _ y => .inl ⟨y.1, r.get' y.2⟩
theorem dw_tup (e : SqT K B a xs) (r : RpAll K B ds xs) : DW K B (Itt K a) ds := by
  unfold DW
  rw [← r.length]
  exact walk_tup.mono (fun H h => h.sqT e) fun i H x H' _ _ y => .inl ⟨y.1, r.get' y.2⟩
theorem dw_rng {lo hi : Int} : DW K B (Itr lo (hi - lo).toNat) (rngL lo hi) := by
  unfold DW
  have e : (rngL lo hi).length = (hi - lo).toNat := by unfold rngL; rw [List.length_map, List.length_range]
  rw [e]
  refine walk_range.mono (fun H h => trivial) fun i H x H' hi' _ y => .inl ⟨y.1, .int (lo + i), ?_, y.2⟩
  unfold rngL
  rw [List.getElem?_map, List.getElem?_range hi']; rfl
theorem zipIdx_get {ds : List D} {i : Nat} {d : D} (h : ds[i]? = some d) : (ds.zipIdx.map fun p => PyData.tuple [.int (p.2 : Int), p.1])[i]? = some (.tuple [.int (i : Nat), d]) := by
  rw [List.getElem?_map, List.getElem?_zipIdx, h]; simp
theorem dw_enum (e : B a = some (.lst xs)) (r : RpAll K B ds xs) : DW K B (Ite K a) (ds.zipIdx.map fun p => .tuple [.int (p.2 : Int), p.1]) := by
  unfold DW
  rw [List.length_map, List.length_zipIdx, ← r.length]
  refine walk_enum.mono (fun H h => SqL.of (h _ _ e)) fun i H x H' _ _ y => .inr ?_
  obtain ⟨T, u, v, h1, h2, h3, h4, h5⟩ := y
  obtain ⟨d, e1, e2⟩ := r.get' h5
  exact ⟨T, .int (i : Nat), d, u, v, h1, h2, h3, zipIdx_get e1, (Option.some.inj h4).symm, e2⟩
theorem walk_enumT : Walk (IteT K a) xs.length (fun H => SqT K H a xs) (YPair (fun i => some (.int (i : Nat))) (fun i => xs[i]?)) := by
  refine ⟨fun i _ hi q => ⟨xs, xs[i], q, by simp [hi]⟩, fun _ q => ⟨xs, q, Nat.le_refl _⟩, fun i H v H' _ q y => ?_⟩
  obtain ⟨T, x, h1, h2, h3, h4⟩ := y
  exact ⟨T, .int (i : Nat), x, h1, h2, h3, rfl, h4 xs q⟩
theorem dw_enumT (e : SqT K B a xs) (r : RpAll K B ds xs) : DW K B (IteT K a) (ds.zipIdx.map fun p => .tuple [.int (p.2 : Int), p.1]) := by
  unfold DW
  rw [List.length_map, List.length_zipIdx, ← r.length]
  refine walk_enumT.mono (fun H h => h.sqT e) fun i H x H' _ _ y => .inr ?_
  obtain ⟨T, u, v, h1, h2, h3, h4, h5⟩ := y
  obtain ⟨d, e1, e2⟩ := r.get' h5
  exact ⟨T, .int (i : Nat), d, u, v, h1, h2, h3, zipIdx_get e1, (Option.some.inj h4).symm, e2⟩
theorem zip_get {ds es : List D} {i : Nat} {d e : D} (h : ds[i]? = some d) (k : es[i]? = some e) : ((ds.zip es).map fun p => PyData.tuple [p.1, p.2])[i]? = some (.tuple [d, e]) := by
  rw [List.getElem?_map, (List.getElem?_zip_eq_some (z := (d, e))).mpr ⟨h, k⟩]; rfl
theorem dw_zip {b : Addr} {ys : List V} {es : List D} (e : B a = some (.lst xs)) (r : RpAll K B ds xs) (e2 : B b = some (.lst ys)) (r2 : RpAll K B es ys) : DW K B (Itz K a b) ((ds.zip es).map fun p => .tuple [p.1, p.2]) := by
  unfold DW
  rw [List.length_map, List.length_zip, ← r.length, ← r2.length]
  refine (walk_zip rfl).mono (fun H h => ⟨SqL.of (h _ _ e), SqL.of (h _ _ e2)⟩) fun i H x H' _ _ y => .inr ?_
  obtain ⟨T, u, v, h1, h2, h3, h4, h5⟩ := y
  obtain ⟨d, q1, q2⟩ := r.get' h4
  obtain ⟨d', q3, q4⟩ := r2.get' h5
  exact ⟨T, d, d', u, v, h1, h2, h3, zip_get q1 q3, q2, q4⟩
theorem walk_zipT {b : Addr} {ys : List V} {n : Nat} (hn : n = min xs.length ys.length) : Walk (RZ.ItzT K a b) n (fun H => SqT K H a xs ∧ SqT K H b ys) (YPair (fun i => xs[i]?) (fun i => ys[i]?)) := by
  subst hn
  refine ⟨fun i _ hi q => ?_, fun _ q => ⟨xs, ys, q.1, q.2, by omega⟩, fun i H v H' _ q y => ?_⟩
  · have h1 : i < xs.length := by omega
    have h2 : i < ys.length := by omega
    exact ⟨xs, ys, xs[i], ys[i], q.1, q.2, by simp [h1], by simp [h2]⟩
  · obtain ⟨T, x, z, h1, h2, h3, h4, h5⟩ := y
    exact ⟨T, x, z, h1, h2, h3, h4 xs q.1, h5 ys q.2⟩
theorem dw_zipT {b : Addr} {ys : List V} {es : List D} (e : SqT K B a xs) (r : RpAll K B ds xs) (e2 : SqT K B b ys) (r2 : RpAll K B es ys) : DW K B (RZ.ItzT K a b) ((ds.zip es).map fun p => .tuple [p.1, p.2]) := by
  unfold DW
  rw [List.length_map, List.length_zip, ← r.length, ← r2.length]
  refine (walk_zipT rfl).mono (fun H h => ⟨h.sqT e, h.sqT e2⟩) fun i H x H' _ _ y => .inr ?_
  obtain ⟨T, u, v, h1, h2, h3, h4, h5⟩ := y
  obtain ⟨d, q1, q2⟩ := r.get' h4
  obtain ⟨d', q3, q4⟩ := r2.get' h5
  exact ⟨T, d, d', u, v, h1, h2, h3, zip_get q1 q3, q2, q4⟩
/-- what a turn hands over, received -/
theorem yd_ok (S : StOk W K A B1 ρ σ H) (hb : Sub B B1) (y : YD K B ds i H x H') : ∃ d B2, StOk W K A B2 ρ σ H' ∧ Sub B1 B2 ∧ Sub H H' ∧ ds[i]? = some d ∧ Rp K B2 d x := by
  rcases y with ⟨e, d, h1, h2⟩ | ⟨T, a, b, u, v, e, hT, e', h1, h2, h3⟩
  · subst e; exact ⟨d, B1, S, Sub.refl _, Sub.refl _, h1, h2.mono hb⟩
  · subst e; subst e'
    have n1 := (S.fresh hT).1
    have s1 : Sub B1 (upd B1 T (.tup [u, v])) := Sub.new n1
    exact ⟨_, _, S.laid hT, s1, Sub.new hT, h1, T, [u, v], rfl, SqT.of upd_same, ⟨u, [v], rfl, (h2.mono hb).mono s1, v, [], rfl, (h3.mono hb).mono s1, rfl⟩⟩
end

def tI (L : Lay) (Ed : Ex → En → Prop) (Wx : WX) (ii : II) : TI := fun σ H Rv => ∃ (A : Act) (B : Hp) (ρ : En) (Q : List D → En → Prop), StOk L.W L.K A B ρ σ H ∧ wpI L.Γ Ed ii ρ Q ∧ ExC L.W L.K L.cad A Ed Wx σ ∧
  ∀ J H' ds ρ' B', StOk L.W L.K A B' ρ' σ H' → Sub B B' → DW L.K B' J ds → Q ds ρ' → Rv J H'
theorem _root_.L2.PI.imp {X : Cx} {tg e : Expr} {t t' : TI} (h : PI X tg e t) (i : ∀ σ H Q, t' σ H Q → t σ H Q) : PI X tg e t' := ⟨fun pins s σ H Q I z => h.run pins s σ H Q I (i σ H Q z)⟩
theorem _root_.L2.PG.imp {X : Cx} {tg : Expr} {t t' : TG} (h : PG X tg t) (i : ∀ v σ H Q, t' v σ H Q → t v σ H Q) : PG X tg t' := ⟨fun pins s σ H v u Q I r z => h.run pins s σ H v u Q I r (i v σ H Q z)⟩
theorem _root_.L2.PGs.imp {X : Cx} {tg : List Expr} {t t' : TGs} (h : PGs X tg t) (i : ∀ v σ H Q, t' v σ H Q → t v σ H Q) : PGs X tg t' := ⟨fun pins s σ H v u Q I r z => h.run pins s σ H v u Q I r (i v σ H Q z)⟩
def iLT (K : PySem.W.Frag) (tl : TE) : TI := fun σ H R => tl σ H fun x H1 => ∃ a xs, x = .ref a ∧ ((SqL K H1 a xs ∧ R (Itl K a) H1) ∨ (SqT K H1 a xs ∧ R (Itt K a) H1))
theorem pi_lt {X : Cx} {tg l : Expr} {tl : TE} (hl : PE X l tl) : PI X tg l (iLT X.K tl) := by
  refine ⟨fun pins s σ H R I h => ?_⟩
  refine thn (hl.run pins s σ H _ I h) fun v s1 ⟨x, H1, I1, r1, q1⟩ => ?_
  obtain ⟨a, xs, e, q⟩ := q1
  subst e
  cases r1
  rcases q with ⟨hq, q⟩ | ⟨hq, q⟩
  · obtain ⟨its, rv, p, hz⟩ := I1.list hq
    refine wpAny_pyIter_list p.isList ?_
    refine ⟨s1.heap.objs.size, [s1.heap.objs.size], _, _, H1, rfl, I1.kept (t' := s1.toks) fun b o e => Heap.get?_push_of_some _ e, turn_list a _, ⟨_, Heap.get?_push_size _ rfl, rfl, rfl⟩, fun b hb => ?_, q⟩
    have e : b = s1.heap.objs.size := by simpa using hb
    subst e
    exact I1.fpOk (Nat.le_refl _) (I1.hok.fresh (Nat.le_refl _))
  · obtain ⟨its, rv, p, hz⟩ := I1.tuple hq
    refine wpAny_pyIter_tuple (show s1.heap.IsTuple a its.toArray from p) ?_
    refine ⟨s1.heap.objs.size, [s1.heap.objs.size], _, _, H1, rfl, I1.kept (t' := s1.toks) fun b o e => Heap.get?_push_of_some _ e, turn_tuple a _, ⟨_, Heap.get?_push_size _ rfl, rfl, rfl⟩, fun b hb => ?_, q⟩
    have e : b = s1.heap.objs.size := by simpa using hb
    subst e
    exact I1.fpOk (Nat.le_refl _) (I1.hok.fresh (Nat.le_refl _))

section
variable {L : Lay} {Ed : Ex → En → Prop} {Wx : WX} {X : Cx} {a b : IE} {es : IEs} {x y tg : Expr} {xs elts : List Expr} {pos p tpos : Pos} {kk : Nat}
theorem items_ok {K : PySem.W.Frag} {B : Hp} {d : D} {v : V} {Kd : List D → Prop} (r : Rp K B d v) (w : itemsD d Kd) : ∃ ds a vs, v = .ref a ∧ RpAll K B ds vs ∧ Kd ds ∧ ((d = .list ds ∧ B a = some (.lst vs)) ∨ (d = .tuple ds ∧ SqT K B a vs)) := by
  cases d <;> first | exact False.elim w | skip
  case list ds =>
    obtain ⟨a, vs, e, hb, r⟩ := r
    exact ⟨ds, a, vs, e, r, w.2, .inl ⟨rfl, hb⟩⟩
  case tuple ds =>
    obtain ⟨a, vs, e, hb, r⟩ := r
    exact ⟨ds, a, vs, e, r, w.2, .inr ⟨rfl, hb⟩⟩
theorem kpi_seq (hK : X.K = L.K) (ha : PE X x (tE L Ed Wx a)) : PI X tg x (tI L Ed Wx (.seq a)) := by
  refine (pi_lt ha).imp fun σ H Q ⟨A, B, ρ, Qd, S, w, ex, k⟩ => ?_
  refine ⟨A, B, ρ, _, S, w, ex, fun v H1 r1 ρ1 B1 S1 s1 x1 w1 => ?_⟩
  obtain ⟨d, ρ2, B2, S2, s2, x2, w2, _⟩ := take_ok S1 x1 w1
  obtain ⟨ds, p, vs, e, r, w3, h⟩ := items_ok x2 w2
  rw [hK]
  refine ⟨p, vs, e, ?_⟩
  rcases h with ⟨_, h⟩ | ⟨_, h⟩
  · exact .inl ⟨SqL.of (S2.bh _ _ h), k _ H1 ds ρ2 B2 S2 (s1.trans s2) (dw_list h r) w3⟩
  · exact .inr ⟨S2.bh.sqT h, k _ H1 ds ρ2 B2 S2 (s1.trans s2) (dw_tup h r) w3⟩
theorem kpi_enum (hK : X.K = L.K) (hg : Gl X "enumerate") (hm : X.mg "enumerate" = none) (ha : PE X x (tE L Ed Wx a)) (hs : starEach [x] X.env = (false, eval x X.env) :: starEach [] X.env) : PI X (.Tuple elts kk tpos) (.Call (.Name "enumerate" p) [x] [] pos) (tI L Ed Wx (.enum a)) := by
  refine (pi_enumA hg hm (pa_cons ha pa_nil hs) hs).imp fun σ H Q ⟨A, B, ρ, Qd, S, w, ex, k⟩ => ?_
  refine ⟨A, B, ρ, _, S, w, ex, fun v H1 r1 ρ1 B1 S1 s1 x1 w1 => ?_⟩
  obtain ⟨d, ρ2, B2, S2, s2, x2, w2, _⟩ := take_ok S1 x1 w1
  obtain ⟨ds, p, vs, e, r, w3, h⟩ := items_ok x2 w2
  rw [hK]
  subst e
  refine ⟨p, vs, rfl, ?_⟩
  rcases h with ⟨_, h⟩ | ⟨_, h⟩
  · exact .inl ⟨SqL.of (S2.bh _ _ h), k _ H1 _ ρ2 B2 S2 (s1.trans s2) (dw_enum h r) w3⟩
  · exact .inr ⟨S2.bh.sqT h, k _ H1 _ ρ2 B2 S2 (s1.trans s2) (dw_enumT h r) w3⟩
theorem kpi_rg1 (hg : Gl X "range") (hm : X.mg "range" = none) (ha : PE X x (tE L Ed Wx a)) (hs : starEach [x] X.env = (false, eval x X.env) :: starEach [] X.env) : PI X tg (.Call (.Name "range" p) [x] [] pos) (tI L Ed Wx (.rg (.cons a .nil))) := by
  refine (pi_range1 hg hm (pa_cons ha pa_nil hs) hs).imp fun σ H Q ⟨A, B, ρ, Qd, S, w, ex, k⟩ => ?_
  refine ⟨A, B, ρ, _, S, w, ex, fun v H1 r1 ρ1 B1 S1 s1 x1 w1 => ?_⟩
  obtain ⟨n, e, _, l1, l2, w2⟩ := rng_one x1 S1 w1
  subst e
  refine ⟨n, rfl, l1, by omega, ?_⟩
  have := k (Itr 0 (n - 0).toNat) H1 _ ρ1 B1 S1 s1 dw_rng w2
  rw [Int.sub_zero] at this
  exact this
theorem kpi_rg2 (hg : Gl X "range") (hm : X.mg "range" = none) (ha : PE X x (tE L Ed Wx a)) (hb : PE X y (tE L Ed Wx b)) (hs : starEach [x, y] X.env = (false, eval x X.env) :: starEach [y] X.env) (hs2 : starEach [y] X.env = (false, eval y X.env) :: starEach [] X.env) :
    PI X tg (.Call (.Name "range" p) [x, y] [] pos) (tI L Ed Wx (.rg (.cons a (.cons b .nil)))) := by
  refine (pi_range2 hg hm (pa_cons ha (pa_cons hb pa_nil hs2) hs) (by rw [hs, hs2]; rfl) (by rw [hs2]; rfl)).imp fun σ H Q ⟨A, B, ρ, Qd, S, w, ex, k⟩ => ?_
  refine two (Rr := fun x y H2 => ∃ i j : Int, [x, y] = [.int i, .int j] ∧ (-(2 ^ 62) ≤ i ∧ i < 2 ^ 62 ∧ -(2 ^ 62) ≤ j ∧ j < 2 ^ 62) ∧ Q (Itr i (j - i).toNat) H2) S w ex fun v u H2 r1 r2 ρ2 B2 S2 s2 x1 x2 w2 => ?_
  have w2' := w2
  obtain ⟨i, j, e1, e2, ok, w3⟩ := rng_two x1 x2 S2 w2
  subst e1; subst e2
  obtain ⟨o1, o2, o3, o4, _⟩ := ok
  exact ⟨i, j, rfl, ⟨o1, o2, o3, o4⟩, k _ H2 _ ρ2 B2 S2 s2 dw_rng w3⟩
theorem kpi_zip (hK : X.K = L.K) (hg : Gl X "zip") (hm : X.mg "zip" = none) (ha : PE X x (tE L Ed Wx a)) (hb : PE X y (tE L Ed Wx b)) (hs : starEach [x, y] X.env = (false, eval x X.env) :: starEach [y] X.env) (hs2 : starEach [y] X.env = (false, eval y X.env) :: starEach [] X.env) :
    PI X (.Tuple elts kk tpos) (.Call (.Name "zip" p) [x, y] [] pos) (tI L Ed Wx (.zip a b)) := by
  refine (RZ.pi_zipA hg hm (pa_cons ha (pa_cons hb pa_nil hs2) hs) hs (by rw [hs2]; rfl)).imp fun σ H Q ⟨A, B, ρ, Qd, S, w, ex, k⟩ => ?_
  refine ⟨A, B, ρ, _, S, w, ex, fun v H1 r1 ρ1 B1 S1 s1 x1 w1 => ?_⟩
  refine ⟨A.hold H1 r1 v, B1, ρ1, _, hold_st S1 x1, w1, ex.hold x1, fun u H2 r2 ρ2 B2 S2' s2 x2' w2 => ?_⟩
  have S2 := unhold_st x1 S2'
  have x1' := held S1 x1 S2' s2
  have eh : A.hold H2 r1 v = A.hold H1 r1 v := by
    cases r1 with
    | fr d =>
      obtain ⟨p, o, rfl, e1, _⟩ := x1
      obtain ⟨p', o', e, e2, _⟩ := x1'
      cases e
      have up : H2 p = some o := S2'.uh p o (by show (if p = p then H1 p else _) = _; rw [if_pos rfl]; exact e1)
      show ({ A with U0 := fun a => if a = p then H2 p else A.U0 a } : Act) = { A with U0 := fun a => if a = p then H1 p else A.U0 a }
      rw [up, e1]
    | _ => cases v <;> rfl
  have all : ResAll L.W L.K B2 ρ2 σ H2 A [r1, r2] [v, u] := ⟨v, [u], rfl, x1', u, [], rfl, by rw [eh]; exact x2', rfl⟩
  have w2' : takeAll ρ2 [r1, r2] fun ds ρ3 => (match ds with
    | [d1, d2] => zipD d1 d2 fun xs => Qd xs ρ3
    | _ => False) := w2
  obtain ⟨ds, ρ3, B3, S3, s3, x3, w3⟩ := takeAll_ok S2 (AExt.refl A) all w2'
  cases ds with
  | nil => exact False.elim w3
  | cons d1 ds => cases ds with
    | nil => exact False.elim w3
    | cons d2 ds => cases ds with
      | cons _ _ => exact False.elim w3
      | nil =>
        obtain ⟨v', _, e, y1, u', _, e', y2, _⟩ := x3
        cases e; cases e'
        have w3 : zipD d1 d2 fun xs => Qd xs ρ3 := w3
        rw [hK]
        cases d1 <;> first | exact False.elim w3 | skip
        case list xs =>
          cases d2 <;> first | exact False.elim w3 | skip
          case list ys =>
            obtain ⟨p1, vs1, rfl, e1, t1⟩ := y1
            obtain ⟨p2, vs2, rfl, e2, t2⟩ := y2
            exact ⟨p1, p2, vs1, vs2, rfl, .inl ⟨SqL.of (S3.bh _ _ e1), SqL.of (S3.bh _ _ e2), k _ H2 _ ρ3 B3 S3 ((s1.trans s2).trans s3) (dw_zip e1 t1 e2 t2) w3.2⟩⟩
        case tuple xs =>
          cases d2 <;> first | exact False.elim w3 | skip
          case tuple ys =>
            obtain ⟨p1, vs1, rfl, e1, t1⟩ := y1
            obtain ⟨p2, vs2, rfl, e2, t2⟩ := y2
            exact ⟨p1, p2, vs1, vs2, rfl, .inr ⟨S3.bh.sqT e1, S3.bh.sqT e2, k _ H2 _ ρ3 B3 S3 ((s1.trans s2).trans s3) (dw_zipT e1 t1 e2 t2) w3.2⟩⟩
end
end KR

end
section
set_option Elab.async false
set_option linter.all false
set_option maxRecDepth 100000
set_option genSizeOf false
set_option maxHeartbeats 2000000
/-! Methods of a slot's list, slots set, targets, comprehensions. -/
namespace KR
open PySem L2

section
variable {W : Wld} {K : PySem.W.Frag} {A A' : Act} {B B' H H' : Hp} {ρ ρ' : En} {σ σ' : L2.St} {p : Addr} {o o' : HO} {v w : V} {d d' : D} {r q : R} {i : Nat} {s : Sl}
theorem StOk.listAt {ds : List D} (S : StOk W K A B ρ σ H) (e : ρ[i]? = some (.ow (.list ds))) : ∃ p xs, σ[i]? = some (some (.ref p)) ∧ H p = some (.lst xs) ∧ RpAll K B ds xs := by
  obtain ⟨p, o, e1, e2, ho, _⟩ := S.sl i _ e
  cases o <;> first | exact False.elim ho | skip
  case lst xs => exact ⟨p, xs, e1, e2, ho⟩
/-- a slot set, wherever it is -/
theorem StOk.setS (S : StOk W K A B ρ σ H) (x : SetOk W K A B ρ σ H s v) : StOk W K A B (ρ.set i s) (σ.set i (some v)) H := by
  by_cases hi : i < ρ.length
  · exact S.setSl hi x
  · have h1 : ρ.set i s = ρ := List.set_eq_of_length_le (Nat.le_of_not_lt hi)
    have h2 : σ.set i (some v) = σ := List.set_eq_of_length_le (by rw [← S.len]; exact Nat.le_of_not_lt hi)
    rw [h1, h2]; exact S
/-! several slots set -/
def slRes : Sl → R
  | .ow d => .fr d
  | _ => .dk
def SetAll (W : Wld) (K : PySem.W.Frag) (B : Hp) (ρ : En) (σ : L2.St) (H : Hp) : Act → List Sl → List V → Prop
  | _, [], vs => vs = []
  | A, s :: ss, vs => ∃ v us, vs = v :: us ∧ SetOk W K A B ρ σ H s v ∧ SetAll W K B ρ σ H (A.hold H (slRes s) v) ss us
def setsV (σ : L2.St) : List Nat → List V → L2.St
  | i :: is, v :: vs => setsV (σ.set i (some v)) is vs
  | _, _ => σ
theorem hold_dk : A.hold H .dk v = A := by cases v <;> rfl
theorem own_set (a : Addr) (h : Own (σ.set i (some v)) (ρ.set i s) a) : Own σ ρ a ∨ (v = .ref a ∧ ∃ d, s = .ow d) := by
  obtain ⟨j, f, q1, q2⟩ := h
  by_cases hj : j = i
  · subst hj
    by_cases hi : j < ρ.length
    · by_cases hi' : j < σ.length
      · rw [List.getElem?_set_self hi] at q1; rw [List.getElem?_set_self hi'] at q2
        cases q1; cases q2
        exact .inr ⟨rfl, f, rfl⟩
      · rw [List.getElem?_eq_none (by simpa using hi')] at q2; cases q2
    · rw [List.getElem?_eq_none (by simpa using hi)] at q1; cases q1
  · rw [List.getElem?_set_ne (Ne.symm hj)] at q1 q2
    exact .inl ⟨j, f, q1, q2⟩
theorem set_keep {s' : Sl} {v' : V} (hn : ∀ a, v = .ref a → (∃ d, s = .ow d) → A'.U0 a ≠ none) (x : SetOk W K A' B ρ σ H s' v') : SetOk W K A' B (ρ.set i s) (σ.set i (some v)) H s' v' := by
  cases s' with
  | ow d =>
    obtain ⟨p, o, e, e1, ho, n1, n2, n3, n4, n5⟩ := x
    refine ⟨p, o, e, e1, ho, n1, n2, n3, fun z => ?_, fun q hq => W.less (n5 q hq) fun a ha => ?_⟩
    · rcases own_set p z with h | ⟨h, h'⟩
      · exact n4 h
      · exact hn p h h' n2
    · rcases ha with (ha | ha | ha) | ha
      · exact .inl (.inl ha)
      · exact .inl (.inr (.inl ha))
      · rcases own_set a ha with h | ⟨h, h'⟩
        · exact .inl (.inr (.inr h))
        · exact .inl (.inl (hn a h h'))
      · exact .inr ha
  | no => trivial
  | im d => exact x
  | dk => exact x
theorem set_keep_all : ∀ {ss : List Sl} {vs : List V} {A' : Act}, (∀ a, v = .ref a → (∃ d, s = .ow d) → A'.U0 a ≠ none) → SetAll W K B ρ σ H A' ss vs → SetAll W K B (ρ.set i s) (σ.set i (some v)) H A' ss vs
  | [], _, _, _, e => e
  | s' :: ss, _, A', hn, ⟨v', us, e, x, xs⟩ => by
    refine ⟨v', us, e, set_keep hn x, set_keep_all (fun a h h' z => hn a h h' ?_) xs⟩
    cases s' with
    | ow d => exact hold_U0 (r := .fr d) x z
    | _ => rw [show slRes _ = R.dk from rfl, hold_dk] at z; exact z
theorem SetOk.ext (e : AExt A A') (x : SetOk W K A' B ρ σ H s v) : SetOk W K A B ρ σ H s v := by
  cases s with
  | no => trivial
  | im d => exact x
  | ow d => exact e.res (r := .fr d) x
  | dk => obtain ⟨p, q, h⟩ := x; rw [e.dp] at h; exact ⟨p, q, h⟩
theorem setAll_ok : ∀ {is : List Nat} {ss : List Sl} {vs : List V} {A' : Act} {ρ : En} {σ : L2.St}, StOk W K A B ρ σ H → AExt A A' → SetAll W K B ρ σ H A' ss vs → StOk W K A B (setAll ρ is ss) (setsV σ is vs) H
  | [], _, _, _, _, _, S, _, _ => by unfold setAll setsV; exact S
  | i :: is, [], _, _, _, _, S, _, e => by rw [show _ = [] from e]; exact S
  | i :: is, s :: ss, _, A', ρ, σ, S, ex, ⟨v, us, e, x, xs⟩ => by
    subst e
    refine setAll_ok (A' := A'.hold H (slRes s) v) (ρ := ρ.set i s) (σ := σ.set i (some v)) (S.setS (x.ext ex)) ?_ (set_keep_all (fun a h h' => ?_) xs)
    · cases s with
      | ow d => exact ex.hold (r := .fr d) x
      | _ => rw [show slRes _ = R.dk from rfl, hold_dk]; exact ex
    · obtain ⟨d, rfl⟩ := h'
      obtain ⟨p, o, e, e1, _⟩ := x
      subst h; cases e
      show (if a = a then H a else A'.U0 a) ≠ none
      rw [if_pos rfl, e1]; simp
theorem set_kept (h1 : ∀ a, B' a ≠ none → B a ≠ none ∨ Own σ ρ a) (hb : Sub B B') (h2 : ∀ a, Own σ ρ' a → Own σ ρ a) (x : SetOk W K A' B ρ σ H s v) : SetOk W K A' B' ρ' σ H s v := by
  cases s with
  | no => trivial
  | im d => exact Rp.mono hb x
  | ow d => exact res_keep (fun a ha => (h1 a ha).elim .inl fun z => .inr (.inr z)) hb h2 (r := .fr d) x
  | dk => exact x
theorem hold_im : A.hold H (.im d) v = A := by cases v <;> rfl
theorem hold_br : A.hold H (.br i) v = A := by cases v <;> rfl
theorem slot_okA {Kd : Sl → En → Prop} (S : StOk W K A B ρ σ H) (ex : AExt A A') (x : ResOk W K A' B ρ σ H r v) (w : slotR ρ r Kd) : ∃ s ρ' B', StOk W K A B' ρ' σ H ∧ Sub B B' ∧ SetOk W K A' B' ρ' σ H s v ∧ A'.hold H (slRes s) v = A'.hold H r v ∧ Kd s ρ' ∧ (∀ a, Own σ ρ' a → Own σ ρ a) ∧
    ∀ a, B' a ≠ none → B a ≠ none ∨ Own σ ρ a := by
  cases r with
  | im d => exact ⟨.im d, ρ, B, S, Sub.refl _, x, by rw [show slRes _ = R.dk from rfl, hold_dk, hold_im], w, fun _ z => z, fun _ z => .inl z⟩
  | fr d => exact ⟨.ow d, ρ, B, S, Sub.refl _, x, rfl, w, fun _ z => z, fun _ z => .inl z⟩
  | br i =>
    have x : σ[i]? = some (some v) := x
    have w : (match ρ[i]? with | some (.ow d) => Kd (.im d) (ρ.set i (.im d)) | some (.im d) => Kd (.im d) ρ | _ => False) := w
    cases e : ρ[i]? with
    | none => rw [e] at w; exact w.elim
    | some s =>
      rw [e] at w
      cases s with
      | no => exact w.elim
      | dk => exact w.elim
      | im d =>
        obtain ⟨u, e1, r⟩ := S.sl i _ e
        rw [x] at e1; cases e1
        exact ⟨.im d, ρ, B, S, Sub.refl _, r, by rw [show slRes _ = R.dk from rfl, hold_dk, hold_br], w, fun _ z => z, fun _ z => .inl z⟩
      | ow d =>
        obtain ⟨p, o, e1, e2, ho, S', n1⟩ := S.frzSlot e
        rw [x] at e1; cases e1
        have s1 : Sub B (upd B p o) := Sub.new n1
        refine ⟨.im d, _, _, S', s1, (ho.mono s1).rp (Sub.refl _) upd_same, by rw [show slRes _ = R.dk from rfl, hold_dk, hold_br], w, own_set_im e, fun a ha => ?_⟩
        by_cases z : a = p
        · subst z; exact .inr ⟨i, d, e, x⟩
        · rw [upd_ne z] at ha; exact .inl ha
  | dk => exact ⟨.dk, ρ, B, S, Sub.refl _, x, by rfl, w, fun _ z => z, fun _ z => .inl z⟩
theorem slotAll_ok : ∀ {rs : List R} {vs : List V} {A' : Act} {B : Hp} {ρ : En} {Kd : List Sl → En → Prop}, StOk W K A B ρ σ H → AExt A A' → ResAll W K B ρ σ H A' rs vs → slotAll ρ rs Kd →
    ∃ ss ρ' B', StOk W K A B' ρ' σ H ∧ Sub B B' ∧ SetAll W K B' ρ' σ H A' ss vs ∧ Kd ss ρ' ∧ (∀ a, Own σ ρ' a → Own σ ρ a) ∧ ∀ a, B' a ≠ none → B a ≠ none ∨ Own σ ρ a
  | [], _, A', B, ρ, Kd, S, _, e, w => ⟨[], ρ, B, S, Sub.refl _, e, w, fun _ z => z, fun _ z => .inl z⟩
  | r :: rs, _, A', B, ρ, Kd, S, ex, ⟨v, us, e, x, xs⟩, w => by
    subst e
    obtain ⟨s, ρ1, B1, S1, s1, x1, eh, w1, o1, n1⟩ := slot_okA S ex x w
    obtain ⟨ss, ρ2, B2, S2, s2, x2, w2, o2, n2⟩ := slotAll_ok S1 (ex.hold x) (res_keep_all s1 o1 (fun a ha => (n1 a ha).elim .inl fun z => .inr (.inr z)) xs) w1
    have nn : ∀ a, B2 a ≠ none → B a ≠ none ∨ Own σ ρ a := fun a ha => (n2 a ha).elim (n1 a) fun z => .inr (o1 a z)
    exact ⟨s :: ss, ρ2, B2, S2, s1.trans s2, ⟨v, us, rfl, set_kept n2 s2 o2 x1, by rw [eh]; exact x2⟩, w2, fun a ha => o1 a (o2 a ha), nn⟩
/-! what a def hands over -/
theorem StOk.bare (S : StOk W K A B ρ σ H) : StOk W K A B [] [] H :=
  ⟨S.b0, S.new, S.bu, S.bh, S.uh, S.hh, fun i s e => by simp at e, fun i j d e a q => by simp at q, fun q e => W.less (S.wd q e) fun a ha => by
    rcases ha with ha | ha | ⟨i, d, e, _⟩
    · exact .inl ha
    · exact .inr (.inl ha)
    · simp at e, rfl⟩
theorem ret_ok {Kd : R → Prop} (S : StOk W K A B ρ σ H) (x : ResOk W K A B ρ σ H r v) (w : retR ρ r Kd) : ∃ r', ResOk W K A B [] [] H r' v ∧ Kd r' := by
  cases r with
  | im d => exact ⟨.im d, x, w⟩
  | fr d =>
    obtain ⟨p, o, e, e1, ho, n1, n2, n3, n4, n5⟩ := x
    refine ⟨.fr d, ⟨p, o, e, e1, ho, n1, n2, n3, fun ⟨i, d, e, _⟩ => by simp at e, fun q hq => W.less (n5 q hq) fun a ha => ?_⟩, w⟩
    rcases ha with (ha | ha | ⟨i, d, e, _⟩) | ha
    · exact .inl (.inl ha)
    · exact .inl (.inr (.inl ha))
    · simp at e
    · exact .inr ha
  | br i =>
    have x : σ[i]? = some (some v) := x
    have w : (match ρ[i]? with | some (.ow d) => Kd (.fr d) | some (.im d) => Kd (.im d) | _ => False) := w
    cases e : ρ[i]? with
    | none => rw [e] at w; exact w.elim
    | some s =>
      rw [e] at w
      cases s with
      | no => exact w.elim
      | dk => exact w.elim
      | im d =>
        obtain ⟨u, e1, r⟩ := S.sl i _ e
        rw [x] at e1; cases e1
        exact ⟨.im d, r, w⟩
      | ow d =>
        obtain ⟨p, o, e1, e2, ho, m1, m2, m3⟩ := S.sl i _ e
        rw [x] at e1; cases e1
        refine ⟨.fr d, ⟨p, o, rfl, e2, ho, m1, m2, m3, fun ⟨i, d, e, _⟩ => by simp at e, fun q hq => W.less (S.wd q hq) fun a ha => ?_⟩, w⟩
        rcases ha with (ha | ha | ⟨i, d, e, _⟩) | ha
        · exact .inl ha
        · exact .inr (.inl ha)
        · simp at e
        · exact .inr (.inr ⟨i, d, e, by rw [ha]; exact x⟩)
  | dk => exact ⟨.dk, x, w⟩
/-- a loose list is changed -/
theorem loose_mut (S : StOk W K A B ρ σ H) (x : ResOk W K A B ρ σ H (.fr d) (.ref p)) (ho' : OwnO K B d' o') : StOk W K A B ρ σ (upd H p o') ∧ ResOk W K A B ρ σ (upd H p o') (.fr d') (.ref p) := by
  obtain ⟨p', o, e, e1, ho, n1, n2, n3, n4, n5⟩ := x
  cases e
  have keep : ∀ q, A.dp = some q → W.inv (upd H p o') (fun a => A.prot B σ ρ a ∨ a = p) q := fun q hq =>
    W.stay (n5 q hq) (fun a u ha np => by
      have ne : a ≠ p := fun z => np (.inr z)
      rw [upd_ne ne]; exact ha) fun a ha => .inl ha
  refine ⟨⟨S.b0, S.new, S.bu, S.bh.upd n1, S.uh.upd n2, fun a q => ?_, fun j s q => ?_, S.one, fun q hq => W.less (keep q hq) fun a ha => .inl ha, S.len⟩, p, o', rfl, upd_same, ho', n1, n2, n3, n4, keep⟩
  · by_cases ha : a = p
    · subst ha; exact n3
    · rw [upd_ne ha] at q; exact S.hh a q
  · have sl := S.sl j s q
    cases s with
    | no => trivial
    | im f => exact sl
    | ow f =>
      obtain ⟨x, u, z1, z2, r⟩ := sl
      have ne : x ≠ p := fun z => by subst z; exact n4 ⟨j, f, q, z1⟩
      exact ⟨x, u, z1, by rw [upd_ne ne]; exact z2, r⟩
    | dk => exact sl
/-! a held list while slots change -/
theorem held_fr (S : StOk W K A B ρ σ H) (x : ResOk W K A B ρ σ H (.fr d) v) (S' : StOk W K (A.hold H (.fr d) v) B' ρ' σ' H') (hb : Sub B B') : ResOk W K A B' ρ' σ' H' (.fr d) v := by
  obtain ⟨p, o, rfl, e1, ho, n1, n2, n3, n4, n5⟩ := x
  have up : (A.hold H (.fr d) (.ref p)).U0 p = some o := by show (if p = p then H p else _) = _; rw [if_pos rfl]; exact e1
  refine ⟨p, o, rfl, S'.uh p o up, ho.mono hb, ?_, n2, n3, fun z => ?_, fun z e => W.less (S'.wd z e) fun a ha => ?_⟩
  · cases q : B' p with
    | none => rfl
    | some u =>
      have := S'.bu p u q (by rw [up]; simp)
      have := S.b0 p u this
      rw [n1] at this; cases this
  · have := (S'.own z).2.2.1
    rw [up] at this; cases this
  · rcases ha with (ha | ha | ha) | ha
    · left
      show (if a = p then H p else A.U0 a) ≠ none
      by_cases h : a = p
      · rw [if_pos h, e1]; simp
      · rw [if_neg h]; exact ha
    · exact .inr (.inl ha)
    · exact .inr (.inr ha)
    · left; rw [ha, up]; simp
theorem unheld_fr (x : ResOk W K A B ρ σ H (.fr d) v) (S : StOk W K (A.hold H (.fr d) v) B' ρ' σ' H') : StOk W K A B' ρ' σ' H' := by
  obtain ⟨p, o, rfl, e1, ho, n1, n2, n3, n4, n5⟩ := x
  refine ⟨S.b0, S.new, fun a u e ne => S.bu a u e ?_, S.bh, fun a u e => S.uh a u ?_, S.hh, fun i s e => ?_, S.one, fun z e => ?_, S.len⟩
  · show (if a = p then H p else A.U0 a) ≠ none
    by_cases h : a = p
    · rw [if_pos h, e1]; simp
    · rw [if_neg h]; exact ne
  · show (if a = p then H p else A.U0 a) = some u
    have h : a ≠ p := fun h => by subst h; rw [n2] at e; cases e
    rw [if_neg h]; exact e
  · have z := S.sl i s e
    cases s with
    | ow d' =>
      obtain ⟨x, u, q1, q2, r, m1, m2, m3⟩ := z
      refine ⟨x, u, q1, q2, r, m1, ?_, m3⟩
      have m2 : (if x = p then H p else A.U0 x) = none := m2
      by_cases h : x = p
      · rw [if_pos h, e1] at m2; cases m2
      · rw [if_neg h] at m2; exact m2
    | no => trivial
    | im d' => exact z
    | dk => exact z
  · refine W.less (S.wd z e) fun a ha => ?_
    rcases ha with ha | ha
    · left
      show (if a = p then H p else A.U0 a) ≠ none
      by_cases h : a = p
      · rw [if_pos h, e1]; simp
      · rw [if_neg h]; exact ha
    · exact .inr ha
/-- a loose result, by fewer own slots -/
theorem loose_less (h : ∀ a, Own σ' ρ' a → Own σ ρ a) (x : ResOk W K A B ρ σ H (.fr d) v) : ResOk W K A B ρ' σ' H (.fr d) v := by
  obtain ⟨p, o, e, e1, ho, n1, n2, n3, n4, n5⟩ := x
  refine ⟨p, o, e, e1, ho, n1, n2, n3, fun z => n4 (h p z), fun q hq => W.less (n5 q hq) fun a ha => ?_⟩
  rcases ha with (ha | ha | ha) | ha
  · exact .inl (.inl ha)
  · exact .inl (.inr (.inl ha))
  · exact .inl (.inr (.inr (h a ha)))
  · exact .inr ha
/-! the block's own slots -/
theorem wipe_get : ∀ (vs : List Nat) (j : Nat), (L2.wipe σ vs)[j]? = if j ∈ vs then (if j < σ.length then some none else none) else σ[j]?
  | [], j => by simp [L2.wipe]
  | v :: vs, j => by
    unfold L2.wipe
    by_cases h : v = j
    · subst h
      rw [if_pos List.mem_cons_self, List.getElem?_set_self', wipe_get vs v]
      by_cases hl : v < σ.length
      · by_cases hm : v ∈ vs
        · simp [hm, hl]
        · simp [hm, hl]
      · by_cases hm : v ∈ vs
        · simp [hm, hl]
        · simp [hm, hl]
    · rw [List.getElem?_set_ne h, wipe_get vs j]
      by_cases hm : j ∈ vs
      · rw [if_pos hm, if_pos (List.mem_cons_of_mem _ hm)]
      · rw [if_neg hm, if_neg (by simp [hm, Ne.symm h])]
theorem wipeE_own (own : List (Str × Nat)) : ∀ a, Own (L2.wipe σ (own.map (·.2))) (wipeE ρ own) a → Own σ ρ a := by
  induction own with
  | nil => exact fun a h => h
  | cons p ps ih =>
    intro a ⟨j, f, q1, q2⟩
    refine ih a ?_
    have q1 : ((wipeE ρ ps).set p.2 .no)[j]? = some (.ow f) := q1
    have q2 : ((L2.wipe σ (ps.map (·.2))).set p.2 none)[j]? = some (some (.ref a)) := q2
    by_cases hj : p.2 = j
    · subst hj
      by_cases hi : p.2 < (wipeE ρ ps).length
      · rw [List.getElem?_set_self hi] at q1; cases q1
      · rw [List.getElem?_eq_none (by simpa using hi)] at q1; cases q1
    · rw [List.getElem?_set_ne hj] at q1 q2; exact ⟨j, f, q1, q2⟩
theorem backE_len {ρ' : En} : ∀ own : List (Str × Nat), (backE ρ ρ' own).length = ρ'.length
  | [] => rfl
  | p :: ps => by unfold backE; rw [List.length_set, backE_len ps]
theorem backE_get {ρ' : En} : ∀ (own : List (Str × Nat)) (j : Nat), (backE ρ ρ' own)[j]? = if j ∈ own.map (·.2) then (if j < ρ'.length then some (backS ρ[j]?) else none) else ρ'[j]?
  | [], j => by simp [backE]
  | p :: ps, j => by
    unfold backE
    by_cases h : p.2 = j
    · subst h
      have hm' : p.2 ∈ (p :: ps).map (·.2) := by rw [List.map_cons]; exact List.mem_cons_self
      rw [if_pos hm']
      by_cases hl : p.2 < ρ'.length
      · rw [if_pos hl]; exact List.getElem?_set_self (by rw [backE_len]; exact hl)
      · rw [if_neg hl]; exact List.getElem?_eq_none (by rw [List.length_set, backE_len]; omega)
    · rw [List.getElem?_set_ne h, backE_get ps j]
      by_cases hm : j ∈ ps.map (·.2)
      · have hm' : j ∈ (p :: ps).map (·.2) := by rw [List.map_cons]; exact List.mem_cons_of_mem _ hm
        rw [if_pos hm, if_pos hm']
      · have hm' : j ∉ (p :: ps).map (·.2) := by rw [List.map_cons, List.mem_cons]; exact fun z => z.elim (fun z => h z.symm) hm
        rw [if_neg hm, if_neg hm']
theorem back_own {own : List (Str × Nat)} (a : Addr) (h : Own σ (backE ρ ρ' own) a) : Own (L2.wipe σ (own.map (·.2))) ρ' a := by
  obtain ⟨j, f, q1, q2⟩ := h
  rw [backE_get] at q1
  by_cases hm : j ∈ own.map (·.2)
  · rw [if_pos hm] at q1
    split at q1
    · have q1 := Option.some.inj q1
      unfold backS at q1
      split at q1 <;> cases q1
    · cases q1
  · rw [if_neg hm] at q1
    exact ⟨j, f, q1, by rw [wipe_get, if_neg hm]; exact q2⟩
theorem StOk.back {own : List (Str × Nat)} {B1 H1 : Hp} (S1 : StOk W K A B1 ρ σ H1) (S : StOk W K A B ρ' (L2.wipe σ (own.map (·.2))) H) (sb : Sub B1 B) : StOk W K A B (backE ρ ρ' own) σ H := by
  have lw : (L2.wipe σ (own.map (·.2))).length = σ.length := wipe_length _ _
  have low : ∀ (j : Nat) (f : D), (backE ρ ρ' own)[j]? = some (.ow f) → ρ'[j]? = some (.ow f) ∧ (L2.wipe σ (own.map (·.2)))[j]? = σ[j]? := fun j f q => by
    rw [backE_get] at q
    by_cases hm : j ∈ own.map (·.2)
    · rw [if_pos hm] at q
      split at q
      · have q := Option.some.inj q
        unfold backS at q
        split at q <;> cases q
      · cases q
    · rw [if_neg hm] at q
      exact ⟨q, by rw [wipe_get, if_neg hm]⟩
  refine ⟨S.b0, S.new, S.bu, S.bh, S.uh, S.hh, fun j s q => ?_, fun j k f g a q1 q2 q3 q4 => ?_, fun z q => W.less (S.wd z q) fun a ha => ?_, by rw [backE_len, S.len, lw]⟩
  · rw [backE_get] at q
    by_cases hm : j ∈ own.map (·.2)
    · rw [if_pos hm] at q
      split at q
      · rename_i hl
        have q := Option.some.inj q
        have hj : j < ρ.length := by rw [S1.len, ← lw, ← S.len]; exact hl
        rw [List.getElem?_eq_getElem hj] at q
        have sl := S1.sl j _ (List.getElem?_eq_getElem hj)
        generalize ρ[j] = s1 at q sl
        subst q
        cases s1 with
        | no => trivial
        | im d => obtain ⟨v, e, r⟩ := sl; exact ⟨v, e, r.mono sb⟩
        | ow d => trivial
        | dk => exact sl
      · cases q
    · rw [if_neg hm] at q
      have sl := S.sl j s q
      have e : (L2.wipe σ (own.map (·.2)))[j]? = σ[j]? := by rw [wipe_get, if_neg hm]
      cases s with
      | no => trivial
      | im d => obtain ⟨v, e1, r⟩ := sl; exact ⟨v, by rw [← e]; exact e1, r⟩
      | ow d => obtain ⟨p, o, e1, r⟩ := sl; exact ⟨p, o, by rw [← e]; exact e1, r⟩
      | dk => obtain ⟨p, e1, r⟩ := sl; exact ⟨p, by rw [← e]; exact e1, r⟩
  · obtain ⟨q1, e1⟩ := low j f q1
    obtain ⟨q2, e2⟩ := low k g q2
    exact S.one j k f g a q1 q2 (by rw [e1]; exact q3) (by rw [e2]; exact q4)
  · rcases ha with ha | ha | ha
    · exact .inl ha
    · exact .inr (.inl ha)
    · exact .inr (.inr (back_own a ha))
def Off (ns : List Nat) (σ σ' : L2.St) : Prop := σ'.length = σ.length ∧ ∀ j, j ∉ ns → σ'[j]? = σ[j]?
theorem wipe_off {ns vs : List Nat} (h : Off ns (L2.wipe σ vs) σ') (hn : ∀ j ∈ ns, j ∈ vs) : L2.wipe σ' vs = L2.wipe σ vs := by
  apply List.ext_getElem?
  intro j
  rw [wipe_get, wipe_get]
  have hl : σ'.length = σ.length := by rw [h.1, wipe_length]
  by_cases hm : j ∈ vs
  · rw [if_pos hm, if_pos hm, hl]
  · rw [if_neg hm, if_neg hm, h.2 j fun z => hm (hn j z), wipe_get, if_neg hm]
end

/-! ### targets -/
def tGd (L : Lay) (it : IT) : TG := fun v σ H Qv => ∃ (A : Act) (B : Hp) (ρ : En) (d : D) (Kd : En → Prop), StOk L.W L.K A B ρ σ H ∧ Rp L.K B d v ∧ asgT L.Γ it d ρ Kd ∧
  ∀ σ' H' ρ' B', StOk L.W L.K A B' ρ' σ' H' → Sub B B' → Off it.nms σ σ' → Kd ρ' → Qv σ' H'
def tGs (L : Lay) (it : ITs) : TGs := fun vs σ H Qv => ∃ (A : Act) (B : Hp) (ρ : En) (ds : List D) (Kd : En → Prop), StOk L.W L.K A B ρ σ H ∧ RpAll L.K B ds vs ∧ asgTs L.Γ it ds ρ Kd ∧
  ∀ σ' H' ρ' B', StOk L.W L.K A B' ρ' σ' H' → Sub B B' → Off it.nms σ σ' → Kd ρ' → Qv σ' H'
def noW : WX := fun _ _ _ _ => False
def tTs (L : Lay) (c : IO) : TT := fun σ H Qb => ∃ (A : Act) (B : Hp) (ρ : En) (Q : Bool → En → Prop), StOk L.W L.K A B ρ σ H ∧ wpO' L.Γ c ρ Q ∧
  ∀ k H' ρ' B', StOk L.W L.K A B' ρ' σ H' → Sub B B' → Q k ρ' → Qb k H'
theorem _root_.L2.PTs.imp {X : Cx} {e : List Expr} {t t' : TT} (h : PTs X e t) (i : ∀ σ H Q, t' σ H Q → t σ H Q) : PTs X e t' := ⟨fun pins s σ H Q I z => h.run pins s σ H Q I (i σ H Q z)⟩
section
variable {L : Lay} {Ed : Ex → En → Prop} {Wx : WX} {X : Cx} {a b : IE} {es : IEs} {x y tg : Expr} {xs elts : List Expr} {pos p tpos apos : Pos} {kk i : Nat} {n : Str}
theorem kpg_nm (hN : X.N.Nodup) (hi : X.N[i]? = some n) (hx : Loc X.env.scope n) (hf : X.fn n = true ∨ X.env.scope.names.lookup n = some .local) : PG X (.Name n pos) (tGd L (.nm i)) :=
  (pg_name hN hi hx hf).imp fun v σ H Q ⟨A, B, ρ, d, Kd, S, r, w, k⟩ => k _ H _ B (S.setS (s := .im d) r) (Sub.refl _) ⟨List.length_set, fun j hj => List.getElem?_set_ne fun z => hj (by rw [z]; exact List.mem_singleton.mpr rfl)⟩ w
theorem kpgs_nil : PGs X [] (tGs L .nil) := pgs_nil.imp fun vs σ H Q ⟨A, B, ρ, ds, Kd, S, r, w, k⟩ => by
  obtain ⟨e, w2⟩ := (show ds = [] ∧ Kd ρ from w)
  rw [e] at r
  exact ⟨r, k σ H ρ B S (Sub.refl _) ⟨rfl, fun _ _ => rfl⟩ w2⟩
theorem kpgs_cons {t : IT} {ts : ITs} (h1 : PG X x (tGd L t)) (h2 : PGs X xs (tGs L ts)) (hs : (assignEach (x :: xs) X.env).map (·.2) = assign x X.env :: (assignEach xs X.env).map (·.2)) : PGs X (x :: xs) (tGs L (.cons t ts)) :=
  (pgs_cons h1 h2 hs).imp fun vs σ H Q ⟨A, B, ρ, ds, Kd, S, r, w, k⟩ => by
    cases ds with
    | nil => exact False.elim w
    | cons d ds =>
      obtain ⟨v, us, e, r1, r2⟩ := r
      refine ⟨v, us, e, A, B, ρ, d, _, S, r1, w, fun σ1 H1 ρ1 B1 S1 s1 o1 w1 => ?_⟩
      refine ⟨A, B1, ρ1, ds, Kd, S1, r2.mono s1, w1, fun σ2 H2 ρ2 B2 S2 s2 o2 w2 => ?_⟩
      refine k σ2 H2 ρ2 B2 S2 (s1.trans s2) ⟨o2.1.trans o1.1, fun j hj => ?_⟩ w2
      have hj : j ∉ t.nms ++ ts.nms := hj
      rw [List.mem_append] at hj
      exact (o2.2 j fun z => hj (.inr z)).trans (o1.2 j fun z => hj (.inl z))
theorem kpg_tup {ts : ITs} (hK : X.K = L.K) (hc : X.calm = true) (h : PGs X xs (tGs L ts)) (hn : (assignEach xs X.env).length = ts.len) (hst : (assignEach xs X.env).findIdx? (·.1) = none) : PG X (.Tuple xs kk pos) (tGd L (.tup ts)) :=
  (pg_tup hc h hn hst).imp fun v σ H Q ⟨A, B, ρ, d, Kd, S, r, w, k⟩ => by
    cases d <;> first | exact False.elim w | skip
    case tuple ds =>
      obtain ⟨l, w⟩ := (show ds.length = ts.len ∧ asgTs L.Γ ts ds ρ Kd from w)
      obtain ⟨p, vs, e, hb, r⟩ := r
      rw [hK]
      exact ⟨p, vs, e, S.bh.sqT hb, r.length.trans l, A, B, ρ, ds, Kd, S, r, w, k⟩
theorem kpg_sub (hN : X.N[i]? = some n) (hv : Vis X.env.scope n) (hd : (n == ("__debug__" : Str)) = false) (hcd : (n == ("__classdict__" : Str)) = false) (hy : PE X y (tE L noEx noW a))
    (ha : ∀ v, assign (.Subscript (.Name n p) y pos) X.env v = (do
      let ov ← holding [v] (eval (.Name n p) X.env)
      let iv ← holding [v, ov] (eval y X.env)
      standAt pos
      holding [v, ov, iv] (setItem ov iv v)
      release [v, ov, iv] [])) : PG X (.Subscript (.Name n p) y pos) (tGd L (.sub i a)) :=
  (pg_sub (pe_var hN hv hd hcd) hy set_list ha).imp fun v σ H Q ⟨A, B, ρ, d, Kd, S, r, w, k⟩ => by
    obtain ⟨⟨ds0, e0⟩, w⟩ := (show isOwL ρ i ∧ _ from w)
    obtain ⟨p, xs0, es, _, _⟩ := S.listAt e0
    refine ⟨.ref p, es, A, B, ρ, _, S, w, ExC.no, fun u H1 r1 ρ1 B1 S1 s1 x1 w1 => ?_⟩
    cases r1 <;> first | exact False.elim w1 | skip
    case im du =>
    cases du <;> first | exact False.elim w1 | skip
    case int j =>
    cases e1 : ρ1[i]? with
    | none => rw [e1] at w1; exact False.elim w1
    | some s =>
      rw [e1] at w1
      cases s <;> first | exact False.elim w1 | skip
      case ow d1 =>
      cases d1 <;> first | exact False.elim w1 | skip
      case list ds =>
      obtain ⟨p', xs, es', hH, rr⟩ := S1.listAt e1
      rw [es] at es'; cases es'
      have w1 : (match ixN ds.length j with | some m => Kd (ρ1.set i (.ow (.list (ds.set m d)))) | none => False) := w1
      cases e2 : ixN ds.length j with
      | none => rw [e2] at w1; exact w1.elim
      | some m =>
        rw [e2] at w1
        refine ⟨p, xs, j, m, rfl, x1, hH, by rw [rr.length]; exact e2, ?_⟩
        exact k σ _ _ B1 (S1.mut e1 es (d' := .list (ds.set m d)) (o' := .lst (xs.set m v)) (rr.set m (r.mono s1))) s1 ⟨rfl, fun _ _ => rfl⟩ w1
/-! ### a slot's list: append, pop -/
theorem kpe_app (hN : X.N[i]? = some n) (hv : Vis X.env.scope n) (hd : (n == ("__debug__" : Str)) = false) (hcd : (n == ("__classdict__" : Str)) = false) (hy : PE X y (tE L Ed Wx a)) (hs : starEach [y] X.env = (false, eval y X.env) :: starEach [] X.env) (hl : (apos.endLine == pos.line) = true) :
    PE X (.Call (.Attribute (.Name n p) "append" apos) [y] [] pos) (tE L Ed Wx (.app i a)) := by
  refine (pe_bm PySem.F.plainAttrs_list PySem.F.slot_list_append PySem.F.type_list_append mt_append (pe_var hN hv hd hcd) (pa_cons hy pa_nil hs) (by rfl) (by rw [hs]; rfl) hl hs rfl).imp fun σ H Q ⟨A, B, ρ, Qd, S, w, ex, k⟩ => ?_
  obtain ⟨⟨ds0, e0⟩, w⟩ := (show isOwL ρ i ∧ _ from w)
  obtain ⟨p, xs0, es, hp, _⟩ := S.listAt e0
  refine ⟨.ref p, es, .inl ⟨rfl, _, SqL.of hp⟩, A, B, ρ, _, S, w, ex, fun u H1 r1 ρ1 B1 S1 s1 x1 w1 => ?_⟩
  obtain ⟨d, ρ2, B2, S2, s2, x2, w2, _⟩ := take_ok S1 x1 w1
  cases e1 : ρ2[i]? with
  | none => rw [e1] at w2; exact False.elim w2
  | some s =>
    rw [e1] at w2
    cases s <;> first | exact False.elim w2 | skip
    case ow d1 =>
    cases d1 <;> first | exact False.elim w2 | skip
    case list ds =>
    obtain ⟨p', xs, es', hH, rr⟩ := S2.listAt e1
    rw [es] at es'; cases es'
    obtain ⟨hz, w2⟩ := (show ds.length < sizeLine ∧ Qd (.im .none) (ρ2.set i (.ow (.list (ds ++ [d])))) from w2)
    refine ⟨p, xs, u, rfl, rfl, hH, by rw [rr.length]; exact hz, ?_⟩
    exact k _ _ (.im .none) _ B2 (S2.mut e1 es (d' := .list (ds ++ [d])) (o' := .lst (xs ++ [u])) (rr.append ⟨u, [], rfl, x2, rfl⟩)) (s1.trans s2) rfl w2
theorem kpe_pop (hN : X.N[i]? = some n) (hv : Vis X.env.scope n) (hd : (n == ("__debug__" : Str)) = false) (hcd : (n == ("__classdict__" : Str)) = false) (hl : (apos.endLine == pos.line) = true) :
    PE X (.Call (.Attribute (.Name n p) "pop" apos) [] [] pos) (tE L Ed Wx (.pop i)) := by
  refine (pe_bm0 PySem.F.plainAttrs_list PySem.F.slot_list_pop PySem.F.type_list_pop mt_pop (pe_var hN hv hd hcd) (by rfl) hl).imp fun σ H Q ⟨A, B, ρ, Qd, S, w, ex, k⟩ => ?_
  cases e1 : ρ[i]? with
  | none => have w : (match ρ[i]? with | some (.ow (.list ds)) => (match ds[ds.length - 1]? with | some d => Qd (.im d) (ρ.set i (.ow (.list ds.dropLast))) | none => False) | _ => False) := w
            rw [e1] at w; exact False.elim w
  | some s =>
    have w : (match ρ[i]? with | some (.ow (.list ds)) => (match ds[ds.length - 1]? with | some d => Qd (.im d) (ρ.set i (.ow (.list ds.dropLast))) | none => False) | _ => False) := w
    rw [e1] at w
    cases s <;> first | exact False.elim w | skip
    case ow d1 =>
    cases d1 <;> first | exact False.elim w | skip
    case list ds =>
    obtain ⟨p, xs, es, hH, rr⟩ := S.listAt e1
    have w : (match ds[ds.length - 1]? with | some d => Qd (.im d) (ρ.set i (.ow (.list ds.dropLast))) | none => False) := w
    cases e2 : ds[ds.length - 1]? with
    | none => rw [e2] at w; exact w.elim
    | some d =>
      rw [e2] at w
      obtain ⟨u, e3, ru⟩ := rr.get _ e2
      refine ⟨.ref p, es, .inl ⟨rfl, _, SqL.of hH⟩, p, xs, u, rfl, rfl, hH, by rw [rr.length]; exact e3, ?_⟩
      have rd : RpAll L.K B ds.dropLast xs.dropLast := by
        rw [List.dropLast_eq_take, List.dropLast_eq_take, rr.length]; exact rr.take _
      exact k _ _ (.im d) _ B (S.mut e1 es (d' := .list ds.dropLast) (o' := .lst xs.dropLast) rd) (Sub.refl _) ru w
theorem kpe_popAt (hN : X.N[i]? = some n) (hv : Vis X.env.scope n) (hd : (n == ("__debug__" : Str)) = false) (hcd : (n == ("__classdict__" : Str)) = false) (hy : PE X y (tE L Ed Wx a)) (hs : starEach [y] X.env = (false, eval y X.env) :: starEach [] X.env) (hl : (apos.endLine == pos.line) = true) :
    PE X (.Call (.Attribute (.Name n p) "pop" apos) [y] [] pos) (tE L Ed Wx (.popAt i a)) := by
  refine (pe_bm PySem.F.plainAttrs_list PySem.F.slot_list_pop PySem.F.type_list_pop mt_popAt (pe_var hN hv hd hcd) (pa_cons hy pa_nil hs) (by rfl) (by rw [hs]; rfl) hl hs rfl).imp fun σ H Q ⟨A, B, ρ, Qd, S, w, ex, k⟩ => ?_
  obtain ⟨⟨ds0, e0⟩, w⟩ := (show isOwL ρ i ∧ _ from w)
  obtain ⟨p, xs0, es, hp, _⟩ := S.listAt e0
  refine ⟨.ref p, es, .inl ⟨rfl, _, SqL.of hp⟩, A, B, ρ, _, S, w, ex, fun u H1 r1 ρ1 B1 S1 s1 x1 w1 => ?_⟩
  cases r1 <;> first | exact False.elim w1 | skip
  case im du =>
  cases du <;> first | exact False.elim w1 | skip
  case int j =>
  cases e1 : ρ1[i]? with
  | none => rw [e1] at w1; exact False.elim w1
  | some s =>
    rw [e1] at w1
    cases s <;> first | exact False.elim w1 | skip
    case ow d1 =>
    cases d1 <;> first | exact False.elim w1 | skip
    case list ds =>
    obtain ⟨p', xs, es', hH, rr⟩ := S1.listAt e1
    rw [es] at es'; cases es'
    obtain ⟨⟨l1, l2⟩, w1⟩ := (show (-(2 ^ 63) ≤ j ∧ j < 2 ^ 63) ∧ (match seqIndex? j ds.length with | some m => (match ds[m]? with | some d => Qd (.im d) (ρ1.set i (.ow (.list (ds.eraseIdx m)))) | none => False) | none => False) from w1)
    cases e2 : seqIndex? j ds.length with
    | none => rw [e2] at w1; exact w1.elim
    | some m =>
      rw [e2] at w1
      have w1 : (match ds[m]? with | some d => Qd (.im d) (ρ1.set i (.ow (.list (ds.eraseIdx m)))) | none => False) := w1
      cases e3 : ds[m]? with
      | none => rw [e3] at w1; exact w1.elim
      | some d =>
        rw [e3] at w1
        obtain ⟨z, e4, rz⟩ := rr.get _ e3
        refine ⟨p, xs, j, m, z, rfl, by rw [show u = _ from x1], hH, l1, l2, by rw [rr.length]; exact e2, e4, ?_⟩
        exact k _ _ (.im d) _ B1 (S1.mut e1 es (d' := .list (ds.eraseIdx m)) (o' := .lst (xs.eraseIdx m)) (rr.eraseIdx m)) s1 rz w1
theorem kpe_rev (hK : X.K = L.K) {k1 : Nat} {p1 p2 p3 : Pos} (ha : PE X x (tE L Ed Wx a)) : PE X (.Subscript x (.Slice none none (some (.UnaryOp .USub (.Constant (.int 1) k1 p1) p2)) p3) pos) (tE L Ed Wx (.rev a)) := by
  refine (pe_revA ha).imp fun σ H Q ⟨A, B, ρ, Qd, S, w, ex, k⟩ => ?_
  refine ⟨A, B, ρ, _, S, w, ex, fun v H1 r1 ρ1 B1 S1 s1 x1 w1 => ?_⟩
  obtain ⟨d, e1, w1⟩ := peek_ok w1
  have vw := S1.vw x1 e1
  rw [hK]
  cases d <;> first | exact False.elim w1 | skip
  case list ds =>
    obtain ⟨p, us, e2, hH, rr⟩ := vw
    refine ⟨p, us, e2, .inl ⟨SqL.of hH, fun t ht => ?_⟩⟩
    obtain ⟨S3, R3⟩ := S1.loose (d := .list ds.reverse) (o := .lst us.reverse) ht rr.reverse
    exact k _ _ (.fr (.list ds.reverse)) ρ1 _ S3 s1 R3 w1
  case tuple ds =>
    obtain ⟨p, us, e2, hH, rr⟩ := vw
    refine ⟨p, us, e2, .inr ⟨S1.bh.sqT hH, fun t ht => ?_⟩⟩
    have n1 := (S1.fresh ht).1
    exact k _ _ (.im (.tuple ds.reverse)) ρ1 _ (S1.laid ht) (s1.trans (Sub.new n1)) ⟨t, us.reverse, rfl, SqT.of upd_same, rr.reverse.mono (Sub.new n1)⟩ w1
/-! ### comprehensions -/
theorem kpts_nil : PTs X [] (tTs L .non) := pts_nil.imp fun σ H Q ⟨A, B, ρ, Qd, S, w, k⟩ => k true H ρ B S (Sub.refl _) w
theorem kpts_one (h : PT X x (tT L noEx noW a)) : PTs X [x] (tTs L (.som a)) := (pts_one h).imp fun σ H Q ⟨A, B, ρ, Qd, S, w, k⟩ => ⟨A, B, ρ, _, S, w, ExC.no, k⟩
theorem lc_go {it : II} {tg : IT} {elt : IE} {cond : IO} {own : List (Str × Nat)} (hn : ∀ j ∈ tg.nms, j ∈ own.map (·.2)) {σ : L2.St} {H : Hp} {Q : VK} (h : tE L Ed Wx (.lc elt tg it cond own) σ H Q) :
    tLc (tI L Ed Wx it) (tGd L tg) (tTs L cond) (tE L noEx noW elt) (own.map (·.2)) σ H Q := by
  obtain ⟨A, B, ρ, Qd, S, w, ex, k⟩ := h
  refine ⟨A, B, ρ, _, S, w, ex, fun J H1 ds ρ1 B1 S1 s1 dw ⟨hz, w1⟩ q hq => ?_⟩
  let Kf : List D → En → Prop := fun acc ρ' => Qd (.fr (.list acc)) (backE ρ1 ρ' own)
  let step : D → En → (Option D → En → Prop) → Prop := fun d ρ' Kk => asgT L.Γ tg d ρ' fun ρ2 => wpO' L.Γ cond ρ2 fun b ρ3 => if b = true then wpE L.Γ noEx elt ρ3 fun r ρ4 => takeR ρ4 r fun e ρ5 => Kk (some e) ρ5 else Kk none ρ3
  have w1 : lcL own step ds [] (wipeE ρ1 own) Kf := w1
  refine lc_it dw (fun i H => ∃ B' ρ' acc, StOk L.W L.K A B' ρ' (L2.wipe σ (own.map (·.2))) H ∧ Sub B1 B' ∧ ResOk L.W L.K A B' ρ' (L2.wipe σ (own.map (·.2))) H (.fr (.list acc)) (.ref q) ∧ acc.length ≤ i ∧ lcL own step (ds.drop i) acc ρ' Kf) ?_ (fun i H _ ⟨B', ρ', acc, S', sb, _⟩ => sb.trans S'.bh) ?_ ?_
  · obtain ⟨S2, R2⟩ := (S1.wipe own).loose (d := .list []) (o := .lst []) hq rfl
    exact ⟨B1, _, [], S2, Sub.refl _, R2, Nat.le_refl _, by rw [List.drop_zero]; exact w1⟩
  · rintro i x H2 H3 hi ⟨B', ρ', acc, S', sb, R', hl, w2⟩ y
    have S2 := hold_st S' R'
    obtain ⟨d, B2, S3, sb2, sh, e1, rx⟩ := yd_ok S2 sb y
    have ed : ds.drop i = d :: ds.drop (i + 1) := by
      have hlt : i < ds.length := hi
      rw [List.drop_eq_getElem_cons hlt]
      rw [List.getElem?_eq_getElem hlt] at e1
      rw [Option.some.inj e1]
    rw [ed] at w2
    have w2 : step d ρ' (fun o ρ'' => match o with
      | some e => lcL own step (ds.drop (i + 1)) (acc ++ [e]) (wipeE ρ'' own) Kf
      | none => lcL own step (ds.drop (i + 1)) acc (wipeE ρ'' own) Kf) := w2
    refine ⟨_, B2, ρ', d, _, S3, rx, w2, fun σ4 H4 ρ4 B4 S4 s4 o4 w4 => ?_⟩
    have ww := wipe_off o4 hn
    have ww : L2.wipe σ4 (own.map (·.2)) = L2.wipe σ (own.map (·.2)) := ww
    refine ⟨ww, ?_⟩
    refine ⟨_, B4, ρ4, _, S4, w4, fun b H5 ρ5 B5 S5 s5 w5 => ?_⟩
    cases b with
    | false =>
      rw [if_neg Bool.false_ne_true] at w5 ⊢
      have S6 := unheld_fr R' S5
      have R6 := held_fr S' R' S5 ((sb2.trans s4).trans s5)
      have S7 := S6.wipe own
      rw [ww] at S7
      refine ⟨B5, _, acc, S7, ((sb.trans sb2).trans s4).trans s5, ?_, Nat.le_succ_of_le hl, w5⟩
      rw [← ww]
      exact loose_less (wipeE_own own) R6
    | true =>
      rw [if_pos rfl] at w5 ⊢
      refine ⟨_, B5, ρ5, _, S5, w5, ExC.no, fun z H6 r6 ρ6 B6 S6 s6 x6 w6 => ?_⟩
      obtain ⟨e, ρ7, B7, S7, s7, x7, w7, _⟩ := take_ok S6 x6 w6
      have S8 := unheld_fr R' S7
      have sall := ((sb2.trans s4).trans s5).trans (s6.trans s7)
      have R8 := held_fr S' R' S7 sall
      have S9 := S8.wipe own
      have R9 := loose_less (wipeE_own own) R8
      obtain ⟨p', o, ep, eH, ho, _⟩ := id R9
      cases ep
      cases o <;> first | exact False.elim ho | skip
      case lst us =>
      have lu : us.length = acc.length := RpAll.length ho
      obtain ⟨S10, R10⟩ := loose_mut S9 R9 (d' := .list (acc ++ [e])) (o' := .lst (us ++ [z])) (RpAll.append ho ⟨z, [], rfl, x7, rfl⟩)
      rw [ww] at S10 R10
      exact ⟨us, eH, by have hi : i < ds.length := hi; omega, B7, _, acc ++ [e], S10, sb.trans sall, R10, by rw [List.length_append, List.length_singleton]; omega, w7⟩
  · rintro H2 ⟨B', ρ', acc, S', sb, R', hl, w2⟩
    rw [List.drop_length] at w2
    have w2 : Kf acc ρ' := w2
    exact k _ H2 (.fr (.list acc)) _ B' (StOk.back S1 S' sb) (s1.trans sb) (loose_less back_own R') w2
theorem kpe_lc {elt : Expr} {ifs : List Expr} {scope : Scope} {it : II} {itg : IT} {ielt : IE} {cond : IO} {own : List (Str × Nat)} (hc : X.calm = true) (hN : X.N.Nodup) (hi : PI X tg y (tI L Ed Wx it)) (ok : BlkOk X.N X.env.scope scope own) (hn : ∀ j ∈ itg.nms, j ∈ own.map (·.2))
    (hg : ∀ (s : Shared) (H : Hp) (C : Addr) (cl : List (Str × Addr)) (fp : List Addr), PG (X.blk s H scope (compEnvC scope cl C X.env) fp) tg (tGd L itg)) (ht : ∀ (s : Shared) (H : Hp) (C : Addr) (cl : List (Str × Addr)) (fp : List Addr), PTs (X.blk s H scope (compEnvC scope cl C X.env) fp) ifs (tTs L cond))
    (he : ∀ (s : Shared) (H : Hp) (C : Addr) (cl : List (Str × Addr)) (fp : List Addr), PE (X.blk s H scope (compEnvC scope cl C X.env) fp) elt (tE L noEx noW ielt)) (hs : ∀ x, foldedSetIterable y X.env x = pure x) :
    PE X (.ListComp elt [⟨tg, y, ifs, 0⟩] scope pos) (tE L Ed Wx (.lc ielt itg it cond own)) :=
  (pe_lc hc hN hi ok hg ht he hs).imp fun σ H Q h => lc_go hn h
end
end KR

end
section
set_option Elab.async false
set_option linter.all false
set_option maxRecDepth 100000
set_option genSizeOf false
set_option maxHeartbeats 2000000
/-! Statements. -/
namespace KR
open PySem L2

structure FinOk (L : Lay) (A : Act) (B : Hp) (F : Fin') (d : Ends) : Prop where
  nx : ∀ σ H ρ B', StOk L.W L.K A B' ρ σ H → Sub B B' → F.nx ρ → d.nx σ H
  bk : ∀ σ H ρ B', StOk L.W L.K A B' ρ σ H → Sub B B' → F.bk ρ → d.bk σ H
  ct : ∀ σ H ρ B', StOk L.W L.K A B' ρ σ H → Sub B B' → F.ct ρ → d.ct σ H
  rt : ∀ v H r B', StOk L.W L.K A B' [] [] H → ResOk L.W L.K A B' [] [] H r v → Sub B B' → F.rt r → d.rt v H
theorem FinOk.mono {L : Lay} {A : Act} {B B1 : Hp} {F : Fin'} {d : Ends} (h : FinOk L A B F d) (s : Sub B B1) : FinOk L A B1 F d :=
  ⟨fun σ H ρ B' S t => h.nx σ H ρ B' S (s.trans t), fun σ H ρ B' S t => h.bk σ H ρ B' S (s.trans t), fun σ H ρ B' S t => h.ct σ H ρ B' S (s.trans t), fun v H r B' S x t => h.rt v H r B' S x (s.trans t)⟩
def tSt (L : Lay) (Ed : Ex → En → Prop) (Wx : WX) (i : IS) : TS := fun d σ H => ∃ A B ρ F, StOk L.W L.K A B ρ σ H ∧ wpS L.Γ Ed i ρ F ∧ (∀ σ, ExC L.W L.K L.cad A Ed Wx σ) ∧ FinOk L A B F d
def tSs (L : Lay) (Ed : Ex → En → Prop) (Wx : WX) (i : ISs) : TS := fun d σ H => ∃ A B ρ F, StOk L.W L.K A B ρ σ H ∧ wpSs L.Γ Ed i ρ F ∧ (∀ σ, ExC L.W L.K L.cad A Ed Wx σ) ∧ FinOk L A B F d
theorem _root_.L2.PS.imp {X : Cx} {s : Stmt} {t t' : TS} (h : PS X s t) (i : ∀ d σ H, t' d σ H → t d σ H) : PS X s t' := ⟨fun pins s σ H d I z => h.run pins s σ H d I (i d σ H z)⟩
theorem _root_.L2.PSs.imp {X : Cx} {s : List Stmt} {t t' : TS} (h : PSs X s t) (i : ∀ d σ H, t' d σ H → t d σ H) : PSs X s t' := ⟨fun pins s σ H d I z => h.run pins s σ H d I (i d σ H z)⟩
section
variable {L : Lay} {Ed : Ex → En → Prop} {Wx : WX} {X : Cx} {a b : IE} {es : IEs} {x y tg : Expr} {xs : List Expr} {pos p tpos : Pos} {i j l : Nat} {n m o : Str} {s : IS} {ss : ISs} {st : Stmt} {sts : List Stmt}
theorem kss_nil : PSs X [] (tSs L Ed Wx .nil) := pss_nil.imp fun d σ H ⟨A, B, ρ, F, S, w, ex, k⟩ => k.nx σ H ρ B S (Sub.refl _) w
theorem kss_cons (h1 : PS X st (tSt L Ed Wx s)) (h2 : PSs X sts (tSs L Ed Wx ss)) : PSs X (st :: sts) (tSs L Ed Wx (.cons s ss)) :=
  (pss_cons h1 h2).imp fun d σ H ⟨A, B, ρ, F, S, w, ex, k⟩ =>
    ⟨A, B, ρ, _, S, w, ex, fun σ1 H1 ρ1 B1 S1 s1 w1 => ⟨A, B1, ρ1, F, S1, w1, ex, k.mono s1⟩, k.bk, k.ct, k.rt⟩
theorem kps_ex (he : PE X x (tE L Ed Wx a)) (hs : swapsWith x none pos.line X.env = pure false) : PS X (.Expr x pos) (tSt L Ed Wx (.ex a)) :=
  (ps_expr he hs).imp fun d σ H ⟨A, B, ρ, F, S, w, ex, k⟩ => ⟨A, B, ρ, _, S, w, ex σ, fun v H1 r1 ρ1 B1 S1 s1 x1 w1 => k.nx σ H1 ρ1 B1 S1 s1 w1⟩
theorem set_go {A : Act} {B : Hp} {ρ : En} {σ : L2.St} {H : Hp} {F : Fin'} {d : Ends} (S : StOk L.W L.K A B ρ σ H) (w : wpS L.Γ Ed (.asg (.nm i) a) ρ F) (ex : ∀ σ, ExC L.W L.K L.cad A Ed Wx σ) (k : FinOk L A B F d) : tAsg (tE L Ed Wx a) (gName i) d σ H :=
  ⟨A, B, ρ, _, S, w, ex σ, fun v H1 r1 ρ1 B1 S1 s1 x1 w1 => by
    obtain ⟨s, ρ2, B2, S2, s2, x2, _, w2, _⟩ := slot_ok (Kd := fun s ρ2 => F.nx (ρ2.set i s)) S1 x1 w1
    exact k.nx _ H1 _ B2 (S2.setS x2) (s1.trans s2) w2⟩
theorem kps_set (hN : X.N.Nodup) (hi : X.N[i]? = some n) (hx : Loc X.env.scope n) (he : PE X x (tE L Ed Wx a)) (hs : swapsWith x (some (.Name n p)) pos.line X.env = pure false) (hf : X.fn n = true ∨ X.env.scope.names.lookup n = some .local) :
    PS X (.Assign [.Name n p] x pos) (tSt L Ed Wx (.asg (.nm i) a)) :=
  (ps_set hN hi hx he hs hf).imp fun d σ H ⟨A, B, ρ, F, S, w, ex, k⟩ => set_go S w ex k
theorem kps_setLc {elt : Expr} {ifs : List Expr} {scope : Scope} {it : II} {itg : IT} {ielt : IE} {cond : IO} {own : List (Str × Nat)} {spos : Pos} (hc : X.calm = true) (hN : X.N.Nodup) (hy : X.N[i]? = some n) (hyl : X.env.scope.names.lookup n = some .local)
    (hsw : swapsWith (.ListComp elt [⟨tg, y, ifs, 0⟩] scope pos) (some (.Name n p)) spos.line X.env = pure true) (hi : PI X tg y (tI L Ed Wx it)) (ok : BlkOk X.N X.env.scope scope own) (hn : ∀ j ∈ itg.nms, j ∈ own.map (·.2))
    (hg : ∀ (s : Shared) (H : Hp) (C : Addr) (cl : List (Str × Addr)) (fp : List Addr), PG (X.blk s H scope (compEnvC scope cl C X.env) fp) tg (tGd L itg)) (ht : ∀ (s : Shared) (H : Hp) (C : Addr) (cl : List (Str × Addr)) (fp : List Addr), PTs (X.blk s H scope (compEnvC scope cl C X.env) fp) ifs (tTs L cond))
    (he : ∀ (s : Shared) (H : Hp) (C : Addr) (cl : List (Str × Addr)) (fp : List Addr), PE (X.blk s H scope (compEnvC scope cl C X.env) fp) elt (tE L noEx noW ielt)) (hs : ∀ x, foldedSetIterable y X.env x = pure x) :
    PS X (.Assign [.Name n p] (.ListComp elt [⟨tg, y, ifs, 0⟩] scope pos) spos) (tSt L Ed Wx (.asg (.nm i) (.lc ielt itg it cond own))) :=
  (ps_setLc hc hN hy hyl hsw hi ok hg ht he hs).imp fun d σ H ⟨A, B, ρ, F, S, w, ex, k⟩ => by
    obtain ⟨A1, B1, ρ1, Q1, S1, w1, ex1, k1⟩ := set_go S w ex k
    exact lc_go hn ⟨A1, B1, ρ1, Q1, S1, w1, ex1, k1⟩
theorem kps_asg {t : IT} (ht : ∀ i, t ≠ .nm i) (he : PE X x (tE L Ed Wx a)) (hg : PG X tg (tGd L t)) (hs : swapsWithSole [tg] x pos.line X.env = pure false) (hw : swappedStores [tg] x X.env = pure none) (h1 : (assignEach [tg] X.env).map (·.2) = [assign tg X.env]) :
    PS X (.Assign [tg] x pos) (tSt L Ed Wx (.asg t a)) :=
  (ps_asg he hg hs hw h1).imp fun d σ H ⟨A, B, ρ, F, S, w, ex, k⟩ => by
    refine ⟨A, B, ρ, _, S, w, ex σ, fun v H1 r1 ρ1 B1 S1 s1 x1 w1 => ?_⟩
    have w1 : takeR ρ1 r1 fun d ρ1 => asgT L.Γ t d ρ1 F.nx := by
      cases t with
      | nm i => exact absurd rfl (ht i)
      | _ => exact w1
    obtain ⟨e, ρ2, B2, S2, s2, x2, w2, _⟩ := take_ok S1 x1 w1
    exact ⟨A, B2, ρ2, e, _, S2, x2, w2, fun σ3 H3 ρ3 B3 S3 s3 _ w3 => k.nx σ3 H3 ρ3 B3 S3 ((s1.trans s2).trans s3) w3⟩
theorem slots_len {K : PySem.W.Frag} {W : Wld} {B H : Hp} {ρ : En} {σ : L2.St} : ∀ {A : Act} {ss : List Sl} {vs : List V}, SetAll W K B ρ σ H A ss vs → vs.length = ss.length
  | _, [], _, e => by rw [show _ = [] from e]; rfl
  | _, _ :: _, _, ⟨v, us, e, _, h⟩ => by subst e; rw [List.length_cons, List.length_cons, slots_len h]
theorem par_go {is : List Nat} {A : Act} {B : Hp} {ρ : En} {σ : L2.St} {H : Hp} {F : Fin'} {d : Ends} (S : StOk L.W L.K A B ρ σ H) (w : wpS L.Γ Ed (.par is es) ρ F) (ex : ∀ σ, ExC L.W L.K L.cad A Ed Wx σ) (k : FinOk L A B F d) :
    tEs L Ed Wx es σ H fun vs H1 => vs.length = is.length ∧ d.nx (setsV σ is vs) H1 :=
  ⟨A, B, ρ, _, S, w, ex σ, fun vs H1 rs ρ1 B1 S1 s1 x1 w1 => by
    obtain ⟨ss, ρ2, B2, S2, s2, x2, ⟨l2, w2⟩, _⟩ := slotAll_ok S1 (AExt.refl A) x1 w1
    exact ⟨(slots_len x2).trans l2, k.nx _ H1 _ B2 (setAll_ok S2 (AExt.refl A) x2) (s1.trans s2) w2⟩⟩
theorem kps_par {px py pt : Pos} {kt k2 : Nat} {pt2 : Pos} {e1 e2 : Expr} (hc : X.calm = true) (hN : X.N.Nodup) (hi : X.N[i]? = some n) (hj : X.N[j]? = some m) (hij : i ≠ j) (hx : X.env.scope.names.lookup n = some .local) (hy : X.env.scope.names.lookup m = some .local) (ha : PA X [e1, e2] (tEs L Ed Wx es))
    (hw : swappedStores [.Tuple [.Name n px, .Name m py] kt pt] (.Tuple [e1, e2] k2 pt2) X.env = pure (some [n, m])) : PS X (.Assign [.Tuple [.Name n px, .Name m py] kt pt] (.Tuple [e1, e2] k2 pt2) pos) (tSt L Ed Wx (.par [i, j] es)) :=
  (ps_par hc hN hi hj hij hx hy ha hw rfl).imp fun d σ H ⟨A, B, ρ, F, S, w, ex, k⟩ => by
    obtain ⟨A1, B1, ρ1, Q1, S1, w1, ex1, k1⟩ := par_go S w ex k
    refine ⟨A1, B1, ρ1, Q1, S1, w1, ex1, fun vs H1 rs ρ2 B2 S2 s2 x2 w2 => ?_⟩
    obtain ⟨l, q⟩ := k1 vs H1 rs ρ2 B2 S2 s2 x2 w2
    match vs, l, q with
    | [v, w], _, q => exact ⟨v, w, rfl, q⟩
theorem kps_par3 {px py pz pt : Pos} {kt k2 : Nat} {pt2 : Pos} {e1 e2 e3 : Expr} (hc : X.calm = true) (hN : X.N.Nodup) (hi : X.N[i]? = some n) (hj : X.N[j]? = some m) (hl : X.N[l]? = some o) (hij : i ≠ j) (hil : i ≠ l) (hjl : j ≠ l) (hx : X.env.scope.names.lookup n = some .local) (hy : X.env.scope.names.lookup m = some .local) (hz : X.env.scope.names.lookup o = some .local)
    (ha : PA X [e1, e2, e3] (tEs L Ed Wx es)) (hw : swappedStores [.Tuple [.Name n px, .Name m py, .Name o pz] kt pt] (.Tuple [e1, e2, e3] k2 pt2) X.env = pure (some [n, m, o])) : PS X (.Assign [.Tuple [.Name n px, .Name m py, .Name o pz] kt pt] (.Tuple [e1, e2, e3] k2 pt2) pos) (tSt L Ed Wx (.par [i, j, l] es)) :=
  (ps_par3 hc hN hi hj hl hij hil hjl hx hy hz ha hw rfl).imp fun d σ H ⟨A, B, ρ, F, S, w, ex, k⟩ => by
    obtain ⟨A1, B1, ρ1, Q1, S1, w1, ex1, k1⟩ := par_go S w ex k
    refine ⟨A1, B1, ρ1, Q1, S1, w1, ex1, fun vs H1 rs ρ2 B2 S2 s2 x2 w2 => ?_⟩
    obtain ⟨l, q⟩ := k1 vs H1 rs ρ2 B2 S2 s2 x2 w2
    match vs, l, q with
    | [v, w, u], _, q => exact ⟨v, w, u, rfl, q⟩
theorem kps_ret (he : PE X x (tE L Ed Wx a)) : PS X (.Return (some x) pos) (tSt L Ed Wx (.ret a)) :=
  (ps_ret he).imp fun d σ H ⟨A, B, ρ, F, S, w, ex, k⟩ => ⟨A, B, ρ, _, S, w, ex σ, fun v H1 r1 ρ1 B1 S1 s1 x1 w1 => by
    obtain ⟨r', x2, w2⟩ := ret_ok S1 x1 w1
    exact k.rt v H1 r' B1 S1.bare x2 s1 w2⟩
theorem kps_retN : PS X (.Return none pos) (tSt L Ed Wx (.ret (.cst .none))) :=
  ps_retN.imp fun d σ H ⟨A, B, ρ, F, S, w, ex, k⟩ => k.rt .non H (.im .none) B S.bare rfl (Sub.refl _) w
theorem kps_if {c : IE} {z : Expr} {sa sb : ISs} {la lb : List Stmt} (hc : PT X z (tT L Ed Wx c)) (ha : PSs X la (tSs L Ed Wx sa)) (hb : PSs X lb (tSs L Ed Wx sb)) : PS X (.If z la lb pos) (tSt L Ed Wx (.ife c sa sb)) :=
  (ps_if hc ha hb).imp fun d σ H ⟨A, B, ρ, F, S, w, ex, k⟩ => by
    refine ⟨A, B, ρ, _, S, w, ex σ, fun b H1 ρ1 B1 S1 s1 w1 => ?_⟩
    cases b with
    | true => exact ⟨A, B1, ρ1, F, S1, w1, ex, k.mono s1⟩
    | false => exact ⟨A, B1, ρ1, F, S1, w1, ex, k.mono s1⟩
theorem kps_pass : PS X (.Pass pos) (tSt L Ed Wx .pass) := ps_pass.imp fun d σ H ⟨A, B, ρ, F, S, w, ex, k⟩ => k.nx σ H ρ B S (Sub.refl _) w
theorem kps_brk : PS X (.Break pos) (tSt L Ed Wx .brk) := ps_break.imp fun d σ H ⟨A, B, ρ, F, S, w, ex, k⟩ => k.bk σ H ρ B S (Sub.refl _) w
theorem kps_cont : PS X (.Continue pos) (tSt L Ed Wx .cont) := ps_continue.imp fun d σ H ⟨A, B, ρ, F, S, w, ex, k⟩ => k.ct σ H ρ B S (Sub.refl _) w
theorem kps_never : PS X st (tSt L Ed Wx .never) := ps_never.imp fun d σ H ⟨A, B, ρ, F, S, w, ex, k⟩ => w
theorem kps_for {t : IT} {it : II} {ib : ISs} {body : List Stmt} (hp : PassesOwn (model X.prog X.w) X.A X.env X.xe) (hc : X.calm = true) (hi : PI X tg y (tI L Ed Wx it)) (hg : PG X tg (tGd L t)) (hb : PSs X body (tSs L Ed Wx ib)) (hs : ∀ x, foldedSetIterable y X.env x = pure x) :
    PS X (.For tg y body [] pos) (tSt L Ed Wx (.for_ t it ib)) :=
  (ps_for hp hc hi hg hb hs).imp fun d σ H ⟨A, B, ρ, F, S, w, ex, k⟩ => by
    refine ⟨A, B, ρ, _, S, w, ex σ, fun J H1 ds ρ1 B1 S1 s1 dw w1 => ?_⟩
    let bd : D → En → Fin' → Prop := fun d ρ' F' => asgT L.Γ t d ρ' fun ρ2 => wpSs L.Γ Ed ib ρ2 F'
    have w1 : forL bd ds ρ1 F := w1
    refine for_it dw (fun i σ H => ∃ B' ρ', StOk L.W L.K A B' ρ' σ H ∧ Sub B1 B' ∧ forL bd (ds.drop i) ρ' F) ⟨B1, ρ1, S1, Sub.refl _, by rw [List.drop_zero]; exact w1⟩ (fun i σ H _ ⟨B', ρ', S', sb, _⟩ => sb.trans S'.bh) ?_ ?_
    · rintro i x σ2 H2 H3 hi ⟨B', ρ', S', sb, w2⟩ y
      obtain ⟨e, B2, S3, sb2, sh, e1, rx⟩ := yd_ok S' sb y
      have ed : ds.drop i = e :: ds.drop (i + 1) := by
        have hlt : i < ds.length := hi
        rw [List.drop_eq_getElem_cons hlt]
        rw [List.getElem?_eq_getElem hlt] at e1
        rw [Option.some.inj e1]
      rw [ed] at w2
      have w2 : bd e ρ' { nx := fun ρ' => forL bd (ds.drop (i + 1)) ρ' F, rt := F.rt, bk := F.nx, ct := fun ρ' => forL bd (ds.drop (i + 1)) ρ' F } := w2
      refine ⟨A, B2, ρ', e, _, S3, rx, w2, fun σ4 H4 ρ4 B4 S4 s4 _ w4 => ?_⟩
      have sx := (sb.trans sb2).trans s4
      exact ⟨A, B4, ρ4, _, S4, w4, ex, fun σ5 H5 ρ5 B5 S5 s5 w5 => ⟨B5, ρ5, S5, sx.trans s5, w5⟩, fun σ5 H5 ρ5 B5 S5 s5 w5 => k.nx σ5 H5 ρ5 B5 S5 ((s1.trans sx).trans s5) w5, fun σ5 H5 ρ5 B5 S5 s5 w5 => ⟨B5, ρ5, S5, sx.trans s5, w5⟩,
        fun v H5 r B5 S5 x5 s5 w5 => k.rt v H5 r B5 S5 x5 ((s1.trans sx).trans s5) w5⟩
    · rintro σ2 H2 ⟨B', ρ', S', sb, w2⟩
      rw [List.drop_length] at w2
      exact k.nx σ2 H2 ρ' B' S' (s1.trans sb) w2
theorem kps_while {c : IE} {z : Expr} {ib : ISs} {body : List Stmt} (hp : PassesOwn (model X.prog X.w) X.A X.env X.xe) (hc : PT X z (tT L Ed Wx c)) (hb : PSs X body (tSs L Ed Wx ib)) : PS X (.While z body [] pos) (tSt L Ed Wx (.while_ c ib)) :=
  (ps_while hp hc hb).imp fun d σ H ⟨A, B, ρ, F, S, w, ex, k⟩ => by
    let cd : En → (Bool → En → Prop) → Prop := fun ρ' K => wpE L.Γ Ed c ρ' fun r ρ1 => asBool r fun k => K k ρ1
    let bd : En → Fin' → Prop := fun ρ' F' => wpSs L.Γ Ed ib ρ' F'
    obtain ⟨n, w⟩ := (show ∃ n, whileN cd bd n ρ F from w)
    refine ⟨fun m σ H => ∃ B' ρ', StOk L.W L.K A B' ρ' σ H ∧ Sub B B' ∧ whileN cd bd m ρ' F, ⟨n, B, ρ, S, Sub.refl _, w⟩, ?_⟩
    rintro m σ2 H2 ⟨B', ρ', S', sb, w2⟩
    cases m with
    | zero => exact False.elim w2
    | succ m =>
      have w2 : cd ρ' fun k ρ1 => if k = true then bd ρ1 { nx := fun ρ' => whileN cd bd m ρ' F, rt := F.rt, bk := F.nx, ct := fun ρ' => whileN cd bd m ρ' F } else F.nx ρ1 := w2
      refine ⟨A, B', ρ', _, S', w2, ex σ2, fun b H3 ρ3 B3 S3 s3 w3 => ?_⟩
      cases b with
      | false => exact k.nx σ2 H3 ρ3 B3 S3 (sb.trans s3) w3
      | true =>
        rw [if_pos rfl]
        refine ⟨fun σ H => ∃ B' ρ', StOk L.W L.K A B' ρ' σ H ∧ Sub B B' ∧ whileN cd bd m ρ' F, fun σ H q => ⟨m, Nat.lt_succ_self _, q⟩, ?_⟩
        have sx := sb.trans s3
        exact ⟨A, B3, ρ3, _, S3, w3, ex, fun σ5 H5 ρ5 B5 S5 s5 w5 => ⟨B5, ρ5, S5, sx.trans s5, w5⟩, fun σ5 H5 ρ5 B5 S5 s5 w5 => k.nx σ5 H5 ρ5 B5 S5 (sx.trans s5) w5, fun σ5 H5 ρ5 B5 S5 s5 w5 => ⟨B5, ρ5, S5, sx.trans s5, w5⟩,
          fun v H5 r B5 S5 x5 s5 w5 => k.rt v H5 r B5 S5 x5 (sx.trans s5) w5⟩
end
end KR

end
section
set_option Elab.async false
set_option linter.all false
set_option maxRecDepth 100000
set_option genSizeOf false
set_option maxHeartbeats 2000000
/-! Contracts under known guards, a def by its body, the law's own call. -/
namespace KR
open PySem PySem.Spec PyProof.Rows L2

/-- a contract that also knows that nothing is being shown (so that repr may be asked) -/
structure GnOk (P : Program) (w : World) (K : PySem.W.Frag) (mg : Str → Option Value) (base : Heap) (k : Nat) (f : Addr) (fd : FuncData) (ps : List Str) (sp : Sp) : Prop where
  n : ∀ {vs H Q E}, sp vs H Q E → vs.length = ps.length
  go : ∀ {A : Around} {out : List Env} {s : Shared} {H : Hp} {ar : Args} {us : List Value} {vs : List V} {Q : VK} {E : XK}, Room k A → A.guards = some [] → Env0 P w K mg base A out s H → BindsTo s fd ar (ps.zip us) → Vals vs us → sp vs H Q E →
    codeAny (model P w) A (.call (.ref f) ar) (CR (L2.CX P w) out P w H s Q E) s
theorem GnOk.imp {P : Program} {w : World} {K : PySem.W.Frag} {mg : Str → Option Value} {base : Heap} {k : Nat} {f : Addr} {fd : FuncData} {ps : List Str} {sp sp' : Sp} (F : GnOk P w K mg base k f fd ps sp) (h : ∀ vs H Q E, sp' vs H Q E → sp vs H Q E) : GnOk P w K mg base k f fd ps sp' :=
  ⟨fun q => F.n (h _ _ _ _ q), fun hr hg e b v q => F.go hr hg e b v (h _ _ _ _ q)⟩
theorem GnOk.mono {P : Program} {w : World} {K : PySem.W.Frag} {mg : Str → Option Value} {base : Heap} {j k : Nat} {f : Addr} {fd : FuncData} {ps : List Str} {sp : Sp} (F : GnOk P w K mg base j f fd ps sp) (h : j ≤ k) : GnOk P w K mg base k f fd ps sp :=
  ⟨F.n, fun hr hg e b v q => F.go (hr.mono h) hg e b v q⟩
/-- what is promised for every surrounding is promised for these -/
theorem GnOk.of {P : Program} {w : World} {K : PySem.W.Frag} {mg : Str → Option Value} {base : Heap} {k : Nat} {f : Addr} {fd : FuncData} {ps : List Str} {sp : Sp} (F : FnOk P w K mg base (L2.CX P w) k f fd ps sp) : GnOk P w K mg base k f fd ps sp :=
  ⟨fun q => F.len _ _ _ _ q, fun hr _ e b v q => F.run _ _ _ _ _ _ _ _ _ hr e b v q⟩
section
variable {P : Program} {w : World} {K : PySem.W.Frag} {mg : Str → Option Value} {base : Heap} {x qual : Str} {params : Arguments} {body : List Stmt} {scope : Scope} {dvs : List V} {kws : List (Str × V)} {f : Addr} {fd : FuncData}
/-- a def by its body -/
theorem gn_by {N ps : List Str} {k : Nat} {sp : Sp} (F : FunD K x qual params body scope dvs kws f fd) (S : FnScope N ps scope) (len : ∀ vs H Q E, sp vs H Q E → vs.length = ps.length)
    (hb : ∀ (cdv : Value) (A : Around) (out : List Env) (s : Shared) (H : Hp) (vs : List V) (Q : VK) (E : XK), A.guards = some [] → Room k (A.deeper (envOfC qual scope s.heap.objs.size f cdv)) → sp vs H Q E →
      ∃ t, PSs (cxOf (L2.CX P w) P w K mg base N qual scope f cdv A out s H E) body t ∧ t { nx := fun _ H' => Q .non H', rt := Q } (start N vs) H) : GnOk P w K mg base (k + 1) f fd ps sp := by
  obtain ⟨oc, od, dV, kV, doc, pm, an, cdv, ct, osl, rfl, lk, hcd, _, _⟩ := F.ex
  refine ⟨fun q => len _ _ _ _ q, @fun A out s H ar us vs Q E hr hg e0 b r q => ?_⟩
  have kin : K.In s.heap := e0.mod.kin.keeps fun b o e => (e0.bs b o e).1
  have par : ∀ y ∈ ps.zip us, scope.names.lookup y.1 = some .local ∨ (scope.names.lookup y.1 = some .cell ∧ ((cellsFrom (s.heap.objs.size + 1) scope.names []).lookup y.1).isSome = true) := by
    intro y hy
    have hm : y.1 ∈ ps := (List.of_mem_zip (show (y.1, y.2) ∈ ps.zip us from hy)).1
    cases S.par y.1 hm with
    | inl l => exact .inl l
    | inr c => exact .inr ⟨c, PySem.W.cellsFrom_some _ _ _ (.inl c)⟩
  apply codeAny_call_function hr.depth (kin _ _ lk) rfl S.co S.gen rfl (PySem.W.codeRec_of kin hcd) (b _ _ _ _ _)
  apply wpAny_newFunctionEnv_cells S.kind par
  rintro env rfl s1 x1
  refine ⟨(e0.mod.nolimit.keeps fun b o e => (e0.bs b o e).1).keeps x1.toInCall.keep, codeAny_func ?_⟩
  obtain ⟨t, ht, hq⟩ := hb cdv A out s H vs Q E hg (hr.deeper _) q
  have I := inv_start (CX := L2.CX P w) (E := E) S hr.hd e0 (len _ _ _ _ q) r x1
  apply wpAny_mono (ht.run [] s1 (start N vs) H _ I hq) _ fun _ _ z => z
  intro fl s' hs
  cases fl with
  | ret u => obtain ⟨v, σ', H', J, rv, z⟩ := hs; exact ⟨v, H', J.os, J.bare, J.base, J.hok, rv, z⟩
  | next => obtain ⟨σ', H', J, z⟩ := hs; exact ⟨.non, H', J.os, J.bare, J.base, J.hok, rfl, z⟩
  | brk => obtain ⟨_, _, _, z⟩ := hs; exact z.elim
  | cont => obtain ⟨_, _, _, z⟩ := hs; exact z.elim
end
/-- the law's own call: the script stands frozen -/
theorem law_go {P : Program} {w : World} {K : PySem.W.Frag} {mg mb : Str → Option Value} {k : Nat} {fa a : Addr} {fd : FuncData} {x : Str} {sp : Sp} {s : Shared} {vs : List Value} {ns : List Int}
    (KX : K.In s.heap) (hns : s.heap.Ns mainGlobals mg) (hb : s.heap.Ns builtinsNs mb) (hbb : ∀ x : Str, x ≠ "__name__" → mb x = bootBuiltins x) (hlim : s.heap.NoLimit) (hg : s.gens = #[])
    (ha : s.heap.get? a = some { cls := .type "list", data := .seq vs.toArray }) (hi : IntsAre vs ns) (hl : ns.length ≤ sizeLine) (hr : Room k callerA) (hKa : K.lookup a = none)
    (F : ∀ base : Heap, K.In base → base.Ns mainGlobals mg → GnOk P w K mg base k fa fd [x] sp) (hbind : ∀ (s : Shared) (u : Value), BindsTo s fd ⟨[u], []⟩ [(x, u)])
    (hsp : ∀ H : Hp, Only H → SqL K H a (ns.map V.int) → sp [.ref a] H (fun v _ => v = .bl true) fun _ _ _ => False) :
    codeAny (model P w) callerA (.call (.ref fa) ⟨[.ref a], []⟩) (fun r s' => r = .ok (.ret (.bool true)) ∧ OldK s.heap s'.heap ∧ s'.os = s.os ∧ AllBare s'.gens) s := by
  let ob : Obj := { cls := .type "list", data := .seq vs.toArray }
  let H : Hp := fun b => if b = a then some (.frz ob (.lst (ns.map V.int))) else none
  have Ha : H a = some (.frz ob (.lst (ns.map V.int))) := if_pos rfl
  have Hn : ∀ {b : Addr}, b ≠ a → H b = none := fun h => if_neg h
  have rv := vals_ints hi
  have hok : HOk P w H s.heap := fun b u z => by
    by_cases e : b = a
    · subst e
      rw [Ha] at z; cases z
      exact ⟨ha, by rw [List.length_map]; exact hl, vs, _, rv, ha⟩
    · rw [Hn e] at z; cases z
  have other : ∀ {b : Addr} {o : Obj}, s.heap.get? b = some o → b ≠ a → (hidT s.heap H).get? b = some o := fun e ne => hidT_get e (Hn ne)
  have dic : ∀ {b : Addr} {o : Obj} {es : Array DictEntry} {ep : Nat}, s.heap.get? b = some o → o.data = .dict es ep → b ≠ a := fun e d z => by
    subst z
    rw [ha] at e; cases e; cases d
  have ns2 : ∀ {b : Addr} {m : Str → Option Value}, s.heap.Ns b m → (hidT s.heap H).Ns b m := fun ⟨o, es, ep, e, d, r⟩ => ⟨o, es, ep, other e (dic e d), d, r⟩
  have kb : K.In (hidT s.heap H) := fun b o e => other (KX b o e) fun z => by subst z; rw [hKa] at e; cases e
  obtain ⟨mc, c1, c2⟩ := hlim
  have e0 : Env0 P w K mg (hidT s.heap H) callerA [] s H :=
    ⟨rfl, ⟨kb, ns2 hns, ⟨mb, ns2 hb, hbb⟩, ⟨mc, ns2 c1, c2⟩⟩, fun b o e => of_hidT e, Nat.le_of_eq (hidT_size _ _), trivial, fun b z => (by cases z), hok, .of_eq hg⟩
  have only : Only H := fun b => by
    by_cases e : b = a
    · subst e; exact .inr ⟨_, _, Ha⟩
    · exact .inl (Hn e)
  apply codeAny_mono ((F _ kb (ns2 hns)).go hr rfl e0 (hbind s (.ref a)) (.cons (show RelV (.ref a) (.ref a) from rfl) .nil) (hsp H only (.inl (.inr ⟨ob, Ha⟩))))
  intro r s' h
  cases r with
  | error e =>
    obtain ⟨_, _, _, _, _, _, _, _, _, _, _, _, z⟩ := (show L2.CX P w [] H s (fun _ _ _ => False) e s' from h)
    exact z.elim
  | ok fl => cases fl with
    | next => exact h.elim
    | brk => exact h.elim
    | cont => exact h.elim
    | ret u =>
      obtain ⟨v, H', os, bare, un, hok', r', q⟩ := h
      have q : v = .bl true := q
      subst q
      have eu : u = Value.bool true := r'
      refine ⟨by rw [eu], OldK.of_keep fun b o e => ?_, os, bare⟩
      by_cases hba : b = a
      · subst hba
        rw [ha] at e; cases e
        exact (hok' b _ (un.frzs b ob _ Ha)).1
      · exact un.keep b o e (Hn hba) (fun z => by cases z) (by simp)
/-- the same where the script is one of the module's own objects -/
theorem law_go0 {P : Program} {w : World} {K : PySem.W.Frag} {mg mb : Str → Option Value} {k : Nat} {fa a : Addr} {fd : FuncData} {x : Str} {sp : Sp} {s : Shared} {vs : List Value} {ns : List Int} {o : Obj}
    (KX : K.In s.heap) (hns : s.heap.Ns mainGlobals mg) (hb : s.heap.Ns builtinsNs mb) (hbb : ∀ x : Str, x ≠ "__name__" → mb x = bootBuiltins x) (hlim : s.heap.NoLimit) (hg : s.gens = #[])
    (ha : s.heap.get? a = some { cls := .type "list", data := .seq vs.toArray }) (hi : IntsAre vs ns) (hl : ns.length ≤ sizeLine) (hr : Room k callerA) (hKa : K.lookup a = some o)
    (F : ∀ base : Heap, K.In base → base.Ns mainGlobals mg → GnOk P w K mg base k fa fd [x] sp) (hbind : ∀ (s : Shared) (u : Value), BindsTo s fd ⟨[u], []⟩ [(x, u)])
    (hsp : ∀ H : Hp, Only H → SqL K H a (ns.map V.int) → sp [.ref a] H (fun v _ => v = .bl true) fun _ _ _ => False) :
    codeAny (model P w) callerA (.call (.ref fa) ⟨[.ref a], []⟩) (fun r s' => r = .ok (.ret (.bool true)) ∧ OldK s.heap s'.heap ∧ s'.os = s.os ∧ AllBare s'.gens) s := by
  have rv := vals_ints hi
  have lv := hi.length
  have ea := KX a o hKa
  rw [ha] at ea
  have eo := Option.some.inj ea
  subst eo
  let H : Hp := fun _ => none
  have e0 : Env0 P w K mg s.heap callerA [] s H :=
    ⟨rfl, ⟨KX, hns, ⟨mb, hb, hbb⟩, hlim⟩, fun b o e => ⟨e, rfl⟩, Nat.le_refl _, trivial, fun b z => (by cases z), fun b u z => (by cases z), .of_eq hg⟩
  have sq : SqL K H a (ns.map V.int) := .inr ⟨_, vs.toArray, _, hKa, rfl, rfl, rfl, by rw [List.size_toArray, lv]; exact hl, by simpa using rv⟩
  apply codeAny_mono ((F _ KX hns).go hr rfl e0 (hbind s (.ref a)) (.cons (show RelV (.ref a) (.ref a) from rfl) .nil) (hsp H (fun _ => .inl rfl) sq))
  intro r s' h
  cases r with
  | error e =>
    obtain ⟨_, _, _, _, _, _, _, _, _, _, _, _, z⟩ := (show L2.CX P w [] H s (fun _ _ _ => False) e s' from h)
    exact z.elim
  | ok fl => cases fl with
    | next => exact h.elim
    | brk => exact h.elim
    | cont => exact h.elim
    | ret u =>
      obtain ⟨v, H', os, bare, un, hok', r', q⟩ := h
      have q : v = .bl true := q
      subst q
      have eu : u = Value.bool true := r'
      exact ⟨by rw [eu], OldK.of_keep fun b o e => un.keep b o e rfl (fun z => by cases z) (by simp), os, bare⟩
theorem walk_gn {l : PySem.W.OpenLaw} {n k : Nat} {q : Program} {loose : List Str} {XP : (Str → Option Value) → Heap → Prop} {YP : World → Heap → Prop} {d : DefRec} {x : Str}
    (hn : l.most = some n) (hn2 : n ≤ sizeLine) (hdf : d.params.defaults = []) (hr : Room k callerA)
    (F : ∀ (w : World) (mg : Str → Option Value) (fa : Addr) (h : Heap), YP w h → h.Ns mainGlobals mg → mg d.name = some (.ref fa) →
      ∃ (K : PySem.W.Frag) (fd : FuncData) (sp : Sp), K.In h ∧ (∀ (s : Shared) (u : Value), BindsTo s fd ⟨[u], []⟩ [(x, u)]) ∧
        (∀ (H : Hp) (a : Addr) (ns : List Int), ns.length ≤ n → Only H → SqL K H a (ns.map V.int) → sp [.ref a] H (fun v _ => v = .bl true) fun _ _ _ => False) ∧
        ∀ base : Heap, K.In base → base.Ns mainGlobals mg → GnOk l.prog w K mg base k fa fd [x] sp) :
    PySem.W.WalkO q loose XP YP l.row.toRowW d [] (fun f vs => PySem.call f vs) := by
  refine Att.attach_call hn hdf fun w s₀ s₁ mg mb fa o pm cd doc a vs ns G Y ho hd hcd hmg hobj hints hlen hg => ?_
  obtain ⟨K, fd, sp, KX, hb, hsp, hF⟩ := F w mg fa _ Y G.T.g hmg
  cases hk : K.lookup a with
  | none => exact law_go KX G.T.g G.T.b G.T.builtins G.T.nolimit hg hobj hints (Nat.le_trans hlen hn2) hr hk hF hb fun H hO hS => hsp H a ns hlen hO hS
  | some o => exact law_go0 KX G.T.g G.T.b G.T.builtins G.T.nolimit hg hobj hints (Nat.le_trans hlen hn2) hr hk hF hb fun H hO hS => hsp H a ns hlen hO hS
end KR

end
section
set_option Elab.async false
set_option linter.all false
set_option maxRecDepth 100000
set_option genSizeOf false
set_option maxHeartbeats 2000000
/-! Calls between defs. -/
namespace KR
open PySem PySem.Spec PyProof.Rows L2

def ArOk (K : PySem.W.Frag) (A : Act) (B : Hp) : Ar → V → Prop
  | .d x, v => Rp K B x v
  | .dk, v => ∃ p, v = .ref p ∧ A.dp = some p
def ArAll (K : PySem.W.Frag) (A : Act) (B : Hp) : List Ar → List V → Prop
  | [], vs => vs = []
  | a :: as, vs => ∃ v us, vs = v :: us ∧ ArOk K A B a v ∧ ArAll K A B as us
theorem ArAll.length {K : PySem.W.Frag} {A : Act} {B : Hp} : ∀ {as : List Ar} {vs : List V}, ArAll K A B as vs → vs.length = as.length
  | [], _, e => by rw [show _ = [] from e]; rfl
  | _ :: _, _, ⟨v, us, e, _, h⟩ => by subst e; rw [List.length_cons, List.length_cons, ArAll.length h]
theorem ArOk.mono {K : PySem.W.Frag} {A : Act} {B B' : Hp} (h : Sub B B') {a : Ar} {v : V} (x : ArOk K A B a v) : ArOk K A B' a v := by
  cases a with
  | d x' => exact Rp.mono h x
  | dk => exact x
theorem ArAll.mono {K : PySem.W.Frag} {A : Act} {B B' : Hp} (h : Sub B B') : ∀ {as : List Ar} {vs : List V}, ArAll K A B as vs → ArAll K A B' as vs
  | [], _, e => e
  | _ :: _, _, ⟨v, us, e, x, r⟩ => ⟨v, us, e, x.mono h, r.mono h⟩
theorem ArAll.act {K : PySem.W.Frag} {A A' : Act} {B : Hp} (h : A'.dp = A.dp) : ∀ {as : List Ar} {vs : List V}, ArAll K A B as vs → ArAll K A' B as vs
  | [], _, e => e
  | .d _ :: _, _, ⟨v, us, e, x, r⟩ => ⟨v, us, e, x, r.act h⟩
  | .dk :: _, _, ⟨v, us, e, ⟨p, e1, e2⟩, r⟩ => ⟨v, us, e, ⟨p, e1, h.trans e2⟩, r.act h⟩
/-- the promise that a contract makes -/
def lift (L : Lay) (S : DSpec) : Sp := fun vs H Q E => vs.length = S.ps.length ∧ ∃ (A : Act) (B : Hp) (as : List Ar) (Qd : R → Prop) (Ed : Ex → Prop), StOk L.W L.K A B [] [] H ∧ ArAll L.K A B as vs ∧ S.wp as Qd Ed ∧
  (∀ v H' r B', StOk L.W L.K A B' [] [] H' → Sub B B' → ResOk L.W L.K A B' [] [] H' r v → Qd r → Q v H') ∧
  (∀ x c d B' H', StOk L.W L.K A B' [] [] H' → ExV L.K L.cad B' H' x c d → Ed x → E c d H')
section
variable {W : Wld} {K : PySem.W.Frag} {A A' : Act} {B B' H H' : Hp} {ρ ρ' : En} {σ σ' : L2.St} {p : Addr} {v w : V} {d d' : D} {r q : R} {i : Nat}
theorem dataOf_frz (e : ρ[i]? = some (.ow d)) (r : R) : dataOf (ρ.set i (.im d)) r = dataOf ρ r := by
  cases r with
  | br j =>
    have hi : i < ρ.length := (List.getElem?_eq_some_iff.mp e).1
    show (match (ρ.set i (.im d))[j]? with | some (.ow d) => some d | some (.im d) => some d | _ => none) = (match ρ[j]? with | some (.ow d) => some d | some (.im d) => some d | _ => none)
    by_cases hj : i = j
    · subst hj; rw [List.getElem?_set_self hi, e]
    · rw [List.getElem?_set_ne hj]
  | _ => rfl
theorem argsOf_frz (e : ρ[i]? = some (.ow d)) : ∀ {rs : List R} {Kd : List Ar → Prop}, argsOf ρ rs Kd → argsOf (ρ.set i (.im d)) rs Kd
  | [], _, w => w
  | r :: rs, Kd, w => by
    have go : ∀ {Kd' : D → Prop}, peek ρ r Kd' → peek (ρ.set i (.im d)) r Kd' := fun {Kd'} h => by
      unfold peek at h ⊢
      rw [dataOf_frz e r]; exact h
    cases r with
    | dk => exact argsOf_frz e (rs := rs) w
    | im x => exact argsOf_frz e (rs := rs) w
    | fr x => exact argsOf_frz e (rs := rs) w
    | br j =>
      have w : peek ρ (.br j) fun d => argsOf ρ rs fun as => Kd (.d d :: as) := w
      show peek (ρ.set i (.im d)) (.br j) fun x => argsOf (ρ.set i (.im d)) rs fun as => Kd (.d x :: as)
      have h := go w
      unfold peek at h ⊢
      cases q : dataOf (ρ.set i (.im d)) (.br j) with
      | none => rw [q] at h; exact h.elim
      | some x => rw [q] at h; exact argsOf_frz e h
/-- the arguments frozen -/
theorem frz_ok : ∀ {rs : List R} {vs : List V} {A' : Act} {B : Hp} {ρ : En} {Kd : List Ar → Prop}, StOk W K A B ρ σ H → AExt A A' → ResAll W K B ρ σ H A' rs vs → argsOf ρ rs Kd →
    ∃ as B', StOk W K A B' (frzB ρ rs) σ H ∧ Sub B B' ∧ ArAll K A B' as vs ∧ Kd as ∧ (∀ a, Own σ (frzB ρ rs) a → Own σ ρ a) ∧ ∀ a, Own σ ρ a → Own σ (frzB ρ rs) a ∨ B' a ≠ none
  | [], _, A', B, ρ, Kd, S, _, e, w => ⟨[], B, S, Sub.refl _, e, w, fun _ z => z, fun _ z => .inl z⟩
  | .dk :: rs, _, A', B, ρ, Kd, S, ex, ⟨v, us, e, x, xs⟩, w => by
    subst e
    have xs : ResAll W K B ρ σ H A' rs us := by rw [show A'.hold H .dk v = A' from hold_dk] at xs; exact xs
    obtain ⟨as, B1, S1, s1, x1, w1, o1, o2⟩ := frz_ok (Kd := fun as => Kd (.dk :: as)) S ex xs w
    obtain ⟨p, e1, e2⟩ := x
    exact ⟨.dk :: as, B1, S1, s1, ⟨v, us, rfl, ⟨p, e1, ex.dp ▸ e2⟩, x1⟩, w1, o1, o2⟩
  | .im d :: rs, _, A', B, ρ, Kd, S, ex, ⟨v, us, e, x, xs⟩, w => by
    subst e
    have xs : ResAll W K B ρ σ H A' rs us := by rw [show A'.hold H (.im d) v = A' from hold_im] at xs; exact xs
    obtain ⟨as, B1, S1, s1, x1, w1, o1, o2⟩ := frz_ok (Kd := fun as => Kd (.d d :: as)) S ex xs w
    exact ⟨.d d :: as, B1, S1, s1, ⟨v, us, rfl, Rp.mono s1 x, x1⟩, w1, o1, o2⟩
  | .fr d :: rs, _, A', B, ρ, Kd, S, ex, ⟨v, us, e, x, xs⟩, w => by
    subst e
    obtain ⟨d', ρ1, B0, S0, s0, x0, w0, o0, n0⟩ := take_ok (Kd := fun d' ρ' => d' = d ∧ ρ' = ρ) S (ex.res x) ⟨rfl, rfl⟩
    obtain ⟨rfl, rfl⟩ := w0
    have xs' := res_keep_all s0 (fun a z => z) (fun a ha => by
      rcases n0 a ha with z | z | z
      · exact .inl z
      · exact .inr (.inl (ex.hold2 x z))
      · exact .inr (.inr z)) xs
    obtain ⟨as, B1, S1, s1, x1, w1, o1, o2⟩ := frz_ok (Kd := fun as => Kd (.d d' :: as)) S0 (ex.hold x) xs' w
    exact ⟨.d d' :: as, B1, S1, s0.trans s1, ⟨v, us, rfl, Rp.mono s1 x0, x1⟩, w1, o1, o2⟩
  | .br i :: rs, _, A', B, ρ, Kd, S, ex, ⟨v, us, e, x, xs⟩, w => by
    subst e
    have xs : ResAll W K B ρ σ H A' rs us := by rw [show A'.hold H (.br i) v = A' from hold_br] at xs; exact xs
    have x : σ[i]? = some (some v) := x
    have w : peek ρ (.br i) fun d => argsOf ρ rs fun as => Kd (.d d :: as) := w
    unfold peek at w
    cases e : ρ[i]? with
    | none => rw [show dataOf ρ (.br i) = none by show (match ρ[i]? with | some (.ow d) => some d | some (.im d) => some d | _ => none) = none; rw [e]] at w; exact w.elim
    | some s =>
      cases s with
      | no => rw [show dataOf ρ (.br i) = none by show (match ρ[i]? with | some (.ow d) => some d | some (.im d) => some d | _ => none) = none; rw [e]] at w; exact w.elim
      | dk => rw [show dataOf ρ (.br i) = none by show (match ρ[i]? with | some (.ow d) => some d | some (.im d) => some d | _ => none) = none; rw [e]] at w; exact w.elim
      | im d =>
        rw [show dataOf ρ (.br i) = some d by show (match ρ[i]? with | some (.ow d) => some d | some (.im d) => some d | _ => none) = some d; rw [e]] at w
        obtain ⟨u, e1, r⟩ := S.sl i _ e
        rw [x] at e1; cases e1
        have ef : frzB ρ (.br i :: rs) = frzB ρ rs := by
          show (match ρ[i]? with | some (.ow d) => frzB (ρ.set i (.im d)) rs | _ => frzB ρ rs) = _
          rw [e]
        rw [ef]
        obtain ⟨as, B1, S1, s1, x1, w1, o1, o2⟩ := frz_ok (Kd := fun as => Kd (.d d :: as)) S ex xs w
        exact ⟨.d d :: as, B1, S1, s1, ⟨v, us, rfl, Rp.mono s1 r, x1⟩, w1, o1, o2⟩
      | ow d =>
        rw [show dataOf ρ (.br i) = some d by show (match ρ[i]? with | some (.ow d) => some d | some (.im d) => some d | _ => none) = some d; rw [e]] at w
        obtain ⟨p, o, e1, e2, ho, S0, n1⟩ := S.frzSlot e
        rw [x] at e1; cases e1
        have ef : frzB ρ (.br i :: rs) = frzB (ρ.set i (.im d)) rs := by
          show (match ρ[i]? with | some (.ow d) => frzB (ρ.set i (.im d)) rs | _ => frzB ρ rs) = _
          rw [e]
        rw [ef]
        have s0 : Sub B (upd B p o) := Sub.new n1
        have own : Own σ ρ p := ⟨i, d, e, x⟩
        have nn : ∀ a, (upd B p o) a ≠ none → B a ≠ none ∨ Own σ ρ a := fun a ha => by
          by_cases z : a = p
          · subst z; exact .inr own
          · rw [upd_ne z] at ha; exact .inl ha
        have xs' := res_keep_all s0 (own_set_im e) (fun a ha => (nn a ha).elim .inl fun z => .inr (.inr z)) xs
        obtain ⟨as, B1, S1, s1, x1, w1, o1, o2⟩ := frz_ok (Kd := fun as => Kd (.d d :: as)) S0 ex xs' (argsOf_frz e w)
        refine ⟨.d d :: as, B1, S1, s0.trans s1, ⟨_, us, rfl, Rp.mono s1 ((ho.mono s0).rp (Sub.refl _) upd_same), x1⟩, w1, fun a ha => own_set_im e a (o1 a ha), fun a ha => ?_⟩
        by_cases z : a = p
        · subst z
          exact .inr (by rw [s1 a o upd_same]; simp)
        · refine o2 a ?_
          obtain ⟨j, f, q1, q2⟩ := ha
          have hj : i ≠ j := fun h => by subst h; rw [x] at q2; cases q2; exact z rfl
          exact ⟨j, f, by rw [List.getElem?_set_ne hj]; exact q1, q2⟩
open Classical in
/-- the callee's entry -/
noncomputable def Act.in (A : Act) (B : Hp) (σ : L2.St) (ρ : En) (H : Hp) : Act := { B0 := B, U0 := fun a => if A.U0 a ≠ none ∨ Own σ ρ a then H a else none, H0 := H, dp := A.dp }
theorem in_st (S : StOk W K A B ρ σ H) : StOk W K (A.in B σ ρ H) B [] [] H := by
  refine ⟨Sub.refl _, fun a o e => .inl e, fun a o e _ => e, S.bh, fun a o e => ?_, fun a e => e, fun i s e => by simp at e, fun i j d e a q => by simp at q, fun q e => W.less (S.wd q e) fun a ha => ?_, rfl⟩
  · unfold Act.in at e
    dsimp only at e
    split at e
    · exact e
    · cases e
  · rcases ha with ha | ha | ⟨i, d, e, _⟩
    · unfold Act.in at ha
      dsimp only at ha
      split at ha
      · rename_i h
        exact h.elim .inl fun z => .inr (.inr z)
      · exact absurd rfl ha
    · exact .inr (.inl ha)
    · simp at e
/-- behind the call -/
theorem in_U (h : A.U0 p ≠ none ∨ Own σ ρ p) : (A.in B σ ρ H).U0 p = H p := if_pos h
theorem out_st (S : StOk W K A B ρ σ H) (T : StOk W K (A.in B σ ρ H) B' [] [] H') (sb : Sub B B') : StOk W K A B' ρ σ H' := by
  have keep : ∀ {a o}, A.U0 a ≠ none ∨ Own σ ρ a → H a = some o → H' a = some o := fun h e => T.uh _ _ (by rw [in_U h]; exact e)
  refine ⟨S.b0.trans sb, fun a o e => ?_, fun a o e ne => ?_, T.bh, fun a o e => keep (.inl (by rw [e]; simp)) (S.uh _ _ e), fun a e => S.hh a (T.hh a e), fun i s e => ?_, S.one, fun q e => W.less (T.wd q e) fun a ha => ?_, S.len⟩
  · rcases T.new a o e with z | z
    · exact S.new a o z
    · exact .inr (S.hh a z)
  · refine S.bu a o (T.bu a o e ?_) ne
    rw [in_U (.inl ne)]
    cases q : A.U0 a with
    | none => exact absurd q ne
    | some u => rw [S.uh a u q]; simp
  · have sl := S.sl i s e
    cases s with
    | no => trivial
    | im d => obtain ⟨v, e1, r⟩ := sl; exact ⟨v, e1, r.mono sb⟩
    | ow d =>
      obtain ⟨p, o, e1, e2, ho, m1, m2, m3⟩ := sl
      have ow : Own σ ρ p := ⟨i, d, e, e1⟩
      refine ⟨p, o, e1, keep (.inr ow) e2, ho.mono sb, ?_, m2, m3⟩
      cases q : B' p with
      | none => rfl
      | some u =>
        have z : B p = some u := T.bu p u q (by rw [in_U (.inr ow), e2]; simp)
        rw [m1] at z; cases z
    | dk => exact sl
  · rcases ha with ha | ha | ha
    · left
      rw [in_U (.inl ha)]
      cases q : A.U0 a with
      | none => exact absurd q ha
      | some u => rw [S.uh a u q]; simp
    · exact .inr (.inl ha)
    · left
      rw [in_U (.inr ha)]; exact (S.own ha).1
theorem out_res (S : StOk W K A B ρ σ H) (T : StOk W K (A.in B σ ρ H) B' [] [] H') (x : ResOk W K (A.in B σ ρ H) B' [] [] H' r v) : ResOk W K A B' ρ σ H' r v := by
  cases r with
  | im d => exact x
  | fr d =>
    obtain ⟨p, o, e, e1, ho, n1, n2, n3, _, n5⟩ := x
    have n3 : H p = none := n3
    obtain ⟨f1, f2, f3, f4⟩ := S.fresh n3
    refine ⟨p, o, e, e1, ho, n1, f2, f3, f4, fun q hq => W.less (n5 q hq) fun a ha => ?_⟩
    rcases ha with (ha | ha | ha) | ha
    · refine .inl (.inl ?_)
      rw [in_U (.inl ha)]
      cases q : A.U0 a with
      | none => exact absurd q ha
      | some u => rw [S.uh a u q]; simp
    · exact .inl (.inr (.inl ha))
    · refine .inl (.inl ?_)
      rw [in_U (.inr ha)]; exact (S.own ha).1
    · exact .inr ha
  | br i => exact absurd (show ([] : L2.St)[i]? = some (some v) from x) (by simp)
  | dk => exact x
/-- behind a call that kept nothing: what was lent is given back -/
theorem back_st {Bz : Hp} {ρz : En} (S : StOk W K A B ρ σ H) (Sz : StOk W K A Bz ρz σ H) (sz : Sub B Bz) (o2 : ∀ a, Own σ ρ a → Own σ ρz a ∨ Bz a ≠ none) (T : StOk W K (A.in Bz σ ρz H) B' [] [] H') (sb : Sub Bz B') : StOk W K A B ρ σ H' := by
  have U := out_st Sz T sb
  have keep : ∀ {a o}, Own σ ρ a → H a = some o → H' a = some o := fun {a o} h e => by
    rcases o2 a h with z | z
    · exact T.uh _ _ (by rw [in_U (.inr z)]; exact e)
    · cases q : Bz a with
      | none => exact absurd q z
      | some u =>
        have e' := Sz.bh a u q
        rw [e] at e'; cases e'
        exact T.bh _ _ (sb _ _ q)
  refine ⟨S.b0, S.new, S.bu, (sz.trans sb).trans T.bh, U.uh, U.hh, fun i s e => ?_, S.one, fun q e => W.less (T.wd q e) fun a ha => ?_, S.len⟩
  · have sl := S.sl i s e
    cases s with
    | no => trivial
    | im d => exact sl
    | ow d =>
      obtain ⟨p, o, e1, e2, r⟩ := sl
      exact ⟨p, o, e1, keep ⟨i, d, e, e1⟩ e2, r⟩
    | dk => exact sl
  · rcases ha with ha | ha | ha
    · left
      rw [in_U (.inl ha)]
      cases q : A.U0 a with
      | none => exact absurd q ha
      | some u => rw [S.uh a u q]; simp
    · refine .inr (.inl ?_)
      cases q : B a with
      | none => exact absurd q ha
      | some u => rw [sb _ _ (sz _ _ q)]; simp
    · rcases o2 a ha with z | z
      · left; rw [in_U (.inr z)]; exact (Sz.own z).1
      · refine .inr (.inl ?_)
        cases q : Bz a with
        | none => exact absurd q z
        | some u => rw [sb _ _ q]; simp
theorem flat_res (h : flatR r = true) (x : ResOk W K A' B' ρ' σ' H' r v) : ResOk W K A B ρ σ H r v := by
  cases r with
  | im d => cases d <;> first | exact x | exact absurd h Bool.false_ne_true
  | _ => cases h
end
end KR

end
section
set_option Elab.async false
set_option linter.all false
set_option maxRecDepth 100000
set_option genSizeOf false
set_option maxHeartbeats 2000000
/-! Calls of defs by their contracts; a def's body under its contract. -/
namespace KR
open PySem PySem.Spec PyProof.Rows L2

/-- how a call by keywords alone binds -/
def KB (K : PySem.W.Frag) (fd : FuncData) (ps ks : List Str) : Prop := ∀ (s : Shared) (ws : List Value), K.In s.heap → ws.length = ks.length → (pickK ps ks ws).length = ps.length → BindsTo s fd ⟨[], ks.zip ws⟩ (ps.zip (pickK ps ks ws))
/-- what is proved of the defs -/
def FnsOk (P : Program) (w : World) (L : Lay) (mg : Str → Option Value) (base : Heap) (k : Nat) (fns : List (Str × DSpec)) (fks : List (Str × List Str)) : Prop :=
  ∀ x S, fns.lookup x = some S → ∃ f fd, GnOk P w L.K mg base k f fd S.ps (lift L S) ∧ mg x = some (.ref f) ∧ PySem.W.keepIn L.K (.ref f) = true ∧ Binds L.K fd S.ps [] ∧ ∀ ks, (x, ks) ∈ fks → KB L.K fd S.ps ks
theorem pickK_vals {ps ks : List Str} {vs : List V} {us : List Value} (r : Vals vs us) : Vals (pickK ps ks vs) (pickK ps ks us) := by
  have look : ∀ (ks : List Str) (p : Str) {vs : List V} {us : List Value}, Vals vs us → ((ks.zip vs).lookup p = none ∧ (ks.zip us).lookup p = none) ∨ ∃ v u, (ks.zip vs).lookup p = some v ∧ (ks.zip us).lookup p = some u ∧ RelV v u := fun ks => by
    induction ks with
    | nil => exact fun p vs us r => .inl ⟨rfl, rfl⟩
    | cons k ks ih =>
      intro p vs us r
      cases r with
      | nil => exact .inl ⟨rfl, rfl⟩
      | cons h t =>
        rw [List.zip_cons_cons, List.zip_cons_cons, List.lookup_cons, List.lookup_cons]
        cases p == k with
        | true => exact .inr ⟨_, _, rfl, rfl, h⟩
        | false => exact ih p t
  unfold pickK
  induction ps with
  | nil => exact .nil
  | cons p ps ih =>
    rw [List.filterMap_cons, List.filterMap_cons]
    rcases look ks p r with ⟨e1, e2⟩ | ⟨v, u, e1, e2, h⟩
    · rw [e1, e2]; exact ih
    · rw [e1, e2]; exact .cons h ih
theorem zipk_look {α β : Type} (f : α → β → Prop) : ∀ (ks : List Str) (as : List α) (vs : List β) (p : Str), as.length = vs.length → (∀ (i : Nat) (a : α) (v : β), as[i]? = some a → vs[i]? = some v → f a v) →
    ((ks.zip as).lookup p = none ∧ (ks.zip vs).lookup p = none) ∨ ∃ a v, (ks.zip as).lookup p = some a ∧ (ks.zip vs).lookup p = some v ∧ f a v
  | [], _, _, _, _, _ => .inl ⟨rfl, rfl⟩
  | _ :: _, [], [], _, _, _ => .inl ⟨rfl, rfl⟩
  | _ :: _, [], _ :: _, _, h, _ => by cases h
  | _ :: _, _ :: _, [], _, h, _ => by cases h
  | k :: ks, a :: as, v :: vs, p, hl, h => by
    rw [List.zip_cons_cons, List.zip_cons_cons, List.lookup_cons, List.lookup_cons]
    cases p == k with
    | true => exact .inr ⟨a, v, rfl, rfl, h 0 a v rfl rfl⟩
    | false => exact zipk_look f ks as vs p (by simpa using hl) fun i a v h1 h2 => h (i + 1) a v (by simpa using h1) (by simpa using h2)
theorem ArAll.get {K : PySem.W.Frag} {A : Act} {B : Hp} : ∀ {as : List Ar} {vs : List V}, ArAll K A B as vs → ∀ (i : Nat) (a : Ar) (v : V), as[i]? = some a → vs[i]? = some v → ArOk K A B a v
  | [], _, _, i, a, v, h, _ => by simp at h
  | _ :: _, _, ⟨x, us, e, h1, h2⟩, 0, a, v, q1, q2 => by subst e; simp at q1 q2; subst q1; subst q2; exact h1
  | _ :: _, _, ⟨x, us, e, h1, h2⟩, i + 1, a, v, q1, q2 => by subst e; exact h2.get i a v (by simpa using q1) (by simpa using q2)
theorem pickK_ars {K : PySem.W.Frag} {A : Act} {B : Hp} {ps ks : List Str} {as : List Ar} {vs : List V} (r : ArAll K A B as vs) : ArAll K A B (pickK ps ks as) (pickK ps ks vs) := by
  unfold pickK
  induction ps with
  | nil => rfl
  | cons p ps ih =>
    rw [List.filterMap_cons, List.filterMap_cons]
    rcases zipk_look (ArOk K A B) ks as vs p r.length.symm r.get with ⟨e1, e2⟩ | ⟨a, v, e1, e2, h⟩
    · rw [e1, e2]; exact ih
    · rw [e1, e2]; exact ⟨v, _, rfl, h, ih⟩
section
variable {L : Lay} {Ed : Ex → En → Prop} {Wx : WX} {X : Cx} {es : IEs} {x : Str} {p pos : Pos} {e : Expr} {xs : List Expr} {S : DSpec} {k : Nat} {f : Addr} {fd : FuncData}
theorem gn_run {pins : List (Addr × Obj)} {σ : L2.St} {H : Hp} {s : Shared} {Q : VK} {us us' : List Value} {kw : List (Str × Value)} {vs : List V} {ps : List Str} {sp : Sp} (G : GnOk X.prog X.w X.K X.mg X.base k f fd ps sp) (hr : Room k X.A) (hgd : X.A.guards = some []) (hp : PassesAt (L2.CX X.prog X.w) X σ (WE Wx σ))
    (I : L2.Inv X pins σ H s) (b : BindsTo s fd ⟨us, kw⟩ (ps.zip us')) (r : Vals vs us') (h : sp vs H Q (WE Wx σ)) : wpAny (model X.prog X.w) X.A (call (.ref f) us kw) (EP X pins σ Q) X.xe s := by
  apply wpAny_call
  apply codeAny_mono (G.go hr hgd I.env0 b r h)
  intro r s' hq
  cases r with
  | error e => exact hp pins H s e s' I hq
  | ok fl => cases fl with
    | ret u => exact I.after hq
    | _ => exact hq.elim
/-- behind the arguments -/
theorem call_go {A : Act} {B : Hp} {ρ : En} {σ : L2.St} {H1 : Hp} {rs : List R} {vs : List V} {Q : VK} {Qd : R → En → Prop} {pk : {α : Type} → List α → List α} (hpk : ∀ {A B as vs}, ArAll L.K A B as vs → ArAll L.K A B (pk as) (pk vs)) (hl : (pk vs).length = S.ps.length)
    (S1 : StOk L.W L.K A B ρ σ H1) (x1 : ResAll L.W L.K B ρ σ H1 A rs vs) (w : argsOf ρ rs fun as => S.wp (pk as) (fun r => if S.keep = true then flatR r = true ∧ Qd r ρ else Qd r (frzB ρ rs)) (fun x => Ed x (frzB ρ rs)))
    (ex : ExC L.W L.K L.cad A Ed Wx σ) (k : ∀ v H' r ρ' B', StOk L.W L.K A B' ρ' σ H' → Sub B B' → ResOk L.W L.K A B' ρ' σ H' r v → Qd r ρ' → Q v H') : lift L S (pk vs) H1 Q (WE Wx σ) := by
  obtain ⟨as, Bz, Sz, sz, az, wz, o1, o2⟩ := frz_ok S1 (AExt.refl A) x1 w
  refine ⟨hl, A.in Bz σ (frzB ρ rs) H1, Bz, pk as, _, _, in_st Sz, hpk (ArAll.act (A := A) (A' := A.in Bz σ (frzB ρ rs) H1) rfl az), wz, fun v H' r B' T sb y q => ?_, fun x c d B' H' T xv q => ex x c d _ B' H' (out_st Sz T T.b0) xv q⟩
  by_cases hk : S.keep = true
  · rw [if_pos hk] at q
    exact k v H' r ρ B (back_st S1 Sz sz o2 T sb) (Sub.refl _) (flat_res q.1 y) q.2
  · rw [if_neg hk] at q
    exact k v H' r _ B' (out_st Sz T sb) (sz.trans sb) (out_res Sz T y) q
theorem kpe_call (hK : X.K = L.K) (G : GnOk X.prog X.w X.K X.mg X.base k f fd S.ps (lift L S)) (hr : Room k X.A) (hgd : X.A.guards = some []) (hp : ∀ σ, PassesAt (L2.CX X.prog X.w) X σ (WE Wx σ)) (hg : Gl X x) (hm : X.mg x = some (.ref f)) (hk : PySem.W.keepIn X.K (.ref f) = true) (hb : Binds X.K fd S.ps [])
    (hs : L.Γ.fns.lookup x = some S) (ha : PA X (e :: xs) (tEs L Ed Wx es)) (hdb : (x == ("__debug__" : Str)) = false) (he : starEach (e :: xs) X.env = (false, eval e X.env) :: starEach xs X.env) (hpl : (backTo pos (starEach xs X.env)).any (·.1) = false) :
    PE X (.Call (.Name x p) (e :: xs) [] pos) (tE L Ed Wx (.call x es)) := by
  refine ⟨fun pins s σ H Q I ⟨A, B, ρ, Qd, S0, w, ex, kk⟩ => ?_⟩
  have w : (match L.Γ.fns.lookup x with
    | some S => wpEs L.Γ Ed es ρ fun rs ρ1 => rs.length = S.ps.length ∧ argsOf ρ1 rs fun as => S.wp as (fun r => if S.keep = true then flatR r = true ∧ Qd r ρ1 else Qd r (frzB ρ1 rs)) (fun x => Ed x (frzB ρ1 rs))
    | none => False) := w
  rw [hs] at w
  apply wpAny_Call_Name_kw (ld_glob I hg hm _ hdb)
  refine PySem.W.callWith_K (h₀ := X.base) I.ok.mod.kin hk (thn (ha.run pos pins s σ H (fun vs H1 => lift L S vs H1 Q (WE Wx σ)) I ⟨A, B, ρ, _, S0, w, ex, fun vs H1 rs ρ1 B1 S1 s1 x1 w1 => ?_⟩) fun us s1 ⟨vs, H1, I1, r, q⟩ => ⟨I1.kIn, ?_⟩) he hpl
  · exact call_go (pk := fun l => l) (fun h => h) (x1.length.trans w1.1) S1 x1 w1.2 ex fun v H' r ρ' B' S' sb x' w' => kk v H' r ρ' B' S' (s1.trans sb) x' w'
  · have hl : us.length = S.ps.length := r.length.symm.trans q.1
    have b := hb s1 us I1.kIn (by rw [List.append_nil]; exact hl)
    rw [List.append_nil] at b
    exact gn_run G hr hgd (hp σ) I1 b r q
theorem kpe_callk {kws : List Keyword} {ks : List Str} (hK : X.K = L.K) (G : GnOk X.prog X.w X.K X.mg X.base k f fd S.ps (lift L S)) (hr : Room k X.A) (hgd : X.A.guards = some []) (hp : ∀ σ, PassesAt (L2.CX X.prog X.w) X σ (WE Wx σ)) (hg : Gl X x) (hm : X.mg x = some (.ref f)) (hk : PySem.W.keepIn X.K (.ref f) = true)
    (hb : KB X.K fd S.ps ks) (hs : L.Γ.fns.lookup x = some S) (ha : PK X kws (tEs L Ed Wx es)) (hdb : (x == ("__debug__" : Str)) = false) (hall : (backToKw pos (keywordEach kws X.env)).all (·.1.isSome) = true) (hks : (backToKw pos (keywordEach kws X.env)).filterMap (·.1) = ks)
    (hpl : ((backTo pos (starEach [] X.env)).any (·.1) || (backToKw pos (keywordEach kws X.env)).any (·.1.isNone)) = false) :
    PE X (.Call (.Name x p) [] kws pos) (tE L Ed Wx (.callk x ks es)) := by
  refine ⟨fun pins s σ H Q I ⟨A, B, ρ, Qd, S0, w, ex, kk⟩ => ?_⟩
  have w : (match L.Γ.fns.lookup x with
    | some S => wpEs L.Γ Ed es ρ fun rs ρ1 => (rs.length = ks.length ∧ (pickK S.ps ks rs).length = S.ps.length) ∧ argsOf ρ1 rs fun as => S.wp (pickK S.ps ks as) (fun r => if S.keep = true then flatR r = true ∧ Qd r ρ1 else Qd r (frzB ρ1 rs)) (fun x => Ed x (frzB ρ1 rs))
    | none => False) := w
  rw [hs] at w
  have pl : ∀ {α β : Type} (as : List α) (bs : List β), as.length = bs.length → (pickK S.ps ks as).length = (pickK S.ps ks bs).length := fun {α β} as bs h => by
    unfold pickK
    induction S.ps with
    | nil => rfl
    | cons p ps ih =>
      rw [List.filterMap_cons, List.filterMap_cons]
      rcases zipk_look (fun _ _ => True) ks as bs p h (fun _ _ _ _ _ => trivial) with ⟨e1, e2⟩ | ⟨a, v, e1, e2, _⟩
      · rw [e1, e2]; exact ih
      · rw [e1, e2]; exact congrArg (· + 1) ih
  apply wpAny_Call_Name_kw (ld_glob I hg hm _ hdb)
  refine PySem.W.callWith_KW0 (h₀ := X.base) I.ok.mod.kin hk hall (thn (ha.run pos pins s σ H (fun vs H1 => vs.length = ks.length ∧ lift L S (pickK S.ps ks vs) H1 Q (WE Wx σ)) I ⟨A, B, ρ, _, S0, w, ex, fun vs H1 rs ρ1 B1 S1 s1 x1 w1 => ⟨x1.length.trans w1.1.1, ?_⟩⟩) fun us s1 ⟨vs, H1, I1, r, l, q⟩ => ⟨I1.kIn, ?_⟩) hpl
  · exact call_go (pk := fun l => pickK S.ps ks l) (fun h => pickK_ars h) ((pl vs rs x1.length).trans w1.1.2) S1 x1 w1.2 ex fun v H' r ρ' B' S' sb x' w' => kk v H' r ρ' B' S' (s1.trans sb) x' w'
  · rw [hks]
    have r2 := pickK_vals (ps := S.ps) (ks := ks) r
    exact gn_run G hr hgd (hp σ) I1 (hb s1 us I1.kIn (r.length.symm.trans l) (r2.length.symm.trans q.1)) r2 q
end
/-! ### a def under its contract -/
def slotA : Ar → Sl
  | .d x => .im x
  | .dk => .dk
def entry (N : List Str) (as : List Ar) : En := as.map slotA ++ List.replicate (N.length - as.length) .no
theorem ArAll.get2 {K : PySem.W.Frag} {A : Act} {B : Hp} : ∀ {as : List Ar} {vs : List V}, ArAll K A B as vs → ∀ (i : Nat) (a : Ar), as[i]? = some a → ∃ v, vs[i]? = some v ∧ ArOk K A B a v
  | [], _, _, i, a, h => by simp at h
  | _ :: _, _, ⟨x, us, e, h1, h2⟩, 0, a, q1 => by subst e; simp at q1; subst q1; exact ⟨x, rfl, h1⟩
  | _ :: _, _, ⟨x, us, e, h1, h2⟩, i + 1, a, q1 => by
    subst e
    obtain ⟨v, e1, e2⟩ := h2.get2 i a (by simpa using q1)
    exact ⟨v, by simpa using e1, e2⟩
theorem entry_st {W : Wld} {K : PySem.W.Frag} {A : Act} {B H : Hp} {N : List Str} {as : List Ar} {vs : List V} (S : StOk W K A B [] [] H) (r : ArAll K A B as vs) : StOk W K A B (entry N as) (L2.start N vs) H := by
  have hl := r.length
  have low : ∀ (i : Nat) (s : Sl), (entry N as)[i]? = some s → s = .no ∨ ∃ a v, as[i]? = some a ∧ s = slotA a ∧ (L2.start N vs)[i]? = some (some v) ∧ ArOk K A B a v := fun i s e => by
    unfold entry at e
    by_cases hi : i < as.length
    · rw [List.getElem?_append_left (by rw [List.length_map]; exact hi), List.getElem?_map] at e
      cases q : as[i]? with
      | none => rw [q] at e; cases e
      | some a =>
        rw [q] at e
        obtain ⟨v, e1, e2⟩ := r.get2 i a q
        refine .inr ⟨a, v, rfl, (Option.some.inj e).symm, ?_, e2⟩
        unfold L2.start
        rw [List.getElem?_append_left (by rw [List.length_map, hl]; exact hi), List.getElem?_map, e1]; rfl
    · rw [List.getElem?_append_right (by rw [List.length_map]; omega), List.getElem?_replicate] at e
      split at e
      · exact .inl (Option.some.inj e).symm
      · cases e
  have noOw : ∀ (i : Nat) (d : D), (entry N as)[i]? ≠ some (.ow d) := fun i d e => by
    rcases low i _ e with h | ⟨a, v, _, h, _⟩
    · cases h
    · cases a <;> cases h
  refine ⟨S.b0, S.new, S.bu, S.bh, S.uh, S.hh, fun i s e => ?_, fun i j d e a q => absurd q (noOw i d), fun q e => W.less (S.wd q e) fun a ha => ?_, ?_⟩
  · rcases low i s e with h | ⟨a, v, _, h, e1, e2⟩
    · rw [h]; trivial
    · rw [h]
      cases a with
      | d x => exact ⟨v, e1, e2⟩
      | dk => obtain ⟨p, rfl, h⟩ := e2; exact ⟨p, e1, h⟩
  · rcases ha with ha | ha | ⟨i, d, e, _⟩
    · exact .inl ha
    · exact .inr (.inl ha)
    · exact absurd e (noOw i d)
  · unfold entry L2.start
    rw [List.length_append, List.length_append, List.length_map, List.length_map, List.length_replicate, List.length_replicate, hl]
def defFin (Qd : R → Prop) : Fin' := { nx := fun _ => Qd (.im .none), rt := Qd, bk := fun _ => False, ct := fun _ => False }
/-- a def keeps its contract: its body is matched (M), and the plain law (hw) holds -/
theorem gn_def {P : Program} {w : World} {L : Lay} {mg : Str → Option Value} {base : Heap} {x qual : Str} {params : Arguments} {body : List Stmt} {scope : Scope} {dvs : List V} {kws : List (Str × V)} {f : Addr} {fd : FuncData} {N : List Str} {k : Nat} {S : DSpec} {ib : ISs}
    (F : FunD L.K x qual params body scope dvs kws f fd) (Sc : FnScope N S.ps scope)
    (hm : ∀ (Ed : Ex → En → Prop) (Wx : WX) (X : Cx), (∀ σ, PassesAt (L2.CX X.prog X.w) X σ (WE Wx σ)) → PassesOwn (model X.prog X.w) X.A X.env X.xe → X.prog = P → X.w = w → X.K = L.K → X.mg = mg → X.base = base → X.N = N → X.env.scope = scope → X.fn = (fun _ => true) → X.calm = true → X.A.guards = some [] → Room k X.A → PSs X body (tSs L Ed Wx ib))
    (hw : ∀ as Qd Ed, as.length = S.ps.length → S.wp as Qd Ed → wpSs L.Γ (fun x _ => Ed x) ib (entry N as) (defFin Qd)) : GnOk P w L.K mg base (k + 1) f fd S.ps (lift L S) := by
  refine gn_by F Sc (fun vs H Q E h => h.1) fun cdv A out s H vs Q E hg hr h => ?_
  obtain ⟨hl, A0, B, as, Qd, Ed, St, ar, wp, kq, ke⟩ := h
  let X := cxOf (L2.CX P w) P w L.K mg base N qual scope f cdv A out s H E
  have tk : Takes X (fun c d _ H => E c d H) := takes_of rfl rfl rfl rfl
  refine ⟨tSs L (fun x _ => Ed x) (fun c d _ H => E c d H) ib, hm _ _ X (fun σ => passAt tk σ) (passes_of rfl) rfl rfl rfl rfl rfl rfl rfl rfl rfl hg hr, A0, B, entry N as, defFin Qd, entry_st St ar, hw as Qd Ed (ar.length.symm.trans hl) wp, fun σ x c d ρ' B' H' S' xv e => ke x c d B' H' S'.bare xv e, ?_⟩
  exact ⟨fun σ H' ρ B' S' sb w => kq .non H' (.im .none) B' S'.bare sb rfl w, fun _ _ _ _ _ _ w => w.elim, fun _ _ _ _ _ _ w => w.elim, fun v H' r B' S' y sb w => kq v H' r B' S' sb y w⟩
end KR

end
section
set_option Elab.async false
set_option linter.all false
set_option maxRecDepth 100000
set_option genSizeOf false
set_option maxHeartbeats 4000000
/-! From the row's own tree to the small language, with the proof at each step. -/
namespace KR
open PySem PySem.Spec PyProof.Rows L2

structure Gb (P : Program) (w : World) (L : Lay) (mg : Str → Option Value) (base : Heap) (N : List Str) (k : Nat) : Prop where
  fns : FnsOk P w L mg base k L.Γ.fns L.Γ.fks
  free : ∀ n ∈ L.Γ.free, mg n = none
  gls : ∀ x d, L.Γ.gls.lookup x = some d → ∃ v u, mg x = some u ∧ RelV v u ∧ ∀ B, Rp L.K B d v
  sysm : ∃ o, L.K.lookup sysModules = some o
  nd : N.Nodup
structure Cxk (P : Program) (w : World) (L : Lay) (mg : Str → Option Value) (base : Heap) (N : List Str) (k : Nat) (sc : Scope) (F : Str → Bool) (Wx : WX) (X : Cx) : Prop where
  hP : X.prog = P
  hw : X.w = w
  hK : X.K = L.K
  hmg : X.mg = mg
  hb : X.base = base
  hN : X.N = N
  hsc : X.env.scope = sc
  hF : X.fn = F
  calm : X.calm = true
  gd : X.A.guards = some []
  room : Room k X.A
  pass : ∀ σ, PassesAt (L2.CX X.prog X.w) X σ (WE Wx σ)
def visB (sc : Scope) (n : Str) : Bool := match sc.names.lookup n with
  | some .local => true
  | some .cell => true
  | some .free => true
  | _ => false
def locB (sc : Scope) (n : Str) : Bool := match sc.names.lookup n with
  | some .local => true
  | _ => false
def glB (sc : Scope) (n : Str) : Bool := match sc.names.lookup n with
  | some .globalImplicit => true
  | _ => false
theorem vis_of {sc : Scope} {n : Str} (h : visB sc n = true) : Vis sc n := by
  unfold visB at h
  unfold Vis
  split at h <;> first | simp_all | cases h
theorem loc_of {sc : Scope} {n : Str} (h : locB sc n = true) : sc.names.lookup n = some .local := by
  unfold locB at h
  split at h
  · assumption
  · cases h
def locF (sc : Scope) (F : Str → Bool) (n : Str) : Bool := match sc.names.lookup n with
  | some .local => true
  | some .cell => F n
  | _ => false
theorem locF_of {sc : Scope} {F : Str → Bool} {n : Str} (h : locF sc F n = true) : Loc sc n ∧ (F n = true ∨ sc.names.lookup n = some .local) := by
  unfold locF at h
  split at h
  · rename_i e; exact ⟨.inl e, .inr e⟩
  · rename_i e; exact ⟨.inr e, .inl h⟩
  · cases h
theorem gl_of {sc : Scope} {n : Str} (h : glB sc n = true) : sc.names.lookup n = some .globalImplicit := by
  unfold glB at h
  split at h
  · assumption
  · cases h
def bad (n : Str) : Bool := n == ("__debug__" : Str) || n == ("__classdict__" : Str)
theorem bad_of {n : Str} (h : bad n = false) : (n == ("__debug__" : Str)) = false ∧ (n == ("__classdict__" : Str)) = false := by
  unfold bad at h
  exact ⟨(Bool.or_eq_false_iff.mp h).1, (Bool.or_eq_false_iff.mp h).2⟩
def eqN (N : List Str) (i : Nat) (n : Str) : Bool := match N[i]? with
  | some m => decide (m = n)
  | none => false
theorem eqN_of {N : List Str} {i : Nat} {n : Str} (h : eqN N i n = true) : N[i]? = some n := by
  unfold eqN at h
  split at h
  · rename_i m e; rw [e, of_decide_eq_true h]
  · cases h
def noStar : Expr → Bool
  | .Starred .. => false
  | _ => true
theorem star_cons {x : Expr} {xs : List Expr} {env : Env} (h : noStar x = true) : starEach (x :: xs) env = (false, eval x env) :: starEach xs env := by
  cases x <;> first | rfl | cases h
theorem star_any {env : Env} {pos : Pos} : ∀ {xs : List Expr}, xs.all noStar = true → (backTo pos (starEach xs env)).any (·.1) = false
  | [], _ => rfl
  | x :: xs, h => by
    rw [List.all_cons, Bool.and_eq_true] at h
    rw [star_cons h.1]
    show (false || (backTo pos (starEach xs env)).any (·.1)) = false
    rw [Bool.false_or]
    exact star_any h.2
theorem as_cons {x : Expr} {xs : List Expr} {env : Env} (h : noStar x = true) : assignEach (x :: xs) env = (false, assign x env) :: assignEach xs env := by
  cases x <;> first | rfl | cases h
theorem as_len {env : Env} : ∀ xs : List Expr, (assignEach xs env).length = xs.length
  | [] => rfl
  | x :: xs => by
    cases x <;> first | (show (assignEach xs env).length + 1 = xs.length + 1; rw [as_len xs])
theorem as_find {env : Env} : ∀ {xs : List Expr}, xs.all noStar = true → (assignEach xs env).findIdx? (·.1) = none
  | [], _ => rfl
  | x :: xs, h => by
    rw [List.all_cons, Bool.and_eq_true] at h
    rw [as_cons h.1, List.findIdx?_cons, as_find h.2]; rfl
def plainB : Expr → Bool
  | .Slice .. => false
  | _ => true
theorem plain_of {x : Expr} (h : plainB x = true) : PlainIx x := by
  intro o i
  cases x <;> first | rfl | cases h
def simpleT : Expr → Bool
  | .Name .. => true
  | .Call .. => true
  | .Subscript .. => true
  | _ => false
theorem simple_of {x : Expr} {env : Env} (h : simpleT x = true) : ∀ whole, isTrue x env whole = (do let v ← whole; standAt x.pos; holding [v] (truthy v)) := by
  intro whole
  cases x <;> first | rfl | cases h
def noSet : Expr → Bool
  | .Set .. => false
  | _ => true
theorem noSet_of {x : Expr} {env : Env} (h : noSet x = true) : ∀ v, foldedSetIterable x env v = pure v := by
  intro v
  cases x <;> first | rfl | cases h
def noComp : Expr → Bool
  | .ListComp .. => false
  | .SetComp .. => false
  | .DictComp .. => false
  | _ => true
section
variable {P : Program} {w : World} {L : Lay} {mg : Str → Option Value} {base : Heap} {N : List Str} {k : Nat} {sc : Scope} {F : Str → Bool} {Wx : WX} {X : Cx}
theorem Cxk.n0 (C : Cxk P w L mg base N k sc F Wx X) (G : Gb P w L mg base N k) {pins : List (Addr × Obj)} {σ : L2.St} {H : Hp} {s : Shared} (I : L2.Inv X pins σ H s) : H sysModules = none := by
  obtain ⟨o, e⟩ := G.sysm
  exact (I.bs sysModules o (I.ok.mod.kin sysModules o (by rw [C.hK]; exact e))).2
theorem Cxk.un (C : Cxk P w L mg base N k sc F Wx X) : X.A.units + 70 < cLine := by have := C.room.un; omega
theorem Cxk.gl (C : Cxk P w L mg base N k sc F Wx X) {n : Str} (h : glB sc n = true) : Gl X n := by
  show X.env.scope.names.lookup n = _
  rw [C.hsc]; exact gl_of h
theorem Cxk.vis (C : Cxk P w L mg base N k sc F Wx X) {n : Str} (h : visB sc n = true) : Vis X.env.scope n := by rw [C.hsc]; exact vis_of h
theorem Cxk.loc (C : Cxk P w L mg base N k sc F Wx X) {n : Str} (h : locB sc n = true) : X.env.scope.names.lookup n = some .local := by rw [C.hsc]; exact loc_of h
theorem Cxk.st (C : Cxk P w L mg base N k sc F Wx X) {n : Str} (h : locF sc F n = true) : Loc X.env.scope n ∧ (X.fn n = true ∨ X.env.scope.names.lookup n = some .local) := by rw [C.hsc, C.hF]; exact locF_of h
theorem Cxk.ix (C : Cxk P w L mg base N k sc F Wx X) {n : Str} {i : Nat} (h : eqN N i n = true) : X.N[i]? = some n := by rw [C.hN]; exact eqN_of h
theorem Cxk.non (C : Cxk P w L mg base N k sc F Wx X) (G : Gb P w L mg base N k) {n : Str} (h : L.Γ.free.contains n = true) : X.mg n = none := by
  rw [C.hmg]; exact G.free n (List.contains_iff_mem.mp h)
theorem Cxk.fn (C : Cxk P w L mg base N k sc F Wx X) (G : Gb P w L mg base N k) {x : Str} {S : DSpec} (h : L.Γ.fns.lookup x = some S) :
    ∃ f fd, GnOk X.prog X.w X.K X.mg X.base k f fd S.ps (lift L S) ∧ X.mg x = some (.ref f) ∧ PySem.W.keepIn X.K (.ref f) = true ∧ Binds X.K fd S.ps [] ∧ ∀ ks, (x, ks) ∈ L.Γ.fks → KB X.K fd S.ps ks := by
  obtain ⟨f, fd, h1, h2, h3, h4, h5⟩ := G.fns x S h
  rw [C.hP, C.hw, C.hK, C.hmg, C.hb]
  exact ⟨f, fd, h1, h2, h3, h4, h5⟩
theorem Cxk.blk (C : Cxk P w L mg base N k sc F Wx X) (s : Shared) (H : Hp) (scope : Scope) (cl : List (Str × Addr)) (A : Addr) (fp : List Addr) : Cxk P w L mg base N k (relS scope sc) (fun x => scope.names.lookup x == some .cell) noW (X.blk s H scope (compEnvC scope cl A X.env) fp) :=
  ⟨C.hP, C.hw, C.hK, C.hmg, C.hb, C.hN, by rw [← C.hsc]; rfl, rfl, C.calm, C.gd, C.room, fun σ pins H s e s' I h => by
    obtain ⟨_, _, _, _, _, _, _, _, _, _, _, _, z⟩ := h
    exact z.elim⟩
theorem Cxk.no (C : Cxk P w L mg base N k sc F Wx X) : Cxk P w L mg base N k sc F noW X :=
  ⟨C.hP, C.hw, C.hK, C.hmg, C.hb, C.hN, C.hsc, C.hF, C.calm, C.gd, C.room, fun σ pins H s e s' I h => by
    obtain ⟨_, _, _, _, _, _, _, _, _, _, _, _, z⟩ := h
    exact z.elim⟩
end
/-- a proof, or none -/
abbrev Pf (p : Prop) : Type := Option (PLift p)
abbrev OE (P : Program) (w : World) (L : Lay) (mg : Str → Option Value) (base : Heap) (N : List Str) (k : Nat) (sc : Scope) (F : Str → Bool) (ie : IE) (x : Expr) : Prop := ∀ (Ed : Ex → En → Prop) (Wx : WX) (X : Cx), Cxk P w L mg base N k sc F Wx X → PE X x (tE L Ed Wx ie)
abbrev OTt (P : Program) (w : World) (L : Lay) (mg : Str → Option Value) (base : Heap) (N : List Str) (k : Nat) (sc : Scope) (F : Str → Bool) (ie : IE) (x : Expr) : Prop := ∀ (Ed : Ex → En → Prop) (Wx : WX) (X : Cx), Cxk P w L mg base N k sc F Wx X → PT X x (tT L Ed Wx ie)
abbrev OEs (P : Program) (w : World) (L : Lay) (mg : Str → Option Value) (base : Heap) (N : List Str) (k : Nat) (sc : Scope) (F : Str → Bool) (es : IEs) (xs : List Expr) : Prop := xs.all noStar = true ∧ ∀ (Ed : Ex → En → Prop) (Wx : WX) (X : Cx), Cxk P w L mg base N k sc F Wx X → PA X xs (tEs L Ed Wx es)
abbrev OKs (P : Program) (w : World) (L : Lay) (mg : Str → Option Value) (base : Heap) (N : List Str) (k : Nat) (sc : Scope) (F : Str → Bool) (es : IEs) (ks : List Str) (xs : List Keyword) : Prop := ∀ (Ed : Ex → En → Prop) (Wx : WX) (X : Cx), Cxk P w L mg base N k sc F Wx X → PK X xs (tEs L Ed Wx es) ∧
  ∀ pos, (backToKw pos (keywordEach xs X.env)).all (·.1.isSome) = true ∧ (backToKw pos (keywordEach xs X.env)).filterMap (·.1) = ks ∧ (backToKw pos (keywordEach xs X.env)).any (·.1.isNone) = false
abbrev OCs (P : Program) (w : World) (L : Lay) (mg : Str → Option Value) (base : Heap) (N : List Str) (k : Nat) (sc : Scope) (F : Str → Bool) (b : Bool) (es : IEs) (xs : List Expr) : Prop := xs ≠ [] ∧ ∀ (Ed : Ex → En → Prop) (Wx : WX) (X : Cx) (pos : Pos), Cxk P w L mg base N k sc F Wx X → PE X (.BoolOp (bop b) xs pos) (tC1 L Ed Wx b es) ∧ PW X (.BoolOp (bop b) xs pos) (tC2 L Ed Wx b es)
abbrev OO (P : Program) (w : World) (L : Lay) (mg : Str → Option Value) (base : Heap) (N : List Str) (k : Nat) (sc : Scope) (F : Str → Bool) (ie : IO) (x : Option Expr) : Prop := ∀ (Ed : Ex → En → Prop) (Wx : WX) (X : Cx), Cxk P w L mg base N k sc F Wx X → PO X x (tO L Ed Wx ie)
abbrev OTs (P : Program) (w : World) (L : Lay) (mg : Str → Option Value) (base : Heap) (N : List Str) (k : Nat) (sc : Scope) (F : Str → Bool) (ie : IO) (xs : List Expr) : Prop := ∀ (X : Cx), Cxk P w L mg base N k sc F noW X → PTs X xs (tTs L ie)
abbrev OI (P : Program) (w : World) (L : Lay) (mg : Str → Option Value) (base : Heap) (N : List Str) (k : Nat) (sc : Scope) (F : Str → Bool) (ii : II) (tg x : Expr) : Prop := noSet x = true ∧ ∀ (Ed : Ex → En → Prop) (Wx : WX) (X : Cx), Cxk P w L mg base N k sc F Wx X → PI X tg x (tI L Ed Wx ii)
abbrev OG (P : Program) (w : World) (L : Lay) (mg : Str → Option Value) (base : Heap) (N : List Str) (k : Nat) (sc : Scope) (F : Str → Bool) (t : IT) (x : Expr) : Prop := noStar x = true ∧ ∀ (Wx : WX) (X : Cx), Cxk P w L mg base N k sc F Wx X → PG X x (tGd L t)
abbrev OGs (P : Program) (w : World) (L : Lay) (mg : Str → Option Value) (base : Heap) (N : List Str) (k : Nat) (sc : Scope) (F : Str → Bool) (t : ITs) (xs : List Expr) : Prop := xs.all noStar = true ∧ xs.length = t.len ∧ ∀ (Wx : WX) (X : Cx), Cxk P w L mg base N k sc F Wx X → PGs X xs (tGs L t)
end KR

end
section
set_option Elab.async false
set_option linter.all false
set_option maxRecDepth 100000
set_option genSizeOf false
set_option maxHeartbeats 4000000
/-! The same: expressions, targets. -/
namespace KR
open PySem PySem.Spec PyProof.Rows L2

section
variable (P : Program) (w : World) (L : Lay) (mg : Str → Option Value) (base : Heap) (N : List Str) (k : Nat) (G : Gb P w L mg base N k)
abbrev RE (sc : Scope) (F : Str → Bool) (ie : IE) (x : Expr) : Type := Option (PLift (OE P w L mg base N k sc F ie x) × Pf (OTt P w L mg base N k sc F ie x))
variable {P w L mg base N k}
def mkE {sc : Scope} {F : Str → Bool} {ie : IE} {x : Expr} (p : OE P w L mg base N k sc F ie x) : RE P w L mg base N k sc F ie x :=
  some (⟨p⟩, if h : simpleT x = true then some ⟨fun Ed Wx X C => kpt_val (p Ed Wx X C) (simple_of h)⟩ else none)
def cCst (sc : Scope) (F : Str → Bool) (d : D) (x : Expr) : RE P w L mg base N k sc F (.cst d) x := match d, x with
  | .int i, .Constant (.int j) _ _ => if h : decide (i = j) = true then mkE fun Ed Wx X C => kpe_cst pe_int (fun B => by rw [of_decide_eq_true h]; rfl) else none
  | .str i, .Constant (.str j) _ _ => if h : decide (i = j) = true then mkE fun Ed Wx X C => kpe_cst pe_str (fun B => by rw [of_decide_eq_true h]; rfl) else none
  | .bool i, .Constant (.bool j) _ _ => if h : decide (i = j) = true then mkE fun Ed Wx X C => kpe_cst pe_bl (fun B => by rw [of_decide_eq_true h]; rfl) else none
  | .none, .Constant .none _ _ => mkE fun Ed Wx X C => kpe_cst pe_non (fun B => rfl)
  | _, _ => none
def kwName : Keyword → Option Str
  | ⟨n, _, _⟩ => n
def allNm (xs : List Nat) (own : List (Str × Nat)) : Bool := xs.all fun j => (own.map (·.2)).contains j
theorem allNm_of {xs : List Nat} {own : List (Str × Nat)} (h : allNm xs own = true) : ∀ j ∈ xs, j ∈ own.map (·.2) := fun j hj => List.contains_iff_mem.mp (List.all_eq_true.mp h j hj)
def tyB (t : String) (n : Str) : Bool := decide (bootBuiltins n = some (.type t)) && decide (n ≠ "__name__") && !(n == ("__debug__" : Str))
def subOk : Expr → Bool
  | .Slice .. => false
  | _ => true
theorem sub_as {n : Str} {p pos : Pos} {y : Expr} {env : Env} (h : subOk y = true) : ∀ v, assign (.Subscript (.Name n p) y pos) env v = (do
      let ov ← holding [v] (eval (.Name n p) env)
      let iv ← holding [v, ov] (eval y env)
      standAt pos
      holding [v, ov, iv] (setItem ov iv v)
      release [v, ov, iv] []) := by
  intro v
  cases y <;> first | rfl | cases h
mutual
def cE : (ie : IE) → (sc : Scope) → (F : Str → Bool) → (x : Expr) → RE P w L mg base N k sc F ie x
  | .var i, sc, F, .Name n pos => if h : (eqN N i n && visB sc n && !bad n) = true then mkE fun Ed Wx X C => by
      simp only [Bool.and_eq_true, Bool.not_eq_true'] at h
      exact kpe_var (C.ix h.1.1) (C.vis h.1.2) (bad_of h.2).1 (bad_of h.2).2 else none
  | .cst d, sc, F, x => cCst sc F d x
  | .glob y, sc, F, .Name n pos => (match h1 : L.Γ.gls.lookup y with
    | some d => if h : (decide (y = n) && glB sc n && !bad n) = true then mkE fun Ed Wx X C => by
        simp only [Bool.and_eq_true, Bool.not_eq_true', decide_eq_true_eq] at h
        obtain ⟨⟨e, hg⟩, hb⟩ := h
        subst e
        obtain ⟨v, u, hm, r, rp⟩ := G.gls y d h1
        exact kpe_glob (pe_glob (C.gl hg) (by rw [C.hmg]; exact hm) r (bad_of hb).1) h1 rp else none
    | none => none)
  | .bin op a b, sc, F, .BinOp x o y pos => if h : decide (o = op.op) = true then (match cE a sc F x, cE b sc F y with
    | some (⟨pa⟩, _), some (⟨pb⟩, _) => mkE fun Ed Wx X C => by
        rw [of_decide_eq_true h]; exact kpe_bin C.hK op (pa Ed Wx X C) (pb Ed Wx X C)
    | _, _ => none) else none
  | .neg a, sc, F, .UnaryOp .USub x pos => (match cE a sc F x with
    | some (⟨pa⟩, _) => mkE fun Ed Wx X C => kpe_neg (pa Ed Wx X C)
    | none => none)
  | .cmp op a b, sc, F, .Compare x [o] [y] pos => if h : (decide (o = op.op) && !behindInMarks op.op y) = true then (match cE a sc F x, cE b sc F y with
    | some (⟨pa⟩, _), some (⟨pb⟩, _) => some (⟨fun Ed Wx X C => by
        simp only [Bool.and_eq_true, Bool.not_eq_true', decide_eq_true_eq] at h
        rw [h.1]; exact kpe_cmp C.hK (by have := C.un; omega) op (pa Ed Wx X C) (pb Ed Wx X C) h.2⟩, some ⟨fun Ed Wx X C => by
        simp only [Bool.and_eq_true, Bool.not_eq_true', decide_eq_true_eq] at h
        rw [h.1]; exact kpt_cmp C.hK (by have := C.un; omega) op (pa Ed Wx X C) (pb Ed Wx X C) h.2⟩)
    | _, _ => none) else none
  | .chain op op' a b c, sc, F, .Compare x [o, o'] [y, z] pos => if h : (decide (o = op.op) && decide (o' = op'.op) && !lastMarks [op.op, op'.op] [y, z]) = true then (match cE a sc F x, cE b sc F y, cE c sc F z with
    | some (⟨pa⟩, _), some (⟨pb⟩, _), some (⟨pc⟩, _) => some (⟨fun Ed Wx X C => by
        simp only [Bool.and_eq_true, Bool.not_eq_true', decide_eq_true_eq] at h
        rw [h.1.1, h.1.2]; exact kpe_chain C.hK (by have := C.un; omega) (pa Ed Wx X C) (pb Ed Wx X C) (pc Ed Wx X C) h.2⟩, some ⟨fun Ed Wx X C => by
        simp only [Bool.and_eq_true, Bool.not_eq_true', decide_eq_true_eq] at h
        rw [h.1.1, h.1.2]; exact kpt_chain C.hK (by have := C.un; omega) (pa Ed Wx X C) (pb Ed Wx X C) (pc Ed Wx X C) h.2⟩)
    | _, _, _ => none) else none
  | .conj b es, sc, F, .BoolOp o xs pos => if h : decide (o = bop b) = true then (match cC b es sc F xs with
    | some ⟨pc⟩ => some (⟨fun Ed Wx X C => by
        rw [of_decide_eq_true h]; exact (pc.2 Ed Wx X pos C).1⟩, some ⟨fun Ed Wx X C => by
        rw [of_decide_eq_true h]; exact (pc.2 Ed Wx X pos C).2.pt⟩)
    | none => none) else none
  | .notE a, sc, F, .UnaryOp .Not x pos => (match cE a sc F x with
    | some (⟨pa⟩, some ⟨pt⟩) => some (⟨fun Ed Wx X C => kpe_not (pa Ed Wx X C)⟩, some ⟨fun Ed Wx X C => kpt_not (pt Ed Wx X C)⟩)
    | some (⟨pa⟩, none) => some (⟨fun Ed Wx X C => kpe_not (pa Ed Wx X C)⟩, none)
    | none => none)
  | .ite c a b, sc, F, .IfExp z x y pos => (match cE c sc F z, cE a sc F x, cE b sc F y with
    | some (_, some ⟨pt⟩), some (⟨pa⟩, _), some (⟨pb⟩, _) => mkE fun Ed Wx X C => kpe_ite (pt Ed Wx X C) (pa Ed Wx X C) (pb Ed Wx X C)
    | _, _, _ => none)
  | .tup es, sc, F, .Tuple xs j pos => (match cEs es sc F xs with
    | some ⟨ps⟩ => mkE fun Ed Wx X C => kpe_tup (ps.2 Ed Wx X C)
    | none => none)
  | .lst es, sc, F, .List xs pos => (match cEs es sc F xs with
    | some ⟨ps⟩ => mkE fun Ed Wx X C => kpe_lst (ps.2 Ed Wx X C)
    | none => none)
  | .dic false, sc, F, .Dict [] [] pos => mkE fun Ed Wx X C => kpe_dicK
  | .dic true, sc, F, .Dict [] [] pos => mkE fun Ed Wx X C => kpe_dicT
  | .sub a i, sc, F, .Subscript x y pos => if h : plainB y = true then (match cE a sc F x, cE i sc F y with
    | some (⟨pa⟩, _), some (⟨pb⟩, _) => mkE fun Ed Wx X C => kpe_sub C.hK (pa Ed Wx X C) (pb Ed Wx X C) (plain_of h)
    | _, _ => none) else none
  | .slc a lo hi, sc, F, .Subscript x (.Slice l h none p2) pos => (match cE a sc F x, cO lo sc F l, cO hi sc F h with
    | some (⟨pa⟩, _), some ⟨pl⟩, some ⟨ph⟩ => mkE fun Ed Wx X C => kpe_slc C.hK (pa Ed Wx X C) (pl Ed Wx X C) (ph Ed Wx X C)
    | _, _, _ => none)
  | .rev a, sc, F, .Subscript x (.Slice none none (some (.UnaryOp .USub (.Constant (.int 1) k1 p1) p2)) p3) pos => (match cE a sc F x with
    | some (⟨pa⟩, _) => mkE fun Ed Wx X C => kpe_rev C.hK (pa Ed Wx X C)
    | none => none)
  | .call f es, sc, F, .Call (.Name n p) (x :: xs) [] pos => (match h1 : L.Γ.fns.lookup n with
    | some S => if h : (decide (f = n) && glB sc n && !bad n) = true then (match cEs es sc F (x :: xs) with
      | some ⟨ps⟩ => mkE fun Ed Wx X C => by
          simp only [Bool.and_eq_true, Bool.not_eq_true', decide_eq_true_eq] at h
          obtain ⟨⟨e, hg⟩, hb⟩ := h
          subst e
          obtain ⟨fa, fd, g, hm, hk, hbi, _⟩ := C.fn G h1
          have ns := ps.1
          rw [List.all_cons, Bool.and_eq_true] at ns
          exact kpe_call C.hK g C.room C.gd C.pass (C.gl hg) hm hk hbi h1 (ps.2 Ed Wx X C) (bad_of hb).1 (star_cons ns.1) (star_any ns.2)
      | none => none) else none
    | none => none)
  | .callk f ks es, sc, F, .Call (.Name n p) [] kws pos => (match h1 : L.Γ.fns.lookup n with
    | some S => if h : (decide (f = n) && glB sc n && !bad n && decide ((n, ks) ∈ L.Γ.fks)) = true then (match cKs es sc F ks kws with
      | some ⟨ps⟩ => mkE fun Ed Wx X C => by
          simp only [Bool.and_eq_true, Bool.not_eq_true', decide_eq_true_eq] at h
          obtain ⟨⟨⟨e, hg⟩, hb⟩, hks⟩ := h
          subst e
          obtain ⟨fa, fd, g, hm, hk, _, hkb⟩ := C.fn G h1
          obtain ⟨hp, hq⟩ := ps Ed Wx X C
          exact kpe_callk C.hK g C.room C.gd C.pass (C.gl hg) hm hk (hkb ks hks) h1 hp (bad_of hb).1 (hq pos).1 (hq pos).2.1 (by rw [(hq pos).2.2]; rfl)
      | none => none) else none
    | none => none)
  | .bi b es, sc, F, .Call (.Name n p) (x :: xs) [] pos => if h : (decide (n = b.name) && glB sc n && L.Γ.free.contains n) = true then (match cEs es sc F (x :: xs) with
    | some ⟨ps⟩ => mkE fun Ed Wx X C => by
        simp only [Bool.and_eq_true, decide_eq_true_eq] at h
        obtain ⟨⟨e, hg⟩, hf⟩ := h
        have ns := ps.1
        rw [List.all_cons, Bool.and_eq_true] at ns
        exact kpe_bi C.hK C.calm C.gd C.un (fun I => C.n0 G I) b e (C.gl hg) (C.non G hf) (ps.2 Ed Wx X C) (star_cons ns.1) (star_any ns.2)
    | none => none) else none
  | .rng isT (.cons a .nil), sc, F, .Call (.Name n p) [.Call (.Name r p2) [x] [] pos2] [] pos => if h : (decide (n = if isT = true then "tuple" else "list") && glB sc n && L.Γ.free.contains n && decide (r = "range") && glB sc r && L.Γ.free.contains r && noStar x) = true then (match cE a sc F x with
    | some (⟨pa⟩, _) => mkE fun Ed Wx X C => by
        simp only [Bool.and_eq_true, decide_eq_true_eq] at h
        obtain ⟨⟨⟨⟨⟨⟨e, hg⟩, hf⟩, e2⟩, hg2⟩, hf2⟩, ns⟩ := h
        subst e2
        exact kpe_rng1 isT C.calm e (C.gl hg) (C.non G hf) (C.gl hg2) (C.non G hf2) (pa Ed Wx X C) (star_cons ns)
    | none => none) else none
  | .rng isT (.cons a (.cons b .nil)), sc, F, .Call (.Name n p) [.Call (.Name r p2) [x, y] [] pos2] [] pos => if h : (decide (n = if isT = true then "tuple" else "list") && glB sc n && L.Γ.free.contains n && decide (r = "range") && glB sc r && L.Γ.free.contains r && noStar x && noStar y) = true then (match cE a sc F x, cE b sc F y with
    | some (⟨pa⟩, _), some (⟨pb⟩, _) => mkE fun Ed Wx X C => by
        simp only [Bool.and_eq_true, decide_eq_true_eq] at h
        obtain ⟨⟨⟨⟨⟨⟨⟨e, hg⟩, hf⟩, e2⟩, hg2⟩, hf2⟩, ns⟩, ns2⟩ := h
        subst e2
        exact kpe_rng2 isT C.calm e (C.gl hg) (C.non G hf) (C.gl hg2) (C.non G hf2) (pa Ed Wx X C) (pb Ed Wx X C) (star_cons ns) (star_cons ns2)
    | _, _ => none) else none
  | .isinst ty a, sc, F, .Call (.Name f p) [x, .Name n p2] [] pos => if h : (decide (f = "isinstance") && glB sc f && L.Γ.free.contains f && glB sc n && L.Γ.free.contains n && decide (ty ∈ tyNames) && tyB ty n && noStar x) = true then (match cE a sc F x with
    | some (⟨pa⟩, _) => mkE fun Ed Wx X C => by
        unfold tyB at h
        simp only [Bool.and_eq_true, decide_eq_true_eq, Bool.not_eq_true'] at h
        obtain ⟨⟨⟨⟨⟨⟨⟨e, hg⟩, hf⟩, hg2⟩, hf2⟩, ht⟩, ⟨⟨hv, hn1⟩, hn2⟩⟩, ns⟩ := h
        subst e
        exact kpe_isinst C.hK ht (C.gl hg) (C.non G hf) (C.gl hg2) (C.non G hf2) hv hn1 hn2 (pa Ed Wx X C) (star_cons ns)
    | none => none) else none
  | .app i a, sc, F, .Call (.Attribute (.Name n p) m apos) [y] [] pos => if h : (decide (m = "append") && eqN N i n && visB sc n && !bad n && (apos.endLine == pos.line) && noStar y) = true then (match cE a sc F y with
    | some (⟨pa⟩, _) => mkE fun Ed Wx X C => by
        simp only [Bool.and_eq_true, decide_eq_true_eq, Bool.not_eq_true'] at h
        obtain ⟨⟨⟨⟨⟨e, hn⟩, hv⟩, hb⟩, hl⟩, ns⟩ := h
        subst e
        exact kpe_app (C.ix hn) (C.vis hv) (bad_of hb).1 (bad_of hb).2 (pa Ed Wx X C) (star_cons ns) hl
    | none => none) else none
  | .pop i, sc, F, .Call (.Attribute (.Name n p) m apos) [] [] pos => if h : (decide (m = "pop") && eqN N i n && visB sc n && !bad n && (apos.endLine == pos.line)) = true then mkE fun Ed Wx X C => by
        simp only [Bool.and_eq_true, decide_eq_true_eq, Bool.not_eq_true'] at h
        obtain ⟨⟨⟨⟨e, hn⟩, hv⟩, hb⟩, hl⟩ := h
        subst e
        exact kpe_pop (C.ix hn) (C.vis hv) (bad_of hb).1 (bad_of hb).2 hl
      else none
  | .popAt i a, sc, F, .Call (.Attribute (.Name n p) m apos) [y] [] pos => if h : (decide (m = "pop") && eqN N i n && visB sc n && !bad n && (apos.endLine == pos.line) && noStar y) = true then (match cE a sc F y with
    | some (⟨pa⟩, _) => mkE fun Ed Wx X C => by
        simp only [Bool.and_eq_true, decide_eq_true_eq, Bool.not_eq_true'] at h
        obtain ⟨⟨⟨⟨⟨e, hn⟩, hv⟩, hb⟩, hl⟩, ns⟩ := h
        subst e
        exact kpe_popAt (C.ix hn) (C.vis hv) (bad_of hb).1 (bad_of hb).2 (pa Ed Wx X C) (star_cons ns) hl
    | none => none) else none
  | .lc elt tg it cond own, sc, F, .ListComp x [⟨t, y, ifs, 0⟩] scope pos => if h : (blkC N sc scope own && allNm tg.nms own) = true then
      (match cI it sc F t y, cG tg (relS scope sc) (fun x => scope.names.lookup x == some .cell) t, cTs cond (relS scope sc) (fun x => scope.names.lookup x == some .cell) ifs, cE elt (relS scope sc) (fun x => scope.names.lookup x == some .cell) x with
      | some ⟨pi⟩, some ⟨pg⟩, some ⟨pt⟩, some (⟨pe⟩, _) => mkE fun Ed Wx X C => by
          rw [Bool.and_eq_true] at h
          exact kpe_lc C.calm (by rw [C.hN]; exact G.nd) (pi.2 Ed Wx X C) (by rw [C.hN, C.hsc]; exact blkOk_by h.1) (allNm_of h.2) (fun s H A cl fp => pg.2 noW _ (C.blk s H scope cl A fp)) (fun s H A cl fp => pt _ (C.blk s H scope cl A fp))
            (fun s H A cl fp => pe noEx noW _ (C.blk s H scope cl A fp)) (noSet_of pi.1)
      | _, _, _, _ => none) else none
  | _, _, _, _ => none
def cO : (io : IO) → (sc : Scope) → (F : Str → Bool) → (x : Option Expr) → Pf (OO P w L mg base N k sc F io x)
  | .non, sc, F, none => some ⟨fun Ed Wx X C => kpo_non⟩
  | .som a, sc, F, some x => (match cE a sc F x with
    | some (⟨pa⟩, _) => some ⟨fun Ed Wx X C => kpo_som (pa Ed Wx X C)⟩
    | none => none)
  | _, _, _, _ => none
def cTs : (io : IO) → (sc : Scope) → (F : Str → Bool) → (xs : List Expr) → Pf (OTs P w L mg base N k sc F io xs)
  | .non, sc, F, [] => some ⟨fun X C => kpts_nil⟩
  | .som a, sc, F, [x] => (match cE a sc F x with
    | some (_, some ⟨pt⟩) => some ⟨fun X C => kpts_one (pt noEx noW X C)⟩
    | _ => none)
  | _, _, _, _ => none
def cEs : (es : IEs) → (sc : Scope) → (F : Str → Bool) → (xs : List Expr) → Pf (OEs P w L mg base N k sc F es xs)
  | .nil, sc, F, [] => some ⟨rfl, fun Ed Wx X C => kpa_nil⟩
  | .cons a es, sc, F, x :: xs => if h : noStar x = true then (match cE a sc F x, cEs es sc F xs with
    | some (⟨pa⟩, _), some ⟨ps⟩ => some ⟨by rw [List.all_cons, h, ps.1]; rfl, fun Ed Wx X C => kpa_cons (pa Ed Wx X C) (ps.2 Ed Wx X C) (star_cons h)⟩
    | _, _ => none) else none
  | _, _, _, _ => none
def cKs : (es : IEs) → (sc : Scope) → (F : Str → Bool) → (ks : List Str) → (xs : List Keyword) → Pf (OKs P w L mg base N k sc F es ks xs)
  | .nil, sc, F, [], [] => some ⟨fun Ed Wx X C => ⟨kpk_nil, fun pos => ⟨rfl, rfl, rfl⟩⟩⟩
  | .cons a es, sc, F, kk :: ks, ⟨some n, x, kp⟩ :: xs => if h : decide (n = kk) = true then (match cE a sc F x, cKs es sc F ks xs with
    | some (⟨pa⟩, _), some ⟨ps⟩ => some ⟨fun Ed Wx X C => ⟨kpk_cons (pa Ed Wx X C) (ps Ed Wx X C).1, fun pos => by
        obtain ⟨h1, h2, h3⟩ := (ps Ed Wx X C).2 pos
        refine ⟨?_, ?_, ?_⟩
        · show (true && (backToKw pos (keywordEach xs X.env)).all (·.1.isSome)) = true
          rw [h1]; rfl
        · show n :: (backToKw pos (keywordEach xs X.env)).filterMap (·.1) = kk :: ks
          rw [h2, of_decide_eq_true h]
        · show (false || (backToKw pos (keywordEach xs X.env)).any (·.1.isNone)) = false
          rw [h3]; rfl⟩⟩
    | _, _ => none) else none
  | _, _, _, _, _ => none
def cC : (b : Bool) → (es : IEs) → (sc : Scope) → (F : Str → Bool) → (xs : List Expr) → Pf (OCs P w L mg base N k sc F b es xs)
  | b, .cons a .nil, sc, F, [x] => (match cE a sc F x with
    | some (⟨pa⟩, some ⟨pt⟩) => some ⟨by simp, fun Ed Wx X pos C => ⟨kpe_c1 (pa Ed Wx X C), kpt_c1 (pt Ed Wx X C)⟩⟩
    | _ => none)
  | b, .cons a (.cons a' es), sc, F, x :: y :: xs => (match cE a sc F x, cC b (.cons a' es) sc F (y :: xs) with
    | some (⟨pa⟩, some ⟨pt⟩), some ⟨ps⟩ => some ⟨by simp, fun Ed Wx X pos C => ⟨kpe_c2 (pa Ed Wx X C) (ps.2 Ed Wx X pos C).1, kpt_c2 (pt Ed Wx X C) (ps.2 Ed Wx X pos C).2⟩⟩
    | _, _ => none)
  | _, _, _, _, _ => none
def cI : (ii : II) → (sc : Scope) → (F : Str → Bool) → (tg x : Expr) → Pf (OI P w L mg base N k sc F ii tg x)
  | .rg (.cons a .nil), sc, F, tg, .Call (.Name r p) [x] [] pos => if h : (decide (r = "range") && glB sc r && L.Γ.free.contains r && noStar x) = true then (match cE a sc F x with
    | some (⟨pa⟩, _) => some ⟨rfl, fun Ed Wx X C => by
        simp only [Bool.and_eq_true, decide_eq_true_eq] at h
        obtain ⟨⟨⟨e, hg⟩, hf⟩, ns⟩ := h
        subst e
        exact kpi_rg1 (C.gl hg) (C.non G hf) (pa Ed Wx X C) (star_cons ns)⟩
    | none => none) else none
  | .rg (.cons a (.cons b .nil)), sc, F, tg, .Call (.Name r p) [x, y] [] pos => if h : (decide (r = "range") && glB sc r && L.Γ.free.contains r && noStar x && noStar y) = true then (match cE a sc F x, cE b sc F y with
    | some (⟨pa⟩, _), some (⟨pb⟩, _) => some ⟨rfl, fun Ed Wx X C => by
        simp only [Bool.and_eq_true, decide_eq_true_eq] at h
        obtain ⟨⟨⟨⟨e, hg⟩, hf⟩, ns⟩, ns2⟩ := h
        subst e
        exact kpi_rg2 (C.gl hg) (C.non G hf) (pa Ed Wx X C) (pb Ed Wx X C) (star_cons ns) (star_cons ns2)⟩
    | _, _ => none) else none
  | .enum a, sc, F, .Tuple ts j tp, .Call (.Name r p) [x] [] pos => if h : (decide (r = "enumerate") && glB sc r && L.Γ.free.contains r && noStar x) = true then (match cE a sc F x with
    | some (⟨pa⟩, _) => some ⟨rfl, fun Ed Wx X C => by
        simp only [Bool.and_eq_true, decide_eq_true_eq] at h
        obtain ⟨⟨⟨e, hg⟩, hf⟩, ns⟩ := h
        subst e
        exact kpi_enum C.hK (C.gl hg) (C.non G hf) (pa Ed Wx X C) (star_cons ns)⟩
    | none => none) else none
  | .zip a b, sc, F, .Tuple ts j tp, .Call (.Name r p) [x, y] [] pos => if h : (decide (r = "zip") && glB sc r && L.Γ.free.contains r && noStar x && noStar y) = true then (match cE a sc F x, cE b sc F y with
    | some (⟨pa⟩, _), some (⟨pb⟩, _) => some ⟨rfl, fun Ed Wx X C => by
        simp only [Bool.and_eq_true, decide_eq_true_eq] at h
        obtain ⟨⟨⟨⟨e, hg⟩, hf⟩, ns⟩, ns2⟩ := h
        subst e
        exact kpi_zip C.hK (C.gl hg) (C.non G hf) (pa Ed Wx X C) (pb Ed Wx X C) (star_cons ns) (star_cons ns2)⟩
    | _, _ => none) else none
  | .seq a, sc, F, tg, x => if h : noSet x = true then (match cE a sc F x with
    | some (⟨pa⟩, _) => some ⟨h, fun Ed Wx X C => kpi_seq C.hK (pa Ed Wx X C)⟩
    | none => none) else none
  | _, _, _, _, _ => none
def cG : (t : IT) → (sc : Scope) → (F : Str → Bool) → (x : Expr) → Pf (OG P w L mg base N k sc F t x)
  | .nm i, sc, F, .Name n pos => if h : (eqN N i n && locF sc F n) = true then some ⟨rfl, fun Wx X C => by
      rw [Bool.and_eq_true] at h
      exact kpg_nm (by rw [C.hN]; exact G.nd) (C.ix h.1) (C.st h.2).1 (C.st h.2).2⟩ else none
  | .tup ts, sc, F, .Tuple xs j pos => (match cGs ts sc F xs with
    | some ⟨ps⟩ => some ⟨rfl, fun Wx X C => kpg_tup C.hK C.calm (ps.2.2 Wx X C) ((as_len xs).trans ps.2.1) (as_find ps.1)⟩
    | none => none)
  | .sub i a, sc, F, .Subscript (.Name n p) y pos => if h : (eqN N i n && visB sc n && !bad n && subOk y) = true then (match cE a sc F y with
    | some (⟨pa⟩, _) => some ⟨rfl, fun Wx X C => by
        simp only [Bool.and_eq_true, Bool.not_eq_true'] at h
        exact kpg_sub (C.ix h.1.1.1) (C.vis h.1.1.2) (bad_of h.1.2).1 (bad_of h.1.2).2 (pa noEx noW X C.no) (sub_as h.2)⟩
    | none => none) else none
  | _, _, _, _ => none
def cGs : (t : ITs) → (sc : Scope) → (F : Str → Bool) → (xs : List Expr) → Pf (OGs P w L mg base N k sc F t xs)
  | .nil, sc, F, [] => some ⟨rfl, rfl, fun Wx X C => kpgs_nil⟩
  | .cons t ts, sc, F, x :: xs => (match cG t sc F x, cGs ts sc F xs with
    | some ⟨p⟩, some ⟨ps⟩ => some ⟨by rw [List.all_cons, p.1, ps.1]; rfl, congrArg (· + 1) ps.2.1, fun Wx X C => kpgs_cons (p.2 Wx X C) (ps.2.2 Wx X C) (by rw [as_cons p.1]; rfl)⟩
    | _, _ => none)
  | _, _, _, _ => none
end
end
end KR

end
section
set_option Elab.async false
set_option linter.all false
set_option maxRecDepth 100000
set_option genSizeOf false
set_option maxHeartbeats 4000000
/-! The same: statements. -/
namespace KR
open PySem PySem.Spec PyProof.Rows L2
theorem sw2 {env : Env} {n m : Str} {px py pt pt2 : Pos} {kt k2 : Nat} {e1 e2 : Expr} (hk : env.blockKind = .function) (h1 : noStar e1 = true) (h2 : noStar e2 = true) (hn : env.kindOf n = some .local) (hm : env.kindOf m = some .local) (hl : px.line = py.line) (hd : (n == m) = false)
    (hf : (foldedForSure 8 e1 && foldedForSure 8 e2) = false) (hc : (constantsAlone 8 e1 && constantsAlone 8 e2) = false) : swappedStores [.Tuple [.Name n px, .Name m py] kt pt] (.Tuple [e1, e2] k2 pt2) env = pure (some [n, m]) := by
  have hd' : ¬ (m = n) := fun h => by rw [h] at hd; simp at hd
  have hd2 : ¬ (n = m) := fun h => hd' h.symm
  rw [Bool.and_eq_false_iff] at hf hc
  simp [swappedStores, hk, hn, hm, List.filterMap_cons, Expr.pos, hl, List.eraseDups_cons, hd', hd2]
  have st : ∀ e : Expr, noStar e = true → (match e with | .Starred .. => true | _ => false) = true → False := fun e a b => by cases e <;> first | exact absurd b Bool.false_ne_true | cases a
  rcases hf with hf | hf <;> rcases hc with hc | hc <;> simp [hf, hc] <;> intro h <;> exact (h.elim (st e1 h1) (st e2 h2)).elim
theorem sw3 {env : Env} {n m o : Str} {px py pz pt pt2 : Pos} {kt k2 : Nat} {e1 e2 e3 : Expr} (hk : env.blockKind = .function) (h1 : noStar e1 = true) (h2 : noStar e2 = true) (h3 : noStar e3 = true) (hn : env.kindOf n = some .local) (hm : env.kindOf m = some .local) (ho : env.kindOf o = some .local) (hl : px.line = py.line) (hl2 : px.line = pz.line) (hd : (n == m) = false) (hd2 : (n == o) = false) (hd3 : (m == o) = false)
    (hf : (foldedForSure 8 e1 && foldedForSure 8 e2 && foldedForSure 8 e3) = false) (hc : (constantsAlone 8 e1 && constantsAlone 8 e2 && constantsAlone 8 e3) = false) : swappedStores [.Tuple [.Name n px, .Name m py, .Name o pz] kt pt] (.Tuple [e1, e2, e3] k2 pt2) env = pure (some [n, m, o]) := by
  have a1 : ¬ (m = n) := fun h => by rw [h] at hd; simp at hd
  have a2 : ¬ (o = n) := fun h => by rw [h] at hd2; simp at hd2
  have a3 : ¬ (o = m) := fun h => by rw [h] at hd3; simp at hd3
  have hl3 : pz.line = py.line := hl2.symm.trans hl
  simp [swappedStores, hk, hn, hm, ho, List.filterMap_cons, Expr.pos, hl, hl3, List.eraseDups_cons, a1, a2, a3]
  rw [Bool.and_eq_false_iff, Bool.and_eq_false_iff] at hf hc
  have st : ∀ e : Expr, noStar e = true → (match e with | .Starred .. => true | _ => false) = true → False := fun e a b => by cases e <;> first | exact absurd b Bool.false_ne_true | cases a
  rcases hf with (hf | hf) | hf <;> rcases hc with (hc | hc) | hc <;> simp [hf, hc] <;> intro h <;> first | exact (h.elim (st e1 h1) fun h => h.elim (st e2 h2) (st e3 h3)).elim | exact (h.elim (fun h => h.elim (st e1 h1) (st e2 h2)) (st e3 h3)).elim
theorem swN {env : Env} {ts vs : List Expr} {pt pt2 : Pos} {kt k2 : Nat} (h : (ts.length == 2 || ts.length == 3) = false) : swappedStores [.Tuple ts kt pt] (.Tuple vs k2 pt2) env = pure none := by
  simp [swappedStores, h]
def plName (sc : Scope) : Expr → Bool
  | .Name n _ => sc.names.lookup n == some .local
  | _ => false
theorem swM {env : Env} {sc : Scope} {ts vs : List Expr} {pt pt2 : Pos} {kt k2 : Nat} (hs : env.scope = sc) (h : (ts.any fun e => !plName sc e) = true) : swappedStores [.Tuple ts kt pt] (.Tuple vs k2 pt2) env = pure none := by
  have : ∀ (f : Expr → Option Str) , (∀ e, (!plName sc e) = true → f e = none) → (ts.filterMap f).length ≠ ts.length := by
    intro f hf
    induction ts with
    | nil => cases h
    | cons e es ih =>
      rw [List.filterMap_cons]
      have le : (es.filterMap f).length ≤ es.length := List.length_filterMap_le f es
      cases q : f e with
      | none => simp only [List.length_cons]; omega
      | some s =>
        simp only [List.length_cons]
        have h' : (es.any fun e => !plName sc e) = true := by
          rw [List.any_cons] at h
          rcases Bool.or_eq_true_iff.mp h with z | z
          · rw [hf e z] at q; cases q
          · exact z
        have := ih h'
        omega
  unfold swappedStores
  simp only []
  split
  · rfl
  · split
    · rfl
    · rw [if_pos]
      rw [Bool.or_eq_true]
      left
      simp only [bne_iff_ne]
      apply this
      intro e he
      cases e <;> first | rfl | skip
      case Name n p =>
        have z : (sc.names.lookup n == some NameKind.local) = false := by simpa [plName] using he
        have z2 : (env.kindOf n == some NameKind.local) = false := by
          show (env.scope.names.lookup n == some NameKind.local) = false
          rw [hs]; exact z
        simp only [z2, Bool.false_and, Bool.false_eq_true, if_false]
theorem sw_no {x : Expr} {tg : Option Expr} {l : Nat} {env : Env} (h : noComp x = true) : swapsWith x tg l env = pure false := by
  cases x <;> first | rfl | cases h
theorem sw_tg {x tg : Expr} {l : Nat} {env : Env} (h : (match tg with | .Name .. => false | _ => true) = true) : swapsWithSole [tg] x l env = pure false := by
  cases tg <;> first | (cases x <;> rfl) | cases h
def lcSw (sc : Scope) (n : Str) (p cp : Pos) (scope : Scope) : Bool := sc.names.lookup n == some .local && p.line == cp.line && !(scope.names.any fun (m, k) => m == n && (k == .local || k == .cell))
theorem sw_lc {elt : Expr} {gs : List Comprehension} {scope sc : Scope} {cp p : Pos} {n : Str} {l : Nat} {env : Env} (hs : env.scope = sc) (hk : sc.kind = .function) : swapsWith (.ListComp elt gs scope cp) (some (.Name n p)) l env = pure (lcSw sc n p cp scope) := by
  have e : (env.blockKind == .function) = true := by
    unfold Env.blockKind
    rw [hs, hk]; rfl
  show (pure (env.blockKind == .function && env.kindOf n == some .local && p.line == cp.line && !(scope.names.any fun (m, k) => m == n && (k == .local || k == .cell))) : Sem Bool) = _
  rw [e]
  show (pure (true && env.scope.names.lookup n == some .local && p.line == cp.line && !(scope.names.any fun (m, k) => m == n && (k == .local || k == .cell))) : Sem Bool) = _
  rw [hs, Bool.true_and]; rfl
def notName : Expr → Bool
  | .Name .. => false
  | _ => true

section
variable (P : Program) (w : World) (L : Lay) (mg : Str → Option Value) (base : Heap) (N : List Str) (k : Nat) (G : Gb P w L mg base N k) (sc : Scope)
abbrev F1 : Str → Bool := fun _ => true
abbrev OS (i : IS) (s : Stmt) : Prop := ∀ (Ed : Ex → En → Prop) (Wx : WX) (X : Cx), Cxk P w L mg base N k sc F1 Wx X → PassesOwn (model X.prog X.w) X.A X.env X.xe → PS X s (tSt L Ed Wx i)
abbrev OSs (i : ISs) (s : List Stmt) : Prop := ∀ (Ed : Ex → En → Prop) (Wx : WX) (X : Cx), Cxk P w L mg base N k sc F1 Wx X → PassesOwn (model X.prog X.w) X.A X.env X.xe → PSs X s (tSs L Ed Wx i)
variable {P w L mg base N k}
theorem kind_of {Wx : WX} {X : Cx} (C : Cxk P w L mg base N k sc F1 Wx X) (hk : sc.kind = .function) : X.env.blockKind = .function := by
  unfold Env.blockKind
  rw [C.hsc, hk]; rfl
def fnB (sc : Scope) : Bool := match sc.kind with
  | .function => true
  | _ => false
theorem fn_of' {sc : Scope} (h : fnB sc = true) : sc.kind = .function := by
  unfold fnB at h
  split at h
  · assumption
  · cases h
/-- name = e -/
def cSet (i : Nat) (a : IE) (n : Str) (p pos : Pos) (x : Expr) : Pf (OS P w L mg base N k sc (.asg (.nm i) a) (.Assign [.Name n p] x pos)) :=
  if h : (eqN N i n && locF sc F1 n && fnB sc) = true then (match a, x with
    | .lc elt tg it cond own, .ListComp x [⟨t, y, ifs, 0⟩] scope cp => if hs : (lcSw sc n p cp scope) = true then
        (if h2 : (locB sc n && blkC N sc scope own && allNm tg.nms own) = true then
          (match cI G it sc F1 t y, cG G tg (relS scope sc) (fun x => scope.names.lookup x == some .cell) t, cTs G cond (relS scope sc) (fun x => scope.names.lookup x == some .cell) ifs, cE G elt (relS scope sc) (fun x => scope.names.lookup x == some .cell) x with
          | some ⟨pi⟩, some ⟨pg⟩, some ⟨pt⟩, some (⟨pe⟩, _) => some ⟨fun Ed Wx X C _ => by
              simp only [Bool.and_eq_true] at h h2
              obtain ⟨⟨hl, h21⟩, h22⟩ := h2
              exact kps_setLc C.calm (by rw [C.hN]; exact G.nd) (C.ix h.1.1) (C.loc hl) ((sw_lc C.hsc (fn_of' h.2)).trans (by rw [hs])) (pi.2 Ed Wx X C) (by rw [C.hN, C.hsc]; exact blkOk_by h21) (allNm_of h22) (fun s H A cl fp => pg.2 noW _ (C.blk s H scope cl A fp)) (fun s H A cl fp => pt _ (C.blk s H scope cl A fp))
                (fun s H A cl fp => pe noEx noW _ (C.blk s H scope cl A fp)) (noSet_of pi.1)⟩
          | _, _, _, _ => none) else none)
      else (match cE G (.lc elt tg it cond own) sc F1 (.ListComp x [⟨t, y, ifs, 0⟩] scope cp) with
        | some (⟨pa⟩, _) => some ⟨fun Ed Wx X C _ => by
            simp only [Bool.and_eq_true] at h
            exact kps_set (by rw [C.hN]; exact G.nd) (C.ix h.1.1) (C.st h.1.2).1 (pa Ed Wx X C) ((sw_lc C.hsc (fn_of' h.2)).trans (by rw [show lcSw sc n p cp scope = false by simpa using hs])) (C.st h.1.2).2⟩
        | none => none)
    | a, x => if hc : noComp x = true then (match cE G a sc F1 x with
        | some (⟨pa⟩, _) => some ⟨fun Ed Wx X C _ => by
            simp only [Bool.and_eq_true] at h
            exact kps_set (by rw [C.hN]; exact G.nd) (C.ix h.1.1) (C.st h.1.2).1 (pa Ed Wx X C) (sw_no hc) (C.st h.1.2).2⟩
        | none => none) else none) else none
def isTup : Expr → Bool
  | .Tuple .. => true
  | _ => false
def noSwp (sc : Scope) (tg x : Expr) : Bool := match tg, x with
  | .Tuple ts _ _, .Tuple vs _ _ => !(ts.length == 2 || ts.length == 3) || (ts.any fun e => !plName sc e)
  | .Tuple .., x => !isTup x
  | .Subscript .., _ => true
  | _, _ => false
theorem noSwp_of {tg x : Expr} {env : Env} {sc : Scope} (hs : env.scope = sc) (h : noSwp sc tg x = true) : swappedStores [tg] x env = pure none := by
  cases tg <;> first | (cases x <;> rfl) | cases h | skip
  case Tuple ts kt pt =>
    cases x <;> first | rfl | skip
    case Tuple vs k2 pt2 =>
      have h : (!(ts.length == 2 || ts.length == 3) || (ts.any fun e => !plName sc e)) = true := h
      rcases Bool.or_eq_true_iff.mp h with z | z
      · exact swN (by simpa using z)
      · exact swM hs z
def cAsg (t : IT) (a : IE) (tg : Expr) (x : Expr) (pos : Pos) : Pf (OS P w L mg base N k sc (.asg t a) (.Assign [tg] x pos)) :=
  if h : (noSwp sc tg x && notName tg) = true then (match t with
    | .nm _ => none
    | .tup ts => (match cE G a sc F1 x, cG G (.tup ts) sc F1 tg with
      | some (⟨pa⟩, _), some ⟨pg⟩ => some ⟨fun Ed Wx X C _ => by
          rw [Bool.and_eq_true] at h
          exact kps_asg (fun i e => by cases e) (pa Ed Wx X C) (pg.2 Wx X C) (sw_tg h.2) (noSwp_of C.hsc h.1) (by rw [as_cons pg.1]; rfl)⟩
      | _, _ => none)
    | .sub i j => (match cE G a sc F1 x, cG G (.sub i j) sc F1 tg with
      | some (⟨pa⟩, _), some ⟨pg⟩ => some ⟨fun Ed Wx X C _ => by
          rw [Bool.and_eq_true] at h
          exact kps_asg (fun i e => by cases e) (pa Ed Wx X C) (pg.2 Wx X C) (sw_tg h.2) (noSwp_of C.hsc h.1) (by rw [as_cons pg.1]; rfl)⟩
      | _, _ => none)) else none
def cPar (is : List Nat) (es : IEs) (tg x : Expr) (pos : Pos) : Pf (OS P w L mg base N k sc (.par is es) (.Assign [tg] x pos)) := match is, tg, x with
  | [i, j], .Tuple [.Name n px, .Name m py] kt pt, .Tuple [e1, e2] k2 pt2 =>
    if h : (eqN N i n && eqN N j m && locB sc n && locB sc m && fnB sc && !(n == m) && decide (px.line = py.line) && !(foldedForSure 8 e1 && foldedForSure 8 e2) && !(constantsAlone 8 e1 && constantsAlone 8 e2) && decide (i ≠ j)) = true then (match cEs G es sc F1 [e1, e2] with
      | some ⟨ps⟩ => some ⟨fun Ed Wx X C _ => by
          simp only [Bool.and_eq_true, Bool.not_eq_true', decide_eq_true_eq] at h
          obtain ⟨⟨⟨⟨⟨⟨⟨⟨⟨h1, h2⟩, h3⟩, h4⟩, h5⟩, h6⟩, h7⟩, h8⟩, h9⟩, h10⟩ := h
          have ns := ps.1
          simp only [List.all_cons, List.all_nil, Bool.and_eq_true, Bool.and_true] at ns
          exact kps_par C.calm (by rw [C.hN]; exact G.nd) (C.ix h1) (C.ix h2) h10 (C.loc h3) (C.loc h4) (ps.2 Ed Wx X C) (sw2 (kind_of sc C (fn_of' h5)) ns.1 ns.2 (C.loc h3) (C.loc h4) h7 h6 h8 h9)⟩
      | none => none) else none
  | [i, j, l], .Tuple [.Name n px, .Name m py, .Name o pz] kt pt, .Tuple [e1, e2, e3] k2 pt2 =>
    if h : (eqN N i n && eqN N j m && eqN N l o && locB sc n && locB sc m && locB sc o && fnB sc && !(n == m) && !(n == o) && !(m == o) && decide (px.line = py.line) && decide (px.line = pz.line) && !(foldedForSure 8 e1 && foldedForSure 8 e2 && foldedForSure 8 e3) && !(constantsAlone 8 e1 && constantsAlone 8 e2 && constantsAlone 8 e3) && decide (i ≠ j) && decide (i ≠ l) && decide (j ≠ l)) = true then (match cEs G es sc F1 [e1, e2, e3] with
      | some ⟨ps⟩ => some ⟨fun Ed Wx X C _ => by
          simp only [Bool.and_eq_true, Bool.not_eq_true', decide_eq_true_eq] at h
          obtain ⟨⟨⟨⟨⟨⟨⟨⟨⟨⟨⟨⟨⟨⟨⟨⟨h1, h2⟩, h3⟩, h4⟩, h5⟩, h6⟩, h7⟩, h8⟩, h9⟩, h10⟩, h11⟩, h12⟩, h13⟩, h14⟩, h15⟩, h16⟩, h17⟩ := h
          have ns := ps.1
          simp only [List.all_cons, List.all_nil, Bool.and_eq_true, Bool.and_true] at ns
          exact kps_par3 C.calm (by rw [C.hN]; exact G.nd) (C.ix h1) (C.ix h2) (C.ix h3) h15 h16 h17 (C.loc h4) (C.loc h5) (C.loc h6) (ps.2 Ed Wx X C) (sw3 (kind_of sc C (fn_of' h7)) ns.1 ns.2.1 ns.2.2 (C.loc h4) (C.loc h5) (C.loc h6) h11 h12 h8 h9 h10 h13 h14)⟩
      | none => none) else none
  | _, _, _ => none
mutual
def cS : (i : IS) → (s : Stmt) → Pf (OS P w L mg base N k sc i s)
  | .ex a, .Expr x pos => if h : noComp x = true then (match cE G a sc F1 x with
    | some (⟨pa⟩, _) => some ⟨fun Ed Wx X C _ => kps_ex (pa Ed Wx X C) (sw_no h)⟩
    | none => none) else none
  | .asg (.nm i) a, .Assign [.Name n p] x pos => cSet G sc i a n p pos x
  | .asg t a, .Assign [tg] x pos => cAsg G sc t a tg x pos
  | .par is es, .Assign [tg] x pos => cPar G sc is es tg x pos
  | .ret a, .Return (some x) pos => (match cE G a sc F1 x with
    | some (⟨pa⟩, _) => some ⟨fun Ed Wx X C _ => kps_ret (pa Ed Wx X C)⟩
    | none => none)
  | .ret (.cst .none), .Return none pos => some ⟨fun Ed Wx X C _ => kps_retN⟩
  | .ife c a b, .If z la lb pos => (match cE G c sc F1 z, cSs a la, cSs b lb with
    | some (_, some ⟨pt⟩), some ⟨pa⟩, some ⟨pb⟩ => some ⟨fun Ed Wx X C hp => kps_if (pt Ed Wx X C) (pa Ed Wx X C hp) (pb Ed Wx X C hp)⟩
    | _, _, _ => none)
  | .for_ t it b, .For tg y body [] pos => (match cI G it sc F1 tg y, cG G t sc F1 tg, cSs b body with
    | some ⟨pi⟩, some ⟨pg⟩, some ⟨pb⟩ => some ⟨fun Ed Wx X C hp => kps_for hp C.calm (pi.2 Ed Wx X C) (pg.2 Wx X C) (pb Ed Wx X C hp) (noSet_of pi.1)⟩
    | _, _, _ => none)
  | .while_ c b, .While z body [] pos => (match cE G c sc F1 z, cSs b body with
    | some (_, some ⟨pt⟩), some ⟨pb⟩ => some ⟨fun Ed Wx X C hp => kps_while hp (pt Ed Wx X C) (pb Ed Wx X C hp)⟩
    | _, _ => none)
  | .pass, .Pass pos => some ⟨fun Ed Wx X C _ => kps_pass⟩
  | .brk, .Break pos => some ⟨fun Ed Wx X C _ => kps_brk⟩
  | .cont, .Continue pos => some ⟨fun Ed Wx X C _ => kps_cont⟩
  | .never, s => some ⟨fun Ed Wx X C _ => kps_never⟩
  | _, _ => none
def cSs : (i : ISs) → (s : List Stmt) → Pf (OSs P w L mg base N k sc i s)
  | .nil, [] => some ⟨fun Ed Wx X C _ => kss_nil⟩
  | .cons i is, s :: ss => (match cS i s, cSs is ss with
    | some ⟨p⟩, some ⟨ps⟩ => some ⟨fun Ed Wx X C hp => kss_cons (p Ed Wx X C hp) (ps Ed Wx X C hp)⟩
    | _, _ => none)
  | _, _ => none
end
end
theorem get_pf {p : Prop} (o : Pf p) (h : o.isSome = true) : p := match o, h with
  | some ⟨q⟩, _ => q
/-- a def by its tree -/
theorem gn_tree {P : Program} {w : World} {L : Lay} {mg : Str → Option Value} {base : Heap} {x qual : Str} {params : Arguments} {body : List Stmt} {scope : Scope} {dvs : List V} {kws : List (Str × V)} {f : Addr} {fd : FuncData} {N : List Str} {k : Nat} {S : DSpec} {ib : ISs}
    (G : Gb P w L mg base N k) (F : FunD L.K x qual params body scope dvs kws f fd) (Sc : FnScope N S.ps scope) (hm : (cSs G scope ib body).isSome = true)
    (hw : ∀ as Qd Ed, as.length = S.ps.length → S.wp as Qd Ed → wpSs L.Γ (fun x _ => Ed x) ib (entry N as) (defFin Qd)) : GnOk P w L.K mg base (k + 1) f fd S.ps (lift L S) :=
  gn_def F Sc (fun Ed Wx X hp ho e1 e2 e3 e4 e5 e6 e7 e8 e9 e10 e11 => get_pf _ hm Ed Wx X ⟨e1, e2, e3, e4, e5, e6, e7, e8, e9, e10, e11, hp⟩ ho) hw
end KR

end
section
set_option Elab.async false
set_option linter.all false
set_option maxRecDepth 100000
set_option genSizeOf false
set_option maxHeartbeats 2000000
/-! The deck: a dict of a list (deep) and an int (state), that a law's draws change. -/
namespace KR
open PySem PySem.Spec PyProof.Rows L2

def kvDeck (l : Addr) (st : Int) : List (Key × V) := [(.inr "deep", .ref l), (.inr "state", .int st)]
def DeckAt (H : Hp) (pr : Addr → Prop) (q : Addr) : Prop := ∃ (l : Addr) (st : Int) (ds : List Int), H q = some (.dK (kvDeck l st)) ∧ H l = some (.lst (ds.map V.int)) ∧ l ≠ q ∧ ¬ pr q ∧ ¬ pr l ∧ 0 ≤ st ∧ (∀ d ∈ ds, 0 ≤ d) ∧ ds.length ≤ 64
def deckW : Wld where
  inv := DeckAt
  less := fun ⟨l, st, ds, h1, h2, h3, h4, h5, h6⟩ h => ⟨l, st, ds, h1, h2, h3, fun z => h4 (h _ z), fun z => h5 (h _ z), h6⟩
  stay := fun ⟨l, st, ds, h1, h2, h3, h4, h5, h6⟩ hk hp => ⟨l, st, ds, hk _ _ h1 h4, hk _ _ h2 h5, h3, fun z => (hp _ z).elim h4 (fun z => by rw [h1] at z; cases z), fun z => (hp _ z).elim h5 (fun z => by rw [h2] at z; cases z), h6⟩
/-- the deck has changed and nothing else that must stay -/
theorem StOk.world {W : Wld} {K : PySem.W.Frag} {A : Act} {B H H' : Hp} (S : StOk W K A B [] [] H) (h1 : ∀ a o, A.prot B [] [] a → H a = some o → H' a = some o) (h2 : ∀ a, H' a = none → H a = none) (h3 : ∀ q, A.dp = some q → W.inv H' (A.prot B [] []) q) : StOk W K A B [] [] H' :=
  ⟨S.b0, S.new, S.bu, fun a o e => h1 a o (.inr (.inl (by rw [e]; simp))) (S.bh a o e), fun a o e => h1 a o (.inl (by rw [e]; simp)) (S.uh a o e), fun a e => S.hh a (h2 a e), fun i s e => by simp at e, fun i j d e a q => by simp at q, h3, rfl⟩
/-- a list against the empty list -/
theorem op_neE {X : Cx} (hu : X.A.units + 64 < cLine) : OpR X (compareOp .NotEq) (fun x y H Q => ∃ a b xs, x = .ref a ∧ y = .ref b ∧ H a = some (.lst xs) ∧ H b = some (.lst []) ∧ Q (.bl (!xs.isEmpty)) H) := by
  intro pins s σ H x y v u Q I rx ry h
  obtain ⟨a, b, xs, ex, ey, ha, hb, q⟩ := h
  cases xs with
  | nil => exact op_neD hu pins s σ H x y v u Q I rx ry ⟨.list [], .list [], by subst ex; exact .lst (SqL.of ha) .nil, by subst ey; exact .lst (SqL.of hb) .nil, by decide, by decide, by rw [show PyData.eqv (.list []) (.list []) = true by decide]; exact q⟩
  | cons z zs =>
    subst ex; subst ey
    cases rx; cases ry
    obtain ⟨its, rv, pl, _⟩ := I.list (SqL.of ha)
    obtain ⟨its2, rv2, pl2, _⟩ := I.list (SqL.of hb)
    have hn : its.length ≠ its2.length := by rw [← rv.length, ← rv2.length]; simp
    exact SeqAt.RcNeAt.lists_lengths pl.isList pl2.isList (by simpa using hn) (by omega) X.prog X.w X.xe _ ⟨.bl true, H, I, rfl, q⟩
def drawS : DSpec := ⟨true, ["deck", "many"], fun as Qd _ => ∃ m : Int, as = [.dk, .d (.int m)] ∧ m < 2 ^ 62 ∧ ∀ r : Int, 0 ≤ r → (r < m ∨ r = 0) → Qd (.im (.int r))⟩

abbrev rNeE : R2 := fun x y H Q => ∃ a b xs, x = .ref a ∧ y = .ref b ∧ H a = some (.lst xs) ∧ H b = some (.lst []) ∧ Q (.bl (!xs.isEmpty)) H
abbrev rInt1 : List V → Hp → VK → Prop := fun xs H Q => (∃ i, xs = [.int i] ∧ Q (.int i) H) ∨ ∃ k, xs = [.bl k] ∧ Q (.int (if k then 1 else 0)) H
abbrev tInt (t : TE) : TE := tCB rInt1 (tCons t tNil)
abbrev dkT (x : Str) : TE := tDGet (tVar 0) (tC (.str x))
abbrev rModI : R2 := rI (fun _ j => 0 < j) fun i j => .int (i % j)
abbrev rMulI : R2 := rI IntMulOk fun i j => .int (i * j)
abbrev rAddI : R2 := rI0 fun i j => .int (i + j)
abbrev rDivI : R2 := rI CDivW fun i j => .int (i / j)
/-- what a draw does -/
def drawT (K : PySem.W.Frag) : TS :=
  tSeq (tIfS (tTest (tOp (rI0 fun i j => .bl (decide (i < j))) (tVar 1) (tC (.int 2)))) (tSeq (tRet (tC (.int 0))) tNext) tNext)
  (tSeq (tIfS (tTest (tOp rNeE (dkT "deep") (tLst tNil)))
    (tSeq (tAsg (tBM0 K "list" rPop (dkT "deep")) (gName 4))
    (tSeq (tIfS (tTest (tOp (rI0 fun i j => .bl (decide (j ≤ i))) (tVar 4) (tVar 1))) (tSeq (tDrop (tBM K "list" rAppend (dkT "deep") (tCons (tOp rDivI (tVar 4) (tVar 1)) tNil))) tNext) tNext)
    (tSeq (tRet (tOp rModI (tInt (tVar 4)) (tVar 1))) tNext))) tNext)
  (tSeq (tAsg (tOp rModI (tInt (tOp rAddI (tOp rMulI (dkT "state") (tC (.int 1181783497276652981))) (tC (.int 88172645463325)))) (tC (.int 2305843009213693951))) (gName 2))
  (tSeq (tAsg (tVar 2) (gSub (tVar 0) (tC (.str "state")) rSetD))
  (tSeq (tAsg (tOp rModI (tInt (tOp rAddI (tOp rAddI (tOp rMulI (tVar 2) (tVar 2)) (tOp rMulI (tC (.int 374761393)) (tVar 2))) (tC (.int 11)))) (tC (.int 2305843009213693921))) (gName 3))
  (tSeq (tRet (tOp rModI (tInt (tOp rDivI (tVar 3) (tC (.int 1048576)))) (tVar 1))) tNext)))))
theorem val_deep (l : Addr) (st : Int) : valV (kvDeck l st) (.inr "deep") = some (.ref l) := by
  unfold valV kvDeck
  rw [List.find?_cons_of_pos (by exact decide_eq_true rfl)]; rfl
theorem deep_ne : (Sum.inr "deep" : Key) ≠ .inr "state" := by decide +kernel
theorem val_state (l : Addr) (st : Int) : valV (kvDeck l st) (.inr "state") = some (.int st) := by
  unfold valV kvDeck
  simp
  decide +kernel
theorem put_state (l : Addr) (st i : Int) : putK (kvDeck l st) (.inr "state") (.int i) = kvDeck l i := by
  have e1 := deep_ne
  unfold putK kvDeck
  rw [if_pos (by simp)]
  simp [e1]
theorem log_small {m : Int} (h : m < 2 ^ 62) (h0 : 0 ≤ m) : m.natAbs.log2 < 9000 := by
  have : m.natAbs < 2 ^ 62 := by omega
  by_cases hz : m.natAbs = 0
  · rw [hz]; decide
  · have := (Nat.log2_lt hz).mpr this; omega
theorem draw_pure {K K' : PySem.W.Frag} {A : Act} {B H : Hp} {q : Addr} {m : Int} {F : Ends} (S : StOk deckW K A B [] [] H) (hq : A.dp = some q) (hm : m < 2 ^ 62) (one : ∀ z, A.dp = some z → z = q)
    (hr : ∀ r H', 0 ≤ r → (r < m ∨ r = 0) → StOk deckW K A B [] [] H' → F.rt (.int r) H') : drawT K' F [some (.ref q), some (.int m), none, none, none] H := by
  obtain ⟨l, st, ds, h1, h2, h3, h4, h5, h6, h7, h8⟩ := S.wd q hq
  refine ⟨.int m, rfl, m, 2, rfl, rfl, _, rfl, ?_⟩
  by_cases h : m < 2
  · dsimp only
    rw [if_pos (decide_eq_true h)]
    exact hr 0 H (Int.le_refl _) (.inr rfl) S
  · dsimp only
    rw [if_neg (by rw [decide_eq_false h]; decide)]
    refine ⟨.ref q, rfl, q, .ref l, rfl, ?_, ?_⟩
    · have := DGet.k (k := .inr "deep") h1
      rw [val_deep] at this
      exact this
    refine ⟨by rw [sizeLine_eq]; decide, fun p hp => ?_⟩
    have np : q ≠ p := fun z => by subst z; rw [h1] at hp; cases hp
    have lp : l ≠ p := fun z => by subst z; rw [h2] at hp; cases hp
    have e1 : upd H p (.lst []) q = some (.dK (kvDeck l st)) := by rw [upd_ne np]; exact h1
    have e2 : upd H p (.lst []) l = some (.lst (ds.map V.int)) := by rw [upd_ne lp]; exact h2
    have bl2 : sizeLine > 65 := by rw [sizeLine_eq]; decide
    -- the change is within the deck
    have fin : ∀ (o' : HO) (a : Addr), (a = q ∨ a = l) → ∀ (l' : Addr) (st' : Int) (ds' : List Int), l' = l → upd (upd H p (.lst [])) a o' q = some (.dK (kvDeck l st')) → upd (upd H p (.lst [])) a o' l = some (.lst (ds'.map V.int)) → 0 ≤ st' → (∀ d ∈ ds', 0 ≤ d) → ds'.length ≤ 64 → StOk deckW K A B [] [] (upd (upd H p (.lst [])) a o') := by
      intro o' a ha l' st' ds' _ g1 g2 g3 g4 g5
      refine S.world (fun b o hb e => ?_) (fun b e => ?_) (fun z hz => ?_)
      · have nb : b ≠ a := fun z => by
          rcases ha with y | y
          · exact h4 (by rw [← y, ← z]; exact hb)
          · exact h5 (by rw [← y, ← z]; exact hb)
        rw [upd_ne nb, upd_ne (fun z => by rw [z, hp] at e; cases e)]; exact e
      · by_cases hb : b = a
        · subst hb; rw [upd_same] at e; cases e
        · rw [upd_ne hb] at e
          by_cases hbp : b = p
          · subst hbp; exact hp
          · rw [upd_ne hbp] at e; exact e
      · rw [one z hz]; exact ⟨l, st', ds', g1, g2, h3, h4, h5, g3, g4, g5⟩
    refine ⟨l, p, ds.map V.int, rfl, rfl, e2, upd_same, _, rfl, ?_⟩
    cases ds with
    | cons d0 dr =>
      rw [if_pos (by rfl)]
      generalize hds : d0 :: dr = ds at *
      have hne : 0 < ds.length := by rw [← hds]; simp
      have lst : ∃ w, ds[ds.length - 1]? = some w := ⟨ds[ds.length - 1], List.getElem?_eq_getElem (by omega)⟩
      obtain ⟨w, hw⟩ := lst
      have w0 : 0 ≤ w := h7 w (List.mem_of_getElem? hw)
      refine ⟨.ref q, rfl, q, .ref l, rfl, by have := DGet.k (k := .inr "deep") e1; rw [val_deep] at this; exact this, ?_⟩
      refine ⟨.inl ⟨rfl, _, SqL.of e2⟩, l, ds.map V.int, .int w, rfl, rfl, e2, by rw [List.length_map, List.getElem?_map, hw]; rfl, ?_⟩
      have dl : (ds.map V.int).dropLast = ds.dropLast.map V.int := by rw [List.map_dropLast]
      rw [dl]
      have g1 : upd (upd H p (.lst [])) l (.lst (ds.dropLast.map V.int)) q = some (.dK (kvDeck l st)) := by rw [upd_ne (Ne.symm h3)]; exact e1
      have dpos : ∀ d ∈ ds.dropLast, 0 ≤ d := fun d hd => h7 d ((List.dropLast_sublist ds).mem hd)
      refine ⟨.int w, rfl, .int m, rfl, w, m, rfl, rfl, _, rfl, ?_⟩
      have last : ∀ H', StOk deckW K A B [] [] H' → tSeq (tRet (tOp rModI (tInt (tVar 4)) (tVar 1))) tNext F [some (.ref q), some (.int m), none, none, some (.int w)] H' := fun H' S' => by
        refine ⟨.int w, rfl, .inl ⟨w, rfl, .int m, rfl, w, m, rfl, rfl, by omega, ?_⟩⟩
        exact hr _ H' (Int.emod_nonneg _ (by omega)) (.inl (Int.emod_lt_of_pos _ (by omega))) S'
      by_cases hwm : m ≤ w
      · dsimp only
        rw [if_pos (decide_eq_true hwm)]
        refine ⟨.ref q, rfl, q, .ref l, rfl, by have := DGet.k (k := .inr "deep") g1; rw [val_deep] at this; exact this, .inl ⟨rfl, _, SqL.of upd_same⟩, ?_⟩
        refine ⟨.int w, rfl, .int m, rfl, w, m, rfl, rfl, ⟨by omega, log_small hm (by omega)⟩, ?_⟩
        have ll : ds.dropLast.length = ds.length - 1 := List.length_dropLast
        refine ⟨l, ds.dropLast.map V.int, .int (w / m), rfl, rfl, upd_same, by rw [List.length_map, ll]; omega, ?_⟩
        rw [upd_upd]
        refine last _ (fin _ l (.inr rfl) l st (ds.dropLast ++ [w / m]) rfl (by rw [upd_ne (Ne.symm h3)]; exact e1) (by rw [upd_same, List.map_append]; rfl) h6 (fun d hd => ?_) (by rw [List.length_append, List.length_singleton, ll]; omega))
        rcases List.mem_append.mp hd with z | z
        · exact dpos d z
        · rw [List.mem_singleton.mp z]; exact Int.ediv_nonneg w0 (by omega)
      · dsimp only
        rw [if_neg (by rw [decide_eq_false hwm]; decide)]
        exact last _ (fin _ l (.inr rfl) l st ds.dropLast rfl g1 upd_same h6 dpos (by rw [List.length_dropLast]; omega))
    | nil =>
      rw [if_neg (by decide)]
      have gs : DGet (upd H p (.lst [])) q (.str "state") (some (.int st)) := by have := DGet.k (k := .inr "state") e1; rw [val_state] at this; exact this
      refine ⟨.ref q, rfl, q, .int st, rfl, gs, st, 1181783497276652981, rfl, rfl, IntMulOk.of_right (by decide), st * 1181783497276652981, 88172645463325, rfl, rfl, .inl ⟨_, rfl, _, _, rfl, rfl, (show (0 : Int) < 2305843009213693951 by decide), ?_⟩⟩
      dsimp only
      generalize ho : (st * 1181783497276652981 + 88172645463325) % 2305843009213693951 = one
      have o1 : 0 ≤ one := by rw [← ho]; exact Int.emod_nonneg _ (by decide)
      have o2 : one < 2305843009213693951 := by rw [← ho]; exact Int.emod_lt_of_pos _ (by decide)
      refine ⟨.int one, rfl, .ref q, rfl, q, _, rfl, DPut.k (k := .inr "state") e1 (by show 2 < sizeLine; omega), ?_⟩
      rw [put_state]
      have S' := fin (.dK (kvDeck l one)) q (.inl rfl) l one [] rfl upd_same (by rw [upd_ne h3]; exact e2) o1 (fun d hd => by cases hd) (by simp)
      have b1 : Builtin.Int.intBits one ≤ 64 := PySem.intBits_le_64 (by omega) (by omega)
      refine ⟨.int one, rfl, .int one, rfl, one, one, rfl, rfl, IntMulOk.of_left b1, .int one, rfl, 374761393, one, rfl, rfl, IntMulOk.of_left (by decide), _, _, rfl, rfl, _, _, rfl, rfl, .inl ⟨_, rfl, _, _, rfl, rfl, (show (0 : Int) < 2305843009213693921 by decide), ?_⟩⟩
      dsimp only
      generalize ((one * one + 374761393 * one) + 11) % 2305843009213693921 = two
      refine ⟨.int two, rfl, two, 1048576, rfl, rfl, ⟨by decide, by decide⟩, .inl ⟨_, rfl, .int m, rfl, _, _, rfl, rfl, by omega, ?_⟩⟩
      exact hr _ _ (Int.emod_nonneg _ (by omega)) (.inl (Int.emod_lt_of_pos _ (by omega))) S'

/-! ### the deck made -/
abbrev tCut (K : PySem.W.Frag) : TE := tSl (rSlL K) (tVar 0) (fun σ H Q => Q none H) (tPart (tC (.int 63)))
abbrev rLen1 (K : PySem.W.Frag) : List V → Hp → VK → Prop := fun xs H Q => ∃ x n, xs = [x] ∧ LenV K x H n ∧ Q (.int n) H
abbrev rAbs1 : List V → Hp → VK → Prop := fun xs H Q => ∃ i, xs = [.int i] ∧ Q (.int (if i < 0 then -i else i)) H
abbrev rCat1 : R2 := fun x y H Q => ∃ a b xs ys, x = .ref a ∧ y = .ref b ∧ H a = some (.lst xs) ∧ H b = some (.lst ys) ∧ xs.length + ys.length ≤ sizeLine ∧ ∀ p, H p = none → Q (.ref p) (upd H p (.lst (xs ++ ys)))
abbrev dkV (x : Str) : TE := tDGet (tVar 1) (tC (.str x))
def deckB (K : PySem.W.Frag) : TS :=
  tSeq (tAsg (tCB rAbs1 (tCons (tVar 2) tNil)) (gName 3))
  (tSeq (tIfS (tTest (tOp (rI0 fun i j => .bl (decide (j ≤ i))) (tVar 3) (tOp (rI CPow fun i j => .int (i ^ j.toNat)) (tC (.int 10)) (tC (.int 18)))))
    (tSeq (tAsg (tOp rCat1 (tLst (tCons (tVar 3) tNil)) (dkV "deep")) (gSub (tVar 1) (tC (.str "deep")) rSetD)) tNext) tNext)
  (tSeq (tAsg (tOp rAddI (tOp rMulI (tOp rAddI (tOp rAddI (tOp rAddI (dkV "state") (tOp rMulI (tC (.int 2)) (tVar 3))) (tInt (tOp (rI0 fun i j => .bl (decide (i < j))) (tVar 2) (tC (.int 0))))) (tC (.int 1))) (tC (.int 1181783497276652981))) (tC (.int 521288629))) (gName 4))
  (tSeq (tAsg (tOp rModI (tInt (tVar 4)) (tC (.int 2305843009213693951))) (gSub (tVar 1) (tC (.str "state")) rSetD)) tNext)))
def deckT (K : PySem.W.Frag) (c0 : Int) : TS :=
  tSeq (tAsg (tDisp [(tC (.str "deep"), tLst tNil), (tC (.str "state"), tOp rAddI (tC (.int c0)) (tCB (rLen1 K) (tCons (tCut K) tNil)))]) (gName 1))
  (tSeq (tFor (iList K (tCut K)) (gName 2) (deckB K))
  (tSeq (tRet (tVar 1)) tNext))
theorem put_deep (l l' : Addr) (st : Int) : putK (kvDeck l st) (.inr "deep") (.ref l') = kvDeck l' st := by
  have e1 : ¬ ((Sum.inr "state" : Key) = .inr "deep") := fun h => deep_ne h.symm
  unfold putK kvDeck
  rw [if_pos (by simp)]
  simp [e1]
theorem merge_deck (l : Addr) (st : Int) : mergeK [] (kvDeck l st) = kvDeck l st := by
  have e1 := deep_ne
  unfold mergeK kvDeck putK
  simp [e1]
def spDeck (K : PySem.W.Frag) : Sp := fun vs H Q _ => ∃ (a : Addr) (ns : List Int), vs = [.ref a] ∧ SqL K H a (ns.map V.int) ∧ ns.length ≤ 63 ∧ ∀ q H', DeckAt H' (fun _ => False) q → (∀ b o, H b = some o → H' b = some o) → Q (.ref q) H'
theorem deck_pure {K : PySem.W.Frag} {c0 : Int} {H : Hp} {a : Addr} {ns : List Int} {F : Ends} (hc : 0 ≤ c0) (hs : SqL K H a (ns.map V.int)) (hn : ns.length ≤ 63)
    (hr : ∀ q H', DeckAt H' (fun _ => False) q → (∀ b o, H b = some o → H' b = some o) → F.rt (.ref q) H') : deckT K c0 F [some (.ref a), none, none, none, none] H := by
  have bl2 : sizeLine > 200 := by rw [sizeLine_eq]; decide
  have mono : ∀ {H H' : Hp} {xs : List V}, Sub H H' → SqL K H a xs → SqL K H' a xs := fun h r => by
    rcases r with r | r
    · exact .inl (h.rd r)
    · exact .inr r
  let zs : List Int := (ns.drop (HT.sIx ns.length 0 none)).take (HT.sIx ns.length ns.length (some 63) - HT.sIx ns.length 0 none)
  have cutm : cutV (ns.map V.int) none (some 63) = zs.map V.int := by
    unfold cutV
    rw [List.length_map, ← List.map_drop, ← List.map_take]
  have zl : zs.length ≤ 63 := Nat.le_trans (by show (List.take _ _).length ≤ ns.length; rw [List.length_take, List.length_drop]; omega) hn
  refine fun q0 hq0 => ⟨by show (0 : Nat) ≤ _; omega, fun l hl => ?_⟩
  have lq : l ≠ q0 := fun z => by subst z; rw [upd_same] at hl; cases hl
  have hl0 : H l = none := by rw [upd_ne lq] at hl; exact hl
  have sub1 : Sub H (upd (upd H q0 (.dK [])) l (.lst [])) := (Sub.new hq0).trans (Sub.new hl)
  refine ⟨.ref a, rfl, 63, rfl, a, ns.map V.int, rfl, mono sub1 hs, fun t ht => ?_⟩
  rw [cutm]
  have tq : q0 ≠ t := fun z => by subst z; rw [upd_ne (Ne.symm lq), upd_same] at ht; cases ht
  have tl : l ≠ t := fun z => by subst z; rw [upd_same] at ht; cases ht
  refine ⟨.ref t, zs.length, rfl, .inl ⟨zs.map V.int, SqL.of upd_same, by rw [List.length_map]⟩, c0, (zs.length : Nat), rfl, rfl, ?_⟩
  generalize hst : c0 + ((zs.length : Nat) : Int) = st0
  have st0p : 0 ≤ st0 := by omega
  have sub2 := sub1.trans (Sub.new (o := .lst (zs.map V.int)) ht)
  generalize hH2 : upd (upd (upd H q0 (.dK [])) l (.lst [])) t (.lst (zs.map V.int)) = H2 at *
  have q2 : H2 q0 = some (.dK []) := by rw [← hH2, upd_ne tq, upd_ne (Ne.symm lq), upd_same]
  have l2 : H2 l = some (.lst []) := by rw [← hH2, upd_ne tl, upd_same]
  refine ⟨q2, kvDeck l st0, by rw [← hst]; rfl, by show 2 ≤ 15; decide, ?_⟩
  rw [merge_deck]
  have sub3 : Sub H (upd H2 q0 (.dK (kvDeck l st0))) := fun b o e => by
    by_cases z : b = q0
    · subst z; rw [hq0] at e; cases e
    · rw [upd_ne z]; exact sub2 b o e
  refine ⟨.ref a, rfl, 63, rfl, a, ns.map V.int, rfl, mono sub3 hs, fun t2 ht2 => ?_⟩
  rw [cutm]
  refine ⟨t2, rfl, ⟨_, SqL.of upd_same⟩, ?_⟩
  have q3 : upd H2 q0 (.dK (kvDeck l st0)) q0 = some (.dK (kvDeck l st0)) := upd_same
  have l3 : upd H2 q0 (.dK (kvDeck l st0)) l = some (.lst []) := by rw [upd_ne lq]; exact l2
  generalize upd H2 q0 (.dK (kvDeck l st0)) = H3 at *
  have tq2 : q0 ≠ t2 := fun z => by subst z; rw [q3] at ht2; cases ht2
  have tl2 : l ≠ t2 := fun z => by subst z; rw [l3] at ht2; cases ht2
  refine for_list (xs := zs.map V.int) (fun i σ H' => ∃ (l : Addr) (st : Int) (ds : List Int) (x2 x3 x4 : Option V), σ = [some (.ref a), some (.ref q0), x2, x3, x4] ∧ H' q0 = some (.dK (kvDeck l st)) ∧ H' l = some (.lst (ds.map V.int)) ∧ l ≠ q0 ∧ l ≠ t2 ∧ 0 ≤ st ∧ (∀ d ∈ ds, 0 ≤ d) ∧ ds.length ≤ i ∧ i ≤ 63 ∧ H' t2 = some (.lst (zs.map V.int)) ∧ Sub H H') ?_ ?_ ?_ ?_
  · exact ⟨l, st0, [], none, none, none, rfl, by rw [upd_ne tq2]; exact q3, by rw [upd_ne tl2]; exact l3, lq, tl2, st0p, (fun d hd => by cases hd), Nat.le_refl _, Nat.zero_le _, upd_same, sub3.trans (Sub.new ht2)⟩
  · rintro i σ H' _ ⟨l, st, ds, x2, x3, x4, rfl, g1, g2, g3, g4, g5, g6, g7, g8, g9, g10⟩
    exact SqL.of g9
  · rintro i x σ H' hx ⟨l, st, ds, x2, x3, x4, rfl, g1, g2, g3, g4, g5, g6, g7, g8, g9, g10⟩
    have hi : i < zs.length := by
      have := (List.getElem?_eq_some_iff.mp hx).1
      rw [List.length_map] at this; exact this
    obtain ⟨z, rfl⟩ : ∃ z : Int, x = .int z := by
      rw [List.getElem?_map] at hx
      cases e : zs[i]? with
      | none => rw [e] at hx; cases hx
      | some z => rw [e] at hx; exact ⟨z, (Option.some.inj hx).symm⟩
    refine ⟨.int z, rfl, z, rfl, ?_⟩
    dsimp only
    have wp : 0 ≤ (if z < 0 then -z else z) := by split <;> omega
    generalize (if z < 0 then -z else z) = wh at wp
    -- the two last stores, from a deck with a list l'
    have rest : ∀ (l' : Addr) (ds' : List Int) (H5 : Hp), H5 q0 = some (.dK (kvDeck l' st)) → H5 l' = some (.lst (ds'.map V.int)) → l' ≠ q0 → l' ≠ t2 → (∀ d ∈ ds', 0 ≤ d) → ds'.length ≤ i + 1 → H5 t2 = some (.lst (zs.map V.int)) → Sub H H5 →
        tSeq (tAsg (tOp rAddI (tOp rMulI (tOp rAddI (tOp rAddI (tOp rAddI (dkV "state") (tOp rMulI (tC (.int 2)) (tVar 3))) (tInt (tOp (rI0 fun i j => .bl (decide (i < j))) (tVar 2) (tC (.int 0))))) (tC (.int 1))) (tC (.int 1181783497276652981))) (tC (.int 521288629))) (gName 4))
          (tSeq (tAsg (tOp rModI (tInt (tVar 4)) (tC (.int 2305843009213693951))) (gSub (tVar 1) (tC (.str "state")) rSetD)) tNext)
          { F with nx := fun σ H' => ∃ (l : Addr) (st : Int) (ds : List Int) (x2 x3 x4 : Option V), σ = [some (.ref a), some (.ref q0), x2, x3, x4] ∧ H' q0 = some (.dK (kvDeck l st)) ∧ H' l = some (.lst (ds.map V.int)) ∧ l ≠ q0 ∧ l ≠ t2 ∧ 0 ≤ st ∧ (∀ d ∈ ds, 0 ≤ d) ∧ ds.length ≤ i + 1 ∧ i + 1 ≤ 63 ∧ H' t2 = some (.lst (zs.map V.int)) ∧ Sub H H' } [some (.ref a), some (.ref q0), some (.int z), some (.int wh), x4] H5 := by
      intro l' ds' H5 k1 k2 k3 k4 k5 k6 k7 k8
      have gs : DGet H5 q0 (.str "state") (some (.int st)) := by have := DGet.k (k := .inr "state") k1; rw [val_state] at this; exact this
      refine ⟨.ref q0, rfl, q0, .int st, rfl, gs, .int wh, rfl, 2, wh, rfl, rfl, IntMulOk.of_left (by decide), st, 2 * wh, rfl, rfl, .int z, rfl, z, 0, rfl, rfl, .inr ⟨_, rfl, _, _, rfl, rfl, _, _, rfl, rfl, _, _, rfl, rfl, IntMulOk.of_right (by decide), _, _, rfl, rfl, ?_⟩⟩
      dsimp only
      generalize ((st + 2 * wh + (if decide (z < 0) = true then 1 else 0) + 1) * 1181783497276652981 + 521288629) = s1
      refine ⟨.int s1, rfl, .inl ⟨_, rfl, _, _, rfl, rfl, (show (0 : Int) < 2305843009213693951 by decide), .ref q0, rfl, q0, _, rfl, DPut.k (k := .inr "state") k1 (by show 2 < sizeLine; omega), ?_⟩⟩
      rw [put_state]
      refine ⟨l', _, ds', _, _, _, rfl, upd_same, by rw [upd_ne k3]; exact k2, k3, k4, Int.emod_nonneg _ (by decide), k5, k6, by omega, by rw [upd_ne (Ne.symm tq2)]; exact k7, fun b o e => ?_⟩
      by_cases zz : b = q0
      · subst zz; rw [hq0] at e; cases e
      · rw [upd_ne zz]; exact k8 b o e
    refine ⟨.int wh, rfl, 10, 18, rfl, rfl, ⟨by decide, by decide, by decide⟩, wh, _, rfl, rfl, _, rfl, ?_⟩
    dsimp only
    by_cases hw : (10 : Int) ^ (18 : Int).toNat ≤ wh
    · rw [if_pos (decide_eq_true hw)]
      refine ⟨.int wh, rfl, by show 1 ≤ sizeLine; omega, fun t3 ht3 => ?_⟩
      have n3 : q0 ≠ t3 := fun z => by subst z; rw [g1] at ht3; cases ht3
      have n4 : l ≠ t3 := fun z => by subst z; rw [g2] at ht3; cases ht3
      have n5 : t2 ≠ t3 := fun z => by subst z; rw [g9] at ht3; cases ht3
      have e1 : upd H' t3 (.lst [.int wh]) q0 = some (.dK (kvDeck l st)) := by rw [upd_ne n3]; exact g1
      refine ⟨.ref q0, rfl, q0, .ref l, rfl, by have := DGet.k (k := .inr "deep") e1; rw [val_deep] at this; exact this, t3, l, [.int wh], ds.map V.int, rfl, rfl, upd_same, by rw [upd_ne n4]; exact g2, by rw [List.length_map]; simp only [List.length_singleton]; omega, fun t4 ht4 => ?_⟩
      have m1 : q0 ≠ t4 := fun z => by subst z; rw [e1] at ht4; cases ht4
      have m2 : t2 ≠ t4 := fun z => by subst z; rw [upd_ne n5, g9] at ht4; cases ht4
      have e2 : upd (upd H' t3 (.lst [.int wh])) t4 (.lst ([.int wh] ++ ds.map V.int)) q0 = some (.dK (kvDeck l st)) := by rw [upd_ne m1]; exact e1
      refine ⟨.ref q0, rfl, q0, _, rfl, DPut.k (k := .inr "deep") e2 (by show 2 < sizeLine; omega), ?_⟩
      rw [put_deep]
      refine rest t4 (wh :: ds) _ upd_same (by rw [upd_ne (Ne.symm m1), upd_same]; rfl) (Ne.symm m1) (Ne.symm m2) (fun d hd => ?_) (by rw [List.length_cons]; omega) (by rw [upd_ne (Ne.symm tq2), upd_ne m2, upd_ne n5]; exact g9) fun b o e => ?_
      · rcases List.mem_cons.mp hd with y | y
        · rw [y]; exact wp
        · exact g6 d y
      · by_cases zz : b = q0
        · subst zz; rw [hq0] at e; cases e
        · rw [upd_ne zz]; exact ((Sub.new ht3).trans (Sub.new ht4)) b o (g10 b o e)
    · rw [if_neg (by rw [decide_eq_false hw]; decide)]
      exact rest l ds H' g1 g2 g3 g4 g6 (by omega) g9 g10
  · rintro σ H' ⟨l, st, ds, x2, x3, x4, rfl, g1, g2, g3, g4, g5, g6, g7, g8, g9, g10⟩
    exact ⟨.ref q0, rfl, hr q0 H' ⟨l, st, ds, g1, g2, g3, fun z => z, fun z => z, g5, g6, by omega⟩ g10⟩

/-- a call by any promise -/
theorem gpe_call {X : Cx} {k : Nat} {f : Addr} {fd : FuncData} {ps : List Str} {sp : Sp} {Wx : WX} {x : Str} {p pos : Pos} {e : Expr} {xs : List Expr} {t : TA} (G : GnOk X.prog X.w X.K X.mg X.base k f fd ps sp) (hr : Room k X.A) (hgd : X.A.guards = some []) (hp : ∀ σ, PassesAt (L2.CX X.prog X.w) X σ (WE Wx σ)) (hg : Gl X x) (hm : X.mg x = some (.ref f))
    (hk : PySem.W.keepIn X.K (.ref f) = true) (hb : Binds X.K fd ps []) (ha : PA X (e :: xs) t) (hdb : (x == ("__debug__" : Str)) = false) (he : starEach (e :: xs) X.env = (false, eval e X.env) :: starEach xs X.env) (hpl : (backTo pos (starEach xs X.env)).any (·.1) = false) :
    PE X (.Call (.Name x p) (e :: xs) [] pos) (fun σ H Q => t σ H fun vs H1 => sp vs H1 Q (WE Wx σ)) := by
  refine ⟨fun pins s σ H Q I h => ?_⟩
  apply wpAny_Call_Name_kw (ld_glob I hg hm _ hdb)
  refine PySem.W.callWith_K (h₀ := X.base) I.ok.mod.kin hk (thn (ha.run pos pins s σ H _ I h) fun us s1 ⟨vs, H1, I1, r, q⟩ => ⟨I1.kIn, ?_⟩) he hpl
  have hl : us.length = ps.length := r.length.symm.trans (G.n q)
  have b := hb s1 us I1.kIn (by rw [List.append_nil]; exact hl)
  rw [List.append_nil] at b
  exact gn_run G hr hgd (hp σ) I1 b r q
/-- the law's own slots behind the deck -/
def lawE (n : Nat) : En := .no :: .dk :: List.replicate n .no
def lawF : Fin' := defFin fun r => r = .im (.bool true)
def spLaw (K : PySem.W.Frag) : Sp := fun vs H Q _ => ∃ (a : Addr) (ns : List Int), vs = [.ref a] ∧ SqL K H a (ns.map V.int) ∧ ns.length ≤ 63 ∧ ∀ H', Q (.bl true) H'
/-- behind the deck: the plain law -/
theorem law_after {L : Lay} {Wx : WX} {N : List Str} {ib : ISs} {a q : Addr} {H' : Hp} {Q : VK} (hL : L.W = deckW) (hN : 2 ≤ N.length) (hd : DeckAt H' (fun _ => False) q) (hw : wpSs L.Γ noEx ib (lawE (N.length - 2)) lawF) (hq : ∀ H', Q (.bl true) H') :
    tSs L noEx Wx ib { nx := fun _ H' => Q .non H', rt := Q } ((L2.start N [.ref a]).set 1 (some (.ref q))) H' := by
  let A : Act := { B0 := fun _ => none, U0 := fun _ => none, H0 := fun _ => none, dp := some q }
  obtain ⟨m, hm⟩ : ∃ m, N.length = m + 2 := ⟨N.length - 2, by omega⟩
  have est : (L2.start N [.ref a]).set 1 (some (.ref q)) = some (.ref a) :: some (.ref q) :: List.replicate m none := by
    unfold L2.start
    rw [List.length_singleton, hm]
    show (some (V.ref a) :: List.replicate (m + 1) none).set 1 (some (.ref q)) = _
    rw [List.replicate_succ]; rfl
  rw [est]
  have hm2 : N.length - 2 = m := by omega
  rw [hm2] at hw
  have noOw : ∀ (i : Nat) (d : D), (lawE m)[i]? ≠ some (.ow d) := fun i d e => by
    match i, e with
    | 0, e => cases e
    | 1, e => cases e
    | i + 2, e =>
      have e : (List.replicate m Sl.no)[i]? = some (.ow d) := e
      rw [List.getElem?_replicate] at e
      split at e <;> cases e
  have np : ∀ b, ¬ A.prot (fun _ => none) (some (.ref a) :: some (.ref q) :: List.replicate m none) (lawE m) b := fun b h => by
    rcases h with h | h | ⟨i, d, e, _⟩
    · exact h rfl
    · exact h rfl
    · exact noOw i d e
  have e0 : ∀ X : Hp, Sub (fun _ => none) X := fun X b o e => by cases e
  have e1 : ∀ (b : Addr) (o : HO) {p : Prop}, ((fun _ => none : Hp) b = some o) → p := fun b o p e => by cases e
  refine ⟨A, fun _ => none, lawE m, lawF, ⟨e0 _, fun b o e => e1 b o e, fun b o e => e1 b o e, e0 _, e0 _, fun _ _ => rfl, fun i s e => ?_, fun i j d e b h => absurd h (noOw i d), fun z hz => ?_, ?_⟩, hw, fun σ => ExC.no, ?_⟩
  · match i, e with
    | 0, e => cases e; trivial
    | 1, e => cases e; exact ⟨q, rfl, rfl⟩
    | i + 2, e =>
      have e : (List.replicate m Sl.no)[i]? = some s := e
      rw [List.getElem?_replicate] at e
      split at e
      · cases e; trivial
      · cases e
  · have hz : q = z := Option.some.inj hz
    subst hz
    rw [hL]
    have hd' : deckW.inv H' (fun _ => False) q := hd
    exact deckW.less hd' fun b hb => np b hb
  · unfold lawE
    simp
  · refine ⟨fun _ _ _ _ _ _ w => ?_, fun _ _ _ _ _ _ w => w.elim, fun _ _ _ _ _ _ w => w.elim, fun v H'' r B' _ x _ w => ?_⟩
    · cases (show R.im .none = .im (.bool true) from w)
    · have w : r = .im (.bool true) := w
      subst w
      rw [show v = .bl true from x]
      exact hq H''
end KR

end
section
set_option Elab.async false
set_option linter.all false
set_option maxRecDepth 100000
set_option genSizeOf false
set_option maxHeartbeats 2000000
/-! Plain data: what can be shown, how long it is. -/
namespace KR
open PySem PySem.Spec PyProof.Rows L2

def OK (n b : Nat) (d : D) : Prop := d.showable = true ∧ d.depth ≤ n ∧ d.shown.length ≤ b
theorem OK.mono {n b n' b' : Nat} {d : D} (h : OK n b d) (h1 : n ≤ n') (h2 : b ≤ b') : OK n' b' d := ⟨h.1, Nat.le_trans h.2.1 h1, Nat.le_trans h.2.2 h2⟩
theorem OK.repr {n b : Nat} {d : D} {K : R → Prop} (h : OK n b d) (h1 : n ≤ 64) (h2 : b ≤ 16777216) (k : K (.im (.str d.shown))) : biD .repr [d] K :=
  ⟨⟨h.1, Nat.le_trans h.2.1 h1, by rw [sizeLine_eq]; exact Nat.le_trans h.2.2 h2⟩, k⟩
theorem all_show {n b : Nat} : ∀ {ds : List D}, (∀ d ∈ ds, OK n b d) → PyData.showableAll ds = true ∧ PyData.depthAll ds ≤ n ∧ ((PyData.shownAll ds).map (·.length)).sum ≤ ds.length * b ∧ (PyData.shownAll ds).length = ds.length
  | [], _ => ⟨rfl, Nat.zero_le _, by simp [PyData.shownAll], rfl⟩
  | d :: ds, h => by
    obtain ⟨h1, h2, h3, h4⟩ := all_show (ds := ds) fun d hd => h d (List.mem_cons_of_mem _ hd)
    obtain ⟨k1, k2, k3⟩ := h d List.mem_cons_self
    refine ⟨?_, ?_, ?_, ?_⟩
    · simp only [PyData.showableAll, k1, h1, Bool.and_self]
    · simp only [PyData.depthAll]; omega
    · simp only [PyData.shownAll, List.map_cons, List.sum_cons, List.length_cons, Nat.add_mul, Nat.one_mul]; omega
    · simp only [PyData.shownAll, List.length_cons, h4]
theorem from_len : ∀ (ts : List Str) (k : Nat) (acc : Str), (textFrom k acc ts).length ≤ acc.length + (ts.map (·.length)).sum + 2 * ts.length
  | [], k, acc => by show acc.length ≤ _; simp
  | t :: r, k, acc => by
    have ih := from_len r (k + 1) (acc ++ (if k > 0 then ", " else "" : String) ++ t)
    have e : (acc ++ ((if k > 0 then ", " else "" : String) : Str) ++ t).length ≤ acc.length + 2 + t.length := by
      rw [strLen_append, strLen_append]
      by_cases hk : k > 0
      · rw [if_pos hk]; exact Nat.le_refl _
      · rw [if_neg hk]; show acc.length + 0 + t.length ≤ _; omega
    have z : textFrom k acc (t :: r) = textFrom (k + 1) (acc ++ (if k > 0 then ", " else "" : String) ++ t) r := by first | rfl | (unfold textFrom; rfl)
    rw [z]
    simp only [List.map_cons, List.sum_cons, List.length_cons]
    omega
theorem join_len (ts : List Str) : (Str.join ", " ts).length ≤ (ts.map (·.length)).sum + 2 * ts.length := by
  have := StrLaws.join_length_le ", " ts
  have e : (", " : Str).length = 2 := rfl
  rw [e] at this
  omega
theorem OK.list {n b : Nat} {ds : List D} (h : ∀ d ∈ ds, OK n b d) : OK (n + 1) (ds.length * (b + 2) + 4) (.list ds) := by
  obtain ⟨h1, h2, h3, h4⟩ := all_show h
  refine ⟨by simpa [PyData.showable] using h1, by simp only [PyData.depth]; omega, ?_⟩
  have := from_len (PyData.shownAll ds) 0 "["
  show (listText (PyData.shownAll ds)).length ≤ _
  unfold listText
  rw [strLen_append]
  have e1 : ("[" : Str).length = 1 := rfl
  have e2 : ("]" : Str).length = 1 := rfl
  rw [e1, h4] at this
  rw [e2, Nat.mul_add]
  omega
theorem OK.tuple {n b : Nat} {ds : List D} (h : ∀ d ∈ ds, OK n b d) : OK (n + 1) (ds.length * (b + 2) + 4) (.tuple ds) := by
  obtain ⟨h1, h2, h3, h4⟩ := all_show h
  refine ⟨by simpa [PyData.showable] using h1, by simp only [PyData.depth]; omega, ?_⟩
  have := join_len (PyData.shownAll ds)
  show (tupleText (PyData.shownAll ds)).length ≤ _
  unfold tupleText
  rw [strLen_append, strLen_append]
  have e1 : ("(" : Str).length = 1 := rfl
  have e2 : ((if (PyData.shownAll ds).length == 1 then ",)" else ")" : String) : Str).length ≤ 2 := by split <;> decide
  rw [e1, Nat.mul_add]
  rw [h4] at this
  omega
theorem OK.int {i : Int} (h0 : -9 ≤ i) (h1 : i < 1000) : OK 0 4 (.int i) := by
  have all : ∀ n : Fin 1010, (PyData.int ((n.val : Int) - 9)).showable = true ∧ (PyData.int ((n.val : Int) - 9)).shown.length ≤ 4 := by decide +kernel
  have := all ⟨(i + 9).toNat, by omega⟩
  have e : (((i + 9).toNat : Nat) : Int) - 9 = i := by omega
  simp only [e] at this
  exact ⟨this.1, Nat.le_refl _, this.2⟩

/-! ### how a run over plain data goes on: by shapes -/
section
variable {ρ : En} {K : D → Prop} {Kr : R → Prop} {Kb : Bool → Prop} {Ke : D → En → Prop} {Ks : Sl → En → Prop} {i j : Int} {x y : Str} {xs ys : List D} {d : D} {b : Bool} {n : Nat}
theorem z_bool : asBool (.im (.bool b)) Kb = Kb b := rfl
theorem z_peek1 : peek ρ (.im d) K = K d := rfl
theorem z_peek2 : peek ρ (.fr d) K = K d := rfl
theorem z_peek3 : peek ρ (.br n) K = (match ρ[n]? with | some (.ow d) => K d | some (.im d) => K d | _ => False) := by
  show (match (match ρ[n]? with | some (.ow d) => some d | some (.im d) => some d | _ => none) with | some d => K d | none => False) = _
  cases ρ[n]? with
  | none => rfl
  | some s => cases s <;> rfl
theorem z_take1 : takeR ρ (.im d) Ke = Ke d ρ := rfl
theorem z_take2 : takeR ρ (.fr d) Ke = Ke d ρ := rfl
theorem z_take3 : takeR ρ (.br n) Ke = (match ρ[n]? with | some (.ow d) => Ke d (ρ.set n (.im d)) | some (.im d) => Ke d ρ | _ => False) := rfl
theorem z_slot1 : slotR ρ (.im d) Ks = Ks (.im d) ρ := rfl
theorem z_slot2 : slotR ρ (.fr d) Ks = Ks (.ow d) ρ := rfl
theorem z_slot3 : slotR ρ (.br n) Ks = (match ρ[n]? with | some (.ow d) => Ks (.im d) (ρ.set n (.im d)) | some (.im d) => Ks (.im d) ρ | _ => False) := rfl
theorem z_slot4 : slotR ρ .dk Ks = Ks .dk ρ := rfl
theorem z_ret1 : retR ρ (.im d) Kr = Kr (.im d) := rfl
theorem z_ret2 : retR ρ (.fr d) Kr = Kr (.fr d) := rfl
theorem z_ret3 : retR ρ (.br n) Kr = (match ρ[n]? with | some (.ow d) => Kr (.fr d) | some (.im d) => Kr (.im d) | _ => False) := rfl
theorem z_arg1 {rs : List R} {Ka : List Ar → Prop} : argsOf ρ (.im d :: rs) Ka = argsOf ρ rs fun as => Ka (.d d :: as) := rfl
theorem z_arg2 {rs : List R} {Ka : List Ar → Prop} : argsOf ρ (.fr d :: rs) Ka = argsOf ρ rs fun as => Ka (.d d :: as) := rfl
theorem z_arg3 {rs : List R} {Ka : List Ar → Prop} : argsOf ρ (.br n :: rs) Ka = peek ρ (.br n) fun d => argsOf ρ rs fun as => Ka (.d d :: as) := rfl
theorem z_arg4 {rs : List R} {Ka : List Ar → Prop} : argsOf ρ (.dk :: rs) Ka = argsOf ρ rs fun as => Ka (.dk :: as) := rfl
theorem z_arg0 {Ka : List Ar → Prop} : argsOf ρ [] Ka = Ka [] := rfl
theorem z_frz0 : frzB ρ [] = ρ := rfl
theorem z_frz1 {rs : List R} : frzB ρ (.im d :: rs) = frzB ρ rs := rfl
theorem z_frz2 {rs : List R} : frzB ρ (.fr d :: rs) = frzB ρ rs := rfl
theorem z_frz3 {rs : List R} : frzB ρ (.br n :: rs) = (match ρ[n]? with | some (.ow d) => frzB (ρ.set n (.im d)) rs | _ => frzB ρ rs) := rfl
theorem z_frz4 {rs : List R} : frzB ρ (.dk :: rs) = frzB ρ rs := rfl
theorem z_lt : cmpD .lt (.int i) (.int j) Kb = Kb (decide (i < j)) := rfl
theorem z_le : cmpD .le (.int i) (.int j) Kb = Kb (decide (i ≤ j)) := rfl
theorem z_gt : cmpD .gt (.int i) (.int j) Kb = Kb (decide (j < i)) := rfl
theorem z_ge : cmpD .ge (.int i) (.int j) Kb = Kb (decide (j ≤ i)) := rfl
theorem z_eqi : cmpD .eq (.int i) (.int j) Kb = Kb (decide (i = j)) := rfl
theorem z_nei : cmpD .ne (.int i) (.int j) Kb = Kb (!decide (i = j)) := rfl
theorem z_eqs : cmpD .eq (.str x) (.str y) Kb = Kb (decide (x = y)) := rfl
theorem z_nes : cmpD .ne (.str x) (.str y) Kb = Kb (!decide (x = y)) := rfl
theorem z_is : cmpD .is_ d .none Kb = Kb (isNon d) := by cases d <;> rfl
theorem z_isnot : cmpD .isnot d .none Kb = Kb (!isNon d) := by cases d <;> rfl
/-- a list against the empty list -/
theorem z_ne0 (h : Kb (!xs.isEmpty)) : cmpD .ne (.list xs) (.list []) Kb := by
  cases xs with
  | nil => exact .inl ⟨⟨by decide, by decide⟩, by rw [show PyData.eqv (.list []) (.list []) = true by decide]; exact h⟩
  | cons z zs => exact .inr ⟨by simp, h⟩
theorem z_add : binD .add (.int i) (.int j) Kr = Kr (.im (.int (i + j))) := rfl
theorem z_adds : binD .add (.str x) (.str y) Kr = (x.length + y.length ≤ sizeLine ∧ Kr (.im (.str (x ++ y)))) := rfl
theorem z_addl : binD .add (.list xs) (.list ys) Kr = (xs.length + ys.length ≤ sizeLine ∧ Kr (.fr (.list (xs ++ ys)))) := rfl
theorem z_addt : binD .add (.tuple xs) (.tuple ys) Kr = (xs.length + ys.length ≤ sizeLine ∧ Kr (.im (.tuple (xs ++ ys)))) := rfl
theorem z_sub : binD .sub (.int i) (.int j) Kr = Kr (.im (.int (i - j))) := rfl
theorem z_mul : binD .mul (.int i) (.int j) Kr = (IntMulOk i j ∧ Kr (.im (.int (i * j)))) := rfl
theorem z_mull : binD .mul (.list xs) (.int j) Kr = ((-(2 ^ 63) ≤ j ∧ j < 2 ^ 63 ∧ xs.length * j.toNat ≤ sizeLine) ∧ Kr (.fr (.list (List.replicate j.toNat xs).flatten))) := rfl
theorem z_mult : binD .mul (.tuple xs) (.int j) Kr = ((xs ≠ [] ∧ 2 ≤ j ∧ j ≤ 1000 ∧ xs.length ≤ 1000) ∧ Kr (.im (.tuple (List.replicate j.toNat xs).flatten))) := rfl
theorem z_fdiv : binD .fdiv (.int i) (.int j) Kr = ((0 < j ∧ j.natAbs.log2 < 9000) ∧ Kr (.im (.int (i / j)))) := rfl
theorem z_mod : binD .mod (.int i) (.int j) Kr = (0 < j ∧ Kr (.im (.int (i % j)))) := rfl
theorem z_pow : binD .pow (.int i) (.int j) Kr = ((0 ≤ j ∧ j ≤ 1000000 ∧ i.natAbs < 2 ^ 64) ∧ Kr (.im (.int (i ^ j.toNat)))) := rfl
theorem z_ixt : subD (.tuple xs) (.int i) K = (match atI xs i with | some d => K d | none => False) := rfl
theorem z_ixl : subD (.list xs) (.int i) K = (match atI xs i with | some d => K d | none => False) := rfl
theorem z_slct {lo hi : Option Int} : slcD (.tuple xs) lo hi Kr = Kr (.im (.tuple (cutD xs lo hi))) := rfl
theorem z_slcl {lo hi : Option Int} : slcD (.list xs) lo hi Kr = Kr (.fr (.list (cutD xs lo hi))) := rfl
theorem z_revt : revD (.tuple xs) Kr = Kr (.im (.tuple xs.reverse)) := rfl
theorem z_revl : revD (.list xs) Kr = Kr (.fr (.list xs.reverse)) := rfl
theorem z_lent : biD .len [.tuple xs] Kr = Kr (.im (.int xs.length)) := rfl
theorem z_lenl : biD .len [.list xs] Kr = Kr (.im (.int xs.length)) := rfl
theorem z_inti : biD .int [.int i] Kr = Kr (.im (.int i)) := rfl
theorem z_intb : biD .int [.bool b] Kr = Kr (.im (.int (if b then 1 else 0))) := rfl
theorem z_listl : biD .list [.list xs] Kr = Kr (.fr (.list xs)) := rfl
theorem z_listt : biD .list [.tuple xs] Kr = Kr (.fr (.list xs)) := rfl
theorem z_tupl : biD .tuple [.list xs] Kr = Kr (.im (.tuple xs)) := rfl
theorem z_tupt : biD .tuple [.tuple xs] Kr = Kr (.im (.tuple xs)) := rfl
theorem z_itl {Ki : List D → Prop} : itemsD (.list xs) Ki = (xs.length ≤ sizeLine ∧ Ki xs) := rfl
theorem z_itt {Ki : List D → Prop} : itemsD (.tuple xs) Ki = (xs.length ≤ sizeLine ∧ Ki xs) := rfl
theorem z_rg1 {Ki : List D → Prop} : rngD [.int i] Ki = ((-(2 ^ 62) ≤ i ∧ i ≤ 2 ^ 24) ∧ Ki (rngL 0 i)) := rfl
theorem z_for0 {bd : D → En → Fin' → Prop} {F : Fin'} : forL bd [] ρ F = F.nx ρ := rfl
theorem z_for1 {bd : D → En → Fin' → Prop} {F : Fin'} : forL bd (d :: xs) ρ F = bd d ρ { nx := fun ρ' => forL bd xs ρ' F, rt := F.rt, bk := F.nx, ct := fun ρ' => forL bd xs ρ' F } := rfl
end
section
variable {Γ : Ctx} {Ed : Ex → En → Prop} {ρ : En} {Q : R → En → Prop} {i : Nat} {c : D} {x f : Str} {op op' : BOp} {a b e c0 : IE} {es : IEs} {isAnd isT : Bool} {ks : List Str} {lo hi : IO} {ty : String} {elt : IE} {tg t : IT} {it : II} {cond : IO} {own : List (Str × Nat)} {F : Fin'} {sb sa : ISs} {ts : List Nat}
theorem q_var : wpE Γ Ed (.var i) ρ Q = ((match ρ[i]? with
    | some (.im d) => Q (.im d) ρ
    | some (.ow _) => Q (.br i) ρ
    | some .dk => Q .dk ρ
    | _ => False)) := rfl
theorem q_cst : wpE Γ Ed (.cst c) ρ Q = (Q (.im c) ρ) := rfl
theorem q_glob : wpE Γ Ed (.glob x) ρ Q = ((match Γ.gls.lookup x with
    | some d => Q (.im d) ρ
    | none => False)) := rfl
theorem q_bin : wpE Γ Ed (.bin op a b) ρ Q = (wpE Γ Ed a ρ fun r1 ρ1 => wpE Γ Ed b ρ1 fun r2 ρ2 => peek ρ2 r1 fun d1 => peek ρ2 r2 fun d2 => binD op d1 d2 fun r => Q r ρ2) := rfl
theorem q_neg : wpE Γ Ed (.neg a) ρ Q = (wpE Γ Ed a ρ fun r1 ρ1 => (match r1 with
    | .im (.int i) => Q (.im (.int (-i))) ρ1
    | _ => False)) := rfl
theorem q_cmp {op : COp} : wpE Γ Ed (.cmp op a b) ρ Q = (wpE Γ Ed a ρ fun r1 ρ1 => wpE Γ Ed b ρ1 fun r2 ρ2 => peek ρ2 r1 fun d1 => peek ρ2 r2 fun d2 => cmpD op d1 d2 fun k => Q (.im (.bool k)) ρ2) := rfl
theorem q_chain {op op' : COp} {c : IE} : wpE Γ Ed (.chain op op' a b c) ρ Q = (wpE Γ Ed a ρ fun r1 ρ1 => wpE Γ Ed b ρ1 fun r2 ρ2 => peek ρ2 r1 fun d1 => peek ρ2 r2 fun d2 => cmpD op d1 d2 fun k =>
      if k = true then wpE Γ Ed c ρ2 fun r3 ρ3 => peek ρ3 r2 fun d2' => peek ρ3 r3 fun d3 => cmpD op' d2' d3 fun k' => Q (.im (.bool k')) ρ3 else Q (.im (.bool false)) ρ2) := rfl
theorem q_conj : wpE Γ Ed (.conj isAnd es) ρ Q = (wpC Γ Ed isAnd isAnd es ρ Q) := rfl
theorem q_notE : wpE Γ Ed (.notE a) ρ Q = (wpE Γ Ed a ρ fun r ρ1 => asBool r fun k => Q (.im (.bool (!k))) ρ1) := rfl
theorem q_ite {c : IE} : wpE Γ Ed (.ite c a b) ρ Q = (wpE Γ Ed c ρ fun r ρ1 => asBool r fun k => if k = true then wpE Γ Ed a ρ1 Q else wpE Γ Ed b ρ1 Q) := rfl
theorem q_tup : wpE Γ Ed (.tup es) ρ Q = (wpEs Γ Ed es ρ fun rs ρ1 => rs.length ≤ 1000 ∧ takeAll ρ1 rs fun ds ρ2 => Q (.im (.tuple ds)) ρ2) := rfl
theorem q_lst : wpE Γ Ed (.lst es) ρ Q = (wpEs Γ Ed es ρ fun rs ρ1 => rs.length ≤ 1000 ∧ takeAll ρ1 rs fun ds ρ2 => Q (.fr (.list ds)) ρ2) := rfl
theorem q_dic : wpE Γ Ed (.dic isT) ρ Q = (Q (.fr (.dict [])) ρ) := rfl
theorem q_sub {i : IE} : wpE Γ Ed (.sub a i) ρ Q = (wpE Γ Ed a ρ fun r1 ρ1 => wpE Γ Ed i ρ1 fun r2 ρ2 => peek ρ2 r1 fun d1 => peek ρ2 r2 fun d2 => subD d1 d2 fun d => Q (.im d) ρ2) := rfl
theorem q_slc : wpE Γ Ed (.slc a lo hi) ρ Q = (wpE Γ Ed a ρ fun r ρ1 => wpO Γ Ed lo ρ1 fun l ρ2 => wpO Γ Ed hi ρ2 fun h ρ3 => peek ρ3 r fun d => slcD d l h fun r => Q r ρ3) := rfl
theorem q_rev : wpE Γ Ed (.rev a) ρ Q = (wpE Γ Ed a ρ fun r ρ1 => peek ρ1 r fun d => revD d fun r => Q r ρ1) := rfl
theorem q_call : wpE Γ Ed (.call f es) ρ Q = ((match Γ.fns.lookup f with
    | some S => wpEs Γ Ed es ρ fun rs ρ1 => rs.length = S.ps.length ∧ argsOf ρ1 rs fun as => S.wp as (fun r => if S.keep = true then flatR r = true ∧ Q r ρ1 else Q r (frzB ρ1 rs)) (fun x => Ed x (frzB ρ1 rs))
    | none => False)) := rfl
theorem q_callk : wpE Γ Ed (.callk f ks es) ρ Q = ((match Γ.fns.lookup f with
    | some S => wpEs Γ Ed es ρ fun rs ρ1 => (rs.length = ks.length ∧ (pickK S.ps ks rs).length = S.ps.length) ∧ argsOf ρ1 rs fun as => S.wp (pickK S.ps ks as) (fun r => if S.keep = true then flatR r = true ∧ Q r ρ1 else Q r (frzB ρ1 rs)) (fun x => Ed x (frzB ρ1 rs))
    | none => False)) := rfl
theorem q_bi {b : Bi} : wpE Γ Ed (.bi b es) ρ Q = (wpEs Γ Ed es ρ fun rs ρ1 => peekAll ρ1 rs fun ds => biD b ds fun r => Q r ρ1) := rfl
theorem q_rng : wpE Γ Ed (.rng isT es) ρ Q = (wpEs Γ Ed es ρ fun rs ρ1 => peekAll ρ1 rs fun ds => rngD ds fun xs => Q (if isT = true then .im (.tuple xs) else .fr (.list xs)) ρ1) := rfl
theorem q_isinst : wpE Γ Ed (.isinst ty a) ρ Q = (wpE Γ Ed a ρ fun r ρ1 => peek ρ1 r fun d => Q (.im (.bool (isTy ty d))) ρ1) := rfl
theorem q_app : wpE Γ Ed (.app i e) ρ Q = (isOwL ρ i ∧ wpE Γ Ed e ρ fun r ρ1 => takeR ρ1 r fun d ρ2 => (match ρ2[i]? with
    | some (.ow (.list ds)) => ds.length < sizeLine ∧ Q (.im .none) (ρ2.set i (.ow (.list (ds ++ [d]))))
    | _ => False)) := rfl
theorem q_pop : wpE Γ Ed (.pop i) ρ Q = ((match ρ[i]? with
    | some (.ow (.list ds)) => (match ds[ds.length - 1]? with
      | some d => Q (.im d) (ρ.set i (.ow (.list ds.dropLast)))
      | none => False)
    | _ => False)) := rfl
theorem q_popAt : wpE Γ Ed (.popAt i e) ρ Q = (isOwL ρ i ∧ wpE Γ Ed e ρ fun r ρ1 => (match r, ρ1[i]? with
    | .im (.int k), some (.ow (.list ds)) => (-(2 ^ 63) ≤ k ∧ k < 2 ^ 63) ∧ (match seqIndex? k ds.length with
      | some j => (match ds[j]? with
        | some d => Q (.im d) (ρ1.set i (.ow (.list (ds.eraseIdx j))))
        | none => False)
      | none => False)
    | _, _ => False)) := rfl
def bodyF (Γ : Ctx) (Ed : Ex → En → Prop) (t : IT) (b : ISs) : D → En → Fin' → Prop := fun d ρ F => asgT Γ t d ρ fun ρ2 => wpSs Γ Ed b ρ2 F
theorem bodyF_at {d : D} {b : ISs} : bodyF Γ Ed t b d ρ F = asgT Γ t d ρ fun ρ2 => wpSs Γ Ed b ρ2 F := rfl
def condF (Γ : Ctx) (Ed : Ex → En → Prop) (c : IE) : En → (Bool → En → Prop) → Prop := fun ρ K => wpE Γ Ed c ρ fun r ρ1 => asBool r fun k => K k ρ1
def loopF (Γ : Ctx) (Ed : Ex → En → Prop) (b : ISs) : En → Fin' → Prop := fun ρ F => wpSs Γ Ed b ρ F
theorem condF_at {c : IE} {K : Bool → En → Prop} : condF Γ Ed c ρ K = wpE Γ Ed c ρ fun r ρ1 => asBool r fun k => K k ρ1 := rfl
theorem loopF_at {b : ISs} : loopF Γ Ed b ρ F = wpSs Γ Ed b ρ F := rfl
def stepF (Γ : Ctx) (elt : IE) (tg : IT) (cond : IO) : D → En → (Option D → En → Prop) → Prop := fun d ρ' K => asgT Γ tg d ρ' fun ρ2 => wpO' Γ cond ρ2 fun b ρ3 => if b = true then wpE Γ noEx elt ρ3 fun r ρ4 => takeR ρ4 r fun e ρ5 => K (some e) ρ5 else K none ρ3
theorem stepF_at {d : D} {K : Option D → En → Prop} : stepF Γ elt tg cond d ρ K = asgT Γ tg d ρ fun ρ2 => wpO' Γ cond ρ2 fun b ρ3 => if b = true then wpE Γ noEx elt ρ3 fun r ρ4 => takeR ρ4 r fun e ρ5 => K (some e) ρ5 else K none ρ3 := rfl
theorem q_lc : wpE Γ Ed (.lc elt tg it cond own) ρ Q = wpI Γ Ed it ρ fun ds ρ1 => ds.length ≤ sizeLine ∧ lcL own (stepF Γ elt tg cond) ds [] (wipeE ρ1 own) fun acc ρ' => Q (.fr (.list acc)) (backE ρ1 ρ' own) := rfl
theorem q_ex {e : IE} : wpS Γ Ed (.ex e) ρ F = wpE Γ Ed e ρ fun _ ρ1 => F.nx ρ1 := rfl
theorem q_asg {e : IE} : wpS Γ Ed (.asg t e) ρ F = wpE Γ Ed e ρ fun r ρ1 => asgR Γ t r ρ1 F.nx := rfl
theorem q_par : wpS Γ Ed (.par ts es) ρ F = wpEs Γ Ed es ρ fun rs ρ1 => slotAll ρ1 rs fun ss ρ2 => ss.length = ts.length ∧ F.nx (setAll ρ2 ts ss) := rfl
theorem q_ret {e : IE} : wpS Γ Ed (.ret e) ρ F = wpE Γ Ed e ρ fun r ρ1 => retR ρ1 r F.rt := rfl
theorem q_ife {c : IE} {a b : ISs} : wpS Γ Ed (.ife c a b) ρ F = wpE Γ Ed c ρ fun r ρ1 => asBool r fun k => if k = true then wpSs Γ Ed a ρ1 F else wpSs Γ Ed b ρ1 F := rfl
theorem q_for {b : ISs} : wpS Γ Ed (.for_ t it b) ρ F = wpI Γ Ed it ρ fun ds ρ1 => forL (bodyF Γ Ed t b) ds ρ1 F := rfl
theorem q_while {c : IE} {b : ISs} : wpS Γ Ed (.while_ c b) ρ F = ∃ n, whileN (condF Γ Ed c) (loopF Γ Ed b) n ρ F := rfl
theorem q_pass : wpS Γ Ed .pass ρ F = F.nx ρ := rfl
theorem q_brk : wpS Γ Ed .brk ρ F = F.bk ρ := rfl
theorem q_cont : wpS Γ Ed .cont ρ F = F.ct ρ := rfl
theorem q_seq1 : wpSs Γ Ed .nil ρ F = F.nx ρ := rfl
theorem q_seq2 {s : IS} {ss : ISs} : wpSs Γ Ed (.cons s ss) ρ F = wpS Γ Ed s ρ { F with nx := fun ρ1 => wpSs Γ Ed ss ρ1 F } := rfl
/-- one statement, then the others -/
theorem seq_then {s : IS} {ss : ISs} (h : ∀ F' : Fin', F'.rt = F.rt → F'.bk = F.bk → F'.ct = F.ct → (∀ ρ, wpSs Γ Ed ss ρ F → F'.nx ρ) → wpS Γ Ed s ρ F') : wpSs Γ Ed (.cons s ss) ρ F :=
  h { F with nx := fun ρ1 => wpSs Γ Ed ss ρ1 F } rfl rfl rfl fun ρ w => w
end
end KR

end
section
set_option Elab.async false
set_option linter.all false
set_option maxRecDepth 100000
set_option maxHeartbeats 4000000
namespace KR
open PySem PySem.Spec PyProof.Rows L2
abbrev N_is_integer : List Str := ["value"]
def i_is_integer : ISs := (.cons (.ret (.conj true (.cons (.isinst "int" (.var 0)) (.cons (.notE (.isinst "bool" (.var 0))) .nil)))) .nil)
abbrev N_is_place : List Str := ["n", "value"]
def i_is_place : ISs := (.cons (.ret (.conj true (.cons (.call "is_integer" (.cons (.var 1) .nil)) (.cons (.chain .le .lt (.cst (.int 0)) (.var 1) (.var 0)) .nil)))) .nil)
abbrev N_lot_error : List Str := ["n", "value", "spot", "item"]
def i_lot_error : ISs := (.cons (.ife (.notE (.isinst "tuple" (.var 1))) (.cons (.ret (.cst (.str "form"))) .nil) .nil) (.cons (.for_ (.tup (.cons (.nm 2) (.cons (.nm 3) .nil))) (.enum (.var 1)) (.cons (.ife (.conj false (.cons (.notE (.call "is_place" (.cons (.var 0) (.cons (.var 3) .nil)))) (.cons (.conj true (.cons (.cmp .gt (.var 2) (.cst (.int 0))) (.cons (.cmp .le (.var 3) (.sub (.var 1) (.bin .sub (.var 2) (.cst (.int 1))))) .nil))) .nil))) (.cons (.ret (.tup (.cons (.cst (.str "item")) (.cons (.var 2) .nil)))) .nil) .nil) .nil)) (.cons (.ret (.cst .none)) .nil)))
abbrev N_standing_error : List Str := ["n", "value", "spot", "item"]
def i_standing_error : ISs := (.cons (.ife (.conj false (.cons (.notE (.isinst "tuple" (.var 1))) (.cons (.cmp .ne (.bi .len (.cons (.var 1) .nil)) (.var 0)) .nil))) (.cons (.ret (.cst (.str "form"))) .nil) .nil) (.cons (.for_ (.tup (.cons (.nm 2) (.cons (.nm 3) .nil))) (.enum (.var 1)) (.cons (.ife (.conj false (.cons (.notE (.call "is_integer" (.cons (.var 3) .nil))) (.cons (.notE (.chain .le .le (.cst (.int 0)) (.var 3) (.glob "MAX_RIDER"))) .nil))) (.cons (.ret (.tup (.cons (.cst (.str "item")) (.cons (.var 2) .nil)))) .nil) .nil) .nil)) (.cons (.for_ (.tup (.cons (.nm 2) (.cons (.nm 3) .nil))) (.enum (.var 1)) (.cons (.ife (.conj true (.cons (.cmp .gt (.var 3) (.cst (.int 0))) (.cons (.cmp .isin (.var 3) (.slc (.var 1) .non (.som (.var 2)))) .nil))) (.cons (.ret (.tup (.cons (.cst (.str "twice")) (.cons (.var 2) .nil)))) .nil) .nil) .nil)) (.cons (.ret (.cst .none)) .nil))))
abbrev N_keys_of : List Str := ["standing", "place", "item"]
def i_keys_of : ISs := (.cons (.ret (.bi .tuple (.cons (.lc (.var 1) (.tup (.cons (.nm 1) (.cons (.nm 2) .nil))) (.enum (.var 0)) (.som (.cmp .eq (.var 2) (.cst (.int 0)))) [("place", 1), ("item", 2)]) .nil))) .nil)
abbrev N__law_pick : List Str := ["deck", "items"]
def i__law_pick : ISs := (.cons (.ret (.sub (.var 1) (.call "_law_draw" (.cons (.var 0) (.cons (.bi .len (.cons (.var 1) .nil)) .nil))))) .nil)
abbrev N__law_standing : List Str := ["deck", "many", "place", "share", "found", "rider"]
def i__law_standing : ISs := (.cons (.par [3, 4] (.cons (.call "_law_pick" (.cons (.var 0) (.cons (.lst (.cons (.cst (.int 1)) (.cons (.cst (.int 2)) (.cons (.cst (.int 3)) (.cons (.cst (.int 4)) (.cons (.cst (.int 0)) (.cons (.cst (.int 5)) .nil))))))) .nil))) (.cons (.lst .nil) .nil))) (.cons (.for_ (.nm 2) (.rg (.cons (.var 1) .nil)) (.cons (.ife (.cmp .lt (.call "_law_draw" (.cons (.var 0) (.cons (.cst (.int 5)) .nil))) (.var 3)) (.cons (.ex (.app 4 (.cst (.int 0)))) .nil) (.cons (.asg (.nm 5) (.bin .add (.cst (.int 1)) (.call "_law_draw" (.cons (.var 0) (.cons (.cst (.int 99)) .nil))))) (.cons (.while_ (.cmp .isin (.var 5) (.var 4)) (.cons (.asg (.nm 5) (.bin .add (.bin .mod (.bi .int (.cons (.var 5) .nil)) (.cst (.int 99))) (.cst (.int 1)))) .nil)) (.cons (.ex (.app 4 (.var 5))) .nil)))) .nil)) (.cons (.ret (.bi .tuple (.cons (.var 4) .nil))) .nil)))
abbrev N__law_is_whole : List Str := ["value", "low", "high"]
def i__law_is_whole : ISs := (.cons (.ret (.conj true (.cons (.isinst "int" (.var 0)) (.cons (.notE (.isinst "bool" (.var 0))) (.cons (.chain .le .le (.var 1) (.var 0) (.var 2)) .nil))))) .nil)
abbrev N__law_lot_due : List Str := ["many", "value", "spot", "item"]
def i__law_lot_due : ISs := (.cons (.ife (.notE (.isinst "tuple" (.var 1))) (.cons (.ret (.cst (.str "form"))) .nil) .nil) (.cons (.for_ (.tup (.cons (.nm 2) (.cons (.nm 3) .nil))) (.enum (.var 1)) (.cons (.ife (.conj false (.cons (.notE (.call "_law_is_whole" (.cons (.var 3) (.cons (.cst (.int 0)) (.cons (.bin .sub (.var 0) (.cst (.int 1))) .nil))))) (.cons (.conj true (.cons (.cmp .gt (.var 2) (.cst (.int 0))) (.cons (.cmp .le (.var 3) (.sub (.var 1) (.bin .sub (.var 2) (.cst (.int 1))))) .nil))) .nil))) (.cons (.ret (.tup (.cons (.cst (.str "item")) (.cons (.var 2) .nil)))) .nil) .nil) .nil)) (.cons (.ret (.cst .none)) .nil)))
abbrev N__law_standing_due : List Str := ["many", "value", "spot", "item"]
def i__law_standing_due : ISs := (.cons (.ife (.conj false (.cons (.notE (.isinst "tuple" (.var 1))) (.cons (.cmp .ne (.bi .len (.cons (.var 1) .nil)) (.var 0)) .nil))) (.cons (.ret (.cst (.str "form"))) .nil) .nil) (.cons (.for_ (.tup (.cons (.nm 2) (.cons (.nm 3) .nil))) (.enum (.var 1)) (.cons (.ife (.notE (.call "_law_is_whole" (.cons (.var 3) (.cons (.cst (.int 0)) (.cons (.cst (.int 99)) .nil))))) (.cons (.ret (.tup (.cons (.cst (.str "item")) (.cons (.var 2) .nil)))) .nil) .nil) .nil)) (.cons (.for_ (.tup (.cons (.nm 2) (.cons (.nm 3) .nil))) (.enum (.var 1)) (.cons (.ife (.conj true (.cons (.cmp .gt (.var 3) (.cst (.int 0))) (.cons (.cmp .isin (.var 3) (.slc (.var 1) .non (.som (.var 2)))) .nil))) (.cons (.ret (.tup (.cons (.cst (.str "twice")) (.cons (.var 2) .nil)))) .nil) .nil) .nil)) (.cons (.ret (.cst .none)) .nil))))
def wh (lo hi : Int) : D → Bool
  | .int i => decide (lo ≤ i) && decide (i ≤ hi)
  | _ => false
def isI : D → Bool
  | .int _ => true
  | _ => false
/-- the first item that is out of order -/
def lotGo (n : Int) : Option Int → Nat → List D → D
  | _, _, [] => .none
  | p, k, .int i :: ds => if (0 ≤ i ∧ i < n) ∧ ∀ j, p = some j → j < i then lotGo n (some i) (k + 1) ds else .tuple [.str "item", .int k]
  | _, k, _ :: _ => .tuple [.str "item", .int k]
def lotErr (n : Int) : D → D
  | .tuple ds => lotGo n none 0 ds
  | _ => .str "form"
def s_is_integer : DSpec := ⟨true, ["value"], fun as Qd _ => ∃ v, as = [.d v] ∧ Qd (.im (.bool (isI v)))⟩
def s_is_place : DSpec := ⟨true, ["n", "value"], fun as Qd _ => ∃ n v, as = [.d (.int n), .d v] ∧ Qd (.im (.bool (wh 0 (n - 1) v)))⟩
def s_is_whole : DSpec := ⟨true, ["value", "low", "high"], fun as Qd _ => ∃ v lo hi, as = [.d v, .d (.int lo), .d (.int hi)] ∧ Qd (.im (.bool (wh lo hi v)))⟩
def szD : D → Prop
  | .tuple ds => ds.length ≤ 1000
  | _ => True
def s_lot_error : DSpec := ⟨false, ["n", "value"], fun as Qd _ => ∃ n v, as = [.d (.int n), .d v] ∧ szD v ∧ Qd (.im (lotErr n v))⟩
def s_lot_due : DSpec := { s_lot_error with ps := ["many", "value"] }
theorem isTy_int (v : D) : (isTy "int" v && !isTy "bool" v) = isI v := by
  cases v <;> rfl
theorem w_is_integer {Γ : Ctx} : ∀ as Qd Ed, as.length = 1 → s_is_integer.wp as Qd Ed → wpSs Γ (fun x _ => Ed x) i_is_integer (entry N_is_integer as) (defFin Qd) := by
  rintro as Qd Ed _ ⟨v, rfl, h⟩
  unfold i_is_integer
  simp only [q_var, q_cst, q_glob, q_bin, q_neg, q_cmp, q_chain, q_conj, q_notE, q_ite, q_tup, q_lst, q_dic, q_sub, q_slc, q_rev, q_call, q_callk, q_bi, q_rng, q_isinst, q_app, q_pop, q_popAt, q_lc, q_ex, q_asg, q_par, q_ret, q_ife, q_for, q_while, q_pass, q_brk, q_cont, q_seq1, q_seq2, wpEs, wpC, wpI, wpO, wpO', asgR, asgT, asgTs, peekAll, takeAll, slotAll, setAll, defFin, entry, slotA, List.map_cons, List.map_nil, List.length_cons, List.length_nil, List.cons_append, List.nil_append, List.replicate_succ, List.replicate_zero, List.getElem?_cons_zero, List.getElem?_cons_succ, List.set_cons_zero, List.set_cons_succ, IEs.len, ITs.len, flatR, flatD, if_true, if_false, eq_self, true_and, and_true, Bool.false_eq_true, reduceCtorEq, z_bool, z_peek1, z_peek2, z_peek3, z_take1, z_take2, z_take3, z_slot1, z_slot2, z_slot3, z_slot4, z_ret1, z_ret2, z_ret3, z_arg1, z_arg2, z_arg3, z_arg4, z_arg0, z_frz0, z_frz1, z_frz2, z_frz3, z_frz4, z_lt, z_le, z_gt, z_ge, z_eqi, z_nei, z_eqs, z_nes, z_is, z_isnot, z_add, z_adds, z_addl, z_addt, z_sub, z_mul, z_mull, z_mult, z_fdiv, z_mod, z_pow, z_ixt, z_ixl, z_slct, z_slcl, z_revt, z_revl, z_lent, z_lenl, z_inti, z_intb, z_listl, z_listt, z_tupl, z_tupt, z_itl, z_itt, z_rg1]
  cases v <;> exact h
theorem w_is_place {Γ : Ctx} (l1 : Γ.fns.lookup ("is_integer" : Str) = some s_is_integer) : ∀ as Qd Ed, as.length = 2 → s_is_place.wp as Qd Ed → wpSs Γ (fun x _ => Ed x) i_is_place (entry N_is_place as) (defFin Qd) := by
  rintro as Qd Ed hl ⟨n, v, rfl, h⟩; clear hl
  unfold i_is_place
  simp only [q_var, q_cst, q_glob, q_bin, q_neg, q_cmp, q_chain, q_conj, q_notE, q_ite, q_tup, q_lst, q_dic, q_sub, q_slc, q_rev, q_call, q_callk, q_bi, q_rng, q_isinst, q_app, q_pop, q_popAt, q_lc, q_ex, q_asg, q_par, q_ret, q_ife, q_for, q_while, q_pass, q_brk, q_cont, q_seq1, q_seq2, wpEs, wpC, wpI, wpO, wpO', asgR, asgT, asgTs, peekAll, takeAll, slotAll, setAll, defFin, entry, slotA, List.map_cons, List.map_nil, List.length_cons, List.length_nil, List.cons_append, List.nil_append, List.replicate_succ, List.replicate_zero, List.getElem?_cons_zero, List.getElem?_cons_succ, List.set_cons_zero, List.set_cons_succ, IEs.len, ITs.len, flatR, flatD, if_true, if_false, eq_self, true_and, and_true, Bool.false_eq_true, reduceCtorEq, z_bool, z_peek1, z_peek2, z_peek3, z_take1, z_take2, z_take3, z_slot1, z_slot2, z_slot3, z_slot4, z_ret1, z_ret2, z_ret3, z_arg1, z_arg2, z_arg3, z_arg4, z_arg0, z_frz0, z_frz1, z_frz2, z_frz3, z_frz4, z_lt, z_le, z_gt, z_ge, z_eqi, z_nei, z_eqs, z_nes, z_is, z_isnot, z_add, z_adds, z_addl, z_addt, z_sub, z_mul, z_mull, z_mult, z_fdiv, z_mod, z_pow, z_ixt, z_ixl, z_slct, z_slcl, z_revt, z_revl, z_lent, z_lenl, z_inti, z_intb, z_listl, z_listt, z_tupl, z_tupt, z_itl, z_itt, z_rg1, l1]
  refine ⟨rfl, v, rfl, rfl, ?_⟩
  simp only [q_var, q_cst, q_glob, q_bin, q_neg, q_cmp, q_chain, q_conj, q_notE, q_ite, q_tup, q_lst, q_dic, q_sub, q_slc, q_rev, q_call, q_callk, q_bi, q_rng, q_isinst, q_app, q_pop, q_popAt, q_lc, q_ex, q_asg, q_par, q_ret, q_ife, q_for, q_while, q_pass, q_brk, q_cont, q_seq1, q_seq2, wpEs, wpC, wpI, wpO, wpO', asgR, asgT, asgTs, peekAll, takeAll, slotAll, setAll, defFin, entry, slotA, List.map_cons, List.map_nil, List.length_cons, List.length_nil, List.cons_append, List.nil_append, List.replicate_succ, List.replicate_zero, List.getElem?_cons_zero, List.getElem?_cons_succ, List.set_cons_zero, List.set_cons_succ, IEs.len, ITs.len, flatR, flatD, if_true, if_false, eq_self, true_and, and_true, Bool.false_eq_true, reduceCtorEq, z_bool, z_peek1, z_peek2, z_peek3, z_take1, z_take2, z_take3, z_slot1, z_slot2, z_slot3, z_slot4, z_ret1, z_ret2, z_ret3, z_arg1, z_arg2, z_arg3, z_arg4, z_arg0, z_frz0, z_frz1, z_frz2, z_frz3, z_frz4, z_lt, z_le, z_gt, z_ge, z_eqi, z_nei, z_eqs, z_nes, z_is, z_isnot, z_add, z_adds, z_addl, z_addt, z_sub, z_mul, z_mull, z_mult, z_fdiv, z_mod, z_pow, z_ixt, z_ixl, z_slct, z_slcl, z_revt, z_revl, z_lent, z_lenl, z_inti, z_intb, z_listl, z_listt, z_tupl, z_tupt, z_itl, z_itt, z_rg1]
  cases v <;> try exact h
  case int i =>
    simp only [isI, wh, q_var, q_cst, q_glob, q_bin, q_neg, q_cmp, q_chain, q_conj, q_notE, q_ite, q_tup, q_lst, q_dic, q_sub, q_slc, q_rev, q_call, q_callk, q_bi, q_rng, q_isinst, q_app, q_pop, q_popAt, q_lc, q_ex, q_asg, q_par, q_ret, q_ife, q_for, q_while, q_pass, q_brk, q_cont, q_seq1, q_seq2, wpEs, wpC, wpI, wpO, wpO', asgR, asgT, asgTs, peekAll, takeAll, slotAll, setAll, defFin, entry, slotA, List.map_cons, List.map_nil, List.length_cons, List.length_nil, List.cons_append, List.nil_append, List.replicate_succ, List.replicate_zero, List.getElem?_cons_zero, List.getElem?_cons_succ, List.set_cons_zero, List.set_cons_succ, IEs.len, ITs.len, flatR, flatD, if_true, if_false, eq_self, true_and, and_true, Bool.false_eq_true, reduceCtorEq, z_bool, z_peek1, z_peek2, z_peek3, z_take1, z_take2, z_take3, z_slot1, z_slot2, z_slot3, z_slot4, z_ret1, z_ret2, z_ret3, z_arg1, z_arg2, z_arg3, z_arg4, z_arg0, z_frz0, z_frz1, z_frz2, z_frz3, z_frz4, z_lt, z_le, z_gt, z_ge, z_eqi, z_nei, z_eqs, z_nes, z_is, z_isnot, z_add, z_adds, z_addl, z_addt, z_sub, z_mul, z_mull, z_mult, z_fdiv, z_mod, z_pow, z_ixt, z_ixl, z_slct, z_slcl, z_revt, z_revl, z_lent, z_lenl, z_inti, z_intb, z_listl, z_listt, z_tupl, z_tupt, z_itl, z_itt, z_rg1] at h ⊢
    by_cases h0 : 0 ≤ i
    · simp only [h0, decide_true, if_true]
      have e : decide (i ≤ n - 1) = decide (i < n) := by congr 1; exact propext ⟨fun z => by omega, fun z => by omega⟩
      simpa only [h0, decide_true, Bool.true_and, e] using h
    · simpa only [h0, decide_false, Bool.false_and, Bool.false_eq_true, if_false] using h
theorem w_is_whole {Γ : Ctx} : ∀ as Qd Ed, as.length = 3 → s_is_whole.wp as Qd Ed → wpSs Γ (fun x _ => Ed x) i__law_is_whole (entry N__law_is_whole as) (defFin Qd) := by
  rintro as Qd Ed hl ⟨v, lo, hi, rfl, h⟩; clear hl
  unfold i__law_is_whole
  simp only [q_var, q_cst, q_glob, q_bin, q_neg, q_cmp, q_chain, q_conj, q_notE, q_ite, q_tup, q_lst, q_dic, q_sub, q_slc, q_rev, q_call, q_callk, q_bi, q_rng, q_isinst, q_app, q_pop, q_popAt, q_lc, q_ex, q_asg, q_par, q_ret, q_ife, q_for, q_while, q_pass, q_brk, q_cont, q_seq1, q_seq2, wpEs, wpC, wpI, wpO, wpO', asgR, asgT, asgTs, peekAll, takeAll, slotAll, setAll, defFin, entry, slotA, List.map_cons, List.map_nil, List.length_cons, List.length_nil, List.cons_append, List.nil_append, List.replicate_succ, List.replicate_zero, List.getElem?_cons_zero, List.getElem?_cons_succ, List.set_cons_zero, List.set_cons_succ, IEs.len, ITs.len, flatR, flatD, if_true, if_false, eq_self, true_and, and_true, Bool.false_eq_true, reduceCtorEq, z_bool, z_peek1, z_peek2, z_peek3, z_take1, z_take2, z_take3, z_slot1, z_slot2, z_slot3, z_slot4, z_ret1, z_ret2, z_ret3, z_arg1, z_arg2, z_arg3, z_arg4, z_arg0, z_frz0, z_frz1, z_frz2, z_frz3, z_frz4, z_lt, z_le, z_gt, z_ge, z_eqi, z_nei, z_eqs, z_nes, z_is, z_isnot, z_add, z_adds, z_addl, z_addt, z_sub, z_mul, z_mull, z_mult, z_fdiv, z_mod, z_pow, z_ixt, z_ixl, z_slct, z_slcl, z_revt, z_revl, z_lent, z_lenl, z_inti, z_intb, z_listl, z_listt, z_tupl, z_tupt, z_itl, z_itt, z_rg1]
  cases v <;> try exact h
  case int i =>
    simp only [isTy, wh, q_var, q_cst, q_glob, q_bin, q_neg, q_cmp, q_chain, q_conj, q_notE, q_ite, q_tup, q_lst, q_dic, q_sub, q_slc, q_rev, q_call, q_callk, q_bi, q_rng, q_isinst, q_app, q_pop, q_popAt, q_lc, q_ex, q_asg, q_par, q_ret, q_ife, q_for, q_while, q_pass, q_brk, q_cont, q_seq1, q_seq2, wpEs, wpC, wpI, wpO, wpO', asgR, asgT, asgTs, peekAll, takeAll, slotAll, setAll, defFin, entry, slotA, List.map_cons, List.map_nil, List.length_cons, List.length_nil, List.cons_append, List.nil_append, List.replicate_succ, List.replicate_zero, List.getElem?_cons_zero, List.getElem?_cons_succ, List.set_cons_zero, List.set_cons_succ, IEs.len, ITs.len, flatR, flatD, if_true, if_false, eq_self, true_and, and_true, Bool.false_eq_true, reduceCtorEq, z_bool, z_peek1, z_peek2, z_peek3, z_take1, z_take2, z_take3, z_slot1, z_slot2, z_slot3, z_slot4, z_ret1, z_ret2, z_ret3, z_arg1, z_arg2, z_arg3, z_arg4, z_arg0, z_frz0, z_frz1, z_frz2, z_frz3, z_frz4, z_lt, z_le, z_gt, z_ge, z_eqi, z_nei, z_eqs, z_nes, z_is, z_isnot, z_add, z_adds, z_addl, z_addt, z_sub, z_mul, z_mull, z_mult, z_fdiv, z_mod, z_pow, z_ixt, z_ixl, z_slct, z_slcl, z_revt, z_revl, z_lent, z_lenl, z_inti, z_intb, z_listl, z_listt, z_tupl, z_tupt, z_itl, z_itt, z_rg1] at h ⊢
    by_cases h0 : lo ≤ i
    · simpa [h0] using h
    · simpa [h0] using h
/-- enumerate: what is ahead, its places -/
def enL (k : Nat) : List D → List D
  | [] => []
  | d :: ds => .tuple [.int (k : Nat), d] :: enL (k + 1) ds
theorem enL_eq (ds : List D) : ∀ k, (ds.zipIdx k).map (fun p => PyData.tuple [.int (p.2 : Int), p.1]) = enL k ds := by
  induction ds with
  | nil => intro k; rfl
  | cons d ds ih => intro k; rw [List.zipIdx_cons, List.map_cons, ih]; rfl
theorem atI_nat {xs : List D} {k : Nat} {d : D} (h : xs[k]? = some d) : atI xs (k : Int) = some d := by
  have hk := (List.getElem?_eq_some_iff.mp h).1
  unfold atI ixN
  rw [if_pos (Int.natCast_nonneg k), if_pos (by omega)]
  simpa using h
/-- what is behind place k: none, or the last item as an int -/
def behind : List D → Option Int
  | [] => none
  | .int i :: _ => some i
  | _ => none
theorem w_lot_error {Γ : Ctx} (l1 : Γ.fns.lookup ("is_place" : Str) = some s_is_place) : ∀ as Qd Ed, as.length = 2 → s_lot_error.wp as Qd Ed → wpSs Γ (fun x _ => Ed x) i_lot_error (entry N_lot_error as) (defFin Qd) := by
  rintro as Qd Ed hl ⟨n, v, rfl, hz, h⟩; clear hl
  unfold i_lot_error
  simp only [q_var, q_cst, q_glob, q_bin, q_neg, q_cmp, q_chain, q_conj, q_notE, q_ite, q_tup, q_lst, q_dic, q_sub, q_slc, q_rev, q_call, q_callk, q_bi, q_rng, q_isinst, q_app, q_pop, q_popAt, q_lc, q_ex, q_asg, q_par, q_ret, q_ife, q_for, q_while, q_pass, q_brk, q_cont, q_seq1, q_seq2, wpEs, wpC, wpI, wpO, wpO', asgR, asgT, asgTs, peekAll, takeAll, slotAll, setAll, defFin, entry, slotA, List.map_cons, List.map_nil, List.length_cons, List.length_nil, List.cons_append, List.nil_append, List.replicate_succ, List.replicate_zero, List.getElem?_cons_zero, List.getElem?_cons_succ, List.set_cons_zero, List.set_cons_succ, IEs.len, ITs.len, flatR, flatD, if_true, if_false, eq_self, true_and, and_true, Bool.false_eq_true, reduceCtorEq, z_bool, z_peek1, z_peek2, z_peek3, z_take1, z_take2, z_take3, z_slot1, z_slot2, z_slot3, z_slot4, z_ret1, z_ret2, z_ret3, z_arg1, z_arg2, z_arg3, z_arg4, z_arg0, z_frz0, z_frz1, z_frz2, z_frz3, z_frz4, z_lt, z_le, z_gt, z_ge, z_eqi, z_nei, z_eqs, z_nes, z_is, z_isnot, z_add, z_adds, z_addl, z_addt, z_sub, z_mul, z_mull, z_mult, z_fdiv, z_mod, z_pow, z_ixt, z_ixl, z_slct, z_slcl, z_revt, z_revl, z_lent, z_lenl, z_inti, z_intb, z_listl, z_listt, z_tupl, z_tupt, z_itl, z_itt, z_rg1, l1]
  cases v <;> try exact h
  case tuple ds =>
    have hz : ds.length ≤ 1000 := hz
    have h : Qd (.im (lotGo n none 0 ds)) := h
    simp only [isTy, q_var, q_cst, q_glob, q_bin, q_neg, q_cmp, q_chain, q_conj, q_notE, q_ite, q_tup, q_lst, q_dic, q_sub, q_slc, q_rev, q_call, q_callk, q_bi, q_rng, q_isinst, q_app, q_pop, q_popAt, q_lc, q_ex, q_asg, q_par, q_ret, q_ife, q_for, q_while, q_pass, q_brk, q_cont, q_seq1, q_seq2, wpEs, wpC, wpI, wpO, wpO', asgR, asgT, asgTs, peekAll, takeAll, slotAll, setAll, defFin, entry, slotA, List.map_cons, List.map_nil, List.length_cons, List.length_nil, List.cons_append, List.nil_append, List.replicate_succ, List.replicate_zero, List.getElem?_cons_zero, List.getElem?_cons_succ, List.set_cons_zero, List.set_cons_succ, IEs.len, ITs.len, flatR, flatD, if_true, if_false, eq_self, true_and, and_true, Bool.false_eq_true, reduceCtorEq, z_bool, z_peek1, z_peek2, z_peek3, z_take1, z_take2, z_take3, z_slot1, z_slot2, z_slot3, z_slot4, z_ret1, z_ret2, z_ret3, z_arg1, z_arg2, z_arg3, z_arg4, z_arg0, z_frz0, z_frz1, z_frz2, z_frz3, z_frz4, z_lt, z_le, z_gt, z_ge, z_eqi, z_nei, z_eqs, z_nes, z_is, z_isnot, z_add, z_adds, z_addl, z_addt, z_sub, z_mul, z_mull, z_mult, z_fdiv, z_mod, z_pow, z_ixt, z_ixl, z_slct, z_slcl, z_revt, z_revl, z_lent, z_lenl, z_inti, z_intb, z_listl, z_listt, z_tupl, z_tupt, z_itl, z_itt, z_rg1]
    refine ⟨by rw [sizeLine_eq]; omega, ?_⟩
    rw [enL_eq]
    generalize hb : bodyF _ _ _ _ = bd
    have step : ∀ (es : List D) (k : Nat) (p : Option Int) (s2 s3 : Sl), ds.drop k = es → k ≤ ds.length → (∀ j, p = some j → ∃ m, k = m + 1 ∧ ds[m]? = some (.int j)) → (p = none → k = 0) → Qd (.im (lotGo n p k es)) →
        forL bd (enL k es) [.im (.int n), .im (.tuple ds), s2, s3] { nx := fun ρ => Qd (.im .none), rt := Qd, bk := fun _ => False, ct := fun _ => False } := by
      intro es
      induction es with
      | nil => intro k p s2 s3 _ _ _ _ hq; exact hq
      | cons d es ih =>
        intro k p s2 s3 hd hk hp hp0 hq
        rw [show enL k (d :: es) = .tuple [.int (k : Nat), d] :: enL (k + 1) es from rfl, z_for1, ← hb, bodyF_at, hb]
        simp only [q_var, q_cst, q_glob, q_bin, q_neg, q_cmp, q_chain, q_conj, q_notE, q_ite, q_tup, q_lst, q_dic, q_sub, q_slc, q_rev, q_call, q_callk, q_bi, q_rng, q_isinst, q_app, q_pop, q_popAt, q_lc, q_ex, q_asg, q_par, q_ret, q_ife, q_for, q_while, q_pass, q_brk, q_cont, q_seq1, q_seq2, wpEs, wpC, wpI, wpO, wpO', asgR, asgT, asgTs, peekAll, takeAll, slotAll, setAll, defFin, entry, slotA, List.map_cons, List.map_nil, List.length_cons, List.length_nil, List.cons_append, List.nil_append, List.replicate_succ, List.replicate_zero, List.getElem?_cons_zero, List.getElem?_cons_succ, List.set_cons_zero, List.set_cons_succ, IEs.len, ITs.len, flatR, flatD, if_true, if_false, eq_self, true_and, and_true, Bool.false_eq_true, reduceCtorEq, z_bool, z_peek1, z_peek2, z_peek3, z_take1, z_take2, z_take3, z_slot1, z_slot2, z_slot3, z_slot4, z_ret1, z_ret2, z_ret3, z_arg1, z_arg2, z_arg3, z_arg4, z_arg0, z_frz0, z_frz1, z_frz2, z_frz3, z_frz4, z_lt, z_le, z_gt, z_ge, z_eqi, z_nei, z_eqs, z_nes, z_is, z_isnot, z_add, z_adds, z_addl, z_addt, z_sub, z_mul, z_mull, z_mult, z_fdiv, z_mod, z_pow, z_ixt, z_ixl, z_slct, z_slcl, z_revt, z_revl, z_lent, z_lenl, z_inti, z_intb, z_listl, z_listt, z_tupl, z_tupt, z_itl, z_itt, z_rg1, l1]
        refine ⟨rfl, n, d, rfl, ?_⟩
        simp only [s_is_place, q_var, q_cst, q_glob, q_bin, q_neg, q_cmp, q_chain, q_conj, q_notE, q_ite, q_tup, q_lst, q_dic, q_sub, q_slc, q_rev, q_call, q_callk, q_bi, q_rng, q_isinst, q_app, q_pop, q_popAt, q_lc, q_ex, q_asg, q_par, q_ret, q_ife, q_for, q_while, q_pass, q_brk, q_cont, q_seq1, q_seq2, wpEs, wpC, wpI, wpO, wpO', asgR, asgT, asgTs, peekAll, takeAll, slotAll, setAll, defFin, entry, slotA, List.map_cons, List.map_nil, List.length_cons, List.length_nil, List.cons_append, List.nil_append, List.replicate_succ, List.replicate_zero, List.getElem?_cons_zero, List.getElem?_cons_succ, List.set_cons_zero, List.set_cons_succ, IEs.len, ITs.len, flatR, flatD, if_true, if_false, eq_self, true_and, and_true, Bool.false_eq_true, reduceCtorEq, z_bool, z_peek1, z_peek2, z_peek3, z_take1, z_take2, z_take3, z_slot1, z_slot2, z_slot3, z_slot4, z_ret1, z_ret2, z_ret3, z_arg1, z_arg2, z_arg3, z_arg4, z_arg0, z_frz0, z_frz1, z_frz2, z_frz3, z_frz4, z_lt, z_le, z_gt, z_ge, z_eqi, z_nei, z_eqs, z_nes, z_is, z_isnot, z_add, z_adds, z_addl, z_addt, z_sub, z_mul, z_mull, z_mult, z_fdiv, z_mod, z_pow, z_ixt, z_ixl, z_slct, z_slcl, z_revt, z_revl, z_lent, z_lenl, z_inti, z_intb, z_listl, z_listt, z_tupl, z_tupt, z_itl, z_itt, z_rg1]
        have dk : ds[k]? = some d := by rw [← List.head?_drop, hd]; rfl
        have hk' : k < ds.length := (List.getElem?_eq_some_iff.mp dk).1
        have hd' : ds.drop (k + 1) = es := by rw [← List.drop_drop, hd]; rfl
        have bad : lotGo n p k (d :: es) = .tuple [.str "item", .int k] → 0 + 1 + 1 ≤ 1000 ∧ Qd (.im (.tuple [.str "item", .int (k : Nat)])) := fun e => ⟨by decide, by rw [← e]; exact hq⟩
        cases d <;> simp only [wh, Bool.not_false, Bool.true_eq_false, if_false, if_true] <;> try exact bad rfl
        case int i =>
          by_cases hi : 0 ≤ i ∧ i < n
          · have e1 : (decide (0 ≤ i) && decide (i ≤ n - 1)) = true := by simp only [Bool.and_eq_true, decide_eq_true_eq]; omega
            simp only [e1, Bool.not_true, if_true]
            cases p with
            | none =>
              have k0 := hp0 rfl
              subst k0
              simp only [show decide ((0 : Int) < ((0 : Nat) : Int)) = false by decide, Bool.false_eq_true, if_false]
              refine ih 1 (some i) _ _ hd' hk' (fun j hj => ⟨0, rfl, by rw [← Option.some.inj hj]; exact dk⟩) (fun z => by cases z) ?_
              have : lotGo n none 0 (.int i :: es) = lotGo n (some i) 1 es := by
                show (if (0 ≤ i ∧ i < n) ∧ ∀ j, (none : Option Int) = some j → j < i then _ else _) = _
                rw [if_pos ⟨hi, fun j z => by cases z⟩]
              rw [← this]; exact hq
            | some j =>
              obtain ⟨m, rfl, hm⟩ := hp j rfl
              have e2 : decide ((0 : Int) < ((m + 1 : Nat) : Int)) = true := by simp only [decide_eq_true_eq]; omega
              have e3 : ((m + 1 : Nat) : Int) - 1 = (m : Int) := by omega
              simp only [e2, e3, if_true, atI_nat hm, z_le]
              by_cases hj : i ≤ j
              · rw [if_pos (decide_eq_true hj)]
                refine bad ?_
                show (if (0 ≤ i ∧ i < n) ∧ ∀ j', some j = some j' → j' < i then _ else _) = _
                rw [if_neg fun z => by have := z.2 j rfl; omega]
              · rw [if_neg (by rw [decide_eq_false hj]; decide)]
                refine ih (m + 1 + 1) (some i) _ _ hd' hk' (fun j hj => ⟨m + 1, rfl, by rw [← Option.some.inj hj]; exact dk⟩) (fun z => by cases z) ?_
                have : lotGo n (some j) (m + 1) (.int i :: es) = lotGo n (some i) (m + 1 + 1) es := by
                  show (if (0 ≤ i ∧ i < n) ∧ ∀ j', some j = some j' → j' < i then _ else _) = _
                  rw [if_pos ⟨hi, fun j' z => by rw [← Option.some.inj z]; omega⟩]
                rw [← this]; exact hq
          · have e1 : (decide (0 ≤ i) && decide (i ≤ n - 1)) = false := by
              cases e : (decide (0 ≤ i) && decide (i ≤ n - 1)) with
              | false => rfl
              | true => simp only [Bool.and_eq_true, decide_eq_true_eq] at e; omega
            simp only [e1, Bool.not_false, Bool.true_eq_false, if_false, if_true]
            refine bad ?_
            show (if (0 ≤ i ∧ i < n) ∧ ∀ j, p = some j → j < i then _ else _) = _
            rw [if_neg fun z => hi z.1]
    exact step ds 0 none _ _ rfl (Nat.zero_le _) (fun j z => by cases z) (fun _ => rfl) h
theorem w_lot_due {Γ : Ctx} (l1 : Γ.fns.lookup ("_law_is_whole" : Str) = some s_is_whole) : ∀ as Qd Ed, as.length = 2 → s_lot_due.wp as Qd Ed → wpSs Γ (fun x _ => Ed x) i__law_lot_due (entry N__law_lot_due as) (defFin Qd) := by
  rintro as Qd Ed hl ⟨n, v, rfl, hz, h⟩; clear hl
  unfold i__law_lot_due
  simp only [q_var, q_cst, q_glob, q_bin, q_neg, q_cmp, q_chain, q_conj, q_notE, q_ite, q_tup, q_lst, q_dic, q_sub, q_slc, q_rev, q_call, q_callk, q_bi, q_rng, q_isinst, q_app, q_pop, q_popAt, q_lc, q_ex, q_asg, q_par, q_ret, q_ife, q_for, q_while, q_pass, q_brk, q_cont, q_seq1, q_seq2, wpEs, wpC, wpI, wpO, wpO', asgR, asgT, asgTs, peekAll, takeAll, slotAll, setAll, defFin, entry, slotA, List.map_cons, List.map_nil, List.length_cons, List.length_nil, List.cons_append, List.nil_append, List.replicate_succ, List.replicate_zero, List.getElem?_cons_zero, List.getElem?_cons_succ, List.set_cons_zero, List.set_cons_succ, IEs.len, ITs.len, flatR, flatD, if_true, if_false, eq_self, true_and, and_true, Bool.false_eq_true, reduceCtorEq, z_bool, z_peek1, z_peek2, z_peek3, z_take1, z_take2, z_take3, z_slot1, z_slot2, z_slot3, z_slot4, z_ret1, z_ret2, z_ret3, z_arg1, z_arg2, z_arg3, z_arg4, z_arg0, z_frz0, z_frz1, z_frz2, z_frz3, z_frz4, z_lt, z_le, z_gt, z_ge, z_eqi, z_nei, z_eqs, z_nes, z_is, z_isnot, z_add, z_adds, z_addl, z_addt, z_sub, z_mul, z_mull, z_mult, z_fdiv, z_mod, z_pow, z_ixt, z_ixl, z_slct, z_slcl, z_revt, z_revl, z_lent, z_lenl, z_inti, z_intb, z_listl, z_listt, z_tupl, z_tupt, z_itl, z_itt, z_rg1, l1]
  cases v <;> try exact h
  case tuple ds =>
    have hz : ds.length ≤ 1000 := hz
    have h : Qd (.im (lotGo n none 0 ds)) := h
    simp only [isTy, q_var, q_cst, q_glob, q_bin, q_neg, q_cmp, q_chain, q_conj, q_notE, q_ite, q_tup, q_lst, q_dic, q_sub, q_slc, q_rev, q_call, q_callk, q_bi, q_rng, q_isinst, q_app, q_pop, q_popAt, q_lc, q_ex, q_asg, q_par, q_ret, q_ife, q_for, q_while, q_pass, q_brk, q_cont, q_seq1, q_seq2, wpEs, wpC, wpI, wpO, wpO', asgR, asgT, asgTs, peekAll, takeAll, slotAll, setAll, defFin, entry, slotA, List.map_cons, List.map_nil, List.length_cons, List.length_nil, List.cons_append, List.nil_append, List.replicate_succ, List.replicate_zero, List.getElem?_cons_zero, List.getElem?_cons_succ, List.set_cons_zero, List.set_cons_succ, IEs.len, ITs.len, flatR, flatD, if_true, if_false, eq_self, true_and, and_true, Bool.false_eq_true, reduceCtorEq, z_bool, z_peek1, z_peek2, z_peek3, z_take1, z_take2, z_take3, z_slot1, z_slot2, z_slot3, z_slot4, z_ret1, z_ret2, z_ret3, z_arg1, z_arg2, z_arg3, z_arg4, z_arg0, z_frz0, z_frz1, z_frz2, z_frz3, z_frz4, z_lt, z_le, z_gt, z_ge, z_eqi, z_nei, z_eqs, z_nes, z_is, z_isnot, z_add, z_adds, z_addl, z_addt, z_sub, z_mul, z_mull, z_mult, z_fdiv, z_mod, z_pow, z_ixt, z_ixl, z_slct, z_slcl, z_revt, z_revl, z_lent, z_lenl, z_inti, z_intb, z_listl, z_listt, z_tupl, z_tupt, z_itl, z_itt, z_rg1]
    refine ⟨by rw [sizeLine_eq]; omega, ?_⟩
    rw [enL_eq]
    generalize hb : bodyF _ _ _ _ = bd
    have step : ∀ (es : List D) (k : Nat) (p : Option Int) (s2 s3 : Sl), ds.drop k = es → k ≤ ds.length → (∀ j, p = some j → ∃ m, k = m + 1 ∧ ds[m]? = some (.int j)) → (p = none → k = 0) → Qd (.im (lotGo n p k es)) →
        forL bd (enL k es) [.im (.int n), .im (.tuple ds), s2, s3] { nx := fun ρ => Qd (.im .none), rt := Qd, bk := fun _ => False, ct := fun _ => False } := by
      intro es
      induction es with
      | nil => intro k p s2 s3 _ _ _ _ hq; exact hq
      | cons d es ih =>
        intro k p s2 s3 hd hk hp hp0 hq
        rw [show enL k (d :: es) = .tuple [.int (k : Nat), d] :: enL (k + 1) es from rfl, z_for1, ← hb, bodyF_at, hb]
        simp only [q_var, q_cst, q_glob, q_bin, q_neg, q_cmp, q_chain, q_conj, q_notE, q_ite, q_tup, q_lst, q_dic, q_sub, q_slc, q_rev, q_call, q_callk, q_bi, q_rng, q_isinst, q_app, q_pop, q_popAt, q_lc, q_ex, q_asg, q_par, q_ret, q_ife, q_for, q_while, q_pass, q_brk, q_cont, q_seq1, q_seq2, wpEs, wpC, wpI, wpO, wpO', asgR, asgT, asgTs, peekAll, takeAll, slotAll, setAll, defFin, entry, slotA, List.map_cons, List.map_nil, List.length_cons, List.length_nil, List.cons_append, List.nil_append, List.replicate_succ, List.replicate_zero, List.getElem?_cons_zero, List.getElem?_cons_succ, List.set_cons_zero, List.set_cons_succ, IEs.len, ITs.len, flatR, flatD, if_true, if_false, eq_self, true_and, and_true, Bool.false_eq_true, reduceCtorEq, z_bool, z_peek1, z_peek2, z_peek3, z_take1, z_take2, z_take3, z_slot1, z_slot2, z_slot3, z_slot4, z_ret1, z_ret2, z_ret3, z_arg1, z_arg2, z_arg3, z_arg4, z_arg0, z_frz0, z_frz1, z_frz2, z_frz3, z_frz4, z_lt, z_le, z_gt, z_ge, z_eqi, z_nei, z_eqs, z_nes, z_is, z_isnot, z_add, z_adds, z_addl, z_addt, z_sub, z_mul, z_mull, z_mult, z_fdiv, z_mod, z_pow, z_ixt, z_ixl, z_slct, z_slcl, z_revt, z_revl, z_lent, z_lenl, z_inti, z_intb, z_listl, z_listt, z_tupl, z_tupt, z_itl, z_itt, z_rg1, l1]
        refine ⟨rfl, d, 0, n - 1, rfl, ?_⟩
        simp only [s_is_whole, q_var, q_cst, q_glob, q_bin, q_neg, q_cmp, q_chain, q_conj, q_notE, q_ite, q_tup, q_lst, q_dic, q_sub, q_slc, q_rev, q_call, q_callk, q_bi, q_rng, q_isinst, q_app, q_pop, q_popAt, q_lc, q_ex, q_asg, q_par, q_ret, q_ife, q_for, q_while, q_pass, q_brk, q_cont, q_seq1, q_seq2, wpEs, wpC, wpI, wpO, wpO', asgR, asgT, asgTs, peekAll, takeAll, slotAll, setAll, defFin, entry, slotA, List.map_cons, List.map_nil, List.length_cons, List.length_nil, List.cons_append, List.nil_append, List.replicate_succ, List.replicate_zero, List.getElem?_cons_zero, List.getElem?_cons_succ, List.set_cons_zero, List.set_cons_succ, IEs.len, ITs.len, flatR, flatD, if_true, if_false, eq_self, true_and, and_true, Bool.false_eq_true, reduceCtorEq, z_bool, z_peek1, z_peek2, z_peek3, z_take1, z_take2, z_take3, z_slot1, z_slot2, z_slot3, z_slot4, z_ret1, z_ret2, z_ret3, z_arg1, z_arg2, z_arg3, z_arg4, z_arg0, z_frz0, z_frz1, z_frz2, z_frz3, z_frz4, z_lt, z_le, z_gt, z_ge, z_eqi, z_nei, z_eqs, z_nes, z_is, z_isnot, z_add, z_adds, z_addl, z_addt, z_sub, z_mul, z_mull, z_mult, z_fdiv, z_mod, z_pow, z_ixt, z_ixl, z_slct, z_slcl, z_revt, z_revl, z_lent, z_lenl, z_inti, z_intb, z_listl, z_listt, z_tupl, z_tupt, z_itl, z_itt, z_rg1]
        have dk : ds[k]? = some d := by rw [← List.head?_drop, hd]; rfl
        have hk' : k < ds.length := (List.getElem?_eq_some_iff.mp dk).1
        have hd' : ds.drop (k + 1) = es := by rw [← List.drop_drop, hd]; rfl
        have bad : lotGo n p k (d :: es) = .tuple [.str "item", .int k] → 0 + 1 + 1 ≤ 1000 ∧ Qd (.im (.tuple [.str "item", .int (k : Nat)])) := fun e => ⟨by decide, by rw [← e]; exact hq⟩
        cases d <;> simp only [wh, Bool.not_false, Bool.true_eq_false, if_false, if_true] <;> try exact bad rfl
        case int i =>
          by_cases hi : 0 ≤ i ∧ i < n
          · have e1 : (decide (0 ≤ i) && decide (i ≤ n - 1)) = true := by simp only [Bool.and_eq_true, decide_eq_true_eq]; omega
            simp only [e1, Bool.not_true, if_true]
            cases p with
            | none =>
              have k0 := hp0 rfl
              subst k0
              simp only [show decide ((0 : Int) < ((0 : Nat) : Int)) = false by decide, Bool.false_eq_true, if_false]
              refine ih 1 (some i) _ _ hd' hk' (fun j hj => ⟨0, rfl, by rw [← Option.some.inj hj]; exact dk⟩) (fun z => by cases z) ?_
              have : lotGo n none 0 (.int i :: es) = lotGo n (some i) 1 es := by
                show (if (0 ≤ i ∧ i < n) ∧ ∀ j, (none : Option Int) = some j → j < i then _ else _) = _
                rw [if_pos ⟨hi, fun j z => by cases z⟩]
              rw [← this]; exact hq
            | some j =>
              obtain ⟨m, rfl, hm⟩ := hp j rfl
              have e2 : decide ((0 : Int) < ((m + 1 : Nat) : Int)) = true := by simp only [decide_eq_true_eq]; omega
              have e3 : ((m + 1 : Nat) : Int) - 1 = (m : Int) := by omega
              simp only [e2, e3, if_true, atI_nat hm, z_le]
              by_cases hj : i ≤ j
              · rw [if_pos (decide_eq_true hj)]
                refine bad ?_
                show (if (0 ≤ i ∧ i < n) ∧ ∀ j', some j = some j' → j' < i then _ else _) = _
                rw [if_neg fun z => by have := z.2 j rfl; omega]
              · rw [if_neg (by rw [decide_eq_false hj]; decide)]
                refine ih (m + 1 + 1) (some i) _ _ hd' hk' (fun j hj => ⟨m + 1, rfl, by rw [← Option.some.inj hj]; exact dk⟩) (fun z => by cases z) ?_
                have : lotGo n (some j) (m + 1) (.int i :: es) = lotGo n (some i) (m + 1 + 1) es := by
                  show (if (0 ≤ i ∧ i < n) ∧ ∀ j', some j = some j' → j' < i then _ else _) = _
                  rw [if_pos ⟨hi, fun j' z => by rw [← Option.some.inj z]; omega⟩]
                rw [← this]; exact hq
          · have e1 : (decide (0 ≤ i) && decide (i ≤ n - 1)) = false := by
              cases e : (decide (0 ≤ i) && decide (i ≤ n - 1)) with
              | false => rfl
              | true => simp only [Bool.and_eq_true, decide_eq_true_eq] at e; omega
            simp only [e1, Bool.not_false, Bool.true_eq_false, if_false, if_true]
            refine bad ?_
            show (if (0 ≤ i ∧ i < n) ∧ ∀ j, p = some j → j < i then _ else _) = _
            rw [if_neg fun z => hi z.1]
    exact step ds 0 none _ _ rfl (Nat.zero_le _) (fun j z => by cases z) (fun _ => rfl) h
theorem shape_ints {ds : List D} (h : ∀ d ∈ ds, isI d = true) : SeqAt.shaped (.tuple ds) = true := by
  have go : ∀ ds : List D, (∀ d ∈ ds, isI d = true) → PyData.canLayAll0 ds = true ∧ PyData.depthAll ds = 0 := fun ds => by
    induction ds with
    | nil => intro _; exact ⟨rfl, rfl⟩
    | cons d ds ih =>
      intro h
      obtain ⟨h1, h2⟩ := ih fun x hx => h x (List.mem_cons_of_mem _ hx)
      have hd := h d List.mem_cons_self
      cases d <;> first | exact absurd hd (by decide) | exact absurd hd Bool.false_ne_true | skip
      case int i =>
        refine ⟨?_, ?_⟩
        · simp only [PyData.canLayAll0, PyData.canLay0, h1, Bool.and_self]
        · simp only [PyData.depthAll, PyData.depth, h2, Nat.max_self]
  obtain ⟨h1, h2⟩ := go ds h
  unfold SeqAt.shaped
  simp only [PyData.canLay0, h1, PyData.depth, h2, Bool.true_and, decide_eq_true_eq]
  omega
theorem cut_take {ds : List D} {k : Nat} (h : k ≤ ds.length) : cutD ds none (some (k : Int)) = ds.take k := by
  unfold cutD HT.sIx
  simp only [List.drop_zero]
  rw [if_neg (by omega)]
  have : min ((k : Int)).toNat ds.length - 0 = k := by omega
  rw [this]
/-- the first item that is no rider -/
def badAt : Nat → List D → Option Nat
  | _, [] => none
  | k, d :: ds => if wh 0 99 d = true then badAt (k + 1) ds else some k
/-- the first rider that was there before -/
def twGo : Nat → List D → List D → D
  | _, _, [] => .none
  | k, pre, d :: es => if (match d with | .int i => decide (0 < i) | _ => false) = true ∧ (pre.any fun z => PyData.eqv z d) = true then .tuple [.str "twice", .int k] else twGo (k + 1) (pre ++ [d]) es
def stdErr (n : Int) : D → D
  | .tuple ds => if (ds.length : Int) = n then (match badAt 0 ds with | some k => .tuple [.str "item", .int k] | none => twGo 0 [] ds) else .str "form"
  | _ => .str "form"
theorem badAt_cons {k : Nat} {d : D} {ds : List D} : badAt k (d :: ds) = if wh 0 99 d = true then badAt (k + 1) ds else some k := rfl
theorem badAt_all : ∀ {ds : List D} {k : Nat}, badAt k ds = none → ∀ d ∈ ds, wh 0 99 d = true
  | [], _, _, d, hd => by cases hd
  | x :: xs, k, h, d, hd => by
    unfold badAt at h
    by_cases hx : wh 0 99 x = true
    · rw [if_pos hx] at h
      rcases List.mem_cons.mp hd with z | z
      · rw [z]; exact hx
      · exact badAt_all h d z
    · rw [if_neg hx] at h; cases h
theorem wh_int {lo hi : Int} {d : D} (h : wh lo hi d = true) : ∃ i, d = .int i ∧ lo ≤ i ∧ i ≤ hi := by
  cases d <;> first | exact absurd h Bool.false_ne_true | skip
  case int i =>
    have h : (decide (lo ≤ i) && decide (i ≤ hi)) = true := h
    simp only [Bool.and_eq_true, decide_eq_true_eq] at h
    exact ⟨i, rfl, h.1, h.2⟩
def s_standing_error : DSpec := ⟨false, ["n", "value"], fun as Qd _ => ∃ n v, as = [.d (.int n), .d v] ∧ szD v ∧ Qd (.im (stdErr n v))⟩
def s_standing_due : DSpec := { s_standing_error with ps := ["many", "value"] }
theorem w_standing_error {Γ : Ctx} (l1 : Γ.fns.lookup ("is_integer" : Str) = some s_is_integer) (l2 : Γ.gls.lookup ("MAX_RIDER" : Str) = some (.int 99)) : ∀ as Qd Ed, as.length = 2 → s_standing_error.wp as Qd Ed → wpSs Γ (fun x _ => Ed x) i_standing_error (entry N_standing_error as) (defFin Qd) := by
  rintro as Qd Ed hl ⟨n, v, rfl, hz, h⟩; clear hl
  unfold i_standing_error
  refine seq_then fun F' hr _ _ hnx => ?_
  have hr : F'.rt = Qd := hr
  simp only [q_var, q_cst, q_glob, q_bin, q_neg, q_cmp, q_chain, q_conj, q_notE, q_ite, q_tup, q_lst, q_dic, q_sub, q_slc, q_rev, q_call, q_callk, q_bi, q_rng, q_isinst, q_app, q_pop, q_popAt, q_lc, q_ex, q_asg, q_par, q_ret, q_ife, q_for, q_while, q_pass, q_brk, q_cont, q_seq1, q_seq2, wpEs, wpC, wpI, wpO, wpO', asgR, asgT, asgTs, peekAll, takeAll, slotAll, setAll, defFin, entry, slotA, List.map_cons, List.map_nil, List.length_cons, List.length_nil, List.cons_append, List.nil_append, List.replicate_succ, List.replicate_zero, List.getElem?_cons_zero, List.getElem?_cons_succ, List.set_cons_zero, List.set_cons_succ, IEs.len, ITs.len, flatR, flatD, if_true, if_false, eq_self, true_and, and_true, Bool.false_eq_true, reduceCtorEq, z_bool, z_peek1, z_peek2, z_peek3, z_take1, z_take2, z_take3, z_slot1, z_slot2, z_slot3, z_slot4, z_ret1, z_ret2, z_ret3, z_arg1, z_arg2, z_arg3, z_arg4, z_arg0, z_frz0, z_frz1, z_frz2, z_frz3, z_frz4, z_lt, z_le, z_gt, z_ge, z_eqi, z_nei, z_eqs, z_nes, z_is, z_isnot, z_add, z_adds, z_addl, z_addt, z_sub, z_mul, z_mull, z_mult, z_fdiv, z_mod, z_pow, z_ixt, z_ixl, z_slct, z_slcl, z_revt, z_revl, z_lent, z_lenl, z_inti, z_intb, z_listl, z_listt, z_tupl, z_tupt, z_itl, z_itt, z_rg1, hr]
  cases v <;> try exact h
  case tuple ds =>
    have hz : ds.length ≤ 1000 := hz
    have h : Qd (.im (if (ds.length : Int) = n then (match badAt 0 ds with | some k => .tuple [.str "item", .int k] | none => twGo 0 [] ds) else .str "form")) := h
    simp only [isTy, q_var, q_cst, q_glob, q_bin, q_neg, q_cmp, q_chain, q_conj, q_notE, q_ite, q_tup, q_lst, q_dic, q_sub, q_slc, q_rev, q_call, q_callk, q_bi, q_rng, q_isinst, q_app, q_pop, q_popAt, q_lc, q_ex, q_asg, q_par, q_ret, q_ife, q_for, q_while, q_pass, q_brk, q_cont, q_seq1, q_seq2, wpEs, wpC, wpI, wpO, wpO', asgR, asgT, asgTs, peekAll, takeAll, slotAll, setAll, defFin, entry, slotA, List.map_cons, List.map_nil, List.length_cons, List.length_nil, List.cons_append, List.nil_append, List.replicate_succ, List.replicate_zero, List.getElem?_cons_zero, List.getElem?_cons_succ, List.set_cons_zero, List.set_cons_succ, IEs.len, ITs.len, flatR, flatD, if_true, if_false, eq_self, true_and, and_true, Bool.false_eq_true, reduceCtorEq, z_bool, z_peek1, z_peek2, z_peek3, z_take1, z_take2, z_take3, z_slot1, z_slot2, z_slot3, z_slot4, z_ret1, z_ret2, z_ret3, z_arg1, z_arg2, z_arg3, z_arg4, z_arg0, z_frz0, z_frz1, z_frz2, z_frz3, z_frz4, z_lt, z_le, z_gt, z_ge, z_eqi, z_nei, z_eqs, z_nes, z_is, z_isnot, z_add, z_adds, z_addl, z_addt, z_sub, z_mul, z_mull, z_mult, z_fdiv, z_mod, z_pow, z_ixt, z_ixl, z_slct, z_slcl, z_revt, z_revl, z_lent, z_lenl, z_inti, z_intb, z_listl, z_listt, z_tupl, z_tupt, z_itl, z_itt, z_rg1]
    by_cases hn : (ds.length : Int) = n
    · rw [if_pos hn] at h
      simp only [hn, decide_true, Bool.not_true, Bool.false_eq_true, if_false, show (("tuple" : String) == "tuple") = true by decide, if_true]
      refine hnx _ ?_
      refine seq_then fun F2 hr2 _ _ hnx2 => ?_
      have hr2 : F2.rt = Qd := hr2
      simp only [q_var, q_cst, q_glob, q_bin, q_neg, q_cmp, q_chain, q_conj, q_notE, q_ite, q_tup, q_lst, q_dic, q_sub, q_slc, q_rev, q_call, q_callk, q_bi, q_rng, q_isinst, q_app, q_pop, q_popAt, q_lc, q_ex, q_asg, q_par, q_ret, q_ife, q_for, q_while, q_pass, q_brk, q_cont, q_seq1, q_seq2, wpEs, wpC, wpI, wpO, wpO', asgR, asgT, asgTs, peekAll, takeAll, slotAll, setAll, defFin, entry, slotA, List.map_cons, List.map_nil, List.length_cons, List.length_nil, List.cons_append, List.nil_append, List.replicate_succ, List.replicate_zero, List.getElem?_cons_zero, List.getElem?_cons_succ, List.set_cons_zero, List.set_cons_succ, IEs.len, ITs.len, flatR, flatD, if_true, if_false, eq_self, true_and, and_true, Bool.false_eq_true, reduceCtorEq, z_bool, z_peek1, z_peek2, z_peek3, z_take1, z_take2, z_take3, z_slot1, z_slot2, z_slot3, z_slot4, z_ret1, z_ret2, z_ret3, z_arg1, z_arg2, z_arg3, z_arg4, z_arg0, z_frz0, z_frz1, z_frz2, z_frz3, z_frz4, z_lt, z_le, z_gt, z_ge, z_eqi, z_nei, z_eqs, z_nes, z_is, z_isnot, z_add, z_adds, z_addl, z_addt, z_sub, z_mul, z_mull, z_mult, z_fdiv, z_mod, z_pow, z_ixt, z_ixl, z_slct, z_slcl, z_revt, z_revl, z_lent, z_lenl, z_inti, z_intb, z_listl, z_listt, z_tupl, z_tupt, z_itl, z_itt, z_rg1]
      refine ⟨by rw [sizeLine_eq]; omega, ?_⟩
      rw [enL_eq]
      generalize hb : bodyF _ _ _ _ = bd
      -- the second loop
      have two : badAt 0 ds = none → ∀ s2 s3, wpS Γ (fun x _ => Ed x) (.for_ (.tup (.cons (.nm 2) (.cons (.nm 3) .nil))) (.enum (.var 1)) (.cons (.ife (.conj true (.cons (.cmp .gt (.var 3) (.cst (.int 0))) (.cons (.cmp .isin (.var 3) (.slc (.var 1) .non (.som (.var 2)))) .nil))) (.cons (.ret (.tup (.cons (.cst (.str "twice")) (.cons (.var 2) .nil)))) .nil) .nil) .nil)) [.im (.int n), .im (.tuple ds), s2, s3]
          { nx := fun ρ => Qd (.im .none), rt := Qd, bk := fun _ => False, ct := fun _ => False } := by
        intro hbad s2 s3
        rw [hbad] at h
        have all := badAt_all hbad
        simp only [q_var, q_cst, q_glob, q_bin, q_neg, q_cmp, q_chain, q_conj, q_notE, q_ite, q_tup, q_lst, q_dic, q_sub, q_slc, q_rev, q_call, q_callk, q_bi, q_rng, q_isinst, q_app, q_pop, q_popAt, q_lc, q_ex, q_asg, q_par, q_ret, q_ife, q_for, q_while, q_pass, q_brk, q_cont, q_seq1, q_seq2, wpEs, wpC, wpI, wpO, wpO', asgR, asgT, asgTs, peekAll, takeAll, slotAll, setAll, defFin, entry, slotA, List.map_cons, List.map_nil, List.length_cons, List.length_nil, List.cons_append, List.nil_append, List.replicate_succ, List.replicate_zero, List.getElem?_cons_zero, List.getElem?_cons_succ, List.set_cons_zero, List.set_cons_succ, IEs.len, ITs.len, flatR, flatD, if_true, if_false, eq_self, true_and, and_true, Bool.false_eq_true, reduceCtorEq, z_bool, z_peek1, z_peek2, z_peek3, z_take1, z_take2, z_take3, z_slot1, z_slot2, z_slot3, z_slot4, z_ret1, z_ret2, z_ret3, z_arg1, z_arg2, z_arg3, z_arg4, z_arg0, z_frz0, z_frz1, z_frz2, z_frz3, z_frz4, z_lt, z_le, z_gt, z_ge, z_eqi, z_nei, z_eqs, z_nes, z_is, z_isnot, z_add, z_adds, z_addl, z_addt, z_sub, z_mul, z_mull, z_mult, z_fdiv, z_mod, z_pow, z_ixt, z_ixl, z_slct, z_slcl, z_revt, z_revl, z_lent, z_lenl, z_inti, z_intb, z_listl, z_listt, z_tupl, z_tupt, z_itl, z_itt, z_rg1]
        refine ⟨by rw [sizeLine_eq]; omega, ?_⟩
        rw [enL_eq]
        generalize hb2 : bodyF _ _ _ _ = bd2
        have step : ∀ (es : List D) (k : Nat) (s2 s3 : Sl), ds.drop k = es → k ≤ ds.length → Qd (.im (twGo k (ds.take k) es)) → forL bd2 (enL k es) [.im (.int n), .im (.tuple ds), s2, s3] { nx := fun ρ => Qd (.im .none), rt := Qd, bk := fun _ => False, ct := fun _ => False } := by
          intro es
          induction es with
          | nil => intro k s2 s3 _ _ hq; exact hq
          | cons d es ih =>
            intro k s2 s3 hd hk hq
            rw [show enL k (d :: es) = .tuple [.int (k : Nat), d] :: enL (k + 1) es from rfl, z_for1, ← hb2, bodyF_at, hb2]
            simp only [q_var, q_cst, q_glob, q_bin, q_neg, q_cmp, q_chain, q_conj, q_notE, q_ite, q_tup, q_lst, q_dic, q_sub, q_slc, q_rev, q_call, q_callk, q_bi, q_rng, q_isinst, q_app, q_pop, q_popAt, q_lc, q_ex, q_asg, q_par, q_ret, q_ife, q_for, q_while, q_pass, q_brk, q_cont, q_seq1, q_seq2, wpEs, wpC, wpI, wpO, wpO', asgR, asgT, asgTs, peekAll, takeAll, slotAll, setAll, defFin, entry, slotA, List.map_cons, List.map_nil, List.length_cons, List.length_nil, List.cons_append, List.nil_append, List.replicate_succ, List.replicate_zero, List.getElem?_cons_zero, List.getElem?_cons_succ, List.set_cons_zero, List.set_cons_succ, IEs.len, ITs.len, flatR, flatD, if_true, if_false, eq_self, true_and, and_true, Bool.false_eq_true, reduceCtorEq, z_bool, z_peek1, z_peek2, z_peek3, z_take1, z_take2, z_take3, z_slot1, z_slot2, z_slot3, z_slot4, z_ret1, z_ret2, z_ret3, z_arg1, z_arg2, z_arg3, z_arg4, z_arg0, z_frz0, z_frz1, z_frz2, z_frz3, z_frz4, z_lt, z_le, z_gt, z_ge, z_eqi, z_nei, z_eqs, z_nes, z_is, z_isnot, z_add, z_adds, z_addl, z_addt, z_sub, z_mul, z_mull, z_mult, z_fdiv, z_mod, z_pow, z_ixt, z_ixl, z_slct, z_slcl, z_revt, z_revl, z_lent, z_lenl, z_inti, z_intb, z_listl, z_listt, z_tupl, z_tupt, z_itl, z_itt, z_rg1]
            have dk : ds[k]? = some d := by rw [← List.head?_drop, hd]; rfl
            have hk' : k < ds.length := (List.getElem?_eq_some_iff.mp dk).1
            have hd' : ds.drop (k + 1) = es := by rw [← List.drop_drop, hd]; rfl
            have htk : ds.take (k + 1) = ds.take k ++ [d] := by rw [List.take_add_one, dk]; rfl
            obtain ⟨i, rfl, i0, i9⟩ := wh_int (all d (List.mem_of_getElem? dk))
            unfold twGo at hq
            simp only [q_var, q_cst, q_glob, q_bin, q_neg, q_cmp, q_chain, q_conj, q_notE, q_ite, q_tup, q_lst, q_dic, q_sub, q_slc, q_rev, q_call, q_callk, q_bi, q_rng, q_isinst, q_app, q_pop, q_popAt, q_lc, q_ex, q_asg, q_par, q_ret, q_ife, q_for, q_while, q_pass, q_brk, q_cont, q_seq1, q_seq2, wpEs, wpC, wpI, wpO, wpO', asgR, asgT, asgTs, peekAll, takeAll, slotAll, setAll, defFin, entry, slotA, List.map_cons, List.map_nil, List.length_cons, List.length_nil, List.cons_append, List.nil_append, List.replicate_succ, List.replicate_zero, List.getElem?_cons_zero, List.getElem?_cons_succ, List.set_cons_zero, List.set_cons_succ, IEs.len, ITs.len, flatR, flatD, if_true, if_false, eq_self, true_and, and_true, Bool.false_eq_true, reduceCtorEq, z_bool, z_peek1, z_peek2, z_peek3, z_take1, z_take2, z_take3, z_slot1, z_slot2, z_slot3, z_slot4, z_ret1, z_ret2, z_ret3, z_arg1, z_arg2, z_arg3, z_arg4, z_arg0, z_frz0, z_frz1, z_frz2, z_frz3, z_frz4, z_lt, z_le, z_gt, z_ge, z_eqi, z_nei, z_eqs, z_nes, z_is, z_isnot, z_add, z_adds, z_addl, z_addt, z_sub, z_mul, z_mull, z_mult, z_fdiv, z_mod, z_pow, z_ixt, z_ixl, z_slct, z_slcl, z_revt, z_revl, z_lent, z_lenl, z_inti, z_intb, z_listl, z_listt, z_tupl, z_tupt, z_itl, z_itt, z_rg1]
            by_cases hi : 0 < i
            · simp only [hi, decide_true, if_true, true_and] at hq ⊢
              rw [cut_take (by omega)]
              refine ⟨⟨rfl, shape_ints fun x hx => ?_⟩, ?_⟩
              · obtain ⟨j, rfl, _⟩ := wh_int (all x (List.mem_of_mem_take hx)); rfl
              · cases e : (ds.take k).any fun z => PyData.eqv z (.int i) with
                | true =>
                  rw [e] at hq
                  simp only [if_true] at hq ⊢
                  exact ⟨by decide, hq⟩
                | false =>
                  rw [e] at hq
                  simp only [Bool.false_eq_true, if_false] at hq ⊢
                  exact ih (k + 1) _ _ hd' hk' (by rw [htk]; exact hq)
            · simp only [hi, decide_false, Bool.false_eq_true, if_false, false_and] at hq ⊢
              exact ih (k + 1) _ _ hd' hk' (by rw [htk]; exact hq)
        exact step ds 0 _ _ rfl (Nat.zero_le _) (by rw [List.take_zero]; exact h)
      have step : ∀ (es : List D) (k : Nat) (s2 s3 : Sl), ds.drop k = es → k ≤ ds.length → badAt 0 ds = badAt k es → forL bd (enL k es) [.im (.int n), .im (.tuple ds), s2, s3] F2 := by
        intro es
        induction es with
        | nil => intro k s2 s3 _ _ hq; exact hnx2 _ (two (by rw [hq]; rfl) s2 s3)
        | cons d es ih =>
          intro k s2 s3 hd hk hq
          rw [show enL k (d :: es) = .tuple [.int (k : Nat), d] :: enL (k + 1) es from rfl, z_for1, ← hb, bodyF_at, hb]
          simp only [q_var, q_cst, q_glob, q_bin, q_neg, q_cmp, q_chain, q_conj, q_notE, q_ite, q_tup, q_lst, q_dic, q_sub, q_slc, q_rev, q_call, q_callk, q_bi, q_rng, q_isinst, q_app, q_pop, q_popAt, q_lc, q_ex, q_asg, q_par, q_ret, q_ife, q_for, q_while, q_pass, q_brk, q_cont, q_seq1, q_seq2, wpEs, wpC, wpI, wpO, wpO', asgR, asgT, asgTs, peekAll, takeAll, slotAll, setAll, defFin, entry, slotA, List.map_cons, List.map_nil, List.length_cons, List.length_nil, List.cons_append, List.nil_append, List.replicate_succ, List.replicate_zero, List.getElem?_cons_zero, List.getElem?_cons_succ, List.set_cons_zero, List.set_cons_succ, IEs.len, ITs.len, flatR, flatD, if_true, if_false, eq_self, true_and, and_true, Bool.false_eq_true, reduceCtorEq, z_bool, z_peek1, z_peek2, z_peek3, z_take1, z_take2, z_take3, z_slot1, z_slot2, z_slot3, z_slot4, z_ret1, z_ret2, z_ret3, z_arg1, z_arg2, z_arg3, z_arg4, z_arg0, z_frz0, z_frz1, z_frz2, z_frz3, z_frz4, z_lt, z_le, z_gt, z_ge, z_eqi, z_nei, z_eqs, z_nes, z_is, z_isnot, z_add, z_adds, z_addl, z_addt, z_sub, z_mul, z_mull, z_mult, z_fdiv, z_mod, z_pow, z_ixt, z_ixl, z_slct, z_slcl, z_revt, z_revl, z_lent, z_lenl, z_inti, z_intb, z_listl, z_listt, z_tupl, z_tupt, z_itl, z_itt, z_rg1, l1, l2]
          refine ⟨rfl, d, rfl, ?_⟩
          simp only [s_is_integer, hr2, q_var, q_cst, q_glob, q_bin, q_neg, q_cmp, q_chain, q_conj, q_notE, q_ite, q_tup, q_lst, q_dic, q_sub, q_slc, q_rev, q_call, q_callk, q_bi, q_rng, q_isinst, q_app, q_pop, q_popAt, q_lc, q_ex, q_asg, q_par, q_ret, q_ife, q_for, q_while, q_pass, q_brk, q_cont, q_seq1, q_seq2, wpEs, wpC, wpI, wpO, wpO', asgR, asgT, asgTs, peekAll, takeAll, slotAll, setAll, defFin, entry, slotA, List.map_cons, List.map_nil, List.length_cons, List.length_nil, List.cons_append, List.nil_append, List.replicate_succ, List.replicate_zero, List.getElem?_cons_zero, List.getElem?_cons_succ, List.set_cons_zero, List.set_cons_succ, IEs.len, ITs.len, flatR, flatD, if_true, if_false, eq_self, true_and, and_true, Bool.false_eq_true, reduceCtorEq, z_bool, z_peek1, z_peek2, z_peek3, z_take1, z_take2, z_take3, z_slot1, z_slot2, z_slot3, z_slot4, z_ret1, z_ret2, z_ret3, z_arg1, z_arg2, z_arg3, z_arg4, z_arg0, z_frz0, z_frz1, z_frz2, z_frz3, z_frz4, z_lt, z_le, z_gt, z_ge, z_eqi, z_nei, z_eqs, z_nes, z_is, z_isnot, z_add, z_adds, z_addl, z_addt, z_sub, z_mul, z_mull, z_mult, z_fdiv, z_mod, z_pow, z_ixt, z_ixl, z_slct, z_slcl, z_revt, z_revl, z_lent, z_lenl, z_inti, z_intb, z_listl, z_listt, z_tupl, z_tupt, z_itl, z_itt, z_rg1]
          have dk : ds[k]? = some d := by rw [← List.head?_drop, hd]; rfl
          have hk' : k < ds.length := (List.getElem?_eq_some_iff.mp dk).1
          have hd' : ds.drop (k + 1) = es := by rw [← List.drop_drop, hd]; rfl
          rw [badAt_cons] at hq
          have bad : wh 0 99 d = false → 0 + 1 + 1 ≤ 1000 ∧ Qd (.im (.tuple [.str "item", .int (k : Nat)])) := fun e => ⟨by decide, by
            rw [e] at hq
            simp only [Bool.false_eq_true, if_false] at hq
            rw [hq] at h; exact h⟩
          cases d <;> simp only [isI, Bool.not_false, Bool.true_eq_false, if_false, if_true] <;> try exact bad rfl
          case int i =>
            simp only [Bool.not_true, if_true, q_var, q_cst, q_glob, q_bin, q_neg, q_cmp, q_chain, q_conj, q_notE, q_ite, q_tup, q_lst, q_dic, q_sub, q_slc, q_rev, q_call, q_callk, q_bi, q_rng, q_isinst, q_app, q_pop, q_popAt, q_lc, q_ex, q_asg, q_par, q_ret, q_ife, q_for, q_while, q_pass, q_brk, q_cont, q_seq1, q_seq2, wpEs, wpC, wpI, wpO, wpO', asgR, asgT, asgTs, peekAll, takeAll, slotAll, setAll, defFin, entry, slotA, List.map_cons, List.map_nil, List.length_cons, List.length_nil, List.cons_append, List.nil_append, List.replicate_succ, List.replicate_zero, List.getElem?_cons_zero, List.getElem?_cons_succ, List.set_cons_zero, List.set_cons_succ, IEs.len, ITs.len, flatR, flatD, if_true, if_false, eq_self, true_and, and_true, Bool.false_eq_true, reduceCtorEq, z_bool, z_peek1, z_peek2, z_peek3, z_take1, z_take2, z_take3, z_slot1, z_slot2, z_slot3, z_slot4, z_ret1, z_ret2, z_ret3, z_arg1, z_arg2, z_arg3, z_arg4, z_arg0, z_frz0, z_frz1, z_frz2, z_frz3, z_frz4, z_lt, z_le, z_gt, z_ge, z_eqi, z_nei, z_eqs, z_nes, z_is, z_isnot, z_add, z_adds, z_addl, z_addt, z_sub, z_mul, z_mull, z_mult, z_fdiv, z_mod, z_pow, z_ixt, z_ixl, z_slct, z_slcl, z_revt, z_revl, z_lent, z_lenl, z_inti, z_intb, z_listl, z_listt, z_tupl, z_tupt, z_itl, z_itt, z_rg1]
            by_cases h0 : 0 ≤ i
            · by_cases h9 : i ≤ 99
              · have e : wh 0 99 (.int i) = true := by show (decide (0 ≤ i) && decide (i ≤ 99)) = true; simp [h0, h9]
                rw [e] at hq
                simp only [h0, h9, decide_true, if_true, Bool.not_true, Bool.false_eq_true, if_false] at hq ⊢
                exact ih (k + 1) _ _ hd' hk' hq
              · have e : wh 0 99 (.int i) = false := by show (decide (0 ≤ i) && decide (i ≤ 99)) = false; simp [h9]
                simp only [h0, h9, decide_true, decide_false, if_true, Bool.not_false]
                exact bad e
            · have e : wh 0 99 (.int i) = false := by show (decide (0 ≤ i) && decide (i ≤ 99)) = false; simp [h0]
              simp only [h0, decide_false, if_true, Bool.false_eq_true, if_false, Bool.not_false]
              exact bad e
      exact step ds 0 _ _ rfl (Nat.zero_le _) rfl
    · rw [if_neg hn] at h
      have hn' : ¬ (n = (ds.length : Int)) := fun z => hn z.symm
      simpa [hn, hn'] using h
theorem w_standing_due {Γ : Ctx} (l1 : Γ.fns.lookup ("_law_is_whole" : Str) = some s_is_whole) : ∀ as Qd Ed, as.length = 2 → s_standing_due.wp as Qd Ed → wpSs Γ (fun x _ => Ed x) i__law_standing_due (entry N__law_standing_due as) (defFin Qd) := by
  rintro as Qd Ed hl ⟨n, v, rfl, hz, h⟩; clear hl
  unfold i__law_standing_due
  refine seq_then fun F' hr _ _ hnx => ?_
  have hr : F'.rt = Qd := hr
  simp only [q_var, q_cst, q_glob, q_bin, q_neg, q_cmp, q_chain, q_conj, q_notE, q_ite, q_tup, q_lst, q_dic, q_sub, q_slc, q_rev, q_call, q_callk, q_bi, q_rng, q_isinst, q_app, q_pop, q_popAt, q_lc, q_ex, q_asg, q_par, q_ret, q_ife, q_for, q_while, q_pass, q_brk, q_cont, q_seq1, q_seq2, wpEs, wpC, wpI, wpO, wpO', asgR, asgT, asgTs, peekAll, takeAll, slotAll, setAll, defFin, entry, slotA, List.map_cons, List.map_nil, List.length_cons, List.length_nil, List.cons_append, List.nil_append, List.replicate_succ, List.replicate_zero, List.getElem?_cons_zero, List.getElem?_cons_succ, List.set_cons_zero, List.set_cons_succ, IEs.len, ITs.len, flatR, flatD, if_true, if_false, eq_self, true_and, and_true, Bool.false_eq_true, reduceCtorEq, z_bool, z_peek1, z_peek2, z_peek3, z_take1, z_take2, z_take3, z_slot1, z_slot2, z_slot3, z_slot4, z_ret1, z_ret2, z_ret3, z_arg1, z_arg2, z_arg3, z_arg4, z_arg0, z_frz0, z_frz1, z_frz2, z_frz3, z_frz4, z_lt, z_le, z_gt, z_ge, z_eqi, z_nei, z_eqs, z_nes, z_is, z_isnot, z_add, z_adds, z_addl, z_addt, z_sub, z_mul, z_mull, z_mult, z_fdiv, z_mod, z_pow, z_ixt, z_ixl, z_slct, z_slcl, z_revt, z_revl, z_lent, z_lenl, z_inti, z_intb, z_listl, z_listt, z_tupl, z_tupt, z_itl, z_itt, z_rg1, hr]
  cases v <;> try exact h
  case tuple ds =>
    have hz : ds.length ≤ 1000 := hz
    have h : Qd (.im (if (ds.length : Int) = n then (match badAt 0 ds with | some k => .tuple [.str "item", .int k] | none => twGo 0 [] ds) else .str "form")) := h
    simp only [isTy, q_var, q_cst, q_glob, q_bin, q_neg, q_cmp, q_chain, q_conj, q_notE, q_ite, q_tup, q_lst, q_dic, q_sub, q_slc, q_rev, q_call, q_callk, q_bi, q_rng, q_isinst, q_app, q_pop, q_popAt, q_lc, q_ex, q_asg, q_par, q_ret, q_ife, q_for, q_while, q_pass, q_brk, q_cont, q_seq1, q_seq2, wpEs, wpC, wpI, wpO, wpO', asgR, asgT, asgTs, peekAll, takeAll, slotAll, setAll, defFin, entry, slotA, List.map_cons, List.map_nil, List.length_cons, List.length_nil, List.cons_append, List.nil_append, List.replicate_succ, List.replicate_zero, List.getElem?_cons_zero, List.getElem?_cons_succ, List.set_cons_zero, List.set_cons_succ, IEs.len, ITs.len, flatR, flatD, if_true, if_false, eq_self, true_and, and_true, Bool.false_eq_true, reduceCtorEq, z_bool, z_peek1, z_peek2, z_peek3, z_take1, z_take2, z_take3, z_slot1, z_slot2, z_slot3, z_slot4, z_ret1, z_ret2, z_ret3, z_arg1, z_arg2, z_arg3, z_arg4, z_arg0, z_frz0, z_frz1, z_frz2, z_frz3, z_frz4, z_lt, z_le, z_gt, z_ge, z_eqi, z_nei, z_eqs, z_nes, z_is, z_isnot, z_add, z_adds, z_addl, z_addt, z_sub, z_mul, z_mull, z_mult, z_fdiv, z_mod, z_pow, z_ixt, z_ixl, z_slct, z_slcl, z_revt, z_revl, z_lent, z_lenl, z_inti, z_intb, z_listl, z_listt, z_tupl, z_tupt, z_itl, z_itt, z_rg1]
    by_cases hn : (ds.length : Int) = n
    · rw [if_pos hn] at h
      simp only [hn, decide_true, Bool.not_true, Bool.false_eq_true, if_false, show (("tuple" : String) == "tuple") = true by decide, if_true]
      refine hnx _ ?_
      refine seq_then fun F2 hr2 _ _ hnx2 => ?_
      have hr2 : F2.rt = Qd := hr2
      simp only [q_var, q_cst, q_glob, q_bin, q_neg, q_cmp, q_chain, q_conj, q_notE, q_ite, q_tup, q_lst, q_dic, q_sub, q_slc, q_rev, q_call, q_callk, q_bi, q_rng, q_isinst, q_app, q_pop, q_popAt, q_lc, q_ex, q_asg, q_par, q_ret, q_ife, q_for, q_while, q_pass, q_brk, q_cont, q_seq1, q_seq2, wpEs, wpC, wpI, wpO, wpO', asgR, asgT, asgTs, peekAll, takeAll, slotAll, setAll, defFin, entry, slotA, List.map_cons, List.map_nil, List.length_cons, List.length_nil, List.cons_append, List.nil_append, List.replicate_succ, List.replicate_zero, List.getElem?_cons_zero, List.getElem?_cons_succ, List.set_cons_zero, List.set_cons_succ, IEs.len, ITs.len, flatR, flatD, if_true, if_false, eq_self, true_and, and_true, Bool.false_eq_true, reduceCtorEq, z_bool, z_peek1, z_peek2, z_peek3, z_take1, z_take2, z_take3, z_slot1, z_slot2, z_slot3, z_slot4, z_ret1, z_ret2, z_ret3, z_arg1, z_arg2, z_arg3, z_arg4, z_arg0, z_frz0, z_frz1, z_frz2, z_frz3, z_frz4, z_lt, z_le, z_gt, z_ge, z_eqi, z_nei, z_eqs, z_nes, z_is, z_isnot, z_add, z_adds, z_addl, z_addt, z_sub, z_mul, z_mull, z_mult, z_fdiv, z_mod, z_pow, z_ixt, z_ixl, z_slct, z_slcl, z_revt, z_revl, z_lent, z_lenl, z_inti, z_intb, z_listl, z_listt, z_tupl, z_tupt, z_itl, z_itt, z_rg1]
      refine ⟨by rw [sizeLine_eq]; omega, ?_⟩
      rw [enL_eq]
      generalize hb : bodyF _ _ _ _ = bd
      -- the second loop
      have two : badAt 0 ds = none → ∀ s2 s3, wpS Γ (fun x _ => Ed x) (.for_ (.tup (.cons (.nm 2) (.cons (.nm 3) .nil))) (.enum (.var 1)) (.cons (.ife (.conj true (.cons (.cmp .gt (.var 3) (.cst (.int 0))) (.cons (.cmp .isin (.var 3) (.slc (.var 1) .non (.som (.var 2)))) .nil))) (.cons (.ret (.tup (.cons (.cst (.str "twice")) (.cons (.var 2) .nil)))) .nil) .nil) .nil)) [.im (.int n), .im (.tuple ds), s2, s3]
          { nx := fun ρ => Qd (.im .none), rt := Qd, bk := fun _ => False, ct := fun _ => False } := by
        intro hbad s2 s3
        rw [hbad] at h
        have all := badAt_all hbad
        simp only [q_var, q_cst, q_glob, q_bin, q_neg, q_cmp, q_chain, q_conj, q_notE, q_ite, q_tup, q_lst, q_dic, q_sub, q_slc, q_rev, q_call, q_callk, q_bi, q_rng, q_isinst, q_app, q_pop, q_popAt, q_lc, q_ex, q_asg, q_par, q_ret, q_ife, q_for, q_while, q_pass, q_brk, q_cont, q_seq1, q_seq2, wpEs, wpC, wpI, wpO, wpO', asgR, asgT, asgTs, peekAll, takeAll, slotAll, setAll, defFin, entry, slotA, List.map_cons, List.map_nil, List.length_cons, List.length_nil, List.cons_append, List.nil_append, List.replicate_succ, List.replicate_zero, List.getElem?_cons_zero, List.getElem?_cons_succ, List.set_cons_zero, List.set_cons_succ, IEs.len, ITs.len, flatR, flatD, if_true, if_false, eq_self, true_and, and_true, Bool.false_eq_true, reduceCtorEq, z_bool, z_peek1, z_peek2, z_peek3, z_take1, z_take2, z_take3, z_slot1, z_slot2, z_slot3, z_slot4, z_ret1, z_ret2, z_ret3, z_arg1, z_arg2, z_arg3, z_arg4, z_arg0, z_frz0, z_frz1, z_frz2, z_frz3, z_frz4, z_lt, z_le, z_gt, z_ge, z_eqi, z_nei, z_eqs, z_nes, z_is, z_isnot, z_add, z_adds, z_addl, z_addt, z_sub, z_mul, z_mull, z_mult, z_fdiv, z_mod, z_pow, z_ixt, z_ixl, z_slct, z_slcl, z_revt, z_revl, z_lent, z_lenl, z_inti, z_intb, z_listl, z_listt, z_tupl, z_tupt, z_itl, z_itt, z_rg1]
        refine ⟨by rw [sizeLine_eq]; omega, ?_⟩
        rw [enL_eq]
        generalize hb2 : bodyF _ _ _ _ = bd2
        have step : ∀ (es : List D) (k : Nat) (s2 s3 : Sl), ds.drop k = es → k ≤ ds.length → Qd (.im (twGo k (ds.take k) es)) → forL bd2 (enL k es) [.im (.int n), .im (.tuple ds), s2, s3] { nx := fun ρ => Qd (.im .none), rt := Qd, bk := fun _ => False, ct := fun _ => False } := by
          intro es
          induction es with
          | nil => intro k s2 s3 _ _ hq; exact hq
          | cons d es ih =>
            intro k s2 s3 hd hk hq
            rw [show enL k (d :: es) = .tuple [.int (k : Nat), d] :: enL (k + 1) es from rfl, z_for1, ← hb2, bodyF_at, hb2]
            simp only [q_var, q_cst, q_glob, q_bin, q_neg, q_cmp, q_chain, q_conj, q_notE, q_ite, q_tup, q_lst, q_dic, q_sub, q_slc, q_rev, q_call, q_callk, q_bi, q_rng, q_isinst, q_app, q_pop, q_popAt, q_lc, q_ex, q_asg, q_par, q_ret, q_ife, q_for, q_while, q_pass, q_brk, q_cont, q_seq1, q_seq2, wpEs, wpC, wpI, wpO, wpO', asgR, asgT, asgTs, peekAll, takeAll, slotAll, setAll, defFin, entry, slotA, List.map_cons, List.map_nil, List.length_cons, List.length_nil, List.cons_append, List.nil_append, List.replicate_succ, List.replicate_zero, List.getElem?_cons_zero, List.getElem?_cons_succ, List.set_cons_zero, List.set_cons_succ, IEs.len, ITs.len, flatR, flatD, if_true, if_false, eq_self, true_and, and_true, Bool.false_eq_true, reduceCtorEq, z_bool, z_peek1, z_peek2, z_peek3, z_take1, z_take2, z_take3, z_slot1, z_slot2, z_slot3, z_slot4, z_ret1, z_ret2, z_ret3, z_arg1, z_arg2, z_arg3, z_arg4, z_arg0, z_frz0, z_frz1, z_frz2, z_frz3, z_frz4, z_lt, z_le, z_gt, z_ge, z_eqi, z_nei, z_eqs, z_nes, z_is, z_isnot, z_add, z_adds, z_addl, z_addt, z_sub, z_mul, z_mull, z_mult, z_fdiv, z_mod, z_pow, z_ixt, z_ixl, z_slct, z_slcl, z_revt, z_revl, z_lent, z_lenl, z_inti, z_intb, z_listl, z_listt, z_tupl, z_tupt, z_itl, z_itt, z_rg1]
            have dk : ds[k]? = some d := by rw [← List.head?_drop, hd]; rfl
            have hk' : k < ds.length := (List.getElem?_eq_some_iff.mp dk).1
            have hd' : ds.drop (k + 1) = es := by rw [← List.drop_drop, hd]; rfl
            have htk : ds.take (k + 1) = ds.take k ++ [d] := by rw [List.take_add_one, dk]; rfl
            obtain ⟨i, rfl, i0, i9⟩ := wh_int (all d (List.mem_of_getElem? dk))
            unfold twGo at hq
            simp only [q_var, q_cst, q_glob, q_bin, q_neg, q_cmp, q_chain, q_conj, q_notE, q_ite, q_tup, q_lst, q_dic, q_sub, q_slc, q_rev, q_call, q_callk, q_bi, q_rng, q_isinst, q_app, q_pop, q_popAt, q_lc, q_ex, q_asg, q_par, q_ret, q_ife, q_for, q_while, q_pass, q_brk, q_cont, q_seq1, q_seq2, wpEs, wpC, wpI, wpO, wpO', asgR, asgT, asgTs, peekAll, takeAll, slotAll, setAll, defFin, entry, slotA, List.map_cons, List.map_nil, List.length_cons, List.length_nil, List.cons_append, List.nil_append, List.replicate_succ, List.replicate_zero, List.getElem?_cons_zero, List.getElem?_cons_succ, List.set_cons_zero, List.set_cons_succ, IEs.len, ITs.len, flatR, flatD, if_true, if_false, eq_self, true_and, and_true, Bool.false_eq_true, reduceCtorEq, z_bool, z_peek1, z_peek2, z_peek3, z_take1, z_take2, z_take3, z_slot1, z_slot2, z_slot3, z_slot4, z_ret1, z_ret2, z_ret3, z_arg1, z_arg2, z_arg3, z_arg4, z_arg0, z_frz0, z_frz1, z_frz2, z_frz3, z_frz4, z_lt, z_le, z_gt, z_ge, z_eqi, z_nei, z_eqs, z_nes, z_is, z_isnot, z_add, z_adds, z_addl, z_addt, z_sub, z_mul, z_mull, z_mult, z_fdiv, z_mod, z_pow, z_ixt, z_ixl, z_slct, z_slcl, z_revt, z_revl, z_lent, z_lenl, z_inti, z_intb, z_listl, z_listt, z_tupl, z_tupt, z_itl, z_itt, z_rg1]
            by_cases hi : 0 < i
            · simp only [hi, decide_true, if_true, true_and] at hq ⊢
              rw [cut_take (by omega)]
              refine ⟨⟨rfl, shape_ints fun x hx => ?_⟩, ?_⟩
              · obtain ⟨j, rfl, _⟩ := wh_int (all x (List.mem_of_mem_take hx)); rfl
              · cases e : (ds.take k).any fun z => PyData.eqv z (.int i) with
                | true =>
                  rw [e] at hq
                  simp only [if_true] at hq ⊢
                  exact ⟨by decide, hq⟩
                | false =>
                  rw [e] at hq
                  simp only [Bool.false_eq_true, if_false] at hq ⊢
                  exact ih (k + 1) _ _ hd' hk' (by rw [htk]; exact hq)
            · simp only [hi, decide_false, Bool.false_eq_true, if_false, false_and] at hq ⊢
              exact ih (k + 1) _ _ hd' hk' (by rw [htk]; exact hq)
        exact step ds 0 _ _ rfl (Nat.zero_le _) (by rw [List.take_zero]; exact h)
      have step : ∀ (es : List D) (k : Nat) (s2 s3 : Sl), ds.drop k = es → k ≤ ds.length → badAt 0 ds = badAt k es → forL bd (enL k es) [.im (.int n), .im (.tuple ds), s2, s3] F2 := by
        intro es
        induction es with
        | nil => intro k s2 s3 _ _ hq; exact hnx2 _ (two (by rw [hq]; rfl) s2 s3)
        | cons d es ih =>
          intro k s2 s3 hd hk hq
          rw [show enL k (d :: es) = .tuple [.int (k : Nat), d] :: enL (k + 1) es from rfl, z_for1, ← hb, bodyF_at, hb]
          simp only [q_var, q_cst, q_glob, q_bin, q_neg, q_cmp, q_chain, q_conj, q_notE, q_ite, q_tup, q_lst, q_dic, q_sub, q_slc, q_rev, q_call, q_callk, q_bi, q_rng, q_isinst, q_app, q_pop, q_popAt, q_lc, q_ex, q_asg, q_par, q_ret, q_ife, q_for, q_while, q_pass, q_brk, q_cont, q_seq1, q_seq2, wpEs, wpC, wpI, wpO, wpO', asgR, asgT, asgTs, peekAll, takeAll, slotAll, setAll, defFin, entry, slotA, List.map_cons, List.map_nil, List.length_cons, List.length_nil, List.cons_append, List.nil_append, List.replicate_succ, List.replicate_zero, List.getElem?_cons_zero, List.getElem?_cons_succ, List.set_cons_zero, List.set_cons_succ, IEs.len, ITs.len, flatR, flatD, if_true, if_false, eq_self, true_and, and_true, Bool.false_eq_true, reduceCtorEq, z_bool, z_peek1, z_peek2, z_peek3, z_take1, z_take2, z_take3, z_slot1, z_slot2, z_slot3, z_slot4, z_ret1, z_ret2, z_ret3, z_arg1, z_arg2, z_arg3, z_arg4, z_arg0, z_frz0, z_frz1, z_frz2, z_frz3, z_frz4, z_lt, z_le, z_gt, z_ge, z_eqi, z_nei, z_eqs, z_nes, z_is, z_isnot, z_add, z_adds, z_addl, z_addt, z_sub, z_mul, z_mull, z_mult, z_fdiv, z_mod, z_pow, z_ixt, z_ixl, z_slct, z_slcl, z_revt, z_revl, z_lent, z_lenl, z_inti, z_intb, z_listl, z_listt, z_tupl, z_tupt, z_itl, z_itt, z_rg1, l1]
          refine ⟨rfl, d, 0, 99, rfl, ?_⟩
          simp only [s_is_whole, hr2, q_var, q_cst, q_glob, q_bin, q_neg, q_cmp, q_chain, q_conj, q_notE, q_ite, q_tup, q_lst, q_dic, q_sub, q_slc, q_rev, q_call, q_callk, q_bi, q_rng, q_isinst, q_app, q_pop, q_popAt, q_lc, q_ex, q_asg, q_par, q_ret, q_ife, q_for, q_while, q_pass, q_brk, q_cont, q_seq1, q_seq2, wpEs, wpC, wpI, wpO, wpO', asgR, asgT, asgTs, peekAll, takeAll, slotAll, setAll, defFin, entry, slotA, List.map_cons, List.map_nil, List.length_cons, List.length_nil, List.cons_append, List.nil_append, List.replicate_succ, List.replicate_zero, List.getElem?_cons_zero, List.getElem?_cons_succ, List.set_cons_zero, List.set_cons_succ, IEs.len, ITs.len, flatR, flatD, if_true, if_false, eq_self, true_and, and_true, Bool.false_eq_true, reduceCtorEq, z_bool, z_peek1, z_peek2, z_peek3, z_take1, z_take2, z_take3, z_slot1, z_slot2, z_slot3, z_slot4, z_ret1, z_ret2, z_ret3, z_arg1, z_arg2, z_arg3, z_arg4, z_arg0, z_frz0, z_frz1, z_frz2, z_frz3, z_frz4, z_lt, z_le, z_gt, z_ge, z_eqi, z_nei, z_eqs, z_nes, z_is, z_isnot, z_add, z_adds, z_addl, z_addt, z_sub, z_mul, z_mull, z_mult, z_fdiv, z_mod, z_pow, z_ixt, z_ixl, z_slct, z_slcl, z_revt, z_revl, z_lent, z_lenl, z_inti, z_intb, z_listl, z_listt, z_tupl, z_tupt, z_itl, z_itt, z_rg1]
          have dk : ds[k]? = some d := by rw [← List.head?_drop, hd]; rfl
          have hk' : k < ds.length := (List.getElem?_eq_some_iff.mp dk).1
          have hd' : ds.drop (k + 1) = es := by rw [← List.drop_drop, hd]; rfl
          rw [badAt_cons] at hq
          have bad : wh 0 99 d = false → 0 + 1 + 1 ≤ 1000 ∧ Qd (.im (.tuple [.str "item", .int (k : Nat)])) := fun e => ⟨by decide, by
            rw [e] at hq
            simp only [Bool.false_eq_true, if_false] at hq
            rw [hq] at h; exact h⟩
          cases e : wh 0 99 d with
          | true =>
            rw [e] at hq
            simp only [Bool.not_true, Bool.false_eq_true, if_false, if_true] at hq ⊢
            exact ih (k + 1) _ _ hd' hk' hq
          | false =>
            simp only [Bool.not_false, if_true]
            exact bad e
      exact step ds 0 _ _ rfl (Nat.zero_le _) rfl
    · rw [if_neg hn] at h
      have hn' : ¬ (n = (ds.length : Int)) := fun z => hn z.symm
      simpa [hn, hn'] using h
def zer1 (k : Nat) : D → List D
  | .int i => if decide (i = 0) = true then [.int (k : Nat)] else []
  | _ => []
def zerosAt : Nat → List D → List D
  | _, [] => []
  | k, d :: ds => zer1 k d ++ zerosAt (k + 1) ds
def s_keys_of : DSpec := ⟨false, ["standing"], fun as Qd _ => ∃ ds, as = [.d (.tuple ds)] ∧ (∀ d ∈ ds, isI d = true) ∧ ds.length ≤ 1000 ∧ Qd (.im (.tuple (zerosAt 0 ds)))⟩
theorem z_lc1 {own : List (Str × Nat)} {st : D → En → (Option D → En → Prop) → Prop} {d : D} {ds acc : List D} {ρ : En} {K : List D → En → Prop} : lcL own st (d :: ds) acc ρ K = st d ρ fun o ρ' => match o with
    | some e => lcL own st ds (acc ++ [e]) (wipeE ρ' own) K
    | none => lcL own st ds acc (wipeE ρ' own) K := rfl
theorem w_keys_of {Γ : Ctx} : ∀ as Qd Ed, as.length = 1 → s_keys_of.wp as Qd Ed → wpSs Γ (fun x _ => Ed x) i_keys_of (entry N_keys_of as) (defFin Qd) := by
  rintro as Qd Ed hl ⟨ds, rfl, hi, hz, h⟩; clear hl
  unfold i_keys_of
  simp only [q_var, q_cst, q_glob, q_bin, q_neg, q_cmp, q_chain, q_conj, q_notE, q_ite, q_tup, q_lst, q_dic, q_sub, q_slc, q_rev, q_call, q_callk, q_bi, q_rng, q_isinst, q_app, q_pop, q_popAt, q_lc, q_ex, q_asg, q_par, q_ret, q_ife, q_for, q_while, q_pass, q_brk, q_cont, q_seq1, q_seq2, wpEs, wpC, wpI, wpO, wpO', asgR, asgT, asgTs, peekAll, takeAll, slotAll, setAll, defFin, entry, slotA, List.map_cons, List.map_nil, List.length_cons, List.length_nil, List.cons_append, List.nil_append, List.replicate_succ, List.replicate_zero, List.getElem?_cons_zero, List.getElem?_cons_succ, List.set_cons_zero, List.set_cons_succ, IEs.len, ITs.len, flatR, flatD, if_true, if_false, eq_self, true_and, and_true, Bool.false_eq_true, reduceCtorEq, z_bool, z_peek1, z_peek2, z_peek3, z_take1, z_take2, z_take3, z_slot1, z_slot2, z_slot3, z_slot4, z_ret1, z_ret2, z_ret3, z_arg1, z_arg2, z_arg3, z_arg4, z_arg0, z_frz0, z_frz1, z_frz2, z_frz3, z_frz4, z_lt, z_le, z_gt, z_ge, z_eqi, z_nei, z_eqs, z_nes, z_is, z_isnot, z_add, z_adds, z_addl, z_addt, z_sub, z_mul, z_mull, z_mult, z_fdiv, z_mod, z_pow, z_ixt, z_ixl, z_slct, z_slcl, z_revt, z_revl, z_lent, z_lenl, z_inti, z_intb, z_listl, z_listt, z_tupl, z_tupt, z_itl, z_itt, z_rg1]
  refine ⟨by rw [sizeLine_eq]; omega, ?_⟩
  rw [enL_eq]
  have hlen : (enL 0 ds).length = ds.length := by rw [← enL_eq]; simp
  refine ⟨by rw [hlen, sizeLine_eq]; omega, ?_⟩
  generalize hb : stepF _ _ _ _ = bd
  have step : ∀ (es : List D) (k : Nat) (acc : List D), (∀ d ∈ es, isI d = true) → Qd (.im (.tuple (acc ++ zerosAt k es))) → lcL [("place", 1), ("item", 2)] bd (enL k es) acc [.im (.tuple ds), .no, .no] fun acc ρ' => biD .tuple [.list acc] fun r => retR (backE [.im (.tuple ds), .no, .no] ρ' [("place", 1), ("item", 2)]) r Qd := by
    intro es
    induction es with
    | nil => intro k acc _ hq; rw [show zerosAt k [] = [] from rfl, List.append_nil] at hq; exact hq
    | cons d es ih =>
      intro k acc hi hq
      rw [show enL k (d :: es) = .tuple [.int (k : Nat), d] :: enL (k + 1) es from rfl, z_lc1, ← hb, stepF_at, hb]
      have hd := hi d List.mem_cons_self
      cases d <;> first | exact absurd hd Bool.false_ne_true | skip
      case int i =>
        simp only [q_var, q_cst, q_glob, q_bin, q_neg, q_cmp, q_chain, q_conj, q_notE, q_ite, q_tup, q_lst, q_dic, q_sub, q_slc, q_rev, q_call, q_callk, q_bi, q_rng, q_isinst, q_app, q_pop, q_popAt, q_lc, q_ex, q_asg, q_par, q_ret, q_ife, q_for, q_while, q_pass, q_brk, q_cont, q_seq1, q_seq2, wpEs, wpC, wpI, wpO, wpO', asgR, asgT, asgTs, peekAll, takeAll, slotAll, setAll, defFin, entry, slotA, List.map_cons, List.map_nil, List.length_cons, List.length_nil, List.cons_append, List.nil_append, List.replicate_succ, List.replicate_zero, List.getElem?_cons_zero, List.getElem?_cons_succ, List.set_cons_zero, List.set_cons_succ, IEs.len, ITs.len, flatR, flatD, if_true, if_false, eq_self, true_and, and_true, Bool.false_eq_true, reduceCtorEq, z_bool, z_peek1, z_peek2, z_peek3, z_take1, z_take2, z_take3, z_slot1, z_slot2, z_slot3, z_slot4, z_ret1, z_ret2, z_ret3, z_arg1, z_arg2, z_arg3, z_arg4, z_arg0, z_frz0, z_frz1, z_frz2, z_frz3, z_frz4, z_lt, z_le, z_gt, z_ge, z_eqi, z_nei, z_eqs, z_nes, z_is, z_isnot, z_add, z_adds, z_addl, z_addt, z_sub, z_mul, z_mull, z_mult, z_fdiv, z_mod, z_pow, z_ixt, z_ixl, z_slct, z_slcl, z_revt, z_revl, z_lent, z_lenl, z_inti, z_intb, z_listl, z_listt, z_tupl, z_tupt, z_itl, z_itt, z_rg1]
        have hq2 : Qd (.im (.tuple (acc ++ ((if decide (i = 0) = true then [PyData.int (k : Nat)] else []) ++ zerosAt (k + 1) es)))) := hq
        by_cases h0 : i = 0
        · simp only [h0, decide_true, if_true] at hq2 ⊢
          refine ih (k + 1) (acc ++ [.int (k : Nat)]) (fun x hx => hi x (List.mem_cons_of_mem _ hx)) ?_
          rw [List.append_assoc]; exact hq2
        · simp only [h0, decide_false, Bool.false_eq_true, if_false] at hq2 ⊢
          exact ih (k + 1) acc (fun x hx => hi x (List.mem_cons_of_mem _ hx)) hq2
  have := step ds 0 [] hi (by rw [List.nil_append]; exact h)
  simpa only [wipeE, backE, backS, q_var, q_cst, q_glob, q_bin, q_neg, q_cmp, q_chain, q_conj, q_notE, q_ite, q_tup, q_lst, q_dic, q_sub, q_slc, q_rev, q_call, q_callk, q_bi, q_rng, q_isinst, q_app, q_pop, q_popAt, q_lc, q_ex, q_asg, q_par, q_ret, q_ife, q_for, q_while, q_pass, q_brk, q_cont, q_seq1, q_seq2, wpEs, wpC, wpI, wpO, wpO', asgR, asgT, asgTs, peekAll, takeAll, slotAll, setAll, defFin, entry, slotA, List.map_cons, List.map_nil, List.length_cons, List.length_nil, List.cons_append, List.nil_append, List.replicate_succ, List.replicate_zero, List.getElem?_cons_zero, List.getElem?_cons_succ, List.set_cons_zero, List.set_cons_succ, IEs.len, ITs.len, flatR, flatD, if_true, if_false, eq_self, true_and, and_true, Bool.false_eq_true, reduceCtorEq, z_bool, z_peek1, z_peek2, z_peek3, z_take1, z_take2, z_take3, z_slot1, z_slot2, z_slot3, z_slot4, z_ret1, z_ret2, z_ret3, z_arg1, z_arg2, z_arg3, z_arg4, z_arg0, z_frz0, z_frz1, z_frz2, z_frz3, z_frz4, z_lt, z_le, z_gt, z_ge, z_eqi, z_nei, z_eqs, z_nes, z_is, z_isnot, z_add, z_adds, z_addl, z_addt, z_sub, z_mul, z_mull, z_mult, z_fdiv, z_mod, z_pow, z_ixt, z_ixl, z_slct, z_slcl, z_revt, z_revl, z_lent, z_lenl, z_inti, z_intb, z_listl, z_listt, z_tupl, z_tupt, z_itl, z_itt, z_rg1] using this
def s_pick : DSpec := ⟨false, ["deck", "items"], fun as Qd _ => ∃ ds, as = [.dk, .d (.list ds)] ∧ ds ≠ [] ∧ ds.length ≤ 1000 ∧ ∀ d ∈ ds, Qd (.im d)⟩
theorem atI_in {ds : List D} {r : Int} (h0 : 0 ≤ r) (h1 : r < ds.length ∨ r = 0) (hn : ds ≠ []) : ∃ d ∈ ds, atI ds r = some d := by
  have hp : 0 < ds.length := List.length_pos_iff.mpr hn
  have hr : r.toNat < ds.length := by omega
  refine ⟨ds[r.toNat], List.getElem_mem hr, ?_⟩
  have := atI_nat (xs := ds) (k := r.toNat) (List.getElem?_eq_getElem hr)
  rwa [show ((r.toNat : Nat) : Int) = r by omega] at this
theorem w_pick {Γ : Ctx} (l1 : Γ.fns.lookup ("_law_draw" : Str) = some drawS) : ∀ as Qd Ed, as.length = 2 → s_pick.wp as Qd Ed → wpSs Γ (fun x _ => Ed x) i__law_pick (entry N__law_pick as) (defFin Qd) := by
  rintro as Qd Ed hl ⟨ds, rfl, hn, hz, h⟩; clear hl
  unfold i__law_pick
  simp only [q_var, q_cst, q_glob, q_bin, q_neg, q_cmp, q_chain, q_conj, q_notE, q_ite, q_tup, q_lst, q_dic, q_sub, q_slc, q_rev, q_call, q_callk, q_bi, q_rng, q_isinst, q_app, q_pop, q_popAt, q_lc, q_ex, q_asg, q_par, q_ret, q_ife, q_for, q_while, q_pass, q_brk, q_cont, q_seq1, q_seq2, wpEs, wpC, wpI, wpO, wpO', asgR, asgT, asgTs, peekAll, takeAll, slotAll, setAll, defFin, entry, slotA, List.map_cons, List.map_nil, List.length_cons, List.length_nil, List.cons_append, List.nil_append, List.replicate_succ, List.replicate_zero, List.getElem?_cons_zero, List.getElem?_cons_succ, List.set_cons_zero, List.set_cons_succ, IEs.len, ITs.len, flatR, flatD, if_true, if_false, eq_self, true_and, and_true, Bool.false_eq_true, reduceCtorEq, z_bool, z_peek1, z_peek2, z_peek3, z_take1, z_take2, z_take3, z_slot1, z_slot2, z_slot3, z_slot4, z_ret1, z_ret2, z_ret3, z_arg1, z_arg2, z_arg3, z_arg4, z_arg0, z_frz0, z_frz1, z_frz2, z_frz3, z_frz4, z_lt, z_le, z_gt, z_ge, z_eqi, z_nei, z_eqs, z_nes, z_is, z_isnot, z_add, z_adds, z_addl, z_addt, z_sub, z_mul, z_mull, z_mult, z_fdiv, z_mod, z_pow, z_ixt, z_ixl, z_slct, z_slcl, z_revt, z_revl, z_lent, z_lenl, z_inti, z_intb, z_listl, z_listt, z_tupl, z_tupt, z_itl, z_itt, z_rg1, l1]
  refine ⟨rfl, (ds.length : Nat), rfl, by omega, fun r h0 hr => ?_⟩
  simp only [drawS, q_var, q_cst, q_glob, q_bin, q_neg, q_cmp, q_chain, q_conj, q_notE, q_ite, q_tup, q_lst, q_dic, q_sub, q_slc, q_rev, q_call, q_callk, q_bi, q_rng, q_isinst, q_app, q_pop, q_popAt, q_lc, q_ex, q_asg, q_par, q_ret, q_ife, q_for, q_while, q_pass, q_brk, q_cont, q_seq1, q_seq2, wpEs, wpC, wpI, wpO, wpO', asgR, asgT, asgTs, peekAll, takeAll, slotAll, setAll, defFin, entry, slotA, List.map_cons, List.map_nil, List.length_cons, List.length_nil, List.cons_append, List.nil_append, List.replicate_succ, List.replicate_zero, List.getElem?_cons_zero, List.getElem?_cons_succ, List.set_cons_zero, List.set_cons_succ, IEs.len, ITs.len, flatR, flatD, if_true, if_false, eq_self, true_and, and_true, Bool.false_eq_true, reduceCtorEq, z_bool, z_peek1, z_peek2, z_peek3, z_take1, z_take2, z_take3, z_slot1, z_slot2, z_slot3, z_slot4, z_ret1, z_ret2, z_ret3, z_arg1, z_arg2, z_arg3, z_arg4, z_arg0, z_frz0, z_frz1, z_frz2, z_frz3, z_frz4, z_lt, z_le, z_gt, z_ge, z_eqi, z_nei, z_eqs, z_nes, z_is, z_isnot, z_add, z_adds, z_addl, z_addt, z_sub, z_mul, z_mull, z_mult, z_fdiv, z_mod, z_pow, z_ixt, z_ixl, z_slct, z_slcl, z_revt, z_revl, z_lent, z_lenl, z_inti, z_intb, z_listl, z_listt, z_tupl, z_tupt, z_itl, z_itt, z_rg1]
  obtain ⟨d, hd, e⟩ := atI_in h0 hr hn
  simp only [e]
  exact h d hd
def intsD (ns : List Int) : List D := ns.map PyData.int
theorem intsD_isI {ns : List Int} : ∀ d ∈ intsD ns, isI d = true := fun d hd => by
  obtain ⟨i, _, rfl⟩ := List.mem_map.mp hd; rfl
theorem shapeL {ns : List Int} : SeqAt.shaped (.list (intsD ns)) = true := shape_ints (ds := intsD ns) intsD_isI
theorem any_ints {ns : List Int} {r : Int} : ((intsD ns).any fun z => PyData.eqv z (.int r)) = decide (r ∈ ns) := by
  induction ns with
  | nil => simp [intsD]
  | cons n ns ih =>
    have : (intsD (n :: ns)).any (fun z => PyData.eqv z (.int r)) = (PyData.eqv (.int n) (.int r) || (intsD ns).any fun z => PyData.eqv z (.int r)) := rfl
    rw [this, ih]
    have e : PyData.eqv (.int n) (.int r) = decide (n = r) := by
      show (n == r) = decide (n = r)
      rw [Bool.eq_iff_iff]; simp
    rw [e]
    by_cases h : n = r
    · simp [h]
    · have h' : r ≠ n := fun z => h z.symm
      by_cases h2 : r ∈ ns <;> simp [h, h', h2]
def vv (r0 : Int) (j : Nat) : Int := (r0 - 1 + (j : Int)) % 99 + 1
def s_standing : DSpec := ⟨false, ["deck", "many"], fun as Qd _ => ∃ m : Int, as = [.dk, .d (.int m)] ∧ 0 ≤ m ∧ m ≤ 90 ∧ ∀ ns : List Int, (ns.length : Int) = m → (∀ n ∈ ns, 0 ≤ n ∧ n ≤ 99) → Qd (.im (.tuple (intsD ns)))⟩
theorem z_while1 {cd : En → (Bool → En → Prop) → Prop} {bd : En → Fin' → Prop} {n : Nat} {ρ : En} {F : Fin'} : whileN cd bd (n + 1) ρ F = cd ρ fun k ρ1 => if k = true then bd ρ1 { nx := fun ρ' => whileN cd bd n ρ' F, rt := F.rt, bk := F.nx, ct := fun ρ' => whileN cd bd n ρ' F } else F.nx ρ1 := rfl
theorem z_app {Γ : Ctx} {Ed : Ex → En → Prop} {ρ : En} {i : Nat} {e : IE} {Q : R → En → Prop} {ds : List D} (h : ρ[i]? = some (.ow (.list ds))) (w : wpE Γ Ed e ρ fun r ρ1 => takeR ρ1 r fun d ρ2 => (match ρ2[i]? with
    | some (.ow (.list ds)) => ds.length < sizeLine ∧ Q (.im .none) (ρ2.set i (.ow (.list (ds ++ [d]))))
    | _ => False)) : wpE Γ Ed (.app i e) ρ Q := ⟨⟨ds, h⟩, w⟩
theorem w_standing {Γ : Ctx} (l1 : Γ.fns.lookup ("_law_draw" : Str) = some drawS) (l2 : Γ.fns.lookup ("_law_pick" : Str) = some s_pick) : ∀ as Qd Ed, as.length = 2 → s_standing.wp as Qd Ed → wpSs Γ (fun x _ => Ed x) i__law_standing (entry N__law_standing as) (defFin Qd) := by
  rintro as Qd Ed hl ⟨m, rfl, hm0, hm, h⟩; clear hl
  unfold i__law_standing
  refine seq_then fun F1 hr1 _ _ hnx1 => ?_
  simp only [q_var, q_cst, q_glob, q_bin, q_neg, q_cmp, q_chain, q_conj, q_notE, q_ite, q_tup, q_lst, q_dic, q_sub, q_slc, q_rev, q_call, q_callk, q_bi, q_rng, q_isinst, q_app, q_pop, q_popAt, q_lc, q_ex, q_asg, q_par, q_ret, q_ife, q_for, q_while, q_pass, q_brk, q_cont, q_seq1, q_seq2, wpEs, wpC, wpI, wpO, wpO', asgR, asgT, asgTs, peekAll, takeAll, slotAll, setAll, defFin, entry, slotA, List.map_cons, List.map_nil, List.length_cons, List.length_nil, List.cons_append, List.nil_append, List.replicate_succ, List.replicate_zero, List.getElem?_cons_zero, List.getElem?_cons_succ, List.set_cons_zero, List.set_cons_succ, IEs.len, ITs.len, flatR, flatD, if_true, if_false, eq_self, true_and, and_true, Bool.false_eq_true, reduceCtorEq, z_bool, z_peek1, z_peek2, z_peek3, z_take1, z_take2, z_take3, z_slot1, z_slot2, z_slot3, z_slot4, z_ret1, z_ret2, z_ret3, z_arg1, z_arg2, z_arg3, z_arg4, z_arg0, z_frz0, z_frz1, z_frz2, z_frz3, z_frz4, z_lt, z_le, z_gt, z_ge, z_eqi, z_nei, z_eqs, z_nes, z_is, z_isnot, z_add, z_adds, z_addl, z_addt, z_sub, z_mul, z_mull, z_mult, z_fdiv, z_mod, z_pow, z_ixt, z_ixl, z_slct, z_slcl, z_revt, z_revl, z_lent, z_lenl, z_inti, z_intb, z_listl, z_listt, z_tupl, z_tupt, z_itl, z_itt, z_rg1, l2]
  refine ⟨by decide, rfl, _, rfl, by simp, by decide, fun d hd => ?_⟩
  simp only [s_pick, q_var, q_cst, q_glob, q_bin, q_neg, q_cmp, q_chain, q_conj, q_notE, q_ite, q_tup, q_lst, q_dic, q_sub, q_slc, q_rev, q_call, q_callk, q_bi, q_rng, q_isinst, q_app, q_pop, q_popAt, q_lc, q_ex, q_asg, q_par, q_ret, q_ife, q_for, q_while, q_pass, q_brk, q_cont, q_seq1, q_seq2, wpEs, wpC, wpI, wpO, wpO', asgR, asgT, asgTs, peekAll, takeAll, slotAll, setAll, defFin, entry, slotA, List.map_cons, List.map_nil, List.length_cons, List.length_nil, List.cons_append, List.nil_append, List.replicate_succ, List.replicate_zero, List.getElem?_cons_zero, List.getElem?_cons_succ, List.set_cons_zero, List.set_cons_succ, IEs.len, ITs.len, flatR, flatD, if_true, if_false, eq_self, true_and, and_true, Bool.false_eq_true, reduceCtorEq, z_bool, z_peek1, z_peek2, z_peek3, z_take1, z_take2, z_take3, z_slot1, z_slot2, z_slot3, z_slot4, z_ret1, z_ret2, z_ret3, z_arg1, z_arg2, z_arg3, z_arg4, z_arg0, z_frz0, z_frz1, z_frz2, z_frz3, z_frz4, z_lt, z_le, z_gt, z_ge, z_eqi, z_nei, z_eqs, z_nes, z_is, z_isnot, z_add, z_adds, z_addl, z_addt, z_sub, z_mul, z_mull, z_mult, z_fdiv, z_mod, z_pow, z_ixt, z_ixl, z_slct, z_slcl, z_revt, z_revl, z_lent, z_lenl, z_inti, z_intb, z_listl, z_listt, z_tupl, z_tupt, z_itl, z_itt, z_rg1]
  obtain ⟨s, rfl⟩ : ∃ s : Int, d = .int s := by
    simp only [List.mem_cons, List.not_mem_nil, or_false] at hd
    rcases hd with z | z | z | z | z | z <;> exact ⟨_, z⟩
  refine ⟨by decide, hnx1 _ ?_⟩
  refine seq_then fun F2 hr2 _ _ hnx2 => ?_
  simp only [q_var, q_cst, q_glob, q_bin, q_neg, q_cmp, q_chain, q_conj, q_notE, q_ite, q_tup, q_lst, q_dic, q_sub, q_slc, q_rev, q_call, q_callk, q_bi, q_rng, q_isinst, q_app, q_pop, q_popAt, q_lc, q_ex, q_asg, q_par, q_ret, q_ife, q_for, q_while, q_pass, q_brk, q_cont, q_seq1, q_seq2, wpEs, wpC, wpI, wpO, wpO', asgR, asgT, asgTs, peekAll, takeAll, slotAll, setAll, defFin, entry, slotA, List.map_cons, List.map_nil, List.length_cons, List.length_nil, List.cons_append, List.nil_append, List.replicate_succ, List.replicate_zero, List.getElem?_cons_zero, List.getElem?_cons_succ, List.set_cons_zero, List.set_cons_succ, IEs.len, ITs.len, flatR, flatD, if_true, if_false, eq_self, true_and, and_true, Bool.false_eq_true, reduceCtorEq, z_bool, z_peek1, z_peek2, z_peek3, z_take1, z_take2, z_take3, z_slot1, z_slot2, z_slot3, z_slot4, z_ret1, z_ret2, z_ret3, z_arg1, z_arg2, z_arg3, z_arg4, z_arg0, z_frz0, z_frz1, z_frz2, z_frz3, z_frz4, z_lt, z_le, z_gt, z_ge, z_eqi, z_nei, z_eqs, z_nes, z_is, z_isnot, z_add, z_adds, z_addl, z_addt, z_sub, z_mul, z_mull, z_mult, z_fdiv, z_mod, z_pow, z_ixt, z_ixl, z_slct, z_slcl, z_revt, z_revl, z_lent, z_lenl, z_inti, z_intb, z_listl, z_listt, z_tupl, z_tupt, z_itl, z_itt, z_rg1]
  refine ⟨⟨by omega, by omega⟩, ?_⟩
  generalize hb : bodyF _ _ _ _ = bd
  have step : ∀ (es : List D) (ns : List Int) (s2 s5 : Sl), ns.length + es.length = m.toNat → (∀ n ∈ ns, 0 ≤ n ∧ n ≤ 99) → forL bd es [.dk, .im (.int m), s2, .im (.int s), .ow (.list (intsD ns)), s5] F2 := by
    intro es
    induction es with
    | nil =>
      intro ns s2 s5 hl hn
      refine hnx2 _ ?_
      simp only [q_var, q_cst, q_glob, q_bin, q_neg, q_cmp, q_chain, q_conj, q_notE, q_ite, q_tup, q_lst, q_dic, q_sub, q_slc, q_rev, q_call, q_callk, q_bi, q_rng, q_isinst, q_app, q_pop, q_popAt, q_lc, q_ex, q_asg, q_par, q_ret, q_ife, q_for, q_while, q_pass, q_brk, q_cont, q_seq1, q_seq2, wpEs, wpC, wpI, wpO, wpO', asgR, asgT, asgTs, peekAll, takeAll, slotAll, setAll, defFin, entry, slotA, List.map_cons, List.map_nil, List.length_cons, List.length_nil, List.cons_append, List.nil_append, List.replicate_succ, List.replicate_zero, List.getElem?_cons_zero, List.getElem?_cons_succ, List.set_cons_zero, List.set_cons_succ, IEs.len, ITs.len, flatR, flatD, if_true, if_false, eq_self, true_and, and_true, Bool.false_eq_true, reduceCtorEq, z_bool, z_peek1, z_peek2, z_peek3, z_take1, z_take2, z_take3, z_slot1, z_slot2, z_slot3, z_slot4, z_ret1, z_ret2, z_ret3, z_arg1, z_arg2, z_arg3, z_arg4, z_arg0, z_frz0, z_frz1, z_frz2, z_frz3, z_frz4, z_lt, z_le, z_gt, z_ge, z_eqi, z_nei, z_eqs, z_nes, z_is, z_isnot, z_add, z_adds, z_addl, z_addt, z_sub, z_mul, z_mull, z_mult, z_fdiv, z_mod, z_pow, z_ixt, z_ixl, z_slct, z_slcl, z_revt, z_revl, z_lent, z_lenl, z_inti, z_intb, z_listl, z_listt, z_tupl, z_tupt, z_itl, z_itt, z_rg1]
      exact h ns (by simp only [List.length_nil] at hl; omega) hn
    | cons d es ih =>
      intro ns s2 s5 hl hn
      simp only [List.length_cons] at hl
      rw [z_for1, ← hb, bodyF_at, hb]
      simp only [q_var, q_cst, q_glob, q_bin, q_neg, q_cmp, q_chain, q_conj, q_notE, q_ite, q_tup, q_lst, q_dic, q_sub, q_slc, q_rev, q_call, q_callk, q_bi, q_rng, q_isinst, q_app, q_pop, q_popAt, q_lc, q_ex, q_asg, q_par, q_ret, q_ife, q_for, q_while, q_pass, q_brk, q_cont, q_seq1, q_seq2, wpEs, wpC, wpI, wpO, wpO', asgR, asgT, asgTs, peekAll, takeAll, slotAll, setAll, defFin, entry, slotA, List.map_cons, List.map_nil, List.length_cons, List.length_nil, List.cons_append, List.nil_append, List.replicate_succ, List.replicate_zero, List.getElem?_cons_zero, List.getElem?_cons_succ, List.set_cons_zero, List.set_cons_succ, IEs.len, ITs.len, flatR, flatD, if_true, if_false, eq_self, true_and, and_true, Bool.false_eq_true, reduceCtorEq, z_bool, z_peek1, z_peek2, z_peek3, z_take1, z_take2, z_take3, z_slot1, z_slot2, z_slot3, z_slot4, z_ret1, z_ret2, z_ret3, z_arg1, z_arg2, z_arg3, z_arg4, z_arg0, z_frz0, z_frz1, z_frz2, z_frz3, z_frz4, z_lt, z_le, z_gt, z_ge, z_eqi, z_nei, z_eqs, z_nes, z_is, z_isnot, z_add, z_adds, z_addl, z_addt, z_sub, z_mul, z_mull, z_mult, z_fdiv, z_mod, z_pow, z_ixt, z_ixl, z_slct, z_slcl, z_revt, z_revl, z_lent, z_lenl, z_inti, z_intb, z_listl, z_listt, z_tupl, z_tupt, z_itl, z_itt, z_rg1, l1]
      refine ⟨rfl, 5, rfl, by decide, fun r h0 hr => ?_⟩
      simp only [drawS, q_var, q_cst, q_glob, q_bin, q_neg, q_cmp, q_chain, q_conj, q_notE, q_ite, q_tup, q_lst, q_dic, q_sub, q_slc, q_rev, q_call, q_callk, q_bi, q_rng, q_isinst, q_app, q_pop, q_popAt, q_lc, q_ex, q_asg, q_par, q_ret, q_ife, q_for, q_while, q_pass, q_brk, q_cont, q_seq1, q_seq2, wpEs, wpC, wpI, wpO, wpO', asgR, asgT, asgTs, peekAll, takeAll, slotAll, setAll, defFin, entry, slotA, List.map_cons, List.map_nil, List.length_cons, List.length_nil, List.cons_append, List.nil_append, List.replicate_succ, List.replicate_zero, List.getElem?_cons_zero, List.getElem?_cons_succ, List.set_cons_zero, List.set_cons_succ, IEs.len, ITs.len, flatR, flatD, if_true, if_false, eq_self, true_and, and_true, Bool.false_eq_true, reduceCtorEq, z_bool, z_peek1, z_peek2, z_peek3, z_take1, z_take2, z_take3, z_slot1, z_slot2, z_slot3, z_slot4, z_ret1, z_ret2, z_ret3, z_arg1, z_arg2, z_arg3, z_arg4, z_arg0, z_frz0, z_frz1, z_frz2, z_frz3, z_frz4, z_lt, z_le, z_gt, z_ge, z_eqi, z_nei, z_eqs, z_nes, z_is, z_isnot, z_add, z_adds, z_addl, z_addt, z_sub, z_mul, z_mull, z_mult, z_fdiv, z_mod, z_pow, z_ixt, z_ixl, z_slct, z_slcl, z_revt, z_revl, z_lent, z_lenl, z_inti, z_intb, z_listl, z_listt, z_tupl, z_tupt, z_itl, z_itt, z_rg1]
      have szl : (intsD ns).length < sizeLine := by
        have : (intsD ns).length = ns.length := List.length_map _
        rw [this, sizeLine_eq]; omega
      have app : ∀ (k : Int), intsD ns ++ [.int k] = intsD (ns ++ [k]) := fun k => by unfold intsD; rw [List.map_append]; rfl
      cases e : decide (r < s) with
      | true =>
        simp only [if_true]
        refine ⟨⟨_, rfl⟩, szl, ?_⟩
        rw [app]
        exact ih (ns ++ [0]) _ _ (by rw [List.length_append, List.length_singleton]; omega) fun n hh => by
          rcases List.mem_append.mp hh with z | z
          · exact hn n z
          · rw [List.mem_singleton.mp z]; exact ⟨by decide, by decide⟩
      | false =>
        simp only [Bool.false_eq_true, if_false]
        refine ⟨99, rfl, by decide, fun r1 h01 hr1 => ?_⟩
        generalize hc : condF _ _ _ = cd
        generalize hw : loopF _ _ _ = bw
        refine ⟨ns.length + 1, ?_⟩
        generalize hF : Fin'.mk _ _ _ _ = F3
        have exit : ∀ r : Int, 1 ≤ r → r ≤ 99 → F3.nx [.dk, .im (.int m), .im d, .im (.int s), .ow (.list (intsD ns)), .im (.int r)] := fun r a b => by
          rw [← hF]
          refine ⟨⟨_, rfl⟩, szl, ?_⟩
          rw [app]
          exact ih (ns ++ [r]) _ _ (by rw [List.length_append, List.length_singleton]; omega) fun n hh => by
            rcases List.mem_append.mp hh with z | z
            · exact hn n z
            · rw [List.mem_singleton.mp z]; exact ⟨by omega, b⟩
        have r01 : 1 ≤ 1 + r1 ∧ 1 + r1 ≤ 99 := by omega
        generalize 1 + r1 = r0 at r01 ⊢
        have W : ∀ (fuel j : Nat) (A : List Int), A.length ≤ fuel → (∀ x ∈ ns, x ∈ A ∨ ∃ i, i < j ∧ x = vv r0 i) → j + fuel < 99 → whileN cd bw (fuel + 1) [.dk, .im (.int m), .im d, .im (.int s), .ow (.list (intsD ns)), .im (.int (vv r0 j))] F3 := by
          intro fuel
          induction fuel with
          | zero =>
            intro j A hA hx hj
            rw [z_while1, ← hc, condF_at, hc]
            simp only [q_var, q_cst, q_glob, q_bin, q_neg, q_cmp, q_chain, q_conj, q_notE, q_ite, q_tup, q_lst, q_dic, q_sub, q_slc, q_rev, q_call, q_callk, q_bi, q_rng, q_isinst, q_app, q_pop, q_popAt, q_lc, q_ex, q_asg, q_par, q_ret, q_ife, q_for, q_while, q_pass, q_brk, q_cont, q_seq1, q_seq2, wpEs, wpC, wpI, wpO, wpO', asgR, asgT, asgTs, peekAll, takeAll, slotAll, setAll, defFin, entry, slotA, List.map_cons, List.map_nil, List.length_cons, List.length_nil, List.cons_append, List.nil_append, List.replicate_succ, List.replicate_zero, List.getElem?_cons_zero, List.getElem?_cons_succ, List.set_cons_zero, List.set_cons_succ, IEs.len, ITs.len, flatR, flatD, if_true, if_false, eq_self, true_and, and_true, Bool.false_eq_true, reduceCtorEq, z_bool, z_peek1, z_peek2, z_peek3, z_take1, z_take2, z_take3, z_slot1, z_slot2, z_slot3, z_slot4, z_ret1, z_ret2, z_ret3, z_arg1, z_arg2, z_arg3, z_arg4, z_arg0, z_frz0, z_frz1, z_frz2, z_frz3, z_frz4, z_lt, z_le, z_gt, z_ge, z_eqi, z_nei, z_eqs, z_nes, z_is, z_isnot, z_add, z_adds, z_addl, z_addt, z_sub, z_mul, z_mull, z_mult, z_fdiv, z_mod, z_pow, z_ixt, z_ixl, z_slct, z_slcl, z_revt, z_revl, z_lent, z_lenl, z_inti, z_intb, z_listl, z_listt, z_tupl, z_tupt, z_itl, z_itt, z_rg1]
            refine ⟨⟨rfl, shapeL⟩, ?_⟩
            rw [any_ints]
            dsimp only
            have no : vv r0 j ∉ ns := fun z => by
              rcases hx _ z with y | ⟨i, hi, y⟩
              · rw [List.eq_nil_of_length_eq_zero (Nat.le_zero.mp hA)] at y; cases y
              · unfold vv at y; omega
            rw [if_neg (by rw [decide_eq_false no]; decide)]
            exact exit _ (by unfold vv; omega) (by unfold vv; omega)
          | succ fuel ihf =>
            intro j A hA hx hj
            rw [z_while1, ← hc, condF_at, hc]
            simp only [q_var, q_cst, q_glob, q_bin, q_neg, q_cmp, q_chain, q_conj, q_notE, q_ite, q_tup, q_lst, q_dic, q_sub, q_slc, q_rev, q_call, q_callk, q_bi, q_rng, q_isinst, q_app, q_pop, q_popAt, q_lc, q_ex, q_asg, q_par, q_ret, q_ife, q_for, q_while, q_pass, q_brk, q_cont, q_seq1, q_seq2, wpEs, wpC, wpI, wpO, wpO', asgR, asgT, asgTs, peekAll, takeAll, slotAll, setAll, defFin, entry, slotA, List.map_cons, List.map_nil, List.length_cons, List.length_nil, List.cons_append, List.nil_append, List.replicate_succ, List.replicate_zero, List.getElem?_cons_zero, List.getElem?_cons_succ, List.set_cons_zero, List.set_cons_succ, IEs.len, ITs.len, flatR, flatD, if_true, if_false, eq_self, true_and, and_true, Bool.false_eq_true, reduceCtorEq, z_bool, z_peek1, z_peek2, z_peek3, z_take1, z_take2, z_take3, z_slot1, z_slot2, z_slot3, z_slot4, z_ret1, z_ret2, z_ret3, z_arg1, z_arg2, z_arg3, z_arg4, z_arg0, z_frz0, z_frz1, z_frz2, z_frz3, z_frz4, z_lt, z_le, z_gt, z_ge, z_eqi, z_nei, z_eqs, z_nes, z_is, z_isnot, z_add, z_adds, z_addl, z_addt, z_sub, z_mul, z_mull, z_mult, z_fdiv, z_mod, z_pow, z_ixt, z_ixl, z_slct, z_slcl, z_revt, z_revl, z_lent, z_lenl, z_inti, z_intb, z_listl, z_listt, z_tupl, z_tupt, z_itl, z_itt, z_rg1]
            refine ⟨⟨rfl, shapeL⟩, ?_⟩
            rw [any_ints]
            dsimp only
            by_cases hin : vv r0 j ∈ ns
            · rw [if_pos (decide_eq_true hin), ← hw, loopF_at, hw]
              simp only [q_var, q_cst, q_glob, q_bin, q_neg, q_cmp, q_chain, q_conj, q_notE, q_ite, q_tup, q_lst, q_dic, q_sub, q_slc, q_rev, q_call, q_callk, q_bi, q_rng, q_isinst, q_app, q_pop, q_popAt, q_lc, q_ex, q_asg, q_par, q_ret, q_ife, q_for, q_while, q_pass, q_brk, q_cont, q_seq1, q_seq2, wpEs, wpC, wpI, wpO, wpO', asgR, asgT, asgTs, peekAll, takeAll, slotAll, setAll, defFin, entry, slotA, List.map_cons, List.map_nil, List.length_cons, List.length_nil, List.cons_append, List.nil_append, List.replicate_succ, List.replicate_zero, List.getElem?_cons_zero, List.getElem?_cons_succ, List.set_cons_zero, List.set_cons_succ, IEs.len, ITs.len, flatR, flatD, if_true, if_false, eq_self, true_and, and_true, Bool.false_eq_true, reduceCtorEq, z_bool, z_peek1, z_peek2, z_peek3, z_take1, z_take2, z_take3, z_slot1, z_slot2, z_slot3, z_slot4, z_ret1, z_ret2, z_ret3, z_arg1, z_arg2, z_arg3, z_arg4, z_arg0, z_frz0, z_frz1, z_frz2, z_frz3, z_frz4, z_lt, z_le, z_gt, z_ge, z_eqi, z_nei, z_eqs, z_nes, z_is, z_isnot, z_add, z_adds, z_addl, z_addt, z_sub, z_mul, z_mull, z_mult, z_fdiv, z_mod, z_pow, z_ixt, z_ixl, z_slct, z_slcl, z_revt, z_revl, z_lent, z_lenl, z_inti, z_intb, z_listl, z_listt, z_tupl, z_tupt, z_itl, z_itt, z_rg1]
              refine ⟨by decide, ?_⟩
              have ev : vv r0 j % 99 + 1 = vv r0 (j + 1) := by unfold vv; omega
              rw [ev]
              have inA : vv r0 j ∈ A := by
                rcases hx _ hin with y | ⟨i, hi, y⟩
                · exact y
                · unfold vv at y; omega
              refine ihf (j + 1) (A.erase (vv r0 j)) (by rw [List.length_erase_of_mem inA]; omega) (fun x hxx => ?_) (by omega)
              rcases hx x hxx with y | ⟨i, hi, y⟩
              · by_cases z : x = vv r0 j
                · exact .inr ⟨j, Nat.lt_succ_self _, z⟩
                · exact .inl ((List.mem_erase_of_ne z).mpr y)
              · exact .inr ⟨i, Nat.lt_succ_of_lt hi, y⟩
            · rw [if_neg (by rw [decide_eq_false hin]; decide)]
              exact exit _ (by unfold vv; omega) (by unfold vv; omega)
        have v0 : vv r0 0 = r0 := by unfold vv; omega
        have := W ns.length 0 ns (Nat.le_refl _) (fun x hx => .inl hx) (by omega)
        rw [v0] at this
        exact this
  refine step _ [] _ _ ?_ (fun n z => by cases z)
  unfold rngL
  simp only [List.length_map, List.length_range, List.length_nil]
  omega
abbrev okI (d : D) : Prop := OK 3 60 d
def okV (d : D) : Prop := OK 4 4000 d ∧ szD d
theorem okV_tup {ds : List D} (h : ds.length ≤ 60) (k : ∀ d ∈ ds, okI d) : okV (.tuple ds) := by
  refine ⟨(OK.tuple k).mono (Nat.le_refl _) ?_, by show ds.length ≤ 1000; omega⟩
  have : ds.length * (60 + 2) ≤ 60 * 62 := Nat.mul_le_mul h (Nat.le_refl _)
  omega
theorem okV_lst {ds : List D} (h : ds.length ≤ 60) (k : ∀ d ∈ ds, okI d) : okV (.list ds) := by
  refine ⟨(OK.list k).mono (Nat.le_refl _) ?_, trivial⟩
  have : ds.length * (60 + 2) ≤ 60 * 62 := Nat.mul_le_mul h (Nat.le_refl _)
  omega
theorem ok_int {i : Int} (h0 : -9 ≤ i) (h1 : i < 1000) : okI (.int i) := (OK.int h0 h1).mono (by decide) (by decide)
theorem ok_ints {ns : List Int} (h : ∀ n ∈ ns, -9 ≤ n ∧ n < 1000) : ∀ d ∈ intsD ns, okI d := fun d hd => by
  obtain ⟨i, hi, rfl⟩ := List.mem_map.mp hd
  exact ok_int (h i hi).1 (h i hi).2
theorem okV_of {d : D} (h : OK 4 4000 d) (k : ∀ ds, d ≠ .tuple ds) : okV d := ⟨h, by
  cases d <;> first | trivial | skip
  case tuple ds => exact absurd rfl (k ds)⟩
theorem ok_v {d : D} (h : okI d) (k : ∀ ds, d ≠ .tuple ds) : okV d := okV_of (h.mono (by decide) (by decide)) k
theorem ok_str (x : Str) (h : (reprText x).length ≤ 60) : okI (.str x) := ⟨rfl, Nat.zero_le _, h⟩
theorem ok_dic : okI (.dict []) := ⟨by decide +kernel, by decide +kernel, by decide +kernel⟩
theorem ok_tup0 : okI (.tuple []) := ⟨by decide +kernel, by decide +kernel, by decide +kernel⟩
theorem ok_big : okI (.int (10 ^ Int.toNat 30)) := ⟨by decide +kernel, by decide +kernel, by decide +kernel⟩
theorem ok_non : okI .none := ⟨by decide +kernel, by decide +kernel, by decide +kernel⟩
theorem ok_true : okI (.bool true) := ⟨by decide +kernel, by decide +kernel, by decide +kernel⟩
theorem ok_false : okI (.bool false) := ⟨by decide +kernel, by decide +kernel, by decide +kernel⟩
theorem rngL_mem {b : Int} {d : D} (h : d ∈ rngL 0 b) : ∃ i : Int, d = .int i ∧ 0 ≤ i ∧ i < b := by
  unfold rngL at h
  obtain ⟨i, hi, rfl⟩ := List.mem_map.mp h
  have := List.mem_range.mp hi
  exact ⟨_, rfl, by omega, by omega⟩
theorem rngL_len {b : Int} : (rngL 0 b).length = b.toNat := by
  unfold rngL
  rw [List.length_map, List.length_range, Int.sub_zero]
theorem rep_mem {n : Nat} {x d : D} (h : d ∈ (List.replicate n [x]).flatten) : d = x := by
  obtain ⟨l, hl, hd⟩ := List.mem_flatten.mp h
  rw [List.eq_of_mem_replicate hl] at hd
  exact List.mem_singleton.mp hd
theorem rep_len {n : Nat} {x : D} : (List.replicate n [x]).flatten.length = n := by simp
theorem cut_mem {ds : List D} {lo hi : Option Int} {x : D} (h : x ∈ cutD ds lo hi) : x ∈ ds := List.mem_of_mem_drop (List.mem_of_mem_take h)
theorem cut_len {ds : List D} {lo hi : Option Int} : (cutD ds lo hi).length ≤ ds.length := by
  unfold cutD
  rw [List.length_take, List.length_drop]; omega
theorem set_mem {ds : List D} {i : Nat} {x y : D} (h : y ∈ ds.set i x) : y = x ∨ y ∈ ds := (List.mem_or_eq_of_mem_set h).symm
theorem lc_inv {own : List (Str × Nat)} {st : D → En → (Option D → En → Prop) → Prop} {ρ0 : En} {K : List D → En → Prop} (Good : D → Prop) : ∀ (es acc : List D), (∀ d ∈ es, ∀ Kk : Option D → En → Prop, (∀ o ρ', wipeE ρ' own = ρ0 → (∀ e, o = some e → Good e) → Kk o ρ') → st d ρ0 Kk) → (∀ d ∈ acc, Good d) →
    (∀ acc', (∀ d ∈ acc', Good d) → acc'.length ≤ acc.length + es.length → K acc' ρ0) → lcL own st es acc ρ0 K
  | [], acc, _, ha, hk => hk acc ha (Nat.le_add_right _ _)
  | d :: es, acc, h, ha, hk => by
    rw [z_lc1]
    refine h d List.mem_cons_self _ fun o ρ' hw hg => ?_
    cases o with
    | none =>
      show lcL own st es acc (wipeE ρ' own) K
      rw [hw]
      exact lc_inv Good es acc (fun x hx => h x (List.mem_cons_of_mem _ hx)) ha fun acc' a b => hk acc' a (by rw [List.length_cons]; omega)
    | some e =>
      show lcL own st es (acc ++ [e]) (wipeE ρ' own) K
      rw [hw]
      refine lc_inv Good es (acc ++ [e]) (fun x hx => h x (List.mem_cons_of_mem _ hx)) (fun x hx => ?_) fun acc' a b => hk acc' a (by rw [List.length_append, List.length_singleton] at b; rw [List.length_cons]; omega)
      rcases List.mem_append.mp hx with z | z
      · exact ha x z
      · rw [List.mem_singleton.mp z]; exact hg e rfl
theorem isI_int {d : D} (h : isI d = true) : ∃ i, d = .int i := by
  cases d <;> first | exact absurd h Bool.false_ne_true | exact ⟨_, rfl⟩
theorem ok_sm {d : D} (h : OK 3 60 d) : okI d := h
theorem ok_l1 {i : Int} (h0 : -9 ≤ i) (h1 : i < 1000) : okI (.list [.int i]) := by
  refine (OK.list (n := 0) (b := 4) (fun d hd => ?_)).mono (by decide) (by show 1 * (4 + 2) + 4 ≤ 60; decide)
  rw [List.mem_singleton.mp hd]; exact OK.int h0 h1
theorem ok_t1 {i : Int} (h0 : -9 ≤ i) (h1 : i < 1000) : okI (.tuple [.int i]) := by
  refine (OK.tuple (n := 0) (b := 4) (fun d hd => ?_)).mono (by decide) (by show 1 * (4 + 2) + 4 ≤ 60; decide)
  rw [List.mem_singleton.mp hd]; exact OK.int h0 h1
theorem ok_tl : okI (.tuple [.list []]) := ⟨by decide +kernel, by decide +kernel, by decide +kernel⟩
theorem atI_last {ds : List D} (h : 0 < ds.length) : ∃ d ∈ ds, atI ds (-1) = some d := by
  refine ⟨ds[ds.length - 1], List.getElem_mem _, ?_⟩
  unfold atI ixN
  rw [if_neg (by decide), if_pos (by omega)]
  show ds[((-1 : Int) + ds.length).toNat]? = _
  rw [show ((-1 : Int) + ds.length).toNat = ds.length - 1 by omega]
  exact List.getElem?_eq_getElem _
theorem es_step {Γ : Ctx} {Ed : Ex → En → Prop} {e : IE} {es : IEs} {ρ ρ1 : En} {Q : List R → En → Prop} (Pr : R → Prop) (h : ∀ Q' : R → En → Prop, (∀ r, Pr r → Q' r ρ1) → wpE Γ Ed e ρ Q') (k : ∀ r, Pr r → wpEs Γ Ed es ρ1 fun rs ρ2 => Q (r :: rs) ρ2) : wpEs Γ Ed (.cons e es) ρ Q := h _ k
/-- a frozen or a new datum that is well-behaved -/
def gR (r : R) : Prop := ∃ v, okV v ∧ (r = .im v ∨ r = .fr v)
theorem gR_take {r : R} {ρ : En} {K : D → En → Prop} (h : gR r) (k : ∀ v, okV v → K v ρ) : takeR ρ r K := by
  obtain ⟨v, hv, e | e⟩ := h
  · rw [e]; exact k v hv
  · rw [e]; exact k v hv
theorem ite_ok {c : Prop} [Decidable c] {a b : D} {n m : Nat} (ha : OK n m a) (hb : OK n m b) : OK n m (if c then a else b) := by split <;> assumption
theorem pk_lot {α : Type} (a b : α) : pickK s_lot_error.ps ["value", "n"] [a, b] = [b, a] := by kernel_rfl
theorem pk_std {α : Type} (a b : α) : pickK s_standing_error.ps ["value", "n"] [a, b] = [b, a] := by kernel_rfl
theorem pk_keys {α : Type} (a : α) : pickK s_keys_of.ps ["standing"] [a] = [a] := by kernel_rfl
theorem form_ok : OK 1 40 (.str "form") := ⟨by decide +kernel, by decide +kernel, by decide +kernel⟩
theorem none_ok : OK 1 40 .none := ⟨by decide +kernel, by decide +kernel, by decide +kernel⟩
theorem pair_ok {x : Str} {k : Nat} (hx : (reprText x).length ≤ 10) (hk : k < 1000) : OK 1 40 (.tuple [.str x, .int (k : Nat)]) := by
  refine (OK.tuple (n := 0) (b := 10) (fun d hd => ?_)).mono (Nat.le_refl _) (by show 2 * (10 + 2) + 4 ≤ 40; decide)
  simp only [List.mem_cons, List.not_mem_nil, or_false] at hd
  rcases hd with rfl | rfl
  · exact ⟨rfl, Nat.le_refl _, hx⟩
  · exact (OK.int (by omega) (by omega)).mono (Nat.le_refl _) (by decide)
theorem lotGo_ok {n : Int} : ∀ (ds : List D) (p : Option Int) (k : Nat), k + ds.length ≤ 1000 → OK 1 40 (lotGo n p k ds)
  | [], _, _, _ => none_ok
  | d :: ds, p, k, h => by
    rw [List.length_cons] at h
    have one := pair_ok (x := "item") (k := k) (by decide +kernel) (by omega)
    cases d <;> try exact one
    case int i =>
      show OK 1 40 (if (0 ≤ i ∧ i < n) ∧ ∀ j, p = some j → j < i then lotGo n (some i) (k + 1) ds else .tuple [.str "item", .int (k : Nat)])
      split
      · exact lotGo_ok ds _ _ (by omega)
      · exact one
theorem lotErr_ok {n : Int} {v : D} (h : szD v) : OK 1 40 (lotErr n v) := by
  cases v <;> try exact form_ok
  case tuple ds => exact lotGo_ok ds none 0 (by have : ds.length ≤ 1000 := h; omega)
theorem twGo_ok : ∀ (ds pre : List D) (k : Nat), k + ds.length ≤ 1000 → OK 1 40 (twGo k pre ds)
  | [], _, _, _ => none_ok
  | d :: ds, pre, k, h => by
    rw [List.length_cons] at h
    have e : twGo k pre (d :: ds) = if (match d with | .int i => decide (0 < i) | _ => false) = true ∧ (pre.any fun z => PyData.eqv z d) = true then .tuple [.str "twice", .int (k : Nat)] else twGo (k + 1) (pre ++ [d]) ds := rfl
    rw [e]
    exact ite_ok (pair_ok (x := "twice") (k := k) (by decide +kernel) (by omega)) (twGo_ok ds _ _ (by omega))
theorem badAt_lt : ∀ (ds : List D) (k j : Nat), badAt k ds = some j → j < k + ds.length
  | [], _, _, h => by cases h
  | d :: ds, k, j, h => by
    rw [badAt_cons] at h
    rw [List.length_cons]
    split at h
    · have := badAt_lt ds _ _ h; omega
    · cases h; omega
theorem stdErr_ok {n : Int} {v : D} (h : szD v) : OK 1 40 (stdErr n v) := by
  cases v <;> try exact form_ok
  case tuple ds =>
    have h : ds.length ≤ 1000 := h
    show OK 1 40 (if (ds.length : Int) = n then (match badAt 0 ds with | some k => .tuple [.str "item", .int (k : Nat)] | none => twGo 0 [] ds) else .str "form")
    split
    · cases e : badAt 0 ds with
      | none => exact twGo_ok ds [] 0 (by omega)
      | some k => exact pair_ok (by decide +kernel) (by have := badAt_lt ds 0 k e; omega)
    · exact form_ok
theorem zerosAt_mem : ∀ (ds : List D) (k : Nat) (d : D), d ∈ zerosAt k ds → ∃ j : Nat, d = .int (j : Nat) ∧ j < k + ds.length
  | [], _, _, h => by cases h
  | x :: xs, k, d, h => by
    unfold zerosAt at h
    rw [List.length_cons]
    rcases List.mem_append.mp h with z | z
    · cases x <;> first | (exact absurd z (by show d ∉ ([] : List D); simp)) | skip
      case int i =>
        have z : d ∈ (if decide (i = 0) = true then [PyData.int (k : Nat)] else []) := z
        split at z
        · exact ⟨k, List.mem_singleton.mp z, by omega⟩
        · cases z
    · obtain ⟨j, e, hj⟩ := zerosAt_mem xs _ d z
      exact ⟨j, e, by omega⟩
theorem zerosAt_len : ∀ (ds : List D) (k : Nat), (zerosAt k ds).length ≤ ds.length
  | [], _ => Nat.le_refl _
  | x :: xs, k => by
    have h1 := zerosAt_len xs (k + 1)
    unfold zerosAt
    rw [List.length_append, List.length_cons]
    have h2 : (zer1 k x).length ≤ 1 := by
      cases x <;> first | exact Nat.zero_le _ | skip
      case int i =>
        show (if decide (i = 0) = true then [PyData.int (k : Nat)] else []).length ≤ 1
        split <;> simp
    omega

theorem lc_fm {own : List (Str × Nat)} {st : D → En → (Option D → En → Prop) → Prop} {ρ0 : En} {K : List D → En → Prop} (f : D → Option D) : ∀ (es acc : List D), (∀ d ∈ es, ∀ Kk : Option D → En → Prop, (∀ ρ', wipeE ρ' own = ρ0 → Kk (f d) ρ') → st d ρ0 Kk) →
    K (acc ++ es.filterMap f) ρ0 → lcL own st es acc ρ0 K
  | [], acc, _, hk => by rw [List.filterMap_nil, List.append_nil] at hk; exact hk
  | d :: es, acc, h, hk => by
    rw [z_lc1]
    refine h d List.mem_cons_self _ fun ρ' hw => ?_
    rw [List.filterMap_cons] at hk
    cases e : f d with
    | none =>
      rw [e] at hk
      show lcL own st es acc (wipeE ρ' own) K
      rw [hw]
      exact lc_fm f es acc (fun x hx => h x (List.mem_cons_of_mem _ hx)) hk
    | some y =>
      rw [e] at hk
      show lcL own st es (acc ++ [y]) (wipeE ρ' own) K
      rw [hw]
      exact lc_fm f es (acc ++ [y]) (fun x hx => h x (List.mem_cons_of_mem _ hx)) (by rw [List.append_assoc]; exact hk)
end KR

end
section
set_option Elab.async false
set_option linter.all false
set_option maxRecDepth 100000
set_option genSizeOf false
set_option maxHeartbeats 2000000
/-! Loops by what holds between two turns; small data. -/
namespace KR
open PySem PySem.Spec PyProof.Rows L2
theorem fr_inv {bd : D → En → Fin' → Prop} {F : Fin'} (I : Nat → En → Prop) (items : List D)
    (turn : ∀ k d ρ, items[k]? = some d → I k ρ → ∀ F' : Fin', F'.rt = F.rt → (∀ ρ', F.nx ρ' → F'.bk ρ') → (∀ ρ', I (k + 1) ρ' → F'.nx ρ') → (∀ ρ', I (k + 1) ρ' → F'.ct ρ') → bd d ρ F')
    (done : ∀ ρ, I items.length ρ → F.nx ρ) {ρ : En} (h : I 0 ρ) : forL bd items ρ F := by
  have go : ∀ (es : List D) (k : Nat) (ρ : En), items.drop k = es → k + es.length = items.length → I k ρ → forL bd es ρ F := by
    intro es
    induction es with
    | nil =>
      intro k ρ _ hk hI
      have : k = items.length := by simpa using hk
      subst this
      exact done ρ hI
    | cons d es ih =>
      intro k ρ hd hk hI
      have dk : items[k]? = some d := by rw [← List.head?_drop, hd]; rfl
      have nx : ∀ ρ', I (k + 1) ρ' → forL bd es ρ' F := fun ρ' h' => ih (k + 1) ρ' (by rw [← List.drop_drop, hd]; rfl) (by rw [List.length_cons] at hk; omega) h'
      rw [z_for1]
      exact turn k d ρ dk hI _ rfl (fun ρ' h => h) nx nx
  exact go items 0 ρ rfl (by simp) h
/-- by the items gone through -/
theorem fr_fold {α : Type} {bd : D → En → Fin' → Prop} {F : Fin'} (I : α → En → Prop) (f : α → D → α) (items : List D)
    (turn : ∀ a d ρ, d ∈ items → I a ρ → ∀ F' : Fin', F'.rt = F.rt → (∀ ρ', I (f a d) ρ' → F'.nx ρ') → (∀ ρ', I (f a d) ρ' → F'.ct ρ') → bd d ρ F')
    {a : α} (done : ∀ ρ, I (items.foldl f a) ρ → F.nx ρ) {ρ : En} (h : I a ρ) : forL bd items ρ F := by
  induction items generalizing a ρ with
  | nil => exact done ρ h
  | cons d es ih =>
    rw [z_for1]
    have nx : ∀ ρ', I (f a d) ρ' → forL bd es ρ' F := fun ρ' h' => ih (fun a d ρ hd => turn a d ρ (List.mem_cons_of_mem _ hd)) done h'
    exact turn a d ρ List.mem_cons_self h _ rfl nx nx
/-- a loop that stores nothing for a later turn -/
theorem fr_all {bd : D → En → Fin' → Prop} {F : Fin'} (I : En → Prop) (items : List D)
    (turn : ∀ d ρ, d ∈ items → I ρ → ∀ F' : Fin', F'.rt = F.rt → (∀ ρ', I ρ' → F'.nx ρ') → (∀ ρ', I ρ' → F'.ct ρ') → bd d ρ F')
    (done : ∀ ρ, I ρ → F.nx ρ) {ρ : En} (h : I ρ) : forL bd items ρ F :=
  fr_fold (α := Unit) (fun _ => I) (fun _ _ => ()) items (fun _ d ρ hd hI F' hr n c => turn d ρ hd hI F' hr n c) (a := ()) done h
/-- a while by a measure -/
theorem wh_inv {cd : En → (Bool → En → Prop) → Prop} {bw : En → Fin' → Prop} {F : Fin'} (I J : Nat → En → Prop)
    (cond : ∀ m ρ, I m ρ → ∀ Kc : Bool → En → Prop, (∀ ρ1, J m ρ1 → Kc true ρ1) → (∀ ρ1, F.nx ρ1 → Kc false ρ1) → cd ρ Kc)
    (turn : ∀ m ρ, J m ρ → ∀ F' : Fin', F'.rt = F.rt → (∀ ρ', F.nx ρ' → F'.bk ρ') → (∀ m' ρ', m' < m → I m' ρ' → F'.nx ρ') → (∀ m' ρ', m' < m → I m' ρ' → F'.ct ρ') → bw ρ F')
    {m : Nat} {ρ : En} (h : I m ρ) : ∃ n, whileN cd bw n ρ F := by
  have go : ∀ (fuel m : Nat) (ρ : En), m < fuel → I m ρ → whileN cd bw fuel ρ F := by
    intro fuel
    induction fuel with
    | zero => intro m ρ h _; omega
    | succ fuel ih =>
      intro m ρ hm hI
      refine cond m ρ hI _ (fun ρ1 hJ => ?_) (fun ρ1 hn => ?_)
      · rw [if_pos rfl]
        exact turn m ρ1 hJ _ rfl (fun ρ' h => h) (fun m' ρ' lt h' => ih m' ρ' (by omega) h') (fun m' ρ' lt h' => ih m' ρ' (by omega) h')
      · rw [if_neg (by decide)]; exact hn
  exact ⟨m + 1, go (m + 1) m ρ (Nat.lt_succ_self m) h⟩
/-- what is small: ints of few figures, short texts, rows of few items, so deep -/
def lim : Nat → Nat
  | 0 => 60
  | _ => 14
def sm0 : D → Prop
  | .none => True
  | .bool _ => True
  | .int i => -(10 ^ 33) < i ∧ i < 10 ^ 33
  | .str x => (reprText x).length ≤ 40
  | .list ds => ds = []
  | .tuple ds => ds = []
  | .dict es => es = []
def sm : Nat → D → Prop
  | 0, d => sm0 d
  | n + 1, d => sm n d ∨ ∃ ds, (d = .list ds ∨ d = .tuple ds) ∧ ds.length ≤ lim n ∧ ∀ d ∈ ds, sm n d
def smB : Nat → Nat
  | 0 => 42
  | n + 1 => lim n * (smB n + 2) + 4
theorem OK.i {i : Int} (h0 : -(10 ^ 33) < i) (h1 : i < 10 ^ 33) {n b : Nat} (hb : 34 ≤ b) : OK n b (.int i) := by
  have hn : i.natAbs < 10 ^ 33 := by omega
  refine ⟨?_, Nat.zero_le _, Nat.le_trans ?_ hb⟩
  · show decide (i.natAbs.log2 < 1920) = true
    rw [decide_eq_true_eq]
    by_cases h : i.natAbs = 0
    · rw [h]; decide
    · exact (Nat.log2_lt h).mpr (Nat.lt_trans hn (Nat.lt_of_lt_of_le (by decide : 10 ^ 33 < 2 ^ 110) (Nat.pow_le_pow_right (by decide) (show 110 ≤ 1920 by decide))))
  · have := int_text_length_le10 (a := i) (k := 33) (by decide) hn
    show (Str.ofString (toString i)).length ≤ 34
    (rw [PySem.ofString_length]; exact this)
theorem smB_ge : ∀ n, 42 ≤ smB n
  | 0 => Nat.le_refl _
  | n + 1 => by
    have := smB_ge n
    have h : 14 ≤ lim n := by cases n <;> simp [lim]
    have := Nat.mul_le_mul_right (smB n + 2) h
    simp only [smB]; omega
theorem sm0_ok {n : Nat} : ∀ {d : D}, sm0 d → OK (n + 1) (smB n) d
  | .none, _ => ⟨rfl, Nat.zero_le _, Nat.le_trans (by decide) (smB_ge n)⟩
  | .bool b, _ => ⟨rfl, Nat.zero_le _, Nat.le_trans (by cases b <;> decide) (smB_ge n)⟩
  | .int i, h => OK.i h.1 h.2 (Nat.le_trans (by decide) (smB_ge n))
  | .str x, h => ⟨rfl, Nat.zero_le _, Nat.le_trans h (Nat.le_trans (by decide) (smB_ge n))⟩
  | .list ds, h => by
    have h : ds = [] := h
    subst h; exact ⟨by decide +kernel, Nat.le_trans (show _ ≤ 1 by decide +kernel) (Nat.succ_le_succ (Nat.zero_le n)), Nat.le_trans (by decide +kernel) (smB_ge n)⟩
  | .tuple ds, h => by
    have h : ds = [] := h
    subst h; exact ⟨by decide +kernel, Nat.le_trans (show _ ≤ 1 by decide +kernel) (Nat.succ_le_succ (Nat.zero_le n)), Nat.le_trans (by decide +kernel) (smB_ge n)⟩
  | .dict es, h => by
    have h : es = [] := h
    subst h; exact ⟨by decide +kernel, Nat.le_trans (show _ ≤ 1 by decide +kernel) (Nat.succ_le_succ (Nat.zero_le n)), Nat.le_trans (by decide +kernel) (smB_ge n)⟩
theorem smB_le (n : Nat) : smB n ≤ smB (n + 1) := by
  have h : 14 ≤ lim n := by cases n <;> simp [lim]
  have := Nat.mul_le_mul_right (smB n + 2) h
  simp only [smB]; omega
theorem sm_ok : ∀ {n : Nat} {d : D}, sm n d → OK (n + 1) (smB n) d
  | 0, d, h => sm0_ok h
  | n + 1, d, .inl h => (sm_ok h).mono (Nat.le_succ _) (smB_le n)
  | n + 1, d, .inr ⟨ds, hd, hl, h⟩ => by
    have := Nat.mul_le_mul_right (smB n + 2) hl
    rcases hd with rfl | rfl
    · refine (OK.list (n := n + 1) (b := smB n) fun d hd => sm_ok (h d hd)).mono (Nat.le_refl _) ?_
      simp only [smB]; omega
    · refine (OK.tuple (n := n + 1) (b := smB n) fun d hd => sm_ok (h d hd)).mono (Nat.le_refl _) ?_
      simp only [smB]; omega
theorem sm_up {n : Nat} {d : D} (h : sm n d) : sm (n + 1) d := .inl h
theorem sm_z {d : D} (h : sm0 d) : ∀ {n : Nat}, sm n d
  | 0 => h
  | _ + 1 => .inl (sm_z h)
theorem sm_1 {d : D} (h : sm 1 d) : ∀ {n : Nat}, sm (n + 1) d
  | 0 => h
  | _ + 1 => .inl (sm_1 h)
theorem sm_2 {d : D} (h : sm 2 d) : ∀ {n : Nat}, sm (n + 2) d
  | 0 => h
  | _ + 1 => .inl (sm_2 h)
theorem sm_3 {d : D} (h : sm 3 d) : ∀ {n : Nat}, sm (n + 3) d
  | 0 => h
  | _ + 1 => .inl (sm_3 h)
theorem sm_repr {n : Nat} {d : D} {K : R → Prop} (h : sm n d) (h1 : n ≤ 4) (k : K (.im (.str d.shown))) : biD .repr [d] K := by
  refine (sm_ok h).repr (by omega) ?_ k
  match n, h1 with
  | 0, _ => decide
  | 1, _ => decide
  | 2, _ => decide
  | 3, _ => decide
  | 4, _ => decide
theorem sm_int {n : Nat} {i : Int} (h0 : -(10 ^ 33) < i) (h1 : i < 10 ^ 33) : sm n (.int i) := sm_z (d := .int i) ⟨h0, h1⟩
theorem sm_non {n : Nat} : sm n .none := sm_z (d := .none) trivial
theorem sm_bool {n : Nat} {b : Bool} : sm n (.bool b) := sm_z (d := .bool b) trivial
theorem sm_str {n : Nat} {x : Str} (h : (reprText x).length ≤ 40) : sm n (.str x) := sm_z (d := .str x) h
theorem sm_l0 {n : Nat} : sm n (.list []) := sm_z (d := .list []) rfl
theorem sm_t0 {n : Nat} : sm n (.tuple []) := sm_z (d := .tuple []) rfl
theorem sm_d0 {n : Nat} : sm n (.dict []) := sm_z (d := .dict []) rfl
theorem sm_big {n : Nat} : sm n (.int (10 ^ Int.toNat 30)) := sm_int (by decide) (by decide)
theorem sm_list {n : Nat} {ds : List D} (h : ds.length ≤ lim n) (k : ∀ d ∈ ds, sm n d) : sm (n + 1) (.list ds) := .inr ⟨ds, .inl rfl, h, k⟩
theorem sm_tuple {n : Nat} {ds : List D} (h : ds.length ≤ lim n) (k : ∀ d ∈ ds, sm n d) : sm (n + 1) (.tuple ds) := .inr ⟨ds, .inr rfl, h, k⟩
theorem sm_ints {n : Nat} {ns : List Int} (h : ∀ i ∈ ns, -(10 ^ 33) < i ∧ i < 10 ^ 33) : ∀ d ∈ ns.map PyData.int, sm n d := fun d hd => by
  obtain ⟨i, hi, rfl⟩ := List.mem_map.mp hd
  exact sm_int (h i hi).1 (h i hi).2
theorem all_nil {p : D → Prop} : ∀ d ∈ ([] : List D), p d := fun d h => by cases h
theorem all_cons {p : D → Prop} {x : D} {xs : List D} (h : p x) (k : ∀ d ∈ xs, p d) : ∀ d ∈ x :: xs, p d := fun d hd => by
  rcases List.mem_cons.mp hd with z | z
  · rw [z]; exact h
  · exact k d z
def oI (g : Int → Option D) : D → Option D
  | .int i => g i
  | _ => none
theorem fm_oI (g : Int → Option D) : ∀ ls : List Int, (ls.map PyData.int).filterMap (oI g) = ls.filterMap g
  | [] => rfl
  | x :: xs => by
    have := fm_oI g xs
    rw [List.map_cons, List.filterMap_cons, List.filterMap_cons, this]; rfl
theorem fm_map {α β : Type} (f : α → β) (xs : List α) : xs.filterMap (fun x => some (f x)) = xs.map f := by
  induction xs with
  | nil => rfl
  | cons x xs ih => rw [List.filterMap_cons, ih]; rfl
theorem z_back0 {ρ ρ' : En} : backE ρ ρ' [] = ρ' := rfl
theorem z_back1 {ρ ρ' : En} {p : Str × Nat} {ps : List (Str × Nat)} : backE ρ ρ' (p :: ps) = (backE ρ ρ' ps).set p.2 (backS ρ[p.2]?) := rfl
theorem z_bs1 : backS (some .no) = .no := rfl
theorem z_bs2 {d : D} : backS (some (.im d)) = .im d := rfl
theorem z_bs3 {d : D} : backS (some (.ow d)) = .no := rfl
theorem z_bs4 : backS (some .dk) = .dk := rfl
theorem z_wipe0 {ρ : En} : wipeE ρ [] = ρ := rfl
theorem z_wipe1 {ρ : En} {p : Str × Nat} {ps : List (Str × Nat)} : wipeE ρ (p :: ps) = (wipeE ρ ps).set p.2 .no := rfl
theorem sm_len : ∀ {n : Nat} {ds : List D}, sm n (.tuple ds) → ds.length ≤ 60
  | 0, ds, h => by have h : ds = [] := h; rw [h]; decide
  | n + 1, ds, .inl h => sm_len h
  | n + 1, ds, .inr ⟨es, he, hl, _⟩ => by
    have : lim n ≤ 60 := by cases n <;> simp [lim]
    rcases he with z | z <;> cases z
    omega
theorem sm_mem : ∀ {n : Nat} {ds : List D}, sm n (.tuple ds) → ∀ d ∈ ds, sm n d
  | 0, ds, h => by have h : ds = [] := h; rw [h]; exact all_nil
  | n + 1, ds, .inl h => fun d hd => sm_up (sm_mem h d hd)
  | n + 1, ds, .inr ⟨es, he, hl, k⟩ => by
    rcases he with z | z <;> cases z
    exact fun d hd => sm_up (k d hd)
theorem sm_szD {n : Nat} {d : D} (h : sm n d) : szD d := by
  cases d <;> try trivial
  case tuple ds => exact Nat.le_trans (sm_len h) (by decide)
theorem ife_eq {Γ : Ctx} {Ed : Ex → En → Prop} {ρ : En} {F : Fin'} {i : Nat} {w k : Int} {a b : ISs} (e : ρ[i]? = some (.im (.int w))) (ha : w = k → wpSs Γ Ed a ρ F) (hb : w ≠ k → wpSs Γ Ed b ρ F) : wpS Γ Ed (.ife (.cmp .eq (.var i) (.cst (.int k))) a b) ρ F := by
  rw [q_ife, q_cmp, q_var, e]
  by_cases c : w = k
  · show if decide (w = k) = true then _ else _
    rw [if_pos (decide_eq_true c)]; exact ha c
  · show if decide (w = k) = true then _ else _
    rw [if_neg (by rw [decide_eq_false c]; decide)]; exact hb c
theorem ife_lt {Γ : Ctx} {Ed : Ex → En → Prop} {ρ : En} {F : Fin'} {i : Nat} {w k : Int} {a b : ISs} (e : ρ[i]? = some (.im (.int w))) (ha : w < k → wpSs Γ Ed a ρ F) (hb : ¬ w < k → wpSs Γ Ed b ρ F) : wpS Γ Ed (.ife (.cmp .lt (.var i) (.cst (.int k))) a b) ρ F := by
  rw [q_ife, q_cmp, q_var, e]
  by_cases c : w < k
  · show if decide (w < k) = true then _ else _
    rw [if_pos (decide_eq_true c)]; exact ha c
  · show if decide (w < k) = true then _ else _
    rw [if_neg (by rw [decide_eq_false c]; decide)]; exact hb c
theorem ite_eq {Γ : Ctx} {Ed : Ex → En → Prop} {ρ : En} {Q : R → En → Prop} {i : Nat} {w k : Int} {a b : IE} (e : ρ[i]? = some (.im (.int w))) (ha : w = k → wpE Γ Ed a ρ Q) (hb : w ≠ k → wpE Γ Ed b ρ Q) : wpE Γ Ed (.ite (.cmp .eq (.var i) (.cst (.int k))) a b) ρ Q := by
  rw [q_ite, q_cmp, q_var, e]
  by_cases c : w = k
  · show if decide (w = k) = true then _ else _
    rw [if_pos (decide_eq_true c)]; exact ha c
  · show if decide (w = k) = true then _ else _
    rw [if_neg (by rw [decide_eq_false c]; decide)]; exact hb c
theorem ite_lt {Γ : Ctx} {Ed : Ex → En → Prop} {ρ : En} {Q : R → En → Prop} {i : Nat} {w k : Int} {a b : IE} (e : ρ[i]? = some (.im (.int w))) (ha : w < k → wpE Γ Ed a ρ Q) (hb : ¬ w < k → wpE Γ Ed b ρ Q) : wpE Γ Ed (.ite (.cmp .lt (.var i) (.cst (.int k))) a b) ρ Q := by
  rw [q_ite, q_cmp, q_var, e]
  by_cases c : w < k
  · show if decide (w < k) = true then _ else _
    rw [if_pos (decide_eq_true c)]; exact ha c
  · show if decide (w < k) = true then _ else _
    rw [if_neg (by rw [decide_eq_false c]; decide)]; exact hb c
/-- one of two slots -/
theorem ite_vv {Γ : Ctx} {Ed : Ex → En → Prop} {ρ : En} {Q : R → En → Prop} {i j : Nat} {w k : Int} {a b : IE} (e : ρ[i]? = some (.im (.int w))) (e2 : ρ[j]? = some (.im (.int k))) (ha : w = k → wpE Γ Ed a ρ Q) (hb : w ≠ k → wpE Γ Ed b ρ Q) : wpE Γ Ed (.ite (.cmp .eq (.var i) (.var j)) a b) ρ Q := by
  rw [q_ite, q_cmp, q_var, e]
  show wpE Γ Ed (.var j) ρ _
  rw [q_var, e2]
  by_cases c : w = k
  · show if decide (w = k) = true then _ else _
    rw [if_pos (decide_eq_true c)]; exact ha c
  · show if decide (w = k) = true then _ else _
    rw [if_neg (by rw [decide_eq_false c]; decide)]; exact hb c
end KR

end
section
set_option Elab.async false
set_option linter.all false
set_option maxRecDepth 100000
set_option genSizeOf false
set_option maxHeartbeats 4000000
/-! The steps of the small language, the head first. -/
namespace KR
open PySem PySem.Spec PyProof.Rows L2
/-- nothing: but what stands in its type is not looked into -/
inductive Dep {α : Sort u} (a : α) : Type where
  | mk
def setK (ρ : En) (i : Nat) (s : Sl) (K : En → Prop) (u : Dep K := .mk) : Prop := K (ρ.set i s)
def appK (ρ : En) (i : Nat) (d : D) (Q : R → En → Prop) (u : Dep Q := .mk) : Prop := match ρ[i]? with
    | some (.ow (.list ds)) => ds.length < sizeLine ∧ Q (.im .none) (ρ.set i (.ow (.list (ds ++ [d]))))
    | _ => False
def popK (r : R) (ρ1 : En) (i : Nat) (Q : R → En → Prop) (u : Dep Q := .mk) : Prop := match r, ρ1[i]? with
    | .im (.int k), some (.ow (.list ds)) => (-(2 ^ 63) ≤ k ∧ k < 2 ^ 63) ∧ (match seqIndex? k ds.length with
      | some j => (match ds[j]? with
        | some d => Q (.im d) (ρ1.set i (.ow (.list (ds.eraseIdx j))))
        | none => False)
      | none => False)
    | _, _ => False
def stoK (r : R) (ρ1 : En) (i : Nat) (d : D) (K : En → Prop) (u : Dep K := .mk) : Prop := match r, ρ1[i]? with
    | .im (.int j), some (.ow (.list ds)) => (match ixN ds.length j with
      | some m => K (ρ1.set i (.ow (.list (ds.set m d))))
      | none => False)
    | _, _ => False
def ixK (o : Option D) (K : D → Prop) (u : Dep K := .mk) : Prop := match o with
    | some d => K d
    | none => False
def mxK (o : Option Nat) (K : Nat → Prop) (u : Dep K := .mk) : Prop := match o with
    | some d => K d
    | none => False
def frzK (ρ : En) (rs : List R) (K : En → Prop) (u : Dep K := .mk) : Prop := K (frzB ρ rs)
def backK (ρ ρ' : En) (own : List (Str × Nat)) (K : En → Prop) (u : Dep K := .mk) : Prop := K (backE ρ ρ' own)
def setsK (ρ : En) (ts : List Nat) (ss : List Sl) (K : En → Prop) (u : Dep K := .mk) : Prop := K (setAll ρ ts ss)
def callK (S : DSpec) (rs : List R) (as : List Ar) (ρ1 : En) (Q : R → En → Prop) (Ed : Ex → En → Prop) (u : Dep Q := .mk) (v : Dep Ed := .mk) : Prop := rs.length = S.ps.length ∧ S.wp as (fun r => if S.keep = true then flatR r = true ∧ Q r ρ1 else frzK ρ1 rs fun ρ2 => Q r ρ2) (fun x => frzK ρ1 rs fun ρ2 => Ed x ρ2)
def callkK (S : DSpec) (ks : List Str) (rs : List R) (as : List Ar) (ρ1 : En) (Q : R → En → Prop) (Ed : Ex → En → Prop) (u : Dep Q := .mk) (v : Dep Ed := .mk) : Prop := (rs.length = ks.length ∧ (pickK S.ps ks rs).length = S.ps.length) ∧ S.wp (pickK S.ps ks as) (fun r => if S.keep = true then flatR r = true ∧ Q r ρ1 else frzK ρ1 rs fun ρ2 => Q r ρ2) (fun x => frzK ρ1 rs fun ρ2 => Ed x ρ2)

def wpEQ (Γ : Ctx) (Ed : Ex → En → Prop) (e : IE) (ρ : En) (K : R → En → Prop) (u : Dep K := .mk) : Prop := wpE Γ Ed e ρ K
def wpEsQ (Γ : Ctx) (Ed : Ex → En → Prop) (e : IEs) (ρ : En) (K : List R → En → Prop) (u : Dep K := .mk) : Prop := wpEs Γ Ed e ρ K
def wpCQ (Γ : Ctx) (Ed : Ex → En → Prop) (isAnd k : Bool) (e : IEs) (ρ : En) (K : R → En → Prop) (u : Dep K := .mk) : Prop := wpC Γ Ed isAnd k e ρ K
def wpOQ (Γ : Ctx) (Ed : Ex → En → Prop) (e : IO) (ρ : En) (K : Option Int → En → Prop) (u : Dep K := .mk) : Prop := wpO Γ Ed e ρ K
def wpO1Q (Γ : Ctx) (e : IO) (ρ : En) (K : Bool → En → Prop) (u : Dep K := .mk) : Prop := wpO' Γ e ρ K
def wpIQ (Γ : Ctx) (Ed : Ex → En → Prop) (e : II) (ρ : En) (K : List D → En → Prop) (u : Dep K := .mk) : Prop := wpI Γ Ed e ρ K
def wpSQ (Γ : Ctx) (Ed : Ex → En → Prop) (e : IS) (ρ : En) (K : Fin') (u : Dep K := .mk) : Prop := wpS Γ Ed e ρ K
def wpSsQ (Γ : Ctx) (Ed : Ex → En → Prop) (e : ISs) (ρ : En) (K : Fin') (u : Dep K := .mk) : Prop := wpSs Γ Ed e ρ K
def asgTQ (Γ : Ctx) (t : IT) (d : D) (ρ : En) (K : En → Prop) (u : Dep K := .mk) : Prop := asgT Γ t d ρ K
def stepFQ (Γ : Ctx) (elt : IE) (tg : IT) (cond : IO) (d : D) (ρ : En) (K : Option D → En → Prop) (u : Dep K := .mk) : Prop := stepF Γ elt tg cond d ρ K
def bodyFQ (Γ : Ctx) (Ed : Ex → En → Prop) (t : IT) (b : ISs) (d : D) (ρ : En) (K : Fin') (u : Dep K := .mk) : Prop := bodyF Γ Ed t b d ρ K
def condFQ (Γ : Ctx) (Ed : Ex → En → Prop) (c : IE) (ρ : En) (K : Bool → En → Prop) (u : Dep K := .mk) : Prop := condF Γ Ed c ρ K
def loopFQ (Γ : Ctx) (Ed : Ex → En → Prop) (b : ISs) (ρ : En) (K : Fin') (u : Dep K := .mk) : Prop := loopF Γ Ed b ρ K
def peekQ (ρ : En) (r : R) (K : D → Prop) (u : Dep K := .mk) : Prop := peek ρ r K
def takeRQ (ρ : En) (r : R) (K : D → En → Prop) (u : Dep K := .mk) : Prop := takeR ρ r K
def slotRQ (ρ : En) (r : R) (K : Sl → En → Prop) (u : Dep K := .mk) : Prop := slotR ρ r K
def retRQ (ρ : En) (r : R) (K : R → Prop) (u : Dep K := .mk) : Prop := retR ρ r K
def peekAllQ (ρ : En) (rs : List R) (K : List D → Prop) (u : Dep K := .mk) : Prop := peekAll ρ rs K
def takeAllQ (ρ : En) (rs : List R) (K : List D → En → Prop) (u : Dep K := .mk) : Prop := takeAll ρ rs K
def slotAllQ (ρ : En) (rs : List R) (K : List Sl → En → Prop) (u : Dep K := .mk) : Prop := slotAll ρ rs K
def argsOfQ (ρ : En) (rs : List R) (K : List Ar → Prop) (u : Dep K := .mk) : Prop := argsOf ρ rs K
def asBoolQ (r : R) (K : Bool → Prop) (u : Dep K := .mk) : Prop := asBool r K
def binDQ (op : BOp) (a b : D) (K : R → Prop) (u : Dep K := .mk) : Prop := binD op a b K
def cmpDQ (op : COp) (a b : D) (K : Bool → Prop) (u : Dep K := .mk) : Prop := cmpD op a b K
def subDQ (a b : D) (K : D → Prop) (u : Dep K := .mk) : Prop := subD a b K
def slcDQ (a : D) (lo hi : Option Int) (K : R → Prop) (u : Dep K := .mk) : Prop := slcD a lo hi K
def revDQ (a : D) (K : R → Prop) (u : Dep K := .mk) : Prop := revD a K
def biDQ (b : Bi) (ds : List D) (K : R → Prop) (u : Dep K := .mk) : Prop := biD b ds K
def rngDQ (ds : List D) (K : List D → Prop) (u : Dep K := .mk) : Prop := rngD ds K
def itemsDQ (d : D) (K : List D → Prop) (u : Dep K := .mk) : Prop := itemsD d K
def zipDQ (a b : D) (K : List D → Prop) (u : Dep K := .mk) : Prop := zipD a b K
def lcLQ (own : List (Str × Nat)) (st : D → En → (Option D → En → Prop) → Prop) (ds acc : List D) (ρ : En) (K : List D → En → Prop) (u : Dep K := .mk) : Prop := lcL own st ds acc ρ K
def forLQ (bd : D → En → Fin' → Prop) (ds : List D) (ρ : En) (K : Fin') (u : Dep K := .mk) : Prop := forL bd ds ρ K
def whileNQ (cd : En → (Bool → En → Prop) → Prop) (bw : En → Fin' → Prop) (n : Nat) (ρ : En) (K : Fin') (u : Dep K := .mk) : Prop := whileN cd bw n ρ K

theorem asgTu2 {Γ : Ctx} {t0 t1 : IT} {x0 x1 : D} {ρ : En} {K : En → Prop} : asgT Γ (.tup (.cons t0 (.cons t1 .nil))) (.tuple [x0, x1]) ρ K = (asgT Γ t0 x0 ρ fun ρ1 => asgT Γ t1 x1 ρ1 K) := propext ⟨fun h => by simpa [asgT, asgTs, ITs.len] using h, fun h => by simpa [asgT, asgTs, ITs.len] using h⟩
theorem asgTu3 {Γ : Ctx} {t0 t1 t2 : IT} {x0 x1 x2 : D} {ρ : En} {K : En → Prop} : asgT Γ (.tup (.cons t0 (.cons t1 (.cons t2 .nil)))) (.tuple [x0, x1, x2]) ρ K = (asgT Γ t0 x0 ρ fun ρ1 => asgT Γ t1 x1 ρ1 fun ρ2 => asgT Γ t2 x2 ρ2 K) := propext ⟨fun h => by simpa [asgT, asgTs, ITs.len] using h, fun h => by simpa [asgT, asgTs, ITs.len] using h⟩
theorem asgTu4 {Γ : Ctx} {t0 t1 t2 t3 : IT} {x0 x1 x2 x3 : D} {ρ : En} {K : En → Prop} : asgT Γ (.tup (.cons t0 (.cons t1 (.cons t2 (.cons t3 .nil))))) (.tuple [x0, x1, x2, x3]) ρ K = (asgT Γ t0 x0 ρ fun ρ1 => asgT Γ t1 x1 ρ1 fun ρ2 => asgT Γ t2 x2 ρ2 fun ρ3 => asgT Γ t3 x3 ρ3 K) := propext ⟨fun h => by simpa [asgT, asgTs, ITs.len] using h, fun h => by simpa [asgT, asgTs, ITs.len] using h⟩
def negR (r : R) (K : R → Prop) (u : Dep K := .mk) : Prop := match r with
    | .im (.int i) => K (.im (.int (-i)))
    | _ => False
def intR (r : R) (K : Int → Prop) (u : Dep K := .mk) : Prop := match r with
    | .im (.int i) => K i
    | _ => False
theorem V0 : (∀ (Γ : Ctx) (Ed : Ex → En → Prop) (c : D) (ρ : En) (Q : R → En → Prop), wpEQ Γ Ed (.cst c) ρ Q = Q (.im c) ρ) ∧
  (∀ (Γ : Ctx) (Ed : Ex → En → Prop) (op : BOp) (a b : IE) (ρ : En) (Q : R → En → Prop), wpEQ Γ Ed (.bin op a b) ρ Q = wpEQ Γ Ed a ρ fun r1 ρ1 => wpEQ Γ Ed b ρ1 fun r2 ρ2 => peekQ ρ2 r1 fun d1 => peekQ ρ2 r2 fun d2 => binDQ op d1 d2 fun r => Q r ρ2) ∧
  (∀ (Γ : Ctx) (Ed : Ex → En → Prop) (a : IE) (ρ : En) (Q : R → En → Prop), wpEQ Γ Ed (.neg a) ρ Q = wpEQ Γ Ed a ρ fun r1 ρ1 => negR r1 fun r => Q r ρ1) ∧
  (∀ (Γ : Ctx) (Ed : Ex → En → Prop) (op : COp) (a b : IE) (ρ : En) (Q : R → En → Prop), wpEQ Γ Ed (.cmp op a b) ρ Q = wpEQ Γ Ed a ρ fun r1 ρ1 => wpEQ Γ Ed b ρ1 fun r2 ρ2 => peekQ ρ2 r1 fun d1 => peekQ ρ2 r2 fun d2 => cmpDQ op d1 d2 fun k => Q (.im (.bool k)) ρ2) ∧
  (∀ (Γ : Ctx) (Ed : Ex → En → Prop) (op op' : COp) (a b c : IE) (ρ : En) (Q : R → En → Prop), wpEQ Γ Ed (.chain op op' a b c) ρ Q = wpEQ Γ Ed a ρ fun r1 ρ1 => wpEQ Γ Ed b ρ1 fun r2 ρ2 => peekQ ρ2 r1 fun d1 => peekQ ρ2 r2 fun d2 => cmpDQ op d1 d2 fun k =>
      if k = true then wpEQ Γ Ed c ρ2 fun r3 ρ3 => peekQ ρ3 r2 fun d2' => peekQ ρ3 r3 fun d3 => cmpDQ op' d2' d3 fun k' => Q (.im (.bool k')) ρ3 else Q (.im (.bool false)) ρ2) ∧
  (∀ (Γ : Ctx) (Ed : Ex → En → Prop) (k : Bool) (es : IEs) (ρ : En) (Q : R → En → Prop), wpEQ Γ Ed (.conj k es) ρ Q = wpCQ Γ Ed k k es ρ Q) ∧
  (∀ (Γ : Ctx) (Ed : Ex → En → Prop) (a : IE) (ρ : En) (Q : R → En → Prop), wpEQ Γ Ed (.notE a) ρ Q = wpEQ Γ Ed a ρ fun r ρ1 => asBoolQ r fun k => Q (.im (.bool (!k))) ρ1) ∧
  (∀ (Γ : Ctx) (Ed : Ex → En → Prop) (c a b : IE) (ρ : En) (Q : R → En → Prop), wpEQ Γ Ed (.ite c a b) ρ Q = wpEQ Γ Ed c ρ fun r ρ1 => asBoolQ r fun k => if k = true then wpEQ Γ Ed a ρ1 Q else wpEQ Γ Ed b ρ1 Q) ∧
  (∀ (Γ : Ctx) (Ed : Ex → En → Prop) (es : IEs) (ρ : En) (Q : R → En → Prop), wpEQ Γ Ed (.tup es) ρ Q = wpEsQ Γ Ed es ρ fun rs ρ1 => rs.length ≤ 1000 ∧ takeAllQ ρ1 rs fun ds ρ2 => Q (.im (.tuple ds)) ρ2) ∧
  (∀ (Γ : Ctx) (Ed : Ex → En → Prop) (es : IEs) (ρ : En) (Q : R → En → Prop), wpEQ Γ Ed (.lst es) ρ Q = wpEsQ Γ Ed es ρ fun rs ρ1 => rs.length ≤ 1000 ∧ takeAllQ ρ1 rs fun ds ρ2 => Q (.fr (.list ds)) ρ2) ∧
  (∀ (Γ : Ctx) (Ed : Ex → En → Prop) (b : Bool) (ρ : En) (Q : R → En → Prop), wpEQ Γ Ed (.dic b) ρ Q = Q (.fr (.dict [])) ρ) ∧
  (∀ (Γ : Ctx) (Ed : Ex → En → Prop) (a i : IE) (ρ : En) (Q : R → En → Prop), wpEQ Γ Ed (.sub a i) ρ Q = wpEQ Γ Ed a ρ fun r1 ρ1 => wpEQ Γ Ed i ρ1 fun r2 ρ2 => peekQ ρ2 r1 fun d1 => peekQ ρ2 r2 fun d2 => subDQ d1 d2 fun d => Q (.im d) ρ2) ∧
  (∀ (Γ : Ctx) (Ed : Ex → En → Prop) (a : IE) (lo hi : IO) (ρ : En) (Q : R → En → Prop), wpEQ Γ Ed (.slc a lo hi) ρ Q = wpEQ Γ Ed a ρ fun r ρ1 => wpOQ Γ Ed lo ρ1 fun l ρ2 => wpOQ Γ Ed hi ρ2 fun h ρ3 => peekQ ρ3 r fun d => slcDQ d l h fun r => Q r ρ3) ∧
  (∀ (Γ : Ctx) (Ed : Ex → En → Prop) (a : IE) (ρ : En) (Q : R → En → Prop), wpEQ Γ Ed (.rev a) ρ Q = wpEQ Γ Ed a ρ fun r ρ1 => peekQ ρ1 r fun d => revDQ d fun r => Q r ρ1) ∧
  (∀ (Γ : Ctx) (Ed : Ex → En → Prop) (b : Bi) (es : IEs) (ρ : En) (Q : R → En → Prop), wpEQ Γ Ed (.bi b es) ρ Q = wpEsQ Γ Ed es ρ fun rs ρ1 => peekAllQ ρ1 rs fun ds => biDQ b ds fun r => Q r ρ1) ∧
  (∀ (Γ : Ctx) (Ed : Ex → En → Prop) (es : IEs) (ρ : En) (Q : R → En → Prop), wpEQ Γ Ed (.rng true es) ρ Q = wpEsQ Γ Ed es ρ fun rs ρ1 => peekAllQ ρ1 rs fun ds => rngDQ ds fun xs => Q (.im (.tuple xs)) ρ1) ∧
  (∀ (Γ : Ctx) (Ed : Ex → En → Prop) (es : IEs) (ρ : En) (Q : R → En → Prop), wpEQ Γ Ed (.rng false es) ρ Q = wpEsQ Γ Ed es ρ fun rs ρ1 => peekAllQ ρ1 rs fun ds => rngDQ ds fun xs => Q (.fr (.list xs)) ρ1) ∧
  (∀ (Γ : Ctx) (Ed : Ex → En → Prop) (ty : String) (a : IE) (ρ : En) (Q : R → En → Prop), wpEQ Γ Ed (.isinst ty a) ρ Q = wpEQ Γ Ed a ρ fun r ρ1 => peekQ ρ1 r fun d => Q (.im (.bool (isTy ty d))) ρ1) ∧
  (∀ (Γ : Ctx) (Ed : Ex → En → Prop) (elt : IE) (tg : IT) (it : II) (cond : IO) (own : List (Str × Nat)) (ρ : En) (Q : R → En → Prop), wpEQ Γ Ed (.lc elt tg it cond own) ρ Q = wpIQ Γ Ed it ρ fun ds ρ1 => ds.length ≤ sizeLine ∧ lcLQ own (stepF Γ elt tg cond) ds [] (wipeE ρ1 own) fun acc ρ' => backK ρ1 ρ' own fun ρ2 => Q (.fr (.list acc)) ρ2) ∧
  (∀ (Γ : Ctx) (Ed : Ex → En → Prop) (ρ : En) (Q : List R → En → Prop), wpEsQ Γ Ed .nil ρ Q = Q [] ρ) ∧
  (∀ (Γ : Ctx) (Ed : Ex → En → Prop) (e : IE) (es : IEs) (ρ : En) (Q : List R → En → Prop), wpEsQ Γ Ed (.cons e es) ρ Q = wpEQ Γ Ed e ρ fun r ρ1 => wpEsQ Γ Ed es ρ1 fun rs ρ2 => Q (r :: rs) ρ2) ∧
  (∀ (Γ : Ctx) (Ed : Ex → En → Prop) (isAnd k : Bool) (ρ : En) (Q : R → En → Prop), wpCQ Γ Ed isAnd k .nil ρ Q = Q (.im (.bool k)) ρ) ∧
  (∀ (Γ : Ctx) (Ed : Ex → En → Prop) (k : Bool) (e : IE) (es : IEs) (ρ : En) (Q : R → En → Prop), wpCQ Γ Ed k k (.cons e es) ρ Q = wpEQ Γ Ed e ρ fun r ρ1 => asBoolQ r fun k' => wpCQ Γ Ed k k' es ρ1 Q) ∧
  (∀ (Γ : Ctx) (Ed : Ex → En → Prop) (e : IE) (es : IEs) (ρ : En) (Q : R → En → Prop), wpCQ Γ Ed true false (.cons e es) ρ Q = Q (.im (.bool false)) ρ) ∧
  (∀ (Γ : Ctx) (Ed : Ex → En → Prop) (e : IE) (es : IEs) (ρ : En) (Q : R → En → Prop), wpCQ Γ Ed false true (.cons e es) ρ Q = Q (.im (.bool true)) ρ) ∧
  (∀ (Γ : Ctx) (Ed : Ex → En → Prop) (k : Bool) (e : IE) (es : IEs) (ρ : En) (Q : R → En → Prop), wpCQ Γ Ed true k (.cons e es) ρ Q = if k = true then wpEQ Γ Ed e ρ fun r ρ1 => asBoolQ r fun k' => wpCQ Γ Ed true k' es ρ1 Q else Q (.im (.bool false)) ρ) ∧
  (∀ (Γ : Ctx) (Ed : Ex → En → Prop) (k : Bool) (e : IE) (es : IEs) (ρ : En) (Q : R → En → Prop), wpCQ Γ Ed false k (.cons e es) ρ Q = if k = true then Q (.im (.bool true)) ρ else wpEQ Γ Ed e ρ fun r ρ1 => asBoolQ r fun k' => wpCQ Γ Ed false k' es ρ1 Q) ∧
  (∀ (Γ : Ctx) (Ed : Ex → En → Prop) (ρ : En) (Q : Option Int → En → Prop), wpOQ Γ Ed .non ρ Q = Q none ρ) ∧
  (∀ (Γ : Ctx) (Ed : Ex → En → Prop) (e : IE) (ρ : En) (Q : Option Int → En → Prop), wpOQ Γ Ed (.som e) ρ Q = wpEQ Γ Ed e ρ fun r ρ1 => intR r fun i => Q (some i) ρ1) ∧
  (∀ (Γ : Ctx) (ρ : En) (Q : Bool → En → Prop), wpO1Q Γ .non ρ Q = Q true ρ) ∧
  (∀ (Γ : Ctx) (e : IE) (ρ : En) (Q : Bool → En → Prop), wpO1Q Γ (.som e) ρ Q = wpEQ Γ noEx e ρ fun r ρ1 => asBoolQ r fun k => Q k ρ1) ∧
  (∀ (Γ : Ctx) (Ed : Ex → En → Prop) (e : IE) (ρ : En) (Q : List D → En → Prop), wpIQ Γ Ed (.seq e) ρ Q = wpEQ Γ Ed e ρ fun r ρ1 => takeRQ ρ1 r fun d ρ2 => itemsDQ d fun ds => Q ds ρ2) ∧
  (∀ (Γ : Ctx) (Ed : Ex → En → Prop) (es : IEs) (ρ : En) (Q : List D → En → Prop), wpIQ Γ Ed (.rg es) ρ Q = wpEsQ Γ Ed es ρ fun rs ρ1 => peekAllQ ρ1 rs fun ds => rngDQ ds fun xs => Q xs ρ1) ∧
  (∀ (Γ : Ctx) (Ed : Ex → En → Prop) (e : IE) (ρ : En) (Q : List D → En → Prop), wpIQ Γ Ed (.enum e) ρ Q = wpEQ Γ Ed e ρ fun r ρ1 => takeRQ ρ1 r fun d ρ2 => itemsDQ d fun ds => Q (enL 0 ds) ρ2) ∧
  (∀ (Γ : Ctx) (Ed : Ex → En → Prop) (a b : IE) (ρ : En) (Q : List D → En → Prop), wpIQ Γ Ed (.zip a b) ρ Q = wpEQ Γ Ed a ρ fun r1 ρ1 => wpEQ Γ Ed b ρ1 fun r2 ρ2 => takeRQ ρ2 r1 fun d1 ρ3 => takeRQ ρ3 r2 fun d2 ρ4 => zipDQ d1 d2 fun ds => Q ds ρ4) ∧
  (∀ (Γ : Ctx) (Ed : Ex → En → Prop) (e : IE) (ρ : En) (F : Fin'), wpSQ Γ Ed (.ex e) ρ F = wpEQ Γ Ed e ρ fun _ ρ1 => F.nx ρ1) ∧
  (∀ (Γ : Ctx) (Ed : Ex → En → Prop) (i : Nat) (e : IE) (ρ : En) (F : Fin'), wpSQ Γ Ed (.asg (.nm i) e) ρ F = wpEQ Γ Ed e ρ fun r ρ1 => slotRQ ρ1 r fun s ρ2 => setK ρ2 i s F.nx) ∧
  (∀ (Γ : Ctx) (Ed : Ex → En → Prop) (ts : ITs) (e : IE) (ρ : En) (F : Fin'), wpSQ Γ Ed (.asg (.tup ts) e) ρ F = wpEQ Γ Ed e ρ fun r ρ1 => takeRQ ρ1 r fun d ρ2 => asgTQ Γ (.tup ts) d ρ2 F.nx) ∧
  (∀ (Γ : Ctx) (Ed : Ex → En → Prop) (i : Nat) (k : IE) (e : IE) (ρ : En) (F : Fin'), wpSQ Γ Ed (.asg (.sub i k) e) ρ F = wpEQ Γ Ed e ρ fun r ρ1 => takeRQ ρ1 r fun d ρ2 => asgTQ Γ (.sub i k) d ρ2 F.nx) ∧
  (∀ (Γ : Ctx) (Ed : Ex → En → Prop) (ts : List Nat) (es : IEs) (ρ : En) (F : Fin'), wpSQ Γ Ed (.par ts es) ρ F = wpEsQ Γ Ed es ρ fun rs ρ1 => slotAllQ ρ1 rs fun ss ρ2 => ss.length = ts.length ∧ setsK ρ2 ts ss F.nx) := ⟨by intros; rfl, by intros; rfl, by intros; rfl, by intros; rfl, by intros; rfl, by intros; rfl, by intros; rfl, by intros; rfl, by intros; rfl, by intros; rfl, by intros; rfl, by intros; rfl, by intros; rfl, by intros; rfl, by intros; rfl, by intros; rfl, by intros; rfl, by intros; rfl, by intros; rfl, by intros; rfl, by intros; rfl, by intros; rfl, by intro Γ Ed k e es ρ Q; show (if k = k then _ else _) = _; rw [if_pos rfl]; rfl, by intros; rfl, by intros; rfl, by intro Γ Ed k e es ρ Q; cases k <;> rfl, by intro Γ Ed k e es ρ Q; cases k <;> rfl, by intros; rfl, by intros; rfl, by intros; rfl, by intros; rfl, by intros; rfl, by intros; rfl, by intro Γ Ed e ρ Q; show (wpE Γ Ed e ρ fun r ρ1 => takeR ρ1 r fun d ρ2 => itemsD d fun ds => Q (ds.zipIdx.map fun p => .tuple [.int (p.2 : Int), p.1]) ρ2) = _; simp only [enL_eq]; rfl, by intros; rfl, by intros; rfl, by intros; rfl, by intros; rfl, by intros; rfl, by intros; rfl⟩
theorem V1 : (∀ (Γ : Ctx) (Ed : Ex → En → Prop) (e : IE) (ρ : En) (F : Fin'), wpSQ Γ Ed (.ret e) ρ F = wpEQ Γ Ed e ρ fun r ρ1 => retRQ ρ1 r F.rt) ∧
  (∀ (Γ : Ctx) (Ed : Ex → En → Prop) (c : IE) (a b : ISs) (ρ : En) (F : Fin'), wpSQ Γ Ed (.ife c a b) ρ F = wpEQ Γ Ed c ρ fun r ρ1 => asBoolQ r fun k => if k = true then wpSsQ Γ Ed a ρ1 F else wpSsQ Γ Ed b ρ1 F) ∧
  (∀ (Γ : Ctx) (Ed : Ex → En → Prop) (t : IT) (it : II) (b : ISs) (ρ : En) (F : Fin'), wpSQ Γ Ed (.for_ t it b) ρ F = wpIQ Γ Ed it ρ fun ds ρ1 => forLQ (bodyF Γ Ed t b) ds ρ1 F) ∧
  (∀ (Γ : Ctx) (Ed : Ex → En → Prop) (c : IE) (b : ISs) (ρ : En) (F : Fin'), wpSQ Γ Ed (.while_ c b) ρ F = ∃ n, whileNQ (condF Γ Ed c) (loopF Γ Ed b) n ρ F) ∧
  (∀ (Γ : Ctx) (Ed : Ex → En → Prop) (ρ : En) (F : Fin'), wpSQ Γ Ed .pass ρ F = F.nx ρ) ∧
  (∀ (Γ : Ctx) (Ed : Ex → En → Prop) (ρ : En) (F : Fin'), wpSQ Γ Ed .brk ρ F = F.bk ρ) ∧
  (∀ (Γ : Ctx) (Ed : Ex → En → Prop) (ρ : En) (F : Fin'), wpSQ Γ Ed .cont ρ F = F.ct ρ) ∧
  (∀ (Γ : Ctx) (Ed : Ex → En → Prop) (ρ : En) (F : Fin'), wpSsQ Γ Ed .nil ρ F = F.nx ρ) ∧
  (∀ (Γ : Ctx) (Ed : Ex → En → Prop) (s : IS) (ss : ISs) (ρ : En) (F : Fin'), wpSsQ Γ Ed (.cons s ss) ρ F = wpSQ Γ Ed s ρ { F with nx := fun ρ1 => wpSsQ Γ Ed ss ρ1 F }) ∧
  (∀ (Γ : Ctx) (Ed : Ex → En → Prop) (t : IT) (b : ISs) (d : D) (ρ : En) (F : Fin'), bodyFQ Γ Ed t b d ρ F = asgTQ Γ t d ρ fun ρ2 => wpSsQ Γ Ed b ρ2 F) ∧
  (∀ (Γ : Ctx) (Ed : Ex → En → Prop) (c : IE) (ρ : En) (K : Bool → En → Prop), condFQ Γ Ed c ρ K = wpEQ Γ Ed c ρ fun r ρ1 => asBoolQ r fun k => K k ρ1) ∧
  (∀ (Γ : Ctx) (Ed : Ex → En → Prop) (b : ISs) (ρ : En) (F : Fin'), loopFQ Γ Ed b ρ F = wpSsQ Γ Ed b ρ F) ∧
  (∀ (Γ : Ctx) (elt : IE) (tg : IT) (d : D) (ρ : En) (K : Option D → En → Prop), stepFQ Γ elt tg .non d ρ K = asgTQ Γ tg d ρ fun ρ2 => wpEQ Γ noEx elt ρ2 fun r ρ4 => takeRQ ρ4 r fun e ρ5 => K (some e) ρ5) ∧
  (∀ (Γ : Ctx) (elt : IE) (tg : IT) (c : IE) (d : D) (ρ : En) (K : Option D → En → Prop), stepFQ Γ elt tg (.som c) d ρ K = asgTQ Γ tg d ρ fun ρ2 => wpEQ Γ noEx c ρ2 fun r ρ3 => asBoolQ r fun b => if b = true then wpEQ Γ noEx elt ρ3 fun r ρ4 => takeRQ ρ4 r fun e ρ5 => K (some e) ρ5 else K none ρ3) ∧
  (∀ (Γ : Ctx) (i : Nat) (d : D) (ρ : En) (K : En → Prop), asgTQ Γ (.nm i) d ρ K = setK ρ i (.im d) K) ∧
  (∀ (Γ : Ctx) (a b : IT) (x y : D) (ρ : En) (K : En → Prop), asgTQ Γ (.tup (.cons a (.cons b .nil))) (.tuple [x, y]) ρ K = asgTQ Γ a x ρ fun ρ1 => asgTQ Γ b y ρ1 K) ∧
  (∀ (Γ : Ctx) (a b c : IT) (x y z : D) (ρ : En) (K : En → Prop), asgTQ Γ (.tup (.cons a (.cons b (.cons c .nil)))) (.tuple [x, y, z]) ρ K = asgTQ Γ a x ρ fun ρ1 => asgTQ Γ b y ρ1 fun ρ2 => asgTQ Γ c z ρ2 K) ∧
  (∀ (Γ : Ctx) (a b c e : IT) (x y z u : D) (ρ : En) (K : En → Prop), asgTQ Γ (.tup (.cons a (.cons b (.cons c (.cons e .nil))))) (.tuple [x, y, z, u]) ρ K = asgTQ Γ a x ρ fun ρ1 => asgTQ Γ b y ρ1 fun ρ2 => asgTQ Γ c z ρ2 fun ρ3 => asgTQ Γ e u ρ3 K) ∧
  (∀ (b : Bool) (K : Bool → Prop), asBoolQ (.im (.bool b)) K = K b) ∧
  (∀ (i : Int) (K : R → Prop), negR (.im (.int i)) K = K (.im (.int (-i)))) ∧
  (∀ (i : Int) (K : Int → Prop), intR (.im (.int i)) K = K i) ∧
  (∀ (ρ : En) (d : D) (K : D → Prop), peekQ ρ (.im d) K = K d) ∧
  (∀ (ρ : En) (d : D) (K : D → En → Prop), takeRQ ρ (.im d) K = K d ρ) ∧
  (∀ (ρ : En) (d : D) (K : Sl → En → Prop), slotRQ ρ (.im d) K = K (.im d) ρ) ∧
  (∀ (ρ : En) (d : D) (K : R → Prop), retRQ ρ (.im d) K = K (.im d)) ∧
  (∀ (ρ : En) (d : D) (rs : List R) (K : List Ar → Prop), argsOfQ ρ (.im d :: rs) K = argsOfQ ρ rs fun as => K (.d d :: as)) ∧
  (∀ (ρ : En) (d : D) (rs : List R) (K : En → Prop), frzK ρ (.im d :: rs) K = frzK ρ rs K) ∧
  (∀ (ρ : En) (d : D) (K : D → Prop), peekQ ρ (.fr d) K = K d) ∧
  (∀ (ρ : En) (d : D) (K : D → En → Prop), takeRQ ρ (.fr d) K = K d ρ) ∧
  (∀ (ρ : En) (d : D) (K : Sl → En → Prop), slotRQ ρ (.fr d) K = K (.ow d) ρ) ∧
  (∀ (ρ : En) (d : D) (K : R → Prop), retRQ ρ (.fr d) K = K (.fr d)) ∧
  (∀ (ρ : En) (d : D) (rs : List R) (K : List Ar → Prop), argsOfQ ρ (.fr d :: rs) K = argsOfQ ρ rs fun as => K (.d d :: as)) ∧
  (∀ (ρ : En) (d : D) (rs : List R) (K : En → Prop), frzK ρ (.fr d :: rs) K = frzK ρ rs K) ∧
  (∀ (ρ : En) (K : Sl → En → Prop), slotRQ ρ .dk K = K .dk ρ) ∧
  (∀ (ρ : En) (K : R → Prop), retRQ ρ .dk K = K .dk) ∧
  (∀ (ρ : En) (rs : List R) (K : List Ar → Prop), argsOfQ ρ (.dk :: rs) K = argsOfQ ρ rs fun as => K (.dk :: as)) ∧
  (∀ (ρ : En) (n : Nat) (rs : List R) (K : List Ar → Prop), argsOfQ ρ (.br n :: rs) K = peekQ ρ (.br n) fun d => argsOfQ ρ rs fun as => K (.d d :: as)) ∧
  (∀ (ρ : En) (K : List Ar → Prop), argsOfQ ρ [] K = K []) ∧
  (∀ (ρ : En) (rs : List R) (K : En → Prop), frzK ρ (.dk :: rs) K = frzK ρ rs K) ∧
  (∀ (ρ : En) (K : En → Prop), frzK ρ [] K = K ρ) := ⟨by intros; rfl, by intros; rfl, by intros; rfl, by intros; rfl, by intros; rfl, by intros; rfl, by intros; rfl, by intros; rfl, by intros; rfl, by intros; rfl, by intros; rfl, by intros; rfl, by intros; rfl, by intros; rfl, by intros; rfl, by intros; exact asgTu2, by intros; exact asgTu3, by intros; exact asgTu4, by intros; rfl, by intros; rfl, by intros; rfl, by intros; rfl, by intros; rfl, by intros; rfl, by intros; rfl, by intros; rfl, by intros; rfl, by intros; rfl, by intros; rfl, by intros; rfl, by intros; rfl, by intros; rfl, by intros; rfl, by intros; rfl, by intros; rfl, by intros; rfl, by intros; rfl, by intros; rfl, by intros; rfl, by intros; rfl⟩
theorem V2 : (∀ (ρ : En) (K : List D → Prop), peekAllQ ρ [] K = K []) ∧
  (∀ (ρ : En) (r : R) (rs : List R) (K : List D → Prop), peekAllQ ρ (r :: rs) K = peekQ ρ r fun d => peekAllQ ρ rs fun ds => K (d :: ds)) ∧
  (∀ (ρ : En) (K : List D → En → Prop), takeAllQ ρ [] K = K [] ρ) ∧
  (∀ (ρ : En) (r : R) (rs : List R) (K : List D → En → Prop), takeAllQ ρ (r :: rs) K = takeRQ ρ r fun d ρ1 => takeAllQ ρ1 rs fun ds ρ2 => K (d :: ds) ρ2) ∧
  (∀ (ρ : En) (K : List Sl → En → Prop), slotAllQ ρ [] K = K [] ρ) ∧
  (∀ (ρ : En) (r : R) (rs : List R) (K : List Sl → En → Prop), slotAllQ ρ (r :: rs) K = slotRQ ρ r fun s ρ1 => slotAllQ ρ1 rs fun ss ρ2 => K (s :: ss) ρ2) ∧
  (∀ (ρ : En) (i : Nat) (is : List Nat) (s : Sl) (ss : List Sl) (K : En → Prop), setsK ρ (i :: is) (s :: ss) K = setK ρ i s fun ρ1 => setsK ρ1 is ss K) ∧
  (∀ (ρ : En) (K : En → Prop), setsK ρ [] [] K = K ρ) ∧
  (∀ (ρ ρ' : En) (K : En → Prop), backK ρ ρ' [] K = K ρ') ∧
  (∀ (ρ ρ' : En) (x : Str) (i : Nat) (ps : List (Str × Nat)) (K : En → Prop), backK ρ ρ' ((x, i) :: ps) K = backK ρ ρ' ps fun ρ2 => setK ρ2 i (backS ρ[i]?) K) ∧
  (∀ (xs : List D) (i : Int) (K : D → Prop), subDQ (.tuple xs) (.int i) K = ixK (atI xs i) K) ∧
  (∀ (xs : List D) (i : Int) (K : D → Prop), subDQ (.list xs) (.int i) K = ixK (atI xs i) K) ∧
  (∀ (d : D) (K : D → Prop), ixK (some d) K = K d) ∧
  (∀ (d : Nat) (K : Nat → Prop), mxK (some d) K = K d) := ⟨by intros; rfl, by intros; rfl, by intros; rfl, by intros; rfl, by intros; rfl, by intros; rfl, by intros; rfl, by intros; rfl, by intros; rfl, by intros; rfl, by intros; rfl, by intros; rfl, by intros; rfl, by intros; rfl⟩
theorem VS0 : (∀ (Γ : Ctx) (Ed : Ex → En → Prop) (d : D) (ρ : En) (Q : R → En → Prop), wpEQ Γ Ed (.var 0) (.im d :: ρ) Q = Q (.im d) (.im d :: ρ)) ∧
  (∀ (Γ : Ctx) (Ed : Ex → En → Prop) (d : D) (ρ : En) (Q : R → En → Prop), wpEQ Γ Ed (.var 0) (.ow d :: ρ) Q = Q (.br 0) (.ow d :: ρ)) ∧
  (∀ (Γ : Ctx) (Ed : Ex → En → Prop) (ρ : En) (Q : R → En → Prop), wpEQ Γ Ed (.var 0) (.dk :: ρ) Q = Q .dk (.dk :: ρ)) ∧
  (∀ (d : D) (ρ : En) (K : D → Prop), peekQ (.ow d :: ρ) (.br 0) K = K d) ∧
  (∀ (d : D) (ρ : En) (K : D → En → Prop), takeRQ (.ow d :: ρ) (.br 0) K = K d (.im d :: ρ)) ∧
  (∀ (d : D) (ρ : En) (K : Sl → En → Prop), slotRQ (.ow d :: ρ) (.br 0) K = K (.im d) (.im d :: ρ)) ∧
  (∀ (d : D) (ρ : En) (K : R → Prop), retRQ (.ow d :: ρ) (.br 0) K = K (.fr d)) ∧
  (∀ (d : D) (ρ : En) (rs : List R) (K : En → Prop), frzK (.ow d :: ρ) (.br 0 :: rs) K = frzK (.im d :: ρ) rs K) ∧
  (∀ (d : D) (ρ : En) (K : D → Prop), peekQ (.im d :: ρ) (.br 0) K = K d) ∧
  (∀ (d : D) (ρ : En) (K : D → En → Prop), takeRQ (.im d :: ρ) (.br 0) K = K d (.im d :: ρ)) ∧
  (∀ (d : D) (ρ : En) (K : Sl → En → Prop), slotRQ (.im d :: ρ) (.br 0) K = K (.im d) (.im d :: ρ)) ∧
  (∀ (d : D) (ρ : En) (K : R → Prop), retRQ (.im d :: ρ) (.br 0) K = K (.im d)) ∧
  (∀ (d : D) (ρ : En) (rs : List R) (K : En → Prop), frzK (.im d :: ρ) (.br 0 :: rs) K = frzK (.im d :: ρ) rs K) ∧
  (∀ (s t : Sl) (ρ : En) (K : En → Prop), setK (s :: ρ) 0 t K = K (t :: ρ)) ∧
  (∀ (Γ : Ctx) (Ed : Ex → En → Prop) (ds : List D) (e : IE) (ρ : En) (Q : R → En → Prop), wpEQ Γ Ed (.app 0 e) (.ow (.list ds) :: ρ) Q = wpEQ Γ Ed e (.ow (.list ds) :: ρ) fun r ρ1 => takeRQ ρ1 r fun d ρ2 => appK ρ2 0 d Q) ∧
  (∀ (ds : List D) (d : D) (ρ : En) (Q : R → En → Prop), appK (.ow (.list ds) :: ρ) 0 d Q = (ds.length < sizeLine ∧ Q (.im .none) (.ow (.list (ds ++ [d])) :: ρ))) ∧
  (∀ (Γ : Ctx) (Ed : Ex → En → Prop) (ds : List D) (e : IE) (ρ : En) (Q : R → En → Prop), wpEQ Γ Ed (.popAt 0 e) (.ow (.list ds) :: ρ) Q = wpEQ Γ Ed e (.ow (.list ds) :: ρ) fun r ρ1 => popK r ρ1 0 Q) ∧
  (∀ (Γ : Ctx) (ds : List D) (k : IE) (d : D) (ρ : En) (K : En → Prop), asgTQ Γ (.sub 0 k) d (.ow (.list ds) :: ρ) K = wpEQ Γ noEx k (.ow (.list ds) :: ρ) fun r ρ1 => stoK r ρ1 0 d K) ∧
  (∀ (ds : List D) (j : Int) (d : D) (ρ : En) (K : En → Prop), stoK (.im (.int j)) (.ow (.list ds) :: ρ) 0 d K = mxK (ixN ds.length j) fun m => K (.ow (.list (ds.set m d)) :: ρ)) ∧
  (∀ (ds : List D) (k : Int) (ρ : En) (Q : R → En → Prop), popK (.im (.int k)) (.ow (.list ds) :: ρ) 0 Q = ((-(2 ^ 63) ≤ k ∧ k < 2 ^ 63) ∧ mxK (seqIndex? k ds.length) fun j => ixK ds[j]? fun d => Q (.im d) (.ow (.list (ds.eraseIdx j)) :: ρ))) ∧
  (∀ (Γ : Ctx) (Ed : Ex → En → Prop) (s0 : Sl) (d : D) (ρ : En) (Q : R → En → Prop), wpEQ Γ Ed (.var 1) (s0 :: .im d :: ρ) Q = Q (.im d) (s0 :: .im d :: ρ)) ∧
  (∀ (Γ : Ctx) (Ed : Ex → En → Prop) (s0 : Sl) (d : D) (ρ : En) (Q : R → En → Prop), wpEQ Γ Ed (.var 1) (s0 :: .ow d :: ρ) Q = Q (.br 1) (s0 :: .ow d :: ρ)) ∧
  (∀ (Γ : Ctx) (Ed : Ex → En → Prop) (s0 : Sl) (ρ : En) (Q : R → En → Prop), wpEQ Γ Ed (.var 1) (s0 :: .dk :: ρ) Q = Q .dk (s0 :: .dk :: ρ)) ∧
  (∀ (s0 : Sl) (d : D) (ρ : En) (K : D → Prop), peekQ (s0 :: .ow d :: ρ) (.br 1) K = K d) ∧
  (∀ (s0 : Sl) (d : D) (ρ : En) (K : D → En → Prop), takeRQ (s0 :: .ow d :: ρ) (.br 1) K = K d (s0 :: .im d :: ρ)) ∧
  (∀ (s0 : Sl) (d : D) (ρ : En) (K : Sl → En → Prop), slotRQ (s0 :: .ow d :: ρ) (.br 1) K = K (.im d) (s0 :: .im d :: ρ)) ∧
  (∀ (s0 : Sl) (d : D) (ρ : En) (K : R → Prop), retRQ (s0 :: .ow d :: ρ) (.br 1) K = K (.fr d)) ∧
  (∀ (s0 : Sl) (d : D) (ρ : En) (rs : List R) (K : En → Prop), frzK (s0 :: .ow d :: ρ) (.br 1 :: rs) K = frzK (s0 :: .im d :: ρ) rs K) ∧
  (∀ (s0 : Sl) (d : D) (ρ : En) (K : D → Prop), peekQ (s0 :: .im d :: ρ) (.br 1) K = K d) ∧
  (∀ (s0 : Sl) (d : D) (ρ : En) (K : D → En → Prop), takeRQ (s0 :: .im d :: ρ) (.br 1) K = K d (s0 :: .im d :: ρ)) ∧
  (∀ (s0 : Sl) (d : D) (ρ : En) (K : Sl → En → Prop), slotRQ (s0 :: .im d :: ρ) (.br 1) K = K (.im d) (s0 :: .im d :: ρ)) ∧
  (∀ (s0 : Sl) (d : D) (ρ : En) (K : R → Prop), retRQ (s0 :: .im d :: ρ) (.br 1) K = K (.im d)) ∧
  (∀ (s0 : Sl) (d : D) (ρ : En) (rs : List R) (K : En → Prop), frzK (s0 :: .im d :: ρ) (.br 1 :: rs) K = frzK (s0 :: .im d :: ρ) rs K) ∧
  (∀ (s0 : Sl) (s t : Sl) (ρ : En) (K : En → Prop), setK (s0 :: s :: ρ) 1 t K = K (s0 :: t :: ρ)) ∧
  (∀ (Γ : Ctx) (Ed : Ex → En → Prop) (s0 : Sl) (ds : List D) (e : IE) (ρ : En) (Q : R → En → Prop), wpEQ Γ Ed (.app 1 e) (s0 :: .ow (.list ds) :: ρ) Q = wpEQ Γ Ed e (s0 :: .ow (.list ds) :: ρ) fun r ρ1 => takeRQ ρ1 r fun d ρ2 => appK ρ2 1 d Q) ∧
  (∀ (s0 : Sl) (ds : List D) (d : D) (ρ : En) (Q : R → En → Prop), appK (s0 :: .ow (.list ds) :: ρ) 1 d Q = (ds.length < sizeLine ∧ Q (.im .none) (s0 :: .ow (.list (ds ++ [d])) :: ρ))) ∧
  (∀ (Γ : Ctx) (Ed : Ex → En → Prop) (s0 : Sl) (ds : List D) (e : IE) (ρ : En) (Q : R → En → Prop), wpEQ Γ Ed (.popAt 1 e) (s0 :: .ow (.list ds) :: ρ) Q = wpEQ Γ Ed e (s0 :: .ow (.list ds) :: ρ) fun r ρ1 => popK r ρ1 1 Q) ∧
  (∀ (Γ : Ctx) (s0 : Sl) (ds : List D) (k : IE) (d : D) (ρ : En) (K : En → Prop), asgTQ Γ (.sub 1 k) d (s0 :: .ow (.list ds) :: ρ) K = wpEQ Γ noEx k (s0 :: .ow (.list ds) :: ρ) fun r ρ1 => stoK r ρ1 1 d K) ∧
  (∀ (s0 : Sl) (ds : List D) (j : Int) (d : D) (ρ : En) (K : En → Prop), stoK (.im (.int j)) (s0 :: .ow (.list ds) :: ρ) 1 d K = mxK (ixN ds.length j) fun m => K (s0 :: .ow (.list (ds.set m d)) :: ρ)) ∧
  (∀ (s0 : Sl) (ds : List D) (k : Int) (ρ : En) (Q : R → En → Prop), popK (.im (.int k)) (s0 :: .ow (.list ds) :: ρ) 1 Q = ((-(2 ^ 63) ≤ k ∧ k < 2 ^ 63) ∧ mxK (seqIndex? k ds.length) fun j => ixK ds[j]? fun d => Q (.im d) (s0 :: .ow (.list (ds.eraseIdx j)) :: ρ))) := ⟨by intros; rfl, by intros; rfl, by intros; rfl, by intros; rfl, by intros; rfl, by intros; rfl, by intros; rfl, by intros; rfl, by intros; rfl, by intros; rfl, by intros; rfl, by intros; rfl, by intros; rfl, by intros; rfl, by intros; exact propext ⟨fun h => h.2, fun h => ⟨⟨_, rfl⟩, h⟩⟩, by intros; rfl, by intros; exact propext ⟨fun h => h.2, fun h => ⟨⟨_, rfl⟩, h⟩⟩, by intros; exact propext ⟨fun h => h.2, fun h => ⟨⟨_, rfl⟩, h⟩⟩, by intros; rfl, by intros; rfl, by intros; rfl, by intros; rfl, by intros; rfl, by intros; rfl, by intros; rfl, by intros; rfl, by intros; rfl, by intros; rfl, by intros; rfl, by intros; rfl, by intros; rfl, by intros; rfl, by intros; rfl, by intros; rfl, by intros; exact propext ⟨fun h => h.2, fun h => ⟨⟨_, rfl⟩, h⟩⟩, by intros; rfl, by intros; exact propext ⟨fun h => h.2, fun h => ⟨⟨_, rfl⟩, h⟩⟩, by intros; exact propext ⟨fun h => h.2, fun h => ⟨⟨_, rfl⟩, h⟩⟩, by intros; rfl, by intros; rfl⟩
theorem VS1 : (∀ (Γ : Ctx) (Ed : Ex → En → Prop) (s0 s1 : Sl) (d : D) (ρ : En) (Q : R → En → Prop), wpEQ Γ Ed (.var 2) (s0 :: s1 :: .im d :: ρ) Q = Q (.im d) (s0 :: s1 :: .im d :: ρ)) ∧
  (∀ (Γ : Ctx) (Ed : Ex → En → Prop) (s0 s1 : Sl) (d : D) (ρ : En) (Q : R → En → Prop), wpEQ Γ Ed (.var 2) (s0 :: s1 :: .ow d :: ρ) Q = Q (.br 2) (s0 :: s1 :: .ow d :: ρ)) ∧
  (∀ (Γ : Ctx) (Ed : Ex → En → Prop) (s0 s1 : Sl) (ρ : En) (Q : R → En → Prop), wpEQ Γ Ed (.var 2) (s0 :: s1 :: .dk :: ρ) Q = Q .dk (s0 :: s1 :: .dk :: ρ)) ∧
  (∀ (s0 s1 : Sl) (d : D) (ρ : En) (K : D → Prop), peekQ (s0 :: s1 :: .ow d :: ρ) (.br 2) K = K d) ∧
  (∀ (s0 s1 : Sl) (d : D) (ρ : En) (K : D → En → Prop), takeRQ (s0 :: s1 :: .ow d :: ρ) (.br 2) K = K d (s0 :: s1 :: .im d :: ρ)) ∧
  (∀ (s0 s1 : Sl) (d : D) (ρ : En) (K : Sl → En → Prop), slotRQ (s0 :: s1 :: .ow d :: ρ) (.br 2) K = K (.im d) (s0 :: s1 :: .im d :: ρ)) ∧
  (∀ (s0 s1 : Sl) (d : D) (ρ : En) (K : R → Prop), retRQ (s0 :: s1 :: .ow d :: ρ) (.br 2) K = K (.fr d)) ∧
  (∀ (s0 s1 : Sl) (d : D) (ρ : En) (rs : List R) (K : En → Prop), frzK (s0 :: s1 :: .ow d :: ρ) (.br 2 :: rs) K = frzK (s0 :: s1 :: .im d :: ρ) rs K) ∧
  (∀ (s0 s1 : Sl) (d : D) (ρ : En) (K : D → Prop), peekQ (s0 :: s1 :: .im d :: ρ) (.br 2) K = K d) ∧
  (∀ (s0 s1 : Sl) (d : D) (ρ : En) (K : D → En → Prop), takeRQ (s0 :: s1 :: .im d :: ρ) (.br 2) K = K d (s0 :: s1 :: .im d :: ρ)) ∧
  (∀ (s0 s1 : Sl) (d : D) (ρ : En) (K : Sl → En → Prop), slotRQ (s0 :: s1 :: .im d :: ρ) (.br 2) K = K (.im d) (s0 :: s1 :: .im d :: ρ)) ∧
  (∀ (s0 s1 : Sl) (d : D) (ρ : En) (K : R → Prop), retRQ (s0 :: s1 :: .im d :: ρ) (.br 2) K = K (.im d)) ∧
  (∀ (s0 s1 : Sl) (d : D) (ρ : En) (rs : List R) (K : En → Prop), frzK (s0 :: s1 :: .im d :: ρ) (.br 2 :: rs) K = frzK (s0 :: s1 :: .im d :: ρ) rs K) ∧
  (∀ (s0 s1 : Sl) (s t : Sl) (ρ : En) (K : En → Prop), setK (s0 :: s1 :: s :: ρ) 2 t K = K (s0 :: s1 :: t :: ρ)) ∧
  (∀ (Γ : Ctx) (Ed : Ex → En → Prop) (s0 s1 : Sl) (ds : List D) (e : IE) (ρ : En) (Q : R → En → Prop), wpEQ Γ Ed (.app 2 e) (s0 :: s1 :: .ow (.list ds) :: ρ) Q = wpEQ Γ Ed e (s0 :: s1 :: .ow (.list ds) :: ρ) fun r ρ1 => takeRQ ρ1 r fun d ρ2 => appK ρ2 2 d Q) ∧
  (∀ (s0 s1 : Sl) (ds : List D) (d : D) (ρ : En) (Q : R → En → Prop), appK (s0 :: s1 :: .ow (.list ds) :: ρ) 2 d Q = (ds.length < sizeLine ∧ Q (.im .none) (s0 :: s1 :: .ow (.list (ds ++ [d])) :: ρ))) ∧
  (∀ (Γ : Ctx) (Ed : Ex → En → Prop) (s0 s1 : Sl) (ds : List D) (e : IE) (ρ : En) (Q : R → En → Prop), wpEQ Γ Ed (.popAt 2 e) (s0 :: s1 :: .ow (.list ds) :: ρ) Q = wpEQ Γ Ed e (s0 :: s1 :: .ow (.list ds) :: ρ) fun r ρ1 => popK r ρ1 2 Q) ∧
  (∀ (Γ : Ctx) (s0 s1 : Sl) (ds : List D) (k : IE) (d : D) (ρ : En) (K : En → Prop), asgTQ Γ (.sub 2 k) d (s0 :: s1 :: .ow (.list ds) :: ρ) K = wpEQ Γ noEx k (s0 :: s1 :: .ow (.list ds) :: ρ) fun r ρ1 => stoK r ρ1 2 d K) ∧
  (∀ (s0 s1 : Sl) (ds : List D) (j : Int) (d : D) (ρ : En) (K : En → Prop), stoK (.im (.int j)) (s0 :: s1 :: .ow (.list ds) :: ρ) 2 d K = mxK (ixN ds.length j) fun m => K (s0 :: s1 :: .ow (.list (ds.set m d)) :: ρ)) ∧
  (∀ (s0 s1 : Sl) (ds : List D) (k : Int) (ρ : En) (Q : R → En → Prop), popK (.im (.int k)) (s0 :: s1 :: .ow (.list ds) :: ρ) 2 Q = ((-(2 ^ 63) ≤ k ∧ k < 2 ^ 63) ∧ mxK (seqIndex? k ds.length) fun j => ixK ds[j]? fun d => Q (.im d) (s0 :: s1 :: .ow (.list (ds.eraseIdx j)) :: ρ))) ∧
  (∀ (Γ : Ctx) (Ed : Ex → En → Prop) (s0 s1 s2 : Sl) (d : D) (ρ : En) (Q : R → En → Prop), wpEQ Γ Ed (.var 3) (s0 :: s1 :: s2 :: .im d :: ρ) Q = Q (.im d) (s0 :: s1 :: s2 :: .im d :: ρ)) ∧
  (∀ (Γ : Ctx) (Ed : Ex → En → Prop) (s0 s1 s2 : Sl) (d : D) (ρ : En) (Q : R → En → Prop), wpEQ Γ Ed (.var 3) (s0 :: s1 :: s2 :: .ow d :: ρ) Q = Q (.br 3) (s0 :: s1 :: s2 :: .ow d :: ρ)) ∧
  (∀ (Γ : Ctx) (Ed : Ex → En → Prop) (s0 s1 s2 : Sl) (ρ : En) (Q : R → En → Prop), wpEQ Γ Ed (.var 3) (s0 :: s1 :: s2 :: .dk :: ρ) Q = Q .dk (s0 :: s1 :: s2 :: .dk :: ρ)) ∧
  (∀ (s0 s1 s2 : Sl) (d : D) (ρ : En) (K : D → Prop), peekQ (s0 :: s1 :: s2 :: .ow d :: ρ) (.br 3) K = K d) ∧
  (∀ (s0 s1 s2 : Sl) (d : D) (ρ : En) (K : D → En → Prop), takeRQ (s0 :: s1 :: s2 :: .ow d :: ρ) (.br 3) K = K d (s0 :: s1 :: s2 :: .im d :: ρ)) ∧
  (∀ (s0 s1 s2 : Sl) (d : D) (ρ : En) (K : Sl → En → Prop), slotRQ (s0 :: s1 :: s2 :: .ow d :: ρ) (.br 3) K = K (.im d) (s0 :: s1 :: s2 :: .im d :: ρ)) ∧
  (∀ (s0 s1 s2 : Sl) (d : D) (ρ : En) (K : R → Prop), retRQ (s0 :: s1 :: s2 :: .ow d :: ρ) (.br 3) K = K (.fr d)) ∧
  (∀ (s0 s1 s2 : Sl) (d : D) (ρ : En) (rs : List R) (K : En → Prop), frzK (s0 :: s1 :: s2 :: .ow d :: ρ) (.br 3 :: rs) K = frzK (s0 :: s1 :: s2 :: .im d :: ρ) rs K) ∧
  (∀ (s0 s1 s2 : Sl) (d : D) (ρ : En) (K : D → Prop), peekQ (s0 :: s1 :: s2 :: .im d :: ρ) (.br 3) K = K d) ∧
  (∀ (s0 s1 s2 : Sl) (d : D) (ρ : En) (K : D → En → Prop), takeRQ (s0 :: s1 :: s2 :: .im d :: ρ) (.br 3) K = K d (s0 :: s1 :: s2 :: .im d :: ρ)) ∧
  (∀ (s0 s1 s2 : Sl) (d : D) (ρ : En) (K : Sl → En → Prop), slotRQ (s0 :: s1 :: s2 :: .im d :: ρ) (.br 3) K = K (.im d) (s0 :: s1 :: s2 :: .im d :: ρ)) ∧
  (∀ (s0 s1 s2 : Sl) (d : D) (ρ : En) (K : R → Prop), retRQ (s0 :: s1 :: s2 :: .im d :: ρ) (.br 3) K = K (.im d)) ∧
  (∀ (s0 s1 s2 : Sl) (d : D) (ρ : En) (rs : List R) (K : En → Prop), frzK (s0 :: s1 :: s2 :: .im d :: ρ) (.br 3 :: rs) K = frzK (s0 :: s1 :: s2 :: .im d :: ρ) rs K) ∧
  (∀ (s0 s1 s2 : Sl) (s t : Sl) (ρ : En) (K : En → Prop), setK (s0 :: s1 :: s2 :: s :: ρ) 3 t K = K (s0 :: s1 :: s2 :: t :: ρ)) ∧
  (∀ (Γ : Ctx) (Ed : Ex → En → Prop) (s0 s1 s2 : Sl) (ds : List D) (e : IE) (ρ : En) (Q : R → En → Prop), wpEQ Γ Ed (.app 3 e) (s0 :: s1 :: s2 :: .ow (.list ds) :: ρ) Q = wpEQ Γ Ed e (s0 :: s1 :: s2 :: .ow (.list ds) :: ρ) fun r ρ1 => takeRQ ρ1 r fun d ρ2 => appK ρ2 3 d Q) ∧
  (∀ (s0 s1 s2 : Sl) (ds : List D) (d : D) (ρ : En) (Q : R → En → Prop), appK (s0 :: s1 :: s2 :: .ow (.list ds) :: ρ) 3 d Q = (ds.length < sizeLine ∧ Q (.im .none) (s0 :: s1 :: s2 :: .ow (.list (ds ++ [d])) :: ρ))) ∧
  (∀ (Γ : Ctx) (Ed : Ex → En → Prop) (s0 s1 s2 : Sl) (ds : List D) (e : IE) (ρ : En) (Q : R → En → Prop), wpEQ Γ Ed (.popAt 3 e) (s0 :: s1 :: s2 :: .ow (.list ds) :: ρ) Q = wpEQ Γ Ed e (s0 :: s1 :: s2 :: .ow (.list ds) :: ρ) fun r ρ1 => popK r ρ1 3 Q) ∧
  (∀ (Γ : Ctx) (s0 s1 s2 : Sl) (ds : List D) (k : IE) (d : D) (ρ : En) (K : En → Prop), asgTQ Γ (.sub 3 k) d (s0 :: s1 :: s2 :: .ow (.list ds) :: ρ) K = wpEQ Γ noEx k (s0 :: s1 :: s2 :: .ow (.list ds) :: ρ) fun r ρ1 => stoK r ρ1 3 d K) ∧
  (∀ (s0 s1 s2 : Sl) (ds : List D) (j : Int) (d : D) (ρ : En) (K : En → Prop), stoK (.im (.int j)) (s0 :: s1 :: s2 :: .ow (.list ds) :: ρ) 3 d K = mxK (ixN ds.length j) fun m => K (s0 :: s1 :: s2 :: .ow (.list (ds.set m d)) :: ρ)) ∧
  (∀ (s0 s1 s2 : Sl) (ds : List D) (k : Int) (ρ : En) (Q : R → En → Prop), popK (.im (.int k)) (s0 :: s1 :: s2 :: .ow (.list ds) :: ρ) 3 Q = ((-(2 ^ 63) ≤ k ∧ k < 2 ^ 63) ∧ mxK (seqIndex? k ds.length) fun j => ixK ds[j]? fun d => Q (.im d) (s0 :: s1 :: s2 :: .ow (.list (ds.eraseIdx j)) :: ρ))) := ⟨by intros; rfl, by intros; rfl, by intros; rfl, by intros; rfl, by intros; rfl, by intros; rfl, by intros; rfl, by intros; rfl, by intros; rfl, by intros; rfl, by intros; rfl, by intros; rfl, by intros; rfl, by intros; rfl, by intros; exact propext ⟨fun h => h.2, fun h => ⟨⟨_, rfl⟩, h⟩⟩, by intros; rfl, by intros; exact propext ⟨fun h => h.2, fun h => ⟨⟨_, rfl⟩, h⟩⟩, by intros; exact propext ⟨fun h => h.2, fun h => ⟨⟨_, rfl⟩, h⟩⟩, by intros; rfl, by intros; rfl, by intros; rfl, by intros; rfl, by intros; rfl, by intros; rfl, by intros; rfl, by intros; rfl, by intros; rfl, by intros; rfl, by intros; rfl, by intros; rfl, by intros; rfl, by intros; rfl, by intros; rfl, by intros; rfl, by intros; exact propext ⟨fun h => h.2, fun h => ⟨⟨_, rfl⟩, h⟩⟩, by intros; rfl, by intros; exact propext ⟨fun h => h.2, fun h => ⟨⟨_, rfl⟩, h⟩⟩, by intros; exact propext ⟨fun h => h.2, fun h => ⟨⟨_, rfl⟩, h⟩⟩, by intros; rfl, by intros; rfl⟩
theorem VS2 : (∀ (Γ : Ctx) (Ed : Ex → En → Prop) (s0 s1 s2 s3 : Sl) (d : D) (ρ : En) (Q : R → En → Prop), wpEQ Γ Ed (.var 4) (s0 :: s1 :: s2 :: s3 :: .im d :: ρ) Q = Q (.im d) (s0 :: s1 :: s2 :: s3 :: .im d :: ρ)) ∧
  (∀ (Γ : Ctx) (Ed : Ex → En → Prop) (s0 s1 s2 s3 : Sl) (d : D) (ρ : En) (Q : R → En → Prop), wpEQ Γ Ed (.var 4) (s0 :: s1 :: s2 :: s3 :: .ow d :: ρ) Q = Q (.br 4) (s0 :: s1 :: s2 :: s3 :: .ow d :: ρ)) ∧
  (∀ (Γ : Ctx) (Ed : Ex → En → Prop) (s0 s1 s2 s3 : Sl) (ρ : En) (Q : R → En → Prop), wpEQ Γ Ed (.var 4) (s0 :: s1 :: s2 :: s3 :: .dk :: ρ) Q = Q .dk (s0 :: s1 :: s2 :: s3 :: .dk :: ρ)) ∧
  (∀ (s0 s1 s2 s3 : Sl) (d : D) (ρ : En) (K : D → Prop), peekQ (s0 :: s1 :: s2 :: s3 :: .ow d :: ρ) (.br 4) K = K d) ∧
  (∀ (s0 s1 s2 s3 : Sl) (d : D) (ρ : En) (K : D → En → Prop), takeRQ (s0 :: s1 :: s2 :: s3 :: .ow d :: ρ) (.br 4) K = K d (s0 :: s1 :: s2 :: s3 :: .im d :: ρ)) ∧
  (∀ (s0 s1 s2 s3 : Sl) (d : D) (ρ : En) (K : Sl → En → Prop), slotRQ (s0 :: s1 :: s2 :: s3 :: .ow d :: ρ) (.br 4) K = K (.im d) (s0 :: s1 :: s2 :: s3 :: .im d :: ρ)) ∧
  (∀ (s0 s1 s2 s3 : Sl) (d : D) (ρ : En) (K : R → Prop), retRQ (s0 :: s1 :: s2 :: s3 :: .ow d :: ρ) (.br 4) K = K (.fr d)) ∧
  (∀ (s0 s1 s2 s3 : Sl) (d : D) (ρ : En) (rs : List R) (K : En → Prop), frzK (s0 :: s1 :: s2 :: s3 :: .ow d :: ρ) (.br 4 :: rs) K = frzK (s0 :: s1 :: s2 :: s3 :: .im d :: ρ) rs K) ∧
  (∀ (s0 s1 s2 s3 : Sl) (d : D) (ρ : En) (K : D → Prop), peekQ (s0 :: s1 :: s2 :: s3 :: .im d :: ρ) (.br 4) K = K d) ∧
  (∀ (s0 s1 s2 s3 : Sl) (d : D) (ρ : En) (K : D → En → Prop), takeRQ (s0 :: s1 :: s2 :: s3 :: .im d :: ρ) (.br 4) K = K d (s0 :: s1 :: s2 :: s3 :: .im d :: ρ)) ∧
  (∀ (s0 s1 s2 s3 : Sl) (d : D) (ρ : En) (K : Sl → En → Prop), slotRQ (s0 :: s1 :: s2 :: s3 :: .im d :: ρ) (.br 4) K = K (.im d) (s0 :: s1 :: s2 :: s3 :: .im d :: ρ)) ∧
  (∀ (s0 s1 s2 s3 : Sl) (d : D) (ρ : En) (K : R → Prop), retRQ (s0 :: s1 :: s2 :: s3 :: .im d :: ρ) (.br 4) K = K (.im d)) ∧
  (∀ (s0 s1 s2 s3 : Sl) (d : D) (ρ : En) (rs : List R) (K : En → Prop), frzK (s0 :: s1 :: s2 :: s3 :: .im d :: ρ) (.br 4 :: rs) K = frzK (s0 :: s1 :: s2 :: s3 :: .im d :: ρ) rs K) ∧
  (∀ (s0 s1 s2 s3 : Sl) (s t : Sl) (ρ : En) (K : En → Prop), setK (s0 :: s1 :: s2 :: s3 :: s :: ρ) 4 t K = K (s0 :: s1 :: s2 :: s3 :: t :: ρ)) ∧
  (∀ (Γ : Ctx) (Ed : Ex → En → Prop) (s0 s1 s2 s3 : Sl) (ds : List D) (e : IE) (ρ : En) (Q : R → En → Prop), wpEQ Γ Ed (.app 4 e) (s0 :: s1 :: s2 :: s3 :: .ow (.list ds) :: ρ) Q = wpEQ Γ Ed e (s0 :: s1 :: s2 :: s3 :: .ow (.list ds) :: ρ) fun r ρ1 => takeRQ ρ1 r fun d ρ2 => appK ρ2 4 d Q) ∧
  (∀ (s0 s1 s2 s3 : Sl) (ds : List D) (d : D) (ρ : En) (Q : R → En → Prop), appK (s0 :: s1 :: s2 :: s3 :: .ow (.list ds) :: ρ) 4 d Q = (ds.length < sizeLine ∧ Q (.im .none) (s0 :: s1 :: s2 :: s3 :: .ow (.list (ds ++ [d])) :: ρ))) ∧
  (∀ (Γ : Ctx) (Ed : Ex → En → Prop) (s0 s1 s2 s3 : Sl) (ds : List D) (e : IE) (ρ : En) (Q : R → En → Prop), wpEQ Γ Ed (.popAt 4 e) (s0 :: s1 :: s2 :: s3 :: .ow (.list ds) :: ρ) Q = wpEQ Γ Ed e (s0 :: s1 :: s2 :: s3 :: .ow (.list ds) :: ρ) fun r ρ1 => popK r ρ1 4 Q) ∧
  (∀ (Γ : Ctx) (s0 s1 s2 s3 : Sl) (ds : List D) (k : IE) (d : D) (ρ : En) (K : En → Prop), asgTQ Γ (.sub 4 k) d (s0 :: s1 :: s2 :: s3 :: .ow (.list ds) :: ρ) K = wpEQ Γ noEx k (s0 :: s1 :: s2 :: s3 :: .ow (.list ds) :: ρ) fun r ρ1 => stoK r ρ1 4 d K) ∧
  (∀ (s0 s1 s2 s3 : Sl) (ds : List D) (j : Int) (d : D) (ρ : En) (K : En → Prop), stoK (.im (.int j)) (s0 :: s1 :: s2 :: s3 :: .ow (.list ds) :: ρ) 4 d K = mxK (ixN ds.length j) fun m => K (s0 :: s1 :: s2 :: s3 :: .ow (.list (ds.set m d)) :: ρ)) ∧
  (∀ (s0 s1 s2 s3 : Sl) (ds : List D) (k : Int) (ρ : En) (Q : R → En → Prop), popK (.im (.int k)) (s0 :: s1 :: s2 :: s3 :: .ow (.list ds) :: ρ) 4 Q = ((-(2 ^ 63) ≤ k ∧ k < 2 ^ 63) ∧ mxK (seqIndex? k ds.length) fun j => ixK ds[j]? fun d => Q (.im d) (s0 :: s1 :: s2 :: s3 :: .ow (.list (ds.eraseIdx j)) :: ρ))) ∧
  (∀ (Γ : Ctx) (Ed : Ex → En → Prop) (s0 s1 s2 s3 s4 : Sl) (d : D) (ρ : En) (Q : R → En → Prop), wpEQ Γ Ed (.var 5) (s0 :: s1 :: s2 :: s3 :: s4 :: .im d :: ρ) Q = Q (.im d) (s0 :: s1 :: s2 :: s3 :: s4 :: .im d :: ρ)) ∧
  (∀ (Γ : Ctx) (Ed : Ex → En → Prop) (s0 s1 s2 s3 s4 : Sl) (d : D) (ρ : En) (Q : R → En → Prop), wpEQ Γ Ed (.var 5) (s0 :: s1 :: s2 :: s3 :: s4 :: .ow d :: ρ) Q = Q (.br 5) (s0 :: s1 :: s2 :: s3 :: s4 :: .ow d :: ρ)) ∧
  (∀ (Γ : Ctx) (Ed : Ex → En → Prop) (s0 s1 s2 s3 s4 : Sl) (ρ : En) (Q : R → En → Prop), wpEQ Γ Ed (.var 5) (s0 :: s1 :: s2 :: s3 :: s4 :: .dk :: ρ) Q = Q .dk (s0 :: s1 :: s2 :: s3 :: s4 :: .dk :: ρ)) ∧
  (∀ (s0 s1 s2 s3 s4 : Sl) (d : D) (ρ : En) (K : D → Prop), peekQ (s0 :: s1 :: s2 :: s3 :: s4 :: .ow d :: ρ) (.br 5) K = K d) ∧
  (∀ (s0 s1 s2 s3 s4 : Sl) (d : D) (ρ : En) (K : D → En → Prop), takeRQ (s0 :: s1 :: s2 :: s3 :: s4 :: .ow d :: ρ) (.br 5) K = K d (s0 :: s1 :: s2 :: s3 :: s4 :: .im d :: ρ)) ∧
  (∀ (s0 s1 s2 s3 s4 : Sl) (d : D) (ρ : En) (K : Sl → En → Prop), slotRQ (s0 :: s1 :: s2 :: s3 :: s4 :: .ow d :: ρ) (.br 5) K = K (.im d) (s0 :: s1 :: s2 :: s3 :: s4 :: .im d :: ρ)) ∧
  (∀ (s0 s1 s2 s3 s4 : Sl) (d : D) (ρ : En) (K : R → Prop), retRQ (s0 :: s1 :: s2 :: s3 :: s4 :: .ow d :: ρ) (.br 5) K = K (.fr d)) ∧
  (∀ (s0 s1 s2 s3 s4 : Sl) (d : D) (ρ : En) (rs : List R) (K : En → Prop), frzK (s0 :: s1 :: s2 :: s3 :: s4 :: .ow d :: ρ) (.br 5 :: rs) K = frzK (s0 :: s1 :: s2 :: s3 :: s4 :: .im d :: ρ) rs K) ∧
  (∀ (s0 s1 s2 s3 s4 : Sl) (d : D) (ρ : En) (K : D → Prop), peekQ (s0 :: s1 :: s2 :: s3 :: s4 :: .im d :: ρ) (.br 5) K = K d) ∧
  (∀ (s0 s1 s2 s3 s4 : Sl) (d : D) (ρ : En) (K : D → En → Prop), takeRQ (s0 :: s1 :: s2 :: s3 :: s4 :: .im d :: ρ) (.br 5) K = K d (s0 :: s1 :: s2 :: s3 :: s4 :: .im d :: ρ)) ∧
  (∀ (s0 s1 s2 s3 s4 : Sl) (d : D) (ρ : En) (K : Sl → En → Prop), slotRQ (s0 :: s1 :: s2 :: s3 :: s4 :: .im d :: ρ) (.br 5) K = K (.im d) (s0 :: s1 :: s2 :: s3 :: s4 :: .im d :: ρ)) ∧
  (∀ (s0 s1 s2 s3 s4 : Sl) (d : D) (ρ : En) (K : R → Prop), retRQ (s0 :: s1 :: s2 :: s3 :: s4 :: .im d :: ρ) (.br 5) K = K (.im d)) ∧
  (∀ (s0 s1 s2 s3 s4 : Sl) (d : D) (ρ : En) (rs : List R) (K : En → Prop), frzK (s0 :: s1 :: s2 :: s3 :: s4 :: .im d :: ρ) (.br 5 :: rs) K = frzK (s0 :: s1 :: s2 :: s3 :: s4 :: .im d :: ρ) rs K) ∧
  (∀ (s0 s1 s2 s3 s4 : Sl) (s t : Sl) (ρ : En) (K : En → Prop), setK (s0 :: s1 :: s2 :: s3 :: s4 :: s :: ρ) 5 t K = K (s0 :: s1 :: s2 :: s3 :: s4 :: t :: ρ)) ∧
  (∀ (Γ : Ctx) (Ed : Ex → En → Prop) (s0 s1 s2 s3 s4 : Sl) (ds : List D) (e : IE) (ρ : En) (Q : R → En → Prop), wpEQ Γ Ed (.app 5 e) (s0 :: s1 :: s2 :: s3 :: s4 :: .ow (.list ds) :: ρ) Q = wpEQ Γ Ed e (s0 :: s1 :: s2 :: s3 :: s4 :: .ow (.list ds) :: ρ) fun r ρ1 => takeRQ ρ1 r fun d ρ2 => appK ρ2 5 d Q) ∧
  (∀ (s0 s1 s2 s3 s4 : Sl) (ds : List D) (d : D) (ρ : En) (Q : R → En → Prop), appK (s0 :: s1 :: s2 :: s3 :: s4 :: .ow (.list ds) :: ρ) 5 d Q = (ds.length < sizeLine ∧ Q (.im .none) (s0 :: s1 :: s2 :: s3 :: s4 :: .ow (.list (ds ++ [d])) :: ρ))) ∧
  (∀ (Γ : Ctx) (Ed : Ex → En → Prop) (s0 s1 s2 s3 s4 : Sl) (ds : List D) (e : IE) (ρ : En) (Q : R → En → Prop), wpEQ Γ Ed (.popAt 5 e) (s0 :: s1 :: s2 :: s3 :: s4 :: .ow (.list ds) :: ρ) Q = wpEQ Γ Ed e (s0 :: s1 :: s2 :: s3 :: s4 :: .ow (.list ds) :: ρ) fun r ρ1 => popK r ρ1 5 Q) ∧
  (∀ (Γ : Ctx) (s0 s1 s2 s3 s4 : Sl) (ds : List D) (k : IE) (d : D) (ρ : En) (K : En → Prop), asgTQ Γ (.sub 5 k) d (s0 :: s1 :: s2 :: s3 :: s4 :: .ow (.list ds) :: ρ) K = wpEQ Γ noEx k (s0 :: s1 :: s2 :: s3 :: s4 :: .ow (.list ds) :: ρ) fun r ρ1 => stoK r ρ1 5 d K) ∧
  (∀ (s0 s1 s2 s3 s4 : Sl) (ds : List D) (j : Int) (d : D) (ρ : En) (K : En → Prop), stoK (.im (.int j)) (s0 :: s1 :: s2 :: s3 :: s4 :: .ow (.list ds) :: ρ) 5 d K = mxK (ixN ds.length j) fun m => K (s0 :: s1 :: s2 :: s3 :: s4 :: .ow (.list (ds.set m d)) :: ρ)) ∧
  (∀ (s0 s1 s2 s3 s4 : Sl) (ds : List D) (k : Int) (ρ : En) (Q : R → En → Prop), popK (.im (.int k)) (s0 :: s1 :: s2 :: s3 :: s4 :: .ow (.list ds) :: ρ) 5 Q = ((-(2 ^ 63) ≤ k ∧ k < 2 ^ 63) ∧ mxK (seqIndex? k ds.length) fun j => ixK ds[j]? fun d => Q (.im d) (s0 :: s1 :: s2 :: s3 :: s4 :: .ow (.list (ds.eraseIdx j)) :: ρ))) := ⟨by intros; rfl, by intros; rfl, by intros; rfl, by intros; rfl, by intros; rfl, by intros; rfl, by intros; rfl, by intros; rfl, by intros; rfl, by intros; rfl, by intros; rfl, by intros; rfl, by intros; rfl, by intros; rfl, by intros; exact propext ⟨fun h => h.2, fun h => ⟨⟨_, rfl⟩, h⟩⟩, by intros; rfl, by intros; exact propext ⟨fun h => h.2, fun h => ⟨⟨_, rfl⟩, h⟩⟩, by intros; exact propext ⟨fun h => h.2, fun h => ⟨⟨_, rfl⟩, h⟩⟩, by intros; rfl, by intros; rfl, by intros; rfl, by intros; rfl, by intros; rfl, by intros; rfl, by intros; rfl, by intros; rfl, by intros; rfl, by intros; rfl, by intros; rfl, by intros; rfl, by intros; rfl, by intros; rfl, by intros; rfl, by intros; rfl, by intros; exact propext ⟨fun h => h.2, fun h => ⟨⟨_, rfl⟩, h⟩⟩, by intros; rfl, by intros; exact propext ⟨fun h => h.2, fun h => ⟨⟨_, rfl⟩, h⟩⟩, by intros; exact propext ⟨fun h => h.2, fun h => ⟨⟨_, rfl⟩, h⟩⟩, by intros; rfl, by intros; rfl⟩
theorem VS3 : (∀ (Γ : Ctx) (Ed : Ex → En → Prop) (s0 s1 s2 s3 s4 s5 : Sl) (d : D) (ρ : En) (Q : R → En → Prop), wpEQ Γ Ed (.var 6) (s0 :: s1 :: s2 :: s3 :: s4 :: s5 :: .im d :: ρ) Q = Q (.im d) (s0 :: s1 :: s2 :: s3 :: s4 :: s5 :: .im d :: ρ)) ∧
  (∀ (Γ : Ctx) (Ed : Ex → En → Prop) (s0 s1 s2 s3 s4 s5 : Sl) (d : D) (ρ : En) (Q : R → En → Prop), wpEQ Γ Ed (.var 6) (s0 :: s1 :: s2 :: s3 :: s4 :: s5 :: .ow d :: ρ) Q = Q (.br 6) (s0 :: s1 :: s2 :: s3 :: s4 :: s5 :: .ow d :: ρ)) ∧
  (∀ (Γ : Ctx) (Ed : Ex → En → Prop) (s0 s1 s2 s3 s4 s5 : Sl) (ρ : En) (Q : R → En → Prop), wpEQ Γ Ed (.var 6) (s0 :: s1 :: s2 :: s3 :: s4 :: s5 :: .dk :: ρ) Q = Q .dk (s0 :: s1 :: s2 :: s3 :: s4 :: s5 :: .dk :: ρ)) ∧
  (∀ (s0 s1 s2 s3 s4 s5 : Sl) (d : D) (ρ : En) (K : D → Prop), peekQ (s0 :: s1 :: s2 :: s3 :: s4 :: s5 :: .ow d :: ρ) (.br 6) K = K d) ∧
  (∀ (s0 s1 s2 s3 s4 s5 : Sl) (d : D) (ρ : En) (K : D → En → Prop), takeRQ (s0 :: s1 :: s2 :: s3 :: s4 :: s5 :: .ow d :: ρ) (.br 6) K = K d (s0 :: s1 :: s2 :: s3 :: s4 :: s5 :: .im d :: ρ)) ∧
  (∀ (s0 s1 s2 s3 s4 s5 : Sl) (d : D) (ρ : En) (K : Sl → En → Prop), slotRQ (s0 :: s1 :: s2 :: s3 :: s4 :: s5 :: .ow d :: ρ) (.br 6) K = K (.im d) (s0 :: s1 :: s2 :: s3 :: s4 :: s5 :: .im d :: ρ)) ∧
  (∀ (s0 s1 s2 s3 s4 s5 : Sl) (d : D) (ρ : En) (K : R → Prop), retRQ (s0 :: s1 :: s2 :: s3 :: s4 :: s5 :: .ow d :: ρ) (.br 6) K = K (.fr d)) ∧
  (∀ (s0 s1 s2 s3 s4 s5 : Sl) (d : D) (ρ : En) (rs : List R) (K : En → Prop), frzK (s0 :: s1 :: s2 :: s3 :: s4 :: s5 :: .ow d :: ρ) (.br 6 :: rs) K = frzK (s0 :: s1 :: s2 :: s3 :: s4 :: s5 :: .im d :: ρ) rs K) ∧
  (∀ (s0 s1 s2 s3 s4 s5 : Sl) (d : D) (ρ : En) (K : D → Prop), peekQ (s0 :: s1 :: s2 :: s3 :: s4 :: s5 :: .im d :: ρ) (.br 6) K = K d) ∧
  (∀ (s0 s1 s2 s3 s4 s5 : Sl) (d : D) (ρ : En) (K : D → En → Prop), takeRQ (s0 :: s1 :: s2 :: s3 :: s4 :: s5 :: .im d :: ρ) (.br 6) K = K d (s0 :: s1 :: s2 :: s3 :: s4 :: s5 :: .im d :: ρ)) ∧
  (∀ (s0 s1 s2 s3 s4 s5 : Sl) (d : D) (ρ : En) (K : Sl → En → Prop), slotRQ (s0 :: s1 :: s2 :: s3 :: s4 :: s5 :: .im d :: ρ) (.br 6) K = K (.im d) (s0 :: s1 :: s2 :: s3 :: s4 :: s5 :: .im d :: ρ)) ∧
  (∀ (s0 s1 s2 s3 s4 s5 : Sl) (d : D) (ρ : En) (K : R → Prop), retRQ (s0 :: s1 :: s2 :: s3 :: s4 :: s5 :: .im d :: ρ) (.br 6) K = K (.im d)) ∧
  (∀ (s0 s1 s2 s3 s4 s5 : Sl) (d : D) (ρ : En) (rs : List R) (K : En → Prop), frzK (s0 :: s1 :: s2 :: s3 :: s4 :: s5 :: .im d :: ρ) (.br 6 :: rs) K = frzK (s0 :: s1 :: s2 :: s3 :: s4 :: s5 :: .im d :: ρ) rs K) ∧
  (∀ (s0 s1 s2 s3 s4 s5 : Sl) (s t : Sl) (ρ : En) (K : En → Prop), setK (s0 :: s1 :: s2 :: s3 :: s4 :: s5 :: s :: ρ) 6 t K = K (s0 :: s1 :: s2 :: s3 :: s4 :: s5 :: t :: ρ)) ∧
  (∀ (Γ : Ctx) (Ed : Ex → En → Prop) (s0 s1 s2 s3 s4 s5 : Sl) (ds : List D) (e : IE) (ρ : En) (Q : R → En → Prop), wpEQ Γ Ed (.app 6 e) (s0 :: s1 :: s2 :: s3 :: s4 :: s5 :: .ow (.list ds) :: ρ) Q = wpEQ Γ Ed e (s0 :: s1 :: s2 :: s3 :: s4 :: s5 :: .ow (.list ds) :: ρ) fun r ρ1 => takeRQ ρ1 r fun d ρ2 => appK ρ2 6 d Q) ∧
  (∀ (s0 s1 s2 s3 s4 s5 : Sl) (ds : List D) (d : D) (ρ : En) (Q : R → En → Prop), appK (s0 :: s1 :: s2 :: s3 :: s4 :: s5 :: .ow (.list ds) :: ρ) 6 d Q = (ds.length < sizeLine ∧ Q (.im .none) (s0 :: s1 :: s2 :: s3 :: s4 :: s5 :: .ow (.list (ds ++ [d])) :: ρ))) ∧
  (∀ (Γ : Ctx) (Ed : Ex → En → Prop) (s0 s1 s2 s3 s4 s5 : Sl) (ds : List D) (e : IE) (ρ : En) (Q : R → En → Prop), wpEQ Γ Ed (.popAt 6 e) (s0 :: s1 :: s2 :: s3 :: s4 :: s5 :: .ow (.list ds) :: ρ) Q = wpEQ Γ Ed e (s0 :: s1 :: s2 :: s3 :: s4 :: s5 :: .ow (.list ds) :: ρ) fun r ρ1 => popK r ρ1 6 Q) ∧
  (∀ (Γ : Ctx) (s0 s1 s2 s3 s4 s5 : Sl) (ds : List D) (k : IE) (d : D) (ρ : En) (K : En → Prop), asgTQ Γ (.sub 6 k) d (s0 :: s1 :: s2 :: s3 :: s4 :: s5 :: .ow (.list ds) :: ρ) K = wpEQ Γ noEx k (s0 :: s1 :: s2 :: s3 :: s4 :: s5 :: .ow (.list ds) :: ρ) fun r ρ1 => stoK r ρ1 6 d K) ∧
  (∀ (s0 s1 s2 s3 s4 s5 : Sl) (ds : List D) (j : Int) (d : D) (ρ : En) (K : En → Prop), stoK (.im (.int j)) (s0 :: s1 :: s2 :: s3 :: s4 :: s5 :: .ow (.list ds) :: ρ) 6 d K = mxK (ixN ds.length j) fun m => K (s0 :: s1 :: s2 :: s3 :: s4 :: s5 :: .ow (.list (ds.set m d)) :: ρ)) ∧
  (∀ (s0 s1 s2 s3 s4 s5 : Sl) (ds : List D) (k : Int) (ρ : En) (Q : R → En → Prop), popK (.im (.int k)) (s0 :: s1 :: s2 :: s3 :: s4 :: s5 :: .ow (.list ds) :: ρ) 6 Q = ((-(2 ^ 63) ≤ k ∧ k < 2 ^ 63) ∧ mxK (seqIndex? k ds.length) fun j => ixK ds[j]? fun d => Q (.im d) (s0 :: s1 :: s2 :: s3 :: s4 :: s5 :: .ow (.list (ds.eraseIdx j)) :: ρ))) ∧
  (∀ (Γ : Ctx) (Ed : Ex → En → Prop) (s0 s1 s2 s3 s4 s5 s6 : Sl) (d : D) (ρ : En) (Q : R → En → Prop), wpEQ Γ Ed (.var 7) (s0 :: s1 :: s2 :: s3 :: s4 :: s5 :: s6 :: .im d :: ρ) Q = Q (.im d) (s0 :: s1 :: s2 :: s3 :: s4 :: s5 :: s6 :: .im d :: ρ)) ∧
  (∀ (Γ : Ctx) (Ed : Ex → En → Prop) (s0 s1 s2 s3 s4 s5 s6 : Sl) (d : D) (ρ : En) (Q : R → En → Prop), wpEQ Γ Ed (.var 7) (s0 :: s1 :: s2 :: s3 :: s4 :: s5 :: s6 :: .ow d :: ρ) Q = Q (.br 7) (s0 :: s1 :: s2 :: s3 :: s4 :: s5 :: s6 :: .ow d :: ρ)) ∧
  (∀ (Γ : Ctx) (Ed : Ex → En → Prop) (s0 s1 s2 s3 s4 s5 s6 : Sl) (ρ : En) (Q : R → En → Prop), wpEQ Γ Ed (.var 7) (s0 :: s1 :: s2 :: s3 :: s4 :: s5 :: s6 :: .dk :: ρ) Q = Q .dk (s0 :: s1 :: s2 :: s3 :: s4 :: s5 :: s6 :: .dk :: ρ)) ∧
  (∀ (s0 s1 s2 s3 s4 s5 s6 : Sl) (d : D) (ρ : En) (K : D → Prop), peekQ (s0 :: s1 :: s2 :: s3 :: s4 :: s5 :: s6 :: .ow d :: ρ) (.br 7) K = K d) ∧
  (∀ (s0 s1 s2 s3 s4 s5 s6 : Sl) (d : D) (ρ : En) (K : D → En → Prop), takeRQ (s0 :: s1 :: s2 :: s3 :: s4 :: s5 :: s6 :: .ow d :: ρ) (.br 7) K = K d (s0 :: s1 :: s2 :: s3 :: s4 :: s5 :: s6 :: .im d :: ρ)) ∧
  (∀ (s0 s1 s2 s3 s4 s5 s6 : Sl) (d : D) (ρ : En) (K : Sl → En → Prop), slotRQ (s0 :: s1 :: s2 :: s3 :: s4 :: s5 :: s6 :: .ow d :: ρ) (.br 7) K = K (.im d) (s0 :: s1 :: s2 :: s3 :: s4 :: s5 :: s6 :: .im d :: ρ)) ∧
  (∀ (s0 s1 s2 s3 s4 s5 s6 : Sl) (d : D) (ρ : En) (K : R → Prop), retRQ (s0 :: s1 :: s2 :: s3 :: s4 :: s5 :: s6 :: .ow d :: ρ) (.br 7) K = K (.fr d)) ∧
  (∀ (s0 s1 s2 s3 s4 s5 s6 : Sl) (d : D) (ρ : En) (rs : List R) (K : En → Prop), frzK (s0 :: s1 :: s2 :: s3 :: s4 :: s5 :: s6 :: .ow d :: ρ) (.br 7 :: rs) K = frzK (s0 :: s1 :: s2 :: s3 :: s4 :: s5 :: s6 :: .im d :: ρ) rs K) ∧
  (∀ (s0 s1 s2 s3 s4 s5 s6 : Sl) (d : D) (ρ : En) (K : D → Prop), peekQ (s0 :: s1 :: s2 :: s3 :: s4 :: s5 :: s6 :: .im d :: ρ) (.br 7) K = K d) ∧
  (∀ (s0 s1 s2 s3 s4 s5 s6 : Sl) (d : D) (ρ : En) (K : D → En → Prop), takeRQ (s0 :: s1 :: s2 :: s3 :: s4 :: s5 :: s6 :: .im d :: ρ) (.br 7) K = K d (s0 :: s1 :: s2 :: s3 :: s4 :: s5 :: s6 :: .im d :: ρ)) ∧
  (∀ (s0 s1 s2 s3 s4 s5 s6 : Sl) (d : D) (ρ : En) (K : Sl → En → Prop), slotRQ (s0 :: s1 :: s2 :: s3 :: s4 :: s5 :: s6 :: .im d :: ρ) (.br 7) K = K (.im d) (s0 :: s1 :: s2 :: s3 :: s4 :: s5 :: s6 :: .im d :: ρ)) ∧
  (∀ (s0 s1 s2 s3 s4 s5 s6 : Sl) (d : D) (ρ : En) (K : R → Prop), retRQ (s0 :: s1 :: s2 :: s3 :: s4 :: s5 :: s6 :: .im d :: ρ) (.br 7) K = K (.im d)) ∧
  (∀ (s0 s1 s2 s3 s4 s5 s6 : Sl) (d : D) (ρ : En) (rs : List R) (K : En → Prop), frzK (s0 :: s1 :: s2 :: s3 :: s4 :: s5 :: s6 :: .im d :: ρ) (.br 7 :: rs) K = frzK (s0 :: s1 :: s2 :: s3 :: s4 :: s5 :: s6 :: .im d :: ρ) rs K) ∧
  (∀ (s0 s1 s2 s3 s4 s5 s6 : Sl) (s t : Sl) (ρ : En) (K : En → Prop), setK (s0 :: s1 :: s2 :: s3 :: s4 :: s5 :: s6 :: s :: ρ) 7 t K = K (s0 :: s1 :: s2 :: s3 :: s4 :: s5 :: s6 :: t :: ρ)) ∧
  (∀ (Γ : Ctx) (Ed : Ex → En → Prop) (s0 s1 s2 s3 s4 s5 s6 : Sl) (ds : List D) (e : IE) (ρ : En) (Q : R → En → Prop), wpEQ Γ Ed (.app 7 e) (s0 :: s1 :: s2 :: s3 :: s4 :: s5 :: s6 :: .ow (.list ds) :: ρ) Q = wpEQ Γ Ed e (s0 :: s1 :: s2 :: s3 :: s4 :: s5 :: s6 :: .ow (.list ds) :: ρ) fun r ρ1 => takeRQ ρ1 r fun d ρ2 => appK ρ2 7 d Q) ∧
  (∀ (s0 s1 s2 s3 s4 s5 s6 : Sl) (ds : List D) (d : D) (ρ : En) (Q : R → En → Prop), appK (s0 :: s1 :: s2 :: s3 :: s4 :: s5 :: s6 :: .ow (.list ds) :: ρ) 7 d Q = (ds.length < sizeLine ∧ Q (.im .none) (s0 :: s1 :: s2 :: s3 :: s4 :: s5 :: s6 :: .ow (.list (ds ++ [d])) :: ρ))) ∧
  (∀ (Γ : Ctx) (Ed : Ex → En → Prop) (s0 s1 s2 s3 s4 s5 s6 : Sl) (ds : List D) (e : IE) (ρ : En) (Q : R → En → Prop), wpEQ Γ Ed (.popAt 7 e) (s0 :: s1 :: s2 :: s3 :: s4 :: s5 :: s6 :: .ow (.list ds) :: ρ) Q = wpEQ Γ Ed e (s0 :: s1 :: s2 :: s3 :: s4 :: s5 :: s6 :: .ow (.list ds) :: ρ) fun r ρ1 => popK r ρ1 7 Q) ∧
  (∀ (Γ : Ctx) (s0 s1 s2 s3 s4 s5 s6 : Sl) (ds : List D) (k : IE) (d : D) (ρ : En) (K : En → Prop), asgTQ Γ (.sub 7 k) d (s0 :: s1 :: s2 :: s3 :: s4 :: s5 :: s6 :: .ow (.list ds) :: ρ) K = wpEQ Γ noEx k (s0 :: s1 :: s2 :: s3 :: s4 :: s5 :: s6 :: .ow (.list ds) :: ρ) fun r ρ1 => stoK r ρ1 7 d K) ∧
  (∀ (s0 s1 s2 s3 s4 s5 s6 : Sl) (ds : List D) (j : Int) (d : D) (ρ : En) (K : En → Prop), stoK (.im (.int j)) (s0 :: s1 :: s2 :: s3 :: s4 :: s5 :: s6 :: .ow (.list ds) :: ρ) 7 d K = mxK (ixN ds.length j) fun m => K (s0 :: s1 :: s2 :: s3 :: s4 :: s5 :: s6 :: .ow (.list (ds.set m d)) :: ρ)) ∧
  (∀ (s0 s1 s2 s3 s4 s5 s6 : Sl) (ds : List D) (k : Int) (ρ : En) (Q : R → En → Prop), popK (.im (.int k)) (s0 :: s1 :: s2 :: s3 :: s4 :: s5 :: s6 :: .ow (.list ds) :: ρ) 7 Q = ((-(2 ^ 63) ≤ k ∧ k < 2 ^ 63) ∧ mxK (seqIndex? k ds.length) fun j => ixK ds[j]? fun d => Q (.im d) (s0 :: s1 :: s2 :: s3 :: s4 :: s5 :: s6 :: .ow (.list (ds.eraseIdx j)) :: ρ))) := ⟨by intros; rfl, by intros; rfl, by intros; rfl, by intros; rfl, by intros; rfl, by intros; rfl, by intros; rfl, by intros; rfl, by intros; rfl, by intros; rfl, by intros; rfl, by intros; rfl, by intros; rfl, by intros; rfl, by intros; exact propext ⟨fun h => h.2, fun h => ⟨⟨_, rfl⟩, h⟩⟩, by intros; rfl, by intros; exact propext ⟨fun h => h.2, fun h => ⟨⟨_, rfl⟩, h⟩⟩, by intros; exact propext ⟨fun h => h.2, fun h => ⟨⟨_, rfl⟩, h⟩⟩, by intros; rfl, by intros; rfl, by intros; rfl, by intros; rfl, by intros; rfl, by intros; rfl, by intros; rfl, by intros; rfl, by intros; rfl, by intros; rfl, by intros; rfl, by intros; rfl, by intros; rfl, by intros; rfl, by intros; rfl, by intros; rfl, by intros; exact propext ⟨fun h => h.2, fun h => ⟨⟨_, rfl⟩, h⟩⟩, by intros; rfl, by intros; exact propext ⟨fun h => h.2, fun h => ⟨⟨_, rfl⟩, h⟩⟩, by intros; exact propext ⟨fun h => h.2, fun h => ⟨⟨_, rfl⟩, h⟩⟩, by intros; rfl, by intros; rfl⟩
theorem VS4 : (∀ (Γ : Ctx) (Ed : Ex → En → Prop) (s0 s1 s2 s3 s4 s5 s6 s7 : Sl) (d : D) (ρ : En) (Q : R → En → Prop), wpEQ Γ Ed (.var 8) (s0 :: s1 :: s2 :: s3 :: s4 :: s5 :: s6 :: s7 :: .im d :: ρ) Q = Q (.im d) (s0 :: s1 :: s2 :: s3 :: s4 :: s5 :: s6 :: s7 :: .im d :: ρ)) ∧
  (∀ (Γ : Ctx) (Ed : Ex → En → Prop) (s0 s1 s2 s3 s4 s5 s6 s7 : Sl) (d : D) (ρ : En) (Q : R → En → Prop), wpEQ Γ Ed (.var 8) (s0 :: s1 :: s2 :: s3 :: s4 :: s5 :: s6 :: s7 :: .ow d :: ρ) Q = Q (.br 8) (s0 :: s1 :: s2 :: s3 :: s4 :: s5 :: s6 :: s7 :: .ow d :: ρ)) ∧
  (∀ (Γ : Ctx) (Ed : Ex → En → Prop) (s0 s1 s2 s3 s4 s5 s6 s7 : Sl) (ρ : En) (Q : R → En → Prop), wpEQ Γ Ed (.var 8) (s0 :: s1 :: s2 :: s3 :: s4 :: s5 :: s6 :: s7 :: .dk :: ρ) Q = Q .dk (s0 :: s1 :: s2 :: s3 :: s4 :: s5 :: s6 :: s7 :: .dk :: ρ)) ∧
  (∀ (s0 s1 s2 s3 s4 s5 s6 s7 : Sl) (d : D) (ρ : En) (K : D → Prop), peekQ (s0 :: s1 :: s2 :: s3 :: s4 :: s5 :: s6 :: s7 :: .ow d :: ρ) (.br 8) K = K d) ∧
  (∀ (s0 s1 s2 s3 s4 s5 s6 s7 : Sl) (d : D) (ρ : En) (K : D → En → Prop), takeRQ (s0 :: s1 :: s2 :: s3 :: s4 :: s5 :: s6 :: s7 :: .ow d :: ρ) (.br 8) K = K d (s0 :: s1 :: s2 :: s3 :: s4 :: s5 :: s6 :: s7 :: .im d :: ρ)) ∧
  (∀ (s0 s1 s2 s3 s4 s5 s6 s7 : Sl) (d : D) (ρ : En) (K : Sl → En → Prop), slotRQ (s0 :: s1 :: s2 :: s3 :: s4 :: s5 :: s6 :: s7 :: .ow d :: ρ) (.br 8) K = K (.im d) (s0 :: s1 :: s2 :: s3 :: s4 :: s5 :: s6 :: s7 :: .im d :: ρ)) ∧
  (∀ (s0 s1 s2 s3 s4 s5 s6 s7 : Sl) (d : D) (ρ : En) (K : R → Prop), retRQ (s0 :: s1 :: s2 :: s3 :: s4 :: s5 :: s6 :: s7 :: .ow d :: ρ) (.br 8) K = K (.fr d)) ∧
  (∀ (s0 s1 s2 s3 s4 s5 s6 s7 : Sl) (d : D) (ρ : En) (rs : List R) (K : En → Prop), frzK (s0 :: s1 :: s2 :: s3 :: s4 :: s5 :: s6 :: s7 :: .ow d :: ρ) (.br 8 :: rs) K = frzK (s0 :: s1 :: s2 :: s3 :: s4 :: s5 :: s6 :: s7 :: .im d :: ρ) rs K) ∧
  (∀ (s0 s1 s2 s3 s4 s5 s6 s7 : Sl) (d : D) (ρ : En) (K : D → Prop), peekQ (s0 :: s1 :: s2 :: s3 :: s4 :: s5 :: s6 :: s7 :: .im d :: ρ) (.br 8) K = K d) ∧
  (∀ (s0 s1 s2 s3 s4 s5 s6 s7 : Sl) (d : D) (ρ : En) (K : D → En → Prop), takeRQ (s0 :: s1 :: s2 :: s3 :: s4 :: s5 :: s6 :: s7 :: .im d :: ρ) (.br 8) K = K d (s0 :: s1 :: s2 :: s3 :: s4 :: s5 :: s6 :: s7 :: .im d :: ρ)) ∧
  (∀ (s0 s1 s2 s3 s4 s5 s6 s7 : Sl) (d : D) (ρ : En) (K : Sl → En → Prop), slotRQ (s0 :: s1 :: s2 :: s3 :: s4 :: s5 :: s6 :: s7 :: .im d :: ρ) (.br 8) K = K (.im d) (s0 :: s1 :: s2 :: s3 :: s4 :: s5 :: s6 :: s7 :: .im d :: ρ)) ∧
  (∀ (s0 s1 s2 s3 s4 s5 s6 s7 : Sl) (d : D) (ρ : En) (K : R → Prop), retRQ (s0 :: s1 :: s2 :: s3 :: s4 :: s5 :: s6 :: s7 :: .im d :: ρ) (.br 8) K = K (.im d)) ∧
  (∀ (s0 s1 s2 s3 s4 s5 s6 s7 : Sl) (d : D) (ρ : En) (rs : List R) (K : En → Prop), frzK (s0 :: s1 :: s2 :: s3 :: s4 :: s5 :: s6 :: s7 :: .im d :: ρ) (.br 8 :: rs) K = frzK (s0 :: s1 :: s2 :: s3 :: s4 :: s5 :: s6 :: s7 :: .im d :: ρ) rs K) ∧
  (∀ (s0 s1 s2 s3 s4 s5 s6 s7 : Sl) (s t : Sl) (ρ : En) (K : En → Prop), setK (s0 :: s1 :: s2 :: s3 :: s4 :: s5 :: s6 :: s7 :: s :: ρ) 8 t K = K (s0 :: s1 :: s2 :: s3 :: s4 :: s5 :: s6 :: s7 :: t :: ρ)) ∧
  (∀ (Γ : Ctx) (Ed : Ex → En → Prop) (s0 s1 s2 s3 s4 s5 s6 s7 : Sl) (ds : List D) (e : IE) (ρ : En) (Q : R → En → Prop), wpEQ Γ Ed (.app 8 e) (s0 :: s1 :: s2 :: s3 :: s4 :: s5 :: s6 :: s7 :: .ow (.list ds) :: ρ) Q = wpEQ Γ Ed e (s0 :: s1 :: s2 :: s3 :: s4 :: s5 :: s6 :: s7 :: .ow (.list ds) :: ρ) fun r ρ1 => takeRQ ρ1 r fun d ρ2 => appK ρ2 8 d Q) ∧
  (∀ (s0 s1 s2 s3 s4 s5 s6 s7 : Sl) (ds : List D) (d : D) (ρ : En) (Q : R → En → Prop), appK (s0 :: s1 :: s2 :: s3 :: s4 :: s5 :: s6 :: s7 :: .ow (.list ds) :: ρ) 8 d Q = (ds.length < sizeLine ∧ Q (.im .none) (s0 :: s1 :: s2 :: s3 :: s4 :: s5 :: s6 :: s7 :: .ow (.list (ds ++ [d])) :: ρ))) ∧
  (∀ (Γ : Ctx) (Ed : Ex → En → Prop) (s0 s1 s2 s3 s4 s5 s6 s7 : Sl) (ds : List D) (e : IE) (ρ : En) (Q : R → En → Prop), wpEQ Γ Ed (.popAt 8 e) (s0 :: s1 :: s2 :: s3 :: s4 :: s5 :: s6 :: s7 :: .ow (.list ds) :: ρ) Q = wpEQ Γ Ed e (s0 :: s1 :: s2 :: s3 :: s4 :: s5 :: s6 :: s7 :: .ow (.list ds) :: ρ) fun r ρ1 => popK r ρ1 8 Q) ∧
  (∀ (Γ : Ctx) (s0 s1 s2 s3 s4 s5 s6 s7 : Sl) (ds : List D) (k : IE) (d : D) (ρ : En) (K : En → Prop), asgTQ Γ (.sub 8 k) d (s0 :: s1 :: s2 :: s3 :: s4 :: s5 :: s6 :: s7 :: .ow (.list ds) :: ρ) K = wpEQ Γ noEx k (s0 :: s1 :: s2 :: s3 :: s4 :: s5 :: s6 :: s7 :: .ow (.list ds) :: ρ) fun r ρ1 => stoK r ρ1 8 d K) ∧
  (∀ (s0 s1 s2 s3 s4 s5 s6 s7 : Sl) (ds : List D) (j : Int) (d : D) (ρ : En) (K : En → Prop), stoK (.im (.int j)) (s0 :: s1 :: s2 :: s3 :: s4 :: s5 :: s6 :: s7 :: .ow (.list ds) :: ρ) 8 d K = mxK (ixN ds.length j) fun m => K (s0 :: s1 :: s2 :: s3 :: s4 :: s5 :: s6 :: s7 :: .ow (.list (ds.set m d)) :: ρ)) ∧
  (∀ (s0 s1 s2 s3 s4 s5 s6 s7 : Sl) (ds : List D) (k : Int) (ρ : En) (Q : R → En → Prop), popK (.im (.int k)) (s0 :: s1 :: s2 :: s3 :: s4 :: s5 :: s6 :: s7 :: .ow (.list ds) :: ρ) 8 Q = ((-(2 ^ 63) ≤ k ∧ k < 2 ^ 63) ∧ mxK (seqIndex? k ds.length) fun j => ixK ds[j]? fun d => Q (.im d) (s0 :: s1 :: s2 :: s3 :: s4 :: s5 :: s6 :: s7 :: .ow (.list (ds.eraseIdx j)) :: ρ))) ∧
  (∀ (Γ : Ctx) (Ed : Ex → En → Prop) (s0 s1 s2 s3 s4 s5 s6 s7 s8 : Sl) (d : D) (ρ : En) (Q : R → En → Prop), wpEQ Γ Ed (.var 9) (s0 :: s1 :: s2 :: s3 :: s4 :: s5 :: s6 :: s7 :: s8 :: .im d :: ρ) Q = Q (.im d) (s0 :: s1 :: s2 :: s3 :: s4 :: s5 :: s6 :: s7 :: s8 :: .im d :: ρ)) ∧
  (∀ (Γ : Ctx) (Ed : Ex → En → Prop) (s0 s1 s2 s3 s4 s5 s6 s7 s8 : Sl) (d : D) (ρ : En) (Q : R → En → Prop), wpEQ Γ Ed (.var 9) (s0 :: s1 :: s2 :: s3 :: s4 :: s5 :: s6 :: s7 :: s8 :: .ow d :: ρ) Q = Q (.br 9) (s0 :: s1 :: s2 :: s3 :: s4 :: s5 :: s6 :: s7 :: s8 :: .ow d :: ρ)) ∧
  (∀ (Γ : Ctx) (Ed : Ex → En → Prop) (s0 s1 s2 s3 s4 s5 s6 s7 s8 : Sl) (ρ : En) (Q : R → En → Prop), wpEQ Γ Ed (.var 9) (s0 :: s1 :: s2 :: s3 :: s4 :: s5 :: s6 :: s7 :: s8 :: .dk :: ρ) Q = Q .dk (s0 :: s1 :: s2 :: s3 :: s4 :: s5 :: s6 :: s7 :: s8 :: .dk :: ρ)) ∧
  (∀ (s0 s1 s2 s3 s4 s5 s6 s7 s8 : Sl) (d : D) (ρ : En) (K : D → Prop), peekQ (s0 :: s1 :: s2 :: s3 :: s4 :: s5 :: s6 :: s7 :: s8 :: .ow d :: ρ) (.br 9) K = K d) ∧
  (∀ (s0 s1 s2 s3 s4 s5 s6 s7 s8 : Sl) (d : D) (ρ : En) (K : D → En → Prop), takeRQ (s0 :: s1 :: s2 :: s3 :: s4 :: s5 :: s6 :: s7 :: s8 :: .ow d :: ρ) (.br 9) K = K d (s0 :: s1 :: s2 :: s3 :: s4 :: s5 :: s6 :: s7 :: s8 :: .im d :: ρ)) ∧
  (∀ (s0 s1 s2 s3 s4 s5 s6 s7 s8 : Sl) (d : D) (ρ : En) (K : Sl → En → Prop), slotRQ (s0 :: s1 :: s2 :: s3 :: s4 :: s5 :: s6 :: s7 :: s8 :: .ow d :: ρ) (.br 9) K = K (.im d) (s0 :: s1 :: s2 :: s3 :: s4 :: s5 :: s6 :: s7 :: s8 :: .im d :: ρ)) ∧
  (∀ (s0 s1 s2 s3 s4 s5 s6 s7 s8 : Sl) (d : D) (ρ : En) (K : R → Prop), retRQ (s0 :: s1 :: s2 :: s3 :: s4 :: s5 :: s6 :: s7 :: s8 :: .ow d :: ρ) (.br 9) K = K (.fr d)) ∧
  (∀ (s0 s1 s2 s3 s4 s5 s6 s7 s8 : Sl) (d : D) (ρ : En) (rs : List R) (K : En → Prop), frzK (s0 :: s1 :: s2 :: s3 :: s4 :: s5 :: s6 :: s7 :: s8 :: .ow d :: ρ) (.br 9 :: rs) K = frzK (s0 :: s1 :: s2 :: s3 :: s4 :: s5 :: s6 :: s7 :: s8 :: .im d :: ρ) rs K) ∧
  (∀ (s0 s1 s2 s3 s4 s5 s6 s7 s8 : Sl) (d : D) (ρ : En) (K : D → Prop), peekQ (s0 :: s1 :: s2 :: s3 :: s4 :: s5 :: s6 :: s7 :: s8 :: .im d :: ρ) (.br 9) K = K d) ∧
  (∀ (s0 s1 s2 s3 s4 s5 s6 s7 s8 : Sl) (d : D) (ρ : En) (K : D → En → Prop), takeRQ (s0 :: s1 :: s2 :: s3 :: s4 :: s5 :: s6 :: s7 :: s8 :: .im d :: ρ) (.br 9) K = K d (s0 :: s1 :: s2 :: s3 :: s4 :: s5 :: s6 :: s7 :: s8 :: .im d :: ρ)) ∧
  (∀ (s0 s1 s2 s3 s4 s5 s6 s7 s8 : Sl) (d : D) (ρ : En) (K : Sl → En → Prop), slotRQ (s0 :: s1 :: s2 :: s3 :: s4 :: s5 :: s6 :: s7 :: s8 :: .im d :: ρ) (.br 9) K = K (.im d) (s0 :: s1 :: s2 :: s3 :: s4 :: s5 :: s6 :: s7 :: s8 :: .im d :: ρ)) ∧
  (∀ (s0 s1 s2 s3 s4 s5 s6 s7 s8 : Sl) (d : D) (ρ : En) (K : R → Prop), retRQ (s0 :: s1 :: s2 :: s3 :: s4 :: s5 :: s6 :: s7 :: s8 :: .im d :: ρ) (.br 9) K = K (.im d)) ∧
  (∀ (s0 s1 s2 s3 s4 s5 s6 s7 s8 : Sl) (d : D) (ρ : En) (rs : List R) (K : En → Prop), frzK (s0 :: s1 :: s2 :: s3 :: s4 :: s5 :: s6 :: s7 :: s8 :: .im d :: ρ) (.br 9 :: rs) K = frzK (s0 :: s1 :: s2 :: s3 :: s4 :: s5 :: s6 :: s7 :: s8 :: .im d :: ρ) rs K) ∧
  (∀ (s0 s1 s2 s3 s4 s5 s6 s7 s8 : Sl) (s t : Sl) (ρ : En) (K : En → Prop), setK (s0 :: s1 :: s2 :: s3 :: s4 :: s5 :: s6 :: s7 :: s8 :: s :: ρ) 9 t K = K (s0 :: s1 :: s2 :: s3 :: s4 :: s5 :: s6 :: s7 :: s8 :: t :: ρ)) ∧
  (∀ (Γ : Ctx) (Ed : Ex → En → Prop) (s0 s1 s2 s3 s4 s5 s6 s7 s8 : Sl) (ds : List D) (e : IE) (ρ : En) (Q : R → En → Prop), wpEQ Γ Ed (.app 9 e) (s0 :: s1 :: s2 :: s3 :: s4 :: s5 :: s6 :: s7 :: s8 :: .ow (.list ds) :: ρ) Q = wpEQ Γ Ed e (s0 :: s1 :: s2 :: s3 :: s4 :: s5 :: s6 :: s7 :: s8 :: .ow (.list ds) :: ρ) fun r ρ1 => takeRQ ρ1 r fun d ρ2 => appK ρ2 9 d Q) ∧
  (∀ (s0 s1 s2 s3 s4 s5 s6 s7 s8 : Sl) (ds : List D) (d : D) (ρ : En) (Q : R → En → Prop), appK (s0 :: s1 :: s2 :: s3 :: s4 :: s5 :: s6 :: s7 :: s8 :: .ow (.list ds) :: ρ) 9 d Q = (ds.length < sizeLine ∧ Q (.im .none) (s0 :: s1 :: s2 :: s3 :: s4 :: s5 :: s6 :: s7 :: s8 :: .ow (.list (ds ++ [d])) :: ρ))) ∧
  (∀ (Γ : Ctx) (Ed : Ex → En → Prop) (s0 s1 s2 s3 s4 s5 s6 s7 s8 : Sl) (ds : List D) (e : IE) (ρ : En) (Q : R → En → Prop), wpEQ Γ Ed (.popAt 9 e) (s0 :: s1 :: s2 :: s3 :: s4 :: s5 :: s6 :: s7 :: s8 :: .ow (.list ds) :: ρ) Q = wpEQ Γ Ed e (s0 :: s1 :: s2 :: s3 :: s4 :: s5 :: s6 :: s7 :: s8 :: .ow (.list ds) :: ρ) fun r ρ1 => popK r ρ1 9 Q) ∧
  (∀ (Γ : Ctx) (s0 s1 s2 s3 s4 s5 s6 s7 s8 : Sl) (ds : List D) (k : IE) (d : D) (ρ : En) (K : En → Prop), asgTQ Γ (.sub 9 k) d (s0 :: s1 :: s2 :: s3 :: s4 :: s5 :: s6 :: s7 :: s8 :: .ow (.list ds) :: ρ) K = wpEQ Γ noEx k (s0 :: s1 :: s2 :: s3 :: s4 :: s5 :: s6 :: s7 :: s8 :: .ow (.list ds) :: ρ) fun r ρ1 => stoK r ρ1 9 d K) ∧
  (∀ (s0 s1 s2 s3 s4 s5 s6 s7 s8 : Sl) (ds : List D) (j : Int) (d : D) (ρ : En) (K : En → Prop), stoK (.im (.int j)) (s0 :: s1 :: s2 :: s3 :: s4 :: s5 :: s6 :: s7 :: s8 :: .ow (.list ds) :: ρ) 9 d K = mxK (ixN ds.length j) fun m => K (s0 :: s1 :: s2 :: s3 :: s4 :: s5 :: s6 :: s7 :: s8 :: .ow (.list (ds.set m d)) :: ρ)) ∧
  (∀ (s0 s1 s2 s3 s4 s5 s6 s7 s8 : Sl) (ds : List D) (k : Int) (ρ : En) (Q : R → En → Prop), popK (.im (.int k)) (s0 :: s1 :: s2 :: s3 :: s4 :: s5 :: s6 :: s7 :: s8 :: .ow (.list ds) :: ρ) 9 Q = ((-(2 ^ 63) ≤ k ∧ k < 2 ^ 63) ∧ mxK (seqIndex? k ds.length) fun j => ixK ds[j]? fun d => Q (.im d) (s0 :: s1 :: s2 :: s3 :: s4 :: s5 :: s6 :: s7 :: s8 :: .ow (.list (ds.eraseIdx j)) :: ρ))) := ⟨by intros; rfl, by intros; rfl, by intros; rfl, by intros; rfl, by intros; rfl, by intros; rfl, by intros; rfl, by intros; rfl, by intros; rfl, by intros; rfl, by intros; rfl, by intros; rfl, by intros; rfl, by intros; rfl, by intros; exact propext ⟨fun h => h.2, fun h => ⟨⟨_, rfl⟩, h⟩⟩, by intros; rfl, by intros; exact propext ⟨fun h => h.2, fun h => ⟨⟨_, rfl⟩, h⟩⟩, by intros; exact propext ⟨fun h => h.2, fun h => ⟨⟨_, rfl⟩, h⟩⟩, by intros; rfl, by intros; rfl, by intros; rfl, by intros; rfl, by intros; rfl, by intros; rfl, by intros; rfl, by intros; rfl, by intros; rfl, by intros; rfl, by intros; rfl, by intros; rfl, by intros; rfl, by intros; rfl, by intros; rfl, by intros; rfl, by intros; exact propext ⟨fun h => h.2, fun h => ⟨⟨_, rfl⟩, h⟩⟩, by intros; rfl, by intros; exact propext ⟨fun h => h.2, fun h => ⟨⟨_, rfl⟩, h⟩⟩, by intros; exact propext ⟨fun h => h.2, fun h => ⟨⟨_, rfl⟩, h⟩⟩, by intros; rfl, by intros; rfl⟩
theorem VS5 : (∀ (Γ : Ctx) (Ed : Ex → En → Prop) (s0 s1 s2 s3 s4 s5 s6 s7 s8 s9 : Sl) (d : D) (ρ : En) (Q : R → En → Prop), wpEQ Γ Ed (.var 10) (s0 :: s1 :: s2 :: s3 :: s4 :: s5 :: s6 :: s7 :: s8 :: s9 :: .im d :: ρ) Q = Q (.im d) (s0 :: s1 :: s2 :: s3 :: s4 :: s5 :: s6 :: s7 :: s8 :: s9 :: .im d :: ρ)) ∧
  (∀ (Γ : Ctx) (Ed : Ex → En → Prop) (s0 s1 s2 s3 s4 s5 s6 s7 s8 s9 : Sl) (d : D) (ρ : En) (Q : R → En → Prop), wpEQ Γ Ed (.var 10) (s0 :: s1 :: s2 :: s3 :: s4 :: s5 :: s6 :: s7 :: s8 :: s9 :: .ow d :: ρ) Q = Q (.br 10) (s0 :: s1 :: s2 :: s3 :: s4 :: s5 :: s6 :: s7 :: s8 :: s9 :: .ow d :: ρ)) ∧
  (∀ (Γ : Ctx) (Ed : Ex → En → Prop) (s0 s1 s2 s3 s4 s5 s6 s7 s8 s9 : Sl) (ρ : En) (Q : R → En → Prop), wpEQ Γ Ed (.var 10) (s0 :: s1 :: s2 :: s3 :: s4 :: s5 :: s6 :: s7 :: s8 :: s9 :: .dk :: ρ) Q = Q .dk (s0 :: s1 :: s2 :: s3 :: s4 :: s5 :: s6 :: s7 :: s8 :: s9 :: .dk :: ρ)) ∧
  (∀ (s0 s1 s2 s3 s4 s5 s6 s7 s8 s9 : Sl) (d : D) (ρ : En) (K : D → Prop), peekQ (s0 :: s1 :: s2 :: s3 :: s4 :: s5 :: s6 :: s7 :: s8 :: s9 :: .ow d :: ρ) (.br 10) K = K d) ∧
  (∀ (s0 s1 s2 s3 s4 s5 s6 s7 s8 s9 : Sl) (d : D) (ρ : En) (K : D → En → Prop), takeRQ (s0 :: s1 :: s2 :: s3 :: s4 :: s5 :: s6 :: s7 :: s8 :: s9 :: .ow d :: ρ) (.br 10) K = K d (s0 :: s1 :: s2 :: s3 :: s4 :: s5 :: s6 :: s7 :: s8 :: s9 :: .im d :: ρ)) ∧
  (∀ (s0 s1 s2 s3 s4 s5 s6 s7 s8 s9 : Sl) (d : D) (ρ : En) (K : Sl → En → Prop), slotRQ (s0 :: s1 :: s2 :: s3 :: s4 :: s5 :: s6 :: s7 :: s8 :: s9 :: .ow d :: ρ) (.br 10) K = K (.im d) (s0 :: s1 :: s2 :: s3 :: s4 :: s5 :: s6 :: s7 :: s8 :: s9 :: .im d :: ρ)) ∧
  (∀ (s0 s1 s2 s3 s4 s5 s6 s7 s8 s9 : Sl) (d : D) (ρ : En) (K : R → Prop), retRQ (s0 :: s1 :: s2 :: s3 :: s4 :: s5 :: s6 :: s7 :: s8 :: s9 :: .ow d :: ρ) (.br 10) K = K (.fr d)) ∧
  (∀ (s0 s1 s2 s3 s4 s5 s6 s7 s8 s9 : Sl) (d : D) (ρ : En) (rs : List R) (K : En → Prop), frzK (s0 :: s1 :: s2 :: s3 :: s4 :: s5 :: s6 :: s7 :: s8 :: s9 :: .ow d :: ρ) (.br 10 :: rs) K = frzK (s0 :: s1 :: s2 :: s3 :: s4 :: s5 :: s6 :: s7 :: s8 :: s9 :: .im d :: ρ) rs K) ∧
  (∀ (s0 s1 s2 s3 s4 s5 s6 s7 s8 s9 : Sl) (d : D) (ρ : En) (K : D → Prop), peekQ (s0 :: s1 :: s2 :: s3 :: s4 :: s5 :: s6 :: s7 :: s8 :: s9 :: .im d :: ρ) (.br 10) K = K d) ∧
  (∀ (s0 s1 s2 s3 s4 s5 s6 s7 s8 s9 : Sl) (d : D) (ρ : En) (K : D → En → Prop), takeRQ (s0 :: s1 :: s2 :: s3 :: s4 :: s5 :: s6 :: s7 :: s8 :: s9 :: .im d :: ρ) (.br 10) K = K d (s0 :: s1 :: s2 :: s3 :: s4 :: s5 :: s6 :: s7 :: s8 :: s9 :: .im d :: ρ)) ∧
  (∀ (s0 s1 s2 s3 s4 s5 s6 s7 s8 s9 : Sl) (d : D) (ρ : En) (K : Sl → En → Prop), slotRQ (s0 :: s1 :: s2 :: s3 :: s4 :: s5 :: s6 :: s7 :: s8 :: s9 :: .im d :: ρ) (.br 10) K = K (.im d) (s0 :: s1 :: s2 :: s3 :: s4 :: s5 :: s6 :: s7 :: s8 :: s9 :: .im d :: ρ)) ∧
  (∀ (s0 s1 s2 s3 s4 s5 s6 s7 s8 s9 : Sl) (d : D) (ρ : En) (K : R → Prop), retRQ (s0 :: s1 :: s2 :: s3 :: s4 :: s5 :: s6 :: s7 :: s8 :: s9 :: .im d :: ρ) (.br 10) K = K (.im d)) ∧
  (∀ (s0 s1 s2 s3 s4 s5 s6 s7 s8 s9 : Sl) (d : D) (ρ : En) (rs : List R) (K : En → Prop), frzK (s0 :: s1 :: s2 :: s3 :: s4 :: s5 :: s6 :: s7 :: s8 :: s9 :: .im d :: ρ) (.br 10 :: rs) K = frzK (s0 :: s1 :: s2 :: s3 :: s4 :: s5 :: s6 :: s7 :: s8 :: s9 :: .im d :: ρ) rs K) ∧
  (∀ (s0 s1 s2 s3 s4 s5 s6 s7 s8 s9 : Sl) (s t : Sl) (ρ : En) (K : En → Prop), setK (s0 :: s1 :: s2 :: s3 :: s4 :: s5 :: s6 :: s7 :: s8 :: s9 :: s :: ρ) 10 t K = K (s0 :: s1 :: s2 :: s3 :: s4 :: s5 :: s6 :: s7 :: s8 :: s9 :: t :: ρ)) ∧
  (∀ (Γ : Ctx) (Ed : Ex → En → Prop) (s0 s1 s2 s3 s4 s5 s6 s7 s8 s9 : Sl) (ds : List D) (e : IE) (ρ : En) (Q : R → En → Prop), wpEQ Γ Ed (.app 10 e) (s0 :: s1 :: s2 :: s3 :: s4 :: s5 :: s6 :: s7 :: s8 :: s9 :: .ow (.list ds) :: ρ) Q = wpEQ Γ Ed e (s0 :: s1 :: s2 :: s3 :: s4 :: s5 :: s6 :: s7 :: s8 :: s9 :: .ow (.list ds) :: ρ) fun r ρ1 => takeRQ ρ1 r fun d ρ2 => appK ρ2 10 d Q) ∧
  (∀ (s0 s1 s2 s3 s4 s5 s6 s7 s8 s9 : Sl) (ds : List D) (d : D) (ρ : En) (Q : R → En → Prop), appK (s0 :: s1 :: s2 :: s3 :: s4 :: s5 :: s6 :: s7 :: s8 :: s9 :: .ow (.list ds) :: ρ) 10 d Q = (ds.length < sizeLine ∧ Q (.im .none) (s0 :: s1 :: s2 :: s3 :: s4 :: s5 :: s6 :: s7 :: s8 :: s9 :: .ow (.list (ds ++ [d])) :: ρ))) ∧
  (∀ (Γ : Ctx) (Ed : Ex → En → Prop) (s0 s1 s2 s3 s4 s5 s6 s7 s8 s9 : Sl) (ds : List D) (e : IE) (ρ : En) (Q : R → En → Prop), wpEQ Γ Ed (.popAt 10 e) (s0 :: s1 :: s2 :: s3 :: s4 :: s5 :: s6 :: s7 :: s8 :: s9 :: .ow (.list ds) :: ρ) Q = wpEQ Γ Ed e (s0 :: s1 :: s2 :: s3 :: s4 :: s5 :: s6 :: s7 :: s8 :: s9 :: .ow (.list ds) :: ρ) fun r ρ1 => popK r ρ1 10 Q) ∧
  (∀ (Γ : Ctx) (s0 s1 s2 s3 s4 s5 s6 s7 s8 s9 : Sl) (ds : List D) (k : IE) (d : D) (ρ : En) (K : En → Prop), asgTQ Γ (.sub 10 k) d (s0 :: s1 :: s2 :: s3 :: s4 :: s5 :: s6 :: s7 :: s8 :: s9 :: .ow (.list ds) :: ρ) K = wpEQ Γ noEx k (s0 :: s1 :: s2 :: s3 :: s4 :: s5 :: s6 :: s7 :: s8 :: s9 :: .ow (.list ds) :: ρ) fun r ρ1 => stoK r ρ1 10 d K) ∧
  (∀ (s0 s1 s2 s3 s4 s5 s6 s7 s8 s9 : Sl) (ds : List D) (j : Int) (d : D) (ρ : En) (K : En → Prop), stoK (.im (.int j)) (s0 :: s1 :: s2 :: s3 :: s4 :: s5 :: s6 :: s7 :: s8 :: s9 :: .ow (.list ds) :: ρ) 10 d K = mxK (ixN ds.length j) fun m => K (s0 :: s1 :: s2 :: s3 :: s4 :: s5 :: s6 :: s7 :: s8 :: s9 :: .ow (.list (ds.set m d)) :: ρ)) ∧
  (∀ (s0 s1 s2 s3 s4 s5 s6 s7 s8 s9 : Sl) (ds : List D) (k : Int) (ρ : En) (Q : R → En → Prop), popK (.im (.int k)) (s0 :: s1 :: s2 :: s3 :: s4 :: s5 :: s6 :: s7 :: s8 :: s9 :: .ow (.list ds) :: ρ) 10 Q = ((-(2 ^ 63) ≤ k ∧ k < 2 ^ 63) ∧ mxK (seqIndex? k ds.length) fun j => ixK ds[j]? fun d => Q (.im d) (s0 :: s1 :: s2 :: s3 :: s4 :: s5 :: s6 :: s7 :: s8 :: s9 :: .ow (.list (ds.eraseIdx j)) :: ρ))) ∧
  (∀ (Γ : Ctx) (Ed : Ex → En → Prop) (s0 s1 s2 s3 s4 s5 s6 s7 s8 s9 s10 : Sl) (d : D) (ρ : En) (Q : R → En → Prop), wpEQ Γ Ed (.var 11) (s0 :: s1 :: s2 :: s3 :: s4 :: s5 :: s6 :: s7 :: s8 :: s9 :: s10 :: .im d :: ρ) Q = Q (.im d) (s0 :: s1 :: s2 :: s3 :: s4 :: s5 :: s6 :: s7 :: s8 :: s9 :: s10 :: .im d :: ρ)) ∧
  (∀ (Γ : Ctx) (Ed : Ex → En → Prop) (s0 s1 s2 s3 s4 s5 s6 s7 s8 s9 s10 : Sl) (d : D) (ρ : En) (Q : R → En → Prop), wpEQ Γ Ed (.var 11) (s0 :: s1 :: s2 :: s3 :: s4 :: s5 :: s6 :: s7 :: s8 :: s9 :: s10 :: .ow d :: ρ) Q = Q (.br 11) (s0 :: s1 :: s2 :: s3 :: s4 :: s5 :: s6 :: s7 :: s8 :: s9 :: s10 :: .ow d :: ρ)) ∧
  (∀ (Γ : Ctx) (Ed : Ex → En → Prop) (s0 s1 s2 s3 s4 s5 s6 s7 s8 s9 s10 : Sl) (ρ : En) (Q : R → En → Prop), wpEQ Γ Ed (.var 11) (s0 :: s1 :: s2 :: s3 :: s4 :: s5 :: s6 :: s7 :: s8 :: s9 :: s10 :: .dk :: ρ) Q = Q .dk (s0 :: s1 :: s2 :: s3 :: s4 :: s5 :: s6 :: s7 :: s8 :: s9 :: s10 :: .dk :: ρ)) ∧
  (∀ (s0 s1 s2 s3 s4 s5 s6 s7 s8 s9 s10 : Sl) (d : D) (ρ : En) (K : D → Prop), peekQ (s0 :: s1 :: s2 :: s3 :: s4 :: s5 :: s6 :: s7 :: s8 :: s9 :: s10 :: .ow d :: ρ) (.br 11) K = K d) ∧
  (∀ (s0 s1 s2 s3 s4 s5 s6 s7 s8 s9 s10 : Sl) (d : D) (ρ : En) (K : D → En → Prop), takeRQ (s0 :: s1 :: s2 :: s3 :: s4 :: s5 :: s6 :: s7 :: s8 :: s9 :: s10 :: .ow d :: ρ) (.br 11) K = K d (s0 :: s1 :: s2 :: s3 :: s4 :: s5 :: s6 :: s7 :: s8 :: s9 :: s10 :: .im d :: ρ)) ∧
  (∀ (s0 s1 s2 s3 s4 s5 s6 s7 s8 s9 s10 : Sl) (d : D) (ρ : En) (K : Sl → En → Prop), slotRQ (s0 :: s1 :: s2 :: s3 :: s4 :: s5 :: s6 :: s7 :: s8 :: s9 :: s10 :: .ow d :: ρ) (.br 11) K = K (.im d) (s0 :: s1 :: s2 :: s3 :: s4 :: s5 :: s6 :: s7 :: s8 :: s9 :: s10 :: .im d :: ρ)) ∧
  (∀ (s0 s1 s2 s3 s4 s5 s6 s7 s8 s9 s10 : Sl) (d : D) (ρ : En) (K : R → Prop), retRQ (s0 :: s1 :: s2 :: s3 :: s4 :: s5 :: s6 :: s7 :: s8 :: s9 :: s10 :: .ow d :: ρ) (.br 11) K = K (.fr d)) ∧
  (∀ (s0 s1 s2 s3 s4 s5 s6 s7 s8 s9 s10 : Sl) (d : D) (ρ : En) (rs : List R) (K : En → Prop), frzK (s0 :: s1 :: s2 :: s3 :: s4 :: s5 :: s6 :: s7 :: s8 :: s9 :: s10 :: .ow d :: ρ) (.br 11 :: rs) K = frzK (s0 :: s1 :: s2 :: s3 :: s4 :: s5 :: s6 :: s7 :: s8 :: s9 :: s10 :: .im d :: ρ) rs K) ∧
  (∀ (s0 s1 s2 s3 s4 s5 s6 s7 s8 s9 s10 : Sl) (d : D) (ρ : En) (K : D → Prop), peekQ (s0 :: s1 :: s2 :: s3 :: s4 :: s5 :: s6 :: s7 :: s8 :: s9 :: s10 :: .im d :: ρ) (.br 11) K = K d) ∧
  (∀ (s0 s1 s2 s3 s4 s5 s6 s7 s8 s9 s10 : Sl) (d : D) (ρ : En) (K : D → En → Prop), takeRQ (s0 :: s1 :: s2 :: s3 :: s4 :: s5 :: s6 :: s7 :: s8 :: s9 :: s10 :: .im d :: ρ) (.br 11) K = K d (s0 :: s1 :: s2 :: s3 :: s4 :: s5 :: s6 :: s7 :: s8 :: s9 :: s10 :: .im d :: ρ)) ∧
  (∀ (s0 s1 s2 s3 s4 s5 s6 s7 s8 s9 s10 : Sl) (d : D) (ρ : En) (K : Sl → En → Prop), slotRQ (s0 :: s1 :: s2 :: s3 :: s4 :: s5 :: s6 :: s7 :: s8 :: s9 :: s10 :: .im d :: ρ) (.br 11) K = K (.im d) (s0 :: s1 :: s2 :: s3 :: s4 :: s5 :: s6 :: s7 :: s8 :: s9 :: s10 :: .im d :: ρ)) ∧
  (∀ (s0 s1 s2 s3 s4 s5 s6 s7 s8 s9 s10 : Sl) (d : D) (ρ : En) (K : R → Prop), retRQ (s0 :: s1 :: s2 :: s3 :: s4 :: s5 :: s6 :: s7 :: s8 :: s9 :: s10 :: .im d :: ρ) (.br 11) K = K (.im d)) ∧
  (∀ (s0 s1 s2 s3 s4 s5 s6 s7 s8 s9 s10 : Sl) (d : D) (ρ : En) (rs : List R) (K : En → Prop), frzK (s0 :: s1 :: s2 :: s3 :: s4 :: s5 :: s6 :: s7 :: s8 :: s9 :: s10 :: .im d :: ρ) (.br 11 :: rs) K = frzK (s0 :: s1 :: s2 :: s3 :: s4 :: s5 :: s6 :: s7 :: s8 :: s9 :: s10 :: .im d :: ρ) rs K) ∧
  (∀ (s0 s1 s2 s3 s4 s5 s6 s7 s8 s9 s10 : Sl) (s t : Sl) (ρ : En) (K : En → Prop), setK (s0 :: s1 :: s2 :: s3 :: s4 :: s5 :: s6 :: s7 :: s8 :: s9 :: s10 :: s :: ρ) 11 t K = K (s0 :: s1 :: s2 :: s3 :: s4 :: s5 :: s6 :: s7 :: s8 :: s9 :: s10 :: t :: ρ)) ∧
  (∀ (Γ : Ctx) (Ed : Ex → En → Prop) (s0 s1 s2 s3 s4 s5 s6 s7 s8 s9 s10 : Sl) (ds : List D) (e : IE) (ρ : En) (Q : R → En → Prop), wpEQ Γ Ed (.app 11 e) (s0 :: s1 :: s2 :: s3 :: s4 :: s5 :: s6 :: s7 :: s8 :: s9 :: s10 :: .ow (.list ds) :: ρ) Q = wpEQ Γ Ed e (s0 :: s1 :: s2 :: s3 :: s4 :: s5 :: s6 :: s7 :: s8 :: s9 :: s10 :: .ow (.list ds) :: ρ) fun r ρ1 => takeRQ ρ1 r fun d ρ2 => appK ρ2 11 d Q) ∧
  (∀ (s0 s1 s2 s3 s4 s5 s6 s7 s8 s9 s10 : Sl) (ds : List D) (d : D) (ρ : En) (Q : R → En → Prop), appK (s0 :: s1 :: s2 :: s3 :: s4 :: s5 :: s6 :: s7 :: s8 :: s9 :: s10 :: .ow (.list ds) :: ρ) 11 d Q = (ds.length < sizeLine ∧ Q (.im .none) (s0 :: s1 :: s2 :: s3 :: s4 :: s5 :: s6 :: s7 :: s8 :: s9 :: s10 :: .ow (.list (ds ++ [d])) :: ρ))) ∧
  (∀ (Γ : Ctx) (Ed : Ex → En → Prop) (s0 s1 s2 s3 s4 s5 s6 s7 s8 s9 s10 : Sl) (ds : List D) (e : IE) (ρ : En) (Q : R → En → Prop), wpEQ Γ Ed (.popAt 11 e) (s0 :: s1 :: s2 :: s3 :: s4 :: s5 :: s6 :: s7 :: s8 :: s9 :: s10 :: .ow (.list ds) :: ρ) Q = wpEQ Γ Ed e (s0 :: s1 :: s2 :: s3 :: s4 :: s5 :: s6 :: s7 :: s8 :: s9 :: s10 :: .ow (.list ds) :: ρ) fun r ρ1 => popK r ρ1 11 Q) ∧
  (∀ (Γ : Ctx) (s0 s1 s2 s3 s4 s5 s6 s7 s8 s9 s10 : Sl) (ds : List D) (k : IE) (d : D) (ρ : En) (K : En → Prop), asgTQ Γ (.sub 11 k) d (s0 :: s1 :: s2 :: s3 :: s4 :: s5 :: s6 :: s7 :: s8 :: s9 :: s10 :: .ow (.list ds) :: ρ) K = wpEQ Γ noEx k (s0 :: s1 :: s2 :: s3 :: s4 :: s5 :: s6 :: s7 :: s8 :: s9 :: s10 :: .ow (.list ds) :: ρ) fun r ρ1 => stoK r ρ1 11 d K) ∧
  (∀ (s0 s1 s2 s3 s4 s5 s6 s7 s8 s9 s10 : Sl) (ds : List D) (j : Int) (d : D) (ρ : En) (K : En → Prop), stoK (.im (.int j)) (s0 :: s1 :: s2 :: s3 :: s4 :: s5 :: s6 :: s7 :: s8 :: s9 :: s10 :: .ow (.list ds) :: ρ) 11 d K = mxK (ixN ds.length j) fun m => K (s0 :: s1 :: s2 :: s3 :: s4 :: s5 :: s6 :: s7 :: s8 :: s9 :: s10 :: .ow (.list (ds.set m d)) :: ρ)) ∧
  (∀ (s0 s1 s2 s3 s4 s5 s6 s7 s8 s9 s10 : Sl) (ds : List D) (k : Int) (ρ : En) (Q : R → En → Prop), popK (.im (.int k)) (s0 :: s1 :: s2 :: s3 :: s4 :: s5 :: s6 :: s7 :: s8 :: s9 :: s10 :: .ow (.list ds) :: ρ) 11 Q = ((-(2 ^ 63) ≤ k ∧ k < 2 ^ 63) ∧ mxK (seqIndex? k ds.length) fun j => ixK ds[j]? fun d => Q (.im d) (s0 :: s1 :: s2 :: s3 :: s4 :: s5 :: s6 :: s7 :: s8 :: s9 :: s10 :: .ow (.list (ds.eraseIdx j)) :: ρ))) := ⟨by intros; rfl, by intros; rfl, by intros; rfl, by intros; rfl, by intros; rfl, by intros; rfl, by intros; rfl, by intros; rfl, by intros; rfl, by intros; rfl, by intros; rfl, by intros; rfl, by intros; rfl, by intros; rfl, by intros; exact propext ⟨fun h => h.2, fun h => ⟨⟨_, rfl⟩, h⟩⟩, by intros; rfl, by intros; exact propext ⟨fun h => h.2, fun h => ⟨⟨_, rfl⟩, h⟩⟩, by intros; exact propext ⟨fun h => h.2, fun h => ⟨⟨_, rfl⟩, h⟩⟩, by intros; rfl, by intros; rfl, by intros; rfl, by intros; rfl, by intros; rfl, by intros; rfl, by intros; rfl, by intros; rfl, by intros; rfl, by intros; rfl, by intros; rfl, by intros; rfl, by intros; rfl, by intros; rfl, by intros; rfl, by intros; rfl, by intros; exact propext ⟨fun h => h.2, fun h => ⟨⟨_, rfl⟩, h⟩⟩, by intros; rfl, by intros; exact propext ⟨fun h => h.2, fun h => ⟨⟨_, rfl⟩, h⟩⟩, by intros; exact propext ⟨fun h => h.2, fun h => ⟨⟨_, rfl⟩, h⟩⟩, by intros; rfl, by intros; rfl⟩
theorem VS6 : (∀ (Γ : Ctx) (Ed : Ex → En → Prop) (s0 s1 s2 s3 s4 s5 s6 s7 s8 s9 s10 s11 : Sl) (d : D) (ρ : En) (Q : R → En → Prop), wpEQ Γ Ed (.var 12) (s0 :: s1 :: s2 :: s3 :: s4 :: s5 :: s6 :: s7 :: s8 :: s9 :: s10 :: s11 :: .im d :: ρ) Q = Q (.im d) (s0 :: s1 :: s2 :: s3 :: s4 :: s5 :: s6 :: s7 :: s8 :: s9 :: s10 :: s11 :: .im d :: ρ)) ∧
  (∀ (Γ : Ctx) (Ed : Ex → En → Prop) (s0 s1 s2 s3 s4 s5 s6 s7 s8 s9 s10 s11 : Sl) (d : D) (ρ : En) (Q : R → En → Prop), wpEQ Γ Ed (.var 12) (s0 :: s1 :: s2 :: s3 :: s4 :: s5 :: s6 :: s7 :: s8 :: s9 :: s10 :: s11 :: .ow d :: ρ) Q = Q (.br 12) (s0 :: s1 :: s2 :: s3 :: s4 :: s5 :: s6 :: s7 :: s8 :: s9 :: s10 :: s11 :: .ow d :: ρ)) ∧
  (∀ (Γ : Ctx) (Ed : Ex → En → Prop) (s0 s1 s2 s3 s4 s5 s6 s7 s8 s9 s10 s11 : Sl) (ρ : En) (Q : R → En → Prop), wpEQ Γ Ed (.var 12) (s0 :: s1 :: s2 :: s3 :: s4 :: s5 :: s6 :: s7 :: s8 :: s9 :: s10 :: s11 :: .dk :: ρ) Q = Q .dk (s0 :: s1 :: s2 :: s3 :: s4 :: s5 :: s6 :: s7 :: s8 :: s9 :: s10 :: s11 :: .dk :: ρ)) ∧
  (∀ (s0 s1 s2 s3 s4 s5 s6 s7 s8 s9 s10 s11 : Sl) (d : D) (ρ : En) (K : D → Prop), peekQ (s0 :: s1 :: s2 :: s3 :: s4 :: s5 :: s6 :: s7 :: s8 :: s9 :: s10 :: s11 :: .ow d :: ρ) (.br 12) K = K d) ∧
  (∀ (s0 s1 s2 s3 s4 s5 s6 s7 s8 s9 s10 s11 : Sl) (d : D) (ρ : En) (K : D → En → Prop), takeRQ (s0 :: s1 :: s2 :: s3 :: s4 :: s5 :: s6 :: s7 :: s8 :: s9 :: s10 :: s11 :: .ow d :: ρ) (.br 12) K = K d (s0 :: s1 :: s2 :: s3 :: s4 :: s5 :: s6 :: s7 :: s8 :: s9 :: s10 :: s11 :: .im d :: ρ)) ∧
  (∀ (s0 s1 s2 s3 s4 s5 s6 s7 s8 s9 s10 s11 : Sl) (d : D) (ρ : En) (K : Sl → En → Prop), slotRQ (s0 :: s1 :: s2 :: s3 :: s4 :: s5 :: s6 :: s7 :: s8 :: s9 :: s10 :: s11 :: .ow d :: ρ) (.br 12) K = K (.im d) (s0 :: s1 :: s2 :: s3 :: s4 :: s5 :: s6 :: s7 :: s8 :: s9 :: s10 :: s11 :: .im d :: ρ)) ∧
  (∀ (s0 s1 s2 s3 s4 s5 s6 s7 s8 s9 s10 s11 : Sl) (d : D) (ρ : En) (K : R → Prop), retRQ (s0 :: s1 :: s2 :: s3 :: s4 :: s5 :: s6 :: s7 :: s8 :: s9 :: s10 :: s11 :: .ow d :: ρ) (.br 12) K = K (.fr d)) ∧
  (∀ (s0 s1 s2 s3 s4 s5 s6 s7 s8 s9 s10 s11 : Sl) (d : D) (ρ : En) (rs : List R) (K : En → Prop), frzK (s0 :: s1 :: s2 :: s3 :: s4 :: s5 :: s6 :: s7 :: s8 :: s9 :: s10 :: s11 :: .ow d :: ρ) (.br 12 :: rs) K = frzK (s0 :: s1 :: s2 :: s3 :: s4 :: s5 :: s6 :: s7 :: s8 :: s9 :: s10 :: s11 :: .im d :: ρ) rs K) ∧
  (∀ (s0 s1 s2 s3 s4 s5 s6 s7 s8 s9 s10 s11 : Sl) (d : D) (ρ : En) (K : D → Prop), peekQ (s0 :: s1 :: s2 :: s3 :: s4 :: s5 :: s6 :: s7 :: s8 :: s9 :: s10 :: s11 :: .im d :: ρ) (.br 12) K = K d) ∧
  (∀ (s0 s1 s2 s3 s4 s5 s6 s7 s8 s9 s10 s11 : Sl) (d : D) (ρ : En) (K : D → En → Prop), takeRQ (s0 :: s1 :: s2 :: s3 :: s4 :: s5 :: s6 :: s7 :: s8 :: s9 :: s10 :: s11 :: .im d :: ρ) (.br 12) K = K d (s0 :: s1 :: s2 :: s3 :: s4 :: s5 :: s6 :: s7 :: s8 :: s9 :: s10 :: s11 :: .im d :: ρ)) ∧
  (∀ (s0 s1 s2 s3 s4 s5 s6 s7 s8 s9 s10 s11 : Sl) (d : D) (ρ : En) (K : Sl → En → Prop), slotRQ (s0 :: s1 :: s2 :: s3 :: s4 :: s5 :: s6 :: s7 :: s8 :: s9 :: s10 :: s11 :: .im d :: ρ) (.br 12) K = K (.im d) (s0 :: s1 :: s2 :: s3 :: s4 :: s5 :: s6 :: s7 :: s8 :: s9 :: s10 :: s11 :: .im d :: ρ)) ∧
  (∀ (s0 s1 s2 s3 s4 s5 s6 s7 s8 s9 s10 s11 : Sl) (d : D) (ρ : En) (K : R → Prop), retRQ (s0 :: s1 :: s2 :: s3 :: s4 :: s5 :: s6 :: s7 :: s8 :: s9 :: s10 :: s11 :: .im d :: ρ) (.br 12) K = K (.im d)) ∧
  (∀ (s0 s1 s2 s3 s4 s5 s6 s7 s8 s9 s10 s11 : Sl) (d : D) (ρ : En) (rs : List R) (K : En → Prop), frzK (s0 :: s1 :: s2 :: s3 :: s4 :: s5 :: s6 :: s7 :: s8 :: s9 :: s10 :: s11 :: .im d :: ρ) (.br 12 :: rs) K = frzK (s0 :: s1 :: s2 :: s3 :: s4 :: s5 :: s6 :: s7 :: s8 :: s9 :: s10 :: s11 :: .im d :: ρ) rs K) ∧
  (∀ (s0 s1 s2 s3 s4 s5 s6 s7 s8 s9 s10 s11 : Sl) (s t : Sl) (ρ : En) (K : En → Prop), setK (s0 :: s1 :: s2 :: s3 :: s4 :: s5 :: s6 :: s7 :: s8 :: s9 :: s10 :: s11 :: s :: ρ) 12 t K = K (s0 :: s1 :: s2 :: s3 :: s4 :: s5 :: s6 :: s7 :: s8 :: s9 :: s10 :: s11 :: t :: ρ)) ∧
  (∀ (Γ : Ctx) (Ed : Ex → En → Prop) (s0 s1 s2 s3 s4 s5 s6 s7 s8 s9 s10 s11 : Sl) (ds : List D) (e : IE) (ρ : En) (Q : R → En → Prop), wpEQ Γ Ed (.app 12 e) (s0 :: s1 :: s2 :: s3 :: s4 :: s5 :: s6 :: s7 :: s8 :: s9 :: s10 :: s11 :: .ow (.list ds) :: ρ) Q = wpEQ Γ Ed e (s0 :: s1 :: s2 :: s3 :: s4 :: s5 :: s6 :: s7 :: s8 :: s9 :: s10 :: s11 :: .ow (.list ds) :: ρ) fun r ρ1 => takeRQ ρ1 r fun d ρ2 => appK ρ2 12 d Q) ∧
  (∀ (s0 s1 s2 s3 s4 s5 s6 s7 s8 s9 s10 s11 : Sl) (ds : List D) (d : D) (ρ : En) (Q : R → En → Prop), appK (s0 :: s1 :: s2 :: s3 :: s4 :: s5 :: s6 :: s7 :: s8 :: s9 :: s10 :: s11 :: .ow (.list ds) :: ρ) 12 d Q = (ds.length < sizeLine ∧ Q (.im .none) (s0 :: s1 :: s2 :: s3 :: s4 :: s5 :: s6 :: s7 :: s8 :: s9 :: s10 :: s11 :: .ow (.list (ds ++ [d])) :: ρ))) ∧
  (∀ (Γ : Ctx) (Ed : Ex → En → Prop) (s0 s1 s2 s3 s4 s5 s6 s7 s8 s9 s10 s11 : Sl) (ds : List D) (e : IE) (ρ : En) (Q : R → En → Prop), wpEQ Γ Ed (.popAt 12 e) (s0 :: s1 :: s2 :: s3 :: s4 :: s5 :: s6 :: s7 :: s8 :: s9 :: s10 :: s11 :: .ow (.list ds) :: ρ) Q = wpEQ Γ Ed e (s0 :: s1 :: s2 :: s3 :: s4 :: s5 :: s6 :: s7 :: s8 :: s9 :: s10 :: s11 :: .ow (.list ds) :: ρ) fun r ρ1 => popK r ρ1 12 Q) ∧
  (∀ (Γ : Ctx) (s0 s1 s2 s3 s4 s5 s6 s7 s8 s9 s10 s11 : Sl) (ds : List D) (k : IE) (d : D) (ρ : En) (K : En → Prop), asgTQ Γ (.sub 12 k) d (s0 :: s1 :: s2 :: s3 :: s4 :: s5 :: s6 :: s7 :: s8 :: s9 :: s10 :: s11 :: .ow (.list ds) :: ρ) K = wpEQ Γ noEx k (s0 :: s1 :: s2 :: s3 :: s4 :: s5 :: s6 :: s7 :: s8 :: s9 :: s10 :: s11 :: .ow (.list ds) :: ρ) fun r ρ1 => stoK r ρ1 12 d K) ∧
  (∀ (s0 s1 s2 s3 s4 s5 s6 s7 s8 s9 s10 s11 : Sl) (ds : List D) (j : Int) (d : D) (ρ : En) (K : En → Prop), stoK (.im (.int j)) (s0 :: s1 :: s2 :: s3 :: s4 :: s5 :: s6 :: s7 :: s8 :: s9 :: s10 :: s11 :: .ow (.list ds) :: ρ) 12 d K = mxK (ixN ds.length j) fun m => K (s0 :: s1 :: s2 :: s3 :: s4 :: s5 :: s6 :: s7 :: s8 :: s9 :: s10 :: s11 :: .ow (.list (ds.set m d)) :: ρ)) ∧
  (∀ (s0 s1 s2 s3 s4 s5 s6 s7 s8 s9 s10 s11 : Sl) (ds : List D) (k : Int) (ρ : En) (Q : R → En → Prop), popK (.im (.int k)) (s0 :: s1 :: s2 :: s3 :: s4 :: s5 :: s6 :: s7 :: s8 :: s9 :: s10 :: s11 :: .ow (.list ds) :: ρ) 12 Q = ((-(2 ^ 63) ≤ k ∧ k < 2 ^ 63) ∧ mxK (seqIndex? k ds.length) fun j => ixK ds[j]? fun d => Q (.im d) (s0 :: s1 :: s2 :: s3 :: s4 :: s5 :: s6 :: s7 :: s8 :: s9 :: s10 :: s11 :: .ow (.list (ds.eraseIdx j)) :: ρ))) ∧
  (∀ (Γ : Ctx) (Ed : Ex → En → Prop) (s0 s1 s2 s3 s4 s5 s6 s7 s8 s9 s10 s11 s12 : Sl) (d : D) (ρ : En) (Q : R → En → Prop), wpEQ Γ Ed (.var 13) (s0 :: s1 :: s2 :: s3 :: s4 :: s5 :: s6 :: s7 :: s8 :: s9 :: s10 :: s11 :: s12 :: .im d :: ρ) Q = Q (.im d) (s0 :: s1 :: s2 :: s3 :: s4 :: s5 :: s6 :: s7 :: s8 :: s9 :: s10 :: s11 :: s12 :: .im d :: ρ)) ∧
  (∀ (Γ : Ctx) (Ed : Ex → En → Prop) (s0 s1 s2 s3 s4 s5 s6 s7 s8 s9 s10 s11 s12 : Sl) (d : D) (ρ : En) (Q : R → En → Prop), wpEQ Γ Ed (.var 13) (s0 :: s1 :: s2 :: s3 :: s4 :: s5 :: s6 :: s7 :: s8 :: s9 :: s10 :: s11 :: s12 :: .ow d :: ρ) Q = Q (.br 13) (s0 :: s1 :: s2 :: s3 :: s4 :: s5 :: s6 :: s7 :: s8 :: s9 :: s10 :: s11 :: s12 :: .ow d :: ρ)) ∧
  (∀ (Γ : Ctx) (Ed : Ex → En → Prop) (s0 s1 s2 s3 s4 s5 s6 s7 s8 s9 s10 s11 s12 : Sl) (ρ : En) (Q : R → En → Prop), wpEQ Γ Ed (.var 13) (s0 :: s1 :: s2 :: s3 :: s4 :: s5 :: s6 :: s7 :: s8 :: s9 :: s10 :: s11 :: s12 :: .dk :: ρ) Q = Q .dk (s0 :: s1 :: s2 :: s3 :: s4 :: s5 :: s6 :: s7 :: s8 :: s9 :: s10 :: s11 :: s12 :: .dk :: ρ)) ∧
  (∀ (s0 s1 s2 s3 s4 s5 s6 s7 s8 s9 s10 s11 s12 : Sl) (d : D) (ρ : En) (K : D → Prop), peekQ (s0 :: s1 :: s2 :: s3 :: s4 :: s5 :: s6 :: s7 :: s8 :: s9 :: s10 :: s11 :: s12 :: .ow d :: ρ) (.br 13) K = K d) ∧
  (∀ (s0 s1 s2 s3 s4 s5 s6 s7 s8 s9 s10 s11 s12 : Sl) (d : D) (ρ : En) (K : D → En → Prop), takeRQ (s0 :: s1 :: s2 :: s3 :: s4 :: s5 :: s6 :: s7 :: s8 :: s9 :: s10 :: s11 :: s12 :: .ow d :: ρ) (.br 13) K = K d (s0 :: s1 :: s2 :: s3 :: s4 :: s5 :: s6 :: s7 :: s8 :: s9 :: s10 :: s11 :: s12 :: .im d :: ρ)) ∧
  (∀ (s0 s1 s2 s3 s4 s5 s6 s7 s8 s9 s10 s11 s12 : Sl) (d : D) (ρ : En) (K : Sl → En → Prop), slotRQ (s0 :: s1 :: s2 :: s3 :: s4 :: s5 :: s6 :: s7 :: s8 :: s9 :: s10 :: s11 :: s12 :: .ow d :: ρ) (.br 13) K = K (.im d) (s0 :: s1 :: s2 :: s3 :: s4 :: s5 :: s6 :: s7 :: s8 :: s9 :: s10 :: s11 :: s12 :: .im d :: ρ)) ∧
  (∀ (s0 s1 s2 s3 s4 s5 s6 s7 s8 s9 s10 s11 s12 : Sl) (d : D) (ρ : En) (K : R → Prop), retRQ (s0 :: s1 :: s2 :: s3 :: s4 :: s5 :: s6 :: s7 :: s8 :: s9 :: s10 :: s11 :: s12 :: .ow d :: ρ) (.br 13) K = K (.fr d)) ∧
  (∀ (s0 s1 s2 s3 s4 s5 s6 s7 s8 s9 s10 s11 s12 : Sl) (d : D) (ρ : En) (rs : List R) (K : En → Prop), frzK (s0 :: s1 :: s2 :: s3 :: s4 :: s5 :: s6 :: s7 :: s8 :: s9 :: s10 :: s11 :: s12 :: .ow d :: ρ) (.br 13 :: rs) K = frzK (s0 :: s1 :: s2 :: s3 :: s4 :: s5 :: s6 :: s7 :: s8 :: s9 :: s10 :: s11 :: s12 :: .im d :: ρ) rs K) ∧
  (∀ (s0 s1 s2 s3 s4 s5 s6 s7 s8 s9 s10 s11 s12 : Sl) (d : D) (ρ : En) (K : D → Prop), peekQ (s0 :: s1 :: s2 :: s3 :: s4 :: s5 :: s6 :: s7 :: s8 :: s9 :: s10 :: s11 :: s12 :: .im d :: ρ) (.br 13) K = K d) ∧
  (∀ (s0 s1 s2 s3 s4 s5 s6 s7 s8 s9 s10 s11 s12 : Sl) (d : D) (ρ : En) (K : D → En → Prop), takeRQ (s0 :: s1 :: s2 :: s3 :: s4 :: s5 :: s6 :: s7 :: s8 :: s9 :: s10 :: s11 :: s12 :: .im d :: ρ) (.br 13) K = K d (s0 :: s1 :: s2 :: s3 :: s4 :: s5 :: s6 :: s7 :: s8 :: s9 :: s10 :: s11 :: s12 :: .im d :: ρ)) ∧
  (∀ (s0 s1 s2 s3 s4 s5 s6 s7 s8 s9 s10 s11 s12 : Sl) (d : D) (ρ : En) (K : Sl → En → Prop), slotRQ (s0 :: s1 :: s2 :: s3 :: s4 :: s5 :: s6 :: s7 :: s8 :: s9 :: s10 :: s11 :: s12 :: .im d :: ρ) (.br 13) K = K (.im d) (s0 :: s1 :: s2 :: s3 :: s4 :: s5 :: s6 :: s7 :: s8 :: s9 :: s10 :: s11 :: s12 :: .im d :: ρ)) ∧
  (∀ (s0 s1 s2 s3 s4 s5 s6 s7 s8 s9 s10 s11 s12 : Sl) (d : D) (ρ : En) (K : R → Prop), retRQ (s0 :: s1 :: s2 :: s3 :: s4 :: s5 :: s6 :: s7 :: s8 :: s9 :: s10 :: s11 :: s12 :: .im d :: ρ) (.br 13) K = K (.im d)) ∧
  (∀ (s0 s1 s2 s3 s4 s5 s6 s7 s8 s9 s10 s11 s12 : Sl) (d : D) (ρ : En) (rs : List R) (K : En → Prop), frzK (s0 :: s1 :: s2 :: s3 :: s4 :: s5 :: s6 :: s7 :: s8 :: s9 :: s10 :: s11 :: s12 :: .im d :: ρ) (.br 13 :: rs) K = frzK (s0 :: s1 :: s2 :: s3 :: s4 :: s5 :: s6 :: s7 :: s8 :: s9 :: s10 :: s11 :: s12 :: .im d :: ρ) rs K) ∧
  (∀ (s0 s1 s2 s3 s4 s5 s6 s7 s8 s9 s10 s11 s12 : Sl) (s t : Sl) (ρ : En) (K : En → Prop), setK (s0 :: s1 :: s2 :: s3 :: s4 :: s5 :: s6 :: s7 :: s8 :: s9 :: s10 :: s11 :: s12 :: s :: ρ) 13 t K = K (s0 :: s1 :: s2 :: s3 :: s4 :: s5 :: s6 :: s7 :: s8 :: s9 :: s10 :: s11 :: s12 :: t :: ρ)) ∧
  (∀ (Γ : Ctx) (Ed : Ex → En → Prop) (s0 s1 s2 s3 s4 s5 s6 s7 s8 s9 s10 s11 s12 : Sl) (ds : List D) (e : IE) (ρ : En) (Q : R → En → Prop), wpEQ Γ Ed (.app 13 e) (s0 :: s1 :: s2 :: s3 :: s4 :: s5 :: s6 :: s7 :: s8 :: s9 :: s10 :: s11 :: s12 :: .ow (.list ds) :: ρ) Q = wpEQ Γ Ed e (s0 :: s1 :: s2 :: s3 :: s4 :: s5 :: s6 :: s7 :: s8 :: s9 :: s10 :: s11 :: s12 :: .ow (.list ds) :: ρ) fun r ρ1 => takeRQ ρ1 r fun d ρ2 => appK ρ2 13 d Q) ∧
  (∀ (s0 s1 s2 s3 s4 s5 s6 s7 s8 s9 s10 s11 s12 : Sl) (ds : List D) (d : D) (ρ : En) (Q : R → En → Prop), appK (s0 :: s1 :: s2 :: s3 :: s4 :: s5 :: s6 :: s7 :: s8 :: s9 :: s10 :: s11 :: s12 :: .ow (.list ds) :: ρ) 13 d Q = (ds.length < sizeLine ∧ Q (.im .none) (s0 :: s1 :: s2 :: s3 :: s4 :: s5 :: s6 :: s7 :: s8 :: s9 :: s10 :: s11 :: s12 :: .ow (.list (ds ++ [d])) :: ρ))) ∧
  (∀ (Γ : Ctx) (Ed : Ex → En → Prop) (s0 s1 s2 s3 s4 s5 s6 s7 s8 s9 s10 s11 s12 : Sl) (ds : List D) (e : IE) (ρ : En) (Q : R → En → Prop), wpEQ Γ Ed (.popAt 13 e) (s0 :: s1 :: s2 :: s3 :: s4 :: s5 :: s6 :: s7 :: s8 :: s9 :: s10 :: s11 :: s12 :: .ow (.list ds) :: ρ) Q = wpEQ Γ Ed e (s0 :: s1 :: s2 :: s3 :: s4 :: s5 :: s6 :: s7 :: s8 :: s9 :: s10 :: s11 :: s12 :: .ow (.list ds) :: ρ) fun r ρ1 => popK r ρ1 13 Q) ∧
  (∀ (Γ : Ctx) (s0 s1 s2 s3 s4 s5 s6 s7 s8 s9 s10 s11 s12 : Sl) (ds : List D) (k : IE) (d : D) (ρ : En) (K : En → Prop), asgTQ Γ (.sub 13 k) d (s0 :: s1 :: s2 :: s3 :: s4 :: s5 :: s6 :: s7 :: s8 :: s9 :: s10 :: s11 :: s12 :: .ow (.list ds) :: ρ) K = wpEQ Γ noEx k (s0 :: s1 :: s2 :: s3 :: s4 :: s5 :: s6 :: s7 :: s8 :: s9 :: s10 :: s11 :: s12 :: .ow (.list ds) :: ρ) fun r ρ1 => stoK r ρ1 13 d K) ∧
  (∀ (s0 s1 s2 s3 s4 s5 s6 s7 s8 s9 s10 s11 s12 : Sl) (ds : List D) (j : Int) (d : D) (ρ : En) (K : En → Prop), stoK (.im (.int j)) (s0 :: s1 :: s2 :: s3 :: s4 :: s5 :: s6 :: s7 :: s8 :: s9 :: s10 :: s11 :: s12 :: .ow (.list ds) :: ρ) 13 d K = mxK (ixN ds.length j) fun m => K (s0 :: s1 :: s2 :: s3 :: s4 :: s5 :: s6 :: s7 :: s8 :: s9 :: s10 :: s11 :: s12 :: .ow (.list (ds.set m d)) :: ρ)) ∧
  (∀ (s0 s1 s2 s3 s4 s5 s6 s7 s8 s9 s10 s11 s12 : Sl) (ds : List D) (k : Int) (ρ : En) (Q : R → En → Prop), popK (.im (.int k)) (s0 :: s1 :: s2 :: s3 :: s4 :: s5 :: s6 :: s7 :: s8 :: s9 :: s10 :: s11 :: s12 :: .ow (.list ds) :: ρ) 13 Q = ((-(2 ^ 63) ≤ k ∧ k < 2 ^ 63) ∧ mxK (seqIndex? k ds.length) fun j => ixK ds[j]? fun d => Q (.im d) (s0 :: s1 :: s2 :: s3 :: s4 :: s5 :: s6 :: s7 :: s8 :: s9 :: s10 :: s11 :: s12 :: .ow (.list (ds.eraseIdx j)) :: ρ))) := ⟨by intros; rfl, by intros; rfl, by intros; rfl, by intros; rfl, by intros; rfl, by intros; rfl, by intros; rfl, by intros; rfl, by intros; rfl, by intros; rfl, by intros; rfl, by intros; rfl, by intros; rfl, by intros; rfl, by intros; exact propext ⟨fun h => h.2, fun h => ⟨⟨_, rfl⟩, h⟩⟩, by intros; rfl, by intros; exact propext ⟨fun h => h.2, fun h => ⟨⟨_, rfl⟩, h⟩⟩, by intros; exact propext ⟨fun h => h.2, fun h => ⟨⟨_, rfl⟩, h⟩⟩, by intros; rfl, by intros; rfl, by intros; rfl, by intros; rfl, by intros; rfl, by intros; rfl, by intros; rfl, by intros; rfl, by intros; rfl, by intros; rfl, by intros; rfl, by intros; rfl, by intros; rfl, by intros; rfl, by intros; rfl, by intros; rfl, by intros; exact propext ⟨fun h => h.2, fun h => ⟨⟨_, rfl⟩, h⟩⟩, by intros; rfl, by intros; exact propext ⟨fun h => h.2, fun h => ⟨⟨_, rfl⟩, h⟩⟩, by intros; exact propext ⟨fun h => h.2, fun h => ⟨⟨_, rfl⟩, h⟩⟩, by intros; rfl, by intros; rfl⟩
theorem VS7 : (∀ (Γ : Ctx) (Ed : Ex → En → Prop) (s0 s1 s2 s3 s4 s5 s6 s7 s8 s9 s10 s11 s12 s13 : Sl) (d : D) (ρ : En) (Q : R → En → Prop), wpEQ Γ Ed (.var 14) (s0 :: s1 :: s2 :: s3 :: s4 :: s5 :: s6 :: s7 :: s8 :: s9 :: s10 :: s11 :: s12 :: s13 :: .im d :: ρ) Q = Q (.im d) (s0 :: s1 :: s2 :: s3 :: s4 :: s5 :: s6 :: s7 :: s8 :: s9 :: s10 :: s11 :: s12 :: s13 :: .im d :: ρ)) ∧
  (∀ (Γ : Ctx) (Ed : Ex → En → Prop) (s0 s1 s2 s3 s4 s5 s6 s7 s8 s9 s10 s11 s12 s13 : Sl) (d : D) (ρ : En) (Q : R → En → Prop), wpEQ Γ Ed (.var 14) (s0 :: s1 :: s2 :: s3 :: s4 :: s5 :: s6 :: s7 :: s8 :: s9 :: s10 :: s11 :: s12 :: s13 :: .ow d :: ρ) Q = Q (.br 14) (s0 :: s1 :: s2 :: s3 :: s4 :: s5 :: s6 :: s7 :: s8 :: s9 :: s10 :: s11 :: s12 :: s13 :: .ow d :: ρ)) ∧
  (∀ (Γ : Ctx) (Ed : Ex → En → Prop) (s0 s1 s2 s3 s4 s5 s6 s7 s8 s9 s10 s11 s12 s13 : Sl) (ρ : En) (Q : R → En → Prop), wpEQ Γ Ed (.var 14) (s0 :: s1 :: s2 :: s3 :: s4 :: s5 :: s6 :: s7 :: s8 :: s9 :: s10 :: s11 :: s12 :: s13 :: .dk :: ρ) Q = Q .dk (s0 :: s1 :: s2 :: s3 :: s4 :: s5 :: s6 :: s7 :: s8 :: s9 :: s10 :: s11 :: s12 :: s13 :: .dk :: ρ)) ∧
  (∀ (s0 s1 s2 s3 s4 s5 s6 s7 s8 s9 s10 s11 s12 s13 : Sl) (d : D) (ρ : En) (K : D → Prop), peekQ (s0 :: s1 :: s2 :: s3 :: s4 :: s5 :: s6 :: s7 :: s8 :: s9 :: s10 :: s11 :: s12 :: s13 :: .ow d :: ρ) (.br 14) K = K d) ∧
  (∀ (s0 s1 s2 s3 s4 s5 s6 s7 s8 s9 s10 s11 s12 s13 : Sl) (d : D) (ρ : En) (K : D → En → Prop), takeRQ (s0 :: s1 :: s2 :: s3 :: s4 :: s5 :: s6 :: s7 :: s8 :: s9 :: s10 :: s11 :: s12 :: s13 :: .ow d :: ρ) (.br 14) K = K d (s0 :: s1 :: s2 :: s3 :: s4 :: s5 :: s6 :: s7 :: s8 :: s9 :: s10 :: s11 :: s12 :: s13 :: .im d :: ρ)) ∧
  (∀ (s0 s1 s2 s3 s4 s5 s6 s7 s8 s9 s10 s11 s12 s13 : Sl) (d : D) (ρ : En) (K : Sl → En → Prop), slotRQ (s0 :: s1 :: s2 :: s3 :: s4 :: s5 :: s6 :: s7 :: s8 :: s9 :: s10 :: s11 :: s12 :: s13 :: .ow d :: ρ) (.br 14) K = K (.im d) (s0 :: s1 :: s2 :: s3 :: s4 :: s5 :: s6 :: s7 :: s8 :: s9 :: s10 :: s11 :: s12 :: s13 :: .im d :: ρ)) ∧
  (∀ (s0 s1 s2 s3 s4 s5 s6 s7 s8 s9 s10 s11 s12 s13 : Sl) (d : D) (ρ : En) (K : R → Prop), retRQ (s0 :: s1 :: s2 :: s3 :: s4 :: s5 :: s6 :: s7 :: s8 :: s9 :: s10 :: s11 :: s12 :: s13 :: .ow d :: ρ) (.br 14) K = K (.fr d)) ∧
  (∀ (s0 s1 s2 s3 s4 s5 s6 s7 s8 s9 s10 s11 s12 s13 : Sl) (d : D) (ρ : En) (rs : List R) (K : En → Prop), frzK (s0 :: s1 :: s2 :: s3 :: s4 :: s5 :: s6 :: s7 :: s8 :: s9 :: s10 :: s11 :: s12 :: s13 :: .ow d :: ρ) (.br 14 :: rs) K = frzK (s0 :: s1 :: s2 :: s3 :: s4 :: s5 :: s6 :: s7 :: s8 :: s9 :: s10 :: s11 :: s12 :: s13 :: .im d :: ρ) rs K) ∧
  (∀ (s0 s1 s2 s3 s4 s5 s6 s7 s8 s9 s10 s11 s12 s13 : Sl) (d : D) (ρ : En) (K : D → Prop), peekQ (s0 :: s1 :: s2 :: s3 :: s4 :: s5 :: s6 :: s7 :: s8 :: s9 :: s10 :: s11 :: s12 :: s13 :: .im d :: ρ) (.br 14) K = K d) ∧
  (∀ (s0 s1 s2 s3 s4 s5 s6 s7 s8 s9 s10 s11 s12 s13 : Sl) (d : D) (ρ : En) (K : D → En → Prop), takeRQ (s0 :: s1 :: s2 :: s3 :: s4 :: s5 :: s6 :: s7 :: s8 :: s9 :: s10 :: s11 :: s12 :: s13 :: .im d :: ρ) (.br 14) K = K d (s0 :: s1 :: s2 :: s3 :: s4 :: s5 :: s6 :: s7 :: s8 :: s9 :: s10 :: s11 :: s12 :: s13 :: .im d :: ρ)) ∧
  (∀ (s0 s1 s2 s3 s4 s5 s6 s7 s8 s9 s10 s11 s12 s13 : Sl) (d : D) (ρ : En) (K : Sl → En → Prop), slotRQ (s0 :: s1 :: s2 :: s3 :: s4 :: s5 :: s6 :: s7 :: s8 :: s9 :: s10 :: s11 :: s12 :: s13 :: .im d :: ρ) (.br 14) K = K (.im d) (s0 :: s1 :: s2 :: s3 :: s4 :: s5 :: s6 :: s7 :: s8 :: s9 :: s10 :: s11 :: s12 :: s13 :: .im d :: ρ)) ∧
  (∀ (s0 s1 s2 s3 s4 s5 s6 s7 s8 s9 s10 s11 s12 s13 : Sl) (d : D) (ρ : En) (K : R → Prop), retRQ (s0 :: s1 :: s2 :: s3 :: s4 :: s5 :: s6 :: s7 :: s8 :: s9 :: s10 :: s11 :: s12 :: s13 :: .im d :: ρ) (.br 14) K = K (.im d)) ∧
  (∀ (s0 s1 s2 s3 s4 s5 s6 s7 s8 s9 s10 s11 s12 s13 : Sl) (d : D) (ρ : En) (rs : List R) (K : En → Prop), frzK (s0 :: s1 :: s2 :: s3 :: s4 :: s5 :: s6 :: s7 :: s8 :: s9 :: s10 :: s11 :: s12 :: s13 :: .im d :: ρ) (.br 14 :: rs) K = frzK (s0 :: s1 :: s2 :: s3 :: s4 :: s5 :: s6 :: s7 :: s8 :: s9 :: s10 :: s11 :: s12 :: s13 :: .im d :: ρ) rs K) ∧
  (∀ (s0 s1 s2 s3 s4 s5 s6 s7 s8 s9 s10 s11 s12 s13 : Sl) (s t : Sl) (ρ : En) (K : En → Prop), setK (s0 :: s1 :: s2 :: s3 :: s4 :: s5 :: s6 :: s7 :: s8 :: s9 :: s10 :: s11 :: s12 :: s13 :: s :: ρ) 14 t K = K (s0 :: s1 :: s2 :: s3 :: s4 :: s5 :: s6 :: s7 :: s8 :: s9 :: s10 :: s11 :: s12 :: s13 :: t :: ρ)) ∧
  (∀ (Γ : Ctx) (Ed : Ex → En → Prop) (s0 s1 s2 s3 s4 s5 s6 s7 s8 s9 s10 s11 s12 s13 : Sl) (ds : List D) (e : IE) (ρ : En) (Q : R → En → Prop), wpEQ Γ Ed (.app 14 e) (s0 :: s1 :: s2 :: s3 :: s4 :: s5 :: s6 :: s7 :: s8 :: s9 :: s10 :: s11 :: s12 :: s13 :: .ow (.list ds) :: ρ) Q = wpEQ Γ Ed e (s0 :: s1 :: s2 :: s3 :: s4 :: s5 :: s6 :: s7 :: s8 :: s9 :: s10 :: s11 :: s12 :: s13 :: .ow (.list ds) :: ρ) fun r ρ1 => takeRQ ρ1 r fun d ρ2 => appK ρ2 14 d Q) ∧
  (∀ (s0 s1 s2 s3 s4 s5 s6 s7 s8 s9 s10 s11 s12 s13 : Sl) (ds : List D) (d : D) (ρ : En) (Q : R → En → Prop), appK (s0 :: s1 :: s2 :: s3 :: s4 :: s5 :: s6 :: s7 :: s8 :: s9 :: s10 :: s11 :: s12 :: s13 :: .ow (.list ds) :: ρ) 14 d Q = (ds.length < sizeLine ∧ Q (.im .none) (s0 :: s1 :: s2 :: s3 :: s4 :: s5 :: s6 :: s7 :: s8 :: s9 :: s10 :: s11 :: s12 :: s13 :: .ow (.list (ds ++ [d])) :: ρ))) ∧
  (∀ (Γ : Ctx) (Ed : Ex → En → Prop) (s0 s1 s2 s3 s4 s5 s6 s7 s8 s9 s10 s11 s12 s13 : Sl) (ds : List D) (e : IE) (ρ : En) (Q : R → En → Prop), wpEQ Γ Ed (.popAt 14 e) (s0 :: s1 :: s2 :: s3 :: s4 :: s5 :: s6 :: s7 :: s8 :: s9 :: s10 :: s11 :: s12 :: s13 :: .ow (.list ds) :: ρ) Q = wpEQ Γ Ed e (s0 :: s1 :: s2 :: s3 :: s4 :: s5 :: s6 :: s7 :: s8 :: s9 :: s10 :: s11 :: s12 :: s13 :: .ow (.list ds) :: ρ) fun r ρ1 => popK r ρ1 14 Q) ∧
  (∀ (Γ : Ctx) (s0 s1 s2 s3 s4 s5 s6 s7 s8 s9 s10 s11 s12 s13 : Sl) (ds : List D) (k : IE) (d : D) (ρ : En) (K : En → Prop), asgTQ Γ (.sub 14 k) d (s0 :: s1 :: s2 :: s3 :: s4 :: s5 :: s6 :: s7 :: s8 :: s9 :: s10 :: s11 :: s12 :: s13 :: .ow (.list ds) :: ρ) K = wpEQ Γ noEx k (s0 :: s1 :: s2 :: s3 :: s4 :: s5 :: s6 :: s7 :: s8 :: s9 :: s10 :: s11 :: s12 :: s13 :: .ow (.list ds) :: ρ) fun r ρ1 => stoK r ρ1 14 d K) ∧
  (∀ (s0 s1 s2 s3 s4 s5 s6 s7 s8 s9 s10 s11 s12 s13 : Sl) (ds : List D) (j : Int) (d : D) (ρ : En) (K : En → Prop), stoK (.im (.int j)) (s0 :: s1 :: s2 :: s3 :: s4 :: s5 :: s6 :: s7 :: s8 :: s9 :: s10 :: s11 :: s12 :: s13 :: .ow (.list ds) :: ρ) 14 d K = mxK (ixN ds.length j) fun m => K (s0 :: s1 :: s2 :: s3 :: s4 :: s5 :: s6 :: s7 :: s8 :: s9 :: s10 :: s11 :: s12 :: s13 :: .ow (.list (ds.set m d)) :: ρ)) ∧
  (∀ (s0 s1 s2 s3 s4 s5 s6 s7 s8 s9 s10 s11 s12 s13 : Sl) (ds : List D) (k : Int) (ρ : En) (Q : R → En → Prop), popK (.im (.int k)) (s0 :: s1 :: s2 :: s3 :: s4 :: s5 :: s6 :: s7 :: s8 :: s9 :: s10 :: s11 :: s12 :: s13 :: .ow (.list ds) :: ρ) 14 Q = ((-(2 ^ 63) ≤ k ∧ k < 2 ^ 63) ∧ mxK (seqIndex? k ds.length) fun j => ixK ds[j]? fun d => Q (.im d) (s0 :: s1 :: s2 :: s3 :: s4 :: s5 :: s6 :: s7 :: s8 :: s9 :: s10 :: s11 :: s12 :: s13 :: .ow (.list (ds.eraseIdx j)) :: ρ))) ∧
  (∀ (Γ : Ctx) (Ed : Ex → En → Prop) (s0 s1 s2 s3 s4 s5 s6 s7 s8 s9 s10 s11 s12 s13 s14 : Sl) (d : D) (ρ : En) (Q : R → En → Prop), wpEQ Γ Ed (.var 15) (s0 :: s1 :: s2 :: s3 :: s4 :: s5 :: s6 :: s7 :: s8 :: s9 :: s10 :: s11 :: s12 :: s13 :: s14 :: .im d :: ρ) Q = Q (.im d) (s0 :: s1 :: s2 :: s3 :: s4 :: s5 :: s6 :: s7 :: s8 :: s9 :: s10 :: s11 :: s12 :: s13 :: s14 :: .im d :: ρ)) ∧
  (∀ (Γ : Ctx) (Ed : Ex → En → Prop) (s0 s1 s2 s3 s4 s5 s6 s7 s8 s9 s10 s11 s12 s13 s14 : Sl) (d : D) (ρ : En) (Q : R → En → Prop), wpEQ Γ Ed (.var 15) (s0 :: s1 :: s2 :: s3 :: s4 :: s5 :: s6 :: s7 :: s8 :: s9 :: s10 :: s11 :: s12 :: s13 :: s14 :: .ow d :: ρ) Q = Q (.br 15) (s0 :: s1 :: s2 :: s3 :: s4 :: s5 :: s6 :: s7 :: s8 :: s9 :: s10 :: s11 :: s12 :: s13 :: s14 :: .ow d :: ρ)) ∧
  (∀ (Γ : Ctx) (Ed : Ex → En → Prop) (s0 s1 s2 s3 s4 s5 s6 s7 s8 s9 s10 s11 s12 s13 s14 : Sl) (ρ : En) (Q : R → En → Prop), wpEQ Γ Ed (.var 15) (s0 :: s1 :: s2 :: s3 :: s4 :: s5 :: s6 :: s7 :: s8 :: s9 :: s10 :: s11 :: s12 :: s13 :: s14 :: .dk :: ρ) Q = Q .dk (s0 :: s1 :: s2 :: s3 :: s4 :: s5 :: s6 :: s7 :: s8 :: s9 :: s10 :: s11 :: s12 :: s13 :: s14 :: .dk :: ρ)) ∧
  (∀ (s0 s1 s2 s3 s4 s5 s6 s7 s8 s9 s10 s11 s12 s13 s14 : Sl) (d : D) (ρ : En) (K : D → Prop), peekQ (s0 :: s1 :: s2 :: s3 :: s4 :: s5 :: s6 :: s7 :: s8 :: s9 :: s10 :: s11 :: s12 :: s13 :: s14 :: .ow d :: ρ) (.br 15) K = K d) ∧
  (∀ (s0 s1 s2 s3 s4 s5 s6 s7 s8 s9 s10 s11 s12 s13 s14 : Sl) (d : D) (ρ : En) (K : D → En → Prop), takeRQ (s0 :: s1 :: s2 :: s3 :: s4 :: s5 :: s6 :: s7 :: s8 :: s9 :: s10 :: s11 :: s12 :: s13 :: s14 :: .ow d :: ρ) (.br 15) K = K d (s0 :: s1 :: s2 :: s3 :: s4 :: s5 :: s6 :: s7 :: s8 :: s9 :: s10 :: s11 :: s12 :: s13 :: s14 :: .im d :: ρ)) ∧
  (∀ (s0 s1 s2 s3 s4 s5 s6 s7 s8 s9 s10 s11 s12 s13 s14 : Sl) (d : D) (ρ : En) (K : Sl → En → Prop), slotRQ (s0 :: s1 :: s2 :: s3 :: s4 :: s5 :: s6 :: s7 :: s8 :: s9 :: s10 :: s11 :: s12 :: s13 :: s14 :: .ow d :: ρ) (.br 15) K = K (.im d) (s0 :: s1 :: s2 :: s3 :: s4 :: s5 :: s6 :: s7 :: s8 :: s9 :: s10 :: s11 :: s12 :: s13 :: s14 :: .im d :: ρ)) ∧
  (∀ (s0 s1 s2 s3 s4 s5 s6 s7 s8 s9 s10 s11 s12 s13 s14 : Sl) (d : D) (ρ : En) (K : R → Prop), retRQ (s0 :: s1 :: s2 :: s3 :: s4 :: s5 :: s6 :: s7 :: s8 :: s9 :: s10 :: s11 :: s12 :: s13 :: s14 :: .ow d :: ρ) (.br 15) K = K (.fr d)) ∧
  (∀ (s0 s1 s2 s3 s4 s5 s6 s7 s8 s9 s10 s11 s12 s13 s14 : Sl) (d : D) (ρ : En) (rs : List R) (K : En → Prop), frzK (s0 :: s1 :: s2 :: s3 :: s4 :: s5 :: s6 :: s7 :: s8 :: s9 :: s10 :: s11 :: s12 :: s13 :: s14 :: .ow d :: ρ) (.br 15 :: rs) K = frzK (s0 :: s1 :: s2 :: s3 :: s4 :: s5 :: s6 :: s7 :: s8 :: s9 :: s10 :: s11 :: s12 :: s13 :: s14 :: .im d :: ρ) rs K) ∧
  (∀ (s0 s1 s2 s3 s4 s5 s6 s7 s8 s9 s10 s11 s12 s13 s14 : Sl) (d : D) (ρ : En) (K : D → Prop), peekQ (s0 :: s1 :: s2 :: s3 :: s4 :: s5 :: s6 :: s7 :: s8 :: s9 :: s10 :: s11 :: s12 :: s13 :: s14 :: .im d :: ρ) (.br 15) K = K d) ∧
  (∀ (s0 s1 s2 s3 s4 s5 s6 s7 s8 s9 s10 s11 s12 s13 s14 : Sl) (d : D) (ρ : En) (K : D → En → Prop), takeRQ (s0 :: s1 :: s2 :: s3 :: s4 :: s5 :: s6 :: s7 :: s8 :: s9 :: s10 :: s11 :: s12 :: s13 :: s14 :: .im d :: ρ) (.br 15) K = K d (s0 :: s1 :: s2 :: s3 :: s4 :: s5 :: s6 :: s7 :: s8 :: s9 :: s10 :: s11 :: s12 :: s13 :: s14 :: .im d :: ρ)) ∧
  (∀ (s0 s1 s2 s3 s4 s5 s6 s7 s8 s9 s10 s11 s12 s13 s14 : Sl) (d : D) (ρ : En) (K : Sl → En → Prop), slotRQ (s0 :: s1 :: s2 :: s3 :: s4 :: s5 :: s6 :: s7 :: s8 :: s9 :: s10 :: s11 :: s12 :: s13 :: s14 :: .im d :: ρ) (.br 15) K = K (.im d) (s0 :: s1 :: s2 :: s3 :: s4 :: s5 :: s6 :: s7 :: s8 :: s9 :: s10 :: s11 :: s12 :: s13 :: s14 :: .im d :: ρ)) ∧
  (∀ (s0 s1 s2 s3 s4 s5 s6 s7 s8 s9 s10 s11 s12 s13 s14 : Sl) (d : D) (ρ : En) (K : R → Prop), retRQ (s0 :: s1 :: s2 :: s3 :: s4 :: s5 :: s6 :: s7 :: s8 :: s9 :: s10 :: s11 :: s12 :: s13 :: s14 :: .im d :: ρ) (.br 15) K = K (.im d)) ∧
  (∀ (s0 s1 s2 s3 s4 s5 s6 s7 s8 s9 s10 s11 s12 s13 s14 : Sl) (d : D) (ρ : En) (rs : List R) (K : En → Prop), frzK (s0 :: s1 :: s2 :: s3 :: s4 :: s5 :: s6 :: s7 :: s8 :: s9 :: s10 :: s11 :: s12 :: s13 :: s14 :: .im d :: ρ) (.br 15 :: rs) K = frzK (s0 :: s1 :: s2 :: s3 :: s4 :: s5 :: s6 :: s7 :: s8 :: s9 :: s10 :: s11 :: s12 :: s13 :: s14 :: .im d :: ρ) rs K) ∧
  (∀ (s0 s1 s2 s3 s4 s5 s6 s7 s8 s9 s10 s11 s12 s13 s14 : Sl) (s t : Sl) (ρ : En) (K : En → Prop), setK (s0 :: s1 :: s2 :: s3 :: s4 :: s5 :: s6 :: s7 :: s8 :: s9 :: s10 :: s11 :: s12 :: s13 :: s14 :: s :: ρ) 15 t K = K (s0 :: s1 :: s2 :: s3 :: s4 :: s5 :: s6 :: s7 :: s8 :: s9 :: s10 :: s11 :: s12 :: s13 :: s14 :: t :: ρ)) ∧
  (∀ (Γ : Ctx) (Ed : Ex → En → Prop) (s0 s1 s2 s3 s4 s5 s6 s7 s8 s9 s10 s11 s12 s13 s14 : Sl) (ds : List D) (e : IE) (ρ : En) (Q : R → En → Prop), wpEQ Γ Ed (.app 15 e) (s0 :: s1 :: s2 :: s3 :: s4 :: s5 :: s6 :: s7 :: s8 :: s9 :: s10 :: s11 :: s12 :: s13 :: s14 :: .ow (.list ds) :: ρ) Q = wpEQ Γ Ed e (s0 :: s1 :: s2 :: s3 :: s4 :: s5 :: s6 :: s7 :: s8 :: s9 :: s10 :: s11 :: s12 :: s13 :: s14 :: .ow (.list ds) :: ρ) fun r ρ1 => takeRQ ρ1 r fun d ρ2 => appK ρ2 15 d Q) ∧
  (∀ (s0 s1 s2 s3 s4 s5 s6 s7 s8 s9 s10 s11 s12 s13 s14 : Sl) (ds : List D) (d : D) (ρ : En) (Q : R → En → Prop), appK (s0 :: s1 :: s2 :: s3 :: s4 :: s5 :: s6 :: s7 :: s8 :: s9 :: s10 :: s11 :: s12 :: s13 :: s14 :: .ow (.list ds) :: ρ) 15 d Q = (ds.length < sizeLine ∧ Q (.im .none) (s0 :: s1 :: s2 :: s3 :: s4 :: s5 :: s6 :: s7 :: s8 :: s9 :: s10 :: s11 :: s12 :: s13 :: s14 :: .ow (.list (ds ++ [d])) :: ρ))) ∧
  (∀ (Γ : Ctx) (Ed : Ex → En → Prop) (s0 s1 s2 s3 s4 s5 s6 s7 s8 s9 s10 s11 s12 s13 s14 : Sl) (ds : List D) (e : IE) (ρ : En) (Q : R → En → Prop), wpEQ Γ Ed (.popAt 15 e) (s0 :: s1 :: s2 :: s3 :: s4 :: s5 :: s6 :: s7 :: s8 :: s9 :: s10 :: s11 :: s12 :: s13 :: s14 :: .ow (.list ds) :: ρ) Q = wpEQ Γ Ed e (s0 :: s1 :: s2 :: s3 :: s4 :: s5 :: s6 :: s7 :: s8 :: s9 :: s10 :: s11 :: s12 :: s13 :: s14 :: .ow (.list ds) :: ρ) fun r ρ1 => popK r ρ1 15 Q) ∧
  (∀ (Γ : Ctx) (s0 s1 s2 s3 s4 s5 s6 s7 s8 s9 s10 s11 s12 s13 s14 : Sl) (ds : List D) (k : IE) (d : D) (ρ : En) (K : En → Prop), asgTQ Γ (.sub 15 k) d (s0 :: s1 :: s2 :: s3 :: s4 :: s5 :: s6 :: s7 :: s8 :: s9 :: s10 :: s11 :: s12 :: s13 :: s14 :: .ow (.list ds) :: ρ) K = wpEQ Γ noEx k (s0 :: s1 :: s2 :: s3 :: s4 :: s5 :: s6 :: s7 :: s8 :: s9 :: s10 :: s11 :: s12 :: s13 :: s14 :: .ow (.list ds) :: ρ) fun r ρ1 => stoK r ρ1 15 d K) ∧
  (∀ (s0 s1 s2 s3 s4 s5 s6 s7 s8 s9 s10 s11 s12 s13 s14 : Sl) (ds : List D) (j : Int) (d : D) (ρ : En) (K : En → Prop), stoK (.im (.int j)) (s0 :: s1 :: s2 :: s3 :: s4 :: s5 :: s6 :: s7 :: s8 :: s9 :: s10 :: s11 :: s12 :: s13 :: s14 :: .ow (.list ds) :: ρ) 15 d K = mxK (ixN ds.length j) fun m => K (s0 :: s1 :: s2 :: s3 :: s4 :: s5 :: s6 :: s7 :: s8 :: s9 :: s10 :: s11 :: s12 :: s13 :: s14 :: .ow (.list (ds.set m d)) :: ρ)) ∧
  (∀ (s0 s1 s2 s3 s4 s5 s6 s7 s8 s9 s10 s11 s12 s13 s14 : Sl) (ds : List D) (k : Int) (ρ : En) (Q : R → En → Prop), popK (.im (.int k)) (s0 :: s1 :: s2 :: s3 :: s4 :: s5 :: s6 :: s7 :: s8 :: s9 :: s10 :: s11 :: s12 :: s13 :: s14 :: .ow (.list ds) :: ρ) 15 Q = ((-(2 ^ 63) ≤ k ∧ k < 2 ^ 63) ∧ mxK (seqIndex? k ds.length) fun j => ixK ds[j]? fun d => Q (.im d) (s0 :: s1 :: s2 :: s3 :: s4 :: s5 :: s6 :: s7 :: s8 :: s9 :: s10 :: s11 :: s12 :: s13 :: s14 :: .ow (.list (ds.eraseIdx j)) :: ρ))) := ⟨by intros; rfl, by intros; rfl, by intros; rfl, by intros; rfl, by intros; rfl, by intros; rfl, by intros; rfl, by intros; rfl, by intros; rfl, by intros; rfl, by intros; rfl, by intros; rfl, by intros; rfl, by intros; rfl, by intros; exact propext ⟨fun h => h.2, fun h => ⟨⟨_, rfl⟩, h⟩⟩, by intros; rfl, by intros; exact propext ⟨fun h => h.2, fun h => ⟨⟨_, rfl⟩, h⟩⟩, by intros; exact propext ⟨fun h => h.2, fun h => ⟨⟨_, rfl⟩, h⟩⟩, by intros; rfl, by intros; rfl, by intros; rfl, by intros; rfl, by intros; rfl, by intros; rfl, by intros; rfl, by intros; rfl, by intros; rfl, by intros; rfl, by intros; rfl, by intros; rfl, by intros; rfl, by intros; rfl, by intros; rfl, by intros; rfl, by intros; exact propext ⟨fun h => h.2, fun h => ⟨⟨_, rfl⟩, h⟩⟩, by intros; rfl, by intros; exact propext ⟨fun h => h.2, fun h => ⟨⟨_, rfl⟩, h⟩⟩, by intros; exact propext ⟨fun h => h.2, fun h => ⟨⟨_, rfl⟩, h⟩⟩, by intros; rfl, by intros; rfl⟩
theorem VS8 : (∀ (Γ : Ctx) (Ed : Ex → En → Prop) (s0 s1 s2 s3 s4 s5 s6 s7 s8 s9 s10 s11 s12 s13 s14 s15 : Sl) (d : D) (ρ : En) (Q : R → En → Prop), wpEQ Γ Ed (.var 16) (s0 :: s1 :: s2 :: s3 :: s4 :: s5 :: s6 :: s7 :: s8 :: s9 :: s10 :: s11 :: s12 :: s13 :: s14 :: s15 :: .im d :: ρ) Q = Q (.im d) (s0 :: s1 :: s2 :: s3 :: s4 :: s5 :: s6 :: s7 :: s8 :: s9 :: s10 :: s11 :: s12 :: s13 :: s14 :: s15 :: .im d :: ρ)) ∧
  (∀ (Γ : Ctx) (Ed : Ex → En → Prop) (s0 s1 s2 s3 s4 s5 s6 s7 s8 s9 s10 s11 s12 s13 s14 s15 : Sl) (d : D) (ρ : En) (Q : R → En → Prop), wpEQ Γ Ed (.var 16) (s0 :: s1 :: s2 :: s3 :: s4 :: s5 :: s6 :: s7 :: s8 :: s9 :: s10 :: s11 :: s12 :: s13 :: s14 :: s15 :: .ow d :: ρ) Q = Q (.br 16) (s0 :: s1 :: s2 :: s3 :: s4 :: s5 :: s6 :: s7 :: s8 :: s9 :: s10 :: s11 :: s12 :: s13 :: s14 :: s15 :: .ow d :: ρ)) ∧
  (∀ (Γ : Ctx) (Ed : Ex → En → Prop) (s0 s1 s2 s3 s4 s5 s6 s7 s8 s9 s10 s11 s12 s13 s14 s15 : Sl) (ρ : En) (Q : R → En → Prop), wpEQ Γ Ed (.var 16) (s0 :: s1 :: s2 :: s3 :: s4 :: s5 :: s6 :: s7 :: s8 :: s9 :: s10 :: s11 :: s12 :: s13 :: s14 :: s15 :: .dk :: ρ) Q = Q .dk (s0 :: s1 :: s2 :: s3 :: s4 :: s5 :: s6 :: s7 :: s8 :: s9 :: s10 :: s11 :: s12 :: s13 :: s14 :: s15 :: .dk :: ρ)) ∧
  (∀ (s0 s1 s2 s3 s4 s5 s6 s7 s8 s9 s10 s11 s12 s13 s14 s15 : Sl) (d : D) (ρ : En) (K : D → Prop), peekQ (s0 :: s1 :: s2 :: s3 :: s4 :: s5 :: s6 :: s7 :: s8 :: s9 :: s10 :: s11 :: s12 :: s13 :: s14 :: s15 :: .ow d :: ρ) (.br 16) K = K d) ∧
  (∀ (s0 s1 s2 s3 s4 s5 s6 s7 s8 s9 s10 s11 s12 s13 s14 s15 : Sl) (d : D) (ρ : En) (K : D → En → Prop), takeRQ (s0 :: s1 :: s2 :: s3 :: s4 :: s5 :: s6 :: s7 :: s8 :: s9 :: s10 :: s11 :: s12 :: s13 :: s14 :: s15 :: .ow d :: ρ) (.br 16) K = K d (s0 :: s1 :: s2 :: s3 :: s4 :: s5 :: s6 :: s7 :: s8 :: s9 :: s10 :: s11 :: s12 :: s13 :: s14 :: s15 :: .im d :: ρ)) ∧
  (∀ (s0 s1 s2 s3 s4 s5 s6 s7 s8 s9 s10 s11 s12 s13 s14 s15 : Sl) (d : D) (ρ : En) (K : Sl → En → Prop), slotRQ (s0 :: s1 :: s2 :: s3 :: s4 :: s5 :: s6 :: s7 :: s8 :: s9 :: s10 :: s11 :: s12 :: s13 :: s14 :: s15 :: .ow d :: ρ) (.br 16) K = K (.im d) (s0 :: s1 :: s2 :: s3 :: s4 :: s5 :: s6 :: s7 :: s8 :: s9 :: s10 :: s11 :: s12 :: s13 :: s14 :: s15 :: .im d :: ρ)) ∧
  (∀ (s0 s1 s2 s3 s4 s5 s6 s7 s8 s9 s10 s11 s12 s13 s14 s15 : Sl) (d : D) (ρ : En) (K : R → Prop), retRQ (s0 :: s1 :: s2 :: s3 :: s4 :: s5 :: s6 :: s7 :: s8 :: s9 :: s10 :: s11 :: s12 :: s13 :: s14 :: s15 :: .ow d :: ρ) (.br 16) K = K (.fr d)) ∧
  (∀ (s0 s1 s2 s3 s4 s5 s6 s7 s8 s9 s10 s11 s12 s13 s14 s15 : Sl) (d : D) (ρ : En) (rs : List R) (K : En → Prop), frzK (s0 :: s1 :: s2 :: s3 :: s4 :: s5 :: s6 :: s7 :: s8 :: s9 :: s10 :: s11 :: s12 :: s13 :: s14 :: s15 :: .ow d :: ρ) (.br 16 :: rs) K = frzK (s0 :: s1 :: s2 :: s3 :: s4 :: s5 :: s6 :: s7 :: s8 :: s9 :: s10 :: s11 :: s12 :: s13 :: s14 :: s15 :: .im d :: ρ) rs K) ∧
  (∀ (s0 s1 s2 s3 s4 s5 s6 s7 s8 s9 s10 s11 s12 s13 s14 s15 : Sl) (d : D) (ρ : En) (K : D → Prop), peekQ (s0 :: s1 :: s2 :: s3 :: s4 :: s5 :: s6 :: s7 :: s8 :: s9 :: s10 :: s11 :: s12 :: s13 :: s14 :: s15 :: .im d :: ρ) (.br 16) K = K d) ∧
  (∀ (s0 s1 s2 s3 s4 s5 s6 s7 s8 s9 s10 s11 s12 s13 s14 s15 : Sl) (d : D) (ρ : En) (K : D → En → Prop), takeRQ (s0 :: s1 :: s2 :: s3 :: s4 :: s5 :: s6 :: s7 :: s8 :: s9 :: s10 :: s11 :: s12 :: s13 :: s14 :: s15 :: .im d :: ρ) (.br 16) K = K d (s0 :: s1 :: s2 :: s3 :: s4 :: s5 :: s6 :: s7 :: s8 :: s9 :: s10 :: s11 :: s12 :: s13 :: s14 :: s15 :: .im d :: ρ)) ∧
  (∀ (s0 s1 s2 s3 s4 s5 s6 s7 s8 s9 s10 s11 s12 s13 s14 s15 : Sl) (d : D) (ρ : En) (K : Sl → En → Prop), slotRQ (s0 :: s1 :: s2 :: s3 :: s4 :: s5 :: s6 :: s7 :: s8 :: s9 :: s10 :: s11 :: s12 :: s13 :: s14 :: s15 :: .im d :: ρ) (.br 16) K = K (.im d) (s0 :: s1 :: s2 :: s3 :: s4 :: s5 :: s6 :: s7 :: s8 :: s9 :: s10 :: s11 :: s12 :: s13 :: s14 :: s15 :: .im d :: ρ)) ∧
  (∀ (s0 s1 s2 s3 s4 s5 s6 s7 s8 s9 s10 s11 s12 s13 s14 s15 : Sl) (d : D) (ρ : En) (K : R → Prop), retRQ (s0 :: s1 :: s2 :: s3 :: s4 :: s5 :: s6 :: s7 :: s8 :: s9 :: s10 :: s11 :: s12 :: s13 :: s14 :: s15 :: .im d :: ρ) (.br 16) K = K (.im d)) ∧
  (∀ (s0 s1 s2 s3 s4 s5 s6 s7 s8 s9 s10 s11 s12 s13 s14 s15 : Sl) (d : D) (ρ : En) (rs : List R) (K : En → Prop), frzK (s0 :: s1 :: s2 :: s3 :: s4 :: s5 :: s6 :: s7 :: s8 :: s9 :: s10 :: s11 :: s12 :: s13 :: s14 :: s15 :: .im d :: ρ) (.br 16 :: rs) K = frzK (s0 :: s1 :: s2 :: s3 :: s4 :: s5 :: s6 :: s7 :: s8 :: s9 :: s10 :: s11 :: s12 :: s13 :: s14 :: s15 :: .im d :: ρ) rs K) ∧
  (∀ (s0 s1 s2 s3 s4 s5 s6 s7 s8 s9 s10 s11 s12 s13 s14 s15 : Sl) (s t : Sl) (ρ : En) (K : En → Prop), setK (s0 :: s1 :: s2 :: s3 :: s4 :: s5 :: s6 :: s7 :: s8 :: s9 :: s10 :: s11 :: s12 :: s13 :: s14 :: s15 :: s :: ρ) 16 t K = K (s0 :: s1 :: s2 :: s3 :: s4 :: s5 :: s6 :: s7 :: s8 :: s9 :: s10 :: s11 :: s12 :: s13 :: s14 :: s15 :: t :: ρ)) ∧
  (∀ (Γ : Ctx) (Ed : Ex → En → Prop) (s0 s1 s2 s3 s4 s5 s6 s7 s8 s9 s10 s11 s12 s13 s14 s15 : Sl) (ds : List D) (e : IE) (ρ : En) (Q : R → En → Prop), wpEQ Γ Ed (.app 16 e) (s0 :: s1 :: s2 :: s3 :: s4 :: s5 :: s6 :: s7 :: s8 :: s9 :: s10 :: s11 :: s12 :: s13 :: s14 :: s15 :: .ow (.list ds) :: ρ) Q = wpEQ Γ Ed e (s0 :: s1 :: s2 :: s3 :: s4 :: s5 :: s6 :: s7 :: s8 :: s9 :: s10 :: s11 :: s12 :: s13 :: s14 :: s15 :: .ow (.list ds) :: ρ) fun r ρ1 => takeRQ ρ1 r fun d ρ2 => appK ρ2 16 d Q) ∧
  (∀ (s0 s1 s2 s3 s4 s5 s6 s7 s8 s9 s10 s11 s12 s13 s14 s15 : Sl) (ds : List D) (d : D) (ρ : En) (Q : R → En → Prop), appK (s0 :: s1 :: s2 :: s3 :: s4 :: s5 :: s6 :: s7 :: s8 :: s9 :: s10 :: s11 :: s12 :: s13 :: s14 :: s15 :: .ow (.list ds) :: ρ) 16 d Q = (ds.length < sizeLine ∧ Q (.im .none) (s0 :: s1 :: s2 :: s3 :: s4 :: s5 :: s6 :: s7 :: s8 :: s9 :: s10 :: s11 :: s12 :: s13 :: s14 :: s15 :: .ow (.list (ds ++ [d])) :: ρ))) ∧
  (∀ (Γ : Ctx) (Ed : Ex → En → Prop) (s0 s1 s2 s3 s4 s5 s6 s7 s8 s9 s10 s11 s12 s13 s14 s15 : Sl) (ds : List D) (e : IE) (ρ : En) (Q : R → En → Prop), wpEQ Γ Ed (.popAt 16 e) (s0 :: s1 :: s2 :: s3 :: s4 :: s5 :: s6 :: s7 :: s8 :: s9 :: s10 :: s11 :: s12 :: s13 :: s14 :: s15 :: .ow (.list ds) :: ρ) Q = wpEQ Γ Ed e (s0 :: s1 :: s2 :: s3 :: s4 :: s5 :: s6 :: s7 :: s8 :: s9 :: s10 :: s11 :: s12 :: s13 :: s14 :: s15 :: .ow (.list ds) :: ρ) fun r ρ1 => popK r ρ1 16 Q) ∧
  (∀ (Γ : Ctx) (s0 s1 s2 s3 s4 s5 s6 s7 s8 s9 s10 s11 s12 s13 s14 s15 : Sl) (ds : List D) (k : IE) (d : D) (ρ : En) (K : En → Prop), asgTQ Γ (.sub 16 k) d (s0 :: s1 :: s2 :: s3 :: s4 :: s5 :: s6 :: s7 :: s8 :: s9 :: s10 :: s11 :: s12 :: s13 :: s14 :: s15 :: .ow (.list ds) :: ρ) K = wpEQ Γ noEx k (s0 :: s1 :: s2 :: s3 :: s4 :: s5 :: s6 :: s7 :: s8 :: s9 :: s10 :: s11 :: s12 :: s13 :: s14 :: s15 :: .ow (.list ds) :: ρ) fun r ρ1 => stoK r ρ1 16 d K) ∧
  (∀ (s0 s1 s2 s3 s4 s5 s6 s7 s8 s9 s10 s11 s12 s13 s14 s15 : Sl) (ds : List D) (j : Int) (d : D) (ρ : En) (K : En → Prop), stoK (.im (.int j)) (s0 :: s1 :: s2 :: s3 :: s4 :: s5 :: s6 :: s7 :: s8 :: s9 :: s10 :: s11 :: s12 :: s13 :: s14 :: s15 :: .ow (.list ds) :: ρ) 16 d K = mxK (ixN ds.length j) fun m => K (s0 :: s1 :: s2 :: s3 :: s4 :: s5 :: s6 :: s7 :: s8 :: s9 :: s10 :: s11 :: s12 :: s13 :: s14 :: s15 :: .ow (.list (ds.set m d)) :: ρ)) ∧
  (∀ (s0 s1 s2 s3 s4 s5 s6 s7 s8 s9 s10 s11 s12 s13 s14 s15 : Sl) (ds : List D) (k : Int) (ρ : En) (Q : R → En → Prop), popK (.im (.int k)) (s0 :: s1 :: s2 :: s3 :: s4 :: s5 :: s6 :: s7 :: s8 :: s9 :: s10 :: s11 :: s12 :: s13 :: s14 :: s15 :: .ow (.list ds) :: ρ) 16 Q = ((-(2 ^ 63) ≤ k ∧ k < 2 ^ 63) ∧ mxK (seqIndex? k ds.length) fun j => ixK ds[j]? fun d => Q (.im d) (s0 :: s1 :: s2 :: s3 :: s4 :: s5 :: s6 :: s7 :: s8 :: s9 :: s10 :: s11 :: s12 :: s13 :: s14 :: s15 :: .ow (.list (ds.eraseIdx j)) :: ρ))) ∧
  (∀ (Γ : Ctx) (Ed : Ex → En → Prop) (s0 s1 s2 s3 s4 s5 s6 s7 s8 s9 s10 s11 s12 s13 s14 s15 s16 : Sl) (d : D) (ρ : En) (Q : R → En → Prop), wpEQ Γ Ed (.var 17) (s0 :: s1 :: s2 :: s3 :: s4 :: s5 :: s6 :: s7 :: s8 :: s9 :: s10 :: s11 :: s12 :: s13 :: s14 :: s15 :: s16 :: .im d :: ρ) Q = Q (.im d) (s0 :: s1 :: s2 :: s3 :: s4 :: s5 :: s6 :: s7 :: s8 :: s9 :: s10 :: s11 :: s12 :: s13 :: s14 :: s15 :: s16 :: .im d :: ρ)) ∧
  (∀ (Γ : Ctx) (Ed : Ex → En → Prop) (s0 s1 s2 s3 s4 s5 s6 s7 s8 s9 s10 s11 s12 s13 s14 s15 s16 : Sl) (d : D) (ρ : En) (Q : R → En → Prop), wpEQ Γ Ed (.var 17) (s0 :: s1 :: s2 :: s3 :: s4 :: s5 :: s6 :: s7 :: s8 :: s9 :: s10 :: s11 :: s12 :: s13 :: s14 :: s15 :: s16 :: .ow d :: ρ) Q = Q (.br 17) (s0 :: s1 :: s2 :: s3 :: s4 :: s5 :: s6 :: s7 :: s8 :: s9 :: s10 :: s11 :: s12 :: s13 :: s14 :: s15 :: s16 :: .ow d :: ρ)) ∧
  (∀ (Γ : Ctx) (Ed : Ex → En → Prop) (s0 s1 s2 s3 s4 s5 s6 s7 s8 s9 s10 s11 s12 s13 s14 s15 s16 : Sl) (ρ : En) (Q : R → En → Prop), wpEQ Γ Ed (.var 17) (s0 :: s1 :: s2 :: s3 :: s4 :: s5 :: s6 :: s7 :: s8 :: s9 :: s10 :: s11 :: s12 :: s13 :: s14 :: s15 :: s16 :: .dk :: ρ) Q = Q .dk (s0 :: s1 :: s2 :: s3 :: s4 :: s5 :: s6 :: s7 :: s8 :: s9 :: s10 :: s11 :: s12 :: s13 :: s14 :: s15 :: s16 :: .dk :: ρ)) ∧
  (∀ (s0 s1 s2 s3 s4 s5 s6 s7 s8 s9 s10 s11 s12 s13 s14 s15 s16 : Sl) (d : D) (ρ : En) (K : D → Prop), peekQ (s0 :: s1 :: s2 :: s3 :: s4 :: s5 :: s6 :: s7 :: s8 :: s9 :: s10 :: s11 :: s12 :: s13 :: s14 :: s15 :: s16 :: .ow d :: ρ) (.br 17) K = K d) ∧
  (∀ (s0 s1 s2 s3 s4 s5 s6 s7 s8 s9 s10 s11 s12 s13 s14 s15 s16 : Sl) (d : D) (ρ : En) (K : D → En → Prop), takeRQ (s0 :: s1 :: s2 :: s3 :: s4 :: s5 :: s6 :: s7 :: s8 :: s9 :: s10 :: s11 :: s12 :: s13 :: s14 :: s15 :: s16 :: .ow d :: ρ) (.br 17) K = K d (s0 :: s1 :: s2 :: s3 :: s4 :: s5 :: s6 :: s7 :: s8 :: s9 :: s10 :: s11 :: s12 :: s13 :: s14 :: s15 :: s16 :: .im d :: ρ)) ∧
  (∀ (s0 s1 s2 s3 s4 s5 s6 s7 s8 s9 s10 s11 s12 s13 s14 s15 s16 : Sl) (d : D) (ρ : En) (K : Sl → En → Prop), slotRQ (s0 :: s1 :: s2 :: s3 :: s4 :: s5 :: s6 :: s7 :: s8 :: s9 :: s10 :: s11 :: s12 :: s13 :: s14 :: s15 :: s16 :: .ow d :: ρ) (.br 17) K = K (.im d) (s0 :: s1 :: s2 :: s3 :: s4 :: s5 :: s6 :: s7 :: s8 :: s9 :: s10 :: s11 :: s12 :: s13 :: s14 :: s15 :: s16 :: .im d :: ρ)) ∧
  (∀ (s0 s1 s2 s3 s4 s5 s6 s7 s8 s9 s10 s11 s12 s13 s14 s15 s16 : Sl) (d : D) (ρ : En) (K : R → Prop), retRQ (s0 :: s1 :: s2 :: s3 :: s4 :: s5 :: s6 :: s7 :: s8 :: s9 :: s10 :: s11 :: s12 :: s13 :: s14 :: s15 :: s16 :: .ow d :: ρ) (.br 17) K = K (.fr d)) ∧
  (∀ (s0 s1 s2 s3 s4 s5 s6 s7 s8 s9 s10 s11 s12 s13 s14 s15 s16 : Sl) (d : D) (ρ : En) (rs : List R) (K : En → Prop), frzK (s0 :: s1 :: s2 :: s3 :: s4 :: s5 :: s6 :: s7 :: s8 :: s9 :: s10 :: s11 :: s12 :: s13 :: s14 :: s15 :: s16 :: .ow d :: ρ) (.br 17 :: rs) K = frzK (s0 :: s1 :: s2 :: s3 :: s4 :: s5 :: s6 :: s7 :: s8 :: s9 :: s10 :: s11 :: s12 :: s13 :: s14 :: s15 :: s16 :: .im d :: ρ) rs K) ∧
  (∀ (s0 s1 s2 s3 s4 s5 s6 s7 s8 s9 s10 s11 s12 s13 s14 s15 s16 : Sl) (d : D) (ρ : En) (K : D → Prop), peekQ (s0 :: s1 :: s2 :: s3 :: s4 :: s5 :: s6 :: s7 :: s8 :: s9 :: s10 :: s11 :: s12 :: s13 :: s14 :: s15 :: s16 :: .im d :: ρ) (.br 17) K = K d) ∧
  (∀ (s0 s1 s2 s3 s4 s5 s6 s7 s8 s9 s10 s11 s12 s13 s14 s15 s16 : Sl) (d : D) (ρ : En) (K : D → En → Prop), takeRQ (s0 :: s1 :: s2 :: s3 :: s4 :: s5 :: s6 :: s7 :: s8 :: s9 :: s10 :: s11 :: s12 :: s13 :: s14 :: s15 :: s16 :: .im d :: ρ) (.br 17) K = K d (s0 :: s1 :: s2 :: s3 :: s4 :: s5 :: s6 :: s7 :: s8 :: s9 :: s10 :: s11 :: s12 :: s13 :: s14 :: s15 :: s16 :: .im d :: ρ)) ∧
  (∀ (s0 s1 s2 s3 s4 s5 s6 s7 s8 s9 s10 s11 s12 s13 s14 s15 s16 : Sl) (d : D) (ρ : En) (K : Sl → En → Prop), slotRQ (s0 :: s1 :: s2 :: s3 :: s4 :: s5 :: s6 :: s7 :: s8 :: s9 :: s10 :: s11 :: s12 :: s13 :: s14 :: s15 :: s16 :: .im d :: ρ) (.br 17) K = K (.im d) (s0 :: s1 :: s2 :: s3 :: s4 :: s5 :: s6 :: s7 :: s8 :: s9 :: s10 :: s11 :: s12 :: s13 :: s14 :: s15 :: s16 :: .im d :: ρ)) ∧
  (∀ (s0 s1 s2 s3 s4 s5 s6 s7 s8 s9 s10 s11 s12 s13 s14 s15 s16 : Sl) (d : D) (ρ : En) (K : R → Prop), retRQ (s0 :: s1 :: s2 :: s3 :: s4 :: s5 :: s6 :: s7 :: s8 :: s9 :: s10 :: s11 :: s12 :: s13 :: s14 :: s15 :: s16 :: .im d :: ρ) (.br 17) K = K (.im d)) ∧
  (∀ (s0 s1 s2 s3 s4 s5 s6 s7 s8 s9 s10 s11 s12 s13 s14 s15 s16 : Sl) (d : D) (ρ : En) (rs : List R) (K : En → Prop), frzK (s0 :: s1 :: s2 :: s3 :: s4 :: s5 :: s6 :: s7 :: s8 :: s9 :: s10 :: s11 :: s12 :: s13 :: s14 :: s15 :: s16 :: .im d :: ρ) (.br 17 :: rs) K = frzK (s0 :: s1 :: s2 :: s3 :: s4 :: s5 :: s6 :: s7 :: s8 :: s9 :: s10 :: s11 :: s12 :: s13 :: s14 :: s15 :: s16 :: .im d :: ρ) rs K) ∧
  (∀ (s0 s1 s2 s3 s4 s5 s6 s7 s8 s9 s10 s11 s12 s13 s14 s15 s16 : Sl) (s t : Sl) (ρ : En) (K : En → Prop), setK (s0 :: s1 :: s2 :: s3 :: s4 :: s5 :: s6 :: s7 :: s8 :: s9 :: s10 :: s11 :: s12 :: s13 :: s14 :: s15 :: s16 :: s :: ρ) 17 t K = K (s0 :: s1 :: s2 :: s3 :: s4 :: s5 :: s6 :: s7 :: s8 :: s9 :: s10 :: s11 :: s12 :: s13 :: s14 :: s15 :: s16 :: t :: ρ)) ∧
  (∀ (Γ : Ctx) (Ed : Ex → En → Prop) (s0 s1 s2 s3 s4 s5 s6 s7 s8 s9 s10 s11 s12 s13 s14 s15 s16 : Sl) (ds : List D) (e : IE) (ρ : En) (Q : R → En → Prop), wpEQ Γ Ed (.app 17 e) (s0 :: s1 :: s2 :: s3 :: s4 :: s5 :: s6 :: s7 :: s8 :: s9 :: s10 :: s11 :: s12 :: s13 :: s14 :: s15 :: s16 :: .ow (.list ds) :: ρ) Q = wpEQ Γ Ed e (s0 :: s1 :: s2 :: s3 :: s4 :: s5 :: s6 :: s7 :: s8 :: s9 :: s10 :: s11 :: s12 :: s13 :: s14 :: s15 :: s16 :: .ow (.list ds) :: ρ) fun r ρ1 => takeRQ ρ1 r fun d ρ2 => appK ρ2 17 d Q) ∧
  (∀ (s0 s1 s2 s3 s4 s5 s6 s7 s8 s9 s10 s11 s12 s13 s14 s15 s16 : Sl) (ds : List D) (d : D) (ρ : En) (Q : R → En → Prop), appK (s0 :: s1 :: s2 :: s3 :: s4 :: s5 :: s6 :: s7 :: s8 :: s9 :: s10 :: s11 :: s12 :: s13 :: s14 :: s15 :: s16 :: .ow (.list ds) :: ρ) 17 d Q = (ds.length < sizeLine ∧ Q (.im .none) (s0 :: s1 :: s2 :: s3 :: s4 :: s5 :: s6 :: s7 :: s8 :: s9 :: s10 :: s11 :: s12 :: s13 :: s14 :: s15 :: s16 :: .ow (.list (ds ++ [d])) :: ρ))) ∧
  (∀ (Γ : Ctx) (Ed : Ex → En → Prop) (s0 s1 s2 s3 s4 s5 s6 s7 s8 s9 s10 s11 s12 s13 s14 s15 s16 : Sl) (ds : List D) (e : IE) (ρ : En) (Q : R → En → Prop), wpEQ Γ Ed (.popAt 17 e) (s0 :: s1 :: s2 :: s3 :: s4 :: s5 :: s6 :: s7 :: s8 :: s9 :: s10 :: s11 :: s12 :: s13 :: s14 :: s15 :: s16 :: .ow (.list ds) :: ρ) Q = wpEQ Γ Ed e (s0 :: s1 :: s2 :: s3 :: s4 :: s5 :: s6 :: s7 :: s8 :: s9 :: s10 :: s11 :: s12 :: s13 :: s14 :: s15 :: s16 :: .ow (.list ds) :: ρ) fun r ρ1 => popK r ρ1 17 Q) ∧
  (∀ (Γ : Ctx) (s0 s1 s2 s3 s4 s5 s6 s7 s8 s9 s10 s11 s12 s13 s14 s15 s16 : Sl) (ds : List D) (k : IE) (d : D) (ρ : En) (K : En → Prop), asgTQ Γ (.sub 17 k) d (s0 :: s1 :: s2 :: s3 :: s4 :: s5 :: s6 :: s7 :: s8 :: s9 :: s10 :: s11 :: s12 :: s13 :: s14 :: s15 :: s16 :: .ow (.list ds) :: ρ) K = wpEQ Γ noEx k (s0 :: s1 :: s2 :: s3 :: s4 :: s5 :: s6 :: s7 :: s8 :: s9 :: s10 :: s11 :: s12 :: s13 :: s14 :: s15 :: s16 :: .ow (.list ds) :: ρ) fun r ρ1 => stoK r ρ1 17 d K) ∧
  (∀ (s0 s1 s2 s3 s4 s5 s6 s7 s8 s9 s10 s11 s12 s13 s14 s15 s16 : Sl) (ds : List D) (j : Int) (d : D) (ρ : En) (K : En → Prop), stoK (.im (.int j)) (s0 :: s1 :: s2 :: s3 :: s4 :: s5 :: s6 :: s7 :: s8 :: s9 :: s10 :: s11 :: s12 :: s13 :: s14 :: s15 :: s16 :: .ow (.list ds) :: ρ) 17 d K = mxK (ixN ds.length j) fun m => K (s0 :: s1 :: s2 :: s3 :: s4 :: s5 :: s6 :: s7 :: s8 :: s9 :: s10 :: s11 :: s12 :: s13 :: s14 :: s15 :: s16 :: .ow (.list (ds.set m d)) :: ρ)) ∧
  (∀ (s0 s1 s2 s3 s4 s5 s6 s7 s8 s9 s10 s11 s12 s13 s14 s15 s16 : Sl) (ds : List D) (k : Int) (ρ : En) (Q : R → En → Prop), popK (.im (.int k)) (s0 :: s1 :: s2 :: s3 :: s4 :: s5 :: s6 :: s7 :: s8 :: s9 :: s10 :: s11 :: s12 :: s13 :: s14 :: s15 :: s16 :: .ow (.list ds) :: ρ) 17 Q = ((-(2 ^ 63) ≤ k ∧ k < 2 ^ 63) ∧ mxK (seqIndex? k ds.length) fun j => ixK ds[j]? fun d => Q (.im d) (s0 :: s1 :: s2 :: s3 :: s4 :: s5 :: s6 :: s7 :: s8 :: s9 :: s10 :: s11 :: s12 :: s13 :: s14 :: s15 :: s16 :: .ow (.list (ds.eraseIdx j)) :: ρ))) := ⟨by intros; rfl, by intros; rfl, by intros; rfl, by intros; rfl, by intros; rfl, by intros; rfl, by intros; rfl, by intros; rfl, by intros; rfl, by intros; rfl, by intros; rfl, by intros; rfl, by intros; rfl, by intros; rfl, by intros; exact propext ⟨fun h => h.2, fun h => ⟨⟨_, rfl⟩, h⟩⟩, by intros; rfl, by intros; exact propext ⟨fun h => h.2, fun h => ⟨⟨_, rfl⟩, h⟩⟩, by intros; exact propext ⟨fun h => h.2, fun h => ⟨⟨_, rfl⟩, h⟩⟩, by intros; rfl, by intros; rfl, by intros; rfl, by intros; rfl, by intros; rfl, by intros; rfl, by intros; rfl, by intros; rfl, by intros; rfl, by intros; rfl, by intros; rfl, by intros; rfl, by intros; rfl, by intros; rfl, by intros; rfl, by intros; rfl, by intros; exact propext ⟨fun h => h.2, fun h => ⟨⟨_, rfl⟩, h⟩⟩, by intros; rfl, by intros; exact propext ⟨fun h => h.2, fun h => ⟨⟨_, rfl⟩, h⟩⟩, by intros; exact propext ⟨fun h => h.2, fun h => ⟨⟨_, rfl⟩, h⟩⟩, by intros; rfl, by intros; rfl⟩
theorem VS9 : (∀ (Γ : Ctx) (Ed : Ex → En → Prop) (s0 s1 s2 s3 s4 s5 s6 s7 s8 s9 s10 s11 s12 s13 s14 s15 s16 s17 : Sl) (d : D) (ρ : En) (Q : R → En → Prop), wpEQ Γ Ed (.var 18) (s0 :: s1 :: s2 :: s3 :: s4 :: s5 :: s6 :: s7 :: s8 :: s9 :: s10 :: s11 :: s12 :: s13 :: s14 :: s15 :: s16 :: s17 :: .im d :: ρ) Q = Q (.im d) (s0 :: s1 :: s2 :: s3 :: s4 :: s5 :: s6 :: s7 :: s8 :: s9 :: s10 :: s11 :: s12 :: s13 :: s14 :: s15 :: s16 :: s17 :: .im d :: ρ)) ∧
  (∀ (Γ : Ctx) (Ed : Ex → En → Prop) (s0 s1 s2 s3 s4 s5 s6 s7 s8 s9 s10 s11 s12 s13 s14 s15 s16 s17 : Sl) (d : D) (ρ : En) (Q : R → En → Prop), wpEQ Γ Ed (.var 18) (s0 :: s1 :: s2 :: s3 :: s4 :: s5 :: s6 :: s7 :: s8 :: s9 :: s10 :: s11 :: s12 :: s13 :: s14 :: s15 :: s16 :: s17 :: .ow d :: ρ) Q = Q (.br 18) (s0 :: s1 :: s2 :: s3 :: s4 :: s5 :: s6 :: s7 :: s8 :: s9 :: s10 :: s11 :: s12 :: s13 :: s14 :: s15 :: s16 :: s17 :: .ow d :: ρ)) ∧
  (∀ (Γ : Ctx) (Ed : Ex → En → Prop) (s0 s1 s2 s3 s4 s5 s6 s7 s8 s9 s10 s11 s12 s13 s14 s15 s16 s17 : Sl) (ρ : En) (Q : R → En → Prop), wpEQ Γ Ed (.var 18) (s0 :: s1 :: s2 :: s3 :: s4 :: s5 :: s6 :: s7 :: s8 :: s9 :: s10 :: s11 :: s12 :: s13 :: s14 :: s15 :: s16 :: s17 :: .dk :: ρ) Q = Q .dk (s0 :: s1 :: s2 :: s3 :: s4 :: s5 :: s6 :: s7 :: s8 :: s9 :: s10 :: s11 :: s12 :: s13 :: s14 :: s15 :: s16 :: s17 :: .dk :: ρ)) ∧
  (∀ (s0 s1 s2 s3 s4 s5 s6 s7 s8 s9 s10 s11 s12 s13 s14 s15 s16 s17 : Sl) (d : D) (ρ : En) (K : D → Prop), peekQ (s0 :: s1 :: s2 :: s3 :: s4 :: s5 :: s6 :: s7 :: s8 :: s9 :: s10 :: s11 :: s12 :: s13 :: s14 :: s15 :: s16 :: s17 :: .ow d :: ρ) (.br 18) K = K d) ∧
  (∀ (s0 s1 s2 s3 s4 s5 s6 s7 s8 s9 s10 s11 s12 s13 s14 s15 s16 s17 : Sl) (d : D) (ρ : En) (K : D → En → Prop), takeRQ (s0 :: s1 :: s2 :: s3 :: s4 :: s5 :: s6 :: s7 :: s8 :: s9 :: s10 :: s11 :: s12 :: s13 :: s14 :: s15 :: s16 :: s17 :: .ow d :: ρ) (.br 18) K = K d (s0 :: s1 :: s2 :: s3 :: s4 :: s5 :: s6 :: s7 :: s8 :: s9 :: s10 :: s11 :: s12 :: s13 :: s14 :: s15 :: s16 :: s17 :: .im d :: ρ)) ∧
  (∀ (s0 s1 s2 s3 s4 s5 s6 s7 s8 s9 s10 s11 s12 s13 s14 s15 s16 s17 : Sl) (d : D) (ρ : En) (K : Sl → En → Prop), slotRQ (s0 :: s1 :: s2 :: s3 :: s4 :: s5 :: s6 :: s7 :: s8 :: s9 :: s10 :: s11 :: s12 :: s13 :: s14 :: s15 :: s16 :: s17 :: .ow d :: ρ) (.br 18) K = K (.im d) (s0 :: s1 :: s2 :: s3 :: s4 :: s5 :: s6 :: s7 :: s8 :: s9 :: s10 :: s11 :: s12 :: s13 :: s14 :: s15 :: s16 :: s17 :: .im d :: ρ)) ∧
  (∀ (s0 s1 s2 s3 s4 s5 s6 s7 s8 s9 s10 s11 s12 s13 s14 s15 s16 s17 : Sl) (d : D) (ρ : En) (K : R → Prop), retRQ (s0 :: s1 :: s2 :: s3 :: s4 :: s5 :: s6 :: s7 :: s8 :: s9 :: s10 :: s11 :: s12 :: s13 :: s14 :: s15 :: s16 :: s17 :: .ow d :: ρ) (.br 18) K = K (.fr d)) ∧
  (∀ (s0 s1 s2 s3 s4 s5 s6 s7 s8 s9 s10 s11 s12 s13 s14 s15 s16 s17 : Sl) (d : D) (ρ : En) (rs : List R) (K : En → Prop), frzK (s0 :: s1 :: s2 :: s3 :: s4 :: s5 :: s6 :: s7 :: s8 :: s9 :: s10 :: s11 :: s12 :: s13 :: s14 :: s15 :: s16 :: s17 :: .ow d :: ρ) (.br 18 :: rs) K = frzK (s0 :: s1 :: s2 :: s3 :: s4 :: s5 :: s6 :: s7 :: s8 :: s9 :: s10 :: s11 :: s12 :: s13 :: s14 :: s15 :: s16 :: s17 :: .im d :: ρ) rs K) ∧
  (∀ (s0 s1 s2 s3 s4 s5 s6 s7 s8 s9 s10 s11 s12 s13 s14 s15 s16 s17 : Sl) (d : D) (ρ : En) (K : D → Prop), peekQ (s0 :: s1 :: s2 :: s3 :: s4 :: s5 :: s6 :: s7 :: s8 :: s9 :: s10 :: s11 :: s12 :: s13 :: s14 :: s15 :: s16 :: s17 :: .im d :: ρ) (.br 18) K = K d) ∧
  (∀ (s0 s1 s2 s3 s4 s5 s6 s7 s8 s9 s10 s11 s12 s13 s14 s15 s16 s17 : Sl) (d : D) (ρ : En) (K : D → En → Prop), takeRQ (s0 :: s1 :: s2 :: s3 :: s4 :: s5 :: s6 :: s7 :: s8 :: s9 :: s10 :: s11 :: s12 :: s13 :: s14 :: s15 :: s16 :: s17 :: .im d :: ρ) (.br 18) K = K d (s0 :: s1 :: s2 :: s3 :: s4 :: s5 :: s6 :: s7 :: s8 :: s9 :: s10 :: s11 :: s12 :: s13 :: s14 :: s15 :: s16 :: s17 :: .im d :: ρ)) ∧
  (∀ (s0 s1 s2 s3 s4 s5 s6 s7 s8 s9 s10 s11 s12 s13 s14 s15 s16 s17 : Sl) (d : D) (ρ : En) (K : Sl → En → Prop), slotRQ (s0 :: s1 :: s2 :: s3 :: s4 :: s5 :: s6 :: s7 :: s8 :: s9 :: s10 :: s11 :: s12 :: s13 :: s14 :: s15 :: s16 :: s17 :: .im d :: ρ) (.br 18) K = K (.im d) (s0 :: s1 :: s2 :: s3 :: s4 :: s5 :: s6 :: s7 :: s8 :: s9 :: s10 :: s11 :: s12 :: s13 :: s14 :: s15 :: s16 :: s17 :: .im d :: ρ)) ∧
  (∀ (s0 s1 s2 s3 s4 s5 s6 s7 s8 s9 s10 s11 s12 s13 s14 s15 s16 s17 : Sl) (d : D) (ρ : En) (K : R → Prop), retRQ (s0 :: s1 :: s2 :: s3 :: s4 :: s5 :: s6 :: s7 :: s8 :: s9 :: s10 :: s11 :: s12 :: s13 :: s14 :: s15 :: s16 :: s17 :: .im d :: ρ) (.br 18) K = K (.im d)) ∧
  (∀ (s0 s1 s2 s3 s4 s5 s6 s7 s8 s9 s10 s11 s12 s13 s14 s15 s16 s17 : Sl) (d : D) (ρ : En) (rs : List R) (K : En → Prop), frzK (s0 :: s1 :: s2 :: s3 :: s4 :: s5 :: s6 :: s7 :: s8 :: s9 :: s10 :: s11 :: s12 :: s13 :: s14 :: s15 :: s16 :: s17 :: .im d :: ρ) (.br 18 :: rs) K = frzK (s0 :: s1 :: s2 :: s3 :: s4 :: s5 :: s6 :: s7 :: s8 :: s9 :: s10 :: s11 :: s12 :: s13 :: s14 :: s15 :: s16 :: s17 :: .im d :: ρ) rs K) ∧
  (∀ (s0 s1 s2 s3 s4 s5 s6 s7 s8 s9 s10 s11 s12 s13 s14 s15 s16 s17 : Sl) (s t : Sl) (ρ : En) (K : En → Prop), setK (s0 :: s1 :: s2 :: s3 :: s4 :: s5 :: s6 :: s7 :: s8 :: s9 :: s10 :: s11 :: s12 :: s13 :: s14 :: s15 :: s16 :: s17 :: s :: ρ) 18 t K = K (s0 :: s1 :: s2 :: s3 :: s4 :: s5 :: s6 :: s7 :: s8 :: s9 :: s10 :: s11 :: s12 :: s13 :: s14 :: s15 :: s16 :: s17 :: t :: ρ)) ∧
  (∀ (Γ : Ctx) (Ed : Ex → En → Prop) (s0 s1 s2 s3 s4 s5 s6 s7 s8 s9 s10 s11 s12 s13 s14 s15 s16 s17 : Sl) (ds : List D) (e : IE) (ρ : En) (Q : R → En → Prop), wpEQ Γ Ed (.app 18 e) (s0 :: s1 :: s2 :: s3 :: s4 :: s5 :: s6 :: s7 :: s8 :: s9 :: s10 :: s11 :: s12 :: s13 :: s14 :: s15 :: s16 :: s17 :: .ow (.list ds) :: ρ) Q = wpEQ Γ Ed e (s0 :: s1 :: s2 :: s3 :: s4 :: s5 :: s6 :: s7 :: s8 :: s9 :: s10 :: s11 :: s12 :: s13 :: s14 :: s15 :: s16 :: s17 :: .ow (.list ds) :: ρ) fun r ρ1 => takeRQ ρ1 r fun d ρ2 => appK ρ2 18 d Q) ∧
  (∀ (s0 s1 s2 s3 s4 s5 s6 s7 s8 s9 s10 s11 s12 s13 s14 s15 s16 s17 : Sl) (ds : List D) (d : D) (ρ : En) (Q : R → En → Prop), appK (s0 :: s1 :: s2 :: s3 :: s4 :: s5 :: s6 :: s7 :: s8 :: s9 :: s10 :: s11 :: s12 :: s13 :: s14 :: s15 :: s16 :: s17 :: .ow (.list ds) :: ρ) 18 d Q = (ds.length < sizeLine ∧ Q (.im .none) (s0 :: s1 :: s2 :: s3 :: s4 :: s5 :: s6 :: s7 :: s8 :: s9 :: s10 :: s11 :: s12 :: s13 :: s14 :: s15 :: s16 :: s17 :: .ow (.list (ds ++ [d])) :: ρ))) ∧
  (∀ (Γ : Ctx) (Ed : Ex → En → Prop) (s0 s1 s2 s3 s4 s5 s6 s7 s8 s9 s10 s11 s12 s13 s14 s15 s16 s17 : Sl) (ds : List D) (e : IE) (ρ : En) (Q : R → En → Prop), wpEQ Γ Ed (.popAt 18 e) (s0 :: s1 :: s2 :: s3 :: s4 :: s5 :: s6 :: s7 :: s8 :: s9 :: s10 :: s11 :: s12 :: s13 :: s14 :: s15 :: s16 :: s17 :: .ow (.list ds) :: ρ) Q = wpEQ Γ Ed e (s0 :: s1 :: s2 :: s3 :: s4 :: s5 :: s6 :: s7 :: s8 :: s9 :: s10 :: s11 :: s12 :: s13 :: s14 :: s15 :: s16 :: s17 :: .ow (.list ds) :: ρ) fun r ρ1 => popK r ρ1 18 Q) ∧
  (∀ (Γ : Ctx) (s0 s1 s2 s3 s4 s5 s6 s7 s8 s9 s10 s11 s12 s13 s14 s15 s16 s17 : Sl) (ds : List D) (k : IE) (d : D) (ρ : En) (K : En → Prop), asgTQ Γ (.sub 18 k) d (s0 :: s1 :: s2 :: s3 :: s4 :: s5 :: s6 :: s7 :: s8 :: s9 :: s10 :: s11 :: s12 :: s13 :: s14 :: s15 :: s16 :: s17 :: .ow (.list ds) :: ρ) K = wpEQ Γ noEx k (s0 :: s1 :: s2 :: s3 :: s4 :: s5 :: s6 :: s7 :: s8 :: s9 :: s10 :: s11 :: s12 :: s13 :: s14 :: s15 :: s16 :: s17 :: .ow (.list ds) :: ρ) fun r ρ1 => stoK r ρ1 18 d K) ∧
  (∀ (s0 s1 s2 s3 s4 s5 s6 s7 s8 s9 s10 s11 s12 s13 s14 s15 s16 s17 : Sl) (ds : List D) (j : Int) (d : D) (ρ : En) (K : En → Prop), stoK (.im (.int j)) (s0 :: s1 :: s2 :: s3 :: s4 :: s5 :: s6 :: s7 :: s8 :: s9 :: s10 :: s11 :: s12 :: s13 :: s14 :: s15 :: s16 :: s17 :: .ow (.list ds) :: ρ) 18 d K = mxK (ixN ds.length j) fun m => K (s0 :: s1 :: s2 :: s3 :: s4 :: s5 :: s6 :: s7 :: s8 :: s9 :: s10 :: s11 :: s12 :: s13 :: s14 :: s15 :: s16 :: s17 :: .ow (.list (ds.set m d)) :: ρ)) ∧
  (∀ (s0 s1 s2 s3 s4 s5 s6 s7 s8 s9 s10 s11 s12 s13 s14 s15 s16 s17 : Sl) (ds : List D) (k : Int) (ρ : En) (Q : R → En → Prop), popK (.im (.int k)) (s0 :: s1 :: s2 :: s3 :: s4 :: s5 :: s6 :: s7 :: s8 :: s9 :: s10 :: s11 :: s12 :: s13 :: s14 :: s15 :: s16 :: s17 :: .ow (.list ds) :: ρ) 18 Q = ((-(2 ^ 63) ≤ k ∧ k < 2 ^ 63) ∧ mxK (seqIndex? k ds.length) fun j => ixK ds[j]? fun d => Q (.im d) (s0 :: s1 :: s2 :: s3 :: s4 :: s5 :: s6 :: s7 :: s8 :: s9 :: s10 :: s11 :: s12 :: s13 :: s14 :: s15 :: s16 :: s17 :: .ow (.list (ds.eraseIdx j)) :: ρ))) ∧
  (∀ (Γ : Ctx) (Ed : Ex → En → Prop) (s0 s1 s2 s3 s4 s5 s6 s7 s8 s9 s10 s11 s12 s13 s14 s15 s16 s17 s18 : Sl) (d : D) (ρ : En) (Q : R → En → Prop), wpEQ Γ Ed (.var 19) (s0 :: s1 :: s2 :: s3 :: s4 :: s5 :: s6 :: s7 :: s8 :: s9 :: s10 :: s11 :: s12 :: s13 :: s14 :: s15 :: s16 :: s17 :: s18 :: .im d :: ρ) Q = Q (.im d) (s0 :: s1 :: s2 :: s3 :: s4 :: s5 :: s6 :: s7 :: s8 :: s9 :: s10 :: s11 :: s12 :: s13 :: s14 :: s15 :: s16 :: s17 :: s18 :: .im d :: ρ)) ∧
  (∀ (Γ : Ctx) (Ed : Ex → En → Prop) (s0 s1 s2 s3 s4 s5 s6 s7 s8 s9 s10 s11 s12 s13 s14 s15 s16 s17 s18 : Sl) (d : D) (ρ : En) (Q : R → En → Prop), wpEQ Γ Ed (.var 19) (s0 :: s1 :: s2 :: s3 :: s4 :: s5 :: s6 :: s7 :: s8 :: s9 :: s10 :: s11 :: s12 :: s13 :: s14 :: s15 :: s16 :: s17 :: s18 :: .ow d :: ρ) Q = Q (.br 19) (s0 :: s1 :: s2 :: s3 :: s4 :: s5 :: s6 :: s7 :: s8 :: s9 :: s10 :: s11 :: s12 :: s13 :: s14 :: s15 :: s16 :: s17 :: s18 :: .ow d :: ρ)) ∧
  (∀ (Γ : Ctx) (Ed : Ex → En → Prop) (s0 s1 s2 s3 s4 s5 s6 s7 s8 s9 s10 s11 s12 s13 s14 s15 s16 s17 s18 : Sl) (ρ : En) (Q : R → En → Prop), wpEQ Γ Ed (.var 19) (s0 :: s1 :: s2 :: s3 :: s4 :: s5 :: s6 :: s7 :: s8 :: s9 :: s10 :: s11 :: s12 :: s13 :: s14 :: s15 :: s16 :: s17 :: s18 :: .dk :: ρ) Q = Q .dk (s0 :: s1 :: s2 :: s3 :: s4 :: s5 :: s6 :: s7 :: s8 :: s9 :: s10 :: s11 :: s12 :: s13 :: s14 :: s15 :: s16 :: s17 :: s18 :: .dk :: ρ)) ∧
  (∀ (s0 s1 s2 s3 s4 s5 s6 s7 s8 s9 s10 s11 s12 s13 s14 s15 s16 s17 s18 : Sl) (d : D) (ρ : En) (K : D → Prop), peekQ (s0 :: s1 :: s2 :: s3 :: s4 :: s5 :: s6 :: s7 :: s8 :: s9 :: s10 :: s11 :: s12 :: s13 :: s14 :: s15 :: s16 :: s17 :: s18 :: .ow d :: ρ) (.br 19) K = K d) ∧
  (∀ (s0 s1 s2 s3 s4 s5 s6 s7 s8 s9 s10 s11 s12 s13 s14 s15 s16 s17 s18 : Sl) (d : D) (ρ : En) (K : D → En → Prop), takeRQ (s0 :: s1 :: s2 :: s3 :: s4 :: s5 :: s6 :: s7 :: s8 :: s9 :: s10 :: s11 :: s12 :: s13 :: s14 :: s15 :: s16 :: s17 :: s18 :: .ow d :: ρ) (.br 19) K = K d (s0 :: s1 :: s2 :: s3 :: s4 :: s5 :: s6 :: s7 :: s8 :: s9 :: s10 :: s11 :: s12 :: s13 :: s14 :: s15 :: s16 :: s17 :: s18 :: .im d :: ρ)) ∧
  (∀ (s0 s1 s2 s3 s4 s5 s6 s7 s8 s9 s10 s11 s12 s13 s14 s15 s16 s17 s18 : Sl) (d : D) (ρ : En) (K : Sl → En → Prop), slotRQ (s0 :: s1 :: s2 :: s3 :: s4 :: s5 :: s6 :: s7 :: s8 :: s9 :: s10 :: s11 :: s12 :: s13 :: s14 :: s15 :: s16 :: s17 :: s18 :: .ow d :: ρ) (.br 19) K = K (.im d) (s0 :: s1 :: s2 :: s3 :: s4 :: s5 :: s6 :: s7 :: s8 :: s9 :: s10 :: s11 :: s12 :: s13 :: s14 :: s15 :: s16 :: s17 :: s18 :: .im d :: ρ)) ∧
  (∀ (s0 s1 s2 s3 s4 s5 s6 s7 s8 s9 s10 s11 s12 s13 s14 s15 s16 s17 s18 : Sl) (d : D) (ρ : En) (K : R → Prop), retRQ (s0 :: s1 :: s2 :: s3 :: s4 :: s5 :: s6 :: s7 :: s8 :: s9 :: s10 :: s11 :: s12 :: s13 :: s14 :: s15 :: s16 :: s17 :: s18 :: .ow d :: ρ) (.br 19) K = K (.fr d)) ∧
  (∀ (s0 s1 s2 s3 s4 s5 s6 s7 s8 s9 s10 s11 s12 s13 s14 s15 s16 s17 s18 : Sl) (d : D) (ρ : En) (rs : List R) (K : En → Prop), frzK (s0 :: s1 :: s2 :: s3 :: s4 :: s5 :: s6 :: s7 :: s8 :: s9 :: s10 :: s11 :: s12 :: s13 :: s14 :: s15 :: s16 :: s17 :: s18 :: .ow d :: ρ) (.br 19 :: rs) K = frzK (s0 :: s1 :: s2 :: s3 :: s4 :: s5 :: s6 :: s7 :: s8 :: s9 :: s10 :: s11 :: s12 :: s13 :: s14 :: s15 :: s16 :: s17 :: s18 :: .im d :: ρ) rs K) ∧
  (∀ (s0 s1 s2 s3 s4 s5 s6 s7 s8 s9 s10 s11 s12 s13 s14 s15 s16 s17 s18 : Sl) (d : D) (ρ : En) (K : D → Prop), peekQ (s0 :: s1 :: s2 :: s3 :: s4 :: s5 :: s6 :: s7 :: s8 :: s9 :: s10 :: s11 :: s12 :: s13 :: s14 :: s15 :: s16 :: s17 :: s18 :: .im d :: ρ) (.br 19) K = K d) ∧
  (∀ (s0 s1 s2 s3 s4 s5 s6 s7 s8 s9 s10 s11 s12 s13 s14 s15 s16 s17 s18 : Sl) (d : D) (ρ : En) (K : D → En → Prop), takeRQ (s0 :: s1 :: s2 :: s3 :: s4 :: s5 :: s6 :: s7 :: s8 :: s9 :: s10 :: s11 :: s12 :: s13 :: s14 :: s15 :: s16 :: s17 :: s18 :: .im d :: ρ) (.br 19) K = K d (s0 :: s1 :: s2 :: s3 :: s4 :: s5 :: s6 :: s7 :: s8 :: s9 :: s10 :: s11 :: s12 :: s13 :: s14 :: s15 :: s16 :: s17 :: s18 :: .im d :: ρ)) ∧
  (∀ (s0 s1 s2 s3 s4 s5 s6 s7 s8 s9 s10 s11 s12 s13 s14 s15 s16 s17 s18 : Sl) (d : D) (ρ : En) (K : Sl → En → Prop), slotRQ (s0 :: s1 :: s2 :: s3 :: s4 :: s5 :: s6 :: s7 :: s8 :: s9 :: s10 :: s11 :: s12 :: s13 :: s14 :: s15 :: s16 :: s17 :: s18 :: .im d :: ρ) (.br 19) K = K (.im d) (s0 :: s1 :: s2 :: s3 :: s4 :: s5 :: s6 :: s7 :: s8 :: s9 :: s10 :: s11 :: s12 :: s13 :: s14 :: s15 :: s16 :: s17 :: s18 :: .im d :: ρ)) ∧
  (∀ (s0 s1 s2 s3 s4 s5 s6 s7 s8 s9 s10 s11 s12 s13 s14 s15 s16 s17 s18 : Sl) (d : D) (ρ : En) (K : R → Prop), retRQ (s0 :: s1 :: s2 :: s3 :: s4 :: s5 :: s6 :: s7 :: s8 :: s9 :: s10 :: s11 :: s12 :: s13 :: s14 :: s15 :: s16 :: s17 :: s18 :: .im d :: ρ) (.br 19) K = K (.im d)) ∧
  (∀ (s0 s1 s2 s3 s4 s5 s6 s7 s8 s9 s10 s11 s12 s13 s14 s15 s16 s17 s18 : Sl) (d : D) (ρ : En) (rs : List R) (K : En → Prop), frzK (s0 :: s1 :: s2 :: s3 :: s4 :: s5 :: s6 :: s7 :: s8 :: s9 :: s10 :: s11 :: s12 :: s13 :: s14 :: s15 :: s16 :: s17 :: s18 :: .im d :: ρ) (.br 19 :: rs) K = frzK (s0 :: s1 :: s2 :: s3 :: s4 :: s5 :: s6 :: s7 :: s8 :: s9 :: s10 :: s11 :: s12 :: s13 :: s14 :: s15 :: s16 :: s17 :: s18 :: .im d :: ρ) rs K) ∧
  (∀ (s0 s1 s2 s3 s4 s5 s6 s7 s8 s9 s10 s11 s12 s13 s14 s15 s16 s17 s18 : Sl) (s t : Sl) (ρ : En) (K : En → Prop), setK (s0 :: s1 :: s2 :: s3 :: s4 :: s5 :: s6 :: s7 :: s8 :: s9 :: s10 :: s11 :: s12 :: s13 :: s14 :: s15 :: s16 :: s17 :: s18 :: s :: ρ) 19 t K = K (s0 :: s1 :: s2 :: s3 :: s4 :: s5 :: s6 :: s7 :: s8 :: s9 :: s10 :: s11 :: s12 :: s13 :: s14 :: s15 :: s16 :: s17 :: s18 :: t :: ρ)) ∧
  (∀ (Γ : Ctx) (Ed : Ex → En → Prop) (s0 s1 s2 s3 s4 s5 s6 s7 s8 s9 s10 s11 s12 s13 s14 s15 s16 s17 s18 : Sl) (ds : List D) (e : IE) (ρ : En) (Q : R → En → Prop), wpEQ Γ Ed (.app 19 e) (s0 :: s1 :: s2 :: s3 :: s4 :: s5 :: s6 :: s7 :: s8 :: s9 :: s10 :: s11 :: s12 :: s13 :: s14 :: s15 :: s16 :: s17 :: s18 :: .ow (.list ds) :: ρ) Q = wpEQ Γ Ed e (s0 :: s1 :: s2 :: s3 :: s4 :: s5 :: s6 :: s7 :: s8 :: s9 :: s10 :: s11 :: s12 :: s13 :: s14 :: s15 :: s16 :: s17 :: s18 :: .ow (.list ds) :: ρ) fun r ρ1 => takeRQ ρ1 r fun d ρ2 => appK ρ2 19 d Q) ∧
  (∀ (s0 s1 s2 s3 s4 s5 s6 s7 s8 s9 s10 s11 s12 s13 s14 s15 s16 s17 s18 : Sl) (ds : List D) (d : D) (ρ : En) (Q : R → En → Prop), appK (s0 :: s1 :: s2 :: s3 :: s4 :: s5 :: s6 :: s7 :: s8 :: s9 :: s10 :: s11 :: s12 :: s13 :: s14 :: s15 :: s16 :: s17 :: s18 :: .ow (.list ds) :: ρ) 19 d Q = (ds.length < sizeLine ∧ Q (.im .none) (s0 :: s1 :: s2 :: s3 :: s4 :: s5 :: s6 :: s7 :: s8 :: s9 :: s10 :: s11 :: s12 :: s13 :: s14 :: s15 :: s16 :: s17 :: s18 :: .ow (.list (ds ++ [d])) :: ρ))) ∧
  (∀ (Γ : Ctx) (Ed : Ex → En → Prop) (s0 s1 s2 s3 s4 s5 s6 s7 s8 s9 s10 s11 s12 s13 s14 s15 s16 s17 s18 : Sl) (ds : List D) (e : IE) (ρ : En) (Q : R → En → Prop), wpEQ Γ Ed (.popAt 19 e) (s0 :: s1 :: s2 :: s3 :: s4 :: s5 :: s6 :: s7 :: s8 :: s9 :: s10 :: s11 :: s12 :: s13 :: s14 :: s15 :: s16 :: s17 :: s18 :: .ow (.list ds) :: ρ) Q = wpEQ Γ Ed e (s0 :: s1 :: s2 :: s3 :: s4 :: s5 :: s6 :: s7 :: s8 :: s9 :: s10 :: s11 :: s12 :: s13 :: s14 :: s15 :: s16 :: s17 :: s18 :: .ow (.list ds) :: ρ) fun r ρ1 => popK r ρ1 19 Q) ∧
  (∀ (Γ : Ctx) (s0 s1 s2 s3 s4 s5 s6 s7 s8 s9 s10 s11 s12 s13 s14 s15 s16 s17 s18 : Sl) (ds : List D) (k : IE) (d : D) (ρ : En) (K : En → Prop), asgTQ Γ (.sub 19 k) d (s0 :: s1 :: s2 :: s3 :: s4 :: s5 :: s6 :: s7 :: s8 :: s9 :: s10 :: s11 :: s12 :: s13 :: s14 :: s15 :: s16 :: s17 :: s18 :: .ow (.list ds) :: ρ) K = wpEQ Γ noEx k (s0 :: s1 :: s2 :: s3 :: s4 :: s5 :: s6 :: s7 :: s8 :: s9 :: s10 :: s11 :: s12 :: s13 :: s14 :: s15 :: s16 :: s17 :: s18 :: .ow (.list ds) :: ρ) fun r ρ1 => stoK r ρ1 19 d K) ∧
  (∀ (s0 s1 s2 s3 s4 s5 s6 s7 s8 s9 s10 s11 s12 s13 s14 s15 s16 s17 s18 : Sl) (ds : List D) (j : Int) (d : D) (ρ : En) (K : En → Prop), stoK (.im (.int j)) (s0 :: s1 :: s2 :: s3 :: s4 :: s5 :: s6 :: s7 :: s8 :: s9 :: s10 :: s11 :: s12 :: s13 :: s14 :: s15 :: s16 :: s17 :: s18 :: .ow (.list ds) :: ρ) 19 d K = mxK (ixN ds.length j) fun m => K (s0 :: s1 :: s2 :: s3 :: s4 :: s5 :: s6 :: s7 :: s8 :: s9 :: s10 :: s11 :: s12 :: s13 :: s14 :: s15 :: s16 :: s17 :: s18 :: .ow (.list (ds.set m d)) :: ρ)) ∧
  (∀ (s0 s1 s2 s3 s4 s5 s6 s7 s8 s9 s10 s11 s12 s13 s14 s15 s16 s17 s18 : Sl) (ds : List D) (k : Int) (ρ : En) (Q : R → En → Prop), popK (.im (.int k)) (s0 :: s1 :: s2 :: s3 :: s4 :: s5 :: s6 :: s7 :: s8 :: s9 :: s10 :: s11 :: s12 :: s13 :: s14 :: s15 :: s16 :: s17 :: s18 :: .ow (.list ds) :: ρ) 19 Q = ((-(2 ^ 63) ≤ k ∧ k < 2 ^ 63) ∧ mxK (seqIndex? k ds.length) fun j => ixK ds[j]? fun d => Q (.im d) (s0 :: s1 :: s2 :: s3 :: s4 :: s5 :: s6 :: s7 :: s8 :: s9 :: s10 :: s11 :: s12 :: s13 :: s14 :: s15 :: s16 :: s17 :: s18 :: .ow (.list (ds.eraseIdx j)) :: ρ))) := ⟨by intros; rfl, by intros; rfl, by intros; rfl, by intros; rfl, by intros; rfl, by intros; rfl, by intros; rfl, by intros; rfl, by intros; rfl, by intros; rfl, by intros; rfl, by intros; rfl, by intros; rfl, by intros; rfl, by intros; exact propext ⟨fun h => h.2, fun h => ⟨⟨_, rfl⟩, h⟩⟩, by intros; rfl, by intros; exact propext ⟨fun h => h.2, fun h => ⟨⟨_, rfl⟩, h⟩⟩, by intros; exact propext ⟨fun h => h.2, fun h => ⟨⟨_, rfl⟩, h⟩⟩, by intros; rfl, by intros; rfl, by intros; rfl, by intros; rfl, by intros; rfl, by intros; rfl, by intros; rfl, by intros; rfl, by intros; rfl, by intros; rfl, by intros; rfl, by intros; rfl, by intros; rfl, by intros; rfl, by intros; rfl, by intros; rfl, by intros; exact propext ⟨fun h => h.2, fun h => ⟨⟨_, rfl⟩, h⟩⟩, by intros; rfl, by intros; exact propext ⟨fun h => h.2, fun h => ⟨⟨_, rfl⟩, h⟩⟩, by intros; exact propext ⟨fun h => h.2, fun h => ⟨⟨_, rfl⟩, h⟩⟩, by intros; rfl, by intros; rfl⟩
theorem VS10 : (∀ (Γ : Ctx) (Ed : Ex → En → Prop) (s0 s1 s2 s3 s4 s5 s6 s7 s8 s9 s10 s11 s12 s13 s14 s15 s16 s17 s18 s19 : Sl) (d : D) (ρ : En) (Q : R → En → Prop), wpEQ Γ Ed (.var 20) (s0 :: s1 :: s2 :: s3 :: s4 :: s5 :: s6 :: s7 :: s8 :: s9 :: s10 :: s11 :: s12 :: s13 :: s14 :: s15 :: s16 :: s17 :: s18 :: s19 :: .im d :: ρ) Q = Q (.im d) (s0 :: s1 :: s2 :: s3 :: s4 :: s5 :: s6 :: s7 :: s8 :: s9 :: s10 :: s11 :: s12 :: s13 :: s14 :: s15 :: s16 :: s17 :: s18 :: s19 :: .im d :: ρ)) ∧
  (∀ (Γ : Ctx) (Ed : Ex → En → Prop) (s0 s1 s2 s3 s4 s5 s6 s7 s8 s9 s10 s11 s12 s13 s14 s15 s16 s17 s18 s19 : Sl) (d : D) (ρ : En) (Q : R → En → Prop), wpEQ Γ Ed (.var 20) (s0 :: s1 :: s2 :: s3 :: s4 :: s5 :: s6 :: s7 :: s8 :: s9 :: s10 :: s11 :: s12 :: s13 :: s14 :: s15 :: s16 :: s17 :: s18 :: s19 :: .ow d :: ρ) Q = Q (.br 20) (s0 :: s1 :: s2 :: s3 :: s4 :: s5 :: s6 :: s7 :: s8 :: s9 :: s10 :: s11 :: s12 :: s13 :: s14 :: s15 :: s16 :: s17 :: s18 :: s19 :: .ow d :: ρ)) ∧
  (∀ (Γ : Ctx) (Ed : Ex → En → Prop) (s0 s1 s2 s3 s4 s5 s6 s7 s8 s9 s10 s11 s12 s13 s14 s15 s16 s17 s18 s19 : Sl) (ρ : En) (Q : R → En → Prop), wpEQ Γ Ed (.var 20) (s0 :: s1 :: s2 :: s3 :: s4 :: s5 :: s6 :: s7 :: s8 :: s9 :: s10 :: s11 :: s12 :: s13 :: s14 :: s15 :: s16 :: s17 :: s18 :: s19 :: .dk :: ρ) Q = Q .dk (s0 :: s1 :: s2 :: s3 :: s4 :: s5 :: s6 :: s7 :: s8 :: s9 :: s10 :: s11 :: s12 :: s13 :: s14 :: s15 :: s16 :: s17 :: s18 :: s19 :: .dk :: ρ)) ∧
  (∀ (s0 s1 s2 s3 s4 s5 s6 s7 s8 s9 s10 s11 s12 s13 s14 s15 s16 s17 s18 s19 : Sl) (d : D) (ρ : En) (K : D → Prop), peekQ (s0 :: s1 :: s2 :: s3 :: s4 :: s5 :: s6 :: s7 :: s8 :: s9 :: s10 :: s11 :: s12 :: s13 :: s14 :: s15 :: s16 :: s17 :: s18 :: s19 :: .ow d :: ρ) (.br 20) K = K d) ∧
  (∀ (s0 s1 s2 s3 s4 s5 s6 s7 s8 s9 s10 s11 s12 s13 s14 s15 s16 s17 s18 s19 : Sl) (d : D) (ρ : En) (K : D → En → Prop), takeRQ (s0 :: s1 :: s2 :: s3 :: s4 :: s5 :: s6 :: s7 :: s8 :: s9 :: s10 :: s11 :: s12 :: s13 :: s14 :: s15 :: s16 :: s17 :: s18 :: s19 :: .ow d :: ρ) (.br 20) K = K d (s0 :: s1 :: s2 :: s3 :: s4 :: s5 :: s6 :: s7 :: s8 :: s9 :: s10 :: s11 :: s12 :: s13 :: s14 :: s15 :: s16 :: s17 :: s18 :: s19 :: .im d :: ρ)) ∧
  (∀ (s0 s1 s2 s3 s4 s5 s6 s7 s8 s9 s10 s11 s12 s13 s14 s15 s16 s17 s18 s19 : Sl) (d : D) (ρ : En) (K : Sl → En → Prop), slotRQ (s0 :: s1 :: s2 :: s3 :: s4 :: s5 :: s6 :: s7 :: s8 :: s9 :: s10 :: s11 :: s12 :: s13 :: s14 :: s15 :: s16 :: s17 :: s18 :: s19 :: .ow d :: ρ) (.br 20) K = K (.im d) (s0 :: s1 :: s2 :: s3 :: s4 :: s5 :: s6 :: s7 :: s8 :: s9 :: s10 :: s11 :: s12 :: s13 :: s14 :: s15 :: s16 :: s17 :: s18 :: s19 :: .im d :: ρ)) ∧
  (∀ (s0 s1 s2 s3 s4 s5 s6 s7 s8 s9 s10 s11 s12 s13 s14 s15 s16 s17 s18 s19 : Sl) (d : D) (ρ : En) (K : R → Prop), retRQ (s0 :: s1 :: s2 :: s3 :: s4 :: s5 :: s6 :: s7 :: s8 :: s9 :: s10 :: s11 :: s12 :: s13 :: s14 :: s15 :: s16 :: s17 :: s18 :: s19 :: .ow d :: ρ) (.br 20) K = K (.fr d)) ∧
  (∀ (s0 s1 s2 s3 s4 s5 s6 s7 s8 s9 s10 s11 s12 s13 s14 s15 s16 s17 s18 s19 : Sl) (d : D) (ρ : En) (rs : List R) (K : En → Prop), frzK (s0 :: s1 :: s2 :: s3 :: s4 :: s5 :: s6 :: s7 :: s8 :: s9 :: s10 :: s11 :: s12 :: s13 :: s14 :: s15 :: s16 :: s17 :: s18 :: s19 :: .ow d :: ρ) (.br 20 :: rs) K = frzK (s0 :: s1 :: s2 :: s3 :: s4 :: s5 :: s6 :: s7 :: s8 :: s9 :: s10 :: s11 :: s12 :: s13 :: s14 :: s15 :: s16 :: s17 :: s18 :: s19 :: .im d :: ρ) rs K) ∧
  (∀ (s0 s1 s2 s3 s4 s5 s6 s7 s8 s9 s10 s11 s12 s13 s14 s15 s16 s17 s18 s19 : Sl) (d : D) (ρ : En) (K : D → Prop), peekQ (s0 :: s1 :: s2 :: s3 :: s4 :: s5 :: s6 :: s7 :: s8 :: s9 :: s10 :: s11 :: s12 :: s13 :: s14 :: s15 :: s16 :: s17 :: s18 :: s19 :: .im d :: ρ) (.br 20) K = K d) ∧
  (∀ (s0 s1 s2 s3 s4 s5 s6 s7 s8 s9 s10 s11 s12 s13 s14 s15 s16 s17 s18 s19 : Sl) (d : D) (ρ : En) (K : D → En → Prop), takeRQ (s0 :: s1 :: s2 :: s3 :: s4 :: s5 :: s6 :: s7 :: s8 :: s9 :: s10 :: s11 :: s12 :: s13 :: s14 :: s15 :: s16 :: s17 :: s18 :: s19 :: .im d :: ρ) (.br 20) K = K d (s0 :: s1 :: s2 :: s3 :: s4 :: s5 :: s6 :: s7 :: s8 :: s9 :: s10 :: s11 :: s12 :: s13 :: s14 :: s15 :: s16 :: s17 :: s18 :: s19 :: .im d :: ρ)) ∧
  (∀ (s0 s1 s2 s3 s4 s5 s6 s7 s8 s9 s10 s11 s12 s13 s14 s15 s16 s17 s18 s19 : Sl) (d : D) (ρ : En) (K : Sl → En → Prop), slotRQ (s0 :: s1 :: s2 :: s3 :: s4 :: s5 :: s6 :: s7 :: s8 :: s9 :: s10 :: s11 :: s12 :: s13 :: s14 :: s15 :: s16 :: s17 :: s18 :: s19 :: .im d :: ρ) (.br 20) K = K (.im d) (s0 :: s1 :: s2 :: s3 :: s4 :: s5 :: s6 :: s7 :: s8 :: s9 :: s10 :: s11 :: s12 :: s13 :: s14 :: s15 :: s16 :: s17 :: s18 :: s19 :: .im d :: ρ)) ∧
  (∀ (s0 s1 s2 s3 s4 s5 s6 s7 s8 s9 s10 s11 s12 s13 s14 s15 s16 s17 s18 s19 : Sl) (d : D) (ρ : En) (K : R → Prop), retRQ (s0 :: s1 :: s2 :: s3 :: s4 :: s5 :: s6 :: s7 :: s8 :: s9 :: s10 :: s11 :: s12 :: s13 :: s14 :: s15 :: s16 :: s17 :: s18 :: s19 :: .im d :: ρ) (.br 20) K = K (.im d)) ∧
  (∀ (s0 s1 s2 s3 s4 s5 s6 s7 s8 s9 s10 s11 s12 s13 s14 s15 s16 s17 s18 s19 : Sl) (d : D) (ρ : En) (rs : List R) (K : En → Prop), frzK (s0 :: s1 :: s2 :: s3 :: s4 :: s5 :: s6 :: s7 :: s8 :: s9 :: s10 :: s11 :: s12 :: s13 :: s14 :: s15 :: s16 :: s17 :: s18 :: s19 :: .im d :: ρ) (.br 20 :: rs) K = frzK (s0 :: s1 :: s2 :: s3 :: s4 :: s5 :: s6 :: s7 :: s8 :: s9 :: s10 :: s11 :: s12 :: s13 :: s14 :: s15 :: s16 :: s17 :: s18 :: s19 :: .im d :: ρ) rs K) ∧
  (∀ (s0 s1 s2 s3 s4 s5 s6 s7 s8 s9 s10 s11 s12 s13 s14 s15 s16 s17 s18 s19 : Sl) (s t : Sl) (ρ : En) (K : En → Prop), setK (s0 :: s1 :: s2 :: s3 :: s4 :: s5 :: s6 :: s7 :: s8 :: s9 :: s10 :: s11 :: s12 :: s13 :: s14 :: s15 :: s16 :: s17 :: s18 :: s19 :: s :: ρ) 20 t K = K (s0 :: s1 :: s2 :: s3 :: s4 :: s5 :: s6 :: s7 :: s8 :: s9 :: s10 :: s11 :: s12 :: s13 :: s14 :: s15 :: s16 :: s17 :: s18 :: s19 :: t :: ρ)) ∧
  (∀ (Γ : Ctx) (Ed : Ex → En → Prop) (s0 s1 s2 s3 s4 s5 s6 s7 s8 s9 s10 s11 s12 s13 s14 s15 s16 s17 s18 s19 : Sl) (ds : List D) (e : IE) (ρ : En) (Q : R → En → Prop), wpEQ Γ Ed (.app 20 e) (s0 :: s1 :: s2 :: s3 :: s4 :: s5 :: s6 :: s7 :: s8 :: s9 :: s10 :: s11 :: s12 :: s13 :: s14 :: s15 :: s16 :: s17 :: s18 :: s19 :: .ow (.list ds) :: ρ) Q = wpEQ Γ Ed e (s0 :: s1 :: s2 :: s3 :: s4 :: s5 :: s6 :: s7 :: s8 :: s9 :: s10 :: s11 :: s12 :: s13 :: s14 :: s15 :: s16 :: s17 :: s18 :: s19 :: .ow (.list ds) :: ρ) fun r ρ1 => takeRQ ρ1 r fun d ρ2 => appK ρ2 20 d Q) ∧
  (∀ (s0 s1 s2 s3 s4 s5 s6 s7 s8 s9 s10 s11 s12 s13 s14 s15 s16 s17 s18 s19 : Sl) (ds : List D) (d : D) (ρ : En) (Q : R → En → Prop), appK (s0 :: s1 :: s2 :: s3 :: s4 :: s5 :: s6 :: s7 :: s8 :: s9 :: s10 :: s11 :: s12 :: s13 :: s14 :: s15 :: s16 :: s17 :: s18 :: s19 :: .ow (.list ds) :: ρ) 20 d Q = (ds.length < sizeLine ∧ Q (.im .none) (s0 :: s1 :: s2 :: s3 :: s4 :: s5 :: s6 :: s7 :: s8 :: s9 :: s10 :: s11 :: s12 :: s13 :: s14 :: s15 :: s16 :: s17 :: s18 :: s19 :: .ow (.list (ds ++ [d])) :: ρ))) ∧
  (∀ (Γ : Ctx) (Ed : Ex → En → Prop) (s0 s1 s2 s3 s4 s5 s6 s7 s8 s9 s10 s11 s12 s13 s14 s15 s16 s17 s18 s19 : Sl) (ds : List D) (e : IE) (ρ : En) (Q : R → En → Prop), wpEQ Γ Ed (.popAt 20 e) (s0 :: s1 :: s2 :: s3 :: s4 :: s5 :: s6 :: s7 :: s8 :: s9 :: s10 :: s11 :: s12 :: s13 :: s14 :: s15 :: s16 :: s17 :: s18 :: s19 :: .ow (.list ds) :: ρ) Q = wpEQ Γ Ed e (s0 :: s1 :: s2 :: s3 :: s4 :: s5 :: s6 :: s7 :: s8 :: s9 :: s10 :: s11 :: s12 :: s13 :: s14 :: s15 :: s16 :: s17 :: s18 :: s19 :: .ow (.list ds) :: ρ) fun r ρ1 => popK r ρ1 20 Q) ∧
  (∀ (Γ : Ctx) (s0 s1 s2 s3 s4 s5 s6 s7 s8 s9 s10 s11 s12 s13 s14 s15 s16 s17 s18 s19 : Sl) (ds : List D) (k : IE) (d : D) (ρ : En) (K : En → Prop), asgTQ Γ (.sub 20 k) d (s0 :: s1 :: s2 :: s3 :: s4 :: s5 :: s6 :: s7 :: s8 :: s9 :: s10 :: s11 :: s12 :: s13 :: s14 :: s15 :: s16 :: s17 :: s18 :: s19 :: .ow (.list ds) :: ρ) K = wpEQ Γ noEx k (s0 :: s1 :: s2 :: s3 :: s4 :: s5 :: s6 :: s7 :: s8 :: s9 :: s10 :: s11 :: s12 :: s13 :: s14 :: s15 :: s16 :: s17 :: s18 :: s19 :: .ow (.list ds) :: ρ) fun r ρ1 => stoK r ρ1 20 d K) ∧
  (∀ (s0 s1 s2 s3 s4 s5 s6 s7 s8 s9 s10 s11 s12 s13 s14 s15 s16 s17 s18 s19 : Sl) (ds : List D) (j : Int) (d : D) (ρ : En) (K : En → Prop), stoK (.im (.int j)) (s0 :: s1 :: s2 :: s3 :: s4 :: s5 :: s6 :: s7 :: s8 :: s9 :: s10 :: s11 :: s12 :: s13 :: s14 :: s15 :: s16 :: s17 :: s18 :: s19 :: .ow (.list ds) :: ρ) 20 d K = mxK (ixN ds.length j) fun m => K (s0 :: s1 :: s2 :: s3 :: s4 :: s5 :: s6 :: s7 :: s8 :: s9 :: s10 :: s11 :: s12 :: s13 :: s14 :: s15 :: s16 :: s17 :: s18 :: s19 :: .ow (.list (ds.set m d)) :: ρ)) ∧
  (∀ (s0 s1 s2 s3 s4 s5 s6 s7 s8 s9 s10 s11 s12 s13 s14 s15 s16 s17 s18 s19 : Sl) (ds : List D) (k : Int) (ρ : En) (Q : R → En → Prop), popK (.im (.int k)) (s0 :: s1 :: s2 :: s3 :: s4 :: s5 :: s6 :: s7 :: s8 :: s9 :: s10 :: s11 :: s12 :: s13 :: s14 :: s15 :: s16 :: s17 :: s18 :: s19 :: .ow (.list ds) :: ρ) 20 Q = ((-(2 ^ 63) ≤ k ∧ k < 2 ^ 63) ∧ mxK (seqIndex? k ds.length) fun j => ixK ds[j]? fun d => Q (.im d) (s0 :: s1 :: s2 :: s3 :: s4 :: s5 :: s6 :: s7 :: s8 :: s9 :: s10 :: s11 :: s12 :: s13 :: s14 :: s15 :: s16 :: s17 :: s18 :: s19 :: .ow (.list (ds.eraseIdx j)) :: ρ))) ∧
  (∀ (Γ : Ctx) (Ed : Ex → En → Prop) (s0 s1 s2 s3 s4 s5 s6 s7 s8 s9 s10 s11 s12 s13 s14 s15 s16 s17 s18 s19 s20 : Sl) (d : D) (ρ : En) (Q : R → En → Prop), wpEQ Γ Ed (.var 21) (s0 :: s1 :: s2 :: s3 :: s4 :: s5 :: s6 :: s7 :: s8 :: s9 :: s10 :: s11 :: s12 :: s13 :: s14 :: s15 :: s16 :: s17 :: s18 :: s19 :: s20 :: .im d :: ρ) Q = Q (.im d) (s0 :: s1 :: s2 :: s3 :: s4 :: s5 :: s6 :: s7 :: s8 :: s9 :: s10 :: s11 :: s12 :: s13 :: s14 :: s15 :: s16 :: s17 :: s18 :: s19 :: s20 :: .im d :: ρ)) ∧
  (∀ (Γ : Ctx) (Ed : Ex → En → Prop) (s0 s1 s2 s3 s4 s5 s6 s7 s8 s9 s10 s11 s12 s13 s14 s15 s16 s17 s18 s19 s20 : Sl) (d : D) (ρ : En) (Q : R → En → Prop), wpEQ Γ Ed (.var 21) (s0 :: s1 :: s2 :: s3 :: s4 :: s5 :: s6 :: s7 :: s8 :: s9 :: s10 :: s11 :: s12 :: s13 :: s14 :: s15 :: s16 :: s17 :: s18 :: s19 :: s20 :: .ow d :: ρ) Q = Q (.br 21) (s0 :: s1 :: s2 :: s3 :: s4 :: s5 :: s6 :: s7 :: s8 :: s9 :: s10 :: s11 :: s12 :: s13 :: s14 :: s15 :: s16 :: s17 :: s18 :: s19 :: s20 :: .ow d :: ρ)) ∧
  (∀ (Γ : Ctx) (Ed : Ex → En → Prop) (s0 s1 s2 s3 s4 s5 s6 s7 s8 s9 s10 s11 s12 s13 s14 s15 s16 s17 s18 s19 s20 : Sl) (ρ : En) (Q : R → En → Prop), wpEQ Γ Ed (.var 21) (s0 :: s1 :: s2 :: s3 :: s4 :: s5 :: s6 :: s7 :: s8 :: s9 :: s10 :: s11 :: s12 :: s13 :: s14 :: s15 :: s16 :: s17 :: s18 :: s19 :: s20 :: .dk :: ρ) Q = Q .dk (s0 :: s1 :: s2 :: s3 :: s4 :: s5 :: s6 :: s7 :: s8 :: s9 :: s10 :: s11 :: s12 :: s13 :: s14 :: s15 :: s16 :: s17 :: s18 :: s19 :: s20 :: .dk :: ρ)) ∧
  (∀ (s0 s1 s2 s3 s4 s5 s6 s7 s8 s9 s10 s11 s12 s13 s14 s15 s16 s17 s18 s19 s20 : Sl) (d : D) (ρ : En) (K : D → Prop), peekQ (s0 :: s1 :: s2 :: s3 :: s4 :: s5 :: s6 :: s7 :: s8 :: s9 :: s10 :: s11 :: s12 :: s13 :: s14 :: s15 :: s16 :: s17 :: s18 :: s19 :: s20 :: .ow d :: ρ) (.br 21) K = K d) ∧
  (∀ (s0 s1 s2 s3 s4 s5 s6 s7 s8 s9 s10 s11 s12 s13 s14 s15 s16 s17 s18 s19 s20 : Sl) (d : D) (ρ : En) (K : D → En → Prop), takeRQ (s0 :: s1 :: s2 :: s3 :: s4 :: s5 :: s6 :: s7 :: s8 :: s9 :: s10 :: s11 :: s12 :: s13 :: s14 :: s15 :: s16 :: s17 :: s18 :: s19 :: s20 :: .ow d :: ρ) (.br 21) K = K d (s0 :: s1 :: s2 :: s3 :: s4 :: s5 :: s6 :: s7 :: s8 :: s9 :: s10 :: s11 :: s12 :: s13 :: s14 :: s15 :: s16 :: s17 :: s18 :: s19 :: s20 :: .im d :: ρ)) ∧
  (∀ (s0 s1 s2 s3 s4 s5 s6 s7 s8 s9 s10 s11 s12 s13 s14 s15 s16 s17 s18 s19 s20 : Sl) (d : D) (ρ : En) (K : Sl → En → Prop), slotRQ (s0 :: s1 :: s2 :: s3 :: s4 :: s5 :: s6 :: s7 :: s8 :: s9 :: s10 :: s11 :: s12 :: s13 :: s14 :: s15 :: s16 :: s17 :: s18 :: s19 :: s20 :: .ow d :: ρ) (.br 21) K = K (.im d) (s0 :: s1 :: s2 :: s3 :: s4 :: s5 :: s6 :: s7 :: s8 :: s9 :: s10 :: s11 :: s12 :: s13 :: s14 :: s15 :: s16 :: s17 :: s18 :: s19 :: s20 :: .im d :: ρ)) ∧
  (∀ (s0 s1 s2 s3 s4 s5 s6 s7 s8 s9 s10 s11 s12 s13 s14 s15 s16 s17 s18 s19 s20 : Sl) (d : D) (ρ : En) (K : R → Prop), retRQ (s0 :: s1 :: s2 :: s3 :: s4 :: s5 :: s6 :: s7 :: s8 :: s9 :: s10 :: s11 :: s12 :: s13 :: s14 :: s15 :: s16 :: s17 :: s18 :: s19 :: s20 :: .ow d :: ρ) (.br 21) K = K (.fr d)) ∧
  (∀ (s0 s1 s2 s3 s4 s5 s6 s7 s8 s9 s10 s11 s12 s13 s14 s15 s16 s17 s18 s19 s20 : Sl) (d : D) (ρ : En) (rs : List R) (K : En → Prop), frzK (s0 :: s1 :: s2 :: s3 :: s4 :: s5 :: s6 :: s7 :: s8 :: s9 :: s10 :: s11 :: s12 :: s13 :: s14 :: s15 :: s16 :: s17 :: s18 :: s19 :: s20 :: .ow d :: ρ) (.br 21 :: rs) K = frzK (s0 :: s1 :: s2 :: s3 :: s4 :: s5 :: s6 :: s7 :: s8 :: s9 :: s10 :: s11 :: s12 :: s13 :: s14 :: s15 :: s16 :: s17 :: s18 :: s19 :: s20 :: .im d :: ρ) rs K) ∧
  (∀ (s0 s1 s2 s3 s4 s5 s6 s7 s8 s9 s10 s11 s12 s13 s14 s15 s16 s17 s18 s19 s20 : Sl) (d : D) (ρ : En) (K : D → Prop), peekQ (s0 :: s1 :: s2 :: s3 :: s4 :: s5 :: s6 :: s7 :: s8 :: s9 :: s10 :: s11 :: s12 :: s13 :: s14 :: s15 :: s16 :: s17 :: s18 :: s19 :: s20 :: .im d :: ρ) (.br 21) K = K d) ∧
  (∀ (s0 s1 s2 s3 s4 s5 s6 s7 s8 s9 s10 s11 s12 s13 s14 s15 s16 s17 s18 s19 s20 : Sl) (d : D) (ρ : En) (K : D → En → Prop), takeRQ (s0 :: s1 :: s2 :: s3 :: s4 :: s5 :: s6 :: s7 :: s8 :: s9 :: s10 :: s11 :: s12 :: s13 :: s14 :: s15 :: s16 :: s17 :: s18 :: s19 :: s20 :: .im d :: ρ) (.br 21) K = K d (s0 :: s1 :: s2 :: s3 :: s4 :: s5 :: s6 :: s7 :: s8 :: s9 :: s10 :: s11 :: s12 :: s13 :: s14 :: s15 :: s16 :: s17 :: s18 :: s19 :: s20 :: .im d :: ρ)) ∧
  (∀ (s0 s1 s2 s3 s4 s5 s6 s7 s8 s9 s10 s11 s12 s13 s14 s15 s16 s17 s18 s19 s20 : Sl) (d : D) (ρ : En) (K : Sl → En → Prop), slotRQ (s0 :: s1 :: s2 :: s3 :: s4 :: s5 :: s6 :: s7 :: s8 :: s9 :: s10 :: s11 :: s12 :: s13 :: s14 :: s15 :: s16 :: s17 :: s18 :: s19 :: s20 :: .im d :: ρ) (.br 21) K = K (.im d) (s0 :: s1 :: s2 :: s3 :: s4 :: s5 :: s6 :: s7 :: s8 :: s9 :: s10 :: s11 :: s12 :: s13 :: s14 :: s15 :: s16 :: s17 :: s18 :: s19 :: s20 :: .im d :: ρ)) ∧
  (∀ (s0 s1 s2 s3 s4 s5 s6 s7 s8 s9 s10 s11 s12 s13 s14 s15 s16 s17 s18 s19 s20 : Sl) (d : D) (ρ : En) (K : R → Prop), retRQ (s0 :: s1 :: s2 :: s3 :: s4 :: s5 :: s6 :: s7 :: s8 :: s9 :: s10 :: s11 :: s12 :: s13 :: s14 :: s15 :: s16 :: s17 :: s18 :: s19 :: s20 :: .im d :: ρ) (.br 21) K = K (.im d)) ∧
  (∀ (s0 s1 s2 s3 s4 s5 s6 s7 s8 s9 s10 s11 s12 s13 s14 s15 s16 s17 s18 s19 s20 : Sl) (d : D) (ρ : En) (rs : List R) (K : En → Prop), frzK (s0 :: s1 :: s2 :: s3 :: s4 :: s5 :: s6 :: s7 :: s8 :: s9 :: s10 :: s11 :: s12 :: s13 :: s14 :: s15 :: s16 :: s17 :: s18 :: s19 :: s20 :: .im d :: ρ) (.br 21 :: rs) K = frzK (s0 :: s1 :: s2 :: s3 :: s4 :: s5 :: s6 :: s7 :: s8 :: s9 :: s10 :: s11 :: s12 :: s13 :: s14 :: s15 :: s16 :: s17 :: s18 :: s19 :: s20 :: .im d :: ρ) rs K) ∧
  (∀ (s0 s1 s2 s3 s4 s5 s6 s7 s8 s9 s10 s11 s12 s13 s14 s15 s16 s17 s18 s19 s20 : Sl) (s t : Sl) (ρ : En) (K : En → Prop), setK (s0 :: s1 :: s2 :: s3 :: s4 :: s5 :: s6 :: s7 :: s8 :: s9 :: s10 :: s11 :: s12 :: s13 :: s14 :: s15 :: s16 :: s17 :: s18 :: s19 :: s20 :: s :: ρ) 21 t K = K (s0 :: s1 :: s2 :: s3 :: s4 :: s5 :: s6 :: s7 :: s8 :: s9 :: s10 :: s11 :: s12 :: s13 :: s14 :: s15 :: s16 :: s17 :: s18 :: s19 :: s20 :: t :: ρ)) ∧
  (∀ (Γ : Ctx) (Ed : Ex → En → Prop) (s0 s1 s2 s3 s4 s5 s6 s7 s8 s9 s10 s11 s12 s13 s14 s15 s16 s17 s18 s19 s20 : Sl) (ds : List D) (e : IE) (ρ : En) (Q : R → En → Prop), wpEQ Γ Ed (.app 21 e) (s0 :: s1 :: s2 :: s3 :: s4 :: s5 :: s6 :: s7 :: s8 :: s9 :: s10 :: s11 :: s12 :: s13 :: s14 :: s15 :: s16 :: s17 :: s18 :: s19 :: s20 :: .ow (.list ds) :: ρ) Q = wpEQ Γ Ed e (s0 :: s1 :: s2 :: s3 :: s4 :: s5 :: s6 :: s7 :: s8 :: s9 :: s10 :: s11 :: s12 :: s13 :: s14 :: s15 :: s16 :: s17 :: s18 :: s19 :: s20 :: .ow (.list ds) :: ρ) fun r ρ1 => takeRQ ρ1 r fun d ρ2 => appK ρ2 21 d Q) ∧
  (∀ (s0 s1 s2 s3 s4 s5 s6 s7 s8 s9 s10 s11 s12 s13 s14 s15 s16 s17 s18 s19 s20 : Sl) (ds : List D) (d : D) (ρ : En) (Q : R → En → Prop), appK (s0 :: s1 :: s2 :: s3 :: s4 :: s5 :: s6 :: s7 :: s8 :: s9 :: s10 :: s11 :: s12 :: s13 :: s14 :: s15 :: s16 :: s17 :: s18 :: s19 :: s20 :: .ow (.list ds) :: ρ) 21 d Q = (ds.length < sizeLine ∧ Q (.im .none) (s0 :: s1 :: s2 :: s3 :: s4 :: s5 :: s6 :: s7 :: s8 :: s9 :: s10 :: s11 :: s12 :: s13 :: s14 :: s15 :: s16 :: s17 :: s18 :: s19 :: s20 :: .ow (.list (ds ++ [d])) :: ρ))) ∧
  (∀ (Γ : Ctx) (Ed : Ex → En → Prop) (s0 s1 s2 s3 s4 s5 s6 s7 s8 s9 s10 s11 s12 s13 s14 s15 s16 s17 s18 s19 s20 : Sl) (ds : List D) (e : IE) (ρ : En) (Q : R → En → Prop), wpEQ Γ Ed (.popAt 21 e) (s0 :: s1 :: s2 :: s3 :: s4 :: s5 :: s6 :: s7 :: s8 :: s9 :: s10 :: s11 :: s12 :: s13 :: s14 :: s15 :: s16 :: s17 :: s18 :: s19 :: s20 :: .ow (.list ds) :: ρ) Q = wpEQ Γ Ed e (s0 :: s1 :: s2 :: s3 :: s4 :: s5 :: s6 :: s7 :: s8 :: s9 :: s10 :: s11 :: s12 :: s13 :: s14 :: s15 :: s16 :: s17 :: s18 :: s19 :: s20 :: .ow (.list ds) :: ρ) fun r ρ1 => popK r ρ1 21 Q) ∧
  (∀ (Γ : Ctx) (s0 s1 s2 s3 s4 s5 s6 s7 s8 s9 s10 s11 s12 s13 s14 s15 s16 s17 s18 s19 s20 : Sl) (ds : List D) (k : IE) (d : D) (ρ : En) (K : En → Prop), asgTQ Γ (.sub 21 k) d (s0 :: s1 :: s2 :: s3 :: s4 :: s5 :: s6 :: s7 :: s8 :: s9 :: s10 :: s11 :: s12 :: s13 :: s14 :: s15 :: s16 :: s17 :: s18 :: s19 :: s20 :: .ow (.list ds) :: ρ) K = wpEQ Γ noEx k (s0 :: s1 :: s2 :: s3 :: s4 :: s5 :: s6 :: s7 :: s8 :: s9 :: s10 :: s11 :: s12 :: s13 :: s14 :: s15 :: s16 :: s17 :: s18 :: s19 :: s20 :: .ow (.list ds) :: ρ) fun r ρ1 => stoK r ρ1 21 d K) ∧
  (∀ (s0 s1 s2 s3 s4 s5 s6 s7 s8 s9 s10 s11 s12 s13 s14 s15 s16 s17 s18 s19 s20 : Sl) (ds : List D) (j : Int) (d : D) (ρ : En) (K : En → Prop), stoK (.im (.int j)) (s0 :: s1 :: s2 :: s3 :: s4 :: s5 :: s6 :: s7 :: s8 :: s9 :: s10 :: s11 :: s12 :: s13 :: s14 :: s15 :: s16 :: s17 :: s18 :: s19 :: s20 :: .ow (.list ds) :: ρ) 21 d K = mxK (ixN ds.length j) fun m => K (s0 :: s1 :: s2 :: s3 :: s4 :: s5 :: s6 :: s7 :: s8 :: s9 :: s10 :: s11 :: s12 :: s13 :: s14 :: s15 :: s16 :: s17 :: s18 :: s19 :: s20 :: .ow (.list (ds.set m d)) :: ρ)) ∧
  (∀ (s0 s1 s2 s3 s4 s5 s6 s7 s8 s9 s10 s11 s12 s13 s14 s15 s16 s17 s18 s19 s20 : Sl) (ds : List D) (k : Int) (ρ : En) (Q : R → En → Prop), popK (.im (.int k)) (s0 :: s1 :: s2 :: s3 :: s4 :: s5 :: s6 :: s7 :: s8 :: s9 :: s10 :: s11 :: s12 :: s13 :: s14 :: s15 :: s16 :: s17 :: s18 :: s19 :: s20 :: .ow (.list ds) :: ρ) 21 Q = ((-(2 ^ 63) ≤ k ∧ k < 2 ^ 63) ∧ mxK (seqIndex? k ds.length) fun j => ixK ds[j]? fun d => Q (.im d) (s0 :: s1 :: s2 :: s3 :: s4 :: s5 :: s6 :: s7 :: s8 :: s9 :: s10 :: s11 :: s12 :: s13 :: s14 :: s15 :: s16 :: s17 :: s18 :: s19 :: s20 :: .ow (.list (ds.eraseIdx j)) :: ρ))) := ⟨by intros; rfl, by intros; rfl, by intros; rfl, by intros; rfl, by intros; rfl, by intros; rfl, by intros; rfl, by intros; rfl, by intros; rfl, by intros; rfl, by intros; rfl, by intros; rfl, by intros; rfl, by intros; rfl, by intros; exact propext ⟨fun h => h.2, fun h => ⟨⟨_, rfl⟩, h⟩⟩, by intros; rfl, by intros; exact propext ⟨fun h => h.2, fun h => ⟨⟨_, rfl⟩, h⟩⟩, by intros; exact propext ⟨fun h => h.2, fun h => ⟨⟨_, rfl⟩, h⟩⟩, by intros; rfl, by intros; rfl, by intros; rfl, by intros; rfl, by intros; rfl, by intros; rfl, by intros; rfl, by intros; rfl, by intros; rfl, by intros; rfl, by intros; rfl, by intros; rfl, by intros; rfl, by intros; rfl, by intros; rfl, by intros; rfl, by intros; exact propext ⟨fun h => h.2, fun h => ⟨⟨_, rfl⟩, h⟩⟩, by intros; rfl, by intros; exact propext ⟨fun h => h.2, fun h => ⟨⟨_, rfl⟩, h⟩⟩, by intros; exact propext ⟨fun h => h.2, fun h => ⟨⟨_, rfl⟩, h⟩⟩, by intros; rfl, by intros; rfl⟩
theorem VS11 : (∀ (Γ : Ctx) (Ed : Ex → En → Prop) (s0 s1 s2 s3 s4 s5 s6 s7 s8 s9 s10 s11 s12 s13 s14 s15 s16 s17 s18 s19 s20 s21 : Sl) (d : D) (ρ : En) (Q : R → En → Prop), wpEQ Γ Ed (.var 22) (s0 :: s1 :: s2 :: s3 :: s4 :: s5 :: s6 :: s7 :: s8 :: s9 :: s10 :: s11 :: s12 :: s13 :: s14 :: s15 :: s16 :: s17 :: s18 :: s19 :: s20 :: s21 :: .im d :: ρ) Q = Q (.im d) (s0 :: s1 :: s2 :: s3 :: s4 :: s5 :: s6 :: s7 :: s8 :: s9 :: s10 :: s11 :: s12 :: s13 :: s14 :: s15 :: s16 :: s17 :: s18 :: s19 :: s20 :: s21 :: .im d :: ρ)) ∧
  (∀ (Γ : Ctx) (Ed : Ex → En → Prop) (s0 s1 s2 s3 s4 s5 s6 s7 s8 s9 s10 s11 s12 s13 s14 s15 s16 s17 s18 s19 s20 s21 : Sl) (d : D) (ρ : En) (Q : R → En → Prop), wpEQ Γ Ed (.var 22) (s0 :: s1 :: s2 :: s3 :: s4 :: s5 :: s6 :: s7 :: s8 :: s9 :: s10 :: s11 :: s12 :: s13 :: s14 :: s15 :: s16 :: s17 :: s18 :: s19 :: s20 :: s21 :: .ow d :: ρ) Q = Q (.br 22) (s0 :: s1 :: s2 :: s3 :: s4 :: s5 :: s6 :: s7 :: s8 :: s9 :: s10 :: s11 :: s12 :: s13 :: s14 :: s15 :: s16 :: s17 :: s18 :: s19 :: s20 :: s21 :: .ow d :: ρ)) ∧
  (∀ (Γ : Ctx) (Ed : Ex → En → Prop) (s0 s1 s2 s3 s4 s5 s6 s7 s8 s9 s10 s11 s12 s13 s14 s15 s16 s17 s18 s19 s20 s21 : Sl) (ρ : En) (Q : R → En → Prop), wpEQ Γ Ed (.var 22) (s0 :: s1 :: s2 :: s3 :: s4 :: s5 :: s6 :: s7 :: s8 :: s9 :: s10 :: s11 :: s12 :: s13 :: s14 :: s15 :: s16 :: s17 :: s18 :: s19 :: s20 :: s21 :: .dk :: ρ) Q = Q .dk (s0 :: s1 :: s2 :: s3 :: s4 :: s5 :: s6 :: s7 :: s8 :: s9 :: s10 :: s11 :: s12 :: s13 :: s14 :: s15 :: s16 :: s17 :: s18 :: s19 :: s20 :: s21 :: .dk :: ρ)) ∧
  (∀ (s0 s1 s2 s3 s4 s5 s6 s7 s8 s9 s10 s11 s12 s13 s14 s15 s16 s17 s18 s19 s20 s21 : Sl) (d : D) (ρ : En) (K : D → Prop), peekQ (s0 :: s1 :: s2 :: s3 :: s4 :: s5 :: s6 :: s7 :: s8 :: s9 :: s10 :: s11 :: s12 :: s13 :: s14 :: s15 :: s16 :: s17 :: s18 :: s19 :: s20 :: s21 :: .ow d :: ρ) (.br 22) K = K d) ∧
  (∀ (s0 s1 s2 s3 s4 s5 s6 s7 s8 s9 s10 s11 s12 s13 s14 s15 s16 s17 s18 s19 s20 s21 : Sl) (d : D) (ρ : En) (K : D → En → Prop), takeRQ (s0 :: s1 :: s2 :: s3 :: s4 :: s5 :: s6 :: s7 :: s8 :: s9 :: s10 :: s11 :: s12 :: s13 :: s14 :: s15 :: s16 :: s17 :: s18 :: s19 :: s20 :: s21 :: .ow d :: ρ) (.br 22) K = K d (s0 :: s1 :: s2 :: s3 :: s4 :: s5 :: s6 :: s7 :: s8 :: s9 :: s10 :: s11 :: s12 :: s13 :: s14 :: s15 :: s16 :: s17 :: s18 :: s19 :: s20 :: s21 :: .im d :: ρ)) ∧
  (∀ (s0 s1 s2 s3 s4 s5 s6 s7 s8 s9 s10 s11 s12 s13 s14 s15 s16 s17 s18 s19 s20 s21 : Sl) (d : D) (ρ : En) (K : Sl → En → Prop), slotRQ (s0 :: s1 :: s2 :: s3 :: s4 :: s5 :: s6 :: s7 :: s8 :: s9 :: s10 :: s11 :: s12 :: s13 :: s14 :: s15 :: s16 :: s17 :: s18 :: s19 :: s20 :: s21 :: .ow d :: ρ) (.br 22) K = K (.im d) (s0 :: s1 :: s2 :: s3 :: s4 :: s5 :: s6 :: s7 :: s8 :: s9 :: s10 :: s11 :: s12 :: s13 :: s14 :: s15 :: s16 :: s17 :: s18 :: s19 :: s20 :: s21 :: .im d :: ρ)) ∧
  (∀ (s0 s1 s2 s3 s4 s5 s6 s7 s8 s9 s10 s11 s12 s13 s14 s15 s16 s17 s18 s19 s20 s21 : Sl) (d : D) (ρ : En) (K : R → Prop), retRQ (s0 :: s1 :: s2 :: s3 :: s4 :: s5 :: s6 :: s7 :: s8 :: s9 :: s10 :: s11 :: s12 :: s13 :: s14 :: s15 :: s16 :: s17 :: s18 :: s19 :: s20 :: s21 :: .ow d :: ρ) (.br 22) K = K (.fr d)) ∧
  (∀ (s0 s1 s2 s3 s4 s5 s6 s7 s8 s9 s10 s11 s12 s13 s14 s15 s16 s17 s18 s19 s20 s21 : Sl) (d : D) (ρ : En) (rs : List R) (K : En → Prop), frzK (s0 :: s1 :: s2 :: s3 :: s4 :: s5 :: s6 :: s7 :: s8 :: s9 :: s10 :: s11 :: s12 :: s13 :: s14 :: s15 :: s16 :: s17 :: s18 :: s19 :: s20 :: s21 :: .ow d :: ρ) (.br 22 :: rs) K = frzK (s0 :: s1 :: s2 :: s3 :: s4 :: s5 :: s6 :: s7 :: s8 :: s9 :: s10 :: s11 :: s12 :: s13 :: s14 :: s15 :: s16 :: s17 :: s18 :: s19 :: s20 :: s21 :: .im d :: ρ) rs K) ∧
  (∀ (s0 s1 s2 s3 s4 s5 s6 s7 s8 s9 s10 s11 s12 s13 s14 s15 s16 s17 s18 s19 s20 s21 : Sl) (d : D) (ρ : En) (K : D → Prop), peekQ (s0 :: s1 :: s2 :: s3 :: s4 :: s5 :: s6 :: s7 :: s8 :: s9 :: s10 :: s11 :: s12 :: s13 :: s14 :: s15 :: s16 :: s17 :: s18 :: s19 :: s20 :: s21 :: .im d :: ρ) (.br 22) K = K d) ∧
  (∀ (s0 s1 s2 s3 s4 s5 s6 s7 s8 s9 s10 s11 s12 s13 s14 s15 s16 s17 s18 s19 s20 s21 : Sl) (d : D) (ρ : En) (K : D → En → Prop), takeRQ (s0 :: s1 :: s2 :: s3 :: s4 :: s5 :: s6 :: s7 :: s8 :: s9 :: s10 :: s11 :: s12 :: s13 :: s14 :: s15 :: s16 :: s17 :: s18 :: s19 :: s20 :: s21 :: .im d :: ρ) (.br 22) K = K d (s0 :: s1 :: s2 :: s3 :: s4 :: s5 :: s6 :: s7 :: s8 :: s9 :: s10 :: s11 :: s12 :: s13 :: s14 :: s15 :: s16 :: s17 :: s18 :: s19 :: s20 :: s21 :: .im d :: ρ)) ∧
  (∀ (s0 s1 s2 s3 s4 s5 s6 s7 s8 s9 s10 s11 s12 s13 s14 s15 s16 s17 s18 s19 s20 s21 : Sl) (d : D) (ρ : En) (K : Sl → En → Prop), slotRQ (s0 :: s1 :: s2 :: s3 :: s4 :: s5 :: s6 :: s7 :: s8 :: s9 :: s10 :: s11 :: s12 :: s13 :: s14 :: s15 :: s16 :: s17 :: s18 :: s19 :: s20 :: s21 :: .im d :: ρ) (.br 22) K = K (.im d) (s0 :: s1 :: s2 :: s3 :: s4 :: s5 :: s6 :: s7 :: s8 :: s9 :: s10 :: s11 :: s12 :: s13 :: s14 :: s15 :: s16 :: s17 :: s18 :: s19 :: s20 :: s21 :: .im d :: ρ)) ∧
  (∀ (s0 s1 s2 s3 s4 s5 s6 s7 s8 s9 s10 s11 s12 s13 s14 s15 s16 s17 s18 s19 s20 s21 : Sl) (d : D) (ρ : En) (K : R → Prop), retRQ (s0 :: s1 :: s2 :: s3 :: s4 :: s5 :: s6 :: s7 :: s8 :: s9 :: s10 :: s11 :: s12 :: s13 :: s14 :: s15 :: s16 :: s17 :: s18 :: s19 :: s20 :: s21 :: .im d :: ρ) (.br 22) K = K (.im d)) ∧
  (∀ (s0 s1 s2 s3 s4 s5 s6 s7 s8 s9 s10 s11 s12 s13 s14 s15 s16 s17 s18 s19 s20 s21 : Sl) (d : D) (ρ : En) (rs : List R) (K : En → Prop), frzK (s0 :: s1 :: s2 :: s3 :: s4 :: s5 :: s6 :: s7 :: s8 :: s9 :: s10 :: s11 :: s12 :: s13 :: s14 :: s15 :: s16 :: s17 :: s18 :: s19 :: s20 :: s21 :: .im d :: ρ) (.br 22 :: rs) K = frzK (s0 :: s1 :: s2 :: s3 :: s4 :: s5 :: s6 :: s7 :: s8 :: s9 :: s10 :: s11 :: s12 :: s13 :: s14 :: s15 :: s16 :: s17 :: s18 :: s19 :: s20 :: s21 :: .im d :: ρ) rs K) ∧
  (∀ (s0 s1 s2 s3 s4 s5 s6 s7 s8 s9 s10 s11 s12 s13 s14 s15 s16 s17 s18 s19 s20 s21 : Sl) (s t : Sl) (ρ : En) (K : En → Prop), setK (s0 :: s1 :: s2 :: s3 :: s4 :: s5 :: s6 :: s7 :: s8 :: s9 :: s10 :: s11 :: s12 :: s13 :: s14 :: s15 :: s16 :: s17 :: s18 :: s19 :: s20 :: s21 :: s :: ρ) 22 t K = K (s0 :: s1 :: s2 :: s3 :: s4 :: s5 :: s6 :: s7 :: s8 :: s9 :: s10 :: s11 :: s12 :: s13 :: s14 :: s15 :: s16 :: s17 :: s18 :: s19 :: s20 :: s21 :: t :: ρ)) ∧
  (∀ (Γ : Ctx) (Ed : Ex → En → Prop) (s0 s1 s2 s3 s4 s5 s6 s7 s8 s9 s10 s11 s12 s13 s14 s15 s16 s17 s18 s19 s20 s21 : Sl) (ds : List D) (e : IE) (ρ : En) (Q : R → En → Prop), wpEQ Γ Ed (.app 22 e) (s0 :: s1 :: s2 :: s3 :: s4 :: s5 :: s6 :: s7 :: s8 :: s9 :: s10 :: s11 :: s12 :: s13 :: s14 :: s15 :: s16 :: s17 :: s18 :: s19 :: s20 :: s21 :: .ow (.list ds) :: ρ) Q = wpEQ Γ Ed e (s0 :: s1 :: s2 :: s3 :: s4 :: s5 :: s6 :: s7 :: s8 :: s9 :: s10 :: s11 :: s12 :: s13 :: s14 :: s15 :: s16 :: s17 :: s18 :: s19 :: s20 :: s21 :: .ow (.list ds) :: ρ) fun r ρ1 => takeRQ ρ1 r fun d ρ2 => appK ρ2 22 d Q) ∧
  (∀ (s0 s1 s2 s3 s4 s5 s6 s7 s8 s9 s10 s11 s12 s13 s14 s15 s16 s17 s18 s19 s20 s21 : Sl) (ds : List D) (d : D) (ρ : En) (Q : R → En → Prop), appK (s0 :: s1 :: s2 :: s3 :: s4 :: s5 :: s6 :: s7 :: s8 :: s9 :: s10 :: s11 :: s12 :: s13 :: s14 :: s15 :: s16 :: s17 :: s18 :: s19 :: s20 :: s21 :: .ow (.list ds) :: ρ) 22 d Q = (ds.length < sizeLine ∧ Q (.im .none) (s0 :: s1 :: s2 :: s3 :: s4 :: s5 :: s6 :: s7 :: s8 :: s9 :: s10 :: s11 :: s12 :: s13 :: s14 :: s15 :: s16 :: s17 :: s18 :: s19 :: s20 :: s21 :: .ow (.list (ds ++ [d])) :: ρ))) ∧
  (∀ (Γ : Ctx) (Ed : Ex → En → Prop) (s0 s1 s2 s3 s4 s5 s6 s7 s8 s9 s10 s11 s12 s13 s14 s15 s16 s17 s18 s19 s20 s21 : Sl) (ds : List D) (e : IE) (ρ : En) (Q : R → En → Prop), wpEQ Γ Ed (.popAt 22 e) (s0 :: s1 :: s2 :: s3 :: s4 :: s5 :: s6 :: s7 :: s8 :: s9 :: s10 :: s11 :: s12 :: s13 :: s14 :: s15 :: s16 :: s17 :: s18 :: s19 :: s20 :: s21 :: .ow (.list ds) :: ρ) Q = wpEQ Γ Ed e (s0 :: s1 :: s2 :: s3 :: s4 :: s5 :: s6 :: s7 :: s8 :: s9 :: s10 :: s11 :: s12 :: s13 :: s14 :: s15 :: s16 :: s17 :: s18 :: s19 :: s20 :: s21 :: .ow (.list ds) :: ρ) fun r ρ1 => popK r ρ1 22 Q) ∧
  (∀ (Γ : Ctx) (s0 s1 s2 s3 s4 s5 s6 s7 s8 s9 s10 s11 s12 s13 s14 s15 s16 s17 s18 s19 s20 s21 : Sl) (ds : List D) (k : IE) (d : D) (ρ : En) (K : En → Prop), asgTQ Γ (.sub 22 k) d (s0 :: s1 :: s2 :: s3 :: s4 :: s5 :: s6 :: s7 :: s8 :: s9 :: s10 :: s11 :: s12 :: s13 :: s14 :: s15 :: s16 :: s17 :: s18 :: s19 :: s20 :: s21 :: .ow (.list ds) :: ρ) K = wpEQ Γ noEx k (s0 :: s1 :: s2 :: s3 :: s4 :: s5 :: s6 :: s7 :: s8 :: s9 :: s10 :: s11 :: s12 :: s13 :: s14 :: s15 :: s16 :: s17 :: s18 :: s19 :: s20 :: s21 :: .ow (.list ds) :: ρ) fun r ρ1 => stoK r ρ1 22 d K) ∧
  (∀ (s0 s1 s2 s3 s4 s5 s6 s7 s8 s9 s10 s11 s12 s13 s14 s15 s16 s17 s18 s19 s20 s21 : Sl) (ds : List D) (j : Int) (d : D) (ρ : En) (K : En → Prop), stoK (.im (.int j)) (s0 :: s1 :: s2 :: s3 :: s4 :: s5 :: s6 :: s7 :: s8 :: s9 :: s10 :: s11 :: s12 :: s13 :: s14 :: s15 :: s16 :: s17 :: s18 :: s19 :: s20 :: s21 :: .ow (.list ds) :: ρ) 22 d K = mxK (ixN ds.length j) fun m => K (s0 :: s1 :: s2 :: s3 :: s4 :: s5 :: s6 :: s7 :: s8 :: s9 :: s10 :: s11 :: s12 :: s13 :: s14 :: s15 :: s16 :: s17 :: s18 :: s19 :: s20 :: s21 :: .ow (.list (ds.set m d)) :: ρ)) ∧
  (∀ (s0 s1 s2 s3 s4 s5 s6 s7 s8 s9 s10 s11 s12 s13 s14 s15 s16 s17 s18 s19 s20 s21 : Sl) (ds : List D) (k : Int) (ρ : En) (Q : R → En → Prop), popK (.im (.int k)) (s0 :: s1 :: s2 :: s3 :: s4 :: s5 :: s6 :: s7 :: s8 :: s9 :: s10 :: s11 :: s12 :: s13 :: s14 :: s15 :: s16 :: s17 :: s18 :: s19 :: s20 :: s21 :: .ow (.list ds) :: ρ) 22 Q = ((-(2 ^ 63) ≤ k ∧ k < 2 ^ 63) ∧ mxK (seqIndex? k ds.length) fun j => ixK ds[j]? fun d => Q (.im d) (s0 :: s1 :: s2 :: s3 :: s4 :: s5 :: s6 :: s7 :: s8 :: s9 :: s10 :: s11 :: s12 :: s13 :: s14 :: s15 :: s16 :: s17 :: s18 :: s19 :: s20 :: s21 :: .ow (.list (ds.eraseIdx j)) :: ρ))) ∧
  (∀ (Γ : Ctx) (Ed : Ex → En → Prop) (s0 s1 s2 s3 s4 s5 s6 s7 s8 s9 s10 s11 s12 s13 s14 s15 s16 s17 s18 s19 s20 s21 s22 : Sl) (d : D) (ρ : En) (Q : R → En → Prop), wpEQ Γ Ed (.var 23) (s0 :: s1 :: s2 :: s3 :: s4 :: s5 :: s6 :: s7 :: s8 :: s9 :: s10 :: s11 :: s12 :: s13 :: s14 :: s15 :: s16 :: s17 :: s18 :: s19 :: s20 :: s21 :: s22 :: .im d :: ρ) Q = Q (.im d) (s0 :: s1 :: s2 :: s3 :: s4 :: s5 :: s6 :: s7 :: s8 :: s9 :: s10 :: s11 :: s12 :: s13 :: s14 :: s15 :: s16 :: s17 :: s18 :: s19 :: s20 :: s21 :: s22 :: .im d :: ρ)) ∧
  (∀ (Γ : Ctx) (Ed : Ex → En → Prop) (s0 s1 s2 s3 s4 s5 s6 s7 s8 s9 s10 s11 s12 s13 s14 s15 s16 s17 s18 s19 s20 s21 s22 : Sl) (d : D) (ρ : En) (Q : R → En → Prop), wpEQ Γ Ed (.var 23) (s0 :: s1 :: s2 :: s3 :: s4 :: s5 :: s6 :: s7 :: s8 :: s9 :: s10 :: s11 :: s12 :: s13 :: s14 :: s15 :: s16 :: s17 :: s18 :: s19 :: s20 :: s21 :: s22 :: .ow d :: ρ) Q = Q (.br 23) (s0 :: s1 :: s2 :: s3 :: s4 :: s5 :: s6 :: s7 :: s8 :: s9 :: s10 :: s11 :: s12 :: s13 :: s14 :: s15 :: s16 :: s17 :: s18 :: s19 :: s20 :: s21 :: s22 :: .ow d :: ρ)) ∧
  (∀ (Γ : Ctx) (Ed : Ex → En → Prop) (s0 s1 s2 s3 s4 s5 s6 s7 s8 s9 s10 s11 s12 s13 s14 s15 s16 s17 s18 s19 s20 s21 s22 : Sl) (ρ : En) (Q : R → En → Prop), wpEQ Γ Ed (.var 23) (s0 :: s1 :: s2 :: s3 :: s4 :: s5 :: s6 :: s7 :: s8 :: s9 :: s10 :: s11 :: s12 :: s13 :: s14 :: s15 :: s16 :: s17 :: s18 :: s19 :: s20 :: s21 :: s22 :: .dk :: ρ) Q = Q .dk (s0 :: s1 :: s2 :: s3 :: s4 :: s5 :: s6 :: s7 :: s8 :: s9 :: s10 :: s11 :: s12 :: s13 :: s14 :: s15 :: s16 :: s17 :: s18 :: s19 :: s20 :: s21 :: s22 :: .dk :: ρ)) ∧
  (∀ (s0 s1 s2 s3 s4 s5 s6 s7 s8 s9 s10 s11 s12 s13 s14 s15 s16 s17 s18 s19 s20 s21 s22 : Sl) (d : D) (ρ : En) (K : D → Prop), peekQ (s0 :: s1 :: s2 :: s3 :: s4 :: s5 :: s6 :: s7 :: s8 :: s9 :: s10 :: s11 :: s12 :: s13 :: s14 :: s15 :: s16 :: s17 :: s18 :: s19 :: s20 :: s21 :: s22 :: .ow d :: ρ) (.br 23) K = K d) ∧
  (∀ (s0 s1 s2 s3 s4 s5 s6 s7 s8 s9 s10 s11 s12 s13 s14 s15 s16 s17 s18 s19 s20 s21 s22 : Sl) (d : D) (ρ : En) (K : D → En → Prop), takeRQ (s0 :: s1 :: s2 :: s3 :: s4 :: s5 :: s6 :: s7 :: s8 :: s9 :: s10 :: s11 :: s12 :: s13 :: s14 :: s15 :: s16 :: s17 :: s18 :: s19 :: s20 :: s21 :: s22 :: .ow d :: ρ) (.br 23) K = K d (s0 :: s1 :: s2 :: s3 :: s4 :: s5 :: s6 :: s7 :: s8 :: s9 :: s10 :: s11 :: s12 :: s13 :: s14 :: s15 :: s16 :: s17 :: s18 :: s19 :: s20 :: s21 :: s22 :: .im d :: ρ)) ∧
  (∀ (s0 s1 s2 s3 s4 s5 s6 s7 s8 s9 s10 s11 s12 s13 s14 s15 s16 s17 s18 s19 s20 s21 s22 : Sl) (d : D) (ρ : En) (K : Sl → En → Prop), slotRQ (s0 :: s1 :: s2 :: s3 :: s4 :: s5 :: s6 :: s7 :: s8 :: s9 :: s10 :: s11 :: s12 :: s13 :: s14 :: s15 :: s16 :: s17 :: s18 :: s19 :: s20 :: s21 :: s22 :: .ow d :: ρ) (.br 23) K = K (.im d) (s0 :: s1 :: s2 :: s3 :: s4 :: s5 :: s6 :: s7 :: s8 :: s9 :: s10 :: s11 :: s12 :: s13 :: s14 :: s15 :: s16 :: s17 :: s18 :: s19 :: s20 :: s21 :: s22 :: .im d :: ρ)) ∧
  (∀ (s0 s1 s2 s3 s4 s5 s6 s7 s8 s9 s10 s11 s12 s13 s14 s15 s16 s17 s18 s19 s20 s21 s22 : Sl) (d : D) (ρ : En) (K : R → Prop), retRQ (s0 :: s1 :: s2 :: s3 :: s4 :: s5 :: s6 :: s7 :: s8 :: s9 :: s10 :: s11 :: s12 :: s13 :: s14 :: s15 :: s16 :: s17 :: s18 :: s19 :: s20 :: s21 :: s22 :: .ow d :: ρ) (.br 23) K = K (.fr d)) ∧
  (∀ (s0 s1 s2 s3 s4 s5 s6 s7 s8 s9 s10 s11 s12 s13 s14 s15 s16 s17 s18 s19 s20 s21 s22 : Sl) (d : D) (ρ : En) (rs : List R) (K : En → Prop), frzK (s0 :: s1 :: s2 :: s3 :: s4 :: s5 :: s6 :: s7 :: s8 :: s9 :: s10 :: s11 :: s12 :: s13 :: s14 :: s15 :: s16 :: s17 :: s18 :: s19 :: s20 :: s21 :: s22 :: .ow d :: ρ) (.br 23 :: rs) K = frzK (s0 :: s1 :: s2 :: s3 :: s4 :: s5 :: s6 :: s7 :: s8 :: s9 :: s10 :: s11 :: s12 :: s13 :: s14 :: s15 :: s16 :: s17 :: s18 :: s19 :: s20 :: s21 :: s22 :: .im d :: ρ) rs K) ∧
  (∀ (s0 s1 s2 s3 s4 s5 s6 s7 s8 s9 s10 s11 s12 s13 s14 s15 s16 s17 s18 s19 s20 s21 s22 : Sl) (d : D) (ρ : En) (K : D → Prop), peekQ (s0 :: s1 :: s2 :: s3 :: s4 :: s5 :: s6 :: s7 :: s8 :: s9 :: s10 :: s11 :: s12 :: s13 :: s14 :: s15 :: s16 :: s17 :: s18 :: s19 :: s20 :: s21 :: s22 :: .im d :: ρ) (.br 23) K = K d) ∧
  (∀ (s0 s1 s2 s3 s4 s5 s6 s7 s8 s9 s10 s11 s12 s13 s14 s15 s16 s17 s18 s19 s20 s21 s22 : Sl) (d : D) (ρ : En) (K : D → En → Prop), takeRQ (s0 :: s1 :: s2 :: s3 :: s4 :: s5 :: s6 :: s7 :: s8 :: s9 :: s10 :: s11 :: s12 :: s13 :: s14 :: s15 :: s16 :: s17 :: s18 :: s19 :: s20 :: s21 :: s22 :: .im d :: ρ) (.br 23) K = K d (s0 :: s1 :: s2 :: s3 :: s4 :: s5 :: s6 :: s7 :: s8 :: s9 :: s10 :: s11 :: s12 :: s13 :: s14 :: s15 :: s16 :: s17 :: s18 :: s19 :: s20 :: s21 :: s22 :: .im d :: ρ)) ∧
  (∀ (s0 s1 s2 s3 s4 s5 s6 s7 s8 s9 s10 s11 s12 s13 s14 s15 s16 s17 s18 s19 s20 s21 s22 : Sl) (d : D) (ρ : En) (K : Sl → En → Prop), slotRQ (s0 :: s1 :: s2 :: s3 :: s4 :: s5 :: s6 :: s7 :: s8 :: s9 :: s10 :: s11 :: s12 :: s13 :: s14 :: s15 :: s16 :: s17 :: s18 :: s19 :: s20 :: s21 :: s22 :: .im d :: ρ) (.br 23) K = K (.im d) (s0 :: s1 :: s2 :: s3 :: s4 :: s5 :: s6 :: s7 :: s8 :: s9 :: s10 :: s11 :: s12 :: s13 :: s14 :: s15 :: s16 :: s17 :: s18 :: s19 :: s20 :: s21 :: s22 :: .im d :: ρ)) ∧
  (∀ (s0 s1 s2 s3 s4 s5 s6 s7 s8 s9 s10 s11 s12 s13 s14 s15 s16 s17 s18 s19 s20 s21 s22 : Sl) (d : D) (ρ : En) (K : R → Prop), retRQ (s0 :: s1 :: s2 :: s3 :: s4 :: s5 :: s6 :: s7 :: s8 :: s9 :: s10 :: s11 :: s12 :: s13 :: s14 :: s15 :: s16 :: s17 :: s18 :: s19 :: s20 :: s21 :: s22 :: .im d :: ρ) (.br 23) K = K (.im d)) ∧
  (∀ (s0 s1 s2 s3 s4 s5 s6 s7 s8 s9 s10 s11 s12 s13 s14 s15 s16 s17 s18 s19 s20 s21 s22 : Sl) (d : D) (ρ : En) (rs : List R) (K : En → Prop), frzK (s0 :: s1 :: s2 :: s3 :: s4 :: s5 :: s6 :: s7 :: s8 :: s9 :: s10 :: s11 :: s12 :: s13 :: s14 :: s15 :: s16 :: s17 :: s18 :: s19 :: s20 :: s21 :: s22 :: .im d :: ρ) (.br 23 :: rs) K = frzK (s0 :: s1 :: s2 :: s3 :: s4 :: s5 :: s6 :: s7 :: s8 :: s9 :: s10 :: s11 :: s12 :: s13 :: s14 :: s15 :: s16 :: s17 :: s18 :: s19 :: s20 :: s21 :: s22 :: .im d :: ρ) rs K) ∧
  (∀ (s0 s1 s2 s3 s4 s5 s6 s7 s8 s9 s10 s11 s12 s13 s14 s15 s16 s17 s18 s19 s20 s21 s22 : Sl) (s t : Sl) (ρ : En) (K : En → Prop), setK (s0 :: s1 :: s2 :: s3 :: s4 :: s5 :: s6 :: s7 :: s8 :: s9 :: s10 :: s11 :: s12 :: s13 :: s14 :: s15 :: s16 :: s17 :: s18 :: s19 :: s20 :: s21 :: s22 :: s :: ρ) 23 t K = K (s0 :: s1 :: s2 :: s3 :: s4 :: s5 :: s6 :: s7 :: s8 :: s9 :: s10 :: s11 :: s12 :: s13 :: s14 :: s15 :: s16 :: s17 :: s18 :: s19 :: s20 :: s21 :: s22 :: t :: ρ)) ∧
  (∀ (Γ : Ctx) (Ed : Ex → En → Prop) (s0 s1 s2 s3 s4 s5 s6 s7 s8 s9 s10 s11 s12 s13 s14 s15 s16 s17 s18 s19 s20 s21 s22 : Sl) (ds : List D) (e : IE) (ρ : En) (Q : R → En → Prop), wpEQ Γ Ed (.app 23 e) (s0 :: s1 :: s2 :: s3 :: s4 :: s5 :: s6 :: s7 :: s8 :: s9 :: s10 :: s11 :: s12 :: s13 :: s14 :: s15 :: s16 :: s17 :: s18 :: s19 :: s20 :: s21 :: s22 :: .ow (.list ds) :: ρ) Q = wpEQ Γ Ed e (s0 :: s1 :: s2 :: s3 :: s4 :: s5 :: s6 :: s7 :: s8 :: s9 :: s10 :: s11 :: s12 :: s13 :: s14 :: s15 :: s16 :: s17 :: s18 :: s19 :: s20 :: s21 :: s22 :: .ow (.list ds) :: ρ) fun r ρ1 => takeRQ ρ1 r fun d ρ2 => appK ρ2 23 d Q) ∧
  (∀ (s0 s1 s2 s3 s4 s5 s6 s7 s8 s9 s10 s11 s12 s13 s14 s15 s16 s17 s18 s19 s20 s21 s22 : Sl) (ds : List D) (d : D) (ρ : En) (Q : R → En → Prop), appK (s0 :: s1 :: s2 :: s3 :: s4 :: s5 :: s6 :: s7 :: s8 :: s9 :: s10 :: s11 :: s12 :: s13 :: s14 :: s15 :: s16 :: s17 :: s18 :: s19 :: s20 :: s21 :: s22 :: .ow (.list ds) :: ρ) 23 d Q = (ds.length < sizeLine ∧ Q (.im .none) (s0 :: s1 :: s2 :: s3 :: s4 :: s5 :: s6 :: s7 :: s8 :: s9 :: s10 :: s11 :: s12 :: s13 :: s14 :: s15 :: s16 :: s17 :: s18 :: s19 :: s20 :: s21 :: s22 :: .ow (.list (ds ++ [d])) :: ρ))) ∧
  (∀ (Γ : Ctx) (Ed : Ex → En → Prop) (s0 s1 s2 s3 s4 s5 s6 s7 s8 s9 s10 s11 s12 s13 s14 s15 s16 s17 s18 s19 s20 s21 s22 : Sl) (ds : List D) (e : IE) (ρ : En) (Q : R → En → Prop), wpEQ Γ Ed (.popAt 23 e) (s0 :: s1 :: s2 :: s3 :: s4 :: s5 :: s6 :: s7 :: s8 :: s9 :: s10 :: s11 :: s12 :: s13 :: s14 :: s15 :: s16 :: s17 :: s18 :: s19 :: s20 :: s21 :: s22 :: .ow (.list ds) :: ρ) Q = wpEQ Γ Ed e (s0 :: s1 :: s2 :: s3 :: s4 :: s5 :: s6 :: s7 :: s8 :: s9 :: s10 :: s11 :: s12 :: s13 :: s14 :: s15 :: s16 :: s17 :: s18 :: s19 :: s20 :: s21 :: s22 :: .ow (.list ds) :: ρ) fun r ρ1 => popK r ρ1 23 Q) ∧
  (∀ (Γ : Ctx) (s0 s1 s2 s3 s4 s5 s6 s7 s8 s9 s10 s11 s12 s13 s14 s15 s16 s17 s18 s19 s20 s21 s22 : Sl) (ds : List D) (k : IE) (d : D) (ρ : En) (K : En → Prop), asgTQ Γ (.sub 23 k) d (s0 :: s1 :: s2 :: s3 :: s4 :: s5 :: s6 :: s7 :: s8 :: s9 :: s10 :: s11 :: s12 :: s13 :: s14 :: s15 :: s16 :: s17 :: s18 :: s19 :: s20 :: s21 :: s22 :: .ow (.list ds) :: ρ) K = wpEQ Γ noEx k (s0 :: s1 :: s2 :: s3 :: s4 :: s5 :: s6 :: s7 :: s8 :: s9 :: s10 :: s11 :: s12 :: s13 :: s14 :: s15 :: s16 :: s17 :: s18 :: s19 :: s20 :: s21 :: s22 :: .ow (.list ds) :: ρ) fun r ρ1 => stoK r ρ1 23 d K) ∧
  (∀ (s0 s1 s2 s3 s4 s5 s6 s7 s8 s9 s10 s11 s12 s13 s14 s15 s16 s17 s18 s19 s20 s21 s22 : Sl) (ds : List D) (j : Int) (d : D) (ρ : En) (K : En → Prop), stoK (.im (.int j)) (s0 :: s1 :: s2 :: s3 :: s4 :: s5 :: s6 :: s7 :: s8 :: s9 :: s10 :: s11 :: s12 :: s13 :: s14 :: s15 :: s16 :: s17 :: s18 :: s19 :: s20 :: s21 :: s22 :: .ow (.list ds) :: ρ) 23 d K = mxK (ixN ds.length j) fun m => K (s0 :: s1 :: s2 :: s3 :: s4 :: s5 :: s6 :: s7 :: s8 :: s9 :: s10 :: s11 :: s12 :: s13 :: s14 :: s15 :: s16 :: s17 :: s18 :: s19 :: s20 :: s21 :: s22 :: .ow (.list (ds.set m d)) :: ρ)) ∧
  (∀ (s0 s1 s2 s3 s4 s5 s6 s7 s8 s9 s10 s11 s12 s13 s14 s15 s16 s17 s18 s19 s20 s21 s22 : Sl) (ds : List D) (k : Int) (ρ : En) (Q : R → En → Prop), popK (.im (.int k)) (s0 :: s1 :: s2 :: s3 :: s4 :: s5 :: s6 :: s7 :: s8 :: s9 :: s10 :: s11 :: s12 :: s13 :: s14 :: s15 :: s16 :: s17 :: s18 :: s19 :: s20 :: s21 :: s22 :: .ow (.list ds) :: ρ) 23 Q = ((-(2 ^ 63) ≤ k ∧ k < 2 ^ 63) ∧ mxK (seqIndex? k ds.length) fun j => ixK ds[j]? fun d => Q (.im d) (s0 :: s1 :: s2 :: s3 :: s4 :: s5 :: s6 :: s7 :: s8 :: s9 :: s10 :: s11 :: s12 :: s13 :: s14 :: s15 :: s16 :: s17 :: s18 :: s19 :: s20 :: s21 :: s22 :: .ow (.list (ds.eraseIdx j)) :: ρ))) := ⟨by intros; rfl, by intros; rfl, by intros; rfl, by intros; rfl, by intros; rfl, by intros; rfl, by intros; rfl, by intros; rfl, by intros; rfl, by intros; rfl, by intros; rfl, by intros; rfl, by intros; rfl, by intros; rfl, by intros; exact propext ⟨fun h => h.2, fun h => ⟨⟨_, rfl⟩, h⟩⟩, by intros; rfl, by intros; exact propext ⟨fun h => h.2, fun h => ⟨⟨_, rfl⟩, h⟩⟩, by intros; exact propext ⟨fun h => h.2, fun h => ⟨⟨_, rfl⟩, h⟩⟩, by intros; rfl, by intros; rfl, by intros; rfl, by intros; rfl, by intros; rfl, by intros; rfl, by intros; rfl, by intros; rfl, by intros; rfl, by intros; rfl, by intros; rfl, by intros; rfl, by intros; rfl, by intros; rfl, by intros; rfl, by intros; rfl, by intros; exact propext ⟨fun h => h.2, fun h => ⟨⟨_, rfl⟩, h⟩⟩, by intros; rfl, by intros; exact propext ⟨fun h => h.2, fun h => ⟨⟨_, rfl⟩, h⟩⟩, by intros; exact propext ⟨fun h => h.2, fun h => ⟨⟨_, rfl⟩, h⟩⟩, by intros; rfl, by intros; rfl⟩
theorem VS12 : (∀ (Γ : Ctx) (Ed : Ex → En → Prop) (s0 s1 s2 s3 s4 s5 s6 s7 s8 s9 s10 s11 s12 s13 s14 s15 s16 s17 s18 s19 s20 s21 s22 s23 : Sl) (d : D) (ρ : En) (Q : R → En → Prop), wpEQ Γ Ed (.var 24) (s0 :: s1 :: s2 :: s3 :: s4 :: s5 :: s6 :: s7 :: s8 :: s9 :: s10 :: s11 :: s12 :: s13 :: s14 :: s15 :: s16 :: s17 :: s18 :: s19 :: s20 :: s21 :: s22 :: s23 :: .im d :: ρ) Q = Q (.im d) (s0 :: s1 :: s2 :: s3 :: s4 :: s5 :: s6 :: s7 :: s8 :: s9 :: s10 :: s11 :: s12 :: s13 :: s14 :: s15 :: s16 :: s17 :: s18 :: s19 :: s20 :: s21 :: s22 :: s23 :: .im d :: ρ)) ∧
  (∀ (Γ : Ctx) (Ed : Ex → En → Prop) (s0 s1 s2 s3 s4 s5 s6 s7 s8 s9 s10 s11 s12 s13 s14 s15 s16 s17 s18 s19 s20 s21 s22 s23 : Sl) (d : D) (ρ : En) (Q : R → En → Prop), wpEQ Γ Ed (.var 24) (s0 :: s1 :: s2 :: s3 :: s4 :: s5 :: s6 :: s7 :: s8 :: s9 :: s10 :: s11 :: s12 :: s13 :: s14 :: s15 :: s16 :: s17 :: s18 :: s19 :: s20 :: s21 :: s22 :: s23 :: .ow d :: ρ) Q = Q (.br 24) (s0 :: s1 :: s2 :: s3 :: s4 :: s5 :: s6 :: s7 :: s8 :: s9 :: s10 :: s11 :: s12 :: s13 :: s14 :: s15 :: s16 :: s17 :: s18 :: s19 :: s20 :: s21 :: s22 :: s23 :: .ow d :: ρ)) ∧
  (∀ (Γ : Ctx) (Ed : Ex → En → Prop) (s0 s1 s2 s3 s4 s5 s6 s7 s8 s9 s10 s11 s12 s13 s14 s15 s16 s17 s18 s19 s20 s21 s22 s23 : Sl) (ρ : En) (Q : R → En → Prop), wpEQ Γ Ed (.var 24) (s0 :: s1 :: s2 :: s3 :: s4 :: s5 :: s6 :: s7 :: s8 :: s9 :: s10 :: s11 :: s12 :: s13 :: s14 :: s15 :: s16 :: s17 :: s18 :: s19 :: s20 :: s21 :: s22 :: s23 :: .dk :: ρ) Q = Q .dk (s0 :: s1 :: s2 :: s3 :: s4 :: s5 :: s6 :: s7 :: s8 :: s9 :: s10 :: s11 :: s12 :: s13 :: s14 :: s15 :: s16 :: s17 :: s18 :: s19 :: s20 :: s21 :: s22 :: s23 :: .dk :: ρ)) ∧
  (∀ (s0 s1 s2 s3 s4 s5 s6 s7 s8 s9 s10 s11 s12 s13 s14 s15 s16 s17 s18 s19 s20 s21 s22 s23 : Sl) (d : D) (ρ : En) (K : D → Prop), peekQ (s0 :: s1 :: s2 :: s3 :: s4 :: s5 :: s6 :: s7 :: s8 :: s9 :: s10 :: s11 :: s12 :: s13 :: s14 :: s15 :: s16 :: s17 :: s18 :: s19 :: s20 :: s21 :: s22 :: s23 :: .ow d :: ρ) (.br 24) K = K d) ∧
  (∀ (s0 s1 s2 s3 s4 s5 s6 s7 s8 s9 s10 s11 s12 s13 s14 s15 s16 s17 s18 s19 s20 s21 s22 s23 : Sl) (d : D) (ρ : En) (K : D → En → Prop), takeRQ (s0 :: s1 :: s2 :: s3 :: s4 :: s5 :: s6 :: s7 :: s8 :: s9 :: s10 :: s11 :: s12 :: s13 :: s14 :: s15 :: s16 :: s17 :: s18 :: s19 :: s20 :: s21 :: s22 :: s23 :: .ow d :: ρ) (.br 24) K = K d (s0 :: s1 :: s2 :: s3 :: s4 :: s5 :: s6 :: s7 :: s8 :: s9 :: s10 :: s11 :: s12 :: s13 :: s14 :: s15 :: s16 :: s17 :: s18 :: s19 :: s20 :: s21 :: s22 :: s23 :: .im d :: ρ)) ∧
  (∀ (s0 s1 s2 s3 s4 s5 s6 s7 s8 s9 s10 s11 s12 s13 s14 s15 s16 s17 s18 s19 s20 s21 s22 s23 : Sl) (d : D) (ρ : En) (K : Sl → En → Prop), slotRQ (s0 :: s1 :: s2 :: s3 :: s4 :: s5 :: s6 :: s7 :: s8 :: s9 :: s10 :: s11 :: s12 :: s13 :: s14 :: s15 :: s16 :: s17 :: s18 :: s19 :: s20 :: s21 :: s22 :: s23 :: .ow d :: ρ) (.br 24) K = K (.im d) (s0 :: s1 :: s2 :: s3 :: s4 :: s5 :: s6 :: s7 :: s8 :: s9 :: s10 :: s11 :: s12 :: s13 :: s14 :: s15 :: s16 :: s17 :: s18 :: s19 :: s20 :: s21 :: s22 :: s23 :: .im d :: ρ)) ∧
  (∀ (s0 s1 s2 s3 s4 s5 s6 s7 s8 s9 s10 s11 s12 s13 s14 s15 s16 s17 s18 s19 s20 s21 s22 s23 : Sl) (d : D) (ρ : En) (K : R → Prop), retRQ (s0 :: s1 :: s2 :: s3 :: s4 :: s5 :: s6 :: s7 :: s8 :: s9 :: s10 :: s11 :: s12 :: s13 :: s14 :: s15 :: s16 :: s17 :: s18 :: s19 :: s20 :: s21 :: s22 :: s23 :: .ow d :: ρ) (.br 24) K = K (.fr d)) ∧
  (∀ (s0 s1 s2 s3 s4 s5 s6 s7 s8 s9 s10 s11 s12 s13 s14 s15 s16 s17 s18 s19 s20 s21 s22 s23 : Sl) (d : D) (ρ : En) (rs : List R) (K : En → Prop), frzK (s0 :: s1 :: s2 :: s3 :: s4 :: s5 :: s6 :: s7 :: s8 :: s9 :: s10 :: s11 :: s12 :: s13 :: s14 :: s15 :: s16 :: s17 :: s18 :: s19 :: s20 :: s21 :: s22 :: s23 :: .ow d :: ρ) (.br 24 :: rs) K = frzK (s0 :: s1 :: s2 :: s3 :: s4 :: s5 :: s6 :: s7 :: s8 :: s9 :: s10 :: s11 :: s12 :: s13 :: s14 :: s15 :: s16 :: s17 :: s18 :: s19 :: s20 :: s21 :: s22 :: s23 :: .im d :: ρ) rs K) ∧
  (∀ (s0 s1 s2 s3 s4 s5 s6 s7 s8 s9 s10 s11 s12 s13 s14 s15 s16 s17 s18 s19 s20 s21 s22 s23 : Sl) (d : D) (ρ : En) (K : D → Prop), peekQ (s0 :: s1 :: s2 :: s3 :: s4 :: s5 :: s6 :: s7 :: s8 :: s9 :: s10 :: s11 :: s12 :: s13 :: s14 :: s15 :: s16 :: s17 :: s18 :: s19 :: s20 :: s21 :: s22 :: s23 :: .im d :: ρ) (.br 24) K = K d) ∧
  (∀ (s0 s1 s2 s3 s4 s5 s6 s7 s8 s9 s10 s11 s12 s13 s14 s15 s16 s17 s18 s19 s20 s21 s22 s23 : Sl) (d : D) (ρ : En) (K : D → En → Prop), takeRQ (s0 :: s1 :: s2 :: s3 :: s4 :: s5 :: s6 :: s7 :: s8 :: s9 :: s10 :: s11 :: s12 :: s13 :: s14 :: s15 :: s16 :: s17 :: s18 :: s19 :: s20 :: s21 :: s22 :: s23 :: .im d :: ρ) (.br 24) K = K d (s0 :: s1 :: s2 :: s3 :: s4 :: s5 :: s6 :: s7 :: s8 :: s9 :: s10 :: s11 :: s12 :: s13 :: s14 :: s15 :: s16 :: s17 :: s18 :: s19 :: s20 :: s21 :: s22 :: s23 :: .im d :: ρ)) ∧
  (∀ (s0 s1 s2 s3 s4 s5 s6 s7 s8 s9 s10 s11 s12 s13 s14 s15 s16 s17 s18 s19 s20 s21 s22 s23 : Sl) (d : D) (ρ : En) (K : Sl → En → Prop), slotRQ (s0 :: s1 :: s2 :: s3 :: s4 :: s5 :: s6 :: s7 :: s8 :: s9 :: s10 :: s11 :: s12 :: s13 :: s14 :: s15 :: s16 :: s17 :: s18 :: s19 :: s20 :: s21 :: s22 :: s23 :: .im d :: ρ) (.br 24) K = K (.im d) (s0 :: s1 :: s2 :: s3 :: s4 :: s5 :: s6 :: s7 :: s8 :: s9 :: s10 :: s11 :: s12 :: s13 :: s14 :: s15 :: s16 :: s17 :: s18 :: s19 :: s20 :: s21 :: s22 :: s23 :: .im d :: ρ)) ∧
  (∀ (s0 s1 s2 s3 s4 s5 s6 s7 s8 s9 s10 s11 s12 s13 s14 s15 s16 s17 s18 s19 s20 s21 s22 s23 : Sl) (d : D) (ρ : En) (K : R → Prop), retRQ (s0 :: s1 :: s2 :: s3 :: s4 :: s5 :: s6 :: s7 :: s8 :: s9 :: s10 :: s11 :: s12 :: s13 :: s14 :: s15 :: s16 :: s17 :: s18 :: s19 :: s20 :: s21 :: s22 :: s23 :: .im d :: ρ) (.br 24) K = K (.im d)) ∧
  (∀ (s0 s1 s2 s3 s4 s5 s6 s7 s8 s9 s10 s11 s12 s13 s14 s15 s16 s17 s18 s19 s20 s21 s22 s23 : Sl) (d : D) (ρ : En) (rs : List R) (K : En → Prop), frzK (s0 :: s1 :: s2 :: s3 :: s4 :: s5 :: s6 :: s7 :: s8 :: s9 :: s10 :: s11 :: s12 :: s13 :: s14 :: s15 :: s16 :: s17 :: s18 :: s19 :: s20 :: s21 :: s22 :: s23 :: .im d :: ρ) (.br 24 :: rs) K = frzK (s0 :: s1 :: s2 :: s3 :: s4 :: s5 :: s6 :: s7 :: s8 :: s9 :: s10 :: s11 :: s12 :: s13 :: s14 :: s15 :: s16 :: s17 :: s18 :: s19 :: s20 :: s21 :: s22 :: s23 :: .im d :: ρ) rs K) ∧
  (∀ (s0 s1 s2 s3 s4 s5 s6 s7 s8 s9 s10 s11 s12 s13 s14 s15 s16 s17 s18 s19 s20 s21 s22 s23 : Sl) (s t : Sl) (ρ : En) (K : En → Prop), setK (s0 :: s1 :: s2 :: s3 :: s4 :: s5 :: s6 :: s7 :: s8 :: s9 :: s10 :: s11 :: s12 :: s13 :: s14 :: s15 :: s16 :: s17 :: s18 :: s19 :: s20 :: s21 :: s22 :: s23 :: s :: ρ) 24 t K = K (s0 :: s1 :: s2 :: s3 :: s4 :: s5 :: s6 :: s7 :: s8 :: s9 :: s10 :: s11 :: s12 :: s13 :: s14 :: s15 :: s16 :: s17 :: s18 :: s19 :: s20 :: s21 :: s22 :: s23 :: t :: ρ)) ∧
  (∀ (Γ : Ctx) (Ed : Ex → En → Prop) (s0 s1 s2 s3 s4 s5 s6 s7 s8 s9 s10 s11 s12 s13 s14 s15 s16 s17 s18 s19 s20 s21 s22 s23 : Sl) (ds : List D) (e : IE) (ρ : En) (Q : R → En → Prop), wpEQ Γ Ed (.app 24 e) (s0 :: s1 :: s2 :: s3 :: s4 :: s5 :: s6 :: s7 :: s8 :: s9 :: s10 :: s11 :: s12 :: s13 :: s14 :: s15 :: s16 :: s17 :: s18 :: s19 :: s20 :: s21 :: s22 :: s23 :: .ow (.list ds) :: ρ) Q = wpEQ Γ Ed e (s0 :: s1 :: s2 :: s3 :: s4 :: s5 :: s6 :: s7 :: s8 :: s9 :: s10 :: s11 :: s12 :: s13 :: s14 :: s15 :: s16 :: s17 :: s18 :: s19 :: s20 :: s21 :: s22 :: s23 :: .ow (.list ds) :: ρ) fun r ρ1 => takeRQ ρ1 r fun d ρ2 => appK ρ2 24 d Q) ∧
  (∀ (s0 s1 s2 s3 s4 s5 s6 s7 s8 s9 s10 s11 s12 s13 s14 s15 s16 s17 s18 s19 s20 s21 s22 s23 : Sl) (ds : List D) (d : D) (ρ : En) (Q : R → En → Prop), appK (s0 :: s1 :: s2 :: s3 :: s4 :: s5 :: s6 :: s7 :: s8 :: s9 :: s10 :: s11 :: s12 :: s13 :: s14 :: s15 :: s16 :: s17 :: s18 :: s19 :: s20 :: s21 :: s22 :: s23 :: .ow (.list ds) :: ρ) 24 d Q = (ds.length < sizeLine ∧ Q (.im .none) (s0 :: s1 :: s2 :: s3 :: s4 :: s5 :: s6 :: s7 :: s8 :: s9 :: s10 :: s11 :: s12 :: s13 :: s14 :: s15 :: s16 :: s17 :: s18 :: s19 :: s20 :: s21 :: s22 :: s23 :: .ow (.list (ds ++ [d])) :: ρ))) ∧
  (∀ (Γ : Ctx) (Ed : Ex → En → Prop) (s0 s1 s2 s3 s4 s5 s6 s7 s8 s9 s10 s11 s12 s13 s14 s15 s16 s17 s18 s19 s20 s21 s22 s23 : Sl) (ds : List D) (e : IE) (ρ : En) (Q : R → En → Prop), wpEQ Γ Ed (.popAt 24 e) (s0 :: s1 :: s2 :: s3 :: s4 :: s5 :: s6 :: s7 :: s8 :: s9 :: s10 :: s11 :: s12 :: s13 :: s14 :: s15 :: s16 :: s17 :: s18 :: s19 :: s20 :: s21 :: s22 :: s23 :: .ow (.list ds) :: ρ) Q = wpEQ Γ Ed e (s0 :: s1 :: s2 :: s3 :: s4 :: s5 :: s6 :: s7 :: s8 :: s9 :: s10 :: s11 :: s12 :: s13 :: s14 :: s15 :: s16 :: s17 :: s18 :: s19 :: s20 :: s21 :: s22 :: s23 :: .ow (.list ds) :: ρ) fun r ρ1 => popK r ρ1 24 Q) ∧
  (∀ (Γ : Ctx) (s0 s1 s2 s3 s4 s5 s6 s7 s8 s9 s10 s11 s12 s13 s14 s15 s16 s17 s18 s19 s20 s21 s22 s23 : Sl) (ds : List D) (k : IE) (d : D) (ρ : En) (K : En → Prop), asgTQ Γ (.sub 24 k) d (s0 :: s1 :: s2 :: s3 :: s4 :: s5 :: s6 :: s7 :: s8 :: s9 :: s10 :: s11 :: s12 :: s13 :: s14 :: s15 :: s16 :: s17 :: s18 :: s19 :: s20 :: s21 :: s22 :: s23 :: .ow (.list ds) :: ρ) K = wpEQ Γ noEx k (s0 :: s1 :: s2 :: s3 :: s4 :: s5 :: s6 :: s7 :: s8 :: s9 :: s10 :: s11 :: s12 :: s13 :: s14 :: s15 :: s16 :: s17 :: s18 :: s19 :: s20 :: s21 :: s22 :: s23 :: .ow (.list ds) :: ρ) fun r ρ1 => stoK r ρ1 24 d K) ∧
  (∀ (s0 s1 s2 s3 s4 s5 s6 s7 s8 s9 s10 s11 s12 s13 s14 s15 s16 s17 s18 s19 s20 s21 s22 s23 : Sl) (ds : List D) (j : Int) (d : D) (ρ : En) (K : En → Prop), stoK (.im (.int j)) (s0 :: s1 :: s2 :: s3 :: s4 :: s5 :: s6 :: s7 :: s8 :: s9 :: s10 :: s11 :: s12 :: s13 :: s14 :: s15 :: s16 :: s17 :: s18 :: s19 :: s20 :: s21 :: s22 :: s23 :: .ow (.list ds) :: ρ) 24 d K = mxK (ixN ds.length j) fun m => K (s0 :: s1 :: s2 :: s3 :: s4 :: s5 :: s6 :: s7 :: s8 :: s9 :: s10 :: s11 :: s12 :: s13 :: s14 :: s15 :: s16 :: s17 :: s18 :: s19 :: s20 :: s21 :: s22 :: s23 :: .ow (.list (ds.set m d)) :: ρ)) ∧
  (∀ (s0 s1 s2 s3 s4 s5 s6 s7 s8 s9 s10 s11 s12 s13 s14 s15 s16 s17 s18 s19 s20 s21 s22 s23 : Sl) (ds : List D) (k : Int) (ρ : En) (Q : R → En → Prop), popK (.im (.int k)) (s0 :: s1 :: s2 :: s3 :: s4 :: s5 :: s6 :: s7 :: s8 :: s9 :: s10 :: s11 :: s12 :: s13 :: s14 :: s15 :: s16 :: s17 :: s18 :: s19 :: s20 :: s21 :: s22 :: s23 :: .ow (.list ds) :: ρ) 24 Q = ((-(2 ^ 63) ≤ k ∧ k < 2 ^ 63) ∧ mxK (seqIndex? k ds.length) fun j => ixK ds[j]? fun d => Q (.im d) (s0 :: s1 :: s2 :: s3 :: s4 :: s5 :: s6 :: s7 :: s8 :: s9 :: s10 :: s11 :: s12 :: s13 :: s14 :: s15 :: s16 :: s17 :: s18 :: s19 :: s20 :: s21 :: s22 :: s23 :: .ow (.list (ds.eraseIdx j)) :: ρ))) ∧
  (∀ (Γ : Ctx) (Ed : Ex → En → Prop) (s0 s1 s2 s3 s4 s5 s6 s7 s8 s9 s10 s11 s12 s13 s14 s15 s16 s17 s18 s19 s20 s21 s22 s23 s24 : Sl) (d : D) (ρ : En) (Q : R → En → Prop), wpEQ Γ Ed (.var 25) (s0 :: s1 :: s2 :: s3 :: s4 :: s5 :: s6 :: s7 :: s8 :: s9 :: s10 :: s11 :: s12 :: s13 :: s14 :: s15 :: s16 :: s17 :: s18 :: s19 :: s20 :: s21 :: s22 :: s23 :: s24 :: .im d :: ρ) Q = Q (.im d) (s0 :: s1 :: s2 :: s3 :: s4 :: s5 :: s6 :: s7 :: s8 :: s9 :: s10 :: s11 :: s12 :: s13 :: s14 :: s15 :: s16 :: s17 :: s18 :: s19 :: s20 :: s21 :: s22 :: s23 :: s24 :: .im d :: ρ)) ∧
  (∀ (Γ : Ctx) (Ed : Ex → En → Prop) (s0 s1 s2 s3 s4 s5 s6 s7 s8 s9 s10 s11 s12 s13 s14 s15 s16 s17 s18 s19 s20 s21 s22 s23 s24 : Sl) (d : D) (ρ : En) (Q : R → En → Prop), wpEQ Γ Ed (.var 25) (s0 :: s1 :: s2 :: s3 :: s4 :: s5 :: s6 :: s7 :: s8 :: s9 :: s10 :: s11 :: s12 :: s13 :: s14 :: s15 :: s16 :: s17 :: s18 :: s19 :: s20 :: s21 :: s22 :: s23 :: s24 :: .ow d :: ρ) Q = Q (.br 25) (s0 :: s1 :: s2 :: s3 :: s4 :: s5 :: s6 :: s7 :: s8 :: s9 :: s10 :: s11 :: s12 :: s13 :: s14 :: s15 :: s16 :: s17 :: s18 :: s19 :: s20 :: s21 :: s22 :: s23 :: s24 :: .ow d :: ρ)) ∧
  (∀ (Γ : Ctx) (Ed : Ex → En → Prop) (s0 s1 s2 s3 s4 s5 s6 s7 s8 s9 s10 s11 s12 s13 s14 s15 s16 s17 s18 s19 s20 s21 s22 s23 s24 : Sl) (ρ : En) (Q : R → En → Prop), wpEQ Γ Ed (.var 25) (s0 :: s1 :: s2 :: s3 :: s4 :: s5 :: s6 :: s7 :: s8 :: s9 :: s10 :: s11 :: s12 :: s13 :: s14 :: s15 :: s16 :: s17 :: s18 :: s19 :: s20 :: s21 :: s22 :: s23 :: s24 :: .dk :: ρ) Q = Q .dk (s0 :: s1 :: s2 :: s3 :: s4 :: s5 :: s6 :: s7 :: s8 :: s9 :: s10 :: s11 :: s12 :: s13 :: s14 :: s15 :: s16 :: s17 :: s18 :: s19 :: s20 :: s21 :: s22 :: s23 :: s24 :: .dk :: ρ)) ∧
  (∀ (s0 s1 s2 s3 s4 s5 s6 s7 s8 s9 s10 s11 s12 s13 s14 s15 s16 s17 s18 s19 s20 s21 s22 s23 s24 : Sl) (d : D) (ρ : En) (K : D → Prop), peekQ (s0 :: s1 :: s2 :: s3 :: s4 :: s5 :: s6 :: s7 :: s8 :: s9 :: s10 :: s11 :: s12 :: s13 :: s14 :: s15 :: s16 :: s17 :: s18 :: s19 :: s20 :: s21 :: s22 :: s23 :: s24 :: .ow d :: ρ) (.br 25) K = K d) ∧
  (∀ (s0 s1 s2 s3 s4 s5 s6 s7 s8 s9 s10 s11 s12 s13 s14 s15 s16 s17 s18 s19 s20 s21 s22 s23 s24 : Sl) (d : D) (ρ : En) (K : D → En → Prop), takeRQ (s0 :: s1 :: s2 :: s3 :: s4 :: s5 :: s6 :: s7 :: s8 :: s9 :: s10 :: s11 :: s12 :: s13 :: s14 :: s15 :: s16 :: s17 :: s18 :: s19 :: s20 :: s21 :: s22 :: s23 :: s24 :: .ow d :: ρ) (.br 25) K = K d (s0 :: s1 :: s2 :: s3 :: s4 :: s5 :: s6 :: s7 :: s8 :: s9 :: s10 :: s11 :: s12 :: s13 :: s14 :: s15 :: s16 :: s17 :: s18 :: s19 :: s20 :: s21 :: s22 :: s23 :: s24 :: .im d :: ρ)) ∧
  (∀ (s0 s1 s2 s3 s4 s5 s6 s7 s8 s9 s10 s11 s12 s13 s14 s15 s16 s17 s18 s19 s20 s21 s22 s23 s24 : Sl) (d : D) (ρ : En) (K : Sl → En → Prop), slotRQ (s0 :: s1 :: s2 :: s3 :: s4 :: s5 :: s6 :: s7 :: s8 :: s9 :: s10 :: s11 :: s12 :: s13 :: s14 :: s15 :: s16 :: s17 :: s18 :: s19 :: s20 :: s21 :: s22 :: s23 :: s24 :: .ow d :: ρ) (.br 25) K = K (.im d) (s0 :: s1 :: s2 :: s3 :: s4 :: s5 :: s6 :: s7 :: s8 :: s9 :: s10 :: s11 :: s12 :: s13 :: s14 :: s15 :: s16 :: s17 :: s18 :: s19 :: s20 :: s21 :: s22 :: s23 :: s24 :: .im d :: ρ)) ∧
  (∀ (s0 s1 s2 s3 s4 s5 s6 s7 s8 s9 s10 s11 s12 s13 s14 s15 s16 s17 s18 s19 s20 s21 s22 s23 s24 : Sl) (d : D) (ρ : En) (K : R → Prop), retRQ (s0 :: s1 :: s2 :: s3 :: s4 :: s5 :: s6 :: s7 :: s8 :: s9 :: s10 :: s11 :: s12 :: s13 :: s14 :: s15 :: s16 :: s17 :: s18 :: s19 :: s20 :: s21 :: s22 :: s23 :: s24 :: .ow d :: ρ) (.br 25) K = K (.fr d)) ∧
  (∀ (s0 s1 s2 s3 s4 s5 s6 s7 s8 s9 s10 s11 s12 s13 s14 s15 s16 s17 s18 s19 s20 s21 s22 s23 s24 : Sl) (d : D) (ρ : En) (rs : List R) (K : En → Prop), frzK (s0 :: s1 :: s2 :: s3 :: s4 :: s5 :: s6 :: s7 :: s8 :: s9 :: s10 :: s11 :: s12 :: s13 :: s14 :: s15 :: s16 :: s17 :: s18 :: s19 :: s20 :: s21 :: s22 :: s23 :: s24 :: .ow d :: ρ) (.br 25 :: rs) K = frzK (s0 :: s1 :: s2 :: s3 :: s4 :: s5 :: s6 :: s7 :: s8 :: s9 :: s10 :: s11 :: s12 :: s13 :: s14 :: s15 :: s16 :: s17 :: s18 :: s19 :: s20 :: s21 :: s22 :: s23 :: s24 :: .im d :: ρ) rs K) ∧
  (∀ (s0 s1 s2 s3 s4 s5 s6 s7 s8 s9 s10 s11 s12 s13 s14 s15 s16 s17 s18 s19 s20 s21 s22 s23 s24 : Sl) (d : D) (ρ : En) (K : D → Prop), peekQ (s0 :: s1 :: s2 :: s3 :: s4 :: s5 :: s6 :: s7 :: s8 :: s9 :: s10 :: s11 :: s12 :: s13 :: s14 :: s15 :: s16 :: s17 :: s18 :: s19 :: s20 :: s21 :: s22 :: s23 :: s24 :: .im d :: ρ) (.br 25) K = K d) ∧
  (∀ (s0 s1 s2 s3 s4 s5 s6 s7 s8 s9 s10 s11 s12 s13 s14 s15 s16 s17 s18 s19 s20 s21 s22 s23 s24 : Sl) (d : D) (ρ : En) (K : D → En → Prop), takeRQ (s0 :: s1 :: s2 :: s3 :: s4 :: s5 :: s6 :: s7 :: s8 :: s9 :: s10 :: s11 :: s12 :: s13 :: s14 :: s15 :: s16 :: s17 :: s18 :: s19 :: s20 :: s21 :: s22 :: s23 :: s24 :: .im d :: ρ) (.br 25) K = K d (s0 :: s1 :: s2 :: s3 :: s4 :: s5 :: s6 :: s7 :: s8 :: s9 :: s10 :: s11 :: s12 :: s13 :: s14 :: s15 :: s16 :: s17 :: s18 :: s19 :: s20 :: s21 :: s22 :: s23 :: s24 :: .im d :: ρ)) ∧
  (∀ (s0 s1 s2 s3 s4 s5 s6 s7 s8 s9 s10 s11 s12 s13 s14 s15 s16 s17 s18 s19 s20 s21 s22 s23 s24 : Sl) (d : D) (ρ : En) (K : Sl → En → Prop), slotRQ (s0 :: s1 :: s2 :: s3 :: s4 :: s5 :: s6 :: s7 :: s8 :: s9 :: s10 :: s11 :: s12 :: s13 :: s14 :: s15 :: s16 :: s17 :: s18 :: s19 :: s20 :: s21 :: s22 :: s23 :: s24 :: .im d :: ρ) (.br 25) K = K (.im d) (s0 :: s1 :: s2 :: s3 :: s4 :: s5 :: s6 :: s7 :: s8 :: s9 :: s10 :: s11 :: s12 :: s13 :: s14 :: s15 :: s16 :: s17 :: s18 :: s19 :: s20 :: s21 :: s22 :: s23 :: s24 :: .im d :: ρ)) ∧
  (∀ (s0 s1 s2 s3 s4 s5 s6 s7 s8 s9 s10 s11 s12 s13 s14 s15 s16 s17 s18 s19 s20 s21 s22 s23 s24 : Sl) (d : D) (ρ : En) (K : R → Prop), retRQ (s0 :: s1 :: s2 :: s3 :: s4 :: s5 :: s6 :: s7 :: s8 :: s9 :: s10 :: s11 :: s12 :: s13 :: s14 :: s15 :: s16 :: s17 :: s18 :: s19 :: s20 :: s21 :: s22 :: s23 :: s24 :: .im d :: ρ) (.br 25) K = K (.im d)) ∧
  (∀ (s0 s1 s2 s3 s4 s5 s6 s7 s8 s9 s10 s11 s12 s13 s14 s15 s16 s17 s18 s19 s20 s21 s22 s23 s24 : Sl) (d : D) (ρ : En) (rs : List R) (K : En → Prop), frzK (s0 :: s1 :: s2 :: s3 :: s4 :: s5 :: s6 :: s7 :: s8 :: s9 :: s10 :: s11 :: s12 :: s13 :: s14 :: s15 :: s16 :: s17 :: s18 :: s19 :: s20 :: s21 :: s22 :: s23 :: s24 :: .im d :: ρ) (.br 25 :: rs) K = frzK (s0 :: s1 :: s2 :: s3 :: s4 :: s5 :: s6 :: s7 :: s8 :: s9 :: s10 :: s11 :: s12 :: s13 :: s14 :: s15 :: s16 :: s17 :: s18 :: s19 :: s20 :: s21 :: s22 :: s23 :: s24 :: .im d :: ρ) rs K) ∧
  (∀ (s0 s1 s2 s3 s4 s5 s6 s7 s8 s9 s10 s11 s12 s13 s14 s15 s16 s17 s18 s19 s20 s21 s22 s23 s24 : Sl) (s t : Sl) (ρ : En) (K : En → Prop), setK (s0 :: s1 :: s2 :: s3 :: s4 :: s5 :: s6 :: s7 :: s8 :: s9 :: s10 :: s11 :: s12 :: s13 :: s14 :: s15 :: s16 :: s17 :: s18 :: s19 :: s20 :: s21 :: s22 :: s23 :: s24 :: s :: ρ) 25 t K = K (s0 :: s1 :: s2 :: s3 :: s4 :: s5 :: s6 :: s7 :: s8 :: s9 :: s10 :: s11 :: s12 :: s13 :: s14 :: s15 :: s16 :: s17 :: s18 :: s19 :: s20 :: s21 :: s22 :: s23 :: s24 :: t :: ρ)) ∧
  (∀ (Γ : Ctx) (Ed : Ex → En → Prop) (s0 s1 s2 s3 s4 s5 s6 s7 s8 s9 s10 s11 s12 s13 s14 s15 s16 s17 s18 s19 s20 s21 s22 s23 s24 : Sl) (ds : List D) (e : IE) (ρ : En) (Q : R → En → Prop), wpEQ Γ Ed (.app 25 e) (s0 :: s1 :: s2 :: s3 :: s4 :: s5 :: s6 :: s7 :: s8 :: s9 :: s10 :: s11 :: s12 :: s13 :: s14 :: s15 :: s16 :: s17 :: s18 :: s19 :: s20 :: s21 :: s22 :: s23 :: s24 :: .ow (.list ds) :: ρ) Q = wpEQ Γ Ed e (s0 :: s1 :: s2 :: s3 :: s4 :: s5 :: s6 :: s7 :: s8 :: s9 :: s10 :: s11 :: s12 :: s13 :: s14 :: s15 :: s16 :: s17 :: s18 :: s19 :: s20 :: s21 :: s22 :: s23 :: s24 :: .ow (.list ds) :: ρ) fun r ρ1 => takeRQ ρ1 r fun d ρ2 => appK ρ2 25 d Q) ∧
  (∀ (s0 s1 s2 s3 s4 s5 s6 s7 s8 s9 s10 s11 s12 s13 s14 s15 s16 s17 s18 s19 s20 s21 s22 s23 s24 : Sl) (ds : List D) (d : D) (ρ : En) (Q : R → En → Prop), appK (s0 :: s1 :: s2 :: s3 :: s4 :: s5 :: s6 :: s7 :: s8 :: s9 :: s10 :: s11 :: s12 :: s13 :: s14 :: s15 :: s16 :: s17 :: s18 :: s19 :: s20 :: s21 :: s22 :: s23 :: s24 :: .ow (.list ds) :: ρ) 25 d Q = (ds.length < sizeLine ∧ Q (.im .none) (s0 :: s1 :: s2 :: s3 :: s4 :: s5 :: s6 :: s7 :: s8 :: s9 :: s10 :: s11 :: s12 :: s13 :: s14 :: s15 :: s16 :: s17 :: s18 :: s19 :: s20 :: s21 :: s22 :: s23 :: s24 :: .ow (.list (ds ++ [d])) :: ρ))) ∧
  (∀ (Γ : Ctx) (Ed : Ex → En → Prop) (s0 s1 s2 s3 s4 s5 s6 s7 s8 s9 s10 s11 s12 s13 s14 s15 s16 s17 s18 s19 s20 s21 s22 s23 s24 : Sl) (ds : List D) (e : IE) (ρ : En) (Q : R → En → Prop), wpEQ Γ Ed (.popAt 25 e) (s0 :: s1 :: s2 :: s3 :: s4 :: s5 :: s6 :: s7 :: s8 :: s9 :: s10 :: s11 :: s12 :: s13 :: s14 :: s15 :: s16 :: s17 :: s18 :: s19 :: s20 :: s21 :: s22 :: s23 :: s24 :: .ow (.list ds) :: ρ) Q = wpEQ Γ Ed e (s0 :: s1 :: s2 :: s3 :: s4 :: s5 :: s6 :: s7 :: s8 :: s9 :: s10 :: s11 :: s12 :: s13 :: s14 :: s15 :: s16 :: s17 :: s18 :: s19 :: s20 :: s21 :: s22 :: s23 :: s24 :: .ow (.list ds) :: ρ) fun r ρ1 => popK r ρ1 25 Q) ∧
  (∀ (Γ : Ctx) (s0 s1 s2 s3 s4 s5 s6 s7 s8 s9 s10 s11 s12 s13 s14 s15 s16 s17 s18 s19 s20 s21 s22 s23 s24 : Sl) (ds : List D) (k : IE) (d : D) (ρ : En) (K : En → Prop), asgTQ Γ (.sub 25 k) d (s0 :: s1 :: s2 :: s3 :: s4 :: s5 :: s6 :: s7 :: s8 :: s9 :: s10 :: s11 :: s12 :: s13 :: s14 :: s15 :: s16 :: s17 :: s18 :: s19 :: s20 :: s21 :: s22 :: s23 :: s24 :: .ow (.list ds) :: ρ) K = wpEQ Γ noEx k (s0 :: s1 :: s2 :: s3 :: s4 :: s5 :: s6 :: s7 :: s8 :: s9 :: s10 :: s11 :: s12 :: s13 :: s14 :: s15 :: s16 :: s17 :: s18 :: s19 :: s20 :: s21 :: s22 :: s23 :: s24 :: .ow (.list ds) :: ρ) fun r ρ1 => stoK r ρ1 25 d K) ∧
  (∀ (s0 s1 s2 s3 s4 s5 s6 s7 s8 s9 s10 s11 s12 s13 s14 s15 s16 s17 s18 s19 s20 s21 s22 s23 s24 : Sl) (ds : List D) (j : Int) (d : D) (ρ : En) (K : En → Prop), stoK (.im (.int j)) (s0 :: s1 :: s2 :: s3 :: s4 :: s5 :: s6 :: s7 :: s8 :: s9 :: s10 :: s11 :: s12 :: s13 :: s14 :: s15 :: s16 :: s17 :: s18 :: s19 :: s20 :: s21 :: s22 :: s23 :: s24 :: .ow (.list ds) :: ρ) 25 d K = mxK (ixN ds.length j) fun m => K (s0 :: s1 :: s2 :: s3 :: s4 :: s5 :: s6 :: s7 :: s8 :: s9 :: s10 :: s11 :: s12 :: s13 :: s14 :: s15 :: s16 :: s17 :: s18 :: s19 :: s20 :: s21 :: s22 :: s23 :: s24 :: .ow (.list (ds.set m d)) :: ρ)) ∧
  (∀ (s0 s1 s2 s3 s4 s5 s6 s7 s8 s9 s10 s11 s12 s13 s14 s15 s16 s17 s18 s19 s20 s21 s22 s23 s24 : Sl) (ds : List D) (k : Int) (ρ : En) (Q : R → En → Prop), popK (.im (.int k)) (s0 :: s1 :: s2 :: s3 :: s4 :: s5 :: s6 :: s7 :: s8 :: s9 :: s10 :: s11 :: s12 :: s13 :: s14 :: s15 :: s16 :: s17 :: s18 :: s19 :: s20 :: s21 :: s22 :: s23 :: s24 :: .ow (.list ds) :: ρ) 25 Q = ((-(2 ^ 63) ≤ k ∧ k < 2 ^ 63) ∧ mxK (seqIndex? k ds.length) fun j => ixK ds[j]? fun d => Q (.im d) (s0 :: s1 :: s2 :: s3 :: s4 :: s5 :: s6 :: s7 :: s8 :: s9 :: s10 :: s11 :: s12 :: s13 :: s14 :: s15 :: s16 :: s17 :: s18 :: s19 :: s20 :: s21 :: s22 :: s23 :: s24 :: .ow (.list (ds.eraseIdx j)) :: ρ))) := ⟨by intros; rfl, by intros; rfl, by intros; rfl, by intros; rfl, by intros; rfl, by intros; rfl, by intros; rfl, by intros; rfl, by intros; rfl, by intros; rfl, by intros; rfl, by intros; rfl, by intros; rfl, by intros; rfl, by intros; exact propext ⟨fun h => h.2, fun h => ⟨⟨_, rfl⟩, h⟩⟩, by intros; rfl, by intros; exact propext ⟨fun h => h.2, fun h => ⟨⟨_, rfl⟩, h⟩⟩, by intros; exact propext ⟨fun h => h.2, fun h => ⟨⟨_, rfl⟩, h⟩⟩, by intros; rfl, by intros; rfl, by intros; rfl, by intros; rfl, by intros; rfl, by intros; rfl, by intros; rfl, by intros; rfl, by intros; rfl, by intros; rfl, by intros; rfl, by intros; rfl, by intros; rfl, by intros; rfl, by intros; rfl, by intros; rfl, by intros; exact propext ⟨fun h => h.2, fun h => ⟨⟨_, rfl⟩, h⟩⟩, by intros; rfl, by intros; exact propext ⟨fun h => h.2, fun h => ⟨⟨_, rfl⟩, h⟩⟩, by intros; exact propext ⟨fun h => h.2, fun h => ⟨⟨_, rfl⟩, h⟩⟩, by intros; rfl, by intros; rfl⟩
theorem VZ0 : (∀ (Kb : Bool → Prop) (i j : Int), cmpDQ .lt (.int i) (.int j) Kb = Kb (decide (i < j))) ∧
  (∀ (Kb : Bool → Prop) (i j : Int), cmpDQ .le (.int i) (.int j) Kb = Kb (decide (i ≤ j))) ∧
  (∀ (Kb : Bool → Prop) (i j : Int), cmpDQ .gt (.int i) (.int j) Kb = Kb (decide (j < i))) ∧
  (∀ (Kb : Bool → Prop) (i j : Int), cmpDQ .ge (.int i) (.int j) Kb = Kb (decide (j ≤ i))) ∧
  (∀ (Kb : Bool → Prop) (i j : Int), cmpDQ .eq (.int i) (.int j) Kb = Kb (decide (i = j))) ∧
  (∀ (Kb : Bool → Prop) (i j : Int), cmpDQ .ne (.int i) (.int j) Kb = Kb (!decide (i = j))) ∧
  (∀ (Kb : Bool → Prop) (x y : Str), cmpDQ .eq (.str x) (.str y) Kb = Kb (decide (x = y))) ∧
  (∀ (Kb : Bool → Prop) (x y : Str), cmpDQ .ne (.str x) (.str y) Kb = Kb (!decide (x = y))) ∧
  (∀ (Kb : Bool → Prop) (d : D), cmpDQ .is_ d .none Kb = Kb (isNon d)) ∧
  (∀ (Kb : Bool → Prop) (d : D), cmpDQ .isnot d .none Kb = Kb (!isNon d)) ∧
  (∀ (Kr : R → Prop) (i j : Int), binDQ .add (.int i) (.int j) Kr = Kr (.im (.int (i + j)))) ∧
  (∀ (Kr : R → Prop) (x y : Str), binDQ .add (.str x) (.str y) Kr = (x.length + y.length ≤ sizeLine ∧ Kr (.im (.str (x ++ y))))) ∧
  (∀ (Kr : R → Prop) (xs ys : List D), binDQ .add (.list xs) (.list ys) Kr = (xs.length + ys.length ≤ sizeLine ∧ Kr (.fr (.list (xs ++ ys))))) ∧
  (∀ (Kr : R → Prop) (xs ys : List D), binDQ .add (.tuple xs) (.tuple ys) Kr = (xs.length + ys.length ≤ sizeLine ∧ Kr (.im (.tuple (xs ++ ys))))) ∧
  (∀ (Kr : R → Prop) (i j : Int), binDQ .sub (.int i) (.int j) Kr = Kr (.im (.int (i - j)))) ∧
  (∀ (Kr : R → Prop) (i j : Int), binDQ .mul (.int i) (.int j) Kr = (IntMulOk i j ∧ Kr (.im (.int (i * j))))) ∧
  (∀ (Kr : R → Prop) (j : Int) (xs : List D), binDQ .mul (.list xs) (.int j) Kr = ((-(2 ^ 63) ≤ j ∧ j < 2 ^ 63 ∧ xs.length * j.toNat ≤ sizeLine) ∧ Kr (.fr (.list (List.replicate j.toNat xs).flatten)))) ∧
  (∀ (Kr : R → Prop) (j : Int) (xs : List D), binDQ .mul (.tuple xs) (.int j) Kr = ((xs ≠ [] ∧ 2 ≤ j ∧ j ≤ 1000 ∧ xs.length ≤ 1000) ∧ Kr (.im (.tuple (List.replicate j.toNat xs).flatten)))) ∧
  (∀ (Kr : R → Prop) (i j : Int), binDQ .fdiv (.int i) (.int j) Kr = ((0 < j ∧ j.natAbs.log2 < 9000) ∧ Kr (.im (.int (i / j))))) ∧
  (∀ (Kr : R → Prop) (i j : Int), binDQ .mod (.int i) (.int j) Kr = (0 < j ∧ Kr (.im (.int (i % j))))) ∧
  (∀ (Kr : R → Prop) (i j : Int), binDQ .pow (.int i) (.int j) Kr = ((0 ≤ j ∧ j ≤ 1000000 ∧ i.natAbs < 2 ^ 64) ∧ Kr (.im (.int (i ^ j.toNat))))) ∧
  (∀ (Kr : R → Prop) (xs : List D) (lo hi : Option Int), slcDQ (.tuple xs) lo hi Kr = Kr (.im (.tuple (cutD xs lo hi)))) ∧
  (∀ (Kr : R → Prop) (xs : List D) (lo hi : Option Int), slcDQ (.list xs) lo hi Kr = Kr (.fr (.list (cutD xs lo hi)))) ∧
  (∀ (Kr : R → Prop) (xs : List D), revDQ (.tuple xs) Kr = Kr (.im (.tuple xs.reverse))) ∧
  (∀ (Kr : R → Prop) (xs : List D), revDQ (.list xs) Kr = Kr (.fr (.list xs.reverse))) ∧
  (∀ (Kr : R → Prop) (xs : List D), biDQ .len [.tuple xs] Kr = Kr (.im (.int xs.length))) ∧
  (∀ (Kr : R → Prop) (xs : List D), biDQ .len [.list xs] Kr = Kr (.im (.int xs.length))) ∧
  (∀ (Kr : R → Prop) (i : Int), biDQ .int [.int i] Kr = Kr (.im (.int i))) ∧
  (∀ (Kr : R → Prop) (b : Bool), biDQ .int [.bool b] Kr = Kr (.im (.int (if b then 1 else 0)))) ∧
  (∀ (Kr : R → Prop) (xs : List D), biDQ .list [.list xs] Kr = Kr (.fr (.list xs))) ∧
  (∀ (Kr : R → Prop) (xs : List D), biDQ .list [.tuple xs] Kr = Kr (.fr (.list xs))) ∧
  (∀ (Kr : R → Prop) (xs : List D), biDQ .tuple [.list xs] Kr = Kr (.im (.tuple xs))) ∧
  (∀ (Kr : R → Prop) (xs : List D), biDQ .tuple [.tuple xs] Kr = Kr (.im (.tuple xs))) ∧
  (∀ (Ki : List D → Prop) (xs : List D), itemsDQ (.list xs) Ki = (xs.length ≤ sizeLine ∧ Ki xs)) ∧
  (∀ (Ki : List D → Prop) (xs : List D), itemsDQ (.tuple xs) Ki = (xs.length ≤ sizeLine ∧ Ki xs)) ∧
  (∀ (Ki : List D → Prop) (i : Int), rngDQ [.int i] Ki = ((-(2 ^ 62) ≤ i ∧ i ≤ 2 ^ 24) ∧ Ki (rngL 0 i))) ∧
  (∀ (a b : Int) (K : List D → Prop), rngDQ [.int a, .int b] K = ((-(2 ^ 62) ≤ a ∧ a < 2 ^ 62 ∧ -(2 ^ 62) ≤ b ∧ b < 2 ^ 62 ∧ (b - a).toNat ≤ 2 ^ 24) ∧ K (rngL a b))) ∧
  (∀ (xs ys : List D) (K : List D → Prop), zipDQ (.list xs) (.list ys) K = ((xs.length ≤ sizeLine ∧ ys.length ≤ sizeLine) ∧ K ((xs.zip ys).map fun p => .tuple [p.1, p.2]))) ∧
  (∀ (xs ys : List D) (K : List D → Prop), zipDQ (.tuple xs) (.tuple ys) K = ((xs.length ≤ sizeLine ∧ ys.length ≤ sizeLine) ∧ K ((xs.zip ys).map fun p => .tuple [p.1, p.2]))) ∧
  (∀ (i j : Int) (K : R → Prop), biDQ .min [.int i, .int j] K = K (.im (.int (if j < i then j else i)))) ∧
  (∀ (i j : Int) (K : R → Prop), biDQ .max [.int i, .int j] K = K (.im (.int (if j > i then j else i)))) ∧
  (∀ (i : Int) (K : R → Prop), biDQ .abs [.int i] K = K (.im (.int (if i < 0 then -i else i)))) ∧
  (∀ (i j : Int) (K : R → Prop), binDQ .shl (.int i) (.int j) K = ((0 ≤ j ∧ j ≤ 1000000 ∧ i.natAbs < 2 ^ 64) ∧ K (.im (.int (i * 2 ^ j.toNat))))) ∧
  (∀ (i j : Int) (K : R → Prop), binDQ .shr (.int i) (.int j) K = (0 ≤ j ∧ K (.im (.int (i / 2 ^ j.toNat))))) ∧
  (∀ (i j : Int) (K : R → Prop), binDQ .band (.int i) (.int j) K = K (.im (.int (Builtin.bitAnd i j)))) ∧
  (∀ (i j : Int) (K : R → Prop), binDQ .bor (.int i) (.int j) K = K (.im (.int (Builtin.bitOr i j)))) ∧
  (∀ (i j : Int) (K : R → Prop), binDQ .bxor (.int i) (.int j) K = K (.im (.int (Builtin.bitXor i j)))) := ⟨by intros; rfl, by intros; rfl, by intros; rfl, by intros; rfl, by intros; rfl, by intros; rfl, by intros; rfl, by intros; rfl, by intros; exact z_is, by intros; exact z_isnot, by intros; rfl, by intros; rfl, by intros; rfl, by intros; rfl, by intros; rfl, by intros; rfl, by intros; rfl, by intros; rfl, by intros; rfl, by intros; rfl, by intros; rfl, by intros; rfl, by intros; rfl, by intros; rfl, by intros; rfl, by intros; rfl, by intros; rfl, by intros; rfl, by intros; rfl, by intros; rfl, by intros; rfl, by intros; rfl, by intros; rfl, by intros; rfl, by intros; rfl, by intros; rfl, by intros; rfl, by intros; rfl, by intros; rfl, by intros; rfl, by intros; rfl, by intros; rfl, by intros; rfl, by intros; rfl, by intros; rfl, by intros; rfl, by intros; rfl⟩
theorem VE0 : (∀ (Γ : Ctx) (Ed : Ex → En → Prop) (e : IE) (ρ : En) (K : R → En → Prop), wpE Γ Ed e ρ K = wpEQ Γ Ed e ρ K) ∧
  (∀ (Γ : Ctx) (Ed : Ex → En → Prop) (e : IEs) (ρ : En) (K : List R → En → Prop), wpEs Γ Ed e ρ K = wpEsQ Γ Ed e ρ K) ∧
  (∀ (Γ : Ctx) (Ed : Ex → En → Prop) (isAnd k : Bool) (e : IEs) (ρ : En) (K : R → En → Prop), wpC Γ Ed isAnd k e ρ K = wpCQ Γ Ed isAnd k e ρ K) ∧
  (∀ (Γ : Ctx) (Ed : Ex → En → Prop) (e : IO) (ρ : En) (K : Option Int → En → Prop), wpO Γ Ed e ρ K = wpOQ Γ Ed e ρ K) ∧
  (∀ (Γ : Ctx) (e : IO) (ρ : En) (K : Bool → En → Prop), wpO' Γ e ρ K = wpO1Q Γ e ρ K) ∧
  (∀ (Γ : Ctx) (Ed : Ex → En → Prop) (e : II) (ρ : En) (K : List D → En → Prop), wpI Γ Ed e ρ K = wpIQ Γ Ed e ρ K) ∧
  (∀ (Γ : Ctx) (Ed : Ex → En → Prop) (e : IS) (ρ : En) (K : Fin'), wpS Γ Ed e ρ K = wpSQ Γ Ed e ρ K) ∧
  (∀ (Γ : Ctx) (Ed : Ex → En → Prop) (e : ISs) (ρ : En) (K : Fin'), wpSs Γ Ed e ρ K = wpSsQ Γ Ed e ρ K) ∧
  (∀ (Γ : Ctx) (t : IT) (d : D) (ρ : En) (K : En → Prop), asgT Γ t d ρ K = asgTQ Γ t d ρ K) ∧
  (∀ (Γ : Ctx) (elt : IE) (tg : IT) (cond : IO) (d : D) (ρ : En) (K : Option D → En → Prop), stepF Γ elt tg cond d ρ K = stepFQ Γ elt tg cond d ρ K) ∧
  (∀ (Γ : Ctx) (Ed : Ex → En → Prop) (t : IT) (b : ISs) (d : D) (ρ : En) (K : Fin'), bodyF Γ Ed t b d ρ K = bodyFQ Γ Ed t b d ρ K) ∧
  (∀ (Γ : Ctx) (Ed : Ex → En → Prop) (c : IE) (ρ : En) (K : Bool → En → Prop), condF Γ Ed c ρ K = condFQ Γ Ed c ρ K) ∧
  (∀ (Γ : Ctx) (Ed : Ex → En → Prop) (b : ISs) (ρ : En) (K : Fin'), loopF Γ Ed b ρ K = loopFQ Γ Ed b ρ K) ∧
  (∀ (ρ : En) (r : R) (K : D → Prop), peek ρ r K = peekQ ρ r K) ∧
  (∀ (ρ : En) (r : R) (K : D → En → Prop), takeR ρ r K = takeRQ ρ r K) ∧
  (∀ (ρ : En) (r : R) (K : Sl → En → Prop), slotR ρ r K = slotRQ ρ r K) ∧
  (∀ (ρ : En) (r : R) (K : R → Prop), retR ρ r K = retRQ ρ r K) ∧
  (∀ (ρ : En) (rs : List R) (K : List D → Prop), peekAll ρ rs K = peekAllQ ρ rs K) ∧
  (∀ (ρ : En) (rs : List R) (K : List D → En → Prop), takeAll ρ rs K = takeAllQ ρ rs K) ∧
  (∀ (ρ : En) (rs : List R) (K : List Sl → En → Prop), slotAll ρ rs K = slotAllQ ρ rs K) ∧
  (∀ (ρ : En) (rs : List R) (K : List Ar → Prop), argsOf ρ rs K = argsOfQ ρ rs K) ∧
  (∀ (r : R) (K : Bool → Prop), asBool r K = asBoolQ r K) ∧
  (∀ (op : BOp) (a b : D) (K : R → Prop), binD op a b K = binDQ op a b K) ∧
  (∀ (op : COp) (a b : D) (K : Bool → Prop), cmpD op a b K = cmpDQ op a b K) ∧
  (∀ (a b : D) (K : D → Prop), subD a b K = subDQ a b K) ∧
  (∀ (a : D) (lo hi : Option Int) (K : R → Prop), slcD a lo hi K = slcDQ a lo hi K) ∧
  (∀ (a : D) (K : R → Prop), revD a K = revDQ a K) ∧
  (∀ (b : Bi) (ds : List D) (K : R → Prop), biD b ds K = biDQ b ds K) ∧
  (∀ (ds : List D) (K : List D → Prop), rngD ds K = rngDQ ds K) ∧
  (∀ (d : D) (K : List D → Prop), itemsD d K = itemsDQ d K) ∧
  (∀ (a b : D) (K : List D → Prop), zipD a b K = zipDQ a b K) ∧
  (∀ (own : List (Str × Nat)) (st : D → En → (Option D → En → Prop) → Prop) (ds acc : List D) (ρ : En) (K : List D → En → Prop), lcL own st ds acc ρ K = lcLQ own st ds acc ρ K) ∧
  (∀ (bd : D → En → Fin' → Prop) (ds : List D) (ρ : En) (K : Fin'), forL bd ds ρ K = forLQ bd ds ρ K) ∧
  (∀ (cd : En → (Bool → En → Prop) → Prop) (bw : En → Fin' → Prop) (n : Nat) (ρ : En) (K : Fin'), whileN cd bw n ρ K = whileNQ cd bw n ρ K) := ⟨by intros; rfl, by intros; rfl, by intros; rfl, by intros; rfl, by intros; rfl, by intros; rfl, by intros; rfl, by intros; rfl, by intros; rfl, by intros; rfl, by intros; rfl, by intros; rfl, by intros; rfl, by intros; rfl, by intros; rfl, by intros; rfl, by intros; rfl, by intros; rfl, by intros; rfl, by intros; rfl, by intros; rfl, by intros; rfl, by intros; rfl, by intros; rfl, by intros; rfl, by intros; rfl, by intros; rfl, by intros; rfl, by intros; rfl, by intros; rfl, by intros; rfl, by intros; rfl, by intros; rfl, by intros; rfl⟩
theorem args_and {c : Prop} : ∀ (ρ : En) (rs : List R) (X : List Ar → Prop), (c ∧ argsOf ρ rs X) = argsOf ρ rs fun as => c ∧ X as
  | ρ, [], X => rfl
  | ρ, .dk :: rs, X => args_and ρ rs _
  | ρ, .im d :: rs, X => args_and ρ rs _
  | ρ, .fr d :: rs, X => args_and ρ rs _
  | ρ, .br n :: rs, X => by
    show (c ∧ (match dataOf ρ (.br n) with | some d => argsOf ρ rs fun as => X (.d d :: as) | none => False)) = (match dataOf ρ (.br n) with | some d => argsOf ρ rs fun as => c ∧ X (.d d :: as) | none => False)
    cases dataOf ρ (.br n) with
    | none => exact propext ⟨fun h => h.2, fun h => h.elim⟩
    | some d => exact args_and ρ rs _
theorem V_call {Γ : Ctx} {Ed : Ex → En → Prop} {f : Str} {S : DSpec} (l : Γ.fns.lookup f = some S) (es : IEs) (ρ : En) (Q : R → En → Prop) : wpEQ Γ Ed (.call f es) ρ Q = wpEsQ Γ Ed es ρ fun rs ρ1 => argsOfQ ρ1 rs fun as => callK S rs as ρ1 Q Ed := by
  show (match Γ.fns.lookup f with
    | some S => wpEs Γ Ed es ρ fun rs ρ1 => rs.length = S.ps.length ∧ argsOf ρ1 rs fun as => S.wp as (fun r => if S.keep = true then flatR r = true ∧ Q r ρ1 else Q r (frzB ρ1 rs)) (fun x => Ed x (frzB ρ1 rs))
    | none => False) = _
  rw [l]
  exact congrArg (wpEs Γ Ed es ρ) (funext fun rs => funext fun ρ1 => args_and ρ1 rs _)
theorem V_callk {Γ : Ctx} {Ed : Ex → En → Prop} {f : Str} {S : DSpec} (l : Γ.fns.lookup f = some S) (ks : List Str) (es : IEs) (ρ : En) (Q : R → En → Prop) : wpEQ Γ Ed (.callk f ks es) ρ Q = wpEsQ Γ Ed es ρ fun rs ρ1 => argsOfQ ρ1 rs fun as => callkK S ks rs as ρ1 Q Ed := by
  show (match Γ.fns.lookup f with
    | some S => wpEs Γ Ed es ρ fun rs ρ1 => (rs.length = ks.length ∧ (pickK S.ps ks rs).length = S.ps.length) ∧ argsOf ρ1 rs fun as => S.wp (pickK S.ps ks as) (fun r => if S.keep = true then flatR r = true ∧ Q r ρ1 else Q r (frzB ρ1 rs)) (fun x => Ed x (frzB ρ1 rs))
    | none => False) = _
  rw [l]
  exact congrArg (wpEs Γ Ed es ρ) (funext fun rs => funext fun ρ1 => args_and ρ1 rs _)
theorem V_glob {Γ : Ctx} {Ed : Ex → En → Prop} {x : Str} {d : D} (l : Γ.gls.lookup x = some d) (ρ : En) (Q : R → En → Prop) : wpEQ Γ Ed (.glob x) ρ Q = Q (.im d) ρ := by
  show (match Γ.gls.lookup x with | some d => Q (.im d) ρ | none => False) = _
  rw [l]
end KR

end
section
set_option Elab.async false
set_option linter.all false
set_option maxRecDepth 100000
set_option maxHeartbeats 400000
namespace KR
open PySem PySem.Spec PyProof.Rows L2
abbrev N_deed_error : List Str := ["n", "value", "lot", "a", "b"]
def i_deed_error : ISs := (.cons (.ife (.conj false (.cons (.notE (.isinst "tuple" (.var 1))) (.cons (.cmp .ne (.bi .len (.cons (.var 1) .nil)) (.cst (.int 3))) .nil))) (.cons (.ret (.cst (.str "form"))) .nil) .nil) (.cons (.asg (.tup (.cons (.nm 2) (.cons (.nm 3) (.cons (.nm 4) .nil)))) (.var 1)) (.cons (.ife (.cmp .isnot (.call "lot_error" (.cons (.var 0) (.cons (.var 2) .nil))) (.cst .none)) (.cons (.ret (.cst (.str "lot"))) .nil) .nil) (.cons (.ife (.conj false (.cons (.notE (.call "is_place" (.cons (.var 0) (.cons (.var 3) .nil)))) (.cons (.notE (.call "is_place" (.cons (.var 0) (.cons (.var 4) .nil)))) (.cons (.cmp .ge (.var 3) (.var 4)) (.cons (.cmp .isin (.var 3) (.var 2)) (.cons (.cmp .isin (.var 4) (.var 2)) .nil)))))) (.cons (.ret (.cst (.str "places"))) .nil) .nil) (.cons (.ret (.cst .none)) .nil)))))
abbrev N_done : List Str := ["standing", "deed", "found", "lot", "a", "b", "place"]
def i_done : ISs := (.cons (.asg (.tup (.cons (.nm 3) (.cons (.nm 4) (.cons (.nm 5) .nil)))) (.var 1)) (.cons (.ife (.bi .any (.cons (.lc (.cmp .ne (.sub (.var 0) (.var 6)) (.cst (.int 0))) (.nm 6) (.seq (.var 3)) .non [("place", 6)]) .nil)) (.cons (.ret (.var 0)) .nil) .nil) (.cons (.asg (.nm 2) (.bi .list (.cons (.var 0) .nil))) (.cons (.asg (.tup (.cons (.sub 2 (.var 4)) (.cons (.sub 2 (.var 5)) .nil))) (.tup (.cons (.sub (.var 0) (.var 5)) (.cons (.sub (.var 0) (.var 4)) .nil)))) (.cons (.ret (.bi .tuple (.cons (.var 2) .nil))) .nil)))))
abbrev N__law_mixed : List Str := ["deck", "items", "left", "found"]
def i__law_mixed : ISs := (.cons (.par [2, 3] (.cons (.bi .list (.cons (.var 1) .nil)) (.cons (.lst .nil) .nil))) (.cons (.while_ (.cmp .ne (.var 2) (.lst .nil)) (.cons (.ex (.app 3 (.popAt 2 (.call "_law_draw" (.cons (.var 0) (.cons (.bi .len (.cons (.var 2) .nil)) .nil)))))) .nil)) (.cons (.ret (.var 3)) .nil)))
abbrev N__law_deed : List Str := ["deck", "many", "row", "size"]
def i__law_deed : ISs := (.cons (.asg (.nm 2) (.call "_law_mixed" (.cons (.var 0) (.cons (.rng false (.cons (.var 1) .nil)) .nil)))) (.cons (.asg (.nm 3) (.call "_law_pick" (.cons (.var 0) (.cons (.lst (.cons (.cst (.int 0)) (.cons (.cst (.int 1)) (.cons (.cst (.int 1)) (.cons (.cst (.int 2)) (.cons (.call "_law_draw" (.cons (.var 0) (.cons (.bin .sub (.var 1) (.cst (.int 1))) .nil))) .nil)))))) .nil)))) (.cons (.ret (.tup (.cons (.bi .tuple (.cons (.bi .sorted (.cons (.slc (.var 2) (.som (.cst (.int 2))) (.som (.bin .add (.cst (.int 2)) (.var 3)))) .nil)) .nil)) (.cons (.bi .min (.cons (.slc (.var 2) .non (.som (.cst (.int 2)))) .nil)) (.cons (.bi .max (.cons (.slc (.var 2) .non (.som (.cst (.int 2)))) .nil)) .nil))))) .nil)))
def ltD : D → D → Bool
  | .int i, .int j => decide (i < j)
  | _, _ => false
def inD (a : D) : D → Bool
  | .tuple ds => ds.any fun z => PyData.eqv z a
  | _ => false
def dErr (n : Int) : D → D
  | .tuple [lot, a, b] => if isNon (lotErr n lot) = true then (if (wh 0 (n - 1) a && (wh 0 (n - 1) b && (ltD a b && (!inD a lot && !inD b lot)))) = true then .none else .str "places") else .str "lot"
  | _ => .str "form"
def szV : D → Prop
  | .tuple ds => ∀ d ∈ ds, szD d
  | _ => True
theorem lot_good : ∀ {ds : List D} {n : Int} {p : Option Int} {k : Nat}, isNon (lotGo n p k ds) = true → ∀ d ∈ ds, isI d = true
  | [], _, _, _, _, d, hd => by cases hd
  | x :: xs, n, p, k, h, d, hd => by
    cases x <;> first | exact absurd h Bool.false_ne_true | skip
    case int i =>
      unfold lotGo at h
      split at h
      · rcases List.mem_cons.mp hd with z | z
        · rw [z]; rfl
        · exact lot_good h d z
      · exact absurd h Bool.false_ne_true
theorem lot_tup {n : Int} {v : D} (h : isNon (lotErr n v) = true) : ∃ ds, v = .tuple ds ∧ ∀ d ∈ ds, isI d = true := by
  cases v <;> first | exact absurd h Bool.false_ne_true | skip
  case tuple ds => exact ⟨ds, rfl, lot_good h⟩
def s_deed_error : DSpec := ⟨false, ["n", "value"], fun as Qd _ => ∃ n v, as = [.d (.int n), .d v] ∧ szV v ∧ Qd (.im (dErr n v))⟩
theorem w_deed_error {Γ : Ctx} (l1 : Γ.fns.lookup ("is_place" : Str) = some s_is_place) (l2 : Γ.fns.lookup ("lot_error" : Str) = some s_lot_error) : ∀ as Qd Ed, as.length = 2 → s_deed_error.wp as Qd Ed → wpSs Γ (fun x _ => Ed x) i_deed_error (entry N_deed_error as) (defFin Qd) := by
  rintro as Qd Ed hl ⟨n, v, rfl, hz, h⟩; clear hl
  unfold i_deed_error
  refine seq_then fun F1 r1 _ _ n1 => ?_
  have r1 : F1.rt = Qd := r1
  simp (maxSteps := 1000000) only [q_var, q_cst, q_glob, q_bin, q_neg, q_cmp, q_chain, q_conj, q_notE, q_ite, q_tup, q_lst, q_dic, q_sub, q_slc, q_rev, q_call, q_callk, q_bi, q_rng, q_isinst, q_app, q_pop, q_popAt, q_lc, q_ex, q_asg, q_par, q_ret, q_ife, q_for, q_while, q_pass, q_brk, q_cont, q_seq1, q_seq2, wpEs, wpC, wpI, wpO, wpO', asgR, asgT, asgTs, peekAll, takeAll, slotAll, setAll, defFin, entry, slotA, List.map_cons, List.map_nil, List.length_cons, List.length_nil, List.cons_append, List.nil_append, List.replicate_succ, List.replicate_zero, List.getElem?_cons_zero, List.getElem?_cons_succ, List.set_cons_zero, List.set_cons_succ, IEs.len, ITs.len, flatR, flatD, if_true, if_false, eq_self, true_and, and_true, Bool.false_eq_true, reduceCtorEq, z_bool, z_peek1, z_peek2, z_peek3, z_take1, z_take2, z_take3, z_slot1, z_slot2, z_slot3, z_slot4, z_ret1, z_ret2, z_ret3, z_arg1, z_arg2, z_arg3, z_arg4, z_arg0, z_frz0, z_frz1, z_frz2, z_frz3, z_frz4, z_lt, z_le, z_gt, z_ge, z_eqi, z_nei, z_eqs, z_nes, z_is, z_isnot, z_add, z_adds, z_addl, z_addt, z_sub, z_mul, z_mull, z_mult, z_fdiv, z_mod, z_pow, z_ixt, z_ixl, z_slct, z_slcl, z_revt, z_revl, z_lent, z_lenl, z_inti, z_intb, z_listl, z_listt, z_tupl, z_tupt, z_itl, z_itt, z_rg1, r1]
  cases v <;> try exact h
  case tuple ds =>
    simp only [isTy, q_var, q_cst, q_glob, q_bin, q_neg, q_cmp, q_chain, q_conj, q_notE, q_ite, q_tup, q_lst, q_dic, q_sub, q_slc, q_rev, q_call, q_callk, q_bi, q_rng, q_isinst, q_app, q_pop, q_popAt, q_lc, q_ex, q_asg, q_par, q_ret, q_ife, q_for, q_while, q_pass, q_brk, q_cont, q_seq1, q_seq2, wpEs, wpC, wpI, wpO, wpO', asgR, asgT, asgTs, peekAll, takeAll, slotAll, setAll, defFin, entry, slotA, List.map_cons, List.map_nil, List.length_cons, List.length_nil, List.cons_append, List.nil_append, List.replicate_succ, List.replicate_zero, List.getElem?_cons_zero, List.getElem?_cons_succ, List.set_cons_zero, List.set_cons_succ, IEs.len, ITs.len, flatR, flatD, if_true, if_false, eq_self, true_and, and_true, Bool.false_eq_true, reduceCtorEq, z_bool, z_peek1, z_peek2, z_peek3, z_take1, z_take2, z_take3, z_slot1, z_slot2, z_slot3, z_slot4, z_ret1, z_ret2, z_ret3, z_arg1, z_arg2, z_arg3, z_arg4, z_arg0, z_frz0, z_frz1, z_frz2, z_frz3, z_frz4, z_lt, z_le, z_gt, z_ge, z_eqi, z_nei, z_eqs, z_nes, z_is, z_isnot, z_add, z_adds, z_addl, z_addt, z_sub, z_mul, z_mull, z_mult, z_fdiv, z_mod, z_pow, z_ixt, z_ixl, z_slct, z_slcl, z_revt, z_revl, z_lent, z_lenl, z_inti, z_intb, z_listl, z_listt, z_tupl, z_tupt, z_itl, z_itt, z_rg1]
    have go : ∀ x y z, ds = [x, y, z] → F1.nx [.im (.int n), .im (.tuple ds), .no, .no, .no] := by
      rintro x y z rfl
      refine n1 _ ?_
      refine seq_then fun F2 r2 _ _ n2 => ?_
      simp (maxSteps := 1000000) only [q_var, q_cst, q_glob, q_bin, q_neg, q_cmp, q_chain, q_conj, q_notE, q_ite, q_tup, q_lst, q_dic, q_sub, q_slc, q_rev, q_call, q_callk, q_bi, q_rng, q_isinst, q_app, q_pop, q_popAt, q_lc, q_ex, q_asg, q_par, q_ret, q_ife, q_for, q_while, q_pass, q_brk, q_cont, q_seq1, q_seq2, wpEs, wpC, wpI, wpO, wpO', asgR, asgT, asgTs, peekAll, takeAll, slotAll, setAll, defFin, entry, slotA, List.map_cons, List.map_nil, List.length_cons, List.length_nil, List.cons_append, List.nil_append, List.replicate_succ, List.replicate_zero, List.getElem?_cons_zero, List.getElem?_cons_succ, List.set_cons_zero, List.set_cons_succ, IEs.len, ITs.len, flatR, flatD, if_true, if_false, eq_self, true_and, and_true, Bool.false_eq_true, reduceCtorEq, z_bool, z_peek1, z_peek2, z_peek3, z_take1, z_take2, z_take3, z_slot1, z_slot2, z_slot3, z_slot4, z_ret1, z_ret2, z_ret3, z_arg1, z_arg2, z_arg3, z_arg4, z_arg0, z_frz0, z_frz1, z_frz2, z_frz3, z_frz4, z_lt, z_le, z_gt, z_ge, z_eqi, z_nei, z_eqs, z_nes, z_is, z_isnot, z_add, z_adds, z_addl, z_addt, z_sub, z_mul, z_mull, z_mult, z_fdiv, z_mod, z_pow, z_ixt, z_ixl, z_slct, z_slcl, z_revt, z_revl, z_lent, z_lenl, z_inti, z_intb, z_listl, z_listt, z_tupl, z_tupt, z_itl, z_itt, z_rg1]
      refine n2 _ ?_
      refine seq_then fun F3 r3 _ _ n3 => ?_
      have r3 : F3.rt = Qd := r3
      simp (maxSteps := 1000000) only [q_var, q_cst, q_glob, q_bin, q_neg, q_cmp, q_chain, q_conj, q_notE, q_ite, q_tup, q_lst, q_dic, q_sub, q_slc, q_rev, q_call, q_callk, q_bi, q_rng, q_isinst, q_app, q_pop, q_popAt, q_lc, q_ex, q_asg, q_par, q_ret, q_ife, q_for, q_while, q_pass, q_brk, q_cont, q_seq1, q_seq2, wpEs, wpC, wpI, wpO, wpO', asgR, asgT, asgTs, peekAll, takeAll, slotAll, setAll, defFin, entry, slotA, List.map_cons, List.map_nil, List.length_cons, List.length_nil, List.cons_append, List.nil_append, List.replicate_succ, List.replicate_zero, List.getElem?_cons_zero, List.getElem?_cons_succ, List.set_cons_zero, List.set_cons_succ, IEs.len, ITs.len, flatR, flatD, if_true, if_false, eq_self, true_and, and_true, Bool.false_eq_true, reduceCtorEq, z_bool, z_peek1, z_peek2, z_peek3, z_take1, z_take2, z_take3, z_slot1, z_slot2, z_slot3, z_slot4, z_ret1, z_ret2, z_ret3, z_arg1, z_arg2, z_arg3, z_arg4, z_arg0, z_frz0, z_frz1, z_frz2, z_frz3, z_frz4, z_lt, z_le, z_gt, z_ge, z_eqi, z_nei, z_eqs, z_nes, z_is, z_isnot, z_add, z_adds, z_addl, z_addt, z_sub, z_mul, z_mull, z_mult, z_fdiv, z_mod, z_pow, z_ixt, z_ixl, z_slct, z_slcl, z_revt, z_revl, z_lent, z_lenl, z_inti, z_intb, z_listl, z_listt, z_tupl, z_tupt, z_itl, z_itt, z_rg1, l2, r3]
      refine ⟨rfl, n, x, rfl, hz x List.mem_cons_self, ?_⟩
      simp only [s_lot_error, q_var, q_cst, q_glob, q_bin, q_neg, q_cmp, q_chain, q_conj, q_notE, q_ite, q_tup, q_lst, q_dic, q_sub, q_slc, q_rev, q_call, q_callk, q_bi, q_rng, q_isinst, q_app, q_pop, q_popAt, q_lc, q_ex, q_asg, q_par, q_ret, q_ife, q_for, q_while, q_pass, q_brk, q_cont, q_seq1, q_seq2, wpEs, wpC, wpI, wpO, wpO', asgR, asgT, asgTs, peekAll, takeAll, slotAll, setAll, defFin, entry, slotA, List.map_cons, List.map_nil, List.length_cons, List.length_nil, List.cons_append, List.nil_append, List.replicate_succ, List.replicate_zero, List.getElem?_cons_zero, List.getElem?_cons_succ, List.set_cons_zero, List.set_cons_succ, IEs.len, ITs.len, flatR, flatD, if_true, if_false, eq_self, true_and, and_true, Bool.false_eq_true, reduceCtorEq, z_bool, z_peek1, z_peek2, z_peek3, z_take1, z_take2, z_take3, z_slot1, z_slot2, z_slot3, z_slot4, z_ret1, z_ret2, z_ret3, z_arg1, z_arg2, z_arg3, z_arg4, z_arg0, z_frz0, z_frz1, z_frz2, z_frz3, z_frz4, z_lt, z_le, z_gt, z_ge, z_eqi, z_nei, z_eqs, z_nes, z_is, z_isnot, z_add, z_adds, z_addl, z_addt, z_sub, z_mul, z_mull, z_mult, z_fdiv, z_mod, z_pow, z_ixt, z_ixl, z_slct, z_slcl, z_revt, z_revl, z_lent, z_lenl, z_inti, z_intb, z_listl, z_listt, z_tupl, z_tupt, z_itl, z_itt, z_rg1, r3]
      cases e : isNon (lotErr n x) with
      | false =>
        have h : Qd (.im (if isNon (lotErr n x) = true then _ else _)) := h
        rw [e] at h
        simpa using h
      | true =>
        simp only [Bool.not_true, Bool.false_eq_true, if_false]
        refine n3 _ ?_
        have h : Qd (.im (if isNon (lotErr n x) = true then (if (wh 0 (n - 1) y && (wh 0 (n - 1) z && (ltD y z && (!inD y x && !inD z x)))) = true then .none else .str "places") else .str "lot")) := h
        rw [e] at h
        simp only [if_true] at h
        obtain ⟨ls, rfl, li⟩ := lot_tup e
        refine seq_then fun F4 r4 _ _ n4 => ?_
        have r4 : F4.rt = Qd := r4
        simp (maxSteps := 1000000) only [q_var, q_cst, q_glob, q_bin, q_neg, q_cmp, q_chain, q_conj, q_notE, q_ite, q_tup, q_lst, q_dic, q_sub, q_slc, q_rev, q_call, q_callk, q_bi, q_rng, q_isinst, q_app, q_pop, q_popAt, q_lc, q_ex, q_asg, q_par, q_ret, q_ife, q_for, q_while, q_pass, q_brk, q_cont, q_seq1, q_seq2, wpEs, wpC, wpI, wpO, wpO', asgR, asgT, asgTs, peekAll, takeAll, slotAll, setAll, defFin, entry, slotA, List.map_cons, List.map_nil, List.length_cons, List.length_nil, List.cons_append, List.nil_append, List.replicate_succ, List.replicate_zero, List.getElem?_cons_zero, List.getElem?_cons_succ, List.set_cons_zero, List.set_cons_succ, IEs.len, ITs.len, flatR, flatD, if_true, if_false, eq_self, true_and, and_true, Bool.false_eq_true, reduceCtorEq, z_bool, z_peek1, z_peek2, z_peek3, z_take1, z_take2, z_take3, z_slot1, z_slot2, z_slot3, z_slot4, z_ret1, z_ret2, z_ret3, z_arg1, z_arg2, z_arg3, z_arg4, z_arg0, z_frz0, z_frz1, z_frz2, z_frz3, z_frz4, z_lt, z_le, z_gt, z_ge, z_eqi, z_nei, z_eqs, z_nes, z_is, z_isnot, z_add, z_adds, z_addl, z_addt, z_sub, z_mul, z_mull, z_mult, z_fdiv, z_mod, z_pow, z_ixt, z_ixl, z_slct, z_slcl, z_revt, z_revl, z_lent, z_lenl, z_inti, z_intb, z_listl, z_listt, z_tupl, z_tupt, z_itl, z_itt, z_rg1, l1, r4]
        refine ⟨rfl, n, y, rfl, ?_⟩
        simp only [s_is_place, q_var, q_cst, q_glob, q_bin, q_neg, q_cmp, q_chain, q_conj, q_notE, q_ite, q_tup, q_lst, q_dic, q_sub, q_slc, q_rev, q_call, q_callk, q_bi, q_rng, q_isinst, q_app, q_pop, q_popAt, q_lc, q_ex, q_asg, q_par, q_ret, q_ife, q_for, q_while, q_pass, q_brk, q_cont, q_seq1, q_seq2, wpEs, wpC, wpI, wpO, wpO', asgR, asgT, asgTs, peekAll, takeAll, slotAll, setAll, defFin, entry, slotA, List.map_cons, List.map_nil, List.length_cons, List.length_nil, List.cons_append, List.nil_append, List.replicate_succ, List.replicate_zero, List.getElem?_cons_zero, List.getElem?_cons_succ, List.set_cons_zero, List.set_cons_succ, IEs.len, ITs.len, flatR, flatD, if_true, if_false, eq_self, true_and, and_true, Bool.false_eq_true, reduceCtorEq, z_bool, z_peek1, z_peek2, z_peek3, z_take1, z_take2, z_take3, z_slot1, z_slot2, z_slot3, z_slot4, z_ret1, z_ret2, z_ret3, z_arg1, z_arg2, z_arg3, z_arg4, z_arg0, z_frz0, z_frz1, z_frz2, z_frz3, z_frz4, z_lt, z_le, z_gt, z_ge, z_eqi, z_nei, z_eqs, z_nes, z_is, z_isnot, z_add, z_adds, z_addl, z_addt, z_sub, z_mul, z_mull, z_mult, z_fdiv, z_mod, z_pow, z_ixt, z_ixl, z_slct, z_slcl, z_revt, z_revl, z_lent, z_lenl, z_inti, z_intb, z_listl, z_listt, z_tupl, z_tupt, z_itl, z_itt, z_rg1, l1, r4]
        have bad : (wh 0 (n - 1) y && (wh 0 (n - 1) z && (ltD y z && (!inD y (.tuple ls) && !inD z (.tuple ls))))) = false → Qd (.im (.str "places")) := fun q => by
          rw [q] at h; simpa using h
        cases ey : wh 0 (n - 1) y with
        | false => simpa [ey] using bad
        | true =>
          simp only [Bool.not_true, if_true]
          refine ⟨n, z, rfl, ?_⟩
          cases ez : wh 0 (n - 1) z with
          | false => simpa [ey, ez] using bad
          | true =>
            simp only [Bool.not_true, if_true]
            obtain ⟨i, rfl, i0, i1⟩ := wh_int ey
            obtain ⟨j, rfl, j0, j1⟩ := wh_int ez
            rw [ey, ez] at bad h
            simp only [Bool.true_and] at bad h
            simp only [ltD] at bad h
            rw [z_ge]
            by_cases hij : i < j
            · rw [decide_eq_false (show ¬ j ≤ i by omega)]
              simp only [if_true]
              simp only [hij, decide_true, Bool.true_and] at bad h
              refine ⟨⟨rfl, shape_ints li⟩, ?_⟩
              cases e1 : inD (.int i) (.tuple ls) with
              | true =>
                have e1 : (ls.any fun z => PyData.eqv z (.int i)) = true := e1
                rw [e1]
                simpa [show inD (.int i) (.tuple ls) = true from e1] using bad
              | false =>
                have e1 : (ls.any fun z => PyData.eqv z (.int i)) = false := e1
                rw [e1]
                simp only [if_true]
                refine ⟨⟨rfl, shape_ints li⟩, ?_⟩
                cases e2 : inD (.int j) (.tuple ls) with
                | true =>
                  have e2 : (ls.any fun z => PyData.eqv z (.int j)) = true := e2
                  rw [e2]
                  simpa [show inD (.int i) (.tuple ls) = false from e1, show inD (.int j) (.tuple ls) = true from e2] using bad
                | false =>
                  have e2 : (ls.any fun z => PyData.eqv z (.int j)) = false := e2
                  rw [e2]
                  simp only [Bool.false_eq_true, if_false]
                  refine n4 _ ?_
                  simp (maxSteps := 1000000) only [q_var, q_cst, q_glob, q_bin, q_neg, q_cmp, q_chain, q_conj, q_notE, q_ite, q_tup, q_lst, q_dic, q_sub, q_slc, q_rev, q_call, q_callk, q_bi, q_rng, q_isinst, q_app, q_pop, q_popAt, q_lc, q_ex, q_asg, q_par, q_ret, q_ife, q_for, q_while, q_pass, q_brk, q_cont, q_seq1, q_seq2, wpEs, wpC, wpI, wpO, wpO', asgR, asgT, asgTs, peekAll, takeAll, slotAll, setAll, defFin, entry, slotA, List.map_cons, List.map_nil, List.length_cons, List.length_nil, List.cons_append, List.nil_append, List.replicate_succ, List.replicate_zero, List.getElem?_cons_zero, List.getElem?_cons_succ, List.set_cons_zero, List.set_cons_succ, IEs.len, ITs.len, flatR, flatD, if_true, if_false, eq_self, true_and, and_true, Bool.false_eq_true, reduceCtorEq, z_bool, z_peek1, z_peek2, z_peek3, z_take1, z_take2, z_take3, z_slot1, z_slot2, z_slot3, z_slot4, z_ret1, z_ret2, z_ret3, z_arg1, z_arg2, z_arg3, z_arg4, z_arg0, z_frz0, z_frz1, z_frz2, z_frz3, z_frz4, z_lt, z_le, z_gt, z_ge, z_eqi, z_nei, z_eqs, z_nes, z_is, z_isnot, z_add, z_adds, z_addl, z_addt, z_sub, z_mul, z_mull, z_mult, z_fdiv, z_mod, z_pow, z_ixt, z_ixl, z_slct, z_slcl, z_revt, z_revl, z_lent, z_lenl, z_inti, z_intb, z_listl, z_listt, z_tupl, z_tupt, z_itl, z_itt, z_rg1]
                  simpa [show inD (.int i) (.tuple ls) = false from e1, show inD (.int j) (.tuple ls) = false from e2] using h
            · rw [decide_eq_true (show j ≤ i by omega)]
              simpa [hij] using bad
    by_cases hn : ds.length = 3
    · match ds, hn with
      | [x, y, z], _ => simpa using go x y z rfl
    · have h' : dErr n (.tuple ds) = .str "form" := by
        match ds, hn with
        | [], _ => rfl
        | [_], _ => rfl
        | [_, _], _ => rfl
        | _ :: _ :: _ :: _ :: _, _ => rfl
      rw [h'] at h
      have hn' : ¬ ((ds.length : Int) = 3) := fun z => hn (by omega)
      simpa [hn'] using h
def nAt (ns : List Int) (i : Int) : Int := ns.getD i.toNat 0
def swapI (ns : List Int) (a b : Int) : List Int := (ns.set a.toNat (nAt ns b)).set b.toNat (nAt ns a)
def doneF (ns ls : List Int) (a b : Int) : List Int := if (ls.any fun p => !decide (nAt ns p = 0)) = true then ns else swapI ns a b
theorem atI_ints {ns : List Int} {i : Int} (h0 : 0 ≤ i) (h1 : i < ns.length) : atI (intsD ns) i = some (.int (nAt ns i)) := by
  have hl : i.toNat < ns.length := by omega
  have := atI_nat (xs := intsD ns) (k := i.toNat) (d := .int (nAt ns i)) (by
    unfold intsD nAt
    rw [List.getElem?_map, List.getElem?_eq_getElem hl, List.getD_eq_getElem?_getD, List.getElem?_eq_getElem hl]; rfl)
  rwa [show ((i.toNat : Nat) : Int) = i by omega] at this
theorem intsD_len {ns : List Int} : (intsD ns).length = ns.length := List.length_map _
theorem boolsOf_map {α : Type} (f : α → Bool) : ∀ xs : List α, boolsOf (xs.map fun x => PyData.bool (f x)) = some (xs.map f)
  | [] => rfl
  | x :: xs => by show (boolsOf (xs.map fun x => PyData.bool (f x))).map _ = _; rw [boolsOf_map f xs]; rfl
theorem fm_ints (g : Int → Option D) : ∀ ls : List Int, (intsD ls).filterMap (fun d => match d with | .int i => g i | _ => none) = ls.filterMap g
  | [] => rfl
  | x :: xs => by
    have := fm_ints g xs
    unfold intsD at this ⊢
    rw [List.map_cons, List.filterMap_cons, List.filterMap_cons, this]
theorem z_any {xs : List D} {bs : List Bool} {Kr : R → Prop} (e : boolsOf xs = some bs) (h : Kr (.im (.bool (bs.any id)))) : biD .any [.list xs] Kr := by
  show (match boolsOf xs with | some bs => Kr (.im (.bool (bs.any id))) | none => False)
  rw [e]; exact h
theorem intsOf_ints : ∀ ns : List Int, intsOf (intsD ns) = some ns
  | [] => rfl
  | n :: ns => by show (intsOf (intsD ns)).map _ = _; rw [intsOf_ints ns]; rfl
theorem z_sortl {ns : List Int} {Kr : R → Prop} (h : ns.length < 64 ∧ ∀ ms : List Int, ms.Perm ns → ms.Pairwise (· ≤ ·) → Kr (.fr (.list (intsD ms)))) : biD .sorted [.list (intsD ns)] Kr := by
  show (match intsOf (intsD ns) with | some ns => ns.length < 64 ∧ ∀ ms : List Int, ms.Perm ns → ms.Pairwise (· ≤ ·) → Kr (.fr (.list (ms.map PyData.int))) | none => False)
  rw [intsOf_ints]; exact h
theorem z_sortt {ns : List Int} {Kr : R → Prop} (h : ns.length < 64 ∧ ∀ ms : List Int, ms.Perm ns → ms.Pairwise (· ≤ ·) → Kr (.fr (.list (intsD ms)))) : biD .sorted [.tuple (intsD ns)] Kr := by
  show (match intsOf (intsD ns) with | some ns => ns.length < 64 ∧ ∀ ms : List Int, ms.Perm ns → ms.Pairwise (· ≤ ·) → Kr (.fr (.list (ms.map PyData.int))) | none => False)
  rw [intsOf_ints]; exact h
theorem z_minl {ns : List Int} {Kr : R → Prop} (h : 0 < ns.length ∧ ∀ m, m ∈ ns → (∀ y, y ∈ ns → m ≤ y) → Kr (.im (.int m))) : biD .min [.list (intsD ns)] Kr := by
  show (match intsOf (intsD ns) with | some ns => 0 < ns.length ∧ ∀ m, m ∈ ns → (∀ y, y ∈ ns → m ≤ y) → Kr (.im (.int m)) | none => False)
  rw [intsOf_ints]; exact h
theorem z_maxl {ns : List Int} {Kr : R → Prop} (h : 0 < ns.length ∧ ∀ m, m ∈ ns → (∀ y, y ∈ ns → y ≤ m) → Kr (.im (.int m))) : biD .max [.list (intsD ns)] Kr := by
  show (match intsOf (intsD ns) with | some ns => 0 < ns.length ∧ ∀ m, m ∈ ns → (∀ y, y ∈ ns → y ≤ m) → Kr (.im (.int m)) | none => False)
  rw [intsOf_ints]; exact h
theorem ix_at {n : Nat} {i : Int} (h0 : 0 ≤ i) (h1 : i < n) : ixN n i = some i.toNat := by
  unfold ixN
  rw [if_pos h0, if_pos (by omega)]
theorem intsD_set {ns : List Int} {k : Nat} {x : Int} : (intsD ns).set k (.int x) = intsD (ns.set k x) := by
  unfold intsD; rw [List.map_set]
def s_done : DSpec := ⟨false, ["standing", "deed"], fun as Qd _ => ∃ ns ls a b, as = [.d (.tuple (intsD ns)), .d (.tuple [.tuple (intsD ls), .int a, .int b])] ∧ (∀ p ∈ ls, 0 ≤ p ∧ p < ns.length) ∧ ns.length ≤ 1000 ∧ ls.length ≤ 1000 ∧ 0 ≤ a ∧ a < ns.length ∧ 0 ≤ b ∧ b < ns.length ∧ Qd (.im (.tuple (intsD (doneF ns ls a b))))⟩
theorem w_done {Γ : Ctx} : ∀ as Qd Ed, as.length = 2 → s_done.wp as Qd Ed → wpSs Γ (fun x _ => Ed x) i_done (entry N_done as) (defFin Qd) := by
  rintro as Qd Ed hl ⟨ns, ls, a, b, rfl, hp, hn, hs, a0, a1, b0, b1, h⟩; clear hl
  have hz : sizeLine = 16777216 := sizeLine_eq
  unfold i_done
  refine seq_then fun F1 r1 _ _ n1 => ?_
  simp (maxSteps := 1000000) only [q_var, q_cst, q_glob, q_bin, q_neg, q_cmp, q_chain, q_conj, q_notE, q_ite, q_tup, q_lst, q_dic, q_sub, q_slc, q_rev, q_call, q_callk, q_bi, q_rng, q_isinst, q_app, q_pop, q_popAt, q_lc, q_ex, q_asg, q_par, q_ret, q_ife, q_for, q_while, q_pass, q_brk, q_cont, q_seq1, q_seq2, wpEs, wpC, wpI, wpO, wpO', asgR, asgT, asgTs, peekAll, takeAll, slotAll, setAll, defFin, entry, slotA, List.map_cons, List.map_nil, List.length_cons, List.length_nil, List.cons_append, List.nil_append, List.replicate_succ, List.replicate_zero, List.getElem?_cons_zero, List.getElem?_cons_succ, List.set_cons_zero, List.set_cons_succ, IEs.len, ITs.len, flatR, flatD, if_true, if_false, eq_self, true_and, and_true, Bool.false_eq_true, reduceCtorEq, z_bool, z_peek1, z_peek2, z_peek3, z_take1, z_take2, z_take3, z_slot1, z_slot2, z_slot3, z_slot4, z_ret1, z_ret2, z_ret3, z_arg1, z_arg2, z_arg3, z_arg4, z_arg0, z_frz0, z_frz1, z_frz2, z_frz3, z_frz4, z_lt, z_le, z_gt, z_ge, z_eqi, z_nei, z_eqs, z_nes, z_is, z_isnot, z_add, z_adds, z_addl, z_addt, z_sub, z_mul, z_mull, z_mult, z_fdiv, z_mod, z_pow, z_ixt, z_ixl, z_slct, z_slcl, z_revt, z_revl, z_lent, z_lenl, z_inti, z_intb, z_listl, z_listt, z_tupl, z_tupt, z_itl, z_itt, z_rg1]
  refine n1 _ ?_
  refine seq_then fun F2 r2 _ _ n2 => ?_
  have r2 : F2.rt = Qd := r2
  simp (maxSteps := 1000000) only [q_var, q_cst, q_glob, q_bin, q_neg, q_cmp, q_chain, q_conj, q_notE, q_ite, q_tup, q_lst, q_dic, q_sub, q_slc, q_rev, q_call, q_callk, q_bi, q_rng, q_isinst, q_app, q_pop, q_popAt, q_lc, q_ex, q_asg, q_par, q_ret, q_ife, q_for, q_while, q_pass, q_brk, q_cont, q_seq1, q_seq2, wpEs, wpC, wpI, wpO, wpO', asgR, asgT, asgTs, peekAll, takeAll, slotAll, setAll, defFin, entry, slotA, List.map_cons, List.map_nil, List.length_cons, List.length_nil, List.cons_append, List.nil_append, List.replicate_succ, List.replicate_zero, List.getElem?_cons_zero, List.getElem?_cons_succ, List.set_cons_zero, List.set_cons_succ, IEs.len, ITs.len, flatR, flatD, if_true, if_false, eq_self, true_and, and_true, Bool.false_eq_true, reduceCtorEq, z_bool, z_peek1, z_peek2, z_peek3, z_take1, z_take2, z_take3, z_slot1, z_slot2, z_slot3, z_slot4, z_ret1, z_ret2, z_ret3, z_arg1, z_arg2, z_arg3, z_arg4, z_arg0, z_frz0, z_frz1, z_frz2, z_frz3, z_frz4, z_lt, z_le, z_gt, z_ge, z_eqi, z_nei, z_eqs, z_nes, z_is, z_isnot, z_add, z_adds, z_addl, z_addt, z_sub, z_mul, z_mull, z_mult, z_fdiv, z_mod, z_pow, z_ixt, z_ixl, z_slct, z_slcl, z_revt, z_revl, z_lent, z_lenl, z_inti, z_intb, z_listl, z_listt, z_tupl, z_tupt, z_itl, z_itt, z_rg1, r2]
  refine ⟨by rw [intsD_len]; omega, by rw [intsD_len]; omega, ?_⟩
  generalize hst : stepF _ _ _ _ = st
  have w0 : wipeE [Sl.im (.tuple (intsD ns)), .im (.tuple [.tuple (intsD ls), .int a, .int b]), .no, .im (.tuple (intsD ls)), .im (.int a), .im (.int b), .no] [("place", 6)] = [Sl.im (.tuple (intsD ns)), .im (.tuple [.tuple (intsD ls), .int a, .int b]), .no, .im (.tuple (intsD ls)), .im (.int a), .im (.int b), .no] := rfl
  rw [w0]
  refine lc_fm (fun d => match d with | .int i => some (.bool (!decide (nAt ns i = 0))) | _ => none) _ [] (fun d hd Kk hk => ?_) ?_
  · obtain ⟨p, hp', rfl⟩ := List.mem_map.mp hd
    rw [← hst, stepF_at]
    simp (maxSteps := 1000000) only [q_var, q_cst, q_glob, q_bin, q_neg, q_cmp, q_chain, q_conj, q_notE, q_ite, q_tup, q_lst, q_dic, q_sub, q_slc, q_rev, q_call, q_callk, q_bi, q_rng, q_isinst, q_app, q_pop, q_popAt, q_lc, q_ex, q_asg, q_par, q_ret, q_ife, q_for, q_while, q_pass, q_brk, q_cont, q_seq1, q_seq2, wpEs, wpC, wpI, wpO, wpO', asgR, asgT, asgTs, peekAll, takeAll, slotAll, setAll, defFin, entry, slotA, List.map_cons, List.map_nil, List.length_cons, List.length_nil, List.cons_append, List.nil_append, List.replicate_succ, List.replicate_zero, List.getElem?_cons_zero, List.getElem?_cons_succ, List.set_cons_zero, List.set_cons_succ, IEs.len, ITs.len, flatR, flatD, if_true, if_false, eq_self, true_and, and_true, Bool.false_eq_true, reduceCtorEq, z_bool, z_peek1, z_peek2, z_peek3, z_take1, z_take2, z_take3, z_slot1, z_slot2, z_slot3, z_slot4, z_ret1, z_ret2, z_ret3, z_arg1, z_arg2, z_arg3, z_arg4, z_arg0, z_frz0, z_frz1, z_frz2, z_frz3, z_frz4, z_lt, z_le, z_gt, z_ge, z_eqi, z_nei, z_eqs, z_nes, z_is, z_isnot, z_add, z_adds, z_addl, z_addt, z_sub, z_mul, z_mull, z_mult, z_fdiv, z_mod, z_pow, z_ixt, z_ixl, z_slct, z_slcl, z_revt, z_revl, z_lent, z_lenl, z_inti, z_intb, z_listl, z_listt, z_tupl, z_tupt, z_itl, z_itt, z_rg1]
    rw [atI_ints (hp p hp').1 (hp p hp').2]
    simp (maxSteps := 1000000) only [q_var, q_cst, q_glob, q_bin, q_neg, q_cmp, q_chain, q_conj, q_notE, q_ite, q_tup, q_lst, q_dic, q_sub, q_slc, q_rev, q_call, q_callk, q_bi, q_rng, q_isinst, q_app, q_pop, q_popAt, q_lc, q_ex, q_asg, q_par, q_ret, q_ife, q_for, q_while, q_pass, q_brk, q_cont, q_seq1, q_seq2, wpEs, wpC, wpI, wpO, wpO', asgR, asgT, asgTs, peekAll, takeAll, slotAll, setAll, defFin, entry, slotA, List.map_cons, List.map_nil, List.length_cons, List.length_nil, List.cons_append, List.nil_append, List.replicate_succ, List.replicate_zero, List.getElem?_cons_zero, List.getElem?_cons_succ, List.set_cons_zero, List.set_cons_succ, IEs.len, ITs.len, flatR, flatD, if_true, if_false, eq_self, true_and, and_true, Bool.false_eq_true, reduceCtorEq, z_bool, z_peek1, z_peek2, z_peek3, z_take1, z_take2, z_take3, z_slot1, z_slot2, z_slot3, z_slot4, z_ret1, z_ret2, z_ret3, z_arg1, z_arg2, z_arg3, z_arg4, z_arg0, z_frz0, z_frz1, z_frz2, z_frz3, z_frz4, z_lt, z_le, z_gt, z_ge, z_eqi, z_nei, z_eqs, z_nes, z_is, z_isnot, z_add, z_adds, z_addl, z_addt, z_sub, z_mul, z_mull, z_mult, z_fdiv, z_mod, z_pow, z_ixt, z_ixl, z_slct, z_slcl, z_revt, z_revl, z_lent, z_lenl, z_inti, z_intb, z_listl, z_listt, z_tupl, z_tupt, z_itl, z_itt, z_rg1]
    exact hk _ rfl
  rw [fm_ints (fun i => some (.bool (!decide (nAt ns i = 0)))), List.nil_append, show (fun i => some (PyData.bool (!decide (nAt ns i = 0)))) = (fun i => some ((fun j => PyData.bool (!decide (nAt ns j = 0))) i)) from rfl, List.filterMap_eq_map']
  refine z_any (boolsOf_map _ _) ?_
  rw [List.any_map]
  have h : Qd (.im (.tuple (intsD (if (ls.any fun p => !decide (nAt ns p = 0)) = true then ns else swapI ns a b)))) := h
  simp only [backE, q_var, q_cst, q_glob, q_bin, q_neg, q_cmp, q_chain, q_conj, q_notE, q_ite, q_tup, q_lst, q_dic, q_sub, q_slc, q_rev, q_call, q_callk, q_bi, q_rng, q_isinst, q_app, q_pop, q_popAt, q_lc, q_ex, q_asg, q_par, q_ret, q_ife, q_for, q_while, q_pass, q_brk, q_cont, q_seq1, q_seq2, wpEs, wpC, wpI, wpO, wpO', asgR, asgT, asgTs, peekAll, takeAll, slotAll, setAll, defFin, entry, slotA, List.map_cons, List.map_nil, List.length_cons, List.length_nil, List.cons_append, List.nil_append, List.replicate_succ, List.replicate_zero, List.getElem?_cons_zero, List.getElem?_cons_succ, List.set_cons_zero, List.set_cons_succ, IEs.len, ITs.len, flatR, flatD, if_true, if_false, eq_self, true_and, and_true, Bool.false_eq_true, reduceCtorEq, z_bool, z_peek1, z_peek2, z_peek3, z_take1, z_take2, z_take3, z_slot1, z_slot2, z_slot3, z_slot4, z_ret1, z_ret2, z_ret3, z_arg1, z_arg2, z_arg3, z_arg4, z_arg0, z_frz0, z_frz1, z_frz2, z_frz3, z_frz4, z_lt, z_le, z_gt, z_ge, z_eqi, z_nei, z_eqs, z_nes, z_is, z_isnot, z_add, z_adds, z_addl, z_addt, z_sub, z_mul, z_mull, z_mult, z_fdiv, z_mod, z_pow, z_ixt, z_ixl, z_slct, z_slcl, z_revt, z_revl, z_lent, z_lenl, z_inti, z_intb, z_listl, z_listt, z_tupl, z_tupt, z_itl, z_itt, z_rg1]
  show if (ls.any fun p => !decide (nAt ns p = 0)) = true then _ else _
  cases e : ls.any fun p => !decide (nAt ns p = 0) with
  | true =>
    rw [e] at h
    exact h
  | false =>
    rw [e] at h
    simp only [Bool.false_eq_true, if_false] at h ⊢
    generalize backS _ = s6
    refine n2 _ ?_
    refine seq_then fun F3 r3 _ _ n3 => ?_
    simp (maxSteps := 1000000) only [q_var, q_cst, q_glob, q_bin, q_neg, q_cmp, q_chain, q_conj, q_notE, q_ite, q_tup, q_lst, q_dic, q_sub, q_slc, q_rev, q_call, q_callk, q_bi, q_rng, q_isinst, q_app, q_pop, q_popAt, q_lc, q_ex, q_asg, q_par, q_ret, q_ife, q_for, q_while, q_pass, q_brk, q_cont, q_seq1, q_seq2, wpEs, wpC, wpI, wpO, wpO', asgR, asgT, asgTs, peekAll, takeAll, slotAll, setAll, defFin, entry, slotA, List.map_cons, List.map_nil, List.length_cons, List.length_nil, List.cons_append, List.nil_append, List.replicate_succ, List.replicate_zero, List.getElem?_cons_zero, List.getElem?_cons_succ, List.set_cons_zero, List.set_cons_succ, IEs.len, ITs.len, flatR, flatD, if_true, if_false, eq_self, true_and, and_true, Bool.false_eq_true, reduceCtorEq, z_bool, z_peek1, z_peek2, z_peek3, z_take1, z_take2, z_take3, z_slot1, z_slot2, z_slot3, z_slot4, z_ret1, z_ret2, z_ret3, z_arg1, z_arg2, z_arg3, z_arg4, z_arg0, z_frz0, z_frz1, z_frz2, z_frz3, z_frz4, z_lt, z_le, z_gt, z_ge, z_eqi, z_nei, z_eqs, z_nes, z_is, z_isnot, z_add, z_adds, z_addl, z_addt, z_sub, z_mul, z_mull, z_mult, z_fdiv, z_mod, z_pow, z_ixt, z_ixl, z_slct, z_slcl, z_revt, z_revl, z_lent, z_lenl, z_inti, z_intb, z_listl, z_listt, z_tupl, z_tupt, z_itl, z_itt, z_rg1]
    refine n3 _ ?_
    refine seq_then fun F4 r4 _ _ n4 => ?_
    simp (maxSteps := 1000000) only [q_var, q_cst, q_glob, q_bin, q_neg, q_cmp, q_chain, q_conj, q_notE, q_ite, q_tup, q_lst, q_dic, q_sub, q_slc, q_rev, q_call, q_callk, q_bi, q_rng, q_isinst, q_app, q_pop, q_popAt, q_lc, q_ex, q_asg, q_par, q_ret, q_ife, q_for, q_while, q_pass, q_brk, q_cont, q_seq1, q_seq2, wpEs, wpC, wpI, wpO, wpO', asgR, asgT, asgTs, peekAll, takeAll, slotAll, setAll, defFin, entry, slotA, List.map_cons, List.map_nil, List.length_cons, List.length_nil, List.cons_append, List.nil_append, List.replicate_succ, List.replicate_zero, List.getElem?_cons_zero, List.getElem?_cons_succ, List.set_cons_zero, List.set_cons_succ, IEs.len, ITs.len, flatR, flatD, if_true, if_false, eq_self, true_and, and_true, Bool.false_eq_true, reduceCtorEq, z_bool, z_peek1, z_peek2, z_peek3, z_take1, z_take2, z_take3, z_slot1, z_slot2, z_slot3, z_slot4, z_ret1, z_ret2, z_ret3, z_arg1, z_arg2, z_arg3, z_arg4, z_arg0, z_frz0, z_frz1, z_frz2, z_frz3, z_frz4, z_lt, z_le, z_gt, z_ge, z_eqi, z_nei, z_eqs, z_nes, z_is, z_isnot, z_add, z_adds, z_addl, z_addt, z_sub, z_mul, z_mull, z_mult, z_fdiv, z_mod, z_pow, z_ixt, z_ixl, z_slct, z_slcl, z_revt, z_revl, z_lent, z_lenl, z_inti, z_intb, z_listl, z_listt, z_tupl, z_tupt, z_itl, z_itt, z_rg1]
    rw [atI_ints a0 a1, atI_ints b0 b1]
    simp (maxSteps := 1000000) only [q_var, q_cst, q_glob, q_bin, q_neg, q_cmp, q_chain, q_conj, q_notE, q_ite, q_tup, q_lst, q_dic, q_sub, q_slc, q_rev, q_call, q_callk, q_bi, q_rng, q_isinst, q_app, q_pop, q_popAt, q_lc, q_ex, q_asg, q_par, q_ret, q_ife, q_for, q_while, q_pass, q_brk, q_cont, q_seq1, q_seq2, wpEs, wpC, wpI, wpO, wpO', asgR, asgT, asgTs, peekAll, takeAll, slotAll, setAll, defFin, entry, slotA, List.map_cons, List.map_nil, List.length_cons, List.length_nil, List.cons_append, List.nil_append, List.replicate_succ, List.replicate_zero, List.getElem?_cons_zero, List.getElem?_cons_succ, List.set_cons_zero, List.set_cons_succ, IEs.len, ITs.len, flatR, flatD, if_true, if_false, eq_self, true_and, and_true, Bool.false_eq_true, reduceCtorEq, z_bool, z_peek1, z_peek2, z_peek3, z_take1, z_take2, z_take3, z_slot1, z_slot2, z_slot3, z_slot4, z_ret1, z_ret2, z_ret3, z_arg1, z_arg2, z_arg3, z_arg4, z_arg0, z_frz0, z_frz1, z_frz2, z_frz3, z_frz4, z_lt, z_le, z_gt, z_ge, z_eqi, z_nei, z_eqs, z_nes, z_is, z_isnot, z_add, z_adds, z_addl, z_addt, z_sub, z_mul, z_mull, z_mult, z_fdiv, z_mod, z_pow, z_ixt, z_ixl, z_slct, z_slcl, z_revt, z_revl, z_lent, z_lenl, z_inti, z_intb, z_listl, z_listt, z_tupl, z_tupt, z_itl, z_itt, z_rg1]
    rw [ix_at a0 (by rw [intsD_len]; exact a1)]
    refine ⟨by decide, ⟨_, rfl⟩, ?_⟩
    dsimp only
    rw [intsD_set, ix_at b0 (by rw [intsD_len, List.length_set]; exact b1)]
    refine ⟨⟨_, rfl⟩, ?_⟩
    dsimp only
    rw [intsD_set]
    refine n4 _ ?_
    simp (maxSteps := 1000000) only [q_var, q_cst, q_glob, q_bin, q_neg, q_cmp, q_chain, q_conj, q_notE, q_ite, q_tup, q_lst, q_dic, q_sub, q_slc, q_rev, q_call, q_callk, q_bi, q_rng, q_isinst, q_app, q_pop, q_popAt, q_lc, q_ex, q_asg, q_par, q_ret, q_ife, q_for, q_while, q_pass, q_brk, q_cont, q_seq1, q_seq2, wpEs, wpC, wpI, wpO, wpO', asgR, asgT, asgTs, peekAll, takeAll, slotAll, setAll, defFin, entry, slotA, List.map_cons, List.map_nil, List.length_cons, List.length_nil, List.cons_append, List.nil_append, List.replicate_succ, List.replicate_zero, List.getElem?_cons_zero, List.getElem?_cons_succ, List.set_cons_zero, List.set_cons_succ, IEs.len, ITs.len, flatR, flatD, if_true, if_false, eq_self, true_and, and_true, Bool.false_eq_true, reduceCtorEq, z_bool, z_peek1, z_peek2, z_peek3, z_take1, z_take2, z_take3, z_slot1, z_slot2, z_slot3, z_slot4, z_ret1, z_ret2, z_ret3, z_arg1, z_arg2, z_arg3, z_arg4, z_arg0, z_frz0, z_frz1, z_frz2, z_frz3, z_frz4, z_lt, z_le, z_gt, z_ge, z_eqi, z_nei, z_eqs, z_nes, z_is, z_isnot, z_add, z_adds, z_addl, z_addt, z_sub, z_mul, z_mull, z_mult, z_fdiv, z_mod, z_pow, z_ixt, z_ixl, z_slct, z_slcl, z_revt, z_revl, z_lent, z_lenl, z_inti, z_intb, z_listl, z_listt, z_tupl, z_tupt, z_itl, z_itt, z_rg1]
    exact h
theorem er_perm {α : Type} : ∀ (xs : List α) (k : Nat) (h : k < xs.length), (xs[k] :: xs.eraseIdx k).Perm xs
  | x :: xs, 0, _ => List.Perm.refl _
  | x :: xs, k + 1, h => by
    have ih := er_perm xs k (Nat.lt_of_succ_lt_succ h)
    exact (List.Perm.swap x (xs[k]'(Nat.lt_of_succ_lt_succ h)) (xs.eraseIdx k)).trans (List.Perm.cons x ih)
def s_mixed : DSpec := ⟨false, ["deck", "items"], fun as Qd _ => ∃ ds, as = [.dk, .d (.list ds)] ∧ ds.length ≤ 1000 ∧ ∀ es, es.Perm ds → Qd (.fr (.list es))⟩
theorem w_mixed {Γ : Ctx} (l1 : Γ.fns.lookup ("_law_draw" : Str) = some drawS) : ∀ as Qd Ed, as.length = 2 → s_mixed.wp as Qd Ed → wpSs Γ (fun x _ => Ed x) i__law_mixed (entry N__law_mixed as) (defFin Qd) := by
  rintro as Qd Ed hl ⟨ds, rfl, hn, h⟩; clear hl
  have hz : sizeLine = 16777216 := sizeLine_eq
  unfold i__law_mixed
  refine seq_then fun F1 r1 _ _ n1 => ?_
  simp (maxSteps := 1000000) only [q_var, q_cst, q_glob, q_bin, q_neg, q_cmp, q_chain, q_conj, q_notE, q_ite, q_tup, q_lst, q_dic, q_sub, q_slc, q_rev, q_call, q_callk, q_bi, q_rng, q_isinst, q_app, q_pop, q_popAt, q_lc, q_ex, q_asg, q_par, q_ret, q_ife, q_for, q_while, q_pass, q_brk, q_cont, q_seq1, q_seq2, wpEs, wpC, wpI, wpO, wpO', asgR, asgT, asgTs, peekAll, takeAll, slotAll, setAll, defFin, entry, slotA, List.map_cons, List.map_nil, List.length_cons, List.length_nil, List.cons_append, List.nil_append, List.replicate_succ, List.replicate_zero, List.getElem?_cons_zero, List.getElem?_cons_succ, List.set_cons_zero, List.set_cons_succ, IEs.len, ITs.len, flatR, flatD, if_true, if_false, eq_self, true_and, and_true, Bool.false_eq_true, reduceCtorEq, z_bool, z_peek1, z_peek2, z_peek3, z_take1, z_take2, z_take3, z_slot1, z_slot2, z_slot3, z_slot4, z_ret1, z_ret2, z_ret3, z_arg1, z_arg2, z_arg3, z_arg4, z_arg0, z_frz0, z_frz1, z_frz2, z_frz3, z_frz4, z_lt, z_le, z_gt, z_ge, z_eqi, z_nei, z_eqs, z_nes, z_is, z_isnot, z_add, z_adds, z_addl, z_addt, z_sub, z_mul, z_mull, z_mult, z_fdiv, z_mod, z_pow, z_ixt, z_ixl, z_slct, z_slcl, z_revt, z_revl, z_lent, z_lenl, z_inti, z_intb, z_listl, z_listt, z_tupl, z_tupt, z_itl, z_itt, z_rg1]
  refine ⟨by decide, n1 _ ?_⟩
  refine seq_then fun F2 r2 _ _ n2 => ?_
  simp (maxSteps := 1000000) only [q_var, q_cst, q_glob, q_bin, q_neg, q_cmp, q_chain, q_conj, q_notE, q_ite, q_tup, q_lst, q_dic, q_sub, q_slc, q_rev, q_call, q_callk, q_bi, q_rng, q_isinst, q_app, q_pop, q_popAt, q_lc, q_ex, q_asg, q_par, q_ret, q_ife, q_for, q_while, q_pass, q_brk, q_cont, q_seq1, q_seq2, wpEs, wpC, wpI, wpO, wpO', asgR, asgT, asgTs, peekAll, takeAll, slotAll, setAll, defFin, entry, slotA, List.map_cons, List.map_nil, List.length_cons, List.length_nil, List.cons_append, List.nil_append, List.replicate_succ, List.replicate_zero, List.getElem?_cons_zero, List.getElem?_cons_succ, List.set_cons_zero, List.set_cons_succ, IEs.len, ITs.len, flatR, flatD, if_true, if_false, eq_self, true_and, and_true, Bool.false_eq_true, reduceCtorEq, z_bool, z_peek1, z_peek2, z_peek3, z_take1, z_take2, z_take3, z_slot1, z_slot2, z_slot3, z_slot4, z_ret1, z_ret2, z_ret3, z_arg1, z_arg2, z_arg3, z_arg4, z_arg0, z_frz0, z_frz1, z_frz2, z_frz3, z_frz4, z_lt, z_le, z_gt, z_ge, z_eqi, z_nei, z_eqs, z_nes, z_is, z_isnot, z_add, z_adds, z_addl, z_addt, z_sub, z_mul, z_mull, z_mult, z_fdiv, z_mod, z_pow, z_ixt, z_ixl, z_slct, z_slcl, z_revt, z_revl, z_lent, z_lenl, z_inti, z_intb, z_listl, z_listt, z_tupl, z_tupt, z_itl, z_itt, z_rg1]
  generalize hc : condF _ _ _ = cd
  generalize hw : loopF _ _ _ = bw
  refine ⟨ds.length + 1, ?_⟩
  have exit : ∀ fd : List D, fd.Perm ds → F2.nx [.dk, .im (.list ds), .ow (.list []), .ow (.list fd)] := fun fd hp => by
    refine n2 _ ?_
    simp (maxSteps := 1000000) only [q_var, q_cst, q_glob, q_bin, q_neg, q_cmp, q_chain, q_conj, q_notE, q_ite, q_tup, q_lst, q_dic, q_sub, q_slc, q_rev, q_call, q_callk, q_bi, q_rng, q_isinst, q_app, q_pop, q_popAt, q_lc, q_ex, q_asg, q_par, q_ret, q_ife, q_for, q_while, q_pass, q_brk, q_cont, q_seq1, q_seq2, wpEs, wpC, wpI, wpO, wpO', asgR, asgT, asgTs, peekAll, takeAll, slotAll, setAll, defFin, entry, slotA, List.map_cons, List.map_nil, List.length_cons, List.length_nil, List.cons_append, List.nil_append, List.replicate_succ, List.replicate_zero, List.getElem?_cons_zero, List.getElem?_cons_succ, List.set_cons_zero, List.set_cons_succ, IEs.len, ITs.len, flatR, flatD, if_true, if_false, eq_self, true_and, and_true, Bool.false_eq_true, reduceCtorEq, z_bool, z_peek1, z_peek2, z_peek3, z_take1, z_take2, z_take3, z_slot1, z_slot2, z_slot3, z_slot4, z_ret1, z_ret2, z_ret3, z_arg1, z_arg2, z_arg3, z_arg4, z_arg0, z_frz0, z_frz1, z_frz2, z_frz3, z_frz4, z_lt, z_le, z_gt, z_ge, z_eqi, z_nei, z_eqs, z_nes, z_is, z_isnot, z_add, z_adds, z_addl, z_addt, z_sub, z_mul, z_mull, z_mult, z_fdiv, z_mod, z_pow, z_ixt, z_ixl, z_slct, z_slcl, z_revt, z_revl, z_lent, z_lenl, z_inti, z_intb, z_listl, z_listt, z_tupl, z_tupt, z_itl, z_itt, z_rg1]
    exact h fd hp
  have W : ∀ (fuel : Nat) (lf fd : List D), lf.length ≤ fuel → (fd ++ lf).Perm ds → whileN cd bw (fuel + 1) [.dk, .im (.list ds), .ow (.list lf), .ow (.list fd)] F2 := by
    intro fuel
    induction fuel with
    | zero =>
      intro lf fd hl hp
      have e := List.eq_nil_of_length_eq_zero (Nat.le_zero.mp hl)
      subst e
      rw [z_while1, ← hc, condF_at, hc]
      simp (maxSteps := 1000000) only [q_var, q_cst, q_glob, q_bin, q_neg, q_cmp, q_chain, q_conj, q_notE, q_ite, q_tup, q_lst, q_dic, q_sub, q_slc, q_rev, q_call, q_callk, q_bi, q_rng, q_isinst, q_app, q_pop, q_popAt, q_lc, q_ex, q_asg, q_par, q_ret, q_ife, q_for, q_while, q_pass, q_brk, q_cont, q_seq1, q_seq2, wpEs, wpC, wpI, wpO, wpO', asgR, asgT, asgTs, peekAll, takeAll, slotAll, setAll, defFin, entry, slotA, List.map_cons, List.map_nil, List.length_cons, List.length_nil, List.cons_append, List.nil_append, List.replicate_succ, List.replicate_zero, List.getElem?_cons_zero, List.getElem?_cons_succ, List.set_cons_zero, List.set_cons_succ, IEs.len, ITs.len, flatR, flatD, if_true, if_false, eq_self, true_and, and_true, Bool.false_eq_true, reduceCtorEq, z_bool, z_peek1, z_peek2, z_peek3, z_take1, z_take2, z_take3, z_slot1, z_slot2, z_slot3, z_slot4, z_ret1, z_ret2, z_ret3, z_arg1, z_arg2, z_arg3, z_arg4, z_arg0, z_frz0, z_frz1, z_frz2, z_frz3, z_frz4, z_lt, z_le, z_gt, z_ge, z_eqi, z_nei, z_eqs, z_nes, z_is, z_isnot, z_add, z_adds, z_addl, z_addt, z_sub, z_mul, z_mull, z_mult, z_fdiv, z_mod, z_pow, z_ixt, z_ixl, z_slct, z_slcl, z_revt, z_revl, z_lent, z_lenl, z_inti, z_intb, z_listl, z_listt, z_tupl, z_tupt, z_itl, z_itt, z_rg1]
      refine ⟨by decide, z_ne0 ?_⟩
      rw [if_neg (by decide)]
      exact exit fd (by rwa [List.append_nil] at hp)
    | succ fuel ih =>
      intro lf fd hl hp
      have tot : fd.length + lf.length = ds.length := by have := hp.length_eq; rwa [List.length_append] at this
      rw [z_while1, ← hc, condF_at, hc]
      simp (maxSteps := 1000000) only [q_var, q_cst, q_glob, q_bin, q_neg, q_cmp, q_chain, q_conj, q_notE, q_ite, q_tup, q_lst, q_dic, q_sub, q_slc, q_rev, q_call, q_callk, q_bi, q_rng, q_isinst, q_app, q_pop, q_popAt, q_lc, q_ex, q_asg, q_par, q_ret, q_ife, q_for, q_while, q_pass, q_brk, q_cont, q_seq1, q_seq2, wpEs, wpC, wpI, wpO, wpO', asgR, asgT, asgTs, peekAll, takeAll, slotAll, setAll, defFin, entry, slotA, List.map_cons, List.map_nil, List.length_cons, List.length_nil, List.cons_append, List.nil_append, List.replicate_succ, List.replicate_zero, List.getElem?_cons_zero, List.getElem?_cons_succ, List.set_cons_zero, List.set_cons_succ, IEs.len, ITs.len, flatR, flatD, if_true, if_false, eq_self, true_and, and_true, Bool.false_eq_true, reduceCtorEq, z_bool, z_peek1, z_peek2, z_peek3, z_take1, z_take2, z_take3, z_slot1, z_slot2, z_slot3, z_slot4, z_ret1, z_ret2, z_ret3, z_arg1, z_arg2, z_arg3, z_arg4, z_arg0, z_frz0, z_frz1, z_frz2, z_frz3, z_frz4, z_lt, z_le, z_gt, z_ge, z_eqi, z_nei, z_eqs, z_nes, z_is, z_isnot, z_add, z_adds, z_addl, z_addt, z_sub, z_mul, z_mull, z_mult, z_fdiv, z_mod, z_pow, z_ixt, z_ixl, z_slct, z_slcl, z_revt, z_revl, z_lent, z_lenl, z_inti, z_intb, z_listl, z_listt, z_tupl, z_tupt, z_itl, z_itt, z_rg1]
      refine ⟨by decide, z_ne0 ?_⟩
      by_cases he : lf = []
      · subst he
        rw [if_neg (by decide)]
        exact exit fd (by rwa [List.append_nil] at hp)
      · have he' : (!lf.isEmpty) = true := by cases lf with
          | nil => exact absurd rfl he
          | cons x xs => rfl
        rw [if_pos he', ← hw, loopF_at, hw]
        have hpos : 0 < lf.length := List.length_pos_iff.mpr he
        simp (maxSteps := 1000000) only [q_var, q_cst, q_glob, q_bin, q_neg, q_cmp, q_chain, q_conj, q_notE, q_ite, q_tup, q_lst, q_dic, q_sub, q_slc, q_rev, q_call, q_callk, q_bi, q_rng, q_isinst, q_app, q_pop, q_popAt, q_lc, q_ex, q_asg, q_par, q_ret, q_ife, q_for, q_while, q_pass, q_brk, q_cont, q_seq1, q_seq2, wpEs, wpC, wpI, wpO, wpO', asgR, asgT, asgTs, peekAll, takeAll, slotAll, setAll, defFin, entry, slotA, List.map_cons, List.map_nil, List.length_cons, List.length_nil, List.cons_append, List.nil_append, List.replicate_succ, List.replicate_zero, List.getElem?_cons_zero, List.getElem?_cons_succ, List.set_cons_zero, List.set_cons_succ, IEs.len, ITs.len, flatR, flatD, if_true, if_false, eq_self, true_and, and_true, Bool.false_eq_true, reduceCtorEq, z_bool, z_peek1, z_peek2, z_peek3, z_take1, z_take2, z_take3, z_slot1, z_slot2, z_slot3, z_slot4, z_ret1, z_ret2, z_ret3, z_arg1, z_arg2, z_arg3, z_arg4, z_arg0, z_frz0, z_frz1, z_frz2, z_frz3, z_frz4, z_lt, z_le, z_gt, z_ge, z_eqi, z_nei, z_eqs, z_nes, z_is, z_isnot, z_add, z_adds, z_addl, z_addt, z_sub, z_mul, z_mull, z_mult, z_fdiv, z_mod, z_pow, z_ixt, z_ixl, z_slct, z_slcl, z_revt, z_revl, z_lent, z_lenl, z_inti, z_intb, z_listl, z_listt, z_tupl, z_tupt, z_itl, z_itt, z_rg1, l1]
        refine ⟨⟨_, rfl⟩, ⟨_, rfl⟩, rfl, _, rfl, by omega, fun r h0 hr => ?_⟩
        simp only [drawS, q_var, q_cst, q_glob, q_bin, q_neg, q_cmp, q_chain, q_conj, q_notE, q_ite, q_tup, q_lst, q_dic, q_sub, q_slc, q_rev, q_call, q_callk, q_bi, q_rng, q_isinst, q_app, q_pop, q_popAt, q_lc, q_ex, q_asg, q_par, q_ret, q_ife, q_for, q_while, q_pass, q_brk, q_cont, q_seq1, q_seq2, wpEs, wpC, wpI, wpO, wpO', asgR, asgT, asgTs, peekAll, takeAll, slotAll, setAll, defFin, entry, slotA, List.map_cons, List.map_nil, List.length_cons, List.length_nil, List.cons_append, List.nil_append, List.replicate_succ, List.replicate_zero, List.getElem?_cons_zero, List.getElem?_cons_succ, List.set_cons_zero, List.set_cons_succ, IEs.len, ITs.len, flatR, flatD, if_true, if_false, eq_self, true_and, and_true, Bool.false_eq_true, reduceCtorEq, z_bool, z_peek1, z_peek2, z_peek3, z_take1, z_take2, z_take3, z_slot1, z_slot2, z_slot3, z_slot4, z_ret1, z_ret2, z_ret3, z_arg1, z_arg2, z_arg3, z_arg4, z_arg0, z_frz0, z_frz1, z_frz2, z_frz3, z_frz4, z_lt, z_le, z_gt, z_ge, z_eqi, z_nei, z_eqs, z_nes, z_is, z_isnot, z_add, z_adds, z_addl, z_addt, z_sub, z_mul, z_mull, z_mult, z_fdiv, z_mod, z_pow, z_ixt, z_ixl, z_slct, z_slcl, z_revt, z_revl, z_lent, z_lenl, z_inti, z_intb, z_listl, z_listt, z_tupl, z_tupt, z_itl, z_itt, z_rg1]
        have hr' : r.toNat < lf.length := by omega
        have ei : seqIndex? r lf.length = some r.toNat := by
          unfold seqIndex?
          simp only [show ¬ r < 0 by omega, if_false]
          rw [if_pos (by simp only [Bool.and_eq_true, decide_eq_true_eq]; omega)]
        rw [ei]
        dsimp only
        rw [List.getElem?_eq_getElem hr']
        dsimp only
        refine ⟨⟨by omega, by omega⟩, by omega, ?_⟩
        refine ih (lf.eraseIdx r.toNat) (fd ++ [lf[r.toNat]]) (by rw [List.length_eraseIdx_of_lt hr']; omega) ?_
        refine List.Perm.trans ?_ hp
        rw [List.append_assoc]
        exact List.Perm.append_left fd (er_perm lf r.toNat hr')
  exact W ds.length ds [] (Nat.le_refl _) (List.Perm.refl _)
theorem perm_ints {es : List D} {ns : List Int} (h : es.Perm (intsD ns)) : ∃ ms, es = intsD ms ∧ ms.Perm ns := by
  have all : ∀ d ∈ es, isI d = true := fun d hd => intsD_isI d (h.mem_iff.mp hd)
  have back : ∀ xs : List Int, (intsD xs).map (fun d => match d with | .int i => i | _ => 0) = xs := fun xs => by
    unfold intsD; rw [List.map_map]; exact List.map_id xs
  refine ⟨es.map (fun d => match d with | .int i => i | _ => 0), ?_, ?_⟩
  · clear h
    induction es with
    | nil => rfl
    | cons d es ih =>
      obtain ⟨i, rfl⟩ := isI_int (all d List.mem_cons_self)
      have := ih fun x hx => all x (List.mem_cons_of_mem _ hx)
      unfold intsD at this ⊢
      rw [List.map_cons, List.map_cons, ← this]
  · have := h.map (fun d => match d with | PyData.int i => i | _ => 0)
    rw [back] at this
    exact this
def upto (m : Int) : List Int := (List.range m.toNat).map fun (i : Nat) => (i : Int)
theorem rngL_upto {m : Int} : rngL 0 m = intsD (upto m) := by
  unfold rngL intsD upto
  rw [List.map_map, Int.sub_zero]
  refine List.map_congr_left fun i _ => ?_
  simp
theorem upto_nodup {m : Int} : (upto m).Nodup := by
  unfold upto
  refine List.Pairwise.map _ (fun a b h => ?_) List.nodup_range
  omega
theorem upto_mem {m x : Int} : x ∈ upto m ↔ 0 ≤ x ∧ x < m := by
  unfold upto
  rw [List.mem_map]
  constructor
  · rintro ⟨i, hi, rfl⟩
    have := List.mem_range.mp hi
    omega
  · rintro ⟨h0, h1⟩
    exact ⟨x.toNat, List.mem_range.mpr (by omega), by omega⟩
structure Deed (m : Int) (ls : List Int) (a b : Int) : Prop where
  up : ls.Pairwise (· < ·)
  own : ∀ x ∈ ls, 0 ≤ x ∧ x < m ∧ x ≠ a ∧ x ≠ b
  a0 : 0 ≤ a
  ab : a < b
  bm : b < m
  len : (ls.length : Int) ≤ m
def deedD (ls : List Int) (a b : Int) : D := .tuple [.tuple (intsD ls), .int a, .int b]
def s_deed : DSpec := ⟨false, ["deck", "many"], fun as Qd _ => ∃ m : Int, as = [.dk, .d (.int m)] ∧ 3 ≤ m ∧ m ≤ 30 ∧ ∀ ls a b, Deed m ls a b → Qd (.im (deedD ls a b))⟩
theorem w_deed {Γ : Ctx} (l1 : Γ.fns.lookup ("_law_draw" : Str) = some drawS) (l2 : Γ.fns.lookup ("_law_pick" : Str) = some s_pick) (l3 : Γ.fns.lookup ("_law_mixed" : Str) = some s_mixed) : ∀ as Qd Ed, as.length = 2 → s_deed.wp as Qd Ed → wpSs Γ (fun x _ => Ed x) i__law_deed (entry N__law_deed as) (defFin Qd) := by
  rintro as Qd Ed hl ⟨m, rfl, m3, m30, h⟩; clear hl
  have hz : sizeLine = 16777216 := sizeLine_eq
  unfold i__law_deed
  refine seq_then fun F1 r1 _ _ n1 => ?_
  simp (maxSteps := 1000000) only [q_var, q_cst, q_glob, q_bin, q_neg, q_cmp, q_chain, q_conj, q_notE, q_ite, q_tup, q_lst, q_dic, q_sub, q_slc, q_rev, q_call, q_callk, q_bi, q_rng, q_isinst, q_app, q_pop, q_popAt, q_lc, q_ex, q_asg, q_par, q_ret, q_ife, q_for, q_while, q_pass, q_brk, q_cont, q_seq1, q_seq2, wpEs, wpC, wpI, wpO, wpO', asgR, asgT, asgTs, peekAll, takeAll, slotAll, setAll, defFin, entry, slotA, List.map_cons, List.map_nil, List.length_cons, List.length_nil, List.cons_append, List.nil_append, List.replicate_succ, List.replicate_zero, List.getElem?_cons_zero, List.getElem?_cons_succ, List.set_cons_zero, List.set_cons_succ, IEs.len, ITs.len, flatR, flatD, if_true, if_false, eq_self, true_and, and_true, Bool.false_eq_true, reduceCtorEq, z_bool, z_peek1, z_peek2, z_peek3, z_take1, z_take2, z_take3, z_slot1, z_slot2, z_slot3, z_slot4, z_ret1, z_ret2, z_ret3, z_arg1, z_arg2, z_arg3, z_arg4, z_arg0, z_frz0, z_frz1, z_frz2, z_frz3, z_frz4, z_lt, z_le, z_gt, z_ge, z_eqi, z_nei, z_eqs, z_nes, z_is, z_isnot, z_add, z_adds, z_addl, z_addt, z_sub, z_mul, z_mull, z_mult, z_fdiv, z_mod, z_pow, z_ixt, z_ixl, z_slct, z_slcl, z_revt, z_revl, z_lent, z_lenl, z_inti, z_intb, z_listl, z_listt, z_tupl, z_tupt, z_itl, z_itt, z_rg1, l3]
  refine ⟨⟨by omega, by omega⟩, rfl, _, rfl, by rw [rngL_len]; omega, fun es hes => ?_⟩
  simp only [s_mixed, q_var, q_cst, q_glob, q_bin, q_neg, q_cmp, q_chain, q_conj, q_notE, q_ite, q_tup, q_lst, q_dic, q_sub, q_slc, q_rev, q_call, q_callk, q_bi, q_rng, q_isinst, q_app, q_pop, q_popAt, q_lc, q_ex, q_asg, q_par, q_ret, q_ife, q_for, q_while, q_pass, q_brk, q_cont, q_seq1, q_seq2, wpEs, wpC, wpI, wpO, wpO', asgR, asgT, asgTs, peekAll, takeAll, slotAll, setAll, defFin, entry, slotA, List.map_cons, List.map_nil, List.length_cons, List.length_nil, List.cons_append, List.nil_append, List.replicate_succ, List.replicate_zero, List.getElem?_cons_zero, List.getElem?_cons_succ, List.set_cons_zero, List.set_cons_succ, IEs.len, ITs.len, flatR, flatD, if_true, if_false, eq_self, true_and, and_true, Bool.false_eq_true, reduceCtorEq, z_bool, z_peek1, z_peek2, z_peek3, z_take1, z_take2, z_take3, z_slot1, z_slot2, z_slot3, z_slot4, z_ret1, z_ret2, z_ret3, z_arg1, z_arg2, z_arg3, z_arg4, z_arg0, z_frz0, z_frz1, z_frz2, z_frz3, z_frz4, z_lt, z_le, z_gt, z_ge, z_eqi, z_nei, z_eqs, z_nes, z_is, z_isnot, z_add, z_adds, z_addl, z_addt, z_sub, z_mul, z_mull, z_mult, z_fdiv, z_mod, z_pow, z_ixt, z_ixl, z_slct, z_slcl, z_revt, z_revl, z_lent, z_lenl, z_inti, z_intb, z_listl, z_listt, z_tupl, z_tupt, z_itl, z_itt, z_rg1]
  rw [rngL_upto] at hes
  obtain ⟨ms, rfl, hms⟩ := perm_ints hes
  clear hes
  refine n1 _ ?_
  refine seq_then fun F2 r2 _ _ n2 => ?_
  simp (maxSteps := 1000000) only [q_var, q_cst, q_glob, q_bin, q_neg, q_cmp, q_chain, q_conj, q_notE, q_ite, q_tup, q_lst, q_dic, q_sub, q_slc, q_rev, q_call, q_callk, q_bi, q_rng, q_isinst, q_app, q_pop, q_popAt, q_lc, q_ex, q_asg, q_par, q_ret, q_ife, q_for, q_while, q_pass, q_brk, q_cont, q_seq1, q_seq2, wpEs, wpC, wpI, wpO, wpO', asgR, asgT, asgTs, peekAll, takeAll, slotAll, setAll, defFin, entry, slotA, List.map_cons, List.map_nil, List.length_cons, List.length_nil, List.cons_append, List.nil_append, List.replicate_succ, List.replicate_zero, List.getElem?_cons_zero, List.getElem?_cons_succ, List.set_cons_zero, List.set_cons_succ, IEs.len, ITs.len, flatR, flatD, if_true, if_false, eq_self, true_and, and_true, Bool.false_eq_true, reduceCtorEq, z_bool, z_peek1, z_peek2, z_peek3, z_take1, z_take2, z_take3, z_slot1, z_slot2, z_slot3, z_slot4, z_ret1, z_ret2, z_ret3, z_arg1, z_arg2, z_arg3, z_arg4, z_arg0, z_frz0, z_frz1, z_frz2, z_frz3, z_frz4, z_lt, z_le, z_gt, z_ge, z_eqi, z_nei, z_eqs, z_nes, z_is, z_isnot, z_add, z_adds, z_addl, z_addt, z_sub, z_mul, z_mull, z_mult, z_fdiv, z_mod, z_pow, z_ixt, z_ixl, z_slct, z_slcl, z_revt, z_revl, z_lent, z_lenl, z_inti, z_intb, z_listl, z_listt, z_tupl, z_tupt, z_itl, z_itt, z_rg1, l1, l2]
  refine ⟨rfl, _, rfl, by omega, fun r h0 hr => ?_⟩
  simp only [drawS, q_var, q_cst, q_glob, q_bin, q_neg, q_cmp, q_chain, q_conj, q_notE, q_ite, q_tup, q_lst, q_dic, q_sub, q_slc, q_rev, q_call, q_callk, q_bi, q_rng, q_isinst, q_app, q_pop, q_popAt, q_lc, q_ex, q_asg, q_par, q_ret, q_ife, q_for, q_while, q_pass, q_brk, q_cont, q_seq1, q_seq2, wpEs, wpC, wpI, wpO, wpO', asgR, asgT, asgTs, peekAll, takeAll, slotAll, setAll, defFin, entry, slotA, List.map_cons, List.map_nil, List.length_cons, List.length_nil, List.cons_append, List.nil_append, List.replicate_succ, List.replicate_zero, List.getElem?_cons_zero, List.getElem?_cons_succ, List.set_cons_zero, List.set_cons_succ, IEs.len, ITs.len, flatR, flatD, if_true, if_false, eq_self, true_and, and_true, Bool.false_eq_true, reduceCtorEq, z_bool, z_peek1, z_peek2, z_peek3, z_take1, z_take2, z_take3, z_slot1, z_slot2, z_slot3, z_slot4, z_ret1, z_ret2, z_ret3, z_arg1, z_arg2, z_arg3, z_arg4, z_arg0, z_frz0, z_frz1, z_frz2, z_frz3, z_frz4, z_lt, z_le, z_gt, z_ge, z_eqi, z_nei, z_eqs, z_nes, z_is, z_isnot, z_add, z_adds, z_addl, z_addt, z_sub, z_mul, z_mull, z_mult, z_fdiv, z_mod, z_pow, z_ixt, z_ixl, z_slct, z_slcl, z_revt, z_revl, z_lent, z_lenl, z_inti, z_intb, z_listl, z_listt, z_tupl, z_tupt, z_itl, z_itt, z_rg1]
  refine ⟨by decide, rfl, _, rfl, by simp, by simp, fun d hd => ?_⟩
  simp only [s_pick, q_var, q_cst, q_glob, q_bin, q_neg, q_cmp, q_chain, q_conj, q_notE, q_ite, q_tup, q_lst, q_dic, q_sub, q_slc, q_rev, q_call, q_callk, q_bi, q_rng, q_isinst, q_app, q_pop, q_popAt, q_lc, q_ex, q_asg, q_par, q_ret, q_ife, q_for, q_while, q_pass, q_brk, q_cont, q_seq1, q_seq2, wpEs, wpC, wpI, wpO, wpO', asgR, asgT, asgTs, peekAll, takeAll, slotAll, setAll, defFin, entry, slotA, List.map_cons, List.map_nil, List.length_cons, List.length_nil, List.cons_append, List.nil_append, List.replicate_succ, List.replicate_zero, List.getElem?_cons_zero, List.getElem?_cons_succ, List.set_cons_zero, List.set_cons_succ, IEs.len, ITs.len, flatR, flatD, if_true, if_false, eq_self, true_and, and_true, Bool.false_eq_true, reduceCtorEq, z_bool, z_peek1, z_peek2, z_peek3, z_take1, z_take2, z_take3, z_slot1, z_slot2, z_slot3, z_slot4, z_ret1, z_ret2, z_ret3, z_arg1, z_arg2, z_arg3, z_arg4, z_arg0, z_frz0, z_frz1, z_frz2, z_frz3, z_frz4, z_lt, z_le, z_gt, z_ge, z_eqi, z_nei, z_eqs, z_nes, z_is, z_isnot, z_add, z_adds, z_addl, z_addt, z_sub, z_mul, z_mull, z_mult, z_fdiv, z_mod, z_pow, z_ixt, z_ixl, z_slct, z_slcl, z_revt, z_revl, z_lent, z_lenl, z_inti, z_intb, z_listl, z_listt, z_tupl, z_tupt, z_itl, z_itt, z_rg1]
  obtain ⟨k, rfl, k0, k1⟩ : ∃ k : Int, d = .int k ∧ 0 ≤ k ∧ k ≤ m := by
    simp only [List.mem_cons, List.not_mem_nil, or_false] at hd
    rcases hd with z | z | z | z | z <;> exact ⟨_, z, by omega, by omega⟩
  refine n2 _ ?_
  simp (maxSteps := 1000000) only [q_var, q_cst, q_glob, q_bin, q_neg, q_cmp, q_chain, q_conj, q_notE, q_ite, q_tup, q_lst, q_dic, q_sub, q_slc, q_rev, q_call, q_callk, q_bi, q_rng, q_isinst, q_app, q_pop, q_popAt, q_lc, q_ex, q_asg, q_par, q_ret, q_ife, q_for, q_while, q_pass, q_brk, q_cont, q_seq1, q_seq2, wpEs, wpC, wpI, wpO, wpO', asgR, asgT, asgTs, peekAll, takeAll, slotAll, setAll, defFin, entry, slotA, List.map_cons, List.map_nil, List.length_cons, List.length_nil, List.cons_append, List.nil_append, List.replicate_succ, List.replicate_zero, List.getElem?_cons_zero, List.getElem?_cons_succ, List.set_cons_zero, List.set_cons_succ, IEs.len, ITs.len, flatR, flatD, if_true, if_false, eq_self, true_and, and_true, Bool.false_eq_true, reduceCtorEq, z_bool, z_peek1, z_peek2, z_peek3, z_take1, z_take2, z_take3, z_slot1, z_slot2, z_slot3, z_slot4, z_ret1, z_ret2, z_ret3, z_arg1, z_arg2, z_arg3, z_arg4, z_arg0, z_frz0, z_frz1, z_frz2, z_frz3, z_frz4, z_lt, z_le, z_gt, z_ge, z_eqi, z_nei, z_eqs, z_nes, z_is, z_isnot, z_add, z_adds, z_addl, z_addt, z_sub, z_mul, z_mull, z_mult, z_fdiv, z_mod, z_pow, z_ixt, z_ixl, z_slct, z_slcl, z_revt, z_revl, z_lent, z_lenl, z_inti, z_intb, z_listl, z_listt, z_tupl, z_tupt, z_itl, z_itt, z_rg1]
  have ml : ms.length = m.toNat := by rw [hms.length_eq]; unfold upto; rw [List.length_map, List.length_range]
  have nd : ms.Nodup := hms.nodup_iff.mpr upto_nodup
  have mem : ∀ x ∈ ms, 0 ≤ x ∧ x < m := fun x hx => upto_mem.mp (hms.mem_iff.mp hx)
  match ms, ml, nd, mem with
  | [], ml, _, _ => exact absurd ml (by simp only [List.length_nil]; omega)
  | [_], ml, _, _ => exact absurd ml (by simp only [List.length_cons, List.length_nil]; omega)
  | x :: y :: rest, ml, nd, mem =>
    simp only [List.length_cons] at ml
    obtain ⟨q, hq⟩ : ∃ q, cutD (intsD (x :: y :: rest)) (some 2) (some (2 + k)) = intsD (rest.take q) := by
      unfold cutD intsD
      rw [show HT.sIx (List.map PyData.int (x :: y :: rest)).length 0 (some 2) = 2 by unfold HT.sIx; simp only [List.length_map, List.length_cons]; rw [if_neg (by decide)]; omega]
      exact ⟨_, by rw [List.map_take]; rfl⟩
    have h2 : cutD (intsD (x :: y :: rest)) none (some 2) = intsD [x, y] := by
      rw [show (some (2 : Int)) = some ((2 : Nat) : Int) from rfl, cut_take (by rw [intsD_len]; simp)]; rfl
    rw [hq, h2]
    refine z_sortl ⟨by rw [List.length_take]; omega, fun ls hls hup => ?_⟩
    simp (maxSteps := 1000000) only [q_var, q_cst, q_glob, q_bin, q_neg, q_cmp, q_chain, q_conj, q_notE, q_ite, q_tup, q_lst, q_dic, q_sub, q_slc, q_rev, q_call, q_callk, q_bi, q_rng, q_isinst, q_app, q_pop, q_popAt, q_lc, q_ex, q_asg, q_par, q_ret, q_ife, q_for, q_while, q_pass, q_brk, q_cont, q_seq1, q_seq2, wpEs, wpC, wpI, wpO, wpO', asgR, asgT, asgTs, peekAll, takeAll, slotAll, setAll, defFin, entry, slotA, List.map_cons, List.map_nil, List.length_cons, List.length_nil, List.cons_append, List.nil_append, List.replicate_succ, List.replicate_zero, List.getElem?_cons_zero, List.getElem?_cons_succ, List.set_cons_zero, List.set_cons_succ, IEs.len, ITs.len, flatR, flatD, if_true, if_false, eq_self, true_and, and_true, Bool.false_eq_true, reduceCtorEq, z_bool, z_peek1, z_peek2, z_peek3, z_take1, z_take2, z_take3, z_slot1, z_slot2, z_slot3, z_slot4, z_ret1, z_ret2, z_ret3, z_arg1, z_arg2, z_arg3, z_arg4, z_arg0, z_frz0, z_frz1, z_frz2, z_frz3, z_frz4, z_lt, z_le, z_gt, z_ge, z_eqi, z_nei, z_eqs, z_nes, z_is, z_isnot, z_add, z_adds, z_addl, z_addt, z_sub, z_mul, z_mull, z_mult, z_fdiv, z_mod, z_pow, z_ixt, z_ixl, z_slct, z_slcl, z_revt, z_revl, z_lent, z_lenl, z_inti, z_intb, z_listl, z_listt, z_tupl, z_tupt, z_itl, z_itt, z_rg1]
    refine z_minl ⟨by simp, fun a ha hamin => z_maxl ⟨by simp, fun b hb hbmax => ?_⟩⟩
    refine ⟨by decide, ?_⟩
    simp (maxSteps := 1000000) only [q_var, q_cst, q_glob, q_bin, q_neg, q_cmp, q_chain, q_conj, q_notE, q_ite, q_tup, q_lst, q_dic, q_sub, q_slc, q_rev, q_call, q_callk, q_bi, q_rng, q_isinst, q_app, q_pop, q_popAt, q_lc, q_ex, q_asg, q_par, q_ret, q_ife, q_for, q_while, q_pass, q_brk, q_cont, q_seq1, q_seq2, wpEs, wpC, wpI, wpO, wpO', asgR, asgT, asgTs, peekAll, takeAll, slotAll, setAll, defFin, entry, slotA, List.map_cons, List.map_nil, List.length_cons, List.length_nil, List.cons_append, List.nil_append, List.replicate_succ, List.replicate_zero, List.getElem?_cons_zero, List.getElem?_cons_succ, List.set_cons_zero, List.set_cons_succ, IEs.len, ITs.len, flatR, flatD, if_true, if_false, eq_self, true_and, and_true, Bool.false_eq_true, reduceCtorEq, z_bool, z_peek1, z_peek2, z_peek3, z_take1, z_take2, z_take3, z_slot1, z_slot2, z_slot3, z_slot4, z_ret1, z_ret2, z_ret3, z_arg1, z_arg2, z_arg3, z_arg4, z_arg0, z_frz0, z_frz1, z_frz2, z_frz3, z_frz4, z_lt, z_le, z_gt, z_ge, z_eqi, z_nei, z_eqs, z_nes, z_is, z_isnot, z_add, z_adds, z_addl, z_addt, z_sub, z_mul, z_mull, z_mult, z_fdiv, z_mod, z_pow, z_ixt, z_ixl, z_slct, z_slcl, z_revt, z_revl, z_lent, z_lenl, z_inti, z_intb, z_listl, z_listt, z_tupl, z_tupt, z_itl, z_itt, z_rg1]
    have nd2 := nd
    rw [List.nodup_cons, List.nodup_cons] at nd2
    have xy : x ≠ y := fun z => nd2.1 (by rw [z]; exact List.mem_cons_self)
    have hx : ∀ z ∈ ls, z ∈ rest := fun z hz => List.mem_of_mem_take (hls.mem_iff.mp hz)
    have ax := hamin x (by simp)
    have ay := hamin y (by simp)
    have bx := hbmax x (by simp)
    have by_ := hbmax y (by simp)
    have am : a = x ∨ a = y := by simpa using ha
    have bm' : b = x ∨ b = y := by simpa using hb
    have x0 := mem x (by simp)
    have y0 := mem y (by simp)
    refine h ls a b ⟨?_, fun z hz => ?_, ?_, ?_, ?_, ?_⟩
    · have ndl : ls.Nodup := hls.nodup_iff.mpr (nd2.2.2.sublist (List.take_sublist _ _))
      exact (hup.and ndl).imp fun {u v} e => by have := e.1; have := e.2; omega
    · have zr := hx z hz
      have zm := mem z (by simp [zr])
      have zx : z ≠ x := fun e => nd2.1 (by rw [← e]; exact List.mem_cons_of_mem _ zr)
      have zy : z ≠ y := fun e => nd2.2.1 (by rw [← e]; exact zr)
      rcases am with rfl | rfl <;> rcases bm' with rfl | rfl <;> exact ⟨zm.1, zm.2, by assumption, by assumption⟩
    · rcases am with rfl | rfl <;> omega
    · omega
    · rcases bm' with rfl | rfl <;> omega
    · have := hls.length_eq; rw [List.length_take] at this; omega
end KR

end
section
set_option Elab.async false
set_option linter.all false
set_option maxRecDepth 100000
set_option genSizeOf false
set_option maxHeartbeats 4000000
/-! Calls by contracts, as rules. -/
namespace KR
open PySem PySem.Spec PyProof.Rows L2
section
variable {r0 r1 r2 : R} {ρ : En} {Q : R → En → Prop} {Ed : Ex → En → Prop}
theorem k_draw (m : Int) : callK drawS [r0, r1] [.dk, .d (.int m)] ρ Q Ed = (m < 2 ^ 62 ∧ ∀ r : Int, 0 ≤ r → (r < m ∨ r = 0) → Q (.im (.int r)) ρ) := by
  refine propext ⟨fun ⟨_, m', e, h1, h⟩ => ?_, fun h => ⟨rfl, m, rfl, h.1, fun r a b => ⟨rfl, h.2 r a b⟩⟩⟩
  cases e
  exact ⟨h1, fun r a b => (h r a b).2⟩
theorem k_pick (ds : List D) : callK s_pick [r0, r1] [.dk, .d (.list ds)] ρ Q Ed = (ds ≠ [] ∧ ds.length ≤ 1000 ∧ ∀ d ∈ ds, frzK ρ [r0, r1] fun ρ2 => Q (.im d) ρ2) := by
  refine propext ⟨fun ⟨_, m', e, h1, h2, h⟩ => ?_, fun h => ⟨rfl, _, rfl, h.1, h.2.1, fun d hd => h.2.2 d hd⟩⟩
  cases e
  exact ⟨h1, h2, fun d hd => h d hd⟩
theorem k_mixed (ds : List D) : callK s_mixed [r0, r1] [.dk, .d (.list ds)] ρ Q Ed = (ds.length ≤ 1000 ∧ ∀ es : List D, es.Perm ds → frzK ρ [r0, r1] fun ρ2 => Q (.fr (.list es)) ρ2) := by
  refine propext ⟨fun ⟨_, m', e, h1, h⟩ => ?_, fun h => ⟨rfl, _, rfl, h.1, fun d hd => h.2 d hd⟩⟩
  cases e
  exact ⟨h1, fun d hd => h d hd⟩
theorem k_standing (m : Int) : callK s_standing [r0, r1] [.dk, .d (.int m)] ρ Q Ed = ((0 ≤ m ∧ m ≤ 90) ∧ ∀ ns : List Int, (ns.length : Int) = m → (∀ n ∈ ns, 0 ≤ n ∧ n ≤ 99) → frzK ρ [r0, r1] fun ρ2 => Q (.im (.tuple (intsD ns))) ρ2) := by
  refine propext ⟨fun ⟨_, m', e, h1, h2, h⟩ => ?_, fun h => ⟨rfl, _, rfl, h.1.1, h.1.2, h.2⟩⟩
  cases e
  exact ⟨⟨h1, h2⟩, h⟩
theorem k_deed (m : Int) : callK s_deed [r0, r1] [.dk, .d (.int m)] ρ Q Ed = ((3 ≤ m ∧ m ≤ 30) ∧ ∀ ls a b, Deed m ls a b → frzK ρ [r0, r1] fun ρ2 => Q (.im (deedD ls a b)) ρ2) := by
  refine propext ⟨fun ⟨_, m', e, h1, h2, h⟩ => ?_, fun h => ⟨rfl, _, rfl, h.1.1, h.1.2, h.2⟩⟩
  cases e
  exact ⟨⟨h1, h2⟩, h⟩
end
theorem enL_len : ∀ (k : Nat) (ds : List D), (enL k ds).length = ds.length
  | _, [] => rfl
  | k, d :: ds => by show (enL (k + 1) ds).length + 1 = _; rw [enL_len]; rfl
/-- a comprehension over enumerate of ints -/
def enI (k : Nat) (g : Nat → Int → Option D) : List Int → List D
  | [] => []
  | i :: is => (match g k i with | some d => [d] | none => []) ++ enI (k + 1) g is
theorem lc_en {own : List (Str × Nat)} {st : D → En → (Option D → En → Prop) → Prop} {ρ0 : En} {K : List D → En → Prop} (g : Nat → Int → Option D) : ∀ (ns : List Int) (k : Nat) (acc : List D), (∀ j i, ns[j]? = some i → ∀ Kk : Option D → En → Prop, (∀ ρ', wipeE ρ' own = ρ0 → Kk (g (k + j) i) ρ') → st (.tuple [.int ((k + j : Nat) : Int), .int i]) ρ0 Kk) →
    K (acc ++ enI k g ns) ρ0 → lcL own st (enL k (intsD ns)) acc ρ0 K
  | [], k, acc, _, hk => by rw [show enI k g [] = [] from rfl, List.append_nil] at hk; exact hk
  | n :: ns, k, acc, h, hk => by
    rw [show enL k (intsD (n :: ns)) = .tuple [.int (k : Nat), .int n] :: enL (k + 1) (intsD ns) from rfl, z_lc1]
    refine h 0 n rfl _ fun ρ' hw => ?_
    rw [show enI k g (n :: ns) = (match g k n with | some d => [d] | none => []) ++ enI (k + 1) g ns from rfl] at hk
    have h' : ∀ j i, ns[j]? = some i → ∀ Kk : Option D → En → Prop, (∀ ρ', wipeE ρ' own = ρ0 → Kk (g (k + 1 + j) i) ρ') → st (.tuple [.int ((k + 1 + j : Nat) : Int), .int i]) ρ0 Kk := fun j i hj Kk hkk => by
      have := h (j + 1) i (by simpa using hj) Kk
      rw [show k + (j + 1) = k + 1 + j by omega] at this
      exact this hkk
    cases e : g k n with
    | none =>
      rw [e] at hk
      show lcL own st _ acc (wipeE ρ' own) K
      rw [hw]
      exact lc_en g ns (k + 1) acc h' hk
    | some y =>
      rw [e] at hk
      show lcL own st _ (acc ++ [y]) (wipeE ρ' own) K
      rw [hw]
      exact lc_en g ns (k + 1) (acc ++ [y]) h' (by rw [List.append_assoc]; exact hk)
theorem enI_map (f : Nat → Int → Int) : ∀ (ns : List Int) (k : Nat), ∃ ms : List Int, enI k (fun j i => some (.int (f j i))) ns = intsD ms ∧ ms.length = ns.length ∧ ∀ x ∈ ms, ∃ j i, i ∈ ns ∧ x = f j i
  | [], k => ⟨[], rfl, rfl, fun x h => by cases h⟩
  | n :: ns, k => by
    obtain ⟨ms, e, l, h⟩ := enI_map f ns (k + 1)
    refine ⟨f k n :: ms, by rw [show enI k (fun j i => some (.int (f j i))) (n :: ns) = [.int (f k n)] ++ enI (k + 1) (fun j i => some (.int (f j i))) ns from rfl, e]; rfl, by simp [l], fun x hx => ?_⟩
    rcases List.mem_cons.mp hx with z | z
    · exact ⟨k, n, List.mem_cons_self, z⟩
    · obtain ⟨j, i, hi, e⟩ := h x z; exact ⟨j, i, List.mem_cons_of_mem _ hi, e⟩
theorem eqv_nil {xs : List D} : PyData.eqv (.tuple xs) (.tuple []) = xs.isEmpty := by cases xs <;> rfl
theorem z_net {xs : List D} {Kb : Bool → Prop} : cmpDQ .ne (.tuple xs) (.tuple []) Kb = (SeqAt.shaped (.tuple xs) = true ∧ Kb (!xs.isEmpty)) := by
  show ((SeqAt.shaped (.tuple xs) = true ∧ SeqAt.shaped (.tuple []) = true) ∧ Kb (!PyData.eqv (.tuple xs) (.tuple []))) = _
  rw [eqv_nil]
  exact propext ⟨fun h => ⟨h.1.1, h.2⟩, fun h => ⟨⟨h.1, by rfl⟩, h.2⟩⟩
theorem z_int {i : Int} {ns : List Int} {Kb : Bool → Prop} : cmpDQ .isin (.int i) (.tuple (intsD ns)) Kb = Kb (decide (i ∈ ns)) := by
  show (((SeqAt.shaped (.int i) = true ∧ SeqAt.shaped (.tuple (intsD ns)) = true) ∧ Kb ((intsD ns).any fun z => PyData.eqv z (.int i)))) = _
  rw [any_ints]
  exact propext ⟨fun h => h.2, fun h => ⟨⟨rfl, shape_ints intsD_isI⟩, h⟩⟩
theorem z_notint {i : Int} {ns : List Int} {Kb : Bool → Prop} : cmpDQ .notin (.int i) (.tuple (intsD ns)) Kb = Kb (!decide (i ∈ ns)) := by
  show (((SeqAt.shaped (.int i) = true ∧ SeqAt.shaped (.tuple (intsD ns)) = true) ∧ Kb (!(intsD ns).any fun z => PyData.eqv z (.int i)))) = _
  rw [any_ints]
  exact propext ⟨fun h => h.2, fun h => ⟨⟨rfl, shape_ints intsD_isI⟩, h⟩⟩
theorem eqv_int {i : Int} : PyData.eqv (.int i) (.int i) = true := by
  have := any_ints (ns := [i]) (r := i)
  simpa [intsD] using this
theorem eqvL_ints : ∀ ns : List Int, PyData.eqv (.list (intsD ns)) (.list (intsD ns)) = true
  | [] => by rfl
  | n :: ns => by
    have ih := eqvL_ints ns
    have h : PyData.eqvAll (intsD ns) (intsD ns) = true := ih
    show PyData.eqvAll (.int n :: intsD ns) (.int n :: intsD ns) = true
    unfold PyData.eqvAll
    rw [eqv_int, h]; rfl
theorem z_ne_same {ns : List Int} {Kb : Bool → Prop} (h : Kb false) : cmpD .ne (.list (intsD ns)) (.list (intsD ns)) Kb := .inl ⟨⟨shapeL, shapeL⟩, by rw [eqvL_ints]; exact h⟩
theorem sorted_one : ∀ {xs ys : List Int}, xs.Perm ys → xs.Pairwise (· ≤ ·) → ys.Pairwise (· ≤ ·) → xs = ys
  | [], ys, h, _, _ => (List.Perm.nil_eq h)
  | x :: xs, [], h, _, _ => absurd h.length_eq (by simp)
  | x :: xs, y :: ys, h, hx, hy => by
    have hx' := List.pairwise_cons.mp hx
    have hy' := List.pairwise_cons.mp hy
    have e : x = y := by
      have h1 : x ∈ y :: ys := h.mem_iff.mp List.mem_cons_self
      have h2 : y ∈ x :: xs := h.mem_iff.mpr List.mem_cons_self
      have a1 : y ≤ x := by
        rcases List.mem_cons.mp h1 with z | z
        · omega
        · exact hy'.1 x z
      have a2 : x ≤ y := by
        rcases List.mem_cons.mp h2 with z | z
        · omega
        · exact hx'.1 y z
      omega
    subst e
    rw [sorted_one (List.Perm.cons_inv h) hx'.2 hy'.2]
theorem ints_inj : ∀ {xs ys : List Int}, intsD xs = intsD ys → xs = ys
  | [], [], _ => rfl
  | [], _ :: _, h => by cases h
  | _ :: _, [], h => by cases h
  | x :: xs, y :: ys, h => by
    have h : PyData.int x :: intsD xs = PyData.int y :: intsD ys := h
    injection h with h1 h2
    injection h1 with h1
    rw [h1, ints_inj h2]
theorem tup_inj {xs ys : List Int} (h : Ar.d (.tuple (intsD xs)) = Ar.d (.tuple (intsD ys))) : xs = ys := by
  injection h with h; injection h with h; exact ints_inj h
theorem sm_szV {n : Nat} {d : D} (h : sm n d) : szV d := by
  cases d <;> try trivial
  case tuple ds => exact fun d hd => sm_szD (sm_mem h d hd)
theorem enL_mem : ∀ {ds : List D} {k : Nat} {d : D}, d ∈ enL k ds → ∃ (j : Nat) (v : D), v ∈ ds ∧ d = .tuple [.int (j : Nat), v]
  | [], _, _, h => by cases h
  | x :: xs, k, d, h => by
    rcases List.mem_cons.mp (show d ∈ PyData.tuple [.int (k : Nat), x] :: enL (k + 1) xs from h) with z | z
    · exact ⟨k, x, List.mem_cons_self, z⟩
    · obtain ⟨j, v, hv, e⟩ := enL_mem z
      exact ⟨j, v, List.mem_cons_of_mem _ hv, e⟩
theorem asgT_2 {Γ : Ctx} {i j : Nat} {x y : D} {ρ : En} {K : En → Prop} : asgT Γ (.tup (.cons (.nm i) (.cons (.nm j) .nil))) (.tuple [x, y]) ρ K = K ((ρ.set i (.im x)).set j (.im y)) := propext ⟨fun h => by simpa [asgT, asgTs, ITs.len] using h, fun h => by simpa [asgT, asgTs, ITs.len] using h⟩
theorem asgT_3 {Γ : Ctx} {i j k : Nat} {x y z : D} {ρ : En} {K : En → Prop} : asgT Γ (.tup (.cons (.nm i) (.cons (.nm j) (.cons (.nm k) .nil)))) (.tuple [x, y, z]) ρ K = K (((ρ.set i (.im x)).set j (.im y)).set k (.im z)) := propext ⟨fun h => by simpa [asgT, asgTs, ITs.len] using h, fun h => by simpa [asgT, asgTs, ITs.len] using h⟩
theorem z_eqt {xs : List D} {Kb : Bool → Prop} : cmpDQ .eq (.tuple xs) (.tuple []) Kb = (SeqAt.shaped (.tuple xs) = true ∧ Kb xs.isEmpty) := by
  show ((SeqAt.shaped (.tuple xs) = true ∧ SeqAt.shaped (.tuple []) = true) ∧ Kb (PyData.eqv (.tuple xs) (.tuple []))) = _
  rw [eqv_nil]
  exact propext ⟨fun h => ⟨h.1.1, h.2⟩, fun h => ⟨⟨h.1, by rfl⟩, h.2⟩⟩
end KR

end
section
set_option Elab.async false
set_option linter.all false
set_option maxRecDepth 100000
set_option maxHeartbeats 4000000
/-! What the head asks. -/
namespace KR
open PySem PySem.Spec PyProof.Rows L2
def obsS (n : Nat) (fa : List He.Fa) (fn : List He.DefD) (g : Addr → Option Obj) : Bool × He.AlD := (((He.frG g (He.asD g n ++ [sysModules])).lookup sysModules).isSome, He.obsD fa fn (He.frG g (He.asD g n ++ [sysModules])))
/-- facts by names, and sys.modules' object too (repr of a dict's own looks there) -/
def hookS (n : Nat) (fa : List He.Fa) (fn : List He.DefD) : PySem.W.Hook where
  α := Bool × He.AlD
  obs := fun s => obsS n fa fn s.heap.get?
  val := fun _ => (true, He.valD fn)
  says := fun _ h => ∃ K : PySem.W.Frag, K.In h ∧ (∃ o, K.lookup sysModules = some o) ∧ He.SaysD fa fn K
  of := fun _ _ e => ⟨_, He.frG_in, Option.isSome_iff_exists.mp (congrArg (fun z : Bool × He.AlD => z.1) e), congrArg (fun z : Bool × He.AlD => z.2) e⟩
  keeps := fun _ _ _ ⟨K, hK, sy, c⟩ k => ⟨K, PySem.W.Frag.In.keeps hK k, sy, c⟩
theorem obsS_eq {n : Nat} {fa : List He.Fa} {fn : List He.DefD} {g : Addr → Option Obj} {s : Shared} (h : ∀ a, g a = s.heap.get? a) : obsS n fa fn g = (hookS n fa fn).obs s := by
  have e : g = s.heap.get? := funext h
  rw [e]; rfl
theorem kb_of {K : PySem.W.Frag} {x qual : Str} {params : Arguments} {body : List Stmt} {scope : Scope} {kws : List (Str × V)} {f : Addr} {fd : FuncData} {ps ks : List Str} (F : FunD K x qual params body scope [] kws f fd)
    (h : ∀ (kV doc pm : Value) (an : Option Addr) (cdv ct : Value) (ws : List Value), ws.length = ks.length → bindArgs (PySem.W.fnOf x qual params body scope .none kV doc pm an cdv ct) ⟨[], ks.zip ws⟩ = pure (ps.zip (pickK ps ks ws))) : KB K fd ps ks := by
  obtain ⟨oc, od, dV, kV, doc, pm, an, cdv, ct, osl, rfl, lk, hcd, hD, hK⟩ := F.ex
  rcases hD with ⟨_, rfl⟩ | ⟨e, _⟩
  · exact fun s ws _ hl _ => .of_eq (h kV doc pm an cdv ct ws hl)
  · exact absurd rfl e
theorem fns_snoc {P : Program} {w : World} {L : Lay} {mg : Str → Option Value} {base : Heap} {k : Nat} {fns : List (Str × DSpec)} {fks : List (Str × List Str)} {x : Str} {S : DSpec} (a : FnsOk P w L mg base k fns fks)
    (b : ∃ f fd, GnOk P w L.K mg base (k + 1) f fd S.ps (lift L S) ∧ mg x = some (.ref f) ∧ PySem.W.keepIn L.K (.ref f) = true ∧ Binds L.K fd S.ps [] ∧ ∀ ks, (x, ks) ∈ fks → KB L.K fd S.ps ks) : FnsOk P w L mg base (k + 1) (fns ++ [(x, S)]) fks := by
  intro y T e
  rw [List.lookup_append] at e
  cases h : fns.lookup y with
  | some U =>
    rw [h] at e
    cases e
    obtain ⟨f, fd, h1, h2⟩ := a y _ h
    exact ⟨f, fd, h1.mono (Nat.le_succ _), h2⟩
  | none =>
    rw [h] at e
    have e : List.lookup y [(x, S)] = some T := e
    rw [List.lookup_cons] at e
    cases hx : (y == x) with
    | true =>
      rw [hx] at e
      have ex : y = x := by simpa using hx
      cases e
      rw [ex]; exact b
    | false => rw [hx] at e; cases e
end KR

end
section
set_option Elab.async false
set_option linter.all false
set_option maxRecDepth 100000
set_option maxHeartbeats 4000000
namespace KR
open PySem PySem.Spec PyProof.Rows L2
namespace K05
-- 0 __name__ = 'keyriders.lots'
-- 1
abbrev N_is_integer : List Str := ["value"]
def i_is_integer : ISs := (.cons (.ret (.conj true (.cons (.isinst "int" (.var 0)) (.cons (.notE (.isinst "bool" (.var 0))) .nil)))) .nil)
-- 2
abbrev N_is_place : List Str := ["n", "value"]
def i_is_place : ISs := (.cons (.ret (.conj true (.cons (.call "is_integer" (.cons (.var 1) .nil)) (.cons (.chain .le .lt (.cst (.int 0)) (.var 1) (.var 0)) .nil)))) .nil)
-- 3
abbrev N_lot_error : List Str := ["n", "value", "spot", "item"]
def i_lot_error : ISs := (.cons (.ife (.notE (.isinst "tuple" (.var 1))) (.cons (.ret (.cst (.str "form"))) .nil) .nil) (.cons (.for_ (.tup (.cons (.nm 2) (.cons (.nm 3) .nil))) (.enum (.var 1)) (.cons (.ife (.conj false (.cons (.notE (.call "is_place" (.cons (.var 0) (.cons (.var 3) .nil)))) (.cons (.conj true (.cons (.cmp .gt (.var 2) (.cst (.int 0))) (.cons (.cmp .le (.var 3) (.sub (.var 1) (.bin .sub (.var 2) (.cst (.int 1))))) .nil))) .nil))) (.cons (.ret (.tup (.cons (.cst (.str "item")) (.cons (.var 2) .nil)))) .nil) .nil) .nil)) (.cons (.ret (.cst .none)) .nil)))
-- 4 __name__ = 'keyriders.deeds'
-- 5
abbrev N_deed_error : List Str := ["n", "value", "lot", "a", "b"]
def i_deed_error : ISs := (.cons (.ife (.conj false (.cons (.notE (.isinst "tuple" (.var 1))) (.cons (.cmp .ne (.bi .len (.cons (.var 1) .nil)) (.cst (.int 3))) .nil))) (.cons (.ret (.cst (.str "form"))) .nil) .nil) (.cons (.asg (.tup (.cons (.nm 2) (.cons (.nm 3) (.cons (.nm 4) .nil)))) (.var 1)) (.cons (.ife (.cmp .isnot (.call "lot_error" (.cons (.var 0) (.cons (.var 2) .nil))) (.cst .none)) (.cons (.ret (.cst (.str "lot"))) .nil) .nil) (.cons (.ife (.conj false (.cons (.notE (.call "is_place" (.cons (.var 0) (.cons (.var 3) .nil)))) (.cons (.notE (.call "is_place" (.cons (.var 0) (.cons (.var 4) .nil)))) (.cons (.cmp .ge (.var 3) (.var 4)) (.cons (.cmp .isin (.var 3) (.var 2)) (.cons (.cmp .isin (.var 4) (.var 2)) .nil)))))) (.cons (.ret (.cst (.str "places"))) .nil) .nil) (.cons (.ret (.cst .none)) .nil)))))
-- 6
abbrev N_done : List Str := ["standing", "deed", "found", "lot", "a", "b", "place"]
def i_done : ISs := (.cons (.asg (.tup (.cons (.nm 3) (.cons (.nm 4) (.cons (.nm 5) .nil)))) (.var 1)) (.cons (.ife (.bi .any (.cons (.lc (.cmp .ne (.sub (.var 0) (.var 6)) (.cst (.int 0))) (.nm 6) (.seq (.var 3)) .non [("place", 6)]) .nil)) (.cons (.ret (.var 0)) .nil) .nil) (.cons (.asg (.nm 2) (.bi .list (.cons (.var 0) .nil))) (.cons (.asg (.tup (.cons (.sub 2 (.var 4)) (.cons (.sub 2 (.var 5)) .nil))) (.tup (.cons (.sub (.var 0) (.var 5)) (.cons (.sub (.var 0) (.var 4)) .nil)))) (.cons (.ret (.bi .tuple (.cons (.var 2) .nil))) .nil)))))
-- 7 __name__ = 'law_keyriders_k05_whole_deeds_done_and_twice'
-- 8
abbrev N__law_deck : List Str := ["script", "deck", "cell", "whole", "state"]
-- BAD _law_deck: Dict(keys=[Constant(value='deep'), Constant(value='state')], values=[List(elts=[], ctx=Load()), BinOp(left=Constant(value=1278727), op=Add(), right=Call(func=Name(id='len', ctx=Load()), args=[Subscrip
-- 9
abbrev N__law_draw : List Str := ["deck", "many", "one", "two", "whole"]
-- BAD _law_draw: method deck['deep'].append(whole // many)
-- 10
abbrev N__law_pick : List Str := ["deck", "items"]
def i__law_pick : ISs := (.cons (.ret (.sub (.var 1) (.call "_law_draw" (.cons (.var 0) (.cons (.bi .len (.cons (.var 1) .nil)) .nil))))) .nil)
-- 11
abbrev N__law_mixed : List Str := ["deck", "items", "left", "found"]
def i__law_mixed : ISs := (.cons (.par [2, 3] (.cons (.bi .list (.cons (.var 1) .nil)) (.cons (.lst .nil) .nil))) (.cons (.while_ (.cmp .ne (.var 2) (.lst .nil)) (.cons (.ex (.app 3 (.popAt 2 (.call "_law_draw" (.cons (.var 0) (.cons (.bi .len (.cons (.var 2) .nil)) .nil)))))) .nil)) (.cons (.ret (.var 3)) .nil)))
-- 12
abbrev N__law_standing : List Str := ["deck", "many", "place", "share", "found", "rider"]
def i__law_standing : ISs := (.cons (.par [3, 4] (.cons (.call "_law_pick" (.cons (.var 0) (.cons (.lst (.cons (.cst (.int 1)) (.cons (.cst (.int 2)) (.cons (.cst (.int 3)) (.cons (.cst (.int 4)) (.cons (.cst (.int 0)) (.cons (.cst (.int 5)) .nil))))))) .nil))) (.cons (.lst .nil) .nil))) (.cons (.for_ (.nm 2) (.rg (.cons (.var 1) .nil)) (.cons (.ife (.cmp .lt (.call "_law_draw" (.cons (.var 0) (.cons (.cst (.int 5)) .nil))) (.var 3)) (.cons (.ex (.app 4 (.cst (.int 0)))) .nil) (.cons (.asg (.nm 5) (.bin .add (.cst (.int 1)) (.call "_law_draw" (.cons (.var 0) (.cons (.cst (.int 99)) .nil))))) (.cons (.while_ (.cmp .isin (.var 5) (.var 4)) (.cons (.asg (.nm 5) (.bin .add (.bin .mod (.bi .int (.cons (.var 5) .nil)) (.cst (.int 99))) (.cst (.int 1)))) .nil)) (.cons (.ex (.app 4 (.var 5))) .nil)))) .nil)) (.cons (.ret (.bi .tuple (.cons (.var 4) .nil))) .nil)))
-- 13
abbrev N__law_deed : List Str := ["deck", "many", "row", "size"]
def i__law_deed : ISs := (.cons (.asg (.nm 2) (.call "_law_mixed" (.cons (.var 0) (.cons (.rng false (.cons (.var 1) .nil)) .nil)))) (.cons (.asg (.nm 3) (.call "_law_pick" (.cons (.var 0) (.cons (.lst (.cons (.cst (.int 0)) (.cons (.cst (.int 1)) (.cons (.cst (.int 1)) (.cons (.cst (.int 2)) (.cons (.call "_law_draw" (.cons (.var 0) (.cons (.bin .sub (.var 1) (.cst (.int 1))) .nil))) .nil)))))) .nil)))) (.cons (.ret (.tup (.cons (.bi .tuple (.cons (.bi .sorted (.cons (.slc (.var 2) (.som (.cst (.int 2))) (.som (.bin .add (.cst (.int 2)) (.var 3)))) .nil)) .nil)) (.cons (.bi .min (.cons (.slc (.var 2) .non (.som (.cst (.int 2)))) .nil)) (.cons (.bi .max (.cons (.slc (.var 2) .non (.som (.cst (.int 2)))) .nil)) .nil))))) .nil)))
-- 14
abbrev N__law_is_whole : List Str := ["value", "low", "high"]
def i__law_is_whole : ISs := (.cons (.ret (.conj true (.cons (.isinst "int" (.var 0)) (.cons (.notE (.isinst "bool" (.var 0))) (.cons (.chain .le .le (.var 1) (.var 0) (.var 2)) .nil))))) .nil)
-- 15
abbrev N__law_is_lot : List Str := ["many", "value", "item", "one", "other"]
def i__law_is_lot : ISs := (.cons (.ife (.conj false (.cons (.notE (.isinst "tuple" (.var 1))) (.cons (.cmp .ne (.lc (.cst (.int 1)) (.nm 2) (.seq (.var 1)) (.som (.notE (.call "_law_is_whole" (.cons (.var 2) (.cons (.cst (.int 0)) (.cons (.bin .sub (.var 0) (.cst (.int 1))) .nil)))))) [("item", 2)]) (.lst .nil)) .nil))) (.cons (.ret (.cst (.bool false))) .nil) .nil) (.cons (.ret (.cmp .eq (.lc (.cst (.int 1)) (.tup (.cons (.nm 3) (.cons (.nm 4) .nil))) (.zip (.var 1) (.slc (.var 1) (.som (.cst (.int 1))) .non)) (.som (.cmp .ge (.var 3) (.var 4))) [("one", 3), ("other", 4)]) (.lst .nil))) .nil))
-- 16
abbrev N__law_due : List Str := ["many", "value", "lot", "a", "b"]
def i__law_due : ISs := (.cons (.ife (.conj false (.cons (.notE (.isinst "tuple" (.var 1))) (.cons (.cmp .ne (.bi .len (.cons (.var 1) .nil)) (.cst (.int 3))) .nil))) (.cons (.ret (.cst (.str "form"))) .nil) .nil) (.cons (.asg (.tup (.cons (.nm 2) (.cons (.nm 3) (.cons (.nm 4) .nil)))) (.var 1)) (.cons (.ife (.notE (.call "_law_is_lot" (.cons (.var 0) (.cons (.var 2) .nil)))) (.cons (.ret (.cst (.str "lot"))) .nil) .nil) (.cons (.ife (.conj false (.cons (.notE (.call "_law_is_whole" (.cons (.var 3) (.cons (.cst (.int 0)) (.cons (.bin .sub (.var 0) (.cst (.int 1))) .nil))))) (.cons (.notE (.call "_law_is_whole" (.cons (.var 4) (.cons (.cst (.int 0)) (.cons (.bin .sub (.var 0) (.cst (.int 1))) .nil))))) .nil))) (.cons (.ret (.cst (.str "places"))) .nil) .nil) (.cons (.ret (.ite (.conj true (.cons (.cmp .lt (.var 3) (.var 4)) (.cons (.cmp .notin (.var 3) (.var 2)) (.cons (.cmp .notin (.var 4) (.var 2)) .nil)))) (.cst .none) (.cst (.str "places")))) .nil)))))
-- 17
abbrev N__law_exchanged : List Str := ["standing", "deed", "found", "lot", "a", "b", "place"]
def i__law_exchanged : ISs := (.cons (.asg (.tup (.cons (.nm 3) (.cons (.nm 4) (.cons (.nm 5) .nil)))) (.var 1)) (.cons (.asg (.nm 2) (.bi .list (.cons (.var 0) .nil))) (.cons (.ife (.cmp .eq (.lc (.cst (.int 1)) (.nm 6) (.seq (.var 3)) (.som (.cmp .gt (.sub (.var 0) (.var 6)) (.cst (.int 0)))) [("place", 6)]) (.lst .nil)) (.cons (.asg (.tup (.cons (.sub 2 (.var 4)) (.cons (.sub 2 (.var 5)) .nil))) (.tup (.cons (.sub (.var 0) (.var 5)) (.cons (.sub (.var 0) (.var 4)) .nil)))) .nil) .nil) (.cons (.ret (.bi .tuple (.cons (.var 2) .nil))) .nil))))
-- 18
abbrev N__law_spoilt : List Str := ["deck", "many", "deed", "odd", "lot", "a", "b", "way", "place"]
def i__law_spoilt : ISs := (.cons (.asg (.tup (.cons (.nm 4) (.cons (.nm 5) (.cons (.nm 6) .nil)))) (.var 2)) (.cons (.par [7, 8] (.cons (.call "_law_draw" (.cons (.var 0) (.cons (.cst (.int 8)) .nil))) (.cons (.call "_law_draw" (.cons (.var 0) (.cons (.var 1) .nil))) .nil))) (.cons (.asg (.nm 3) (.lst (.cons (.var 1) (.cons (.neg (.cst (.int 1))) (.cons (.cst (.bool true)) (.cons (.cst (.bool false)) (.cons (.cst .none) (.cons (.cst (.str "1")) (.cons (.tup (.cons (.cst (.int 1)) .nil)) (.cons (.bin .pow (.cst (.int 10)) (.cst (.int 30))) (.cons (.var 8) (.cons (.var 8) (.cons (.lst (.cons (.cst (.int 1)) .nil)) (.cons (.dic false) (.cons (.tup (.cons (.lst .nil) .nil)) .nil))))))))))))))) (.cons (.ife (.cmp .eq (.var 7) (.cst (.int 0))) (.cons (.ret (.tup (.cons (.var 4) (.cons (.var 6) (.cons (.var 5) .nil))))) .nil) .nil) (.cons (.ife (.cmp .eq (.var 7) (.cst (.int 1))) (.cons (.ret (.ite (.cmp .eq (.var 4) (.tup .nil)) (.tup (.cons (.var 4) (.cons (.var 5) (.cons (.var 5) .nil)))) (.tup (.cons (.var 4) (.cons (.bi .min (.cons (.sub (.var 4) (.cst (.int 0))) (.cons (.var 6) .nil))) (.cons (.bi .max (.cons (.sub (.var 4) (.cst (.int 0))) (.cons (.var 6) .nil))) .nil)))))) .nil) .nil) (.cons (.ife (.cmp .eq (.var 7) (.cst (.int 2))) (.cons (.ret (.tup (.cons (.var 4) (.cons (.call "_law_pick" (.cons (.var 0) (.cons (.var 3) .nil))) (.cons (.var 6) .nil))))) .nil) .nil) (.cons (.ife (.cmp .eq (.var 7) (.cst (.int 3))) (.cons (.ret (.tup (.cons (.var 4) (.cons (.var 5) (.cons (.call "_law_pick" (.cons (.var 0) (.cons (.var 3) .nil))) .nil))))) .nil) .nil) (.cons (.ife (.cmp .eq (.var 7) (.cst (.int 4))) (.cons (.ret (.tup (.cons (.call "_law_pick" (.cons (.var 0) (.cons (.lst (.cons (.bi .list (.cons (.var 4) .nil)) (.cons (.rev (.var 4)) (.cons (.bin .add (.var 4) (.tup (.cons (.var 1) .nil))) (.cons (.bin .add (.var 4) (.var 4)) (.cons (.tup (.cons (.var 5) .nil)) (.cons (.tup (.cons (.var 8) (.cons (.var 5) .nil))) (.cons (.tup (.cons (.cst (.bool true)) .nil)) (.cons (.cst (.int 0)) .nil))))))))) .nil))) (.cons (.var 5) (.cons (.var 6) .nil))))) .nil) .nil) (.cons (.ife (.cmp .eq (.var 7) (.cst (.int 5))) (.cons (.ret (.call "_law_pick" (.cons (.var 0) (.cons (.lst (.cons (.tup (.cons (.var 4) (.cons (.var 5) .nil))) (.cons (.tup (.cons (.var 4) (.cons (.var 5) (.cons (.var 6) (.cons (.cst (.int 1)) .nil))))) (.cons (.lst (.cons (.var 4) (.cons (.var 5) (.cons (.var 6) .nil)))) (.cons (.tup (.cons (.var 4) .nil)) (.cons (.tup (.cons (.var 4) (.cons (.tup (.cons (.var 5) (.cons (.var 6) .nil))) .nil))) (.cons (.tup (.cons (.var 5) (.cons (.var 6) .nil))) (.cons (.tup (.cons (.var 5) (.cons (.var 6) (.cons (.var 4) .nil)))) .nil)))))))) .nil)))) .nil) .nil) (.cons (.ife (.cmp .eq (.var 7) (.cst (.int 6))) (.cons (.ret (.tup (.cons (.call "_law_pick" (.cons (.var 0) (.cons (.lst (.cons (.cst .none) (.cons (.bi .list (.cons (.var 4) .nil)) (.cons (.tup (.cons (.var 1) .nil)) (.cons (.cst (.str "0")) .nil))))) .nil))) (.cons (.call "_law_pick" (.cons (.var 0) (.cons (.var 3) .nil))) (.cons (.call "_law_pick" (.cons (.var 0) (.cons (.var 3) .nil))) .nil))))) .nil) .nil) (.cons (.ret (.call "_law_pick" (.cons (.var 0) (.cons (.lst (.cons (.cst .none) (.cons (.cst (.int 0)) (.cons (.cst (.bool true)) (.cons (.cst (.str "0:1-2")) (.cons (.tup .nil) (.cons (.lst .nil) (.cons (.dic false) (.cons (.tup (.cons (.tup .nil) (.cons (.cst (.int 0)) (.cons (.cst (.int 1)) .nil)))) (.cons (.tup (.cons (.tup .nil) (.cons (.cst (.int 1)) (.cons (.cst (.int 0)) .nil)))) (.cons (.tup (.cons (.tup .nil) (.cons (.cst (.int 0)) (.cons (.var 1) .nil)))) (.cons (.tup (.cons (.cst (.str "do")) (.cons (.var 2) .nil))) .nil)))))))))))) .nil)))) .nil)))))))))))
-- 19
abbrev N__law_keyed : List Str := ["deck", "standing", "lot", "spared", "place", "own"]
def i__law_keyed : ISs := (.cons (.asg (.nm 3) (.ite (.conj true (.cons (.cmp .ne (.var 2) (.tup .nil)) (.cons (.cmp .eq (.call "_law_draw" (.cons (.var 0) (.cons (.cst (.int 3)) .nil))) (.cst (.int 0))) .nil))) (.call "_law_pick" (.cons (.var 0) (.cons (.bi .list (.cons (.var 2) .nil)) .nil))) (.neg (.cst (.int 1))))) (.cons (.ret (.bi .tuple (.cons (.lc (.ite (.conj true (.cons (.cmp .isin (.var 4) (.var 2)) (.cons (.cmp .ne (.var 4) (.var 3)) .nil))) (.cst (.int 0)) (.var 5)) (.tup (.cons (.nm 4) (.cons (.nm 5) .nil))) (.enum (.var 1)) .non [("place", 4), ("own", 5)]) .nil))) .nil))
-- 20
abbrev N_law : List Str := ["script", "deck", "turn", "many", "deed", "standing", "told", "values", "before", "kept", "due", "place", "value", "found", "again"]
def i_law : ISs := (.cons (.for_ (.nm 2) (.rg (.cons (.cst (.int 8)) .nil)) (.cons (.asg (.nm 3) (.bin .add (.cst (.int 3)) (.call "_law_draw" (.cons (.var 1) (.cons (.ite (.cmp .lt (.var 2) (.cst (.int 3))) (.cst (.int 22)) (.cst (.int 4))) .nil))))) (.cons (.asg (.nm 4) (.call "_law_deed" (.cons (.var 1) (.cons (.var 3) .nil)))) (.cons (.asg (.nm 5) (.ite (.cmp .lt (.bin .mod (.var 2) (.cst (.int 4))) (.cst (.int 3))) (.call "_law_keyed" (.cons (.var 1) (.cons (.call "_law_standing" (.cons (.var 1) (.cons (.var 3) .nil))) (.cons (.sub (.var 4) (.cst (.int 0))) .nil)))) (.call "_law_standing" (.cons (.var 1) (.cons (.var 3) .nil))))) (.cons (.par [9, 10] (.cons (.bi .repr (.cons (.lst (.cons (.var 4) (.cons (.var 5) .nil))) .nil)) (.cons (.call "_law_exchanged" (.cons (.var 5) (.cons (.var 4) .nil))) .nil))) (.cons (.asg (.nm 6) (.ite (.cmp .eq (.var 2) (.cst (.int 1))) (.callk "done" ["deed", "standing"] (.cons (.var 4) (.cons (.var 5) .nil))) (.call "done" (.cons (.var 5) (.cons (.var 4) .nil))))) (.cons (.ife (.cmp .ne (.bi .repr (.cons (.lst (.cons (.var 6) (.cons (.call "done" (.cons (.var 5) (.cons (.var 4) .nil))) (.cons (.call "done" (.cons (.var 6) (.cons (.var 4) .nil))) .nil)))) .nil)) (.bi .repr (.cons (.lst (.cons (.var 10) (.cons (.var 10) (.cons (.var 5) .nil)))) .nil))) (.cons (.ret (.cst (.bool false))) .nil) .nil) (.cons (.ife (.conj false (.cons (.cmp .ne (.bi .repr (.cons (.lst (.cons (.var 4) (.cons (.var 5) .nil))) .nil)) (.var 9)) (.cons (.cmp .ne (.bi .sorted (.cons (.var 6) .nil)) (.bi .sorted (.cons (.var 5) .nil))) .nil))) (.cons (.ret (.cst (.bool false))) .nil) .nil) (.cons (.asg (.nm 7) (.bin .add (.lst (.cons (.var 4) .nil)) (.lc (.call "_law_spoilt" (.cons (.var 1) (.cons (.var 3) (.cons (.var 4) .nil)))) (.nm 14) (.rg (.cons (.cst (.int 5)) .nil)) .non [("again", 14)]))) (.cons (.asg (.nm 8) (.bi .repr (.cons (.var 7) .nil))) (.cons (.for_ (.tup (.cons (.nm 11) (.cons (.nm 12) .nil))) (.enum (.var 7)) (.cons (.asg (.nm 13) (.ite (.cmp .eq (.var 11) (.var 2)) (.callk "deed_error" ["value", "n"] (.cons (.var 12) (.cons (.var 3) .nil))) (.call "deed_error" (.cons (.var 3) (.cons (.var 12) .nil))))) (.cons (.ife (.cmp .ne (.bi .repr (.cons (.var 13) .nil)) (.bi .repr (.cons (.call "_law_due" (.cons (.var 3) (.cons (.var 12) .nil))) .nil))) (.cons (.ret (.cst (.bool false))) .nil) .nil) .nil))) (.cons (.ife (.cmp .ne (.bi .repr (.cons (.var 7) .nil)) (.var 8)) (.cons (.ret (.cst (.bool false))) .nil) .nil) .nil)))))))))))) (.cons (.ret (.cst (.bool true))) .nil))

def top (i : Nat) : Stmt := PySem.Challenge.pw_keyriders_k05_whole_deeds_done_and_twice.main.body.getD i (.Pass ⟨0, 0, 0, 0⟩)
def fks : List (Str × List Str) := [("done", ["deed", "standing"]), ("deed_error", ["value", "n"])]
def free : List Str := ["abs", "any", "bool", "enumerate", "int", "isinstance", "len", "list", "max", "min", "range", "repr", "sorted", "tuple", "zip"]
def gls : List (Str × D) := []
/-- the contracts, from the law upward -/
structure Cons where
  s_is_integer : DSpec
  s_is_place : DSpec
  s_lot_error : DSpec
  s_deed_error : DSpec
  s_done : DSpec
  s__law_draw : DSpec
  s__law_pick : DSpec
  s__law_mixed : DSpec
  s__law_standing : DSpec
  s__law_deed : DSpec
  s__law_is_whole : DSpec
  s__law_is_lot : DSpec
  s__law_due : DSpec
  s__law_exchanged : DSpec
  s__law_spoilt : DSpec
  s__law_keyed : DSpec
def Γ_is_integer (C : Cons) : Ctx := ⟨[], fks, gls, free⟩
def Γ_is_place (C : Cons) : Ctx := ⟨[("is_integer", C.s_is_integer)], fks, gls, free⟩
def Γ_lot_error (C : Cons) : Ctx := ⟨[("is_integer", C.s_is_integer), ("is_place", C.s_is_place)], fks, gls, free⟩
def Γ_deed_error (C : Cons) : Ctx := ⟨[("is_integer", C.s_is_integer), ("is_place", C.s_is_place), ("lot_error", C.s_lot_error)], fks, gls, free⟩
def Γ_done (C : Cons) : Ctx := ⟨[("is_integer", C.s_is_integer), ("is_place", C.s_is_place), ("lot_error", C.s_lot_error), ("deed_error", C.s_deed_error)], fks, gls, free⟩
def Γ__law_deck (C : Cons) : Ctx := ⟨[("is_integer", C.s_is_integer), ("is_place", C.s_is_place), ("lot_error", C.s_lot_error), ("deed_error", C.s_deed_error), ("done", C.s_done)], fks, gls, free⟩
def Γ__law_draw (C : Cons) : Ctx := ⟨[("is_integer", C.s_is_integer), ("is_place", C.s_is_place), ("lot_error", C.s_lot_error), ("deed_error", C.s_deed_error), ("done", C.s_done)], fks, gls, free⟩
def Γ__law_pick (C : Cons) : Ctx := ⟨[("is_integer", C.s_is_integer), ("is_place", C.s_is_place), ("lot_error", C.s_lot_error), ("deed_error", C.s_deed_error), ("done", C.s_done), ("_law_draw", C.s__law_draw)], fks, gls, free⟩
def Γ__law_mixed (C : Cons) : Ctx := ⟨[("is_integer", C.s_is_integer), ("is_place", C.s_is_place), ("lot_error", C.s_lot_error), ("deed_error", C.s_deed_error), ("done", C.s_done), ("_law_draw", C.s__law_draw), ("_law_pick", C.s__law_pick)], fks, gls, free⟩
def Γ__law_standing (C : Cons) : Ctx := ⟨[("is_integer", C.s_is_integer), ("is_place", C.s_is_place), ("lot_error", C.s_lot_error), ("deed_error", C.s_deed_error), ("done", C.s_done), ("_law_draw", C.s__law_draw), ("_law_pick", C.s__law_pick), ("_law_mixed", C.s__law_mixed)], fks, gls, free⟩
def Γ__law_deed (C : Cons) : Ctx := ⟨[("is_integer", C.s_is_integer), ("is_place", C.s_is_place), ("lot_error", C.s_lot_error), ("deed_error", C.s_deed_error), ("done", C.s_done), ("_law_draw", C.s__law_draw), ("_law_pick", C.s__law_pick), ("_law_mixed", C.s__law_mixed), ("_law_standing", C.s__law_standing)], fks, gls, free⟩
def Γ__law_is_whole (C : Cons) : Ctx := ⟨[("is_integer", C.s_is_integer), ("is_place", C.s_is_place), ("lot_error", C.s_lot_error), ("deed_error", C.s_deed_error), ("done", C.s_done), ("_law_draw", C.s__law_draw), ("_law_pick", C.s__law_pick), ("_law_mixed", C.s__law_mixed), ("_law_standing", C.s__law_standing), ("_law_deed", C.s__law_deed)], fks, gls, free⟩
def Γ__law_is_lot (C : Cons) : Ctx := ⟨[("is_integer", C.s_is_integer), ("is_place", C.s_is_place), ("lot_error", C.s_lot_error), ("deed_error", C.s_deed_error), ("done", C.s_done), ("_law_draw", C.s__law_draw), ("_law_pick", C.s__law_pick), ("_law_mixed", C.s__law_mixed), ("_law_standing", C.s__law_standing), ("_law_deed", C.s__law_deed), ("_law_is_whole", C.s__law_is_whole)], fks, gls, free⟩
def Γ__law_due (C : Cons) : Ctx := ⟨[("is_integer", C.s_is_integer), ("is_place", C.s_is_place), ("lot_error", C.s_lot_error), ("deed_error", C.s_deed_error), ("done", C.s_done), ("_law_draw", C.s__law_draw), ("_law_pick", C.s__law_pick), ("_law_mixed", C.s__law_mixed), ("_law_standing", C.s__law_standing), ("_law_deed", C.s__law_deed), ("_law_is_whole", C.s__law_is_whole), ("_law_is_lot", C.s__law_is_lot)], fks, gls, free⟩
def Γ__law_exchanged (C : Cons) : Ctx := ⟨[("is_integer", C.s_is_integer), ("is_place", C.s_is_place), ("lot_error", C.s_lot_error), ("deed_error", C.s_deed_error), ("done", C.s_done), ("_law_draw", C.s__law_draw), ("_law_pick", C.s__law_pick), ("_law_mixed", C.s__law_mixed), ("_law_standing", C.s__law_standing), ("_law_deed", C.s__law_deed), ("_law_is_whole", C.s__law_is_whole), ("_law_is_lot", C.s__law_is_lot), ("_law_due", C.s__law_due)], fks, gls, free⟩
def Γ__law_spoilt (C : Cons) : Ctx := ⟨[("is_integer", C.s_is_integer), ("is_place", C.s_is_place), ("lot_error", C.s_lot_error), ("deed_error", C.s_deed_error), ("done", C.s_done), ("_law_draw", C.s__law_draw), ("_law_pick", C.s__law_pick), ("_law_mixed", C.s__law_mixed), ("_law_standing", C.s__law_standing), ("_law_deed", C.s__law_deed), ("_law_is_whole", C.s__law_is_whole), ("_law_is_lot", C.s__law_is_lot), ("_law_due", C.s__law_due), ("_law_exchanged", C.s__law_exchanged)], fks, gls, free⟩
def Γ__law_keyed (C : Cons) : Ctx := ⟨[("is_integer", C.s_is_integer), ("is_place", C.s_is_place), ("lot_error", C.s_lot_error), ("deed_error", C.s_deed_error), ("done", C.s_done), ("_law_draw", C.s__law_draw), ("_law_pick", C.s__law_pick), ("_law_mixed", C.s__law_mixed), ("_law_standing", C.s__law_standing), ("_law_deed", C.s__law_deed), ("_law_is_whole", C.s__law_is_whole), ("_law_is_lot", C.s__law_is_lot), ("_law_due", C.s__law_due), ("_law_exchanged", C.s__law_exchanged), ("_law_spoilt", C.s__law_spoilt)], fks, gls, free⟩
def Γ_law (C : Cons) : Ctx := ⟨[("is_integer", C.s_is_integer), ("is_place", C.s_is_place), ("lot_error", C.s_lot_error), ("deed_error", C.s_deed_error), ("done", C.s_done), ("_law_draw", C.s__law_draw), ("_law_pick", C.s__law_pick), ("_law_mixed", C.s__law_mixed), ("_law_standing", C.s__law_standing), ("_law_deed", C.s__law_deed), ("_law_is_whole", C.s__law_is_whole), ("_law_is_lot", C.s__law_is_lot), ("_law_due", C.s__law_due), ("_law_exchanged", C.s__law_exchanged), ("_law_spoilt", C.s__law_spoilt), ("_law_keyed", C.s__law_keyed)], fks, gls, free⟩
section
variable {P : Program} {w : World} {W : Wld} {K : PySem.W.Frag} {cad : Str → Addr} {mg : Str → Option Value} {base : Heap} {k : Nat} {C : Cons}
theorem m_is_integer (G : Gb P w ⟨W, K, cad, Γ_is_integer C⟩ mg base N_is_integer k) : (cSs G (defScope (top 1)) i_is_integer (defBody (top 1))).isSome = true := by kernel_rfl
theorem m_is_place (G : Gb P w ⟨W, K, cad, Γ_is_place C⟩ mg base N_is_place k) : (cSs G (defScope (top 2)) i_is_place (defBody (top 2))).isSome = true := by kernel_rfl
theorem m_lot_error (G : Gb P w ⟨W, K, cad, Γ_lot_error C⟩ mg base N_lot_error k) : (cSs G (defScope (top 3)) i_lot_error (defBody (top 3))).isSome = true := by kernel_rfl
theorem m_deed_error (G : Gb P w ⟨W, K, cad, Γ_deed_error C⟩ mg base N_deed_error k) : (cSs G (defScope (top 5)) i_deed_error (defBody (top 5))).isSome = true := by kernel_rfl
theorem m_done (G : Gb P w ⟨W, K, cad, Γ_done C⟩ mg base N_done k) : (cSs G (defScope (top 6)) i_done (defBody (top 6))).isSome = true := by kernel_rfl
theorem m__law_pick (G : Gb P w ⟨W, K, cad, Γ__law_pick C⟩ mg base N__law_pick k) : (cSs G (defScope (top 10)) i__law_pick (defBody (top 10))).isSome = true := by kernel_rfl
theorem m__law_mixed (G : Gb P w ⟨W, K, cad, Γ__law_mixed C⟩ mg base N__law_mixed k) : (cSs G (defScope (top 11)) i__law_mixed (defBody (top 11))).isSome = true := by kernel_rfl
theorem m__law_standing (G : Gb P w ⟨W, K, cad, Γ__law_standing C⟩ mg base N__law_standing k) : (cSs G (defScope (top 12)) i__law_standing (defBody (top 12))).isSome = true := by kernel_rfl
theorem m__law_deed (G : Gb P w ⟨W, K, cad, Γ__law_deed C⟩ mg base N__law_deed k) : (cSs G (defScope (top 13)) i__law_deed (defBody (top 13))).isSome = true := by kernel_rfl
theorem m__law_is_whole (G : Gb P w ⟨W, K, cad, Γ__law_is_whole C⟩ mg base N__law_is_whole k) : (cSs G (defScope (top 14)) i__law_is_whole (defBody (top 14))).isSome = true := by kernel_rfl
theorem m__law_is_lot (G : Gb P w ⟨W, K, cad, Γ__law_is_lot C⟩ mg base N__law_is_lot k) : (cSs G (defScope (top 15)) i__law_is_lot (defBody (top 15))).isSome = true := by kernel_rfl
theorem m__law_due (G : Gb P w ⟨W, K, cad, Γ__law_due C⟩ mg base N__law_due k) : (cSs G (defScope (top 16)) i__law_due (defBody (top 16))).isSome = true := by kernel_rfl
theorem m__law_exchanged (G : Gb P w ⟨W, K, cad, Γ__law_exchanged C⟩ mg base N__law_exchanged k) : (cSs G (defScope (top 17)) i__law_exchanged (defBody (top 17))).isSome = true := by kernel_rfl
theorem m__law_spoilt (G : Gb P w ⟨W, K, cad, Γ__law_spoilt C⟩ mg base N__law_spoilt k) : (cSs G (defScope (top 18)) i__law_spoilt (defBody (top 18))).isSome = true := by kernel_rfl
theorem m__law_keyed (G : Gb P w ⟨W, K, cad, Γ__law_keyed C⟩ mg base N__law_keyed k) : (cSs G (defScope (top 19)) i__law_keyed (defBody (top 19))).isSome = true := by kernel_rfl
theorem m_law (G : Gb P w ⟨W, K, cad, Γ_law C⟩ mg base N_law k) : (cSs G (defScope (top 20)) i_law ((defBody (top 20)).tail)).isSome = true := by kernel_rfl
end
end K05
end KR

end
section
set_option Elab.async false
set_option linter.all false
set_option maxRecDepth 100000
set_option maxHeartbeats 4000000
namespace KR
open PySem PySem.Spec PyProof.Rows L2
namespace K05
section
variable {P : Program} {w : World} {K : PySem.W.Frag} {cad : Str → Addr} {Γ : Ctx} {mg : Str → Option Value} {base : Heap} {k : Nat} {f : Addr} {fd : FuncData}
theorem sc_draw : FnScope N__law_draw ["deck", "many"] (defScope (top 9)) := C8.fnScope_by (by kernel_rfl)
theorem raw_draw (F : FunD K "_law_draw" "_law_draw" (defArgs (top 9)) (defBody (top 9)) (defScope (top 9)) [] [] f fd) (hi : mg "int" = none) : GnOk P w K mg base (k + 1) f fd drawS.ps (lift ⟨deckW, K, cad, Γ⟩ drawS) := by
  refine gn_by F sc_draw (fun vs H Q E h => h.1) fun cdv A0 out s H vs Q E hg hr h => ?_
  obtain ⟨hl, A, B, as, Qd, Ed, S, ar, ⟨m, rfl, hm, hq⟩, kq, _⟩ := h
  have hu : (cxOf (L2.CX P w) P w K mg base N__law_draw "_law_draw" (defScope (top 9)) f cdv A0 out s H E).A.units + 200 < cLine := by have := hr.un; show (A0.deeper _).units + 200 < cLine; omega
  generalize hX : cxOf (L2.CX P w) P w K mg base N__law_draw "_law_draw" (defScope (top 9)) f cdv A0 out s H E = X at hu
  have eN : X.N = N__law_draw := by rw [← hX]; rfl
  have eS : X.env.scope = defScope (top 9) := by rw [← hX]; rfl
  have em : X.mg = mg := by rw [← hX]; rfl
  have ef : X.fn = fun _ => true := by rw [← hX]; rfl
  have vs' : ∀ (i : Nat) (n : Str) (p : Pos), N__law_draw[i]? = some n → (visB (defScope (top 9)) n && !bad n) = true → PE X (.Name n p) (tVar i) := fun i n p h1 h2 => by
    rw [Bool.and_eq_true, Bool.not_eq_true'] at h2
    exact pe_var (by rw [eN]; exact h1) (by rw [eS]; exact vis_of h2.1) (bad_of h2.2).1 (bad_of h2.2).2
  have gi : Gl X "int" := by show X.env.scope.names.lookup _ = _; rw [eS]; kernel_rfl
  have mi : X.mg "int" = none := by rw [em]; exact hi
  have int_ : ∀ {e : Expr} {t : TE} {p pos : Pos}, noStar e = true → PE X e t → PE X (.Call (.Name "int" p) [e] [] pos) (tCB (fun xs H Q => (∃ i, xs = [.int i] ∧ Q (.int i) H) ∨ ∃ k, xs = [.bl k] ∧ Q (.int (if k then 1 else 0)) H) (tCons t tNil)) := fun {e t p pos} hs he =>
    pe_callTy call_int1 gi mi boot_int (pa_cons he pa_nil (star_cons hs)) (by decide) (by decide) (star_cons hs) rfl
  have set_ : ∀ (i : Nat) (n : Str) {e : Expr} {t : TE} {p pos : Pos}, N__law_draw[i]? = some n → locB (defScope (top 9)) n = true → noComp e = true → PE X e t → PS X (.Assign [.Name n p] e pos) (tAsg t (gName i)) := fun i n {e t p pos} h1 h2 h3 he =>
    ps_set (by rw [eN]; exact sc_draw.nd) (by rw [eN]; exact h1) (by rw [eS]; exact .inl (loc_of h2)) he (sw_no h3) (by rw [eS]; exact .inr (loc_of h2))
  have d : ∀ {x : Str} {p p2 pos : Pos} {j : Nat}, PE X (.Subscript (.Name "deck" p) (.Constant (.str x) j p2) pos) (tDGet (tVar 0) (tC (.str x))) := fun {x p p2 pos j} => pe_dget (by omega) (vs' 0 "deck" p rfl (by kernel_rfl)) pe_str (fun _ _ => rfl)
  refine ⟨drawT X.K, pss_cons (ps_if (pt_cmpR op_lt (vs' 1 "many" _ rfl (by kernel_rfl)) pe_int (nomark _)) (pss_cons (ps_ret pe_int) pss_nil) pss_nil)
    (pss_cons (ps_if (pt_cmpR (op_neE (by omega)) d (pe_lst pa_nil) (nomark _))
      (pss_cons (set_ 4 "whole" rfl (by kernel_rfl) rfl (pe_bm0 PySem.F.plainAttrs_list PySem.F.slot_list_pop PySem.F.type_list_pop mt_pop d rfl (by kernel_rfl)))
        (pss_cons (ps_if (pt_cmpR op_ge (vs' 4 "whole" _ rfl (by kernel_rfl)) (vs' 1 "many" _ rfl (by kernel_rfl)) (nomark _))
          (pss_cons (ps_expr (pe_bm PySem.F.plainAttrs_list PySem.F.slot_list_append PySem.F.type_list_append mt_append d (pa_cons (pe_op op_fdivW (vs' 4 "whole" _ rfl (by kernel_rfl)) (vs' 1 "many" _ rfl (by kernel_rfl))) pa_nil) rfl rfl (by kernel_rfl) rfl rfl)) pss_nil) pss_nil)
        (pss_cons (ps_ret (pe_op op_mod (int_ rfl (vs' 4 "whole" _ rfl (by kernel_rfl))) (vs' 1 "many" _ rfl (by kernel_rfl)))) pss_nil))) pss_nil)
    (pss_cons (set_ 2 "one" rfl (by kernel_rfl) rfl (pe_op op_mod (int_ rfl (pe_op op_add (pe_op op_mulI d pe_int) pe_int)) pe_int))
    (pss_cons (ps_asg (vs' 2 "one" _ rfl (by kernel_rfl)) (pg_sub (vs' 0 "deck" _ rfl (by kernel_rfl)) pe_str (set_dict (by omega))))
    (pss_cons (set_ 3 "two" rfl (by kernel_rfl) rfl (pe_op op_mod (int_ rfl (pe_op op_add (pe_op op_add (pe_op op_mulI (vs' 2 "one" _ rfl (by kernel_rfl)) (vs' 2 "one" _ rfl (by kernel_rfl))) (pe_op op_mulI pe_int (vs' 2 "one" _ rfl (by kernel_rfl)))) pe_int)) pe_int))
    (pss_cons (ps_ret (pe_op op_mod (int_ rfl (pe_op op_fdivW (vs' 3 "two" _ rfl (by kernel_rfl)) pe_int)) (vs' 1 "many" _ rfl (by kernel_rfl)))) pss_nil))))), ?_⟩
  obtain ⟨v1, _, rfl, ⟨q, rfl, hd⟩, v2, _, rfl, e2, e3⟩ := ar
  have e2 : v2 = .int m := e2
  subst e2
  rw [show _ = [] from e3]
  exact draw_pure S hd hm (fun z hz => by rw [hd] at hz; exact (Option.some.inj hz).symm) fun r H' r0 r1 S' => kq (.int r) H' (.im (.int r)) B S' (Sub.refl _) rfl (hq r r0 r1)
theorem sc_deck : FnScope N__law_deck ["script"] (defScope (top 8)) := C8.fnScope_by (by kernel_rfl)
theorem raw_deck (F : FunD K "_law_deck" "_law_deck" (defArgs (top 8)) (defBody (top 8)) (defScope (top 8)) [] [] f fd) (hi : mg "int" = none) (ha : mg "abs" = none) (hl : mg "len" = none) : GnOk P w K mg base (k + 1) f fd ["script"] (spDeck K) := by
  refine gn_by F sc_deck (fun vs H Q E h => by obtain ⟨a, ns, rfl, _⟩ := h; rfl) fun cdv A0 out s H vs Q E hg hr h => ?_
  obtain ⟨a, ns, rfl, hs, hn, hq⟩ := h
  have hu : (cxOf (L2.CX P w) P w K mg base N__law_deck "_law_deck" (defScope (top 8)) f cdv A0 out s H E).A.units + 200 < cLine := by have := hr.un; show (A0.deeper _).units + 200 < cLine; omega
  have hp : PassesOwn (model P w) (cxOf (L2.CX P w) P w K mg base N__law_deck "_law_deck" (defScope (top 8)) f cdv A0 out s H E).A (cxOf (L2.CX P w) P w K mg base N__law_deck "_law_deck" (defScope (top 8)) f cdv A0 out s H E).env (cxOf (L2.CX P w) P w K mg base N__law_deck "_law_deck" (defScope (top 8)) f cdv A0 out s H E).xe := passes_of rfl
  generalize hX : cxOf (L2.CX P w) P w K mg base N__law_deck "_law_deck" (defScope (top 8)) f cdv A0 out s H E = X at hu hp
  have eP : X.prog = P := by rw [← hX]; rfl
  have ew : X.w = w := by rw [← hX]; rfl
  have eK : X.K = K := by rw [← hX]; rfl
  have eN : X.N = N__law_deck := by rw [← hX]; rfl
  have eS : X.env.scope = defScope (top 8) := by rw [← hX]; rfl
  have em : X.mg = mg := by rw [← hX]; rfl
  have ec : X.calm = true := by rw [← hX]; rfl
  rw [← eP, ← ew] at hp
  have v : ∀ (i : Nat) (n : Str) (p : Pos), N__law_deck[i]? = some n → (visB (defScope (top 8)) n && !bad n) = true → PE X (.Name n p) (tVar i) := fun i n p h1 h2 => by
    rw [Bool.and_eq_true, Bool.not_eq_true'] at h2
    exact pe_var (by rw [eN]; exact h1) (by rw [eS]; exact vis_of h2.1) (bad_of h2.2).1 (bad_of h2.2).2
  have gl : ∀ n : Str, glB (defScope (top 8)) n = true → Gl X n := fun n h => by show X.env.scope.names.lookup _ = _; rw [eS]; exact gl_of h
  have int_ : ∀ {e : Expr} {t : TE} {p pos : Pos}, noStar e = true → PE X e t → PE X (.Call (.Name "int" p) [e] [] pos) (tInt t) := fun {e t p pos} hs he =>
    pe_callTy call_int1 (gl "int" (by kernel_rfl)) (by rw [em]; exact hi) boot_int (pa_cons he pa_nil (star_cons hs)) (by decide) (by decide) (star_cons hs) rfl
  have set_ : ∀ (i : Nat) (n : Str) {e : Expr} {t : TE} {p pos : Pos}, N__law_deck[i]? = some n → locB (defScope (top 8)) n = true → noComp e = true → PE X e t → PS X (.Assign [.Name n p] e pos) (tAsg t (gName i)) := fun i n {e t p pos} h1 h2 h3 he =>
    ps_set (by rw [eN]; exact sc_deck.nd) (by rw [eN]; exact h1) (by rw [eS]; exact .inl (loc_of h2)) he (sw_no h3) (by rw [eS]; exact .inr (loc_of h2))
  have d : ∀ {x : Str} {p p2 pos : Pos} {j : Nat}, PE X (.Subscript (.Name "deck" p) (.Constant (.str x) j p2) pos) (dkV x) := fun {x p p2 pos j} => pe_dget (by omega) (v 1 "deck" p rfl (by kernel_rfl)) pe_str (fun _ _ => rfl)
  have cut : ∀ {p p2 p3 pos : Pos} {j : Nat}, PE X (.Subscript (.Name "script" p) (.Slice none (some (.Constant (.int 63) j p3)) none p2) pos) (tCut X.K) := fun {p p2 p3 pos j} => pe_slice sl_list (v 0 "script" p rfl (by kernel_rfl)) po_none (po_some pe_int)
  refine ⟨deckT X.K 1278727, pss_cons (set_ 1 "deck" rfl (by kernel_rfl) rfl (pe_disp (pps_cons pe_str (pe_lst pa_nil) (pps_cons pe_str (pe_op op_add pe_int (pe_callB call_len (gl "len" (by kernel_rfl)) (by rw [em]; exact hl) boot_len (pa_cons cut pa_nil rfl) (by decide) (by decide) rfl rfl)) pps_nil)) rfl rfl (by simp) (by decide)))
    (pss_cons (ps_for hp ec (pi_list cut) (pg_name (by rw [eN]; exact sc_deck.nd) (by rw [eN]; rfl) (by rw [eS]; exact .inl (loc_of (n := "cell") (by kernel_rfl))) (by rw [eS]; exact .inr (loc_of (n := "cell") (by kernel_rfl))))
      (pss_cons (set_ 3 "whole" rfl (by kernel_rfl) rfl (pe_callB call_abs (gl "abs" (by kernel_rfl)) (by rw [em]; exact ha) boot_abs (pa_cons (v 2 "cell" _ rfl (by kernel_rfl)) pa_nil rfl) (by decide) (by decide) rfl rfl))
      (pss_cons (ps_if (pt_cmpR op_ge (v 3 "whole" _ rfl (by kernel_rfl)) (pe_op op_pow pe_int pe_int) (nomark _))
        (pss_cons (ps_asg (pe_op op_cat (pe_lst (pa_cons (v 3 "whole" _ rfl (by kernel_rfl)) pa_nil rfl)) d) (pg_sub (v 1 "deck" _ rfl (by kernel_rfl)) pe_str (set_dict (by omega)))) pss_nil) pss_nil)
      (pss_cons (set_ 4 "state" rfl (by kernel_rfl) rfl (pe_op op_add (pe_op op_mulI (pe_op op_add (pe_op op_add (pe_op op_add d (pe_op op_mulI pe_int (v 3 "whole" _ rfl (by kernel_rfl)))) (int_ rfl (pe_cmpR op_lt (v 2 "cell" _ rfl (by kernel_rfl)) pe_int (nomark _)))) pe_int) pe_int) pe_int))
      (pss_cons (ps_asg (pe_op op_mod (int_ rfl (v 4 "state" _ rfl (by kernel_rfl))) pe_int) (pg_sub (v 1 "deck" _ rfl (by kernel_rfl)) pe_str (set_dict (by omega)))) pss_nil)))))
    (pss_cons (ps_ret (v 1 "deck" _ rfl (by kernel_rfl))) pss_nil)), ?_⟩
  rw [eK]
  exact deck_pure (by decide) hs hn hq
theorem sc_law : FnScope N_law ["script"] (defScope (top 20)) := C8.fnScope_by (by kernel_rfl)
/-- the law's def -/
theorem raw_law {C : Cons} {fD : Addr} {fdD : FuncData} (F : FunD K "law" "law" (defArgs (top 20)) (defBody (top 20)) (defScope (top 20)) [] [] f fd) (G : Gb P w ⟨deckW, K, cad, Γ_law C⟩ mg base N_law k) (GD : GnOk P w K mg base k fD fdD ["script"] (spDeck K)) (hm : mg "_law_deck" = some (.ref fD)) (hk : PySem.W.keepIn K (.ref fD) = true) (hb : Binds K fdD ["script"] [])
    (hw : wpSs (Γ_law C) noEx i_law (lawE 13) lawF) : GnOk P w K mg base (k + 1) f fd ["script"] (spLaw K) := by
  refine gn_by F sc_law (fun vs H Q E h => by obtain ⟨a, ns, rfl, _⟩ := h; rfl) fun cdv A0 out s H vs Q E hg hr h => ?_
  obtain ⟨a, ns, rfl, hs, hn, hq⟩ := h
  let X := cxOf (L2.CX P w) P w K mg base N_law "law" (defScope (top 20)) f cdv A0 out s H E
  let Wx : WX := fun c d _ H => E c d H
  have tk : Takes X Wx := takes_of rfl rfl rfl rfl
  have ho : PassesOwn (model X.prog X.w) X.A X.env X.xe := passes_of rfl
  have Cx1 : Cxk P w ⟨deckW, K, cad, Γ_law C⟩ mg base N_law k (defScope (top 20)) F1 Wx X := ⟨rfl, rfl, rfl, rfl, rfl, rfl, rfl, rfl, rfl, hg, hr, fun σ => passAt tk σ⟩
  have rest := get_pf _ (m_law G) noEx Wx X Cx1 ho
  have vd : PE X (.Name "script" ⟨0, 0, 0, 0⟩) (tVar 0) := pe_var rfl (vis_of (sc := defScope (top 20)) (by kernel_rfl)) (by decide) (by decide)
  refine ⟨_, pss_cons (ps_set (i := 1) sc_law.nd rfl (.inr (by kernel_rfl)) (gpe_call GD hr hg (fun σ => passAt tk σ) (gl_of (sc := defScope (top 20)) (by kernel_rfl)) hm hk hb (pa_cons (pe_var (i := 0) rfl (vis_of (sc := defScope (top 20)) (by kernel_rfl)) (by decide) (by decide)) pa_nil rfl) (by decide) rfl rfl) rfl (.inl rfl)) rest, ?_⟩
  exact ⟨.ref a, rfl, a, ns, rfl, hs, hn, fun q H' hd hk' => law_after (L := ⟨deckW, K, cad, Γ_law C⟩) rfl (by decide) hd hw fun H' => hq H'⟩
end
end K05
end KR

end
section
set_option Elab.async false
set_option linter.all false
set_option maxRecDepth 100000
set_option maxHeartbeats 400000
namespace KR
open PySem PySem.Spec PyProof.Rows L2
namespace K05
/-- no two neighbours out of order -/
def upB : Option Int → List Int → Bool
  | _, [] => true
  | none, i :: is => upB (some i) is
  | some j, i :: is => decide (j < i) && upB (some i) is
theorem lotGo_ints {n : Int} : ∀ (is : List Int) (p : Option Int) (k : Nat), (∀ i ∈ is, 0 ≤ i ∧ i < n) → isNon (lotGo n p k (intsD is)) = upB p is
  | [], p, k, _ => by cases p <;> rfl
  | i :: is, p, k, h => by
    have hi := h i List.mem_cons_self
    have ih := lotGo_ints is (some i) (k + 1) fun x hx => h x (List.mem_cons_of_mem _ hx)
    show isNon (if (0 ≤ i ∧ i < n) ∧ ∀ j, p = some j → j < i then lotGo n (some i) (k + 1) (intsD is) else .tuple [.str "item", .int k]) = _
    cases p with
    | none => rw [if_pos ⟨hi, fun j z => by cases z⟩, ih]; rfl
    | some j =>
      by_cases hj : j < i
      · rw [if_pos ⟨hi, fun j' z => by rw [← Option.some.inj z]; exact hj⟩, ih]
        show _ = (decide (j < i) && upB (some i) is)
        rw [decide_eq_true hj]; rfl
      · rw [if_neg fun z => hj (z.2 j rfl)]
        show _ = (decide (j < i) && upB (some i) is)
        rw [decide_eq_false hj]; rfl
theorem lotGo_bad {n : Int} : ∀ (ds : List D) (p : Option Int) (k : Nat), (∃ d ∈ ds, wh 0 (n - 1) d = false) → isNon (lotGo n p k ds) = false
  | [], _, _, h => by obtain ⟨d, hd, _⟩ := h; cases hd
  | d :: ds, p, k, h => by
    cases d <;> try rfl
    case int i =>
      show isNon (if (0 ≤ i ∧ i < n) ∧ ∀ j, p = some j → j < i then lotGo n (some i) (k + 1) ds else .tuple [.str "item", .int k]) = _
      split
      · rename_i c
        refine lotGo_bad ds _ _ ?_
        obtain ⟨d, hd, hw⟩ := h
        rcases List.mem_cons.mp hd with z | z
        · subst z
          have hw : (decide (0 ≤ i) && decide (i ≤ n - 1)) = false := hw
          rw [decide_eq_true c.1.1, decide_eq_true (show i ≤ n - 1 by omega)] at hw
          cases hw
        · exact ⟨d, z, hw⟩
      · rfl
theorem fm_none {α β : Type} {f : α → Option β} {xs : List α} (h : ∀ x ∈ xs, f x = none) : xs.filterMap f = [] := List.filterMap_eq_nil_iff.mpr h
theorem fm_some {α β : Type} {f : α → Option β} {xs : List α} {x : α} {y : β} (hx : x ∈ xs) (h : f x = some y) : (xs.filterMap f).isEmpty = false := by
  have : y ∈ xs.filterMap f := List.mem_filterMap.mpr ⟨x, hx, h⟩
  cases e : xs.filterMap f with
  | nil => rw [e] at this; cases this
  | cons => rfl
theorem all_ints {lo hi : Int} : ∀ {ds : List D}, (∀ d ∈ ds, wh lo hi d = true) → ∃ is : List Int, ds = intsD is ∧ ∀ i ∈ is, lo ≤ i ∧ i ≤ hi
  | [], _ => ⟨[], rfl, fun i h => by cases h⟩
  | d :: ds, h => by
    obtain ⟨i, rfl, a, b⟩ := wh_int (h d List.mem_cons_self)
    obtain ⟨is, rfl, k⟩ := all_ints fun x hx => h x (List.mem_cons_of_mem _ hx)
    exact ⟨i :: is, rfl, fun x hx => by rcases List.mem_cons.mp hx with z | z; rw [z]; exact ⟨a, b⟩; exact k x z⟩
theorem cut_tail {ds : List D} (h : ds.length ≤ 2000) : cutD ds (some 1) none = ds.drop 1 := by
  unfold cutD HT.sIx
  dsimp only
  rw [if_neg (by decide)]
  cases ds with
  | nil => rfl
  | cons d ds =>
    have e : min (Int.toNat 1) (d :: ds).length = 1 := by simp
    rw [e]
    exact List.take_of_length_le (by simp)
def geP : D → Option D
  | .tuple [.int i, .int j] => if decide (j ≤ i) = true then some (.int 1) else none
  | _ => none
theorem geP_up : ∀ is : List Int, ((((intsD is).zip ((intsD is).drop 1)).map fun p => PyData.tuple [p.1, p.2]).filterMap geP).isEmpty = upB none is
  | [] => rfl
  | [_] => rfl
  | i :: j :: is => by
    have ih := geP_up (j :: is)
    have e : (((intsD (i :: j :: is)).zip ((intsD (i :: j :: is)).drop 1)).map fun p => PyData.tuple [p.1, p.2]) = .tuple [.int i, .int j] :: (((intsD (j :: is)).zip ((intsD (j :: is)).drop 1)).map fun p => PyData.tuple [p.1, p.2]) := rfl
    rw [e, List.filterMap_cons]
    have e2 : geP (.tuple [.int i, .int j]) = if decide (j ≤ i) = true then some (.int 1) else none := rfl
    rw [e2]
    have e3 : upB none (i :: j :: is) = (decide (i < j) && upB none (j :: is)) := rfl
    rw [e3, ← ih]
    by_cases hij : i < j
    · rw [if_neg (by rw [decide_eq_false (show ¬ j ≤ i by omega)]; decide), decide_eq_true hij]; rfl
    · rw [if_pos (decide_eq_true (show j ≤ i by omega)), decide_eq_false hij]; rfl
theorem z_eq0 {xs : List D} {Kb : Bool → Prop} (h : Kb xs.isEmpty) : cmpD .eq (.list xs) (.list []) Kb := by
  cases xs with
  | nil => exact .inl ⟨⟨by decide, by decide⟩, by rw [show PyData.eqv (.list []) (.list []) = true by decide]; exact h⟩
  | cons z zs => exact .inr ⟨by simp, h⟩
def s_is_lot : DSpec := ⟨false, ["many", "value"], fun as Qd _ => ∃ n v, as = [.d (.int n), .d v] ∧ szD v ∧ Qd (.im (.bool (isNon (lotErr n v))))⟩
theorem w_is_lot {Γ : Ctx} (l1 : Γ.fns.lookup ("_law_is_whole" : Str) = some s_is_whole) : ∀ as Qd Ed, as.length = 2 → s_is_lot.wp as Qd Ed → wpSs Γ (fun x _ => Ed x) i__law_is_lot (entry N__law_is_lot as) (defFin Qd) := by
  rintro as Qd Ed hl ⟨n, v, rfl, hz0, h⟩; clear hl
  have hz : sizeLine = 16777216 := sizeLine_eq
  unfold i__law_is_lot
  refine seq_then fun F1 r1 _ _ n1 => ?_
  have r1 : F1.rt = Qd := r1
  simp (maxSteps := 1000000) only [q_var, q_cst, q_glob, q_bin, q_neg, q_cmp, q_chain, q_conj, q_notE, q_ite, q_tup, q_lst, q_dic, q_sub, q_slc, q_rev, q_call, q_callk, q_bi, q_rng, q_isinst, q_app, q_pop, q_popAt, q_lc, q_ex, q_asg, q_par, q_ret, q_ife, q_for, q_while, q_pass, q_brk, q_cont, q_seq1, q_seq2, wpEs, wpC, wpI, wpO, wpO', asgR, asgT, asgTs, peekAll, takeAll, slotAll, setAll, defFin, entry, slotA, List.map_cons, List.map_nil, List.length_cons, List.length_nil, List.cons_append, List.nil_append, List.replicate_succ, List.replicate_zero, List.getElem?_cons_zero, List.getElem?_cons_succ, List.set_cons_zero, List.set_cons_succ, IEs.len, ITs.len, flatR, flatD, if_true, if_false, eq_self, true_and, and_true, Bool.false_eq_true, reduceCtorEq, z_bool, z_peek1, z_peek2, z_peek3, z_take1, z_take2, z_take3, z_slot1, z_slot2, z_slot3, z_slot4, z_ret1, z_ret2, z_ret3, z_arg1, z_arg2, z_arg3, z_arg4, z_arg0, z_frz0, z_frz1, z_frz2, z_frz3, z_frz4, z_lt, z_le, z_gt, z_ge, z_eqi, z_nei, z_eqs, z_nes, z_is, z_isnot, z_add, z_adds, z_addl, z_addt, z_sub, z_mul, z_mull, z_mult, z_fdiv, z_mod, z_pow, z_ixt, z_ixl, z_slct, z_slcl, z_revt, z_revl, z_lent, z_lenl, z_inti, z_intb, z_listl, z_listt, z_tupl, z_tupt, z_itl, z_itt, z_rg1, z_back0, z_back1, z_bs1, z_bs2, z_bs3, z_bs4, z_wipe0, z_wipe1, r1]
  cases v <;> try exact h
  case tuple ds =>
    have hz0 : ds.length ≤ 1000 := hz0
    simp only [isTy, q_var, q_cst, q_glob, q_bin, q_neg, q_cmp, q_chain, q_conj, q_notE, q_ite, q_tup, q_lst, q_dic, q_sub, q_slc, q_rev, q_call, q_callk, q_bi, q_rng, q_isinst, q_app, q_pop, q_popAt, q_lc, q_ex, q_asg, q_par, q_ret, q_ife, q_for, q_while, q_pass, q_brk, q_cont, q_seq1, q_seq2, wpEs, wpC, wpI, wpO, wpO', asgR, asgT, asgTs, peekAll, takeAll, slotAll, setAll, defFin, entry, slotA, List.map_cons, List.map_nil, List.length_cons, List.length_nil, List.cons_append, List.nil_append, List.replicate_succ, List.replicate_zero, List.getElem?_cons_zero, List.getElem?_cons_succ, List.set_cons_zero, List.set_cons_succ, IEs.len, ITs.len, flatR, flatD, if_true, if_false, eq_self, true_and, and_true, Bool.false_eq_true, reduceCtorEq, z_bool, z_peek1, z_peek2, z_peek3, z_take1, z_take2, z_take3, z_slot1, z_slot2, z_slot3, z_slot4, z_ret1, z_ret2, z_ret3, z_arg1, z_arg2, z_arg3, z_arg4, z_arg0, z_frz0, z_frz1, z_frz2, z_frz3, z_frz4, z_lt, z_le, z_gt, z_ge, z_eqi, z_nei, z_eqs, z_nes, z_is, z_isnot, z_add, z_adds, z_addl, z_addt, z_sub, z_mul, z_mull, z_mult, z_fdiv, z_mod, z_pow, z_ixt, z_ixl, z_slct, z_slcl, z_revt, z_revl, z_lent, z_lenl, z_inti, z_intb, z_listl, z_listt, z_tupl, z_tupt, z_itl, z_itt, z_rg1, z_back0, z_back1, z_bs1, z_bs2, z_bs3, z_bs4, z_wipe0, z_wipe1]
    simp only [show (!(("tuple" : String) == "tuple")) = false by decide, if_true]
    refine ⟨by omega, by omega, ?_⟩
    generalize hst : stepF _ _ _ _ = st
    refine lc_fm (fun d => if (!wh 0 (n - 1) d) = true then some (.int 1) else none) _ [] (fun d hd Kk hk => ?_) ?_
    · rw [← hst, stepF_at]
      simp (maxSteps := 1000000) only [q_var, q_cst, q_glob, q_bin, q_neg, q_cmp, q_chain, q_conj, q_notE, q_ite, q_tup, q_lst, q_dic, q_sub, q_slc, q_rev, q_call, q_callk, q_bi, q_rng, q_isinst, q_app, q_pop, q_popAt, q_lc, q_ex, q_asg, q_par, q_ret, q_ife, q_for, q_while, q_pass, q_brk, q_cont, q_seq1, q_seq2, wpEs, wpC, wpI, wpO, wpO', asgR, asgT, asgTs, peekAll, takeAll, slotAll, setAll, defFin, entry, slotA, List.map_cons, List.map_nil, List.length_cons, List.length_nil, List.cons_append, List.nil_append, List.replicate_succ, List.replicate_zero, List.getElem?_cons_zero, List.getElem?_cons_succ, List.set_cons_zero, List.set_cons_succ, IEs.len, ITs.len, flatR, flatD, if_true, if_false, eq_self, true_and, and_true, Bool.false_eq_true, reduceCtorEq, z_bool, z_peek1, z_peek2, z_peek3, z_take1, z_take2, z_take3, z_slot1, z_slot2, z_slot3, z_slot4, z_ret1, z_ret2, z_ret3, z_arg1, z_arg2, z_arg3, z_arg4, z_arg0, z_frz0, z_frz1, z_frz2, z_frz3, z_frz4, z_lt, z_le, z_gt, z_ge, z_eqi, z_nei, z_eqs, z_nes, z_is, z_isnot, z_add, z_adds, z_addl, z_addt, z_sub, z_mul, z_mull, z_mult, z_fdiv, z_mod, z_pow, z_ixt, z_ixl, z_slct, z_slcl, z_revt, z_revl, z_lent, z_lenl, z_inti, z_intb, z_listl, z_listt, z_tupl, z_tupt, z_itl, z_itt, z_rg1, z_back0, z_back1, z_bs1, z_bs2, z_bs3, z_bs4, z_wipe0, z_wipe1, l1]
      refine ⟨rfl, d, _, _, rfl, ?_⟩
      simp only [s_is_whole, q_var, q_cst, q_glob, q_bin, q_neg, q_cmp, q_chain, q_conj, q_notE, q_ite, q_tup, q_lst, q_dic, q_sub, q_slc, q_rev, q_call, q_callk, q_bi, q_rng, q_isinst, q_app, q_pop, q_popAt, q_lc, q_ex, q_asg, q_par, q_ret, q_ife, q_for, q_while, q_pass, q_brk, q_cont, q_seq1, q_seq2, wpEs, wpC, wpI, wpO, wpO', asgR, asgT, asgTs, peekAll, takeAll, slotAll, setAll, defFin, entry, slotA, List.map_cons, List.map_nil, List.length_cons, List.length_nil, List.cons_append, List.nil_append, List.replicate_succ, List.replicate_zero, List.getElem?_cons_zero, List.getElem?_cons_succ, List.set_cons_zero, List.set_cons_succ, IEs.len, ITs.len, flatR, flatD, if_true, if_false, eq_self, true_and, and_true, Bool.false_eq_true, reduceCtorEq, z_bool, z_peek1, z_peek2, z_peek3, z_take1, z_take2, z_take3, z_slot1, z_slot2, z_slot3, z_slot4, z_ret1, z_ret2, z_ret3, z_arg1, z_arg2, z_arg3, z_arg4, z_arg0, z_frz0, z_frz1, z_frz2, z_frz3, z_frz4, z_lt, z_le, z_gt, z_ge, z_eqi, z_nei, z_eqs, z_nes, z_is, z_isnot, z_add, z_adds, z_addl, z_addt, z_sub, z_mul, z_mull, z_mult, z_fdiv, z_mod, z_pow, z_ixt, z_ixl, z_slct, z_slcl, z_revt, z_revl, z_lent, z_lenl, z_inti, z_intb, z_listl, z_listt, z_tupl, z_tupt, z_itl, z_itt, z_rg1, z_back0, z_back1, z_bs1, z_bs2, z_bs3, z_bs4, z_wipe0, z_wipe1]
      cases e : wh 0 (n - 1) d with
      | true =>
        have hk := hk [.im (.int n), .im (.tuple ds), .im d, .no, .no] rfl
        rw [e] at hk; exact hk
      | false =>
        have hk := hk [.im (.int n), .im (.tuple ds), .im d, .no, .no] rfl
        rw [e] at hk; exact hk
    rw [List.nil_append]
    refine ⟨by decide, z_ne0 ?_⟩
    have h : Qd (.im (.bool (isNon (lotGo n none 0 ds)))) := h
    by_cases hall : ∀ d ∈ ds, wh 0 (n - 1) d = true
    · rw [fm_none fun d hd => by rw [hall d hd]; rfl]
      rw [if_neg (by decide)]
      simp (maxSteps := 1000000) only [q_var, q_cst, q_glob, q_bin, q_neg, q_cmp, q_chain, q_conj, q_notE, q_ite, q_tup, q_lst, q_dic, q_sub, q_slc, q_rev, q_call, q_callk, q_bi, q_rng, q_isinst, q_app, q_pop, q_popAt, q_lc, q_ex, q_asg, q_par, q_ret, q_ife, q_for, q_while, q_pass, q_brk, q_cont, q_seq1, q_seq2, wpEs, wpC, wpI, wpO, wpO', asgR, asgT, asgTs, peekAll, takeAll, slotAll, setAll, defFin, entry, slotA, List.map_cons, List.map_nil, List.length_cons, List.length_nil, List.cons_append, List.nil_append, List.replicate_succ, List.replicate_zero, List.getElem?_cons_zero, List.getElem?_cons_succ, List.set_cons_zero, List.set_cons_succ, IEs.len, ITs.len, flatR, flatD, if_true, if_false, eq_self, true_and, and_true, Bool.false_eq_true, reduceCtorEq, z_bool, z_peek1, z_peek2, z_peek3, z_take1, z_take2, z_take3, z_slot1, z_slot2, z_slot3, z_slot4, z_ret1, z_ret2, z_ret3, z_arg1, z_arg2, z_arg3, z_arg4, z_arg0, z_frz0, z_frz1, z_frz2, z_frz3, z_frz4, z_lt, z_le, z_gt, z_ge, z_eqi, z_nei, z_eqs, z_nes, z_is, z_isnot, z_add, z_adds, z_addl, z_addt, z_sub, z_mul, z_mull, z_mult, z_fdiv, z_mod, z_pow, z_ixt, z_ixl, z_slct, z_slcl, z_revt, z_revl, z_lent, z_lenl, z_inti, z_intb, z_listl, z_listt, z_tupl, z_tupt, z_itl, z_itt, z_rg1, z_back0, z_back1, z_bs1, z_bs2, z_bs3, z_bs4, z_wipe0, z_wipe1]
      refine n1 _ ?_
      simp (maxSteps := 1000000) only [q_var, q_cst, q_glob, q_bin, q_neg, q_cmp, q_chain, q_conj, q_notE, q_ite, q_tup, q_lst, q_dic, q_sub, q_slc, q_rev, q_call, q_callk, q_bi, q_rng, q_isinst, q_app, q_pop, q_popAt, q_lc, q_ex, q_asg, q_par, q_ret, q_ife, q_for, q_while, q_pass, q_brk, q_cont, q_seq1, q_seq2, wpEs, wpC, wpI, wpO, wpO', asgR, asgT, asgTs, peekAll, takeAll, slotAll, setAll, defFin, entry, slotA, List.map_cons, List.map_nil, List.length_cons, List.length_nil, List.cons_append, List.nil_append, List.replicate_succ, List.replicate_zero, List.getElem?_cons_zero, List.getElem?_cons_succ, List.set_cons_zero, List.set_cons_succ, IEs.len, ITs.len, flatR, flatD, if_true, if_false, eq_self, true_and, and_true, Bool.false_eq_true, reduceCtorEq, z_bool, z_peek1, z_peek2, z_peek3, z_take1, z_take2, z_take3, z_slot1, z_slot2, z_slot3, z_slot4, z_ret1, z_ret2, z_ret3, z_arg1, z_arg2, z_arg3, z_arg4, z_arg0, z_frz0, z_frz1, z_frz2, z_frz3, z_frz4, z_lt, z_le, z_gt, z_ge, z_eqi, z_nei, z_eqs, z_nes, z_is, z_isnot, z_add, z_adds, z_addl, z_addt, z_sub, z_mul, z_mull, z_mult, z_fdiv, z_mod, z_pow, z_ixt, z_ixl, z_slct, z_slcl, z_revt, z_revl, z_lent, z_lenl, z_inti, z_intb, z_listl, z_listt, z_tupl, z_tupt, z_itl, z_itt, z_rg1, z_back0, z_back1, z_bs1, z_bs2, z_bs3, z_bs4, z_wipe0, z_wipe1]
      obtain ⟨is, rfl, his⟩ := all_ints hall
      rw [lotGo_ints is none 0 fun i hi => by have := his i hi; omega] at h
      have hz0 : is.length ≤ 1000 := by rwa [intsD_len] at hz0
      rw [cut_tail (by rw [intsD_len]; omega)]
      have hzl : ((intsD is).zip ((intsD is).drop 1)).length ≤ is.length := by rw [List.length_zip, intsD_len]; omega
      refine ⟨⟨by rw [intsD_len]; omega, by rw [List.length_drop, intsD_len]; omega⟩, by rw [List.length_map]; omega, ?_⟩
      generalize hst2 : stepF _ _ _ _ = st2
      refine lc_fm geP _ [] (fun d hd Kk hk => ?_) ?_
      · obtain ⟨⟨x, y⟩, hxy, rfl⟩ := List.mem_map.mp hd
        have hx := (List.of_mem_zip hxy).1
        have hy := List.mem_of_mem_drop (List.of_mem_zip hxy).2
        obtain ⟨i, _, rfl⟩ := List.mem_map.mp hx
        obtain ⟨j, _, rfl⟩ := List.mem_map.mp hy
        rw [← hst2, stepF_at]
        simp (maxSteps := 1000000) only [q_var, q_cst, q_glob, q_bin, q_neg, q_cmp, q_chain, q_conj, q_notE, q_ite, q_tup, q_lst, q_dic, q_sub, q_slc, q_rev, q_call, q_callk, q_bi, q_rng, q_isinst, q_app, q_pop, q_popAt, q_lc, q_ex, q_asg, q_par, q_ret, q_ife, q_for, q_while, q_pass, q_brk, q_cont, q_seq1, q_seq2, wpEs, wpC, wpI, wpO, wpO', asgR, asgT, asgTs, peekAll, takeAll, slotAll, setAll, defFin, entry, slotA, List.map_cons, List.map_nil, List.length_cons, List.length_nil, List.cons_append, List.nil_append, List.replicate_succ, List.replicate_zero, List.getElem?_cons_zero, List.getElem?_cons_succ, List.set_cons_zero, List.set_cons_succ, IEs.len, ITs.len, flatR, flatD, if_true, if_false, eq_self, true_and, and_true, Bool.false_eq_true, reduceCtorEq, z_bool, z_peek1, z_peek2, z_peek3, z_take1, z_take2, z_take3, z_slot1, z_slot2, z_slot3, z_slot4, z_ret1, z_ret2, z_ret3, z_arg1, z_arg2, z_arg3, z_arg4, z_arg0, z_frz0, z_frz1, z_frz2, z_frz3, z_frz4, z_lt, z_le, z_gt, z_ge, z_eqi, z_nei, z_eqs, z_nes, z_is, z_isnot, z_add, z_adds, z_addl, z_addt, z_sub, z_mul, z_mull, z_mult, z_fdiv, z_mod, z_pow, z_ixt, z_ixl, z_slct, z_slcl, z_revt, z_revl, z_lent, z_lenl, z_inti, z_intb, z_listl, z_listt, z_tupl, z_tupt, z_itl, z_itt, z_rg1, z_back0, z_back1, z_bs1, z_bs2, z_bs3, z_bs4, z_wipe0, z_wipe1]
        have hk := hk [.im (.int n), .im (.tuple (intsD is)), .no, .im (.int i), .im (.int j)] rfl
        have hk : Kk (if decide (j ≤ i) = true then some (.int 1) else none) _ := hk
        split
        · rename_i c; rw [if_pos c] at hk; exact hk
        · rename_i c; rw [if_neg c] at hk; exact hk
      · rw [List.nil_append]
        refine ⟨by decide, z_eq0 ?_⟩
        rw [geP_up]
        exact h
    · obtain ⟨d, hd, hw⟩ : ∃ d ∈ ds, wh 0 (n - 1) d = false := by
        refine Classical.byContradiction fun c => hall fun d hd => ?_
        cases e : wh 0 (n - 1) d with
        | true => rfl
        | false => exact absurd ⟨d, hd, e⟩ c
      rw [if_pos (by rw [fm_some (f := fun d => if (!wh 0 (n - 1) d) = true then some (PyData.int 1) else none) hd (by rw [hw]; rfl)]; rfl)]
      rw [lotGo_bad ds _ _ ⟨d, hd, hw⟩] at h
      exact h
def s_due : DSpec := { s_deed_error with ps := ["many", "value"] }
theorem w_due {Γ : Ctx} (l1 : Γ.fns.lookup ("_law_is_whole" : Str) = some s_is_whole) (l2 : Γ.fns.lookup ("_law_is_lot" : Str) = some s_is_lot) : ∀ as Qd Ed, as.length = 2 → s_due.wp as Qd Ed → wpSs Γ (fun x _ => Ed x) i__law_due (entry N__law_due as) (defFin Qd) := by
  rintro as Qd Ed hl ⟨n, v, rfl, hz, h⟩; clear hl
  unfold i__law_due
  refine seq_then fun F1 r1 bb1 cc1 n1 => ?_
  have r1 : F1.rt = Qd := r1
  simp (maxSteps := 1000000) only [q_var, q_cst, q_glob, q_bin, q_neg, q_cmp, q_chain, q_conj, q_notE, q_ite, q_tup, q_lst, q_dic, q_sub, q_slc, q_rev, q_call, q_callk, q_bi, q_rng, q_isinst, q_app, q_pop, q_popAt, q_lc, q_ex, q_asg, q_par, q_ret, q_ife, q_for, q_while, q_pass, q_brk, q_cont, q_seq1, q_seq2, wpEs, wpC, wpI, wpO, wpO', asgR, asgT, asgTs, peekAll, takeAll, slotAll, setAll, defFin, entry, slotA, List.map_cons, List.map_nil, List.length_cons, List.length_nil, List.cons_append, List.nil_append, List.replicate_succ, List.replicate_zero, List.getElem?_cons_zero, List.getElem?_cons_succ, List.set_cons_zero, List.set_cons_succ, IEs.len, ITs.len, flatR, flatD, if_true, if_false, eq_self, true_and, and_true, Bool.false_eq_true, reduceCtorEq, z_bool, z_peek1, z_peek2, z_peek3, z_take1, z_take2, z_take3, z_slot1, z_slot2, z_slot3, z_slot4, z_ret1, z_ret2, z_ret3, z_arg1, z_arg2, z_arg3, z_arg4, z_arg0, z_frz0, z_frz1, z_frz2, z_frz3, z_frz4, z_lt, z_le, z_gt, z_ge, z_eqi, z_nei, z_eqs, z_nes, z_is, z_isnot, z_add, z_adds, z_addl, z_addt, z_sub, z_mul, z_mull, z_mult, z_fdiv, z_mod, z_pow, z_ixt, z_ixl, z_slct, z_slcl, z_revt, z_revl, z_lent, z_lenl, z_inti, z_intb, z_listl, z_listt, z_tupl, z_tupt, z_itl, z_itt, z_rg1, z_back0, z_back1, z_bs1, z_bs2, z_bs3, z_bs4, z_wipe0, z_wipe1, r1]
  cases v <;> try exact h
  case tuple ds =>
    simp only [isTy, q_var, q_cst, q_glob, q_bin, q_neg, q_cmp, q_chain, q_conj, q_notE, q_ite, q_tup, q_lst, q_dic, q_sub, q_slc, q_rev, q_call, q_callk, q_bi, q_rng, q_isinst, q_app, q_pop, q_popAt, q_lc, q_ex, q_asg, q_par, q_ret, q_ife, q_for, q_while, q_pass, q_brk, q_cont, q_seq1, q_seq2, wpEs, wpC, wpI, wpO, wpO', asgR, asgT, asgTs, peekAll, takeAll, slotAll, setAll, defFin, entry, slotA, List.map_cons, List.map_nil, List.length_cons, List.length_nil, List.cons_append, List.nil_append, List.replicate_succ, List.replicate_zero, List.getElem?_cons_zero, List.getElem?_cons_succ, List.set_cons_zero, List.set_cons_succ, IEs.len, ITs.len, flatR, flatD, if_true, if_false, eq_self, true_and, and_true, Bool.false_eq_true, reduceCtorEq, z_bool, z_peek1, z_peek2, z_peek3, z_take1, z_take2, z_take3, z_slot1, z_slot2, z_slot3, z_slot4, z_ret1, z_ret2, z_ret3, z_arg1, z_arg2, z_arg3, z_arg4, z_arg0, z_frz0, z_frz1, z_frz2, z_frz3, z_frz4, z_lt, z_le, z_gt, z_ge, z_eqi, z_nei, z_eqs, z_nes, z_is, z_isnot, z_add, z_adds, z_addl, z_addt, z_sub, z_mul, z_mull, z_mult, z_fdiv, z_mod, z_pow, z_ixt, z_ixl, z_slct, z_slcl, z_revt, z_revl, z_lent, z_lenl, z_inti, z_intb, z_listl, z_listt, z_tupl, z_tupt, z_itl, z_itt, z_rg1, z_back0, z_back1, z_bs1, z_bs2, z_bs3, z_bs4, z_wipe0, z_wipe1]
    have go : ∀ x y z, ds = [x, y, z] → F1.nx [.im (.int n), .im (.tuple ds), .no, .no, .no] := by
      rintro x y z rfl
      refine n1 _ ?_
      refine seq_then fun F2 r2 bb2 cc2 n2 => ?_
      simp (maxSteps := 1000000) only [q_var, q_cst, q_glob, q_bin, q_neg, q_cmp, q_chain, q_conj, q_notE, q_ite, q_tup, q_lst, q_dic, q_sub, q_slc, q_rev, q_call, q_callk, q_bi, q_rng, q_isinst, q_app, q_pop, q_popAt, q_lc, q_ex, q_asg, q_par, q_ret, q_ife, q_for, q_while, q_pass, q_brk, q_cont, q_seq1, q_seq2, wpEs, wpC, wpI, wpO, wpO', asgR, asgT, asgTs, peekAll, takeAll, slotAll, setAll, defFin, entry, slotA, List.map_cons, List.map_nil, List.length_cons, List.length_nil, List.cons_append, List.nil_append, List.replicate_succ, List.replicate_zero, List.getElem?_cons_zero, List.getElem?_cons_succ, List.set_cons_zero, List.set_cons_succ, IEs.len, ITs.len, flatR, flatD, if_true, if_false, eq_self, true_and, and_true, Bool.false_eq_true, reduceCtorEq, z_bool, z_peek1, z_peek2, z_peek3, z_take1, z_take2, z_take3, z_slot1, z_slot2, z_slot3, z_slot4, z_ret1, z_ret2, z_ret3, z_arg1, z_arg2, z_arg3, z_arg4, z_arg0, z_frz0, z_frz1, z_frz2, z_frz3, z_frz4, z_lt, z_le, z_gt, z_ge, z_eqi, z_nei, z_eqs, z_nes, z_is, z_isnot, z_add, z_adds, z_addl, z_addt, z_sub, z_mul, z_mull, z_mult, z_fdiv, z_mod, z_pow, z_ixt, z_ixl, z_slct, z_slcl, z_revt, z_revl, z_lent, z_lenl, z_inti, z_intb, z_listl, z_listt, z_tupl, z_tupt, z_itl, z_itt, z_rg1, z_back0, z_back1, z_bs1, z_bs2, z_bs3, z_bs4, z_wipe0, z_wipe1]
      refine n2 _ ?_
      refine seq_then fun F3 r3 bb3 cc3 n3 => ?_
      have r3 : F3.rt = Qd := r3
      simp (maxSteps := 1000000) only [q_var, q_cst, q_glob, q_bin, q_neg, q_cmp, q_chain, q_conj, q_notE, q_ite, q_tup, q_lst, q_dic, q_sub, q_slc, q_rev, q_call, q_callk, q_bi, q_rng, q_isinst, q_app, q_pop, q_popAt, q_lc, q_ex, q_asg, q_par, q_ret, q_ife, q_for, q_while, q_pass, q_brk, q_cont, q_seq1, q_seq2, wpEs, wpC, wpI, wpO, wpO', asgR, asgT, asgTs, peekAll, takeAll, slotAll, setAll, defFin, entry, slotA, List.map_cons, List.map_nil, List.length_cons, List.length_nil, List.cons_append, List.nil_append, List.replicate_succ, List.replicate_zero, List.getElem?_cons_zero, List.getElem?_cons_succ, List.set_cons_zero, List.set_cons_succ, IEs.len, ITs.len, flatR, flatD, if_true, if_false, eq_self, true_and, and_true, Bool.false_eq_true, reduceCtorEq, z_bool, z_peek1, z_peek2, z_peek3, z_take1, z_take2, z_take3, z_slot1, z_slot2, z_slot3, z_slot4, z_ret1, z_ret2, z_ret3, z_arg1, z_arg2, z_arg3, z_arg4, z_arg0, z_frz0, z_frz1, z_frz2, z_frz3, z_frz4, z_lt, z_le, z_gt, z_ge, z_eqi, z_nei, z_eqs, z_nes, z_is, z_isnot, z_add, z_adds, z_addl, z_addt, z_sub, z_mul, z_mull, z_mult, z_fdiv, z_mod, z_pow, z_ixt, z_ixl, z_slct, z_slcl, z_revt, z_revl, z_lent, z_lenl, z_inti, z_intb, z_listl, z_listt, z_tupl, z_tupt, z_itl, z_itt, z_rg1, z_back0, z_back1, z_bs1, z_bs2, z_bs3, z_bs4, z_wipe0, z_wipe1, l2, r3]
      refine ⟨rfl, n, x, rfl, hz x List.mem_cons_self, ?_⟩
      simp only [s_is_lot, q_var, q_cst, q_glob, q_bin, q_neg, q_cmp, q_chain, q_conj, q_notE, q_ite, q_tup, q_lst, q_dic, q_sub, q_slc, q_rev, q_call, q_callk, q_bi, q_rng, q_isinst, q_app, q_pop, q_popAt, q_lc, q_ex, q_asg, q_par, q_ret, q_ife, q_for, q_while, q_pass, q_brk, q_cont, q_seq1, q_seq2, wpEs, wpC, wpI, wpO, wpO', asgR, asgT, asgTs, peekAll, takeAll, slotAll, setAll, defFin, entry, slotA, List.map_cons, List.map_nil, List.length_cons, List.length_nil, List.cons_append, List.nil_append, List.replicate_succ, List.replicate_zero, List.getElem?_cons_zero, List.getElem?_cons_succ, List.set_cons_zero, List.set_cons_succ, IEs.len, ITs.len, flatR, flatD, if_true, if_false, eq_self, true_and, and_true, Bool.false_eq_true, reduceCtorEq, z_bool, z_peek1, z_peek2, z_peek3, z_take1, z_take2, z_take3, z_slot1, z_slot2, z_slot3, z_slot4, z_ret1, z_ret2, z_ret3, z_arg1, z_arg2, z_arg3, z_arg4, z_arg0, z_frz0, z_frz1, z_frz2, z_frz3, z_frz4, z_lt, z_le, z_gt, z_ge, z_eqi, z_nei, z_eqs, z_nes, z_is, z_isnot, z_add, z_adds, z_addl, z_addt, z_sub, z_mul, z_mull, z_mult, z_fdiv, z_mod, z_pow, z_ixt, z_ixl, z_slct, z_slcl, z_revt, z_revl, z_lent, z_lenl, z_inti, z_intb, z_listl, z_listt, z_tupl, z_tupt, z_itl, z_itt, z_rg1, z_back0, z_back1, z_bs1, z_bs2, z_bs3, z_bs4, z_wipe0, z_wipe1, r3]
      have h : Qd (.im (if isNon (lotErr n x) = true then (if (wh 0 (n - 1) y && (wh 0 (n - 1) z && (ltD y z && (!inD y x && !inD z x)))) = true then .none else .str "places") else .str "lot")) := h
      cases e : isNon (lotErr n x) with
      | false => simpa [e] using h
      | true =>
        simp only [Bool.not_true, Bool.false_eq_true, if_false]
        refine n3 _ ?_
        rw [e] at h
        simp only [if_true] at h
        obtain ⟨ls, rfl, li⟩ := lot_tup e
        refine seq_then fun F4 r4 bb4 cc4 n4 => ?_
        have r4 : F4.rt = Qd := r4
        simp (maxSteps := 1000000) only [q_var, q_cst, q_glob, q_bin, q_neg, q_cmp, q_chain, q_conj, q_notE, q_ite, q_tup, q_lst, q_dic, q_sub, q_slc, q_rev, q_call, q_callk, q_bi, q_rng, q_isinst, q_app, q_pop, q_popAt, q_lc, q_ex, q_asg, q_par, q_ret, q_ife, q_for, q_while, q_pass, q_brk, q_cont, q_seq1, q_seq2, wpEs, wpC, wpI, wpO, wpO', asgR, asgT, asgTs, peekAll, takeAll, slotAll, setAll, defFin, entry, slotA, List.map_cons, List.map_nil, List.length_cons, List.length_nil, List.cons_append, List.nil_append, List.replicate_succ, List.replicate_zero, List.getElem?_cons_zero, List.getElem?_cons_succ, List.set_cons_zero, List.set_cons_succ, IEs.len, ITs.len, flatR, flatD, if_true, if_false, eq_self, true_and, and_true, Bool.false_eq_true, reduceCtorEq, z_bool, z_peek1, z_peek2, z_peek3, z_take1, z_take2, z_take3, z_slot1, z_slot2, z_slot3, z_slot4, z_ret1, z_ret2, z_ret3, z_arg1, z_arg2, z_arg3, z_arg4, z_arg0, z_frz0, z_frz1, z_frz2, z_frz3, z_frz4, z_lt, z_le, z_gt, z_ge, z_eqi, z_nei, z_eqs, z_nes, z_is, z_isnot, z_add, z_adds, z_addl, z_addt, z_sub, z_mul, z_mull, z_mult, z_fdiv, z_mod, z_pow, z_ixt, z_ixl, z_slct, z_slcl, z_revt, z_revl, z_lent, z_lenl, z_inti, z_intb, z_listl, z_listt, z_tupl, z_tupt, z_itl, z_itt, z_rg1, z_back0, z_back1, z_bs1, z_bs2, z_bs3, z_bs4, z_wipe0, z_wipe1, l1, r4]
        refine ⟨rfl, y, _, _, rfl, ?_⟩
        simp only [s_is_whole, q_var, q_cst, q_glob, q_bin, q_neg, q_cmp, q_chain, q_conj, q_notE, q_ite, q_tup, q_lst, q_dic, q_sub, q_slc, q_rev, q_call, q_callk, q_bi, q_rng, q_isinst, q_app, q_pop, q_popAt, q_lc, q_ex, q_asg, q_par, q_ret, q_ife, q_for, q_while, q_pass, q_brk, q_cont, q_seq1, q_seq2, wpEs, wpC, wpI, wpO, wpO', asgR, asgT, asgTs, peekAll, takeAll, slotAll, setAll, defFin, entry, slotA, List.map_cons, List.map_nil, List.length_cons, List.length_nil, List.cons_append, List.nil_append, List.replicate_succ, List.replicate_zero, List.getElem?_cons_zero, List.getElem?_cons_succ, List.set_cons_zero, List.set_cons_succ, IEs.len, ITs.len, flatR, flatD, if_true, if_false, eq_self, true_and, and_true, Bool.false_eq_true, reduceCtorEq, z_bool, z_peek1, z_peek2, z_peek3, z_take1, z_take2, z_take3, z_slot1, z_slot2, z_slot3, z_slot4, z_ret1, z_ret2, z_ret3, z_arg1, z_arg2, z_arg3, z_arg4, z_arg0, z_frz0, z_frz1, z_frz2, z_frz3, z_frz4, z_lt, z_le, z_gt, z_ge, z_eqi, z_nei, z_eqs, z_nes, z_is, z_isnot, z_add, z_adds, z_addl, z_addt, z_sub, z_mul, z_mull, z_mult, z_fdiv, z_mod, z_pow, z_ixt, z_ixl, z_slct, z_slcl, z_revt, z_revl, z_lent, z_lenl, z_inti, z_intb, z_listl, z_listt, z_tupl, z_tupt, z_itl, z_itt, z_rg1, z_back0, z_back1, z_bs1, z_bs2, z_bs3, z_bs4, z_wipe0, z_wipe1, l1, r4]
        have bad : (wh 0 (n - 1) y && (wh 0 (n - 1) z && (ltD y z && (!inD y (.tuple ls) && !inD z (.tuple ls))))) = false → Qd (.im (.str "places")) := fun q => by
          rw [q] at h; simpa using h
        cases ey : wh 0 (n - 1) y with
        | false => simpa [ey] using bad
        | true =>
          simp only [Bool.not_true, if_true]
          refine ⟨z, _, _, rfl, ?_⟩
          cases ez : wh 0 (n - 1) z with
          | false => simpa [ey, ez] using bad
          | true =>
            simp only [Bool.not_true, Bool.false_eq_true, if_true, if_false]
            refine n4 _ ?_
            obtain ⟨i, rfl, i0, i1⟩ := wh_int ey
            obtain ⟨j, rfl, j0, j1⟩ := wh_int ez
            rw [ey, ez] at bad h
            simp only [Bool.true_and] at bad h
            simp only [ltD] at bad h
            simp (maxSteps := 1000000) only [q_var, q_cst, q_glob, q_bin, q_neg, q_cmp, q_chain, q_conj, q_notE, q_ite, q_tup, q_lst, q_dic, q_sub, q_slc, q_rev, q_call, q_callk, q_bi, q_rng, q_isinst, q_app, q_pop, q_popAt, q_lc, q_ex, q_asg, q_par, q_ret, q_ife, q_for, q_while, q_pass, q_brk, q_cont, q_seq1, q_seq2, wpEs, wpC, wpI, wpO, wpO', asgR, asgT, asgTs, peekAll, takeAll, slotAll, setAll, defFin, entry, slotA, List.map_cons, List.map_nil, List.length_cons, List.length_nil, List.cons_append, List.nil_append, List.replicate_succ, List.replicate_zero, List.getElem?_cons_zero, List.getElem?_cons_succ, List.set_cons_zero, List.set_cons_succ, IEs.len, ITs.len, flatR, flatD, if_true, if_false, eq_self, true_and, and_true, Bool.false_eq_true, reduceCtorEq, z_bool, z_peek1, z_peek2, z_peek3, z_take1, z_take2, z_take3, z_slot1, z_slot2, z_slot3, z_slot4, z_ret1, z_ret2, z_ret3, z_arg1, z_arg2, z_arg3, z_arg4, z_arg0, z_frz0, z_frz1, z_frz2, z_frz3, z_frz4, z_lt, z_le, z_gt, z_ge, z_eqi, z_nei, z_eqs, z_nes, z_is, z_isnot, z_add, z_adds, z_addl, z_addt, z_sub, z_mul, z_mull, z_mult, z_fdiv, z_mod, z_pow, z_ixt, z_ixl, z_slct, z_slcl, z_revt, z_revl, z_lent, z_lenl, z_inti, z_intb, z_listl, z_listt, z_tupl, z_tupt, z_itl, z_itt, z_rg1, z_back0, z_back1, z_bs1, z_bs2, z_bs3, z_bs4, z_wipe0, z_wipe1]
            by_cases hij : i < j
            · simp only [hij, decide_true, Bool.true_and] at bad h
              rw [decide_eq_true hij]
              simp only [if_true]
              refine ⟨⟨rfl, shape_ints li⟩, ?_⟩
              cases e1 : inD (.int i) (.tuple ls) with
              | true =>
                have e1 : (ls.any fun z => PyData.eqv z (.int i)) = true := e1
                rw [e1]
                simpa [show inD (.int i) (.tuple ls) = true from e1] using bad
              | false =>
                have e1 : (ls.any fun z => PyData.eqv z (.int i)) = false := e1
                rw [e1]
                simp only [Bool.not_false, if_true]
                refine ⟨⟨rfl, shape_ints li⟩, ?_⟩
                cases e2 : inD (.int j) (.tuple ls) with
                | true =>
                  have e2 : (ls.any fun z => PyData.eqv z (.int j)) = true := e2
                  rw [e2]
                  simpa [show inD (.int i) (.tuple ls) = false from e1, show inD (.int j) (.tuple ls) = true from e2] using bad
                | false =>
                  have e2 : (ls.any fun z => PyData.eqv z (.int j)) = false := e2
                  rw [e2]
                  simpa [show inD (.int i) (.tuple ls) = false from e1, show inD (.int j) (.tuple ls) = false from e2] using h
            · rw [decide_eq_false hij]
              simp only [hij, decide_false, Bool.false_and] at bad h
              simpa using h
    by_cases hn : ds.length = 3
    · match ds, hn with
      | [x, y, z], _ => simpa using go x y z rfl
    · have h' : dErr n (.tuple ds) = .str "form" := by
        match ds, hn with
        | [], _ => rfl
        | [_], _ => rfl
        | [_, _], _ => rfl
        | _ :: _ :: _ :: _ :: _, _ => rfl
      rw [h'] at h
      have hn' : ¬ ((ds.length : Int) = 3) := fun z => hn (by omega)
      simpa [hn'] using h
def s_exchanged : DSpec := ⟨false, ["standing", "deed"], fun as Qd _ => ∃ ns ls a b, as = [.d (.tuple (intsD ns)), .d (deedD ls a b)] ∧ (∀ p ∈ ls, 0 ≤ p ∧ p < ns.length) ∧ (∀ x ∈ ns, 0 ≤ x) ∧ ns.length ≤ 1000 ∧ ls.length ≤ 1000 ∧ 0 ≤ a ∧ a < ns.length ∧ 0 ≤ b ∧ b < ns.length ∧ Qd (.im (.tuple (intsD (doneF ns ls a b))))⟩
theorem nAt_mem {ns : List Int} {i : Int} (h0 : 0 ≤ i) (h1 : i < ns.length) : nAt ns i ∈ ns := by
  unfold nAt
  rw [List.getD_eq_getElem?_getD, List.getElem?_eq_getElem (show i.toNat < ns.length by omega)]
  exact List.getElem_mem _
theorem w_exchanged {Γ : Ctx} : ∀ as Qd Ed, as.length = 2 → s_exchanged.wp as Qd Ed → wpSs Γ (fun x _ => Ed x) i__law_exchanged (entry N__law_exchanged as) (defFin Qd) := by
  rintro as Qd Ed hl ⟨ns, ls, a, b, rfl, hp, hpos, hn, hs, a0, a1, b0, b1, h⟩; clear hl
  have hz : sizeLine = 16777216 := sizeLine_eq
  unfold i__law_exchanged deedD
  
  refine seq_then fun F1 r1 bb1 cc1 n1 => ?_
  simp (maxSteps := 1000000) only [q_var, q_cst, q_glob, q_bin, q_neg, q_cmp, q_chain, q_conj, q_notE, q_ite, q_tup, q_lst, q_dic, q_sub, q_slc, q_rev, q_call, q_callk, q_bi, q_rng, q_isinst, q_app, q_pop, q_popAt, q_lc, q_ex, q_asg, q_par, q_ret, q_ife, q_for, q_while, q_pass, q_brk, q_cont, q_seq1, q_seq2, wpEs, wpC, wpI, wpO, wpO', asgR, asgT, asgTs, peekAll, takeAll, slotAll, setAll, defFin, entry, slotA, List.map_cons, List.map_nil, List.length_cons, List.length_nil, List.cons_append, List.nil_append, List.replicate_succ, List.replicate_zero, List.getElem?_cons_zero, List.getElem?_cons_succ, List.set_cons_zero, List.set_cons_succ, IEs.len, ITs.len, flatR, flatD, if_true, if_false, eq_self, true_and, and_true, Bool.false_eq_true, reduceCtorEq, z_bool, z_peek1, z_peek2, z_peek3, z_take1, z_take2, z_take3, z_slot1, z_slot2, z_slot3, z_slot4, z_ret1, z_ret2, z_ret3, z_arg1, z_arg2, z_arg3, z_arg4, z_arg0, z_frz0, z_frz1, z_frz2, z_frz3, z_frz4, z_lt, z_le, z_gt, z_ge, z_eqi, z_nei, z_eqs, z_nes, z_is, z_isnot, z_add, z_adds, z_addl, z_addt, z_sub, z_mul, z_mull, z_mult, z_fdiv, z_mod, z_pow, z_ixt, z_ixl, z_slct, z_slcl, z_revt, z_revl, z_lent, z_lenl, z_inti, z_intb, z_listl, z_listt, z_tupl, z_tupt, z_itl, z_itt, z_rg1, z_back0, z_back1, z_bs1, z_bs2, z_bs3, z_bs4, z_wipe0, z_wipe1]
  refine n1 _ ?_
  refine seq_then fun F2 r2 bb2 cc2 n2 => ?_
  simp (maxSteps := 1000000) only [q_var, q_cst, q_glob, q_bin, q_neg, q_cmp, q_chain, q_conj, q_notE, q_ite, q_tup, q_lst, q_dic, q_sub, q_slc, q_rev, q_call, q_callk, q_bi, q_rng, q_isinst, q_app, q_pop, q_popAt, q_lc, q_ex, q_asg, q_par, q_ret, q_ife, q_for, q_while, q_pass, q_brk, q_cont, q_seq1, q_seq2, wpEs, wpC, wpI, wpO, wpO', asgR, asgT, asgTs, peekAll, takeAll, slotAll, setAll, defFin, entry, slotA, List.map_cons, List.map_nil, List.length_cons, List.length_nil, List.cons_append, List.nil_append, List.replicate_succ, List.replicate_zero, List.getElem?_cons_zero, List.getElem?_cons_succ, List.set_cons_zero, List.set_cons_succ, IEs.len, ITs.len, flatR, flatD, if_true, if_false, eq_self, true_and, and_true, Bool.false_eq_true, reduceCtorEq, z_bool, z_peek1, z_peek2, z_peek3, z_take1, z_take2, z_take3, z_slot1, z_slot2, z_slot3, z_slot4, z_ret1, z_ret2, z_ret3, z_arg1, z_arg2, z_arg3, z_arg4, z_arg0, z_frz0, z_frz1, z_frz2, z_frz3, z_frz4, z_lt, z_le, z_gt, z_ge, z_eqi, z_nei, z_eqs, z_nes, z_is, z_isnot, z_add, z_adds, z_addl, z_addt, z_sub, z_mul, z_mull, z_mult, z_fdiv, z_mod, z_pow, z_ixt, z_ixl, z_slct, z_slcl, z_revt, z_revl, z_lent, z_lenl, z_inti, z_intb, z_listl, z_listt, z_tupl, z_tupt, z_itl, z_itt, z_rg1, z_back0, z_back1, z_bs1, z_bs2, z_bs3, z_bs4, z_wipe0, z_wipe1]
  refine n2 _ ?_
  refine seq_then fun F3 r3 bb3 cc3 n3 => ?_
  have r3 : F3.rt = Qd := r3
  simp (maxSteps := 1000000) only [q_var, q_cst, q_glob, q_bin, q_neg, q_cmp, q_chain, q_conj, q_notE, q_ite, q_tup, q_lst, q_dic, q_sub, q_slc, q_rev, q_call, q_callk, q_bi, q_rng, q_isinst, q_app, q_pop, q_popAt, q_lc, q_ex, q_asg, q_par, q_ret, q_ife, q_for, q_while, q_pass, q_brk, q_cont, q_seq1, q_seq2, wpEs, wpC, wpI, wpO, wpO', asgR, asgT, asgTs, peekAll, takeAll, slotAll, setAll, defFin, entry, slotA, List.map_cons, List.map_nil, List.length_cons, List.length_nil, List.cons_append, List.nil_append, List.replicate_succ, List.replicate_zero, List.getElem?_cons_zero, List.getElem?_cons_succ, List.set_cons_zero, List.set_cons_succ, IEs.len, ITs.len, flatR, flatD, if_true, if_false, eq_self, true_and, and_true, Bool.false_eq_true, reduceCtorEq, z_bool, z_peek1, z_peek2, z_peek3, z_take1, z_take2, z_take3, z_slot1, z_slot2, z_slot3, z_slot4, z_ret1, z_ret2, z_ret3, z_arg1, z_arg2, z_arg3, z_arg4, z_arg0, z_frz0, z_frz1, z_frz2, z_frz3, z_frz4, z_lt, z_le, z_gt, z_ge, z_eqi, z_nei, z_eqs, z_nes, z_is, z_isnot, z_add, z_adds, z_addl, z_addt, z_sub, z_mul, z_mull, z_mult, z_fdiv, z_mod, z_pow, z_ixt, z_ixl, z_slct, z_slcl, z_revt, z_revl, z_lent, z_lenl, z_inti, z_intb, z_listl, z_listt, z_tupl, z_tupt, z_itl, z_itt, z_rg1, z_back0, z_back1, z_bs1, z_bs2, z_bs3, z_bs4, z_wipe0, z_wipe1, r3]
  refine ⟨by rw [intsD_len]; omega, by rw [intsD_len]; omega, ?_⟩
  generalize hst : stepF _ _ _ _ = st
  refine lc_fm (oI fun i => if decide (0 < nAt ns i) = true then some (.int 1) else none) _ [] (fun d hd Kk hk => ?_) ?_
  · obtain ⟨p, hp', rfl⟩ := List.mem_map.mp hd
    rw [← hst, stepF_at]
    simp (maxSteps := 1000000) only [q_var, q_cst, q_glob, q_bin, q_neg, q_cmp, q_chain, q_conj, q_notE, q_ite, q_tup, q_lst, q_dic, q_sub, q_slc, q_rev, q_call, q_callk, q_bi, q_rng, q_isinst, q_app, q_pop, q_popAt, q_lc, q_ex, q_asg, q_par, q_ret, q_ife, q_for, q_while, q_pass, q_brk, q_cont, q_seq1, q_seq2, wpEs, wpC, wpI, wpO, wpO', asgR, asgT, asgTs, peekAll, takeAll, slotAll, setAll, defFin, entry, slotA, List.map_cons, List.map_nil, List.length_cons, List.length_nil, List.cons_append, List.nil_append, List.replicate_succ, List.replicate_zero, List.getElem?_cons_zero, List.getElem?_cons_succ, List.set_cons_zero, List.set_cons_succ, IEs.len, ITs.len, flatR, flatD, if_true, if_false, eq_self, true_and, and_true, Bool.false_eq_true, reduceCtorEq, z_bool, z_peek1, z_peek2, z_peek3, z_take1, z_take2, z_take3, z_slot1, z_slot2, z_slot3, z_slot4, z_ret1, z_ret2, z_ret3, z_arg1, z_arg2, z_arg3, z_arg4, z_arg0, z_frz0, z_frz1, z_frz2, z_frz3, z_frz4, z_lt, z_le, z_gt, z_ge, z_eqi, z_nei, z_eqs, z_nes, z_is, z_isnot, z_add, z_adds, z_addl, z_addt, z_sub, z_mul, z_mull, z_mult, z_fdiv, z_mod, z_pow, z_ixt, z_ixl, z_slct, z_slcl, z_revt, z_revl, z_lent, z_lenl, z_inti, z_intb, z_listl, z_listt, z_tupl, z_tupt, z_itl, z_itt, z_rg1, z_back0, z_back1, z_bs1, z_bs2, z_bs3, z_bs4, z_wipe0, z_wipe1]
    rw [atI_ints (hp p hp').1 (hp p hp').2]
    simp (maxSteps := 1000000) only [q_var, q_cst, q_glob, q_bin, q_neg, q_cmp, q_chain, q_conj, q_notE, q_ite, q_tup, q_lst, q_dic, q_sub, q_slc, q_rev, q_call, q_callk, q_bi, q_rng, q_isinst, q_app, q_pop, q_popAt, q_lc, q_ex, q_asg, q_par, q_ret, q_ife, q_for, q_while, q_pass, q_brk, q_cont, q_seq1, q_seq2, wpEs, wpC, wpI, wpO, wpO', asgR, asgT, asgTs, peekAll, takeAll, slotAll, setAll, defFin, entry, slotA, List.map_cons, List.map_nil, List.length_cons, List.length_nil, List.cons_append, List.nil_append, List.replicate_succ, List.replicate_zero, List.getElem?_cons_zero, List.getElem?_cons_succ, List.set_cons_zero, List.set_cons_succ, IEs.len, ITs.len, flatR, flatD, if_true, if_false, eq_self, true_and, and_true, Bool.false_eq_true, reduceCtorEq, z_bool, z_peek1, z_peek2, z_peek3, z_take1, z_take2, z_take3, z_slot1, z_slot2, z_slot3, z_slot4, z_ret1, z_ret2, z_ret3, z_arg1, z_arg2, z_arg3, z_arg4, z_arg0, z_frz0, z_frz1, z_frz2, z_frz3, z_frz4, z_lt, z_le, z_gt, z_ge, z_eqi, z_nei, z_eqs, z_nes, z_is, z_isnot, z_add, z_adds, z_addl, z_addt, z_sub, z_mul, z_mull, z_mult, z_fdiv, z_mod, z_pow, z_ixt, z_ixl, z_slct, z_slcl, z_revt, z_revl, z_lent, z_lenl, z_inti, z_intb, z_listl, z_listt, z_tupl, z_tupt, z_itl, z_itt, z_rg1, z_back0, z_back1, z_bs1, z_bs2, z_bs3, z_bs4, z_wipe0, z_wipe1]
    have hk := hk [.im (.tuple (intsD ns)), .im (.tuple [.tuple (intsD ls), .int a, .int b]), .ow (.list (intsD ns)), .im (.tuple (intsD ls)), .im (.int a), .im (.int b), .im (.int p)] rfl
    have hk : Kk (if decide (0 < nAt ns p) = true then some (.int 1) else none) _ := hk
    split
    · rename_i c; rw [if_pos c] at hk; exact hk
    · rename_i c; rw [if_neg c] at hk; exact hk
  rw [List.nil_append, show intsD ls = ls.map PyData.int from rfl, fm_oI]
  refine ⟨by decide, z_eq0 ?_⟩
  have ee : (ls.filterMap fun i => if decide (0 < nAt ns i) = true then some (PyData.int 1) else none).isEmpty = !(ls.any fun p => !decide (nAt ns p = 0)) := by
    clear h hst hs
    induction ls with
    | nil => rfl
    | cons x xs ih =>
      have ih := ih fun p hp' => hp p (List.mem_cons_of_mem _ hp')
      have hx := hp x List.mem_cons_self
      have hx0 := hpos _ (nAt_mem hx.1 hx.2)
      rw [List.filterMap_cons, List.any_cons]
      by_cases c : nAt ns x = 0
      · rw [if_neg (by rw [c]; decide), c]; simpa using ih
      · rw [if_pos (decide_eq_true (by omega)), decide_eq_false c]; rfl
  rw [ee]
  have h : Qd (.im (.tuple (intsD (if (ls.any fun p => !decide (nAt ns p = 0)) = true then ns else swapI ns a b)))) := h
  simp (maxSteps := 1000000) only [q_var, q_cst, q_glob, q_bin, q_neg, q_cmp, q_chain, q_conj, q_notE, q_ite, q_tup, q_lst, q_dic, q_sub, q_slc, q_rev, q_call, q_callk, q_bi, q_rng, q_isinst, q_app, q_pop, q_popAt, q_lc, q_ex, q_asg, q_par, q_ret, q_ife, q_for, q_while, q_pass, q_brk, q_cont, q_seq1, q_seq2, wpEs, wpC, wpI, wpO, wpO', asgR, asgT, asgTs, peekAll, takeAll, slotAll, setAll, defFin, entry, slotA, List.map_cons, List.map_nil, List.length_cons, List.length_nil, List.cons_append, List.nil_append, List.replicate_succ, List.replicate_zero, List.getElem?_cons_zero, List.getElem?_cons_succ, List.set_cons_zero, List.set_cons_succ, IEs.len, ITs.len, flatR, flatD, if_true, if_false, eq_self, true_and, and_true, Bool.false_eq_true, reduceCtorEq, z_bool, z_peek1, z_peek2, z_peek3, z_take1, z_take2, z_take3, z_slot1, z_slot2, z_slot3, z_slot4, z_ret1, z_ret2, z_ret3, z_arg1, z_arg2, z_arg3, z_arg4, z_arg0, z_frz0, z_frz1, z_frz2, z_frz3, z_frz4, z_lt, z_le, z_gt, z_ge, z_eqi, z_nei, z_eqs, z_nes, z_is, z_isnot, z_add, z_adds, z_addl, z_addt, z_sub, z_mul, z_mull, z_mult, z_fdiv, z_mod, z_pow, z_ixt, z_ixl, z_slct, z_slcl, z_revt, z_revl, z_lent, z_lenl, z_inti, z_intb, z_listl, z_listt, z_tupl, z_tupt, z_itl, z_itt, z_rg1, z_back0, z_back1, z_bs1, z_bs2, z_bs3, z_bs4, z_wipe0, z_wipe1]
  cases e : ls.any fun p => !decide (nAt ns p = 0) with
  | true =>
    rw [e] at h
    simp only [Bool.not_true, Bool.false_eq_true, if_false]
    refine n3 _ ?_
    simp (maxSteps := 1000000) only [q_var, q_cst, q_glob, q_bin, q_neg, q_cmp, q_chain, q_conj, q_notE, q_ite, q_tup, q_lst, q_dic, q_sub, q_slc, q_rev, q_call, q_callk, q_bi, q_rng, q_isinst, q_app, q_pop, q_popAt, q_lc, q_ex, q_asg, q_par, q_ret, q_ife, q_for, q_while, q_pass, q_brk, q_cont, q_seq1, q_seq2, wpEs, wpC, wpI, wpO, wpO', asgR, asgT, asgTs, peekAll, takeAll, slotAll, setAll, defFin, entry, slotA, List.map_cons, List.map_nil, List.length_cons, List.length_nil, List.cons_append, List.nil_append, List.replicate_succ, List.replicate_zero, List.getElem?_cons_zero, List.getElem?_cons_succ, List.set_cons_zero, List.set_cons_succ, IEs.len, ITs.len, flatR, flatD, if_true, if_false, eq_self, true_and, and_true, Bool.false_eq_true, reduceCtorEq, z_bool, z_peek1, z_peek2, z_peek3, z_take1, z_take2, z_take3, z_slot1, z_slot2, z_slot3, z_slot4, z_ret1, z_ret2, z_ret3, z_arg1, z_arg2, z_arg3, z_arg4, z_arg0, z_frz0, z_frz1, z_frz2, z_frz3, z_frz4, z_lt, z_le, z_gt, z_ge, z_eqi, z_nei, z_eqs, z_nes, z_is, z_isnot, z_add, z_adds, z_addl, z_addt, z_sub, z_mul, z_mull, z_mult, z_fdiv, z_mod, z_pow, z_ixt, z_ixl, z_slct, z_slcl, z_revt, z_revl, z_lent, z_lenl, z_inti, z_intb, z_listl, z_listt, z_tupl, z_tupt, z_itl, z_itt, z_rg1, z_back0, z_back1, z_bs1, z_bs2, z_bs3, z_bs4, z_wipe0, z_wipe1]
    exact h
  | false =>
    rw [e] at h
    simp only [Bool.false_eq_true, if_false, Bool.not_false, if_true] at h ⊢
    rw [atI_ints a0 a1, atI_ints b0 b1]
    simp (maxSteps := 1000000) only [q_var, q_cst, q_glob, q_bin, q_neg, q_cmp, q_chain, q_conj, q_notE, q_ite, q_tup, q_lst, q_dic, q_sub, q_slc, q_rev, q_call, q_callk, q_bi, q_rng, q_isinst, q_app, q_pop, q_popAt, q_lc, q_ex, q_asg, q_par, q_ret, q_ife, q_for, q_while, q_pass, q_brk, q_cont, q_seq1, q_seq2, wpEs, wpC, wpI, wpO, wpO', asgR, asgT, asgTs, peekAll, takeAll, slotAll, setAll, defFin, entry, slotA, List.map_cons, List.map_nil, List.length_cons, List.length_nil, List.cons_append, List.nil_append, List.replicate_succ, List.replicate_zero, List.getElem?_cons_zero, List.getElem?_cons_succ, List.set_cons_zero, List.set_cons_succ, IEs.len, ITs.len, flatR, flatD, if_true, if_false, eq_self, true_and, and_true, Bool.false_eq_true, reduceCtorEq, z_bool, z_peek1, z_peek2, z_peek3, z_take1, z_take2, z_take3, z_slot1, z_slot2, z_slot3, z_slot4, z_ret1, z_ret2, z_ret3, z_arg1, z_arg2, z_arg3, z_arg4, z_arg0, z_frz0, z_frz1, z_frz2, z_frz3, z_frz4, z_lt, z_le, z_gt, z_ge, z_eqi, z_nei, z_eqs, z_nes, z_is, z_isnot, z_add, z_adds, z_addl, z_addt, z_sub, z_mul, z_mull, z_mult, z_fdiv, z_mod, z_pow, z_ixt, z_ixl, z_slct, z_slcl, z_revt, z_revl, z_lent, z_lenl, z_inti, z_intb, z_listl, z_listt, z_tupl, z_tupt, z_itl, z_itt, z_rg1, z_back0, z_back1, z_bs1, z_bs2, z_bs3, z_bs4, z_wipe0, z_wipe1]
    rw [ix_at a0 (by rw [intsD_len]; exact a1)]
    refine ⟨by decide, ⟨_, rfl⟩, ?_⟩
    dsimp only
    rw [intsD_set, ix_at b0 (by rw [intsD_len, List.length_set]; exact b1)]
    refine ⟨⟨_, rfl⟩, ?_⟩
    dsimp only
    rw [intsD_set]
    refine n3 _ ?_
    simp (maxSteps := 1000000) only [q_var, q_cst, q_glob, q_bin, q_neg, q_cmp, q_chain, q_conj, q_notE, q_ite, q_tup, q_lst, q_dic, q_sub, q_slc, q_rev, q_call, q_callk, q_bi, q_rng, q_isinst, q_app, q_pop, q_popAt, q_lc, q_ex, q_asg, q_par, q_ret, q_ife, q_for, q_while, q_pass, q_brk, q_cont, q_seq1, q_seq2, wpEs, wpC, wpI, wpO, wpO', asgR, asgT, asgTs, peekAll, takeAll, slotAll, setAll, defFin, entry, slotA, List.map_cons, List.map_nil, List.length_cons, List.length_nil, List.cons_append, List.nil_append, List.replicate_succ, List.replicate_zero, List.getElem?_cons_zero, List.getElem?_cons_succ, List.set_cons_zero, List.set_cons_succ, IEs.len, ITs.len, flatR, flatD, if_true, if_false, eq_self, true_and, and_true, Bool.false_eq_true, reduceCtorEq, z_bool, z_peek1, z_peek2, z_peek3, z_take1, z_take2, z_take3, z_slot1, z_slot2, z_slot3, z_slot4, z_ret1, z_ret2, z_ret3, z_arg1, z_arg2, z_arg3, z_arg4, z_arg0, z_frz0, z_frz1, z_frz2, z_frz3, z_frz4, z_lt, z_le, z_gt, z_ge, z_eqi, z_nei, z_eqs, z_nes, z_is, z_isnot, z_add, z_adds, z_addl, z_addt, z_sub, z_mul, z_mull, z_mult, z_fdiv, z_mod, z_pow, z_ixt, z_ixl, z_slct, z_slcl, z_revt, z_revl, z_lent, z_lenl, z_inti, z_intb, z_listl, z_listt, z_tupl, z_tupt, z_itl, z_itt, z_rg1, z_back0, z_back1, z_bs1, z_bs2, z_bs3, z_bs4, z_wipe0, z_wipe1]
    exact h
def s_spoilt : DSpec := ⟨false, ["deck", "many", "deed"], fun as Qd _ => ∃ m ls a b, as = [.dk, .d (.int m), .d (deedD ls a b)] ∧ 3 ≤ m ∧ m ≤ 30 ∧ Deed m ls a b ∧ ∀ v, sm 3 v → Qd (.im v)⟩
theorem sm_lot {m : Int} {ls : List Int} {a b : Int} (h : Deed m ls a b) (m30 : m ≤ 30) : sm 1 (.tuple (intsD ls)) := by
  have := h.len
  refine sm_tuple (by rw [intsD_len]; simp only [lim]; omega) (sm_ints fun i hi => ?_)
  have := h.own i hi
  omega
end K05
end KR

end
section
set_option Elab.async false
set_option linter.all false
set_option maxRecDepth 100000
set_option maxHeartbeats 4000000
namespace KR
open PySem PySem.Spec PyProof.Rows L2
namespace K05
theorem w_spoilt {Γ : Ctx} (l1 : Γ.fns.lookup ("_law_draw" : Str) = some drawS) (l2 : Γ.fns.lookup ("_law_pick" : Str) = some s_pick) : ∀ as Qd Ed, as.length = 3 → s_spoilt.wp as Qd Ed → wpSs Γ (fun x _ => Ed x) i__law_spoilt (entry N__law_spoilt as) (defFin Qd) := by
  rintro as Qd Ed hl ⟨m, ls, a, b, rfl, m3, m30, hD, h⟩; clear hl
  have hz : sizeLine = 16777216 := sizeLine_eq
  have lotS := sm_lot hD m30
  have ab := hD.ab
  have a0 := hD.a0
  have bm := hD.bm
  have ll := hD.len
  have lI : ∀ d ∈ intsD ls, sm 0 d := sm_ints fun i hi => by have := hD.own i hi; omega
  have lJ : ∀ d ∈ intsD ls, ∃ i : Int, d = .int i ∧ 0 ≤ i ∧ i < m := fun d hd => by
    obtain ⟨i, hi, rfl⟩ := List.mem_map.mp hd
    have := hD.own i hi
    exact ⟨i, rfl, this.1, this.2.1⟩
  have dS : sm 2 (deedD ls a b) := by unfold deedD; repeat' first | exact sm_non | exact sm_bool | exact sm_d0 | exact sm_l0 | exact sm_t0 | exact sm_big | exact sm_1 (by assumption) | exact sm_2 (by assumption) | exact sm_3 (by assumption) | (refine sm_int ?_ ?_ <;> omega) | exact sm_str (by decide +kernel) | exact all_nil | refine all_cons ?_ ?_ | refine sm_list (by simp [lim]) ?_ | refine sm_tuple (by simp [lim]) ?_
  have llen : (intsD ls).length ≤ 30 := by rw [intsD_len]; omega
  have l_rev : sm 1 (.tuple (intsD ls).reverse) := sm_tuple (by simp only [lim, List.length_reverse]; omega) fun d hd => lI d (List.mem_reverse.mp hd)
  have l_l : sm 1 (.list (intsD ls)) := sm_list (by simp only [lim]; omega) lI
  have l_m : sm 1 (.tuple (intsD ls ++ [.int m])) := sm_tuple (by simp only [lim, List.length_append, List.length_singleton]; omega) fun d hd => by
    rcases List.mem_append.mp hd with z | z
    · exact lI d z
    · rw [List.mem_singleton.mp z]; repeat' first | exact sm_non | exact sm_bool | exact sm_d0 | exact sm_l0 | exact sm_t0 | exact sm_big | exact sm_1 (by assumption) | exact sm_2 (by assumption) | exact sm_3 (by assumption) | (refine sm_int ?_ ?_ <;> omega) | exact sm_str (by decide +kernel) | exact all_nil | refine all_cons ?_ ?_ | refine sm_list (by simp [lim]) ?_ | refine sm_tuple (by simp [lim]) ?_
  have l_d : sm 1 (.tuple (intsD ls ++ intsD ls)) := sm_tuple (by simp only [lim, List.length_append]; omega) fun d hd => by
    rcases List.mem_append.mp hd with z | z <;> exact lI d z
  unfold i__law_spoilt
  unfold deedD at dS ⊢
  have lSh : SeqAt.shaped (.tuple (intsD ls)) = true := shape_ints intsD_isI
  generalize intsD ls = L at *
  
  refine seq_then fun F1 r1 bb1 cc1 n1 => ?_
  simp (maxSteps := 1000000) only [↓V0, ↓V1, ↓V2, ↓VS0, ↓VS1, ↓VS2, ↓VS3, ↓VS4, ↓VS5, ↓VS6, ↓VS7, ↓VS8, ↓VS9, ↓VS10, ↓VS11, ↓VS12, ↓VZ0, ↓VE0, defFin, entry, slotA, List.map_cons, List.map_nil, List.length_cons, List.length_nil, List.cons_append, List.nil_append, List.replicate_succ, List.replicate_zero, List.getElem?_cons_zero, List.getElem?_cons_succ, flatR, flatD, if_true, if_false, eq_self, true_and, and_true, Bool.false_eq_true, reduceCtorEq, z_bs1, z_bs2, z_bs3, z_bs4, z_wipe0, z_wipe1, List.set_cons_zero, List.set_cons_succ]
  refine n1 _ ?_
  refine seq_then fun F2 r2 bb2 cc2 n2 => ?_
  simp (maxSteps := 1000000) only [↓V0, ↓V1, ↓V2, ↓VS0, ↓VS1, ↓VS2, ↓VS3, ↓VS4, ↓VS5, ↓VS6, ↓VS7, ↓VS8, ↓VS9, ↓VS10, ↓VS11, ↓VS12, ↓VZ0, ↓VE0, defFin, entry, slotA, List.map_cons, List.map_nil, List.length_cons, List.length_nil, List.cons_append, List.nil_append, List.replicate_succ, List.replicate_zero, List.getElem?_cons_zero, List.getElem?_cons_succ, flatR, flatD, if_true, if_false, eq_self, true_and, and_true, Bool.false_eq_true, reduceCtorEq, z_bs1, z_bs2, z_bs3, z_bs4, z_wipe0, z_wipe1, List.set_cons_zero, List.set_cons_succ, ↓V_call l1, ↓k_draw]
  refine ⟨by decide, fun w w0 w8 => ⟨by omega, fun p p0 pm => ?_⟩⟩
  refine n2 _ ?_
  refine seq_then fun F3 r3 bb3 cc3 n3 => ?_
  simp (maxSteps := 1000000) only [↓V0, ↓V1, ↓V2, ↓VS0, ↓VS1, ↓VS2, ↓VS3, ↓VS4, ↓VS5, ↓VS6, ↓VS7, ↓VS8, ↓VS9, ↓VS10, ↓VS11, ↓VS12, ↓VZ0, ↓VE0, defFin, entry, slotA, List.map_cons, List.map_nil, List.length_cons, List.length_nil, List.cons_append, List.nil_append, List.replicate_succ, List.replicate_zero, List.getElem?_cons_zero, List.getElem?_cons_succ, flatR, flatD, if_true, if_false, eq_self, true_and, and_true, Bool.false_eq_true, reduceCtorEq, z_bs1, z_bs2, z_bs3, z_bs4, z_wipe0, z_wipe1, List.set_cons_zero, List.set_cons_succ]
  repeat (refine ⟨by first | omega | decide | (simp; done), ?_⟩)
  refine n3 _ ?_
  generalize hO : [PyData.int m, _, _, _, _, _, _, _, _, _, _, _, _] = odd
  have oS : odd ≠ [] ∧ odd.length ≤ 100 ∧ ∀ d ∈ odd, sm 2 d := by
    rw [← hO]
    refine ⟨by simp, by simp, ?_⟩
    repeat' first | exact sm_non | exact sm_bool | exact sm_d0 | exact sm_l0 | exact sm_t0 | exact sm_big | exact sm_1 (by assumption) | exact sm_2 (by assumption) | exact sm_3 (by assumption) | (refine sm_int ?_ ?_ <;> omega) | exact sm_str (by decide +kernel) | exact all_nil | refine all_cons ?_ ?_ | refine sm_list (by simp [lim]) ?_ | refine sm_tuple (by simp [lim]) ?_
  clear hO
  obtain ⟨o1, o2, o3⟩ := oS
  refine seq_then fun F4 r4 bb4 cc4 n4 => ?_
  have r4 : F4.rt = Qd := r4
  refine ife_eq rfl (fun c0 => ?_) (fun c0 => n4 _ ?_)
  · simp (maxSteps := 1000000) only [↓V0, ↓V1, ↓V2, ↓VS0, ↓VS1, ↓VS2, ↓VS3, ↓VS4, ↓VS5, ↓VS6, ↓VS7, ↓VS8, ↓VS9, ↓VS10, ↓VS11, ↓VS12, ↓VZ0, ↓VE0, defFin, entry, slotA, List.map_cons, List.map_nil, List.length_cons, List.length_nil, List.cons_append, List.nil_append, List.replicate_succ, List.replicate_zero, List.getElem?_cons_zero, List.getElem?_cons_succ, flatR, flatD, if_true, if_false, eq_self, true_and, and_true, Bool.false_eq_true, reduceCtorEq, z_bs1, z_bs2, z_bs3, z_bs4, z_wipe0, z_wipe1, List.set_cons_zero, List.set_cons_succ, r4]
    exact ⟨by decide, h _ (by repeat' first | exact sm_non | exact sm_bool | exact sm_d0 | exact sm_l0 | exact sm_t0 | exact sm_big | exact sm_1 (by assumption) | exact sm_2 (by assumption) | exact sm_3 (by assumption) | (refine sm_int ?_ ?_ <;> omega) | exact sm_str (by decide +kernel) | exact all_nil | refine all_cons ?_ ?_ | refine sm_list (by simp [lim]) ?_ | refine sm_tuple (by simp [lim]) ?_)⟩
  clear c0
  refine seq_then fun F5 r5 bb5 cc5 n5 => ?_
  have r5 : F5.rt = Qd := r5
  refine ife_eq rfl (fun c0 => ?_) (fun c0 => n5 _ ?_)
  · simp (maxSteps := 1000000) only [↓V0, ↓V1, ↓V2, ↓VS0, ↓VS1, ↓VS2, ↓VS3, ↓VS4, ↓VS5, ↓VS6, ↓VS7, ↓VS8, ↓VS9, ↓VS10, ↓VS11, ↓VS12, ↓VZ0, ↓VE0, defFin, entry, slotA, List.map_cons, List.map_nil, List.length_cons, List.length_nil, List.cons_append, List.nil_append, List.replicate_succ, List.replicate_zero, List.getElem?_cons_zero, List.getElem?_cons_succ, flatR, flatD, if_true, if_false, eq_self, true_and, and_true, Bool.false_eq_true, reduceCtorEq, z_bs1, z_bs2, z_bs3, z_bs4, z_wipe0, z_wipe1, List.set_cons_zero, List.set_cons_succ, ↓z_eqt, r5]
    refine ⟨by decide, lSh, ?_⟩
    cases L with
    | nil =>
      simp (maxSteps := 1000000) only [↓V0, ↓V1, ↓V2, ↓VS0, ↓VS1, ↓VS2, ↓VS3, ↓VS4, ↓VS5, ↓VS6, ↓VS7, ↓VS8, ↓VS9, ↓VS10, ↓VS11, ↓VS12, ↓VZ0, ↓VE0, defFin, entry, slotA, List.map_cons, List.map_nil, List.length_cons, List.length_nil, List.cons_append, List.nil_append, List.replicate_succ, List.replicate_zero, List.getElem?_cons_zero, List.getElem?_cons_succ, flatR, flatD, if_true, if_false, eq_self, true_and, and_true, Bool.false_eq_true, reduceCtorEq, z_bs1, z_bs2, z_bs3, z_bs4, z_wipe0, z_wipe1, List.set_cons_zero, List.set_cons_succ, List.isEmpty_nil, r5]
      exact ⟨by decide, h _ (by repeat' first | exact sm_non | exact sm_bool | exact sm_d0 | exact sm_l0 | exact sm_t0 | exact sm_big | exact sm_1 (by assumption) | exact sm_2 (by assumption) | exact sm_3 (by assumption) | (refine sm_int ?_ ?_ <;> omega) | exact sm_str (by decide +kernel) | exact all_nil | refine all_cons ?_ ?_ | refine sm_list (by simp [lim]) ?_ | refine sm_tuple (by simp [lim]) ?_)⟩
    | cons x xs =>
      obtain ⟨i, rfl, i0, im⟩ := lJ x List.mem_cons_self
      have e0 : atI (PyData.int i :: xs) 0 = some (.int i) := atI_nat (k := 0) rfl
      simp (maxSteps := 1000000) only [↓V0, ↓V1, ↓V2, ↓VS0, ↓VS1, ↓VS2, ↓VS3, ↓VS4, ↓VS5, ↓VS6, ↓VS7, ↓VS8, ↓VS9, ↓VS10, ↓VS11, ↓VS12, ↓VZ0, ↓VE0, defFin, entry, slotA, List.map_cons, List.map_nil, List.length_cons, List.length_nil, List.cons_append, List.nil_append, List.replicate_succ, List.replicate_zero, List.getElem?_cons_zero, List.getElem?_cons_succ, flatR, flatD, if_true, if_false, eq_self, true_and, and_true, Bool.false_eq_true, reduceCtorEq, z_bs1, z_bs2, z_bs3, z_bs4, z_wipe0, z_wipe1, List.set_cons_zero, List.set_cons_succ, List.isEmpty_cons, ↓e0, r5]
      refine ⟨by decide, h _ ?_⟩
      have e1 : ∀ c : Prop, [Decidable c] → -(10 ^ 33) < (if c then b else i) ∧ (if c then b else i) < 10 ^ 33 := fun c _ => by split <;> omega
      have e2 : ∀ c : Prop, [Decidable c] → sm 1 (.int (if c then b else i)) := fun c _ => sm_int (e1 c).1 (e1 c).2
      refine sm_up (sm_tuple (by simp [lim]) (all_cons lotS (all_cons (e2 _) (all_cons (e2 _) all_nil))))
  clear c0
  refine seq_then fun F6 r6 bb6 cc6 n6 => ?_
  have r6 : F6.rt = Qd := r6
  refine ife_eq rfl (fun c0 => ?_) (fun c0 => n6 _ ?_)
  · simp (maxSteps := 1000000) only [↓V0, ↓V1, ↓V2, ↓VS0, ↓VS1, ↓VS2, ↓VS3, ↓VS4, ↓VS5, ↓VS6, ↓VS7, ↓VS8, ↓VS9, ↓VS10, ↓VS11, ↓VS12, ↓VZ0, ↓VE0, defFin, entry, slotA, List.map_cons, List.map_nil, List.length_cons, List.length_nil, List.cons_append, List.nil_append, List.replicate_succ, List.replicate_zero, List.getElem?_cons_zero, List.getElem?_cons_succ, flatR, flatD, if_true, if_false, eq_self, true_and, and_true, Bool.false_eq_true, reduceCtorEq, z_bs1, z_bs2, z_bs3, z_bs4, z_wipe0, z_wipe1, List.set_cons_zero, List.set_cons_succ, ↓V_call l2, ↓k_pick, r6]
    refine ⟨o1, by omega, fun d hd => ?_⟩
    have := o3 d hd
    exact ⟨by decide, h _ (by repeat' first | exact sm_non | exact sm_bool | exact sm_d0 | exact sm_l0 | exact sm_t0 | exact sm_big | exact sm_1 (by assumption) | exact sm_2 (by assumption) | exact sm_3 (by assumption) | (refine sm_int ?_ ?_ <;> omega) | exact sm_str (by decide +kernel) | exact all_nil | refine all_cons ?_ ?_ | refine sm_list (by simp [lim]) ?_ | refine sm_tuple (by simp [lim]) ?_)⟩
  clear c0
  refine seq_then fun F7 r7 bb7 cc7 n7 => ?_
  have r7 : F7.rt = Qd := r7
  refine ife_eq rfl (fun c0 => ?_) (fun c0 => n7 _ ?_)
  · simp (maxSteps := 1000000) only [↓V0, ↓V1, ↓V2, ↓VS0, ↓VS1, ↓VS2, ↓VS3, ↓VS4, ↓VS5, ↓VS6, ↓VS7, ↓VS8, ↓VS9, ↓VS10, ↓VS11, ↓VS12, ↓VZ0, ↓VE0, defFin, entry, slotA, List.map_cons, List.map_nil, List.length_cons, List.length_nil, List.cons_append, List.nil_append, List.replicate_succ, List.replicate_zero, List.getElem?_cons_zero, List.getElem?_cons_succ, flatR, flatD, if_true, if_false, eq_self, true_and, and_true, Bool.false_eq_true, reduceCtorEq, z_bs1, z_bs2, z_bs3, z_bs4, z_wipe0, z_wipe1, List.set_cons_zero, List.set_cons_succ, ↓V_call l2, ↓k_pick, r7]
    refine ⟨o1, by omega, fun d hd => ?_⟩
    have := o3 d hd
    exact ⟨by decide, h _ (by repeat' first | exact sm_non | exact sm_bool | exact sm_d0 | exact sm_l0 | exact sm_t0 | exact sm_big | exact sm_1 (by assumption) | exact sm_2 (by assumption) | exact sm_3 (by assumption) | (refine sm_int ?_ ?_ <;> omega) | exact sm_str (by decide +kernel) | exact all_nil | refine all_cons ?_ ?_ | refine sm_list (by simp [lim]) ?_ | refine sm_tuple (by simp [lim]) ?_)⟩
  clear c0
  refine seq_then fun F8 r8 bb8 cc8 n8 => ?_
  have r8 : F8.rt = Qd := r8
  refine ife_eq rfl (fun c0 => ?_) (fun c0 => n8 _ ?_)
  · simp (maxSteps := 1000000) only [↓V0, ↓V1, ↓V2, ↓VS0, ↓VS1, ↓VS2, ↓VS3, ↓VS4, ↓VS5, ↓VS6, ↓VS7, ↓VS8, ↓VS9, ↓VS10, ↓VS11, ↓VS12, ↓VZ0, ↓VE0, defFin, entry, slotA, List.map_cons, List.map_nil, List.length_cons, List.length_nil, List.cons_append, List.nil_append, List.replicate_succ, List.replicate_zero, List.getElem?_cons_zero, List.getElem?_cons_succ, flatR, flatD, if_true, if_false, eq_self, true_and, and_true, Bool.false_eq_true, reduceCtorEq, z_bs1, z_bs2, z_bs3, z_bs4, z_wipe0, z_wipe1, List.set_cons_zero, List.set_cons_succ, ↓V_call l2, ↓k_pick, r8]
    repeat (refine ⟨by first | omega | decide | (simp; done), ?_⟩)
    intro d hd
    have := (show ∀ d ∈ [PyData.list L, _, _, _, _, _, _, _], sm 2 d by repeat' first | exact sm_non | exact sm_bool | exact sm_d0 | exact sm_l0 | exact sm_t0 | exact sm_big | exact sm_1 (by assumption) | exact sm_2 (by assumption) | exact sm_3 (by assumption) | (refine sm_int ?_ ?_ <;> omega) | exact sm_str (by decide +kernel) | exact all_nil | refine all_cons ?_ ?_ | refine sm_list (by simp [lim]) ?_ | refine sm_tuple (by simp [lim]) ?_) d hd
    exact ⟨by decide, h _ (by repeat' first | exact sm_non | exact sm_bool | exact sm_d0 | exact sm_l0 | exact sm_t0 | exact sm_big | exact sm_1 (by assumption) | exact sm_2 (by assumption) | exact sm_3 (by assumption) | (refine sm_int ?_ ?_ <;> omega) | exact sm_str (by decide +kernel) | exact all_nil | refine all_cons ?_ ?_ | refine sm_list (by simp [lim]) ?_ | refine sm_tuple (by simp [lim]) ?_)⟩
  clear c0
  refine seq_then fun F9 r9 bb9 cc9 n9 => ?_
  have r9 : F9.rt = Qd := r9
  refine ife_eq rfl (fun c0 => ?_) (fun c0 => n9 _ ?_)
  · simp (maxSteps := 1000000) only [↓V0, ↓V1, ↓V2, ↓VS0, ↓VS1, ↓VS2, ↓VS3, ↓VS4, ↓VS5, ↓VS6, ↓VS7, ↓VS8, ↓VS9, ↓VS10, ↓VS11, ↓VS12, ↓VZ0, ↓VE0, defFin, entry, slotA, List.map_cons, List.map_nil, List.length_cons, List.length_nil, List.cons_append, List.nil_append, List.replicate_succ, List.replicate_zero, List.getElem?_cons_zero, List.getElem?_cons_succ, flatR, flatD, if_true, if_false, eq_self, true_and, and_true, Bool.false_eq_true, reduceCtorEq, z_bs1, z_bs2, z_bs3, z_bs4, z_wipe0, z_wipe1, List.set_cons_zero, List.set_cons_succ, ↓V_call l2, ↓k_pick, r9]
    repeat (refine ⟨by first | omega | decide | (simp; done), ?_⟩)
    intro d hd
    refine h _ ?_
    exact (show ∀ d ∈ [PyData.tuple [PyData.tuple L, _], _, _, _, _, _, _], sm 3 d by repeat' first | exact sm_non | exact sm_bool | exact sm_d0 | exact sm_l0 | exact sm_t0 | exact sm_big | exact sm_1 (by assumption) | exact sm_2 (by assumption) | exact sm_3 (by assumption) | (refine sm_int ?_ ?_ <;> omega) | exact sm_str (by decide +kernel) | exact all_nil | refine all_cons ?_ ?_ | refine sm_list (by simp [lim]) ?_ | refine sm_tuple (by simp [lim]) ?_) d hd
  clear c0
  refine seq_then fun F10 r10 bb10 cc10 n10 => ?_
  have r10 : F10.rt = Qd := r10
  refine ife_eq rfl (fun c0 => ?_) (fun c0 => n10 _ ?_)
  · simp (maxSteps := 1000000) only [↓V0, ↓V1, ↓V2, ↓VS0, ↓VS1, ↓VS2, ↓VS3, ↓VS4, ↓VS5, ↓VS6, ↓VS7, ↓VS8, ↓VS9, ↓VS10, ↓VS11, ↓VS12, ↓VZ0, ↓VE0, defFin, entry, slotA, List.map_cons, List.map_nil, List.length_cons, List.length_nil, List.cons_append, List.nil_append, List.replicate_succ, List.replicate_zero, List.getElem?_cons_zero, List.getElem?_cons_succ, flatR, flatD, if_true, if_false, eq_self, true_and, and_true, Bool.false_eq_true, reduceCtorEq, z_bs1, z_bs2, z_bs3, z_bs4, z_wipe0, z_wipe1, List.set_cons_zero, List.set_cons_succ, ↓V_call l2, ↓k_pick, r10]
    repeat (refine ⟨by first | omega | decide | (simp; done), ?_⟩)
    intro d hd
    have h1 := (show ∀ d ∈ [PyData.none, PyData.list L, _, _], sm 2 d by repeat' first | exact sm_non | exact sm_bool | exact sm_d0 | exact sm_l0 | exact sm_t0 | exact sm_big | exact sm_1 (by assumption) | exact sm_2 (by assumption) | exact sm_3 (by assumption) | (refine sm_int ?_ ?_ <;> omega) | exact sm_str (by decide +kernel) | exact all_nil | refine all_cons ?_ ?_ | refine sm_list (by simp [lim]) ?_ | refine sm_tuple (by simp [lim]) ?_) d hd
    clear hd
    refine ⟨o1, by omega, fun d1 hd => ?_⟩
    have h2 := o3 d1 hd
    refine ⟨o1, by omega, fun d2 hd => ?_⟩
    have h3 := o3 d2 hd
    exact ⟨by decide, h _ (by repeat' first | exact sm_non | exact sm_bool | exact sm_d0 | exact sm_l0 | exact sm_t0 | exact sm_big | exact sm_1 (by assumption) | exact sm_2 (by assumption) | exact sm_3 (by assumption) | (refine sm_int ?_ ?_ <;> omega) | exact sm_str (by decide +kernel) | exact all_nil | refine all_cons ?_ ?_ | refine sm_list (by simp [lim]) ?_ | refine sm_tuple (by simp [lim]) ?_)⟩
  clear c0
  simp (maxSteps := 1000000) only [↓V0, ↓V1, ↓V2, ↓VS0, ↓VS1, ↓VS2, ↓VS3, ↓VS4, ↓VS5, ↓VS6, ↓VS7, ↓VS8, ↓VS9, ↓VS10, ↓VS11, ↓VS12, ↓VZ0, ↓VE0, defFin, entry, slotA, List.map_cons, List.map_nil, List.length_cons, List.length_nil, List.cons_append, List.nil_append, List.replicate_succ, List.replicate_zero, List.getElem?_cons_zero, List.getElem?_cons_succ, flatR, flatD, if_true, if_false, eq_self, true_and, and_true, Bool.false_eq_true, reduceCtorEq, z_bs1, z_bs2, z_bs3, z_bs4, z_wipe0, z_wipe1, List.set_cons_zero, List.set_cons_succ, ↓V_call l2, ↓k_pick]
  repeat (refine ⟨by first | omega | decide | (simp; done), ?_⟩)
  intro d hd
  refine h _ ?_
  exact (show ∀ d ∈ [PyData.none, PyData.int 0, _, _, _, _, _, _, _, _, _], sm 3 d by repeat' first | exact sm_non | exact sm_bool | exact sm_d0 | exact sm_l0 | exact sm_t0 | exact sm_big | exact sm_1 (by assumption) | exact sm_2 (by assumption) | exact sm_3 (by assumption) | (refine sm_int ?_ ?_ <;> omega) | exact sm_str (by decide +kernel) | exact all_nil | refine all_cons ?_ ?_ | refine sm_list (by simp [lim]) ?_ | refine sm_tuple (by simp [lim]) ?_) d hd
def s_keyed : DSpec := ⟨false, ["deck", "standing", "lot"], fun as Qd _ => ∃ ns ls, as = [.dk, .d (.tuple (intsD ns)), .d (.tuple (intsD ls))] ∧ ns.length ≤ 90 ∧ ls.length ≤ 90 ∧ (∀ n ∈ ns, 0 ≤ n ∧ n ≤ 99) ∧ ∀ ms : List Int, ms.length = ns.length → (∀ n ∈ ms, 0 ≤ n ∧ n ≤ 99) → Qd (.im (.tuple (intsD ms)))⟩
theorem w_keyed {Γ : Ctx} (l1 : Γ.fns.lookup ("_law_draw" : Str) = some drawS) (l2 : Γ.fns.lookup ("_law_pick" : Str) = some s_pick) : ∀ as Qd Ed, as.length = 3 → s_keyed.wp as Qd Ed → wpSs Γ (fun x _ => Ed x) i__law_keyed (entry N__law_keyed as) (defFin Qd) := by
  rintro as Qd Ed hl ⟨ns, ls, rfl, nn, ll, hn, h⟩; clear hl
  have hz : sizeLine = 16777216 := sizeLine_eq
  unfold i__law_keyed
  
  refine seq_then fun F1 r1 bb1 cc1 n1 => ?_
  have go : ∀ s : Int, F1.nx [.dk, .im (.tuple (intsD ns)), .im (.tuple (intsD ls)), .im (.int s), .no, .no] := by
    intro s
    refine n1 _ ?_
    simp (maxSteps := 1000000) only [↓V0, ↓V1, ↓V2, ↓VS0, ↓VS1, ↓VS2, ↓VS3, ↓VS4, ↓VS5, ↓VS6, ↓VS7, ↓VS8, ↓VS9, ↓VS10, ↓VS11, ↓VS12, ↓VZ0, ↓VE0, defFin, entry, slotA, List.map_cons, List.map_nil, List.length_cons, List.length_nil, List.cons_append, List.nil_append, List.replicate_succ, List.replicate_zero, List.getElem?_cons_zero, List.getElem?_cons_succ, flatR, flatD, if_true, if_false, eq_self, true_and, and_true, Bool.false_eq_true, reduceCtorEq, z_bs1, z_bs2, z_bs3, z_bs4, z_wipe0, z_wipe1, List.set_cons_zero, List.set_cons_succ]
    refine ⟨by rw [intsD_len]; omega, by rw [enL_len, intsD_len]; omega, ?_⟩
    generalize hst : stepF _ _ _ _ = st
    refine lc_en (fun k i => some (.int (if (k : Int) ∈ ls ∧ (k : Int) ≠ s then 0 else i))) ns 0 [] (fun j i hj Kk hk => ?_) ?_
    · rw [← hst]
      simp (maxSteps := 1000000) only [↓V0, ↓V1, ↓V2, ↓VS0, ↓VS1, ↓VS2, ↓VS3, ↓VS4, ↓VS5, ↓VS6, ↓VS7, ↓VS8, ↓VS9, ↓VS10, ↓VS11, ↓VS12, ↓VZ0, ↓VE0, defFin, entry, slotA, List.map_cons, List.map_nil, List.length_cons, List.length_nil, List.cons_append, List.nil_append, List.replicate_succ, List.replicate_zero, List.getElem?_cons_zero, List.getElem?_cons_succ, flatR, flatD, if_true, if_false, eq_self, true_and, and_true, Bool.false_eq_true, reduceCtorEq, z_bs1, z_bs2, z_bs3, z_bs4, z_wipe0, z_wipe1, List.set_cons_zero, List.set_cons_succ, ↓z_int]
      have hk := hk [.dk, .im (.tuple (intsD ns)), .im (.tuple (intsD ls)), .im (.int s), .im (.int (0 + j : Nat)), .im (.int i)] rfl
      by_cases c1 : ((j : Nat) : Int) ∈ ls <;> by_cases c2 : ((j : Nat) : Int) = s <;> simpa [c1, c2] using hk
    · obtain ⟨ms, e, l, hm⟩ := enI_map (fun k i => if (k : Int) ∈ ls ∧ (k : Int) ≠ s then 0 else i) ns 0
      rw [List.nil_append, e]
      simp (maxSteps := 1000000) only [↓V0, ↓V1, ↓V2, ↓VS0, ↓VS1, ↓VS2, ↓VS3, ↓VS4, ↓VS5, ↓VS6, ↓VS7, ↓VS8, ↓VS9, ↓VS10, ↓VS11, ↓VS12, ↓VZ0, ↓VE0, defFin, entry, slotA, List.map_cons, List.map_nil, List.length_cons, List.length_nil, List.cons_append, List.nil_append, List.replicate_succ, List.replicate_zero, List.getElem?_cons_zero, List.getElem?_cons_succ, flatR, flatD, if_true, if_false, eq_self, true_and, and_true, Bool.false_eq_true, reduceCtorEq, z_bs1, z_bs2, z_bs3, z_bs4, z_wipe0, z_wipe1, List.set_cons_zero, List.set_cons_succ]
      refine h ms l fun x hx => ?_
      obtain ⟨j, i, hi, rfl⟩ := hm x hx
      have := hn i hi
      split <;> omega
  simp (maxSteps := 1000000) only [↓V0, ↓V1, ↓V2, ↓VS0, ↓VS1, ↓VS2, ↓VS3, ↓VS4, ↓VS5, ↓VS6, ↓VS7, ↓VS8, ↓VS9, ↓VS10, ↓VS11, ↓VS12, ↓VZ0, ↓VE0, defFin, entry, slotA, List.map_cons, List.map_nil, List.length_cons, List.length_nil, List.cons_append, List.nil_append, List.replicate_succ, List.replicate_zero, List.getElem?_cons_zero, List.getElem?_cons_succ, flatR, flatD, if_true, if_false, eq_self, true_and, and_true, Bool.false_eq_true, reduceCtorEq, z_bs1, z_bs2, z_bs3, z_bs4, z_wipe0, z_wipe1, List.set_cons_zero, List.set_cons_succ, ↓V_call l1, ↓V_call l2, ↓k_draw, ↓k_pick, ↓z_net]
  refine ⟨by decide, shape_ints intsD_isI, ?_⟩
  cases ls with
  | nil => simpa [intsD] using go _
  | cons x xs =>
    simp only [intsD, List.map_cons, List.isEmpty_cons, Bool.not_false, if_true]
    refine ⟨by decide, fun r _ _ => ?_⟩
    by_cases c : r = 0
    · simp only [c, decide_true, if_true]
      refine ⟨by simp, by simp at ll ⊢; omega, fun d hd => ?_⟩
      obtain ⟨i, _, rfl⟩ := List.mem_map.mp (show d ∈ intsD (x :: xs) from hd)
      exact go i
    · simp only [c, decide_false, Bool.false_eq_true, if_false]
      exact go _
end K05
end KR

end
section
set_option Elab.async false
set_option linter.all false
set_option maxRecDepth 100000
set_option maxHeartbeats 4000000
namespace KR
open PySem PySem.Spec PyProof.Rows L2
namespace K05
section
variable {r0 r1 r2 : R} {ρ : En} {Q : R → En → Prop} {Ed : Ex → En → Prop}
theorem k_keyed (ns ls : List Int) : callK s_keyed [r0, r1, r2] [.dk, .d (.tuple (intsD ns)), .d (.tuple (intsD ls))] ρ Q Ed = ((ns.length ≤ 90 ∧ ls.length ≤ 90 ∧ ∀ n ∈ ns, 0 ≤ n ∧ n ≤ 99) ∧ ∀ ms : List Int, ms.length = ns.length → (∀ n ∈ ms, 0 ≤ n ∧ n ≤ 99) → frzK ρ [r0, r1, r2] fun ρ2 => Q (.im (.tuple (intsD ms))) ρ2) := by
  refine propext ⟨fun ⟨_, ns', ls', e, h1, h2, h3, h⟩ => ?_, fun h => ⟨rfl, _, _, rfl, h.1.1, h.1.2.1, h.1.2.2, h.2⟩⟩
  injection e with e0 e; injection e with e1 e; injection e with e2 e
  rw [tup_inj e1, tup_inj e2]
  exact ⟨⟨h1, h2, h3⟩, h⟩
structure Fit (ns ls : List Int) (a b : Int) : Prop where
  own : ∀ p ∈ ls, 0 ≤ p ∧ p < ns.length
  pos : ∀ x ∈ ns, 0 ≤ x
  nn : ns.length ≤ 1000
  ll : ls.length ≤ 1000
  a0 : 0 ≤ a
  a1 : a < ns.length
  b0 : 0 ≤ b
  b1 : b < ns.length
theorem k_done (ns ls : List Int) (a b : Int) (hf : Fit ns ls a b) (h : frzK ρ [r0, r1] fun ρ2 => Q (.im (.tuple (intsD (doneF ns ls a b)))) ρ2) : callK s_done [r0, r1] [.d (.tuple (intsD ns)), .d (deedD ls a b)] ρ Q Ed :=
  ⟨rfl, ns, ls, a, b, rfl, hf.own, hf.nn, hf.ll, hf.a0, hf.a1, hf.b0, hf.b1, h⟩
theorem kk_done (ns ls : List Int) (a b : Int) (hf : Fit ns ls a b) (h : frzK ρ [r0, r1] fun ρ2 => Q (.im (.tuple (intsD (doneF ns ls a b)))) ρ2) : callkK s_done ["deed", "standing"] [r0, r1] [.d (deedD ls a b), .d (.tuple (intsD ns))] ρ Q Ed :=
  ⟨⟨rfl, by rfl⟩, by
    rw [show pickK s_done.ps ["deed", "standing"] [Ar.d (deedD ls a b), .d (.tuple (intsD ns))] = [.d (.tuple (intsD ns)), .d (deedD ls a b)] by kernel_rfl]
    exact ⟨ns, ls, a, b, rfl, hf.own, hf.nn, hf.ll, hf.a0, hf.a1, hf.b0, hf.b1, h⟩⟩
theorem k_exch (ns ls : List Int) (a b : Int) (hf : Fit ns ls a b) (h : frzK ρ [r0, r1] fun ρ2 => Q (.im (.tuple (intsD (doneF ns ls a b)))) ρ2) : callK s_exchanged [r0, r1] [.d (.tuple (intsD ns)), .d (deedD ls a b)] ρ Q Ed :=
  ⟨rfl, ns, ls, a, b, rfl, hf.own, hf.pos, hf.nn, hf.ll, hf.a0, hf.a1, hf.b0, hf.b1, h⟩
theorem k_spoilt (m : Int) (ls : List Int) (a b : Int) (hm : 3 ≤ m ∧ m ≤ 30) (hD : Deed m ls a b) (h : ∀ v, sm 3 v → frzK ρ [r0, r1, r2] fun ρ2 => Q (.im v) ρ2) : callK s_spoilt [r0, r1, r2] [.dk, .d (.int m), .d (deedD ls a b)] ρ Q Ed :=
  ⟨rfl, m, ls, a, b, rfl, hm.1, hm.2, hD, h⟩
theorem k_derr (n : Int) (v : D) (hz : szV v) (h : frzK ρ [r0, r1] fun ρ2 => Q (.im (dErr n v)) ρ2) : callK s_deed_error [r0, r1] [.d (.int n), .d v] ρ Q Ed := ⟨rfl, n, v, rfl, hz, h⟩
theorem kk_derr (n : Int) (v : D) (hz : szV v) (h : frzK ρ [r0, r1] fun ρ2 => Q (.im (dErr n v)) ρ2) : callkK s_deed_error ["value", "n"] [r0, r1] [.d v, .d (.int n)] ρ Q Ed :=
  ⟨⟨rfl, by rfl⟩, by
    rw [show pickK s_deed_error.ps ["value", "n"] [Ar.d v, .d (.int n)] = [.d (.int n), .d v] by kernel_rfl]
    exact ⟨n, v, rfl, hz, h⟩⟩
theorem k_due (n : Int) (v : D) (hz : szV v) (h : frzK ρ [r0, r1] fun ρ2 => Q (.im (dErr n v)) ρ2) : callK s_due [r0, r1] [.d (.int n), .d v] ρ Q Ed := ⟨rfl, n, v, rfl, hz, h⟩
end
theorem sub_deed0 {ls : List Int} {a b : Int} {K : D → Prop} : subDQ (deedD ls a b) (.int 0) K = K (.tuple (intsD ls)) := rfl
theorem swap_len {ns : List Int} {a b : Int} : (swapI ns a b).length = ns.length := by unfold swapI; simp
theorem done_len {ns ls : List Int} {a b : Int} : (doneF ns ls a b).length = ns.length := by unfold doneF; split <;> simp [swap_len]
theorem done_mem {ns ls : List Int} {a b : Int} (hf : Fit ns ls a b) : ∀ x ∈ doneF ns ls a b, x ∈ ns := by
  unfold doneF; split
  · exact fun x h => h
  · intro x h
    unfold swapI at h
    rcases List.mem_or_eq_of_mem_set h with z | z
    · rcases List.mem_or_eq_of_mem_set z with y | y
      · exact y
      · rw [y]; exact nAt_mem hf.b0 hf.b1
    · rw [z]; exact nAt_mem hf.a0 hf.a1
theorem nAt_swap {ns : List Int} {a b p : Int} (a0 : 0 ≤ a) (b0 : 0 ≤ b) (p0 : 0 ≤ p) (pa : p ≠ a) (pb : p ≠ b) : nAt (swapI ns a b) p = nAt ns p := by
  unfold nAt swapI
  rw [List.getD_eq_getElem?_getD, List.getD_eq_getElem?_getD, List.getElem?_set_ne (by omega), List.getElem?_set_ne (by omega)]
theorem done_done {ns ls : List Int} {a b : Int} (hf : Fit ns ls a b) (hab : a < b) (ho : ∀ p ∈ ls, p ≠ a ∧ p ≠ b) : doneF (doneF ns ls a b) ls a b = ns := by
  have an : (ls.any fun p => !decide (nAt (swapI ns a b) p = 0)) = (ls.any fun p => !decide (nAt ns p = 0)) := by
    have key : ∀ xs : List Int, (∀ p ∈ xs, 0 ≤ p ∧ p ≠ a ∧ p ≠ b) → (xs.any fun p => !decide (nAt (swapI ns a b) p = 0)) = (xs.any fun p => !decide (nAt ns p = 0)) := by
      intro xs
      induction xs with
      | nil => intro _; rfl
      | cons x xs ih =>
        intro h
        have hx := h x List.mem_cons_self
        rw [List.any_cons, List.any_cons, ih fun p hp => h p (List.mem_cons_of_mem _ hp), nAt_swap hf.a0 hf.b0 hx.1 hx.2.1 hx.2.2]
    exact key ls fun p hp => ⟨(hf.own p hp).1, ho p hp⟩
  unfold doneF
  cases c : ls.any fun p => !decide (nAt ns p = 0) with
  | true => simp only [if_true]; rw [c]; rfl
  | false =>
    simp only [Bool.false_eq_true, if_false]
    rw [an, c]
    simp only [Bool.false_eq_true, if_false]
    obtain ⟨k, rfl⟩ : ∃ k : Nat, a = k := ⟨a.toNat, by have := hf.a0; omega⟩
    obtain ⟨l, rfl⟩ : ∃ k : Nat, b = k := ⟨b.toNat, by have := hf.b0; omega⟩
    have hk : k < ns.length := by have := hf.a1; omega
    have hl : l < ns.length := by have := hf.b1; omega
    have hne : k ≠ l := by omega
    unfold swapI nAt
    simp only [Int.toNat_natCast]
    refine List.ext_getElem? fun i => ?_
    simp only [List.getD_eq_getElem?_getD, List.getElem?_set, List.length_set]
    by_cases il : l = i
    · subst il
      simp [hk, hl, hne, Ne.symm hne]
    · by_cases ik : k = i
      · subst ik
        simp [hk, hl, hne, Ne.symm hne]
      · simp [hk, hl, hne, Ne.symm hne, il, ik]
theorem done_perm {ns ls : List Int} {a b : Int} (hf : Fit ns ls a b) (hab : a < b) : (doneF ns ls a b).Perm ns := by
  unfold doneF; split
  · exact List.Perm.refl _
  · obtain ⟨k, rfl⟩ : ∃ k : Nat, a = k := ⟨a.toNat, by have := hf.a0; omega⟩
    obtain ⟨l, rfl⟩ : ∃ k : Nat, b = k := ⟨b.toNat, by have := hf.b0; omega⟩
    have hk : k < ns.length := by have := hf.a1; omega
    have hl : l < ns.length := by have := hf.b1; omega
    unfold swapI nAt
    simp only [Int.toNat_natCast, List.getD_eq_getElem?_getD, List.getElem?_eq_getElem hk, List.getElem?_eq_getElem hl, Option.getD_some]
    exact List.set_set_perm hk hl
theorem dErr_sm {n : Int} {v : D} : sm 0 (dErr n v) := by
  unfold dErr
  split
  · repeat' split
    all_goals first | exact sm_non | exact sm_str (by decide +kernel)
  · exact sm_str (by decide +kernel)

theorem w_law {Γ : Ctx} (l_draw : Γ.fns.lookup ("_law_draw" : Str) = some drawS) (l_stand : Γ.fns.lookup ("_law_standing" : Str) = some s_standing) (l_deed : Γ.fns.lookup ("_law_deed" : Str) = some s_deed) (l_keyed : Γ.fns.lookup ("_law_keyed" : Str) = some s_keyed)
    (l_exch : Γ.fns.lookup ("_law_exchanged" : Str) = some s_exchanged) (l_done : Γ.fns.lookup ("done" : Str) = some s_done) (l_sp : Γ.fns.lookup ("_law_spoilt" : Str) = some s_spoilt) (l_derr : Γ.fns.lookup ("deed_error" : Str) = some s_deed_error) (l_due : Γ.fns.lookup ("_law_due" : Str) = some s_due) : wpSs Γ noEx i_law (lawE 13) lawF := by
  have hz : sizeLine = 16777216 := sizeLine_eq
  unfold i_law
  
  refine seq_then fun F0 r0 bb0 cc0 n0 => ?_
  rw [show lawE 13 = [.no, .dk, .no, .no, .no, .no, .no, .no, .no, .no, .no, .no, .no, .no, .no] from rfl]
  simp (maxSteps := 1000000) only [↓V0, ↓V1, ↓V2, ↓VS0, ↓VS1, ↓VS2, ↓VS3, ↓VS4, ↓VS5, ↓VS6, ↓VS7, ↓VS8, ↓VS9, ↓VS10, ↓VS11, ↓VS12, ↓VZ0, ↓VE0, defFin, entry, slotA, List.map_cons, List.map_nil, List.length_cons, List.length_nil, List.cons_append, List.nil_append, List.replicate_succ, List.replicate_zero, List.getElem?_cons_zero, List.getElem?_cons_succ, flatR, flatD, if_true, if_false, eq_self, true_and, and_true, Bool.false_eq_true, reduceCtorEq, z_bs1, z_bs2, z_bs3, z_bs4, z_wipe0, z_wipe1, List.set_cons_zero, List.set_cons_succ, ↓V_call l_draw, ↓V_call l_stand, ↓V_call l_deed, ↓V_call l_keyed, ↓V_call l_exch, ↓V_call l_done, ↓V_callk l_done, ↓V_call l_sp, ↓V_call l_derr, ↓V_callk l_derr, ↓V_call l_due, ↓k_draw, ↓k_standing, ↓k_keyed, ↓k_deed, ↓sub_deed0]
  refine ⟨⟨by decide, by decide⟩, ?_⟩
  generalize hb : bodyF _ _ _ _ = bd
  refine fr_all (fun ρ => ∃ s2 s3 s4 s5 s6 s7 s8 s9 s10 s11 s12 s13 s14 : Sl, ρ = [.no, .dk, s2, s3, s4, s5, s6, s7, s8, s9, s10, s11, s12, s13, s14]) _ (fun d ρ hd hI F' hr nx ct => ?_) (fun ρ hI => ?_) ⟨_, _, _, _, _, _, _, _, _, _, _, _, _, rfl⟩
  rotate_left
  · obtain ⟨s2, s3, s4, s5, s6, s7, s8, s9, s10, s11, s12, s13, s14, rfl⟩ := hI
    exact n0 _ rfl
  obtain ⟨t, rfl, t0, t8⟩ := rngL_mem hd
  obtain ⟨s2, s3, s4, s5, s6, s7, s8, s9, s10, s11, s12, s13, s14, rfl⟩ := hI
  rw [← hb, bodyF_at]
  clear hb bd hd ct
  change wpSs _ _ _ [.no, .dk, .im (.int t), s3, s4, s5, s6, s7, s8, s9, s10, s11, s12, s13, s14] _
  refine seq_then fun F1 r1 bb1 cc1 n1 => ?_
  have many : ∀ m : Int, 3 ≤ m → m ≤ 24 → F1.nx [.no, .dk, .im (.int t), .im (.int m), s4, s5, s6, s7, s8, s9, s10, s11, s12, s13, s14] := by
    intro m m3 m24
    refine n1 _ ?_
    refine seq_then fun F2 r2 bb2 cc2 n2 => ?_
    simp (maxSteps := 1000000) only [↓V0, ↓V1, ↓V2, ↓VS0, ↓VS1, ↓VS2, ↓VS3, ↓VS4, ↓VS5, ↓VS6, ↓VS7, ↓VS8, ↓VS9, ↓VS10, ↓VS11, ↓VS12, ↓VZ0, ↓VE0, defFin, entry, slotA, List.map_cons, List.map_nil, List.length_cons, List.length_nil, List.cons_append, List.nil_append, List.replicate_succ, List.replicate_zero, List.getElem?_cons_zero, List.getElem?_cons_succ, flatR, flatD, if_true, if_false, eq_self, true_and, and_true, Bool.false_eq_true, reduceCtorEq, z_bs1, z_bs2, z_bs3, z_bs4, z_wipe0, z_wipe1, List.set_cons_zero, List.set_cons_succ, ↓V_call l_draw, ↓V_call l_stand, ↓V_call l_deed, ↓V_call l_keyed, ↓V_call l_exch, ↓V_call l_done, ↓V_callk l_done, ↓V_call l_sp, ↓V_call l_derr, ↓V_callk l_derr, ↓V_call l_due, ↓k_draw, ↓k_standing, ↓k_keyed, ↓k_deed, ↓sub_deed0]
    refine ⟨⟨m3, by omega⟩, fun ls a b hD => ?_⟩
    refine n2 _ ?_
    refine seq_then fun F3 r3 bb3 cc3 n3 => ?_
    have std : ∀ ns : List Int, (ns.length : Int) = m → (∀ n ∈ ns, 0 ≤ n ∧ n ≤ 99) → F3.nx [.no, .dk, .im (.int t), .im (.int m), .im (deedD ls a b), .im (.tuple (intsD ns)), s6, s7, s8, s9, s10, s11, s12, s13, s14] := by
      intro ns nl nok
      have hf : Fit ns ls a b := ⟨fun p hp => by have := hD.own p hp; omega, fun x hx => (nok x hx).1, by omega, by have := hD.len; omega, hD.a0, by have := hD.ab; have := hD.bm; omega, by have := hD.a0; have := hD.ab; omega, by have := hD.bm; omega⟩
      have nsS : sm 1 (.tuple (intsD ns)) := sm_tuple (by rw [intsD_len]; simp only [lim]; omega) (sm_ints fun i hi => by have := nok i hi; omega)
      have ms0 := done_mem hf
      have ml := done_len (ns := ns) (ls := ls) (a := a) (b := b)
      have mp := done_perm hf hD.ab
      have dd := done_done hf hD.ab fun p hp => ⟨(hD.own p hp).2.2.1, (hD.own p hp).2.2.2⟩
      have hf2 : Fit (doneF ns ls a b) ls a b := ⟨fun p hp => by rw [ml]; exact hf.own p hp, fun x hx => hf.pos x (ms0 x hx), by rw [ml]; exact hf.nn, hf.ll, hf.a0, by rw [ml]; exact hf.a1, hf.b0, by rw [ml]; exact hf.b1⟩
      have msS : sm 1 (.tuple (intsD (doneF ns ls a b))) := sm_tuple (by rw [intsD_len, ml]; simp only [lim]; omega) (sm_ints fun i hi => by have := nok i (ms0 i hi); omega)
      have deS : sm 2 (deedD ls a b) := by
        have := sm_lot hD (by omega)
        have := hD.a0; have := hD.ab; have := hD.bm
        unfold deedD; repeat' first | exact sm_non | exact sm_bool | exact sm_d0 | exact sm_l0 | exact sm_t0 | exact sm_big | exact sm_1 (by assumption) | exact sm_2 (by assumption) | exact sm_3 (by assumption) | (refine sm_int ?_ ?_ <;> omega) | exact sm_str (by decide +kernel) | exact all_nil | refine all_cons ?_ ?_ | refine sm_list (by simp [lim]) ?_ | refine sm_tuple (by simp [lim]) ?_
      refine n3 _ ?_
      refine seq_then fun F4 r4 bb4 cc4 n4 => ?_
      simp (maxSteps := 1000000) only [↓V0, ↓V1, ↓V2, ↓VS0, ↓VS1, ↓VS2, ↓VS3, ↓VS4, ↓VS5, ↓VS6, ↓VS7, ↓VS8, ↓VS9, ↓VS10, ↓VS11, ↓VS12, ↓VZ0, ↓VE0, defFin, entry, slotA, List.map_cons, List.map_nil, List.length_cons, List.length_nil, List.cons_append, List.nil_append, List.replicate_succ, List.replicate_zero, List.getElem?_cons_zero, List.getElem?_cons_succ, flatR, flatD, if_true, if_false, eq_self, true_and, and_true, Bool.false_eq_true, reduceCtorEq, z_bs1, z_bs2, z_bs3, z_bs4, z_wipe0, z_wipe1, List.set_cons_zero, List.set_cons_succ, ↓V_call l_draw, ↓V_call l_stand, ↓V_call l_deed, ↓V_call l_keyed, ↓V_call l_exch, ↓V_call l_done, ↓V_callk l_done, ↓V_call l_sp, ↓V_call l_derr, ↓V_callk l_derr, ↓V_call l_due, ↓k_draw, ↓k_standing, ↓k_keyed, ↓k_deed, ↓sub_deed0]
      refine ⟨by decide, sm_repr (n := 3) (by repeat' first | exact sm_non | exact sm_bool | exact sm_d0 | exact sm_l0 | exact sm_t0 | exact sm_big | exact sm_1 (by assumption) | exact sm_2 (by assumption) | exact sm_3 (by assumption) | (refine sm_int ?_ ?_ <;> omega) | exact sm_str (by decide +kernel) | exact all_nil | refine all_cons ?_ ?_ | refine sm_list (by simp [lim]) ?_ | refine sm_tuple (by simp [lim]) ?_) (by decide) ?_⟩
      simp (maxSteps := 1000000) only [↓V0, ↓V1, ↓V2, ↓VS0, ↓VS1, ↓VS2, ↓VS3, ↓VS4, ↓VS5, ↓VS6, ↓VS7, ↓VS8, ↓VS9, ↓VS10, ↓VS11, ↓VS12, ↓VZ0, ↓VE0, defFin, entry, slotA, List.map_cons, List.map_nil, List.length_cons, List.length_nil, List.cons_append, List.nil_append, List.replicate_succ, List.replicate_zero, List.getElem?_cons_zero, List.getElem?_cons_succ, flatR, flatD, if_true, if_false, eq_self, true_and, and_true, Bool.false_eq_true, reduceCtorEq, z_bs1, z_bs2, z_bs3, z_bs4, z_wipe0, z_wipe1, List.set_cons_zero, List.set_cons_succ, ↓V_call l_draw, ↓V_call l_stand, ↓V_call l_deed, ↓V_call l_keyed, ↓V_call l_exch, ↓V_call l_done, ↓V_callk l_done, ↓V_call l_sp, ↓V_call l_derr, ↓V_callk l_derr, ↓V_call l_due, ↓k_draw, ↓k_standing, ↓k_keyed, ↓k_deed, ↓sub_deed0]
      refine k_exch ns ls a b hf ?_
      generalize hk : (PyData.list [deedD ls a b, .tuple (intsD ns)]).shown = kept
      simp (maxSteps := 1000000) only [↓V0, ↓V1, ↓V2, ↓VS0, ↓VS1, ↓VS2, ↓VS3, ↓VS4, ↓VS5, ↓VS6, ↓VS7, ↓VS8, ↓VS9, ↓VS10, ↓VS11, ↓VS12, ↓VZ0, ↓VE0, defFin, entry, slotA, List.map_cons, List.map_nil, List.length_cons, List.length_nil, List.cons_append, List.nil_append, List.replicate_succ, List.replicate_zero, List.getElem?_cons_zero, List.getElem?_cons_succ, flatR, flatD, if_true, if_false, eq_self, true_and, and_true, Bool.false_eq_true, reduceCtorEq, z_bs1, z_bs2, z_bs3, z_bs4, z_wipe0, z_wipe1, List.set_cons_zero, List.set_cons_succ, ↓V_call l_draw, ↓V_call l_stand, ↓V_call l_deed, ↓V_call l_keyed, ↓V_call l_exch, ↓V_call l_done, ↓V_callk l_done, ↓V_call l_sp, ↓V_call l_derr, ↓V_callk l_derr, ↓V_call l_due, ↓k_draw, ↓k_standing, ↓k_keyed, ↓k_deed, ↓sub_deed0]
      refine n4 _ ?_
      refine seq_then fun F5 r5 bb5 cc5 n5 => ?_
      have told : F5.nx [.no, .dk, .im (.int t), .im (.int m), .im (deedD ls a b), .im (.tuple (intsD ns)), .im (.tuple (intsD (doneF ns ls a b))), s7, s8, .im (.str kept), .im (.tuple (intsD (doneF ns ls a b))), s11, s12, s13, s14] := by
        refine n5 _ ?_
        generalize hm : doneF ns ls a b = ms at *
        refine seq_then fun F6 r6 bb6 cc6 n6 => ?_
        simp (maxSteps := 1000000) only [↓V0, ↓V1, ↓V2, ↓VS0, ↓VS1, ↓VS2, ↓VS3, ↓VS4, ↓VS5, ↓VS6, ↓VS7, ↓VS8, ↓VS9, ↓VS10, ↓VS11, ↓VS12, ↓VZ0, ↓VE0, defFin, entry, slotA, List.map_cons, List.map_nil, List.length_cons, List.length_nil, List.cons_append, List.nil_append, List.replicate_succ, List.replicate_zero, List.getElem?_cons_zero, List.getElem?_cons_succ, flatR, flatD, if_true, if_false, eq_self, true_and, and_true, Bool.false_eq_true, reduceCtorEq, z_bs1, z_bs2, z_bs3, z_bs4, z_wipe0, z_wipe1, List.set_cons_zero, List.set_cons_succ, ↓V_call l_draw, ↓V_call l_stand, ↓V_call l_deed, ↓V_call l_keyed, ↓V_call l_exch, ↓V_call l_done, ↓V_callk l_done, ↓V_call l_sp, ↓V_call l_derr, ↓V_callk l_derr, ↓V_call l_due, ↓k_draw, ↓k_standing, ↓k_keyed, ↓k_deed, ↓sub_deed0]
        refine k_done ns ls a b hf ?_
        rw [hm]
        simp (maxSteps := 1000000) only [↓V0, ↓V1, ↓V2, ↓VS0, ↓VS1, ↓VS2, ↓VS3, ↓VS4, ↓VS5, ↓VS6, ↓VS7, ↓VS8, ↓VS9, ↓VS10, ↓VS11, ↓VS12, ↓VZ0, ↓VE0, defFin, entry, slotA, List.map_cons, List.map_nil, List.length_cons, List.length_nil, List.cons_append, List.nil_append, List.replicate_succ, List.replicate_zero, List.getElem?_cons_zero, List.getElem?_cons_succ, flatR, flatD, if_true, if_false, eq_self, true_and, and_true, Bool.false_eq_true, reduceCtorEq, z_bs1, z_bs2, z_bs3, z_bs4, z_wipe0, z_wipe1, List.set_cons_zero, List.set_cons_succ, ↓V_call l_draw, ↓V_call l_stand, ↓V_call l_deed, ↓V_call l_keyed, ↓V_call l_exch, ↓V_call l_done, ↓V_callk l_done, ↓V_call l_sp, ↓V_call l_derr, ↓V_callk l_derr, ↓V_call l_due, ↓k_draw, ↓k_standing, ↓k_keyed, ↓k_deed, ↓sub_deed0]
        refine k_done _ ls a b hf2 ?_
        rw [dd]
        simp (maxSteps := 1000000) only [↓V0, ↓V1, ↓V2, ↓VS0, ↓VS1, ↓VS2, ↓VS3, ↓VS4, ↓VS5, ↓VS6, ↓VS7, ↓VS8, ↓VS9, ↓VS10, ↓VS11, ↓VS12, ↓VZ0, ↓VE0, defFin, entry, slotA, List.map_cons, List.map_nil, List.length_cons, List.length_nil, List.cons_append, List.nil_append, List.replicate_succ, List.replicate_zero, List.getElem?_cons_zero, List.getElem?_cons_succ, flatR, flatD, if_true, if_false, eq_self, true_and, and_true, Bool.false_eq_true, reduceCtorEq, z_bs1, z_bs2, z_bs3, z_bs4, z_wipe0, z_wipe1, List.set_cons_zero, List.set_cons_succ, ↓V_call l_draw, ↓V_call l_stand, ↓V_call l_deed, ↓V_call l_keyed, ↓V_call l_exch, ↓V_call l_done, ↓V_callk l_done, ↓V_call l_sp, ↓V_call l_derr, ↓V_callk l_derr, ↓V_call l_due, ↓k_draw, ↓k_standing, ↓k_keyed, ↓k_deed, ↓sub_deed0]
        refine ⟨by decide, sm_repr (n := 2) (by repeat' first | exact sm_non | exact sm_bool | exact sm_d0 | exact sm_l0 | exact sm_t0 | exact sm_big | exact sm_1 (by assumption) | exact sm_2 (by assumption) | exact sm_3 (by assumption) | (refine sm_int ?_ ?_ <;> omega) | exact sm_str (by decide +kernel) | exact all_nil | refine all_cons ?_ ?_ | refine sm_list (by simp [lim]) ?_ | refine sm_tuple (by simp [lim]) ?_) (by decide) ?_⟩
        simp (maxSteps := 1000000) only [↓V0, ↓V1, ↓V2, ↓VS0, ↓VS1, ↓VS2, ↓VS3, ↓VS4, ↓VS5, ↓VS6, ↓VS7, ↓VS8, ↓VS9, ↓VS10, ↓VS11, ↓VS12, ↓VZ0, ↓VE0, defFin, entry, slotA, List.map_cons, List.map_nil, List.length_cons, List.length_nil, List.cons_append, List.nil_append, List.replicate_succ, List.replicate_zero, List.getElem?_cons_zero, List.getElem?_cons_succ, flatR, flatD, if_true, if_false, eq_self, true_and, and_true, Bool.false_eq_true, reduceCtorEq, z_bs1, z_bs2, z_bs3, z_bs4, z_wipe0, z_wipe1, List.set_cons_zero, List.set_cons_succ, ↓V_call l_draw, ↓V_call l_stand, ↓V_call l_deed, ↓V_call l_keyed, ↓V_call l_exch, ↓V_call l_done, ↓V_callk l_done, ↓V_call l_sp, ↓V_call l_derr, ↓V_callk l_derr, ↓V_call l_due, ↓k_draw, ↓k_standing, ↓k_keyed, ↓k_deed, ↓sub_deed0]
        refine ⟨by decide, sm_repr (n := 2) (by repeat' first | exact sm_non | exact sm_bool | exact sm_d0 | exact sm_l0 | exact sm_t0 | exact sm_big | exact sm_1 (by assumption) | exact sm_2 (by assumption) | exact sm_3 (by assumption) | (refine sm_int ?_ ?_ <;> omega) | exact sm_str (by decide +kernel) | exact all_nil | refine all_cons ?_ ?_ | refine sm_list (by simp [lim]) ?_ | refine sm_tuple (by simp [lim]) ?_) (by decide) ?_⟩
        simp (maxSteps := 1000000) only [↓V0, ↓V1, ↓V2, ↓VS0, ↓VS1, ↓VS2, ↓VS3, ↓VS4, ↓VS5, ↓VS6, ↓VS7, ↓VS8, ↓VS9, ↓VS10, ↓VS11, ↓VS12, ↓VZ0, ↓VE0, defFin, entry, slotA, List.map_cons, List.map_nil, List.length_cons, List.length_nil, List.cons_append, List.nil_append, List.replicate_succ, List.replicate_zero, List.getElem?_cons_zero, List.getElem?_cons_succ, flatR, flatD, if_true, if_false, eq_self, true_and, and_true, Bool.false_eq_true, reduceCtorEq, z_bs1, z_bs2, z_bs3, z_bs4, z_wipe0, z_wipe1, List.set_cons_zero, List.set_cons_succ, ↓V_call l_draw, ↓V_call l_stand, ↓V_call l_deed, ↓V_call l_keyed, ↓V_call l_exch, ↓V_call l_done, ↓V_callk l_done, ↓V_call l_sp, ↓V_call l_derr, ↓V_callk l_derr, ↓V_call l_due, ↓k_draw, ↓k_standing, ↓k_keyed, ↓k_deed, ↓sub_deed0, ↓decide_true]
        simp only [Bool.not_true, Bool.false_eq_true, if_false]
        refine n6 _ ?_
        refine seq_then fun F7 r7 bb7 cc7 n7 => ?_
        simp (maxSteps := 1000000) only [↓V0, ↓V1, ↓V2, ↓VS0, ↓VS1, ↓VS2, ↓VS3, ↓VS4, ↓VS5, ↓VS6, ↓VS7, ↓VS8, ↓VS9, ↓VS10, ↓VS11, ↓VS12, ↓VZ0, ↓VE0, defFin, entry, slotA, List.map_cons, List.map_nil, List.length_cons, List.length_nil, List.cons_append, List.nil_append, List.replicate_succ, List.replicate_zero, List.getElem?_cons_zero, List.getElem?_cons_succ, flatR, flatD, if_true, if_false, eq_self, true_and, and_true, Bool.false_eq_true, reduceCtorEq, z_bs1, z_bs2, z_bs3, z_bs4, z_wipe0, z_wipe1, List.set_cons_zero, List.set_cons_succ, ↓V_call l_draw, ↓V_call l_stand, ↓V_call l_deed, ↓V_call l_keyed, ↓V_call l_exch, ↓V_call l_done, ↓V_callk l_done, ↓V_call l_sp, ↓V_call l_derr, ↓V_callk l_derr, ↓V_call l_due, ↓k_draw, ↓k_standing, ↓k_keyed, ↓k_deed, ↓sub_deed0]
        refine ⟨by decide, sm_repr (n := 3) (by repeat' first | exact sm_non | exact sm_bool | exact sm_d0 | exact sm_l0 | exact sm_t0 | exact sm_big | exact sm_1 (by assumption) | exact sm_2 (by assumption) | exact sm_3 (by assumption) | (refine sm_int ?_ ?_ <;> omega) | exact sm_str (by decide +kernel) | exact all_nil | refine all_cons ?_ ?_ | refine sm_list (by simp [lim]) ?_ | refine sm_tuple (by simp [lim]) ?_) (by decide) ?_⟩
        simp (maxSteps := 1000000) only [↓V0, ↓V1, ↓V2, ↓VS0, ↓VS1, ↓VS2, ↓VS3, ↓VS4, ↓VS5, ↓VS6, ↓VS7, ↓VS8, ↓VS9, ↓VS10, ↓VS11, ↓VS12, ↓VZ0, ↓VE0, defFin, entry, slotA, List.map_cons, List.map_nil, List.length_cons, List.length_nil, List.cons_append, List.nil_append, List.replicate_succ, List.replicate_zero, List.getElem?_cons_zero, List.getElem?_cons_succ, flatR, flatD, if_true, if_false, eq_self, true_and, and_true, Bool.false_eq_true, reduceCtorEq, z_bs1, z_bs2, z_bs3, z_bs4, z_wipe0, z_wipe1, List.set_cons_zero, List.set_cons_succ, ↓V_call l_draw, ↓V_call l_stand, ↓V_call l_deed, ↓V_call l_keyed, ↓V_call l_exch, ↓V_call l_done, ↓V_callk l_done, ↓V_call l_sp, ↓V_call l_derr, ↓V_callk l_derr, ↓V_call l_due, ↓k_draw, ↓k_standing, ↓k_keyed, ↓k_deed, ↓sub_deed0, hk]
        simp only [decide_true, Bool.not_true, Bool.false_eq_true, if_false]
        refine z_sortt ⟨by omega, fun ms1 p1 q1 => ?_⟩
        simp (maxSteps := 1000000) only [↓V0, ↓V1, ↓V2, ↓VS0, ↓VS1, ↓VS2, ↓VS3, ↓VS4, ↓VS5, ↓VS6, ↓VS7, ↓VS8, ↓VS9, ↓VS10, ↓VS11, ↓VS12, ↓VZ0, ↓VE0, defFin, entry, slotA, List.map_cons, List.map_nil, List.length_cons, List.length_nil, List.cons_append, List.nil_append, List.replicate_succ, List.replicate_zero, List.getElem?_cons_zero, List.getElem?_cons_succ, flatR, flatD, if_true, if_false, eq_self, true_and, and_true, Bool.false_eq_true, reduceCtorEq, z_bs1, z_bs2, z_bs3, z_bs4, z_wipe0, z_wipe1, List.set_cons_zero, List.set_cons_succ, ↓V_call l_draw, ↓V_call l_stand, ↓V_call l_deed, ↓V_call l_keyed, ↓V_call l_exch, ↓V_call l_done, ↓V_callk l_done, ↓V_call l_sp, ↓V_call l_derr, ↓V_callk l_derr, ↓V_call l_due, ↓k_draw, ↓k_standing, ↓k_keyed, ↓k_deed, ↓sub_deed0]
        refine z_sortt ⟨by omega, fun ms2 p2 q2 => ?_⟩
        simp (maxSteps := 1000000) only [↓V0, ↓V1, ↓V2, ↓VS0, ↓VS1, ↓VS2, ↓VS3, ↓VS4, ↓VS5, ↓VS6, ↓VS7, ↓VS8, ↓VS9, ↓VS10, ↓VS11, ↓VS12, ↓VZ0, ↓VE0, defFin, entry, slotA, List.map_cons, List.map_nil, List.length_cons, List.length_nil, List.cons_append, List.nil_append, List.replicate_succ, List.replicate_zero, List.getElem?_cons_zero, List.getElem?_cons_succ, flatR, flatD, if_true, if_false, eq_self, true_and, and_true, Bool.false_eq_true, reduceCtorEq, z_bs1, z_bs2, z_bs3, z_bs4, z_wipe0, z_wipe1, List.set_cons_zero, List.set_cons_succ, ↓V_call l_draw, ↓V_call l_stand, ↓V_call l_deed, ↓V_call l_keyed, ↓V_call l_exch, ↓V_call l_done, ↓V_callk l_done, ↓V_call l_sp, ↓V_call l_derr, ↓V_callk l_derr, ↓V_call l_due, ↓k_draw, ↓k_standing, ↓k_keyed, ↓k_deed, ↓sub_deed0]
        have e12 := sorted_one ((p1.trans mp).trans p2.symm) q1 q2
        subst e12
        refine z_ne_same ?_
        simp (maxSteps := 1000000) only [↓V0, ↓V1, ↓V2, ↓VS0, ↓VS1, ↓VS2, ↓VS3, ↓VS4, ↓VS5, ↓VS6, ↓VS7, ↓VS8, ↓VS9, ↓VS10, ↓VS11, ↓VS12, ↓VZ0, ↓VE0, defFin, entry, slotA, List.map_cons, List.map_nil, List.length_cons, List.length_nil, List.cons_append, List.nil_append, List.replicate_succ, List.replicate_zero, List.getElem?_cons_zero, List.getElem?_cons_succ, flatR, flatD, if_true, if_false, eq_self, true_and, and_true, Bool.false_eq_true, reduceCtorEq, z_bs1, z_bs2, z_bs3, z_bs4, z_wipe0, z_wipe1, List.set_cons_zero, List.set_cons_succ, ↓V_call l_draw, ↓V_call l_stand, ↓V_call l_deed, ↓V_call l_keyed, ↓V_call l_exch, ↓V_call l_done, ↓V_callk l_done, ↓V_call l_sp, ↓V_call l_derr, ↓V_callk l_derr, ↓V_call l_due, ↓k_draw, ↓k_standing, ↓k_keyed, ↓k_deed, ↓sub_deed0]
        refine n7 _ ?_
        refine seq_then fun F8 r8 bb8 cc8 n8 => ?_
        simp (maxSteps := 1000000) only [↓V0, ↓V1, ↓V2, ↓VS0, ↓VS1, ↓VS2, ↓VS3, ↓VS4, ↓VS5, ↓VS6, ↓VS7, ↓VS8, ↓VS9, ↓VS10, ↓VS11, ↓VS12, ↓VZ0, ↓VE0, defFin, entry, slotA, List.map_cons, List.map_nil, List.length_cons, List.length_nil, List.cons_append, List.nil_append, List.replicate_succ, List.replicate_zero, List.getElem?_cons_zero, List.getElem?_cons_succ, flatR, flatD, if_true, if_false, eq_self, true_and, and_true, Bool.false_eq_true, reduceCtorEq, z_bs1, z_bs2, z_bs3, z_bs4, z_wipe0, z_wipe1, List.set_cons_zero, List.set_cons_succ, ↓V_call l_draw, ↓V_call l_stand, ↓V_call l_deed, ↓V_call l_keyed, ↓V_call l_exch, ↓V_call l_done, ↓V_callk l_done, ↓V_call l_sp, ↓V_call l_derr, ↓V_callk l_derr, ↓V_call l_due, ↓k_draw, ↓k_standing, ↓k_keyed, ↓k_deed, ↓sub_deed0]
        refine ⟨by decide, ⟨by decide, by decide⟩, by rw [rngL_len]; omega, ?_⟩
        generalize hst : stepF _ _ _ _ = st
        refine lc_inv (fun d => sm 3 d) _ [] (fun d hd Kk hk => ?_) all_nil fun vs hvs vl => ?_
        · rw [← hst]
          simp (maxSteps := 1000000) only [↓V0, ↓V1, ↓V2, ↓VS0, ↓VS1, ↓VS2, ↓VS3, ↓VS4, ↓VS5, ↓VS6, ↓VS7, ↓VS8, ↓VS9, ↓VS10, ↓VS11, ↓VS12, ↓VZ0, ↓VE0, defFin, entry, slotA, List.map_cons, List.map_nil, List.length_cons, List.length_nil, List.cons_append, List.nil_append, List.replicate_succ, List.replicate_zero, List.getElem?_cons_zero, List.getElem?_cons_succ, flatR, flatD, if_true, if_false, eq_self, true_and, and_true, Bool.false_eq_true, reduceCtorEq, z_bs1, z_bs2, z_bs3, z_bs4, z_wipe0, z_wipe1, List.set_cons_zero, List.set_cons_succ, ↓V_call l_draw, ↓V_call l_stand, ↓V_call l_deed, ↓V_call l_keyed, ↓V_call l_exch, ↓V_call l_done, ↓V_callk l_done, ↓V_call l_sp, ↓V_call l_derr, ↓V_callk l_derr, ↓V_call l_due, ↓k_draw, ↓k_standing, ↓k_keyed, ↓k_deed, ↓sub_deed0]
          refine k_spoilt m ls a b ⟨m3, by omega⟩ hD fun v hv => ?_
          simp (maxSteps := 1000000) only [↓V0, ↓V1, ↓V2, ↓VS0, ↓VS1, ↓VS2, ↓VS3, ↓VS4, ↓VS5, ↓VS6, ↓VS7, ↓VS8, ↓VS9, ↓VS10, ↓VS11, ↓VS12, ↓VZ0, ↓VE0, defFin, entry, slotA, List.map_cons, List.map_nil, List.length_cons, List.length_nil, List.cons_append, List.nil_append, List.replicate_succ, List.replicate_zero, List.getElem?_cons_zero, List.getElem?_cons_succ, flatR, flatD, if_true, if_false, eq_self, true_and, and_true, Bool.false_eq_true, reduceCtorEq, z_bs1, z_bs2, z_bs3, z_bs4, z_wipe0, z_wipe1, List.set_cons_zero, List.set_cons_succ, ↓V_call l_draw, ↓V_call l_stand, ↓V_call l_deed, ↓V_call l_keyed, ↓V_call l_exch, ↓V_call l_done, ↓V_callk l_done, ↓V_call l_sp, ↓V_call l_derr, ↓V_callk l_derr, ↓V_call l_due, ↓k_draw, ↓k_standing, ↓k_keyed, ↓k_deed, ↓sub_deed0]
          exact hk _ _ rfl fun e z => by cases z; exact hv
        clear hst
        rw [rngL_len] at vl
        simp (maxSteps := 1000000) only [↓V0, ↓V1, ↓V2, ↓VS0, ↓VS1, ↓VS2, ↓VS3, ↓VS4, ↓VS5, ↓VS6, ↓VS7, ↓VS8, ↓VS9, ↓VS10, ↓VS11, ↓VS12, ↓VZ0, ↓VE0, defFin, entry, slotA, List.map_cons, List.map_nil, List.length_cons, List.length_nil, List.cons_append, List.nil_append, List.replicate_succ, List.replicate_zero, List.getElem?_cons_zero, List.getElem?_cons_succ, flatR, flatD, if_true, if_false, eq_self, true_and, and_true, Bool.false_eq_true, reduceCtorEq, z_bs1, z_bs2, z_bs3, z_bs4, z_wipe0, z_wipe1, List.set_cons_zero, List.set_cons_succ, ↓V_call l_draw, ↓V_call l_stand, ↓V_call l_deed, ↓V_call l_keyed, ↓V_call l_exch, ↓V_call l_done, ↓V_callk l_done, ↓V_call l_sp, ↓V_call l_derr, ↓V_callk l_derr, ↓V_call l_due, ↓k_draw, ↓k_standing, ↓k_keyed, ↓k_deed, ↓sub_deed0]
        refine ⟨by simp at vl; omega, n8 _ ?_⟩
        have vS : ∀ v ∈ deedD ls a b :: vs, sm 3 v := all_cons (sm_2 deS) hvs
        have vL : (deedD ls a b :: vs).length ≤ 6 := by simp at vl ⊢; omega
        generalize deedD ls a b :: vs = vals at vS vL ⊢
        refine seq_then fun F9 r9 bb9 cc9 n9 => ?_
        simp (maxSteps := 1000000) only [↓V0, ↓V1, ↓V2, ↓VS0, ↓VS1, ↓VS2, ↓VS3, ↓VS4, ↓VS5, ↓VS6, ↓VS7, ↓VS8, ↓VS9, ↓VS10, ↓VS11, ↓VS12, ↓VZ0, ↓VE0, defFin, entry, slotA, List.map_cons, List.map_nil, List.length_cons, List.length_nil, List.cons_append, List.nil_append, List.replicate_succ, List.replicate_zero, List.getElem?_cons_zero, List.getElem?_cons_succ, flatR, flatD, if_true, if_false, eq_self, true_and, and_true, Bool.false_eq_true, reduceCtorEq, z_bs1, z_bs2, z_bs3, z_bs4, z_wipe0, z_wipe1, List.set_cons_zero, List.set_cons_succ, ↓V_call l_draw, ↓V_call l_stand, ↓V_call l_deed, ↓V_call l_keyed, ↓V_call l_exch, ↓V_call l_done, ↓V_callk l_done, ↓V_call l_sp, ↓V_call l_derr, ↓V_callk l_derr, ↓V_call l_due, ↓k_draw, ↓k_standing, ↓k_keyed, ↓k_deed, ↓sub_deed0]
        refine sm_repr (n := 4) (by refine sm_list (by simp only [lim]; omega) vS) (by decide) ?_
        generalize hk2 : (PyData.list vals).shown = bef
        simp (maxSteps := 1000000) only [↓V0, ↓V1, ↓V2, ↓VS0, ↓VS1, ↓VS2, ↓VS3, ↓VS4, ↓VS5, ↓VS6, ↓VS7, ↓VS8, ↓VS9, ↓VS10, ↓VS11, ↓VS12, ↓VZ0, ↓VE0, defFin, entry, slotA, List.map_cons, List.map_nil, List.length_cons, List.length_nil, List.cons_append, List.nil_append, List.replicate_succ, List.replicate_zero, List.getElem?_cons_zero, List.getElem?_cons_succ, flatR, flatD, if_true, if_false, eq_self, true_and, and_true, Bool.false_eq_true, reduceCtorEq, z_bs1, z_bs2, z_bs3, z_bs4, z_wipe0, z_wipe1, List.set_cons_zero, List.set_cons_succ, ↓V_call l_draw, ↓V_call l_stand, ↓V_call l_deed, ↓V_call l_keyed, ↓V_call l_exch, ↓V_call l_done, ↓V_callk l_done, ↓V_call l_sp, ↓V_call l_derr, ↓V_callk l_derr, ↓V_call l_due, ↓k_draw, ↓k_standing, ↓k_keyed, ↓k_deed, ↓sub_deed0]
        refine n9 _ ?_
        refine seq_then fun F10 r10 bb10 cc10 n10 => ?_
        simp (maxSteps := 1000000) only [↓V0, ↓V1, ↓V2, ↓VS0, ↓VS1, ↓VS2, ↓VS3, ↓VS4, ↓VS5, ↓VS6, ↓VS7, ↓VS8, ↓VS9, ↓VS10, ↓VS11, ↓VS12, ↓VZ0, ↓VE0, defFin, entry, slotA, List.map_cons, List.map_nil, List.length_cons, List.length_nil, List.cons_append, List.nil_append, List.replicate_succ, List.replicate_zero, List.getElem?_cons_zero, List.getElem?_cons_succ, flatR, flatD, if_true, if_false, eq_self, true_and, and_true, Bool.false_eq_true, reduceCtorEq, z_bs1, z_bs2, z_bs3, z_bs4, z_wipe0, z_wipe1, List.set_cons_zero, List.set_cons_succ, ↓V_call l_draw, ↓V_call l_stand, ↓V_call l_deed, ↓V_call l_keyed, ↓V_call l_exch, ↓V_call l_done, ↓V_callk l_done, ↓V_call l_sp, ↓V_call l_derr, ↓V_callk l_derr, ↓V_call l_due, ↓k_draw, ↓k_standing, ↓k_keyed, ↓k_deed, ↓sub_deed0]
        refine ⟨by omega, ?_⟩
        generalize hb2 : bodyF _ _ _ _ = bd2
        
        refine fr_all (fun ρ => ∃ s11 s12 s13 s14 : Sl, ρ = [.no, .dk, .im (.int t), .im (.int m), .im (deedD ls a b), .im (.tuple (intsD ns)), .im (.tuple (intsD ms)), .im (.list vals), .im (.str bef), .im (.str kept), .im (.tuple (intsD ms)), s11, s12, s13, s14]) _ (fun d ρ hd hI F2 hr2 nx2 ct2 => ?_) (fun ρ hI => ?_) ⟨_, _, _, _, rfl⟩
        rotate_left
        · obtain ⟨s11, s12, s13, s14, rfl⟩ := hI
          refine n10 _ ?_
          simp (maxSteps := 1000000) only [↓V0, ↓V1, ↓V2, ↓VS0, ↓VS1, ↓VS2, ↓VS3, ↓VS4, ↓VS5, ↓VS6, ↓VS7, ↓VS8, ↓VS9, ↓VS10, ↓VS11, ↓VS12, ↓VZ0, ↓VE0, defFin, entry, slotA, List.map_cons, List.map_nil, List.length_cons, List.length_nil, List.cons_append, List.nil_append, List.replicate_succ, List.replicate_zero, List.getElem?_cons_zero, List.getElem?_cons_succ, flatR, flatD, if_true, if_false, eq_self, true_and, and_true, Bool.false_eq_true, reduceCtorEq, z_bs1, z_bs2, z_bs3, z_bs4, z_wipe0, z_wipe1, List.set_cons_zero, List.set_cons_succ, ↓V_call l_draw, ↓V_call l_stand, ↓V_call l_deed, ↓V_call l_keyed, ↓V_call l_exch, ↓V_call l_done, ↓V_callk l_done, ↓V_call l_sp, ↓V_call l_derr, ↓V_callk l_derr, ↓V_call l_due, ↓k_draw, ↓k_standing, ↓k_keyed, ↓k_deed, ↓sub_deed0]
          refine sm_repr (n := 4) (by refine sm_list (by simp only [lim]; omega) vS) (by decide) ?_
          simp (maxSteps := 1000000) only [↓V0, ↓V1, ↓V2, ↓VS0, ↓VS1, ↓VS2, ↓VS3, ↓VS4, ↓VS5, ↓VS6, ↓VS7, ↓VS8, ↓VS9, ↓VS10, ↓VS11, ↓VS12, ↓VZ0, ↓VE0, defFin, entry, slotA, List.map_cons, List.map_nil, List.length_cons, List.length_nil, List.cons_append, List.nil_append, List.replicate_succ, List.replicate_zero, List.getElem?_cons_zero, List.getElem?_cons_succ, flatR, flatD, if_true, if_false, eq_self, true_and, and_true, Bool.false_eq_true, reduceCtorEq, z_bs1, z_bs2, z_bs3, z_bs4, z_wipe0, z_wipe1, List.set_cons_zero, List.set_cons_succ, ↓V_call l_draw, ↓V_call l_stand, ↓V_call l_deed, ↓V_call l_keyed, ↓V_call l_exch, ↓V_call l_done, ↓V_callk l_done, ↓V_call l_sp, ↓V_call l_derr, ↓V_callk l_derr, ↓V_call l_due, ↓k_draw, ↓k_standing, ↓k_keyed, ↓k_deed, ↓sub_deed0, hk2]
          simp only [decide_true, Bool.not_true, Bool.false_eq_true, if_false]
          exact nx _ ⟨_, _, _, _, _, _, _, _, _, _, _, _, _, rfl⟩
        obtain ⟨s11, s12, s13, s14, rfl⟩ := hI
        obtain ⟨k, v, hv, rfl⟩ := enL_mem hd
        have hvs := vS v hv
        have hz2 := sm_szV hvs
        rw [← hb2, bodyF_at, asgT_2]
        clear hb2
        change wpSs _ _ _ [.no, .dk, .im (.int t), .im (.int m), .im (deedD ls a b), .im (.tuple (intsD ns)), .im (.tuple (intsD ms)), .im (.list vals), .im (.str bef), .im (.str kept), .im (.tuple (intsD ms)), .im (.int (k : Nat)), .im v, s13, s14] _
        refine seq_then fun F11 r11 bb11 cc11 n11 => ?_
        have fnd : F11.nx [.no, .dk, .im (.int t), .im (.int m), .im (deedD ls a b), .im (.tuple (intsD ns)), .im (.tuple (intsD ms)), .im (.list vals), .im (.str bef), .im (.str kept), .im (.tuple (intsD ms)), .im (.int (k : Nat)), .im v, .im (dErr m v), s14] := by
          refine n11 _ ?_
          simp (maxSteps := 1000000) only [↓V0, ↓V1, ↓V2, ↓VS0, ↓VS1, ↓VS2, ↓VS3, ↓VS4, ↓VS5, ↓VS6, ↓VS7, ↓VS8, ↓VS9, ↓VS10, ↓VS11, ↓VS12, ↓VZ0, ↓VE0, defFin, entry, slotA, List.map_cons, List.map_nil, List.length_cons, List.length_nil, List.cons_append, List.nil_append, List.replicate_succ, List.replicate_zero, List.getElem?_cons_zero, List.getElem?_cons_succ, flatR, flatD, if_true, if_false, eq_self, true_and, and_true, Bool.false_eq_true, reduceCtorEq, z_bs1, z_bs2, z_bs3, z_bs4, z_wipe0, z_wipe1, List.set_cons_zero, List.set_cons_succ, ↓V_call l_draw, ↓V_call l_stand, ↓V_call l_deed, ↓V_call l_keyed, ↓V_call l_exch, ↓V_call l_done, ↓V_callk l_done, ↓V_call l_sp, ↓V_call l_derr, ↓V_callk l_derr, ↓V_call l_due, ↓k_draw, ↓k_standing, ↓k_keyed, ↓k_deed, ↓sub_deed0]
          refine sm_repr (n := 0) dErr_sm (by decide) ?_
          simp (maxSteps := 1000000) only [↓V0, ↓V1, ↓V2, ↓VS0, ↓VS1, ↓VS2, ↓VS3, ↓VS4, ↓VS5, ↓VS6, ↓VS7, ↓VS8, ↓VS9, ↓VS10, ↓VS11, ↓VS12, ↓VZ0, ↓VE0, defFin, entry, slotA, List.map_cons, List.map_nil, List.length_cons, List.length_nil, List.cons_append, List.nil_append, List.replicate_succ, List.replicate_zero, List.getElem?_cons_zero, List.getElem?_cons_succ, flatR, flatD, if_true, if_false, eq_self, true_and, and_true, Bool.false_eq_true, reduceCtorEq, z_bs1, z_bs2, z_bs3, z_bs4, z_wipe0, z_wipe1, List.set_cons_zero, List.set_cons_succ, ↓V_call l_draw, ↓V_call l_stand, ↓V_call l_deed, ↓V_call l_keyed, ↓V_call l_exch, ↓V_call l_done, ↓V_callk l_done, ↓V_call l_sp, ↓V_call l_derr, ↓V_callk l_derr, ↓V_call l_due, ↓k_draw, ↓k_standing, ↓k_keyed, ↓k_deed, ↓sub_deed0]
          refine k_due m v hz2 ?_
          simp (maxSteps := 1000000) only [↓V0, ↓V1, ↓V2, ↓VS0, ↓VS1, ↓VS2, ↓VS3, ↓VS4, ↓VS5, ↓VS6, ↓VS7, ↓VS8, ↓VS9, ↓VS10, ↓VS11, ↓VS12, ↓VZ0, ↓VE0, defFin, entry, slotA, List.map_cons, List.map_nil, List.length_cons, List.length_nil, List.cons_append, List.nil_append, List.replicate_succ, List.replicate_zero, List.getElem?_cons_zero, List.getElem?_cons_succ, flatR, flatD, if_true, if_false, eq_self, true_and, and_true, Bool.false_eq_true, reduceCtorEq, z_bs1, z_bs2, z_bs3, z_bs4, z_wipe0, z_wipe1, List.set_cons_zero, List.set_cons_succ, ↓V_call l_draw, ↓V_call l_stand, ↓V_call l_deed, ↓V_call l_keyed, ↓V_call l_exch, ↓V_call l_done, ↓V_callk l_done, ↓V_call l_sp, ↓V_call l_derr, ↓V_callk l_derr, ↓V_call l_due, ↓k_draw, ↓k_standing, ↓k_keyed, ↓k_deed, ↓sub_deed0]
          refine sm_repr (n := 0) dErr_sm (by decide) ?_
          simp (maxSteps := 1000000) only [↓V0, ↓V1, ↓V2, ↓VS0, ↓VS1, ↓VS2, ↓VS3, ↓VS4, ↓VS5, ↓VS6, ↓VS7, ↓VS8, ↓VS9, ↓VS10, ↓VS11, ↓VS12, ↓VZ0, ↓VE0, defFin, entry, slotA, List.map_cons, List.map_nil, List.length_cons, List.length_nil, List.cons_append, List.nil_append, List.replicate_succ, List.replicate_zero, List.getElem?_cons_zero, List.getElem?_cons_succ, flatR, flatD, if_true, if_false, eq_self, true_and, and_true, Bool.false_eq_true, reduceCtorEq, z_bs1, z_bs2, z_bs3, z_bs4, z_wipe0, z_wipe1, List.set_cons_zero, List.set_cons_succ, ↓V_call l_draw, ↓V_call l_stand, ↓V_call l_deed, ↓V_call l_keyed, ↓V_call l_exch, ↓V_call l_done, ↓V_callk l_done, ↓V_call l_sp, ↓V_call l_derr, ↓V_callk l_derr, ↓V_call l_due, ↓k_draw, ↓k_standing, ↓k_keyed, ↓k_deed, ↓sub_deed0]
          simp only [decide_true, Bool.not_true, Bool.false_eq_true, if_false]
          exact nx2 _ ⟨_, _, _, _, rfl⟩
        simp (maxSteps := 1000000) only [↓V0, ↓V1, ↓V2, ↓VS0, ↓VS1, ↓VS2, ↓VS3, ↓VS4, ↓VS5, ↓VS6, ↓VS7, ↓VS8, ↓VS9, ↓VS10, ↓VS11, ↓VS12, ↓VZ0, ↓VE0, defFin, entry, slotA, List.map_cons, List.map_nil, List.length_cons, List.length_nil, List.cons_append, List.nil_append, List.replicate_succ, List.replicate_zero, List.getElem?_cons_zero, List.getElem?_cons_succ, flatR, flatD, if_true, if_false, eq_self, true_and, and_true, Bool.false_eq_true, reduceCtorEq, z_bs1, z_bs2, z_bs3, z_bs4, z_wipe0, z_wipe1, List.set_cons_zero, List.set_cons_succ, ↓V_call l_draw, ↓V_call l_stand, ↓V_call l_deed, ↓V_call l_keyed, ↓V_call l_exch, ↓V_call l_done, ↓V_callk l_done, ↓V_call l_sp, ↓V_call l_derr, ↓V_callk l_derr, ↓V_call l_due, ↓k_draw, ↓k_standing, ↓k_keyed, ↓k_deed, ↓sub_deed0]
        split
        · refine kk_derr m v hz2 ?_
          simp (maxSteps := 1000000) only [↓V0, ↓V1, ↓V2, ↓VS0, ↓VS1, ↓VS2, ↓VS3, ↓VS4, ↓VS5, ↓VS6, ↓VS7, ↓VS8, ↓VS9, ↓VS10, ↓VS11, ↓VS12, ↓VZ0, ↓VE0, defFin, entry, slotA, List.map_cons, List.map_nil, List.length_cons, List.length_nil, List.cons_append, List.nil_append, List.replicate_succ, List.replicate_zero, List.getElem?_cons_zero, List.getElem?_cons_succ, flatR, flatD, if_true, if_false, eq_self, true_and, and_true, Bool.false_eq_true, reduceCtorEq, z_bs1, z_bs2, z_bs3, z_bs4, z_wipe0, z_wipe1, List.set_cons_zero, List.set_cons_succ, ↓V_call l_draw, ↓V_call l_stand, ↓V_call l_deed, ↓V_call l_keyed, ↓V_call l_exch, ↓V_call l_done, ↓V_callk l_done, ↓V_call l_sp, ↓V_call l_derr, ↓V_callk l_derr, ↓V_call l_due, ↓k_draw, ↓k_standing, ↓k_keyed, ↓k_deed, ↓sub_deed0]
          exact fnd
        · refine k_derr m v hz2 ?_
          simp (maxSteps := 1000000) only [↓V0, ↓V1, ↓V2, ↓VS0, ↓VS1, ↓VS2, ↓VS3, ↓VS4, ↓VS5, ↓VS6, ↓VS7, ↓VS8, ↓VS9, ↓VS10, ↓VS11, ↓VS12, ↓VZ0, ↓VE0, defFin, entry, slotA, List.map_cons, List.map_nil, List.length_cons, List.length_nil, List.cons_append, List.nil_append, List.replicate_succ, List.replicate_zero, List.getElem?_cons_zero, List.getElem?_cons_succ, flatR, flatD, if_true, if_false, eq_self, true_and, and_true, Bool.false_eq_true, reduceCtorEq, z_bs1, z_bs2, z_bs3, z_bs4, z_wipe0, z_wipe1, List.set_cons_zero, List.set_cons_succ, ↓V_call l_draw, ↓V_call l_stand, ↓V_call l_deed, ↓V_call l_keyed, ↓V_call l_exch, ↓V_call l_done, ↓V_callk l_done, ↓V_call l_sp, ↓V_call l_derr, ↓V_callk l_derr, ↓V_call l_due, ↓k_draw, ↓k_standing, ↓k_keyed, ↓k_deed, ↓sub_deed0]
          exact fnd
      simp (maxSteps := 1000000) only [↓V0, ↓V1, ↓V2, ↓VS0, ↓VS1, ↓VS2, ↓VS3, ↓VS4, ↓VS5, ↓VS6, ↓VS7, ↓VS8, ↓VS9, ↓VS10, ↓VS11, ↓VS12, ↓VZ0, ↓VE0, defFin, entry, slotA, List.map_cons, List.map_nil, List.length_cons, List.length_nil, List.cons_append, List.nil_append, List.replicate_succ, List.replicate_zero, List.getElem?_cons_zero, List.getElem?_cons_succ, flatR, flatD, if_true, if_false, eq_self, true_and, and_true, Bool.false_eq_true, reduceCtorEq, z_bs1, z_bs2, z_bs3, z_bs4, z_wipe0, z_wipe1, List.set_cons_zero, List.set_cons_succ, ↓V_call l_draw, ↓V_call l_stand, ↓V_call l_deed, ↓V_call l_keyed, ↓V_call l_exch, ↓V_call l_done, ↓V_callk l_done, ↓V_call l_sp, ↓V_call l_derr, ↓V_callk l_derr, ↓V_call l_due, ↓k_draw, ↓k_standing, ↓k_keyed, ↓k_deed, ↓sub_deed0]
      split
      · refine kk_done ns ls a b hf ?_
        simp (maxSteps := 1000000) only [↓V0, ↓V1, ↓V2, ↓VS0, ↓VS1, ↓VS2, ↓VS3, ↓VS4, ↓VS5, ↓VS6, ↓VS7, ↓VS8, ↓VS9, ↓VS10, ↓VS11, ↓VS12, ↓VZ0, ↓VE0, defFin, entry, slotA, List.map_cons, List.map_nil, List.length_cons, List.length_nil, List.cons_append, List.nil_append, List.replicate_succ, List.replicate_zero, List.getElem?_cons_zero, List.getElem?_cons_succ, flatR, flatD, if_true, if_false, eq_self, true_and, and_true, Bool.false_eq_true, reduceCtorEq, z_bs1, z_bs2, z_bs3, z_bs4, z_wipe0, z_wipe1, List.set_cons_zero, List.set_cons_succ, ↓V_call l_draw, ↓V_call l_stand, ↓V_call l_deed, ↓V_call l_keyed, ↓V_call l_exch, ↓V_call l_done, ↓V_callk l_done, ↓V_call l_sp, ↓V_call l_derr, ↓V_callk l_derr, ↓V_call l_due, ↓k_draw, ↓k_standing, ↓k_keyed, ↓k_deed, ↓sub_deed0]
        exact told
      · refine k_done ns ls a b hf ?_
        simp (maxSteps := 1000000) only [↓V0, ↓V1, ↓V2, ↓VS0, ↓VS1, ↓VS2, ↓VS3, ↓VS4, ↓VS5, ↓VS6, ↓VS7, ↓VS8, ↓VS9, ↓VS10, ↓VS11, ↓VS12, ↓VZ0, ↓VE0, defFin, entry, slotA, List.map_cons, List.map_nil, List.length_cons, List.length_nil, List.cons_append, List.nil_append, List.replicate_succ, List.replicate_zero, List.getElem?_cons_zero, List.getElem?_cons_succ, flatR, flatD, if_true, if_false, eq_self, true_and, and_true, Bool.false_eq_true, reduceCtorEq, z_bs1, z_bs2, z_bs3, z_bs4, z_wipe0, z_wipe1, List.set_cons_zero, List.set_cons_succ, ↓V_call l_draw, ↓V_call l_stand, ↓V_call l_deed, ↓V_call l_keyed, ↓V_call l_exch, ↓V_call l_done, ↓V_callk l_done, ↓V_call l_sp, ↓V_call l_derr, ↓V_callk l_derr, ↓V_call l_due, ↓k_draw, ↓k_standing, ↓k_keyed, ↓k_deed, ↓sub_deed0]
        exact told
    simp (maxSteps := 1000000) only [↓V0, ↓V1, ↓V2, ↓VS0, ↓VS1, ↓VS2, ↓VS3, ↓VS4, ↓VS5, ↓VS6, ↓VS7, ↓VS8, ↓VS9, ↓VS10, ↓VS11, ↓VS12, ↓VZ0, ↓VE0, defFin, entry, slotA, List.map_cons, List.map_nil, List.length_cons, List.length_nil, List.cons_append, List.nil_append, List.replicate_succ, List.replicate_zero, List.getElem?_cons_zero, List.getElem?_cons_succ, flatR, flatD, if_true, if_false, eq_self, true_and, and_true, Bool.false_eq_true, reduceCtorEq, z_bs1, z_bs2, z_bs3, z_bs4, z_wipe0, z_wipe1, List.set_cons_zero, List.set_cons_succ, ↓V_call l_draw, ↓V_call l_stand, ↓V_call l_deed, ↓V_call l_keyed, ↓V_call l_exch, ↓V_call l_done, ↓V_callk l_done, ↓V_call l_sp, ↓V_call l_derr, ↓V_callk l_derr, ↓V_call l_due, ↓k_draw, ↓k_standing, ↓k_keyed, ↓k_deed, ↓sub_deed0]
    have := hD.len
    split
    · refine ⟨by decide, ⟨by omega, by omega⟩, fun ns nl nok => ⟨⟨by omega, by omega, nok⟩, fun ms ml mok => ?_⟩⟩
      exact std ms (by omega) mok
    · exact ⟨by decide, ⟨by omega, by omega⟩, fun ns nl nok => std ns nl nok⟩
  simp (maxSteps := 1000000) only [↓V0, ↓V1, ↓V2, ↓VS0, ↓VS1, ↓VS2, ↓VS3, ↓VS4, ↓VS5, ↓VS6, ↓VS7, ↓VS8, ↓VS9, ↓VS10, ↓VS11, ↓VS12, ↓VZ0, ↓VE0, defFin, entry, slotA, List.map_cons, List.map_nil, List.length_cons, List.length_nil, List.cons_append, List.nil_append, List.replicate_succ, List.replicate_zero, List.getElem?_cons_zero, List.getElem?_cons_succ, flatR, flatD, if_true, if_false, eq_self, true_and, and_true, Bool.false_eq_true, reduceCtorEq, z_bs1, z_bs2, z_bs3, z_bs4, z_wipe0, z_wipe1, List.set_cons_zero, List.set_cons_succ, ↓V_call l_draw, ↓V_call l_stand, ↓V_call l_deed, ↓V_call l_keyed, ↓V_call l_exch, ↓V_call l_done, ↓V_callk l_done, ↓V_call l_sp, ↓V_call l_derr, ↓V_callk l_derr, ↓V_call l_due, ↓k_draw, ↓k_standing, ↓k_keyed, ↓k_deed, ↓sub_deed0]
  split
  · exact ⟨by decide, fun r a b => many _ (by omega) (by omega)⟩
  · exact ⟨by decide, fun r a b => many _ (by omega) (by omega)⟩
end K05
end KR

end
section
set_option Elab.async false
set_option linter.all false
set_option maxRecDepth 100000
set_option maxHeartbeats 4000000
namespace KR
open PySem PySem.Spec PyProof.Rows L2
namespace K05
def C0 : Cons := { s_is_integer := s_is_integer, s_is_place := s_is_place, s_lot_error := s_lot_error, s_deed_error := s_deed_error, s_done := s_done, s__law_draw := drawS, s__law_pick := s_pick, s__law_mixed := s_mixed, s__law_standing := s_standing, s__law_deed := s_deed, s__law_is_whole := s_is_whole, s__law_is_lot := s_is_lot, s__law_due := s_due, s__law_exchanged := s_exchanged, s__law_spoilt := s_spoilt, s__law_keyed := s_keyed }
def d_is_integer : He.DefD := ⟨("is_integer", none), "is_integer", "is_integer", defArgs (top 1), defBody (top 1), defScope (top 1), [], []⟩
def d_is_place : He.DefD := ⟨("is_place", none), "is_place", "is_place", defArgs (top 2), defBody (top 2), defScope (top 2), [], []⟩
def d_lot_error : He.DefD := ⟨("lot_error", none), "lot_error", "lot_error", defArgs (top 3), defBody (top 3), defScope (top 3), [], []⟩
def d_deed_error : He.DefD := ⟨("deed_error", none), "deed_error", "deed_error", defArgs (top 5), defBody (top 5), defScope (top 5), [], []⟩
def d_done : He.DefD := ⟨("done", none), "done", "done", defArgs (top 6), defBody (top 6), defScope (top 6), [], []⟩
def d__law_deck : He.DefD := ⟨("_law_deck", none), "_law_deck", "_law_deck", defArgs (top 8), defBody (top 8), defScope (top 8), [], []⟩
def d__law_draw : He.DefD := ⟨("_law_draw", none), "_law_draw", "_law_draw", defArgs (top 9), defBody (top 9), defScope (top 9), [], []⟩
def d__law_pick : He.DefD := ⟨("_law_pick", none), "_law_pick", "_law_pick", defArgs (top 10), defBody (top 10), defScope (top 10), [], []⟩
def d__law_mixed : He.DefD := ⟨("_law_mixed", none), "_law_mixed", "_law_mixed", defArgs (top 11), defBody (top 11), defScope (top 11), [], []⟩
def d__law_standing : He.DefD := ⟨("_law_standing", none), "_law_standing", "_law_standing", defArgs (top 12), defBody (top 12), defScope (top 12), [], []⟩
def d__law_deed : He.DefD := ⟨("_law_deed", none), "_law_deed", "_law_deed", defArgs (top 13), defBody (top 13), defScope (top 13), [], []⟩
def d__law_is_whole : He.DefD := ⟨("_law_is_whole", none), "_law_is_whole", "_law_is_whole", defArgs (top 14), defBody (top 14), defScope (top 14), [], []⟩
def d__law_is_lot : He.DefD := ⟨("_law_is_lot", none), "_law_is_lot", "_law_is_lot", defArgs (top 15), defBody (top 15), defScope (top 15), [], []⟩
def d__law_due : He.DefD := ⟨("_law_due", none), "_law_due", "_law_due", defArgs (top 16), defBody (top 16), defScope (top 16), [], []⟩
def d__law_exchanged : He.DefD := ⟨("_law_exchanged", none), "_law_exchanged", "_law_exchanged", defArgs (top 17), defBody (top 17), defScope (top 17), [], []⟩
def d__law_spoilt : He.DefD := ⟨("_law_spoilt", none), "_law_spoilt", "_law_spoilt", defArgs (top 18), defBody (top 18), defScope (top 18), [], []⟩
def d__law_keyed : He.DefD := ⟨("_law_keyed", none), "_law_keyed", "_law_keyed", defArgs (top 19), defBody (top 19), defScope (top 19), [], []⟩
def d_law : He.DefD := ⟨("law", none), "law", "law", defArgs (top 20), defBody (top 20), defScope (top 20), [], []⟩
def fn : List He.DefD := [d_is_integer, d_is_place, d_lot_error, d_deed_error, d_done, d__law_deck, d__law_draw, d__law_pick, d__law_mixed, d__law_standing, d__law_deed, d__law_is_whole, d__law_is_lot, d__law_due, d__law_exchanged, d__law_spoilt, d__law_keyed, d_law]
def fa : List He.Fa := [.glo "is_integer", .glo "is_place", .glo "lot_error", .glo "deed_error", .glo "done", .glo "_law_deck", .glo "_law_draw", .glo "_law_pick", .glo "_law_mixed", .glo "_law_standing", .glo "_law_deed", .glo "_law_is_whole", .glo "_law_is_lot", .glo "_law_due", .glo "_law_exchanged", .glo "_law_spoilt", .glo "_law_keyed", .glo "law", .free "abs", .free "any", .free "bool", .free "enumerate", .free "int", .free "isinstance", .free "len", .free "list", .free "max", .free "min", .free "range", .free "repr", .free "sorted", .free "tuple", .free "zip"]
section
variable {P : Program} {w : World} {K : PySem.W.Frag} {mg : Str → Option Value} {h : Heap}
theorem free_all (X : K.In h) (G : h.Ns mainGlobals mg) (c : He.SaysD fa fn K) : ∀ n ∈ free, mg n = none := by
  intro n hn
  simp only [free, List.mem_cons, List.not_mem_nil, or_false] at hn
  rcases hn with rfl | rfl | rfl | rfl | rfl | rfl | rfl | rfl | rfl | rfl | rfl | rfl | rfl | rfl | rfl
  · exact He.free_ok X G (c.fact 18 (f := .free "abs") rfl)
  · exact He.free_ok X G (c.fact 19 (f := .free "any") rfl)
  · exact He.free_ok X G (c.fact 20 (f := .free "bool") rfl)
  · exact He.free_ok X G (c.fact 21 (f := .free "enumerate") rfl)
  · exact He.free_ok X G (c.fact 22 (f := .free "int") rfl)
  · exact He.free_ok X G (c.fact 23 (f := .free "isinstance") rfl)
  · exact He.free_ok X G (c.fact 24 (f := .free "len") rfl)
  · exact He.free_ok X G (c.fact 25 (f := .free "list") rfl)
  · exact He.free_ok X G (c.fact 26 (f := .free "max") rfl)
  · exact He.free_ok X G (c.fact 27 (f := .free "min") rfl)
  · exact He.free_ok X G (c.fact 28 (f := .free "range") rfl)
  · exact He.free_ok X G (c.fact 29 (f := .free "repr") rfl)
  · exact He.free_ok X G (c.fact 30 (f := .free "sorted") rfl)
  · exact He.free_ok X G (c.fact 31 (f := .free "tuple") rfl)
  · exact He.free_ok X G (c.fact 32 (f := .free "zip") rfl)
theorem gls_all (X : K.In h) (G : h.Ns mainGlobals mg) (c : He.SaysD fa fn K) : ∀ x d, (gls : List (Str × D)).lookup x = some d → ∃ v u, mg x = some u ∧ RelV v u ∧ ∀ B, Rp K B d v := by
  intro x d e
  unfold gls at e
  cases e
theorem all_ok (X : K.In h) (G : h.Ns mainGlobals mg) (c : He.SaysD fa fn K) (sy : ∃ o, K.lookup sysModules = some o) (cad : Str → Addr) : ∃ (f : Addr) (fd : FuncData), mg ("law" : Str) = some (.ref f) ∧ (∀ (s : Shared) (v : Value), BindsTo s fd ⟨[v], []⟩ [("script", v)]) ∧ ∀ base : Heap, GnOk P w K mg base 23 f fd ["script"] (spLaw K) := by
  have hf := free_all X G c
  have hg := gls_all X G c
  obtain ⟨fdL, FL⟩ := c.def_ 17 (d := d_law) rfl
  refine ⟨_, fdL, He.glo_ok X G (c.fact 17 (f := .glo "law") rfl), fun s v => FunD.bindsA (ps := ["script"]) FL (fun _ _ _ _ _ _ us hl => match us, hl with | [_], _ => rfl) s [v] rfl, fun base => ?_⟩
  have gb : ∀ (Γ : Ctx) (N : List Str) (k : Nat), N.Nodup → Γ.free = free → Γ.gls = gls → FnsOk P w ⟨deckW, K, cad, Γ⟩ mg base k Γ.fns Γ.fks → Gb P w ⟨deckW, K, cad, Γ⟩ mg base N k := fun Γ N k nd e1 e2 f => ⟨f, by show ∀ n ∈ Γ.free, _; rw [e1]; exact hf, by show ∀ x d, Γ.gls.lookup x = some d → _; rw [e2]; exact hg, sy, nd⟩
  have a0 : FnsOk P w ⟨deckW, K, cad, Γ_is_integer C0⟩ mg base 0 [] fks := fun x S e => by cases e
  obtain ⟨fd_is_integer, F_is_integer⟩ := c.def_ 0 (d := d_is_integer) rfl
  have m_is_integerg := He.glo_ok X G (c.fact 0 (f := .glo "is_integer") rfl)
  have b_is_integer : Binds K fd_is_integer ["value"] [] := F_is_integer.bindsN fun _ _ _ _ _ _ us hl => match us, hl with | [_], _ => rfl
  have g_is_integer : GnOk P w K mg base 1 _ fd_is_integer ["value"] (lift ⟨deckW, K, cad, Γ_is_integer C0⟩ s_is_integer) := gn_tree (S := s_is_integer) (gb (Γ_is_integer C0) N_is_integer 0 (by decide +kernel) rfl rfl a0) F_is_integer (C8.fnScope_by (by kernel_rfl)) (K05.m_is_integer _) (w_is_integer)
  have k_is_integer : ∀ ks, (("is_integer" : Str), ks) ∈ fks → KB K fd_is_integer ["value"] ks := by
    intro ks hk
    simp only [fks, List.mem_cons, List.not_mem_nil, or_false, Prod.mk.injEq] at hk
    rcases hk with ⟨e1, e⟩ | ⟨e1, e⟩
    · exact absurd e1 (by decide +kernel)
    · exact absurd e1 (by decide +kernel)
  have a_is_integer := fns_snoc (x := "is_integer") (S := s_is_integer) a0 ⟨_, _, g_is_integer, m_is_integerg, F_is_integer.kp, b_is_integer, k_is_integer⟩
  obtain ⟨fd_is_place, F_is_place⟩ := c.def_ 1 (d := d_is_place) rfl
  have m_is_placeg := He.glo_ok X G (c.fact 1 (f := .glo "is_place") rfl)
  have b_is_place : Binds K fd_is_place ["n", "value"] [] := F_is_place.bindsN fun _ _ _ _ _ _ us hl => match us, hl with | [_, _], _ => rfl
  have g_is_place : GnOk P w K mg base 2 _ fd_is_place ["n", "value"] (lift ⟨deckW, K, cad, Γ_is_place C0⟩ s_is_place) := gn_tree (S := s_is_place) (gb (Γ_is_place C0) N_is_place 1 (by decide +kernel) rfl rfl a_is_integer) F_is_place (C8.fnScope_by (by kernel_rfl)) (K05.m_is_place _) (w_is_place (by kernel_rfl))
  have k_is_place : ∀ ks, (("is_place" : Str), ks) ∈ fks → KB K fd_is_place ["n", "value"] ks := by
    intro ks hk
    simp only [fks, List.mem_cons, List.not_mem_nil, or_false, Prod.mk.injEq] at hk
    rcases hk with ⟨e1, e⟩ | ⟨e1, e⟩
    · exact absurd e1 (by decide +kernel)
    · exact absurd e1 (by decide +kernel)
  have a_is_place := fns_snoc (x := "is_place") (S := s_is_place) a_is_integer ⟨_, _, g_is_place, m_is_placeg, F_is_place.kp, b_is_place, k_is_place⟩
  obtain ⟨fd_lot_error, F_lot_error⟩ := c.def_ 2 (d := d_lot_error) rfl
  have m_lot_errorg := He.glo_ok X G (c.fact 2 (f := .glo "lot_error") rfl)
  have b_lot_error : Binds K fd_lot_error ["n", "value"] [] := F_lot_error.bindsN fun _ _ _ _ _ _ us hl => match us, hl with | [_, _], _ => rfl
  have g_lot_error : GnOk P w K mg base 3 _ fd_lot_error ["n", "value"] (lift ⟨deckW, K, cad, Γ_lot_error C0⟩ s_lot_error) := gn_tree (S := s_lot_error) (gb (Γ_lot_error C0) N_lot_error 2 (by decide +kernel) rfl rfl a_is_place) F_lot_error (C8.fnScope_by (by kernel_rfl)) (K05.m_lot_error _) (w_lot_error (by kernel_rfl))
  have k_lot_error : ∀ ks, (("lot_error" : Str), ks) ∈ fks → KB K fd_lot_error ["n", "value"] ks := by
    intro ks hk
    simp only [fks, List.mem_cons, List.not_mem_nil, or_false, Prod.mk.injEq] at hk
    rcases hk with ⟨e1, e⟩ | ⟨e1, e⟩
    · exact absurd e1 (by decide +kernel)
    · exact absurd e1 (by decide +kernel)
  have a_lot_error := fns_snoc (x := "lot_error") (S := s_lot_error) a_is_place ⟨_, _, g_lot_error, m_lot_errorg, F_lot_error.kp, b_lot_error, k_lot_error⟩
  obtain ⟨fd_deed_error, F_deed_error⟩ := c.def_ 3 (d := d_deed_error) rfl
  have m_deed_errorg := He.glo_ok X G (c.fact 3 (f := .glo "deed_error") rfl)
  have b_deed_error : Binds K fd_deed_error ["n", "value"] [] := F_deed_error.bindsN fun _ _ _ _ _ _ us hl => match us, hl with | [_, _], _ => rfl
  have g_deed_error : GnOk P w K mg base 4 _ fd_deed_error ["n", "value"] (lift ⟨deckW, K, cad, Γ_deed_error C0⟩ s_deed_error) := gn_tree (S := s_deed_error) (gb (Γ_deed_error C0) N_deed_error 3 (by decide +kernel) rfl rfl a_lot_error) F_deed_error (C8.fnScope_by (by kernel_rfl)) (K05.m_deed_error _) (w_deed_error (by kernel_rfl) (by kernel_rfl))
  have k_deed_error : ∀ ks, (("deed_error" : Str), ks) ∈ fks → KB K fd_deed_error ["n", "value"] ks := by
    intro ks hk
    simp only [fks, List.mem_cons, List.not_mem_nil, or_false, Prod.mk.injEq] at hk
    rcases hk with ⟨e1, e⟩ | ⟨e1, e⟩
    · exact absurd e1 (by decide +kernel)
    · subst e
      exact kb_of F_deed_error fun _ _ _ _ _ _ ws hl => match ws, hl with | [_, _], _ => by kernel_rfl
  have a_deed_error := fns_snoc (x := "deed_error") (S := s_deed_error) a_lot_error ⟨_, _, g_deed_error, m_deed_errorg, F_deed_error.kp, b_deed_error, k_deed_error⟩
  obtain ⟨fd_done, F_done⟩ := c.def_ 4 (d := d_done) rfl
  have m_doneg := He.glo_ok X G (c.fact 4 (f := .glo "done") rfl)
  have b_done : Binds K fd_done ["standing", "deed"] [] := F_done.bindsN fun _ _ _ _ _ _ us hl => match us, hl with | [_, _], _ => rfl
  have g_done : GnOk P w K mg base 5 _ fd_done ["standing", "deed"] (lift ⟨deckW, K, cad, Γ_done C0⟩ s_done) := gn_tree (S := s_done) (gb (Γ_done C0) N_done 4 (by decide +kernel) rfl rfl a_deed_error) F_done (C8.fnScope_by (by kernel_rfl)) (K05.m_done _) (w_done)
  have k_done : ∀ ks, (("done" : Str), ks) ∈ fks → KB K fd_done ["standing", "deed"] ks := by
    intro ks hk
    simp only [fks, List.mem_cons, List.not_mem_nil, or_false, Prod.mk.injEq] at hk
    rcases hk with ⟨e1, e⟩ | ⟨e1, e⟩
    · subst e
      exact kb_of F_done fun _ _ _ _ _ _ ws hl => match ws, hl with | [_, _], _ => by kernel_rfl
    · exact absurd e1 (by decide +kernel)
  have a_done := fns_snoc (x := "done") (S := s_done) a_deed_error ⟨_, _, g_done, m_doneg, F_done.kp, b_done, k_done⟩
  obtain ⟨fd__law_draw, F__law_draw⟩ := c.def_ 6 (d := d__law_draw) rfl
  have m__law_drawg := He.glo_ok X G (c.fact 6 (f := .glo "_law_draw") rfl)
  have b__law_draw : Binds K fd__law_draw ["deck", "many"] [] := F__law_draw.bindsN fun _ _ _ _ _ _ us hl => match us, hl with | [_, _], _ => rfl
  have g__law_draw : GnOk P w K mg base 6 _ fd__law_draw ["deck", "many"] (lift ⟨deckW, K, cad, Γ__law_draw C0⟩ drawS) := raw_draw F__law_draw (hf "int" (by decide +kernel))
  have k__law_draw : ∀ ks, (("_law_draw" : Str), ks) ∈ fks → KB K fd__law_draw ["deck", "many"] ks := by
    intro ks hk
    simp only [fks, List.mem_cons, List.not_mem_nil, or_false, Prod.mk.injEq] at hk
    rcases hk with ⟨e1, e⟩ | ⟨e1, e⟩
    · exact absurd e1 (by decide +kernel)
    · exact absurd e1 (by decide +kernel)
  have a__law_draw := fns_snoc (x := "_law_draw") (S := drawS) a_done ⟨_, _, g__law_draw, m__law_drawg, F__law_draw.kp, b__law_draw, k__law_draw⟩
  obtain ⟨fd__law_pick, F__law_pick⟩ := c.def_ 7 (d := d__law_pick) rfl
  have m__law_pickg := He.glo_ok X G (c.fact 7 (f := .glo "_law_pick") rfl)
  have b__law_pick : Binds K fd__law_pick ["deck", "items"] [] := F__law_pick.bindsN fun _ _ _ _ _ _ us hl => match us, hl with | [_, _], _ => rfl
  have g__law_pick : GnOk P w K mg base 7 _ fd__law_pick ["deck", "items"] (lift ⟨deckW, K, cad, Γ__law_pick C0⟩ s_pick) := gn_tree (S := s_pick) (gb (Γ__law_pick C0) N__law_pick 6 (by decide +kernel) rfl rfl a__law_draw) F__law_pick (C8.fnScope_by (by kernel_rfl)) (K05.m__law_pick _) (w_pick (by kernel_rfl))
  have k__law_pick : ∀ ks, (("_law_pick" : Str), ks) ∈ fks → KB K fd__law_pick ["deck", "items"] ks := by
    intro ks hk
    simp only [fks, List.mem_cons, List.not_mem_nil, or_false, Prod.mk.injEq] at hk
    rcases hk with ⟨e1, e⟩ | ⟨e1, e⟩
    · exact absurd e1 (by decide +kernel)
    · exact absurd e1 (by decide +kernel)
  have a__law_pick := fns_snoc (x := "_law_pick") (S := s_pick) a__law_draw ⟨_, _, g__law_pick, m__law_pickg, F__law_pick.kp, b__law_pick, k__law_pick⟩
  obtain ⟨fd__law_mixed, F__law_mixed⟩ := c.def_ 8 (d := d__law_mixed) rfl
  have m__law_mixedg := He.glo_ok X G (c.fact 8 (f := .glo "_law_mixed") rfl)
  have b__law_mixed : Binds K fd__law_mixed ["deck", "items"] [] := F__law_mixed.bindsN fun _ _ _ _ _ _ us hl => match us, hl with | [_, _], _ => rfl
  have g__law_mixed : GnOk P w K mg base 8 _ fd__law_mixed ["deck", "items"] (lift ⟨deckW, K, cad, Γ__law_mixed C0⟩ s_mixed) := gn_tree (S := s_mixed) (gb (Γ__law_mixed C0) N__law_mixed 7 (by decide +kernel) rfl rfl a__law_pick) F__law_mixed (C8.fnScope_by (by kernel_rfl)) (K05.m__law_mixed _) (w_mixed (by kernel_rfl))
  have k__law_mixed : ∀ ks, (("_law_mixed" : Str), ks) ∈ fks → KB K fd__law_mixed ["deck", "items"] ks := by
    intro ks hk
    simp only [fks, List.mem_cons, List.not_mem_nil, or_false, Prod.mk.injEq] at hk
    rcases hk with ⟨e1, e⟩ | ⟨e1, e⟩
    · exact absurd e1 (by decide +kernel)
    · exact absurd e1 (by decide +kernel)
  have a__law_mixed := fns_snoc (x := "_law_mixed") (S := s_mixed) a__law_pick ⟨_, _, g__law_mixed, m__law_mixedg, F__law_mixed.kp, b__law_mixed, k__law_mixed⟩
  obtain ⟨fd__law_standing, F__law_standing⟩ := c.def_ 9 (d := d__law_standing) rfl
  have m__law_standingg := He.glo_ok X G (c.fact 9 (f := .glo "_law_standing") rfl)
  have b__law_standing : Binds K fd__law_standing ["deck", "many"] [] := F__law_standing.bindsN fun _ _ _ _ _ _ us hl => match us, hl with | [_, _], _ => rfl
  have g__law_standing : GnOk P w K mg base 9 _ fd__law_standing ["deck", "many"] (lift ⟨deckW, K, cad, Γ__law_standing C0⟩ s_standing) := gn_tree (S := s_standing) (gb (Γ__law_standing C0) N__law_standing 8 (by decide +kernel) rfl rfl a__law_mixed) F__law_standing (C8.fnScope_by (by kernel_rfl)) (K05.m__law_standing _) (w_standing (by kernel_rfl) (by kernel_rfl))
  have k__law_standing : ∀ ks, (("_law_standing" : Str), ks) ∈ fks → KB K fd__law_standing ["deck", "many"] ks := by
    intro ks hk
    simp only [fks, List.mem_cons, List.not_mem_nil, or_false, Prod.mk.injEq] at hk
    rcases hk with ⟨e1, e⟩ | ⟨e1, e⟩
    · exact absurd e1 (by decide +kernel)
    · exact absurd e1 (by decide +kernel)
  have a__law_standing := fns_snoc (x := "_law_standing") (S := s_standing) a__law_mixed ⟨_, _, g__law_standing, m__law_standingg, F__law_standing.kp, b__law_standing, k__law_standing⟩
  obtain ⟨fd__law_deed, F__law_deed⟩ := c.def_ 10 (d := d__law_deed) rfl
  have m__law_deedg := He.glo_ok X G (c.fact 10 (f := .glo "_law_deed") rfl)
  have b__law_deed : Binds K fd__law_deed ["deck", "many"] [] := F__law_deed.bindsN fun _ _ _ _ _ _ us hl => match us, hl with | [_, _], _ => rfl
  have g__law_deed : GnOk P w K mg base 10 _ fd__law_deed ["deck", "many"] (lift ⟨deckW, K, cad, Γ__law_deed C0⟩ s_deed) := gn_tree (S := s_deed) (gb (Γ__law_deed C0) N__law_deed 9 (by decide +kernel) rfl rfl a__law_standing) F__law_deed (C8.fnScope_by (by kernel_rfl)) (K05.m__law_deed _) (w_deed (by kernel_rfl) (by kernel_rfl) (by kernel_rfl))
  have k__law_deed : ∀ ks, (("_law_deed" : Str), ks) ∈ fks → KB K fd__law_deed ["deck", "many"] ks := by
    intro ks hk
    simp only [fks, List.mem_cons, List.not_mem_nil, or_false, Prod.mk.injEq] at hk
    rcases hk with ⟨e1, e⟩ | ⟨e1, e⟩
    · exact absurd e1 (by decide +kernel)
    · exact absurd e1 (by decide +kernel)
  have a__law_deed := fns_snoc (x := "_law_deed") (S := s_deed) a__law_standing ⟨_, _, g__law_deed, m__law_deedg, F__law_deed.kp, b__law_deed, k__law_deed⟩
  obtain ⟨fd__law_is_whole, F__law_is_whole⟩ := c.def_ 11 (d := d__law_is_whole) rfl
  have m__law_is_wholeg := He.glo_ok X G (c.fact 11 (f := .glo "_law_is_whole") rfl)
  have b__law_is_whole : Binds K fd__law_is_whole ["value", "low", "high"] [] := F__law_is_whole.bindsN fun _ _ _ _ _ _ us hl => match us, hl with | [_, _, _], _ => rfl
  have g__law_is_whole : GnOk P w K mg base 11 _ fd__law_is_whole ["value", "low", "high"] (lift ⟨deckW, K, cad, Γ__law_is_whole C0⟩ s_is_whole) := gn_tree (S := s_is_whole) (gb (Γ__law_is_whole C0) N__law_is_whole 10 (by decide +kernel) rfl rfl a__law_deed) F__law_is_whole (C8.fnScope_by (by kernel_rfl)) (K05.m__law_is_whole _) (w_is_whole)
  have k__law_is_whole : ∀ ks, (("_law_is_whole" : Str), ks) ∈ fks → KB K fd__law_is_whole ["value", "low", "high"] ks := by
    intro ks hk
    simp only [fks, List.mem_cons, List.not_mem_nil, or_false, Prod.mk.injEq] at hk
    rcases hk with ⟨e1, e⟩ | ⟨e1, e⟩
    · exact absurd e1 (by decide +kernel)
    · exact absurd e1 (by decide +kernel)
  have a__law_is_whole := fns_snoc (x := "_law_is_whole") (S := s_is_whole) a__law_deed ⟨_, _, g__law_is_whole, m__law_is_wholeg, F__law_is_whole.kp, b__law_is_whole, k__law_is_whole⟩
  obtain ⟨fd__law_is_lot, F__law_is_lot⟩ := c.def_ 12 (d := d__law_is_lot) rfl
  have m__law_is_lotg := He.glo_ok X G (c.fact 12 (f := .glo "_law_is_lot") rfl)
  have b__law_is_lot : Binds K fd__law_is_lot ["many", "value"] [] := F__law_is_lot.bindsN fun _ _ _ _ _ _ us hl => match us, hl with | [_, _], _ => rfl
  have g__law_is_lot : GnOk P w K mg base 12 _ fd__law_is_lot ["many", "value"] (lift ⟨deckW, K, cad, Γ__law_is_lot C0⟩ s_is_lot) := gn_tree (S := s_is_lot) (gb (Γ__law_is_lot C0) N__law_is_lot 11 (by decide +kernel) rfl rfl a__law_is_whole) F__law_is_lot (C8.fnScope_by (by kernel_rfl)) (K05.m__law_is_lot _) (w_is_lot (by kernel_rfl))
  have k__law_is_lot : ∀ ks, (("_law_is_lot" : Str), ks) ∈ fks → KB K fd__law_is_lot ["many", "value"] ks := by
    intro ks hk
    simp only [fks, List.mem_cons, List.not_mem_nil, or_false, Prod.mk.injEq] at hk
    rcases hk with ⟨e1, e⟩ | ⟨e1, e⟩
    · exact absurd e1 (by decide +kernel)
    · exact absurd e1 (by decide +kernel)
  have a__law_is_lot := fns_snoc (x := "_law_is_lot") (S := s_is_lot) a__law_is_whole ⟨_, _, g__law_is_lot, m__law_is_lotg, F__law_is_lot.kp, b__law_is_lot, k__law_is_lot⟩
  obtain ⟨fd__law_due, F__law_due⟩ := c.def_ 13 (d := d__law_due) rfl
  have m__law_dueg := He.glo_ok X G (c.fact 13 (f := .glo "_law_due") rfl)
  have b__law_due : Binds K fd__law_due ["many", "value"] [] := F__law_due.bindsN fun _ _ _ _ _ _ us hl => match us, hl with | [_, _], _ => rfl
  have g__law_due : GnOk P w K mg base 13 _ fd__law_due ["many", "value"] (lift ⟨deckW, K, cad, Γ__law_due C0⟩ s_due) := gn_tree (S := s_due) (gb (Γ__law_due C0) N__law_due 12 (by decide +kernel) rfl rfl a__law_is_lot) F__law_due (C8.fnScope_by (by kernel_rfl)) (K05.m__law_due _) (w_due (by kernel_rfl) (by kernel_rfl))
  have k__law_due : ∀ ks, (("_law_due" : Str), ks) ∈ fks → KB K fd__law_due ["many", "value"] ks := by
    intro ks hk
    simp only [fks, List.mem_cons, List.not_mem_nil, or_false, Prod.mk.injEq] at hk
    rcases hk with ⟨e1, e⟩ | ⟨e1, e⟩
    · exact absurd e1 (by decide +kernel)
    · exact absurd e1 (by decide +kernel)
  have a__law_due := fns_snoc (x := "_law_due") (S := s_due) a__law_is_lot ⟨_, _, g__law_due, m__law_dueg, F__law_due.kp, b__law_due, k__law_due⟩
  obtain ⟨fd__law_exchanged, F__law_exchanged⟩ := c.def_ 14 (d := d__law_exchanged) rfl
  have m__law_exchangedg := He.glo_ok X G (c.fact 14 (f := .glo "_law_exchanged") rfl)
  have b__law_exchanged : Binds K fd__law_exchanged ["standing", "deed"] [] := F__law_exchanged.bindsN fun _ _ _ _ _ _ us hl => match us, hl with | [_, _], _ => rfl
  have g__law_exchanged : GnOk P w K mg base 14 _ fd__law_exchanged ["standing", "deed"] (lift ⟨deckW, K, cad, Γ__law_exchanged C0⟩ s_exchanged) := gn_tree (S := s_exchanged) (gb (Γ__law_exchanged C0) N__law_exchanged 13 (by decide +kernel) rfl rfl a__law_due) F__law_exchanged (C8.fnScope_by (by kernel_rfl)) (K05.m__law_exchanged _) (w_exchanged)
  have k__law_exchanged : ∀ ks, (("_law_exchanged" : Str), ks) ∈ fks → KB K fd__law_exchanged ["standing", "deed"] ks := by
    intro ks hk
    simp only [fks, List.mem_cons, List.not_mem_nil, or_false, Prod.mk.injEq] at hk
    rcases hk with ⟨e1, e⟩ | ⟨e1, e⟩
    · exact absurd e1 (by decide +kernel)
    · exact absurd e1 (by decide +kernel)
  have a__law_exchanged := fns_snoc (x := "_law_exchanged") (S := s_exchanged) a__law_due ⟨_, _, g__law_exchanged, m__law_exchangedg, F__law_exchanged.kp, b__law_exchanged, k__law_exchanged⟩
  obtain ⟨fd__law_spoilt, F__law_spoilt⟩ := c.def_ 15 (d := d__law_spoilt) rfl
  have m__law_spoiltg := He.glo_ok X G (c.fact 15 (f := .glo "_law_spoilt") rfl)
  have b__law_spoilt : Binds K fd__law_spoilt ["deck", "many", "deed"] [] := F__law_spoilt.bindsN fun _ _ _ _ _ _ us hl => match us, hl with | [_, _, _], _ => rfl
  have g__law_spoilt : GnOk P w K mg base 15 _ fd__law_spoilt ["deck", "many", "deed"] (lift ⟨deckW, K, cad, Γ__law_spoilt C0⟩ s_spoilt) := gn_tree (S := s_spoilt) (gb (Γ__law_spoilt C0) N__law_spoilt 14 (by decide +kernel) rfl rfl a__law_exchanged) F__law_spoilt (C8.fnScope_by (by kernel_rfl)) (K05.m__law_spoilt _) (w_spoilt (by kernel_rfl) (by kernel_rfl))
  have k__law_spoilt : ∀ ks, (("_law_spoilt" : Str), ks) ∈ fks → KB K fd__law_spoilt ["deck", "many", "deed"] ks := by
    intro ks hk
    simp only [fks, List.mem_cons, List.not_mem_nil, or_false, Prod.mk.injEq] at hk
    rcases hk with ⟨e1, e⟩ | ⟨e1, e⟩
    · exact absurd e1 (by decide +kernel)
    · exact absurd e1 (by decide +kernel)
  have a__law_spoilt := fns_snoc (x := "_law_spoilt") (S := s_spoilt) a__law_exchanged ⟨_, _, g__law_spoilt, m__law_spoiltg, F__law_spoilt.kp, b__law_spoilt, k__law_spoilt⟩
  obtain ⟨fd__law_keyed, F__law_keyed⟩ := c.def_ 16 (d := d__law_keyed) rfl
  have m__law_keyedg := He.glo_ok X G (c.fact 16 (f := .glo "_law_keyed") rfl)
  have b__law_keyed : Binds K fd__law_keyed ["deck", "standing", "lot"] [] := F__law_keyed.bindsN fun _ _ _ _ _ _ us hl => match us, hl with | [_, _, _], _ => rfl
  have g__law_keyed : GnOk P w K mg base 16 _ fd__law_keyed ["deck", "standing", "lot"] (lift ⟨deckW, K, cad, Γ__law_keyed C0⟩ s_keyed) := gn_tree (S := s_keyed) (gb (Γ__law_keyed C0) N__law_keyed 15 (by decide +kernel) rfl rfl a__law_spoilt) F__law_keyed (C8.fnScope_by (by kernel_rfl)) (K05.m__law_keyed _) (w_keyed (by kernel_rfl) (by kernel_rfl))
  have k__law_keyed : ∀ ks, (("_law_keyed" : Str), ks) ∈ fks → KB K fd__law_keyed ["deck", "standing", "lot"] ks := by
    intro ks hk
    simp only [fks, List.mem_cons, List.not_mem_nil, or_false, Prod.mk.injEq] at hk
    rcases hk with ⟨e1, e⟩ | ⟨e1, e⟩
    · exact absurd e1 (by decide +kernel)
    · exact absurd e1 (by decide +kernel)
  have a__law_keyed := fns_snoc (x := "_law_keyed") (S := s_keyed) a__law_spoilt ⟨_, _, g__law_keyed, m__law_keyedg, F__law_keyed.kp, b__law_keyed, k__law_keyed⟩
  obtain ⟨fdD, FD⟩ := c.def_ 5 (d := d__law_deck) rfl
  have gD : GnOk P w K mg base 16 _ fdD ["script"] (spDeck K) := raw_deck FD (hf "int" (by decide +kernel)) (He.free_ok X G (c.fact 18 (f := .free "abs") rfl)) (hf "len" (by decide +kernel))
  have bD : Binds K fdD ["script"] [] := FD.bindsN fun _ _ _ _ _ _ us hl => match us, hl with | [_], _ => rfl
  have gL := raw_law (cad := cad) FL (gb (Γ_law C0) N_law 16 (by decide +kernel) rfl rfl a__law_keyed) gD (He.glo_ok X G (c.fact 5 (f := .glo "_law_deck") rfl)) FD.kp bD (w_law (by kernel_rfl) (by kernel_rfl) (by kernel_rfl) (by kernel_rfl) (by kernel_rfl) (by kernel_rfl) (by kernel_rfl) (by kernel_rfl) (by kernel_rfl))
  exact gL.mono (by decide)
end
abbrev R : PySem.W.OpenRow := PySem.W.OpenLaw.row PySem.Challenge.rw_keyriders_k05_whole_deeds_done_and_twice
abbrev hk : PySem.W.Hook := hookS 5 fa fn
def ob (s : PySem.W.SharedT) : Bool × He.AlD := obsS 5 fa fn (HandSHeadRun.getT s)
theorem ob_eq (s : PySem.W.SharedT) : ob s = hk.obs s.abs := obsS_eq (HandSHeadRun.getT_eq s)
theorem run (w : World) : HandSHeadRun.RunEq R (PySem.W.view R.prog [20]) hk ob 4000 ["is_integer", "is_place", "lot_error", "deed_error", "done", "_law_deck", "_law_draw", "_law_pick", "_law_mixed", "_law_standing", "_law_deed", "_law_is_whole", "_law_is_lot", "_law_due", "_law_exchanged", "_law_spoilt", "_law_keyed"] w := by
  intro os
  kernel_rfl
end K05
end KR
open PySem PySem.W PySem.Calls PyProof.Rows
theorem PySem.Challenge.cw_keyriders_k05_whole_deeds_done_and_twice_holds : PySem.Challenge.rw_keyriders_k05_whole_deeds_done_and_twice.Holds := by
  w_on; o_law
  refine HandSHeadRun.head_any (r := OpenLaw.row PySem.Challenge.rw_keyriders_k05_whole_deeds_done_and_twice) (q := view (OpenLaw.row PySem.Challenge.rw_keyriders_k05_whole_deeds_done_and_twice).prog [20]) (H := KR.K05.hk) (ob := KR.K05.ob) (M := 4000) (loose := ["is_integer", "is_place", "lot_error", "deed_error", "done", "_law_deck", "_law_draw", "_law_pick", "_law_mixed", "_law_standing", "_law_deed", "_law_is_whole", "_law_is_lot", "_law_due", "_law_exchanged", "_law_spoilt", "_law_keyed"]) (d := HandSHeadRun.topDef (OpenLaw.row PySem.Challenge.rw_keyriders_k05_whole_deeds_done_and_twice).prog 20) (kwd := []) KR.K05.ob_eq
    (by kernel_rfl) (fun s => by kernel_rfl) KR.K05.run (by kernel_rfl) (by kernel_rfl) (by kernel_rfl) (by rfl) (by first | assumption | decide +kernel) (by decide +kernel) ⟨rfl, rfl, rfl, rfl, rfl, by decide +kernel⟩ ?hw ?hc
  case hw => w_witness2
  case hc =>
    refine KR.walk_gn (l := PySem.Challenge.rw_keyriders_k05_whole_deeds_done_and_twice) (n := 63) (k := 23) (x := "script") rfl (by decide) (by kernel_rfl) ⟨rfl, by decide, by decide⟩ ?F
    intro w mg fa h Y G hmg0
    obtain ⟨K, KX, sy, c⟩ := Y
    have hmg : mg ("law" : PySem.Str) = some (.ref fa) := by
      have e : (HandSHeadRun.topDef (OpenLaw.row PySem.Challenge.rw_keyriders_k05_whole_deeds_done_and_twice).prog 20).name = ("law" : PySem.Str) := by kernel_rfl
      rw [← e]
      exact hmg0
    obtain ⟨f0, fd, hm, hb, g⟩ := KR.K05.all_ok (P := (PySem.Challenge.rw_keyriders_k05_whole_deeds_done_and_twice).prog) (w := w) KX G c sy (fun _ => 0)
    have ef := hmg.symm.trans hm
    cases ef
    exact ⟨K, fd, KR.spLaw K, KX, hb, fun H a ns hl _ hS => ⟨a, ns, rfl, hS, hl, fun _ => rfl⟩, fun base _ _ => g base⟩

end
