import PyProof.Rows.All
import Wide.All
import OpenK.AllK
import Wide.FinOn
import HandS.ForMost
import HandS.Exc
import HandS.CallSlots
import HandS.Wide
import HandS.Zip
import HandS.TupAny
import HandS.Walk
import HandS.Slots
import KE.KTupSum
import HandS.Deep
import HandS.IsInst
import HandS.Style
import HandS.TupMul
import HandS.SortInts
import HandS.RaiseMore
import HandS.WordsExc
import HandS.Rev
import KE.GoesEnum
import KE.KRevSl
import HandS.Star
import HandS.Flt
import HandS.Conv
import PySem.Challenge.RW_countshelves_k22_whole_local_rule
set_option Elab.async false
set_option linter.all false
set_option maxRecDepth 100000
/-! A layer of closed values, a store of mutable lists and denotations, over HandS. -/
namespace Pd
open PySem L2

/-! ### values -/
inductive D where
  | non | bl (b : Bool) | int (i : Int) | str (x : Str) | tup (xs : List D) | lst (xs : List D) | obj (c : Str) (fs : List D) | scr (xs : List Int) | val (v : V)
/-- a value of a name: a closed one, or the k-th mutable object of the store -/
inductive Val where
  | d (x : D) | cell (k : Nat)
inductive Cell where
  | lst (xs : List D)
abbrev Env := List (Option Val)
abbrev Store := List (Option Cell)
inductive R (α : Type) where
  | ok (a : α) (S : Store) | exc (c : Str) (x : D) (S : Store) | bad
def R.bind {α β : Type} : R α → (α → Store → R β) → R β
  | .ok a S, k => k a S
  | .exc c x S, _ => .exc c x S
  | .bad, _ => .bad
abbrev Ev := Env → Store → R Val
inductive F where
  | nx (Γ : Env) (S : Store) | rt (x : Val) (S : Store) | bk (Γ : Env) (S : Store) | ct (Γ : Env) (S : Store) | exc (c : Str) (x : D) (Γ : Env) (S : Store) | bad
abbrev Sv := Env → Store → F

/-! ### how they stand in the heap -/
structure Gx where
  K : PySem.W.Frag
  cl : Str → Option Addr
  fld : Str → Str
structure Wd where
  m : List (Option Addr)
  hid : List Addr
def Wd.av (w : Wd) (a : Addr) : Prop := some a ∈ w.m ∨ a ∈ w.hid

def SqT' (g : Gx) (w : Wd) (H : Hp) (a : Addr) (vs : List V) : Prop :=
  (Rd H a (.tup vs) ∧ ¬ w.av a) ∨ ∃ (o : Obj) (its : Array Value) (n : Nat), g.K.lookup a = some o ∧ o.cls = .type "tuple" ∧ o.data = .seq its n ∧ its.size ≤ sizeLine ∧ Vals vs its.toList
def SqL' (g : Gx) (w : Wd) (H : Hp) (a : Addr) (vs : List V) : Prop :=
  (Rd H a (.lst vs) ∧ ¬ w.av a) ∨ ∃ (o : Obj) (its : Array Value) (n : Nat), g.K.lookup a = some o ∧ o.cls = .type "list" ∧ o.dict = none ∧ o.data = .seq its n ∧ its.size ≤ sizeLine ∧ Vals vs its.toList
theorem SqL'.sq {g : Gx} {w : Wd} {H : Hp} {a : Addr} {vs : List V} (h : SqL' g w H a vs) : SqL g.K H a vs := by
  rcases h with h | h
  · exact .inl h.1
  · exact .inr h
theorem SqT'.sq {g : Gx} {w : Wd} {H : Hp} {a : Addr} {vs : List V} (h : SqT' g w H a vs) : SqT g.K H a vs := by
  rcases h with h | h
  · exact .inl h.1
  · exact .inr h
mutual
inductive Rep (g : Gx) (w : Wd) (H : Hp) : D → V → Prop
  | non : Rep g w H .non .non
  | bl (b : Bool) : Rep g w H (.bl b) (.bl b)
  | int (i : Int) : Rep g w H (.int i) (.int i)
  | str (x : Str) : Rep g w H (.str x) (.str x)
  | tup {a : Addr} {vs : List V} {ds : List D} : SqT' g w H a vs → RepL g w H ds vs → Rep g w H (.tup ds) (.ref a)
  | lst {a : Addr} {vs : List V} {ds : List D} : H a = some (.lst vs) → ¬ w.av a → RepL g w H ds vs → Rep g w H (.lst ds) (.ref a)
  | obj {a C dx : Addr} {c : Str} {vs : List V} {ds : List D} : g.cl c = some C → H a = some (SlX.SlO a C dx (vs.map some)) → H dx = some (.xd []) → ¬ w.av a → ¬ w.av dx → RepL g w H ds vs → Rep g w H (.obj c ds) (.ref a)
  | scr {a : Addr} {ns : List Int} : SqL' g w H a (ns.map V.int) → Rep g w H (.scr ns) (.ref a)
  | val (v : V) : Rep g w H (.val v) v
inductive RepL (g : Gx) (w : Wd) (H : Hp) : List D → List V → Prop
  | nil : RepL g w H [] []
  | cons {d : D} {v : V} {ds : List D} {vs : List V} : Rep g w H d v → RepL g w H ds vs → RepL g w H (d :: ds) (v :: vs)
end
def RepV (g : Gx) (w : Wd) (H : Hp) : Val → V → Prop
  | .d x, v => Rep g w H x v
  | .cell k, v => k < w.m.length ∧ ∀ a, w.m[k]? = some (some a) → v = .ref a
inductive RepVs (g : Gx) (w : Wd) (H : Hp) : List Val → List V → Prop
  | nil : RepVs g w H [] []
  | cons {d : Val} {v : V} {ds : List Val} {vs : List V} : RepV g w H d v → RepVs g w H ds vs → RepVs g w H (d :: ds) (v :: vs)

/-- what a step may do: objects that are not set apart stay -/
structure Le (w : Wd) (H : Hp) (w' : Wd) (H' : Hp) : Prop where
  av : ∀ a, w'.av a → w.av a ∨ H a = none
  keep : ∀ a o, H a = some o → ¬ w.av a → H' a = some o
  trk : ∀ a, H a ≠ none → H' a ≠ none
  hk : ∀ a ∈ w.hid, H' a = H a
theorem Le.refl (w : Wd) (H : Hp) : Le w H w H := ⟨fun _ h => .inl h, fun _ _ h _ => h, fun _ h => h, fun _ _ => rfl⟩
theorem Le.navk {w w' : Wd} {H H' : Hp} (l : Le w H w' H') {a : Addr} {o : HO} (h : H a = some o) (n : ¬ w.av a) : ¬ w'.av a := fun z => by
  rcases l.av a z with q | q
  · exact n q
  · rw [h] at q; cases q
theorem Le.trans {w w1 w2 : Wd} {H H1 H2 : Hp} (l : Le w H w1 H1) (r : Le w1 H1 w2 H2) (hid : ∀ a ∈ w.hid, a ∈ w1.hid) : Le w H w2 H2 where
  av := fun a z => by
    rcases r.av a z with q | q
    · exact l.av a q
    · refine .inr ?_
      cases e : H a with
      | none => rfl
      | some o => exact absurd q (l.trk a (by rw [e]; exact fun z => by cases z))
  keep := fun a o h n => r.keep a o (l.keep a o h n) (l.navk h n)
  trk := fun a h => r.trk a (l.trk a h)
  hk := fun a h => (r.hk a (hid a h)).trans (l.hk a h)

section
variable {g : Gx} {w w' : Wd} {H H' : Hp}
theorem SqT'.le (l : Le w H w' H') {a : Addr} {vs : List V} (h : SqT' g w H a vs) : SqT' g w' H' a vs := by
  rcases h with ⟨h | ⟨o, h⟩, n⟩ | h
  · exact .inl ⟨.inl (l.keep _ _ h n), l.navk h n⟩
  · exact .inl ⟨.inr ⟨o, l.keep _ _ h n⟩, l.navk h n⟩
  · exact .inr h
theorem SqL'.le (l : Le w H w' H') {a : Addr} {vs : List V} (h : SqL' g w H a vs) : SqL' g w' H' a vs := by
  rcases h with ⟨h | ⟨o, h⟩, n⟩ | h
  · exact .inl ⟨.inl (l.keep _ _ h n), l.navk h n⟩
  · exact .inl ⟨.inr ⟨o, l.keep _ _ h n⟩, l.navk h n⟩
  · exact .inr h
mutual
theorem Rep.le (l : Le w H w' H') : ∀ {d : D} {v : V}, Rep g w H d v → Rep g w' H' d v
  | _, _, .non => .non
  | _, _, .bl b => .bl b
  | _, _, .int i => .int i
  | _, _, .str x => .str x
  | _, _, .tup h r => .tup (h.le l) (RepL.le l r)
  | _, _, .lst h n r => .lst (l.keep _ _ h n) (l.navk h n) (RepL.le l r)
  | _, _, .obj c h e n n2 r => .obj c (l.keep _ _ h n) (l.keep _ _ e n2) (l.navk h n) (l.navk e n2) (RepL.le l r)
  | _, _, .scr h => .scr (h.le l)
  | _, _, .val v => .val v
theorem RepL.le (l : Le w H w' H') : ∀ {d : List D} {v : List V}, RepL g w H d v → RepL g w' H' d v
  | _, _, .nil => .nil
  | _, _, .cons h r => .cons (Rep.le l h) (RepL.le l r)
end
theorem RepL.length : ∀ {d : List D} {v : List V}, RepL g w H d v → d.length = v.length
  | _, _, .nil => rfl
  | _, _, .cons _ r => congrArg (· + 1) (RepL.length r)
theorem RepL.get : ∀ {ds : List D} {vs : List V} {i : Nat} {d : D}, RepL g w H ds vs → ds[i]? = some d → ∃ v, vs[i]? = some v ∧ Rep g w H d v
  | _, _, _, _, .nil, e => by simp at e
  | _, _, 0, _, .cons h _, e => by
    simp at e
    subst e
    exact ⟨_, rfl, h⟩
  | _, _, i + 1, d, .cons _ r, e => by
    obtain ⟨v, h1, h2⟩ := RepL.get (i := i) (d := d) r (by simpa using e)
    exact ⟨v, by simpa using h1, h2⟩
theorem RepL.append : ∀ {ds es : List D} {vs us : List V}, RepL g w H ds vs → RepL g w H es us → RepL g w H (ds ++ es) (vs ++ us)
  | _, _, _, _, .nil, s => s
  | _, _, _, _, .cons h r, s => .cons h (RepL.append r s)
theorem RepL.set {d : D} {v : V} (h : Rep g w H d v) : ∀ {ds : List D} {vs : List V} (i : Nat), RepL g w H ds vs → RepL g w H (ds.set i d) (vs.set i v)
  | _, _, _, .nil => .nil
  | _, _, 0, .cons _ r => .cons h r
  | _, _, i + 1, .cons q r => .cons q (RepL.set h i r)
theorem RepL.take : ∀ {ds : List D} {vs : List V} (n : Nat), RepL g w H ds vs → RepL g w H (ds.take n) (vs.take n)
  | _, _, 0, _ => by simp; exact .nil
  | _, _, _ + 1, .nil => .nil
  | _, _, n + 1, .cons h r => .cons h (RepL.take n r)
theorem RepL.drop : ∀ {ds : List D} {vs : List V} (n : Nat), RepL g w H ds vs → RepL g w H (ds.drop n) (vs.drop n)
  | _, _, 0, h => h
  | _, _, _ + 1, .nil => .nil
  | _, _, n + 1, .cons _ r => RepL.drop n r
theorem RepL.reverse : ∀ {ds : List D} {vs : List V}, RepL g w H ds vs → RepL g w H ds.reverse vs.reverse
  | _, _, .nil => .nil
  | _, _, .cons h r => by
    rw [List.reverse_cons, List.reverse_cons]
    exact RepL.append (RepL.reverse r) (.cons h .nil)
theorem RepL.ints : ∀ {ns : List Int} {vs : List V}, RepL g w H (ns.map .int) vs → vs = ns.map V.int
  | [], _, .nil => rfl
  | n :: ns, _, .cons h r => by
    cases h
    rw [RepL.ints r]
    rfl
theorem RepL.bls : ∀ {ns : List Bool} {vs : List V}, RepL g w H (ns.map .bl) vs → vs = ns.map V.bl
  | [], _, .nil => rfl
  | n :: ns, _, .cons h r => by
    cases h
    rw [RepL.bls r]
    rfl
theorem RepL.ofInts : ∀ {ns : List Int}, RepL g w H (ns.map .int) (ns.map V.int)
  | [] => .nil
  | _ :: _ => .cons (.int _) RepL.ofInts
theorem RepL.flatten : ∀ {n : Nat} {ds : List D} {vs : List V}, RepL g w H ds vs → RepL g w H (List.replicate n ds).flatten (List.replicate n vs).flatten
  | 0, _, _, _ => .nil
  | n + 1, _, _, h => by
    rw [List.replicate_succ, List.replicate_succ, List.flatten_cons, List.flatten_cons]
    exact RepL.append h (RepL.flatten h)

/-! ### the state -/
def CellOk (g : Gx) (w : Wd) (H : Hp) : Cell → Addr → Prop
  | .lst ds, a => ∃ vs, H a = some (.lst vs) ∧ RepL g w H ds vs
structure StOk (g : Gx) (w : Wd) (S : Store) (H : Hp) : Prop where
  len : w.m.length = S.length
  cell : ∀ (k : Nat) (c : Cell), S[k]? = some (some c) → ∃ a, w.m[k]? = some (some a) ∧ CellOk g w H c a
  live : ∀ (k : Nat) (a : Addr), w.m[k]? = some (some a) → ∃ c, S[k]? = some (some c)
  inj : ∀ (j k : Nat) (a : Addr), w.m[j]? = some (some a) → w.m[k]? = some (some a) → j = k
  hid : ∀ a ∈ w.hid, some a ∉ w.m ∧ H a ≠ none
structure EnvOk (g : Gx) (w : Wd) (Γ : Env) (σ : St) (H : Hp) : Prop where
  len : Γ.length = σ.length
  val : ∀ (i : Nat) (x : Val), Γ[i]? = some (some x) → ∃ v, σ[i]? = some (some v) ∧ RepV g w H x v
/-- an expression's step: no object of the store comes; it may go -/
structure Stp (w : Wd) (H : Hp) (w' : Wd) (H' : Hp) : Prop where
  le : Le w H w' H'
  hid : w'.hid = w.hid
  len : w'.m.length = w.m.length
  old : ∀ (k : Nat) (a : Addr), w'.m[k]? = some (some a) → w.m[k]? = some (some a)
theorem Stp.refl (w : Wd) (H : Hp) : Stp w H w H := ⟨.refl w H, rfl, rfl, fun _ _ h => h⟩
theorem Stp.trans {w w1 w2 : Wd} {H H1 H2 : Hp} (l : Stp w H w1 H1) (r : Stp w1 H1 w2 H2) : Stp w H w2 H2 :=
  ⟨l.le.trans r.le (by rw [l.hid]; exact fun _ h => h), r.hid.trans l.hid, r.len.trans l.len, fun k a h => l.old k a (r.old k a h)⟩
theorem RepV.step (l : Stp w H w' H') {x : Val} {v : V} (h : RepV g w H x v) : RepV g w' H' x v := by
  cases x with
  | d x => exact Rep.le l.le h
  | cell k => exact ⟨by rw [l.len]; exact h.1, fun a e => h.2 a (l.old k a e)⟩
theorem RepVs.step (l : Stp w H w' H') : ∀ {xs : List Val} {vs : List V}, RepVs g w H xs vs → RepVs g w' H' xs vs
  | _, _, .nil => .nil
  | _, _, .cons h r => .cons (h.step l) (RepVs.step l r)
theorem RepVs.length : ∀ {d : List Val} {v : List V}, RepVs g w H d v → d.length = v.length
  | _, _, .nil => rfl
  | _, _, .cons _ r => congrArg (· + 1) (RepVs.length r)
theorem RepVs.get : ∀ {ds : List Val} {vs : List V} {i : Nat} {d : Val}, RepVs g w H ds vs → ds[i]? = some d → ∃ v, vs[i]? = some v ∧ RepV g w H d v
  | _, _, _, _, .nil, e => by simp at e
  | _, _, 0, _, .cons h _, e => by
    simp at e
    subst e
    exact ⟨_, rfl, h⟩
  | _, _, i + 1, d, .cons _ r, e => by
    obtain ⟨v, h1, h2⟩ := RepVs.get (i := i) (d := d) r (by simpa using e)
    exact ⟨v, by simpa using h1, h2⟩
theorem EnvOk.step (l : Stp w H w' H') {Γ : Env} {σ : St} (h : EnvOk g w Γ σ H) : EnvOk g w' Γ σ H' :=
  ⟨h.len, fun i x e => let ⟨v, h1, h2⟩ := h.val i x e; ⟨v, h1, h2.step l⟩⟩
theorem EnvOk.set {Γ : Env} {σ : St} (h : EnvOk g w Γ σ H) (i : Nat) {x : Val} {v : V} (r : RepV g w H x v) : EnvOk g w (Γ.set i (some x)) (σ.set i (some v)) H := by
  refine ⟨by simp [h.len], fun j y e => ?_⟩
  by_cases hj : i = j
  · subst hj
    have hlt : i < Γ.length := by
      rcases Nat.lt_or_ge i Γ.length with q | q
      · exact q
      · rw [List.getElem?_eq_none (by simpa using q)] at e
        cases e
    rw [List.getElem?_set_self hlt] at e
    cases e
    exact ⟨v, by rw [List.getElem?_set_self (by rw [← h.len]; exact hlt)], r⟩
  · rw [List.getElem?_set_ne hj] at e
    obtain ⟨u, h1, h2⟩ := h.val j y e
    exact ⟨u, by rw [List.getElem?_set_ne hj]; exact h1, h2⟩
theorem EnvOk.drop1 {Γ : Env} {σ : St} (h : EnvOk g w Γ σ H) (i : Nat) (o : Option V) : EnvOk g w (Γ.set i none) (σ.set i o) H := by
  refine ⟨by simp [h.len], fun j y e => ?_⟩
  by_cases hj : i = j
  · subst hj
    by_cases hlt : i < Γ.length
    · rw [List.getElem?_set_self hlt] at e
      cases e
    · rw [List.getElem?_eq_none (by simpa using hlt)] at e
      cases e
  · rw [List.getElem?_set_ne hj] at e
    obtain ⟨u, h1, h2⟩ := h.val j y e
    exact ⟨u, by rw [List.getElem?_set_ne hj]; exact h1, h2⟩
theorem StOk.nav {S : Store} (h : StOk g w S H) {p : Addr} (hp : H p = none) : ¬ w.av p := fun z => by
  rcases z with z | z
  · obtain ⟨k, hk⟩ := List.getElem?_of_mem z
    obtain ⟨c, hc⟩ := h.live k p hk
    obtain ⟨a, ha, q⟩ := h.cell k c hc
    rw [hk] at ha
    cases ha
    cases c with
    | lst ds =>
      obtain ⟨vs, e, _⟩ := q
      rw [hp] at e
      cases e
  · exact (h.hid p z).2 hp
theorem le_new {S : Store} (h : StOk g w S H) {p : Addr} {o : HO} (hp : H p = none) : Le w H w (upd H p o) where
  av := fun a z => .inl z
  keep := fun a u e n => by rw [upd_ne (ne_of_none e hp)]; exact e
  trk := fun a e => by
    unfold upd
    split
    · exact fun z => by cases z
    · exact e
  hk := fun a z => upd_ne fun q => (h.hid a z).2 (by rw [q]; exact hp)
theorem CellOk.le (l : Le w H w' H') {c : Cell} {a : Addr} (h : CellOk g w H c a) (e : ∀ vs, H a = some (.lst vs) → H' a = some (.lst vs)) : CellOk g w' H' c a := by
  cases c with
  | lst ds =>
    obtain ⟨vs, h1, h2⟩ := h
    exact ⟨vs, e vs h1, RepL.le l h2⟩
theorem StOk.new {S : Store} (h : StOk g w S H) {p : Addr} {o : HO} (hp : H p = none) : StOk g w S (upd H p o) := by
  have l := le_new (o := o) h hp
  refine ⟨h.len, fun k c e => ?_, h.live, h.inj, fun a z => ⟨(h.hid a z).1, l.trk a (h.hid a z).2⟩⟩
  obtain ⟨a, h1, h2⟩ := h.cell k c e
  exact ⟨a, h1, h2.le l fun vs q => by rw [upd_ne (ne_of_none q hp)]; exact q⟩
theorem step_new {S : Store} (h : StOk g w S H) {p : Addr} {o : HO} (hp : H p = none) : Stp w H w (upd H p o) := ⟨le_new h hp, rfl, rfl, fun _ _ e => e⟩
end
end Pd

namespace Pd
open PySem L2

/-! ### readings by denotations -/
def ExcRep (g : Gx) (w : Wd) (H : Hp) (c : Str) (x : D) (cls : Value) (dx : Option Addr) : Prop :=
  ∃ C, g.cl c = some C ∧ cls = .ref C ∧ ((x = .non ∧ dx = none) ∨ ∃ d v, dx = some d ∧ H d = some (.xd [(g.fld c, v)]) ∧ ¬ w.av d ∧ Rep g w H x v)

section
variable {α β : Type}
def RQ (g : Gx) (W : WX) (ρ : Wd → Hp → α → β → Prop) (w : Wd) (σ : St) (H : Hp) (r : R α) (Q : β → Hp → Prop) : Prop := match r with
  | .ok x S' => ∀ v w' H', Stp w H w' H' → StOk g w' S' H' → ρ w' H' x v → Q v H'
  | .exc c x S' => ∀ cls dx w' H', Stp w H w' H' → StOk g w' S' H' → ExcRep g w' H' c x cls dx → W cls dx σ H'
  | .bad => False
def tX (g : Gx) (W : WX) (ρ : Wd → Hp → α → β → Prop) (ev : Env → Store → R α) : St → Hp → (β → Hp → Prop) → Prop := fun σ H Q =>
  ∃ w Γ S, StOk g w S H ∧ EnvOk g w Γ σ H ∧ RQ g W ρ w σ H (ev Γ S) Q
end
abbrev tE (g : Gx) (W : WX) (ev : Ev) : TE := tX g W (RepV g) ev
abbrev tT (g : Gx) (W : WX) (ev : Env → Store → R Bool) : TT := tX g W (fun _ _ a b => a = b) ev
abbrev tA (g : Gx) (W : WX) (ev : Env → Store → R (List Val)) : TA := tX g W (RepVs g) ev

section
variable {α β γ δ : Type} {g : Gx} {W : WX} {ρ : Wd → Hp → α → β → Prop} {ρ' : Wd → Hp → γ → δ → Prop} {w w1 : Wd} {σ : St} {H H1 : Hp}
theorem RQ.to {r : R α} {Q : β → Hp → Prop} (h : RQ g W ρ w σ H r Q) (s : Stp w H w1 H1) : RQ g W ρ w1 σ H1 r Q := by
  cases r with
  | ok x S => exact fun v w' H' s' => h v w' H' (s.trans s')
  | exc c x S => exact fun cls dx w' H' s' => h cls dx w' H' (s.trans s')
  | bad => exact h
theorem tX_seq {Γ : Env} {S : Store} {ea : Env → Store → R α} {k : α → Store → R γ} {Q : δ → Hp → Prop} (st : StOk g w S H) (en : EnvOk g w Γ σ H) (h : RQ g W ρ' w σ H ((ea Γ S).bind k) Q) {P : β → Hp → Prop}
    (hP : ∀ v H1 x S1 w1, Stp w H w1 H1 → StOk g w1 S1 H1 → EnvOk g w1 Γ σ H1 → ρ w1 H1 x v → RQ g W ρ' w1 σ H1 (k x S1) Q → P v H1) : tX g W ρ ea σ H P := by
  refine ⟨w, Γ, S, st, en, ?_⟩
  cases e : ea Γ S with
  | ok x S1 =>
    rw [e] at h
    exact fun v w' H' s st' r => hP v H' x S1 w' s st' (en.step s) r (RQ.to (r := k x S1) h s)
  | exc c x S1 =>
    rw [e] at h
    exact h
  | bad =>
    rw [e] at h
    exact h
theorem RQ.okQ {x : α} {S : Store} {v : β} {Q : β → Hp → Prop} (h : RQ g W ρ w σ H (.ok x S) Q) (st : StOk g w S H) (r : ρ w H x v) : Q v H := h v w H (.refl w H) st r
end
theorem _root_.L2.PE.imp {X : Cx} {e : Expr} {t t' : TE} (h : PE X e t) (i : ∀ σ H Q, t' σ H Q → t σ H Q) : PE X e t' := ⟨fun pins s σ H Q I hw => h.run pins s σ H Q I (i σ H Q hw)⟩
theorem _root_.L2.PT.imp {X : Cx} {e : Expr} {t t' : TT} (h : PT X e t) (i : ∀ σ H Q, t' σ H Q → t σ H Q) : PT X e t' := ⟨fun pins s σ H Q I hw => h.run pins s σ H Q I (i σ H Q hw)⟩
theorem _root_.L2.PW.imp {X : Cx} {e : Expr} {t t' : TT} (h : PW X e t) (i : ∀ σ H Q, t' σ H Q → t σ H Q) : PW X e t' := ⟨fun whole pins s σ H Q I hw => h.run whole pins s σ H Q I (i σ H Q hw)⟩
theorem _root_.L2.PA.imp {X : Cx} {e : List Expr} {t t' : TA} (h : PA X e t) (i : ∀ σ H Q, t' σ H Q → t σ H Q) : PA X e t' := ⟨fun pos pins s σ H Q I hw => h.run pos pins s σ H Q I (i σ H Q hw)⟩
theorem _root_.L2.PS.imp {X : Cx} {e : Stmt} {t t' : TS} (h : PS X e t) (i : ∀ D σ H, t' D σ H → t D σ H) : PS X e t' := ⟨fun pins s σ H D I hw => h.run pins s σ H D I (i D σ H hw)⟩
theorem _root_.L2.PSs.imp {X : Cx} {e : List Stmt} {t t' : TS} (h : PSs X e t) (i : ∀ D σ H, t' D σ H → t D σ H) : PSs X e t' := ⟨fun pins s σ H D I hw => h.run pins s σ H D I (i D σ H hw)⟩
theorem _root_.L2.PG.imp {X : Cx} {e : Expr} {t t' : TG} (h : PG X e t) (i : ∀ v σ H Q, t' v σ H Q → t v σ H Q) : PG X e t' := ⟨fun pins s σ H v u Q I r hw => h.run pins s σ H v u Q I r (i v σ H Q hw)⟩
theorem _root_.L2.PI.imp {X : Cx} {tg e : Expr} {t t' : TI} (h : PI X tg e t) (i : ∀ σ H R, t' σ H R → t σ H R) : PI X tg e t' := ⟨fun pins s σ H R I hw => h.run pins s σ H R I (i σ H R hw)⟩

/-! ### denotations of expressions -/
def cap : Nat := 1000000
def eVar (i : Nat) : Ev := fun Γ S => match Γ[i]? with | some (some x) => .ok x S | _ => .bad
def eC (d : D) : Ev := fun _ S => .ok (.d d) S
def eBin (f : Val → Val → Store → R Val) (a b : Ev) : Ev := fun Γ S => (a Γ S).bind fun x S1 => (b Γ S1).bind fun y S2 => f x y S2
def eUn (f : Val → Store → R Val) (a : Ev) : Ev := fun Γ S => (a Γ S).bind fun x S1 => f x S1
def asB : Val → Store → R Bool
  | .d (.bl b), S => .ok b S
  | _, _ => .bad
def eTest (a : Ev) : Env → Store → R Bool := fun Γ S => (a Γ S).bind asB
def eAnd (a b : Ev) : Ev := fun Γ S => (eTest a Γ S).bind fun x S1 => if x = true then b Γ S1 else .ok (.d (.bl false)) S1
def eOr (a b : Ev) : Ev := fun Γ S => (eTest a Γ S).bind fun x S1 => if x = true then .ok (.d (.bl true)) S1 else b Γ S1
def eNot (a : Ev) : Ev := fun Γ S => (eTest a Γ S).bind fun x S1 => .ok (.d (.bl (!x))) S1
def eIf (t a b : Ev) : Ev := fun Γ S => (eTest t Γ S).bind fun x S1 => if x = true then a Γ S1 else b Γ S1
def eChain (f f' : Val → Val → Store → R Val) (a b c : Ev) : Ev := fun Γ S => (a Γ S).bind fun x S1 => (b Γ S1).bind fun y S2 => (f x y S2).bind fun z S3 => (asB z S3).bind fun k S4 =>
  if k = true then (c Γ S4).bind fun u S5 => f' y u S5 else .ok (.d (.bl false)) S4
def eNil : Env → Store → R (List Val) := fun _ S => .ok [] S
def eCons (a : Ev) (r : Env → Store → R (List Val)) : Env → Store → R (List Val) := fun Γ S => (a Γ S).bind fun x S1 => (r Γ S1).bind fun xs S2 => .ok (x :: xs) S2
def eCall (f : List Val → Store → R Val) (r : Env → Store → R (List Val)) : Ev := fun Γ S => (r Γ S).bind f
/-- closed items alone -/
def clo : List Val → Option (List D)
  | [] => some []
  | .d x :: r => (clo r).map (x :: ·)
  | .cell _ :: _ => none
def fTup (xs : List Val) (S : Store) : R Val := match clo xs with | some ds => if ds.length ≤ cap then .ok (.d (.tup ds)) S else .bad | none => .bad
def fLst (xs : List Val) (S : Store) : R Val := match clo xs with | some ds => if ds.length ≤ cap then .ok (.d (.lst ds)) S else .bad | none => .bad

def Op2 (g : Gx) (r : R2) (f : Val → Val → Store → R Val) : Prop := ∀ (W : WX) (w : Wd) (S : Store) (H : Hp) (σ : St) (x y : Val) (u v : V) (Q : VK), StOk g w S H → RepV g w H x u → RepV g w H y v → RQ g W (RepV g) w σ H (f x y S) Q → r u v H Q
def Op1 (g : Gx) (r : V → Hp → VK → Prop) (f : Val → Store → R Val) : Prop := ∀ (W : WX) (w : Wd) (S : Store) (H : Hp) (σ : St) (x : Val) (u : V) (Q : VK), StOk g w S H → RepV g w H x u → RQ g W (RepV g) w σ H (f x S) Q → r u H Q
def OpN (g : Gx) (r : List V → Hp → VK → Prop) (f : List Val → Store → R Val) : Prop := ∀ (W : WX) (w : Wd) (S : Store) (H : Hp) (σ : St) (xs : List Val) (us : List V) (Q : VK), StOk g w S H → RepVs g w H xs us → RQ g W (RepV g) w σ H (f xs S) Q → r us H Q

section
variable {X : Cx} {g : Gx} {W : WX} {a b c : Expr} {ea eb ec : Ev} {pos : Pos} {es : List Expr} {er : Env → Store → R (List Val)}
theorem p_var {i : Nat} {x : Str} (hN : X.N[i]? = some x := by rfl) (hv : Vis X.env.scope x := by first | exact Or.inl rfl | exact Or.inr (Or.inl rfl) | exact Or.inr (Or.inr rfl)) (hd : (x == ("__debug__" : Str)) = false := by decide) (hcd : (x == ("__classdict__" : Str)) = false := by decide) :
    PE X (.Name x pos) (tE g W (eVar i)) := (pe_var (i := i) hN hv hd hcd).imp fun σ H Q ⟨w, Γ, S, st, en, h⟩ => by
  unfold eVar at h
  cases e : Γ[i]? with
  | none => rw [e] at h; exact h.elim
  | some o =>
    cases o with
    | none => rw [e] at h; exact h.elim
    | some y =>
      rw [e] at h
      obtain ⟨v, h1, h2⟩ := en.val i y e
      exact ⟨v, h1, RQ.okQ h st h2⟩
theorem p_c {e : Expr} {v : V} {d : D} (he : PE X e (tC v)) (hr : ∀ w H, Rep g w H d v) : PE X e (tE g W (eC d)) := he.imp fun σ H Q ⟨w, Γ, S, st, en, h⟩ => RQ.okQ h st (hr w H)
theorem p_int {i : Int} {j : Nat} : PE X (.Constant (.int i) j pos) (tE g W (eC (.int i))) := p_c pe_int fun _ _ => .int i
theorem p_bl {i : Bool} {j : Nat} : PE X (.Constant (.bool i) j pos) (tE g W (eC (.bl i))) := p_c pe_bl fun _ _ => .bl i
theorem p_non {j : Nat} : PE X (.Constant .none j pos) (tE g W (eC .non)) := p_c pe_non fun _ _ => .non
theorem p_str {i : Str} {j : Nat} : PE X (.Constant (.str i) j pos) (tE g W (eC (.str i))) := p_c pe_str fun _ _ => .str i
theorem p_glob {x : Str} {u : Value} {v : V} {d : D} (hg : Gl X x) (hm : X.mg x = some u) (r : RelV v u) (hr : ∀ w H, Rep g w H d v) (hd : (x == ("__debug__" : Str)) = false := by decide) : PE X (.Name x pos) (tE g W (eC d)) := p_c (pe_glob hg hm r hd) hr
theorem p_globI {x : Str} {i : Int} {t : Tok} (hg : Gl X x) (hm : X.mg x = some (.int i t)) (hd : (x == ("__debug__" : Str)) = false := by decide) : PE X (.Name x pos) (tE g W (eC (.int i))) := p_glob (v := .int i) hg hm (show RelV (.int i) (.int i t) from ⟨t, rfl⟩) (fun _ _ => .int i) hd

theorem p_bin {op : Operator} {r : R2} {f : Val → Val → Store → R Val} (ho : OpR X (binaryOp op) r) (hf : Op2 g r f) (ha : PE X a (tE g W ea)) (hb : PE X b (tE g W eb)) : PE X (.BinOp a op b pos) (tE g W (eBin f ea eb)) :=
  (pe_op ho ha hb).imp fun σ H Q ⟨w, Γ, S, st, en, h⟩ => tX_seq st en h fun u H1 x S1 w1 s1 st1 en1 r1 h1 => tX_seq st1 en1 h1 fun v H2 y S2 w2 s2 st2 en2 r2 h2 =>
    hf W w2 S2 H2 σ x y u v Q st2 (r1.step s2) r2 h2
theorem p_un {op : UnaryOp} {r : V → Hp → VK → Prop} {f : Val → Store → R Val} (ho : UnR X (unaryOp op) r) (hf : Op1 g r f) (ha : PE X a (tE g W ea)) : PE X (.UnaryOp op a pos) (tE g W (eUn f ea)) :=
  (pe_un ho ha).imp fun σ H Q ⟨w, Γ, S, st, en, h⟩ => tX_seq st en h fun u H1 x S1 w1 s1 st1 en1 r1 h1 => hf W w1 S1 H1 σ x u Q st1 r1 h1
theorem p_cmp {op : CmpOp} {r : R2} {f : Val → Val → Store → R Val} (ho : OpR X (compareOp op) r) (hf : Op2 g r f) (ha : PE X a (tE g W ea)) (hb : PE X b (tE g W eb)) (hm : behindInMarks op b = false := by first | exact nobehind _ (by decide) (by decide) | rfl) :
    PE X (.Compare a [op] [b] pos) (tE g W (eBin f ea eb)) :=
  (pe_cmpR ho ha hb hm).imp fun σ H Q ⟨w, Γ, S, st, en, h⟩ => tX_seq st en h fun u H1 x S1 w1 s1 st1 en1 r1 h1 => tX_seq st1 en1 h1 fun v H2 y S2 w2 s2 st2 en2 r2 h2 =>
    hf W w2 S2 H2 σ x y u v Q st2 (r1.step s2) r2 h2
/-- the test of a value: behind its reading -/
theorem asB_q {w : Wd} {σ : St} {H : Hp} {x : Val} {v : V} {S : Store} {Q : Bool → Hp → Prop} (st : StOk g w S H) (r : RepV g w H x v) (h : RQ g W (fun _ _ a b => a = b) w σ H (asB x S) Q) : ∃ k, v = .bl k ∧ Q k H := by
  cases x with
  | cell k => exact h.elim
  | d x =>
    cases x with
    | bl b =>
      cases r
      exact ⟨b, rfl, RQ.okQ h st rfl⟩
    | _ => exact h.elim
theorem R.bind_assoc {α β γ : Type} {r : R α} {k : α → Store → R β} {l : β → Store → R γ} : (r.bind k).bind l = r.bind fun x S => (k x S).bind l := by
  cases r <;> rfl
theorem pt_cmp' {op : CmpOp} {r : R2} {f : Val → Val → Store → R Val} (ho : OpR X (compareOp op) r) (hf : Op2 g r f) (ha : PE X a (tE g W ea)) (hb : PE X b (tE g W eb)) (hm : behindInMarks op b = false := by first | exact nobehind _ (by decide) (by decide) | rfl) :
    PT X (.Compare a [op] [b] pos) (tT g W (eTest (eBin f ea eb))) :=
  (pt_cmpR ho ha hb hm).imp fun σ H Q ⟨w, Γ, S, st, en, h⟩ => by
    unfold eTest eBin at h
    rw [R.bind_assoc] at h
    refine tX_seq st en h fun u H1 x S1 w1 s1 st1 en1 r1 h1 => ?_
    rw [R.bind_assoc] at h1
    refine tX_seq st1 en1 h1 fun v H2 y S2 w2 s2 st2 en2 r2 h2 => ?_
    refine hf W w2 S2 H2 σ x y u v _ st2 (r1.step s2) r2 ?_
    revert h2
    cases f x y S2 with
    | ok z S3 => exact fun h2 v' w' H' s' st' r' => asB_q st' r' (RQ.to (r := asB z S3) h2 s')
    | exc c z S3 => exact id
    | bad => exact id
/-- an expression whose value is a bool, as a test -/
theorem pt_v (ha : PE X a (tE g W ea)) (he : ∀ whole, isTrue a X.env whole = (do let v ← whole; standAt a.pos; holding [v] (truthy v)) := by intro _; rfl) : PT X a (tT g W (eTest ea)) :=
  (pt_val ha he).imp fun σ H Q ⟨w, Γ, S, st, en, h⟩ => tX_seq st en h fun u H1 x S1 w1 s1 st1 en1 r1 h1 => asB_q st1 r1 h1
theorem pt_not' (ha : PT X a (tT g W (eTest ea))) : PT X (.UnaryOp .Not a pos) (tT g W (eTest (eNot ea))) :=
  (pt_not ha).imp fun σ H Q ⟨w, Γ, S, st, en, h⟩ => by
    unfold eTest eNot at h
    rw [R.bind_assoc] at h
    refine tX_seq st en h fun u H1 x S1 w1 s1 st1 en1 r1 h1 => ?_
    cases r1
    exact RQ.okQ h1 st1 rfl
theorem p_not (ha : PE X a (tE g W ea)) : PE X (.UnaryOp .Not a pos) (tE g W (eNot ea)) :=
  (pe_not ha).imp fun σ H Q ⟨w, Γ, S, st, en, h⟩ => by
    unfold eNot eTest at h
    rw [R.bind_assoc] at h
    refine tX_seq st en h fun u H1 x S1 w1 s1 st1 en1 r1 h1 => ?_
    cases x with
    | cell k => exact h1.elim
    | d x =>
      cases x with
      | bl b =>
        cases r1
        exact ⟨b, rfl, RQ.okQ h1 st1 (.bl _)⟩
      | _ => exact h1.elim
variable {rest : List Expr}
theorem p_and1 {op : BoolOp} (ha : PE X a (tE g W ea)) : PE X (.BoolOp op [a] pos) (tE g W ea) := pe_one ha
theorem p_and (ha : PE X a (tE g W ea)) (hb : PE X (.BoolOp .And (b :: rest) pos) (tE g W eb)) : PE X (.BoolOp .And (a :: b :: rest) pos) (tE g W (eAnd ea eb)) :=
  (pe_and ha hb).imp fun σ H Q ⟨w, Γ, S, st, en, h⟩ => by
    unfold eAnd eTest at h
    rw [R.bind_assoc] at h
    refine tX_seq st en h fun u H1 x S1 w1 s1 st1 en1 r1 h1 => ?_
    cases x with
    | cell k => exact h1.elim
    | d x =>
      cases x with
      | bl b =>
        cases r1
        refine ⟨b, rfl, ?_⟩
        cases b with
        | true => exact ⟨w1, Γ, S1, st1, en1, h1⟩
        | false => exact RQ.okQ h1 st1 (.bl false)
      | _ => exact h1.elim
theorem p_or (ha : PE X a (tE g W ea)) (hb : PE X (.BoolOp .Or (b :: rest) pos) (tE g W eb)) : PE X (.BoolOp .Or (a :: b :: rest) pos) (tE g W (eOr ea eb)) :=
  (pe_or ha hb).imp fun σ H Q ⟨w, Γ, S, st, en, h⟩ => by
    unfold eOr eTest at h
    rw [R.bind_assoc] at h
    refine tX_seq st en h fun u H1 x S1 w1 s1 st1 en1 r1 h1 => ?_
    cases x with
    | cell k => exact h1.elim
    | d x =>
      cases x with
      | bl b =>
        cases r1
        refine ⟨b, rfl, ?_⟩
        cases b with
        | false => exact ⟨w1, Γ, S1, st1, en1, h1⟩
        | true => exact RQ.okQ h1 st1 (.bl true)
      | _ => exact h1.elim
theorem pw_and1' (ha : PT X a (tT g W (eTest ea))) : PW X (.BoolOp .And [a] pos) (tT g W (eTest ea)) := pw_and1 ha
theorem pw_or1' (ha : PT X a (tT g W (eTest ea))) : PW X (.BoolOp .Or [a] pos) (tT g W (eTest ea)) := pw_or1 ha
theorem pw_and' (ha : PT X a (tT g W (eTest ea))) (hb : PW X (.BoolOp .And (b :: rest) pos) (tT g W (eTest eb))) : PW X (.BoolOp .And (a :: b :: rest) pos) (tT g W (eTest (eAnd ea eb))) :=
  (pw_and ha hb).imp fun σ H Q ⟨w, Γ, S, st, en, h⟩ => by
    have e : eTest (eAnd ea eb) Γ S = (eTest ea Γ S).bind fun x S1 => if x = true then eTest eb Γ S1 else .ok false S1 := by
      show ((eTest ea Γ S).bind _).bind _ = _
      rw [R.bind_assoc]
      congr 1
      funext x S1
      cases x <;> rfl
    rw [e] at h
    refine tX_seq st en h fun u H1 x S1 w1 s1 st1 en1 r1 h1 => ?_
    cases r1
    cases u with
    | true => exact ⟨w1, Γ, S1, st1, en1, h1⟩
    | false => exact RQ.okQ h1 st1 rfl
theorem pw_or' (ha : PT X a (tT g W (eTest ea))) (hb : PW X (.BoolOp .Or (b :: rest) pos) (tT g W (eTest eb))) : PW X (.BoolOp .Or (a :: b :: rest) pos) (tT g W (eTest (eOr ea eb))) :=
  (pw_or ha hb).imp fun σ H Q ⟨w, Γ, S, st, en, h⟩ => by
    have e : eTest (eOr ea eb) Γ S = (eTest ea Γ S).bind fun x S1 => if x = true then .ok true S1 else eTest eb Γ S1 := by
      show ((eTest ea Γ S).bind _).bind _ = _
      rw [R.bind_assoc]
      congr 1
      funext x S1
      cases x <;> rfl
    rw [e] at h
    refine tX_seq st en h fun u H1 x S1 w1 s1 st1 en1 r1 h1 => ?_
    cases r1
    cases u with
    | false => exact ⟨w1, Γ, S1, st1, en1, h1⟩
    | true => exact RQ.okQ h1 st1 rfl
theorem p_if (hc : PT X c (tT g W (eTest ec))) (ha : PE X a (tE g W ea)) (hb : PE X b (tE g W eb)) : PE X (.IfExp c a b pos) (tE g W (eIf ec ea eb)) :=
  (pe_ifExp hc ha hb).imp fun σ H Q ⟨w, Γ, S, st, en, h⟩ => by
    refine tX_seq st en h fun u H1 x S1 w1 s1 st1 en1 r1 h1 => ?_
    cases r1
    cases u with
    | true => exact ⟨w1, Γ, S1, st1, en1, h1⟩
    | false => exact ⟨w1, Γ, S1, st1, en1, h1⟩
theorem chain_q {r r' : R2} {f f' : Val → Val → Store → R Val} (hf : Op2 g r f) (hf' : Op2 g r' f') {σ : St} {H : Hp} {Q : VK} (h : tE g W (eChain f f' ea eb ec) σ H Q) : tChain r r' (tE g W ea) (tE g W eb) (tE g W ec) σ H Q := by
  obtain ⟨w, Γ, S, st, en, h⟩ := h
  refine tX_seq st en h fun u H1 x S1 w1 s1 st1 en1 r1 h1 => tX_seq st1 en1 h1 fun v H2 y S2 w2 s2 st2 en2 r2 h2 => hf W w2 S2 H2 σ x y u v _ st2 (r1.step s2) r2 ?_
  revert h2
  cases f x y S2 with
  | ok z S3 =>
    intro h2 v' w' H' s' st' r'
    have h3 := RQ.to (r := (asB z S3).bind _) h2 s'
    cases z with
    | cell k => exact h3.elim
    | d z =>
      cases z with
      | bl k =>
        cases r'
        refine ⟨k, rfl, ?_⟩
        cases k with
        | true => exact tX_seq st' (en2.step s') h3 fun v4 H4 z4 S4 w4 s4 st4 en4 r4 h4 => hf' W w4 S4 H4 σ y z4 v v4 Q st4 ((r2.step s').step s4) r4 h4
        | false => exact RQ.okQ h3 st' (.bl false)
      | _ => exact h3.elim
  | exc c z S3 => exact id
  | bad => exact id
theorem p_chain {op op' : CmpOp} {r r' : R2} {f f' : Val → Val → Store → R Val} (ho : OpR X (compareOp op) r) (hf : Op2 g r f) (ho' : OpR X (compareOp op') r') (hf' : Op2 g r' f') (ha : PE X a (tE g W ea)) (hb : PE X b (tE g W eb)) (hc : PE X c (tE g W ec))
    (hm : lastMarks [op, op'] [b, c] = false := by with_unfolding_all rfl) : PE X (.Compare a [op, op'] [b, c] pos) (tE g W (eChain f f' ea eb ec)) := (pe_chain ho ho' ha hb hc hm).imp fun σ H Q h => chain_q hf hf' h
theorem pt_chain' {op op' : CmpOp} {r r' : R2} {f f' : Val → Val → Store → R Val} (ho : OpR X (compareOp op) r) (hf : Op2 g r f) (ho' : OpR X (compareOp op') r') (hf' : Op2 g r' f') (ha : PE X a (tE g W ea)) (hb : PE X b (tE g W eb)) (hc : PE X c (tE g W ec))
    (hm : lastMarks [op, op'] [b, c] = false := by with_unfolding_all rfl) : PT X (.Compare a [op, op'] [b, c] pos) (tT g W (eTest (eChain f f' ea eb ec))) :=
  (pt_chain ho ho' ha hb hc hm).imp fun σ H Q h => by
    refine chain_q (g := g) (W := W) hf hf' ?_
    obtain ⟨w, Γ, S, st, en, h⟩ := h
    refine ⟨w, Γ, S, st, en, ?_⟩
    revert h
    show RQ g W _ w σ H ((eChain f f' ea eb ec Γ S).bind asB) Q → _
    cases eChain f f' ea eb ec Γ S with
    | ok z S3 => exact fun h2 v' w' H' s' st' r' => asB_q st' r' (RQ.to (r := asB z S3) h2 s')
    | exc c z S3 => exact id
    | bad => exact id
theorem a_nil : PA X [] (tA g W eNil) := pa_nil.imp fun σ H Q ⟨w, Γ, S, st, en, h⟩ => RQ.okQ h st .nil
theorem a_cons (ha : PE X a (tE g W ea)) (hr : PA X es (tA g W er)) (hs : starEach (a :: es) X.env = (false, eval a X.env) :: starEach es X.env := by rfl) : PA X (a :: es) (tA g W (eCons ea er)) :=
  (pa_cons ha hr hs).imp fun σ H Q ⟨w, Γ, S, st, en, h⟩ => tX_seq st en h fun u H1 x S1 w1 s1 st1 en1 r1 h1 => tX_seq st1 en1 h1 fun v H2 y S2 w2 s2 st2 en2 r2 h2 =>
    RQ.okQ h2 st2 (.cons (r1.step s2) r2)
theorem clo_rep {w : Wd} {H : Hp} : ∀ {xs : List Val} {vs : List V} {ds : List D}, RepVs g w H xs vs → clo xs = some ds → RepL g w H ds vs
  | _, _, _, .nil, e => by
    cases e
    exact .nil
  | .d x :: xs, _, ds, .cons h r, e => by
    unfold clo at e
    cases q : clo xs with
    | none => rw [q] at e; cases e
    | some es =>
      rw [q] at e
      cases e
      exact .cons h (clo_rep r q)
  | .cell _ :: _, _, _, .cons _ _, e => by cases e
theorem RepL.new {w : Wd} {S : Store} {H : Hp} (st : StOk g w S H) {p : Addr} {o : HO} (hp : H p = none) {ds : List D} {vs : List V} (r : RepL g w H ds vs) : RepL g w (upd H p o) ds vs := RepL.le (le_new st hp) r
theorem rep_tup {w : Wd} {S : Store} {H : Hp} (st : StOk g w S H) {p : Addr} (hp : H p = none) {ds : List D} {vs : List V} (r : RepL g w H ds vs) : Rep g w (upd H p (.tup vs)) (.tup ds) (.ref p) := .tup (.inl ⟨.inl upd_same, st.nav hp⟩) (r.new st hp)
theorem rep_lst {w : Wd} {S : Store} {H : Hp} (st : StOk g w S H) {p : Addr} (hp : H p = none) {ds : List D} {vs : List V} (r : RepL g w H ds vs) : Rep g w (upd H p (.lst vs)) (.lst ds) (.ref p) := .lst upd_same (st.nav hp) (r.new st hp)
theorem RQ.newQ {x : Val} {w : Wd} {σ : St} {S : Store} {H : Hp} {p : Addr} {o : HO} {v : V} {Q : VK} (h : RQ g W (RepV g) w σ H (.ok x S) Q) (st : StOk g w S H) (hp : H p = none) (r : RepV g w (upd H p o) x v) : Q v (upd H p o) :=
  h v w _ (step_new st hp) (st.new hp) r
theorem cap_le {n : Nat} (h : n ≤ cap) : n ≤ sizeLine := Nat.le_trans h (by decide)
theorem p_tup {k : Nat} (h : PA X es (tA g W er)) : PE X (.Tuple es k pos) (tE g W (eCall fTup er)) :=
  (pe_tup h).imp fun σ H Q ⟨w, Γ, S, st, en, h⟩ => tX_seq st en h fun us H1 xs S1 w1 s1 st1 en1 r1 h1 => by
    unfold fTup at h1
    cases e : clo xs with
    | none => rw [e] at h1; exact h1.elim
    | some ds =>
      rw [e] at h1
      have rl := clo_rep r1 e
      by_cases hz : ds.length ≤ cap
      · simp only [if_pos hz] at h1
        exact ⟨by rw [← rl.length]; exact cap_le hz, fun p hp => RQ.newQ h1 st1 hp (rep_tup st1 hp rl)⟩
      · simp only [if_neg hz] at h1
        exact h1.elim
theorem p_lst (h : PA X es (tA g W er)) : PE X (.List es pos) (tE g W (eCall fLst er)) :=
  (pe_lst h).imp fun σ H Q ⟨w, Γ, S, st, en, h⟩ => tX_seq st en h fun us H1 xs S1 w1 s1 st1 en1 r1 h1 => by
    unfold fLst at h1
    cases e : clo xs with
    | none => rw [e] at h1; exact h1.elim
    | some ds =>
      rw [e] at h1
      have rl := clo_rep r1 e
      by_cases hz : ds.length ≤ cap
      · simp only [if_pos hz] at h1
        exact ⟨by rw [← rl.length]; exact cap_le hz, fun p hp => RQ.newQ h1 st1 hp (rep_lst st1 hp rl)⟩
      · simp only [if_neg hz] at h1
        exact h1.elim
end
end Pd

namespace Pd
open PySem L2

/-! ### data that can be compared -/
mutual
/-- numbers, texts, None, tuples and lists of them, so deep at most -/
def fit : Nat → D → Bool
  | _, .non => true
  | _, .bl _ => true
  | _, .int _ => true
  | _, .str x => PySem.PyData.strOk x
  | n + 1, .tup xs => fitL n xs
  | n + 1, .lst xs => fitL n xs
  | _, _ => false
def fitL : Nat → List D → Bool
  | _, [] => true
  | n, x :: xs => fit n x && fitL n xs
end
mutual
def D.pd : D → PyData
  | .non => .none
  | .bl b => .bool b
  | .int i => .int i
  | .str x => .str x
  | .tup xs => .tuple (pdL xs)
  | .lst xs => .list (pdL xs)
  | _ => .none
def pdL : List D → List PyData
  | [] => []
  | x :: xs => x.pd :: pdL xs
end
def b2 (b : Bool) : Int := if b then 1 else 0
mutual
/-- Python's == -/
def D.eqv : D → D → Bool
  | .non, .non => true
  | .bl a, .bl b => a == b
  | .bl a, .int j => b2 a == j
  | .int i, .bl b => i == b2 b
  | .int i, .int j => i == j
  | .str x, .str y => x == y
  | .tup xs, .tup ys => eqvL xs ys
  | .lst xs, .lst ys => eqvL xs ys
  | _, _ => false
def eqvL : List D → List D → Bool
  | [], [] => true
  | x :: xs, y :: ys => x.eqv y && eqvL xs ys
  | _, _ => false
end
mutual
theorem fit_shape : ∀ (n : Nat) (d : D), fit n d = true → d.pd.canLay0 = true ∧ d.pd.depth ≤ n
  | _, .non, _ => ⟨rfl, Nat.zero_le _⟩
  | _, .bl _, _ => ⟨rfl, Nat.zero_le _⟩
  | _, .int _, _ => ⟨rfl, Nat.zero_le _⟩
  | n, .str x, h => by
    refine ⟨?_, Nat.zero_le _⟩
    unfold fit at h
    exact h
  | n + 1, .tup xs, h => by
    unfold fit at h
    obtain ⟨h1, h2⟩ := fitL_shape n xs h
    exact ⟨h1, Nat.succ_le_succ h2⟩
  | n + 1, .lst xs, h => by
    unfold fit at h
    obtain ⟨h1, h2⟩ := fitL_shape n xs h
    exact ⟨h1, Nat.succ_le_succ h2⟩
  | 0, .tup xs, h => by simp [fit] at h
  | 0, .lst xs, h => by simp [fit] at h
  | 0, .obj _ _, h => by simp [fit] at h
  | _ + 1, .obj _ _, h => by simp [fit] at h
  | 0, .scr _, h => by simp [fit] at h
  | _ + 1, .scr _, h => by simp [fit] at h
  | 0, .val _, h => by simp [fit] at h
  | _ + 1, .val _, h => by simp [fit] at h
theorem fitL_shape : ∀ (n : Nat) (d : List D), fitL n d = true → PyData.canLayAll0 (pdL d) = true ∧ PyData.depthAll (pdL d) ≤ n
  | _, [], _ => ⟨rfl, Nat.zero_le _⟩
  | n, x :: xs, h => by
    unfold fitL at h
    obtain ⟨h1, h2⟩ := Bool.and_eq_true_iff.mp h
    obtain ⟨a1, a2⟩ := fit_shape n x h1
    obtain ⟨b1, b2⟩ := fitL_shape n xs h2
    refine ⟨?_, ?_⟩
    · show (x.pd.canLay0 && PyData.canLayAll0 (pdL xs)) = true
      rw [a1, b1]
      rfl
    · show max x.pd.depth (PyData.depthAll (pdL xs)) ≤ n
      omega
end
theorem fit_shaped {d : D} (h : fit 60 d = true) : SeqAt.shaped d.pd = true := by
  obtain ⟨h1, h2⟩ := fit_shape 60 d h
  unfold SeqAt.shaped
  rw [h1, Bool.true_and]
  exact decide_eq_true (by omega)
mutual
theorem fit_dp {g : Gx} {w : Wd} {H : Hp} : ∀ {n : Nat} {d : D} {v : V}, Rep g w H d v → fit n d = true → Dp g.K H v d.pd
  | _, _, _, .non, _ => .non
  | _, _, _, .bl b, _ => .bl b
  | _, _, _, .int i, _ => .int i
  | _, _, _, .str x, _ => .str x
  | n, _, _, .tup h r, e => by
    cases n with
    | zero => simp [fit] at e
    | succ n =>
      unfold fit at e
      exact .tup h.sq (fit_dpL r e)
  | n, _, _, .lst h _ r, e => by
    cases n with
    | zero => simp [fit] at e
    | succ n =>
      unfold fit at e
      exact .lst (.inl (.inl h)) (fit_dpL r e)
  | n, _, _, .obj .., e => by cases n <;> simp [fit] at e
  | n, _, _, .scr .., e => by cases n <;> simp [fit] at e
  | n, _, _, .val .., e => by cases n <;> simp [fit] at e
theorem fit_dpL {g : Gx} {w : Wd} {H : Hp} : ∀ {n : Nat} {d : List D} {v : List V}, RepL g w H d v → fitL n d = true → DpAll g.K H v (pdL d)
  | _, _, _, .nil, _ => .nil
  | n, _, _, .cons h r, e => by
    unfold fitL at e
    obtain ⟨h1, h2⟩ := Bool.and_eq_true_iff.mp e
    exact .cons (fit_dp h h1) (fit_dpL r h2)
end
mutual
theorem pd_eqv : ∀ (n m : Nat) (d e : D), fit n d = true → fit m e = true → PyData.eqv d.pd e.pd = d.eqv e
  | n, m, d, e, h1, h2 => by
    cases d with
    | obj _ _ => cases n <;> simp [fit] at h1
    | scr _ => cases n <;> simp [fit] at h1
    | val _ => cases n <;> simp [fit] at h1
    | non => cases e <;> first | rfl | (cases m <;> simp [fit] at h2)
    | bl a => cases e <;> first | rfl | (cases m <;> simp [fit] at h2)
    | int a => cases e <;> first | rfl | (cases m <;> simp [fit] at h2)
    | str a => cases e <;> first | rfl | (cases m <;> simp [fit] at h2)
    | tup xs =>
      cases e with
      | tup ys =>
        cases n with
        | zero => simp [fit] at h1
        | succ n =>
          cases m with
          | zero => simp [fit] at h2
          | succ m =>
            unfold fit at h1 h2
            exact pd_eqvL n m xs ys h1 h2
      | _ => first | rfl | (cases m <;> simp [fit] at h2)
    | lst xs =>
      cases e with
      | lst ys =>
        cases n with
        | zero => simp [fit] at h1
        | succ n =>
          cases m with
          | zero => simp [fit] at h2
          | succ m =>
            unfold fit at h1 h2
            exact pd_eqvL n m xs ys h1 h2
      | _ => first | rfl | (cases m <;> simp [fit] at h2)
theorem pd_eqvL : ∀ (n m : Nat) (d e : List D), fitL n d = true → fitL m e = true → PyData.eqvAll (pdL d) (pdL e) = eqvL d e
  | _, _, [], [], _, _ => rfl
  | _, _, [], _ :: _, _, _ => rfl
  | _, _, _ :: _, [], _, _ => rfl
  | n, m, x :: xs, y :: ys, h1, h2 => by
    unfold fitL at h1 h2
    obtain ⟨a1, a2⟩ := Bool.and_eq_true_iff.mp h1
    obtain ⟨b1, b2⟩ := Bool.and_eq_true_iff.mp h2
    show (PyData.eqv x.pd y.pd && PyData.eqvAll (pdL xs) (pdL ys)) = (x.eqv y && eqvL xs ys)
    rw [pd_eqv n m x y a1 b1, pd_eqvL n m xs ys a2 b2]
end
end Pd

namespace Pd
open PySem L2

/-! ### operators -/
/-- what a closed value or a list of the store holds -/
def rd (S : Store) : Val → Option D
  | .d x => some x
  | .cell k => match S[k]? with | some (some (.lst ds)) => some (.lst ds) | _ => none
def bigE : Nat := 400000
def bigDE : Nat := 9000
def big : Nat := 2 ^ bigE
def bigD : Nat := 2 ^ bigDE
@[irreducible] def mulOk (i j : Int) : Bool := (decide (i.natAbs < big) && decide (j.natAbs < big)) || (decide (i.natAbs < 2 ^ 64) || decide (j.natAbs < 2 ^ 64))
@[irreducible] def divOk (j : Int) : Bool := decide (0 < j) && decide (j.natAbs < bigD)
@[irreducible] def powOk (i j : Int) : Bool := decide (0 ≤ j) && decide (j ≤ 1000) && decide (i.natAbs < 2 ^ 2000)
def fI (h : Int → Int → D) : Val → Val → Store → R Val
  | .d (.int i), .d (.int j), S => .ok (.d (h i j)) S
  | _, _, _ => .bad
def fAdd : Val → Val → Store → R Val
  | .d (.int i), .d (.int j), S => .ok (.d (.int (i + j))) S
  | .d (.tup a), .d (.tup b), S => if a.length + b.length ≤ cap then .ok (.d (.tup (a ++ b))) S else .bad
  | .d (.lst a), .d (.lst b), S => if a.length + b.length ≤ cap then .ok (.d (.lst (a ++ b))) S else .bad
  | .d (.str a), .d (.str b), S => if a.length + b.length ≤ cap then .ok (.d (.str (a ++ b))) S else .bad
  | _, _, _ => .bad
def fSub := fI fun i j => .int (i - j)
def fMul : Val → Val → Store → R Val
  | .d (.int i), .d (.int j), S => if mulOk i j = true then .ok (.d (.int (i * j))) S else .bad
  | .d (.lst a), .d (.int j), S => if j ≤ cap ∧ -cap ≤ j ∧ a.length * j.toNat ≤ cap then .ok (.d (.lst (List.replicate j.toNat a).flatten)) S else .bad
  | .d (.tup a), .d (.int j), S => if 2 ≤ j ∧ j ≤ 1000 ∧ a ≠ [] ∧ a.length ≤ 1000 then .ok (.d (.tup (List.replicate j.toNat a).flatten)) S else .bad
  | _, _, _ => .bad
def fDiv : Val → Val → Store → R Val
  | .d (.int i), .d (.int j), S => if divOk j = true then .ok (.d (.int (i / j))) S else .bad
  | _, _, _ => .bad
def fMod : Val → Val → Store → R Val
  | .d (.int i), .d (.int j), S => if 0 < j then .ok (.d (.int (i % j))) S else .bad
  | _, _, _ => .bad
def fPow : Val → Val → Store → R Val
  | .d (.int i), .d (.int j), S => if powOk i j = true then .ok (.d (.int (i ^ j.toNat))) S else .bad
  | _, _, _ => .bad
def fNeg : Val → Store → R Val
  | .d (.int i), S => .ok (.d (.int (-i))) S
  | _, _ => .bad
def fLt := fI fun i j => .bl (decide (i < j))
def fLe := fI fun i j => .bl (decide (i ≤ j))
def fGt := fI fun i j => .bl (decide (j < i))
def fGe := fI fun i j => .bl (decide (j ≤ i))
def fEq (x y : Val) (S : Store) : R Val := match rd S x, rd S y with
  | some a, some b => if fit 60 a = true ∧ fit 60 b = true then .ok (.d (.bl (a.eqv b))) S else .bad
  | _, _ => .bad
def fNe (x y : Val) (S : Store) : R Val := match rd S x, rd S y with
  | some a, some b => if fit 60 a = true ∧ fit 60 b = true then .ok (.d (.bl (!a.eqv b))) S else .bad
  | _, _ => .bad
def fIx (x y : Val) (S : Store) : R Val := match rd S x, y with
  | some (.lst ds), .d (.int i) => match atI ds i with | some d => .ok (.d d) S | none => .bad
  | some (.tup ds), .d (.int i) => match atI ds i with | some d => .ok (.d d) S | none => .bad
  | some (.scr ns), .d (.int i) => match atI ns i with | some d => .ok (.d (.int d)) S | none => .bad
  | _, _ => .bad
def isNon : D → Option Bool
  | .non => some true
  | .val _ => none
  | _ => some false
def fIsN : Val → Val → Store → R Val
  | .d x, .d .non, S => match isNon x with | some b => .ok (.d (.bl b)) S | none => .bad
  | _, _, _ => .bad
def fNotN : Val → Val → Store → R Val
  | .d x, .d .non, S => match isNon x with | some b => .ok (.d (.bl (!b))) S | none => .bad
  | _, _, _ => .bad

section
variable {g : Gx} {w : Wd} {S : Store} {H : Hp} {W : WX} {σ : St} {Q : VK} {X : Cx}
theorem rd_cell {k : Nat} {d : D} (e : rd S (.cell k) = some d) : ∃ ds, S[k]? = some (some (.lst ds)) ∧ d = .lst ds := by
  have e' : (match S[k]? with | some (some (.lst ds)) => some (D.lst ds) | _ => none) = some d := e
  split at e'
  · rename_i ds hk
    cases e'
    exact ⟨ds, hk, rfl⟩
  · cases e'
theorem rd_dp {n : Nat} {x : Val} {d : D} {v : V} (st : StOk g w S H) (r : RepV g w H x v) (e : rd S x = some d) (f : fit n d = true) : Dp g.K H v d.pd := by
  cases x with
  | d x =>
    cases e
    exact fit_dp r f
  | cell k =>
    obtain ⟨ds, hk, e2⟩ := rd_cell e
    subst e2
    obtain ⟨a, h1, vs, h2, h3⟩ := st.cell k _ hk
    rw [r.2 a h1]
    cases n with
    | zero => simp [fit] at f
    | succ n =>
      unfold fit at f
      exact .lst (.inl (.inl h2)) (fit_dpL h3 f)
/-- a list, a tuple that is read -/
theorem rd_lst {x : Val} {ds : List D} {v : V} (st : StOk g w S H) (r : RepV g w H x v) (e : rd S x = some (.lst ds)) : ∃ a vs, v = .ref a ∧ H a = some (.lst vs) ∧ RepL g w H ds vs := by
  cases x with
  | d x =>
    cases e
    cases r with
    | lst h1 h2 h3 => exact ⟨_, _, rfl, h1, h3⟩
  | cell k =>
    obtain ⟨es, hk, e2⟩ := rd_cell e
    cases e2
    obtain ⟨a, h1, vs, h2, h3⟩ := st.cell k _ hk
    exact ⟨a, vs, r.2 a h1, h2, h3⟩
theorem rd_tup {x : Val} {ds : List D} {v : V} (r : RepV g w H x v) (e : rd S x = some (.tup ds)) : ∃ a vs, v = .ref a ∧ SqT' g w H a vs ∧ RepL g w H ds vs := by
  cases x with
  | d x =>
    cases e
    cases r with
    | tup h1 h3 => exact ⟨_, _, rfl, h1, h3⟩
  | cell k =>
    obtain ⟨es, hk, e2⟩ := rd_cell e
    cases e2
theorem rd_scr {x : Val} {ns : List Int} {v : V} (r : RepV g w H x v) (e : rd S x = some (.scr ns)) : ∃ a, v = .ref a ∧ SqL g.K H a (ns.map V.int) := by
  cases x with
  | d x =>
    cases e
    cases r with
    | scr h1 => exact ⟨_, rfl, h1.sq⟩
  | cell k =>
    obtain ⟨es, hk, e2⟩ := rd_cell e
    cases e2
theorem fI_q {h : Int → Int → D} {x y : Val} {u v : V} (st : StOk g w S H) (r1 : RepV g w H x u) (r2 : RepV g w H y v) (q : RQ g W (RepV g) w σ H (fI h x y S) Q) :
    ∃ i j, u = .int i ∧ v = .int j ∧ RQ g W (RepV g) w σ H (.ok (.d (h i j)) S) Q := by
  unfold fI at q
  split at q
  · cases r1
    cases r2
    exact ⟨_, _, rfl, rfl, q⟩
  · exact q.elim
theorem o2_I0 {h : Int → Int → D} {k : Int → Int → V} (hk : ∀ i j w H, Rep g w H (h i j) (k i j)) : Op2 g (rI0 k) (fI h) := fun W w S H σ x y u v Q st r1 r2 q => by
  obtain ⟨i, j, rfl, rfl, q⟩ := fI_q st r1 r2 q
  exact ⟨i, j, rfl, rfl, RQ.okQ q st (hk i j w H)⟩
theorem o2_sub : Op2 g (rI0 fun i j => .int (i - j)) fSub := o2_I0 fun _ _ _ _ => .int _
theorem o2_lt : Op2 g (rI0 fun i j => .bl (decide (i < j))) fLt := o2_I0 fun _ _ _ _ => .bl _
theorem o2_le : Op2 g (rI0 fun i j => .bl (decide (i ≤ j))) fLe := o2_I0 fun _ _ _ _ => .bl _
theorem o2_gt : Op2 g (rI0 fun i j => .bl (decide (j < i))) fGt := o2_I0 fun _ _ _ _ => .bl _
theorem o2_ge : Op2 g (rI0 fun i j => .bl (decide (j ≤ i))) fGe := o2_I0 fun _ _ _ _ => .bl _
theorem ite_q {c : Prop} [Decidable c] {α β : Type} {ρ : Wd → Hp → α → β → Prop} {r : R α} {Q : β → Hp → Prop} (h : RQ g W ρ w σ H (if c then r else .bad) Q) : c ∧ RQ g W ρ w σ H r Q := by
  by_cases hc : c
  · rw [if_pos hc] at h
    exact ⟨hc, h⟩
  · rw [if_neg hc] at h
    exact h.elim
def rAdd4 (K : PySem.W.Frag) : R2 := fun x y H Q => (∃ i j, x = .int i ∧ y = .int j ∧ Q (.int (i + j)) H) ∨ rCatA K x y H Q ∨ rCat x y H Q ∨ (∃ i j, x = .str i ∧ y = .str j ∧ i.length + j.length ≤ sizeLine ∧ Q (.str (i ++ j)) H)
theorem op_add4 : OpR X (binaryOp .Add) (rAdd4 X.K) := op_add.or (op_catA.or (op_cat.or op_add_str))
theorem o2_add : Op2 g (rAdd4 g.K) fAdd := fun W w S H σ x y u v Q st r1 r2 q => by
  unfold fAdd at q
  split at q
  · cases r1
    cases r2
    exact .inl ⟨_, _, rfl, rfl, RQ.okQ q st (.int _)⟩
  · obtain ⟨hz, q⟩ := ite_q q
    cases r1 with
    | tup h1 l1 =>
      cases r2 with
      | tup h2 l2 =>
        have e1 := l1.length
        have e2 := l2.length
        refine .inr (.inl ⟨_, _, _, _, rfl, rfl, h1.sq, h2.sq, by rw [← e1, ← e2]; exact cap_le hz, fun z => ?_, fun _ z => ?_, fun _ _ p hp => ?_⟩)
        · subst z
          have z1 := List.eq_nil_of_length_eq_zero (e1.trans rfl)
          subst z1
          exact RQ.okQ q st (.tup h2 l2)
        · subst z
          have z1 := List.eq_nil_of_length_eq_zero (e2.trans rfl)
          subst z1
          rw [List.append_nil] at q
          exact RQ.okQ q st (.tup h1 l1)
        · exact RQ.newQ q st hp (rep_tup st hp (l1.append l2))
  · obtain ⟨hz, q⟩ := ite_q q
    cases r1 with
    | lst h1 n1 l1 =>
      cases r2 with
      | lst h2 n2 l2 =>
        refine .inr (.inr (.inl ⟨_, _, _, _, rfl, rfl, h1, h2, by rw [← l1.length, ← l2.length]; exact cap_le hz, fun p hp => ?_⟩))
        exact RQ.newQ q st hp (rep_lst st hp (l1.append l2))
  · obtain ⟨hz, q⟩ := ite_q q
    cases r1
    cases r2
    exact .inr (.inr (.inr ⟨_, _, rfl, rfl, cap_le hz, RQ.okQ q st (.str _)⟩))
  · exact q.elim
def rMul3 (K : PySem.W.Frag) : R2 := fun x y H Q => rI CMulW (fun i j => .int (i * j)) x y H Q ∨ rI CMul (fun i j => .int (i * j)) x y H Q ∨ rRep x y H Q ∨ rRepT K x y H Q
theorem op_mul3 : OpR X (binaryOp .Mult) (rMul3 X.K) := op_mulW.or (op_mul.or (op_rep.or op_repT))
theorem mulOk_iff {i j : Int} : mulOk i j = true ↔ (i.natAbs < big ∧ j.natAbs < big) ∨ i.natAbs < 2 ^ 64 ∨ j.natAbs < 2 ^ 64 := by
  unfold mulOk
  rw [Bool.or_eq_true, Bool.or_eq_true, Bool.and_eq_true, decide_eq_true_iff, decide_eq_true_iff, decide_eq_true_iff, decide_eq_true_iff]
theorem divOk_iff {j : Int} : divOk j = true ↔ 0 < j ∧ j.natAbs < bigD := by
  unfold divOk
  rw [Bool.and_eq_true, decide_eq_true_iff, decide_eq_true_iff]
theorem powOk_iff {i j : Int} : powOk i j = true ↔ (0 ≤ j ∧ j ≤ 1000) ∧ i.natAbs < 2 ^ 2000 := by
  unfold powOk
  rw [Bool.and_eq_true, Bool.and_eq_true, decide_eq_true_iff, decide_eq_true_iff, decide_eq_true_iff]
theorem big_mul {i j : Int} (h1 : i.natAbs < big) (h2 : j.natAbs < big) : CMulW i j := by
  have e : ∀ n : Nat, n < big → n < 2 ^ bigE := fun n h => h
  exact wide_mul (e _ h1) (e _ h2) (by decide) (by decide) (by decide)
theorem o2_mul : Op2 g (rMul3 g.K) fMul := fun W w S H σ x y u v Q st r1 r2 q => by
  unfold fMul at q
  split at q
  · obtain ⟨hz, q⟩ := ite_q q
    cases r1
    cases r2
    rcases mulOk_iff.mp hz with h | h
    · exact .inl ⟨_, _, rfl, rfl, big_mul h.1 h.2, RQ.okQ q st (.int _)⟩
    · refine .inr (.inl ⟨_, _, rfl, rfl, ?_, RQ.okQ q st (.int _)⟩)
      have e : (2 : Nat) ^ 64 = 18446744073709551616 := by decide
      have e2 : (2 : Int) ^ 64 = 18446744073709551616 := by decide
      unfold CMul
      rw [e] at h
      rw [e2]
      rcases h with h | h
      · exact .inl (by omega)
      · exact .inr (by omega)
  · obtain ⟨⟨h1, h2, h3⟩, q⟩ := ite_q q
    cases r1 with
    | lst e1 n1 l1 =>
      cases r2
      have hc : ((cap : Nat) : Int) = 1000000 := rfl
      refine .inr (.inr (.inl ⟨_, _, _, rfl, rfl, e1, by omega, by omega, by rw [← l1.length]; exact cap_le h3, fun p hp => ?_⟩))
      exact RQ.newQ q st hp (rep_lst st hp l1.flatten)
  · obtain ⟨⟨h1, h2, h3, h4⟩, q⟩ := ite_q q
    cases r1 with
    | tup e1 l1 =>
      cases r2
      refine .inr (.inr (.inr ⟨_, _, _, rfl, rfl, e1.sq, fun z => ?_, h1, h2, by rw [← l1.length]; exact h4, fun p hp => ?_⟩))
      · subst z
        exact h3 (List.eq_nil_of_length_eq_zero l1.length)
      · exact RQ.newQ q st hp (rep_tup st hp l1.flatten)
  · exact q.elim
theorem o2_div : Op2 g (rI CDivW fun i j => .int (i / j)) fDiv := fun W w S H σ x y u v Q st r1 r2 q => by
  unfold fDiv at q
  split at q
  · obtain ⟨hz, q⟩ := ite_q q
    cases r1
    cases r2
    exact ⟨_, _, rfl, rfl, (by obtain ⟨h1, h2⟩ := divOk_iff.mp hz; exact wide_div (b := bigDE) h1 h2 (by decide) (by decide)), RQ.okQ q st (.int _)⟩
  · exact q.elim
theorem o2_mod : Op2 g (rI (fun _ j => 0 < j) fun i j => .int (i % j)) fMod := fun W w S H σ x y u v Q st r1 r2 q => by
  unfold fMod at q
  split at q
  · obtain ⟨hz, q⟩ := ite_q q
    cases r1
    cases r2
    exact ⟨_, _, rfl, rfl, hz, RQ.okQ q st (.int _)⟩
  · exact q.elim
def CPowW (i j : Int) : Prop := powOk i j = true
theorem op_powW : OpR X (binaryOp .Pow) (rI CPowW fun i j => .int (i ^ j.toNat)) := opI fun i j _ _ _ _ _ hc q => by
  obtain ⟨⟨h3, h4⟩, h0⟩ := powOk_iff.mp hc
  refine PyProof.Rows.pow_int h3 ?_ q
  have h1 := PySem.Flt.log2_lt_of (show 0 < 2000 by omega) h0
  have b : Builtin.Int.intBits i ≤ i.natAbs.log2 + 1 := by
    unfold Builtin.Int.intBits
    split <;> omega
  have h2 : (Builtin.Int.intBits i : Int) ≤ 2001 := by omega
  have h5 : (Builtin.Int.intBits i : Int) * j ≤ 2001 * 1000 := Int.mul_le_mul h2 h4 h3 (by decide)
  have h6 : (2 : Int) ^ 27 = 134217728 := by decide
  rw [h6]
  omega
theorem o2_pow : Op2 g (rI CPowW fun i j => .int (i ^ j.toNat)) fPow := fun W w S H σ x y u v Q st r1 r2 q => by
  unfold fPow at q
  split at q
  · obtain ⟨hz, q⟩ := ite_q q
    cases r1
    cases r2
    exact ⟨_, _, rfl, rfl, hz, RQ.okQ q st (.int _)⟩
  · exact q.elim
theorem o1_neg : Op1 g (rU fun i => .int (-i)) fNeg := fun W w S H σ x u Q st r1 q => by
  unfold fNeg at q
  split at q
  · cases r1
    exact ⟨_, rfl, RQ.okQ q st (.int _)⟩
  · exact q.elim
theorem o2_eq : Op2 g (rEqD g.K) fEq := fun W w S H σ x y u v Q st r1 r2 q => by
  unfold fEq at q
  split at q
  · rename_i a b e1 e2
    obtain ⟨⟨h1, h2⟩, q⟩ := ite_q q
    refine ⟨_, _, rd_dp st r1 e1 h1, rd_dp st r2 e2 h2, fit_shaped h1, fit_shaped h2, ?_⟩
    rw [pd_eqv _ _ _ _ h1 h2]
    exact RQ.okQ q st (.bl _)
  · exact q.elim
theorem o2_ne : Op2 g (rNeD g.K) fNe := fun W w S H σ x y u v Q st r1 r2 q => by
  unfold fNe at q
  split at q
  · rename_i a b e1 e2
    obtain ⟨⟨h1, h2⟩, q⟩ := ite_q q
    refine ⟨_, _, rd_dp st r1 e1 h1, rd_dp st r2 e2 h2, fit_shaped h1, fit_shaped h2, ?_⟩
    rw [pd_eqv _ _ _ _ h1 h2]
    exact RQ.okQ q st (.bl _)
  · exact q.elim
theorem atI_rep {ds : List D} {vs : List V} {i : Int} {d : D} (l : RepL g w H ds vs) (e : atI ds i = some d) : ∃ v, atI vs i = some v ∧ Rep g w H d v := by
  unfold atI at e ⊢
  rw [← l.length]
  cases h : ixN ds.length i with
  | none => rw [h] at e; cases e
  | some j =>
    rw [h] at e
    exact l.get e
theorem atI_ints {ns : List Int} {i n : Int} (e : atI ns i = some n) : atI (ns.map V.int) i = some (.int n) := by
  unfold atI at e ⊢
  rw [List.length_map]
  cases h : ixN ns.length i with
  | none => rw [h] at e; cases e
  | some j =>
    rw [h] at e
    have e' : ns[j]? = some n := e
    show (ns.map V.int)[j]? = _
    rw [List.getElem?_map, e'] <;> rfl
def rIx2 (K : PySem.W.Frag) : R2 := fun x y H Q => rIxL K x y H Q ∨ rIxT K x y H Q
theorem ix_two : IxR X (rIx2 X.K) := ix_list.or ix_tup
theorem o2_ix : Op2 g (rIx2 g.K) fIx := fun W w S H σ x y u v Q st r1 r2 q => by
  unfold fIx at q
  split at q
  · rename_i ds i e
    split at q
    · rename_i d hd
      obtain ⟨a, vs, rfl, h1, l⟩ := rd_lst st r1 e
      cases r2
      obtain ⟨y, hy, ry⟩ := atI_rep l hd
      exact .inl ⟨a, vs, i, y, rfl, rfl, .inl (.inl h1), hy, RQ.okQ q st ry⟩
    · exact q.elim
  · rename_i ds i e
    split at q
    · rename_i d hd
      obtain ⟨a, vs, rfl, h1, l⟩ := rd_tup r1 e
      cases r2
      obtain ⟨y, hy, ry⟩ := atI_rep l hd
      exact .inr ⟨a, vs, i, y, rfl, rfl, h1.sq, hy, RQ.okQ q st ry⟩
    · exact q.elim
  · rename_i ns i e
    split at q
    · rename_i d hd
      obtain ⟨a, rfl, h1⟩ := rd_scr r1 e
      cases r2
      exact .inl ⟨a, _, i, .int d, rfl, rfl, h1, atI_ints hd, RQ.okQ q st (.int d)⟩
    · exact q.elim
  · exact q.elim
theorem isNon_rep {x : D} {u : V} {b : Bool} (r : Rep g w H x u) (e : isNon x = some b) : decide (u = V.non) = b := by
  cases r <;> cases e <;> rfl
theorem o2_isN : Op2 g (fun x y H Q => y = .non ∧ Q (.bl (decide (x = .non))) H) fIsN := fun W w S H σ x y u v Q st r1 r2 q => by
  unfold fIsN at q
  split at q
  · split at q
    · rename_i b hb
      cases r2
      refine ⟨rfl, ?_⟩
      rw [isNon_rep r1 hb]
      exact RQ.okQ q st (.bl _)
    · exact q.elim
  · exact q.elim
theorem o2_notN : Op2 g (fun x y H Q => y = .non ∧ Q (.bl (!decide (x = .non))) H) fNotN := fun W w S H σ x y u v Q st r1 r2 q => by
  unfold fNotN at q
  split at q
  · split at q
    · rename_i b hb
      cases r2
      refine ⟨rfl, ?_⟩
      rw [isNon_rep r1 hb]
      exact RQ.okQ q st (.bl _)
    · exact q.elim
  · exact q.elim
end

/-! ### a[i] -/
section
variable {X : Cx} {g : Gx} {W : WX} {a b : Expr} {ea eb : Ev} {pos : Pos}
theorem p_ix (hK : g.K = X.K) (ha : PE X a (tE g W ea)) (hb : PE X b (tE g W eb)) (hs : PlainIx b := by exact fun _ _ => rfl) : PE X (.Subscript a b pos) (tE g W (eBin fIx ea eb)) :=
  (pe_ix ix_two ha hb hs).imp fun σ H Q ⟨w, Γ, S, st, en, h⟩ => tX_seq st en h fun u H1 x S1 w1 s1 st1 en1 r1 h1 => tX_seq st1 en1 h1 fun v H2 y S2 w2 s2 st2 en2 r2 h2 => by
    rw [← hK]
    exact o2_ix W w2 S2 H2 σ x y u v Q st2 (r1.step s2) r2 h2
end
end Pd

namespace Pd
open PySem L2

/-! ### built-in functions -/
def asInts : List D → Option (List Int)
  | [] => some []
  | .int i :: r => (asInts r).map (i :: ·)
  | _ :: _ => none
def asBls : List D → Option (List Bool)
  | [] => some []
  | .bl i :: r => (asBls r).map (i :: ·)
  | _ :: _ => none
theorem asInts_eq : ∀ {ds : List D} {ns : List Int}, asInts ds = some ns → ds = ns.map .int
  | [], _, e => by cases e; rfl
  | .int i :: r, ns, e => by
    unfold asInts at e
    cases q : asInts r with
    | none => rw [q] at e; cases e
    | some ms =>
      rw [q] at e
      cases e
      rw [asInts_eq q] <;> rfl
  | .non :: _, _, e => by cases e
  | .bl _ :: _, _, e => by cases e
  | .str _ :: _, _, e => by cases e
  | .tup _ :: _, _, e => by cases e
  | .lst _ :: _, _, e => by cases e
  | .obj _ _ :: _, _, e => by cases e
  | .scr _ :: _, _, e => by cases e
  | .val _ :: _, _, e => by cases e
theorem asBls_eq : ∀ {ds : List D} {ns : List Bool}, asBls ds = some ns → ds = ns.map .bl
  | [], _, e => by cases e; rfl
  | .bl i :: r, ns, e => by
    unfold asBls at e
    cases q : asBls r with
    | none => rw [q] at e; cases e
    | some ms =>
      rw [q] at e
      cases e
      rw [asBls_eq q] <;> rfl
  | .non :: _, _, e => by cases e
  | .int _ :: _, _, e => by cases e
  | .str _ :: _, _, e => by cases e
  | .tup _ :: _, _, e => by cases e
  | .lst _ :: _, _, e => by cases e
  | .obj _ _ :: _, _, e => by cases e
  | .scr _ :: _, _, e => by cases e
  | .val _ :: _, _, e => by cases e
def fLen (x : Val) (S : Store) : R Val := match rd S x with
  | some (.lst ds) => .ok (.d (.int ds.length)) S
  | some (.tup ds) => .ok (.d (.int ds.length)) S
  | some (.scr ds) => .ok (.d (.int ds.length)) S
  | some (.str x) => if x.length ≤ cap then .ok (.d (.int x.length)) S else .bad
  | _ => .bad
def fAbs : Val → Store → R Val
  | .d (.int i), S => .ok (.d (.int (if i < 0 then -i else i))) S
  | _, _ => .bad
def fInt : Val → Store → R Val
  | .d (.int i), S => .ok (.d (.int i)) S
  | .d (.bl b), S => .ok (.d (.int (if b then 1 else 0))) S
  | _, _ => .bad
def fTuple (x : Val) (S : Store) : R Val := match rd S x with
  | some (.lst ds) => .ok (.d (.tup ds)) S
  | some (.tup ds) => .ok (.d (.tup ds)) S
  | _ => .bad
def fList (x : Val) (S : Store) : R Val := match rd S x with
  | some (.lst ds) => .ok (.d (.lst ds)) S
  | some (.tup ds) => .ok (.d (.lst ds)) S
  | _ => .bad
def fSum (x : Val) (S : Store) : R Val := match rd S x with
  | some (.lst ds) => match asInts ds with | some ns => .ok (.d (.int ns.sum)) S | none => .bad
  | some (.tup ds) => match asInts ds with | some ns => .ok (.d (.int ns.sum)) S | none => .bad
  | _ => .bad
def fAll (x : Val) (S : Store) : R Val := match rd S x with
  | some (.lst ds) => match asBls ds with | some ns => .ok (.d (.bl (ns.all id))) S | none => .bad
  | _ => .bad
def fAny (x : Val) (S : Store) : R Val := match rd S x with
  | some (.lst ds) => match asBls ds with | some ns => .ok (.d (.bl (ns.any id))) S | none => .bad
  | _ => .bad
def fMax2 : Val → Val → Store → R Val := fI fun i j => .int (if j > i then j else i)
def fMin2 : Val → Val → Store → R Val := fI fun i j => .int (if j < i then j else i)
inductive Ty where
  | int | bool | tuple | list | str
def Ty.name : Ty → String
  | .int => "int" | .bool => "bool" | .tuple => "tuple" | .list => "list" | .str => "str"
def isiD : Ty → D → Option Bool
  | .int, .int _ => some true
  | .int, .bl _ => some true
  | .bool, .bl _ => some true
  | .tuple, .tup _ => some true
  | .list, .lst _ => some true
  | .str, .str _ => some true
  | _, .obj _ _ => none
  | _, .scr _ => none
  | _, .val _ => none
  | _, _ => some false
def fIsi (t : Ty) (x : Val) (S : Store) : R Val := match rd S x with
  | some d => match isiD t d with | some b => .ok (.d (.bl b)) S | none => .bad
  | none => .bad

def OpC1 (g : Gx) (r : List V → Hp → VK → Prop) (f : Val → Store → R Val) : Prop := ∀ (W : WX) (w : Wd) (S : Store) (H : Hp) (σ : St) (x : Val) (u : V) (Q : VK), StOk g w S H → RepV g w H x u → RQ g W (RepV g) w σ H (f x S) Q → r [u] H Q
def OpC2 (g : Gx) (r : List V → Hp → VK → Prop) (f : Val → Val → Store → R Val) : Prop := ∀ (W : WX) (w : Wd) (S : Store) (H : Hp) (σ : St) (x y : Val) (u v : V) (Q : VK), StOk g w S H → RepV g w H x u → RepV g w H y v → RQ g W (RepV g) w σ H (f x y S) Q → r [u, v] H Q
theorem CallR.or {X : Cx} {f : Value} {r r' : List V → Hp → VK → Prop} (h : CallR X f r) (h' : CallR X f r') : CallR X f (fun x H Q => r x H Q ∨ r' x H Q) := fun pins s σ H x v Q I rx q => by
  rcases q with q | q
  · exact h pins s σ H x v Q I rx q
  · exact h' pins s σ H x v Q I rx q
theorem cr_sumT {X : Cx} (hc : X.calm = true) : CallR X (.builtin "sum") (fun vs H Q => ∃ (a : Addr) (ns : List Int), vs = [V.ref a] ∧ SqT X.K H a (ns.map V.int) ∧ Q (.int ns.sum) H) := by
  intro pins s σ H vs us Q I r h
  obtain ⟨a, ns, rfl, hs, q⟩ := h
  obtain ⟨its, rv, hl, _⟩ := I.tuple hs
  rw [Vals.ref1 r]
  have hi := intsAre_of rv
  obtain ⟨xs, hx⟩ := hi.allInts.items
  have hn : numsOf its.toArray.toList = ns := by
    rw [show its.toArray.toList = its from rfl, hi.numsOf]
  have ht : s.heap.IsTuple a its.toArray := hl
  rw [hx] at ht hn
  rw [nums_intItems] at hn
  refine PySem.W.ktm_sumG (I.ok.hd hc) ht fun h' tk t' hk => ?_
  have e : preSum (numAt xs) xs.size = ns.sum := by
    rw [preSum_eq, List.take_of_length_le (by simp), hn]
  rw [e]
  exact ⟨.int _, H, I.kept hk, ⟨_, rfl⟩, q⟩
def rSum2 (K : PySem.W.Frag) : List V → Hp → VK → Prop := fun vs H Q => rSum K vs H Q ∨ ∃ (a : Addr) (ns : List Int), vs = [V.ref a] ∧ SqT K H a (ns.map V.int) ∧ Q (.int ns.sum) H
theorem cr_sum2 {X : Cx} (hc : X.calm = true) : CallR X (.builtin "sum") (rSum2 X.K) := CallR.or (cr_sum hc) (cr_sumT hc)
def rLen2 (K : PySem.W.Frag) : List V → Hp → VK → Prop := fun xs H Q => (∃ p ys, xs = [.ref p] ∧ (SqL K H p ys ∨ SqT K H p ys) ∧ Q (.int ys.length) H) ∨ ∃ z, xs = [.str z] ∧ z.length ≤ sizeLine ∧ Q (.int z.length) H
theorem cr_len2 {X : Cx} : CallR X (.builtin "len") (rLen2 X.K) := CallR.or call_len_seq call_len_str

section
variable {g : Gx}
theorem c1_len : OpC1 g (rLen2 g.K) fLen := fun W w S H σ x u Q st r1 q => by
  unfold fLen at q
  split at q
  · rename_i ds e
    obtain ⟨a, vs, rfl, h1, l⟩ := rd_lst st r1 e
    rw [l.length] at q
    exact .inl ⟨a, vs, rfl, .inl (.inl (.inl h1)), RQ.okQ q st (.int _)⟩
  · rename_i ds e
    obtain ⟨a, vs, rfl, h1, l⟩ := rd_tup r1 e
    rw [l.length] at q
    exact .inl ⟨a, vs, rfl, .inr h1.sq, RQ.okQ q st (.int _)⟩
  · rename_i ns e
    obtain ⟨a, rfl, h1⟩ := rd_scr r1 e
    have e2 : (ns.length : Int) = ((ns.map V.int).length : Int) := by rw [List.length_map]
    rw [e2] at q
    exact .inl ⟨a, _, rfl, .inl h1, RQ.okQ q st (.int _)⟩
  · rename_i z e
    obtain ⟨hz, q⟩ := ite_q q
    cases x with
    | d x =>
      cases e
      cases r1
      exact .inr ⟨z, rfl, cap_le hz, RQ.okQ q st (.int _)⟩
    | cell k =>
      obtain ⟨es, hk, e2⟩ := rd_cell e
      cases e2
  · exact q.elim
theorem c1_abs : OpC1 g (fun xs H Q => ∃ i, xs = [.int i] ∧ Q (.int (if i < 0 then -i else i)) H) fAbs := fun W w S H σ x u Q st r1 q => by
  unfold fAbs at q
  split at q
  · cases r1
    exact ⟨_, rfl, RQ.okQ q st (.int _)⟩
  · exact q.elim
theorem c1_int : OpC1 g (fun xs H Q => (∃ i, xs = [.int i] ∧ Q (.int i) H) ∨ ∃ k, xs = [.bl k] ∧ Q (.int (if k then 1 else 0)) H) fInt := fun W w S H σ x u Q st r1 q => by
  unfold fInt at q
  split at q
  · cases r1
    exact .inl ⟨_, rfl, RQ.okQ q st (.int _)⟩
  · cases r1
    exact .inr ⟨_, rfl, RQ.okQ q st (.int _)⟩
  · exact q.elim
theorem c1_tuple : OpC1 g (fun xs H Q => ∃ p ys, xs = [.ref p] ∧ ((SqL g.K H p ys ∧ ∀ l, H l = none → Q (.ref l) (upd H l (.tup ys))) ∨ (SqT g.K H p ys ∧ Q (.ref p) H))) fTuple := fun W w S H σ x u Q st r1 q => by
  unfold fTuple at q
  split at q
  · rename_i ds e
    obtain ⟨a, vs, rfl, h1, l⟩ := rd_lst st r1 e
    exact ⟨a, vs, rfl, .inl ⟨.inl (.inl h1), fun p hp => RQ.newQ q st hp (rep_tup st hp l)⟩⟩
  · rename_i ds e
    obtain ⟨a, vs, rfl, h1, l⟩ := rd_tup r1 e
    exact ⟨a, vs, rfl, .inr ⟨h1.sq, RQ.okQ q st (.tup h1 l)⟩⟩
  · exact q.elim
theorem c1_list : OpC1 g (fun xs H Q => ∃ p ys, xs = [.ref p] ∧ (SqL g.K H p ys ∨ SqT g.K H p ys) ∧ ∀ l, H l = none → Q (.ref l) (upd H l (.lst ys))) fList := fun W w S H σ x u Q st r1 q => by
  unfold fList at q
  split at q
  · rename_i ds e
    obtain ⟨a, vs, rfl, h1, l⟩ := rd_lst st r1 e
    exact ⟨a, vs, rfl, .inl (.inl (.inl h1)), fun p hp => RQ.newQ q st hp (rep_lst st hp l)⟩
  · rename_i ds e
    obtain ⟨a, vs, rfl, h1, l⟩ := rd_tup r1 e
    exact ⟨a, vs, rfl, .inr h1.sq, fun p hp => RQ.newQ q st hp (rep_lst st hp l)⟩
  · exact q.elim
theorem c1_sum : OpC1 g (rSum2 g.K) fSum := fun W w S H σ x u Q st r1 q => by
  unfold fSum at q
  split at q
  · rename_i ds e
    split at q
    · rename_i ns en
      obtain ⟨a, vs, rfl, h1, l⟩ := rd_lst st r1 e
      rw [asInts_eq en] at l
      have ev := l.ints
      subst ev
      exact .inl ⟨a, ns, rfl, .inl (.inl h1), RQ.okQ q st (.int _)⟩
    · exact q.elim
  · rename_i ds e
    split at q
    · rename_i ns en
      obtain ⟨a, vs, rfl, h1, l⟩ := rd_tup r1 e
      rw [asInts_eq en] at l
      have ev := l.ints
      subst ev
      exact .inr ⟨a, ns, rfl, h1.sq, RQ.okQ q st (.int _)⟩
    · exact q.elim
  · exact q.elim
theorem c1_all : OpC1 g (rAll g.K) fAll := fun W w S H σ x u Q st r1 q => by
  unfold fAll at q
  split at q
  · rename_i ds e
    split at q
    · rename_i ns en
      obtain ⟨a, vs, rfl, h1, l⟩ := rd_lst st r1 e
      rw [asBls_eq en] at l
      have ev := l.bls
      subst ev
      exact ⟨a, ns, rfl, .inl (.inl h1), RQ.okQ q st (.bl _)⟩
    · exact q.elim
  · exact q.elim
theorem c1_any : OpC1 g (rAny g.K) fAny := fun W w S H σ x u Q st r1 q => by
  unfold fAny at q
  split at q
  · rename_i ds e
    split at q
    · rename_i ns en
      obtain ⟨a, vs, rfl, h1, l⟩ := rd_lst st r1 e
      rw [asBls_eq en] at l
      have ev := l.bls
      subst ev
      exact ⟨a, ns, rfl, .inl (.inl h1), RQ.okQ q st (.bl _)⟩
    · exact q.elim
  · exact q.elim
theorem c2_max : OpC2 g (fun xs H Q => ∃ i j, xs = [.int i, .int j] ∧ Q (.int (if j > i then j else i)) H) fMax2 := fun W w S H σ x y u v Q st r1 r2 q => by
  obtain ⟨i, j, rfl, rfl, q⟩ := fI_q st r1 r2 q
  exact ⟨i, j, rfl, RQ.okQ q st (.int _)⟩
theorem c2_min : OpC2 g (fun xs H Q => ∃ i j, xs = [.int i, .int j] ∧ Q (.int (if j < i then j else i)) H) fMin2 := fun W w S H σ x y u v Q st r1 r2 q => by
  obtain ⟨i, j, rfl, rfl, q⟩ := fI_q st r1 r2 q
  exact ⟨i, j, rfl, RQ.okQ q st (.int _)⟩
def rIsiTy (K : PySem.W.Frag) (n : String) : List V → Hp → VK → Prop := fun xs H Q => ∃ x, xs = [x] ∧ rIsi K [x, .ty n] H Q
theorem isi_ty {w : Wd} {S : Store} {H : Hp} {t : Ty} {x : Val} {d : D} {u : V} {b : Bool} (st : StOk g w S H) (r : RepV g w H x u) (e : rd S x = some d) (eb : isiD t d = some b) : ∃ tv, TyX g.K H u tv ∧ PySem.W.kitOne g.K tv (.type t.name) = some b := by
  have key : ∀ {n : String} {v : V}, TyX g.K H v (.type n) → kitB n t.name = some b → ∃ tv, TyX g.K H v tv ∧ PySem.W.kitOne g.K tv (.type t.name) = some b := fun h1 h2 => ⟨_, h1, kit_ty h2⟩
  cases d with
  | non =>
    cases x with
    | d x => cases e; cases r; refine key (.base .non) ?_; cases t <;> cases eb <;> decide +kernel
    | cell k => obtain ⟨es, hk, e2⟩ := rd_cell e; cases e2
  | bl y =>
    cases x with
    | d x => cases e; cases r; refine key (.base (.bl y)) ?_; cases t <;> cases eb <;> decide +kernel
    | cell k => obtain ⟨es, hk, e2⟩ := rd_cell e; cases e2
  | int y =>
    cases x with
    | d x => cases e; cases r; refine key (.base (.int y)) ?_; cases t <;> cases eb <;> decide +kernel
    | cell k => obtain ⟨es, hk, e2⟩ := rd_cell e; cases e2
  | str y =>
    cases x with
    | d x => cases e; cases r; refine key (.base (.str y)) ?_; cases t <;> cases eb <;> decide +kernel
    | cell k => obtain ⟨es, hk, e2⟩ := rd_cell e; cases e2
  | tup ds =>
    obtain ⟨a, vs, rfl, h1, l⟩ := rd_tup r e
    have kk : kitB "tuple" t.name = some b := by cases t <;> cases eb <;> decide +kernel
    rcases h1 with ⟨h1 | ⟨o, h1⟩, _⟩ | ⟨o, its, n, h1, h2, _⟩
    · exact key (.base (.tup h1)) kk
    · exact key (.fTuple h1) kk
    · exact key (.kTuple h1 h2) kk
  | lst ds =>
    obtain ⟨a, vs, rfl, h1, l⟩ := rd_lst st r e
    have kk : kitB "list" t.name = some b := by cases t <;> cases eb <;> decide +kernel
    exact key (.base (.lst h1)) kk
  | obj _ _ => cases t <;> cases eb
  | scr _ => cases t <;> cases eb
  | val _ => cases t <;> cases eb
end

/-! ### calls -/
section
variable {X : Cx} {g : Gx} {W : WX} {a b : Expr} {ea eb : Ev} {pos p : Pos} {x : Str} {id T : String} {r : List V → Hp → VK → Prop}
theorem p_call1 {f : Val → Store → R Val} (hc : CallR X (.builtin id) r) (hf : OpC1 g r f) (hg : Gl X x) (hm : X.mg x = none) (hv : bootBuiltins x = some (.builtin id)) (ha : PE X a (tE g W ea)) (hn : x ≠ "__name__" := by decide) (hdb : (x == ("__debug__" : Str)) = false := by decide)
    (he : starEach [a] X.env = (false, eval a X.env) :: starEach [] X.env := by rfl) (hpl : (backTo pos (starEach [] X.env)).any (·.1) = false := by rfl) : PE X (.Call (.Name x p) [a] [] pos) (tE g W (eUn f ea)) :=
  (pe_callB hc hg hm hv (pa_cons ha pa_nil he) hn hdb he hpl).imp fun σ H Q ⟨w, Γ, S, st, en, h⟩ => tX_seq st en h fun u H1 y S1 w1 s1 st1 en1 r1 h1 => hf W w1 S1 H1 σ y u Q st1 r1 h1
theorem p_callT1 {f : Val → Store → R Val} (hc : CallR X (.type T) r) (hf : OpC1 g r f) (hg : Gl X x) (hm : X.mg x = none) (hv : bootBuiltins x = some (.type T)) (ha : PE X a (tE g W ea)) (hn : x ≠ "__name__" := by decide) (hdb : (x == ("__debug__" : Str)) = false := by decide)
    (he : starEach [a] X.env = (false, eval a X.env) :: starEach [] X.env := by rfl) (hpl : (backTo pos (starEach [] X.env)).any (·.1) = false := by rfl) : PE X (.Call (.Name x p) [a] [] pos) (tE g W (eUn f ea)) :=
  (pe_callTy hc hg hm hv (pa_cons ha pa_nil he) hn hdb he hpl).imp fun σ H Q ⟨w, Γ, S, st, en, h⟩ => tX_seq st en h fun u H1 y S1 w1 s1 st1 en1 r1 h1 => hf W w1 S1 H1 σ y u Q st1 r1 h1
theorem p_call2 {f : Val → Val → Store → R Val} (hc : CallR X (.builtin id) r) (hf : OpC2 g r f) (hg : Gl X x) (hm : X.mg x = none) (hv : bootBuiltins x = some (.builtin id)) (ha : PE X a (tE g W ea)) (hb : PE X b (tE g W eb)) (hn : x ≠ "__name__" := by decide) (hdb : (x == ("__debug__" : Str)) = false := by decide)
    (he : starEach [a, b] X.env = (false, eval a X.env) :: starEach [b] X.env := by rfl) (he2 : starEach [b] X.env = (false, eval b X.env) :: starEach [] X.env := by rfl) (hpl : (backTo pos (starEach [b] X.env)).any (·.1) = false := by rfl) : PE X (.Call (.Name x p) [a, b] [] pos) (tE g W (eBin f ea eb)) :=
  (pe_callB hc hg hm hv (pa_cons ha (pa_cons hb pa_nil he2) he) hn hdb he hpl).imp fun σ H Q ⟨w, Γ, S, st, en, h⟩ => tX_seq st en h fun u H1 y S1 w1 s1 st1 en1 r1 h1 => tX_seq st1 en1 h1 fun v H2 z S2 w2 s2 st2 en2 r2 h2 =>
    hf W w2 S2 H2 σ y z u v Q st2 (r1.step s2) r2 h2
theorem p_len (hK : g.K = X.K) (hg : Gl X "len") (hm : X.mg "len" = none) (ha : PE X a (tE g W ea)) (he : starEach [a] X.env = (false, eval a X.env) :: starEach [] X.env := by rfl) (hpl : (backTo pos (starEach [] X.env)).any (·.1) = false := by rfl) :
    PE X (.Call (.Name "len" p) [a] [] pos) (tE g W (eUn fLen ea)) := p_call1 (id := "len") cr_len2 (by rw [← hK]; exact c1_len) hg hm (by decide +kernel) ha (by decide) (by decide) he hpl
theorem p_sum (hK : g.K = X.K) (hcm : X.calm = true) (hg : Gl X "sum") (hm : X.mg "sum" = none) (ha : PE X a (tE g W ea)) (he : starEach [a] X.env = (false, eval a X.env) :: starEach [] X.env := by rfl) (hpl : (backTo pos (starEach [] X.env)).any (·.1) = false := by rfl) :
    PE X (.Call (.Name "sum" p) [a] [] pos) (tE g W (eUn fSum ea)) := p_call1 (id := "sum") (cr_sum2 hcm) (by rw [← hK]; exact c1_sum) hg hm (by decide +kernel) ha (by decide) (by decide) he hpl
theorem p_all (hK : g.K = X.K) (hcm : X.calm = true) (hg : Gl X "all") (hm : X.mg "all" = none) (ha : PE X a (tE g W ea)) (he : starEach [a] X.env = (false, eval a X.env) :: starEach [] X.env := by rfl) (hpl : (backTo pos (starEach [] X.env)).any (·.1) = false := by rfl) :
    PE X (.Call (.Name "all" p) [a] [] pos) (tE g W (eUn fAll ea)) := p_call1 (id := "all") (cr_all hcm) (by rw [← hK]; exact c1_all) hg hm (by decide +kernel) ha (by decide) (by decide) he hpl
theorem p_any (hK : g.K = X.K) (hcm : X.calm = true) (hg : Gl X "any") (hm : X.mg "any" = none) (ha : PE X a (tE g W ea)) (he : starEach [a] X.env = (false, eval a X.env) :: starEach [] X.env := by rfl) (hpl : (backTo pos (starEach [] X.env)).any (·.1) = false := by rfl) :
    PE X (.Call (.Name "any" p) [a] [] pos) (tE g W (eUn fAny ea)) := p_call1 (id := "any") (cr_any hcm) (by rw [← hK]; exact c1_any) hg hm (by decide +kernel) ha (by decide) (by decide) he hpl
theorem p_abs (hg : Gl X "abs") (hm : X.mg "abs" = none) (ha : PE X a (tE g W ea)) (he : starEach [a] X.env = (false, eval a X.env) :: starEach [] X.env := by rfl) (hpl : (backTo pos (starEach [] X.env)).any (·.1) = false := by rfl) :
    PE X (.Call (.Name "abs" p) [a] [] pos) (tE g W (eUn fAbs ea)) := p_call1 (id := "abs") call_abs c1_abs hg hm (by decide +kernel) ha (by decide) (by decide) he hpl
theorem p_int' (hg : Gl X "int") (hm : X.mg "int" = none) (ha : PE X a (tE g W ea)) (he : starEach [a] X.env = (false, eval a X.env) :: starEach [] X.env := by rfl) (hpl : (backTo pos (starEach [] X.env)).any (·.1) = false := by rfl) :
    PE X (.Call (.Name "int" p) [a] [] pos) (tE g W (eUn fInt ea)) := p_callT1 (T := "int") call_int1 c1_int hg hm (by decide +kernel) ha (by decide) (by decide) he hpl
theorem p_tuple (hK : g.K = X.K) (hg : Gl X "tuple") (hm : X.mg "tuple" = none) (ha : PE X a (tE g W ea)) (he : starEach [a] X.env = (false, eval a X.env) :: starEach [] X.env := by rfl) (hpl : (backTo pos (starEach [] X.env)).any (·.1) = false := by rfl) :
    PE X (.Call (.Name "tuple" p) [a] [] pos) (tE g W (eUn fTuple ea)) := p_callT1 (T := "tuple") call_tuple_of (by rw [← hK]; exact c1_tuple) hg hm (by decide +kernel) ha (by decide) (by decide) he hpl
theorem p_list (hK : g.K = X.K) (hg : Gl X "list") (hm : X.mg "list" = none) (ha : PE X a (tE g W ea)) (he : starEach [a] X.env = (false, eval a X.env) :: starEach [] X.env := by rfl) (hpl : (backTo pos (starEach [] X.env)).any (·.1) = false := by rfl) :
    PE X (.Call (.Name "list" p) [a] [] pos) (tE g W (eUn fList ea)) := p_callT1 (T := "list") call_list_of (by rw [← hK]; exact c1_list) hg hm (by decide +kernel) ha (by decide) (by decide) he hpl
theorem p_max2 (hcm : X.calm = true) (hg : Gl X "max") (hm : X.mg "max" = none) (ha : PE X a (tE g W ea)) (hb : PE X b (tE g W eb)) (he : starEach [a, b] X.env = (false, eval a X.env) :: starEach [b] X.env := by rfl) (he2 : starEach [b] X.env = (false, eval b X.env) :: starEach [] X.env := by rfl) (hpl : (backTo pos (starEach [b] X.env)).any (·.1) = false := by rfl) :
    PE X (.Call (.Name "max" p) [a, b] [] pos) (tE g W (eBin fMax2 ea eb)) := p_call2 (id := "max") (call_max2 hcm) c2_max hg hm (by decide +kernel) ha hb (by decide) (by decide) he he2 hpl
theorem p_min2 (hcm : X.calm = true) (hg : Gl X "min") (hm : X.mg "min" = none) (ha : PE X a (tE g W ea)) (hb : PE X b (tE g W eb)) (he : starEach [a, b] X.env = (false, eval a X.env) :: starEach [b] X.env := by rfl) (he2 : starEach [b] X.env = (false, eval b X.env) :: starEach [] X.env := by rfl) (hpl : (backTo pos (starEach [b] X.env)).any (·.1) = false := by rfl) :
    PE X (.Call (.Name "min" p) [a, b] [] pos) (tE g W (eBin fMin2 ea eb)) := p_call2 (id := "min") (call_min2 hcm) c2_min hg hm (by decide +kernel) ha hb (by decide) (by decide) he he2 hpl
/-- isinstance(a, T), T a built-in class -/
theorem p_isi (t : Ty) {n : Str} {p2 : Pos} (hK : g.K = X.K) (hg : Gl X "isinstance") (hm : X.mg "isinstance" = none) (hgT : Gl X n) (hmT : X.mg n = none) (hvT : bootBuiltins n = some (.type t.name)) (ha : PE X a (tE g W ea)) (hnT : n ≠ "__name__" := by decide) (hdT : (n == ("__debug__" : Str)) = false := by decide)
    (he : starEach [a, .Name n p2] X.env = (false, eval a X.env) :: starEach [.Name n p2] X.env := by rfl) (he2 : starEach [.Name n p2] X.env = (false, eval (.Name n p2) X.env) :: starEach [] X.env := by rfl) (hpl : (backTo pos (starEach [.Name n p2] X.env)).any (·.1) = false := by rfl) :
    PE X (.Call (.Name "isinstance" p) [a, .Name n p2] [] pos) (tE g W (eUn (fIsi t) ea)) :=
  (pe_callB (id := "isinstance") call_isi hg hm (by decide +kernel) (pa_cons ha (pa_cons (pe_bltn (v := .ty t.name) hgT hmT hvT rfl hnT hdT) pa_nil he2) he) (by decide) (by decide) he hpl).imp fun σ H Q ⟨w, Γ, S, st, en, h⟩ =>
    tX_seq st en h fun u H1 y S1 w1 s1 st1 en1 r1 h1 => by
      unfold fIsi at h1
      split at h1
      · rename_i d e
        split at h1
        · rename_i bb eb
          obtain ⟨tv, t1, t2⟩ := isi_ty st1 r1 e eb
          rw [hK] at t1 t2
          exact ⟨u, .ty t.name, tv, .type t.name, bb, rfl, .ty t.name, t1, t2, RQ.okQ h1 st1 (.bl _)⟩
        · exact h1.elim
      · exact h1.elim
end
end Pd

namespace Pd
open PySem L2

/-! ### slices -/
def cutD {α : Type} (xs : List α) (lo hi : Option Int) : List α := (xs.drop (HT.sIx xs.length 0 lo)).take (HT.sIx xs.length xs.length hi - HT.sIx xs.length 0 lo)
def eoN : Env → Store → R (Option Int) := fun _ S => .ok none S
def eoS (a : Ev) : Env → Store → R (Option Int) := fun Γ S => (a Γ S).bind fun x S1 => match x with | .d (.int i) => .ok (some i) S1 | _ => .bad
def fSl (x : Val) (lo hi : Option Int) (S : Store) : R Val := match rd S x with
  | some (.lst ds) => .ok (.d (.lst (cutD ds lo hi))) S
  | some (.tup ds) => .ok (.d (.tup (cutD ds lo hi))) S
  | _ => .bad
def eSl (a : Ev) (lo hi : Env → Store → R (Option Int)) : Ev := fun Γ S => (a Γ S).bind fun x S1 => (lo Γ S1).bind fun l S2 => (hi Γ S2).bind fun h S3 => fSl x l h S3
abbrev tO (g : Gx) (W : WX) (ev : Env → Store → R (Option Int)) : TO := tX g W (fun _ _ a b => a = b) ev
theorem _root_.L2.PO.imp {X : Cx} {e : Option Expr} {t t' : TO} (h : PO X e t) (i : ∀ σ H Q, t' σ H Q → t σ H Q) : PO X e t' := ⟨fun pins s σ H Q I hw => h.run pins s σ H Q I (i σ H Q hw)⟩
section
variable {X : Cx} {g : Gx} {W : WX} {a b c : Expr} {ea eb ec : Ev} {pos p2 : Pos}
theorem po_n : PO X none (tO g W eoN) := po_none.imp fun σ H Q ⟨w, Γ, S, st, en, h⟩ => RQ.okQ h st rfl
theorem po_s (ha : PE X a (tE g W ea)) : PO X (some a) (tO g W (eoS ea)) := (po_some ha).imp fun σ H Q ⟨w, Γ, S, st, en, h⟩ => tX_seq st en h fun u H1 x S1 w1 s1 st1 en1 r1 h1 => by
  split at h1
  · cases r1
    exact ⟨_, rfl, RQ.okQ h1 st1 rfl⟩
  · exact h1.elim
theorem RepL.cut {w : Wd} {H : Hp} {ds : List D} {vs : List V} (l : RepL g w H ds vs) (lo hi : Option Int) : RepL g w H (cutD ds lo hi) (cutV vs lo hi) := by
  unfold cutD cutV
  rw [l.length]
  exact RepL.take _ (RepL.drop _ l)
theorem cut_whole {α : Type} (xs : List α) (lo hi : Option Int) (h : HT.sIx xs.length 0 lo = 0 ∧ HT.sIx xs.length xs.length hi = xs.length) : cutD xs lo hi = xs := by
  unfold cutD
  rw [h.1, h.2]
  simp
def rSl2 (K : PySem.W.Frag) : V → Option Int → Option Int → Hp → VK → Prop := fun x lo hi H Q => rSlL K x lo hi H Q ∨ rSlA K x lo hi H Q
theorem sl_two : SlR X (rSl2 X.K) := SlR.or sl_list sl_tupA
theorem p_sl {lo hi : Option Expr} {el eh : Env → Store → R (Option Int)} (hK : g.K = X.K) (ha : PE X a (tE g W ea)) (hl : PO X lo (tO g W el)) (hh : PO X hi (tO g W eh)) : PE X (.Subscript a (.Slice lo hi none p2) pos) (tE g W (eSl ea el eh)) :=
  (pe_slice sl_two ha hl hh).imp fun σ H Q ⟨w, Γ, S, st, en, h⟩ => tX_seq st en h fun u H1 x S1 w1 s1 st1 en1 r1 h1 => tX_seq st1 en1 h1 fun l H2 l' S2 w2 s2 st2 en2 r2 h2 => tX_seq st2 en2 h2 fun k H3 k' S3 w3 s3 st3 en3 r3 h3 => by
    subst r2
    subst r3
    have r1' := (r1.step s2).step s3
    unfold fSl at h3
    split at h3
    · rename_i ds e
      obtain ⟨p, vs, rfl, q1, q2⟩ := rd_lst st3 r1' e
      exact .inl ⟨p, vs, rfl, .inl (.inl q1), fun p hp => RQ.newQ h3 st3 hp (rep_lst st3 hp (q2.cut _ _))⟩
    · rename_i ds e
      obtain ⟨p, vs, rfl, q1, q2⟩ := rd_tup r1' e
      refine .inr ⟨p, vs, rfl, by rw [← hK]; exact q1.sq, fun hw => ?_, fun _ p hp => RQ.newQ h3 st3 hp (rep_tup st3 hp (q2.cut _ _))⟩
      rw [← q2.length] at hw
      rw [cut_whole ds _ _ hw] at h3
      exact RQ.okQ h3 st3 (.tup q1 q2)
    · exact h3.elim
end

/-! ### what a loop walks -/
def Items (g : Gx) (w : Wd) (H : Hp) (ds : List D) (J : It) : Prop := ∀ w1 S1 H1, StOk g w1 S1 H1 → Le w H w1 H1 →
  (∀ i, i < ds.length → J.go i H1 ∧ ∀ x H2, J.yld i H1 x H2 → Stp w1 H1 w1 H2 ∧ StOk g w1 S1 H2 ∧ ∀ d, ds[i]? = some d → Rep g w1 H2 d x) ∧ J.stop ds.length H1
abbrev tI (g : Gx) (W : WX) (it : Env → Store → R (List D)) : TI := tX g W (Items g) it
/-- the items of a list or a tuple -/
def itV (a : Ev) : Env → Store → R (List D) := fun Γ S => (a Γ S).bind fun x S1 => match x with | .d (.lst ds) => .ok ds S1 | .d (.tup ds) => .ok ds S1 | _ => .bad
def upto (n : Nat) : List D := (List.range n).map fun i => .int (i : Nat)
def itR1 (a : Ev) : Env → Store → R (List D) := fun Γ S => (a Γ S).bind fun x S1 => match x with | .d (.int n) => if n ≤ cap ∧ -cap ≤ n then .ok (upto n.toNat) S1 else .bad | _ => .bad
def itR2 (a b : Ev) : Env → Store → R (List D) := fun Γ S => (a Γ S).bind fun x S1 => (b Γ S1).bind fun y S2 => match x, y with
  | .d (.int m), .d (.int n) => if (n ≤ cap ∧ -cap ≤ n) ∧ m ≤ cap ∧ -cap ≤ m then .ok ((List.range (n - m).toNat).map fun i => .int (m + (i : Nat))) S2 else .bad | _, _ => .bad
def seqOf : Val → Option (List D)
  | .d (.lst ds) => some ds
  | .d (.tup ds) => some ds
  | _ => none
/-- enumerate(a list) -/
def itEn (a : Ev) : Env → Store → R (List D) := fun Γ S => (a Γ S).bind fun x S1 => match x with | .d (.lst ds) => .ok (ds.zipIdx.map fun p => .tup [.int (p.2 : Nat), p.1]) S1 | .d (.tup ds) => .ok (ds.zipIdx.map fun p => .tup [.int (p.2 : Nat), p.1]) S1 | _ => .bad
def zipD (xs ys : List D) : List D := (xs.zip ys).map fun p => .tup [p.1, p.2]
/-- zip of two lists, of two tuples -/
def itZ (a b : Ev) : Env → Store → R (List D) := fun Γ S => (a Γ S).bind fun x S1 => (b Γ S1).bind fun y S2 => match x, y with
  | .d (.lst ds), .d (.lst es) => .ok (zipD ds es) S2
  | .d (.tup ds), .d (.tup es) => .ok (zipD ds es) S2
  | _, _ => .bad

section
variable {X : Cx} {g : Gx} {W : WX} {a b c tg : Expr} {ea eb ec : Ev} {pos p p2 : Pos}
/-- a list or a tuple, walked -/
theorem pi_seq {l : Expr} {tl : TE} (hl : PE X l tl) : PI X tg l (fun σ H R => tl σ H fun x H1 => ∃ a, x = .ref a ∧ (((∃ xs, SqL X.K H1 a xs) ∧ R (Itl X.K a) H1) ∨ ((∃ xs, SqT X.K H1 a xs) ∧ R (Itt X.K a) H1))) := by
  refine ⟨fun pins s σ H R I h => ?_⟩
  refine thn (hl.run pins s σ H _ I h) fun v s1 ⟨x, H1, I1, r1, q1⟩ => ?_
  obtain ⟨a, e, q⟩ := q1
  subst e
  cases r1
  rcases q with ⟨⟨xs, hq⟩, q⟩ | ⟨⟨xs, hq⟩, q⟩
  · obtain ⟨its, rv, p, hz⟩ := I1.list hq
    refine wpAny_pyIter_list p.isList ?_
    refine ⟨s1.heap.objs.size, [s1.heap.objs.size], _, _, H1, rfl, I1.kept (t' := s1.toks) fun b o e => Heap.get?_push_of_some _ e, turn_list a _, ⟨_, Heap.get?_push_size _ rfl, rfl, rfl⟩, fun b hb => ?_, q⟩
    have e : b = s1.heap.objs.size := by simpa using hb
    subst e
    exact I1.fpOk (Nat.le_refl _) (I1.hok.fresh (Nat.le_refl _))
  · obtain ⟨its, rv, p, hz⟩ := I1.tuple hq
    refine wpAny_pyIter_tuple (show s1.heap.IsTuple a its.toArray from p) ?_
    refine ⟨s1.heap.objs.size, [s1.heap.objs.size], _, _, H1, rfl, I1.kept (t' := s1.toks) fun b o e => Heap.get?_push_of_some _ e, turn_tuple a _, ⟨_, Heap.get?_push_size _ rfl, rfl, rfl⟩, fun b hb => ?_, q⟩
    have e : b = s1.heap.objs.size := by simpa using hb
    subst e
    exact I1.fpOk (Nat.le_refl _) (I1.hok.fresh (Nat.le_refl _))
variable {w : Wd} {H : Hp} {ds es : List D}
theorem items_list {a : Addr} {vs : List V} (h : H a = some (.lst vs)) (n : ¬ w.av a) (l : RepL g w H ds vs) : Items g w H ds (Itl g.K a) := fun w1 S1 H1 st le => by
  have h1 : SqL g.K H1 a vs := .inl (.inl (le.keep _ _ h n))
  have l1 := RepL.le le l
  refine ⟨fun i hi => ?_, ⟨vs, h1, by rw [l.length]; exact Nat.le_refl _⟩⟩
  obtain ⟨v, hv, _⟩ := l.get (List.getElem?_eq_getElem hi)
  refine ⟨⟨vs, v, h1, hv⟩, fun x H2 y => ?_⟩
  obtain ⟨rfl, y⟩ := y
  refine ⟨.refl _ _, st, fun d hd => ?_⟩
  obtain ⟨u, hu, ru⟩ := l1.get hd
  have := y vs h1
  rw [hu] at this
  cases this
  exact ru
theorem items_tup {a : Addr} {vs : List V} (h : SqT' g w H a vs) (l : RepL g w H ds vs) : Items g w H ds (Itt g.K a) := fun w1 S1 H1 st le => by
  have h1 : SqT g.K H1 a vs := (h.le le).sq
  have l1 := RepL.le le l
  refine ⟨fun i hi => ?_, ⟨vs, h1, by rw [l.length]; exact Nat.le_refl _⟩⟩
  obtain ⟨v, hv, _⟩ := l.get (List.getElem?_eq_getElem hi)
  refine ⟨⟨vs, v, h1, hv⟩, fun x H2 y => ?_⟩
  obtain ⟨rfl, y⟩ := y
  refine ⟨.refl _ _, st, fun d hd => ?_⟩
  obtain ⟨u, hu, ru⟩ := l1.get hd
  have := y vs h1
  rw [hu] at this
  cases this
  exact ru
theorem i_val (hK : g.K = X.K) (ha : PE X a (tE g W ea)) : PI X tg a (tI g W (itV ea)) := (pi_seq ha).imp fun σ H Q ⟨w, Γ, S, st, en, h⟩ => tX_seq st en h fun u H1 x S1 w1 s1 st1 en1 r1 h1 => by
  split at h1
  · cases r1 with
    | lst q1 q2 q3 =>
      rw [← hK]
      exact ⟨_, rfl, .inl ⟨⟨_, .inl (.inl q1)⟩, RQ.okQ h1 st1 (items_list q1 q2 q3)⟩⟩
  · cases r1 with
    | tup q1 q3 =>
      rw [← hK]
      exact ⟨_, rfl, .inr ⟨⟨_, q1.sq⟩, RQ.okQ h1 st1 (items_tup q1 q3)⟩⟩
  · exact h1.elim
theorem items_range {lo : Int} {n : Nat} : Items g w H ((List.range n).map fun i => .int (lo + (i : Nat))) (Itr lo n) := fun w1 S1 H1 st le => by
  refine ⟨fun i hi => ?_, by show n ≤ _; simp⟩
  have hi' : i < n := by simpa using hi
  refine ⟨hi', fun x H2 y => ?_⟩
  obtain ⟨rfl, rfl⟩ := y
  refine ⟨.refl _ _, st, fun d hd => ?_⟩
  rw [List.getElem?_map, List.getElem?_range hi'] at hd
  cases hd
  exact .int _
theorem items_upto {n : Nat} : Items g w H (upto n) (Itr 0 n) := by
  have e : upto n = (List.range n).map fun i => .int ((0 : Int) + (i : Nat)) := by
    unfold upto
    simp
  rw [e]
  exact items_range
theorem i_range1 (hg : Gl X "range") (hm : X.mg "range" = none) (ha : PE X a (tE g W ea)) (hs : starEach [a] X.env = [(false, eval a X.env)] := by rfl) : PI X tg (.Call (.Name "range" p) [a] [] pos) (tI g W (itR1 ea)) :=
  (pi_range1 hg hm (pa_cons ha pa_nil hs) hs).imp fun σ H Q ⟨w, Γ, S, st, en, h⟩ => tX_seq st en h fun u H1 x S1 w1 s1 st1 en1 r1 h1 => by
    split at h1
    · obtain ⟨⟨q1, q2⟩, h1⟩ := ite_q h1
      cases r1
      have hc : ((cap : Nat) : Int) = 1000000 := rfl
      exact ⟨_, rfl, by omega, by omega, RQ.okQ h1 st1 items_upto⟩
    · exact h1.elim
theorem i_range2 (hg : Gl X "range") (hm : X.mg "range" = none) (ha : PE X a (tE g W ea)) (hb : PE X b (tE g W eb)) (hs : starEach [a, b] X.env = [(false, eval a X.env), (false, eval b X.env)] := by rfl) (hs2 : starEach [b] X.env = [(false, eval b X.env)] := by rfl) :
    PI X tg (.Call (.Name "range" p) [a, b] [] pos) (tI g W (itR2 ea eb)) :=
  (pi_range2 hg hm (pa_cons ha (pa_cons hb pa_nil hs2) (by rw [hs, hs2])) hs hs2).imp fun σ H Q ⟨w, Γ, S, st, en, h⟩ => tX_seq st en h fun u H1 x S1 w1 s1 st1 en1 r1 h1 => tX_seq st1 en1 h1 fun v H2 y S2 w2 s2 st2 en2 r2 h2 => by
    split at h2
    · obtain ⟨⟨⟨q1, q2⟩, q3, q4⟩, h2⟩ := ite_q h2
      cases r1
      cases r2
      have hc : ((cap : Nat) : Int) = 1000000 := rfl
      exact ⟨_, _, rfl, ⟨by omega, by omega, by omega, by omega⟩, RQ.okQ h2 st2 items_range⟩
    · exact h2.elim
/-- a new pair at each turn -/
theorem items_pair {J : It} {f : Nat → Option (D × D)} {n : Nat} (hn : ds.length = n) (hd : ∀ i d, ds[i]? = some d → ∃ x y, f i = some (x, y) ∧ d = .tup [x, y])
    (hJ : ∀ w1 S1 H1, StOk g w1 S1 H1 → Le w H w1 H1 → (∀ i, i < n → J.go i H1 ∧ ∀ x H2, J.yld i H1 x H2 → ∃ T u v, x = .ref T ∧ H1 T = none ∧ H2 = upd H1 T (.tup [u, v]) ∧ ∀ c d, f i = some (c, d) → Rep g w1 H1 c u ∧ Rep g w1 H1 d v) ∧ J.stop n H1) : Items g w H ds J := fun w1 S1 H1 st le => by
  subst hn
  obtain ⟨j1, j2⟩ := hJ w1 S1 H1 st le
  refine ⟨fun i hi => ⟨(j1 i hi).1, fun x H2 y => ?_⟩, j2⟩
  obtain ⟨T, u, v, rfl, hT, rfl, q⟩ := (j1 i hi).2 x H2 y
  refine ⟨step_new st hT, st.new hT, fun d hdd => ?_⟩
  obtain ⟨c, e, hf, rfl⟩ := hd i d hdd
  obtain ⟨r1, r2⟩ := q c e hf
  exact rep_tup st hT (.cons r1 (.cons r2 .nil))
theorem enum_len (ds : List D) : (ds.zipIdx.map fun p => D.tup [.int (p.2 : Nat), p.1]).length = ds.length := by simp
theorem enum_get (ds : List D) (i : Nat) (d : D) (h : (ds.zipIdx.map fun p => D.tup [.int (p.2 : Nat), p.1])[i]? = some d) : ∃ x y, (ds[i]?.map fun z => (D.int (i : Nat), z)) = some (x, y) ∧ d = .tup [x, y] := by
  rw [List.getElem?_map, List.getElem?_zipIdx] at h
  cases e : ds[i]? with
  | none => rw [e] at h; cases h
  | some z =>
    rw [e] at h
    simp at h
    exact ⟨_, _, rfl, h.symm⟩
theorem items_enum {a : Addr} {vs : List V} (h : H a = some (.lst vs)) (n : ¬ w.av a) (l : RepL g w H ds vs) : Items g w H (ds.zipIdx.map fun p => .tup [.int (p.2 : Nat), p.1]) (Ite g.K a) := by
  refine items_pair (enum_len ds) (f := fun i => ds[i]?.map fun z => (D.int (i : Nat), z)) (fun i d h => enum_get ds i d h) fun w1 S1 H1 st le => ?_
  have h1 : SqL g.K H1 a vs := .inl (.inl (le.keep _ _ h n))
  have l1 := RepL.le le l
  refine ⟨fun i hi => ?_, ⟨vs, h1, by rw [l.length]; exact Nat.le_refl _⟩⟩
  obtain ⟨v, hv, _⟩ := l.get (List.getElem?_eq_getElem hi)
  refine ⟨⟨vs, v, h1, hv⟩, fun x H2 y => ?_⟩
  obtain ⟨T, u, rfl, hT, rfl, q⟩ := y
  refine ⟨T, _, u, rfl, hT, rfl, fun c d e => ?_⟩
  cases e2 : ds[i]? with
  | none => rw [e2] at e; cases e
  | some z =>
    rw [e2] at e
    cases e
    obtain ⟨u', hu, ru⟩ := l1.get e2
    have := q vs h1
    rw [hu] at this
    cases this
    exact ⟨.int _, ru⟩
theorem zip_get (xs ys : List D) (i : Nat) (d : D) (h : (zipD xs ys)[i]? = some d) : ∃ x y, (match xs[i]?, ys[i]? with | some x, some y => some (x, y) | _, _ => none) = some (x, y) ∧ d = .tup [x, y] := by
  unfold zipD at h
  rw [List.getElem?_map] at h
  cases e : (xs.zip ys)[i]? with
  | none => rw [e] at h; cases h
  | some z =>
    rw [e] at h
    cases h
    obtain ⟨e1, e2⟩ := List.getElem?_zip_eq_some.mp e
    rw [e1, e2]
    exact ⟨_, _, rfl, rfl⟩
theorem items_zipL {a b : Addr} {vs us : List V} (h : H a = some (.lst vs)) (n : ¬ w.av a) (l : RepL g w H ds vs) (h' : H b = some (.lst us)) (n' : ¬ w.av b) (l' : RepL g w H es us) : Items g w H (zipD ds es) (Itz g.K a b) := by
  refine items_pair (n := min ds.length es.length) (by simp [zipD]) (fun i d h => zip_get ds es i d h) fun w1 S1 H1 st le => ?_
  have h1 : SqL g.K H1 a vs := .inl (.inl (le.keep _ _ h n))
  have h2 : SqL g.K H1 b us := .inl (.inl (le.keep _ _ h' n'))
  have l1 := RepL.le le l
  have l2 := RepL.le le l'
  refine ⟨fun i hi => ?_, ⟨vs, us, h1, h2, by have := l.length; have := l'.length; omega⟩⟩
  obtain ⟨v, hv, _⟩ := l.get (List.getElem?_eq_getElem (show i < ds.length by omega))
  obtain ⟨v', hv', _⟩ := l'.get (List.getElem?_eq_getElem (show i < es.length by omega))
  refine ⟨⟨vs, us, v, v', h1, h2, hv, hv'⟩, fun x H2 y => ?_⟩
  obtain ⟨T, u, u', rfl, hT, rfl, q, q'⟩ := y
  refine ⟨T, _, _, rfl, hT, rfl, fun c d e => ?_⟩
  split at e
  · rename_i c' d' e1 e2
    cases e
    obtain ⟨z, hz, rz⟩ := l1.get e1
    obtain ⟨z', hz', rz'⟩ := l2.get e2
    have t1 := q vs h1
    have t2 := q' us h2
    rw [hz] at t1
    rw [hz'] at t2
    cases t1
    cases t2
    exact ⟨rz, rz'⟩
  · cases e
theorem items_zipT {a b : Addr} {vs us : List V} (h : SqT' g w H a vs) (l : RepL g w H ds vs) (h' : SqT' g w H b us) (l' : RepL g w H es us) : Items g w H (zipD ds es) (RZ.ItzT g.K a b) := by
  refine items_pair (n := min ds.length es.length) (by simp [zipD]) (fun i d h => zip_get ds es i d h) fun w1 S1 H1 st le => ?_
  have h1 : SqT g.K H1 a vs := (h.le le).sq
  have h2 : SqT g.K H1 b us := (h'.le le).sq
  have l1 := RepL.le le l
  have l2 := RepL.le le l'
  refine ⟨fun i hi => ?_, ⟨vs, us, h1, h2, by have := l.length; have := l'.length; omega⟩⟩
  obtain ⟨v, hv, _⟩ := l.get (List.getElem?_eq_getElem (show i < ds.length by omega))
  obtain ⟨v', hv', _⟩ := l'.get (List.getElem?_eq_getElem (show i < es.length by omega))
  refine ⟨⟨vs, us, v, v', h1, h2, hv, hv'⟩, fun x H2 y => ?_⟩
  obtain ⟨T, u, u', rfl, hT, rfl, q, q'⟩ := y
  refine ⟨T, _, _, rfl, hT, rfl, fun c d e => ?_⟩
  split at e
  · rename_i c' d' e1 e2
    cases e
    obtain ⟨z, hz, rz⟩ := l1.get e1
    obtain ⟨z', hz', rz'⟩ := l2.get e2
    have t1 := q vs h1
    have t2 := q' us h2
    rw [hz] at t1
    rw [hz'] at t2
    cases t1
    cases t2
    exact ⟨rz, rz'⟩
  · cases e
theorem i_zip {elts : List Expr} {kk : Nat} {tpos : Pos} (hK : g.K = X.K) (hg : Gl X "zip") (hm : X.mg "zip" = none) (ha : PE X a (tE g W ea)) (hb : PE X b (tE g W eb)) (hs : starEach [a, b] X.env = (false, eval a X.env) :: starEach [b] X.env := by rfl) (hs2 : starEach [b] X.env = (false, eval b X.env) :: starEach [] X.env := by rfl)
    (hpl : (backTo pos (starEach [b] X.env)).any (·.1) = false := by rfl) : PI X (.Tuple elts kk tpos) (.Call (.Name "zip" p) [a, b] [] pos) (tI g W (itZ ea eb)) :=
  (RZ.pi_zipA hg hm (pa_cons ha (pa_cons hb pa_nil hs2) hs) hs hpl).imp fun σ H Q ⟨w, Γ, S, st, en, h⟩ => tX_seq st en h fun u H1 x S1 w1 s1 st1 en1 r1 h1 => tX_seq st1 en1 h1 fun v H2 y S2 w2 s2 st2 en2 r2 h2 => by
    have r1' := r1.step s2
    split at h2
    · cases r1' with
      | lst q1 q2 q3 =>
        cases r2 with
        | lst q4 q5 q6 =>
          rw [← hK]
          exact ⟨_, _, _, _, rfl, .inl ⟨.inl (.inl q1), .inl (.inl q4), RQ.okQ h2 st2 (items_zipL q1 q2 q3 q4 q5 q6)⟩⟩
    · cases r1' with
      | tup q1 q3 =>
        cases r2 with
        | tup q4 q6 =>
          rw [← hK]
          exact ⟨_, _, _, _, rfl, .inr ⟨q1.sq, q4.sq, RQ.okQ h2 st2 (items_zipT q1 q3 q4 q6)⟩⟩
    · exact h2.elim
end
end Pd

namespace Pd
open PySem L2

/-! ### hidden objects, objects that change -/
section
variable {g : Gx} {w w' : Wd} {H H' : Hp} {S : Store} {p : Addr} {o : HO}
theorem le_sub {m m' : List (Option Addr)} {h h' : List Addr} (s : ∀ a, (⟨m', h'⟩ : Wd).av a → (⟨m, h⟩ : Wd).av a) : Le ⟨m, h⟩ H ⟨m', h'⟩ H := ⟨fun a z => .inl (s a z), fun _ _ e _ => e, fun _ e => e, fun _ _ => rfl⟩
theorem le_unhide {m : List (Option Addr)} {h : List Addr} : Le ⟨m, p :: h⟩ H ⟨m, h⟩ H := le_sub fun a z => z.elim .inl fun z => .inr (List.mem_cons_of_mem _ z)
theorem StOk.unhide {m : List (Option Addr)} {h : List Addr} (st : StOk g ⟨m, p :: h⟩ S H) : StOk g ⟨m, h⟩ S H :=
  ⟨st.len, fun k c e => let ⟨a, h1, h2⟩ := st.cell k c e; ⟨a, h1, h2.le le_unhide fun _ q => q⟩, st.live, st.inj, fun a z => st.hid a (List.mem_cons_of_mem _ z)⟩
/-- a new object, hidden -/
theorem le_newH (st : StOk g w S H) (hp : H p = none) : Le w H ⟨w.m, p :: w.hid⟩ (upd H p o) := by
  have l := le_new (o := o) st hp
  refine ⟨fun a z => ?_, l.keep, l.trk, l.hk⟩
  rcases z with z | z
  · exact .inl (.inl z)
  · rcases List.mem_cons.mp z with q | q
    · exact .inr (by rw [q]; exact hp)
    · exact .inl (.inr q)
theorem StOk.newH (st : StOk g w S H) (hp : H p = none) : StOk g ⟨w.m, p :: w.hid⟩ S (upd H p o) := by
  have l := le_newH (o := o) st hp
  refine ⟨st.len, fun k c e => ?_, st.live, st.inj, fun a z => ?_⟩
  · obtain ⟨a, h1, h2⟩ := st.cell k c e
    exact ⟨a, h1, h2.le l fun vs q => by rw [upd_ne (ne_of_none q hp)]; exact q⟩
  · rcases List.mem_cons.mp z with q | q
    · subst q
      refine ⟨fun y => st.nav hp (.inl y), ?_⟩
      rw [upd_same]
      exact fun y => by cases y
    · exact ⟨(st.hid a q).1, l.trk a (st.hid a q).2⟩
mutual
theorem Rep.mut (n : w.av p) : ∀ {d : D} {v : V}, Rep g w H d v → Rep g w (upd H p o) d v
  | _, _, .non => .non
  | _, _, .bl b => .bl b
  | _, _, .int i => .int i
  | _, _, .str x => .str x
  | _, _, .tup h r => .tup (by
      rcases h with ⟨h, k⟩ | h
      · refine .inl ⟨?_, k⟩
        have e : ∀ a, ¬ w.av a → upd H p o a = H a := fun a z => upd_ne fun q => z (by rw [q]; exact n)
        unfold Rd
        rw [e _ k]
        exact h
      · exact .inr h) (RepL.mut n r)
  | _, _, .lst h k r => .lst (by rw [upd_ne fun q => k (by rw [q]; exact n)]; exact h) k (RepL.mut n r)
  | _, _, .obj c h e k k2 r => .obj c (by rw [upd_ne fun q => k (by rw [q]; exact n)]; exact h) (by rw [upd_ne fun q => k2 (by rw [q]; exact n)]; exact e) k k2 (RepL.mut n r)
  | _, _, .scr h => .scr (by
      rcases h with ⟨h, k⟩ | h
      · refine .inl ⟨?_, k⟩
        have e : ∀ a, ¬ w.av a → upd H p o a = H a := fun a z => upd_ne fun q => z (by rw [q]; exact n)
        unfold Rd
        rw [e _ k]
        exact h
      · exact .inr h)
  | _, _, .val v => .val v
theorem RepL.mut (n : w.av p) : ∀ {d : List D} {v : List V}, RepL g w H d v → RepL g w (upd H p o) d v
  | _, _, .nil => .nil
  | _, _, .cons h r => .cons (Rep.mut n h) (RepL.mut n r)
end
theorem RepV.mut (n : w.av p) {x : Val} {v : V} (h : RepV g w H x v) : RepV g w (upd H p o) x v := by
  cases x with
  | d x => exact Rep.mut n h
  | cell k => exact h
/-- the hidden object p changes -/
theorem StOk.mutH (st : StOk g w S H) (hp : p ∈ w.hid) : StOk g w S (upd H p o) := by
  refine ⟨st.len, fun k c e => ?_, st.live, st.inj, fun a z => ⟨(st.hid a z).1, ?_⟩⟩
  · obtain ⟨a, h1, h2⟩ := st.cell k c e
    refine ⟨a, h1, ?_⟩
    have ne : a ≠ p := fun q => (st.hid p hp).1 (List.mem_of_getElem? (by rw [← q]; exact h1))
    cases c with
    | lst ds =>
      obtain ⟨vs, e1, e2⟩ := h2
      exact ⟨vs, by rw [upd_ne ne]; exact e1, RepL.mut (.inr hp) e2⟩
  · unfold upd
    split
    · exact fun y => by cases y
    · exact (st.hid a z).2
/-- the k-th object of the store changes -/
theorem StOk.mutC (st : StOk g w S H) {k : Nat} {a : Addr} {ds : List D} {vs : List V} (hk : w.m[k]? = some (some a)) (l : RepL g w H ds vs) : StOk g w (S.set k (some (.lst ds))) (upd H a (.lst vs)) := by
  have av : w.av a := .inl (List.mem_of_getElem? hk)
  obtain ⟨c0, hc0⟩ := st.live k a hk
  have hlt : k < S.length := by
    rcases Nat.lt_or_ge k S.length with q | q
    · exact q
    · rw [List.getElem?_eq_none q] at hc0
      cases hc0
  refine ⟨by rw [List.length_set]; exact st.len, fun j c e => ?_, fun j b e => ?_, st.inj, fun b z => ⟨(st.hid b z).1, ?_⟩⟩
  · by_cases hj : k = j
    · subst hj
      rw [List.getElem?_set_self hlt] at e
      cases e
      exact ⟨a, hk, vs, upd_same, RepL.mut av l⟩
    · rw [List.getElem?_set_ne hj] at e
      obtain ⟨b, h1, h2⟩ := st.cell j c e
      refine ⟨b, h1, ?_⟩
      have ne : b ≠ a := fun q => hj (st.inj k j a hk (by rw [← q]; exact h1))
      cases c with
      | lst es =>
        obtain ⟨us, e1, e2⟩ := h2
        exact ⟨us, by rw [upd_ne ne]; exact e1, RepL.mut av e2⟩
  · by_cases hj : k = j
    · subst hj
      exact ⟨_, by rw [List.getElem?_set_self hlt]⟩
    · rw [List.getElem?_set_ne hj]
      exact st.live j b e
  · unfold upd
    split
    · exact fun y => by cases y
    · exact (st.hid b z).2
theorem stp_mutC (st : StOk g w S H) {k : Nat} {a : Addr} (hk : w.m[k]? = some (some a)) : Stp w H w (upd H a o) := by
  have av : w.av a := .inl (List.mem_of_getElem? hk)
  refine ⟨⟨fun b z => .inl z, fun b u e n => ?_, fun b e => ?_, fun b z => ?_⟩, rfl, rfl, fun _ _ e => e⟩
  · rw [upd_ne fun q => n (by rw [q]; exact av)]
    exact e
  · unfold upd
    split
    · exact fun y => by cases y
    · exact e
  · exact upd_ne fun q => (st.hid b z).1 (by rw [q]; exact List.mem_of_getElem? hk)
end

/-! ### steps with one hidden object more -/
structure Stq (w : Wd) (H : Hp) (w' : Wd) (H' : Hp) : Prop where
  le : Le w H w' H'
  len : w'.m.length = w.m.length
  old : ∀ (k : Nat) (a : Addr), w'.m[k]? = some (some a) → w.m[k]? = some (some a)
section
variable {g : Gx} {w w' w1 : Wd} {H H' H1 : Hp} {S : Store} {p : Addr} {o : HO}
theorem Stp.q (s : Stp w H w' H') : Stq w H w' H' := ⟨s.le, s.len, s.old⟩
theorem RepV.stq (l : Stq w H w' H') {x : Val} {v : V} (h : RepV g w H x v) : RepV g w' H' x v := by
  cases x with
  | d x => exact Rep.le l.le h
  | cell k => exact ⟨by rw [l.len]; exact h.1, fun a e => h.2 a (l.old k a e)⟩
theorem EnvOk.stq (l : Stq w H w' H') {Γ : Env} {σ : St} (h : EnvOk g w Γ σ H) : EnvOk g w' Γ σ H' :=
  ⟨h.len, fun i x e => let ⟨v, h1, h2⟩ := h.val i x e; ⟨v, h1, h2.stq l⟩⟩
theorem Stq.stp (l : Stq w H w1 H1) (r : Stp w1 H1 w' H') (hid : ∀ a ∈ w.hid, a ∈ w1.hid) : Stq w H w' H' := ⟨l.le.trans r.le hid, r.len.trans l.len, fun k a e => l.old k a (r.old k a e)⟩
/-- the result of an expression that makes a new list -/
structure New (w : Wd) (H : Hp) (w' : Wd) (H' : Hp) (p : Addr) : Prop where
  q : Stq w H w' H'
  hid : w'.hid = p :: w.hid
  free : H p = none
def RQN (g : Gx) (W : WX) (w : Wd) (σ : St) (H : Hp) (r : R Val) (Q : VK) : Prop := match r with
  | .ok (.d (.lst ds)) S' => ∀ p vs w' H', New w H w' H' p → StOk g w' S' H' → H' p = some (.lst vs) → RepL g w' H' ds vs → Q (.ref p) H'
  | .ok _ _ => False
  | .exc c x S' => ∀ cls dx w' H', Stp w H w' H' → StOk g w' S' H' → ExcRep g w' H' c x cls dx → W cls dx σ H'
  | .bad => False
def tN (g : Gx) (W : WX) (ev : Ev) : TE := fun σ H Q => ∃ w Γ S, StOk g w S H ∧ EnvOk g w Γ σ H ∧ RQN g W w σ H (ev Γ S) Q
theorem New.stp (l : Stp w H w1 H1) (r : New w1 H1 w' H' p) : New w H w' H' p := by
  refine ⟨⟨l.le.trans r.q.le (by rw [l.hid]; exact fun _ h => h), r.q.len.trans l.len, fun k a e => l.old k a (r.q.old k a e)⟩, by rw [r.hid, l.hid], ?_⟩
  cases e : H p with
  | none => rfl
  | some o => exact absurd r.free (l.le.trk p (by rw [e]; exact fun z => by cases z))
theorem RQN.to {W : WX} {σ : St} {r : R Val} {Q : VK} (h : RQN g W w σ H r Q) (s : Stp w H w1 H1) : RQN g W w1 σ H1 r Q := by
  cases r with
  | ok x S =>
    cases x with
    | cell k => exact h
    | d x =>
      cases x with
      | lst ds => exact fun p vs w' H' n => h p vs w' H' (n.stp s)
      | _ => exact h
  | exc c x S => exact fun cls dx w' H' s' => h cls dx w' H' (s.trans s')
  | bad => exact h
theorem New.stp0 {m : List (Option Addr)} {h : List Addr} (hw : w' = ⟨m, h⟩) (n : New w H w' H' p) : Stp w H ⟨m, w.hid⟩ H' := by
  have e := n.hid
  subst hw
  have e' : h = p :: w.hid := e
  subst e'
  exact ⟨⟨fun a z => n.q.le.av a (z.elim .inl fun z => .inr (List.mem_cons_of_mem _ z)), n.q.le.keep, n.q.le.trk, n.q.le.hk⟩, rfl, n.q.len, n.q.old⟩
/-- a new list, as a value -/
theorem RQN.plain {W : WX} {σ : St} {r : R Val} {Q : VK} (h : RQ g W (RepV g) w σ H r Q) (hl : ∀ x S, r = .ok x S → ∃ ds, x = .d (.lst ds)) (hw : ∀ a ∈ w.hid, H a ≠ none) : RQN g W w σ H r Q := by
  cases r with
  | ok x S =>
    obtain ⟨ds, rfl⟩ := hl x S rfl
    intro p vs w' H' n st hp l
    obtain ⟨m, hh⟩ := w'
    have e : hh = p :: w.hid := n.hid
    subst e
    refine h (.ref p) ⟨m, w.hid⟩ H' (n.stp0 rfl) st.unhide (.lst hp (fun z => ?_) (RepL.le le_unhide l))
    rcases z with z | z
    · exact (st.hid p List.mem_cons_self).1 z
    · exact hw p z n.free
  | exc c x S => exact h
  | bad => exact h
end
theorem _root_.L2.PE.plain {X : Cx} {e : Expr} {g : Gx} {W : WX} {ev : Ev} (h : PE X e (tN g W ev)) (hl : ∀ Γ S x S', ev Γ S = .ok x S' → ∃ ds, x = .d (.lst ds)) : PE X e (tE g W ev) :=
  h.imp fun σ H Q ⟨w, Γ, S, st, en, q⟩ => ⟨w, Γ, S, st, en, RQN.plain q (hl Γ S) fun a z => (st.hid a z).2⟩
section
variable {α β : Type} {g : Gx} {W : WX} {ρ : Wd → Hp → α → β → Prop} {w : Wd} {σ : St} {H : Hp}
theorem tX_seqN {Γ : Env} {S : Store} {ea : Env → Store → R α} {k : α → Store → R Val} {Q : VK} (st : StOk g w S H) (en : EnvOk g w Γ σ H) (h : RQN g W w σ H ((ea Γ S).bind k) Q) {P : β → Hp → Prop}
    (hP : ∀ v H1 x S1 w1, Stp w H w1 H1 → StOk g w1 S1 H1 → EnvOk g w1 Γ σ H1 → ρ w1 H1 x v → RQN g W w1 σ H1 (k x S1) Q → P v H1) : tX g W ρ ea σ H P := by
  refine ⟨w, Γ, S, st, en, ?_⟩
  cases e : ea Γ S with
  | ok x S1 =>
    rw [e] at h
    exact fun v w' H' s st' r => hP v H' x S1 w' s st' (en.step s) r (RQN.to (r := k x S1) h s)
  | exc c x S1 =>
    rw [e] at h
    exact h
  | bad =>
    rw [e] at h
    exact h
theorem RQN.newQ {ds : List D} {S : Store} {p : Addr} {vs : List V} {Q : VK} (h : RQN g W w σ H (.ok (.d (.lst ds)) S) Q) (st : StOk g w S H) (hp : H p = none) (l : RepL g w H ds vs) : Q (.ref p) (upd H p (.lst vs)) :=
  h p vs ⟨w.m, p :: w.hid⟩ _ ⟨⟨le_newH st hp, rfl, fun _ _ e => e⟩, rfl, hp⟩ (st.newH hp) upd_same (RepL.le (le_newH st hp) l)
end

/-! ### targets -/
abbrev Tg := D → Env → Option Env
def tgN (i : Nat) : Tg := fun x Γ => some (Γ.set i (some (.d x)))
def tgsNil : List D → Env → Option Env := fun ds Γ => match ds with | [] => some Γ | _ => none
def tgsCons (t : Tg) (u : List D → Env → Option Env) : List D → Env → Option Env := fun ds Γ => match ds with | x :: r => (t x Γ).bind (u r) | [] => none
def tgT (u : List D → Env → Option Env) : Tg := fun x Γ => match x with | .tup ds => u ds Γ | _ => none
def tG (g : Gx) (sl : List Nat) (tg : Tg) : TG := fun v σ H Q => ∃ w Γ S x Γ', StOk g w S H ∧ EnvOk g w Γ σ H ∧ Rep g w H x v ∧ tg x Γ = some Γ' ∧
  ∀ σ', EnvOk g w Γ' σ' H → σ'.length = σ.length → (∀ i, i ∉ sl → σ'[i]? = σ[i]?) → Q σ' H
def tGs (g : Gx) (sl : List Nat) (tg : List D → Env → Option Env) : TGs := fun vs σ H Q => ∃ w Γ S ds Γ', StOk g w S H ∧ EnvOk g w Γ σ H ∧ RepL g w H ds vs ∧ tg ds Γ = some Γ' ∧
  ∀ σ', EnvOk g w Γ' σ' H → σ'.length = σ.length → (∀ i, i ∉ sl → σ'[i]? = σ[i]?) → Q σ' H
theorem _root_.L2.PGs.imp {X : Cx} {e : List Expr} {t t' : TGs} (h : PGs X e t) (i : ∀ v σ H Q, t' v σ H Q → t v σ H Q) : PGs X e t' := ⟨fun pins s σ H v u Q I r hw => h.run pins s σ H v u Q I r (i v σ H Q hw)⟩
section
variable {X : Cx} {g : Gx} {pos : Pos}
theorem g_name {i : Nat} {x : Str} (hN : X.N.Nodup) (hi : X.N[i]? = some x) (hx : Loc X.env.scope x) (hf : X.fn x = true ∨ X.env.scope.names.lookup x = some .local := by first | exact .inl rfl | exact .inr rfl | assumption) : PG X (.Name x pos) (tG g [i] (tgN i)) :=
  (pg_name hN hi hx hf).imp fun v σ H Q ⟨w, Γ, S, x, Γ', st, en, r, e, k⟩ => by
    cases e
    exact k _ (en.set i (x := .d x) r) (by simp) fun j hj => by
      rw [List.getElem?_set_ne]
      exact fun z => hj (by simp [z])
theorem gs_nil : PGs X [] (tGs g [] tgsNil) := pgs_nil.imp fun v σ H Q ⟨w, Γ, S, ds, Γ', st, en, r, e, k⟩ => by
  unfold tgsNil at e
  split at e
  · cases e
    cases r
    exact ⟨rfl, k σ en rfl fun _ _ => rfl⟩
  · cases e
theorem gs_cons {e : Expr} {es : List Expr} {s1 s2 : List Nat} {t : Tg} {u : List D → Env → Option Env} (h1 : PG X e (tG g s1 t)) (h2 : PGs X es (tGs g s2 u)) (hs : (assignEach (e :: es) X.env).map (·.2) = assign e X.env :: (assignEach es X.env).map (·.2) := by rfl) : PGs X (e :: es) (tGs g (s1 ++ s2) (tgsCons t u)) :=
  (pgs_cons h1 h2 hs).imp fun v σ H Q ⟨w, Γ, S, ds, Γ', st, en, r, e, k⟩ => by
    unfold tgsCons at e
    split at e
    · rename_i x rr
      cases r with
      | cons r1 r2 =>
        cases e1 : t x Γ with
        | none => rw [e1] at e; cases e
        | some Γ1 =>
          rw [e1] at e
          refine ⟨_, _, rfl, w, Γ, S, x, Γ1, st, en, r1, e1, fun σ1 en1 l1 k1 => ?_⟩
          refine ⟨w, Γ1, S, rr, Γ', st, en1, r2, e, fun σ2 en2 l2 k2 => ?_⟩
          refine k σ2 en2 (l2.trans l1) fun i hi => ?_
          rw [k2 i fun z => hi (List.mem_append_right _ z), k1 i fun z => hi (List.mem_append_left _ z)]
    · cases e
theorem g_tup {es : List Expr} {k : Nat} {sl : List Nat} {u : List D → Env → Option Env} {n : Nat} (hK : g.K = X.K) (hc : X.calm = true) (h : PGs X es (tGs g sl u)) (hu : ∀ ds Γ Γ', u ds Γ = some Γ' → ds.length = n)
    (hn : (assignEach es X.env).length = n := by rfl) (hst : (assignEach es X.env).findIdx? (·.1) = none := by rfl) : PG X (.Tuple es k pos) (tG g sl (tgT u)) :=
  (pg_tup hc h hn hst).imp fun v σ H Q ⟨w, Γ, S, x, Γ', st, en, r, e, k⟩ => by
    unfold tgT at e
    split at e
    · cases r with
      | tup r1 r2 =>
        refine ⟨_, _, rfl, by rw [← hK]; exact r1.sq, ?_, w, Γ, S, _, Γ', st, en, r2, e, k⟩
        rw [← r2.length]
        exact hu _ _ _ e
    · cases e
theorem tgsNil_len {ds : List D} {Γ Γ' : Env} (e : tgsNil ds Γ = some Γ') : ds.length = 0 := by
  unfold tgsNil at e
  split at e
  · rfl
  · cases e
theorem tgsCons_len {t : Tg} {u : List D → Env → Option Env} {n : Nat} (hu : ∀ ds Γ Γ', u ds Γ = some Γ' → ds.length = n) {ds : List D} {Γ Γ' : Env} (e : tgsCons t u ds Γ = some Γ') : ds.length = n + 1 := by
  unfold tgsCons at e
  split at e
  · rename_i x rr
    cases e1 : t x Γ with
    | none => rw [e1] at e; cases e
    | some Γ1 =>
      rw [e1] at e
      exact congrArg (· + 1) (hu _ _ _ e)
  · cases e
end

/-! ### comprehensions -/
def wipeE (Γ : Env) : List Nat → Env
  | [] => Γ
  | v :: vs => (wipeE Γ vs).set v none
def noX {α : Type} : R α → R α
  | .exc _ _ _ => .bad
  | r => r
def tYesD : Env → Store → R Bool := fun _ S => .ok true S
def lcY (y : Val) (k : R (List D)) : R (List D) := match y with
  | .d d => k.bind fun ds S => .ok (d :: ds) S
  | .cell _ => .bad
def lcD (tg : Tg) (test : Env → Store → R Bool) (elt : Ev) (Γ : Env) : List D → Store → R (List D)
  | [], S => .ok [] S
  | x :: r, S => match tg x Γ with
    | none => .bad
    | some Γ1 => (noX (test Γ1 S)).bind fun b S1 => if b = true then (noX (elt Γ1 S1)).bind fun y S2 => lcY y (lcD tg test elt Γ r S2) else lcD tg test elt Γ r S1
def eLc (it : Env → Store → R (List D)) (vs : List Nat) (tg : Tg) (test : Env → Store → R Bool) (elt : Ev) : Ev := fun Γ S => (it Γ S).bind fun ds S1 =>
  if ds.length ≤ cap then (noX (lcD tg test elt (wipeE Γ vs) ds S1)).bind fun es S2 => .ok (.d (.lst es)) S2 else .bad
abbrev W0 : WX := fun _ _ _ _ => False
section
variable {g : Gx} {w : Wd} {H : Hp}
theorem EnvOk.wipe {Γ : Env} {σ : St} (en : EnvOk g w Γ σ H) : ∀ vs : List Nat, EnvOk g w (wipeE Γ vs) (wipe σ vs) H
  | [] => en
  | v :: vs => (EnvOk.wipe en vs).drop1 v none
theorem wipe_get (σ : St) : ∀ (vs : List Nat) (i : Nat), (wipe σ vs)[i]? = if i ∈ vs ∧ i < σ.length then some none else σ[i]?
  | [], i => by simp [L2.wipe]
  | v :: vs, i => by
    show ((wipe σ vs).set v none)[i]? = _
    rw [List.getElem?_set, wipe_length, wipe_get σ vs i]
    by_cases h : v = i
    · subst h
      by_cases h2 : v < σ.length
      · simp [h2]
      · simp [h2]
    · have h' : ¬ i = v := fun z => h z.symm
      simp [h, h']
theorem wipe_ext {σ σ' : St} {vs : List Nat} (l : σ'.length = σ.length) (h : ∀ i, i ∉ vs → σ'[i]? = σ[i]?) : wipe σ' vs = wipe σ vs := by
  apply List.ext_getElem?
  intro i
  rw [wipe_get, wipe_get, l]
  by_cases hi : i ∈ vs
  · by_cases h2 : i < σ.length
    · simp [hi, h2]
    · rw [if_neg fun z => h2 z.2, if_neg fun z => h2 z.2, List.getElem?_eq_none (by omega), List.getElem?_eq_none (by omega)]
  · simp [hi, h i hi]
theorem wipe_wipe (σ : St) (vs : List Nat) : wipe (wipe σ vs) vs = wipe σ vs := by
  apply List.ext_getElem?
  intro i
  rw [wipe_get, wipe_get, wipe_length]
  split <;> rfl
theorem noX_ok {α : Type} {r : R α} {x : α} {S : Store} (h : noX r = .ok x S) : r = .ok x S := by
  cases r <;> first | exact h | cases h
end
/-- how far a comprehension has come -/
structure LcAt (g : Gx) (tg : Tg) (test : Env → Store → R Bool) (elt : Ev) (Γw : Env) (ds all : List D) (Sf : Store) (w1 : Wd) (H1 : Hp) (Dd : Addr) (i m : Nat) (Hc : Hp) : Prop where
  im : i + m = ds.length
  at_ : ∃ w S es rest vs, StOk g w S Hc ∧ Stq w1 H1 w Hc ∧ w.hid = Dd :: w1.hid ∧ Hc Dd = some (.lst vs) ∧ RepL g w Hc es vs ∧ es.length ≤ i ∧ lcD tg test elt Γw (ds.drop i) S = .ok rest Sf ∧ all = es ++ rest
theorem lc_q {g : Gx} {W : WX} {it : Env → Store → R (List D)} {vs sl : List Nat} {tg : Tg} {test : Env → Store → R Bool} {elt : Ev} {σ : St} {H : Hp} {Q : VK} (hsl : ∀ i ∈ sl, i ∈ vs) (h : tN g W (eLc it vs tg test elt) σ H Q) :
    tLc (tI g W it) (tG g sl tg) (tT g W0 test) (tE g W0 elt) vs σ H Q := by
  obtain ⟨w, Γ, S, st, en, h⟩ := h
  refine tX_seqN st en h fun J H1 ds S1 w1 s1 st1 en1 it1 h1 => ?_
  by_cases hz : ds.length ≤ cap
  · rw [if_pos hz] at h1
    cases hl : lcD tg test elt (wipeE Γ vs) ds S1 with
    | ok all Sf =>
      rw [hl] at h1
      intro Dd hD
      have q0 : Stq w1 H1 ⟨w1.m, Dd :: w1.hid⟩ (upd H1 Dd (.lst [])) := ⟨le_newH st1 hD, rfl, fun _ _ e => e⟩
      refine ⟨LcAt g tg test elt (wipeE Γ vs) ds all Sf w1 H1 Dd, ⟨ds.length, by simp, ⟨w1.m, Dd :: w1.hid⟩, S1, [], all, [], st1.newH hD, q0, rfl, upd_same, .nil, Nat.zero_le _, hl, rfl⟩, ?_⟩
      rintro i m Hc ⟨im, w2, S2, es, rest, us, st2, q2, hid2, hDc, l2, le2, hl2, hall⟩
      obtain ⟨go, stop⟩ := it1 w2 S2 Hc st2 q2.le
      by_cases hi : i < ds.length
      · refine .inr ⟨(go i hi).1, LcAt g tg test elt (wipeE Γ vs) ds all Sf w1 H1 Dd (i + 1) (m - 1), fun H' q => ⟨m - 1, by omega, q⟩, fun x H' y => ?_⟩
        obtain ⟨sy, sty, ry⟩ := (go i hi).2 x H' y
        have ed : ds[i]? = some ds[i] := List.getElem?_eq_getElem hi
        have rx := ry _ ed
        rw [List.drop_eq_getElem_cons hi] at hl2
        unfold lcD at hl2
        have qy := q2.stp sy (by rw [hid2]; exact fun a z => List.mem_cons_of_mem _ z)
        have enw : EnvOk g w2 (wipeE Γ vs) (wipe σ vs) H' := (en1.stq qy).wipe vs
        have memD : Dd ∈ w2.hid := by rw [hid2]; exact List.mem_cons_self
        cases et : tg ds[i] (wipeE Γ vs) with
        | none => rw [et] at hl2; cases hl2
        | some Γ1 =>
          rw [et] at hl2
          have hl2 : (noX (test Γ1 S2)).bind _ = R.ok rest Sf := hl2
          refine ⟨w2, wipeE Γ vs, S2, ds[i], Γ1, sty, enw, rx, et, fun σ2 en2 ln2 k2 => ⟨?_, ?_⟩⟩
          · rw [wipe_ext (σ := wipe σ vs) ln2 fun j hj => k2 j fun z => hj (hsl j z)]
            exact wipe_wipe σ vs
          · cases eb : noX (test Γ1 S2) with
            | exc c z S3 => rw [eb] at hl2; cases hl2
            | bad => rw [eb] at hl2; cases hl2
            | ok b S3 =>
              have hl2 : (if b = true then (noX (elt Γ1 S3)).bind (fun y S2 => lcY y (lcD tg test elt (wipeE Γ vs) (List.drop (i + 1) ds) S2)) else lcD tg test elt (wipeE Γ vs) (List.drop (i + 1) ds) S3) = R.ok rest Sf := by rw [eb] at hl2; exact hl2
              refine ⟨w2, Γ1, S2, sty, en2, ?_⟩
              rw [noX_ok eb]
              intro b' w3 H3 s3 st3 e3
              subst e3
              have hD3 : H3 Dd = some (.lst us) := by rw [s3.le.hk Dd memD, sy.le.hk Dd memD]; exact hDc
              have q3 := qy.stp s3 (by rw [hid2]; exact fun a z => List.mem_cons_of_mem _ z)
              have l3 : RepL g w3 H3 es us := RepL.le s3.le (RepL.le sy.le l2)
              have hid3 : w3.hid = Dd :: w1.hid := s3.hid.trans hid2
              cases b with
              | false =>
                exact ⟨by omega, w3, S3, es, rest, us, st3, q3, hid3, hD3, l3, by omega, hl2, hall⟩
              | true =>
                have hl2 : (noX (elt Γ1 S3)).bind (fun y S2 => lcY y (lcD tg test elt (wipeE Γ vs) (List.drop (i + 1) ds) S2)) = R.ok rest Sf := hl2
                cases ey : noX (elt Γ1 S3) with
                | exc c z S4 => rw [ey] at hl2; cases hl2
                | bad => rw [ey] at hl2; cases hl2
                | ok y S4 =>
                  rw [ey] at hl2
                  refine ⟨w3, Γ1, S3, st3, en2.step s3, ?_⟩
                  rw [noX_ok ey]
                  intro v w4 H4 s4 st4 r4
                  have memD3 : Dd ∈ w3.hid := by rw [hid3]; exact List.mem_cons_self
                  have hD4 : H4 Dd = some (.lst us) := by rw [s4.le.hk Dd memD3]; exact hD3
                  have q4 := q3.stp s4 (by rw [hid3]; exact fun a z => List.mem_cons_of_mem _ z)
                  have l4 : RepL g w4 H4 es us := RepL.le s4.le l3
                  have hid4 : w4.hid = Dd :: w1.hid := s4.hid.trans hid3
                  have memD4 : Dd ∈ w4.hid := by rw [hid4]; exact List.mem_cons_self
                  cases y with
                  | cell k => cases hl2
                  | d d =>
                    have hl2 : (lcD tg test elt (wipeE Γ vs) (ds.drop (i + 1)) S4).bind (fun ds S => .ok (d :: ds) S) = R.ok rest Sf := hl2
                    cases el : lcD tg test elt (wipeE Γ vs) (ds.drop (i + 1)) S4 with
                    | exc c z S5 => rw [el] at hl2; cases hl2
                    | bad => rw [el] at hl2; cases hl2
                    | ok rest' S5 =>
                      rw [el] at hl2
                      cases hl2
                      refine ⟨us, hD4, ?_, by omega, w4, S4, es ++ [d], rest', us ++ [v], st4.mutH memD4, ?_, hid4, upd_same, RepL.mut (.inr memD4) (l4.append (.cons r4 .nil)), ?_, el, ?_⟩
                      · have := l4.length
                        have hc := cap_le hz
                        omega
                      · refine ⟨⟨q4.le.av, fun a o e n => ?_, fun a e => ?_, fun a z => ?_⟩, q4.len, q4.old⟩
                        · rw [upd_ne (ne_of_none e hD)]
                          exact q4.le.keep a o e n
                        · unfold upd
                          split
                          · exact fun z => by cases z
                          · exact q4.le.trk a e
                        · rw [upd_ne fun q => (st1.hid a z).2 (by rw [q]; exact hD)]
                          exact q4.le.hk a z
                      · rw [List.length_append, List.length_singleton]
                        omega
                      · rw [hall]
                        simp
      · have ei : i = ds.length := by omega
        subst ei
        refine .inl ⟨stop, ?_⟩
        rw [List.drop_of_length_le (Nat.le_refl _)] at hl2
        cases hl2
        rw [List.append_nil] at hall
        subst hall
        exact h1 Dd us w2 Hc ⟨q2, hid2, hD⟩ st2 hDc l2
    | exc c z S2 =>
      rw [hl] at h1
      exact h1.elim
    | bad =>
      rw [hl] at h1
      exact h1.elim
  · rw [if_neg hz] at h1
    exact h1.elim
end Pd

namespace Pd
open PySem L2

/-! ### comprehensions, lists: as new lists and as values -/
section
variable {X : Cx} {g : Gx} {W : WX} {a b c : Expr} {ea eb ec : Ev} {pos : Pos} {es : List Expr} {er : Env → Store → R (List Val)}
theorem ts_nil : PTs X [] (tT g W tYesD) := pts_nil' where
  pts_nil' : PTs X [] (tT g W tYesD) := ⟨fun pins s σ H Q I ⟨w, Γ, S, st, en, h⟩ => pts_nil.run pins s σ H Q I (RQ.okQ h st rfl)⟩
theorem ts_one (h : PT X c (tT g W (eTest ec))) : PTs X [c] (tT g W (eTest ec)) := pts_one h
theorem p_lcN {elt tg iter : Expr} {ifs : List Expr} {scope : Scope} {own : List (Str × Nat)} {it : Env → Store → R (List D)} {sl : List Nat} {tgd : Tg} {test : Env → Store → R Bool} {el : Ev} (hc : X.calm = true) (hN : X.N.Nodup) (hi : PI X tg iter (tI g W it)) (ok : BlkOk X.N X.env.scope scope own)
    (hg : ∀ (s : Shared) (H : Hp) (C : Addr) (cl : List (Str × Addr)) (fp : List Addr), PG (X.blk s H scope (compEnvC scope cl C X.env) fp) tg (tG g sl tgd)) (ht : ∀ (s : Shared) (H : Hp) (C : Addr) (cl : List (Str × Addr)) (fp : List Addr), PTs (X.blk s H scope (compEnvC scope cl C X.env) fp) ifs (tT g W0 test))
    (he : ∀ (s : Shared) (H : Hp) (C : Addr) (cl : List (Str × Addr)) (fp : List Addr), PE (X.blk s H scope (compEnvC scope cl C X.env) fp) elt (tE g W0 el)) (hsl : ∀ i ∈ sl, i ∈ own.map (·.2)) (hs : ∀ x, foldedSetIterable iter X.env x = pure x := by intro _; rfl) :
    PE X (.ListComp elt [⟨tg, iter, ifs, 0⟩] scope pos) (tN g W (eLc it (own.map (·.2)) tgd test el)) := (pe_lc hc hN hi ok hg ht he hs).imp fun σ H Q h => lc_q hsl h
theorem eLc_lst {it : Env → Store → R (List D)} {vs : List Nat} {tg : Tg} {test : Env → Store → R Bool} {elt : Ev} (Γ : Env) (S : Store) (x : Val) (S' : Store) (h : eLc it vs tg test elt Γ S = .ok x S') : ∃ ds, x = .d (.lst ds) := by
  unfold eLc at h
  cases e : it Γ S with
  | exc c z S1 => rw [e] at h; cases h
  | bad => rw [e] at h; cases h
  | ok ds S1 =>
    rw [e] at h
    have h : (if ds.length ≤ cap then (noX (lcD tg test elt (wipeE Γ vs) ds S1)).bind fun es S2 => R.ok (Val.d (.lst es)) S2 else .bad) = .ok x S' := h
    split at h
    · cases e2 : noX (lcD tg test elt (wipeE Γ vs) ds S1) with
      | exc c z S1 => rw [e2] at h; cases h
      | bad => rw [e2] at h; cases h
      | ok es S2 =>
        rw [e2] at h
        cases h
        exact ⟨es, rfl⟩
    · cases h
theorem p_lc {elt tg iter : Expr} {ifs : List Expr} {scope : Scope} {own : List (Str × Nat)} {it : Env → Store → R (List D)} {sl : List Nat} {tgd : Tg} {test : Env → Store → R Bool} {el : Ev} (hc : X.calm = true) (hN : X.N.Nodup) (hi : PI X tg iter (tI g W it)) (ok : BlkOk X.N X.env.scope scope own)
    (hg : ∀ (s : Shared) (H : Hp) (C : Addr) (cl : List (Str × Addr)) (fp : List Addr), PG (X.blk s H scope (compEnvC scope cl C X.env) fp) tg (tG g sl tgd)) (ht : ∀ (s : Shared) (H : Hp) (C : Addr) (cl : List (Str × Addr)) (fp : List Addr), PTs (X.blk s H scope (compEnvC scope cl C X.env) fp) ifs (tT g W0 test))
    (he : ∀ (s : Shared) (H : Hp) (C : Addr) (cl : List (Str × Addr)) (fp : List Addr), PE (X.blk s H scope (compEnvC scope cl C X.env) fp) elt (tE g W0 el)) (hsl : ∀ i ∈ sl, i ∈ own.map (·.2)) (hs : ∀ x, foldedSetIterable iter X.env x = pure x := by intro _; rfl) :
    PE X (.ListComp elt [⟨tg, iter, ifs, 0⟩] scope pos) (tE g W (eLc it (own.map (·.2)) tgd test el)) := (p_lcN hc hN hi ok hg ht he hsl hs).plain eLc_lst
theorem p_lstN (h : PA X es (tA g W er)) : PE X (.List es pos) (tN g W (eCall fLst er)) :=
  (pe_lst h).imp fun σ H Q ⟨w, Γ, S, st, en, h⟩ => tX_seqN st en h fun us H1 xs S1 w1 s1 st1 en1 r1 h1 => by
    unfold fLst at h1
    cases e : clo xs with
    | none => rw [e] at h1; exact h1.elim
    | some ds =>
      rw [e] at h1
      have rl := clo_rep r1 e
      by_cases hz : ds.length ≤ cap
      · simp only [if_pos hz] at h1
        exact ⟨by rw [← rl.length]; exact cap_le hz, fun p hp => RQN.newQ h1 st1 hp rl⟩
      · simp only [if_neg hz] at h1
        exact h1.elim
def fAddL : Val → Val → Store → R Val
  | .d (.lst a), .d (.lst b), S => if a.length + b.length ≤ cap then .ok (.d (.lst (a ++ b))) S else .bad
  | _, _, _ => .bad
def fMulL : Val → Val → Store → R Val
  | .d (.lst a), .d (.int j), S => if j ≤ cap ∧ -cap ≤ j ∧ a.length * j.toNat ≤ cap then .ok (.d (.lst (List.replicate j.toNat a).flatten)) S else .bad
  | _, _, _ => .bad
theorem p_addN (ha : PE X a (tE g W ea)) (hb : PE X b (tE g W eb)) : PE X (.BinOp a .Add b pos) (tN g W (eBin fAddL ea eb)) :=
  (pe_op op_cat ha hb).imp fun σ H Q ⟨w, Γ, S, st, en, h⟩ => tX_seqN st en h fun u H1 x S1 w1 s1 st1 en1 r1 h1 => tX_seqN st1 en1 h1 fun v H2 y S2 w2 s2 st2 en2 r2 h2 => by
    have r1' := r1.step s2
    unfold fAddL at h2
    split at h2
    · split at h2
      · rename_i hz
        cases r1' with
        | lst e1 n1 l1 =>
          cases r2 with
          | lst e2 n2 l2 => exact ⟨_, _, _, _, rfl, rfl, e1, e2, by rw [← l1.length, ← l2.length]; exact cap_le hz, fun p hp => RQN.newQ h2 st2 hp (l1.append l2)⟩
      · exact h2.elim
    · exact h2.elim
theorem p_mulN (ha : PE X a (tE g W ea)) (hb : PE X b (tE g W eb)) : PE X (.BinOp a .Mult b pos) (tN g W (eBin fMulL ea eb)) :=
  (pe_op op_rep ha hb).imp fun σ H Q ⟨w, Γ, S, st, en, h⟩ => tX_seqN st en h fun u H1 x S1 w1 s1 st1 en1 r1 h1 => tX_seqN st1 en1 h1 fun v H2 y S2 w2 s2 st2 en2 r2 h2 => by
    have r1' := r1.step s2
    unfold fMulL at h2
    split at h2
    · split at h2
      · rename_i hz
        cases r1' with
        | lst e1 n1 l1 =>
          cases r2
          have hc : ((cap : Nat) : Int) = 1000000 := rfl
          exact ⟨_, _, _, rfl, rfl, e1, by omega, by omega, by rw [← l1.length]; exact cap_le hz.2.2, fun p hp => RQN.newQ h2 st2 hp l1.flatten⟩
      · exact h2.elim
    · exact h2.elim
theorem p_ifN (hc : PT X c (tT g W (eTest ec))) (ha : PE X a (tN g W ea)) (hb : PE X b (tN g W eb)) : PE X (.IfExp c a b pos) (tN g W (eIf ec ea eb)) :=
  (pe_ifExp hc ha hb).imp fun σ H Q ⟨w, Γ, S, st, en, h⟩ => by
    refine tX_seqN st en h fun u H1 x S1 w1 s1 st1 en1 r1 h1 => ?_
    cases r1
    cases u with
    | true => exact ⟨w1, Γ, S1, st1, en1, h1⟩
    | false => exact ⟨w1, Γ, S1, st1, en1, h1⟩
theorem p_listN {p : Pos} (hK : g.K = X.K) (hg : Gl X "list") (hm : X.mg "list" = none) (ha : PE X a (tE g W ea)) (he : starEach [a] X.env = (false, eval a X.env) :: starEach [] X.env := by rfl) (hpl : (backTo pos (starEach [] X.env)).any (·.1) = false := by rfl) :
    PE X (.Call (.Name "list" p) [a] [] pos) (tN g W (eUn fList ea)) :=
  (pe_callTy call_list_of hg hm (by decide +kernel) (pa_cons ha pa_nil he) (by decide) (by decide) he hpl).imp fun σ H Q ⟨w, Γ, S, st, en, h⟩ => tX_seqN st en h fun u H1 y S1 w1 s1 st1 en1 r1 q => by
    rw [← hK]
    unfold fList at q
    split at q
    · rename_i ds e
      obtain ⟨a, vs, rfl, h1, l⟩ := rd_lst st1 r1 e
      exact ⟨a, vs, rfl, .inl (.inl (.inl h1)), fun p hp => RQN.newQ q st1 hp l⟩
    · rename_i ds e
      obtain ⟨a, vs, rfl, h1, l⟩ := rd_tup r1 e
      exact ⟨a, vs, rfl, .inr h1.sq, fun p hp => RQN.newQ q st1 hp l⟩
    · exact q.elim
end

/-! ### statements -/
structure Fr (w0 : Wd) (H0 : Hp) (w : Wd) (H : Hp) (h : List Addr) : Prop where
  le : Le w0 H0 w H
  hid : w.hid = h
  len : w0.m.length ≤ w.m.length
  old : ∀ (k : Nat) (a : Addr), k < w0.m.length → w.m[k]? = some (some a) → w0.m[k]? = some (some a)
  new : ∀ (k : Nat) (a : Addr), w0.m.length ≤ k → w.m[k]? = some (some a) → H0 a = none
/-- the frame of a def: what stands at its entry; N: it hands back a new list -/
structure Cf where
  g : Gx
  W : WX
  w0 : Wd
  H0 : Hp
  N : Bool
abbrev Cf.fr (cf : Cf) (w : Wd) (H : Hp) : Prop := Fr cf.w0 cf.H0 w H cf.w0.hid
def RtP (cf : Cf) (w : Wd) (H : Hp) (x : Val) (S' : Store) (Q : VK) : Prop := ∀ v w' H', Le w H w' H' → cf.fr w' H' → StOk cf.g w' S' H' → RepV cf.g w' H' x v → Q v H'
def RtN (cf : Cf) (w : Wd) (H : Hp) (x : Val) (S' : Store) (Q : VK) : Prop := match x with
  | .d (.lst ds) => ∀ p vs w' H', Le w H w' H' → Fr cf.w0 cf.H0 w' H' (p :: cf.w0.hid) → cf.H0 p = none → StOk cf.g w' S' H' → H' p = some (.lst vs) → RepL cf.g w' H' ds vs → Q (.ref p) H'
  | _ => False
def FQ (cf : Cf) (w : Wd) (H : Hp) (f : F) (D : Ends) : Prop := match f with
  | .nx Γ' S' => ∀ σ' w' H', Le w H w' H' → cf.fr w' H' → StOk cf.g w' S' H' → EnvOk cf.g w' Γ' σ' H' → D.nx σ' H'
  | .rt x S' => if cf.N = true then RtN cf w H x S' D.rt else RtP cf w H x S' D.rt
  | .bk Γ' S' => ∀ σ' w' H', Le w H w' H' → cf.fr w' H' → StOk cf.g w' S' H' → EnvOk cf.g w' Γ' σ' H' → D.bk σ' H'
  | .ct Γ' S' => ∀ σ' w' H', Le w H w' H' → cf.fr w' H' → StOk cf.g w' S' H' → EnvOk cf.g w' Γ' σ' H' → D.ct σ' H'
  | .exc c x Γ' S' => ∀ σ' cls dx w' H', Le w H w' H' → cf.fr w' H' → StOk cf.g w' S' H' → EnvOk cf.g w' Γ' σ' H' → ExcRep cf.g w' H' c x cls dx → cf.W cls dx σ' H'
  | .bad => False
def tS (cf : Cf) (st : Sv) : TS := fun D σ H => ∃ w Γ S, StOk cf.g w S H ∧ EnvOk cf.g w Γ σ H ∧ cf.fr w H ∧ FQ cf w H (st Γ S) D
def R.fl {α : Type} (Γ : Env) : R α → (α → Store → F) → F
  | .ok a S, k => k a S
  | .exc c x S, _ => .exc c x Γ S
  | .bad, _ => .bad
section
variable {cf : Cf} {w w1 : Wd} {H H1 : Hp} {σ : St}
theorem Fr.stp (f : cf.fr w H) (s : Stp w H w1 H1) : cf.fr w1 H1 :=
  ⟨f.le.trans s.le (by rw [f.hid]; exact fun _ h => h), s.hid.trans f.hid, by rw [s.len]; exact f.len, fun k a h e => f.old k a h (s.old k a e), fun k a h e => f.new k a h (s.old k a e)⟩
theorem FQ.to {f : F} {D : Ends} (h : FQ cf w H f D) (s : Le w H w1 H1) (hh : ∀ a ∈ w.hid, a ∈ w1.hid) : FQ cf w1 H1 f D := by
  cases f with
  | nx Γ S => exact fun σ' w' H' l => h σ' w' H' (s.trans l hh)
  | bk Γ S => exact fun σ' w' H' l => h σ' w' H' (s.trans l hh)
  | ct Γ S => exact fun σ' w' H' l => h σ' w' H' (s.trans l hh)
  | exc c x Γ S => exact fun σ' cls dx w' H' l => h σ' cls dx w' H' (s.trans l hh)
  | bad => exact h
  | rt x S =>
    have h : (if cf.N = true then RtN cf w H x S D.rt else RtP cf w H x S D.rt) := h
    show (if cf.N = true then RtN cf w1 H1 x S D.rt else RtP cf w1 H1 x S D.rt)
    by_cases hn : cf.N = true
    · rw [if_pos hn] at h ⊢
      cases x with
      | cell k => exact h
      | d x =>
        cases x with
        | lst ds => exact fun p vs w' H' l => h p vs w' H' (s.trans l hh)
        | _ => exact h
    · rw [if_neg hn] at h ⊢
      exact fun v w' H' l => h v w' H' (s.trans l hh)
theorem tX_fl {α β : Type} {ρ : Wd → Hp → α → β → Prop} {Γ : Env} {S : Store} {ea : Env → Store → R α} {k : α → Store → F} {D : Ends} (st : StOk cf.g w S H) (en : EnvOk cf.g w Γ σ H) (fr : cf.fr w H) (h : FQ cf w H ((ea Γ S).fl Γ k) D) {P : β → Hp → Prop}
    (hP : ∀ v H1 x S1 w1, Stp w H w1 H1 → StOk cf.g w1 S1 H1 → EnvOk cf.g w1 Γ σ H1 → cf.fr w1 H1 → ρ w1 H1 x v → FQ cf w1 H1 (k x S1) D → P v H1) : tX cf.g cf.W ρ ea σ H P := by
  refine ⟨w, Γ, S, st, en, ?_⟩
  cases e : ea Γ S with
  | ok x S1 =>
    rw [e] at h
    exact fun v w' H' s st' r => hP v H' x S1 w' s st' (en.step s) (fr.stp s) r (FQ.to (f := k x S1) h s.le (by rw [s.hid]; exact fun _ z => z))
  | exc c x S1 =>
    rw [e] at h
    exact fun cls dx w' H' s st' r => h σ cls dx w' H' s.le (fr.stp s) st' (en.step s) r
  | bad =>
    rw [e] at h
    exact h
theorem FQ.nxQ {Γ : Env} {S : Store} {D : Ends} (h : FQ cf w H (.nx Γ S) D) (st : StOk cf.g w S H) (en : EnvOk cf.g w Γ σ H) (fr : cf.fr w H) : D.nx σ H := h σ w H (.refl w H) fr st en
end
def sNil : Sv := fun Γ S => .nx Γ S
def sSeq (a b : Sv) : Sv := fun Γ S => match a Γ S with
  | .nx Γ1 S1 => b Γ1 S1
  | f => f
def sEx (a : Ev) : Sv := fun Γ S => (a Γ S).fl Γ fun _ S1 => .nx Γ S1
def sRet (a : Ev) : Sv := fun Γ S => (a Γ S).fl Γ fun x S1 => .rt x S1
def sRetN : Sv := fun _ S => .rt (.d .non) S
def sAsg (i : Nat) (a : Ev) : Sv := fun Γ S => (a Γ S).fl Γ fun x S1 => .nx (Γ.set i (some x)) S1
/-- name = a new list, from here on an object of the store -/
def sNew (i : Nat) (a : Ev) : Sv := fun Γ S => (a Γ S).fl Γ fun x S1 => match x with | .d (.lst ds) => .nx (Γ.set i (some (.cell S1.length))) (S1 ++ [some (.lst ds)]) | _ => .bad
def sIf (t : Ev) (a b : Sv) : Sv := fun Γ S => (eTest t Γ S).fl Γ fun x S1 => if x = true then a Γ S1 else b Γ S1
def sAsgT (tg : Tg) (a : Ev) : Sv := fun Γ S => (a Γ S).fl Γ fun x S1 => match x with | .d d => (match tg d Γ with | some Γ' => .nx Γ' S1 | none => .bad) | _ => .bad
/-- a, b = x, y -/
def sPar (i j : Nat) (a b : Ev) : Sv := fun Γ S => (a Γ S).fl Γ fun x S1 => (b Γ S1).fl Γ fun y S2 => .nx ((Γ.set i (some x)).set j (some y)) S2
def keepB (k : Nat) : Option Val → Option Val
  | some (.cell j) => if j < k then some (.cell j) else none
  | o => o
/-- the object of a name becomes a value (no statement of the text) -/
def sFrz (n0 i : Nat) : Sv := fun Γ S => match Γ[i]? with
  | some (some (.cell k)) => match S[k]? with
    | some (some (.lst ds)) => if n0 ≤ k then (if k + 1 = S.length then .nx ((Γ.set i (some (.d (.lst ds)))).map (keepB k)) (S.take k) else .nx (Γ.set i (some (.d (.lst ds)))) (S.set k none)) else .bad
    | _ => .bad
  | _ => .bad
/-- return name, its object being of this call -/
def sRetC (n0 i : Nat) : Sv := fun Γ S => match Γ[i]? with
  | some (some (.cell k)) => match S[k]? with
    | some (some (.lst ds)) => if n0 ≤ k then .rt (.d (.lst ds)) (S.set k none) else .bad
    | _ => .bad
  | _ => .bad
def sNever : Sv := fun _ _ => .bad
def sBrk : Sv := fun Γ S => .bk Γ S
def sCont : Sv := fun Γ S => .ct Γ S
def F.lp (f : F) (k : Sv) : F := match f with
  | .nx Γ S => k Γ S
  | .ct Γ S => k Γ S
  | .bk Γ S => .nx Γ S
  | f => f
def forD (tg : Tg) (body : Sv) : List D → Sv
  | [], Γ, S => .nx Γ S
  | x :: r, Γ, S => match tg x Γ with
    | none => .bad
    | some Γ1 => (body Γ1 S).lp (forD tg body r)
def sFor (it : Env → Store → R (List D)) (tg : Tg) (body : Sv) : Sv := fun Γ S => (it Γ S).fl Γ fun ds S1 => forD tg body ds Γ S1
def whD (t : Ev) (body : Sv) : Nat → Sv
  | 0, _, _ => .bad
  | n + 1, Γ, S => (eTest t Γ S).fl Γ fun x S1 => if x = true then (body Γ S1).lp (whD t body n) else .nx Γ S1

section
variable {X : Cx} {cf : Cf} {a b c : Expr} {ea eb ec : Ev} {pos p2 : Pos} {st : Stmt} {rest : List Stmt} {sa sb : Sv}
theorem ss_nil : PSs X [] (tS cf sNil) := pss_nil.imp fun D σ H ⟨w, Γ, S, st, en, fr, h⟩ => FQ.nxQ h st en fr
theorem ss_cons (h1 : PS X st (tS cf sa)) (h2 : PSs X rest (tS cf sb)) : PSs X (st :: rest) (tS cf (sSeq sa sb)) :=
  (pss_cons h1 h2).imp fun D σ H ⟨w, Γ, S, st, en, fr, h⟩ => by
    refine ⟨w, Γ, S, st, en, fr, ?_⟩
    unfold sSeq at h
    cases e : sa Γ S with
    | nx Γ1 S1 =>
      rw [e] at h
      exact fun σ' w' H' l f s en' => ⟨w', Γ1, S1, s, en', f, FQ.to h l (by rw [f.hid, fr.hid]; exact fun _ z => z)⟩
    | bk Γ1 S1 => rw [e] at h; exact h
    | ct Γ1 S1 => rw [e] at h; exact h
    | rt x S1 => rw [e] at h; exact h
    | exc c x Γ1 S1 => rw [e] at h; exact h
    | bad => rw [e] at h; exact h
theorem ss_one (h1 : PS X st (tS cf sa)) : PSs X [st] (tS cf sa) := pss_one h1
theorem s_pass : PS X (.Pass pos) (tS cf sNil) := ps_pass.imp fun D σ H ⟨w, Γ, S, st, en, fr, h⟩ => FQ.nxQ h st en fr
theorem s_never : PS X st (tS cf sNever) := ps_never.imp fun D σ H ⟨w, Γ, S, st, en, fr, h⟩ => h.elim
theorem ss_never : PSs X rest (tS cf sNever) := pss_never.imp fun D σ H ⟨w, Γ, S, st, en, fr, h⟩ => h.elim
theorem s_brk : PS X (.Break pos) (tS cf sBrk) := ps_break.imp fun D σ H ⟨w, Γ, S, st, en, fr, h⟩ => h σ w H (.refl w H) fr st en
theorem s_cont : PS X (.Continue pos) (tS cf sCont) := ps_continue.imp fun D σ H ⟨w, Γ, S, st, en, fr, h⟩ => h σ w H (.refl w H) fr st en
theorem s_ex (ha : PE X a (tE cf.g cf.W ea)) (hs : swapsWith a none pos.line X.env = pure false := by rfl) : PS X (.Expr a pos) (tS cf (sEx ea)) :=
  (ps_expr ha hs).imp fun D σ H ⟨w, Γ, S, st, en, fr, h⟩ => tX_fl st en fr h fun u H1 x S1 w1 s1 st1 en1 fr1 r1 h1 => FQ.nxQ h1 st1 en1 fr1
theorem s_ret (hN : cf.N = false) (ha : PE X a (tE cf.g cf.W ea)) : PS X (.Return (some a) pos) (tS cf (sRet ea)) :=
  (ps_ret ha).imp fun D σ H ⟨w, Γ, S, st, en, fr, h⟩ => tX_fl st en fr h fun u H1 x S1 w1 s1 st1 en1 fr1 r1 h1 => by
    have h1 : (if cf.N = true then RtN cf w1 H1 x S1 D.rt else RtP cf w1 H1 x S1 D.rt) := h1
    rw [if_neg (by rw [hN]; exact Bool.false_ne_true)] at h1
    exact h1 u w1 H1 (.refl w1 H1) fr1 st1 r1
theorem s_retN (hN : cf.N = false) : PS X (.Return none pos) (tS cf sRetN) := ps_retN.imp fun D σ H ⟨w, Γ, S, st, en, fr, h⟩ => by
  have h : (if cf.N = true then RtN cf w H (.d .non) S D.rt else RtP cf w H (.d .non) S D.rt) := h
  rw [if_neg (by rw [hN]; exact Bool.false_ne_true)] at h
  exact h .non w H (.refl w H) fr st .non
theorem s_asg {i : Nat} {x : Str} {pos' : Pos} (hN : X.N.Nodup) (hi : X.N[i]? = some x) (hx : Loc X.env.scope x) (ha : PE X a (tE cf.g cf.W ea)) (hs : swapsWith a (some (.Name x pos')) pos.line X.env = pure false := by rfl) (hf : X.fn x = true ∨ X.env.scope.names.lookup x = some .local := by first | exact .inl rfl | exact .inr rfl | assumption) :
    PS X (.Assign [.Name x pos'] a pos) (tS cf (sAsg i ea)) :=
  (ps_set hN hi hx ha hs hf).imp fun D σ H ⟨w, Γ, S, st, en, fr, h⟩ => tX_fl st en fr h fun u H1 x S1 w1 s1 st1 en1 fr1 r1 h1 => FQ.nxQ h1 st1 (en1.set i r1) fr1
theorem s_if (hc : PT X c (tT cf.g cf.W (eTest ec))) {A B : List Stmt} (ha : PSs X A (tS cf sa)) (hb : PSs X B (tS cf sb)) : PS X (.If c A B pos) (tS cf (sIf ec sa sb)) :=
  (ps_if hc ha hb).imp fun D σ H ⟨w, Γ, S, st, en, fr, h⟩ => tX_fl st en fr h fun u H1 x S1 w1 s1 st1 en1 fr1 r1 h1 => by
    cases r1
    cases u with
    | true => exact ⟨w1, Γ, S1, st1, en1, fr1, h1⟩
    | false => exact ⟨w1, Γ, S1, st1, en1, fr1, h1⟩
theorem s_asgT {tg : Expr} {sl : List Nat} {t : Tg} (ha : PE X a (tE cf.g cf.W ea)) (ht : PG X tg (tG cf.g sl t)) (hs : swapsWithSole [tg] a pos.line X.env = pure false := by rfl) (hw : swappedStores [tg] a X.env = pure none := by rfl)
    (h1 : (assignEach [tg] X.env).map (·.2) = [assign tg X.env] := by rfl) : PS X (.Assign [tg] a pos) (tS cf (sAsgT t ea)) :=
  (ps_asg ha ht hs hw h1).imp fun D σ H ⟨w, Γ, S, st, en, fr, h⟩ => tX_fl st en fr h fun u H1 x S1 w1 s1 st1 en1 fr1 r1 h1 => by
    cases x with
    | cell k => exact h1.elim
    | d d =>
      have h1 : FQ cf w1 H1 (match t d Γ with | some Γ' => .nx Γ' S1 | none => .bad) D := h1
      cases e : t d Γ with
      | none => rw [e] at h1; exact h1.elim
      | some Γ' =>
        rw [e] at h1
        exact ⟨w1, Γ, S1, d, Γ', st1, en1, r1, e, fun σ' en' _ _ => FQ.nxQ h1 st1 en' fr1⟩
/-- a loop over what is walked -/
theorem s_for {tg iter : Expr} {it : Env → Store → R (List D)} {sl : List Nat} {t : Tg} {body : List Stmt} (hp : PassesOwn (model X.prog X.w) X.A X.env X.xe) (hcalm : X.calm = true) (hi : PI X tg iter (tI cf.g cf.W it)) (hg : PG X tg (tG cf.g sl t)) (hb : PSs X body (tS cf sa))
    (mk : ∀ {wi : TI} {g : TG} {tb : TS}, PI X tg iter wi → PG X tg g → PSs X body tb → PS X (.For tg iter body [] pos) (tFor wi g tb)) : PS X (.For tg iter body [] pos) (tS cf (sFor it t sa)) :=
  (mk hi hg hb).imp fun D σ H ⟨w, Γ, S, st, en, fr, h⟩ => tX_fl st en fr h fun J H1 ds S1 w1 s1 st1 en1 fr1 it1 h1 => by
    refine ⟨fun i m σ' Hc => i + m = ds.length ∧ ∃ w2 Γ2 S2, StOk cf.g w2 S2 Hc ∧ EnvOk cf.g w2 Γ2 σ' Hc ∧ cf.fr w2 Hc ∧ Le w1 H1 w2 Hc ∧ FQ cf w2 Hc (forD t sa (ds.drop i) Γ2 S2) D, ⟨ds.length, by simp, w1, Γ, S1, st1, en1, fr1, .refl _ _, h1⟩, ?_⟩
    rintro i m σ' Hc ⟨im, w2, Γ2, S2, st2, en2, fr2, le2, h2⟩
    obtain ⟨go, stop⟩ := it1 w2 S2 Hc st2 le2
    by_cases hlt : i < ds.length
    · refine .inr ⟨(go i hlt).1, fun σ' Hc => (i + 1) + (m - 1) = ds.length ∧ ∃ w2 Γ2 S2, StOk cf.g w2 S2 Hc ∧ EnvOk cf.g w2 Γ2 σ' Hc ∧ cf.fr w2 Hc ∧ Le w1 H1 w2 Hc ∧ FQ cf w2 Hc (forD t sa (ds.drop (i + 1)) Γ2 S2) D, fun σ' H' q => ⟨m - 1, by omega, q⟩, fun x H' y => ?_⟩
      obtain ⟨sy, sty, ry⟩ := (go i hlt).2 x H' y
      have ed : ds[i]? = some ds[i] := List.getElem?_eq_getElem hlt
      have h2' := FQ.to h2 sy.le fun _ z => z
      rw [List.drop_eq_getElem_cons hlt] at h2'
      have h2' : FQ cf w2 H' (match t ds[i] Γ2 with | none => .bad | some Γ1 => (sa Γ1 S2).lp (forD t sa (ds.drop (i + 1)))) D := h2'
      cases et : t ds[i] Γ2 with
      | none => rw [et] at h2'; exact h2'.elim
      | some Γ3 =>
        rw [et] at h2'
        have h2' : FQ cf w2 H' ((sa Γ3 S2).lp (forD t sa (ds.drop (i + 1)))) D := h2'
        have fry := fr2.stp sy
        refine ⟨w2, Γ2, S2, ds[i], Γ3, sty, en2.step sy, ry _ ed, et, fun σ3 en3 _ _ => ⟨w2, Γ3, S2, sty, en3, fry, ?_⟩⟩
        have lw : Le w1 H1 w2 H' := le2.trans sy.le (by rw [fr2.hid, fr1.hid]; exact fun _ z => z)
        have nxt : ∀ Γ4 S4, FQ cf w2 H' (forD t sa (ds.drop (i + 1)) Γ4 S4) D → ∀ σ4 w4 H4, Le w2 H' w4 H4 → cf.fr w4 H4 → StOk cf.g w4 S4 H4 → EnvOk cf.g w4 Γ4 σ4 H4 → (i + 1) + (m - 1) = ds.length ∧ ∃ w2 Γ2 S2, StOk cf.g w2 S2 H4 ∧ EnvOk cf.g w2 Γ2 σ4 H4 ∧ cf.fr w2 H4 ∧ Le w1 H1 w2 H4 ∧ FQ cf w2 H4 (forD t sa (ds.drop (i + 1)) Γ2 S2) D :=
          fun Γ4 S4 q σ4 w4 H4 l f s e => ⟨by omega, w4, Γ4, S4, s, e, f, lw.trans l (by rw [fr2.hid, fr1.hid]; exact fun _ z => z), FQ.to q l (by rw [f.hid, fr2.hid]; exact fun _ z => z)⟩
        cases e : sa Γ3 S2 with
        | nx Γ4 S4 => rw [e] at h2'; exact nxt Γ4 S4 h2'
        | ct Γ4 S4 => rw [e] at h2'; exact nxt Γ4 S4 h2'
        | bk Γ4 S4 => rw [e] at h2'; exact h2'
        | rt x S4 => rw [e] at h2'; exact h2'
        | exc c x Γ4 S4 => rw [e] at h2'; exact h2'
        | bad => rw [e] at h2'; exact h2'
    · have ei : i = ds.length := by omega
      subst ei
      rw [List.drop_of_length_le (Nat.le_refl _)] at h2
      exact .inl ⟨stop, FQ.nxQ h2 st2 en2 fr2⟩
theorem s_while {body : List Stmt} (n : Nat) (hp : PassesOwn (model X.prog X.w) X.A X.env X.xe) (hc : PT X c (tT cf.g cf.W (eTest ec))) (hb : PSs X body (tS cf sa)) : PS X (.While c body [] pos) (tS cf (whD ec sa n)) :=
  (ps_while hp hc hb).imp fun D σ H ⟨w, Γ, S, st, en, fr, h⟩ => by
    refine ⟨fun m σ' Hc => ∃ w2 Γ2 S2, StOk cf.g w2 S2 Hc ∧ EnvOk cf.g w2 Γ2 σ' Hc ∧ cf.fr w2 Hc ∧ FQ cf w2 Hc (whD ec sa m Γ2 S2) D, ⟨n, w, Γ, S, st, en, fr, h⟩, ?_⟩
    rintro m σ' Hc ⟨w2, Γ2, S2, st2, en2, fr2, h2⟩
    cases m with
    | zero => exact h2.elim
    | succ m =>
      refine tX_fl st2 en2 fr2 h2 fun u H1 x S1 w1 s1 st1 en1 fr1 r1 h1 => ?_
      cases r1
      cases u with
      | false => exact FQ.nxQ h1 st1 en1 fr1
      | true =>
        have h1 : FQ cf w1 H1 ((sa Γ2 S1).lp (whD ec sa m)) D := h1
        rw [if_pos rfl]
        refine ⟨fun σ' Hc => ∃ w2 Γ2 S2, StOk cf.g w2 S2 Hc ∧ EnvOk cf.g w2 Γ2 σ' Hc ∧ cf.fr w2 Hc ∧ FQ cf w2 Hc (whD ec sa m Γ2 S2) D, fun σ' H' q => ⟨m, Nat.lt_succ_self m, q⟩, w1, Γ2, S1, st1, en1, fr1, ?_⟩
        have nxt : ∀ Γ4 S4, FQ cf w1 H1 (whD ec sa m Γ4 S4) D → ∀ σ4 w4 H4, Le w1 H1 w4 H4 → cf.fr w4 H4 → StOk cf.g w4 S4 H4 → EnvOk cf.g w4 Γ4 σ4 H4 → ∃ w2 Γ2 S2, StOk cf.g w2 S2 H4 ∧ EnvOk cf.g w2 Γ2 σ4 H4 ∧ cf.fr w2 H4 ∧ FQ cf w2 H4 (whD ec sa m Γ2 S2) D :=
          fun Γ4 S4 q σ4 w4 H4 l f s e => ⟨w4, Γ4, S4, s, e, f, FQ.to q l (by rw [f.hid, fr1.hid]; exact fun _ z => z)⟩
        cases e : sa Γ2 S1 with
        | nx Γ4 S4 => rw [e] at h1; exact nxt Γ4 S4 h1
        | ct Γ4 S4 => rw [e] at h1; exact nxt Γ4 S4 h1
        | bk Γ4 S4 => rw [e] at h1; exact h1
        | rt x S4 => rw [e] at h1; exact h1
        | exc c x Γ4 S4 => rw [e] at h1; exact h1
        | bad => rw [e] at h1; exact h1
end
end Pd

namespace Pd
open PySem L2

/-! ### lists of the store -/
section
variable {g : Gx} {w w' : Wd} {H H' : Hp} {S : Store} {p : Addr} {m : List (Option Addr)} {h : List Addr}
/-- a hidden new list becomes an object of the store -/
theorem av_adopt {a : Addr} : (⟨m ++ [some p], h⟩ : Wd).av a ↔ (⟨m, p :: h⟩ : Wd).av a := by
  unfold Wd.av
  simp only [List.mem_append, List.mem_cons, List.not_mem_nil, or_false, Option.some.injEq]
  constructor
  · rintro ((q | q) | q)
    · exact .inl q
    · exact .inr (.inl q)
    · exact .inr (.inr q)
  · rintro (q | (q | q))
    · exact .inl (.inl q)
    · exact .inl (.inr q)
    · exact .inr q
theorem le_adopt : Le ⟨m, p :: h⟩ H ⟨m ++ [some p], h⟩ H := ⟨fun a z => .inl (av_adopt.mp z), fun _ _ e _ => e, fun _ e => e, fun _ _ => rfl⟩
theorem StOk.adopt {ds : List D} {vs : List V} (st : StOk g ⟨m, p :: h⟩ S H) (np : p ∉ h) (hp : H p = some (.lst vs)) (l : RepL g ⟨m, p :: h⟩ H ds vs) : StOk g ⟨m ++ [some p], h⟩ (S ++ [some (.lst ds)]) H := by
  have hl : m.length = S.length := st.len
  have pm : some p ∉ m := (st.hid p List.mem_cons_self).1
  have get : ∀ (k : Nat) (a : Addr), (m ++ [some p])[k]? = some (some a) → (k < m.length ∧ m[k]? = some (some a)) ∨ (k = m.length ∧ a = p) := fun k a e => by
    by_cases hk : k < m.length
    · rw [List.getElem?_append_left hk] at e
      exact .inl ⟨hk, e⟩
    · rw [List.getElem?_append_right (by omega)] at e
      cases e2 : k - m.length with
      | zero =>
        rw [e2] at e
        simp at e
        exact .inr ⟨by omega, e.symm⟩
      | succ j =>
        rw [e2] at e
        simp at e
  refine ⟨by simp [hl], fun k c e => ?_, fun k a e => ?_, fun j k a e1 e2 => ?_, fun a z => ⟨fun y => ?_, (st.hid a (List.mem_cons_of_mem _ z)).2⟩⟩
  · by_cases hk : k < S.length
    · rw [List.getElem?_append_left hk] at e
      obtain ⟨a, h1, h2⟩ := st.cell k c e
      exact ⟨a, by rw [List.getElem?_append_left (by omega)]; exact h1, h2.le le_adopt fun _ q => q⟩
    · rw [List.getElem?_append_right (by omega)] at e
      cases e2 : k - S.length with
      | zero =>
        rw [e2] at e
        have e : some (some (Cell.lst ds)) = some (some c) := e
        cases e
        refine ⟨p, ?_, vs, hp, RepL.le le_adopt l⟩
        rw [List.getElem?_append_right (by omega), hl, e2] <;> rfl
      | succ j =>
        rw [e2] at e
        simp at e
  · rcases get k a e with ⟨hk, e⟩ | ⟨hk, e⟩
    · obtain ⟨c, hc⟩ := st.live k a e
      exact ⟨c, by rw [List.getElem?_append_left (by omega)]; exact hc⟩
    · refine ⟨.lst ds, ?_⟩
      rw [List.getElem?_append_right (by omega), hk, hl, Nat.sub_self] <;> rfl
  · rcases get j a e1 with ⟨hj, f1⟩ | ⟨hj, f1⟩
    · rcases get k a e2 with ⟨hk, f2⟩ | ⟨hk, f2⟩
      · exact st.inj j k a f1 f2
      · rw [f2] at f1
        exact absurd (List.mem_of_getElem? f1) pm
    · rcases get k a e2 with ⟨hk, f2⟩ | ⟨hk, f2⟩
      · rw [f1] at f2
        exact absurd (List.mem_of_getElem? f2) pm
      · omega
  · rcases List.mem_append.mp y with y | y
    · exact (st.hid a (List.mem_cons_of_mem _ z)).1 y
    · have q : a = p := by simpa using y
      exact np (by rw [← q]; exact z)
/-- the k-th object goes: from here on nothing is known of it -/
theorem le_gone {k : Nat} : Le ⟨m, h⟩ H ⟨m.set k none, h⟩ H := le_sub fun a z => z.elim (fun z => by
  rcases List.mem_or_eq_of_mem_set z with z | z
  · exact .inl z
  · cases z) .inr
theorem StOk.gone {k : Nat} (st : StOk g ⟨m, h⟩ S H) : StOk g ⟨m.set k none, h⟩ (S.set k none) H := by
  have hl : m.length = S.length := st.len
  have get : ∀ (j : Nat) (a : Addr), (m.set k none)[j]? = some (some a) → j ≠ k ∧ m[j]? = some (some a) := fun j a e => by
    by_cases hj : k = j
    · subst hj
      rw [List.getElem?_set] at e
      simp at e
    · rw [List.getElem?_set_ne hj] at e
      exact ⟨fun q => hj q.symm, e⟩
  refine ⟨by simp [hl], fun j c e => ?_, fun j a e => ?_, fun j i a e1 e2 => st.inj j i a (get j a e1).2 (get i a e2).2, fun a z => ⟨fun y => ?_, (st.hid a z).2⟩⟩
  · have hj : k ≠ j := fun q => by
      subst q
      rw [List.getElem?_set] at e
      simp at e
    rw [List.getElem?_set_ne hj] at e
    obtain ⟨a, h1, h2⟩ := st.cell j c e
    exact ⟨a, by show (m.set k none)[j]? = _; rw [List.getElem?_set_ne hj]; exact h1, h2.le le_gone fun _ q => q⟩
  · obtain ⟨hj, e⟩ := get j a e
    obtain ⟨c, hc⟩ := st.live j a e
    exact ⟨c, by rw [List.getElem?_set_ne (Ne.symm hj)]; exact hc⟩
  · rcases List.mem_or_eq_of_mem_set y with y | y
    · exact (st.hid a z).1 y
    · cases y
theorem le_take {k : Nat} : Le ⟨m, h⟩ H ⟨m.take k, h⟩ H := le_sub fun a z => z.elim (fun z => .inl (List.mem_of_mem_take z)) .inr
theorem StOk.take {k : Nat} (st : StOk g ⟨m, h⟩ S H) : StOk g ⟨m.take k, h⟩ (S.take k) H := by
  have hl : m.length = S.length := st.len
  have get : ∀ {α : Type} (l : List α) (j : Nat) (a : α), (l.take k)[j]? = some a → j < k ∧ l[j]? = some a := fun l j a e => by
    rw [List.getElem?_take] at e
    split at e
    · exact ⟨by assumption, e⟩
    · cases e
  refine ⟨by simp [hl], fun j c e => ?_, fun j a e => ?_, fun j i a e1 e2 => st.inj j i a (get m j _ e1).2 (get m i _ e2).2, fun a z => ⟨fun y => (st.hid a z).1 (List.mem_of_mem_take y), (st.hid a z).2⟩⟩
  · obtain ⟨hj, e⟩ := get S j _ e
    obtain ⟨a, h1, h2⟩ := st.cell j c e
    exact ⟨a, by show (m.take k)[j]? = _; rw [List.getElem?_take, if_pos hj]; exact h1, h2.le le_take fun _ q => q⟩
  · obtain ⟨hj, e⟩ := get m j _ e
    obtain ⟨c, hc⟩ := st.live j a e
    exact ⟨c, by rw [List.getElem?_take, if_pos hj]; exact hc⟩
/-- a list of the store, gone from it, is a value -/
theorem rep_gone {k : Nat} {a : Addr} {ds : List D} (st : StOk g ⟨m, h⟩ S H) (hS : S[k]? = some (some (.lst ds))) (hk : m[k]? = some (some a)) {m' : List (Option Addr)} (sub : ∀ b, some b ∈ m' → some b ∈ m) (no : some a ∉ m') : Rep g ⟨m', h⟩ H (.lst ds) (.ref a) := by
  obtain ⟨b, h1, vs, h2, h3⟩ := st.cell k _ hS
  have e : some (some a) = some (some b) := by rw [← hk]; exact h1
  cases e
  refine .lst h2 (fun z => ?_) (RepL.le (le_sub fun b z => z.elim (fun z => .inl (sub b z)) .inr) h3)
  rcases z with z | z
  · exact no z
  · exact (st.hid a z).1 (List.mem_of_getElem? hk)
theorem no_set {k : Nat} {a : Addr} (st : StOk g ⟨m, h⟩ S H) (hk : m[k]? = some (some a)) : some a ∉ m.set k none := fun z => by
  obtain ⟨j, hj⟩ := List.getElem?_of_mem z
  by_cases e : k = j
  · subst e
    rw [List.getElem?_set] at hj
    simp at hj
  · rw [List.getElem?_set_ne e] at hj
    exact e (st.inj k j a hk hj)
theorem no_take {k : Nat} {a : Addr} (st : StOk g ⟨m, h⟩ S H) (hk : m[k]? = some (some a)) : some a ∉ m.take k := fun z => by
  obtain ⟨j, hj⟩ := List.getElem?_of_mem z
  rw [List.getElem?_take] at hj
  split at hj
  · have := st.inj k j a hk hj
    omega
  · cases hj
end

section
variable {X : Cx} {cf : Cf} {a b c : Expr} {ea eb ec : Ev} {pos p2 : Pos} {st : Stmt} {rest : List Stmt} {sa sb : Sv}
/-- name = a new list, by the store's rule and what the expression asks -/
theorem s_newOf {i : Nat} {te : TE} (hps : PS X st (tAsg te (gName i))) (him : ∀ σ H Q, tN cf.g cf.W ea σ H Q → te σ H Q) : PS X st (tS cf (sNew i ea)) :=
  hps.imp fun D σ H ⟨w, Γ, S, so, en, fr, h⟩ => by
    refine him σ H _ ⟨w, Γ, S, so, en, ?_⟩
    unfold sNew at h
    cases e : ea Γ S with
    | bad => rw [e] at h; exact h
    | exc c x S1 =>
      rw [e] at h
      exact fun cls dx w' H' s st' r => h σ cls dx w' H' s.le (fr.stp s) st' (en.step s) r
    | ok x S1 =>
      rw [e] at h
      cases x with
      | cell k => exact h.elim
      | d x =>
        cases x with
        | lst ds =>
          intro p vs w' H' n st' hp l
          obtain ⟨m', h'⟩ := w'
          have eh : h' = p :: w.hid := n.hid
          subst eh
          have np : p ∉ w.hid := fun z => (so.hid p z).2 n.free
          have ln : m'.length = w.m.length := n.q.len
          have lS : m'.length = S1.length := st'.len
          have ad : Le w H ⟨m' ++ [some p], w.hid⟩ H' := n.q.le.trans le_adopt fun a z => List.mem_cons_of_mem _ z
          have h0p : cf.H0 p = none := by
            cases q : cf.H0 p with
            | none => rfl
            | some o => exact absurd n.free (fr.le.trk p (by rw [q]; exact fun z => by cases z))
          refine h (σ.set i (some (.ref p))) ⟨m' ++ [some p], w.hid⟩ H' ad ⟨fr.le.trans ad (by rw [fr.hid]; exact fun _ z => z), fr.hid, ?_, fun k a hk e => ?_, fun k a hk e => ?_⟩ (st'.adopt np hp l) ?_
          · have := fr.len
            show _ ≤ (m' ++ [some p]).length
            rw [List.length_append]
            omega
          · have hk2 := fr.len
            have e : (m' ++ [some p])[k]? = some (some a) := e
            rw [List.getElem?_append_left (by omega)] at e
            exact fr.old k a hk (n.q.old k a e)
          · have e : (m' ++ [some p])[k]? = some (some a) := e
            by_cases hk3 : k < m'.length
            · rw [List.getElem?_append_left hk3] at e
              exact fr.new k a hk (n.q.old k a e)
            · rw [List.getElem?_append_right (by omega)] at e
              cases e2 : k - m'.length with
              | zero =>
                rw [e2] at e
                have e : some (some p) = some (some a) := e
                cases e
                exact h0p
              | succ j =>
                rw [e2] at e
                simp at e
          · have en' : EnvOk cf.g ⟨m' ++ [some p], w.hid⟩ Γ σ H' := ⟨en.len, fun j y e => by
              obtain ⟨v, h1, h2⟩ := en.val j y e
              refine ⟨v, h1, ?_⟩
              cases y with
              | d y => exact Rep.le ad h2
              | cell k =>
                have hk : k < w.m.length := h2.1
                refine ⟨by show k < (m' ++ [some p]).length; rw [List.length_append]; omega, fun a e => h2.2 a ?_⟩
                have e : (m' ++ [some p])[k]? = some (some a) := e
                rw [List.getElem?_append_left (by omega)] at e
                exact n.q.old k a e⟩
            refine en'.set i (x := .cell S1.length) ⟨?_, fun a e => ?_⟩
            · show _ < (m' ++ [some p]).length
              rw [List.length_append, lS]
              exact Nat.lt_succ_self _
            · have e : (m' ++ [some p])[S1.length]? = some (some a) := e
              rw [List.getElem?_append_right (by omega), lS, Nat.sub_self] at e
              have e : some (some p) = some (some a) := e
              cases e
              rfl
        | _ => exact h.elim
theorem s_new {i : Nat} {x : Str} {pos' : Pos} (hN : X.N.Nodup) (hi : X.N[i]? = some x) (hx : Loc X.env.scope x) (ha : PE X a (tN cf.g cf.W ea)) (hs : swapsWith a (some (.Name x pos')) pos.line X.env = pure false := by rfl) (hf : X.fn x = true ∨ X.env.scope.names.lookup x = some .local := by first | exact .inl rfl | exact .inr rfl | assumption) :
    PS X (.Assign [.Name x pos'] a pos) (tS cf (sNew i ea)) := s_newOf (ps_set hN hi hx ha hs hf) fun _ _ _ h => h
/-- name = a value, by the rule and what the expression asks -/
theorem s_asgOf {i : Nat} {te : TE} (hps : PS X st (tAsg te (gName i))) (him : ∀ σ H Q, tE cf.g cf.W ea σ H Q → te σ H Q) : PS X st (tS cf (sAsg i ea)) :=
  hps.imp fun D σ H ⟨w, Γ, S, so, en, fr, h⟩ => him σ H _ (tX_fl so en fr h fun u H1 x S1 w1 s1 st1 en1 fr1 r1 h1 => FQ.nxQ h1 st1 (en1.set i r1) fr1)
theorem lc_plain {it : Env → Store → R (List D)} {vs : List Nat} {tg : Tg} {test : Env → Store → R Bool} {elt : Ev} {g : Gx} {W : WX} {σ : L2.St} {H : Hp} {Q : VK} (h : tE g W (eLc it vs tg test elt) σ H Q) : tN g W (eLc it vs tg test elt) σ H Q := by
  obtain ⟨w, Γ, S, so, en, q⟩ := h
  exact ⟨w, Γ, S, so, en, RQN.plain q (eLc_lst Γ S) fun a z => (so.hid a z).2⟩
/-- name = [..], the name a local of the def -/
theorem s_asgLc {i : Nat} {y : Str} {py spos : Pos} {elt tg iter : Expr} {ifs : List Expr} {scope : Scope} {own : List (Str × Nat)} {it : Env → Store → R (List D)} {sl : List Nat} {tgd : Tg} {test : Env → Store → R Bool} {el : Ev} (hc : X.calm = true) (hN : X.N.Nodup) (hy : X.N[i]? = some y) (hyl : X.env.scope.names.lookup y = some .local)
    (hsw : swapsWith (.ListComp elt [⟨tg, iter, ifs, 0⟩] scope pos) (some (.Name y py)) spos.line X.env = pure true) (hi : PI X tg iter (tI cf.g cf.W it)) (ok : BlkOk X.N X.env.scope scope own)
    (hg : ∀ (s : Shared) (H : Hp) (C : Addr) (cl : List (Str × Addr)) (fp : List Addr), PG (X.blk s H scope (compEnvC scope cl C X.env) fp) tg (tG cf.g sl tgd)) (ht : ∀ (s : Shared) (H : Hp) (C : Addr) (cl : List (Str × Addr)) (fp : List Addr), PTs (X.blk s H scope (compEnvC scope cl C X.env) fp) ifs (tT cf.g W0 test))
    (he : ∀ (s : Shared) (H : Hp) (C : Addr) (cl : List (Str × Addr)) (fp : List Addr), PE (X.blk s H scope (compEnvC scope cl C X.env) fp) elt (tE cf.g W0 el)) (hsl : ∀ i ∈ sl, i ∈ own.map (·.2)) (hs : ∀ x, foldedSetIterable iter X.env x = pure x := by intro _; rfl) :
    PS X (.Assign [.Name y py] (.ListComp elt [⟨tg, iter, ifs, 0⟩] scope pos) spos) (tS cf (sAsg i (eLc it (own.map (·.2)) tgd test el))) :=
  s_asgOf (ps_setLc hc hN hy hyl hsw hi ok hg ht he hs) fun σ H Q h => lc_q hsl (lc_plain h)
theorem s_newLc {i : Nat} {y : Str} {py spos : Pos} {elt tg iter : Expr} {ifs : List Expr} {scope : Scope} {own : List (Str × Nat)} {it : Env → Store → R (List D)} {sl : List Nat} {tgd : Tg} {test : Env → Store → R Bool} {el : Ev} (hc : X.calm = true) (hN : X.N.Nodup) (hy : X.N[i]? = some y) (hyl : X.env.scope.names.lookup y = some .local)
    (hsw : swapsWith (.ListComp elt [⟨tg, iter, ifs, 0⟩] scope pos) (some (.Name y py)) spos.line X.env = pure true) (hi : PI X tg iter (tI cf.g cf.W it)) (ok : BlkOk X.N X.env.scope scope own)
    (hg : ∀ (s : Shared) (H : Hp) (C : Addr) (cl : List (Str × Addr)) (fp : List Addr), PG (X.blk s H scope (compEnvC scope cl C X.env) fp) tg (tG cf.g sl tgd)) (ht : ∀ (s : Shared) (H : Hp) (C : Addr) (cl : List (Str × Addr)) (fp : List Addr), PTs (X.blk s H scope (compEnvC scope cl C X.env) fp) ifs (tT cf.g W0 test))
    (he : ∀ (s : Shared) (H : Hp) (C : Addr) (cl : List (Str × Addr)) (fp : List Addr), PE (X.blk s H scope (compEnvC scope cl C X.env) fp) elt (tE cf.g W0 el)) (hsl : ∀ i ∈ sl, i ∈ own.map (·.2)) (hs : ∀ x, foldedSetIterable iter X.env x = pure x := by intro _; rfl) :
    PS X (.Assign [.Name y py] (.ListComp elt [⟨tg, iter, ifs, 0⟩] scope pos) spos) (tS cf (sNew i (eLc it (own.map (·.2)) tgd test el))) :=
  s_newOf (ps_setLc hc hN hy hyl hsw hi ok hg ht he hs) fun σ H Q h => lc_q hsl h
/-- the object of a name becomes a value: ahead of any row -/
theorem ss_frz {i n0 : Nat} (hn : cf.w0.m.length = n0) (h1 : PSs X rest (tS cf sb)) : PSs X rest (tS cf (sSeq (sFrz n0 i) sb)) :=
  h1.imp fun D σ H ⟨w, Γ, S, so, en, fr, h⟩ => by
    subst hn
    unfold sSeq sFrz at h
    cases e1 : Γ[i]? with
    | none => rw [e1] at h; exact h.elim
    | some o =>
      cases o with
      | none => rw [e1] at h; exact h.elim
      | some x =>
        cases x with
        | d x => rw [e1] at h; exact h.elim
        | cell k =>
          cases e2 : S[k]? with
          | none => rw [e1] at h; simp only [e2] at h; exact h.elim
          | some o =>
            cases o with
            | none => rw [e1] at h; simp only [e2] at h; exact h.elim
            | some cl =>
              cases cl with
              | lst ds =>
                rw [e1] at h
                simp only [e2] at h
                obtain ⟨m, hd⟩ := w
                obtain ⟨av, hav, vs, hH, hl⟩ := so.cell k _ e2
                obtain ⟨v, hv, rv⟩ := en.val i _ e1
                have ev := rv.2 av hav
                subst ev
                have hlt : k < S.length := by
                  rcases Nat.lt_or_ge k S.length with q | q
                  · exact q
                  · rw [List.getElem?_eq_none q] at e2
                    cases e2
                by_cases h0 : cf.w0.m.length ≤ k
                · simp only [if_pos h0] at h
                  by_cases hlast : k + 1 = S.length
                  · simp only [if_pos hlast] at h
                    have le : Le ⟨m, hd⟩ H ⟨m.take k, hd⟩ H := le_take
                    have ml : m.length = S.length := so.len
                    refine ⟨⟨m.take k, hd⟩, _, _, so.take, ?_, ⟨fr.le.trans le (by rw [fr.hid]; exact fun _ z => z), fr.hid, ?_, fun j a hj e => ?_, fun j a hj e => ?_⟩, FQ.to h le fun _ z => z⟩
                    · have en' : EnvOk cf.g ⟨m.take k, hd⟩ ((Γ.set i none).map (keepB k)) σ H := ⟨by simp [en.len], fun j y e => by
                        rw [List.getElem?_map] at e
                        cases q : (Γ.set i none)[j]? with
                        | none => rw [q] at e; cases e
                        | some o =>
                          rw [q] at e
                          have q2 : ∀ z, o = some z → Γ[j]? = some (some z) := fun z hz => by
                            rw [hz] at q
                            rw [List.getElem?_set] at q
                            split at q
                            · split at q <;> cases q
                            · exact q
                          cases o with
                          | none => cases e
                          | some z =>
                            cases z with
                            | d z =>
                              cases e
                              obtain ⟨u, h1, h2⟩ := en.val j _ (q2 _ rfl)
                              exact ⟨u, h1, Rep.le le h2⟩
                            | cell l =>
                              have e : (some (if l < k then some (Val.cell l) else none)) = some (some y) := e
                              by_cases hlk : l < k
                              · rw [if_pos hlk] at e
                                cases e
                                obtain ⟨u, h1, h2⟩ := en.val j _ (q2 _ rfl)
                                refine ⟨u, h1, ?_, fun a ea => h2.2 a ?_⟩
                                · show l < (m.take k).length
                                  rw [List.length_take]
                                  omega
                                · have ea : (m.take k)[l]? = some (some a) := ea
                                  rw [List.getElem?_take, if_pos hlk] at ea
                                  exact ea
                              · rw [if_neg hlk] at e
                                cases e⟩
                      have e3 := en'.set i (x := .d (.lst ds)) (v := .ref av) (rep_gone so e2 hav (fun b z => List.mem_of_mem_take z) (no_take so hav))
                      have e4 : ((Γ.set i none).map (keepB k)).set i (some (.d (.lst ds))) = (Γ.set i (some (.d (.lst ds)))).map (keepB k) := by
                        apply List.ext_getElem?
                        intro j
                        simp only [List.getElem?_set, List.getElem?_map, List.length_map, List.length_set]
                        by_cases hj : i = j
                        · subst hj
                          by_cases hi : i < Γ.length
                          · simp [hi, keepB]
                          · simp [hi]
                        · simp [hj]
                      rw [e4] at e3
                      have e5 : σ.set i (some (V.ref av)) = σ := by
                        apply List.ext_getElem?
                        intro j
                        by_cases hj : i = j
                        · subst hj
                          rw [List.getElem?_set]
                          have : i < σ.length := by
                            rcases Nat.lt_or_ge i σ.length with q | q
                            · exact q
                            · rw [List.getElem?_eq_none q] at hv
                              cases hv
                          rw [if_pos rfl, if_pos this, hv]
                        · rw [List.getElem?_set_ne hj]
                      rw [e5] at e3
                      exact e3
                    · show _ ≤ (m.take k).length
                      rw [List.length_take]
                      omega
                    · have e : (m.take k)[j]? = some (some a) := e
                      rw [List.getElem?_take] at e
                      split at e
                      · exact fr.old j a hj e
                      · cases e
                    · have e : (m.take k)[j]? = some (some a) := e
                      rw [List.getElem?_take] at e
                      split at e
                      · exact fr.new j a hj e
                      · cases e
                  · simp only [if_neg hlast] at h
                    have le : Le ⟨m, hd⟩ H ⟨m.set k none, hd⟩ H := le_gone
                    have get : ∀ (j : Nat) (a : Addr), (m.set k none)[j]? = some (some a) → m[j]? = some (some a) := fun j a e => by
                      by_cases hj : k = j
                      · subst hj
                        rw [List.getElem?_set] at e
                        simp at e
                      · rw [List.getElem?_set_ne hj] at e
                        exact e
                    refine ⟨⟨m.set k none, hd⟩, _, _, so.gone, ?_, ⟨fr.le.trans le (by rw [fr.hid]; exact fun _ z => z), fr.hid, by show _ ≤ (m.set k none).length; rw [List.length_set]; exact fr.len, fun j a hj e => fr.old j a hj (get j a e), fun j a hj e => fr.new j a hj (get j a e)⟩, FQ.to h le fun _ z => z⟩
                    have en' : EnvOk cf.g ⟨m.set k none, hd⟩ Γ σ H := ⟨en.len, fun j y e => by
                      obtain ⟨u, h1, h2⟩ := en.val j y e
                      refine ⟨u, h1, ?_⟩
                      cases y with
                      | d y => exact Rep.le le h2
                      | cell l => exact ⟨by show l < (m.set k none).length; rw [List.length_set]; exact h2.1, fun a e => h2.2 a (get l a e)⟩⟩
                    have e3 := en'.set i (x := .d (.lst ds)) (v := .ref av) (rep_gone so e2 hav (fun b z => by
                      rcases List.mem_or_eq_of_mem_set z with z | z
                      · exact z
                      · cases z) (no_set so hav))
                    have e5 : σ.set i (some (V.ref av)) = σ := by
                      apply List.ext_getElem?
                      intro j
                      by_cases hj : i = j
                      · subst hj
                        rw [List.getElem?_set]
                        have : i < σ.length := by
                          rcases Nat.lt_or_ge i σ.length with q | q
                          · exact q
                          · rw [List.getElem?_eq_none q] at hv
                            cases hv
                        rw [if_pos rfl, if_pos this, hv]
                      · rw [List.getElem?_set_ne hj]
                    rw [e5] at e3
                    exact e3
                · simp only [if_neg h0] at h
                  exact h.elim
end
end Pd

namespace Pd
open PySem L2

/-! ### methods of lists of the store -/
def eApp (eo ea : Ev) : Ev := fun Γ S => (eo Γ S).bind fun o S1 => match rd S1 o with
  | some (.lst _) => (ea Γ S1).bind fun x S2 => (match o, x with
    | .cell k, .d d => (match S2[k]? with
      | some (some (.lst ds)) => if ds.length < cap then .ok (.d .non) (S2.set k (some (.lst (ds ++ [d])))) else .bad
      | _ => .bad)
    | _, _ => .bad)
  | _ => .bad
def eExt (eo ea : Ev) : Ev := fun Γ S => (eo Γ S).bind fun o S1 => match rd S1 o with
  | some (.lst _) => (ea Γ S1).bind fun x S2 => (match o, x with
    | .cell k, .d (.lst es) => (match S2[k]? with
      | some (some (.lst ds)) => if ds.length + es.length ≤ cap then .ok (.d .non) (S2.set k (some (.lst (ds ++ es)))) else .bad
      | _ => .bad)
    | _, _ => .bad)
  | _ => .bad
def ePop (eo : Ev) : Ev := fun Γ S => (eo Γ S).bind fun o S1 => match o with
  | .cell k => (match S1[k]? with
    | some (some (.lst ds)) => (match ds[ds.length - 1]? with | some d => .ok (.d d) (S1.set k (some (.lst ds.dropLast))) | none => .bad)
    | _ => .bad)
  | _ => .bad
/-- o[i] = e: the value first -/
def sSet (eo ei ea : Ev) : Sv := fun Γ S => (ea Γ S).fl Γ fun x S1 => (eo Γ S1).fl Γ fun o S2 => (ei Γ S2).fl Γ fun i S3 => match o, i, x with
  | .cell k, .d (.int j), .d d => (match S3[k]? with
    | some (some (.lst ds)) => (match ixN ds.length j with | some n => .nx Γ (S3.set k (some (.lst (ds.set n d)))) | none => .bad)
    | _ => .bad)
  | _, _, _ => .bad
section
variable {X : Cx} {g : Gx} {W : WX} {a b o : Expr} {ea eb eo ei : Ev} {pos apos cpos p : Pos} {cf : Cf}
theorem rd_ty {w : Wd} {S : Store} {H : Hp} {x : Val} {v : V} {ds : List D} (hK : g.K = X.K) (st : StOk g w S H) (r : RepV g w H x v) (e : rd S x = some (.lst ds)) : tyV X.K "list" v H := by
  obtain ⟨a, vs, rfl, h, _⟩ := rd_lst st r e
  exact .inl ⟨rfl, vs, .inl (.inl h)⟩
theorem cell_at {w : Wd} {S : Store} {H : Hp} {k : Nat} {v : V} {ds : List D} (st : StOk g w S H) (r : RepV g w H (.cell k) v) (e : S[k]? = some (some (.lst ds))) : ∃ a vs, v = .ref a ∧ w.m[k]? = some (some a) ∧ H a = some (.lst vs) ∧ RepL g w H ds vs := by
  obtain ⟨a, h1, vs, h2, h3⟩ := st.cell k _ e
  exact ⟨a, vs, r.2 a h1, h1, h2, h3⟩
theorem p_app (hK : g.K = X.K) (ho : PE X o (tE g W eo)) (ha : PE X a (tE g W ea)) (hbase : attributeBase o "append" X.env (eval o X.env) = eval o X.env := by rfl)
    (hfew : ((backTo cpos (starEach [a] X.env)).all (fun x => !x.1) && (backToKw cpos (keywordEach [] X.env)).all (fun x => x.1.isSome) && decide ([a].length + ([] : List Keyword).length + (if ([] : List Keyword).isEmpty then 0 else 1) < 30)) = true := by rfl)
    (hline : (apos.endLine == cpos.line) = true := by rfl) (hs : starEach [a] X.env = (false, eval a X.env) :: starEach [] X.env := by rfl) (hplain : (backTo cpos (starEach [] X.env)).any (·.1) = false := by rfl) :
    PE X (.Call (.Attribute o "append" apos) [a] [] cpos) (tE g W (eApp eo ea)) :=
  (pe_bm PySem.F.plainAttrs_list PySem.F.slot_list_append PySem.F.type_list_append mt_append ho (pa_cons ha pa_nil hs) hbase hfew hline hs hplain).imp fun σ H Q ⟨w, Γ, S, st, en, h⟩ =>
    tX_seq st en h fun u H1 x S1 w1 s1 st1 en1 r1 h1 => by
      split at h1
      · rename_i ds0 e0
        refine ⟨rd_ty hK st1 r1 e0, tX_seq st1 en1 h1 fun v H2 y S2 w2 s2 st2 en2 r2 h2 => ?_⟩
        split at h2
        · split at h2
          · rename_i ds e
            obtain ⟨hz, h2⟩ := ite_q h2
            obtain ⟨p, vs, rfl, hk, hp, l⟩ := cell_at st2 (r1.step s2) e
            refine ⟨p, vs, v, rfl, rfl, hp, ?_, ?_⟩
            · rw [← l.length]
              exact Nat.lt_of_lt_of_le hz (by decide)
            · exact h2 .non w2 _ (stp_mutC st2 hk) (st2.mutC hk (l.append (.cons r2 .nil))) .non
          · exact h2.elim
        · exact h2.elim
      · exact h1.elim
theorem p_ext (hK : g.K = X.K) (ho : PE X o (tE g W eo)) (ha : PE X a (tE g W ea)) (hbase : attributeBase o "extend" X.env (eval o X.env) = eval o X.env := by rfl)
    (hfew : ((backTo cpos (starEach [a] X.env)).all (fun x => !x.1) && (backToKw cpos (keywordEach [] X.env)).all (fun x => x.1.isSome) && decide ([a].length + ([] : List Keyword).length + (if ([] : List Keyword).isEmpty then 0 else 1) < 30)) = true := by rfl)
    (hline : (apos.endLine == cpos.line) = true := by rfl) (hs : starEach [a] X.env = (false, eval a X.env) :: starEach [] X.env := by rfl) (hplain : (backTo cpos (starEach [] X.env)).any (·.1) = false := by rfl) :
    PE X (.Call (.Attribute o "extend" apos) [a] [] cpos) (tE g W (eExt eo ea)) :=
  (pe_bm PySem.F.plainAttrs_list PySem.F.slot_list_extend PySem.F.type_list_extend mt_extend ho (pa_cons ha pa_nil hs) hbase hfew hline hs hplain).imp fun σ H Q ⟨w, Γ, S, st, en, h⟩ =>
    tX_seq st en h fun u H1 x S1 w1 s1 st1 en1 r1 h1 => by
      split at h1
      · rename_i ds0 e0
        refine ⟨rd_ty hK st1 r1 e0, tX_seq st1 en1 h1 fun v H2 y S2 w2 s2 st2 en2 r2 h2 => ?_⟩
        split at h2
        · split at h2
          · rename_i ds e
            obtain ⟨hz, h2⟩ := ite_q h2
            obtain ⟨p, vs, rfl, hk, hp, l⟩ := cell_at st2 (r1.step s2) e
            cases r2 with
            | lst q1 q2 q3 =>
              refine ⟨p, _, vs, _, rfl, rfl, hp, q1, ?_, ?_⟩
              · rw [← l.length, ← q3.length]
                exact cap_le hz
              · exact h2 .non w2 _ (stp_mutC st2 hk) (st2.mutC hk (l.append q3)) .non
          · exact h2.elim
        · exact h2.elim
      · exact h1.elim
theorem RepL.dropLast {w : Wd} {H : Hp} {ds : List D} {vs : List V} (l : RepL g w H ds vs) : RepL g w H ds.dropLast vs.dropLast := by
  rw [List.dropLast_eq_take, List.dropLast_eq_take, l.length]
  exact RepL.take _ l
theorem p_pop (hK : g.K = X.K) (ho : PE X o (tE g W eo)) (hbase : attributeBase o "pop" X.env (eval o X.env) = eval o X.env := by rfl) (hline : (apos.endLine == cpos.line) = true := by rfl) :
    PE X (.Call (.Attribute o "pop" apos) [] [] cpos) (tE g W (ePop eo)) :=
  (pe_bm0 PySem.F.plainAttrs_list PySem.F.slot_list_pop PySem.F.type_list_pop mt_pop ho hbase hline).imp fun σ H Q ⟨w, Γ, S, st, en, h⟩ =>
    tX_seq st en h fun u H1 x S1 w1 s1 st1 en1 r1 h1 => by
      split at h1
      · split at h1
        · rename_i ds e
          split at h1
          · rename_i d ed
            obtain ⟨p, vs, rfl, hk, hp, l⟩ := cell_at st1 r1 e
            refine ⟨.inl ⟨rfl, vs, .inl (.inl hp)⟩, ?_⟩
            obtain ⟨v, hv, rv⟩ := l.get ed
            rw [l.length] at hv
            refine ⟨p, vs, v, rfl, rfl, hp, hv, ?_⟩
            exact h1 v w1 _ (stp_mutC st1 hk) (st1.mutC hk l.dropLast) (Rep.mut (.inl (List.mem_of_getElem? hk)) rv)
          · exact h1.elim
        · exact h1.elim
      · exact h1.elim
theorem ixN_set {ds : List D} {vs : List V} {w : Wd} {H : Hp} (l : RepL g w H ds vs) {j : Int} {n : Nat} (e : ixN ds.length j = some n) : ixN vs.length j = some n := by
  rw [← l.length]
  exact e
theorem s_set {tp : Pos} (ho : PE X o (tE cf.g cf.W eo)) (hi : PE X b (tE cf.g cf.W ei)) (ha : PE X a (tE cf.g cf.W ea)) (hs : swapsWithSole [.Subscript o b tp] a pos.line X.env = pure false := by rfl) (hw : swappedStores [.Subscript o b tp] a X.env = pure none := by rfl)
    (h1 : (assignEach [.Subscript o b tp] X.env).map (·.2) = [assign (.Subscript o b tp) X.env] := by rfl)
    (has : ∀ v, assign (.Subscript o b tp) X.env v = (do
      let ov ← holding [v] (eval o X.env)
      let iv ← holding [v, ov] (eval b X.env)
      standAt tp
      holding [v, ov, iv] (setItem ov iv v)
      release [v, ov, iv] []) := by intro _; rfl) : PS X (.Assign [.Subscript o b tp] a pos) (tS cf (sSet eo ei ea)) :=
  (ps_asg ha (pg_sub ho hi set_list has) hs hw h1).imp fun D σ H ⟨w, Γ, S, st, en, fr, h⟩ => tX_fl st en fr h fun u H1 x S1 w1 s1 st1 en1 fr1 r1 h1 => tX_fl st1 en1 fr1 h1 fun v H2 y S2 w2 s2 st2 en2 fr2 r2 h2 => tX_fl st2 en2 fr2 h2 fun z H3 i S3 w3 s3 st3 en3 fr3 r3 h3 => by
    split at h3
    · split at h3
      · rename_i ds e
        split at h3
        · rename_i n en'
          obtain ⟨p, vs, rfl, hk, hp, l⟩ := cell_at st3 (r2.step s3) e
          cases r3
          refine ⟨p, vs, _, n, rfl, rfl, hp, ixN_set l en', ?_⟩
          have sp := stp_mutC (o := .lst (vs.set n u)) st3 hk
          exact h3 σ w3 _ sp.le (fr3.stp sp) (st3.mutC hk (l.set ((r1.step s2).step s3) n)) (en3.step sp)
        · exact h3.elim
      · exact h3.elim
    · exact h3.elim
end

/-! ### return of new lists -/
section
variable {X : Cx} {cf : Cf} {a b c : Expr} {ea eb ec : Ev} {pos p2 : Pos}
/-- return name, the name's object of this call -/
theorem s_retC {i n0 : Nat} {x : Str} (hn : cf.w0.m.length = n0) (hN : X.N[i]? = some x := by rfl) (hv : Vis X.env.scope x := by first | exact Or.inl rfl | exact Or.inr (Or.inl rfl) | exact Or.inr (Or.inr rfl)) (hd : (x == ("__debug__" : Str)) = false := by decide) (hcd : (x == ("__classdict__" : Str)) = false := by decide) :
    PS X (.Return (some (.Name x p2)) pos) (tS cf (sRetC n0 i)) :=
  (ps_ret (pe_var (i := i) hN hv hd hcd)).imp fun D σ H ⟨w, Γ, S, so, en, fr, h⟩ => by
    subst hn
    unfold sRetC at h
    cases e1 : Γ[i]? with
    | none => rw [e1] at h; exact h.elim
    | some o =>
      cases o with
      | none => rw [e1] at h; exact h.elim
      | some x =>
        cases x with
        | d x => rw [e1] at h; exact h.elim
        | cell k =>
          cases e2 : S[k]? with
          | none => rw [e1] at h; simp only [e2] at h; exact h.elim
          | some o =>
            cases o with
            | none => rw [e1] at h; simp only [e2] at h; exact h.elim
            | some cl =>
              cases cl with
              | lst ds =>
                rw [e1] at h
                simp only [e2] at h
                obtain ⟨m, hd⟩ := w
                obtain ⟨av, hav, vs, hH, hl⟩ := so.cell k _ e2
                obtain ⟨v, hv, rv⟩ := en.val i _ e1
                have ev := rv.2 av hav
                subst ev
                refine ⟨_, hv, ?_⟩
                by_cases h0 : cf.w0.m.length ≤ k
                · simp only [if_pos h0] at h
                  have get : ∀ (j : Nat) (a : Addr), (m.set k none)[j]? = some (some a) → m[j]? = some (some a) := fun j a e => by
                    by_cases hj : k = j
                    · subst hj
                      rw [List.getElem?_set] at e
                      simp at e
                    · rw [List.getElem?_set_ne hj] at e
                      exact e
                  have h : (if cf.N = true then RtN cf ⟨m, hd⟩ H (.d (.lst ds)) (S.set k none) D.rt else RtP cf ⟨m, hd⟩ H (.d (.lst ds)) (S.set k none) D.rt) := h
                  have le : Le ⟨m, hd⟩ H ⟨m.set k none, hd⟩ H := le_gone
                  by_cases hNN : cf.N = true
                  · rw [if_pos hNN] at h
                    have le2 : Le ⟨m, hd⟩ H ⟨m.set k none, av :: hd⟩ H := le_sub fun b z => z.elim (fun z => by
                      rcases List.mem_or_eq_of_mem_set z with z | z
                      · exact .inl z
                      · cases z) fun z => by
                      rcases List.mem_cons.mp z with z | z
                      · exact .inl (by rw [z]; exact List.mem_of_getElem? hav)
                      · exact .inr z
                    have so1 : StOk cf.g ⟨m.set k none, hd⟩ (S.set k none) H := so.gone
                    have ehd : hd = cf.w0.hid := fr.hid
                    refine h av vs ⟨m.set k none, av :: hd⟩ H le2 ⟨fr.le.trans le2 (by rw [fr.hid]; exact fun _ z => z), by rw [ehd], ?_, fun j a hj e => fr.old j a hj (get j a e), fun j a hj e => fr.new j a hj (get j a e)⟩ (fr.new k av h0 hav) ⟨so1.len, fun j c e => ?_, so1.live, so1.inj, fun b z => ?_⟩ hH (RepL.le le2 hl)
                    · show _ ≤ (m.set k none).length
                      rw [List.length_set]
                      exact fr.len
                    · have hj : k ≠ j := fun q => by
                        subst q
                        rw [List.getElem?_set] at e
                        simp at e
                      obtain ⟨b, h1, h2⟩ := so.cell j c (by rw [List.getElem?_set_ne hj] at e; exact e)
                      exact ⟨b, by show (m.set k none)[j]? = _; rw [List.getElem?_set_ne hj]; exact h1, h2.le le2 fun _ q => q⟩
                    · rcases List.mem_cons.mp z with z | z
                      · subst z
                        exact ⟨no_set so hav, by rw [hH]; exact fun y => by cases y⟩
                      · exact so1.hid b z
                  · rw [if_neg hNN] at h
                    exact h _ ⟨m.set k none, hd⟩ H le ⟨fr.le.trans le (by rw [fr.hid]; exact fun _ z => z), fr.hid, by show _ ≤ (m.set k none).length; rw [List.length_set]; exact fr.len, fun j a hj e => fr.old j a hj (get j a e), fun j a hj e => fr.new j a hj (get j a e)⟩ so.gone (rep_gone so e2 hav (fun b z => by
                      rcases List.mem_or_eq_of_mem_set z with z | z
                      · exact z
                      · cases z) (no_set so hav))
                · simp only [if_neg h0] at h
                  exact h.elim
/-- return of a new list, where new lists are handed back -/
theorem s_retNew (hN : cf.N = true) (ha : PE X a (tN cf.g cf.W ea)) : PS X (.Return (some a) pos) (tS cf (sRet ea)) :=
  (ps_ret ha).imp fun D σ H ⟨w, Γ, S, so, en, fr, h⟩ => by
    refine ⟨w, Γ, S, so, en, ?_⟩
    unfold sRet at h
    cases e : ea Γ S with
    | bad => rw [e] at h; exact h
    | exc c x S1 =>
      rw [e] at h
      exact fun cls dx w' H' s st' r => h σ cls dx w' H' s.le (fr.stp s) st' (en.step s) r
    | ok x S1 =>
      rw [e] at h
      have h : (if cf.N = true then RtN cf w H x S1 D.rt else RtP cf w H x S1 D.rt) := h
      rw [if_pos hN] at h
      cases x with
      | cell k => exact h.elim
      | d x =>
        cases x with
        | lst ds =>
          intro p vs w' H' n st' hp l
          refine h p vs w' H' n.q.le ⟨fr.le.trans n.q.le (by rw [fr.hid]; exact fun _ z => z), by rw [n.hid, fr.hid], by rw [n.q.len]; exact fr.len, fun k a hk e => fr.old k a hk (n.q.old k a e), fun k a hk e => fr.new k a hk (n.q.old k a e)⟩ ?_ st' hp l
          cases q : cf.H0 p with
          | none => rfl
          | some o => exact absurd n.free (fr.le.trk p (by rw [q]; exact fun z => by cases z))
        | _ => exact h.elim
end

/-! ### a, b = x, y -/
section
variable {X : Cx} {cf : Cf} {a b c : Expr} {ea eb ec : Ev} {pos p2 px py pt pt2 : Pos} {kt k2 : Nat}
theorem s_parOf {st : Stmt} {i j : Nat} {ta tb : TE} (hps : PS X st (tPar i j (tCons (tE cf.g cf.W ea) (tCons (tE cf.g cf.W eb) tNil)))) : PS X st (tS cf (sPar i j ea eb)) :=
  hps.imp fun D σ H ⟨w, Γ, S, so, en, fr, h⟩ => tX_fl so en fr h fun u H1 x S1 w1 s1 st1 en1 fr1 r1 h1 => tX_fl st1 en1 fr1 h1 fun v H2 y S2 w2 s2 st2 en2 fr2 r2 h2 =>
    ⟨u, v, rfl, FQ.nxQ h2 st2 ((en2.set i (r1.step s2)).set j r2) fr2⟩
theorem s_par {i j : Nat} {x y : Str} (hc : X.calm = true) (hN : X.N.Nodup) (hi : X.N[i]? = some x) (hj : X.N[j]? = some y) (hij : i ≠ j)
    (hx : X.env.scope.names.lookup x = some .local) (hy : X.env.scope.names.lookup y = some .local) (ha : PE X a (tE cf.g cf.W ea)) (hb : PE X b (tE cf.g cf.W eb))
    (hw : swappedStores [.Tuple [.Name x px, .Name y py] kt pt] (.Tuple [a, b] k2 pt2) X.env = pure (some [x, y]))
    (hs : swapsWithSole [.Tuple [.Name x px, .Name y py] kt pt] (.Tuple [a, b] k2 pt2) pos.line X.env = pure false := by rfl)
    (hs1 : starEach [a, b] X.env = (false, eval a X.env) :: starEach [b] X.env := by rfl) (hs2 : starEach [b] X.env = (false, eval b X.env) :: starEach [] X.env := by rfl) :
    PS X (.Assign [.Tuple [.Name x px, .Name y py] kt pt] (.Tuple [a, b] k2 pt2) pos) (tS cf (sPar i j ea eb)) :=
  s_parOf (ta := tE cf.g cf.W ea) (tb := tE cf.g cf.W eb) (ps_par hc hN hi hj hij hx hy (pa_cons ha (pa_cons hb pa_nil hs2) hs1) hw hs)
/-- the same by a tuple -/
theorem s_parT {i j : Nat} {x y : Str} (hc : X.calm = true) (hN : X.N.Nodup) (hi : X.N[i]? = some x) (hj : X.N[j]? = some y)
    (hx : Loc X.env.scope x) (hy : Loc X.env.scope y) (ha : PE X a (tE cf.g cf.W ea)) (hb : PE X b (tE cf.g cf.W eb))
    (hfx : X.fn x = true ∨ X.env.scope.names.lookup x = some .local := by first | exact .inl rfl | exact .inr rfl | assumption) (hfy : X.fn y = true ∨ X.env.scope.names.lookup y = some .local := by first | exact .inl rfl | exact .inr rfl | assumption)
    (hs : swapsWithSole [.Tuple [.Name x px, .Name y py] kt pt] (.Tuple [a, b] k2 pt2) pos.line X.env = pure false := by rfl) (hw : swappedStores [.Tuple [.Name x px, .Name y py] kt pt] (.Tuple [a, b] k2 pt2) X.env = pure none := by rfl)
    (hs1 : starEach [a, b] X.env = (false, eval a X.env) :: starEach [b] X.env := by rfl) (hs2 : starEach [b] X.env = (false, eval b X.env) :: starEach [] X.env := by rfl) :
    PS X (.Assign [.Tuple [.Name x px, .Name y py] kt pt] (.Tuple [a, b] k2 pt2) pos) (tS cf (sPar i j ea eb)) :=
  (ps_asg (pe_tup (pa_cons ha (pa_cons hb pa_nil hs2) hs1)) (pg_tup hc (pgs_cons (pg_name hN hi hx hfx) (pgs_cons (pg_name hN hj hy hfy) pgs_nil))) hs hw).imp fun D σ H ⟨w, Γ, S, so, en, fr, h⟩ =>
    tX_fl so en fr h fun u H1 x S1 w1 s1 st1 en1 fr1 r1 h1 => tX_fl st1 en1 fr1 h1 fun v H2 y S2 w2 s2 st2 en2 fr2 r2 h2 => by
      refine ⟨by show 2 ≤ sizeLine; decide, fun p hp => ⟨p, [u, v], rfl, .inl (.inl upd_same), rfl, u, [v], rfl, v, [], rfl, rfl, ?_⟩⟩
      have sp := step_new (o := .tup [u, v]) st2 hp
      exact h2 _ w2 _ sp.le (fr2.stp sp) (st2.new hp) (((en2.step sp).set i ((r1.step s2).step sp)).set j (r2.step sp))
end

/-! ### defs -/
def spD (g : Gx) (d : List Val → Store → R Val) (n : Nat) (N : Bool) : Sp := fun vs H Q E => vs.length = n ∧ ∃ w S xs, StOk g w S H ∧ RepVs g w H xs vs ∧
  (if N = true then RQN g (fun c d _ H' => E c d H') w [] H (d xs S) Q else RQ g (fun c d _ H' => E c d H') (RepV g) w [] H (d xs S) Q)
/-- a def of the text, by its denotation -/
def Fn (P : Program) (w : World) (K : PySem.W.Frag) (mg : Str → Option Value) (base : Heap) (g : Gx) (k : Nat) (x : Str) (ps : List Str) (d : List Val → Store → R Val) (N : Bool) : Prop :=
  ∃ (f : Addr) (fd : FuncData), mg x = some (.ref f) ∧ PySem.W.keepIn K (.ref f) = true ∧ Binds K fd ps [] ∧ FnOk P w K mg base (L2.CX P w) k f fd ps (spD g d ps.length N)
theorem Fn.mono {P : Program} {w : World} {K : PySem.W.Frag} {mg : Str → Option Value} {base : Heap} {g : Gx} {j k : Nat} {x : Str} {ps : List Str} {d : List Val → Store → R Val} {N : Bool} (F : Fn P w K mg base g j x ps d N) (h : j ≤ k) : Fn P w K mg base g k x ps d N :=
  let ⟨f, fd, a, b, c, e⟩ := F
  ⟨f, fd, a, b, c, e.mono h⟩
def fin (n0 : Nat) (x : Val) (S' : Store) : R Val := match x with
  | .d d => .ok (.d d) (S'.take n0)
  | .cell k => if k < n0 then .ok (.cell k) (S'.take n0) else .bad
def finF (n0 : Nat) (f : F) : R Val := match f with
  | .nx _ S' => fin n0 (.d .non) S'
  | .rt x S' => fin n0 x S'
  | .exc c x _ S' => .exc c x (S'.take n0)
  | _ => .bad
/-- a def's denotation by its body's; extra: the slots that are no parameters -/
def funD (extra : Nat) (body : Nat → Sv) : List Val → Store → R Val := fun xs S => finF S.length (body S.length (xs.map some ++ List.replicate extra none) S)
section
variable {X : Cx} {g : Gx} {W : WX} {e : Expr} {es : List Expr} {er : Env → Store → R (List Val)} {pos p : Pos} {x : Str} {ps : List Str} {d : List Val → Store → R Val} {k j : Nat}
theorem RQ.wish {α β : Type} {ρ : Wd → Hp → α → β → Prop} {w : Wd} {H : Hp} {r : R α} {Q : β → Hp → Prop} {W W' : WX} {σ σ' : L2.St} (h : RQ g W ρ w σ H r Q) (i : ∀ c d H, W c d σ H → W' c d σ' H) : RQ g W' ρ w σ' H r Q := by
  cases r with
  | ok x S => exact h
  | exc c x S => exact fun cls dx w' H' a b z => i _ _ _ (h cls dx w' H' a b z)
  | bad => exact h
theorem RQN.wish {w : Wd} {H : Hp} {r : R Val} {Q : VK} {W W' : WX} {σ σ' : L2.St} (h : RQN g W w σ H r Q) (i : ∀ c d H, W c d σ H → W' c d σ' H) : RQN g W' w σ' H r Q := by
  cases r with
  | ok x S =>
    cases x with
    | cell k => exact h
    | d x =>
      cases x with
      | lst ds => exact h
      | _ => exact h
  | exc c x S => exact fun cls dx w' H' a b z => i _ _ _ (h cls dx w' H' a b z)
  | bad => exact h
theorem len_of {α : Type} {w : Wd} {H : Hp} {xs : List Val} {vs : List V} (r : RepVs g w H xs vs) : xs.length = vs.length := r.length
/-- a call of a def -/
theorem p_call (F : Fn X.prog X.w X.K X.mg X.base g k x ps d false) (hr : Room j X.A) (hkj : k ≤ j) (hg : Gl X x) (tk : Takes X W) (hl : (e :: es).length = ps.length) (hel : ∀ Γ S xs S', er Γ S = .ok xs S' → xs.length = ps.length) (ha : PA X (e :: es) (tA g W er))
    (hdb : (x == ("__debug__" : Str)) = false := by decide) (he : starEach (e :: es) X.env = (false, eval e X.env) :: starEach es X.env := by rfl) (hpl : (backTo pos (starEach es X.env)).any (·.1) = false := by rfl) :
    PE X (.Call (.Name x p) (e :: es) [] pos) (tE g W (eCall d er)) := by
  obtain ⟨f, fd, hm, hk, hb, FO⟩ := F
  refine (pe_callS FO (hr.mono hkj) hg hm hk hb (fun σ => passAt tk σ) ha hdb he hpl).imp fun σ H Q ⟨w, Γ, S, st, en, h⟩ => ?_
  refine ⟨w, Γ, S, st, en, ?_⟩
  unfold eCall at h
  cases q : er Γ S with
  | exc c z S1 => rw [q] at h; exact h
  | bad => rw [q] at h; exact h
  | ok xs S1 =>
    rw [q] at h
    exact fun vs w1 H1 s1 st1 r1 => ⟨by rw [← r1.length]; exact hel Γ S xs S1 q, w1, S1, xs, st1, r1, by
      rw [if_neg Bool.false_ne_true]
      exact (RQ.to (r := d xs S1) h s1).wish fun _ _ _ z => z⟩
theorem p_callNew (F : Fn X.prog X.w X.K X.mg X.base g k x ps d true) (hr : Room j X.A) (hkj : k ≤ j) (hg : Gl X x) (tk : Takes X W) (hl : (e :: es).length = ps.length) (hel : ∀ Γ S xs S', er Γ S = .ok xs S' → xs.length = ps.length) (ha : PA X (e :: es) (tA g W er))
    (hdb : (x == ("__debug__" : Str)) = false := by decide) (he : starEach (e :: es) X.env = (false, eval e X.env) :: starEach es X.env := by rfl) (hpl : (backTo pos (starEach es X.env)).any (·.1) = false := by rfl) :
    PE X (.Call (.Name x p) (e :: es) [] pos) (tN g W (eCall d er)) := by
  obtain ⟨f, fd, hm, hk, hb, FO⟩ := F
  refine (pe_callS FO (hr.mono hkj) hg hm hk hb (fun σ => passAt tk σ) ha hdb he hpl).imp fun σ H Q ⟨w, Γ, S, st, en, h⟩ => ?_
  refine ⟨w, Γ, S, st, en, ?_⟩
  unfold eCall at h
  cases q : er Γ S with
  | exc c z S1 => rw [q] at h; exact h
  | bad => rw [q] at h; exact h
  | ok xs S1 =>
    rw [q] at h
    exact fun vs w1 H1 s1 st1 r1 => ⟨by rw [← r1.length]; exact hel Γ S xs S1 q, w1, S1, xs, st1, r1, by
      rw [if_pos rfl]
      exact (RQN.to (r := d xs S1) h s1).wish fun _ _ _ z => z⟩
theorem eNil_len (Γ : Env) (S : Store) (xs : List Val) (S' : Store) (h : eNil Γ S = .ok xs S') : xs.length = 0 := by
  cases h
  rfl
theorem eCons_len {a : Ev} {r : Env → Store → R (List Val)} {n : Nat} (hr : ∀ Γ S xs S', r Γ S = .ok xs S' → xs.length = n) (Γ : Env) (S : Store) (xs : List Val) (S' : Store) (h : eCons a r Γ S = .ok xs S') : xs.length = n + 1 := by
  unfold eCons at h
  cases e : a Γ S with
  | exc c z S1 => rw [e] at h; cases h
  | bad => rw [e] at h; cases h
  | ok x S1 =>
    rw [e] at h
    have h : (r Γ S1).bind (fun xs S2 => .ok (x :: xs) S2) = .ok xs S' := h
    cases e2 : r Γ S1 with
    | exc c z S1 => rw [e2] at h; cases h
    | bad => rw [e2] at h; cases h
    | ok ys S2 =>
      rw [e2] at h
      cases h
      exact congrArg (· + 1) (hr Γ S1 ys _ e2)
end
/-- a def hands back a list alone -/
theorem Fn.plain {P : Program} {w : World} {K : PySem.W.Frag} {mg : Str → Option Value} {base : Heap} {g : Gx} {k : Nat} {x : Str} {ps : List Str} {d : List Val → Store → R Val} (F : Fn P w K mg base g k x ps d true) (hl : ∀ xs S y S', d xs S = .ok y S' → ∃ ds, y = .d (.lst ds)) : Fn P w K mg base g k x ps d false := by
  obtain ⟨f, fd, a, b, c, e⟩ := F
  refine ⟨f, fd, a, b, c, e.imp fun vs H Q E ⟨h1, w, S, xs, h2, h3, h4⟩ => ⟨h1, w, S, xs, h2, h3, ?_⟩⟩
  rw [if_pos rfl]
  rw [if_neg Bool.false_ne_true] at h4
  exact RQN.plain h4 (hl xs S) fun a z => (h2.hid a z).2
end Pd

namespace Pd
open PySem PySem.Spec PyProof.Rows L2
theorem le_takeL {g : Gx} {m : List (Option Addr)} {h : List Addr} {H : Hp} {k : Nat} : Le ⟨m, h⟩ H ⟨m.take k, h⟩ H := le_take
theorem start_env {g : Gx} {w : Wd} {H : Hp} {N : List Str} {xs : List Val} {vs : List V} {extra : Nat} (r : RepVs g w H xs vs) (hN : N.length = vs.length + extra) : EnvOk g w (xs.map some ++ List.replicate extra none) (L2.start N vs) H := by
  unfold L2.start
  have e : N.length - vs.length = extra := by omega
  rw [e]
  have rl := r.length
  refine ⟨by simp [rl], fun i x h => ?_⟩
  by_cases hi : i < xs.length
  · rw [List.getElem?_append_left (by simpa using hi), List.getElem?_map] at h
    rw [List.getElem?_append_left (by simpa using (by omega : i < vs.length)), List.getElem?_map]
    cases q : xs[i]? with
    | none => rw [q] at h; cases h
    | some y =>
      rw [q] at h
      cases h
      obtain ⟨v, h1, h2⟩ := r.get q
      exact ⟨v, by rw [h1] <;> rfl, h2⟩
  · rw [List.getElem?_append_right (by simpa using hi), List.getElem?_replicate] at h
    split at h <;> cases h
theorem fq_rtP {cf : Cf} {w : Wd} {H : Hp} {x : Val} {S' : Store} {D : Ends} (hN : cf.N = false) (h : RtP cf w H x S' D.rt) : FQ cf w H (.rt x S') D := by
  have e : FQ cf w H (.rt x S') D = (if cf.N = true then RtN cf w H x S' D.rt else RtP cf w H x S' D.rt) := rfl
  rw [e, if_neg (by rw [hN]; exact Bool.false_ne_true)]
  exact h
theorem fq_rtN {cf : Cf} {w : Wd} {H : Hp} {x : Val} {S' : Store} {D : Ends} (hN : cf.N = true) (h : RtN cf w H x S' D.rt) : FQ cf w H (.rt x S') D := by
  have e : FQ cf w H (.rt x S') D = (if cf.N = true then RtN cf w H x S' D.rt else RtP cf w H x S' D.rt) := rfl
  rw [e, if_pos hN]
  exact h
def FnX (P : Program) (w : World) (K : PySem.W.Frag) (mg : Str → Option Value) (base : Heap) (g : Gx) (k : Nat) (x : Str) (ps : List Str) (d : List Val → Store → R Val) (N : Bool) (f : Addr) (fd : FuncData) : Prop :=
  mg x = some (.ref f) ∧ PySem.W.keepIn K (.ref f) = true ∧ Binds K fd ps [] ∧ FnOk P w K mg base (L2.CX P w) k f fd ps (spD g d ps.length N)
theorem body_spD {P : Program} {w : World} {K : PySem.W.Frag} {mg : Str → Option Value} {base : Heap} {g : Gx} {qual : Str} {st : Stmt} {f : Addr} {N : List Str} {np k extra : Nat} (Nn : Bool) (body : Nat → Sv) (hx : N.length = np + extra)
    (hbody : ∀ (cdv : Value) (A : Around) (outer : List PySem.Env) (s : Shared) (H : Hp) (E : XK), Room k (A.deeper (envOfC qual (defScope st) s.heap.objs.size f cdv)) → ∀ w0 : Wd,
      PSs (cxOf (L2.CX P w) P w K mg base N qual (defScope st) f cdv A outer s H E) (defBody st) (tS ⟨g, fun c d _ H' => E c d H', w0, H, Nn⟩ (body w0.m.length)))
    (cdv : Value) (A : Around) (outer : List PySem.Env) (s : Shared) (H : Hp) (vs : List V) (Q : VK) (E : XK) (hr : Room k (A.deeper (envOfC qual (defScope st) s.heap.objs.size f cdv))) (hsp : spD g (funD extra body) np Nn vs H Q E) :
    ∃ t, PSs (cxOf (L2.CX P w) P w K mg base N qual (defScope st) f cdv A outer s H E) (defBody st) t ∧ t { nx := fun _ H' => Q .non H', rt := Q } (L2.start N vs) H := by
  obtain ⟨hl, w0, S, xs, so, rv, h⟩ := hsp
  refine ⟨_, hbody cdv A outer s H E hr w0, w0, xs.map some ++ List.replicate extra none, S, so, start_env rv (by rw [hl]; exact hx), ⟨.refl _ _, rfl, Nat.le_refl _, fun _ _ _ e => e, fun k a hk e => ?_⟩, ?_⟩
  · rw [List.getElem?_eq_none hk] at e
    cases e
  have hn : w0.m.length = S.length := so.len
  have key : ∀ (w' : Wd) (H' : Hp), Le w0 H w' H' → Fr w0 H w' H' w0.hid → ∀ S', StOk g w' S' H' → Stp w0 H ⟨w'.m.take S.length, w0.hid⟩ H' ∧ StOk g ⟨w'.m.take S.length, w0.hid⟩ (S'.take S.length) H' ∧ Le w' H' ⟨w'.m.take S.length, w0.hid⟩ H' := fun w' H' le fr S' st' => by
    obtain ⟨m, hd⟩ := w'
    have eh : hd = w0.hid := fr.hid
    subst eh
    have l2 : Le ⟨m, w0.hid⟩ H' ⟨m.take S.length, w0.hid⟩ H' := le_take
    refine ⟨⟨le.trans l2 fun _ z => z, rfl, ?_, fun j a e => ?_⟩, st'.take, l2⟩
    · have := fr.len
      show (m.take S.length).length = _
      rw [List.length_take, ← hn]
      have : w0.m.length ≤ m.length := fr.len
      omega
    · have e : (m.take S.length)[j]? = some (some a) := e
      rw [List.getElem?_take] at e
      split at e
      · exact fr.old j a (by omega) e
      · cases e
  unfold funD at h
  rw [← hn] at h
  generalize body w0.m.length (xs.map some ++ List.replicate extra none) S = fl at h ⊢
  cases Nn with
  | false =>
    rw [if_neg Bool.false_ne_true] at h
    cases fl with
    | nx Γ' S' =>
      intro σ' w' H' le fr st' en'
      obtain ⟨k1, k2, k3⟩ := key w' H' le fr S' st'
      rw [hn] at h
      exact h .non _ H' k1 k2 .non
    | rt x S' =>
      refine fq_rtP rfl ?_
      intro v w' H' le fr st' r
      obtain ⟨k1, k2, k3⟩ := key w' H' le fr S' st'
      rw [hn] at h
      cases x with
      | d d => exact h v _ H' k1 k2 (Rep.le k3 r)
      | cell c =>
        have h : RQ g _ (RepV g) w0 [] H (if c < S.length then .ok (.cell c) (S'.take S.length) else .bad) Q := h
        by_cases hc : c < S.length
        · rw [if_pos hc] at h
          refine h v _ H' k1 k2 ⟨by rw [k1.len, hn]; exact hc, fun a e => r.2 a ?_⟩
          have e : (w'.m.take S.length)[c]? = some (some a) := e
          rw [List.getElem?_take, if_pos hc] at e
          exact e
        · rw [if_neg hc] at h
          exact h.elim
    | bk Γ' S' => exact h.elim
    | ct Γ' S' => exact h.elim
    | bad => exact h.elim
    | exc c x Γ' S' =>
      intro σ' cls dx w' H' le fr st' en' er
      obtain ⟨k1, k2, k3⟩ := key w' H' le fr S' st'
      rw [hn] at h
      refine h cls dx _ H' k1 k2 ?_
      obtain ⟨C, e1, e2, e3⟩ := er
      refine ⟨C, e1, e2, e3.elim .inl fun ⟨d, v, z1, z2, z3, z4⟩ => .inr ⟨d, v, z1, z2, k3.navk z2 z3, Rep.le k3 z4⟩⟩
  | true =>
    rw [if_pos rfl] at h
    cases fl with
    | nx Γ' S' => exact h.elim
    | rt x S' =>
      refine fq_rtN rfl ?_
      cases x with
      | cell c =>
        have h : RQN g _ w0 [] H (if c < w0.m.length then .ok (.cell c) (S'.take w0.m.length) else .bad) Q := h
        by_cases hc : c < w0.m.length
        · rw [if_pos hc] at h
          exact h.elim
        · rw [if_neg hc] at h
          exact h.elim
      | d d =>
        cases d with
        | lst ds =>
          intro p vs' w' H' le fr h0 st' hp l
          obtain ⟨m, hd⟩ := w'
          have eh : hd = p :: w0.hid := fr.hid
          subst eh
          have l2 : Le ⟨m, p :: w0.hid⟩ H' ⟨m.take S.length, p :: w0.hid⟩ H' := le_take
          rw [hn] at h
          refine h p vs' ⟨m.take S.length, p :: w0.hid⟩ H' ⟨⟨le.trans l2 fun _ z => List.mem_cons_of_mem _ z, ?_, fun j a e => ?_⟩, rfl, h0⟩ st'.take hp (RepL.le l2 l)
          · show (m.take S.length).length = _
            have : w0.m.length ≤ m.length := fr.len
            rw [List.length_take, ← hn]
            omega
          · have e : (m.take S.length)[j]? = some (some a) := e
            rw [List.getElem?_take] at e
            split at e
            · exact fr.old j a (by show j < w0.m.length; omega) e
            · cases e
        | _ => exact h.elim
    | bk Γ' S' => exact h.elim
    | ct Γ' S' => exact h.elim
    | bad => exact h.elim
    | exc c x Γ' S' =>
      intro σ' cls dx w' H' le fr st' en' er
      obtain ⟨k1, k2, k3⟩ := key w' H' le fr S' st'
      rw [hn] at h
      refine h cls dx _ H' k1 k2 ?_
      obtain ⟨C, e1, e2, e3⟩ := er
      exact ⟨C, e1, e2, e3.elim .inl fun ⟨d, v, z1, z2, z3, z4⟩ => .inr ⟨d, v, z1, z2, k3.navk z2 z3, Rep.le k3 z4⟩⟩
theorem fn_mkX {P : Program} {w : World} {K : PySem.W.Frag} {mg : Str → Option Value} {base : Heap} {g : Gx} {x qual : Str} {st : Stmt} {f : Addr} {fd : FuncData} {N ps : List Str} {k extra : Nat} (Nn : Bool) (body : Nat → Sv) (F : Fun K x qual st f fd) (SC : FnScope N ps (defScope st)) (hm : mg x = some (.ref f)) (hb : Binds K fd ps []) (hx : N.length = ps.length + extra)
    (hbody : ∀ (cdv : Value) (A : Around) (outer : List PySem.Env) (s : Shared) (H : Hp) (E : XK), Room k (A.deeper (envOfC qual (defScope st) s.heap.objs.size f cdv)) → ∀ w0 : Wd,
      PSs (cxOf (L2.CX P w) P w K mg base N qual (defScope st) f cdv A outer s H E) (defBody st) (tS ⟨g, fun c d _ H' => E c d H', w0, H, Nn⟩ (body w0.m.length))) : FnX P w K mg base g (k + 1) x ps (funD extra body) Nn f fd := by
  exact ⟨hm, F.kp, hb, F.okX SC (fun vs H Q E h => h.1) fun cdv A outer s H vs Q E hr hsp => body_spD (np := ps.length) Nn body hx hbody cdv A outer s H vs Q E hr hsp⟩
/-- the law's promise from its denotation -/
def spLaw (K : PySem.W.Frag) : Sp := fun vs H Q _ => ∃ (a : Addr) (ns : List Int), vs = [.ref a] ∧ SqL K H a (ns.map V.int) ∧ ns.length ≤ 63 ∧ ∀ H', Q (.bl true) H'
theorem law_sp {g : Gx} {K : PySem.W.Frag} {d : List Val → Store → R Val} (hK : g.K = K) (hd : ∀ ns : List Int, ns.length ≤ 63 → d [.d (.scr ns)] [] = .ok (.d (.bl true)) []) (vs : List V) (H : Hp) (Q : VK) (E : XK) (h : spLaw K vs H Q E) : spD g d 1 false vs H Q E := by
  obtain ⟨a, ns, rfl, hs, hl, q⟩ := h
  refine ⟨rfl, ⟨[], []⟩, [], [.d (.scr ns)], ⟨rfl, fun k c e => by simp at e, fun k a e => by simp at e, fun j k a e => by simp at e, fun a z => by simp at z⟩, .cons ?_ .nil, ?_⟩
  · rw [← hK] at hs
    refine .scr ?_
    rcases hs with hs | hs
    · exact .inl ⟨hs, fun z => by rcases z with z | z <;> simp at z⟩
    · exact .inr hs
  · rw [if_neg Bool.false_ne_true, hd ns hl]
    intro v w' H' _ _ r
    cases r
    exact q H'
end Pd

/-! ### enumerate of a tuple, slices backward, sorted of a tuple: at the library's level -/
namespace Pd
open PySem PySem.Spec PyProof.Rows L2

section
variable {prog : Program} {w : World} {A : Around} {E : Value → Shared → Prop} {s : Shared}
set_option maxHeartbeats 1000000 in
theorem meets_enumerate_new1 {v : Value} {o : Obj} {H : Heap → Prop} (B : Begins v o H) :
    Meets (Builtin.«enumerate.__new__» ⟨[.type "enumerate", v], []⟩) (fun _ R s => H s.heap ∧
      R (.ok (.ret (.ref (s.heap.push o).objs.size))) { s with heap := (s.heap.push o).push { cls := .type "enumerate", data := .fields #[.none, .bool false, .ref s.heap.objs.size, rawInt 0, .none, .none] } }) :=
  .of_wp fun prog w A R s h => by
    obtain ⟨hp, g, d, tk, os⟩ := s; obtain ⟨h1, h⟩ := h
    have hsub := sub_enumerate
    have q1 : ∀ {A' : Around} {E : Value → Shared → Prop} {Q : Value → Shared → Prop}, Q (.ref hp.objs.size) ⟨hp.push o, g, d, tk, os⟩ → wpAny (model prog w) A' (pyIter v) Q E ⟨hp, g, d, tk, os⟩ :=
      fun q => B.iter prog w _ _ ⟨hp, g, d, tk, os⟩ _ h1 q
    wp_walk using q1
    refine wpAny_stack_any fun st => wpAny_pure ?_
    split
    · rename_i c _ _ _ _ _
      cases (c == Value.type "enumerate")
      · wp_walk using q1
        exact ⟨_, rfl, h⟩
      · wp_walk using q1
        exact ⟨_, rfl, h⟩
    · wp_walk using q1
      exact ⟨_, rfl, h⟩
theorem enum_begins1 {v : Value} {o : Obj} {H : Heap → Prop} {Q : Value → Shared → Prop} (B : Begins v o H) (h1 : H s.heap)
    (h : ∀ h', IsEnum h' (s.heap.objs.size + 1) s.heap.objs.size 0 .none → h'.get? s.heap.objs.size = some o → h'.objs.size = s.heap.objs.size + 2 →
      (∀ b o, s.heap.get? b = some o → h'.get? b = some o) → Q (.ref (s.heap.objs.size + 1)) { s with heap := h' }) :
    wpAny (model prog w) A (call (.type "enumerate") [v]) Q E s := by
  refine callType_new F.called_enumerate (by decide) (F.typeCall_enumerate_1 _) (F.newCall_enumerate_1 _) (fun obj => F.args_object_init_2 obj _) F.entry_enumerate_new
    (meets_enumerate_new1 B) ⟨h1, ?_⟩
  have hz : (s.heap.push o).objs.size = s.heap.objs.size + 1 := Heap.size_push ..
  show _ ∧ _
  rw [hz]
  have he : IsEnum ((s.heap.push o).push { cls := .type "enumerate", data := .fields #[.none, .bool false, .ref s.heap.objs.size, rawInt 0, .none, .none] }) (s.heap.objs.size + 1) s.heap.objs.size 0 .none := by
    have := Heap.get?_push_size (s.heap.push o) (o := { cls := .type "enumerate", data := .fields #[.none, .bool false, .ref s.heap.objs.size, rawInt 0, .none, .none] }) rfl
    rw [hz] at this; exact this
  refine ⟨⟨_, he, rfl⟩, h _ he (Heap.get?_push_of_some _ (Heap.get?_push_size _ B.free)) (by rw [Heap.size_push, hz]) fun b o x => Heap.get?_push_of_some _ (Heap.get?_push_of_some _ x)⟩
theorem collect_tup {l : Addr} {vs : List Value} {Q : List Value → Shared → Prop} (hl : IsTup s.heap l vs.toArray)
    (h : Q vs { s with heap := (s.heap.push (seqObj "list" #[] 0)).update s.heap.objs.size (Obj.mapSeq (· ++ vs.toArray)) }) (hsz : vs.length ≤ sizeLine) :
    wpAny (model prog w) A (collect (.ref l)) Q E s := by
  obtain ⟨o, ho, hc, n, hd⟩ := id hl
  unfold collect
  refine wpAny_bind (wpAny_runValue (codeAny_builtin entry_proto_collect' ?_))
  show wpAny _ _ (do again (.builtin "list.__iadd__" ⟨[← newList [], .ref l], []⟩)) _ _ s
  refine wpAny_bind (wpAny_newList (wpAny_pure ⟨Code.quiet_builtin _ (by decide +kernel), codeAny_builtin entry_list_iadd' ?_⟩))
  show wpAny _ _ (Builtin.List.listExtendWith (.ref s.heap.objs.size) (.ref l) (.ref s.heap.objs.size)) _ _ { s with heap := s.heap.push (seqObj "list" #[] 0) }
  unfold Builtin.List.listExtendWith
  have ho' : (s.heap.push (seqObj "list" #[] 0)).get? l = some o := Heap.get?_push_of_some _ ho
  refine wpAny_bind (wpAny_typeOf (T := "tuple") ⟨o, ho', hc⟩ ?_)
  have ht : (Value.type "tuple" == Value.type "tuple") = true := by rfl
  rw [if_pos (by rw [ht]; simp)]
  refine wpAny_bind (listItems_at ho' hd ?_)
  refine wpAny_bind (listItems_at (xs := #[]) (n := 0) (Heap.get?_push_size _ rfl) rfl ?_)
  rw [if_neg (by simp)]
  refine wpAny_bind (listUpdate_at (xs := #[]) (n := 0) (Heap.get?_push_size _ rfl) rfl ?_ (Nat.zero_le _) (by show (#[] ++ vs.toArray).size ≤ sizeLine + 1; simp only [Array.size_append, List.size_toArray, List.length_nil]; omega))
  refine wpAny_pure ?_
  show wpAny (model prog w) A (do
      let o ← load s.heap.objs.size
      match o.data with
      | .seq xs _ => pure xs.toList
      | _ => unsupported "internal:collect") Q E { s with heap := (s.heap.push (seqObj "list" #[] 0)).update s.heap.objs.size (Obj.mapSeq (· ++ vs.toArray)) }
  refine wpAny_bind (wpAny_load (get?_update_seq (Heap.get?_push_size _ rfl) _) ?_)
  show wpAny _ _ (pure ((#[] : Array Value) ++ vs.toArray).toList) Q E _
  rw [show ((#[] : Array Value) ++ vs.toArray).toList = vs by simp]
  exact wpAny_pure h
open SrtO in
theorem sorted_ordT {l : Addr} {vs : List Value} {ltv : Value → Value → Bool} {Q : Value → Shared → Prop} (O : Swo ltv) (hl : IsTup s.heap l vs.toArray) (hz : vs.length ≤ sizeLine)
    (hS : 2 ≤ vs.length → ∀ (h₁ : Heap) (a : Addr), h₁.get? a = some (seqObj "list" vs.toArray 0) → (∀ b o, s.heap.get? b = some o → b ≠ a ∧ h₁.get? b = some o) → SortableO prog w A.in1.in1 { s with heap := h₁ } a vs ltv)
    (h : ∀ out : List Value, Srtd ltv out → Stb ltv out vs → Q (.ref (s.heap.objs.size + 1)) { s with heap := sortedAll s.heap vs out.toArray }) :
    wpAny (model prog w) A (call (.builtin "sorted") [.ref l]) Q E s := by
  refine Calls.call_function_entry kind_sorted plain_sorted entry_sorted (args_sorted1 _) ?_
  unfold Builtin.«sorted»
  refine wpAny_bind (m := checkCount "sorted" 1 1 _) (wpAny_pure ?_)
  refine wpAny_bind (collect_tup hl ?_ hz)
  refine wpAny_bind (wpAny_newList ?_ hz)
  have hsz : ((s.heap.push (seqObj "list" #[] 0)).update s.heap.objs.size (Obj.mapSeq (· ++ vs.toArray))).objs.size = s.heap.objs.size + 1 := by
    rw [Heap.size_update, size_push']
  have hoL : (((s.heap.push (seqObj "list" #[] 0)).update s.heap.objs.size (Obj.mapSeq (· ++ vs.toArray))).push (seqObj "list" vs.toArray 0)).get? (s.heap.objs.size + 1) = some (seqObj "list" vs.toArray 0) := by
    rw [← hsz]; exact Heap.get?_push_size _ rfl
  have keep : ∀ b o, s.heap.get? b = some o → b ≠ s.heap.objs.size + 1 ∧ (((s.heap.push (seqObj "list" #[] 0)).update s.heap.objs.size (Obj.mapSeq (· ++ vs.toArray))).push (seqObj "list" vs.toArray 0)).get? b = some o := fun b o q => by
    have hlt : b < s.heap.objs.size := Heap.lt_size q
    refine ⟨Nat.ne_of_lt (Nat.lt_succ_of_lt hlt), Heap.get?_push_of_some _ ?_⟩
    rw [Heap.get?_update_ne _ _ _ _ (Nat.ne_of_lt hlt)]
    exact Heap.get?_push_of_some _ q
  show wpAny _ _ _ _ _ { s with heap := ((s.heap.push (seqObj "list" #[] 0)).update s.heap.objs.size (Obj.mapSeq (· ++ vs.toArray))).push (seqObj "list" vs.toArray 0) }
  rw [hsz]
  refine wpAny_bind (wpAny_holding (wpAny_call_entry slot_list_sort ⟨_, hoL, rfl⟩ entry_list_sort (list_sort_ord O hoL hz (fun h2 => hS h2 _ _ hoL keep) fun out hs hb => ⟨_, rfl, ?_⟩) (args_list_sort _)))
  exact wpAny_pure ⟨_, rfl, h out hs hb⟩
end

/-! ### enumerate of a list or a tuple -/
def IteT (K : PySem.W.Frag) (a : Addr) : It :=
  ⟨fun i H => ∃ (xs : List V) (x : V), SqT K H a xs ∧ xs[i]? = some x, fun i H v H' => ∃ T x, v = .ref T ∧ H T = none ∧ H' = upd H T (.tup [.int (i : Nat), x]) ∧ ∀ xs, SqT K H a xs → xs[i]? = some x, fun i H => ∃ xs : List V, SqT K H a xs ∧ xs.length = i⟩
theorem turn_enumT {P : Program} {w : World} {K : PySem.W.Frag} {elts : List Expr} {kk : Nat} {tpos : Pos} (a e it : Addr) :
    Turn P w K (.Tuple elts kk tpos) (IteT K a) [e, it] e (fun i h => (∃ old, IsEnum h e it ((i : Nat) : Int) old) ∧ h.IsTupleIter it a i ∧ e ≠ it ∧ e ≠ a ∧ a ≠ it) where
  mem := by simp
  obj := fun i h st b hb => by
    obtain ⟨⟨old, he⟩, ⟨o, ho, hc, hd⟩, _⟩ := st
    have e' : b = e ∨ b = it := by simpa using hb
    rcases e' with z | z
    · rw [z]; exact ⟨_, he, fun v q => nomatch q⟩
    · rw [z]; exact ⟨o, ho, fun v q => by rw [hd] at q; cases q⟩
  keep := fun i h h' st k => let ⟨⟨old, he⟩, hi, hne⟩ := st; ⟨⟨old, k e (by simp) _ he⟩, hi.at fun o q => k it (by simp) o q, hne⟩
  item := by
    intro X hP hw hK hc i pins s σ H E I hf st hg
    subst hP hw hK
    obtain ⟨⟨old, he⟩, hit, hne, hea, hai⟩ := st
    obtain ⟨xs, x, hq, hx⟩ := hg
    obtain ⟨its, rv, p, hz⟩ := I.tuple hq
    obtain ⟨u, hu, ru⟩ := rv.get hx
    have hel : e < s.heap.objs.size := Heap.lt_size he
    have hil : it < s.heap.objs.size := by obtain ⟨_, q, _⟩ := hit; exact Heap.lt_size q
    have hal : a < s.heap.objs.size := by obtain ⟨_, q, _⟩ := p; exact Heap.lt_size q
    have Dr := Draws.tuple (prog := X.prog) (w := X.w) (A := X.A.in1) (I.ok.hd hc) it a hai its.toArray
    have hlen : i < its.toArray.size := by
      have := List.getElem?_eq_some_iff.mp hu
      obtain ⟨q, _⟩ := this
      simpa using q
    refine wpAny_pyNext_enum_itemD Dr he ⟨hit, p⟩ hlen hne (by simp [hne, hea]) fun x' h' tk px ho hit' hT hsz hk => ?_
    have ex : x' = u := by
      have q : its.toArray[i]? = some x' := px
      have q2 : its.toArray[i]? = some u := by simpa using hu
      rw [q] at q2
      exact Option.some.inj q2
    subst ex
    refine ⟨_, rfl, wpAny_letOwnedTupleGo_enum (s := { s with heap := h', toks := tk + 1 }) ho fun h'' he' sb => ?_⟩
    have hT2 : h''.get? s.heap.objs.size = some { cls := .type "tuple", data := .seq #[.int i tk, x'] } := (sb.2 _ (Nat.ne_of_gt hel)).trans hT
    have new : ObjOk X.prog X.w (upd H s.heap.objs.size (.tup [.int (i : Nat), x])) h'' s.heap.objs.size (.tup [.int (i : Nat), x]) :=
      ⟨by show 2 ≤ sizeLine; decide, [.int i tk, x'], .cons ⟨_, rfl⟩ (.cons ru .nil), ⟨_, hT2, rfl, _, rfl⟩⟩
    have I1 : Inv X pins σ (upd H s.heap.objs.size (.tup [.int (i : Nat), x])) { s with heap := h'', toks := tk + 1 } :=
      I.turnedNew (ch := [e, it]) (fun b ob hb q => (sb.2 b (fun z => hb (by simp [z]))).trans (hk b ob (fun z => hb (by simp [z])) (fun z => hb (by simp [z])) q)) hf (Nat.le_refl _) new
    refine ⟨.ref s.heap.objs.size, _, I1, rfl, ⟨_, x, rfl, I.hok.fresh (Nat.le_refl _), rfl, fun ys hy => by rw [I.tuple_inj hy hq]; exact hx⟩, ⟨⟨x', ?_⟩, hit'.1.at fun o q => (sb.2 it (Ne.symm hne)).trans q, hne, hea, hai⟩, fun b hb => ?_⟩
    · have e1 : ((i + 1 : Nat) : Int) = (i : Int) + 1 := by omega
      rw [e1]; exact he'
    · have hb' : b < s.heap.objs.size := by
        have e' : b = e ∨ b = it := by simpa using hb
        rcases e' with z | z
        · rw [z]; exact hel
        · rw [z]; exact hil
      rw [upd_ne (Nat.ne_of_lt hb')]
      exact (hf b hb).1
  done := by
    intro X hP hw hK hc i pins s σ H E I hf st hg
    subst hP hw hK
    obtain ⟨⟨old, he⟩, hit, hne, hea, hai⟩ := st
    obtain ⟨xs, hq, hx⟩ := hg
    obtain ⟨its, rv, p, hz⟩ := I.tuple hq
    obtain ⟨f0, f1, f2, f3, f4, f5⟩ := hf it (by simp)
    have hl := rv.length
    have Dr := Draws.tuple (prog := X.prog) (w := X.w) (A := X.A.in1) (I.ok.hd hc) it a hai its.toArray
    have ei : i = its.toArray.size := by
      simp only [List.size_toArray]
      omega
    exact wpAny_pyNext_enum_endD Dr he ⟨by rw [← ei]; exact hit, p⟩ fun h' eb => ⟨rfl, I.turned (t' := s.toks) (fun b o hb q => eb b o hb q) f0 f1 f3 f4 f5⟩
  self := fun A i s Q E st h => let ⟨⟨_, he⟩, _⟩ := st; wpAny_pyIter_enum he h
def iEnA (K : PySem.W.Frag) (ta : TA) : TI := fun σ H R => ta σ H fun vs H1 => ∃ a xs, vs = [.ref a] ∧ ((SqL K H1 a xs ∧ R (Ite K a) H1) ∨ (SqT K H1 a xs ∧ R (IteT K a) H1))
theorem pi_enA {X : Cx} {e : Expr} {ta : TA} {p pos tpos : Pos} {elts : List Expr} {kk : Nat} (hg : Gl X "enumerate") (hm : X.mg "enumerate" = none) (ha : PA X [e] ta) (hs : starEach [e] X.env = [(false, eval e X.env)] := by rfl) :
    PI X (.Tuple elts kk tpos) (.Call (.Name "enumerate" p) [e] [] pos) (iEnA X.K ta) := by
  refine ⟨fun pins s σ H R I h => ?_⟩
  refine Call_ (ld_blt I hg hm boot_enumerate (PyProof.Rows.callWith_type1 (thn (ha.run pos pins s σ H _ I h) fun us s1 ⟨vs, H1, I1, r1, q1⟩ => ?_) hs rfl))
  obtain ⟨a, xs, ex, q⟩ := q1
  subst ex
  cases r1 with
  | cons r rr =>
    cases rr
    cases r
    have fresh2 : ∀ b, b ∈ [s1.heap.objs.size + 1, s1.heap.objs.size] → FpOk X pins H1 b := fun b hb => by
      have e' : b = s1.heap.objs.size + 1 ∨ b = s1.heap.objs.size := by simpa using hb
      have hle : s1.heap.objs.size ≤ b := by
        rcases e' with z | z
        · rw [z]; exact Nat.le_add_right _ _
        · rw [z]; exact Nat.le_refl _
      exact I1.fpOk hle (I1.hok.fresh hle)
    rcases q with ⟨hq, q⟩ | ⟨hq, q⟩
    · obtain ⟨its, rv, p', hz⟩ := I1.list hq
      refine call_enumerate_list p'.isList fun h' he hit hsz hk => wpAny_pyIter_enum he ?_
      have I2 : Inv X pins σ H1 { s1 with heap := h' } := I1.kept (t' := s1.toks) hk
      exact ⟨s1.heap.objs.size + 1, [s1.heap.objs.size + 1, s1.heap.objs.size], _, _, H1, rfl, I2, turn_enum a (s1.heap.objs.size + 1) s1.heap.objs.size, ⟨⟨.none, he⟩, hit, Nat.succ_ne_self _⟩, fresh2, q⟩
    · obtain ⟨its, rv, p', hz⟩ := I1.tuple hq
      have hal : a < s1.heap.objs.size := by obtain ⟨_, q, _⟩ := p'; exact Heap.lt_size q
      refine enum_begins1 (begins_tuple a its.toArray) (show s1.heap.IsTuple a its.toArray from p') fun h' he hit hsz hk => wpAny_pyIter_enum he ?_
      have I2 : Inv X pins σ H1 { s1 with heap := h' } := I1.kept (t' := s1.toks) hk
      exact ⟨s1.heap.objs.size + 1, [s1.heap.objs.size + 1, s1.heap.objs.size], _, _, H1, rfl, I2, turn_enumT a (s1.heap.objs.size + 1) s1.heap.objs.size, ⟨⟨.none, he⟩, ⟨_, hit, rfl, rfl⟩, Nat.succ_ne_self _, Ne.symm (Nat.ne_of_lt (Nat.lt_succ_of_lt hal)), Nat.ne_of_lt hal⟩, fresh2, q⟩
section
variable {X : Cx} {g : Gx} {W : WX} {a b c tg : Expr} {ea eb ec : Ev} {pos p p2 : Pos} {w : Wd} {H : Hp} {ds es : List D}
theorem items_enumT {a : Addr} {vs : List V} (h : SqT' g w H a vs) (l : RepL g w H ds vs) : Items g w H (ds.zipIdx.map fun p => .tup [.int (p.2 : Nat), p.1]) (IteT g.K a) := by
  refine items_pair (enum_len ds) (f := fun i => ds[i]?.map fun z => (D.int (i : Nat), z)) (fun i d h => enum_get ds i d h) fun w1 S1 H1 st le => ?_
  have h1 : SqT g.K H1 a vs := (h.le le).sq
  have l1 := RepL.le le l
  refine ⟨fun i hi => ?_, ⟨vs, h1, by rw [l.length]⟩⟩
  obtain ⟨v, hv, _⟩ := l.get (List.getElem?_eq_getElem hi)
  refine ⟨⟨vs, v, h1, hv⟩, fun x H2 y => ?_⟩
  obtain ⟨T, u, rfl, hT, rfl, q⟩ := y
  refine ⟨T, _, u, rfl, hT, rfl, fun c d e => ?_⟩
  cases e2 : ds[i]? with
  | none => rw [e2] at e; cases e
  | some z =>
    rw [e2] at e
    cases e
    obtain ⟨u', hu, ru⟩ := l1.get e2
    have := q vs h1
    rw [hu] at this
    cases this
    exact ⟨.int _, ru⟩
theorem i_enum {elts : List Expr} {kk : Nat} {tpos : Pos} (hK : g.K = X.K) (hg : Gl X "enumerate") (hm : X.mg "enumerate" = none) (ha : PE X a (tE g W ea)) (hs : starEach [a] X.env = [(false, eval a X.env)] := by rfl) :
    PI X (.Tuple elts kk tpos) (.Call (.Name "enumerate" p) [a] [] pos) (tI g W (itEn ea)) :=
  (pi_enA hg hm (pa_cons ha pa_nil hs) hs).imp fun σ H Q ⟨w, Γ, S, st, en, h⟩ => tX_seq st en h fun u H1 x S1 w1 s1 st1 en1 r1 h1 => by
    split at h1
    · cases r1 with
      | lst q1 q2 q3 =>
        rw [← hK]
        exact ⟨_, _, rfl, .inl ⟨.inl (.inl q1), RQ.okQ h1 st1 (items_enum q1 q2 q3)⟩⟩
    · cases r1 with
      | tup q1 q3 =>
        rw [← hK]
        exact ⟨_, _, rfl, .inr ⟨q1.sq, RQ.okQ h1 st1 (items_enumT q1 q3)⟩⟩
    · exact h1.elim
end

/-! ### slices backward -/
section
variable {prog : Program} {w : World} {A : Around} {E : Value → Shared → Prop} {s : Shared}
theorem places_rev (n : Nat) : Builtin.Slice.slicePlaces ((n : Int) - 1) (-1) (-1) = n := by
  unfold Builtin.Slice.slicePlaces
  rw [if_neg (by decide)]
  have e : (-(-1) : Int) = 1 := by decide
  rw [e]
  by_cases h : (n : Int) - 1 > -1
  · rw [if_pos h, Int.ediv_one]
    omega
  · rw [if_neg h]
    omega
theorem sliceApplied_rev {sl : Addr} {n : Nat} {vl vu vs : Value} {Q : Int × Int × Nat → Shared → Prop} (hs : s.heap.IsSliceOf sl vl vu vs) (pl : IsPart vl none) (pu : IsPart vu none) (ps : IsPart vs (some (-1)))
    (h : Q ((n : Int) - 1, -1, n) s) : wpAny (model prog w) A (Builtin.Slice.sliceApplied (.ref sl) (pure (n : Int))) Q E s := by
  obtain ⟨os, hos, hcs, hds⟩ := id hs
  unfold Builtin.Slice.sliceApplied Builtin.Slice.sliceFields
  refine wpAny_bind (wpAny_bind (wpAny_field hos hds (x := vl) rfl (wpAny_bind (wpAny_field hos hds (x := vu) rfl (wpAny_bind (wpAny_field hos hds (x := vs) rfl (wpAny_pure ?_)))))))
  refine wpAny_bind (HT.slicePart_ ps ?_)
  show wpAny _ _ (if ((-1 : Int) == 0) = true then _ else _) _ _ s
  rw [if_neg (by decide)]
  refine wpAny_bind (HT.slicePart_ pl (wpAny_bind (HT.slicePart_ pu (wpAny_bind (wpAny_pure ?_)))))
  show wpAny _ _ (pure ((n : Int) - 1, (-1 : Int), Builtin.Slice.slicePlaces ((n : Int) - 1) (-1) (-1))) _ _ s
  rw [places_rev]
  exact wpAny_pure h
theorem pick_rev (xs : Array Value) : ((List.range xs.size).filterMap fun (m : Nat) => xs[((xs.size : Int) - 1 + (m : Int) * -1).toNat]?).toArray = xs.toList.reverse.toArray := by
  have e : (List.range xs.size).filterMap (fun (m : Nat) => xs[((xs.size : Int) - 1 + (m : Int) * -1).toNat]?) = ((List.range xs.size).map (fun k => xs.size - 1 - k)).filterMap (xs[·]?) := by
    rw [List.filterMap_map]
    congr 1
    funext m
    have : ((xs.size : Int) - 1 + (m : Int) * -1).toNat = xs.size - 1 - m := by omega
    show xs[((xs.size : Int) - 1 + (m : Int) * -1).toNat]? = xs[xs.size - 1 - m]?
    rw [this]
  rw [e, PySem.W.krv_range, List.filterMap_reverse, PySem.W.krv_all]
theorem getItem_tuple_rev {t sl : Addr} {items : Array Value} {vl vu vs : Value} {Q : Value → Shared → Prop} (ht : IsTup s.heap t items) (hs : s.heap.IsSliceOf sl vl vu vs) (pl : IsPart vl none) (pu : IsPart vu none) (ps : IsPart vs (some (-1)))
    (h : Q (.ref s.heap.objs.size) { s with heap := s.heap.push { cls := .type "tuple", data := .seq items.toList.reverse.toArray } })
    (hsz : items.size ≤ sizeLine) : wpAny (model prog w) A (getItem (.ref t) (.ref sl)) Q E s := by
  have htake : sizeOk (.seq items.toList.reverse.toArray) := by
    show items.toList.reverse.toArray.size ≤ sizeLine
    rw [List.size_toArray, List.length_reverse, Array.length_toList]
    exact hsz
  obtain ⟨os, hos, hcs, hds⟩ := id hs
  have hTs : s.TypeIs (.ref sl) "slice" := ⟨os, hos, hcs⟩
  unfold getItem
  try with_reducible refine wpAny_holding ?_
  first | refine wpAny_bind (wpAny_pure ?_) | skip
  refine wpAny_bind (wpAny_sequenceKey ht.typeIs (by decide) ?_)
  refine wpAny_bind (wpAny_callSpecial?_slot (name := Str.ofString "__getitem__") ht.typeIs PyProof.Rows.slot_tuple_getitem
    (wpAny_call_entry PyProof.Rows.slot_tuple_getitem ht.typeIs entry_tuple_getitem ?_ (args_tuple_getitem _ _)))
  show wpAny _ _ (Builtin.Tuple.tupleItemsOf (.ref t) >>= _) _ _ s
  refine wpAny_bind (tupleItemsOf_ ht ?_)
  refine wpAny_bind (wpAny_typeOf hTs ?_)
  rw [if_pos (by decide)]
  refine wpAny_bind (sliceApplied_rev hs pl pu ps ?_)
  have hno : ¬ ((((items.size : Int) - 1) == 0 && (-1 : Int) == 1 && items.size == items.size) = true) := by
    intro q
    rw [Bool.and_eq_true, Bool.and_eq_true] at q
    have q1 : (-1 : Int) = 1 := eq_of_beq q.1.2
    exact absurd q1 (by decide)
  show wpAny _ _ (if (((items.size : Int) - 1) == 0 && (-1 : Int) == 1 && items.size == items.size) = true then _ else _) _ _ s
  rw [if_neg hno, pick_rev]
  first
    | exact wpAny_bind (m := Builtin.Tuple.tupleExact _) (wpAny_newObj_type (wpAny_pure ⟨_, rfl, wpAny_pure h⟩) htake)
    | exact wpAny_bind (m := Builtin.Tuple.tupleExact _) (wpAny_newObj_type (wpAny_bind (wpAny_pure (wpAny_pure ⟨_, rfl, wpAny_pure h⟩))) htake)
    | exact wpAny_bind (wpAny_bind (m := Builtin.Tuple.tupleExact _) (wpAny_newObj_type (wpAny_pure (wpAny_pure ⟨_, rfl, wpAny_pure h⟩)) htake))
    | exact wpAny_bind (wpAny_bind (m := Builtin.Tuple.tupleExact _) (wpAny_newObj_type (wpAny_pure ⟨_, rfl, wpAny_pure h⟩) htake))
end
def tRev2 (K : PySem.W.Frag) (te : TE) : TE := fun σ H Q => te σ H fun x H1 => ∃ a xs, x = .ref a ∧ ((SqL K H1 a xs ∧ ∀ p, H1 p = none → Q (.ref p) (upd H1 p (.lst xs.reverse))) ∨ (SqT K H1 a xs ∧ ∀ p, H1 p = none → Q (.ref p) (upd H1 p (.tup xs.reverse))))
theorem pe_rev2 {X : Cx} {e : Expr} {te : TE} {k : Nat} {p1 p2 p3 pos : Pos} (he : PE X e te) : PE X (.Subscript e (.Slice none none (some (.UnaryOp .USub (.Constant (.int 1) k p1) p2)) p3) pos) (tRev2 X.K te) := by
  refine ⟨fun pins s σ H Q I h => ?_⟩
  refine Subscript_ (thn (he.run pins s σ H _ I h) fun v s1 ⟨x, H1, I1, r1, q1⟩ => ?_)
  obtain ⟨a, xs, ex, q⟩ := q1
  subst ex
  cases r1
  have hst : PO X (some (.UnaryOp .USub (.Constant (.int 1) k p1) p2)) (tPart (tUn (rU fun i => .int (-i)) (tC (.int 1)))) := po_some (pe_un un_neg pe_int)
  refine wpAny_Slice (thn (po_none.run pins s1 σ H1 (fun o H2 => o = none ∧ H2 = H1) I1 ⟨rfl, rfl⟩) fun vl s2 ⟨l, H2, I2, pl, el, e2⟩ => ?_)
  subst el e2
  refine thn (po_none.run pins s2 σ H2 (fun o H3 => o = none ∧ H3 = H2) I2 ⟨rfl, rfl⟩) fun vu s3 ⟨u, H3, I3, pu, eu, e3⟩ => ?_
  subst eu e3
  refine thn (hst.run pins s3 σ H3 (fun o H4 => o = some (-1) ∧ H4 = H3) I3 ⟨1, rfl, -1, rfl, rfl, rfl⟩) fun vs s4 ⟨o, H4, I4, ps, eo, e4⟩ => ?_
  subst eo e4
  have I5 : Inv X pins σ H4 { s4 with heap := s4.heap.push { cls := .type "slice", data := .fields #[vl, vu, vs] } } := I4.kept (t' := s4.toks) fun b ob q => Heap.get?_push_of_some _ q
  show wpAny (model X.prog X.w) X.A (subscriptTail e (.Slice none none (some (.UnaryOp .USub (.Constant (.int 1) k p1) p2)) p3) (.ref a) (.ref s4.heap.objs.size)) (EP X pins σ Q) X.xe { s4 with heap := s4.heap.push { cls := .type "slice", data := .fields #[vl, vu, vs] } }
  rcases q with ⟨hx, q⟩ | ⟨hx, q⟩
  · obtain ⟨its, r, ht, hz⟩ := I5.list hx
    have hlen := r.length
    refine tail_any (ops := [.ref a, .ref s4.heap.objs.size]) ht.isList.typeIs (PySem.slot_list_getitem.lookup) ?_ (by with_unfolding_all rfl)
    refine wpAny_getItem_list_slice ht.isList (Heap.IsSliceOf.new _ vl vu vs) pl pu ps (by decide) ?_ (by rw [List.size_toArray]; omega)
    rw [PySem.W.krv_pick]
    refine ⟨.ref _, _, I5.laid (t' := s4.toks) (o := .lst xs.reverse) (fun b ob q => Heap.get?_push_of_some _ q) (Nat.le_refl _) ?_, rfl, q _ (I5.hok.fresh (Nat.le_refl _))⟩
    exact ⟨by rw [List.length_reverse]; exact hz, _, 0, r.reverse, Heap.get?_push_size _ rfl⟩
  · obtain ⟨its, r, ht, hz⟩ := I5.tuple hx
    have hlen := r.length
    refine tail_any (ops := [.ref a, .ref s4.heap.objs.size]) ht.typeIs (PyProof.Rows.slot_tuple_getitem.lookup) ?_ (by with_unfolding_all rfl)
    refine getItem_tuple_rev ht (Heap.IsSliceOf.new _ vl vu vs) pl pu ps ?_ (by rw [List.size_toArray]; omega)
    refine ⟨.ref _, _, I5.laid (t' := s4.toks) (o := .tup xs.reverse) (fun b ob q => Heap.get?_push_of_some _ q) (Nat.le_refl _) ?_, rfl, q _ (I5.hok.fresh (Nat.le_refl _))⟩
    exact ⟨by rw [List.length_reverse]; exact hz, _, r.reverse, IsTup.new _ _⟩
def fRev (x : Val) (S : Store) : R Val := match rd S x with
  | some (.lst ds) => .ok (.d (.lst ds.reverse)) S
  | some (.tup ds) => .ok (.d (.tup ds.reverse)) S
  | _ => .bad
/-- sorted(..) of whole numbers -/
def fSorted (x : Val) (S : Store) : R Val := match rd S x with
  | some (.lst ds) => match asInts ds with | some ns => .ok (.d (.lst ((ns.mergeSort (fun a b => decide (a ≤ b))).map .int))) S | none => .bad
  | some (.tup ds) => match asInts ds with | some ns => .ok (.d (.lst ((ns.mergeSort (fun a b => decide (a ≤ b))).map .int))) S | none => .bad
  | _ => .bad
theorem sorted_one {ns ms : List Int} (hp : ms.Perm ns) (hs : ms.Pairwise (· ≤ ·)) : ms = ns.mergeSort (fun a b => decide (a ≤ b)) := by
  have h1 : (ns.mergeSort (fun a b => decide (a ≤ b))).Pairwise (fun a b => decide (a ≤ b) = true) := List.pairwise_mergeSort (by intro a b c h1 h2; simp only [decide_eq_true_eq] at *; omega) (by intro a b; simp only [Bool.or_eq_true, decide_eq_true_eq]; omega) ns
  have h2 : ms.Pairwise (fun a b => decide (a ≤ b) = true) := hs.imp fun h => decide_eq_true h
  have hpp : ms.Perm (ns.mergeSort (fun a b => decide (a ≤ b))) := hp.trans (List.mergeSort_perm ns _).symm
  refine List.Perm.eq_of_pairwise ?_ h2 h1 hpp
  intro a b _ _ h3 h4
  simp only [decide_eq_true_eq] at h3 h4
  omega
def rSorted2 (K : PySem.W.Frag) : List V → Hp → VK → Prop := fun vs H Q => ∃ (a : Addr) (ns : List Int), vs = [V.ref a] ∧ (SqL K H a (ns.map V.int) ∨ SqT K H a (ns.map V.int)) ∧
  ∀ (p : Addr), H p = none → Q (.ref p) (upd H p (.lst ((ns.mergeSort (fun a b => decide (a ≤ b))).map V.int)))
theorem cr_sorted2 {X : Cx} : CallR X (.builtin "sorted") (rSorted2 X.K) := by
  intro pins s σ H vs us Q I r h
  obtain ⟨a, ns, rfl, hs, q⟩ := h
  rcases hs with hs | hs
  · refine cr_sortedI pins s σ H _ us Q I r ⟨a, ns, rfl, hs, fun ns' p h1 h2 hp => ?_⟩
    rw [sorted_one h1 h2]
    exact q p hp
  · obtain ⟨its, rv, hl, hz⟩ := I.tuple hs
    rw [Vals.ref1 r]
    have hi := rv.ints
    refine sorted_ordT SrtO.swo_int hl (by rw [← rv.length]; exact hz) (fun h2 h₁ a' _ _ => SrtO.ints_sortable hi h2) fun out h1 h2 => ?_
    obtain ⟨k1, k2, k3⟩ := SrtO.ints_out hi h1 h2
    obtain ⟨ep, he'⟩ := PyProof.Rows.sortedAll_at s.heap its out.toArray
    have hlen : ((out.map SrtO.iv).map V.int).length ≤ sizeLine := by
      rw [List.length_map, k2.length_eq]
      rw [List.length_map] at hz
      exact hz
    refine ⟨.ref _, upd H (s.heap.objs.size + 1) (.lst ((out.map SrtO.iv).map V.int)), I.laid (t' := s.toks) (fun _ _ => PyProof.Rows.sortedAll_old) (Nat.le_succ _) ⟨hlen, out, ep, vals_of_ints k1, he'⟩, rfl, ?_⟩
    rw [sorted_one k2 k3]
    exact q _ (I.hok.fresh (Nat.le_succ _))
section
variable {X : Cx} {g : Gx} {W : WX} {a b c tg : Expr} {ea eb ec : Ev} {pos p p2 p3 p1 : Pos} {k : Nat}
theorem p_rev (hK : g.K = X.K) (ha : PE X a (tE g W ea)) : PE X (.Subscript a (.Slice none none (some (.UnaryOp .USub (.Constant (.int 1) k p1) p2)) p3) pos) (tE g W (eUn fRev ea)) :=
  (pe_rev2 ha).imp fun σ H Q ⟨w, Γ, S, st, en, h⟩ => tX_seq st en h fun u H1 y S1 w1 s1 st1 en1 r1 q => by
    rw [← hK]
    unfold fRev at q
    split at q
    · rename_i ds e
      obtain ⟨a, vs, rfl, h1, l⟩ := rd_lst st1 r1 e
      exact ⟨a, vs, rfl, .inl ⟨.inl (.inl h1), fun p hp => RQ.newQ q st1 hp (rep_lst st1 hp l.reverse)⟩⟩
    · rename_i ds e
      obtain ⟨a, vs, rfl, h1, l⟩ := rd_tup r1 e
      exact ⟨a, vs, rfl, .inr ⟨h1.sq, fun p hp => RQ.newQ q st1 hp (rep_tup st1 hp l.reverse)⟩⟩
    · exact q.elim
theorem c1_sorted : OpC1 g (rSorted2 g.K) fSorted := fun W w S H σ x u Q st r1 q => by
  unfold fSorted at q
  split at q
  · rename_i ds e
    split at q
    · rename_i ns en
      obtain ⟨a, vs, rfl, h1, l⟩ := rd_lst st r1 e
      rw [asInts_eq en] at l
      have ev := l.ints
      subst ev
      exact ⟨a, ns, rfl, .inl (.inl (.inl h1)), fun p hp => RQ.newQ q st hp (rep_lst st hp RepL.ofInts)⟩
    · exact q.elim
  · rename_i ds e
    split at q
    · rename_i ns en
      obtain ⟨a, vs, rfl, h1, l⟩ := rd_tup r1 e
      rw [asInts_eq en] at l
      have ev := l.ints
      subst ev
      exact ⟨a, ns, rfl, .inr h1.sq, fun p hp => RQ.newQ q st hp (rep_lst st hp RepL.ofInts)⟩
    · exact q.elim
  · exact q.elim
theorem p_sorted (hK : g.K = X.K) (hg : Gl X "sorted") (hm : X.mg "sorted" = none) (ha : PE X a (tE g W ea)) (he : starEach [a] X.env = (false, eval a X.env) :: starEach [] X.env := by rfl) (hpl : (backTo pos (starEach [] X.env)).any (·.1) = false := by rfl) :
    PE X (.Call (.Name "sorted" p) [a] [] pos) (tE g W (eUn fSorted ea)) := p_call1 (id := "sorted") cr_sorted2 (by rw [← hK]; exact c1_sorted) hg hm (by decide +kernel) ha (by decide) (by decide) he hpl

/-! ### operators in short -/
variable {j : Nat}
theorem p_add (hK : g.K = X.K) (ha : PE X a (tE g W ea)) (hb : PE X b (tE g W eb)) : PE X (.BinOp a .Add b pos) (tE g W (eBin fAdd ea eb)) := p_bin op_add4 (by rw [← hK]; exact o2_add) ha hb
theorem p_sub (ha : PE X a (tE g W ea)) (hb : PE X b (tE g W eb)) : PE X (.BinOp a .Sub b pos) (tE g W (eBin fSub ea eb)) := p_bin op_sub o2_sub ha hb
theorem p_mul (hK : g.K = X.K) (ha : PE X a (tE g W ea)) (hb : PE X b (tE g W eb)) : PE X (.BinOp a .Mult b pos) (tE g W (eBin fMul ea eb)) := p_bin op_mul3 (by rw [← hK]; exact o2_mul) ha hb
theorem p_div (ha : PE X a (tE g W ea)) (hb : PE X b (tE g W eb)) : PE X (.BinOp a .FloorDiv b pos) (tE g W (eBin fDiv ea eb)) := p_bin op_fdivW o2_div ha hb
theorem p_mod (ha : PE X a (tE g W ea)) (hb : PE X b (tE g W eb)) : PE X (.BinOp a .Mod b pos) (tE g W (eBin fMod ea eb)) := p_bin op_mod o2_mod ha hb
theorem p_pow (ha : PE X a (tE g W ea)) (hb : PE X b (tE g W eb)) : PE X (.BinOp a .Pow b pos) (tE g W (eBin fPow ea eb)) := p_bin op_powW o2_pow ha hb
theorem p_neg (ha : PE X a (tE g W ea)) : PE X (.UnaryOp .USub a pos) (tE g W (eUn fNeg ea)) := p_un un_neg o1_neg ha
theorem p_lt (ha : PE X a (tE g W ea)) (hb : PE X b (tE g W eb)) : PE X (.Compare a [.Lt] [b] pos) (tE g W (eBin fLt ea eb)) := p_cmp op_lt o2_lt ha hb
theorem p_le (ha : PE X a (tE g W ea)) (hb : PE X b (tE g W eb)) : PE X (.Compare a [.LtE] [b] pos) (tE g W (eBin fLe ea eb)) := p_cmp op_le o2_le ha hb
theorem p_gt (ha : PE X a (tE g W ea)) (hb : PE X b (tE g W eb)) : PE X (.Compare a [.Gt] [b] pos) (tE g W (eBin fGt ea eb)) := p_cmp op_gt o2_gt ha hb
theorem p_ge (ha : PE X a (tE g W ea)) (hb : PE X b (tE g W eb)) : PE X (.Compare a [.GtE] [b] pos) (tE g W (eBin fGe ea eb)) := p_cmp op_ge o2_ge ha hb
theorem p_eq (hK : g.K = X.K) (hr : Room j X.A) (ha : PE X a (tE g W ea)) (hb : PE X b (tE g W eb)) : PE X (.Compare a [.Eq] [b] pos) (tE g W (eBin fEq ea eb)) := p_cmp (op_eqD hr.units) (by rw [← hK]; exact o2_eq) ha hb
theorem p_ne (hK : g.K = X.K) (hr : Room j X.A) (ha : PE X a (tE g W ea)) (hb : PE X b (tE g W eb)) : PE X (.Compare a [.NotEq] [b] pos) (tE g W (eBin fNe ea eb)) := p_cmp (op_neD hr.units) (by rw [← hK]; exact o2_ne) ha hb
theorem t_lt (ha : PE X a (tE g W ea)) (hb : PE X b (tE g W eb)) : PT X (.Compare a [.Lt] [b] pos) (tT g W (eTest (eBin fLt ea eb))) := pt_cmp' op_lt o2_lt ha hb
theorem t_le (ha : PE X a (tE g W ea)) (hb : PE X b (tE g W eb)) : PT X (.Compare a [.LtE] [b] pos) (tT g W (eTest (eBin fLe ea eb))) := pt_cmp' op_le o2_le ha hb
theorem t_gt (ha : PE X a (tE g W ea)) (hb : PE X b (tE g W eb)) : PT X (.Compare a [.Gt] [b] pos) (tT g W (eTest (eBin fGt ea eb))) := pt_cmp' op_gt o2_gt ha hb
theorem t_ge (ha : PE X a (tE g W ea)) (hb : PE X b (tE g W eb)) : PT X (.Compare a [.GtE] [b] pos) (tT g W (eTest (eBin fGe ea eb))) := pt_cmp' op_ge o2_ge ha hb
theorem t_eq (hK : g.K = X.K) (hr : Room j X.A) (ha : PE X a (tE g W ea)) (hb : PE X b (tE g W eb)) : PT X (.Compare a [.Eq] [b] pos) (tT g W (eTest (eBin fEq ea eb))) := pt_cmp' (op_eqD hr.units) (by rw [← hK]; exact o2_eq) ha hb
theorem t_ne (hK : g.K = X.K) (hr : Room j X.A) (ha : PE X a (tE g W ea)) (hb : PE X b (tE g W eb)) : PT X (.Compare a [.NotEq] [b] pos) (tT g W (eTest (eBin fNe ea eb))) := pt_cmp' (op_neD hr.units) (by rw [← hK]; exact o2_ne) ha hb
theorem p_chLeLe (ha : PE X a (tE g W ea)) (hb : PE X b (tE g W eb)) (hc : PE X c (tE g W ec)) (hm : lastMarks [.LtE, .LtE] [b, c] = false := by with_unfolding_all rfl) : PE X (.Compare a [.LtE, .LtE] [b, c] pos) (tE g W (eChain fLe fLe ea eb ec)) := p_chain op_le o2_le op_le o2_le ha hb hc hm
theorem p_chLeLt (ha : PE X a (tE g W ea)) (hb : PE X b (tE g W eb)) (hc : PE X c (tE g W ec)) (hm : lastMarks [.LtE, .Lt] [b, c] = false := by with_unfolding_all rfl) : PE X (.Compare a [.LtE, .Lt] [b, c] pos) (tE g W (eChain fLe fLt ea eb ec)) := p_chain op_le o2_le op_lt o2_lt ha hb hc hm
theorem p_chLtLe (ha : PE X a (tE g W ea)) (hb : PE X b (tE g W eb)) (hc : PE X c (tE g W ec)) (hm : lastMarks [.Lt, .LtE] [b, c] = false := by with_unfolding_all rfl) : PE X (.Compare a [.Lt, .LtE] [b, c] pos) (tE g W (eChain fLt fLe ea eb ec)) := p_chain op_lt o2_lt op_le o2_le ha hb hc hm
theorem t_chLeLe (ha : PE X a (tE g W ea)) (hb : PE X b (tE g W eb)) (hc : PE X c (tE g W ec)) (hm : lastMarks [.LtE, .LtE] [b, c] = false := by with_unfolding_all rfl) : PT X (.Compare a [.LtE, .LtE] [b, c] pos) (tT g W (eTest (eChain fLe fLe ea eb ec))) := pt_chain' op_le o2_le op_le o2_le ha hb hc hm
theorem t_chLeLt (ha : PE X a (tE g W ea)) (hb : PE X b (tE g W eb)) (hc : PE X c (tE g W ec)) (hm : lastMarks [.LtE, .Lt] [b, c] = false := by with_unfolding_all rfl) : PT X (.Compare a [.LtE, .Lt] [b, c] pos) (tT g W (eTest (eChain fLe fLt ea eb ec))) := pt_chain' op_le o2_le op_lt o2_lt ha hb hc hm
theorem t_chLtLe (ha : PE X a (tE g W ea)) (hb : PE X b (tE g W eb)) (hc : PE X c (tE g W ec)) (hm : lastMarks [.Lt, .LtE] [b, c] = false := by with_unfolding_all rfl) : PT X (.Compare a [.Lt, .LtE] [b, c] pos) (tT g W (eTest (eChain fLt fLe ea eb ec))) := pt_chain' op_lt o2_lt op_le o2_le ha hb hc hm
theorem p_isN {j : Nat} {p' : Pos} (ha : PE X a (tE g W ea)) : PE X (.Compare a [.Is] [.Constant .none j p'] pos) (tE g W (eBin fIsN ea (eC .non))) := p_cmp op_isN o2_isN ha p_non
theorem t_isN {j : Nat} {p' : Pos} (ha : PE X a (tE g W ea)) : PT X (.Compare a [.Is] [.Constant .none j p'] pos) (tT g W (eTest (eBin fIsN ea (eC .non)))) := pt_cmp' op_isN o2_isN ha p_non
theorem p_notN {j : Nat} {p' : Pos} (ha : PE X a (tE g W ea)) : PE X (.Compare a [.IsNot] [.Constant .none j p'] pos) (tE g W (eBin fNotN ea (eC .non))) := p_cmp op_notN o2_notN ha p_non
theorem t_notN {j : Nat} {p' : Pos} (ha : PE X a (tE g W ea)) : PT X (.Compare a [.IsNot] [.Constant .none j p'] pos) (tT g W (eTest (eBin fNotN ea (eC .non)))) := pt_cmp' op_notN o2_notN ha p_non
theorem p_globE {x : Str} {i : Int} (hg : Gl X x) (hm : ∃ t, X.mg x = some (.int i t)) (hd : (x == ("__debug__" : Str)) = false := by decide) : PE X (.Name x pos) (tE g W (eC (.int i))) := let ⟨_, h⟩ := hm; p_globI hg h hd
end
/-! ### repr of plain values -/
@[irreducible] def reprOk (i : Int) : Bool := decide (i.natAbs < 2 ^ 1919)
def fRepr : Val → Store → R Val
  | .d .non, S => .ok (.d (.str "None")) S
  | .d (.bl b), S => .ok (.d (.str (if b then "True" else "False"))) S
  | .d (.int i), S => if reprOk i = true then .ok (.d (.str (toString i))) S else .bad
  | .d (.str x), S => if (reprText x).length ≤ cap then .ok (.d (.str (reprText x))) S else .bad
  | _, _ => .bad
def rRepr : List V → Hp → VK → Prop := fun xs H Q => (xs = [.non] ∧ Q (.str "None") H) ∨ (∃ b, xs = [.bl b] ∧ Q (.str (if b then "True" else "False")) H) ∨ (∃ i, xs = [.int i] ∧ i.natAbs.log2 < 1920 ∧ Q (.str (toString i)) H) ∨ (∃ x, xs = [.str x] ∧ (reprText x).length ≤ sizeLine ∧ Q (.str (reprText x)) H)
theorem cr_repr {X : Cx} : CallR X (.builtin "repr") rRepr := by
  intro pins s σ H xs us Q I r h
  rcases h with ⟨rfl, q⟩ | ⟨b, rfl, q⟩ | ⟨i, rfl, hz, q⟩ | ⟨x, rfl, hz, q⟩
  · obtain ⟨u, rfl, r1⟩ := r.one
    have e : u = Value.none := r1
    subst e
    refine PySem.P.repr_of_none ?_
    exact ⟨.str _, H, I.tok _, ⟨_, rfl⟩, q⟩
  · obtain ⟨u, rfl, r1⟩ := r.one
    have e : u = Value.bool b := r1
    subst e
    refine PySem.P.repr_of_bool ?_
    exact ⟨.str _, H, I.tok _, ⟨_, rfl⟩, q⟩
  · obtain ⟨u, rfl, t, rfl⟩ := r.one
    exact PySem.P.repr_of_int hz ⟨.str _, H, I.tok _, ⟨_, rfl⟩, q⟩
  · obtain ⟨u, rfl, t, rfl⟩ := r.one
    exact PySem.P.repr_of_str ⟨.str _, H, I.tok _, ⟨_, rfl⟩, q⟩ hz
theorem c1_repr {g : Gx} : OpC1 g rRepr fRepr := fun W w S H σ x u Q st r1 q => by
  unfold fRepr at q
  split at q
  · cases r1
    exact .inl ⟨rfl, RQ.okQ q st (.str _)⟩
  · cases r1
    exact .inr (.inl ⟨_, rfl, RQ.okQ q st (.str _)⟩)
  · obtain ⟨hz, q⟩ := ite_q q
    cases r1
    refine .inr (.inr (.inl ⟨_, rfl, ?_, RQ.okQ q st (.str _)⟩))
    unfold reprOk at hz
    have h1 := of_decide_eq_true hz
    exact Nat.lt_trans (PySem.Flt.log2_lt_of (show 0 < 1919 by omega) h1) (by omega)
  · obtain ⟨hz, q⟩ := ite_q q
    cases r1
    exact .inr (.inr (.inr ⟨_, rfl, cap_le hz, RQ.okQ q st (.str _)⟩))
  · exact q.elim
theorem p_repr {X : Cx} {g : Gx} {W : WX} {a : Expr} {ea : Ev} {pos p : Pos} (hg : Gl X "repr") (hm : X.mg "repr" = none) (ha : PE X a (tE g W ea)) (he : starEach [a] X.env = (false, eval a X.env) :: starEach [] X.env := by rfl) (hpl : (backTo pos (starEach [] X.env)).any (·.1) = false := by rfl) :
    PE X (.Call (.Name "repr" p) [a] [] pos) (tE g W (eUn fRepr ea)) := p_call1 (id := "repr") cr_repr c1_repr hg hm (by decide +kernel) ha (by decide) (by decide) he hpl
/-- where a def of the text stands -/
def FunAt (K : PySem.W.Frag) (mg : Str → Option Value) (x qual : Str) (st : Stmt) (ps : List Str) : Prop := ∃ (f : Addr) (fd : FuncData), Fun K x qual st f fd ∧ mg x = some (.ref f) ∧ Binds K fd ps []
theorem fn_at {P : Program} {w : World} {K : PySem.W.Frag} {mg : Str → Option Value} {base : Heap} {g : Gx} {x qual : Str} {st : Stmt} {N ps : List Str} {k extra : Nat} (Nn : Bool) (body : Nat → Sv) (F : FunAt K mg x qual st ps) (SC : FnScope N ps (defScope st)) (hx : N.length = ps.length + extra)
    (hbody : ∀ (f : Addr) (cdv : Value) (A : Around) (outer : List PySem.Env) (s : Shared) (H : Hp) (E : XK), Room k (A.deeper (envOfC qual (defScope st) s.heap.objs.size f cdv)) → ∀ w0 : Wd,
      PSs (cxOf (L2.CX P w) P w K mg base N qual (defScope st) f cdv A outer s H E) (defBody st) (tS ⟨g, fun c d _ H' => E c d H', w0, H, Nn⟩ (body w0.m.length))) : Fn P w K mg base g (k + 1) x ps (funD extra body) Nn := by
  obtain ⟨f, fd, F, hm, hb⟩ := F
  exact ⟨f, fd, fn_mkX Nn body F SC hm hb hx (hbody f)⟩
theorem s_for' {X : Cx} {cf : Cf} {sa : Sv} {pos : Pos} {tg iter : Expr} {it : Env → Store → R (List D)} {sl : List Nat} {t : Tg} {body : List Stmt} (hp : PassesOwn (model X.prog X.w) X.A X.env X.xe) (hcalm : X.calm = true) (hi : PI X tg iter (tI cf.g cf.W it)) (hg : PG X tg (tG cf.g sl t)) (hb : PSs X body (tS cf sa))
    (hs : ∀ x, foldedSetIterable iter X.env x = pure x := by intro _; rfl) : PS X (.For tg iter body [] pos) (tS cf (sFor it t sa)) := s_for hp hcalm hi hg hb fun hi hg hb => ps_for hp hcalm hi hg hb hs
def fuel : Nat := 100000
end Pd

namespace Pd
open PySem PySem.Spec PyProof.Rows L2
/-! ### is, is not, of truth values -/
def fIsB : Val → Val → Store → R Val
  | .d (.bl a), .d (.bl b), S => .ok (.d (.bl (decide (a = b)))) S
  | _, _, _ => .bad
def fNotB : Val → Val → Store → R Val
  | .d (.bl a), .d (.bl b), S => .ok (.d (.bl (!decide (a = b)))) S
  | _, _, _ => .bad
section
variable {X : Cx} {g : Gx} {W : WX} {a b c : Expr} {ea eb ec : Ev} {pos p p2 : Pos} {j : Nat}
theorem o2_isB : Op2 g rIsB fIsB := fun W w S H σ x y u v Q st r1 r2 q => by
  unfold fIsB at q
  split at q
  · rename_i a b
    cases r1; cases r2
    exact ⟨a, b, rfl, rfl, RQ.okQ q st (.bl _)⟩
  · exact q.elim
theorem o2_notB : Op2 g rNotB fNotB := fun W w S H σ x y u v Q st r1 r2 q => by
  unfold fNotB at q
  split at q
  · rename_i a b
    cases r1; cases r2
    exact ⟨a, b, rfl, rfl, RQ.okQ q st (.bl _)⟩
  · exact q.elim
theorem p_isB (ha : PE X a (tE g W ea)) (hb : PE X b (tE g W eb)) (hm : behindInMarks .Is b = false := by first | exact nobehind _ (by decide) (by decide) | rfl) : PE X (.Compare a [.Is] [b] pos) (tE g W (eBin fIsB ea eb)) := p_cmp op_isBl o2_isB ha hb hm
theorem p_notB (ha : PE X a (tE g W ea)) (hb : PE X b (tE g W eb)) (hm : behindInMarks .IsNot b = false := by first | exact nobehind _ (by decide) (by decide) | rfl) : PE X (.Compare a [.IsNot] [b] pos) (tE g W (eBin fNotB ea eb)) := p_cmp op_notBl o2_notB ha hb hm
theorem t_isB (ha : PE X a (tE g W ea)) (hb : PE X b (tE g W eb)) (hm : behindInMarks .Is b = false := by first | exact nobehind _ (by decide) (by decide) | rfl) : PT X (.Compare a [.Is] [b] pos) (tT g W (eTest (eBin fIsB ea eb))) := pt_cmp' op_isBl o2_isB ha hb hm
theorem t_notB (ha : PE X a (tE g W ea)) (hb : PE X b (tE g W eb)) (hm : behindInMarks .IsNot b = false := by first | exact nobehind _ (by decide) (by decide) | rfl) : PT X (.Compare a [.IsNot] [b] pos) (tT g W (eTest (eBin fNotB ea eb))) := pt_cmp' op_notBl o2_notB ha hb hm
/-! ### max, min of three -/
def maxI (i j : Int) : Int := if j > i then j else i
def minI (i j : Int) : Int := if j < i then j else i
def fMax3 : List Val → Store → R Val
  | [.d (.int i), .d (.int j), .d (.int k)], S => .ok (.d (.int (maxI (maxI i j) k))) S
  | _, _ => .bad
def fMin3 : List Val → Store → R Val
  | [.d (.int i), .d (.int j), .d (.int k)], S => .ok (.d (.int (minI (minI i j) k))) S
  | _, _ => .bad
def OpCA (g : Gx) (r : List V → Hp → VK → Prop) (f : List Val → Store → R Val) : Prop := ∀ (W : WX) (w : Wd) (S : Store) (H : Hp) (σ : L2.St) (xs : List Val) (us : List V) (Q : VK), StOk g w S H → RepVs g w H xs us → RQ g W (RepV g) w σ H (f xs S) Q → r us H Q
theorem p_callA {f : List Val → Store → R Val} {r : List V → Hp → VK → Prop} {id : String} {x : Str} {e : Expr} {es : List Expr} {er : Env → Store → R (List Val)} (hc : CallR X (.builtin id) r) (hf : OpCA g r f) (hg : Gl X x) (hm : X.mg x = none) (hv : bootBuiltins x = some (.builtin id)) (ha : PA X (e :: es) (tA g W er)) (hn : x ≠ "__name__" := by decide) (hdb : (x == ("__debug__" : Str)) = false := by decide)
    (he : starEach (e :: es) X.env = (false, eval e X.env) :: starEach es X.env := by rfl) (hpl : (backTo pos (starEach es X.env)).any (·.1) = false := by rfl) : PE X (.Call (.Name x p) (e :: es) [] pos) (tE g W (eCall f er)) :=
  (pe_callB hc hg hm hv ha hn hdb he hpl).imp fun σ H Q ⟨w, Γ, S, st, en, h⟩ => tX_seq st en h fun us H1 xs S1 w1 s1 st1 en1 r1 h1 => hf W w1 S1 H1 σ xs us Q st1 r1 h1
theorem max2_int (i j : Int) : nuMax2 (.int i) (.int j) = some (.int (maxI i j)) := by
  show some (if decide (i < j) = true then V.int j else V.int i) = _
  unfold maxI
  by_cases h : i < j
  · rw [if_pos (decide_eq_true h), if_pos h]
  · rw [if_neg (by simpa using h), if_neg h]
theorem min2_int (i j : Int) : nuMin2 (.int i) (.int j) = some (.int (minI i j)) := by
  show some (if decide (j < i) = true then V.int j else V.int i) = _
  unfold minI
  by_cases h : j < i
  · rw [if_pos (decide_eq_true h), if_pos h]
  · rw [if_neg (by simpa using h), if_neg h]
theorem ca_max3 : OpCA g (rNuC3 nuMax3) fMax3 := fun W w S H σ xs us Q st r q => by
  unfold fMax3 at q
  split at q
  · rename_i i j k
    cases r with
    | cons r1 r => cases r with
      | cons r2 r => cases r with
        | cons r3 r =>
          cases r; cases r1; cases r2; cases r3
          refine ⟨.int i, .int j, .int k, .int (maxI (maxI i j) k), rfl, ?_, RQ.okQ q st (.int _)⟩
          unfold nuMax3
          rw [max2_int, Option.bind_some, max2_int]
  · exact q.elim
theorem ca_min3 : OpCA g (rNuC3 nuMin3) fMin3 := fun W w S H σ xs us Q st r q => by
  unfold fMin3 at q
  split at q
  · rename_i i j k
    cases r with
    | cons r1 r => cases r with
      | cons r2 r => cases r with
        | cons r3 r =>
          cases r; cases r1; cases r2; cases r3
          refine ⟨.int i, .int j, .int k, .int (minI (minI i j) k), rfl, ?_, RQ.okQ q st (.int _)⟩
          unfold nuMin3
          rw [min2_int, Option.bind_some, min2_int]
  · exact q.elim
theorem p_max3 {e : Expr} {es : List Expr} {er : Env → Store → R (List Val)} (hcm : X.calm = true) (hg : Gl X "max") (hm : X.mg "max" = none) (ha : PA X (e :: es) (tA g W er)) (he : starEach (e :: es) X.env = (false, eval e X.env) :: starEach es X.env := by rfl) (hpl : (backTo pos (starEach es X.env)).any (·.1) = false := by rfl) :
    PE X (.Call (.Name "max" p) (e :: es) [] pos) (tE g W (eCall fMax3 er)) := p_callA (id := "max") (call_max3Nu hcm) ca_max3 hg hm (by decide +kernel) ha (by decide) (by decide) he hpl
theorem p_min3 {e : Expr} {es : List Expr} {er : Env → Store → R (List Val)} (hcm : X.calm = true) (hg : Gl X "min") (hm : X.mg "min" = none) (ha : PA X (e :: es) (tA g W er)) (he : starEach (e :: es) X.env = (false, eval e X.env) :: starEach es X.env := by rfl) (hpl : (backTo pos (starEach es X.env)).any (·.1) = false := by rfl) :
    PE X (.Call (.Name "min" p) (e :: es) [] pos) (tE g W (eCall fMin3 er)) := p_callA (id := "min") (call_min3Nu hcm) ca_min3 hg hm (by decide +kernel) ha (by decide) (by decide) he hpl
end
/-! ### def f(star v) -/
def spS (g : Gx) (d : List Val → Store → R Val) : Sp := fun vs H Q E => ∃ w S xs ds, StOk g w S H ∧ RepVs g w H xs vs ∧ clo xs = some ds ∧ ds.length ≤ cap ∧ RQ g (fun c e _ H' => E c e H') (RepV g) w [] H (d [.d (.tup ds)] S) Q
def FnS (P : Program) (w : World) (K : PySem.W.Frag) (mg : Str → Option Value) (base : Heap) (g : Gx) (k : Nat) (x : Str) (d : List Val → Store → R Val) : Prop :=
  ∃ f, mg x = some (.ref f) ∧ PySem.W.keepIn K (.ref f) = true ∧ FnR P w K mg base (L2.CX P w) k f (spS g d)
def FunS (K : PySem.W.Frag) (mg : Str → Option Value) (x qual : Str) (st : Stmt) (pv : Str) : Prop := ∃ (f : Addr) (fd : FuncData), Fun K x qual st f fd ∧ mg x = some (.ref f) ∧
  ∀ us rest : List Value, us.length = ([] : List Str).length → bindArgs fd ⟨us ++ rest, []⟩ = (newTuple rest >>= fun t => pure (([] : List Str).zip us ++ [(pv, t)]))
theorem fn_atS {P : Program} {w : World} {K : PySem.W.Frag} {mg : Str → Option Value} {base : Heap} {g : Gx} {x qual pv : Str} {st : Stmt} {N : List Str} {k extra : Nat} (body : Nat → Sv) (F : FunS K mg x qual st pv) (SC : FnScope N [pv] (defScope st)) (hx : N.length = 1 + extra)
    (hbody : ∀ (f : Addr) (cdv : Value) (A : Around) (outer : List PySem.Env) (s : Shared) (H : Hp) (E : XK), Room k (A.deeper (envOfC qual (defScope st) s.heap.objs.size f cdv)) → ∀ w0 : Wd,
      PSs (cxOf (L2.CX P w) P w K mg base N qual (defScope st) f cdv A outer s H E) (defBody st) (tS ⟨g, fun c d _ H' => E c d H', w0, H, false⟩ (body w0.m.length))) : FnS P w K mg base g (k + 1) x (funD extra body) := by
  obtain ⟨f, fd, F, hm, hb⟩ := F
  refine ⟨f, hm, F.kp, ?_⟩
  obtain ⟨oc, od, kV, doc, pm, an, cdv, ct, osl, rfl, lk, hcd⟩ := F.ex
  refine (StX.fn_star (ps := []) (sp := spD g (funD extra body) 1 false) lk hcd SC StX.cxUp hb fun A outer s H vs Q E hr hsp => body_spD (np := 1) false body hx (hbody f) cdv A outer s H vs Q E hr hsp).imp fun vs H Q E ⟨w1, S, xs, ds, so, r, e, hz, h⟩ => ?_
  have rl := clo_rep r e
  refine ⟨[], vs, rfl, rfl, by rw [← rl.length]; exact cap_le hz, fun p hp => ⟨rfl, w1, S, [.d (.tup ds)], so.new hp, .cons (rep_tup so hp rl) .nil, ?_⟩⟩
  rw [if_neg Bool.false_ne_true]
  exact h.to (step_new so hp)
theorem run_fnT {X : Cx} {k : Nat} {f : Addr} {sp : Sp} {pins : List (Addr × Obj)} {σ : L2.St} {H : Hp} {s : Shared} {Q : VK} {us : List Value} {vs : List V} {E : L2.St → XK} (F : FnR X.prog X.w X.K X.mg X.base (L2.CX X.prog X.w) k f sp) (hr : Room k X.A) (hx : PassesAt (L2.CX X.prog X.w) X σ (E σ))
    (I : Inv X pins σ H s) (r : Vals vs us) (h : sp vs H Q (E σ)) : wpAny (model X.prog X.w) X.A (call (.ref f) us) (EP X pins σ Q) X.xe s := by
  refine wpAny_call (codeAny_mono (F X.A X.stack s H us vs Q (E σ) hr I.env0 r h) fun res s' hq => ?_)
  match res, hq with
  | .error e, hq => exact hx pins H s e s' I hq
  | .ok (.ret u), hq => exact I.after hq
theorem p_callS {X : Cx} {g : Gx} {W : WX} {k j : Nat} {x : Str} {d : List Val → Store → R Val} {e : Expr} {es : List Expr} {er : Env → Store → R (List Val)} {p pos : Pos} (F : FnS X.prog X.w X.K X.mg X.base g k x d) (hr : Room j X.A) (hkj : k ≤ j) (hg : Gl X x) (tk : Takes X W) (ha : PA X (e :: es) (tA g W er))
    (hdb : (x == ("__debug__" : Str)) = false := by decide) (he : starEach (e :: es) X.env = (false, eval e X.env) :: starEach es X.env := by rfl) (hpl : (backTo pos (starEach es X.env)).any (·.1) = false := by rfl) :
    PE X (.Call (.Name x p) (e :: es) [] pos) (tE g W (eCall (fun xs S => (fTup xs S).bind fun t S1 => d [t] S1) er)) := by
  obtain ⟨f, hm, hk, FO⟩ := F
  refine ⟨fun pins s σ H Q I h => ?_⟩
  obtain ⟨w, Γ, S, st, en, h⟩ := h
  refine wpAny_Call_Name_kw (ld_glob I hg hm ?_ hdb)
  refine PySem.W.callWith_K (h₀ := X.base) I.ok.mod.kin hk (thn (ha.run pos pins s σ H (fun vs H1 => spS g d vs H1 Q (WE W σ)) I ?_) fun us s1 ⟨vs, H1, I1, r, q⟩ => ⟨I1.kIn, run_fnT FO (hr.mono hkj) (passAt tk σ) I1 r q⟩) he hpl
  refine tX_seq st en h fun vs H1 xs S1 w1 s1 st1 en1 r1 h1 => ?_
  have h1 : RQ g W (RepV g) w1 σ H1 ((fTup xs S1).bind fun t S1 => d [t] S1) Q := h1
  unfold fTup at h1
  cases ec : clo xs with
  | none => rw [ec] at h1; exact h1.elim
  | some ds =>
    rw [ec] at h1
    by_cases hz : ds.length ≤ cap
    · simp only [if_pos hz, R.bind] at h1
      exact ⟨w1, S1, xs, ds, st1, r1, ec, hz, h1.wish fun _ _ _ z => z⟩
    · simp only [if_neg hz, R.bind] at h1
      exact h1.elim
/-! ### list(range(n)); three names at once -/
def fLR1 : Val → Store → R Val
  | .d (.int n), S => if n ≤ cap ∧ -cap ≤ n then .ok (.d (.lst (upto n.toNat))) S else .bad
  | _, _ => .bad
theorem repL_of {α : Type} {g : Gx} {w : Wd} {H : Hp} (f : α → D) (h : α → V) : ∀ l : List α, (∀ x ∈ l, Rep g w H (f x) (h x)) → RepL g w H (l.map f) (l.map h)
  | [], _ => .nil
  | x :: l, k => .cons (k x List.mem_cons_self) (repL_of f h l fun y hy => k y (List.mem_cons_of_mem _ hy))
section
variable {X : Cx} {g : Gx} {W : WX} {cf : Cf} {a b c : Expr} {ea eb ec : Ev} {pos p p2 pos2 : Pos} {j : Nat}
theorem p_listR1 (hc : X.calm = true) (hg : Gl X "list") (hm : X.mg "list" = none) (hg2 : Gl X "range") (hm2 : X.mg "range" = none) (ha : PE X a (tE g W ea)) (n1 : starEach [a] X.env = (false, eval a X.env) :: starEach [] X.env := by rfl)
    (n2 : starEach [.Call (.Name "range" p2) [a] [] pos2] X.env = (false, eval (.Call (.Name "range" p2) [a] [] pos2) X.env) :: starEach [] X.env := by rfl) :
    PE X (.Call (.Name "list" p) [.Call (.Name "range" p2) [a] [] pos2] [] pos) (tE g W (eUn fLR1 ea)) :=
  (pe_listRg hc hg hm (prg_1 hg2 hm2 ha n1) n2).imp fun σ H Q ⟨w, Γ, S, st, en, h⟩ => tX_seq st en h fun u H1 x S1 w1 s1 st1 en1 r1 h1 => by
    unfold fLR1 at h1
    split at h1
    · rename_i n
      obtain ⟨⟨q1, q2⟩, h1⟩ := ite_q h1
      cases r1
      have hc : ((cap : Nat) : Int) = 1000000 := rfl
      refine ⟨n, rfl, ⟨by omega, by omega, by omega, by omega, by omega⟩, fun q hq => RQ.newQ h1 st1 hq (rep_lst st1 hq ?_)⟩
      have e : rgV 0 n = (List.range n.toNat).map fun i => V.int ((i : Nat) : Int) := by
        unfold rgV
        rw [Int.sub_zero]
        exact List.map_congr_left fun i _ => by rw [Int.zero_add]
      rw [e]
      exact repL_of _ _ _ fun i _ => .int _
    · exact h1.elim
def sPar3 (i j l : Nat) (a b c : Ev) : Sv := fun Γ S => (a Γ S).fl Γ fun x S1 => (b Γ S1).fl Γ fun y S2 => (c Γ S2).fl Γ fun z S3 => .nx (((Γ.set i (some x)).set j (some y)).set l (some z)) S3
theorem s_par3 {i j l : Nat} {x y z : Str} {px py pz pt pt2 : Pos} {kt k2 : Nat} (hc : X.calm = true) (hN : X.N.Nodup) (hi : X.N[i]? = some x) (hj : X.N[j]? = some y) (hl : X.N[l]? = some z) (hij : i ≠ j) (hil : i ≠ l) (hjl : j ≠ l)
    (hx : X.env.scope.names.lookup x = some .local) (hy : X.env.scope.names.lookup y = some .local) (hz : X.env.scope.names.lookup z = some .local) (ha : PE X a (tE cf.g cf.W ea)) (hb : PE X b (tE cf.g cf.W eb)) (hcc : PE X c (tE cf.g cf.W ec))
    (hw : swappedStores [.Tuple [.Name x px, .Name y py, .Name z pz] kt pt] (.Tuple [a, b, c] k2 pt2) X.env = pure (some [x, y, z]))
    (hs : swapsWithSole [.Tuple [.Name x px, .Name y py, .Name z pz] kt pt] (.Tuple [a, b, c] k2 pt2) pos.line X.env = pure false := by rfl)
    (hs1 : starEach [a, b, c] X.env = (false, eval a X.env) :: starEach [b, c] X.env := by rfl) (hs2 : starEach [b, c] X.env = (false, eval b X.env) :: starEach [c] X.env := by rfl) (hs3 : starEach [c] X.env = (false, eval c X.env) :: starEach [] X.env := by rfl) :
    PS X (.Assign [.Tuple [.Name x px, .Name y py, .Name z pz] kt pt] (.Tuple [a, b, c] k2 pt2) pos) (tS cf (sPar3 i j l ea eb ec)) :=
  (ps_par3 hc hN hi hj hl hij hil hjl hx hy hz (pa_cons ha (pa_cons hb (pa_cons hcc pa_nil hs3) hs2) hs1) hw hs).imp fun D σ H ⟨w, Γ, S, so, en, fr, h⟩ =>
    tX_fl so en fr h fun u H1 x S1 w1 s1 st1 en1 fr1 r1 h1 => tX_fl st1 en1 fr1 h1 fun v H2 y S2 w2 s2 st2 en2 fr2 r2 h2 => tX_fl st2 en2 fr2 h2 fun t H3 z S3 w3 s3 st3 en3 fr3 r3 h3 =>
      ⟨u, v, t, rfl, FQ.nxQ h3 st3 (((en3.set i ((r1.step s2).step s3)).set j (r2.step s3)).set l r3) fr3⟩
end
end Pd

namespace L22
open PySem PySem.Spec PyProof.Rows L2 Pd
def top (i : Nat) : Stmt := PySem.Challenge.pw_countshelves_k22_whole_local_rule.main.body.getD i (.Pass ⟨0, 0, 0, 0⟩)
abbrev s_is_integer : Stmt := top 7
abbrev s_is_within : Stmt := top 8
abbrev s_falls_never_up : Stmt := top 9
abbrev s_require_within : Stmt := top 10
abbrev s_is_shape_in : Stmt := top 15
abbrev s_number_of : Stmt := top 16
abbrev s_lean_shape : Stmt := top 17
abbrev s_is_inside_in : Stmt := top 18
abbrev s_is_strip_in : Stmt := top 19
abbrev s_require_shape : Stmt := top 20
abbrev s_fourth_in : Stmt := top 22
abbrev s_corner_in : Stmt := top 23
abbrev s_require_shapes : Stmt := top 24
abbrev s_fourth_shape : Stmt := top 25
abbrev s_corner_back : Stmt := top 26
abbrev s_is_square : Stmt := top 27
abbrev s__law_dice : Stmt := top 29
abbrev s__law_roll : Stmt := top 30
abbrev s__law_far : Stmt := top 31
abbrev s__law_shape : Stmt := top 32
abbrev s__law_wider : Stmt := top 33
abbrev s__law_number : Stmt := top 34
abbrev s__law_fourth : Stmt := top 35
abbrev s__law_is_strip : Stmt := top 36
abbrev s__law_right : Stmt := top 37
abbrev s__law_all_right : Stmt := top 38
abbrev s_law : Stmt := top 39
structure Txt (mg : Str → Option Value) : Prop where
  n_abs : mg "abs" = none
  n_all : mg "all" = none
  n_bool : mg "bool" = none
  n_enumerate : mg "enumerate" = none
  n_int : mg "int" = none
  n_isinstance : mg "isinstance" = none
  n_len : mg "len" = none
  n_list : mg "list" = none
  n_max : mg "max" = none
  n_min : mg "min" = none
  n_range : mg "range" = none
  n_sorted : mg "sorted" = none
  n_sum : mg "sum" = none
  n_tuple : mg "tuple" = none
  n_zip : mg "zip" = none
  c_MOST_SHELVES : ∃ t, mg "MOST_SHELVES" = some (.int 8 t)
  c_MOST_TOTAL : ∃ t, mg "MOST_TOTAL" = some (.int 10000000000000000000000000000000000000000000000000000000000000000 t)
  c_MOST_WIDTH : ∃ t, mg "MOST_WIDTH" = some (.int 8 t)
def d_is_integer : List Val → Store → R Val := funD 0 fun n0 => (sRet (eAnd (eUn (fIsi .int) (eVar 0)) (eNot (eUn (fIsi .bool) (eVar 0)))))
def d_is_within : List Val → Store → R Val := funD 0 fun n0 => (sRet (eAnd (eCall d_is_integer (eCons (eVar 0) eNil)) (eChain fLe fLe (eVar 1) (eVar 0) (eVar 2))))
def d_falls_never_up : List Val → Store → R Val := funD 2 fun n0 => (sRet (eUn fAll (eLc (itZ (eVar 0) (eSl (eVar 0) (eoS (eC (.int 1))) eoN)) [1, 2] (tgT (tgsCons (tgN 1) (tgsCons (tgN 2) tgsNil))) tYesD (eBin fGe (eVar 1) (eVar 2)))))
def d_require_within : List Val → Store → R Val := funD 0 fun n0 => (sIf (eNot (eCall d_is_within (eCons (eVar 0) (eCons (eVar 1) (eCons (eVar 2) eNil))))) sNever sNil)
def d_is_shape_in : List Val → Store → R Val := funD 1 fun n0 => (sSeq (sIf (eOr (eNot (eUn (fIsi .tuple) (eVar 0))) (eBin fGt (eUn fLen (eVar 0)) (eC (.int 8)))) (sRet (eC (.bl false))) sNil) (sSeq (sIf (eNot (eUn fAll (eLc (itV (eVar 0)) [1] (tgN 1) tYesD (eCall d_is_within (eCons (eVar 1) (eCons (eC (.int 1)) (eCons (eC (.int 10000000000000000000000000000000000000000000000000000000000000000)) eNil))))))) (sRet (eC (.bl false))) sNil) (sRet (eAnd (eCall d_falls_never_up (eCons (eVar 0) eNil)) (eBin fLe (eUn fSum (eVar 0)) (eC (.int 10000000000000000000000000000000000000000000000000000000000000000)))))))
def d_number_of : List Val → Store → R Val := funD 0 fun n0 => (sRet (eIf (eBin fLt (eVar 1) (eUn fLen (eVar 0))) (eBin fIx (eVar 0) (eVar 1)) (eC (.int 0))))
def d_lean_shape : List Val → Store → R Val := funD 1 fun n0 => (sRet (eUn fTuple (eLc (itV (eVar 0)) [1] (tgN 1) (eTest (eBin fGt (eVar 1) (eC (.int 0)))) (eVar 1))))
def d_is_inside_in : List Val → Store → R Val := funD 2 fun n0 => (sRet (eUn fAll (eLc (itEn (eVar 0)) [2, 3] (tgT (tgsCons (tgN 2) (tgsCons (tgN 3) tgsNil))) tYesD (eBin fLe (eVar 3) (eCall d_number_of (eCons (eVar 1) (eCons (eVar 2) eNil)))))))
def d_is_strip_in : List Val → Store → R Val := funD 2 fun n0 => (sSeq (sIf (eNot (eCall d_is_inside_in (eCons (eVar 1) (eCons (eVar 0) eNil)))) (sRet (eC (.bl false))) sNil) (sRet (eUn fAll (eLc (itEn (eSl (eVar 0) (eoS (eC (.int 1))) eoN)) [2, 3] (tgT (tgsCons (tgN 2) (tgsCons (tgN 3) tgsNil))) tYesD (eBin fLe (eVar 3) (eCall d_number_of (eCons (eVar 1) (eCons (eVar 2) eNil))))))))
def d_require_shape : List Val → Store → R Val := funD 0 fun n0 => (sIf (eNot (eCall d_is_shape_in (eCons (eVar 0) eNil))) sNever sNil)
def d_fourth_in : List Val → Store → R Val := funD 3 fun n0 => (sSeq (sNew 4 (eCall fLst (eCons (eBin fAdd (eBin fMax2 (eCall d_number_of (eCons (eVar 1) (eCons (eC (.int 0)) eNil))) (eCall d_number_of (eCons (eVar 2) (eCons (eC (.int 0)) eNil)))) (eVar 3)) eNil))) (sSeq (sFor (itR2 (eC (.int 1)) (eBin fAdd (eBin fMax2 (eUn fLen (eVar 1)) (eUn fLen (eVar 2))) (eC (.int 1)))) (tgN 5) (sSeq (sAsg 6 (eBin fMax2 (eCall d_number_of (eCons (eVar 1) (eCons (eVar 5) eNil))) (eCall d_number_of (eCons (eVar 2) (eCons (eVar 5) eNil))))) (sEx (eApp (eVar 4) (eBin fSub (eBin fAdd (eVar 6) (eBin fMin2 (eCall d_number_of (eCons (eVar 1) (eCons (eBin fSub (eVar 5) (eC (.int 1))) eNil))) (eCall d_number_of (eCons (eVar 2) (eCons (eBin fSub (eVar 5) (eC (.int 1))) eNil))))) (eCall d_number_of (eCons (eVar 0) (eCons (eBin fSub (eVar 5) (eC (.int 1))) eNil)))))))) (sSeq (sFrz n0 4) (sRet (eCall d_lean_shape (eCons (eVar 4) eNil))))))
def d_corner_in : List Val → Store → R Val := funD 3 fun n0 => (sSeq (sNew 3 (eCall fLst eNil)) (sSeq (sFor (itR2 (eC (.int 1)) (eBin fAdd (eCall fMax3 (eCons (eUn fLen (eVar 0)) (eCons (eUn fLen (eVar 1)) (eCons (eUn fLen (eVar 2)) eNil)))) (eC (.int 1)))) (tgN 4) (sSeq (sAsg 5 (eBin fMax2 (eCall d_number_of (eCons (eVar 0) (eCons (eVar 4) eNil))) (eCall d_number_of (eCons (eVar 1) (eCons (eVar 4) eNil))))) (sEx (eApp (eVar 3) (eBin fSub (eBin fAdd (eVar 5) (eBin fMin2 (eCall d_number_of (eCons (eVar 0) (eCons (eBin fSub (eVar 4) (eC (.int 1))) eNil))) (eCall d_number_of (eCons (eVar 1) (eCons (eBin fSub (eVar 4) (eC (.int 1))) eNil))))) (eCall d_number_of (eCons (eVar 2) (eCons (eVar 4) eNil)))))))) (sSeq (sFrz n0 3) (sRet (eCall fTup (eCons (eCall d_lean_shape (eCons (eVar 3) eNil)) (eCons (eBin fSub (eCall d_number_of (eCons (eVar 2) (eCons (eC (.int 0)) eNil))) (eBin fMax2 (eCall d_number_of (eCons (eVar 0) (eCons (eC (.int 0)) eNil))) (eCall d_number_of (eCons (eVar 1) (eCons (eC (.int 0)) eNil))))) eNil)))))))
def d_require_shapes : List Val → Store → R Val := funD 1 fun n0 => (sFor (itV (eVar 0)) (tgN 1) (sEx (eCall d_require_shape (eCons (eVar 1) eNil))))
def d_fourth_shape : List Val → Store → R Val := funD 1 fun n0 => (sSeq (sEx (eCall (fun xs S => (fTup xs S).bind fun t S1 => d_require_shapes [t] S1) (eCons (eVar 0) (eCons (eVar 1) (eCons (eVar 2) eNil))))) (sSeq (sEx (eCall d_require_within (eCons (eVar 3) (eCons (eC (.int 0)) (eCons (eC (.int 10000000000000000000000000000000000000000000000000000000000000000)) eNil))))) (sSeq (sIf (eOr (eNot (eCall d_is_strip_in (eCons (eVar 1) (eCons (eVar 0) eNil)))) (eNot (eCall d_is_strip_in (eCons (eVar 2) (eCons (eVar 0) eNil))))) sNever sNil) (sSeq (sAsg 4 (eCall d_fourth_in (eCons (eVar 0) (eCons (eVar 1) (eCons (eVar 2) (eCons (eVar 3) eNil)))))) (sSeq (sIf (eBin fGt (eUn fLen (eVar 4)) (eC (.int 8))) sNever sNil) (sSeq (sIf (eBin fGt (eUn fSum (eVar 4)) (eC (.int 10000000000000000000000000000000000000000000000000000000000000000))) sNever sNil) (sRet (eVar 4))))))))
def d_corner_back : List Val → Store → R Val := funD 0 fun n0 => (sSeq (sEx (eCall (fun xs S => (fTup xs S).bind fun t S1 => d_require_shapes [t] S1) (eCons (eVar 0) (eCons (eVar 1) (eCons (eVar 2) eNil))))) (sSeq (sIf (eOr (eNot (eCall d_is_strip_in (eCons (eVar 2) (eCons (eVar 0) eNil)))) (eNot (eCall d_is_strip_in (eCons (eVar 2) (eCons (eVar 1) eNil))))) sNever sNil) (sRet (eCall d_corner_in (eCons (eVar 0) (eCons (eVar 1) (eCons (eVar 2) eNil)))))))
def d_is_square : List Val → Store → R Val := funD 0 fun n0 => (sSeq (sEx (eCall (fun xs S => (fTup xs S).bind fun t S1 => d_require_shapes [t] S1) (eCons (eVar 0) (eCons (eVar 1) (eCons (eVar 2) eNil))))) (sSeq (sEx (eCall d_require_within (eCons (eVar 3) (eCons (eC (.int 0)) (eCons (eC (.int 10000000000000000000000000000000000000000000000000000000000000000)) eNil))))) (sSeq (sEx (eCall d_require_shape (eCons (eVar 4) eNil))) (sRet (eAnd (eCall d_is_strip_in (eCons (eVar 1) (eCons (eVar 0) eNil))) (eAnd (eCall d_is_strip_in (eCons (eVar 2) (eCons (eVar 0) eNil))) (eBin fEq (eCall d_fourth_in (eCons (eVar 0) (eCons (eVar 1) (eCons (eVar 2) (eCons (eVar 3) eNil))))) (eVar 4))))))))
def d__law_dice : List Val → Store → R Val := funD 3 fun n0 => (sSeq (sAsg 2 (eIf (eBin fLt (eVar 1) (eUn fLen (eVar 0))) (eUn fInt (eBin fIx (eVar 0) (eVar 1))) (eBin fAdd (eBin fMul (eC (.int 233)) (eVar 1)) (eC (.int 113))))) (sSeq (sAsg 3 (eBin fMod (eUn fInt (eUn fAbs (eVar 2))) (eBin fPow (eBin fPow (eC (.int 10)) (eC (.int 54))) (eC (.int 6))))) (sSeq (sAsg 4 (eBin fAdd (eBin fAdd (eBin fAdd (eBin fMul (eBin fMod (eVar 3) (eC (.int 2305843009213693921))) (eC (.int 97))) (eBin fMul (eC (.int 733)) (eVar 1))) (eBin fMul (eC (.int 67)) (eUn fInt (eBin fLt (eVar 2) (eC (.int 0)))))) (eC (.int 53)))) (sRet (eCall fLst (eCons (eBin fMax2 (eC (.int 0)) (eBin fSub (eVar 3) (eBin fPow (eC (.int 10)) (eC (.int 16))))) (eCons (eVar 4) (eCons (eC (.int 0)) eNil))))))))
def d__law_roll : List Val → Store → R Val := funD 3 fun n0 => (sSeq (sIf (eBin fGt (eBin fIx (eVar 0) (eC (.int 0))) (eC (.int 0))) (sSeq (sAsg 4 (eBin fMod (eBin fIx (eVar 0) (eC (.int 0))) (eVar 1))) (sSeq (sSet (eVar 0) (eC (.int 0)) (eBin fDiv (eBin fIx (eVar 0) (eC (.int 0))) (eVar 1))) (sRet (eUn fInt (eVar 4))))) sNil) (sSeq (sSet (eVar 0) (eC (.int 2)) (eBin fAdd (eBin fIx (eVar 0) (eC (.int 2))) (eC (.int 1)))) (sSeq (sAsg 2 (eBin fMod (eBin fAdd (eBin fIx (eVar 0) (eC (.int 1))) (eBin fMul (eC (.int 86028121)) (eBin fIx (eVar 0) (eC (.int 2))))) (eC (.int 2305843009213693951)))) (sSeq (sAsg 3 (eBin fAdd (eBin fMul (eBin fMod (eBin fAdd (eBin fMul (eVar 2) (eVar 2)) (eBin fMul (eC (.int 191)) (eBin fIx (eVar 0) (eC (.int 2))))) (eC (.int 2305843009213693907))) (eC (.int 15485867))) (eVar 2))) (sRet (eBin fMod (eUn fInt (eBin fDiv (eVar 3) (eC (.int 65537)))) (eVar 1)))))))
def d__law_far : List Val → Store → R Val := funD 2 fun n0 => (sSeq (sPar 2 3 (eC (.int 0)) (eVar 1)) (sSeq (whD (eBin fGt (eVar 3) (eC (.int 1))) (sPar 2 3 (eBin fAdd (eBin fMul (eVar 2) (eBin fPow (eC (.int 10)) (eC (.int 18)))) (eCall d__law_roll (eCons (eVar 0) (eCons (eBin fPow (eC (.int 10)) (eC (.int 18))) eNil)))) (eBin fDiv (eVar 3) (eBin fPow (eC (.int 10)) (eC (.int 18))))) fuel) (sRet (eBin fMod (eVar 2) (eVar 1)))))
def d__law_shape : List Val → Store → R Val := funD 2 fun n0 => (sSeq (sAsg 3 (eUn fSorted (eLc (itR1 (eCall d__law_roll (eCons (eVar 0) (eCons (eBin fAdd (eVar 1) (eC (.int 1))) eNil)))) [4] (tgN 4) tYesD (eBin fAdd (eC (.int 1)) (eCall d__law_far (eCons (eVar 0) (eCons (eVar 2) eNil))))))) (sRet (eUn fTuple (eUn fRev (eVar 3)))))
def d__law_wider : List Val → Store → R Val := funD 4 fun n0 => (sSeq (sNew 3 (eCall fLst eNil)) (sSeq (sFor (itEn (eBin fAdd (eVar 1) (eCall fTup (eCons (eC (.int 0)) eNil)))) (tgT (tgsCons (tgN 4) (tgsCons (tgN 5) tgsNil))) (sSeq (sAsg 6 (eIf (eBin fEq (eVar 4) (eC (.int 0))) (eVar 2) (eBin fAdd (eBin fSub (eBin fIx (eVar 1) (eBin fSub (eVar 4) (eC (.int 1)))) (eVar 5)) (eC (.int 1))))) (sEx (eApp (eVar 3) (eBin fAdd (eVar 5) (eCall d__law_far (eCons (eVar 0) (eCons (eVar 6) eNil)))))))) (sSeq (sFrz n0 3) (sRet (eUn fTuple (eLc (itV (eVar 3)) [5] (tgN 5) (eTest (eBin fGt (eVar 5) (eC (.int 0)))) (eVar 5)))))))
def d__law_number : List Val → Store → R Val := funD 0 fun n0 => (sRet (eIf (eBin fLt (eVar 1) (eUn fLen (eVar 0))) (eBin fIx (eVar 0) (eVar 1)) (eC (.int 0))))
def d__law_fourth : List Val → Store → R Val := funD 4 fun n0 => (sSeq (sNew 4 (eCall fLst (eCons (eBin fAdd (eBin fMax2 (eCall d__law_number (eCons (eVar 1) (eCons (eC (.int 0)) eNil))) (eCall d__law_number (eCons (eVar 2) (eCons (eC (.int 0)) eNil)))) (eVar 3)) eNil))) (sSeq (sFor (itR2 (eC (.int 1)) (eC (.int 9))) (tgN 5) (sSeq (sAsg 6 (eBin fMax2 (eCall d__law_number (eCons (eVar 1) (eCons (eVar 5) eNil))) (eCall d__law_number (eCons (eVar 2) (eCons (eVar 5) eNil))))) (sEx (eApp (eVar 4) (eBin fSub (eBin fAdd (eVar 6) (eBin fMin2 (eCall d__law_number (eCons (eVar 1) (eCons (eBin fSub (eVar 5) (eC (.int 1))) eNil))) (eCall d__law_number (eCons (eVar 2) (eCons (eBin fSub (eVar 5) (eC (.int 1))) eNil))))) (eCall d__law_number (eCons (eVar 0) (eCons (eBin fSub (eVar 5) (eC (.int 1))) eNil)))))))) (sSeq (sFrz n0 4) (sRet (eUn fTuple (eLc (itV (eVar 4)) [7] (tgN 7) (eTest (eBin fGt (eVar 7) (eC (.int 0)))) (eVar 7)))))))
def d__law_is_strip : List Val → Store → R Val := funD 2 fun n0 => (sSeq (sAsg 2 (eUn fLR1 (eC (.int 8)))) (sSeq (sIf (eBin fNe (eLc (itV (eVar 2)) [3] (tgN 3) (eTest (eBin fGt (eCall d__law_number (eCons (eVar 1) (eCons (eVar 3) eNil))) (eCall d__law_number (eCons (eVar 0) (eCons (eVar 3) eNil))))) (eC (.int 1))) (eCall fLst eNil)) (sRet (eC (.bl false))) sNil) (sRet (eBin fEq (eLc (itV (eVar 2)) [3] (tgN 3) (eTest (eBin fGt (eCall d__law_number (eCons (eVar 0) (eCons (eBin fAdd (eVar 3) (eC (.int 1))) eNil))) (eCall d__law_number (eCons (eVar 1) (eCons (eVar 3) eNil))))) (eC (.int 1))) (eCall fLst eNil)))))
def d__law_right : List Val → Store → R Val := funD 16 fun n0 => (sSeq (sAsg 2 (eCall d__law_shape (eCons (eVar 0) (eCons (eC (.int 4)) (eCons (eVar 1) eNil))))) (sSeq (sAsgT (tgT (tgsCons (tgN 11) (tgsCons (tgN 12) (tgsCons (tgN 13) tgsNil)))) (eCall fTup (eCons (eCall d__law_wider (eCons (eVar 0) (eCons (eVar 2) (eCons (eVar 1) eNil)))) (eCons (eCall d__law_wider (eCons (eVar 0) (eCons (eVar 2) (eCons (eVar 1) eNil)))) (eCons (eCall d__law_far (eCons (eVar 0) (eCons (eVar 1) eNil))) eNil))))) (sSeq (sAsg 3 (eCall d__law_fourth (eCons (eVar 2) (eCons (eVar 11) (eCons (eVar 12) (eCons (eVar 13) eNil)))))) (sSeq (sIf (eOr (eBin fNe (eCall d_fourth_shape (eCons (eVar 2) (eCons (eVar 11) (eCons (eVar 12) (eCons (eVar 13) eNil))))) (eVar 3)) (eOr (eBin fNe (eCall d_fourth_shape (eCons (eVar 2) (eCons (eVar 12) (eCons (eVar 11) (eCons (eVar 13) eNil))))) (eVar 3)) (eBin fNe (eCall d_corner_back (eCons (eVar 11) (eCons (eVar 12) (eCons (eVar 3) eNil)))) (eCall fTup (eCons (eVar 2) (eCons (eVar 13) eNil)))))) (sRet (eC (.bl false))) sNil) (sSeq (sIf (eOr (eBin fNotB (eCall d_is_square (eCons (eVar 2) (eCons (eVar 11) (eCons (eVar 12) (eCons (eVar 13) (eCons (eVar 3) eNil)))))) (eC (.bl true))) (eBin fNe (eBin fAdd (eUn fSum (eVar 3)) (eUn fSum (eVar 2))) (eBin fAdd (eBin fAdd (eUn fSum (eVar 11)) (eUn fSum (eVar 12))) (eVar 13)))) (sRet (eC (.bl false))) sNil) (sSeq (sIf (eOr (eBin fNe (eCall d_fourth_shape (eCons (eVar 2) (eCons (eVar 2) (eCons (eVar 12) (eCons (eVar 13) eNil))))) (eCall d__law_fourth (eCons (eVar 2) (eCons (eVar 2) (eCons (eVar 12) (eCons (eVar 13) eNil)))))) (eNot (eCall d__law_is_strip (eCons (eVar 3) (eCons (eVar 11) eNil))))) (sRet (eC (.bl false))) sNil) (sSeq (sFor (itV (eCall fTup (eCons (eIf (eBin fLt (eUn fLen (eVar 3)) (eC (.int 8))) (eBin fAdd (eVar 3) (eCall fTup (eCons (eC (.int 1)) eNil))) (eCall fTup eNil)) (eCons (eSl (eVar 3) eoN (eoS (eUn fNeg (eC (.int 1))))) (eCons (eBin fAdd (eCall fTup (eCons (eBin fAdd (eCall d__law_number (eCons (eVar 3) (eCons (eC (.int 0)) eNil))) (eC (.int 1))) eNil)) (eSl (eVar 3) (eoS (eC (.int 1))) eoN)) (eCons (eVar 11) (eCons (eVar 2) eNil))))))) (tgN 4) (sIf (eBin fNe (eCall d_is_square (eCons (eVar 2) (eCons (eVar 11) (eCons (eVar 12) (eCons (eVar 13) (eCons (eVar 4) eNil)))))) (eBin fEq (eVar 4) (eVar 3))) (sRet (eC (.bl false))) sNil)) (sSeq (sIf (eBin fNotB (eCall d_is_square (eCons (eVar 2) (eCons (eVar 11) (eCons (eVar 12) (eCons (eBin fAdd (eVar 13) (eC (.int 1))) (eCons (eVar 3) eNil)))))) (eC (.bl false))) (sRet (eC (.bl false))) sNil) (sSeq (sAsg 5 (eCall d__law_wider (eCons (eVar 0) (eCons (eVar 3) (eCons (eVar 1) eNil))))) (sSeq (sAsg 6 (eAnd (eCall d__law_is_strip (eCons (eVar 11) (eCons (eVar 3) eNil))) (eAnd (eCall d__law_is_strip (eCons (eVar 12) (eCons (eVar 3) eNil))) (eBin fEq (eCall d__law_fourth (eCons (eVar 3) (eCons (eVar 11) (eCons (eVar 12) (eCons (eVar 13) eNil))))) (eVar 5))))) (sSeq (sIf (eBin fNe (eCall d_is_square (eCons (eVar 3) (eCons (eVar 11) (eCons (eVar 12) (eCons (eVar 13) (eCons (eVar 5) eNil)))))) (eVar 6)) (sRet (eC (.bl false))) sNil) (sSeq (sAsg 7 (eLc (itR1 (eC (.int 6))) [9] (tgN 9) tYesD (eBin fMax2 (eCall d__law_number (eCons (eVar 11) (eCons (eVar 9) eNil))) (eCall d__law_number (eCons (eVar 12) (eCons (eVar 9) eNil)))))) (sSeq (sNew 8 (eCall fLst (eCons (eBin fAdd (eBin fIx (eVar 7) (eC (.int 0))) (eCall d__law_far (eCons (eVar 0) (eCons (eVar 1) eNil)))) eNil))) (sSeq (sFor (itR2 (eC (.int 1)) (eC (.int 6))) (tgN 9) (sSeq (sAsg 14 (eBin fSub (eBin fMin2 (eCall d__law_number (eCons (eVar 11) (eCons (eBin fSub (eVar 9) (eC (.int 1))) eNil))) (eCall d__law_number (eCons (eVar 12) (eCons (eBin fSub (eVar 9) (eC (.int 1))) eNil)))) (eBin fIx (eVar 7) (eVar 9)))) (sEx (eApp (eVar 8) (eBin fAdd (eBin fIx (eVar 7) (eVar 9)) (eIf (eBin fGt (eVar 14) (eC (.int 0))) (eCall d__law_far (eCons (eVar 0) (eCons (eBin fAdd (eVar 14) (eC (.int 1))) eNil))) (eC (.int 0)))))))) (sSeq (sFrz n0 8) (sSeq (sAsg 10 (eUn fTuple (eLc (itV (eVar 8)) [17] (tgN 17) (eTest (eBin fGt (eVar 17) (eC (.int 0)))) (eVar 17)))) (sSeq (sIf (eOr (eNot (eCall d__law_is_strip (eCons (eVar 10) (eCons (eVar 11) eNil)))) (eNot (eCall d__law_is_strip (eCons (eVar 10) (eCons (eVar 12) eNil))))) (sRet (eC (.bl true))) sNil) (sSeq (sAsgT (tgT (tgsCons (tgN 15) (tgsCons (tgN 16) tgsNil))) (eCall d_corner_back (eCons (eVar 11) (eCons (eVar 12) (eCons (eVar 10) eNil))))) (sSeq (sIf (eOr (eNot (eCall d__law_is_strip (eCons (eVar 11) (eCons (eVar 15) eNil)))) (eOr (eNot (eCall d__law_is_strip (eCons (eVar 12) (eCons (eVar 15) eNil)))) (eBin fLt (eVar 16) (eC (.int 0))))) (sRet (eC (.bl false))) sNil) (sRet (eAnd (eBin fEq (eCall d__law_fourth (eCons (eVar 15) (eCons (eVar 11) (eCons (eVar 12) (eCons (eVar 16) eNil))))) (eVar 10)) (eBin fEq (eCall d_fourth_shape (eCons (eVar 15) (eCons (eVar 11) (eCons (eVar 12) (eCons (eVar 16) eNil))))) (eVar 10)))))))))))))))))))))))
def d__law_all_right : List Val → Store → R Val := funD 12 fun n0 => (sSeq (sAsg 1 (eCall d__law_shape (eCons (eVar 0) (eCons (eC (.int 2)) (eCons (eC (.int 3)) eNil))))) (sSeq (sAsgT (tgT (tgsCons (tgN 3) (tgsCons (tgN 4) (tgsCons (tgN 5) tgsNil)))) (eCall fTup (eCons (eCall d__law_wider (eCons (eVar 0) (eCons (eVar 1) (eCons (eC (.int 3)) eNil)))) (eCons (eCall d__law_wider (eCons (eVar 0) (eCons (eVar 1) (eCons (eC (.int 3)) eNil)))) (eCons (eCall d__law_roll (eCons (eVar 0) (eCons (eC (.int 3)) eNil))) eNil))))) (sSeq (sPar 6 7 (eCall d__law_fourth (eCons (eVar 1) (eCons (eVar 3) (eCons (eVar 4) (eCons (eVar 5) eNil))))) (eCall fLst eNil)) (sSeq (sFor (itR1 (eBin fAdd (eBin fMin2 (eCall d__law_number (eCons (eVar 3) (eCons (eC (.int 0)) eNil))) (eCall d__law_number (eCons (eVar 4) (eCons (eC (.int 0)) eNil)))) (eC (.int 1)))) (tgN 2) (sFor (itR1 (eBin fAdd (eVar 2) (eC (.int 1)))) (tgN 8) (sFor (itR1 (eBin fAdd (eVar 8) (eC (.int 1)))) (tgN 9) (sSeq (sAsg 10 (eUn fTuple (eLc (itV (eCall fTup (eCons (eVar 2) (eCons (eVar 8) (eCons (eVar 9) eNil))))) [11] (tgN 11) (eTest (eBin fGt (eVar 11) (eC (.int 0)))) (eVar 11)))) (sIf (eAnd (eCall d__law_is_strip (eCons (eVar 3) (eCons (eVar 10) eNil))) (eCall d__law_is_strip (eCons (eVar 4) (eCons (eVar 10) eNil)))) (sAsg 7 (eBin fAdd (eVar 7) (eLc (itR1 (eC (.int 7))) [12] (tgN 12) (eTest (eCall d_is_square (eCons (eVar 10) (eCons (eVar 3) (eCons (eVar 4) (eCons (eVar 12) (eCons (eVar 6) eNil))))))) (eCall fTup (eCons (eVar 10) (eCons (eVar 12) eNil)))))) sNil))))) (sRet (eBin fEq (eVar 7) (eCall fLst (eCons (eCall fTup (eCons (eVar 1) (eCons (eVar 5) eNil))) eNil))))))))
def d_law : List Val → Store → R Val := funD 3 fun n0 => (sSeq (sFor (itR1 (eBin fMax2 (eC (.int 1)) (eBin fMin2 (eC (.int 3)) (eUn fLen (eVar 0))))) (tgN 1) (sSeq (sNew 3 (eCall d__law_dice (eCons (eVar 0) (eCons (eVar 1) eNil)))) (sSeq (sIf (eOr (eNot (eCall d__law_right (eCons (eVar 3) (eCons (eC (.int 4)) eNil)))) (eOr (eNot (eCall d__law_right (eCons (eVar 3) (eCons (eC (.int 4)) eNil)))) (eNot (eCall d__law_right (eCons (eVar 3) (eCons (eBin fPow (eC (.int 10)) (eC (.int 50))) eNil)))))) (sRet (eC (.bl false))) sNil) (sSeq (sIf (eNot (eCall d__law_all_right (eCons (eVar 3) eNil))) (sRet (eC (.bl false))) sNil) (sSeq (sFrz n0 3) sNil))))) (sSeq (sAsg 2 (eCall fLst (eCons (eCall d_fourth_shape (eCons (eCall fTup eNil) (eCons (eCall fTup (eCons (eC (.int 1)) eNil)) (eCons (eCall fTup (eCons (eC (.int 1)) eNil)) (eCons (eC (.int 0)) eNil))))) (eCons (eCall d_fourth_shape (eCons (eCall fTup eNil) (eCons (eCall fTup (eCons (eBin fPow (eC (.int 10)) (eC (.int 3))) eNil)) (eCons (eCall fTup (eCons (eC (.int 3)) eNil)) (eCons (eC (.int 4)) eNil))))) (eCons (eCall d_fourth_shape (eCons (eCall fTup (eCons (eC (.int 1)) eNil)) (eCons (eCall fTup (eCons (eC (.int 1)) (eCons (eC (.int 1)) eNil))) (eCons (eCall fTup (eCons (eC (.int 2)) eNil)) (eCons (eC (.int 0)) eNil))))) eNil))))) (sSeq (sIf (eOr (eBin fNe (eVar 2) (eCall fLst (eCons (eCall fTup (eCons (eC (.int 1)) (eCons (eC (.int 1)) eNil))) (eCons (eCall fTup (eCons (eC (.int 1004)) (eCons (eC (.int 3)) eNil))) (eCons (eCall fTup (eCons (eC (.int 2)) (eCons (eC (.int 1)) eNil))) eNil))))) (eBin fNotB (eCall d_is_square (eCons (eCall fTup (eCons (eC (.int 2)) eNil)) (eCons (eCall fTup (eCons (eC (.int 1)) eNil)) (eCons (eCall fTup (eCons (eC (.int 2)) eNil)) (eCons (eC (.int 0)) (eCons (eCall fTup (eCons (eC (.int 2)) eNil)) eNil)))))) (eC (.bl false)))) (sRet (eC (.bl false))) sNil) (sRet (eBin fEq (eCall fLst (eCons (eCall d_corner_back (eCons (eCall fTup (eCons (eC (.int 1)) eNil)) (eCons (eCall fTup (eCons (eC (.int 1)) eNil)) (eCons (eCall fTup (eCons (eC (.int 2)) eNil)) eNil)))) (eCons (eCall d_corner_back (eCons (eCall fTup (eCons (eC (.int 3)) eNil)) (eCons (eCall fTup (eCons (eC (.int 2)) eNil)) (eCons (eCall fTup (eCons (eC (.int 3)) (eCons (eC (.int 1)) eNil))) eNil)))) eNil))) (eCall fLst (eCons (eCall fTup (eCons (eCall fTup (eCons (eC (.int 1)) eNil)) (eCons (eC (.int 1)) eNil))) (eCons (eCall fTup (eCons (eCall fTup (eCons (eC (.int 1)) eNil)) (eCons (eC (.int 0)) eNil))) eNil))))))))
section
variable {P : Program} {w : World} {K : PySem.W.Frag} {mg : Str → Option Value} {base : Heap} {g : Gx}
theorem sc_is_integer : FnScope ["value"] ["value"] (defScope s_is_integer) := ⟨rfl, rfl, rfl, by decide +kernel, rfl, by decide +kernel, by decide +kernel⟩
theorem ok_is_integer (hK : g.K = K) (T : Txt mg) (FA : FunAt K mg "is_integer" "is_integer" s_is_integer ["value"])  : Fn P w K mg base g 1 "is_integer" ["value"] d_is_integer false :=
  have nd := (sc_is_integer).nd
  fn_at (k := 0) (extra := 0) false (fun n0 => (sRet (eAnd (eUn (fIsi .int) (eVar 0)) (eNot (eUn (fIsi .bool) (eVar 0)))))) FA sc_is_integer rfl fun f cdv A outer s H E hr w0 => (ss_one (s_ret rfl (p_and (p_isi .int hK (by rfl) T.n_isinstance (by rfl) T.n_int (by decide +kernel) (p_var (i := 0))) (p_and1 (p_not (p_isi .bool hK (by rfl) T.n_isinstance (by rfl) T.n_bool (by decide +kernel) (p_var (i := 0))))))))
theorem sc_is_within : FnScope ["value", "low", "most"] ["value", "low", "most"] (defScope s_is_within) := ⟨rfl, rfl, rfl, by decide +kernel, rfl, by decide +kernel, by decide +kernel⟩
theorem ok_is_within (hK : g.K = K) (T : Txt mg) (FA : FunAt K mg "is_within" "is_within" s_is_within ["value", "low", "most"]) (F_is_integer : Fn P w K mg base g 1 "is_integer" ["value"] d_is_integer false) : Fn P w K mg base g 2 "is_within" ["value", "low", "most"] d_is_within false :=
  have nd := (sc_is_within).nd
  fn_at (k := 1) (extra := 0) false (fun n0 => (sRet (eAnd (eCall d_is_integer (eCons (eVar 0) eNil)) (eChain fLe fLe (eVar 1) (eVar 0) (eVar 2))))) FA sc_is_within rfl fun f cdv A outer s H E hr w0 => (ss_one (s_ret rfl (p_and (p_call F_is_integer hr (by decide) (by rfl) (takes_of rfl rfl rfl rfl) rfl (eCons_len eNil_len) (a_cons (p_var (i := 0)) a_nil)) (p_and1 (p_chLeLe (p_var (i := 1)) (p_var (i := 0)) (p_var (i := 2)))))))
theorem sc_falls_never_up : FnScope ["numbers", "one", "other"] ["numbers"] (defScope s_falls_never_up) := ⟨rfl, rfl, rfl, by decide +kernel, rfl, by decide +kernel, by decide +kernel⟩
theorem ok_falls_never_up (hK : g.K = K) (T : Txt mg) (FA : FunAt K mg "falls_never_up" "falls_never_up" s_falls_never_up ["numbers"])  : Fn P w K mg base g 1 "falls_never_up" ["numbers"] d_falls_never_up false :=
  have nd := (sc_falls_never_up).nd
  fn_at (k := 0) (extra := 2) false (fun n0 => (sRet (eUn fAll (eLc (itZ (eVar 0) (eSl (eVar 0) (eoS (eC (.int 1))) eoN)) [1, 2] (tgT (tgsCons (tgN 1) (tgsCons (tgN 2) tgsNil))) tYesD (eBin fGe (eVar 1) (eVar 2)))))) FA sc_falls_never_up rfl fun f cdv A outer s H E hr w0 => (ss_one (s_ret rfl (p_all hK rfl (by rfl) T.n_all (p_lc (own := [("one", 1), ("other", 2)]) rfl nd (i_zip hK (by rfl) T.n_zip (p_var (i := 0)) (p_sl hK (p_var (i := 0)) (po_s p_int) po_n)) (blkOk_by (N := ["numbers", "one", "other"]) (sc := defScope s_falls_never_up) (own := [("one", 1), ("other", 2)]) (by decide +kernel)) (fun _ _ _ _ _ => (g_tup hK rfl (gs_cons (g_name (i := 1) nd rfl (by first | exact .inl rfl | exact .inr rfl)) (gs_cons (g_name (i := 2) nd rfl (by first | exact .inl rfl | exact .inr rfl)) gs_nil)) (fun _ _ _ z => tgsCons_len (fun _ _ _ z => tgsCons_len (fun _ _ _ z => tgsNil_len z) z) z))) (fun _ _ _ _ _ => ts_nil) (fun _ _ _ _ _ => (p_ge (p_var (i := 1)) (p_var (i := 2)))) (by decide)))))
theorem sc_require_within : FnScope ["value", "low", "most"] ["value", "low", "most"] (defScope s_require_within) := ⟨rfl, rfl, rfl, by decide +kernel, rfl, by decide +kernel, by decide +kernel⟩
theorem ok_require_within (hK : g.K = K) (T : Txt mg) (FA : FunAt K mg "require_within" "require_within" s_require_within ["value", "low", "most"]) (F_is_within : Fn P w K mg base g 2 "is_within" ["value", "low", "most"] d_is_within false) : Fn P w K mg base g 3 "require_within" ["value", "low", "most"] d_require_within false :=
  have nd := (sc_require_within).nd
  fn_at (k := 2) (extra := 0) false (fun n0 => (sIf (eNot (eCall d_is_within (eCons (eVar 0) (eCons (eVar 1) (eCons (eVar 2) eNil))))) sNever sNil)) FA sc_require_within rfl fun f cdv A outer s H E hr w0 => (ss_one (s_if (pt_not' (pt_v (p_call F_is_within hr (by decide) (by rfl) (takes_of rfl rfl rfl rfl) rfl (eCons_len (eCons_len (eCons_len eNil_len))) (a_cons (p_var (i := 0)) (a_cons (p_var (i := 1)) (a_cons (p_var (i := 2)) a_nil)))))) (ss_one s_never) ss_nil))
theorem sc_is_shape_in : FnScope ["value", "number"] ["value"] (defScope s_is_shape_in) := ⟨rfl, rfl, rfl, by decide +kernel, rfl, by decide +kernel, by decide +kernel⟩
theorem ok_is_shape_in (hK : g.K = K) (T : Txt mg) (FA : FunAt K mg "is_shape_in" "is_shape_in" s_is_shape_in ["value"]) (F_falls_never_up : Fn P w K mg base g 1 "falls_never_up" ["numbers"] d_falls_never_up false) (F_is_within : Fn P w K mg base g 2 "is_within" ["value", "low", "most"] d_is_within false) : Fn P w K mg base g 3 "is_shape_in" ["value"] d_is_shape_in false :=
  have nd := (sc_is_shape_in).nd
  fn_at (k := 2) (extra := 1) false (fun n0 => (sSeq (sIf (eOr (eNot (eUn (fIsi .tuple) (eVar 0))) (eBin fGt (eUn fLen (eVar 0)) (eC (.int 8)))) (sRet (eC (.bl false))) sNil) (sSeq (sIf (eNot (eUn fAll (eLc (itV (eVar 0)) [1] (tgN 1) tYesD (eCall d_is_within (eCons (eVar 1) (eCons (eC (.int 1)) (eCons (eC (.int 10000000000000000000000000000000000000000000000000000000000000000)) eNil))))))) (sRet (eC (.bl false))) sNil) (sRet (eAnd (eCall d_falls_never_up (eCons (eVar 0) eNil)) (eBin fLe (eUn fSum (eVar 0)) (eC (.int 10000000000000000000000000000000000000000000000000000000000000000)))))))) FA sc_is_shape_in rfl fun f cdv A outer s H E hr w0 => (ss_cons (s_if (PW.pt (pw_or' (pt_not' (pt_v (p_isi .tuple hK (by rfl) T.n_isinstance (by rfl) T.n_tuple (by decide +kernel) (p_var (i := 0))))) (pw_or1' (t_gt (p_len hK (by rfl) T.n_len (p_var (i := 0))) (p_globE (by rfl) T.c_MOST_SHELVES))))) (ss_one (s_ret rfl p_bl)) ss_nil) (ss_cons (s_if (pt_not' (pt_v (p_all hK rfl (by rfl) T.n_all (p_lc (own := [("number", 1)]) rfl nd (i_val hK (p_var (i := 0))) (blkOk_by (N := ["value", "number"]) (sc := defScope s_is_shape_in) (own := [("number", 1)]) (by decide +kernel)) (fun _ _ _ _ _ => (g_name (i := 1) nd rfl (by first | exact .inl rfl | exact .inr rfl))) (fun _ _ _ _ _ => ts_nil) (fun _ _ _ _ _ => (p_call F_is_within hr (by decide) (by rfl) takes0 rfl (eCons_len (eCons_len (eCons_len eNil_len))) (a_cons (p_var (i := 1)) (a_cons p_int (a_cons (p_globE (by rfl) T.c_MOST_TOTAL) a_nil))))) (by decide))))) (ss_one (s_ret rfl p_bl)) ss_nil) (ss_one (s_ret rfl (p_and (p_call F_falls_never_up hr (by decide) (by rfl) (takes_of rfl rfl rfl rfl) rfl (eCons_len eNil_len) (a_cons (p_var (i := 0)) a_nil)) (p_and1 (p_le (p_sum hK rfl (by rfl) T.n_sum (p_var (i := 0))) (p_globE (by rfl) T.c_MOST_TOTAL))))))))
theorem sc_number_of : FnScope ["shape", "row"] ["shape", "row"] (defScope s_number_of) := ⟨rfl, rfl, rfl, by decide +kernel, rfl, by decide +kernel, by decide +kernel⟩
theorem ok_number_of (hK : g.K = K) (T : Txt mg) (FA : FunAt K mg "number_of" "number_of" s_number_of ["shape", "row"])  : Fn P w K mg base g 1 "number_of" ["shape", "row"] d_number_of false :=
  have nd := (sc_number_of).nd
  fn_at (k := 0) (extra := 0) false (fun n0 => (sRet (eIf (eBin fLt (eVar 1) (eUn fLen (eVar 0))) (eBin fIx (eVar 0) (eVar 1)) (eC (.int 0))))) FA sc_number_of rfl fun f cdv A outer s H E hr w0 => (ss_one (s_ret rfl (p_if (t_lt (p_var (i := 1)) (p_len hK (by rfl) T.n_len (p_var (i := 0)))) (p_ix hK (p_var (i := 0)) (p_var (i := 1))) p_int)))
theorem sc_lean_shape : FnScope ["numbers", "number"] ["numbers"] (defScope s_lean_shape) := ⟨rfl, rfl, rfl, by decide +kernel, rfl, by decide +kernel, by decide +kernel⟩
theorem ok_lean_shape (hK : g.K = K) (T : Txt mg) (FA : FunAt K mg "lean_shape" "lean_shape" s_lean_shape ["numbers"])  : Fn P w K mg base g 1 "lean_shape" ["numbers"] d_lean_shape false :=
  have nd := (sc_lean_shape).nd
  fn_at (k := 0) (extra := 1) false (fun n0 => (sRet (eUn fTuple (eLc (itV (eVar 0)) [1] (tgN 1) (eTest (eBin fGt (eVar 1) (eC (.int 0)))) (eVar 1))))) FA sc_lean_shape rfl fun f cdv A outer s H E hr w0 => (ss_one (s_ret rfl (p_tuple hK (by rfl) T.n_tuple (p_lc (own := [("number", 1)]) rfl nd (i_val hK (p_var (i := 0))) (blkOk_by (N := ["numbers", "number"]) (sc := defScope s_lean_shape) (own := [("number", 1)]) (by decide +kernel)) (fun _ _ _ _ _ => (g_name (i := 1) nd rfl (by first | exact .inl rfl | exact .inr rfl))) (fun _ _ _ _ _ => (ts_one (t_gt (p_var (i := 1)) p_int))) (fun _ _ _ _ _ => (p_var (i := 1))) (by decide)))))
theorem sc_is_inside_in : FnScope ["one", "other", "row", "number"] ["one", "other"] (defScope s_is_inside_in) := ⟨rfl, rfl, rfl, by decide +kernel, rfl, by decide +kernel, by decide +kernel⟩
theorem ok_is_inside_in (hK : g.K = K) (T : Txt mg) (FA : FunAt K mg "is_inside_in" "is_inside_in" s_is_inside_in ["one", "other"]) (F_number_of : Fn P w K mg base g 1 "number_of" ["shape", "row"] d_number_of false) : Fn P w K mg base g 2 "is_inside_in" ["one", "other"] d_is_inside_in false :=
  have nd := (sc_is_inside_in).nd
  fn_at (k := 1) (extra := 2) false (fun n0 => (sRet (eUn fAll (eLc (itEn (eVar 0)) [2, 3] (tgT (tgsCons (tgN 2) (tgsCons (tgN 3) tgsNil))) tYesD (eBin fLe (eVar 3) (eCall d_number_of (eCons (eVar 1) (eCons (eVar 2) eNil)))))))) FA sc_is_inside_in rfl fun f cdv A outer s H E hr w0 => (ss_one (s_ret rfl (p_all hK rfl (by rfl) T.n_all (p_lc (own := [("row", 2), ("number", 3)]) rfl nd (i_enum hK (by rfl) T.n_enumerate (p_var (i := 0))) (blkOk_by (N := ["one", "other", "row", "number"]) (sc := defScope s_is_inside_in) (own := [("row", 2), ("number", 3)]) (by decide +kernel)) (fun _ _ _ _ _ => (g_tup hK rfl (gs_cons (g_name (i := 2) nd rfl (by first | exact .inl rfl | exact .inr rfl)) (gs_cons (g_name (i := 3) nd rfl (by first | exact .inl rfl | exact .inr rfl)) gs_nil)) (fun _ _ _ z => tgsCons_len (fun _ _ _ z => tgsCons_len (fun _ _ _ z => tgsNil_len z) z) z))) (fun _ _ _ _ _ => ts_nil) (fun _ _ _ _ _ => (p_le (p_var (i := 3)) (p_call F_number_of hr (by decide) (by rfl) takes0 rfl (eCons_len (eCons_len eNil_len)) (a_cons (p_var (i := 1)) (a_cons (p_var (i := 2)) a_nil))))) (by decide)))))
theorem sc_is_strip_in : FnScope ["outer", "inner", "row", "number"] ["outer", "inner"] (defScope s_is_strip_in) := ⟨rfl, rfl, rfl, by decide +kernel, rfl, by decide +kernel, by decide +kernel⟩
theorem ok_is_strip_in (hK : g.K = K) (T : Txt mg) (FA : FunAt K mg "is_strip_in" "is_strip_in" s_is_strip_in ["outer", "inner"]) (F_is_inside_in : Fn P w K mg base g 2 "is_inside_in" ["one", "other"] d_is_inside_in false) (F_number_of : Fn P w K mg base g 1 "number_of" ["shape", "row"] d_number_of false) : Fn P w K mg base g 3 "is_strip_in" ["outer", "inner"] d_is_strip_in false :=
  have nd := (sc_is_strip_in).nd
  fn_at (k := 2) (extra := 2) false (fun n0 => (sSeq (sIf (eNot (eCall d_is_inside_in (eCons (eVar 1) (eCons (eVar 0) eNil)))) (sRet (eC (.bl false))) sNil) (sRet (eUn fAll (eLc (itEn (eSl (eVar 0) (eoS (eC (.int 1))) eoN)) [2, 3] (tgT (tgsCons (tgN 2) (tgsCons (tgN 3) tgsNil))) tYesD (eBin fLe (eVar 3) (eCall d_number_of (eCons (eVar 1) (eCons (eVar 2) eNil))))))))) FA sc_is_strip_in rfl fun f cdv A outer s H E hr w0 => (ss_cons (s_if (pt_not' (pt_v (p_call F_is_inside_in hr (by decide) (by rfl) (takes_of rfl rfl rfl rfl) rfl (eCons_len (eCons_len eNil_len)) (a_cons (p_var (i := 1)) (a_cons (p_var (i := 0)) a_nil))))) (ss_one (s_ret rfl p_bl)) ss_nil) (ss_one (s_ret rfl (p_all hK rfl (by rfl) T.n_all (p_lc (own := [("row", 2), ("number", 3)]) rfl nd (i_enum hK (by rfl) T.n_enumerate (p_sl hK (p_var (i := 0)) (po_s p_int) po_n)) (blkOk_by (N := ["outer", "inner", "row", "number"]) (sc := defScope s_is_strip_in) (own := [("row", 2), ("number", 3)]) (by decide +kernel)) (fun _ _ _ _ _ => (g_tup hK rfl (gs_cons (g_name (i := 2) nd rfl (by first | exact .inl rfl | exact .inr rfl)) (gs_cons (g_name (i := 3) nd rfl (by first | exact .inl rfl | exact .inr rfl)) gs_nil)) (fun _ _ _ z => tgsCons_len (fun _ _ _ z => tgsCons_len (fun _ _ _ z => tgsNil_len z) z) z))) (fun _ _ _ _ _ => ts_nil) (fun _ _ _ _ _ => (p_le (p_var (i := 3)) (p_call F_number_of hr (by decide) (by rfl) takes0 rfl (eCons_len (eCons_len eNil_len)) (a_cons (p_var (i := 1)) (a_cons (p_var (i := 2)) a_nil))))) (by decide))))))
theorem sc_require_shape : FnScope ["shape"] ["shape"] (defScope s_require_shape) := ⟨rfl, rfl, rfl, by decide +kernel, rfl, by decide +kernel, by decide +kernel⟩
theorem ok_require_shape (hK : g.K = K) (T : Txt mg) (FA : FunAt K mg "require_shape" "require_shape" s_require_shape ["shape"]) (F_is_shape_in : Fn P w K mg base g 3 "is_shape_in" ["value"] d_is_shape_in false) : Fn P w K mg base g 4 "require_shape" ["shape"] d_require_shape false :=
  have nd := (sc_require_shape).nd
  fn_at (k := 3) (extra := 0) false (fun n0 => (sIf (eNot (eCall d_is_shape_in (eCons (eVar 0) eNil))) sNever sNil)) FA sc_require_shape rfl fun f cdv A outer s H E hr w0 => (ss_one (s_if (pt_not' (pt_v (p_call F_is_shape_in hr (by decide) (by rfl) (takes_of rfl rfl rfl rfl) rfl (eCons_len eNil_len) (a_cons (p_var (i := 0)) a_nil)))) (ss_one s_never) ss_nil))
theorem sc_fourth_in : FnScope ["c", "p", "q", "count", "found", "index", "most"] ["c", "p", "q", "count"] (defScope s_fourth_in) := ⟨rfl, rfl, rfl, by decide +kernel, rfl, by decide +kernel, by decide +kernel⟩
theorem ok_fourth_in (hK : g.K = K) (T : Txt mg) (FA : FunAt K mg "fourth_in" "fourth_in" s_fourth_in ["c", "p", "q", "count"]) (F_lean_shape : Fn P w K mg base g 1 "lean_shape" ["numbers"] d_lean_shape false) (F_number_of : Fn P w K mg base g 1 "number_of" ["shape", "row"] d_number_of false) : Fn P w K mg base g 2 "fourth_in" ["c", "p", "q", "count"] d_fourth_in false :=
  have nd := (sc_fourth_in).nd
  fn_at (k := 1) (extra := 3) false (fun n0 => (sSeq (sNew 4 (eCall fLst (eCons (eBin fAdd (eBin fMax2 (eCall d_number_of (eCons (eVar 1) (eCons (eC (.int 0)) eNil))) (eCall d_number_of (eCons (eVar 2) (eCons (eC (.int 0)) eNil)))) (eVar 3)) eNil))) (sSeq (sFor (itR2 (eC (.int 1)) (eBin fAdd (eBin fMax2 (eUn fLen (eVar 1)) (eUn fLen (eVar 2))) (eC (.int 1)))) (tgN 5) (sSeq (sAsg 6 (eBin fMax2 (eCall d_number_of (eCons (eVar 1) (eCons (eVar 5) eNil))) (eCall d_number_of (eCons (eVar 2) (eCons (eVar 5) eNil))))) (sEx (eApp (eVar 4) (eBin fSub (eBin fAdd (eVar 6) (eBin fMin2 (eCall d_number_of (eCons (eVar 1) (eCons (eBin fSub (eVar 5) (eC (.int 1))) eNil))) (eCall d_number_of (eCons (eVar 2) (eCons (eBin fSub (eVar 5) (eC (.int 1))) eNil))))) (eCall d_number_of (eCons (eVar 0) (eCons (eBin fSub (eVar 5) (eC (.int 1))) eNil)))))))) (sSeq (sFrz n0 4) (sRet (eCall d_lean_shape (eCons (eVar 4) eNil))))))) FA sc_fourth_in rfl fun f cdv A outer s H E hr w0 => (ss_cons (s_new (i := 4) nd rfl (by first | exact .inl rfl | exact .inr rfl) (p_lstN (a_cons (p_add hK (p_max2 rfl (by rfl) T.n_max (p_call F_number_of hr (by decide) (by rfl) (takes_of rfl rfl rfl rfl) rfl (eCons_len (eCons_len eNil_len)) (a_cons (p_var (i := 1)) (a_cons p_int a_nil))) (p_call F_number_of hr (by decide) (by rfl) (takes_of rfl rfl rfl rfl) rfl (eCons_len (eCons_len eNil_len)) (a_cons (p_var (i := 2)) (a_cons p_int a_nil)))) (p_var (i := 3))) a_nil))) (ss_cons (s_for' (passes_of rfl) rfl (i_range2 (by rfl) T.n_range p_int (p_add hK (p_max2 rfl (by rfl) T.n_max (p_len hK (by rfl) T.n_len (p_var (i := 1))) (p_len hK (by rfl) T.n_len (p_var (i := 2)))) p_int)) (g_name (i := 5) nd rfl (by first | exact .inl rfl | exact .inr rfl)) (ss_cons (s_asg (i := 6) nd rfl (by first | exact .inl rfl | exact .inr rfl) (p_max2 rfl (by rfl) T.n_max (p_call F_number_of hr (by decide) (by rfl) (takes_of rfl rfl rfl rfl) rfl (eCons_len (eCons_len eNil_len)) (a_cons (p_var (i := 1)) (a_cons (p_var (i := 5)) a_nil))) (p_call F_number_of hr (by decide) (by rfl) (takes_of rfl rfl rfl rfl) rfl (eCons_len (eCons_len eNil_len)) (a_cons (p_var (i := 2)) (a_cons (p_var (i := 5)) a_nil))))) (ss_one (s_ex (p_app hK (p_var (i := 4)) (p_sub (p_add hK (p_var (i := 6)) (p_min2 rfl (by rfl) T.n_min (p_call F_number_of hr (by decide) (by rfl) (takes_of rfl rfl rfl rfl) rfl (eCons_len (eCons_len eNil_len)) (a_cons (p_var (i := 1)) (a_cons (p_sub (p_var (i := 5)) p_int) a_nil))) (p_call F_number_of hr (by decide) (by rfl) (takes_of rfl rfl rfl rfl) rfl (eCons_len (eCons_len eNil_len)) (a_cons (p_var (i := 2)) (a_cons (p_sub (p_var (i := 5)) p_int) a_nil))))) (p_call F_number_of hr (by decide) (by rfl) (takes_of rfl rfl rfl rfl) rfl (eCons_len (eCons_len eNil_len)) (a_cons (p_var (i := 0)) (a_cons (p_sub (p_var (i := 5)) p_int) a_nil))))))))) (ss_frz rfl (ss_one (s_ret rfl (p_call F_lean_shape hr (by decide) (by rfl) (takes_of rfl rfl rfl rfl) rfl (eCons_len eNil_len) (a_cons (p_var (i := 4)) a_nil)))))))
theorem sc_corner_in : FnScope ["p", "q", "f", "found", "index", "most"] ["p", "q", "f"] (defScope s_corner_in) := ⟨rfl, rfl, rfl, by decide +kernel, rfl, by decide +kernel, by decide +kernel⟩
theorem ok_corner_in (hK : g.K = K) (T : Txt mg) (FA : FunAt K mg "corner_in" "corner_in" s_corner_in ["p", "q", "f"]) (F_lean_shape : Fn P w K mg base g 1 "lean_shape" ["numbers"] d_lean_shape false) (F_number_of : Fn P w K mg base g 1 "number_of" ["shape", "row"] d_number_of false) : Fn P w K mg base g 2 "corner_in" ["p", "q", "f"] d_corner_in false :=
  have nd := (sc_corner_in).nd
  fn_at (k := 1) (extra := 3) false (fun n0 => (sSeq (sNew 3 (eCall fLst eNil)) (sSeq (sFor (itR2 (eC (.int 1)) (eBin fAdd (eCall fMax3 (eCons (eUn fLen (eVar 0)) (eCons (eUn fLen (eVar 1)) (eCons (eUn fLen (eVar 2)) eNil)))) (eC (.int 1)))) (tgN 4) (sSeq (sAsg 5 (eBin fMax2 (eCall d_number_of (eCons (eVar 0) (eCons (eVar 4) eNil))) (eCall d_number_of (eCons (eVar 1) (eCons (eVar 4) eNil))))) (sEx (eApp (eVar 3) (eBin fSub (eBin fAdd (eVar 5) (eBin fMin2 (eCall d_number_of (eCons (eVar 0) (eCons (eBin fSub (eVar 4) (eC (.int 1))) eNil))) (eCall d_number_of (eCons (eVar 1) (eCons (eBin fSub (eVar 4) (eC (.int 1))) eNil))))) (eCall d_number_of (eCons (eVar 2) (eCons (eVar 4) eNil)))))))) (sSeq (sFrz n0 3) (sRet (eCall fTup (eCons (eCall d_lean_shape (eCons (eVar 3) eNil)) (eCons (eBin fSub (eCall d_number_of (eCons (eVar 2) (eCons (eC (.int 0)) eNil))) (eBin fMax2 (eCall d_number_of (eCons (eVar 0) (eCons (eC (.int 0)) eNil))) (eCall d_number_of (eCons (eVar 1) (eCons (eC (.int 0)) eNil))))) eNil)))))))) FA sc_corner_in rfl fun f cdv A outer s H E hr w0 => (ss_cons (s_new (i := 3) nd rfl (by first | exact .inl rfl | exact .inr rfl) (p_lstN a_nil)) (ss_cons (s_for' (passes_of rfl) rfl (i_range2 (by rfl) T.n_range p_int (p_add hK (p_max3 rfl (by rfl) T.n_max (a_cons (p_len hK (by rfl) T.n_len (p_var (i := 0))) (a_cons (p_len hK (by rfl) T.n_len (p_var (i := 1))) (a_cons (p_len hK (by rfl) T.n_len (p_var (i := 2))) a_nil)))) p_int)) (g_name (i := 4) nd rfl (by first | exact .inl rfl | exact .inr rfl)) (ss_cons (s_asg (i := 5) nd rfl (by first | exact .inl rfl | exact .inr rfl) (p_max2 rfl (by rfl) T.n_max (p_call F_number_of hr (by decide) (by rfl) (takes_of rfl rfl rfl rfl) rfl (eCons_len (eCons_len eNil_len)) (a_cons (p_var (i := 0)) (a_cons (p_var (i := 4)) a_nil))) (p_call F_number_of hr (by decide) (by rfl) (takes_of rfl rfl rfl rfl) rfl (eCons_len (eCons_len eNil_len)) (a_cons (p_var (i := 1)) (a_cons (p_var (i := 4)) a_nil))))) (ss_one (s_ex (p_app hK (p_var (i := 3)) (p_sub (p_add hK (p_var (i := 5)) (p_min2 rfl (by rfl) T.n_min (p_call F_number_of hr (by decide) (by rfl) (takes_of rfl rfl rfl rfl) rfl (eCons_len (eCons_len eNil_len)) (a_cons (p_var (i := 0)) (a_cons (p_sub (p_var (i := 4)) p_int) a_nil))) (p_call F_number_of hr (by decide) (by rfl) (takes_of rfl rfl rfl rfl) rfl (eCons_len (eCons_len eNil_len)) (a_cons (p_var (i := 1)) (a_cons (p_sub (p_var (i := 4)) p_int) a_nil))))) (p_call F_number_of hr (by decide) (by rfl) (takes_of rfl rfl rfl rfl) rfl (eCons_len (eCons_len eNil_len)) (a_cons (p_var (i := 2)) (a_cons (p_var (i := 4)) a_nil))))))))) (ss_frz rfl (ss_one (s_ret rfl (p_tup (a_cons (p_call F_lean_shape hr (by decide) (by rfl) (takes_of rfl rfl rfl rfl) rfl (eCons_len eNil_len) (a_cons (p_var (i := 3)) a_nil)) (a_cons (p_sub (p_call F_number_of hr (by decide) (by rfl) (takes_of rfl rfl rfl rfl) rfl (eCons_len (eCons_len eNil_len)) (a_cons (p_var (i := 2)) (a_cons p_int a_nil))) (p_max2 rfl (by rfl) T.n_max (p_call F_number_of hr (by decide) (by rfl) (takes_of rfl rfl rfl rfl) rfl (eCons_len (eCons_len eNil_len)) (a_cons (p_var (i := 0)) (a_cons p_int a_nil))) (p_call F_number_of hr (by decide) (by rfl) (takes_of rfl rfl rfl rfl) rfl (eCons_len (eCons_len eNil_len)) (a_cons (p_var (i := 1)) (a_cons p_int a_nil))))) a_nil))))))))
theorem sc_require_shapes : FnScope ["shapes", "shape"] ["shapes"] (defScope s_require_shapes) := ⟨rfl, rfl, rfl, by decide +kernel, rfl, by decide +kernel, by decide +kernel⟩
theorem ok_require_shapes (hK : g.K = K) (T : Txt mg) (FA : FunS K mg "require_shapes" "require_shapes" s_require_shapes "shapes") (F_require_shape : Fn P w K mg base g 4 "require_shape" ["shape"] d_require_shape false) : FnS P w K mg base g 5 "require_shapes" d_require_shapes :=
  have nd := (sc_require_shapes).nd
  fn_atS (k := 4) (extra := 1) (fun n0 => (sFor (itV (eVar 0)) (tgN 1) (sEx (eCall d_require_shape (eCons (eVar 1) eNil))))) FA sc_require_shapes rfl fun f cdv A outer s H E hr w0 => (ss_one (s_for' (passes_of rfl) rfl (i_val hK (p_var (i := 0))) (g_name (i := 1) nd rfl (by first | exact .inl rfl | exact .inr rfl)) (ss_one (s_ex (p_call F_require_shape hr (by decide) (by rfl) (takes_of rfl rfl rfl rfl) rfl (eCons_len eNil_len) (a_cons (p_var (i := 1)) a_nil))))))
theorem sc_fourth_shape : FnScope ["c", "p", "q", "count", "found"] ["c", "p", "q", "count"] (defScope s_fourth_shape) := ⟨rfl, rfl, rfl, by decide +kernel, rfl, by decide +kernel, by decide +kernel⟩
theorem ok_fourth_shape (hK : g.K = K) (T : Txt mg) (FA : FunAt K mg "fourth_shape" "fourth_shape" s_fourth_shape ["c", "p", "q", "count"]) (F_fourth_in : Fn P w K mg base g 2 "fourth_in" ["c", "p", "q", "count"] d_fourth_in false) (F_is_strip_in : Fn P w K mg base g 3 "is_strip_in" ["outer", "inner"] d_is_strip_in false) (F_require_shapes : FnS P w K mg base g 5 "require_shapes" d_require_shapes) (F_require_within : Fn P w K mg base g 3 "require_within" ["value", "low", "most"] d_require_within false) : Fn P w K mg base g 6 "fourth_shape" ["c", "p", "q", "count"] d_fourth_shape false :=
  have nd := (sc_fourth_shape).nd
  fn_at (k := 5) (extra := 1) false (fun n0 => (sSeq (sEx (eCall (fun xs S => (fTup xs S).bind fun t S1 => d_require_shapes [t] S1) (eCons (eVar 0) (eCons (eVar 1) (eCons (eVar 2) eNil))))) (sSeq (sEx (eCall d_require_within (eCons (eVar 3) (eCons (eC (.int 0)) (eCons (eC (.int 10000000000000000000000000000000000000000000000000000000000000000)) eNil))))) (sSeq (sIf (eOr (eNot (eCall d_is_strip_in (eCons (eVar 1) (eCons (eVar 0) eNil)))) (eNot (eCall d_is_strip_in (eCons (eVar 2) (eCons (eVar 0) eNil))))) sNever sNil) (sSeq (sAsg 4 (eCall d_fourth_in (eCons (eVar 0) (eCons (eVar 1) (eCons (eVar 2) (eCons (eVar 3) eNil)))))) (sSeq (sIf (eBin fGt (eUn fLen (eVar 4)) (eC (.int 8))) sNever sNil) (sSeq (sIf (eBin fGt (eUn fSum (eVar 4)) (eC (.int 10000000000000000000000000000000000000000000000000000000000000000))) sNever sNil) (sRet (eVar 4))))))))) FA sc_fourth_shape rfl fun f cdv A outer s H E hr w0 => (ss_cons (s_ex (p_callS F_require_shapes hr (by decide) (by rfl) (takes_of rfl rfl rfl rfl) (a_cons (p_var (i := 0)) (a_cons (p_var (i := 1)) (a_cons (p_var (i := 2)) a_nil))))) (ss_cons (s_ex (p_call F_require_within hr (by decide) (by rfl) (takes_of rfl rfl rfl rfl) rfl (eCons_len (eCons_len (eCons_len eNil_len))) (a_cons (p_var (i := 3)) (a_cons p_int (a_cons (p_globE (by rfl) T.c_MOST_TOTAL) a_nil))))) (ss_cons (s_if (PW.pt (pw_or' (pt_not' (pt_v (p_call F_is_strip_in hr (by decide) (by rfl) (takes_of rfl rfl rfl rfl) rfl (eCons_len (eCons_len eNil_len)) (a_cons (p_var (i := 1)) (a_cons (p_var (i := 0)) a_nil))))) (pw_or1' (pt_not' (pt_v (p_call F_is_strip_in hr (by decide) (by rfl) (takes_of rfl rfl rfl rfl) rfl (eCons_len (eCons_len eNil_len)) (a_cons (p_var (i := 2)) (a_cons (p_var (i := 0)) a_nil)))))))) (ss_one s_never) ss_nil) (ss_cons (s_asg (i := 4) nd rfl (by first | exact .inl rfl | exact .inr rfl) (p_call F_fourth_in hr (by decide) (by rfl) (takes_of rfl rfl rfl rfl) rfl (eCons_len (eCons_len (eCons_len (eCons_len eNil_len)))) (a_cons (p_var (i := 0)) (a_cons (p_var (i := 1)) (a_cons (p_var (i := 2)) (a_cons (p_var (i := 3)) a_nil)))))) (ss_cons (s_if (t_gt (p_len hK (by rfl) T.n_len (p_var (i := 4))) (p_globE (by rfl) T.c_MOST_WIDTH)) (ss_one s_never) ss_nil) (ss_cons (s_if (t_gt (p_sum hK rfl (by rfl) T.n_sum (p_var (i := 4))) (p_globE (by rfl) T.c_MOST_TOTAL)) (ss_one s_never) ss_nil) (ss_one (s_ret rfl (p_var (i := 4))))))))))
theorem sc_corner_back : FnScope ["p", "q", "f"] ["p", "q", "f"] (defScope s_corner_back) := ⟨rfl, rfl, rfl, by decide +kernel, rfl, by decide +kernel, by decide +kernel⟩
theorem ok_corner_back (hK : g.K = K) (T : Txt mg) (FA : FunAt K mg "corner_back" "corner_back" s_corner_back ["p", "q", "f"]) (F_corner_in : Fn P w K mg base g 2 "corner_in" ["p", "q", "f"] d_corner_in false) (F_is_strip_in : Fn P w K mg base g 3 "is_strip_in" ["outer", "inner"] d_is_strip_in false) (F_require_shapes : FnS P w K mg base g 5 "require_shapes" d_require_shapes) : Fn P w K mg base g 6 "corner_back" ["p", "q", "f"] d_corner_back false :=
  have nd := (sc_corner_back).nd
  fn_at (k := 5) (extra := 0) false (fun n0 => (sSeq (sEx (eCall (fun xs S => (fTup xs S).bind fun t S1 => d_require_shapes [t] S1) (eCons (eVar 0) (eCons (eVar 1) (eCons (eVar 2) eNil))))) (sSeq (sIf (eOr (eNot (eCall d_is_strip_in (eCons (eVar 2) (eCons (eVar 0) eNil)))) (eNot (eCall d_is_strip_in (eCons (eVar 2) (eCons (eVar 1) eNil))))) sNever sNil) (sRet (eCall d_corner_in (eCons (eVar 0) (eCons (eVar 1) (eCons (eVar 2) eNil)))))))) FA sc_corner_back rfl fun f cdv A outer s H E hr w0 => (ss_cons (s_ex (p_callS F_require_shapes hr (by decide) (by rfl) (takes_of rfl rfl rfl rfl) (a_cons (p_var (i := 0)) (a_cons (p_var (i := 1)) (a_cons (p_var (i := 2)) a_nil))))) (ss_cons (s_if (PW.pt (pw_or' (pt_not' (pt_v (p_call F_is_strip_in hr (by decide) (by rfl) (takes_of rfl rfl rfl rfl) rfl (eCons_len (eCons_len eNil_len)) (a_cons (p_var (i := 2)) (a_cons (p_var (i := 0)) a_nil))))) (pw_or1' (pt_not' (pt_v (p_call F_is_strip_in hr (by decide) (by rfl) (takes_of rfl rfl rfl rfl) rfl (eCons_len (eCons_len eNil_len)) (a_cons (p_var (i := 2)) (a_cons (p_var (i := 1)) a_nil)))))))) (ss_one s_never) ss_nil) (ss_one (s_ret rfl (p_call F_corner_in hr (by decide) (by rfl) (takes_of rfl rfl rfl rfl) rfl (eCons_len (eCons_len (eCons_len eNil_len))) (a_cons (p_var (i := 0)) (a_cons (p_var (i := 1)) (a_cons (p_var (i := 2)) a_nil))))))))
theorem sc_is_square : FnScope ["c", "p", "q", "count", "f"] ["c", "p", "q", "count", "f"] (defScope s_is_square) := ⟨rfl, rfl, rfl, by decide +kernel, rfl, by decide +kernel, by decide +kernel⟩
theorem ok_is_square (hK : g.K = K) (T : Txt mg) (FA : FunAt K mg "is_square" "is_square" s_is_square ["c", "p", "q", "count", "f"]) (F_fourth_in : Fn P w K mg base g 2 "fourth_in" ["c", "p", "q", "count"] d_fourth_in false) (F_is_strip_in : Fn P w K mg base g 3 "is_strip_in" ["outer", "inner"] d_is_strip_in false) (F_require_shape : Fn P w K mg base g 4 "require_shape" ["shape"] d_require_shape false) (F_require_shapes : FnS P w K mg base g 5 "require_shapes" d_require_shapes) (F_require_within : Fn P w K mg base g 3 "require_within" ["value", "low", "most"] d_require_within false) : Fn P w K mg base g 6 "is_square" ["c", "p", "q", "count", "f"] d_is_square false :=
  have nd := (sc_is_square).nd
  fn_at (k := 5) (extra := 0) false (fun n0 => (sSeq (sEx (eCall (fun xs S => (fTup xs S).bind fun t S1 => d_require_shapes [t] S1) (eCons (eVar 0) (eCons (eVar 1) (eCons (eVar 2) eNil))))) (sSeq (sEx (eCall d_require_within (eCons (eVar 3) (eCons (eC (.int 0)) (eCons (eC (.int 10000000000000000000000000000000000000000000000000000000000000000)) eNil))))) (sSeq (sEx (eCall d_require_shape (eCons (eVar 4) eNil))) (sRet (eAnd (eCall d_is_strip_in (eCons (eVar 1) (eCons (eVar 0) eNil))) (eAnd (eCall d_is_strip_in (eCons (eVar 2) (eCons (eVar 0) eNil))) (eBin fEq (eCall d_fourth_in (eCons (eVar 0) (eCons (eVar 1) (eCons (eVar 2) (eCons (eVar 3) eNil))))) (eVar 4))))))))) FA sc_is_square rfl fun f cdv A outer s H E hr w0 => (ss_cons (s_ex (p_callS F_require_shapes hr (by decide) (by rfl) (takes_of rfl rfl rfl rfl) (a_cons (p_var (i := 0)) (a_cons (p_var (i := 1)) (a_cons (p_var (i := 2)) a_nil))))) (ss_cons (s_ex (p_call F_require_within hr (by decide) (by rfl) (takes_of rfl rfl rfl rfl) rfl (eCons_len (eCons_len (eCons_len eNil_len))) (a_cons (p_var (i := 3)) (a_cons p_int (a_cons (p_globE (by rfl) T.c_MOST_TOTAL) a_nil))))) (ss_cons (s_ex (p_call F_require_shape hr (by decide) (by rfl) (takes_of rfl rfl rfl rfl) rfl (eCons_len eNil_len) (a_cons (p_var (i := 4)) a_nil))) (ss_one (s_ret rfl (p_and (p_call F_is_strip_in hr (by decide) (by rfl) (takes_of rfl rfl rfl rfl) rfl (eCons_len (eCons_len eNil_len)) (a_cons (p_var (i := 1)) (a_cons (p_var (i := 0)) a_nil))) (p_and (p_call F_is_strip_in hr (by decide) (by rfl) (takes_of rfl rfl rfl rfl) rfl (eCons_len (eCons_len eNil_len)) (a_cons (p_var (i := 2)) (a_cons (p_var (i := 0)) a_nil))) (p_and1 (p_eq hK hr (p_call F_fourth_in hr (by decide) (by rfl) (takes_of rfl rfl rfl rfl) rfl (eCons_len (eCons_len (eCons_len (eCons_len eNil_len)))) (a_cons (p_var (i := 0)) (a_cons (p_var (i := 1)) (a_cons (p_var (i := 2)) (a_cons (p_var (i := 3)) a_nil))))) (p_var (i := 4)))))))))))
theorem sc__law_dice : FnScope ["script", "spot", "cell", "great", "seed"] ["script", "spot"] (defScope s__law_dice) := ⟨rfl, rfl, rfl, by decide +kernel, rfl, by decide +kernel, by decide +kernel⟩
theorem ok__law_dice (hK : g.K = K) (T : Txt mg) (FA : FunAt K mg "_law_dice" "_law_dice" s__law_dice ["script", "spot"])  : Fn P w K mg base g 1 "_law_dice" ["script", "spot"] d__law_dice false :=
  have nd := (sc__law_dice).nd
  fn_at (k := 0) (extra := 3) false (fun n0 => (sSeq (sAsg 2 (eIf (eBin fLt (eVar 1) (eUn fLen (eVar 0))) (eUn fInt (eBin fIx (eVar 0) (eVar 1))) (eBin fAdd (eBin fMul (eC (.int 233)) (eVar 1)) (eC (.int 113))))) (sSeq (sAsg 3 (eBin fMod (eUn fInt (eUn fAbs (eVar 2))) (eBin fPow (eBin fPow (eC (.int 10)) (eC (.int 54))) (eC (.int 6))))) (sSeq (sAsg 4 (eBin fAdd (eBin fAdd (eBin fAdd (eBin fMul (eBin fMod (eVar 3) (eC (.int 2305843009213693921))) (eC (.int 97))) (eBin fMul (eC (.int 733)) (eVar 1))) (eBin fMul (eC (.int 67)) (eUn fInt (eBin fLt (eVar 2) (eC (.int 0)))))) (eC (.int 53)))) (sRet (eCall fLst (eCons (eBin fMax2 (eC (.int 0)) (eBin fSub (eVar 3) (eBin fPow (eC (.int 10)) (eC (.int 16))))) (eCons (eVar 4) (eCons (eC (.int 0)) eNil))))))))) FA sc__law_dice rfl fun f cdv A outer s H E hr w0 => (ss_cons (s_asg (i := 2) nd rfl (by first | exact .inl rfl | exact .inr rfl) (p_if (t_lt (p_var (i := 1)) (p_len hK (by rfl) T.n_len (p_var (i := 0)))) (p_int' (by rfl) T.n_int (p_ix hK (p_var (i := 0)) (p_var (i := 1)))) (p_add hK (p_mul hK p_int (p_var (i := 1))) p_int))) (ss_cons (s_asg (i := 3) nd rfl (by first | exact .inl rfl | exact .inr rfl) (p_mod (p_int' (by rfl) T.n_int (p_abs (by rfl) T.n_abs (p_var (i := 2)))) (p_pow (p_pow p_int p_int) p_int))) (ss_cons (s_asg (i := 4) nd rfl (by first | exact .inl rfl | exact .inr rfl) (p_add hK (p_add hK (p_add hK (p_mul hK (p_mod (p_var (i := 3)) p_int) p_int) (p_mul hK p_int (p_var (i := 1)))) (p_mul hK p_int (p_int' (by rfl) T.n_int (p_lt (p_var (i := 2)) p_int)))) p_int)) (ss_one (s_ret rfl (p_lst (a_cons (p_max2 rfl (by rfl) T.n_max p_int (p_sub (p_var (i := 3)) (p_pow p_int p_int))) (a_cons (p_var (i := 4)) (a_cons p_int a_nil)))))))))
theorem ok__law_dice_N (hK : g.K = K) (T : Txt mg) (FA : FunAt K mg "_law_dice" "_law_dice" s__law_dice ["script", "spot"])  : Fn P w K mg base g 1 "_law_dice" ["script", "spot"] d__law_dice true :=
  have nd := (sc__law_dice).nd
  fn_at (k := 0) (extra := 3) true (fun n0 => (sSeq (sAsg 2 (eIf (eBin fLt (eVar 1) (eUn fLen (eVar 0))) (eUn fInt (eBin fIx (eVar 0) (eVar 1))) (eBin fAdd (eBin fMul (eC (.int 233)) (eVar 1)) (eC (.int 113))))) (sSeq (sAsg 3 (eBin fMod (eUn fInt (eUn fAbs (eVar 2))) (eBin fPow (eBin fPow (eC (.int 10)) (eC (.int 54))) (eC (.int 6))))) (sSeq (sAsg 4 (eBin fAdd (eBin fAdd (eBin fAdd (eBin fMul (eBin fMod (eVar 3) (eC (.int 2305843009213693921))) (eC (.int 97))) (eBin fMul (eC (.int 733)) (eVar 1))) (eBin fMul (eC (.int 67)) (eUn fInt (eBin fLt (eVar 2) (eC (.int 0)))))) (eC (.int 53)))) (sRet (eCall fLst (eCons (eBin fMax2 (eC (.int 0)) (eBin fSub (eVar 3) (eBin fPow (eC (.int 10)) (eC (.int 16))))) (eCons (eVar 4) (eCons (eC (.int 0)) eNil))))))))) FA sc__law_dice rfl fun f cdv A outer s H E hr w0 => (ss_cons (s_asg (i := 2) nd rfl (by first | exact .inl rfl | exact .inr rfl) (p_if (t_lt (p_var (i := 1)) (p_len hK (by rfl) T.n_len (p_var (i := 0)))) (p_int' (by rfl) T.n_int (p_ix hK (p_var (i := 0)) (p_var (i := 1)))) (p_add hK (p_mul hK p_int (p_var (i := 1))) p_int))) (ss_cons (s_asg (i := 3) nd rfl (by first | exact .inl rfl | exact .inr rfl) (p_mod (p_int' (by rfl) T.n_int (p_abs (by rfl) T.n_abs (p_var (i := 2)))) (p_pow (p_pow p_int p_int) p_int))) (ss_cons (s_asg (i := 4) nd rfl (by first | exact .inl rfl | exact .inr rfl) (p_add hK (p_add hK (p_add hK (p_mul hK (p_mod (p_var (i := 3)) p_int) p_int) (p_mul hK p_int (p_var (i := 1)))) (p_mul hK p_int (p_int' (by rfl) T.n_int (p_lt (p_var (i := 2)) p_int)))) p_int)) (ss_one (s_retNew rfl (p_lstN (a_cons (p_max2 rfl (by rfl) T.n_max p_int (p_sub (p_var (i := 3)) (p_pow p_int p_int))) (a_cons (p_var (i := 4)) (a_cons p_int a_nil)))))))))
theorem sc__law_roll : FnScope ["dice", "total", "one", "two", "found"] ["dice", "total"] (defScope s__law_roll) := ⟨rfl, rfl, rfl, by decide +kernel, rfl, by decide +kernel, by decide +kernel⟩
theorem ok__law_roll (hK : g.K = K) (T : Txt mg) (FA : FunAt K mg "_law_roll" "_law_roll" s__law_roll ["dice", "total"])  : Fn P w K mg base g 1 "_law_roll" ["dice", "total"] d__law_roll false :=
  have nd := (sc__law_roll).nd
  fn_at (k := 0) (extra := 3) false (fun n0 => (sSeq (sIf (eBin fGt (eBin fIx (eVar 0) (eC (.int 0))) (eC (.int 0))) (sSeq (sAsg 4 (eBin fMod (eBin fIx (eVar 0) (eC (.int 0))) (eVar 1))) (sSeq (sSet (eVar 0) (eC (.int 0)) (eBin fDiv (eBin fIx (eVar 0) (eC (.int 0))) (eVar 1))) (sRet (eUn fInt (eVar 4))))) sNil) (sSeq (sSet (eVar 0) (eC (.int 2)) (eBin fAdd (eBin fIx (eVar 0) (eC (.int 2))) (eC (.int 1)))) (sSeq (sAsg 2 (eBin fMod (eBin fAdd (eBin fIx (eVar 0) (eC (.int 1))) (eBin fMul (eC (.int 86028121)) (eBin fIx (eVar 0) (eC (.int 2))))) (eC (.int 2305843009213693951)))) (sSeq (sAsg 3 (eBin fAdd (eBin fMul (eBin fMod (eBin fAdd (eBin fMul (eVar 2) (eVar 2)) (eBin fMul (eC (.int 191)) (eBin fIx (eVar 0) (eC (.int 2))))) (eC (.int 2305843009213693907))) (eC (.int 15485867))) (eVar 2))) (sRet (eBin fMod (eUn fInt (eBin fDiv (eVar 3) (eC (.int 65537)))) (eVar 1)))))))) FA sc__law_roll rfl fun f cdv A outer s H E hr w0 => (ss_cons (s_if (t_gt (p_ix hK (p_var (i := 0)) p_int) p_int) (ss_cons (s_asg (i := 4) nd rfl (by first | exact .inl rfl | exact .inr rfl) (p_mod (p_ix hK (p_var (i := 0)) p_int) (p_var (i := 1)))) (ss_cons (s_set (p_var (i := 0)) p_int (p_div (p_ix hK (p_var (i := 0)) p_int) (p_var (i := 1)))) (ss_one (s_ret rfl (p_int' (by rfl) T.n_int (p_var (i := 4))))))) ss_nil) (ss_cons (s_set (p_var (i := 0)) p_int (p_add hK (p_ix hK (p_var (i := 0)) p_int) p_int)) (ss_cons (s_asg (i := 2) nd rfl (by first | exact .inl rfl | exact .inr rfl) (p_mod (p_add hK (p_ix hK (p_var (i := 0)) p_int) (p_mul hK p_int (p_ix hK (p_var (i := 0)) p_int))) p_int)) (ss_cons (s_asg (i := 3) nd rfl (by first | exact .inl rfl | exact .inr rfl) (p_add hK (p_mul hK (p_mod (p_add hK (p_mul hK (p_var (i := 2)) (p_var (i := 2))) (p_mul hK p_int (p_ix hK (p_var (i := 0)) p_int))) p_int) p_int) (p_var (i := 2)))) (ss_one (s_ret rfl (p_mod (p_int' (by rfl) T.n_int (p_div (p_var (i := 3)) p_int)) (p_var (i := 1)))))))))
theorem sc__law_far : FnScope ["dice", "total", "found", "left"] ["dice", "total"] (defScope s__law_far) := ⟨rfl, rfl, rfl, by decide +kernel, rfl, by decide +kernel, by decide +kernel⟩
theorem ok__law_far (hK : g.K = K) (T : Txt mg) (FA : FunAt K mg "_law_far" "_law_far" s__law_far ["dice", "total"]) (F__law_roll : Fn P w K mg base g 1 "_law_roll" ["dice", "total"] d__law_roll false) : Fn P w K mg base g 2 "_law_far" ["dice", "total"] d__law_far false :=
  have nd := (sc__law_far).nd
  fn_at (k := 1) (extra := 2) false (fun n0 => (sSeq (sPar 2 3 (eC (.int 0)) (eVar 1)) (sSeq (whD (eBin fGt (eVar 3) (eC (.int 1))) (sPar 2 3 (eBin fAdd (eBin fMul (eVar 2) (eBin fPow (eC (.int 10)) (eC (.int 18)))) (eCall d__law_roll (eCons (eVar 0) (eCons (eBin fPow (eC (.int 10)) (eC (.int 18))) eNil)))) (eBin fDiv (eVar 3) (eBin fPow (eC (.int 10)) (eC (.int 18))))) fuel) (sRet (eBin fMod (eVar 2) (eVar 1)))))) FA sc__law_far rfl fun f cdv A outer s H E hr w0 => (ss_cons (s_par (i := 2) (j := 3) rfl nd rfl rfl (by decide) rfl rfl p_int (p_var (i := 1)) (by rfl)) (ss_cons (s_while fuel (passes_of rfl) (t_gt (p_var (i := 3)) p_int) (ss_one (s_par (i := 2) (j := 3) rfl nd rfl rfl (by decide) rfl rfl (p_add hK (p_mul hK (p_var (i := 2)) (p_pow p_int p_int)) (p_call F__law_roll hr (by decide) (by rfl) (takes_of rfl rfl rfl rfl) rfl (eCons_len (eCons_len eNil_len)) (a_cons (p_var (i := 0)) (a_cons (p_pow p_int p_int) a_nil)))) (p_div (p_var (i := 3)) (p_pow p_int p_int)) (by rfl)))) (ss_one (s_ret rfl (p_mod (p_var (i := 2)) (p_var (i := 1)))))))
theorem sc__law_shape : FnScope ["dice", "most", "size", "found", "row"] ["dice", "most", "size"] (defScope s__law_shape) := ⟨rfl, rfl, rfl, by decide +kernel, rfl, by decide +kernel, by decide +kernel⟩
theorem ok__law_shape (hK : g.K = K) (T : Txt mg) (FA : FunAt K mg "_law_shape" "_law_shape" s__law_shape ["dice", "most", "size"]) (F__law_far : Fn P w K mg base g 2 "_law_far" ["dice", "total"] d__law_far false) (F__law_roll : Fn P w K mg base g 1 "_law_roll" ["dice", "total"] d__law_roll false) : Fn P w K mg base g 3 "_law_shape" ["dice", "most", "size"] d__law_shape false :=
  have nd := (sc__law_shape).nd
  fn_at (k := 2) (extra := 2) false (fun n0 => (sSeq (sAsg 3 (eUn fSorted (eLc (itR1 (eCall d__law_roll (eCons (eVar 0) (eCons (eBin fAdd (eVar 1) (eC (.int 1))) eNil)))) [4] (tgN 4) tYesD (eBin fAdd (eC (.int 1)) (eCall d__law_far (eCons (eVar 0) (eCons (eVar 2) eNil))))))) (sRet (eUn fTuple (eUn fRev (eVar 3)))))) FA sc__law_shape rfl fun f cdv A outer s H E hr w0 => (ss_cons (s_asg (i := 3) nd rfl (by first | exact .inl rfl | exact .inr rfl) (p_sorted hK (by rfl) T.n_sorted (p_lc (own := [("row", 4)]) rfl nd (i_range1 (by rfl) T.n_range (p_call F__law_roll hr (by decide) (by rfl) (takes_of rfl rfl rfl rfl) rfl (eCons_len (eCons_len eNil_len)) (a_cons (p_var (i := 0)) (a_cons (p_add hK (p_var (i := 1)) p_int) a_nil)))) (blkOk_by (N := ["dice", "most", "size", "found", "row"]) (sc := defScope s__law_shape) (own := [("row", 4)]) (by decide +kernel)) (fun _ _ _ _ _ => (g_name (i := 4) nd rfl (by first | exact .inl rfl | exact .inr rfl))) (fun _ _ _ _ _ => ts_nil) (fun _ _ _ _ _ => (p_add hK p_int (p_call F__law_far hr (by decide) (by rfl) takes0 rfl (eCons_len (eCons_len eNil_len)) (a_cons (p_var (i := 0)) (a_cons (p_var (i := 2)) a_nil))))) (by decide)))) (ss_one (s_ret rfl (p_tuple hK (by rfl) T.n_tuple (p_rev hK (p_var (i := 3)))))))
theorem sc__law_wider : FnScope ["dice", "shape", "more", "found", "row", "number", "room"] ["dice", "shape", "more"] (defScope s__law_wider) := ⟨rfl, rfl, rfl, by decide +kernel, rfl, by decide +kernel, by decide +kernel⟩
theorem ok__law_wider (hK : g.K = K) (T : Txt mg) (FA : FunAt K mg "_law_wider" "_law_wider" s__law_wider ["dice", "shape", "more"]) (F__law_far : Fn P w K mg base g 2 "_law_far" ["dice", "total"] d__law_far false) : Fn P w K mg base g 3 "_law_wider" ["dice", "shape", "more"] d__law_wider false :=
  have nd := (sc__law_wider).nd
  fn_at (k := 2) (extra := 4) false (fun n0 => (sSeq (sNew 3 (eCall fLst eNil)) (sSeq (sFor (itEn (eBin fAdd (eVar 1) (eCall fTup (eCons (eC (.int 0)) eNil)))) (tgT (tgsCons (tgN 4) (tgsCons (tgN 5) tgsNil))) (sSeq (sAsg 6 (eIf (eBin fEq (eVar 4) (eC (.int 0))) (eVar 2) (eBin fAdd (eBin fSub (eBin fIx (eVar 1) (eBin fSub (eVar 4) (eC (.int 1)))) (eVar 5)) (eC (.int 1))))) (sEx (eApp (eVar 3) (eBin fAdd (eVar 5) (eCall d__law_far (eCons (eVar 0) (eCons (eVar 6) eNil)))))))) (sSeq (sFrz n0 3) (sRet (eUn fTuple (eLc (itV (eVar 3)) [5] (tgN 5) (eTest (eBin fGt (eVar 5) (eC (.int 0)))) (eVar 5)))))))) FA sc__law_wider rfl fun f cdv A outer s H E hr w0 => (ss_cons (s_new (i := 3) nd rfl (by first | exact .inl rfl | exact .inr rfl) (p_lstN a_nil)) (ss_cons (s_for' (passes_of rfl) rfl (i_enum hK (by rfl) T.n_enumerate (p_add hK (p_var (i := 1)) (p_tup (a_cons p_int a_nil)))) (g_tup hK rfl (gs_cons (g_name (i := 4) nd rfl (by first | exact .inl rfl | exact .inr rfl)) (gs_cons (g_name (i := 5) nd rfl (by first | exact .inl rfl | exact .inr rfl)) gs_nil)) (fun _ _ _ z => tgsCons_len (fun _ _ _ z => tgsCons_len (fun _ _ _ z => tgsNil_len z) z) z)) (ss_cons (s_asg (i := 6) nd rfl (by first | exact .inl rfl | exact .inr rfl) (p_if (t_eq hK hr (p_var (i := 4)) p_int) (p_var (i := 2)) (p_add hK (p_sub (p_ix hK (p_var (i := 1)) (p_sub (p_var (i := 4)) p_int)) (p_var (i := 5))) p_int))) (ss_one (s_ex (p_app hK (p_var (i := 3)) (p_add hK (p_var (i := 5)) (p_call F__law_far hr (by decide) (by rfl) (takes_of rfl rfl rfl rfl) rfl (eCons_len (eCons_len eNil_len)) (a_cons (p_var (i := 0)) (a_cons (p_var (i := 6)) a_nil))))))))) (ss_frz rfl (ss_one (s_ret rfl (p_tuple hK (by rfl) T.n_tuple (p_lc (own := [("number", 5)]) rfl nd (i_val hK (p_var (i := 3))) (blkOk_by (N := ["dice", "shape", "more", "found", "row", "number", "room"]) (sc := defScope s__law_wider) (own := [("number", 5)]) (by decide +kernel)) (fun _ _ _ _ _ => (g_name (i := 5) nd rfl (by first | exact .inl rfl | exact .inr rfl))) (fun _ _ _ _ _ => (ts_one (t_gt (p_var (i := 5)) p_int))) (fun _ _ _ _ _ => (p_var (i := 5))) (by decide))))))))
theorem sc__law_number : FnScope ["shape", "row"] ["shape", "row"] (defScope s__law_number) := ⟨rfl, rfl, rfl, by decide +kernel, rfl, by decide +kernel, by decide +kernel⟩
theorem ok__law_number (hK : g.K = K) (T : Txt mg) (FA : FunAt K mg "_law_number" "_law_number" s__law_number ["shape", "row"])  : Fn P w K mg base g 1 "_law_number" ["shape", "row"] d__law_number false :=
  have nd := (sc__law_number).nd
  fn_at (k := 0) (extra := 0) false (fun n0 => (sRet (eIf (eBin fLt (eVar 1) (eUn fLen (eVar 0))) (eBin fIx (eVar 0) (eVar 1)) (eC (.int 0))))) FA sc__law_number rfl fun f cdv A outer s H E hr w0 => (ss_one (s_ret rfl (p_if (t_lt (p_var (i := 1)) (p_len hK (by rfl) T.n_len (p_var (i := 0)))) (p_ix hK (p_var (i := 0)) (p_var (i := 1))) p_int)))
theorem sc__law_fourth : FnScope ["c", "p", "q", "count", "found", "row", "most", "number"] ["c", "p", "q", "count"] (defScope s__law_fourth) := ⟨rfl, rfl, rfl, by decide +kernel, rfl, by decide +kernel, by decide +kernel⟩
theorem ok__law_fourth (hK : g.K = K) (T : Txt mg) (FA : FunAt K mg "_law_fourth" "_law_fourth" s__law_fourth ["c", "p", "q", "count"]) (F__law_number : Fn P w K mg base g 1 "_law_number" ["shape", "row"] d__law_number false) : Fn P w K mg base g 2 "_law_fourth" ["c", "p", "q", "count"] d__law_fourth false :=
  have nd := (sc__law_fourth).nd
  fn_at (k := 1) (extra := 4) false (fun n0 => (sSeq (sNew 4 (eCall fLst (eCons (eBin fAdd (eBin fMax2 (eCall d__law_number (eCons (eVar 1) (eCons (eC (.int 0)) eNil))) (eCall d__law_number (eCons (eVar 2) (eCons (eC (.int 0)) eNil)))) (eVar 3)) eNil))) (sSeq (sFor (itR2 (eC (.int 1)) (eC (.int 9))) (tgN 5) (sSeq (sAsg 6 (eBin fMax2 (eCall d__law_number (eCons (eVar 1) (eCons (eVar 5) eNil))) (eCall d__law_number (eCons (eVar 2) (eCons (eVar 5) eNil))))) (sEx (eApp (eVar 4) (eBin fSub (eBin fAdd (eVar 6) (eBin fMin2 (eCall d__law_number (eCons (eVar 1) (eCons (eBin fSub (eVar 5) (eC (.int 1))) eNil))) (eCall d__law_number (eCons (eVar 2) (eCons (eBin fSub (eVar 5) (eC (.int 1))) eNil))))) (eCall d__law_number (eCons (eVar 0) (eCons (eBin fSub (eVar 5) (eC (.int 1))) eNil)))))))) (sSeq (sFrz n0 4) (sRet (eUn fTuple (eLc (itV (eVar 4)) [7] (tgN 7) (eTest (eBin fGt (eVar 7) (eC (.int 0)))) (eVar 7)))))))) FA sc__law_fourth rfl fun f cdv A outer s H E hr w0 => (ss_cons (s_new (i := 4) nd rfl (by first | exact .inl rfl | exact .inr rfl) (p_lstN (a_cons (p_add hK (p_max2 rfl (by rfl) T.n_max (p_call F__law_number hr (by decide) (by rfl) (takes_of rfl rfl rfl rfl) rfl (eCons_len (eCons_len eNil_len)) (a_cons (p_var (i := 1)) (a_cons p_int a_nil))) (p_call F__law_number hr (by decide) (by rfl) (takes_of rfl rfl rfl rfl) rfl (eCons_len (eCons_len eNil_len)) (a_cons (p_var (i := 2)) (a_cons p_int a_nil)))) (p_var (i := 3))) a_nil))) (ss_cons (s_for' (passes_of rfl) rfl (i_range2 (by rfl) T.n_range p_int p_int) (g_name (i := 5) nd rfl (by first | exact .inl rfl | exact .inr rfl)) (ss_cons (s_asg (i := 6) nd rfl (by first | exact .inl rfl | exact .inr rfl) (p_max2 rfl (by rfl) T.n_max (p_call F__law_number hr (by decide) (by rfl) (takes_of rfl rfl rfl rfl) rfl (eCons_len (eCons_len eNil_len)) (a_cons (p_var (i := 1)) (a_cons (p_var (i := 5)) a_nil))) (p_call F__law_number hr (by decide) (by rfl) (takes_of rfl rfl rfl rfl) rfl (eCons_len (eCons_len eNil_len)) (a_cons (p_var (i := 2)) (a_cons (p_var (i := 5)) a_nil))))) (ss_one (s_ex (p_app hK (p_var (i := 4)) (p_sub (p_add hK (p_var (i := 6)) (p_min2 rfl (by rfl) T.n_min (p_call F__law_number hr (by decide) (by rfl) (takes_of rfl rfl rfl rfl) rfl (eCons_len (eCons_len eNil_len)) (a_cons (p_var (i := 1)) (a_cons (p_sub (p_var (i := 5)) p_int) a_nil))) (p_call F__law_number hr (by decide) (by rfl) (takes_of rfl rfl rfl rfl) rfl (eCons_len (eCons_len eNil_len)) (a_cons (p_var (i := 2)) (a_cons (p_sub (p_var (i := 5)) p_int) a_nil))))) (p_call F__law_number hr (by decide) (by rfl) (takes_of rfl rfl rfl rfl) rfl (eCons_len (eCons_len eNil_len)) (a_cons (p_var (i := 0)) (a_cons (p_sub (p_var (i := 5)) p_int) a_nil))))))))) (ss_frz rfl (ss_one (s_ret rfl (p_tuple hK (by rfl) T.n_tuple (p_lc (own := [("number", 7)]) rfl nd (i_val hK (p_var (i := 4))) (blkOk_by (N := ["c", "p", "q", "count", "found", "row", "most", "number"]) (sc := defScope s__law_fourth) (own := [("number", 7)]) (by decide +kernel)) (fun _ _ _ _ _ => (g_name (i := 7) nd rfl (by first | exact .inl rfl | exact .inr rfl))) (fun _ _ _ _ _ => (ts_one (t_gt (p_var (i := 7)) p_int))) (fun _ _ _ _ _ => (p_var (i := 7))) (by decide))))))))
theorem sc__law_is_strip : FnScope ["outer", "inner", "rows", "row"] ["outer", "inner"] (defScope s__law_is_strip) := ⟨rfl, rfl, rfl, by decide +kernel, rfl, by decide +kernel, by decide +kernel⟩
theorem ok__law_is_strip (hK : g.K = K) (T : Txt mg) (FA : FunAt K mg "_law_is_strip" "_law_is_strip" s__law_is_strip ["outer", "inner"]) (F__law_number : Fn P w K mg base g 1 "_law_number" ["shape", "row"] d__law_number false) : Fn P w K mg base g 2 "_law_is_strip" ["outer", "inner"] d__law_is_strip false :=
  have nd := (sc__law_is_strip).nd
  fn_at (k := 1) (extra := 2) false (fun n0 => (sSeq (sAsg 2 (eUn fLR1 (eC (.int 8)))) (sSeq (sIf (eBin fNe (eLc (itV (eVar 2)) [3] (tgN 3) (eTest (eBin fGt (eCall d__law_number (eCons (eVar 1) (eCons (eVar 3) eNil))) (eCall d__law_number (eCons (eVar 0) (eCons (eVar 3) eNil))))) (eC (.int 1))) (eCall fLst eNil)) (sRet (eC (.bl false))) sNil) (sRet (eBin fEq (eLc (itV (eVar 2)) [3] (tgN 3) (eTest (eBin fGt (eCall d__law_number (eCons (eVar 0) (eCons (eBin fAdd (eVar 3) (eC (.int 1))) eNil))) (eCall d__law_number (eCons (eVar 1) (eCons (eVar 3) eNil))))) (eC (.int 1))) (eCall fLst eNil)))))) FA sc__law_is_strip rfl fun f cdv A outer s H E hr w0 => (ss_cons (s_asg (i := 2) nd rfl (by first | exact .inl rfl | exact .inr rfl) (p_listR1 rfl (by rfl) T.n_list (by rfl) T.n_range p_int)) (ss_cons (s_if (t_ne hK hr (p_lc (own := [("row", 3)]) rfl nd (i_val hK (p_var (i := 2))) (blkOk_by (N := ["outer", "inner", "rows", "row"]) (sc := defScope s__law_is_strip) (own := [("row", 3)]) (by decide +kernel)) (fun _ _ _ _ _ => (g_name (i := 3) nd rfl (by first | exact .inl rfl | exact .inr rfl))) (fun _ _ _ _ _ => (ts_one (t_gt (p_call F__law_number hr (by decide) (by rfl) takes0 rfl (eCons_len (eCons_len eNil_len)) (a_cons (p_var (i := 1)) (a_cons (p_var (i := 3)) a_nil))) (p_call F__law_number hr (by decide) (by rfl) takes0 rfl (eCons_len (eCons_len eNil_len)) (a_cons (p_var (i := 0)) (a_cons (p_var (i := 3)) a_nil)))))) (fun _ _ _ _ _ => p_int) (by decide)) (p_lst a_nil)) (ss_one (s_ret rfl p_bl)) ss_nil) (ss_one (s_ret rfl (p_eq hK hr (p_lc (own := [("row", 3)]) rfl nd (i_val hK (p_var (i := 2))) (blkOk_by (N := ["outer", "inner", "rows", "row"]) (sc := defScope s__law_is_strip) (own := [("row", 3)]) (by decide +kernel)) (fun _ _ _ _ _ => (g_name (i := 3) nd rfl (by first | exact .inl rfl | exact .inr rfl))) (fun _ _ _ _ _ => (ts_one (t_gt (p_call F__law_number hr (by decide) (by rfl) takes0 rfl (eCons_len (eCons_len eNil_len)) (a_cons (p_var (i := 0)) (a_cons (p_add hK (p_var (i := 3)) p_int) a_nil))) (p_call F__law_number hr (by decide) (by rfl) takes0 rfl (eCons_len (eCons_len eNil_len)) (a_cons (p_var (i := 1)) (a_cons (p_var (i := 3)) a_nil)))))) (fun _ _ _ _ _ => p_int) (by decide)) (p_lst a_nil))))))
theorem sc__law_right : FnScope ["dice", "size", "c", "f", "value", "other", "due", "wide", "strip", "row", "told", "p", "q", "count", "room", "back", "many", "number"] ["dice", "size"] (defScope s__law_right) := ⟨rfl, rfl, rfl, by decide +kernel, rfl, by decide +kernel, by decide +kernel⟩
theorem ok__law_right (hK : g.K = K) (T : Txt mg) (FA : FunAt K mg "_law_right" "_law_right" s__law_right ["dice", "size"]) (F__law_far : Fn P w K mg base g 2 "_law_far" ["dice", "total"] d__law_far false) (F__law_fourth : Fn P w K mg base g 2 "_law_fourth" ["c", "p", "q", "count"] d__law_fourth false) (F__law_is_strip : Fn P w K mg base g 2 "_law_is_strip" ["outer", "inner"] d__law_is_strip false) (F__law_number : Fn P w K mg base g 1 "_law_number" ["shape", "row"] d__law_number false) (F__law_shape : Fn P w K mg base g 3 "_law_shape" ["dice", "most", "size"] d__law_shape false) (F__law_wider : Fn P w K mg base g 3 "_law_wider" ["dice", "shape", "more"] d__law_wider false) (F_corner_back : Fn P w K mg base g 6 "corner_back" ["p", "q", "f"] d_corner_back false) (F_fourth_shape : Fn P w K mg base g 6 "fourth_shape" ["c", "p", "q", "count"] d_fourth_shape false) (F_is_square : Fn P w K mg base g 6 "is_square" ["c", "p", "q", "count", "f"] d_is_square false) : Fn P w K mg base g 7 "_law_right" ["dice", "size"] d__law_right false :=
  have nd := (sc__law_right).nd
  fn_at (k := 6) (extra := 16) false (fun n0 => (sSeq (sAsg 2 (eCall d__law_shape (eCons (eVar 0) (eCons (eC (.int 4)) (eCons (eVar 1) eNil))))) (sSeq (sAsgT (tgT (tgsCons (tgN 11) (tgsCons (tgN 12) (tgsCons (tgN 13) tgsNil)))) (eCall fTup (eCons (eCall d__law_wider (eCons (eVar 0) (eCons (eVar 2) (eCons (eVar 1) eNil)))) (eCons (eCall d__law_wider (eCons (eVar 0) (eCons (eVar 2) (eCons (eVar 1) eNil)))) (eCons (eCall d__law_far (eCons (eVar 0) (eCons (eVar 1) eNil))) eNil))))) (sSeq (sAsg 3 (eCall d__law_fourth (eCons (eVar 2) (eCons (eVar 11) (eCons (eVar 12) (eCons (eVar 13) eNil)))))) (sSeq (sIf (eOr (eBin fNe (eCall d_fourth_shape (eCons (eVar 2) (eCons (eVar 11) (eCons (eVar 12) (eCons (eVar 13) eNil))))) (eVar 3)) (eOr (eBin fNe (eCall d_fourth_shape (eCons (eVar 2) (eCons (eVar 12) (eCons (eVar 11) (eCons (eVar 13) eNil))))) (eVar 3)) (eBin fNe (eCall d_corner_back (eCons (eVar 11) (eCons (eVar 12) (eCons (eVar 3) eNil)))) (eCall fTup (eCons (eVar 2) (eCons (eVar 13) eNil)))))) (sRet (eC (.bl false))) sNil) (sSeq (sIf (eOr (eBin fNotB (eCall d_is_square (eCons (eVar 2) (eCons (eVar 11) (eCons (eVar 12) (eCons (eVar 13) (eCons (eVar 3) eNil)))))) (eC (.bl true))) (eBin fNe (eBin fAdd (eUn fSum (eVar 3)) (eUn fSum (eVar 2))) (eBin fAdd (eBin fAdd (eUn fSum (eVar 11)) (eUn fSum (eVar 12))) (eVar 13)))) (sRet (eC (.bl false))) sNil) (sSeq (sIf (eOr (eBin fNe (eCall d_fourth_shape (eCons (eVar 2) (eCons (eVar 2) (eCons (eVar 12) (eCons (eVar 13) eNil))))) (eCall d__law_fourth (eCons (eVar 2) (eCons (eVar 2) (eCons (eVar 12) (eCons (eVar 13) eNil)))))) (eNot (eCall d__law_is_strip (eCons (eVar 3) (eCons (eVar 11) eNil))))) (sRet (eC (.bl false))) sNil) (sSeq (sFor (itV (eCall fTup (eCons (eIf (eBin fLt (eUn fLen (eVar 3)) (eC (.int 8))) (eBin fAdd (eVar 3) (eCall fTup (eCons (eC (.int 1)) eNil))) (eCall fTup eNil)) (eCons (eSl (eVar 3) eoN (eoS (eUn fNeg (eC (.int 1))))) (eCons (eBin fAdd (eCall fTup (eCons (eBin fAdd (eCall d__law_number (eCons (eVar 3) (eCons (eC (.int 0)) eNil))) (eC (.int 1))) eNil)) (eSl (eVar 3) (eoS (eC (.int 1))) eoN)) (eCons (eVar 11) (eCons (eVar 2) eNil))))))) (tgN 4) (sIf (eBin fNe (eCall d_is_square (eCons (eVar 2) (eCons (eVar 11) (eCons (eVar 12) (eCons (eVar 13) (eCons (eVar 4) eNil)))))) (eBin fEq (eVar 4) (eVar 3))) (sRet (eC (.bl false))) sNil)) (sSeq (sIf (eBin fNotB (eCall d_is_square (eCons (eVar 2) (eCons (eVar 11) (eCons (eVar 12) (eCons (eBin fAdd (eVar 13) (eC (.int 1))) (eCons (eVar 3) eNil)))))) (eC (.bl false))) (sRet (eC (.bl false))) sNil) (sSeq (sAsg 5 (eCall d__law_wider (eCons (eVar 0) (eCons (eVar 3) (eCons (eVar 1) eNil))))) (sSeq (sAsg 6 (eAnd (eCall d__law_is_strip (eCons (eVar 11) (eCons (eVar 3) eNil))) (eAnd (eCall d__law_is_strip (eCons (eVar 12) (eCons (eVar 3) eNil))) (eBin fEq (eCall d__law_fourth (eCons (eVar 3) (eCons (eVar 11) (eCons (eVar 12) (eCons (eVar 13) eNil))))) (eVar 5))))) (sSeq (sIf (eBin fNe (eCall d_is_square (eCons (eVar 3) (eCons (eVar 11) (eCons (eVar 12) (eCons (eVar 13) (eCons (eVar 5) eNil)))))) (eVar 6)) (sRet (eC (.bl false))) sNil) (sSeq (sAsg 7 (eLc (itR1 (eC (.int 6))) [9] (tgN 9) tYesD (eBin fMax2 (eCall d__law_number (eCons (eVar 11) (eCons (eVar 9) eNil))) (eCall d__law_number (eCons (eVar 12) (eCons (eVar 9) eNil)))))) (sSeq (sNew 8 (eCall fLst (eCons (eBin fAdd (eBin fIx (eVar 7) (eC (.int 0))) (eCall d__law_far (eCons (eVar 0) (eCons (eVar 1) eNil)))) eNil))) (sSeq (sFor (itR2 (eC (.int 1)) (eC (.int 6))) (tgN 9) (sSeq (sAsg 14 (eBin fSub (eBin fMin2 (eCall d__law_number (eCons (eVar 11) (eCons (eBin fSub (eVar 9) (eC (.int 1))) eNil))) (eCall d__law_number (eCons (eVar 12) (eCons (eBin fSub (eVar 9) (eC (.int 1))) eNil)))) (eBin fIx (eVar 7) (eVar 9)))) (sEx (eApp (eVar 8) (eBin fAdd (eBin fIx (eVar 7) (eVar 9)) (eIf (eBin fGt (eVar 14) (eC (.int 0))) (eCall d__law_far (eCons (eVar 0) (eCons (eBin fAdd (eVar 14) (eC (.int 1))) eNil))) (eC (.int 0)))))))) (sSeq (sFrz n0 8) (sSeq (sAsg 10 (eUn fTuple (eLc (itV (eVar 8)) [17] (tgN 17) (eTest (eBin fGt (eVar 17) (eC (.int 0)))) (eVar 17)))) (sSeq (sIf (eOr (eNot (eCall d__law_is_strip (eCons (eVar 10) (eCons (eVar 11) eNil)))) (eNot (eCall d__law_is_strip (eCons (eVar 10) (eCons (eVar 12) eNil))))) (sRet (eC (.bl true))) sNil) (sSeq (sAsgT (tgT (tgsCons (tgN 15) (tgsCons (tgN 16) tgsNil))) (eCall d_corner_back (eCons (eVar 11) (eCons (eVar 12) (eCons (eVar 10) eNil))))) (sSeq (sIf (eOr (eNot (eCall d__law_is_strip (eCons (eVar 11) (eCons (eVar 15) eNil)))) (eOr (eNot (eCall d__law_is_strip (eCons (eVar 12) (eCons (eVar 15) eNil)))) (eBin fLt (eVar 16) (eC (.int 0))))) (sRet (eC (.bl false))) sNil) (sRet (eAnd (eBin fEq (eCall d__law_fourth (eCons (eVar 15) (eCons (eVar 11) (eCons (eVar 12) (eCons (eVar 16) eNil))))) (eVar 10)) (eBin fEq (eCall d_fourth_shape (eCons (eVar 15) (eCons (eVar 11) (eCons (eVar 12) (eCons (eVar 16) eNil))))) (eVar 10)))))))))))))))))))))))) FA sc__law_right rfl fun f cdv A outer s H E hr w0 => (ss_cons (s_asg (i := 2) nd rfl (by first | exact .inl rfl | exact .inr rfl) (p_call F__law_shape hr (by decide) (by rfl) (takes_of rfl rfl rfl rfl) rfl (eCons_len (eCons_len (eCons_len eNil_len))) (a_cons (p_var (i := 0)) (a_cons p_int (a_cons (p_var (i := 1)) a_nil))))) (ss_cons (s_asgT (p_tup (a_cons (p_call F__law_wider hr (by decide) (by rfl) (takes_of rfl rfl rfl rfl) rfl (eCons_len (eCons_len (eCons_len eNil_len))) (a_cons (p_var (i := 0)) (a_cons (p_var (i := 2)) (a_cons (p_var (i := 1)) a_nil)))) (a_cons (p_call F__law_wider hr (by decide) (by rfl) (takes_of rfl rfl rfl rfl) rfl (eCons_len (eCons_len (eCons_len eNil_len))) (a_cons (p_var (i := 0)) (a_cons (p_var (i := 2)) (a_cons (p_var (i := 1)) a_nil)))) (a_cons (p_call F__law_far hr (by decide) (by rfl) (takes_of rfl rfl rfl rfl) rfl (eCons_len (eCons_len eNil_len)) (a_cons (p_var (i := 0)) (a_cons (p_var (i := 1)) a_nil))) a_nil)))) (g_tup hK rfl (gs_cons (g_name (i := 11) nd rfl (by first | exact .inl rfl | exact .inr rfl)) (gs_cons (g_name (i := 12) nd rfl (by first | exact .inl rfl | exact .inr rfl)) (gs_cons (g_name (i := 13) nd rfl (by first | exact .inl rfl | exact .inr rfl)) gs_nil))) (fun _ _ _ z => tgsCons_len (fun _ _ _ z => tgsCons_len (fun _ _ _ z => tgsCons_len (fun _ _ _ z => tgsNil_len z) z) z) z))) (ss_cons (s_asg (i := 3) nd rfl (by first | exact .inl rfl | exact .inr rfl) (p_call F__law_fourth hr (by decide) (by rfl) (takes_of rfl rfl rfl rfl) rfl (eCons_len (eCons_len (eCons_len (eCons_len eNil_len)))) (a_cons (p_var (i := 2)) (a_cons (p_var (i := 11)) (a_cons (p_var (i := 12)) (a_cons (p_var (i := 13)) a_nil)))))) (ss_cons (s_if (PW.pt (pw_or' (t_ne hK hr (p_call F_fourth_shape hr (by decide) (by rfl) (takes_of rfl rfl rfl rfl) rfl (eCons_len (eCons_len (eCons_len (eCons_len eNil_len)))) (a_cons (p_var (i := 2)) (a_cons (p_var (i := 11)) (a_cons (p_var (i := 12)) (a_cons (p_var (i := 13)) a_nil))))) (p_var (i := 3))) (pw_or' (t_ne hK hr (p_call F_fourth_shape hr (by decide) (by rfl) (takes_of rfl rfl rfl rfl) rfl (eCons_len (eCons_len (eCons_len (eCons_len eNil_len)))) (a_cons (p_var (i := 2)) (a_cons (p_var (i := 12)) (a_cons (p_var (i := 11)) (a_cons (p_var (i := 13)) a_nil))))) (p_var (i := 3))) (pw_or1' (t_ne hK hr (p_call F_corner_back hr (by decide) (by rfl) (takes_of rfl rfl rfl rfl) rfl (eCons_len (eCons_len (eCons_len eNil_len))) (a_cons (p_var (i := 11)) (a_cons (p_var (i := 12)) (a_cons (p_var (i := 3)) a_nil)))) (p_tup (a_cons (p_var (i := 2)) (a_cons (p_var (i := 13)) a_nil)))))))) (ss_one (s_ret rfl p_bl)) ss_nil) (ss_cons (s_if (PW.pt (pw_or' (t_notB (p_call F_is_square hr (by decide) (by rfl) (takes_of rfl rfl rfl rfl) rfl (eCons_len (eCons_len (eCons_len (eCons_len (eCons_len eNil_len))))) (a_cons (p_var (i := 2)) (a_cons (p_var (i := 11)) (a_cons (p_var (i := 12)) (a_cons (p_var (i := 13)) (a_cons (p_var (i := 3)) a_nil)))))) p_bl) (pw_or1' (t_ne hK hr (p_add hK (p_sum hK rfl (by rfl) T.n_sum (p_var (i := 3))) (p_sum hK rfl (by rfl) T.n_sum (p_var (i := 2)))) (p_add hK (p_add hK (p_sum hK rfl (by rfl) T.n_sum (p_var (i := 11))) (p_sum hK rfl (by rfl) T.n_sum (p_var (i := 12)))) (p_var (i := 13))))))) (ss_one (s_ret rfl p_bl)) ss_nil) (ss_cons (s_if (PW.pt (pw_or' (t_ne hK hr (p_call F_fourth_shape hr (by decide) (by rfl) (takes_of rfl rfl rfl rfl) rfl (eCons_len (eCons_len (eCons_len (eCons_len eNil_len)))) (a_cons (p_var (i := 2)) (a_cons (p_var (i := 2)) (a_cons (p_var (i := 12)) (a_cons (p_var (i := 13)) a_nil))))) (p_call F__law_fourth hr (by decide) (by rfl) (takes_of rfl rfl rfl rfl) rfl (eCons_len (eCons_len (eCons_len (eCons_len eNil_len)))) (a_cons (p_var (i := 2)) (a_cons (p_var (i := 2)) (a_cons (p_var (i := 12)) (a_cons (p_var (i := 13)) a_nil)))))) (pw_or1' (pt_not' (pt_v (p_call F__law_is_strip hr (by decide) (by rfl) (takes_of rfl rfl rfl rfl) rfl (eCons_len (eCons_len eNil_len)) (a_cons (p_var (i := 3)) (a_cons (p_var (i := 11)) a_nil)))))))) (ss_one (s_ret rfl p_bl)) ss_nil) (ss_cons (s_for' (passes_of rfl) rfl (i_val hK (p_tup (a_cons (p_if (t_lt (p_len hK (by rfl) T.n_len (p_var (i := 3))) p_int) (p_add hK (p_var (i := 3)) (p_tup (a_cons p_int a_nil))) (p_tup a_nil)) (a_cons (p_sl hK (p_var (i := 3)) po_n (po_s (p_neg p_int))) (a_cons (p_add hK (p_tup (a_cons (p_add hK (p_call F__law_number hr (by decide) (by rfl) (takes_of rfl rfl rfl rfl) rfl (eCons_len (eCons_len eNil_len)) (a_cons (p_var (i := 3)) (a_cons p_int a_nil))) p_int) a_nil)) (p_sl hK (p_var (i := 3)) (po_s p_int) po_n)) (a_cons (p_var (i := 11)) (a_cons (p_var (i := 2)) a_nil))))))) (g_name (i := 4) nd rfl (by first | exact .inl rfl | exact .inr rfl)) (ss_one (s_if (t_ne hK hr (p_call F_is_square hr (by decide) (by rfl) (takes_of rfl rfl rfl rfl) rfl (eCons_len (eCons_len (eCons_len (eCons_len (eCons_len eNil_len))))) (a_cons (p_var (i := 2)) (a_cons (p_var (i := 11)) (a_cons (p_var (i := 12)) (a_cons (p_var (i := 13)) (a_cons (p_var (i := 4)) a_nil)))))) (p_eq hK hr (p_var (i := 4)) (p_var (i := 3)))) (ss_one (s_ret rfl p_bl)) ss_nil))) (ss_cons (s_if (t_notB (p_call F_is_square hr (by decide) (by rfl) (takes_of rfl rfl rfl rfl) rfl (eCons_len (eCons_len (eCons_len (eCons_len (eCons_len eNil_len))))) (a_cons (p_var (i := 2)) (a_cons (p_var (i := 11)) (a_cons (p_var (i := 12)) (a_cons (p_add hK (p_var (i := 13)) p_int) (a_cons (p_var (i := 3)) a_nil)))))) p_bl) (ss_one (s_ret rfl p_bl)) ss_nil) (ss_cons (s_asg (i := 5) nd rfl (by first | exact .inl rfl | exact .inr rfl) (p_call F__law_wider hr (by decide) (by rfl) (takes_of rfl rfl rfl rfl) rfl (eCons_len (eCons_len (eCons_len eNil_len))) (a_cons (p_var (i := 0)) (a_cons (p_var (i := 3)) (a_cons (p_var (i := 1)) a_nil))))) (ss_cons (s_asg (i := 6) nd rfl (by first | exact .inl rfl | exact .inr rfl) (p_and (p_call F__law_is_strip hr (by decide) (by rfl) (takes_of rfl rfl rfl rfl) rfl (eCons_len (eCons_len eNil_len)) (a_cons (p_var (i := 11)) (a_cons (p_var (i := 3)) a_nil))) (p_and (p_call F__law_is_strip hr (by decide) (by rfl) (takes_of rfl rfl rfl rfl) rfl (eCons_len (eCons_len eNil_len)) (a_cons (p_var (i := 12)) (a_cons (p_var (i := 3)) a_nil))) (p_and1 (p_eq hK hr (p_call F__law_fourth hr (by decide) (by rfl) (takes_of rfl rfl rfl rfl) rfl (eCons_len (eCons_len (eCons_len (eCons_len eNil_len)))) (a_cons (p_var (i := 3)) (a_cons (p_var (i := 11)) (a_cons (p_var (i := 12)) (a_cons (p_var (i := 13)) a_nil))))) (p_var (i := 5))))))) (ss_cons (s_if (t_ne hK hr (p_call F_is_square hr (by decide) (by rfl) (takes_of rfl rfl rfl rfl) rfl (eCons_len (eCons_len (eCons_len (eCons_len (eCons_len eNil_len))))) (a_cons (p_var (i := 3)) (a_cons (p_var (i := 11)) (a_cons (p_var (i := 12)) (a_cons (p_var (i := 13)) (a_cons (p_var (i := 5)) a_nil)))))) (p_var (i := 6))) (ss_one (s_ret rfl p_bl)) ss_nil) (ss_cons (s_asgLc (i := 7) (own := [("row", 9)]) rfl nd rfl rfl (sw_true rfl rfl rfl (by decide +kernel)) (i_range1 (by rfl) T.n_range p_int) (blkOk_by (N := ["dice", "size", "c", "f", "value", "other", "due", "wide", "strip", "row", "told", "p", "q", "count", "room", "back", "many", "number"]) (sc := defScope s__law_right) (own := [("row", 9)]) (by decide +kernel)) (fun _ _ _ _ _ => (g_name (i := 9) nd rfl (by first | exact .inl rfl | exact .inr rfl))) (fun _ _ _ _ _ => ts_nil) (fun _ _ _ _ _ => (p_max2 rfl (by rfl) T.n_max (p_call F__law_number hr (by decide) (by rfl) takes0 rfl (eCons_len (eCons_len eNil_len)) (a_cons (p_var (i := 11)) (a_cons (p_var (i := 9)) a_nil))) (p_call F__law_number hr (by decide) (by rfl) takes0 rfl (eCons_len (eCons_len eNil_len)) (a_cons (p_var (i := 12)) (a_cons (p_var (i := 9)) a_nil))))) (by decide)) (ss_cons (s_new (i := 8) nd rfl (by first | exact .inl rfl | exact .inr rfl) (p_lstN (a_cons (p_add hK (p_ix hK (p_var (i := 7)) p_int) (p_call F__law_far hr (by decide) (by rfl) (takes_of rfl rfl rfl rfl) rfl (eCons_len (eCons_len eNil_len)) (a_cons (p_var (i := 0)) (a_cons (p_var (i := 1)) a_nil)))) a_nil))) (ss_cons (s_for' (passes_of rfl) rfl (i_range2 (by rfl) T.n_range p_int p_int) (g_name (i := 9) nd rfl (by first | exact .inl rfl | exact .inr rfl)) (ss_cons (s_asg (i := 14) nd rfl (by first | exact .inl rfl | exact .inr rfl) (p_sub (p_min2 rfl (by rfl) T.n_min (p_call F__law_number hr (by decide) (by rfl) (takes_of rfl rfl rfl rfl) rfl (eCons_len (eCons_len eNil_len)) (a_cons (p_var (i := 11)) (a_cons (p_sub (p_var (i := 9)) p_int) a_nil))) (p_call F__law_number hr (by decide) (by rfl) (takes_of rfl rfl rfl rfl) rfl (eCons_len (eCons_len eNil_len)) (a_cons (p_var (i := 12)) (a_cons (p_sub (p_var (i := 9)) p_int) a_nil)))) (p_ix hK (p_var (i := 7)) (p_var (i := 9))))) (ss_one (s_ex (p_app hK (p_var (i := 8)) (p_add hK (p_ix hK (p_var (i := 7)) (p_var (i := 9))) (p_if (t_gt (p_var (i := 14)) p_int) (p_call F__law_far hr (by decide) (by rfl) (takes_of rfl rfl rfl rfl) rfl (eCons_len (eCons_len eNil_len)) (a_cons (p_var (i := 0)) (a_cons (p_add hK (p_var (i := 14)) p_int) a_nil))) p_int))))))) (ss_frz rfl (ss_cons (s_asg (i := 10) nd rfl (by first | exact .inl rfl | exact .inr rfl) (p_tuple hK (by rfl) T.n_tuple (p_lc (own := [("number", 17)]) rfl nd (i_val hK (p_var (i := 8))) (blkOk_by (N := ["dice", "size", "c", "f", "value", "other", "due", "wide", "strip", "row", "told", "p", "q", "count", "room", "back", "many", "number"]) (sc := defScope s__law_right) (own := [("number", 17)]) (by decide +kernel)) (fun _ _ _ _ _ => (g_name (i := 17) nd rfl (by first | exact .inl rfl | exact .inr rfl))) (fun _ _ _ _ _ => (ts_one (t_gt (p_var (i := 17)) p_int))) (fun _ _ _ _ _ => (p_var (i := 17))) (by decide)))) (ss_cons (s_if (PW.pt (pw_or' (pt_not' (pt_v (p_call F__law_is_strip hr (by decide) (by rfl) (takes_of rfl rfl rfl rfl) rfl (eCons_len (eCons_len eNil_len)) (a_cons (p_var (i := 10)) (a_cons (p_var (i := 11)) a_nil))))) (pw_or1' (pt_not' (pt_v (p_call F__law_is_strip hr (by decide) (by rfl) (takes_of rfl rfl rfl rfl) rfl (eCons_len (eCons_len eNil_len)) (a_cons (p_var (i := 10)) (a_cons (p_var (i := 12)) a_nil)))))))) (ss_one (s_ret rfl p_bl)) ss_nil) (ss_cons (s_asgT (p_call F_corner_back hr (by decide) (by rfl) (takes_of rfl rfl rfl rfl) rfl (eCons_len (eCons_len (eCons_len eNil_len))) (a_cons (p_var (i := 11)) (a_cons (p_var (i := 12)) (a_cons (p_var (i := 10)) a_nil)))) (g_tup hK rfl (gs_cons (g_name (i := 15) nd rfl (by first | exact .inl rfl | exact .inr rfl)) (gs_cons (g_name (i := 16) nd rfl (by first | exact .inl rfl | exact .inr rfl)) gs_nil)) (fun _ _ _ z => tgsCons_len (fun _ _ _ z => tgsCons_len (fun _ _ _ z => tgsNil_len z) z) z))) (ss_cons (s_if (PW.pt (pw_or' (pt_not' (pt_v (p_call F__law_is_strip hr (by decide) (by rfl) (takes_of rfl rfl rfl rfl) rfl (eCons_len (eCons_len eNil_len)) (a_cons (p_var (i := 11)) (a_cons (p_var (i := 15)) a_nil))))) (pw_or' (pt_not' (pt_v (p_call F__law_is_strip hr (by decide) (by rfl) (takes_of rfl rfl rfl rfl) rfl (eCons_len (eCons_len eNil_len)) (a_cons (p_var (i := 12)) (a_cons (p_var (i := 15)) a_nil))))) (pw_or1' (t_lt (p_var (i := 16)) p_int))))) (ss_one (s_ret rfl p_bl)) ss_nil) (ss_one (s_ret rfl (p_and (p_eq hK hr (p_call F__law_fourth hr (by decide) (by rfl) (takes_of rfl rfl rfl rfl) rfl (eCons_len (eCons_len (eCons_len (eCons_len eNil_len)))) (a_cons (p_var (i := 15)) (a_cons (p_var (i := 11)) (a_cons (p_var (i := 12)) (a_cons (p_var (i := 16)) a_nil))))) (p_var (i := 10))) (p_and1 (p_eq hK hr (p_call F_fourth_shape hr (by decide) (by rfl) (takes_of rfl rfl rfl rfl) rfl (eCons_len (eCons_len (eCons_len (eCons_len eNil_len)))) (a_cons (p_var (i := 15)) (a_cons (p_var (i := 11)) (a_cons (p_var (i := 12)) (a_cons (p_var (i := 16)) a_nil))))) (p_var (i := 10))))))))))))))))))))))))))
theorem sc__law_all_right : FnScope ["dice", "c", "one", "p", "q", "count", "f", "found", "other", "last", "some", "number", "many"] ["dice"] (defScope s__law_all_right) := ⟨rfl, rfl, rfl, by decide +kernel, rfl, by decide +kernel, by decide +kernel⟩
theorem ok__law_all_right (hK : g.K = K) (T : Txt mg) (FA : FunAt K mg "_law_all_right" "_law_all_right" s__law_all_right ["dice"]) (F__law_fourth : Fn P w K mg base g 2 "_law_fourth" ["c", "p", "q", "count"] d__law_fourth false) (F__law_is_strip : Fn P w K mg base g 2 "_law_is_strip" ["outer", "inner"] d__law_is_strip false) (F__law_number : Fn P w K mg base g 1 "_law_number" ["shape", "row"] d__law_number false) (F__law_roll : Fn P w K mg base g 1 "_law_roll" ["dice", "total"] d__law_roll false) (F__law_shape : Fn P w K mg base g 3 "_law_shape" ["dice", "most", "size"] d__law_shape false) (F__law_wider : Fn P w K mg base g 3 "_law_wider" ["dice", "shape", "more"] d__law_wider false) (F_is_square : Fn P w K mg base g 6 "is_square" ["c", "p", "q", "count", "f"] d_is_square false) : Fn P w K mg base g 7 "_law_all_right" ["dice"] d__law_all_right false :=
  have nd := (sc__law_all_right).nd
  fn_at (k := 6) (extra := 12) false (fun n0 => (sSeq (sAsg 1 (eCall d__law_shape (eCons (eVar 0) (eCons (eC (.int 2)) (eCons (eC (.int 3)) eNil))))) (sSeq (sAsgT (tgT (tgsCons (tgN 3) (tgsCons (tgN 4) (tgsCons (tgN 5) tgsNil)))) (eCall fTup (eCons (eCall d__law_wider (eCons (eVar 0) (eCons (eVar 1) (eCons (eC (.int 3)) eNil)))) (eCons (eCall d__law_wider (eCons (eVar 0) (eCons (eVar 1) (eCons (eC (.int 3)) eNil)))) (eCons (eCall d__law_roll (eCons (eVar 0) (eCons (eC (.int 3)) eNil))) eNil))))) (sSeq (sPar 6 7 (eCall d__law_fourth (eCons (eVar 1) (eCons (eVar 3) (eCons (eVar 4) (eCons (eVar 5) eNil))))) (eCall fLst eNil)) (sSeq (sFor (itR1 (eBin fAdd (eBin fMin2 (eCall d__law_number (eCons (eVar 3) (eCons (eC (.int 0)) eNil))) (eCall d__law_number (eCons (eVar 4) (eCons (eC (.int 0)) eNil)))) (eC (.int 1)))) (tgN 2) (sFor (itR1 (eBin fAdd (eVar 2) (eC (.int 1)))) (tgN 8) (sFor (itR1 (eBin fAdd (eVar 8) (eC (.int 1)))) (tgN 9) (sSeq (sAsg 10 (eUn fTuple (eLc (itV (eCall fTup (eCons (eVar 2) (eCons (eVar 8) (eCons (eVar 9) eNil))))) [11] (tgN 11) (eTest (eBin fGt (eVar 11) (eC (.int 0)))) (eVar 11)))) (sIf (eAnd (eCall d__law_is_strip (eCons (eVar 3) (eCons (eVar 10) eNil))) (eCall d__law_is_strip (eCons (eVar 4) (eCons (eVar 10) eNil)))) (sAsg 7 (eBin fAdd (eVar 7) (eLc (itR1 (eC (.int 7))) [12] (tgN 12) (eTest (eCall d_is_square (eCons (eVar 10) (eCons (eVar 3) (eCons (eVar 4) (eCons (eVar 12) (eCons (eVar 6) eNil))))))) (eCall fTup (eCons (eVar 10) (eCons (eVar 12) eNil)))))) sNil))))) (sRet (eBin fEq (eVar 7) (eCall fLst (eCons (eCall fTup (eCons (eVar 1) (eCons (eVar 5) eNil))) eNil))))))))) FA sc__law_all_right rfl fun f cdv A outer s H E hr w0 => (ss_cons (s_asg (i := 1) nd rfl (by first | exact .inl rfl | exact .inr rfl) (p_call F__law_shape hr (by decide) (by rfl) (takes_of rfl rfl rfl rfl) rfl (eCons_len (eCons_len (eCons_len eNil_len))) (a_cons (p_var (i := 0)) (a_cons p_int (a_cons p_int a_nil))))) (ss_cons (s_asgT (p_tup (a_cons (p_call F__law_wider hr (by decide) (by rfl) (takes_of rfl rfl rfl rfl) rfl (eCons_len (eCons_len (eCons_len eNil_len))) (a_cons (p_var (i := 0)) (a_cons (p_var (i := 1)) (a_cons p_int a_nil)))) (a_cons (p_call F__law_wider hr (by decide) (by rfl) (takes_of rfl rfl rfl rfl) rfl (eCons_len (eCons_len (eCons_len eNil_len))) (a_cons (p_var (i := 0)) (a_cons (p_var (i := 1)) (a_cons p_int a_nil)))) (a_cons (p_call F__law_roll hr (by decide) (by rfl) (takes_of rfl rfl rfl rfl) rfl (eCons_len (eCons_len eNil_len)) (a_cons (p_var (i := 0)) (a_cons p_int a_nil))) a_nil)))) (g_tup hK rfl (gs_cons (g_name (i := 3) nd rfl (by first | exact .inl rfl | exact .inr rfl)) (gs_cons (g_name (i := 4) nd rfl (by first | exact .inl rfl | exact .inr rfl)) (gs_cons (g_name (i := 5) nd rfl (by first | exact .inl rfl | exact .inr rfl)) gs_nil))) (fun _ _ _ z => tgsCons_len (fun _ _ _ z => tgsCons_len (fun _ _ _ z => tgsCons_len (fun _ _ _ z => tgsNil_len z) z) z) z))) (ss_cons (s_parT (i := 6) (j := 7) rfl nd rfl rfl (by first | exact .inl rfl | exact .inr rfl) (by first | exact .inl rfl | exact .inr rfl) (p_call F__law_fourth hr (by decide) (by rfl) (takes_of rfl rfl rfl rfl) rfl (eCons_len (eCons_len (eCons_len (eCons_len eNil_len)))) (a_cons (p_var (i := 1)) (a_cons (p_var (i := 3)) (a_cons (p_var (i := 4)) (a_cons (p_var (i := 5)) a_nil))))) (p_lst a_nil)) (ss_cons (s_for' (passes_of rfl) rfl (i_range1 (by rfl) T.n_range (p_add hK (p_min2 rfl (by rfl) T.n_min (p_call F__law_number hr (by decide) (by rfl) (takes_of rfl rfl rfl rfl) rfl (eCons_len (eCons_len eNil_len)) (a_cons (p_var (i := 3)) (a_cons p_int a_nil))) (p_call F__law_number hr (by decide) (by rfl) (takes_of rfl rfl rfl rfl) rfl (eCons_len (eCons_len eNil_len)) (a_cons (p_var (i := 4)) (a_cons p_int a_nil)))) p_int)) (g_name (i := 2) nd rfl (by first | exact .inl rfl | exact .inr rfl)) (ss_one (s_for' (passes_of rfl) rfl (i_range1 (by rfl) T.n_range (p_add hK (p_var (i := 2)) p_int)) (g_name (i := 8) nd rfl (by first | exact .inl rfl | exact .inr rfl)) (ss_one (s_for' (passes_of rfl) rfl (i_range1 (by rfl) T.n_range (p_add hK (p_var (i := 8)) p_int)) (g_name (i := 9) nd rfl (by first | exact .inl rfl | exact .inr rfl)) (ss_cons (s_asg (i := 10) nd rfl (by first | exact .inl rfl | exact .inr rfl) (p_tuple hK (by rfl) T.n_tuple (p_lc (own := [("number", 11)]) rfl nd (i_val hK (p_tup (a_cons (p_var (i := 2)) (a_cons (p_var (i := 8)) (a_cons (p_var (i := 9)) a_nil))))) (blkOk_by (N := ["dice", "c", "one", "p", "q", "count", "f", "found", "other", "last", "some", "number", "many"]) (sc := defScope s__law_all_right) (own := [("number", 11)]) (by decide +kernel)) (fun _ _ _ _ _ => (g_name (i := 11) nd rfl (by first | exact .inl rfl | exact .inr rfl))) (fun _ _ _ _ _ => (ts_one (t_gt (p_var (i := 11)) p_int))) (fun _ _ _ _ _ => (p_var (i := 11))) (by decide)))) (ss_one (s_if (PW.pt (pw_and' (pt_v (p_call F__law_is_strip hr (by decide) (by rfl) (takes_of rfl rfl rfl rfl) rfl (eCons_len (eCons_len eNil_len)) (a_cons (p_var (i := 3)) (a_cons (p_var (i := 10)) a_nil)))) (pw_and1' (pt_v (p_call F__law_is_strip hr (by decide) (by rfl) (takes_of rfl rfl rfl rfl) rfl (eCons_len (eCons_len eNil_len)) (a_cons (p_var (i := 4)) (a_cons (p_var (i := 10)) a_nil))))))) (ss_one (s_asg (i := 7) nd rfl (by first | exact .inl rfl | exact .inr rfl) (p_add hK (p_var (i := 7)) (p_lc (own := [("many", 12)]) rfl nd (i_range1 (by rfl) T.n_range p_int) (blkOk_by (N := ["dice", "c", "one", "p", "q", "count", "f", "found", "other", "last", "some", "number", "many"]) (sc := defScope s__law_all_right) (own := [("many", 12)]) (by decide +kernel)) (fun _ _ _ _ _ => (g_name (i := 12) nd rfl (by first | exact .inl rfl | exact .inr rfl))) (fun _ _ _ _ _ => (ts_one (pt_v (p_call F_is_square hr (by decide) (by rfl) takes0 rfl (eCons_len (eCons_len (eCons_len (eCons_len (eCons_len eNil_len))))) (a_cons (p_var (i := 10)) (a_cons (p_var (i := 3)) (a_cons (p_var (i := 4)) (a_cons (p_var (i := 12)) (a_cons (p_var (i := 6)) a_nil))))))))) (fun _ _ _ _ _ => (p_tup (a_cons (p_var (i := 10)) (a_cons (p_var (i := 12)) a_nil)))) (by decide))))) ss_nil)))))))) (ss_one (s_ret rfl (p_eq hK hr (p_var (i := 7)) (p_lst (a_cons (p_tup (a_cons (p_var (i := 1)) (a_cons (p_var (i := 5)) a_nil))) a_nil)))))))))
theorem sc_law : FnScope ["script", "spot", "told", "dice"] ["script"] (defScope s_law) := ⟨rfl, rfl, rfl, by decide +kernel, rfl, by decide +kernel, by decide +kernel⟩
theorem ok_law (hK : g.K = K) (T : Txt mg) {fa : Addr} {fda : FuncData} (FA : Fun K "law" "law" s_law fa fda) (hm : mg "law" = some (.ref fa)) (hb : Binds K fda ["script"] []) (F__law_all_right : Fn P w K mg base g 7 "_law_all_right" ["dice"] d__law_all_right false) (F__law_dice_N : Fn P w K mg base g 1 "_law_dice" ["script", "spot"] d__law_dice true) (F__law_right : Fn P w K mg base g 7 "_law_right" ["dice", "size"] d__law_right false) (F_corner_back : Fn P w K mg base g 6 "corner_back" ["p", "q", "f"] d_corner_back false) (F_fourth_shape : Fn P w K mg base g 6 "fourth_shape" ["c", "p", "q", "count"] d_fourth_shape false) (F_is_square : Fn P w K mg base g 6 "is_square" ["c", "p", "q", "count", "f"] d_is_square false) : FnX P w K mg base g 8 "law" ["script"] d_law false fa fda :=
  have nd := sc_law.nd
  fn_mkX (k := 7) (extra := 3) false (fun n0 => (sSeq (sFor (itR1 (eBin fMax2 (eC (.int 1)) (eBin fMin2 (eC (.int 3)) (eUn fLen (eVar 0))))) (tgN 1) (sSeq (sNew 3 (eCall d__law_dice (eCons (eVar 0) (eCons (eVar 1) eNil)))) (sSeq (sIf (eOr (eNot (eCall d__law_right (eCons (eVar 3) (eCons (eC (.int 4)) eNil)))) (eOr (eNot (eCall d__law_right (eCons (eVar 3) (eCons (eC (.int 4)) eNil)))) (eNot (eCall d__law_right (eCons (eVar 3) (eCons (eBin fPow (eC (.int 10)) (eC (.int 50))) eNil)))))) (sRet (eC (.bl false))) sNil) (sSeq (sIf (eNot (eCall d__law_all_right (eCons (eVar 3) eNil))) (sRet (eC (.bl false))) sNil) (sSeq (sFrz n0 3) sNil))))) (sSeq (sAsg 2 (eCall fLst (eCons (eCall d_fourth_shape (eCons (eCall fTup eNil) (eCons (eCall fTup (eCons (eC (.int 1)) eNil)) (eCons (eCall fTup (eCons (eC (.int 1)) eNil)) (eCons (eC (.int 0)) eNil))))) (eCons (eCall d_fourth_shape (eCons (eCall fTup eNil) (eCons (eCall fTup (eCons (eBin fPow (eC (.int 10)) (eC (.int 3))) eNil)) (eCons (eCall fTup (eCons (eC (.int 3)) eNil)) (eCons (eC (.int 4)) eNil))))) (eCons (eCall d_fourth_shape (eCons (eCall fTup (eCons (eC (.int 1)) eNil)) (eCons (eCall fTup (eCons (eC (.int 1)) (eCons (eC (.int 1)) eNil))) (eCons (eCall fTup (eCons (eC (.int 2)) eNil)) (eCons (eC (.int 0)) eNil))))) eNil))))) (sSeq (sIf (eOr (eBin fNe (eVar 2) (eCall fLst (eCons (eCall fTup (eCons (eC (.int 1)) (eCons (eC (.int 1)) eNil))) (eCons (eCall fTup (eCons (eC (.int 1004)) (eCons (eC (.int 3)) eNil))) (eCons (eCall fTup (eCons (eC (.int 2)) (eCons (eC (.int 1)) eNil))) eNil))))) (eBin fNotB (eCall d_is_square (eCons (eCall fTup (eCons (eC (.int 2)) eNil)) (eCons (eCall fTup (eCons (eC (.int 1)) eNil)) (eCons (eCall fTup (eCons (eC (.int 2)) eNil)) (eCons (eC (.int 0)) (eCons (eCall fTup (eCons (eC (.int 2)) eNil)) eNil)))))) (eC (.bl false)))) (sRet (eC (.bl false))) sNil) (sRet (eBin fEq (eCall fLst (eCons (eCall d_corner_back (eCons (eCall fTup (eCons (eC (.int 1)) eNil)) (eCons (eCall fTup (eCons (eC (.int 1)) eNil)) (eCons (eCall fTup (eCons (eC (.int 2)) eNil)) eNil)))) (eCons (eCall d_corner_back (eCons (eCall fTup (eCons (eC (.int 3)) eNil)) (eCons (eCall fTup (eCons (eC (.int 2)) eNil)) (eCons (eCall fTup (eCons (eC (.int 3)) (eCons (eC (.int 1)) eNil))) eNil)))) eNil))) (eCall fLst (eCons (eCall fTup (eCons (eCall fTup (eCons (eC (.int 1)) eNil)) (eCons (eC (.int 1)) eNil))) (eCons (eCall fTup (eCons (eCall fTup (eCons (eC (.int 1)) eNil)) (eCons (eC (.int 0)) eNil))) eNil))))))))) FA sc_law hm hb rfl fun cdv A outer s H E hr w0 => (ss_cons (s_for' (passes_of rfl) rfl (i_range1 (by rfl) T.n_range (p_max2 rfl (by rfl) T.n_max p_int (p_min2 rfl (by rfl) T.n_min p_int (p_len hK (by rfl) T.n_len (p_var (i := 0)))))) (g_name (i := 1) nd rfl (by first | exact .inl rfl | exact .inr rfl)) (ss_cons (s_new (i := 3) nd rfl (by first | exact .inl rfl | exact .inr rfl) (p_callNew F__law_dice_N hr (by decide) (by rfl) (takes_of rfl rfl rfl rfl) rfl (eCons_len (eCons_len eNil_len)) (a_cons (p_var (i := 0)) (a_cons (p_var (i := 1)) a_nil)))) (ss_cons (s_if (PW.pt (pw_or' (pt_not' (pt_v (p_call F__law_right hr (by decide) (by rfl) (takes_of rfl rfl rfl rfl) rfl (eCons_len (eCons_len eNil_len)) (a_cons (p_var (i := 3)) (a_cons p_int a_nil))))) (pw_or' (pt_not' (pt_v (p_call F__law_right hr (by decide) (by rfl) (takes_of rfl rfl rfl rfl) rfl (eCons_len (eCons_len eNil_len)) (a_cons (p_var (i := 3)) (a_cons p_int a_nil))))) (pw_or1' (pt_not' (pt_v (p_call F__law_right hr (by decide) (by rfl) (takes_of rfl rfl rfl rfl) rfl (eCons_len (eCons_len eNil_len)) (a_cons (p_var (i := 3)) (a_cons (p_pow p_int p_int) a_nil))))))))) (ss_one (s_ret rfl p_bl)) ss_nil) (ss_cons (s_if (pt_not' (pt_v (p_call F__law_all_right hr (by decide) (by rfl) (takes_of rfl rfl rfl rfl) rfl (eCons_len eNil_len) (a_cons (p_var (i := 3)) a_nil)))) (ss_one (s_ret rfl p_bl)) ss_nil) (ss_frz rfl ss_nil))))) (ss_cons (s_asg (i := 2) nd rfl (by first | exact .inl rfl | exact .inr rfl) (p_lst (a_cons (p_call F_fourth_shape hr (by decide) (by rfl) (takes_of rfl rfl rfl rfl) rfl (eCons_len (eCons_len (eCons_len (eCons_len eNil_len)))) (a_cons (p_tup a_nil) (a_cons (p_tup (a_cons p_int a_nil)) (a_cons (p_tup (a_cons p_int a_nil)) (a_cons p_int a_nil))))) (a_cons (p_call F_fourth_shape hr (by decide) (by rfl) (takes_of rfl rfl rfl rfl) rfl (eCons_len (eCons_len (eCons_len (eCons_len eNil_len)))) (a_cons (p_tup a_nil) (a_cons (p_tup (a_cons (p_pow p_int p_int) a_nil)) (a_cons (p_tup (a_cons p_int a_nil)) (a_cons p_int a_nil))))) (a_cons (p_call F_fourth_shape hr (by decide) (by rfl) (takes_of rfl rfl rfl rfl) rfl (eCons_len (eCons_len (eCons_len (eCons_len eNil_len)))) (a_cons (p_tup (a_cons p_int a_nil)) (a_cons (p_tup (a_cons p_int (a_cons p_int a_nil))) (a_cons (p_tup (a_cons p_int a_nil)) (a_cons p_int a_nil))))) a_nil))))) (ss_cons (s_if (PW.pt (pw_or' (t_ne hK hr (p_var (i := 2)) (p_lst (a_cons (p_tup (a_cons p_int (a_cons p_int a_nil))) (a_cons (p_tup (a_cons p_int (a_cons p_int a_nil))) (a_cons (p_tup (a_cons p_int (a_cons p_int a_nil))) a_nil))))) (pw_or1' (t_notB (p_call F_is_square hr (by decide) (by rfl) (takes_of rfl rfl rfl rfl) rfl (eCons_len (eCons_len (eCons_len (eCons_len (eCons_len eNil_len))))) (a_cons (p_tup (a_cons p_int a_nil)) (a_cons (p_tup (a_cons p_int a_nil)) (a_cons (p_tup (a_cons p_int a_nil)) (a_cons p_int (a_cons (p_tup (a_cons p_int a_nil)) a_nil)))))) p_bl)))) (ss_one (s_ret rfl p_bl)) ss_nil) (ss_one (s_ret rfl (p_eq hK hr (p_lst (a_cons (p_call F_corner_back hr (by decide) (by rfl) (takes_of rfl rfl rfl rfl) rfl (eCons_len (eCons_len (eCons_len eNil_len))) (a_cons (p_tup (a_cons p_int a_nil)) (a_cons (p_tup (a_cons p_int a_nil)) (a_cons (p_tup (a_cons p_int a_nil)) a_nil)))) (a_cons (p_call F_corner_back hr (by decide) (by rfl) (takes_of rfl rfl rfl rfl) rfl (eCons_len (eCons_len (eCons_len eNil_len))) (a_cons (p_tup (a_cons p_int a_nil)) (a_cons (p_tup (a_cons p_int a_nil)) (a_cons (p_tup (a_cons p_int (a_cons p_int a_nil))) a_nil)))) a_nil))) (p_lst (a_cons (p_tup (a_cons (p_tup (a_cons p_int a_nil)) (a_cons p_int a_nil))) (a_cons (p_tup (a_cons (p_tup (a_cons p_int a_nil)) (a_cons p_int a_nil))) a_nil)))))))))
end
theorem all_ok {P : Program} {w : World} {K : PySem.W.Frag} {mg : Str → Option Value} (T : Txt mg) (A_is_integer : FunAt K mg "is_integer" "is_integer" s_is_integer ["value"]) (A_is_within : FunAt K mg "is_within" "is_within" s_is_within ["value", "low", "most"]) (A_falls_never_up : FunAt K mg "falls_never_up" "falls_never_up" s_falls_never_up ["numbers"]) (A_require_within : FunAt K mg "require_within" "require_within" s_require_within ["value", "low", "most"]) (A_is_shape_in : FunAt K mg "is_shape_in" "is_shape_in" s_is_shape_in ["value"]) (A_number_of : FunAt K mg "number_of" "number_of" s_number_of ["shape", "row"]) (A_lean_shape : FunAt K mg "lean_shape" "lean_shape" s_lean_shape ["numbers"]) (A_is_inside_in : FunAt K mg "is_inside_in" "is_inside_in" s_is_inside_in ["one", "other"]) (A_is_strip_in : FunAt K mg "is_strip_in" "is_strip_in" s_is_strip_in ["outer", "inner"]) (A_require_shape : FunAt K mg "require_shape" "require_shape" s_require_shape ["shape"]) (A_fourth_in : FunAt K mg "fourth_in" "fourth_in" s_fourth_in ["c", "p", "q", "count"]) (A_corner_in : FunAt K mg "corner_in" "corner_in" s_corner_in ["p", "q", "f"]) (A_require_shapes : FunS K mg "require_shapes" "require_shapes" s_require_shapes "shapes") (A_fourth_shape : FunAt K mg "fourth_shape" "fourth_shape" s_fourth_shape ["c", "p", "q", "count"]) (A_corner_back : FunAt K mg "corner_back" "corner_back" s_corner_back ["p", "q", "f"]) (A_is_square : FunAt K mg "is_square" "is_square" s_is_square ["c", "p", "q", "count", "f"]) (A__law_dice : FunAt K mg "_law_dice" "_law_dice" s__law_dice ["script", "spot"]) (A__law_roll : FunAt K mg "_law_roll" "_law_roll" s__law_roll ["dice", "total"]) (A__law_far : FunAt K mg "_law_far" "_law_far" s__law_far ["dice", "total"]) (A__law_shape : FunAt K mg "_law_shape" "_law_shape" s__law_shape ["dice", "most", "size"]) (A__law_wider : FunAt K mg "_law_wider" "_law_wider" s__law_wider ["dice", "shape", "more"]) (A__law_number : FunAt K mg "_law_number" "_law_number" s__law_number ["shape", "row"]) (A__law_fourth : FunAt K mg "_law_fourth" "_law_fourth" s__law_fourth ["c", "p", "q", "count"]) (A__law_is_strip : FunAt K mg "_law_is_strip" "_law_is_strip" s__law_is_strip ["outer", "inner"]) (A__law_right : FunAt K mg "_law_right" "_law_right" s__law_right ["dice", "size"]) (A__law_all_right : FunAt K mg "_law_all_right" "_law_all_right" s__law_all_right ["dice"]) {fa : Addr} {fda : FuncData} (FA : Fun K "law" "law" s_law fa fda) (hm : mg "law" = some (.ref fa)) (hb : Binds K fda ["script"] []) (base : Heap) : FnX P w K mg base ⟨K, fun _ => none, fun x => x⟩ 8 "law" ["script"] d_law false fa fda := by
  have F_is_integer := ok_is_integer (P := P) (w := w) (base := base) (g := ⟨K, fun _ => none, fun x => x⟩) rfl T A_is_integer 
  have F_is_within := ok_is_within (P := P) (w := w) (base := base) (g := ⟨K, fun _ => none, fun x => x⟩) rfl T A_is_within F_is_integer
  have F_falls_never_up := ok_falls_never_up (P := P) (w := w) (base := base) (g := ⟨K, fun _ => none, fun x => x⟩) rfl T A_falls_never_up 
  have F_require_within := ok_require_within (P := P) (w := w) (base := base) (g := ⟨K, fun _ => none, fun x => x⟩) rfl T A_require_within F_is_within
  have F_is_shape_in := ok_is_shape_in (P := P) (w := w) (base := base) (g := ⟨K, fun _ => none, fun x => x⟩) rfl T A_is_shape_in F_falls_never_up F_is_within
  have F_number_of := ok_number_of (P := P) (w := w) (base := base) (g := ⟨K, fun _ => none, fun x => x⟩) rfl T A_number_of 
  have F_lean_shape := ok_lean_shape (P := P) (w := w) (base := base) (g := ⟨K, fun _ => none, fun x => x⟩) rfl T A_lean_shape 
  have F_is_inside_in := ok_is_inside_in (P := P) (w := w) (base := base) (g := ⟨K, fun _ => none, fun x => x⟩) rfl T A_is_inside_in F_number_of
  have F_is_strip_in := ok_is_strip_in (P := P) (w := w) (base := base) (g := ⟨K, fun _ => none, fun x => x⟩) rfl T A_is_strip_in F_is_inside_in F_number_of
  have F_require_shape := ok_require_shape (P := P) (w := w) (base := base) (g := ⟨K, fun _ => none, fun x => x⟩) rfl T A_require_shape F_is_shape_in
  have F_fourth_in := ok_fourth_in (P := P) (w := w) (base := base) (g := ⟨K, fun _ => none, fun x => x⟩) rfl T A_fourth_in F_lean_shape F_number_of
  have F_corner_in := ok_corner_in (P := P) (w := w) (base := base) (g := ⟨K, fun _ => none, fun x => x⟩) rfl T A_corner_in F_lean_shape F_number_of
  have F_require_shapes := ok_require_shapes (P := P) (w := w) (base := base) (g := ⟨K, fun _ => none, fun x => x⟩) rfl T A_require_shapes F_require_shape
  have F_fourth_shape := ok_fourth_shape (P := P) (w := w) (base := base) (g := ⟨K, fun _ => none, fun x => x⟩) rfl T A_fourth_shape F_fourth_in F_is_strip_in F_require_shapes F_require_within
  have F_corner_back := ok_corner_back (P := P) (w := w) (base := base) (g := ⟨K, fun _ => none, fun x => x⟩) rfl T A_corner_back F_corner_in F_is_strip_in F_require_shapes
  have F_is_square := ok_is_square (P := P) (w := w) (base := base) (g := ⟨K, fun _ => none, fun x => x⟩) rfl T A_is_square F_fourth_in F_is_strip_in F_require_shape F_require_shapes F_require_within
  have F__law_dice := ok__law_dice (P := P) (w := w) (base := base) (g := ⟨K, fun _ => none, fun x => x⟩) rfl T A__law_dice 
  have F__law_dice_N := ok__law_dice_N (P := P) (w := w) (base := base) (g := ⟨K, fun _ => none, fun x => x⟩) rfl T A__law_dice 
  have F__law_roll := ok__law_roll (P := P) (w := w) (base := base) (g := ⟨K, fun _ => none, fun x => x⟩) rfl T A__law_roll 
  have F__law_far := ok__law_far (P := P) (w := w) (base := base) (g := ⟨K, fun _ => none, fun x => x⟩) rfl T A__law_far F__law_roll
  have F__law_shape := ok__law_shape (P := P) (w := w) (base := base) (g := ⟨K, fun _ => none, fun x => x⟩) rfl T A__law_shape F__law_far F__law_roll
  have F__law_wider := ok__law_wider (P := P) (w := w) (base := base) (g := ⟨K, fun _ => none, fun x => x⟩) rfl T A__law_wider F__law_far
  have F__law_number := ok__law_number (P := P) (w := w) (base := base) (g := ⟨K, fun _ => none, fun x => x⟩) rfl T A__law_number 
  have F__law_fourth := ok__law_fourth (P := P) (w := w) (base := base) (g := ⟨K, fun _ => none, fun x => x⟩) rfl T A__law_fourth F__law_number
  have F__law_is_strip := ok__law_is_strip (P := P) (w := w) (base := base) (g := ⟨K, fun _ => none, fun x => x⟩) rfl T A__law_is_strip F__law_number
  have F__law_right := ok__law_right (P := P) (w := w) (base := base) (g := ⟨K, fun _ => none, fun x => x⟩) rfl T A__law_right F__law_far F__law_fourth F__law_is_strip F__law_number F__law_shape F__law_wider F_corner_back F_fourth_shape F_is_square
  have F__law_all_right := ok__law_all_right (P := P) (w := w) (base := base) (g := ⟨K, fun _ => none, fun x => x⟩) rfl T A__law_all_right F__law_fourth F__law_is_strip F__law_number F__law_roll F__law_shape F__law_wider F_is_square
  exact ok_law rfl T FA hm hb F__law_all_right F__law_dice_N F__law_right F_corner_back F_fourth_shape F_is_square
end L22

namespace L22
open PySem L2 Pd
/-! ### small things about denotations -/
theorem ixN_nat (n j : Nat) (h : j < n) : ixN n (j : Int) = some j := by
  unfold ixN
  rw [if_pos (by omega), if_pos (by omega)]
  simp
theorem atI_get {α : Type} (l : List α) (j : Nat) : atI l (j : Int) = l[j]? := by
  unfold atI
  by_cases h : j < l.length
  · rw [ixN_nat _ _ h]
    rfl
  · unfold ixN
    rw [if_pos (by omega), if_neg (by omega), List.getElem?_eq_none (by omega)]
    rfl
theorem atI_0 {α : Type} (l : List α) : atI l 0 = l[0]? := atI_get l 0
theorem atI_1 {α : Type} (l : List α) : atI l 1 = l[1]? := atI_get l 1
theorem atI_2 {α : Type} (l : List α) : atI l 2 = l[2]? := atI_get l 2
theorem atI_3 {α : Type} (l : List α) : atI l 3 = l[3]? := atI_get l 3
theorem atI_last {α : Type} (l : List α) : atI l (-1) = l[l.length - 1]? := by
  unfold atI ixN
  rw [if_neg (by omega)]
  cases l with
  | nil => simp
  | cons x r =>
    rw [if_pos (by simp; omega)]
    have e : ((-1 : Int) + ((x :: r).length : Nat)).toNat = (x :: r).length - 1 := by omega
    rw [e]
    rfl
theorem mulOk_l {i j : Int} (h : -9223372036854775808 ≤ i) (h2 : i ≤ 9223372036854775808) : mulOk i j = true := mulOk_iff.mpr (.inr (.inl (by
  have e : (2 : Nat) ^ 64 = 18446744073709551616 := by decide
  omega)))
theorem mulOk_r {i j : Int} (h : -9223372036854775808 ≤ j) (h2 : j ≤ 9223372036854775808) : mulOk i j = true := mulOk_iff.mpr (.inr (.inr (by
  have e : (2 : Nat) ^ 64 = 18446744073709551616 := by decide
  omega)))
theorem mulOk_b {i j : Int} (h : i.natAbs < big) (h2 : j.natAbs < big) : mulOk i j = true := mulOk_iff.mpr (.inl ⟨h, h2⟩)
theorem divOk_l {j : Int} (h : 0 < j) (h2 : j ≤ 9223372036854775808) : divOk j = true := divOk_iff.mpr ⟨h, by
  have e : (2 : Nat) ^ 64 = 18446744073709551616 := by decide
  have : (2 : Nat) ^ 64 ≤ bigD := Nat.pow_le_pow_right (by decide) (by decide)
  omega⟩
theorem divOk_m {j : Int} (h : 0 < j) (h2 : j ≤ 10 ^ 70) : divOk j = true := divOk_iff.mpr ⟨h, by
  have e : (10 : Nat) ^ 70 < 2 ^ 300 := by decide
  have : (2 : Nat) ^ 300 ≤ bigD := Nat.pow_le_pow_right (by decide) (by decide)
  have e2 : ((10 ^ 70 : Nat) : Int) = 10 ^ 70 := by decide
  omega⟩
theorem powOk_l {i j : Int} (h : 0 ≤ j) (h2 : j ≤ 1000) (h3 : i.natAbs ≤ 10 ^ 70) : powOk i j = true := powOk_iff.mpr ⟨⟨h, h2⟩, by
  have e : (10 : Nat) ^ 70 < 2 ^ 2000 := by decide
  omega⟩
theorem asInts_map (ns : List Int) : asInts (ns.map .int) = some ns := by
  induction ns with
  | nil => rfl
  | cons n ns ih => simp [asInts, ih]
theorem asBls_map {α : Type} (p : α → Bool) (l : List α) : asBls (l.map fun x => .bl (p x)) = some (l.map p) := by
  induction l with
  | nil => rfl
  | cons n ns ih => simp [asBls, ih]
theorem eqvL_ints : ∀ (a b : List Int), eqvL (a.map .int) (b.map .int) = decide (a = b)
  | [], [] => by simp [eqvL]
  | [], b :: bs => by simp [eqvL]
  | a :: as, [] => by simp [eqvL]
  | a :: as, b :: bs => by
    have ih := eqvL_ints as bs
    simp only [List.map_cons, eqvL, D.eqv, ih]
    by_cases h : a = b <;> simp [h]
theorem fitL_ints (n : Nat) : ∀ (a : List Int), fitL n (a.map .int) = true
  | [] => by simp [fitL]
  | a :: as => by
    simp only [List.map_cons, fitL, fitL_ints n as, Bool.and_true]
    cases n <;> simp [fit]
theorem fitL_all (n : Nat) (ds : List D) (h : ∀ d ∈ ds, fit n d = true) : fitL n ds = true := by
  induction ds with
  | nil => simp [fitL]
  | cons d ds ih =>
    unfold fitL
    rw [h d List.mem_cons_self, ih fun x hx => h x (List.mem_cons_of_mem _ hx)]
    rfl
mutual
theorem eqv_self : ∀ (n : Nat) (d : D), fit n d = true → d.eqv d = true
  | n, d, h => by
    cases d with
    | non => rfl
    | bl b => simp [D.eqv]
    | int i => simp [D.eqv]
    | str x => simp [D.eqv]
    | tup xs =>
      cases n with
      | zero => simp [fit] at h
      | succ n =>
        unfold fit at h
        unfold D.eqv
        exact eqvL_self n xs h
    | lst xs =>
      cases n with
      | zero => simp [fit] at h
      | succ n =>
        unfold fit at h
        unfold D.eqv
        exact eqvL_self n xs h
    | obj _ _ => cases n <;> simp [fit] at h
    | scr _ => cases n <;> simp [fit] at h
    | val _ => cases n <;> simp [fit] at h
theorem eqvL_self : ∀ (n : Nat) (d : List D), fitL n d = true → eqvL d d = true
  | _, [], _ => by simp [eqvL]
  | n, x :: xs, h => by
    unfold fitL at h
    obtain ⟨a1, a2⟩ := Bool.and_eq_true_iff.mp h
    unfold eqvL
    rw [eqv_self n x a1, eqvL_self n xs a2]
    rfl
end
/-- a comprehension whose turns leave the store -/
theorem lcD_map {α : Type} {tg : Tg} {test : Pd.Env → Store → R Bool} {elt : Ev} {Γ : Pd.Env} {S : Store} (l : List α) (r f : α → D)
    (h : ∀ x ∈ l, ∃ Γ1, tg (r x) Γ = some Γ1 ∧ test Γ1 S = .ok true S ∧ elt Γ1 S = .ok (.d (f x)) S) : lcD tg test elt Γ (l.map r) S = .ok (l.map f) S := by
  induction l with
  | nil => rfl
  | cons x l ih =>
    obtain ⟨Γ1, h1, h2, h3⟩ := h x List.mem_cons_self
    rw [List.map_cons, lcD, h1]
    simp only [h2, h3, noX, R.bind, lcY, if_true, ih fun y hy => h y (List.mem_cons_of_mem _ hy), List.map_cons]
theorem lcD_filter {α : Type} {tg : Tg} {test : Pd.Env → Store → R Bool} {elt : Ev} {Γ : Pd.Env} {S : Store} (l : List α) (r f : α → D) (p : α → Bool)
    (h : ∀ x ∈ l, ∃ Γ1, tg (r x) Γ = some Γ1 ∧ test Γ1 S = .ok (p x) S ∧ (p x = true → elt Γ1 S = .ok (.d (f x)) S)) : lcD tg test elt Γ (l.map r) S = .ok ((l.filter p).map f) S := by
  induction l with
  | nil => rfl
  | cons x l ih =>
    obtain ⟨Γ1, h1, h2, h3⟩ := h x List.mem_cons_self
    have ih' := ih fun y hy => h y (List.mem_cons_of_mem _ hy)
    rw [List.map_cons, lcD, h1]
    cases hp : p x with
    | true => simp only [h2, hp, h3 hp, noX, R.bind, lcY, if_true, ih', List.filter_cons, List.map_cons]
    | false => simp [h2, hp, noX, R.bind, ih', List.filter_cons]
/-- a comprehension whose turns change the store -/
theorem lcD_st {α : Type} {tg : Tg} {elt : Ev} {Γ : Pd.Env} (l : List α) (r : α → D) (Q : D → Prop) (I : Store → Prop) (S : Store) (h0 : I S)
    (h : ∀ x ∈ l, ∀ S, I S → ∃ Γ1, tg (r x) Γ = some Γ1 ∧ ∃ d S', elt Γ1 S = .ok (.d d) S' ∧ Q d ∧ I S') : ∃ ds S', lcD tg tYesD elt Γ (l.map r) S = .ok ds S' ∧ ds.length = l.length ∧ (∀ d ∈ ds, Q d) ∧ I S' := by
  induction l generalizing S with
  | nil => exact ⟨[], S, rfl, rfl, by simp, h0⟩
  | cons x l ih =>
    obtain ⟨Γ1, h1, d, S1, h2, h3, h4⟩ := h x List.mem_cons_self S h0
    obtain ⟨ds, S2, e, e1, e2, e3⟩ := ih S1 h4 fun y hy => h y (List.mem_cons_of_mem _ hy)
    refine ⟨d :: ds, S2, ?_, by simp [e1], ?_, e3⟩
    · rw [List.map_cons, lcD, h1]
      simp only [tYesD, h2, noX, R.bind, lcY, if_true, e]
    · intro z hz
      rcases List.mem_cons.mp hz with q | q
      · rw [q]; exact h3
      · exact e2 z q
theorem forD_inv {tg : Tg} {body : Sv} (l : List D) (P : Nat → Pd.Env → Store → Prop) {Γ : Pd.Env} {S : Store} (h0 : P 0 Γ S)
    (hs : ∀ i x Γ S, l[i]? = some x → P i Γ S → ∃ Γ1, tg x Γ = some Γ1 ∧ ∃ Γ2 S2, (body Γ1 S = .nx Γ2 S2 ∨ body Γ1 S = .ct Γ2 S2) ∧ P (i + 1) Γ2 S2) :
    ∃ Γ' S', forD tg body l Γ S = .nx Γ' S' ∧ P l.length Γ' S' := by
  induction l generalizing P Γ S with
  | nil => exact ⟨Γ, S, rfl, h0⟩
  | cons x l ih =>
    obtain ⟨Γ1, h1, Γ2, S2, h2, h3⟩ := hs 0 x Γ S rfl h0
    obtain ⟨Γ', S', e, hp⟩ := ih (fun i => P (i + 1)) h3 fun i y Γ S hy hP => hs (i + 1) y Γ S (by simpa using hy) hP
    refine ⟨Γ', S', ?_, hp⟩
    rw [forD, h1]
    rcases h2 with h2 | h2 <;> simp only [h2, F.lp, e]
theorem whD_step {t : Ev} {body : Sv} {n : Nat} {Γ : Pd.Env} {S : Store} {Γ2 : Pd.Env} {S1 S2 : Store} (ht : eTest t Γ S = .ok true S1) (hb : body Γ S1 = .nx Γ2 S2) : whD t body (n + 1) Γ S = whD t body n Γ2 S2 := by
  rw [whD, ht]
  simp only [R.fl, if_true, hb, F.lp]
theorem whD_end {t : Ev} {body : Sv} {n : Nat} {Γ : Pd.Env} {S S1 : Store} (ht : eTest t Γ S = .ok false S1) : whD t body (n + 1) Γ S = .nx Γ S1 := by
  rw [whD, ht]
  simp [R.fl]
theorem upto_len (n : Nat) : (upto n).length = n := by simp [upto]
theorem upto_get {n i : Nat} {x : D} (h : (upto n)[i]? = some x) : x = .int (i : Nat) ∧ i < n := by
  unfold upto at h
  rw [List.getElem?_map] at h
  by_cases hi : i < n
  · rw [List.getElem?_range hi] at h
    cases h
    exact ⟨rfl, hi⟩
  · rw [List.getElem?_eq_none (by simpa using hi)] at h
    cases h
/-! ### steps of the denotations -/
section
variable {a b : Sv} {e f : Ev} {Γ Γ1 Γ2 : Pd.Env} {S S1 S2 S3 : Store} {r : F} {x y z : Val} {i j : Nat} {q : R Val}
theorem sq_nx (h : a Γ S = .nx Γ1 S1) (k : b Γ1 S1 = r) : sSeq a b Γ S = r := by unfold sSeq; rw [h]; exact k
theorem sq_rt (h : a Γ S = .rt x S1) : sSeq a b Γ S = .rt x S1 := by unfold sSeq; rw [h]
theorem if_t (h : eTest e Γ S = .ok true S1) (k : a Γ S1 = r) : sIf e a b Γ S = r := by unfold sIf; rw [h]; exact k
theorem if_f (h : eTest e Γ S = .ok false S1) (k : b Γ S1 = r) : sIf e a b Γ S = r := by unfold sIf; rw [h]; exact k
theorem asg_i (h : e Γ S = .ok x S1) : sAsg i e Γ S = .nx (Γ.set i (some x)) S1 := by unfold sAsg; rw [h]; rfl
theorem ret_i (h : e Γ S = .ok x S1) : sRet e Γ S = .rt x S1 := by unfold sRet; rw [h]; rfl
theorem ex_i (h : e Γ S = .ok x S1) : sEx e Γ S = .nx Γ S1 := by unfold sEx; rw [h]; rfl
theorem par_i (h : e Γ S = .ok x S1) (k : f Γ S1 = .ok y S2) : sPar i j e f Γ S = .nx ((Γ.set i (some x)).set j (some y)) S2 := by unfold sPar; rw [h]; simp only [R.fl]; rw [k]
theorem new_i {ds : List D} (h : e Γ S = .ok (.d (.lst ds)) S1) : sNew i e Γ S = .nx (Γ.set i (some (.cell S1.length))) (S1 ++ [some (.lst ds)]) := by unfold sNew; rw [h]; rfl
theorem for_i {it : Pd.Env → Store → R (List D)} {tg : Tg} {ds : List D} (h : it Γ S = .ok ds S1) (k : forD tg a ds Γ S1 = r) : sFor it tg a Γ S = r := by unfold sFor; rw [h]; exact k
theorem funD_rt {n : Nat} {body : Nat → Sv} {ds : List Val} {d : D} (h : body S.length (ds.map some ++ List.replicate n none) S = .rt (.d d) S1) (hl : S1.length = S.length) : funD n body ds S = .ok (.d d) S1 := by
  unfold funD; rw [h]; simp only [finF, fin]; rw [← hl, List.take_length]
theorem funD_nx {n : Nat} {body : Nat → Sv} {ds : List Val} (h : body S.length (ds.map some ++ List.replicate n none) S = .nx Γ1 S1) (hl : S1.length = S.length) : funD n body ds S = .ok (.d .non) S1 := by
  unfold funD; rw [h]; simp only [finF, fin]; rw [← hl, List.take_length]
theorem funD_cut {n : Nat} {body : Nat → Sv} {ds : List Val} {d : D} {T : Store} (h : body S.length (ds.map some ++ List.replicate n none) S = .rt (.d d) (S1 ++ T)) (hl : S1.length = S.length) : funD n body ds S = .ok (.d d) S1 := by
  unfold funD; rw [h]; simp only [finF, fin]; rw [← hl, List.take_left]
theorem c1 {d : List Val → Store → R Val} (h1 : e Γ S = .ok x S1) (k : d [x] S1 = q) : eCall d (eCons e eNil) Γ S = q := by
  simp only [eCall, eCons, eNil, h1, R.bind, k]
theorem c2 {d : List Val → Store → R Val} (h1 : e Γ S = .ok x S1) (h2 : f Γ S1 = .ok y S2) (k : d [x, y] S2 = q) : eCall d (eCons e (eCons f eNil)) Γ S = q := by
  simp only [eCall, eCons, eNil, h1, h2, R.bind, k]
theorem c3 {e3 : Ev} {d : List Val → Store → R Val} (h1 : e Γ S = .ok x S1) (h2 : f Γ S1 = .ok y S2) (h3 : e3 Γ S2 = .ok z S3) (k : d [x, y, z] S3 = q) : eCall d (eCons e (eCons f (eCons e3 eNil))) Γ S = q := by
  simp only [eCall, eCons, eNil, h1, h2, h3, R.bind, k]
theorem b2 {d : Val → Val → Store → R Val} (h1 : e Γ S = .ok x S1) (h2 : f Γ S1 = .ok y S2) (k : d x y S2 = q) : eBin d e f Γ S = q := by
  simp only [eBin, h1, h2, R.bind, k]
theorem u1 {d : Val → Store → R Val} (h1 : e Γ S = .ok x S1) (k : d x S1 = q) : eUn d e Γ S = q := by
  simp only [eUn, h1, R.bind, k]
theorem t_i {p : Bool} (h : e Γ S = .ok (.d (.bl p)) S1) : eTest e Γ S = .ok p S1 := by
  simp only [eTest, h, R.bind, asB]
theorem not_i {p : Bool} (h : e Γ S = .ok (.d (.bl p)) S1) : eTest (eNot e) Γ S = .ok (!p) S1 := by
  simp only [eTest, eNot, h, R.bind, asB]
end
theorem itR1_i {e : Ev} {Γ : Pd.Env} {S S1 : Store} {n : Int} {m : Nat} (h : e Γ S = .ok (.d (.int n)) S1) (hn : n = m) (hm : m ≤ 1000000) : itR1 e Γ S = .ok (upto m) S1 := by
  have ec : cap = 1000000 := rfl
  unfold itR1
  rw [h]
  simp only [R.bind]
  rw [if_pos ⟨by omega, by omega⟩, hn, Int.toNat_natCast]
theorem app_last {i : Nat} {e : Ev} {Γ : Pd.Env} {S S' : Store} {ds : List D} {d : D} (h0 : Γ[i]? = some (some (.cell S.length))) (he : e Γ (S ++ [some (.lst ds)]) = .ok (.d d) (S' ++ [some (.lst ds)])) (hl : S'.length = S.length) (hz : ds.length < 1000000) : eApp (eVar i) e Γ (S ++ [some (.lst ds)]) = .ok (.d .non) (S' ++ [some (.lst (ds ++ [d]))]) := by
  have hg : ∀ o : Option Cell, (S ++ [o])[S.length]? = some o := fun o => by simp
  have hg' : ∀ o : Option Cell, (S' ++ [o])[S.length]? = some o := fun o => by rw [← hl]; simp
  have hs : ∀ a b : Option Cell, (S' ++ [a]).set S.length b = S' ++ [b] := fun a b => by rw [← hl]; simp
  have ec : ds.length < cap := hz
  simp only [eApp, eVar, h0, R.bind, rd, hg, he, hg', hs, ec, if_true]
theorem frz_last {i : Nat} {Γ : Pd.Env} {S : Store} {ds : List D} (h0 : Γ[i]? = some (some (.cell S.length))) : sFrz S.length i Γ (S ++ [some (.lst ds)]) = .nx ((Γ.set i (some (.d (.lst ds)))).map (keepB S.length)) S := by
  have hg : ∀ o : Option Cell, (S ++ [o])[S.length]? = some o := fun o => by simp
  unfold sFrz
  rw [h0]
  simp only [hg, Nat.le_refl, if_true]
  rw [if_pos (by simp)]
  simp
theorem itR2_i {e f : Ev} {Γ : Pd.Env} {S S1 S2 : Store} {a b : Int} {m : Nat} (h : e Γ S = .ok (.d (.int a)) S1) (h2 : f Γ S1 = .ok (.d (.int b)) S2) (hm : b - a = m) (ha : -1000 ≤ a ∧ a ≤ 1000) (hb : m ≤ 100000) : itR2 e f Γ S = .ok ((List.range m).map fun i => .int (a + (i : Nat))) S2 := by
  have ec : cap = 1000000 := rfl
  unfold itR2
  rw [h]
  simp only [R.bind]
  rw [h2]
  simp only []
  rw [if_pos ⟨⟨by omega, by omega⟩, by omega, by omega⟩, hm, Int.toNat_natCast]
section
variable {e f : Ev} {Γ : Pd.Env} {S S1 S2 : Store} {q : R Val} {b : Bool}
theorem and_t (h : eTest e Γ S = .ok true S1) (k : f Γ S1 = q) : eAnd e f Γ S = q := by unfold eAnd; rw [h]; exact k
theorem and_f (h : eTest e Γ S = .ok false S1) : eAnd e f Γ S = .ok (.d (.bl false)) S1 := by unfold eAnd; rw [h]; rfl
theorem or_t (h : eTest e Γ S = .ok true S1) : eOr e f Γ S = .ok (.d (.bl true)) S1 := by unfold eOr; rw [h]; rfl
theorem or_f (h : eTest e Γ S = .ok false S1) (k : f Γ S1 = q) : eOr e f Γ S = q := by unfold eOr; rw [h]; exact k
theorem tand_t (h : eTest e Γ S = .ok true S1) (k : eTest f Γ S1 = .ok b S2) : eTest (eAnd e f) Γ S = .ok b S2 := by show (eAnd e f Γ S).bind asB = _; rw [and_t h rfl]; exact k
theorem tand_f (h : eTest e Γ S = .ok false S1) : eTest (eAnd e f) Γ S = .ok false S1 := t_i (and_f h)
theorem tor_t (h : eTest e Γ S = .ok true S1) : eTest (eOr e f) Γ S = .ok true S1 := t_i (or_t h)
theorem tor_f (h : eTest e Γ S = .ok false S1) (k : eTest f Γ S1 = .ok b S2) : eTest (eOr e f) Γ S = .ok b S2 := by show (eOr e f Γ S).bind asB = _; rw [or_f h rfl]; exact k
theorem tnot (h : eTest e Γ S = .ok b S1) : eTest (eNot e) Γ S = .ok (!b) S1 := by
  show (eNot e Γ S).bind asB = _
  unfold eNot
  rw [h]
  rfl
end
/-! ### common: plain things -/
theorem int_big {i : Int} (h : i.natAbs ≤ 10 ^ 70) : i.natAbs < big := by
  have e : (10 : Nat) ^ 70 < 2 ^ 255 := by decide
  have h3 : (2 : Nat) ^ 255 ≤ big := Nat.pow_le_pow_right (by decide) (by decide)
  omega
theorem take_sum (ns : List Int) (i : Nat) (h : i < ns.length) : (ns.take (i + 1)).sum = (ns.take i).sum + ns[i] := by
  rw [List.take_succ_eq_append_getElem h, List.sum_append]
  simp
theorem sum_nn : ∀ {ns : List Int}, (∀ n ∈ ns, 0 ≤ n) → 0 ≤ ns.sum
  | [], _ => by simp
  | n :: ns, h => by
    have h1 := sum_nn (ns := ns) fun x hx => h x (List.mem_cons_of_mem _ hx)
    have h2 := h n List.mem_cons_self
    rw [List.sum_cons]
    omega
theorem take_drop_sum (ns : List Int) (i : Nat) : ns.sum = (ns.take i).sum + (ns.drop i).sum := by
  conv => lhs; rw [← List.take_append_drop i ns]
  rw [List.sum_append]
def gos (ns : List Int) : Bool := (ns.zip (ns.drop 1)).all fun p => decide (p.2 ≤ p.1)
theorem gos_eq (ns : List Int) : gos ns = decide (((ns.zip (ns.drop 1)).filter fun p => decide (p.1 < p.2)) = []) := by
  unfold gos
  generalize ns.zip (ns.drop 1) = l
  induction l with
  | nil => rfl
  | cons x l ih =>
    rw [List.all_cons, ih, List.filter_cons]
    by_cases h : x.1 < x.2
    · have : ¬ x.2 ≤ x.1 := by omega
      have t : decide (x.2 ≤ x.1) = false := decide_eq_false this
      simp only [t, h, decide_true, if_true, Bool.false_and]
      rfl
    · have : x.2 ≤ x.1 := by omega
      simp [h, this]
abbrev tI (ns : List Int) : Val := .d (.tup (ns.map .int))
theorem lc_i {it : Pd.Env → Store → R (List D)} {vs : List Nat} {tg : Tg} {test : Pd.Env → Store → R Bool} {elt : Ev} {Γ : Pd.Env} {S S1 S2 : Store} {ds es : List D} (h : it Γ S = .ok ds S1) (hl : ds.length ≤ cap) (k : lcD tg test elt (wipeE Γ vs) ds S1 = .ok es S2) : eLc it vs tg test elt Γ S = .ok (.d (.lst es)) S2 := by
  unfold eLc
  rw [h]
  simp only [R.bind, hl, if_true, k, noX]
theorem cut1 {α : Type} (l : List α) : cutD l (some 1) none = l.drop 1 := by
  unfold cutD
  cases l with
  | nil => simp [HT.sIx]
  | cons x l => simp [HT.sIx]
theorem cutTo {α : Type} (l : List α) (i : Nat) (h : i ≤ l.length) : cutD l none (some (i : Int)) = l.take i := by
  unfold cutD
  have h2 : ¬ ((i : Int) < 0) := by omega
  simp [HT.sIx, h2]
  all_goals try omega
theorem zip_pairs (ns ms : List Int) : zipD (ns.map .int) (ms.map .int) = (ns.zip ms).map fun p => .tup [.int p.1, .int p.2] := by
  unfold zipD
  rw [List.zip_map, List.map_map]
  rfl
theorem fNe_same (d : D) (S : Store) (h : fit 60 d = true) : fNe (.d d) (.d d) S = .ok (.d (.bl false)) S := by
  simp only [fNe, rd, h, and_self, if_true, eqv_self 60 d h, Bool.not_true]
theorem fEq_same (d : D) (S : Store) (h : fit 60 d = true) : fEq (.d d) (.d d) S = .ok (.d (.bl true)) S := by
  simp only [fEq, rd, h, and_self, if_true, eqv_self 60 d h]
theorem fit_ints (n : Nat) (ns : List Int) : fit (n + 1) (.lst (ns.map .int)) = true := by
  unfold fit
  exact fitL_ints n ns
theorem fit_intsT (n : Nat) (ns : List Int) : fit (n + 1) (.tup (ns.map .int)) = true := by
  unfold fit
  exact fitL_ints n ns
theorem fit_int (n : Nat) (i : Int) : fit n (.int i) = true := by
  cases n <;> simp [fit]
theorem ints_of {P : Int → Prop} : ∀ {ds : List D}, (∀ d ∈ ds, ∃ x, d = .int x ∧ P x) → ∃ ns : List Int, ds = ns.map .int ∧ ∀ x ∈ ns, P x
  | [], _ => ⟨[], rfl, by simp⟩
  | d :: ds, h => by
    obtain ⟨x, rfl, px⟩ := h d List.mem_cons_self
    obtain ⟨ns, rfl, q⟩ := ints_of (ds := ds) fun e he => h e (List.mem_cons_of_mem _ he)
    refine ⟨x :: ns, rfl, fun y hy => ?_⟩
    rcases List.mem_cons.mp hy with rfl | hy
    · exact px
    · exact q y hy
theorem fit_tf (b : Bool) : fit 60 (.str (if b then "True" else "False")) = true := by
  cases b
  · unfold fit; decide +kernel
  · unfold fit; decide +kernel
theorem c4 {e f e3 e4 : Ev} {Γ : Pd.Env} {S S1 S2 S3 S4 : Store} {x y z u : Val} {q : R Val} {d : List Val → Store → R Val} (h1 : e Γ S = .ok x S1) (h2 : f Γ S1 = .ok y S2) (h3 : e3 Γ S2 = .ok z S3) (h4 : e4 Γ S3 = .ok u S4) (k : d [x, y, z, u] S4 = q) : eCall d (eCons e (eCons f (eCons e3 (eCons e4 eNil)))) Γ S = q := by
  simp only [eCall, eCons, eNil, h1, h2, h3, h4, R.bind, k]
end L22

namespace L22
open PySem L2 Pd
/-! ### the dice of the laws -/
def roll2 (b c t : Int) : Int :=
  (((((b + 86028121 * (c + 1)) % 2305843009213693951 * ((b + 86028121 * (c + 1)) % 2305843009213693951) + 191 * (c + 1)) % 2305843009213693907) * 15485867 + (b + 86028121 * (c + 1)) % 2305843009213693951) / 65537) % t
abbrev dice (a b c : Int) : Option Cell := some (.lst [.int a, .int b, .int c])
theorem roll_ex (a b c t : Int) (S : Store) (h : 0 < t) (hb : divOk t = true) : ∃ v a' c', 0 ≤ v ∧ v < t ∧
    d__law_roll [.cell 0, .d (.int t)] (dice a b c :: S) = .ok (.d (.int v)) (dice a' b c' :: S) := by
  by_cases ha : 0 < a
  · refine ⟨a % t, a / t, c, Int.emod_nonneg _ (by omega), Int.emod_lt_of_pos _ h, ?_⟩
    unfold d__law_roll
    simp only [funD, finF, fin, sNil, sSeq, sEx, sRet, sRetN, sAsg, sNew, sIf, sAsgT, sPar, sFrz, sRetC, sNever, sBrk, sCont, sFor, eVar, eC, eBin, eUn, eTest, eAnd, eOr, eNot, eIf, eChain, eNil, eCons, eCall, eSl, eoN, eoS, eApp, eExt, ePop, sSet, itV, itR1, itR2, itEn, itZ, eLc, asB, clo, fTup, fLst, fAddL, fMulL, fI, fAdd, fSub, fMul, fDiv, fMod, fPow, fNeg, fLt, fLe, fGt, fGe, fEq, fNe, fIx, fIsN, fNotN, Pd.isNon, fLen, fAbs, fInt, fTuple, fList, fSum, fAll, fAny, fMax2, fMin2, isiD, fIsi, fSl, fRev, fSorted, fRepr, rd, R.bind, R.fl, F.lp, noX, tYesD, lcY, tgN, tgsNil, tgsCons, tgT, wipeE, keepB, List.map_cons, List.map_nil, List.replicate_succ, List.replicate_zero, List.cons_append, List.nil_append, List.append_nil, List.length_cons, List.length_nil, List.length_append, List.getElem?_cons_zero, List.getElem?_cons_succ, List.getElem?_nil, List.set_cons_zero, List.set_cons_succ, List.take_zero, List.take_succ_cons, List.take_nil, Option.map_some, Option.map_none, Option.bind_some, Option.bind_none, Nat.zero_add, Nat.add_zero, Nat.reduceAdd, Nat.reduceLeDiff, Nat.reduceSub, Nat.reduceEqDiff, Int.reduceLT, Int.reduceLE, Int.reduceEq, Int.reduceNeg, Int.reduceAdd, Int.reduceSub, Int.reduceMul, decide_true, decide_false, ↓reduceIte, decide_eq_true_eq, Bool.not_eq_true', decide_eq_false_iff_not, Bool.false_eq_true, Bool.true_eq_false, Bool.not_true, Bool.not_false, true_and, and_true, and_self, false_and, and_false, ixN, atI_0, atI_1, atI_2, ha, h, hb]
    simp
  · refine ⟨roll2 b c t, a, c + 1, Int.emod_nonneg _ (by omega), Int.emod_lt_of_pos _ h, ?_⟩
    unfold d__law_roll
    have m1 : mulOk 86028121 (c + 1) = true := mulOk_l (by decide) (by decide)
    have m2 : mulOk 191 (c + 1) = true := mulOk_l (by decide) (by decide)
    have m3 : mulOk ((b + 86028121 * (c + 1)) % 2305843009213693951) ((b + 86028121 * (c + 1)) % 2305843009213693951) = true := mulOk_l (by omega) (by omega)
    have m4 : mulOk (((b + 86028121 * (c + 1)) % 2305843009213693951 * ((b + 86028121 * (c + 1)) % 2305843009213693951) + 191 * (c + 1)) % 2305843009213693907) 15485867 = true := mulOk_l (by omega) (by omega)
    have m5 : divOk 65537 = true := divOk_l (by decide) (by decide)
    simp only [funD, finF, fin, sNil, sSeq, sEx, sRet, sRetN, sAsg, sNew, sIf, sAsgT, sPar, sFrz, sRetC, sNever, sBrk, sCont, sFor, eVar, eC, eBin, eUn, eTest, eAnd, eOr, eNot, eIf, eChain, eNil, eCons, eCall, eSl, eoN, eoS, eApp, eExt, ePop, sSet, itV, itR1, itR2, itEn, itZ, eLc, asB, clo, fTup, fLst, fAddL, fMulL, fI, fAdd, fSub, fMul, fDiv, fMod, fPow, fNeg, fLt, fLe, fGt, fGe, fEq, fNe, fIx, fIsN, fNotN, Pd.isNon, fLen, fAbs, fInt, fTuple, fList, fSum, fAll, fAny, fMax2, fMin2, isiD, fIsi, fSl, fRev, fSorted, fRepr, rd, R.bind, R.fl, F.lp, noX, tYesD, lcY, tgN, tgsNil, tgsCons, tgT, wipeE, keepB, List.map_cons, List.map_nil, List.replicate_succ, List.replicate_zero, List.cons_append, List.nil_append, List.append_nil, List.length_cons, List.length_nil, List.length_append, List.getElem?_cons_zero, List.getElem?_cons_succ, List.getElem?_nil, List.set_cons_zero, List.set_cons_succ, List.take_zero, List.take_succ_cons, List.take_nil, Option.map_some, Option.map_none, Option.bind_some, Option.bind_none, Nat.zero_add, Nat.add_zero, Nat.reduceAdd, Nat.reduceLeDiff, Nat.reduceSub, Nat.reduceEqDiff, Int.reduceLT, Int.reduceLE, Int.reduceEq, Int.reduceNeg, Int.reduceAdd, Int.reduceSub, Int.reduceMul, decide_true, decide_false, ↓reduceIte, decide_eq_true_eq, Bool.not_eq_true', decide_eq_false_iff_not, Bool.false_eq_true, Bool.true_eq_false, Bool.not_true, Bool.not_false, true_and, and_true, and_self, false_and, and_false, ixN, atI_0, atI_1, atI_2, ha, h, hb, m1, m2, m3, m4, m5]
    simp [m1, m2, m3, m4, m5, h, atI_0, atI_1, atI_2, roll2]
theorem dice_ex (ns : List Int) (k : Nat) (S : Store) : ∃ a b c, d__law_dice [.d (.scr ns), .d (.int (k : Nat))] S = .ok (.d (.lst [.int a, .int b, .int c])) S := by
  have p1 : powOk 10 54 = true := powOk_l (by decide) (by decide) (by decide)
  have p2 : powOk (10 ^ 54) 6 = true := powOk_l (by decide) (by decide) (by decide)
  have p3 : powOk 10 16 = true := powOk_l (by decide) (by decide) (by decide)
  have key : ∀ cell : Int, ∃ a b c, (sSeq (sAsg 3 (eBin fMod (eUn fInt (eUn fAbs (eVar 2))) (eBin fPow (eBin fPow (eC (.int 10)) (eC (.int 54))) (eC (.int 6))))) (sSeq (sAsg 4 (eBin fAdd (eBin fAdd (eBin fAdd (eBin fMul (eBin fMod (eVar 3) (eC (.int 2305843009213693921))) (eC (.int 97))) (eBin fMul (eC (.int 733)) (eVar 1))) (eBin fMul (eC (.int 67)) (eUn fInt (eBin fLt (eVar 2) (eC (.int 0)))))) (eC (.int 53)))) (sRet (eCall fLst (eCons (eBin fMax2 (eC (.int 0)) (eBin fSub (eVar 3) (eBin fPow (eC (.int 10)) (eC (.int 16))))) (eCons (eVar 4) (eCons (eC (.int 0)) eNil)))))))
      [some (.d (.scr ns)), some (.d (.int (k : Nat))), some (.d (.int cell)), none, none] S = .rt (.d (.lst [.int a, .int b, .int c])) S := by
    intro cell
    apply Exists.intro
    apply Exists.intro
    apply Exists.intro
    have m1 : ∀ x : Int, mulOk x 97 = true := fun x => mulOk_r (by decide) (by decide)
    have m2 : ∀ x : Int, mulOk 733 x = true := fun x => mulOk_l (by decide) (by decide)
    have m3 : ∀ x : Int, mulOk 67 x = true := fun x => mulOk_l (by decide) (by decide)
    have e54 : (10 : Int) ^ Int.toNat 54 = 10 ^ 54 := rfl
    have q : (0 : Int) < (10 ^ 54) ^ Int.toNat 6 := by decide
    simp only [funD, finF, fin, sNil, sSeq, sEx, sRet, sRetN, sAsg, sNew, sIf, sAsgT, sPar, sFrz, sRetC, sNever, sBrk, sCont, sFor, eVar, eC, eBin, eUn, eTest, eAnd, eOr, eNot, eIf, eChain, eNil, eCons, eCall, eSl, eoN, eoS, eApp, eExt, ePop, sSet, itV, itR1, itR2, itEn, itZ, eLc, asB, clo, fTup, fLst, fAddL, fMulL, fI, fAdd, fSub, fMul, fDiv, fMod, fPow, fNeg, fLt, fLe, fGt, fGe, fEq, fNe, fIx, fIsN, fNotN, Pd.isNon, fLen, fAbs, fInt, fTuple, fList, fSum, fAll, fAny, fMax2, fMin2, isiD, fIsi, fSl, fRev, fSorted, fRepr, rd, R.bind, R.fl, F.lp, noX, tYesD, lcY, tgN, tgsNil, tgsCons, tgT, wipeE, keepB, List.map_cons, List.map_nil, List.replicate_succ, List.replicate_zero, List.cons_append, List.nil_append, List.append_nil, List.length_cons, List.length_nil, List.length_append, List.getElem?_cons_zero, List.getElem?_cons_succ, List.getElem?_nil, List.set_cons_zero, List.set_cons_succ, List.take_zero, List.take_succ_cons, List.take_nil, Option.map_some, Option.map_none, Option.bind_some, Option.bind_none, Nat.zero_add, Nat.add_zero, Nat.reduceAdd, Nat.reduceLeDiff, Nat.reduceSub, Nat.reduceEqDiff, Int.reduceLT, Int.reduceLE, Int.reduceEq, Int.reduceNeg, Int.reduceAdd, Int.reduceSub, Int.reduceMul, decide_true, decide_false, ↓reduceIte, decide_eq_true_eq, Bool.not_eq_true', decide_eq_false_iff_not, Bool.false_eq_true, Bool.true_eq_false, Bool.not_true, Bool.not_false, true_and, and_true, and_self, false_and, and_false, p1, p2, p3, m1, m2, m3, e54, q]
    rfl
  unfold d__law_dice
  by_cases hk : k < ns.length
  · obtain ⟨a, b, c, h⟩ := key ns[k]
    refine ⟨a, b, c, funD_rt (sq_nx (asg_i (x := .d (.int ns[k])) (S1 := S) ?_) h) rfl⟩
    have e : atI ns (k : Int) = some ns[k] := by rw [atI_get, List.getElem?_eq_getElem hk]
    have hk' : (k : Int) < (ns.length : Int) := by omega
    simp only [funD, finF, fin, sNil, sSeq, sEx, sRet, sRetN, sAsg, sNew, sIf, sAsgT, sPar, sFrz, sRetC, sNever, sBrk, sCont, sFor, eVar, eC, eBin, eUn, eTest, eAnd, eOr, eNot, eIf, eChain, eNil, eCons, eCall, eSl, eoN, eoS, eApp, eExt, ePop, sSet, itV, itR1, itR2, itEn, itZ, eLc, asB, clo, fTup, fLst, fAddL, fMulL, fI, fAdd, fSub, fMul, fDiv, fMod, fPow, fNeg, fLt, fLe, fGt, fGe, fEq, fNe, fIx, fIsN, fNotN, Pd.isNon, fLen, fAbs, fInt, fTuple, fList, fSum, fAll, fAny, fMax2, fMin2, isiD, fIsi, fSl, fRev, fSorted, fRepr, rd, R.bind, R.fl, F.lp, noX, tYesD, lcY, tgN, tgsNil, tgsCons, tgT, wipeE, keepB, List.map_cons, List.map_nil, List.replicate_succ, List.replicate_zero, List.cons_append, List.nil_append, List.append_nil, List.length_cons, List.length_nil, List.length_append, List.getElem?_cons_zero, List.getElem?_cons_succ, List.getElem?_nil, List.set_cons_zero, List.set_cons_succ, List.take_zero, List.take_succ_cons, List.take_nil, Option.map_some, Option.map_none, Option.bind_some, Option.bind_none, Nat.zero_add, Nat.add_zero, Nat.reduceAdd, Nat.reduceLeDiff, Nat.reduceSub, Nat.reduceEqDiff, Int.reduceLT, Int.reduceLE, Int.reduceEq, Int.reduceNeg, Int.reduceAdd, Int.reduceSub, Int.reduceMul, decide_true, decide_false, ↓reduceIte, decide_eq_true_eq, Bool.not_eq_true', decide_eq_false_iff_not, Bool.false_eq_true, Bool.true_eq_false, Bool.not_true, Bool.not_false, true_and, and_true, and_self, false_and, and_false, e, hk']
  · obtain ⟨a, b, c, h⟩ := key (233 * (k : Int) + 113)
    refine ⟨a, b, c, funD_rt (sq_nx (asg_i (x := .d (.int (233 * (k : Int) + 113))) (S1 := S) ?_) h) rfl⟩
    have hk' : ¬ (k : Int) < (ns.length : Int) := by omega
    have m0 : ∀ x : Int, mulOk 233 x = true := fun x => mulOk_l (by decide) (by decide)
    simp only [funD, finF, fin, sNil, sSeq, sEx, sRet, sRetN, sAsg, sNew, sIf, sAsgT, sPar, sFrz, sRetC, sNever, sBrk, sCont, sFor, eVar, eC, eBin, eUn, eTest, eAnd, eOr, eNot, eIf, eChain, eNil, eCons, eCall, eSl, eoN, eoS, eApp, eExt, ePop, sSet, itV, itR1, itR2, itEn, itZ, eLc, asB, clo, fTup, fLst, fAddL, fMulL, fI, fAdd, fSub, fMul, fDiv, fMod, fPow, fNeg, fLt, fLe, fGt, fGe, fEq, fNe, fIx, fIsN, fNotN, Pd.isNon, fLen, fAbs, fInt, fTuple, fList, fSum, fAll, fAny, fMax2, fMin2, isiD, fIsi, fSl, fRev, fSorted, fRepr, rd, R.bind, R.fl, F.lp, noX, tYesD, lcY, tgN, tgsNil, tgsCons, tgT, wipeE, keepB, List.map_cons, List.map_nil, List.replicate_succ, List.replicate_zero, List.cons_append, List.nil_append, List.append_nil, List.length_cons, List.length_nil, List.length_append, List.getElem?_cons_zero, List.getElem?_cons_succ, List.getElem?_nil, List.set_cons_zero, List.set_cons_succ, List.take_zero, List.take_succ_cons, List.take_nil, Option.map_some, Option.map_none, Option.bind_some, Option.bind_none, Nat.zero_add, Nat.add_zero, Nat.reduceAdd, Nat.reduceLeDiff, Nat.reduceSub, Nat.reduceEqDiff, Int.reduceLT, Int.reduceLE, Int.reduceEq, Int.reduceNeg, Int.reduceAdd, Int.reduceSub, Int.reduceMul, decide_true, decide_false, ↓reduceIte, decide_eq_true_eq, Bool.not_eq_true', decide_eq_false_iff_not, Bool.false_eq_true, Bool.true_eq_false, Bool.not_true, Bool.not_false, true_and, and_true, and_self, false_and, and_false, hk', m0]
theorem far_loop (t b : Int) (S : Store) : ∀ (k n : Nat) (v left a c : Int), k < n → 0 ≤ v → 0 ≤ left → left < 2 ^ k → ∃ v' l' a' c', 0 ≤ v' ∧
    whD (eBin fGt (eVar 3) (eC (.int 1))) (sPar 2 3 (eBin fAdd (eBin fMul (eVar 2) (eBin fPow (eC (.int 10)) (eC (.int 18)))) (eCall d__law_roll (eCons (eVar 0) (eCons (eBin fPow (eC (.int 10)) (eC (.int 18))) eNil)))) (eBin fDiv (eVar 3) (eBin fPow (eC (.int 10)) (eC (.int 18))))) n
      [some (.cell 0), some (.d (.int t)), some (.d (.int v)), some (.d (.int left))] (dice a b c :: S) = .nx [some (.cell 0), some (.d (.int t)), some (.d (.int v')), some (.d (.int l'))] (dice a' b c' :: S)
  | 0, n + 1, v, left, a, c, _, hv, h0, h1 => by
    refine ⟨v, left, a, c, hv, whD_end ?_⟩
    have : ¬ left > 1 := by omega
    simp only [funD, finF, fin, sNil, sSeq, sEx, sRet, sRetN, sAsg, sNew, sIf, sAsgT, sPar, sFrz, sRetC, sNever, sBrk, sCont, sFor, eVar, eC, eBin, eUn, eTest, eAnd, eOr, eNot, eIf, eChain, eNil, eCons, eCall, eSl, eoN, eoS, eApp, eExt, ePop, sSet, itV, itR1, itR2, itEn, itZ, eLc, asB, clo, fTup, fLst, fAddL, fMulL, fI, fAdd, fSub, fMul, fDiv, fMod, fPow, fNeg, fLt, fLe, fGt, fGe, fEq, fNe, fIx, fIsN, fNotN, Pd.isNon, fLen, fAbs, fInt, fTuple, fList, fSum, fAll, fAny, fMax2, fMin2, isiD, fIsi, fSl, fRev, fSorted, fRepr, rd, R.bind, R.fl, F.lp, noX, tYesD, lcY, tgN, tgsNil, tgsCons, tgT, wipeE, keepB, List.map_cons, List.map_nil, List.replicate_succ, List.replicate_zero, List.cons_append, List.nil_append, List.append_nil, List.length_cons, List.length_nil, List.length_append, List.getElem?_cons_zero, List.getElem?_cons_succ, List.getElem?_nil, List.set_cons_zero, List.set_cons_succ, List.take_zero, List.take_succ_cons, List.take_nil, Option.map_some, Option.map_none, Option.bind_some, Option.bind_none, Nat.zero_add, Nat.add_zero, Nat.reduceAdd, Nat.reduceLeDiff, Nat.reduceSub, Nat.reduceEqDiff, Int.reduceLT, Int.reduceLE, Int.reduceEq, Int.reduceNeg, Int.reduceAdd, Int.reduceSub, Int.reduceMul, decide_true, decide_false, ↓reduceIte, decide_eq_true_eq, Bool.not_eq_true', decide_eq_false_iff_not, Bool.false_eq_true, Bool.true_eq_false, Bool.not_true, Bool.not_false, true_and, and_true, and_self, false_and, and_false, this]
  | k + 1, n + 1, v, left, a, c, hn, hv, h0, h1 => by
    by_cases hl : left > 1
    · obtain ⟨w, a1, c1', w0, w1, e⟩ := roll_ex a b c (10 ^ 18) S (by decide) (divOk_l (by decide) (by decide))
      have e2 : (2 : Int) ^ (k + 1) = 2 ^ k * 2 := Int.pow_succ 2 k
      have h2 : left / 10 ^ 18 < 2 ^ k := by omega
      obtain ⟨v', l', a', c', q, e'⟩ := far_loop t b S k n (v * 10 ^ 18 + w) (left / 10 ^ 18) a1 c1' (by omega) (by omega) (by omega) h2
      refine ⟨v', l', a', c', q, (whD_step (S1 := dice a b c :: S) ?_ ?_).trans e'⟩
      · simp only [funD, finF, fin, sNil, sSeq, sEx, sRet, sRetN, sAsg, sNew, sIf, sAsgT, sPar, sFrz, sRetC, sNever, sBrk, sCont, sFor, eVar, eC, eBin, eUn, eTest, eAnd, eOr, eNot, eIf, eChain, eNil, eCons, eCall, eSl, eoN, eoS, eApp, eExt, ePop, sSet, itV, itR1, itR2, itEn, itZ, eLc, asB, clo, fTup, fLst, fAddL, fMulL, fI, fAdd, fSub, fMul, fDiv, fMod, fPow, fNeg, fLt, fLe, fGt, fGe, fEq, fNe, fIx, fIsN, fNotN, Pd.isNon, fLen, fAbs, fInt, fTuple, fList, fSum, fAll, fAny, fMax2, fMin2, isiD, fIsi, fSl, fRev, fSorted, fRepr, rd, R.bind, R.fl, F.lp, noX, tYesD, lcY, tgN, tgsNil, tgsCons, tgT, wipeE, keepB, List.map_cons, List.map_nil, List.replicate_succ, List.replicate_zero, List.cons_append, List.nil_append, List.append_nil, List.length_cons, List.length_nil, List.length_append, List.getElem?_cons_zero, List.getElem?_cons_succ, List.getElem?_nil, List.set_cons_zero, List.set_cons_succ, List.take_zero, List.take_succ_cons, List.take_nil, Option.map_some, Option.map_none, Option.bind_some, Option.bind_none, Nat.zero_add, Nat.add_zero, Nat.reduceAdd, Nat.reduceLeDiff, Nat.reduceSub, Nat.reduceEqDiff, Int.reduceLT, Int.reduceLE, Int.reduceEq, Int.reduceNeg, Int.reduceAdd, Int.reduceSub, Int.reduceMul, decide_true, decide_false, ↓reduceIte, decide_eq_true_eq, Bool.not_eq_true', decide_eq_false_iff_not, Bool.false_eq_true, Bool.true_eq_false, Bool.not_true, Bool.not_false, true_and, and_true, and_self, false_and, and_false, hl]
      · have p3 : powOk 10 18 = true := powOk_l (by decide) (by decide) (by decide)
        have e18 : (10 : Int) ^ Int.toNat 18 = 10 ^ 18 := rfl
        have m1 : ∀ x, mulOk x (10 ^ 18) = true := fun x => mulOk_r (by decide) (by decide)
        have p0 : (0 : Int) < 10 ^ 18 := by decide
        have p1 : divOk (10 ^ 18) = true := divOk_l (by decide) (by decide)
        simp only [funD, finF, fin, sNil, sSeq, sEx, sRet, sRetN, sAsg, sNew, sIf, sAsgT, sPar, sFrz, sRetC, sNever, sBrk, sCont, sFor, eVar, eC, eBin, eUn, eTest, eAnd, eOr, eNot, eIf, eChain, eNil, eCons, eCall, eSl, eoN, eoS, eApp, eExt, ePop, sSet, itV, itR1, itR2, itEn, itZ, eLc, asB, clo, fTup, fLst, fAddL, fMulL, fI, fAdd, fSub, fMul, fDiv, fMod, fPow, fNeg, fLt, fLe, fGt, fGe, fEq, fNe, fIx, fIsN, fNotN, Pd.isNon, fLen, fAbs, fInt, fTuple, fList, fSum, fAll, fAny, fMax2, fMin2, isiD, fIsi, fSl, fRev, fSorted, fRepr, rd, R.bind, R.fl, F.lp, noX, tYesD, lcY, tgN, tgsNil, tgsCons, tgT, wipeE, keepB, List.map_cons, List.map_nil, List.replicate_succ, List.replicate_zero, List.cons_append, List.nil_append, List.append_nil, List.length_cons, List.length_nil, List.length_append, List.getElem?_cons_zero, List.getElem?_cons_succ, List.getElem?_nil, List.set_cons_zero, List.set_cons_succ, List.take_zero, List.take_succ_cons, List.take_nil, Option.map_some, Option.map_none, Option.bind_some, Option.bind_none, Nat.zero_add, Nat.add_zero, Nat.reduceAdd, Nat.reduceLeDiff, Nat.reduceSub, Nat.reduceEqDiff, Int.reduceLT, Int.reduceLE, Int.reduceEq, Int.reduceNeg, Int.reduceAdd, Int.reduceSub, Int.reduceMul, decide_true, decide_false, ↓reduceIte, decide_eq_true_eq, Bool.not_eq_true', decide_eq_false_iff_not, Bool.false_eq_true, Bool.true_eq_false, Bool.not_true, Bool.not_false, true_and, and_true, and_self, false_and, and_false, p3, e18, m1, e, p0, p1]
    · refine ⟨v, left, a, c, hv, whD_end ?_⟩
      simp only [funD, finF, fin, sNil, sSeq, sEx, sRet, sRetN, sAsg, sNew, sIf, sAsgT, sPar, sFrz, sRetC, sNever, sBrk, sCont, sFor, eVar, eC, eBin, eUn, eTest, eAnd, eOr, eNot, eIf, eChain, eNil, eCons, eCall, eSl, eoN, eoS, eApp, eExt, ePop, sSet, itV, itR1, itR2, itEn, itZ, eLc, asB, clo, fTup, fLst, fAddL, fMulL, fI, fAdd, fSub, fMul, fDiv, fMod, fPow, fNeg, fLt, fLe, fGt, fGe, fEq, fNe, fIx, fIsN, fNotN, Pd.isNon, fLen, fAbs, fInt, fTuple, fList, fSum, fAll, fAny, fMax2, fMin2, isiD, fIsi, fSl, fRev, fSorted, fRepr, rd, R.bind, R.fl, F.lp, noX, tYesD, lcY, tgN, tgsNil, tgsCons, tgT, wipeE, keepB, List.map_cons, List.map_nil, List.replicate_succ, List.replicate_zero, List.cons_append, List.nil_append, List.append_nil, List.length_cons, List.length_nil, List.length_append, List.getElem?_cons_zero, List.getElem?_cons_succ, List.getElem?_nil, List.set_cons_zero, List.set_cons_succ, List.take_zero, List.take_succ_cons, List.take_nil, Option.map_some, Option.map_none, Option.bind_some, Option.bind_none, Nat.zero_add, Nat.add_zero, Nat.reduceAdd, Nat.reduceLeDiff, Nat.reduceSub, Nat.reduceEqDiff, Int.reduceLT, Int.reduceLE, Int.reduceEq, Int.reduceNeg, Int.reduceAdd, Int.reduceSub, Int.reduceMul, decide_true, decide_false, ↓reduceIte, decide_eq_true_eq, Bool.not_eq_true', decide_eq_false_iff_not, Bool.false_eq_true, Bool.true_eq_false, Bool.not_true, Bool.not_false, true_and, and_true, and_self, false_and, and_false, hl]
theorem far_ex (a b c t : Int) (S : Store) (h : 0 < t) (ht : t ≤ 10 ^ 70) : ∃ v a' c', 0 ≤ v ∧ v < t ∧
    d__law_far [.cell 0, .d (.int t)] (dice a b c :: S) = .ok (.d (.int v)) (dice a' b c' :: S) := by
  obtain ⟨v', l', a', c', q, e⟩ := far_loop t b S 300 fuel 0 t a c (by decide) (by decide) (by omega) (by
    have : (10 : Int) ^ 70 < 2 ^ 300 := by decide
    omega)
  refine ⟨v' % t, a', c', Int.emod_nonneg _ (by omega), Int.emod_lt_of_pos _ h, ?_⟩
  refine funD_rt (sq_nx (par_i (x := .d (.int 0)) (y := .d (.int t)) rfl rfl) (sq_nx e (ret_i ?_))) rfl
  have hb := divOk_m h ht
  simp only [funD, finF, fin, sNil, sSeq, sEx, sRet, sRetN, sAsg, sNew, sIf, sAsgT, sPar, sFrz, sRetC, sNever, sBrk, sCont, sFor, eVar, eC, eBin, eUn, eTest, eAnd, eOr, eNot, eIf, eChain, eNil, eCons, eCall, eSl, eoN, eoS, eApp, eExt, ePop, sSet, itV, itR1, itR2, itEn, itZ, eLc, asB, clo, fTup, fLst, fAddL, fMulL, fI, fAdd, fSub, fMul, fDiv, fMod, fPow, fNeg, fLt, fLe, fGt, fGe, fEq, fNe, fIx, fIsN, fNotN, Pd.isNon, fLen, fAbs, fInt, fTuple, fList, fSum, fAll, fAny, fMax2, fMin2, isiD, fIsi, fSl, fRev, fSorted, fRepr, rd, R.bind, R.fl, F.lp, noX, tYesD, lcY, tgN, tgsNil, tgsCons, tgT, wipeE, keepB, List.map_cons, List.map_nil, List.replicate_succ, List.replicate_zero, List.cons_append, List.nil_append, List.append_nil, List.length_cons, List.length_nil, List.length_append, List.getElem?_cons_zero, List.getElem?_cons_succ, List.getElem?_nil, List.set_cons_zero, List.set_cons_succ, List.take_zero, List.take_succ_cons, List.take_nil, Option.map_some, Option.map_none, Option.bind_some, Option.bind_none, Nat.zero_add, Nat.add_zero, Nat.reduceAdd, Nat.reduceLeDiff, Nat.reduceSub, Nat.reduceEqDiff, Int.reduceLT, Int.reduceLE, Int.reduceEq, Int.reduceNeg, Int.reduceAdd, Int.reduceSub, Int.reduceMul, decide_true, decide_false, ↓reduceIte, decide_eq_true_eq, Bool.not_eq_true', decide_eq_false_iff_not, Bool.false_eq_true, Bool.true_eq_false, Bool.not_true, Bool.not_false, true_and, and_true, and_self, false_and, and_false, h, hb]
end L22

namespace L22
open PySem L2 Pd
/-! ### shapes, plainly -/
def nu (ns : List Int) (i : Nat) : Int := (ns[i]?).getD 0
theorem nu_lt {ns : List Int} {i : Nat} (h : i < ns.length) : nu ns i = ns[i] := by unfold nu; rw [List.getElem?_eq_getElem h]; rfl
theorem nu_ge {ns : List Int} {i : Nat} (h : ns.length ≤ i) : nu ns i = 0 := by unfold nu; rw [List.getElem?_eq_none h]; rfl
theorem nu_c0 (x : Int) (l : List Int) : nu (x :: l) 0 = x := rfl
theorem nu_cs (x : Int) (l : List Int) (i : Nat) : nu (x :: l) (i + 1) = nu l i := by simp [nu]
structure Sh (ns : List Int) : Prop where
  pos : ∀ x ∈ ns, 0 < x
  dec : ∀ i, nu ns (i + 1) ≤ nu ns i
theorem nu_nn {ns : List Int} (h : ∀ x ∈ ns, 0 ≤ x) (i : Nat) : 0 ≤ nu ns i := by
  rcases Nat.lt_or_ge i ns.length with q | q
  · rw [nu_lt q]; exact h _ (List.getElem_mem q)
  · rw [nu_ge q]; omega
theorem Sh.nn {ns : List Int} (h : Sh ns) (i : Nat) : 0 ≤ nu ns i := nu_nn (fun x hx => Int.le_of_lt (h.pos x hx)) i
def leanL (ns : List Int) : List Int := ns.filter fun x => decide (0 < x)
def mkS (g : Nat → Int) (n : Nat) : List Int := leanL ((List.range n).map g)
theorem mkS_succ (g : Nat → Int) (n : Nat) : mkS g (n + 1) = (if 0 < g 0 then [g 0] else []) ++ mkS (fun i => g (i + 1)) n := by
  unfold mkS leanL
  rw [List.range_succ_eq_map, List.map_cons, List.map_map, List.filter_cons]
  by_cases h : 0 < g 0
  · simp only [h, decide_true, if_true, List.singleton_append]; rfl
  · simp only [h, decide_false, Bool.false_eq_true, if_false, List.nil_append]; rfl
theorem mkS_nu : ∀ (n : Nat) (g : Nat → Int), (∀ i, 0 ≤ g i) → (∀ i, g (i + 1) ≤ g i) → ∀ i, nu (mkS g n) i = if i < n then g i else 0
  | 0, g, _, _, i => by rw [if_neg (by omega)]; exact nu_ge (by simp [mkS, leanL])
  | n + 1, g, h0, h1, i => by
    rw [mkS_succ]
    have ih := mkS_nu n (fun i => g (i + 1)) (fun i => h0 _) (fun i => h1 _)
    by_cases h : 0 < g 0
    · rw [if_pos h, List.singleton_append]
      cases i with
      | zero => rw [nu_c0, if_pos (by omega)]
      | succ i =>
        rw [nu_cs, ih i]
        by_cases hi : i < n
        · rw [if_pos hi, if_pos (by omega)]
        · rw [if_neg hi, if_neg (by omega)]
    · rw [if_neg h, List.nil_append, ih i]
      have z : ∀ i, g i = 0 := fun i => by
        induction i with
        | zero => have := h0 0; omega
        | succ i ih => have := h0 (i + 1); have := h1 i; omega
      simp only [z, ite_self]
theorem mkS_pos {g : Nat → Int} {n : Nat} : ∀ x ∈ mkS g n, 0 < x := fun x hx => by
  have := (List.mem_filter.mp hx).2
  exact of_decide_eq_true this
theorem mkS_len (g : Nat → Int) (n : Nat) : (mkS g n).length ≤ n := by
  unfold mkS leanL
  exact Nat.le_trans (List.length_filter_le _ _) (by simp)
theorem mkS_sh {g : Nat → Int} (n : Nat) (h0 : ∀ i, 0 ≤ g i) (h1 : ∀ i, g (i + 1) ≤ g i) : Sh (mkS g n) := ⟨mkS_pos, fun i => by
  rw [mkS_nu n g h0 h1, mkS_nu n g h0 h1]
  have := h0 i
  have := h1 i
  by_cases hi : i + 1 < n
  · rw [if_pos hi, if_pos (by omega)]; omega
  · rw [if_neg hi]
    by_cases h2 : i < n
    · rw [if_pos h2]; omega
    · rw [if_neg h2]; omega⟩
theorem nu_ext : ∀ {a b : List Int}, (∀ x ∈ a, 0 < x) → (∀ x ∈ b, 0 < x) → (∀ i, nu a i = nu b i) → a = b
  | [], [], _, _, _ => rfl
  | [], y :: b, _, hb, h => by
    have := h 0
    have q := hb y List.mem_cons_self
    rw [nu_c0, nu_ge (by simp)] at this
    omega
  | x :: a, [], ha, _, h => by
    have := h 0
    have q := ha x List.mem_cons_self
    rw [nu_c0, nu_ge (by simp)] at this
    omega
  | x :: a, y :: b, ha, hb, h => by
    have h0 := h 0
    rw [nu_c0, nu_c0] at h0
    rw [h0, nu_ext (a := a) (b := b) (fun z hz => ha z (List.mem_cons_of_mem _ hz)) (fun z hz => hb z (List.mem_cons_of_mem _ hz)) fun i => by
      have := h (i + 1)
      rw [nu_cs, nu_cs] at this
      exact this]
theorem Sh.mkS_self {ns : List Int} (h : Sh ns) {n : Nat} (hn : ns.length ≤ n) : mkS (nu ns) n = ns := nu_ext mkS_pos h.pos fun i => by
  rw [mkS_nu n _ h.nn h.dec]
  by_cases hi : i < n
  · rw [if_pos hi]
  · rw [if_neg hi, nu_ge (by omega)]
theorem mkS_congr {g g' : Nat → Int} (n : Nat) (h : ∀ i, i < n → g i = g' i) : mkS g n = mkS g' n := by
  unfold mkS
  rw [List.map_congr_left fun i hi => h i (List.mem_range.mp hi)]
/-- beyond n all is 0 -/
theorem mkS_more {g : Nat → Int} {n m : Nat} (hm : n ≤ m) (h : ∀ i, n ≤ i → g i = 0) : mkS g m = mkS g n := by
  unfold mkS leanL
  obtain ⟨k, rfl⟩ := Nat.exists_eq_add_of_le hm
  rw [List.range_add, List.map_append, List.filter_append, List.map_map]
  have : ((List.range k).map (g ∘ fun x => n + x)).filter (fun x => decide (0 < x)) = [] := by
    rw [List.filter_eq_nil_iff]
    intro a ha
    obtain ⟨i, _, rfl⟩ := List.mem_map.mp ha
    simp [h (n + i) (by omega)]
  rw [this, List.append_nil]
theorem gos_iff : ∀ ns : List Int, (∀ i, i + 1 < ns.length → nu ns (i + 1) ≤ nu ns i) → gos ns = true
  | [], _ => rfl
  | [x], _ => rfl
  | x :: y :: l, h => by
    have ih := gos_iff (y :: l) fun i hi => by
      have := h (i + 1) (by simp at hi ⊢; omega)
      rw [nu_cs, nu_cs] at this
      exact this
    have h0 := h 0 (by simp)
    rw [nu_cs, nu_c0, nu_c0] at h0
    unfold gos at ih ⊢
    simp only [List.drop_succ_cons, List.drop_zero, List.zip_cons_cons, List.all_cons] at ih ⊢
    rw [Bool.and_eq_true]
    exact ⟨decide_eq_true h0, ih⟩
theorem mem_le_sum : ∀ {ns : List Int} {x : Int}, (∀ y ∈ ns, 0 ≤ y) → x ∈ ns → x ≤ ns.sum
  | y :: l, x, h, hx => by
    have h1 := sum_nn (ns := l) fun z hz => h z (List.mem_cons_of_mem _ hz)
    have h2 := h y List.mem_cons_self
    rw [List.sum_cons]
    rcases List.mem_cons.mp hx with rfl | hx
    · omega
    · have := mem_le_sum (ns := l) (fun z hz => h z (List.mem_cons_of_mem _ hz)) hx
      omega
def sg (g : Nat → Int) : Nat → Int
  | 0 => 0
  | n + 1 => sg g n + g n
theorem sum_map_range (g : Nat → Int) (n : Nat) : ((List.range n).map g).sum = sg g n := by
  induction n with
  | zero => rfl
  | succ n ih => rw [List.range_succ, List.map_append, List.sum_append, ih]; simp [sg]
theorem sum_lean {ns : List Int} (h : ∀ x ∈ ns, 0 ≤ x) : (leanL ns).sum = ns.sum := by
  induction ns with
  | nil => rfl
  | cons x l ih =>
    have ih := ih fun y hy => h y (List.mem_cons_of_mem _ hy)
    have hx := h x List.mem_cons_self
    unfold leanL at ih ⊢
    rw [List.filter_cons]
    by_cases q : 0 < x
    · simp only [q, decide_true, if_true, List.sum_cons, ih]
    · simp only [q, decide_false, Bool.false_eq_true, if_false, List.sum_cons, ih]
      omega
theorem sum_mk {g : Nat → Int} {n : Nat} (h : ∀ i, 0 ≤ g i) : (mkS g n).sum = sg g n := by
  unfold mkS
  rw [sum_lean (fun x hx => by obtain ⟨i, _, rfl⟩ := List.mem_map.mp hx; exact h i), sum_map_range]
theorem Sh.sum {ns : List Int} (h : Sh ns) {n : Nat} (hn : ns.length ≤ n) : ns.sum = sg (nu ns) n := by
  conv => lhs; rw [← h.mkS_self hn]
  exact sum_mk h.nn
theorem sg_le {g : Nat → Int} {B : Int} (h : ∀ i, g i ≤ B) (n : Nat) : sg g n ≤ n * B := by
  induction n with
  | zero => simp [sg]
  | succ n ih =>
    have := h n
    have e : ((n + 1 : Nat) : Int) * B = n * B + B := by push_cast; rw [Int.add_mul, Int.one_mul]
    rw [e]
    unfold sg
    omega
/-! strips, the local rule -/
def Strip (o i : List Int) : Prop := ∀ k, nu i k ≤ nu o k ∧ nu o (k + 1) ≤ nu i k
theorem mx (i j : Int) : i ≤ maxI i j ∧ j ≤ maxI i j ∧ (maxI i j = i ∨ maxI i j = j) := by unfold maxI; split <;> omega
theorem mn (i j : Int) : minI i j ≤ i ∧ minI i j ≤ j ∧ (minI i j = i ∨ minI i j = j) := by unfold minI; split <;> omega
theorem mxn (i j : Int) : maxI i j + minI i j = i + j := by unfold maxI minI; split <;> split <;> omega
def FF (c p q : List Int) (n : Int) : Nat → Int
  | 0 => maxI (nu p 0) (nu q 0) + n
  | k + 1 => maxI (nu p (k + 1)) (nu q (k + 1)) + minI (nu p k) (nu q k) - nu c k
def CC (p q f : List Int) (k : Nat) : Int := maxI (nu p (k + 1)) (nu q (k + 1)) + minI (nu p k) (nu q k) - nu f (k + 1)
section
variable {c p q f : List Int} {n : Int}
theorem FF_low (hp : Strip p c) (hq : Strip q c) (hn : 0 ≤ n) (k : Nat) : maxI (nu p k) (nu q k) ≤ FF c p q n k := by
  cases k with
  | zero => show _ ≤ maxI (nu p 0) (nu q 0) + n; omega
  | succ k =>
    show _ ≤ maxI (nu p (k + 1)) (nu q (k + 1)) + minI (nu p k) (nu q k) - nu c k
    have a := hp k; have b := hq k; have := mn (nu p k) (nu q k)
    omega
theorem FF_up (hp : Strip p c) (hq : Strip q c) (k : Nat) : FF c p q n (k + 1) ≤ minI (nu p k) (nu q k) := by
  show maxI (nu p (k + 1)) (nu q (k + 1)) + minI (nu p k) (nu q k) - nu c k ≤ _
  have a := hp k; have b := hq k; have := mx (nu p (k + 1)) (nu q (k + 1))
  omega
theorem FF_nn (sp : Sh p) (hp : Strip p c) (hq : Strip q c) (hn : 0 ≤ n) (k : Nat) : 0 ≤ FF c p q n k := by
  have := FF_low hp hq hn k; have := mx (nu p k) (nu q k); have := sp.nn k
  omega
theorem FF_dec (hp : Strip p c) (hq : Strip q c) (hn : 0 ≤ n) (k : Nat) : FF c p q n (k + 1) ≤ FF c p q n k := by
  have := FF_low hp hq hn k; have := FF_up (n := n) hp hq k; have := mx (nu p k) (nu q k); have := mn (nu p k) (nu q k)
  omega
theorem FF_zero (sc : Sh c) (hp : Strip p c) (hq : Strip q c) {m : Nat} (h1 : p.length ≤ m) (h2 : q.length ≤ m) {k : Nat} (hk : m < k) : FF c p q n k = 0 := by
  obtain ⟨k, rfl⟩ : ∃ j, k = j + 1 := ⟨k - 1, by omega⟩
  show maxI (nu p (k + 1)) (nu q (k + 1)) + minI (nu p k) (nu q k) - nu c k = 0
  have a := (hp k).1
  have b := sc.nn k
  rw [nu_ge (ns := p) (i := k) (by omega)] at a ⊢
  rw [nu_ge (ns := q) (i := k) (by omega), nu_ge (ns := p) (i := k + 1) (by omega), nu_ge (ns := q) (i := k + 1) (by omega)]
  have e1 : maxI 0 0 = 0 := rfl
  have e2 : minI 0 0 = 0 := rfl
  rw [e1, e2]
  omega
/-- the fourth shape, of at most m + 1 rows -/
def four (c p q : List Int) (n : Int) : List Int := mkS (FF c p q n) 9
theorem four_nu (sc : Sh c) (sp : Sh p) (hp : Strip p c) (hq : Strip q c) (hn : 0 ≤ n) (h1 : p.length ≤ 8) (h2 : q.length ≤ 8) (k : Nat) : nu (four c p q n) k = FF c p q n k := by
  unfold four
  rw [mkS_nu 9 _ (FF_nn sp hp hq hn) (FF_dec hp hq hn)]
  by_cases h : k < 9
  · rw [if_pos h]
  · rw [if_neg h, FF_zero sc hp hq h1 h2 (by omega)]
theorem four_sh (sp : Sh p) (hp : Strip p c) (hq : Strip q c) (hn : 0 ≤ n) : Sh (four c p q n) := mkS_sh 9 (FF_nn sp hp hq hn) (FF_dec hp hq hn)
theorem four_strip1 (sc : Sh c) (sp : Sh p) (hp : Strip p c) (hq : Strip q c) (hn : 0 ≤ n) (h1 : p.length ≤ 8) (h2 : q.length ≤ 8) : Strip (four c p q n) p := fun k => by
  rw [four_nu sc sp hp hq hn h1 h2, four_nu sc sp hp hq hn h1 h2]
  have := FF_low hp hq hn k; have := FF_up (n := n) hp hq k; have := mx (nu p k) (nu q k); have := mn (nu p k) (nu q k)
  omega
theorem four_strip2 (sc : Sh c) (sp : Sh p) (hp : Strip p c) (hq : Strip q c) (hn : 0 ≤ n) (h1 : p.length ≤ 8) (h2 : q.length ≤ 8) : Strip (four c p q n) q := fun k => by
  rw [four_nu sc sp hp hq hn h1 h2, four_nu sc sp hp hq hn h1 h2]
  have := FF_low hp hq hn k; have := FF_up (n := n) hp hq k; have := mx (nu p k) (nu q k); have := mn (nu p k) (nu q k)
  omega
theorem four_comm (c p q : List Int) (n : Int) : four c p q n = four c q p n := by
  have e : ∀ i j, maxI i j = maxI j i := fun i j => by unfold maxI; split <;> split <;> omega
  have e2 : ∀ i j, minI i j = minI j i := fun i j => by unfold minI; split <;> split <;> omega
  unfold four
  refine mkS_congr 9 fun i _ => ?_
  cases i with
  | zero => show maxI _ _ + n = maxI _ _ + n; rw [e]
  | succ k => show maxI _ _ + minI _ _ - _ = maxI _ _ + minI _ _ - _; rw [e, e2]
theorem CC_low (hp : Strip f p) (hq : Strip f q) (k : Nat) : maxI (nu p (k + 1)) (nu q (k + 1)) ≤ CC p q f k := by
  unfold CC
  have a := hp k; have b := hq k; have := mn (nu p k) (nu q k)
  omega
theorem CC_up (hp : Strip f p) (hq : Strip f q) (k : Nat) : CC p q f k ≤ minI (nu p k) (nu q k) := by
  unfold CC
  have a := hp (k + 1); have b := hq (k + 1); have := mx (nu p (k + 1)) (nu q (k + 1))
  omega
theorem CC_nn (sp : Sh p) (hp : Strip f p) (hq : Strip f q) (k : Nat) : 0 ≤ CC p q f k := by
  have := CC_low hp hq k; have := mx (nu p (k + 1)) (nu q (k + 1)); have := sp.nn (k + 1)
  omega
theorem CC_dec (hp : Strip f p) (hq : Strip f q) (k : Nat) : CC p q f (k + 1) ≤ CC p q f k := by
  have := CC_low hp hq k; have := CC_up hp hq (k + 1); have := mx (nu p (k + 1)) (nu q (k + 1)); have := mn (nu p (k + 1)) (nu q (k + 1))
  omega
theorem CC_zero (sf : Sh f) (hp : Strip f p) (hq : Strip f q) {m : Nat} (h1 : p.length ≤ m) (h2 : q.length ≤ m) {k : Nat} (hk : m ≤ k) : CC p q f k = 0 := by
  have a := (hp k).2
  have b := sf.nn (k + 1)
  rw [nu_ge (ns := p) (i := k) (by omega)] at a
  unfold CC
  rw [nu_ge (ns := p) (i := k) (by omega), nu_ge (ns := q) (i := k) (by omega), nu_ge (ns := p) (i := k + 1) (by omega), nu_ge (ns := q) (i := k + 1) (by omega)]
  have e1 : maxI 0 0 = 0 := rfl
  have e2 : minI 0 0 = 0 := rfl
  rw [e1, e2]
  omega
def corn (p q f : List Int) : List Int := mkS (CC p q f) 8
theorem corn_nu (sf : Sh f) (sp : Sh p) (hp : Strip f p) (hq : Strip f q) (h1 : p.length ≤ 8) (h2 : q.length ≤ 8) (k : Nat) : nu (corn p q f) k = CC p q f k := by
  unfold corn
  rw [mkS_nu 8 _ (CC_nn sp hp hq) (CC_dec hp hq)]
  by_cases h : k < 8
  · rw [if_pos h]
  · rw [if_neg h, CC_zero sf hp hq h1 h2 (by omega)]
theorem corn_sh (sp : Sh p) (hp : Strip f p) (hq : Strip f q) : Sh (corn p q f) := mkS_sh 8 (CC_nn sp hp hq) (CC_dec hp hq)
theorem corn_strip1 (sf : Sh f) (sp : Sh p) (hp : Strip f p) (hq : Strip f q) (h1 : p.length ≤ 8) (h2 : q.length ≤ 8) : Strip p (corn p q f) := fun k => by
  rw [corn_nu sf sp hp hq h1 h2]
  have := CC_low hp hq k; have := CC_up hp hq k; have := mx (nu p (k + 1)) (nu q (k + 1)); have := mn (nu p k) (nu q k)
  omega
theorem corn_strip2 (sf : Sh f) (sp : Sh p) (hp : Strip f p) (hq : Strip f q) (h1 : p.length ≤ 8) (h2 : q.length ≤ 8) : Strip q (corn p q f) := fun k => by
  rw [corn_nu sf sp hp hq h1 h2]
  have := CC_low hp hq k; have := CC_up hp hq k; have := mx (nu p (k + 1)) (nu q (k + 1)); have := mn (nu p k) (nu q k)
  omega
def cnt (p q f : List Int) : Int := nu f 0 - maxI (nu p 0) (nu q 0)
theorem cnt_nn (hp : Strip f p) (hq : Strip f q) : 0 ≤ cnt p q f := by
  unfold cnt
  have a := hp 0; have b := hq 0; have := mx (nu p 0) (nu q 0)
  omega
/-- there and back -/
theorem corn_four (sc : Sh c) (sp : Sh p) (hp : Strip p c) (hq : Strip q c) (hn : 0 ≤ n) (h1 : p.length ≤ 8) (h2 : q.length ≤ 8) : corn p q (four c p q n) = c ∧ cnt p q (four c p q n) = n := by
  have N := four_nu sc sp hp hq hn h1 h2
  have S1 := four_strip1 sc sp hp hq hn h1 h2
  have S2 := four_strip2 sc sp hp hq hn h1 h2
  have SF := four_sh sp hp hq hn
  constructor
  · refine nu_ext mkS_pos sc.pos fun i => ?_
    rw [corn_nu SF sp S1 S2 h1 h2]
    unfold CC
    rw [N]
    show _ - (maxI (nu p (i + 1)) (nu q (i + 1)) + minI (nu p i) (nu q i) - nu c i) = _
    omega
  · unfold cnt
    rw [N]
    show maxI (nu p 0) (nu q 0) + n - _ = n
    omega
theorem four_corn (sf : Sh f) (sp : Sh p) (hp : Strip f p) (hq : Strip f q) (h1 : p.length ≤ 8) (h2 : q.length ≤ 8) : four (corn p q f) p q (cnt p q f) = f := by
  have N := corn_nu sf sp hp hq h1 h2
  refine nu_ext mkS_pos sf.pos fun i => ?_
  rw [four_nu (corn_sh sp hp hq) sp (corn_strip1 sf sp hp hq h1 h2) (corn_strip2 sf sp hp hq h1 h2) (cnt_nn hp hq) h1 h2]
  cases i with
  | zero =>
    show maxI (nu p 0) (nu q 0) + cnt p q f = _
    unfold cnt
    omega
  | succ k =>
    show maxI (nu p (k + 1)) (nu q (k + 1)) + minI (nu p k) (nu q k) - nu (corn p q f) k = _
    rw [N]
    unfold CC
    omega
theorem sg_FF (c p q : List Int) (n : Int) (m : Nat) : sg (FF c p q n) (m + 1) + sg (nu c) m = sg (nu p) m + sg (nu q) m + n + maxI (nu p m) (nu q m) := by
  induction m with
  | zero => show 0 + (maxI _ _ + n) + 0 = 0 + 0 + n + _; omega
  | succ m ih =>
    have e : sg (FF c p q n) (m + 1 + 1) = sg (FF c p q n) (m + 1) + (maxI (nu p (m + 1)) (nu q (m + 1)) + minI (nu p m) (nu q m) - nu c m) := rfl
    rw [e]
    have := mxn (nu p m) (nu q m)
    show _ + (sg (nu c) m + nu c m) = sg (nu p) m + nu p m + (sg (nu q) m + nu q m) + n + _
    omega
theorem four_sum (sc : Sh c) (sp : Sh p) (sq : Sh q) (hp : Strip p c) (hq : Strip q c) (hn : 0 ≤ n) (h0 : c.length ≤ 8) (h1 : p.length ≤ 8) (h2 : q.length ≤ 8) : (four c p q n).sum + c.sum = p.sum + q.sum + n := by
  unfold four
  rw [sum_mk (FF_nn sp hp hq hn), sc.sum h0, sp.sum h1, sq.sum h2, sg_FF]
  rw [nu_ge (ns := p) (i := 8) h1, nu_ge (ns := q) (i := 8) h2]
  have e1 : maxI 0 0 = 0 := rfl
  omega
theorem four_len (sc : Sh c) (sp : Sh p) (hp : Strip p c) (hq : Strip q c) (hn : 0 ≤ n) {m : Nat} (h1 : p.length ≤ m) (h2 : q.length ≤ m) (hm : m ≤ 8) : (four c p q n).length ≤ m + 1 := by
  unfold four
  rw [mkS_more (n := m + 1) (by omega) fun i hi => FF_zero sc hp hq h1 h2 (by omega)]
  exact mkS_len _ _
end
end L22

namespace L22
open PySem L2 Pd
/-! ### common: numbers within, falls -/
theorem within_i (v lo hi : Int) (S : Store) : d_is_within [.d (.int v), .d (.int lo), .d (.int hi)] S = .ok (.d (.bl (decide (lo ≤ v) && decide (v ≤ hi)))) S := by
  have e : d_is_integer [.d (.int v)] S = .ok (.d (.bl true)) S := by
    unfold d_is_integer
    simp only [funD, finF, fin, sNil, sSeq, sEx, sRet, sRetN, sAsg, sNew, sIf, sAsgT, sPar, sFrz, sRetC, sNever, sBrk, sCont, sFor, eVar, eC, eBin, eUn, eTest, eAnd, eOr, eNot, eIf, eChain, eNil, eCons, eCall, eSl, eoN, eoS, eApp, eExt, ePop, sSet, itV, itR1, itR2, itEn, itZ, eLc, asB, clo, fTup, fLst, fAddL, fMulL, fI, fAdd, fSub, fMul, fDiv, fMod, fPow, fNeg, fLt, fLe, fGt, fGe, fEq, fNe, fIx, fIsN, fNotN, Pd.isNon, fLen, fAbs, fInt, fTuple, fList, fSum, fAll, fAny, fMax2, fMin2, isiD, fIsi, fSl, fRev, fSorted, fRepr, rd, R.bind, R.fl, F.lp, noX, tYesD, lcY, tgN, tgsNil, tgsCons, tgT, wipeE, keepB, List.map_cons, List.map_nil, List.replicate_succ, List.replicate_zero, List.cons_append, List.nil_append, List.append_nil, List.length_cons, List.length_nil, List.length_append, List.getElem?_cons_zero, List.getElem?_cons_succ, List.getElem?_nil, List.set_cons_zero, List.set_cons_succ, List.take_zero, List.take_succ_cons, List.take_nil, Option.map_some, Option.map_none, Option.bind_some, Option.bind_none, Nat.zero_add, Nat.add_zero, Nat.reduceAdd, Nat.reduceLeDiff, Nat.reduceSub, Nat.reduceEqDiff, Int.reduceLT, Int.reduceLE, Int.reduceEq, Int.reduceNeg, Int.reduceAdd, Int.reduceSub, Int.reduceMul, decide_true, decide_false, ↓reduceIte, decide_eq_true_eq, Bool.not_eq_true', decide_eq_false_iff_not, Bool.false_eq_true, Bool.true_eq_false, Bool.not_true, Bool.not_false, true_and, and_true, and_self, false_and, and_false, Ty.name, List.take_length]
    try simp
  unfold d_is_within
  by_cases h : lo ≤ v <;> simp only [funD, finF, fin, sNil, sSeq, sEx, sRet, sRetN, sAsg, sNew, sIf, sAsgT, sPar, sFrz, sRetC, sNever, sBrk, sCont, sFor, eVar, eC, eBin, eUn, eTest, eAnd, eOr, eNot, eIf, eChain, eNil, eCons, eCall, eSl, eoN, eoS, eApp, eExt, ePop, sSet, itV, itR1, itR2, itEn, itZ, eLc, asB, clo, fTup, fLst, fAddL, fMulL, fI, fAdd, fSub, fMul, fDiv, fMod, fPow, fNeg, fLt, fLe, fGt, fGe, fEq, fNe, fIx, fIsN, fNotN, Pd.isNon, fLen, fAbs, fInt, fTuple, fList, fSum, fAll, fAny, fMax2, fMin2, isiD, fIsi, fSl, fRev, fSorted, fRepr, rd, R.bind, R.fl, F.lp, noX, tYesD, lcY, tgN, tgsNil, tgsCons, tgT, wipeE, keepB, List.map_cons, List.map_nil, List.replicate_succ, List.replicate_zero, List.cons_append, List.nil_append, List.append_nil, List.length_cons, List.length_nil, List.length_append, List.getElem?_cons_zero, List.getElem?_cons_succ, List.getElem?_nil, List.set_cons_zero, List.set_cons_succ, List.take_zero, List.take_succ_cons, List.take_nil, Option.map_some, Option.map_none, Option.bind_some, Option.bind_none, Nat.zero_add, Nat.add_zero, Nat.reduceAdd, Nat.reduceLeDiff, Nat.reduceSub, Nat.reduceEqDiff, Int.reduceLT, Int.reduceLE, Int.reduceEq, Int.reduceNeg, Int.reduceAdd, Int.reduceSub, Int.reduceMul, decide_true, decide_false, ↓reduceIte, decide_eq_true_eq, Bool.not_eq_true', decide_eq_false_iff_not, Bool.false_eq_true, Bool.true_eq_false, Bool.not_true, Bool.not_false, true_and, and_true, and_self, false_and, and_false, List.take_length, e, h] <;> simp
theorem req_within (v lo hi : Int) (S : Store) (h1 : lo ≤ v) (h2 : v ≤ hi) : d_require_within [.d (.int v), .d (.int lo), .d (.int hi)] S = .ok (.d .non) S := by
  unfold d_require_within
  simp only [funD, finF, fin, sNil, sSeq, sEx, sRet, sRetN, sAsg, sNew, sIf, sAsgT, sPar, sFrz, sRetC, sNever, sBrk, sCont, sFor, eVar, eC, eBin, eUn, eTest, eAnd, eOr, eNot, eIf, eChain, eNil, eCons, eCall, eSl, eoN, eoS, eApp, eExt, ePop, sSet, itV, itR1, itR2, itEn, itZ, eLc, asB, clo, fTup, fLst, fAddL, fMulL, fI, fAdd, fSub, fMul, fDiv, fMod, fPow, fNeg, fLt, fLe, fGt, fGe, fEq, fNe, fIx, fIsN, fNotN, Pd.isNon, fLen, fAbs, fInt, fTuple, fList, fSum, fAll, fAny, fMax2, fMin2, isiD, fIsi, fSl, fRev, fSorted, fRepr, rd, R.bind, R.fl, F.lp, noX, tYesD, lcY, tgN, tgsNil, tgsCons, tgT, wipeE, keepB, List.map_cons, List.map_nil, List.replicate_succ, List.replicate_zero, List.cons_append, List.nil_append, List.append_nil, List.length_cons, List.length_nil, List.length_append, List.getElem?_cons_zero, List.getElem?_cons_succ, List.getElem?_nil, List.set_cons_zero, List.set_cons_succ, List.take_zero, List.take_succ_cons, List.take_nil, Option.map_some, Option.map_none, Option.bind_some, Option.bind_none, Nat.zero_add, Nat.add_zero, Nat.reduceAdd, Nat.reduceLeDiff, Nat.reduceSub, Nat.reduceEqDiff, Int.reduceLT, Int.reduceLE, Int.reduceEq, Int.reduceNeg, Int.reduceAdd, Int.reduceSub, Int.reduceMul, decide_true, decide_false, ↓reduceIte, decide_eq_true_eq, Bool.not_eq_true', decide_eq_false_iff_not, Bool.false_eq_true, Bool.true_eq_false, Bool.not_true, Bool.not_false, true_and, and_true, and_self, false_and, and_false, List.take_length, within_i, h1, h2, Bool.and_self]
theorem falls_ex (ns : List Int) (S : Store) (h : ns.length ≤ 1000) : d_falls_never_up [tI ns] S = .ok (.d (.bl (gos ns))) S := by
  refine funD_rt (ret_i (u1 (lc_i (S1 := S) (ds := (ns.zip (ns.drop 1)).map fun p => .tup [.int p.1, .int p.2]) (es := (ns.zip (ns.drop 1)).map fun p => .bl (decide (p.2 ≤ p.1))) ?_ ?_ (lcD_map _ _ _ ?_)) ?_)) rfl
  · simp only [funD, finF, fin, sNil, sSeq, sEx, sRet, sRetN, sAsg, sNew, sIf, sAsgT, sPar, sFrz, sRetC, sNever, sBrk, sCont, sFor, eVar, eC, eBin, eUn, eTest, eAnd, eOr, eNot, eIf, eChain, eNil, eCons, eCall, eSl, eoN, eoS, eApp, eExt, ePop, sSet, itV, itR1, itR2, itEn, itZ, eLc, asB, clo, fTup, fLst, fAddL, fMulL, fI, fAdd, fSub, fMul, fDiv, fMod, fPow, fNeg, fLt, fLe, fGt, fGe, fEq, fNe, fIx, fIsN, fNotN, Pd.isNon, fLen, fAbs, fInt, fTuple, fList, fSum, fAll, fAny, fMax2, fMin2, isiD, fIsi, fSl, fRev, fSorted, fRepr, rd, R.bind, R.fl, F.lp, noX, tYesD, lcY, tgN, tgsNil, tgsCons, tgT, wipeE, keepB, List.map_cons, List.map_nil, List.replicate_succ, List.replicate_zero, List.cons_append, List.nil_append, List.append_nil, List.length_cons, List.length_nil, List.length_append, List.getElem?_cons_zero, List.getElem?_cons_succ, List.getElem?_nil, List.set_cons_zero, List.set_cons_succ, List.take_zero, List.take_succ_cons, List.take_nil, Option.map_some, Option.map_none, Option.bind_some, Option.bind_none, Nat.zero_add, Nat.add_zero, Nat.reduceAdd, Nat.reduceLeDiff, Nat.reduceSub, Nat.reduceEqDiff, Int.reduceLT, Int.reduceLE, Int.reduceEq, Int.reduceNeg, Int.reduceAdd, Int.reduceSub, Int.reduceMul, decide_true, decide_false, ↓reduceIte, decide_eq_true_eq, Bool.not_eq_true', decide_eq_false_iff_not, Bool.false_eq_true, Bool.true_eq_false, Bool.not_true, Bool.not_false, true_and, and_true, and_self, false_and, and_false, cut1]
    rw [← List.map_drop, zip_pairs]
  · rw [List.length_map, List.length_zip]
    have e : cap = 1000000 := rfl
    omega
  · intro p hp
    refine ⟨[some (tI ns), some (.d (.int p.1)), some (.d (.int p.2))], rfl, rfl, ?_⟩
    simp only [funD, finF, fin, sNil, sSeq, sEx, sRet, sRetN, sAsg, sNew, sIf, sAsgT, sPar, sFrz, sRetC, sNever, sBrk, sCont, sFor, eVar, eC, eBin, eUn, eTest, eAnd, eOr, eNot, eIf, eChain, eNil, eCons, eCall, eSl, eoN, eoS, eApp, eExt, ePop, sSet, itV, itR1, itR2, itEn, itZ, eLc, asB, clo, fTup, fLst, fAddL, fMulL, fI, fAdd, fSub, fMul, fDiv, fMod, fPow, fNeg, fLt, fLe, fGt, fGe, fEq, fNe, fIx, fIsN, fNotN, Pd.isNon, fLen, fAbs, fInt, fTuple, fList, fSum, fAll, fAny, fMax2, fMin2, isiD, fIsi, fSl, fRev, fSorted, fRepr, rd, R.bind, R.fl, F.lp, noX, tYesD, lcY, tgN, tgsNil, tgsCons, tgT, wipeE, keepB, List.map_cons, List.map_nil, List.replicate_succ, List.replicate_zero, List.cons_append, List.nil_append, List.append_nil, List.length_cons, List.length_nil, List.length_append, List.getElem?_cons_zero, List.getElem?_cons_succ, List.getElem?_nil, List.set_cons_zero, List.set_cons_succ, List.take_zero, List.take_succ_cons, List.take_nil, Option.map_some, Option.map_none, Option.bind_some, Option.bind_none, Nat.zero_add, Nat.add_zero, Nat.reduceAdd, Nat.reduceLeDiff, Nat.reduceSub, Nat.reduceEqDiff, Int.reduceLT, Int.reduceLE, Int.reduceEq, Int.reduceNeg, Int.reduceAdd, Int.reduceSub, Int.reduceMul, decide_true, decide_false, ↓reduceIte, decide_eq_true_eq, Bool.not_eq_true', decide_eq_false_iff_not, Bool.false_eq_true, Bool.true_eq_false, Bool.not_true, Bool.not_false, true_and, and_true, and_self, false_and, and_false]
  · simp only [fAll, rd, asBls_map, gos, List.all_map]
    rfl
/-! ### shapes: what the functions answer -/
theorem get_int (ns : List Int) (i : Nat) (h : i < ns.length) : atI (ns.map D.int) (i : Int) = some (.int (nu ns i)) := by
  rw [atI_get, List.getElem?_map, List.getElem?_eq_getElem h, nu_lt h]; rfl
theorem number_ex (ns : List Int) (i : Nat) (S : Store) : d_number_of [tI ns, .d (.int i)] S = .ok (.d (.int (nu ns i))) S := by
  unfold d_number_of
  by_cases h : i < ns.length
  · have h' : (i : Int) < (ns.length : Int) := by omega
    simp only [funD, finF, fin, sNil, sSeq, sEx, sRet, sRetN, sAsg, sNew, sIf, sAsgT, sPar, sFrz, sRetC, sNever, sBrk, sCont, sFor, eVar, eC, eBin, eUn, eTest, eAnd, eOr, eNot, eIf, eChain, eNil, eCons, eCall, eSl, eoN, eoS, eApp, eExt, ePop, sSet, itV, itR1, itR2, itEn, itZ, eLc, asB, clo, fTup, fLst, fAddL, fMulL, fI, fAdd, fSub, fMul, fDiv, fMod, fPow, fNeg, fLt, fLe, fGt, fGe, fEq, fNe, fIx, fIsN, fNotN, Pd.isNon, fLen, fAbs, fInt, fTuple, fList, fSum, fAll, fAny, fMax2, fMin2, isiD, fIsi, fSl, fRev, fSorted, fRepr, rd, R.bind, R.fl, F.lp, noX, tYesD, lcY, tgN, tgsNil, tgsCons, tgT, wipeE, keepB, List.map_cons, List.map_nil, List.replicate_succ, List.replicate_zero, List.cons_append, List.nil_append, List.append_nil, List.length_cons, List.length_nil, List.length_append, List.getElem?_cons_zero, List.getElem?_cons_succ, List.getElem?_nil, List.set_cons_zero, List.set_cons_succ, List.take_zero, List.take_succ_cons, List.take_nil, Option.map_some, Option.map_none, Option.bind_some, Option.bind_none, Nat.zero_add, Nat.add_zero, Nat.reduceAdd, Nat.reduceLeDiff, Nat.reduceSub, Nat.reduceEqDiff, Int.reduceLT, Int.reduceLE, Int.reduceEq, Int.reduceNeg, Int.reduceAdd, Int.reduceSub, Int.reduceMul, decide_true, decide_false, ↓reduceIte, decide_eq_true_eq, Bool.not_eq_true', decide_eq_false_iff_not, Bool.false_eq_true, Bool.true_eq_false, Bool.not_true, Bool.not_false, true_and, and_true, and_self, false_and, and_false, List.length_map, List.take_length, h', get_int ns i h]
  · have h' : ¬ (i : Int) < (ns.length : Int) := by omega
    simp only [funD, finF, fin, sNil, sSeq, sEx, sRet, sRetN, sAsg, sNew, sIf, sAsgT, sPar, sFrz, sRetC, sNever, sBrk, sCont, sFor, eVar, eC, eBin, eUn, eTest, eAnd, eOr, eNot, eIf, eChain, eNil, eCons, eCall, eSl, eoN, eoS, eApp, eExt, ePop, sSet, itV, itR1, itR2, itEn, itZ, eLc, asB, clo, fTup, fLst, fAddL, fMulL, fI, fAdd, fSub, fMul, fDiv, fMod, fPow, fNeg, fLt, fLe, fGt, fGe, fEq, fNe, fIx, fIsN, fNotN, Pd.isNon, fLen, fAbs, fInt, fTuple, fList, fSum, fAll, fAny, fMax2, fMin2, isiD, fIsi, fSl, fRev, fSorted, fRepr, rd, R.bind, R.fl, F.lp, noX, tYesD, lcY, tgN, tgsNil, tgsCons, tgT, wipeE, keepB, List.map_cons, List.map_nil, List.replicate_succ, List.replicate_zero, List.cons_append, List.nil_append, List.append_nil, List.length_cons, List.length_nil, List.length_append, List.getElem?_cons_zero, List.getElem?_cons_succ, List.getElem?_nil, List.set_cons_zero, List.set_cons_succ, List.take_zero, List.take_succ_cons, List.take_nil, Option.map_some, Option.map_none, Option.bind_some, Option.bind_none, Nat.zero_add, Nat.add_zero, Nat.reduceAdd, Nat.reduceLeDiff, Nat.reduceSub, Nat.reduceEqDiff, Int.reduceLT, Int.reduceLE, Int.reduceEq, Int.reduceNeg, Int.reduceAdd, Int.reduceSub, Int.reduceMul, decide_true, decide_false, ↓reduceIte, decide_eq_true_eq, Bool.not_eq_true', decide_eq_false_iff_not, Bool.false_eq_true, Bool.true_eq_false, Bool.not_true, Bool.not_false, true_and, and_true, and_self, false_and, and_false, List.length_map, List.take_length, h', nu_ge (Nat.le_of_not_lt h)]
theorem lnumber_ex (ns : List Int) (i : Nat) (S : Store) : d__law_number [tI ns, .d (.int i)] S = .ok (.d (.int (nu ns i))) S := by
  unfold d__law_number
  by_cases h : i < ns.length
  · have h' : (i : Int) < (ns.length : Int) := by omega
    simp only [funD, finF, fin, sNil, sSeq, sEx, sRet, sRetN, sAsg, sNew, sIf, sAsgT, sPar, sFrz, sRetC, sNever, sBrk, sCont, sFor, eVar, eC, eBin, eUn, eTest, eAnd, eOr, eNot, eIf, eChain, eNil, eCons, eCall, eSl, eoN, eoS, eApp, eExt, ePop, sSet, itV, itR1, itR2, itEn, itZ, eLc, asB, clo, fTup, fLst, fAddL, fMulL, fI, fAdd, fSub, fMul, fDiv, fMod, fPow, fNeg, fLt, fLe, fGt, fGe, fEq, fNe, fIx, fIsN, fNotN, Pd.isNon, fLen, fAbs, fInt, fTuple, fList, fSum, fAll, fAny, fMax2, fMin2, isiD, fIsi, fSl, fRev, fSorted, fRepr, rd, R.bind, R.fl, F.lp, noX, tYesD, lcY, tgN, tgsNil, tgsCons, tgT, wipeE, keepB, List.map_cons, List.map_nil, List.replicate_succ, List.replicate_zero, List.cons_append, List.nil_append, List.append_nil, List.length_cons, List.length_nil, List.length_append, List.getElem?_cons_zero, List.getElem?_cons_succ, List.getElem?_nil, List.set_cons_zero, List.set_cons_succ, List.take_zero, List.take_succ_cons, List.take_nil, Option.map_some, Option.map_none, Option.bind_some, Option.bind_none, Nat.zero_add, Nat.add_zero, Nat.reduceAdd, Nat.reduceLeDiff, Nat.reduceSub, Nat.reduceEqDiff, Int.reduceLT, Int.reduceLE, Int.reduceEq, Int.reduceNeg, Int.reduceAdd, Int.reduceSub, Int.reduceMul, decide_true, decide_false, ↓reduceIte, decide_eq_true_eq, Bool.not_eq_true', decide_eq_false_iff_not, Bool.false_eq_true, Bool.true_eq_false, Bool.not_true, Bool.not_false, true_and, and_true, and_self, false_and, and_false, List.length_map, List.take_length, h', get_int ns i h]
  · have h' : ¬ (i : Int) < (ns.length : Int) := by omega
    simp only [funD, finF, fin, sNil, sSeq, sEx, sRet, sRetN, sAsg, sNew, sIf, sAsgT, sPar, sFrz, sRetC, sNever, sBrk, sCont, sFor, eVar, eC, eBin, eUn, eTest, eAnd, eOr, eNot, eIf, eChain, eNil, eCons, eCall, eSl, eoN, eoS, eApp, eExt, ePop, sSet, itV, itR1, itR2, itEn, itZ, eLc, asB, clo, fTup, fLst, fAddL, fMulL, fI, fAdd, fSub, fMul, fDiv, fMod, fPow, fNeg, fLt, fLe, fGt, fGe, fEq, fNe, fIx, fIsN, fNotN, Pd.isNon, fLen, fAbs, fInt, fTuple, fList, fSum, fAll, fAny, fMax2, fMin2, isiD, fIsi, fSl, fRev, fSorted, fRepr, rd, R.bind, R.fl, F.lp, noX, tYesD, lcY, tgN, tgsNil, tgsCons, tgT, wipeE, keepB, List.map_cons, List.map_nil, List.replicate_succ, List.replicate_zero, List.cons_append, List.nil_append, List.append_nil, List.length_cons, List.length_nil, List.length_append, List.getElem?_cons_zero, List.getElem?_cons_succ, List.getElem?_nil, List.set_cons_zero, List.set_cons_succ, List.take_zero, List.take_succ_cons, List.take_nil, Option.map_some, Option.map_none, Option.bind_some, Option.bind_none, Nat.zero_add, Nat.add_zero, Nat.reduceAdd, Nat.reduceLeDiff, Nat.reduceSub, Nat.reduceEqDiff, Int.reduceLT, Int.reduceLE, Int.reduceEq, Int.reduceNeg, Int.reduceAdd, Int.reduceSub, Int.reduceMul, decide_true, decide_false, ↓reduceIte, decide_eq_true_eq, Bool.not_eq_true', decide_eq_false_iff_not, Bool.false_eq_true, Bool.true_eq_false, Bool.not_true, Bool.not_false, true_and, and_true, and_self, false_and, and_false, List.length_map, List.take_length, h', nu_ge (Nat.le_of_not_lt h)]
theorem lean_lc (it : Pd.Env → Store → R (List D)) (v : Nat) (ns : List Int) (Γ : Pd.Env) (S S1 : Store) (hit : it Γ S = .ok (ns.map .int) S1) (hl : ns.length ≤ 1000) (hv : v < Γ.length) :
    eUn fTuple (eLc it [v] (tgN v) (eTest (eBin fGt (eVar v) (eC (.int 0)))) (eVar v)) Γ S = .ok (tI (leanL ns)) S1 := by
  refine u1 (lc_i (es := (leanL ns).map .int) hit (by rw [List.length_map]; have ec : cap = 1000000 := rfl; omega) (lcD_filter ns .int .int (fun x => decide (0 < x)) fun x _ => ⟨(wipeE Γ [v]).set v (some (.d (.int x))), ?_, ?_, fun _ => ?_⟩)) rfl
  · simp [tgN, wipeE, hv]
  · have g : ((wipeE Γ [v]).set v (some (.d (.int x))))[v]? = some (some (.d (.int x))) := by simp [wipeE, hv]
    generalize (wipeE Γ [v]).set v (some (.d (.int x))) = Γ1 at g
    simp only [funD, finF, fin, sNil, sSeq, sEx, sRet, sRetN, sAsg, sNew, sIf, sAsgT, sPar, sFrz, sRetC, sNever, sBrk, sCont, sFor, eVar, eC, eBin, eUn, eTest, eAnd, eOr, eNot, eIf, eChain, eNil, eCons, eCall, eSl, eoN, eoS, eApp, eExt, ePop, sSet, itV, itR1, itR2, itEn, itZ, eLc, asB, clo, fTup, fLst, fAddL, fMulL, fI, fAdd, fSub, fMul, fDiv, fMod, fPow, fNeg, fLt, fLe, fGt, fGe, fEq, fNe, fIx, fIsN, fNotN, Pd.isNon, fLen, fAbs, fInt, fTuple, fList, fSum, fAll, fAny, fMax2, fMin2, isiD, fIsi, fSl, fRev, fSorted, fRepr, rd, R.bind, R.fl, F.lp, noX, tYesD, lcY, tgN, tgsNil, tgsCons, tgT, wipeE, keepB, List.map_cons, List.map_nil, List.replicate_succ, List.replicate_zero, List.cons_append, List.nil_append, List.append_nil, List.length_cons, List.length_nil, List.length_append, List.getElem?_cons_zero, List.getElem?_cons_succ, List.getElem?_nil, List.set_cons_zero, List.set_cons_succ, List.take_zero, List.take_succ_cons, List.take_nil, Option.map_some, Option.map_none, Option.bind_some, Option.bind_none, Nat.zero_add, Nat.add_zero, Nat.reduceAdd, Nat.reduceLeDiff, Nat.reduceSub, Nat.reduceEqDiff, Int.reduceLT, Int.reduceLE, Int.reduceEq, Int.reduceNeg, Int.reduceAdd, Int.reduceSub, Int.reduceMul, decide_true, decide_false, ↓reduceIte, decide_eq_true_eq, Bool.not_eq_true', decide_eq_false_iff_not, Bool.false_eq_true, Bool.true_eq_false, Bool.not_true, Bool.not_false, true_and, and_true, and_self, false_and, and_false, g]
  · have g : ((wipeE Γ [v]).set v (some (.d (.int x))))[v]? = some (some (.d (.int x))) := by simp [wipeE, hv]
    generalize (wipeE Γ [v]).set v (some (.d (.int x))) = Γ1 at g
    simp only [funD, finF, fin, sNil, sSeq, sEx, sRet, sRetN, sAsg, sNew, sIf, sAsgT, sPar, sFrz, sRetC, sNever, sBrk, sCont, sFor, eVar, eC, eBin, eUn, eTest, eAnd, eOr, eNot, eIf, eChain, eNil, eCons, eCall, eSl, eoN, eoS, eApp, eExt, ePop, sSet, itV, itR1, itR2, itEn, itZ, eLc, asB, clo, fTup, fLst, fAddL, fMulL, fI, fAdd, fSub, fMul, fDiv, fMod, fPow, fNeg, fLt, fLe, fGt, fGe, fEq, fNe, fIx, fIsN, fNotN, Pd.isNon, fLen, fAbs, fInt, fTuple, fList, fSum, fAll, fAny, fMax2, fMin2, isiD, fIsi, fSl, fRev, fSorted, fRepr, rd, R.bind, R.fl, F.lp, noX, tYesD, lcY, tgN, tgsNil, tgsCons, tgT, wipeE, keepB, List.map_cons, List.map_nil, List.replicate_succ, List.replicate_zero, List.cons_append, List.nil_append, List.append_nil, List.length_cons, List.length_nil, List.length_append, List.getElem?_cons_zero, List.getElem?_cons_succ, List.getElem?_nil, List.set_cons_zero, List.set_cons_succ, List.take_zero, List.take_succ_cons, List.take_nil, Option.map_some, Option.map_none, Option.bind_some, Option.bind_none, Nat.zero_add, Nat.add_zero, Nat.reduceAdd, Nat.reduceLeDiff, Nat.reduceSub, Nat.reduceEqDiff, Int.reduceLT, Int.reduceLE, Int.reduceEq, Int.reduceNeg, Int.reduceAdd, Int.reduceSub, Int.reduceMul, decide_true, decide_false, ↓reduceIte, decide_eq_true_eq, Bool.not_eq_true', decide_eq_false_iff_not, Bool.false_eq_true, Bool.true_eq_false, Bool.not_true, Bool.not_false, true_and, and_true, and_self, false_and, and_false, g]
theorem lean_ex (ns : List Int) (S : Store) (h : ns.length ≤ 1000) : d_lean_shape [.d (.lst (ns.map .int))] S = .ok (tI (leanL ns)) S :=
  funD_rt (ret_i (lean_lc _ 1 ns _ S S rfl h (by simp))) rfl
theorem enum_ints (ns : List Int) : ((ns.map D.int).zipIdx.map fun p => D.tup [.int (p.2 : Nat), p.1]) = (List.range ns.length).map fun k => D.tup [.int (k : Nat), .int (nu ns k)] := by
  apply List.ext_getElem?
  intro k
  rw [List.getElem?_map, List.getElem?_map, List.getElem?_zipIdx, List.getElem?_map]
  by_cases h : k < ns.length
  · rw [List.getElem?_range h, List.getElem?_eq_getElem h]
    simp [nu_lt h]
  · rw [List.getElem?_eq_none (by omega), List.getElem?_eq_none (by simpa using h)]
    rfl
def insB (one other : List Int) : Bool := (List.range one.length).all fun k => decide (nu one k ≤ nu other k)
theorem ins_lc (it : Pd.Env → Store → R (List D)) (o0 o1 : Option Val) (b one : List Int) (j : Nat) (hj : j < 2) (S : Store) (hb : ([o0, o1, none, none] : Pd.Env)[j]? = some (some (tI b))) (hit : it [o0, o1, none, none] S = .ok ((List.range one.length).map fun k => D.tup [.int (k : Nat), .int (nu one k)]) S) (hl : one.length ≤ 1000) :
    eUn fAll (eLc it [2, 3] (tgT (tgsCons (tgN 2) (tgsCons (tgN 3) tgsNil))) tYesD (eBin fLe (eVar 3) (eCall d_number_of (eCons (eVar j) (eCons (eVar 2) eNil))))) [o0, o1, none, none] S = .ok (.d (.bl (insB one b))) S := by
  refine u1 (lc_i (S2 := S) (es := (List.range one.length).map fun k => .bl (decide (nu one k ≤ nu b k))) hit (by rw [List.length_map, List.length_range]; have ec : cap = 1000000 := rfl; omega) (lcD_map _ _ _ fun k hk => ⟨[o0, o1, some (.d (.int (k : Nat))), some (.d (.int (nu one k)))], rfl, rfl, ?_⟩)) (by simp only [fAll, rd, asBls_map, insB, List.all_map]; rfl)
  refine b2 (S1 := S) rfl (c2 (S1 := S) (x := tI b) ?_ rfl (number_ex b k S)) rfl
  rcases j with _ | _ | j
  · have : o0 = some (tI b) := by simpa using hb
    rw [this]; rfl
  · have : o1 = some (tI b) := by simpa using hb
    rw [this]; rfl
  · omega
theorem inside_ex (one other : List Int) (S : Store) (h : one.length ≤ 1000) : d_is_inside_in [tI one, tI other] S = .ok (.d (.bl (insB one other))) S :=
  funD_rt (ret_i (ins_lc _ _ _ other one 1 (by decide) S rfl (by show (R.ok _ S).bind _ = _; simp only [R.bind]; rw [enum_ints]) h)) rfl
def strB (o i : List Int) : Bool := insB i o && insB (o.drop 1) i
theorem strip_ex (o i : List Int) (S : Store) (h : o.length ≤ 1000) (h2 : i.length ≤ 1000) : d_is_strip_in [tI o, tI i] S = .ok (.d (.bl (strB o i))) S := by
  have e1 : eTest (eNot (eCall d_is_inside_in (eCons (eVar 1) (eCons (eVar 0) eNil)))) [some (tI o), some (tI i), none, none] S = .ok (!insB i o) S := not_i (c2 rfl rfl (inside_ex i o S h2))
  unfold strB
  cases hb : insB i o with
  | false =>
    rw [hb] at e1
    exact funD_rt (sq_rt (if_t e1 rfl)) rfl
  | true =>
    rw [hb] at e1
    refine funD_rt (sq_nx (if_f e1 rfl) (ret_i ?_)) rfl
    rw [Bool.true_and]
    refine ins_lc _ _ _ i (o.drop 1) 1 (by decide) S rfl ?_ (by rw [List.length_drop]; omega)
    have e : (eSl (eVar 0) (eoS (eC (.int 1))) eoN) [some (tI o), some (tI i), none, none] S = .ok (tI (o.drop 1)) S := by
      simp only [funD, finF, fin, sNil, sSeq, sEx, sRet, sRetN, sAsg, sNew, sIf, sAsgT, sPar, sFrz, sRetC, sNever, sBrk, sCont, sFor, eVar, eC, eBin, eUn, eTest, eAnd, eOr, eNot, eIf, eChain, eNil, eCons, eCall, eSl, eoN, eoS, eApp, eExt, ePop, sSet, itV, itR1, itR2, itEn, itZ, eLc, asB, clo, fTup, fLst, fAddL, fMulL, fI, fAdd, fSub, fMul, fDiv, fMod, fPow, fNeg, fLt, fLe, fGt, fGe, fEq, fNe, fIx, fIsN, fNotN, Pd.isNon, fLen, fAbs, fInt, fTuple, fList, fSum, fAll, fAny, fMax2, fMin2, isiD, fIsi, fSl, fRev, fSorted, fRepr, rd, R.bind, R.fl, F.lp, noX, tYesD, lcY, tgN, tgsNil, tgsCons, tgT, wipeE, keepB, List.map_cons, List.map_nil, List.replicate_succ, List.replicate_zero, List.cons_append, List.nil_append, List.append_nil, List.length_cons, List.length_nil, List.length_append, List.getElem?_cons_zero, List.getElem?_cons_succ, List.getElem?_nil, List.set_cons_zero, List.set_cons_succ, List.take_zero, List.take_succ_cons, List.take_nil, Option.map_some, Option.map_none, Option.bind_some, Option.bind_none, Nat.zero_add, Nat.add_zero, Nat.reduceAdd, Nat.reduceLeDiff, Nat.reduceSub, Nat.reduceEqDiff, Int.reduceLT, Int.reduceLE, Int.reduceEq, Int.reduceNeg, Int.reduceAdd, Int.reduceSub, Int.reduceMul, decide_true, decide_false, ↓reduceIte, decide_eq_true_eq, Bool.not_eq_true', decide_eq_false_iff_not, Bool.false_eq_true, Bool.true_eq_false, Bool.not_true, Bool.not_false, true_and, and_true, and_self, false_and, and_false, cut1]
      rw [← List.map_drop]
    show (R.bind (eSl _ _ _ _ _) _) = _
    rw [e]
    show R.ok _ S = _
    rw [enum_ints]
theorem insB_iff {a b : List Int} (hb : ∀ x ∈ b, 0 ≤ x) : insB a b = true ↔ ∀ k, nu a k ≤ nu b k := by
  unfold insB
  rw [List.all_eq_true]
  constructor
  · intro h k
    by_cases hk : k < a.length
    · exact of_decide_eq_true (h k (List.mem_range.mpr hk))
    · rw [nu_ge (by omega)]; exact nu_nn hb k
  · intro h k _
    exact decide_eq_true (h k)
theorem nu_drop (o : List Int) (k : Nat) : nu (o.drop 1) k = nu o (k + 1) := by
  unfold nu
  rw [List.getElem?_drop, Nat.add_comm]
theorem strB_iff {o i : List Int} (ho : ∀ x ∈ o, 0 ≤ x) (hi : ∀ x ∈ i, 0 ≤ x) : strB o i = true ↔ Strip o i := by
  unfold strB Strip
  rw [Bool.and_eq_true, insB_iff ho, insB_iff hi]
  simp only [nu_drop]
  exact ⟨fun h k => ⟨h.1 k, h.2 k⟩, fun h => ⟨fun k => (h k).1, fun k => (h k).2⟩⟩
theorem Sh.p0 {ns : List Int} (h : Sh ns) : ∀ x ∈ ns, 0 ≤ x := fun x hx => Int.le_of_lt (h.pos x hx)
structure OkS (ns : List Int) : Prop where
  len : ns.length ≤ 8
  sh : Sh ns
  sum : ns.sum ≤ 10 ^ 64
theorem e64 : (10 : Int) ^ 64 = 10000000000000000000000000000000000000000000000000000000000000000 := by decide
theorem shape_ex (ns : List Int) (S : Store) (h : OkS ns) : d_is_shape_in [tI ns] S = .ok (.d (.bl true)) S := by
  have hl := h.len
  have e1 : eTest (eOr (eNot (eUn (fIsi .tuple) (eVar 0))) (eBin fGt (eUn fLen (eVar 0)) (eC (.int 8)))) [some (tI ns), none] S = .ok false S := by
    have h2 : ¬ (8 : Int) < (ns.length : Int) := by omega
    simp only [funD, finF, fin, sNil, sSeq, sEx, sRet, sRetN, sAsg, sNew, sIf, sAsgT, sPar, sFrz, sRetC, sNever, sBrk, sCont, sFor, eVar, eC, eBin, eUn, eTest, eAnd, eOr, eNot, eIf, eChain, eNil, eCons, eCall, eSl, eoN, eoS, eApp, eExt, ePop, sSet, itV, itR1, itR2, itEn, itZ, eLc, asB, clo, fTup, fLst, fAddL, fMulL, fI, fAdd, fSub, fMul, fDiv, fMod, fPow, fNeg, fLt, fLe, fGt, fGe, fEq, fNe, fIx, fIsN, fNotN, Pd.isNon, fLen, fAbs, fInt, fTuple, fList, fSum, fAll, fAny, fMax2, fMin2, isiD, fIsi, fSl, fRev, fSorted, fRepr, rd, R.bind, R.fl, F.lp, noX, tYesD, lcY, tgN, tgsNil, tgsCons, tgT, wipeE, keepB, List.map_cons, List.map_nil, List.replicate_succ, List.replicate_zero, List.cons_append, List.nil_append, List.append_nil, List.length_cons, List.length_nil, List.length_append, List.getElem?_cons_zero, List.getElem?_cons_succ, List.getElem?_nil, List.set_cons_zero, List.set_cons_succ, List.take_zero, List.take_succ_cons, List.take_nil, Option.map_some, Option.map_none, Option.bind_some, Option.bind_none, Nat.zero_add, Nat.add_zero, Nat.reduceAdd, Nat.reduceLeDiff, Nat.reduceSub, Nat.reduceEqDiff, Int.reduceLT, Int.reduceLE, Int.reduceEq, Int.reduceNeg, Int.reduceAdd, Int.reduceSub, Int.reduceMul, decide_true, decide_false, ↓reduceIte, decide_eq_true_eq, Bool.not_eq_true', decide_eq_false_iff_not, Bool.false_eq_true, Bool.true_eq_false, Bool.not_true, Bool.not_false, true_and, and_true, and_self, false_and, and_false, Ty.name, List.length_map, h2]
  have e2 : eUn fAll (eLc (itV (eVar 0)) [1] (tgN 1) tYesD (eCall d_is_within (eCons (eVar 1) (eCons (eC (.int 1)) (eCons (eC (.int 10000000000000000000000000000000000000000000000000000000000000000)) eNil))))) [some (tI ns), none] S = .ok (.d (.bl true)) S := by
    refine u1 (lc_i (S1 := S) (S2 := S) (es := ns.map fun _ => .bl true) rfl (by rw [List.length_map]; have ec : cap = 1000000 := rfl; omega) (lcD_map ns D.int _ fun x hx => ⟨[some (tI ns), some (.d (.int x))], rfl, rfl, c3 (S1 := S) (S2 := S) (S3 := S) rfl rfl rfl ?_⟩)) ?_
    · have := h.sh.pos x hx
      have h3 := mem_le_sum h.sh.p0 hx
      have h4 := h.sum
      rw [e64] at h4
      rw [within_i, decide_eq_true (by omega), decide_eq_true (by omega)]
      rfl
    · have : ∀ l : List Int, asBls (l.map fun _ => D.bl true) = some (l.map fun _ => true) := fun l => asBls_map _ l
      simp only [fAll, rd, this]
      simp
  have e3 := falls_ex ns S (by omega)
  rw [gos_iff ns fun i _ => h.sh.dec i] at e3
  refine funD_rt (sq_nx (if_f e1 rfl) (sq_nx (if_f (not_i e2) rfl) (ret_i ?_))) rfl
  have h4 := h.sum
  rw [e64] at h4
  have e4 : eCall d_falls_never_up (eCons (eVar 0) eNil) [some (tI ns), none] S = .ok (.d (.bl true)) S := c1 rfl e3
  refine and_t (t_i e4) ?_
  simp only [funD, finF, fin, sNil, sSeq, sEx, sRet, sRetN, sAsg, sNew, sIf, sAsgT, sPar, sFrz, sRetC, sNever, sBrk, sCont, sFor, eVar, eC, eBin, eUn, eTest, eAnd, eOr, eNot, eIf, eChain, eNil, eCons, eCall, eSl, eoN, eoS, eApp, eExt, ePop, sSet, itV, itR1, itR2, itEn, itZ, eLc, asB, clo, fTup, fLst, fAddL, fMulL, fI, fAdd, fSub, fMul, fDiv, fMod, fPow, fNeg, fLt, fLe, fGt, fGe, fEq, fNe, fIx, fIsN, fNotN, Pd.isNon, fLen, fAbs, fInt, fTuple, fList, fSum, fAll, fAny, fMax2, fMin2, isiD, fIsi, fSl, fRev, fSorted, fRepr, rd, R.bind, R.fl, F.lp, noX, tYesD, lcY, tgN, tgsNil, tgsCons, tgT, wipeE, keepB, List.map_cons, List.map_nil, List.replicate_succ, List.replicate_zero, List.cons_append, List.nil_append, List.append_nil, List.length_cons, List.length_nil, List.length_append, List.getElem?_cons_zero, List.getElem?_cons_succ, List.getElem?_nil, List.set_cons_zero, List.set_cons_succ, List.take_zero, List.take_succ_cons, List.take_nil, Option.map_some, Option.map_none, Option.bind_some, Option.bind_none, Nat.zero_add, Nat.add_zero, Nat.reduceAdd, Nat.reduceLeDiff, Nat.reduceSub, Nat.reduceEqDiff, Int.reduceLT, Int.reduceLE, Int.reduceEq, Int.reduceNeg, Int.reduceAdd, Int.reduceSub, Int.reduceMul, decide_true, decide_false, ↓reduceIte, decide_eq_true_eq, Bool.not_eq_true', decide_eq_false_iff_not, Bool.false_eq_true, Bool.true_eq_false, Bool.not_true, Bool.not_false, true_and, and_true, and_self, false_and, and_false, asInts_map, h4]
theorem req_shape (ns : List Int) (S : Store) (h : OkS ns) : d_require_shape [tI ns] S = .ok (.d .non) S :=
  funD_nx (if_f (not_i (c1 rfl (shape_ex ns S h))) rfl) rfl
theorem req_shapes (a b c : List Int) (S : Store) (ha : OkS a) (hb : OkS b) (hc : OkS c) : d_require_shapes [.d (.tup [.tup (a.map .int), .tup (b.map .int), .tup (c.map .int)])] S = .ok (.d .non) S := by
  have st : ∀ (x : List Int) (Γ0 o : Option Val), OkS x → sEx (eCall d_require_shape (eCons (eVar 1) eNil)) [Γ0, some (tI x)] S = .nx [Γ0, some (tI x)] S := fun x Γ0 o hx => ex_i (c1 rfl (req_shape x S hx))
  refine funD_nx (S1 := S) (for_i (S1 := S) rfl (r := .nx [some (.d (.tup [.tup (a.map .int), .tup (b.map .int), .tup (c.map .int)])), some (tI c)] S) ?_) rfl
  have s1 := st a (some (.d (.tup [.tup (a.map .int), .tup (b.map .int), .tup (c.map .int)]))) none ha
  have s2 := st b (some (.d (.tup [.tup (a.map .int), .tup (b.map .int), .tup (c.map .int)]))) none hb
  have s3 := st c (some (.d (.tup [.tup (a.map .int), .tup (b.map .int), .tup (c.map .int)]))) none hc
  simp only [forD, tgN, List.map_cons, List.map_nil, List.replicate_succ, List.replicate_zero, List.cons_append, List.nil_append, List.length_cons, List.length_nil, Nat.zero_add, Nat.reduceAdd, List.set_cons_succ, List.set_cons_zero, Nat.reduceLT, if_true, s1, s2, s3, F.lp]
abbrev callShapes (ea eb ec : Ev) : Ev := eCall (fun xs S => (fTup xs S).bind fun t S1 => d_require_shapes [t] S1) (eCons ea (eCons eb (eCons ec eNil)))
theorem call_shapes (ea eb ec : Ev) (Γ : Pd.Env) (S : Store) (a b c : List Int) (h1 : ea Γ S = .ok (tI a) S) (h2 : eb Γ S = .ok (tI b) S) (h3 : ec Γ S = .ok (tI c) S) (ha : OkS a) (hb : OkS b) (hc : OkS c) : callShapes ea eb ec Γ S = .ok (.d .non) S := by
  refine c3 h1 h2 h3 ?_
  simp only [fTup, clo, Option.map_some, List.length_cons, List.length_nil, cap, Nat.zero_add, Nat.reduceAdd, Nat.reduceLeDiff, if_true, R.bind]
  exact req_shapes a b c S ha hb hc
abbrev NumF (d : List Val → Store → R Val) : Prop := ∀ (ns : List Int) (i : Nat) (S : Store), d [tI ns, .d (.int i)] S = .ok (.d (.int (nu ns i))) S
abbrev fourBody (d : List Val → Store → R Val) : Sv := sSeq (sAsg 6 (eBin fMax2 (eCall d (eCons (eVar 1) (eCons (eVar 5) eNil))) (eCall d (eCons (eVar 2) (eCons (eVar 5) eNil))))) (sEx (eApp (eVar 4) (eBin fSub (eBin fAdd (eVar 6) (eBin fMin2 (eCall d (eCons (eVar 1) (eCons (eBin fSub (eVar 5) (eC (.int 1))) eNil))) (eCall d (eCons (eVar 2) (eCons (eBin fSub (eVar 5) (eC (.int 1))) eNil))))) (eCall d (eCons (eVar 0) (eCons (eBin fSub (eVar 5) (eC (.int 1))) eNil))))))
theorem four_loop (d : List Val → Store → R Val) (hd : NumF d) (c p q : List Int) (n : Int) (S : Store) (rest : Pd.Env) (M : Nat) (hM : M ≤ 1000) : ∃ o5 o6, forD (tgN 5) (fourBody d) ((List.range M).map fun i => .int (1 + (i : Nat)))
      (some (tI c) :: some (tI p) :: some (tI q) :: some (.d (.int n)) :: some (.cell S.length) :: none :: none :: rest) (S ++ [some (.lst [.int (FF c p q n 0)])])
    = .nx (some (tI c) :: some (tI p) :: some (tI q) :: some (.d (.int n)) :: some (.cell S.length) :: o5 :: o6 :: rest) (S ++ [some (.lst (((List.range (M + 1)).map (FF c p q n)).map .int))]) := by
  obtain ⟨Γ', S', e, ⟨o5, o6, rfl, rfl⟩⟩ := forD_inv (tg := tgN 5) (body := fourBody d) ((List.range M).map fun i => D.int (1 + (i : Nat)))
    (fun i Γ S' => ∃ o5 o6, Γ = (some (tI c) :: some (tI p) :: some (tI q) :: some (.d (.int n)) :: some (.cell S.length) :: o5 :: o6 :: rest) ∧ S' = S ++ [some (.lst (((List.range (i + 1)).map (FF c p q n)).map .int))])
    (Γ := some (tI c) :: some (tI p) :: some (tI q) :: some (.d (.int n)) :: some (.cell S.length) :: none :: none :: rest) (S := S ++ [some (.lst [.int (FF c p q n 0)])]) ⟨none, none, rfl, by simp⟩ (by
      rintro i x Γ S' hx ⟨o5, o6, rfl, rfl⟩
      rw [List.getElem?_map] at hx
      by_cases hi : i < M
      · rw [List.getElem?_range hi] at hx
        simp only [Option.map_some] at hx
        cases hx
        have e1 : (1 : Int) + (i : Nat) = ((i + 1 : Nat) : Int) := by omega
        have e2 : ((i + 1 : Nat) : Int) - 1 = (i : Nat) := by omega
        refine ⟨_, rfl, _, _, .inl (sq_nx (asg_i (x := .d (.int (maxI (nu p (i + 1)) (nu q (i + 1))))) (S1 := S ++ [some (.lst (((List.range (i + 1)).map (FF c p q n)).map .int))]) ?_) (ex_i (app_last (S' := S) (d := .int (FF c p q n (i + 1))) rfl ?_ rfl (by simp; omega)))), some (.d (.int (1 + (i : Nat)))), some (.d (.int (maxI (nu p (i + 1)) (nu q (i + 1))))), rfl, ?_⟩
        · rw [e1]
          exact b2 (c2 rfl rfl (hd _ _ _)) (c2 rfl rfl (hd _ _ _)) rfl
        · rw [e1]
          have hE : ∀ (T : Store) (o : Option Val), eBin fSub (eVar 5) (eC (.int 1)) (some (tI c) :: some (tI p) :: some (tI q) :: some (.d (.int n)) :: some (.cell S.length) :: some (.d (.int ((i + 1 : Nat) : Int))) :: o :: rest) T = .ok (.d (.int (i : Nat))) T := fun T o => by
            simp only [funD, finF, fin, sNil, sSeq, sEx, sRet, sRetN, sAsg, sNew, sIf, sAsgT, sPar, sFrz, sRetC, sNever, sBrk, sCont, sFor, eVar, eC, eBin, eUn, eTest, eAnd, eOr, eNot, eIf, eChain, eNil, eCons, eCall, eSl, eoN, eoS, eApp, eExt, ePop, sSet, itV, itR1, itR2, itEn, itZ, eLc, asB, clo, fTup, fLst, fAddL, fMulL, fI, fAdd, fSub, fMul, fDiv, fMod, fPow, fNeg, fLt, fLe, fGt, fGe, fEq, fNe, fIx, fIsN, fNotN, Pd.isNon, fLen, fAbs, fInt, fTuple, fList, fSum, fAll, fAny, fMax2, fMin2, isiD, fIsi, fSl, fRev, fSorted, fRepr, rd, R.bind, R.fl, F.lp, noX, tYesD, lcY, tgN, tgsNil, tgsCons, tgT, wipeE, keepB, List.map_cons, List.map_nil, List.replicate_succ, List.replicate_zero, List.cons_append, List.nil_append, List.append_nil, List.length_cons, List.length_nil, List.length_append, List.getElem?_cons_zero, List.getElem?_cons_succ, List.getElem?_nil, List.set_cons_zero, List.set_cons_succ, List.take_zero, List.take_succ_cons, List.take_nil, Option.map_some, Option.map_none, Option.bind_some, Option.bind_none, Nat.zero_add, Nat.add_zero, Nat.reduceAdd, Nat.reduceLeDiff, Nat.reduceSub, Nat.reduceEqDiff, Int.reduceLT, Int.reduceLE, Int.reduceEq, Int.reduceNeg, Int.reduceAdd, Int.reduceSub, Int.reduceMul, decide_true, decide_false, ↓reduceIte, decide_eq_true_eq, Bool.not_eq_true', decide_eq_false_iff_not, Bool.false_eq_true, Bool.true_eq_false, Bool.not_true, Bool.not_false, true_and, and_true, and_self, false_and, and_false, e2]
          exact b2 (S1 := S ++ [some (.lst (((List.range (i + 1)).map (FF c p q n)).map .int))]) (S2 := S ++ [some (.lst (((List.range (i + 1)).map (FF c p q n)).map .int))]) (b2 (S1 := S ++ [some (.lst (((List.range (i + 1)).map (FF c p q n)).map .int))]) (S2 := S ++ [some (.lst (((List.range (i + 1)).map (FF c p q n)).map .int))]) rfl (b2 (S1 := S ++ [some (.lst (((List.range (i + 1)).map (FF c p q n)).map .int))]) (S2 := S ++ [some (.lst (((List.range (i + 1)).map (FF c p q n)).map .int))]) (c2 rfl (hE _ _) (hd _ _ _)) (c2 rfl (hE _ _) (hd _ _ _)) rfl) rfl) (c2 rfl (hE _ _) (hd _ _ _)) rfl
        · rw [List.range_succ (n := i + 1), List.map_append, List.map_append]
          rfl
      · rw [List.getElem?_eq_none (by simpa using hi)] at hx
        cases hx)
  rw [List.length_map, List.length_range] at e
  exact ⟨o5, o6, e⟩
theorem four_head (d : List Val → Store → R Val) (hd : NumF d) (c p q : List Int) (n : Int) (S : Store) (rest : Pd.Env) : sNew 4 (eCall fLst (eCons (eBin fAdd (eBin fMax2 (eCall d (eCons (eVar 1) (eCons (eC (.int 0)) eNil))) (eCall d (eCons (eVar 2) (eCons (eC (.int 0)) eNil)))) (eVar 3)) eNil))
      (some (tI c) :: some (tI p) :: some (tI q) :: some (.d (.int n)) :: none :: none :: none :: rest) S = .nx (some (tI c) :: some (tI p) :: some (tI q) :: some (.d (.int n)) :: some (.cell S.length) :: none :: none :: rest) (S ++ [some (.lst [.int (FF c p q n 0)])]) := by
  refine new_i (c1 (x := .d (.int (FF c p q n 0))) (S1 := S) (b2 (b2 (c2 rfl rfl (hd p 0 S)) (c2 rfl rfl (hd q 0 S)) rfl) rfl rfl) ?_)
  simp only [funD, finF, fin, sNil, sSeq, sEx, sRet, sRetN, sAsg, sNew, sIf, sAsgT, sPar, sFrz, sRetC, sNever, sBrk, sCont, sFor, eVar, eC, eBin, eUn, eTest, eAnd, eOr, eNot, eIf, eChain, eNil, eCons, eCall, eSl, eoN, eoS, eApp, eExt, ePop, sSet, itV, itR1, itR2, itEn, itZ, eLc, asB, clo, fTup, fLst, fAddL, fMulL, fI, fAdd, fSub, fMul, fDiv, fMod, fPow, fNeg, fLt, fLe, fGt, fGe, fEq, fNe, fIx, fIsN, fNotN, Pd.isNon, fLen, fAbs, fInt, fTuple, fList, fSum, fAll, fAny, fMax2, fMin2, isiD, fIsi, fSl, fRev, fSorted, fRepr, rd, R.bind, R.fl, F.lp, noX, tYesD, lcY, tgN, tgsNil, tgsCons, tgT, wipeE, keepB, List.map_cons, List.map_nil, List.replicate_succ, List.replicate_zero, List.cons_append, List.nil_append, List.append_nil, List.length_cons, List.length_nil, List.length_append, List.getElem?_cons_zero, List.getElem?_cons_succ, List.getElem?_nil, List.set_cons_zero, List.set_cons_succ, List.take_zero, List.take_succ_cons, List.take_nil, Option.map_some, Option.map_none, Option.bind_some, Option.bind_none, Nat.zero_add, Nat.add_zero, Nat.reduceAdd, Nat.reduceLeDiff, Nat.reduceSub, Nat.reduceEqDiff, Int.reduceLT, Int.reduceLE, Int.reduceEq, Int.reduceNeg, Int.reduceAdd, Int.reduceSub, Int.reduceMul, decide_true, decide_false, ↓reduceIte, decide_eq_true_eq, Bool.not_eq_true', decide_eq_false_iff_not, Bool.false_eq_true, Bool.true_eq_false, Bool.not_true, Bool.not_false, true_and, and_true, and_self, false_and, and_false, cap]
theorem fourth_in_ex (c p q : List Int) (n : Int) (S : Store) (h1 : p.length ≤ 8) (h2 : q.length ≤ 8) : d_fourth_in [tI c, tI p, tI q, .d (.int n)] S = .ok (tI (mkS (FF c p q n) (max p.length q.length + 1))) S := by
  obtain ⟨o5, o6, e⟩ := four_loop d_number_of number_ex c p q n S [] (max p.length q.length) (by omega)
  have hit : itR2 (eC (.int 1)) (eBin fAdd (eBin fMax2 (eUn fLen (eVar 1)) (eUn fLen (eVar 2))) (eC (.int 1))) [some (tI c), some (tI p), some (tI q), some (.d (.int n)), some (.cell S.length), none, none] (S ++ [some (.lst [.int (FF c p q n 0)])]) = .ok ((List.range (max p.length q.length)).map fun i => .int (1 + (i : Nat))) (S ++ [some (.lst [.int (FF c p q n 0)])]) := by
    refine itR2_i (a := 1) (b := ((max p.length q.length : Nat) : Int) + 1) (m := max p.length q.length) (S1 := S ++ [some (.lst [.int (FF c p q n 0)])]) rfl ?_ (by omega) (by omega) (by omega)
    generalize S ++ [some (.lst [.int (FF c p q n 0)])] = T
    simp only [funD, finF, fin, sNil, sSeq, sEx, sRet, sRetN, sAsg, sNew, sIf, sAsgT, sPar, sFrz, sRetC, sNever, sBrk, sCont, sFor, eVar, eC, eBin, eUn, eTest, eAnd, eOr, eNot, eIf, eChain, eNil, eCons, eCall, eSl, eoN, eoS, eApp, eExt, ePop, sSet, itV, itR1, itR2, itEn, itZ, eLc, asB, clo, fTup, fLst, fAddL, fMulL, fI, fAdd, fSub, fMul, fDiv, fMod, fPow, fNeg, fLt, fLe, fGt, fGe, fEq, fNe, fIx, fIsN, fNotN, Pd.isNon, fLen, fAbs, fInt, fTuple, fList, fSum, fAll, fAny, fMax2, fMin2, isiD, fIsi, fSl, fRev, fSorted, fRepr, rd, R.bind, R.fl, F.lp, noX, tYesD, lcY, tgN, tgsNil, tgsCons, tgT, wipeE, keepB, List.map_cons, List.map_nil, List.replicate_succ, List.replicate_zero, List.cons_append, List.nil_append, List.append_nil, List.length_cons, List.length_nil, List.length_append, List.getElem?_cons_zero, List.getElem?_cons_succ, List.getElem?_nil, List.set_cons_zero, List.set_cons_succ, List.take_zero, List.take_succ_cons, List.take_nil, Option.map_some, Option.map_none, Option.bind_some, Option.bind_none, Nat.zero_add, Nat.add_zero, Nat.reduceAdd, Nat.reduceLeDiff, Nat.reduceSub, Nat.reduceEqDiff, Int.reduceLT, Int.reduceLE, Int.reduceEq, Int.reduceNeg, Int.reduceAdd, Int.reduceSub, Int.reduceMul, decide_true, decide_false, ↓reduceIte, decide_eq_true_eq, Bool.not_eq_true', decide_eq_false_iff_not, Bool.false_eq_true, Bool.true_eq_false, Bool.not_true, Bool.not_false, true_and, and_true, and_self, false_and, and_false, List.length_map]
    congr 3
    split <;> omega
  have hrt := lean_ex ((List.range (max p.length q.length + 1)).map (FF c p q n)) S (by rw [List.length_map, List.length_range]; omega)
  exact funD_rt (sq_nx (four_head d_number_of number_ex c p q n S []) (sq_nx (for_i hit e) (sq_nx (frz_last rfl) (ret_i (c1 (S1 := S) rfl hrt))))) rfl
theorem lfourth_ex (c p q : List Int) (n : Int) (S : Store) : d__law_fourth [tI c, tI p, tI q, .d (.int n)] S = .ok (tI (four c p q n)) S := by
  obtain ⟨o5, o6, e⟩ := four_loop d__law_number lnumber_ex c p q n S [none] 8 (by omega)
  have hit : itR2 (eC (.int 1)) (eC (.int 9)) [some (tI c), some (tI p), some (tI q), some (.d (.int n)), some (.cell S.length), none, none, none] (S ++ [some (.lst [.int (FF c p q n 0)])]) = .ok ((List.range 8).map fun i => .int (1 + (i : Nat))) (S ++ [some (.lst [.int (FF c p q n 0)])]) := by
    generalize S ++ [some (.lst [.int (FF c p q n 0)])] = T
    exact itR2_i (a := 1) (b := 9) (m := 8) (S1 := T) rfl rfl (by omega) (by omega) (by omega)
  have hrt : ∀ (o0 o1 o2 o3 o5 o6 o7 : Option Val), eUn fTuple (eLc (itV (eVar 4)) [7] (tgN 7) (eTest (eBin fGt (eVar 7) (eC (.int 0)))) (eVar 7)) [o0, o1, o2, o3, some (.d (.lst (((List.range 9).map (FF c p q n)).map .int))), o5, o6, o7] S = .ok (tI (four c p q n)) S := fun _ _ _ _ _ _ _ => lean_lc _ 7 ((List.range 9).map (FF c p q n)) _ S S rfl (by simp) (by simp)
  exact funD_rt (sq_nx (four_head d__law_number lnumber_ex c p q n S [none]) (sq_nx (for_i hit e) (sq_nx (frz_last rfl) (ret_i (hrt _ _ _ _ _ _ _))))) rfl
end L22

namespace L22
open PySem L2 Pd
theorem fEq_ints (a b : List Int) (S : Store) : fEq (tI a) (tI b) S = .ok (.d (.bl (decide (a = b)))) S := by
  simp only [fEq, rd, fit_intsT 59, and_self, if_true, D.eqv, eqvL_ints]
theorem fNe_ints (a b : List Int) (S : Store) : fNe (tI a) (tI b) S = .ok (.d (.bl (!decide (a = b)))) S := by
  simp only [fNe, rd, fit_intsT 59, and_self, if_true, D.eqv, eqvL_ints]
theorem four_eq {c p q : List Int} {n : Int} (sc : Sh c) (hp : Strip p c) (hq : Strip q c) (h1 : p.length ≤ 8) (h2 : q.length ≤ 8) : mkS (FF c p q n) (max p.length q.length + 1) = four c p q n :=
  (mkS_more (by omega) fun i hi => FF_zero (m := max p.length q.length) sc hp hq (by omega) (by omega) (by omega)).symm
theorem Sh.le0 {ns : List Int} (h : Sh ns) (i : Nat) : nu ns i ≤ nu ns 0 := by
  induction i with
  | zero => exact Int.le_refl _
  | succ i ih => have := h.dec i; omega
theorem okS_of {ns : List Int} (h : Sh ns) (hl : ns.length ≤ 8) (hb : nu ns 0 ≤ 10 ^ 60) : OkS ns := ⟨hl, h, by
  rw [h.sum hl]
  have := sg_le (g := nu ns) (B := 10 ^ 60) (fun i => Int.le_trans (h.le0 i) hb) 8
  omega⟩
theorem fourth_shape_ex (c p q : List Int) (n : Int) (S : Store) (hc : OkS c) (hp : OkS p) (hq : OkS q) (s1 : Strip p c) (s2 : Strip q c) (n0 : 0 ≤ n) (n1 : n ≤ 10 ^ 64) (hf : OkS (four c p q n)) : d_fourth_shape [tI c, tI p, tI q, .d (.int n)] S = .ok (tI (four c p q n)) S := by
  have e := fourth_in_ex c p q n S hp.len hq.len
  rw [four_eq hc.sh s1 s2 hp.len hq.len] at e
  have l := hf.len
  have l2 := hf.sum
  rw [e64] at n1 l2
  have t1 : strB p c = true := (strB_iff hp.sh.p0 hc.sh.p0).mpr s1
  have t2 : strB q c = true := (strB_iff hq.sh.p0 hc.sh.p0).mpr s2
  have x1 := strip_ex p c S (by have := hp.len; omega) (by have := hc.len; omega)
  have x2 := strip_ex q c S (by have := hq.len; omega) (by have := hc.len; omega)
  rw [t1] at x1
  rw [t2] at x2
  refine funD_rt (sq_nx (ex_i (call_shapes _ _ _ _ S c p q rfl rfl rfl hc hp hq)) (sq_nx (ex_i (c3 (S1 := S) (S2 := S) (S3 := S) rfl rfl rfl (req_within n 0 _ S n0 n1))) (sq_nx (if_f (tor_f (not_i (c2 rfl rfl x1)) (not_i (c2 rfl rfl x2))) rfl) (sq_nx (asg_i (c4 rfl rfl rfl rfl e)) (sq_nx (if_f (S1 := S) ?_ rfl) (sq_nx (if_f (S1 := S) ?_ rfl) (ret_i rfl))))))) rfl
  · have : ¬ (8 : Int) < ((four c p q n).length : Int) := by omega
    simp only [funD, finF, fin, sNil, sSeq, sEx, sRet, sRetN, sAsg, sNew, sIf, sAsgT, sPar, sFrz, sRetC, sNever, sBrk, sCont, sFor, eVar, eC, eBin, eUn, eTest, eAnd, eOr, eNot, eIf, eChain, eNil, eCons, eCall, eSl, eoN, eoS, eApp, eExt, ePop, sSet, itV, itR1, itR2, itEn, itZ, eLc, asB, clo, fTup, fLst, fAddL, fMulL, fI, fAdd, fSub, fMul, fDiv, fMod, fPow, fNeg, fLt, fLe, fGt, fGe, fEq, fNe, fIx, fIsN, fNotN, Pd.isNon, fLen, fAbs, fInt, fTuple, fList, fSum, fAll, fAny, fMax2, fMin2, isiD, fIsi, fSl, fRev, fSorted, fRepr, rd, R.bind, R.fl, F.lp, noX, tYesD, lcY, tgN, tgsNil, tgsCons, tgT, wipeE, keepB, List.map_cons, List.map_nil, List.replicate_succ, List.replicate_zero, List.cons_append, List.nil_append, List.append_nil, List.length_cons, List.length_nil, List.length_append, List.getElem?_cons_zero, List.getElem?_cons_succ, List.getElem?_nil, List.set_cons_zero, List.set_cons_succ, List.take_zero, List.take_succ_cons, List.take_nil, Option.map_some, Option.map_none, Option.bind_some, Option.bind_none, Nat.zero_add, Nat.add_zero, Nat.reduceAdd, Nat.reduceLeDiff, Nat.reduceSub, Nat.reduceEqDiff, Int.reduceLT, Int.reduceLE, Int.reduceEq, Int.reduceNeg, Int.reduceAdd, Int.reduceSub, Int.reduceMul, decide_true, decide_false, ↓reduceIte, decide_eq_true_eq, Bool.not_eq_true', decide_eq_false_iff_not, Bool.false_eq_true, Bool.true_eq_false, Bool.not_true, Bool.not_false, true_and, and_true, and_self, false_and, and_false, List.length_map, this]
  · have : ¬ (10000000000000000000000000000000000000000000000000000000000000000 : Int) < (four c p q n).sum := by omega
    simp only [funD, finF, fin, sNil, sSeq, sEx, sRet, sRetN, sAsg, sNew, sIf, sAsgT, sPar, sFrz, sRetC, sNever, sBrk, sCont, sFor, eVar, eC, eBin, eUn, eTest, eAnd, eOr, eNot, eIf, eChain, eNil, eCons, eCall, eSl, eoN, eoS, eApp, eExt, ePop, sSet, itV, itR1, itR2, itEn, itZ, eLc, asB, clo, fTup, fLst, fAddL, fMulL, fI, fAdd, fSub, fMul, fDiv, fMod, fPow, fNeg, fLt, fLe, fGt, fGe, fEq, fNe, fIx, fIsN, fNotN, Pd.isNon, fLen, fAbs, fInt, fTuple, fList, fSum, fAll, fAny, fMax2, fMin2, isiD, fIsi, fSl, fRev, fSorted, fRepr, rd, R.bind, R.fl, F.lp, noX, tYesD, lcY, tgN, tgsNil, tgsCons, tgT, wipeE, keepB, List.map_cons, List.map_nil, List.replicate_succ, List.replicate_zero, List.cons_append, List.nil_append, List.append_nil, List.length_cons, List.length_nil, List.length_append, List.getElem?_cons_zero, List.getElem?_cons_succ, List.getElem?_nil, List.set_cons_zero, List.set_cons_succ, List.take_zero, List.take_succ_cons, List.take_nil, Option.map_some, Option.map_none, Option.bind_some, Option.bind_none, Nat.zero_add, Nat.add_zero, Nat.reduceAdd, Nat.reduceLeDiff, Nat.reduceSub, Nat.reduceEqDiff, Int.reduceLT, Int.reduceLE, Int.reduceEq, Int.reduceNeg, Int.reduceAdd, Int.reduceSub, Int.reduceMul, decide_true, decide_false, ↓reduceIte, decide_eq_true_eq, Bool.not_eq_true', decide_eq_false_iff_not, Bool.false_eq_true, Bool.true_eq_false, Bool.not_true, Bool.not_false, true_and, and_true, and_self, false_and, and_false, asInts_map, this]
theorem c5 {e f e3 e4 e5 : Ev} {Γ : Pd.Env} {S S1 S2 S3 S4 S5 : Store} {x y z u v : Val} {q : R Val} {d : List Val → Store → R Val} (h1 : e Γ S = .ok x S1) (h2 : f Γ S1 = .ok y S2) (h3 : e3 Γ S2 = .ok z S3) (h4 : e4 Γ S3 = .ok u S4) (h5 : e5 Γ S4 = .ok v S5) (k : d [x, y, z, u, v] S5 = q) : eCall d (eCons e (eCons f (eCons e3 (eCons e4 (eCons e5 eNil))))) Γ S = q := by
  simp only [eCall, eCons, eNil, h1, h2, h3, h4, h5, R.bind, k]
def sqB (c p q : List Int) (n : Int) (v : List Int) : Bool := strB p c && (strB q c && decide (four c p q n = v))
theorem is_square_ex (c p q : List Int) (n : Int) (v : List Int) (S : Store) (hc : OkS c) (hp : OkS p) (hq : OkS q) (n0 : 0 ≤ n) (n1 : n ≤ 10 ^ 64) (hv : OkS v) : d_is_square [tI c, tI p, tI q, .d (.int n), tI v] S = .ok (.d (.bl (sqB c p q n v))) S := by
  have e := fourth_in_ex c p q n S hp.len hq.len
  rw [e64] at n1
  have x1 := strip_ex p c S (by have := hp.len; omega) (by have := hc.len; omega)
  have x2 := strip_ex q c S (by have := hq.len; omega) (by have := hc.len; omega)
  refine funD_rt (sq_nx (ex_i (call_shapes _ _ _ _ S c p q rfl rfl rfl hc hp hq)) (sq_nx (ex_i (c3 (S1 := S) (S2 := S) (S3 := S) rfl rfl rfl (req_within n 0 _ S n0 n1))) (sq_nx (ex_i (c1 rfl (req_shape v S hv))) (ret_i ?_)))) rfl
  unfold sqB
  cases t1 : strB p c with
  | false =>
    rw [t1] at x1
    exact and_f (t_i (c2 rfl rfl x1))
  | true =>
    rw [t1] at x1
    refine and_t (t_i (c2 rfl rfl x1)) ?_
    rw [Bool.true_and]
    cases t2 : strB q c with
    | false =>
      rw [t2] at x2
      exact and_f (t_i (c2 rfl rfl x2))
    | true =>
      rw [t2] at x2
      refine and_t (t_i (c2 rfl rfl x2)) ?_
      rw [Bool.true_and]
      rw [four_eq hc.sh ((strB_iff hp.sh.p0 hc.sh.p0).mp t1) ((strB_iff hq.sh.p0 hc.sh.p0).mp t2) hp.len hq.len] at e
      exact b2 (c4 rfl rfl rfl rfl e) rfl (fEq_ints _ _ S)
abbrev cornBody : Sv := sSeq (sAsg 5 (eBin fMax2 (eCall d_number_of (eCons (eVar 0) (eCons (eVar 4) eNil))) (eCall d_number_of (eCons (eVar 1) (eCons (eVar 4) eNil))))) (sEx (eApp (eVar 3) (eBin fSub (eBin fAdd (eVar 5) (eBin fMin2 (eCall d_number_of (eCons (eVar 0) (eCons (eBin fSub (eVar 4) (eC (.int 1))) eNil))) (eCall d_number_of (eCons (eVar 1) (eCons (eBin fSub (eVar 4) (eC (.int 1))) eNil))))) (eCall d_number_of (eCons (eVar 2) (eCons (eVar 4) eNil))))))
theorem corn_loop (p q f : List Int) (S : Store) (M : Nat) (hM : M ≤ 1000) : ∃ o5 o6, forD (tgN 4) cornBody ((List.range M).map fun i => .int (1 + (i : Nat)))
      [some (tI p), some (tI q), some (tI f), some (.cell S.length), none, none] (S ++ [some (.lst [])])
    = .nx [some (tI p), some (tI q), some (tI f), some (.cell S.length), o5, o6] (S ++ [some (.lst (((List.range M).map (CC p q f)).map .int))]) := by
  obtain ⟨Γ', S', e, ⟨o5, o6, rfl, rfl⟩⟩ := forD_inv (tg := tgN 4) (body := cornBody) ((List.range M).map fun i => D.int (1 + (i : Nat)))
    (fun i Γ S' => ∃ o5 o6, Γ = [some (tI p), some (tI q), some (tI f), some (.cell S.length), o5, o6] ∧ S' = S ++ [some (.lst (((List.range i).map (CC p q f)).map .int))])
    (Γ := [some (tI p), some (tI q), some (tI f), some (.cell S.length), none, none]) (S := S ++ [some (.lst [])]) ⟨none, none, rfl, by simp⟩ (by
      rintro i x Γ S' hx ⟨o5, o6, rfl, rfl⟩
      rw [List.getElem?_map] at hx
      by_cases hi : i < M
      · rw [List.getElem?_range hi] at hx
        simp only [Option.map_some] at hx
        cases hx
        have e1 : (1 : Int) + (i : Nat) = ((i + 1 : Nat) : Int) := by omega
        have e2 : ((i + 1 : Nat) : Int) - 1 = (i : Nat) := by omega
        refine ⟨_, rfl, _, _, .inl (sq_nx (asg_i (x := .d (.int (maxI (nu p (i + 1)) (nu q (i + 1))))) (S1 := S ++ [some (.lst (((List.range i).map (CC p q f)).map .int))]) ?_) (ex_i (app_last (S' := S) (d := .int (CC p q f i)) rfl ?_ rfl (by simp; omega)))), some (.d (.int (1 + (i : Nat)))), some (.d (.int (maxI (nu p (i + 1)) (nu q (i + 1))))), rfl, ?_⟩
        · rw [e1]
          exact b2 (c2 rfl rfl (number_ex _ _ _)) (c2 rfl rfl (number_ex _ _ _)) rfl
        · rw [e1]
          have hE : ∀ (T : Store) (o : Option Val), eBin fSub (eVar 4) (eC (.int 1)) [some (tI p), some (tI q), some (tI f), some (.cell S.length), some (.d (.int ((i + 1 : Nat) : Int))), o] T = .ok (.d (.int (i : Nat))) T := fun T o => by
            simp only [funD, finF, fin, sNil, sSeq, sEx, sRet, sRetN, sAsg, sNew, sIf, sAsgT, sPar, sFrz, sRetC, sNever, sBrk, sCont, sFor, eVar, eC, eBin, eUn, eTest, eAnd, eOr, eNot, eIf, eChain, eNil, eCons, eCall, eSl, eoN, eoS, eApp, eExt, ePop, sSet, itV, itR1, itR2, itEn, itZ, eLc, asB, clo, fTup, fLst, fAddL, fMulL, fI, fAdd, fSub, fMul, fDiv, fMod, fPow, fNeg, fLt, fLe, fGt, fGe, fEq, fNe, fIx, fIsN, fNotN, Pd.isNon, fLen, fAbs, fInt, fTuple, fList, fSum, fAll, fAny, fMax2, fMin2, isiD, fIsi, fSl, fRev, fSorted, fRepr, rd, R.bind, R.fl, F.lp, noX, tYesD, lcY, tgN, tgsNil, tgsCons, tgT, wipeE, keepB, List.map_cons, List.map_nil, List.replicate_succ, List.replicate_zero, List.cons_append, List.nil_append, List.append_nil, List.length_cons, List.length_nil, List.length_append, List.getElem?_cons_zero, List.getElem?_cons_succ, List.getElem?_nil, List.set_cons_zero, List.set_cons_succ, List.take_zero, List.take_succ_cons, List.take_nil, Option.map_some, Option.map_none, Option.bind_some, Option.bind_none, Nat.zero_add, Nat.add_zero, Nat.reduceAdd, Nat.reduceLeDiff, Nat.reduceSub, Nat.reduceEqDiff, Int.reduceLT, Int.reduceLE, Int.reduceEq, Int.reduceNeg, Int.reduceAdd, Int.reduceSub, Int.reduceMul, decide_true, decide_false, ↓reduceIte, decide_eq_true_eq, Bool.not_eq_true', decide_eq_false_iff_not, Bool.false_eq_true, Bool.true_eq_false, Bool.not_true, Bool.not_false, true_and, and_true, and_self, false_and, and_false, e2]
          generalize hT : S ++ [some (.lst (((List.range i).map (CC p q f)).map .int))] = T
          exact b2 (S1 := T) (S2 := T) (b2 (S1 := T) (S2 := T) rfl (b2 (S1 := T) (S2 := T) (c2 rfl (hE _ _) (number_ex _ _ _)) (c2 rfl (hE _ _) (number_ex _ _ _)) rfl) rfl) (c2 rfl rfl (number_ex f (i + 1) _)) rfl
        · rw [List.range_succ (n := i), List.map_append, List.map_append]
          rfl
      · rw [List.getElem?_eq_none (by simpa using hi)] at hx
        cases hx)
  rw [List.length_map, List.length_range] at e
  exact ⟨o5, o6, e⟩
theorem corner_in_ex (p q f : List Int) (S : Store) (h1 : p.length ≤ 8) (h2 : q.length ≤ 8) (h3 : f.length ≤ 8) : d_corner_in [tI p, tI q, tI f] S = .ok (.d (.tup [.tup ((mkS (CC p q f) (max (max p.length q.length) f.length)).map .int), .int (cnt p q f)])) S := by
  obtain ⟨o5, o6, e⟩ := corn_loop p q f S (max (max p.length q.length) f.length) (by omega)
  have hit : itR2 (eC (.int 1)) (eBin fAdd (eCall fMax3 (eCons (eUn fLen (eVar 0)) (eCons (eUn fLen (eVar 1)) (eCons (eUn fLen (eVar 2)) eNil)))) (eC (.int 1))) [some (tI p), some (tI q), some (tI f), some (.cell S.length), none, none] (S ++ [some (.lst [])]) = .ok ((List.range (max (max p.length q.length) f.length)).map fun i => .int (1 + (i : Nat))) (S ++ [some (.lst [])]) := by
    refine itR2_i (a := 1) (b := ((max (max p.length q.length) f.length : Nat) : Int) + 1) (m := max (max p.length q.length) f.length) (S1 := S ++ [some (.lst [])]) rfl ?_ (by omega) (by omega) (by omega)
    generalize S ++ [some (.lst [])] = T
    simp only [funD, finF, fin, sNil, sSeq, sEx, sRet, sRetN, sAsg, sNew, sIf, sAsgT, sPar, sFrz, sRetC, sNever, sBrk, sCont, sFor, eVar, eC, eBin, eUn, eTest, eAnd, eOr, eNot, eIf, eChain, eNil, eCons, eCall, eSl, eoN, eoS, eApp, eExt, ePop, sSet, itV, itR1, itR2, itEn, itZ, eLc, asB, clo, fTup, fLst, fAddL, fMulL, fI, fAdd, fSub, fMul, fDiv, fMod, fPow, fNeg, fLt, fLe, fGt, fGe, fEq, fNe, fIx, fIsN, fNotN, Pd.isNon, fLen, fAbs, fInt, fTuple, fList, fSum, fAll, fAny, fMax2, fMin2, isiD, fIsi, fSl, fRev, fSorted, fRepr, rd, R.bind, R.fl, F.lp, noX, tYesD, lcY, tgN, tgsNil, tgsCons, tgT, wipeE, keepB, List.map_cons, List.map_nil, List.replicate_succ, List.replicate_zero, List.cons_append, List.nil_append, List.append_nil, List.length_cons, List.length_nil, List.length_append, List.getElem?_cons_zero, List.getElem?_cons_succ, List.getElem?_nil, List.set_cons_zero, List.set_cons_succ, List.take_zero, List.take_succ_cons, List.take_nil, Option.map_some, Option.map_none, Option.bind_some, Option.bind_none, Nat.zero_add, Nat.add_zero, Nat.reduceAdd, Nat.reduceLeDiff, Nat.reduceSub, Nat.reduceEqDiff, Int.reduceLT, Int.reduceLE, Int.reduceEq, Int.reduceNeg, Int.reduceAdd, Int.reduceSub, Int.reduceMul, decide_true, decide_false, ↓reduceIte, decide_eq_true_eq, Bool.not_eq_true', decide_eq_false_iff_not, Bool.false_eq_true, Bool.true_eq_false, Bool.not_true, Bool.not_false, true_and, and_true, and_self, false_and, and_false, List.length_map, fMax3, maxI]
    congr 3
    split <;> split <;> omega
  have hrt := lean_ex ((List.range (max (max p.length q.length) f.length)).map (CC p q f)) S (by rw [List.length_map, List.length_range]; omega)
  refine funD_rt (sq_nx (new_i (ds := []) (S1 := S) (by simp only [funD, finF, fin, sNil, sSeq, sEx, sRet, sRetN, sAsg, sNew, sIf, sAsgT, sPar, sFrz, sRetC, sNever, sBrk, sCont, sFor, eVar, eC, eBin, eUn, eTest, eAnd, eOr, eNot, eIf, eChain, eNil, eCons, eCall, eSl, eoN, eoS, eApp, eExt, ePop, sSet, itV, itR1, itR2, itEn, itZ, eLc, asB, clo, fTup, fLst, fAddL, fMulL, fI, fAdd, fSub, fMul, fDiv, fMod, fPow, fNeg, fLt, fLe, fGt, fGe, fEq, fNe, fIx, fIsN, fNotN, Pd.isNon, fLen, fAbs, fInt, fTuple, fList, fSum, fAll, fAny, fMax2, fMin2, isiD, fIsi, fSl, fRev, fSorted, fRepr, rd, R.bind, R.fl, F.lp, noX, tYesD, lcY, tgN, tgsNil, tgsCons, tgT, wipeE, keepB, List.map_cons, List.map_nil, List.replicate_succ, List.replicate_zero, List.cons_append, List.nil_append, List.append_nil, List.length_cons, List.length_nil, List.length_append, List.getElem?_cons_zero, List.getElem?_cons_succ, List.getElem?_nil, List.set_cons_zero, List.set_cons_succ, List.take_zero, List.take_succ_cons, List.take_nil, Option.map_some, Option.map_none, Option.bind_some, Option.bind_none, Nat.zero_add, Nat.add_zero, Nat.reduceAdd, Nat.reduceLeDiff, Nat.reduceSub, Nat.reduceEqDiff, Int.reduceLT, Int.reduceLE, Int.reduceEq, Int.reduceNeg, Int.reduceAdd, Int.reduceSub, Int.reduceMul, decide_true, decide_false, ↓reduceIte, decide_eq_true_eq, Bool.not_eq_true', decide_eq_false_iff_not, Bool.false_eq_true, Bool.true_eq_false, Bool.not_true, Bool.not_false, true_and, and_true, and_self, false_and, and_false, cap])) (sq_nx (for_i hit e) (sq_nx (frz_last rfl) (ret_i (c2 (S1 := S) (S2 := S) (x := tI (mkS (CC p q f) (max (max p.length q.length) f.length))) (y := .d (.int (cnt p q f))) (c1 (S1 := S) rfl hrt) (b2 (S1 := S) (S2 := S) (c2 rfl rfl (number_ex f 0 S)) (b2 (S1 := S) (S2 := S) (c2 rfl rfl (number_ex p 0 S)) (c2 rfl rfl (number_ex q 0 S)) rfl) rfl) ?_))))) rfl
  simp only [funD, finF, fin, sNil, sSeq, sEx, sRet, sRetN, sAsg, sNew, sIf, sAsgT, sPar, sFrz, sRetC, sNever, sBrk, sCont, sFor, eVar, eC, eBin, eUn, eTest, eAnd, eOr, eNot, eIf, eChain, eNil, eCons, eCall, eSl, eoN, eoS, eApp, eExt, ePop, sSet, itV, itR1, itR2, itEn, itZ, eLc, asB, clo, fTup, fLst, fAddL, fMulL, fI, fAdd, fSub, fMul, fDiv, fMod, fPow, fNeg, fLt, fLe, fGt, fGe, fEq, fNe, fIx, fIsN, fNotN, Pd.isNon, fLen, fAbs, fInt, fTuple, fList, fSum, fAll, fAny, fMax2, fMin2, isiD, fIsi, fSl, fRev, fSorted, fRepr, rd, R.bind, R.fl, F.lp, noX, tYesD, lcY, tgN, tgsNil, tgsCons, tgT, wipeE, keepB, List.map_cons, List.map_nil, List.replicate_succ, List.replicate_zero, List.cons_append, List.nil_append, List.append_nil, List.length_cons, List.length_nil, List.length_append, List.getElem?_cons_zero, List.getElem?_cons_succ, List.getElem?_nil, List.set_cons_zero, List.set_cons_succ, List.take_zero, List.take_succ_cons, List.take_nil, Option.map_some, Option.map_none, Option.bind_some, Option.bind_none, Nat.zero_add, Nat.add_zero, Nat.reduceAdd, Nat.reduceLeDiff, Nat.reduceSub, Nat.reduceEqDiff, Int.reduceLT, Int.reduceLE, Int.reduceEq, Int.reduceNeg, Int.reduceAdd, Int.reduceSub, Int.reduceMul, decide_true, decide_false, ↓reduceIte, decide_eq_true_eq, Bool.not_eq_true', decide_eq_false_iff_not, Bool.false_eq_true, Bool.true_eq_false, Bool.not_true, Bool.not_false, true_and, and_true, and_self, false_and, and_false, cap]
theorem corner_back_ex (p q f : List Int) (S : Store) (hp : OkS p) (hq : OkS q) (hf : OkS f) (s1 : Strip f p) (s2 : Strip f q) : d_corner_back [tI p, tI q, tI f] S = .ok (.d (.tup [.tup ((corn p q f).map .int), .int (cnt p q f)])) S := by
  have e := corner_in_ex p q f S hp.len hq.len hf.len
  have l1 := hp.len; have l2 := hq.len; have l3 := hf.len
  have m : mkS (CC p q f) (max (max p.length q.length) f.length) = corn p q f := (mkS_more (by omega) fun i hi => CC_zero (m := max p.length q.length) hf.sh s1 s2 (by omega) (by omega) (by omega)).symm
  rw [m] at e
  have t1 : strB f p = true := (strB_iff hf.sh.p0 hp.sh.p0).mpr s1
  have t2 : strB f q = true := (strB_iff hf.sh.p0 hq.sh.p0).mpr s2
  have x1 := strip_ex f p S (by omega) (by omega)
  have x2 := strip_ex f q S (by omega) (by omega)
  rw [t1] at x1
  rw [t2] at x2
  exact funD_rt (sq_nx (ex_i (call_shapes _ _ _ _ S p q f rfl rfl rfl hp hq hf)) (sq_nx (if_f (tor_f (not_i (c2 rfl rfl x1)) (not_i (c2 rfl rfl x2))) rfl) (ret_i (c3 rfl rfl rfl e)))) rfl
theorem ones_ne (l : List Nat) (S : Store) : fNe (.d (.lst (l.map fun _ => .int 1))) (.d (.lst [])) S = .ok (.d (.bl (!decide (l = [])))) S := by
  have f1 : fit 60 (.lst (l.map fun _ => .int 1)) = true := by
    have := fit_ints 59 (l.map fun _ => 1)
    rw [List.map_map] at this
    exact this
  have f2 : fit 60 (.lst []) = true := fit_ints 59 []
  simp only [fNe, rd, f1, f2, and_self, if_true]
  cases l <;> simp [D.eqv, eqvL]
theorem ones_eq (l : List Nat) (S : Store) : fEq (.d (.lst (l.map fun _ => .int 1))) (.d (.lst [])) S = .ok (.d (.bl (decide (l = [])))) S := by
  have f1 : fit 60 (.lst (l.map fun _ => .int 1)) = true := by
    have := fit_ints 59 (l.map fun _ => 1)
    rw [List.map_map] at this
    exact this
  have f2 : fit 60 (.lst []) = true := fit_ints 59 []
  simp only [fEq, rd, f1, f2, and_self, if_true]
  cases l <;> simp [D.eqv, eqvL]
theorem lstrip_ex (o i : List Int) (S : Store) (h : o.length ≤ 8) (h2 : i.length ≤ 8) (ho : ∀ x ∈ o, 0 ≤ x) (hi : ∀ x ∈ i, 0 ≤ x) : d__law_is_strip [tI o, tI i] S = .ok (.d (.bl (strB o i))) S := by
  have hA : eLc (itV (eVar 2)) [3] (tgN 3) (eTest (eBin fGt (eCall d__law_number (eCons (eVar 1) (eCons (eVar 3) eNil))) (eCall d__law_number (eCons (eVar 0) (eCons (eVar 3) eNil))))) (eC (.int 1)) [some (tI o), some (tI i), some (.d (.lst (upto 8))), none] S = .ok (.d (.lst (((List.range 8).filter fun k => decide (nu o k < nu i k)).map fun _ => .int 1))) S :=
    lc_i (S1 := S) rfl (by rw [upto_len]; decide) (lcD_filter (List.range 8) (fun k => .int (k : Nat)) _ _ fun k hk => ⟨[some (tI o), some (tI i), some (.d (.lst (upto 8))), some (.d (.int (k : Nat)))], rfl, t_i (b2 (c2 rfl rfl (lnumber_ex i k S)) (c2 rfl rfl (lnumber_ex o k S)) rfl), fun _ => rfl⟩)
  have hB : eLc (itV (eVar 2)) [3] (tgN 3) (eTest (eBin fGt (eCall d__law_number (eCons (eVar 0) (eCons (eBin fAdd (eVar 3) (eC (.int 1))) eNil))) (eCall d__law_number (eCons (eVar 1) (eCons (eVar 3) eNil))))) (eC (.int 1)) [some (tI o), some (tI i), some (.d (.lst (upto 8))), none] S = .ok (.d (.lst (((List.range 8).filter fun k => decide (nu i k < nu o (k + 1))).map fun _ => .int 1))) S :=
    lc_i (S1 := S) rfl (by rw [upto_len]; decide) (lcD_filter (List.range 8) (fun k => .int (k : Nat)) _ _ fun k hk => ⟨[some (tI o), some (tI i), some (.d (.lst (upto 8))), some (.d (.int (k : Nat)))], rfl, t_i (b2 (c2 rfl (y := .d (.int ((k + 1 : Nat) : Int))) rfl (lnumber_ex o (k + 1) S)) (c2 rfl rfl (lnumber_ex i k S)) rfl), fun _ => rfl⟩)
  have nilE : ∀ Γ, eCall fLst eNil Γ S = .ok (.d (.lst [])) S := fun Γ => by simp only [funD, finF, fin, sNil, sSeq, sEx, sRet, sRetN, sAsg, sNew, sIf, sAsgT, sPar, sFrz, sRetC, sNever, sBrk, sCont, sFor, eVar, eC, eBin, eUn, eTest, eAnd, eOr, eNot, eIf, eChain, eNil, eCons, eCall, eSl, eoN, eoS, eApp, eExt, ePop, sSet, itV, itR1, itR2, itEn, itZ, eLc, asB, clo, fTup, fLst, fAddL, fMulL, fI, fAdd, fSub, fMul, fDiv, fMod, fPow, fNeg, fLt, fLe, fGt, fGe, fEq, fNe, fIx, fIsN, fNotN, Pd.isNon, fLen, fAbs, fInt, fTuple, fList, fSum, fAll, fAny, fMax2, fMin2, isiD, fIsi, fSl, fRev, fSorted, fRepr, rd, R.bind, R.fl, F.lp, noX, tYesD, lcY, tgN, tgsNil, tgsCons, tgT, wipeE, keepB, List.map_cons, List.map_nil, List.replicate_succ, List.replicate_zero, List.cons_append, List.nil_append, List.append_nil, List.length_cons, List.length_nil, List.length_append, List.getElem?_cons_zero, List.getElem?_cons_succ, List.getElem?_nil, List.set_cons_zero, List.set_cons_succ, List.take_zero, List.take_succ_cons, List.take_nil, Option.map_some, Option.map_none, Option.bind_some, Option.bind_none, Nat.zero_add, Nat.add_zero, Nat.reduceAdd, Nat.reduceLeDiff, Nat.reduceSub, Nat.reduceEqDiff, Int.reduceLT, Int.reduceLE, Int.reduceEq, Int.reduceNeg, Int.reduceAdd, Int.reduceSub, Int.reduceMul, decide_true, decide_false, ↓reduceIte, decide_eq_true_eq, Bool.not_eq_true', decide_eq_false_iff_not, Bool.false_eq_true, Bool.true_eq_false, Bool.not_true, Bool.not_false, true_and, and_true, and_self, false_and, and_false, cap]
  have key : strB o i = (decide (((List.range 8).filter fun k => decide (nu o k < nu i k)) = []) && decide (((List.range 8).filter fun k => decide (nu i k < nu o (k + 1))) = [])) := by
    rw [Bool.eq_iff_iff, strB_iff ho hi, Bool.and_eq_true, decide_eq_true_iff, decide_eq_true_iff, List.filter_eq_nil_iff, List.filter_eq_nil_iff]
    simp only [List.mem_range, decide_eq_true_eq, Int.not_lt]
    constructor
    · exact fun s => ⟨fun k _ => (s k).1, fun k _ => (s k).2⟩
    · intro ⟨a, b⟩ k
      by_cases hk : k < 8
      · exact ⟨a k hk, b k hk⟩
      · rw [nu_ge (ns := i) (i := k) (by omega), nu_ge (ns := o) (i := k + 1) (by omega)]
        exact ⟨nu_nn ho k, Int.le_refl _⟩
  have h0 : (eUn fLR1 (eC (.int 8))) [some (tI o), some (tI i), none, none] S = .ok (.d (.lst (upto 8))) S := by
    simp only [funD, finF, fin, sNil, sSeq, sEx, sRet, sRetN, sAsg, sNew, sIf, sAsgT, sPar, sFrz, sRetC, sNever, sBrk, sCont, sFor, eVar, eC, eBin, eUn, eTest, eAnd, eOr, eNot, eIf, eChain, eNil, eCons, eCall, eSl, eoN, eoS, eApp, eExt, ePop, sSet, itV, itR1, itR2, itEn, itZ, eLc, asB, clo, fTup, fLst, fAddL, fMulL, fI, fAdd, fSub, fMul, fDiv, fMod, fPow, fNeg, fLt, fLe, fGt, fGe, fEq, fNe, fIx, fIsN, fNotN, Pd.isNon, fLen, fAbs, fInt, fTuple, fList, fSum, fAll, fAny, fMax2, fMin2, isiD, fIsi, fSl, fRev, fSorted, fRepr, rd, R.bind, R.fl, F.lp, noX, tYesD, lcY, tgN, tgsNil, tgsCons, tgT, wipeE, keepB, List.map_cons, List.map_nil, List.replicate_succ, List.replicate_zero, List.cons_append, List.nil_append, List.append_nil, List.length_cons, List.length_nil, List.length_append, List.getElem?_cons_zero, List.getElem?_cons_succ, List.getElem?_nil, List.set_cons_zero, List.set_cons_succ, List.take_zero, List.take_succ_cons, List.take_nil, Option.map_some, Option.map_none, Option.bind_some, Option.bind_none, Nat.zero_add, Nat.add_zero, Nat.reduceAdd, Nat.reduceLeDiff, Nat.reduceSub, Nat.reduceEqDiff, Int.reduceLT, Int.reduceLE, Int.reduceEq, Int.reduceNeg, Int.reduceAdd, Int.reduceSub, Int.reduceMul, decide_true, decide_false, ↓reduceIte, decide_eq_true_eq, Bool.not_eq_true', decide_eq_false_iff_not, Bool.false_eq_true, Bool.true_eq_false, Bool.not_true, Bool.not_false, true_and, and_true, and_self, false_and, and_false, fLR1, cap]
    rfl
  have e1 := b2 (f := eCall fLst eNil) hA (nilE _) (ones_ne _ S)
  have e2 := b2 (f := eCall fLst eNil) hB (nilE _) (ones_eq _ S)
  rw [key]
  cases q : decide (((List.range 8).filter fun k => decide (nu o k < nu i k)) = []) with
  | false =>
    rw [q] at e1
    exact funD_rt (sq_nx (asg_i h0) (sq_rt (if_t (t_i e1) rfl))) rfl
  | true =>
    rw [q] at e1
    rw [Bool.true_and]
    exact funD_rt (sq_nx (asg_i h0) (sq_nx (if_f (t_i e1) rfl) (ret_i e2))) rfl
end L22

namespace L22
open PySem L2 Pd
theorem sh_of_pw {ns : List Int} (hp : ∀ x ∈ ns, 0 < x) (h : ns.Pairwise (· ≥ ·)) : Sh ns := ⟨hp, fun i => by
  by_cases hi : i + 1 < ns.length
  · rw [nu_lt hi, nu_lt (by omega)]
    exact List.pairwise_iff_getElem.mp h i (i + 1) (by omega) hi (by omega)
  · rw [nu_ge (by omega)]
    exact nu_nn (fun x hx => Int.le_of_lt (hp x hx)) i⟩
theorem sorted_rev {ns : List Int} (hp : ∀ x ∈ ns, 0 < x) : Sh (ns.mergeSort (fun a b => decide (a ≤ b))).reverse := by
  refine sh_of_pw (fun x hx => hp x (List.mem_mergeSort.mp (List.mem_reverse.mp hx))) ?_
  rw [List.pairwise_reverse]
  have h1 : (ns.mergeSort (fun a b => decide (a ≤ b))).Pairwise (fun a b => decide (a ≤ b) = true) := List.pairwise_mergeSort (by intro a b c h1 h2; simp only [decide_eq_true_eq] at *; omega) (by intro a b; simp only [Bool.or_eq_true, decide_eq_true_eq]; omega) ns
  exact h1.imp fun h => of_decide_eq_true h
theorem law_shape_ex (a b c : Int) (S : Store) (most : Nat) (size : Int) (hm : most ≤ 100) (h0 : 0 < size) (h1 : size ≤ 10 ^ 60) : ∃ ns a' c', Sh ns ∧ ns.length ≤ most ∧ nu ns 0 ≤ size ∧
    d__law_shape [.cell 0, .d (.int most), .d (.int size)] (dice a b c :: S) = .ok (tI ns) (dice a' b c' :: S) := by
  obtain ⟨v, a1, z1, v0, v1, e1⟩ := roll_ex a b c ((most : Int) + 1) S (by omega) (divOk_l (by omega) (by omega))
  obtain ⟨m, rfl⟩ : ∃ n : Nat, v = n := ⟨v.toNat, by omega⟩
  obtain ⟨ds, S', e, e2, e3, ⟨a', c', rfl⟩⟩ := lcD_st (tg := tgN 4) (elt := eBin fAdd (eC (.int 1)) (eCall d__law_far (eCons (eVar 0) (eCons (eVar 2) eNil))))
    (Γ := [some (.cell 0), some (.d (.int most)), some (.d (.int size)), none, none]) (List.range m) (fun i => .int (i : Nat)) (fun d => ∃ x, d = .int x ∧ (0 < x ∧ x ≤ size)) (fun S' => ∃ a c, S' = dice a b c :: S) (dice a1 b z1 :: S) ⟨_, _, rfl⟩ (by
      rintro i hi S' ⟨a, c, rfl⟩
      obtain ⟨v, a1, z1, v0, v1, e1⟩ := far_ex a b c size S h0 (by omega)
      exact ⟨_, rfl, .int (1 + v), _, b2 rfl (c2 rfl rfl e1) rfl, ⟨_, rfl, by omega⟩, ⟨_, _, rfl⟩⟩)
  obtain ⟨ns, rfl, q⟩ := ints_of e3
  have hl : ns.length ≤ most := by
    rw [List.length_map, List.length_range] at e2
    omega
  refine ⟨(ns.mergeSort (fun a b => decide (a ≤ b))).reverse, a', c', sorted_rev fun x hx => (q x hx).1, by rw [List.length_reverse, List.length_mergeSort]; exact hl, ?_, ?_⟩
  · by_cases hz : 0 < ((ns.mergeSort (fun a b => decide (a ≤ b))).reverse).length
    · rw [nu_lt hz]
      have := List.getElem_mem hz
      exact (q _ (List.mem_mergeSort.mp (List.mem_reverse.mp this))).2
    · rw [nu_ge (by omega)]; omega
  · refine funD_rt (sq_nx (asg_i (x := .d (.lst ((ns.mergeSort (fun a b => decide (a ≤ b))).map .int))) (u1 (lc_i (S1 := dice a1 b z1 :: S) (ds := upto m) (itR1_i (c2 (y := .d (.int ((most : Int) + 1))) rfl rfl e1) rfl (by omega)) (by rw [upto_len]; have ec : cap = 1000000 := rfl; omega) e) ?_)) (ret_i (u1 (S1 := dice a' b c' :: S) (u1 (S1 := dice a' b c' :: S) rfl rfl) ?_))) rfl
    · simp only [fSorted, rd, asInts_map]
    · simp only [fTuple, rd, List.map_reverse]
theorem nu_app0 (ns : List Int) (k : Nat) : nu (ns ++ [0]) k = nu ns k := by
  by_cases h : k < ns.length
  · unfold nu; rw [List.getElem?_append_left h]
  · rw [nu_ge (ns := ns) (by omega)]
    unfold nu
    rw [List.getElem?_append_right (by omega)]
    cases q : k - ns.length with
    | zero => rfl
    | succ j => simp
theorem range_nu (fs : List Int) : (List.range fs.length).map (nu fs) = fs := by
  apply List.ext_getElem?
  intro k
  rw [List.getElem?_map]
  by_cases h : k < fs.length
  · rw [List.getElem?_range h, List.getElem?_eq_getElem h, Option.map_some, nu_lt h]
  · rw [List.getElem?_eq_none (by simpa using h), List.getElem?_eq_none (by omega)]
    rfl
abbrev widBody : Sv := sSeq (sAsg 6 (eIf (eBin fEq (eVar 4) (eC (.int 0))) (eVar 2) (eBin fAdd (eBin fSub (eBin fIx (eVar 1) (eBin fSub (eVar 4) (eC (.int 1)))) (eVar 5)) (eC (.int 1))))) (sEx (eApp (eVar 3) (eBin fAdd (eVar 5) (eCall d__law_far (eCons (eVar 0) (eCons (eVar 6) eNil))))))
/-- widened: a strip more -/
theorem wider_ex (a b c : Int) (ns : List Int) (more : Int) (h : Sh ns) (hl : ns.length ≤ 8) (hb : nu ns 0 ≤ 10 ^ 58) (h0 : 0 < more) (h1 : more ≤ 10 ^ 58) : ∃ ms a' c', Sh ms ∧ ms.length ≤ ns.length + 1 ∧ Strip ms ns ∧ nu ms 0 < nu ns 0 + more ∧
    d__law_wider [.cell 0, tI ns, .d (.int more)] [dice a b c] = .ok (tI ms) [dice a' b c'] := by
  obtain ⟨Γ', S', e, ⟨o4, o5, o6, fs, a', c', rfl, rfl, hlen, hP⟩⟩ := forD_inv (tg := tgT (tgsCons (tgN 4) (tgsCons (tgN 5) tgsNil))) (body := widBody) ((List.range (ns ++ [0]).length).map fun k => D.tup [.int (k : Nat), .int (nu (ns ++ [0]) k)])
    (fun i Γ S' => ∃ o4 o5 o6 fs a c, Γ = [some (.cell 0), some (tI ns), some (.d (.int more)), some (.cell 1), o4, o5, o6] ∧ S' = [dice a b c] ++ [some (.lst (fs.map .int))] ∧ fs.length = i ∧ ∀ k, k < i → nu ns k ≤ nu fs k ∧ (k = 0 → nu fs 0 < nu ns 0 + more) ∧ (∀ j, k = j + 1 → nu fs k ≤ nu ns j))
    (Γ := [some (.cell 0), some (tI ns), some (.d (.int more)), some (.cell 1), none, none, none]) (S := [dice a b c] ++ [some (.lst [])]) ⟨none, none, none, [], a, c, rfl, rfl, rfl, fun k hk => absurd hk (by omega)⟩ (by
      rintro i x Γ S' hx ⟨o4, o5, o6, fs, a, c, rfl, rfl, hlen, hP⟩
      rw [List.getElem?_map] at hx
      by_cases hi : i < (ns ++ [0]).length
      · rw [List.getElem?_range hi, Option.map_some, nu_app0] at hx
        cases hx
        have hi' : i < ns.length + 1 := by simpa using hi
        have fin : ∀ (room : Int), 0 < room → room ≤ 10 ^ 60 → (∀ v, 0 ≤ v → v < room → (i = 0 → nu ns i + v < nu ns 0 + more) ∧ (∀ j, i = j + 1 → nu ns i + v ≤ nu ns j)) →
            eIf (eBin fEq (eVar 4) (eC (.int 0))) (eVar 2) (eBin fAdd (eBin fSub (eBin fIx (eVar 1) (eBin fSub (eVar 4) (eC (.int 1)))) (eVar 5)) (eC (.int 1))) [some (.cell 0), some (tI ns), some (.d (.int more)), some (.cell 1), some (.d (.int (i : Nat))), some (.d (.int (nu ns i))), o6] ([dice a b c] ++ [some (.lst (fs.map .int))]) = .ok (.d (.int room)) ([dice a b c] ++ [some (.lst (fs.map .int))]) →
            ∃ Γ2 S2, (widBody [some (.cell 0), some (tI ns), some (.d (.int more)), some (.cell 1), some (.d (.int (i : Nat))), some (.d (.int (nu ns i))), o6] ([dice a b c] ++ [some (.lst (fs.map .int))]) = .nx Γ2 S2) ∧ ∃ o4 o5 o6 fs a c, Γ2 = [some (.cell 0), some (tI ns), some (.d (.int more)), some (.cell 1), o4, o5, o6] ∧ S2 = [dice a b c] ++ [some (.lst (fs.map .int))] ∧ fs.length = i + 1 ∧ ∀ k, k < i + 1 → nu ns k ≤ nu fs k ∧ (k = 0 → nu fs 0 < nu ns 0 + more) ∧ (∀ j, k = j + 1 → nu fs k ≤ nu ns j) := by
          intro room r0 r1 hv he
          obtain ⟨v, a1, z1, v0, v1, e1⟩ := far_ex a b c room [some (.lst (fs.map .int))] r0 (by omega)
          obtain ⟨k1, k2⟩ := hv v v0 v1
          refine ⟨_, _, sq_nx (asg_i he) (ex_i (app_last (S := [dice a b c]) (S' := [dice a1 b z1]) (d := .int (nu ns i + v)) rfl (b2 rfl (c2 rfl rfl e1) rfl) rfl (by rw [List.length_map]; omega))), some (.d (.int (i : Nat))), some (.d (.int (nu ns i))), some (.d (.int room)), fs ++ [nu ns i + v], a1, z1, rfl, by rw [List.map_append]; rfl, by rw [List.length_append, hlen]; rfl, fun k hk => ?_⟩
          by_cases hki : k < i
          · have e0 : nu (fs ++ [nu ns i + v]) k = nu fs k := by unfold nu; rw [List.getElem?_append_left (by omega)]
            have := hP k hki
            rw [e0]
            refine ⟨this.1, fun hz => ?_, this.2.2⟩
            have t := this.2.1 hz
            subst hz
            rw [e0]
            exact t
          · obtain rfl : k = i := by omega
            have e0 : nu (fs ++ [nu ns k + v]) k = nu ns k + v := by unfold nu; rw [List.getElem?_append_right (by omega), hlen, Nat.sub_self]; rfl
            rw [e0]
            refine ⟨by omega, fun hz => ?_, fun j hj => k2 j hj⟩
            have t := k1 hz
            subst hz
            rw [e0]
            exact t
        have main : ∃ Γ2 S2, (widBody [some (.cell 0), some (tI ns), some (.d (.int more)), some (.cell 1), some (.d (.int (i : Nat))), some (.d (.int (nu ns i))), o6] ([dice a b c] ++ [some (.lst (fs.map .int))]) = .nx Γ2 S2) ∧ ∃ o4 o5 o6 fs a c, Γ2 = [some (.cell 0), some (tI ns), some (.d (.int more)), some (.cell 1), o4, o5, o6] ∧ S2 = [dice a b c] ++ [some (.lst (fs.map .int))] ∧ fs.length = i + 1 ∧ ∀ k, k < i + 1 → nu ns k ≤ nu fs k ∧ (k = 0 → nu fs 0 < nu ns 0 + more) ∧ (∀ j, k = j + 1 → nu fs k ≤ nu ns j) := by
          generalize hT : [dice a b c] ++ [some (.lst (fs.map .int))] = T at fin ⊢
          cases i with
          | zero =>
            refine fin more h0 (by omega) (fun v v0 v1 => ⟨fun _ => by omega, fun j hj => by omega⟩) ?_
            simp only [funD, finF, fin, sNil, sSeq, sEx, sRet, sRetN, sAsg, sNew, sIf, sAsgT, sPar, sFrz, sRetC, sNever, sBrk, sCont, sFor, eVar, eC, eBin, eUn, eTest, eAnd, eOr, eNot, eIf, eChain, eNil, eCons, eCall, eSl, eoN, eoS, eApp, eExt, ePop, sSet, itV, itR1, itR2, itEn, itZ, eLc, asB, clo, fTup, fLst, fAddL, fMulL, fI, fAdd, fSub, fMul, fDiv, fMod, fPow, fNeg, fLt, fLe, fGt, fGe, fEq, fNe, fIx, fIsN, fNotN, Pd.isNon, fLen, fAbs, fInt, fTuple, fList, fSum, fAll, fAny, fMax2, fMin2, isiD, fIsi, fSl, fRev, fSorted, fRepr, rd, R.bind, R.fl, F.lp, noX, tYesD, lcY, tgN, tgsNil, tgsCons, tgT, wipeE, keepB, List.map_cons, List.map_nil, List.replicate_succ, List.replicate_zero, List.cons_append, List.nil_append, List.append_nil, List.length_cons, List.length_nil, List.length_append, List.getElem?_cons_zero, List.getElem?_cons_succ, List.getElem?_nil, List.set_cons_zero, List.set_cons_succ, List.take_zero, List.take_succ_cons, List.take_nil, Option.map_some, Option.map_none, Option.bind_some, Option.bind_none, Nat.zero_add, Nat.add_zero, Nat.reduceAdd, Nat.reduceLeDiff, Nat.reduceSub, Nat.reduceEqDiff, Int.reduceLT, Int.reduceLE, Int.reduceEq, Int.reduceNeg, Int.reduceAdd, Int.reduceSub, Int.reduceMul, decide_true, decide_false, ↓reduceIte, decide_eq_true_eq, Bool.not_eq_true', decide_eq_false_iff_not, Bool.false_eq_true, Bool.true_eq_false, Bool.not_true, Bool.not_false, true_and, and_true, and_self, false_and, and_false, fit_int, D.eqv]
            simp
          | succ i =>
            have hd := h.dec i
            have h2 := h.le0 i
            have h3 := h.nn (i + 1)
            refine fin (nu ns i - nu ns (i + 1) + 1) (by omega) (by omega) (fun v v0 v1 => ⟨fun z => by omega, fun j hj => by
              obtain rfl : j = i := by omega
              omega⟩) ?_
            have e2 : ((i + 1 : Nat) : Int) - 1 = (i : Nat) := by omega
            have e3 : ¬ ((i + 1 : Nat) : Int) = 0 := by omega
            have e4 : (((i + 1 : Nat) : Int) == 0) = false := by simpa using e3
            simp only [funD, finF, fin, sNil, sSeq, sEx, sRet, sRetN, sAsg, sNew, sIf, sAsgT, sPar, sFrz, sRetC, sNever, sBrk, sCont, sFor, eVar, eC, eBin, eUn, eTest, eAnd, eOr, eNot, eIf, eChain, eNil, eCons, eCall, eSl, eoN, eoS, eApp, eExt, ePop, sSet, itV, itR1, itR2, itEn, itZ, eLc, asB, clo, fTup, fLst, fAddL, fMulL, fI, fAdd, fSub, fMul, fDiv, fMod, fPow, fNeg, fLt, fLe, fGt, fGe, fEq, fNe, fIx, fIsN, fNotN, Pd.isNon, fLen, fAbs, fInt, fTuple, fList, fSum, fAll, fAny, fMax2, fMin2, isiD, fIsi, fSl, fRev, fSorted, fRepr, rd, R.bind, R.fl, F.lp, noX, tYesD, lcY, tgN, tgsNil, tgsCons, tgT, wipeE, keepB, List.map_cons, List.map_nil, List.replicate_succ, List.replicate_zero, List.cons_append, List.nil_append, List.append_nil, List.length_cons, List.length_nil, List.length_append, List.getElem?_cons_zero, List.getElem?_cons_succ, List.getElem?_nil, List.set_cons_zero, List.set_cons_succ, List.take_zero, List.take_succ_cons, List.take_nil, Option.map_some, Option.map_none, Option.bind_some, Option.bind_none, Nat.zero_add, Nat.add_zero, Nat.reduceAdd, Nat.reduceLeDiff, Nat.reduceSub, Nat.reduceEqDiff, Int.reduceLT, Int.reduceLE, Int.reduceEq, Int.reduceNeg, Int.reduceAdd, Int.reduceSub, Int.reduceMul, decide_true, decide_false, ↓reduceIte, decide_eq_true_eq, Bool.not_eq_true', decide_eq_false_iff_not, Bool.false_eq_true, Bool.true_eq_false, Bool.not_true, Bool.not_false, true_and, and_true, and_self, false_and, and_false, fit_int, D.eqv, e4, e2, get_int ns i (by omega)]
        obtain ⟨Γ2, S2, m1, m2⟩ := main
        exact ⟨_, rfl, Γ2, S2, .inl m1, m2⟩
      · rw [List.getElem?_eq_none (by simpa using hi)] at hx
        cases hx)
  rw [List.length_map, List.length_range] at hlen hP
  have hlen' : fs.length = ns.length + 1 := by rw [hlen]; simp
  have hP' : ∀ k, k < ns.length + 1 → nu ns k ≤ nu fs k ∧ (k = 0 → nu fs 0 < nu ns 0 + more) ∧ (∀ j, k = j + 1 → nu fs k ≤ nu ns j) := fun k hk => hP k (by simpa using hk)
  have g0 : ∀ i, 0 ≤ nu fs i := fun i => by
    by_cases hi : i < ns.length + 1
    · have := (hP' i hi).1
      have := h.nn i
      omega
    · rw [nu_ge (by omega)]; exact Int.le_refl _
  have up : ∀ i, nu fs (i + 1) ≤ nu ns i := fun i => by
    by_cases hi : i + 1 < ns.length + 1
    · exact (hP' (i + 1) hi).2.2 i rfl
    · rw [nu_ge (by omega)]; exact h.nn i
  have low : ∀ i, nu ns i ≤ nu fs i := fun i => by
    by_cases hi : i < ns.length + 1
    · exact (hP' i hi).1
    · rw [nu_ge (ns := ns) (by omega)]; exact g0 i
  have g1 : ∀ i, nu fs (i + 1) ≤ nu fs i := fun i => Int.le_trans (up i) (low i)
  have em : leanL fs = mkS (nu fs) fs.length := by unfold mkS; rw [range_nu]
  have nE : ∀ i, nu (leanL fs) i = nu fs i := fun i => by
    rw [em, mkS_nu _ _ g0 g1]
    by_cases hi : i < fs.length
    · rw [if_pos hi]
    · rw [if_neg hi, nu_ge (by omega)]
  refine ⟨leanL fs, a', c', by rw [em]; exact mkS_sh _ g0 g1, by rw [em, ← hlen']; exact mkS_len _ _, fun k => ⟨by rw [nE]; exact low k, by rw [nE]; exact up k⟩, by rw [nE]; exact (hP' 0 (by omega)).2.1 rfl, ?_⟩
  have hit : itEn (eBin fAdd (eVar 1) (eCall fTup (eCons (eC (.int 0)) eNil))) [some (.cell 0), some (tI ns), some (.d (.int more)), some (.cell 1), none, none, none] ([dice a b c] ++ [some (.lst [])]) = .ok ((List.range (ns ++ [0]).length).map fun k => D.tup [.int (k : Nat), .int (nu (ns ++ [0]) k)]) ([dice a b c] ++ [some (.lst [])]) := by
    generalize [dice a b c] ++ [some (.lst [])] = T
    have hc : ns.length + 1 ≤ 1000000 := by omega
    rw [← enum_ints]
    simp only [funD, finF, fin, sNil, sSeq, sEx, sRet, sRetN, sAsg, sNew, sIf, sAsgT, sPar, sFrz, sRetC, sNever, sBrk, sCont, sFor, eVar, eC, eBin, eUn, eTest, eAnd, eOr, eNot, eIf, eChain, eNil, eCons, eCall, eSl, eoN, eoS, eApp, eExt, ePop, sSet, itV, itR1, itR2, itEn, itZ, eLc, asB, clo, fTup, fLst, fAddL, fMulL, fI, fAdd, fSub, fMul, fDiv, fMod, fPow, fNeg, fLt, fLe, fGt, fGe, fEq, fNe, fIx, fIsN, fNotN, Pd.isNon, fLen, fAbs, fInt, fTuple, fList, fSum, fAll, fAny, fMax2, fMin2, isiD, fIsi, fSl, fRev, fSorted, fRepr, rd, R.bind, R.fl, F.lp, noX, tYesD, lcY, tgN, tgsNil, tgsCons, tgT, wipeE, keepB, List.map_cons, List.map_nil, List.replicate_succ, List.replicate_zero, List.cons_append, List.nil_append, List.append_nil, List.length_cons, List.length_nil, List.length_append, List.getElem?_cons_zero, List.getElem?_cons_succ, List.getElem?_nil, List.set_cons_zero, List.set_cons_succ, List.take_zero, List.take_succ_cons, List.take_nil, Option.map_some, Option.map_none, Option.bind_some, Option.bind_none, Nat.zero_add, Nat.add_zero, Nat.reduceAdd, Nat.reduceLeDiff, Nat.reduceSub, Nat.reduceEqDiff, Int.reduceLT, Int.reduceLE, Int.reduceEq, Int.reduceNeg, Int.reduceAdd, Int.reduceSub, Int.reduceMul, decide_true, decide_false, ↓reduceIte, decide_eq_true_eq, Bool.not_eq_true', decide_eq_false_iff_not, Bool.false_eq_true, Bool.true_eq_false, Bool.not_true, Bool.not_false, true_and, and_true, and_self, false_and, and_false, cap, List.length_map, hc, List.map_append]
  have hrt : ∀ (o0 o1 o2 o4 o5 o6 : Option Val), eUn fTuple (eLc (itV (eVar 3)) [5] (tgN 5) (eTest (eBin fGt (eVar 5) (eC (.int 0)))) (eVar 5)) [o0, o1, o2, some (.d (.lst (fs.map .int))), o4, o5, o6] [dice a' b c'] = .ok (tI (leanL fs)) [dice a' b c'] := fun _ _ _ _ _ _ => lean_lc _ 5 fs _ _ _ rfl (by omega) (by simp)
  exact funD_rt (sq_nx (new_i (ds := []) (S1 := [dice a b c]) (by simp only [funD, finF, fin, sNil, sSeq, sEx, sRet, sRetN, sAsg, sNew, sIf, sAsgT, sPar, sFrz, sRetC, sNever, sBrk, sCont, sFor, eVar, eC, eBin, eUn, eTest, eAnd, eOr, eNot, eIf, eChain, eNil, eCons, eCall, eSl, eoN, eoS, eApp, eExt, ePop, sSet, itV, itR1, itR2, itEn, itZ, eLc, asB, clo, fTup, fLst, fAddL, fMulL, fI, fAdd, fSub, fMul, fDiv, fMod, fPow, fNeg, fLt, fLe, fGt, fGe, fEq, fNe, fIx, fIsN, fNotN, Pd.isNon, fLen, fAbs, fInt, fTuple, fList, fSum, fAll, fAny, fMax2, fMin2, isiD, fIsi, fSl, fRev, fSorted, fRepr, rd, R.bind, R.fl, F.lp, noX, tYesD, lcY, tgN, tgsNil, tgsCons, tgT, wipeE, keepB, List.map_cons, List.map_nil, List.replicate_succ, List.replicate_zero, List.cons_append, List.nil_append, List.append_nil, List.length_cons, List.length_nil, List.length_append, List.getElem?_cons_zero, List.getElem?_cons_succ, List.getElem?_nil, List.set_cons_zero, List.set_cons_succ, List.take_zero, List.take_succ_cons, List.take_nil, Option.map_some, Option.map_none, Option.bind_some, Option.bind_none, Nat.zero_add, Nat.add_zero, Nat.reduceAdd, Nat.reduceLeDiff, Nat.reduceSub, Nat.reduceEqDiff, Int.reduceLT, Int.reduceLE, Int.reduceEq, Int.reduceNeg, Int.reduceAdd, Int.reduceSub, Int.reduceMul, decide_true, decide_false, ↓reduceIte, decide_eq_true_eq, Bool.not_eq_true', decide_eq_false_iff_not, Bool.false_eq_true, Bool.true_eq_false, Bool.not_true, Bool.not_false, true_and, and_true, and_self, false_and, and_false, cap])) (sq_nx (for_i hit e) (sq_nx (frz_last (S := [dice a' b c']) rfl) (ret_i (hrt _ _ _ _ _ _))))) rfl
end L22

namespace L22
open PySem L2 Pd
abbrev tW (n0 : Nat) : Sv := (sSeq (sAsg 7 (eLc (itR1 (eC (.int 6))) [9] (tgN 9) tYesD (eBin fMax2 (eCall d__law_number (eCons (eVar 11) (eCons (eVar 9) eNil))) (eCall d__law_number (eCons (eVar 12) (eCons (eVar 9) eNil)))))) (sSeq (sNew 8 (eCall fLst (eCons (eBin fAdd (eBin fIx (eVar 7) (eC (.int 0))) (eCall d__law_far (eCons (eVar 0) (eCons (eVar 1) eNil)))) eNil))) (sSeq (sFor (itR2 (eC (.int 1)) (eC (.int 6))) (tgN 9) (sSeq (sAsg 14 (eBin fSub (eBin fMin2 (eCall d__law_number (eCons (eVar 11) (eCons (eBin fSub (eVar 9) (eC (.int 1))) eNil))) (eCall d__law_number (eCons (eVar 12) (eCons (eBin fSub (eVar 9) (eC (.int 1))) eNil)))) (eBin fIx (eVar 7) (eVar 9)))) (sEx (eApp (eVar 8) (eBin fAdd (eBin fIx (eVar 7) (eVar 9)) (eIf (eBin fGt (eVar 14) (eC (.int 0))) (eCall d__law_far (eCons (eVar 0) (eCons (eBin fAdd (eVar 14) (eC (.int 1))) eNil))) (eC (.int 0)))))))) (sSeq (sFrz n0 8) (sSeq (sAsg 10 (eUn fTuple (eLc (itV (eVar 8)) [17] (tgN 17) (eTest (eBin fGt (eVar 17) (eC (.int 0)))) (eVar 17)))) (sSeq (sIf (eOr (eNot (eCall d__law_is_strip (eCons (eVar 10) (eCons (eVar 11) eNil)))) (eNot (eCall d__law_is_strip (eCons (eVar 10) (eCons (eVar 12) eNil))))) (sRet (eC (.bl true))) sNil) (sSeq (sAsgT (tgT (tgsCons (tgN 15) (tgsCons (tgN 16) tgsNil))) (eCall d_corner_back (eCons (eVar 11) (eCons (eVar 12) (eCons (eVar 10) eNil))))) (sSeq (sIf (eOr (eNot (eCall d__law_is_strip (eCons (eVar 11) (eCons (eVar 15) eNil)))) (eOr (eNot (eCall d__law_is_strip (eCons (eVar 12) (eCons (eVar 15) eNil)))) (eBin fLt (eVar 16) (eC (.int 0))))) (sRet (eC (.bl false))) sNil) (sRet (eAnd (eBin fEq (eCall d__law_fourth (eCons (eVar 15) (eCons (eVar 11) (eCons (eVar 12) (eCons (eVar 16) eNil))))) (eVar 10)) (eBin fEq (eCall d_fourth_shape (eCons (eVar 15) (eCons (eVar 11) (eCons (eVar 12) (eCons (eVar 16) eNil))))) (eVar 10))))))))))))
abbrev tH (n0 : Nat) : Sv := (sSeq (sIf (eBin fNotB (eCall d_is_square (eCons (eVar 2) (eCons (eVar 11) (eCons (eVar 12) (eCons (eBin fAdd (eVar 13) (eC (.int 1))) (eCons (eVar 3) eNil)))))) (eC (.bl false))) (sRet (eC (.bl false))) sNil) (sSeq (sAsg 5 (eCall d__law_wider (eCons (eVar 0) (eCons (eVar 3) (eCons (eVar 1) eNil))))) (sSeq (sAsg 6 (eAnd (eCall d__law_is_strip (eCons (eVar 11) (eCons (eVar 3) eNil))) (eAnd (eCall d__law_is_strip (eCons (eVar 12) (eCons (eVar 3) eNil))) (eBin fEq (eCall d__law_fourth (eCons (eVar 3) (eCons (eVar 11) (eCons (eVar 12) (eCons (eVar 13) eNil))))) (eVar 5))))) (sSeq (sIf (eBin fNe (eCall d_is_square (eCons (eVar 3) (eCons (eVar 11) (eCons (eVar 12) (eCons (eVar 13) (eCons (eVar 5) eNil)))))) (eVar 6)) (sRet (eC (.bl false))) sNil) (sSeq (sAsg 7 (eLc (itR1 (eC (.int 6))) [9] (tgN 9) tYesD (eBin fMax2 (eCall d__law_number (eCons (eVar 11) (eCons (eVar 9) eNil))) (eCall d__law_number (eCons (eVar 12) (eCons (eVar 9) eNil)))))) (sSeq (sNew 8 (eCall fLst (eCons (eBin fAdd (eBin fIx (eVar 7) (eC (.int 0))) (eCall d__law_far (eCons (eVar 0) (eCons (eVar 1) eNil)))) eNil))) (sSeq (sFor (itR2 (eC (.int 1)) (eC (.int 6))) (tgN 9) (sSeq (sAsg 14 (eBin fSub (eBin fMin2 (eCall d__law_number (eCons (eVar 11) (eCons (eBin fSub (eVar 9) (eC (.int 1))) eNil))) (eCall d__law_number (eCons (eVar 12) (eCons (eBin fSub (eVar 9) (eC (.int 1))) eNil)))) (eBin fIx (eVar 7) (eVar 9)))) (sEx (eApp (eVar 8) (eBin fAdd (eBin fIx (eVar 7) (eVar 9)) (eIf (eBin fGt (eVar 14) (eC (.int 0))) (eCall d__law_far (eCons (eVar 0) (eCons (eBin fAdd (eVar 14) (eC (.int 1))) eNil))) (eC (.int 0)))))))) (sSeq (sFrz n0 8) (sSeq (sAsg 10 (eUn fTuple (eLc (itV (eVar 8)) [17] (tgN 17) (eTest (eBin fGt (eVar 17) (eC (.int 0)))) (eVar 17)))) (sSeq (sIf (eOr (eNot (eCall d__law_is_strip (eCons (eVar 10) (eCons (eVar 11) eNil)))) (eNot (eCall d__law_is_strip (eCons (eVar 10) (eCons (eVar 12) eNil))))) (sRet (eC (.bl true))) sNil) (sSeq (sAsgT (tgT (tgsCons (tgN 15) (tgsCons (tgN 16) tgsNil))) (eCall d_corner_back (eCons (eVar 11) (eCons (eVar 12) (eCons (eVar 10) eNil))))) (sSeq (sIf (eOr (eNot (eCall d__law_is_strip (eCons (eVar 11) (eCons (eVar 15) eNil)))) (eOr (eNot (eCall d__law_is_strip (eCons (eVar 12) (eCons (eVar 15) eNil)))) (eBin fLt (eVar 16) (eC (.int 0))))) (sRet (eC (.bl false))) sNil) (sRet (eAnd (eBin fEq (eCall d__law_fourth (eCons (eVar 15) (eCons (eVar 11) (eCons (eVar 12) (eCons (eVar 16) eNil))))) (eVar 10)) (eBin fEq (eCall d_fourth_shape (eCons (eVar 15) (eCons (eVar 11) (eCons (eVar 12) (eCons (eVar 16) eNil))))) (eVar 10))))))))))))))))
abbrev tO : Sv := (sSeq (sAsg 10 (eUn fTuple (eLc (itV (eVar 8)) [17] (tgN 17) (eTest (eBin fGt (eVar 17) (eC (.int 0)))) (eVar 17)))) (sSeq (sIf (eOr (eNot (eCall d__law_is_strip (eCons (eVar 10) (eCons (eVar 11) eNil)))) (eNot (eCall d__law_is_strip (eCons (eVar 10) (eCons (eVar 12) eNil))))) (sRet (eC (.bl true))) sNil) (sSeq (sAsgT (tgT (tgsCons (tgN 15) (tgsCons (tgN 16) tgsNil))) (eCall d_corner_back (eCons (eVar 11) (eCons (eVar 12) (eCons (eVar 10) eNil))))) (sSeq (sIf (eOr (eNot (eCall d__law_is_strip (eCons (eVar 11) (eCons (eVar 15) eNil)))) (eOr (eNot (eCall d__law_is_strip (eCons (eVar 12) (eCons (eVar 15) eNil)))) (eBin fLt (eVar 16) (eC (.int 0))))) (sRet (eC (.bl false))) sNil) (sRet (eAnd (eBin fEq (eCall d__law_fourth (eCons (eVar 15) (eCons (eVar 11) (eCons (eVar 12) (eCons (eVar 16) eNil))))) (eVar 10)) (eBin fEq (eCall d_fourth_shape (eCons (eVar 15) (eCons (eVar 11) (eCons (eVar 12) (eCons (eVar 16) eNil))))) (eVar 10))))))))
abbrev bV : Sv := (sIf (eBin fNe (eCall d_is_square (eCons (eVar 2) (eCons (eVar 11) (eCons (eVar 12) (eCons (eVar 13) (eCons (eVar 4) eNil)))))) (eBin fEq (eVar 4) (eVar 3))) (sRet (eC (.bl false))) sNil)
abbrev bN : Sv := (sSeq (sAsg 14 (eBin fSub (eBin fMin2 (eCall d__law_number (eCons (eVar 11) (eCons (eBin fSub (eVar 9) (eC (.int 1))) eNil))) (eCall d__law_number (eCons (eVar 12) (eCons (eBin fSub (eVar 9) (eC (.int 1))) eNil)))) (eBin fIx (eVar 7) (eVar 9)))) (sEx (eApp (eVar 8) (eBin fAdd (eBin fIx (eVar 7) (eVar 9)) (eIf (eBin fGt (eVar 14) (eC (.int 0))) (eCall d__law_far (eCons (eVar 0) (eCons (eBin fAdd (eVar 14) (eC (.int 1))) eNil))) (eC (.int 0)))))))
abbrev vals : Ev := (eCall fTup (eCons (eIf (eBin fLt (eUn fLen (eVar 3)) (eC (.int 8))) (eBin fAdd (eVar 3) (eCall fTup (eCons (eC (.int 1)) eNil))) (eCall fTup eNil)) (eCons (eSl (eVar 3) eoN (eoS (eUn fNeg (eC (.int 1))))) (eCons (eBin fAdd (eCall fTup (eCons (eBin fAdd (eCall d__law_number (eCons (eVar 3) (eCons (eC (.int 0)) eNil))) (eC (.int 1))) eNil)) (eSl (eVar 3) (eoS (eC (.int 1))) eoN)) (eCons (eVar 11) (eCons (eVar 2) eNil))))))
abbrev tV (n0 : Nat) : Sv := (sSeq (sFor (itV (eCall fTup (eCons (eIf (eBin fLt (eUn fLen (eVar 3)) (eC (.int 8))) (eBin fAdd (eVar 3) (eCall fTup (eCons (eC (.int 1)) eNil))) (eCall fTup eNil)) (eCons (eSl (eVar 3) eoN (eoS (eUn fNeg (eC (.int 1))))) (eCons (eBin fAdd (eCall fTup (eCons (eBin fAdd (eCall d__law_number (eCons (eVar 3) (eCons (eC (.int 0)) eNil))) (eC (.int 1))) eNil)) (eSl (eVar 3) (eoS (eC (.int 1))) eoN)) (eCons (eVar 11) (eCons (eVar 2) eNil))))))) (tgN 4) (sIf (eBin fNe (eCall d_is_square (eCons (eVar 2) (eCons (eVar 11) (eCons (eVar 12) (eCons (eVar 13) (eCons (eVar 4) eNil)))))) (eBin fEq (eVar 4) (eVar 3))) (sRet (eC (.bl false))) sNil)) (sSeq (sIf (eBin fNotB (eCall d_is_square (eCons (eVar 2) (eCons (eVar 11) (eCons (eVar 12) (eCons (eBin fAdd (eVar 13) (eC (.int 1))) (eCons (eVar 3) eNil)))))) (eC (.bl false))) (sRet (eC (.bl false))) sNil) (sSeq (sAsg 5 (eCall d__law_wider (eCons (eVar 0) (eCons (eVar 3) (eCons (eVar 1) eNil))))) (sSeq (sAsg 6 (eAnd (eCall d__law_is_strip (eCons (eVar 11) (eCons (eVar 3) eNil))) (eAnd (eCall d__law_is_strip (eCons (eVar 12) (eCons (eVar 3) eNil))) (eBin fEq (eCall d__law_fourth (eCons (eVar 3) (eCons (eVar 11) (eCons (eVar 12) (eCons (eVar 13) eNil))))) (eVar 5))))) (sSeq (sIf (eBin fNe (eCall d_is_square (eCons (eVar 3) (eCons (eVar 11) (eCons (eVar 12) (eCons (eVar 13) (eCons (eVar 5) eNil)))))) (eVar 6)) (sRet (eC (.bl false))) sNil) (sSeq (sAsg 7 (eLc (itR1 (eC (.int 6))) [9] (tgN 9) tYesD (eBin fMax2 (eCall d__law_number (eCons (eVar 11) (eCons (eVar 9) eNil))) (eCall d__law_number (eCons (eVar 12) (eCons (eVar 9) eNil)))))) (sSeq (sNew 8 (eCall fLst (eCons (eBin fAdd (eBin fIx (eVar 7) (eC (.int 0))) (eCall d__law_far (eCons (eVar 0) (eCons (eVar 1) eNil)))) eNil))) (sSeq (sFor (itR2 (eC (.int 1)) (eC (.int 6))) (tgN 9) (sSeq (sAsg 14 (eBin fSub (eBin fMin2 (eCall d__law_number (eCons (eVar 11) (eCons (eBin fSub (eVar 9) (eC (.int 1))) eNil))) (eCall d__law_number (eCons (eVar 12) (eCons (eBin fSub (eVar 9) (eC (.int 1))) eNil)))) (eBin fIx (eVar 7) (eVar 9)))) (sEx (eApp (eVar 8) (eBin fAdd (eBin fIx (eVar 7) (eVar 9)) (eIf (eBin fGt (eVar 14) (eC (.int 0))) (eCall d__law_far (eCons (eVar 0) (eCons (eBin fAdd (eVar 14) (eC (.int 1))) eNil))) (eC (.int 0)))))))) (sSeq (sFrz n0 8) (sSeq (sAsg 10 (eUn fTuple (eLc (itV (eVar 8)) [17] (tgN 17) (eTest (eBin fGt (eVar 17) (eC (.int 0)))) (eVar 17)))) (sSeq (sIf (eOr (eNot (eCall d__law_is_strip (eCons (eVar 10) (eCons (eVar 11) eNil)))) (eNot (eCall d__law_is_strip (eCons (eVar 10) (eCons (eVar 12) eNil))))) (sRet (eC (.bl true))) sNil) (sSeq (sAsgT (tgT (tgsCons (tgN 15) (tgsCons (tgN 16) tgsNil))) (eCall d_corner_back (eCons (eVar 11) (eCons (eVar 12) (eCons (eVar 10) eNil))))) (sSeq (sIf (eOr (eNot (eCall d__law_is_strip (eCons (eVar 11) (eCons (eVar 15) eNil)))) (eOr (eNot (eCall d__law_is_strip (eCons (eVar 12) (eCons (eVar 15) eNil)))) (eBin fLt (eVar 16) (eC (.int 0))))) (sRet (eC (.bl false))) sNil) (sRet (eAnd (eBin fEq (eCall d__law_fourth (eCons (eVar 15) (eCons (eVar 11) (eCons (eVar 12) (eCons (eVar 16) eNil))))) (eVar 10)) (eBin fEq (eCall d_fourth_shape (eCons (eVar 15) (eCons (eVar 11) (eCons (eVar 12) (eCons (eVar 16) eNil))))) (eVar 10)))))))))))))))))
theorem eif_t {t a b : Ev} {Γ : Pd.Env} {S S1 : Store} {q : R Val} (h : eTest t Γ S = .ok true S1) (k : a Γ S1 = q) : eIf t a b Γ S = q := by unfold eIf; rw [h]; exact k
theorem eif_f {t a b : Ev} {Γ : Pd.Env} {S S1 : Store} {q : R Val} (h : eTest t Γ S = .ok false S1) (k : b Γ S1 = q) : eIf t a b Γ S = q := by unfold eIf; rw [h]; exact k
theorem asgT_i {tg : Tg} {e : Ev} {Γ Γ1 : Pd.Env} {S S1 : Store} {d : D} (h : e Γ S = .ok (.d d) S1) (k : tg d Γ = some Γ1) : sAsgT tg e Γ S = .nx Γ1 S1 := by
  unfold sAsgT
  rw [h]
  simp only [R.fl]
  rw [k]
theorem fit_pair (ns : List Int) (n : Int) : fit 60 (.tup [.tup (ns.map .int), .int n]) = true := by
  have := fit_intsT 58 ns
  unfold fit fitL fitL fitL
  rw [this, fit_int]
  rfl
theorem fNe_bl (a b : Bool) (S : Store) : fNe (.d (.bl a)) (.d (.bl b)) S = .ok (.d (.bl (!(a == b)))) S := by
  simp [fNe, rd, fit, D.eqv]
theorem fNe_int (a b : Int) (S : Store) : fNe (.d (.int a)) (.d (.int b)) S = .ok (.d (.bl (!(a == b)))) S := by
  simp [fNe, rd, fit_int, D.eqv]
abbrev en (size : Int) (c f : List Int) (o4 o5 o6 o7 o8 o9 o10 : Option Val) (p q : List Int) (n : Int) (o14 o15 o16 o17 : Option Val) : Pd.Env :=
  [some (.cell 0), some (.d (.int size)), some (tI c), some (tI f), o4, o5, o6, o7, o8, o9, o10, some (tI p), some (tI q), some (.d (.int n)), o14, o15, o16, o17]
/-- from told on -/
theorem told_ex (a b c0 : Int) (size : Int) (c f p q fs : List Int) (n : Int) (o4 o5 o6 o7 o9 o10 o14 o15 o16 o17 : Option Val) (hp : OkS p) (hq : OkS q) (hl : fs.length ≤ 6) (hb : ∀ x ∈ fs, x ≤ 10 ^ 58) (hp0 : nu p 0 ≤ 10 ^ 58) :
    tO (en size c f o4 o5 o6 o7 (some (.d (.lst (fs.map .int)))) o9 o10 p q n o14 o15 o16 o17) [dice a b c0] = .rt (.d (.bl true)) [dice a b c0] := by
  have t0 : ∀ x ∈ leanL fs, 0 < x := fun x hx => of_decide_eq_true (List.mem_filter.mp hx).2
  have tl : (leanL fs).length ≤ 6 := Nat.le_trans (List.length_filter_le _ _) hl
  have tb : ∀ x ∈ leanL fs, x ≤ 10 ^ 58 := fun x hx => hb x (List.mem_filter.mp hx).1
  have t00 : ∀ x ∈ leanL fs, 0 ≤ x := fun x hx => Int.le_of_lt (t0 x hx)
  have e1 := lean_lc (itV (eVar 8)) 17 fs (en size c f o4 o5 o6 o7 (some (.d (.lst (fs.map .int)))) o9 o10 p q n o14 o15 o16 o17) [dice a b c0] _ rfl (by omega) (by simp)
  have x1 := lstrip_ex (leanL fs) p [dice a b c0] (by omega) hp.len t00 hp.sh.p0
  have x2 := lstrip_ex (leanL fs) q [dice a b c0] (by omega) hq.len t00 hq.sh.p0
  refine sq_nx (asg_i e1) ?_
  cases k1 : strB (leanL fs) p with
  | false =>
    rw [k1] at x1
    exact sq_rt (if_t (tor_t (not_i (c2 rfl rfl x1))) rfl)
  | true =>
    rw [k1] at x1
    cases k2 : strB (leanL fs) q with
    | false =>
      rw [k2] at x2
      exact sq_rt (if_t (tor_f (not_i (c2 rfl rfl x1)) (not_i (c2 rfl rfl x2))) rfl)
    | true =>
      rw [k2] at x2
      have s1 := (strB_iff t00 hp.sh.p0).mp k1
      have s2 := (strB_iff t00 hq.sh.p0).mp k2
      have sh : Sh (leanL fs) := ⟨t0, fun k => Int.le_trans (s1 k).2 (s1 k).1⟩
      have b0 : nu (leanL fs) 0 ≤ 10 ^ 58 := by
        by_cases hz : 0 < (leanL fs).length
        · rw [nu_lt hz]; exact tb _ (List.getElem_mem hz)
        · rw [nu_ge (by omega)]; omega
      have ok : OkS (leanL fs) := okS_of sh (by omega) (by omega)
      have shc := corn_sh hp.sh s1 s2
      have nc := corn_nu sh hp.sh s1 s2 hp.len hq.len
      have okc : OkS (corn p q (leanL fs)) := okS_of shc (mkS_len _ _) (by
        rw [nc]
        have := CC_up s1 s2 0; have := mn (nu p 0) (nu q 0)
        omega)
      have cs1 := corn_strip1 sh hp.sh s1 s2 hp.len hq.len
      have cs2 := corn_strip2 sh hp.sh s1 s2 hp.len hq.len
      have cn := cnt_nn s1 s2
      have cn2 : cnt p q (leanL fs) ≤ 10 ^ 64 := by
        unfold cnt
        have := mx (nu p 0) (nu q 0); have := hp.sh.nn 0
        omega
      have fc := four_corn sh hp.sh s1 s2 hp.len hq.len
      have eb := corner_back_ex p q (leanL fs) [dice a b c0] hp hq ok s1 s2
      have y1 := lstrip_ex p (corn p q (leanL fs)) [dice a b c0] hp.len okc.len hp.sh.p0 okc.sh.p0
      have y2 := lstrip_ex q (corn p q (leanL fs)) [dice a b c0] hq.len okc.len hq.sh.p0 okc.sh.p0
      rw [(strB_iff hp.sh.p0 okc.sh.p0).mpr cs1] at y1
      rw [(strB_iff hq.sh.p0 okc.sh.p0).mpr cs2] at y2
      have ef := fourth_shape_ex (corn p q (leanL fs)) p q (cnt p q (leanL fs)) [dice a b c0] okc hp hq cs1 cs2 cn cn2 (by rw [fc]; exact ok)
      have el := lfourth_ex (corn p q (leanL fs)) p q (cnt p q (leanL fs)) [dice a b c0]
      rw [fc] at ef el
      have n0 : decide (cnt p q (leanL fs) < 0) = false := decide_eq_false (by omega)
      refine sq_nx (if_f (tor_f (not_i (c2 rfl rfl x1)) (not_i (c2 rfl rfl x2))) rfl) (sq_nx (asgT_i (c3 rfl rfl rfl eb) rfl) (sq_nx (if_f (tor_f (not_i (c2 rfl rfl y1)) (tor_f (not_i (c2 rfl rfl y2)) (t_i (b2 rfl rfl (q := .ok (.d (.bl false)) [dice a b c0]) (by simp only [fLt, fI, n0]))))) rfl) (ret_i ?_)))
      refine and_t (t_i (b2 (c4 rfl rfl rfl rfl el) rfl (q := .ok (.d (.bl true)) [dice a b c0]) ?_)) (b2 (c4 rfl rfl rfl rfl ef) rfl ?_)
      · rw [fEq_ints, decide_eq_true rfl]
      · rw [fEq_ints, decide_eq_true rfl]
/-- from the row that is wide on -/
theorem wide_ex (a b c0 : Int) (size : Int) (c f p q : List Int) (n : Int) (o4 o5 o6 : Option Val) (hp : OkS p) (hq : OkS q) (hp0 : nu p 0 ≤ 10 ^ 57) (hq0 : nu q 0 ≤ 10 ^ 57) (z0 : 0 < size) (z1 : size ≤ 10 ^ 57) :
    ∃ a' c', tW 1 (en size c f o4 o5 o6 none none none none p q n none none none none) [dice a b c0] = .rt (.d (.bl true)) [dice a' b c'] := by
  have hw : eLc (itR1 (eC (.int 6))) [9] (tgN 9) tYesD (eBin fMax2 (eCall d__law_number (eCons (eVar 11) (eCons (eVar 9) eNil))) (eCall d__law_number (eCons (eVar 12) (eCons (eVar 9) eNil)))) (en size c f o4 o5 o6 none none none none p q n none none none none) [dice a b c0] = .ok (.d (.lst (((List.range 6).map fun k => maxI (nu p k) (nu q k)).map .int))) [dice a b c0] := by
    rw [List.map_map]
    exact lc_i (S1 := [dice a b c0]) (itR1_i (n := 6) (m := 6) rfl rfl (by decide)) (by rw [upto_len]; decide) (lcD_map (List.range 6) (fun k => .int (k : Nat)) _ fun k hk => ⟨en size c f o4 o5 o6 none none (some (.d (.int (k : Nat)))) none p q n none none none none, rfl, rfl, b2 (c2 rfl rfl (lnumber_ex p k _)) (c2 rfl rfl (lnumber_ex q k _)) rfl⟩)
  have gw : ∀ k : Nat, k < 6 → atI (((List.range 6).map fun k => maxI (nu p k) (nu q k)).map D.int) (k : Int) = some (.int (maxI (nu p k) (nu q k))) := fun k hk => by
    rw [atI_get, List.getElem?_map, List.getElem?_map, List.getElem?_range hk]; rfl
  have wb : ∀ k, 0 ≤ maxI (nu p k) (nu q k) ∧ maxI (nu p k) (nu q k) ≤ 10 ^ 57 := fun k => by
    have := mx (nu p k) (nu q k); have := hp.sh.nn k; have := hp.sh.le0 k; have := hq.sh.le0 k
    omega
  have mb : ∀ k, minI (nu p k) (nu q k) ≤ 10 ^ 57 := fun k => by
    have := mn (nu p k) (nu q k); have := hp.sh.le0 k
    omega
  obtain ⟨v, a1, z1', v0, v1, e1⟩ := far_ex a b c0 size [] z0 (by omega)
  obtain ⟨Γ', S', e, ⟨o9, o14, fs, a2, z2, rfl, rfl, hlen, hP⟩⟩ := forD_inv (tg := tgN 9) (body := bN) ((List.range 5).map fun i => D.int (1 + (i : Nat)))
    (fun i Γ S' => ∃ o9 o14 fs a c', Γ = en size c f o4 o5 o6 (some (.d (.lst (((List.range 6).map fun k => maxI (nu p k) (nu q k)).map .int)))) (some (.cell 1)) o9 none p q n o14 none none none ∧ S' = [dice a b c'] ++ [some (.lst (fs.map .int))] ∧ fs.length = i + 1 ∧ ∀ x ∈ fs, x ≤ 10 ^ 58)
    (Γ := en size c f o4 o5 o6 (some (.d (.lst (((List.range 6).map fun k => maxI (nu p k) (nu q k)).map .int)))) (some (.cell 1)) none none p q n none none none none) (S := [dice a1 b z1'] ++ [some (.lst [.int (maxI (nu p 0) (nu q 0) + v)])])
    ⟨none, none, [maxI (nu p 0) (nu q 0) + v], a1, z1', rfl, rfl, rfl, fun x hx => by
      have := wb 0
      rw [List.mem_singleton.mp hx]
      omega⟩ (by
      rintro i x Γ S' hx ⟨o9, o14, fs, a, c', rfl, rfl, hlen, hP⟩
      rw [List.getElem?_map] at hx
      by_cases hi : i < 5
      · rw [List.getElem?_range hi, Option.map_some] at hx
        cases hx
        have e1 : (1 : Int) + (i : Nat) = ((i + 1 : Nat) : Int) := by omega
        have e2 : ((i + 1 : Nat) : Int) - 1 = (i : Nat) := by omega
        have w1 := wb (i + 1)
        have m1 := mb i
        have hE : ∀ (T : Store) (o14 : Option Val), eBin fSub (eVar 9) (eC (.int 1)) (en size c f o4 o5 o6 (some (.d (.lst (((List.range 6).map fun k => maxI (nu p k) (nu q k)).map .int)))) (some (.cell 1)) (some (.d (.int ((i + 1 : Nat) : Int)))) none p q n o14 none none none) T = .ok (.d (.int (i : Nat))) T := fun T o14 => by
          simp only [funD, finF, fin, sNil, sSeq, sEx, sRet, sRetN, sAsg, sNew, sIf, sAsgT, sPar, sFrz, sRetC, sNever, sBrk, sCont, sFor, eVar, eC, eBin, eUn, eTest, eAnd, eOr, eNot, eIf, eChain, eNil, eCons, eCall, eSl, eoN, eoS, eApp, eExt, ePop, sSet, itV, itR1, itR2, itEn, itZ, eLc, asB, clo, fTup, fLst, fAddL, fMulL, fI, fAdd, fSub, fMul, fDiv, fMod, fPow, fNeg, fLt, fLe, fGt, fGe, fEq, fNe, fIx, fIsN, fNotN, Pd.isNon, fLen, fAbs, fInt, fTuple, fList, fSum, fAll, fAny, fMax2, fMin2, isiD, fIsi, fSl, fRev, fSorted, fRepr, rd, R.bind, R.fl, F.lp, noX, tYesD, lcY, tgN, tgsNil, tgsCons, tgT, wipeE, keepB, List.map_cons, List.map_nil, List.replicate_succ, List.replicate_zero, List.cons_append, List.nil_append, List.append_nil, List.length_cons, List.length_nil, List.length_append, List.getElem?_cons_zero, List.getElem?_cons_succ, List.getElem?_nil, List.set_cons_zero, List.set_cons_succ, List.take_zero, List.take_succ_cons, List.take_nil, Option.map_some, Option.map_none, Option.bind_some, Option.bind_none, Nat.zero_add, Nat.add_zero, Nat.reduceAdd, Nat.reduceLeDiff, Nat.reduceSub, Nat.reduceEqDiff, Int.reduceLT, Int.reduceLE, Int.reduceEq, Int.reduceNeg, Int.reduceAdd, Int.reduceSub, Int.reduceMul, decide_true, decide_false, ↓reduceIte, decide_eq_true_eq, Bool.not_eq_true', decide_eq_false_iff_not, Bool.false_eq_true, Bool.true_eq_false, Bool.not_true, Bool.not_false, true_and, and_true, and_self, false_and, and_false, e2]
        have hI : ∀ (T : Store) (o14 : Option Val), eBin fIx (eVar 7) (eVar 9) (en size c f o4 o5 o6 (some (.d (.lst (((List.range 6).map fun k => maxI (nu p k) (nu q k)).map .int)))) (some (.cell 1)) (some (.d (.int ((i + 1 : Nat) : Int)))) none p q n o14 none none none) T = .ok (.d (.int (maxI (nu p (i + 1)) (nu q (i + 1))))) T := fun T o14 => by
          simp only [funD, finF, fin, sNil, sSeq, sEx, sRet, sRetN, sAsg, sNew, sIf, sAsgT, sPar, sFrz, sRetC, sNever, sBrk, sCont, sFor, eVar, eC, eBin, eUn, eTest, eAnd, eOr, eNot, eIf, eChain, eNil, eCons, eCall, eSl, eoN, eoS, eApp, eExt, ePop, sSet, itV, itR1, itR2, itEn, itZ, eLc, asB, clo, fTup, fLst, fAddL, fMulL, fI, fAdd, fSub, fMul, fDiv, fMod, fPow, fNeg, fLt, fLe, fGt, fGe, fEq, fNe, fIx, fIsN, fNotN, Pd.isNon, fLen, fAbs, fInt, fTuple, fList, fSum, fAll, fAny, fMax2, fMin2, isiD, fIsi, fSl, fRev, fSorted, fRepr, rd, R.bind, R.fl, F.lp, noX, tYesD, lcY, tgN, tgsNil, tgsCons, tgT, wipeE, keepB, List.map_cons, List.map_nil, List.replicate_succ, List.replicate_zero, List.cons_append, List.nil_append, List.append_nil, List.length_cons, List.length_nil, List.length_append, List.getElem?_cons_zero, List.getElem?_cons_succ, List.getElem?_nil, List.set_cons_zero, List.set_cons_succ, List.take_zero, List.take_succ_cons, List.take_nil, Option.map_some, Option.map_none, Option.bind_some, Option.bind_none, Nat.zero_add, Nat.add_zero, Nat.reduceAdd, Nat.reduceLeDiff, Nat.reduceSub, Nat.reduceEqDiff, Int.reduceLT, Int.reduceLE, Int.reduceEq, Int.reduceNeg, Int.reduceAdd, Int.reduceSub, Int.reduceMul, decide_true, decide_false, ↓reduceIte, decide_eq_true_eq, Bool.not_eq_true', decide_eq_false_iff_not, Bool.false_eq_true, Bool.true_eq_false, Bool.not_true, Bool.not_false, true_and, and_true, and_self, false_and, and_false, gw (i + 1) (by omega)]
        have hroom : ∀ (T : Store), eBin fSub (eBin fMin2 (eCall d__law_number (eCons (eVar 11) (eCons (eBin fSub (eVar 9) (eC (.int 1))) eNil))) (eCall d__law_number (eCons (eVar 12) (eCons (eBin fSub (eVar 9) (eC (.int 1))) eNil)))) (eBin fIx (eVar 7) (eVar 9)) (en size c f o4 o5 o6 (some (.d (.lst (((List.range 6).map fun k => maxI (nu p k) (nu q k)).map .int)))) (some (.cell 1)) (some (.d (.int ((i + 1 : Nat) : Int)))) none p q n o14 none none none) T = .ok (.d (.int (minI (nu p i) (nu q i) - maxI (nu p (i + 1)) (nu q (i + 1))))) T := fun T =>
          b2 (S1 := T) (S2 := T) (b2 (S1 := T) (S2 := T) (c2 rfl (hE _ _) (lnumber_ex _ _ _)) (c2 rfl (hE _ _) (lnumber_ex _ _ _)) rfl) (hI _ _) rfl
        rw [e1]
        refine ⟨_, rfl, ?_⟩
        generalize hr : minI (nu p i) (nu q i) - maxI (nu p (i + 1)) (nu q (i + 1)) = room at hroom
        by_cases hroom0 : 0 < room
        · obtain ⟨v, a1, z1, v0, v1, e3⟩ := far_ex a b c' (room + 1) [some (.lst (fs.map .int))] (by omega) (by omega)
          refine ⟨_, _, .inl (sq_nx (asg_i (hroom _)) (ex_i (app_last (S := [dice a b c']) (S' := [dice a1 b z1]) (d := .int (maxI (nu p (i + 1)) (nu q (i + 1)) + v)) rfl (b2 (hI _ _) (y := .d (.int v)) (S2 := [dice a1 b z1] ++ [some (.lst (fs.map .int))]) ?_ rfl) rfl (by rw [List.length_map]; omega)))), some (.d (.int ((i + 1 : Nat) : Int))), some (.d (.int room)), fs ++ [maxI (nu p (i + 1)) (nu q (i + 1)) + v], a1, z1, rfl, by rw [List.map_append]; rfl, by rw [List.length_append, hlen]; rfl, fun x hx => ?_⟩
          · have g : ∀ (T : Store), eTest (eBin fGt (eVar 14) (eC (.int 0))) (en size c f o4 o5 o6 (some (.d (.lst (((List.range 6).map fun k => maxI (nu p k) (nu q k)).map .int)))) (some (.cell 1)) (some (.d (.int ((i + 1 : Nat) : Int)))) none p q n (some (.d (.int room))) none none none) T = .ok true T := fun T => by
              simp only [funD, finF, fin, sNil, sSeq, sEx, sRet, sRetN, sAsg, sNew, sIf, sAsgT, sPar, sFrz, sRetC, sNever, sBrk, sCont, sFor, eVar, eC, eBin, eUn, eTest, eAnd, eOr, eNot, eIf, eChain, eNil, eCons, eCall, eSl, eoN, eoS, eApp, eExt, ePop, sSet, itV, itR1, itR2, itEn, itZ, eLc, asB, clo, fTup, fLst, fAddL, fMulL, fI, fAdd, fSub, fMul, fDiv, fMod, fPow, fNeg, fLt, fLe, fGt, fGe, fEq, fNe, fIx, fIsN, fNotN, Pd.isNon, fLen, fAbs, fInt, fTuple, fList, fSum, fAll, fAny, fMax2, fMin2, isiD, fIsi, fSl, fRev, fSorted, fRepr, rd, R.bind, R.fl, F.lp, noX, tYesD, lcY, tgN, tgsNil, tgsCons, tgT, wipeE, keepB, List.map_cons, List.map_nil, List.replicate_succ, List.replicate_zero, List.cons_append, List.nil_append, List.append_nil, List.length_cons, List.length_nil, List.length_append, List.getElem?_cons_zero, List.getElem?_cons_succ, List.getElem?_nil, List.set_cons_zero, List.set_cons_succ, List.take_zero, List.take_succ_cons, List.take_nil, Option.map_some, Option.map_none, Option.bind_some, Option.bind_none, Nat.zero_add, Nat.add_zero, Nat.reduceAdd, Nat.reduceLeDiff, Nat.reduceSub, Nat.reduceEqDiff, Int.reduceLT, Int.reduceLE, Int.reduceEq, Int.reduceNeg, Int.reduceAdd, Int.reduceSub, Int.reduceMul, decide_true, decide_false, ↓reduceIte, decide_eq_true_eq, Bool.not_eq_true', decide_eq_false_iff_not, Bool.false_eq_true, Bool.true_eq_false, Bool.not_true, Bool.not_false, true_and, and_true, and_self, false_and, and_false, hroom0]
            exact eif_t (g _) (c2 (y := .d (.int (room + 1))) rfl rfl e3)
          · rcases List.mem_append.mp hx with hx | hx
            · exact hP x hx
            · rw [List.mem_singleton.mp hx]
              omega
        · refine ⟨_, _, .inl (sq_nx (asg_i (hroom _)) (ex_i (app_last (S := [dice a b c']) (S' := [dice a b c']) (d := .int (maxI (nu p (i + 1)) (nu q (i + 1)) + 0)) rfl (b2 (hI _ _) (y := .d (.int 0)) (S2 := [dice a b c'] ++ [some (.lst (fs.map .int))]) ?_ rfl) rfl (by rw [List.length_map]; omega)))), some (.d (.int ((i + 1 : Nat) : Int))), some (.d (.int room)), fs ++ [maxI (nu p (i + 1)) (nu q (i + 1)) + 0], a, c', rfl, by rw [List.map_append]; rfl, by rw [List.length_append, hlen]; rfl, fun x hx => ?_⟩
          · have g : ∀ (T : Store), eTest (eBin fGt (eVar 14) (eC (.int 0))) (en size c f o4 o5 o6 (some (.d (.lst (((List.range 6).map fun k => maxI (nu p k) (nu q k)).map .int)))) (some (.cell 1)) (some (.d (.int ((i + 1 : Nat) : Int)))) none p q n (some (.d (.int room))) none none none) T = .ok false T := fun T => by
              simp only [funD, finF, fin, sNil, sSeq, sEx, sRet, sRetN, sAsg, sNew, sIf, sAsgT, sPar, sFrz, sRetC, sNever, sBrk, sCont, sFor, eVar, eC, eBin, eUn, eTest, eAnd, eOr, eNot, eIf, eChain, eNil, eCons, eCall, eSl, eoN, eoS, eApp, eExt, ePop, sSet, itV, itR1, itR2, itEn, itZ, eLc, asB, clo, fTup, fLst, fAddL, fMulL, fI, fAdd, fSub, fMul, fDiv, fMod, fPow, fNeg, fLt, fLe, fGt, fGe, fEq, fNe, fIx, fIsN, fNotN, Pd.isNon, fLen, fAbs, fInt, fTuple, fList, fSum, fAll, fAny, fMax2, fMin2, isiD, fIsi, fSl, fRev, fSorted, fRepr, rd, R.bind, R.fl, F.lp, noX, tYesD, lcY, tgN, tgsNil, tgsCons, tgT, wipeE, keepB, List.map_cons, List.map_nil, List.replicate_succ, List.replicate_zero, List.cons_append, List.nil_append, List.append_nil, List.length_cons, List.length_nil, List.length_append, List.getElem?_cons_zero, List.getElem?_cons_succ, List.getElem?_nil, List.set_cons_zero, List.set_cons_succ, List.take_zero, List.take_succ_cons, List.take_nil, Option.map_some, Option.map_none, Option.bind_some, Option.bind_none, Nat.zero_add, Nat.add_zero, Nat.reduceAdd, Nat.reduceLeDiff, Nat.reduceSub, Nat.reduceEqDiff, Int.reduceLT, Int.reduceLE, Int.reduceEq, Int.reduceNeg, Int.reduceAdd, Int.reduceSub, Int.reduceMul, decide_true, decide_false, ↓reduceIte, decide_eq_true_eq, Bool.not_eq_true', decide_eq_false_iff_not, Bool.false_eq_true, Bool.true_eq_false, Bool.not_true, Bool.not_false, true_and, and_true, and_self, false_and, and_false, hroom0]
            exact eif_f (g _) rfl
          · rcases List.mem_append.mp hx with hx | hx
            · exact hP x hx
            · rw [List.mem_singleton.mp hx]
              omega
      · rw [List.getElem?_eq_none (by simpa using hi)] at hx
        cases hx)
  rw [List.length_map, List.length_range] at hlen
  refine ⟨a2, z2, sq_nx (asg_i hw) (sq_nx (new_i (S1 := [dice a1 b z1']) (c1 (x := .d (.int (maxI (nu p 0) (nu q 0) + v))) (S1 := [dice a1 b z1']) (b2 (x := .d (.int (maxI (nu p 0) (nu q 0)))) (S1 := [dice a b c0]) ?_ (c2 rfl rfl e1) rfl) ?_)) (sq_nx (for_i (itR2_i (a := 1) (b := 6) (m := 5) rfl rfl (by omega) (by omega) (by omega)) e) (sq_nx (frz_last (S := [dice a2 b z2]) rfl) (told_ex a2 b z2 size c f p q fs n _ _ _ _ _ _ _ _ _ _ hp hq (by omega) hP (by omega)))))⟩
  · have := gw 0 (by decide)
    simp only [funD, finF, fin, sNil, sSeq, sEx, sRet, sRetN, sAsg, sNew, sIf, sAsgT, sPar, sFrz, sRetC, sNever, sBrk, sCont, sFor, eVar, eC, eBin, eUn, eTest, eAnd, eOr, eNot, eIf, eChain, eNil, eCons, eCall, eSl, eoN, eoS, eApp, eExt, ePop, sSet, itV, itR1, itR2, itEn, itZ, eLc, asB, clo, fTup, fLst, fAddL, fMulL, fI, fAdd, fSub, fMul, fDiv, fMod, fPow, fNeg, fLt, fLe, fGt, fGe, fEq, fNe, fIx, fIsN, fNotN, Pd.isNon, fLen, fAbs, fInt, fTuple, fList, fSum, fAll, fAny, fMax2, fMin2, isiD, fIsi, fSl, fRev, fSorted, fRepr, rd, R.bind, R.fl, F.lp, noX, tYesD, lcY, tgN, tgsNil, tgsCons, tgT, wipeE, keepB, List.map_cons, List.map_nil, List.replicate_succ, List.replicate_zero, List.cons_append, List.nil_append, List.append_nil, List.length_cons, List.length_nil, List.length_append, List.getElem?_cons_zero, List.getElem?_cons_succ, List.getElem?_nil, List.set_cons_zero, List.set_cons_succ, List.take_zero, List.take_succ_cons, List.take_nil, Option.map_some, Option.map_none, Option.bind_some, Option.bind_none, Nat.zero_add, Nat.add_zero, Nat.reduceAdd, Nat.reduceLeDiff, Nat.reduceSub, Nat.reduceEqDiff, Int.reduceLT, Int.reduceLE, Int.reduceEq, Int.reduceNeg, Int.reduceAdd, Int.reduceSub, Int.reduceMul, decide_true, decide_false, ↓reduceIte, decide_eq_true_eq, Bool.not_eq_true', decide_eq_false_iff_not, Bool.false_eq_true, Bool.true_eq_false, Bool.not_true, Bool.not_false, true_and, and_true, and_self, false_and, and_false]
    rw [show ((0 : Int)) = ((0 : Nat) : Int) from rfl, this]
  · simp only [funD, finF, fin, sNil, sSeq, sEx, sRet, sRetN, sAsg, sNew, sIf, sAsgT, sPar, sFrz, sRetC, sNever, sBrk, sCont, sFor, eVar, eC, eBin, eUn, eTest, eAnd, eOr, eNot, eIf, eChain, eNil, eCons, eCall, eSl, eoN, eoS, eApp, eExt, ePop, sSet, itV, itR1, itR2, itEn, itZ, eLc, asB, clo, fTup, fLst, fAddL, fMulL, fI, fAdd, fSub, fMul, fDiv, fMod, fPow, fNeg, fLt, fLe, fGt, fGe, fEq, fNe, fIx, fIsN, fNotN, Pd.isNon, fLen, fAbs, fInt, fTuple, fList, fSum, fAll, fAny, fMax2, fMin2, isiD, fIsi, fSl, fRev, fSorted, fRepr, rd, R.bind, R.fl, F.lp, noX, tYesD, lcY, tgN, tgsNil, tgsCons, tgT, wipeE, keepB, List.map_cons, List.map_nil, List.replicate_succ, List.replicate_zero, List.cons_append, List.nil_append, List.append_nil, List.length_cons, List.length_nil, List.length_append, List.getElem?_cons_zero, List.getElem?_cons_succ, List.getElem?_nil, List.set_cons_zero, List.set_cons_succ, List.take_zero, List.take_succ_cons, List.take_nil, Option.map_some, Option.map_none, Option.bind_some, Option.bind_none, Nat.zero_add, Nat.add_zero, Nat.reduceAdd, Nat.reduceLeDiff, Nat.reduceSub, Nat.reduceEqDiff, Int.reduceLT, Int.reduceLE, Int.reduceEq, Int.reduceNeg, Int.reduceAdd, Int.reduceSub, Int.reduceMul, decide_true, decide_false, ↓reduceIte, decide_eq_true_eq, Bool.not_eq_true', decide_eq_false_iff_not, Bool.false_eq_true, Bool.true_eq_false, Bool.not_true, Bool.not_false, true_and, and_true, and_self, false_and, and_false, cap]
end L22

namespace L22
open PySem L2 Pd
abbrev bT : Sv := (sSeq (sAsg 10 (eUn fTuple (eLc (itV (eCall fTup (eCons (eVar 2) (eCons (eVar 8) (eCons (eVar 9) eNil))))) [11] (tgN 11) (eTest (eBin fGt (eVar 11) (eC (.int 0)))) (eVar 11)))) (sIf (eAnd (eCall d__law_is_strip (eCons (eVar 3) (eCons (eVar 10) eNil))) (eCall d__law_is_strip (eCons (eVar 4) (eCons (eVar 10) eNil)))) (sAsg 7 (eBin fAdd (eVar 7) (eLc (itR1 (eC (.int 7))) [12] (tgN 12) (eTest (eCall d_is_square (eCons (eVar 10) (eCons (eVar 3) (eCons (eVar 4) (eCons (eVar 12) (eCons (eVar 6) eNil))))))) (eCall fTup (eCons (eVar 10) (eCons (eVar 12) eNil)))))) sNil))
theorem nu_app1 (f : List Int) (k : Nat) : nu (f ++ [1]) k = if k < f.length then nu f k else if k = f.length then 1 else 0 := by
  by_cases h : k < f.length
  · rw [if_pos h]; unfold nu; rw [List.getElem?_append_left h]
  · rw [if_neg h]
    unfold nu
    rw [List.getElem?_append_right (by omega)]
    by_cases h2 : k = f.length
    · rw [if_pos h2, h2, Nat.sub_self]; rfl
    · rw [if_neg h2, List.getElem?_eq_none (by simp; omega)]; rfl
theorem sh_app1 {f : List Int} (h : Sh f) : Sh (f ++ [1]) := ⟨fun x hx => by
  rcases List.mem_append.mp hx with hx | hx
  · exact h.pos x hx
  · rw [List.mem_singleton.mp hx]; decide, fun i => by
  rw [nu_app1, nu_app1]
  have := h.dec i
  by_cases h1 : i + 1 < f.length
  · rw [if_pos h1, if_pos (by omega)]; exact this
  · rw [if_neg h1]
    by_cases h2 : i + 1 = f.length
    · rw [if_pos h2, if_pos (by omega), nu_lt (by omega)]
      have := h.pos f[i] (List.getElem_mem (by omega))
      omega
    · rw [if_neg h2]
      by_cases h3 : i < f.length
      · omega
      · rw [if_neg h3]; split <;> omega⟩
theorem nu_dl (f : List Int) (k : Nat) : nu f.dropLast k = if k < f.length - 1 then nu f k else 0 := by
  unfold nu
  rw [List.dropLast_eq_take, List.getElem?_take]
  by_cases h : k < f.length - 1
  · rw [if_pos h, if_pos h]
  · rw [if_neg h, if_neg h]; rfl
theorem sh_dl {f : List Int} (h : Sh f) : Sh f.dropLast := ⟨fun x hx => h.pos x (List.dropLast_subset f hx), fun i => by
  rw [nu_dl, nu_dl]
  have := h.dec i; have := h.nn i
  by_cases h1 : i + 1 < f.length - 1
  · rw [if_pos h1, if_pos (by omega)]; omega
  · rw [if_neg h1]; split <;> omega⟩
theorem nu_up (f : List Int) (k : Nat) : nu ((nu f 0 + 1) :: f.drop 1) k = if k = 0 then nu f 0 + 1 else nu f k := by
  cases k with
  | zero => rfl
  | succ k => rw [nu_cs, nu_drop, if_neg (by omega)]
theorem sh_up {f : List Int} (h : Sh f) : Sh ((nu f 0 + 1) :: f.drop 1) := ⟨fun x hx => by
  rcases List.mem_cons.mp hx with hx | hx
  · have := h.nn 0; omega
  · exact h.pos x (List.mem_of_mem_drop hx), fun i => by
  rw [nu_up, nu_up, if_neg (by omega)]
  have := h.dec i
  by_cases h1 : i = 0
  · rw [if_pos h1]; subst h1; omega
  · rw [if_neg h1]; exact this⟩
theorem cutLast {α : Type} (l : List α) : cutD l none (some (-1)) = l.dropLast := by
  unfold cutD
  rw [List.dropLast_eq_take]
  cases l with
  | nil => simp [HT.sIx]
  | cons x l =>
    simp [HT.sIx]
    try omega
theorem sqB_of {c p q v : List Int} {n : Int} (hc : Sh c) (hp : Sh p) (hq : Sh q) (s1 : Strip p c) (s2 : Strip q c) : sqB c p q n v = decide (four c p q n = v) := by
  unfold sqB
  rw [(strB_iff hp.p0 hc.p0).mpr s1, (strB_iff hq.p0 hc.p0).mpr s2, Bool.true_and, Bool.true_and]
/-- the values that lie near -/
theorem vals_ex (size : Int) (c f p q : List Int) (n : Int) (o4 o5 o6 o7 o8 o9 o10 o14 o15 o16 o17 : Option Val) (S : Store) (hl : f.length ≤ 6) :
    vals (en size c f o4 o5 o6 o7 o8 o9 o10 p q n o14 o15 o16 o17) S = .ok (.d (.tup ([f ++ [1], f.dropLast, (nu f 0 + 1) :: f.drop 1, p, c].map fun v => .tup (v.map .int)))) S := by
  have t1 : ∀ Γ, eCall fTup (eCons (eC (.int 1)) eNil) Γ S = .ok (tI [1]) S := fun Γ => by simp only [funD, finF, fin, sNil, sSeq, sEx, sRet, sRetN, sAsg, sNew, sIf, sAsgT, sPar, sFrz, sRetC, sNever, sBrk, sCont, sFor, eVar, eC, eBin, eUn, eTest, eAnd, eOr, eNot, eIf, eChain, eNil, eCons, eCall, eSl, eoN, eoS, eApp, eExt, ePop, sSet, itV, itR1, itR2, itEn, itZ, eLc, asB, clo, fTup, fLst, fAddL, fMulL, fI, fAdd, fSub, fMul, fDiv, fMod, fPow, fNeg, fLt, fLe, fGt, fGe, fEq, fNe, fIx, fIsN, fNotN, Pd.isNon, fLen, fAbs, fInt, fTuple, fList, fSum, fAll, fAny, fMax2, fMin2, isiD, fIsi, fSl, fRev, fSorted, fRepr, rd, R.bind, R.fl, F.lp, noX, tYesD, lcY, tgN, tgsNil, tgsCons, tgT, wipeE, keepB, List.map_cons, List.map_nil, List.replicate_succ, List.replicate_zero, List.cons_append, List.nil_append, List.append_nil, List.length_cons, List.length_nil, List.length_append, List.getElem?_cons_zero, List.getElem?_cons_succ, List.getElem?_nil, List.set_cons_zero, List.set_cons_succ, List.take_zero, List.take_succ_cons, List.take_nil, Option.map_some, Option.map_none, Option.bind_some, Option.bind_none, Nat.zero_add, Nat.add_zero, Nat.reduceAdd, Nat.reduceLeDiff, Nat.reduceSub, Nat.reduceEqDiff, Int.reduceLT, Int.reduceLE, Int.reduceEq, Int.reduceNeg, Int.reduceAdd, Int.reduceSub, Int.reduceMul, decide_true, decide_false, ↓reduceIte, decide_eq_true_eq, Bool.not_eq_true', decide_eq_false_iff_not, Bool.false_eq_true, Bool.true_eq_false, Bool.not_true, Bool.not_false, true_and, and_true, and_self, false_and, and_false, cap, tI]
  have a1 : ∀ a b : List Int, a.length + b.length ≤ 1000 → fAdd (tI a) (tI b) S = .ok (tI (a ++ b)) S := fun a b h => by
    have ec : cap = 1000000 := rfl
    have : a.length + b.length ≤ cap := by omega
    simp only [fAdd, List.length_map, this, if_true, List.map_append, tI]
  refine c5 (x := tI (f ++ [1])) (y := tI f.dropLast) (z := tI ((nu f 0 + 1) :: f.drop 1)) (S1 := S) (S2 := S) (S3 := S) (eif_t (S1 := S) ?_ (b2 rfl (t1 _) (a1 _ _ (by simp; omega)))) ?_ (b2 (x := tI [nu f 0 + 1]) (y := tI (f.drop 1)) (S1 := S) (S2 := S) (c1 (S1 := S) (x := .d (.int (nu f 0 + 1))) (b2 (c2 rfl rfl (lnumber_ex f 0 S)) rfl rfl) ?_) ?_ (a1 _ _ (by simp; omega))) rfl rfl ?_
  · have : (f.length : Int) < 8 := by omega
    simp only [funD, finF, fin, sNil, sSeq, sEx, sRet, sRetN, sAsg, sNew, sIf, sAsgT, sPar, sFrz, sRetC, sNever, sBrk, sCont, sFor, eVar, eC, eBin, eUn, eTest, eAnd, eOr, eNot, eIf, eChain, eNil, eCons, eCall, eSl, eoN, eoS, eApp, eExt, ePop, sSet, itV, itR1, itR2, itEn, itZ, eLc, asB, clo, fTup, fLst, fAddL, fMulL, fI, fAdd, fSub, fMul, fDiv, fMod, fPow, fNeg, fLt, fLe, fGt, fGe, fEq, fNe, fIx, fIsN, fNotN, Pd.isNon, fLen, fAbs, fInt, fTuple, fList, fSum, fAll, fAny, fMax2, fMin2, isiD, fIsi, fSl, fRev, fSorted, fRepr, rd, R.bind, R.fl, F.lp, noX, tYesD, lcY, tgN, tgsNil, tgsCons, tgT, wipeE, keepB, List.map_cons, List.map_nil, List.replicate_succ, List.replicate_zero, List.cons_append, List.nil_append, List.append_nil, List.length_cons, List.length_nil, List.length_append, List.getElem?_cons_zero, List.getElem?_cons_succ, List.getElem?_nil, List.set_cons_zero, List.set_cons_succ, List.take_zero, List.take_succ_cons, List.take_nil, Option.map_some, Option.map_none, Option.bind_some, Option.bind_none, Nat.zero_add, Nat.add_zero, Nat.reduceAdd, Nat.reduceLeDiff, Nat.reduceSub, Nat.reduceEqDiff, Int.reduceLT, Int.reduceLE, Int.reduceEq, Int.reduceNeg, Int.reduceAdd, Int.reduceSub, Int.reduceMul, decide_true, decide_false, ↓reduceIte, decide_eq_true_eq, Bool.not_eq_true', decide_eq_false_iff_not, Bool.false_eq_true, Bool.true_eq_false, Bool.not_true, Bool.not_false, true_and, and_true, and_self, false_and, and_false, List.length_map, this]
  · simp only [funD, finF, fin, sNil, sSeq, sEx, sRet, sRetN, sAsg, sNew, sIf, sAsgT, sPar, sFrz, sRetC, sNever, sBrk, sCont, sFor, eVar, eC, eBin, eUn, eTest, eAnd, eOr, eNot, eIf, eChain, eNil, eCons, eCall, eSl, eoN, eoS, eApp, eExt, ePop, sSet, itV, itR1, itR2, itEn, itZ, eLc, asB, clo, fTup, fLst, fAddL, fMulL, fI, fAdd, fSub, fMul, fDiv, fMod, fPow, fNeg, fLt, fLe, fGt, fGe, fEq, fNe, fIx, fIsN, fNotN, Pd.isNon, fLen, fAbs, fInt, fTuple, fList, fSum, fAll, fAny, fMax2, fMin2, isiD, fIsi, fSl, fRev, fSorted, fRepr, rd, R.bind, R.fl, F.lp, noX, tYesD, lcY, tgN, tgsNil, tgsCons, tgT, wipeE, keepB, List.map_cons, List.map_nil, List.replicate_succ, List.replicate_zero, List.cons_append, List.nil_append, List.append_nil, List.length_cons, List.length_nil, List.length_append, List.getElem?_cons_zero, List.getElem?_cons_succ, List.getElem?_nil, List.set_cons_zero, List.set_cons_succ, List.take_zero, List.take_succ_cons, List.take_nil, Option.map_some, Option.map_none, Option.bind_some, Option.bind_none, Nat.zero_add, Nat.add_zero, Nat.reduceAdd, Nat.reduceLeDiff, Nat.reduceSub, Nat.reduceEqDiff, Int.reduceLT, Int.reduceLE, Int.reduceEq, Int.reduceNeg, Int.reduceAdd, Int.reduceSub, Int.reduceMul, decide_true, decide_false, ↓reduceIte, decide_eq_true_eq, Bool.not_eq_true', decide_eq_false_iff_not, Bool.false_eq_true, Bool.true_eq_false, Bool.not_true, Bool.not_false, true_and, and_true, and_self, false_and, and_false, cutLast, List.map_dropLast, tI]
  · simp only [funD, finF, fin, sNil, sSeq, sEx, sRet, sRetN, sAsg, sNew, sIf, sAsgT, sPar, sFrz, sRetC, sNever, sBrk, sCont, sFor, eVar, eC, eBin, eUn, eTest, eAnd, eOr, eNot, eIf, eChain, eNil, eCons, eCall, eSl, eoN, eoS, eApp, eExt, ePop, sSet, itV, itR1, itR2, itEn, itZ, eLc, asB, clo, fTup, fLst, fAddL, fMulL, fI, fAdd, fSub, fMul, fDiv, fMod, fPow, fNeg, fLt, fLe, fGt, fGe, fEq, fNe, fIx, fIsN, fNotN, Pd.isNon, fLen, fAbs, fInt, fTuple, fList, fSum, fAll, fAny, fMax2, fMin2, isiD, fIsi, fSl, fRev, fSorted, fRepr, rd, R.bind, R.fl, F.lp, noX, tYesD, lcY, tgN, tgsNil, tgsCons, tgT, wipeE, keepB, List.map_cons, List.map_nil, List.replicate_succ, List.replicate_zero, List.cons_append, List.nil_append, List.append_nil, List.length_cons, List.length_nil, List.length_append, List.getElem?_cons_zero, List.getElem?_cons_succ, List.getElem?_nil, List.set_cons_zero, List.set_cons_succ, List.take_zero, List.take_succ_cons, List.take_nil, Option.map_some, Option.map_none, Option.bind_some, Option.bind_none, Nat.zero_add, Nat.add_zero, Nat.reduceAdd, Nat.reduceLeDiff, Nat.reduceSub, Nat.reduceEqDiff, Int.reduceLT, Int.reduceLE, Int.reduceEq, Int.reduceNeg, Int.reduceAdd, Int.reduceSub, Int.reduceMul, decide_true, decide_false, ↓reduceIte, decide_eq_true_eq, Bool.not_eq_true', decide_eq_false_iff_not, Bool.false_eq_true, Bool.true_eq_false, Bool.not_true, Bool.not_false, true_and, and_true, and_self, false_and, and_false, cap, tI]
  · simp only [funD, finF, fin, sNil, sSeq, sEx, sRet, sRetN, sAsg, sNew, sIf, sAsgT, sPar, sFrz, sRetC, sNever, sBrk, sCont, sFor, eVar, eC, eBin, eUn, eTest, eAnd, eOr, eNot, eIf, eChain, eNil, eCons, eCall, eSl, eoN, eoS, eApp, eExt, ePop, sSet, itV, itR1, itR2, itEn, itZ, eLc, asB, clo, fTup, fLst, fAddL, fMulL, fI, fAdd, fSub, fMul, fDiv, fMod, fPow, fNeg, fLt, fLe, fGt, fGe, fEq, fNe, fIx, fIsN, fNotN, Pd.isNon, fLen, fAbs, fInt, fTuple, fList, fSum, fAll, fAny, fMax2, fMin2, isiD, fIsi, fSl, fRev, fSorted, fRepr, rd, R.bind, R.fl, F.lp, noX, tYesD, lcY, tgN, tgsNil, tgsCons, tgT, wipeE, keepB, List.map_cons, List.map_nil, List.replicate_succ, List.replicate_zero, List.cons_append, List.nil_append, List.append_nil, List.length_cons, List.length_nil, List.length_append, List.getElem?_cons_zero, List.getElem?_cons_succ, List.getElem?_nil, List.set_cons_zero, List.set_cons_succ, List.take_zero, List.take_succ_cons, List.take_nil, Option.map_some, Option.map_none, Option.bind_some, Option.bind_none, Nat.zero_add, Nat.add_zero, Nat.reduceAdd, Nat.reduceLeDiff, Nat.reduceSub, Nat.reduceEqDiff, Int.reduceLT, Int.reduceLE, Int.reduceEq, Int.reduceNeg, Int.reduceAdd, Int.reduceSub, Int.reduceMul, decide_true, decide_false, ↓reduceIte, decide_eq_true_eq, Bool.not_eq_true', decide_eq_false_iff_not, Bool.false_eq_true, Bool.true_eq_false, Bool.not_true, Bool.not_false, true_and, and_true, and_self, false_and, and_false, cut1]
    rw [← List.map_drop]
  · simp only [funD, finF, fin, sNil, sSeq, sEx, sRet, sRetN, sAsg, sNew, sIf, sAsgT, sPar, sFrz, sRetC, sNever, sBrk, sCont, sFor, eVar, eC, eBin, eUn, eTest, eAnd, eOr, eNot, eIf, eChain, eNil, eCons, eCall, eSl, eoN, eoS, eApp, eExt, ePop, sSet, itV, itR1, itR2, itEn, itZ, eLc, asB, clo, fTup, fLst, fAddL, fMulL, fI, fAdd, fSub, fMul, fDiv, fMod, fPow, fNeg, fLt, fLe, fGt, fGe, fEq, fNe, fIx, fIsN, fNotN, Pd.isNon, fLen, fAbs, fInt, fTuple, fList, fSum, fAll, fAny, fMax2, fMin2, isiD, fIsi, fSl, fRev, fSorted, fRepr, rd, R.bind, R.fl, F.lp, noX, tYesD, lcY, tgN, tgsNil, tgsCons, tgT, wipeE, keepB, List.map_cons, List.map_nil, List.replicate_succ, List.replicate_zero, List.cons_append, List.nil_append, List.append_nil, List.length_cons, List.length_nil, List.length_append, List.getElem?_cons_zero, List.getElem?_cons_succ, List.getElem?_nil, List.set_cons_zero, List.set_cons_succ, List.take_zero, List.take_succ_cons, List.take_nil, Option.map_some, Option.map_none, Option.bind_some, Option.bind_none, Nat.zero_add, Nat.add_zero, Nat.reduceAdd, Nat.reduceLeDiff, Nat.reduceSub, Nat.reduceEqDiff, Int.reduceLT, Int.reduceLE, Int.reduceEq, Int.reduceNeg, Int.reduceAdd, Int.reduceSub, Int.reduceMul, decide_true, decide_false, ↓reduceIte, decide_eq_true_eq, Bool.not_eq_true', decide_eq_false_iff_not, Bool.false_eq_true, Bool.true_eq_false, Bool.not_true, Bool.not_false, true_and, and_true, and_self, false_and, and_false, cap]
theorem fTup3 (x y z : D) (S : Store) : fTup [.d x, .d y, .d z] S = .ok (.d (.tup [x, y, z])) S := by simp only [funD, finF, fin, sNil, sSeq, sEx, sRet, sRetN, sAsg, sNew, sIf, sAsgT, sPar, sFrz, sRetC, sNever, sBrk, sCont, sFor, eVar, eC, eBin, eUn, eTest, eAnd, eOr, eNot, eIf, eChain, eNil, eCons, eCall, eSl, eoN, eoS, eApp, eExt, ePop, sSet, itV, itR1, itR2, itEn, itZ, eLc, asB, clo, fTup, fLst, fAddL, fMulL, fI, fAdd, fSub, fMul, fDiv, fMod, fPow, fNeg, fLt, fLe, fGt, fGe, fEq, fNe, fIx, fIsN, fNotN, Pd.isNon, fLen, fAbs, fInt, fTuple, fList, fSum, fAll, fAny, fMax2, fMin2, isiD, fIsi, fSl, fRev, fSorted, fRepr, rd, R.bind, R.fl, F.lp, noX, tYesD, lcY, tgN, tgsNil, tgsCons, tgT, wipeE, keepB, List.map_cons, List.map_nil, List.replicate_succ, List.replicate_zero, List.cons_append, List.nil_append, List.append_nil, List.length_cons, List.length_nil, List.length_append, List.getElem?_cons_zero, List.getElem?_cons_succ, List.getElem?_nil, List.set_cons_zero, List.set_cons_succ, List.take_zero, List.take_succ_cons, List.take_nil, Option.map_some, Option.map_none, Option.bind_some, Option.bind_none, Nat.zero_add, Nat.add_zero, Nat.reduceAdd, Nat.reduceLeDiff, Nat.reduceSub, Nat.reduceEqDiff, Int.reduceLT, Int.reduceLE, Int.reduceEq, Int.reduceNeg, Int.reduceAdd, Int.reduceSub, Int.reduceMul, decide_true, decide_false, ↓reduceIte, decide_eq_true_eq, Bool.not_eq_true', decide_eq_false_iff_not, Bool.false_eq_true, Bool.true_eq_false, Bool.not_true, Bool.not_false, true_and, and_true, and_self, false_and, and_false, cap]
theorem fTup2 (x y : D) (S : Store) : fTup [.d x, .d y] S = .ok (.d (.tup [x, y])) S := by simp only [funD, finF, fin, sNil, sSeq, sEx, sRet, sRetN, sAsg, sNew, sIf, sAsgT, sPar, sFrz, sRetC, sNever, sBrk, sCont, sFor, eVar, eC, eBin, eUn, eTest, eAnd, eOr, eNot, eIf, eChain, eNil, eCons, eCall, eSl, eoN, eoS, eApp, eExt, ePop, sSet, itV, itR1, itR2, itEn, itZ, eLc, asB, clo, fTup, fLst, fAddL, fMulL, fI, fAdd, fSub, fMul, fDiv, fMod, fPow, fNeg, fLt, fLe, fGt, fGe, fEq, fNe, fIx, fIsN, fNotN, Pd.isNon, fLen, fAbs, fInt, fTuple, fList, fSum, fAll, fAny, fMax2, fMin2, isiD, fIsi, fSl, fRev, fSorted, fRepr, rd, R.bind, R.fl, F.lp, noX, tYesD, lcY, tgN, tgsNil, tgsCons, tgT, wipeE, keepB, List.map_cons, List.map_nil, List.replicate_succ, List.replicate_zero, List.cons_append, List.nil_append, List.append_nil, List.length_cons, List.length_nil, List.length_append, List.getElem?_cons_zero, List.getElem?_cons_succ, List.getElem?_nil, List.set_cons_zero, List.set_cons_succ, List.take_zero, List.take_succ_cons, List.take_nil, Option.map_some, Option.map_none, Option.bind_some, Option.bind_none, Nat.zero_add, Nat.add_zero, Nat.reduceAdd, Nat.reduceLeDiff, Nat.reduceSub, Nat.reduceEqDiff, Int.reduceLT, Int.reduceLE, Int.reduceEq, Int.reduceNeg, Int.reduceAdd, Int.reduceSub, Int.reduceMul, decide_true, decide_false, ↓reduceIte, decide_eq_true_eq, Bool.not_eq_true', decide_eq_false_iff_not, Bool.false_eq_true, Bool.true_eq_false, Bool.not_true, Bool.not_false, true_and, and_true, and_self, false_and, and_false, cap]
theorem right_ex (a b c0 size : Int) (z0 : 0 < size) (z1 : size ≤ 10 ^ 50) : ∃ a' c', d__law_right [.cell 0, .d (.int size)] [dice a b c0] = .ok (.d (.bl true)) [dice a' b c'] := by
  obtain ⟨c, a1, y1, hc, lc, bc, e1⟩ := law_shape_ex a b c0 [] 4 size (by decide) z0 (by omega)
  obtain ⟨p, a2, y2, hp, lp, sp, bp, e2⟩ := wider_ex a1 b y1 c size hc (by omega) (by omega) z0 (by omega)
  obtain ⟨q, a3, y3, hq, lq, sq, bq, e3⟩ := wider_ex a2 b y2 c size hc (by omega) (by omega) z0 (by omega)
  obtain ⟨n, a4, y4, n0, n1, e4⟩ := far_ex a3 b y3 size [] z0 (by omega)
  have okc : OkS c := okS_of hc (by omega) (by omega)
  have okp : OkS p := okS_of hp (by omega) (by omega)
  have okq : OkS q := okS_of hq (by omega) (by omega)
  have hf := four_sh hp sp sq n0
  have lf := four_len hc hp sp sq n0 (m := 5) (by omega) (by omega) (by omega)
  have nf := four_nu hc hp sp sq n0 okp.len okq.len
  have f0 : nu (four c p q n) 0 = maxI (nu p 0) (nu q 0) + n := nf 0
  have fb : nu (four c p q n) 0 ≤ 10 ^ 52 := by
    have := mx (nu p 0) (nu q 0)
    omega
  have okf : OkS (four c p q n) := okS_of hf (by omega) (by omega)
  obtain ⟨g, a5, y5, hg, lg, sgf, bg, e5⟩ := wider_ex a4 b y4 (four c p q n) size hf (by omega) (by omega) z0 (by omega)
  have okg : OkS g := okS_of hg (by omega) (by omega)
  have scc : Strip c c := fun k => ⟨Int.le_refl _, hc.dec k⟩
  have hf2 := four_sh (q := q) hc scc sq n0
  have lf2 := four_len hc hc scc sq n0 (m := 5) (by omega) (by omega) (by omega)
  have nf2 : nu (four c c q n) 0 = maxI (nu c 0) (nu q 0) + n := four_nu hc hc scc sq n0 okc.len okq.len 0
  have okf2 : OkS (four c c q n) := okS_of hf2 (by omega) (by
    rw [nf2]
    have := mx (nu c 0) (nu q 0)
    omega)
  have sf1 := four_strip1 hc hp sp sq n0 okp.len okq.len
  have sf2 := four_strip2 hc hp sp sq n0 okp.len okq.len
  have cf := corn_four hc hp sp sq n0 okp.len okq.len
  have nb : n ≤ 10 ^ 64 := by omega
  have okqp : OkS (four c q p n) := by rw [four_comm]; exact okf
  obtain ⟨a6, y6, ew⟩ := wide_ex a5 b y5 size c (four c p q n) p q n (some (tI c)) (some (tI g)) (some (.d (.bl (sqB (four c p q n) p q n g)))) okp okq (by omega) (by omega) z0 (by omega)
  have D1 : ∀ S, d_fourth_shape [tI c, tI p, tI q, .d (.int n)] S = .ok (tI (four c p q n)) S := fun S => fourth_shape_ex c p q n S okc okp okq sp sq n0 nb okf
  have D2 : ∀ S, d_fourth_shape [tI c, tI q, tI p, .d (.int n)] S = .ok (tI (four c p q n)) S := fun S => by
    have := fourth_shape_ex c q p n S okc okq okp sq sp n0 nb okqp
    rw [four_comm c q p] at this
    exact this
  have D3 : ∀ S, d_corner_back [tI p, tI q, tI (four c p q n)] S = .ok (.d (.tup [.tup (c.map .int), .int n])) S := fun S => by
    have := corner_back_ex p q (four c p q n) S okp okq okf sf1 sf2
    rw [cf.1, cf.2] at this
    exact this
  have D4 : ∀ v S, OkS v → d_is_square [tI c, tI p, tI q, .d (.int n), tI v] S = .ok (.d (.bl (decide (four c p q n = v)))) S := fun v S hv => by
    rw [← sqB_of hc hp hq sp sq]
    exact is_square_ex c p q n v S okc okp okq n0 nb hv
  have D5 : ∀ S, d_fourth_shape [tI c, tI c, tI q, .d (.int n)] S = .ok (tI (four c c q n)) S := fun S => fourth_shape_ex c c q n S okc okc okq scc sq n0 nb okf2
  have D6 : ∀ S, d_is_square [tI c, tI p, tI q, .d (.int (n + 1)), tI (four c p q n)] S = .ok (.d (.bl false)) S := fun S => by
    have := is_square_ex c p q (n + 1) (four c p q n) S okc okp okq (by omega) (by omega) okf
    rw [sqB_of hc hp hq sp sq, decide_eq_false (fun h => by
      have h2 := (corn_four hc hp sp sq (n := n + 1) (by omega) okp.len okq.len).2
      rw [h, cf.2] at h2
      omega)] at this
    exact this
  have fsum := four_sum hc hp hq sp sq n0 okc.len okp.len okq.len
  have T1 : ∀ S, eTest (eOr (eBin fNe (eCall d_fourth_shape (eCons (eVar 2) (eCons (eVar 11) (eCons (eVar 12) (eCons (eVar 13) eNil))))) (eVar 3)) (eOr (eBin fNe (eCall d_fourth_shape (eCons (eVar 2) (eCons (eVar 12) (eCons (eVar 11) (eCons (eVar 13) eNil))))) (eVar 3)) (eBin fNe (eCall d_corner_back (eCons (eVar 11) (eCons (eVar 12) (eCons (eVar 3) eNil)))) (eCall fTup (eCons (eVar 2) (eCons (eVar 13) eNil)))))) (en size c (four c p q n) none none none none none none none p q n none none none none) S = .ok false S := fun S =>
    tor_f (t_i (b2 (c4 rfl rfl rfl rfl (D1 S)) rfl (fNe_same _ S (fit_intsT 59 _)))) (tor_f (t_i (b2 (c4 rfl rfl rfl rfl (D2 S)) rfl (fNe_same _ S (fit_intsT 59 _)))) (t_i (b2 (c3 rfl rfl rfl (D3 S)) (c2 rfl rfl (fTup2 _ _ S)) (fNe_same _ S (fit_pair _ _)))))
  have T2 : ∀ S, eTest (eOr (eBin fNotB (eCall d_is_square (eCons (eVar 2) (eCons (eVar 11) (eCons (eVar 12) (eCons (eVar 13) (eCons (eVar 3) eNil)))))) (eC (.bl true))) (eBin fNe (eBin fAdd (eUn fSum (eVar 3)) (eUn fSum (eVar 2))) (eBin fAdd (eBin fAdd (eUn fSum (eVar 11)) (eUn fSum (eVar 12))) (eVar 13)))) (en size c (four c p q n) none none none none none none none p q n none none none none) S = .ok false S := fun S => by
    have hs : ∀ (i : Nat) (l : List Int), (en size c (four c p q n) none none none none none none none p q n none none none none)[i]? = some (some (tI l)) → eUn fSum (eVar i) (en size c (four c p q n) none none none none none none none p q n none none none none) S = .ok (.d (.int l.sum)) S := fun i l h => by
      simp only [eUn, eVar, h, R.bind, fSum, rd, asInts_map]
    refine tor_f (t_i (b2 (x := .d (.bl true)) (S1 := S) (c5 rfl rfl rfl rfl rfl ?_) rfl rfl)) (t_i (b2 (b2 (hs 3 _ rfl) (hs 2 _ rfl) rfl) (b2 (b2 (hs 11 _ rfl) (hs 12 _ rfl) rfl) rfl rfl) ?_))
    · rw [D4 _ S okf, decide_eq_true rfl]
    · rw [fNe_int, fsum]
      simp
  have T3 : ∀ S, eTest (eOr (eBin fNe (eCall d_fourth_shape (eCons (eVar 2) (eCons (eVar 2) (eCons (eVar 12) (eCons (eVar 13) eNil))))) (eCall d__law_fourth (eCons (eVar 2) (eCons (eVar 2) (eCons (eVar 12) (eCons (eVar 13) eNil)))))) (eNot (eCall d__law_is_strip (eCons (eVar 3) (eCons (eVar 11) eNil))))) (en size c (four c p q n) none none none none none none none p q n none none none none) S = .ok false S := fun S => by
    have x := lstrip_ex (four c p q n) p S okf.len okp.len hf.p0 hp.p0
    rw [(strB_iff hf.p0 hp.p0).mpr sf1] at x
    exact tor_f (t_i (b2 (c4 rfl rfl rfl rfl (D5 S)) (c4 rfl rfl rfl rfl (lfourth_ex c c q n S)) (fNe_same _ S (fit_intsT 59 _)))) (not_i (c2 rfl rfl x))
  have T4 : ∀ S o4, eTest (eBin fNotB (eCall d_is_square (eCons (eVar 2) (eCons (eVar 11) (eCons (eVar 12) (eCons (eBin fAdd (eVar 13) (eC (.int 1))) (eCons (eVar 3) eNil)))))) (eC (.bl false))) (en size c (four c p q n) o4 none none none none none none p q n none none none none) S = .ok false S := fun S o4 =>
    t_i (b2 (c5 (u := .d (.int (n + 1))) rfl rfl rfl rfl rfl (D6 S)) rfl rfl)
  obtain ⟨Γ', S', eL, rfl, rfl⟩ := forD_inv (tg := tgN 4) (body := bV) ([four c p q n ++ [1], (four c p q n).dropLast, (nu (four c p q n) 0 + 1) :: (four c p q n).drop 1, p, c].map fun v => D.tup (v.map .int))
    (fun i Γ S' => Γ = en size c (four c p q n) (if i = 0 then none else if i = 1 then some (tI (four c p q n ++ [1])) else if i = 2 then some (tI (four c p q n).dropLast) else if i = 3 then some (tI ((nu (four c p q n) 0 + 1) :: (four c p q n).drop 1)) else if i = 4 then some (tI p) else some (tI c)) none none none none none none p q n none none none none ∧ S' = [dice a4 b y4])
    (Γ := en size c (four c p q n) none none none none none none none p q n none none none none) (S := [dice a4 b y4]) ⟨rfl, rfl⟩ (by
      rintro i x Γ S' hx ⟨rfl, rfl⟩
      have hv : ∀ v, OkS v → bV (en size c (four c p q n) (some (tI v)) none none none none none none p q n none none none none) [dice a4 b y4] = .nx (en size c (four c p q n) (some (tI v)) none none none none none none p q n none none none none) [dice a4 b y4] := fun v hv => by
        refine if_f (t_i (b2 (c5 rfl rfl rfl rfl rfl (D4 v _ hv)) (b2 rfl rfl (fEq_ints v (four c p q n) _)) ?_)) rfl
        rw [fNe_bl]
        have : decide (four c p q n = v) = decide (v = four c p q n) := by
          rw [decide_eq_decide]
          exact eq_comm
        rw [this]
        simp
      have ok1 : OkS (four c p q n ++ [1]) := okS_of (sh_app1 hf) (by rw [List.length_append]; show _ + 1 ≤ 8; omega) (by
        rw [nu_app1]
        split
        · omega
        · split <;> omega)
      have ok2 : OkS (four c p q n).dropLast := okS_of (sh_dl hf) (by rw [List.length_dropLast]; omega) (by
        rw [nu_dl]
        split <;> omega)
      have ok3 : OkS ((nu (four c p q n) 0 + 1) :: (four c p q n).drop 1) := okS_of (sh_up hf) (by rw [List.length_cons, List.length_drop]; omega) (by
        rw [nu_c0]
        omega)
      match i, hx with
      | 0, hx => cases hx; exact ⟨_, rfl, _, _, .inl (hv _ ok1), rfl, rfl⟩
      | 1, hx => cases hx; exact ⟨_, rfl, _, _, .inl (hv _ ok2), rfl, rfl⟩
      | 2, hx => cases hx; exact ⟨_, rfl, _, _, .inl (hv _ ok3), rfl, rfl⟩
      | 3, hx => cases hx; exact ⟨_, rfl, _, _, .inl (hv _ okp), rfl, rfl⟩
      | 4, hx => cases hx; exact ⟨_, rfl, _, _, .inl (hv _ okc), rfl, rfl⟩
      | i + 5, hx => cases hx)
  have eL : forD (tgN 4) bV ([four c p q n ++ [1], (four c p q n).dropLast, (nu (four c p q n) 0 + 1) :: (four c p q n).drop 1, p, c].map fun v => D.tup (v.map .int)) (en size c (four c p q n) none none none none none none none p q n none none none none) [dice a4 b y4] = .nx (en size c (four c p q n) (some (tI c)) none none none none none none p q n none none none none) [dice a4 b y4] := eL
  have hdue : ∀ S, eAnd (eCall d__law_is_strip (eCons (eVar 11) (eCons (eVar 3) eNil))) (eAnd (eCall d__law_is_strip (eCons (eVar 12) (eCons (eVar 3) eNil))) (eBin fEq (eCall d__law_fourth (eCons (eVar 3) (eCons (eVar 11) (eCons (eVar 12) (eCons (eVar 13) eNil))))) (eVar 5))) (en size c (four c p q n) (some (tI c)) (some (tI g)) none none none none none p q n none none none none) S = .ok (.d (.bl (sqB (four c p q n) p q n g))) S := fun S => by
    have x1 := lstrip_ex p (four c p q n) S okp.len okf.len hp.p0 hf.p0
    have x2 := lstrip_ex q (four c p q n) S okq.len okf.len hq.p0 hf.p0
    have x3 := lfourth_ex (four c p q n) p q n S
    unfold sqB
    cases k1 : strB p (four c p q n) with
    | false => rw [k1] at x1; exact and_f (t_i (c2 rfl rfl x1))
    | true =>
      rw [k1] at x1
      refine and_t (t_i (c2 rfl rfl x1)) ?_
      rw [Bool.true_and]
      cases k2 : strB q (four c p q n) with
      | false => rw [k2] at x2; exact and_f (t_i (c2 rfl rfl x2))
      | true =>
        rw [k2] at x2
        refine and_t (t_i (c2 rfl rfl x2)) ?_
        rw [Bool.true_and]
        exact b2 (c4 rfl rfl rfl rfl x3) rfl (fEq_ints _ _ S)
  have D7 : ∀ S, eTest (eBin fNe (eCall d_is_square (eCons (eVar 3) (eCons (eVar 11) (eCons (eVar 12) (eCons (eVar 13) (eCons (eVar 5) eNil)))))) (eVar 6)) (en size c (four c p q n) (some (tI c)) (some (tI g)) (some (.d (.bl (sqB (four c p q n) p q n g)))) none none none none p q n none none none none) S = .ok false S := fun S => by
    refine t_i (b2 (c5 rfl rfl rfl rfl rfl (is_square_ex (four c p q n) p q n g S okf okp okq n0 nb okg)) rfl ?_)
    rw [fNe_bl]
    simp
  have hitV : itV vals (en size c (four c p q n) none none none none none none none p q n none none none none) [dice a4 b y4] = .ok ([four c p q n ++ [1], (four c p q n).dropLast, (nu (four c p q n) 0 + 1) :: (four c p q n).drop 1, p, c].map fun v => D.tup (v.map .int)) [dice a4 b y4] := by
    show R.bind (vals _ _) _ = _
    rw [vals_ex size c (four c p q n) p q n none none none none none none none none none none none [dice a4 b y4] (by omega)]
    rfl
  refine ⟨a6, y6, funD_rt (sq_nx (asg_i (c3 rfl rfl rfl e1)) (sq_nx (asgT_i (c3 (c3 rfl rfl rfl e2) (c3 rfl rfl rfl e3) (c2 rfl rfl e4) (fTup3 _ _ _ _)) rfl) (sq_nx (asg_i (c4 rfl rfl rfl rfl (lfourth_ex c p q n _))) (sq_nx (if_f (T1 _) rfl) (sq_nx (if_f (T2 _) rfl) (sq_nx (if_f (T3 _) rfl) (sq_nx (for_i hitV eL) (sq_nx (if_f (T4 _ _) rfl) (sq_nx (asg_i (c3 rfl rfl rfl e5)) (sq_nx (asg_i (hdue [dice a5 b y5])) (sq_nx (if_f (D7 [dice a5 b y5]) rfl) ew))))))))))) rfl⟩
end L22

namespace L22
open PySem L2 Pd
abbrev ea (c : List Int) (o2 : Option Val) (p q : List Int) (n : Int) (f : List Int) (o7 o8 o9 o10 o11 o12 : Option Val) : Pd.Env :=
  [some (.cell 0), some (tI c), o2, some (tI p), some (tI q), some (.d (.int n)), some (tI f), o7, o8, o9, o10, o11, o12]
theorem tri_nu (x y z : Int) (h0 : 0 ≤ z) (h1 : z ≤ y) (h2 : y ≤ x) (i : Nat) : nu (leanL [x, y, z]) i = nu [x, y, z] i := by
  have e : leanL [x, y, z] = mkS (nu [x, y, z]) 3 := rfl
  have g0 : ∀ i, 0 ≤ nu [x, y, z] i := nu_nn (by simp; omega)
  have g1 : ∀ i, nu [x, y, z] (i + 1) ≤ nu [x, y, z] i := fun i => by
    match i with
    | 0 => exact h2
    | 1 => exact h1
    | 2 => exact h0
    | i + 3 => exact Int.le_refl _
  rw [e, mkS_nu 3 _ g0 g1]
  by_cases hi : i < 3
  · rw [if_pos hi]
  · rw [if_neg hi, nu_ge (by simp; omega)]
theorem tri_sh (x y z : Int) (h0 : 0 ≤ z) (h1 : z ≤ y) (h2 : y ≤ x) : Sh (leanL [x, y, z]) := ⟨fun a ha => of_decide_eq_true (List.mem_filter.mp ha).2, fun i => by
  rw [tri_nu x y z h0 h1 h2, tri_nu x y z h0 h1 h2]
  match i with
  | 0 => exact h2
  | 1 => exact h1
  | 2 => exact h0
  | i + 3 => exact Int.le_refl _⟩
theorem filter_one (n : Nat) (k : Nat) (hk : k < n) : (List.range n).filter (fun i => decide (i = k)) = [k] := by
  induction n with
  | zero => omega
  | succ n ih =>
    rw [List.range_succ, List.filter_append]
    by_cases h : k < n
    · rw [ih h]
      have : ¬ n = k := by omega
      simp [this]
    · obtain rfl : k = n := by omega
      have : (List.range k).filter (fun i => decide (i = k)) = [] := by
        rw [List.filter_eq_nil_iff]
        intro a ha
        have := List.mem_range.mp ha
        simp; omega
      rw [this]
      simp
abbrev fnd (c : List Int) (n : Nat) (b : Bool) : Val := .d (.lst (if b then [.tup [.tup (c.map .int), .int n]] else []))
/-- one turn of the inmost loop -/
theorem turn_ex (a b c0 : Int) (c p q : List Int) (n : Nat) (i j t : Nat) (bb : Bool) (o10 o11 o12 : Option Val) (hc : OkS c) (hp : OkS p) (hq : OkS q) (sp : Strip p c) (sq : Strip q c) (hn : n < 7) (h2 : nu c 2 = 0) (h3 : c.length ≤ 2) (b0 : i ≤ 100) (okf : OkS (four c p q n))
    (hj : j ≤ i) (ht : t ≤ j) (hb : (i = nu c 0 ∧ j = nu c 1 ∧ t = 0) → bb = false) :
    ∃ o7 o10', (o7 = fnd c n (bb || decide ((i : Int) = nu c 0 ∧ (j : Int) = nu c 1 ∧ t = 0))) ∧ bT (ea c (some (.d (.int i))) p q n (four c p q n) (some (fnd c n bb)) (some (.d (.int j))) (some (.d (.int t))) o10 o11 o12) [dice a b c0] = .nx (ea c (some (.d (.int i))) p q n (four c p q n) (some o7) (some (.d (.int j))) (some (.d (.int t))) o10' o11 o12) [dice a b c0] := by
  have N := tri_nu i j t (by omega) (by omega) (by omega)
  have hs := tri_sh i j t (by omega) (by omega) (by omega)
  have ls : (leanL [(i : Int), j, t]).length ≤ 3 := List.length_filter_le _ _
  have oks : OkS (leanL [(i : Int), j, t]) := okS_of hs (by omega) (by
    rw [N]
    show (i : Int) ≤ _
    omega)
  have e1 := lean_lc (itV (eCall fTup (eCons (eVar 2) (eCons (eVar 8) (eCons (eVar 9) eNil))))) 11 [(i : Int), j, t] (ea c (some (.d (.int i))) p q n (four c p q n) (some (fnd c n bb)) (some (.d (.int j))) (some (.d (.int t))) o10 o11 o12) [dice a b c0] [dice a b c0] (by
    show R.bind (eCall fTup _ _ _) _ = _
    rw [c3 rfl rfl rfl (fTup3 (.int i) (.int j) (.int t) _)]
    rfl) (by simp) (by simp)
  have x1 := lstrip_ex p (leanL [(i : Int), j, t]) [dice a b c0] hp.len oks.len hp.sh.p0 hs.p0
  have x2 := lstrip_ex q (leanL [(i : Int), j, t]) [dice a b c0] hq.len oks.len hq.sh.p0 hs.p0
  have same : leanL [(i : Int), j, t] = c ↔ ((i : Int) = nu c 0 ∧ (j : Int) = nu c 1 ∧ t = 0) := by
    constructor
    · intro h
      have n0 := N 0; have n1 := N 1; have n2 := N 2
      rw [h] at n0 n1 n2
      have n0 : nu c 0 = i := n0
      have n1 : nu c 1 = j := n1
      have n2 : nu c 2 = t := n2
      omega
    · intro ⟨q0, q1, q2⟩
      refine nu_ext hs.pos hc.sh.pos fun k => ?_
      rw [N]
      match k with
      | 0 => exact q0
      | 1 => exact q1
      | 2 => show (t : Int) = _; rw [h2, q2]; rfl
      | k + 3 => rw [nu_ge (ns := c) (by omega)]; rfl
  have cut : ∀ (b1 b2 : Bool), (b1 = false ∨ b2 = false) → (strB p (leanL [(i : Int), j, t]) = b1) → (strB q (leanL [(i : Int), j, t]) = b2) → decide ((i : Int) = nu c 0 ∧ (j : Int) = nu c 1 ∧ t = 0) = false := fun b1 b2 hh k1 k2 => by
    refine decide_eq_false fun hq' => ?_
    have e := same.mpr hq'
    rw [e] at k1 k2
    rw [(strB_iff hp.sh.p0 hc.sh.p0).mpr sp] at k1
    rw [(strB_iff hq.sh.p0 hc.sh.p0).mpr sq] at k2
    subst k1 k2
    rcases hh with h | h <;> cases h
  cases k1 : strB p (leanL [(i : Int), j, t]) with
  | false =>
    rw [k1] at x1
    rw [cut _ _ (.inl rfl) k1 rfl, Bool.or_false]
    exact ⟨_, some (tI (leanL [(i : Int), j, t])), rfl, sq_nx (asg_i e1) (if_f (tand_f (t_i (c2 rfl rfl x1))) rfl)⟩
  | true =>
    rw [k1] at x1
    cases k2 : strB q (leanL [(i : Int), j, t]) with
    | false =>
      rw [k2] at x2
      rw [cut _ _ (.inr rfl) k1 k2, Bool.or_false]
      exact ⟨_, some (tI (leanL [(i : Int), j, t])), rfl, sq_nx (asg_i e1) (if_f (tand_t (t_i (c2 rfl rfl x1)) (t_i (c2 rfl rfl x2))) rfl)⟩
    | true =>
      rw [k2] at x2
      have s1 := (strB_iff hp.sh.p0 hs.p0).mp k1
      have s2 := (strB_iff hq.sh.p0 hs.p0).mp k2
      have sqe : ∀ k : Nat, sqB (leanL [(i : Int), j, t]) p q (k : Int) (four c p q n) = decide (leanL [(i : Int), j, t] = c ∧ k = n) := fun k => by
        rw [sqB_of hs hp.sh hq.sh s1 s2, decide_eq_decide]
        constructor
        · intro h
          have u1 := corn_four hs hp.sh s1 s2 (n := k) (by omega) hp.len hq.len
          have u2 := corn_four hc.sh hp.sh sp sq (n := n) (by omega) hp.len hq.len
          rw [h, u2.1, u2.2] at u1
          exact ⟨u1.1.symm, by have := u1.2; omega⟩
        · rintro ⟨h, rfl⟩
          rw [h]
      have hlc : eLc (itR1 (eC (.int 7))) [12] (tgN 12) (eTest (eCall d_is_square (eCons (eVar 10) (eCons (eVar 3) (eCons (eVar 4) (eCons (eVar 12) (eCons (eVar 6) eNil))))))) (eCall fTup (eCons (eVar 10) (eCons (eVar 12) eNil))) (ea c (some (.d (.int i))) p q n (four c p q n) (some (fnd c n bb)) (some (.d (.int j))) (some (.d (.int t))) (some (tI (leanL [(i : Int), j, t]))) o11 o12) [dice a b c0] = .ok (.d (.lst (((List.range 7).filter fun k => decide (leanL [(i : Int), j, t] = c ∧ k = n)).map fun k => .tup [.tup ((leanL [(i : Int), j, t]).map .int), .int (k : Nat)]))) [dice a b c0] := by
        refine lc_i (S1 := [dice a b c0]) (itR1_i (n := 7) (m := 7) rfl rfl (by decide)) (by rw [upto_len]; decide) (lcD_filter (List.range 7) (fun k => .int (k : Nat)) _ _ fun k hk => ⟨ea c (some (.d (.int i))) p q n (four c p q n) (some (fnd c n bb)) (some (.d (.int j))) (some (.d (.int t))) (some (tI (leanL [(i : Int), j, t]))) o11 (some (.d (.int (k : Nat)))), rfl, ?_, fun _ => c2 rfl rfl (fTup2 _ _ _)⟩)
        have hk' := List.mem_range.mp hk
        have := is_square_ex (leanL [(i : Int), j, t]) p q (k : Int) (four c p q n) [dice a b c0] oks hp hq (by omega) (by omega) okf
        rw [sqe] at this
        exact t_i (c5 rfl rfl rfl rfl rfl this)
      have hfl : ((List.range 7).filter fun k => decide (leanL [(i : Int), j, t] = c ∧ k = n)).map (fun k => D.tup [.tup ((leanL [(i : Int), j, t]).map .int), .int (k : Nat)]) = if decide ((i : Int) = nu c 0 ∧ (j : Int) = nu c 1 ∧ t = 0) = true then [.tup [.tup (c.map .int), .int n]] else [] := by
        by_cases h : leanL [(i : Int), j, t] = c
        · rw [if_pos (decide_eq_true (same.mp h)), h]
          have : (fun k : Nat => decide (c = c ∧ k = n)) = fun k => decide (k = n) := by
            funext k
            simp
          rw [this, filter_one 7 n hn]
          rfl
        · rw [if_neg (by simpa using fun h' => h (same.mpr h'))]
          have : ((List.range 7).filter fun k => decide (leanL [(i : Int), j, t] = c ∧ k = n)) = [] := by
            rw [List.filter_eq_nil_iff]
            intro k _
            simp [h]
          rw [this]
          rfl
      rw [hfl] at hlc
      refine ⟨_, some (tI (leanL [(i : Int), j, t])), rfl, sq_nx (asg_i e1) (if_t (tand_t (t_i (c2 rfl rfl x1)) (t_i (c2 rfl rfl x2))) (asg_i (b2 rfl hlc ?_)))⟩
      cases hd : decide ((i : Int) = nu c 0 ∧ (j : Int) = nu c 1 ∧ t = 0) with
      | false =>
        cases bb
        · simp only [fnd, fAdd, cap]; rfl
        · simp only [fnd, fAdd, cap]; rfl
      | true =>
        rw [hb (of_decide_eq_true hd |> fun z => ⟨z.1, z.2.1, z.2.2⟩)]
        simp only [fnd, fAdd, cap]; rfl
theorem loop3 (a b c0 : Int) (c p q : List Int) (n : Nat) (i j : Nat) (bb : Bool) (o9 o10 o11 o12 : Option Val) (hc : OkS c) (hp : OkS p) (hq : OkS q) (sp : Strip p c) (sq : Strip q c) (hn : n < 7) (h2 : nu c 2 = 0) (h3 : c.length ≤ 2) (b0 : i ≤ 100) (okf : OkS (four c p q n))
    (hj : j ≤ i) (hb : ((i : Int) = nu c 0 ∧ (j : Int) = nu c 1) → bb = false) : ∃ o9' o10',
    forD (tgN 9) bT (upto (j + 1)) (ea c (some (.d (.int i))) p q n (four c p q n) (some (fnd c n bb)) (some (.d (.int j))) o9 o10 o11 o12) [dice a b c0] = .nx (ea c (some (.d (.int i))) p q n (four c p q n) (some (fnd c n (bb || decide ((i : Int) = nu c 0 ∧ (j : Int) = nu c 1)))) (some (.d (.int j))) o9' o10' o11 o12) [dice a b c0] := by
  obtain ⟨Γ', S', e, ⟨o9', o10', rfl, rfl⟩⟩ := forD_inv (tg := tgN 9) (body := bT) (upto (j + 1))
    (fun t Γ S' => ∃ o9 o10, Γ = ea c (some (.d (.int i))) p q n (four c p q n) (some (fnd c n (bb || decide ((i : Int) = nu c 0 ∧ (j : Int) = nu c 1 ∧ 0 < t)))) (some (.d (.int j))) o9 o10 o11 o12 ∧ S' = [dice a b c0])
    (Γ := ea c (some (.d (.int i))) p q n (four c p q n) (some (fnd c n bb)) (some (.d (.int j))) o9 o10 o11 o12) (S := [dice a b c0]) ⟨o9, o10, by simp, rfl⟩ (by
      rintro t x Γ S' hx ⟨o9, o10, rfl, rfl⟩
      obtain ⟨rfl, ht⟩ := upto_get hx
      obtain ⟨o7, o10', rfl, e⟩ := turn_ex a b c0 c p q n i j t (bb || decide ((i : Int) = nu c 0 ∧ (j : Int) = nu c 1 ∧ 0 < t)) o10 o11 o12 hc hp hq sp sq hn h2 h3 b0 okf hj (by omega) (fun ⟨z1, z2, z3⟩ => by
        rw [hb ⟨z1, z2⟩, z3]
        simp)
      refine ⟨_, rfl, _, _, .inl e, some (.d (.int t)), o10', ?_, rfl⟩
      have : (bb || decide ((i : Int) = nu c 0 ∧ (j : Int) = nu c 1 ∧ 0 < t) || decide ((i : Int) = nu c 0 ∧ (j : Int) = nu c 1 ∧ t = 0)) = (bb || decide ((i : Int) = nu c 0 ∧ (j : Int) = nu c 1 ∧ 0 < t + 1)) := by
        rw [Bool.or_assoc, ← Bool.decide_or]
        congr 1
        rw [decide_eq_decide]
        omega
      rw [this])
  rw [upto_len] at e
  have : decide ((i : Int) = nu c 0 ∧ (j : Int) = nu c 1 ∧ 0 < j + 1) = decide ((i : Int) = nu c 0 ∧ (j : Int) = nu c 1) := by
    rw [decide_eq_decide]
    omega
  rw [this] at e
  exact ⟨o9', o10', e⟩
abbrev l2 : Sv := sFor (itR1 (eBin fAdd (eVar 8) (eC (.int 1)))) (tgN 9) bT
abbrev l1 : Sv := sFor (itR1 (eBin fAdd (eVar 2) (eC (.int 1)))) (tgN 8) l2
theorem loop2 (a b c0 : Int) (c p q : List Int) (n : Nat) (i : Nat) (bb : Bool) (o8 o9 o10 o11 o12 : Option Val) (hc : OkS c) (hp : OkS p) (hq : OkS q) (sp : Strip p c) (sq : Strip q c) (hn : n < 7) (h2 : nu c 2 = 0) (h3 : c.length ≤ 2) (b0 : i ≤ 100) (okf : OkS (four c p q n))
    (hb : (i : Int) = nu c 0 → bb = false) : ∃ o8' o9' o10',
    l1 (ea c (some (.d (.int i))) p q n (four c p q n) (some (fnd c n bb)) o8 o9 o10 o11 o12) [dice a b c0] = .nx (ea c (some (.d (.int i))) p q n (four c p q n) (some (fnd c n (bb || decide ((i : Int) = nu c 0)))) o8' o9' o10' o11 o12) [dice a b c0] := by
  obtain ⟨Γ', S', e, ⟨o8', o9', o10', rfl, rfl⟩⟩ := forD_inv (tg := tgN 8) (body := l2) (upto (i + 1))
    (fun t Γ S' => ∃ o8 o9 o10, Γ = ea c (some (.d (.int i))) p q n (four c p q n) (some (fnd c n (bb || decide ((i : Int) = nu c 0 ∧ nu c 1 < t)))) o8 o9 o10 o11 o12 ∧ S' = [dice a b c0])
    (Γ := ea c (some (.d (.int i))) p q n (four c p q n) (some (fnd c n bb)) o8 o9 o10 o11 o12) (S := [dice a b c0]) ⟨o8, o9, o10, by
      have : decide ((i : Int) = nu c 0 ∧ nu c 1 < ((0 : Nat) : Int)) = false := decide_eq_false (by have := hc.sh.nn 1; omega)
      rw [this, Bool.or_false], rfl⟩ (by
      rintro t x Γ S' hx ⟨o8, o9, o10, rfl, rfl⟩
      obtain ⟨rfl, ht⟩ := upto_get hx
      obtain ⟨o9', o10', e⟩ := loop3 a b c0 c p q n i t (bb || decide ((i : Int) = nu c 0 ∧ nu c 1 < t)) o9 o10 o11 o12 hc hp hq sp sq hn h2 h3 b0 okf (by omega) (fun ⟨z1, z2⟩ => by
        rw [hb z1, decide_eq_false (by omega)]
        rfl)
      refine ⟨_, rfl, _, _, .inl (for_i (itR1_i (n := (t : Int) + 1) (m := t + 1) rfl rfl (by omega)) e), some (.d (.int t)), o9', o10', ?_, rfl⟩
      have : (bb || decide ((i : Int) = nu c 0 ∧ nu c 1 < t) || decide ((i : Int) = nu c 0 ∧ (t : Int) = nu c 1)) = (bb || decide ((i : Int) = nu c 0 ∧ nu c 1 < ((t + 1 : Nat) : Int))) := by
        rw [Bool.or_assoc, ← Bool.decide_or]
        congr 1
        rw [decide_eq_decide]
        omega
      rw [this])
  rw [upto_len] at e
  have : decide ((i : Int) = nu c 0 ∧ nu c 1 < ((i + 1 : Nat) : Int)) = decide ((i : Int) = nu c 0) := by
    rw [decide_eq_decide]
    have : nu c 1 ≤ nu c 0 := hc.sh.dec 0
    omega
  rw [this] at e
  exact ⟨o8', o9', o10', for_i (itR1_i (n := (i : Int) + 1) (m := i + 1) rfl rfl (by omega)) e⟩
theorem all_right_ex (a b c0 : Int) : ∃ a' c', d__law_all_right [.cell 0] [dice a b c0] = .ok (.d (.bl true)) [dice a' b c'] := by
  obtain ⟨c, a1, y1, hc, lc, bc, e1⟩ := law_shape_ex a b c0 [] 2 3 (by decide) (by decide) (by decide)
  obtain ⟨p, a2, y2, hp, lp, sp, bp, e2⟩ := wider_ex a1 b y1 c 3 hc (by omega) (by omega) (by decide) (by decide)
  obtain ⟨q, a3, y3, hq, lq, sq, bq, e3⟩ := wider_ex a2 b y2 c 3 hc (by omega) (by omega) (by decide) (by decide)
  obtain ⟨n', a4, y4, n0, n1, e4⟩ := roll_ex a3 b y3 3 [] (by decide) (divOk_l (by decide) (by decide))
  obtain ⟨n, rfl⟩ : ∃ m : Nat, n' = m := ⟨n'.toNat, by omega⟩
  have okc : OkS c := okS_of hc (by omega) (by omega)
  have okp : OkS p := okS_of hp (by omega) (by omega)
  have okq : OkS q := okS_of hq (by omega) (by omega)
  have hf := four_sh hp sp sq n0
  have lf := four_len hc hp sp sq n0 (m := 5) (by omega) (by omega) (by omega)
  have f0 : nu (four c p q n) 0 = maxI (nu p 0) (nu q 0) + n := four_nu hc hp sp sq n0 okp.len okq.len 0
  have okf : OkS (four c p q n) := okS_of hf (by omega) (by
    have := mx (nu p 0) (nu q 0)
    omega)
  have h2 : nu c 2 = 0 := nu_ge (by omega)
  have m1 := mn (nu p 0) (nu q 0)
  have pn := hp.nn 0
  have qn := hq.nn 0
  obtain ⟨m, hm⟩ : ∃ m : Nat, minI (nu p 0) (nu q 0) = m := ⟨(minI (nu p 0) (nu q 0)).toNat, by omega⟩
  obtain ⟨Γ', S', e, ⟨o2, o8, o9, o10, rfl, rfl⟩⟩ := forD_inv (tg := tgN 2) (body := l1) (upto (m + 1))
    (fun t Γ S' => ∃ o2 o8 o9 o10, Γ = ea c o2 p q n (four c p q n) (some (fnd c n (decide (nu c 0 < t)))) o8 o9 o10 none none ∧ S' = [dice a4 b y4])
    (Γ := ea c none p q n (four c p q n) (some (fnd c n false)) none none none none none) (S := [dice a4 b y4]) ⟨none, none, none, none, by
      have : decide (nu c 0 < ((0 : Nat) : Int)) = false := decide_eq_false (by have := hc.nn 0; omega)
      rw [this], rfl⟩ (by
      rintro t x Γ S' hx ⟨o2, o8, o9, o10, rfl, rfl⟩
      obtain ⟨rfl, ht⟩ := upto_get hx
      obtain ⟨o8', o9', o10', e⟩ := loop2 a4 b y4 c p q n t (decide (nu c 0 < t)) o8 o9 o10 none none okc okp okq sp sq (by omega) h2 lc (by omega) okf (fun z => decide_eq_false (by omega))
      refine ⟨_, rfl, _, _, .inl e, some (.d (.int t)), o8', o9', o10', ?_, rfl⟩
      have : (decide (nu c 0 < t) || decide ((t : Int) = nu c 0)) = decide (nu c 0 < ((t + 1 : Nat) : Int)) := by
        rw [← Bool.decide_or, decide_eq_decide]
        omega
      rw [this])
  rw [upto_len] at e
  have : decide (nu c 0 < ((m + 1 : Nat) : Int)) = true := decide_eq_true (by
    have := (sp 0).1; have := (sq 0).1
    omega)
  rw [this] at e
  have hit : itR1 (eBin fAdd (eBin fMin2 (eCall d__law_number (eCons (eVar 3) (eCons (eC (.int 0)) eNil))) (eCall d__law_number (eCons (eVar 4) (eCons (eC (.int 0)) eNil)))) (eC (.int 1))) (ea c none p q n (four c p q n) (some (fnd c n false)) none none none none none) [dice a4 b y4] = .ok (upto (m + 1)) [dice a4 b y4] :=
    itR1_i (n := minI (nu p 0) (nu q 0) + 1) (m := m + 1) (b2 (b2 (c2 rfl rfl (lnumber_ex p 0 _)) (c2 rfl rfl (lnumber_ex q 0 _)) rfl) rfl rfl) (by omega) (by omega)
  have nilE : ∀ Γ S, eCall fLst eNil Γ S = .ok (.d (.lst [])) S := fun Γ S => by simp only [funD, finF, fin, sNil, sSeq, sEx, sRet, sRetN, sAsg, sNew, sIf, sAsgT, sPar, sFrz, sRetC, sNever, sBrk, sCont, sFor, eVar, eC, eBin, eUn, eTest, eAnd, eOr, eNot, eIf, eChain, eNil, eCons, eCall, eSl, eoN, eoS, eApp, eExt, ePop, sSet, itV, itR1, itR2, itEn, itZ, eLc, asB, clo, fTup, fLst, fAddL, fMulL, fI, fAdd, fSub, fMul, fDiv, fMod, fPow, fNeg, fLt, fLe, fGt, fGe, fEq, fNe, fIx, fIsN, fNotN, Pd.isNon, fLen, fAbs, fInt, fTuple, fList, fSum, fAll, fAny, fMax2, fMin2, isiD, fIsi, fSl, fRev, fSorted, fRepr, rd, R.bind, R.fl, F.lp, noX, tYesD, lcY, tgN, tgsNil, tgsCons, tgT, wipeE, keepB, List.map_cons, List.map_nil, List.replicate_succ, List.replicate_zero, List.cons_append, List.nil_append, List.append_nil, List.length_cons, List.length_nil, List.length_append, List.getElem?_cons_zero, List.getElem?_cons_succ, List.getElem?_nil, List.set_cons_zero, List.set_cons_succ, List.take_zero, List.take_succ_cons, List.take_nil, Option.map_some, Option.map_none, Option.bind_some, Option.bind_none, Nat.zero_add, Nat.add_zero, Nat.reduceAdd, Nat.reduceLeDiff, Nat.reduceSub, Nat.reduceEqDiff, Int.reduceLT, Int.reduceLE, Int.reduceEq, Int.reduceNeg, Int.reduceAdd, Int.reduceSub, Int.reduceMul, decide_true, decide_false, ↓reduceIte, decide_eq_true_eq, Bool.not_eq_true', decide_eq_false_iff_not, Bool.false_eq_true, Bool.true_eq_false, Bool.not_true, Bool.not_false, true_and, and_true, and_self, false_and, and_false, cap]
  have fitR : fit 60 (.lst [.tup [.tup (c.map .int), .int n]]) = true := by
    have := fit_intsT 57 c
    unfold fit fitL fitL fit fitL fitL fitL
    rw [this, fit_int]
    rfl
  exact ⟨a4, y4, funD_rt (sq_nx (asg_i (c3 rfl rfl rfl e1)) (sq_nx (asgT_i (c3 (c3 rfl rfl rfl e2) (c3 rfl rfl rfl e3) (c2 rfl rfl e4) (fTup3 _ _ _ _)) rfl) (sq_nx (par_i (c4 rfl rfl rfl rfl (lfourth_ex c p q n _)) (nilE _ _)) (sq_nx (for_i hit e) (ret_i (b2 (y := .d (.lst [.tup [.tup (c.map .int), .int n]])) (S2 := [dice a4 b y4]) rfl (c1 (S1 := [dice a4 b y4]) (c2 rfl rfl (fTup2 _ _ _)) (by simp only [funD, finF, fin, sNil, sSeq, sEx, sRet, sRetN, sAsg, sNew, sIf, sAsgT, sPar, sFrz, sRetC, sNever, sBrk, sCont, sFor, eVar, eC, eBin, eUn, eTest, eAnd, eOr, eNot, eIf, eChain, eNil, eCons, eCall, eSl, eoN, eoS, eApp, eExt, ePop, sSet, itV, itR1, itR2, itEn, itZ, eLc, asB, clo, fTup, fLst, fAddL, fMulL, fI, fAdd, fSub, fMul, fDiv, fMod, fPow, fNeg, fLt, fLe, fGt, fGe, fEq, fNe, fIx, fIsN, fNotN, Pd.isNon, fLen, fAbs, fInt, fTuple, fList, fSum, fAll, fAny, fMax2, fMin2, isiD, fIsi, fSl, fRev, fSorted, fRepr, rd, R.bind, R.fl, F.lp, noX, tYesD, lcY, tgN, tgsNil, tgsCons, tgT, wipeE, keepB, List.map_cons, List.map_nil, List.replicate_succ, List.replicate_zero, List.cons_append, List.nil_append, List.append_nil, List.length_cons, List.length_nil, List.length_append, List.getElem?_cons_zero, List.getElem?_cons_succ, List.getElem?_nil, List.set_cons_zero, List.set_cons_succ, List.take_zero, List.take_succ_cons, List.take_nil, Option.map_some, Option.map_none, Option.bind_some, Option.bind_none, Nat.zero_add, Nat.add_zero, Nat.reduceAdd, Nat.reduceLeDiff, Nat.reduceSub, Nat.reduceEqDiff, Int.reduceLT, Int.reduceLE, Int.reduceEq, Int.reduceNeg, Int.reduceAdd, Int.reduceSub, Int.reduceMul, decide_true, decide_false, ↓reduceIte, decide_eq_true_eq, Bool.not_eq_true', decide_eq_false_iff_not, Bool.false_eq_true, Bool.true_eq_false, Bool.not_true, Bool.not_false, true_and, and_true, and_self, false_and, and_false, cap])) (fEq_same _ _ fitR))))))) rfl⟩
end L22

namespace L22
open PySem L2 Pd
theorem okS_lit (l : List Int) (h1 : l.length ≤ 8) (h2 : ∀ x ∈ l, 0 < x) (h3 : gos l = true) (h4 : ∀ x ∈ l, x ≤ 10 ^ 60) : OkS l := by
  have pw : ∀ l : List Int, gos l = true → ∀ i, i + 1 < l.length → nu l (i + 1) ≤ nu l i := fun l => by
    induction l with
    | nil => intro _ i h; simp at h
    | cons x l ih =>
      intro h i hi
      cases l with
      | nil => simp at hi
      | cons y l =>
        unfold gos at h ih
        simp only [List.drop_succ_cons, List.drop_zero, List.zip_cons_cons, List.all_cons, Bool.and_eq_true] at h ih
        cases i with
        | zero => rw [nu_cs, nu_c0, nu_c0]; exact of_decide_eq_true h.1
        | succ i =>
          rw [nu_cs, nu_cs]
          exact ih h.2 i (by simpa using hi)
  have sh : Sh l := ⟨h2, fun i => by
    by_cases hi : i + 1 < l.length
    · exact pw l h3 i hi
    · rw [nu_ge (by omega)]
      exact nu_nn (fun x hx => Int.le_of_lt (h2 x hx)) i⟩
  refine okS_of sh h1 ?_
  by_cases hz : 0 < l.length
  · rw [nu_lt hz]; exact h4 _ (List.getElem_mem hz)
  · rw [nu_ge (by omega)]; decide
theorem str_lit {o i : List Int} (h : strB o i = true) (ho : OkS o) (hi : OkS i) : Strip o i := (strB_iff ho.sh.p0 hi.sh.p0).mp h
theorem law_den (ns : List Int) (h : ns.length ≤ 63) : d_law [.d (.scr ns)] [] = .ok (.d (.bl true)) [] := by
  have ec : cap = 1000000 := rfl
  obtain ⟨m, hm, hm2⟩ : ∃ m : Nat, m ≤ 3 ∧ eBin fMax2 (eC (.int 1)) (eBin fMin2 (eC (.int 3)) (eUn fLen (eVar 0))) [some (.d (.scr ns)), none, none, none] [] = .ok (.d (.int m)) [] := by
    refine ⟨(if (if (ns.length : Int) < 3 then (ns.length : Int) else 3) > 1 then (if (ns.length : Int) < 3 then (ns.length : Int) else 3) else 1).toNat, ?_, ?_⟩
    · split <;> (try split) <;> omega
    · simp only [funD, finF, fin, sNil, sSeq, sEx, sRet, sRetN, sAsg, sNew, sIf, sAsgT, sPar, sFrz, sRetC, sNever, sBrk, sCont, sFor, eVar, eC, eBin, eUn, eTest, eAnd, eOr, eNot, eIf, eChain, eNil, eCons, eCall, eSl, eoN, eoS, eApp, eExt, ePop, sSet, itV, itR1, itR2, itEn, itZ, eLc, asB, clo, fTup, fLst, fAddL, fMulL, fI, fAdd, fSub, fMul, fDiv, fMod, fPow, fNeg, fLt, fLe, fGt, fGe, fEq, fNe, fIx, fIsN, fNotN, Pd.isNon, fLen, fAbs, fInt, fTuple, fList, fSum, fAll, fAny, fMax2, fMin2, isiD, fIsi, fSl, fRev, fSorted, fRepr, rd, R.bind, R.fl, F.lp, noX, tYesD, lcY, tgN, tgsNil, tgsCons, tgT, wipeE, keepB, List.map_cons, List.map_nil, List.replicate_succ, List.replicate_zero, List.cons_append, List.nil_append, List.append_nil, List.length_cons, List.length_nil, List.length_append, List.getElem?_cons_zero, List.getElem?_cons_succ, List.getElem?_nil, List.set_cons_zero, List.set_cons_succ, List.take_zero, List.take_succ_cons, List.take_nil, Option.map_some, Option.map_none, Option.bind_some, Option.bind_none, Nat.zero_add, Nat.add_zero, Nat.reduceAdd, Nat.reduceLeDiff, Nat.reduceSub, Nat.reduceEqDiff, Int.reduceLT, Int.reduceLE, Int.reduceEq, Int.reduceNeg, Int.reduceAdd, Int.reduceSub, Int.reduceMul, decide_true, decide_false, ↓reduceIte, decide_eq_true_eq, Bool.not_eq_true', decide_eq_false_iff_not, Bool.false_eq_true, Bool.true_eq_false, Bool.not_true, Bool.not_false, true_and, and_true, and_self, false_and, and_false]
      congr 3
      split <;> (try split) <;> omega
  have p50 : ∀ Γ S, eBin fPow (eC (.int 10)) (eC (.int 50)) Γ S = .ok (.d (.int (10 ^ 50))) S := fun Γ S => by
    have p3 : powOk 10 50 = true := powOk_l (by decide) (by decide) (by decide)
    have e50 : (10 : Int) ^ Int.toNat 50 = 10 ^ 50 := rfl
    simp only [funD, finF, fin, sNil, sSeq, sEx, sRet, sRetN, sAsg, sNew, sIf, sAsgT, sPar, sFrz, sRetC, sNever, sBrk, sCont, sFor, eVar, eC, eBin, eUn, eTest, eAnd, eOr, eNot, eIf, eChain, eNil, eCons, eCall, eSl, eoN, eoS, eApp, eExt, ePop, sSet, itV, itR1, itR2, itEn, itZ, eLc, asB, clo, fTup, fLst, fAddL, fMulL, fI, fAdd, fSub, fMul, fDiv, fMod, fPow, fNeg, fLt, fLe, fGt, fGe, fEq, fNe, fIx, fIsN, fNotN, Pd.isNon, fLen, fAbs, fInt, fTuple, fList, fSum, fAll, fAny, fMax2, fMin2, isiD, fIsi, fSl, fRev, fSorted, fRepr, rd, R.bind, R.fl, F.lp, noX, tYesD, lcY, tgN, tgsNil, tgsCons, tgT, wipeE, keepB, List.map_cons, List.map_nil, List.replicate_succ, List.replicate_zero, List.cons_append, List.nil_append, List.append_nil, List.length_cons, List.length_nil, List.length_append, List.getElem?_cons_zero, List.getElem?_cons_succ, List.getElem?_nil, List.set_cons_zero, List.set_cons_succ, List.take_zero, List.take_succ_cons, List.take_nil, Option.map_some, Option.map_none, Option.bind_some, Option.bind_none, Nat.zero_add, Nat.add_zero, Nat.reduceAdd, Nat.reduceLeDiff, Nat.reduceSub, Nat.reduceEqDiff, Int.reduceLT, Int.reduceLE, Int.reduceEq, Int.reduceNeg, Int.reduceAdd, Int.reduceSub, Int.reduceMul, decide_true, decide_false, ↓reduceIte, decide_eq_true_eq, Bool.not_eq_true', decide_eq_false_iff_not, Bool.false_eq_true, Bool.true_eq_false, Bool.not_true, Bool.not_false, true_and, and_true, and_self, false_and, and_false, p3, e50]
  obtain ⟨Γ', S', e, ⟨o1, o3, rfl, rfl⟩⟩ := forD_inv (tg := tgN 1) (body := sSeq (sNew 3 (eCall d__law_dice (eCons (eVar 0) (eCons (eVar 1) eNil)))) (sSeq (sIf (eOr (eNot (eCall d__law_right (eCons (eVar 3) (eCons (eC (.int 4)) eNil)))) (eOr (eNot (eCall d__law_right (eCons (eVar 3) (eCons (eC (.int 4)) eNil)))) (eNot (eCall d__law_right (eCons (eVar 3) (eCons (eBin fPow (eC (.int 10)) (eC (.int 50))) eNil)))))) (sRet (eC (.bl false))) sNil) (sSeq (sIf (eNot (eCall d__law_all_right (eCons (eVar 3) eNil))) (sRet (eC (.bl false))) sNil) (sSeq (sFrz 0 3) sNil)))) (upto m)
    (fun i Γ S' => ∃ o1 o3 : Option D, Γ = [some (.d (.scr ns)), o1.map .d, none, o3.map .d] ∧ S' = []) (Γ := [some (.d (.scr ns)), none, none, none]) (S := []) ⟨none, none, rfl, rfl⟩ (by
      rintro i x Γ S' hx ⟨o1, o3, rfl, rfl⟩
      obtain ⟨rfl, hi⟩ := upto_get hx
      obtain ⟨a, b, c, e1⟩ := dice_ex ns i []
      obtain ⟨a1, c1', e2⟩ := right_ex a b c 4 (by decide) (by decide)
      obtain ⟨a2, c2', e3⟩ := right_ex a1 b c1' 4 (by decide) (by decide)
      obtain ⟨a3, c3', e4⟩ := right_ex a2 b c2' (10 ^ 50) (by decide) (by decide)
      obtain ⟨a4, c4', e5⟩ := all_right_ex a3 b c3'
      refine ⟨_, rfl, [some (.d (.scr ns)), some (.d (.int i)), none, some (.d (.lst [.int a4, .int b, .int c4']))], [], .inl (sq_nx (new_i (S1 := []) (c2 rfl rfl e1)) (sq_nx (if_f (tor_f (not_i (p := true) (c2 rfl rfl e2)) (tor_f (not_i (p := true) (c2 rfl rfl e3)) (not_i (p := true) (c2 rfl (p50 _ _) e4)))) rfl) (sq_nx (if_f (not_i (p := true) (c1 rfl e5)) rfl) (sq_nx ?_ rfl)))), some (.int i), some (.lst [.int a4, .int b, .int c4']), rfl, rfl⟩
      simp only [funD, finF, fin, sNil, sSeq, sEx, sRet, sRetN, sAsg, sNew, sIf, sAsgT, sPar, sFrz, sRetC, sNever, sBrk, sCont, sFor, eVar, eC, eBin, eUn, eTest, eAnd, eOr, eNot, eIf, eChain, eNil, eCons, eCall, eSl, eoN, eoS, eApp, eExt, ePop, sSet, itV, itR1, itR2, itEn, itZ, eLc, asB, clo, fTup, fLst, fAddL, fMulL, fI, fAdd, fSub, fMul, fDiv, fMod, fPow, fNeg, fLt, fLe, fGt, fGe, fEq, fNe, fIx, fIsN, fNotN, Pd.isNon, fLen, fAbs, fInt, fTuple, fList, fSum, fAll, fAny, fMax2, fMin2, isiD, fIsi, fSl, fRev, fSorted, fRepr, rd, R.bind, R.fl, F.lp, noX, tYesD, lcY, tgN, tgsNil, tgsCons, tgT, wipeE, keepB, List.map_cons, List.map_nil, List.replicate_succ, List.replicate_zero, List.cons_append, List.nil_append, List.append_nil, List.length_cons, List.length_nil, List.length_append, List.getElem?_cons_zero, List.getElem?_cons_succ, List.getElem?_nil, List.set_cons_zero, List.set_cons_succ, List.take_zero, List.take_succ_cons, List.take_nil, Option.map_some, Option.map_none, Option.bind_some, Option.bind_none, Nat.zero_add, Nat.add_zero, Nat.reduceAdd, Nat.reduceLeDiff, Nat.reduceSub, Nat.reduceEqDiff, Int.reduceLT, Int.reduceLE, Int.reduceEq, Int.reduceNeg, Int.reduceAdd, Int.reduceSub, Int.reduceMul, decide_true, decide_false, ↓reduceIte, decide_eq_true_eq, Bool.not_eq_true', decide_eq_false_iff_not, Bool.false_eq_true, Bool.true_eq_false, Bool.not_true, Bool.not_false, true_and, and_true, and_self, false_and, and_false, dice])
  have o0 : OkS [] := okS_lit [] (by decide) (by decide) rfl (by decide)
  have o1' : OkS [1] := okS_lit [1] (by decide) (by decide) rfl (by decide)
  have o2' : OkS [2] := okS_lit [2] (by decide) (by decide) rfl (by decide)
  have o3' : OkS [3] := okS_lit [3] (by decide) (by decide) rfl (by decide)
  have ok : OkS [1000] := okS_lit [1000] (by decide) (by decide) rfl (by decide)
  have o11 : OkS [1, 1] := okS_lit [1, 1] (by decide) (by decide) (by decide) (by decide)
  have o21 : OkS [2, 1] := okS_lit [2, 1] (by decide) (by decide) (by decide) (by decide)
  have o31 : OkS [3, 1] := okS_lit [3, 1] (by decide) (by decide) (by decide) (by decide)
  have o43 : OkS [1004, 3] := okS_lit [1004, 3] (by decide) (by decide) (by decide) (by decide)
  have f1 : four [] [1] [1] 0 = [1, 1] := by decide
  have f2 : four [] [1000] [3] 4 = [1004, 3] := by decide
  have f3 : four [1] [1, 1] [2] 0 = [2, 1] := by decide
  have q1 : ∀ S, d_fourth_shape [tI [], tI [1], tI [1], .d (.int 0)] S = .ok (tI [1, 1]) S := fun S => by
    have := fourth_shape_ex [] [1] [1] 0 S o0 o1' o1' (str_lit (by decide) o1' o0) (str_lit (by decide) o1' o0) (by decide) (by decide) (by rw [f1]; exact o11)
    rw [f1] at this
    exact this
  have q2 : ∀ S, d_fourth_shape [tI [], tI [1000], tI [3], .d (.int 4)] S = .ok (tI [1004, 3]) S := fun S => by
    have := fourth_shape_ex [] [1000] [3] 4 S o0 ok o3' (str_lit (by decide) ok o0) (str_lit (by decide) o3' o0) (by decide) (by decide) (by rw [f2]; exact o43)
    rw [f2] at this
    exact this
  have q3 : ∀ S, d_fourth_shape [tI [1], tI [1, 1], tI [2], .d (.int 0)] S = .ok (tI [2, 1]) S := fun S => by
    have := fourth_shape_ex [1] [1, 1] [2] 0 S o1' o11 o2' (str_lit (by decide) o11 o1') (str_lit (by decide) o2' o1') (by decide) (by decide) (by rw [f3]; exact o21)
    rw [f3] at this
    exact this
  have q4 : ∀ S, d_is_square [tI [2], tI [1], tI [2], .d (.int 0), tI [2]] S = .ok (.d (.bl false)) S := fun S => by
    have := is_square_ex [2] [1] [2] 0 [2] S o2' o1' o2' (by decide) (by decide) o2'
    have e : sqB [2] [1] [2] 0 [2] = false := by decide
    rw [e] at this
    exact this
  have q5 : ∀ S, d_corner_back [tI [1], tI [1], tI [2]] S = .ok (.d (.tup [.tup [.int 1], .int 1])) S := fun S =>
    corner_back_ex [1] [1] [2] S o1' o1' o2' (str_lit (by decide) o2' o1') (str_lit (by decide) o2' o1')
  have q6 : ∀ S, d_corner_back [tI [3], tI [2], tI [3, 1]] S = .ok (.d (.tup [.tup [.int 1], .int 0])) S := fun S =>
    corner_back_ex [3] [2] [3, 1] S o3' o2' o31 (str_lit (by decide) o31 o3') (str_lit (by decide) o31 o2')
  have p3 : ∀ Γ S, eBin fPow (eC (.int 10)) (eC (.int 3)) Γ S = .ok (.d (.int 1000)) S := fun Γ S => by
    have p3 : powOk 10 3 = true := powOk_l (by decide) (by decide) (by decide)
    have e3 : (10 : Int) ^ Int.toNat 3 = 1000 := rfl
    simp only [funD, finF, fin, sNil, sSeq, sEx, sRet, sRetN, sAsg, sNew, sIf, sAsgT, sPar, sFrz, sRetC, sNever, sBrk, sCont, sFor, eVar, eC, eBin, eUn, eTest, eAnd, eOr, eNot, eIf, eChain, eNil, eCons, eCall, eSl, eoN, eoS, eApp, eExt, ePop, sSet, itV, itR1, itR2, itEn, itZ, eLc, asB, clo, fTup, fLst, fAddL, fMulL, fI, fAdd, fSub, fMul, fDiv, fMod, fPow, fNeg, fLt, fLe, fGt, fGe, fEq, fNe, fIx, fIsN, fNotN, Pd.isNon, fLen, fAbs, fInt, fTuple, fList, fSum, fAll, fAny, fMax2, fMin2, isiD, fIsi, fSl, fRev, fSorted, fRepr, rd, R.bind, R.fl, F.lp, noX, tYesD, lcY, tgN, tgsNil, tgsCons, tgT, wipeE, keepB, List.map_cons, List.map_nil, List.replicate_succ, List.replicate_zero, List.cons_append, List.nil_append, List.append_nil, List.length_cons, List.length_nil, List.length_append, List.getElem?_cons_zero, List.getElem?_cons_succ, List.getElem?_nil, List.set_cons_zero, List.set_cons_succ, List.take_zero, List.take_succ_cons, List.take_nil, Option.map_some, Option.map_none, Option.bind_some, Option.bind_none, Nat.zero_add, Nat.add_zero, Nat.reduceAdd, Nat.reduceLeDiff, Nat.reduceSub, Nat.reduceEqDiff, Int.reduceLT, Int.reduceLE, Int.reduceEq, Int.reduceNeg, Int.reduceAdd, Int.reduceSub, Int.reduceMul, decide_true, decide_false, ↓reduceIte, decide_eq_true_eq, Bool.not_eq_true', decide_eq_false_iff_not, Bool.false_eq_true, Bool.true_eq_false, Bool.not_true, Bool.not_false, true_and, and_true, and_self, false_and, and_false, p3, e3]
  have u0 : ∀ Γ S, eCall fTup eNil Γ S = .ok (tI []) S := fun Γ S => by simp only [funD, finF, fin, sNil, sSeq, sEx, sRet, sRetN, sAsg, sNew, sIf, sAsgT, sPar, sFrz, sRetC, sNever, sBrk, sCont, sFor, eVar, eC, eBin, eUn, eTest, eAnd, eOr, eNot, eIf, eChain, eNil, eCons, eCall, eSl, eoN, eoS, eApp, eExt, ePop, sSet, itV, itR1, itR2, itEn, itZ, eLc, asB, clo, fTup, fLst, fAddL, fMulL, fI, fAdd, fSub, fMul, fDiv, fMod, fPow, fNeg, fLt, fLe, fGt, fGe, fEq, fNe, fIx, fIsN, fNotN, Pd.isNon, fLen, fAbs, fInt, fTuple, fList, fSum, fAll, fAny, fMax2, fMin2, isiD, fIsi, fSl, fRev, fSorted, fRepr, rd, R.bind, R.fl, F.lp, noX, tYesD, lcY, tgN, tgsNil, tgsCons, tgT, wipeE, keepB, List.map_cons, List.map_nil, List.replicate_succ, List.replicate_zero, List.cons_append, List.nil_append, List.append_nil, List.length_cons, List.length_nil, List.length_append, List.getElem?_cons_zero, List.getElem?_cons_succ, List.getElem?_nil, List.set_cons_zero, List.set_cons_succ, List.take_zero, List.take_succ_cons, List.take_nil, Option.map_some, Option.map_none, Option.bind_some, Option.bind_none, Nat.zero_add, Nat.add_zero, Nat.reduceAdd, Nat.reduceLeDiff, Nat.reduceSub, Nat.reduceEqDiff, Int.reduceLT, Int.reduceLE, Int.reduceEq, Int.reduceNeg, Int.reduceAdd, Int.reduceSub, Int.reduceMul, decide_true, decide_false, ↓reduceIte, decide_eq_true_eq, Bool.not_eq_true', decide_eq_false_iff_not, Bool.false_eq_true, Bool.true_eq_false, Bool.not_true, Bool.not_false, true_and, and_true, and_self, false_and, and_false, cap, tI]
  have u1' : ∀ (e : Ev) (i : Int) Γ S, e Γ S = .ok (.d (.int i)) S → eCall fTup (eCons e eNil) Γ S = .ok (tI [i]) S := fun e i Γ S h => c1 h (by simp only [funD, finF, fin, sNil, sSeq, sEx, sRet, sRetN, sAsg, sNew, sIf, sAsgT, sPar, sFrz, sRetC, sNever, sBrk, sCont, sFor, eVar, eC, eBin, eUn, eTest, eAnd, eOr, eNot, eIf, eChain, eNil, eCons, eCall, eSl, eoN, eoS, eApp, eExt, ePop, sSet, itV, itR1, itR2, itEn, itZ, eLc, asB, clo, fTup, fLst, fAddL, fMulL, fI, fAdd, fSub, fMul, fDiv, fMod, fPow, fNeg, fLt, fLe, fGt, fGe, fEq, fNe, fIx, fIsN, fNotN, Pd.isNon, fLen, fAbs, fInt, fTuple, fList, fSum, fAll, fAny, fMax2, fMin2, isiD, fIsi, fSl, fRev, fSorted, fRepr, rd, R.bind, R.fl, F.lp, noX, tYesD, lcY, tgN, tgsNil, tgsCons, tgT, wipeE, keepB, List.map_cons, List.map_nil, List.replicate_succ, List.replicate_zero, List.cons_append, List.nil_append, List.append_nil, List.length_cons, List.length_nil, List.length_append, List.getElem?_cons_zero, List.getElem?_cons_succ, List.getElem?_nil, List.set_cons_zero, List.set_cons_succ, List.take_zero, List.take_succ_cons, List.take_nil, Option.map_some, Option.map_none, Option.bind_some, Option.bind_none, Nat.zero_add, Nat.add_zero, Nat.reduceAdd, Nat.reduceLeDiff, Nat.reduceSub, Nat.reduceEqDiff, Int.reduceLT, Int.reduceLE, Int.reduceEq, Int.reduceNeg, Int.reduceAdd, Int.reduceSub, Int.reduceMul, decide_true, decide_false, ↓reduceIte, decide_eq_true_eq, Bool.not_eq_true', decide_eq_false_iff_not, Bool.false_eq_true, Bool.true_eq_false, Bool.not_true, Bool.not_false, true_and, and_true, and_self, false_and, and_false, cap, tI])
  have u2' : ∀ (i j : Int) Γ S, eCall fTup (eCons (eC (.int i)) (eCons (eC (.int j)) eNil)) Γ S = .ok (tI [i, j]) S := fun i j Γ S => by simp only [funD, finF, fin, sNil, sSeq, sEx, sRet, sRetN, sAsg, sNew, sIf, sAsgT, sPar, sFrz, sRetC, sNever, sBrk, sCont, sFor, eVar, eC, eBin, eUn, eTest, eAnd, eOr, eNot, eIf, eChain, eNil, eCons, eCall, eSl, eoN, eoS, eApp, eExt, ePop, sSet, itV, itR1, itR2, itEn, itZ, eLc, asB, clo, fTup, fLst, fAddL, fMulL, fI, fAdd, fSub, fMul, fDiv, fMod, fPow, fNeg, fLt, fLe, fGt, fGe, fEq, fNe, fIx, fIsN, fNotN, Pd.isNon, fLen, fAbs, fInt, fTuple, fList, fSum, fAll, fAny, fMax2, fMin2, isiD, fIsi, fSl, fRev, fSorted, fRepr, rd, R.bind, R.fl, F.lp, noX, tYesD, lcY, tgN, tgsNil, tgsCons, tgT, wipeE, keepB, List.map_cons, List.map_nil, List.replicate_succ, List.replicate_zero, List.cons_append, List.nil_append, List.append_nil, List.length_cons, List.length_nil, List.length_append, List.getElem?_cons_zero, List.getElem?_cons_succ, List.getElem?_nil, List.set_cons_zero, List.set_cons_succ, List.take_zero, List.take_succ_cons, List.take_nil, Option.map_some, Option.map_none, Option.bind_some, Option.bind_none, Nat.zero_add, Nat.add_zero, Nat.reduceAdd, Nat.reduceLeDiff, Nat.reduceSub, Nat.reduceEqDiff, Int.reduceLT, Int.reduceLE, Int.reduceEq, Int.reduceNeg, Int.reduceAdd, Int.reduceSub, Int.reduceMul, decide_true, decide_false, ↓reduceIte, decide_eq_true_eq, Bool.not_eq_true', decide_eq_false_iff_not, Bool.false_eq_true, Bool.true_eq_false, Bool.not_true, Bool.not_false, true_and, and_true, and_self, false_and, and_false, cap, tI]
  have lst3 : ∀ (x y z : D) S, fLst [.d x, .d y, .d z] S = .ok (.d (.lst [x, y, z])) S := fun x y z S => by simp only [funD, finF, fin, sNil, sSeq, sEx, sRet, sRetN, sAsg, sNew, sIf, sAsgT, sPar, sFrz, sRetC, sNever, sBrk, sCont, sFor, eVar, eC, eBin, eUn, eTest, eAnd, eOr, eNot, eIf, eChain, eNil, eCons, eCall, eSl, eoN, eoS, eApp, eExt, ePop, sSet, itV, itR1, itR2, itEn, itZ, eLc, asB, clo, fTup, fLst, fAddL, fMulL, fI, fAdd, fSub, fMul, fDiv, fMod, fPow, fNeg, fLt, fLe, fGt, fGe, fEq, fNe, fIx, fIsN, fNotN, Pd.isNon, fLen, fAbs, fInt, fTuple, fList, fSum, fAll, fAny, fMax2, fMin2, isiD, fIsi, fSl, fRev, fSorted, fRepr, rd, R.bind, R.fl, F.lp, noX, tYesD, lcY, tgN, tgsNil, tgsCons, tgT, wipeE, keepB, List.map_cons, List.map_nil, List.replicate_succ, List.replicate_zero, List.cons_append, List.nil_append, List.append_nil, List.length_cons, List.length_nil, List.length_append, List.getElem?_cons_zero, List.getElem?_cons_succ, List.getElem?_nil, List.set_cons_zero, List.set_cons_succ, List.take_zero, List.take_succ_cons, List.take_nil, Option.map_some, Option.map_none, Option.bind_some, Option.bind_none, Nat.zero_add, Nat.add_zero, Nat.reduceAdd, Nat.reduceLeDiff, Nat.reduceSub, Nat.reduceEqDiff, Int.reduceLT, Int.reduceLE, Int.reduceEq, Int.reduceNeg, Int.reduceAdd, Int.reduceSub, Int.reduceMul, decide_true, decide_false, ↓reduceIte, decide_eq_true_eq, Bool.not_eq_true', decide_eq_false_iff_not, Bool.false_eq_true, Bool.true_eq_false, Bool.not_true, Bool.not_false, true_and, and_true, and_self, false_and, and_false, cap]
  have lst2 : ∀ (x y : D) S, fLst [.d x, .d y] S = .ok (.d (.lst [x, y])) S := fun x y S => by simp only [funD, finF, fin, sNil, sSeq, sEx, sRet, sRetN, sAsg, sNew, sIf, sAsgT, sPar, sFrz, sRetC, sNever, sBrk, sCont, sFor, eVar, eC, eBin, eUn, eTest, eAnd, eOr, eNot, eIf, eChain, eNil, eCons, eCall, eSl, eoN, eoS, eApp, eExt, ePop, sSet, itV, itR1, itR2, itEn, itZ, eLc, asB, clo, fTup, fLst, fAddL, fMulL, fI, fAdd, fSub, fMul, fDiv, fMod, fPow, fNeg, fLt, fLe, fGt, fGe, fEq, fNe, fIx, fIsN, fNotN, Pd.isNon, fLen, fAbs, fInt, fTuple, fList, fSum, fAll, fAny, fMax2, fMin2, isiD, fIsi, fSl, fRev, fSorted, fRepr, rd, R.bind, R.fl, F.lp, noX, tYesD, lcY, tgN, tgsNil, tgsCons, tgT, wipeE, keepB, List.map_cons, List.map_nil, List.replicate_succ, List.replicate_zero, List.cons_append, List.nil_append, List.append_nil, List.length_cons, List.length_nil, List.length_append, List.getElem?_cons_zero, List.getElem?_cons_succ, List.getElem?_nil, List.set_cons_zero, List.set_cons_succ, List.take_zero, List.take_succ_cons, List.take_nil, Option.map_some, Option.map_none, Option.bind_some, Option.bind_none, Nat.zero_add, Nat.add_zero, Nat.reduceAdd, Nat.reduceLeDiff, Nat.reduceSub, Nat.reduceEqDiff, Int.reduceLT, Int.reduceLE, Int.reduceEq, Int.reduceNeg, Int.reduceAdd, Int.reduceSub, Int.reduceMul, decide_true, decide_false, ↓reduceIte, decide_eq_true_eq, Bool.not_eq_true', decide_eq_false_iff_not, Bool.false_eq_true, Bool.true_eq_false, Bool.not_true, Bool.not_false, true_and, and_true, and_self, false_and, and_false, cap]
  have fitA : fit 60 (.lst [.tup ([1, 1].map .int), .tup ([1004, 3].map .int), .tup ([2, 1].map .int)]) = true := by simp [fit, fitL]
  have fitB : fit 60 (.lst [.tup [.tup [.int 1], .int 1], .tup [.tup [.int 1], .int 0]]) = true := by simp [fit, fitL]
  refine funD_rt (sq_nx (for_i (itR1_i hm2 rfl (by omega)) e) (sq_nx (asg_i (c3 (c4 (u0 _ _) (u1' _ _ _ _ rfl) (u1' _ _ _ _ rfl) rfl (q1 _)) (c4 (u0 _ _) (u1' _ _ _ _ (p3 _ _)) (u1' _ _ _ _ rfl) rfl (q2 _)) (c4 (u1' _ _ _ _ rfl) (u2' _ _ _ _) (u1' _ _ _ _ rfl) rfl (q3 _)) (lst3 _ _ _ _))) (sq_nx (if_f (tor_f (t_i (b2 rfl (c3 (u2' _ _ _ _) (u2' _ _ _ _) (u2' _ _ _ _) (lst3 _ _ _ _)) (fNe_same _ _ fitA))) (t_i (b2 (c5 (u1' _ _ _ _ rfl) (u1' _ _ _ _ rfl) (u1' _ _ _ _ rfl) rfl (u1' _ _ _ _ rfl) (q4 _)) rfl rfl))) rfl) (ret_i (b2 (c2 (c3 (u1' _ _ _ _ rfl) (u1' _ _ _ _ rfl) (u1' _ _ _ _ rfl) (q5 _)) (c3 (u1' _ _ _ _ rfl) (u1' _ _ _ _ rfl) (u2' _ _ _ _) (q6 _)) (lst2 _ _ _)) (c2 (c2 (u1' _ _ _ _ rfl) rfl (fTup2 _ _ _)) (c2 (u1' _ _ _ _ rfl) rfl (fTup2 _ _ _)) (lst2 _ _ _)) (fEq_same _ _ fitB)))))) rfl
end L22

namespace L22
open PySem PySem.Spec PyProof.Rows L2 Pd
theorem all_mk {l : PySem.W.OpenLaw} {w : World} {K : PySem.W.Frag} {h : Heap} {mg : Str → Option Value} {fa : Addr} (X : K.In h) (G : h.Ns mainGlobals mg) (hfa : mg "law" = some (.ref fa))
    {f_is_integer : Addr} {oc_is_integer kV_is_integer dc_is_integer pm_is_integer cd_is_integer ct_is_integer : Value} {od_is_integer an_is_integer : Option Addr} {sl_is_integer : Array (Option Value)}
    (a_is_integer : PySem.W.nsIn K mainGlobals "is_integer" = some (some (.ref f_is_integer))) (l_is_integer : K.lookup f_is_integer = some ⟨oc_is_integer, od_is_integer, .func (PySem.W.fnOf "is_integer" "is_integer" (defArgs s_is_integer) (defBody s_is_integer) (defScope s_is_integer) .none kV_is_integer dc_is_integer pm_is_integer an_is_integer cd_is_integer ct_is_integer), sl_is_integer⟩) (c_is_integer : PySem.W.codeIn K cd_is_integer "is_integer" = true) (k_is_integer : PySem.W.keepIn K (.ref f_is_integer) = true)
    {f_is_within : Addr} {oc_is_within kV_is_within dc_is_within pm_is_within cd_is_within ct_is_within : Value} {od_is_within an_is_within : Option Addr} {sl_is_within : Array (Option Value)}
    (a_is_within : PySem.W.nsIn K mainGlobals "is_within" = some (some (.ref f_is_within))) (l_is_within : K.lookup f_is_within = some ⟨oc_is_within, od_is_within, .func (PySem.W.fnOf "is_within" "is_within" (defArgs s_is_within) (defBody s_is_within) (defScope s_is_within) .none kV_is_within dc_is_within pm_is_within an_is_within cd_is_within ct_is_within), sl_is_within⟩) (c_is_within : PySem.W.codeIn K cd_is_within "is_within" = true) (k_is_within : PySem.W.keepIn K (.ref f_is_within) = true)
    {f_falls_never_up : Addr} {oc_falls_never_up kV_falls_never_up dc_falls_never_up pm_falls_never_up cd_falls_never_up ct_falls_never_up : Value} {od_falls_never_up an_falls_never_up : Option Addr} {sl_falls_never_up : Array (Option Value)}
    (a_falls_never_up : PySem.W.nsIn K mainGlobals "falls_never_up" = some (some (.ref f_falls_never_up))) (l_falls_never_up : K.lookup f_falls_never_up = some ⟨oc_falls_never_up, od_falls_never_up, .func (PySem.W.fnOf "falls_never_up" "falls_never_up" (defArgs s_falls_never_up) (defBody s_falls_never_up) (defScope s_falls_never_up) .none kV_falls_never_up dc_falls_never_up pm_falls_never_up an_falls_never_up cd_falls_never_up ct_falls_never_up), sl_falls_never_up⟩) (c_falls_never_up : PySem.W.codeIn K cd_falls_never_up "falls_never_up" = true) (k_falls_never_up : PySem.W.keepIn K (.ref f_falls_never_up) = true)
    {f_require_within : Addr} {oc_require_within kV_require_within dc_require_within pm_require_within cd_require_within ct_require_within : Value} {od_require_within an_require_within : Option Addr} {sl_require_within : Array (Option Value)}
    (a_require_within : PySem.W.nsIn K mainGlobals "require_within" = some (some (.ref f_require_within))) (l_require_within : K.lookup f_require_within = some ⟨oc_require_within, od_require_within, .func (PySem.W.fnOf "require_within" "require_within" (defArgs s_require_within) (defBody s_require_within) (defScope s_require_within) .none kV_require_within dc_require_within pm_require_within an_require_within cd_require_within ct_require_within), sl_require_within⟩) (c_require_within : PySem.W.codeIn K cd_require_within "require_within" = true) (k_require_within : PySem.W.keepIn K (.ref f_require_within) = true)
    {f_is_shape_in : Addr} {oc_is_shape_in kV_is_shape_in dc_is_shape_in pm_is_shape_in cd_is_shape_in ct_is_shape_in : Value} {od_is_shape_in an_is_shape_in : Option Addr} {sl_is_shape_in : Array (Option Value)}
    (a_is_shape_in : PySem.W.nsIn K mainGlobals "is_shape_in" = some (some (.ref f_is_shape_in))) (l_is_shape_in : K.lookup f_is_shape_in = some ⟨oc_is_shape_in, od_is_shape_in, .func (PySem.W.fnOf "is_shape_in" "is_shape_in" (defArgs s_is_shape_in) (defBody s_is_shape_in) (defScope s_is_shape_in) .none kV_is_shape_in dc_is_shape_in pm_is_shape_in an_is_shape_in cd_is_shape_in ct_is_shape_in), sl_is_shape_in⟩) (c_is_shape_in : PySem.W.codeIn K cd_is_shape_in "is_shape_in" = true) (k_is_shape_in : PySem.W.keepIn K (.ref f_is_shape_in) = true)
    {f_number_of : Addr} {oc_number_of kV_number_of dc_number_of pm_number_of cd_number_of ct_number_of : Value} {od_number_of an_number_of : Option Addr} {sl_number_of : Array (Option Value)}
    (a_number_of : PySem.W.nsIn K mainGlobals "number_of" = some (some (.ref f_number_of))) (l_number_of : K.lookup f_number_of = some ⟨oc_number_of, od_number_of, .func (PySem.W.fnOf "number_of" "number_of" (defArgs s_number_of) (defBody s_number_of) (defScope s_number_of) .none kV_number_of dc_number_of pm_number_of an_number_of cd_number_of ct_number_of), sl_number_of⟩) (c_number_of : PySem.W.codeIn K cd_number_of "number_of" = true) (k_number_of : PySem.W.keepIn K (.ref f_number_of) = true)
    {f_lean_shape : Addr} {oc_lean_shape kV_lean_shape dc_lean_shape pm_lean_shape cd_lean_shape ct_lean_shape : Value} {od_lean_shape an_lean_shape : Option Addr} {sl_lean_shape : Array (Option Value)}
    (a_lean_shape : PySem.W.nsIn K mainGlobals "lean_shape" = some (some (.ref f_lean_shape))) (l_lean_shape : K.lookup f_lean_shape = some ⟨oc_lean_shape, od_lean_shape, .func (PySem.W.fnOf "lean_shape" "lean_shape" (defArgs s_lean_shape) (defBody s_lean_shape) (defScope s_lean_shape) .none kV_lean_shape dc_lean_shape pm_lean_shape an_lean_shape cd_lean_shape ct_lean_shape), sl_lean_shape⟩) (c_lean_shape : PySem.W.codeIn K cd_lean_shape "lean_shape" = true) (k_lean_shape : PySem.W.keepIn K (.ref f_lean_shape) = true)
    {f_is_inside_in : Addr} {oc_is_inside_in kV_is_inside_in dc_is_inside_in pm_is_inside_in cd_is_inside_in ct_is_inside_in : Value} {od_is_inside_in an_is_inside_in : Option Addr} {sl_is_inside_in : Array (Option Value)}
    (a_is_inside_in : PySem.W.nsIn K mainGlobals "is_inside_in" = some (some (.ref f_is_inside_in))) (l_is_inside_in : K.lookup f_is_inside_in = some ⟨oc_is_inside_in, od_is_inside_in, .func (PySem.W.fnOf "is_inside_in" "is_inside_in" (defArgs s_is_inside_in) (defBody s_is_inside_in) (defScope s_is_inside_in) .none kV_is_inside_in dc_is_inside_in pm_is_inside_in an_is_inside_in cd_is_inside_in ct_is_inside_in), sl_is_inside_in⟩) (c_is_inside_in : PySem.W.codeIn K cd_is_inside_in "is_inside_in" = true) (k_is_inside_in : PySem.W.keepIn K (.ref f_is_inside_in) = true)
    {f_is_strip_in : Addr} {oc_is_strip_in kV_is_strip_in dc_is_strip_in pm_is_strip_in cd_is_strip_in ct_is_strip_in : Value} {od_is_strip_in an_is_strip_in : Option Addr} {sl_is_strip_in : Array (Option Value)}
    (a_is_strip_in : PySem.W.nsIn K mainGlobals "is_strip_in" = some (some (.ref f_is_strip_in))) (l_is_strip_in : K.lookup f_is_strip_in = some ⟨oc_is_strip_in, od_is_strip_in, .func (PySem.W.fnOf "is_strip_in" "is_strip_in" (defArgs s_is_strip_in) (defBody s_is_strip_in) (defScope s_is_strip_in) .none kV_is_strip_in dc_is_strip_in pm_is_strip_in an_is_strip_in cd_is_strip_in ct_is_strip_in), sl_is_strip_in⟩) (c_is_strip_in : PySem.W.codeIn K cd_is_strip_in "is_strip_in" = true) (k_is_strip_in : PySem.W.keepIn K (.ref f_is_strip_in) = true)
    {f_require_shape : Addr} {oc_require_shape kV_require_shape dc_require_shape pm_require_shape cd_require_shape ct_require_shape : Value} {od_require_shape an_require_shape : Option Addr} {sl_require_shape : Array (Option Value)}
    (a_require_shape : PySem.W.nsIn K mainGlobals "require_shape" = some (some (.ref f_require_shape))) (l_require_shape : K.lookup f_require_shape = some ⟨oc_require_shape, od_require_shape, .func (PySem.W.fnOf "require_shape" "require_shape" (defArgs s_require_shape) (defBody s_require_shape) (defScope s_require_shape) .none kV_require_shape dc_require_shape pm_require_shape an_require_shape cd_require_shape ct_require_shape), sl_require_shape⟩) (c_require_shape : PySem.W.codeIn K cd_require_shape "require_shape" = true) (k_require_shape : PySem.W.keepIn K (.ref f_require_shape) = true)
    {f_fourth_in : Addr} {oc_fourth_in kV_fourth_in dc_fourth_in pm_fourth_in cd_fourth_in ct_fourth_in : Value} {od_fourth_in an_fourth_in : Option Addr} {sl_fourth_in : Array (Option Value)}
    (a_fourth_in : PySem.W.nsIn K mainGlobals "fourth_in" = some (some (.ref f_fourth_in))) (l_fourth_in : K.lookup f_fourth_in = some ⟨oc_fourth_in, od_fourth_in, .func (PySem.W.fnOf "fourth_in" "fourth_in" (defArgs s_fourth_in) (defBody s_fourth_in) (defScope s_fourth_in) .none kV_fourth_in dc_fourth_in pm_fourth_in an_fourth_in cd_fourth_in ct_fourth_in), sl_fourth_in⟩) (c_fourth_in : PySem.W.codeIn K cd_fourth_in "fourth_in" = true) (k_fourth_in : PySem.W.keepIn K (.ref f_fourth_in) = true)
    {f_corner_in : Addr} {oc_corner_in kV_corner_in dc_corner_in pm_corner_in cd_corner_in ct_corner_in : Value} {od_corner_in an_corner_in : Option Addr} {sl_corner_in : Array (Option Value)}
    (a_corner_in : PySem.W.nsIn K mainGlobals "corner_in" = some (some (.ref f_corner_in))) (l_corner_in : K.lookup f_corner_in = some ⟨oc_corner_in, od_corner_in, .func (PySem.W.fnOf "corner_in" "corner_in" (defArgs s_corner_in) (defBody s_corner_in) (defScope s_corner_in) .none kV_corner_in dc_corner_in pm_corner_in an_corner_in cd_corner_in ct_corner_in), sl_corner_in⟩) (c_corner_in : PySem.W.codeIn K cd_corner_in "corner_in" = true) (k_corner_in : PySem.W.keepIn K (.ref f_corner_in) = true)
    {f_require_shapes : Addr} {oc_require_shapes kV_require_shapes dc_require_shapes pm_require_shapes cd_require_shapes ct_require_shapes : Value} {od_require_shapes an_require_shapes : Option Addr} {sl_require_shapes : Array (Option Value)}
    (a_require_shapes : PySem.W.nsIn K mainGlobals "require_shapes" = some (some (.ref f_require_shapes))) (l_require_shapes : K.lookup f_require_shapes = some ⟨oc_require_shapes, od_require_shapes, .func (PySem.W.fnOf "require_shapes" "require_shapes" (defArgs s_require_shapes) (defBody s_require_shapes) (defScope s_require_shapes) .none kV_require_shapes dc_require_shapes pm_require_shapes an_require_shapes cd_require_shapes ct_require_shapes), sl_require_shapes⟩) (c_require_shapes : PySem.W.codeIn K cd_require_shapes "require_shapes" = true) (k_require_shapes : PySem.W.keepIn K (.ref f_require_shapes) = true)
    {f_fourth_shape : Addr} {oc_fourth_shape kV_fourth_shape dc_fourth_shape pm_fourth_shape cd_fourth_shape ct_fourth_shape : Value} {od_fourth_shape an_fourth_shape : Option Addr} {sl_fourth_shape : Array (Option Value)}
    (a_fourth_shape : PySem.W.nsIn K mainGlobals "fourth_shape" = some (some (.ref f_fourth_shape))) (l_fourth_shape : K.lookup f_fourth_shape = some ⟨oc_fourth_shape, od_fourth_shape, .func (PySem.W.fnOf "fourth_shape" "fourth_shape" (defArgs s_fourth_shape) (defBody s_fourth_shape) (defScope s_fourth_shape) .none kV_fourth_shape dc_fourth_shape pm_fourth_shape an_fourth_shape cd_fourth_shape ct_fourth_shape), sl_fourth_shape⟩) (c_fourth_shape : PySem.W.codeIn K cd_fourth_shape "fourth_shape" = true) (k_fourth_shape : PySem.W.keepIn K (.ref f_fourth_shape) = true)
    {f_corner_back : Addr} {oc_corner_back kV_corner_back dc_corner_back pm_corner_back cd_corner_back ct_corner_back : Value} {od_corner_back an_corner_back : Option Addr} {sl_corner_back : Array (Option Value)}
    (a_corner_back : PySem.W.nsIn K mainGlobals "corner_back" = some (some (.ref f_corner_back))) (l_corner_back : K.lookup f_corner_back = some ⟨oc_corner_back, od_corner_back, .func (PySem.W.fnOf "corner_back" "corner_back" (defArgs s_corner_back) (defBody s_corner_back) (defScope s_corner_back) .none kV_corner_back dc_corner_back pm_corner_back an_corner_back cd_corner_back ct_corner_back), sl_corner_back⟩) (c_corner_back : PySem.W.codeIn K cd_corner_back "corner_back" = true) (k_corner_back : PySem.W.keepIn K (.ref f_corner_back) = true)
    {f_is_square : Addr} {oc_is_square kV_is_square dc_is_square pm_is_square cd_is_square ct_is_square : Value} {od_is_square an_is_square : Option Addr} {sl_is_square : Array (Option Value)}
    (a_is_square : PySem.W.nsIn K mainGlobals "is_square" = some (some (.ref f_is_square))) (l_is_square : K.lookup f_is_square = some ⟨oc_is_square, od_is_square, .func (PySem.W.fnOf "is_square" "is_square" (defArgs s_is_square) (defBody s_is_square) (defScope s_is_square) .none kV_is_square dc_is_square pm_is_square an_is_square cd_is_square ct_is_square), sl_is_square⟩) (c_is_square : PySem.W.codeIn K cd_is_square "is_square" = true) (k_is_square : PySem.W.keepIn K (.ref f_is_square) = true)
    {f__law_dice : Addr} {oc__law_dice kV__law_dice dc__law_dice pm__law_dice cd__law_dice ct__law_dice : Value} {od__law_dice an__law_dice : Option Addr} {sl__law_dice : Array (Option Value)}
    (a__law_dice : PySem.W.nsIn K mainGlobals "_law_dice" = some (some (.ref f__law_dice))) (l__law_dice : K.lookup f__law_dice = some ⟨oc__law_dice, od__law_dice, .func (PySem.W.fnOf "_law_dice" "_law_dice" (defArgs s__law_dice) (defBody s__law_dice) (defScope s__law_dice) .none kV__law_dice dc__law_dice pm__law_dice an__law_dice cd__law_dice ct__law_dice), sl__law_dice⟩) (c__law_dice : PySem.W.codeIn K cd__law_dice "_law_dice" = true) (k__law_dice : PySem.W.keepIn K (.ref f__law_dice) = true)
    {f__law_roll : Addr} {oc__law_roll kV__law_roll dc__law_roll pm__law_roll cd__law_roll ct__law_roll : Value} {od__law_roll an__law_roll : Option Addr} {sl__law_roll : Array (Option Value)}
    (a__law_roll : PySem.W.nsIn K mainGlobals "_law_roll" = some (some (.ref f__law_roll))) (l__law_roll : K.lookup f__law_roll = some ⟨oc__law_roll, od__law_roll, .func (PySem.W.fnOf "_law_roll" "_law_roll" (defArgs s__law_roll) (defBody s__law_roll) (defScope s__law_roll) .none kV__law_roll dc__law_roll pm__law_roll an__law_roll cd__law_roll ct__law_roll), sl__law_roll⟩) (c__law_roll : PySem.W.codeIn K cd__law_roll "_law_roll" = true) (k__law_roll : PySem.W.keepIn K (.ref f__law_roll) = true)
    {f__law_far : Addr} {oc__law_far kV__law_far dc__law_far pm__law_far cd__law_far ct__law_far : Value} {od__law_far an__law_far : Option Addr} {sl__law_far : Array (Option Value)}
    (a__law_far : PySem.W.nsIn K mainGlobals "_law_far" = some (some (.ref f__law_far))) (l__law_far : K.lookup f__law_far = some ⟨oc__law_far, od__law_far, .func (PySem.W.fnOf "_law_far" "_law_far" (defArgs s__law_far) (defBody s__law_far) (defScope s__law_far) .none kV__law_far dc__law_far pm__law_far an__law_far cd__law_far ct__law_far), sl__law_far⟩) (c__law_far : PySem.W.codeIn K cd__law_far "_law_far" = true) (k__law_far : PySem.W.keepIn K (.ref f__law_far) = true)
    {f__law_shape : Addr} {oc__law_shape kV__law_shape dc__law_shape pm__law_shape cd__law_shape ct__law_shape : Value} {od__law_shape an__law_shape : Option Addr} {sl__law_shape : Array (Option Value)}
    (a__law_shape : PySem.W.nsIn K mainGlobals "_law_shape" = some (some (.ref f__law_shape))) (l__law_shape : K.lookup f__law_shape = some ⟨oc__law_shape, od__law_shape, .func (PySem.W.fnOf "_law_shape" "_law_shape" (defArgs s__law_shape) (defBody s__law_shape) (defScope s__law_shape) .none kV__law_shape dc__law_shape pm__law_shape an__law_shape cd__law_shape ct__law_shape), sl__law_shape⟩) (c__law_shape : PySem.W.codeIn K cd__law_shape "_law_shape" = true) (k__law_shape : PySem.W.keepIn K (.ref f__law_shape) = true)
    {f__law_wider : Addr} {oc__law_wider kV__law_wider dc__law_wider pm__law_wider cd__law_wider ct__law_wider : Value} {od__law_wider an__law_wider : Option Addr} {sl__law_wider : Array (Option Value)}
    (a__law_wider : PySem.W.nsIn K mainGlobals "_law_wider" = some (some (.ref f__law_wider))) (l__law_wider : K.lookup f__law_wider = some ⟨oc__law_wider, od__law_wider, .func (PySem.W.fnOf "_law_wider" "_law_wider" (defArgs s__law_wider) (defBody s__law_wider) (defScope s__law_wider) .none kV__law_wider dc__law_wider pm__law_wider an__law_wider cd__law_wider ct__law_wider), sl__law_wider⟩) (c__law_wider : PySem.W.codeIn K cd__law_wider "_law_wider" = true) (k__law_wider : PySem.W.keepIn K (.ref f__law_wider) = true)
    {f__law_number : Addr} {oc__law_number kV__law_number dc__law_number pm__law_number cd__law_number ct__law_number : Value} {od__law_number an__law_number : Option Addr} {sl__law_number : Array (Option Value)}
    (a__law_number : PySem.W.nsIn K mainGlobals "_law_number" = some (some (.ref f__law_number))) (l__law_number : K.lookup f__law_number = some ⟨oc__law_number, od__law_number, .func (PySem.W.fnOf "_law_number" "_law_number" (defArgs s__law_number) (defBody s__law_number) (defScope s__law_number) .none kV__law_number dc__law_number pm__law_number an__law_number cd__law_number ct__law_number), sl__law_number⟩) (c__law_number : PySem.W.codeIn K cd__law_number "_law_number" = true) (k__law_number : PySem.W.keepIn K (.ref f__law_number) = true)
    {f__law_fourth : Addr} {oc__law_fourth kV__law_fourth dc__law_fourth pm__law_fourth cd__law_fourth ct__law_fourth : Value} {od__law_fourth an__law_fourth : Option Addr} {sl__law_fourth : Array (Option Value)}
    (a__law_fourth : PySem.W.nsIn K mainGlobals "_law_fourth" = some (some (.ref f__law_fourth))) (l__law_fourth : K.lookup f__law_fourth = some ⟨oc__law_fourth, od__law_fourth, .func (PySem.W.fnOf "_law_fourth" "_law_fourth" (defArgs s__law_fourth) (defBody s__law_fourth) (defScope s__law_fourth) .none kV__law_fourth dc__law_fourth pm__law_fourth an__law_fourth cd__law_fourth ct__law_fourth), sl__law_fourth⟩) (c__law_fourth : PySem.W.codeIn K cd__law_fourth "_law_fourth" = true) (k__law_fourth : PySem.W.keepIn K (.ref f__law_fourth) = true)
    {f__law_is_strip : Addr} {oc__law_is_strip kV__law_is_strip dc__law_is_strip pm__law_is_strip cd__law_is_strip ct__law_is_strip : Value} {od__law_is_strip an__law_is_strip : Option Addr} {sl__law_is_strip : Array (Option Value)}
    (a__law_is_strip : PySem.W.nsIn K mainGlobals "_law_is_strip" = some (some (.ref f__law_is_strip))) (l__law_is_strip : K.lookup f__law_is_strip = some ⟨oc__law_is_strip, od__law_is_strip, .func (PySem.W.fnOf "_law_is_strip" "_law_is_strip" (defArgs s__law_is_strip) (defBody s__law_is_strip) (defScope s__law_is_strip) .none kV__law_is_strip dc__law_is_strip pm__law_is_strip an__law_is_strip cd__law_is_strip ct__law_is_strip), sl__law_is_strip⟩) (c__law_is_strip : PySem.W.codeIn K cd__law_is_strip "_law_is_strip" = true) (k__law_is_strip : PySem.W.keepIn K (.ref f__law_is_strip) = true)
    {f__law_right : Addr} {oc__law_right kV__law_right dc__law_right pm__law_right cd__law_right ct__law_right : Value} {od__law_right an__law_right : Option Addr} {sl__law_right : Array (Option Value)}
    (a__law_right : PySem.W.nsIn K mainGlobals "_law_right" = some (some (.ref f__law_right))) (l__law_right : K.lookup f__law_right = some ⟨oc__law_right, od__law_right, .func (PySem.W.fnOf "_law_right" "_law_right" (defArgs s__law_right) (defBody s__law_right) (defScope s__law_right) .none kV__law_right dc__law_right pm__law_right an__law_right cd__law_right ct__law_right), sl__law_right⟩) (c__law_right : PySem.W.codeIn K cd__law_right "_law_right" = true) (k__law_right : PySem.W.keepIn K (.ref f__law_right) = true)
    {f__law_all_right : Addr} {oc__law_all_right kV__law_all_right dc__law_all_right pm__law_all_right cd__law_all_right ct__law_all_right : Value} {od__law_all_right an__law_all_right : Option Addr} {sl__law_all_right : Array (Option Value)}
    (a__law_all_right : PySem.W.nsIn K mainGlobals "_law_all_right" = some (some (.ref f__law_all_right))) (l__law_all_right : K.lookup f__law_all_right = some ⟨oc__law_all_right, od__law_all_right, .func (PySem.W.fnOf "_law_all_right" "_law_all_right" (defArgs s__law_all_right) (defBody s__law_all_right) (defScope s__law_all_right) .none kV__law_all_right dc__law_all_right pm__law_all_right an__law_all_right cd__law_all_right ct__law_all_right), sl__law_all_right⟩) (c__law_all_right : PySem.W.codeIn K cd__law_all_right "_law_all_right" = true) (k__law_all_right : PySem.W.keepIn K (.ref f__law_all_right) = true)
    {f_law : Addr} {oc_law kV_law dc_law pm_law cd_law ct_law : Value} {od_law an_law : Option Addr} {sl_law : Array (Option Value)}
    (a_law : PySem.W.nsIn K mainGlobals "law" = some (some (.ref f_law))) (l_law : K.lookup f_law = some ⟨oc_law, od_law, .func (PySem.W.fnOf "law" "law" (defArgs s_law) (defBody s_law) (defScope s_law) .none kV_law dc_law pm_law an_law cd_law ct_law), sl_law⟩) (c_law : PySem.W.codeIn K cd_law "law" = true) (k_law : PySem.W.keepIn K (.ref f_law) = true)
    (z_abs : PySem.W.nsIn K mainGlobals "abs" = some none)
    (z_all : PySem.W.nsIn K mainGlobals "all" = some none)
    (z_bool : PySem.W.nsIn K mainGlobals "bool" = some none)
    (z_enumerate : PySem.W.nsIn K mainGlobals "enumerate" = some none)
    (z_int : PySem.W.nsIn K mainGlobals "int" = some none)
    (z_isinstance : PySem.W.nsIn K mainGlobals "isinstance" = some none)
    (z_len : PySem.W.nsIn K mainGlobals "len" = some none)
    (z_list : PySem.W.nsIn K mainGlobals "list" = some none)
    (z_max : PySem.W.nsIn K mainGlobals "max" = some none)
    (z_min : PySem.W.nsIn K mainGlobals "min" = some none)
    (z_range : PySem.W.nsIn K mainGlobals "range" = some none)
    (z_sorted : PySem.W.nsIn K mainGlobals "sorted" = some none)
    (z_sum : PySem.W.nsIn K mainGlobals "sum" = some none)
    (z_tuple : PySem.W.nsIn K mainGlobals "tuple" = some none)
    (z_zip : PySem.W.nsIn K mainGlobals "zip" = some none)
    {t_MOST_SHELVES : Tok} (y_MOST_SHELVES : PySem.W.nsIn K mainGlobals "MOST_SHELVES" = some (some (.int 8 t_MOST_SHELVES)))
    {t_MOST_TOTAL : Tok} (y_MOST_TOTAL : PySem.W.nsIn K mainGlobals "MOST_TOTAL" = some (some (.int 10000000000000000000000000000000000000000000000000000000000000000 t_MOST_TOTAL)))
    {t_MOST_WIDTH : Tok} (y_MOST_WIDTH : PySem.W.nsIn K mainGlobals "MOST_WIDTH" = some (some (.int 8 t_MOST_WIDTH)))
    : ∃ fd : FuncData, (∀ (s : Shared) (v : Value), BindsTo s fd ⟨[v], []⟩ [("script", v)]) ∧ ∀ base : Heap, K.In base → base.Ns mainGlobals mg → FnOk l.prog w K mg base (L2.CX l.prog w) 8 fa fd ["script"] (spLaw K) := by
  have T : Txt mg := ⟨PySem.W.mg_none_of X G z_abs, PySem.W.mg_none_of X G z_all, PySem.W.mg_none_of X G z_bool, PySem.W.mg_none_of X G z_enumerate, PySem.W.mg_none_of X G z_int, PySem.W.mg_none_of X G z_isinstance, PySem.W.mg_none_of X G z_len, PySem.W.mg_none_of X G z_list, PySem.W.mg_none_of X G z_max, PySem.W.mg_none_of X G z_min, PySem.W.mg_none_of X G z_range, PySem.W.mg_none_of X G z_sorted, PySem.W.mg_none_of X G z_sum, PySem.W.mg_none_of X G z_tuple, PySem.W.mg_none_of X G z_zip, ⟨_, PySem.W.mg_of X G y_MOST_SHELVES⟩, ⟨_, PySem.W.mg_of X G y_MOST_TOTAL⟩, ⟨_, PySem.W.mg_of X G y_MOST_WIDTH⟩⟩
  have A_is_integer : FunAt K mg "is_integer" "is_integer" s_is_integer ["value"] := ⟨f_is_integer, _, L2.fun_mk (st := s_is_integer) l_is_integer c_is_integer k_is_integer, PySem.W.mg_of X G a_is_integer, (L2.fun_mk (st := s_is_integer) l_is_integer c_is_integer k_is_integer).binds (ps := ["value"]) fun _ _ _ _ _ _ us hl => match us, hl with | [_], _ => rfl⟩
  have A_is_within : FunAt K mg "is_within" "is_within" s_is_within ["value", "low", "most"] := ⟨f_is_within, _, L2.fun_mk (st := s_is_within) l_is_within c_is_within k_is_within, PySem.W.mg_of X G a_is_within, (L2.fun_mk (st := s_is_within) l_is_within c_is_within k_is_within).binds (ps := ["value", "low", "most"]) fun _ _ _ _ _ _ us hl => match us, hl with | [_, _, _], _ => rfl⟩
  have A_falls_never_up : FunAt K mg "falls_never_up" "falls_never_up" s_falls_never_up ["numbers"] := ⟨f_falls_never_up, _, L2.fun_mk (st := s_falls_never_up) l_falls_never_up c_falls_never_up k_falls_never_up, PySem.W.mg_of X G a_falls_never_up, (L2.fun_mk (st := s_falls_never_up) l_falls_never_up c_falls_never_up k_falls_never_up).binds (ps := ["numbers"]) fun _ _ _ _ _ _ us hl => match us, hl with | [_], _ => rfl⟩
  have A_require_within : FunAt K mg "require_within" "require_within" s_require_within ["value", "low", "most"] := ⟨f_require_within, _, L2.fun_mk (st := s_require_within) l_require_within c_require_within k_require_within, PySem.W.mg_of X G a_require_within, (L2.fun_mk (st := s_require_within) l_require_within c_require_within k_require_within).binds (ps := ["value", "low", "most"]) fun _ _ _ _ _ _ us hl => match us, hl with | [_, _, _], _ => rfl⟩
  have A_is_shape_in : FunAt K mg "is_shape_in" "is_shape_in" s_is_shape_in ["value"] := ⟨f_is_shape_in, _, L2.fun_mk (st := s_is_shape_in) l_is_shape_in c_is_shape_in k_is_shape_in, PySem.W.mg_of X G a_is_shape_in, (L2.fun_mk (st := s_is_shape_in) l_is_shape_in c_is_shape_in k_is_shape_in).binds (ps := ["value"]) fun _ _ _ _ _ _ us hl => match us, hl with | [_], _ => rfl⟩
  have A_number_of : FunAt K mg "number_of" "number_of" s_number_of ["shape", "row"] := ⟨f_number_of, _, L2.fun_mk (st := s_number_of) l_number_of c_number_of k_number_of, PySem.W.mg_of X G a_number_of, (L2.fun_mk (st := s_number_of) l_number_of c_number_of k_number_of).binds (ps := ["shape", "row"]) fun _ _ _ _ _ _ us hl => match us, hl with | [_, _], _ => rfl⟩
  have A_lean_shape : FunAt K mg "lean_shape" "lean_shape" s_lean_shape ["numbers"] := ⟨f_lean_shape, _, L2.fun_mk (st := s_lean_shape) l_lean_shape c_lean_shape k_lean_shape, PySem.W.mg_of X G a_lean_shape, (L2.fun_mk (st := s_lean_shape) l_lean_shape c_lean_shape k_lean_shape).binds (ps := ["numbers"]) fun _ _ _ _ _ _ us hl => match us, hl with | [_], _ => rfl⟩
  have A_is_inside_in : FunAt K mg "is_inside_in" "is_inside_in" s_is_inside_in ["one", "other"] := ⟨f_is_inside_in, _, L2.fun_mk (st := s_is_inside_in) l_is_inside_in c_is_inside_in k_is_inside_in, PySem.W.mg_of X G a_is_inside_in, (L2.fun_mk (st := s_is_inside_in) l_is_inside_in c_is_inside_in k_is_inside_in).binds (ps := ["one", "other"]) fun _ _ _ _ _ _ us hl => match us, hl with | [_, _], _ => rfl⟩
  have A_is_strip_in : FunAt K mg "is_strip_in" "is_strip_in" s_is_strip_in ["outer", "inner"] := ⟨f_is_strip_in, _, L2.fun_mk (st := s_is_strip_in) l_is_strip_in c_is_strip_in k_is_strip_in, PySem.W.mg_of X G a_is_strip_in, (L2.fun_mk (st := s_is_strip_in) l_is_strip_in c_is_strip_in k_is_strip_in).binds (ps := ["outer", "inner"]) fun _ _ _ _ _ _ us hl => match us, hl with | [_, _], _ => rfl⟩
  have A_require_shape : FunAt K mg "require_shape" "require_shape" s_require_shape ["shape"] := ⟨f_require_shape, _, L2.fun_mk (st := s_require_shape) l_require_shape c_require_shape k_require_shape, PySem.W.mg_of X G a_require_shape, (L2.fun_mk (st := s_require_shape) l_require_shape c_require_shape k_require_shape).binds (ps := ["shape"]) fun _ _ _ _ _ _ us hl => match us, hl with | [_], _ => rfl⟩
  have A_fourth_in : FunAt K mg "fourth_in" "fourth_in" s_fourth_in ["c", "p", "q", "count"] := ⟨f_fourth_in, _, L2.fun_mk (st := s_fourth_in) l_fourth_in c_fourth_in k_fourth_in, PySem.W.mg_of X G a_fourth_in, (L2.fun_mk (st := s_fourth_in) l_fourth_in c_fourth_in k_fourth_in).binds (ps := ["c", "p", "q", "count"]) fun _ _ _ _ _ _ us hl => match us, hl with | [_, _, _, _], _ => rfl⟩
  have A_corner_in : FunAt K mg "corner_in" "corner_in" s_corner_in ["p", "q", "f"] := ⟨f_corner_in, _, L2.fun_mk (st := s_corner_in) l_corner_in c_corner_in k_corner_in, PySem.W.mg_of X G a_corner_in, (L2.fun_mk (st := s_corner_in) l_corner_in c_corner_in k_corner_in).binds (ps := ["p", "q", "f"]) fun _ _ _ _ _ _ us hl => match us, hl with | [_, _, _], _ => rfl⟩
  have A_require_shapes : FunS K mg "require_shapes" "require_shapes" s_require_shapes "shapes" := ⟨f_require_shapes, _, L2.fun_mk (st := s_require_shapes) l_require_shapes c_require_shapes k_require_shapes, PySem.W.mg_of X G a_require_shapes, fun us rest hl => match us, hl, rest with | [], _, [] => rfl | [], _, _ :: _ => rfl⟩
  have A_fourth_shape : FunAt K mg "fourth_shape" "fourth_shape" s_fourth_shape ["c", "p", "q", "count"] := ⟨f_fourth_shape, _, L2.fun_mk (st := s_fourth_shape) l_fourth_shape c_fourth_shape k_fourth_shape, PySem.W.mg_of X G a_fourth_shape, (L2.fun_mk (st := s_fourth_shape) l_fourth_shape c_fourth_shape k_fourth_shape).binds (ps := ["c", "p", "q", "count"]) fun _ _ _ _ _ _ us hl => match us, hl with | [_, _, _, _], _ => rfl⟩
  have A_corner_back : FunAt K mg "corner_back" "corner_back" s_corner_back ["p", "q", "f"] := ⟨f_corner_back, _, L2.fun_mk (st := s_corner_back) l_corner_back c_corner_back k_corner_back, PySem.W.mg_of X G a_corner_back, (L2.fun_mk (st := s_corner_back) l_corner_back c_corner_back k_corner_back).binds (ps := ["p", "q", "f"]) fun _ _ _ _ _ _ us hl => match us, hl with | [_, _, _], _ => rfl⟩
  have A_is_square : FunAt K mg "is_square" "is_square" s_is_square ["c", "p", "q", "count", "f"] := ⟨f_is_square, _, L2.fun_mk (st := s_is_square) l_is_square c_is_square k_is_square, PySem.W.mg_of X G a_is_square, (L2.fun_mk (st := s_is_square) l_is_square c_is_square k_is_square).binds (ps := ["c", "p", "q", "count", "f"]) fun _ _ _ _ _ _ us hl => match us, hl with | [_, _, _, _, _], _ => rfl⟩
  have A__law_dice : FunAt K mg "_law_dice" "_law_dice" s__law_dice ["script", "spot"] := ⟨f__law_dice, _, L2.fun_mk (st := s__law_dice) l__law_dice c__law_dice k__law_dice, PySem.W.mg_of X G a__law_dice, (L2.fun_mk (st := s__law_dice) l__law_dice c__law_dice k__law_dice).binds (ps := ["script", "spot"]) fun _ _ _ _ _ _ us hl => match us, hl with | [_, _], _ => rfl⟩
  have A__law_roll : FunAt K mg "_law_roll" "_law_roll" s__law_roll ["dice", "total"] := ⟨f__law_roll, _, L2.fun_mk (st := s__law_roll) l__law_roll c__law_roll k__law_roll, PySem.W.mg_of X G a__law_roll, (L2.fun_mk (st := s__law_roll) l__law_roll c__law_roll k__law_roll).binds (ps := ["dice", "total"]) fun _ _ _ _ _ _ us hl => match us, hl with | [_, _], _ => rfl⟩
  have A__law_far : FunAt K mg "_law_far" "_law_far" s__law_far ["dice", "total"] := ⟨f__law_far, _, L2.fun_mk (st := s__law_far) l__law_far c__law_far k__law_far, PySem.W.mg_of X G a__law_far, (L2.fun_mk (st := s__law_far) l__law_far c__law_far k__law_far).binds (ps := ["dice", "total"]) fun _ _ _ _ _ _ us hl => match us, hl with | [_, _], _ => rfl⟩
  have A__law_shape : FunAt K mg "_law_shape" "_law_shape" s__law_shape ["dice", "most", "size"] := ⟨f__law_shape, _, L2.fun_mk (st := s__law_shape) l__law_shape c__law_shape k__law_shape, PySem.W.mg_of X G a__law_shape, (L2.fun_mk (st := s__law_shape) l__law_shape c__law_shape k__law_shape).binds (ps := ["dice", "most", "size"]) fun _ _ _ _ _ _ us hl => match us, hl with | [_, _, _], _ => rfl⟩
  have A__law_wider : FunAt K mg "_law_wider" "_law_wider" s__law_wider ["dice", "shape", "more"] := ⟨f__law_wider, _, L2.fun_mk (st := s__law_wider) l__law_wider c__law_wider k__law_wider, PySem.W.mg_of X G a__law_wider, (L2.fun_mk (st := s__law_wider) l__law_wider c__law_wider k__law_wider).binds (ps := ["dice", "shape", "more"]) fun _ _ _ _ _ _ us hl => match us, hl with | [_, _, _], _ => rfl⟩
  have A__law_number : FunAt K mg "_law_number" "_law_number" s__law_number ["shape", "row"] := ⟨f__law_number, _, L2.fun_mk (st := s__law_number) l__law_number c__law_number k__law_number, PySem.W.mg_of X G a__law_number, (L2.fun_mk (st := s__law_number) l__law_number c__law_number k__law_number).binds (ps := ["shape", "row"]) fun _ _ _ _ _ _ us hl => match us, hl with | [_, _], _ => rfl⟩
  have A__law_fourth : FunAt K mg "_law_fourth" "_law_fourth" s__law_fourth ["c", "p", "q", "count"] := ⟨f__law_fourth, _, L2.fun_mk (st := s__law_fourth) l__law_fourth c__law_fourth k__law_fourth, PySem.W.mg_of X G a__law_fourth, (L2.fun_mk (st := s__law_fourth) l__law_fourth c__law_fourth k__law_fourth).binds (ps := ["c", "p", "q", "count"]) fun _ _ _ _ _ _ us hl => match us, hl with | [_, _, _, _], _ => rfl⟩
  have A__law_is_strip : FunAt K mg "_law_is_strip" "_law_is_strip" s__law_is_strip ["outer", "inner"] := ⟨f__law_is_strip, _, L2.fun_mk (st := s__law_is_strip) l__law_is_strip c__law_is_strip k__law_is_strip, PySem.W.mg_of X G a__law_is_strip, (L2.fun_mk (st := s__law_is_strip) l__law_is_strip c__law_is_strip k__law_is_strip).binds (ps := ["outer", "inner"]) fun _ _ _ _ _ _ us hl => match us, hl with | [_, _], _ => rfl⟩
  have A__law_right : FunAt K mg "_law_right" "_law_right" s__law_right ["dice", "size"] := ⟨f__law_right, _, L2.fun_mk (st := s__law_right) l__law_right c__law_right k__law_right, PySem.W.mg_of X G a__law_right, (L2.fun_mk (st := s__law_right) l__law_right c__law_right k__law_right).binds (ps := ["dice", "size"]) fun _ _ _ _ _ _ us hl => match us, hl with | [_, _], _ => rfl⟩
  have A__law_all_right : FunAt K mg "_law_all_right" "_law_all_right" s__law_all_right ["dice"] := ⟨f__law_all_right, _, L2.fun_mk (st := s__law_all_right) l__law_all_right c__law_all_right k__law_all_right, PySem.W.mg_of X G a__law_all_right, (L2.fun_mk (st := s__law_all_right) l__law_all_right c__law_all_right k__law_all_right).binds (ps := ["dice"]) fun _ _ _ _ _ _ us hl => match us, hl with | [_], _ => rfl⟩
  have e := hfa.symm.trans (PySem.W.mg_of X G a_law)
  cases e
  have FL := L2.fun_mk (st := s_law) l_law c_law k_law
  have hb : Binds K (PySem.W.fnOf "law" "law" (defArgs s_law) (defBody s_law) (defScope s_law) .none kV_law dc_law pm_law an_law cd_law ct_law) ["script"] [] := FL.binds (ps := ["script"]) fun _ _ _ _ _ _ us hl => match us, hl with | [_], _ => rfl
  refine ⟨PySem.W.fnOf "law" "law" (defArgs s_law) (defBody s_law) (defScope s_law) .none kV_law dc_law pm_law an_law cd_law ct_law, fun s v => .of_eq rfl, fun base _ _ => ?_⟩
  exact (all_ok (P := l.prog) (w := w) T A_is_integer A_is_within A_falls_never_up A_require_within A_is_shape_in A_number_of A_lean_shape A_is_inside_in A_is_strip_in A_require_shape A_fourth_in A_corner_in A_require_shapes A_fourth_shape A_corner_back A_is_square A__law_dice A__law_roll A__law_far A__law_shape A__law_wider A__law_number A__law_fourth A__law_is_strip A__law_right A__law_all_right FL hfa hb base).2.2.2.imp (law_sp (g := ⟨K, fun _ => none, fun x => x⟩) rfl law_den)
theorem walk {l : PySem.W.OpenLaw} {q : Program} {loose : List Str} {XP : (Str → Option Value) → Heap → Prop} {YP : World → Heap → Prop} {d : DefRec} {K : Params → PySem.W.Frag} (hn : l.most = some 63) (hdf : d.params.defaults = [])
    (hY : ∀ (w : World) (h : Heap), YP w h → (K w.params).In h)
    (F : ∀ (w : World) (mg : Str → Option Value) (fa : Addr) (h : Heap), (K w.params).In h → h.Ns mainGlobals mg → mg d.name = some (.ref fa) →
      ∃ fd : FuncData, (∀ (s : Shared) (u : Value), BindsTo s fd ⟨[u], []⟩ [("script", u)]) ∧ ∀ base : Heap, (K w.params).In base → base.Ns mainGlobals mg → FnOk l.prog w (K w.params) mg base (L2.CX l.prog w) 8 fa fd ["script"] (spLaw (K w.params))) :
    PySem.W.WalkO q loose XP YP l.row.toRowW d [] (fun f vs => PySem.call f vs) :=
  L2.walk_of (n := 63) (k := 8) (x := "script") (CX := fun w => L2.CX l.prog w) (sp := fun w => spLaw (K w.params)) hn (by decide) hdf ⟨rfl, by decide, by decide⟩ hY F (fun _ _ a ns hl _ hS => ⟨a, ns, rfl, hS, hl, fun _ => rfl⟩) fun w H s e s' z => by
    obtain ⟨_, _, _, _, _, _, _, _, _, _, _, _, z⟩ := z
    exact z
end L22
open PySem PySem.W PyProof.Rows
set_option maxRecDepth 100000 in
set_option maxHeartbeats 0 in
theorem PySem.Challenge.cw_countshelves_k22_whole_local_rule_holds : PySem.Challenge.rw_countshelves_k22_whole_local_rule.Holds := by
  w_on; o_law; k_head; (case hw => w_witness2)
  k_fill
  refine L22.walk (l := PySem.Challenge.rw_countshelves_k22_whole_local_rule) rfl rfl (fun w h Y => PySem.W.kIn_of Y) ?F
  case F =>
    intro w mg fa h KX G hmg
    refine' L22.all_mk KX G hmg ?a_is_integer ?l_is_integer ?c_is_integer ?k_is_integer ?a_is_within ?l_is_within ?c_is_within ?k_is_within ?a_falls_never_up ?l_falls_never_up ?c_falls_never_up ?k_falls_never_up ?a_require_within ?l_require_within ?c_require_within ?k_require_within ?a_is_shape_in ?l_is_shape_in ?c_is_shape_in ?k_is_shape_in ?a_number_of ?l_number_of ?c_number_of ?k_number_of ?a_lean_shape ?l_lean_shape ?c_lean_shape ?k_lean_shape ?a_is_inside_in ?l_is_inside_in ?c_is_inside_in ?k_is_inside_in ?a_is_strip_in ?l_is_strip_in ?c_is_strip_in ?k_is_strip_in ?a_require_shape ?l_require_shape ?c_require_shape ?k_require_shape ?a_fourth_in ?l_fourth_in ?c_fourth_in ?k_fourth_in ?a_corner_in ?l_corner_in ?c_corner_in ?k_corner_in ?a_require_shapes ?l_require_shapes ?c_require_shapes ?k_require_shapes ?a_fourth_shape ?l_fourth_shape ?c_fourth_shape ?k_fourth_shape ?a_corner_back ?l_corner_back ?c_corner_back ?k_corner_back ?a_is_square ?l_is_square ?c_is_square ?k_is_square ?a__law_dice ?l__law_dice ?c__law_dice ?k__law_dice ?a__law_roll ?l__law_roll ?c__law_roll ?k__law_roll ?a__law_far ?l__law_far ?c__law_far ?k__law_far ?a__law_shape ?l__law_shape ?c__law_shape ?k__law_shape ?a__law_wider ?l__law_wider ?c__law_wider ?k__law_wider ?a__law_number ?l__law_number ?c__law_number ?k__law_number ?a__law_fourth ?l__law_fourth ?c__law_fourth ?k__law_fourth ?a__law_is_strip ?l__law_is_strip ?c__law_is_strip ?k__law_is_strip ?a__law_right ?l__law_right ?c__law_right ?k__law_right ?a__law_all_right ?l__law_all_right ?c__law_all_right ?k__law_all_right ?a_law ?l_law ?c_law ?k_law ?z_abs ?z_all ?z_bool ?z_enumerate ?z_int ?z_isinstance ?z_len ?z_list ?z_max ?z_min ?z_range ?z_sorted ?z_sum ?z_tuple ?z_zip ?y_MOST_SHELVES ?y_MOST_TOTAL ?y_MOST_WIDTH
    (case a_is_integer => k_is)
    (case l_is_integer => k_is)
    (case c_is_integer => k_is)
    (case k_is_integer => k_is)
    (case a_is_within => k_is)
    (case l_is_within => k_is)
    (case c_is_within => k_is)
    (case k_is_within => k_is)
    (case a_falls_never_up => k_is)
    (case l_falls_never_up => k_is)
    (case c_falls_never_up => k_is)
    (case k_falls_never_up => k_is)
    (case a_require_within => k_is)
    (case l_require_within => k_is)
    (case c_require_within => k_is)
    (case k_require_within => k_is)
    (case a_is_shape_in => k_is)
    (case l_is_shape_in => k_is)
    (case c_is_shape_in => k_is)
    (case k_is_shape_in => k_is)
    (case a_number_of => k_is)
    (case l_number_of => k_is)
    (case c_number_of => k_is)
    (case k_number_of => k_is)
    (case a_lean_shape => k_is)
    (case l_lean_shape => k_is)
    (case c_lean_shape => k_is)
    (case k_lean_shape => k_is)
    (case a_is_inside_in => k_is)
    (case l_is_inside_in => k_is)
    (case c_is_inside_in => k_is)
    (case k_is_inside_in => k_is)
    (case a_is_strip_in => k_is)
    (case l_is_strip_in => k_is)
    (case c_is_strip_in => k_is)
    (case k_is_strip_in => k_is)
    (case a_require_shape => k_is)
    (case l_require_shape => k_is)
    (case c_require_shape => k_is)
    (case k_require_shape => k_is)
    (case a_fourth_in => k_is)
    (case l_fourth_in => k_is)
    (case c_fourth_in => k_is)
    (case k_fourth_in => k_is)
    (case a_corner_in => k_is)
    (case l_corner_in => k_is)
    (case c_corner_in => k_is)
    (case k_corner_in => k_is)
    (case a_require_shapes => k_is)
    (case l_require_shapes => k_is)
    (case c_require_shapes => k_is)
    (case k_require_shapes => k_is)
    (case a_fourth_shape => k_is)
    (case l_fourth_shape => k_is)
    (case c_fourth_shape => k_is)
    (case k_fourth_shape => k_is)
    (case a_corner_back => k_is)
    (case l_corner_back => k_is)
    (case c_corner_back => k_is)
    (case k_corner_back => k_is)
    (case a_is_square => k_is)
    (case l_is_square => k_is)
    (case c_is_square => k_is)
    (case k_is_square => k_is)
    (case a__law_dice => k_is)
    (case l__law_dice => k_is)
    (case c__law_dice => k_is)
    (case k__law_dice => k_is)
    (case a__law_roll => k_is)
    (case l__law_roll => k_is)
    (case c__law_roll => k_is)
    (case k__law_roll => k_is)
    (case a__law_far => k_is)
    (case l__law_far => k_is)
    (case c__law_far => k_is)
    (case k__law_far => k_is)
    (case a__law_shape => k_is)
    (case l__law_shape => k_is)
    (case c__law_shape => k_is)
    (case k__law_shape => k_is)
    (case a__law_wider => k_is)
    (case l__law_wider => k_is)
    (case c__law_wider => k_is)
    (case k__law_wider => k_is)
    (case a__law_number => k_is)
    (case l__law_number => k_is)
    (case c__law_number => k_is)
    (case k__law_number => k_is)
    (case a__law_fourth => k_is)
    (case l__law_fourth => k_is)
    (case c__law_fourth => k_is)
    (case k__law_fourth => k_is)
    (case a__law_is_strip => k_is)
    (case l__law_is_strip => k_is)
    (case c__law_is_strip => k_is)
    (case k__law_is_strip => k_is)
    (case a__law_right => k_is)
    (case l__law_right => k_is)
    (case c__law_right => k_is)
    (case k__law_right => k_is)
    (case a__law_all_right => k_is)
    (case l__law_all_right => k_is)
    (case c__law_all_right => k_is)
    (case k__law_all_right => k_is)
    (case a_law => k_is)
    (case l_law => k_is)
    (case c_law => k_is)
    (case k_law => k_is)
    (case z_abs => k_is)
    (case z_all => k_is)
    (case z_bool => k_is)
    (case z_enumerate => k_is)
    (case z_int => k_is)
    (case z_isinstance => k_is)
    (case z_len => k_is)
    (case z_list => k_is)
    (case z_max => k_is)
    (case z_min => k_is)
    (case z_range => k_is)
    (case z_sorted => k_is)
    (case z_sum => k_is)
    (case z_tuple => k_is)
    (case z_zip => k_is)
    (case y_MOST_SHELVES => k_is)
    (case y_MOST_TOTAL => k_is)
    (case y_MOST_WIDTH => k_is)
