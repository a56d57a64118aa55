import PyProof.Rows.All
import Wide.All
import OpenK.AllK
import Wide.FinOn
import HandS.ForMost
import HandS.Exc
import HandS.CallSlots
import HandS.Wide
import HandS.Zip
import HandS.TupAny
import HandS.Walk
import HandS.Slots
import KE.KTupSum
import HandS.Deep
import HandS.IsInst
import HandS.Style
import HandS.TupMul
import HandS.SortInts
import HandS.RaiseMore
import PyProof.ListMulRoad
import PyProof.FactsAll.tuple_2
import HandS.WordsExc
import HandS.Rev
import KE.GoesEnum
import KE.KRevSl
import HandS.Star
import HandS.Flt
import HandS.Conv
import HandS.SlotsOwn
import KE.KAssignIn
import HandS.SetFor
import PySem.Challenge.RW_countshelves_k04_great_words
set_option Elab.async false
set_option linter.all false
set_option maxRecDepth 100000
/-! A layer of closed values, a store of mutable lists and denotations, over HandS. -/
namespace Pd
open PySem L2

/-! ### values -/
inductive D where
  | non | bl (b : Bool) | int (i : Int) | str (x : Str) | tup (xs : List D) | lst (xs : List D) | obj (c : Str) (fs : List D) | scr (xs : List Int) | val (v : V)
/-- a value of a name: a closed one, or the k-th mutable object of the store -/
inductive Val where
  | d (x : D) | cell (k : Nat)
inductive Cell where
  | lst (xs : List D)
  | obj (c : Str) (fs : List (Option D))
abbrev Env := List (Option Val)
abbrev Store := List (Option Cell)
inductive R (α : Type) where
  | ok (a : α) (S : Store) | exc (c : Str) (x : D) (S : Store) | bad
def R.bind {α β : Type} : R α → (α → Store → R β) → R β
  | .ok a S, k => k a S
  | .exc c x S, _ => .exc c x S
  | .bad, _ => .bad
abbrev Ev := Env → Store → R Val
inductive F where
  | nx (Γ : Env) (S : Store) | rt (x : Val) (S : Store) | bk (Γ : Env) (S : Store) | ct (Γ : Env) (S : Store) | exc (c : Str) (x : D) (Γ : Env) (S : Store) | bad
abbrev Sv := Env → Store → F

/-! ### how they stand in the heap -/
structure Gx where
  K : PySem.W.Frag
  cl : Str → Option Addr
  fld : Str → Str
structure Wd where
  m : List (Option Addr)
  hid : List Addr
def Wd.av (w : Wd) (a : Addr) : Prop := some a ∈ w.m ∨ a ∈ w.hid

def SqT' (g : Gx) (w : Wd) (H : Hp) (a : Addr) (vs : List V) : Prop :=
  (Rd H a (.tup vs) ∧ ¬ w.av a) ∨ ∃ (o : Obj) (its : Array Value) (n : Nat), g.K.lookup a = some o ∧ o.cls = .type "tuple" ∧ o.data = .seq its n ∧ its.size ≤ sizeLine ∧ Vals vs its.toList
def SqL' (g : Gx) (w : Wd) (H : Hp) (a : Addr) (vs : List V) : Prop :=
  (Rd H a (.lst vs) ∧ ¬ w.av a) ∨ ∃ (o : Obj) (its : Array Value) (n : Nat), g.K.lookup a = some o ∧ o.cls = .type "list" ∧ o.dict = none ∧ o.data = .seq its n ∧ its.size ≤ sizeLine ∧ Vals vs its.toList
theorem SqL'.sq {g : Gx} {w : Wd} {H : Hp} {a : Addr} {vs : List V} (h : SqL' g w H a vs) : SqL g.K H a vs := by
  rcases h with h | h
  · exact .inl h.1
  · exact .inr h
theorem SqT'.sq {g : Gx} {w : Wd} {H : Hp} {a : Addr} {vs : List V} (h : SqT' g w H a vs) : SqT g.K H a vs := by
  rcases h with h | h
  · exact .inl h.1
  · exact .inr h
mutual
inductive Rep (g : Gx) (w : Wd) (H : Hp) : D → V → Prop
  | non : Rep g w H .non .non
  | bl (b : Bool) : Rep g w H (.bl b) (.bl b)
  | int (i : Int) : Rep g w H (.int i) (.int i)
  | str (x : Str) : Rep g w H (.str x) (.str x)
  | tup {a : Addr} {vs : List V} {ds : List D} : SqT' g w H a vs → RepL g w H ds vs → Rep g w H (.tup ds) (.ref a)
  | lst {a : Addr} {vs : List V} {ds : List D} : H a = some (.lst vs) → ¬ w.av a → RepL g w H ds vs → Rep g w H (.lst ds) (.ref a)
  | obj {a C dx : Addr} {c : Str} {vs : List V} {ds : List D} : g.cl c = some C → H a = some (SlX.SlO a C dx (vs.map some)) → H dx = some (.xd []) → ¬ w.av a → ¬ w.av dx → RepL g w H ds vs → Rep g w H (.obj c ds) (.ref a)
  | scr {a : Addr} {ns : List Int} : SqL' g w H a (ns.map V.int) → Rep g w H (.scr ns) (.ref a)
  | val (v : V) : Rep g w H (.val v) v
inductive RepL (g : Gx) (w : Wd) (H : Hp) : List D → List V → Prop
  | nil : RepL g w H [] []
  | cons {d : D} {v : V} {ds : List D} {vs : List V} : Rep g w H d v → RepL g w H ds vs → RepL g w H (d :: ds) (v :: vs)
end
def RepV (g : Gx) (w : Wd) (H : Hp) : Val → V → Prop
  | .d x, v => Rep g w H x v
  | .cell k, v => k < w.m.length ∧ ∀ a, w.m[k]? = some (some a) → v = .ref a
inductive RepVs (g : Gx) (w : Wd) (H : Hp) : List Val → List V → Prop
  | nil : RepVs g w H [] []
  | cons {d : Val} {v : V} {ds : List Val} {vs : List V} : RepV g w H d v → RepVs g w H ds vs → RepVs g w H (d :: ds) (v :: vs)

/-- what a step may do: objects that are not set apart stay -/
structure Le (w : Wd) (H : Hp) (w' : Wd) (H' : Hp) : Prop where
  av : ∀ a, w'.av a → w.av a ∨ H a = none
  keepN : ∀ a o, H a = some o → (∀ x, o ≠ .own x) → ¬ w.av a → H' a = some o
  trk : ∀ a, H a ≠ none → H' a ≠ none
  hk : ∀ a ∈ w.hid, H' a = H a
theorem Le.refl (w : Wd) (H : Hp) : Le w H w H := ⟨fun _ h => .inl h, fun _ _ h _ _ => h, fun _ h => h, fun _ _ => rfl⟩
theorem Le.navk {w w' : Wd} {H H' : Hp} (l : Le w H w' H') {a : Addr} {o : HO} (h : H a = some o) (n : ¬ w.av a) : ¬ w'.av a := fun z => by
  rcases l.av a z with q | q
  · exact n q
  · rw [h] at q; cases q
theorem Le.keep {w w' : Wd} {H H' : Hp} (l : Le w H w' H') (a : Addr) (o : HO) (h : H a = some o) (n : ¬ w.av a) (z : ∀ x, o ≠ .own x := by intro x z; cases z) : H' a = some o := l.keepN a o h z n
theorem Le.trans {w w1 w2 : Wd} {H H1 H2 : Hp} (l : Le w H w1 H1) (r : Le w1 H1 w2 H2) (hid : ∀ a ∈ w.hid, a ∈ w1.hid) : Le w H w2 H2 where
  av := fun a z => by
    rcases r.av a z with q | q
    · exact l.av a q
    · refine .inr ?_
      cases e : H a with
      | none => rfl
      | some o => exact absurd q (l.trk a (by rw [e]; exact fun z => by cases z))
  keepN := fun a o h z n => r.keepN a o (l.keepN a o h z n) z (l.navk h n)
  trk := fun a h => r.trk a (l.trk a h)
  hk := fun a h => (r.hk a (hid a h)).trans (l.hk a h)

section
variable {g : Gx} {w w' : Wd} {H H' : Hp}
theorem SqT'.le (l : Le w H w' H') {a : Addr} {vs : List V} (h : SqT' g w H a vs) : SqT' g w' H' a vs := by
  rcases h with ⟨h | ⟨o, h⟩, n⟩ | h
  · exact .inl ⟨.inl (l.keep _ _ h n), l.navk h n⟩
  · exact .inl ⟨.inr ⟨o, l.keep _ _ h n⟩, l.navk h n⟩
  · exact .inr h
theorem SqL'.le (l : Le w H w' H') {a : Addr} {vs : List V} (h : SqL' g w H a vs) : SqL' g w' H' a vs := by
  rcases h with ⟨h | ⟨o, h⟩, n⟩ | h
  · exact .inl ⟨.inl (l.keep _ _ h n), l.navk h n⟩
  · exact .inl ⟨.inr ⟨o, l.keep _ _ h n⟩, l.navk h n⟩
  · exact .inr h
mutual
theorem Rep.le (l : Le w H w' H') : ∀ {d : D} {v : V}, Rep g w H d v → Rep g w' H' d v
  | _, _, .non => .non
  | _, _, .bl b => .bl b
  | _, _, .int i => .int i
  | _, _, .str x => .str x
  | _, _, .tup h r => .tup (h.le l) (RepL.le l r)
  | _, _, .lst h n r => .lst (l.keep _ _ h n) (l.navk h n) (RepL.le l r)
  | _, _, .obj c h e n n2 r => .obj c (l.keep _ _ h n) (l.keep _ _ e n2) (l.navk h n) (l.navk e n2) (RepL.le l r)
  | _, _, .scr h => .scr (h.le l)
  | _, _, .val v => .val v
theorem RepL.le (l : Le w H w' H') : ∀ {d : List D} {v : List V}, RepL g w H d v → RepL g w' H' d v
  | _, _, .nil => .nil
  | _, _, .cons h r => .cons (Rep.le l h) (RepL.le l r)
end
theorem RepL.length : ∀ {d : List D} {v : List V}, RepL g w H d v → d.length = v.length
  | _, _, .nil => rfl
  | _, _, .cons _ r => congrArg (· + 1) (RepL.length r)
theorem RepL.get : ∀ {ds : List D} {vs : List V} {i : Nat} {d : D}, RepL g w H ds vs → ds[i]? = some d → ∃ v, vs[i]? = some v ∧ Rep g w H d v
  | _, _, _, _, .nil, e => by simp at e
  | _, _, 0, _, .cons h _, e => by
    simp at e
    subst e
    exact ⟨_, rfl, h⟩
  | _, _, i + 1, d, .cons _ r, e => by
    obtain ⟨v, h1, h2⟩ := RepL.get (i := i) (d := d) r (by simpa using e)
    exact ⟨v, by simpa using h1, h2⟩
theorem RepL.append : ∀ {ds es : List D} {vs us : List V}, RepL g w H ds vs → RepL g w H es us → RepL g w H (ds ++ es) (vs ++ us)
  | _, _, _, _, .nil, s => s
  | _, _, _, _, .cons h r, s => .cons h (RepL.append r s)
theorem RepL.set {d : D} {v : V} (h : Rep g w H d v) : ∀ {ds : List D} {vs : List V} (i : Nat), RepL g w H ds vs → RepL g w H (ds.set i d) (vs.set i v)
  | _, _, _, .nil => .nil
  | _, _, 0, .cons _ r => .cons h r
  | _, _, i + 1, .cons q r => .cons q (RepL.set h i r)
theorem RepL.take : ∀ {ds : List D} {vs : List V} (n : Nat), RepL g w H ds vs → RepL g w H (ds.take n) (vs.take n)
  | _, _, 0, _ => by simp; exact .nil
  | _, _, _ + 1, .nil => .nil
  | _, _, n + 1, .cons h r => .cons h (RepL.take n r)
theorem RepL.drop : ∀ {ds : List D} {vs : List V} (n : Nat), RepL g w H ds vs → RepL g w H (ds.drop n) (vs.drop n)
  | _, _, 0, h => h
  | _, _, _ + 1, .nil => .nil
  | _, _, n + 1, .cons _ r => RepL.drop n r
theorem RepL.reverse : ∀ {ds : List D} {vs : List V}, RepL g w H ds vs → RepL g w H ds.reverse vs.reverse
  | _, _, .nil => .nil
  | _, _, .cons h r => by
    rw [List.reverse_cons, List.reverse_cons]
    exact RepL.append (RepL.reverse r) (.cons h .nil)
theorem RepL.ints : ∀ {ns : List Int} {vs : List V}, RepL g w H (ns.map .int) vs → vs = ns.map V.int
  | [], _, .nil => rfl
  | n :: ns, _, .cons h r => by
    cases h
    rw [RepL.ints r]
    rfl
theorem RepL.bls : ∀ {ns : List Bool} {vs : List V}, RepL g w H (ns.map .bl) vs → vs = ns.map V.bl
  | [], _, .nil => rfl
  | n :: ns, _, .cons h r => by
    cases h
    rw [RepL.bls r]
    rfl
theorem RepL.ofInts : ∀ {ns : List Int}, RepL g w H (ns.map .int) (ns.map V.int)
  | [] => .nil
  | _ :: _ => .cons (.int _) RepL.ofInts
theorem RepL.flatten : ∀ {n : Nat} {ds : List D} {vs : List V}, RepL g w H ds vs → RepL g w H (List.replicate n ds).flatten (List.replicate n vs).flatten
  | 0, _, _, _ => .nil
  | n + 1, _, _, h => by
    rw [List.replicate_succ, List.replicate_succ, List.flatten_cons, List.flatten_cons]
    exact RepL.append h (RepL.flatten h)

/-! ### the state -/
def CellOk (g : Gx) (w : Wd) (H : Hp) : Cell → Addr → Prop
  | .lst ds, a => ∃ vs, H a = some (.lst vs) ∧ RepL g w H ds vs
  | .obj c fs, a => ∃ C dx vs, g.cl c = some C ∧ dx ≠ a ∧ ¬ w.av dx ∧ SlX.Slt H a C dx vs ∧ (H dx = some (.own a) ∨ H dx = some (.xd [])) ∧ vs.length = fs.length ∧ ∀ (i : Nat) (x : D), fs[i]? = some (some x) → ∃ v, vs[i]? = some (some v) ∧ Rep g w H x v
structure StOk (g : Gx) (w : Wd) (S : Store) (H : Hp) : Prop where
  len : w.m.length = S.length
  cell : ∀ (k : Nat) (c : Cell), S[k]? = some (some c) → ∃ a, w.m[k]? = some (some a) ∧ CellOk g w H c a
  live : ∀ (k : Nat) (a : Addr), w.m[k]? = some (some a) → ∃ c, S[k]? = some (some c)
  inj : ∀ (j k : Nat) (a : Addr), w.m[j]? = some (some a) → w.m[k]? = some (some a) → j = k
  hid : ∀ a ∈ w.hid, some a ∉ w.m ∧ H a ≠ none
structure EnvOk (g : Gx) (w : Wd) (Γ : Env) (σ : St) (H : Hp) : Prop where
  len : Γ.length = σ.length
  val : ∀ (i : Nat) (x : Val), Γ[i]? = some (some x) → ∃ v, σ[i]? = some (some v) ∧ RepV g w H x v
/-- an expression's step: no object of the store comes; it may go -/
structure Stp (w : Wd) (H : Hp) (w' : Wd) (H' : Hp) : Prop where
  le : Le w H w' H'
  hid : w'.hid = w.hid
  len : w'.m.length = w.m.length
  old : ∀ (k : Nat) (a : Addr), w'.m[k]? = some (some a) → w.m[k]? = some (some a)
theorem Stp.refl (w : Wd) (H : Hp) : Stp w H w H := ⟨.refl w H, rfl, rfl, fun _ _ h => h⟩
theorem Stp.trans {w w1 w2 : Wd} {H H1 H2 : Hp} (l : Stp w H w1 H1) (r : Stp w1 H1 w2 H2) : Stp w H w2 H2 :=
  ⟨l.le.trans r.le (by rw [l.hid]; exact fun _ h => h), r.hid.trans l.hid, r.len.trans l.len, fun k a h => l.old k a (r.old k a h)⟩
theorem RepV.step (l : Stp w H w' H') {x : Val} {v : V} (h : RepV g w H x v) : RepV g w' H' x v := by
  cases x with
  | d x => exact Rep.le l.le h
  | cell k => exact ⟨by rw [l.len]; exact h.1, fun a e => h.2 a (l.old k a e)⟩
theorem RepVs.step (l : Stp w H w' H') : ∀ {xs : List Val} {vs : List V}, RepVs g w H xs vs → RepVs g w' H' xs vs
  | _, _, .nil => .nil
  | _, _, .cons h r => .cons (h.step l) (RepVs.step l r)
theorem RepVs.length : ∀ {d : List Val} {v : List V}, RepVs g w H d v → d.length = v.length
  | _, _, .nil => rfl
  | _, _, .cons _ r => congrArg (· + 1) (RepVs.length r)
theorem RepVs.get : ∀ {ds : List Val} {vs : List V} {i : Nat} {d : Val}, RepVs g w H ds vs → ds[i]? = some d → ∃ v, vs[i]? = some v ∧ RepV g w H d v
  | _, _, _, _, .nil, e => by simp at e
  | _, _, 0, _, .cons h _, e => by
    simp at e
    subst e
    exact ⟨_, rfl, h⟩
  | _, _, i + 1, d, .cons _ r, e => by
    obtain ⟨v, h1, h2⟩ := RepVs.get (i := i) (d := d) r (by simpa using e)
    exact ⟨v, by simpa using h1, h2⟩
theorem EnvOk.step (l : Stp w H w' H') {Γ : Env} {σ : St} (h : EnvOk g w Γ σ H) : EnvOk g w' Γ σ H' :=
  ⟨h.len, fun i x e => let ⟨v, h1, h2⟩ := h.val i x e; ⟨v, h1, h2.step l⟩⟩
theorem EnvOk.set {Γ : Env} {σ : St} (h : EnvOk g w Γ σ H) (i : Nat) {x : Val} {v : V} (r : RepV g w H x v) : EnvOk g w (Γ.set i (some x)) (σ.set i (some v)) H := by
  refine ⟨by simp [h.len], fun j y e => ?_⟩
  by_cases hj : i = j
  · subst hj
    have hlt : i < Γ.length := by
      rcases Nat.lt_or_ge i Γ.length with q | q
      · exact q
      · rw [List.getElem?_eq_none (by simpa using q)] at e
        cases e
    rw [List.getElem?_set_self hlt] at e
    cases e
    exact ⟨v, by rw [List.getElem?_set_self (by rw [← h.len]; exact hlt)], r⟩
  · rw [List.getElem?_set_ne hj] at e
    obtain ⟨u, h1, h2⟩ := h.val j y e
    exact ⟨u, by rw [List.getElem?_set_ne hj]; exact h1, h2⟩
theorem EnvOk.drop1 {Γ : Env} {σ : St} (h : EnvOk g w Γ σ H) (i : Nat) (o : Option V) : EnvOk g w (Γ.set i none) (σ.set i o) H := by
  refine ⟨by simp [h.len], fun j y e => ?_⟩
  by_cases hj : i = j
  · subst hj
    by_cases hlt : i < Γ.length
    · rw [List.getElem?_set_self hlt] at e
      cases e
    · rw [List.getElem?_eq_none (by simpa using hlt)] at e
      cases e
  · rw [List.getElem?_set_ne hj] at e
    obtain ⟨u, h1, h2⟩ := h.val j y e
    exact ⟨u, by rw [List.getElem?_set_ne hj]; exact h1, h2⟩
theorem StOk.nav {S : Store} (h : StOk g w S H) {p : Addr} (hp : H p = none) : ¬ w.av p := fun z => by
  rcases z with z | z
  · obtain ⟨k, hk⟩ := List.getElem?_of_mem z
    obtain ⟨c, hc⟩ := h.live k p hk
    obtain ⟨a, ha, q⟩ := h.cell k c hc
    rw [hk] at ha
    cases ha
    cases c with
    | lst ds =>
      obtain ⟨vs, e, _⟩ := q
      rw [hp] at e
      cases e
    | obj cn fs =>
      obtain ⟨C, dx, vs, _, _, _, e, _⟩ := q
      rcases e with ⟨e, _⟩ | ⟨e, _⟩
      · rw [hp] at e; cases e
      · rw [hp] at e; cases e
  · exact (h.hid p z).2 hp
theorem le_new {S : Store} (h : StOk g w S H) {p : Addr} {o : HO} (hp : H p = none) : Le w H w (upd H p o) where
  av := fun a z => .inl z
  keepN := fun a u e _ n => by rw [upd_ne (ne_of_none e hp)]; exact e
  trk := fun a e => by
    unfold upd
    split
    · exact fun z => by cases z
    · exact e
  hk := fun a z => upd_ne fun q => (h.hid a z).2 (by rw [q]; exact hp)
theorem CellOk.le (l : Le w H w' H') {c : Cell} {a : Addr} (h : CellOk g w H c a) (e : ∀ b o, (b = a ∨ H b = some (.own a)) → H b = some o → H' b = some o) : CellOk g w' H' c a := by
  cases c with
  | lst ds =>
    obtain ⟨vs, h1, h2⟩ := h
    exact ⟨vs, e a _ (.inl rfl) h1, RepL.le l h2⟩
  | obj cn fs =>
    obtain ⟨C, dx, vs, h1, h2, h3, h4, h5, hl, h6⟩ := h
    have hd : ∀ o, H dx = some o → (o = .own a ∨ o = .xd []) → H' dx = some o := fun o q z => by
      rcases z with z | z
      · exact e dx o (.inr (by rw [q, z])) q
      · rw [z] at q ⊢; exact l.keep _ _ q h3
    refine ⟨C, dx, vs, h1, h2, ?_, ?_, ?_, hl, fun i x q => ?_⟩
    · rcases h5 with q | q
      · exact l.navk q h3
      · exact l.navk q h3
    · rcases h4 with ⟨q, z⟩ | ⟨q, z⟩
      · exact .inl ⟨e a _ (.inl rfl) q, z⟩
      · exact .inr ⟨e a _ (.inl rfl) q, hd _ z (.inr rfl)⟩
    · exact h5.imp (fun q => hd _ q (.inl rfl)) fun q => hd _ q (.inr rfl)
    · obtain ⟨v, q1, q2⟩ := h6 i x q
      exact ⟨v, q1, Rep.le l q2⟩
theorem StOk.new {S : Store} (h : StOk g w S H) {p : Addr} {o : HO} (hp : H p = none) : StOk g w S (upd H p o) := by
  have l := le_new (o := o) h hp
  refine ⟨h.len, fun k c e => ?_, h.live, h.inj, fun a z => ⟨(h.hid a z).1, l.trk a (h.hid a z).2⟩⟩
  obtain ⟨a, h1, h2⟩ := h.cell k c e
  exact ⟨a, h1, h2.le l fun b o _ q => by rw [upd_ne (ne_of_none q hp)]; exact q⟩
theorem step_new {S : Store} (h : StOk g w S H) {p : Addr} {o : HO} (hp : H p = none) : Stp w H w (upd H p o) := ⟨le_new h hp, rfl, rfl, fun _ _ e => e⟩
end
end Pd

namespace Pd
open PySem L2

/-! ### readings by denotations -/
def ExcRep (g : Gx) (w : Wd) (H : Hp) (c : Str) (x : D) (cls : Value) (dx : Option Addr) : Prop :=
  ∃ C, g.cl c = some C ∧ cls = .ref C ∧ ((x = .non ∧ dx = none) ∨ ∃ d v, dx = some d ∧ H d = some (.xd [(g.fld c, v)]) ∧ ¬ w.av d ∧ Rep g w H x v)

section
variable {α β : Type}
def RQ (g : Gx) (W : WX) (ρ : Wd → Hp → α → β → Prop) (w : Wd) (σ : St) (H : Hp) (r : R α) (Q : β → Hp → Prop) : Prop := match r with
  | .ok x S' => ∀ v w' H', Stp w H w' H' → StOk g w' S' H' → ρ w' H' x v → Q v H'
  | .exc c x S' => ∀ cls dx w' H', Stp w H w' H' → StOk g w' S' H' → ExcRep g w' H' c x cls dx → W cls dx σ H'
  | .bad => False
def tX (g : Gx) (W : WX) (ρ : Wd → Hp → α → β → Prop) (ev : Env → Store → R α) : St → Hp → (β → Hp → Prop) → Prop := fun σ H Q =>
  ∃ w Γ S, StOk g w S H ∧ EnvOk g w Γ σ H ∧ RQ g W ρ w σ H (ev Γ S) Q
end
abbrev tE (g : Gx) (W : WX) (ev : Ev) : TE := tX g W (RepV g) ev
abbrev tT (g : Gx) (W : WX) (ev : Env → Store → R Bool) : TT := tX g W (fun _ _ a b => a = b) ev
abbrev tA (g : Gx) (W : WX) (ev : Env → Store → R (List Val)) : TA := tX g W (RepVs g) ev

section
variable {α β γ δ : Type} {g : Gx} {W : WX} {ρ : Wd → Hp → α → β → Prop} {ρ' : Wd → Hp → γ → δ → Prop} {w w1 : Wd} {σ : St} {H H1 : Hp}
theorem RQ.to {r : R α} {Q : β → Hp → Prop} (h : RQ g W ρ w σ H r Q) (s : Stp w H w1 H1) : RQ g W ρ w1 σ H1 r Q := by
  cases r with
  | ok x S => exact fun v w' H' s' => h v w' H' (s.trans s')
  | exc c x S => exact fun cls dx w' H' s' => h cls dx w' H' (s.trans s')
  | bad => exact h
theorem tX_seq {Γ : Env} {S : Store} {ea : Env → Store → R α} {k : α → Store → R γ} {Q : δ → Hp → Prop} (st : StOk g w S H) (en : EnvOk g w Γ σ H) (h : RQ g W ρ' w σ H ((ea Γ S).bind k) Q) {P : β → Hp → Prop}
    (hP : ∀ v H1 x S1 w1, Stp w H w1 H1 → StOk g w1 S1 H1 → EnvOk g w1 Γ σ H1 → ρ w1 H1 x v → RQ g W ρ' w1 σ H1 (k x S1) Q → P v H1) : tX g W ρ ea σ H P := by
  refine ⟨w, Γ, S, st, en, ?_⟩
  cases e : ea Γ S with
  | ok x S1 =>
    rw [e] at h
    exact fun v w' H' s st' r => hP v H' x S1 w' s st' (en.step s) r (RQ.to (r := k x S1) h s)
  | exc c x S1 =>
    rw [e] at h
    exact h
  | bad =>
    rw [e] at h
    exact h
theorem RQ.okQ {x : α} {S : Store} {v : β} {Q : β → Hp → Prop} (h : RQ g W ρ w σ H (.ok x S) Q) (st : StOk g w S H) (r : ρ w H x v) : Q v H := h v w H (.refl w H) st r
end
theorem _root_.L2.PE.imp {X : Cx} {e : Expr} {t t' : TE} (h : PE X e t) (i : ∀ σ H Q, t' σ H Q → t σ H Q) : PE X e t' := ⟨fun pins s σ H Q I hw => h.run pins s σ H Q I (i σ H Q hw)⟩
theorem _root_.L2.PT.imp {X : Cx} {e : Expr} {t t' : TT} (h : PT X e t) (i : ∀ σ H Q, t' σ H Q → t σ H Q) : PT X e t' := ⟨fun pins s σ H Q I hw => h.run pins s σ H Q I (i σ H Q hw)⟩
theorem _root_.L2.PW.imp {X : Cx} {e : Expr} {t t' : TT} (h : PW X e t) (i : ∀ σ H Q, t' σ H Q → t σ H Q) : PW X e t' := ⟨fun whole pins s σ H Q I hw => h.run whole pins s σ H Q I (i σ H Q hw)⟩
theorem _root_.L2.PA.imp {X : Cx} {e : List Expr} {t t' : TA} (h : PA X e t) (i : ∀ σ H Q, t' σ H Q → t σ H Q) : PA X e t' := ⟨fun pos pins s σ H Q I hw => h.run pos pins s σ H Q I (i σ H Q hw)⟩
theorem _root_.L2.PS.imp {X : Cx} {e : Stmt} {t t' : TS} (h : PS X e t) (i : ∀ D σ H, t' D σ H → t D σ H) : PS X e t' := ⟨fun pins s σ H D I hw => h.run pins s σ H D I (i D σ H hw)⟩
theorem _root_.L2.PSs.imp {X : Cx} {e : List Stmt} {t t' : TS} (h : PSs X e t) (i : ∀ D σ H, t' D σ H → t D σ H) : PSs X e t' := ⟨fun pins s σ H D I hw => h.run pins s σ H D I (i D σ H hw)⟩
theorem _root_.L2.PG.imp {X : Cx} {e : Expr} {t t' : TG} (h : PG X e t) (i : ∀ v σ H Q, t' v σ H Q → t v σ H Q) : PG X e t' := ⟨fun pins s σ H v u Q I r hw => h.run pins s σ H v u Q I r (i v σ H Q hw)⟩
theorem _root_.L2.PI.imp {X : Cx} {tg e : Expr} {t t' : TI} (h : PI X tg e t) (i : ∀ σ H R, t' σ H R → t σ H R) : PI X tg e t' := ⟨fun pins s σ H R I hw => h.run pins s σ H R I (i σ H R hw)⟩

/-! ### denotations of expressions -/
def cap : Nat := 1000000
def eVar (i : Nat) : Ev := fun Γ S => match Γ[i]? with | some (some x) => .ok x S | _ => .bad
def eC (d : D) : Ev := fun _ S => .ok (.d d) S
def eBin (f : Val → Val → Store → R Val) (a b : Ev) : Ev := fun Γ S => (a Γ S).bind fun x S1 => (b Γ S1).bind fun y S2 => f x y S2
def eUn (f : Val → Store → R Val) (a : Ev) : Ev := fun Γ S => (a Γ S).bind fun x S1 => f x S1
def asB : Val → Store → R Bool
  | .d (.bl b), S => .ok b S
  | _, _ => .bad
def eTest (a : Ev) : Env → Store → R Bool := fun Γ S => (a Γ S).bind asB
def eAnd (a b : Ev) : Ev := fun Γ S => (eTest a Γ S).bind fun x S1 => if x = true then b Γ S1 else .ok (.d (.bl false)) S1
def eOr (a b : Ev) : Ev := fun Γ S => (eTest a Γ S).bind fun x S1 => if x = true then .ok (.d (.bl true)) S1 else b Γ S1
def eNot (a : Ev) : Ev := fun Γ S => (eTest a Γ S).bind fun x S1 => .ok (.d (.bl (!x))) S1
def eIf (t a b : Ev) : Ev := fun Γ S => (eTest t Γ S).bind fun x S1 => if x = true then a Γ S1 else b Γ S1
def eChain (f f' : Val → Val → Store → R Val) (a b c : Ev) : Ev := fun Γ S => (a Γ S).bind fun x S1 => (b Γ S1).bind fun y S2 => (f x y S2).bind fun z S3 => (asB z S3).bind fun k S4 =>
  if k = true then (c Γ S4).bind fun u S5 => f' y u S5 else .ok (.d (.bl false)) S4
def eNil : Env → Store → R (List Val) := fun _ S => .ok [] S
def eCons (a : Ev) (r : Env → Store → R (List Val)) : Env → Store → R (List Val) := fun Γ S => (a Γ S).bind fun x S1 => (r Γ S1).bind fun xs S2 => .ok (x :: xs) S2
def eCall (f : List Val → Store → R Val) (r : Env → Store → R (List Val)) : Ev := fun Γ S => (r Γ S).bind f
/-- closed items alone -/
def clo : List Val → Option (List D)
  | [] => some []
  | .d x :: r => (clo r).map (x :: ·)
  | .cell _ :: _ => none
def fTup (xs : List Val) (S : Store) : R Val := match clo xs with | some ds => if ds.length ≤ cap then .ok (.d (.tup ds)) S else .bad | none => .bad
def fLst (xs : List Val) (S : Store) : R Val := match clo xs with | some ds => if ds.length ≤ cap then .ok (.d (.lst ds)) S else .bad | none => .bad

def Op2 (g : Gx) (r : R2) (f : Val → Val → Store → R Val) : Prop := ∀ (W : WX) (w : Wd) (S : Store) (H : Hp) (σ : St) (x y : Val) (u v : V) (Q : VK), StOk g w S H → RepV g w H x u → RepV g w H y v → RQ g W (RepV g) w σ H (f x y S) Q → r u v H Q
def Op1 (g : Gx) (r : V → Hp → VK → Prop) (f : Val → Store → R Val) : Prop := ∀ (W : WX) (w : Wd) (S : Store) (H : Hp) (σ : St) (x : Val) (u : V) (Q : VK), StOk g w S H → RepV g w H x u → RQ g W (RepV g) w σ H (f x S) Q → r u H Q
def OpN (g : Gx) (r : List V → Hp → VK → Prop) (f : List Val → Store → R Val) : Prop := ∀ (W : WX) (w : Wd) (S : Store) (H : Hp) (σ : St) (xs : List Val) (us : List V) (Q : VK), StOk g w S H → RepVs g w H xs us → RQ g W (RepV g) w σ H (f xs S) Q → r us H Q

section
variable {X : Cx} {g : Gx} {W : WX} {a b c : Expr} {ea eb ec : Ev} {pos : Pos} {es : List Expr} {er : Env → Store → R (List Val)}
theorem p_var {i : Nat} {x : Str} (hN : X.N[i]? = some x := by rfl) (hv : Vis X.env.scope x := by first | exact Or.inl rfl | exact Or.inr (Or.inl rfl) | exact Or.inr (Or.inr rfl)) (hd : (x == ("__debug__" : Str)) = false := by decide) (hcd : (x == ("__classdict__" : Str)) = false := by decide) :
    PE X (.Name x pos) (tE g W (eVar i)) := (pe_var (i := i) hN hv hd hcd).imp fun σ H Q ⟨w, Γ, S, st, en, h⟩ => by
  unfold eVar at h
  cases e : Γ[i]? with
  | none => rw [e] at h; exact h.elim
  | some o =>
    cases o with
    | none => rw [e] at h; exact h.elim
    | some y =>
      rw [e] at h
      obtain ⟨v, h1, h2⟩ := en.val i y e
      exact ⟨v, h1, RQ.okQ h st h2⟩
theorem p_c {e : Expr} {v : V} {d : D} (he : PE X e (tC v)) (hr : ∀ w H, Rep g w H d v) : PE X e (tE g W (eC d)) := he.imp fun σ H Q ⟨w, Γ, S, st, en, h⟩ => RQ.okQ h st (hr w H)
theorem p_int {i : Int} {j : Nat} : PE X (.Constant (.int i) j pos) (tE g W (eC (.int i))) := p_c pe_int fun _ _ => .int i
theorem p_bl {i : Bool} {j : Nat} : PE X (.Constant (.bool i) j pos) (tE g W (eC (.bl i))) := p_c pe_bl fun _ _ => .bl i
theorem p_non {j : Nat} : PE X (.Constant .none j pos) (tE g W (eC .non)) := p_c pe_non fun _ _ => .non
theorem p_str {i : Str} {j : Nat} : PE X (.Constant (.str i) j pos) (tE g W (eC (.str i))) := p_c pe_str fun _ _ => .str i
theorem p_glob {x : Str} {u : Value} {v : V} {d : D} (hg : Gl X x) (hm : X.mg x = some u) (r : RelV v u) (hr : ∀ w H, Rep g w H d v) (hd : (x == ("__debug__" : Str)) = false := by decide) : PE X (.Name x pos) (tE g W (eC d)) := p_c (pe_glob hg hm r hd) hr
theorem p_globI {x : Str} {i : Int} {t : Tok} (hg : Gl X x) (hm : X.mg x = some (.int i t)) (hd : (x == ("__debug__" : Str)) = false := by decide) : PE X (.Name x pos) (tE g W (eC (.int i))) := p_glob (v := .int i) hg hm (show RelV (.int i) (.int i t) from ⟨t, rfl⟩) (fun _ _ => .int i) hd

theorem p_bin {op : Operator} {r : R2} {f : Val → Val → Store → R Val} (ho : OpR X (binaryOp op) r) (hf : Op2 g r f) (ha : PE X a (tE g W ea)) (hb : PE X b (tE g W eb)) : PE X (.BinOp a op b pos) (tE g W (eBin f ea eb)) :=
  (pe_op ho ha hb).imp fun σ H Q ⟨w, Γ, S, st, en, h⟩ => tX_seq st en h fun u H1 x S1 w1 s1 st1 en1 r1 h1 => tX_seq st1 en1 h1 fun v H2 y S2 w2 s2 st2 en2 r2 h2 =>
    hf W w2 S2 H2 σ x y u v Q st2 (r1.step s2) r2 h2
theorem p_un {op : UnaryOp} {r : V → Hp → VK → Prop} {f : Val → Store → R Val} (ho : UnR X (unaryOp op) r) (hf : Op1 g r f) (ha : PE X a (tE g W ea)) : PE X (.UnaryOp op a pos) (tE g W (eUn f ea)) :=
  (pe_un ho ha).imp fun σ H Q ⟨w, Γ, S, st, en, h⟩ => tX_seq st en h fun u H1 x S1 w1 s1 st1 en1 r1 h1 => hf W w1 S1 H1 σ x u Q st1 r1 h1
theorem p_cmp {op : CmpOp} {r : R2} {f : Val → Val → Store → R Val} (ho : OpR X (compareOp op) r) (hf : Op2 g r f) (ha : PE X a (tE g W ea)) (hb : PE X b (tE g W eb)) (hm : behindInMarks op b = false := by first | exact nobehind _ (by decide) (by decide) | rfl) :
    PE X (.Compare a [op] [b] pos) (tE g W (eBin f ea eb)) :=
  (pe_cmpR ho ha hb hm).imp fun σ H Q ⟨w, Γ, S, st, en, h⟩ => tX_seq st en h fun u H1 x S1 w1 s1 st1 en1 r1 h1 => tX_seq st1 en1 h1 fun v H2 y S2 w2 s2 st2 en2 r2 h2 =>
    hf W w2 S2 H2 σ x y u v Q st2 (r1.step s2) r2 h2
/-- the test of a value: behind its reading -/
theorem asB_q {w : Wd} {σ : St} {H : Hp} {x : Val} {v : V} {S : Store} {Q : Bool → Hp → Prop} (st : StOk g w S H) (r : RepV g w H x v) (h : RQ g W (fun _ _ a b => a = b) w σ H (asB x S) Q) : ∃ k, v = .bl k ∧ Q k H := by
  cases x with
  | cell k => exact h.elim
  | d x =>
    cases x with
    | bl b =>
      cases r
      exact ⟨b, rfl, RQ.okQ h st rfl⟩
    | _ => exact h.elim
theorem R.bind_assoc {α β γ : Type} {r : R α} {k : α → Store → R β} {l : β → Store → R γ} : (r.bind k).bind l = r.bind fun x S => (k x S).bind l := by
  cases r <;> rfl
theorem pt_cmp' {op : CmpOp} {r : R2} {f : Val → Val → Store → R Val} (ho : OpR X (compareOp op) r) (hf : Op2 g r f) (ha : PE X a (tE g W ea)) (hb : PE X b (tE g W eb)) (hm : behindInMarks op b = false := by first | exact nobehind _ (by decide) (by decide) | rfl) :
    PT X (.Compare a [op] [b] pos) (tT g W (eTest (eBin f ea eb))) :=
  (pt_cmpR ho ha hb hm).imp fun σ H Q ⟨w, Γ, S, st, en, h⟩ => by
    unfold eTest eBin at h
    rw [R.bind_assoc] at h
    refine tX_seq st en h fun u H1 x S1 w1 s1 st1 en1 r1 h1 => ?_
    rw [R.bind_assoc] at h1
    refine tX_seq st1 en1 h1 fun v H2 y S2 w2 s2 st2 en2 r2 h2 => ?_
    refine hf W w2 S2 H2 σ x y u v _ st2 (r1.step s2) r2 ?_
    revert h2
    cases f x y S2 with
    | ok z S3 => exact fun h2 v' w' H' s' st' r' => asB_q st' r' (RQ.to (r := asB z S3) h2 s')
    | exc c z S3 => exact id
    | bad => exact id
/-- an expression whose value is a bool, as a test -/
theorem pt_v (ha : PE X a (tE g W ea)) (he : ∀ whole, isTrue a X.env whole = (do let v ← whole; standAt a.pos; holding [v] (truthy v)) := by intro _; rfl) : PT X a (tT g W (eTest ea)) :=
  (pt_val ha he).imp fun σ H Q ⟨w, Γ, S, st, en, h⟩ => tX_seq st en h fun u H1 x S1 w1 s1 st1 en1 r1 h1 => asB_q st1 r1 h1
theorem pt_not' (ha : PT X a (tT g W (eTest ea))) : PT X (.UnaryOp .Not a pos) (tT g W (eTest (eNot ea))) :=
  (pt_not ha).imp fun σ H Q ⟨w, Γ, S, st, en, h⟩ => by
    unfold eTest eNot at h
    rw [R.bind_assoc] at h
    refine tX_seq st en h fun u H1 x S1 w1 s1 st1 en1 r1 h1 => ?_
    cases r1
    exact RQ.okQ h1 st1 rfl
theorem p_not (ha : PE X a (tE g W ea)) : PE X (.UnaryOp .Not a pos) (tE g W (eNot ea)) :=
  (pe_not ha).imp fun σ H Q ⟨w, Γ, S, st, en, h⟩ => by
    unfold eNot eTest at h
    rw [R.bind_assoc] at h
    refine tX_seq st en h fun u H1 x S1 w1 s1 st1 en1 r1 h1 => ?_
    cases x with
    | cell k => exact h1.elim
    | d x =>
      cases x with
      | bl b =>
        cases r1
        exact ⟨b, rfl, RQ.okQ h1 st1 (.bl _)⟩
      | _ => exact h1.elim
variable {rest : List Expr}
theorem p_and1 {op : BoolOp} (ha : PE X a (tE g W ea)) : PE X (.BoolOp op [a] pos) (tE g W ea) := pe_one ha
theorem p_and (ha : PE X a (tE g W ea)) (hb : PE X (.BoolOp .And (b :: rest) pos) (tE g W eb)) : PE X (.BoolOp .And (a :: b :: rest) pos) (tE g W (eAnd ea eb)) :=
  (pe_and ha hb).imp fun σ H Q ⟨w, Γ, S, st, en, h⟩ => by
    unfold eAnd eTest at h
    rw [R.bind_assoc] at h
    refine tX_seq st en h fun u H1 x S1 w1 s1 st1 en1 r1 h1 => ?_
    cases x with
    | cell k => exact h1.elim
    | d x =>
      cases x with
      | bl b =>
        cases r1
        refine ⟨b, rfl, ?_⟩
        cases b with
        | true => exact ⟨w1, Γ, S1, st1, en1, h1⟩
        | false => exact RQ.okQ h1 st1 (.bl false)
      | _ => exact h1.elim
theorem p_or (ha : PE X a (tE g W ea)) (hb : PE X (.BoolOp .Or (b :: rest) pos) (tE g W eb)) : PE X (.BoolOp .Or (a :: b :: rest) pos) (tE g W (eOr ea eb)) :=
  (pe_or ha hb).imp fun σ H Q ⟨w, Γ, S, st, en, h⟩ => by
    unfold eOr eTest at h
    rw [R.bind_assoc] at h
    refine tX_seq st en h fun u H1 x S1 w1 s1 st1 en1 r1 h1 => ?_
    cases x with
    | cell k => exact h1.elim
    | d x =>
      cases x with
      | bl b =>
        cases r1
        refine ⟨b, rfl, ?_⟩
        cases b with
        | false => exact ⟨w1, Γ, S1, st1, en1, h1⟩
        | true => exact RQ.okQ h1 st1 (.bl true)
      | _ => exact h1.elim
theorem pw_and1' (ha : PT X a (tT g W (eTest ea))) : PW X (.BoolOp .And [a] pos) (tT g W (eTest ea)) := pw_and1 ha
theorem pw_or1' (ha : PT X a (tT g W (eTest ea))) : PW X (.BoolOp .Or [a] pos) (tT g W (eTest ea)) := pw_or1 ha
theorem pw_and' (ha : PT X a (tT g W (eTest ea))) (hb : PW X (.BoolOp .And (b :: rest) pos) (tT g W (eTest eb))) : PW X (.BoolOp .And (a :: b :: rest) pos) (tT g W (eTest (eAnd ea eb))) :=
  (pw_and ha hb).imp fun σ H Q ⟨w, Γ, S, st, en, h⟩ => by
    have e : eTest (eAnd ea eb) Γ S = (eTest ea Γ S).bind fun x S1 => if x = true then eTest eb Γ S1 else .ok false S1 := by
      show ((eTest ea Γ S).bind _).bind _ = _
      rw [R.bind_assoc]
      congr 1
      funext x S1
      cases x <;> rfl
    rw [e] at h
    refine tX_seq st en h fun u H1 x S1 w1 s1 st1 en1 r1 h1 => ?_
    cases r1
    cases u with
    | true => exact ⟨w1, Γ, S1, st1, en1, h1⟩
    | false => exact RQ.okQ h1 st1 rfl
theorem pw_or' (ha : PT X a (tT g W (eTest ea))) (hb : PW X (.BoolOp .Or (b :: rest) pos) (tT g W (eTest eb))) : PW X (.BoolOp .Or (a :: b :: rest) pos) (tT g W (eTest (eOr ea eb))) :=
  (pw_or ha hb).imp fun σ H Q ⟨w, Γ, S, st, en, h⟩ => by
    have e : eTest (eOr ea eb) Γ S = (eTest ea Γ S).bind fun x S1 => if x = true then .ok true S1 else eTest eb Γ S1 := by
      show ((eTest ea Γ S).bind _).bind _ = _
      rw [R.bind_assoc]
      congr 1
      funext x S1
      cases x <;> rfl
    rw [e] at h
    refine tX_seq st en h fun u H1 x S1 w1 s1 st1 en1 r1 h1 => ?_
    cases r1
    cases u with
    | false => exact ⟨w1, Γ, S1, st1, en1, h1⟩
    | true => exact RQ.okQ h1 st1 rfl
theorem p_if (hc : PT X c (tT g W (eTest ec))) (ha : PE X a (tE g W ea)) (hb : PE X b (tE g W eb)) : PE X (.IfExp c a b pos) (tE g W (eIf ec ea eb)) :=
  (pe_ifExp hc ha hb).imp fun σ H Q ⟨w, Γ, S, st, en, h⟩ => by
    refine tX_seq st en h fun u H1 x S1 w1 s1 st1 en1 r1 h1 => ?_
    cases r1
    cases u with
    | true => exact ⟨w1, Γ, S1, st1, en1, h1⟩
    | false => exact ⟨w1, Γ, S1, st1, en1, h1⟩
theorem chain_q {r r' : R2} {f f' : Val → Val → Store → R Val} (hf : Op2 g r f) (hf' : Op2 g r' f') {σ : St} {H : Hp} {Q : VK} (h : tE g W (eChain f f' ea eb ec) σ H Q) : tChain r r' (tE g W ea) (tE g W eb) (tE g W ec) σ H Q := by
  obtain ⟨w, Γ, S, st, en, h⟩ := h
  refine tX_seq st en h fun u H1 x S1 w1 s1 st1 en1 r1 h1 => tX_seq st1 en1 h1 fun v H2 y S2 w2 s2 st2 en2 r2 h2 => hf W w2 S2 H2 σ x y u v _ st2 (r1.step s2) r2 ?_
  revert h2
  cases f x y S2 with
  | ok z S3 =>
    intro h2 v' w' H' s' st' r'
    have h3 := RQ.to (r := (asB z S3).bind _) h2 s'
    cases z with
    | cell k => exact h3.elim
    | d z =>
      cases z with
      | bl k =>
        cases r'
        refine ⟨k, rfl, ?_⟩
        cases k with
        | true => exact tX_seq st' (en2.step s') h3 fun v4 H4 z4 S4 w4 s4 st4 en4 r4 h4 => hf' W w4 S4 H4 σ y z4 v v4 Q st4 ((r2.step s').step s4) r4 h4
        | false => exact RQ.okQ h3 st' (.bl false)
      | _ => exact h3.elim
  | exc c z S3 => exact id
  | bad => exact id
theorem p_chain {op op' : CmpOp} {r r' : R2} {f f' : Val → Val → Store → R Val} (ho : OpR X (compareOp op) r) (hf : Op2 g r f) (ho' : OpR X (compareOp op') r') (hf' : Op2 g r' f') (ha : PE X a (tE g W ea)) (hb : PE X b (tE g W eb)) (hc : PE X c (tE g W ec))
    (hm : lastMarks [op, op'] [b, c] = false := by with_unfolding_all rfl) : PE X (.Compare a [op, op'] [b, c] pos) (tE g W (eChain f f' ea eb ec)) := (pe_chain ho ho' ha hb hc hm).imp fun σ H Q h => chain_q hf hf' h
theorem pt_chain' {op op' : CmpOp} {r r' : R2} {f f' : Val → Val → Store → R Val} (ho : OpR X (compareOp op) r) (hf : Op2 g r f) (ho' : OpR X (compareOp op') r') (hf' : Op2 g r' f') (ha : PE X a (tE g W ea)) (hb : PE X b (tE g W eb)) (hc : PE X c (tE g W ec))
    (hm : lastMarks [op, op'] [b, c] = false := by with_unfolding_all rfl) : PT X (.Compare a [op, op'] [b, c] pos) (tT g W (eTest (eChain f f' ea eb ec))) :=
  (pt_chain ho ho' ha hb hc hm).imp fun σ H Q h => by
    refine chain_q (g := g) (W := W) hf hf' ?_
    obtain ⟨w, Γ, S, st, en, h⟩ := h
    refine ⟨w, Γ, S, st, en, ?_⟩
    revert h
    show RQ g W _ w σ H ((eChain f f' ea eb ec Γ S).bind asB) Q → _
    cases eChain f f' ea eb ec Γ S with
    | ok z S3 => exact fun h2 v' w' H' s' st' r' => asB_q st' r' (RQ.to (r := asB z S3) h2 s')
    | exc c z S3 => exact id
    | bad => exact id
theorem a_nil : PA X [] (tA g W eNil) := pa_nil.imp fun σ H Q ⟨w, Γ, S, st, en, h⟩ => RQ.okQ h st .nil
theorem a_cons (ha : PE X a (tE g W ea)) (hr : PA X es (tA g W er)) (hs : starEach (a :: es) X.env = (false, eval a X.env) :: starEach es X.env := by rfl) : PA X (a :: es) (tA g W (eCons ea er)) :=
  (pa_cons ha hr hs).imp fun σ H Q ⟨w, Γ, S, st, en, h⟩ => tX_seq st en h fun u H1 x S1 w1 s1 st1 en1 r1 h1 => tX_seq st1 en1 h1 fun v H2 y S2 w2 s2 st2 en2 r2 h2 =>
    RQ.okQ h2 st2 (.cons (r1.step s2) r2)
theorem clo_rep {w : Wd} {H : Hp} : ∀ {xs : List Val} {vs : List V} {ds : List D}, RepVs g w H xs vs → clo xs = some ds → RepL g w H ds vs
  | _, _, _, .nil, e => by
    cases e
    exact .nil
  | .d x :: xs, _, ds, .cons h r, e => by
    unfold clo at e
    cases q : clo xs with
    | none => rw [q] at e; cases e
    | some es =>
      rw [q] at e
      cases e
      exact .cons h (clo_rep r q)
  | .cell _ :: _, _, _, .cons _ _, e => by cases e
theorem RepL.new {w : Wd} {S : Store} {H : Hp} (st : StOk g w S H) {p : Addr} {o : HO} (hp : H p = none) {ds : List D} {vs : List V} (r : RepL g w H ds vs) : RepL g w (upd H p o) ds vs := RepL.le (le_new st hp) r
theorem rep_tup {w : Wd} {S : Store} {H : Hp} (st : StOk g w S H) {p : Addr} (hp : H p = none) {ds : List D} {vs : List V} (r : RepL g w H ds vs) : Rep g w (upd H p (.tup vs)) (.tup ds) (.ref p) := .tup (.inl ⟨.inl upd_same, st.nav hp⟩) (r.new st hp)
theorem rep_lst {w : Wd} {S : Store} {H : Hp} (st : StOk g w S H) {p : Addr} (hp : H p = none) {ds : List D} {vs : List V} (r : RepL g w H ds vs) : Rep g w (upd H p (.lst vs)) (.lst ds) (.ref p) := .lst upd_same (st.nav hp) (r.new st hp)
theorem RQ.newQ {x : Val} {w : Wd} {σ : St} {S : Store} {H : Hp} {p : Addr} {o : HO} {v : V} {Q : VK} (h : RQ g W (RepV g) w σ H (.ok x S) Q) (st : StOk g w S H) (hp : H p = none) (r : RepV g w (upd H p o) x v) : Q v (upd H p o) :=
  h v w _ (step_new st hp) (st.new hp) r
theorem cap_le {n : Nat} (h : n ≤ cap) : n ≤ sizeLine := Nat.le_trans h (by decide)
theorem p_tup {k : Nat} (h : PA X es (tA g W er)) : PE X (.Tuple es k pos) (tE g W (eCall fTup er)) :=
  (pe_tup h).imp fun σ H Q ⟨w, Γ, S, st, en, h⟩ => tX_seq st en h fun us H1 xs S1 w1 s1 st1 en1 r1 h1 => by
    unfold fTup at h1
    cases e : clo xs with
    | none => rw [e] at h1; exact h1.elim
    | some ds =>
      rw [e] at h1
      have rl := clo_rep r1 e
      by_cases hz : ds.length ≤ cap
      · simp only [if_pos hz] at h1
        exact ⟨by rw [← rl.length]; exact cap_le hz, fun p hp => RQ.newQ h1 st1 hp (rep_tup st1 hp rl)⟩
      · simp only [if_neg hz] at h1
        exact h1.elim
theorem p_lst (h : PA X es (tA g W er)) : PE X (.List es pos) (tE g W (eCall fLst er)) :=
  (pe_lst h).imp fun σ H Q ⟨w, Γ, S, st, en, h⟩ => tX_seq st en h fun us H1 xs S1 w1 s1 st1 en1 r1 h1 => by
    unfold fLst at h1
    cases e : clo xs with
    | none => rw [e] at h1; exact h1.elim
    | some ds =>
      rw [e] at h1
      have rl := clo_rep r1 e
      by_cases hz : ds.length ≤ cap
      · simp only [if_pos hz] at h1
        exact ⟨by rw [← rl.length]; exact cap_le hz, fun p hp => RQ.newQ h1 st1 hp (rep_lst st1 hp rl)⟩
      · simp only [if_neg hz] at h1
        exact h1.elim
end
end Pd

namespace Pd
open PySem L2

/-! ### data that can be compared -/
mutual
/-- numbers, texts, None, tuples and lists of them, so deep at most -/
def fit : Nat → D → Bool
  | _, .non => true
  | _, .bl _ => true
  | _, .int _ => true
  | _, .str x => PySem.PyData.strOk x
  | n + 1, .tup xs => fitL n xs
  | n + 1, .lst xs => fitL n xs
  | _, _ => false
def fitL : Nat → List D → Bool
  | _, [] => true
  | n, x :: xs => fit n x && fitL n xs
end
mutual
def D.pd : D → PyData
  | .non => .none
  | .bl b => .bool b
  | .int i => .int i
  | .str x => .str x
  | .tup xs => .tuple (pdL xs)
  | .lst xs => .list (pdL xs)
  | _ => .none
def pdL : List D → List PyData
  | [] => []
  | x :: xs => x.pd :: pdL xs
end
def b2 (b : Bool) : Int := if b then 1 else 0
mutual
/-- Python's == -/
def D.eqv : D → D → Bool
  | .non, .non => true
  | .bl a, .bl b => a == b
  | .bl a, .int j => b2 a == j
  | .int i, .bl b => i == b2 b
  | .int i, .int j => i == j
  | .str x, .str y => x == y
  | .tup xs, .tup ys => eqvL xs ys
  | .lst xs, .lst ys => eqvL xs ys
  | _, _ => false
def eqvL : List D → List D → Bool
  | [], [] => true
  | x :: xs, y :: ys => x.eqv y && eqvL xs ys
  | _, _ => false
end
mutual
theorem fit_shape : ∀ (n : Nat) (d : D), fit n d = true → d.pd.canLay0 = true ∧ d.pd.depth ≤ n
  | _, .non, _ => ⟨rfl, Nat.zero_le _⟩
  | _, .bl _, _ => ⟨rfl, Nat.zero_le _⟩
  | _, .int _, _ => ⟨rfl, Nat.zero_le _⟩
  | n, .str x, h => by
    refine ⟨?_, Nat.zero_le _⟩
    unfold fit at h
    exact h
  | n + 1, .tup xs, h => by
    unfold fit at h
    obtain ⟨h1, h2⟩ := fitL_shape n xs h
    exact ⟨h1, Nat.succ_le_succ h2⟩
  | n + 1, .lst xs, h => by
    unfold fit at h
    obtain ⟨h1, h2⟩ := fitL_shape n xs h
    exact ⟨h1, Nat.succ_le_succ h2⟩
  | 0, .tup xs, h => by simp [fit] at h
  | 0, .lst xs, h => by simp [fit] at h
  | 0, .obj _ _, h => by simp [fit] at h
  | _ + 1, .obj _ _, h => by simp [fit] at h
  | 0, .scr _, h => by simp [fit] at h
  | _ + 1, .scr _, h => by simp [fit] at h
  | 0, .val _, h => by simp [fit] at h
  | _ + 1, .val _, h => by simp [fit] at h
theorem fitL_shape : ∀ (n : Nat) (d : List D), fitL n d = true → PyData.canLayAll0 (pdL d) = true ∧ PyData.depthAll (pdL d) ≤ n
  | _, [], _ => ⟨rfl, Nat.zero_le _⟩
  | n, x :: xs, h => by
    unfold fitL at h
    obtain ⟨h1, h2⟩ := Bool.and_eq_true_iff.mp h
    obtain ⟨a1, a2⟩ := fit_shape n x h1
    obtain ⟨b1, b2⟩ := fitL_shape n xs h2
    refine ⟨?_, ?_⟩
    · show (x.pd.canLay0 && PyData.canLayAll0 (pdL xs)) = true
      rw [a1, b1]
      rfl
    · show max x.pd.depth (PyData.depthAll (pdL xs)) ≤ n
      omega
end
theorem fit_shaped {d : D} (h : fit 60 d = true) : SeqAt.shaped d.pd = true := by
  obtain ⟨h1, h2⟩ := fit_shape 60 d h
  unfold SeqAt.shaped
  rw [h1, Bool.true_and]
  exact decide_eq_true (by omega)
mutual
theorem fit_dp {g : Gx} {w : Wd} {H : Hp} : ∀ {n : Nat} {d : D} {v : V}, Rep g w H d v → fit n d = true → Dp g.K H v d.pd
  | _, _, _, .non, _ => .non
  | _, _, _, .bl b, _ => .bl b
  | _, _, _, .int i, _ => .int i
  | _, _, _, .str x, _ => .str x
  | n, _, _, .tup h r, e => by
    cases n with
    | zero => simp [fit] at e
    | succ n =>
      unfold fit at e
      exact .tup h.sq (fit_dpL r e)
  | n, _, _, .lst h _ r, e => by
    cases n with
    | zero => simp [fit] at e
    | succ n =>
      unfold fit at e
      exact .lst (.inl (.inl h)) (fit_dpL r e)
  | n, _, _, .obj .., e => by cases n <;> simp [fit] at e
  | n, _, _, .scr .., e => by cases n <;> simp [fit] at e
  | n, _, _, .val .., e => by cases n <;> simp [fit] at e
theorem fit_dpL {g : Gx} {w : Wd} {H : Hp} : ∀ {n : Nat} {d : List D} {v : List V}, RepL g w H d v → fitL n d = true → DpAll g.K H v (pdL d)
  | _, _, _, .nil, _ => .nil
  | n, _, _, .cons h r, e => by
    unfold fitL at e
    obtain ⟨h1, h2⟩ := Bool.and_eq_true_iff.mp e
    exact .cons (fit_dp h h1) (fit_dpL r h2)
end
mutual
theorem pd_eqv : ∀ (n m : Nat) (d e : D), fit n d = true → fit m e = true → PyData.eqv d.pd e.pd = d.eqv e
  | n, m, d, e, h1, h2 => by
    cases d with
    | obj _ _ => cases n <;> simp [fit] at h1
    | scr _ => cases n <;> simp [fit] at h1
    | val _ => cases n <;> simp [fit] at h1
    | non => cases e <;> first | rfl | (cases m <;> simp [fit] at h2)
    | bl a => cases e <;> first | rfl | (cases m <;> simp [fit] at h2)
    | int a => cases e <;> first | rfl | (cases m <;> simp [fit] at h2)
    | str a => cases e <;> first | rfl | (cases m <;> simp [fit] at h2)
    | tup xs =>
      cases e with
      | tup ys =>
        cases n with
        | zero => simp [fit] at h1
        | succ n =>
          cases m with
          | zero => simp [fit] at h2
          | succ m =>
            unfold fit at h1 h2
            exact pd_eqvL n m xs ys h1 h2
      | _ => first | rfl | (cases m <;> simp [fit] at h2)
    | lst xs =>
      cases e with
      | lst ys =>
        cases n with
        | zero => simp [fit] at h1
        | succ n =>
          cases m with
          | zero => simp [fit] at h2
          | succ m =>
            unfold fit at h1 h2
            exact pd_eqvL n m xs ys h1 h2
      | _ => first | rfl | (cases m <;> simp [fit] at h2)
theorem pd_eqvL : ∀ (n m : Nat) (d e : List D), fitL n d = true → fitL m e = true → PyData.eqvAll (pdL d) (pdL e) = eqvL d e
  | _, _, [], [], _, _ => rfl
  | _, _, [], _ :: _, _, _ => rfl
  | _, _, _ :: _, [], _, _ => rfl
  | n, m, x :: xs, y :: ys, h1, h2 => by
    unfold fitL at h1 h2
    obtain ⟨a1, a2⟩ := Bool.and_eq_true_iff.mp h1
    obtain ⟨b1, b2⟩ := Bool.and_eq_true_iff.mp h2
    show (PyData.eqv x.pd y.pd && PyData.eqvAll (pdL xs) (pdL ys)) = (x.eqv y && eqvL xs ys)
    rw [pd_eqv n m x y a1 b1, pd_eqvL n m xs ys a2 b2]
end
end Pd

set_option maxHeartbeats 4000000
/-! a tuple that stays what it is behind * -/
namespace Pd
open PySem PySem.Spec PyProof.Rows L2
theorem once_W (l : Addr) (its : Array Value) (n : Nat) (dd : Option Addr) (sl : Array (Option Value)) (x : Int) (u : Tok) (z0 : (decide (x < -(2 ^ 63)) || decide (x ≥ 2 ^ 63)) = false) (z1 : (its.isEmpty || x == 1) = true) :
    Meets (Builtin.«tuple.__mul__» ⟨[.ref l, .int x u], []⟩) (fun _ R s => s.heap.get? l = some { cls := .type "tuple", dict := dd, data := .seq its n, slots := sl } ∧
      R (.ok (.ret (Value.ref l))) s) :=
  .of_wp fun prog w A R s h => by
    obtain ⟨hp, g, d, tk, os⟩ := s
    obtain ⟨hl, h⟩ := h
    have f1 := AutoSeq1.idx_int
    wp_walk using wpAny_loadPart' hl
    refine wpAny_ite_false (decide_eq_false (by rw [z0]; exact Bool.false_ne_true)) ?_
    wp_walk using wpAny_loadPart' hl
    repeat (first
      | (refine wpAny_ite_true (decide_eq_true z1) ?_; wp_walk using wpAny_loadPart' hl)
      | (refine wpAny_ite_true (decide_eq_true rfl) ?_; wp_walk using wpAny_loadPart' hl))
    exact ⟨_, rfl, h⟩
def rRepS (K : PySem.W.Frag) : R2 := fun x y H Q => ∃ l k xs, x = .ref l ∧ y = .int k ∧ SqT K H l xs ∧ (xs = [] ∨ k = 1) ∧ -1000 ≤ k ∧ k ≤ 1000 ∧ Q (.ref l) H
theorem op_repS {X : Cx} : OpR X (binaryOp .Mult) (rRepS X.K) := by
  intro pins s σ H x y v u Q I rx ry h
  obtain ⟨l, k, xs, rfl, rfl, hT, hne, h1, h2, q⟩ := h
  cases rx
  obtain ⟨t, rfl⟩ := ry
  obtain ⟨its, r, ⟨⟨cls, dd, data, sl⟩, ho, hc, n, hd⟩, hs⟩ := I.tuple hT
  simp only at hc hd
  subst hc hd
  have z0 : (decide (k < -(2 ^ 63)) || decide (k ≥ 2 ^ 63)) = false := by
    rw [decide_eq_false (by omega), decide_eq_false (by omega)] <;> rfl
  have z1 : (its.toArray.isEmpty || k == 1) = true := by
    rcases hne with e | e
    · rw [e] at r
      cases r
      rfl
    · rw [e]
      simp
  refine wpAny_binaryOp_repeat_ref (T := "tuple") (U := "int") (by decide) ⟨_, ho, rfl⟩ (fun s' => typeIs_int s' k t) noFill_tuple_mul F.fills_int_mul F.slot_int_rmul repeat_tuple F.slot_int_index.lookup
    (call_meets F.slot_int_rmul (typeIs_int s k t) F.entry_int_rmul (F.args_int_rmul_2 _ _) (int_rmul_tuple k t l its.toArray n dd sl)
      ⟨ho, rfl, ⟨_, ho, rfl⟩, call_meets F.slot_tuple_mul ⟨_, ho, rfl⟩ F.entry_tuple_mul (F.args_tuple_mul_2 _ _) (once_W l its.toArray n dd sl k t z0 z1) ⟨ho, ?_⟩⟩)
  exact ⟨.ref l, _, I, rfl, q⟩
end Pd

namespace Pd
open PySem L2

/-! ### operators -/
/-- what a closed value or a list of the store holds -/
def rd (S : Store) : Val → Option D
  | .d x => some x
  | .cell k => match S[k]? with | some (some (.lst ds)) => some (.lst ds) | _ => none
def bigE : Nat := 400000
def bigDE : Nat := 9000
def big : Nat := 2 ^ bigE
def bigD : Nat := 2 ^ bigDE
@[irreducible] def mulOk (i j : Int) : Bool := (decide (i.natAbs < big) && decide (j.natAbs < big)) || (decide (i.natAbs < 2 ^ 64) || decide (j.natAbs < 2 ^ 64))
@[irreducible] def divOk (j : Int) : Bool := decide (0 < j) && decide (j.natAbs < bigD)
@[irreducible] def powOk (i j : Int) : Bool := decide (0 ≤ j) && decide (j ≤ 1000) && decide (i.natAbs < 2 ^ 2000)
def fI (h : Int → Int → D) : Val → Val → Store → R Val
  | .d (.int i), .d (.int j), S => .ok (.d (h i j)) S
  | _, _, _ => .bad
def fAdd : Val → Val → Store → R Val
  | .d (.int i), .d (.int j), S => .ok (.d (.int (i + j))) S
  | .d (.tup a), .d (.tup b), S => if a.length + b.length ≤ cap then .ok (.d (.tup (a ++ b))) S else .bad
  | .d (.lst a), .d (.lst b), S => if a.length + b.length ≤ cap then .ok (.d (.lst (a ++ b))) S else .bad
  | .d (.str a), .d (.str b), S => if a.length + b.length ≤ cap then .ok (.d (.str (a ++ b))) S else .bad
  | _, _, _ => .bad
def fSub := fI fun i j => .int (i - j)
def fMul : Val → Val → Store → R Val
  | .d (.int i), .d (.int j), S => if mulOk i j = true then .ok (.d (.int (i * j))) S else .bad
  | .d (.lst a), .d (.int j), S => if j ≤ cap ∧ -cap ≤ j ∧ a.length * j.toNat ≤ cap then .ok (.d (.lst (List.replicate j.toNat a).flatten)) S else .bad
  | .d (.tup a), .d (.int j), S => if 0 ≤ j ∧ j ≤ 1000 ∧ (a = [] ∨ 1 ≤ j) ∧ a.length ≤ 1000 then .ok (.d (.tup (List.replicate j.toNat a).flatten)) S else .bad
  | _, _, _ => .bad
def fDiv : Val → Val → Store → R Val
  | .d (.int i), .d (.int j), S => if divOk j = true then .ok (.d (.int (i / j))) S else .bad
  | _, _, _ => .bad
def fMod : Val → Val → Store → R Val
  | .d (.int i), .d (.int j), S => if 0 < j then .ok (.d (.int (i % j))) S else .bad
  | _, _, _ => .bad
def fPow : Val → Val → Store → R Val
  | .d (.int i), .d (.int j), S => if powOk i j = true then .ok (.d (.int (i ^ j.toNat))) S else .bad
  | _, _, _ => .bad
def fNeg : Val → Store → R Val
  | .d (.int i), S => .ok (.d (.int (-i))) S
  | _, _ => .bad
def fLt := fI fun i j => .bl (decide (i < j))
def fLe := fI fun i j => .bl (decide (i ≤ j))
def fGt := fI fun i j => .bl (decide (j < i))
def fGe := fI fun i j => .bl (decide (j ≤ i))
def fEq (x y : Val) (S : Store) : R Val := match rd S x, rd S y with
  | some a, some b => if fit 60 a = true ∧ fit 60 b = true then .ok (.d (.bl (a.eqv b))) S else .bad
  | _, _ => .bad
def fNe (x y : Val) (S : Store) : R Val := match rd S x, rd S y with
  | some a, some b => if fit 60 a = true ∧ fit 60 b = true then .ok (.d (.bl (!a.eqv b))) S else .bad
  | _, _ => .bad
def fIx (x y : Val) (S : Store) : R Val := match rd S x, y with
  | some (.lst ds), .d (.int i) => match atI ds i with | some d => .ok (.d d) S | none => .bad
  | some (.tup ds), .d (.int i) => match atI ds i with | some d => .ok (.d d) S | none => .bad
  | some (.scr ns), .d (.int i) => match atI ns i with | some d => .ok (.d (.int d)) S | none => .bad
  | _, _ => .bad
def isNon : D → Option Bool
  | .non => some true
  | .val _ => none
  | _ => some false
def fIsN : Val → Val → Store → R Val
  | .d x, .d .non, S => match isNon x with | some b => .ok (.d (.bl b)) S | none => .bad
  | _, _, _ => .bad
def fNotN : Val → Val → Store → R Val
  | .d x, .d .non, S => match isNon x with | some b => .ok (.d (.bl (!b))) S | none => .bad
  | _, _, _ => .bad

section
variable {g : Gx} {w : Wd} {S : Store} {H : Hp} {W : WX} {σ : St} {Q : VK} {X : Cx}
theorem rd_cell {k : Nat} {d : D} (e : rd S (.cell k) = some d) : ∃ ds, S[k]? = some (some (.lst ds)) ∧ d = .lst ds := by
  have e' : (match S[k]? with | some (some (.lst ds)) => some (D.lst ds) | _ => none) = some d := e
  split at e'
  · rename_i ds hk
    cases e'
    exact ⟨ds, hk, rfl⟩
  · cases e'
theorem rd_dp {n : Nat} {x : Val} {d : D} {v : V} (st : StOk g w S H) (r : RepV g w H x v) (e : rd S x = some d) (f : fit n d = true) : Dp g.K H v d.pd := by
  cases x with
  | d x =>
    cases e
    exact fit_dp r f
  | cell k =>
    obtain ⟨ds, hk, e2⟩ := rd_cell e
    subst e2
    obtain ⟨a, h1, vs, h2, h3⟩ := st.cell k _ hk
    rw [r.2 a h1]
    cases n with
    | zero => simp [fit] at f
    | succ n =>
      unfold fit at f
      exact .lst (.inl (.inl h2)) (fit_dpL h3 f)
/-- a list, a tuple that is read -/
theorem rd_lst {x : Val} {ds : List D} {v : V} (st : StOk g w S H) (r : RepV g w H x v) (e : rd S x = some (.lst ds)) : ∃ a vs, v = .ref a ∧ H a = some (.lst vs) ∧ RepL g w H ds vs := by
  cases x with
  | d x =>
    cases e
    cases r with
    | lst h1 h2 h3 => exact ⟨_, _, rfl, h1, h3⟩
  | cell k =>
    obtain ⟨es, hk, e2⟩ := rd_cell e
    cases e2
    obtain ⟨a, h1, vs, h2, h3⟩ := st.cell k _ hk
    exact ⟨a, vs, r.2 a h1, h2, h3⟩
theorem rd_tup {x : Val} {ds : List D} {v : V} (r : RepV g w H x v) (e : rd S x = some (.tup ds)) : ∃ a vs, v = .ref a ∧ SqT' g w H a vs ∧ RepL g w H ds vs := by
  cases x with
  | d x =>
    cases e
    cases r with
    | tup h1 h3 => exact ⟨_, _, rfl, h1, h3⟩
  | cell k =>
    obtain ⟨es, hk, e2⟩ := rd_cell e
    cases e2
theorem rd_scr {x : Val} {ns : List Int} {v : V} (r : RepV g w H x v) (e : rd S x = some (.scr ns)) : ∃ a, v = .ref a ∧ SqL g.K H a (ns.map V.int) := by
  cases x with
  | d x =>
    cases e
    cases r with
    | scr h1 => exact ⟨_, rfl, h1.sq⟩
  | cell k =>
    obtain ⟨es, hk, e2⟩ := rd_cell e
    cases e2
theorem fI_q {h : Int → Int → D} {x y : Val} {u v : V} (st : StOk g w S H) (r1 : RepV g w H x u) (r2 : RepV g w H y v) (q : RQ g W (RepV g) w σ H (fI h x y S) Q) :
    ∃ i j, u = .int i ∧ v = .int j ∧ RQ g W (RepV g) w σ H (.ok (.d (h i j)) S) Q := by
  unfold fI at q
  split at q
  · cases r1
    cases r2
    exact ⟨_, _, rfl, rfl, q⟩
  · exact q.elim
theorem o2_I0 {h : Int → Int → D} {k : Int → Int → V} (hk : ∀ i j w H, Rep g w H (h i j) (k i j)) : Op2 g (rI0 k) (fI h) := fun W w S H σ x y u v Q st r1 r2 q => by
  obtain ⟨i, j, rfl, rfl, q⟩ := fI_q st r1 r2 q
  exact ⟨i, j, rfl, rfl, RQ.okQ q st (hk i j w H)⟩
theorem o2_sub : Op2 g (rI0 fun i j => .int (i - j)) fSub := o2_I0 fun _ _ _ _ => .int _
theorem o2_lt : Op2 g (rI0 fun i j => .bl (decide (i < j))) fLt := o2_I0 fun _ _ _ _ => .bl _
theorem o2_le : Op2 g (rI0 fun i j => .bl (decide (i ≤ j))) fLe := o2_I0 fun _ _ _ _ => .bl _
theorem o2_gt : Op2 g (rI0 fun i j => .bl (decide (j < i))) fGt := o2_I0 fun _ _ _ _ => .bl _
theorem o2_ge : Op2 g (rI0 fun i j => .bl (decide (j ≤ i))) fGe := o2_I0 fun _ _ _ _ => .bl _
theorem ite_q {c : Prop} [Decidable c] {α β : Type} {ρ : Wd → Hp → α → β → Prop} {r : R α} {Q : β → Hp → Prop} (h : RQ g W ρ w σ H (if c then r else .bad) Q) : c ∧ RQ g W ρ w σ H r Q := by
  by_cases hc : c
  · rw [if_pos hc] at h
    exact ⟨hc, h⟩
  · rw [if_neg hc] at h
    exact h.elim
def rAdd4 (K : PySem.W.Frag) : R2 := fun x y H Q => (∃ i j, x = .int i ∧ y = .int j ∧ Q (.int (i + j)) H) ∨ rCatA K x y H Q ∨ rCat x y H Q ∨ (∃ i j, x = .str i ∧ y = .str j ∧ i.length + j.length ≤ sizeLine ∧ Q (.str (i ++ j)) H)
theorem op_add4 : OpR X (binaryOp .Add) (rAdd4 X.K) := op_add.or (op_catA.or (op_cat.or op_add_str))
theorem o2_add : Op2 g (rAdd4 g.K) fAdd := fun W w S H σ x y u v Q st r1 r2 q => by
  unfold fAdd at q
  split at q
  · cases r1
    cases r2
    exact .inl ⟨_, _, rfl, rfl, RQ.okQ q st (.int _)⟩
  · obtain ⟨hz, q⟩ := ite_q q
    cases r1 with
    | tup h1 l1 =>
      cases r2 with
      | tup h2 l2 =>
        have e1 := l1.length
        have e2 := l2.length
        refine .inr (.inl ⟨_, _, _, _, rfl, rfl, h1.sq, h2.sq, by rw [← e1, ← e2]; exact cap_le hz, fun z => ?_, fun _ z => ?_, fun _ _ p hp => ?_⟩)
        · subst z
          have z1 := List.eq_nil_of_length_eq_zero (e1.trans rfl)
          subst z1
          exact RQ.okQ q st (.tup h2 l2)
        · subst z
          have z1 := List.eq_nil_of_length_eq_zero (e2.trans rfl)
          subst z1
          rw [List.append_nil] at q
          exact RQ.okQ q st (.tup h1 l1)
        · exact RQ.newQ q st hp (rep_tup st hp (l1.append l2))
  · obtain ⟨hz, q⟩ := ite_q q
    cases r1 with
    | lst h1 n1 l1 =>
      cases r2 with
      | lst h2 n2 l2 =>
        refine .inr (.inr (.inl ⟨_, _, _, _, rfl, rfl, h1, h2, by rw [← l1.length, ← l2.length]; exact cap_le hz, fun p hp => ?_⟩))
        exact RQ.newQ q st hp (rep_lst st hp (l1.append l2))
  · obtain ⟨hz, q⟩ := ite_q q
    cases r1
    cases r2
    exact .inr (.inr (.inr ⟨_, _, rfl, rfl, cap_le hz, RQ.okQ q st (.str _)⟩))
  · exact q.elim
def rMul3 (K : PySem.W.Frag) : R2 := fun x y H Q => rI CMulW (fun i j => .int (i * j)) x y H Q ∨ rI CMul (fun i j => .int (i * j)) x y H Q ∨ rRep x y H Q ∨ rRepT K x y H Q ∨ rRepS K x y H Q
theorem op_mul3 : OpR X (binaryOp .Mult) (rMul3 X.K) := op_mulW.or (op_mul.or (op_rep.or (op_repT.or op_repS)))
theorem mulOk_iff {i j : Int} : mulOk i j = true ↔ (i.natAbs < big ∧ j.natAbs < big) ∨ i.natAbs < 2 ^ 64 ∨ j.natAbs < 2 ^ 64 := by
  unfold mulOk
  rw [Bool.or_eq_true, Bool.or_eq_true, Bool.and_eq_true, decide_eq_true_iff, decide_eq_true_iff, decide_eq_true_iff, decide_eq_true_iff]
theorem divOk_iff {j : Int} : divOk j = true ↔ 0 < j ∧ j.natAbs < bigD := by
  unfold divOk
  rw [Bool.and_eq_true, decide_eq_true_iff, decide_eq_true_iff]
theorem powOk_iff {i j : Int} : powOk i j = true ↔ (0 ≤ j ∧ j ≤ 1000) ∧ i.natAbs < 2 ^ 2000 := by
  unfold powOk
  rw [Bool.and_eq_true, Bool.and_eq_true, decide_eq_true_iff, decide_eq_true_iff, decide_eq_true_iff]
theorem big_mul {i j : Int} (h1 : i.natAbs < big) (h2 : j.natAbs < big) : CMulW i j := by
  have e : ∀ n : Nat, n < big → n < 2 ^ bigE := fun n h => h
  exact wide_mul (e _ h1) (e _ h2) (by decide) (by decide) (by decide)
theorem o2_mul : Op2 g (rMul3 g.K) fMul := fun W w S H σ x y u v Q st r1 r2 q => by
  unfold fMul at q
  split at q
  · obtain ⟨hz, q⟩ := ite_q q
    cases r1
    cases r2
    rcases mulOk_iff.mp hz with h | h
    · exact .inl ⟨_, _, rfl, rfl, big_mul h.1 h.2, RQ.okQ q st (.int _)⟩
    · refine .inr (.inl ⟨_, _, rfl, rfl, ?_, RQ.okQ q st (.int _)⟩)
      have e : (2 : Nat) ^ 64 = 18446744073709551616 := by decide
      have e2 : (2 : Int) ^ 64 = 18446744073709551616 := by decide
      unfold CMul
      rw [e] at h
      rw [e2]
      rcases h with h | h
      · exact .inl (by omega)
      · exact .inr (by omega)
  · obtain ⟨⟨h1, h2, h3⟩, q⟩ := ite_q q
    cases r1 with
    | lst e1 n1 l1 =>
      cases r2
      have hc : ((cap : Nat) : Int) = 1000000 := rfl
      refine .inr (.inr (.inl ⟨_, _, _, rfl, rfl, e1, by omega, by omega, by rw [← l1.length]; exact cap_le h3, fun p hp => ?_⟩))
      exact RQ.newQ q st hp (rep_lst st hp l1.flatten)
  · obtain ⟨⟨h1, h2, h3, h4⟩, q⟩ := ite_q q
    cases r1 with
    | tup e1 l1 =>
      cases r2
      rename_i ds j _ _ vs
      by_cases hs : ds = [] ∨ j = 1
      · have ev : vs = [] ∨ j = 1 := hs.imp (fun z => by subst z; cases l1; rfl) id
        refine .inr (.inr (.inr (.inr ⟨_, _, _, rfl, rfl, e1.sq, ev, by omega, h2, ?_⟩)))
        have e : (List.replicate j.toNat ds).flatten = ds := by
          rcases hs with z | z
          · rw [z]
            have : ∀ n : Nat, (List.replicate n ([] : List D)).flatten = [] := fun n => by
              induction n with
              | zero => rfl
              | succ n ih => rw [List.replicate_succ, List.flatten_cons, ih]; rfl
            exact this _
          · rw [z]
            show (List.replicate 1 ds).flatten = ds
            simp
        rw [e] at q
        exact RQ.okQ q st (.tup e1 l1)
      · have hd : ds ≠ [] := fun z => hs (.inl z)
        have hj : j ≠ 1 := fun z => hs (.inr z)
        have h3' : 1 ≤ j := h3.resolve_left hd
        refine .inr (.inr (.inr (.inl ⟨_, _, _, rfl, rfl, e1.sq, fun z => ?_, by omega, h2, by rw [← l1.length]; exact h4, fun p hp => ?_⟩)))
        · subst z
          exact hd (List.eq_nil_of_length_eq_zero l1.length)
        · exact RQ.newQ q st hp (rep_tup st hp l1.flatten)
  · exact q.elim
theorem o2_div : Op2 g (rI CDivW fun i j => .int (i / j)) fDiv := fun W w S H σ x y u v Q st r1 r2 q => by
  unfold fDiv at q
  split at q
  · obtain ⟨hz, q⟩ := ite_q q
    cases r1
    cases r2
    exact ⟨_, _, rfl, rfl, (by obtain ⟨h1, h2⟩ := divOk_iff.mp hz; exact wide_div (b := bigDE) h1 h2 (by decide) (by decide)), RQ.okQ q st (.int _)⟩
  · exact q.elim
theorem o2_mod : Op2 g (rI (fun _ j => 0 < j) fun i j => .int (i % j)) fMod := fun W w S H σ x y u v Q st r1 r2 q => by
  unfold fMod at q
  split at q
  · obtain ⟨hz, q⟩ := ite_q q
    cases r1
    cases r2
    exact ⟨_, _, rfl, rfl, hz, RQ.okQ q st (.int _)⟩
  · exact q.elim
def CPowW (i j : Int) : Prop := powOk i j = true
theorem op_powW : OpR X (binaryOp .Pow) (rI CPowW fun i j => .int (i ^ j.toNat)) := opI fun i j _ _ _ _ _ hc q => by
  obtain ⟨⟨h3, h4⟩, h0⟩ := powOk_iff.mp hc
  refine PyProof.Rows.pow_int h3 ?_ q
  have h1 := PySem.Flt.log2_lt_of (show 0 < 2000 by omega) h0
  have b : Builtin.Int.intBits i ≤ i.natAbs.log2 + 1 := by
    unfold Builtin.Int.intBits
    split <;> omega
  have h2 : (Builtin.Int.intBits i : Int) ≤ 2001 := by omega
  have h5 : (Builtin.Int.intBits i : Int) * j ≤ 2001 * 1000 := Int.mul_le_mul h2 h4 h3 (by decide)
  have h6 : (2 : Int) ^ 27 = 134217728 := by decide
  rw [h6]
  omega
theorem o2_pow : Op2 g (rI CPowW fun i j => .int (i ^ j.toNat)) fPow := fun W w S H σ x y u v Q st r1 r2 q => by
  unfold fPow at q
  split at q
  · obtain ⟨hz, q⟩ := ite_q q
    cases r1
    cases r2
    exact ⟨_, _, rfl, rfl, hz, RQ.okQ q st (.int _)⟩
  · exact q.elim
theorem o1_neg : Op1 g (rU fun i => .int (-i)) fNeg := fun W w S H σ x u Q st r1 q => by
  unfold fNeg at q
  split at q
  · cases r1
    exact ⟨_, rfl, RQ.okQ q st (.int _)⟩
  · exact q.elim
theorem o2_eq : Op2 g (rEqD g.K) fEq := fun W w S H σ x y u v Q st r1 r2 q => by
  unfold fEq at q
  split at q
  · rename_i a b e1 e2
    obtain ⟨⟨h1, h2⟩, q⟩ := ite_q q
    refine ⟨_, _, rd_dp st r1 e1 h1, rd_dp st r2 e2 h2, fit_shaped h1, fit_shaped h2, ?_⟩
    rw [pd_eqv _ _ _ _ h1 h2]
    exact RQ.okQ q st (.bl _)
  · exact q.elim
theorem o2_ne : Op2 g (rNeD g.K) fNe := fun W w S H σ x y u v Q st r1 r2 q => by
  unfold fNe at q
  split at q
  · rename_i a b e1 e2
    obtain ⟨⟨h1, h2⟩, q⟩ := ite_q q
    refine ⟨_, _, rd_dp st r1 e1 h1, rd_dp st r2 e2 h2, fit_shaped h1, fit_shaped h2, ?_⟩
    rw [pd_eqv _ _ _ _ h1 h2]
    exact RQ.okQ q st (.bl _)
  · exact q.elim
theorem atI_rep {ds : List D} {vs : List V} {i : Int} {d : D} (l : RepL g w H ds vs) (e : atI ds i = some d) : ∃ v, atI vs i = some v ∧ Rep g w H d v := by
  unfold atI at e ⊢
  rw [← l.length]
  cases h : ixN ds.length i with
  | none => rw [h] at e; cases e
  | some j =>
    rw [h] at e
    exact l.get e
theorem atI_ints {ns : List Int} {i n : Int} (e : atI ns i = some n) : atI (ns.map V.int) i = some (.int n) := by
  unfold atI at e ⊢
  rw [List.length_map]
  cases h : ixN ns.length i with
  | none => rw [h] at e; cases e
  | some j =>
    rw [h] at e
    have e' : ns[j]? = some n := e
    show (ns.map V.int)[j]? = _
    rw [List.getElem?_map, e'] <;> rfl
def rIx2 (K : PySem.W.Frag) : R2 := fun x y H Q => rIxL K x y H Q ∨ rIxT K x y H Q
theorem ix_two : IxR X (rIx2 X.K) := ix_list.or ix_tup
theorem o2_ix : Op2 g (rIx2 g.K) fIx := fun W w S H σ x y u v Q st r1 r2 q => by
  unfold fIx at q
  split at q
  · rename_i ds i e
    split at q
    · rename_i d hd
      obtain ⟨a, vs, rfl, h1, l⟩ := rd_lst st r1 e
      cases r2
      obtain ⟨y, hy, ry⟩ := atI_rep l hd
      exact .inl ⟨a, vs, i, y, rfl, rfl, .inl (.inl h1), hy, RQ.okQ q st ry⟩
    · exact q.elim
  · rename_i ds i e
    split at q
    · rename_i d hd
      obtain ⟨a, vs, rfl, h1, l⟩ := rd_tup r1 e
      cases r2
      obtain ⟨y, hy, ry⟩ := atI_rep l hd
      exact .inr ⟨a, vs, i, y, rfl, rfl, h1.sq, hy, RQ.okQ q st ry⟩
    · exact q.elim
  · rename_i ns i e
    split at q
    · rename_i d hd
      obtain ⟨a, rfl, h1⟩ := rd_scr r1 e
      cases r2
      exact .inl ⟨a, _, i, .int d, rfl, rfl, h1, atI_ints hd, RQ.okQ q st (.int d)⟩
    · exact q.elim
  · exact q.elim
theorem isNon_rep {x : D} {u : V} {b : Bool} (r : Rep g w H x u) (e : isNon x = some b) : decide (u = V.non) = b := by
  cases r <;> cases e <;> rfl
theorem o2_isN : Op2 g (fun x y H Q => y = .non ∧ Q (.bl (decide (x = .non))) H) fIsN := fun W w S H σ x y u v Q st r1 r2 q => by
  unfold fIsN at q
  split at q
  · split at q
    · rename_i b hb
      cases r2
      refine ⟨rfl, ?_⟩
      rw [isNon_rep r1 hb]
      exact RQ.okQ q st (.bl _)
    · exact q.elim
  · exact q.elim
theorem o2_notN : Op2 g (fun x y H Q => y = .non ∧ Q (.bl (!decide (x = .non))) H) fNotN := fun W w S H σ x y u v Q st r1 r2 q => by
  unfold fNotN at q
  split at q
  · split at q
    · rename_i b hb
      cases r2
      refine ⟨rfl, ?_⟩
      rw [isNon_rep r1 hb]
      exact RQ.okQ q st (.bl _)
    · exact q.elim
  · exact q.elim
end

/-! ### a[i] -/
section
variable {X : Cx} {g : Gx} {W : WX} {a b : Expr} {ea eb : Ev} {pos : Pos}
theorem p_ix (hK : g.K = X.K) (ha : PE X a (tE g W ea)) (hb : PE X b (tE g W eb)) (hs : PlainIx b := by exact fun _ _ => rfl) : PE X (.Subscript a b pos) (tE g W (eBin fIx ea eb)) :=
  (pe_ix ix_two ha hb hs).imp fun σ H Q ⟨w, Γ, S, st, en, h⟩ => tX_seq st en h fun u H1 x S1 w1 s1 st1 en1 r1 h1 => tX_seq st1 en1 h1 fun v H2 y S2 w2 s2 st2 en2 r2 h2 => by
    rw [← hK]
    exact o2_ix W w2 S2 H2 σ x y u v Q st2 (r1.step s2) r2 h2
end
end Pd

namespace Pd
open PySem L2

/-! ### built-in functions -/
def asInts : List D → Option (List Int)
  | [] => some []
  | .int i :: r => (asInts r).map (i :: ·)
  | _ :: _ => none
def asBls : List D → Option (List Bool)
  | [] => some []
  | .bl i :: r => (asBls r).map (i :: ·)
  | _ :: _ => none
theorem asInts_eq : ∀ {ds : List D} {ns : List Int}, asInts ds = some ns → ds = ns.map .int
  | [], _, e => by cases e; rfl
  | .int i :: r, ns, e => by
    unfold asInts at e
    cases q : asInts r with
    | none => rw [q] at e; cases e
    | some ms =>
      rw [q] at e
      cases e
      rw [asInts_eq q] <;> rfl
  | .non :: _, _, e => by cases e
  | .bl _ :: _, _, e => by cases e
  | .str _ :: _, _, e => by cases e
  | .tup _ :: _, _, e => by cases e
  | .lst _ :: _, _, e => by cases e
  | .obj _ _ :: _, _, e => by cases e
  | .scr _ :: _, _, e => by cases e
  | .val _ :: _, _, e => by cases e
theorem asBls_eq : ∀ {ds : List D} {ns : List Bool}, asBls ds = some ns → ds = ns.map .bl
  | [], _, e => by cases e; rfl
  | .bl i :: r, ns, e => by
    unfold asBls at e
    cases q : asBls r with
    | none => rw [q] at e; cases e
    | some ms =>
      rw [q] at e
      cases e
      rw [asBls_eq q] <;> rfl
  | .non :: _, _, e => by cases e
  | .int _ :: _, _, e => by cases e
  | .str _ :: _, _, e => by cases e
  | .tup _ :: _, _, e => by cases e
  | .lst _ :: _, _, e => by cases e
  | .obj _ _ :: _, _, e => by cases e
  | .scr _ :: _, _, e => by cases e
  | .val _ :: _, _, e => by cases e
def fLen (x : Val) (S : Store) : R Val := match rd S x with
  | some (.lst ds) => .ok (.d (.int ds.length)) S
  | some (.tup ds) => .ok (.d (.int ds.length)) S
  | some (.scr ds) => .ok (.d (.int ds.length)) S
  | some (.str x) => if x.length ≤ cap then .ok (.d (.int x.length)) S else .bad
  | _ => .bad
def fAbs : Val → Store → R Val
  | .d (.int i), S => .ok (.d (.int (if i < 0 then -i else i))) S
  | _, _ => .bad
def fInt : Val → Store → R Val
  | .d (.int i), S => .ok (.d (.int i)) S
  | .d (.bl b), S => .ok (.d (.int (if b then 1 else 0))) S
  | _, _ => .bad
def fTuple (x : Val) (S : Store) : R Val := match rd S x with
  | some (.lst ds) => .ok (.d (.tup ds)) S
  | some (.tup ds) => .ok (.d (.tup ds)) S
  | _ => .bad
def fList (x : Val) (S : Store) : R Val := match rd S x with
  | some (.lst ds) => .ok (.d (.lst ds)) S
  | some (.tup ds) => .ok (.d (.lst ds)) S
  | _ => .bad
def fSum (x : Val) (S : Store) : R Val := match rd S x with
  | some (.lst ds) => match asInts ds with | some ns => .ok (.d (.int ns.sum)) S | none => .bad
  | some (.tup ds) => match asInts ds with | some ns => .ok (.d (.int ns.sum)) S | none => .bad
  | _ => .bad
def fAll (x : Val) (S : Store) : R Val := match rd S x with
  | some (.lst ds) => match asBls ds with | some ns => .ok (.d (.bl (ns.all id))) S | none => .bad
  | _ => .bad
def fAny (x : Val) (S : Store) : R Val := match rd S x with
  | some (.lst ds) => match asBls ds with | some ns => .ok (.d (.bl (ns.any id))) S | none => .bad
  | _ => .bad
def fMax2 : Val → Val → Store → R Val := fI fun i j => .int (if j > i then j else i)
def fMin2 : Val → Val → Store → R Val := fI fun i j => .int (if j < i then j else i)
inductive Ty where
  | int | bool | tuple | list | str
def Ty.name : Ty → String
  | .int => "int" | .bool => "bool" | .tuple => "tuple" | .list => "list" | .str => "str"
def isiD : Ty → D → Option Bool
  | .int, .int _ => some true
  | .int, .bl _ => some true
  | .bool, .bl _ => some true
  | .tuple, .tup _ => some true
  | .list, .lst _ => some true
  | .str, .str _ => some true
  | _, .obj _ _ => none
  | _, .scr _ => none
  | _, .val _ => none
  | _, _ => some false
def fIsi (t : Ty) (x : Val) (S : Store) : R Val := match rd S x with
  | some d => match isiD t d with | some b => .ok (.d (.bl b)) S | none => .bad
  | none => .bad

def OpC1 (g : Gx) (r : List V → Hp → VK → Prop) (f : Val → Store → R Val) : Prop := ∀ (W : WX) (w : Wd) (S : Store) (H : Hp) (σ : St) (x : Val) (u : V) (Q : VK), StOk g w S H → RepV g w H x u → RQ g W (RepV g) w σ H (f x S) Q → r [u] H Q
def OpC2 (g : Gx) (r : List V → Hp → VK → Prop) (f : Val → Val → Store → R Val) : Prop := ∀ (W : WX) (w : Wd) (S : Store) (H : Hp) (σ : St) (x y : Val) (u v : V) (Q : VK), StOk g w S H → RepV g w H x u → RepV g w H y v → RQ g W (RepV g) w σ H (f x y S) Q → r [u, v] H Q
theorem CallR.or {X : Cx} {f : Value} {r r' : List V → Hp → VK → Prop} (h : CallR X f r) (h' : CallR X f r') : CallR X f (fun x H Q => r x H Q ∨ r' x H Q) := fun pins s σ H x v Q I rx q => by
  rcases q with q | q
  · exact h pins s σ H x v Q I rx q
  · exact h' pins s σ H x v Q I rx q
theorem cr_sumT {X : Cx} (hc : X.calm = true) : CallR X (.builtin "sum") (fun vs H Q => ∃ (a : Addr) (ns : List Int), vs = [V.ref a] ∧ SqT X.K H a (ns.map V.int) ∧ Q (.int ns.sum) H) := by
  intro pins s σ H vs us Q I r h
  obtain ⟨a, ns, rfl, hs, q⟩ := h
  obtain ⟨its, rv, hl, _⟩ := I.tuple hs
  rw [Vals.ref1 r]
  have hi := intsAre_of rv
  obtain ⟨xs, hx⟩ := hi.allInts.items
  have hn : numsOf its.toArray.toList = ns := by
    rw [show its.toArray.toList = its from rfl, hi.numsOf]
  have ht : s.heap.IsTuple a its.toArray := hl
  rw [hx] at ht hn
  rw [nums_intItems] at hn
  refine PySem.W.ktm_sumG (I.ok.hd hc) ht fun h' tk t' hk => ?_
  have e : preSum (numAt xs) xs.size = ns.sum := by
    rw [preSum_eq, List.take_of_length_le (by simp), hn]
  rw [e]
  exact ⟨.int _, H, I.kept hk, ⟨_, rfl⟩, q⟩
def rSum2 (K : PySem.W.Frag) : List V → Hp → VK → Prop := fun vs H Q => rSum K vs H Q ∨ ∃ (a : Addr) (ns : List Int), vs = [V.ref a] ∧ SqT K H a (ns.map V.int) ∧ Q (.int ns.sum) H
theorem cr_sum2 {X : Cx} (hc : X.calm = true) : CallR X (.builtin "sum") (rSum2 X.K) := CallR.or (cr_sum hc) (cr_sumT hc)
def rLen2 (K : PySem.W.Frag) : List V → Hp → VK → Prop := fun xs H Q => (∃ p ys, xs = [.ref p] ∧ (SqL K H p ys ∨ SqT K H p ys) ∧ Q (.int ys.length) H) ∨ ∃ z, xs = [.str z] ∧ z.length ≤ sizeLine ∧ Q (.int z.length) H
theorem cr_len2 {X : Cx} : CallR X (.builtin "len") (rLen2 X.K) := CallR.or call_len_seq call_len_str

section
variable {g : Gx}
theorem c1_len : OpC1 g (rLen2 g.K) fLen := fun W w S H σ x u Q st r1 q => by
  unfold fLen at q
  split at q
  · rename_i ds e
    obtain ⟨a, vs, rfl, h1, l⟩ := rd_lst st r1 e
    rw [l.length] at q
    exact .inl ⟨a, vs, rfl, .inl (.inl (.inl h1)), RQ.okQ q st (.int _)⟩
  · rename_i ds e
    obtain ⟨a, vs, rfl, h1, l⟩ := rd_tup r1 e
    rw [l.length] at q
    exact .inl ⟨a, vs, rfl, .inr h1.sq, RQ.okQ q st (.int _)⟩
  · rename_i ns e
    obtain ⟨a, rfl, h1⟩ := rd_scr r1 e
    have e2 : (ns.length : Int) = ((ns.map V.int).length : Int) := by rw [List.length_map]
    rw [e2] at q
    exact .inl ⟨a, _, rfl, .inl h1, RQ.okQ q st (.int _)⟩
  · rename_i z e
    obtain ⟨hz, q⟩ := ite_q q
    cases x with
    | d x =>
      cases e
      cases r1
      exact .inr ⟨z, rfl, cap_le hz, RQ.okQ q st (.int _)⟩
    | cell k =>
      obtain ⟨es, hk, e2⟩ := rd_cell e
      cases e2
  · exact q.elim
theorem c1_abs : OpC1 g (fun xs H Q => ∃ i, xs = [.int i] ∧ Q (.int (if i < 0 then -i else i)) H) fAbs := fun W w S H σ x u Q st r1 q => by
  unfold fAbs at q
  split at q
  · cases r1
    exact ⟨_, rfl, RQ.okQ q st (.int _)⟩
  · exact q.elim
theorem c1_int : OpC1 g (fun xs H Q => (∃ i, xs = [.int i] ∧ Q (.int i) H) ∨ ∃ k, xs = [.bl k] ∧ Q (.int (if k then 1 else 0)) H) fInt := fun W w S H σ x u Q st r1 q => by
  unfold fInt at q
  split at q
  · cases r1
    exact .inl ⟨_, rfl, RQ.okQ q st (.int _)⟩
  · cases r1
    exact .inr ⟨_, rfl, RQ.okQ q st (.int _)⟩
  · exact q.elim
theorem c1_tuple : OpC1 g (fun xs H Q => ∃ p ys, xs = [.ref p] ∧ ((SqL g.K H p ys ∧ ∀ l, H l = none → Q (.ref l) (upd H l (.tup ys))) ∨ (SqT g.K H p ys ∧ Q (.ref p) H))) fTuple := fun W w S H σ x u Q st r1 q => by
  unfold fTuple at q
  split at q
  · rename_i ds e
    obtain ⟨a, vs, rfl, h1, l⟩ := rd_lst st r1 e
    exact ⟨a, vs, rfl, .inl ⟨.inl (.inl h1), fun p hp => RQ.newQ q st hp (rep_tup st hp l)⟩⟩
  · rename_i ds e
    obtain ⟨a, vs, rfl, h1, l⟩ := rd_tup r1 e
    exact ⟨a, vs, rfl, .inr ⟨h1.sq, RQ.okQ q st (.tup h1 l)⟩⟩
  · exact q.elim
theorem c1_list : OpC1 g (fun xs H Q => ∃ p ys, xs = [.ref p] ∧ (SqL g.K H p ys ∨ SqT g.K H p ys) ∧ ∀ l, H l = none → Q (.ref l) (upd H l (.lst ys))) fList := fun W w S H σ x u Q st r1 q => by
  unfold fList at q
  split at q
  · rename_i ds e
    obtain ⟨a, vs, rfl, h1, l⟩ := rd_lst st r1 e
    exact ⟨a, vs, rfl, .inl (.inl (.inl h1)), fun p hp => RQ.newQ q st hp (rep_lst st hp l)⟩
  · rename_i ds e
    obtain ⟨a, vs, rfl, h1, l⟩ := rd_tup r1 e
    exact ⟨a, vs, rfl, .inr h1.sq, fun p hp => RQ.newQ q st hp (rep_lst st hp l)⟩
  · exact q.elim
theorem c1_sum : OpC1 g (rSum2 g.K) fSum := fun W w S H σ x u Q st r1 q => by
  unfold fSum at q
  split at q
  · rename_i ds e
    split at q
    · rename_i ns en
      obtain ⟨a, vs, rfl, h1, l⟩ := rd_lst st r1 e
      rw [asInts_eq en] at l
      have ev := l.ints
      subst ev
      exact .inl ⟨a, ns, rfl, .inl (.inl h1), RQ.okQ q st (.int _)⟩
    · exact q.elim
  · rename_i ds e
    split at q
    · rename_i ns en
      obtain ⟨a, vs, rfl, h1, l⟩ := rd_tup r1 e
      rw [asInts_eq en] at l
      have ev := l.ints
      subst ev
      exact .inr ⟨a, ns, rfl, h1.sq, RQ.okQ q st (.int _)⟩
    · exact q.elim
  · exact q.elim
theorem c1_all : OpC1 g (rAll g.K) fAll := fun W w S H σ x u Q st r1 q => by
  unfold fAll at q
  split at q
  · rename_i ds e
    split at q
    · rename_i ns en
      obtain ⟨a, vs, rfl, h1, l⟩ := rd_lst st r1 e
      rw [asBls_eq en] at l
      have ev := l.bls
      subst ev
      exact ⟨a, ns, rfl, .inl (.inl h1), RQ.okQ q st (.bl _)⟩
    · exact q.elim
  · exact q.elim
theorem c1_any : OpC1 g (rAny g.K) fAny := fun W w S H σ x u Q st r1 q => by
  unfold fAny at q
  split at q
  · rename_i ds e
    split at q
    · rename_i ns en
      obtain ⟨a, vs, rfl, h1, l⟩ := rd_lst st r1 e
      rw [asBls_eq en] at l
      have ev := l.bls
      subst ev
      exact ⟨a, ns, rfl, .inl (.inl h1), RQ.okQ q st (.bl _)⟩
    · exact q.elim
  · exact q.elim
theorem c2_max : OpC2 g (fun xs H Q => ∃ i j, xs = [.int i, .int j] ∧ Q (.int (if j > i then j else i)) H) fMax2 := fun W w S H σ x y u v Q st r1 r2 q => by
  obtain ⟨i, j, rfl, rfl, q⟩ := fI_q st r1 r2 q
  exact ⟨i, j, rfl, RQ.okQ q st (.int _)⟩
theorem c2_min : OpC2 g (fun xs H Q => ∃ i j, xs = [.int i, .int j] ∧ Q (.int (if j < i then j else i)) H) fMin2 := fun W w S H σ x y u v Q st r1 r2 q => by
  obtain ⟨i, j, rfl, rfl, q⟩ := fI_q st r1 r2 q
  exact ⟨i, j, rfl, RQ.okQ q st (.int _)⟩
def rIsiTy (K : PySem.W.Frag) (n : String) : List V → Hp → VK → Prop := fun xs H Q => ∃ x, xs = [x] ∧ rIsi K [x, .ty n] H Q
theorem isi_ty {w : Wd} {S : Store} {H : Hp} {t : Ty} {x : Val} {d : D} {u : V} {b : Bool} (st : StOk g w S H) (r : RepV g w H x u) (e : rd S x = some d) (eb : isiD t d = some b) : ∃ tv, TyX g.K H u tv ∧ PySem.W.kitOne g.K tv (.type t.name) = some b := by
  have key : ∀ {n : String} {v : V}, TyX g.K H v (.type n) → kitB n t.name = some b → ∃ tv, TyX g.K H v tv ∧ PySem.W.kitOne g.K tv (.type t.name) = some b := fun h1 h2 => ⟨_, h1, kit_ty h2⟩
  cases d with
  | non =>
    cases x with
    | d x => cases e; cases r; refine key (.base .non) ?_; cases t <;> cases eb <;> decide +kernel
    | cell k => obtain ⟨es, hk, e2⟩ := rd_cell e; cases e2
  | bl y =>
    cases x with
    | d x => cases e; cases r; refine key (.base (.bl y)) ?_; cases t <;> cases eb <;> decide +kernel
    | cell k => obtain ⟨es, hk, e2⟩ := rd_cell e; cases e2
  | int y =>
    cases x with
    | d x => cases e; cases r; refine key (.base (.int y)) ?_; cases t <;> cases eb <;> decide +kernel
    | cell k => obtain ⟨es, hk, e2⟩ := rd_cell e; cases e2
  | str y =>
    cases x with
    | d x => cases e; cases r; refine key (.base (.str y)) ?_; cases t <;> cases eb <;> decide +kernel
    | cell k => obtain ⟨es, hk, e2⟩ := rd_cell e; cases e2
  | tup ds =>
    obtain ⟨a, vs, rfl, h1, l⟩ := rd_tup r e
    have kk : kitB "tuple" t.name = some b := by cases t <;> cases eb <;> decide +kernel
    rcases h1 with ⟨h1 | ⟨o, h1⟩, _⟩ | ⟨o, its, n, h1, h2, _⟩
    · exact key (.base (.tup h1)) kk
    · exact key (.fTuple h1) kk
    · exact key (.kTuple h1 h2) kk
  | lst ds =>
    obtain ⟨a, vs, rfl, h1, l⟩ := rd_lst st r e
    have kk : kitB "list" t.name = some b := by cases t <;> cases eb <;> decide +kernel
    exact key (.base (.lst h1)) kk
  | obj _ _ => cases t <;> cases eb
  | scr _ => cases t <;> cases eb
  | val _ => cases t <;> cases eb
end

/-! ### calls -/
section
variable {X : Cx} {g : Gx} {W : WX} {a b : Expr} {ea eb : Ev} {pos p : Pos} {x : Str} {id T : String} {r : List V → Hp → VK → Prop}
theorem p_call1 {f : Val → Store → R Val} (hc : CallR X (.builtin id) r) (hf : OpC1 g r f) (hg : Gl X x) (hm : X.mg x = none) (hv : bootBuiltins x = some (.builtin id)) (ha : PE X a (tE g W ea)) (hn : x ≠ "__name__" := by decide) (hdb : (x == ("__debug__" : Str)) = false := by decide)
    (he : starEach [a] X.env = (false, eval a X.env) :: starEach [] X.env := by rfl) (hpl : (backTo pos (starEach [] X.env)).any (·.1) = false := by rfl) : PE X (.Call (.Name x p) [a] [] pos) (tE g W (eUn f ea)) :=
  (pe_callB hc hg hm hv (pa_cons ha pa_nil he) hn hdb he hpl).imp fun σ H Q ⟨w, Γ, S, st, en, h⟩ => tX_seq st en h fun u H1 y S1 w1 s1 st1 en1 r1 h1 => hf W w1 S1 H1 σ y u Q st1 r1 h1
theorem p_callT1 {f : Val → Store → R Val} (hc : CallR X (.type T) r) (hf : OpC1 g r f) (hg : Gl X x) (hm : X.mg x = none) (hv : bootBuiltins x = some (.type T)) (ha : PE X a (tE g W ea)) (hn : x ≠ "__name__" := by decide) (hdb : (x == ("__debug__" : Str)) = false := by decide)
    (he : starEach [a] X.env = (false, eval a X.env) :: starEach [] X.env := by rfl) (hpl : (backTo pos (starEach [] X.env)).any (·.1) = false := by rfl) : PE X (.Call (.Name x p) [a] [] pos) (tE g W (eUn f ea)) :=
  (pe_callTy hc hg hm hv (pa_cons ha pa_nil he) hn hdb he hpl).imp fun σ H Q ⟨w, Γ, S, st, en, h⟩ => tX_seq st en h fun u H1 y S1 w1 s1 st1 en1 r1 h1 => hf W w1 S1 H1 σ y u Q st1 r1 h1
theorem p_call2 {f : Val → Val → Store → R Val} (hc : CallR X (.builtin id) r) (hf : OpC2 g r f) (hg : Gl X x) (hm : X.mg x = none) (hv : bootBuiltins x = some (.builtin id)) (ha : PE X a (tE g W ea)) (hb : PE X b (tE g W eb)) (hn : x ≠ "__name__" := by decide) (hdb : (x == ("__debug__" : Str)) = false := by decide)
    (he : starEach [a, b] X.env = (false, eval a X.env) :: starEach [b] X.env := by rfl) (he2 : starEach [b] X.env = (false, eval b X.env) :: starEach [] X.env := by rfl) (hpl : (backTo pos (starEach [b] X.env)).any (·.1) = false := by rfl) : PE X (.Call (.Name x p) [a, b] [] pos) (tE g W (eBin f ea eb)) :=
  (pe_callB hc hg hm hv (pa_cons ha (pa_cons hb pa_nil he2) he) hn hdb he hpl).imp fun σ H Q ⟨w, Γ, S, st, en, h⟩ => tX_seq st en h fun u H1 y S1 w1 s1 st1 en1 r1 h1 => tX_seq st1 en1 h1 fun v H2 z S2 w2 s2 st2 en2 r2 h2 =>
    hf W w2 S2 H2 σ y z u v Q st2 (r1.step s2) r2 h2
theorem p_len (hK : g.K = X.K) (hg : Gl X "len") (hm : X.mg "len" = none) (ha : PE X a (tE g W ea)) (he : starEach [a] X.env = (false, eval a X.env) :: starEach [] X.env := by rfl) (hpl : (backTo pos (starEach [] X.env)).any (·.1) = false := by rfl) :
    PE X (.Call (.Name "len" p) [a] [] pos) (tE g W (eUn fLen ea)) := p_call1 (id := "len") cr_len2 (by rw [← hK]; exact c1_len) hg hm (by decide +kernel) ha (by decide) (by decide) he hpl
theorem p_sum (hK : g.K = X.K) (hcm : X.calm = true) (hg : Gl X "sum") (hm : X.mg "sum" = none) (ha : PE X a (tE g W ea)) (he : starEach [a] X.env = (false, eval a X.env) :: starEach [] X.env := by rfl) (hpl : (backTo pos (starEach [] X.env)).any (·.1) = false := by rfl) :
    PE X (.Call (.Name "sum" p) [a] [] pos) (tE g W (eUn fSum ea)) := p_call1 (id := "sum") (cr_sum2 hcm) (by rw [← hK]; exact c1_sum) hg hm (by decide +kernel) ha (by decide) (by decide) he hpl
theorem p_all (hK : g.K = X.K) (hcm : X.calm = true) (hg : Gl X "all") (hm : X.mg "all" = none) (ha : PE X a (tE g W ea)) (he : starEach [a] X.env = (false, eval a X.env) :: starEach [] X.env := by rfl) (hpl : (backTo pos (starEach [] X.env)).any (·.1) = false := by rfl) :
    PE X (.Call (.Name "all" p) [a] [] pos) (tE g W (eUn fAll ea)) := p_call1 (id := "all") (cr_all hcm) (by rw [← hK]; exact c1_all) hg hm (by decide +kernel) ha (by decide) (by decide) he hpl
theorem p_any (hK : g.K = X.K) (hcm : X.calm = true) (hg : Gl X "any") (hm : X.mg "any" = none) (ha : PE X a (tE g W ea)) (he : starEach [a] X.env = (false, eval a X.env) :: starEach [] X.env := by rfl) (hpl : (backTo pos (starEach [] X.env)).any (·.1) = false := by rfl) :
    PE X (.Call (.Name "any" p) [a] [] pos) (tE g W (eUn fAny ea)) := p_call1 (id := "any") (cr_any hcm) (by rw [← hK]; exact c1_any) hg hm (by decide +kernel) ha (by decide) (by decide) he hpl
theorem p_abs (hg : Gl X "abs") (hm : X.mg "abs" = none) (ha : PE X a (tE g W ea)) (he : starEach [a] X.env = (false, eval a X.env) :: starEach [] X.env := by rfl) (hpl : (backTo pos (starEach [] X.env)).any (·.1) = false := by rfl) :
    PE X (.Call (.Name "abs" p) [a] [] pos) (tE g W (eUn fAbs ea)) := p_call1 (id := "abs") call_abs c1_abs hg hm (by decide +kernel) ha (by decide) (by decide) he hpl
theorem p_int' (hg : Gl X "int") (hm : X.mg "int" = none) (ha : PE X a (tE g W ea)) (he : starEach [a] X.env = (false, eval a X.env) :: starEach [] X.env := by rfl) (hpl : (backTo pos (starEach [] X.env)).any (·.1) = false := by rfl) :
    PE X (.Call (.Name "int" p) [a] [] pos) (tE g W (eUn fInt ea)) := p_callT1 (T := "int") call_int1 c1_int hg hm (by decide +kernel) ha (by decide) (by decide) he hpl
theorem p_tuple (hK : g.K = X.K) (hg : Gl X "tuple") (hm : X.mg "tuple" = none) (ha : PE X a (tE g W ea)) (he : starEach [a] X.env = (false, eval a X.env) :: starEach [] X.env := by rfl) (hpl : (backTo pos (starEach [] X.env)).any (·.1) = false := by rfl) :
    PE X (.Call (.Name "tuple" p) [a] [] pos) (tE g W (eUn fTuple ea)) := p_callT1 (T := "tuple") call_tuple_of (by rw [← hK]; exact c1_tuple) hg hm (by decide +kernel) ha (by decide) (by decide) he hpl
theorem p_list (hK : g.K = X.K) (hg : Gl X "list") (hm : X.mg "list" = none) (ha : PE X a (tE g W ea)) (he : starEach [a] X.env = (false, eval a X.env) :: starEach [] X.env := by rfl) (hpl : (backTo pos (starEach [] X.env)).any (·.1) = false := by rfl) :
    PE X (.Call (.Name "list" p) [a] [] pos) (tE g W (eUn fList ea)) := p_callT1 (T := "list") call_list_of (by rw [← hK]; exact c1_list) hg hm (by decide +kernel) ha (by decide) (by decide) he hpl
theorem p_max2 (hcm : X.calm = true) (hg : Gl X "max") (hm : X.mg "max" = none) (ha : PE X a (tE g W ea)) (hb : PE X b (tE g W eb)) (he : starEach [a, b] X.env = (false, eval a X.env) :: starEach [b] X.env := by rfl) (he2 : starEach [b] X.env = (false, eval b X.env) :: starEach [] X.env := by rfl) (hpl : (backTo pos (starEach [b] X.env)).any (·.1) = false := by rfl) :
    PE X (.Call (.Name "max" p) [a, b] [] pos) (tE g W (eBin fMax2 ea eb)) := p_call2 (id := "max") (call_max2 hcm) c2_max hg hm (by decide +kernel) ha hb (by decide) (by decide) he he2 hpl
theorem p_min2 (hcm : X.calm = true) (hg : Gl X "min") (hm : X.mg "min" = none) (ha : PE X a (tE g W ea)) (hb : PE X b (tE g W eb)) (he : starEach [a, b] X.env = (false, eval a X.env) :: starEach [b] X.env := by rfl) (he2 : starEach [b] X.env = (false, eval b X.env) :: starEach [] X.env := by rfl) (hpl : (backTo pos (starEach [b] X.env)).any (·.1) = false := by rfl) :
    PE X (.Call (.Name "min" p) [a, b] [] pos) (tE g W (eBin fMin2 ea eb)) := p_call2 (id := "min") (call_min2 hcm) c2_min hg hm (by decide +kernel) ha hb (by decide) (by decide) he he2 hpl
/-- isinstance(a, T), T a built-in class -/
theorem p_isi (t : Ty) {n : Str} {p2 : Pos} (hK : g.K = X.K) (hg : Gl X "isinstance") (hm : X.mg "isinstance" = none) (hgT : Gl X n) (hmT : X.mg n = none) (hvT : bootBuiltins n = some (.type t.name)) (ha : PE X a (tE g W ea)) (hnT : n ≠ "__name__" := by decide) (hdT : (n == ("__debug__" : Str)) = false := by decide)
    (he : starEach [a, .Name n p2] X.env = (false, eval a X.env) :: starEach [.Name n p2] X.env := by rfl) (he2 : starEach [.Name n p2] X.env = (false, eval (.Name n p2) X.env) :: starEach [] X.env := by rfl) (hpl : (backTo pos (starEach [.Name n p2] X.env)).any (·.1) = false := by rfl) :
    PE X (.Call (.Name "isinstance" p) [a, .Name n p2] [] pos) (tE g W (eUn (fIsi t) ea)) :=
  (pe_callB (id := "isinstance") call_isi hg hm (by decide +kernel) (pa_cons ha (pa_cons (pe_bltn (v := .ty t.name) hgT hmT hvT rfl hnT hdT) pa_nil he2) he) (by decide) (by decide) he hpl).imp fun σ H Q ⟨w, Γ, S, st, en, h⟩ =>
    tX_seq st en h fun u H1 y S1 w1 s1 st1 en1 r1 h1 => by
      unfold fIsi at h1
      split at h1
      · rename_i d e
        split at h1
        · rename_i bb eb
          obtain ⟨tv, t1, t2⟩ := isi_ty st1 r1 e eb
          rw [hK] at t1 t2
          exact ⟨u, .ty t.name, tv, .type t.name, bb, rfl, .ty t.name, t1, t2, RQ.okQ h1 st1 (.bl _)⟩
        · exact h1.elim
      · exact h1.elim
end
end Pd

namespace Pd
open PySem L2

/-! ### slices -/
def cutD {α : Type} (xs : List α) (lo hi : Option Int) : List α := (xs.drop (HT.sIx xs.length 0 lo)).take (HT.sIx xs.length xs.length hi - HT.sIx xs.length 0 lo)
def eoN : Env → Store → R (Option Int) := fun _ S => .ok none S
def eoS (a : Ev) : Env → Store → R (Option Int) := fun Γ S => (a Γ S).bind fun x S1 => match x with | .d (.int i) => .ok (some i) S1 | _ => .bad
def fSl (x : Val) (lo hi : Option Int) (S : Store) : R Val := match rd S x with
  | some (.lst ds) => .ok (.d (.lst (cutD ds lo hi))) S
  | some (.tup ds) => .ok (.d (.tup (cutD ds lo hi))) S
  | _ => .bad
def eSl (a : Ev) (lo hi : Env → Store → R (Option Int)) : Ev := fun Γ S => (a Γ S).bind fun x S1 => (lo Γ S1).bind fun l S2 => (hi Γ S2).bind fun h S3 => fSl x l h S3
abbrev tO (g : Gx) (W : WX) (ev : Env → Store → R (Option Int)) : TO := tX g W (fun _ _ a b => a = b) ev
theorem _root_.L2.PO.imp {X : Cx} {e : Option Expr} {t t' : TO} (h : PO X e t) (i : ∀ σ H Q, t' σ H Q → t σ H Q) : PO X e t' := ⟨fun pins s σ H Q I hw => h.run pins s σ H Q I (i σ H Q hw)⟩
section
variable {X : Cx} {g : Gx} {W : WX} {a b c : Expr} {ea eb ec : Ev} {pos p2 : Pos}
theorem po_n : PO X none (tO g W eoN) := po_none.imp fun σ H Q ⟨w, Γ, S, st, en, h⟩ => RQ.okQ h st rfl
theorem po_s (ha : PE X a (tE g W ea)) : PO X (some a) (tO g W (eoS ea)) := (po_some ha).imp fun σ H Q ⟨w, Γ, S, st, en, h⟩ => tX_seq st en h fun u H1 x S1 w1 s1 st1 en1 r1 h1 => by
  split at h1
  · cases r1
    exact ⟨_, rfl, RQ.okQ h1 st1 rfl⟩
  · exact h1.elim
theorem RepL.cut {w : Wd} {H : Hp} {ds : List D} {vs : List V} (l : RepL g w H ds vs) (lo hi : Option Int) : RepL g w H (cutD ds lo hi) (cutV vs lo hi) := by
  unfold cutD cutV
  rw [l.length]
  exact RepL.take _ (RepL.drop _ l)
theorem cut_whole {α : Type} (xs : List α) (lo hi : Option Int) (h : HT.sIx xs.length 0 lo = 0 ∧ HT.sIx xs.length xs.length hi = xs.length) : cutD xs lo hi = xs := by
  unfold cutD
  rw [h.1, h.2]
  simp
def rSl2 (K : PySem.W.Frag) : V → Option Int → Option Int → Hp → VK → Prop := fun x lo hi H Q => rSlL K x lo hi H Q ∨ rSlA K x lo hi H Q
theorem sl_two : SlR X (rSl2 X.K) := SlR.or sl_list sl_tupA
theorem p_sl {lo hi : Option Expr} {el eh : Env → Store → R (Option Int)} (hK : g.K = X.K) (ha : PE X a (tE g W ea)) (hl : PO X lo (tO g W el)) (hh : PO X hi (tO g W eh)) : PE X (.Subscript a (.Slice lo hi none p2) pos) (tE g W (eSl ea el eh)) :=
  (pe_slice sl_two ha hl hh).imp fun σ H Q ⟨w, Γ, S, st, en, h⟩ => tX_seq st en h fun u H1 x S1 w1 s1 st1 en1 r1 h1 => tX_seq st1 en1 h1 fun l H2 l' S2 w2 s2 st2 en2 r2 h2 => tX_seq st2 en2 h2 fun k H3 k' S3 w3 s3 st3 en3 r3 h3 => by
    subst r2
    subst r3
    have r1' := (r1.step s2).step s3
    unfold fSl at h3
    split at h3
    · rename_i ds e
      obtain ⟨p, vs, rfl, q1, q2⟩ := rd_lst st3 r1' e
      exact .inl ⟨p, vs, rfl, .inl (.inl q1), fun p hp => RQ.newQ h3 st3 hp (rep_lst st3 hp (q2.cut _ _))⟩
    · rename_i ds e
      obtain ⟨p, vs, rfl, q1, q2⟩ := rd_tup r1' e
      refine .inr ⟨p, vs, rfl, by rw [← hK]; exact q1.sq, fun hw => ?_, fun _ p hp => RQ.newQ h3 st3 hp (rep_tup st3 hp (q2.cut _ _))⟩
      rw [← q2.length] at hw
      rw [cut_whole ds _ _ hw] at h3
      exact RQ.okQ h3 st3 (.tup q1 q2)
    · exact h3.elim
end

/-! ### what a loop walks -/
def Items (g : Gx) (w : Wd) (H : Hp) (ds : List D) (J : It) : Prop := ∀ w1 S1 H1, StOk g w1 S1 H1 → Le w H w1 H1 →
  (∀ i, i < ds.length → J.go i H1 ∧ ∀ x H2, J.yld i H1 x H2 → Stp w1 H1 w1 H2 ∧ StOk g w1 S1 H2 ∧ ∀ d, ds[i]? = some d → Rep g w1 H2 d x) ∧ J.stop ds.length H1
abbrev tI (g : Gx) (W : WX) (it : Env → Store → R (List D)) : TI := tX g W (Items g) it
/-- the items of a list or a tuple -/
def itV (a : Ev) : Env → Store → R (List D) := fun Γ S => (a Γ S).bind fun x S1 => match x with | .d (.lst ds) => .ok ds S1 | .d (.tup ds) => .ok ds S1 | _ => .bad
def upto (n : Nat) : List D := (List.range n).map fun i => .int (i : Nat)
def itR1 (a : Ev) : Env → Store → R (List D) := fun Γ S => (a Γ S).bind fun x S1 => match x with | .d (.int n) => if n ≤ cap ∧ -cap ≤ n then .ok (upto n.toNat) S1 else .bad | _ => .bad
def itR2 (a b : Ev) : Env → Store → R (List D) := fun Γ S => (a Γ S).bind fun x S1 => (b Γ S1).bind fun y S2 => match x, y with
  | .d (.int m), .d (.int n) => if (n ≤ cap ∧ -cap ≤ n) ∧ m ≤ cap ∧ -cap ≤ m then .ok ((List.range (n - m).toNat).map fun i => .int (m + (i : Nat))) S2 else .bad | _, _ => .bad
def seqOf : Val → Option (List D)
  | .d (.lst ds) => some ds
  | .d (.tup ds) => some ds
  | _ => none
/-- enumerate(a list) -/
def itEn (a : Ev) : Env → Store → R (List D) := fun Γ S => (a Γ S).bind fun x S1 => match x with | .d (.lst ds) => .ok (ds.zipIdx.map fun p => .tup [.int (p.2 : Nat), p.1]) S1 | .d (.tup ds) => .ok (ds.zipIdx.map fun p => .tup [.int (p.2 : Nat), p.1]) S1 | _ => .bad
def zipD (xs ys : List D) : List D := (xs.zip ys).map fun p => .tup [p.1, p.2]
/-- zip of two lists, of two tuples -/
def itZ (a b : Ev) : Env → Store → R (List D) := fun Γ S => (a Γ S).bind fun x S1 => (b Γ S1).bind fun y S2 => match x, y with
  | .d (.lst ds), .d (.lst es) => .ok (zipD ds es) S2
  | .d (.tup ds), .d (.tup es) => .ok (zipD ds es) S2
  | _, _ => .bad

section
variable {X : Cx} {g : Gx} {W : WX} {a b c tg : Expr} {ea eb ec : Ev} {pos p p2 : Pos}
/-- a list or a tuple, walked -/
theorem pi_seq {l : Expr} {tl : TE} (hl : PE X l tl) : PI X tg l (fun σ H R => tl σ H fun x H1 => ∃ a, x = .ref a ∧ (((∃ xs, SqL X.K H1 a xs) ∧ R (Itl X.K a) H1) ∨ ((∃ xs, SqT X.K H1 a xs) ∧ R (Itt X.K a) H1))) := by
  refine ⟨fun pins s σ H R I h => ?_⟩
  refine thn (hl.run pins s σ H _ I h) fun v s1 ⟨x, H1, I1, r1, q1⟩ => ?_
  obtain ⟨a, e, q⟩ := q1
  subst e
  cases r1
  rcases q with ⟨⟨xs, hq⟩, q⟩ | ⟨⟨xs, hq⟩, q⟩
  · obtain ⟨its, rv, p, hz⟩ := I1.list hq
    refine wpAny_pyIter_list p.isList ?_
    refine ⟨s1.heap.objs.size, [s1.heap.objs.size], _, _, H1, rfl, I1.kept (t' := s1.toks) fun b o e => Heap.get?_push_of_some _ e, turn_list a _, ⟨_, Heap.get?_push_size _ rfl, rfl, rfl⟩, fun b hb => ?_, q⟩
    have e : b = s1.heap.objs.size := by simpa using hb
    subst e
    exact I1.fpOk (Nat.le_refl _) (I1.hok.fresh (Nat.le_refl _))
  · obtain ⟨its, rv, p, hz⟩ := I1.tuple hq
    refine wpAny_pyIter_tuple (show s1.heap.IsTuple a its.toArray from p) ?_
    refine ⟨s1.heap.objs.size, [s1.heap.objs.size], _, _, H1, rfl, I1.kept (t' := s1.toks) fun b o e => Heap.get?_push_of_some _ e, turn_tuple a _, ⟨_, Heap.get?_push_size _ rfl, rfl, rfl⟩, fun b hb => ?_, q⟩
    have e : b = s1.heap.objs.size := by simpa using hb
    subst e
    exact I1.fpOk (Nat.le_refl _) (I1.hok.fresh (Nat.le_refl _))
variable {w : Wd} {H : Hp} {ds es : List D}
theorem items_list {a : Addr} {vs : List V} (h : H a = some (.lst vs)) (n : ¬ w.av a) (l : RepL g w H ds vs) : Items g w H ds (Itl g.K a) := fun w1 S1 H1 st le => by
  have h1 : SqL g.K H1 a vs := .inl (.inl (le.keep _ _ h n))
  have l1 := RepL.le le l
  refine ⟨fun i hi => ?_, ⟨vs, h1, by rw [l.length]; exact Nat.le_refl _⟩⟩
  obtain ⟨v, hv, _⟩ := l.get (List.getElem?_eq_getElem hi)
  refine ⟨⟨vs, v, h1, hv⟩, fun x H2 y => ?_⟩
  obtain ⟨rfl, y⟩ := y
  refine ⟨.refl _ _, st, fun d hd => ?_⟩
  obtain ⟨u, hu, ru⟩ := l1.get hd
  have := y vs h1
  rw [hu] at this
  cases this
  exact ru
theorem items_tup {a : Addr} {vs : List V} (h : SqT' g w H a vs) (l : RepL g w H ds vs) : Items g w H ds (Itt g.K a) := fun w1 S1 H1 st le => by
  have h1 : SqT g.K H1 a vs := (h.le le).sq
  have l1 := RepL.le le l
  refine ⟨fun i hi => ?_, ⟨vs, h1, by rw [l.length]; exact Nat.le_refl _⟩⟩
  obtain ⟨v, hv, _⟩ := l.get (List.getElem?_eq_getElem hi)
  refine ⟨⟨vs, v, h1, hv⟩, fun x H2 y => ?_⟩
  obtain ⟨rfl, y⟩ := y
  refine ⟨.refl _ _, st, fun d hd => ?_⟩
  obtain ⟨u, hu, ru⟩ := l1.get hd
  have := y vs h1
  rw [hu] at this
  cases this
  exact ru
theorem i_val (hK : g.K = X.K) (ha : PE X a (tE g W ea)) : PI X tg a (tI g W (itV ea)) := (pi_seq ha).imp fun σ H Q ⟨w, Γ, S, st, en, h⟩ => tX_seq st en h fun u H1 x S1 w1 s1 st1 en1 r1 h1 => by
  split at h1
  · cases r1 with
    | lst q1 q2 q3 =>
      rw [← hK]
      exact ⟨_, rfl, .inl ⟨⟨_, .inl (.inl q1)⟩, RQ.okQ h1 st1 (items_list q1 q2 q3)⟩⟩
  · cases r1 with
    | tup q1 q3 =>
      rw [← hK]
      exact ⟨_, rfl, .inr ⟨⟨_, q1.sq⟩, RQ.okQ h1 st1 (items_tup q1 q3)⟩⟩
  · exact h1.elim
theorem items_range {lo : Int} {n : Nat} : Items g w H ((List.range n).map fun i => .int (lo + (i : Nat))) (Itr lo n) := fun w1 S1 H1 st le => by
  refine ⟨fun i hi => ?_, by show n ≤ _; simp⟩
  have hi' : i < n := by simpa using hi
  refine ⟨hi', fun x H2 y => ?_⟩
  obtain ⟨rfl, rfl⟩ := y
  refine ⟨.refl _ _, st, fun d hd => ?_⟩
  rw [List.getElem?_map, List.getElem?_range hi'] at hd
  cases hd
  exact .int _
theorem items_upto {n : Nat} : Items g w H (upto n) (Itr 0 n) := by
  have e : upto n = (List.range n).map fun i => .int ((0 : Int) + (i : Nat)) := by
    unfold upto
    simp
  rw [e]
  exact items_range
theorem i_range1 (hg : Gl X "range") (hm : X.mg "range" = none) (ha : PE X a (tE g W ea)) (hs : starEach [a] X.env = [(false, eval a X.env)] := by rfl) : PI X tg (.Call (.Name "range" p) [a] [] pos) (tI g W (itR1 ea)) :=
  (pi_range1 hg hm (pa_cons ha pa_nil hs) hs).imp fun σ H Q ⟨w, Γ, S, st, en, h⟩ => tX_seq st en h fun u H1 x S1 w1 s1 st1 en1 r1 h1 => by
    split at h1
    · obtain ⟨⟨q1, q2⟩, h1⟩ := ite_q h1
      cases r1
      have hc : ((cap : Nat) : Int) = 1000000 := rfl
      exact ⟨_, rfl, by omega, by omega, RQ.okQ h1 st1 items_upto⟩
    · exact h1.elim
theorem i_range2 (hg : Gl X "range") (hm : X.mg "range" = none) (ha : PE X a (tE g W ea)) (hb : PE X b (tE g W eb)) (hs : starEach [a, b] X.env = [(false, eval a X.env), (false, eval b X.env)] := by rfl) (hs2 : starEach [b] X.env = [(false, eval b X.env)] := by rfl) :
    PI X tg (.Call (.Name "range" p) [a, b] [] pos) (tI g W (itR2 ea eb)) :=
  (pi_range2 hg hm (pa_cons ha (pa_cons hb pa_nil hs2) (by rw [hs, hs2])) hs hs2).imp fun σ H Q ⟨w, Γ, S, st, en, h⟩ => tX_seq st en h fun u H1 x S1 w1 s1 st1 en1 r1 h1 => tX_seq st1 en1 h1 fun v H2 y S2 w2 s2 st2 en2 r2 h2 => by
    split at h2
    · obtain ⟨⟨⟨q1, q2⟩, q3, q4⟩, h2⟩ := ite_q h2
      cases r1
      cases r2
      have hc : ((cap : Nat) : Int) = 1000000 := rfl
      exact ⟨_, _, rfl, ⟨by omega, by omega, by omega, by omega⟩, RQ.okQ h2 st2 items_range⟩
    · exact h2.elim
/-- a new pair at each turn -/
theorem items_pair {J : It} {f : Nat → Option (D × D)} {n : Nat} (hn : ds.length = n) (hd : ∀ i d, ds[i]? = some d → ∃ x y, f i = some (x, y) ∧ d = .tup [x, y])
    (hJ : ∀ w1 S1 H1, StOk g w1 S1 H1 → Le w H w1 H1 → (∀ i, i < n → J.go i H1 ∧ ∀ x H2, J.yld i H1 x H2 → ∃ T u v, x = .ref T ∧ H1 T = none ∧ H2 = upd H1 T (.tup [u, v]) ∧ ∀ c d, f i = some (c, d) → Rep g w1 H1 c u ∧ Rep g w1 H1 d v) ∧ J.stop n H1) : Items g w H ds J := fun w1 S1 H1 st le => by
  subst hn
  obtain ⟨j1, j2⟩ := hJ w1 S1 H1 st le
  refine ⟨fun i hi => ⟨(j1 i hi).1, fun x H2 y => ?_⟩, j2⟩
  obtain ⟨T, u, v, rfl, hT, rfl, q⟩ := (j1 i hi).2 x H2 y
  refine ⟨step_new st hT, st.new hT, fun d hdd => ?_⟩
  obtain ⟨c, e, hf, rfl⟩ := hd i d hdd
  obtain ⟨r1, r2⟩ := q c e hf
  exact rep_tup st hT (.cons r1 (.cons r2 .nil))
theorem enum_len (ds : List D) : (ds.zipIdx.map fun p => D.tup [.int (p.2 : Nat), p.1]).length = ds.length := by simp
theorem enum_get (ds : List D) (i : Nat) (d : D) (h : (ds.zipIdx.map fun p => D.tup [.int (p.2 : Nat), p.1])[i]? = some d) : ∃ x y, (ds[i]?.map fun z => (D.int (i : Nat), z)) = some (x, y) ∧ d = .tup [x, y] := by
  rw [List.getElem?_map, List.getElem?_zipIdx] at h
  cases e : ds[i]? with
  | none => rw [e] at h; cases h
  | some z =>
    rw [e] at h
    simp at h
    exact ⟨_, _, rfl, h.symm⟩
theorem items_enum {a : Addr} {vs : List V} (h : H a = some (.lst vs)) (n : ¬ w.av a) (l : RepL g w H ds vs) : Items g w H (ds.zipIdx.map fun p => .tup [.int (p.2 : Nat), p.1]) (Ite g.K a) := by
  refine items_pair (enum_len ds) (f := fun i => ds[i]?.map fun z => (D.int (i : Nat), z)) (fun i d h => enum_get ds i d h) fun w1 S1 H1 st le => ?_
  have h1 : SqL g.K H1 a vs := .inl (.inl (le.keep _ _ h n))
  have l1 := RepL.le le l
  refine ⟨fun i hi => ?_, ⟨vs, h1, by rw [l.length]; exact Nat.le_refl _⟩⟩
  obtain ⟨v, hv, _⟩ := l.get (List.getElem?_eq_getElem hi)
  refine ⟨⟨vs, v, h1, hv⟩, fun x H2 y => ?_⟩
  obtain ⟨T, u, rfl, hT, rfl, q⟩ := y
  refine ⟨T, _, u, rfl, hT, rfl, fun c d e => ?_⟩
  cases e2 : ds[i]? with
  | none => rw [e2] at e; cases e
  | some z =>
    rw [e2] at e
    cases e
    obtain ⟨u', hu, ru⟩ := l1.get e2
    have := q vs h1
    rw [hu] at this
    cases this
    exact ⟨.int _, ru⟩
theorem zip_get (xs ys : List D) (i : Nat) (d : D) (h : (zipD xs ys)[i]? = some d) : ∃ x y, (match xs[i]?, ys[i]? with | some x, some y => some (x, y) | _, _ => none) = some (x, y) ∧ d = .tup [x, y] := by
  unfold zipD at h
  rw [List.getElem?_map] at h
  cases e : (xs.zip ys)[i]? with
  | none => rw [e] at h; cases h
  | some z =>
    rw [e] at h
    cases h
    obtain ⟨e1, e2⟩ := List.getElem?_zip_eq_some.mp e
    rw [e1, e2]
    exact ⟨_, _, rfl, rfl⟩
theorem items_zipL {a b : Addr} {vs us : List V} (h : H a = some (.lst vs)) (n : ¬ w.av a) (l : RepL g w H ds vs) (h' : H b = some (.lst us)) (n' : ¬ w.av b) (l' : RepL g w H es us) : Items g w H (zipD ds es) (Itz g.K a b) := by
  refine items_pair (n := min ds.length es.length) (by simp [zipD]) (fun i d h => zip_get ds es i d h) fun w1 S1 H1 st le => ?_
  have h1 : SqL g.K H1 a vs := .inl (.inl (le.keep _ _ h n))
  have h2 : SqL g.K H1 b us := .inl (.inl (le.keep _ _ h' n'))
  have l1 := RepL.le le l
  have l2 := RepL.le le l'
  refine ⟨fun i hi => ?_, ⟨vs, us, h1, h2, by have := l.length; have := l'.length; omega⟩⟩
  obtain ⟨v, hv, _⟩ := l.get (List.getElem?_eq_getElem (show i < ds.length by omega))
  obtain ⟨v', hv', _⟩ := l'.get (List.getElem?_eq_getElem (show i < es.length by omega))
  refine ⟨⟨vs, us, v, v', h1, h2, hv, hv'⟩, fun x H2 y => ?_⟩
  obtain ⟨T, u, u', rfl, hT, rfl, q, q'⟩ := y
  refine ⟨T, _, _, rfl, hT, rfl, fun c d e => ?_⟩
  split at e
  · rename_i c' d' e1 e2
    cases e
    obtain ⟨z, hz, rz⟩ := l1.get e1
    obtain ⟨z', hz', rz'⟩ := l2.get e2
    have t1 := q vs h1
    have t2 := q' us h2
    rw [hz] at t1
    rw [hz'] at t2
    cases t1
    cases t2
    exact ⟨rz, rz'⟩
  · cases e
theorem items_zipT {a b : Addr} {vs us : List V} (h : SqT' g w H a vs) (l : RepL g w H ds vs) (h' : SqT' g w H b us) (l' : RepL g w H es us) : Items g w H (zipD ds es) (RZ.ItzT g.K a b) := by
  refine items_pair (n := min ds.length es.length) (by simp [zipD]) (fun i d h => zip_get ds es i d h) fun w1 S1 H1 st le => ?_
  have h1 : SqT g.K H1 a vs := (h.le le).sq
  have h2 : SqT g.K H1 b us := (h'.le le).sq
  have l1 := RepL.le le l
  have l2 := RepL.le le l'
  refine ⟨fun i hi => ?_, ⟨vs, us, h1, h2, by have := l.length; have := l'.length; omega⟩⟩
  obtain ⟨v, hv, _⟩ := l.get (List.getElem?_eq_getElem (show i < ds.length by omega))
  obtain ⟨v', hv', _⟩ := l'.get (List.getElem?_eq_getElem (show i < es.length by omega))
  refine ⟨⟨vs, us, v, v', h1, h2, hv, hv'⟩, fun x H2 y => ?_⟩
  obtain ⟨T, u, u', rfl, hT, rfl, q, q'⟩ := y
  refine ⟨T, _, _, rfl, hT, rfl, fun c d e => ?_⟩
  split at e
  · rename_i c' d' e1 e2
    cases e
    obtain ⟨z, hz, rz⟩ := l1.get e1
    obtain ⟨z', hz', rz'⟩ := l2.get e2
    have t1 := q vs h1
    have t2 := q' us h2
    rw [hz] at t1
    rw [hz'] at t2
    cases t1
    cases t2
    exact ⟨rz, rz'⟩
  · cases e
theorem i_zip {elts : List Expr} {kk : Nat} {tpos : Pos} (hK : g.K = X.K) (hg : Gl X "zip") (hm : X.mg "zip" = none) (ha : PE X a (tE g W ea)) (hb : PE X b (tE g W eb)) (hs : starEach [a, b] X.env = (false, eval a X.env) :: starEach [b] X.env := by rfl) (hs2 : starEach [b] X.env = (false, eval b X.env) :: starEach [] X.env := by rfl)
    (hpl : (backTo pos (starEach [b] X.env)).any (·.1) = false := by rfl) : PI X (.Tuple elts kk tpos) (.Call (.Name "zip" p) [a, b] [] pos) (tI g W (itZ ea eb)) :=
  (RZ.pi_zipA hg hm (pa_cons ha (pa_cons hb pa_nil hs2) hs) hs hpl).imp fun σ H Q ⟨w, Γ, S, st, en, h⟩ => tX_seq st en h fun u H1 x S1 w1 s1 st1 en1 r1 h1 => tX_seq st1 en1 h1 fun v H2 y S2 w2 s2 st2 en2 r2 h2 => by
    have r1' := r1.step s2
    split at h2
    · cases r1' with
      | lst q1 q2 q3 =>
        cases r2 with
        | lst q4 q5 q6 =>
          rw [← hK]
          exact ⟨_, _, _, _, rfl, .inl ⟨.inl (.inl q1), .inl (.inl q4), RQ.okQ h2 st2 (items_zipL q1 q2 q3 q4 q5 q6)⟩⟩
    · cases r1' with
      | tup q1 q3 =>
        cases r2 with
        | tup q4 q6 =>
          rw [← hK]
          exact ⟨_, _, _, _, rfl, .inr ⟨q1.sq, q4.sq, RQ.okQ h2 st2 (items_zipT q1 q3 q4 q6)⟩⟩
    · exact h2.elim
end
end Pd

namespace Pd
open PySem L2

/-! ### hidden objects, objects that change -/
section
variable {g : Gx} {w w' : Wd} {H H' : Hp} {S : Store} {p : Addr} {o : HO}
theorem le_sub {m m' : List (Option Addr)} {h h' : List Addr} (s : ∀ a, (⟨m', h'⟩ : Wd).av a → (⟨m, h⟩ : Wd).av a) : Le ⟨m, h⟩ H ⟨m', h'⟩ H := ⟨fun a z => .inl (s a z), fun _ _ e _ _ => e, fun _ e => e, fun _ _ => rfl⟩
theorem le_unhide {m : List (Option Addr)} {h : List Addr} : Le ⟨m, p :: h⟩ H ⟨m, h⟩ H := le_sub fun a z => z.elim .inl fun z => .inr (List.mem_cons_of_mem _ z)
theorem StOk.unhide {m : List (Option Addr)} {h : List Addr} (st : StOk g ⟨m, p :: h⟩ S H) : StOk g ⟨m, h⟩ S H :=
  ⟨st.len, fun k c e => let ⟨a, h1, h2⟩ := st.cell k c e; ⟨a, h1, h2.le le_unhide fun _ _ _ q => q⟩, st.live, st.inj, fun a z => st.hid a (List.mem_cons_of_mem _ z)⟩
/-- a new object, hidden -/
theorem le_newH (st : StOk g w S H) (hp : H p = none) : Le w H ⟨w.m, p :: w.hid⟩ (upd H p o) := by
  have l := le_new (o := o) st hp
  refine ⟨fun a z => ?_, l.keepN, l.trk, l.hk⟩
  rcases z with z | z
  · exact .inl (.inl z)
  · rcases List.mem_cons.mp z with q | q
    · exact .inr (by rw [q]; exact hp)
    · exact .inl (.inr q)
theorem StOk.newH (st : StOk g w S H) (hp : H p = none) : StOk g ⟨w.m, p :: w.hid⟩ S (upd H p o) := by
  have l := le_newH (o := o) st hp
  refine ⟨st.len, fun k c e => ?_, st.live, st.inj, fun a z => ?_⟩
  · obtain ⟨a, h1, h2⟩ := st.cell k c e
    exact ⟨a, h1, h2.le l fun b o _ q => by rw [upd_ne (ne_of_none q hp)]; exact q⟩
  · rcases List.mem_cons.mp z with q | q
    · subst q
      refine ⟨fun y => st.nav hp (.inl y), ?_⟩
      rw [upd_same]
      exact fun y => by cases y
    · exact ⟨(st.hid a q).1, l.trk a (st.hid a q).2⟩
mutual
theorem Rep.mut (n : w.av p) : ∀ {d : D} {v : V}, Rep g w H d v → Rep g w (upd H p o) d v
  | _, _, .non => .non
  | _, _, .bl b => .bl b
  | _, _, .int i => .int i
  | _, _, .str x => .str x
  | _, _, .tup h r => .tup (by
      rcases h with ⟨h, k⟩ | h
      · refine .inl ⟨?_, k⟩
        have e : ∀ a, ¬ w.av a → upd H p o a = H a := fun a z => upd_ne fun q => z (by rw [q]; exact n)
        unfold Rd
        rw [e _ k]
        exact h
      · exact .inr h) (RepL.mut n r)
  | _, _, .lst h k r => .lst (by rw [upd_ne fun q => k (by rw [q]; exact n)]; exact h) k (RepL.mut n r)
  | _, _, .obj c h e k k2 r => .obj c (by rw [upd_ne fun q => k (by rw [q]; exact n)]; exact h) (by rw [upd_ne fun q => k2 (by rw [q]; exact n)]; exact e) k k2 (RepL.mut n r)
  | _, _, .scr h => .scr (by
      rcases h with ⟨h, k⟩ | h
      · refine .inl ⟨?_, k⟩
        have e : ∀ a, ¬ w.av a → upd H p o a = H a := fun a z => upd_ne fun q => z (by rw [q]; exact n)
        unfold Rd
        rw [e _ k]
        exact h
      · exact .inr h)
  | _, _, .val v => .val v
theorem RepL.mut (n : w.av p) : ∀ {d : List D} {v : List V}, RepL g w H d v → RepL g w (upd H p o) d v
  | _, _, .nil => .nil
  | _, _, .cons h r => .cons (Rep.mut n h) (RepL.mut n r)
end
theorem RepV.mut (n : w.av p) {x : Val} {v : V} (h : RepV g w H x v) : RepV g w (upd H p o) x v := by
  cases x with
  | d x => exact Rep.mut n h
  | cell k => exact h
theorem CellOk.mut (n : w.av p) {c : Cell} {a : Addr} (ne : a ≠ p) (h : CellOk g w H c a) : CellOk g w (upd H p o) c a := by
  cases c with
  | lst ds =>
    obtain ⟨vs, e1, e2⟩ := h
    exact ⟨vs, by rw [upd_ne ne]; exact e1, RepL.mut n e2⟩
  | obj cn fs =>
    obtain ⟨C, dx, vs, h1, h2, h3, h4, h5, hl, h6⟩ := h
    have nd : dx ≠ p := fun q => h3 (by rw [q]; exact n)
    refine ⟨C, dx, vs, h1, h2, h3, ?_, by rw [upd_ne nd]; exact h5, hl, fun i x q => ?_⟩
    · unfold SlX.Slt
      rw [upd_ne ne, upd_ne nd]
      exact h4
    · obtain ⟨v, q1, q2⟩ := h6 i x q
      exact ⟨v, q1, Rep.mut n q2⟩
/-- the hidden object p changes -/
theorem StOk.mutH (st : StOk g w S H) (hp : p ∈ w.hid) : StOk g w S (upd H p o) := by
  refine ⟨st.len, fun k c e => ?_, st.live, st.inj, fun a z => ⟨(st.hid a z).1, ?_⟩⟩
  · obtain ⟨a, h1, h2⟩ := st.cell k c e
    refine ⟨a, h1, ?_⟩
    have ne : a ≠ p := fun q => (st.hid p hp).1 (List.mem_of_getElem? (by rw [← q]; exact h1))
    exact h2.mut (.inr hp) ne
  · unfold upd
    split
    · exact fun y => by cases y
    · exact (st.hid a z).2
/-- the k-th object of the store changes -/
theorem StOk.mutC (st : StOk g w S H) {k : Nat} {a : Addr} {ds : List D} {vs : List V} (hk : w.m[k]? = some (some a)) (l : RepL g w H ds vs) : StOk g w (S.set k (some (.lst ds))) (upd H a (.lst vs)) := by
  have av : w.av a := .inl (List.mem_of_getElem? hk)
  obtain ⟨c0, hc0⟩ := st.live k a hk
  have hlt : k < S.length := by
    rcases Nat.lt_or_ge k S.length with q | q
    · exact q
    · rw [List.getElem?_eq_none q] at hc0
      cases hc0
  refine ⟨by rw [List.length_set]; exact st.len, fun j c e => ?_, fun j b e => ?_, st.inj, fun b z => ⟨(st.hid b z).1, ?_⟩⟩
  · by_cases hj : k = j
    · subst hj
      rw [List.getElem?_set_self hlt] at e
      cases e
      exact ⟨a, hk, vs, upd_same, RepL.mut av l⟩
    · rw [List.getElem?_set_ne hj] at e
      obtain ⟨b, h1, h2⟩ := st.cell j c e
      refine ⟨b, h1, ?_⟩
      have ne : b ≠ a := fun q => hj (st.inj k j a hk (by rw [← q]; exact h1))
      exact h2.mut av ne
  · by_cases hj : k = j
    · subst hj
      exact ⟨_, by rw [List.getElem?_set_self hlt]⟩
    · rw [List.getElem?_set_ne hj]
      exact st.live j b e
  · unfold upd
    split
    · exact fun y => by cases y
    · exact (st.hid b z).2
theorem stp_mutC (st : StOk g w S H) {k : Nat} {a : Addr} (hk : w.m[k]? = some (some a)) : Stp w H w (upd H a o) := by
  have av : w.av a := .inl (List.mem_of_getElem? hk)
  refine ⟨⟨fun b z => .inl z, fun b u e _ n => ?_, fun b e => ?_, fun b z => ?_⟩, rfl, rfl, fun _ _ e => e⟩
  · rw [upd_ne fun q => n (by rw [q]; exact av)]
    exact e
  · unfold upd
    split
    · exact fun y => by cases y
    · exact e
  · exact upd_ne fun q => (st.hid b z).1 (by rw [q]; exact List.mem_of_getElem? hk)
end

/-! ### steps with one hidden object more -/
structure Stq (w : Wd) (H : Hp) (w' : Wd) (H' : Hp) : Prop where
  le : Le w H w' H'
  len : w'.m.length = w.m.length
  old : ∀ (k : Nat) (a : Addr), w'.m[k]? = some (some a) → w.m[k]? = some (some a)
section
variable {g : Gx} {w w' w1 : Wd} {H H' H1 : Hp} {S : Store} {p : Addr} {o : HO}
theorem Stp.q (s : Stp w H w' H') : Stq w H w' H' := ⟨s.le, s.len, s.old⟩
theorem RepV.stq (l : Stq w H w' H') {x : Val} {v : V} (h : RepV g w H x v) : RepV g w' H' x v := by
  cases x with
  | d x => exact Rep.le l.le h
  | cell k => exact ⟨by rw [l.len]; exact h.1, fun a e => h.2 a (l.old k a e)⟩
theorem EnvOk.stq (l : Stq w H w' H') {Γ : Env} {σ : St} (h : EnvOk g w Γ σ H) : EnvOk g w' Γ σ H' :=
  ⟨h.len, fun i x e => let ⟨v, h1, h2⟩ := h.val i x e; ⟨v, h1, h2.stq l⟩⟩
theorem Stq.stp (l : Stq w H w1 H1) (r : Stp w1 H1 w' H') (hid : ∀ a ∈ w.hid, a ∈ w1.hid) : Stq w H w' H' := ⟨l.le.trans r.le hid, r.len.trans l.len, fun k a e => l.old k a (r.old k a e)⟩
/-- the result of an expression that makes a new list -/
structure New (w : Wd) (H : Hp) (w' : Wd) (H' : Hp) (p : Addr) : Prop where
  q : Stq w H w' H'
  hid : w'.hid = p :: w.hid
  free : H p = none
def RQN (g : Gx) (W : WX) (w : Wd) (σ : St) (H : Hp) (r : R Val) (Q : VK) : Prop := match r with
  | .ok (.d (.lst ds)) S' => ∀ p vs w' H', New w H w' H' p → StOk g w' S' H' → H' p = some (.lst vs) → RepL g w' H' ds vs → Q (.ref p) H'
  | .ok _ _ => False
  | .exc c x S' => ∀ cls dx w' H', Stp w H w' H' → StOk g w' S' H' → ExcRep g w' H' c x cls dx → W cls dx σ H'
  | .bad => False
def tN (g : Gx) (W : WX) (ev : Ev) : TE := fun σ H Q => ∃ w Γ S, StOk g w S H ∧ EnvOk g w Γ σ H ∧ RQN g W w σ H (ev Γ S) Q
theorem New.stp (l : Stp w H w1 H1) (r : New w1 H1 w' H' p) : New w H w' H' p := by
  refine ⟨⟨l.le.trans r.q.le (by rw [l.hid]; exact fun _ h => h), r.q.len.trans l.len, fun k a e => l.old k a (r.q.old k a e)⟩, by rw [r.hid, l.hid], ?_⟩
  cases e : H p with
  | none => rfl
  | some o => exact absurd r.free (l.le.trk p (by rw [e]; exact fun z => by cases z))
theorem RQN.to {W : WX} {σ : St} {r : R Val} {Q : VK} (h : RQN g W w σ H r Q) (s : Stp w H w1 H1) : RQN g W w1 σ H1 r Q := by
  cases r with
  | ok x S =>
    cases x with
    | cell k => exact h
    | d x =>
      cases x with
      | lst ds => exact fun p vs w' H' n => h p vs w' H' (n.stp s)
      | _ => exact h
  | exc c x S => exact fun cls dx w' H' s' => h cls dx w' H' (s.trans s')
  | bad => exact h
theorem New.stp0 {m : List (Option Addr)} {h : List Addr} (hw : w' = ⟨m, h⟩) (n : New w H w' H' p) : Stp w H ⟨m, w.hid⟩ H' := by
  have e := n.hid
  subst hw
  have e' : h = p :: w.hid := e
  subst e'
  exact ⟨⟨fun a z => n.q.le.av a (z.elim .inl fun z => .inr (List.mem_cons_of_mem _ z)), n.q.le.keepN, n.q.le.trk, n.q.le.hk⟩, rfl, n.q.len, n.q.old⟩
/-- a new list, as a value -/
theorem RQN.plain {W : WX} {σ : St} {r : R Val} {Q : VK} (h : RQ g W (RepV g) w σ H r Q) (hl : ∀ x S, r = .ok x S → ∃ ds, x = .d (.lst ds)) (hw : ∀ a ∈ w.hid, H a ≠ none) : RQN g W w σ H r Q := by
  cases r with
  | ok x S =>
    obtain ⟨ds, rfl⟩ := hl x S rfl
    intro p vs w' H' n st hp l
    obtain ⟨m, hh⟩ := w'
    have e : hh = p :: w.hid := n.hid
    subst e
    refine h (.ref p) ⟨m, w.hid⟩ H' (n.stp0 rfl) st.unhide (.lst hp (fun z => ?_) (RepL.le le_unhide l))
    rcases z with z | z
    · exact (st.hid p List.mem_cons_self).1 z
    · exact hw p z n.free
  | exc c x S => exact h
  | bad => exact h
end
theorem _root_.L2.PE.plain {X : Cx} {e : Expr} {g : Gx} {W : WX} {ev : Ev} (h : PE X e (tN g W ev)) (hl : ∀ Γ S x S', ev Γ S = .ok x S' → ∃ ds, x = .d (.lst ds)) : PE X e (tE g W ev) :=
  h.imp fun σ H Q ⟨w, Γ, S, st, en, q⟩ => ⟨w, Γ, S, st, en, RQN.plain q (hl Γ S) fun a z => (st.hid a z).2⟩
section
variable {α β : Type} {g : Gx} {W : WX} {ρ : Wd → Hp → α → β → Prop} {w : Wd} {σ : St} {H : Hp}
theorem tX_seqN {Γ : Env} {S : Store} {ea : Env → Store → R α} {k : α → Store → R Val} {Q : VK} (st : StOk g w S H) (en : EnvOk g w Γ σ H) (h : RQN g W w σ H ((ea Γ S).bind k) Q) {P : β → Hp → Prop}
    (hP : ∀ v H1 x S1 w1, Stp w H w1 H1 → StOk g w1 S1 H1 → EnvOk g w1 Γ σ H1 → ρ w1 H1 x v → RQN g W w1 σ H1 (k x S1) Q → P v H1) : tX g W ρ ea σ H P := by
  refine ⟨w, Γ, S, st, en, ?_⟩
  cases e : ea Γ S with
  | ok x S1 =>
    rw [e] at h
    exact fun v w' H' s st' r => hP v H' x S1 w' s st' (en.step s) r (RQN.to (r := k x S1) h s)
  | exc c x S1 =>
    rw [e] at h
    exact h
  | bad =>
    rw [e] at h
    exact h
theorem RQN.newQ {ds : List D} {S : Store} {p : Addr} {vs : List V} {Q : VK} (h : RQN g W w σ H (.ok (.d (.lst ds)) S) Q) (st : StOk g w S H) (hp : H p = none) (l : RepL g w H ds vs) : Q (.ref p) (upd H p (.lst vs)) :=
  h p vs ⟨w.m, p :: w.hid⟩ _ ⟨⟨le_newH st hp, rfl, fun _ _ e => e⟩, rfl, hp⟩ (st.newH hp) upd_same (RepL.le (le_newH st hp) l)
end

/-! ### targets -/
abbrev Tg := D → Env → Option Env
def tgN (i : Nat) : Tg := fun x Γ => some (Γ.set i (some (.d x)))
def tgsNil : List D → Env → Option Env := fun ds Γ => match ds with | [] => some Γ | _ => none
def tgsCons (t : Tg) (u : List D → Env → Option Env) : List D → Env → Option Env := fun ds Γ => match ds with | x :: r => (t x Γ).bind (u r) | [] => none
def tgT (u : List D → Env → Option Env) : Tg := fun x Γ => match x with | .tup ds => u ds Γ | _ => none
def tG (g : Gx) (sl : List Nat) (tg : Tg) : TG := fun v σ H Q => ∃ w Γ S x Γ', StOk g w S H ∧ EnvOk g w Γ σ H ∧ Rep g w H x v ∧ tg x Γ = some Γ' ∧
  ∀ σ', EnvOk g w Γ' σ' H → σ'.length = σ.length → (∀ i, i ∉ sl → σ'[i]? = σ[i]?) → Q σ' H
def tGs (g : Gx) (sl : List Nat) (tg : List D → Env → Option Env) : TGs := fun vs σ H Q => ∃ w Γ S ds Γ', StOk g w S H ∧ EnvOk g w Γ σ H ∧ RepL g w H ds vs ∧ tg ds Γ = some Γ' ∧
  ∀ σ', EnvOk g w Γ' σ' H → σ'.length = σ.length → (∀ i, i ∉ sl → σ'[i]? = σ[i]?) → Q σ' H
theorem _root_.L2.PGs.imp {X : Cx} {e : List Expr} {t t' : TGs} (h : PGs X e t) (i : ∀ v σ H Q, t' v σ H Q → t v σ H Q) : PGs X e t' := ⟨fun pins s σ H v u Q I r hw => h.run pins s σ H v u Q I r (i v σ H Q hw)⟩
section
variable {X : Cx} {g : Gx} {pos : Pos}
theorem g_name {i : Nat} {x : Str} (hN : X.N.Nodup) (hi : X.N[i]? = some x) (hx : Loc X.env.scope x) (hf : X.fn x = true ∨ X.env.scope.names.lookup x = some .local := by first | exact .inl rfl | exact .inr rfl | assumption) : PG X (.Name x pos) (tG g [i] (tgN i)) :=
  (pg_name hN hi hx hf).imp fun v σ H Q ⟨w, Γ, S, x, Γ', st, en, r, e, k⟩ => by
    cases e
    exact k _ (en.set i (x := .d x) r) (by simp) fun j hj => by
      rw [List.getElem?_set_ne]
      exact fun z => hj (by simp [z])
theorem gs_nil : PGs X [] (tGs g [] tgsNil) := pgs_nil.imp fun v σ H Q ⟨w, Γ, S, ds, Γ', st, en, r, e, k⟩ => by
  unfold tgsNil at e
  split at e
  · cases e
    cases r
    exact ⟨rfl, k σ en rfl fun _ _ => rfl⟩
  · cases e
theorem gs_cons {e : Expr} {es : List Expr} {s1 s2 : List Nat} {t : Tg} {u : List D → Env → Option Env} (h1 : PG X e (tG g s1 t)) (h2 : PGs X es (tGs g s2 u)) (hs : (assignEach (e :: es) X.env).map (·.2) = assign e X.env :: (assignEach es X.env).map (·.2) := by rfl) : PGs X (e :: es) (tGs g (s1 ++ s2) (tgsCons t u)) :=
  (pgs_cons h1 h2 hs).imp fun v σ H Q ⟨w, Γ, S, ds, Γ', st, en, r, e, k⟩ => by
    unfold tgsCons at e
    split at e
    · rename_i x rr
      cases r with
      | cons r1 r2 =>
        cases e1 : t x Γ with
        | none => rw [e1] at e; cases e
        | some Γ1 =>
          rw [e1] at e
          refine ⟨_, _, rfl, w, Γ, S, x, Γ1, st, en, r1, e1, fun σ1 en1 l1 k1 => ?_⟩
          refine ⟨w, Γ1, S, rr, Γ', st, en1, r2, e, fun σ2 en2 l2 k2 => ?_⟩
          refine k σ2 en2 (l2.trans l1) fun i hi => ?_
          rw [k2 i fun z => hi (List.mem_append_right _ z), k1 i fun z => hi (List.mem_append_left _ z)]
    · cases e
theorem g_tup {es : List Expr} {k : Nat} {sl : List Nat} {u : List D → Env → Option Env} {n : Nat} (hK : g.K = X.K) (hc : X.calm = true) (h : PGs X es (tGs g sl u)) (hu : ∀ ds Γ Γ', u ds Γ = some Γ' → ds.length = n)
    (hn : (assignEach es X.env).length = n := by rfl) (hst : (assignEach es X.env).findIdx? (·.1) = none := by rfl) : PG X (.Tuple es k pos) (tG g sl (tgT u)) :=
  (pg_tup hc h hn hst).imp fun v σ H Q ⟨w, Γ, S, x, Γ', st, en, r, e, k⟩ => by
    unfold tgT at e
    split at e
    · cases r with
      | tup r1 r2 =>
        refine ⟨_, _, rfl, by rw [← hK]; exact r1.sq, ?_, w, Γ, S, _, Γ', st, en, r2, e, k⟩
        rw [← r2.length]
        exact hu _ _ _ e
    · cases e
theorem tgsNil_len {ds : List D} {Γ Γ' : Env} (e : tgsNil ds Γ = some Γ') : ds.length = 0 := by
  unfold tgsNil at e
  split at e
  · rfl
  · cases e
theorem tgsCons_len {t : Tg} {u : List D → Env → Option Env} {n : Nat} (hu : ∀ ds Γ Γ', u ds Γ = some Γ' → ds.length = n) {ds : List D} {Γ Γ' : Env} (e : tgsCons t u ds Γ = some Γ') : ds.length = n + 1 := by
  unfold tgsCons at e
  split at e
  · rename_i x rr
    cases e1 : t x Γ with
    | none => rw [e1] at e; cases e
    | some Γ1 =>
      rw [e1] at e
      exact congrArg (· + 1) (hu _ _ _ e)
  · cases e
end

/-! ### comprehensions -/
def wipeE (Γ : Env) : List Nat → Env
  | [] => Γ
  | v :: vs => (wipeE Γ vs).set v none
def noX {α : Type} : R α → R α
  | .exc _ _ _ => .bad
  | r => r
def tYesD : Env → Store → R Bool := fun _ S => .ok true S
def lcY (y : Val) (k : R (List D)) : R (List D) := match y with
  | .d d => k.bind fun ds S => .ok (d :: ds) S
  | .cell _ => .bad
def lcD (tg : Tg) (test : Env → Store → R Bool) (elt : Ev) (Γ : Env) : List D → Store → R (List D)
  | [], S => .ok [] S
  | x :: r, S => match tg x Γ with
    | none => .bad
    | some Γ1 => (noX (test Γ1 S)).bind fun b S1 => if b = true then (noX (elt Γ1 S1)).bind fun y S2 => lcY y (lcD tg test elt Γ r S2) else lcD tg test elt Γ r S1
def eLc (it : Env → Store → R (List D)) (vs : List Nat) (tg : Tg) (test : Env → Store → R Bool) (elt : Ev) : Ev := fun Γ S => (it Γ S).bind fun ds S1 =>
  if ds.length ≤ cap then (noX (lcD tg test elt (wipeE Γ vs) ds S1)).bind fun es S2 => .ok (.d (.lst es)) S2 else .bad
abbrev W0 : WX := fun _ _ _ _ => False
section
variable {g : Gx} {w : Wd} {H : Hp}
theorem EnvOk.wipe {Γ : Env} {σ : St} (en : EnvOk g w Γ σ H) : ∀ vs : List Nat, EnvOk g w (wipeE Γ vs) (wipe σ vs) H
  | [] => en
  | v :: vs => (EnvOk.wipe en vs).drop1 v none
theorem wipe_get (σ : St) : ∀ (vs : List Nat) (i : Nat), (wipe σ vs)[i]? = if i ∈ vs ∧ i < σ.length then some none else σ[i]?
  | [], i => by simp [L2.wipe]
  | v :: vs, i => by
    show ((wipe σ vs).set v none)[i]? = _
    rw [List.getElem?_set, wipe_length, wipe_get σ vs i]
    by_cases h : v = i
    · subst h
      by_cases h2 : v < σ.length
      · simp [h2]
      · simp [h2]
    · have h' : ¬ i = v := fun z => h z.symm
      simp [h, h']
theorem wipe_ext {σ σ' : St} {vs : List Nat} (l : σ'.length = σ.length) (h : ∀ i, i ∉ vs → σ'[i]? = σ[i]?) : wipe σ' vs = wipe σ vs := by
  apply List.ext_getElem?
  intro i
  rw [wipe_get, wipe_get, l]
  by_cases hi : i ∈ vs
  · by_cases h2 : i < σ.length
    · simp [hi, h2]
    · rw [if_neg fun z => h2 z.2, if_neg fun z => h2 z.2, List.getElem?_eq_none (by omega), List.getElem?_eq_none (by omega)]
  · simp [hi, h i hi]
theorem wipe_wipe (σ : St) (vs : List Nat) : wipe (wipe σ vs) vs = wipe σ vs := by
  apply List.ext_getElem?
  intro i
  rw [wipe_get, wipe_get, wipe_length]
  split <;> rfl
theorem noX_ok {α : Type} {r : R α} {x : α} {S : Store} (h : noX r = .ok x S) : r = .ok x S := by
  cases r <;> first | exact h | cases h
end
/-- how far a comprehension has come -/
structure LcAt (g : Gx) (tg : Tg) (test : Env → Store → R Bool) (elt : Ev) (Γw : Env) (ds all : List D) (Sf : Store) (w1 : Wd) (H1 : Hp) (Dd : Addr) (i m : Nat) (Hc : Hp) : Prop where
  im : i + m = ds.length
  at_ : ∃ w S es rest vs, StOk g w S Hc ∧ Stq w1 H1 w Hc ∧ w.hid = Dd :: w1.hid ∧ Hc Dd = some (.lst vs) ∧ RepL g w Hc es vs ∧ es.length ≤ i ∧ lcD tg test elt Γw (ds.drop i) S = .ok rest Sf ∧ all = es ++ rest
theorem lc_q {g : Gx} {W : WX} {it : Env → Store → R (List D)} {vs sl : List Nat} {tg : Tg} {test : Env → Store → R Bool} {elt : Ev} {σ : St} {H : Hp} {Q : VK} (hsl : ∀ i ∈ sl, i ∈ vs) (h : tN g W (eLc it vs tg test elt) σ H Q) :
    tLc (tI g W it) (tG g sl tg) (tT g W0 test) (tE g W0 elt) vs σ H Q := by
  obtain ⟨w, Γ, S, st, en, h⟩ := h
  refine tX_seqN st en h fun J H1 ds S1 w1 s1 st1 en1 it1 h1 => ?_
  by_cases hz : ds.length ≤ cap
  · rw [if_pos hz] at h1
    cases hl : lcD tg test elt (wipeE Γ vs) ds S1 with
    | ok all Sf =>
      rw [hl] at h1
      intro Dd hD
      have q0 : Stq w1 H1 ⟨w1.m, Dd :: w1.hid⟩ (upd H1 Dd (.lst [])) := ⟨le_newH st1 hD, rfl, fun _ _ e => e⟩
      refine ⟨LcAt g tg test elt (wipeE Γ vs) ds all Sf w1 H1 Dd, ⟨ds.length, by simp, ⟨w1.m, Dd :: w1.hid⟩, S1, [], all, [], st1.newH hD, q0, rfl, upd_same, .nil, Nat.zero_le _, hl, rfl⟩, ?_⟩
      rintro i m Hc ⟨im, w2, S2, es, rest, us, st2, q2, hid2, hDc, l2, le2, hl2, hall⟩
      obtain ⟨go, stop⟩ := it1 w2 S2 Hc st2 q2.le
      by_cases hi : i < ds.length
      · refine .inr ⟨(go i hi).1, LcAt g tg test elt (wipeE Γ vs) ds all Sf w1 H1 Dd (i + 1) (m - 1), fun H' q => ⟨m - 1, by omega, q⟩, fun x H' y => ?_⟩
        obtain ⟨sy, sty, ry⟩ := (go i hi).2 x H' y
        have ed : ds[i]? = some ds[i] := List.getElem?_eq_getElem hi
        have rx := ry _ ed
        rw [List.drop_eq_getElem_cons hi] at hl2
        unfold lcD at hl2
        have qy := q2.stp sy (by rw [hid2]; exact fun a z => List.mem_cons_of_mem _ z)
        have enw : EnvOk g w2 (wipeE Γ vs) (wipe σ vs) H' := (en1.stq qy).wipe vs
        have memD : Dd ∈ w2.hid := by rw [hid2]; exact List.mem_cons_self
        cases et : tg ds[i] (wipeE Γ vs) with
        | none => rw [et] at hl2; cases hl2
        | some Γ1 =>
          rw [et] at hl2
          have hl2 : (noX (test Γ1 S2)).bind _ = R.ok rest Sf := hl2
          refine ⟨w2, wipeE Γ vs, S2, ds[i], Γ1, sty, enw, rx, et, fun σ2 en2 ln2 k2 => ⟨?_, ?_⟩⟩
          · rw [wipe_ext (σ := wipe σ vs) ln2 fun j hj => k2 j fun z => hj (hsl j z)]
            exact wipe_wipe σ vs
          · cases eb : noX (test Γ1 S2) with
            | exc c z S3 => rw [eb] at hl2; cases hl2
            | bad => rw [eb] at hl2; cases hl2
            | ok b S3 =>
              have hl2 : (if b = true then (noX (elt Γ1 S3)).bind (fun y S2 => lcY y (lcD tg test elt (wipeE Γ vs) (List.drop (i + 1) ds) S2)) else lcD tg test elt (wipeE Γ vs) (List.drop (i + 1) ds) S3) = R.ok rest Sf := by rw [eb] at hl2; exact hl2
              refine ⟨w2, Γ1, S2, sty, en2, ?_⟩
              rw [noX_ok eb]
              intro b' w3 H3 s3 st3 e3
              subst e3
              have hD3 : H3 Dd = some (.lst us) := by rw [s3.le.hk Dd memD, sy.le.hk Dd memD]; exact hDc
              have q3 := qy.stp s3 (by rw [hid2]; exact fun a z => List.mem_cons_of_mem _ z)
              have l3 : RepL g w3 H3 es us := RepL.le s3.le (RepL.le sy.le l2)
              have hid3 : w3.hid = Dd :: w1.hid := s3.hid.trans hid2
              cases b with
              | false =>
                exact ⟨by omega, w3, S3, es, rest, us, st3, q3, hid3, hD3, l3, by omega, hl2, hall⟩
              | true =>
                have hl2 : (noX (elt Γ1 S3)).bind (fun y S2 => lcY y (lcD tg test elt (wipeE Γ vs) (List.drop (i + 1) ds) S2)) = R.ok rest Sf := hl2
                cases ey : noX (elt Γ1 S3) with
                | exc c z S4 => rw [ey] at hl2; cases hl2
                | bad => rw [ey] at hl2; cases hl2
                | ok y S4 =>
                  rw [ey] at hl2
                  refine ⟨w3, Γ1, S3, st3, en2.step s3, ?_⟩
                  rw [noX_ok ey]
                  intro v w4 H4 s4 st4 r4
                  have memD3 : Dd ∈ w3.hid := by rw [hid3]; exact List.mem_cons_self
                  have hD4 : H4 Dd = some (.lst us) := by rw [s4.le.hk Dd memD3]; exact hD3
                  have q4 := q3.stp s4 (by rw [hid3]; exact fun a z => List.mem_cons_of_mem _ z)
                  have l4 : RepL g w4 H4 es us := RepL.le s4.le l3
                  have hid4 : w4.hid = Dd :: w1.hid := s4.hid.trans hid3
                  have memD4 : Dd ∈ w4.hid := by rw [hid4]; exact List.mem_cons_self
                  cases y with
                  | cell k => cases hl2
                  | d d =>
                    have hl2 : (lcD tg test elt (wipeE Γ vs) (ds.drop (i + 1)) S4).bind (fun ds S => .ok (d :: ds) S) = R.ok rest Sf := hl2
                    cases el : lcD tg test elt (wipeE Γ vs) (ds.drop (i + 1)) S4 with
                    | exc c z S5 => rw [el] at hl2; cases hl2
                    | bad => rw [el] at hl2; cases hl2
                    | ok rest' S5 =>
                      rw [el] at hl2
                      cases hl2
                      refine ⟨us, hD4, ?_, by omega, w4, S4, es ++ [d], rest', us ++ [v], st4.mutH memD4, ?_, hid4, upd_same, RepL.mut (.inr memD4) (l4.append (.cons r4 .nil)), ?_, el, ?_⟩
                      · have := l4.length
                        have hc := cap_le hz
                        omega
                      · refine ⟨⟨q4.le.av, fun a o e zz n => ?_, fun a e => ?_, fun a z => ?_⟩, q4.len, q4.old⟩
                        · rw [upd_ne (ne_of_none e hD)]
                          exact q4.le.keepN a o e zz n
                        · unfold upd
                          split
                          · exact fun z => by cases z
                          · exact q4.le.trk a e
                        · rw [upd_ne fun q => (st1.hid a z).2 (by rw [q]; exact hD)]
                          exact q4.le.hk a z
                      · rw [List.length_append, List.length_singleton]
                        omega
                      · rw [hall]
                        simp
      · have ei : i = ds.length := by omega
        subst ei
        refine .inl ⟨stop, ?_⟩
        rw [List.drop_of_length_le (Nat.le_refl _)] at hl2
        cases hl2
        rw [List.append_nil] at hall
        subst hall
        exact h1 Dd us w2 Hc ⟨q2, hid2, hD⟩ st2 hDc l2
    | exc c z S2 =>
      rw [hl] at h1
      exact h1.elim
    | bad =>
      rw [hl] at h1
      exact h1.elim
  · rw [if_neg hz] at h1
    exact h1.elim
end Pd

namespace Pd
open PySem L2

/-! ### comprehensions, lists: as new lists and as values -/
section
variable {X : Cx} {g : Gx} {W : WX} {a b c : Expr} {ea eb ec : Ev} {pos : Pos} {es : List Expr} {er : Env → Store → R (List Val)}
theorem ts_nil : PTs X [] (tT g W tYesD) := pts_nil' where
  pts_nil' : PTs X [] (tT g W tYesD) := ⟨fun pins s σ H Q I ⟨w, Γ, S, st, en, h⟩ => pts_nil.run pins s σ H Q I (RQ.okQ h st rfl)⟩
theorem ts_one (h : PT X c (tT g W (eTest ec))) : PTs X [c] (tT g W (eTest ec)) := pts_one h
theorem p_lcN {elt tg iter : Expr} {ifs : List Expr} {scope : Scope} {own : List (Str × Nat)} {it : Env → Store → R (List D)} {sl : List Nat} {tgd : Tg} {test : Env → Store → R Bool} {el : Ev} (hc : X.calm = true) (hN : X.N.Nodup) (hi : PI X tg iter (tI g W it)) (ok : BlkOk X.N X.env.scope scope own)
    (hg : ∀ (s : Shared) (H : Hp) (C : Addr) (cl : List (Str × Addr)) (fp : List Addr), PG (X.blk s H scope (compEnvC scope cl C X.env) fp) tg (tG g sl tgd)) (ht : ∀ (s : Shared) (H : Hp) (C : Addr) (cl : List (Str × Addr)) (fp : List Addr), PTs (X.blk s H scope (compEnvC scope cl C X.env) fp) ifs (tT g W0 test))
    (he : ∀ (s : Shared) (H : Hp) (C : Addr) (cl : List (Str × Addr)) (fp : List Addr), PE (X.blk s H scope (compEnvC scope cl C X.env) fp) elt (tE g W0 el)) (hsl : ∀ i ∈ sl, i ∈ own.map (·.2)) (hs : ∀ x, foldedSetIterable iter X.env x = pure x := by intro _; rfl) :
    PE X (.ListComp elt [⟨tg, iter, ifs, 0⟩] scope pos) (tN g W (eLc it (own.map (·.2)) tgd test el)) := (pe_lc hc hN hi ok hg ht he hs).imp fun σ H Q h => lc_q hsl h
theorem eLc_lst {it : Env → Store → R (List D)} {vs : List Nat} {tg : Tg} {test : Env → Store → R Bool} {elt : Ev} (Γ : Env) (S : Store) (x : Val) (S' : Store) (h : eLc it vs tg test elt Γ S = .ok x S') : ∃ ds, x = .d (.lst ds) := by
  unfold eLc at h
  cases e : it Γ S with
  | exc c z S1 => rw [e] at h; cases h
  | bad => rw [e] at h; cases h
  | ok ds S1 =>
    rw [e] at h
    have h : (if ds.length ≤ cap then (noX (lcD tg test elt (wipeE Γ vs) ds S1)).bind fun es S2 => R.ok (Val.d (.lst es)) S2 else .bad) = .ok x S' := h
    split at h
    · cases e2 : noX (lcD tg test elt (wipeE Γ vs) ds S1) with
      | exc c z S1 => rw [e2] at h; cases h
      | bad => rw [e2] at h; cases h
      | ok es S2 =>
        rw [e2] at h
        cases h
        exact ⟨es, rfl⟩
    · cases h
theorem p_lc {elt tg iter : Expr} {ifs : List Expr} {scope : Scope} {own : List (Str × Nat)} {it : Env → Store → R (List D)} {sl : List Nat} {tgd : Tg} {test : Env → Store → R Bool} {el : Ev} (hc : X.calm = true) (hN : X.N.Nodup) (hi : PI X tg iter (tI g W it)) (ok : BlkOk X.N X.env.scope scope own)
    (hg : ∀ (s : Shared) (H : Hp) (C : Addr) (cl : List (Str × Addr)) (fp : List Addr), PG (X.blk s H scope (compEnvC scope cl C X.env) fp) tg (tG g sl tgd)) (ht : ∀ (s : Shared) (H : Hp) (C : Addr) (cl : List (Str × Addr)) (fp : List Addr), PTs (X.blk s H scope (compEnvC scope cl C X.env) fp) ifs (tT g W0 test))
    (he : ∀ (s : Shared) (H : Hp) (C : Addr) (cl : List (Str × Addr)) (fp : List Addr), PE (X.blk s H scope (compEnvC scope cl C X.env) fp) elt (tE g W0 el)) (hsl : ∀ i ∈ sl, i ∈ own.map (·.2)) (hs : ∀ x, foldedSetIterable iter X.env x = pure x := by intro _; rfl) :
    PE X (.ListComp elt [⟨tg, iter, ifs, 0⟩] scope pos) (tE g W (eLc it (own.map (·.2)) tgd test el)) := (p_lcN hc hN hi ok hg ht he hsl hs).plain eLc_lst
theorem p_lstN (h : PA X es (tA g W er)) : PE X (.List es pos) (tN g W (eCall fLst er)) :=
  (pe_lst h).imp fun σ H Q ⟨w, Γ, S, st, en, h⟩ => tX_seqN st en h fun us H1 xs S1 w1 s1 st1 en1 r1 h1 => by
    unfold fLst at h1
    cases e : clo xs with
    | none => rw [e] at h1; exact h1.elim
    | some ds =>
      rw [e] at h1
      have rl := clo_rep r1 e
      by_cases hz : ds.length ≤ cap
      · simp only [if_pos hz] at h1
        exact ⟨by rw [← rl.length]; exact cap_le hz, fun p hp => RQN.newQ h1 st1 hp rl⟩
      · simp only [if_neg hz] at h1
        exact h1.elim
def fAddL : Val → Val → Store → R Val
  | .d (.lst a), .d (.lst b), S => if a.length + b.length ≤ cap then .ok (.d (.lst (a ++ b))) S else .bad
  | _, _, _ => .bad
def fMulL : Val → Val → Store → R Val
  | .d (.lst a), .d (.int j), S => if j ≤ cap ∧ -cap ≤ j ∧ a.length * j.toNat ≤ cap then .ok (.d (.lst (List.replicate j.toNat a).flatten)) S else .bad
  | _, _, _ => .bad
theorem p_addN (ha : PE X a (tE g W ea)) (hb : PE X b (tE g W eb)) : PE X (.BinOp a .Add b pos) (tN g W (eBin fAddL ea eb)) :=
  (pe_op op_cat ha hb).imp fun σ H Q ⟨w, Γ, S, st, en, h⟩ => tX_seqN st en h fun u H1 x S1 w1 s1 st1 en1 r1 h1 => tX_seqN st1 en1 h1 fun v H2 y S2 w2 s2 st2 en2 r2 h2 => by
    have r1' := r1.step s2
    unfold fAddL at h2
    split at h2
    · split at h2
      · rename_i hz
        cases r1' with
        | lst e1 n1 l1 =>
          cases r2 with
          | lst e2 n2 l2 => exact ⟨_, _, _, _, rfl, rfl, e1, e2, by rw [← l1.length, ← l2.length]; exact cap_le hz, fun p hp => RQN.newQ h2 st2 hp (l1.append l2)⟩
      · exact h2.elim
    · exact h2.elim
theorem p_mulN (ha : PE X a (tE g W ea)) (hb : PE X b (tE g W eb)) : PE X (.BinOp a .Mult b pos) (tN g W (eBin fMulL ea eb)) :=
  (pe_op op_rep ha hb).imp fun σ H Q ⟨w, Γ, S, st, en, h⟩ => tX_seqN st en h fun u H1 x S1 w1 s1 st1 en1 r1 h1 => tX_seqN st1 en1 h1 fun v H2 y S2 w2 s2 st2 en2 r2 h2 => by
    have r1' := r1.step s2
    unfold fMulL at h2
    split at h2
    · split at h2
      · rename_i hz
        cases r1' with
        | lst e1 n1 l1 =>
          cases r2
          have hc : ((cap : Nat) : Int) = 1000000 := rfl
          exact ⟨_, _, _, rfl, rfl, e1, by omega, by omega, by rw [← l1.length]; exact cap_le hz.2.2, fun p hp => RQN.newQ h2 st2 hp l1.flatten⟩
      · exact h2.elim
    · exact h2.elim
theorem p_ifN (hc : PT X c (tT g W (eTest ec))) (ha : PE X a (tN g W ea)) (hb : PE X b (tN g W eb)) : PE X (.IfExp c a b pos) (tN g W (eIf ec ea eb)) :=
  (pe_ifExp hc ha hb).imp fun σ H Q ⟨w, Γ, S, st, en, h⟩ => by
    refine tX_seqN st en h fun u H1 x S1 w1 s1 st1 en1 r1 h1 => ?_
    cases r1
    cases u with
    | true => exact ⟨w1, Γ, S1, st1, en1, h1⟩
    | false => exact ⟨w1, Γ, S1, st1, en1, h1⟩
theorem p_listN {p : Pos} (hK : g.K = X.K) (hg : Gl X "list") (hm : X.mg "list" = none) (ha : PE X a (tE g W ea)) (he : starEach [a] X.env = (false, eval a X.env) :: starEach [] X.env := by rfl) (hpl : (backTo pos (starEach [] X.env)).any (·.1) = false := by rfl) :
    PE X (.Call (.Name "list" p) [a] [] pos) (tN g W (eUn fList ea)) :=
  (pe_callTy call_list_of hg hm (by decide +kernel) (pa_cons ha pa_nil he) (by decide) (by decide) he hpl).imp fun σ H Q ⟨w, Γ, S, st, en, h⟩ => tX_seqN st en h fun u H1 y S1 w1 s1 st1 en1 r1 q => by
    rw [← hK]
    unfold fList at q
    split at q
    · rename_i ds e
      obtain ⟨a, vs, rfl, h1, l⟩ := rd_lst st1 r1 e
      exact ⟨a, vs, rfl, .inl (.inl (.inl h1)), fun p hp => RQN.newQ q st1 hp l⟩
    · rename_i ds e
      obtain ⟨a, vs, rfl, h1, l⟩ := rd_tup r1 e
      exact ⟨a, vs, rfl, .inr h1.sq, fun p hp => RQN.newQ q st1 hp l⟩
    · exact q.elim
end

/-! ### statements -/
structure Fr (w0 : Wd) (H0 : Hp) (w : Wd) (H : Hp) (h : List Addr) : Prop where
  le : Le w0 H0 w H
  hid : w.hid = h
  len : w0.m.length ≤ w.m.length
  old : ∀ (k : Nat) (a : Addr), k < w0.m.length → w.m[k]? = some (some a) → w0.m[k]? = some (some a)
  new : ∀ (k : Nat) (a : Addr), w0.m.length ≤ k → w.m[k]? = some (some a) → H0 a = none
/-- the frame of a def: what stands at its entry; N: it hands back a new list -/
structure Cf where
  g : Gx
  W : WX
  w0 : Wd
  H0 : Hp
  N : Bool
abbrev Cf.fr (cf : Cf) (w : Wd) (H : Hp) : Prop := Fr cf.w0 cf.H0 w H cf.w0.hid
def RtP (cf : Cf) (w : Wd) (H : Hp) (x : Val) (S' : Store) (Q : VK) : Prop := ∀ v w' H', Le w H w' H' → cf.fr w' H' → StOk cf.g w' S' H' → RepV cf.g w' H' x v → Q v H'
def RtN (cf : Cf) (w : Wd) (H : Hp) (x : Val) (S' : Store) (Q : VK) : Prop := match x with
  | .d (.lst ds) => ∀ p vs w' H', Le w H w' H' → Fr cf.w0 cf.H0 w' H' (p :: cf.w0.hid) → cf.H0 p = none → StOk cf.g w' S' H' → H' p = some (.lst vs) → RepL cf.g w' H' ds vs → Q (.ref p) H'
  | _ => False
def FQ (cf : Cf) (w : Wd) (H : Hp) (f : F) (D : Ends) : Prop := match f with
  | .nx Γ' S' => ∀ σ' w' H', Le w H w' H' → cf.fr w' H' → StOk cf.g w' S' H' → EnvOk cf.g w' Γ' σ' H' → D.nx σ' H'
  | .rt x S' => if cf.N = true then RtN cf w H x S' D.rt else RtP cf w H x S' D.rt
  | .bk Γ' S' => ∀ σ' w' H', Le w H w' H' → cf.fr w' H' → StOk cf.g w' S' H' → EnvOk cf.g w' Γ' σ' H' → D.bk σ' H'
  | .ct Γ' S' => ∀ σ' w' H', Le w H w' H' → cf.fr w' H' → StOk cf.g w' S' H' → EnvOk cf.g w' Γ' σ' H' → D.ct σ' H'
  | .exc c x Γ' S' => ∀ σ' cls dx w' H', Le w H w' H' → cf.fr w' H' → StOk cf.g w' S' H' → EnvOk cf.g w' Γ' σ' H' → ExcRep cf.g w' H' c x cls dx → cf.W cls dx σ' H'
  | .bad => False
def tS (cf : Cf) (st : Sv) : TS := fun D σ H => ∃ w Γ S, StOk cf.g w S H ∧ EnvOk cf.g w Γ σ H ∧ cf.fr w H ∧ FQ cf w H (st Γ S) D
def R.fl {α : Type} (Γ : Env) : R α → (α → Store → F) → F
  | .ok a S, k => k a S
  | .exc c x S, _ => .exc c x Γ S
  | .bad, _ => .bad
section
variable {cf : Cf} {w w1 : Wd} {H H1 : Hp} {σ : St}
theorem Fr.stp (f : cf.fr w H) (s : Stp w H w1 H1) : cf.fr w1 H1 :=
  ⟨f.le.trans s.le (by rw [f.hid]; exact fun _ h => h), s.hid.trans f.hid, by rw [s.len]; exact f.len, fun k a h e => f.old k a h (s.old k a e), fun k a h e => f.new k a h (s.old k a e)⟩
theorem FQ.to {f : F} {D : Ends} (h : FQ cf w H f D) (s : Le w H w1 H1) (hh : ∀ a ∈ w.hid, a ∈ w1.hid) : FQ cf w1 H1 f D := by
  cases f with
  | nx Γ S => exact fun σ' w' H' l => h σ' w' H' (s.trans l hh)
  | bk Γ S => exact fun σ' w' H' l => h σ' w' H' (s.trans l hh)
  | ct Γ S => exact fun σ' w' H' l => h σ' w' H' (s.trans l hh)
  | exc c x Γ S => exact fun σ' cls dx w' H' l => h σ' cls dx w' H' (s.trans l hh)
  | bad => exact h
  | rt x S =>
    have h : (if cf.N = true then RtN cf w H x S D.rt else RtP cf w H x S D.rt) := h
    show (if cf.N = true then RtN cf w1 H1 x S D.rt else RtP cf w1 H1 x S D.rt)
    by_cases hn : cf.N = true
    · rw [if_pos hn] at h ⊢
      cases x with
      | cell k => exact h
      | d x =>
        cases x with
        | lst ds => exact fun p vs w' H' l => h p vs w' H' (s.trans l hh)
        | _ => exact h
    · rw [if_neg hn] at h ⊢
      exact fun v w' H' l => h v w' H' (s.trans l hh)
theorem tX_fl {α β : Type} {ρ : Wd → Hp → α → β → Prop} {Γ : Env} {S : Store} {ea : Env → Store → R α} {k : α → Store → F} {D : Ends} (st : StOk cf.g w S H) (en : EnvOk cf.g w Γ σ H) (fr : cf.fr w H) (h : FQ cf w H ((ea Γ S).fl Γ k) D) {P : β → Hp → Prop}
    (hP : ∀ v H1 x S1 w1, Stp w H w1 H1 → StOk cf.g w1 S1 H1 → EnvOk cf.g w1 Γ σ H1 → cf.fr w1 H1 → ρ w1 H1 x v → FQ cf w1 H1 (k x S1) D → P v H1) : tX cf.g cf.W ρ ea σ H P := by
  refine ⟨w, Γ, S, st, en, ?_⟩
  cases e : ea Γ S with
  | ok x S1 =>
    rw [e] at h
    exact fun v w' H' s st' r => hP v H' x S1 w' s st' (en.step s) (fr.stp s) r (FQ.to (f := k x S1) h s.le (by rw [s.hid]; exact fun _ z => z))
  | exc c x S1 =>
    rw [e] at h
    exact fun cls dx w' H' s st' r => h σ cls dx w' H' s.le (fr.stp s) st' (en.step s) r
  | bad =>
    rw [e] at h
    exact h
theorem FQ.nxQ {Γ : Env} {S : Store} {D : Ends} (h : FQ cf w H (.nx Γ S) D) (st : StOk cf.g w S H) (en : EnvOk cf.g w Γ σ H) (fr : cf.fr w H) : D.nx σ H := h σ w H (.refl w H) fr st en
end
def sNil : Sv := fun Γ S => .nx Γ S
def sSeq (a b : Sv) : Sv := fun Γ S => match a Γ S with
  | .nx Γ1 S1 => b Γ1 S1
  | f => f
def sEx (a : Ev) : Sv := fun Γ S => (a Γ S).fl Γ fun _ S1 => .nx Γ S1
def sRet (a : Ev) : Sv := fun Γ S => (a Γ S).fl Γ fun x S1 => .rt x S1
def sRetN : Sv := fun _ S => .rt (.d .non) S
def sAsg (i : Nat) (a : Ev) : Sv := fun Γ S => (a Γ S).fl Γ fun x S1 => .nx (Γ.set i (some x)) S1
/-- name = a new list, from here on an object of the store -/
def sNew (i : Nat) (a : Ev) : Sv := fun Γ S => (a Γ S).fl Γ fun x S1 => match x with | .d (.lst ds) => .nx (Γ.set i (some (.cell S1.length))) (S1 ++ [some (.lst ds)]) | _ => .bad
def sIf (t : Ev) (a b : Sv) : Sv := fun Γ S => (eTest t Γ S).fl Γ fun x S1 => if x = true then a Γ S1 else b Γ S1
def sAsgT (tg : Tg) (a : Ev) : Sv := fun Γ S => (a Γ S).fl Γ fun x S1 => match x with | .d d => (match tg d Γ with | some Γ' => .nx Γ' S1 | none => .bad) | _ => .bad
/-- a, b = x, y -/
def sPar (i j : Nat) (a b : Ev) : Sv := fun Γ S => (a Γ S).fl Γ fun x S1 => (b Γ S1).fl Γ fun y S2 => .nx ((Γ.set i (some x)).set j (some y)) S2
def keepB (k : Nat) : Option Val → Option Val
  | some (.cell j) => if j < k then some (.cell j) else none
  | o => o
/-- the object of a name becomes a value (no statement of the text) -/
def sFrz (n0 i : Nat) : Sv := fun Γ S => match Γ[i]? with
  | some (some (.cell k)) => match S[k]? with
    | some (some (.lst ds)) => if n0 ≤ k then (if k + 1 = S.length then .nx ((Γ.set i (some (.d (.lst ds)))).map (keepB k)) (S.take k) else .nx (Γ.set i (some (.d (.lst ds)))) (S.set k none)) else .bad
    | _ => .bad
  | _ => .bad
/-- return name, its object being of this call -/
def sRetC (n0 i : Nat) : Sv := fun Γ S => match Γ[i]? with
  | some (some (.cell k)) => match S[k]? with
    | some (some (.lst ds)) => if n0 ≤ k then .rt (.d (.lst ds)) (S.set k none) else .bad
    | _ => .bad
  | _ => .bad
def sNever : Sv := fun _ _ => .bad
def sBrk : Sv := fun Γ S => .bk Γ S
def sCont : Sv := fun Γ S => .ct Γ S
def F.lp (f : F) (k : Sv) : F := match f with
  | .nx Γ S => k Γ S
  | .ct Γ S => k Γ S
  | .bk Γ S => .nx Γ S
  | f => f
def forD (tg : Tg) (body : Sv) : List D → Sv
  | [], Γ, S => .nx Γ S
  | x :: r, Γ, S => match tg x Γ with
    | none => .bad
    | some Γ1 => (body Γ1 S).lp (forD tg body r)
def sFor (it : Env → Store → R (List D)) (tg : Tg) (body : Sv) : Sv := fun Γ S => (it Γ S).fl Γ fun ds S1 => forD tg body ds Γ S1
def whD (t : Ev) (body : Sv) : Nat → Sv
  | 0, _, _ => .bad
  | n + 1, Γ, S => (eTest t Γ S).fl Γ fun x S1 => if x = true then (body Γ S1).lp (whD t body n) else .nx Γ S1

section
variable {X : Cx} {cf : Cf} {a b c : Expr} {ea eb ec : Ev} {pos p2 : Pos} {st : Stmt} {rest : List Stmt} {sa sb : Sv}
theorem ss_nil : PSs X [] (tS cf sNil) := pss_nil.imp fun D σ H ⟨w, Γ, S, st, en, fr, h⟩ => FQ.nxQ h st en fr
theorem ss_cons (h1 : PS X st (tS cf sa)) (h2 : PSs X rest (tS cf sb)) : PSs X (st :: rest) (tS cf (sSeq sa sb)) :=
  (pss_cons h1 h2).imp fun D σ H ⟨w, Γ, S, st, en, fr, h⟩ => by
    refine ⟨w, Γ, S, st, en, fr, ?_⟩
    unfold sSeq at h
    cases e : sa Γ S with
    | nx Γ1 S1 =>
      rw [e] at h
      exact fun σ' w' H' l f s en' => ⟨w', Γ1, S1, s, en', f, FQ.to h l (by rw [f.hid, fr.hid]; exact fun _ z => z)⟩
    | bk Γ1 S1 => rw [e] at h; exact h
    | ct Γ1 S1 => rw [e] at h; exact h
    | rt x S1 => rw [e] at h; exact h
    | exc c x Γ1 S1 => rw [e] at h; exact h
    | bad => rw [e] at h; exact h
theorem ss_one (h1 : PS X st (tS cf sa)) : PSs X [st] (tS cf sa) := pss_one h1
theorem s_pass : PS X (.Pass pos) (tS cf sNil) := ps_pass.imp fun D σ H ⟨w, Γ, S, st, en, fr, h⟩ => FQ.nxQ h st en fr
theorem s_never : PS X st (tS cf sNever) := ps_never.imp fun D σ H ⟨w, Γ, S, st, en, fr, h⟩ => h.elim
theorem ss_never : PSs X rest (tS cf sNever) := pss_never.imp fun D σ H ⟨w, Γ, S, st, en, fr, h⟩ => h.elim
theorem s_brk : PS X (.Break pos) (tS cf sBrk) := ps_break.imp fun D σ H ⟨w, Γ, S, st, en, fr, h⟩ => h σ w H (.refl w H) fr st en
theorem s_cont : PS X (.Continue pos) (tS cf sCont) := ps_continue.imp fun D σ H ⟨w, Γ, S, st, en, fr, h⟩ => h σ w H (.refl w H) fr st en
theorem s_ex (ha : PE X a (tE cf.g cf.W ea)) (hs : swapsWith a none pos.line X.env = pure false := by rfl) : PS X (.Expr a pos) (tS cf (sEx ea)) :=
  (ps_expr ha hs).imp fun D σ H ⟨w, Γ, S, st, en, fr, h⟩ => tX_fl st en fr h fun u H1 x S1 w1 s1 st1 en1 fr1 r1 h1 => FQ.nxQ h1 st1 en1 fr1
theorem s_ret (hN : cf.N = false) (ha : PE X a (tE cf.g cf.W ea)) : PS X (.Return (some a) pos) (tS cf (sRet ea)) :=
  (ps_ret ha).imp fun D σ H ⟨w, Γ, S, st, en, fr, h⟩ => tX_fl st en fr h fun u H1 x S1 w1 s1 st1 en1 fr1 r1 h1 => by
    have h1 : (if cf.N = true then RtN cf w1 H1 x S1 D.rt else RtP cf w1 H1 x S1 D.rt) := h1
    rw [if_neg (by rw [hN]; exact Bool.false_ne_true)] at h1
    exact h1 u w1 H1 (.refl w1 H1) fr1 st1 r1
theorem s_retN (hN : cf.N = false) : PS X (.Return none pos) (tS cf sRetN) := ps_retN.imp fun D σ H ⟨w, Γ, S, st, en, fr, h⟩ => by
  have h : (if cf.N = true then RtN cf w H (.d .non) S D.rt else RtP cf w H (.d .non) S D.rt) := h
  rw [if_neg (by rw [hN]; exact Bool.false_ne_true)] at h
  exact h .non w H (.refl w H) fr st .non
theorem s_asg {i : Nat} {x : Str} {pos' : Pos} (hN : X.N.Nodup) (hi : X.N[i]? = some x) (hx : Loc X.env.scope x) (ha : PE X a (tE cf.g cf.W ea)) (hs : swapsWith a (some (.Name x pos')) pos.line X.env = pure false := by rfl) (hf : X.fn x = true ∨ X.env.scope.names.lookup x = some .local := by first | exact .inl rfl | exact .inr rfl | assumption) :
    PS X (.Assign [.Name x pos'] a pos) (tS cf (sAsg i ea)) :=
  (ps_set hN hi hx ha hs hf).imp fun D σ H ⟨w, Γ, S, st, en, fr, h⟩ => tX_fl st en fr h fun u H1 x S1 w1 s1 st1 en1 fr1 r1 h1 => FQ.nxQ h1 st1 (en1.set i r1) fr1
theorem s_if (hc : PT X c (tT cf.g cf.W (eTest ec))) {A B : List Stmt} (ha : PSs X A (tS cf sa)) (hb : PSs X B (tS cf sb)) : PS X (.If c A B pos) (tS cf (sIf ec sa sb)) :=
  (ps_if hc ha hb).imp fun D σ H ⟨w, Γ, S, st, en, fr, h⟩ => tX_fl st en fr h fun u H1 x S1 w1 s1 st1 en1 fr1 r1 h1 => by
    cases r1
    cases u with
    | true => exact ⟨w1, Γ, S1, st1, en1, fr1, h1⟩
    | false => exact ⟨w1, Γ, S1, st1, en1, fr1, h1⟩
theorem s_asgT {tg : Expr} {sl : List Nat} {t : Tg} (ha : PE X a (tE cf.g cf.W ea)) (ht : PG X tg (tG cf.g sl t)) (hs : swapsWithSole [tg] a pos.line X.env = pure false := by rfl) (hw : swappedStores [tg] a X.env = pure none := by rfl)
    (h1 : (assignEach [tg] X.env).map (·.2) = [assign tg X.env] := by rfl) : PS X (.Assign [tg] a pos) (tS cf (sAsgT t ea)) :=
  (ps_asg ha ht hs hw h1).imp fun D σ H ⟨w, Γ, S, st, en, fr, h⟩ => tX_fl st en fr h fun u H1 x S1 w1 s1 st1 en1 fr1 r1 h1 => by
    cases x with
    | cell k => exact h1.elim
    | d d =>
      have h1 : FQ cf w1 H1 (match t d Γ with | some Γ' => .nx Γ' S1 | none => .bad) D := h1
      cases e : t d Γ with
      | none => rw [e] at h1; exact h1.elim
      | some Γ' =>
        rw [e] at h1
        exact ⟨w1, Γ, S1, d, Γ', st1, en1, r1, e, fun σ' en' _ _ => FQ.nxQ h1 st1 en' fr1⟩
/-- a loop over what is walked -/
theorem s_for {tg iter : Expr} {it : Env → Store → R (List D)} {sl : List Nat} {t : Tg} {body : List Stmt} (hp : PassesOwn (model X.prog X.w) X.A X.env X.xe) (hcalm : X.calm = true) (hi : PI X tg iter (tI cf.g cf.W it)) (hg : PG X tg (tG cf.g sl t)) (hb : PSs X body (tS cf sa))
    (mk : ∀ {wi : TI} {g : TG} {tb : TS}, PI X tg iter wi → PG X tg g → PSs X body tb → PS X (.For tg iter body [] pos) (tFor wi g tb)) : PS X (.For tg iter body [] pos) (tS cf (sFor it t sa)) :=
  (mk hi hg hb).imp fun D σ H ⟨w, Γ, S, st, en, fr, h⟩ => tX_fl st en fr h fun J H1 ds S1 w1 s1 st1 en1 fr1 it1 h1 => by
    refine ⟨fun i m σ' Hc => i + m = ds.length ∧ ∃ w2 Γ2 S2, StOk cf.g w2 S2 Hc ∧ EnvOk cf.g w2 Γ2 σ' Hc ∧ cf.fr w2 Hc ∧ Le w1 H1 w2 Hc ∧ FQ cf w2 Hc (forD t sa (ds.drop i) Γ2 S2) D, ⟨ds.length, by simp, w1, Γ, S1, st1, en1, fr1, .refl _ _, h1⟩, ?_⟩
    rintro i m σ' Hc ⟨im, w2, Γ2, S2, st2, en2, fr2, le2, h2⟩
    obtain ⟨go, stop⟩ := it1 w2 S2 Hc st2 le2
    by_cases hlt : i < ds.length
    · refine .inr ⟨(go i hlt).1, fun σ' Hc => (i + 1) + (m - 1) = ds.length ∧ ∃ w2 Γ2 S2, StOk cf.g w2 S2 Hc ∧ EnvOk cf.g w2 Γ2 σ' Hc ∧ cf.fr w2 Hc ∧ Le w1 H1 w2 Hc ∧ FQ cf w2 Hc (forD t sa (ds.drop (i + 1)) Γ2 S2) D, fun σ' H' q => ⟨m - 1, by omega, q⟩, fun x H' y => ?_⟩
      obtain ⟨sy, sty, ry⟩ := (go i hlt).2 x H' y
      have ed : ds[i]? = some ds[i] := List.getElem?_eq_getElem hlt
      have h2' := FQ.to h2 sy.le fun _ z => z
      rw [List.drop_eq_getElem_cons hlt] at h2'
      have h2' : FQ cf w2 H' (match t ds[i] Γ2 with | none => .bad | some Γ1 => (sa Γ1 S2).lp (forD t sa (ds.drop (i + 1)))) D := h2'
      cases et : t ds[i] Γ2 with
      | none => rw [et] at h2'; exact h2'.elim
      | some Γ3 =>
        rw [et] at h2'
        have h2' : FQ cf w2 H' ((sa Γ3 S2).lp (forD t sa (ds.drop (i + 1)))) D := h2'
        have fry := fr2.stp sy
        refine ⟨w2, Γ2, S2, ds[i], Γ3, sty, en2.step sy, ry _ ed, et, fun σ3 en3 _ _ => ⟨w2, Γ3, S2, sty, en3, fry, ?_⟩⟩
        have lw : Le w1 H1 w2 H' := le2.trans sy.le (by rw [fr2.hid, fr1.hid]; exact fun _ z => z)
        have nxt : ∀ Γ4 S4, FQ cf w2 H' (forD t sa (ds.drop (i + 1)) Γ4 S4) D → ∀ σ4 w4 H4, Le w2 H' w4 H4 → cf.fr w4 H4 → StOk cf.g w4 S4 H4 → EnvOk cf.g w4 Γ4 σ4 H4 → (i + 1) + (m - 1) = ds.length ∧ ∃ w2 Γ2 S2, StOk cf.g w2 S2 H4 ∧ EnvOk cf.g w2 Γ2 σ4 H4 ∧ cf.fr w2 H4 ∧ Le w1 H1 w2 H4 ∧ FQ cf w2 H4 (forD t sa (ds.drop (i + 1)) Γ2 S2) D :=
          fun Γ4 S4 q σ4 w4 H4 l f s e => ⟨by omega, w4, Γ4, S4, s, e, f, lw.trans l (by rw [fr2.hid, fr1.hid]; exact fun _ z => z), FQ.to q l (by rw [f.hid, fr2.hid]; exact fun _ z => z)⟩
        cases e : sa Γ3 S2 with
        | nx Γ4 S4 => rw [e] at h2'; exact nxt Γ4 S4 h2'
        | ct Γ4 S4 => rw [e] at h2'; exact nxt Γ4 S4 h2'
        | bk Γ4 S4 => rw [e] at h2'; exact h2'
        | rt x S4 => rw [e] at h2'; exact h2'
        | exc c x Γ4 S4 => rw [e] at h2'; exact h2'
        | bad => rw [e] at h2'; exact h2'
    · have ei : i = ds.length := by omega
      subst ei
      rw [List.drop_of_length_le (Nat.le_refl _)] at h2
      exact .inl ⟨stop, FQ.nxQ h2 st2 en2 fr2⟩
theorem s_while {body : List Stmt} (n : Nat) (hp : PassesOwn (model X.prog X.w) X.A X.env X.xe) (hc : PT X c (tT cf.g cf.W (eTest ec))) (hb : PSs X body (tS cf sa)) : PS X (.While c body [] pos) (tS cf (whD ec sa n)) :=
  (ps_while hp hc hb).imp fun D σ H ⟨w, Γ, S, st, en, fr, h⟩ => by
    refine ⟨fun m σ' Hc => ∃ w2 Γ2 S2, StOk cf.g w2 S2 Hc ∧ EnvOk cf.g w2 Γ2 σ' Hc ∧ cf.fr w2 Hc ∧ FQ cf w2 Hc (whD ec sa m Γ2 S2) D, ⟨n, w, Γ, S, st, en, fr, h⟩, ?_⟩
    rintro m σ' Hc ⟨w2, Γ2, S2, st2, en2, fr2, h2⟩
    cases m with
    | zero => exact h2.elim
    | succ m =>
      refine tX_fl st2 en2 fr2 h2 fun u H1 x S1 w1 s1 st1 en1 fr1 r1 h1 => ?_
      cases r1
      cases u with
      | false => exact FQ.nxQ h1 st1 en1 fr1
      | true =>
        have h1 : FQ cf w1 H1 ((sa Γ2 S1).lp (whD ec sa m)) D := h1
        rw [if_pos rfl]
        refine ⟨fun σ' Hc => ∃ w2 Γ2 S2, StOk cf.g w2 S2 Hc ∧ EnvOk cf.g w2 Γ2 σ' Hc ∧ cf.fr w2 Hc ∧ FQ cf w2 Hc (whD ec sa m Γ2 S2) D, fun σ' H' q => ⟨m, Nat.lt_succ_self m, q⟩, w1, Γ2, S1, st1, en1, fr1, ?_⟩
        have nxt : ∀ Γ4 S4, FQ cf w1 H1 (whD ec sa m Γ4 S4) D → ∀ σ4 w4 H4, Le w1 H1 w4 H4 → cf.fr w4 H4 → StOk cf.g w4 S4 H4 → EnvOk cf.g w4 Γ4 σ4 H4 → ∃ w2 Γ2 S2, StOk cf.g w2 S2 H4 ∧ EnvOk cf.g w2 Γ2 σ4 H4 ∧ cf.fr w2 H4 ∧ FQ cf w2 H4 (whD ec sa m Γ2 S2) D :=
          fun Γ4 S4 q σ4 w4 H4 l f s e => ⟨w4, Γ4, S4, s, e, f, FQ.to q l (by rw [f.hid, fr1.hid]; exact fun _ z => z)⟩
        cases e : sa Γ2 S1 with
        | nx Γ4 S4 => rw [e] at h1; exact nxt Γ4 S4 h1
        | ct Γ4 S4 => rw [e] at h1; exact nxt Γ4 S4 h1
        | bk Γ4 S4 => rw [e] at h1; exact h1
        | rt x S4 => rw [e] at h1; exact h1
        | exc c x Γ4 S4 => rw [e] at h1; exact h1
        | bad => rw [e] at h1; exact h1
end
end Pd

namespace Pd
open PySem L2

/-! ### lists of the store -/
section
variable {g : Gx} {w w' : Wd} {H H' : Hp} {S : Store} {p : Addr} {m : List (Option Addr)} {h : List Addr}
/-- a hidden new list becomes an object of the store -/
theorem av_adopt {a : Addr} : (⟨m ++ [some p], h⟩ : Wd).av a ↔ (⟨m, p :: h⟩ : Wd).av a := by
  unfold Wd.av
  simp only [List.mem_append, List.mem_cons, List.not_mem_nil, or_false, Option.some.injEq]
  constructor
  · rintro ((q | q) | q)
    · exact .inl q
    · exact .inr (.inl q)
    · exact .inr (.inr q)
  · rintro (q | (q | q))
    · exact .inl (.inl q)
    · exact .inl (.inr q)
    · exact .inr q
theorem le_adopt : Le ⟨m, p :: h⟩ H ⟨m ++ [some p], h⟩ H := ⟨fun a z => .inl (av_adopt.mp z), fun _ _ e _ _ => e, fun _ e => e, fun _ _ => rfl⟩
theorem StOk.adopt {ds : List D} {vs : List V} (st : StOk g ⟨m, p :: h⟩ S H) (np : p ∉ h) (hp : H p = some (.lst vs)) (l : RepL g ⟨m, p :: h⟩ H ds vs) : StOk g ⟨m ++ [some p], h⟩ (S ++ [some (.lst ds)]) H := by
  have hl : m.length = S.length := st.len
  have pm : some p ∉ m := (st.hid p List.mem_cons_self).1
  have get : ∀ (k : Nat) (a : Addr), (m ++ [some p])[k]? = some (some a) → (k < m.length ∧ m[k]? = some (some a)) ∨ (k = m.length ∧ a = p) := fun k a e => by
    by_cases hk : k < m.length
    · rw [List.getElem?_append_left hk] at e
      exact .inl ⟨hk, e⟩
    · rw [List.getElem?_append_right (by omega)] at e
      cases e2 : k - m.length with
      | zero =>
        rw [e2] at e
        simp at e
        exact .inr ⟨by omega, e.symm⟩
      | succ j =>
        rw [e2] at e
        simp at e
  refine ⟨by simp [hl], fun k c e => ?_, fun k a e => ?_, fun j k a e1 e2 => ?_, fun a z => ⟨fun y => ?_, (st.hid a (List.mem_cons_of_mem _ z)).2⟩⟩
  · by_cases hk : k < S.length
    · rw [List.getElem?_append_left hk] at e
      obtain ⟨a, h1, h2⟩ := st.cell k c e
      exact ⟨a, by rw [List.getElem?_append_left (by omega)]; exact h1, h2.le le_adopt fun _ _ _ q => q⟩
    · rw [List.getElem?_append_right (by omega)] at e
      cases e2 : k - S.length with
      | zero =>
        rw [e2] at e
        have e : some (some (Cell.lst ds)) = some (some c) := e
        cases e
        refine ⟨p, ?_, vs, hp, RepL.le le_adopt l⟩
        rw [List.getElem?_append_right (by omega), hl, e2] <;> rfl
      | succ j =>
        rw [e2] at e
        simp at e
  · rcases get k a e with ⟨hk, e⟩ | ⟨hk, e⟩
    · obtain ⟨c, hc⟩ := st.live k a e
      exact ⟨c, by rw [List.getElem?_append_left (by omega)]; exact hc⟩
    · refine ⟨.lst ds, ?_⟩
      rw [List.getElem?_append_right (by omega), hk, hl, Nat.sub_self] <;> rfl
  · rcases get j a e1 with ⟨hj, f1⟩ | ⟨hj, f1⟩
    · rcases get k a e2 with ⟨hk, f2⟩ | ⟨hk, f2⟩
      · exact st.inj j k a f1 f2
      · rw [f2] at f1
        exact absurd (List.mem_of_getElem? f1) pm
    · rcases get k a e2 with ⟨hk, f2⟩ | ⟨hk, f2⟩
      · rw [f1] at f2
        exact absurd (List.mem_of_getElem? f2) pm
      · omega
  · rcases List.mem_append.mp y with y | y
    · exact (st.hid a (List.mem_cons_of_mem _ z)).1 y
    · have q : a = p := by simpa using y
      exact np (by rw [← q]; exact z)
/-- the k-th object goes: from here on nothing is known of it -/
theorem le_gone {k : Nat} : Le ⟨m, h⟩ H ⟨m.set k none, h⟩ H := le_sub fun a z => z.elim (fun z => by
  rcases List.mem_or_eq_of_mem_set z with z | z
  · exact .inl z
  · cases z) .inr
theorem StOk.gone {k : Nat} (st : StOk g ⟨m, h⟩ S H) : StOk g ⟨m.set k none, h⟩ (S.set k none) H := by
  have hl : m.length = S.length := st.len
  have get : ∀ (j : Nat) (a : Addr), (m.set k none)[j]? = some (some a) → j ≠ k ∧ m[j]? = some (some a) := fun j a e => by
    by_cases hj : k = j
    · subst hj
      rw [List.getElem?_set] at e
      simp at e
    · rw [List.getElem?_set_ne hj] at e
      exact ⟨fun q => hj q.symm, e⟩
  refine ⟨by simp [hl], fun j c e => ?_, fun j a e => ?_, fun j i a e1 e2 => st.inj j i a (get j a e1).2 (get i a e2).2, fun a z => ⟨fun y => ?_, (st.hid a z).2⟩⟩
  · have hj : k ≠ j := fun q => by
      subst q
      rw [List.getElem?_set] at e
      simp at e
    rw [List.getElem?_set_ne hj] at e
    obtain ⟨a, h1, h2⟩ := st.cell j c e
    exact ⟨a, by show (m.set k none)[j]? = _; rw [List.getElem?_set_ne hj]; exact h1, h2.le le_gone fun _ _ _ q => q⟩
  · obtain ⟨hj, e⟩ := get j a e
    obtain ⟨c, hc⟩ := st.live j a e
    exact ⟨c, by rw [List.getElem?_set_ne (Ne.symm hj)]; exact hc⟩
  · rcases List.mem_or_eq_of_mem_set y with y | y
    · exact (st.hid a z).1 y
    · cases y
theorem le_take {k : Nat} : Le ⟨m, h⟩ H ⟨m.take k, h⟩ H := le_sub fun a z => z.elim (fun z => .inl (List.mem_of_mem_take z)) .inr
theorem StOk.take {k : Nat} (st : StOk g ⟨m, h⟩ S H) : StOk g ⟨m.take k, h⟩ (S.take k) H := by
  have hl : m.length = S.length := st.len
  have get : ∀ {α : Type} (l : List α) (j : Nat) (a : α), (l.take k)[j]? = some a → j < k ∧ l[j]? = some a := fun l j a e => by
    rw [List.getElem?_take] at e
    split at e
    · exact ⟨by assumption, e⟩
    · cases e
  refine ⟨by simp [hl], fun j c e => ?_, fun j a e => ?_, fun j i a e1 e2 => st.inj j i a (get m j _ e1).2 (get m i _ e2).2, fun a z => ⟨fun y => (st.hid a z).1 (List.mem_of_mem_take y), (st.hid a z).2⟩⟩
  · obtain ⟨hj, e⟩ := get S j _ e
    obtain ⟨a, h1, h2⟩ := st.cell j c e
    exact ⟨a, by show (m.take k)[j]? = _; rw [List.getElem?_take, if_pos hj]; exact h1, h2.le le_take fun _ _ _ q => q⟩
  · obtain ⟨hj, e⟩ := get m j _ e
    obtain ⟨c, hc⟩ := st.live j a e
    exact ⟨c, by rw [List.getElem?_take, if_pos hj]; exact hc⟩
/-- a list of the store, gone from it, is a value -/
theorem rep_gone {k : Nat} {a : Addr} {ds : List D} (st : StOk g ⟨m, h⟩ S H) (hS : S[k]? = some (some (.lst ds))) (hk : m[k]? = some (some a)) {m' : List (Option Addr)} (sub : ∀ b, some b ∈ m' → some b ∈ m) (no : some a ∉ m') : Rep g ⟨m', h⟩ H (.lst ds) (.ref a) := by
  obtain ⟨b, h1, vs, h2, h3⟩ := st.cell k _ hS
  have e : some (some a) = some (some b) := by rw [← hk]; exact h1
  cases e
  refine .lst h2 (fun z => ?_) (RepL.le (le_sub fun b z => z.elim (fun z => .inl (sub b z)) .inr) h3)
  rcases z with z | z
  · exact no z
  · exact (st.hid a z).1 (List.mem_of_getElem? hk)
theorem no_set {k : Nat} {a : Addr} (st : StOk g ⟨m, h⟩ S H) (hk : m[k]? = some (some a)) : some a ∉ m.set k none := fun z => by
  obtain ⟨j, hj⟩ := List.getElem?_of_mem z
  by_cases e : k = j
  · subst e
    rw [List.getElem?_set] at hj
    simp at hj
  · rw [List.getElem?_set_ne e] at hj
    exact e (st.inj k j a hk hj)
theorem no_take {k : Nat} {a : Addr} (st : StOk g ⟨m, h⟩ S H) (hk : m[k]? = some (some a)) : some a ∉ m.take k := fun z => by
  obtain ⟨j, hj⟩ := List.getElem?_of_mem z
  rw [List.getElem?_take] at hj
  split at hj
  · have := st.inj k j a hk hj
    omega
  · cases hj
end

section
variable {X : Cx} {cf : Cf} {a b c : Expr} {ea eb ec : Ev} {pos p2 : Pos} {st : Stmt} {rest : List Stmt} {sa sb : Sv}
/-- name = a new list, by the store's rule and what the expression asks -/
theorem new_q {i : Nat} {D : Ends} {σ : L2.St} {H : Hp} (hh : tS cf (sNew i ea) D σ H) : tN cf.g cf.W ea σ H fun x H1 => D.nx (σ.set i (some x)) H1 := by
    obtain ⟨w, Γ, S, so, en, fr, h⟩ := hh
    refine ⟨w, Γ, S, so, en, ?_⟩
    unfold sNew at h
    cases e : ea Γ S with
    | bad => rw [e] at h; exact h
    | exc c x S1 =>
      rw [e] at h
      exact fun cls dx w' H' s st' r => h σ cls dx w' H' s.le (fr.stp s) st' (en.step s) r
    | ok x S1 =>
      rw [e] at h
      cases x with
      | cell k => exact h.elim
      | d x =>
        cases x with
        | lst ds =>
          intro p vs w' H' n st' hp l
          obtain ⟨m', h'⟩ := w'
          have eh : h' = p :: w.hid := n.hid
          subst eh
          have np : p ∉ w.hid := fun z => (so.hid p z).2 n.free
          have ln : m'.length = w.m.length := n.q.len
          have lS : m'.length = S1.length := st'.len
          have ad : Le w H ⟨m' ++ [some p], w.hid⟩ H' := n.q.le.trans le_adopt fun a z => List.mem_cons_of_mem _ z
          have h0p : cf.H0 p = none := by
            cases q : cf.H0 p with
            | none => rfl
            | some o => exact absurd n.free (fr.le.trk p (by rw [q]; exact fun z => by cases z))
          refine h (σ.set i (some (.ref p))) ⟨m' ++ [some p], w.hid⟩ H' ad ⟨fr.le.trans ad (by rw [fr.hid]; exact fun _ z => z), fr.hid, ?_, fun k a hk e => ?_, fun k a hk e => ?_⟩ (st'.adopt np hp l) ?_
          · have := fr.len
            show _ ≤ (m' ++ [some p]).length
            rw [List.length_append]
            omega
          · have hk2 := fr.len
            have e : (m' ++ [some p])[k]? = some (some a) := e
            rw [List.getElem?_append_left (by omega)] at e
            exact fr.old k a hk (n.q.old k a e)
          · have e : (m' ++ [some p])[k]? = some (some a) := e
            by_cases hk3 : k < m'.length
            · rw [List.getElem?_append_left hk3] at e
              exact fr.new k a hk (n.q.old k a e)
            · rw [List.getElem?_append_right (by omega)] at e
              cases e2 : k - m'.length with
              | zero =>
                rw [e2] at e
                have e : some (some p) = some (some a) := e
                cases e
                exact h0p
              | succ j =>
                rw [e2] at e
                simp at e
          · have en' : EnvOk cf.g ⟨m' ++ [some p], w.hid⟩ Γ σ H' := ⟨en.len, fun j y e => by
              obtain ⟨v, h1, h2⟩ := en.val j y e
              refine ⟨v, h1, ?_⟩
              cases y with
              | d y => exact Rep.le ad h2
              | cell k =>
                have hk : k < w.m.length := h2.1
                refine ⟨by show k < (m' ++ [some p]).length; rw [List.length_append]; omega, fun a e => h2.2 a ?_⟩
                have e : (m' ++ [some p])[k]? = some (some a) := e
                rw [List.getElem?_append_left (by omega)] at e
                exact n.q.old k a e⟩
            refine en'.set i (x := .cell S1.length) ⟨?_, fun a e => ?_⟩
            · show _ < (m' ++ [some p]).length
              rw [List.length_append, lS]
              exact Nat.lt_succ_self _
            · have e : (m' ++ [some p])[S1.length]? = some (some a) := e
              rw [List.getElem?_append_right (by omega), lS, Nat.sub_self] at e
              have e : some (some p) = some (some a) := e
              cases e
              rfl
        | _ => exact h.elim
theorem s_newOf {i : Nat} {te : TE} (hps : PS X st (tAsg te (gName i))) (him : ∀ σ H Q, tN cf.g cf.W ea σ H Q → te σ H Q) : PS X st (tS cf (sNew i ea)) :=
  hps.imp fun D σ H h => him σ H _ (new_q h)
theorem s_new {i : Nat} {x : Str} {pos' : Pos} (hN : X.N.Nodup) (hi : X.N[i]? = some x) (hx : Loc X.env.scope x) (ha : PE X a (tN cf.g cf.W ea)) (hs : swapsWith a (some (.Name x pos')) pos.line X.env = pure false := by rfl) (hf : X.fn x = true ∨ X.env.scope.names.lookup x = some .local := by first | exact .inl rfl | exact .inr rfl | assumption) :
    PS X (.Assign [.Name x pos'] a pos) (tS cf (sNew i ea)) := s_newOf (ps_set hN hi hx ha hs hf) fun _ _ _ h => h
/-- name = a value, by the rule and what the expression asks -/
theorem s_asgOf {i : Nat} {te : TE} (hps : PS X st (tAsg te (gName i))) (him : ∀ σ H Q, tE cf.g cf.W ea σ H Q → te σ H Q) : PS X st (tS cf (sAsg i ea)) :=
  hps.imp fun D σ H ⟨w, Γ, S, so, en, fr, h⟩ => him σ H _ (tX_fl so en fr h fun u H1 x S1 w1 s1 st1 en1 fr1 r1 h1 => FQ.nxQ h1 st1 (en1.set i r1) fr1)
theorem lc_plain {it : Env → Store → R (List D)} {vs : List Nat} {tg : Tg} {test : Env → Store → R Bool} {elt : Ev} {g : Gx} {W : WX} {σ : L2.St} {H : Hp} {Q : VK} (h : tE g W (eLc it vs tg test elt) σ H Q) : tN g W (eLc it vs tg test elt) σ H Q := by
  obtain ⟨w, Γ, S, so, en, q⟩ := h
  exact ⟨w, Γ, S, so, en, RQN.plain q (eLc_lst Γ S) fun a z => (so.hid a z).2⟩
/-- name = [..], the name a local of the def -/
theorem s_asgLc {i : Nat} {y : Str} {py spos : Pos} {elt tg iter : Expr} {ifs : List Expr} {scope : Scope} {own : List (Str × Nat)} {it : Env → Store → R (List D)} {sl : List Nat} {tgd : Tg} {test : Env → Store → R Bool} {el : Ev} (hc : X.calm = true) (hN : X.N.Nodup) (hy : X.N[i]? = some y) (hyl : X.env.scope.names.lookup y = some .local)
    (hsw : swapsWith (.ListComp elt [⟨tg, iter, ifs, 0⟩] scope pos) (some (.Name y py)) spos.line X.env = pure true) (hi : PI X tg iter (tI cf.g cf.W it)) (ok : BlkOk X.N X.env.scope scope own)
    (hg : ∀ (s : Shared) (H : Hp) (C : Addr) (cl : List (Str × Addr)) (fp : List Addr), PG (X.blk s H scope (compEnvC scope cl C X.env) fp) tg (tG cf.g sl tgd)) (ht : ∀ (s : Shared) (H : Hp) (C : Addr) (cl : List (Str × Addr)) (fp : List Addr), PTs (X.blk s H scope (compEnvC scope cl C X.env) fp) ifs (tT cf.g W0 test))
    (he : ∀ (s : Shared) (H : Hp) (C : Addr) (cl : List (Str × Addr)) (fp : List Addr), PE (X.blk s H scope (compEnvC scope cl C X.env) fp) elt (tE cf.g W0 el)) (hsl : ∀ i ∈ sl, i ∈ own.map (·.2)) (hs : ∀ x, foldedSetIterable iter X.env x = pure x := by intro _; rfl) :
    PS X (.Assign [.Name y py] (.ListComp elt [⟨tg, iter, ifs, 0⟩] scope pos) spos) (tS cf (sAsg i (eLc it (own.map (·.2)) tgd test el))) :=
  s_asgOf (ps_setLc hc hN hy hyl hsw hi ok hg ht he hs) fun σ H Q h => lc_q hsl (lc_plain h)
theorem s_newLc {i : Nat} {y : Str} {py spos : Pos} {elt tg iter : Expr} {ifs : List Expr} {scope : Scope} {own : List (Str × Nat)} {it : Env → Store → R (List D)} {sl : List Nat} {tgd : Tg} {test : Env → Store → R Bool} {el : Ev} (hc : X.calm = true) (hN : X.N.Nodup) (hy : X.N[i]? = some y) (hyl : X.env.scope.names.lookup y = some .local)
    (hsw : swapsWith (.ListComp elt [⟨tg, iter, ifs, 0⟩] scope pos) (some (.Name y py)) spos.line X.env = pure true) (hi : PI X tg iter (tI cf.g cf.W it)) (ok : BlkOk X.N X.env.scope scope own)
    (hg : ∀ (s : Shared) (H : Hp) (C : Addr) (cl : List (Str × Addr)) (fp : List Addr), PG (X.blk s H scope (compEnvC scope cl C X.env) fp) tg (tG cf.g sl tgd)) (ht : ∀ (s : Shared) (H : Hp) (C : Addr) (cl : List (Str × Addr)) (fp : List Addr), PTs (X.blk s H scope (compEnvC scope cl C X.env) fp) ifs (tT cf.g W0 test))
    (he : ∀ (s : Shared) (H : Hp) (C : Addr) (cl : List (Str × Addr)) (fp : List Addr), PE (X.blk s H scope (compEnvC scope cl C X.env) fp) elt (tE cf.g W0 el)) (hsl : ∀ i ∈ sl, i ∈ own.map (·.2)) (hs : ∀ x, foldedSetIterable iter X.env x = pure x := by intro _; rfl) :
    PS X (.Assign [.Name y py] (.ListComp elt [⟨tg, iter, ifs, 0⟩] scope pos) spos) (tS cf (sNew i (eLc it (own.map (·.2)) tgd test el))) :=
  s_newOf (ps_setLc hc hN hy hyl hsw hi ok hg ht he hs) fun σ H Q h => lc_q hsl h
/-- the object of a name becomes a value: ahead of any row -/
theorem ss_frz {i n0 : Nat} (hn : cf.w0.m.length = n0) (h1 : PSs X rest (tS cf sb)) : PSs X rest (tS cf (sSeq (sFrz n0 i) sb)) :=
  h1.imp fun D σ H ⟨w, Γ, S, so, en, fr, h⟩ => by
    subst hn
    unfold sSeq sFrz at h
    cases e1 : Γ[i]? with
    | none => rw [e1] at h; exact h.elim
    | some o =>
      cases o with
      | none => rw [e1] at h; exact h.elim
      | some x =>
        cases x with
        | d x => rw [e1] at h; exact h.elim
        | cell k =>
          cases e2 : S[k]? with
          | none => rw [e1] at h; simp only [e2] at h; exact h.elim
          | some o =>
            cases o with
            | none => rw [e1] at h; simp only [e2] at h; exact h.elim
            | some cl =>
              cases cl with
              | obj cn fs => rw [e1] at h; simp only [e2] at h; exact h.elim
              | lst ds =>
                rw [e1] at h
                simp only [e2] at h
                obtain ⟨m, hd⟩ := w
                obtain ⟨av, hav, vs, hH, hl⟩ := so.cell k _ e2
                obtain ⟨v, hv, rv⟩ := en.val i _ e1
                have ev := rv.2 av hav
                subst ev
                have hlt : k < S.length := by
                  rcases Nat.lt_or_ge k S.length with q | q
                  · exact q
                  · rw [List.getElem?_eq_none q] at e2
                    cases e2
                by_cases h0 : cf.w0.m.length ≤ k
                · simp only [if_pos h0] at h
                  by_cases hlast : k + 1 = S.length
                  · simp only [if_pos hlast] at h
                    have le : Le ⟨m, hd⟩ H ⟨m.take k, hd⟩ H := le_take
                    have ml : m.length = S.length := so.len
                    refine ⟨⟨m.take k, hd⟩, _, _, so.take, ?_, ⟨fr.le.trans le (by rw [fr.hid]; exact fun _ z => z), fr.hid, ?_, fun j a hj e => ?_, fun j a hj e => ?_⟩, FQ.to h le fun _ z => z⟩
                    · have en' : EnvOk cf.g ⟨m.take k, hd⟩ ((Γ.set i none).map (keepB k)) σ H := ⟨by simp [en.len], fun j y e => by
                        rw [List.getElem?_map] at e
                        cases q : (Γ.set i none)[j]? with
                        | none => rw [q] at e; cases e
                        | some o =>
                          rw [q] at e
                          have q2 : ∀ z, o = some z → Γ[j]? = some (some z) := fun z hz => by
                            rw [hz] at q
                            rw [List.getElem?_set] at q
                            split at q
                            · split at q <;> cases q
                            · exact q
                          cases o with
                          | none => cases e
                          | some z =>
                            cases z with
                            | d z =>
                              cases e
                              obtain ⟨u, h1, h2⟩ := en.val j _ (q2 _ rfl)
                              exact ⟨u, h1, Rep.le le h2⟩
                            | cell l =>
                              have e : (some (if l < k then some (Val.cell l) else none)) = some (some y) := e
                              by_cases hlk : l < k
                              · rw [if_pos hlk] at e
                                cases e
                                obtain ⟨u, h1, h2⟩ := en.val j _ (q2 _ rfl)
                                refine ⟨u, h1, ?_, fun a ea => h2.2 a ?_⟩
                                · show l < (m.take k).length
                                  rw [List.length_take]
                                  omega
                                · have ea : (m.take k)[l]? = some (some a) := ea
                                  rw [List.getElem?_take, if_pos hlk] at ea
                                  exact ea
                              · rw [if_neg hlk] at e
                                cases e⟩
                      have e3 := en'.set i (x := .d (.lst ds)) (v := .ref av) (rep_gone so e2 hav (fun b z => List.mem_of_mem_take z) (no_take so hav))
                      have e4 : ((Γ.set i none).map (keepB k)).set i (some (.d (.lst ds))) = (Γ.set i (some (.d (.lst ds)))).map (keepB k) := by
                        apply List.ext_getElem?
                        intro j
                        simp only [List.getElem?_set, List.getElem?_map, List.length_map, List.length_set]
                        by_cases hj : i = j
                        · subst hj
                          by_cases hi : i < Γ.length
                          · simp [hi, keepB]
                          · simp [hi]
                        · simp [hj]
                      rw [e4] at e3
                      have e5 : σ.set i (some (V.ref av)) = σ := by
                        apply List.ext_getElem?
                        intro j
                        by_cases hj : i = j
                        · subst hj
                          rw [List.getElem?_set]
                          have : i < σ.length := by
                            rcases Nat.lt_or_ge i σ.length with q | q
                            · exact q
                            · rw [List.getElem?_eq_none q] at hv
                              cases hv
                          rw [if_pos rfl, if_pos this, hv]
                        · rw [List.getElem?_set_ne hj]
                      rw [e5] at e3
                      exact e3
                    · show _ ≤ (m.take k).length
                      rw [List.length_take]
                      omega
                    · have e : (m.take k)[j]? = some (some a) := e
                      rw [List.getElem?_take] at e
                      split at e
                      · exact fr.old j a hj e
                      · cases e
                    · have e : (m.take k)[j]? = some (some a) := e
                      rw [List.getElem?_take] at e
                      split at e
                      · exact fr.new j a hj e
                      · cases e
                  · simp only [if_neg hlast] at h
                    have le : Le ⟨m, hd⟩ H ⟨m.set k none, hd⟩ H := le_gone
                    have get : ∀ (j : Nat) (a : Addr), (m.set k none)[j]? = some (some a) → m[j]? = some (some a) := fun j a e => by
                      by_cases hj : k = j
                      · subst hj
                        rw [List.getElem?_set] at e
                        simp at e
                      · rw [List.getElem?_set_ne hj] at e
                        exact e
                    refine ⟨⟨m.set k none, hd⟩, _, _, so.gone, ?_, ⟨fr.le.trans le (by rw [fr.hid]; exact fun _ z => z), fr.hid, by show _ ≤ (m.set k none).length; rw [List.length_set]; exact fr.len, fun j a hj e => fr.old j a hj (get j a e), fun j a hj e => fr.new j a hj (get j a e)⟩, FQ.to h le fun _ z => z⟩
                    have en' : EnvOk cf.g ⟨m.set k none, hd⟩ Γ σ H := ⟨en.len, fun j y e => by
                      obtain ⟨u, h1, h2⟩ := en.val j y e
                      refine ⟨u, h1, ?_⟩
                      cases y with
                      | d y => exact Rep.le le h2
                      | cell l => exact ⟨by show l < (m.set k none).length; rw [List.length_set]; exact h2.1, fun a e => h2.2 a (get l a e)⟩⟩
                    have e3 := en'.set i (x := .d (.lst ds)) (v := .ref av) (rep_gone so e2 hav (fun b z => by
                      rcases List.mem_or_eq_of_mem_set z with z | z
                      · exact z
                      · cases z) (no_set so hav))
                    have e5 : σ.set i (some (V.ref av)) = σ := by
                      apply List.ext_getElem?
                      intro j
                      by_cases hj : i = j
                      · subst hj
                        rw [List.getElem?_set]
                        have : i < σ.length := by
                          rcases Nat.lt_or_ge i σ.length with q | q
                          · exact q
                          · rw [List.getElem?_eq_none q] at hv
                            cases hv
                        rw [if_pos rfl, if_pos this, hv]
                      · rw [List.getElem?_set_ne hj]
                    rw [e5] at e3
                    exact e3
                · simp only [if_neg h0] at h
                  exact h.elim
end
end Pd

namespace Pd
open PySem L2

/-! ### methods of lists of the store -/
def eApp (eo ea : Ev) : Ev := fun Γ S => (eo Γ S).bind fun o S1 => match rd S1 o with
  | some (.lst _) => (ea Γ S1).bind fun x S2 => (match o, x with
    | .cell k, .d d => (match S2[k]? with
      | some (some (.lst ds)) => if ds.length < cap then .ok (.d .non) (S2.set k (some (.lst (ds ++ [d])))) else .bad
      | _ => .bad)
    | _, _ => .bad)
  | _ => .bad
def eExt (eo ea : Ev) : Ev := fun Γ S => (eo Γ S).bind fun o S1 => match rd S1 o with
  | some (.lst _) => (ea Γ S1).bind fun x S2 => (match o, x with
    | .cell k, .d (.lst es) => (match S2[k]? with
      | some (some (.lst ds)) => if ds.length + es.length ≤ cap then .ok (.d .non) (S2.set k (some (.lst (ds ++ es)))) else .bad
      | _ => .bad)
    | _, _ => .bad)
  | _ => .bad
def ePop (eo : Ev) : Ev := fun Γ S => (eo Γ S).bind fun o S1 => match o with
  | .cell k => (match S1[k]? with
    | some (some (.lst ds)) => (match ds[ds.length - 1]? with | some d => .ok (.d d) (S1.set k (some (.lst ds.dropLast))) | none => .bad)
    | _ => .bad)
  | _ => .bad
/-- o[i] = e: the value first -/
def sSet (eo ei ea : Ev) : Sv := fun Γ S => (ea Γ S).fl Γ fun x S1 => (eo Γ S1).fl Γ fun o S2 => (ei Γ S2).fl Γ fun i S3 => match o, i, x with
  | .cell k, .d (.int j), .d d => (match S3[k]? with
    | some (some (.lst ds)) => (match ixN ds.length j with | some n => .nx Γ (S3.set k (some (.lst (ds.set n d)))) | none => .bad)
    | _ => .bad)
  | _, _, _ => .bad
section
variable {X : Cx} {g : Gx} {W : WX} {a b o : Expr} {ea eb eo ei : Ev} {pos apos cpos p : Pos} {cf : Cf}
theorem rd_ty {w : Wd} {S : Store} {H : Hp} {x : Val} {v : V} {ds : List D} (hK : g.K = X.K) (st : StOk g w S H) (r : RepV g w H x v) (e : rd S x = some (.lst ds)) : tyV X.K "list" v H := by
  obtain ⟨a, vs, rfl, h, _⟩ := rd_lst st r e
  exact .inl ⟨rfl, vs, .inl (.inl h)⟩
theorem cell_at {w : Wd} {S : Store} {H : Hp} {k : Nat} {v : V} {ds : List D} (st : StOk g w S H) (r : RepV g w H (.cell k) v) (e : S[k]? = some (some (.lst ds))) : ∃ a vs, v = .ref a ∧ w.m[k]? = some (some a) ∧ H a = some (.lst vs) ∧ RepL g w H ds vs := by
  obtain ⟨a, h1, vs, h2, h3⟩ := st.cell k _ e
  exact ⟨a, vs, r.2 a h1, h1, h2, h3⟩
theorem p_app (hK : g.K = X.K) (ho : PE X o (tE g W eo)) (ha : PE X a (tE g W ea)) (hbase : attributeBase o "append" X.env (eval o X.env) = eval o X.env := by rfl)
    (hfew : ((backTo cpos (starEach [a] X.env)).all (fun x => !x.1) && (backToKw cpos (keywordEach [] X.env)).all (fun x => x.1.isSome) && decide ([a].length + ([] : List Keyword).length + (if ([] : List Keyword).isEmpty then 0 else 1) < 30)) = true := by rfl)
    (hline : (apos.endLine == cpos.line) = true := by rfl) (hs : starEach [a] X.env = (false, eval a X.env) :: starEach [] X.env := by rfl) (hplain : (backTo cpos (starEach [] X.env)).any (·.1) = false := by rfl) :
    PE X (.Call (.Attribute o "append" apos) [a] [] cpos) (tE g W (eApp eo ea)) :=
  (pe_bm PySem.F.plainAttrs_list PySem.F.slot_list_append PySem.F.type_list_append mt_append ho (pa_cons ha pa_nil hs) hbase hfew hline hs hplain).imp fun σ H Q ⟨w, Γ, S, st, en, h⟩ =>
    tX_seq st en h fun u H1 x S1 w1 s1 st1 en1 r1 h1 => by
      split at h1
      · rename_i ds0 e0
        refine ⟨rd_ty hK st1 r1 e0, tX_seq st1 en1 h1 fun v H2 y S2 w2 s2 st2 en2 r2 h2 => ?_⟩
        split at h2
        · split at h2
          · rename_i ds e
            obtain ⟨hz, h2⟩ := ite_q h2
            obtain ⟨p, vs, rfl, hk, hp, l⟩ := cell_at st2 (r1.step s2) e
            refine ⟨p, vs, v, rfl, rfl, hp, ?_, ?_⟩
            · rw [← l.length]
              exact Nat.lt_of_lt_of_le hz (by decide)
            · exact h2 .non w2 _ (stp_mutC st2 hk) (st2.mutC hk (l.append (.cons r2 .nil))) .non
          · exact h2.elim
        · exact h2.elim
      · exact h1.elim
theorem p_ext (hK : g.K = X.K) (ho : PE X o (tE g W eo)) (ha : PE X a (tE g W ea)) (hbase : attributeBase o "extend" X.env (eval o X.env) = eval o X.env := by rfl)
    (hfew : ((backTo cpos (starEach [a] X.env)).all (fun x => !x.1) && (backToKw cpos (keywordEach [] X.env)).all (fun x => x.1.isSome) && decide ([a].length + ([] : List Keyword).length + (if ([] : List Keyword).isEmpty then 0 else 1) < 30)) = true := by rfl)
    (hline : (apos.endLine == cpos.line) = true := by rfl) (hs : starEach [a] X.env = (false, eval a X.env) :: starEach [] X.env := by rfl) (hplain : (backTo cpos (starEach [] X.env)).any (·.1) = false := by rfl) :
    PE X (.Call (.Attribute o "extend" apos) [a] [] cpos) (tE g W (eExt eo ea)) :=
  (pe_bm PySem.F.plainAttrs_list PySem.F.slot_list_extend PySem.F.type_list_extend mt_extend ho (pa_cons ha pa_nil hs) hbase hfew hline hs hplain).imp fun σ H Q ⟨w, Γ, S, st, en, h⟩ =>
    tX_seq st en h fun u H1 x S1 w1 s1 st1 en1 r1 h1 => by
      split at h1
      · rename_i ds0 e0
        refine ⟨rd_ty hK st1 r1 e0, tX_seq st1 en1 h1 fun v H2 y S2 w2 s2 st2 en2 r2 h2 => ?_⟩
        split at h2
        · split at h2
          · rename_i ds e
            obtain ⟨hz, h2⟩ := ite_q h2
            obtain ⟨p, vs, rfl, hk, hp, l⟩ := cell_at st2 (r1.step s2) e
            cases r2 with
            | lst q1 q2 q3 =>
              refine ⟨p, _, vs, _, rfl, rfl, hp, q1, ?_, ?_⟩
              · rw [← l.length, ← q3.length]
                exact cap_le hz
              · exact h2 .non w2 _ (stp_mutC st2 hk) (st2.mutC hk (l.append q3)) .non
          · exact h2.elim
        · exact h2.elim
      · exact h1.elim
theorem RepL.dropLast {w : Wd} {H : Hp} {ds : List D} {vs : List V} (l : RepL g w H ds vs) : RepL g w H ds.dropLast vs.dropLast := by
  rw [List.dropLast_eq_take, List.dropLast_eq_take, l.length]
  exact RepL.take _ l
theorem p_pop (hK : g.K = X.K) (ho : PE X o (tE g W eo)) (hbase : attributeBase o "pop" X.env (eval o X.env) = eval o X.env := by rfl) (hline : (apos.endLine == cpos.line) = true := by rfl) :
    PE X (.Call (.Attribute o "pop" apos) [] [] cpos) (tE g W (ePop eo)) :=
  (pe_bm0 PySem.F.plainAttrs_list PySem.F.slot_list_pop PySem.F.type_list_pop mt_pop ho hbase hline).imp fun σ H Q ⟨w, Γ, S, st, en, h⟩ =>
    tX_seq st en h fun u H1 x S1 w1 s1 st1 en1 r1 h1 => by
      split at h1
      · split at h1
        · rename_i ds e
          split at h1
          · rename_i d ed
            obtain ⟨p, vs, rfl, hk, hp, l⟩ := cell_at st1 r1 e
            refine ⟨.inl ⟨rfl, vs, .inl (.inl hp)⟩, ?_⟩
            obtain ⟨v, hv, rv⟩ := l.get ed
            rw [l.length] at hv
            refine ⟨p, vs, v, rfl, rfl, hp, hv, ?_⟩
            exact h1 v w1 _ (stp_mutC st1 hk) (st1.mutC hk l.dropLast) (Rep.mut (.inl (List.mem_of_getElem? hk)) rv)
          · exact h1.elim
        · exact h1.elim
      · exact h1.elim
theorem ixN_set {ds : List D} {vs : List V} {w : Wd} {H : Hp} (l : RepL g w H ds vs) {j : Int} {n : Nat} (e : ixN ds.length j = some n) : ixN vs.length j = some n := by
  rw [← l.length]
  exact e
theorem s_set {tp : Pos} (ho : PE X o (tE cf.g cf.W eo)) (hi : PE X b (tE cf.g cf.W ei)) (ha : PE X a (tE cf.g cf.W ea)) (hs : swapsWithSole [.Subscript o b tp] a pos.line X.env = pure false := by rfl) (hw : swappedStores [.Subscript o b tp] a X.env = pure none := by rfl)
    (h1 : (assignEach [.Subscript o b tp] X.env).map (·.2) = [assign (.Subscript o b tp) X.env] := by rfl)
    (has : ∀ v, assign (.Subscript o b tp) X.env v = (do
      let ov ← holding [v] (eval o X.env)
      let iv ← holding [v, ov] (eval b X.env)
      standAt tp
      holding [v, ov, iv] (setItem ov iv v)
      release [v, ov, iv] []) := by intro _; rfl) : PS X (.Assign [.Subscript o b tp] a pos) (tS cf (sSet eo ei ea)) :=
  (ps_asg ha (pg_sub ho hi set_list has) hs hw h1).imp fun D σ H ⟨w, Γ, S, st, en, fr, h⟩ => tX_fl st en fr h fun u H1 x S1 w1 s1 st1 en1 fr1 r1 h1 => tX_fl st1 en1 fr1 h1 fun v H2 y S2 w2 s2 st2 en2 fr2 r2 h2 => tX_fl st2 en2 fr2 h2 fun z H3 i S3 w3 s3 st3 en3 fr3 r3 h3 => by
    split at h3
    · split at h3
      · rename_i ds e
        split at h3
        · rename_i n en'
          obtain ⟨p, vs, rfl, hk, hp, l⟩ := cell_at st3 (r2.step s3) e
          cases r3
          refine ⟨p, vs, _, n, rfl, rfl, hp, ixN_set l en', ?_⟩
          have sp := stp_mutC (o := .lst (vs.set n u)) st3 hk
          exact h3 σ w3 _ sp.le (fr3.stp sp) (st3.mutC hk (l.set ((r1.step s2).step s3) n)) (en3.step sp)
        · exact h3.elim
      · exact h3.elim
    · exact h3.elim
end

/-! ### return of new lists -/
section
variable {X : Cx} {cf : Cf} {a b c : Expr} {ea eb ec : Ev} {pos p2 : Pos}
/-- return name, the name's object of this call -/
theorem s_retC {i n0 : Nat} {x : Str} (hn : cf.w0.m.length = n0) (hN : X.N[i]? = some x := by rfl) (hv : Vis X.env.scope x := by first | exact Or.inl rfl | exact Or.inr (Or.inl rfl) | exact Or.inr (Or.inr rfl)) (hd : (x == ("__debug__" : Str)) = false := by decide) (hcd : (x == ("__classdict__" : Str)) = false := by decide) :
    PS X (.Return (some (.Name x p2)) pos) (tS cf (sRetC n0 i)) :=
  (ps_ret (pe_var (i := i) hN hv hd hcd)).imp fun D σ H ⟨w, Γ, S, so, en, fr, h⟩ => by
    subst hn
    unfold sRetC at h
    cases e1 : Γ[i]? with
    | none => rw [e1] at h; exact h.elim
    | some o =>
      cases o with
      | none => rw [e1] at h; exact h.elim
      | some x =>
        cases x with
        | d x => rw [e1] at h; exact h.elim
        | cell k =>
          cases e2 : S[k]? with
          | none => rw [e1] at h; simp only [e2] at h; exact h.elim
          | some o =>
            cases o with
            | none => rw [e1] at h; simp only [e2] at h; exact h.elim
            | some cl =>
              cases cl with
              | obj cn fs => rw [e1] at h; simp only [e2] at h; exact h.elim
              | lst ds =>
                rw [e1] at h
                simp only [e2] at h
                obtain ⟨m, hd⟩ := w
                obtain ⟨av, hav, vs, hH, hl⟩ := so.cell k _ e2
                obtain ⟨v, hv, rv⟩ := en.val i _ e1
                have ev := rv.2 av hav
                subst ev
                refine ⟨_, hv, ?_⟩
                by_cases h0 : cf.w0.m.length ≤ k
                · simp only [if_pos h0] at h
                  have get : ∀ (j : Nat) (a : Addr), (m.set k none)[j]? = some (some a) → m[j]? = some (some a) := fun j a e => by
                    by_cases hj : k = j
                    · subst hj
                      rw [List.getElem?_set] at e
                      simp at e
                    · rw [List.getElem?_set_ne hj] at e
                      exact e
                  have h : (if cf.N = true then RtN cf ⟨m, hd⟩ H (.d (.lst ds)) (S.set k none) D.rt else RtP cf ⟨m, hd⟩ H (.d (.lst ds)) (S.set k none) D.rt) := h
                  have le : Le ⟨m, hd⟩ H ⟨m.set k none, hd⟩ H := le_gone
                  by_cases hNN : cf.N = true
                  · rw [if_pos hNN] at h
                    have le2 : Le ⟨m, hd⟩ H ⟨m.set k none, av :: hd⟩ H := le_sub fun b z => z.elim (fun z => by
                      rcases List.mem_or_eq_of_mem_set z with z | z
                      · exact .inl z
                      · cases z) fun z => by
                      rcases List.mem_cons.mp z with z | z
                      · exact .inl (by rw [z]; exact List.mem_of_getElem? hav)
                      · exact .inr z
                    have so1 : StOk cf.g ⟨m.set k none, hd⟩ (S.set k none) H := so.gone
                    have ehd : hd = cf.w0.hid := fr.hid
                    refine h av vs ⟨m.set k none, av :: hd⟩ H le2 ⟨fr.le.trans le2 (by rw [fr.hid]; exact fun _ z => z), by rw [ehd], ?_, fun j a hj e => fr.old j a hj (get j a e), fun j a hj e => fr.new j a hj (get j a e)⟩ (fr.new k av h0 hav) ⟨so1.len, fun j c e => ?_, so1.live, so1.inj, fun b z => ?_⟩ hH (RepL.le le2 hl)
                    · show _ ≤ (m.set k none).length
                      rw [List.length_set]
                      exact fr.len
                    · have hj : k ≠ j := fun q => by
                        subst q
                        rw [List.getElem?_set] at e
                        simp at e
                      obtain ⟨b, h1, h2⟩ := so.cell j c (by rw [List.getElem?_set_ne hj] at e; exact e)
                      exact ⟨b, by show (m.set k none)[j]? = _; rw [List.getElem?_set_ne hj]; exact h1, h2.le le2 fun _ _ _ q => q⟩
                    · rcases List.mem_cons.mp z with z | z
                      · subst z
                        exact ⟨no_set so hav, by rw [hH]; exact fun y => by cases y⟩
                      · exact so1.hid b z
                  · rw [if_neg hNN] at h
                    exact h _ ⟨m.set k none, hd⟩ H le ⟨fr.le.trans le (by rw [fr.hid]; exact fun _ z => z), fr.hid, by show _ ≤ (m.set k none).length; rw [List.length_set]; exact fr.len, fun j a hj e => fr.old j a hj (get j a e), fun j a hj e => fr.new j a hj (get j a e)⟩ so.gone (rep_gone so e2 hav (fun b z => by
                      rcases List.mem_or_eq_of_mem_set z with z | z
                      · exact z
                      · cases z) (no_set so hav))
                · simp only [if_neg h0] at h
                  exact h.elim
/-- return of a new list, where new lists are handed back -/
theorem s_retNew (hN : cf.N = true) (ha : PE X a (tN cf.g cf.W ea)) : PS X (.Return (some a) pos) (tS cf (sRet ea)) :=
  (ps_ret ha).imp fun D σ H ⟨w, Γ, S, so, en, fr, h⟩ => by
    refine ⟨w, Γ, S, so, en, ?_⟩
    unfold sRet at h
    cases e : ea Γ S with
    | bad => rw [e] at h; exact h
    | exc c x S1 =>
      rw [e] at h
      exact fun cls dx w' H' s st' r => h σ cls dx w' H' s.le (fr.stp s) st' (en.step s) r
    | ok x S1 =>
      rw [e] at h
      have h : (if cf.N = true then RtN cf w H x S1 D.rt else RtP cf w H x S1 D.rt) := h
      rw [if_pos hN] at h
      cases x with
      | cell k => exact h.elim
      | d x =>
        cases x with
        | lst ds =>
          intro p vs w' H' n st' hp l
          refine h p vs w' H' n.q.le ⟨fr.le.trans n.q.le (by rw [fr.hid]; exact fun _ z => z), by rw [n.hid, fr.hid], by rw [n.q.len]; exact fr.len, fun k a hk e => fr.old k a hk (n.q.old k a e), fun k a hk e => fr.new k a hk (n.q.old k a e)⟩ ?_ st' hp l
          cases q : cf.H0 p with
          | none => rfl
          | some o => exact absurd n.free (fr.le.trk p (by rw [q]; exact fun z => by cases z))
        | _ => exact h.elim
end

/-! ### a, b = x, y -/
section
variable {X : Cx} {cf : Cf} {a b c : Expr} {ea eb ec : Ev} {pos p2 px py pt pt2 : Pos} {kt k2 : Nat}
theorem RQN.out {g : Gx} {W : WX} {w : Wd} {σ : L2.St} {H : Hp} {r : R Val} {Q Q' : VK} (h : RQN g W w σ H r Q) (i : ∀ v H', Q v H' → Q' v H') : RQN g W w σ H r Q' := by
  cases r with
  | ok x S =>
    cases x with
    | cell k => exact h
    | d x =>
      cases x with
      | lst ds => exact fun p vs w' H' n a b c => i _ _ (h p vs w' H' n a b c)
      | _ => exact h
  | exc c x S => exact h
  | bad => exact h
theorem s_parOf {st : Stmt} {i j : Nat} {ta tb : TE} (hps : PS X st (tPar i j (tCons (tE cf.g cf.W ea) (tCons (tE cf.g cf.W eb) tNil)))) : PS X st (tS cf (sPar i j ea eb)) :=
  hps.imp fun D σ H ⟨w, Γ, S, so, en, fr, h⟩ => tX_fl so en fr h fun u H1 x S1 w1 s1 st1 en1 fr1 r1 h1 => tX_fl st1 en1 fr1 h1 fun v H2 y S2 w2 s2 st2 en2 fr2 r2 h2 =>
    ⟨u, v, rfl, FQ.nxQ h2 st2 ((en2.set i (r1.step s2)).set j r2) fr2⟩
theorem s_par {i j : Nat} {x y : Str} (hc : X.calm = true) (hN : X.N.Nodup) (hi : X.N[i]? = some x) (hj : X.N[j]? = some y) (hij : i ≠ j)
    (hx : X.env.scope.names.lookup x = some .local) (hy : X.env.scope.names.lookup y = some .local) (ha : PE X a (tE cf.g cf.W ea)) (hb : PE X b (tE cf.g cf.W eb))
    (hw : swappedStores [.Tuple [.Name x px, .Name y py] kt pt] (.Tuple [a, b] k2 pt2) X.env = pure (some [x, y]))
    (hs : swapsWithSole [.Tuple [.Name x px, .Name y py] kt pt] (.Tuple [a, b] k2 pt2) pos.line X.env = pure false := by rfl)
    (hs1 : starEach [a, b] X.env = (false, eval a X.env) :: starEach [b] X.env := by rfl) (hs2 : starEach [b] X.env = (false, eval b X.env) :: starEach [] X.env := by rfl) :
    PS X (.Assign [.Tuple [.Name x px, .Name y py] kt pt] (.Tuple [a, b] k2 pt2) pos) (tS cf (sPar i j ea eb)) :=
  s_parOf (ta := tE cf.g cf.W ea) (tb := tE cf.g cf.W eb) (ps_par hc hN hi hj hij hx hy (pa_cons ha (pa_cons hb pa_nil hs2) hs1) hw hs)
/-- name, other = a new list, a constant -/
theorem s_parN {i j : Nat} {x y : Str} {d : D} {v : V} (hc : X.calm = true) (hN : X.N.Nodup) (hi : X.N[i]? = some x) (hj : X.N[j]? = some y) (hij : i ≠ j)
    (hx : X.env.scope.names.lookup x = some .local) (hy : X.env.scope.names.lookup y = some .local) (ha : PE X a (tN cf.g cf.W ea)) (hb : PE X b (tC v)) (hr : ∀ w H, Rep cf.g w H d v)
    (hw : swappedStores [.Tuple [.Name x px, .Name y py] kt pt] (.Tuple [a, b] k2 pt2) X.env = pure (some [x, y]))
    (hs : swapsWithSole [.Tuple [.Name x px, .Name y py] kt pt] (.Tuple [a, b] k2 pt2) pos.line X.env = pure false := by rfl)
    (hs1 : starEach [a, b] X.env = (false, eval a X.env) :: starEach [b] X.env := by rfl) (hs2 : starEach [b] X.env = (false, eval b X.env) :: starEach [] X.env := by rfl) :
    PS X (.Assign [.Tuple [.Name x px, .Name y py] kt pt] (.Tuple [a, b] k2 pt2) pos) (tS cf (sSeq (sNew i ea) (sAsg j (eC d)))) :=
  (ps_par hc hN hi hj hij hx hy (pa_cons ha (pa_cons hb pa_nil hs2) hs1) hw hs).imp fun D σ H ⟨w, Γ, S, so, en, fr, h⟩ => by
    have q : tN cf.g cf.W ea σ H fun u H1 => D.nx ((σ.set i (some u)).set j (some v)) H1 := by
      refine new_q (D := { nx := fun σ' H' => D.nx (σ'.set j (some v)) H', rt := D.rt, bk := D.bk, ct := D.ct }) ⟨w, Γ, S, so, en, fr, ?_⟩
      unfold sSeq at h
      cases e : sNew i ea Γ S with
      | nx Γ1 S1 =>
        rw [e] at h
        intro σ' w' H' l f st' en'
        exact h (σ'.set j (some v)) w' H' l f st' (en'.set j (x := .d d) (hr w' H'))
      | bk Γ1 S1 => rw [e] at h; exact h
      | ct Γ1 S1 => rw [e] at h; exact h
      | rt x S1 => rw [e] at h; exact h
      | exc c x Γ1 S1 => rw [e] at h; exact h
      | bad => rw [e] at h; exact h
    obtain ⟨w1, Γ1, S1, a1, a2, a3⟩ := q
    refine ⟨w1, Γ1, S1, a1, a2, ?_⟩
    exact RQN.out a3 fun u H1 z => ⟨u, v, rfl, z⟩
/-- the same by a tuple -/
theorem s_parT {i j : Nat} {x y : Str} (hc : X.calm = true) (hN : X.N.Nodup) (hi : X.N[i]? = some x) (hj : X.N[j]? = some y)
    (hx : Loc X.env.scope x) (hy : Loc X.env.scope y) (ha : PE X a (tE cf.g cf.W ea)) (hb : PE X b (tE cf.g cf.W eb))
    (hfx : X.fn x = true ∨ X.env.scope.names.lookup x = some .local := by first | exact .inl rfl | exact .inr rfl | assumption) (hfy : X.fn y = true ∨ X.env.scope.names.lookup y = some .local := by first | exact .inl rfl | exact .inr rfl | assumption)
    (hs : swapsWithSole [.Tuple [.Name x px, .Name y py] kt pt] (.Tuple [a, b] k2 pt2) pos.line X.env = pure false := by rfl) (hw : swappedStores [.Tuple [.Name x px, .Name y py] kt pt] (.Tuple [a, b] k2 pt2) X.env = pure none := by rfl)
    (hs1 : starEach [a, b] X.env = (false, eval a X.env) :: starEach [b] X.env := by rfl) (hs2 : starEach [b] X.env = (false, eval b X.env) :: starEach [] X.env := by rfl) :
    PS X (.Assign [.Tuple [.Name x px, .Name y py] kt pt] (.Tuple [a, b] k2 pt2) pos) (tS cf (sPar i j ea eb)) :=
  (ps_asg (pe_tup (pa_cons ha (pa_cons hb pa_nil hs2) hs1)) (pg_tup hc (pgs_cons (pg_name hN hi hx hfx) (pgs_cons (pg_name hN hj hy hfy) pgs_nil))) hs hw).imp fun D σ H ⟨w, Γ, S, so, en, fr, h⟩ =>
    tX_fl so en fr h fun u H1 x S1 w1 s1 st1 en1 fr1 r1 h1 => tX_fl st1 en1 fr1 h1 fun v H2 y S2 w2 s2 st2 en2 fr2 r2 h2 => by
      refine ⟨by show 2 ≤ sizeLine; decide, fun p hp => ⟨p, [u, v], rfl, .inl (.inl upd_same), rfl, u, [v], rfl, v, [], rfl, rfl, ?_⟩⟩
      have sp := step_new (o := .tup [u, v]) st2 hp
      exact h2 _ w2 _ sp.le (fr2.stp sp) (st2.new hp) (((en2.step sp).set i ((r1.step s2).step sp)).set j (r2.step sp))
end

/-! ### defs -/
def spD (g : Gx) (d : List Val → Store → R Val) (n : Nat) (N : Bool) : Sp := fun vs H Q E => vs.length = n ∧ ∃ w S xs, StOk g w S H ∧ RepVs g w H xs vs ∧
  (if N = true then RQN g (fun c d _ H' => E c d H') w [] H (d xs S) Q else RQ g (fun c d _ H' => E c d H') (RepV g) w [] H (d xs S) Q)
/-- a def of the text, by its denotation -/
def Fn (P : Program) (w : World) (K : PySem.W.Frag) (mg : Str → Option Value) (base : Heap) (g : Gx) (k : Nat) (x : Str) (ps : List Str) (d : List Val → Store → R Val) (N : Bool) : Prop :=
  ∃ (f : Addr) (fd : FuncData), mg x = some (.ref f) ∧ PySem.W.keepIn K (.ref f) = true ∧ Binds K fd ps [] ∧ FnOk P w K mg base (L2.CX P w) k f fd ps (spD g d ps.length N)
theorem Fn.mono {P : Program} {w : World} {K : PySem.W.Frag} {mg : Str → Option Value} {base : Heap} {g : Gx} {j k : Nat} {x : Str} {ps : List Str} {d : List Val → Store → R Val} {N : Bool} (F : Fn P w K mg base g j x ps d N) (h : j ≤ k) : Fn P w K mg base g k x ps d N :=
  let ⟨f, fd, a, b, c, e⟩ := F
  ⟨f, fd, a, b, c, e.mono h⟩
def fin (n0 : Nat) (x : Val) (S' : Store) : R Val := match x with
  | .d d => .ok (.d d) (S'.take n0)
  | .cell k => if k < n0 then .ok (.cell k) (S'.take n0) else .bad
def finF (n0 : Nat) (f : F) : R Val := match f with
  | .nx _ S' => fin n0 (.d .non) S'
  | .rt x S' => fin n0 x S'
  | .exc c x _ S' => .exc c x (S'.take n0)
  | _ => .bad
/-- a def's denotation by its body's; extra: the slots that are no parameters -/
def funD (extra : Nat) (body : Nat → Sv) : List Val → Store → R Val := fun xs S => finF S.length (body S.length (xs.map some ++ List.replicate extra none) S)
section
variable {X : Cx} {g : Gx} {W : WX} {e : Expr} {es : List Expr} {er : Env → Store → R (List Val)} {pos p : Pos} {x : Str} {ps : List Str} {d : List Val → Store → R Val} {k j : Nat}
theorem RQ.wish {α β : Type} {ρ : Wd → Hp → α → β → Prop} {w : Wd} {H : Hp} {r : R α} {Q : β → Hp → Prop} {W W' : WX} {σ σ' : L2.St} (h : RQ g W ρ w σ H r Q) (i : ∀ c d H, W c d σ H → W' c d σ' H) : RQ g W' ρ w σ' H r Q := by
  cases r with
  | ok x S => exact h
  | exc c x S => exact fun cls dx w' H' a b z => i _ _ _ (h cls dx w' H' a b z)
  | bad => exact h
theorem RQN.wish {w : Wd} {H : Hp} {r : R Val} {Q : VK} {W W' : WX} {σ σ' : L2.St} (h : RQN g W w σ H r Q) (i : ∀ c d H, W c d σ H → W' c d σ' H) : RQN g W' w σ' H r Q := by
  cases r with
  | ok x S =>
    cases x with
    | cell k => exact h
    | d x =>
      cases x with
      | lst ds => exact h
      | _ => exact h
  | exc c x S => exact fun cls dx w' H' a b z => i _ _ _ (h cls dx w' H' a b z)
  | bad => exact h
theorem len_of {α : Type} {w : Wd} {H : Hp} {xs : List Val} {vs : List V} (r : RepVs g w H xs vs) : xs.length = vs.length := r.length
/-- a call of a def -/
theorem p_call (F : Fn X.prog X.w X.K X.mg X.base g k x ps d false) (hr : Room j X.A) (hkj : k ≤ j) (hg : Gl X x) (tk : Takes X W) (hl : (e :: es).length = ps.length) (hel : ∀ Γ S xs S', er Γ S = .ok xs S' → xs.length = ps.length) (ha : PA X (e :: es) (tA g W er))
    (hdb : (x == ("__debug__" : Str)) = false := by decide) (he : starEach (e :: es) X.env = (false, eval e X.env) :: starEach es X.env := by rfl) (hpl : (backTo pos (starEach es X.env)).any (·.1) = false := by rfl) :
    PE X (.Call (.Name x p) (e :: es) [] pos) (tE g W (eCall d er)) := by
  obtain ⟨f, fd, hm, hk, hb, FO⟩ := F
  refine (pe_callS FO (hr.mono hkj) hg hm hk hb (fun σ => passAt tk σ) ha hdb he hpl).imp fun σ H Q ⟨w, Γ, S, st, en, h⟩ => ?_
  refine ⟨w, Γ, S, st, en, ?_⟩
  unfold eCall at h
  cases q : er Γ S with
  | exc c z S1 => rw [q] at h; exact h
  | bad => rw [q] at h; exact h
  | ok xs S1 =>
    rw [q] at h
    exact fun vs w1 H1 s1 st1 r1 => ⟨by rw [← r1.length]; exact hel Γ S xs S1 q, w1, S1, xs, st1, r1, by
      rw [if_neg Bool.false_ne_true]
      exact (RQ.to (r := d xs S1) h s1).wish fun _ _ _ z => z⟩
theorem p_callNew (F : Fn X.prog X.w X.K X.mg X.base g k x ps d true) (hr : Room j X.A) (hkj : k ≤ j) (hg : Gl X x) (tk : Takes X W) (hl : (e :: es).length = ps.length) (hel : ∀ Γ S xs S', er Γ S = .ok xs S' → xs.length = ps.length) (ha : PA X (e :: es) (tA g W er))
    (hdb : (x == ("__debug__" : Str)) = false := by decide) (he : starEach (e :: es) X.env = (false, eval e X.env) :: starEach es X.env := by rfl) (hpl : (backTo pos (starEach es X.env)).any (·.1) = false := by rfl) :
    PE X (.Call (.Name x p) (e :: es) [] pos) (tN g W (eCall d er)) := by
  obtain ⟨f, fd, hm, hk, hb, FO⟩ := F
  refine (pe_callS FO (hr.mono hkj) hg hm hk hb (fun σ => passAt tk σ) ha hdb he hpl).imp fun σ H Q ⟨w, Γ, S, st, en, h⟩ => ?_
  refine ⟨w, Γ, S, st, en, ?_⟩
  unfold eCall at h
  cases q : er Γ S with
  | exc c z S1 => rw [q] at h; exact h
  | bad => rw [q] at h; exact h
  | ok xs S1 =>
    rw [q] at h
    exact fun vs w1 H1 s1 st1 r1 => ⟨by rw [← r1.length]; exact hel Γ S xs S1 q, w1, S1, xs, st1, r1, by
      rw [if_pos rfl]
      exact (RQN.to (r := d xs S1) h s1).wish fun _ _ _ z => z⟩
theorem eNil_len (Γ : Env) (S : Store) (xs : List Val) (S' : Store) (h : eNil Γ S = .ok xs S') : xs.length = 0 := by
  cases h
  rfl
theorem eCons_len {a : Ev} {r : Env → Store → R (List Val)} {n : Nat} (hr : ∀ Γ S xs S', r Γ S = .ok xs S' → xs.length = n) (Γ : Env) (S : Store) (xs : List Val) (S' : Store) (h : eCons a r Γ S = .ok xs S') : xs.length = n + 1 := by
  unfold eCons at h
  cases e : a Γ S with
  | exc c z S1 => rw [e] at h; cases h
  | bad => rw [e] at h; cases h
  | ok x S1 =>
    rw [e] at h
    have h : (r Γ S1).bind (fun xs S2 => .ok (x :: xs) S2) = .ok xs S' := h
    cases e2 : r Γ S1 with
    | exc c z S1 => rw [e2] at h; cases h
    | bad => rw [e2] at h; cases h
    | ok ys S2 =>
      rw [e2] at h
      cases h
      exact congrArg (· + 1) (hr Γ S1 ys _ e2)
end
/-- a def hands back a list alone -/
theorem Fn.plain {P : Program} {w : World} {K : PySem.W.Frag} {mg : Str → Option Value} {base : Heap} {g : Gx} {k : Nat} {x : Str} {ps : List Str} {d : List Val → Store → R Val} (F : Fn P w K mg base g k x ps d true) (hl : ∀ xs S y S', d xs S = .ok y S' → ∃ ds, y = .d (.lst ds)) : Fn P w K mg base g k x ps d false := by
  obtain ⟨f, fd, a, b, c, e⟩ := F
  refine ⟨f, fd, a, b, c, e.imp fun vs H Q E ⟨h1, w, S, xs, h2, h3, h4⟩ => ⟨h1, w, S, xs, h2, h3, ?_⟩⟩
  rw [if_pos rfl]
  rw [if_neg Bool.false_ne_true] at h4
  exact RQN.plain h4 (hl xs S) fun a z => (h2.hid a z).2
end Pd

namespace Pd
open PySem PySem.Spec PyProof.Rows L2
theorem le_takeL {g : Gx} {m : List (Option Addr)} {h : List Addr} {H : Hp} {k : Nat} : Le ⟨m, h⟩ H ⟨m.take k, h⟩ H := le_take
theorem start_env {g : Gx} {w : Wd} {H : Hp} {N : List Str} {xs : List Val} {vs : List V} {extra : Nat} (r : RepVs g w H xs vs) (hN : N.length = vs.length + extra) : EnvOk g w (xs.map some ++ List.replicate extra none) (L2.start N vs) H := by
  unfold L2.start
  have e : N.length - vs.length = extra := by omega
  rw [e]
  have rl := r.length
  refine ⟨by simp [rl], fun i x h => ?_⟩
  by_cases hi : i < xs.length
  · rw [List.getElem?_append_left (by simpa using hi), List.getElem?_map] at h
    rw [List.getElem?_append_left (by simpa using (by omega : i < vs.length)), List.getElem?_map]
    cases q : xs[i]? with
    | none => rw [q] at h; cases h
    | some y =>
      rw [q] at h
      cases h
      obtain ⟨v, h1, h2⟩ := r.get q
      exact ⟨v, by rw [h1] <;> rfl, h2⟩
  · rw [List.getElem?_append_right (by simpa using hi), List.getElem?_replicate] at h
    split at h <;> cases h
theorem fq_rtP {cf : Cf} {w : Wd} {H : Hp} {x : Val} {S' : Store} {D : Ends} (hN : cf.N = false) (h : RtP cf w H x S' D.rt) : FQ cf w H (.rt x S') D := by
  have e : FQ cf w H (.rt x S') D = (if cf.N = true then RtN cf w H x S' D.rt else RtP cf w H x S' D.rt) := rfl
  rw [e, if_neg (by rw [hN]; exact Bool.false_ne_true)]
  exact h
theorem fq_rtN {cf : Cf} {w : Wd} {H : Hp} {x : Val} {S' : Store} {D : Ends} (hN : cf.N = true) (h : RtN cf w H x S' D.rt) : FQ cf w H (.rt x S') D := by
  have e : FQ cf w H (.rt x S') D = (if cf.N = true then RtN cf w H x S' D.rt else RtP cf w H x S' D.rt) := rfl
  rw [e, if_pos hN]
  exact h
def FnX (P : Program) (w : World) (K : PySem.W.Frag) (mg : Str → Option Value) (base : Heap) (g : Gx) (k : Nat) (x : Str) (ps : List Str) (d : List Val → Store → R Val) (N : Bool) (f : Addr) (fd : FuncData) : Prop :=
  mg x = some (.ref f) ∧ PySem.W.keepIn K (.ref f) = true ∧ Binds K fd ps [] ∧ FnOk P w K mg base (L2.CX P w) k f fd ps (spD g d ps.length N)
theorem body_spD {P : Program} {w : World} {K : PySem.W.Frag} {mg : Str → Option Value} {base : Heap} {g : Gx} {qual : Str} {st : Stmt} {f : Addr} {N : List Str} {np k extra : Nat} (Nn : Bool) (body : Nat → Sv) (hx : N.length = np + extra)
    (hbody : ∀ (cdv : Value) (A : Around) (outer : List PySem.Env) (s : Shared) (H : Hp) (E : XK), Room k (A.deeper (envOfC qual (defScope st) s.heap.objs.size f cdv)) → ∀ w0 : Wd,
      PSs (cxOf (L2.CX P w) P w K mg base N qual (defScope st) f cdv A outer s H E) (defBody st) (tS ⟨g, fun c d _ H' => E c d H', w0, H, Nn⟩ (body w0.m.length)))
    (cdv : Value) (A : Around) (outer : List PySem.Env) (s : Shared) (H : Hp) (vs : List V) (Q : VK) (E : XK) (hr : Room k (A.deeper (envOfC qual (defScope st) s.heap.objs.size f cdv))) (hsp : spD g (funD extra body) np Nn vs H Q E) :
    ∃ t, PSs (cxOf (L2.CX P w) P w K mg base N qual (defScope st) f cdv A outer s H E) (defBody st) t ∧ t { nx := fun _ H' => Q .non H', rt := Q } (L2.start N vs) H := by
  obtain ⟨hl, w0, S, xs, so, rv, h⟩ := hsp
  refine ⟨_, hbody cdv A outer s H E hr w0, w0, xs.map some ++ List.replicate extra none, S, so, start_env rv (by rw [hl]; exact hx), ⟨.refl _ _, rfl, Nat.le_refl _, fun _ _ _ e => e, fun k a hk e => ?_⟩, ?_⟩
  · rw [List.getElem?_eq_none hk] at e
    cases e
  have hn : w0.m.length = S.length := so.len
  have key : ∀ (w' : Wd) (H' : Hp), Le w0 H w' H' → Fr w0 H w' H' w0.hid → ∀ S', StOk g w' S' H' → Stp w0 H ⟨w'.m.take S.length, w0.hid⟩ H' ∧ StOk g ⟨w'.m.take S.length, w0.hid⟩ (S'.take S.length) H' ∧ Le w' H' ⟨w'.m.take S.length, w0.hid⟩ H' := fun w' H' le fr S' st' => by
    obtain ⟨m, hd⟩ := w'
    have eh : hd = w0.hid := fr.hid
    subst eh
    have l2 : Le ⟨m, w0.hid⟩ H' ⟨m.take S.length, w0.hid⟩ H' := le_take
    refine ⟨⟨le.trans l2 fun _ z => z, rfl, ?_, fun j a e => ?_⟩, st'.take, l2⟩
    · have := fr.len
      show (m.take S.length).length = _
      rw [List.length_take, ← hn]
      have : w0.m.length ≤ m.length := fr.len
      omega
    · have e : (m.take S.length)[j]? = some (some a) := e
      rw [List.getElem?_take] at e
      split at e
      · exact fr.old j a (by omega) e
      · cases e
  unfold funD at h
  rw [← hn] at h
  generalize body w0.m.length (xs.map some ++ List.replicate extra none) S = fl at h ⊢
  cases Nn with
  | false =>
    rw [if_neg Bool.false_ne_true] at h
    cases fl with
    | nx Γ' S' =>
      intro σ' w' H' le fr st' en'
      obtain ⟨k1, k2, k3⟩ := key w' H' le fr S' st'
      rw [hn] at h
      exact h .non _ H' k1 k2 .non
    | rt x S' =>
      refine fq_rtP rfl ?_
      intro v w' H' le fr st' r
      obtain ⟨k1, k2, k3⟩ := key w' H' le fr S' st'
      rw [hn] at h
      cases x with
      | d d => exact h v _ H' k1 k2 (Rep.le k3 r)
      | cell c =>
        have h : RQ g _ (RepV g) w0 [] H (if c < S.length then .ok (.cell c) (S'.take S.length) else .bad) Q := h
        by_cases hc : c < S.length
        · rw [if_pos hc] at h
          refine h v _ H' k1 k2 ⟨by rw [k1.len, hn]; exact hc, fun a e => r.2 a ?_⟩
          have e : (w'.m.take S.length)[c]? = some (some a) := e
          rw [List.getElem?_take, if_pos hc] at e
          exact e
        · rw [if_neg hc] at h
          exact h.elim
    | bk Γ' S' => exact h.elim
    | ct Γ' S' => exact h.elim
    | bad => exact h.elim
    | exc c x Γ' S' =>
      intro σ' cls dx w' H' le fr st' en' er
      obtain ⟨k1, k2, k3⟩ := key w' H' le fr S' st'
      rw [hn] at h
      refine h cls dx _ H' k1 k2 ?_
      obtain ⟨C, e1, e2, e3⟩ := er
      refine ⟨C, e1, e2, e3.elim .inl fun ⟨d, v, z1, z2, z3, z4⟩ => .inr ⟨d, v, z1, z2, k3.navk z2 z3, Rep.le k3 z4⟩⟩
  | true =>
    rw [if_pos rfl] at h
    cases fl with
    | nx Γ' S' => exact h.elim
    | rt x S' =>
      refine fq_rtN rfl ?_
      cases x with
      | cell c =>
        have h : RQN g _ w0 [] H (if c < w0.m.length then .ok (.cell c) (S'.take w0.m.length) else .bad) Q := h
        by_cases hc : c < w0.m.length
        · rw [if_pos hc] at h
          exact h.elim
        · rw [if_neg hc] at h
          exact h.elim
      | d d =>
        cases d with
        | lst ds =>
          intro p vs' w' H' le fr h0 st' hp l
          obtain ⟨m, hd⟩ := w'
          have eh : hd = p :: w0.hid := fr.hid
          subst eh
          have l2 : Le ⟨m, p :: w0.hid⟩ H' ⟨m.take S.length, p :: w0.hid⟩ H' := le_take
          rw [hn] at h
          refine h p vs' ⟨m.take S.length, p :: w0.hid⟩ H' ⟨⟨le.trans l2 fun _ z => List.mem_cons_of_mem _ z, ?_, fun j a e => ?_⟩, rfl, h0⟩ st'.take hp (RepL.le l2 l)
          · show (m.take S.length).length = _
            have : w0.m.length ≤ m.length := fr.len
            rw [List.length_take, ← hn]
            omega
          · have e : (m.take S.length)[j]? = some (some a) := e
            rw [List.getElem?_take] at e
            split at e
            · exact fr.old j a (by show j < w0.m.length; omega) e
            · cases e
        | _ => exact h.elim
    | bk Γ' S' => exact h.elim
    | ct Γ' S' => exact h.elim
    | bad => exact h.elim
    | exc c x Γ' S' =>
      intro σ' cls dx w' H' le fr st' en' er
      obtain ⟨k1, k2, k3⟩ := key w' H' le fr S' st'
      rw [hn] at h
      refine h cls dx _ H' k1 k2 ?_
      obtain ⟨C, e1, e2, e3⟩ := er
      exact ⟨C, e1, e2, e3.elim .inl fun ⟨d, v, z1, z2, z3, z4⟩ => .inr ⟨d, v, z1, z2, k3.navk z2 z3, Rep.le k3 z4⟩⟩
theorem fn_mkX {P : Program} {w : World} {K : PySem.W.Frag} {mg : Str → Option Value} {base : Heap} {g : Gx} {x qual : Str} {st : Stmt} {f : Addr} {fd : FuncData} {N ps : List Str} {k extra : Nat} (Nn : Bool) (body : Nat → Sv) (F : Fun K x qual st f fd) (SC : FnScope N ps (defScope st)) (hm : mg x = some (.ref f)) (hb : Binds K fd ps []) (hx : N.length = ps.length + extra)
    (hbody : ∀ (cdv : Value) (A : Around) (outer : List PySem.Env) (s : Shared) (H : Hp) (E : XK), Room k (A.deeper (envOfC qual (defScope st) s.heap.objs.size f cdv)) → ∀ w0 : Wd,
      PSs (cxOf (L2.CX P w) P w K mg base N qual (defScope st) f cdv A outer s H E) (defBody st) (tS ⟨g, fun c d _ H' => E c d H', w0, H, Nn⟩ (body w0.m.length))) : FnX P w K mg base g (k + 1) x ps (funD extra body) Nn f fd := by
  exact ⟨hm, F.kp, hb, F.okX SC (fun vs H Q E h => h.1) fun cdv A outer s H vs Q E hr hsp => body_spD (np := ps.length) Nn body hx hbody cdv A outer s H vs Q E hr hsp⟩
/-- the law's promise from its denotation -/
def spLaw (K : PySem.W.Frag) : Sp := fun vs H Q _ => ∃ (a : Addr) (ns : List Int), vs = [.ref a] ∧ SqL K H a (ns.map V.int) ∧ ns.length ≤ 63 ∧ ∀ H', Q (.bl true) H'
theorem law_sp {g : Gx} {K : PySem.W.Frag} {d : List Val → Store → R Val} (hK : g.K = K) (hd : ∀ ns : List Int, ns.length ≤ 63 → d [.d (.scr ns)] [] = .ok (.d (.bl true)) []) (vs : List V) (H : Hp) (Q : VK) (E : XK) (h : spLaw K vs H Q E) : spD g d 1 false vs H Q E := by
  obtain ⟨a, ns, rfl, hs, hl, q⟩ := h
  refine ⟨rfl, ⟨[], []⟩, [], [.d (.scr ns)], ⟨rfl, fun k c e => by simp at e, fun k a e => by simp at e, fun j k a e => by simp at e, fun a z => by simp at z⟩, .cons ?_ .nil, ?_⟩
  · rw [← hK] at hs
    refine .scr ?_
    rcases hs with hs | hs
    · exact .inl ⟨hs, fun z => by rcases z with z | z <;> simp at z⟩
    · exact .inr hs
  · rw [if_neg Bool.false_ne_true, hd ns hl]
    intro v w' H' _ _ r
    cases r
    exact q H'
end Pd

/-! ### enumerate of a tuple, slices backward, sorted of a tuple: at the library's level -/
namespace Pd
open PySem PySem.Spec PyProof.Rows L2

section
variable {prog : Program} {w : World} {A : Around} {E : Value → Shared → Prop} {s : Shared}
set_option maxHeartbeats 1000000 in
theorem meets_enumerate_new1 {v : Value} {o : Obj} {H : Heap → Prop} (B : Begins v o H) :
    Meets (Builtin.«enumerate.__new__» ⟨[.type "enumerate", v], []⟩) (fun _ R s => H s.heap ∧
      R (.ok (.ret (.ref (s.heap.push o).objs.size))) { s with heap := (s.heap.push o).push { cls := .type "enumerate", data := .fields #[.none, .bool false, .ref s.heap.objs.size, rawInt 0, .none, .none] } }) :=
  .of_wp fun prog w A R s h => by
    obtain ⟨hp, g, d, tk, os⟩ := s; obtain ⟨h1, h⟩ := h
    have hsub := sub_enumerate
    have q1 : ∀ {A' : Around} {E : Value → Shared → Prop} {Q : Value → Shared → Prop}, Q (.ref hp.objs.size) ⟨hp.push o, g, d, tk, os⟩ → wpAny (model prog w) A' (pyIter v) Q E ⟨hp, g, d, tk, os⟩ :=
      fun q => B.iter prog w _ _ ⟨hp, g, d, tk, os⟩ _ h1 q
    wp_walk using q1
    refine wpAny_stack_any fun st => wpAny_pure ?_
    split
    · rename_i c _ _ _ _ _
      cases (c == Value.type "enumerate")
      · wp_walk using q1
        exact ⟨_, rfl, h⟩
      · wp_walk using q1
        exact ⟨_, rfl, h⟩
    · wp_walk using q1
      exact ⟨_, rfl, h⟩
theorem enum_begins1 {v : Value} {o : Obj} {H : Heap → Prop} {Q : Value → Shared → Prop} (B : Begins v o H) (h1 : H s.heap)
    (h : ∀ h', IsEnum h' (s.heap.objs.size + 1) s.heap.objs.size 0 .none → h'.get? s.heap.objs.size = some o → h'.objs.size = s.heap.objs.size + 2 →
      (∀ b o, s.heap.get? b = some o → h'.get? b = some o) → Q (.ref (s.heap.objs.size + 1)) { s with heap := h' }) :
    wpAny (model prog w) A (call (.type "enumerate") [v]) Q E s := by
  refine callType_new F.called_enumerate (by decide) (F.typeCall_enumerate_1 _) (F.newCall_enumerate_1 _) (fun obj => F.args_object_init_2 obj _) F.entry_enumerate_new
    (meets_enumerate_new1 B) ⟨h1, ?_⟩
  have hz : (s.heap.push o).objs.size = s.heap.objs.size + 1 := Heap.size_push ..
  show _ ∧ _
  rw [hz]
  have he : IsEnum ((s.heap.push o).push { cls := .type "enumerate", data := .fields #[.none, .bool false, .ref s.heap.objs.size, rawInt 0, .none, .none] }) (s.heap.objs.size + 1) s.heap.objs.size 0 .none := by
    have := Heap.get?_push_size (s.heap.push o) (o := { cls := .type "enumerate", data := .fields #[.none, .bool false, .ref s.heap.objs.size, rawInt 0, .none, .none] }) rfl
    rw [hz] at this; exact this
  refine ⟨⟨_, he, rfl⟩, h _ he (Heap.get?_push_of_some _ (Heap.get?_push_size _ B.free)) (by rw [Heap.size_push, hz]) fun b o x => Heap.get?_push_of_some _ (Heap.get?_push_of_some _ x)⟩
theorem collect_tup {l : Addr} {vs : List Value} {Q : List Value → Shared → Prop} (hl : IsTup s.heap l vs.toArray)
    (h : Q vs { s with heap := (s.heap.push (seqObj "list" #[] 0)).update s.heap.objs.size (Obj.mapSeq (· ++ vs.toArray)) }) (hsz : vs.length ≤ sizeLine) :
    wpAny (model prog w) A (collect (.ref l)) Q E s := by
  obtain ⟨o, ho, hc, n, hd⟩ := id hl
  unfold collect
  refine wpAny_bind (wpAny_runValue (codeAny_builtin entry_proto_collect' ?_))
  show wpAny _ _ (do again (.builtin "list.__iadd__" ⟨[← newList [], .ref l], []⟩)) _ _ s
  refine wpAny_bind (wpAny_newList (wpAny_pure ⟨Code.quiet_builtin _ (by decide +kernel), codeAny_builtin entry_list_iadd' ?_⟩))
  show wpAny _ _ (Builtin.List.listExtendWith (.ref s.heap.objs.size) (.ref l) (.ref s.heap.objs.size)) _ _ { s with heap := s.heap.push (seqObj "list" #[] 0) }
  unfold Builtin.List.listExtendWith
  have ho' : (s.heap.push (seqObj "list" #[] 0)).get? l = some o := Heap.get?_push_of_some _ ho
  refine wpAny_bind (wpAny_typeOf (T := "tuple") ⟨o, ho', hc⟩ ?_)
  have ht : (Value.type "tuple" == Value.type "tuple") = true := by rfl
  rw [if_pos (by rw [ht]; simp)]
  refine wpAny_bind (listItems_at ho' hd ?_)
  refine wpAny_bind (listItems_at (xs := #[]) (n := 0) (Heap.get?_push_size _ rfl) rfl ?_)
  rw [if_neg (by simp)]
  refine wpAny_bind (listUpdate_at (xs := #[]) (n := 0) (Heap.get?_push_size _ rfl) rfl ?_ (Nat.zero_le _) (by show (#[] ++ vs.toArray).size ≤ sizeLine + 1; simp only [Array.size_append, List.size_toArray, List.length_nil]; omega))
  refine wpAny_pure ?_
  show wpAny (model prog w) A (do
      let o ← load s.heap.objs.size
      match o.data with
      | .seq xs _ => pure xs.toList
      | _ => unsupported "internal:collect") Q E { s with heap := (s.heap.push (seqObj "list" #[] 0)).update s.heap.objs.size (Obj.mapSeq (· ++ vs.toArray)) }
  refine wpAny_bind (wpAny_load (get?_update_seq (Heap.get?_push_size _ rfl) _) ?_)
  show wpAny _ _ (pure ((#[] : Array Value) ++ vs.toArray).toList) Q E _
  rw [show ((#[] : Array Value) ++ vs.toArray).toList = vs by simp]
  exact wpAny_pure h
open SrtO in
theorem sorted_ordT {l : Addr} {vs : List Value} {ltv : Value → Value → Bool} {Q : Value → Shared → Prop} (O : Swo ltv) (hl : IsTup s.heap l vs.toArray) (hz : vs.length ≤ sizeLine)
    (hS : 2 ≤ vs.length → ∀ (h₁ : Heap) (a : Addr), h₁.get? a = some (seqObj "list" vs.toArray 0) → (∀ b o, s.heap.get? b = some o → b ≠ a ∧ h₁.get? b = some o) → SortableO prog w A.in1.in1 { s with heap := h₁ } a vs ltv)
    (h : ∀ out : List Value, Srtd ltv out → Stb ltv out vs → Q (.ref (s.heap.objs.size + 1)) { s with heap := sortedAll s.heap vs out.toArray }) :
    wpAny (model prog w) A (call (.builtin "sorted") [.ref l]) Q E s := by
  refine Calls.call_function_entry kind_sorted plain_sorted entry_sorted (args_sorted1 _) ?_
  unfold Builtin.«sorted»
  refine wpAny_bind (m := checkCount "sorted" 1 1 _) (wpAny_pure ?_)
  refine wpAny_bind (collect_tup hl ?_ hz)
  refine wpAny_bind (wpAny_newList ?_ hz)
  have hsz : ((s.heap.push (seqObj "list" #[] 0)).update s.heap.objs.size (Obj.mapSeq (· ++ vs.toArray))).objs.size = s.heap.objs.size + 1 := by
    rw [Heap.size_update, size_push']
  have hoL : (((s.heap.push (seqObj "list" #[] 0)).update s.heap.objs.size (Obj.mapSeq (· ++ vs.toArray))).push (seqObj "list" vs.toArray 0)).get? (s.heap.objs.size + 1) = some (seqObj "list" vs.toArray 0) := by
    rw [← hsz]; exact Heap.get?_push_size _ rfl
  have keep : ∀ b o, s.heap.get? b = some o → b ≠ s.heap.objs.size + 1 ∧ (((s.heap.push (seqObj "list" #[] 0)).update s.heap.objs.size (Obj.mapSeq (· ++ vs.toArray))).push (seqObj "list" vs.toArray 0)).get? b = some o := fun b o q => by
    have hlt : b < s.heap.objs.size := Heap.lt_size q
    refine ⟨Nat.ne_of_lt (Nat.lt_succ_of_lt hlt), Heap.get?_push_of_some _ ?_⟩
    rw [Heap.get?_update_ne _ _ _ _ (Nat.ne_of_lt hlt)]
    exact Heap.get?_push_of_some _ q
  show wpAny _ _ _ _ _ { s with heap := ((s.heap.push (seqObj "list" #[] 0)).update s.heap.objs.size (Obj.mapSeq (· ++ vs.toArray))).push (seqObj "list" vs.toArray 0) }
  rw [hsz]
  refine wpAny_bind (wpAny_holding (wpAny_call_entry slot_list_sort ⟨_, hoL, rfl⟩ entry_list_sort (list_sort_ord O hoL hz (fun h2 => hS h2 _ _ hoL keep) fun out hs hb => ⟨_, rfl, ?_⟩) (args_list_sort _)))
  exact wpAny_pure ⟨_, rfl, h out hs hb⟩
end

/-! ### enumerate of a list or a tuple -/
def IteT (K : PySem.W.Frag) (a : Addr) : It :=
  ⟨fun i H => ∃ (xs : List V) (x : V), SqT K H a xs ∧ xs[i]? = some x, fun i H v H' => ∃ T x, v = .ref T ∧ H T = none ∧ H' = upd H T (.tup [.int (i : Nat), x]) ∧ ∀ xs, SqT K H a xs → xs[i]? = some x, fun i H => ∃ xs : List V, SqT K H a xs ∧ xs.length = i⟩
theorem turn_enumT {P : Program} {w : World} {K : PySem.W.Frag} {elts : List Expr} {kk : Nat} {tpos : Pos} (a e it : Addr) :
    Turn P w K (.Tuple elts kk tpos) (IteT K a) [e, it] e (fun i h => (∃ old, IsEnum h e it ((i : Nat) : Int) old) ∧ h.IsTupleIter it a i ∧ e ≠ it ∧ e ≠ a ∧ a ≠ it) where
  mem := by simp
  obj := fun i h st b hb => by
    obtain ⟨⟨old, he⟩, ⟨o, ho, hc, hd⟩, _⟩ := st
    have e' : b = e ∨ b = it := by simpa using hb
    rcases e' with z | z
    · rw [z]; exact ⟨_, he, fun v q => nomatch q⟩
    · rw [z]; exact ⟨o, ho, fun v q => by rw [hd] at q; cases q⟩
  keep := fun i h h' st k => let ⟨⟨old, he⟩, hi, hne⟩ := st; ⟨⟨old, k e (by simp) _ he⟩, hi.at fun o q => k it (by simp) o q, hne⟩
  item := by
    intro X hP hw hK hc i pins s σ H E I hf st hg
    subst hP hw hK
    obtain ⟨⟨old, he⟩, hit, hne, hea, hai⟩ := st
    obtain ⟨xs, x, hq, hx⟩ := hg
    obtain ⟨its, rv, p, hz⟩ := I.tuple hq
    obtain ⟨u, hu, ru⟩ := rv.get hx
    have hel : e < s.heap.objs.size := Heap.lt_size he
    have hil : it < s.heap.objs.size := by obtain ⟨_, q, _⟩ := hit; exact Heap.lt_size q
    have hal : a < s.heap.objs.size := by obtain ⟨_, q, _⟩ := p; exact Heap.lt_size q
    have Dr := Draws.tuple (prog := X.prog) (w := X.w) (A := X.A.in1) (I.ok.hd hc) it a hai its.toArray
    have hlen : i < its.toArray.size := by
      have := List.getElem?_eq_some_iff.mp hu
      obtain ⟨q, _⟩ := this
      simpa using q
    refine wpAny_pyNext_enum_itemD Dr he ⟨hit, p⟩ hlen hne (by simp [hne, hea]) fun x' h' tk px ho hit' hT hsz hk => ?_
    have ex : x' = u := by
      have q : its.toArray[i]? = some x' := px
      have q2 : its.toArray[i]? = some u := by simpa using hu
      rw [q] at q2
      exact Option.some.inj q2
    subst ex
    refine ⟨_, rfl, wpAny_letOwnedTupleGo_enum (s := { s with heap := h', toks := tk + 1 }) ho fun h'' he' sb => ?_⟩
    have hT2 : h''.get? s.heap.objs.size = some { cls := .type "tuple", data := .seq #[.int i tk, x'] } := (sb.2 _ (Nat.ne_of_gt hel)).trans hT
    have new : ObjOk X.prog X.w (upd H s.heap.objs.size (.tup [.int (i : Nat), x])) h'' s.heap.objs.size (.tup [.int (i : Nat), x]) :=
      ⟨by show 2 ≤ sizeLine; decide, [.int i tk, x'], .cons ⟨_, rfl⟩ (.cons ru .nil), ⟨_, hT2, rfl, _, rfl⟩⟩
    have I1 : Inv X pins σ (upd H s.heap.objs.size (.tup [.int (i : Nat), x])) { s with heap := h'', toks := tk + 1 } :=
      I.turnedNew (ch := [e, it]) (fun b ob hb q => (sb.2 b (fun z => hb (by simp [z]))).trans (hk b ob (fun z => hb (by simp [z])) (fun z => hb (by simp [z])) q)) hf (Nat.le_refl _) new
    refine ⟨.ref s.heap.objs.size, _, I1, rfl, ⟨_, x, rfl, I.hok.fresh (Nat.le_refl _), rfl, fun ys hy => by rw [I.tuple_inj hy hq]; exact hx⟩, ⟨⟨x', ?_⟩, hit'.1.at fun o q => (sb.2 it (Ne.symm hne)).trans q, hne, hea, hai⟩, fun b hb => ?_⟩
    · have e1 : ((i + 1 : Nat) : Int) = (i : Int) + 1 := by omega
      rw [e1]; exact he'
    · have hb' : b < s.heap.objs.size := by
        have e' : b = e ∨ b = it := by simpa using hb
        rcases e' with z | z
        · rw [z]; exact hel
        · rw [z]; exact hil
      rw [upd_ne (Nat.ne_of_lt hb')]
      exact (hf b hb).1
  done := by
    intro X hP hw hK hc i pins s σ H E I hf st hg
    subst hP hw hK
    obtain ⟨⟨old, he⟩, hit, hne, hea, hai⟩ := st
    obtain ⟨xs, hq, hx⟩ := hg
    obtain ⟨its, rv, p, hz⟩ := I.tuple hq
    obtain ⟨f0, f1, f2, f3, f4, f5⟩ := hf it (by simp)
    have hl := rv.length
    have Dr := Draws.tuple (prog := X.prog) (w := X.w) (A := X.A.in1) (I.ok.hd hc) it a hai its.toArray
    have ei : i = its.toArray.size := by
      simp only [List.size_toArray]
      omega
    exact wpAny_pyNext_enum_endD Dr he ⟨by rw [← ei]; exact hit, p⟩ fun h' eb => ⟨rfl, I.turned (t' := s.toks) (fun b o hb q => eb b o hb q) f0 f1 f3 f4 f5⟩
  self := fun A i s Q E st h => let ⟨⟨_, he⟩, _⟩ := st; wpAny_pyIter_enum he h
def iEnA (K : PySem.W.Frag) (ta : TA) : TI := fun σ H R => ta σ H fun vs H1 => ∃ a xs, vs = [.ref a] ∧ ((SqL K H1 a xs ∧ R (Ite K a) H1) ∨ (SqT K H1 a xs ∧ R (IteT K a) H1))
theorem pi_enA {X : Cx} {e : Expr} {ta : TA} {p pos tpos : Pos} {elts : List Expr} {kk : Nat} (hg : Gl X "enumerate") (hm : X.mg "enumerate" = none) (ha : PA X [e] ta) (hs : starEach [e] X.env = [(false, eval e X.env)] := by rfl) :
    PI X (.Tuple elts kk tpos) (.Call (.Name "enumerate" p) [e] [] pos) (iEnA X.K ta) := by
  refine ⟨fun pins s σ H R I h => ?_⟩
  refine Call_ (ld_blt I hg hm boot_enumerate (PyProof.Rows.callWith_type1 (thn (ha.run pos pins s σ H _ I h) fun us s1 ⟨vs, H1, I1, r1, q1⟩ => ?_) hs rfl))
  obtain ⟨a, xs, ex, q⟩ := q1
  subst ex
  cases r1 with
  | cons r rr =>
    cases rr
    cases r
    have fresh2 : ∀ b, b ∈ [s1.heap.objs.size + 1, s1.heap.objs.size] → FpOk X pins H1 b := fun b hb => by
      have e' : b = s1.heap.objs.size + 1 ∨ b = s1.heap.objs.size := by simpa using hb
      have hle : s1.heap.objs.size ≤ b := by
        rcases e' with z | z
        · rw [z]; exact Nat.le_add_right _ _
        · rw [z]; exact Nat.le_refl _
      exact I1.fpOk hle (I1.hok.fresh hle)
    rcases q with ⟨hq, q⟩ | ⟨hq, q⟩
    · obtain ⟨its, rv, p', hz⟩ := I1.list hq
      refine call_enumerate_list p'.isList fun h' he hit hsz hk => wpAny_pyIter_enum he ?_
      have I2 : Inv X pins σ H1 { s1 with heap := h' } := I1.kept (t' := s1.toks) hk
      exact ⟨s1.heap.objs.size + 1, [s1.heap.objs.size + 1, s1.heap.objs.size], _, _, H1, rfl, I2, turn_enum a (s1.heap.objs.size + 1) s1.heap.objs.size, ⟨⟨.none, he⟩, hit, Nat.succ_ne_self _⟩, fresh2, q⟩
    · obtain ⟨its, rv, p', hz⟩ := I1.tuple hq
      have hal : a < s1.heap.objs.size := by obtain ⟨_, q, _⟩ := p'; exact Heap.lt_size q
      refine enum_begins1 (begins_tuple a its.toArray) (show s1.heap.IsTuple a its.toArray from p') fun h' he hit hsz hk => wpAny_pyIter_enum he ?_
      have I2 : Inv X pins σ H1 { s1 with heap := h' } := I1.kept (t' := s1.toks) hk
      exact ⟨s1.heap.objs.size + 1, [s1.heap.objs.size + 1, s1.heap.objs.size], _, _, H1, rfl, I2, turn_enumT a (s1.heap.objs.size + 1) s1.heap.objs.size, ⟨⟨.none, he⟩, ⟨_, hit, rfl, rfl⟩, Nat.succ_ne_self _, Ne.symm (Nat.ne_of_lt (Nat.lt_succ_of_lt hal)), Nat.ne_of_lt hal⟩, fresh2, q⟩
section
variable {X : Cx} {g : Gx} {W : WX} {a b c tg : Expr} {ea eb ec : Ev} {pos p p2 : Pos} {w : Wd} {H : Hp} {ds es : List D}
theorem items_enumT {a : Addr} {vs : List V} (h : SqT' g w H a vs) (l : RepL g w H ds vs) : Items g w H (ds.zipIdx.map fun p => .tup [.int (p.2 : Nat), p.1]) (IteT g.K a) := by
  refine items_pair (enum_len ds) (f := fun i => ds[i]?.map fun z => (D.int (i : Nat), z)) (fun i d h => enum_get ds i d h) fun w1 S1 H1 st le => ?_
  have h1 : SqT g.K H1 a vs := (h.le le).sq
  have l1 := RepL.le le l
  refine ⟨fun i hi => ?_, ⟨vs, h1, by rw [l.length]⟩⟩
  obtain ⟨v, hv, _⟩ := l.get (List.getElem?_eq_getElem hi)
  refine ⟨⟨vs, v, h1, hv⟩, fun x H2 y => ?_⟩
  obtain ⟨T, u, rfl, hT, rfl, q⟩ := y
  refine ⟨T, _, u, rfl, hT, rfl, fun c d e => ?_⟩
  cases e2 : ds[i]? with
  | none => rw [e2] at e; cases e
  | some z =>
    rw [e2] at e
    cases e
    obtain ⟨u', hu, ru⟩ := l1.get e2
    have := q vs h1
    rw [hu] at this
    cases this
    exact ⟨.int _, ru⟩
theorem i_enum {elts : List Expr} {kk : Nat} {tpos : Pos} (hK : g.K = X.K) (hg : Gl X "enumerate") (hm : X.mg "enumerate" = none) (ha : PE X a (tE g W ea)) (hs : starEach [a] X.env = [(false, eval a X.env)] := by rfl) :
    PI X (.Tuple elts kk tpos) (.Call (.Name "enumerate" p) [a] [] pos) (tI g W (itEn ea)) :=
  (pi_enA hg hm (pa_cons ha pa_nil hs) hs).imp fun σ H Q ⟨w, Γ, S, st, en, h⟩ => tX_seq st en h fun u H1 x S1 w1 s1 st1 en1 r1 h1 => by
    split at h1
    · cases r1 with
      | lst q1 q2 q3 =>
        rw [← hK]
        exact ⟨_, _, rfl, .inl ⟨.inl (.inl q1), RQ.okQ h1 st1 (items_enum q1 q2 q3)⟩⟩
    · cases r1 with
      | tup q1 q3 =>
        rw [← hK]
        exact ⟨_, _, rfl, .inr ⟨q1.sq, RQ.okQ h1 st1 (items_enumT q1 q3)⟩⟩
    · exact h1.elim
end

/-! ### slices backward -/
section
variable {prog : Program} {w : World} {A : Around} {E : Value → Shared → Prop} {s : Shared}
theorem places_rev (n : Nat) : Builtin.Slice.slicePlaces ((n : Int) - 1) (-1) (-1) = n := by
  unfold Builtin.Slice.slicePlaces
  rw [if_neg (by decide)]
  have e : (-(-1) : Int) = 1 := by decide
  rw [e]
  by_cases h : (n : Int) - 1 > -1
  · rw [if_pos h, Int.ediv_one]
    omega
  · rw [if_neg h]
    omega
theorem sliceApplied_rev {sl : Addr} {n : Nat} {vl vu vs : Value} {Q : Int × Int × Nat → Shared → Prop} (hs : s.heap.IsSliceOf sl vl vu vs) (pl : IsPart vl none) (pu : IsPart vu none) (ps : IsPart vs (some (-1)))
    (h : Q ((n : Int) - 1, -1, n) s) : wpAny (model prog w) A (Builtin.Slice.sliceApplied (.ref sl) (pure (n : Int))) Q E s := by
  obtain ⟨os, hos, hcs, hds⟩ := id hs
  unfold Builtin.Slice.sliceApplied Builtin.Slice.sliceFields
  refine wpAny_bind (wpAny_bind (wpAny_field hos hds (x := vl) rfl (wpAny_bind (wpAny_field hos hds (x := vu) rfl (wpAny_bind (wpAny_field hos hds (x := vs) rfl (wpAny_pure ?_)))))))
  refine wpAny_bind (HT.slicePart_ ps ?_)
  show wpAny _ _ (if ((-1 : Int) == 0) = true then _ else _) _ _ s
  rw [if_neg (by decide)]
  refine wpAny_bind (HT.slicePart_ pl (wpAny_bind (HT.slicePart_ pu (wpAny_bind (wpAny_pure ?_)))))
  show wpAny _ _ (pure ((n : Int) - 1, (-1 : Int), Builtin.Slice.slicePlaces ((n : Int) - 1) (-1) (-1))) _ _ s
  rw [places_rev]
  exact wpAny_pure h
theorem pick_rev (xs : Array Value) : ((List.range xs.size).filterMap fun (m : Nat) => xs[((xs.size : Int) - 1 + (m : Int) * -1).toNat]?).toArray = xs.toList.reverse.toArray := by
  have e : (List.range xs.size).filterMap (fun (m : Nat) => xs[((xs.size : Int) - 1 + (m : Int) * -1).toNat]?) = ((List.range xs.size).map (fun k => xs.size - 1 - k)).filterMap (xs[·]?) := by
    rw [List.filterMap_map]
    congr 1
    funext m
    have : ((xs.size : Int) - 1 + (m : Int) * -1).toNat = xs.size - 1 - m := by omega
    show xs[((xs.size : Int) - 1 + (m : Int) * -1).toNat]? = xs[xs.size - 1 - m]?
    rw [this]
  rw [e, PySem.W.krv_range, List.filterMap_reverse, PySem.W.krv_all]
theorem getItem_tuple_rev {t sl : Addr} {items : Array Value} {vl vu vs : Value} {Q : Value → Shared → Prop} (ht : IsTup s.heap t items) (hs : s.heap.IsSliceOf sl vl vu vs) (pl : IsPart vl none) (pu : IsPart vu none) (ps : IsPart vs (some (-1)))
    (h : Q (.ref s.heap.objs.size) { s with heap := s.heap.push { cls := .type "tuple", data := .seq items.toList.reverse.toArray } })
    (hsz : items.size ≤ sizeLine) : wpAny (model prog w) A (getItem (.ref t) (.ref sl)) Q E s := by
  have htake : sizeOk (.seq items.toList.reverse.toArray) := by
    show items.toList.reverse.toArray.size ≤ sizeLine
    rw [List.size_toArray, List.length_reverse, Array.length_toList]
    exact hsz
  obtain ⟨os, hos, hcs, hds⟩ := id hs
  have hTs : s.TypeIs (.ref sl) "slice" := ⟨os, hos, hcs⟩
  unfold getItem
  try with_reducible refine wpAny_holding ?_
  first | refine wpAny_bind (wpAny_pure ?_) | skip
  refine wpAny_bind (wpAny_sequenceKey ht.typeIs (by decide) ?_)
  refine wpAny_bind (wpAny_callSpecial?_slot (name := Str.ofString "__getitem__") ht.typeIs PyProof.Rows.slot_tuple_getitem
    (wpAny_call_entry PyProof.Rows.slot_tuple_getitem ht.typeIs entry_tuple_getitem ?_ (args_tuple_getitem _ _)))
  show wpAny _ _ (Builtin.Tuple.tupleItemsOf (.ref t) >>= _) _ _ s
  refine wpAny_bind (tupleItemsOf_ ht ?_)
  refine wpAny_bind (wpAny_typeOf hTs ?_)
  rw [if_pos (by decide)]
  refine wpAny_bind (sliceApplied_rev hs pl pu ps ?_)
  have hno : ¬ ((((items.size : Int) - 1) == 0 && (-1 : Int) == 1 && items.size == items.size) = true) := by
    intro q
    rw [Bool.and_eq_true, Bool.and_eq_true] at q
    have q1 : (-1 : Int) = 1 := eq_of_beq q.1.2
    exact absurd q1 (by decide)
  show wpAny _ _ (if (((items.size : Int) - 1) == 0 && (-1 : Int) == 1 && items.size == items.size) = true then _ else _) _ _ s
  rw [if_neg hno, pick_rev]
  first
    | exact wpAny_bind (m := Builtin.Tuple.tupleExact _) (wpAny_newObj_type (wpAny_pure ⟨_, rfl, wpAny_pure h⟩) htake)
    | exact wpAny_bind (m := Builtin.Tuple.tupleExact _) (wpAny_newObj_type (wpAny_bind (wpAny_pure (wpAny_pure ⟨_, rfl, wpAny_pure h⟩))) htake)
    | exact wpAny_bind (wpAny_bind (m := Builtin.Tuple.tupleExact _) (wpAny_newObj_type (wpAny_pure (wpAny_pure ⟨_, rfl, wpAny_pure h⟩)) htake))
    | exact wpAny_bind (wpAny_bind (m := Builtin.Tuple.tupleExact _) (wpAny_newObj_type (wpAny_pure ⟨_, rfl, wpAny_pure h⟩) htake))
end
def tRev2 (K : PySem.W.Frag) (te : TE) : TE := fun σ H Q => te σ H fun x H1 => ∃ a xs, x = .ref a ∧ ((SqL K H1 a xs ∧ ∀ p, H1 p = none → Q (.ref p) (upd H1 p (.lst xs.reverse))) ∨ (SqT K H1 a xs ∧ ∀ p, H1 p = none → Q (.ref p) (upd H1 p (.tup xs.reverse))))
theorem pe_rev2 {X : Cx} {e : Expr} {te : TE} {k : Nat} {p1 p2 p3 pos : Pos} (he : PE X e te) : PE X (.Subscript e (.Slice none none (some (.UnaryOp .USub (.Constant (.int 1) k p1) p2)) p3) pos) (tRev2 X.K te) := by
  refine ⟨fun pins s σ H Q I h => ?_⟩
  refine Subscript_ (thn (he.run pins s σ H _ I h) fun v s1 ⟨x, H1, I1, r1, q1⟩ => ?_)
  obtain ⟨a, xs, ex, q⟩ := q1
  subst ex
  cases r1
  have hst : PO X (some (.UnaryOp .USub (.Constant (.int 1) k p1) p2)) (tPart (tUn (rU fun i => .int (-i)) (tC (.int 1)))) := po_some (pe_un un_neg pe_int)
  refine wpAny_Slice (thn (po_none.run pins s1 σ H1 (fun o H2 => o = none ∧ H2 = H1) I1 ⟨rfl, rfl⟩) fun vl s2 ⟨l, H2, I2, pl, el, e2⟩ => ?_)
  subst el e2
  refine thn (po_none.run pins s2 σ H2 (fun o H3 => o = none ∧ H3 = H2) I2 ⟨rfl, rfl⟩) fun vu s3 ⟨u, H3, I3, pu, eu, e3⟩ => ?_
  subst eu e3
  refine thn (hst.run pins s3 σ H3 (fun o H4 => o = some (-1) ∧ H4 = H3) I3 ⟨1, rfl, -1, rfl, rfl, rfl⟩) fun vs s4 ⟨o, H4, I4, ps, eo, e4⟩ => ?_
  subst eo e4
  have I5 : Inv X pins σ H4 { s4 with heap := s4.heap.push { cls := .type "slice", data := .fields #[vl, vu, vs] } } := I4.kept (t' := s4.toks) fun b ob q => Heap.get?_push_of_some _ q
  show wpAny (model X.prog X.w) X.A (subscriptTail e (.Slice none none (some (.UnaryOp .USub (.Constant (.int 1) k p1) p2)) p3) (.ref a) (.ref s4.heap.objs.size)) (EP X pins σ Q) X.xe { s4 with heap := s4.heap.push { cls := .type "slice", data := .fields #[vl, vu, vs] } }
  rcases q with ⟨hx, q⟩ | ⟨hx, q⟩
  · obtain ⟨its, r, ht, hz⟩ := I5.list hx
    have hlen := r.length
    refine tail_any (ops := [.ref a, .ref s4.heap.objs.size]) ht.isList.typeIs (PySem.slot_list_getitem.lookup) ?_ (by with_unfolding_all rfl)
    refine wpAny_getItem_list_slice ht.isList (Heap.IsSliceOf.new _ vl vu vs) pl pu ps (by decide) ?_ (by rw [List.size_toArray]; omega)
    rw [PySem.W.krv_pick]
    refine ⟨.ref _, _, I5.laid (t' := s4.toks) (o := .lst xs.reverse) (fun b ob q => Heap.get?_push_of_some _ q) (Nat.le_refl _) ?_, rfl, q _ (I5.hok.fresh (Nat.le_refl _))⟩
    exact ⟨by rw [List.length_reverse]; exact hz, _, 0, r.reverse, Heap.get?_push_size _ rfl⟩
  · obtain ⟨its, r, ht, hz⟩ := I5.tuple hx
    have hlen := r.length
    refine tail_any (ops := [.ref a, .ref s4.heap.objs.size]) ht.typeIs (PyProof.Rows.slot_tuple_getitem.lookup) ?_ (by with_unfolding_all rfl)
    refine getItem_tuple_rev ht (Heap.IsSliceOf.new _ vl vu vs) pl pu ps ?_ (by rw [List.size_toArray]; omega)
    refine ⟨.ref _, _, I5.laid (t' := s4.toks) (o := .tup xs.reverse) (fun b ob q => Heap.get?_push_of_some _ q) (Nat.le_refl _) ?_, rfl, q _ (I5.hok.fresh (Nat.le_refl _))⟩
    exact ⟨by rw [List.length_reverse]; exact hz, _, r.reverse, IsTup.new _ _⟩
def fRev (x : Val) (S : Store) : R Val := match rd S x with
  | some (.lst ds) => .ok (.d (.lst ds.reverse)) S
  | some (.tup ds) => .ok (.d (.tup ds.reverse)) S
  | _ => .bad
/-- sorted(..) of whole numbers -/
def fSorted (x : Val) (S : Store) : R Val := match rd S x with
  | some (.lst ds) => match asInts ds with | some ns => .ok (.d (.lst ((ns.mergeSort (fun a b => decide (a ≤ b))).map .int))) S | none => .bad
  | some (.tup ds) => match asInts ds with | some ns => .ok (.d (.lst ((ns.mergeSort (fun a b => decide (a ≤ b))).map .int))) S | none => .bad
  | _ => .bad
theorem sorted_one {ns ms : List Int} (hp : ms.Perm ns) (hs : ms.Pairwise (· ≤ ·)) : ms = ns.mergeSort (fun a b => decide (a ≤ b)) := by
  have h1 : (ns.mergeSort (fun a b => decide (a ≤ b))).Pairwise (fun a b => decide (a ≤ b) = true) := List.pairwise_mergeSort (by intro a b c h1 h2; simp only [decide_eq_true_eq] at *; omega) (by intro a b; simp only [Bool.or_eq_true, decide_eq_true_eq]; omega) ns
  have h2 : ms.Pairwise (fun a b => decide (a ≤ b) = true) := hs.imp fun h => decide_eq_true h
  have hpp : ms.Perm (ns.mergeSort (fun a b => decide (a ≤ b))) := hp.trans (List.mergeSort_perm ns _).symm
  refine List.Perm.eq_of_pairwise ?_ h2 h1 hpp
  intro a b _ _ h3 h4
  simp only [decide_eq_true_eq] at h3 h4
  omega
def rSorted2 (K : PySem.W.Frag) : List V → Hp → VK → Prop := fun vs H Q => ∃ (a : Addr) (ns : List Int), vs = [V.ref a] ∧ (SqL K H a (ns.map V.int) ∨ SqT K H a (ns.map V.int)) ∧
  ∀ (p : Addr), H p = none → Q (.ref p) (upd H p (.lst ((ns.mergeSort (fun a b => decide (a ≤ b))).map V.int)))
theorem cr_sorted2 {X : Cx} : CallR X (.builtin "sorted") (rSorted2 X.K) := by
  intro pins s σ H vs us Q I r h
  obtain ⟨a, ns, rfl, hs, q⟩ := h
  rcases hs with hs | hs
  · refine cr_sortedI pins s σ H _ us Q I r ⟨a, ns, rfl, hs, fun ns' p h1 h2 hp => ?_⟩
    rw [sorted_one h1 h2]
    exact q p hp
  · obtain ⟨its, rv, hl, hz⟩ := I.tuple hs
    rw [Vals.ref1 r]
    have hi := rv.ints
    refine sorted_ordT SrtO.swo_int hl (by rw [← rv.length]; exact hz) (fun h2 h₁ a' _ _ => SrtO.ints_sortable hi h2) fun out h1 h2 => ?_
    obtain ⟨k1, k2, k3⟩ := SrtO.ints_out hi h1 h2
    obtain ⟨ep, he'⟩ := PyProof.Rows.sortedAll_at s.heap its out.toArray
    have hlen : ((out.map SrtO.iv).map V.int).length ≤ sizeLine := by
      rw [List.length_map, k2.length_eq]
      rw [List.length_map] at hz
      exact hz
    refine ⟨.ref _, upd H (s.heap.objs.size + 1) (.lst ((out.map SrtO.iv).map V.int)), I.laid (t' := s.toks) (fun _ _ => PyProof.Rows.sortedAll_old) (Nat.le_succ _) ⟨hlen, out, ep, vals_of_ints k1, he'⟩, rfl, ?_⟩
    rw [sorted_one k2 k3]
    exact q _ (I.hok.fresh (Nat.le_succ _))
section
variable {X : Cx} {g : Gx} {W : WX} {a b c tg : Expr} {ea eb ec : Ev} {pos p p2 p3 p1 : Pos} {k : Nat}
theorem p_rev (hK : g.K = X.K) (ha : PE X a (tE g W ea)) : PE X (.Subscript a (.Slice none none (some (.UnaryOp .USub (.Constant (.int 1) k p1) p2)) p3) pos) (tE g W (eUn fRev ea)) :=
  (pe_rev2 ha).imp fun σ H Q ⟨w, Γ, S, st, en, h⟩ => tX_seq st en h fun u H1 y S1 w1 s1 st1 en1 r1 q => by
    rw [← hK]
    unfold fRev at q
    split at q
    · rename_i ds e
      obtain ⟨a, vs, rfl, h1, l⟩ := rd_lst st1 r1 e
      exact ⟨a, vs, rfl, .inl ⟨.inl (.inl h1), fun p hp => RQ.newQ q st1 hp (rep_lst st1 hp l.reverse)⟩⟩
    · rename_i ds e
      obtain ⟨a, vs, rfl, h1, l⟩ := rd_tup r1 e
      exact ⟨a, vs, rfl, .inr ⟨h1.sq, fun p hp => RQ.newQ q st1 hp (rep_tup st1 hp l.reverse)⟩⟩
    · exact q.elim
theorem c1_sorted : OpC1 g (rSorted2 g.K) fSorted := fun W w S H σ x u Q st r1 q => by
  unfold fSorted at q
  split at q
  · rename_i ds e
    split at q
    · rename_i ns en
      obtain ⟨a, vs, rfl, h1, l⟩ := rd_lst st r1 e
      rw [asInts_eq en] at l
      have ev := l.ints
      subst ev
      exact ⟨a, ns, rfl, .inl (.inl (.inl h1)), fun p hp => RQ.newQ q st hp (rep_lst st hp RepL.ofInts)⟩
    · exact q.elim
  · rename_i ds e
    split at q
    · rename_i ns en
      obtain ⟨a, vs, rfl, h1, l⟩ := rd_tup r1 e
      rw [asInts_eq en] at l
      have ev := l.ints
      subst ev
      exact ⟨a, ns, rfl, .inr h1.sq, fun p hp => RQ.newQ q st hp (rep_lst st hp RepL.ofInts)⟩
    · exact q.elim
  · exact q.elim
theorem p_sorted (hK : g.K = X.K) (hg : Gl X "sorted") (hm : X.mg "sorted" = none) (ha : PE X a (tE g W ea)) (he : starEach [a] X.env = (false, eval a X.env) :: starEach [] X.env := by rfl) (hpl : (backTo pos (starEach [] X.env)).any (·.1) = false := by rfl) :
    PE X (.Call (.Name "sorted" p) [a] [] pos) (tE g W (eUn fSorted ea)) := p_call1 (id := "sorted") cr_sorted2 (by rw [← hK]; exact c1_sorted) hg hm (by decide +kernel) ha (by decide) (by decide) he hpl

/-! ### operators in short -/
variable {j : Nat}
theorem p_add (hK : g.K = X.K) (ha : PE X a (tE g W ea)) (hb : PE X b (tE g W eb)) : PE X (.BinOp a .Add b pos) (tE g W (eBin fAdd ea eb)) := p_bin op_add4 (by rw [← hK]; exact o2_add) ha hb
theorem p_sub (ha : PE X a (tE g W ea)) (hb : PE X b (tE g W eb)) : PE X (.BinOp a .Sub b pos) (tE g W (eBin fSub ea eb)) := p_bin op_sub o2_sub ha hb
theorem p_mul (hK : g.K = X.K) (ha : PE X a (tE g W ea)) (hb : PE X b (tE g W eb)) : PE X (.BinOp a .Mult b pos) (tE g W (eBin fMul ea eb)) := p_bin op_mul3 (by rw [← hK]; exact o2_mul) ha hb
theorem p_div (ha : PE X a (tE g W ea)) (hb : PE X b (tE g W eb)) : PE X (.BinOp a .FloorDiv b pos) (tE g W (eBin fDiv ea eb)) := p_bin op_fdivW o2_div ha hb
theorem p_mod (ha : PE X a (tE g W ea)) (hb : PE X b (tE g W eb)) : PE X (.BinOp a .Mod b pos) (tE g W (eBin fMod ea eb)) := p_bin op_mod o2_mod ha hb
theorem p_pow (ha : PE X a (tE g W ea)) (hb : PE X b (tE g W eb)) : PE X (.BinOp a .Pow b pos) (tE g W (eBin fPow ea eb)) := p_bin op_powW o2_pow ha hb
theorem p_neg (ha : PE X a (tE g W ea)) : PE X (.UnaryOp .USub a pos) (tE g W (eUn fNeg ea)) := p_un un_neg o1_neg ha
theorem p_lt (ha : PE X a (tE g W ea)) (hb : PE X b (tE g W eb)) : PE X (.Compare a [.Lt] [b] pos) (tE g W (eBin fLt ea eb)) := p_cmp op_lt o2_lt ha hb
theorem p_le (ha : PE X a (tE g W ea)) (hb : PE X b (tE g W eb)) : PE X (.Compare a [.LtE] [b] pos) (tE g W (eBin fLe ea eb)) := p_cmp op_le o2_le ha hb
theorem p_gt (ha : PE X a (tE g W ea)) (hb : PE X b (tE g W eb)) : PE X (.Compare a [.Gt] [b] pos) (tE g W (eBin fGt ea eb)) := p_cmp op_gt o2_gt ha hb
theorem p_ge (ha : PE X a (tE g W ea)) (hb : PE X b (tE g W eb)) : PE X (.Compare a [.GtE] [b] pos) (tE g W (eBin fGe ea eb)) := p_cmp op_ge o2_ge ha hb
theorem p_eq (hK : g.K = X.K) (hr : Room j X.A) (ha : PE X a (tE g W ea)) (hb : PE X b (tE g W eb)) : PE X (.Compare a [.Eq] [b] pos) (tE g W (eBin fEq ea eb)) := p_cmp (op_eqD hr.units) (by rw [← hK]; exact o2_eq) ha hb
theorem p_ne (hK : g.K = X.K) (hr : Room j X.A) (ha : PE X a (tE g W ea)) (hb : PE X b (tE g W eb)) : PE X (.Compare a [.NotEq] [b] pos) (tE g W (eBin fNe ea eb)) := p_cmp (op_neD hr.units) (by rw [← hK]; exact o2_ne) ha hb
theorem t_lt (ha : PE X a (tE g W ea)) (hb : PE X b (tE g W eb)) : PT X (.Compare a [.Lt] [b] pos) (tT g W (eTest (eBin fLt ea eb))) := pt_cmp' op_lt o2_lt ha hb
theorem t_le (ha : PE X a (tE g W ea)) (hb : PE X b (tE g W eb)) : PT X (.Compare a [.LtE] [b] pos) (tT g W (eTest (eBin fLe ea eb))) := pt_cmp' op_le o2_le ha hb
theorem t_gt (ha : PE X a (tE g W ea)) (hb : PE X b (tE g W eb)) : PT X (.Compare a [.Gt] [b] pos) (tT g W (eTest (eBin fGt ea eb))) := pt_cmp' op_gt o2_gt ha hb
theorem t_ge (ha : PE X a (tE g W ea)) (hb : PE X b (tE g W eb)) : PT X (.Compare a [.GtE] [b] pos) (tT g W (eTest (eBin fGe ea eb))) := pt_cmp' op_ge o2_ge ha hb
theorem t_eq (hK : g.K = X.K) (hr : Room j X.A) (ha : PE X a (tE g W ea)) (hb : PE X b (tE g W eb)) : PT X (.Compare a [.Eq] [b] pos) (tT g W (eTest (eBin fEq ea eb))) := pt_cmp' (op_eqD hr.units) (by rw [← hK]; exact o2_eq) ha hb
theorem t_ne (hK : g.K = X.K) (hr : Room j X.A) (ha : PE X a (tE g W ea)) (hb : PE X b (tE g W eb)) : PT X (.Compare a [.NotEq] [b] pos) (tT g W (eTest (eBin fNe ea eb))) := pt_cmp' (op_neD hr.units) (by rw [← hK]; exact o2_ne) ha hb
theorem p_chLeLe (ha : PE X a (tE g W ea)) (hb : PE X b (tE g W eb)) (hc : PE X c (tE g W ec)) (hm : lastMarks [.LtE, .LtE] [b, c] = false := by with_unfolding_all rfl) : PE X (.Compare a [.LtE, .LtE] [b, c] pos) (tE g W (eChain fLe fLe ea eb ec)) := p_chain op_le o2_le op_le o2_le ha hb hc hm
theorem p_chLeLt (ha : PE X a (tE g W ea)) (hb : PE X b (tE g W eb)) (hc : PE X c (tE g W ec)) (hm : lastMarks [.LtE, .Lt] [b, c] = false := by with_unfolding_all rfl) : PE X (.Compare a [.LtE, .Lt] [b, c] pos) (tE g W (eChain fLe fLt ea eb ec)) := p_chain op_le o2_le op_lt o2_lt ha hb hc hm
theorem p_chLtLe (ha : PE X a (tE g W ea)) (hb : PE X b (tE g W eb)) (hc : PE X c (tE g W ec)) (hm : lastMarks [.Lt, .LtE] [b, c] = false := by with_unfolding_all rfl) : PE X (.Compare a [.Lt, .LtE] [b, c] pos) (tE g W (eChain fLt fLe ea eb ec)) := p_chain op_lt o2_lt op_le o2_le ha hb hc hm
theorem t_chLeLe (ha : PE X a (tE g W ea)) (hb : PE X b (tE g W eb)) (hc : PE X c (tE g W ec)) (hm : lastMarks [.LtE, .LtE] [b, c] = false := by with_unfolding_all rfl) : PT X (.Compare a [.LtE, .LtE] [b, c] pos) (tT g W (eTest (eChain fLe fLe ea eb ec))) := pt_chain' op_le o2_le op_le o2_le ha hb hc hm
theorem t_chLeLt (ha : PE X a (tE g W ea)) (hb : PE X b (tE g W eb)) (hc : PE X c (tE g W ec)) (hm : lastMarks [.LtE, .Lt] [b, c] = false := by with_unfolding_all rfl) : PT X (.Compare a [.LtE, .Lt] [b, c] pos) (tT g W (eTest (eChain fLe fLt ea eb ec))) := pt_chain' op_le o2_le op_lt o2_lt ha hb hc hm
theorem t_chLtLe (ha : PE X a (tE g W ea)) (hb : PE X b (tE g W eb)) (hc : PE X c (tE g W ec)) (hm : lastMarks [.Lt, .LtE] [b, c] = false := by with_unfolding_all rfl) : PT X (.Compare a [.Lt, .LtE] [b, c] pos) (tT g W (eTest (eChain fLt fLe ea eb ec))) := pt_chain' op_lt o2_lt op_le o2_le ha hb hc hm
theorem p_isN {j : Nat} {p' : Pos} (ha : PE X a (tE g W ea)) : PE X (.Compare a [.Is] [.Constant .none j p'] pos) (tE g W (eBin fIsN ea (eC .non))) := p_cmp op_isN o2_isN ha p_non
theorem t_isN {j : Nat} {p' : Pos} (ha : PE X a (tE g W ea)) : PT X (.Compare a [.Is] [.Constant .none j p'] pos) (tT g W (eTest (eBin fIsN ea (eC .non)))) := pt_cmp' op_isN o2_isN ha p_non
theorem p_notN {j : Nat} {p' : Pos} (ha : PE X a (tE g W ea)) : PE X (.Compare a [.IsNot] [.Constant .none j p'] pos) (tE g W (eBin fNotN ea (eC .non))) := p_cmp op_notN o2_notN ha p_non
theorem t_notN {j : Nat} {p' : Pos} (ha : PE X a (tE g W ea)) : PT X (.Compare a [.IsNot] [.Constant .none j p'] pos) (tT g W (eTest (eBin fNotN ea (eC .non)))) := pt_cmp' op_notN o2_notN ha p_non
theorem p_globE {x : Str} {i : Int} (hg : Gl X x) (hm : ∃ t, X.mg x = some (.int i t)) (hd : (x == ("__debug__" : Str)) = false := by decide) : PE X (.Name x pos) (tE g W (eC (.int i))) := let ⟨_, h⟩ := hm; p_globI hg h hd
end
/-! ### repr of plain values -/
@[irreducible] def reprOk (i : Int) : Bool := decide (i.natAbs < 2 ^ 1919)
def fRepr : Val → Store → R Val
  | .d .non, S => .ok (.d (.str "None")) S
  | .d (.bl b), S => .ok (.d (.str (if b then "True" else "False"))) S
  | .d (.int i), S => if reprOk i = true then .ok (.d (.str (toString i))) S else .bad
  | .d (.str x), S => if (reprText x).length ≤ cap then .ok (.d (.str (reprText x))) S else .bad
  | _, _ => .bad
def rRepr : List V → Hp → VK → Prop := fun xs H Q => (xs = [.non] ∧ Q (.str "None") H) ∨ (∃ b, xs = [.bl b] ∧ Q (.str (if b then "True" else "False")) H) ∨ (∃ i, xs = [.int i] ∧ i.natAbs.log2 < 1920 ∧ Q (.str (toString i)) H) ∨ (∃ x, xs = [.str x] ∧ (reprText x).length ≤ sizeLine ∧ Q (.str (reprText x)) H)
theorem cr_repr {X : Cx} : CallR X (.builtin "repr") rRepr := by
  intro pins s σ H xs us Q I r h
  rcases h with ⟨rfl, q⟩ | ⟨b, rfl, q⟩ | ⟨i, rfl, hz, q⟩ | ⟨x, rfl, hz, q⟩
  · obtain ⟨u, rfl, r1⟩ := r.one
    have e : u = Value.none := r1
    subst e
    refine PySem.P.repr_of_none ?_
    exact ⟨.str _, H, I.tok _, ⟨_, rfl⟩, q⟩
  · obtain ⟨u, rfl, r1⟩ := r.one
    have e : u = Value.bool b := r1
    subst e
    refine PySem.P.repr_of_bool ?_
    exact ⟨.str _, H, I.tok _, ⟨_, rfl⟩, q⟩
  · obtain ⟨u, rfl, t, rfl⟩ := r.one
    exact PySem.P.repr_of_int hz ⟨.str _, H, I.tok _, ⟨_, rfl⟩, q⟩
  · obtain ⟨u, rfl, t, rfl⟩ := r.one
    exact PySem.P.repr_of_str ⟨.str _, H, I.tok _, ⟨_, rfl⟩, q⟩ hz
theorem c1_repr {g : Gx} : OpC1 g rRepr fRepr := fun W w S H σ x u Q st r1 q => by
  unfold fRepr at q
  split at q
  · cases r1
    exact .inl ⟨rfl, RQ.okQ q st (.str _)⟩
  · cases r1
    exact .inr (.inl ⟨_, rfl, RQ.okQ q st (.str _)⟩)
  · obtain ⟨hz, q⟩ := ite_q q
    cases r1
    refine .inr (.inr (.inl ⟨_, rfl, ?_, RQ.okQ q st (.str _)⟩))
    unfold reprOk at hz
    have h1 := of_decide_eq_true hz
    exact Nat.lt_trans (PySem.Flt.log2_lt_of (show 0 < 1919 by omega) h1) (by omega)
  · obtain ⟨hz, q⟩ := ite_q q
    cases r1
    exact .inr (.inr (.inr ⟨_, rfl, cap_le hz, RQ.okQ q st (.str _)⟩))
  · exact q.elim
theorem p_repr {X : Cx} {g : Gx} {W : WX} {a : Expr} {ea : Ev} {pos p : Pos} (hg : Gl X "repr") (hm : X.mg "repr" = none) (ha : PE X a (tE g W ea)) (he : starEach [a] X.env = (false, eval a X.env) :: starEach [] X.env := by rfl) (hpl : (backTo pos (starEach [] X.env)).any (·.1) = false := by rfl) :
    PE X (.Call (.Name "repr" p) [a] [] pos) (tE g W (eUn fRepr ea)) := p_call1 (id := "repr") cr_repr c1_repr hg hm (by decide +kernel) ha (by decide) (by decide) he hpl
/-- where a def of the text stands -/
def FunAt (K : PySem.W.Frag) (mg : Str → Option Value) (x qual : Str) (st : Stmt) (ps : List Str) : Prop := ∃ (f : Addr) (fd : FuncData), Fun K x qual st f fd ∧ mg x = some (.ref f) ∧ Binds K fd ps []
theorem fn_at {P : Program} {w : World} {K : PySem.W.Frag} {mg : Str → Option Value} {base : Heap} {g : Gx} {x qual : Str} {st : Stmt} {N ps : List Str} {k extra : Nat} (Nn : Bool) (body : Nat → Sv) (F : FunAt K mg x qual st ps) (SC : FnScope N ps (defScope st)) (hx : N.length = ps.length + extra)
    (hbody : ∀ (f : Addr) (cdv : Value) (A : Around) (outer : List PySem.Env) (s : Shared) (H : Hp) (E : XK), Room k (A.deeper (envOfC qual (defScope st) s.heap.objs.size f cdv)) → ∀ w0 : Wd,
      PSs (cxOf (L2.CX P w) P w K mg base N qual (defScope st) f cdv A outer s H E) (defBody st) (tS ⟨g, fun c d _ H' => E c d H', w0, H, Nn⟩ (body w0.m.length))) : Fn P w K mg base g (k + 1) x ps (funD extra body) Nn := by
  obtain ⟨f, fd, F, hm, hb⟩ := F
  exact ⟨f, fd, fn_mkX Nn body F SC hm hb hx (hbody f)⟩
theorem s_for' {X : Cx} {cf : Cf} {sa : Sv} {pos : Pos} {tg iter : Expr} {it : Env → Store → R (List D)} {sl : List Nat} {t : Tg} {body : List Stmt} (hp : PassesOwn (model X.prog X.w) X.A X.env X.xe) (hcalm : X.calm = true) (hi : PI X tg iter (tI cf.g cf.W it)) (hg : PG X tg (tG cf.g sl t)) (hb : PSs X body (tS cf sa))
    (hs : ∀ x, foldedSetIterable iter X.env x = pure x := by intro _; rfl) : PS X (.For tg iter body [] pos) (tS cf (sFor it t sa)) := s_for hp hcalm hi hg hb fun hi hg hb => ps_for hp hcalm hi hg hb hs
def fuel : Nat := 100000
end Pd

namespace Pd
open PySem PySem.Spec PyProof.Rows L2
/-! ### is, is not, of truth values -/
def fIsB : Val → Val → Store → R Val
  | .d (.bl a), .d (.bl b), S => .ok (.d (.bl (decide (a = b)))) S
  | _, _, _ => .bad
def fNotB : Val → Val → Store → R Val
  | .d (.bl a), .d (.bl b), S => .ok (.d (.bl (!decide (a = b)))) S
  | _, _, _ => .bad
section
variable {X : Cx} {g : Gx} {W : WX} {a b c : Expr} {ea eb ec : Ev} {pos p p2 : Pos} {j : Nat}
theorem o2_isB : Op2 g rIsB fIsB := fun W w S H σ x y u v Q st r1 r2 q => by
  unfold fIsB at q
  split at q
  · rename_i a b
    cases r1; cases r2
    exact ⟨a, b, rfl, rfl, RQ.okQ q st (.bl _)⟩
  · exact q.elim
theorem o2_notB : Op2 g rNotB fNotB := fun W w S H σ x y u v Q st r1 r2 q => by
  unfold fNotB at q
  split at q
  · rename_i a b
    cases r1; cases r2
    exact ⟨a, b, rfl, rfl, RQ.okQ q st (.bl _)⟩
  · exact q.elim
theorem p_isB (ha : PE X a (tE g W ea)) (hb : PE X b (tE g W eb)) (hm : behindInMarks .Is b = false := by first | exact nobehind _ (by decide) (by decide) | rfl) : PE X (.Compare a [.Is] [b] pos) (tE g W (eBin fIsB ea eb)) := p_cmp op_isBl o2_isB ha hb hm
theorem p_notB (ha : PE X a (tE g W ea)) (hb : PE X b (tE g W eb)) (hm : behindInMarks .IsNot b = false := by first | exact nobehind _ (by decide) (by decide) | rfl) : PE X (.Compare a [.IsNot] [b] pos) (tE g W (eBin fNotB ea eb)) := p_cmp op_notBl o2_notB ha hb hm
theorem t_isB (ha : PE X a (tE g W ea)) (hb : PE X b (tE g W eb)) (hm : behindInMarks .Is b = false := by first | exact nobehind _ (by decide) (by decide) | rfl) : PT X (.Compare a [.Is] [b] pos) (tT g W (eTest (eBin fIsB ea eb))) := pt_cmp' op_isBl o2_isB ha hb hm
theorem t_notB (ha : PE X a (tE g W ea)) (hb : PE X b (tE g W eb)) (hm : behindInMarks .IsNot b = false := by first | exact nobehind _ (by decide) (by decide) | rfl) : PT X (.Compare a [.IsNot] [b] pos) (tT g W (eTest (eBin fNotB ea eb))) := pt_cmp' op_notBl o2_notB ha hb hm
/-! ### max, min of three -/
def maxI (i j : Int) : Int := if j > i then j else i
def minI (i j : Int) : Int := if j < i then j else i
def fMax3 : List Val → Store → R Val
  | [.d (.int i), .d (.int j), .d (.int k)], S => .ok (.d (.int (maxI (maxI i j) k))) S
  | _, _ => .bad
def fMin3 : List Val → Store → R Val
  | [.d (.int i), .d (.int j), .d (.int k)], S => .ok (.d (.int (minI (minI i j) k))) S
  | _, _ => .bad
def OpCA (g : Gx) (r : List V → Hp → VK → Prop) (f : List Val → Store → R Val) : Prop := ∀ (W : WX) (w : Wd) (S : Store) (H : Hp) (σ : L2.St) (xs : List Val) (us : List V) (Q : VK), StOk g w S H → RepVs g w H xs us → RQ g W (RepV g) w σ H (f xs S) Q → r us H Q
theorem p_callA {f : List Val → Store → R Val} {r : List V → Hp → VK → Prop} {id : String} {x : Str} {e : Expr} {es : List Expr} {er : Env → Store → R (List Val)} (hc : CallR X (.builtin id) r) (hf : OpCA g r f) (hg : Gl X x) (hm : X.mg x = none) (hv : bootBuiltins x = some (.builtin id)) (ha : PA X (e :: es) (tA g W er)) (hn : x ≠ "__name__" := by decide) (hdb : (x == ("__debug__" : Str)) = false := by decide)
    (he : starEach (e :: es) X.env = (false, eval e X.env) :: starEach es X.env := by rfl) (hpl : (backTo pos (starEach es X.env)).any (·.1) = false := by rfl) : PE X (.Call (.Name x p) (e :: es) [] pos) (tE g W (eCall f er)) :=
  (pe_callB hc hg hm hv ha hn hdb he hpl).imp fun σ H Q ⟨w, Γ, S, st, en, h⟩ => tX_seq st en h fun us H1 xs S1 w1 s1 st1 en1 r1 h1 => hf W w1 S1 H1 σ xs us Q st1 r1 h1
theorem max2_int (i j : Int) : nuMax2 (.int i) (.int j) = some (.int (maxI i j)) := by
  show some (if decide (i < j) = true then V.int j else V.int i) = _
  unfold maxI
  by_cases h : i < j
  · rw [if_pos (decide_eq_true h), if_pos h]
  · rw [if_neg (by simpa using h), if_neg h]
theorem min2_int (i j : Int) : nuMin2 (.int i) (.int j) = some (.int (minI i j)) := by
  show some (if decide (j < i) = true then V.int j else V.int i) = _
  unfold minI
  by_cases h : j < i
  · rw [if_pos (decide_eq_true h), if_pos h]
  · rw [if_neg (by simpa using h), if_neg h]
theorem ca_max3 : OpCA g (rNuC3 nuMax3) fMax3 := fun W w S H σ xs us Q st r q => by
  unfold fMax3 at q
  split at q
  · rename_i i j k
    cases r with
    | cons r1 r => cases r with
      | cons r2 r => cases r with
        | cons r3 r =>
          cases r; cases r1; cases r2; cases r3
          refine ⟨.int i, .int j, .int k, .int (maxI (maxI i j) k), rfl, ?_, RQ.okQ q st (.int _)⟩
          unfold nuMax3
          rw [max2_int, Option.bind_some, max2_int]
  · exact q.elim
theorem ca_min3 : OpCA g (rNuC3 nuMin3) fMin3 := fun W w S H σ xs us Q st r q => by
  unfold fMin3 at q
  split at q
  · rename_i i j k
    cases r with
    | cons r1 r => cases r with
      | cons r2 r => cases r with
        | cons r3 r =>
          cases r; cases r1; cases r2; cases r3
          refine ⟨.int i, .int j, .int k, .int (minI (minI i j) k), rfl, ?_, RQ.okQ q st (.int _)⟩
          unfold nuMin3
          rw [min2_int, Option.bind_some, min2_int]
  · exact q.elim
theorem p_max3 {e : Expr} {es : List Expr} {er : Env → Store → R (List Val)} (hcm : X.calm = true) (hg : Gl X "max") (hm : X.mg "max" = none) (ha : PA X (e :: es) (tA g W er)) (he : starEach (e :: es) X.env = (false, eval e X.env) :: starEach es X.env := by rfl) (hpl : (backTo pos (starEach es X.env)).any (·.1) = false := by rfl) :
    PE X (.Call (.Name "max" p) (e :: es) [] pos) (tE g W (eCall fMax3 er)) := p_callA (id := "max") (call_max3Nu hcm) ca_max3 hg hm (by decide +kernel) ha (by decide) (by decide) he hpl
theorem p_min3 {e : Expr} {es : List Expr} {er : Env → Store → R (List Val)} (hcm : X.calm = true) (hg : Gl X "min") (hm : X.mg "min" = none) (ha : PA X (e :: es) (tA g W er)) (he : starEach (e :: es) X.env = (false, eval e X.env) :: starEach es X.env := by rfl) (hpl : (backTo pos (starEach es X.env)).any (·.1) = false := by rfl) :
    PE X (.Call (.Name "min" p) (e :: es) [] pos) (tE g W (eCall fMin3 er)) := p_callA (id := "min") (call_min3Nu hcm) ca_min3 hg hm (by decide +kernel) ha (by decide) (by decide) he hpl
end
/-! ### def f(star v) -/
def spS (g : Gx) (d : List Val → Store → R Val) : Sp := fun vs H Q E => ∃ w S xs ds, StOk g w S H ∧ RepVs g w H xs vs ∧ clo xs = some ds ∧ ds.length ≤ cap ∧ RQ g (fun c e _ H' => E c e H') (RepV g) w [] H (d [.d (.tup ds)] S) Q
def FnS (P : Program) (w : World) (K : PySem.W.Frag) (mg : Str → Option Value) (base : Heap) (g : Gx) (k : Nat) (x : Str) (d : List Val → Store → R Val) : Prop :=
  ∃ f, mg x = some (.ref f) ∧ PySem.W.keepIn K (.ref f) = true ∧ FnR P w K mg base (L2.CX P w) k f (spS g d)
def FunS (K : PySem.W.Frag) (mg : Str → Option Value) (x qual : Str) (st : Stmt) (pv : Str) : Prop := ∃ (f : Addr) (fd : FuncData), Fun K x qual st f fd ∧ mg x = some (.ref f) ∧
  ∀ us rest : List Value, us.length = ([] : List Str).length → bindArgs fd ⟨us ++ rest, []⟩ = (newTuple rest >>= fun t => pure (([] : List Str).zip us ++ [(pv, t)]))
theorem fn_atS {P : Program} {w : World} {K : PySem.W.Frag} {mg : Str → Option Value} {base : Heap} {g : Gx} {x qual pv : Str} {st : Stmt} {N : List Str} {k extra : Nat} (body : Nat → Sv) (F : FunS K mg x qual st pv) (SC : FnScope N [pv] (defScope st)) (hx : N.length = 1 + extra)
    (hbody : ∀ (f : Addr) (cdv : Value) (A : Around) (outer : List PySem.Env) (s : Shared) (H : Hp) (E : XK), Room k (A.deeper (envOfC qual (defScope st) s.heap.objs.size f cdv)) → ∀ w0 : Wd,
      PSs (cxOf (L2.CX P w) P w K mg base N qual (defScope st) f cdv A outer s H E) (defBody st) (tS ⟨g, fun c d _ H' => E c d H', w0, H, false⟩ (body w0.m.length))) : FnS P w K mg base g (k + 1) x (funD extra body) := by
  obtain ⟨f, fd, F, hm, hb⟩ := F
  refine ⟨f, hm, F.kp, ?_⟩
  obtain ⟨oc, od, kV, doc, pm, an, cdv, ct, osl, rfl, lk, hcd⟩ := F.ex
  refine (StX.fn_star (ps := []) (sp := spD g (funD extra body) 1 false) lk hcd SC StX.cxUp hb fun A outer s H vs Q E hr hsp => body_spD (np := 1) false body hx (hbody f) cdv A outer s H vs Q E hr hsp).imp fun vs H Q E ⟨w1, S, xs, ds, so, r, e, hz, h⟩ => ?_
  have rl := clo_rep r e
  refine ⟨[], vs, rfl, rfl, by rw [← rl.length]; exact cap_le hz, fun p hp => ⟨rfl, w1, S, [.d (.tup ds)], so.new hp, .cons (rep_tup so hp rl) .nil, ?_⟩⟩
  rw [if_neg Bool.false_ne_true]
  exact h.to (step_new so hp)
theorem run_fnT {X : Cx} {k : Nat} {f : Addr} {sp : Sp} {pins : List (Addr × Obj)} {σ : L2.St} {H : Hp} {s : Shared} {Q : VK} {us : List Value} {vs : List V} {E : L2.St → XK} (F : FnR X.prog X.w X.K X.mg X.base (L2.CX X.prog X.w) k f sp) (hr : Room k X.A) (hx : PassesAt (L2.CX X.prog X.w) X σ (E σ))
    (I : Inv X pins σ H s) (r : Vals vs us) (h : sp vs H Q (E σ)) : wpAny (model X.prog X.w) X.A (call (.ref f) us) (EP X pins σ Q) X.xe s := by
  refine wpAny_call (codeAny_mono (F X.A X.stack s H us vs Q (E σ) hr I.env0 r h) fun res s' hq => ?_)
  match res, hq with
  | .error e, hq => exact hx pins H s e s' I hq
  | .ok (.ret u), hq => exact I.after hq
theorem p_callS {X : Cx} {g : Gx} {W : WX} {k j : Nat} {x : Str} {d : List Val → Store → R Val} {e : Expr} {es : List Expr} {er : Env → Store → R (List Val)} {p pos : Pos} (F : FnS X.prog X.w X.K X.mg X.base g k x d) (hr : Room j X.A) (hkj : k ≤ j) (hg : Gl X x) (tk : Takes X W) (ha : PA X (e :: es) (tA g W er))
    (hdb : (x == ("__debug__" : Str)) = false := by decide) (he : starEach (e :: es) X.env = (false, eval e X.env) :: starEach es X.env := by rfl) (hpl : (backTo pos (starEach es X.env)).any (·.1) = false := by rfl) :
    PE X (.Call (.Name x p) (e :: es) [] pos) (tE g W (eCall (fun xs S => (fTup xs S).bind fun t S1 => d [t] S1) er)) := by
  obtain ⟨f, hm, hk, FO⟩ := F
  refine ⟨fun pins s σ H Q I h => ?_⟩
  obtain ⟨w, Γ, S, st, en, h⟩ := h
  refine wpAny_Call_Name_kw (ld_glob I hg hm ?_ hdb)
  refine PySem.W.callWith_K (h₀ := X.base) I.ok.mod.kin hk (thn (ha.run pos pins s σ H (fun vs H1 => spS g d vs H1 Q (WE W σ)) I ?_) fun us s1 ⟨vs, H1, I1, r, q⟩ => ⟨I1.kIn, run_fnT FO (hr.mono hkj) (passAt tk σ) I1 r q⟩) he hpl
  refine tX_seq st en h fun vs H1 xs S1 w1 s1 st1 en1 r1 h1 => ?_
  have h1 : RQ g W (RepV g) w1 σ H1 ((fTup xs S1).bind fun t S1 => d [t] S1) Q := h1
  unfold fTup at h1
  cases ec : clo xs with
  | none => rw [ec] at h1; exact h1.elim
  | some ds =>
    rw [ec] at h1
    by_cases hz : ds.length ≤ cap
    · simp only [if_pos hz, R.bind] at h1
      exact ⟨w1, S1, xs, ds, st1, r1, ec, hz, h1.wish fun _ _ _ z => z⟩
    · simp only [if_neg hz, R.bind] at h1
      exact h1.elim
/-! ### list(range(n)); three names at once -/
def fLR1 : Val → Store → R Val
  | .d (.int n), S => if n ≤ cap ∧ -cap ≤ n then .ok (.d (.lst (upto n.toNat))) S else .bad
  | _, _ => .bad
theorem repL_of {α : Type} {g : Gx} {w : Wd} {H : Hp} (f : α → D) (h : α → V) : ∀ l : List α, (∀ x ∈ l, Rep g w H (f x) (h x)) → RepL g w H (l.map f) (l.map h)
  | [], _ => .nil
  | x :: l, k => .cons (k x List.mem_cons_self) (repL_of f h l fun y hy => k y (List.mem_cons_of_mem _ hy))
section
variable {X : Cx} {g : Gx} {W : WX} {cf : Cf} {a b c : Expr} {ea eb ec : Ev} {pos p p2 pos2 : Pos} {j : Nat}
theorem p_listR1 (hc : X.calm = true) (hg : Gl X "list") (hm : X.mg "list" = none) (hg2 : Gl X "range") (hm2 : X.mg "range" = none) (ha : PE X a (tE g W ea)) (n1 : starEach [a] X.env = (false, eval a X.env) :: starEach [] X.env := by rfl)
    (n2 : starEach [.Call (.Name "range" p2) [a] [] pos2] X.env = (false, eval (.Call (.Name "range" p2) [a] [] pos2) X.env) :: starEach [] X.env := by rfl) :
    PE X (.Call (.Name "list" p) [.Call (.Name "range" p2) [a] [] pos2] [] pos) (tE g W (eUn fLR1 ea)) :=
  (pe_listRg hc hg hm (prg_1 hg2 hm2 ha n1) n2).imp fun σ H Q ⟨w, Γ, S, st, en, h⟩ => tX_seq st en h fun u H1 x S1 w1 s1 st1 en1 r1 h1 => by
    unfold fLR1 at h1
    split at h1
    · rename_i n
      obtain ⟨⟨q1, q2⟩, h1⟩ := ite_q h1
      cases r1
      have hc : ((cap : Nat) : Int) = 1000000 := rfl
      refine ⟨n, rfl, ⟨by omega, by omega, by omega, by omega, by omega⟩, fun q hq => RQ.newQ h1 st1 hq (rep_lst st1 hq ?_)⟩
      have e : rgV 0 n = (List.range n.toNat).map fun i => V.int ((i : Nat) : Int) := by
        unfold rgV
        rw [Int.sub_zero]
        exact List.map_congr_left fun i _ => by rw [Int.zero_add]
      rw [e]
      exact repL_of _ _ _ fun i _ => .int _
    · exact h1.elim
def sPar3 (i j l : Nat) (a b c : Ev) : Sv := fun Γ S => (a Γ S).fl Γ fun x S1 => (b Γ S1).fl Γ fun y S2 => (c Γ S2).fl Γ fun z S3 => .nx (((Γ.set i (some x)).set j (some y)).set l (some z)) S3
theorem s_par3 {i j l : Nat} {x y z : Str} {px py pz pt pt2 : Pos} {kt k2 : Nat} (hc : X.calm = true) (hN : X.N.Nodup) (hi : X.N[i]? = some x) (hj : X.N[j]? = some y) (hl : X.N[l]? = some z) (hij : i ≠ j) (hil : i ≠ l) (hjl : j ≠ l)
    (hx : X.env.scope.names.lookup x = some .local) (hy : X.env.scope.names.lookup y = some .local) (hz : X.env.scope.names.lookup z = some .local) (ha : PE X a (tE cf.g cf.W ea)) (hb : PE X b (tE cf.g cf.W eb)) (hcc : PE X c (tE cf.g cf.W ec))
    (hw : swappedStores [.Tuple [.Name x px, .Name y py, .Name z pz] kt pt] (.Tuple [a, b, c] k2 pt2) X.env = pure (some [x, y, z]))
    (hs : swapsWithSole [.Tuple [.Name x px, .Name y py, .Name z pz] kt pt] (.Tuple [a, b, c] k2 pt2) pos.line X.env = pure false := by rfl)
    (hs1 : starEach [a, b, c] X.env = (false, eval a X.env) :: starEach [b, c] X.env := by rfl) (hs2 : starEach [b, c] X.env = (false, eval b X.env) :: starEach [c] X.env := by rfl) (hs3 : starEach [c] X.env = (false, eval c X.env) :: starEach [] X.env := by rfl) :
    PS X (.Assign [.Tuple [.Name x px, .Name y py, .Name z pz] kt pt] (.Tuple [a, b, c] k2 pt2) pos) (tS cf (sPar3 i j l ea eb ec)) :=
  (ps_par3 hc hN hi hj hl hij hil hjl hx hy hz (pa_cons ha (pa_cons hb (pa_cons hcc pa_nil hs3) hs2) hs1) hw hs).imp fun D σ H ⟨w, Γ, S, so, en, fr, h⟩ =>
    tX_fl so en fr h fun u H1 x S1 w1 s1 st1 en1 fr1 r1 h1 => tX_fl st1 en1 fr1 h1 fun v H2 y S2 w2 s2 st2 en2 fr2 r2 h2 => tX_fl st2 en2 fr2 h2 fun t H3 z S3 w3 s3 st3 en3 fr3 r3 h3 =>
      ⟨u, v, t, rfl, FQ.nxQ h3 st3 (((en3.set i ((r1.step s2).step s3)).set j (r2.step s3)).set l r3) fr3⟩
end
end Pd

namespace Pd
open PySem PySem.Spec PyProof.Rows L2
/-! ### instances with slots: cells and closed values -/
def putF (i : Nat) (d : D) (fs : List (Option D)) : List (Option D) := (fs ++ List.replicate (i + 1 - fs.length) none).set i (some d)
theorem putF_len {i : Nat} {d : D} {v : V} {fs : List (Option D)} {vs : List (Option V)} (h : vs.length = fs.length) : (SlX.putS i v vs).length = (putF i d fs).length := by
  unfold SlX.putS putF
  simp only [List.length_set, List.length_append, List.length_replicate, h]
theorem putF_get {i j : Nat} {d x : D} {fs : List (Option D)} (h : (putF i d fs)[j]? = some (some x)) : (j = i ∧ x = d) ∨ (j ≠ i ∧ fs[j]? = some (some x)) := by
  unfold putF at h
  by_cases hj : i = j
  · subst hj
    rw [List.getElem?_set_self (by simp; omega)] at h
    cases h
    exact .inl ⟨rfl, rfl⟩
  · rw [List.getElem?_set_ne hj] at h
    refine .inr ⟨Ne.symm hj, ?_⟩
    by_cases hl : j < fs.length
    · rw [List.getElem?_append_left hl] at h
      exact h
    · rw [List.getElem?_append_right (by omega), List.getElem?_replicate] at h
      split at h <;> cases h
section
variable {g : Gx} {w : Wd} {H : Hp} {S : Store}
mutual
theorem Rep.dx {a : Addr} (h : H a = some (.own b) ∨ H a = some (.xd [])) : ∀ {d : D} {v : V}, Rep g w H d v → Rep g w (upd H a (.xd [])) d v
  | _, _, .non => .non
  | _, _, .bl b => .bl b
  | _, _, .int i => .int i
  | _, _, .str x => .str x
  | _, _, .tup k r => .tup (by
      rcases k with ⟨k, n⟩ | k
      · refine .inl ⟨?_, n⟩
        rcases k with k | ⟨o, k⟩
        · exact .inl (by rw [upd_ne (fun z => by rw [z] at k; rcases h with h | h <;> (rw [h] at k; cases k))]; exact k)
        · exact .inr ⟨o, by rw [upd_ne (fun z => by rw [z] at k; rcases h with h | h <;> (rw [h] at k; cases k))]; exact k⟩
      · exact .inr k) (RepL.dx h r)
  | _, _, .lst k n r => .lst (by rw [upd_ne (fun z => by rw [z] at k; rcases h with h | h <;> (rw [h] at k; cases k))]; exact k) n (RepL.dx h r)
  | _, _, .obj c k e n n2 r => .obj c (by rw [upd_ne (fun z => by rw [z] at k; rcases h with h | h <;> (rw [h] at k; cases k))]; exact k) (by
      unfold upd
      split
      · rfl
      · exact e) n n2 (RepL.dx h r)
  | _, _, .scr k => .scr (by
      rcases k with ⟨k, n⟩ | k
      · refine .inl ⟨?_, n⟩
        rcases k with k | ⟨o, k⟩
        · exact .inl (by rw [upd_ne (fun z => by rw [z] at k; rcases h with h | h <;> (rw [h] at k; cases k))]; exact k)
        · exact .inr ⟨o, by rw [upd_ne (fun z => by rw [z] at k; rcases h with h | h <;> (rw [h] at k; cases k))]; exact k⟩
      · exact .inr k)
  | _, _, .val v => .val v
theorem RepL.dx {a : Addr} (h : H a = some (.own b) ∨ H a = some (.xd [])) : ∀ {d : List D} {v : List V}, RepL g w H d v → RepL g w (upd H a (.xd [])) d v
  | _, _, .nil => .nil
  | _, _, .cons k r => .cons (Rep.dx h k) (RepL.dx h r)
end
/-- an instance of the store takes a slot's value -/
theorem le_mutO {a C dx : Addr} {vs : List (Option V)} (hav : w.av a) (nd : ¬ w.av dx) (h5 : H dx = some (.own a) ∨ H dx = some (.xd [])) (st : StOk g w S H) (ha : H a ≠ none) (hm : a ∉ w.hid) : Le w H w (SlX.slH H a C dx vs) where
  av := fun b z => .inl z
  keepN := fun b o e z n => by
    have nb : b ≠ a := fun q => n (by rw [q]; exact hav)
    by_cases q : b = dx
    · subst q
      unfold SlX.slH
      rw [upd_ne nb, upd_same]
      rcases h5 with h5 | h5
      · rw [e] at h5; cases h5; exact absurd rfl (z a)
      · rw [← h5]; exact e
    · rw [SlX.slH_ne nb q]; exact e
  trk := fun b e => by
    unfold SlX.slH upd
    split
    · exact fun z => by cases z
    · split
      · exact fun z => by cases z
      · exact e
  hk := fun b z => SlX.slH_ne (fun q => hm (by rw [← q]; exact z)) (fun q => nd (by rw [← q]; exact .inr z))
theorem obj_at {k : Nat} {v : V} {c : Str} {fs : List (Option D)} (st : StOk g w S H) (r : RepV g w H (.cell k) v) (e : S[k]? = some (some (.obj c fs))) : ∃ a, v = .ref a ∧ w.m[k]? = some (some a) ∧ CellOk g w H (.obj c fs) a := by
  obtain ⟨a, h1, h2⟩ := st.cell k _ e
  exact ⟨a, r.2 a h1, h1, h2⟩
theorem StOk.mutO (st : StOk g w S H) {k : Nat} {a C dx : Addr} {c : Str} {fs : List (Option D)} {vs : List (Option V)} {i : Nat} {d : D} {v : V} (hk : w.m[k]? = some (some a)) (hS : S[k]? = some (some (.obj c fs))) (h1 : g.cl c = some C) (h2 : dx ≠ a) (h3 : ¬ w.av dx) (h4 : SlX.Slt H a C dx vs) (h5 : H dx = some (.own a) ∨ H dx = some (.xd [])) (hl : vs.length = fs.length) (h6 : ∀ (i : Nat) (x : D), fs[i]? = some (some x) → ∃ v, vs[i]? = some (some v) ∧ Rep g w H x v) (r : Rep g w H d v) :
    StOk g w (S.set k (some (.obj c (putF i d fs)))) (SlX.slH H a C dx (SlX.putS i v vs)) ∧ Stp w H w (SlX.slH H a C dx (SlX.putS i v vs)) := by
  have hav : w.av a := .inl (List.mem_of_getElem? hk)
  have ha : H a ≠ none := by
    rcases h4 with ⟨q, _⟩ | ⟨q, _⟩ <;> rw [q] <;> exact fun z => by cases z
  have hm : a ∉ w.hid := fun z => (st.hid a z).1 (List.mem_of_getElem? hk)
  have le := le_mutO (C := C) (vs := SlX.putS i v vs) hav h3 h5 st ha hm
  have hlt : k < S.length := by
    rcases Nat.lt_or_ge k S.length with q | q
    · exact q
    · rw [List.getElem?_eq_none q] at hS
      cases hS
  refine ⟨⟨by rw [List.length_set]; exact st.len, fun j cc e => ?_, fun j b e => ?_, st.inj, fun b z => ⟨(st.hid b z).1, le.trk b (st.hid b z).2⟩⟩, ⟨le, rfl, rfl, fun _ _ e => e⟩⟩
  · by_cases hj : k = j
    · subst hj
      rw [List.getElem?_set_self hlt] at e
      cases e
      refine ⟨a, hk, C, dx, SlX.putS i v vs, h1, h2, h3, SlX.slH_slt h2, ?_, putF_len hl, fun j x q => ?_⟩
      · unfold SlX.slH
        rw [upd_ne h2, upd_same]
        exact .inr rfl
      · have tr : ∀ {x : D} {u : V}, Rep g w H x u → Rep g w (SlX.slH H a C dx (SlX.putS i v vs)) x u := fun q => Rep.le le q
        rcases putF_get q with ⟨rfl, rfl⟩ | ⟨hj, q⟩
        · exact ⟨v, SlX.putS_get _ _ _, tr r⟩
        · obtain ⟨u, q1, q2⟩ := h6 j x q
          exact ⟨u, (SlX.putS_ne hj).mpr q1, tr q2⟩
    · rw [List.getElem?_set_ne hj] at e
      obtain ⟨b, q1, q2⟩ := st.cell j cc e
      have nb : b ≠ a := fun q => hj (st.inj k j a hk (by rw [← q]; exact q1))
      refine ⟨b, q1, q2.le le fun y o hy e => ?_⟩
      have hb : w.av b := .inl (List.mem_of_getElem? q1)
      have n1 : y ≠ a := fun z => by
        rcases hy with hy | hy
        · exact nb (by rw [← hy, z])
        · rw [z] at hy
          rcases h4 with ⟨q, _⟩ | ⟨q, _⟩
          · rw [q] at hy; cases hy
          · rw [q] at hy
            unfold SlX.SlO at hy
            cases hy
      have n2 : y ≠ dx := fun z => by
        rcases hy with hy | hy
        · exact h3 (by rw [← z, hy]; exact hb)
        · rw [z] at hy
          rcases h5 with q | q
          · rw [q] at hy; cases hy; exact nb rfl
          · rw [q] at hy; cases hy
      rw [SlX.slH_ne n1 n2]
      exact e
  · by_cases hj : k = j
    · subst hj
      exact ⟨_, by rw [List.getElem?_set_self hlt]⟩
    · rw [List.getElem?_set_ne hj]
      exact st.live j b e
end
/-! a class's slots, as the text has them -/
structure SlotC (g : Gx) (c f : Str) (i : Nat) : Prop where
  ex : ∃ C p, g.cl c = some C ∧ SlX.SCls g.K C ∧ SlX.Slot1 g.K C f p i
/-- o.f -/
def fFld (c : Str) (i : Nat) : Val → Store → R Val
  | .d (.obj c' ds), S => if c' = c then (match ds[i]? with | some d => .ok (.d d) S | none => .bad) else .bad
  | .cell k, S => (match S[k]? with | some (some (.obj c' fs)) => if c' = c then (match fs[i]? with | some (some d) => .ok (.d d) S | _ => .bad) else .bad | _ => .bad)
  | _, _ => .bad
section
variable {X : Cx} {g : Gx} {W : WX} {cf : Cf} {o a b c e : Expr} {eo ea eb ec : Ev} {pos p p2 pos2 : Pos} {j : Nat} {f : Str}
theorem p_fld {c : Str} {i : Nat} (hK : g.K = X.K) (K : SlotC g c f i) (he : PE X e (tE g W ea)) (hb : attributeBase e f X.env (eval e X.env) = eval e X.env := by rfl) : PE X (.Attribute e f pos) (tE g W (eUn (fFld c i) ea)) :=
  (SlX.pe_sl he hb).imp fun σ H Q ⟨w, Γ, S, st, en, h⟩ => tX_seq st en h fun u H1 x S1 w1 s1 st1 en1 r1 h1 => by
    obtain ⟨C, q, hc, sc, sl⟩ := K.ex
    rw [hK] at sc sl
    unfold fFld at h1
    split at h1
    · rename_i c' ds
      replace h1 := ite_q h1
      obtain ⟨rfl, h1⟩ := h1
      cases ed : ds[i]? with
      | none => rw [ed] at h1; exact h1.elim
      | some d =>
        rw [ed] at h1
        cases r1 with
        | obj c1 k e1 n n2 r =>
          rw [hc] at c1
          cases c1
          obtain ⟨v, q1, q2⟩ := r.get ed
          exact ⟨_, _, _, _, _, i, v, rfl, .inr ⟨k, e1⟩, sc, sl, by rw [List.getElem?_map, q1]; rfl, RQ.okQ h1 st1 q2⟩
    · rename_i k
      split at h1
      · rename_i c' fs e1
        replace h1 := ite_q h1
        obtain ⟨rfl, h1⟩ := h1
        cases ed : fs[i]? with
        | none => rw [ed] at h1; exact h1.elim
        | some od =>
         cases od with
         | none => rw [ed] at h1; exact h1.elim
         | some d =>
          rw [ed] at h1
          obtain ⟨a, ev, hk, C', dx, vs, h1', h2, h3, h4, h5, hl, h6⟩ := obj_at st1 r1 e1
          subst ev
          rw [hc] at h1'
          cases h1'
          obtain ⟨v, q1, q2⟩ := h6 i d ed
          exact ⟨_, _, _, _, _, i, v, rfl, h4, sc, sl, q1, RQ.okQ h1 st1 q2⟩
      · exact h1.elim
    · exact h1.elim
end
/-! ### o.f = value -/
def putO (c : Str) (i : Nat) (o x : Val) (S : Store) : Option Store := match o, x with
  | .cell k, .d d => (match S[k]? with | some (some (.obj c' fs)) => if c' = c then some (S.set k (some (.obj c (putF i d fs)))) else none | _ => none)
  | _, _ => none
theorem put_q {g : Gx} {w : Wd} {H : Hp} {S S' : Store} {c f : Str} {i : Nat} {o x : Val} {ov xv : V} (e : putO c i o x S = some S') (st : StOk g w S H) (ro : RepV g w H o ov) (rx : RepV g w H x xv) (K : SlotC g c f i) :
    ∃ a C dx p vs, ov = .ref a ∧ SlX.Slt H a C dx vs ∧ SlX.SCls g.K C ∧ SlX.Slot1 g.K C f p i ∧ StOk g w S' (SlX.slH H a C dx (SlX.putS i xv vs)) ∧ Stp w H w (SlX.slH H a C dx (SlX.putS i xv vs)) := by
  obtain ⟨C, p, hc, sc, sl⟩ := K.ex
  cases o with
  | d o => cases e
  | cell k =>
    cases x with
    | cell j => cases e
    | d d =>
      have e : (match S[k]? with | some (some (.obj c' fs)) => if c' = c then some (S.set k (some (.obj c (putF i d fs)))) else none | _ => none) = some S' := e
      cases q : S[k]? with
      | none => rw [q] at e; cases e
      | some oc =>
        cases oc with
        | none => rw [q] at e; cases e
        | some cl =>
          cases cl with
          | lst ds => rw [q] at e; cases e
          | obj c' fs =>
            rw [q] at e
            have e : (if c' = c then some (S.set k (some (.obj c (putF i d fs)))) else none) = some S' := e
            by_cases hcc : c' = c
            · rw [if_pos hcc] at e
              cases e
              subst hcc
              obtain ⟨a, ev, hk, C', dx, vs, h1, h2, h3, h4, h5, hl, h6⟩ := obj_at st ro q
              rw [hc] at h1
              cases h1
              obtain ⟨k1, k2⟩ := st.mutO hk q hc h2 h3 h4 h5 hl h6 rx
              exact ⟨a, C, dx, p, vs, ev, h4, sc, sl, k1, k2⟩
            · rw [if_neg hcc] at e
              cases e
section
variable {X : Cx} {cf : Cf} {o a b d : Expr} {ea eb ed : Ev} {pos pos' : Pos} {f f1 f2 f3 : Str}
abbrev gSl (K : PySem.W.Frag) (tao : TE) (f : Str) : TG := fun v σ H Q => tao σ H fun x H2 => ∃ a C dx p vs i, x = V.ref a ∧ SlX.Slt H2 a C dx vs ∧ SlX.SCls K C ∧ SlX.Slot1 K C f p i ∧ Q σ (SlX.slH H2 a C dx (SlX.putS i v vs))
theorem pg_sl {tao : TE} (ho : PE X o tao) : PG X (.Attribute o f pos) (gSl X.K tao f) := by
  refine ⟨fun pins s σ H v u Q I r h => PySem.W.kas_attr (thn (ho.run pins s σ H _ I h) fun ov s1 ⟨x, H2, I2, rx, a, C, dx, p, vs, i, ex, hsl, c, t, q⟩ => ?_)⟩
  subst ex
  obtain rfl : ov = Value.ref a := rx
  exact SlX.setslot_ok I2 hsl c t r fun s3 I3 => ⟨σ, _, I3, q⟩
def sPut1 (j : Nat) (c : Str) (i : Nat) (ea : Ev) : Sv := fun Γ S => (ea Γ S).fl Γ fun x S1 => match Γ[j]? with | some (some o) => (match putO c i o x S1 with | some S2 => .nx Γ S2 | none => .bad) | _ => .bad
def sPut2 (j : Nat) (c : Str) (i1 i2 : Nat) (ea eb : Ev) : Sv := fun Γ S => (ea Γ S).fl Γ fun x S1 => (eb Γ S1).fl Γ fun y S2 => match Γ[j]? with | some (some o) => (match (putO c i1 o x S2).bind (putO c i2 o y) with | some S3 => .nx Γ S3 | none => .bad) | _ => .bad
def sPut3 (j : Nat) (c : Str) (i1 i2 i3 : Nat) (ea eb ec : Ev) : Sv := fun Γ S => (ea Γ S).fl Γ fun x S1 => (eb Γ S1).fl Γ fun y S2 => (ec Γ S2).fl Γ fun z S3 => match Γ[j]? with | some (some o) => (match ((putO c i1 o x S3).bind (putO c i2 o y)).bind (putO c i3 o z) with | some S4 => .nx Γ S4 | none => .bad) | _ => .bad
theorem rq_var {g : Gx} {W : WX} {w : Wd} {σ : L2.St} {H : Hp} {Γ : Env} {S : Store} {j : Nat} {o : Val} {Q : VK} (e : Γ[j]? = some (some o)) (h : ∀ v w' H', Stp w H w' H' → StOk g w' S H' → RepV g w' H' o v → Q v H') : RQ g W (RepV g) w σ H (eVar j Γ S) Q := by
  unfold eVar
  rw [e]
  exact h
/-- the targets, one after another: the object is read anew each time -/
theorem put_step {g : Gx} {W : WX} {w : Wd} {σ : L2.St} {H : Hp} {Γ : Env} {S S' : Store} {j i : Nat} {c : Str} {ox x : Val} {xv : V} {Q : L2.St → Hp → Prop} (hK : g.K = X.K) (hj : Γ[j]? = some (some ox)) (st : StOk g w S H) (en : EnvOk g w Γ σ H) (rx : RepV g w H x xv) (e : putO c i ox x S = some S') (K : SlotC g c f i)
    (h : ∀ w' H', Stp w H w' H' → StOk g w' S' H' → Q σ H') : gSl X.K (tE g W (eVar j)) f xv σ H Q := by
  refine ⟨w, Γ, S, st, en, rq_var hj fun ov w3 H3 s3 st3 ro => ?_⟩
  obtain ⟨a, C, dx, p, vs, e1, e2, e3, e4, e5, e6⟩ := put_q e st3 ro (rx.step s3) K
  exact ⟨a, C, dx, p, vs, i, e1, e2, hK ▸ e3, hK ▸ e4, h w3 _ (s3.trans e6) e5⟩
theorem s_put1 {j i : Nat} {c : Str} (hK : cf.g.K = X.K) (K : SlotC cf.g c f i) (ho : PE X o (tE cf.g cf.W (eVar j))) (ha : PE X a (tE cf.g cf.W ea)) (hs : swapsWithSole [.Attribute o f pos'] a pos.line X.env = pure false := by rfl) (hw : swappedStores [.Attribute o f pos'] a X.env = pure none := by rfl)
    (h1 : (assignEach [.Attribute o f pos'] X.env).map (·.2) = [assign (.Attribute o f pos') X.env] := by rfl) : PS X (.Assign [.Attribute o f pos'] a pos) (tS cf (sPut1 j c i ea)) :=
  (ps_asg ha (pg_sl ho) hs hw h1).imp fun D σ H ⟨w, Γ, S, so, en, fr, h⟩ => tX_fl so en fr h fun u H1 x S1 w1 s1 st1 en1 fr1 r1 h1 => by
    cases q : Γ[j]? with
    | none => rw [q] at h1; exact h1.elim
    | some oo =>
      cases oo with
      | none => rw [q] at h1; exact h1.elim
      | some ox =>
        rw [q] at h1
        have h1 : FQ cf w1 H1 (match putO c i ox x S1 with | some S2 => .nx Γ S2 | none => .bad) D := h1
        cases e : putO c i ox x S1 with
        | none => rw [e] at h1; exact h1.elim
        | some S2 =>
          rw [e] at h1
          exact put_step hK q st1 en1 r1 e K fun w' H' s' st' => h1 σ w' H' s'.le (fr1.stp s') st' (en1.step s')
theorem s_put2 {j i1 i2 k1 k2 : Nat} {c : Str} {p1 p2 q1 q2 : Pos} (hK : cf.g.K = X.K) (hc : X.calm = true) (K1 : SlotC cf.g c f1 i1) (K2 : SlotC cf.g c f2 i2) {o1 o2 : Expr} (ho1 : PE X o1 (tE cf.g cf.W (eVar j))) (ho2 : PE X o2 (tE cf.g cf.W (eVar j))) (ha : PE X a (tE cf.g cf.W ea)) (hb : PE X b (tE cf.g cf.W eb))
    (hs : swapsWithSole [.Tuple [.Attribute o1 f1 p1, .Attribute o2 f2 p2] k1 q1] (.Tuple [a, b] k2 q2) pos.line X.env = pure false := by rfl) (hw : swappedStores [.Tuple [.Attribute o1 f1 p1, .Attribute o2 f2 p2] k1 q1] (.Tuple [a, b] k2 q2) X.env = pure none := by rfl)
    (hs1 : starEach [a, b] X.env = (false, eval a X.env) :: starEach [b] X.env := by rfl) (hs2 : starEach [b] X.env = (false, eval b X.env) :: starEach [] X.env := by rfl)
    (h1 : (assignEach [.Tuple [.Attribute o1 f1 p1, .Attribute o2 f2 p2] k1 q1] X.env).map (·.2) = [assign (.Tuple [.Attribute o1 f1 p1, .Attribute o2 f2 p2] k1 q1) X.env] := by rfl)
    (hn : (assignEach [.Attribute o1 f1 p1, .Attribute o2 f2 p2] X.env).length = 2 := by rfl) (hst : (assignEach [.Attribute o1 f1 p1, .Attribute o2 f2 p2] X.env).findIdx? (·.1) = none := by rfl)
    (ht1 : (assignEach [.Attribute o1 f1 p1, .Attribute o2 f2 p2] X.env).map (·.2) = assign (.Attribute o1 f1 p1) X.env :: (assignEach [.Attribute o2 f2 p2] X.env).map (·.2) := by rfl) (ht2 : (assignEach [.Attribute o2 f2 p2] X.env).map (·.2) = assign (.Attribute o2 f2 p2) X.env :: (assignEach [] X.env).map (·.2) := by rfl) :
    PS X (.Assign [.Tuple [.Attribute o1 f1 p1, .Attribute o2 f2 p2] k1 q1] (.Tuple [a, b] k2 q2) pos) (tS cf (sPut2 j c i1 i2 ea eb)) :=
  (ps_asg (pe_tup (pa_cons ha (pa_cons hb pa_nil hs2) hs1)) (pg_tup hc (pgs_cons (pg_sl ho1) (pgs_cons (pg_sl ho2) pgs_nil ht2) ht1) hn hst) hs hw h1).imp fun D σ H ⟨w, Γ, S, so, en, fr, h⟩ =>
    tX_fl so en fr h fun u H1 x S1 w1 s1 st1 en1 fr1 r1 h1 => tX_fl st1 en1 fr1 h1 fun v H2 y S2 w2 s2 st2 en2 fr2 r2 h2 => by
      refine ⟨by show 2 ≤ sizeLine; decide, fun p hp => ⟨p, [u, v], rfl, .inl (.inl upd_same), rfl, u, [v], rfl, ?_⟩⟩
      have sp := step_new (o := .tup [u, v]) st2 hp
      cases q : Γ[j]? with
      | none => rw [q] at h2; exact h2.elim
      | some oo =>
        cases oo with
        | none => rw [q] at h2; exact h2.elim
        | some ox =>
          rw [q] at h2
          have h2 : FQ cf w2 H2 (match (putO c i1 ox x S2).bind (putO c i2 ox y) with | some S3 => .nx Γ S3 | none => .bad) D := h2
          cases e : putO c i1 ox x S2 with
          | none => rw [e] at h2; exact h2.elim
          | some S3 =>
            rw [e] at h2
            have h2 : FQ cf w2 H2 (match putO c i2 ox y S3 with | some S3 => .nx Γ S3 | none => .bad) D := h2
            cases e2 : putO c i2 ox y S3 with
            | none => rw [e2] at h2; exact h2.elim
            | some S4 =>
              rw [e2] at h2
              refine put_step (Q := fun σ' H' => gCons (gSl X.K (tE cf.g cf.W (eVar j)) f2) gNil [v] σ' H' D.nx) hK q (st2.new hp) (en2.step sp) ((r1.step s2).step sp) e K1 fun w3 H3 s3 st3 => ⟨v, [], rfl, ?_⟩
              exact put_step (Q := fun σ' H' => gNil [] σ' H' D.nx) hK q st3 ((en2.step sp).step s3) ((r2.step sp).step s3) e2 K2 fun w4 H4 s4 st4 => ⟨rfl, h2 σ w4 H4 ((sp.trans s3).trans s4).le (((fr2.stp sp).stp s3).stp s4) st4 (((en2.step sp).step s3).step s4)⟩
end
/-! ### C(..) -/
def allF : List (Option D) → Option (List D)
  | [] => some []
  | none :: _ => none
  | some d :: r => (allF r).map (d :: ·)
theorem allF_eq : ∀ {fs : List (Option D)} {ds : List D}, allF fs = some ds → fs = ds.map some
  | [], _, h => by cases h; rfl
  | none :: _, _, h => by cases h
  | some d :: r, ds, h => by
    unfold allF at h
    cases q : allF r with
    | none => rw [q] at h; cases h
    | some es => rw [q] at h; cases h; rw [allF_eq q]; rfl
/-- a new instance of c, its def __init__ being d; from then on a closed value -/
def mkO (c : Str) (d : List Val → Store → R Val) (xs : List Val) (S : Store) : R Val := match d (.cell S.length :: xs) (S ++ [some (.obj c [])]) with
  | .ok (.d .non) S' => (match S'[S.length]? with
    | some (some (.obj c' fs)) => (match allF fs with
      | some ds => if ds ≠ [] ∧ c' = c then .ok (.d (.obj c ds)) (S'.take S.length) else .bad
      | none => .bad)
    | _ => .bad)
  | .exc e x S' => .exc e x (S'.take S.length)
  | _ => .bad
section
variable {g : Gx} {w : Wd} {H : Hp} {S : Store} {x dx C : Addr}
theorem made_at (hx : H x = none) (hd : H dx = none) {b : Addr} {o : HO} (h : H b = some o) : upd (upd H dx (.own x)) x (.ins C dx []) b = some o := by
  rw [upd_ne (ne_of_none h hx), upd_ne (ne_of_none h hd)]
  exact h
theorem le_made (hx : H x = none) (hd : H dx = none) (st : StOk g w S H) : Le w H ⟨w.m ++ [some x], w.hid⟩ (upd (upd H dx (.own x)) x (.ins C dx [])) where
  av := fun a z => by
    rcases z with z | z
    · rcases List.mem_append.mp z with z | z
      · exact .inl (.inl z)
      · have := List.mem_singleton.mp z
        cases this
        exact .inr hx
    · exact .inl (.inr z)
  keepN := fun a o e _ _ => made_at hx hd e
  trk := fun a e => by
    unfold upd
    split
    · exact fun z => by cases z
    · split
      · exact fun z => by cases z
      · exact e
  hk := fun a z => by
    cases q : H a with
    | none => exact absurd q (st.hid a z).2
    | some o => exact made_at hx hd q
theorem StOk.made {c : Str} (st : StOk g w S H) (hc : g.cl c = some C) (hx : H x = none) (hd : H dx = none) (hne : dx ≠ x) : StOk g ⟨w.m ++ [some x], w.hid⟩ (S ++ [some (.obj c [])]) (upd (upd H dx (.own x)) x (.ins C dx [])) := by
  have le := le_made (C := C) hx hd st
  have hl : w.m.length = S.length := st.len
  have nx : some x ∉ w.m := fun z => st.nav hx (.inl z)
  refine ⟨by show (w.m ++ [some x]).length = _; simp [hl], fun k cc e => ?_, fun k a e => ?_, fun j k a e1 e2 => ?_, fun a z => ⟨fun y => ?_, le.trk a (st.hid a z).2⟩⟩
  · by_cases hk : k < S.length
    · rw [List.getElem?_append_left hk] at e
      obtain ⟨a, h1, h2⟩ := st.cell k cc e
      exact ⟨a, by show (w.m ++ [some x])[k]? = _; rw [List.getElem?_append_left (by omega)]; exact h1, h2.le le fun b o _ q => made_at hx hd q⟩
    · have hk2 : k = S.length := by
        rcases Nat.lt_or_ge k (S.length + 1) with q | q
        · omega
        · rw [List.getElem?_eq_none (by simp; omega)] at e; cases e
      subst hk2
      rw [List.getElem?_append_right (Nat.le_refl _), Nat.sub_self] at e
      cases e
      refine ⟨x, by show (w.m ++ [some x])[S.length]? = _; rw [List.getElem?_append_right (by omega), hl, Nat.sub_self]; rfl, C, dx, [], hc, hne, ?_, .inl ⟨upd_same, rfl⟩, .inl (by rw [upd_ne hne, upd_same]), rfl, fun i y q => by simp at q⟩
      rintro (z | z)
      · rcases List.mem_append.mp z with z | z
        · exact st.nav hd (.inl z)
        · have := List.mem_singleton.mp z
          cases this
          exact hne rfl
      · exact st.nav hd (.inr z)
  · have e : (w.m ++ [some x])[k]? = some (some a) := e
    by_cases hk : k < S.length
    · rw [List.getElem?_append_left (by omega)] at e
      obtain ⟨cc, q⟩ := st.live k a e
      exact ⟨cc, by rw [List.getElem?_append_left hk]; exact q⟩
    · rw [List.getElem?_append_right (by omega)] at e ⊢
      have : k - S.length = 0 := by
        cases q : k - w.m.length with
        | zero => omega
        | succ n => rw [q] at e; simp at e
      exact ⟨_, by rw [this]; rfl⟩
  · have e1 : (w.m ++ [some x])[j]? = some (some a) := e1
    have e2 : (w.m ++ [some x])[k]? = some (some a) := e2
    rw [List.getElem?_append] at e1 e2
    have one : ∀ (i : Nat) (b : Addr), [some x][i]? = some (some b) → i = 0 ∧ b = x := fun i b q => by
      cases i with
      | zero => cases q; exact ⟨rfl, rfl⟩
      | succ i => simp at q
    split at e1 <;> split at e2
    · exact st.inj j k a e1 e2
    · exact absurd (List.mem_of_getElem? e1) (by rw [(one _ _ e2).2]; exact nx)
    · exact absurd (List.mem_of_getElem? e2) (by rw [(one _ _ e1).2]; exact nx)
    · have := (one _ _ e1).1
      have := (one _ _ e2).1
      omega
  · rcases List.mem_append.mp y with y | y
    · exact (st.hid a z).1 y
    · have := List.mem_singleton.mp y
      cases this
      exact (st.hid _ z).2 hx
theorem RepVs.grow {w' : Wd} {H' : Hp} (l : Le w H w' H') (hm : ∀ k, k < w.m.length → k < w'.m.length ∧ ∀ a, w'.m[k]? = some (some a) → w.m[k]? = some (some a)) : ∀ {xs : List Val} {vs : List V}, RepVs g w H xs vs → RepVs g w' H' xs vs
  | _, _, .nil => .nil
  | _, _, .cons (d := d) h r => .cons (by
      cases d with
      | d d => exact Rep.le l h
      | cell k => exact ⟨(hm k h.1).1, fun a e => h.2 a ((hm k h.1).2 a e)⟩) (RepVs.grow l hm r)
end
/-- a def at f, by its denotation -/
def FnM (P : Program) (w : World) (K : PySem.W.Frag) (mg : Str → Option Value) (base : Heap) (g : Gx) (k : Nat) (f : Addr) (n : Nat) (d : List Val → Store → R Val) : Prop := FnR P w K mg base (L2.CX P w) k f (spD g d n false)
theorem run_makeT {X : Cx} {pins : List (Addr × Obj)} {σ : L2.St} {H : Hp} {s : Shared} {Q : VK} {us : List Value} {vs : List V} {k : Nat} {f C : Addr} {sp : Sp} {E : XK} (M : Mk X.K C f) (F : FnR X.prog X.w X.K X.mg X.base (L2.CX X.prog X.w) k f sp) (hr : Room (k + 1) X.A) (hx : PassesAt (L2.CX X.prog X.w) X σ E) (I : Inv X pins σ H s) (r : Vals vs us)
    (h : ∀ x dx, H x = Option.none → H dx = Option.none → dx ≠ x → sp (V.ref x :: vs) (upd (upd H dx (.own x)) x (.ins C dx [])) (fun v H2 => v = .non ∧ Q (.ref x) H2) E) : wpAny (model X.prog X.w) X.A (call (.ref C) us) (EP X pins σ Q) X.xe s := by
  have z := h (s.heap.objs.size + 1) s.heap.objs.size (I.hok.fresh (Nat.le_succ _)) (I.hok.fresh (Nat.le_refl _)) (Nat.ne_of_lt (Nat.lt_succ_self _))
  have J := Inv.made (C := C) I
  have rr : Vals (V.ref (s.heap.objs.size + 1) :: vs) (Value.ref (s.heap.objs.size + 1) :: us) := .cons rfl r
  refine wpAny_call (make_map (f := f) I.kIn M.makes M.init (beq_iff_eq.mp M.fn) (codeAny_mono (F _ X.stack _ _ (Value.ref (s.heap.objs.size + 1) :: us) _ _ E (hr.make C us []) (J.env0.make C us []) rr z) fun res s' hq => ?_))
  match res, hq with
  | .error e, hq => exact hx pins _ _ e s' J hq
  | .ok (.ret u), hq =>
    obtain ⟨v, H', I3, rv, ev, q3⟩ := J.after hq
    subst ev
    exact ⟨rv, ⟨V.ref (s.heap.objs.size + 1), H', I3, rfl, q3⟩⟩
theorem p_make {X : Cx} {g : Gx} {W : WX} {k j n : Nat} {f C : Addr} {c x : Str} {d : List Val → Store → R Val} {e : Expr} {es : List Expr} {er : Env → Store → R (List Val)} {p pos : Pos} (M : Mk X.K C f) (hc : g.cl c = some C) (hm : X.mg x = some (.ref C)) (F : FnM X.prog X.w X.K X.mg X.base g k f (n + 1) d) (hr : Room j X.A) (hkj : k + 1 ≤ j) (hg : Gl X x) (tk : Takes X W)
    (hel : ∀ Γ S xs S', er Γ S = .ok xs S' → xs.length = n) (ha : PA X (e :: es) (tA g W er)) (hdb : (x == ("__debug__" : Str)) = false := by decide) (he : starEach (e :: es) X.env = (false, eval e X.env) :: starEach es X.env := by rfl) (hpl : (backTo pos (starEach es X.env)).any (·.1) = false := by rfl) :
    PE X (.Call (.Name x p) (e :: es) [] pos) (tE g W (eCall (mkO c d) er)) := by
  refine ⟨fun pins s σ H Q I h => ?_⟩
  obtain ⟨w, Γ, S, st, en, h⟩ := h
  refine wpAny_Call_Name_kw (ld_glob I hg hm ?_ hdb)
  refine PySem.W.callWith_K (h₀ := X.base) I.ok.mod.kin M.kp (thn (ha.run pos pins s σ H (fun vs H1 => ∀ x dx, H1 x = none → H1 dx = none → dx ≠ x → spD g d (n + 1) false (V.ref x :: vs) (upd (upd H1 dx (.own x)) x (.ins C dx [])) (fun v H2 => v = .non ∧ Q (.ref x) H2) (WE W σ)) I ?_) fun us s1 ⟨vs, H1, I1, r, q⟩ => ⟨I1.kIn, run_makeT M F (hr.mono hkj) (passAt tk σ) I1 r q⟩) he hpl
  have key : ∀ (w1 : Wd) (H1 : Hp) (S1 : Store) (xs : List Val) (vs : List V), xs.length = n → StOk g w1 S1 H1 → RepVs g w1 H1 xs vs → RQ g W (RepV g) w1 σ H1 (mkO c d xs S1) Q → ∀ x dx, H1 x = none → H1 dx = none → dx ≠ x → spD g d (n + 1) false (V.ref x :: vs) (upd (upd H1 dx (.own x)) x (.ins C dx [])) (fun v H2 => v = .non ∧ Q (.ref x) H2) (WE W σ) := by
    intro w1 H1 S1 xs vs hl st1 r1 h1 x dx hx hdx hne
    have st2 := st1.made (C := C) hc hx hdx hne
    have le := le_made (C := C) hx hdx st1
    have ml : w1.m.length = S1.length := st1.len
    have rx : RepV g ⟨w1.m ++ [some x], w1.hid⟩ (upd (upd H1 dx (.own x)) x (.ins C dx [])) (.cell S1.length) (.ref x) := by
      refine ⟨by show _ < (w1.m ++ [some x]).length; simp [ml], fun a e => ?_⟩
      have e : (w1.m ++ [some x])[S1.length]? = some (some a) := e
      rw [List.getElem?_append_right (by omega), ml, Nat.sub_self] at e
      cases e
      rfl
    have rs : RepVs g ⟨w1.m ++ [some x], w1.hid⟩ (upd (upd H1 dx (.own x)) x (.ins C dx [])) xs vs := RepVs.grow le (fun k hk => ⟨by show k < (w1.m ++ [some x]).length; rw [List.length_append]; omega, fun a e => by
      have e : (w1.m ++ [some x])[k]? = some (some a) := e
      rw [List.getElem?_append_left hk] at e
      exact e⟩) r1
    refine ⟨by rw [List.length_cons, ← r1.length, hl], ⟨w1.m ++ [some x], w1.hid⟩, S1 ++ [some (.obj c [])], .cell S1.length :: xs, st2, .cons rx rs, ?_⟩
    rw [if_neg Bool.false_ne_true]
    have fin : ∀ (w2 : Wd) (H2 : Hp) (S' : Store), Stp ⟨w1.m ++ [some x], w1.hid⟩ (upd (upd H1 dx (.own x)) x (.ins C dx [])) w2 H2 → StOk g w2 S' H2 → Stp w1 H1 ⟨w2.m.take S1.length, w2.hid⟩ H2 ∧ StOk g ⟨w2.m.take S1.length, w2.hid⟩ (S'.take S1.length) H2 ∧ Le w2 H2 ⟨w2.m.take S1.length, w2.hid⟩ H2 := fun w2 H2 S' s2 t2 => by
      obtain ⟨m2, h2⟩ := w2
      have eh : h2 = w1.hid := s2.hid
      subst eh
      have l3 : Le ⟨m2, w1.hid⟩ H2 ⟨m2.take S1.length, w1.hid⟩ H2 := le_take
      have len2 : m2.length = (w1.m ++ [some x]).length := s2.len
      refine ⟨⟨(le.trans s2.le fun _ z => z).trans l3 fun _ z => z, rfl, ?_, fun i a e => ?_⟩, t2.take, l3⟩
      · show (m2.take S1.length).length = _
        rw [List.length_take, len2, List.length_append]
        simp
        omega
      · have e : (m2.take S1.length)[i]? = some (some a) := e
        rw [List.getElem?_take] at e
        split at e
        · have := s2.old i a e
          have this : (w1.m ++ [some x])[i]? = some (some a) := this
          rw [List.getElem?_append_left (by omega)] at this
          exact this
        · cases e
    unfold mkO at h1
    cases q : d (.cell S1.length :: xs) (S1 ++ [some (.obj c [])]) with
    | bad => rw [q] at h1; exact h1.elim
    | exc ce xe S' =>
      rw [q] at h1
      intro cls dv w2 H2 s2 t2 er
      obtain ⟨k1, k2, k3⟩ := fin w2 H2 S' s2 t2
      refine h1 cls dv _ H2 k1 k2 ?_
      obtain ⟨C', e1, e2, e3⟩ := er
      exact ⟨C', e1, e2, e3.elim .inl fun ⟨dd, v, z1, z2, z3, z4⟩ => .inr ⟨dd, v, z1, z2, k3.navk z2 z3, Rep.le k3 z4⟩⟩
    | ok y S' =>
      rw [q] at h1
      cases y with
      | cell k => exact h1.elim
      | d y =>
        cases y with
        | non =>
          intro v w2 H2 s2 t2 rv
          cases rv
          refine ⟨rfl, ?_⟩
          obtain ⟨k1, k2, k3⟩ := fin w2 H2 S' s2 t2
          have h1 : RQ g W (RepV g) w1 σ H1 (match S'[S1.length]? with
            | some (some (.obj c' fs)) => (match allF fs with
              | some ds => if ds ≠ [] ∧ c' = c then .ok (.d (.obj c ds)) (S'.take S1.length) else .bad
              | none => .bad)
            | _ => .bad) Q := h1
          cases q2 : S'[S1.length]? with
          | none => rw [q2] at h1; exact h1.elim
          | some oc =>
            cases oc with
            | none => rw [q2] at h1; exact h1.elim
            | some cl =>
              cases cl with
              | lst ds => rw [q2] at h1; exact h1.elim
              | obj c' fs =>
                rw [q2] at h1
                have h1 : RQ g W (RepV g) w1 σ H1 (match allF fs with
                  | some ds => if ds ≠ [] ∧ c' = c then .ok (.d (.obj c ds)) (S'.take S1.length) else .bad
                  | none => .bad) Q := h1
                cases q3 : allF fs with
                | none => rw [q3] at h1; exact h1.elim
                | some ds =>
                  rw [q3] at h1
                  obtain ⟨⟨hne2, hcc⟩, h1⟩ := ite_q h1
                  subst hcc
                  have ef := allF_eq q3
                  obtain ⟨a, e1, C2, dx2, vs2, c1, c2, c3, c4, c5, c6, c7⟩ := t2.cell S1.length _ q2
                  have ea : a = x := by
                    have := s2.old _ _ e1
                    have this : (w1.m ++ [some x])[S1.length]? = some (some a) := this
                    rw [List.getElem?_append_right (by omega), ml, Nat.sub_self] at this
                    cases this
                    rfl
                  subst ea
                  refine h1 (.ref a) _ H2 k1 k2 ?_
                  have hlen : vs2.length = ds.length := by rw [c6, ef, List.length_map]
                  obtain ⟨us, eu, ru⟩ : ∃ us : List V, vs2 = us.map some ∧ RepL g w2 H2 ds us := by
                    have gen : ∀ (ds : List D) (vs2 : List (Option V)), vs2.length = ds.length → (∀ (i : Nat) (x : D), ds[i]? = some x → ∃ v, vs2[i]? = some (some v) ∧ Rep g w2 H2 x v) → ∃ us : List V, vs2 = us.map some ∧ RepL g w2 H2 ds us := by
                      intro ds
                      induction ds with
                      | nil => intro vs2 hl _; exact ⟨[], by simpa using hl, .nil⟩
                      | cons d ds ih =>
                        intro vs2 hl hh
                        cases vs2 with
                        | nil => simp at hl
                        | cons v vs2 =>
                          obtain ⟨u, e1, e2⟩ := hh 0 d rfl
                          cases e1
                          obtain ⟨us, e3, e4⟩ := ih vs2 (by simpa using hl) fun i x e => hh (i + 1) x (by simpa using e)
                          exact ⟨u :: us, by rw [e3]; rfl, .cons e2 e4⟩
                    exact gen ds vs2 hlen fun i x e => c7 i x (by rw [ef, List.getElem?_map, e]; rfl)
                  have navA : ¬ (⟨w2.m.take S1.length, w2.hid⟩ : Wd).av a := by
                    rintro (z | z)
                    · obtain ⟨i, hi⟩ := List.getElem?_of_mem z
                      rw [List.getElem?_take] at hi
                      split at hi
                      · have := t2.inj _ _ _ hi e1
                        omega
                      · cases hi
                    · exact (t2.hid a z).1 (List.mem_of_getElem? e1)
                  have navD : ¬ (⟨w2.m.take S1.length, w2.hid⟩ : Wd).av dx2 := fun z => c3 (z.elim (fun z => .inl (List.mem_of_mem_take z)) .inr)
                  rcases c4 with ⟨_, z⟩ | ⟨z1, z2⟩
                  · rw [z] at hlen
                    exact absurd (List.eq_nil_of_length_eq_zero hlen.symm) hne2
                  · rw [eu] at z1
                    exact .obj c1 z1 z2 navA navD (RepL.le k3 ru)
        | _ => exact h1.elim
  refine ⟨w, Γ, S, st, en, ?_⟩
  unfold eCall at h
  cases q : er Γ S with
  | exc c z S1 => rw [q] at h; exact h
  | bad => rw [q] at h; exact h
  | ok xs S1 =>
    rw [q] at h
    exact fun vs w1 H1 s1 st1 r1 => key w1 H1 S1 xs vs (hel Γ S xs S1 q) st1 r1 (RQ.to (r := mkO c d xs S1) h s1)
end Pd

namespace Pd
open PySem PySem.Spec PyProof.Rows L2
/-! ### properties, methods, own comparisons of instances with slots -/
def isO (c : Str) (x : Val) (S : Store) : Bool := match x with
  | .d (.obj c' _) => decide (c' = c)
  | .cell k => (match S[k]? with | some (some (.obj c' _)) => decide (c' = c) | _ => false)
  | _ => false
theorem isO_slt {g : Gx} {w : Wd} {H : Hp} {S : Store} {c : Str} {C : Addr} {x : Val} {v : V} (e : isO c x S = true) (st : StOk g w S H) (r : RepV g w H x v) (hc : g.cl c = some C) : ∃ a dx vs, v = .ref a ∧ SlX.Slt H a C dx vs := by
  cases x with
  | d x =>
    cases x with
    | obj c' ds =>
      have e : c' = c := of_decide_eq_true e
      subst e
      cases r with
      | obj c1 k e1 n n2 r =>
        rw [hc] at c1
        cases c1
        exact ⟨_, _, _, rfl, .inr ⟨k, e1⟩⟩
    | _ => cases e
  | cell k =>
    have e : (match S[k]? with | some (some (Cell.obj c' _)) => decide (c' = c) | _ => false) = true := e
    cases q : S[k]? with
    | none => rw [q] at e; cases e
    | some o =>
      cases o with
      | none => rw [q] at e; cases e
      | some cl =>
        cases cl with
        | lst ds => rw [q] at e; cases e
        | obj c' fs =>
          rw [q] at e
          have e : c' = c := of_decide_eq_true e
          subst e
          obtain ⟨a, ev, hk, C', dx, vs, h1, h2, h3, h4, _⟩ := obj_at st r q
          rw [hc] at h1
          cases h1
          exact ⟨a, dx, vs, ev, h4⟩
theorem noX_q {g : Gx} {W : WX} {w : Wd} {σ : L2.St} {H : Hp} {r : R Val} {Q : VK} (h : RQ g W (RepV g) w σ H (noX r) Q) : RQ g (fun c d _ H' => E0 c d H') (RepV g) w [] H r Q := by
  cases r with
  | ok x S => exact h
  | exc c x S => exact h.elim
  | bad => exact h.elim
def fPr (c : Str) (d : List Val → Store → R Val) (x : Val) (S : Store) : R Val := if isO c x S = true then noX (d [x] S) else .bad
def eMeth (c : Str) (d : List Val → Store → R Val) (eo : Ev) (er : Env → Store → R (List Val)) : Ev := fun Γ S => (eo Γ S).bind fun x S1 => if isO c x S1 = true then (er Γ S1).bind fun ys S2 => noX (d (x :: ys) S2) else .bad
def fOwn (c : Str) (d : List Val → Store → R Val) (x y : Val) (S : Store) : R Val := if isO c x S = true ∧ isO c y S = true then noX (d [x, y] S) else .bad
/-- the class c's property f, its getter at gA -/
structure PropC (g : Gx) (c f : Str) (gA : Addr) : Prop where
  ex : ∃ C p, g.cl c = some C ∧ SlX.SCls g.K C ∧ PySem.W.findIn g.K (.ref C) f = some (some (.ref p)) ∧ PySem.W.specialIn g.K (.ref p) "__get__" = some (some (.builtin "property.__get__")) ∧ PySem.W.takesIn g.K (.ref p) = some true ∧ ∃ rest, PySem.W.recIn g.K p "property" = some (.ref gA :: rest)
structure MethC (g : Gx) (c m : Str) (gA : Addr) : Prop where
  ex : ∃ C, g.cl c = some C ∧ SlX.SCls g.K C ∧ Meth g.K C m gA
section
variable {X : Cx} {g : Gx} {W : WX} {o a b e : Expr} {eo ea eb : Ev} {es : List Expr} {er : Env → Store → R (List Val)} {pos p apos : Pos} {j k n : Nat} {f m c : Str} {gA : Addr} {d : List Val → Store → R Val}
theorem p_prop (hK : g.K = X.K) (P : PropC g c f gA) (F : FnM X.prog X.w X.K X.mg X.base g k gA 1 d) (hr : Room j X.A) (hkj : k + 1 ≤ j) (he : PE X e (tE g W ea)) (hb : attributeBase e f X.env (eval e X.env) = eval e X.env := by rfl) : PE X (.Attribute e f pos) (tE g W (eUn (fPr c d) ea)) := by
  obtain ⟨C, q, hc, sc, h1, h2, h3, h4⟩ := P.ex
  rw [hK] at sc h1 h2 h3 h4
  refine (SlX.pe_propSl (E := E0) he sc h1 h2 h3 h4 F (hr.mono hkj) (fun H s e s' h => by
    obtain ⟨_, _, _, _, _, _, _, _, _, _, _, _, z⟩ := h
    exact z) hb).imp fun σ H Q ⟨w, Γ, S, st, en, h⟩ => tX_seq st en h fun u H1 x S1 w1 s1 st1 en1 r1 h1 => ?_
  unfold fPr at h1
  obtain ⟨hi, h1⟩ := ite_q h1
  obtain ⟨a, dx, vs, ev, hs⟩ := isO_slt hi st1 r1 hc
  refine ⟨a, dx, vs, ev, hs, rfl, w1, S1, [x], st1, .cons (by rw [← ev]; exact r1) .nil, ?_⟩
  rw [if_neg Bool.false_ne_true]
  exact noX_q h1
theorem p_meth (hK : g.K = X.K) (M : MethC g c m gA) (F : FnM X.prog X.w X.K X.mg X.base g k gA (n + 1) d) (hr : Room j X.A) (hkj : k ≤ j) (ho : PE X o (tE g W eo)) (hel : ∀ Γ S xs S', er Γ S = .ok xs S' → xs.length = n) (ha : PA X (e :: es) (tA g W er))
    (hst : starEach (e :: es) X.env = (false, eval e X.env) :: starEach es X.env := by rfl) (hpl : (backTo pos (starEach es X.env)).any (·.1) = false := by rfl) {pl : Sem Bool}
    (ht : eval (.Call (.Attribute o m apos) (e :: es) [] pos) X.env = (do
      let ov ← eval o X.env
      standAt apos.atName
      let (f, first) ← holding [ov] (getMethod ov m pl)
      callWith pos f first (backTo pos (starEach (e :: es) X.env)) (backToKw pos (keywordEach [] X.env))) := by rfl) :
    PE X (.Call (.Attribute o m apos) (e :: es) [] pos) (tE g W (eMeth c d eo er)) := by
  obtain ⟨C, hc, sc, hm⟩ := M.ex
  rw [hK] at sc hm
  refine (SlX.pe_methSl (E := E0) ho sc hm F (hr.mono hkj) passL ha hst hpl ht).imp fun σ H Q ⟨w, Γ, S, st, en, h⟩ => tX_seq st en h fun u H1 x S1 w1 s1 st1 en1 r1 h1 => ?_
  obtain ⟨hi, h1⟩ := ite_q h1
  obtain ⟨a, dx, vs, ev, hs⟩ := isO_slt hi st1 r1 hc
  refine ⟨a, dx, vs, ev, hs, w1, Γ, S1, st1, en1, ?_⟩
  cases q : er Γ S1 with
  | bad => rw [q] at h1; exact h1.elim
  | exc c z S2 => rw [q] at h1; exact h1
  | ok ys S2 =>
    rw [q] at h1
    intro ws w2 H2 s2 st2 r2
    refine ⟨by rw [List.length_cons, ← r2.length, hel Γ S1 ys S2 q], w2, S2, x :: ys, st2, .cons (r1.step s2) r2, ?_⟩
    rw [if_neg Bool.false_ne_true]
    exact noX_q (RQ.to (r := noX (d (x :: ys) S2)) h1 s2)
theorem p_meth0 (hK : g.K = X.K) (M : MethC g c m gA) (F : FnM X.prog X.w X.K X.mg X.base g k gA 1 d) (hr : Room j X.A) (hkj : k ≤ j) (ho : PE X o (tE g W eo)) {pl : Sem Bool}
    (ht : eval (.Call (.Attribute o m apos) [] [] pos) X.env = (do
      let ov ← eval o X.env
      standAt apos.atName
      let (f, first) ← holding [ov] (getMethod ov m pl)
      callWith pos f first (backTo pos (starEach [] X.env)) (backToKw pos (keywordEach [] X.env))) := by rfl) :
    PE X (.Call (.Attribute o m apos) [] [] pos) (tE g W (eMeth c d eo eNil)) := by
  obtain ⟨C, hc, sc, hm⟩ := M.ex
  rw [hK] at sc hm
  refine (SlX.pe_methSl0 (E := E0) ho sc hm F (hr.mono hkj) passL ht).imp fun σ H Q ⟨w, Γ, S, st, en, h⟩ => tX_seq st en h fun u H1 x S1 w1 s1 st1 en1 r1 h1 => ?_
  obtain ⟨hi, h1⟩ := ite_q h1
  obtain ⟨a, dx, vs, ev, hs⟩ := isO_slt hi st1 r1 hc
  refine ⟨a, dx, vs, ev, hs, rfl, w1, S1, [x], st1, .cons r1 .nil, ?_⟩
  rw [if_neg Bool.false_ne_true]
  exact noX_q h1
/-- a == b by the class's own def -/
structure OwnC (g : Gx) (c : Str) (op : CmpOp) (gA : Addr) : Prop where
  ex : ∃ C, g.cl c = some C ∧ PySem.W.findIn g.K (.ref C) (cmpInfo op).2.1 = some (some (.ref gA)) ∧ PySem.W.isFn g.K (.ref gA) = true ∧ PySem.W.notFirst g.K C (.ref C) = true
theorem o2_own {op : CmpOp} (hK : g.K = X.K) (O : OwnC g c op gA) {C : Addr} (hc : g.cl c = some C) (hn : PySem.W.notFirst g.K C (.ref C) = true) : Op2 g (SlX.rOwn X.K C (spD g d 2 false) E0) (fOwn c d) := fun W w S H σ x y u v Q st r1 r2 q => by
  unfold fOwn at q
  obtain ⟨⟨h1, h2⟩, q⟩ := ite_q q
  obtain ⟨a, dx, vs, ev, hs⟩ := isO_slt h1 st r1 hc
  obtain ⟨b, dy, ws, ew, ht⟩ := isO_slt h2 st r2 hc
  refine ⟨a, dx, vs, b, C, dy, ws, ev, ew, hs, ht, by rw [← hK]; exact hn, rfl, w, S, [x, y], st, .cons r1 (.cons r2 .nil), ?_⟩
  rw [if_neg Bool.false_ne_true]
  exact noX_q q
theorem p_own {op : CmpOp} (hop : ∀ a b, compareOp op a b = richCompare op a b) (hK : g.K = X.K) (O : OwnC g c op gA) (F : FnM X.prog X.w X.K X.mg X.base g k gA 2 d) (hr : Room j X.A) (hkj : k ≤ j) (ha : PE X a (tE g W ea)) (hb : PE X b (tE g W eb)) (hm : behindInMarks op b = false := by first | exact nobehind _ (by decide) (by decide) | rfl) :
    PE X (.Compare a [op] [b] pos) (tE g W (eBin (fOwn c d) ea eb)) := by
  obtain ⟨C, hc, h1, h2, h3⟩ := O.ex
  have h1' := h1
  have h2' := h2
  rw [hK] at h1' h2'
  exact p_cmp (SlX.op_own hop h1' h2' F (hr.mono hkj) passL) (o2_own hK O hc h3) ha hb hm
end
end Pd

namespace Pd
open PySem PySem.Spec PyProof.Rows L2
/-! ### isinstance(x, C), C a class of the text -/
def fIsiO (rel : Str → Option Bool) (x : Val) (S : Store) : R Val := match x with
  | .d (.obj c _) => (match rel c with | some b => .ok (.d (.bl b)) S | none => .bad)
  | .cell k => (match S[k]? with
    | some (some (.obj c _)) => (match rel c with | some b => .ok (.d (.bl b)) S | none => .bad)
    | some (some (.lst _)) => .ok (.d (.bl false)) S
    | _ => .bad)
  | .d .non => .ok (.d (.bl false)) S
  | .d (.bl _) => .ok (.d (.bl false)) S
  | .d (.int _) => .ok (.d (.bl false)) S
  | .d (.str _) => .ok (.d (.bl false)) S
  | .d (.tup _) => .ok (.d (.bl false)) S
  | .d (.lst _) => .ok (.d (.bl false)) S
  | _ => .bad
structure IsiC (g : Gx) (C : Addr) (rel : Str → Option Bool) : Prop where
  non : PySem.W.kitOne g.K (.type "NoneType") (.ref C) = some false
  bl : PySem.W.kitOne g.K (.type "bool") (.ref C) = some false
  int : PySem.W.kitOne g.K (.type "int") (.ref C) = some false
  str : PySem.W.kitOne g.K (.type "str") (.ref C) = some false
  tup : PySem.W.kitOne g.K (.type "tuple") (.ref C) = some false
  lst : PySem.W.kitOne g.K (.type "list") (.ref C) = some false
  obj : ∀ c b, rel c = some b → ∃ C', g.cl c = some C' ∧ SlX.SCls g.K C' ∧ SlX.SIsi g.K C' ∧ PySem.W.kitOne g.K (.ref C') (.ref C) = some b
section
variable {X : Cx} {g : Gx} {W : WX} {a : Expr} {ea : Ev} {pos p p2 : Pos} {x : Str} {C : Addr} {rel : Str → Option Bool}
theorem isi_obj {w : Wd} {S : Store} {H : Hp} {c : Str} {b : Bool} {y : Val} {u : V} {Q : VK} (hK : g.K = X.K) (I : IsiC g C rel) (hr : rel c = some b) (hi : isO c y S = true) (st : StOk g w S H) (r : RepV g w H y u) (q : Q (.bl b) H) : SlX.rIsiSl X.K (.ref C) [u, .ref C] H Q := by
  obtain ⟨C', hc, sc, si, hk⟩ := I.obj c b hr
  obtain ⟨a, dx, vs, ev, hs⟩ := isO_slt hi st r hc
  rw [hK] at sc si hk
  subst ev
  exact ⟨a, C', dx, vs, .ref C, b, rfl, rfl, fun w h => h, hs, sc, si, hk, q⟩
theorem p_isiO (hK : g.K = X.K) (I : IsiC g C rel) (hg : Gl X "isinstance") (hm : X.mg "isinstance" = none) (hgC : Gl X x) (hmC : X.mg x = some (.ref C)) (ha : PE X a (tE g W ea)) (hdb : (x == ("__debug__" : Str)) = false := by decide)
    (he : starEach [a, .Name x p2] X.env = (false, eval a X.env) :: starEach [.Name x p2] X.env := by rfl) (he2 : starEach [.Name x p2] X.env = (false, eval (.Name x p2) X.env) :: starEach [] X.env := by rfl) (hpl : (backTo pos (starEach [.Name x p2] X.env)).any (·.1) = false := by rfl) :
    PE X (.Call (.Name "isinstance" p) [a, .Name x p2] [] pos) (tE g W (eUn (fIsiO rel) ea)) :=
  (pe_callB (id := "isinstance") (CallR.or call_isi (SlX.call_isiSl (.ref C))) hg hm (by decide +kernel) (pa_cons ha (pa_cons (pe_glob (v := .ref C) hgC hmC rfl hdb) pa_nil he2) he) (by decide) (by decide) he hpl).imp fun σ H Q ⟨w, Γ, S, st, en, h⟩ =>
    tX_seq st en h fun u H1 y S1 w1 s1 st1 en1 r1 h1 => by
      have pl : ∀ {n : String} {b : Bool}, TyX g.K H1 u (.type n) → PySem.W.kitOne g.K (.type n) (.ref C) = some b → Q (.bl b) H1 → rIsi X.K [u, .ref C] H1 Q := fun h1 h2 q => by
        rw [hK] at h1 h2
        exact ⟨u, .ref C, _, .ref C, _, rfl, .own C, h1, h2, q⟩
      show rIsi X.K [u, .ref C] H1 Q ∨ SlX.rIsiSl X.K (.ref C) [u, .ref C] H1 Q
      cases y with
      | cell k =>
        cases q : S1[k]? with
        | none => simp only [fIsiO, q] at h1; exact h1.elim
        | some oc =>
          cases oc with
          | none => simp only [fIsiO, q] at h1; exact h1.elim
          | some cl =>
            cases cl with
            | lst ds =>
              simp only [fIsiO, q] at h1
              obtain ⟨a, vs, rfl, hk, hp, l⟩ := cell_at st1 r1 q
              exact .inl (pl (.base (.lst hp)) I.lst (RQ.okQ h1 st1 (.bl _)))
            | obj c fs =>
              simp only [fIsiO, q] at h1
              cases qr : rel c with
              | none => rw [qr] at h1; exact h1.elim
              | some b =>
                rw [qr] at h1
                exact .inr (isi_obj hK I qr (by simp [isO, q]) st1 r1 (RQ.okQ h1 st1 (.bl _)))
      | d y =>
        cases y with
        | non => cases r1; exact .inl (pl (.base .non) I.non (RQ.okQ h1 st1 (.bl _)))
        | bl b => cases r1; exact .inl (pl (.base (.bl b)) I.bl (RQ.okQ h1 st1 (.bl _)))
        | int b => cases r1; exact .inl (pl (.base (.int b)) I.int (RQ.okQ h1 st1 (.bl _)))
        | str b => cases r1; exact .inl (pl (.base (.str b)) I.str (RQ.okQ h1 st1 (.bl _)))
        | tup ds =>
          obtain ⟨a, vs, rfl, k, l⟩ := rd_tup (S := S1) r1 rfl
          have q : Q (.bl false) H1 := RQ.okQ (x := Val.d (.bl false)) (v := V.bl false) h1 st1 (Rep.bl false)
          rcases k with ⟨k | ⟨o, k⟩, _⟩ | ⟨o, its, n, k, k2, _⟩
          · exact .inl (pl (.base (.tup k)) I.tup q)
          · exact .inl (pl (.fTuple k) I.tup q)
          · exact .inl (pl (.kTuple k k2) I.tup q)
        | lst ds =>
          obtain ⟨a, vs, rfl, k, l⟩ := rd_lst st1 r1 rfl
          exact .inl (pl (.base (.lst k)) I.lst (RQ.okQ h1 st1 (.bl _)))
        | obj c ds =>
          simp only [fIsiO] at h1
          cases qr : rel c with
          | none => rw [qr] at h1; exact h1.elim
          | some b =>
            rw [qr] at h1
            exact .inr (isi_obj hK I qr (by simp [isO]) st1 r1 (RQ.okQ h1 st1 (.bl _)))
        | scr _ => exact h1.elim
        | val _ => exact h1.elim
end
/-! ### a class's defs -/
/-- where a def of a class stands -/
def FunM (K : PySem.W.Frag) (x qual : Str) (st : Stmt) (ps : List Str) (f : Addr) : Prop := ∃ fd : FuncData, Fun K x qual st f fd ∧ Binds K fd ps []
theorem fn_atM {P : Program} {w : World} {K : PySem.W.Frag} {mg : Str → Option Value} {base : Heap} {g : Gx} {x qual : Str} {st : Stmt} {f : Addr} {N ps : List Str} {n k extra : Nat} (body : Nat → Sv) (F : FunM K x qual st ps f) (SC : FnScope N ps (defScope st)) (hn : ps.length = n) (hx : N.length = ps.length + extra)
    (hbody : ∀ (f : Addr) (cdv : Value) (A : Around) (outer : List PySem.Env) (s : Shared) (H : Hp) (E : XK), Room k (A.deeper (envOfC qual (defScope st) s.heap.objs.size f cdv)) → ∀ w0 : Wd,
      PSs (cxOf (L2.CX P w) P w K mg base N qual (defScope st) f cdv A outer s H E) (defBody st) (tS ⟨g, fun c d _ H' => E c d H', w0, H, false⟩ (body w0.m.length))) : FnM P w K mg base g (k + 1) f n (funD extra body) := by
  obtain ⟨fd, F, hb⟩ := F
  have FO : FnOk P w K mg base (L2.CX P w) (k + 1) f fd ps (spD g (funD extra body) ps.length false) := F.okX SC (fun vs H Q E h => h.1) fun cdv A outer s H vs Q E hr hsp => body_spD (np := ps.length) false body hx (hbody f) cdv A outer s H vs Q E hr hsp
  refine (FO.raw hb .nil).imp fun vs H Q E h => ?_
  rw [List.append_nil, hn]
  exact h
/-! ### ==, != where an instance may stand -/
def rOwnT (K : PySem.W.Frag) (C : Addr) (sp : Sp) (E : XK) : R2 := fun x y H Q => ∃ a dx vs b ys, x = .ref a ∧ y = .ref b ∧ SlX.Slt H a C dx vs ∧ SqT K H b ys ∧ sp [x, y] H Q E
theorem op_ownT {X : Cx} {CX : CXT} {n : Nat} {gA C : Addr} {sp : Sp} {E : XK} {op : CmpOp} (hop : ∀ a b, compareOp op a b = richCompare op a b) (hs : PySem.W.findIn X.K (.ref C) (cmpInfo op).2.1 = some (some (.ref gA))) (hf : PySem.W.isFn X.K (.ref gA) = true) (hn : PySem.W.notFirst X.K C (.type "tuple") = true)
    (F : FnR X.prog X.w X.K X.mg X.base CX n gA sp) (hr : Room n X.A) (hx : Passes CX X E) : OpR X (compareOp op) (rOwnT X.K C sp E) := by
  intro pins s σ H x y v u Q I rx ry h
  obtain ⟨a, dx, vs, b, ys, rfl, rfl, ha, hb, q⟩ := h
  cases (show v = Value.ref a from rx)
  cases (show u = Value.ref b from ry)
  obtain ⟨sl, od, _, J, _⟩ := SlX.slt_inst I ha
  obtain ⟨its, rv, ⟨o, ho, hcl, _⟩, _⟩ := I.tuple hb
  obtain ⟨m, hF⟩ := I.fr
  rw [hop]
  have L : PySem.W.Looks (model X.prog X.w) s.heap (typeOf (.ref b)) (.type "tuple") := fun A Q E s k q => wpAny_typeOf_ref (k _ _ ho) (by rw [hcl]; exact q)
  refine PySem.W.cmp_K (op := op) (tb := .type "tuple") hr.units0 hF I.ok.mod.kin J L hn hs hf ?_
  refine wpAny_mono (wpAny_call (run_fnR (us := [.ref a, .ref b]) (vs := [.ref a, .ref b]) F hr hx I (.cons rfl (.cons rfl .nil)) q)) (fun z' s' z => ?_) fun _ _ x => x
  obtain ⟨z', H', I', rz, qz⟩ := z
  exact SlX.cmpback rz ⟨z', H', I', rz, qz⟩
def isT : Val → Bool
  | .d (.tup _) => true
  | _ => false
/-- by the class's own def where x is an instance, else of plain values -/
def fCmpM (c : Str) (d : List Val → Store → R Val) (pl : Val → Val → Store → R Val) (x y : Val) (S : Store) : R Val := if isO c x S = true then (if isO c y S = true ∨ isT y = true then noX (d [x, y] S) else .bad) else pl x y S
section
variable {X : Cx} {g : Gx} {W : WX} {a b : Expr} {ea eb : Ev} {pos : Pos} {j k : Nat} {c : Str} {gA : Addr} {d : List Val → Store → R Val} {r : R2} {pl : Val → Val → Store → R Val}
structure OwnM (g : Gx) (c : Str) (op : CmpOp) (gA : Addr) : Prop where
  ex : ∃ C, g.cl c = some C ∧ PySem.W.findIn g.K (.ref C) (cmpInfo op).2.1 = some (some (.ref gA)) ∧ PySem.W.isFn g.K (.ref gA) = true ∧ PySem.W.notFirst g.K C (.ref C) = true ∧ PySem.W.notFirst g.K C (.type "tuple") = true
theorem op_ownM {op : CmpOp} (hop : ∀ a b, compareOp op a b = richCompare op a b) (hK : g.K = X.K) (O : OwnM g c op gA) (F : FnM X.prog X.w X.K X.mg X.base g k gA 2 d) (hr : Room j X.A) (hkj : k ≤ j) (hp : OpR X (compareOp op) r) (hq : Op2 g r pl) :
    ∃ r', OpR X (compareOp op) r' ∧ Op2 g r' (fCmpM c d pl) := by
  obtain ⟨C, hc, h1, h2, h3, h4⟩ := O.ex
  rw [hK] at h1 h2 h3 h4
  refine ⟨_, ((SlX.op_own (E := E0) hop h1 h2 F (hr.mono hkj) passL).or (op_ownT (E := E0) hop h1 h2 h4 F (hr.mono hkj) passL)).or hp, fun W w S H σ x y u v Q st r1 r2 q => ?_⟩
  unfold fCmpM at q
  by_cases hx : isO c x S = true
  · rw [if_pos hx] at q
    obtain ⟨hy, q⟩ := ite_q q
    obtain ⟨a, dx, vs, ev, hs⟩ := isO_slt hx st r1 hc
    have sp : spD g d 2 false [u, v] H Q E0 := ⟨rfl, w, S, [x, y], st, .cons r1 (.cons r2 .nil), by
      rw [if_neg Bool.false_ne_true]
      exact noX_q q⟩
    by_cases hy2 : isO c y S = true
    · obtain ⟨b, dy, ws, ew, ht⟩ := isO_slt hy2 st r2 hc
      exact .inl (.inl ⟨a, dx, vs, b, C, dy, ws, ev, ew, hs, ht, h3, sp⟩)
    · have hy3 : isT y = true := hy.resolve_left hy2
      cases y with
      | cell k => cases hy3
      | d y =>
        cases y with
        | tup ds =>
          obtain ⟨b, ys, ew, hq2, l⟩ := rd_tup (S := S) r2 rfl
          refine .inl (.inr ⟨a, dx, vs, b, ys, ev, ew, hs, ?_, sp⟩)
          rw [← hK]
          exact hq2.sq
        | _ => cases hy3
  · rw [if_neg hx] at q
    exact .inr (hq W w S H σ x y u v Q st r1 r2 q)
theorem p_eqM (hK : g.K = X.K) (O : OwnM g c .Eq gA) (F : FnM X.prog X.w X.K X.mg X.base g k gA 2 d) (hr : Room j X.A) (hkj : k ≤ j) (ha : PE X a (tE g W ea)) (hb : PE X b (tE g W eb)) : PE X (.Compare a [.Eq] [b] pos) (tE g W (eBin (fCmpM c d fEq) ea eb)) := by
  obtain ⟨r', h1, h2⟩ := op_ownM (fun _ _ => rfl) hK O F hr hkj (op_eqD hr.units) (show Op2 g (rEqD X.K) fEq by rw [← hK]; exact o2_eq)
  exact p_cmp h1 h2 ha hb
theorem p_neM (hK : g.K = X.K) (O : OwnM g c .NotEq gA) (F : FnM X.prog X.w X.K X.mg X.base g k gA 2 d) (hr : Room j X.A) (hkj : k ≤ j) (ha : PE X a (tE g W ea)) (hb : PE X b (tE g W eb)) : PE X (.Compare a [.NotEq] [b] pos) (tE g W (eBin (fCmpM c d fNe) ea eb)) := by
  obtain ⟨r', h1, h2⟩ := op_ownM (fun _ _ => rfl) hK O F hr hkj (op_neD hr.units) (by rw [← hK]; exact o2_ne)
  exact p_cmp h1 h2 ha hb
theorem t_eqM (hK : g.K = X.K) (O : OwnM g c .Eq gA) (F : FnM X.prog X.w X.K X.mg X.base g k gA 2 d) (hr : Room j X.A) (hkj : k ≤ j) (ha : PE X a (tE g W ea)) (hb : PE X b (tE g W eb)) : PT X (.Compare a [.Eq] [b] pos) (tT g W (eTest (eBin (fCmpM c d fEq) ea eb))) := by
  obtain ⟨r', h1, h2⟩ := op_ownM (fun _ _ => rfl) hK O F hr hkj (op_eqD hr.units) (show Op2 g (rEqD X.K) fEq by rw [← hK]; exact o2_eq)
  exact pt_cmp' h1 h2 ha hb
theorem t_neM (hK : g.K = X.K) (O : OwnM g c .NotEq gA) (F : FnM X.prog X.w X.K X.mg X.base g k gA 2 d) (hr : Room j X.A) (hkj : k ≤ j) (ha : PE X a (tE g W ea)) (hb : PE X b (tE g W eb)) : PT X (.Compare a [.NotEq] [b] pos) (tT g W (eTest (eBin (fCmpM c d fNe) ea eb))) := by
  obtain ⟨r', h1, h2⟩ := op_ownM (fun _ _ => rfl) hK O F hr hkj (op_neD hr.units) (by rw [← hK]; exact o2_ne)
  exact pt_cmp' h1 h2 ha hb
end
/-! ### l.count(k), l a list of whole numbers -/
def eCnt (eo ea : Ev) : Ev := fun Γ S => (eo Γ S).bind fun o S1 => match rd S1 o with
  | some (.lst _) => (ea Γ S1).bind fun x S2 => (match rd S2 o, x with
    | some (.lst ds), .d (.int k) => (match asInts ds with | some ns => .ok (.d (.int (ns.count k : Nat))) S2 | none => .bad)
    | _, _ => .bad)
  | _ => .bad
section
variable {X : Cx} {g : Gx} {W : WX} {o a : Expr} {eo ea : Ev} {cpos apos : Pos}
theorem p_count (hK : g.K = X.K) (ho : PE X o (tE g W eo)) (ha : PE X a (tE g W ea)) (hbase : attributeBase o "count" X.env (eval o X.env) = eval o X.env := by rfl)
    (hfew : ((backTo cpos (starEach [a] X.env)).all (fun x => !x.1) && (backToKw cpos (keywordEach [] X.env)).all (fun x => x.1.isSome) && decide ([a].length + ([] : List Keyword).length + (if ([] : List Keyword).isEmpty then 0 else 1) < 30)) = true := by rfl)
    (hline : (apos.endLine == cpos.line) = true := by rfl) (hs : starEach [a] X.env = (false, eval a X.env) :: starEach [] X.env := by rfl) (hplain : (backTo cpos (starEach [] X.env)).any (·.1) = false := by rfl) :
    PE X (.Call (.Attribute o "count" apos) [a] [] cpos) (tE g W (eCnt eo ea)) :=
  (pe_bm PySem.F.plainAttrs_list PySem.F.slot_list_count PySem.F.type_list_count mt_lcount ho (pa_cons ha pa_nil hs) hbase hfew hline hs hplain).imp fun σ H Q ⟨w, Γ, S, st, en, h⟩ =>
    tX_seq st en h fun u H1 x S1 w1 s1 st1 en1 r1 h1 => by
      split at h1
      · rename_i ds0 e0
        refine ⟨rd_ty hK st1 r1 e0, tX_seq st1 en1 h1 fun v H2 y S2 w2 s2 st2 en2 r2 h2 => ?_⟩
        split at h2
        · rename_i ds k e
          cases q : asInts ds with
          | none => rw [q] at h2; exact h2.elim
          | some ns =>
            rw [q] at h2
            cases r2
            obtain ⟨p, vs, rfl, hp, l⟩ := rd_lst st2 (r1.step s2) e
            have ed := asInts_eq q
            subst ed
            have ev := l.ints
            subst ev
            exact ⟨p, ns, k, rfl, rfl, .inl (.inl hp), RQ.okQ h2 st2 (.int _)⟩
        · exact h2.elim
      · exact h1.elim
end
theorem kit_plain {K : PySem.W.Frag} {C : Addr} {n : String} (h1 : PySem.W.isClsIn K C = true) (h2 : PySem.W.typeIn K (.ref C) = some (.type "type")) (h3 : PySem.W.subIn K (.type n) (.ref C) = some false) : PySem.W.kitOne K (.type n) (.ref C) = some false := by
  have e1 : (Value.type n == Value.ref C) = false := rfl
  have e2 : ((PySem.W.clsIn K C).isSome && PySem.W.typeIn K (.ref C) == some (.type "type")) = true := by
    have h1' : (PySem.W.clsIn K C).isSome = true := h1
    rw [h1', h2]
    rfl
  unfold PySem.W.kitOne
  rw [e1, if_neg Bool.false_ne_true]
  show (if ((PySem.W.clsIn K C).isSome && PySem.W.typeIn K (.ref C) == some (.type "type")) = true then PySem.W.subIn K (.type n) (.ref C) else none) = _
  rw [if_pos e2]
  exact h3
theorem kit_self {K : PySem.W.Frag} {C : Addr} : PySem.W.kitOne K (.ref C) (.ref C) = some true := if_pos (beq_self_eq_true _)
example (K : PySem.W.Frag) (C : Addr) : PySem.W.subIn K (.type "NoneType") (.ref C) = some false := rfl
example (K : PySem.W.Frag) (C : Addr) : PySem.W.subIn K (.type "tuple") (.ref C) = some false := rfl
end Pd

namespace Pq
open PySem L2 Pd
/-! ### small things about denotations -/
theorem ixN_nat (n j : Nat) (h : j < n) : ixN n (j : Int) = some j := by
  unfold ixN
  rw [if_pos (by omega), if_pos (by omega)]
  simp
theorem atI_k {α : Type} (l : List α) (j : Nat) : atI l (j : Int) = l[j]? := by
  unfold atI
  by_cases h : j < l.length
  · rw [ixN_nat _ _ h]
    rfl
  · unfold ixN
    rw [if_pos (by omega), if_neg (by omega), List.getElem?_eq_none (by omega)]
    rfl
theorem atI_0 {α : Type} (l : List α) : atI l 0 = l[0]? := atI_k l 0
theorem atI_1 {α : Type} (l : List α) : atI l 1 = l[1]? := atI_k l 1
theorem atI_2 {α : Type} (l : List α) : atI l 2 = l[2]? := atI_k l 2
theorem atI_3 {α : Type} (l : List α) : atI l 3 = l[3]? := atI_k l 3
theorem atI_end {α : Type} (l : List α) : atI l (-1) = l[l.length - 1]? := by
  unfold atI ixN
  rw [if_neg (by omega)]
  cases l with
  | nil => simp
  | cons x r =>
    rw [if_pos (by simp; omega)]
    have e : ((-1 : Int) + ((x :: r).length : Nat)).toNat = (x :: r).length - 1 := by omega
    rw [e]
    rfl
theorem mulOk_l {i j : Int} (h : -9223372036854775808 ≤ i) (h2 : i ≤ 9223372036854775808) : mulOk i j = true := mulOk_iff.mpr (.inr (.inl (by
  have e : (2 : Nat) ^ 64 = 18446744073709551616 := by decide
  omega)))
theorem mulOk_r {i j : Int} (h : -9223372036854775808 ≤ j) (h2 : j ≤ 9223372036854775808) : mulOk i j = true := mulOk_iff.mpr (.inr (.inr (by
  have e : (2 : Nat) ^ 64 = 18446744073709551616 := by decide
  omega)))
theorem mulOk_b {i j : Int} (h : i.natAbs < big) (h2 : j.natAbs < big) : mulOk i j = true := mulOk_iff.mpr (.inl ⟨h, h2⟩)
theorem divOk_l {j : Int} (h : 0 < j) (h2 : j ≤ 9223372036854775808) : divOk j = true := divOk_iff.mpr ⟨h, by
  have e : (2 : Nat) ^ 64 = 18446744073709551616 := by decide
  have : (2 : Nat) ^ 64 ≤ bigD := Nat.pow_le_pow_right (by decide) (by decide)
  omega⟩
theorem divOk_m {j : Int} (h : 0 < j) (h2 : j ≤ 10 ^ 70) : divOk j = true := divOk_iff.mpr ⟨h, by
  have e : (10 : Nat) ^ 70 < 2 ^ 300 := by decide
  have : (2 : Nat) ^ 300 ≤ bigD := Nat.pow_le_pow_right (by decide) (by decide)
  have e2 : ((10 ^ 70 : Nat) : Int) = 10 ^ 70 := by decide
  omega⟩
theorem powOk_l {i j : Int} (h : 0 ≤ j) (h2 : j ≤ 1000) (h3 : i.natAbs ≤ 10 ^ 70) : powOk i j = true := powOk_iff.mpr ⟨⟨h, h2⟩, by
  have e : (10 : Nat) ^ 70 < 2 ^ 2000 := by decide
  omega⟩
theorem asInts_map (ns : List Int) : asInts (ns.map .int) = some ns := by
  induction ns with
  | nil => rfl
  | cons n ns ih => simp [asInts, ih]
theorem asBls_map {α : Type} (p : α → Bool) (l : List α) : asBls (l.map fun x => .bl (p x)) = some (l.map p) := by
  induction l with
  | nil => rfl
  | cons n ns ih => simp [asBls, ih]
theorem eqvL_ints : ∀ (a b : List Int), eqvL (a.map .int) (b.map .int) = decide (a = b)
  | [], [] => by simp [eqvL]
  | [], b :: bs => by simp [eqvL]
  | a :: as, [] => by simp [eqvL]
  | a :: as, b :: bs => by
    have ih := eqvL_ints as bs
    simp only [List.map_cons, eqvL, D.eqv, ih]
    by_cases h : a = b <;> simp [h]
theorem fitL_ints (n : Nat) : ∀ (a : List Int), fitL n (a.map .int) = true
  | [] => by simp [fitL]
  | a :: as => by
    simp only [List.map_cons, fitL, fitL_ints n as, Bool.and_true]
    cases n <;> simp [fit]
theorem fitL_all (n : Nat) (ds : List D) (h : ∀ d ∈ ds, fit n d = true) : fitL n ds = true := by
  induction ds with
  | nil => simp [fitL]
  | cons d ds ih =>
    unfold fitL
    rw [h d List.mem_cons_self, ih fun x hx => h x (List.mem_cons_of_mem _ hx)]
    rfl
mutual
theorem eqv_self : ∀ (n : Nat) (d : D), fit n d = true → d.eqv d = true
  | n, d, h => by
    cases d with
    | non => rfl
    | bl b => simp [D.eqv]
    | int i => simp [D.eqv]
    | str x => simp [D.eqv]
    | tup xs =>
      cases n with
      | zero => simp [fit] at h
      | succ n =>
        unfold fit at h
        unfold D.eqv
        exact eqvL_self n xs h
    | lst xs =>
      cases n with
      | zero => simp [fit] at h
      | succ n =>
        unfold fit at h
        unfold D.eqv
        exact eqvL_self n xs h
    | obj _ _ => cases n <;> simp [fit] at h
    | scr _ => cases n <;> simp [fit] at h
    | val _ => cases n <;> simp [fit] at h
theorem eqvL_self : ∀ (n : Nat) (d : List D), fitL n d = true → eqvL d d = true
  | _, [], _ => by simp [eqvL]
  | n, x :: xs, h => by
    unfold fitL at h
    obtain ⟨a1, a2⟩ := Bool.and_eq_true_iff.mp h
    unfold eqvL
    rw [eqv_self n x a1, eqvL_self n xs a2]
    rfl
end
/-- a comprehension whose turns leave the store -/
theorem lcD_map {α : Type} {tg : Tg} {test : Pd.Env → Store → R Bool} {elt : Ev} {Γ : Pd.Env} {S : Store} (l : List α) (r f : α → D)
    (h : ∀ x ∈ l, ∃ Γ1, tg (r x) Γ = some Γ1 ∧ test Γ1 S = .ok true S ∧ elt Γ1 S = .ok (.d (f x)) S) : lcD tg test elt Γ (l.map r) S = .ok (l.map f) S := by
  induction l with
  | nil => rfl
  | cons x l ih =>
    obtain ⟨Γ1, h1, h2, h3⟩ := h x List.mem_cons_self
    rw [List.map_cons, lcD, h1]
    simp only [h2, h3, noX, R.bind, lcY, if_true, ih fun y hy => h y (List.mem_cons_of_mem _ hy), List.map_cons]
theorem lcD_filter {α : Type} {tg : Tg} {test : Pd.Env → Store → R Bool} {elt : Ev} {Γ : Pd.Env} {S : Store} (l : List α) (r f : α → D) (p : α → Bool)
    (h : ∀ x ∈ l, ∃ Γ1, tg (r x) Γ = some Γ1 ∧ test Γ1 S = .ok (p x) S ∧ (p x = true → elt Γ1 S = .ok (.d (f x)) S)) : lcD tg test elt Γ (l.map r) S = .ok ((l.filter p).map f) S := by
  induction l with
  | nil => rfl
  | cons x l ih =>
    obtain ⟨Γ1, h1, h2, h3⟩ := h x List.mem_cons_self
    have ih' := ih fun y hy => h y (List.mem_cons_of_mem _ hy)
    rw [List.map_cons, lcD, h1]
    cases hp : p x with
    | true => simp only [h2, hp, h3 hp, noX, R.bind, lcY, if_true, ih', List.filter_cons, List.map_cons]
    | false => simp [h2, hp, noX, R.bind, ih', List.filter_cons]
/-- a comprehension whose turns change the store -/
theorem lcD_st {α : Type} {tg : Tg} {elt : Ev} {Γ : Pd.Env} (l : List α) (r : α → D) (Q : D → Prop) (I : Store → Prop) (S : Store) (h0 : I S)
    (h : ∀ x ∈ l, ∀ S, I S → ∃ Γ1, tg (r x) Γ = some Γ1 ∧ ∃ d S', elt Γ1 S = .ok (.d d) S' ∧ Q d ∧ I S') : ∃ ds S', lcD tg tYesD elt Γ (l.map r) S = .ok ds S' ∧ ds.length = l.length ∧ (∀ d ∈ ds, Q d) ∧ I S' := by
  induction l generalizing S with
  | nil => exact ⟨[], S, rfl, rfl, by simp, h0⟩
  | cons x l ih =>
    obtain ⟨Γ1, h1, d, S1, h2, h3, h4⟩ := h x List.mem_cons_self S h0
    obtain ⟨ds, S2, e, e1, e2, e3⟩ := ih S1 h4 fun y hy => h y (List.mem_cons_of_mem _ hy)
    refine ⟨d :: ds, S2, ?_, by simp [e1], ?_, e3⟩
    · rw [List.map_cons, lcD, h1]
      simp only [tYesD, h2, noX, R.bind, lcY, if_true, e]
    · intro z hz
      rcases List.mem_cons.mp hz with q | q
      · rw [q]; exact h3
      · exact e2 z q
theorem forD_inv {tg : Tg} {body : Sv} (l : List D) (P : Nat → Pd.Env → Store → Prop) {Γ : Pd.Env} {S : Store} (h0 : P 0 Γ S)
    (hs : ∀ i x Γ S, l[i]? = some x → P i Γ S → ∃ Γ1, tg x Γ = some Γ1 ∧ ∃ Γ2 S2, (body Γ1 S = .nx Γ2 S2 ∨ body Γ1 S = .ct Γ2 S2) ∧ P (i + 1) Γ2 S2) :
    ∃ Γ' S', forD tg body l Γ S = .nx Γ' S' ∧ P l.length Γ' S' := by
  induction l generalizing P Γ S with
  | nil => exact ⟨Γ, S, rfl, h0⟩
  | cons x l ih =>
    obtain ⟨Γ1, h1, Γ2, S2, h2, h3⟩ := hs 0 x Γ S rfl h0
    obtain ⟨Γ', S', e, hp⟩ := ih (fun i => P (i + 1)) h3 fun i y Γ S hy hP => hs (i + 1) y Γ S (by simpa using hy) hP
    refine ⟨Γ', S', ?_, hp⟩
    rw [forD, h1]
    rcases h2 with h2 | h2 <;> simp only [h2, F.lp, e]
theorem whD_step {t : Ev} {body : Sv} {n : Nat} {Γ : Pd.Env} {S : Store} {Γ2 : Pd.Env} {S1 S2 : Store} (ht : eTest t Γ S = .ok true S1) (hb : body Γ S1 = .nx Γ2 S2) : whD t body (n + 1) Γ S = whD t body n Γ2 S2 := by
  rw [whD, ht]
  simp only [R.fl, if_true, hb, F.lp]
theorem whD_end {t : Ev} {body : Sv} {n : Nat} {Γ : Pd.Env} {S S1 : Store} (ht : eTest t Γ S = .ok false S1) : whD t body (n + 1) Γ S = .nx Γ S1 := by
  rw [whD, ht]
  simp [R.fl]
theorem upto_len (n : Nat) : (upto n).length = n := by simp [upto]
theorem upto_get {n i : Nat} {x : D} (h : (upto n)[i]? = some x) : x = .int (i : Nat) ∧ i < n := by
  unfold upto at h
  rw [List.getElem?_map] at h
  by_cases hi : i < n
  · rw [List.getElem?_range hi] at h
    cases h
    exact ⟨rfl, hi⟩
  · rw [List.getElem?_eq_none (by simpa using hi)] at h
    cases h
/-! ### steps of the denotations -/
section
variable {a b : Sv} {e f : Ev} {Γ Γ1 Γ2 : Pd.Env} {S S1 S2 S3 : Store} {r : F} {x y z : Val} {i j : Nat} {q : R Val}
theorem sq_nx (h : a Γ S = .nx Γ1 S1) (k : b Γ1 S1 = r) : sSeq a b Γ S = r := by unfold sSeq; rw [h]; exact k
theorem sq_rt (h : a Γ S = .rt x S1) : sSeq a b Γ S = .rt x S1 := by unfold sSeq; rw [h]
theorem if_t (h : eTest e Γ S = .ok true S1) (k : a Γ S1 = r) : sIf e a b Γ S = r := by unfold sIf; rw [h]; exact k
theorem if_f (h : eTest e Γ S = .ok false S1) (k : b Γ S1 = r) : sIf e a b Γ S = r := by unfold sIf; rw [h]; exact k
theorem asg_i (h : e Γ S = .ok x S1) : sAsg i e Γ S = .nx (Γ.set i (some x)) S1 := by unfold sAsg; rw [h]; rfl
theorem ret_i (h : e Γ S = .ok x S1) : sRet e Γ S = .rt x S1 := by unfold sRet; rw [h]; rfl
theorem ex_i (h : e Γ S = .ok x S1) : sEx e Γ S = .nx Γ S1 := by unfold sEx; rw [h]; rfl
theorem par_i (h : e Γ S = .ok x S1) (k : f Γ S1 = .ok y S2) : sPar i j e f Γ S = .nx ((Γ.set i (some x)).set j (some y)) S2 := by unfold sPar; rw [h]; simp only [R.fl]; rw [k]
theorem new_i {ds : List D} (h : e Γ S = .ok (.d (.lst ds)) S1) : sNew i e Γ S = .nx (Γ.set i (some (.cell S1.length))) (S1 ++ [some (.lst ds)]) := by unfold sNew; rw [h]; rfl
theorem for_i {it : Pd.Env → Store → R (List D)} {tg : Tg} {ds : List D} (h : it Γ S = .ok ds S1) (k : forD tg a ds Γ S1 = r) : sFor it tg a Γ S = r := by unfold sFor; rw [h]; exact k
theorem funD_rt {n : Nat} {body : Nat → Sv} {ds : List Val} {d : D} (h : body S.length (ds.map some ++ List.replicate n none) S = .rt (.d d) S1) (hl : S1.length = S.length) : funD n body ds S = .ok (.d d) S1 := by
  unfold funD; rw [h]; simp only [finF, fin]; rw [← hl, List.take_length]
theorem funD_nx {n : Nat} {body : Nat → Sv} {ds : List Val} (h : body S.length (ds.map some ++ List.replicate n none) S = .nx Γ1 S1) (hl : S1.length = S.length) : funD n body ds S = .ok (.d .non) S1 := by
  unfold funD; rw [h]; simp only [finF, fin]; rw [← hl, List.take_length]
theorem funD_cut {n : Nat} {body : Nat → Sv} {ds : List Val} {d : D} {T : Store} (h : body S.length (ds.map some ++ List.replicate n none) S = .rt (.d d) (S1 ++ T)) (hl : S1.length = S.length) : funD n body ds S = .ok (.d d) S1 := by
  unfold funD; rw [h]; simp only [finF, fin]; rw [← hl, List.take_left]
theorem c1 {d : List Val → Store → R Val} (h1 : e Γ S = .ok x S1) (k : d [x] S1 = q) : eCall d (eCons e eNil) Γ S = q := by
  simp only [eCall, eCons, eNil, h1, R.bind, k]
theorem c2 {d : List Val → Store → R Val} (h1 : e Γ S = .ok x S1) (h2 : f Γ S1 = .ok y S2) (k : d [x, y] S2 = q) : eCall d (eCons e (eCons f eNil)) Γ S = q := by
  simp only [eCall, eCons, eNil, h1, h2, R.bind, k]
theorem c3 {e3 : Ev} {d : List Val → Store → R Val} (h1 : e Γ S = .ok x S1) (h2 : f Γ S1 = .ok y S2) (h3 : e3 Γ S2 = .ok z S3) (k : d [x, y, z] S3 = q) : eCall d (eCons e (eCons f (eCons e3 eNil))) Γ S = q := by
  simp only [eCall, eCons, eNil, h1, h2, h3, R.bind, k]
theorem b2 {d : Val → Val → Store → R Val} (h1 : e Γ S = .ok x S1) (h2 : f Γ S1 = .ok y S2) (k : d x y S2 = q) : eBin d e f Γ S = q := by
  simp only [eBin, h1, h2, R.bind, k]
theorem u1 {d : Val → Store → R Val} (h1 : e Γ S = .ok x S1) (k : d x S1 = q) : eUn d e Γ S = q := by
  simp only [eUn, h1, R.bind, k]
theorem t_i {p : Bool} (h : e Γ S = .ok (.d (.bl p)) S1) : eTest e Γ S = .ok p S1 := by
  simp only [eTest, h, R.bind, asB]
theorem not_i {p : Bool} (h : e Γ S = .ok (.d (.bl p)) S1) : eTest (eNot e) Γ S = .ok (!p) S1 := by
  simp only [eTest, eNot, h, R.bind, asB]
end
theorem itR1_i {e : Ev} {Γ : Pd.Env} {S S1 : Store} {n : Int} {m : Nat} (h : e Γ S = .ok (.d (.int n)) S1) (hn : n = m) (hm : m ≤ 1000000) : itR1 e Γ S = .ok (upto m) S1 := by
  have ec : cap = 1000000 := rfl
  unfold itR1
  rw [h]
  simp only [R.bind]
  rw [if_pos ⟨by omega, by omega⟩, hn, Int.toNat_natCast]
theorem app_last {i : Nat} {e : Ev} {Γ : Pd.Env} {S S' : Store} {ds : List D} {d : D} (h0 : Γ[i]? = some (some (.cell S.length))) (he : e Γ (S ++ [some (.lst ds)]) = .ok (.d d) (S' ++ [some (.lst ds)])) (hl : S'.length = S.length) (hz : ds.length < 1000000) : eApp (eVar i) e Γ (S ++ [some (.lst ds)]) = .ok (.d .non) (S' ++ [some (.lst (ds ++ [d]))]) := by
  have hg : ∀ o : Option Cell, (S ++ [o])[S.length]? = some o := fun o => by simp
  have hg' : ∀ o : Option Cell, (S' ++ [o])[S.length]? = some o := fun o => by rw [← hl]; simp
  have hs : ∀ a b : Option Cell, (S' ++ [a]).set S.length b = S' ++ [b] := fun a b => by rw [← hl]; simp
  have ec : ds.length < cap := hz
  simp only [eApp, eVar, h0, R.bind, rd, hg, he, hg', hs, ec, if_true]
theorem frz_last {i : Nat} {Γ : Pd.Env} {S : Store} {ds : List D} (h0 : Γ[i]? = some (some (.cell S.length))) : sFrz S.length i Γ (S ++ [some (.lst ds)]) = .nx ((Γ.set i (some (.d (.lst ds)))).map (keepB S.length)) S := by
  have hg : ∀ o : Option Cell, (S ++ [o])[S.length]? = some o := fun o => by simp
  unfold sFrz
  rw [h0]
  simp only [hg, Nat.le_refl, if_true]
  rw [if_pos (by simp)]
  simp
theorem itR2_i {e f : Ev} {Γ : Pd.Env} {S S1 S2 : Store} {a b : Int} {m : Nat} (h : e Γ S = .ok (.d (.int a)) S1) (h2 : f Γ S1 = .ok (.d (.int b)) S2) (hm : b - a = m) (ha : -1000 ≤ a ∧ a ≤ 1000) (hb : m ≤ 100000) : itR2 e f Γ S = .ok ((List.range m).map fun i => .int (a + (i : Nat))) S2 := by
  have ec : cap = 1000000 := rfl
  unfold itR2
  rw [h]
  simp only [R.bind]
  rw [h2]
  simp only []
  rw [if_pos ⟨⟨by omega, by omega⟩, by omega, by omega⟩, hm, Int.toNat_natCast]
section
variable {e f : Ev} {Γ : Pd.Env} {S S1 S2 : Store} {q : R Val} {b : Bool}
theorem and_t (h : eTest e Γ S = .ok true S1) (k : f Γ S1 = q) : eAnd e f Γ S = q := by unfold eAnd; rw [h]; exact k
theorem and_f (h : eTest e Γ S = .ok false S1) : eAnd e f Γ S = .ok (.d (.bl false)) S1 := by unfold eAnd; rw [h]; rfl
theorem or_t (h : eTest e Γ S = .ok true S1) : eOr e f Γ S = .ok (.d (.bl true)) S1 := by unfold eOr; rw [h]; rfl
theorem or_f (h : eTest e Γ S = .ok false S1) (k : f Γ S1 = q) : eOr e f Γ S = q := by unfold eOr; rw [h]; exact k
theorem tand_t (h : eTest e Γ S = .ok true S1) (k : eTest f Γ S1 = .ok b S2) : eTest (eAnd e f) Γ S = .ok b S2 := by show (eAnd e f Γ S).bind asB = _; rw [and_t h rfl]; exact k
theorem tand_f (h : eTest e Γ S = .ok false S1) : eTest (eAnd e f) Γ S = .ok false S1 := t_i (and_f h)
theorem tor_t (h : eTest e Γ S = .ok true S1) : eTest (eOr e f) Γ S = .ok true S1 := t_i (or_t h)
theorem tor_f (h : eTest e Γ S = .ok false S1) (k : eTest f Γ S1 = .ok b S2) : eTest (eOr e f) Γ S = .ok b S2 := by show (eOr e f Γ S).bind asB = _; rw [or_f h rfl]; exact k
theorem tnot (h : eTest e Γ S = .ok b S1) : eTest (eNot e) Γ S = .ok (!b) S1 := by
  show (eNot e Γ S).bind asB = _
  unfold eNot
  rw [h]
  rfl
end
/-! ### common: plain things -/
theorem int_big {i : Int} (h : i.natAbs ≤ 10 ^ 70) : i.natAbs < big := by
  have e : (10 : Nat) ^ 70 < 2 ^ 255 := by decide
  have h3 : (2 : Nat) ^ 255 ≤ big := Nat.pow_le_pow_right (by decide) (by decide)
  omega
theorem take_sum (ns : List Int) (i : Nat) (h : i < ns.length) : (ns.take (i + 1)).sum = (ns.take i).sum + ns[i] := by
  rw [List.take_succ_eq_append_getElem h, List.sum_append]
  simp
theorem sum_nn : ∀ {ns : List Int}, (∀ n ∈ ns, 0 ≤ n) → 0 ≤ ns.sum
  | [], _ => by simp
  | n :: ns, h => by
    have h1 := sum_nn (ns := ns) fun x hx => h x (List.mem_cons_of_mem _ hx)
    have h2 := h n List.mem_cons_self
    rw [List.sum_cons]
    omega
theorem take_drop_sum (ns : List Int) (i : Nat) : ns.sum = (ns.take i).sum + (ns.drop i).sum := by
  conv => lhs; rw [← List.take_append_drop i ns]
  rw [List.sum_append]
def gos (ns : List Int) : Bool := (ns.zip (ns.drop 1)).all fun p => decide (p.2 ≤ p.1)
theorem gos_eq (ns : List Int) : gos ns = decide (((ns.zip (ns.drop 1)).filter fun p => decide (p.1 < p.2)) = []) := by
  unfold gos
  generalize ns.zip (ns.drop 1) = l
  induction l with
  | nil => rfl
  | cons x l ih =>
    rw [List.all_cons, ih, List.filter_cons]
    by_cases h : x.1 < x.2
    · have : ¬ x.2 ≤ x.1 := by omega
      have t : decide (x.2 ≤ x.1) = false := decide_eq_false this
      simp only [t, h, decide_true, if_true, Bool.false_and]
      rfl
    · have : x.2 ≤ x.1 := by omega
      simp [h, this]
abbrev iT (ns : List Int) : Val := .d (.tup (ns.map .int))
theorem lc_i {it : Pd.Env → Store → R (List D)} {vs : List Nat} {tg : Tg} {test : Pd.Env → Store → R Bool} {elt : Ev} {Γ : Pd.Env} {S S1 S2 : Store} {ds es : List D} (h : it Γ S = .ok ds S1) (hl : ds.length ≤ cap) (k : lcD tg test elt (wipeE Γ vs) ds S1 = .ok es S2) : eLc it vs tg test elt Γ S = .ok (.d (.lst es)) S2 := by
  unfold eLc
  rw [h]
  simp only [R.bind, hl, if_true, k, noX]
theorem cut1 {α : Type} (l : List α) : cutD l (some 1) none = l.drop 1 := by
  unfold cutD
  cases l with
  | nil => simp [HT.sIx]
  | cons x l => simp [HT.sIx]
theorem cutTo {α : Type} (l : List α) (i : Nat) (h : i ≤ l.length) : cutD l none (some (i : Int)) = l.take i := by
  unfold cutD
  have h2 : ¬ ((i : Int) < 0) := by omega
  simp [HT.sIx, h2]
  all_goals try omega
theorem zip_pairs (ns ms : List Int) : zipD (ns.map .int) (ms.map .int) = (ns.zip ms).map fun p => .tup [.int p.1, .int p.2] := by
  unfold zipD
  rw [List.zip_map, List.map_map]
  rfl
theorem fNe_same (d : D) (S : Store) (h : fit 60 d = true) : fNe (.d d) (.d d) S = .ok (.d (.bl false)) S := by
  simp only [fNe, rd, h, and_self, if_true, eqv_self 60 d h, Bool.not_true]
theorem fEq_same (d : D) (S : Store) (h : fit 60 d = true) : fEq (.d d) (.d d) S = .ok (.d (.bl true)) S := by
  simp only [fEq, rd, h, and_self, if_true, eqv_self 60 d h]
theorem fit_ints (n : Nat) (ns : List Int) : fit (n + 1) (.lst (ns.map .int)) = true := by
  unfold fit
  exact fitL_ints n ns
theorem fit_intsT (n : Nat) (ns : List Int) : fit (n + 1) (.tup (ns.map .int)) = true := by
  unfold fit
  exact fitL_ints n ns
theorem fit_int (n : Nat) (i : Int) : fit n (.int i) = true := by
  cases n <;> simp [fit]
theorem ints_of {P : Int → Prop} : ∀ {ds : List D}, (∀ d ∈ ds, ∃ x, d = .int x ∧ P x) → ∃ ns : List Int, ds = ns.map .int ∧ ∀ x ∈ ns, P x
  | [], _ => ⟨[], rfl, by simp⟩
  | d :: ds, h => by
    obtain ⟨x, rfl, px⟩ := h d List.mem_cons_self
    obtain ⟨ns, rfl, q⟩ := ints_of (ds := ds) fun e he => h e (List.mem_cons_of_mem _ he)
    refine ⟨x :: ns, rfl, fun y hy => ?_⟩
    rcases List.mem_cons.mp hy with rfl | hy
    · exact px
    · exact q y hy
theorem fit_tf (b : Bool) : fit 60 (.str (if b then "True" else "False")) = true := by
  cases b
  · unfold fit; decide +kernel
  · unfold fit; decide +kernel
theorem c4 {e f e3 e4 : Ev} {Γ : Pd.Env} {S S1 S2 S3 S4 : Store} {x y z u : Val} {q : R Val} {d : List Val → Store → R Val} (h1 : e Γ S = .ok x S1) (h2 : f Γ S1 = .ok y S2) (h3 : e3 Γ S2 = .ok z S3) (h4 : e4 Γ S3 = .ok u S4) (k : d [x, y, z, u] S4 = q) : eCall d (eCons e (eCons f (eCons e3 (eCons e4 eNil)))) Γ S = q := by
  simp only [eCall, eCons, eNil, h1, h2, h3, h4, R.bind, k]
/-! ### an evaluator by rewriting: each construct waits for the value of its first part -/
section
variable {α β : Type}
def _root_.Pd.R.un (r : R Val) (f : Val → Store → R Val) : R Val := r.bind fun x S => f x S
def _root_.Pd.R.bi2 (r : R Val) (x : Val) (f : Val → Val → Store → R Val) : R Val := r.bind fun y S => f x y S
def _root_.Pd.R.bi1 (r : R Val) (f : Val → Val → Store → R Val) (b : Ev) (Γ : Pd.Env) : R Val := r.bind fun x S => (b Γ S).bi2 x f
def _root_.Pd.R.cl (r : R (List Val)) (f : List Val → Store → R Val) : R Val := r.bind f
def _root_.Pd.R.cs2 (r : R (List Val)) (x : Val) : R (List Val) := r.bind fun xs S => .ok (x :: xs) S
def _root_.Pd.R.cs1 (r : R Val) (t : Pd.Env → Store → R (List Val)) (Γ : Pd.Env) : R (List Val) := r.bind fun x S => (t Γ S).cs2 x
def _root_.Pd.R.tst (r : R Val) : R Bool := r.bind asB
def _root_.Pd.R.an (r : R Bool) (b : Ev) (Γ : Pd.Env) : R Val := r.bind fun x S1 => if x = true then b Γ S1 else .ok (.d (.bl false)) S1
def _root_.Pd.R.orr (r : R Bool) (b : Ev) (Γ : Pd.Env) : R Val := r.bind fun x S1 => if x = true then .ok (.d (.bl true)) S1 else b Γ S1
def _root_.Pd.R.nt (r : R Bool) : R Val := r.bind fun x S1 => .ok (.d (.bl (!x))) S1
def _root_.Pd.R.iff (r : R Bool) (a b : Ev) (Γ : Pd.Env) : R Val := r.bind fun x S1 => if x = true then a Γ S1 else b Γ S1
def _root_.Pd.R.ch4 (r : R Val) (y : Val) (f' : Val → Val → Store → R Val) : R Val := r.bind fun u S => f' y u S
def _root_.Pd.R.ch3 (r : R Bool) (y : Val) (f' : Val → Val → Store → R Val) (c : Ev) (Γ : Pd.Env) : R Val := r.bind fun k S4 => if k = true then (c Γ S4).ch4 y f' else .ok (.d (.bl false)) S4
def _root_.Pd.R.ch2 (r : R Val) (x : Val) (f f' : Val → Val → Store → R Val) (c : Ev) (Γ : Pd.Env) : R Val := r.bind fun y S2 => ((f x y S2).tst).ch3 y f' c Γ
def _root_.Pd.R.ch1 (r : R Val) (f f' : Val → Val → Store → R Val) (b c : Ev) (Γ : Pd.Env) : R Val := r.bind fun x S1 => (b Γ S1).ch2 x f f' c Γ
def oI : Val → Store → R (Option Int)
  | .d (.int i), S => .ok (some i) S
  | _, _ => .bad
def _root_.Pd.R.so (r : R Val) : R (Option Int) := r.bind oI
def _root_.Pd.R.sl3 (r : R (Option Int)) (x : Val) (l : Option Int) : R Val := r.bind fun h S => fSl x l h S
def _root_.Pd.R.sl2 (r : R (Option Int)) (x : Val) (hi : Pd.Env → Store → R (Option Int)) (Γ : Pd.Env) : R Val := r.bind fun l S => (hi Γ S).sl3 x l
def _root_.Pd.R.sl1 (r : R Val) (lo hi : Pd.Env → Store → R (Option Int)) (Γ : Pd.Env) : R Val := r.bind fun x S => (lo Γ S).sl2 x hi Γ
def iV : Val → Store → R (List D)
  | .d (.lst ds), S => .ok ds S
  | .d (.tup ds), S => .ok ds S
  | _, _ => .bad
def _root_.Pd.R.iv (r : R Val) : R (List D) := r.bind iV
def iR : Val → Store → R (List D)
  | .d (.int n), S => if n ≤ cap ∧ -cap ≤ n then .ok (upto n.toNat) S else .bad
  | _, _ => .bad
def _root_.Pd.R.ir (r : R Val) : R (List D) := r.bind iR
def iEn : Val → Store → R (List D)
  | .d (.lst ds), S => .ok (ds.zipIdx.map fun p => .tup [.int (p.2 : Nat), p.1]) S
  | .d (.tup ds), S => .ok (ds.zipIdx.map fun p => .tup [.int (p.2 : Nat), p.1]) S
  | _, _ => .bad
def _root_.Pd.R.ie (r : R Val) : R (List D) := r.bind iEn
def iZz : Val → Val → Store → R (List D)
  | .d (.lst ds), .d (.lst es), S => .ok (zipD ds es) S
  | .d (.tup ds), .d (.tup es), S => .ok (zipD ds es) S
  | _, _, _ => .bad
def iR2 : Val → Val → Store → R (List D)
  | .d (.int m), .d (.int n), S => if (n ≤ cap ∧ -cap ≤ n) ∧ m ≤ cap ∧ -cap ≤ m then .ok ((List.range (n - m).toNat).map fun i => .int (m + (i : Nat))) S else .bad
  | _, _, _ => .bad
def _root_.Pd.R.it2 (r : R Val) (x : Val) (f : Val → Val → Store → R (List D)) : R (List D) := r.bind fun y S => f x y S
def _root_.Pd.R.it1 (r : R Val) (f : Val → Val → Store → R (List D)) (b : Ev) (Γ : Pd.Env) : R (List D) := r.bind fun x S => (b Γ S).it2 x f
def _root_.Pd.R.me2 (r : R (List Val)) (x : Val) (d : List Val → Store → R Val) : R Val := r.bind fun ys S => noX (d (x :: ys) S)
def _root_.Pd.R.me1 (r : R Val) (c : Str) (d : List Val → Store → R Val) (er : Pd.Env → Store → R (List Val)) (Γ : Pd.Env) : R Val := r.bind fun x S1 => if isO c x S1 = true then (er Γ S1).me2 x d else .bad
def _root_.Pd.F.sq (f : F) (b : Sv) : F := match f with
  | .nx Γ1 S1 => b Γ1 S1
  | f => f
def _root_.Pd.R.kEx (r : R Val) (Γ : Pd.Env) : F := r.fl Γ fun _ S1 => .nx Γ S1
def _root_.Pd.R.kRet (r : R Val) (Γ : Pd.Env) : F := r.fl Γ fun x S1 => .rt x S1
def _root_.Pd.R.kAsg (r : R Val) (i : Nat) (Γ : Pd.Env) : F := r.fl Γ fun x S1 => .nx (Γ.set i (some x)) S1
def kN (i : Nat) (Γ : Pd.Env) : Val → Store → F
  | .d (.lst ds), S => .nx (Γ.set i (some (.cell S.length))) (S ++ [some (.lst ds)])
  | _, _ => .bad
def _root_.Pd.R.kNew (r : R Val) (i : Nat) (Γ : Pd.Env) : F := r.fl Γ (kN i Γ)
def _root_.Pd.R.kIf (r : R Bool) (a b : Sv) (Γ : Pd.Env) : F := r.fl Γ fun x S1 => if x = true then a Γ S1 else b Γ S1
def _root_.Pd.R.kPr2 (r : R Val) (i j : Nat) (x : Val) (Γ : Pd.Env) : F := r.fl Γ fun y S2 => .nx ((Γ.set i (some x)).set j (some y)) S2
def _root_.Pd.R.kPr1 (r : R Val) (i j : Nat) (b : Ev) (Γ : Pd.Env) : F := r.fl Γ fun x S1 => (b Γ S1).kPr2 i j x Γ
def _root_.Pd.R.kPt3 (r : R Val) (i j l : Nat) (x y : Val) (Γ : Pd.Env) : F := r.fl Γ fun z S3 => .nx (((Γ.set i (some x)).set j (some y)).set l (some z)) S3
def _root_.Pd.R.kPt2 (r : R Val) (i j l : Nat) (x : Val) (c : Ev) (Γ : Pd.Env) : F := r.fl Γ fun y S2 => (c Γ S2).kPt3 i j l x y Γ
def _root_.Pd.R.kPt1 (r : R Val) (i j l : Nat) (b c : Ev) (Γ : Pd.Env) : F := r.fl Γ fun x S1 => (b Γ S1).kPt2 i j l x c Γ
def oN : Option Pd.Env → Store → F
  | some Γ, S => .nx Γ S
  | none, _ => .bad
def kT (tg : Tg) (Γ : Pd.Env) : Val → Store → F
  | .d d, S => oN (tg d Γ) S
  | _, _ => .bad
def _root_.Pd.R.kAt (r : R Val) (tg : Tg) (Γ : Pd.Env) : F := r.fl Γ (kT tg Γ)
def _root_.Pd.R.kFor (r : R (List D)) (tg : Tg) (a : Sv) (Γ : Pd.Env) : F := r.fl Γ fun ds S1 => forD tg a ds Γ S1
def oD : Option D → Store → R Val
  | some d, S => .ok (.d d) S
  | none, _ => .bad
def ixC : Option (Option Cell) → Int → Store → R Val
  | some (some (.lst ds)), n, S => oD (atI ds n) S
  | _, _, _ => .bad
def lnC : Option (Option Cell) → Store → R Val
  | some (some (.lst ds)), S => .ok (.d (.int ds.length)) S
  | _, _ => .bad
def rdC : Option (Option Cell) → Option D
  | some (some (.lst ds)) => some (.lst ds)
  | _ => none
variable {a b c : Ev} {s t : Sv} {Γ : Pd.Env} {S S1 : Store} {x y : Val} {i j l : Nat} {r : Pd.Env → Store → R (List Val)} {f f' : Val → Val → Store → R Val}
theorem v_ap : eVar i Γ S = (match Γ[i]? with | some (some x) => .ok x S | _ => .bad) := rfl
theorem c_ap {d : D} : eC d Γ S = .ok (.d d) S := rfl
theorem un_ap {f : Val → Store → R Val} : eUn f a Γ S = (a Γ S).un f := rfl
theorem un_ok {f : Val → Store → R Val} : R.un (.ok x S) f = f x S := rfl
theorem bi_ap : eBin f a b Γ S = (a Γ S).bi1 f b Γ := rfl
theorem bi1_ok : R.bi1 (.ok x S) f b Γ = (b Γ S).bi2 x f := rfl
theorem bi2_ok : R.bi2 (.ok y S) x f = f x y S := rfl
theorem cl_ap {d : List Val → Store → R Val} : eCall d r Γ S = (r Γ S).cl d := rfl
theorem cl_ok {d : List Val → Store → R Val} {xs : List Val} : R.cl (.ok xs S) d = d xs S := rfl
theorem cs_ap : eCons a r Γ S = (a Γ S).cs1 r Γ := rfl
theorem cs1_ok : R.cs1 (.ok x S) r Γ = (r Γ S).cs2 x := rfl
theorem cs2_ok {xs : List Val} : R.cs2 (.ok xs S) x = .ok (x :: xs) S := rfl
theorem nil_ap : eNil Γ S = .ok [] S := rfl
theorem t_ap : eTest a Γ S = (a Γ S).tst := rfl
theorem t_ok {p : Bool} : R.tst (.ok (.d (.bl p)) S) = .ok p S := rfl
theorem an_ap : eAnd a b Γ S = ((a Γ S).tst).an b Γ := rfl
theorem an_t : R.an (.ok true S) b Γ = b Γ S := rfl
theorem an_f : R.an (.ok false S) b Γ = .ok (.d (.bl false)) S := rfl
theorem or_ap : eOr a b Γ S = ((a Γ S).tst).orr b Γ := rfl
theorem or_tt : R.orr (.ok true S) b Γ = .ok (.d (.bl true)) S := rfl
theorem or_ff : R.orr (.ok false S) b Γ = b Γ S := rfl
theorem nt_ap : eNot a Γ S = ((a Γ S).tst).nt := rfl
theorem nt_ok {p : Bool} : R.nt (.ok p S) = .ok (.d (.bl (!p))) S := rfl
theorem if_ap : eIf a b c Γ S = ((a Γ S).tst).iff b c Γ := rfl
theorem iff_t : R.iff (.ok true S) b c Γ = b Γ S := rfl
theorem iff_f : R.iff (.ok false S) b c Γ = c Γ S := rfl
theorem ch_ap : eChain f f' a b c Γ S = (a Γ S).ch1 f f' b c Γ := by
  unfold eChain R.ch1
  congr 1
  funext x S
  unfold R.ch2
  congr 1
  funext y S
  unfold R.tst R.ch3
  rw [R.bind_assoc]
  rfl
theorem ch1_ok : R.ch1 (.ok x S) f f' b c Γ = (b Γ S).ch2 x f f' c Γ := rfl
theorem ch2_ok : R.ch2 (.ok y S) x f f' c Γ = ((f x y S).tst).ch3 y f' c Γ := rfl
theorem ch3_t : R.ch3 (.ok true S) y f' c Γ = (c Γ S).ch4 y f' := rfl
theorem ch3_f : R.ch3 (.ok false S) y f' c Γ = .ok (.d (.bl false)) S := rfl
theorem ch4_ok : R.ch4 (.ok x S) y f' = f' y x S := rfl
theorem oN_ap : eoN Γ S = .ok none S := rfl
theorem oS_ap : eoS a Γ S = (a Γ S).so := by
  unfold eoS R.so
  congr 1
  funext x S
  cases x with
  | cell k => rfl
  | d x => cases x <;> rfl
theorem so_ok {n : Int} : R.so (.ok (.d (.int n)) S) = .ok (some n) S := rfl
theorem sl_ap {lo hi : Pd.Env → Store → R (Option Int)} : eSl a lo hi Γ S = (a Γ S).sl1 lo hi Γ := rfl
theorem sl1_ok {lo hi : Pd.Env → Store → R (Option Int)} : R.sl1 (.ok x S) lo hi Γ = (lo Γ S).sl2 x hi Γ := rfl
theorem sl2_ok {hi : Pd.Env → Store → R (Option Int)} {l : Option Int} : R.sl2 (.ok l S) x hi Γ = (hi Γ S).sl3 x l := rfl
theorem sl3_ok {l h : Option Int} : R.sl3 (.ok h S) x l = fSl x l h S := rfl
theorem fSl_l {ds : List D} {l h : Option Int} : fSl (.d (.lst ds)) l h S = .ok (.d (.lst (cutD ds l h))) S := rfl
theorem fSl_t {ds : List D} {l h : Option Int} : fSl (.d (.tup ds)) l h S = .ok (.d (.tup (cutD ds l h))) S := rfl
theorem iv_ap : itV a Γ S = (a Γ S).iv := by
  unfold itV R.iv
  congr 1
  funext x S
  cases x with
  | cell k => rfl
  | d x => cases x <;> rfl
theorem iv_l {ds : List D} : R.iv (.ok (.d (.lst ds)) S) = .ok ds S := rfl
theorem iv_t {ds : List D} : R.iv (.ok (.d (.tup ds)) S) = .ok ds S := rfl
theorem ir_ap : itR1 a Γ S = (a Γ S).ir := by
  unfold itR1 R.ir
  congr 1
  funext x S
  cases x with
  | cell k => rfl
  | d x => cases x <;> rfl
theorem ir_ok {n : Nat} (h : n ≤ 1000000) : R.ir (.ok (.d (.int n)) S) = .ok (upto n) S := by
  show (if (n : Int) ≤ cap ∧ -cap ≤ (n : Int) then R.ok (upto (n : Int).toNat) S else .bad) = _
  have : cap = 1000000 := rfl
  rw [if_pos ⟨by omega, by omega⟩]
  rfl
theorem ir_i {n : Int} (h0 : 0 ≤ n) (h : n ≤ 1000000) : R.ir (.ok (.d (.int n)) S) = .ok (upto n.toNat) S := by
  show (if (n : Int) ≤ cap ∧ -cap ≤ (n : Int) then R.ok (upto (n : Int).toNat) S else .bad) = _
  have : cap = 1000000 := rfl
  rw [if_pos ⟨by omega, by omega⟩]
theorem ie_ap : itEn a Γ S = (a Γ S).ie := by
  unfold itEn R.ie
  congr 1
  funext x S
  cases x with
  | cell k => rfl
  | d x => cases x <;> rfl
theorem ie_l {ds : List D} : R.ie (.ok (.d (.lst ds)) S) = .ok (ds.zipIdx.map fun p => .tup [.int (p.2 : Nat), p.1]) S := rfl
theorem ie_t {ds : List D} : R.ie (.ok (.d (.tup ds)) S) = .ok (ds.zipIdx.map fun p => .tup [.int (p.2 : Nat), p.1]) S := rfl
theorem iz_ap : itZ a b Γ S = (a Γ S).it1 iZz b Γ := by
  unfold itZ R.it1 R.it2
  congr 1
  funext x S
  congr 1
  funext y S
  cases x with
  | cell k => rfl
  | d x =>
    cases y with
    | cell k => cases x <;> rfl
    | d y => cases x <;> cases y <;> rfl
theorem i2_ap : itR2 a b Γ S = (a Γ S).it1 iR2 b Γ := by
  unfold itR2 R.it1 R.it2
  congr 1
  funext x S
  congr 1
  funext y S
  cases x with
  | cell k => rfl
  | d x =>
    cases y with
    | cell k => cases x <;> rfl
    | d y => cases x <;> cases y <;> rfl
theorem it1_ok {f : Val → Val → Store → R (List D)} : R.it1 (.ok x S) f b Γ = (b Γ S).it2 x f := rfl
theorem it2_ok {f : Val → Val → Store → R (List D)} : R.it2 (.ok y S) x f = f x y S := rfl
theorem iZz_l {ds es : List D} : iZz (.d (.lst ds)) (.d (.lst es)) S = .ok (zipD ds es) S := rfl
theorem iZz_t {ds es : List D} : iZz (.d (.tup ds)) (.d (.tup es)) S = .ok (zipD ds es) S := rfl
theorem me_ap {m : Str} {d : List Val → Store → R Val} : eMeth m d a r Γ S = (a Γ S).me1 m d r Γ := rfl
theorem me1_ok {m : Str} {d : List Val → Store → R Val} (h : isO m x S = true) : R.me1 (.ok x S) m d r Γ = (r Γ S).me2 x d := by
  show (if isO m x S = true then (r Γ S).me2 x d else .bad) = _
  rw [if_pos h]
theorem me2_ok {d : List Val → Store → R Val} {xs : List Val} : R.me2 (.ok xs S) x d = noX (d (x :: xs) S) := rfl
theorem nox_ok {α : Type} {x : α} : noX (R.ok x S) = .ok x S := rfl
theorem isO_d {m m' : Str} {fs : List D} : isO m (.d (.obj m' fs)) S = decide (m' = m) := rfl
theorem fPr_o {m m' : Str} {fs : List D} {d : List Val → Store → R Val} (h : m' = m) : fPr m d (.d (.obj m' fs)) S = noX (d [.d (.obj m' fs)] S) := by
  unfold fPr
  rw [if_pos (by simp [isO, h])]
theorem fFld_o {m m' : Str} {fs : List D} (h : m' = m) : fFld m i (.d (.obj m' fs)) S = oD fs[i]? S := by
  show (if m' = m then (match fs[i]? with | some d => R.ok (Val.d d) S | none => .bad) else .bad) = _
  rw [if_pos h]
  cases fs[i]? <;> rfl
theorem sq_ap : sSeq s t Γ S = (s Γ S).sq t := rfl
theorem sq_n {Γ' : Pd.Env} : F.sq (.nx Γ' S) t = t Γ' S := rfl
theorem sq_r : F.sq (.rt x S) t = .rt x S := rfl
theorem sq_b {Γ' : Pd.Env} : F.sq (.bk Γ' S) t = .bk Γ' S := rfl
theorem sq_c {Γ' : Pd.Env} : F.sq (.ct Γ' S) t = .ct Γ' S := rfl
theorem nl_ap : sNil Γ S = .nx Γ S := rfl
theorem bk_ap : sBrk Γ S = .bk Γ S := rfl
theorem ct_ap : sCont Γ S = .ct Γ S := rfl
theorem ex_ap : sEx a Γ S = (a Γ S).kEx Γ := rfl
theorem ex_ok : R.kEx (.ok x S) Γ = .nx Γ S := rfl
theorem rt_ap : sRet a Γ S = (a Γ S).kRet Γ := rfl
theorem rt_ok : R.kRet (.ok x S) Γ = .rt x S := rfl
theorem rn_ap : sRetN Γ S = .rt (.d .non) S := rfl
theorem as_ap : sAsg i a Γ S = (a Γ S).kAsg i Γ := rfl
theorem as_ok : R.kAsg (.ok x S) i Γ = .nx (Γ.set i (some x)) S := rfl
theorem nw_ap : sNew i a Γ S = (a Γ S).kNew i Γ := by
  unfold sNew R.kNew
  congr 1
  funext x S
  cases x with
  | cell k => rfl
  | d x => cases x <;> rfl
theorem nw_ok {ds : List D} : R.kNew (.ok (.d (.lst ds)) S) i Γ = .nx (Γ.set i (some (.cell S.length))) (S ++ [some (.lst ds)]) := rfl
theorem sf_ap : sIf a s t Γ S = ((a Γ S).tst).kIf s t Γ := rfl
theorem sf_t : R.kIf (.ok true S) s t Γ = s Γ S := rfl
theorem sf_f : R.kIf (.ok false S) s t Γ = t Γ S := rfl
theorem pr_ap : sPar i j a b Γ S = (a Γ S).kPr1 i j b Γ := rfl
theorem pr1_ok : R.kPr1 (.ok x S) i j b Γ = (b Γ S).kPr2 i j x Γ := rfl
theorem pr2_ok : R.kPr2 (.ok y S) i j x Γ = .nx ((Γ.set i (some x)).set j (some y)) S := rfl
theorem pt_ap : sPar3 i j l a b c Γ S = (a Γ S).kPt1 i j l b c Γ := rfl
theorem pt1_ok : R.kPt1 (.ok x S) i j l b c Γ = (b Γ S).kPt2 i j l x c Γ := rfl
theorem pt2_ok : R.kPt2 (.ok y S) i j l x c Γ = (c Γ S).kPt3 i j l x y Γ := rfl
theorem pt3_ok {z : Val} : R.kPt3 (.ok z S) i j l x y Γ = .nx (((Γ.set i (some x)).set j (some y)).set l (some z)) S := rfl
theorem at_ap {tg : Tg} : sAsgT tg a Γ S = (a Γ S).kAt tg Γ := by
  unfold sAsgT R.kAt
  congr 1
  funext x S
  cases x with
  | cell k => rfl
  | d x => show _ = oN (tg x Γ) S; dsimp only; cases tg x Γ <;> rfl
theorem at_ok {tg : Tg} {d : D} : R.kAt (.ok (.d d) S) tg Γ = oN (tg d Γ) S := rfl
theorem oN_some {Γ' : Pd.Env} : oN (some Γ') S = .nx Γ' S := rfl
theorem fo_ap {it : Pd.Env → Store → R (List D)} {tg : Tg} : sFor it tg s Γ S = (it Γ S).kFor tg s Γ := rfl
theorem fo_ok {tg : Tg} {ds : List D} : R.kFor (.ok ds S) tg s Γ = forD tg s ds Γ S := rfl
theorem tgN_ap {d : D} : tgN i d Γ = some (Γ.set i (some (.d d))) := rfl
theorem tgT_ap {u : List D → Pd.Env → Option Pd.Env} {ds : List D} : tgT u (.tup ds) Γ = u ds Γ := rfl
theorem tgs_c {tg : Tg} {u : List D → Pd.Env → Option Pd.Env} {d : D} {ds : List D} : tgsCons tg u (d :: ds) Γ = (tg d Γ).bind (u ds) := rfl
theorem tgs_n : tgsNil [] Γ = some Γ := rfl
theorem ob_s {α β : Type} {x : α} {k : α → Option β} : (some x).bind k = k x := rfl
theorem funD_ap {n : Nat} {body : Nat → Sv} {xs : List Val} : funD n body xs S = finF S.length (body S.length (xs.map some ++ List.replicate n none) S) := rfl
theorem fin_d {d : D} {n : Nat} : finF n (.rt (.d d) S) = .ok (.d d) (S.take n) := rfl
theorem fin_n {n : Nat} : finF n (.nx Γ S) = .ok (.d .non) (S.take n) := rfl
theorem tk_len : S.take S.length = S := List.take_length
theorem tk_app {o : Option Cell} : (S ++ [o]).take S.length = S := by simp
theorem tk_appc {o o' : Option Cell} : (o' :: (S ++ [o])).take (S.length + 1) = o' :: S := by simp
theorem get_app {o : Option Cell} : (S ++ [o])[S.length]? = some o := by simp
theorem set_app {o o' : Option Cell} : (S ++ [o]).set S.length o' = S ++ [o'] := by simp
/-! operations -/
theorem add_ii {m n : Int} : fAdd (.d (.int m)) (.d (.int n)) S = .ok (.d (.int (m + n))) S := rfl
theorem add_ll {xs ys : List D} (h : xs.length + ys.length ≤ 1000000) : fAdd (.d (.lst xs)) (.d (.lst ys)) S = .ok (.d (.lst (xs ++ ys))) S := if_pos h
theorem add_tt {xs ys : List D} (h : xs.length + ys.length ≤ 1000000) : fAdd (.d (.tup xs)) (.d (.tup ys)) S = .ok (.d (.tup (xs ++ ys))) S := if_pos h
theorem sub_ii {m n : Int} : fSub (.d (.int m)) (.d (.int n)) S = .ok (.d (.int (m - n))) S := rfl
theorem mul_ii {m n : Int} (h : mulOk m n = true) : fMul (.d (.int m)) (.d (.int n)) S = .ok (.d (.int (m * n))) S := if_pos h
theorem mul_l {xs : List D} {n : Int} (h : n ≤ 1000000 ∧ -1000000 ≤ n ∧ xs.length * n.toNat ≤ 1000000) : fMul (.d (.lst xs)) (.d (.int n)) S = .ok (.d (.lst (List.replicate n.toNat xs).flatten)) S := if_pos h
theorem mulL_l {xs : List D} {n : Int} (h : n ≤ 1000000 ∧ -1000000 ≤ n ∧ xs.length * n.toNat ≤ 1000000) : fMulL (.d (.lst xs)) (.d (.int n)) S = .ok (.d (.lst (List.replicate n.toNat xs).flatten)) S := if_pos h
theorem mul_t {xs : List D} {n : Int} (h : 0 ≤ n ∧ n ≤ 1000 ∧ (xs = [] ∨ 1 ≤ n) ∧ xs.length ≤ 1000) : fMul (.d (.tup xs)) (.d (.int n)) S = .ok (.d (.tup (List.replicate n.toNat xs).flatten)) S := if_pos h
theorem addL_ll {xs ys : List D} (h : xs.length + ys.length ≤ 1000000) : fAddL (.d (.lst xs)) (.d (.lst ys)) S = .ok (.d (.lst (xs ++ ys))) S := if_pos h
theorem div_ii {m n : Int} (h : divOk n = true) : fDiv (.d (.int m)) (.d (.int n)) S = .ok (.d (.int (m / n))) S := if_pos h
theorem mod_ii {m n : Int} (h : 0 < n) : fMod (.d (.int m)) (.d (.int n)) S = .ok (.d (.int (m % n))) S := if_pos h
theorem pow_ii {m n : Int} (h : powOk m n = true) : fPow (.d (.int m)) (.d (.int n)) S = .ok (.d (.int (m ^ n.toNat))) S := if_pos h
theorem neg_i {m : Int} : fNeg (.d (.int m)) S = .ok (.d (.int (-m))) S := rfl
theorem lt_ii {m n : Int} : fLt (.d (.int m)) (.d (.int n)) S = .ok (.d (.bl (decide (m < n)))) S := rfl
theorem le_ii {m n : Int} : fLe (.d (.int m)) (.d (.int n)) S = .ok (.d (.bl (decide (m ≤ n)))) S := rfl
theorem gt_ii {m n : Int} : fGt (.d (.int m)) (.d (.int n)) S = .ok (.d (.bl (decide (n < m)))) S := rfl
theorem ge_ii {m n : Int} : fGe (.d (.int m)) (.d (.int n)) S = .ok (.d (.bl (decide (n ≤ m)))) S := rfl
theorem eq_ii {m n : Int} : fEq (.d (.int m)) (.d (.int n)) S = .ok (.d (.bl (decide (m = n)))) S := by
  simp only [fEq, rd, fit_int, and_self, if_true, D.eqv]
  by_cases h : m = n <;> simp [h]
theorem ne_ii {m n : Int} : fNe (.d (.int m)) (.d (.int n)) S = .ok (.d (.bl (!decide (m = n)))) S := by
  simp only [fNe, rd, fit_int, and_self, if_true, D.eqv]
  by_cases h : m = n <;> simp [h]
theorem max_ii {m n : Int} : fMax2 (.d (.int m)) (.d (.int n)) S = .ok (.d (.int (max m n))) S := by
  show R.ok (Val.d (.int (if n > m then n else m))) S = _
  congr 3
  split <;> omega
theorem min_ii {m n : Int} : fMin2 (.d (.int m)) (.d (.int n)) S = .ok (.d (.int (min m n))) S := by
  show R.ok (Val.d (.int (if n < m then n else m))) S = _
  congr 3
  split <;> omega
theorem isB_bb {p q : Bool} : fIsB (.d (.bl p)) (.d (.bl q)) S = .ok (.d (.bl (decide (p = q)))) S := rfl
theorem notB_bb {p q : Bool} : fNotB (.d (.bl p)) (.d (.bl q)) S = .ok (.d (.bl (!decide (p = q)))) S := rfl
theorem ix_t {ds : List D} {n : Int} : fIx (.d (.tup ds)) (.d (.int n)) S = oD (atI ds n) S := by
  simp only [fIx, rd]
  cases atI ds n <;> rfl
theorem ix_l {ds : List D} {n : Int} : fIx (.d (.lst ds)) (.d (.int n)) S = oD (atI ds n) S := by
  simp only [fIx, rd]
  cases atI ds n <;> rfl
theorem ix_c {k : Nat} {n : Int} : fIx (.cell k) (.d (.int n)) S = ixC S[k]? n S := by
  simp only [fIx, rd]
  cases S[k]? with
  | none => rfl
  | some o =>
    cases o with
    | none => rfl
    | some c =>
      cases c with
      | obj _ _ => rfl
      | lst ds => simp only [ixC]; cases atI ds n <;> rfl
theorem ixC_l {ds : List D} {n : Int} : ixC (some (some (.lst ds))) n S = oD (atI ds n) S := rfl
theorem oD_s {d : D} : oD (some d) S = .ok (.d d) S := rfl
theorem len_l {ds : List D} : fLen (.d (.lst ds)) S = .ok (.d (.int ds.length)) S := rfl
theorem len_t {ds : List D} : fLen (.d (.tup ds)) S = .ok (.d (.int ds.length)) S := rfl
theorem len_s {ds : List Int} : fLen (.d (.scr ds)) S = .ok (.d (.int ds.length)) S := rfl
theorem len_c {k : Nat} : fLen (.cell k) S = lnC S[k]? S := by
  simp only [fLen, rd]
  cases S[k]? with
  | none => rfl
  | some o =>
    cases o with
    | none => rfl
    | some c => cases c <;> rfl
theorem lnC_l {ds : List D} : lnC (some (some (.lst ds))) S = .ok (.d (.int ds.length)) S := rfl
theorem rd_d {x : D} : rd S (.d x) = some x := rfl
theorem rd_c {k : Nat} : rd S (.cell k) = rdC S[k]? := rfl
theorem rdC_l {ds : List D} : rdC (some (some (.lst ds))) = some (.lst ds) := rfl
theorem all_tt {l : List α} : l.all (fun _ => true) = true := by simp
theorem tu_l {ds : List D} : fTuple (.d (.lst ds)) S = .ok (.d (.tup ds)) S := rfl
theorem tu_t {ds : List D} : fTuple (.d (.tup ds)) S = .ok (.d (.tup ds)) S := rfl
theorem li_l {ds : List D} : fList (.d (.lst ds)) S = .ok (.d (.lst ds)) S := rfl
theorem li_t {ds : List D} : fList (.d (.tup ds)) S = .ok (.d (.lst ds)) S := rfl
theorem in_i {n : Int} : fInt (.d (.int n)) S = .ok (.d (.int n)) S := rfl
theorem rev_l {ds : List D} : fRev (.d (.lst ds)) S = .ok (.d (.lst ds.reverse)) S := rfl
theorem rev_t {ds : List D} : fRev (.d (.tup ds)) S = .ok (.d (.tup ds.reverse)) S := rfl
theorem sum_l {ns : List Int} : fSum (.d (.lst (ns.map .int))) S = .ok (.d (.int ns.sum)) S := by
  simp only [fSum, rd, asInts_map]
theorem sum_t {ns : List Int} : fSum (.d (.tup (ns.map .int))) S = .ok (.d (.int ns.sum)) S := by
  simp only [fSum, rd, asInts_map]
theorem all_b {α : Type} {p : α → Bool} {l : List α} : fAll (.d (.lst (l.map fun x => .bl (p x)))) S = .ok (.d (.bl (l.all p))) S := by
  simp only [fAll, rd, asBls_map, List.all_map]
  rfl
theorem any_b {α : Type} {p : α → Bool} {l : List α} : fAny (.d (.lst (l.map fun x => .bl (p x)))) S = .ok (.d (.bl (l.any p))) S := by
  simp only [fAny, rd, asBls_map, List.any_map]
  rfl
theorem fTup_0 : fTup [] S = .ok (.d (.tup [])) S := rfl
theorem fTup_1 {a : D} : fTup [.d a] S = .ok (.d (.tup [a])) S := rfl
theorem fTup_2 {a b : D} : fTup [.d a, .d b] S = .ok (.d (.tup [a, b])) S := rfl
theorem fTup_3 {a b c : D} : fTup [.d a, .d b, .d c] S = .ok (.d (.tup [a, b, c])) S := rfl
theorem fTup_4 {a b c d : D} : fTup [.d a, .d b, .d c, .d d] S = .ok (.d (.tup [a, b, c, d])) S := rfl
theorem fTup_5 {a b c d e : D} : fTup [.d a, .d b, .d c, .d d, .d e] S = .ok (.d (.tup [a, b, c, d, e])) S := rfl
theorem fLst_0 : fLst [] S = .ok (.d (.lst [])) S := rfl
theorem fLst_1 {a : D} : fLst [.d a] S = .ok (.d (.lst [a])) S := rfl
theorem fLst_2 {a b : D} : fLst [.d a, .d b] S = .ok (.d (.lst [a, b])) S := rfl
theorem fLst_3 {a b c : D} : fLst [.d a, .d b, .d c] S = .ok (.d (.lst [a, b, c])) S := rfl
theorem fLst_4 {a b c d : D} : fLst [.d a, .d b, .d c, .d d] S = .ok (.d (.lst [a, b, c, d])) S := rfl
theorem fLst_5 {a b c d e : D} : fLst [.d a, .d b, .d c, .d d, .d e] S = .ok (.d (.lst [a, b, c, d, e])) S := rfl
theorem isi_in {n : Int} : fIsi .int (.d (.int n)) S = .ok (.d (.bl true)) S := rfl
theorem isi_tt {ds : List D} : fIsi .tuple (.d (.tup ds)) S = .ok (.d (.bl true)) S := rfl
theorem isi_ll {ds : List D} : fIsi .list (.d (.lst ds)) S = .ok (.d (.bl true)) S := rfl
theorem isi_bi {n : Int} : fIsi .bool (.d (.int n)) S = .ok (.d (.bl false)) S := rfl
theorem app_ap {e : Ev} : eApp a e Γ S = eApp a e Γ S := rfl
theorem frz_ap {ds : List D} {n0 : Nat} (h0 : Γ[i]? = some (some (.cell S.length))) (hn : n0 = S.length) : sFrz n0 i Γ (S ++ [some (.lst ds)]) = .nx ((Γ.set i (some (.d (.lst ds)))).map (keepB S.length)) S := by
  subst hn
  exact frz_last h0
theorem rc_ap {ds : List D} (h0 : Γ[i]? = some (some (.cell S.length))) : sRetC S.length i Γ (S ++ [some (.lst ds)]) = .rt (.d (.lst ds)) (S ++ [none]) := by
  unfold sRetC
  rw [h0]
  simp
theorem kb_d {n : Nat} {d : D} : keepB n (some (.d d)) = some (.d d) := rfl
theorem kb_n {n : Nat} : keepB n none = none := rfl
theorem kb_c {n : Nat} : keepB n (some (.cell n)) = none := by simp [keepB]
theorem st_ok {k : Nat} {ds : List D} {n : Int} {m : Nat} {d : D} {ei ea : Ev} {S2 S3 : Store} (h1 : ea Γ S = .ok (.d d) S1) (h2 : a Γ S1 = .ok (.cell k) S2) (h3 : ei Γ S2 = .ok (.d (.int n)) S3) (h4 : S3[k]? = some (some (.lst ds))) (h5 : ixN ds.length n = some m) :
    sSet a ei ea Γ S = .nx Γ (S3.set k (some (.lst (ds.set m d)))) := by
  unfold sSet
  rw [h1]
  simp only [R.fl, h2, h3, h4, h5]
theorem ap_ok {k : Nat} {ds : List D} {d : D} {e : Ev} (h1 : a Γ S = .ok (.cell k) S) (h2 : e Γ S = .ok (.d d) S1) (g1 : S[k]? = some (some (.lst ds))) (g2 : S1[k]? = some (some (.lst ds))) (h : ds.length < 1000000) :
    eApp a e Γ S = .ok (.d .non) (S1.set k (some (.lst (ds ++ [d])))) := by
  have ec : ds.length < cap := h
  unfold eApp
  rw [h1]
  simp only [R.bind, rd, g1, h2, g2, ec, if_true]
end
section
variable {α : Type} {it : Pd.Env → Store → R (List D)} {vs : List Nat} {tg : Tg} {test : Pd.Env → Store → R Bool} {elt : Ev} {Γ : Pd.Env} {S : Store}
theorem lc_map' (l : List α) (r f : α → D) (h : it Γ S = .ok (l.map r) S) (hl : l.length ≤ 1000000) (k : ∀ x ∈ l, ∃ Γ1, tg (r x) (wipeE Γ vs) = some Γ1 ∧ test Γ1 S = .ok true S ∧ elt Γ1 S = .ok (.d (f x)) S) : eLc it vs tg test elt Γ S = .ok (.d (.lst (l.map f))) S :=
  lc_i h (by rw [List.length_map]; exact hl) (lcD_map l r f k)
theorem lc_fil' (l : List α) (r f : α → D) (p : α → Bool) (h : it Γ S = .ok (l.map r) S) (hl : l.length ≤ 1000000) (k : ∀ x ∈ l, ∃ Γ1, tg (r x) (wipeE Γ vs) = some Γ1 ∧ test Γ1 S = .ok (p x) S ∧ (p x = true → elt Γ1 S = .ok (.d (f x)) S)) : eLc it vs tg test elt Γ S = .ok (.d (.lst ((l.filter p).map f))) S :=
  lc_i h (by rw [List.length_map]; exact hl) (lcD_filter l r f p k)
end

theorem forD_c {tg : Tg} {b : Sv} {x : D} {r : List D} {Γ Γ1 : Pd.Env} {S : Store} (h : tg x Γ = some Γ1) : forD tg b (x :: r) Γ S = (b Γ1 S).lp (forD tg b r) := by
  rw [forD, h]
theorem forD_n {tg : Tg} {b : Sv} {Γ : Pd.Env} {S : Store} : forD tg b [] Γ S = .nx Γ S := rfl
theorem lp_n {Γ : Pd.Env} {S : Store} {k : Sv} : F.lp (.nx Γ S) k = k Γ S := rfl
theorem lp_c {Γ : Pd.Env} {S : Store} {k : Sv} : F.lp (.ct Γ S) k = k Γ S := rfl
theorem lp_b {Γ : Pd.Env} {S : Store} {k : Sv} : F.lp (.bk Γ S) k = .nx Γ S := rfl
theorem lp_r {x : Val} {S : Store} {k : Sv} : F.lp (.rt x S) k = .rt x S := rfl
theorem set_last {i : Nat} {e : Ev} {Γ : Pd.Env} {S : Store} {ds : List D} {d : D} (h0 : Γ[i]? = some (some (.cell S.length))) (he : e Γ (S ++ [some (.lst ds)]) = .ok (.d d) (S ++ [some (.lst ds)])) (hd : ds ≠ []) :
    sSet (eVar i) (eUn fNeg (eC (.int 1))) e Γ (S ++ [some (.lst ds)]) = .nx Γ (S ++ [some (.lst (ds.set (ds.length - 1) d))]) := by
  have hl : 0 < ds.length := List.length_pos_iff.mpr hd
  have ix : ixN ds.length (-1) = some (ds.length - 1) := by
    unfold ixN
    rw [if_neg (by decide), if_pos (by omega)]
    congr 1
    omega
  have := st_ok (a := eVar i) (ei := eUn fNeg (eC (.int 1))) (ea := e) (Γ := Γ) (S := S ++ [some (.lst ds)]) (S1 := S ++ [some (.lst ds)]) (S2 := S ++ [some (.lst ds)]) (S3 := S ++ [some (.lst ds)]) (k := S.length) (n := -1) (ds := ds) (m := ds.length - 1) (d := d) he (by rw [v_ap, h0]) rfl (by simp) ix
  rw [this, set_app]
theorem ct_ok {o a : Ev} {Γ : Pd.Env} {S : Store} {ns : List Int} {k : Int} (h1 : o Γ S = .ok (.d (.lst (ns.map .int))) S) (h2 : a Γ S = .ok (.d (.int k)) S) : eCnt o a Γ S = .ok (.d (.int (ns.count k : Nat))) S := by
  unfold eCnt
  simp only [h1, R.bind, rd, h2, asInts_map]
theorem cut_to {α : Type} (l : List α) (i : Nat) : cutD l none (some (i : Int)) = l.take i := by
  unfold cutD
  have h2 : ¬ ((i : Int) < 0) := by omega
  by_cases h : i ≤ l.length
  · simp [HT.sIx, h2]
    try omega
  · have h3 : l.length ≤ i := by omega
    simp [HT.sIx, h2]
    try omega
theorem cut_ft {α : Type} (l : List α) (i j : Nat) (h : i ≤ l.length) (h2 : i ≤ j) (h3 : j ≤ l.length) : cutD l (some (i : Int)) (some (j : Int)) = (l.drop i).take (j - i) := by
  unfold cutD
  have h4 : ¬ ((i : Int) < 0) := by omega
  have h5 : ¬ ((j : Int) < 0) := by omega
  have e1 : HT.sIx l.length 0 (some (i : Int)) = i := by simp [HT.sIx, h4]; omega
  have e2 : HT.sIx l.length l.length (some (j : Int)) = j := by simp [HT.sIx, h5]; omega
  rw [e1, e2]
theorem lc_st' {α : Type} {it : Pd.Env → Store → R (List D)} {vs : List Nat} {tg : Tg} {elt : Ev} {Γ : Pd.Env} {S S1 : Store} (l : List α) (r : α → D) (Q : D → Prop) (I : Store → Prop) (h : it Γ S = .ok (l.map r) S1) (h0 : I S1) (hl : l.length ≤ 1000000)
    (k : ∀ x ∈ l, ∀ S, I S → ∃ Γ1, tg (r x) (wipeE Γ vs) = some Γ1 ∧ ∃ d S', elt Γ1 S = .ok (.d d) S' ∧ Q d ∧ I S') : ∃ ds S', eLc it vs tg tYesD elt Γ S = .ok (.d (.lst ds)) S' ∧ ds.length = l.length ∧ (∀ d ∈ ds, Q d) ∧ I S' := by
  obtain ⟨ds, S', e, e1, e2, e3⟩ := lcD_st (tg := tg) (elt := elt) (Γ := wipeE Γ vs) l r Q I S1 h0 k
  exact ⟨ds, S', lc_i h (by rw [List.length_map]; exact hl) e, e1, e2, e3⟩
end Pq

namespace L04
open PySem PySem.Spec PyProof.Rows L2 Pd
def top (i : Nat) : Stmt := PySem.Challenge.pw_countshelves_k04_great_words.main.body.getD i (.Pass ⟨0, 0, 0, 0⟩)
abbrev s_is_integer : Stmt := top 7
abbrev s_is_within : Stmt := top 8
abbrev s_require_within : Stmt := top 9
abbrev s_lean_in : Stmt := top 15
abbrev s_is_run : Stmt := top 16
abbrev s_are_runs : Stmt := top 17
abbrev s_counts_of : Stmt := top 18
abbrev s_part_of : Stmt := top 19
abbrev s_Word___init__ : Stmt := inClass (top 20) 1
abbrev s_word_in : Stmt := top 21
abbrev s_require_word : Stmt := top 22
abbrev s_word_of_runs : Stmt := top 23
abbrev s_Word_length : Stmt := inClass (top 20) 4
abbrev s_Word_width : Stmt := inClass (top 20) 2
abbrev s_Word_runs : Stmt := inClass (top 20) 3
abbrev s_word_part : Stmt := top 24
abbrev s_word_joined : Stmt := top 25
abbrev s_word_repeated : Stmt := top 26
abbrev s_word_backward : Stmt := top 27
abbrev s_word_mirrored : Stmt := top 28
abbrev s_word_between : Stmt := top 29
abbrev s__law_dice : Stmt := top 31
abbrev s__law_roll : Stmt := top 32
abbrev s__law_far : Stmt := top 33
abbrev s__law_pick : Stmt := top 34
abbrev s__law_leaned : Stmt := top 35
abbrev s__law_part : Stmt := top 36
abbrev s_Word___eq__ : Stmt := inClass (top 20) 7
abbrev s_Word___ne__ : Stmt := inClass (top 20) 8
abbrev s_Word_counts : Stmt := inClass (top 20) 5
abbrev s_Word_letter : Stmt := inClass (top 20) 6
abbrev s__law_right : Stmt := top 37
abbrev s_law : Stmt := top 38
def rel_Word : Str → Option Bool := fun c => if c = "Word" then some true else none
def gX (K : PySem.W.Frag) (k_Word : Addr) : Gx := ⟨K, fun c => if c = "Word" then some k_Word else none, fun x => x⟩
structure Txt (mg : Str → Option Value) : Prop where
  n_abs : mg "abs" = none
  n_all : mg "all" = none
  n_bool : mg "bool" = none
  n_int : mg "int" = none
  n_isinstance : mg "isinstance" = none
  n_len : mg "len" = none
  n_max : mg "max" = none
  n_min : mg "min" = none
  n_range : mg "range" = none
  n_sum : mg "sum" = none
  n_tuple : mg "tuple" = none
  c_MOST_RUNS : ∃ t, mg "MOST_RUNS" = some (.int 200 t)
  c_MOST_TIMES : ∃ t, mg "MOST_TIMES" = some (.int 1000000000000000000000000000000000000000000000000000000000000 t)
  c_MOST_TOTAL : ∃ t, mg "MOST_TOTAL" = some (.int 10000000000000000000000000000000000000000000000000000000000000000 t)
  c_MOST_WIDTH : ∃ t, mg "MOST_WIDTH" = some (.int 8 t)
def d_is_integer : List Val → Store → R Val := funD 0 fun n0 => (sRet (eAnd (eUn (fIsi .int) (eVar 0)) (eNot (eUn (fIsi .bool) (eVar 0)))))
def d_is_within : List Val → Store → R Val := funD 0 fun n0 => (sRet (eAnd (eCall d_is_integer (eCons (eVar 0) eNil)) (eChain fLe fLe (eVar 1) (eVar 0) (eVar 2))))
def d_require_within : List Val → Store → R Val := funD 0 fun n0 => (sIf (eNot (eCall d_is_within (eCons (eVar 0) (eCons (eVar 1) (eCons (eVar 2) eNil))))) sNever sNil)
def d_lean_in : List Val → Store → R Val := funD 3 fun n0 => (sSeq (sNew 1 (eCall fLst eNil)) (sSeq (sFor (itV (eVar 0)) (tgT (tgsCons (tgN 2) (tgsCons (tgN 3) tgsNil))) (sIf (eAnd (eBin fNe (eVar 1) (eCall fLst eNil)) (eBin fEq (eBin fIx (eBin fIx (eVar 1) (eUn fNeg (eC (.int 1)))) (eC (.int 0))) (eVar 2))) (sSet (eVar 1) (eUn fNeg (eC (.int 1))) (eCall fTup (eCons (eVar 2) (eCons (eBin fAdd (eBin fIx (eBin fIx (eVar 1) (eUn fNeg (eC (.int 1)))) (eC (.int 1))) (eVar 3)) eNil)))) (sIf (eBin fGt (eVar 3) (eC (.int 0))) (sEx (eApp (eVar 1) (eCall fTup (eCons (eVar 2) (eCons (eVar 3) eNil))))) sNil))) (sRetC n0 1)))
def d_is_run : List Val → Store → R Val := funD 0 fun n0 => (sSeq (sIf (eOr (eNot (eUn (fIsi .tuple) (eVar 1))) (eBin fNe (eUn fLen (eVar 1)) (eC (.int 2)))) (sRet (eC (.bl false))) sNil) (sRet (eAnd (eCall d_is_within (eCons (eBin fIx (eVar 1) (eC (.int 0))) (eCons (eC (.int 0)) (eCons (eBin fSub (eVar 0) (eC (.int 1))) eNil)))) (eCall d_is_within (eCons (eBin fIx (eVar 1) (eC (.int 1))) (eCons (eC (.int 1)) (eCons (eC (.int 10000000000000000000000000000000000000000000000000000000000000000)) eNil)))))))
def d_are_runs : List Val → Store → R Val := funD 3 fun n0 => (sSeq (sIf (eOr (eNot (eUn (fIsi .tuple) (eVar 1))) (eOr (eBin fGt (eUn fLen (eVar 1)) (eC (.int 200))) (eNot (eUn fAll (eLc (itV (eVar 1)) [2] (tgN 2) tYesD (eCall d_is_run (eCons (eVar 0) (eCons (eVar 2) eNil)))))))) (sRet (eC (.bl false))) sNil) (sRet (eBin fLe (eUn fSum (eLc (itV (eVar 1)) [3, 4] (tgT (tgsCons (tgN 3) (tgsCons (tgN 4) tgsNil))) tYesD (eVar 4))) (eC (.int 10000000000000000000000000000000000000000000000000000000000000000)))))
def d_counts_of : List Val → Store → R Val := funD 3 fun n0 => (sSeq (sNew 2 (eBin fMulL (eCall fLst (eCons (eC (.int 0)) eNil)) (eVar 0))) (sSeq (sFor (itV (eVar 1)) (tgT (tgsCons (tgN 3) (tgsCons (tgN 4) tgsNil))) (sSet (eVar 2) (eVar 3) (eBin fAdd (eBin fIx (eVar 2) (eVar 3)) (eVar 4)))) (sRetC n0 2)))
def d_part_of : List Val → Store → R Val := funD 5 fun n0 => (sSeq (sNew 3 (eCall fLst eNil)) (sSeq (sFor (itV (eVar 0)) (tgT (tgsCons (tgN 4) (tgsCons (tgN 5) tgsNil))) (sSeq (sPar 6 7 (eBin fMax2 (eVar 1) (eC (.int 0))) (eBin fMin2 (eBin fAdd (eVar 1) (eVar 2)) (eVar 5))) (sSeq (sIf (eBin fLt (eVar 6) (eVar 7)) (sEx (eApp (eVar 3) (eCall fTup (eCons (eVar 4) (eCons (eBin fSub (eVar 7) (eVar 6)) eNil))))) sNil) (sAsg 1 (eBin fSub (eVar 1) (eVar 5)))))) (sRetC n0 3)))
def d_Word___init__ : List Val → Store → R Val := funD 0 fun n0 => (sSeq (sIf (eOr (eNot (eCall d_is_within (eCons (eVar 1) (eCons (eC (.int 1)) (eCons (eC (.int 8)) eNil))))) (eNot (eCall d_are_runs (eCons (eVar 1) (eCons (eVar 2) eNil))))) sNever sNil) (sPut2 0 "Word" 1 0 (eVar 1) (eUn fTuple (eCall d_lean_in (eCons (eVar 2) eNil)))))
def d_word_in : List Val → Store → R Val := funD 0 fun n0 => (sRet (eCall (mkO "Word" d_Word___init__) (eCons (eVar 0) (eCons (eUn fTuple (eVar 1)) eNil))))
def d_require_word : List Val → Store → R Val := funD 0 fun n0 => (sIf (eNot (eUn (fIsiO rel_Word) (eVar 0))) sNever sNil)
def d_word_of_runs : List Val → Store → R Val := funD 2 fun n0 => (sSeq (sIf (eBin fGt (eUn fSum (eLc (itV (eVar 1)) [2, 3] (tgT (tgsCons (tgN 2) (tgsCons (tgN 3) tgsNil))) tYesD (eVar 3))) (eC (.int 10000000000000000000000000000000000000000000000000000000000000000))) sNever sNil) (sSeq (sAsg 1 (eCall d_lean_in (eCons (eVar 1) eNil))) (sSeq (sIf (eBin fGt (eUn fLen (eVar 1)) (eC (.int 200))) sNever sNil) (sRet (eCall d_word_in (eCons (eVar 0) (eCons (eVar 1) eNil)))))))
def d_Word_length : List Val → Store → R Val := funD 2 fun n0 => (sRet (eUn fSum (eLc (itV (eUn (fFld "Word" 0) (eVar 0))) [1, 2] (tgT (tgsCons (tgN 1) (tgsCons (tgN 2) tgsNil))) tYesD (eVar 2))))
def d_Word_width : List Val → Store → R Val := funD 0 fun n0 => (sRet (eUn (fFld "Word" 1) (eVar 0)))
def d_Word_runs : List Val → Store → R Val := funD 0 fun n0 => (sRet (eUn (fFld "Word" 0) (eVar 0)))
def d_word_part : List Val → Store → R Val := funD 0 fun n0 => (sSeq (sEx (eCall d_require_word (eCons (eVar 0) eNil))) (sSeq (sEx (eCall d_require_within (eCons (eVar 1) (eCons (eC (.int 0)) (eCons (eUn (fPr "Word" d_Word_length) (eVar 0)) eNil))))) (sSeq (sEx (eCall d_require_within (eCons (eVar 2) (eCons (eC (.int 0)) (eCons (eBin fSub (eUn (fPr "Word" d_Word_length) (eVar 0)) (eVar 1)) eNil))))) (sRet (eCall (mkO "Word" d_Word___init__) (eCons (eUn (fPr "Word" d_Word_width) (eVar 0)) (eCons (eUn fTuple (eCall d_part_of (eCons (eUn (fPr "Word" d_Word_runs) (eVar 0)) (eCons (eVar 1) (eCons (eVar 2) eNil))))) eNil)))))))
def d_word_joined : List Val → Store → R Val := funD 0 fun n0 => (sSeq (sEx (eCall d_require_word (eCons (eVar 0) eNil))) (sSeq (sEx (eCall d_require_word (eCons (eVar 1) eNil))) (sSeq (sIf (eBin fNe (eUn (fPr "Word" d_Word_width) (eVar 0)) (eUn (fPr "Word" d_Word_width) (eVar 1))) sNever sNil) (sRet (eCall d_word_of_runs (eCons (eUn (fPr "Word" d_Word_width) (eVar 0)) (eCons (eBin fAdd (eUn (fPr "Word" d_Word_runs) (eVar 0)) (eUn (fPr "Word" d_Word_runs) (eVar 1))) eNil)))))))
def d_word_repeated : List Val → Store → R Val := funD 3 fun n0 => (sSeq (sEx (eCall d_require_word (eCons (eVar 0) eNil))) (sSeq (sEx (eCall d_require_within (eCons (eVar 1) (eCons (eC (.int 0)) (eCons (eC (.int 1000000000000000000000000000000000000000000000000000000000000)) eNil))))) (sSeq (sIf (eBin fGt (eBin fMul (eUn (fPr "Word" d_Word_length) (eVar 0)) (eVar 1)) (eC (.int 10000000000000000000000000000000000000000000000000000000000000000))) sNever sNil) (sSeq (sAsg 2 (eUn (fPr "Word" d_Word_runs) (eVar 0))) (sSeq (sIf (eOr (eBin fLe (eUn fLen (eVar 2)) (eC (.int 1))) (eBin fEq (eVar 1) (eC (.int 0)))) (sRet (eCall (mkO "Word" d_Word___init__) (eCons (eUn (fPr "Word" d_Word_width) (eVar 0)) (eCons (eUn fTuple (eLc (itV (eVar 2)) [3, 4] (tgT (tgsCons (tgN 3) (tgsCons (tgN 4) tgsNil))) (eTest (eBin fGt (eVar 1) (eC (.int 0)))) (eCall fTup (eCons (eVar 3) (eCons (eBin fMul (eVar 4) (eVar 1)) eNil))))) eNil)))) sNil) (sSeq (sIf (eBin fGt (eBin fSub (eBin fMul (eUn fLen (eVar 2)) (eVar 1)) (eIf (eBin fEq (eBin fIx (eBin fIx (eVar 2) (eC (.int 0))) (eC (.int 0))) (eBin fIx (eBin fIx (eVar 2) (eUn fNeg (eC (.int 1)))) (eC (.int 0)))) (eBin fSub (eVar 1) (eC (.int 1))) (eC (.int 0)))) (eC (.int 200))) sNever sNil) (sRet (eCall d_word_of_runs (eCons (eUn (fPr "Word" d_Word_width) (eVar 0)) (eCons (eBin fMul (eVar 2) (eVar 1)) eNil))))))))))
def d_word_backward : List Val → Store → R Val := funD 0 fun n0 => (sSeq (sEx (eCall d_require_word (eCons (eVar 0) eNil))) (sRet (eCall (mkO "Word" d_Word___init__) (eCons (eUn (fPr "Word" d_Word_width) (eVar 0)) (eCons (eUn fRev (eUn (fPr "Word" d_Word_runs) (eVar 0))) eNil)))))
def d_word_mirrored : List Val → Store → R Val := funD 2 fun n0 => (sSeq (sEx (eCall d_require_word (eCons (eVar 0) eNil))) (sRet (eCall (mkO "Word" d_Word___init__) (eCons (eUn (fPr "Word" d_Word_width) (eVar 0)) (eCons (eUn fTuple (eLc (itV (eUn (fPr "Word" d_Word_runs) (eVar 0))) [1, 2] (tgT (tgsCons (tgN 1) (tgsCons (tgN 2) tgsNil))) tYesD (eCall fTup (eCons (eBin fSub (eBin fSub (eUn (fPr "Word" d_Word_width) (eVar 0)) (eC (.int 1))) (eVar 1)) (eCons (eVar 2) eNil))))) eNil)))))
def d_word_between : List Val → Store → R Val := funD 1 fun n0 => (sSeq (sEx (eCall d_require_word (eCons (eVar 0) eNil))) (sSeq (sEx (eCall d_require_within (eCons (eVar 1) (eCons (eC (.int 0)) (eCons (eUn (fPr "Word" d_Word_width) (eVar 0)) eNil))))) (sSeq (sEx (eCall d_require_within (eCons (eVar 2) (eCons (eVar 1) (eCons (eUn (fPr "Word" d_Word_width) (eVar 0)) eNil))))) (sRet (eCall (mkO "Word" d_Word___init__) (eCons (eUn (fPr "Word" d_Word_width) (eVar 0)) (eCons (eUn fTuple (eLc (itV (eUn (fPr "Word" d_Word_runs) (eVar 0))) [3] (tgN 3) (eTest (eChain fLe fLt (eVar 1) (eBin fIx (eVar 3) (eC (.int 0))) (eVar 2))) (eVar 3))) eNil)))))))
def d__law_dice : List Val → Store → R Val := funD 3 fun n0 => (sSeq (sAsg 2 (eIf (eBin fLt (eVar 1) (eUn fLen (eVar 0))) (eUn fInt (eBin fIx (eVar 0) (eVar 1))) (eBin fAdd (eBin fMul (eC (.int 223)) (eVar 1)) (eC (.int 109))))) (sSeq (sAsg 3 (eBin fMod (eUn fInt (eUn fAbs (eVar 2))) (eBin fPow (eBin fPow (eC (.int 10)) (eC (.int 54))) (eC (.int 6))))) (sSeq (sAsg 4 (eBin fAdd (eBin fAdd (eBin fAdd (eBin fMul (eBin fMod (eVar 3) (eC (.int 2305843009213693921))) (eC (.int 113))) (eBin fMul (eC (.int 877)) (eVar 1))) (eBin fMul (eC (.int 73)) (eUn fInt (eBin fLt (eVar 2) (eC (.int 0)))))) (eC (.int 41)))) (sRet (eCall fLst (eCons (eBin fMax2 (eC (.int 0)) (eBin fSub (eVar 3) (eBin fPow (eC (.int 10)) (eC (.int 16))))) (eCons (eVar 4) (eCons (eC (.int 0)) eNil))))))))
def d__law_roll : List Val → Store → R Val := funD 3 fun n0 => (sSeq (sIf (eBin fGt (eBin fIx (eVar 0) (eC (.int 0))) (eC (.int 0))) (sSeq (sAsg 4 (eBin fMod (eBin fIx (eVar 0) (eC (.int 0))) (eVar 1))) (sSeq (sSet (eVar 0) (eC (.int 0)) (eBin fDiv (eBin fIx (eVar 0) (eC (.int 0))) (eVar 1))) (sRet (eUn fInt (eVar 4))))) sNil) (sSeq (sSet (eVar 0) (eC (.int 2)) (eBin fAdd (eBin fIx (eVar 0) (eC (.int 2))) (eC (.int 1)))) (sSeq (sAsg 2 (eBin fMod (eBin fAdd (eBin fIx (eVar 0) (eC (.int 1))) (eBin fMul (eC (.int 86028157)) (eBin fIx (eVar 0) (eC (.int 2))))) (eC (.int 2305843009213693951)))) (sSeq (sAsg 3 (eBin fAdd (eBin fMul (eBin fMod (eBin fAdd (eBin fMul (eVar 2) (eVar 2)) (eBin fMul (eC (.int 233)) (eBin fIx (eVar 0) (eC (.int 2))))) (eC (.int 2305843009213693907))) (eC (.int 15485867))) (eVar 2))) (sRet (eBin fMod (eUn fInt (eBin fDiv (eVar 3) (eC (.int 65579)))) (eVar 1)))))))
def d__law_far : List Val → Store → R Val := funD 2 fun n0 => (sSeq (sPar 2 3 (eC (.int 0)) (eVar 1)) (sSeq (whD (eBin fGt (eVar 3) (eC (.int 1))) (sPar 2 3 (eBin fAdd (eBin fMul (eVar 2) (eBin fPow (eC (.int 10)) (eC (.int 18)))) (eCall d__law_roll (eCons (eVar 0) (eCons (eBin fPow (eC (.int 10)) (eC (.int 18))) eNil)))) (eBin fDiv (eVar 3) (eBin fPow (eC (.int 10)) (eC (.int 18))))) fuel) (sRet (eBin fMod (eVar 2) (eVar 1)))))
def d__law_pick : List Val → Store → R Val := funD 0 fun n0 => (sRet (eBin fIx (eVar 1) (eCall d__law_roll (eCons (eVar 0) (eCons (eUn fLen (eVar 1)) eNil)))))
def d__law_leaned : List Val → Store → R Val := funD 3 fun n0 => (sSeq (sNew 1 (eCall fLst eNil)) (sSeq (sFor (itV (eVar 0)) (tgT (tgsCons (tgN 2) (tgsCons (tgN 3) tgsNil))) (sIf (eAnd (eBin fNe (eVar 1) (eCall fLst eNil)) (eBin fEq (eBin fIx (eBin fIx (eVar 1) (eUn fNeg (eC (.int 1)))) (eC (.int 0))) (eVar 2))) (sSet (eVar 1) (eUn fNeg (eC (.int 1))) (eCall fTup (eCons (eVar 2) (eCons (eBin fAdd (eBin fIx (eBin fIx (eVar 1) (eUn fNeg (eC (.int 1)))) (eC (.int 1))) (eVar 3)) eNil)))) (sIf (eBin fGt (eVar 3) (eC (.int 0))) (sEx (eApp (eVar 1) (eCall fTup (eCons (eVar 2) (eCons (eVar 3) eNil))))) sNil))) (sSeq (sFrz n0 1) (sRet (eUn fTuple (eVar 1))))))
def d__law_part : List Val → Store → R Val := funD 6 fun n0 => (sSeq (sSeq (sNew 3 (eCall fLst eNil)) (sAsg 4 (eC (.int 0)))) (sSeq (sFor (itV (eVar 0)) (tgT (tgsCons (tgN 5) (tgsCons (tgN 6) tgsNil))) (sSeq (sPar 7 8 (eBin fMax2 (eVar 1) (eVar 4)) (eBin fMin2 (eBin fAdd (eVar 1) (eVar 2)) (eBin fAdd (eVar 4) (eVar 6)))) (sSeq (sIf (eBin fLt (eVar 7) (eVar 8)) (sEx (eApp (eVar 3) (eCall fTup (eCons (eVar 5) (eCons (eBin fSub (eVar 8) (eVar 7)) eNil))))) sNil) (sAsg 4 (eBin fAdd (eVar 4) (eVar 6)))))) (sSeq (sFrz n0 3) (sRet (eCall d__law_leaned (eCons (eVar 3) eNil))))))
def d_Word___eq__ : List Val → Store → R Val := funD 0 fun n0 => (sRet (eAnd (eUn (fIsiO rel_Word) (eVar 1)) (eBin fEq (eCall fTup (eCons (eUn (fFld "Word" 1) (eVar 0)) (eCons (eUn (fFld "Word" 0) (eVar 0)) eNil))) (eCall fTup (eCons (eUn (fFld "Word" 1) (eVar 1)) (eCons (eUn (fFld "Word" 0) (eVar 1)) eNil))))))
def d_Word___ne__ : List Val → Store → R Val := funD 0 fun n0 => (sRet (eNot (eBin (fCmpM "Word" d_Word___eq__ fEq) (eVar 0) (eVar 1))))
def d_Word_counts : List Val → Store → R Val := funD 0 fun n0 => (sRet (eUn fTuple (eCall d_counts_of (eCons (eUn (fFld "Word" 1) (eVar 0)) (eCons (eUn (fFld "Word" 0) (eVar 0)) eNil)))))
def d_Word_letter : List Val → Store → R Val := funD 0 fun n0 => (sSeq (sEx (eCall d_require_within (eCons (eVar 1) (eCons (eC (.int 0)) (eCons (eBin fSub (eUn (fPr "Word" d_Word_length) (eVar 0)) (eC (.int 1))) eNil))))) (sRet (eBin fIx (eBin fIx (eCall d_part_of (eCons (eUn (fFld "Word" 0) (eVar 0)) (eCons (eVar 1) (eCons (eC (.int 1)) eNil)))) (eC (.int 0))) (eC (.int 0)))))
def d__law_right : List Val → Store → R Val := funD 19 fun n0 => (sSeq (sAsg 1 (eBin fAdd (eC (.int 1)) (eCall d__law_roll (eCons (eVar 0) (eCons (eC (.int 8)) eNil))))) (sSeq (sAsg 2 (eLc (itR1 (eCall d__law_roll (eCons (eVar 0) (eCons (eC (.int 13)) eNil)))) [5] (tgN 5) tYesD (eCall fTup (eCons (eCall d__law_roll (eCons (eVar 0) (eCons (eVar 1) eNil))) (eCons (eBin fAdd (eC (.int 1)) (eCall d__law_far (eCons (eVar 0) (eCons (eCall d__law_pick (eCons (eVar 0) (eCons (eCall fLst (eCons (eC (.int 3)) (eCons (eBin fPow (eC (.int 10)) (eC (.int 30))) (eCons (eBin fPow (eC (.int 10)) (eC (.int 60))) eNil)))) eNil))) eNil)))) eNil))))) (sSeq (sPar 10 11 (eCall (mkO "Word" d_Word___init__) (eCons (eVar 1) (eCons (eUn fTuple (eVar 2)) eNil))) (eUn fSum (eLc (itV (eVar 2)) [16, 13] (tgT (tgsCons (tgN 16) (tgsCons (tgN 13) tgsNil))) tYesD (eVar 13)))) (sSeq (sAsg 3 (eCall d__law_leaned (eCons (eVar 2) eNil))) (sSeq (sAsg 4 (eLc (itR1 (eVar 1)) [16] (tgN 16) tYesD (eUn fSum (eLc (itV (eVar 2)) [19, 13] (tgT (tgsCons (tgN 19) (tgsCons (tgN 13) tgsNil))) (eTest (eBin fEq (eVar 19) (eVar 16))) (eVar 13))))) (sSeq (sIf (eBin fNe (eCall fTup (eCons (eUn (fPr "Word" d_Word_runs) (eVar 10)) (eCons (eUn (fPr "Word" d_Word_length) (eVar 10)) (eCons (eUn (fPr "Word" d_Word_counts) (eVar 10)) eNil)))) (eCall fTup (eCons (eVar 3) (eCons (eVar 11) (eCons (eUn fTuple (eVar 4)) eNil))))) (sRet (eC (.bl false))) sNil) (sSeq (sFor (itR1 (eIf (eBin fGt (eVar 11) (eC (.int 0))) (eC (.int 4)) (eC (.int 0)))) (tgN 5) (sSeq (sAsg 12 (eCall d__law_far (eCons (eVar 0) (eCons (eVar 11) eNil)))) (sSeq (sIf (eBin fNe (eMeth "Word" d_Word_letter (eVar 10) (eCons (eVar 12) eNil)) (eBin fIx (eBin fIx (eCall d__law_part (eCons (eVar 3) (eCons (eVar 12) (eCons (eC (.int 1)) eNil)))) (eC (.int 0))) (eC (.int 0)))) (sRet (eC (.bl false))) sNil) (sSeq (sAsg 13 (eCall d__law_far (eCons (eVar 0) (eCons (eBin fAdd (eBin fSub (eVar 11) (eVar 12)) (eC (.int 1))) eNil)))) (sIf (eBin fNe (eUn (fPr "Word" d_Word_runs) (eCall d_word_part (eCons (eVar 10) (eCons (eVar 12) (eCons (eVar 13) eNil))))) (eCall d__law_part (eCons (eVar 3) (eCons (eVar 12) (eCons (eVar 13) eNil))))) (sRet (eC (.bl false))) sNil))))) (sSeq (sAsg 6 (eCall d__law_far (eCons (eVar 0) (eCons (eBin fAdd (eVar 11) (eC (.int 1))) eNil)))) (sSeq (sPar 14 15 (eCall d_word_part (eCons (eVar 10) (eCons (eC (.int 0)) (eCons (eVar 6) eNil)))) (eCall d_word_part (eCons (eVar 10) (eCons (eVar 6) (eCons (eBin fSub (eVar 11) (eVar 6)) eNil))))) (sSeq (sIf (eOr (eBin (fCmpM "Word" d_Word___ne__ fNe) (eCall d_word_joined (eCons (eVar 14) (eCons (eVar 15) eNil))) (eVar 10)) (eBin fNe (eUn (fPr "Word" d_Word_runs) (eCall d_word_joined (eCons (eVar 15) (eCons (eVar 14) eNil)))) (eCall d__law_leaned (eCons (eBin fAdd (eUn (fPr "Word" d_Word_runs) (eVar 15)) (eUn (fPr "Word" d_Word_runs) (eVar 14))) eNil)))) (sRet (eC (.bl false))) sNil) (sSeq (sIf (eOr (eBin fNe (eUn (fPr "Word" d_Word_runs) (eCall d_word_repeated (eCons (eVar 10) (eCons (eC (.int 3)) eNil)))) (eCall d__law_leaned (eCons (eBin fMul (eVar 3) (eC (.int 3))) eNil))) (eBin fNe (eUn (fPr "Word" d_Word_runs) (eCall d_word_backward (eCons (eVar 10) eNil))) (eUn fRev (eVar 3)))) (sRet (eC (.bl false))) sNil) (sSeq (sIf (eBin fNe (eUn (fPr "Word" d_Word_runs) (eCall d_word_mirrored (eCons (eVar 10) eNil))) (eUn fTuple (eLc (itV (eVar 3)) [16, 13] (tgT (tgsCons (tgN 16) (tgsCons (tgN 13) tgsNil))) tYesD (eCall fTup (eCons (eBin fSub (eBin fSub (eVar 1) (eC (.int 1))) (eVar 16)) (eCons (eVar 13) eNil)))))) (sRet (eC (.bl false))) sNil) (sSeq (sAsg 7 (eCall d__law_roll (eCons (eVar 0) (eCons (eBin fAdd (eVar 1) (eC (.int 1))) eNil)))) (sSeq (sAsg 8 (eCall d__law_leaned (eCons (eLc (itV (eVar 3)) [18] (tgN 18) (eTest (eBin fGe (eBin fIx (eVar 18) (eC (.int 0))) (eVar 7))) (eVar 18)) eNil))) (sSeq (sIf (eBin fNe (eUn (fPr "Word" d_Word_runs) (eCall d_word_between (eCons (eVar 10) (eCons (eVar 7) (eCons (eVar 1) eNil))))) (eVar 8)) (sRet (eC (.bl false))) sNil) (sSeq (sPar3 16 13 17 (eCall d__law_roll (eCons (eVar 0) (eCons (eVar 1) eNil))) (eBin fAdd (eC (.int 1)) (eCall d__law_far (eCons (eVar 0) (eCons (eBin fPow (eC (.int 10)) (eC (.int 30))) eNil)))) (eCall d__law_far (eCons (eVar 0) (eCons (eBin fPow (eC (.int 10)) (eC (.int 33))) eNil)))) (sSeq (sAsg 9 (eCall d_word_repeated (eCons (eCall (mkO "Word" d_Word___init__) (eCons (eVar 1) (eCons (eCall fTup (eCons (eCall fTup (eCons (eVar 16) (eCons (eVar 13) eNil))) eNil)) eNil))) (eCons (eVar 17) eNil)))) (sRet (eBin fEq (eUn (fPr "Word" d_Word_runs) (eVar 9)) (eCall d__law_leaned (eCons (eCall fLst (eCons (eCall fTup (eCons (eVar 16) (eCons (eBin fMul (eVar 13) (eVar 17)) eNil))) eNil)) eNil)))))))))))))))))))))
def d_law : List Val → Store → R Val := funD 3 fun n0 => (sSeq (sFor (itR1 (eBin fMax2 (eC (.int 1)) (eBin fMin2 (eC (.int 4)) (eUn fLen (eVar 0))))) (tgN 1) (sSeq (sNew 3 (eCall d__law_dice (eCons (eVar 0) (eCons (eVar 1) eNil)))) (sSeq (sIf (eOr (eNot (eCall d__law_right (eCons (eVar 3) eNil))) (eNot (eCall d__law_right (eCons (eVar 3) eNil)))) (sRet (eC (.bl false))) sNil) (sSeq (sFrz n0 3) sNil)))) (sSeq (sAsg 2 (eCall (mkO "Word" d_Word___init__) (eCons (eC (.int 2)) (eCons (eCall fTup (eCons (eCall fTup (eCons (eC (.int 1)) (eCons (eBin fPow (eC (.int 10)) (eC (.int 50))) eNil))) (eCons (eCall fTup (eCons (eC (.int 0)) (eCons (eC (.int 1)) eNil))) eNil))) eNil)))) (sRet (eAnd (eBin fEq (eUn (fPr "Word" d_Word_length) (eCall d_word_repeated (eCons (eVar 2) (eCons (eC (.int 2)) eNil)))) (eBin fAdd (eBin fMul (eC (.int 2)) (eBin fPow (eC (.int 10)) (eC (.int 50)))) (eC (.int 2)))) (eBin fEq (eMeth "Word" d_Word_letter (eVar 2) (eCons (eBin fPow (eC (.int 10)) (eC (.int 50))) eNil)) (eC (.int 0)))))))
section
variable {P : Program} {w : World} {K : PySem.W.Frag} {mg : Str → Option Value} {base : Heap} {g : Gx}
theorem sc_is_integer : FnScope ["value"] ["value"] (defScope s_is_integer) := ⟨rfl, rfl, rfl, by decide +kernel, rfl, by decide +kernel, by decide +kernel⟩
theorem ok_is_integer (hK : g.K = K) (T : Txt mg) (FA : FunAt K mg "is_integer" "is_integer" s_is_integer ["value"])  : Fn P w K mg base g 1 "is_integer" ["value"] d_is_integer false :=
  have nd := (sc_is_integer).nd
  fn_at (k := 0) (extra := 0) false (fun n0 => (sRet (eAnd (eUn (fIsi .int) (eVar 0)) (eNot (eUn (fIsi .bool) (eVar 0)))))) FA sc_is_integer rfl fun f cdv A outer s H E hr w0 => (ss_one (s_ret rfl (p_and (p_isi .int hK (by rfl) T.n_isinstance (by rfl) T.n_int (by decide +kernel) (p_var (i := 0))) (p_and1 (p_not (p_isi .bool hK (by rfl) T.n_isinstance (by rfl) T.n_bool (by decide +kernel) (p_var (i := 0))))))))
theorem sc_is_within : FnScope ["value", "low", "most"] ["value", "low", "most"] (defScope s_is_within) := ⟨rfl, rfl, rfl, by decide +kernel, rfl, by decide +kernel, by decide +kernel⟩
theorem ok_is_within (hK : g.K = K) (T : Txt mg) (FA : FunAt K mg "is_within" "is_within" s_is_within ["value", "low", "most"]) (F_is_integer : Fn P w K mg base g 1 "is_integer" ["value"] d_is_integer false) : Fn P w K mg base g 2 "is_within" ["value", "low", "most"] d_is_within false :=
  have nd := (sc_is_within).nd
  fn_at (k := 1) (extra := 0) false (fun n0 => (sRet (eAnd (eCall d_is_integer (eCons (eVar 0) eNil)) (eChain fLe fLe (eVar 1) (eVar 0) (eVar 2))))) FA sc_is_within rfl fun f cdv A outer s H E hr w0 => (ss_one (s_ret rfl (p_and (p_call F_is_integer hr (by decide) (by rfl) (takes_of rfl rfl rfl rfl) rfl (eCons_len eNil_len) (a_cons (p_var (i := 0)) a_nil)) (p_and1 (p_chLeLe (p_var (i := 1)) (p_var (i := 0)) (p_var (i := 2)))))))
theorem sc_require_within : FnScope ["value", "low", "most"] ["value", "low", "most"] (defScope s_require_within) := ⟨rfl, rfl, rfl, by decide +kernel, rfl, by decide +kernel, by decide +kernel⟩
theorem ok_require_within (hK : g.K = K) (T : Txt mg) (FA : FunAt K mg "require_within" "require_within" s_require_within ["value", "low", "most"]) (F_is_within : Fn P w K mg base g 2 "is_within" ["value", "low", "most"] d_is_within false) : Fn P w K mg base g 3 "require_within" ["value", "low", "most"] d_require_within false :=
  have nd := (sc_require_within).nd
  fn_at (k := 2) (extra := 0) false (fun n0 => (sIf (eNot (eCall d_is_within (eCons (eVar 0) (eCons (eVar 1) (eCons (eVar 2) eNil))))) sNever sNil)) FA sc_require_within rfl fun f cdv A outer s H E hr w0 => (ss_one (s_if (pt_not' (pt_v (p_call F_is_within hr (by decide) (by rfl) (takes_of rfl rfl rfl rfl) rfl (eCons_len (eCons_len (eCons_len eNil_len))) (a_cons (p_var (i := 0)) (a_cons (p_var (i := 1)) (a_cons (p_var (i := 2)) a_nil)))))) (ss_one s_never) ss_nil))
theorem sc_lean_in : FnScope ["runs", "found", "letter", "many"] ["runs"] (defScope s_lean_in) := ⟨rfl, rfl, rfl, by decide +kernel, rfl, by decide +kernel, by decide +kernel⟩
theorem ok_lean_in (hK : g.K = K) (T : Txt mg) (FA : FunAt K mg "lean_in" "lean_in" s_lean_in ["runs"])  : Fn P w K mg base g 1 "lean_in" ["runs"] d_lean_in false :=
  have nd := (sc_lean_in).nd
  fn_at (k := 0) (extra := 3) false (fun n0 => (sSeq (sNew 1 (eCall fLst eNil)) (sSeq (sFor (itV (eVar 0)) (tgT (tgsCons (tgN 2) (tgsCons (tgN 3) tgsNil))) (sIf (eAnd (eBin fNe (eVar 1) (eCall fLst eNil)) (eBin fEq (eBin fIx (eBin fIx (eVar 1) (eUn fNeg (eC (.int 1)))) (eC (.int 0))) (eVar 2))) (sSet (eVar 1) (eUn fNeg (eC (.int 1))) (eCall fTup (eCons (eVar 2) (eCons (eBin fAdd (eBin fIx (eBin fIx (eVar 1) (eUn fNeg (eC (.int 1)))) (eC (.int 1))) (eVar 3)) eNil)))) (sIf (eBin fGt (eVar 3) (eC (.int 0))) (sEx (eApp (eVar 1) (eCall fTup (eCons (eVar 2) (eCons (eVar 3) eNil))))) sNil))) (sRetC n0 1)))) FA sc_lean_in rfl fun f cdv A outer s H E hr w0 => (ss_cons (s_new (i := 1) nd rfl (by first | exact .inl rfl | exact .inr rfl) (p_lstN a_nil)) (ss_cons (s_for' (passes_of rfl) rfl (i_val hK (p_var (i := 0))) (g_tup hK rfl (gs_cons (g_name (i := 2) nd rfl (by first | exact .inl rfl | exact .inr rfl)) (gs_cons (g_name (i := 3) nd rfl (by first | exact .inl rfl | exact .inr rfl)) gs_nil)) (fun _ _ _ z => tgsCons_len (fun _ _ _ z => tgsCons_len (fun _ _ _ z => tgsNil_len z) z) z)) (ss_one (s_if (PW.pt (pw_and' (t_ne hK hr (p_var (i := 1)) (p_lst a_nil)) (pw_and1' (t_eq hK hr (p_ix hK (p_ix hK (p_var (i := 1)) (p_neg p_int)) p_int) (p_var (i := 2)))))) (ss_one (s_set (p_var (i := 1)) (p_neg p_int) (p_tup (a_cons (p_var (i := 2)) (a_cons (p_add hK (p_ix hK (p_ix hK (p_var (i := 1)) (p_neg p_int)) p_int) (p_var (i := 3))) a_nil))))) (ss_one (s_if (t_gt (p_var (i := 3)) p_int) (ss_one (s_ex (p_app hK (p_var (i := 1)) (p_tup (a_cons (p_var (i := 2)) (a_cons (p_var (i := 3)) a_nil)))))) ss_nil))))) (ss_one (s_retC (i := 1) rfl))))
theorem sc_is_run : FnScope ["width", "value"] ["width", "value"] (defScope s_is_run) := ⟨rfl, rfl, rfl, by decide +kernel, rfl, by decide +kernel, by decide +kernel⟩
theorem ok_is_run (hK : g.K = K) (T : Txt mg) (FA : FunAt K mg "is_run" "is_run" s_is_run ["width", "value"]) (F_is_within : Fn P w K mg base g 2 "is_within" ["value", "low", "most"] d_is_within false) : Fn P w K mg base g 3 "is_run" ["width", "value"] d_is_run false :=
  have nd := (sc_is_run).nd
  fn_at (k := 2) (extra := 0) false (fun n0 => (sSeq (sIf (eOr (eNot (eUn (fIsi .tuple) (eVar 1))) (eBin fNe (eUn fLen (eVar 1)) (eC (.int 2)))) (sRet (eC (.bl false))) sNil) (sRet (eAnd (eCall d_is_within (eCons (eBin fIx (eVar 1) (eC (.int 0))) (eCons (eC (.int 0)) (eCons (eBin fSub (eVar 0) (eC (.int 1))) eNil)))) (eCall d_is_within (eCons (eBin fIx (eVar 1) (eC (.int 1))) (eCons (eC (.int 1)) (eCons (eC (.int 10000000000000000000000000000000000000000000000000000000000000000)) eNil)))))))) FA sc_is_run rfl fun f cdv A outer s H E hr w0 => (ss_cons (s_if (PW.pt (pw_or' (pt_not' (pt_v (p_isi .tuple hK (by rfl) T.n_isinstance (by rfl) T.n_tuple (by decide +kernel) (p_var (i := 1))))) (pw_or1' (t_ne hK hr (p_len hK (by rfl) T.n_len (p_var (i := 1))) p_int)))) (ss_one (s_ret rfl p_bl)) ss_nil) (ss_one (s_ret rfl (p_and (p_call F_is_within hr (by decide) (by rfl) (takes_of rfl rfl rfl rfl) rfl (eCons_len (eCons_len (eCons_len eNil_len))) (a_cons (p_ix hK (p_var (i := 1)) p_int) (a_cons p_int (a_cons (p_sub (p_var (i := 0)) p_int) a_nil)))) (p_and1 (p_call F_is_within hr (by decide) (by rfl) (takes_of rfl rfl rfl rfl) rfl (eCons_len (eCons_len (eCons_len eNil_len))) (a_cons (p_ix hK (p_var (i := 1)) p_int) (a_cons p_int (a_cons (p_globE (by rfl) T.c_MOST_TOTAL) a_nil)))))))))
theorem sc_are_runs : FnScope ["width", "value", "one", "letter", "many"] ["width", "value"] (defScope s_are_runs) := ⟨rfl, rfl, rfl, by decide +kernel, rfl, by decide +kernel, by decide +kernel⟩
theorem ok_are_runs (hK : g.K = K) (T : Txt mg) (FA : FunAt K mg "are_runs" "are_runs" s_are_runs ["width", "value"]) (F_is_run : Fn P w K mg base g 3 "is_run" ["width", "value"] d_is_run false) : Fn P w K mg base g 4 "are_runs" ["width", "value"] d_are_runs false :=
  have nd := (sc_are_runs).nd
  fn_at (k := 3) (extra := 3) false (fun n0 => (sSeq (sIf (eOr (eNot (eUn (fIsi .tuple) (eVar 1))) (eOr (eBin fGt (eUn fLen (eVar 1)) (eC (.int 200))) (eNot (eUn fAll (eLc (itV (eVar 1)) [2] (tgN 2) tYesD (eCall d_is_run (eCons (eVar 0) (eCons (eVar 2) eNil)))))))) (sRet (eC (.bl false))) sNil) (sRet (eBin fLe (eUn fSum (eLc (itV (eVar 1)) [3, 4] (tgT (tgsCons (tgN 3) (tgsCons (tgN 4) tgsNil))) tYesD (eVar 4))) (eC (.int 10000000000000000000000000000000000000000000000000000000000000000)))))) FA sc_are_runs rfl fun f cdv A outer s H E hr w0 => (ss_cons (s_if (PW.pt (pw_or' (pt_not' (pt_v (p_isi .tuple hK (by rfl) T.n_isinstance (by rfl) T.n_tuple (by decide +kernel) (p_var (i := 1))))) (pw_or' (t_gt (p_len hK (by rfl) T.n_len (p_var (i := 1))) (p_globE (by rfl) T.c_MOST_RUNS)) (pw_or1' (pt_not' (pt_v (p_all hK rfl (by rfl) T.n_all (p_lc (own := [("one", 2)]) rfl nd (i_val hK (p_var (i := 1))) (blkOk_by (N := ["width", "value", "one", "letter", "many"]) (sc := defScope s_are_runs) (own := [("one", 2)]) (by decide +kernel)) (fun _ _ _ _ _ => (g_name (i := 2) nd rfl (by first | exact .inl rfl | exact .inr rfl))) (fun _ _ _ _ _ => ts_nil) (fun _ _ _ _ _ => (p_call F_is_run hr (by decide) (by rfl) takes0 rfl (eCons_len (eCons_len eNil_len)) (a_cons (p_var (i := 0)) (a_cons (p_var (i := 2)) a_nil)))) (by decide))))))))) (ss_one (s_ret rfl p_bl)) ss_nil) (ss_one (s_ret rfl (p_le (p_sum hK rfl (by rfl) T.n_sum (p_lc (own := [("letter", 3), ("many", 4)]) rfl nd (i_val hK (p_var (i := 1))) (blkOk_by (N := ["width", "value", "one", "letter", "many"]) (sc := defScope s_are_runs) (own := [("letter", 3), ("many", 4)]) (by decide +kernel)) (fun _ _ _ _ _ => (g_tup hK rfl (gs_cons (g_name (i := 3) nd rfl (by first | exact .inl rfl | exact .inr rfl)) (gs_cons (g_name (i := 4) nd rfl (by first | exact .inl rfl | exact .inr rfl)) gs_nil)) (fun _ _ _ z => tgsCons_len (fun _ _ _ z => tgsCons_len (fun _ _ _ z => tgsNil_len z) z) z))) (fun _ _ _ _ _ => ts_nil) (fun _ _ _ _ _ => (p_var (i := 4))) (by decide))) (p_globE (by rfl) T.c_MOST_TOTAL)))))
theorem sc_counts_of : FnScope ["width", "runs", "found", "letter", "many"] ["width", "runs"] (defScope s_counts_of) := ⟨rfl, rfl, rfl, by decide +kernel, rfl, by decide +kernel, by decide +kernel⟩
theorem ok_counts_of (hK : g.K = K) (T : Txt mg) (FA : FunAt K mg "counts_of" "counts_of" s_counts_of ["width", "runs"])  : Fn P w K mg base g 1 "counts_of" ["width", "runs"] d_counts_of false :=
  have nd := (sc_counts_of).nd
  fn_at (k := 0) (extra := 3) false (fun n0 => (sSeq (sNew 2 (eBin fMulL (eCall fLst (eCons (eC (.int 0)) eNil)) (eVar 0))) (sSeq (sFor (itV (eVar 1)) (tgT (tgsCons (tgN 3) (tgsCons (tgN 4) tgsNil))) (sSet (eVar 2) (eVar 3) (eBin fAdd (eBin fIx (eVar 2) (eVar 3)) (eVar 4)))) (sRetC n0 2)))) FA sc_counts_of rfl fun f cdv A outer s H E hr w0 => (ss_cons (s_new (i := 2) nd rfl (by first | exact .inl rfl | exact .inr rfl) (p_mulN (p_lst (a_cons p_int a_nil)) (p_var (i := 0)))) (ss_cons (s_for' (passes_of rfl) rfl (i_val hK (p_var (i := 1))) (g_tup hK rfl (gs_cons (g_name (i := 3) nd rfl (by first | exact .inl rfl | exact .inr rfl)) (gs_cons (g_name (i := 4) nd rfl (by first | exact .inl rfl | exact .inr rfl)) gs_nil)) (fun _ _ _ z => tgsCons_len (fun _ _ _ z => tgsCons_len (fun _ _ _ z => tgsNil_len z) z) z)) (ss_one (s_set (p_var (i := 2)) (p_var (i := 3)) (p_add hK (p_ix hK (p_var (i := 2)) (p_var (i := 3))) (p_var (i := 4)))))) (ss_one (s_retC (i := 2) rfl))))
theorem sc_part_of : FnScope ["runs", "first", "many", "found", "letter", "times", "low", "high"] ["runs", "first", "many"] (defScope s_part_of) := ⟨rfl, rfl, rfl, by decide +kernel, rfl, by decide +kernel, by decide +kernel⟩
theorem ok_part_of (hK : g.K = K) (T : Txt mg) (FA : FunAt K mg "part_of" "part_of" s_part_of ["runs", "first", "many"])  : Fn P w K mg base g 1 "part_of" ["runs", "first", "many"] d_part_of false :=
  have nd := (sc_part_of).nd
  fn_at (k := 0) (extra := 5) false (fun n0 => (sSeq (sNew 3 (eCall fLst eNil)) (sSeq (sFor (itV (eVar 0)) (tgT (tgsCons (tgN 4) (tgsCons (tgN 5) tgsNil))) (sSeq (sPar 6 7 (eBin fMax2 (eVar 1) (eC (.int 0))) (eBin fMin2 (eBin fAdd (eVar 1) (eVar 2)) (eVar 5))) (sSeq (sIf (eBin fLt (eVar 6) (eVar 7)) (sEx (eApp (eVar 3) (eCall fTup (eCons (eVar 4) (eCons (eBin fSub (eVar 7) (eVar 6)) eNil))))) sNil) (sAsg 1 (eBin fSub (eVar 1) (eVar 5)))))) (sRetC n0 3)))) FA sc_part_of rfl fun f cdv A outer s H E hr w0 => (ss_cons (s_new (i := 3) nd rfl (by first | exact .inl rfl | exact .inr rfl) (p_lstN a_nil)) (ss_cons (s_for' (passes_of rfl) rfl (i_val hK (p_var (i := 0))) (g_tup hK rfl (gs_cons (g_name (i := 4) nd rfl (by first | exact .inl rfl | exact .inr rfl)) (gs_cons (g_name (i := 5) nd rfl (by first | exact .inl rfl | exact .inr rfl)) gs_nil)) (fun _ _ _ z => tgsCons_len (fun _ _ _ z => tgsCons_len (fun _ _ _ z => tgsNil_len z) z) z)) (ss_cons (s_par (i := 6) (j := 7) rfl nd rfl rfl (by decide) rfl rfl (p_max2 rfl (by rfl) T.n_max (p_var (i := 1)) p_int) (p_min2 rfl (by rfl) T.n_min (p_add hK (p_var (i := 1)) (p_var (i := 2))) (p_var (i := 5))) (by rfl)) (ss_cons (s_if (t_lt (p_var (i := 6)) (p_var (i := 7))) (ss_one (s_ex (p_app hK (p_var (i := 3)) (p_tup (a_cons (p_var (i := 4)) (a_cons (p_sub (p_var (i := 7)) (p_var (i := 6))) a_nil)))))) ss_nil) (ss_one (s_asg (i := 1) nd rfl (by first | exact .inl rfl | exact .inr rfl) (p_sub (p_var (i := 1)) (p_var (i := 5)))))))) (ss_one (s_retC (i := 3) rfl))))
theorem sc_Word___init__ : FnScope ["self", "width", "runs"] ["self", "width", "runs"] (defScope s_Word___init__) := ⟨rfl, rfl, rfl, by decide +kernel, rfl, by decide +kernel, by decide +kernel⟩
theorem ok_Word___init__ (hK : g.K = K) (T : Txt mg) {a_Word___init__ : Addr} (FA : FunM K "__init__" "Word.__init__" s_Word___init__ ["self", "width", "runs"] a_Word___init__) (F_are_runs : Fn P w K mg base g 4 "are_runs" ["width", "value"] d_are_runs false) (F_is_within : Fn P w K mg base g 2 "is_within" ["value", "low", "most"] d_is_within false) (F_lean_in : Fn P w K mg base g 1 "lean_in" ["runs"] d_lean_in false) (S_Word_own_runs : SlotC g "Word" "own_runs" 0) (S_Word_own_width : SlotC g "Word" "own_width" 1) : FnM P w K mg base g 5 a_Word___init__ 3 d_Word___init__ :=
  have nd := (sc_Word___init__).nd
  fn_atM (k := 4) (extra := 0) (fun n0 => (sSeq (sIf (eOr (eNot (eCall d_is_within (eCons (eVar 1) (eCons (eC (.int 1)) (eCons (eC (.int 8)) eNil))))) (eNot (eCall d_are_runs (eCons (eVar 1) (eCons (eVar 2) eNil))))) sNever sNil) (sPut2 0 "Word" 1 0 (eVar 1) (eUn fTuple (eCall d_lean_in (eCons (eVar 2) eNil)))))) FA sc_Word___init__ rfl rfl fun f cdv A outer s H E hr w0 => (ss_cons (s_if (PW.pt (pw_or' (pt_not' (pt_v (p_call F_is_within hr (by decide) (by rfl) (takes_of rfl rfl rfl rfl) rfl (eCons_len (eCons_len (eCons_len eNil_len))) (a_cons (p_var (i := 1)) (a_cons p_int (a_cons (p_globE (by rfl) T.c_MOST_WIDTH) a_nil)))))) (pw_or1' (pt_not' (pt_v (p_call F_are_runs hr (by decide) (by rfl) (takes_of rfl rfl rfl rfl) rfl (eCons_len (eCons_len eNil_len)) (a_cons (p_var (i := 1)) (a_cons (p_var (i := 2)) a_nil)))))))) (ss_one s_never) ss_nil) (ss_one (s_put2 (j := 0) hK rfl S_Word_own_width S_Word_own_runs (p_var (i := 0)) (p_var (i := 0)) (p_var (i := 1)) (p_tuple hK (by rfl) T.n_tuple (p_call F_lean_in hr (by decide) (by rfl) (takes_of rfl rfl rfl rfl) rfl (eCons_len eNil_len) (a_cons (p_var (i := 2)) a_nil))))))
theorem sc_word_in : FnScope ["width", "runs"] ["width", "runs"] (defScope s_word_in) := ⟨rfl, rfl, rfl, by decide +kernel, rfl, by decide +kernel, by decide +kernel⟩
theorem ok_word_in (hK : g.K = K) (T : Txt mg) (FA : FunAt K mg "word_in" "word_in" s_word_in ["width", "runs"]) {a_Word___init__ k_Word : Addr} (C_Word : g.cl "Word" = some k_Word) (F_Word___init__ : FnM P w K mg base g 5 a_Word___init__ 3 d_Word___init__) (MK_Word : Mk K k_Word a_Word___init__) (N_Word : mg "Word" = some (.ref k_Word)) : Fn P w K mg base g 7 "word_in" ["width", "runs"] d_word_in false :=
  have nd := (sc_word_in).nd
  fn_at (k := 6) (extra := 0) false (fun n0 => (sRet (eCall (mkO "Word" d_Word___init__) (eCons (eVar 0) (eCons (eUn fTuple (eVar 1)) eNil))))) FA sc_word_in rfl fun f cdv A outer s H E hr w0 => (ss_one (s_ret rfl (p_make (n := 2) MK_Word C_Word N_Word F_Word___init__ hr (by decide) (by rfl) (takes_of rfl rfl rfl rfl) (eCons_len (eCons_len eNil_len)) (a_cons (p_var (i := 0)) (a_cons (p_tuple hK (by rfl) T.n_tuple (p_var (i := 1))) a_nil)))))
theorem sc_require_word : FnScope ["word"] ["word"] (defScope s_require_word) := ⟨rfl, rfl, rfl, by decide +kernel, rfl, by decide +kernel, by decide +kernel⟩
theorem ok_require_word (hK : g.K = K) (T : Txt mg) (FA : FunAt K mg "require_word" "require_word" s_require_word ["word"]) {k_Word : Addr} (I_Word : IsiC g k_Word rel_Word) (N_Word : mg "Word" = some (.ref k_Word)) : Fn P w K mg base g 1 "require_word" ["word"] d_require_word false :=
  have nd := (sc_require_word).nd
  fn_at (k := 0) (extra := 0) false (fun n0 => (sIf (eNot (eUn (fIsiO rel_Word) (eVar 0))) sNever sNil)) FA sc_require_word rfl fun f cdv A outer s H E hr w0 => (ss_one (s_if (pt_not' (pt_v (p_isiO hK I_Word (by rfl) T.n_isinstance (by rfl) N_Word (p_var (i := 0))))) (ss_one s_never) ss_nil))
theorem sc_word_of_runs : FnScope ["width", "runs", "letter", "many"] ["width", "runs"] (defScope s_word_of_runs) := ⟨rfl, rfl, rfl, by decide +kernel, rfl, by decide +kernel, by decide +kernel⟩
theorem ok_word_of_runs (hK : g.K = K) (T : Txt mg) (FA : FunAt K mg "word_of_runs" "word_of_runs" s_word_of_runs ["width", "runs"]) (F_lean_in : Fn P w K mg base g 1 "lean_in" ["runs"] d_lean_in false) (F_word_in : Fn P w K mg base g 7 "word_in" ["width", "runs"] d_word_in false) : Fn P w K mg base g 8 "word_of_runs" ["width", "runs"] d_word_of_runs false :=
  have nd := (sc_word_of_runs).nd
  fn_at (k := 7) (extra := 2) false (fun n0 => (sSeq (sIf (eBin fGt (eUn fSum (eLc (itV (eVar 1)) [2, 3] (tgT (tgsCons (tgN 2) (tgsCons (tgN 3) tgsNil))) tYesD (eVar 3))) (eC (.int 10000000000000000000000000000000000000000000000000000000000000000))) sNever sNil) (sSeq (sAsg 1 (eCall d_lean_in (eCons (eVar 1) eNil))) (sSeq (sIf (eBin fGt (eUn fLen (eVar 1)) (eC (.int 200))) sNever sNil) (sRet (eCall d_word_in (eCons (eVar 0) (eCons (eVar 1) eNil)))))))) FA sc_word_of_runs rfl fun f cdv A outer s H E hr w0 => (ss_cons (s_if (t_gt (p_sum hK rfl (by rfl) T.n_sum (p_lc (own := [("letter", 2), ("many", 3)]) rfl nd (i_val hK (p_var (i := 1))) (blkOk_by (N := ["width", "runs", "letter", "many"]) (sc := defScope s_word_of_runs) (own := [("letter", 2), ("many", 3)]) (by decide +kernel)) (fun _ _ _ _ _ => (g_tup hK rfl (gs_cons (g_name (i := 2) nd rfl (by first | exact .inl rfl | exact .inr rfl)) (gs_cons (g_name (i := 3) nd rfl (by first | exact .inl rfl | exact .inr rfl)) gs_nil)) (fun _ _ _ z => tgsCons_len (fun _ _ _ z => tgsCons_len (fun _ _ _ z => tgsNil_len z) z) z))) (fun _ _ _ _ _ => ts_nil) (fun _ _ _ _ _ => (p_var (i := 3))) (by decide))) (p_globE (by rfl) T.c_MOST_TOTAL)) (ss_one s_never) ss_nil) (ss_cons (s_asg (i := 1) nd rfl (by first | exact .inl rfl | exact .inr rfl) (p_call F_lean_in hr (by decide) (by rfl) (takes_of rfl rfl rfl rfl) rfl (eCons_len eNil_len) (a_cons (p_var (i := 1)) a_nil))) (ss_cons (s_if (t_gt (p_len hK (by rfl) T.n_len (p_var (i := 1))) (p_globE (by rfl) T.c_MOST_RUNS)) (ss_one s_never) ss_nil) (ss_one (s_ret rfl (p_call F_word_in hr (by decide) (by rfl) (takes_of rfl rfl rfl rfl) rfl (eCons_len (eCons_len eNil_len)) (a_cons (p_var (i := 0)) (a_cons (p_var (i := 1)) a_nil))))))))
theorem sc_Word_length : FnScope ["self", "letter", "many"] ["self"] (defScope s_Word_length) := ⟨rfl, rfl, rfl, by decide +kernel, rfl, by decide +kernel, by decide +kernel⟩
theorem ok_Word_length (hK : g.K = K) (T : Txt mg) {a_Word_length : Addr} (FA : FunM K "length" "Word.length" s_Word_length ["self"] a_Word_length) (S_Word_own_runs : SlotC g "Word" "own_runs" 0) : FnM P w K mg base g 1 a_Word_length 1 d_Word_length :=
  have nd := (sc_Word_length).nd
  fn_atM (k := 0) (extra := 2) (fun n0 => (sRet (eUn fSum (eLc (itV (eUn (fFld "Word" 0) (eVar 0))) [1, 2] (tgT (tgsCons (tgN 1) (tgsCons (tgN 2) tgsNil))) tYesD (eVar 2))))) FA sc_Word_length rfl rfl fun f cdv A outer s H E hr w0 => (ss_one (s_ret rfl (p_sum hK rfl (by rfl) T.n_sum (p_lc (own := [("letter", 1), ("many", 2)]) rfl nd (i_val hK (p_fld hK S_Word_own_runs (p_var (i := 0)))) (blkOk_by (N := ["self", "letter", "many"]) (sc := defScope s_Word_length) (own := [("letter", 1), ("many", 2)]) (by decide +kernel)) (fun _ _ _ _ _ => (g_tup hK rfl (gs_cons (g_name (i := 1) nd rfl (by first | exact .inl rfl | exact .inr rfl)) (gs_cons (g_name (i := 2) nd rfl (by first | exact .inl rfl | exact .inr rfl)) gs_nil)) (fun _ _ _ z => tgsCons_len (fun _ _ _ z => tgsCons_len (fun _ _ _ z => tgsNil_len z) z) z))) (fun _ _ _ _ _ => ts_nil) (fun _ _ _ _ _ => (p_var (i := 2))) (by decide)))))
theorem sc_Word_width : FnScope ["self"] ["self"] (defScope s_Word_width) := ⟨rfl, rfl, rfl, by decide +kernel, rfl, by decide +kernel, by decide +kernel⟩
theorem ok_Word_width (hK : g.K = K) (T : Txt mg) {a_Word_width : Addr} (FA : FunM K "width" "Word.width" s_Word_width ["self"] a_Word_width) (S_Word_own_width : SlotC g "Word" "own_width" 1) : FnM P w K mg base g 1 a_Word_width 1 d_Word_width :=
  have nd := (sc_Word_width).nd
  fn_atM (k := 0) (extra := 0) (fun n0 => (sRet (eUn (fFld "Word" 1) (eVar 0)))) FA sc_Word_width rfl rfl fun f cdv A outer s H E hr w0 => (ss_one (s_ret rfl (p_fld hK S_Word_own_width (p_var (i := 0)))))
theorem sc_Word_runs : FnScope ["self"] ["self"] (defScope s_Word_runs) := ⟨rfl, rfl, rfl, by decide +kernel, rfl, by decide +kernel, by decide +kernel⟩
theorem ok_Word_runs (hK : g.K = K) (T : Txt mg) {a_Word_runs : Addr} (FA : FunM K "runs" "Word.runs" s_Word_runs ["self"] a_Word_runs) (S_Word_own_runs : SlotC g "Word" "own_runs" 0) : FnM P w K mg base g 1 a_Word_runs 1 d_Word_runs :=
  have nd := (sc_Word_runs).nd
  fn_atM (k := 0) (extra := 0) (fun n0 => (sRet (eUn (fFld "Word" 0) (eVar 0)))) FA sc_Word_runs rfl rfl fun f cdv A outer s H E hr w0 => (ss_one (s_ret rfl (p_fld hK S_Word_own_runs (p_var (i := 0)))))
theorem sc_word_part : FnScope ["word", "first", "many"] ["word", "first", "many"] (defScope s_word_part) := ⟨rfl, rfl, rfl, by decide +kernel, rfl, by decide +kernel, by decide +kernel⟩
theorem ok_word_part (hK : g.K = K) (T : Txt mg) (FA : FunAt K mg "word_part" "word_part" s_word_part ["word", "first", "many"]) {a_Word___init__ a_Word_length a_Word_runs a_Word_width k_Word : Addr} (F_part_of : Fn P w K mg base g 1 "part_of" ["runs", "first", "many"] d_part_of false) (F_require_within : Fn P w K mg base g 3 "require_within" ["value", "low", "most"] d_require_within false) (F_require_word : Fn P w K mg base g 1 "require_word" ["word"] d_require_word false) (C_Word : g.cl "Word" = some k_Word) (F_Word___init__ : FnM P w K mg base g 5 a_Word___init__ 3 d_Word___init__) (F_Word_length : FnM P w K mg base g 1 a_Word_length 1 d_Word_length) (F_Word_runs : FnM P w K mg base g 1 a_Word_runs 1 d_Word_runs) (F_Word_width : FnM P w K mg base g 1 a_Word_width 1 d_Word_width) (MK_Word : Mk K k_Word a_Word___init__) (N_Word : mg "Word" = some (.ref k_Word)) (P_Word_length : PropC g "Word" "length" a_Word_length) (P_Word_runs : PropC g "Word" "runs" a_Word_runs) (P_Word_width : PropC g "Word" "width" a_Word_width) : Fn P w K mg base g 7 "word_part" ["word", "first", "many"] d_word_part false :=
  have nd := (sc_word_part).nd
  fn_at (k := 6) (extra := 0) false (fun n0 => (sSeq (sEx (eCall d_require_word (eCons (eVar 0) eNil))) (sSeq (sEx (eCall d_require_within (eCons (eVar 1) (eCons (eC (.int 0)) (eCons (eUn (fPr "Word" d_Word_length) (eVar 0)) eNil))))) (sSeq (sEx (eCall d_require_within (eCons (eVar 2) (eCons (eC (.int 0)) (eCons (eBin fSub (eUn (fPr "Word" d_Word_length) (eVar 0)) (eVar 1)) eNil))))) (sRet (eCall (mkO "Word" d_Word___init__) (eCons (eUn (fPr "Word" d_Word_width) (eVar 0)) (eCons (eUn fTuple (eCall d_part_of (eCons (eUn (fPr "Word" d_Word_runs) (eVar 0)) (eCons (eVar 1) (eCons (eVar 2) eNil))))) eNil)))))))) FA sc_word_part rfl fun f cdv A outer s H E hr w0 => (ss_cons (s_ex (p_call F_require_word hr (by decide) (by rfl) (takes_of rfl rfl rfl rfl) rfl (eCons_len eNil_len) (a_cons (p_var (i := 0)) a_nil))) (ss_cons (s_ex (p_call F_require_within hr (by decide) (by rfl) (takes_of rfl rfl rfl rfl) rfl (eCons_len (eCons_len (eCons_len eNil_len))) (a_cons (p_var (i := 1)) (a_cons p_int (a_cons (p_prop hK P_Word_length F_Word_length hr (by decide) (p_var (i := 0))) a_nil))))) (ss_cons (s_ex (p_call F_require_within hr (by decide) (by rfl) (takes_of rfl rfl rfl rfl) rfl (eCons_len (eCons_len (eCons_len eNil_len))) (a_cons (p_var (i := 2)) (a_cons p_int (a_cons (p_sub (p_prop hK P_Word_length F_Word_length hr (by decide) (p_var (i := 0))) (p_var (i := 1))) a_nil))))) (ss_one (s_ret rfl (p_make (n := 2) MK_Word C_Word N_Word F_Word___init__ hr (by decide) (by rfl) (takes_of rfl rfl rfl rfl) (eCons_len (eCons_len eNil_len)) (a_cons (p_prop hK P_Word_width F_Word_width hr (by decide) (p_var (i := 0))) (a_cons (p_tuple hK (by rfl) T.n_tuple (p_call F_part_of hr (by decide) (by rfl) (takes_of rfl rfl rfl rfl) rfl (eCons_len (eCons_len (eCons_len eNil_len))) (a_cons (p_prop hK P_Word_runs F_Word_runs hr (by decide) (p_var (i := 0))) (a_cons (p_var (i := 1)) (a_cons (p_var (i := 2)) a_nil))))) a_nil))))))))
theorem sc_word_joined : FnScope ["one", "other"] ["one", "other"] (defScope s_word_joined) := ⟨rfl, rfl, rfl, by decide +kernel, rfl, by decide +kernel, by decide +kernel⟩
theorem ok_word_joined (hK : g.K = K) (T : Txt mg) (FA : FunAt K mg "word_joined" "word_joined" s_word_joined ["one", "other"]) {a_Word_runs a_Word_width : Addr} (F_require_word : Fn P w K mg base g 1 "require_word" ["word"] d_require_word false) (F_word_of_runs : Fn P w K mg base g 8 "word_of_runs" ["width", "runs"] d_word_of_runs false) (F_Word_runs : FnM P w K mg base g 1 a_Word_runs 1 d_Word_runs) (F_Word_width : FnM P w K mg base g 1 a_Word_width 1 d_Word_width) (P_Word_runs : PropC g "Word" "runs" a_Word_runs) (P_Word_width : PropC g "Word" "width" a_Word_width) : Fn P w K mg base g 9 "word_joined" ["one", "other"] d_word_joined false :=
  have nd := (sc_word_joined).nd
  fn_at (k := 8) (extra := 0) false (fun n0 => (sSeq (sEx (eCall d_require_word (eCons (eVar 0) eNil))) (sSeq (sEx (eCall d_require_word (eCons (eVar 1) eNil))) (sSeq (sIf (eBin fNe (eUn (fPr "Word" d_Word_width) (eVar 0)) (eUn (fPr "Word" d_Word_width) (eVar 1))) sNever sNil) (sRet (eCall d_word_of_runs (eCons (eUn (fPr "Word" d_Word_width) (eVar 0)) (eCons (eBin fAdd (eUn (fPr "Word" d_Word_runs) (eVar 0)) (eUn (fPr "Word" d_Word_runs) (eVar 1))) eNil)))))))) FA sc_word_joined rfl fun f cdv A outer s H E hr w0 => (ss_cons (s_ex (p_call F_require_word hr (by decide) (by rfl) (takes_of rfl rfl rfl rfl) rfl (eCons_len eNil_len) (a_cons (p_var (i := 0)) a_nil))) (ss_cons (s_ex (p_call F_require_word hr (by decide) (by rfl) (takes_of rfl rfl rfl rfl) rfl (eCons_len eNil_len) (a_cons (p_var (i := 1)) a_nil))) (ss_cons (s_if (t_ne hK hr (p_prop hK P_Word_width F_Word_width hr (by decide) (p_var (i := 0))) (p_prop hK P_Word_width F_Word_width hr (by decide) (p_var (i := 1)))) (ss_one s_never) ss_nil) (ss_one (s_ret rfl (p_call F_word_of_runs hr (by decide) (by rfl) (takes_of rfl rfl rfl rfl) rfl (eCons_len (eCons_len eNil_len)) (a_cons (p_prop hK P_Word_width F_Word_width hr (by decide) (p_var (i := 0))) (a_cons (p_add hK (p_prop hK P_Word_runs F_Word_runs hr (by decide) (p_var (i := 0))) (p_prop hK P_Word_runs F_Word_runs hr (by decide) (p_var (i := 1)))) a_nil))))))))
theorem sc_word_repeated : FnScope ["word", "times", "runs", "letter", "many"] ["word", "times"] (defScope s_word_repeated) := ⟨rfl, rfl, rfl, by decide +kernel, rfl, by decide +kernel, by decide +kernel⟩
theorem ok_word_repeated (hK : g.K = K) (T : Txt mg) (FA : FunAt K mg "word_repeated" "word_repeated" s_word_repeated ["word", "times"]) {a_Word___init__ a_Word_length a_Word_runs a_Word_width k_Word : Addr} (F_require_within : Fn P w K mg base g 3 "require_within" ["value", "low", "most"] d_require_within false) (F_require_word : Fn P w K mg base g 1 "require_word" ["word"] d_require_word false) (F_word_of_runs : Fn P w K mg base g 8 "word_of_runs" ["width", "runs"] d_word_of_runs false) (C_Word : g.cl "Word" = some k_Word) (F_Word___init__ : FnM P w K mg base g 5 a_Word___init__ 3 d_Word___init__) (F_Word_length : FnM P w K mg base g 1 a_Word_length 1 d_Word_length) (F_Word_runs : FnM P w K mg base g 1 a_Word_runs 1 d_Word_runs) (F_Word_width : FnM P w K mg base g 1 a_Word_width 1 d_Word_width) (MK_Word : Mk K k_Word a_Word___init__) (N_Word : mg "Word" = some (.ref k_Word)) (P_Word_length : PropC g "Word" "length" a_Word_length) (P_Word_runs : PropC g "Word" "runs" a_Word_runs) (P_Word_width : PropC g "Word" "width" a_Word_width) : Fn P w K mg base g 9 "word_repeated" ["word", "times"] d_word_repeated false :=
  have nd := (sc_word_repeated).nd
  fn_at (k := 8) (extra := 3) false (fun n0 => (sSeq (sEx (eCall d_require_word (eCons (eVar 0) eNil))) (sSeq (sEx (eCall d_require_within (eCons (eVar 1) (eCons (eC (.int 0)) (eCons (eC (.int 1000000000000000000000000000000000000000000000000000000000000)) eNil))))) (sSeq (sIf (eBin fGt (eBin fMul (eUn (fPr "Word" d_Word_length) (eVar 0)) (eVar 1)) (eC (.int 10000000000000000000000000000000000000000000000000000000000000000))) sNever sNil) (sSeq (sAsg 2 (eUn (fPr "Word" d_Word_runs) (eVar 0))) (sSeq (sIf (eOr (eBin fLe (eUn fLen (eVar 2)) (eC (.int 1))) (eBin fEq (eVar 1) (eC (.int 0)))) (sRet (eCall (mkO "Word" d_Word___init__) (eCons (eUn (fPr "Word" d_Word_width) (eVar 0)) (eCons (eUn fTuple (eLc (itV (eVar 2)) [3, 4] (tgT (tgsCons (tgN 3) (tgsCons (tgN 4) tgsNil))) (eTest (eBin fGt (eVar 1) (eC (.int 0)))) (eCall fTup (eCons (eVar 3) (eCons (eBin fMul (eVar 4) (eVar 1)) eNil))))) eNil)))) sNil) (sSeq (sIf (eBin fGt (eBin fSub (eBin fMul (eUn fLen (eVar 2)) (eVar 1)) (eIf (eBin fEq (eBin fIx (eBin fIx (eVar 2) (eC (.int 0))) (eC (.int 0))) (eBin fIx (eBin fIx (eVar 2) (eUn fNeg (eC (.int 1)))) (eC (.int 0)))) (eBin fSub (eVar 1) (eC (.int 1))) (eC (.int 0)))) (eC (.int 200))) sNever sNil) (sRet (eCall d_word_of_runs (eCons (eUn (fPr "Word" d_Word_width) (eVar 0)) (eCons (eBin fMul (eVar 2) (eVar 1)) eNil))))))))))) FA sc_word_repeated rfl fun f cdv A outer s H E hr w0 => (ss_cons (s_ex (p_call F_require_word hr (by decide) (by rfl) (takes_of rfl rfl rfl rfl) rfl (eCons_len eNil_len) (a_cons (p_var (i := 0)) a_nil))) (ss_cons (s_ex (p_call F_require_within hr (by decide) (by rfl) (takes_of rfl rfl rfl rfl) rfl (eCons_len (eCons_len (eCons_len eNil_len))) (a_cons (p_var (i := 1)) (a_cons p_int (a_cons (p_globE (by rfl) T.c_MOST_TIMES) a_nil))))) (ss_cons (s_if (t_gt (p_mul hK (p_prop hK P_Word_length F_Word_length hr (by decide) (p_var (i := 0))) (p_var (i := 1))) (p_globE (by rfl) T.c_MOST_TOTAL)) (ss_one s_never) ss_nil) (ss_cons (s_asg (i := 2) nd rfl (by first | exact .inl rfl | exact .inr rfl) (p_prop hK P_Word_runs F_Word_runs hr (by decide) (p_var (i := 0)))) (ss_cons (s_if (PW.pt (pw_or' (t_le (p_len hK (by rfl) T.n_len (p_var (i := 2))) p_int) (pw_or1' (t_eq hK hr (p_var (i := 1)) p_int)))) (ss_one (s_ret rfl (p_make (n := 2) MK_Word C_Word N_Word F_Word___init__ hr (by decide) (by rfl) (takes_of rfl rfl rfl rfl) (eCons_len (eCons_len eNil_len)) (a_cons (p_prop hK P_Word_width F_Word_width hr (by decide) (p_var (i := 0))) (a_cons (p_tuple hK (by rfl) T.n_tuple (p_lc (own := [("letter", 3), ("many", 4)]) rfl nd (i_val hK (p_var (i := 2))) (blkOk_by (N := ["word", "times", "runs", "letter", "many"]) (sc := defScope s_word_repeated) (own := [("letter", 3), ("many", 4)]) (by decide +kernel)) (fun _ _ _ _ _ => (g_tup hK rfl (gs_cons (g_name (i := 3) nd rfl (by first | exact .inl rfl | exact .inr rfl)) (gs_cons (g_name (i := 4) nd rfl (by first | exact .inl rfl | exact .inr rfl)) gs_nil)) (fun _ _ _ z => tgsCons_len (fun _ _ _ z => tgsCons_len (fun _ _ _ z => tgsNil_len z) z) z))) (fun _ _ _ _ _ => (ts_one (t_gt (p_var (i := 1)) p_int))) (fun _ _ _ _ _ => (p_tup (a_cons (p_var (i := 3)) (a_cons (p_mul hK (p_var (i := 4)) (p_var (i := 1))) a_nil)))) (by decide))) a_nil))))) ss_nil) (ss_cons (s_if (t_gt (p_sub (p_mul hK (p_len hK (by rfl) T.n_len (p_var (i := 2))) (p_var (i := 1))) (p_if (t_eq hK hr (p_ix hK (p_ix hK (p_var (i := 2)) p_int) p_int) (p_ix hK (p_ix hK (p_var (i := 2)) (p_neg p_int)) p_int)) (p_sub (p_var (i := 1)) p_int) p_int)) (p_globE (by rfl) T.c_MOST_RUNS)) (ss_one s_never) ss_nil) (ss_one (s_ret rfl (p_call F_word_of_runs hr (by decide) (by rfl) (takes_of rfl rfl rfl rfl) rfl (eCons_len (eCons_len eNil_len)) (a_cons (p_prop hK P_Word_width F_Word_width hr (by decide) (p_var (i := 0))) (a_cons (p_mul hK (p_var (i := 2)) (p_var (i := 1))) a_nil)))))))))))
theorem sc_word_backward : FnScope ["word"] ["word"] (defScope s_word_backward) := ⟨rfl, rfl, rfl, by decide +kernel, rfl, by decide +kernel, by decide +kernel⟩
theorem ok_word_backward (hK : g.K = K) (T : Txt mg) (FA : FunAt K mg "word_backward" "word_backward" s_word_backward ["word"]) {a_Word___init__ a_Word_runs a_Word_width k_Word : Addr} (F_require_word : Fn P w K mg base g 1 "require_word" ["word"] d_require_word false) (C_Word : g.cl "Word" = some k_Word) (F_Word___init__ : FnM P w K mg base g 5 a_Word___init__ 3 d_Word___init__) (F_Word_runs : FnM P w K mg base g 1 a_Word_runs 1 d_Word_runs) (F_Word_width : FnM P w K mg base g 1 a_Word_width 1 d_Word_width) (MK_Word : Mk K k_Word a_Word___init__) (N_Word : mg "Word" = some (.ref k_Word)) (P_Word_runs : PropC g "Word" "runs" a_Word_runs) (P_Word_width : PropC g "Word" "width" a_Word_width) : Fn P w K mg base g 7 "word_backward" ["word"] d_word_backward false :=
  have nd := (sc_word_backward).nd
  fn_at (k := 6) (extra := 0) false (fun n0 => (sSeq (sEx (eCall d_require_word (eCons (eVar 0) eNil))) (sRet (eCall (mkO "Word" d_Word___init__) (eCons (eUn (fPr "Word" d_Word_width) (eVar 0)) (eCons (eUn fRev (eUn (fPr "Word" d_Word_runs) (eVar 0))) eNil)))))) FA sc_word_backward rfl fun f cdv A outer s H E hr w0 => (ss_cons (s_ex (p_call F_require_word hr (by decide) (by rfl) (takes_of rfl rfl rfl rfl) rfl (eCons_len eNil_len) (a_cons (p_var (i := 0)) a_nil))) (ss_one (s_ret rfl (p_make (n := 2) MK_Word C_Word N_Word F_Word___init__ hr (by decide) (by rfl) (takes_of rfl rfl rfl rfl) (eCons_len (eCons_len eNil_len)) (a_cons (p_prop hK P_Word_width F_Word_width hr (by decide) (p_var (i := 0))) (a_cons (p_rev hK (p_prop hK P_Word_runs F_Word_runs hr (by decide) (p_var (i := 0)))) a_nil))))))
theorem sc_word_mirrored : FnScope ["word", "letter", "many"] ["word"] (defScope s_word_mirrored) := ⟨rfl, rfl, rfl, by decide +kernel, rfl, by decide +kernel, by decide +kernel⟩
theorem ok_word_mirrored (hK : g.K = K) (T : Txt mg) (FA : FunAt K mg "word_mirrored" "word_mirrored" s_word_mirrored ["word"]) {a_Word___init__ a_Word_runs a_Word_width k_Word : Addr} (F_require_word : Fn P w K mg base g 1 "require_word" ["word"] d_require_word false) (C_Word : g.cl "Word" = some k_Word) (F_Word___init__ : FnM P w K mg base g 5 a_Word___init__ 3 d_Word___init__) (F_Word_runs : FnM P w K mg base g 1 a_Word_runs 1 d_Word_runs) (F_Word_width : FnM P w K mg base g 1 a_Word_width 1 d_Word_width) (MK_Word : Mk K k_Word a_Word___init__) (N_Word : mg "Word" = some (.ref k_Word)) (P_Word_runs : PropC g "Word" "runs" a_Word_runs) (P_Word_width : PropC g "Word" "width" a_Word_width) : Fn P w K mg base g 7 "word_mirrored" ["word"] d_word_mirrored false :=
  have nd := (sc_word_mirrored).nd
  fn_at (k := 6) (extra := 2) false (fun n0 => (sSeq (sEx (eCall d_require_word (eCons (eVar 0) eNil))) (sRet (eCall (mkO "Word" d_Word___init__) (eCons (eUn (fPr "Word" d_Word_width) (eVar 0)) (eCons (eUn fTuple (eLc (itV (eUn (fPr "Word" d_Word_runs) (eVar 0))) [1, 2] (tgT (tgsCons (tgN 1) (tgsCons (tgN 2) tgsNil))) tYesD (eCall fTup (eCons (eBin fSub (eBin fSub (eUn (fPr "Word" d_Word_width) (eVar 0)) (eC (.int 1))) (eVar 1)) (eCons (eVar 2) eNil))))) eNil)))))) FA sc_word_mirrored rfl fun f cdv A outer s H E hr w0 => (ss_cons (s_ex (p_call F_require_word hr (by decide) (by rfl) (takes_of rfl rfl rfl rfl) rfl (eCons_len eNil_len) (a_cons (p_var (i := 0)) a_nil))) (ss_one (s_ret rfl (p_make (n := 2) MK_Word C_Word N_Word F_Word___init__ hr (by decide) (by rfl) (takes_of rfl rfl rfl rfl) (eCons_len (eCons_len eNil_len)) (a_cons (p_prop hK P_Word_width F_Word_width hr (by decide) (p_var (i := 0))) (a_cons (p_tuple hK (by rfl) T.n_tuple (p_lc (own := [("letter", 1), ("many", 2)]) rfl nd (i_val hK (p_prop hK P_Word_runs F_Word_runs hr (by decide) (p_var (i := 0)))) (blkOk_by (N := ["word", "letter", "many"]) (sc := defScope s_word_mirrored) (own := [("letter", 1), ("many", 2)]) (by decide +kernel)) (fun _ _ _ _ _ => (g_tup hK rfl (gs_cons (g_name (i := 1) nd rfl (by first | exact .inl rfl | exact .inr rfl)) (gs_cons (g_name (i := 2) nd rfl (by first | exact .inl rfl | exact .inr rfl)) gs_nil)) (fun _ _ _ z => tgsCons_len (fun _ _ _ z => tgsCons_len (fun _ _ _ z => tgsNil_len z) z) z))) (fun _ _ _ _ _ => ts_nil) (fun _ _ _ _ _ => (p_tup (a_cons (p_sub (p_sub (p_prop hK P_Word_width F_Word_width hr (by decide) (p_var (i := 0))) p_int) (p_var (i := 1))) (a_cons (p_var (i := 2)) a_nil)))) (by decide))) a_nil))))))
theorem sc_word_between : FnScope ["word", "low", "high", "run"] ["word", "low", "high"] (defScope s_word_between) := ⟨rfl, rfl, rfl, by decide +kernel, rfl, by decide +kernel, by decide +kernel⟩
theorem ok_word_between (hK : g.K = K) (T : Txt mg) (FA : FunAt K mg "word_between" "word_between" s_word_between ["word", "low", "high"]) {a_Word___init__ a_Word_runs a_Word_width k_Word : Addr} (F_require_within : Fn P w K mg base g 3 "require_within" ["value", "low", "most"] d_require_within false) (F_require_word : Fn P w K mg base g 1 "require_word" ["word"] d_require_word false) (C_Word : g.cl "Word" = some k_Word) (F_Word___init__ : FnM P w K mg base g 5 a_Word___init__ 3 d_Word___init__) (F_Word_runs : FnM P w K mg base g 1 a_Word_runs 1 d_Word_runs) (F_Word_width : FnM P w K mg base g 1 a_Word_width 1 d_Word_width) (MK_Word : Mk K k_Word a_Word___init__) (N_Word : mg "Word" = some (.ref k_Word)) (P_Word_runs : PropC g "Word" "runs" a_Word_runs) (P_Word_width : PropC g "Word" "width" a_Word_width) : Fn P w K mg base g 7 "word_between" ["word", "low", "high"] d_word_between false :=
  have nd := (sc_word_between).nd
  fn_at (k := 6) (extra := 1) false (fun n0 => (sSeq (sEx (eCall d_require_word (eCons (eVar 0) eNil))) (sSeq (sEx (eCall d_require_within (eCons (eVar 1) (eCons (eC (.int 0)) (eCons (eUn (fPr "Word" d_Word_width) (eVar 0)) eNil))))) (sSeq (sEx (eCall d_require_within (eCons (eVar 2) (eCons (eVar 1) (eCons (eUn (fPr "Word" d_Word_width) (eVar 0)) eNil))))) (sRet (eCall (mkO "Word" d_Word___init__) (eCons (eUn (fPr "Word" d_Word_width) (eVar 0)) (eCons (eUn fTuple (eLc (itV (eUn (fPr "Word" d_Word_runs) (eVar 0))) [3] (tgN 3) (eTest (eChain fLe fLt (eVar 1) (eBin fIx (eVar 3) (eC (.int 0))) (eVar 2))) (eVar 3))) eNil)))))))) FA sc_word_between rfl fun f cdv A outer s H E hr w0 => (ss_cons (s_ex (p_call F_require_word hr (by decide) (by rfl) (takes_of rfl rfl rfl rfl) rfl (eCons_len eNil_len) (a_cons (p_var (i := 0)) a_nil))) (ss_cons (s_ex (p_call F_require_within hr (by decide) (by rfl) (takes_of rfl rfl rfl rfl) rfl (eCons_len (eCons_len (eCons_len eNil_len))) (a_cons (p_var (i := 1)) (a_cons p_int (a_cons (p_prop hK P_Word_width F_Word_width hr (by decide) (p_var (i := 0))) a_nil))))) (ss_cons (s_ex (p_call F_require_within hr (by decide) (by rfl) (takes_of rfl rfl rfl rfl) rfl (eCons_len (eCons_len (eCons_len eNil_len))) (a_cons (p_var (i := 2)) (a_cons (p_var (i := 1)) (a_cons (p_prop hK P_Word_width F_Word_width hr (by decide) (p_var (i := 0))) a_nil))))) (ss_one (s_ret rfl (p_make (n := 2) MK_Word C_Word N_Word F_Word___init__ hr (by decide) (by rfl) (takes_of rfl rfl rfl rfl) (eCons_len (eCons_len eNil_len)) (a_cons (p_prop hK P_Word_width F_Word_width hr (by decide) (p_var (i := 0))) (a_cons (p_tuple hK (by rfl) T.n_tuple (p_lc (own := [("run", 3)]) rfl nd (i_val hK (p_prop hK P_Word_runs F_Word_runs hr (by decide) (p_var (i := 0)))) (blkOk_by (N := ["word", "low", "high", "run"]) (sc := defScope s_word_between) (own := [("run", 3)]) (by decide +kernel)) (fun _ _ _ _ _ => (g_name (i := 3) nd rfl (by first | exact .inl rfl | exact .inr rfl))) (fun _ _ _ _ _ => (ts_one (t_chLeLt (p_var (i := 1)) (p_ix hK (p_var (i := 3)) p_int) (p_var (i := 2))))) (fun _ _ _ _ _ => (p_var (i := 3))) (by decide))) a_nil))))))))
theorem sc__law_dice : FnScope ["script", "spot", "cell", "great", "seed"] ["script", "spot"] (defScope s__law_dice) := ⟨rfl, rfl, rfl, by decide +kernel, rfl, by decide +kernel, by decide +kernel⟩
theorem ok__law_dice (hK : g.K = K) (T : Txt mg) (FA : FunAt K mg "_law_dice" "_law_dice" s__law_dice ["script", "spot"])  : Fn P w K mg base g 1 "_law_dice" ["script", "spot"] d__law_dice false :=
  have nd := (sc__law_dice).nd
  fn_at (k := 0) (extra := 3) false (fun n0 => (sSeq (sAsg 2 (eIf (eBin fLt (eVar 1) (eUn fLen (eVar 0))) (eUn fInt (eBin fIx (eVar 0) (eVar 1))) (eBin fAdd (eBin fMul (eC (.int 223)) (eVar 1)) (eC (.int 109))))) (sSeq (sAsg 3 (eBin fMod (eUn fInt (eUn fAbs (eVar 2))) (eBin fPow (eBin fPow (eC (.int 10)) (eC (.int 54))) (eC (.int 6))))) (sSeq (sAsg 4 (eBin fAdd (eBin fAdd (eBin fAdd (eBin fMul (eBin fMod (eVar 3) (eC (.int 2305843009213693921))) (eC (.int 113))) (eBin fMul (eC (.int 877)) (eVar 1))) (eBin fMul (eC (.int 73)) (eUn fInt (eBin fLt (eVar 2) (eC (.int 0)))))) (eC (.int 41)))) (sRet (eCall fLst (eCons (eBin fMax2 (eC (.int 0)) (eBin fSub (eVar 3) (eBin fPow (eC (.int 10)) (eC (.int 16))))) (eCons (eVar 4) (eCons (eC (.int 0)) eNil))))))))) FA sc__law_dice rfl fun f cdv A outer s H E hr w0 => (ss_cons (s_asg (i := 2) nd rfl (by first | exact .inl rfl | exact .inr rfl) (p_if (t_lt (p_var (i := 1)) (p_len hK (by rfl) T.n_len (p_var (i := 0)))) (p_int' (by rfl) T.n_int (p_ix hK (p_var (i := 0)) (p_var (i := 1)))) (p_add hK (p_mul hK p_int (p_var (i := 1))) p_int))) (ss_cons (s_asg (i := 3) nd rfl (by first | exact .inl rfl | exact .inr rfl) (p_mod (p_int' (by rfl) T.n_int (p_abs (by rfl) T.n_abs (p_var (i := 2)))) (p_pow (p_pow p_int p_int) p_int))) (ss_cons (s_asg (i := 4) nd rfl (by first | exact .inl rfl | exact .inr rfl) (p_add hK (p_add hK (p_add hK (p_mul hK (p_mod (p_var (i := 3)) p_int) p_int) (p_mul hK p_int (p_var (i := 1)))) (p_mul hK p_int (p_int' (by rfl) T.n_int (p_lt (p_var (i := 2)) p_int)))) p_int)) (ss_one (s_ret rfl (p_lst (a_cons (p_max2 rfl (by rfl) T.n_max p_int (p_sub (p_var (i := 3)) (p_pow p_int p_int))) (a_cons (p_var (i := 4)) (a_cons p_int a_nil)))))))))
theorem ok__law_dice_N (hK : g.K = K) (T : Txt mg) (FA : FunAt K mg "_law_dice" "_law_dice" s__law_dice ["script", "spot"])  : Fn P w K mg base g 1 "_law_dice" ["script", "spot"] d__law_dice true :=
  have nd := (sc__law_dice).nd
  fn_at (k := 0) (extra := 3) true (fun n0 => (sSeq (sAsg 2 (eIf (eBin fLt (eVar 1) (eUn fLen (eVar 0))) (eUn fInt (eBin fIx (eVar 0) (eVar 1))) (eBin fAdd (eBin fMul (eC (.int 223)) (eVar 1)) (eC (.int 109))))) (sSeq (sAsg 3 (eBin fMod (eUn fInt (eUn fAbs (eVar 2))) (eBin fPow (eBin fPow (eC (.int 10)) (eC (.int 54))) (eC (.int 6))))) (sSeq (sAsg 4 (eBin fAdd (eBin fAdd (eBin fAdd (eBin fMul (eBin fMod (eVar 3) (eC (.int 2305843009213693921))) (eC (.int 113))) (eBin fMul (eC (.int 877)) (eVar 1))) (eBin fMul (eC (.int 73)) (eUn fInt (eBin fLt (eVar 2) (eC (.int 0)))))) (eC (.int 41)))) (sRet (eCall fLst (eCons (eBin fMax2 (eC (.int 0)) (eBin fSub (eVar 3) (eBin fPow (eC (.int 10)) (eC (.int 16))))) (eCons (eVar 4) (eCons (eC (.int 0)) eNil))))))))) FA sc__law_dice rfl fun f cdv A outer s H E hr w0 => (ss_cons (s_asg (i := 2) nd rfl (by first | exact .inl rfl | exact .inr rfl) (p_if (t_lt (p_var (i := 1)) (p_len hK (by rfl) T.n_len (p_var (i := 0)))) (p_int' (by rfl) T.n_int (p_ix hK (p_var (i := 0)) (p_var (i := 1)))) (p_add hK (p_mul hK p_int (p_var (i := 1))) p_int))) (ss_cons (s_asg (i := 3) nd rfl (by first | exact .inl rfl | exact .inr rfl) (p_mod (p_int' (by rfl) T.n_int (p_abs (by rfl) T.n_abs (p_var (i := 2)))) (p_pow (p_pow p_int p_int) p_int))) (ss_cons (s_asg (i := 4) nd rfl (by first | exact .inl rfl | exact .inr rfl) (p_add hK (p_add hK (p_add hK (p_mul hK (p_mod (p_var (i := 3)) p_int) p_int) (p_mul hK p_int (p_var (i := 1)))) (p_mul hK p_int (p_int' (by rfl) T.n_int (p_lt (p_var (i := 2)) p_int)))) p_int)) (ss_one (s_retNew rfl (p_lstN (a_cons (p_max2 rfl (by rfl) T.n_max p_int (p_sub (p_var (i := 3)) (p_pow p_int p_int))) (a_cons (p_var (i := 4)) (a_cons p_int a_nil)))))))))
theorem sc__law_roll : FnScope ["dice", "total", "one", "two", "found"] ["dice", "total"] (defScope s__law_roll) := ⟨rfl, rfl, rfl, by decide +kernel, rfl, by decide +kernel, by decide +kernel⟩
theorem ok__law_roll (hK : g.K = K) (T : Txt mg) (FA : FunAt K mg "_law_roll" "_law_roll" s__law_roll ["dice", "total"])  : Fn P w K mg base g 1 "_law_roll" ["dice", "total"] d__law_roll false :=
  have nd := (sc__law_roll).nd
  fn_at (k := 0) (extra := 3) false (fun n0 => (sSeq (sIf (eBin fGt (eBin fIx (eVar 0) (eC (.int 0))) (eC (.int 0))) (sSeq (sAsg 4 (eBin fMod (eBin fIx (eVar 0) (eC (.int 0))) (eVar 1))) (sSeq (sSet (eVar 0) (eC (.int 0)) (eBin fDiv (eBin fIx (eVar 0) (eC (.int 0))) (eVar 1))) (sRet (eUn fInt (eVar 4))))) sNil) (sSeq (sSet (eVar 0) (eC (.int 2)) (eBin fAdd (eBin fIx (eVar 0) (eC (.int 2))) (eC (.int 1)))) (sSeq (sAsg 2 (eBin fMod (eBin fAdd (eBin fIx (eVar 0) (eC (.int 1))) (eBin fMul (eC (.int 86028157)) (eBin fIx (eVar 0) (eC (.int 2))))) (eC (.int 2305843009213693951)))) (sSeq (sAsg 3 (eBin fAdd (eBin fMul (eBin fMod (eBin fAdd (eBin fMul (eVar 2) (eVar 2)) (eBin fMul (eC (.int 233)) (eBin fIx (eVar 0) (eC (.int 2))))) (eC (.int 2305843009213693907))) (eC (.int 15485867))) (eVar 2))) (sRet (eBin fMod (eUn fInt (eBin fDiv (eVar 3) (eC (.int 65579)))) (eVar 1)))))))) FA sc__law_roll rfl fun f cdv A outer s H E hr w0 => (ss_cons (s_if (t_gt (p_ix hK (p_var (i := 0)) p_int) p_int) (ss_cons (s_asg (i := 4) nd rfl (by first | exact .inl rfl | exact .inr rfl) (p_mod (p_ix hK (p_var (i := 0)) p_int) (p_var (i := 1)))) (ss_cons (s_set (p_var (i := 0)) p_int (p_div (p_ix hK (p_var (i := 0)) p_int) (p_var (i := 1)))) (ss_one (s_ret rfl (p_int' (by rfl) T.n_int (p_var (i := 4))))))) ss_nil) (ss_cons (s_set (p_var (i := 0)) p_int (p_add hK (p_ix hK (p_var (i := 0)) p_int) p_int)) (ss_cons (s_asg (i := 2) nd rfl (by first | exact .inl rfl | exact .inr rfl) (p_mod (p_add hK (p_ix hK (p_var (i := 0)) p_int) (p_mul hK p_int (p_ix hK (p_var (i := 0)) p_int))) p_int)) (ss_cons (s_asg (i := 3) nd rfl (by first | exact .inl rfl | exact .inr rfl) (p_add hK (p_mul hK (p_mod (p_add hK (p_mul hK (p_var (i := 2)) (p_var (i := 2))) (p_mul hK p_int (p_ix hK (p_var (i := 0)) p_int))) p_int) p_int) (p_var (i := 2)))) (ss_one (s_ret rfl (p_mod (p_int' (by rfl) T.n_int (p_div (p_var (i := 3)) p_int)) (p_var (i := 1)))))))))
theorem sc__law_far : FnScope ["dice", "total", "found", "left"] ["dice", "total"] (defScope s__law_far) := ⟨rfl, rfl, rfl, by decide +kernel, rfl, by decide +kernel, by decide +kernel⟩
theorem ok__law_far (hK : g.K = K) (T : Txt mg) (FA : FunAt K mg "_law_far" "_law_far" s__law_far ["dice", "total"]) (F__law_roll : Fn P w K mg base g 1 "_law_roll" ["dice", "total"] d__law_roll false) : Fn P w K mg base g 2 "_law_far" ["dice", "total"] d__law_far false :=
  have nd := (sc__law_far).nd
  fn_at (k := 1) (extra := 2) false (fun n0 => (sSeq (sPar 2 3 (eC (.int 0)) (eVar 1)) (sSeq (whD (eBin fGt (eVar 3) (eC (.int 1))) (sPar 2 3 (eBin fAdd (eBin fMul (eVar 2) (eBin fPow (eC (.int 10)) (eC (.int 18)))) (eCall d__law_roll (eCons (eVar 0) (eCons (eBin fPow (eC (.int 10)) (eC (.int 18))) eNil)))) (eBin fDiv (eVar 3) (eBin fPow (eC (.int 10)) (eC (.int 18))))) fuel) (sRet (eBin fMod (eVar 2) (eVar 1)))))) FA sc__law_far rfl fun f cdv A outer s H E hr w0 => (ss_cons (s_par (i := 2) (j := 3) rfl nd rfl rfl (by decide) rfl rfl p_int (p_var (i := 1)) (by rfl)) (ss_cons (s_while fuel (passes_of rfl) (t_gt (p_var (i := 3)) p_int) (ss_one (s_par (i := 2) (j := 3) rfl nd rfl rfl (by decide) rfl rfl (p_add hK (p_mul hK (p_var (i := 2)) (p_pow p_int p_int)) (p_call F__law_roll hr (by decide) (by rfl) (takes_of rfl rfl rfl rfl) rfl (eCons_len (eCons_len eNil_len)) (a_cons (p_var (i := 0)) (a_cons (p_pow p_int p_int) a_nil)))) (p_div (p_var (i := 3)) (p_pow p_int p_int)) (by rfl)))) (ss_one (s_ret rfl (p_mod (p_var (i := 2)) (p_var (i := 1)))))))
theorem sc__law_pick : FnScope ["dice", "items"] ["dice", "items"] (defScope s__law_pick) := ⟨rfl, rfl, rfl, by decide +kernel, rfl, by decide +kernel, by decide +kernel⟩
theorem ok__law_pick (hK : g.K = K) (T : Txt mg) (FA : FunAt K mg "_law_pick" "_law_pick" s__law_pick ["dice", "items"]) (F__law_roll : Fn P w K mg base g 1 "_law_roll" ["dice", "total"] d__law_roll false) : Fn P w K mg base g 2 "_law_pick" ["dice", "items"] d__law_pick false :=
  have nd := (sc__law_pick).nd
  fn_at (k := 1) (extra := 0) false (fun n0 => (sRet (eBin fIx (eVar 1) (eCall d__law_roll (eCons (eVar 0) (eCons (eUn fLen (eVar 1)) eNil)))))) FA sc__law_pick rfl fun f cdv A outer s H E hr w0 => (ss_one (s_ret rfl (p_ix hK (p_var (i := 1)) (p_call F__law_roll hr (by decide) (by rfl) (takes_of rfl rfl rfl rfl) rfl (eCons_len (eCons_len eNil_len)) (a_cons (p_var (i := 0)) (a_cons (p_len hK (by rfl) T.n_len (p_var (i := 1))) a_nil))))))
theorem sc__law_leaned : FnScope ["runs", "found", "letter", "many"] ["runs"] (defScope s__law_leaned) := ⟨rfl, rfl, rfl, by decide +kernel, rfl, by decide +kernel, by decide +kernel⟩
theorem ok__law_leaned (hK : g.K = K) (T : Txt mg) (FA : FunAt K mg "_law_leaned" "_law_leaned" s__law_leaned ["runs"])  : Fn P w K mg base g 1 "_law_leaned" ["runs"] d__law_leaned false :=
  have nd := (sc__law_leaned).nd
  fn_at (k := 0) (extra := 3) false (fun n0 => (sSeq (sNew 1 (eCall fLst eNil)) (sSeq (sFor (itV (eVar 0)) (tgT (tgsCons (tgN 2) (tgsCons (tgN 3) tgsNil))) (sIf (eAnd (eBin fNe (eVar 1) (eCall fLst eNil)) (eBin fEq (eBin fIx (eBin fIx (eVar 1) (eUn fNeg (eC (.int 1)))) (eC (.int 0))) (eVar 2))) (sSet (eVar 1) (eUn fNeg (eC (.int 1))) (eCall fTup (eCons (eVar 2) (eCons (eBin fAdd (eBin fIx (eBin fIx (eVar 1) (eUn fNeg (eC (.int 1)))) (eC (.int 1))) (eVar 3)) eNil)))) (sIf (eBin fGt (eVar 3) (eC (.int 0))) (sEx (eApp (eVar 1) (eCall fTup (eCons (eVar 2) (eCons (eVar 3) eNil))))) sNil))) (sSeq (sFrz n0 1) (sRet (eUn fTuple (eVar 1))))))) FA sc__law_leaned rfl fun f cdv A outer s H E hr w0 => (ss_cons (s_new (i := 1) nd rfl (by first | exact .inl rfl | exact .inr rfl) (p_lstN a_nil)) (ss_cons (s_for' (passes_of rfl) rfl (i_val hK (p_var (i := 0))) (g_tup hK rfl (gs_cons (g_name (i := 2) nd rfl (by first | exact .inl rfl | exact .inr rfl)) (gs_cons (g_name (i := 3) nd rfl (by first | exact .inl rfl | exact .inr rfl)) gs_nil)) (fun _ _ _ z => tgsCons_len (fun _ _ _ z => tgsCons_len (fun _ _ _ z => tgsNil_len z) z) z)) (ss_one (s_if (PW.pt (pw_and' (t_ne hK hr (p_var (i := 1)) (p_lst a_nil)) (pw_and1' (t_eq hK hr (p_ix hK (p_ix hK (p_var (i := 1)) (p_neg p_int)) p_int) (p_var (i := 2)))))) (ss_one (s_set (p_var (i := 1)) (p_neg p_int) (p_tup (a_cons (p_var (i := 2)) (a_cons (p_add hK (p_ix hK (p_ix hK (p_var (i := 1)) (p_neg p_int)) p_int) (p_var (i := 3))) a_nil))))) (ss_one (s_if (t_gt (p_var (i := 3)) p_int) (ss_one (s_ex (p_app hK (p_var (i := 1)) (p_tup (a_cons (p_var (i := 2)) (a_cons (p_var (i := 3)) a_nil)))))) ss_nil))))) (ss_frz rfl (ss_one (s_ret rfl (p_tuple hK (by rfl) T.n_tuple (p_var (i := 1))))))))
theorem sc__law_part : FnScope ["runs", "start", "many", "found", "here", "letter", "size", "low", "high"] ["runs", "start", "many"] (defScope s__law_part) := ⟨rfl, rfl, rfl, by decide +kernel, rfl, by decide +kernel, by decide +kernel⟩
theorem ok__law_part (hK : g.K = K) (T : Txt mg) (FA : FunAt K mg "_law_part" "_law_part" s__law_part ["runs", "start", "many"]) (F__law_leaned : Fn P w K mg base g 1 "_law_leaned" ["runs"] d__law_leaned false) : Fn P w K mg base g 2 "_law_part" ["runs", "start", "many"] d__law_part false :=
  have nd := (sc__law_part).nd
  fn_at (k := 1) (extra := 6) false (fun n0 => (sSeq (sSeq (sNew 3 (eCall fLst eNil)) (sAsg 4 (eC (.int 0)))) (sSeq (sFor (itV (eVar 0)) (tgT (tgsCons (tgN 5) (tgsCons (tgN 6) tgsNil))) (sSeq (sPar 7 8 (eBin fMax2 (eVar 1) (eVar 4)) (eBin fMin2 (eBin fAdd (eVar 1) (eVar 2)) (eBin fAdd (eVar 4) (eVar 6)))) (sSeq (sIf (eBin fLt (eVar 7) (eVar 8)) (sEx (eApp (eVar 3) (eCall fTup (eCons (eVar 5) (eCons (eBin fSub (eVar 8) (eVar 7)) eNil))))) sNil) (sAsg 4 (eBin fAdd (eVar 4) (eVar 6)))))) (sSeq (sFrz n0 3) (sRet (eCall d__law_leaned (eCons (eVar 3) eNil))))))) FA sc__law_part rfl fun f cdv A outer s H E hr w0 => (ss_cons (s_parN (i := 3) (j := 4) rfl nd rfl rfl (by decide) rfl rfl (p_lstN a_nil) pe_int (fun _ _ => .int _) (by rfl)) (ss_cons (s_for' (passes_of rfl) rfl (i_val hK (p_var (i := 0))) (g_tup hK rfl (gs_cons (g_name (i := 5) nd rfl (by first | exact .inl rfl | exact .inr rfl)) (gs_cons (g_name (i := 6) nd rfl (by first | exact .inl rfl | exact .inr rfl)) gs_nil)) (fun _ _ _ z => tgsCons_len (fun _ _ _ z => tgsCons_len (fun _ _ _ z => tgsNil_len z) z) z)) (ss_cons (s_par (i := 7) (j := 8) rfl nd rfl rfl (by decide) rfl rfl (p_max2 rfl (by rfl) T.n_max (p_var (i := 1)) (p_var (i := 4))) (p_min2 rfl (by rfl) T.n_min (p_add hK (p_var (i := 1)) (p_var (i := 2))) (p_add hK (p_var (i := 4)) (p_var (i := 6)))) (by rfl)) (ss_cons (s_if (t_lt (p_var (i := 7)) (p_var (i := 8))) (ss_one (s_ex (p_app hK (p_var (i := 3)) (p_tup (a_cons (p_var (i := 5)) (a_cons (p_sub (p_var (i := 8)) (p_var (i := 7))) a_nil)))))) ss_nil) (ss_one (s_asg (i := 4) nd rfl (by first | exact .inl rfl | exact .inr rfl) (p_add hK (p_var (i := 4)) (p_var (i := 6)))))))) (ss_frz rfl (ss_one (s_ret rfl (p_call F__law_leaned hr (by decide) (by rfl) (takes_of rfl rfl rfl rfl) rfl (eCons_len eNil_len) (a_cons (p_var (i := 3)) a_nil)))))))
theorem sc_Word___eq__ : FnScope ["self", "other"] ["self", "other"] (defScope s_Word___eq__) := ⟨rfl, rfl, rfl, by decide +kernel, rfl, by decide +kernel, by decide +kernel⟩
theorem ok_Word___eq__ (hK : g.K = K) (T : Txt mg) {a_Word___eq__ : Addr} (FA : FunM K "__eq__" "Word.__eq__" s_Word___eq__ ["self", "other"] a_Word___eq__) {k_Word : Addr} (I_Word : IsiC g k_Word rel_Word) (N_Word : mg "Word" = some (.ref k_Word)) (S_Word_own_runs : SlotC g "Word" "own_runs" 0) (S_Word_own_width : SlotC g "Word" "own_width" 1) : FnM P w K mg base g 1 a_Word___eq__ 2 d_Word___eq__ :=
  have nd := (sc_Word___eq__).nd
  fn_atM (k := 0) (extra := 0) (fun n0 => (sRet (eAnd (eUn (fIsiO rel_Word) (eVar 1)) (eBin fEq (eCall fTup (eCons (eUn (fFld "Word" 1) (eVar 0)) (eCons (eUn (fFld "Word" 0) (eVar 0)) eNil))) (eCall fTup (eCons (eUn (fFld "Word" 1) (eVar 1)) (eCons (eUn (fFld "Word" 0) (eVar 1)) eNil))))))) FA sc_Word___eq__ rfl rfl fun f cdv A outer s H E hr w0 => (ss_one (s_ret rfl (p_and (p_isiO hK I_Word (by rfl) T.n_isinstance (by rfl) N_Word (p_var (i := 1))) (p_and1 (p_eq hK hr (p_tup (a_cons (p_fld hK S_Word_own_width (p_var (i := 0))) (a_cons (p_fld hK S_Word_own_runs (p_var (i := 0))) a_nil))) (p_tup (a_cons (p_fld hK S_Word_own_width (p_var (i := 1))) (a_cons (p_fld hK S_Word_own_runs (p_var (i := 1))) a_nil))))))))
theorem sc_Word___ne__ : FnScope ["self", "other"] ["self", "other"] (defScope s_Word___ne__) := ⟨rfl, rfl, rfl, by decide +kernel, rfl, by decide +kernel, by decide +kernel⟩
theorem ok_Word___ne__ (hK : g.K = K) (T : Txt mg) {a_Word___ne__ : Addr} (FA : FunM K "__ne__" "Word.__ne__" s_Word___ne__ ["self", "other"] a_Word___ne__) {a_Word___eq__ : Addr} (F_Word___eq__ : FnM P w K mg base g 1 a_Word___eq__ 2 d_Word___eq__) (O_Word___eq__ : OwnM g "Word" .Eq a_Word___eq__) : FnM P w K mg base g 2 a_Word___ne__ 2 d_Word___ne__ :=
  have nd := (sc_Word___ne__).nd
  fn_atM (k := 1) (extra := 0) (fun n0 => (sRet (eNot (eBin (fCmpM "Word" d_Word___eq__ fEq) (eVar 0) (eVar 1))))) FA sc_Word___ne__ rfl rfl fun f cdv A outer s H E hr w0 => (ss_one (s_ret rfl (p_not (p_eqM hK O_Word___eq__ F_Word___eq__ hr (by decide) (p_var (i := 0)) (p_var (i := 1))))))
theorem sc_Word_counts : FnScope ["self"] ["self"] (defScope s_Word_counts) := ⟨rfl, rfl, rfl, by decide +kernel, rfl, by decide +kernel, by decide +kernel⟩
theorem ok_Word_counts (hK : g.K = K) (T : Txt mg) {a_Word_counts : Addr} (FA : FunM K "counts" "Word.counts" s_Word_counts ["self"] a_Word_counts) (F_counts_of : Fn P w K mg base g 1 "counts_of" ["width", "runs"] d_counts_of false) (S_Word_own_runs : SlotC g "Word" "own_runs" 0) (S_Word_own_width : SlotC g "Word" "own_width" 1) : FnM P w K mg base g 2 a_Word_counts 1 d_Word_counts :=
  have nd := (sc_Word_counts).nd
  fn_atM (k := 1) (extra := 0) (fun n0 => (sRet (eUn fTuple (eCall d_counts_of (eCons (eUn (fFld "Word" 1) (eVar 0)) (eCons (eUn (fFld "Word" 0) (eVar 0)) eNil)))))) FA sc_Word_counts rfl rfl fun f cdv A outer s H E hr w0 => (ss_one (s_ret rfl (p_tuple hK (by rfl) T.n_tuple (p_call F_counts_of hr (by decide) (by rfl) (takes_of rfl rfl rfl rfl) rfl (eCons_len (eCons_len eNil_len)) (a_cons (p_fld hK S_Word_own_width (p_var (i := 0))) (a_cons (p_fld hK S_Word_own_runs (p_var (i := 0))) a_nil))))))
theorem sc_Word_letter : FnScope ["self", "place"] ["self", "place"] (defScope s_Word_letter) := ⟨rfl, rfl, rfl, by decide +kernel, rfl, by decide +kernel, by decide +kernel⟩
theorem ok_Word_letter (hK : g.K = K) (T : Txt mg) {a_Word_letter : Addr} (FA : FunM K "letter" "Word.letter" s_Word_letter ["self", "place"] a_Word_letter) {a_Word_length : Addr} (F_part_of : Fn P w K mg base g 1 "part_of" ["runs", "first", "many"] d_part_of false) (F_require_within : Fn P w K mg base g 3 "require_within" ["value", "low", "most"] d_require_within false) (F_Word_length : FnM P w K mg base g 1 a_Word_length 1 d_Word_length) (P_Word_length : PropC g "Word" "length" a_Word_length) (S_Word_own_runs : SlotC g "Word" "own_runs" 0) : FnM P w K mg base g 4 a_Word_letter 2 d_Word_letter :=
  have nd := (sc_Word_letter).nd
  fn_atM (k := 3) (extra := 0) (fun n0 => (sSeq (sEx (eCall d_require_within (eCons (eVar 1) (eCons (eC (.int 0)) (eCons (eBin fSub (eUn (fPr "Word" d_Word_length) (eVar 0)) (eC (.int 1))) eNil))))) (sRet (eBin fIx (eBin fIx (eCall d_part_of (eCons (eUn (fFld "Word" 0) (eVar 0)) (eCons (eVar 1) (eCons (eC (.int 1)) eNil)))) (eC (.int 0))) (eC (.int 0)))))) FA sc_Word_letter rfl rfl fun f cdv A outer s H E hr w0 => (ss_cons (s_ex (p_call F_require_within hr (by decide) (by rfl) (takes_of rfl rfl rfl rfl) rfl (eCons_len (eCons_len (eCons_len eNil_len))) (a_cons (p_var (i := 1)) (a_cons p_int (a_cons (p_sub (p_prop hK P_Word_length F_Word_length hr (by decide) (p_var (i := 0))) p_int) a_nil))))) (ss_one (s_ret rfl (p_ix hK (p_ix hK (p_call F_part_of hr (by decide) (by rfl) (takes_of rfl rfl rfl rfl) rfl (eCons_len (eCons_len (eCons_len eNil_len))) (a_cons (p_fld hK S_Word_own_runs (p_var (i := 0))) (a_cons (p_var (i := 1)) (a_cons p_int a_nil)))) p_int) p_int))))
theorem sc__law_right : FnScope ["dice", "width", "runs", "due", "counts", "turn", "start", "low", "picked", "told", "word", "whole", "place", "many", "ahead", "behind", "letter", "times", "run", "one"] ["dice"] (defScope s__law_right) := ⟨rfl, rfl, rfl, by decide +kernel, rfl, by decide +kernel, by decide +kernel⟩
theorem ok__law_right (hK : g.K = K) (T : Txt mg) (FA : FunAt K mg "_law_right" "_law_right" s__law_right ["dice"]) {a_Word___init__ a_Word___ne__ a_Word_counts a_Word_length a_Word_letter a_Word_runs k_Word : Addr} (F__law_far : Fn P w K mg base g 2 "_law_far" ["dice", "total"] d__law_far false) (F__law_leaned : Fn P w K mg base g 1 "_law_leaned" ["runs"] d__law_leaned false) (F__law_part : Fn P w K mg base g 2 "_law_part" ["runs", "start", "many"] d__law_part false) (F__law_pick : Fn P w K mg base g 2 "_law_pick" ["dice", "items"] d__law_pick false) (F__law_roll : Fn P w K mg base g 1 "_law_roll" ["dice", "total"] d__law_roll false) (F_word_backward : Fn P w K mg base g 7 "word_backward" ["word"] d_word_backward false) (F_word_between : Fn P w K mg base g 7 "word_between" ["word", "low", "high"] d_word_between false) (F_word_joined : Fn P w K mg base g 9 "word_joined" ["one", "other"] d_word_joined false) (F_word_mirrored : Fn P w K mg base g 7 "word_mirrored" ["word"] d_word_mirrored false) (F_word_part : Fn P w K mg base g 7 "word_part" ["word", "first", "many"] d_word_part false) (F_word_repeated : Fn P w K mg base g 9 "word_repeated" ["word", "times"] d_word_repeated false) (C_Word : g.cl "Word" = some k_Word) (F_Word___init__ : FnM P w K mg base g 5 a_Word___init__ 3 d_Word___init__) (F_Word___ne__ : FnM P w K mg base g 2 a_Word___ne__ 2 d_Word___ne__) (F_Word_counts : FnM P w K mg base g 2 a_Word_counts 1 d_Word_counts) (F_Word_length : FnM P w K mg base g 1 a_Word_length 1 d_Word_length) (F_Word_letter : FnM P w K mg base g 4 a_Word_letter 2 d_Word_letter) (F_Word_runs : FnM P w K mg base g 1 a_Word_runs 1 d_Word_runs) (MK_Word : Mk K k_Word a_Word___init__) (M_Word_letter : MethC g "Word" "letter" a_Word_letter) (N_Word : mg "Word" = some (.ref k_Word)) (O_Word___ne__ : OwnM g "Word" .NotEq a_Word___ne__) (P_Word_counts : PropC g "Word" "counts" a_Word_counts) (P_Word_length : PropC g "Word" "length" a_Word_length) (P_Word_runs : PropC g "Word" "runs" a_Word_runs) : Fn P w K mg base g 10 "_law_right" ["dice"] d__law_right false :=
  have nd := (sc__law_right).nd
  fn_at (k := 9) (extra := 19) false (fun n0 => (sSeq (sAsg 1 (eBin fAdd (eC (.int 1)) (eCall d__law_roll (eCons (eVar 0) (eCons (eC (.int 8)) eNil))))) (sSeq (sAsg 2 (eLc (itR1 (eCall d__law_roll (eCons (eVar 0) (eCons (eC (.int 13)) eNil)))) [5] (tgN 5) tYesD (eCall fTup (eCons (eCall d__law_roll (eCons (eVar 0) (eCons (eVar 1) eNil))) (eCons (eBin fAdd (eC (.int 1)) (eCall d__law_far (eCons (eVar 0) (eCons (eCall d__law_pick (eCons (eVar 0) (eCons (eCall fLst (eCons (eC (.int 3)) (eCons (eBin fPow (eC (.int 10)) (eC (.int 30))) (eCons (eBin fPow (eC (.int 10)) (eC (.int 60))) eNil)))) eNil))) eNil)))) eNil))))) (sSeq (sPar 10 11 (eCall (mkO "Word" d_Word___init__) (eCons (eVar 1) (eCons (eUn fTuple (eVar 2)) eNil))) (eUn fSum (eLc (itV (eVar 2)) [16, 13] (tgT (tgsCons (tgN 16) (tgsCons (tgN 13) tgsNil))) tYesD (eVar 13)))) (sSeq (sAsg 3 (eCall d__law_leaned (eCons (eVar 2) eNil))) (sSeq (sAsg 4 (eLc (itR1 (eVar 1)) [16] (tgN 16) tYesD (eUn fSum (eLc (itV (eVar 2)) [19, 13] (tgT (tgsCons (tgN 19) (tgsCons (tgN 13) tgsNil))) (eTest (eBin fEq (eVar 19) (eVar 16))) (eVar 13))))) (sSeq (sIf (eBin fNe (eCall fTup (eCons (eUn (fPr "Word" d_Word_runs) (eVar 10)) (eCons (eUn (fPr "Word" d_Word_length) (eVar 10)) (eCons (eUn (fPr "Word" d_Word_counts) (eVar 10)) eNil)))) (eCall fTup (eCons (eVar 3) (eCons (eVar 11) (eCons (eUn fTuple (eVar 4)) eNil))))) (sRet (eC (.bl false))) sNil) (sSeq (sFor (itR1 (eIf (eBin fGt (eVar 11) (eC (.int 0))) (eC (.int 4)) (eC (.int 0)))) (tgN 5) (sSeq (sAsg 12 (eCall d__law_far (eCons (eVar 0) (eCons (eVar 11) eNil)))) (sSeq (sIf (eBin fNe (eMeth "Word" d_Word_letter (eVar 10) (eCons (eVar 12) eNil)) (eBin fIx (eBin fIx (eCall d__law_part (eCons (eVar 3) (eCons (eVar 12) (eCons (eC (.int 1)) eNil)))) (eC (.int 0))) (eC (.int 0)))) (sRet (eC (.bl false))) sNil) (sSeq (sAsg 13 (eCall d__law_far (eCons (eVar 0) (eCons (eBin fAdd (eBin fSub (eVar 11) (eVar 12)) (eC (.int 1))) eNil)))) (sIf (eBin fNe (eUn (fPr "Word" d_Word_runs) (eCall d_word_part (eCons (eVar 10) (eCons (eVar 12) (eCons (eVar 13) eNil))))) (eCall d__law_part (eCons (eVar 3) (eCons (eVar 12) (eCons (eVar 13) eNil))))) (sRet (eC (.bl false))) sNil))))) (sSeq (sAsg 6 (eCall d__law_far (eCons (eVar 0) (eCons (eBin fAdd (eVar 11) (eC (.int 1))) eNil)))) (sSeq (sPar 14 15 (eCall d_word_part (eCons (eVar 10) (eCons (eC (.int 0)) (eCons (eVar 6) eNil)))) (eCall d_word_part (eCons (eVar 10) (eCons (eVar 6) (eCons (eBin fSub (eVar 11) (eVar 6)) eNil))))) (sSeq (sIf (eOr (eBin (fCmpM "Word" d_Word___ne__ fNe) (eCall d_word_joined (eCons (eVar 14) (eCons (eVar 15) eNil))) (eVar 10)) (eBin fNe (eUn (fPr "Word" d_Word_runs) (eCall d_word_joined (eCons (eVar 15) (eCons (eVar 14) eNil)))) (eCall d__law_leaned (eCons (eBin fAdd (eUn (fPr "Word" d_Word_runs) (eVar 15)) (eUn (fPr "Word" d_Word_runs) (eVar 14))) eNil)))) (sRet (eC (.bl false))) sNil) (sSeq (sIf (eOr (eBin fNe (eUn (fPr "Word" d_Word_runs) (eCall d_word_repeated (eCons (eVar 10) (eCons (eC (.int 3)) eNil)))) (eCall d__law_leaned (eCons (eBin fMul (eVar 3) (eC (.int 3))) eNil))) (eBin fNe (eUn (fPr "Word" d_Word_runs) (eCall d_word_backward (eCons (eVar 10) eNil))) (eUn fRev (eVar 3)))) (sRet (eC (.bl false))) sNil) (sSeq (sIf (eBin fNe (eUn (fPr "Word" d_Word_runs) (eCall d_word_mirrored (eCons (eVar 10) eNil))) (eUn fTuple (eLc (itV (eVar 3)) [16, 13] (tgT (tgsCons (tgN 16) (tgsCons (tgN 13) tgsNil))) tYesD (eCall fTup (eCons (eBin fSub (eBin fSub (eVar 1) (eC (.int 1))) (eVar 16)) (eCons (eVar 13) eNil)))))) (sRet (eC (.bl false))) sNil) (sSeq (sAsg 7 (eCall d__law_roll (eCons (eVar 0) (eCons (eBin fAdd (eVar 1) (eC (.int 1))) eNil)))) (sSeq (sAsg 8 (eCall d__law_leaned (eCons (eLc (itV (eVar 3)) [18] (tgN 18) (eTest (eBin fGe (eBin fIx (eVar 18) (eC (.int 0))) (eVar 7))) (eVar 18)) eNil))) (sSeq (sIf (eBin fNe (eUn (fPr "Word" d_Word_runs) (eCall d_word_between (eCons (eVar 10) (eCons (eVar 7) (eCons (eVar 1) eNil))))) (eVar 8)) (sRet (eC (.bl false))) sNil) (sSeq (sPar3 16 13 17 (eCall d__law_roll (eCons (eVar 0) (eCons (eVar 1) eNil))) (eBin fAdd (eC (.int 1)) (eCall d__law_far (eCons (eVar 0) (eCons (eBin fPow (eC (.int 10)) (eC (.int 30))) eNil)))) (eCall d__law_far (eCons (eVar 0) (eCons (eBin fPow (eC (.int 10)) (eC (.int 33))) eNil)))) (sSeq (sAsg 9 (eCall d_word_repeated (eCons (eCall (mkO "Word" d_Word___init__) (eCons (eVar 1) (eCons (eCall fTup (eCons (eCall fTup (eCons (eVar 16) (eCons (eVar 13) eNil))) eNil)) eNil))) (eCons (eVar 17) eNil)))) (sRet (eBin fEq (eUn (fPr "Word" d_Word_runs) (eVar 9)) (eCall d__law_leaned (eCons (eCall fLst (eCons (eCall fTup (eCons (eVar 16) (eCons (eBin fMul (eVar 13) (eVar 17)) eNil))) eNil)) eNil)))))))))))))))))))))) FA sc__law_right rfl fun f cdv A outer s H E hr w0 => (ss_cons (s_asg (i := 1) nd rfl (by first | exact .inl rfl | exact .inr rfl) (p_add hK p_int (p_call F__law_roll hr (by decide) (by rfl) (takes_of rfl rfl rfl rfl) rfl (eCons_len (eCons_len eNil_len)) (a_cons (p_var (i := 0)) (a_cons p_int a_nil))))) (ss_cons (s_asg (i := 2) nd rfl (by first | exact .inl rfl | exact .inr rfl) (p_lc (own := [("turn", 5)]) rfl nd (i_range1 (by rfl) T.n_range (p_call F__law_roll hr (by decide) (by rfl) (takes_of rfl rfl rfl rfl) rfl (eCons_len (eCons_len eNil_len)) (a_cons (p_var (i := 0)) (a_cons p_int a_nil)))) (blkOk_by (N := ["dice", "width", "runs", "due", "counts", "turn", "start", "low", "picked", "told", "word", "whole", "place", "many", "ahead", "behind", "letter", "times", "run", "one"]) (sc := defScope s__law_right) (own := [("turn", 5)]) (by decide +kernel)) (fun _ _ _ _ _ => (g_name (i := 5) nd rfl (by first | exact .inl rfl | exact .inr rfl))) (fun _ _ _ _ _ => ts_nil) (fun _ _ _ _ _ => (p_tup (a_cons (p_call F__law_roll hr (by decide) (by rfl) takes0 rfl (eCons_len (eCons_len eNil_len)) (a_cons (p_var (i := 0)) (a_cons (p_var (i := 1)) a_nil))) (a_cons (p_add hK p_int (p_call F__law_far hr (by decide) (by rfl) takes0 rfl (eCons_len (eCons_len eNil_len)) (a_cons (p_var (i := 0)) (a_cons (p_call F__law_pick hr (by decide) (by rfl) takes0 rfl (eCons_len (eCons_len eNil_len)) (a_cons (p_var (i := 0)) (a_cons (p_lst (a_cons p_int (a_cons (p_pow p_int p_int) (a_cons (p_pow p_int p_int) a_nil)))) a_nil))) a_nil)))) a_nil)))) (by decide))) (ss_cons (s_par (i := 10) (j := 11) rfl nd rfl rfl (by decide) rfl rfl (p_make (n := 2) MK_Word C_Word N_Word F_Word___init__ hr (by decide) (by rfl) (takes_of rfl rfl rfl rfl) (eCons_len (eCons_len eNil_len)) (a_cons (p_var (i := 1)) (a_cons (p_tuple hK (by rfl) T.n_tuple (p_var (i := 2))) a_nil))) (p_sum hK rfl (by rfl) T.n_sum (p_lc (own := [("letter", 16), ("many", 13)]) rfl nd (i_val hK (p_var (i := 2))) (blkOk_by (N := ["dice", "width", "runs", "due", "counts", "turn", "start", "low", "picked", "told", "word", "whole", "place", "many", "ahead", "behind", "letter", "times", "run", "one"]) (sc := defScope s__law_right) (own := [("letter", 16), ("many", 13)]) (by decide +kernel)) (fun _ _ _ _ _ => (g_tup hK rfl (gs_cons (g_name (i := 16) nd rfl (by first | exact .inl rfl | exact .inr rfl)) (gs_cons (g_name (i := 13) nd rfl (by first | exact .inl rfl | exact .inr rfl)) gs_nil)) (fun _ _ _ z => tgsCons_len (fun _ _ _ z => tgsCons_len (fun _ _ _ z => tgsNil_len z) z) z))) (fun _ _ _ _ _ => ts_nil) (fun _ _ _ _ _ => (p_var (i := 13))) (by decide))) (by rfl)) (ss_cons (s_asg (i := 3) nd rfl (by first | exact .inl rfl | exact .inr rfl) (p_call F__law_leaned hr (by decide) (by rfl) (takes_of rfl rfl rfl rfl) rfl (eCons_len eNil_len) (a_cons (p_var (i := 2)) a_nil))) (ss_cons (s_asgLc (i := 4) (own := [("letter", 16)]) rfl nd rfl rfl (sw_true rfl rfl rfl (by decide +kernel)) (i_range1 (by rfl) T.n_range (p_var (i := 1))) (blkOk_by (N := ["dice", "width", "runs", "due", "counts", "turn", "start", "low", "picked", "told", "word", "whole", "place", "many", "ahead", "behind", "letter", "times", "run", "one"]) (sc := defScope s__law_right) (own := [("letter", 16)]) (by decide +kernel)) (fun _ _ _ _ _ => (g_name (i := 16) nd rfl (by first | exact .inl rfl | exact .inr rfl))) (fun _ _ _ _ _ => ts_nil) (fun _ _ _ _ _ => (p_sum hK rfl (by rfl) T.n_sum (p_lc (own := [("one", 19), ("many", 13)]) rfl nd (i_val hK (p_var (i := 2))) (blkOk_by (N := ["dice", "width", "runs", "due", "counts", "turn", "start", "low", "picked", "told", "word", "whole", "place", "many", "ahead", "behind", "letter", "times", "run", "one"]) (sc := _) (own := [("one", 19), ("many", 13)]) (by rfl)) (fun _ _ _ _ _ => (g_tup hK rfl (gs_cons (g_name (i := 19) nd rfl (by first | exact .inl rfl | exact .inr rfl)) (gs_cons (g_name (i := 13) nd rfl (by first | exact .inl rfl | exact .inr rfl)) gs_nil)) (fun _ _ _ z => tgsCons_len (fun _ _ _ z => tgsCons_len (fun _ _ _ z => tgsNil_len z) z) z))) (fun _ _ _ _ _ => (ts_one (t_eq hK hr (p_var (i := 19)) (p_var (i := 16))))) (fun _ _ _ _ _ => (p_var (i := 13))) (by decide)))) (by decide)) (ss_cons (s_if (t_ne hK hr (p_tup (a_cons (p_prop hK P_Word_runs F_Word_runs hr (by decide) (p_var (i := 10))) (a_cons (p_prop hK P_Word_length F_Word_length hr (by decide) (p_var (i := 10))) (a_cons (p_prop hK P_Word_counts F_Word_counts hr (by decide) (p_var (i := 10))) a_nil)))) (p_tup (a_cons (p_var (i := 3)) (a_cons (p_var (i := 11)) (a_cons (p_tuple hK (by rfl) T.n_tuple (p_var (i := 4))) a_nil))))) (ss_one (s_ret rfl p_bl)) ss_nil) (ss_cons (s_for' (passes_of rfl) rfl (i_range1 (by rfl) T.n_range (p_if (t_gt (p_var (i := 11)) p_int) p_int p_int)) (g_name (i := 5) nd rfl (by first | exact .inl rfl | exact .inr rfl)) (ss_cons (s_asg (i := 12) nd rfl (by first | exact .inl rfl | exact .inr rfl) (p_call F__law_far hr (by decide) (by rfl) (takes_of rfl rfl rfl rfl) rfl (eCons_len (eCons_len eNil_len)) (a_cons (p_var (i := 0)) (a_cons (p_var (i := 11)) a_nil)))) (ss_cons (s_if (t_ne hK hr (p_meth (n := 1) hK M_Word_letter F_Word_letter hr (by decide) (p_var (i := 10)) (eCons_len eNil_len) (a_cons (p_var (i := 12)) a_nil)) (p_ix hK (p_ix hK (p_call F__law_part hr (by decide) (by rfl) (takes_of rfl rfl rfl rfl) rfl (eCons_len (eCons_len (eCons_len eNil_len))) (a_cons (p_var (i := 3)) (a_cons (p_var (i := 12)) (a_cons p_int a_nil)))) p_int) p_int)) (ss_one (s_ret rfl p_bl)) ss_nil) (ss_cons (s_asg (i := 13) nd rfl (by first | exact .inl rfl | exact .inr rfl) (p_call F__law_far hr (by decide) (by rfl) (takes_of rfl rfl rfl rfl) rfl (eCons_len (eCons_len eNil_len)) (a_cons (p_var (i := 0)) (a_cons (p_add hK (p_sub (p_var (i := 11)) (p_var (i := 12))) p_int) a_nil)))) (ss_one (s_if (t_ne hK hr (p_prop hK P_Word_runs F_Word_runs hr (by decide) (p_call F_word_part hr (by decide) (by rfl) (takes_of rfl rfl rfl rfl) rfl (eCons_len (eCons_len (eCons_len eNil_len))) (a_cons (p_var (i := 10)) (a_cons (p_var (i := 12)) (a_cons (p_var (i := 13)) a_nil))))) (p_call F__law_part hr (by decide) (by rfl) (takes_of rfl rfl rfl rfl) rfl (eCons_len (eCons_len (eCons_len eNil_len))) (a_cons (p_var (i := 3)) (a_cons (p_var (i := 12)) (a_cons (p_var (i := 13)) a_nil))))) (ss_one (s_ret rfl p_bl)) ss_nil)))))) (ss_cons (s_asg (i := 6) nd rfl (by first | exact .inl rfl | exact .inr rfl) (p_call F__law_far hr (by decide) (by rfl) (takes_of rfl rfl rfl rfl) rfl (eCons_len (eCons_len eNil_len)) (a_cons (p_var (i := 0)) (a_cons (p_add hK (p_var (i := 11)) p_int) a_nil)))) (ss_cons (s_par (i := 14) (j := 15) rfl nd rfl rfl (by decide) rfl rfl (p_call F_word_part hr (by decide) (by rfl) (takes_of rfl rfl rfl rfl) rfl (eCons_len (eCons_len (eCons_len eNil_len))) (a_cons (p_var (i := 10)) (a_cons p_int (a_cons (p_var (i := 6)) a_nil)))) (p_call F_word_part hr (by decide) (by rfl) (takes_of rfl rfl rfl rfl) rfl (eCons_len (eCons_len (eCons_len eNil_len))) (a_cons (p_var (i := 10)) (a_cons (p_var (i := 6)) (a_cons (p_sub (p_var (i := 11)) (p_var (i := 6))) a_nil)))) (by rfl)) (ss_cons (s_if (PW.pt (pw_or' (t_neM hK O_Word___ne__ F_Word___ne__ hr (by decide) (p_call F_word_joined hr (by decide) (by rfl) (takes_of rfl rfl rfl rfl) rfl (eCons_len (eCons_len eNil_len)) (a_cons (p_var (i := 14)) (a_cons (p_var (i := 15)) a_nil))) (p_var (i := 10))) (pw_or1' (t_ne hK hr (p_prop hK P_Word_runs F_Word_runs hr (by decide) (p_call F_word_joined hr (by decide) (by rfl) (takes_of rfl rfl rfl rfl) rfl (eCons_len (eCons_len eNil_len)) (a_cons (p_var (i := 15)) (a_cons (p_var (i := 14)) a_nil)))) (p_call F__law_leaned hr (by decide) (by rfl) (takes_of rfl rfl rfl rfl) rfl (eCons_len eNil_len) (a_cons (p_add hK (p_prop hK P_Word_runs F_Word_runs hr (by decide) (p_var (i := 15))) (p_prop hK P_Word_runs F_Word_runs hr (by decide) (p_var (i := 14)))) a_nil)))))) (ss_one (s_ret rfl p_bl)) ss_nil) (ss_cons (s_if (PW.pt (pw_or' (t_ne hK hr (p_prop hK P_Word_runs F_Word_runs hr (by decide) (p_call F_word_repeated hr (by decide) (by rfl) (takes_of rfl rfl rfl rfl) rfl (eCons_len (eCons_len eNil_len)) (a_cons (p_var (i := 10)) (a_cons p_int a_nil)))) (p_call F__law_leaned hr (by decide) (by rfl) (takes_of rfl rfl rfl rfl) rfl (eCons_len eNil_len) (a_cons (p_mul hK (p_var (i := 3)) p_int) a_nil))) (pw_or1' (t_ne hK hr (p_prop hK P_Word_runs F_Word_runs hr (by decide) (p_call F_word_backward hr (by decide) (by rfl) (takes_of rfl rfl rfl rfl) rfl (eCons_len eNil_len) (a_cons (p_var (i := 10)) a_nil))) (p_rev hK (p_var (i := 3))))))) (ss_one (s_ret rfl p_bl)) ss_nil) (ss_cons (s_if (t_ne hK hr (p_prop hK P_Word_runs F_Word_runs hr (by decide) (p_call F_word_mirrored hr (by decide) (by rfl) (takes_of rfl rfl rfl rfl) rfl (eCons_len eNil_len) (a_cons (p_var (i := 10)) a_nil))) (p_tuple hK (by rfl) T.n_tuple (p_lc (own := [("letter", 16), ("many", 13)]) rfl nd (i_val hK (p_var (i := 3))) (blkOk_by (N := ["dice", "width", "runs", "due", "counts", "turn", "start", "low", "picked", "told", "word", "whole", "place", "many", "ahead", "behind", "letter", "times", "run", "one"]) (sc := defScope s__law_right) (own := [("letter", 16), ("many", 13)]) (by decide +kernel)) (fun _ _ _ _ _ => (g_tup hK rfl (gs_cons (g_name (i := 16) nd rfl (by first | exact .inl rfl | exact .inr rfl)) (gs_cons (g_name (i := 13) nd rfl (by first | exact .inl rfl | exact .inr rfl)) gs_nil)) (fun _ _ _ z => tgsCons_len (fun _ _ _ z => tgsCons_len (fun _ _ _ z => tgsNil_len z) z) z))) (fun _ _ _ _ _ => ts_nil) (fun _ _ _ _ _ => (p_tup (a_cons (p_sub (p_sub (p_var (i := 1)) p_int) (p_var (i := 16))) (a_cons (p_var (i := 13)) a_nil)))) (by decide)))) (ss_one (s_ret rfl p_bl)) ss_nil) (ss_cons (s_asg (i := 7) nd rfl (by first | exact .inl rfl | exact .inr rfl) (p_call F__law_roll hr (by decide) (by rfl) (takes_of rfl rfl rfl rfl) rfl (eCons_len (eCons_len eNil_len)) (a_cons (p_var (i := 0)) (a_cons (p_add hK (p_var (i := 1)) p_int) a_nil)))) (ss_cons (s_asg (i := 8) nd rfl (by first | exact .inl rfl | exact .inr rfl) (p_call F__law_leaned hr (by decide) (by rfl) (takes_of rfl rfl rfl rfl) rfl (eCons_len eNil_len) (a_cons (p_lc (own := [("run", 18)]) rfl nd (i_val hK (p_var (i := 3))) (blkOk_by (N := ["dice", "width", "runs", "due", "counts", "turn", "start", "low", "picked", "told", "word", "whole", "place", "many", "ahead", "behind", "letter", "times", "run", "one"]) (sc := defScope s__law_right) (own := [("run", 18)]) (by decide +kernel)) (fun _ _ _ _ _ => (g_name (i := 18) nd rfl (by first | exact .inl rfl | exact .inr rfl))) (fun _ _ _ _ _ => (ts_one (t_ge (p_ix hK (p_var (i := 18)) p_int) (p_var (i := 7))))) (fun _ _ _ _ _ => (p_var (i := 18))) (by decide)) a_nil))) (ss_cons (s_if (t_ne hK hr (p_prop hK P_Word_runs F_Word_runs hr (by decide) (p_call F_word_between hr (by decide) (by rfl) (takes_of rfl rfl rfl rfl) rfl (eCons_len (eCons_len (eCons_len eNil_len))) (a_cons (p_var (i := 10)) (a_cons (p_var (i := 7)) (a_cons (p_var (i := 1)) a_nil))))) (p_var (i := 8))) (ss_one (s_ret rfl p_bl)) ss_nil) (ss_cons (s_par3 (i := 16) (j := 13) (l := 17) rfl nd rfl rfl rfl (by decide) (by decide) (by decide) rfl rfl rfl (p_call F__law_roll hr (by decide) (by rfl) (takes_of rfl rfl rfl rfl) rfl (eCons_len (eCons_len eNil_len)) (a_cons (p_var (i := 0)) (a_cons (p_var (i := 1)) a_nil))) (p_add hK p_int (p_call F__law_far hr (by decide) (by rfl) (takes_of rfl rfl rfl rfl) rfl (eCons_len (eCons_len eNil_len)) (a_cons (p_var (i := 0)) (a_cons (p_pow p_int p_int) a_nil)))) (p_call F__law_far hr (by decide) (by rfl) (takes_of rfl rfl rfl rfl) rfl (eCons_len (eCons_len eNil_len)) (a_cons (p_var (i := 0)) (a_cons (p_pow p_int p_int) a_nil))) (by rfl)) (ss_cons (s_asg (i := 9) nd rfl (by first | exact .inl rfl | exact .inr rfl) (p_call F_word_repeated hr (by decide) (by rfl) (takes_of rfl rfl rfl rfl) rfl (eCons_len (eCons_len eNil_len)) (a_cons (p_make (n := 2) MK_Word C_Word N_Word F_Word___init__ hr (by decide) (by rfl) (takes_of rfl rfl rfl rfl) (eCons_len (eCons_len eNil_len)) (a_cons (p_var (i := 1)) (a_cons (p_tup (a_cons (p_tup (a_cons (p_var (i := 16)) (a_cons (p_var (i := 13)) a_nil))) a_nil)) a_nil))) (a_cons (p_var (i := 17)) a_nil)))) (ss_one (s_ret rfl (p_eq hK hr (p_prop hK P_Word_runs F_Word_runs hr (by decide) (p_var (i := 9))) (p_call F__law_leaned hr (by decide) (by rfl) (takes_of rfl rfl rfl rfl) rfl (eCons_len eNil_len) (a_cons (p_lst (a_cons (p_tup (a_cons (p_var (i := 16)) (a_cons (p_mul hK (p_var (i := 13)) (p_var (i := 17))) a_nil))) a_nil)) a_nil))))))))))))))))))))))
theorem sc_law : FnScope ["script", "spot", "word", "dice"] ["script"] (defScope s_law) := ⟨rfl, rfl, rfl, by decide +kernel, rfl, by decide +kernel, by decide +kernel⟩
theorem ok_law (hK : g.K = K) (T : Txt mg) {fa : Addr} {fda : FuncData} (FA : Fun K "law" "law" s_law fa fda) (hm : mg "law" = some (.ref fa)) (hb : Binds K fda ["script"] []) {a_Word___init__ a_Word_length a_Word_letter k_Word : Addr} (F__law_dice_N : Fn P w K mg base g 1 "_law_dice" ["script", "spot"] d__law_dice true) (F__law_right : Fn P w K mg base g 10 "_law_right" ["dice"] d__law_right false) (F_word_repeated : Fn P w K mg base g 9 "word_repeated" ["word", "times"] d_word_repeated false) (C_Word : g.cl "Word" = some k_Word) (F_Word___init__ : FnM P w K mg base g 5 a_Word___init__ 3 d_Word___init__) (F_Word_length : FnM P w K mg base g 1 a_Word_length 1 d_Word_length) (F_Word_letter : FnM P w K mg base g 4 a_Word_letter 2 d_Word_letter) (MK_Word : Mk K k_Word a_Word___init__) (M_Word_letter : MethC g "Word" "letter" a_Word_letter) (N_Word : mg "Word" = some (.ref k_Word)) (P_Word_length : PropC g "Word" "length" a_Word_length) : FnX P w K mg base g 11 "law" ["script"] d_law false fa fda :=
  have nd := sc_law.nd
  fn_mkX (k := 10) (extra := 3) false (fun n0 => (sSeq (sFor (itR1 (eBin fMax2 (eC (.int 1)) (eBin fMin2 (eC (.int 4)) (eUn fLen (eVar 0))))) (tgN 1) (sSeq (sNew 3 (eCall d__law_dice (eCons (eVar 0) (eCons (eVar 1) eNil)))) (sSeq (sIf (eOr (eNot (eCall d__law_right (eCons (eVar 3) eNil))) (eNot (eCall d__law_right (eCons (eVar 3) eNil)))) (sRet (eC (.bl false))) sNil) (sSeq (sFrz n0 3) sNil)))) (sSeq (sAsg 2 (eCall (mkO "Word" d_Word___init__) (eCons (eC (.int 2)) (eCons (eCall fTup (eCons (eCall fTup (eCons (eC (.int 1)) (eCons (eBin fPow (eC (.int 10)) (eC (.int 50))) eNil))) (eCons (eCall fTup (eCons (eC (.int 0)) (eCons (eC (.int 1)) eNil))) eNil))) eNil)))) (sRet (eAnd (eBin fEq (eUn (fPr "Word" d_Word_length) (eCall d_word_repeated (eCons (eVar 2) (eCons (eC (.int 2)) eNil)))) (eBin fAdd (eBin fMul (eC (.int 2)) (eBin fPow (eC (.int 10)) (eC (.int 50)))) (eC (.int 2)))) (eBin fEq (eMeth "Word" d_Word_letter (eVar 2) (eCons (eBin fPow (eC (.int 10)) (eC (.int 50))) eNil)) (eC (.int 0)))))))) FA sc_law hm hb rfl fun cdv A outer s H E hr w0 => (ss_cons (s_for' (passes_of rfl) rfl (i_range1 (by rfl) T.n_range (p_max2 rfl (by rfl) T.n_max p_int (p_min2 rfl (by rfl) T.n_min p_int (p_len hK (by rfl) T.n_len (p_var (i := 0)))))) (g_name (i := 1) nd rfl (by first | exact .inl rfl | exact .inr rfl)) (ss_cons (s_new (i := 3) nd rfl (by first | exact .inl rfl | exact .inr rfl) (p_callNew F__law_dice_N hr (by decide) (by rfl) (takes_of rfl rfl rfl rfl) rfl (eCons_len (eCons_len eNil_len)) (a_cons (p_var (i := 0)) (a_cons (p_var (i := 1)) a_nil)))) (ss_cons (s_if (PW.pt (pw_or' (pt_not' (pt_v (p_call F__law_right hr (by decide) (by rfl) (takes_of rfl rfl rfl rfl) rfl (eCons_len eNil_len) (a_cons (p_var (i := 3)) a_nil)))) (pw_or1' (pt_not' (pt_v (p_call F__law_right hr (by decide) (by rfl) (takes_of rfl rfl rfl rfl) rfl (eCons_len eNil_len) (a_cons (p_var (i := 3)) a_nil))))))) (ss_one (s_ret rfl p_bl)) ss_nil) (ss_frz rfl ss_nil)))) (ss_cons (s_asg (i := 2) nd rfl (by first | exact .inl rfl | exact .inr rfl) (p_make (n := 2) MK_Word C_Word N_Word F_Word___init__ hr (by decide) (by rfl) (takes_of rfl rfl rfl rfl) (eCons_len (eCons_len eNil_len)) (a_cons p_int (a_cons (p_tup (a_cons (p_tup (a_cons p_int (a_cons (p_pow p_int p_int) a_nil))) (a_cons (p_tup (a_cons p_int (a_cons p_int a_nil))) a_nil))) a_nil)))) (ss_one (s_ret rfl (p_and (p_eq hK hr (p_prop hK P_Word_length F_Word_length hr (by decide) (p_call F_word_repeated hr (by decide) (by rfl) (takes_of rfl rfl rfl rfl) rfl (eCons_len (eCons_len eNil_len)) (a_cons (p_var (i := 2)) (a_cons p_int a_nil)))) (p_add hK (p_mul hK p_int (p_pow p_int p_int)) p_int)) (p_and1 (p_eq hK hr (p_meth (n := 1) hK M_Word_letter F_Word_letter hr (by decide) (p_var (i := 2)) (eCons_len eNil_len) (a_cons (p_pow p_int p_int) a_nil)) p_int)))))))
end
theorem all_ok {P : Program} {w : World} {K : PySem.W.Frag} {mg : Str → Option Value} (T : Txt mg) {k_Word a_Word___init__ a_Word_length a_Word_width a_Word_runs a_Word___eq__ a_Word___ne__ a_Word_counts a_Word_letter : Addr} (A_is_integer : FunAt K mg "is_integer" "is_integer" s_is_integer ["value"]) (A_is_within : FunAt K mg "is_within" "is_within" s_is_within ["value", "low", "most"]) (A_require_within : FunAt K mg "require_within" "require_within" s_require_within ["value", "low", "most"]) (A_lean_in : FunAt K mg "lean_in" "lean_in" s_lean_in ["runs"]) (A_is_run : FunAt K mg "is_run" "is_run" s_is_run ["width", "value"]) (A_are_runs : FunAt K mg "are_runs" "are_runs" s_are_runs ["width", "value"]) (A_counts_of : FunAt K mg "counts_of" "counts_of" s_counts_of ["width", "runs"]) (A_part_of : FunAt K mg "part_of" "part_of" s_part_of ["runs", "first", "many"]) (A_Word___init__ : FunM K "__init__" "Word.__init__" s_Word___init__ ["self", "width", "runs"] a_Word___init__) (A_word_in : FunAt K mg "word_in" "word_in" s_word_in ["width", "runs"]) (A_require_word : FunAt K mg "require_word" "require_word" s_require_word ["word"]) (A_word_of_runs : FunAt K mg "word_of_runs" "word_of_runs" s_word_of_runs ["width", "runs"]) (A_Word_length : FunM K "length" "Word.length" s_Word_length ["self"] a_Word_length) (A_Word_width : FunM K "width" "Word.width" s_Word_width ["self"] a_Word_width) (A_Word_runs : FunM K "runs" "Word.runs" s_Word_runs ["self"] a_Word_runs) (A_word_part : FunAt K mg "word_part" "word_part" s_word_part ["word", "first", "many"]) (A_word_joined : FunAt K mg "word_joined" "word_joined" s_word_joined ["one", "other"]) (A_word_repeated : FunAt K mg "word_repeated" "word_repeated" s_word_repeated ["word", "times"]) (A_word_backward : FunAt K mg "word_backward" "word_backward" s_word_backward ["word"]) (A_word_mirrored : FunAt K mg "word_mirrored" "word_mirrored" s_word_mirrored ["word"]) (A_word_between : FunAt K mg "word_between" "word_between" s_word_between ["word", "low", "high"]) (A__law_dice : FunAt K mg "_law_dice" "_law_dice" s__law_dice ["script", "spot"]) (A__law_roll : FunAt K mg "_law_roll" "_law_roll" s__law_roll ["dice", "total"]) (A__law_far : FunAt K mg "_law_far" "_law_far" s__law_far ["dice", "total"]) (A__law_pick : FunAt K mg "_law_pick" "_law_pick" s__law_pick ["dice", "items"]) (A__law_leaned : FunAt K mg "_law_leaned" "_law_leaned" s__law_leaned ["runs"]) (A__law_part : FunAt K mg "_law_part" "_law_part" s__law_part ["runs", "start", "many"]) (A_Word___eq__ : FunM K "__eq__" "Word.__eq__" s_Word___eq__ ["self", "other"] a_Word___eq__) (A_Word___ne__ : FunM K "__ne__" "Word.__ne__" s_Word___ne__ ["self", "other"] a_Word___ne__) (A_Word_counts : FunM K "counts" "Word.counts" s_Word_counts ["self"] a_Word_counts) (A_Word_letter : FunM K "letter" "Word.letter" s_Word_letter ["self", "place"] a_Word_letter) (A__law_right : FunAt K mg "_law_right" "_law_right" s__law_right ["dice"]) (C_Word : (gX K k_Word).cl "Word" = some k_Word) (I_Word : IsiC (gX K k_Word) k_Word rel_Word) (MK_Word : Mk K k_Word a_Word___init__) (M_Word_letter : MethC (gX K k_Word) "Word" "letter" a_Word_letter) (N_Word : mg "Word" = some (.ref k_Word)) (O_Word___eq__ : OwnM (gX K k_Word) "Word" .Eq a_Word___eq__) (O_Word___ne__ : OwnM (gX K k_Word) "Word" .NotEq a_Word___ne__) (P_Word_counts : PropC (gX K k_Word) "Word" "counts" a_Word_counts) (P_Word_length : PropC (gX K k_Word) "Word" "length" a_Word_length) (P_Word_runs : PropC (gX K k_Word) "Word" "runs" a_Word_runs) (P_Word_width : PropC (gX K k_Word) "Word" "width" a_Word_width) (S_Word_own_runs : SlotC (gX K k_Word) "Word" "own_runs" 0) (S_Word_own_width : SlotC (gX K k_Word) "Word" "own_width" 1) {fa : Addr} {fda : FuncData} (FA : Fun K "law" "law" s_law fa fda) (hm : mg "law" = some (.ref fa)) (hb : Binds K fda ["script"] []) (base : Heap) : FnX P w K mg base (gX K k_Word) 11 "law" ["script"] d_law false fa fda := by
  have F_is_integer := ok_is_integer (P := P) (w := w) (base := base) (g := (gX K k_Word)) rfl T A_is_integer 
  have F_is_within := ok_is_within (P := P) (w := w) (base := base) (g := (gX K k_Word)) rfl T A_is_within F_is_integer
  have F_require_within := ok_require_within (P := P) (w := w) (base := base) (g := (gX K k_Word)) rfl T A_require_within F_is_within
  have F_lean_in := ok_lean_in (P := P) (w := w) (base := base) (g := (gX K k_Word)) rfl T A_lean_in 
  have F_is_run := ok_is_run (P := P) (w := w) (base := base) (g := (gX K k_Word)) rfl T A_is_run F_is_within
  have F_are_runs := ok_are_runs (P := P) (w := w) (base := base) (g := (gX K k_Word)) rfl T A_are_runs F_is_run
  have F_counts_of := ok_counts_of (P := P) (w := w) (base := base) (g := (gX K k_Word)) rfl T A_counts_of 
  have F_part_of := ok_part_of (P := P) (w := w) (base := base) (g := (gX K k_Word)) rfl T A_part_of 
  have F_Word___init__ := ok_Word___init__ (P := P) (w := w) (base := base) (g := (gX K k_Word)) rfl T A_Word___init__ F_are_runs F_is_within F_lean_in S_Word_own_runs S_Word_own_width
  have F_word_in := ok_word_in (P := P) (w := w) (base := base) (g := (gX K k_Word)) rfl T A_word_in C_Word F_Word___init__ MK_Word N_Word
  have F_require_word := ok_require_word (P := P) (w := w) (base := base) (g := (gX K k_Word)) rfl T A_require_word I_Word N_Word
  have F_word_of_runs := ok_word_of_runs (P := P) (w := w) (base := base) (g := (gX K k_Word)) rfl T A_word_of_runs F_lean_in F_word_in
  have F_Word_length := ok_Word_length (P := P) (w := w) (base := base) (g := (gX K k_Word)) rfl T A_Word_length S_Word_own_runs
  have F_Word_width := ok_Word_width (P := P) (w := w) (base := base) (g := (gX K k_Word)) rfl T A_Word_width S_Word_own_width
  have F_Word_runs := ok_Word_runs (P := P) (w := w) (base := base) (g := (gX K k_Word)) rfl T A_Word_runs S_Word_own_runs
  have F_word_part := ok_word_part (P := P) (w := w) (base := base) (g := (gX K k_Word)) rfl T A_word_part F_part_of F_require_within F_require_word C_Word F_Word___init__ F_Word_length F_Word_runs F_Word_width MK_Word N_Word P_Word_length P_Word_runs P_Word_width
  have F_word_joined := ok_word_joined (P := P) (w := w) (base := base) (g := (gX K k_Word)) rfl T A_word_joined F_require_word F_word_of_runs F_Word_runs F_Word_width P_Word_runs P_Word_width
  have F_word_repeated := ok_word_repeated (P := P) (w := w) (base := base) (g := (gX K k_Word)) rfl T A_word_repeated F_require_within F_require_word F_word_of_runs C_Word F_Word___init__ F_Word_length F_Word_runs F_Word_width MK_Word N_Word P_Word_length P_Word_runs P_Word_width
  have F_word_backward := ok_word_backward (P := P) (w := w) (base := base) (g := (gX K k_Word)) rfl T A_word_backward F_require_word C_Word F_Word___init__ F_Word_runs F_Word_width MK_Word N_Word P_Word_runs P_Word_width
  have F_word_mirrored := ok_word_mirrored (P := P) (w := w) (base := base) (g := (gX K k_Word)) rfl T A_word_mirrored F_require_word C_Word F_Word___init__ F_Word_runs F_Word_width MK_Word N_Word P_Word_runs P_Word_width
  have F_word_between := ok_word_between (P := P) (w := w) (base := base) (g := (gX K k_Word)) rfl T A_word_between F_require_within F_require_word C_Word F_Word___init__ F_Word_runs F_Word_width MK_Word N_Word P_Word_runs P_Word_width
  have F__law_dice := ok__law_dice (P := P) (w := w) (base := base) (g := (gX K k_Word)) rfl T A__law_dice 
  have F__law_dice_N := ok__law_dice_N (P := P) (w := w) (base := base) (g := (gX K k_Word)) rfl T A__law_dice 
  have F__law_roll := ok__law_roll (P := P) (w := w) (base := base) (g := (gX K k_Word)) rfl T A__law_roll 
  have F__law_far := ok__law_far (P := P) (w := w) (base := base) (g := (gX K k_Word)) rfl T A__law_far F__law_roll
  have F__law_pick := ok__law_pick (P := P) (w := w) (base := base) (g := (gX K k_Word)) rfl T A__law_pick F__law_roll
  have F__law_leaned := ok__law_leaned (P := P) (w := w) (base := base) (g := (gX K k_Word)) rfl T A__law_leaned 
  have F__law_part := ok__law_part (P := P) (w := w) (base := base) (g := (gX K k_Word)) rfl T A__law_part F__law_leaned
  have F_Word___eq__ := ok_Word___eq__ (P := P) (w := w) (base := base) (g := (gX K k_Word)) rfl T A_Word___eq__ I_Word N_Word S_Word_own_runs S_Word_own_width
  have F_Word___ne__ := ok_Word___ne__ (P := P) (w := w) (base := base) (g := (gX K k_Word)) rfl T A_Word___ne__ F_Word___eq__ O_Word___eq__
  have F_Word_counts := ok_Word_counts (P := P) (w := w) (base := base) (g := (gX K k_Word)) rfl T A_Word_counts F_counts_of S_Word_own_runs S_Word_own_width
  have F_Word_letter := ok_Word_letter (P := P) (w := w) (base := base) (g := (gX K k_Word)) rfl T A_Word_letter F_part_of F_require_within F_Word_length P_Word_length S_Word_own_runs
  have F__law_right := ok__law_right (P := P) (w := w) (base := base) (g := (gX K k_Word)) rfl T A__law_right F__law_far F__law_leaned F__law_part F__law_pick F__law_roll F_word_backward F_word_between F_word_joined F_word_mirrored F_word_part F_word_repeated C_Word F_Word___init__ F_Word___ne__ F_Word_counts F_Word_length F_Word_letter F_Word_runs MK_Word M_Word_letter N_Word O_Word___ne__ P_Word_counts P_Word_length P_Word_runs
  exact ok_law rfl T FA hm hb F__law_dice_N F__law_right F_word_repeated C_Word F_Word___init__ F_Word_length F_Word_letter MK_Word M_Word_letter N_Word P_Word_length
end L04

namespace L04
open PySem L2 Pd Pq
theorem within_i (v lo hi : Int) (S : Store) : d_is_within [.d (.int v), .d (.int lo), .d (.int hi)] S = .ok (.d (.bl (decide (lo ≤ v) && decide (v ≤ hi)))) S := by
  have e : d_is_integer [.d (.int v)] S = .ok (.d (.bl true)) S := by
    unfold d_is_integer
    simp only [v_ap, c_ap, un_ap, un_ok, bi_ap, bi1_ok, bi2_ok, cl_ap, cl_ok, cs_ap, cs1_ok, cs2_ok, nil_ap, t_ap, t_ok, an_ap, an_t, an_f, or_ap, or_tt, or_ff, nt_ap, nt_ok, if_ap, iff_t, iff_f, ch_ap, ch1_ok, ch2_ok, ch3_t, ch3_f, ch4_ok, oN_ap, oS_ap, so_ok, sl_ap, sl1_ok, sl2_ok, sl3_ok, fSl_l, fSl_t, iv_ap, iv_l, iv_t, ir_ap, ir_ok, ir_i, ie_ap, ie_l, ie_t, iz_ap, i2_ap, it1_ok, it2_ok, iZz_l, iZz_t, me_ap, me1_ok, me2_ok, nox_ok, isO_d, fPr_o, fFld_o, sq_ap, sq_n, sq_r, sq_b, sq_c, nl_ap, bk_ap, ct_ap, ex_ap, ex_ok, rt_ap, rt_ok, rn_ap, as_ap, as_ok, nw_ap, nw_ok, sf_ap, sf_t, sf_f, pr_ap, pr1_ok, pr2_ok, pt_ap, pt1_ok, pt2_ok, pt3_ok, at_ap, at_ok, oN_some, fo_ap, fo_ok, tgN_ap, tgT_ap, tgs_c, tgs_n, ob_s, funD_ap, fin_d, fin_n, tk_len, tk_app, tk_appc, get_app, set_app, add_ii, add_ll, add_tt, sub_ii, mul_ii, mul_l, mulL_l, mul_t, addL_ll, div_ii, mod_ii, pow_ii, neg_i, lt_ii, le_ii, gt_ii, ge_ii, eq_ii, ne_ii, max_ii, min_ii, isB_bb, notB_bb, ix_t, ix_l, ix_c, ixC_l, oD_s, len_l, len_t, len_s, len_c, lnC_l, rd_d, rd_c, rdC_l, all_tt, tu_l, tu_t, li_l, li_t, in_i, rev_l, rev_t, sum_l, sum_t, all_b, any_b, fTup_0, fTup_1, fTup_2, fTup_3, fTup_4, fTup_5, fLst_0, fLst_1, fLst_2, fLst_3, fLst_4, fLst_5, isi_in, isi_tt, isi_ll, isi_bi, kb_d, kb_n, kb_c, lp_n, lp_c, lp_b, lp_r, isO_d, List.set_cons_zero, List.set_cons_succ, List.getElem?_cons_zero, List.getElem?_cons_succ, List.getElem?_nil, List.map_cons, List.map_nil, List.replicate_succ, List.replicate_zero, List.cons_append, List.nil_append, List.append_nil, atI_0, atI_1, atI_2, atI_3, decide_true, decide_false, Bool.not_true, Bool.not_false, Bool.and_true, Bool.true_and, Bool.and_false, Bool.false_and, Bool.or_true, Bool.true_or, Bool.or_false, Bool.false_or, wipeE, Option.map_some, Option.map_none, List.length_cons, List.length_nil, Nat.zero_add, Nat.reduceAdd]
  unfold d_is_within
  by_cases h : lo ≤ v <;> simp only [v_ap, c_ap, un_ap, un_ok, bi_ap, bi1_ok, bi2_ok, cl_ap, cl_ok, cs_ap, cs1_ok, cs2_ok, nil_ap, t_ap, t_ok, an_ap, an_t, an_f, or_ap, or_tt, or_ff, nt_ap, nt_ok, if_ap, iff_t, iff_f, ch_ap, ch1_ok, ch2_ok, ch3_t, ch3_f, ch4_ok, oN_ap, oS_ap, so_ok, sl_ap, sl1_ok, sl2_ok, sl3_ok, fSl_l, fSl_t, iv_ap, iv_l, iv_t, ir_ap, ir_ok, ir_i, ie_ap, ie_l, ie_t, iz_ap, i2_ap, it1_ok, it2_ok, iZz_l, iZz_t, me_ap, me1_ok, me2_ok, nox_ok, isO_d, fPr_o, fFld_o, sq_ap, sq_n, sq_r, sq_b, sq_c, nl_ap, bk_ap, ct_ap, ex_ap, ex_ok, rt_ap, rt_ok, rn_ap, as_ap, as_ok, nw_ap, nw_ok, sf_ap, sf_t, sf_f, pr_ap, pr1_ok, pr2_ok, pt_ap, pt1_ok, pt2_ok, pt3_ok, at_ap, at_ok, oN_some, fo_ap, fo_ok, tgN_ap, tgT_ap, tgs_c, tgs_n, ob_s, funD_ap, fin_d, fin_n, tk_len, tk_app, tk_appc, get_app, set_app, add_ii, add_ll, add_tt, sub_ii, mul_ii, mul_l, mulL_l, mul_t, addL_ll, div_ii, mod_ii, pow_ii, neg_i, lt_ii, le_ii, gt_ii, ge_ii, eq_ii, ne_ii, max_ii, min_ii, isB_bb, notB_bb, ix_t, ix_l, ix_c, ixC_l, oD_s, len_l, len_t, len_s, len_c, lnC_l, rd_d, rd_c, rdC_l, all_tt, tu_l, tu_t, li_l, li_t, in_i, rev_l, rev_t, sum_l, sum_t, all_b, any_b, fTup_0, fTup_1, fTup_2, fTup_3, fTup_4, fTup_5, fLst_0, fLst_1, fLst_2, fLst_3, fLst_4, fLst_5, isi_in, isi_tt, isi_ll, isi_bi, kb_d, kb_n, kb_c, lp_n, lp_c, lp_b, lp_r, isO_d, List.set_cons_zero, List.set_cons_succ, List.getElem?_cons_zero, List.getElem?_cons_succ, List.getElem?_nil, List.map_cons, List.map_nil, List.replicate_succ, List.replicate_zero, List.cons_append, List.nil_append, List.append_nil, atI_0, atI_1, atI_2, atI_3, decide_true, decide_false, Bool.not_true, Bool.not_false, Bool.and_true, Bool.true_and, Bool.and_false, Bool.false_and, Bool.or_true, Bool.true_or, Bool.or_false, Bool.false_or, wipeE, Option.map_some, Option.map_none, List.length_cons, List.length_nil, Nat.zero_add, Nat.reduceAdd, e, h]
theorem req_within (v lo hi : Int) (S : Store) (h1 : lo ≤ v) (h2 : v ≤ hi) : d_require_within [.d (.int v), .d (.int lo), .d (.int hi)] S = .ok (.d .non) S := by
  unfold d_require_within
  simp only [v_ap, c_ap, un_ap, un_ok, bi_ap, bi1_ok, bi2_ok, cl_ap, cl_ok, cs_ap, cs1_ok, cs2_ok, nil_ap, t_ap, t_ok, an_ap, an_t, an_f, or_ap, or_tt, or_ff, nt_ap, nt_ok, if_ap, iff_t, iff_f, ch_ap, ch1_ok, ch2_ok, ch3_t, ch3_f, ch4_ok, oN_ap, oS_ap, so_ok, sl_ap, sl1_ok, sl2_ok, sl3_ok, fSl_l, fSl_t, iv_ap, iv_l, iv_t, ir_ap, ir_ok, ir_i, ie_ap, ie_l, ie_t, iz_ap, i2_ap, it1_ok, it2_ok, iZz_l, iZz_t, me_ap, me1_ok, me2_ok, nox_ok, isO_d, fPr_o, fFld_o, sq_ap, sq_n, sq_r, sq_b, sq_c, nl_ap, bk_ap, ct_ap, ex_ap, ex_ok, rt_ap, rt_ok, rn_ap, as_ap, as_ok, nw_ap, nw_ok, sf_ap, sf_t, sf_f, pr_ap, pr1_ok, pr2_ok, pt_ap, pt1_ok, pt2_ok, pt3_ok, at_ap, at_ok, oN_some, fo_ap, fo_ok, tgN_ap, tgT_ap, tgs_c, tgs_n, ob_s, funD_ap, fin_d, fin_n, tk_len, tk_app, tk_appc, get_app, set_app, add_ii, add_ll, add_tt, sub_ii, mul_ii, mul_l, mulL_l, mul_t, addL_ll, div_ii, mod_ii, pow_ii, neg_i, lt_ii, le_ii, gt_ii, ge_ii, eq_ii, ne_ii, max_ii, min_ii, isB_bb, notB_bb, ix_t, ix_l, ix_c, ixC_l, oD_s, len_l, len_t, len_s, len_c, lnC_l, rd_d, rd_c, rdC_l, all_tt, tu_l, tu_t, li_l, li_t, in_i, rev_l, rev_t, sum_l, sum_t, all_b, any_b, fTup_0, fTup_1, fTup_2, fTup_3, fTup_4, fTup_5, fLst_0, fLst_1, fLst_2, fLst_3, fLst_4, fLst_5, isi_in, isi_tt, isi_ll, isi_bi, kb_d, kb_n, kb_c, lp_n, lp_c, lp_b, lp_r, isO_d, List.set_cons_zero, List.set_cons_succ, List.getElem?_cons_zero, List.getElem?_cons_succ, List.getElem?_nil, List.map_cons, List.map_nil, List.replicate_succ, List.replicate_zero, List.cons_append, List.nil_append, List.append_nil, atI_0, atI_1, atI_2, atI_3, decide_true, decide_false, Bool.not_true, Bool.not_false, Bool.and_true, Bool.true_and, Bool.and_false, Bool.false_and, Bool.or_true, Bool.true_or, Bool.or_false, Bool.false_or, wipeE, Option.map_some, Option.map_none, List.length_cons, List.length_nil, Nat.zero_add, Nat.reduceAdd, within_i, h1, h2]
/-! ### runs of letters, plainly -/
abbrev Rn := List (Int × Int)
def ex : Rn → List Int
  | [] => []
  | r :: rs => List.replicate r.2.toNat r.1 ++ ex rs
theorem ex_app : ∀ a b : Rn, ex (a ++ b) = ex a ++ ex b
  | [], b => rfl
  | r :: a, b => by
    show List.replicate r.2.toNat r.1 ++ ex (a ++ b) = (List.replicate r.2.toNat r.1 ++ ex a) ++ ex b
    rw [ex_app a b, List.append_assoc]
/-- one run more; the last run stands first -/
def addR (acc : Rn) (r : Int × Int) : Rn := match acc with
  | [] => if 0 < r.2 then [r] else []
  | l :: t => if l.1 = r.1 then (r.1, l.2 + r.2) :: t else if 0 < r.2 then r :: l :: t else l :: t
def addAll : Rn → Rn → Rn
  | acc, [] => acc
  | acc, r :: rs => addAll (addR acc r) rs
def Pos (a : Rn) : Prop := ∀ r ∈ a, 0 < r.2
def Alt : Rn → Prop
  | [] => True
  | [_] => True
  | a :: b :: t => a.1 ≠ b.1 ∧ Alt (b :: t)
theorem addR_pos {acc : Rn} {r : Int × Int} (h : Pos acc) (hr : 0 ≤ r.2) : Pos (addR acc r) := by
  cases acc with
  | nil =>
    unfold addR
    by_cases q : 0 < r.2
    · simp only [q, if_true]; intro x hx; rw [List.mem_singleton.mp hx]; exact q
    · simp only [q, if_false]; intro x hx; simp at hx
  | cons l t =>
    unfold addR
    have hl := h l List.mem_cons_self
    by_cases q : l.1 = r.1
    · simp only [q, if_true]
      intro x hx
      rcases List.mem_cons.mp hx with rfl | hx
      · show 0 < l.2 + r.2; omega
      · exact h x (List.mem_cons_of_mem _ hx)
    · simp only [q, if_false]
      by_cases z : 0 < r.2
      · simp only [z, if_true]
        intro x hx
        rcases List.mem_cons.mp hx with rfl | hx
        · exact z
        · exact h x hx
      · simp only [z, if_false]; exact h
theorem addR_alt {acc : Rn} {r : Int × Int} (h : Alt acc) : Alt (addR acc r) := by
  cases acc with
  | nil => unfold addR; dsimp only; split <;> exact True.intro
  | cons l t =>
    unfold addR
    by_cases q : l.1 = r.1
    · simp only [q, if_true]
      cases t with
      | nil => exact True.intro
      | cons b t => exact ⟨by have := h.1; rw [q] at this; exact this, h.2⟩
    · simp only [q, if_false]
      by_cases z : 0 < r.2
      · simp only [z, if_true]; exact ⟨fun e => q e.symm, h⟩
      · simp only [z, if_false]; exact h
theorem addR_ex {acc : Rn} {r : Int × Int} (h : Pos acc) (hr : 0 ≤ r.2) : ex (addR acc r).reverse = ex acc.reverse ++ List.replicate r.2.toNat r.1 := by
  cases acc with
  | nil =>
    unfold addR
    by_cases q : 0 < r.2
    · simp only [q, if_true]; simp [ex]
    · have : r.2.toNat = 0 := by omega
      simp only [q, if_false, this]; rfl
  | cons l t =>
    unfold addR
    have hl := h l List.mem_cons_self
    by_cases q : l.1 = r.1
    · simp only [q, if_true, List.reverse_cons, ex_app, ex, List.append_nil, List.append_assoc]
      have : (l.2 + r.2).toNat = l.2.toNat + r.2.toNat := by omega
      rw [this, List.replicate_append_replicate]
    · simp only [q, if_false]
      by_cases z : 0 < r.2
      · simp only [z, if_true, List.reverse_cons, ex_app, ex, List.append_nil]
      · have : r.2.toNat = 0 := by omega
        simp only [z, if_false, this]
        simp
theorem ex_head : ∀ {a : Rn} {x : Int} {l : List Int}, Pos a → ex a = x :: l → ∃ r t, a = r :: t ∧ r.1 = x
  | [], _, _, _, e => by cases e
  | r :: a, x, l, h, e => by
    have hr := h r List.mem_cons_self
    obtain ⟨n, hn⟩ : ∃ n, r.2.toNat = n + 1 := ⟨r.2.toNat - 1, by omega⟩
    have e : List.replicate r.2.toNat r.1 ++ ex a = x :: l := e
    rw [hn, List.replicate_succ, List.cons_append] at e
    injection e with e1 e2
    exact ⟨r, a, rfl, e1⟩
theorem ex_less {a : Rn} {r : Int × Int} {k : Nat} {b : List Int} (ha : Pos a) (xa : Alt (r :: a)) (e : ex a = List.replicate (k + 1) r.1 ++ b) : False := by
  rw [List.replicate_succ, List.cons_append] at e
  obtain ⟨s, t, rfl, h⟩ := ex_head ha e
  exact xa.1 h.symm
theorem Alt.tail {r : Int × Int} {a : Rn} (h : Alt (r :: a)) : Alt a := by
  cases a with
  | nil => exact True.intro
  | cons s t => exact h.2
/-- runs with no nought and no two alike beside one another are told by their letters -/
theorem alt_one : ∀ {a b : Rn}, Pos a → Pos b → Alt a → Alt b → ex a = ex b → a = b
  | [], [], _, _, _, _, _ => rfl
  | [], s :: b, _, hb, _, _, e => by
    have := hb s List.mem_cons_self
    have l := congrArg List.length e
    simp [ex] at l
    omega
  | r :: a, [], ha, _, _, _, e => by
    have := ha r List.mem_cons_self
    have l := congrArg List.length e
    simp [ex] at l
    omega
  | r :: a, s :: b, ha, hb, xa, xb, e => by
    have hr := ha r List.mem_cons_self
    have hs := hb s List.mem_cons_self
    have pa : Pos a := fun x hx => ha x (List.mem_cons_of_mem _ hx)
    have pb : Pos b := fun x hx => hb x (List.mem_cons_of_mem _ hx)
    obtain ⟨t, u, e1, e2⟩ := ex_head (l := List.replicate (s.2.toNat - 1) s.1 ++ ex b) (x := s.1) ha (by
      rw [e]
      show List.replicate s.2.toNat s.1 ++ ex b = _
      rw [← List.cons_append, ← List.replicate_succ, show s.2.toNat - 1 + 1 = s.2.toNat by omega])
    cases e1
    have e : List.replicate r.2.toNat r.1 ++ ex a = List.replicate s.2.toNat s.1 ++ ex b := e
    rw [← e2] at e
    have same : r.2.toNat = s.2.toNat := by
      rcases Nat.lt_trichotomy r.2.toNat s.2.toNat with q | q | q
      · exfalso
        obtain ⟨k, hk⟩ : ∃ k, s.2.toNat = r.2.toNat + (k + 1) := ⟨s.2.toNat - r.2.toNat - 1, by omega⟩
        rw [hk, ← List.replicate_append_replicate, List.append_assoc] at e
        exact ex_less pa xa (List.append_cancel_left e)
      · exact q
      · exfalso
        obtain ⟨k, hk⟩ : ∃ k, r.2.toNat = s.2.toNat + (k + 1) := ⟨r.2.toNat - s.2.toNat - 1, by omega⟩
        rw [hk, ← List.replicate_append_replicate, List.append_assoc] at e
        have e' := (List.append_cancel_left e).symm
        rw [e2] at e'
        exact ex_less pb xb e'
    rw [same] at e
    have ih := alt_one pa pb xa.tail xb.tail (List.append_cancel_left e)
    have : r = s := Prod.ext e2 (by omega)
    rw [this, ih]
theorem addAll_pos : ∀ (rs acc : Rn), Pos acc → (∀ r ∈ rs, 0 ≤ r.2) → Pos (addAll acc rs)
  | [], _, h, _ => h
  | r :: rs, acc, h, hr => addAll_pos rs _ (addR_pos h (hr r List.mem_cons_self)) fun x hx => hr x (List.mem_cons_of_mem _ hx)
theorem addAll_alt : ∀ (rs acc : Rn), Alt acc → Alt (addAll acc rs)
  | [], _, h => h
  | _ :: rs, _, h => addAll_alt rs _ (addR_alt h)
theorem addAll_ex : ∀ (rs acc : Rn), Pos acc → (∀ r ∈ rs, 0 ≤ r.2) → ex (addAll acc rs).reverse = ex acc.reverse ++ ex rs
  | [], acc, _, _ => by simp [addAll, ex]
  | r :: rs, acc, h, hr => by
    have h0 := hr r List.mem_cons_self
    show ex (addAll (addR acc r) rs).reverse = _
    rw [addAll_ex rs _ (addR_pos h h0) fun x hx => hr x (List.mem_cons_of_mem _ hx), addR_ex h h0, List.append_assoc]
    rfl
theorem alt_aux : ∀ (a acc : Rn), Alt a → Alt acc → (∀ x y t u, a = x :: t → acc = y :: u → x.1 ≠ y.1) → Alt (a.reverseAux acc)
  | [], acc, _, h, _ => h
  | x :: a, acc, ha, hacc, hh => by
    refine alt_aux a (x :: acc) ha.tail ?_ fun y z t u e1 e2 => ?_
    · cases acc with
      | nil => exact True.intro
      | cons y u => exact ⟨hh x y a u rfl rfl, hacc⟩
    · cases e2
      subst e1
      exact fun q => ha.1 q.symm
theorem Alt.rev {a : Rn} (h : Alt a) : Alt a.reverse := alt_aux a [] h True.intro fun _ _ _ _ _ e => by cases e
def leanR (rs : Rn) : Rn := (addAll [] rs).reverse
theorem leanR_pos {rs : Rn} (h : ∀ r ∈ rs, 0 ≤ r.2) : Pos (leanR rs) := fun r hr => addAll_pos rs [] (fun _ hx => by cases hx) h r (List.mem_reverse.mp hr)
theorem leanR_alt (rs : Rn) : Alt (leanR rs) := (addAll_alt rs [] True.intro).rev
theorem leanR_ex {rs : Rn} (h : ∀ r ∈ rs, 0 ≤ r.2) : ex (leanR rs) = ex rs := by
  unfold leanR
  rw [addAll_ex rs [] (fun _ hx => by cases hx) h]
  rfl
/-- the runs of letters -/
def rl (ls : List Int) : Rn := leanR (ls.map fun l => (l, 1))
theorem ex_ones : ∀ ls : List Int, ex (ls.map fun l => (l, 1)) = ls
  | [] => rfl
  | l :: ls => by
    show List.replicate (1 : Int).toNat l ++ ex (ls.map fun l => (l, 1)) = _
    rw [ex_ones ls]
    rfl
theorem rl_pos (ls : List Int) : Pos (rl ls) := leanR_pos fun r hr => by
  obtain ⟨l, _, rfl⟩ := List.mem_map.mp hr
  exact Int.zero_le_ofNat 1
theorem rl_alt (ls : List Int) : Alt (rl ls) := leanR_alt _
theorem rl_ex (ls : List Int) : ex (rl ls) = ls := by
  unfold rl
  rw [leanR_ex fun r hr => by
    obtain ⟨l, _, rfl⟩ := List.mem_map.mp hr
    exact Int.zero_le_ofNat 1, ex_ones]
/-- lean runs are the runs of their letters -/
theorem leanR_rl {rs : Rn} (h : ∀ r ∈ rs, 0 ≤ r.2) : leanR rs = rl (ex rs) := alt_one (leanR_pos h) (rl_pos _) (leanR_alt _) (rl_alt _) (by rw [leanR_ex h, rl_ex])
def partR : Rn → Int → Int → Rn
  | [], _, _ => []
  | r :: rs, f, m => (if max f 0 < min (f + m) r.2 then [(r.1, min (f + m) r.2 - max f 0)] else []) ++ partR rs (f - r.2) m
theorem partR_ex : ∀ (rs : Rn) (f m : Int), Pos rs → 0 ≤ m → ex (partR rs f m) = ((ex rs).drop f.toNat).take ((f + m).toNat - f.toNat)
  | [], f, m, _, _ => by simp [partR, ex]
  | r :: rs, f, m, h, hm => by
    have hr := h r List.mem_cons_self
    have ih := partR_ex rs (f - r.2) m (fun x hx => h x (List.mem_cons_of_mem _ hx)) hm
    show ex ((if max f 0 < min (f + m) r.2 then [(r.1, min (f + m) r.2 - max f 0)] else []) ++ partR rs (f - r.2) m) = ((List.replicate r.2.toNat r.1 ++ ex rs).drop f.toNat).take ((f + m).toNat - f.toNat)
    rw [ex_app, ih, List.drop_append, List.take_append, List.drop_replicate, List.take_replicate, List.length_replicate, List.length_replicate]
    have e1 : ex (if max f 0 < min (f + m) r.2 then [(r.1, min (f + m) r.2 - max f 0)] else []) = List.replicate (min ((f + m).toNat - f.toNat) (r.2.toNat - f.toNat)) r.1 := by
      by_cases q : max f 0 < min (f + m) r.2
      · rw [if_pos q]
        show List.replicate (min (f + m) r.2 - max f 0).toNat r.1 ++ [] = _
        rw [List.append_nil]
        congr 1
        omega
      · rw [if_neg q]
        have : min ((f + m).toNat - f.toNat) (r.2.toNat - f.toNat) = 0 := by omega
        rw [this]
        rfl
    rw [e1]
    have e2 : (f - r.2).toNat = f.toNat - r.2.toNat := by omega
    have e3 : (f - r.2 + m).toNat - (f - r.2).toNat = (f + m).toNat - f.toNat - (r.2.toNat - f.toNat) := by omega
    rw [e2] at e3 ⊢
    rw [e3]
theorem ex_len : ∀ {rs : Rn}, (∀ r ∈ rs, 0 ≤ r.2) → ((ex rs).length : Int) = (rs.map (·.2)).sum
  | [], _ => rfl
  | r :: rs, h => by
    have hr := h r List.mem_cons_self
    have ih := ex_len (rs := rs) fun x hx => h x (List.mem_cons_of_mem _ hx)
    show ((List.replicate r.2.toNat r.1 ++ ex rs).length : Int) = _
    rw [List.length_append, List.length_replicate, List.map_cons, List.sum_cons, ← ih]
    push_cast
    omega
def prD (r : Int × Int) : D := .tup [.int r.1, .int r.2]
abbrev prs (rs : Rn) : List D := rs.map prD
theorem fit_pr (n : Nat) (r : Int × Int) : fit (n + 1) (prD r) = true := by simp [prD, fit, fitL, fit_int]
theorem fit_prs (n : Nat) (rs : Rn) : fitL (n + 1) (prs rs) = true := fitL_all _ _ fun d hd => by
  obtain ⟨r, _, rfl⟩ := List.mem_map.mp hd
  exact fit_pr n r
theorem fit_lprs (n : Nat) (rs : Rn) : fit (n + 2) (.lst (prs rs)) = true := by
  unfold fit
  exact fit_prs n rs
theorem ne_nil (rs : Rn) : (D.lst (prs rs)).eqv (.lst []) = decide (rs = []) := by
  cases rs <;> simp [D.eqv, eqvL]
theorem last_rev (l : Int × Int) (t : Rn) : atI (prs (l :: t).reverse) (-1) = some (prD l) := by
  rw [atI_end]
  simp [prs]
theorem set_rev (l x : Int × Int) (t : Rn) : (prs (l :: t).reverse).set ((prs (l :: t).reverse).length - 1) (prD x) = prs (x :: t).reverse := by
  simp only [prs, List.reverse_cons, List.map_append, List.map_cons, List.map_nil, List.length_append, List.length_map, List.length_reverse, List.length_cons, List.length_nil]
  rw [List.set_append_right _ _ (by simp)]
  simp
theorem addAll_snoc : ∀ (a : Rn) (acc : Rn) (r : Int × Int), addAll acc (a ++ [r]) = addR (addAll acc a) r
  | [], _, _ => rfl
  | _ :: a, acc, r => addAll_snoc a _ r
abbrev lnBody : Sv := sIf (eAnd (eBin fNe (eVar 1) (eCall fLst eNil)) (eBin fEq (eBin fIx (eBin fIx (eVar 1) (eUn fNeg (eC (.int 1)))) (eC (.int 0))) (eVar 2))) (sSet (eVar 1) (eUn fNeg (eC (.int 1))) (eCall fTup (eCons (eVar 2) (eCons (eBin fAdd (eBin fIx (eBin fIx (eVar 1) (eUn fNeg (eC (.int 1)))) (eC (.int 1))) (eVar 3)) eNil)))) (sIf (eBin fGt (eVar 3) (eC (.int 0))) (sEx (eApp (eVar 1) (eCall fTup (eCons (eVar 2) (eCons (eVar 3) eNil))))) sNil)
theorem ln_step (x : Val) (S : Store) (acc : Rn) (r : Int × Int) (hl : acc.length ≤ 1000) : lnBody [some x, some (.cell S.length), some (.d (.int r.1)), some (.d (.int r.2))] (S ++ [some (.lst (prs acc.reverse))]) = .nx [some x, some (.cell S.length), some (.d (.int r.1)), some (.d (.int r.2))] (S ++ [some (.lst (prs (addR acc r).reverse))]) := by
  have hg : ∀ o : Option Cell, (S ++ [o])[S.length]? = some o := fun o => by simp
  have hs : ∀ a b : Option Cell, (S ++ [a]).set S.length b = S ++ [b] := fun a b => by simp
  have f0 : fit 60 (.lst []) = true := fit_ints 59 []
  have app : ∀ acc : Rn, acc.length ≤ 1000 → eApp (eVar 1) (eCall fTup (eCons (eVar 2) (eCons (eVar 3) eNil))) [some x, some (.cell S.length), some (.d (.int r.1)), some (.d (.int r.2))] (S ++ [some (.lst (prs acc.reverse))]) = .ok (.d .non) (S ++ [some (.lst (prs (r :: acc).reverse))]) := fun acc h => by
    have := app_last (i := 1) (e := eCall fTup (eCons (eVar 2) (eCons (eVar 3) eNil))) (Γ := [some x, some (.cell S.length), some (.d (.int r.1)), some (.d (.int r.2))]) (S := S) (S' := S) (ds := prs acc.reverse) (d := prD r) rfl (by simp only [funD, finF, fin, sNil, sSeq, sEx, sRet, sRetN, sAsg, sNew, sIf, sAsgT, sPar, sFrz, sRetC, sNever, sBrk, sCont, sFor, eVar, eC, eBin, eUn, eTest, eAnd, eOr, eNot, eIf, eChain, eNil, eCons, eCall, eSl, eoN, eoS, eApp, eExt, ePop, sSet, itV, itR1, itR2, itEn, itZ, eLc, asB, clo, fTup, fLst, fAddL, fMulL, fI, fAdd, fSub, fMul, fDiv, fMod, fPow, fNeg, fLt, fLe, fGt, fGe, fEq, fNe, fIx, fIsN, fNotN, Pd.isNon, fLen, fAbs, fInt, fTuple, fList, fSum, fAll, fAny, fMax2, fMin2, isiD, fIsi, fSl, fRev, fSorted, fRepr, rd, R.bind, R.fl, F.lp, noX, tYesD, lcY, tgN, tgsNil, tgsCons, tgT, wipeE, keepB, List.map_cons, List.map_nil, List.replicate_succ, List.replicate_zero, List.cons_append, List.nil_append, List.append_nil, List.length_cons, List.length_nil, List.length_append, List.getElem?_cons_zero, List.getElem?_cons_succ, List.getElem?_nil, List.set_cons_zero, List.set_cons_succ, List.take_zero, List.take_succ_cons, List.take_nil, Option.map_some, Option.map_none, Option.bind_some, Option.bind_none, Nat.zero_add, Nat.add_zero, Nat.reduceAdd, Nat.reduceLeDiff, Nat.reduceSub, Nat.reduceEqDiff, Int.reduceLT, Int.reduceLE, Int.reduceEq, Int.reduceNeg, Int.reduceAdd, Int.reduceSub, Int.reduceMul, decide_true, decide_false, ↓reduceIte, decide_eq_true_eq, Bool.not_eq_true', decide_eq_false_iff_not, Bool.false_eq_true, Bool.true_eq_false, Bool.not_true, Bool.not_false, true_and, and_true, and_self, false_and, and_false, cap, prD]) rfl (by simp; omega)
    rw [this]
    simp [prs]
  cases acc with
  | nil =>
    have t1 : eTest (eAnd (eBin fNe (eVar 1) (eCall fLst eNil)) (eBin fEq (eBin fIx (eBin fIx (eVar 1) (eUn fNeg (eC (.int 1)))) (eC (.int 0))) (eVar 2))) [some x, some (.cell S.length), some (.d (.int r.1)), some (.d (.int r.2))] (S ++ [some (.lst (prs ([] : Rn).reverse))]) = .ok false (S ++ [some (.lst (prs ([] : Rn).reverse))]) := by
      refine tand_f (t_i (b2 (S1 := S ++ [some (.lst (prs ([] : Rn).reverse))]) (y := .d (.lst [])) (S2 := S ++ [some (.lst (prs ([] : Rn).reverse))]) rfl (by simp only [funD, finF, fin, sNil, sSeq, sEx, sRet, sRetN, sAsg, sNew, sIf, sAsgT, sPar, sFrz, sRetC, sNever, sBrk, sCont, sFor, eVar, eC, eBin, eUn, eTest, eAnd, eOr, eNot, eIf, eChain, eNil, eCons, eCall, eSl, eoN, eoS, eApp, eExt, ePop, sSet, itV, itR1, itR2, itEn, itZ, eLc, asB, clo, fTup, fLst, fAddL, fMulL, fI, fAdd, fSub, fMul, fDiv, fMod, fPow, fNeg, fLt, fLe, fGt, fGe, fEq, fNe, fIx, fIsN, fNotN, Pd.isNon, fLen, fAbs, fInt, fTuple, fList, fSum, fAll, fAny, fMax2, fMin2, isiD, fIsi, fSl, fRev, fSorted, fRepr, rd, R.bind, R.fl, F.lp, noX, tYesD, lcY, tgN, tgsNil, tgsCons, tgT, wipeE, keepB, List.map_cons, List.map_nil, List.replicate_succ, List.replicate_zero, List.cons_append, List.nil_append, List.append_nil, List.length_cons, List.length_nil, List.length_append, List.getElem?_cons_zero, List.getElem?_cons_succ, List.getElem?_nil, List.set_cons_zero, List.set_cons_succ, List.take_zero, List.take_succ_cons, List.take_nil, Option.map_some, Option.map_none, Option.bind_some, Option.bind_none, Nat.zero_add, Nat.add_zero, Nat.reduceAdd, Nat.reduceLeDiff, Nat.reduceSub, Nat.reduceEqDiff, Int.reduceLT, Int.reduceLE, Int.reduceEq, Int.reduceNeg, Int.reduceAdd, Int.reduceSub, Int.reduceMul, decide_true, decide_false, ↓reduceIte, decide_eq_true_eq, Bool.not_eq_true', decide_eq_false_iff_not, Bool.false_eq_true, Bool.true_eq_false, Bool.not_true, Bool.not_false, true_and, and_true, and_self, false_and, and_false, cap]) ?_))
      simp only [fNe, rd, hg, List.reverse_nil, prs, List.map_nil, f0, and_self, if_true]
      simp [D.eqv, eqvL]
    refine if_f t1 ?_
    by_cases q : 0 < r.2
    · refine if_t (t_i (b2 rfl rfl (q := .ok (.d (.bl true)) (S ++ [some (.lst (prs ([] : Rn).reverse))])) (by simp only [fGt, fI, q, decide_true]))) ?_
      rw [show addR [] r = [r] by unfold addR; simp [q]]
      exact ex_i (app [] (by simp))
    · refine if_f (t_i (b2 rfl rfl (q := .ok (.d (.bl false)) (S ++ [some (.lst (prs ([] : Rn).reverse))])) (by simp only [fGt, fI, q, decide_false]))) ?_
      rw [show addR [] r = [] by unfold addR; simp [q]]
      rfl
  | cons l t =>
    generalize hT : S ++ [some (.lst (prs (l :: t).reverse))] = T
    have hgT : T[S.length]? = some (some (.lst (prs (l :: t).reverse))) := by rw [← hT]; exact hg _
    have neg : ∀ Γ, eUn fNeg (eC (.int 1)) Γ T = .ok (.d (.int (-1))) T := fun Γ => by simp only [funD, finF, fin, sNil, sSeq, sEx, sRet, sRetN, sAsg, sNew, sIf, sAsgT, sPar, sFrz, sRetC, sNever, sBrk, sCont, sFor, eVar, eC, eBin, eUn, eTest, eAnd, eOr, eNot, eIf, eChain, eNil, eCons, eCall, eSl, eoN, eoS, eApp, eExt, ePop, sSet, itV, itR1, itR2, itEn, itZ, eLc, asB, clo, fTup, fLst, fAddL, fMulL, fI, fAdd, fSub, fMul, fDiv, fMod, fPow, fNeg, fLt, fLe, fGt, fGe, fEq, fNe, fIx, fIsN, fNotN, Pd.isNon, fLen, fAbs, fInt, fTuple, fList, fSum, fAll, fAny, fMax2, fMin2, isiD, fIsi, fSl, fRev, fSorted, fRepr, rd, R.bind, R.fl, F.lp, noX, tYesD, lcY, tgN, tgsNil, tgsCons, tgT, wipeE, keepB, List.map_cons, List.map_nil, List.replicate_succ, List.replicate_zero, List.cons_append, List.nil_append, List.append_nil, List.length_cons, List.length_nil, List.length_append, List.getElem?_cons_zero, List.getElem?_cons_succ, List.getElem?_nil, List.set_cons_zero, List.set_cons_succ, List.take_zero, List.take_succ_cons, List.take_nil, Option.map_some, Option.map_none, Option.bind_some, Option.bind_none, Nat.zero_add, Nat.add_zero, Nat.reduceAdd, Nat.reduceLeDiff, Nat.reduceSub, Nat.reduceEqDiff, Int.reduceLT, Int.reduceLE, Int.reduceEq, Int.reduceNeg, Int.reduceAdd, Int.reduceSub, Int.reduceMul, decide_true, decide_false, ↓reduceIte, decide_eq_true_eq, Bool.not_eq_true', decide_eq_false_iff_not, Bool.false_eq_true, Bool.true_eq_false, Bool.not_true, Bool.not_false, true_and, and_true, and_self, false_and, and_false]
    have lst : eBin fIx (eVar 1) (eUn fNeg (eC (.int 1))) [some x, some (.cell S.length), some (.d (.int r.1)), some (.d (.int r.2))] T = .ok (.d (prD l)) T := b2 (S1 := T) (S2 := T) rfl (neg _) (by simp only [fIx, rd, hgT, last_rev])
    have n1 : eTest (eBin fNe (eVar 1) (eCall fLst eNil)) [some x, some (.cell S.length), some (.d (.int r.1)), some (.d (.int r.2))] T = .ok true T := by
      refine t_i (b2 (S1 := T) (y := .d (.lst [])) (S2 := T) rfl (by simp only [funD, finF, fin, sNil, sSeq, sEx, sRet, sRetN, sAsg, sNew, sIf, sAsgT, sPar, sFrz, sRetC, sNever, sBrk, sCont, sFor, eVar, eC, eBin, eUn, eTest, eAnd, eOr, eNot, eIf, eChain, eNil, eCons, eCall, eSl, eoN, eoS, eApp, eExt, ePop, sSet, itV, itR1, itR2, itEn, itZ, eLc, asB, clo, fTup, fLst, fAddL, fMulL, fI, fAdd, fSub, fMul, fDiv, fMod, fPow, fNeg, fLt, fLe, fGt, fGe, fEq, fNe, fIx, fIsN, fNotN, Pd.isNon, fLen, fAbs, fInt, fTuple, fList, fSum, fAll, fAny, fMax2, fMin2, isiD, fIsi, fSl, fRev, fSorted, fRepr, rd, R.bind, R.fl, F.lp, noX, tYesD, lcY, tgN, tgsNil, tgsCons, tgT, wipeE, keepB, List.map_cons, List.map_nil, List.replicate_succ, List.replicate_zero, List.cons_append, List.nil_append, List.append_nil, List.length_cons, List.length_nil, List.length_append, List.getElem?_cons_zero, List.getElem?_cons_succ, List.getElem?_nil, List.set_cons_zero, List.set_cons_succ, List.take_zero, List.take_succ_cons, List.take_nil, Option.map_some, Option.map_none, Option.bind_some, Option.bind_none, Nat.zero_add, Nat.add_zero, Nat.reduceAdd, Nat.reduceLeDiff, Nat.reduceSub, Nat.reduceEqDiff, Int.reduceLT, Int.reduceLE, Int.reduceEq, Int.reduceNeg, Int.reduceAdd, Int.reduceSub, Int.reduceMul, decide_true, decide_false, ↓reduceIte, decide_eq_true_eq, Bool.not_eq_true', decide_eq_false_iff_not, Bool.false_eq_true, Bool.true_eq_false, Bool.not_true, Bool.not_false, true_and, and_true, and_self, false_and, and_false, cap]) ?_)
      have e := ne_nil (l :: t).reverse
      rw [decide_eq_false (by simp)] at e
      simp only [fNe, rd, hgT, fit_lprs 58, f0, and_self, if_true, e, Bool.not_false]
    have n2 : eTest (eBin fEq (eBin fIx (eBin fIx (eVar 1) (eUn fNeg (eC (.int 1)))) (eC (.int 0))) (eVar 2)) [some x, some (.cell S.length), some (.d (.int r.1)), some (.d (.int r.2))] T = .ok (l.1 == r.1) T := by
      refine t_i (b2 (S1 := T) (S2 := T) (x := .d (.int l.1)) (b2 (S1 := T) (S2 := T) lst rfl ?_) rfl ?_)
      · simp only [fIx, rd, prD, atI_0, List.getElem?_cons_zero]
      · simp [fEq, rd, fit_int, D.eqv]
    by_cases q : l.1 = r.1
    · have n2 : eTest (eBin fEq (eBin fIx (eBin fIx (eVar 1) (eUn fNeg (eC (.int 1)))) (eC (.int 0))) (eVar 2)) [some x, some (.cell S.length), some (.d (.int r.1)), some (.d (.int r.2))] T = .ok true T := by rw [n2]; simp [q]
      refine if_t (tand_t n1 n2) ?_
      rw [show addR (l :: t) r = (r.1, l.2 + r.2) :: t by unfold addR; simp [q]]
      have val : eCall fTup (eCons (eVar 2) (eCons (eBin fAdd (eBin fIx (eBin fIx (eVar 1) (eUn fNeg (eC (.int 1)))) (eC (.int 1))) (eVar 3)) eNil)) [some x, some (.cell S.length), some (.d (.int r.1)), some (.d (.int r.2))] T = .ok (.d (prD (r.1, l.2 + r.2))) T := by
        refine c2 (S1 := T) (S2 := T) rfl (b2 (S1 := T) (S2 := T) (x := .d (.int l.2)) (b2 (S1 := T) (S2 := T) lst rfl ?_) rfl rfl) ?_
        · simp only [fIx, rd, prD, atI_1, List.getElem?_cons_succ, List.getElem?_cons_zero]
        · simp only [funD, finF, fin, sNil, sSeq, sEx, sRet, sRetN, sAsg, sNew, sIf, sAsgT, sPar, sFrz, sRetC, sNever, sBrk, sCont, sFor, eVar, eC, eBin, eUn, eTest, eAnd, eOr, eNot, eIf, eChain, eNil, eCons, eCall, eSl, eoN, eoS, eApp, eExt, ePop, sSet, itV, itR1, itR2, itEn, itZ, eLc, asB, clo, fTup, fLst, fAddL, fMulL, fI, fAdd, fSub, fMul, fDiv, fMod, fPow, fNeg, fLt, fLe, fGt, fGe, fEq, fNe, fIx, fIsN, fNotN, Pd.isNon, fLen, fAbs, fInt, fTuple, fList, fSum, fAll, fAny, fMax2, fMin2, isiD, fIsi, fSl, fRev, fSorted, fRepr, rd, R.bind, R.fl, F.lp, noX, tYesD, lcY, tgN, tgsNil, tgsCons, tgT, wipeE, keepB, List.map_cons, List.map_nil, List.replicate_succ, List.replicate_zero, List.cons_append, List.nil_append, List.append_nil, List.length_cons, List.length_nil, List.length_append, List.getElem?_cons_zero, List.getElem?_cons_succ, List.getElem?_nil, List.set_cons_zero, List.set_cons_succ, List.take_zero, List.take_succ_cons, List.take_nil, Option.map_some, Option.map_none, Option.bind_some, Option.bind_none, Nat.zero_add, Nat.add_zero, Nat.reduceAdd, Nat.reduceLeDiff, Nat.reduceSub, Nat.reduceEqDiff, Int.reduceLT, Int.reduceLE, Int.reduceEq, Int.reduceNeg, Int.reduceAdd, Int.reduceSub, Int.reduceMul, decide_true, decide_false, ↓reduceIte, decide_eq_true_eq, Bool.not_eq_true', decide_eq_false_iff_not, Bool.false_eq_true, Bool.true_eq_false, Bool.not_true, Bool.not_false, true_and, and_true, and_self, false_and, and_false, cap, prD]
      have ix : ixN (prs (l :: t).reverse).length (-1) = some ((prs (l :: t).reverse).length - 1) := by
        unfold ixN
        rw [if_neg (by decide), if_pos (by simp; omega)]
        congr 1
        simp
        omega
      unfold sSet
      simp only [eVar, List.getElem?_cons_succ, List.getElem?_cons_zero, val, neg, R.bind, R.fl, hgT, ix]
      rw [← hT, hs, set_rev]
    · have n2 : eTest (eBin fEq (eBin fIx (eBin fIx (eVar 1) (eUn fNeg (eC (.int 1)))) (eC (.int 0))) (eVar 2)) [some x, some (.cell S.length), some (.d (.int r.1)), some (.d (.int r.2))] T = .ok false T := by rw [n2]; simp [q]
      refine if_f (tand_t n1 n2) ?_
      by_cases z : 0 < r.2
      · refine if_t (t_i (b2 rfl rfl (q := .ok (.d (.bl true)) T) (by simp only [fGt, fI, z, decide_true]))) ?_
        rw [show addR (l :: t) r = r :: l :: t by unfold addR; simp [q, z], ← hT]
        exact ex_i (app (l :: t) hl)
      · refine if_f (t_i (b2 rfl rfl (q := .ok (.d (.bl false)) T) (by simp only [fGt, fI, z, decide_false]))) ?_
        rw [show addR (l :: t) r = l :: t by unfold addR; simp [q, z], ← hT]
        rfl
theorem addR_len (acc : Rn) (r : Int × Int) : (addR acc r).length ≤ acc.length + 1 := by
  cases acc with
  | nil => unfold addR; dsimp only; split <;> simp
  | cons l t => unfold addR; dsimp only; split <;> (try split) <;> simp
theorem addAll_len : ∀ (rs acc : Rn), (addAll acc rs).length ≤ acc.length + rs.length
  | [], acc => by simp [addAll]
  | r :: rs, acc => by
    have h1 := addAll_len rs (addR acc r)
    have h2 := addR_len acc r
    show (addAll (addR acc r) rs).length ≤ _
    rw [List.length_cons]
    omega
theorem lean_in_ex (rs : Rn) (x : Val) (S : Store) (hx : ∀ Γ S, itV (eVar 0) (some x :: Γ) S = .ok (prs rs) S) (hl : rs.length ≤ 900) : d_lean_in [x] S = .ok (.d (.lst (prs (leanR rs)))) S := by
  have hg : ∀ o : Option Cell, (S ++ [o])[S.length]? = some o := fun o => by simp
  obtain ⟨Γ', S', e, ⟨o2, o3, rfl, rfl⟩⟩ := forD_inv (tg := tgT (tgsCons (tgN 2) (tgsCons (tgN 3) tgsNil))) (body := lnBody) (prs rs)
    (fun i Γ S' => ∃ o2 o3, Γ = [some x, some (.cell S.length), o2, o3] ∧ S' = S ++ [some (.lst (prs (addAll [] (rs.take i)).reverse))])
    (Γ := [some x, some (.cell S.length), none, none]) (S := S ++ [some (.lst [])]) ⟨none, none, rfl, rfl⟩ (by
      rintro i y Γ S' hy ⟨o2, o3, rfl, rfl⟩
      rw [List.getElem?_map] at hy
      by_cases hi : i < rs.length
      · rw [List.getElem?_eq_getElem hi] at hy
        cases hy
        have st := ln_step x S (addAll [] (rs.take i)) rs[i] (by
          have := addAll_len (rs.take i) []
          rw [List.length_take] at this
          simp at this
          omega)
        refine ⟨_, rfl, _, _, .inl st, some (.d (.int rs[i].1)), some (.d (.int rs[i].2)), rfl, ?_⟩
        rw [List.take_succ_eq_append_getElem hi, addAll_snoc]
      · rw [List.getElem?_eq_none (by omega)] at hy
        cases hy)
  rw [List.length_map, List.take_length] at e
  refine funD_cut (T := [none]) (sq_nx (new_i (ds := []) (S1 := S) (by simp only [funD, finF, fin, sNil, sSeq, sEx, sRet, sRetN, sAsg, sNew, sIf, sAsgT, sPar, sFrz, sRetC, sNever, sBrk, sCont, sFor, eVar, eC, eBin, eUn, eTest, eAnd, eOr, eNot, eIf, eChain, eNil, eCons, eCall, eSl, eoN, eoS, eApp, eExt, ePop, sSet, itV, itR1, itR2, itEn, itZ, eLc, asB, clo, fTup, fLst, fAddL, fMulL, fI, fAdd, fSub, fMul, fDiv, fMod, fPow, fNeg, fLt, fLe, fGt, fGe, fEq, fNe, fIx, fIsN, fNotN, Pd.isNon, fLen, fAbs, fInt, fTuple, fList, fSum, fAll, fAny, fMax2, fMin2, isiD, fIsi, fSl, fRev, fSorted, fRepr, rd, R.bind, R.fl, F.lp, noX, tYesD, lcY, tgN, tgsNil, tgsCons, tgT, wipeE, keepB, List.map_cons, List.map_nil, List.replicate_succ, List.replicate_zero, List.cons_append, List.nil_append, List.append_nil, List.length_cons, List.length_nil, List.length_append, List.getElem?_cons_zero, List.getElem?_cons_succ, List.getElem?_nil, List.set_cons_zero, List.set_cons_succ, List.take_zero, List.take_succ_cons, List.take_nil, Option.map_some, Option.map_none, Option.bind_some, Option.bind_none, Nat.zero_add, Nat.add_zero, Nat.reduceAdd, Nat.reduceLeDiff, Nat.reduceSub, Nat.reduceEqDiff, Int.reduceLT, Int.reduceLE, Int.reduceEq, Int.reduceNeg, Int.reduceAdd, Int.reduceSub, Int.reduceMul, decide_true, decide_false, ↓reduceIte, decide_eq_true_eq, Bool.not_eq_true', decide_eq_false_iff_not, Bool.false_eq_true, Bool.true_eq_false, Bool.not_true, Bool.not_false, true_and, and_true, and_self, false_and, and_false, cap])) (sq_nx (for_i (hx _ _) e) ?_)) rfl
  simp only [sRetC, hg, List.getElem?_cons_succ, List.getElem?_cons_zero]
  simp [leanR]
end L04

namespace L04
open PySem L2 Pd Pq
/-- runs that a word may be told by -/
structure OkR (w : Int) (rs : Rn) : Prop where
  len : rs.length ≤ 200
  let0 : ∀ r ∈ rs, 0 ≤ r.1
  let1 : ∀ r ∈ rs, r.1 < w
  many : ∀ r ∈ rs, 1 ≤ r.2
  sum : (rs.map (·.2)).sum ≤ 10 ^ 64
theorem OkR.nn {w : Int} {rs : Rn} (h : OkR w rs) : ∀ r ∈ rs, 0 ≤ r.2 := fun r hr => by have := h.many r hr; omega
theorem OkR.pos {w : Int} {rs : Rn} (h : OkR w rs) : Pos rs := fun r hr => by have := h.many r hr; omega
theorem le_sum : ∀ {rs : Rn}, (∀ r ∈ rs, 0 ≤ r.2) → ∀ r ∈ rs, r.2 ≤ (rs.map (·.2)).sum
  | r :: rs, h, q, hq => by
    have h0 : 0 ≤ (rs.map (·.2)).sum := sum_nn fun n hn => by
      obtain ⟨x, hx, rfl⟩ := List.mem_map.mp hn
      exact h x (List.mem_cons_of_mem _ hx)
    have h1 := h r List.mem_cons_self
    rw [List.map_cons, List.sum_cons]
    rcases List.mem_cons.mp hq with rfl | hq
    · omega
    · have := le_sum (rs := rs) (fun x hx => h x (List.mem_cons_of_mem _ hx)) q hq
      omega
theorem is_run_ex (w : Int) (r : Int × Int) (S : Store) (h1 : 0 ≤ r.1) (h2 : r.1 < w) (h3 : 1 ≤ r.2) (h4 : r.2 ≤ 10 ^ 64) : d_is_run [.d (.int w), .d (prD r)] S = .ok (.d (.bl true)) S := by
  have h2' : r.1 ≤ w - 1 := by omega
  have e64 : (10 : Int) ^ 64 = 10000000000000000000000000000000000000000000000000000000000000000 := by decide
  rw [e64] at h4
  unfold d_is_run
  simp only [v_ap, c_ap, un_ap, un_ok, bi_ap, bi1_ok, bi2_ok, cl_ap, cl_ok, cs_ap, cs1_ok, cs2_ok, nil_ap, t_ap, t_ok, an_ap, an_t, an_f, or_ap, or_tt, or_ff, nt_ap, nt_ok, if_ap, iff_t, iff_f, ch_ap, ch1_ok, ch2_ok, ch3_t, ch3_f, ch4_ok, oN_ap, oS_ap, so_ok, sl_ap, sl1_ok, sl2_ok, sl3_ok, fSl_l, fSl_t, iv_ap, iv_l, iv_t, ir_ap, ir_ok, ir_i, ie_ap, ie_l, ie_t, iz_ap, i2_ap, it1_ok, it2_ok, iZz_l, iZz_t, me_ap, me1_ok, me2_ok, nox_ok, isO_d, fPr_o, fFld_o, sq_ap, sq_n, sq_r, sq_b, sq_c, nl_ap, bk_ap, ct_ap, ex_ap, ex_ok, rt_ap, rt_ok, rn_ap, as_ap, as_ok, nw_ap, nw_ok, sf_ap, sf_t, sf_f, pr_ap, pr1_ok, pr2_ok, pt_ap, pt1_ok, pt2_ok, pt3_ok, at_ap, at_ok, oN_some, fo_ap, fo_ok, tgN_ap, tgT_ap, tgs_c, tgs_n, ob_s, funD_ap, fin_d, fin_n, tk_len, tk_app, tk_appc, get_app, set_app, add_ii, add_ll, add_tt, sub_ii, mul_ii, mul_l, mulL_l, mul_t, addL_ll, div_ii, mod_ii, pow_ii, neg_i, lt_ii, le_ii, gt_ii, ge_ii, eq_ii, ne_ii, max_ii, min_ii, isB_bb, notB_bb, ix_t, ix_l, ix_c, ixC_l, oD_s, len_l, len_t, len_s, len_c, lnC_l, rd_d, rd_c, rdC_l, all_tt, tu_l, tu_t, li_l, li_t, in_i, rev_l, rev_t, sum_l, sum_t, all_b, any_b, fTup_0, fTup_1, fTup_2, fTup_3, fTup_4, fTup_5, fLst_0, fLst_1, fLst_2, fLst_3, fLst_4, fLst_5, isi_in, isi_tt, isi_ll, isi_bi, kb_d, kb_n, kb_c, lp_n, lp_c, lp_b, lp_r, isO_d, List.set_cons_zero, List.set_cons_succ, List.getElem?_cons_zero, List.getElem?_cons_succ, List.getElem?_nil, List.map_cons, List.map_nil, List.replicate_succ, List.replicate_zero, List.cons_append, List.nil_append, List.append_nil, atI_0, atI_1, atI_2, atI_3, decide_true, decide_false, Bool.not_true, Bool.not_false, Bool.and_true, Bool.true_and, Bool.and_false, Bool.false_and, Bool.or_true, Bool.true_or, Bool.or_false, Bool.false_or, wipeE, Option.map_some, Option.map_none, List.length_cons, List.length_nil, Nat.zero_add, Nat.reduceAdd, prD, within_i, h1, h2', h3, h4, Int.cast_ofNat_Int]
theorem are_runs_ex (w : Int) (rs : Rn) (S : Store) (h : OkR w rs) : d_are_runs [.d (.int w), .d (.tup (prs rs))] S = .ok (.d (.bl true)) S := by
  have hl := h.len
  have e64 : (10 : Int) ^ 64 = 10000000000000000000000000000000000000000000000000000000000000000 := by decide
  have hs := h.sum
  rw [e64] at hs
  have l1 : (eLc (itV (eVar 1)) [2] (tgN 2) tYesD (eCall d_is_run (eCons (eVar 0) (eCons (eVar 2) eNil)))) [some (.d (.int w)), some (.d (.tup (prs rs))), none, none, none] S = .ok (.d (.lst (rs.map fun _ => .bl true))) S := by
    refine lc_map' rs prD _ rfl (by omega) fun r hr => ⟨_, rfl, rfl, ?_⟩
    have e := is_run_ex w r S (h.let0 r hr) (h.let1 r hr) (h.many r hr) (Int.le_trans (le_sum h.nn r hr) h.sum)
    simp only [v_ap, c_ap, un_ap, un_ok, bi_ap, bi1_ok, bi2_ok, cl_ap, cl_ok, cs_ap, cs1_ok, cs2_ok, nil_ap, t_ap, t_ok, an_ap, an_t, an_f, or_ap, or_tt, or_ff, nt_ap, nt_ok, if_ap, iff_t, iff_f, ch_ap, ch1_ok, ch2_ok, ch3_t, ch3_f, ch4_ok, oN_ap, oS_ap, so_ok, sl_ap, sl1_ok, sl2_ok, sl3_ok, fSl_l, fSl_t, iv_ap, iv_l, iv_t, ir_ap, ir_ok, ir_i, ie_ap, ie_l, ie_t, iz_ap, i2_ap, it1_ok, it2_ok, iZz_l, iZz_t, me_ap, me1_ok, me2_ok, nox_ok, isO_d, fPr_o, fFld_o, sq_ap, sq_n, sq_r, sq_b, sq_c, nl_ap, bk_ap, ct_ap, ex_ap, ex_ok, rt_ap, rt_ok, rn_ap, as_ap, as_ok, nw_ap, nw_ok, sf_ap, sf_t, sf_f, pr_ap, pr1_ok, pr2_ok, pt_ap, pt1_ok, pt2_ok, pt3_ok, at_ap, at_ok, oN_some, fo_ap, fo_ok, tgN_ap, tgT_ap, tgs_c, tgs_n, ob_s, funD_ap, fin_d, fin_n, tk_len, tk_app, tk_appc, get_app, set_app, add_ii, add_ll, add_tt, sub_ii, mul_ii, mul_l, mulL_l, mul_t, addL_ll, div_ii, mod_ii, pow_ii, neg_i, lt_ii, le_ii, gt_ii, ge_ii, eq_ii, ne_ii, max_ii, min_ii, isB_bb, notB_bb, ix_t, ix_l, ix_c, ixC_l, oD_s, len_l, len_t, len_s, len_c, lnC_l, rd_d, rd_c, rdC_l, all_tt, tu_l, tu_t, li_l, li_t, in_i, rev_l, rev_t, sum_l, sum_t, all_b, any_b, fTup_0, fTup_1, fTup_2, fTup_3, fTup_4, fTup_5, fLst_0, fLst_1, fLst_2, fLst_3, fLst_4, fLst_5, isi_in, isi_tt, isi_ll, isi_bi, kb_d, kb_n, kb_c, lp_n, lp_c, lp_b, lp_r, isO_d, List.set_cons_zero, List.set_cons_succ, List.getElem?_cons_zero, List.getElem?_cons_succ, List.getElem?_nil, List.map_cons, List.map_nil, List.replicate_succ, List.replicate_zero, List.cons_append, List.nil_append, List.append_nil, atI_0, atI_1, atI_2, atI_3, decide_true, decide_false, Bool.not_true, Bool.not_false, Bool.and_true, Bool.true_and, Bool.and_false, Bool.false_and, Bool.or_true, Bool.true_or, Bool.or_false, Bool.false_or, wipeE, Option.map_some, Option.map_none, List.length_cons, List.length_nil, Nat.zero_add, Nat.reduceAdd, e]
  have l2 : (eLc (itV (eVar 1)) [3, 4] (tgT (tgsCons (tgN 3) (tgsCons (tgN 4) tgsNil))) tYesD (eVar 4)) [some (.d (.int w)), some (.d (.tup (prs rs))), none, none, none] S = .ok (.d (.lst ((rs.map (·.2)).map .int))) S := by
    rw [List.map_map]
    refine lc_map' rs prD _ rfl (by omega) fun r hr => ⟨_, rfl, rfl, ?_⟩
    simp only [v_ap, c_ap, un_ap, un_ok, bi_ap, bi1_ok, bi2_ok, cl_ap, cl_ok, cs_ap, cs1_ok, cs2_ok, nil_ap, t_ap, t_ok, an_ap, an_t, an_f, or_ap, or_tt, or_ff, nt_ap, nt_ok, if_ap, iff_t, iff_f, ch_ap, ch1_ok, ch2_ok, ch3_t, ch3_f, ch4_ok, oN_ap, oS_ap, so_ok, sl_ap, sl1_ok, sl2_ok, sl3_ok, fSl_l, fSl_t, iv_ap, iv_l, iv_t, ir_ap, ir_ok, ir_i, ie_ap, ie_l, ie_t, iz_ap, i2_ap, it1_ok, it2_ok, iZz_l, iZz_t, me_ap, me1_ok, me2_ok, nox_ok, isO_d, fPr_o, fFld_o, sq_ap, sq_n, sq_r, sq_b, sq_c, nl_ap, bk_ap, ct_ap, ex_ap, ex_ok, rt_ap, rt_ok, rn_ap, as_ap, as_ok, nw_ap, nw_ok, sf_ap, sf_t, sf_f, pr_ap, pr1_ok, pr2_ok, pt_ap, pt1_ok, pt2_ok, pt3_ok, at_ap, at_ok, oN_some, fo_ap, fo_ok, tgN_ap, tgT_ap, tgs_c, tgs_n, ob_s, funD_ap, fin_d, fin_n, tk_len, tk_app, tk_appc, get_app, set_app, add_ii, add_ll, add_tt, sub_ii, mul_ii, mul_l, mulL_l, mul_t, addL_ll, div_ii, mod_ii, pow_ii, neg_i, lt_ii, le_ii, gt_ii, ge_ii, eq_ii, ne_ii, max_ii, min_ii, isB_bb, notB_bb, ix_t, ix_l, ix_c, ixC_l, oD_s, len_l, len_t, len_s, len_c, lnC_l, rd_d, rd_c, rdC_l, all_tt, tu_l, tu_t, li_l, li_t, in_i, rev_l, rev_t, sum_l, sum_t, all_b, any_b, fTup_0, fTup_1, fTup_2, fTup_3, fTup_4, fTup_5, fLst_0, fLst_1, fLst_2, fLst_3, fLst_4, fLst_5, isi_in, isi_tt, isi_ll, isi_bi, kb_d, kb_n, kb_c, lp_n, lp_c, lp_b, lp_r, isO_d, List.set_cons_zero, List.set_cons_succ, List.getElem?_cons_zero, List.getElem?_cons_succ, List.getElem?_nil, List.map_cons, List.map_nil, List.replicate_succ, List.replicate_zero, List.cons_append, List.nil_append, List.append_nil, atI_0, atI_1, atI_2, atI_3, decide_true, decide_false, Bool.not_true, Bool.not_false, Bool.and_true, Bool.true_and, Bool.and_false, Bool.false_and, Bool.or_true, Bool.true_or, Bool.or_false, Bool.false_or, wipeE, Option.map_some, Option.map_none, List.length_cons, List.length_nil, Nat.zero_add, Nat.reduceAdd, prD]
    rfl
  have hl' : ¬ (200 : Int) < (prs rs).length := by simp; omega
  unfold d_are_runs
  simp only [v_ap, c_ap, un_ap, un_ok, bi_ap, bi1_ok, bi2_ok, cl_ap, cl_ok, cs_ap, cs1_ok, cs2_ok, nil_ap, t_ap, t_ok, an_ap, an_t, an_f, or_ap, or_tt, or_ff, nt_ap, nt_ok, if_ap, iff_t, iff_f, ch_ap, ch1_ok, ch2_ok, ch3_t, ch3_f, ch4_ok, oN_ap, oS_ap, so_ok, sl_ap, sl1_ok, sl2_ok, sl3_ok, fSl_l, fSl_t, iv_ap, iv_l, iv_t, ir_ap, ir_ok, ir_i, ie_ap, ie_l, ie_t, iz_ap, i2_ap, it1_ok, it2_ok, iZz_l, iZz_t, me_ap, me1_ok, me2_ok, nox_ok, isO_d, fPr_o, fFld_o, sq_ap, sq_n, sq_r, sq_b, sq_c, nl_ap, bk_ap, ct_ap, ex_ap, ex_ok, rt_ap, rt_ok, rn_ap, as_ap, as_ok, nw_ap, nw_ok, sf_ap, sf_t, sf_f, pr_ap, pr1_ok, pr2_ok, pt_ap, pt1_ok, pt2_ok, pt3_ok, at_ap, at_ok, oN_some, fo_ap, fo_ok, tgN_ap, tgT_ap, tgs_c, tgs_n, ob_s, funD_ap, fin_d, fin_n, tk_len, tk_app, tk_appc, get_app, set_app, add_ii, add_ll, add_tt, sub_ii, mul_ii, mul_l, mulL_l, mul_t, addL_ll, div_ii, mod_ii, pow_ii, neg_i, lt_ii, le_ii, gt_ii, ge_ii, eq_ii, ne_ii, max_ii, min_ii, isB_bb, notB_bb, ix_t, ix_l, ix_c, ixC_l, oD_s, len_l, len_t, len_s, len_c, lnC_l, rd_d, rd_c, rdC_l, all_tt, tu_l, tu_t, li_l, li_t, in_i, rev_l, rev_t, sum_l, sum_t, all_b, any_b, fTup_0, fTup_1, fTup_2, fTup_3, fTup_4, fTup_5, fLst_0, fLst_1, fLst_2, fLst_3, fLst_4, fLst_5, isi_in, isi_tt, isi_ll, isi_bi, kb_d, kb_n, kb_c, lp_n, lp_c, lp_b, lp_r, isO_d, List.set_cons_zero, List.set_cons_succ, List.getElem?_cons_zero, List.getElem?_cons_succ, List.getElem?_nil, List.map_cons, List.map_nil, List.replicate_succ, List.replicate_zero, List.cons_append, List.nil_append, List.append_nil, atI_0, atI_1, atI_2, atI_3, decide_true, decide_false, Bool.not_true, Bool.not_false, Bool.and_true, Bool.true_and, Bool.and_false, Bool.false_and, Bool.or_true, Bool.true_or, Bool.or_false, Bool.false_or, wipeE, Option.map_some, Option.map_none, List.length_cons, List.length_nil, Nat.zero_add, Nat.reduceAdd, l1, l2, hl', hs, List.all_eq_true, implies_true]
end L04

namespace L04
open PySem L2 Pd Pq
abbrev wD (w : Int) (rs : Rn) : D := .obj "Word" [.tup (prs rs), .int w]
theorem mkO_ok {c : Str} {d : List Val → Store → R Val} {xs : List Val} {S : Store} {fs : List (Option D)} {ds : List D} (h : d (.cell S.length :: xs) (S ++ [some (.obj c [])]) = .ok (.d .non) (S ++ [some (.obj c fs)])) (ha : allF fs = some ds) (ne : ds ≠ []) : mkO c d xs S = .ok (.d (.obj c ds)) S := by
  unfold mkO
  rw [h]
  simp only [get_app, ha, tk_app]
  rw [if_pos ⟨ne, trivial⟩]
theorem put2_new {c : Str} {ea eb : Ev} {Γ : Pd.Env} {S : Store} {x y : D} {j : Nat} (h1 : ea Γ (S ++ [some (.obj c [])]) = .ok (.d x) (S ++ [some (.obj c [])])) (h2 : eb Γ (S ++ [some (.obj c [])]) = .ok (.d y) (S ++ [some (.obj c [])])) (h3 : Γ[j]? = some (some (.cell S.length))) :
    sPut2 j c 1 0 ea eb Γ (S ++ [some (.obj c [])]) = .nx Γ (S ++ [some (.obj c [some y, some x])]) := by
  unfold sPut2
  simp only [h1, R.fl, h2, h3, putO, get_app, if_true, Option.bind_some, set_app, Pd.putF]
  rfl
theorem Pos.alt_len {rs : Rn} : (leanR rs).length ≤ rs.length := by
  have := addAll_len rs []
  unfold leanR
  rw [List.length_reverse]
  simpa using this
theorem mk_ex (w : Int) (rs : Rn) (S : Store) (h1 : 1 ≤ w) (h2 : w ≤ 8) (h : OkR w rs) : mkO "Word" d_Word___init__ [.d (.int w), .d (.tup (prs rs))] S = .ok (.d (wD w (leanR rs))) S := by
  have hl := h.len
  refine mkO_ok (fs := [some (.tup (prs (leanR rs))), some (.int w)]) ?_ rfl (by simp)
  have e1 := are_runs_ex w rs (S ++ [some (.obj "Word" [])]) h
  have e2 := lean_in_ex rs (.d (.tup (prs rs))) (S ++ [some (.obj "Word" [])]) (fun _ _ => rfl) (by omega)
  have p := put2_new (c := "Word") (ea := eVar 1) (eb := eUn fTuple (eCall d_lean_in (eCons (eVar 2) eNil))) (Γ := [some (.cell S.length), some (.d (.int w)), some (.d (.tup (prs rs)))]) (S := S) (x := .int w) (y := .tup (prs (leanR rs))) (j := 0) rfl (by simp only [v_ap, c_ap, un_ap, un_ok, bi_ap, bi1_ok, bi2_ok, cl_ap, cl_ok, cs_ap, cs1_ok, cs2_ok, nil_ap, t_ap, t_ok, an_ap, an_t, an_f, or_ap, or_tt, or_ff, nt_ap, nt_ok, if_ap, iff_t, iff_f, ch_ap, ch1_ok, ch2_ok, ch3_t, ch3_f, ch4_ok, oN_ap, oS_ap, so_ok, sl_ap, sl1_ok, sl2_ok, sl3_ok, fSl_l, fSl_t, iv_ap, iv_l, iv_t, ir_ap, ir_ok, ir_i, ie_ap, ie_l, ie_t, iz_ap, i2_ap, it1_ok, it2_ok, iZz_l, iZz_t, me_ap, me1_ok, me2_ok, nox_ok, isO_d, fPr_o, fFld_o, sq_ap, sq_n, sq_r, sq_b, sq_c, nl_ap, bk_ap, ct_ap, ex_ap, ex_ok, rt_ap, rt_ok, rn_ap, as_ap, as_ok, nw_ap, nw_ok, sf_ap, sf_t, sf_f, pr_ap, pr1_ok, pr2_ok, pt_ap, pt1_ok, pt2_ok, pt3_ok, at_ap, at_ok, oN_some, fo_ap, fo_ok, tgN_ap, tgT_ap, tgs_c, tgs_n, ob_s, funD_ap, fin_d, fin_n, tk_len, tk_app, tk_appc, get_app, set_app, add_ii, add_ll, add_tt, sub_ii, mul_ii, mul_l, mulL_l, mul_t, addL_ll, div_ii, mod_ii, pow_ii, neg_i, lt_ii, le_ii, gt_ii, ge_ii, eq_ii, ne_ii, max_ii, min_ii, isB_bb, notB_bb, ix_t, ix_l, ix_c, ixC_l, oD_s, len_l, len_t, len_s, len_c, lnC_l, rd_d, rd_c, rdC_l, all_tt, tu_l, tu_t, li_l, li_t, in_i, rev_l, rev_t, sum_l, sum_t, all_b, any_b, fTup_0, fTup_1, fTup_2, fTup_3, fTup_4, fTup_5, fLst_0, fLst_1, fLst_2, fLst_3, fLst_4, fLst_5, isi_in, isi_tt, isi_ll, isi_bi, kb_d, kb_n, kb_c, lp_n, lp_c, lp_b, lp_r, isO_d, List.set_cons_zero, List.set_cons_succ, List.getElem?_cons_zero, List.getElem?_cons_succ, List.getElem?_nil, List.map_cons, List.map_nil, List.replicate_succ, List.replicate_zero, List.cons_append, List.nil_append, List.append_nil, atI_0, atI_1, atI_2, atI_3, decide_true, decide_false, Bool.not_true, Bool.not_false, Bool.and_true, Bool.true_and, Bool.and_false, Bool.false_and, Bool.or_true, Bool.true_or, Bool.or_false, Bool.false_or, wipeE, Option.map_some, Option.map_none, List.length_cons, List.length_nil, Nat.zero_add, Nat.reduceAdd, e2]) rfl
  have tk : ∀ o o' : Option Cell, (S ++ [o]).take (S ++ [o']).length = S ++ [o] := fun o o' => List.take_of_length_le (by simp)
  unfold d_Word___init__
  simp only [v_ap, c_ap, un_ap, un_ok, bi_ap, bi1_ok, bi2_ok, cl_ap, cl_ok, cs_ap, cs1_ok, cs2_ok, nil_ap, t_ap, t_ok, an_ap, an_t, an_f, or_ap, or_tt, or_ff, nt_ap, nt_ok, if_ap, iff_t, iff_f, ch_ap, ch1_ok, ch2_ok, ch3_t, ch3_f, ch4_ok, oN_ap, oS_ap, so_ok, sl_ap, sl1_ok, sl2_ok, sl3_ok, fSl_l, fSl_t, iv_ap, iv_l, iv_t, ir_ap, ir_ok, ir_i, ie_ap, ie_l, ie_t, iz_ap, i2_ap, it1_ok, it2_ok, iZz_l, iZz_t, me_ap, me1_ok, me2_ok, nox_ok, isO_d, fPr_o, fFld_o, sq_ap, sq_n, sq_r, sq_b, sq_c, nl_ap, bk_ap, ct_ap, ex_ap, ex_ok, rt_ap, rt_ok, rn_ap, as_ap, as_ok, nw_ap, nw_ok, sf_ap, sf_t, sf_f, pr_ap, pr1_ok, pr2_ok, pt_ap, pt1_ok, pt2_ok, pt3_ok, at_ap, at_ok, oN_some, fo_ap, fo_ok, tgN_ap, tgT_ap, tgs_c, tgs_n, ob_s, funD_ap, fin_d, fin_n, tk_len, tk_app, tk_appc, get_app, set_app, add_ii, add_ll, add_tt, sub_ii, mul_ii, mul_l, mulL_l, mul_t, addL_ll, div_ii, mod_ii, pow_ii, neg_i, lt_ii, le_ii, gt_ii, ge_ii, eq_ii, ne_ii, max_ii, min_ii, isB_bb, notB_bb, ix_t, ix_l, ix_c, ixC_l, oD_s, len_l, len_t, len_s, len_c, lnC_l, rd_d, rd_c, rdC_l, all_tt, tu_l, tu_t, li_l, li_t, in_i, rev_l, rev_t, sum_l, sum_t, all_b, any_b, fTup_0, fTup_1, fTup_2, fTup_3, fTup_4, fTup_5, fLst_0, fLst_1, fLst_2, fLst_3, fLst_4, fLst_5, isi_in, isi_tt, isi_ll, isi_bi, kb_d, kb_n, kb_c, lp_n, lp_c, lp_b, lp_r, isO_d, List.set_cons_zero, List.set_cons_succ, List.getElem?_cons_zero, List.getElem?_cons_succ, List.getElem?_nil, List.map_cons, List.map_nil, List.replicate_succ, List.replicate_zero, List.cons_append, List.nil_append, List.append_nil, atI_0, atI_1, atI_2, atI_3, decide_true, decide_false, Bool.not_true, Bool.not_false, Bool.and_true, Bool.true_and, Bool.and_false, Bool.false_and, Bool.or_true, Bool.true_or, Bool.or_false, Bool.false_or, wipeE, Option.map_some, Option.map_none, List.length_cons, List.length_nil, Nat.zero_add, Nat.reduceAdd, within_i, h1, h2, e1, p]
  simp only [fin_n, tk]
theorem width_ex (w : Int) (rs : Rn) (S : Store) : d_Word_width [.d (wD w rs)] S = .ok (.d (.int w)) S := by
  unfold d_Word_width
  simp only [v_ap, c_ap, un_ap, un_ok, bi_ap, bi1_ok, bi2_ok, cl_ap, cl_ok, cs_ap, cs1_ok, cs2_ok, nil_ap, t_ap, t_ok, an_ap, an_t, an_f, or_ap, or_tt, or_ff, nt_ap, nt_ok, if_ap, iff_t, iff_f, ch_ap, ch1_ok, ch2_ok, ch3_t, ch3_f, ch4_ok, oN_ap, oS_ap, so_ok, sl_ap, sl1_ok, sl2_ok, sl3_ok, fSl_l, fSl_t, iv_ap, iv_l, iv_t, ir_ap, ir_ok, ir_i, ie_ap, ie_l, ie_t, iz_ap, i2_ap, it1_ok, it2_ok, iZz_l, iZz_t, me_ap, me1_ok, me2_ok, nox_ok, isO_d, fPr_o, fFld_o, sq_ap, sq_n, sq_r, sq_b, sq_c, nl_ap, bk_ap, ct_ap, ex_ap, ex_ok, rt_ap, rt_ok, rn_ap, as_ap, as_ok, nw_ap, nw_ok, sf_ap, sf_t, sf_f, pr_ap, pr1_ok, pr2_ok, pt_ap, pt1_ok, pt2_ok, pt3_ok, at_ap, at_ok, oN_some, fo_ap, fo_ok, tgN_ap, tgT_ap, tgs_c, tgs_n, ob_s, funD_ap, fin_d, fin_n, tk_len, tk_app, tk_appc, get_app, set_app, add_ii, add_ll, add_tt, sub_ii, mul_ii, mul_l, mulL_l, mul_t, addL_ll, div_ii, mod_ii, pow_ii, neg_i, lt_ii, le_ii, gt_ii, ge_ii, eq_ii, ne_ii, max_ii, min_ii, isB_bb, notB_bb, ix_t, ix_l, ix_c, ixC_l, oD_s, len_l, len_t, len_s, len_c, lnC_l, rd_d, rd_c, rdC_l, all_tt, tu_l, tu_t, li_l, li_t, in_i, rev_l, rev_t, sum_l, sum_t, all_b, any_b, fTup_0, fTup_1, fTup_2, fTup_3, fTup_4, fTup_5, fLst_0, fLst_1, fLst_2, fLst_3, fLst_4, fLst_5, isi_in, isi_tt, isi_ll, isi_bi, kb_d, kb_n, kb_c, lp_n, lp_c, lp_b, lp_r, isO_d, List.set_cons_zero, List.set_cons_succ, List.getElem?_cons_zero, List.getElem?_cons_succ, List.getElem?_nil, List.map_cons, List.map_nil, List.replicate_succ, List.replicate_zero, List.cons_append, List.nil_append, List.append_nil, atI_0, atI_1, atI_2, atI_3, decide_true, decide_false, Bool.not_true, Bool.not_false, Bool.and_true, Bool.true_and, Bool.and_false, Bool.false_and, Bool.or_true, Bool.true_or, Bool.or_false, Bool.false_or, wipeE, Option.map_some, Option.map_none, List.length_cons, List.length_nil, Nat.zero_add, Nat.reduceAdd]
theorem runs_ex (w : Int) (rs : Rn) (S : Store) : d_Word_runs [.d (wD w rs)] S = .ok (.d (.tup (prs rs))) S := by
  unfold d_Word_runs
  simp only [v_ap, c_ap, un_ap, un_ok, bi_ap, bi1_ok, bi2_ok, cl_ap, cl_ok, cs_ap, cs1_ok, cs2_ok, nil_ap, t_ap, t_ok, an_ap, an_t, an_f, or_ap, or_tt, or_ff, nt_ap, nt_ok, if_ap, iff_t, iff_f, ch_ap, ch1_ok, ch2_ok, ch3_t, ch3_f, ch4_ok, oN_ap, oS_ap, so_ok, sl_ap, sl1_ok, sl2_ok, sl3_ok, fSl_l, fSl_t, iv_ap, iv_l, iv_t, ir_ap, ir_ok, ir_i, ie_ap, ie_l, ie_t, iz_ap, i2_ap, it1_ok, it2_ok, iZz_l, iZz_t, me_ap, me1_ok, me2_ok, nox_ok, isO_d, fPr_o, fFld_o, sq_ap, sq_n, sq_r, sq_b, sq_c, nl_ap, bk_ap, ct_ap, ex_ap, ex_ok, rt_ap, rt_ok, rn_ap, as_ap, as_ok, nw_ap, nw_ok, sf_ap, sf_t, sf_f, pr_ap, pr1_ok, pr2_ok, pt_ap, pt1_ok, pt2_ok, pt3_ok, at_ap, at_ok, oN_some, fo_ap, fo_ok, tgN_ap, tgT_ap, tgs_c, tgs_n, ob_s, funD_ap, fin_d, fin_n, tk_len, tk_app, tk_appc, get_app, set_app, add_ii, add_ll, add_tt, sub_ii, mul_ii, mul_l, mulL_l, mul_t, addL_ll, div_ii, mod_ii, pow_ii, neg_i, lt_ii, le_ii, gt_ii, ge_ii, eq_ii, ne_ii, max_ii, min_ii, isB_bb, notB_bb, ix_t, ix_l, ix_c, ixC_l, oD_s, len_l, len_t, len_s, len_c, lnC_l, rd_d, rd_c, rdC_l, all_tt, tu_l, tu_t, li_l, li_t, in_i, rev_l, rev_t, sum_l, sum_t, all_b, any_b, fTup_0, fTup_1, fTup_2, fTup_3, fTup_4, fTup_5, fLst_0, fLst_1, fLst_2, fLst_3, fLst_4, fLst_5, isi_in, isi_tt, isi_ll, isi_bi, kb_d, kb_n, kb_c, lp_n, lp_c, lp_b, lp_r, isO_d, List.set_cons_zero, List.set_cons_succ, List.getElem?_cons_zero, List.getElem?_cons_succ, List.getElem?_nil, List.map_cons, List.map_nil, List.replicate_succ, List.replicate_zero, List.cons_append, List.nil_append, List.append_nil, atI_0, atI_1, atI_2, atI_3, decide_true, decide_false, Bool.not_true, Bool.not_false, Bool.and_true, Bool.true_and, Bool.and_false, Bool.false_and, Bool.or_true, Bool.true_or, Bool.or_false, Bool.false_or, wipeE, Option.map_some, Option.map_none, List.length_cons, List.length_nil, Nat.zero_add, Nat.reduceAdd]
theorem length_ex (w : Int) (rs : Rn) (S : Store) (h : rs.length ≤ 1000) : d_Word_length [.d (wD w rs)] S = .ok (.d (.int (rs.map (·.2)).sum)) S := by
  have l1 : (eLc (itV (eUn (fFld "Word" 0) (eVar 0))) [1, 2] (tgT (tgsCons (tgN 1) (tgsCons (tgN 2) tgsNil))) tYesD (eVar 2)) [some (.d (wD w rs)), none, none] S = .ok (.d (.lst ((rs.map (·.2)).map .int))) S := by
    rw [List.map_map]
    refine lc_map' rs prD _ (by simp only [v_ap, c_ap, un_ap, un_ok, bi_ap, bi1_ok, bi2_ok, cl_ap, cl_ok, cs_ap, cs1_ok, cs2_ok, nil_ap, t_ap, t_ok, an_ap, an_t, an_f, or_ap, or_tt, or_ff, nt_ap, nt_ok, if_ap, iff_t, iff_f, ch_ap, ch1_ok, ch2_ok, ch3_t, ch3_f, ch4_ok, oN_ap, oS_ap, so_ok, sl_ap, sl1_ok, sl2_ok, sl3_ok, fSl_l, fSl_t, iv_ap, iv_l, iv_t, ir_ap, ir_ok, ir_i, ie_ap, ie_l, ie_t, iz_ap, i2_ap, it1_ok, it2_ok, iZz_l, iZz_t, me_ap, me1_ok, me2_ok, nox_ok, isO_d, fPr_o, fFld_o, sq_ap, sq_n, sq_r, sq_b, sq_c, nl_ap, bk_ap, ct_ap, ex_ap, ex_ok, rt_ap, rt_ok, rn_ap, as_ap, as_ok, nw_ap, nw_ok, sf_ap, sf_t, sf_f, pr_ap, pr1_ok, pr2_ok, pt_ap, pt1_ok, pt2_ok, pt3_ok, at_ap, at_ok, oN_some, fo_ap, fo_ok, tgN_ap, tgT_ap, tgs_c, tgs_n, ob_s, funD_ap, fin_d, fin_n, tk_len, tk_app, tk_appc, get_app, set_app, add_ii, add_ll, add_tt, sub_ii, mul_ii, mul_l, mulL_l, mul_t, addL_ll, div_ii, mod_ii, pow_ii, neg_i, lt_ii, le_ii, gt_ii, ge_ii, eq_ii, ne_ii, max_ii, min_ii, isB_bb, notB_bb, ix_t, ix_l, ix_c, ixC_l, oD_s, len_l, len_t, len_s, len_c, lnC_l, rd_d, rd_c, rdC_l, all_tt, tu_l, tu_t, li_l, li_t, in_i, rev_l, rev_t, sum_l, sum_t, all_b, any_b, fTup_0, fTup_1, fTup_2, fTup_3, fTup_4, fTup_5, fLst_0, fLst_1, fLst_2, fLst_3, fLst_4, fLst_5, isi_in, isi_tt, isi_ll, isi_bi, kb_d, kb_n, kb_c, lp_n, lp_c, lp_b, lp_r, isO_d, List.set_cons_zero, List.set_cons_succ, List.getElem?_cons_zero, List.getElem?_cons_succ, List.getElem?_nil, List.map_cons, List.map_nil, List.replicate_succ, List.replicate_zero, List.cons_append, List.nil_append, List.append_nil, atI_0, atI_1, atI_2, atI_3, decide_true, decide_false, Bool.not_true, Bool.not_false, Bool.and_true, Bool.true_and, Bool.and_false, Bool.false_and, Bool.or_true, Bool.true_or, Bool.or_false, Bool.false_or, wipeE, Option.map_some, Option.map_none, List.length_cons, List.length_nil, Nat.zero_add, Nat.reduceAdd]) (by omega) fun r hr => ⟨_, rfl, rfl, ?_⟩
    simp only [v_ap, c_ap, un_ap, un_ok, bi_ap, bi1_ok, bi2_ok, cl_ap, cl_ok, cs_ap, cs1_ok, cs2_ok, nil_ap, t_ap, t_ok, an_ap, an_t, an_f, or_ap, or_tt, or_ff, nt_ap, nt_ok, if_ap, iff_t, iff_f, ch_ap, ch1_ok, ch2_ok, ch3_t, ch3_f, ch4_ok, oN_ap, oS_ap, so_ok, sl_ap, sl1_ok, sl2_ok, sl3_ok, fSl_l, fSl_t, iv_ap, iv_l, iv_t, ir_ap, ir_ok, ir_i, ie_ap, ie_l, ie_t, iz_ap, i2_ap, it1_ok, it2_ok, iZz_l, iZz_t, me_ap, me1_ok, me2_ok, nox_ok, isO_d, fPr_o, fFld_o, sq_ap, sq_n, sq_r, sq_b, sq_c, nl_ap, bk_ap, ct_ap, ex_ap, ex_ok, rt_ap, rt_ok, rn_ap, as_ap, as_ok, nw_ap, nw_ok, sf_ap, sf_t, sf_f, pr_ap, pr1_ok, pr2_ok, pt_ap, pt1_ok, pt2_ok, pt3_ok, at_ap, at_ok, oN_some, fo_ap, fo_ok, tgN_ap, tgT_ap, tgs_c, tgs_n, ob_s, funD_ap, fin_d, fin_n, tk_len, tk_app, tk_appc, get_app, set_app, add_ii, add_ll, add_tt, sub_ii, mul_ii, mul_l, mulL_l, mul_t, addL_ll, div_ii, mod_ii, pow_ii, neg_i, lt_ii, le_ii, gt_ii, ge_ii, eq_ii, ne_ii, max_ii, min_ii, isB_bb, notB_bb, ix_t, ix_l, ix_c, ixC_l, oD_s, len_l, len_t, len_s, len_c, lnC_l, rd_d, rd_c, rdC_l, all_tt, tu_l, tu_t, li_l, li_t, in_i, rev_l, rev_t, sum_l, sum_t, all_b, any_b, fTup_0, fTup_1, fTup_2, fTup_3, fTup_4, fTup_5, fLst_0, fLst_1, fLst_2, fLst_3, fLst_4, fLst_5, isi_in, isi_tt, isi_ll, isi_bi, kb_d, kb_n, kb_c, lp_n, lp_c, lp_b, lp_r, isO_d, List.set_cons_zero, List.set_cons_succ, List.getElem?_cons_zero, List.getElem?_cons_succ, List.getElem?_nil, List.map_cons, List.map_nil, List.replicate_succ, List.replicate_zero, List.cons_append, List.nil_append, List.append_nil, atI_0, atI_1, atI_2, atI_3, decide_true, decide_false, Bool.not_true, Bool.not_false, Bool.and_true, Bool.true_and, Bool.and_false, Bool.false_and, Bool.or_true, Bool.true_or, Bool.or_false, Bool.false_or, wipeE, Option.map_some, Option.map_none, List.length_cons, List.length_nil, Nat.zero_add, Nat.reduceAdd, prD]
    rfl
  unfold d_Word_length
  simp only [v_ap, c_ap, un_ap, un_ok, bi_ap, bi1_ok, bi2_ok, cl_ap, cl_ok, cs_ap, cs1_ok, cs2_ok, nil_ap, t_ap, t_ok, an_ap, an_t, an_f, or_ap, or_tt, or_ff, nt_ap, nt_ok, if_ap, iff_t, iff_f, ch_ap, ch1_ok, ch2_ok, ch3_t, ch3_f, ch4_ok, oN_ap, oS_ap, so_ok, sl_ap, sl1_ok, sl2_ok, sl3_ok, fSl_l, fSl_t, iv_ap, iv_l, iv_t, ir_ap, ir_ok, ir_i, ie_ap, ie_l, ie_t, iz_ap, i2_ap, it1_ok, it2_ok, iZz_l, iZz_t, me_ap, me1_ok, me2_ok, nox_ok, isO_d, fPr_o, fFld_o, sq_ap, sq_n, sq_r, sq_b, sq_c, nl_ap, bk_ap, ct_ap, ex_ap, ex_ok, rt_ap, rt_ok, rn_ap, as_ap, as_ok, nw_ap, nw_ok, sf_ap, sf_t, sf_f, pr_ap, pr1_ok, pr2_ok, pt_ap, pt1_ok, pt2_ok, pt3_ok, at_ap, at_ok, oN_some, fo_ap, fo_ok, tgN_ap, tgT_ap, tgs_c, tgs_n, ob_s, funD_ap, fin_d, fin_n, tk_len, tk_app, tk_appc, get_app, set_app, add_ii, add_ll, add_tt, sub_ii, mul_ii, mul_l, mulL_l, mul_t, addL_ll, div_ii, mod_ii, pow_ii, neg_i, lt_ii, le_ii, gt_ii, ge_ii, eq_ii, ne_ii, max_ii, min_ii, isB_bb, notB_bb, ix_t, ix_l, ix_c, ixC_l, oD_s, len_l, len_t, len_s, len_c, lnC_l, rd_d, rd_c, rdC_l, all_tt, tu_l, tu_t, li_l, li_t, in_i, rev_l, rev_t, sum_l, sum_t, all_b, any_b, fTup_0, fTup_1, fTup_2, fTup_3, fTup_4, fTup_5, fLst_0, fLst_1, fLst_2, fLst_3, fLst_4, fLst_5, isi_in, isi_tt, isi_ll, isi_bi, kb_d, kb_n, kb_c, lp_n, lp_c, lp_b, lp_r, isO_d, List.set_cons_zero, List.set_cons_succ, List.getElem?_cons_zero, List.getElem?_cons_succ, List.getElem?_nil, List.map_cons, List.map_nil, List.replicate_succ, List.replicate_zero, List.cons_append, List.nil_append, List.append_nil, atI_0, atI_1, atI_2, atI_3, decide_true, decide_false, Bool.not_true, Bool.not_false, Bool.and_true, Bool.true_and, Bool.and_false, Bool.false_and, Bool.or_true, Bool.true_or, Bool.or_false, Bool.false_or, wipeE, Option.map_some, Option.map_none, List.length_cons, List.length_nil, Nat.zero_add, Nat.reduceAdd, l1]
/-- how often a letter comes -/
def cnt (rs : Rn) (l : Nat) : Int := ((rs.filter fun r => decide ((r.1 : Int) = (l : Int))).map (·.2)).sum
theorem cnt_ex : ∀ {rs : Rn}, (∀ r ∈ rs, 0 ≤ r.2) → ∀ l : Nat, cnt rs l = ((ex rs).count (l : Int) : Nat)
  | [], _, l => rfl
  | r :: rs, h, l => by
    have ih := cnt_ex (rs := rs) (fun x hx => h x (List.mem_cons_of_mem _ hx)) l
    have h0 := h r List.mem_cons_self
    show cnt (r :: rs) l = (((List.replicate r.2.toNat r.1 ++ ex rs).count (l : Int) : Nat) : Int)
    rw [List.count_append, List.count_replicate]
    unfold cnt at ih ⊢
    rw [List.filter_cons]
    by_cases q : r.1 = l
    · simp only [q, decide_true, if_true, List.map_cons, List.sum_cons, ih, beq_self_eq_true]
      push_cast
      omega
    · have q' : ¬ (r.1 == (l : Int)) = true := by simpa using q
      simp only [q, decide_false, q']
      simpa using ih
theorem cnt_snoc (rs : Rn) (r : Int × Int) (l : Nat) : cnt (rs ++ [r]) l = cnt rs l + if r.1 = l then r.2 else 0 := by
  unfold cnt
  rw [List.filter_append, List.map_append, List.sum_append]
  congr 1
  by_cases q : r.1 = l <;> simp [q]
abbrev cns (n : Nat) (rs : Rn) : List Int := (List.range n).map (cnt rs)
theorem cns_set (n k : Nat) (rs : Rn) (r : Int × Int) (h : r.1 = k) : ((cns n rs).map D.int).set k (.int (cnt rs k + r.2)) = (cns n (rs ++ [r])).map D.int := by
  apply List.ext_getElem
  · simp
  · intro i h1 h2
    simp only [List.getElem_set, List.getElem_map, List.getElem_range, cnt_snoc, h]
    by_cases q : k = i
    · simp [q]
    · have : ¬ (k : Int) = i := by omega
      simp [q, this]
theorem counts_of_ex (n : Nat) (rs : Rn) (S : Store) (hn : n ≤ 100) (h0 : ∀ r ∈ rs, 0 ≤ r.1) (h1 : ∀ r ∈ rs, r.1 < n) : d_counts_of [.d (.int n), .d (.tup (prs rs))] S = .ok (.d (.lst ((cns n rs).map .int))) S := by
  obtain ⟨Γ', S', e, ⟨o3, o4, rfl, rfl⟩⟩ := forD_inv (tg := (tgT (tgsCons (tgN 3) (tgsCons (tgN 4) tgsNil)))) (body := (sSet (eVar 2) (eVar 3) (eBin fAdd (eBin fIx (eVar 2) (eVar 3)) (eVar 4)))) (prs rs)
    (fun i Γ S' => ∃ o3 o4, Γ = [some (.d (.int n)), some (.d (.tup (prs rs))), some (.cell S.length), o3, o4] ∧ S' = S ++ [some (.lst ((cns n (rs.take i)).map .int))])
    (Γ := [some (.d (.int n)), some (.d (.tup (prs rs))), some (.cell S.length), none, none]) (S := S ++ [some (.lst ((cns n []).map .int))]) ⟨none, none, rfl, rfl⟩ (by
      rintro i y Γ S' hy ⟨o3, o4, rfl, rfl⟩
      rw [List.getElem?_map] at hy
      by_cases hi : i < rs.length
      · rw [List.getElem?_eq_getElem hi] at hy
        cases hy
        have g0 := h0 rs[i] (List.getElem_mem hi)
        have g1 := h1 rs[i] (List.getElem_mem hi)
        obtain ⟨k, hk⟩ : ∃ k : Nat, rs[i].1 = k := ⟨rs[i].1.toNat, by omega⟩
        have hkn : k < n := by omega
        have st := st_ok (a := eVar 2) (ei := eVar 3) (ea := eBin fAdd (eBin fIx (eVar 2) (eVar 3)) (eVar 4)) (Γ := [some (.d (.int n)), some (.d (.tup (prs rs))), some (.cell S.length), some (.d (.int k)), some (.d (.int rs[i].2))]) (S := S ++ [some (.lst ((cns n (rs.take i)).map .int))]) (S1 := S ++ [some (.lst ((cns n (rs.take i)).map .int))]) (S2 := S ++ [some (.lst ((cns n (rs.take i)).map .int))]) (S3 := S ++ [some (.lst ((cns n (rs.take i)).map .int))])
          (d := .int (cnt (rs.take i) k + rs[i].2)) (k := S.length) (n := k) (ds := (cns n (rs.take i)).map .int) (m := k) (by
            have e : atI ((cns n (rs.take i)).map D.int) (k : Int) = some (.int (cnt (rs.take i) k)) := by
              rw [atI_k]; simp [hkn]
            simp only [v_ap, c_ap, un_ap, un_ok, bi_ap, bi1_ok, bi2_ok, cl_ap, cl_ok, cs_ap, cs1_ok, cs2_ok, nil_ap, t_ap, t_ok, an_ap, an_t, an_f, or_ap, or_tt, or_ff, nt_ap, nt_ok, if_ap, iff_t, iff_f, ch_ap, ch1_ok, ch2_ok, ch3_t, ch3_f, ch4_ok, oN_ap, oS_ap, so_ok, sl_ap, sl1_ok, sl2_ok, sl3_ok, fSl_l, fSl_t, iv_ap, iv_l, iv_t, ir_ap, ir_ok, ir_i, ie_ap, ie_l, ie_t, iz_ap, i2_ap, it1_ok, it2_ok, iZz_l, iZz_t, me_ap, me1_ok, me2_ok, nox_ok, isO_d, fPr_o, fFld_o, sq_ap, sq_n, sq_r, sq_b, sq_c, nl_ap, bk_ap, ct_ap, ex_ap, ex_ok, rt_ap, rt_ok, rn_ap, as_ap, as_ok, nw_ap, nw_ok, sf_ap, sf_t, sf_f, pr_ap, pr1_ok, pr2_ok, pt_ap, pt1_ok, pt2_ok, pt3_ok, at_ap, at_ok, oN_some, fo_ap, fo_ok, tgN_ap, tgT_ap, tgs_c, tgs_n, ob_s, funD_ap, fin_d, fin_n, tk_len, tk_app, tk_appc, get_app, set_app, add_ii, add_ll, add_tt, sub_ii, mul_ii, mul_l, mulL_l, mul_t, addL_ll, div_ii, mod_ii, pow_ii, neg_i, lt_ii, le_ii, gt_ii, ge_ii, eq_ii, ne_ii, max_ii, min_ii, isB_bb, notB_bb, ix_t, ix_l, ix_c, ixC_l, oD_s, len_l, len_t, len_s, len_c, lnC_l, rd_d, rd_c, rdC_l, all_tt, tu_l, tu_t, li_l, li_t, in_i, rev_l, rev_t, sum_l, sum_t, all_b, any_b, fTup_0, fTup_1, fTup_2, fTup_3, fTup_4, fTup_5, fLst_0, fLst_1, fLst_2, fLst_3, fLst_4, fLst_5, isi_in, isi_tt, isi_ll, isi_bi, kb_d, kb_n, kb_c, lp_n, lp_c, lp_b, lp_r, isO_d, List.set_cons_zero, List.set_cons_succ, List.getElem?_cons_zero, List.getElem?_cons_succ, List.getElem?_nil, List.map_cons, List.map_nil, List.replicate_succ, List.replicate_zero, List.cons_append, List.nil_append, List.append_nil, atI_0, atI_1, atI_2, atI_3, decide_true, decide_false, Bool.not_true, Bool.not_false, Bool.and_true, Bool.true_and, Bool.and_false, Bool.false_and, Bool.or_true, Bool.true_or, Bool.or_false, Bool.false_or, wipeE, Option.map_some, Option.map_none, List.length_cons, List.length_nil, Nat.zero_add, Nat.reduceAdd, e]) rfl rfl (by simp) (ixN_nat _ _ (by simpa using hkn))
        rw [set_app, cns_set n k _ _ hk, ← List.take_succ_eq_append_getElem hi] at st
        refine ⟨[some (.d (.int n)), some (.d (.tup (prs rs))), some (.cell S.length), some (.d (.int k)), some (.d (.int rs[i].2))], by rw [← hk]; rfl, _, _, .inl st, _, _, rfl, rfl⟩
      · rw [List.getElem?_eq_none (by omega)] at hy
        cases hy)
  rw [List.length_map, List.take_length] at e
  have z : (List.replicate (n : Int).toNat [D.int 0]).flatten = (cns n []).map D.int := by
    rw [Int.toNat_natCast]
    apply List.ext_getElem
    · simp
    · intro i h1 h2
      have : cnt [] i = 0 := rfl
      simp [this]
  have hn' : (n : Int) ≤ 1000000 ∧ -1000000 ≤ (n : Int) ∧ 1 * (n : Int).toNat ≤ 1000000 := by omega
  unfold d_counts_of
  simp only [v_ap, c_ap, un_ap, un_ok, bi_ap, bi1_ok, bi2_ok, cl_ap, cl_ok, cs_ap, cs1_ok, cs2_ok, nil_ap, t_ap, t_ok, an_ap, an_t, an_f, or_ap, or_tt, or_ff, nt_ap, nt_ok, if_ap, iff_t, iff_f, ch_ap, ch1_ok, ch2_ok, ch3_t, ch3_f, ch4_ok, oN_ap, oS_ap, so_ok, sl_ap, sl1_ok, sl2_ok, sl3_ok, fSl_l, fSl_t, iv_ap, iv_l, iv_t, ir_ap, ir_ok, ir_i, ie_ap, ie_l, ie_t, iz_ap, i2_ap, it1_ok, it2_ok, iZz_l, iZz_t, me_ap, me1_ok, me2_ok, nox_ok, isO_d, fPr_o, fFld_o, sq_ap, sq_n, sq_r, sq_b, sq_c, nl_ap, bk_ap, ct_ap, ex_ap, ex_ok, rt_ap, rt_ok, rn_ap, as_ap, as_ok, nw_ap, nw_ok, sf_ap, sf_t, sf_f, pr_ap, pr1_ok, pr2_ok, pt_ap, pt1_ok, pt2_ok, pt3_ok, at_ap, at_ok, oN_some, fo_ap, fo_ok, tgN_ap, tgT_ap, tgs_c, tgs_n, ob_s, funD_ap, fin_d, fin_n, tk_len, tk_app, tk_appc, get_app, set_app, add_ii, add_ll, add_tt, sub_ii, mul_ii, mul_l, mulL_l, mul_t, addL_ll, div_ii, mod_ii, pow_ii, neg_i, lt_ii, le_ii, gt_ii, ge_ii, eq_ii, ne_ii, max_ii, min_ii, isB_bb, notB_bb, ix_t, ix_l, ix_c, ixC_l, oD_s, len_l, len_t, len_s, len_c, lnC_l, rd_d, rd_c, rdC_l, all_tt, tu_l, tu_t, li_l, li_t, in_i, rev_l, rev_t, sum_l, sum_t, all_b, any_b, fTup_0, fTup_1, fTup_2, fTup_3, fTup_4, fTup_5, fLst_0, fLst_1, fLst_2, fLst_3, fLst_4, fLst_5, isi_in, isi_tt, isi_ll, isi_bi, kb_d, kb_n, kb_c, lp_n, lp_c, lp_b, lp_r, isO_d, List.set_cons_zero, List.set_cons_succ, List.getElem?_cons_zero, List.getElem?_cons_succ, List.getElem?_nil, List.map_cons, List.map_nil, List.replicate_succ, List.replicate_zero, List.cons_append, List.nil_append, List.append_nil, atI_0, atI_1, atI_2, atI_3, decide_true, decide_false, Bool.not_true, Bool.not_false, Bool.and_true, Bool.true_and, Bool.and_false, Bool.false_and, Bool.or_true, Bool.true_or, Bool.or_false, Bool.false_or, wipeE, Option.map_some, Option.map_none, List.length_cons, List.length_nil, Nat.zero_add, Nat.reduceAdd, hn', z, and_self, e, rc_ap]
theorem counts_ex (w : Nat) (rs : Rn) (S : Store) (hn : w ≤ 100) (h0 : ∀ r ∈ rs, 0 ≤ r.1) (h1 : ∀ r ∈ rs, r.1 < w) : d_Word_counts [.d (wD w rs)] S = .ok (.d (.tup ((cns w rs).map .int))) S := by
  unfold d_Word_counts
  simp only [v_ap, c_ap, un_ap, un_ok, bi_ap, bi1_ok, bi2_ok, cl_ap, cl_ok, cs_ap, cs1_ok, cs2_ok, nil_ap, t_ap, t_ok, an_ap, an_t, an_f, or_ap, or_tt, or_ff, nt_ap, nt_ok, if_ap, iff_t, iff_f, ch_ap, ch1_ok, ch2_ok, ch3_t, ch3_f, ch4_ok, oN_ap, oS_ap, so_ok, sl_ap, sl1_ok, sl2_ok, sl3_ok, fSl_l, fSl_t, iv_ap, iv_l, iv_t, ir_ap, ir_ok, ir_i, ie_ap, ie_l, ie_t, iz_ap, i2_ap, it1_ok, it2_ok, iZz_l, iZz_t, me_ap, me1_ok, me2_ok, nox_ok, isO_d, fPr_o, fFld_o, sq_ap, sq_n, sq_r, sq_b, sq_c, nl_ap, bk_ap, ct_ap, ex_ap, ex_ok, rt_ap, rt_ok, rn_ap, as_ap, as_ok, nw_ap, nw_ok, sf_ap, sf_t, sf_f, pr_ap, pr1_ok, pr2_ok, pt_ap, pt1_ok, pt2_ok, pt3_ok, at_ap, at_ok, oN_some, fo_ap, fo_ok, tgN_ap, tgT_ap, tgs_c, tgs_n, ob_s, funD_ap, fin_d, fin_n, tk_len, tk_app, tk_appc, get_app, set_app, add_ii, add_ll, add_tt, sub_ii, mul_ii, mul_l, mulL_l, mul_t, addL_ll, div_ii, mod_ii, pow_ii, neg_i, lt_ii, le_ii, gt_ii, ge_ii, eq_ii, ne_ii, max_ii, min_ii, isB_bb, notB_bb, ix_t, ix_l, ix_c, ixC_l, oD_s, len_l, len_t, len_s, len_c, lnC_l, rd_d, rd_c, rdC_l, all_tt, tu_l, tu_t, li_l, li_t, in_i, rev_l, rev_t, sum_l, sum_t, all_b, any_b, fTup_0, fTup_1, fTup_2, fTup_3, fTup_4, fTup_5, fLst_0, fLst_1, fLst_2, fLst_3, fLst_4, fLst_5, isi_in, isi_tt, isi_ll, isi_bi, kb_d, kb_n, kb_c, lp_n, lp_c, lp_b, lp_r, isO_d, List.set_cons_zero, List.set_cons_succ, List.getElem?_cons_zero, List.getElem?_cons_succ, List.getElem?_nil, List.map_cons, List.map_nil, List.replicate_succ, List.replicate_zero, List.cons_append, List.nil_append, List.append_nil, atI_0, atI_1, atI_2, atI_3, decide_true, decide_false, Bool.not_true, Bool.not_false, Bool.and_true, Bool.true_and, Bool.and_false, Bool.false_and, Bool.or_true, Bool.true_or, Bool.or_false, Bool.false_or, wipeE, Option.map_some, Option.map_none, List.length_cons, List.length_nil, Nat.zero_add, Nat.reduceAdd, counts_of_ex w rs S hn h0 h1]
end L04

namespace L04
open PySem L2 Pd Pq
theorem part_loop (a : Val) (m : Int) (S : Store) : ∀ (rs : Rn) (f : Int) (acc : Rn) (o4 o5 o6 o7 : Option Val), acc.length + rs.length ≤ 1000 → ∃ f' p4 p5 p6 p7, forD (tgT (tgsCons (tgN 4) (tgsCons (tgN 5) tgsNil))) (sSeq (sPar 6 7 (eBin fMax2 (eVar 1) (eC (.int 0))) (eBin fMin2 (eBin fAdd (eVar 1) (eVar 2)) (eVar 5))) (sSeq (sIf (eBin fLt (eVar 6) (eVar 7)) (sEx (eApp (eVar 3) (eCall fTup (eCons (eVar 4) (eCons (eBin fSub (eVar 7) (eVar 6)) eNil))))) sNil) (sAsg 1 (eBin fSub (eVar 1) (eVar 5))))) (prs rs) [some a, some (.d (.int f)), some (.d (.int m)), some (.cell S.length), o4, o5, o6, o7] (S ++ [some (.lst (prs acc))])
    = .nx [some a, some (.d (.int f')), some (.d (.int m)), some (.cell S.length), p4, p5, p6, p7] (S ++ [some (.lst (prs (acc ++ partR rs f m)))])
  | [], f, acc, o4, o5, o6, o7, _ => ⟨f, o4, o5, o6, o7, by simp [partR, forD]⟩
  | r :: rs, f, acc, o4, o5, o6, o7, hl => by
    have hl' : acc.length + (rs.length + 1) ≤ 1000 := hl
    obtain ⟨f', p4, p5, p6, p7, ih⟩ := part_loop a m S rs (f - r.2) (acc ++ (if max f 0 < min (f + m) r.2 then [(r.1, min (f + m) r.2 - max f 0)] else [])) (some (.d (.int r.1))) (some (.d (.int r.2))) (some (.d (.int (max f 0)))) (some (.d (.int (min (f + m) r.2)))) (by
      rw [List.length_append]
      split <;> simp <;> omega)
    refine ⟨f', p4, p5, p6, p7, ?_⟩
    rw [show partR (r :: rs) f m = (if max f 0 < min (f + m) r.2 then [(r.1, min (f + m) r.2 - max f 0)] else []) ++ partR rs (f - r.2) m from rfl, ← List.append_assoc, ← ih]
    have tg : (tgT (tgsCons (tgN 4) (tgsCons (tgN 5) tgsNil))) (prD r) [some a, some (.d (.int f)), some (.d (.int m)), some (.cell S.length), o4, o5, o6, o7] = some [some a, some (.d (.int f)), some (.d (.int m)), some (.cell S.length), some (.d (.int r.1)), some (.d (.int r.2)), o6, o7] := rfl
    rw [show prs (r :: rs) = prD r :: prs rs from rfl, forD_c tg]
    by_cases q : max f 0 < min (f + m) r.2
    · have ap := app_last (i := 3) (e := eCall fTup (eCons (eVar 4) (eCons (eBin fSub (eVar 7) (eVar 6)) eNil))) (Γ := [some a, some (.d (.int f)), some (.d (.int m)), some (.cell S.length), some (.d (.int r.1)), some (.d (.int r.2)), some (.d (.int (max f 0))), some (.d (.int (min (f + m) r.2)))]) (S := S) (S' := S) (ds := prs acc) (d := prD (r.1, min (f + m) r.2 - max f 0)) rfl (by simp only [v_ap, c_ap, un_ap, un_ok, bi_ap, bi1_ok, bi2_ok, cl_ap, cl_ok, cs_ap, cs1_ok, cs2_ok, nil_ap, t_ap, t_ok, an_ap, an_t, an_f, or_ap, or_tt, or_ff, nt_ap, nt_ok, if_ap, iff_t, iff_f, ch_ap, ch1_ok, ch2_ok, ch3_t, ch3_f, ch4_ok, oN_ap, oS_ap, so_ok, sl_ap, sl1_ok, sl2_ok, sl3_ok, fSl_l, fSl_t, iv_ap, iv_l, iv_t, ir_ap, ir_ok, ir_i, ie_ap, ie_l, ie_t, iz_ap, i2_ap, it1_ok, it2_ok, iZz_l, iZz_t, me_ap, me1_ok, me2_ok, nox_ok, isO_d, fPr_o, fFld_o, sq_ap, sq_n, sq_r, sq_b, sq_c, nl_ap, bk_ap, ct_ap, ex_ap, ex_ok, rt_ap, rt_ok, rn_ap, as_ap, as_ok, nw_ap, nw_ok, sf_ap, sf_t, sf_f, pr_ap, pr1_ok, pr2_ok, pt_ap, pt1_ok, pt2_ok, pt3_ok, at_ap, at_ok, oN_some, fo_ap, fo_ok, tgN_ap, tgT_ap, tgs_c, tgs_n, ob_s, funD_ap, fin_d, fin_n, tk_len, tk_app, tk_appc, get_app, set_app, add_ii, add_ll, add_tt, sub_ii, mul_ii, mul_l, mulL_l, mul_t, addL_ll, div_ii, mod_ii, pow_ii, neg_i, lt_ii, le_ii, gt_ii, ge_ii, eq_ii, ne_ii, max_ii, min_ii, isB_bb, notB_bb, ix_t, ix_l, ix_c, ixC_l, oD_s, len_l, len_t, len_s, len_c, lnC_l, rd_d, rd_c, rdC_l, all_tt, tu_l, tu_t, li_l, li_t, in_i, rev_l, rev_t, sum_l, sum_t, all_b, any_b, fTup_0, fTup_1, fTup_2, fTup_3, fTup_4, fTup_5, fLst_0, fLst_1, fLst_2, fLst_3, fLst_4, fLst_5, isi_in, isi_tt, isi_ll, isi_bi, kb_d, kb_n, kb_c, lp_n, lp_c, lp_b, lp_r, isO_d, List.set_cons_zero, List.set_cons_succ, List.getElem?_cons_zero, List.getElem?_cons_succ, List.getElem?_nil, List.map_cons, List.map_nil, List.replicate_succ, List.replicate_zero, List.cons_append, List.nil_append, List.append_nil, atI_0, atI_1, atI_2, atI_3, decide_true, decide_false, Bool.not_true, Bool.not_false, Bool.and_true, Bool.true_and, Bool.and_false, Bool.false_and, Bool.or_true, Bool.true_or, Bool.or_false, Bool.false_or, wipeE, Option.map_some, Option.map_none, List.length_cons, List.length_nil, Nat.zero_add, Nat.reduceAdd, prD]) rfl (by simp; omega)
      simp only [v_ap, c_ap, un_ap, un_ok, bi_ap, bi1_ok, bi2_ok, cl_ap, cl_ok, cs_ap, cs1_ok, cs2_ok, nil_ap, t_ap, t_ok, an_ap, an_t, an_f, or_ap, or_tt, or_ff, nt_ap, nt_ok, if_ap, iff_t, iff_f, ch_ap, ch1_ok, ch2_ok, ch3_t, ch3_f, ch4_ok, oN_ap, oS_ap, so_ok, sl_ap, sl1_ok, sl2_ok, sl3_ok, fSl_l, fSl_t, iv_ap, iv_l, iv_t, ir_ap, ir_ok, ir_i, ie_ap, ie_l, ie_t, iz_ap, i2_ap, it1_ok, it2_ok, iZz_l, iZz_t, me_ap, me1_ok, me2_ok, nox_ok, isO_d, fPr_o, fFld_o, sq_ap, sq_n, sq_r, sq_b, sq_c, nl_ap, bk_ap, ct_ap, ex_ap, ex_ok, rt_ap, rt_ok, rn_ap, as_ap, as_ok, nw_ap, nw_ok, sf_ap, sf_t, sf_f, pr_ap, pr1_ok, pr2_ok, pt_ap, pt1_ok, pt2_ok, pt3_ok, at_ap, at_ok, oN_some, fo_ap, fo_ok, tgN_ap, tgT_ap, tgs_c, tgs_n, ob_s, funD_ap, fin_d, fin_n, tk_len, tk_app, tk_appc, get_app, set_app, add_ii, add_ll, add_tt, sub_ii, mul_ii, mul_l, mulL_l, mul_t, addL_ll, div_ii, mod_ii, pow_ii, neg_i, lt_ii, le_ii, gt_ii, ge_ii, eq_ii, ne_ii, max_ii, min_ii, isB_bb, notB_bb, ix_t, ix_l, ix_c, ixC_l, oD_s, len_l, len_t, len_s, len_c, lnC_l, rd_d, rd_c, rdC_l, all_tt, tu_l, tu_t, li_l, li_t, in_i, rev_l, rev_t, sum_l, sum_t, all_b, any_b, fTup_0, fTup_1, fTup_2, fTup_3, fTup_4, fTup_5, fLst_0, fLst_1, fLst_2, fLst_3, fLst_4, fLst_5, isi_in, isi_tt, isi_ll, isi_bi, kb_d, kb_n, kb_c, lp_n, lp_c, lp_b, lp_r, isO_d, List.set_cons_zero, List.set_cons_succ, List.getElem?_cons_zero, List.getElem?_cons_succ, List.getElem?_nil, List.map_cons, List.map_nil, List.replicate_succ, List.replicate_zero, List.cons_append, List.nil_append, List.append_nil, atI_0, atI_1, atI_2, atI_3, decide_true, decide_false, Bool.not_true, Bool.not_false, Bool.and_true, Bool.true_and, Bool.and_false, Bool.false_and, Bool.or_true, Bool.true_or, Bool.or_false, Bool.false_or, wipeE, Option.map_some, Option.map_none, List.length_cons, List.length_nil, Nat.zero_add, Nat.reduceAdd, q, ap, if_true, prs, List.map_append]
    · simp only [v_ap, c_ap, un_ap, un_ok, bi_ap, bi1_ok, bi2_ok, cl_ap, cl_ok, cs_ap, cs1_ok, cs2_ok, nil_ap, t_ap, t_ok, an_ap, an_t, an_f, or_ap, or_tt, or_ff, nt_ap, nt_ok, if_ap, iff_t, iff_f, ch_ap, ch1_ok, ch2_ok, ch3_t, ch3_f, ch4_ok, oN_ap, oS_ap, so_ok, sl_ap, sl1_ok, sl2_ok, sl3_ok, fSl_l, fSl_t, iv_ap, iv_l, iv_t, ir_ap, ir_ok, ir_i, ie_ap, ie_l, ie_t, iz_ap, i2_ap, it1_ok, it2_ok, iZz_l, iZz_t, me_ap, me1_ok, me2_ok, nox_ok, isO_d, fPr_o, fFld_o, sq_ap, sq_n, sq_r, sq_b, sq_c, nl_ap, bk_ap, ct_ap, ex_ap, ex_ok, rt_ap, rt_ok, rn_ap, as_ap, as_ok, nw_ap, nw_ok, sf_ap, sf_t, sf_f, pr_ap, pr1_ok, pr2_ok, pt_ap, pt1_ok, pt2_ok, pt3_ok, at_ap, at_ok, oN_some, fo_ap, fo_ok, tgN_ap, tgT_ap, tgs_c, tgs_n, ob_s, funD_ap, fin_d, fin_n, tk_len, tk_app, tk_appc, get_app, set_app, add_ii, add_ll, add_tt, sub_ii, mul_ii, mul_l, mulL_l, mul_t, addL_ll, div_ii, mod_ii, pow_ii, neg_i, lt_ii, le_ii, gt_ii, ge_ii, eq_ii, ne_ii, max_ii, min_ii, isB_bb, notB_bb, ix_t, ix_l, ix_c, ixC_l, oD_s, len_l, len_t, len_s, len_c, lnC_l, rd_d, rd_c, rdC_l, all_tt, tu_l, tu_t, li_l, li_t, in_i, rev_l, rev_t, sum_l, sum_t, all_b, any_b, fTup_0, fTup_1, fTup_2, fTup_3, fTup_4, fTup_5, fLst_0, fLst_1, fLst_2, fLst_3, fLst_4, fLst_5, isi_in, isi_tt, isi_ll, isi_bi, kb_d, kb_n, kb_c, lp_n, lp_c, lp_b, lp_r, isO_d, List.set_cons_zero, List.set_cons_succ, List.getElem?_cons_zero, List.getElem?_cons_succ, List.getElem?_nil, List.map_cons, List.map_nil, List.replicate_succ, List.replicate_zero, List.cons_append, List.nil_append, List.append_nil, atI_0, atI_1, atI_2, atI_3, decide_true, decide_false, Bool.not_true, Bool.not_false, Bool.and_true, Bool.true_and, Bool.and_false, Bool.false_and, Bool.or_true, Bool.true_or, Bool.or_false, Bool.false_or, wipeE, Option.map_some, Option.map_none, List.length_cons, List.length_nil, Nat.zero_add, Nat.reduceAdd, q, if_false, prs, List.map_append]
theorem part_of_ex (rs : Rn) (f m : Int) (S : Store) (hl : rs.length ≤ 900) : d_part_of [.d (.tup (prs rs)), .d (.int f), .d (.int m)] S = .ok (.d (.lst (prs (partR rs f m)))) S := by
  obtain ⟨f', o4, o5, o6, o7, e⟩ := part_loop (.d (.tup (prs rs))) m S rs f [] none none none none (by simp; omega)
  rw [List.nil_append] at e
  have e : forD (tgT (tgsCons (tgN 4) (tgsCons (tgN 5) tgsNil))) (sSeq (sPar 6 7 (eBin fMax2 (eVar 1) (eC (.int 0))) (eBin fMin2 (eBin fAdd (eVar 1) (eVar 2)) (eVar 5))) (sSeq (sIf (eBin fLt (eVar 6) (eVar 7)) (sEx (eApp (eVar 3) (eCall fTup (eCons (eVar 4) (eCons (eBin fSub (eVar 7) (eVar 6)) eNil))))) sNil) (sAsg 1 (eBin fSub (eVar 1) (eVar 5))))) (prs rs) [some (.d (.tup (prs rs))), some (.d (.int f)), some (.d (.int m)), some (.cell S.length), none, none, none, none] (S ++ [some (.lst [])]) = _ := e
  unfold d_part_of
  simp only [v_ap, c_ap, un_ap, un_ok, bi_ap, bi1_ok, bi2_ok, cl_ap, cl_ok, cs_ap, cs1_ok, cs2_ok, nil_ap, t_ap, t_ok, an_ap, an_t, an_f, or_ap, or_tt, or_ff, nt_ap, nt_ok, if_ap, iff_t, iff_f, ch_ap, ch1_ok, ch2_ok, ch3_t, ch3_f, ch4_ok, oN_ap, oS_ap, so_ok, sl_ap, sl1_ok, sl2_ok, sl3_ok, fSl_l, fSl_t, iv_ap, iv_l, iv_t, ir_ap, ir_ok, ir_i, ie_ap, ie_l, ie_t, iz_ap, i2_ap, it1_ok, it2_ok, iZz_l, iZz_t, me_ap, me1_ok, me2_ok, nox_ok, isO_d, fPr_o, fFld_o, sq_ap, sq_n, sq_r, sq_b, sq_c, nl_ap, bk_ap, ct_ap, ex_ap, ex_ok, rt_ap, rt_ok, rn_ap, as_ap, as_ok, nw_ap, nw_ok, sf_ap, sf_t, sf_f, pr_ap, pr1_ok, pr2_ok, pt_ap, pt1_ok, pt2_ok, pt3_ok, at_ap, at_ok, oN_some, fo_ap, fo_ok, tgN_ap, tgT_ap, tgs_c, tgs_n, ob_s, funD_ap, fin_d, fin_n, tk_len, tk_app, tk_appc, get_app, set_app, add_ii, add_ll, add_tt, sub_ii, mul_ii, mul_l, mulL_l, mul_t, addL_ll, div_ii, mod_ii, pow_ii, neg_i, lt_ii, le_ii, gt_ii, ge_ii, eq_ii, ne_ii, max_ii, min_ii, isB_bb, notB_bb, ix_t, ix_l, ix_c, ixC_l, oD_s, len_l, len_t, len_s, len_c, lnC_l, rd_d, rd_c, rdC_l, all_tt, tu_l, tu_t, li_l, li_t, in_i, rev_l, rev_t, sum_l, sum_t, all_b, any_b, fTup_0, fTup_1, fTup_2, fTup_3, fTup_4, fTup_5, fLst_0, fLst_1, fLst_2, fLst_3, fLst_4, fLst_5, isi_in, isi_tt, isi_ll, isi_bi, kb_d, kb_n, kb_c, lp_n, lp_c, lp_b, lp_r, isO_d, List.set_cons_zero, List.set_cons_succ, List.getElem?_cons_zero, List.getElem?_cons_succ, List.getElem?_nil, List.map_cons, List.map_nil, List.replicate_succ, List.replicate_zero, List.cons_append, List.nil_append, List.append_nil, atI_0, atI_1, atI_2, atI_3, decide_true, decide_false, Bool.not_true, Bool.not_false, Bool.and_true, Bool.true_and, Bool.and_false, Bool.false_and, Bool.or_true, Bool.true_or, Bool.or_false, Bool.false_or, wipeE, Option.map_some, Option.map_none, List.length_cons, List.length_nil, Nat.zero_add, Nat.reduceAdd, e, rc_ap]
theorem partR_pos : ∀ (rs : Rn) (f m : Int), Pos (partR rs f m)
  | [], f, m => fun _ h => by cases h
  | r :: rs, f, m => fun x hx => by
    rcases List.mem_append.mp hx with h | h
    · split at h
      · rw [List.mem_singleton.mp h]; show 0 < _ - _; omega
      · cases h
    · exact partR_pos rs (f - r.2) m x h
theorem partR_fst : ∀ (rs : Rn) (f m : Int), ∀ x ∈ partR rs f m, ∃ r ∈ rs, x.1 = r.1 ∧ x.2 ≤ r.2
  | [], f, m, _, h => by cases h
  | r :: rs, f, m, x, hx => by
    rcases List.mem_append.mp hx with h | h
    · split at h
      · rw [List.mem_singleton.mp h]; exact ⟨r, List.mem_cons_self, rfl, by show _ - _ ≤ _; omega⟩
      · cases h
    · obtain ⟨y, hy, e⟩ := partR_fst rs (f - r.2) m x h
      exact ⟨y, List.mem_cons_of_mem _ hy, e⟩
theorem partR_len : ∀ (rs : Rn) (f m : Int), (partR rs f m).length ≤ rs.length
  | [], f, m => Nat.le_refl _
  | r :: rs, f, m => by
    have := partR_len rs (f - r.2) m
    show (_ ++ partR rs (f - r.2) m).length ≤ rs.length + 1
    rw [List.length_append]
    split <;> simp <;> omega
theorem sum_mono_part : ∀ (rs : Rn) (f m : Int), (∀ r ∈ rs, 0 ≤ r.2) → ((partR rs f m).map (·.2)).sum ≤ (rs.map (·.2)).sum
  | [], f, m, _ => Int.le_refl _
  | r :: rs, f, m, h => by
    have ih := sum_mono_part rs (f - r.2) m fun x hx => h x (List.mem_cons_of_mem _ hx)
    have h0 := h r List.mem_cons_self
    show ((_ ++ partR rs (f - r.2) m).map (·.2)).sum ≤ _
    rw [List.map_append, List.sum_append, List.map_cons, List.sum_cons]
    split
    · simp only [List.map_cons, List.map_nil, List.sum_cons, List.sum_nil]; omega
    · simp only [List.map_nil, List.sum_nil]; omega
theorem OkR.part {w : Int} {rs : Rn} (h : OkR w rs) (f m : Int) : OkR w (partR rs f m) where
  len := Nat.le_trans (partR_len rs f m) h.len
  let0 := fun x hx => by obtain ⟨r, hr, e, _⟩ := partR_fst rs f m x hx; rw [e]; exact h.let0 r hr
  let1 := fun x hx => by obtain ⟨r, hr, e, _⟩ := partR_fst rs f m x hx; rw [e]; exact h.let1 r hr
  many := fun x hx => by have := partR_pos rs f m x hx; omega
  sum := Int.le_trans (sum_mono_part rs f m h.nn) h.sum
theorem OkR.sum0 {w : Int} {rs : Rn} (h : OkR w rs) : 0 ≤ (rs.map (·.2)).sum := sum_nn fun n hn => by
  obtain ⟨x, hx, rfl⟩ := List.mem_map.mp hn
  exact h.nn x hx
theorem req_word_ex (w : Int) (rs : Rn) (S : Store) : d_require_word [.d (wD w rs)] S = .ok (.d .non) S := by
  have e : fIsiO rel_Word (.d (wD w rs)) S = .ok (.d (.bl true)) S := by
    unfold fIsiO rel_Word
    simp
  unfold d_require_word
  simp only [v_ap, c_ap, un_ap, un_ok, bi_ap, bi1_ok, bi2_ok, cl_ap, cl_ok, cs_ap, cs1_ok, cs2_ok, nil_ap, t_ap, t_ok, an_ap, an_t, an_f, or_ap, or_tt, or_ff, nt_ap, nt_ok, if_ap, iff_t, iff_f, ch_ap, ch1_ok, ch2_ok, ch3_t, ch3_f, ch4_ok, oN_ap, oS_ap, so_ok, sl_ap, sl1_ok, sl2_ok, sl3_ok, fSl_l, fSl_t, iv_ap, iv_l, iv_t, ir_ap, ir_ok, ir_i, ie_ap, ie_l, ie_t, iz_ap, i2_ap, it1_ok, it2_ok, iZz_l, iZz_t, me_ap, me1_ok, me2_ok, nox_ok, isO_d, fPr_o, fFld_o, sq_ap, sq_n, sq_r, sq_b, sq_c, nl_ap, bk_ap, ct_ap, ex_ap, ex_ok, rt_ap, rt_ok, rn_ap, as_ap, as_ok, nw_ap, nw_ok, sf_ap, sf_t, sf_f, pr_ap, pr1_ok, pr2_ok, pt_ap, pt1_ok, pt2_ok, pt3_ok, at_ap, at_ok, oN_some, fo_ap, fo_ok, tgN_ap, tgT_ap, tgs_c, tgs_n, ob_s, funD_ap, fin_d, fin_n, tk_len, tk_app, tk_appc, get_app, set_app, add_ii, add_ll, add_tt, sub_ii, mul_ii, mul_l, mulL_l, mul_t, addL_ll, div_ii, mod_ii, pow_ii, neg_i, lt_ii, le_ii, gt_ii, ge_ii, eq_ii, ne_ii, max_ii, min_ii, isB_bb, notB_bb, ix_t, ix_l, ix_c, ixC_l, oD_s, len_l, len_t, len_s, len_c, lnC_l, rd_d, rd_c, rdC_l, all_tt, tu_l, tu_t, li_l, li_t, in_i, rev_l, rev_t, sum_l, sum_t, all_b, any_b, fTup_0, fTup_1, fTup_2, fTup_3, fTup_4, fTup_5, fLst_0, fLst_1, fLst_2, fLst_3, fLst_4, fLst_5, isi_in, isi_tt, isi_ll, isi_bi, kb_d, kb_n, kb_c, lp_n, lp_c, lp_b, lp_r, isO_d, List.set_cons_zero, List.set_cons_succ, List.getElem?_cons_zero, List.getElem?_cons_succ, List.getElem?_nil, List.map_cons, List.map_nil, List.replicate_succ, List.replicate_zero, List.cons_append, List.nil_append, List.append_nil, atI_0, atI_1, atI_2, atI_3, decide_true, decide_false, Bool.not_true, Bool.not_false, Bool.and_true, Bool.true_and, Bool.and_false, Bool.false_and, Bool.or_true, Bool.true_or, Bool.or_false, Bool.false_or, wipeE, Option.map_some, Option.map_none, List.length_cons, List.length_nil, Nat.zero_add, Nat.reduceAdd, e]
theorem word_part_ex (w : Int) (rs : Rn) (f m : Int) (S : Store) (h1 : 1 ≤ w) (h2 : w ≤ 8) (h : OkR w rs) (f0 : 0 ≤ f) (f1 : f ≤ (rs.map (·.2)).sum) (m0 : 0 ≤ m) (m1 : m ≤ (rs.map (·.2)).sum - f) :
    d_word_part [.d (wD w rs), .d (.int f), .d (.int m)] S = .ok (.d (wD w (leanR (partR rs f m)))) S := by
  have hl := h.len
  have e1 := part_of_ex rs f m S (by omega)
  have e2 := mk_ex w _ S h1 h2 (h.part f m)
  have e3 := req_within f 0 (rs.map (·.2)).sum S f0 f1
  have e4 := req_within m 0 ((rs.map (·.2)).sum - f) S m0 m1
  have e5 := length_ex w rs S (by omega)
  unfold d_word_part
  simp only [v_ap, c_ap, un_ap, un_ok, bi_ap, bi1_ok, bi2_ok, cl_ap, cl_ok, cs_ap, cs1_ok, cs2_ok, nil_ap, t_ap, t_ok, an_ap, an_t, an_f, or_ap, or_tt, or_ff, nt_ap, nt_ok, if_ap, iff_t, iff_f, ch_ap, ch1_ok, ch2_ok, ch3_t, ch3_f, ch4_ok, oN_ap, oS_ap, so_ok, sl_ap, sl1_ok, sl2_ok, sl3_ok, fSl_l, fSl_t, iv_ap, iv_l, iv_t, ir_ap, ir_ok, ir_i, ie_ap, ie_l, ie_t, iz_ap, i2_ap, it1_ok, it2_ok, iZz_l, iZz_t, me_ap, me1_ok, me2_ok, nox_ok, isO_d, fPr_o, fFld_o, sq_ap, sq_n, sq_r, sq_b, sq_c, nl_ap, bk_ap, ct_ap, ex_ap, ex_ok, rt_ap, rt_ok, rn_ap, as_ap, as_ok, nw_ap, nw_ok, sf_ap, sf_t, sf_f, pr_ap, pr1_ok, pr2_ok, pt_ap, pt1_ok, pt2_ok, pt3_ok, at_ap, at_ok, oN_some, fo_ap, fo_ok, tgN_ap, tgT_ap, tgs_c, tgs_n, ob_s, funD_ap, fin_d, fin_n, tk_len, tk_app, tk_appc, get_app, set_app, add_ii, add_ll, add_tt, sub_ii, mul_ii, mul_l, mulL_l, mul_t, addL_ll, div_ii, mod_ii, pow_ii, neg_i, lt_ii, le_ii, gt_ii, ge_ii, eq_ii, ne_ii, max_ii, min_ii, isB_bb, notB_bb, ix_t, ix_l, ix_c, ixC_l, oD_s, len_l, len_t, len_s, len_c, lnC_l, rd_d, rd_c, rdC_l, all_tt, tu_l, tu_t, li_l, li_t, in_i, rev_l, rev_t, sum_l, sum_t, all_b, any_b, fTup_0, fTup_1, fTup_2, fTup_3, fTup_4, fTup_5, fLst_0, fLst_1, fLst_2, fLst_3, fLst_4, fLst_5, isi_in, isi_tt, isi_ll, isi_bi, kb_d, kb_n, kb_c, lp_n, lp_c, lp_b, lp_r, isO_d, List.set_cons_zero, List.set_cons_succ, List.getElem?_cons_zero, List.getElem?_cons_succ, List.getElem?_nil, List.map_cons, List.map_nil, List.replicate_succ, List.replicate_zero, List.cons_append, List.nil_append, List.append_nil, atI_0, atI_1, atI_2, atI_3, decide_true, decide_false, Bool.not_true, Bool.not_false, Bool.and_true, Bool.true_and, Bool.and_false, Bool.false_and, Bool.or_true, Bool.true_or, Bool.or_false, Bool.false_or, wipeE, Option.map_some, Option.map_none, List.length_cons, List.length_nil, Nat.zero_add, Nat.reduceAdd, req_word_ex, e5, e3, e4, width_ex, runs_ex, e1, e2]
theorem word_of_runs_ex (w : Int) (rs : Rn) (S : Store) (hr : ∀ r ∈ rs, 0 ≤ r.2) (hl : rs.length ≤ 900) (hs : (rs.map (·.2)).sum ≤ 10 ^ 64) (h1 : 1 ≤ w) (h2 : w ≤ 8) (h : OkR w (leanR rs)) :
    d_word_of_runs [.d (.int w), .d (.tup (prs rs))] S = .ok (.d (wD w (leanR (leanR rs)))) S := by
  have e64 : (10 : Int) ^ 64 = 10000000000000000000000000000000000000000000000000000000000000000 := by decide
  rw [e64] at hs
  have hs' : ¬ (10000000000000000000000000000000000000000000000000000000000000000 < (rs.map (·.2)).sum) := by omega
  have l1 : (eLc (itV (eVar 1)) [2, 3] (tgT (tgsCons (tgN 2) (tgsCons (tgN 3) tgsNil))) tYesD (eVar 3)) [some (.d (.int w)), some (.d (.tup (prs rs))), none, none] S = .ok (.d (.lst ((rs.map (·.2)).map .int))) S := by
    rw [List.map_map]
    refine lc_map' rs prD _ (by simp only [v_ap, c_ap, un_ap, un_ok, bi_ap, bi1_ok, bi2_ok, cl_ap, cl_ok, cs_ap, cs1_ok, cs2_ok, nil_ap, t_ap, t_ok, an_ap, an_t, an_f, or_ap, or_tt, or_ff, nt_ap, nt_ok, if_ap, iff_t, iff_f, ch_ap, ch1_ok, ch2_ok, ch3_t, ch3_f, ch4_ok, oN_ap, oS_ap, so_ok, sl_ap, sl1_ok, sl2_ok, sl3_ok, fSl_l, fSl_t, iv_ap, iv_l, iv_t, ir_ap, ir_ok, ir_i, ie_ap, ie_l, ie_t, iz_ap, i2_ap, it1_ok, it2_ok, iZz_l, iZz_t, me_ap, me1_ok, me2_ok, nox_ok, isO_d, fPr_o, fFld_o, sq_ap, sq_n, sq_r, sq_b, sq_c, nl_ap, bk_ap, ct_ap, ex_ap, ex_ok, rt_ap, rt_ok, rn_ap, as_ap, as_ok, nw_ap, nw_ok, sf_ap, sf_t, sf_f, pr_ap, pr1_ok, pr2_ok, pt_ap, pt1_ok, pt2_ok, pt3_ok, at_ap, at_ok, oN_some, fo_ap, fo_ok, tgN_ap, tgT_ap, tgs_c, tgs_n, ob_s, funD_ap, fin_d, fin_n, tk_len, tk_app, tk_appc, get_app, set_app, add_ii, add_ll, add_tt, sub_ii, mul_ii, mul_l, mulL_l, mul_t, addL_ll, div_ii, mod_ii, pow_ii, neg_i, lt_ii, le_ii, gt_ii, ge_ii, eq_ii, ne_ii, max_ii, min_ii, isB_bb, notB_bb, ix_t, ix_l, ix_c, ixC_l, oD_s, len_l, len_t, len_s, len_c, lnC_l, rd_d, rd_c, rdC_l, all_tt, tu_l, tu_t, li_l, li_t, in_i, rev_l, rev_t, sum_l, sum_t, all_b, any_b, fTup_0, fTup_1, fTup_2, fTup_3, fTup_4, fTup_5, fLst_0, fLst_1, fLst_2, fLst_3, fLst_4, fLst_5, isi_in, isi_tt, isi_ll, isi_bi, kb_d, kb_n, kb_c, lp_n, lp_c, lp_b, lp_r, isO_d, List.set_cons_zero, List.set_cons_succ, List.getElem?_cons_zero, List.getElem?_cons_succ, List.getElem?_nil, List.map_cons, List.map_nil, List.replicate_succ, List.replicate_zero, List.cons_append, List.nil_append, List.append_nil, atI_0, atI_1, atI_2, atI_3, decide_true, decide_false, Bool.not_true, Bool.not_false, Bool.and_true, Bool.true_and, Bool.and_false, Bool.false_and, Bool.or_true, Bool.true_or, Bool.or_false, Bool.false_or, wipeE, Option.map_some, Option.map_none, List.length_cons, List.length_nil, Nat.zero_add, Nat.reduceAdd]) (by omega) fun r hr => ⟨_, rfl, rfl, ?_⟩
    simp only [v_ap, c_ap, un_ap, un_ok, bi_ap, bi1_ok, bi2_ok, cl_ap, cl_ok, cs_ap, cs1_ok, cs2_ok, nil_ap, t_ap, t_ok, an_ap, an_t, an_f, or_ap, or_tt, or_ff, nt_ap, nt_ok, if_ap, iff_t, iff_f, ch_ap, ch1_ok, ch2_ok, ch3_t, ch3_f, ch4_ok, oN_ap, oS_ap, so_ok, sl_ap, sl1_ok, sl2_ok, sl3_ok, fSl_l, fSl_t, iv_ap, iv_l, iv_t, ir_ap, ir_ok, ir_i, ie_ap, ie_l, ie_t, iz_ap, i2_ap, it1_ok, it2_ok, iZz_l, iZz_t, me_ap, me1_ok, me2_ok, nox_ok, isO_d, fPr_o, fFld_o, sq_ap, sq_n, sq_r, sq_b, sq_c, nl_ap, bk_ap, ct_ap, ex_ap, ex_ok, rt_ap, rt_ok, rn_ap, as_ap, as_ok, nw_ap, nw_ok, sf_ap, sf_t, sf_f, pr_ap, pr1_ok, pr2_ok, pt_ap, pt1_ok, pt2_ok, pt3_ok, at_ap, at_ok, oN_some, fo_ap, fo_ok, tgN_ap, tgT_ap, tgs_c, tgs_n, ob_s, funD_ap, fin_d, fin_n, tk_len, tk_app, tk_appc, get_app, set_app, add_ii, add_ll, add_tt, sub_ii, mul_ii, mul_l, mulL_l, mul_t, addL_ll, div_ii, mod_ii, pow_ii, neg_i, lt_ii, le_ii, gt_ii, ge_ii, eq_ii, ne_ii, max_ii, min_ii, isB_bb, notB_bb, ix_t, ix_l, ix_c, ixC_l, oD_s, len_l, len_t, len_s, len_c, lnC_l, rd_d, rd_c, rdC_l, all_tt, tu_l, tu_t, li_l, li_t, in_i, rev_l, rev_t, sum_l, sum_t, all_b, any_b, fTup_0, fTup_1, fTup_2, fTup_3, fTup_4, fTup_5, fLst_0, fLst_1, fLst_2, fLst_3, fLst_4, fLst_5, isi_in, isi_tt, isi_ll, isi_bi, kb_d, kb_n, kb_c, lp_n, lp_c, lp_b, lp_r, isO_d, List.set_cons_zero, List.set_cons_succ, List.getElem?_cons_zero, List.getElem?_cons_succ, List.getElem?_nil, List.map_cons, List.map_nil, List.replicate_succ, List.replicate_zero, List.cons_append, List.nil_append, List.append_nil, atI_0, atI_1, atI_2, atI_3, decide_true, decide_false, Bool.not_true, Bool.not_false, Bool.and_true, Bool.true_and, Bool.and_false, Bool.false_and, Bool.or_true, Bool.true_or, Bool.or_false, Bool.false_or, wipeE, Option.map_some, Option.map_none, List.length_cons, List.length_nil, Nat.zero_add, Nat.reduceAdd, prD]
    rfl
  have e1 := lean_in_ex rs (.d (.tup (prs rs))) S (fun _ _ => rfl) hl
  have hz := h.len
  have hz' : ¬ ((200 : Int) < (prs (leanR rs)).length) := by simp; omega
  have e2 := mk_ex w _ S h1 h2 h
  have e3 : d_word_in [.d (.int w), .d (.lst (prs (leanR rs)))] S = .ok (.d (wD w (leanR (leanR rs)))) S := by
    unfold d_word_in
    simp only [v_ap, c_ap, un_ap, un_ok, bi_ap, bi1_ok, bi2_ok, cl_ap, cl_ok, cs_ap, cs1_ok, cs2_ok, nil_ap, t_ap, t_ok, an_ap, an_t, an_f, or_ap, or_tt, or_ff, nt_ap, nt_ok, if_ap, iff_t, iff_f, ch_ap, ch1_ok, ch2_ok, ch3_t, ch3_f, ch4_ok, oN_ap, oS_ap, so_ok, sl_ap, sl1_ok, sl2_ok, sl3_ok, fSl_l, fSl_t, iv_ap, iv_l, iv_t, ir_ap, ir_ok, ir_i, ie_ap, ie_l, ie_t, iz_ap, i2_ap, it1_ok, it2_ok, iZz_l, iZz_t, me_ap, me1_ok, me2_ok, nox_ok, isO_d, fPr_o, fFld_o, sq_ap, sq_n, sq_r, sq_b, sq_c, nl_ap, bk_ap, ct_ap, ex_ap, ex_ok, rt_ap, rt_ok, rn_ap, as_ap, as_ok, nw_ap, nw_ok, sf_ap, sf_t, sf_f, pr_ap, pr1_ok, pr2_ok, pt_ap, pt1_ok, pt2_ok, pt3_ok, at_ap, at_ok, oN_some, fo_ap, fo_ok, tgN_ap, tgT_ap, tgs_c, tgs_n, ob_s, funD_ap, fin_d, fin_n, tk_len, tk_app, tk_appc, get_app, set_app, add_ii, add_ll, add_tt, sub_ii, mul_ii, mul_l, mulL_l, mul_t, addL_ll, div_ii, mod_ii, pow_ii, neg_i, lt_ii, le_ii, gt_ii, ge_ii, eq_ii, ne_ii, max_ii, min_ii, isB_bb, notB_bb, ix_t, ix_l, ix_c, ixC_l, oD_s, len_l, len_t, len_s, len_c, lnC_l, rd_d, rd_c, rdC_l, all_tt, tu_l, tu_t, li_l, li_t, in_i, rev_l, rev_t, sum_l, sum_t, all_b, any_b, fTup_0, fTup_1, fTup_2, fTup_3, fTup_4, fTup_5, fLst_0, fLst_1, fLst_2, fLst_3, fLst_4, fLst_5, isi_in, isi_tt, isi_ll, isi_bi, kb_d, kb_n, kb_c, lp_n, lp_c, lp_b, lp_r, isO_d, List.set_cons_zero, List.set_cons_succ, List.getElem?_cons_zero, List.getElem?_cons_succ, List.getElem?_nil, List.map_cons, List.map_nil, List.replicate_succ, List.replicate_zero, List.cons_append, List.nil_append, List.append_nil, atI_0, atI_1, atI_2, atI_3, decide_true, decide_false, Bool.not_true, Bool.not_false, Bool.and_true, Bool.true_and, Bool.and_false, Bool.false_and, Bool.or_true, Bool.true_or, Bool.or_false, Bool.false_or, wipeE, Option.map_some, Option.map_none, List.length_cons, List.length_nil, Nat.zero_add, Nat.reduceAdd, e2]
  unfold d_word_of_runs
  simp only [v_ap, c_ap, un_ap, un_ok, bi_ap, bi1_ok, bi2_ok, cl_ap, cl_ok, cs_ap, cs1_ok, cs2_ok, nil_ap, t_ap, t_ok, an_ap, an_t, an_f, or_ap, or_tt, or_ff, nt_ap, nt_ok, if_ap, iff_t, iff_f, ch_ap, ch1_ok, ch2_ok, ch3_t, ch3_f, ch4_ok, oN_ap, oS_ap, so_ok, sl_ap, sl1_ok, sl2_ok, sl3_ok, fSl_l, fSl_t, iv_ap, iv_l, iv_t, ir_ap, ir_ok, ir_i, ie_ap, ie_l, ie_t, iz_ap, i2_ap, it1_ok, it2_ok, iZz_l, iZz_t, me_ap, me1_ok, me2_ok, nox_ok, isO_d, fPr_o, fFld_o, sq_ap, sq_n, sq_r, sq_b, sq_c, nl_ap, bk_ap, ct_ap, ex_ap, ex_ok, rt_ap, rt_ok, rn_ap, as_ap, as_ok, nw_ap, nw_ok, sf_ap, sf_t, sf_f, pr_ap, pr1_ok, pr2_ok, pt_ap, pt1_ok, pt2_ok, pt3_ok, at_ap, at_ok, oN_some, fo_ap, fo_ok, tgN_ap, tgT_ap, tgs_c, tgs_n, ob_s, funD_ap, fin_d, fin_n, tk_len, tk_app, tk_appc, get_app, set_app, add_ii, add_ll, add_tt, sub_ii, mul_ii, mul_l, mulL_l, mul_t, addL_ll, div_ii, mod_ii, pow_ii, neg_i, lt_ii, le_ii, gt_ii, ge_ii, eq_ii, ne_ii, max_ii, min_ii, isB_bb, notB_bb, ix_t, ix_l, ix_c, ixC_l, oD_s, len_l, len_t, len_s, len_c, lnC_l, rd_d, rd_c, rdC_l, all_tt, tu_l, tu_t, li_l, li_t, in_i, rev_l, rev_t, sum_l, sum_t, all_b, any_b, fTup_0, fTup_1, fTup_2, fTup_3, fTup_4, fTup_5, fLst_0, fLst_1, fLst_2, fLst_3, fLst_4, fLst_5, isi_in, isi_tt, isi_ll, isi_bi, kb_d, kb_n, kb_c, lp_n, lp_c, lp_b, lp_r, isO_d, List.set_cons_zero, List.set_cons_succ, List.getElem?_cons_zero, List.getElem?_cons_succ, List.getElem?_nil, List.map_cons, List.map_nil, List.replicate_succ, List.replicate_zero, List.cons_append, List.nil_append, List.append_nil, atI_0, atI_1, atI_2, atI_3, decide_true, decide_false, Bool.not_true, Bool.not_false, Bool.and_true, Bool.true_and, Bool.and_false, Bool.false_and, Bool.or_true, Bool.true_or, Bool.or_false, Bool.false_or, wipeE, Option.map_some, Option.map_none, List.length_cons, List.length_nil, Nat.zero_add, Nat.reduceAdd, l1, hs', e1, hz', e3]
theorem lean_lean {rs : Rn} (h : Pos rs) (a : Alt rs) : leanR rs = rs := alt_one (leanR_pos fun r hr => Int.le_of_lt (h r hr)) h (leanR_alt _) a (leanR_ex fun r hr => Int.le_of_lt (h r hr))
end L04


namespace L04
open PySem L2 Pd Pq
theorem addR_fst {acc : Rn} {r x : Int × Int} (h : x ∈ addR acc r) : x.1 = r.1 ∨ ∃ y ∈ acc, x.1 = y.1 := by
  cases acc with
  | nil =>
    unfold addR at h
    dsimp only at h
    split at h
    · rw [List.mem_singleton.mp h]; exact .inl rfl
    · cases h
  | cons l t =>
    unfold addR at h
    dsimp only at h
    split at h
    · rcases List.mem_cons.mp h with e | h
      · rw [e]; exact .inl rfl
      · exact .inr ⟨x, List.mem_cons_of_mem _ h, rfl⟩
    · split at h
      · rcases List.mem_cons.mp h with e | h
        · rw [e]; exact .inl rfl
        · exact .inr ⟨x, h, rfl⟩
      · exact .inr ⟨x, h, rfl⟩
theorem addAll_fst : ∀ {rs acc : Rn} {x : Int × Int}, x ∈ addAll acc rs → (∃ r ∈ rs, x.1 = r.1) ∨ ∃ y ∈ acc, x.1 = y.1
  | [], acc, x, h => .inr ⟨x, h, rfl⟩
  | r :: rs, acc, x, h => by
    rcases addAll_fst (rs := rs) (acc := addR acc r) h with ⟨y, hy, e⟩ | ⟨y, hy, e⟩
    · exact .inl ⟨y, List.mem_cons_of_mem _ hy, e⟩
    · rcases addR_fst hy with q | ⟨z, hz, q⟩
      · exact .inl ⟨r, List.mem_cons_self, e.trans q⟩
      · exact .inr ⟨z, hz, e.trans q⟩
theorem leanR_fst {rs : Rn} {x : Int × Int} (h : x ∈ leanR rs) : ∃ r ∈ rs, x.1 = r.1 := by
  rcases addAll_fst (List.mem_reverse.mp h) with q | ⟨y, hy, _⟩
  · exact q
  · cases hy
theorem leanR_sum {rs : Rn} (h : ∀ r ∈ rs, 0 ≤ r.2) : ((leanR rs).map (·.2)).sum = (rs.map (·.2)).sum := by
  rw [← ex_len h, ← ex_len (rs := leanR rs) fun r hr => Int.le_of_lt (leanR_pos h r hr), leanR_ex h]
theorem OkR.lean {w : Int} {rs : Rn} (h : OkR w rs) : OkR w (leanR rs) where
  len := Nat.le_trans Pos.alt_len h.len
  let0 := fun x hx => by obtain ⟨r, hr, e⟩ := leanR_fst hx; rw [e]; exact h.let0 r hr
  let1 := fun x hx => by obtain ⟨r, hr, e⟩ := leanR_fst hx; rw [e]; exact h.let1 r hr
  many := fun x hx => by have := leanR_pos h.nn x hx; omega
  sum := by rw [leanR_sum h.nn]; exact h.sum
theorem OkR.of {w : Int} {rs : Rn} (hl : rs.length ≤ 200) (h : ∀ r ∈ rs, 0 ≤ r.1 ∧ r.1 < w ∧ 1 ≤ r.2) (hs : (rs.map (·.2)).sum ≤ 10 ^ 64) : OkR w rs := ⟨hl, fun r hr => (h r hr).1, fun r hr => (h r hr).2.1, fun r hr => (h r hr).2.2, hs⟩
theorem OkR.rev {w : Int} {rs : Rn} (h : OkR w rs) : OkR w rs.reverse :=
  .of (by rw [List.length_reverse]; exact h.len) (fun r hr => have hr := List.mem_reverse.mp hr; ⟨h.let0 r hr, h.let1 r hr, h.many r hr⟩) (by rw [List.map_reverse, List.sum_reverse]; exact h.sum)
theorem OkR.wide {w w' : Int} {rs : Rn} (h : OkR w rs) (hw : w ≤ w') : OkR w' rs := ⟨h.len, h.let0, fun r hr => by have := h.let1 r hr; omega, h.many, h.sum⟩
abbrev mirR (w : Int) (rs : Rn) : Rn := rs.map fun r => (w - 1 - r.1, r.2)
theorem OkR.mir {w : Int} {rs : Rn} (h : OkR w rs) : OkR w (mirR w rs) := by
  refine .of (by rw [List.length_map]; exact h.len) (fun x hx => ?_) (by rw [List.map_map]; exact h.sum)
  obtain ⟨r, hr, rfl⟩ := List.mem_map.mp hx
  have a := h.let0 r hr
  have b := h.let1 r hr
  exact ⟨by show 0 ≤ w - 1 - r.1; omega, by show w - 1 - r.1 < w; omega, h.many r hr⟩
theorem sum_filter_le (p : Int × Int → Bool) : ∀ {rs : Rn}, (∀ r ∈ rs, 0 ≤ r.2) → ((rs.filter p).map (·.2)).sum ≤ (rs.map (·.2)).sum
  | [], _ => Int.le_refl _
  | r :: rs, h => by
    have ih := sum_filter_le p (rs := rs) fun x hx => h x (List.mem_cons_of_mem _ hx)
    have h0 := h r List.mem_cons_self
    rw [List.filter_cons, List.map_cons, List.sum_cons]
    split
    · rw [List.map_cons, List.sum_cons]; omega
    · omega
theorem OkR.filter {w : Int} {rs : Rn} (h : OkR w rs) (p : Int × Int → Bool) : OkR w (rs.filter p) :=
  .of (Nat.le_trans (List.length_filter_le _ _) h.len) (fun r hr => have hr := (List.mem_filter.mp hr).1; ⟨h.let0 r hr, h.let1 r hr, h.many r hr⟩) (Int.le_trans (sum_filter_le p h.nn) h.sum)
theorem word_backward_ex (w : Int) (rs : Rn) (S : Store) (h1 : 1 ≤ w) (h2 : w ≤ 8) (h : OkR w rs) : d_word_backward [.d (wD w rs)] S = .ok (.d (wD w (leanR rs.reverse))) S := by
  have e := mk_ex w _ S h1 h2 h.rev
  rw [prs, List.map_reverse] at e
  unfold d_word_backward
  simp only [v_ap, c_ap, un_ap, un_ok, bi_ap, bi1_ok, bi2_ok, cl_ap, cl_ok, cs_ap, cs1_ok, cs2_ok, nil_ap, t_ap, t_ok, an_ap, an_t, an_f, or_ap, or_tt, or_ff, nt_ap, nt_ok, if_ap, iff_t, iff_f, ch_ap, ch1_ok, ch2_ok, ch3_t, ch3_f, ch4_ok, oN_ap, oS_ap, so_ok, sl_ap, sl1_ok, sl2_ok, sl3_ok, fSl_l, fSl_t, iv_ap, iv_l, iv_t, ir_ap, ir_ok, ir_i, ie_ap, ie_l, ie_t, iz_ap, i2_ap, it1_ok, it2_ok, iZz_l, iZz_t, me_ap, me1_ok, me2_ok, nox_ok, isO_d, fPr_o, fFld_o, sq_ap, sq_n, sq_r, sq_b, sq_c, nl_ap, bk_ap, ct_ap, ex_ap, ex_ok, rt_ap, rt_ok, rn_ap, as_ap, as_ok, nw_ap, nw_ok, sf_ap, sf_t, sf_f, pr_ap, pr1_ok, pr2_ok, pt_ap, pt1_ok, pt2_ok, pt3_ok, at_ap, at_ok, oN_some, fo_ap, fo_ok, tgN_ap, tgT_ap, tgs_c, tgs_n, ob_s, funD_ap, fin_d, fin_n, tk_len, tk_app, tk_appc, get_app, set_app, add_ii, add_ll, add_tt, sub_ii, mul_ii, mul_l, mulL_l, mul_t, addL_ll, div_ii, mod_ii, pow_ii, neg_i, lt_ii, le_ii, gt_ii, ge_ii, eq_ii, ne_ii, max_ii, min_ii, isB_bb, notB_bb, ix_t, ix_l, ix_c, ixC_l, oD_s, len_l, len_t, len_s, len_c, lnC_l, rd_d, rd_c, rdC_l, all_tt, tu_l, tu_t, li_l, li_t, in_i, rev_l, rev_t, sum_l, sum_t, all_b, any_b, fTup_0, fTup_1, fTup_2, fTup_3, fTup_4, fTup_5, fLst_0, fLst_1, fLst_2, fLst_3, fLst_4, fLst_5, isi_in, isi_tt, isi_ll, isi_bi, kb_d, kb_n, kb_c, lp_n, lp_c, lp_b, lp_r, isO_d, List.set_cons_zero, List.set_cons_succ, List.getElem?_cons_zero, List.getElem?_cons_succ, List.getElem?_nil, List.map_cons, List.map_nil, List.replicate_succ, List.replicate_zero, List.cons_append, List.nil_append, List.append_nil, atI_0, atI_1, atI_2, atI_3, decide_true, decide_false, Bool.not_true, Bool.not_false, Bool.and_true, Bool.true_and, Bool.and_false, Bool.false_and, Bool.or_true, Bool.true_or, Bool.or_false, Bool.false_or, wipeE, Option.map_some, Option.map_none, List.length_cons, List.length_nil, Nat.zero_add, Nat.reduceAdd, req_word_ex, width_ex, runs_ex, e]
theorem word_mirrored_ex (w : Int) (rs : Rn) (S : Store) (h1 : 1 ≤ w) (h2 : w ≤ 8) (h : OkR w rs) : d_word_mirrored [.d (wD w rs)] S = .ok (.d (wD w (leanR (mirR w rs)))) S := by
  have hl := h.len
  have e := mk_ex w _ S h1 h2 h.mir
  have l1 : (eLc (itV (eUn (fPr "Word" d_Word_runs) (eVar 0))) [1, 2] (tgT (tgsCons (tgN 1) (tgsCons (tgN 2) tgsNil))) tYesD (eCall fTup (eCons (eBin fSub (eBin fSub (eUn (fPr "Word" d_Word_width) (eVar 0)) (eC (.int 1))) (eVar 1)) (eCons (eVar 2) eNil)))) [some (.d (wD w rs)), none, none] S = .ok (.d (.lst (prs (mirR w rs)))) S := by
    rw [prs, mirR, List.map_map]
    refine lc_map' rs prD _ (by simp only [v_ap, c_ap, un_ap, un_ok, bi_ap, bi1_ok, bi2_ok, cl_ap, cl_ok, cs_ap, cs1_ok, cs2_ok, nil_ap, t_ap, t_ok, an_ap, an_t, an_f, or_ap, or_tt, or_ff, nt_ap, nt_ok, if_ap, iff_t, iff_f, ch_ap, ch1_ok, ch2_ok, ch3_t, ch3_f, ch4_ok, oN_ap, oS_ap, so_ok, sl_ap, sl1_ok, sl2_ok, sl3_ok, fSl_l, fSl_t, iv_ap, iv_l, iv_t, ir_ap, ir_ok, ir_i, ie_ap, ie_l, ie_t, iz_ap, i2_ap, it1_ok, it2_ok, iZz_l, iZz_t, me_ap, me1_ok, me2_ok, nox_ok, isO_d, fPr_o, fFld_o, sq_ap, sq_n, sq_r, sq_b, sq_c, nl_ap, bk_ap, ct_ap, ex_ap, ex_ok, rt_ap, rt_ok, rn_ap, as_ap, as_ok, nw_ap, nw_ok, sf_ap, sf_t, sf_f, pr_ap, pr1_ok, pr2_ok, pt_ap, pt1_ok, pt2_ok, pt3_ok, at_ap, at_ok, oN_some, fo_ap, fo_ok, tgN_ap, tgT_ap, tgs_c, tgs_n, ob_s, funD_ap, fin_d, fin_n, tk_len, tk_app, tk_appc, get_app, set_app, add_ii, add_ll, add_tt, sub_ii, mul_ii, mul_l, mulL_l, mul_t, addL_ll, div_ii, mod_ii, pow_ii, neg_i, lt_ii, le_ii, gt_ii, ge_ii, eq_ii, ne_ii, max_ii, min_ii, isB_bb, notB_bb, ix_t, ix_l, ix_c, ixC_l, oD_s, len_l, len_t, len_s, len_c, lnC_l, rd_d, rd_c, rdC_l, all_tt, tu_l, tu_t, li_l, li_t, in_i, rev_l, rev_t, sum_l, sum_t, all_b, any_b, fTup_0, fTup_1, fTup_2, fTup_3, fTup_4, fTup_5, fLst_0, fLst_1, fLst_2, fLst_3, fLst_4, fLst_5, isi_in, isi_tt, isi_ll, isi_bi, kb_d, kb_n, kb_c, lp_n, lp_c, lp_b, lp_r, isO_d, List.set_cons_zero, List.set_cons_succ, List.getElem?_cons_zero, List.getElem?_cons_succ, List.getElem?_nil, List.map_cons, List.map_nil, List.replicate_succ, List.replicate_zero, List.cons_append, List.nil_append, List.append_nil, atI_0, atI_1, atI_2, atI_3, decide_true, decide_false, Bool.not_true, Bool.not_false, Bool.and_true, Bool.true_and, Bool.and_false, Bool.false_and, Bool.or_true, Bool.true_or, Bool.or_false, Bool.false_or, wipeE, Option.map_some, Option.map_none, List.length_cons, List.length_nil, Nat.zero_add, Nat.reduceAdd, runs_ex]) (by omega) fun r hr => ⟨_, rfl, rfl, ?_⟩
    simp only [v_ap, c_ap, un_ap, un_ok, bi_ap, bi1_ok, bi2_ok, cl_ap, cl_ok, cs_ap, cs1_ok, cs2_ok, nil_ap, t_ap, t_ok, an_ap, an_t, an_f, or_ap, or_tt, or_ff, nt_ap, nt_ok, if_ap, iff_t, iff_f, ch_ap, ch1_ok, ch2_ok, ch3_t, ch3_f, ch4_ok, oN_ap, oS_ap, so_ok, sl_ap, sl1_ok, sl2_ok, sl3_ok, fSl_l, fSl_t, iv_ap, iv_l, iv_t, ir_ap, ir_ok, ir_i, ie_ap, ie_l, ie_t, iz_ap, i2_ap, it1_ok, it2_ok, iZz_l, iZz_t, me_ap, me1_ok, me2_ok, nox_ok, isO_d, fPr_o, fFld_o, sq_ap, sq_n, sq_r, sq_b, sq_c, nl_ap, bk_ap, ct_ap, ex_ap, ex_ok, rt_ap, rt_ok, rn_ap, as_ap, as_ok, nw_ap, nw_ok, sf_ap, sf_t, sf_f, pr_ap, pr1_ok, pr2_ok, pt_ap, pt1_ok, pt2_ok, pt3_ok, at_ap, at_ok, oN_some, fo_ap, fo_ok, tgN_ap, tgT_ap, tgs_c, tgs_n, ob_s, funD_ap, fin_d, fin_n, tk_len, tk_app, tk_appc, get_app, set_app, add_ii, add_ll, add_tt, sub_ii, mul_ii, mul_l, mulL_l, mul_t, addL_ll, div_ii, mod_ii, pow_ii, neg_i, lt_ii, le_ii, gt_ii, ge_ii, eq_ii, ne_ii, max_ii, min_ii, isB_bb, notB_bb, ix_t, ix_l, ix_c, ixC_l, oD_s, len_l, len_t, len_s, len_c, lnC_l, rd_d, rd_c, rdC_l, all_tt, tu_l, tu_t, li_l, li_t, in_i, rev_l, rev_t, sum_l, sum_t, all_b, any_b, fTup_0, fTup_1, fTup_2, fTup_3, fTup_4, fTup_5, fLst_0, fLst_1, fLst_2, fLst_3, fLst_4, fLst_5, isi_in, isi_tt, isi_ll, isi_bi, kb_d, kb_n, kb_c, lp_n, lp_c, lp_b, lp_r, isO_d, List.set_cons_zero, List.set_cons_succ, List.getElem?_cons_zero, List.getElem?_cons_succ, List.getElem?_nil, List.map_cons, List.map_nil, List.replicate_succ, List.replicate_zero, List.cons_append, List.nil_append, List.append_nil, atI_0, atI_1, atI_2, atI_3, decide_true, decide_false, Bool.not_true, Bool.not_false, Bool.and_true, Bool.true_and, Bool.and_false, Bool.false_and, Bool.or_true, Bool.true_or, Bool.or_false, Bool.false_or, wipeE, Option.map_some, Option.map_none, List.length_cons, List.length_nil, Nat.zero_add, Nat.reduceAdd, width_ex]
    rfl
  unfold d_word_mirrored
  simp only [v_ap, c_ap, un_ap, un_ok, bi_ap, bi1_ok, bi2_ok, cl_ap, cl_ok, cs_ap, cs1_ok, cs2_ok, nil_ap, t_ap, t_ok, an_ap, an_t, an_f, or_ap, or_tt, or_ff, nt_ap, nt_ok, if_ap, iff_t, iff_f, ch_ap, ch1_ok, ch2_ok, ch3_t, ch3_f, ch4_ok, oN_ap, oS_ap, so_ok, sl_ap, sl1_ok, sl2_ok, sl3_ok, fSl_l, fSl_t, iv_ap, iv_l, iv_t, ir_ap, ir_ok, ir_i, ie_ap, ie_l, ie_t, iz_ap, i2_ap, it1_ok, it2_ok, iZz_l, iZz_t, me_ap, me1_ok, me2_ok, nox_ok, isO_d, fPr_o, fFld_o, sq_ap, sq_n, sq_r, sq_b, sq_c, nl_ap, bk_ap, ct_ap, ex_ap, ex_ok, rt_ap, rt_ok, rn_ap, as_ap, as_ok, nw_ap, nw_ok, sf_ap, sf_t, sf_f, pr_ap, pr1_ok, pr2_ok, pt_ap, pt1_ok, pt2_ok, pt3_ok, at_ap, at_ok, oN_some, fo_ap, fo_ok, tgN_ap, tgT_ap, tgs_c, tgs_n, ob_s, funD_ap, fin_d, fin_n, tk_len, tk_app, tk_appc, get_app, set_app, add_ii, add_ll, add_tt, sub_ii, mul_ii, mul_l, mulL_l, mul_t, addL_ll, div_ii, mod_ii, pow_ii, neg_i, lt_ii, le_ii, gt_ii, ge_ii, eq_ii, ne_ii, max_ii, min_ii, isB_bb, notB_bb, ix_t, ix_l, ix_c, ixC_l, oD_s, len_l, len_t, len_s, len_c, lnC_l, rd_d, rd_c, rdC_l, all_tt, tu_l, tu_t, li_l, li_t, in_i, rev_l, rev_t, sum_l, sum_t, all_b, any_b, fTup_0, fTup_1, fTup_2, fTup_3, fTup_4, fTup_5, fLst_0, fLst_1, fLst_2, fLst_3, fLst_4, fLst_5, isi_in, isi_tt, isi_ll, isi_bi, kb_d, kb_n, kb_c, lp_n, lp_c, lp_b, lp_r, isO_d, List.set_cons_zero, List.set_cons_succ, List.getElem?_cons_zero, List.getElem?_cons_succ, List.getElem?_nil, List.map_cons, List.map_nil, List.replicate_succ, List.replicate_zero, List.cons_append, List.nil_append, List.append_nil, atI_0, atI_1, atI_2, atI_3, decide_true, decide_false, Bool.not_true, Bool.not_false, Bool.and_true, Bool.true_and, Bool.and_false, Bool.false_and, Bool.or_true, Bool.true_or, Bool.or_false, Bool.false_or, wipeE, Option.map_some, Option.map_none, List.length_cons, List.length_nil, Nat.zero_add, Nat.reduceAdd, req_word_ex, width_ex, l1, e]
theorem word_between_ex (w : Int) (rs : Rn) (lo hi : Int) (S : Store) (h1 : 1 ≤ w) (h2 : w ≤ 8) (h : OkR w rs) (a1 : 0 ≤ lo) (a2 : lo ≤ w) (a3 : lo ≤ hi) (a4 : hi ≤ w) :
    d_word_between [.d (wD w rs), .d (.int lo), .d (.int hi)] S = .ok (.d (wD w (leanR (rs.filter fun r => decide (lo ≤ r.1 ∧ r.1 < hi))))) S := by
  have hl := h.len
  have e := mk_ex w _ S h1 h2 (h.filter fun r => decide (lo ≤ r.1 ∧ r.1 < hi))
  have l1 : (eLc (itV (eUn (fPr "Word" d_Word_runs) (eVar 0))) [3] (tgN 3) (eTest (eChain fLe fLt (eVar 1) (eBin fIx (eVar 3) (eC (.int 0))) (eVar 2))) (eVar 3)) [some (.d (wD w rs)), some (.d (.int lo)), some (.d (.int hi)), none] S = .ok (.d (.lst (prs (rs.filter fun r => decide (lo ≤ r.1 ∧ r.1 < hi))))) S := by
    refine lc_fil' rs prD _ _ (by simp only [v_ap, c_ap, un_ap, un_ok, bi_ap, bi1_ok, bi2_ok, cl_ap, cl_ok, cs_ap, cs1_ok, cs2_ok, nil_ap, t_ap, t_ok, an_ap, an_t, an_f, or_ap, or_tt, or_ff, nt_ap, nt_ok, if_ap, iff_t, iff_f, ch_ap, ch1_ok, ch2_ok, ch3_t, ch3_f, ch4_ok, oN_ap, oS_ap, so_ok, sl_ap, sl1_ok, sl2_ok, sl3_ok, fSl_l, fSl_t, iv_ap, iv_l, iv_t, ir_ap, ir_ok, ir_i, ie_ap, ie_l, ie_t, iz_ap, i2_ap, it1_ok, it2_ok, iZz_l, iZz_t, me_ap, me1_ok, me2_ok, nox_ok, isO_d, fPr_o, fFld_o, sq_ap, sq_n, sq_r, sq_b, sq_c, nl_ap, bk_ap, ct_ap, ex_ap, ex_ok, rt_ap, rt_ok, rn_ap, as_ap, as_ok, nw_ap, nw_ok, sf_ap, sf_t, sf_f, pr_ap, pr1_ok, pr2_ok, pt_ap, pt1_ok, pt2_ok, pt3_ok, at_ap, at_ok, oN_some, fo_ap, fo_ok, tgN_ap, tgT_ap, tgs_c, tgs_n, ob_s, funD_ap, fin_d, fin_n, tk_len, tk_app, tk_appc, get_app, set_app, add_ii, add_ll, add_tt, sub_ii, mul_ii, mul_l, mulL_l, mul_t, addL_ll, div_ii, mod_ii, pow_ii, neg_i, lt_ii, le_ii, gt_ii, ge_ii, eq_ii, ne_ii, max_ii, min_ii, isB_bb, notB_bb, ix_t, ix_l, ix_c, ixC_l, oD_s, len_l, len_t, len_s, len_c, lnC_l, rd_d, rd_c, rdC_l, all_tt, tu_l, tu_t, li_l, li_t, in_i, rev_l, rev_t, sum_l, sum_t, all_b, any_b, fTup_0, fTup_1, fTup_2, fTup_3, fTup_4, fTup_5, fLst_0, fLst_1, fLst_2, fLst_3, fLst_4, fLst_5, isi_in, isi_tt, isi_ll, isi_bi, kb_d, kb_n, kb_c, lp_n, lp_c, lp_b, lp_r, isO_d, List.set_cons_zero, List.set_cons_succ, List.getElem?_cons_zero, List.getElem?_cons_succ, List.getElem?_nil, List.map_cons, List.map_nil, List.replicate_succ, List.replicate_zero, List.cons_append, List.nil_append, List.append_nil, atI_0, atI_1, atI_2, atI_3, decide_true, decide_false, Bool.not_true, Bool.not_false, Bool.and_true, Bool.true_and, Bool.and_false, Bool.false_and, Bool.or_true, Bool.true_or, Bool.or_false, Bool.false_or, wipeE, Option.map_some, Option.map_none, List.length_cons, List.length_nil, Nat.zero_add, Nat.reduceAdd, runs_ex]) (by omega) fun r hr => ⟨_, rfl, ?_, fun _ => rfl⟩
    by_cases q : lo ≤ r.1 <;> simp only [v_ap, c_ap, un_ap, un_ok, bi_ap, bi1_ok, bi2_ok, cl_ap, cl_ok, cs_ap, cs1_ok, cs2_ok, nil_ap, t_ap, t_ok, an_ap, an_t, an_f, or_ap, or_tt, or_ff, nt_ap, nt_ok, if_ap, iff_t, iff_f, ch_ap, ch1_ok, ch2_ok, ch3_t, ch3_f, ch4_ok, oN_ap, oS_ap, so_ok, sl_ap, sl1_ok, sl2_ok, sl3_ok, fSl_l, fSl_t, iv_ap, iv_l, iv_t, ir_ap, ir_ok, ir_i, ie_ap, ie_l, ie_t, iz_ap, i2_ap, it1_ok, it2_ok, iZz_l, iZz_t, me_ap, me1_ok, me2_ok, nox_ok, isO_d, fPr_o, fFld_o, sq_ap, sq_n, sq_r, sq_b, sq_c, nl_ap, bk_ap, ct_ap, ex_ap, ex_ok, rt_ap, rt_ok, rn_ap, as_ap, as_ok, nw_ap, nw_ok, sf_ap, sf_t, sf_f, pr_ap, pr1_ok, pr2_ok, pt_ap, pt1_ok, pt2_ok, pt3_ok, at_ap, at_ok, oN_some, fo_ap, fo_ok, tgN_ap, tgT_ap, tgs_c, tgs_n, ob_s, funD_ap, fin_d, fin_n, tk_len, tk_app, tk_appc, get_app, set_app, add_ii, add_ll, add_tt, sub_ii, mul_ii, mul_l, mulL_l, mul_t, addL_ll, div_ii, mod_ii, pow_ii, neg_i, lt_ii, le_ii, gt_ii, ge_ii, eq_ii, ne_ii, max_ii, min_ii, isB_bb, notB_bb, ix_t, ix_l, ix_c, ixC_l, oD_s, len_l, len_t, len_s, len_c, lnC_l, rd_d, rd_c, rdC_l, all_tt, tu_l, tu_t, li_l, li_t, in_i, rev_l, rev_t, sum_l, sum_t, all_b, any_b, fTup_0, fTup_1, fTup_2, fTup_3, fTup_4, fTup_5, fLst_0, fLst_1, fLst_2, fLst_3, fLst_4, fLst_5, isi_in, isi_tt, isi_ll, isi_bi, kb_d, kb_n, kb_c, lp_n, lp_c, lp_b, lp_r, isO_d, List.set_cons_zero, List.set_cons_succ, List.getElem?_cons_zero, List.getElem?_cons_succ, List.getElem?_nil, List.map_cons, List.map_nil, List.replicate_succ, List.replicate_zero, List.cons_append, List.nil_append, List.append_nil, atI_0, atI_1, atI_2, atI_3, decide_true, decide_false, Bool.not_true, Bool.not_false, Bool.and_true, Bool.true_and, Bool.and_false, Bool.false_and, Bool.or_true, Bool.true_or, Bool.or_false, Bool.false_or, wipeE, Option.map_some, Option.map_none, List.length_cons, List.length_nil, Nat.zero_add, Nat.reduceAdd, prD, q, true_and, false_and]
  unfold d_word_between
  simp only [v_ap, c_ap, un_ap, un_ok, bi_ap, bi1_ok, bi2_ok, cl_ap, cl_ok, cs_ap, cs1_ok, cs2_ok, nil_ap, t_ap, t_ok, an_ap, an_t, an_f, or_ap, or_tt, or_ff, nt_ap, nt_ok, if_ap, iff_t, iff_f, ch_ap, ch1_ok, ch2_ok, ch3_t, ch3_f, ch4_ok, oN_ap, oS_ap, so_ok, sl_ap, sl1_ok, sl2_ok, sl3_ok, fSl_l, fSl_t, iv_ap, iv_l, iv_t, ir_ap, ir_ok, ir_i, ie_ap, ie_l, ie_t, iz_ap, i2_ap, it1_ok, it2_ok, iZz_l, iZz_t, me_ap, me1_ok, me2_ok, nox_ok, isO_d, fPr_o, fFld_o, sq_ap, sq_n, sq_r, sq_b, sq_c, nl_ap, bk_ap, ct_ap, ex_ap, ex_ok, rt_ap, rt_ok, rn_ap, as_ap, as_ok, nw_ap, nw_ok, sf_ap, sf_t, sf_f, pr_ap, pr1_ok, pr2_ok, pt_ap, pt1_ok, pt2_ok, pt3_ok, at_ap, at_ok, oN_some, fo_ap, fo_ok, tgN_ap, tgT_ap, tgs_c, tgs_n, ob_s, funD_ap, fin_d, fin_n, tk_len, tk_app, tk_appc, get_app, set_app, add_ii, add_ll, add_tt, sub_ii, mul_ii, mul_l, mulL_l, mul_t, addL_ll, div_ii, mod_ii, pow_ii, neg_i, lt_ii, le_ii, gt_ii, ge_ii, eq_ii, ne_ii, max_ii, min_ii, isB_bb, notB_bb, ix_t, ix_l, ix_c, ixC_l, oD_s, len_l, len_t, len_s, len_c, lnC_l, rd_d, rd_c, rdC_l, all_tt, tu_l, tu_t, li_l, li_t, in_i, rev_l, rev_t, sum_l, sum_t, all_b, any_b, fTup_0, fTup_1, fTup_2, fTup_3, fTup_4, fTup_5, fLst_0, fLst_1, fLst_2, fLst_3, fLst_4, fLst_5, isi_in, isi_tt, isi_ll, isi_bi, kb_d, kb_n, kb_c, lp_n, lp_c, lp_b, lp_r, isO_d, List.set_cons_zero, List.set_cons_succ, List.getElem?_cons_zero, List.getElem?_cons_succ, List.getElem?_nil, List.map_cons, List.map_nil, List.replicate_succ, List.replicate_zero, List.cons_append, List.nil_append, List.append_nil, atI_0, atI_1, atI_2, atI_3, decide_true, decide_false, Bool.not_true, Bool.not_false, Bool.and_true, Bool.true_and, Bool.and_false, Bool.false_and, Bool.or_true, Bool.true_or, Bool.or_false, Bool.false_or, wipeE, Option.map_some, Option.map_none, List.length_cons, List.length_nil, Nat.zero_add, Nat.reduceAdd, req_word_ex, width_ex, req_within lo 0 w S a1 a2, req_within hi lo w S a3 a4, l1, e]
theorem word_joined_ex (w : Int) (r1 r2 : Rn) (S : Store) (h1 : 1 ≤ w) (h2 : w ≤ 8) (g1 : OkR w r1) (g2 : OkR w r2) (hl : r1.length + r2.length ≤ 200) (hs : (r1.map (·.2)).sum + (r2.map (·.2)).sum ≤ 10 ^ 64) :
    d_word_joined [.d (wD w r1), .d (wD w r2)] S = .ok (.d (wD w (leanR (leanR (r1 ++ r2))))) S := by
  have hz : ((r1 ++ r2).map (·.2)).sum ≤ 10 ^ 64 := by rw [List.map_append, List.sum_append]; exact hs
  have ok : OkR w (r1 ++ r2) := .of (by rw [List.length_append]; exact hl) (fun r hr => by
    rcases List.mem_append.mp hr with hr | hr
    · exact ⟨g1.let0 r hr, g1.let1 r hr, g1.many r hr⟩
    · exact ⟨g2.let0 r hr, g2.let1 r hr, g2.many r hr⟩) hz
  have e := word_of_runs_ex w (r1 ++ r2) S ok.nn (by rw [List.length_append]; omega) hz h1 h2 ok.lean
  rw [prs, List.map_append] at e
  have hw : decide (w = w) = true := decide_eq_true rfl
  have hc : (prs r1).length + (prs r2).length ≤ 1000000 := by simp; omega
  unfold d_word_joined
  simp only [v_ap, c_ap, un_ap, un_ok, bi_ap, bi1_ok, bi2_ok, cl_ap, cl_ok, cs_ap, cs1_ok, cs2_ok, nil_ap, t_ap, t_ok, an_ap, an_t, an_f, or_ap, or_tt, or_ff, nt_ap, nt_ok, if_ap, iff_t, iff_f, ch_ap, ch1_ok, ch2_ok, ch3_t, ch3_f, ch4_ok, oN_ap, oS_ap, so_ok, sl_ap, sl1_ok, sl2_ok, sl3_ok, fSl_l, fSl_t, iv_ap, iv_l, iv_t, ir_ap, ir_ok, ir_i, ie_ap, ie_l, ie_t, iz_ap, i2_ap, it1_ok, it2_ok, iZz_l, iZz_t, me_ap, me1_ok, me2_ok, nox_ok, isO_d, fPr_o, fFld_o, sq_ap, sq_n, sq_r, sq_b, sq_c, nl_ap, bk_ap, ct_ap, ex_ap, ex_ok, rt_ap, rt_ok, rn_ap, as_ap, as_ok, nw_ap, nw_ok, sf_ap, sf_t, sf_f, pr_ap, pr1_ok, pr2_ok, pt_ap, pt1_ok, pt2_ok, pt3_ok, at_ap, at_ok, oN_some, fo_ap, fo_ok, tgN_ap, tgT_ap, tgs_c, tgs_n, ob_s, funD_ap, fin_d, fin_n, tk_len, tk_app, tk_appc, get_app, set_app, add_ii, add_ll, add_tt, sub_ii, mul_ii, mul_l, mulL_l, mul_t, addL_ll, div_ii, mod_ii, pow_ii, neg_i, lt_ii, le_ii, gt_ii, ge_ii, eq_ii, ne_ii, max_ii, min_ii, isB_bb, notB_bb, ix_t, ix_l, ix_c, ixC_l, oD_s, len_l, len_t, len_s, len_c, lnC_l, rd_d, rd_c, rdC_l, all_tt, tu_l, tu_t, li_l, li_t, in_i, rev_l, rev_t, sum_l, sum_t, all_b, any_b, fTup_0, fTup_1, fTup_2, fTup_3, fTup_4, fTup_5, fLst_0, fLst_1, fLst_2, fLst_3, fLst_4, fLst_5, isi_in, isi_tt, isi_ll, isi_bi, kb_d, kb_n, kb_c, lp_n, lp_c, lp_b, lp_r, isO_d, List.set_cons_zero, List.set_cons_succ, List.getElem?_cons_zero, List.getElem?_cons_succ, List.getElem?_nil, List.map_cons, List.map_nil, List.replicate_succ, List.replicate_zero, List.cons_append, List.nil_append, List.append_nil, atI_0, atI_1, atI_2, atI_3, decide_true, decide_false, Bool.not_true, Bool.not_false, Bool.and_true, Bool.true_and, Bool.and_false, Bool.false_and, Bool.or_true, Bool.true_or, Bool.or_false, Bool.false_or, wipeE, Option.map_some, Option.map_none, List.length_cons, List.length_nil, Nat.zero_add, Nat.reduceAdd, req_word_ex, width_ex, runs_ex, hw, hc, e]
theorem OkR.nil {w : Int} : OkR w [] := .of (by simp) (fun _ h => by cases h) (by simp)
/-- the runs of a word so many times -/
def repR (rs : Rn) (t : Int) : Rn := if rs.length ≤ 1 ∨ t = 0 then rs.flatMap fun r => if 0 < t then [(r.1, r.2 * t)] else [] else (List.replicate t.toNat rs).flatten
theorem flat_if {α β : Type} (f : α → β) : ∀ l : List α, (l.flatMap fun r => [f r]) = l.map f
  | [] => rfl
  | _ :: l => congrArg _ (flat_if f l)
theorem flat_no {α β : Type} : ∀ l : List α, (l.flatMap fun _ => ([] : List β)) = []
  | [] => rfl
  | _ :: l => flat_no l
theorem prs_rep (rs : Rn) : ∀ n : Nat, (List.replicate n (prs rs)).flatten = prs (List.replicate n rs).flatten
  | 0 => rfl
  | n + 1 => by
    rw [List.replicate_succ, List.replicate_succ, List.flatten_cons, List.flatten_cons, prs_rep rs n, prs, prs, prs, List.map_append]
theorem word_repeated_ex (w : Int) (rs : Rn) (t : Int) (S : Store) (h1 : 1 ≤ w) (h2 : w ≤ 8) (h : OkR w rs) (a1 : 0 ≤ t) (a2 : t ≤ 10 ^ 60) (hs : (rs.map (·.2)).sum * t ≤ 10 ^ 64) (hr : 2 ≤ rs.length → rs.length * t ≤ 200) (ok : OkR w (repR rs t)) (ok2 : OkR w (leanR (repR rs t))) :
    d_word_repeated [.d (wD w rs), .d (.int t)] S = .ok (.d (wD w (leanR (leanR (repR rs t))))) S := by
  have hl := h.len
  have e64 : (10 : Int) ^ 64 = 10000000000000000000000000000000000000000000000000000000000000000 := by decide
  have e60 : (10 : Int) ^ 60 = 1000000000000000000000000000000000000000000000000000000000000 := by decide
  have e70 : (10 : Nat) ^ 70 = 10000000000000000000000000000000000000000000000000000000000000000000000 := by decide
  have s0 := h.sum0
  have s1 := h.sum
  rw [e64] at s1 hs
  rw [e60] at a2
  have mu : mulOk (rs.map (·.2)).sum t = true := mulOk_b (int_big (by omega)) (int_big (by omega))
  have hs' : ¬ (10000000000000000000000000000000000000000000000000000000000000000 < (rs.map (·.2)).sum * t) := by omega
  have e5 := length_ex w rs S (by omega)
  have lp : (prs rs).length = rs.length := List.length_map ..
  by_cases q : rs.length ≤ 1 ∨ t = 0
  · have eR : repR rs t = rs.flatMap fun r => if 0 < t then [(r.1, r.2 * t)] else [] := if_pos q
    have l1 : (eLc (itV (eVar 2)) [3, 4] (tgT (tgsCons (tgN 3) (tgsCons (tgN 4) tgsNil))) (eTest (eBin fGt (eVar 1) (eC (.int 0)))) (eCall fTup (eCons (eVar 3) (eCons (eBin fMul (eVar 4) (eVar 1)) eNil)))) [some (.d (wD w rs)), some (.d (.int t)), some (.d (.tup (prs rs))), none, none] S = .ok (.d (.lst (prs (repR rs t)))) S := by
      rw [eR]
      by_cases ht : 0 < t
      · have l := lc_fil' (it := itV (eVar 2)) (vs := [3, 4]) (tg := tgT (tgsCons (tgN 3) (tgsCons (tgN 4) tgsNil))) (test := eTest (eBin fGt (eVar 1) (eC (.int 0)))) (elt := eCall fTup (eCons (eVar 3) (eCons (eBin fMul (eVar 4) (eVar 1)) eNil))) (Γ := [some (.d (wD w rs)), some (.d (.int t)), some (.d (.tup (prs rs))), none, none]) (S := S) rs prD (fun r => prD (r.1, r.2 * t)) (fun _ => true) rfl (by omega) fun r hr => ⟨_, rfl, by simp only [v_ap, c_ap, un_ap, un_ok, bi_ap, bi1_ok, bi2_ok, cl_ap, cl_ok, cs_ap, cs1_ok, cs2_ok, nil_ap, t_ap, t_ok, an_ap, an_t, an_f, or_ap, or_tt, or_ff, nt_ap, nt_ok, if_ap, iff_t, iff_f, ch_ap, ch1_ok, ch2_ok, ch3_t, ch3_f, ch4_ok, oN_ap, oS_ap, so_ok, sl_ap, sl1_ok, sl2_ok, sl3_ok, fSl_l, fSl_t, iv_ap, iv_l, iv_t, ir_ap, ir_ok, ir_i, ie_ap, ie_l, ie_t, iz_ap, i2_ap, it1_ok, it2_ok, iZz_l, iZz_t, me_ap, me1_ok, me2_ok, nox_ok, isO_d, fPr_o, fFld_o, sq_ap, sq_n, sq_r, sq_b, sq_c, nl_ap, bk_ap, ct_ap, ex_ap, ex_ok, rt_ap, rt_ok, rn_ap, as_ap, as_ok, nw_ap, nw_ok, sf_ap, sf_t, sf_f, pr_ap, pr1_ok, pr2_ok, pt_ap, pt1_ok, pt2_ok, pt3_ok, at_ap, at_ok, oN_some, fo_ap, fo_ok, tgN_ap, tgT_ap, tgs_c, tgs_n, ob_s, funD_ap, fin_d, fin_n, tk_len, tk_app, tk_appc, get_app, set_app, add_ii, add_ll, add_tt, sub_ii, mul_ii, mul_l, mulL_l, mul_t, addL_ll, div_ii, mod_ii, pow_ii, neg_i, lt_ii, le_ii, gt_ii, ge_ii, eq_ii, ne_ii, max_ii, min_ii, isB_bb, notB_bb, ix_t, ix_l, ix_c, ixC_l, oD_s, len_l, len_t, len_s, len_c, lnC_l, rd_d, rd_c, rdC_l, all_tt, tu_l, tu_t, li_l, li_t, in_i, rev_l, rev_t, sum_l, sum_t, all_b, any_b, fTup_0, fTup_1, fTup_2, fTup_3, fTup_4, fTup_5, fLst_0, fLst_1, fLst_2, fLst_3, fLst_4, fLst_5, isi_in, isi_tt, isi_ll, isi_bi, kb_d, kb_n, kb_c, lp_n, lp_c, lp_b, lp_r, isO_d, List.set_cons_zero, List.set_cons_succ, List.getElem?_cons_zero, List.getElem?_cons_succ, List.getElem?_nil, List.map_cons, List.map_nil, List.replicate_succ, List.replicate_zero, List.cons_append, List.nil_append, List.append_nil, atI_0, atI_1, atI_2, atI_3, decide_true, decide_false, Bool.not_true, Bool.not_false, Bool.and_true, Bool.true_and, Bool.and_false, Bool.false_and, Bool.or_true, Bool.true_or, Bool.or_false, Bool.false_or, wipeE, Option.map_some, Option.map_none, List.length_cons, List.length_nil, Nat.zero_add, Nat.reduceAdd, ht], fun _ => by
          have m1 := h.many r hr
          have m2 := le_sum h.nn r hr
          have mo : mulOk r.2 t = true := mulOk_b (int_big (by omega)) (int_big (by omega))
          simp only [v_ap, c_ap, un_ap, un_ok, bi_ap, bi1_ok, bi2_ok, cl_ap, cl_ok, cs_ap, cs1_ok, cs2_ok, nil_ap, t_ap, t_ok, an_ap, an_t, an_f, or_ap, or_tt, or_ff, nt_ap, nt_ok, if_ap, iff_t, iff_f, ch_ap, ch1_ok, ch2_ok, ch3_t, ch3_f, ch4_ok, oN_ap, oS_ap, so_ok, sl_ap, sl1_ok, sl2_ok, sl3_ok, fSl_l, fSl_t, iv_ap, iv_l, iv_t, ir_ap, ir_ok, ir_i, ie_ap, ie_l, ie_t, iz_ap, i2_ap, it1_ok, it2_ok, iZz_l, iZz_t, me_ap, me1_ok, me2_ok, nox_ok, isO_d, fPr_o, fFld_o, sq_ap, sq_n, sq_r, sq_b, sq_c, nl_ap, bk_ap, ct_ap, ex_ap, ex_ok, rt_ap, rt_ok, rn_ap, as_ap, as_ok, nw_ap, nw_ok, sf_ap, sf_t, sf_f, pr_ap, pr1_ok, pr2_ok, pt_ap, pt1_ok, pt2_ok, pt3_ok, at_ap, at_ok, oN_some, fo_ap, fo_ok, tgN_ap, tgT_ap, tgs_c, tgs_n, ob_s, funD_ap, fin_d, fin_n, tk_len, tk_app, tk_appc, get_app, set_app, add_ii, add_ll, add_tt, sub_ii, mul_ii, mul_l, mulL_l, mul_t, addL_ll, div_ii, mod_ii, pow_ii, neg_i, lt_ii, le_ii, gt_ii, ge_ii, eq_ii, ne_ii, max_ii, min_ii, isB_bb, notB_bb, ix_t, ix_l, ix_c, ixC_l, oD_s, len_l, len_t, len_s, len_c, lnC_l, rd_d, rd_c, rdC_l, all_tt, tu_l, tu_t, li_l, li_t, in_i, rev_l, rev_t, sum_l, sum_t, all_b, any_b, fTup_0, fTup_1, fTup_2, fTup_3, fTup_4, fTup_5, fLst_0, fLst_1, fLst_2, fLst_3, fLst_4, fLst_5, isi_in, isi_tt, isi_ll, isi_bi, kb_d, kb_n, kb_c, lp_n, lp_c, lp_b, lp_r, isO_d, List.set_cons_zero, List.set_cons_succ, List.getElem?_cons_zero, List.getElem?_cons_succ, List.getElem?_nil, List.map_cons, List.map_nil, List.replicate_succ, List.replicate_zero, List.cons_append, List.nil_append, List.append_nil, atI_0, atI_1, atI_2, atI_3, decide_true, decide_false, Bool.not_true, Bool.not_false, Bool.and_true, Bool.true_and, Bool.and_false, Bool.false_and, Bool.or_true, Bool.true_or, Bool.or_false, Bool.false_or, wipeE, Option.map_some, Option.map_none, List.length_cons, List.length_nil, Nat.zero_add, Nat.reduceAdd, mo]
          rfl⟩
        rw [l, List.filter_eq_self.mpr (by simp)]
        simp only [ht, if_true, flat_if, prs, List.map_map]
        rfl
      · have l := lc_fil' (it := itV (eVar 2)) (vs := [3, 4]) (tg := tgT (tgsCons (tgN 3) (tgsCons (tgN 4) tgsNil))) (test := eTest (eBin fGt (eVar 1) (eC (.int 0)))) (elt := eCall fTup (eCons (eVar 3) (eCons (eBin fMul (eVar 4) (eVar 1)) eNil))) (Γ := [some (.d (wD w rs)), some (.d (.int t)), some (.d (.tup (prs rs))), none, none]) (S := S) rs prD (fun r => prD (r.1, r.2 * t)) (fun _ => false) rfl (by omega) fun r hr => ⟨_, rfl, by simp only [v_ap, c_ap, un_ap, un_ok, bi_ap, bi1_ok, bi2_ok, cl_ap, cl_ok, cs_ap, cs1_ok, cs2_ok, nil_ap, t_ap, t_ok, an_ap, an_t, an_f, or_ap, or_tt, or_ff, nt_ap, nt_ok, if_ap, iff_t, iff_f, ch_ap, ch1_ok, ch2_ok, ch3_t, ch3_f, ch4_ok, oN_ap, oS_ap, so_ok, sl_ap, sl1_ok, sl2_ok, sl3_ok, fSl_l, fSl_t, iv_ap, iv_l, iv_t, ir_ap, ir_ok, ir_i, ie_ap, ie_l, ie_t, iz_ap, i2_ap, it1_ok, it2_ok, iZz_l, iZz_t, me_ap, me1_ok, me2_ok, nox_ok, isO_d, fPr_o, fFld_o, sq_ap, sq_n, sq_r, sq_b, sq_c, nl_ap, bk_ap, ct_ap, ex_ap, ex_ok, rt_ap, rt_ok, rn_ap, as_ap, as_ok, nw_ap, nw_ok, sf_ap, sf_t, sf_f, pr_ap, pr1_ok, pr2_ok, pt_ap, pt1_ok, pt2_ok, pt3_ok, at_ap, at_ok, oN_some, fo_ap, fo_ok, tgN_ap, tgT_ap, tgs_c, tgs_n, ob_s, funD_ap, fin_d, fin_n, tk_len, tk_app, tk_appc, get_app, set_app, add_ii, add_ll, add_tt, sub_ii, mul_ii, mul_l, mulL_l, mul_t, addL_ll, div_ii, mod_ii, pow_ii, neg_i, lt_ii, le_ii, gt_ii, ge_ii, eq_ii, ne_ii, max_ii, min_ii, isB_bb, notB_bb, ix_t, ix_l, ix_c, ixC_l, oD_s, len_l, len_t, len_s, len_c, lnC_l, rd_d, rd_c, rdC_l, all_tt, tu_l, tu_t, li_l, li_t, in_i, rev_l, rev_t, sum_l, sum_t, all_b, any_b, fTup_0, fTup_1, fTup_2, fTup_3, fTup_4, fTup_5, fLst_0, fLst_1, fLst_2, fLst_3, fLst_4, fLst_5, isi_in, isi_tt, isi_ll, isi_bi, kb_d, kb_n, kb_c, lp_n, lp_c, lp_b, lp_r, isO_d, List.set_cons_zero, List.set_cons_succ, List.getElem?_cons_zero, List.getElem?_cons_succ, List.getElem?_nil, List.map_cons, List.map_nil, List.replicate_succ, List.replicate_zero, List.cons_append, List.nil_append, List.append_nil, atI_0, atI_1, atI_2, atI_3, decide_true, decide_false, Bool.not_true, Bool.not_false, Bool.and_true, Bool.true_and, Bool.and_false, Bool.false_and, Bool.or_true, Bool.true_or, Bool.or_false, Bool.false_or, wipeE, Option.map_some, Option.map_none, List.length_cons, List.length_nil, Nat.zero_add, Nat.reduceAdd, ht], fun z => by cases z⟩
        rw [l, List.filter_eq_nil_iff.mpr (by simp)]
        simp only [ht, if_false, flat_no, prs, List.map_nil]
    have e := mk_ex w _ S h1 h2 ok
    rw [lean_lean (leanR_pos ok.nn) (leanR_alt _)]
    have q1 : rs.length ≤ 1 → ((rs.length : Nat) : Int) ≤ 1 := fun z => by omega
    by_cases qq : ((rs.length : Nat) : Int) ≤ 1
    · unfold d_word_repeated
      simp only [v_ap, c_ap, un_ap, un_ok, bi_ap, bi1_ok, bi2_ok, cl_ap, cl_ok, cs_ap, cs1_ok, cs2_ok, nil_ap, t_ap, t_ok, an_ap, an_t, an_f, or_ap, or_tt, or_ff, nt_ap, nt_ok, if_ap, iff_t, iff_f, ch_ap, ch1_ok, ch2_ok, ch3_t, ch3_f, ch4_ok, oN_ap, oS_ap, so_ok, sl_ap, sl1_ok, sl2_ok, sl3_ok, fSl_l, fSl_t, iv_ap, iv_l, iv_t, ir_ap, ir_ok, ir_i, ie_ap, ie_l, ie_t, iz_ap, i2_ap, it1_ok, it2_ok, iZz_l, iZz_t, me_ap, me1_ok, me2_ok, nox_ok, isO_d, fPr_o, fFld_o, sq_ap, sq_n, sq_r, sq_b, sq_c, nl_ap, bk_ap, ct_ap, ex_ap, ex_ok, rt_ap, rt_ok, rn_ap, as_ap, as_ok, nw_ap, nw_ok, sf_ap, sf_t, sf_f, pr_ap, pr1_ok, pr2_ok, pt_ap, pt1_ok, pt2_ok, pt3_ok, at_ap, at_ok, oN_some, fo_ap, fo_ok, tgN_ap, tgT_ap, tgs_c, tgs_n, ob_s, funD_ap, fin_d, fin_n, tk_len, tk_app, tk_appc, get_app, set_app, add_ii, add_ll, add_tt, sub_ii, mul_ii, mul_l, mulL_l, mul_t, addL_ll, div_ii, mod_ii, pow_ii, neg_i, lt_ii, le_ii, gt_ii, ge_ii, eq_ii, ne_ii, max_ii, min_ii, isB_bb, notB_bb, ix_t, ix_l, ix_c, ixC_l, oD_s, len_l, len_t, len_s, len_c, lnC_l, rd_d, rd_c, rdC_l, all_tt, tu_l, tu_t, li_l, li_t, in_i, rev_l, rev_t, sum_l, sum_t, all_b, any_b, fTup_0, fTup_1, fTup_2, fTup_3, fTup_4, fTup_5, fLst_0, fLst_1, fLst_2, fLst_3, fLst_4, fLst_5, isi_in, isi_tt, isi_ll, isi_bi, kb_d, kb_n, kb_c, lp_n, lp_c, lp_b, lp_r, isO_d, List.set_cons_zero, List.set_cons_succ, List.getElem?_cons_zero, List.getElem?_cons_succ, List.getElem?_nil, List.map_cons, List.map_nil, List.replicate_succ, List.replicate_zero, List.cons_append, List.nil_append, List.append_nil, atI_0, atI_1, atI_2, atI_3, decide_true, decide_false, Bool.not_true, Bool.not_false, Bool.and_true, Bool.true_and, Bool.and_false, Bool.false_and, Bool.or_true, Bool.true_or, Bool.or_false, Bool.false_or, wipeE, Option.map_some, Option.map_none, List.length_cons, List.length_nil, Nat.zero_add, Nat.reduceAdd, req_word_ex, req_within t 0 _ S a1 a2, e5, mu, hs', runs_ex, width_ex, lp, qq, l1, e]
    · have ht : t = 0 := q.resolve_left fun z => qq (q1 z)
      unfold d_word_repeated
      simp only [v_ap, c_ap, un_ap, un_ok, bi_ap, bi1_ok, bi2_ok, cl_ap, cl_ok, cs_ap, cs1_ok, cs2_ok, nil_ap, t_ap, t_ok, an_ap, an_t, an_f, or_ap, or_tt, or_ff, nt_ap, nt_ok, if_ap, iff_t, iff_f, ch_ap, ch1_ok, ch2_ok, ch3_t, ch3_f, ch4_ok, oN_ap, oS_ap, so_ok, sl_ap, sl1_ok, sl2_ok, sl3_ok, fSl_l, fSl_t, iv_ap, iv_l, iv_t, ir_ap, ir_ok, ir_i, ie_ap, ie_l, ie_t, iz_ap, i2_ap, it1_ok, it2_ok, iZz_l, iZz_t, me_ap, me1_ok, me2_ok, nox_ok, isO_d, fPr_o, fFld_o, sq_ap, sq_n, sq_r, sq_b, sq_c, nl_ap, bk_ap, ct_ap, ex_ap, ex_ok, rt_ap, rt_ok, rn_ap, as_ap, as_ok, nw_ap, nw_ok, sf_ap, sf_t, sf_f, pr_ap, pr1_ok, pr2_ok, pt_ap, pt1_ok, pt2_ok, pt3_ok, at_ap, at_ok, oN_some, fo_ap, fo_ok, tgN_ap, tgT_ap, tgs_c, tgs_n, ob_s, funD_ap, fin_d, fin_n, tk_len, tk_app, tk_appc, get_app, set_app, add_ii, add_ll, add_tt, sub_ii, mul_ii, mul_l, mulL_l, mul_t, addL_ll, div_ii, mod_ii, pow_ii, neg_i, lt_ii, le_ii, gt_ii, ge_ii, eq_ii, ne_ii, max_ii, min_ii, isB_bb, notB_bb, ix_t, ix_l, ix_c, ixC_l, oD_s, len_l, len_t, len_s, len_c, lnC_l, rd_d, rd_c, rdC_l, all_tt, tu_l, tu_t, li_l, li_t, in_i, rev_l, rev_t, sum_l, sum_t, all_b, any_b, fTup_0, fTup_1, fTup_2, fTup_3, fTup_4, fTup_5, fLst_0, fLst_1, fLst_2, fLst_3, fLst_4, fLst_5, isi_in, isi_tt, isi_ll, isi_bi, kb_d, kb_n, kb_c, lp_n, lp_c, lp_b, lp_r, isO_d, List.set_cons_zero, List.set_cons_succ, List.getElem?_cons_zero, List.getElem?_cons_succ, List.getElem?_nil, List.map_cons, List.map_nil, List.replicate_succ, List.replicate_zero, List.cons_append, List.nil_append, List.append_nil, atI_0, atI_1, atI_2, atI_3, decide_true, decide_false, Bool.not_true, Bool.not_false, Bool.and_true, Bool.true_and, Bool.and_false, Bool.false_and, Bool.or_true, Bool.true_or, Bool.or_false, Bool.false_or, wipeE, Option.map_some, Option.map_none, List.length_cons, List.length_nil, Nat.zero_add, Nat.reduceAdd, req_word_ex, req_within t 0 _ S a1 a2, e5, mu, hs', runs_ex, width_ex, lp, qq, l1, e, decide_eq_true ht]
  · have eR : repR rs t = (List.replicate t.toNat rs).flatten := if_neg q
    have q1 : ¬ rs.length ≤ 1 := fun z => q (.inl z)
    have q2 : ¬ t = 0 := fun z => q (.inr z)
    have q1' : ¬ ((rs.length : Nat) : Int) ≤ 1 := by omega
    have hz := hr (by omega)
    have ml : mulOk ((rs.length : Nat) : Int) t = true := mulOk_l (by omega) (by omega)
    obtain ⟨x, hx⟩ : ∃ x, rs[0]? = some x := ⟨rs[0], List.getElem?_eq_getElem (by omega)⟩
    obtain ⟨y, hy⟩ : ∃ y, rs[rs.length - 1]? = some y := ⟨rs[rs.length - 1], List.getElem?_eq_getElem (by omega)⟩
    have i1 : (prs rs)[0]? = some (prD x) := by rw [List.getElem?_map, hx]; rfl
    have i2 : atI (prs rs) (-1) = some (prD y) := by rw [Pq.atI_end, lp, List.getElem?_map, hy]; rfl
    have tt : t ≤ 200 := by
      have : 1 * t ≤ rs.length * t := Int.mul_le_mul_of_nonneg_right (by omega) a1
      omega
    have rl : ((repR rs t).map (·.2)).sum ≤ 10 ^ 64 := ok.sum
    have e := word_of_runs_ex w (repR rs t) S ok.nn (by have := ok.len; omega) rl h1 h2 ok2
    have mt : 0 ≤ t ∧ t ≤ 1000 ∧ (prs rs = [] ∨ 1 ≤ t) ∧ (prs rs).length ≤ 1000 := ⟨a1, by omega, .inr (by omega), by rw [lp]; omega⟩
    by_cases qe : x.1 = y.1
    · have z : ¬ (200 < (rs.length : Int) * t - (t - 1)) := by omega
      unfold d_word_repeated
      simp only [v_ap, c_ap, un_ap, un_ok, bi_ap, bi1_ok, bi2_ok, cl_ap, cl_ok, cs_ap, cs1_ok, cs2_ok, nil_ap, t_ap, t_ok, an_ap, an_t, an_f, or_ap, or_tt, or_ff, nt_ap, nt_ok, if_ap, iff_t, iff_f, ch_ap, ch1_ok, ch2_ok, ch3_t, ch3_f, ch4_ok, oN_ap, oS_ap, so_ok, sl_ap, sl1_ok, sl2_ok, sl3_ok, fSl_l, fSl_t, iv_ap, iv_l, iv_t, ir_ap, ir_ok, ir_i, ie_ap, ie_l, ie_t, iz_ap, i2_ap, it1_ok, it2_ok, iZz_l, iZz_t, me_ap, me1_ok, me2_ok, nox_ok, isO_d, fPr_o, fFld_o, sq_ap, sq_n, sq_r, sq_b, sq_c, nl_ap, bk_ap, ct_ap, ex_ap, ex_ok, rt_ap, rt_ok, rn_ap, as_ap, as_ok, nw_ap, nw_ok, sf_ap, sf_t, sf_f, pr_ap, pr1_ok, pr2_ok, pt_ap, pt1_ok, pt2_ok, pt3_ok, at_ap, at_ok, oN_some, fo_ap, fo_ok, tgN_ap, tgT_ap, tgs_c, tgs_n, ob_s, funD_ap, fin_d, fin_n, tk_len, tk_app, tk_appc, get_app, set_app, add_ii, add_ll, add_tt, sub_ii, mul_ii, mul_l, mulL_l, mul_t, addL_ll, div_ii, mod_ii, pow_ii, neg_i, lt_ii, le_ii, gt_ii, ge_ii, eq_ii, ne_ii, max_ii, min_ii, isB_bb, notB_bb, ix_t, ix_l, ix_c, ixC_l, oD_s, len_l, len_t, len_s, len_c, lnC_l, rd_d, rd_c, rdC_l, all_tt, tu_l, tu_t, li_l, li_t, in_i, rev_l, rev_t, sum_l, sum_t, all_b, any_b, fTup_0, fTup_1, fTup_2, fTup_3, fTup_4, fTup_5, fLst_0, fLst_1, fLst_2, fLst_3, fLst_4, fLst_5, isi_in, isi_tt, isi_ll, isi_bi, kb_d, kb_n, kb_c, lp_n, lp_c, lp_b, lp_r, isO_d, List.set_cons_zero, List.set_cons_succ, List.getElem?_cons_zero, List.getElem?_cons_succ, List.getElem?_nil, List.map_cons, List.map_nil, List.replicate_succ, List.replicate_zero, List.cons_append, List.nil_append, List.append_nil, atI_0, atI_1, atI_2, atI_3, decide_true, decide_false, Bool.not_true, Bool.not_false, Bool.and_true, Bool.true_and, Bool.and_false, Bool.false_and, Bool.or_true, Bool.true_or, Bool.or_false, Bool.false_or, wipeE, Option.map_some, Option.map_none, List.length_cons, List.length_nil, Nat.zero_add, Nat.reduceAdd, req_word_ex, req_within t 0 _ S a1 a2, e5, mu, hs', runs_ex, width_ex, lp, q1', q2, ml, i1, i2, prD, qe, z]
      simp only [mul_t mt, prs_rep, ← eR, e, v_ap, c_ap, un_ap, un_ok, bi_ap, bi1_ok, bi2_ok, cl_ap, cl_ok, cs_ap, cs1_ok, cs2_ok, nil_ap, t_ap, t_ok, an_ap, an_t, an_f, or_ap, or_tt, or_ff, nt_ap, nt_ok, if_ap, iff_t, iff_f, ch_ap, ch1_ok, ch2_ok, ch3_t, ch3_f, ch4_ok, oN_ap, oS_ap, so_ok, sl_ap, sl1_ok, sl2_ok, sl3_ok, fSl_l, fSl_t, iv_ap, iv_l, iv_t, ir_ap, ir_ok, ir_i, ie_ap, ie_l, ie_t, iz_ap, i2_ap, it1_ok, it2_ok, iZz_l, iZz_t, me_ap, me1_ok, me2_ok, nox_ok, isO_d, fPr_o, fFld_o, sq_ap, sq_n, sq_r, sq_b, sq_c, nl_ap, bk_ap, ct_ap, ex_ap, ex_ok, rt_ap, rt_ok, rn_ap, as_ap, as_ok, nw_ap, nw_ok, sf_ap, sf_t, sf_f, pr_ap, pr1_ok, pr2_ok, pt_ap, pt1_ok, pt2_ok, pt3_ok, at_ap, at_ok, oN_some, fo_ap, fo_ok, tgN_ap, tgT_ap, tgs_c, tgs_n, ob_s, funD_ap, fin_d, fin_n, tk_len, tk_app, tk_appc, get_app, set_app, add_ii, add_ll, add_tt, sub_ii, mul_ii, mul_l, mulL_l, mul_t, addL_ll, div_ii, mod_ii, pow_ii, neg_i, lt_ii, le_ii, gt_ii, ge_ii, eq_ii, ne_ii, max_ii, min_ii, isB_bb, notB_bb, ix_t, ix_l, ix_c, ixC_l, oD_s, len_l, len_t, len_s, len_c, lnC_l, rd_d, rd_c, rdC_l, all_tt, tu_l, tu_t, li_l, li_t, in_i, rev_l, rev_t, sum_l, sum_t, all_b, any_b, fTup_0, fTup_1, fTup_2, fTup_3, fTup_4, fTup_5, fLst_0, fLst_1, fLst_2, fLst_3, fLst_4, fLst_5, isi_in, isi_tt, isi_ll, isi_bi, kb_d, kb_n, kb_c, lp_n, lp_c, lp_b, lp_r, isO_d, List.set_cons_zero, List.set_cons_succ, List.getElem?_cons_zero, List.getElem?_cons_succ, List.getElem?_nil, List.map_cons, List.map_nil, List.replicate_succ, List.replicate_zero, List.cons_append, List.nil_append, List.append_nil, atI_0, atI_1, atI_2, atI_3, decide_true, decide_false, Bool.not_true, Bool.not_false, Bool.and_true, Bool.true_and, Bool.and_false, Bool.false_and, Bool.or_true, Bool.true_or, Bool.or_false, Bool.false_or, wipeE, Option.map_some, Option.map_none, List.length_cons, List.length_nil, Nat.zero_add, Nat.reduceAdd]
    · have z : ¬ (200 < (rs.length : Int) * t - 0) := by omega
      unfold d_word_repeated
      simp only [v_ap, c_ap, un_ap, un_ok, bi_ap, bi1_ok, bi2_ok, cl_ap, cl_ok, cs_ap, cs1_ok, cs2_ok, nil_ap, t_ap, t_ok, an_ap, an_t, an_f, or_ap, or_tt, or_ff, nt_ap, nt_ok, if_ap, iff_t, iff_f, ch_ap, ch1_ok, ch2_ok, ch3_t, ch3_f, ch4_ok, oN_ap, oS_ap, so_ok, sl_ap, sl1_ok, sl2_ok, sl3_ok, fSl_l, fSl_t, iv_ap, iv_l, iv_t, ir_ap, ir_ok, ir_i, ie_ap, ie_l, ie_t, iz_ap, i2_ap, it1_ok, it2_ok, iZz_l, iZz_t, me_ap, me1_ok, me2_ok, nox_ok, isO_d, fPr_o, fFld_o, sq_ap, sq_n, sq_r, sq_b, sq_c, nl_ap, bk_ap, ct_ap, ex_ap, ex_ok, rt_ap, rt_ok, rn_ap, as_ap, as_ok, nw_ap, nw_ok, sf_ap, sf_t, sf_f, pr_ap, pr1_ok, pr2_ok, pt_ap, pt1_ok, pt2_ok, pt3_ok, at_ap, at_ok, oN_some, fo_ap, fo_ok, tgN_ap, tgT_ap, tgs_c, tgs_n, ob_s, funD_ap, fin_d, fin_n, tk_len, tk_app, tk_appc, get_app, set_app, add_ii, add_ll, add_tt, sub_ii, mul_ii, mul_l, mulL_l, mul_t, addL_ll, div_ii, mod_ii, pow_ii, neg_i, lt_ii, le_ii, gt_ii, ge_ii, eq_ii, ne_ii, max_ii, min_ii, isB_bb, notB_bb, ix_t, ix_l, ix_c, ixC_l, oD_s, len_l, len_t, len_s, len_c, lnC_l, rd_d, rd_c, rdC_l, all_tt, tu_l, tu_t, li_l, li_t, in_i, rev_l, rev_t, sum_l, sum_t, all_b, any_b, fTup_0, fTup_1, fTup_2, fTup_3, fTup_4, fTup_5, fLst_0, fLst_1, fLst_2, fLst_3, fLst_4, fLst_5, isi_in, isi_tt, isi_ll, isi_bi, kb_d, kb_n, kb_c, lp_n, lp_c, lp_b, lp_r, isO_d, List.set_cons_zero, List.set_cons_succ, List.getElem?_cons_zero, List.getElem?_cons_succ, List.getElem?_nil, List.map_cons, List.map_nil, List.replicate_succ, List.replicate_zero, List.cons_append, List.nil_append, List.append_nil, atI_0, atI_1, atI_2, atI_3, decide_true, decide_false, Bool.not_true, Bool.not_false, Bool.and_true, Bool.true_and, Bool.and_false, Bool.false_and, Bool.or_true, Bool.true_or, Bool.or_false, Bool.false_or, wipeE, Option.map_some, Option.map_none, List.length_cons, List.length_nil, Nat.zero_add, Nat.reduceAdd, req_word_ex, req_within t 0 _ S a1 a2, e5, mu, hs', runs_ex, width_ex, lp, q1', q2, ml, i1, i2, prD, qe, z]
      simp only [mul_t mt, prs_rep, ← eR, e, v_ap, c_ap, un_ap, un_ok, bi_ap, bi1_ok, bi2_ok, cl_ap, cl_ok, cs_ap, cs1_ok, cs2_ok, nil_ap, t_ap, t_ok, an_ap, an_t, an_f, or_ap, or_tt, or_ff, nt_ap, nt_ok, if_ap, iff_t, iff_f, ch_ap, ch1_ok, ch2_ok, ch3_t, ch3_f, ch4_ok, oN_ap, oS_ap, so_ok, sl_ap, sl1_ok, sl2_ok, sl3_ok, fSl_l, fSl_t, iv_ap, iv_l, iv_t, ir_ap, ir_ok, ir_i, ie_ap, ie_l, ie_t, iz_ap, i2_ap, it1_ok, it2_ok, iZz_l, iZz_t, me_ap, me1_ok, me2_ok, nox_ok, isO_d, fPr_o, fFld_o, sq_ap, sq_n, sq_r, sq_b, sq_c, nl_ap, bk_ap, ct_ap, ex_ap, ex_ok, rt_ap, rt_ok, rn_ap, as_ap, as_ok, nw_ap, nw_ok, sf_ap, sf_t, sf_f, pr_ap, pr1_ok, pr2_ok, pt_ap, pt1_ok, pt2_ok, pt3_ok, at_ap, at_ok, oN_some, fo_ap, fo_ok, tgN_ap, tgT_ap, tgs_c, tgs_n, ob_s, funD_ap, fin_d, fin_n, tk_len, tk_app, tk_appc, get_app, set_app, add_ii, add_ll, add_tt, sub_ii, mul_ii, mul_l, mulL_l, mul_t, addL_ll, div_ii, mod_ii, pow_ii, neg_i, lt_ii, le_ii, gt_ii, ge_ii, eq_ii, ne_ii, max_ii, min_ii, isB_bb, notB_bb, ix_t, ix_l, ix_c, ixC_l, oD_s, len_l, len_t, len_s, len_c, lnC_l, rd_d, rd_c, rdC_l, all_tt, tu_l, tu_t, li_l, li_t, in_i, rev_l, rev_t, sum_l, sum_t, all_b, any_b, fTup_0, fTup_1, fTup_2, fTup_3, fTup_4, fTup_5, fLst_0, fLst_1, fLst_2, fLst_3, fLst_4, fLst_5, isi_in, isi_tt, isi_ll, isi_bi, kb_d, kb_n, kb_c, lp_n, lp_c, lp_b, lp_r, isO_d, List.set_cons_zero, List.set_cons_succ, List.getElem?_cons_zero, List.getElem?_cons_succ, List.getElem?_nil, List.map_cons, List.map_nil, List.replicate_succ, List.replicate_zero, List.cons_append, List.nil_append, List.append_nil, atI_0, atI_1, atI_2, atI_3, decide_true, decide_false, Bool.not_true, Bool.not_false, Bool.and_true, Bool.true_and, Bool.and_false, Bool.false_and, Bool.or_true, Bool.true_or, Bool.or_false, Bool.false_or, wipeE, Option.map_some, Option.map_none, List.length_cons, List.length_nil, Nat.zero_add, Nat.reduceAdd]
theorem eqv_prs : ∀ (a b : Rn), eqvL (prs a) (prs b) = decide (a = b)
  | [], [] => by simp [eqvL]
  | [], _ :: _ => by simp [eqvL]
  | _ :: _, [] => by simp [eqvL]
  | a :: as, b :: bs => by
    have ih := eqv_prs as bs
    have e : (prD a).eqv (prD b) = decide (a = b) := by
      obtain ⟨a1, a2⟩ := a
      obtain ⟨b1, b2⟩ := b
      simp only [prD, D.eqv, eqvL, Prod.mk.injEq, Bool.and_true]
      by_cases h1 : a1 = b1 <;> by_cases h2 : a2 = b2 <;> simp [h1, h2]
    simp only [prs, List.map_cons, eqvL] at ih ⊢
    rw [e, ih]
    by_cases h1 : a = b <;> by_cases h2 : as = bs <;> simp [h1, h2]
theorem fit_tprs (n : Nat) (rs : Rn) : fit (n + 2) (.tup (prs rs)) = true := by
  unfold fit
  exact fit_prs n rs
theorem word_eq_ex (w w' : Int) (r r' : Rn) (S : Store) : d_Word___eq__ [.d (wD w r), .d (wD w' r')] S = .ok (.d (.bl (decide (w = w' ∧ r = r')))) S := by
  have e : fIsiO rel_Word (.d (wD w' r')) S = .ok (.d (.bl true)) S := by
    unfold fIsiO rel_Word
    simp
  have f : ∀ (w : Int) (r : Rn), fit 60 (.tup [.int w, .tup (prs r)]) = true := fun w r => by
    simp only [fit, fitL, fit_prs 57 r, Bool.and_self]
  have q : fEq (.d (.tup [.int w, .tup (prs r)])) (.d (.tup [.int w', .tup (prs r')])) S = .ok (.d (.bl (decide (w = w' ∧ r = r')))) S := by
    simp only [fEq, rd, f, and_self, if_true, D.eqv, eqvL, eqv_prs, Bool.and_true]
    by_cases h1 : w = w' <;> by_cases h2 : r = r' <;> simp [h1, h2]
  unfold d_Word___eq__
  simp only [v_ap, c_ap, un_ap, un_ok, bi_ap, bi1_ok, bi2_ok, cl_ap, cl_ok, cs_ap, cs1_ok, cs2_ok, nil_ap, t_ap, t_ok, an_ap, an_t, an_f, or_ap, or_tt, or_ff, nt_ap, nt_ok, if_ap, iff_t, iff_f, ch_ap, ch1_ok, ch2_ok, ch3_t, ch3_f, ch4_ok, oN_ap, oS_ap, so_ok, sl_ap, sl1_ok, sl2_ok, sl3_ok, fSl_l, fSl_t, iv_ap, iv_l, iv_t, ir_ap, ir_ok, ir_i, ie_ap, ie_l, ie_t, iz_ap, i2_ap, it1_ok, it2_ok, iZz_l, iZz_t, me_ap, me1_ok, me2_ok, nox_ok, isO_d, fPr_o, fFld_o, sq_ap, sq_n, sq_r, sq_b, sq_c, nl_ap, bk_ap, ct_ap, ex_ap, ex_ok, rt_ap, rt_ok, rn_ap, as_ap, as_ok, nw_ap, nw_ok, sf_ap, sf_t, sf_f, pr_ap, pr1_ok, pr2_ok, pt_ap, pt1_ok, pt2_ok, pt3_ok, at_ap, at_ok, oN_some, fo_ap, fo_ok, tgN_ap, tgT_ap, tgs_c, tgs_n, ob_s, funD_ap, fin_d, fin_n, tk_len, tk_app, tk_appc, get_app, set_app, add_ii, add_ll, add_tt, sub_ii, mul_ii, mul_l, mulL_l, mul_t, addL_ll, div_ii, mod_ii, pow_ii, neg_i, lt_ii, le_ii, gt_ii, ge_ii, eq_ii, ne_ii, max_ii, min_ii, isB_bb, notB_bb, ix_t, ix_l, ix_c, ixC_l, oD_s, len_l, len_t, len_s, len_c, lnC_l, rd_d, rd_c, rdC_l, all_tt, tu_l, tu_t, li_l, li_t, in_i, rev_l, rev_t, sum_l, sum_t, all_b, any_b, fTup_0, fTup_1, fTup_2, fTup_3, fTup_4, fTup_5, fLst_0, fLst_1, fLst_2, fLst_3, fLst_4, fLst_5, isi_in, isi_tt, isi_ll, isi_bi, kb_d, kb_n, kb_c, lp_n, lp_c, lp_b, lp_r, isO_d, List.set_cons_zero, List.set_cons_succ, List.getElem?_cons_zero, List.getElem?_cons_succ, List.getElem?_nil, List.map_cons, List.map_nil, List.replicate_succ, List.replicate_zero, List.cons_append, List.nil_append, List.append_nil, atI_0, atI_1, atI_2, atI_3, decide_true, decide_false, Bool.not_true, Bool.not_false, Bool.and_true, Bool.true_and, Bool.and_false, Bool.false_and, Bool.or_true, Bool.true_or, Bool.or_false, Bool.false_or, wipeE, Option.map_some, Option.map_none, List.length_cons, List.length_nil, Nat.zero_add, Nat.reduceAdd, e, q]
theorem cmp_eq_ex (w w' : Int) (r r' : Rn) (S : Store) : fCmpM "Word" d_Word___eq__ fEq (.d (wD w r)) (.d (wD w' r')) S = .ok (.d (.bl (decide (w = w' ∧ r = r')))) S := by
  unfold fCmpM
  rw [if_pos (by simp [isO]), if_pos (by simp [isO]), word_eq_ex]
  rfl
theorem cmp_eqT_ex (w : Int) (r : Rn) (ds : List D) (S : Store) : fCmpM "Word" d_Word___eq__ fEq (.d (wD w r)) (.d (.tup ds)) S = .ok (.d (.bl false)) S := by
  have e : d_Word___eq__ [.d (wD w r), .d (.tup ds)] S = .ok (.d (.bl false)) S := by
    have e : fIsiO rel_Word (.d (.tup ds)) S = .ok (.d (.bl false)) S := rfl
    unfold d_Word___eq__
    simp only [v_ap, c_ap, un_ap, un_ok, bi_ap, bi1_ok, bi2_ok, cl_ap, cl_ok, cs_ap, cs1_ok, cs2_ok, nil_ap, t_ap, t_ok, an_ap, an_t, an_f, or_ap, or_tt, or_ff, nt_ap, nt_ok, if_ap, iff_t, iff_f, ch_ap, ch1_ok, ch2_ok, ch3_t, ch3_f, ch4_ok, oN_ap, oS_ap, so_ok, sl_ap, sl1_ok, sl2_ok, sl3_ok, fSl_l, fSl_t, iv_ap, iv_l, iv_t, ir_ap, ir_ok, ir_i, ie_ap, ie_l, ie_t, iz_ap, i2_ap, it1_ok, it2_ok, iZz_l, iZz_t, me_ap, me1_ok, me2_ok, nox_ok, isO_d, fPr_o, fFld_o, sq_ap, sq_n, sq_r, sq_b, sq_c, nl_ap, bk_ap, ct_ap, ex_ap, ex_ok, rt_ap, rt_ok, rn_ap, as_ap, as_ok, nw_ap, nw_ok, sf_ap, sf_t, sf_f, pr_ap, pr1_ok, pr2_ok, pt_ap, pt1_ok, pt2_ok, pt3_ok, at_ap, at_ok, oN_some, fo_ap, fo_ok, tgN_ap, tgT_ap, tgs_c, tgs_n, ob_s, funD_ap, fin_d, fin_n, tk_len, tk_app, tk_appc, get_app, set_app, add_ii, add_ll, add_tt, sub_ii, mul_ii, mul_l, mulL_l, mul_t, addL_ll, div_ii, mod_ii, pow_ii, neg_i, lt_ii, le_ii, gt_ii, ge_ii, eq_ii, ne_ii, max_ii, min_ii, isB_bb, notB_bb, ix_t, ix_l, ix_c, ixC_l, oD_s, len_l, len_t, len_s, len_c, lnC_l, rd_d, rd_c, rdC_l, all_tt, tu_l, tu_t, li_l, li_t, in_i, rev_l, rev_t, sum_l, sum_t, all_b, any_b, fTup_0, fTup_1, fTup_2, fTup_3, fTup_4, fTup_5, fLst_0, fLst_1, fLst_2, fLst_3, fLst_4, fLst_5, isi_in, isi_tt, isi_ll, isi_bi, kb_d, kb_n, kb_c, lp_n, lp_c, lp_b, lp_r, isO_d, List.set_cons_zero, List.set_cons_succ, List.getElem?_cons_zero, List.getElem?_cons_succ, List.getElem?_nil, List.map_cons, List.map_nil, List.replicate_succ, List.replicate_zero, List.cons_append, List.nil_append, List.append_nil, atI_0, atI_1, atI_2, atI_3, decide_true, decide_false, Bool.not_true, Bool.not_false, Bool.and_true, Bool.true_and, Bool.and_false, Bool.false_and, Bool.or_true, Bool.true_or, Bool.or_false, Bool.false_or, wipeE, Option.map_some, Option.map_none, List.length_cons, List.length_nil, Nat.zero_add, Nat.reduceAdd, e]
  unfold fCmpM
  rw [if_pos (by simp [isO]), if_pos (by simp [isT]), e]
  rfl
theorem cmp_ne_ex (w w' : Int) (r r' : Rn) (S : Store) : fCmpM "Word" d_Word___ne__ fNe (.d (wD w r)) (.d (wD w' r')) S = .ok (.d (.bl (!decide (w = w' ∧ r = r')))) S := by
  have e : d_Word___ne__ [.d (wD w r), .d (wD w' r')] S = .ok (.d (.bl (!decide (w = w' ∧ r = r')))) S := by
    unfold d_Word___ne__
    simp only [v_ap, c_ap, un_ap, un_ok, bi_ap, bi1_ok, bi2_ok, cl_ap, cl_ok, cs_ap, cs1_ok, cs2_ok, nil_ap, t_ap, t_ok, an_ap, an_t, an_f, or_ap, or_tt, or_ff, nt_ap, nt_ok, if_ap, iff_t, iff_f, ch_ap, ch1_ok, ch2_ok, ch3_t, ch3_f, ch4_ok, oN_ap, oS_ap, so_ok, sl_ap, sl1_ok, sl2_ok, sl3_ok, fSl_l, fSl_t, iv_ap, iv_l, iv_t, ir_ap, ir_ok, ir_i, ie_ap, ie_l, ie_t, iz_ap, i2_ap, it1_ok, it2_ok, iZz_l, iZz_t, me_ap, me1_ok, me2_ok, nox_ok, isO_d, fPr_o, fFld_o, sq_ap, sq_n, sq_r, sq_b, sq_c, nl_ap, bk_ap, ct_ap, ex_ap, ex_ok, rt_ap, rt_ok, rn_ap, as_ap, as_ok, nw_ap, nw_ok, sf_ap, sf_t, sf_f, pr_ap, pr1_ok, pr2_ok, pt_ap, pt1_ok, pt2_ok, pt3_ok, at_ap, at_ok, oN_some, fo_ap, fo_ok, tgN_ap, tgT_ap, tgs_c, tgs_n, ob_s, funD_ap, fin_d, fin_n, tk_len, tk_app, tk_appc, get_app, set_app, add_ii, add_ll, add_tt, sub_ii, mul_ii, mul_l, mulL_l, mul_t, addL_ll, div_ii, mod_ii, pow_ii, neg_i, lt_ii, le_ii, gt_ii, ge_ii, eq_ii, ne_ii, max_ii, min_ii, isB_bb, notB_bb, ix_t, ix_l, ix_c, ixC_l, oD_s, len_l, len_t, len_s, len_c, lnC_l, rd_d, rd_c, rdC_l, all_tt, tu_l, tu_t, li_l, li_t, in_i, rev_l, rev_t, sum_l, sum_t, all_b, any_b, fTup_0, fTup_1, fTup_2, fTup_3, fTup_4, fTup_5, fLst_0, fLst_1, fLst_2, fLst_3, fLst_4, fLst_5, isi_in, isi_tt, isi_ll, isi_bi, kb_d, kb_n, kb_c, lp_n, lp_c, lp_b, lp_r, isO_d, List.set_cons_zero, List.set_cons_succ, List.getElem?_cons_zero, List.getElem?_cons_succ, List.getElem?_nil, List.map_cons, List.map_nil, List.replicate_succ, List.replicate_zero, List.cons_append, List.nil_append, List.append_nil, atI_0, atI_1, atI_2, atI_3, decide_true, decide_false, Bool.not_true, Bool.not_false, Bool.and_true, Bool.true_and, Bool.and_false, Bool.false_and, Bool.or_true, Bool.true_or, Bool.or_false, Bool.false_or, wipeE, Option.map_some, Option.map_none, List.length_cons, List.length_nil, Nat.zero_add, Nat.reduceAdd, cmp_eq_ex]
  unfold fCmpM
  rw [if_pos (by simp [isO]), if_pos (by simp [isO]), e]
  rfl
end L04


namespace L04
open PySem L2 Pd Pq
theorem ex_rev : ∀ rs : Rn, ex rs.reverse = (ex rs).reverse
  | [] => rfl
  | r :: rs => by
    rw [List.reverse_cons, ex_app, ex_rev rs]
    show _ ++ (List.replicate r.2.toNat r.1 ++ []) = (List.replicate r.2.toNat r.1 ++ ex rs).reverse
    rw [List.append_nil, List.reverse_append, List.reverse_replicate]
theorem ex_mir (w : Int) : ∀ rs : Rn, ex (mirR w rs) = (ex rs).map fun l => w - 1 - l
  | [] => rfl
  | r :: rs => by
    have ih := ex_mir w rs
    show List.replicate r.2.toNat (w - 1 - r.1) ++ ex (mirR w rs) = (List.replicate r.2.toNat r.1 ++ ex rs).map _
    rw [ih, List.map_append, List.map_replicate]
theorem ex_fil (p : Int → Bool) : ∀ rs : Rn, ex (rs.filter fun r => p r.1) = (ex rs).filter p
  | [] => rfl
  | r :: rs => by
    have ih := ex_fil p rs
    show _ = (List.replicate r.2.toNat r.1 ++ ex rs).filter p
    rw [List.filter_cons, List.filter_append, List.filter_replicate, ← ih]
    split
    · rfl
    · rfl
theorem ex_reps (rs : Rn) : ∀ n : Nat, ex (List.replicate n rs).flatten = (List.replicate n (ex rs)).flatten
  | 0 => rfl
  | n + 1 => by rw [List.replicate_succ, List.replicate_succ, List.flatten_cons, List.flatten_cons, ex_app, ex_reps rs n]
theorem rep_rep {α : Type} (m : Nat) (x : α) : ∀ n : Nat, (List.replicate n (List.replicate m x)).flatten = List.replicate (m * n) x
  | 0 => rfl
  | n + 1 => by rw [List.replicate_succ, List.flatten_cons, rep_rep m x n, List.replicate_append_replicate]; congr 1; rw [Nat.mul_succ]; omega
theorem flat_nil {α : Type} : ∀ n : Nat, (List.replicate n ([] : List α)).flatten = []
  | 0 => rfl
  | n + 1 => by rw [List.replicate_succ, List.flatten_cons, flat_nil n]; rfl
theorem len_rep {α : Type} (l : List α) : ∀ n : Nat, (List.replicate n l).flatten.length = n * l.length
  | 0 => by simp
  | n + 1 => by rw [List.replicate_succ, List.flatten_cons, List.length_append, len_rep l n, Nat.succ_mul]; omega
theorem ex_repR (rs : Rn) (t : Nat) (h : ∀ r ∈ rs, 0 ≤ r.2) : ex (repR rs t) = (List.replicate t (ex rs)).flatten := by
  unfold repR
  split
  · rename_i q
    by_cases ht : 0 < (t : Int)
    · simp only [ht, if_true, flat_if]
      have q : rs.length ≤ 1 := q.resolve_right (by omega)
      match rs, q with
      | [], _ => exact (flat_nil t).symm
      | [r], _ =>
        have h0 := h r (by simp)
        show List.replicate (r.2 * t).toNat r.1 ++ [] = (List.replicate t (List.replicate r.2.toNat r.1 ++ [])).flatten
        rw [List.append_nil, List.append_nil, rep_rep]
        congr 1
        obtain ⟨m, hm⟩ : ∃ m : Nat, r.2 = m := ⟨r.2.toNat, by omega⟩
        rw [hm, ← Int.natCast_mul, Int.toNat_natCast, Int.toNat_natCast]
    · have : t = 0 := by omega
      simp only [ht, if_false, flat_no]
      rw [this]
      rfl
  · rw [Int.toNat_natCast, ex_reps]
theorem rl_nn (ls : List Int) : ∀ r ∈ rl ls, 0 ≤ r.2 := fun r hr => Int.le_of_lt (rl_pos ls r hr)
theorem lean_part (ls : List Int) (f m : Nat) : leanR (partR (rl ls) f m) = rl ((ls.drop f).take m) := by
  rw [leanR_rl fun r hr => Int.le_of_lt (partR_pos _ _ _ r hr), partR_ex _ _ _ (rl_pos ls) (by omega), rl_ex]
  have e1 : (f : Int).toNat = f := Int.toNat_natCast f
  have e2 : ((f : Int) + m).toNat - f = m := by omega
  rw [e1, e2]
theorem lean_join (a b : List Int) : leanR (leanR (rl a ++ rl b)) = rl (a ++ b) := by
  have h : ∀ r ∈ rl a ++ rl b, 0 ≤ r.2 := fun r hr => (List.mem_append.mp hr).elim (rl_nn a r) (rl_nn b r)
  rw [lean_lean (leanR_pos h) (leanR_alt _), leanR_rl h, ex_app, rl_ex, rl_ex]
theorem lean_rev (a : List Int) : leanR (rl a).reverse = rl a.reverse := by
  rw [leanR_rl fun r hr => rl_nn a r (List.mem_reverse.mp hr), ex_rev, rl_ex]
theorem lean_mir (w : Int) (a : List Int) : leanR (mirR w (rl a)) = rl (a.map fun l => w - 1 - l) := by
  rw [leanR_rl fun r hr => by obtain ⟨x, hx, rfl⟩ := List.mem_map.mp hr; exact rl_nn a x hx, ex_mir, rl_ex]
theorem lean_fil (p : Int → Bool) (a : List Int) : leanR ((rl a).filter fun r => p r.1) = rl (a.filter p) := by
  rw [leanR_rl fun r hr => rl_nn a r (List.mem_filter.mp hr).1, ex_fil, rl_ex]
theorem lean_rl (a : List Int) : leanR (rl a) = rl a := lean_lean (rl_pos a) (rl_alt a)
theorem repR_mem {rs : Rn} {t : Int} {x : Int × Int} (h : x ∈ repR rs t) : ∃ r ∈ rs, x.1 = r.1 ∧ (x = r ∨ (x.2 = r.2 * t ∧ 0 < t)) := by
  unfold repR at h
  split at h
  · obtain ⟨r, hr, hx⟩ := List.mem_flatMap.mp h
    split at hx
    · rename_i ht
      rw [List.mem_singleton.mp hx]
      exact ⟨r, hr, rfl, .inr ⟨rfl, ht⟩⟩
    · cases hx
  · obtain ⟨l, hl, hx⟩ := List.mem_flatten.mp h
    rw [List.eq_of_mem_replicate hl] at hx
    exact ⟨x, hx, rfl, .inl rfl⟩
theorem repR_ok {w : Int} {rs : Rn} {t : Nat} (h : OkR w rs) (hl : 2 ≤ rs.length → rs.length * t ≤ 200) (hs : (rs.map (·.2)).sum * t ≤ 10 ^ 64) : OkR w (repR rs t) := by
  have mm : ∀ x ∈ repR rs t, 0 ≤ x.1 ∧ x.1 < w ∧ 1 ≤ x.2 := fun x hx => by
    obtain ⟨r, hr, e, q⟩ := repR_mem hx
    rw [e]
    refine ⟨h.let0 r hr, h.let1 r hr, ?_⟩
    have m := h.many r hr
    rcases q with q | ⟨q, ht⟩
    · rw [q]; exact m
    · rw [q]
      have : 1 * 1 ≤ r.2 * (t : Int) := Int.mul_le_mul m (by omega) (by omega) (by omega)
      omega
  refine .of ?_ mm ?_
  · unfold repR
    split
    · have hz := h.len
      split
      · rw [flat_if, List.length_map]; exact hz
      · rw [flat_no]; simp
    · rename_i q
      have := hl (by omega)
      rw [Int.toNat_natCast, len_rep, Nat.mul_comm]
      exact this
  · rw [← ex_len fun x hx => by have := (mm x hx).2.2; omega, ex_repR rs t h.nn, len_rep]
    rw [Int.natCast_mul, ex_len h.nn, Int.mul_comm]
    exact hs
end L04


namespace L04
open PySem L2 Pd Pq
/-! ### the dice of the laws -/
def roll2 (b c t : Int) : Int :=
  (((((b + 86028157 * (c + 1)) % 2305843009213693951 * ((b + 86028157 * (c + 1)) % 2305843009213693951) + 233 * (c + 1)) % 2305843009213693907) * 15485867 + (b + 86028157 * (c + 1)) % 2305843009213693951) / 65579) % t
abbrev dice (a b c : Int) : Option Cell := some (.lst [.int a, .int b, .int c])
theorem roll_ex (a b c t : Int) (S : Store) (h : 0 < t) (hb : divOk t = true) : ∃ v a' c', 0 ≤ v ∧ v < t ∧
    d__law_roll [.cell 0, .d (.int t)] (dice a b c :: S) = .ok (.d (.int v)) (dice a' b c' :: S) := by
  by_cases ha : 0 < a
  · refine ⟨a % t, a / t, c, Int.emod_nonneg _ (by omega), Int.emod_lt_of_pos _ h, ?_⟩
    unfold d__law_roll
    simp only [funD, finF, fin, sNil, sSeq, sEx, sRet, sRetN, sAsg, sNew, sIf, sAsgT, sPar, sFrz, sRetC, sNever, sBrk, sCont, sFor, eVar, eC, eBin, eUn, eTest, eAnd, eOr, eNot, eIf, eChain, eNil, eCons, eCall, eSl, eoN, eoS, eApp, eExt, ePop, sSet, itV, itR1, itR2, itEn, itZ, eLc, asB, clo, fTup, fLst, fAddL, fMulL, fI, fAdd, fSub, fMul, fDiv, fMod, fPow, fNeg, fLt, fLe, fGt, fGe, fEq, fNe, fIx, fIsN, fNotN, Pd.isNon, fLen, fAbs, fInt, fTuple, fList, fSum, fAll, fAny, fMax2, fMin2, isiD, fIsi, fSl, fRev, fSorted, fRepr, rd, R.bind, R.fl, F.lp, noX, tYesD, lcY, tgN, tgsNil, tgsCons, tgT, wipeE, keepB, List.map_cons, List.map_nil, List.replicate_succ, List.replicate_zero, List.cons_append, List.nil_append, List.append_nil, List.length_cons, List.length_nil, List.length_append, List.getElem?_cons_zero, List.getElem?_cons_succ, List.getElem?_nil, List.set_cons_zero, List.set_cons_succ, List.take_zero, List.take_succ_cons, List.take_nil, Option.map_some, Option.map_none, Option.bind_some, Option.bind_none, Nat.zero_add, Nat.add_zero, Nat.reduceAdd, Nat.reduceLeDiff, Nat.reduceSub, Nat.reduceEqDiff, Int.reduceLT, Int.reduceLE, Int.reduceEq, Int.reduceNeg, Int.reduceAdd, Int.reduceSub, Int.reduceMul, decide_true, decide_false, ↓reduceIte, decide_eq_true_eq, Bool.not_eq_true', decide_eq_false_iff_not, Bool.false_eq_true, Bool.true_eq_false, Bool.not_true, Bool.not_false, true_and, and_true, and_self, false_and, and_false, ixN, atI_0, atI_1, atI_2, ha, h, hb]
    simp
  · refine ⟨roll2 b c t, a, c + 1, Int.emod_nonneg _ (by omega), Int.emod_lt_of_pos _ h, ?_⟩
    unfold d__law_roll
    have m1 : mulOk 86028157 (c + 1) = true := mulOk_l (by decide) (by decide)
    have m2 : mulOk 233 (c + 1) = true := mulOk_l (by decide) (by decide)
    have m3 : mulOk ((b + 86028157 * (c + 1)) % 2305843009213693951) ((b + 86028157 * (c + 1)) % 2305843009213693951) = true := mulOk_l (by omega) (by omega)
    have m4 : mulOk (((b + 86028157 * (c + 1)) % 2305843009213693951 * ((b + 86028157 * (c + 1)) % 2305843009213693951) + 233 * (c + 1)) % 2305843009213693907) 15485867 = true := mulOk_l (by omega) (by omega)
    have m5 : divOk 65579 = true := divOk_l (by decide) (by decide)
    simp only [funD, finF, fin, sNil, sSeq, sEx, sRet, sRetN, sAsg, sNew, sIf, sAsgT, sPar, sFrz, sRetC, sNever, sBrk, sCont, sFor, eVar, eC, eBin, eUn, eTest, eAnd, eOr, eNot, eIf, eChain, eNil, eCons, eCall, eSl, eoN, eoS, eApp, eExt, ePop, sSet, itV, itR1, itR2, itEn, itZ, eLc, asB, clo, fTup, fLst, fAddL, fMulL, fI, fAdd, fSub, fMul, fDiv, fMod, fPow, fNeg, fLt, fLe, fGt, fGe, fEq, fNe, fIx, fIsN, fNotN, Pd.isNon, fLen, fAbs, fInt, fTuple, fList, fSum, fAll, fAny, fMax2, fMin2, isiD, fIsi, fSl, fRev, fSorted, fRepr, rd, R.bind, R.fl, F.lp, noX, tYesD, lcY, tgN, tgsNil, tgsCons, tgT, wipeE, keepB, List.map_cons, List.map_nil, List.replicate_succ, List.replicate_zero, List.cons_append, List.nil_append, List.append_nil, List.length_cons, List.length_nil, List.length_append, List.getElem?_cons_zero, List.getElem?_cons_succ, List.getElem?_nil, List.set_cons_zero, List.set_cons_succ, List.take_zero, List.take_succ_cons, List.take_nil, Option.map_some, Option.map_none, Option.bind_some, Option.bind_none, Nat.zero_add, Nat.add_zero, Nat.reduceAdd, Nat.reduceLeDiff, Nat.reduceSub, Nat.reduceEqDiff, Int.reduceLT, Int.reduceLE, Int.reduceEq, Int.reduceNeg, Int.reduceAdd, Int.reduceSub, Int.reduceMul, decide_true, decide_false, ↓reduceIte, decide_eq_true_eq, Bool.not_eq_true', decide_eq_false_iff_not, Bool.false_eq_true, Bool.true_eq_false, Bool.not_true, Bool.not_false, true_and, and_true, and_self, false_and, and_false, ixN, atI_0, atI_1, atI_2, ha, h, hb, m1, m2, m3, m4, m5]
    simp [m1, m2, m3, m4, m5, h, atI_0, atI_1, atI_2, roll2]
theorem dice_ex (ns : List Int) (k : Nat) (S : Store) : ∃ a b c, d__law_dice [.d (.scr ns), .d (.int (k : Nat))] S = .ok (.d (.lst [.int a, .int b, .int c])) S := by
  have p1 : powOk 10 54 = true := powOk_l (by decide) (by decide) (by decide)
  have p2 : powOk (10 ^ 54) 6 = true := powOk_l (by decide) (by decide) (by decide)
  have p3 : powOk 10 16 = true := powOk_l (by decide) (by decide) (by decide)
  have key : ∀ cell : Int, ∃ a b c, (sSeq (sAsg 3 (eBin fMod (eUn fInt (eUn fAbs (eVar 2))) (eBin fPow (eBin fPow (eC (.int 10)) (eC (.int 54))) (eC (.int 6))))) (sSeq (sAsg 4 (eBin fAdd (eBin fAdd (eBin fAdd (eBin fMul (eBin fMod (eVar 3) (eC (.int 2305843009213693921))) (eC (.int 113))) (eBin fMul (eC (.int 877)) (eVar 1))) (eBin fMul (eC (.int 73)) (eUn fInt (eBin fLt (eVar 2) (eC (.int 0)))))) (eC (.int 41)))) (sRet (eCall fLst (eCons (eBin fMax2 (eC (.int 0)) (eBin fSub (eVar 3) (eBin fPow (eC (.int 10)) (eC (.int 16))))) (eCons (eVar 4) (eCons (eC (.int 0)) eNil)))))))
      [some (.d (.scr ns)), some (.d (.int (k : Nat))), some (.d (.int cell)), none, none] S = .rt (.d (.lst [.int a, .int b, .int c])) S := by
    intro cell
    apply Exists.intro
    apply Exists.intro
    apply Exists.intro
    have m1 : ∀ x : Int, mulOk x 113 = true := fun x => mulOk_r (by decide) (by decide)
    have m2 : ∀ x : Int, mulOk 877 x = true := fun x => mulOk_l (by decide) (by decide)
    have m3 : ∀ x : Int, mulOk 73 x = true := fun x => mulOk_l (by decide) (by decide)
    have e54 : (10 : Int) ^ Int.toNat 54 = 10 ^ 54 := rfl
    have q : (0 : Int) < (10 ^ 54) ^ Int.toNat 6 := by decide
    simp only [funD, finF, fin, sNil, sSeq, sEx, sRet, sRetN, sAsg, sNew, sIf, sAsgT, sPar, sFrz, sRetC, sNever, sBrk, sCont, sFor, eVar, eC, eBin, eUn, eTest, eAnd, eOr, eNot, eIf, eChain, eNil, eCons, eCall, eSl, eoN, eoS, eApp, eExt, ePop, sSet, itV, itR1, itR2, itEn, itZ, eLc, asB, clo, fTup, fLst, fAddL, fMulL, fI, fAdd, fSub, fMul, fDiv, fMod, fPow, fNeg, fLt, fLe, fGt, fGe, fEq, fNe, fIx, fIsN, fNotN, Pd.isNon, fLen, fAbs, fInt, fTuple, fList, fSum, fAll, fAny, fMax2, fMin2, isiD, fIsi, fSl, fRev, fSorted, fRepr, rd, R.bind, R.fl, F.lp, noX, tYesD, lcY, tgN, tgsNil, tgsCons, tgT, wipeE, keepB, List.map_cons, List.map_nil, List.replicate_succ, List.replicate_zero, List.cons_append, List.nil_append, List.append_nil, List.length_cons, List.length_nil, List.length_append, List.getElem?_cons_zero, List.getElem?_cons_succ, List.getElem?_nil, List.set_cons_zero, List.set_cons_succ, List.take_zero, List.take_succ_cons, List.take_nil, Option.map_some, Option.map_none, Option.bind_some, Option.bind_none, Nat.zero_add, Nat.add_zero, Nat.reduceAdd, Nat.reduceLeDiff, Nat.reduceSub, Nat.reduceEqDiff, Int.reduceLT, Int.reduceLE, Int.reduceEq, Int.reduceNeg, Int.reduceAdd, Int.reduceSub, Int.reduceMul, decide_true, decide_false, ↓reduceIte, decide_eq_true_eq, Bool.not_eq_true', decide_eq_false_iff_not, Bool.false_eq_true, Bool.true_eq_false, Bool.not_true, Bool.not_false, true_and, and_true, and_self, false_and, and_false, p1, p2, p3, m1, m2, m3, e54, q]
    rfl
  unfold d__law_dice
  by_cases hk : k < ns.length
  · obtain ⟨a, b, c, h⟩ := key ns[k]
    refine ⟨a, b, c, funD_rt (sq_nx (asg_i (x := .d (.int ns[k])) (S1 := S) ?_) h) rfl⟩
    have e : atI ns (k : Int) = some ns[k] := by rw [atI_k, List.getElem?_eq_getElem hk]
    have hk' : (k : Int) < (ns.length : Int) := by omega
    simp only [funD, finF, fin, sNil, sSeq, sEx, sRet, sRetN, sAsg, sNew, sIf, sAsgT, sPar, sFrz, sRetC, sNever, sBrk, sCont, sFor, eVar, eC, eBin, eUn, eTest, eAnd, eOr, eNot, eIf, eChain, eNil, eCons, eCall, eSl, eoN, eoS, eApp, eExt, ePop, sSet, itV, itR1, itR2, itEn, itZ, eLc, asB, clo, fTup, fLst, fAddL, fMulL, fI, fAdd, fSub, fMul, fDiv, fMod, fPow, fNeg, fLt, fLe, fGt, fGe, fEq, fNe, fIx, fIsN, fNotN, Pd.isNon, fLen, fAbs, fInt, fTuple, fList, fSum, fAll, fAny, fMax2, fMin2, isiD, fIsi, fSl, fRev, fSorted, fRepr, rd, R.bind, R.fl, F.lp, noX, tYesD, lcY, tgN, tgsNil, tgsCons, tgT, wipeE, keepB, List.map_cons, List.map_nil, List.replicate_succ, List.replicate_zero, List.cons_append, List.nil_append, List.append_nil, List.length_cons, List.length_nil, List.length_append, List.getElem?_cons_zero, List.getElem?_cons_succ, List.getElem?_nil, List.set_cons_zero, List.set_cons_succ, List.take_zero, List.take_succ_cons, List.take_nil, Option.map_some, Option.map_none, Option.bind_some, Option.bind_none, Nat.zero_add, Nat.add_zero, Nat.reduceAdd, Nat.reduceLeDiff, Nat.reduceSub, Nat.reduceEqDiff, Int.reduceLT, Int.reduceLE, Int.reduceEq, Int.reduceNeg, Int.reduceAdd, Int.reduceSub, Int.reduceMul, decide_true, decide_false, ↓reduceIte, decide_eq_true_eq, Bool.not_eq_true', decide_eq_false_iff_not, Bool.false_eq_true, Bool.true_eq_false, Bool.not_true, Bool.not_false, true_and, and_true, and_self, false_and, and_false, e, hk']
  · obtain ⟨a, b, c, h⟩ := key (223 * (k : Int) + 109)
    refine ⟨a, b, c, funD_rt (sq_nx (asg_i (x := .d (.int (223 * (k : Int) + 109))) (S1 := S) ?_) h) rfl⟩
    have hk' : ¬ (k : Int) < (ns.length : Int) := by omega
    have m0 : ∀ x : Int, mulOk 223 x = true := fun x => mulOk_l (by decide) (by decide)
    simp only [funD, finF, fin, sNil, sSeq, sEx, sRet, sRetN, sAsg, sNew, sIf, sAsgT, sPar, sFrz, sRetC, sNever, sBrk, sCont, sFor, eVar, eC, eBin, eUn, eTest, eAnd, eOr, eNot, eIf, eChain, eNil, eCons, eCall, eSl, eoN, eoS, eApp, eExt, ePop, sSet, itV, itR1, itR2, itEn, itZ, eLc, asB, clo, fTup, fLst, fAddL, fMulL, fI, fAdd, fSub, fMul, fDiv, fMod, fPow, fNeg, fLt, fLe, fGt, fGe, fEq, fNe, fIx, fIsN, fNotN, Pd.isNon, fLen, fAbs, fInt, fTuple, fList, fSum, fAll, fAny, fMax2, fMin2, isiD, fIsi, fSl, fRev, fSorted, fRepr, rd, R.bind, R.fl, F.lp, noX, tYesD, lcY, tgN, tgsNil, tgsCons, tgT, wipeE, keepB, List.map_cons, List.map_nil, List.replicate_succ, List.replicate_zero, List.cons_append, List.nil_append, List.append_nil, List.length_cons, List.length_nil, List.length_append, List.getElem?_cons_zero, List.getElem?_cons_succ, List.getElem?_nil, List.set_cons_zero, List.set_cons_succ, List.take_zero, List.take_succ_cons, List.take_nil, Option.map_some, Option.map_none, Option.bind_some, Option.bind_none, Nat.zero_add, Nat.add_zero, Nat.reduceAdd, Nat.reduceLeDiff, Nat.reduceSub, Nat.reduceEqDiff, Int.reduceLT, Int.reduceLE, Int.reduceEq, Int.reduceNeg, Int.reduceAdd, Int.reduceSub, Int.reduceMul, decide_true, decide_false, ↓reduceIte, decide_eq_true_eq, Bool.not_eq_true', decide_eq_false_iff_not, Bool.false_eq_true, Bool.true_eq_false, Bool.not_true, Bool.not_false, true_and, and_true, and_self, false_and, and_false, hk', m0]
theorem pick_ex (a b c : Int) (ds : List D) (S : Store) (h : ds ≠ []) (hl : ds.length ≤ 1000) : ∃ d a' c', d ∈ ds ∧ d__law_pick [.cell 0, .d (.lst ds)] (dice a b c :: S) = .ok (.d d) (dice a' b c' :: S) := by
  have hn : 0 < ds.length := List.length_pos_iff.mpr h
  obtain ⟨v, a', c', h0, h1, e⟩ := roll_ex a b c ds.length S (by omega) (divOk_l (by omega) (by omega))
  obtain ⟨n, rfl⟩ : ∃ n : Nat, v = n := ⟨v.toNat, by omega⟩
  have hlt : n < ds.length := by omega
  refine ⟨ds[n], a', c', List.getElem_mem hlt, ?_⟩
  have e2 : atI ds (n : Int) = some ds[n] := by rw [atI_k, List.getElem?_eq_getElem hlt]
  unfold d__law_pick
  simp only [funD, finF, fin, sNil, sSeq, sEx, sRet, sRetN, sAsg, sNew, sIf, sAsgT, sPar, sFrz, sRetC, sNever, sBrk, sCont, sFor, eVar, eC, eBin, eUn, eTest, eAnd, eOr, eNot, eIf, eChain, eNil, eCons, eCall, eSl, eoN, eoS, eApp, eExt, ePop, sSet, itV, itR1, itR2, itEn, itZ, eLc, asB, clo, fTup, fLst, fAddL, fMulL, fI, fAdd, fSub, fMul, fDiv, fMod, fPow, fNeg, fLt, fLe, fGt, fGe, fEq, fNe, fIx, fIsN, fNotN, Pd.isNon, fLen, fAbs, fInt, fTuple, fList, fSum, fAll, fAny, fMax2, fMin2, isiD, fIsi, fSl, fRev, fSorted, fRepr, rd, R.bind, R.fl, F.lp, noX, tYesD, lcY, tgN, tgsNil, tgsCons, tgT, wipeE, keepB, List.map_cons, List.map_nil, List.replicate_succ, List.replicate_zero, List.cons_append, List.nil_append, List.append_nil, List.length_cons, List.length_nil, List.length_append, List.getElem?_cons_zero, List.getElem?_cons_succ, List.getElem?_nil, List.set_cons_zero, List.set_cons_succ, List.take_zero, List.take_succ_cons, List.take_nil, Option.map_some, Option.map_none, Option.bind_some, Option.bind_none, Nat.zero_add, Nat.add_zero, Nat.reduceAdd, Nat.reduceLeDiff, Nat.reduceSub, Nat.reduceEqDiff, Int.reduceLT, Int.reduceLE, Int.reduceEq, Int.reduceNeg, Int.reduceAdd, Int.reduceSub, Int.reduceMul, decide_true, decide_false, ↓reduceIte, decide_eq_true_eq, Bool.not_eq_true', decide_eq_false_iff_not, Bool.false_eq_true, Bool.true_eq_false, Bool.not_true, Bool.not_false, true_and, and_true, and_self, false_and, and_false, e, e2, List.take_length]
theorem far_loop (t b : Int) (S : Store) : ∀ (k n : Nat) (v left a c : Int), k < n → 0 ≤ v → 0 ≤ left → left < 2 ^ k → ∃ v' l' a' c', 0 ≤ v' ∧
    whD (eBin fGt (eVar 3) (eC (.int 1))) (sPar 2 3 (eBin fAdd (eBin fMul (eVar 2) (eBin fPow (eC (.int 10)) (eC (.int 18)))) (eCall d__law_roll (eCons (eVar 0) (eCons (eBin fPow (eC (.int 10)) (eC (.int 18))) eNil)))) (eBin fDiv (eVar 3) (eBin fPow (eC (.int 10)) (eC (.int 18))))) n
      [some (.cell 0), some (.d (.int t)), some (.d (.int v)), some (.d (.int left))] (dice a b c :: S) = .nx [some (.cell 0), some (.d (.int t)), some (.d (.int v')), some (.d (.int l'))] (dice a' b c' :: S)
  | 0, n + 1, v, left, a, c, _, hv, h0, h1 => by
    refine ⟨v, left, a, c, hv, whD_end ?_⟩
    have : ¬ left > 1 := by omega
    simp only [funD, finF, fin, sNil, sSeq, sEx, sRet, sRetN, sAsg, sNew, sIf, sAsgT, sPar, sFrz, sRetC, sNever, sBrk, sCont, sFor, eVar, eC, eBin, eUn, eTest, eAnd, eOr, eNot, eIf, eChain, eNil, eCons, eCall, eSl, eoN, eoS, eApp, eExt, ePop, sSet, itV, itR1, itR2, itEn, itZ, eLc, asB, clo, fTup, fLst, fAddL, fMulL, fI, fAdd, fSub, fMul, fDiv, fMod, fPow, fNeg, fLt, fLe, fGt, fGe, fEq, fNe, fIx, fIsN, fNotN, Pd.isNon, fLen, fAbs, fInt, fTuple, fList, fSum, fAll, fAny, fMax2, fMin2, isiD, fIsi, fSl, fRev, fSorted, fRepr, rd, R.bind, R.fl, F.lp, noX, tYesD, lcY, tgN, tgsNil, tgsCons, tgT, wipeE, keepB, List.map_cons, List.map_nil, List.replicate_succ, List.replicate_zero, List.cons_append, List.nil_append, List.append_nil, List.length_cons, List.length_nil, List.length_append, List.getElem?_cons_zero, List.getElem?_cons_succ, List.getElem?_nil, List.set_cons_zero, List.set_cons_succ, List.take_zero, List.take_succ_cons, List.take_nil, Option.map_some, Option.map_none, Option.bind_some, Option.bind_none, Nat.zero_add, Nat.add_zero, Nat.reduceAdd, Nat.reduceLeDiff, Nat.reduceSub, Nat.reduceEqDiff, Int.reduceLT, Int.reduceLE, Int.reduceEq, Int.reduceNeg, Int.reduceAdd, Int.reduceSub, Int.reduceMul, decide_true, decide_false, ↓reduceIte, decide_eq_true_eq, Bool.not_eq_true', decide_eq_false_iff_not, Bool.false_eq_true, Bool.true_eq_false, Bool.not_true, Bool.not_false, true_and, and_true, and_self, false_and, and_false, this]
  | k + 1, n + 1, v, left, a, c, hn, hv, h0, h1 => by
    by_cases hl : left > 1
    · obtain ⟨w, a1, c1', w0, w1, e⟩ := roll_ex a b c (10 ^ 18) S (by decide) (divOk_l (by decide) (by decide))
      have e2 : (2 : Int) ^ (k + 1) = 2 ^ k * 2 := Int.pow_succ 2 k
      have h2 : left / 10 ^ 18 < 2 ^ k := by omega
      obtain ⟨v', l', a', c', q, e'⟩ := far_loop t b S k n (v * 10 ^ 18 + w) (left / 10 ^ 18) a1 c1' (by omega) (by omega) (by omega) h2
      refine ⟨v', l', a', c', q, (whD_step (S1 := dice a b c :: S) ?_ ?_).trans e'⟩
      · simp only [funD, finF, fin, sNil, sSeq, sEx, sRet, sRetN, sAsg, sNew, sIf, sAsgT, sPar, sFrz, sRetC, sNever, sBrk, sCont, sFor, eVar, eC, eBin, eUn, eTest, eAnd, eOr, eNot, eIf, eChain, eNil, eCons, eCall, eSl, eoN, eoS, eApp, eExt, ePop, sSet, itV, itR1, itR2, itEn, itZ, eLc, asB, clo, fTup, fLst, fAddL, fMulL, fI, fAdd, fSub, fMul, fDiv, fMod, fPow, fNeg, fLt, fLe, fGt, fGe, fEq, fNe, fIx, fIsN, fNotN, Pd.isNon, fLen, fAbs, fInt, fTuple, fList, fSum, fAll, fAny, fMax2, fMin2, isiD, fIsi, fSl, fRev, fSorted, fRepr, rd, R.bind, R.fl, F.lp, noX, tYesD, lcY, tgN, tgsNil, tgsCons, tgT, wipeE, keepB, List.map_cons, List.map_nil, List.replicate_succ, List.replicate_zero, List.cons_append, List.nil_append, List.append_nil, List.length_cons, List.length_nil, List.length_append, List.getElem?_cons_zero, List.getElem?_cons_succ, List.getElem?_nil, List.set_cons_zero, List.set_cons_succ, List.take_zero, List.take_succ_cons, List.take_nil, Option.map_some, Option.map_none, Option.bind_some, Option.bind_none, Nat.zero_add, Nat.add_zero, Nat.reduceAdd, Nat.reduceLeDiff, Nat.reduceSub, Nat.reduceEqDiff, Int.reduceLT, Int.reduceLE, Int.reduceEq, Int.reduceNeg, Int.reduceAdd, Int.reduceSub, Int.reduceMul, decide_true, decide_false, ↓reduceIte, decide_eq_true_eq, Bool.not_eq_true', decide_eq_false_iff_not, Bool.false_eq_true, Bool.true_eq_false, Bool.not_true, Bool.not_false, true_and, and_true, and_self, false_and, and_false, hl]
      · have p3 : powOk 10 18 = true := powOk_l (by decide) (by decide) (by decide)
        have e18 : (10 : Int) ^ Int.toNat 18 = 10 ^ 18 := rfl
        have m1 : ∀ x, mulOk x (10 ^ 18) = true := fun x => mulOk_r (by decide) (by decide)
        have p0 : (0 : Int) < 10 ^ 18 := by decide
        have p1 : divOk (10 ^ 18) = true := divOk_l (by decide) (by decide)
        simp only [funD, finF, fin, sNil, sSeq, sEx, sRet, sRetN, sAsg, sNew, sIf, sAsgT, sPar, sFrz, sRetC, sNever, sBrk, sCont, sFor, eVar, eC, eBin, eUn, eTest, eAnd, eOr, eNot, eIf, eChain, eNil, eCons, eCall, eSl, eoN, eoS, eApp, eExt, ePop, sSet, itV, itR1, itR2, itEn, itZ, eLc, asB, clo, fTup, fLst, fAddL, fMulL, fI, fAdd, fSub, fMul, fDiv, fMod, fPow, fNeg, fLt, fLe, fGt, fGe, fEq, fNe, fIx, fIsN, fNotN, Pd.isNon, fLen, fAbs, fInt, fTuple, fList, fSum, fAll, fAny, fMax2, fMin2, isiD, fIsi, fSl, fRev, fSorted, fRepr, rd, R.bind, R.fl, F.lp, noX, tYesD, lcY, tgN, tgsNil, tgsCons, tgT, wipeE, keepB, List.map_cons, List.map_nil, List.replicate_succ, List.replicate_zero, List.cons_append, List.nil_append, List.append_nil, List.length_cons, List.length_nil, List.length_append, List.getElem?_cons_zero, List.getElem?_cons_succ, List.getElem?_nil, List.set_cons_zero, List.set_cons_succ, List.take_zero, List.take_succ_cons, List.take_nil, Option.map_some, Option.map_none, Option.bind_some, Option.bind_none, Nat.zero_add, Nat.add_zero, Nat.reduceAdd, Nat.reduceLeDiff, Nat.reduceSub, Nat.reduceEqDiff, Int.reduceLT, Int.reduceLE, Int.reduceEq, Int.reduceNeg, Int.reduceAdd, Int.reduceSub, Int.reduceMul, decide_true, decide_false, ↓reduceIte, decide_eq_true_eq, Bool.not_eq_true', decide_eq_false_iff_not, Bool.false_eq_true, Bool.true_eq_false, Bool.not_true, Bool.not_false, true_and, and_true, and_self, false_and, and_false, p3, e18, m1, e, p0, p1]
    · refine ⟨v, left, a, c, hv, whD_end ?_⟩
      simp only [funD, finF, fin, sNil, sSeq, sEx, sRet, sRetN, sAsg, sNew, sIf, sAsgT, sPar, sFrz, sRetC, sNever, sBrk, sCont, sFor, eVar, eC, eBin, eUn, eTest, eAnd, eOr, eNot, eIf, eChain, eNil, eCons, eCall, eSl, eoN, eoS, eApp, eExt, ePop, sSet, itV, itR1, itR2, itEn, itZ, eLc, asB, clo, fTup, fLst, fAddL, fMulL, fI, fAdd, fSub, fMul, fDiv, fMod, fPow, fNeg, fLt, fLe, fGt, fGe, fEq, fNe, fIx, fIsN, fNotN, Pd.isNon, fLen, fAbs, fInt, fTuple, fList, fSum, fAll, fAny, fMax2, fMin2, isiD, fIsi, fSl, fRev, fSorted, fRepr, rd, R.bind, R.fl, F.lp, noX, tYesD, lcY, tgN, tgsNil, tgsCons, tgT, wipeE, keepB, List.map_cons, List.map_nil, List.replicate_succ, List.replicate_zero, List.cons_append, List.nil_append, List.append_nil, List.length_cons, List.length_nil, List.length_append, List.getElem?_cons_zero, List.getElem?_cons_succ, List.getElem?_nil, List.set_cons_zero, List.set_cons_succ, List.take_zero, List.take_succ_cons, List.take_nil, Option.map_some, Option.map_none, Option.bind_some, Option.bind_none, Nat.zero_add, Nat.add_zero, Nat.reduceAdd, Nat.reduceLeDiff, Nat.reduceSub, Nat.reduceEqDiff, Int.reduceLT, Int.reduceLE, Int.reduceEq, Int.reduceNeg, Int.reduceAdd, Int.reduceSub, Int.reduceMul, decide_true, decide_false, ↓reduceIte, decide_eq_true_eq, Bool.not_eq_true', decide_eq_false_iff_not, Bool.false_eq_true, Bool.true_eq_false, Bool.not_true, Bool.not_false, true_and, and_true, and_self, false_and, and_false, hl]
theorem far_ex (a b c t : Int) (S : Store) (h : 0 < t) (ht : t ≤ 10 ^ 70) : ∃ v a' c', 0 ≤ v ∧ v < t ∧
    d__law_far [.cell 0, .d (.int t)] (dice a b c :: S) = .ok (.d (.int v)) (dice a' b c' :: S) := by
  obtain ⟨v', l', a', c', q, e⟩ := far_loop t b S 300 fuel 0 t a c (by decide) (by decide) (by omega) (by
    have : (10 : Int) ^ 70 < 2 ^ 300 := by decide
    omega)
  refine ⟨v' % t, a', c', Int.emod_nonneg _ (by omega), Int.emod_lt_of_pos _ h, ?_⟩
  refine funD_rt (sq_nx (par_i (x := .d (.int 0)) (y := .d (.int t)) rfl rfl) (sq_nx e (ret_i ?_))) rfl
  have hb := divOk_m h ht
  simp only [funD, finF, fin, sNil, sSeq, sEx, sRet, sRetN, sAsg, sNew, sIf, sAsgT, sPar, sFrz, sRetC, sNever, sBrk, sCont, sFor, eVar, eC, eBin, eUn, eTest, eAnd, eOr, eNot, eIf, eChain, eNil, eCons, eCall, eSl, eoN, eoS, eApp, eExt, ePop, sSet, itV, itR1, itR2, itEn, itZ, eLc, asB, clo, fTup, fLst, fAddL, fMulL, fI, fAdd, fSub, fMul, fDiv, fMod, fPow, fNeg, fLt, fLe, fGt, fGe, fEq, fNe, fIx, fIsN, fNotN, Pd.isNon, fLen, fAbs, fInt, fTuple, fList, fSum, fAll, fAny, fMax2, fMin2, isiD, fIsi, fSl, fRev, fSorted, fRepr, rd, R.bind, R.fl, F.lp, noX, tYesD, lcY, tgN, tgsNil, tgsCons, tgT, wipeE, keepB, List.map_cons, List.map_nil, List.replicate_succ, List.replicate_zero, List.cons_append, List.nil_append, List.append_nil, List.length_cons, List.length_nil, List.length_append, List.getElem?_cons_zero, List.getElem?_cons_succ, List.getElem?_nil, List.set_cons_zero, List.set_cons_succ, List.take_zero, List.take_succ_cons, List.take_nil, Option.map_some, Option.map_none, Option.bind_some, Option.bind_none, Nat.zero_add, Nat.add_zero, Nat.reduceAdd, Nat.reduceLeDiff, Nat.reduceSub, Nat.reduceEqDiff, Int.reduceLT, Int.reduceLE, Int.reduceEq, Int.reduceNeg, Int.reduceAdd, Int.reduceSub, Int.reduceMul, decide_true, decide_false, ↓reduceIte, decide_eq_true_eq, Bool.not_eq_true', decide_eq_false_iff_not, Bool.false_eq_true, Bool.true_eq_false, Bool.not_true, Bool.not_false, true_and, and_true, and_self, false_and, and_false, h, hb]
end L04


namespace L04
open PySem L2 Pd Pq
def Dc (S : Store) : Prop := ∃ a b c, S = [dice a b c]
theorem roll (S : Store) (t : Int) (hS : Dc S) (h : 0 < t) (ht : t ≤ 10 ^ 70) : ∃ v S', Dc S' ∧ 0 ≤ v ∧ v < t ∧ d__law_roll [.cell 0, .d (.int t)] S = .ok (.d (.int v)) S' := by
  obtain ⟨a, b, c, rfl⟩ := hS
  obtain ⟨v, a', c', h0, h1, e⟩ := roll_ex a b c t [] h (divOk_m h ht)
  exact ⟨v, _, ⟨a', b, c', rfl⟩, h0, h1, e⟩
theorem pick (S : Store) (ds : List D) (hS : Dc S) (h : ds ≠ []) (hl : ds.length ≤ 1000) : ∃ d S', Dc S' ∧ d ∈ ds ∧ d__law_pick [.cell 0, .d (.lst ds)] S = .ok (.d d) S' := by
  obtain ⟨a, b, c, rfl⟩ := hS
  obtain ⟨d, a', c', h0, e⟩ := pick_ex a b c ds [] h hl
  exact ⟨d, _, ⟨a', b, c', rfl⟩, h0, e⟩
theorem far (S : Store) (t : Int) (hS : Dc S) (h : 0 < t) (ht : t ≤ 10 ^ 70) : ∃ v S', Dc S' ∧ 0 ≤ v ∧ v < t ∧ d__law_far [.cell 0, .d (.int t)] S = .ok (.d (.int v)) S' := by
  obtain ⟨a, b, c, rfl⟩ := hS
  obtain ⟨v, a', c', h0, h1, e⟩ := far_ex a b c t [] h ht
  exact ⟨v, _, ⟨a', b, c', rfl⟩, h0, h1, e⟩
theorem Dc.tk {S S' : Store} (h : Dc S) (h' : Dc S') : S'.take S.length = S' := by
  obtain ⟨a, b, c, rfl⟩ := h
  obtain ⟨a', b', c', rfl⟩ := h'
  rfl
end L04


namespace L04
open PySem L2 Pd Pq
theorem leaned_ex (rs : Rn) (x : Val) (S : Store) (hx : ∀ Γ S, itV (eVar 0) (some x :: Γ) S = .ok (prs rs) S) (hl : rs.length ≤ 900) : d__law_leaned [x] S = .ok (.d (.tup (prs (leanR rs)))) S := by
  obtain ⟨Γ', S', e, ⟨o2, o3, rfl, rfl⟩⟩ := forD_inv (tg := tgT (tgsCons (tgN 2) (tgsCons (tgN 3) tgsNil))) (body := lnBody) (prs rs)
    (fun i Γ S' => ∃ o2 o3, Γ = [some x, some (.cell S.length), o2, o3] ∧ S' = S ++ [some (.lst (prs (addAll [] (rs.take i)).reverse))])
    (Γ := [some x, some (.cell S.length), none, none]) (S := S ++ [some (.lst [])]) ⟨none, none, rfl, rfl⟩ (by
      rintro i y Γ S' hy ⟨o2, o3, rfl, rfl⟩
      rw [List.getElem?_map] at hy
      by_cases hi : i < rs.length
      · rw [List.getElem?_eq_getElem hi] at hy
        cases hy
        have st := ln_step x S (addAll [] (rs.take i)) rs[i] (by
          have := addAll_len (rs.take i) []
          rw [List.length_take] at this
          simp only [List.length_nil, Nat.zero_add] at this
          omega)
        refine ⟨_, rfl, _, _, .inl st, some (.d (.int rs[i].1)), some (.d (.int rs[i].2)), rfl, ?_⟩
        rw [List.take_succ_eq_append_getElem hi, addAll_snoc]
      · rw [List.getElem?_eq_none (by omega)] at hy
        cases hy)
  rw [List.length_map, List.take_length] at e
  have er : (addAll [] rs).reverse = leanR rs := rfl
  rw [er] at e
  have fz := frz_ap (n0 := S.length) (i := 1) (Γ := [some x, some (.cell S.length), o2, o3]) (S := S) (ds := prs (leanR rs)) rfl rfl
  have hx' := hx [some (.cell S.length), none, none] (S ++ [some (.lst [])])
  rw [iv_ap] at hx'
  simp only [v_ap, List.getElem?_cons_zero] at hx'
  unfold d__law_leaned
  simp only [v_ap, c_ap, un_ap, un_ok, bi_ap, bi1_ok, bi2_ok, cl_ap, cl_ok, cs_ap, cs1_ok, cs2_ok, nil_ap, t_ap, t_ok, an_ap, an_t, an_f, or_ap, or_tt, or_ff, nt_ap, nt_ok, if_ap, iff_t, iff_f, ch_ap, ch1_ok, ch2_ok, ch3_t, ch3_f, ch4_ok, oN_ap, oS_ap, so_ok, sl_ap, sl1_ok, sl2_ok, sl3_ok, fSl_l, fSl_t, iv_ap, iv_l, iv_t, ir_ap, ir_ok, ir_i, ie_ap, ie_l, ie_t, iz_ap, i2_ap, it1_ok, it2_ok, iZz_l, iZz_t, me_ap, me1_ok, me2_ok, nox_ok, isO_d, fPr_o, fFld_o, sq_ap, sq_n, sq_r, sq_b, sq_c, nl_ap, bk_ap, ct_ap, ex_ap, ex_ok, rt_ap, rt_ok, rn_ap, as_ap, as_ok, nw_ap, nw_ok, sf_ap, sf_t, sf_f, pr_ap, pr1_ok, pr2_ok, pt_ap, pt1_ok, pt2_ok, pt3_ok, at_ap, at_ok, oN_some, fo_ap, fo_ok, tgN_ap, tgT_ap, tgs_c, tgs_n, ob_s, funD_ap, fin_d, fin_n, tk_len, tk_app, tk_appc, get_app, set_app, add_ii, add_ll, add_tt, sub_ii, mul_ii, mul_l, mulL_l, mul_t, addL_ll, div_ii, mod_ii, pow_ii, neg_i, lt_ii, le_ii, gt_ii, ge_ii, eq_ii, ne_ii, max_ii, min_ii, isB_bb, notB_bb, ix_t, ix_l, ix_c, ixC_l, oD_s, len_l, len_t, len_s, len_c, lnC_l, rd_d, rd_c, rdC_l, all_tt, tu_l, tu_t, li_l, li_t, in_i, rev_l, rev_t, sum_l, sum_t, all_b, any_b, fTup_0, fTup_1, fTup_2, fTup_3, fTup_4, fTup_5, fLst_0, fLst_1, fLst_2, fLst_3, fLst_4, fLst_5, isi_in, isi_tt, isi_ll, isi_bi, kb_d, kb_n, kb_c, lp_n, lp_c, lp_b, lp_r, isO_d, List.set_cons_zero, List.set_cons_succ, List.getElem?_cons_zero, List.getElem?_cons_succ, List.getElem?_nil, List.map_cons, List.map_nil, List.replicate_succ, List.replicate_zero, List.cons_append, List.nil_append, List.append_nil, atI_0, atI_1, atI_2, atI_3, decide_true, decide_false, Bool.not_true, Bool.not_false, Bool.and_true, Bool.true_and, Bool.and_false, Bool.false_and, Bool.or_true, Bool.true_or, Bool.or_false, Bool.false_or, wipeE, Option.map_some, Option.map_none, List.length_cons, List.length_nil, Nat.zero_add, Nat.reduceAdd, hx', e, fz]
theorem lpart_loop (a : Val) (s m : Int) (S : Store) : ∀ (rs : Rn) (h : Int) (acc : Rn) (o5 o6 o7 o8 : Option Val), acc.length + rs.length ≤ 1000 → ∃ h' p5 p6 p7 p8, forD (tgT (tgsCons (tgN 5) (tgsCons (tgN 6) tgsNil))) (sSeq (sPar 7 8 (eBin fMax2 (eVar 1) (eVar 4)) (eBin fMin2 (eBin fAdd (eVar 1) (eVar 2)) (eBin fAdd (eVar 4) (eVar 6)))) (sSeq (sIf (eBin fLt (eVar 7) (eVar 8)) (sEx (eApp (eVar 3) (eCall fTup (eCons (eVar 5) (eCons (eBin fSub (eVar 8) (eVar 7)) eNil))))) sNil) (sAsg 4 (eBin fAdd (eVar 4) (eVar 6))))) (prs rs) [some a, some (.d (.int s)), some (.d (.int m)), some (.cell S.length), some (.d (.int h)), o5, o6, o7, o8] (S ++ [some (.lst (prs acc))])
    = .nx [some a, some (.d (.int s)), some (.d (.int m)), some (.cell S.length), some (.d (.int h')), p5, p6, p7, p8] (S ++ [some (.lst (prs (acc ++ partR rs (s - h) m)))])
  | [], h, acc, o5, o6, o7, o8, _ => ⟨h, o5, o6, o7, o8, by simp [partR, forD]⟩
  | r :: rs, h, acc, o5, o6, o7, o8, hl => by
    have hl' : acc.length + (rs.length + 1) ≤ 1000 := hl
    obtain ⟨f', p5, p6, p7, p8, ih⟩ := lpart_loop a s m S rs (h + r.2) (acc ++ (if max (s - h) 0 < min (s - h + m) r.2 then [(r.1, min (s - h + m) r.2 - max (s - h) 0)] else [])) (some (.d (.int r.1))) (some (.d (.int r.2))) (some (.d (.int (max s h)))) (some (.d (.int (min (s + m) (h + r.2))))) (by
      rw [List.length_append]
      split <;> simp <;> omega)
    refine ⟨f', p5, p6, p7, p8, ?_⟩
    rw [show partR (r :: rs) (s - h) m = (if max (s - h) 0 < min (s - h + m) r.2 then [(r.1, min (s - h + m) r.2 - max (s - h) 0)] else []) ++ partR rs (s - h - r.2) m from rfl, ← List.append_assoc, show s - h - r.2 = s - (h + r.2) by omega, ← ih]
    have tg : (tgT (tgsCons (tgN 5) (tgsCons (tgN 6) tgsNil))) (prD r) [some a, some (.d (.int s)), some (.d (.int m)), some (.cell S.length), some (.d (.int h)), o5, o6, o7, o8] = some [some a, some (.d (.int s)), some (.d (.int m)), some (.cell S.length), some (.d (.int h)), some (.d (.int r.1)), some (.d (.int r.2)), o7, o8] := rfl
    rw [show prs (r :: rs) = prD r :: prs rs from rfl, forD_c tg]
    by_cases q : max s h < min (s + m) (h + r.2)
    · have q' : max (s - h) 0 < min (s - h + m) r.2 := by omega
      have eq : min (s + m) (h + r.2) - max s h = min (s - h + m) r.2 - max (s - h) 0 := by omega
      have ap := app_last (i := 3) (e := eCall fTup (eCons (eVar 5) (eCons (eBin fSub (eVar 8) (eVar 7)) eNil))) (Γ := [some a, some (.d (.int s)), some (.d (.int m)), some (.cell S.length), some (.d (.int h)), some (.d (.int r.1)), some (.d (.int r.2)), some (.d (.int (max s h))), some (.d (.int (min (s + m) (h + r.2))))]) (S := S) (S' := S) (ds := prs acc) (d := prD (r.1, min (s - h + m) r.2 - max (s - h) 0)) rfl (by simp only [v_ap, c_ap, un_ap, un_ok, bi_ap, bi1_ok, bi2_ok, cl_ap, cl_ok, cs_ap, cs1_ok, cs2_ok, nil_ap, t_ap, t_ok, an_ap, an_t, an_f, or_ap, or_tt, or_ff, nt_ap, nt_ok, if_ap, iff_t, iff_f, ch_ap, ch1_ok, ch2_ok, ch3_t, ch3_f, ch4_ok, oN_ap, oS_ap, so_ok, sl_ap, sl1_ok, sl2_ok, sl3_ok, fSl_l, fSl_t, iv_ap, iv_l, iv_t, ir_ap, ir_ok, ir_i, ie_ap, ie_l, ie_t, iz_ap, i2_ap, it1_ok, it2_ok, iZz_l, iZz_t, me_ap, me1_ok, me2_ok, nox_ok, isO_d, fPr_o, fFld_o, sq_ap, sq_n, sq_r, sq_b, sq_c, nl_ap, bk_ap, ct_ap, ex_ap, ex_ok, rt_ap, rt_ok, rn_ap, as_ap, as_ok, nw_ap, nw_ok, sf_ap, sf_t, sf_f, pr_ap, pr1_ok, pr2_ok, pt_ap, pt1_ok, pt2_ok, pt3_ok, at_ap, at_ok, oN_some, fo_ap, fo_ok, tgN_ap, tgT_ap, tgs_c, tgs_n, ob_s, funD_ap, fin_d, fin_n, tk_len, tk_app, tk_appc, get_app, set_app, add_ii, add_ll, add_tt, sub_ii, mul_ii, mul_l, mulL_l, mul_t, addL_ll, div_ii, mod_ii, pow_ii, neg_i, lt_ii, le_ii, gt_ii, ge_ii, eq_ii, ne_ii, max_ii, min_ii, isB_bb, notB_bb, ix_t, ix_l, ix_c, ixC_l, oD_s, len_l, len_t, len_s, len_c, lnC_l, rd_d, rd_c, rdC_l, all_tt, tu_l, tu_t, li_l, li_t, in_i, rev_l, rev_t, sum_l, sum_t, all_b, any_b, fTup_0, fTup_1, fTup_2, fTup_3, fTup_4, fTup_5, fLst_0, fLst_1, fLst_2, fLst_3, fLst_4, fLst_5, isi_in, isi_tt, isi_ll, isi_bi, kb_d, kb_n, kb_c, lp_n, lp_c, lp_b, lp_r, isO_d, List.set_cons_zero, List.set_cons_succ, List.getElem?_cons_zero, List.getElem?_cons_succ, List.getElem?_nil, List.map_cons, List.map_nil, List.replicate_succ, List.replicate_zero, List.cons_append, List.nil_append, List.append_nil, atI_0, atI_1, atI_2, atI_3, decide_true, decide_false, Bool.not_true, Bool.not_false, Bool.and_true, Bool.true_and, Bool.and_false, Bool.false_and, Bool.or_true, Bool.true_or, Bool.or_false, Bool.false_or, wipeE, Option.map_some, Option.map_none, List.length_cons, List.length_nil, Nat.zero_add, Nat.reduceAdd, prD, eq]) rfl (by simp; omega)
      simp only [v_ap, c_ap, un_ap, un_ok, bi_ap, bi1_ok, bi2_ok, cl_ap, cl_ok, cs_ap, cs1_ok, cs2_ok, nil_ap, t_ap, t_ok, an_ap, an_t, an_f, or_ap, or_tt, or_ff, nt_ap, nt_ok, if_ap, iff_t, iff_f, ch_ap, ch1_ok, ch2_ok, ch3_t, ch3_f, ch4_ok, oN_ap, oS_ap, so_ok, sl_ap, sl1_ok, sl2_ok, sl3_ok, fSl_l, fSl_t, iv_ap, iv_l, iv_t, ir_ap, ir_ok, ir_i, ie_ap, ie_l, ie_t, iz_ap, i2_ap, it1_ok, it2_ok, iZz_l, iZz_t, me_ap, me1_ok, me2_ok, nox_ok, isO_d, fPr_o, fFld_o, sq_ap, sq_n, sq_r, sq_b, sq_c, nl_ap, bk_ap, ct_ap, ex_ap, ex_ok, rt_ap, rt_ok, rn_ap, as_ap, as_ok, nw_ap, nw_ok, sf_ap, sf_t, sf_f, pr_ap, pr1_ok, pr2_ok, pt_ap, pt1_ok, pt2_ok, pt3_ok, at_ap, at_ok, oN_some, fo_ap, fo_ok, tgN_ap, tgT_ap, tgs_c, tgs_n, ob_s, funD_ap, fin_d, fin_n, tk_len, tk_app, tk_appc, get_app, set_app, add_ii, add_ll, add_tt, sub_ii, mul_ii, mul_l, mulL_l, mul_t, addL_ll, div_ii, mod_ii, pow_ii, neg_i, lt_ii, le_ii, gt_ii, ge_ii, eq_ii, ne_ii, max_ii, min_ii, isB_bb, notB_bb, ix_t, ix_l, ix_c, ixC_l, oD_s, len_l, len_t, len_s, len_c, lnC_l, rd_d, rd_c, rdC_l, all_tt, tu_l, tu_t, li_l, li_t, in_i, rev_l, rev_t, sum_l, sum_t, all_b, any_b, fTup_0, fTup_1, fTup_2, fTup_3, fTup_4, fTup_5, fLst_0, fLst_1, fLst_2, fLst_3, fLst_4, fLst_5, isi_in, isi_tt, isi_ll, isi_bi, kb_d, kb_n, kb_c, lp_n, lp_c, lp_b, lp_r, isO_d, List.set_cons_zero, List.set_cons_succ, List.getElem?_cons_zero, List.getElem?_cons_succ, List.getElem?_nil, List.map_cons, List.map_nil, List.replicate_succ, List.replicate_zero, List.cons_append, List.nil_append, List.append_nil, atI_0, atI_1, atI_2, atI_3, decide_true, decide_false, Bool.not_true, Bool.not_false, Bool.and_true, Bool.true_and, Bool.and_false, Bool.false_and, Bool.or_true, Bool.true_or, Bool.or_false, Bool.false_or, wipeE, Option.map_some, Option.map_none, List.length_cons, List.length_nil, Nat.zero_add, Nat.reduceAdd, q, ap, q', if_true, prs, List.map_append]
    · have q' : ¬ max (s - h) 0 < min (s - h + m) r.2 := by omega
      simp only [v_ap, c_ap, un_ap, un_ok, bi_ap, bi1_ok, bi2_ok, cl_ap, cl_ok, cs_ap, cs1_ok, cs2_ok, nil_ap, t_ap, t_ok, an_ap, an_t, an_f, or_ap, or_tt, or_ff, nt_ap, nt_ok, if_ap, iff_t, iff_f, ch_ap, ch1_ok, ch2_ok, ch3_t, ch3_f, ch4_ok, oN_ap, oS_ap, so_ok, sl_ap, sl1_ok, sl2_ok, sl3_ok, fSl_l, fSl_t, iv_ap, iv_l, iv_t, ir_ap, ir_ok, ir_i, ie_ap, ie_l, ie_t, iz_ap, i2_ap, it1_ok, it2_ok, iZz_l, iZz_t, me_ap, me1_ok, me2_ok, nox_ok, isO_d, fPr_o, fFld_o, sq_ap, sq_n, sq_r, sq_b, sq_c, nl_ap, bk_ap, ct_ap, ex_ap, ex_ok, rt_ap, rt_ok, rn_ap, as_ap, as_ok, nw_ap, nw_ok, sf_ap, sf_t, sf_f, pr_ap, pr1_ok, pr2_ok, pt_ap, pt1_ok, pt2_ok, pt3_ok, at_ap, at_ok, oN_some, fo_ap, fo_ok, tgN_ap, tgT_ap, tgs_c, tgs_n, ob_s, funD_ap, fin_d, fin_n, tk_len, tk_app, tk_appc, get_app, set_app, add_ii, add_ll, add_tt, sub_ii, mul_ii, mul_l, mulL_l, mul_t, addL_ll, div_ii, mod_ii, pow_ii, neg_i, lt_ii, le_ii, gt_ii, ge_ii, eq_ii, ne_ii, max_ii, min_ii, isB_bb, notB_bb, ix_t, ix_l, ix_c, ixC_l, oD_s, len_l, len_t, len_s, len_c, lnC_l, rd_d, rd_c, rdC_l, all_tt, tu_l, tu_t, li_l, li_t, in_i, rev_l, rev_t, sum_l, sum_t, all_b, any_b, fTup_0, fTup_1, fTup_2, fTup_3, fTup_4, fTup_5, fLst_0, fLst_1, fLst_2, fLst_3, fLst_4, fLst_5, isi_in, isi_tt, isi_ll, isi_bi, kb_d, kb_n, kb_c, lp_n, lp_c, lp_b, lp_r, isO_d, List.set_cons_zero, List.set_cons_succ, List.getElem?_cons_zero, List.getElem?_cons_succ, List.getElem?_nil, List.map_cons, List.map_nil, List.replicate_succ, List.replicate_zero, List.cons_append, List.nil_append, List.append_nil, atI_0, atI_1, atI_2, atI_3, decide_true, decide_false, Bool.not_true, Bool.not_false, Bool.and_true, Bool.true_and, Bool.and_false, Bool.false_and, Bool.or_true, Bool.true_or, Bool.or_false, Bool.false_or, wipeE, Option.map_some, Option.map_none, List.length_cons, List.length_nil, Nat.zero_add, Nat.reduceAdd, q, q', if_false, prs, List.map_append]
theorem lpart_ex (rs : Rn) (s m : Int) (S : Store) (hl : rs.length ≤ 900) : d__law_part [.d (.tup (prs rs)), .d (.int s), .d (.int m)] S = .ok (.d (.tup (prs (leanR (partR rs s m))))) S := by
  obtain ⟨f', o5, o6, o7, o8, e⟩ := lpart_loop (.d (.tup (prs rs))) s m S rs 0 [] none none none none (by simp; omega)
  rw [List.nil_append, Int.sub_zero] at e
  have e : forD (tgT (tgsCons (tgN 5) (tgsCons (tgN 6) tgsNil))) (sSeq (sPar 7 8 (eBin fMax2 (eVar 1) (eVar 4)) (eBin fMin2 (eBin fAdd (eVar 1) (eVar 2)) (eBin fAdd (eVar 4) (eVar 6)))) (sSeq (sIf (eBin fLt (eVar 7) (eVar 8)) (sEx (eApp (eVar 3) (eCall fTup (eCons (eVar 5) (eCons (eBin fSub (eVar 8) (eVar 7)) eNil))))) sNil) (sAsg 4 (eBin fAdd (eVar 4) (eVar 6))))) (prs rs) [some (.d (.tup (prs rs))), some (.d (.int s)), some (.d (.int m)), some (.cell S.length), some (.d (.int 0)), none, none, none, none] (S ++ [some (.lst [])]) = _ := e
  have fz := frz_ap (n0 := S.length) (i := 3) (Γ := [some (.d (.tup (prs rs))), some (.d (.int s)), some (.d (.int m)), some (.cell S.length), some (.d (.int f')), o5, o6, o7, o8]) (S := S) (ds := prs (partR rs s m)) rfl rfl
  have l := leaned_ex (partR rs s m) (.d (.lst (prs (partR rs s m)))) S (fun _ _ => rfl) (Nat.le_trans (partR_len _ _ _) hl)
  unfold d__law_part
  simp only [v_ap, c_ap, un_ap, un_ok, bi_ap, bi1_ok, bi2_ok, cl_ap, cl_ok, cs_ap, cs1_ok, cs2_ok, nil_ap, t_ap, t_ok, an_ap, an_t, an_f, or_ap, or_tt, or_ff, nt_ap, nt_ok, if_ap, iff_t, iff_f, ch_ap, ch1_ok, ch2_ok, ch3_t, ch3_f, ch4_ok, oN_ap, oS_ap, so_ok, sl_ap, sl1_ok, sl2_ok, sl3_ok, fSl_l, fSl_t, iv_ap, iv_l, iv_t, ir_ap, ir_ok, ir_i, ie_ap, ie_l, ie_t, iz_ap, i2_ap, it1_ok, it2_ok, iZz_l, iZz_t, me_ap, me1_ok, me2_ok, nox_ok, isO_d, fPr_o, fFld_o, sq_ap, sq_n, sq_r, sq_b, sq_c, nl_ap, bk_ap, ct_ap, ex_ap, ex_ok, rt_ap, rt_ok, rn_ap, as_ap, as_ok, nw_ap, nw_ok, sf_ap, sf_t, sf_f, pr_ap, pr1_ok, pr2_ok, pt_ap, pt1_ok, pt2_ok, pt3_ok, at_ap, at_ok, oN_some, fo_ap, fo_ok, tgN_ap, tgT_ap, tgs_c, tgs_n, ob_s, funD_ap, fin_d, fin_n, tk_len, tk_app, tk_appc, get_app, set_app, add_ii, add_ll, add_tt, sub_ii, mul_ii, mul_l, mulL_l, mul_t, addL_ll, div_ii, mod_ii, pow_ii, neg_i, lt_ii, le_ii, gt_ii, ge_ii, eq_ii, ne_ii, max_ii, min_ii, isB_bb, notB_bb, ix_t, ix_l, ix_c, ixC_l, oD_s, len_l, len_t, len_s, len_c, lnC_l, rd_d, rd_c, rdC_l, all_tt, tu_l, tu_t, li_l, li_t, in_i, rev_l, rev_t, sum_l, sum_t, all_b, any_b, fTup_0, fTup_1, fTup_2, fTup_3, fTup_4, fTup_5, fLst_0, fLst_1, fLst_2, fLst_3, fLst_4, fLst_5, isi_in, isi_tt, isi_ll, isi_bi, kb_d, kb_n, kb_c, lp_n, lp_c, lp_b, lp_r, isO_d, List.set_cons_zero, List.set_cons_succ, List.getElem?_cons_zero, List.getElem?_cons_succ, List.getElem?_nil, List.map_cons, List.map_nil, List.replicate_succ, List.replicate_zero, List.cons_append, List.nil_append, List.append_nil, atI_0, atI_1, atI_2, atI_3, decide_true, decide_false, Bool.not_true, Bool.not_false, Bool.and_true, Bool.true_and, Bool.and_false, Bool.false_and, Bool.or_true, Bool.true_or, Bool.or_false, Bool.false_or, wipeE, Option.map_some, Option.map_none, List.length_cons, List.length_nil, Nat.zero_add, Nat.reduceAdd, e, fz, l]
theorem letterR_ex (w : Int) (rs : Rn) (S : Store) (h : OkR w rs) (p : Int) (p0 : 0 ≤ p) (p1 : p < (rs.map (·.2)).sum) : ∃ x, d_Word_letter [.d (wD w rs), .d (.int p)] S = .ok (.d (.int x)) S ∧ ∃ n t, leanR (partR rs p 1) = (x, n) :: t := by
  have hl := h.len
  have e1 := part_of_ex rs p 1 S (by omega)
  have e2 := length_ex w rs S (by omega)
  have e3 := req_within p 0 ((rs.map (·.2)).sum - 1) S (by omega) (by omega)
  have px := partR_ex rs p 1 h.pos (by omega)
  have le := ex_len h.nn
  rw [List.drop_eq_getElem_cons (by omega), show (p + 1).toNat - p.toNat = 0 + 1 by omega, List.take_succ_cons] at px
  obtain ⟨r, t, er, e4⟩ := ex_head (partR_pos _ _ _) px
  have nn : ∀ r ∈ partR rs p 1, 0 ≤ r.2 := fun r hr => Int.le_of_lt (partR_pos _ _ _ r hr)
  rw [← leanR_ex nn] at px
  obtain ⟨r', t', er', e5⟩ := ex_head (leanR_pos nn) px
  refine ⟨r.1, ?_, r'.2, t', by rw [er', e4, ← e5]⟩
  rw [er] at e1
  unfold d_Word_letter
  simp only [v_ap, c_ap, un_ap, un_ok, bi_ap, bi1_ok, bi2_ok, cl_ap, cl_ok, cs_ap, cs1_ok, cs2_ok, nil_ap, t_ap, t_ok, an_ap, an_t, an_f, or_ap, or_tt, or_ff, nt_ap, nt_ok, if_ap, iff_t, iff_f, ch_ap, ch1_ok, ch2_ok, ch3_t, ch3_f, ch4_ok, oN_ap, oS_ap, so_ok, sl_ap, sl1_ok, sl2_ok, sl3_ok, fSl_l, fSl_t, iv_ap, iv_l, iv_t, ir_ap, ir_ok, ir_i, ie_ap, ie_l, ie_t, iz_ap, i2_ap, it1_ok, it2_ok, iZz_l, iZz_t, me_ap, me1_ok, me2_ok, nox_ok, isO_d, fPr_o, fFld_o, sq_ap, sq_n, sq_r, sq_b, sq_c, nl_ap, bk_ap, ct_ap, ex_ap, ex_ok, rt_ap, rt_ok, rn_ap, as_ap, as_ok, nw_ap, nw_ok, sf_ap, sf_t, sf_f, pr_ap, pr1_ok, pr2_ok, pt_ap, pt1_ok, pt2_ok, pt3_ok, at_ap, at_ok, oN_some, fo_ap, fo_ok, tgN_ap, tgT_ap, tgs_c, tgs_n, ob_s, funD_ap, fin_d, fin_n, tk_len, tk_app, tk_appc, get_app, set_app, add_ii, add_ll, add_tt, sub_ii, mul_ii, mul_l, mulL_l, mul_t, addL_ll, div_ii, mod_ii, pow_ii, neg_i, lt_ii, le_ii, gt_ii, ge_ii, eq_ii, ne_ii, max_ii, min_ii, isB_bb, notB_bb, ix_t, ix_l, ix_c, ixC_l, oD_s, len_l, len_t, len_s, len_c, lnC_l, rd_d, rd_c, rdC_l, all_tt, tu_l, tu_t, li_l, li_t, in_i, rev_l, rev_t, sum_l, sum_t, all_b, any_b, fTup_0, fTup_1, fTup_2, fTup_3, fTup_4, fTup_5, fLst_0, fLst_1, fLst_2, fLst_3, fLst_4, fLst_5, isi_in, isi_tt, isi_ll, isi_bi, kb_d, kb_n, kb_c, lp_n, lp_c, lp_b, lp_r, isO_d, List.set_cons_zero, List.set_cons_succ, List.getElem?_cons_zero, List.getElem?_cons_succ, List.getElem?_nil, List.map_cons, List.map_nil, List.replicate_succ, List.replicate_zero, List.cons_append, List.nil_append, List.append_nil, atI_0, atI_1, atI_2, atI_3, decide_true, decide_false, Bool.not_true, Bool.not_false, Bool.and_true, Bool.true_and, Bool.and_false, Bool.false_and, Bool.or_true, Bool.true_or, Bool.or_false, Bool.false_or, wipeE, Option.map_some, Option.map_none, List.length_cons, List.length_nil, Nat.zero_add, Nat.reduceAdd, e2, e3, e1, prD]
theorem alt_mir (w : Int) : ∀ {rs : Rn}, Alt rs → Alt (mirR w rs)
  | [], _ => True.intro
  | [_], _ => True.intro
  | a :: b :: t, h => ⟨by show w - 1 - a.1 ≠ w - 1 - b.1; have := h.1; omega, alt_mir w (rs := b :: t) h.2⟩
end L04


namespace L04
open PySem L2 Pd Pq
theorem prs_of : ∀ {ds : List D} {P : Int × Int → Prop}, (∀ d ∈ ds, ∃ r, d = prD r ∧ P r) → ∃ rs : Rn, ds = prs rs ∧ ∀ r ∈ rs, P r
  | [], _, _ => ⟨[], rfl, by simp⟩
  | d :: ds, P, h => by
    obtain ⟨r, rfl, p⟩ := h d List.mem_cons_self
    obtain ⟨rs, rfl, q⟩ := prs_of (ds := ds) fun e he => h e (List.mem_cons_of_mem _ he)
    refine ⟨r :: rs, rfl, fun x hx => ?_⟩
    rcases List.mem_cons.mp hx with rfl | hx
    · exact p
    · exact q x hx
theorem sum_le : ∀ {rs : Rn} {c : Int}, (∀ r ∈ rs, r.2 ≤ c) → (rs.map (·.2)).sum ≤ rs.length * c
  | [], c, _ => by simp
  | r :: rs, c, h => by
    have ih := sum_le (rs := rs) fun x hx => h x (List.mem_cons_of_mem _ hx)
    have h0 := h r List.mem_cons_self
    rw [List.map_cons, List.sum_cons, List.length_cons]
    have : ((rs.length + 1 : Nat) : Int) * c = rs.length * c + c := by rw [Int.natCast_add, Int.add_mul]; simp
    omega
theorem nn_part (rs : Rn) (f m : Int) : ∀ r ∈ partR rs f m, 0 ≤ r.2 := fun r hr => Int.le_of_lt (partR_pos _ _ _ r hr)
theorem ex_two {rs : Rn} (h : Pos rs) (a : Alt rs) (s : Int) (s0 : 0 ≤ s) (s1 : s ≤ (rs.map (·.2)).sum) : leanR (leanR (leanR (partR rs 0 s) ++ leanR (partR rs s ((rs.map (·.2)).sum - s)))) = rs := by
  have nn : ∀ r ∈ leanR (partR rs 0 s) ++ leanR (partR rs s ((rs.map (·.2)).sum - s)), 0 ≤ r.2 := fun r hr => (List.mem_append.mp hr).elim (fun hr => Int.le_of_lt (leanR_pos (nn_part _ _ _) r hr)) fun hr => Int.le_of_lt (leanR_pos (nn_part _ _ _) r hr)
  have le := ex_len fun r hr => Int.le_of_lt (h r hr)
  rw [lean_lean (leanR_pos nn) (leanR_alt _)]
  refine alt_one (leanR_pos nn) h (leanR_alt _) a ?_
  rw [leanR_ex nn, ex_app, leanR_ex (nn_part _ _ _), leanR_ex (nn_part _ _ _), partR_ex _ _ _ h s0, partR_ex _ _ _ h (by omega)]
  rw [show (0 : Int).toNat = 0 from rfl, List.drop_zero, Nat.sub_zero, Int.zero_add]
  have e2 : (ex rs).length ≤ (s + ((rs.map (·.2)).sum - s)).toNat - s.toNat + s.toNat := by omega
  rw [List.take_of_length_le (l := (ex rs).drop s.toNat) (by rw [List.length_drop]; omega), List.take_append_drop]
end L04


namespace L04
open PySem L2 Pd Pq
theorem nn_ne (rs : Rn) (S : Store) : fNe (.d (.tup (prs rs))) (.d (.tup (prs rs))) S = .ok (.d (.bl false)) S := fNe_same _ _ (fit_tprs 58 rs)
theorem nn_eq (rs : Rn) (S : Store) : fEq (.d (.tup (prs rs))) (.d (.tup (prs rs))) S = .ok (.d (.bl true)) S := fEq_same _ _ (fit_tprs 58 rs)
theorem right_ex (S : Store) (hS : Dc S) : ∃ S', Dc S' ∧ d__law_right [.cell 0] S = .ok (.d (.bl true)) S' := by
  have e30 : (10 : Int) ^ Int.toNat 30 = 10 ^ 30 := rfl
  have e33 : (10 : Int) ^ Int.toNat 33 = 10 ^ 33 := rfl
  have e60 : (10 : Int) ^ Int.toNat 60 = 10 ^ 60 := rfl
  have n30 : (10 : Int) ^ 30 = 1000000000000000000000000000000 := by decide
  have n33 : (10 : Int) ^ 33 = 1000000000000000000000000000000000 := by decide
  have n60 : (10 : Int) ^ 60 = 1000000000000000000000000000000000000000000000000000000000000 := by decide
  have n64 : (10 : Int) ^ 64 = 10000000000000000000000000000000000000000000000000000000000000000 := by decide
  have n70 : (10 : Int) ^ 70 = 10000000000000000000000000000000000000000000000000000000000000000000000 := by decide
  have p30 : powOk 10 30 = true := powOk_l (by decide) (by decide) (by decide)
  have p33 : powOk 10 33 = true := powOk_l (by decide) (by decide) (by decide)
  have p60 : powOk 10 60 = true := powOk_l (by decide) (by decide) (by decide)
  obtain ⟨v, S1, d1, v0, v1, e1⟩ := roll S 8 hS (by omega) (by omega)
  obtain ⟨w, hw⟩ : ∃ w : Nat, 1 + v = w := ⟨(1 + v).toNat, by omega⟩
  have w1' : 1 ≤ (w : Int) := by omega
  have w8' : (w : Int) ≤ 8 := by omega
  obtain ⟨k', S2, d2, k0, k1, e2⟩ := roll S1 13 d1 (by omega) (by omega)
  obtain ⟨k, rfl⟩ : ∃ k : Nat, k' = k := ⟨k'.toNat, by omega⟩
  obtain ⟨ds, S3, l1, hk, hds, d3⟩ := lc_st' (it := (itR1 (eCall d__law_roll (eCons (eVar 0) (eCons (eC (.int 13)) eNil))))) (vs := [5]) (tg := tgN 5) (elt := (eCall fTup (eCons (eCall d__law_roll (eCons (eVar 0) (eCons (eVar 1) eNil))) (eCons (eBin fAdd (eC (.int 1)) (eCall d__law_far (eCons (eVar 0) (eCons (eCall d__law_pick (eCons (eVar 0) (eCons (eCall fLst (eCons (eC (.int 3)) (eCons (eBin fPow (eC (.int 10)) (eC (.int 30))) (eCons (eBin fPow (eC (.int 10)) (eC (.int 60))) eNil)))) eNil))) eNil)))) eNil)))) (Γ := [some (.cell 0), some (.d (.int w)), none, none, none, none, none, none, none, none, none, none, none, none, none, none, none, none, none, none]) (S := S1) (S1 := S2)
    (List.range k) (fun i => .int (i : Nat)) (fun d => ∃ r, d = prD r ∧ 0 ≤ r.1 ∧ r.1 < (w : Int) ∧ 1 ≤ r.2 ∧ r.2 ≤ 10 ^ 60) Dc (by
      have a : (k : Int) ≤ 1000000 := by omega
      have b : (0 : Int) ≤ k := by omega
      simp only [v_ap, c_ap, un_ap, un_ok, bi_ap, bi1_ok, bi2_ok, cl_ap, cl_ok, cs_ap, cs1_ok, cs2_ok, nil_ap, t_ap, t_ok, an_ap, an_t, an_f, or_ap, or_tt, or_ff, nt_ap, nt_ok, if_ap, iff_t, iff_f, ch_ap, ch1_ok, ch2_ok, ch3_t, ch3_f, ch4_ok, oN_ap, oS_ap, so_ok, sl_ap, sl1_ok, sl2_ok, sl3_ok, fSl_l, fSl_t, iv_ap, iv_l, iv_t, ir_ap, ir_ok, ir_i, ie_ap, ie_l, ie_t, iz_ap, i2_ap, it1_ok, it2_ok, iZz_l, iZz_t, me_ap, me1_ok, me2_ok, nox_ok, isO_d, fPr_o, fFld_o, sq_ap, sq_n, sq_r, sq_b, sq_c, nl_ap, bk_ap, ct_ap, ex_ap, ex_ok, rt_ap, rt_ok, rn_ap, as_ap, as_ok, nw_ap, nw_ok, sf_ap, sf_t, sf_f, pr_ap, pr1_ok, pr2_ok, pt_ap, pt1_ok, pt2_ok, pt3_ok, at_ap, at_ok, oN_some, fo_ap, fo_ok, tgN_ap, tgT_ap, tgs_c, tgs_n, ob_s, funD_ap, fin_d, fin_n, tk_len, tk_app, tk_appc, get_app, set_app, add_ii, add_ll, add_tt, sub_ii, mul_ii, mul_l, mulL_l, mul_t, addL_ll, div_ii, mod_ii, pow_ii, neg_i, lt_ii, le_ii, gt_ii, ge_ii, eq_ii, ne_ii, max_ii, min_ii, isB_bb, notB_bb, ix_t, ix_l, ix_c, ixC_l, oD_s, len_l, len_t, len_s, len_c, lnC_l, rd_d, rd_c, rdC_l, all_tt, tu_l, tu_t, li_l, li_t, in_i, rev_l, rev_t, sum_l, sum_t, all_b, any_b, fTup_0, fTup_1, fTup_2, fTup_3, fTup_4, fTup_5, fLst_0, fLst_1, fLst_2, fLst_3, fLst_4, fLst_5, isi_in, isi_tt, isi_ll, isi_bi, kb_d, kb_n, kb_c, lp_n, lp_c, lp_b, lp_r, isO_d, List.set_cons_zero, List.set_cons_succ, List.getElem?_cons_zero, List.getElem?_cons_succ, List.getElem?_nil, List.map_cons, List.map_nil, List.replicate_succ, List.replicate_zero, List.cons_append, List.nil_append, List.append_nil, atI_0, atI_1, atI_2, atI_3, decide_true, decide_false, Bool.not_true, Bool.not_false, Bool.and_true, Bool.true_and, Bool.and_false, Bool.false_and, Bool.or_true, Bool.true_or, Bool.or_false, Bool.false_or, wipeE, Option.map_some, Option.map_none, List.length_cons, List.length_nil, Nat.zero_add, Nat.reduceAdd, e2, a, b, Int.toNat_natCast, upto]) d2 (by simp; omega) (by
      intro i hi S hS
      obtain ⟨l, Sa, da, l0, l1, ea⟩ := roll S w hS (by omega) (by omega)
      obtain ⟨d, Sb, db, hd, eb⟩ := pick Sa [.int 3, .int (10 ^ 30), .int (10 ^ 60)] da (by simp) (by simp)
      obtain ⟨c, rfl, c0, c1⟩ : ∃ c : Int, d = .int c ∧ 0 < c ∧ c ≤ 10 ^ 60 := by
        simp only [List.mem_cons, List.not_mem_nil, or_false] at hd
        rcases hd with rfl | rfl | rfl
        · exact ⟨3, rfl, by omega, by omega⟩
        · exact ⟨_, rfl, by omega, by omega⟩
        · exact ⟨_, rfl, by omega, by omega⟩
      obtain ⟨m, Sc, dc, m0, m1, ec⟩ := far Sb c db c0 (by omega)
      refine ⟨_, rfl, prD (l, 1 + m), Sc, ?_, ⟨_, rfl, l0, l1, by show 1 ≤ 1 + m; omega, by show 1 + m ≤ _; omega⟩, dc⟩
      simp only [v_ap, c_ap, un_ap, un_ok, bi_ap, bi1_ok, bi2_ok, cl_ap, cl_ok, cs_ap, cs1_ok, cs2_ok, nil_ap, t_ap, t_ok, an_ap, an_t, an_f, or_ap, or_tt, or_ff, nt_ap, nt_ok, if_ap, iff_t, iff_f, ch_ap, ch1_ok, ch2_ok, ch3_t, ch3_f, ch4_ok, oN_ap, oS_ap, so_ok, sl_ap, sl1_ok, sl2_ok, sl3_ok, fSl_l, fSl_t, iv_ap, iv_l, iv_t, ir_ap, ir_ok, ir_i, ie_ap, ie_l, ie_t, iz_ap, i2_ap, it1_ok, it2_ok, iZz_l, iZz_t, me_ap, me1_ok, me2_ok, nox_ok, isO_d, fPr_o, fFld_o, sq_ap, sq_n, sq_r, sq_b, sq_c, nl_ap, bk_ap, ct_ap, ex_ap, ex_ok, rt_ap, rt_ok, rn_ap, as_ap, as_ok, nw_ap, nw_ok, sf_ap, sf_t, sf_f, pr_ap, pr1_ok, pr2_ok, pt_ap, pt1_ok, pt2_ok, pt3_ok, at_ap, at_ok, oN_some, fo_ap, fo_ok, tgN_ap, tgT_ap, tgs_c, tgs_n, ob_s, funD_ap, fin_d, fin_n, tk_len, tk_app, tk_appc, get_app, set_app, add_ii, add_ll, add_tt, sub_ii, mul_ii, mul_l, mulL_l, mul_t, addL_ll, div_ii, mod_ii, pow_ii, neg_i, lt_ii, le_ii, gt_ii, ge_ii, eq_ii, ne_ii, max_ii, min_ii, isB_bb, notB_bb, ix_t, ix_l, ix_c, ixC_l, oD_s, len_l, len_t, len_s, len_c, lnC_l, rd_d, rd_c, rdC_l, all_tt, tu_l, tu_t, li_l, li_t, in_i, rev_l, rev_t, sum_l, sum_t, all_b, any_b, fTup_0, fTup_1, fTup_2, fTup_3, fTup_4, fTup_5, fLst_0, fLst_1, fLst_2, fLst_3, fLst_4, fLst_5, isi_in, isi_tt, isi_ll, isi_bi, kb_d, kb_n, kb_c, lp_n, lp_c, lp_b, lp_r, isO_d, List.set_cons_zero, List.set_cons_succ, List.getElem?_cons_zero, List.getElem?_cons_succ, List.getElem?_nil, List.map_cons, List.map_nil, List.replicate_succ, List.replicate_zero, List.cons_append, List.nil_append, List.append_nil, atI_0, atI_1, atI_2, atI_3, decide_true, decide_false, Bool.not_true, Bool.not_false, Bool.and_true, Bool.true_and, Bool.and_false, Bool.false_and, Bool.or_true, Bool.true_or, Bool.or_false, Bool.false_or, wipeE, Option.map_some, Option.map_none, List.length_cons, List.length_nil, Nat.zero_add, Nat.reduceAdd, ea, p30, p60, e30, e60, eb, ec, prD])
  obtain ⟨rs, rfl, hr⟩ := prs_of hds
  rw [List.length_range, List.length_map] at hk
  have sle : (rs.map (·.2)).sum ≤ 12 * 10 ^ 60 := by
    have := sum_le (rs := rs) (c := 10 ^ 60) fun r h => (hr r h).2.2.2
    have z : (rs.length : Int) * 10 ^ 60 ≤ 12 * 10 ^ 60 := Int.mul_le_mul_of_nonneg_right (by omega) (by omega)
    omega
  have ok : OkR w rs := .of (by omega) (fun r h => ⟨(hr r h).1, (hr r h).2.1, (hr r h).2.2.1⟩) (by omega)
  have okd := ok.lean
  have dl := Pos.alt_len (rs := rs)
  have dsum := leanR_sum ok.nn
  have cne : ∀ l : Nat, cnt rs l = cnt (leanR rs) l := fun l => by rw [cnt_ex ok.nn, cnt_ex okd.nn, leanR_ex ok.nn]
  have dpos := leanR_pos ok.nn
  have dalt := leanR_alt rs
  have m1 := mk_ex w rs S3 w1' w8' ok
  generalize hdue : leanR rs = due at *
  have l2 : (eLc (itV (eVar 2)) [16, 13] (tgT (tgsCons (tgN 16) (tgsCons (tgN 13) tgsNil))) tYesD (eVar 13)) [some (.cell 0), some (.d (.int w)), some (.d (.lst (prs rs))), none, none, none, none, none, none, none, none, none, none, none, none, none, none, none, none, none] S3 = .ok (.d (.lst ((rs.map (·.2)).map .int))) S3 := by
    rw [List.map_map]
    refine lc_map' rs prD _ (by simp only [v_ap, c_ap, un_ap, un_ok, bi_ap, bi1_ok, bi2_ok, cl_ap, cl_ok, cs_ap, cs1_ok, cs2_ok, nil_ap, t_ap, t_ok, an_ap, an_t, an_f, or_ap, or_tt, or_ff, nt_ap, nt_ok, if_ap, iff_t, iff_f, ch_ap, ch1_ok, ch2_ok, ch3_t, ch3_f, ch4_ok, oN_ap, oS_ap, so_ok, sl_ap, sl1_ok, sl2_ok, sl3_ok, fSl_l, fSl_t, iv_ap, iv_l, iv_t, ir_ap, ir_ok, ir_i, ie_ap, ie_l, ie_t, iz_ap, i2_ap, it1_ok, it2_ok, iZz_l, iZz_t, me_ap, me1_ok, me2_ok, nox_ok, isO_d, fPr_o, fFld_o, sq_ap, sq_n, sq_r, sq_b, sq_c, nl_ap, bk_ap, ct_ap, ex_ap, ex_ok, rt_ap, rt_ok, rn_ap, as_ap, as_ok, nw_ap, nw_ok, sf_ap, sf_t, sf_f, pr_ap, pr1_ok, pr2_ok, pt_ap, pt1_ok, pt2_ok, pt3_ok, at_ap, at_ok, oN_some, fo_ap, fo_ok, tgN_ap, tgT_ap, tgs_c, tgs_n, ob_s, funD_ap, fin_d, fin_n, tk_len, tk_app, tk_appc, get_app, set_app, add_ii, add_ll, add_tt, sub_ii, mul_ii, mul_l, mulL_l, mul_t, addL_ll, div_ii, mod_ii, pow_ii, neg_i, lt_ii, le_ii, gt_ii, ge_ii, eq_ii, ne_ii, max_ii, min_ii, isB_bb, notB_bb, ix_t, ix_l, ix_c, ixC_l, oD_s, len_l, len_t, len_s, len_c, lnC_l, rd_d, rd_c, rdC_l, all_tt, tu_l, tu_t, li_l, li_t, in_i, rev_l, rev_t, sum_l, sum_t, all_b, any_b, fTup_0, fTup_1, fTup_2, fTup_3, fTup_4, fTup_5, fLst_0, fLst_1, fLst_2, fLst_3, fLst_4, fLst_5, isi_in, isi_tt, isi_ll, isi_bi, kb_d, kb_n, kb_c, lp_n, lp_c, lp_b, lp_r, isO_d, List.set_cons_zero, List.set_cons_succ, List.getElem?_cons_zero, List.getElem?_cons_succ, List.getElem?_nil, List.map_cons, List.map_nil, List.replicate_succ, List.replicate_zero, List.cons_append, List.nil_append, List.append_nil, atI_0, atI_1, atI_2, atI_3, decide_true, decide_false, Bool.not_true, Bool.not_false, Bool.and_true, Bool.true_and, Bool.and_false, Bool.false_and, Bool.or_true, Bool.true_or, Bool.or_false, Bool.false_or, wipeE, Option.map_some, Option.map_none, List.length_cons, List.length_nil, Nat.zero_add, Nat.reduceAdd]) (by omega) fun r hr => ⟨_, rfl, rfl, ?_⟩
    simp only [v_ap, c_ap, un_ap, un_ok, bi_ap, bi1_ok, bi2_ok, cl_ap, cl_ok, cs_ap, cs1_ok, cs2_ok, nil_ap, t_ap, t_ok, an_ap, an_t, an_f, or_ap, or_tt, or_ff, nt_ap, nt_ok, if_ap, iff_t, iff_f, ch_ap, ch1_ok, ch2_ok, ch3_t, ch3_f, ch4_ok, oN_ap, oS_ap, so_ok, sl_ap, sl1_ok, sl2_ok, sl3_ok, fSl_l, fSl_t, iv_ap, iv_l, iv_t, ir_ap, ir_ok, ir_i, ie_ap, ie_l, ie_t, iz_ap, i2_ap, it1_ok, it2_ok, iZz_l, iZz_t, me_ap, me1_ok, me2_ok, nox_ok, isO_d, fPr_o, fFld_o, sq_ap, sq_n, sq_r, sq_b, sq_c, nl_ap, bk_ap, ct_ap, ex_ap, ex_ok, rt_ap, rt_ok, rn_ap, as_ap, as_ok, nw_ap, nw_ok, sf_ap, sf_t, sf_f, pr_ap, pr1_ok, pr2_ok, pt_ap, pt1_ok, pt2_ok, pt3_ok, at_ap, at_ok, oN_some, fo_ap, fo_ok, tgN_ap, tgT_ap, tgs_c, tgs_n, ob_s, funD_ap, fin_d, fin_n, tk_len, tk_app, tk_appc, get_app, set_app, add_ii, add_ll, add_tt, sub_ii, mul_ii, mul_l, mulL_l, mul_t, addL_ll, div_ii, mod_ii, pow_ii, neg_i, lt_ii, le_ii, gt_ii, ge_ii, eq_ii, ne_ii, max_ii, min_ii, isB_bb, notB_bb, ix_t, ix_l, ix_c, ixC_l, oD_s, len_l, len_t, len_s, len_c, lnC_l, rd_d, rd_c, rdC_l, all_tt, tu_l, tu_t, li_l, li_t, in_i, rev_l, rev_t, sum_l, sum_t, all_b, any_b, fTup_0, fTup_1, fTup_2, fTup_3, fTup_4, fTup_5, fLst_0, fLst_1, fLst_2, fLst_3, fLst_4, fLst_5, isi_in, isi_tt, isi_ll, isi_bi, kb_d, kb_n, kb_c, lp_n, lp_c, lp_b, lp_r, isO_d, List.set_cons_zero, List.set_cons_succ, List.getElem?_cons_zero, List.getElem?_cons_succ, List.getElem?_nil, List.map_cons, List.map_nil, List.replicate_succ, List.replicate_zero, List.cons_append, List.nil_append, List.append_nil, atI_0, atI_1, atI_2, atI_3, decide_true, decide_false, Bool.not_true, Bool.not_false, Bool.and_true, Bool.true_and, Bool.and_false, Bool.false_and, Bool.or_true, Bool.true_or, Bool.or_false, Bool.false_or, wipeE, Option.map_some, Option.map_none, List.length_cons, List.length_nil, Nat.zero_add, Nat.reduceAdd, prD]
    rfl
  have le1 := leaned_ex rs (.d (.lst (prs rs))) S3 (fun _ _ => rfl) (by omega)
  rw [hdue] at le1
  have b0 : (0 : Int) ≤ w := by omega
  have b1 : (w : Int) ≤ 1000000 := by omega
  have l3 : (eLc (itR1 (eVar 1)) [16] (tgN 16) tYesD (eUn fSum (eLc (itV (eVar 2)) [19, 13] (tgT (tgsCons (tgN 19) (tgsCons (tgN 13) tgsNil))) (eTest (eBin fEq (eVar 19) (eVar 16))) (eVar 13)))) [some (.cell 0), some (.d (.int w)), some (.d (.lst (prs rs))), some (.d (.tup (prs due))), none, none, none, none, none, none, some (.d (wD w due)), some (.d (.int (rs.map (·.2)).sum)), none, none, none, none, none, none, none, none] S3 = .ok (.d (.lst ((cns w due).map .int))) S3 := by
    rw [cns, List.map_map]
    refine lc_map' (List.range w) (fun i => .int (i : Nat)) _ (by simp only [v_ap, c_ap, un_ap, un_ok, bi_ap, bi1_ok, bi2_ok, cl_ap, cl_ok, cs_ap, cs1_ok, cs2_ok, nil_ap, t_ap, t_ok, an_ap, an_t, an_f, or_ap, or_tt, or_ff, nt_ap, nt_ok, if_ap, iff_t, iff_f, ch_ap, ch1_ok, ch2_ok, ch3_t, ch3_f, ch4_ok, oN_ap, oS_ap, so_ok, sl_ap, sl1_ok, sl2_ok, sl3_ok, fSl_l, fSl_t, iv_ap, iv_l, iv_t, ir_ap, ir_ok, ir_i, ie_ap, ie_l, ie_t, iz_ap, i2_ap, it1_ok, it2_ok, iZz_l, iZz_t, me_ap, me1_ok, me2_ok, nox_ok, isO_d, fPr_o, fFld_o, sq_ap, sq_n, sq_r, sq_b, sq_c, nl_ap, bk_ap, ct_ap, ex_ap, ex_ok, rt_ap, rt_ok, rn_ap, as_ap, as_ok, nw_ap, nw_ok, sf_ap, sf_t, sf_f, pr_ap, pr1_ok, pr2_ok, pt_ap, pt1_ok, pt2_ok, pt3_ok, at_ap, at_ok, oN_some, fo_ap, fo_ok, tgN_ap, tgT_ap, tgs_c, tgs_n, ob_s, funD_ap, fin_d, fin_n, tk_len, tk_app, tk_appc, get_app, set_app, add_ii, add_ll, add_tt, sub_ii, mul_ii, mul_l, mulL_l, mul_t, addL_ll, div_ii, mod_ii, pow_ii, neg_i, lt_ii, le_ii, gt_ii, ge_ii, eq_ii, ne_ii, max_ii, min_ii, isB_bb, notB_bb, ix_t, ix_l, ix_c, ixC_l, oD_s, len_l, len_t, len_s, len_c, lnC_l, rd_d, rd_c, rdC_l, all_tt, tu_l, tu_t, li_l, li_t, in_i, rev_l, rev_t, sum_l, sum_t, all_b, any_b, fTup_0, fTup_1, fTup_2, fTup_3, fTup_4, fTup_5, fLst_0, fLst_1, fLst_2, fLst_3, fLst_4, fLst_5, isi_in, isi_tt, isi_ll, isi_bi, kb_d, kb_n, kb_c, lp_n, lp_c, lp_b, lp_r, isO_d, List.set_cons_zero, List.set_cons_succ, List.getElem?_cons_zero, List.getElem?_cons_succ, List.getElem?_nil, List.map_cons, List.map_nil, List.replicate_succ, List.replicate_zero, List.cons_append, List.nil_append, List.append_nil, atI_0, atI_1, atI_2, atI_3, decide_true, decide_false, Bool.not_true, Bool.not_false, Bool.and_true, Bool.true_and, Bool.and_false, Bool.false_and, Bool.or_true, Bool.true_or, Bool.or_false, Bool.false_or, wipeE, Option.map_some, Option.map_none, List.length_cons, List.length_nil, Nat.zero_add, Nat.reduceAdd, b0, b1, Int.toNat_natCast, upto]) (by simp; omega) fun i hi => ⟨_, rfl, rfl, ?_⟩
    have l4 : (eLc (itV (eVar 2)) [19, 13] (tgT (tgsCons (tgN 19) (tgsCons (tgN 13) tgsNil))) (eTest (eBin fEq (eVar 19) (eVar 16))) (eVar 13)) [some (.cell 0), some (.d (.int w)), some (.d (.lst (prs rs))), some (.d (.tup (prs due))), none, none, none, none, none, none, some (.d (wD w due)), some (.d (.int (rs.map (·.2)).sum)), none, none, none, none, some (.d (.int (i : Nat))), none, none, none] S3 = .ok (.d (.lst (((rs.filter fun r => decide ((r.1 : Int) = (i : Int))).map (·.2)).map .int))) S3 := by
      rw [List.map_map]
      refine lc_fil' rs prD _ _ (by simp only [v_ap, c_ap, un_ap, un_ok, bi_ap, bi1_ok, bi2_ok, cl_ap, cl_ok, cs_ap, cs1_ok, cs2_ok, nil_ap, t_ap, t_ok, an_ap, an_t, an_f, or_ap, or_tt, or_ff, nt_ap, nt_ok, if_ap, iff_t, iff_f, ch_ap, ch1_ok, ch2_ok, ch3_t, ch3_f, ch4_ok, oN_ap, oS_ap, so_ok, sl_ap, sl1_ok, sl2_ok, sl3_ok, fSl_l, fSl_t, iv_ap, iv_l, iv_t, ir_ap, ir_ok, ir_i, ie_ap, ie_l, ie_t, iz_ap, i2_ap, it1_ok, it2_ok, iZz_l, iZz_t, me_ap, me1_ok, me2_ok, nox_ok, isO_d, fPr_o, fFld_o, sq_ap, sq_n, sq_r, sq_b, sq_c, nl_ap, bk_ap, ct_ap, ex_ap, ex_ok, rt_ap, rt_ok, rn_ap, as_ap, as_ok, nw_ap, nw_ok, sf_ap, sf_t, sf_f, pr_ap, pr1_ok, pr2_ok, pt_ap, pt1_ok, pt2_ok, pt3_ok, at_ap, at_ok, oN_some, fo_ap, fo_ok, tgN_ap, tgT_ap, tgs_c, tgs_n, ob_s, funD_ap, fin_d, fin_n, tk_len, tk_app, tk_appc, get_app, set_app, add_ii, add_ll, add_tt, sub_ii, mul_ii, mul_l, mulL_l, mul_t, addL_ll, div_ii, mod_ii, pow_ii, neg_i, lt_ii, le_ii, gt_ii, ge_ii, eq_ii, ne_ii, max_ii, min_ii, isB_bb, notB_bb, ix_t, ix_l, ix_c, ixC_l, oD_s, len_l, len_t, len_s, len_c, lnC_l, rd_d, rd_c, rdC_l, all_tt, tu_l, tu_t, li_l, li_t, in_i, rev_l, rev_t, sum_l, sum_t, all_b, any_b, fTup_0, fTup_1, fTup_2, fTup_3, fTup_4, fTup_5, fLst_0, fLst_1, fLst_2, fLst_3, fLst_4, fLst_5, isi_in, isi_tt, isi_ll, isi_bi, kb_d, kb_n, kb_c, lp_n, lp_c, lp_b, lp_r, isO_d, List.set_cons_zero, List.set_cons_succ, List.getElem?_cons_zero, List.getElem?_cons_succ, List.getElem?_nil, List.map_cons, List.map_nil, List.replicate_succ, List.replicate_zero, List.cons_append, List.nil_append, List.append_nil, atI_0, atI_1, atI_2, atI_3, decide_true, decide_false, Bool.not_true, Bool.not_false, Bool.and_true, Bool.true_and, Bool.and_false, Bool.false_and, Bool.or_true, Bool.true_or, Bool.or_false, Bool.false_or, wipeE, Option.map_some, Option.map_none, List.length_cons, List.length_nil, Nat.zero_add, Nat.reduceAdd]) (by omega) fun r hr => ⟨_, rfl, ?_, fun _ => ?_⟩
      · simp only [v_ap, c_ap, un_ap, un_ok, bi_ap, bi1_ok, bi2_ok, cl_ap, cl_ok, cs_ap, cs1_ok, cs2_ok, nil_ap, t_ap, t_ok, an_ap, an_t, an_f, or_ap, or_tt, or_ff, nt_ap, nt_ok, if_ap, iff_t, iff_f, ch_ap, ch1_ok, ch2_ok, ch3_t, ch3_f, ch4_ok, oN_ap, oS_ap, so_ok, sl_ap, sl1_ok, sl2_ok, sl3_ok, fSl_l, fSl_t, iv_ap, iv_l, iv_t, ir_ap, ir_ok, ir_i, ie_ap, ie_l, ie_t, iz_ap, i2_ap, it1_ok, it2_ok, iZz_l, iZz_t, me_ap, me1_ok, me2_ok, nox_ok, isO_d, fPr_o, fFld_o, sq_ap, sq_n, sq_r, sq_b, sq_c, nl_ap, bk_ap, ct_ap, ex_ap, ex_ok, rt_ap, rt_ok, rn_ap, as_ap, as_ok, nw_ap, nw_ok, sf_ap, sf_t, sf_f, pr_ap, pr1_ok, pr2_ok, pt_ap, pt1_ok, pt2_ok, pt3_ok, at_ap, at_ok, oN_some, fo_ap, fo_ok, tgN_ap, tgT_ap, tgs_c, tgs_n, ob_s, funD_ap, fin_d, fin_n, tk_len, tk_app, tk_appc, get_app, set_app, add_ii, add_ll, add_tt, sub_ii, mul_ii, mul_l, mulL_l, mul_t, addL_ll, div_ii, mod_ii, pow_ii, neg_i, lt_ii, le_ii, gt_ii, ge_ii, eq_ii, ne_ii, max_ii, min_ii, isB_bb, notB_bb, ix_t, ix_l, ix_c, ixC_l, oD_s, len_l, len_t, len_s, len_c, lnC_l, rd_d, rd_c, rdC_l, all_tt, tu_l, tu_t, li_l, li_t, in_i, rev_l, rev_t, sum_l, sum_t, all_b, any_b, fTup_0, fTup_1, fTup_2, fTup_3, fTup_4, fTup_5, fLst_0, fLst_1, fLst_2, fLst_3, fLst_4, fLst_5, isi_in, isi_tt, isi_ll, isi_bi, kb_d, kb_n, kb_c, lp_n, lp_c, lp_b, lp_r, isO_d, List.set_cons_zero, List.set_cons_succ, List.getElem?_cons_zero, List.getElem?_cons_succ, List.getElem?_nil, List.map_cons, List.map_nil, List.replicate_succ, List.replicate_zero, List.cons_append, List.nil_append, List.append_nil, atI_0, atI_1, atI_2, atI_3, decide_true, decide_false, Bool.not_true, Bool.not_false, Bool.and_true, Bool.true_and, Bool.and_false, Bool.false_and, Bool.or_true, Bool.true_or, Bool.or_false, Bool.false_or, wipeE, Option.map_some, Option.map_none, List.length_cons, List.length_nil, Nat.zero_add, Nat.reduceAdd, prD]
      · simp only [v_ap, c_ap, un_ap, un_ok, bi_ap, bi1_ok, bi2_ok, cl_ap, cl_ok, cs_ap, cs1_ok, cs2_ok, nil_ap, t_ap, t_ok, an_ap, an_t, an_f, or_ap, or_tt, or_ff, nt_ap, nt_ok, if_ap, iff_t, iff_f, ch_ap, ch1_ok, ch2_ok, ch3_t, ch3_f, ch4_ok, oN_ap, oS_ap, so_ok, sl_ap, sl1_ok, sl2_ok, sl3_ok, fSl_l, fSl_t, iv_ap, iv_l, iv_t, ir_ap, ir_ok, ir_i, ie_ap, ie_l, ie_t, iz_ap, i2_ap, it1_ok, it2_ok, iZz_l, iZz_t, me_ap, me1_ok, me2_ok, nox_ok, isO_d, fPr_o, fFld_o, sq_ap, sq_n, sq_r, sq_b, sq_c, nl_ap, bk_ap, ct_ap, ex_ap, ex_ok, rt_ap, rt_ok, rn_ap, as_ap, as_ok, nw_ap, nw_ok, sf_ap, sf_t, sf_f, pr_ap, pr1_ok, pr2_ok, pt_ap, pt1_ok, pt2_ok, pt3_ok, at_ap, at_ok, oN_some, fo_ap, fo_ok, tgN_ap, tgT_ap, tgs_c, tgs_n, ob_s, funD_ap, fin_d, fin_n, tk_len, tk_app, tk_appc, get_app, set_app, add_ii, add_ll, add_tt, sub_ii, mul_ii, mul_l, mulL_l, mul_t, addL_ll, div_ii, mod_ii, pow_ii, neg_i, lt_ii, le_ii, gt_ii, ge_ii, eq_ii, ne_ii, max_ii, min_ii, isB_bb, notB_bb, ix_t, ix_l, ix_c, ixC_l, oD_s, len_l, len_t, len_s, len_c, lnC_l, rd_d, rd_c, rdC_l, all_tt, tu_l, tu_t, li_l, li_t, in_i, rev_l, rev_t, sum_l, sum_t, all_b, any_b, fTup_0, fTup_1, fTup_2, fTup_3, fTup_4, fTup_5, fLst_0, fLst_1, fLst_2, fLst_3, fLst_4, fLst_5, isi_in, isi_tt, isi_ll, isi_bi, kb_d, kb_n, kb_c, lp_n, lp_c, lp_b, lp_r, isO_d, List.set_cons_zero, List.set_cons_succ, List.getElem?_cons_zero, List.getElem?_cons_succ, List.getElem?_nil, List.map_cons, List.map_nil, List.replicate_succ, List.replicate_zero, List.cons_append, List.nil_append, List.append_nil, atI_0, atI_1, atI_2, atI_3, decide_true, decide_false, Bool.not_true, Bool.not_false, Bool.and_true, Bool.true_and, Bool.and_false, Bool.false_and, Bool.or_true, Bool.true_or, Bool.or_false, Bool.false_or, wipeE, Option.map_some, Option.map_none, List.length_cons, List.length_nil, Nat.zero_add, Nat.reduceAdd, prD]
        rfl
    simp only [v_ap, c_ap, un_ap, un_ok, bi_ap, bi1_ok, bi2_ok, cl_ap, cl_ok, cs_ap, cs1_ok, cs2_ok, nil_ap, t_ap, t_ok, an_ap, an_t, an_f, or_ap, or_tt, or_ff, nt_ap, nt_ok, if_ap, iff_t, iff_f, ch_ap, ch1_ok, ch2_ok, ch3_t, ch3_f, ch4_ok, oN_ap, oS_ap, so_ok, sl_ap, sl1_ok, sl2_ok, sl3_ok, fSl_l, fSl_t, iv_ap, iv_l, iv_t, ir_ap, ir_ok, ir_i, ie_ap, ie_l, ie_t, iz_ap, i2_ap, it1_ok, it2_ok, iZz_l, iZz_t, me_ap, me1_ok, me2_ok, nox_ok, isO_d, fPr_o, fFld_o, sq_ap, sq_n, sq_r, sq_b, sq_c, nl_ap, bk_ap, ct_ap, ex_ap, ex_ok, rt_ap, rt_ok, rn_ap, as_ap, as_ok, nw_ap, nw_ok, sf_ap, sf_t, sf_f, pr_ap, pr1_ok, pr2_ok, pt_ap, pt1_ok, pt2_ok, pt3_ok, at_ap, at_ok, oN_some, fo_ap, fo_ok, tgN_ap, tgT_ap, tgs_c, tgs_n, ob_s, funD_ap, fin_d, fin_n, tk_len, tk_app, tk_appc, get_app, set_app, add_ii, add_ll, add_tt, sub_ii, mul_ii, mul_l, mulL_l, mul_t, addL_ll, div_ii, mod_ii, pow_ii, neg_i, lt_ii, le_ii, gt_ii, ge_ii, eq_ii, ne_ii, max_ii, min_ii, isB_bb, notB_bb, ix_t, ix_l, ix_c, ixC_l, oD_s, len_l, len_t, len_s, len_c, lnC_l, rd_d, rd_c, rdC_l, all_tt, tu_l, tu_t, li_l, li_t, in_i, rev_l, rev_t, sum_l, sum_t, all_b, any_b, fTup_0, fTup_1, fTup_2, fTup_3, fTup_4, fTup_5, fLst_0, fLst_1, fLst_2, fLst_3, fLst_4, fLst_5, isi_in, isi_tt, isi_ll, isi_bi, kb_d, kb_n, kb_c, lp_n, lp_c, lp_b, lp_r, isO_d, List.set_cons_zero, List.set_cons_succ, List.getElem?_cons_zero, List.getElem?_cons_succ, List.getElem?_nil, List.map_cons, List.map_nil, List.replicate_succ, List.replicate_zero, List.cons_append, List.nil_append, List.append_nil, atI_0, atI_1, atI_2, atI_3, decide_true, decide_false, Bool.not_true, Bool.not_false, Bool.and_true, Bool.true_and, Bool.and_false, Bool.false_and, Bool.or_true, Bool.true_or, Bool.or_false, Bool.false_or, wipeE, Option.map_some, Option.map_none, List.length_cons, List.length_nil, Nat.zero_add, Nat.reduceAdd, l4]
    show R.ok (Val.d (.int (cnt rs i))) S3 = _
    rw [cne i]
    rfl
  have ll := length_ex w due S3 (by omega)
  rw [dsum] at ll
  have lc := counts_ex w due S3 (by omega) okd.let0 okd.let1
  have f1 : fit 60 (.tup [.tup (prs due), .int (rs.map (·.2)).sum, .tup ((cns w due).map .int)]) = true := by
    have a := fit_tprs 57 due
    have b := fit_intsT 58 (cns w due)
    simp only [fit, fitL, Bool.and_self, Bool.and_true] at a b ⊢
    rw [a, b]
    rfl
  have n1 := fNe_same _ S3 f1
  generalize hW : (rs.map (·.2)).sum = W at *
  have W0 : 0 ≤ W := by rw [← hW]; exact ok.sum0
  -- the loop
  obtain ⟨Γ', S4, e4, ⟨o5, o12, o13, rfl, d4⟩⟩ := forD_inv (tg := (tgN 5)) (body := (sSeq (sAsg 12 (eCall d__law_far (eCons (eVar 0) (eCons (eVar 11) eNil)))) (sSeq (sIf (eBin fNe (eMeth "Word" d_Word_letter (eVar 10) (eCons (eVar 12) eNil)) (eBin fIx (eBin fIx (eCall d__law_part (eCons (eVar 3) (eCons (eVar 12) (eCons (eC (.int 1)) eNil)))) (eC (.int 0))) (eC (.int 0)))) (sRet (eC (.bl false))) sNil) (sSeq (sAsg 13 (eCall d__law_far (eCons (eVar 0) (eCons (eBin fAdd (eBin fSub (eVar 11) (eVar 12)) (eC (.int 1))) eNil)))) (sIf (eBin fNe (eUn (fPr "Word" d_Word_runs) (eCall d_word_part (eCons (eVar 10) (eCons (eVar 12) (eCons (eVar 13) eNil))))) (eCall d__law_part (eCons (eVar 3) (eCons (eVar 12) (eCons (eVar 13) eNil))))) (sRet (eC (.bl false))) sNil))))) (upto (if 0 < W then 4 else 0))
    (fun i Γ S' => ∃ o5 o12 o13, Γ = [some (.cell 0), some (.d (.int w)), some (.d (.lst (prs rs))), some (.d (.tup (prs due))), some (.d (.lst ((cns w due).map .int))), o5, none, none, none, none, some (.d (wD w due)), some (.d (.int W)), o12, o13, none, none, none, none, none, none] ∧ Dc S')
    (Γ := [some (.cell 0), some (.d (.int w)), some (.d (.lst (prs rs))), some (.d (.tup (prs due))), some (.d (.lst ((cns w due).map .int))), none, none, none, none, none, some (.d (wD w due)), some (.d (.int W)), none, none, none, none, none, none, none, none]) (S := S3) ⟨none, none, none, rfl, d3⟩ (by
      rintro i x Γ S' hx ⟨o5, o12, o13, rfl, d⟩
      obtain ⟨rfl, hi⟩ := upto_get hx
      have hW0 : 0 < W := by
        by_cases q : 0 < W
        · exact q
        · rw [if_neg q] at hi; omega
      obtain ⟨p, Sa, da, p0, p1, ea⟩ := far S' W d hW0 (by omega)
      obtain ⟨m, Sb, db, m0, m1, eb⟩ := far Sa (W - p + 1) da (by omega) (by omega)
      obtain ⟨x, ex1, n, t, ex2⟩ := letterR_ex w due Sa okd p p0 (by rw [dsum]; exact p1)
      have lp := lpart_ex due p 1 Sa (by omega)
      rw [ex2] at lp
      have lp2 := lpart_ex due p m Sb (by omega)
      have wp := word_part_ex w due p m Sb w1' w8' okd p0 (by rw [dsum]; omega) m0 (by rw [dsum]; omega)
      refine ⟨_, rfl, [some (.cell 0), some (.d (.int w)), some (.d (.lst (prs rs))), some (.d (.tup (prs due))), some (.d (.lst ((cns w due).map .int))), some (.d (.int i)), none, none, none, none, some (.d (wD w due)), some (.d (.int W)), some (.d (.int p)), some (.d (.int m)), none, none, none, none, none, none], Sb, .inl ?_, _, _, _, rfl, db⟩
      simp only [v_ap, c_ap, un_ap, un_ok, bi_ap, bi1_ok, bi2_ok, cl_ap, cl_ok, cs_ap, cs1_ok, cs2_ok, nil_ap, t_ap, t_ok, an_ap, an_t, an_f, or_ap, or_tt, or_ff, nt_ap, nt_ok, if_ap, iff_t, iff_f, ch_ap, ch1_ok, ch2_ok, ch3_t, ch3_f, ch4_ok, oN_ap, oS_ap, so_ok, sl_ap, sl1_ok, sl2_ok, sl3_ok, fSl_l, fSl_t, iv_ap, iv_l, iv_t, ir_ap, ir_ok, ir_i, ie_ap, ie_l, ie_t, iz_ap, i2_ap, it1_ok, it2_ok, iZz_l, iZz_t, me_ap, me1_ok, me2_ok, nox_ok, isO_d, fPr_o, fFld_o, sq_ap, sq_n, sq_r, sq_b, sq_c, nl_ap, bk_ap, ct_ap, ex_ap, ex_ok, rt_ap, rt_ok, rn_ap, as_ap, as_ok, nw_ap, nw_ok, sf_ap, sf_t, sf_f, pr_ap, pr1_ok, pr2_ok, pt_ap, pt1_ok, pt2_ok, pt3_ok, at_ap, at_ok, oN_some, fo_ap, fo_ok, tgN_ap, tgT_ap, tgs_c, tgs_n, ob_s, funD_ap, fin_d, fin_n, tk_len, tk_app, tk_appc, get_app, set_app, add_ii, add_ll, add_tt, sub_ii, mul_ii, mul_l, mulL_l, mul_t, addL_ll, div_ii, mod_ii, pow_ii, neg_i, lt_ii, le_ii, gt_ii, ge_ii, eq_ii, ne_ii, max_ii, min_ii, isB_bb, notB_bb, ix_t, ix_l, ix_c, ixC_l, oD_s, len_l, len_t, len_s, len_c, lnC_l, rd_d, rd_c, rdC_l, all_tt, tu_l, tu_t, li_l, li_t, in_i, rev_l, rev_t, sum_l, sum_t, all_b, any_b, fTup_0, fTup_1, fTup_2, fTup_3, fTup_4, fTup_5, fLst_0, fLst_1, fLst_2, fLst_3, fLst_4, fLst_5, isi_in, isi_tt, isi_ll, isi_bi, kb_d, kb_n, kb_c, lp_n, lp_c, lp_b, lp_r, isO_d, List.set_cons_zero, List.set_cons_succ, List.getElem?_cons_zero, List.getElem?_cons_succ, List.getElem?_nil, List.map_cons, List.map_nil, List.replicate_succ, List.replicate_zero, List.cons_append, List.nil_append, List.append_nil, atI_0, atI_1, atI_2, atI_3, decide_true, decide_false, Bool.not_true, Bool.not_false, Bool.and_true, Bool.true_and, Bool.and_false, Bool.false_and, Bool.or_true, Bool.true_or, Bool.or_false, Bool.false_or, wipeE, Option.map_some, Option.map_none, List.length_cons, List.length_nil, Nat.zero_add, Nat.reduceAdd, ea, ex1, lp, prD, eb, wp, runs_ex, lp2, nn_ne])
  have it4 : ∀ Γ, R.ir (R.iff (.ok (decide (0 < W)) S3) (eC (.int 4)) (eC (.int 0)) Γ) = .ok (upto (if 0 < W then 4 else 0)) S3 := fun Γ => by
    by_cases q : 0 < W
    · rw [decide_eq_true q, if_pos q]; exact ir_ok (n := 4) (by omega)
    · rw [decide_eq_false q, if_neg q]; exact ir_ok (n := 0) (by omega)
  obtain ⟨st, S5, d5, s0, s1, e5⟩ := far S4 (W + 1) d4 (by omega) (by omega)
  have wa := word_part_ex w due 0 st S5 w1' w8' okd (by omega) (by rw [dsum]; omega) s0 (by rw [dsum]; omega)
  have wb := word_part_ex w due st (W - st) S5 w1' w8' okd s0 (by rw [dsum]; omega) (by omega) (by rw [dsum]; omega)
  have two := ex_two dpos dalt st s0 (by rw [dsum]; omega)
  rw [dsum] at two
  have la := Nat.le_trans (Pos.alt_len (rs := partR due 0 st)) (partR_len due 0 st)
  have lb := Nat.le_trans (Pos.alt_len (rs := partR due st (W - st))) (partR_len due st (W - st))
  have oka := (okd.part 0 st).lean
  have okb := (okd.part st (W - st)).lean
  have sa : ((leanR (partR due 0 st)).map (·.2)).sum ≤ W := by rw [leanR_sum (nn_part _ _ _), ← dsum]; exact sum_mono_part _ _ _ okd.nn
  have sb : ((leanR (partR due st (W - st))).map (·.2)).sum ≤ W := by rw [leanR_sum (nn_part _ _ _), ← dsum]; exact sum_mono_part _ _ _ okd.nn
  generalize hA : leanR (partR due 0 st) = A at *
  generalize hB : leanR (partR due st (W - st)) = B at *
  have j1 := word_joined_ex w A B S5 w1' w8' oka okb (by omega) (by omega)
  have j2 := word_joined_ex w B A S5 w1' w8' okb oka (by omega) (by omega)
  rw [two] at j1
  have nba : ∀ r ∈ B ++ A, 0 ≤ r.2 := fun r h => (List.mem_append.mp h).elim (okb.nn r) (oka.nn r)
  rw [lean_lean (leanR_pos nba) (leanR_alt _)] at j2
  have eBA : prs B ++ prs A = prs (B ++ A) := (List.map_append ..).symm
  have lba := leaned_ex (B ++ A) (.d (.tup (prs B ++ prs A))) S5 (fun _ _ => by rw [eBA]; rfl) (by rw [List.length_append]; omega)
  have cba : (prs B).length + (prs A).length ≤ 1000000 := by simp; omega
  have c1 := cmp_ne_ex w w due due S5
  simp only [and_self, decide_true, Bool.not_true] at c1
  -- three times
  have hs3 : (due.map (·.2)).sum * ((3 : Nat) : Int) ≤ 10 ^ 64 := by rw [dsum]; omega
  have ro := repR_ok (t := 3) okd (fun _ => by omega) hs3
  have r3 := word_repeated_ex w due ((3 : Nat) : Int) S5 w1' w8' okd (by omega) (by omega) hs3 (fun _ => by omega) ro ro.lean
  have n3 : ∀ r ∈ (List.replicate 3 due).flatten, 0 ≤ r.2 := fun r h => by
    obtain ⟨l, hl, hx⟩ := List.mem_flatten.mp h
    rw [List.eq_of_mem_replicate hl] at hx
    exact okd.nn r hx
  have q3 : leanR (leanR (repR due ((3 : Nat) : Int))) = leanR (List.replicate 3 due).flatten := by
    rw [lean_lean (leanR_pos ro.nn) (leanR_alt _), leanR_rl ro.nn, leanR_rl n3, ex_repR _ _ okd.nn, ex_reps]
  rw [q3] at r3
  have r3 : d_word_repeated [.d (wD w due), .d (.int 3)] S5 = _ := r3
  have m3 : fMul (.d (.tup (prs due))) (.d (.int 3)) S5 = .ok (.d (.tup (prs (List.replicate 3 due).flatten))) S5 := by
    rw [mul_t ⟨by omega, by omega, .inr (by omega), by simp; omega⟩]
    show R.ok (Val.d (D.tup (List.replicate 3 (prs due)).flatten)) S5 = _
    rw [prs_rep]
  have l3' := leaned_ex (List.replicate 3 due).flatten (.d (.tup (prs (List.replicate 3 due).flatten))) S5 (fun _ _ => rfl) (by rw [len_rep]; omega)
  generalize hD3 : (List.replicate 3 due).flatten = D3 at *
  -- turned
  have bk := word_backward_ex w due S5 w1' w8' okd
  rw [lean_lean (fun r h => dpos r (List.mem_reverse.mp h)) dalt.rev] at bk
  have rv : (prs due).reverse = prs due.reverse := (List.map_reverse ..).symm
  have mi := word_mirrored_ex w due S5 w1' w8' okd
  rw [lean_lean (fun r h => by obtain ⟨x, hx, rfl⟩ := List.mem_map.mp h; exact dpos x hx) (alt_mir w dalt)] at mi
  have l5 : (eLc (itV (eVar 3)) [16, 13] (tgT (tgsCons (tgN 16) (tgsCons (tgN 13) tgsNil))) tYesD (eCall fTup (eCons (eBin fSub (eBin fSub (eVar 1) (eC (.int 1))) (eVar 16)) (eCons (eVar 13) eNil)))) [some (.cell 0), some (.d (.int w)), some (.d (.lst (prs rs))), some (.d (.tup (prs due))), some (.d (.lst ((cns w due).map .int))), o5, some (.d (.int st)), none, none, none, some (.d (wD w due)), some (.d (.int W)), o12, o13, some (.d (wD w A)), some (.d (wD w B)), none, none, none, none] S5 = .ok (.d (.lst (prs (mirR w due)))) S5 := by
    refine Eq.trans (lc_map' due prD (fun r => prD ((w : Int) - 1 - r.1, r.2)) (by simp only [v_ap, c_ap, un_ap, un_ok, bi_ap, bi1_ok, bi2_ok, cl_ap, cl_ok, cs_ap, cs1_ok, cs2_ok, nil_ap, t_ap, t_ok, an_ap, an_t, an_f, or_ap, or_tt, or_ff, nt_ap, nt_ok, if_ap, iff_t, iff_f, ch_ap, ch1_ok, ch2_ok, ch3_t, ch3_f, ch4_ok, oN_ap, oS_ap, so_ok, sl_ap, sl1_ok, sl2_ok, sl3_ok, fSl_l, fSl_t, iv_ap, iv_l, iv_t, ir_ap, ir_ok, ir_i, ie_ap, ie_l, ie_t, iz_ap, i2_ap, it1_ok, it2_ok, iZz_l, iZz_t, me_ap, me1_ok, me2_ok, nox_ok, isO_d, fPr_o, fFld_o, sq_ap, sq_n, sq_r, sq_b, sq_c, nl_ap, bk_ap, ct_ap, ex_ap, ex_ok, rt_ap, rt_ok, rn_ap, as_ap, as_ok, nw_ap, nw_ok, sf_ap, sf_t, sf_f, pr_ap, pr1_ok, pr2_ok, pt_ap, pt1_ok, pt2_ok, pt3_ok, at_ap, at_ok, oN_some, fo_ap, fo_ok, tgN_ap, tgT_ap, tgs_c, tgs_n, ob_s, funD_ap, fin_d, fin_n, tk_len, tk_app, tk_appc, get_app, set_app, add_ii, add_ll, add_tt, sub_ii, mul_ii, mul_l, mulL_l, mul_t, addL_ll, div_ii, mod_ii, pow_ii, neg_i, lt_ii, le_ii, gt_ii, ge_ii, eq_ii, ne_ii, max_ii, min_ii, isB_bb, notB_bb, ix_t, ix_l, ix_c, ixC_l, oD_s, len_l, len_t, len_s, len_c, lnC_l, rd_d, rd_c, rdC_l, all_tt, tu_l, tu_t, li_l, li_t, in_i, rev_l, rev_t, sum_l, sum_t, all_b, any_b, fTup_0, fTup_1, fTup_2, fTup_3, fTup_4, fTup_5, fLst_0, fLst_1, fLst_2, fLst_3, fLst_4, fLst_5, isi_in, isi_tt, isi_ll, isi_bi, kb_d, kb_n, kb_c, lp_n, lp_c, lp_b, lp_r, isO_d, List.set_cons_zero, List.set_cons_succ, List.getElem?_cons_zero, List.getElem?_cons_succ, List.getElem?_nil, List.map_cons, List.map_nil, List.replicate_succ, List.replicate_zero, List.cons_append, List.nil_append, List.append_nil, atI_0, atI_1, atI_2, atI_3, decide_true, decide_false, Bool.not_true, Bool.not_false, Bool.and_true, Bool.true_and, Bool.and_false, Bool.false_and, Bool.or_true, Bool.true_or, Bool.or_false, Bool.false_or, wipeE, Option.map_some, Option.map_none, List.length_cons, List.length_nil, Nat.zero_add, Nat.reduceAdd]) (by omega) fun r hr => ⟨_, rfl, rfl, ?_⟩) (by simp only [prs, mirR, List.map_map]; rfl)
    simp only [v_ap, c_ap, un_ap, un_ok, bi_ap, bi1_ok, bi2_ok, cl_ap, cl_ok, cs_ap, cs1_ok, cs2_ok, nil_ap, t_ap, t_ok, an_ap, an_t, an_f, or_ap, or_tt, or_ff, nt_ap, nt_ok, if_ap, iff_t, iff_f, ch_ap, ch1_ok, ch2_ok, ch3_t, ch3_f, ch4_ok, oN_ap, oS_ap, so_ok, sl_ap, sl1_ok, sl2_ok, sl3_ok, fSl_l, fSl_t, iv_ap, iv_l, iv_t, ir_ap, ir_ok, ir_i, ie_ap, ie_l, ie_t, iz_ap, i2_ap, it1_ok, it2_ok, iZz_l, iZz_t, me_ap, me1_ok, me2_ok, nox_ok, isO_d, fPr_o, fFld_o, sq_ap, sq_n, sq_r, sq_b, sq_c, nl_ap, bk_ap, ct_ap, ex_ap, ex_ok, rt_ap, rt_ok, rn_ap, as_ap, as_ok, nw_ap, nw_ok, sf_ap, sf_t, sf_f, pr_ap, pr1_ok, pr2_ok, pt_ap, pt1_ok, pt2_ok, pt3_ok, at_ap, at_ok, oN_some, fo_ap, fo_ok, tgN_ap, tgT_ap, tgs_c, tgs_n, ob_s, funD_ap, fin_d, fin_n, tk_len, tk_app, tk_appc, get_app, set_app, add_ii, add_ll, add_tt, sub_ii, mul_ii, mul_l, mulL_l, mul_t, addL_ll, div_ii, mod_ii, pow_ii, neg_i, lt_ii, le_ii, gt_ii, ge_ii, eq_ii, ne_ii, max_ii, min_ii, isB_bb, notB_bb, ix_t, ix_l, ix_c, ixC_l, oD_s, len_l, len_t, len_s, len_c, lnC_l, rd_d, rd_c, rdC_l, all_tt, tu_l, tu_t, li_l, li_t, in_i, rev_l, rev_t, sum_l, sum_t, all_b, any_b, fTup_0, fTup_1, fTup_2, fTup_3, fTup_4, fTup_5, fLst_0, fLst_1, fLst_2, fLst_3, fLst_4, fLst_5, isi_in, isi_tt, isi_ll, isi_bi, kb_d, kb_n, kb_c, lp_n, lp_c, lp_b, lp_r, isO_d, List.set_cons_zero, List.set_cons_succ, List.getElem?_cons_zero, List.getElem?_cons_succ, List.getElem?_nil, List.map_cons, List.map_nil, List.replicate_succ, List.replicate_zero, List.cons_append, List.nil_append, List.append_nil, atI_0, atI_1, atI_2, atI_3, decide_true, decide_false, Bool.not_true, Bool.not_false, Bool.and_true, Bool.true_and, Bool.and_false, Bool.false_and, Bool.or_true, Bool.true_or, Bool.or_false, Bool.false_or, wipeE, Option.map_some, Option.map_none, List.length_cons, List.length_nil, Nat.zero_add, Nat.reduceAdd, prD]
  obtain ⟨lo, S6, d6, y0, y1, e6⟩ := roll S5 (w + 1) d5 (by omega) (by omega)
  have l6 : (eLc (itV (eVar 3)) [18] (tgN 18) (eTest (eBin fGe (eBin fIx (eVar 18) (eC (.int 0))) (eVar 7))) (eVar 18)) [some (.cell 0), some (.d (.int w)), some (.d (.lst (prs rs))), some (.d (.tup (prs due))), some (.d (.lst ((cns w due).map .int))), o5, some (.d (.int st)), some (.d (.int lo)), none, none, some (.d (wD w due)), some (.d (.int W)), o12, o13, some (.d (wD w A)), some (.d (wD w B)), none, none, none, none] S6 = .ok (.d (.lst (prs (due.filter fun r => decide (lo ≤ r.1))))) S6 := by
    refine lc_fil' due prD _ _ (by simp only [v_ap, c_ap, un_ap, un_ok, bi_ap, bi1_ok, bi2_ok, cl_ap, cl_ok, cs_ap, cs1_ok, cs2_ok, nil_ap, t_ap, t_ok, an_ap, an_t, an_f, or_ap, or_tt, or_ff, nt_ap, nt_ok, if_ap, iff_t, iff_f, ch_ap, ch1_ok, ch2_ok, ch3_t, ch3_f, ch4_ok, oN_ap, oS_ap, so_ok, sl_ap, sl1_ok, sl2_ok, sl3_ok, fSl_l, fSl_t, iv_ap, iv_l, iv_t, ir_ap, ir_ok, ir_i, ie_ap, ie_l, ie_t, iz_ap, i2_ap, it1_ok, it2_ok, iZz_l, iZz_t, me_ap, me1_ok, me2_ok, nox_ok, isO_d, fPr_o, fFld_o, sq_ap, sq_n, sq_r, sq_b, sq_c, nl_ap, bk_ap, ct_ap, ex_ap, ex_ok, rt_ap, rt_ok, rn_ap, as_ap, as_ok, nw_ap, nw_ok, sf_ap, sf_t, sf_f, pr_ap, pr1_ok, pr2_ok, pt_ap, pt1_ok, pt2_ok, pt3_ok, at_ap, at_ok, oN_some, fo_ap, fo_ok, tgN_ap, tgT_ap, tgs_c, tgs_n, ob_s, funD_ap, fin_d, fin_n, tk_len, tk_app, tk_appc, get_app, set_app, add_ii, add_ll, add_tt, sub_ii, mul_ii, mul_l, mulL_l, mul_t, addL_ll, div_ii, mod_ii, pow_ii, neg_i, lt_ii, le_ii, gt_ii, ge_ii, eq_ii, ne_ii, max_ii, min_ii, isB_bb, notB_bb, ix_t, ix_l, ix_c, ixC_l, oD_s, len_l, len_t, len_s, len_c, lnC_l, rd_d, rd_c, rdC_l, all_tt, tu_l, tu_t, li_l, li_t, in_i, rev_l, rev_t, sum_l, sum_t, all_b, any_b, fTup_0, fTup_1, fTup_2, fTup_3, fTup_4, fTup_5, fLst_0, fLst_1, fLst_2, fLst_3, fLst_4, fLst_5, isi_in, isi_tt, isi_ll, isi_bi, kb_d, kb_n, kb_c, lp_n, lp_c, lp_b, lp_r, isO_d, List.set_cons_zero, List.set_cons_succ, List.getElem?_cons_zero, List.getElem?_cons_succ, List.getElem?_nil, List.map_cons, List.map_nil, List.replicate_succ, List.replicate_zero, List.cons_append, List.nil_append, List.append_nil, atI_0, atI_1, atI_2, atI_3, decide_true, decide_false, Bool.not_true, Bool.not_false, Bool.and_true, Bool.true_and, Bool.and_false, Bool.false_and, Bool.or_true, Bool.true_or, Bool.or_false, Bool.false_or, wipeE, Option.map_some, Option.map_none, List.length_cons, List.length_nil, Nat.zero_add, Nat.reduceAdd]) (by omega) fun r hr => ⟨_, rfl, ?_, fun _ => rfl⟩
    simp only [v_ap, c_ap, un_ap, un_ok, bi_ap, bi1_ok, bi2_ok, cl_ap, cl_ok, cs_ap, cs1_ok, cs2_ok, nil_ap, t_ap, t_ok, an_ap, an_t, an_f, or_ap, or_tt, or_ff, nt_ap, nt_ok, if_ap, iff_t, iff_f, ch_ap, ch1_ok, ch2_ok, ch3_t, ch3_f, ch4_ok, oN_ap, oS_ap, so_ok, sl_ap, sl1_ok, sl2_ok, sl3_ok, fSl_l, fSl_t, iv_ap, iv_l, iv_t, ir_ap, ir_ok, ir_i, ie_ap, ie_l, ie_t, iz_ap, i2_ap, it1_ok, it2_ok, iZz_l, iZz_t, me_ap, me1_ok, me2_ok, nox_ok, isO_d, fPr_o, fFld_o, sq_ap, sq_n, sq_r, sq_b, sq_c, nl_ap, bk_ap, ct_ap, ex_ap, ex_ok, rt_ap, rt_ok, rn_ap, as_ap, as_ok, nw_ap, nw_ok, sf_ap, sf_t, sf_f, pr_ap, pr1_ok, pr2_ok, pt_ap, pt1_ok, pt2_ok, pt3_ok, at_ap, at_ok, oN_some, fo_ap, fo_ok, tgN_ap, tgT_ap, tgs_c, tgs_n, ob_s, funD_ap, fin_d, fin_n, tk_len, tk_app, tk_appc, get_app, set_app, add_ii, add_ll, add_tt, sub_ii, mul_ii, mul_l, mulL_l, mul_t, addL_ll, div_ii, mod_ii, pow_ii, neg_i, lt_ii, le_ii, gt_ii, ge_ii, eq_ii, ne_ii, max_ii, min_ii, isB_bb, notB_bb, ix_t, ix_l, ix_c, ixC_l, oD_s, len_l, len_t, len_s, len_c, lnC_l, rd_d, rd_c, rdC_l, all_tt, tu_l, tu_t, li_l, li_t, in_i, rev_l, rev_t, sum_l, sum_t, all_b, any_b, fTup_0, fTup_1, fTup_2, fTup_3, fTup_4, fTup_5, fLst_0, fLst_1, fLst_2, fLst_3, fLst_4, fLst_5, isi_in, isi_tt, isi_ll, isi_bi, kb_d, kb_n, kb_c, lp_n, lp_c, lp_b, lp_r, isO_d, List.set_cons_zero, List.set_cons_succ, List.getElem?_cons_zero, List.getElem?_cons_succ, List.getElem?_nil, List.map_cons, List.map_nil, List.replicate_succ, List.replicate_zero, List.cons_append, List.nil_append, List.append_nil, atI_0, atI_1, atI_2, atI_3, decide_true, decide_false, Bool.not_true, Bool.not_false, Bool.and_true, Bool.true_and, Bool.and_false, Bool.false_and, Bool.or_true, Bool.true_or, Bool.or_false, Bool.false_or, wipeE, Option.map_some, Option.map_none, List.length_cons, List.length_nil, Nat.zero_add, Nat.reduceAdd, prD]
  have bt := word_between_ex w due lo w S6 w1' w8' okd y0 (by omega) (by omega) (by omega)
  have fl : due.filter (fun r => decide (lo ≤ r.1 ∧ r.1 < (w : Int))) = due.filter (fun r => decide (lo ≤ r.1)) := by
    refine List.filter_congr fun r hr => ?_
    have := okd.let1 r hr
    simp [this]
  rw [fl] at bt
  have l7 := leaned_ex (due.filter fun r => decide (lo ≤ r.1)) (.d (.lst (prs (due.filter fun r => decide (lo ≤ r.1))))) S6 (fun _ _ => rfl) (Nat.le_trans (List.length_filter_le _ _) (by omega))
  -- one run
  obtain ⟨l, S7, d7, l0, l1', e7⟩ := roll S6 w d6 (by omega) (by omega)
  obtain ⟨m', S8, d8, m0, m1', e8⟩ := far S7 (10 ^ 30) d7 (by omega) (by omega)
  obtain ⟨t', S9, d9, t0, t1, e9⟩ := far S8 (10 ^ 33) d8 (by omega) (by omega)
  obtain ⟨t, rfl⟩ : ∃ t : Nat, t' = t := ⟨t'.toNat, by omega⟩
  obtain ⟨m, hm⟩ : ∃ m : Int, 1 + m' = m := ⟨_, rfl⟩
  have ok9 : OkR w [(l, m)] := .of (by simp) (fun r h => by rw [List.mem_singleton.mp h]; exact ⟨l0, l1', by show 1 ≤ m; omega⟩) (by simp; omega)
  have mt : m * (t : Int) ≤ 10 ^ 30 * 10 ^ 33 := Int.mul_le_mul (by omega) (by omega) (by omega) (by omega)
  have mt0 : 0 ≤ m * (t : Int) := Int.mul_nonneg (by omega) (by omega)
  have z63 : (10 : Int) ^ 30 * 10 ^ 33 ≤ 10 ^ 64 := by decide
  have hs9 : (([(l, m)] : Rn).map (·.2)).sum * (t : Int) ≤ 10 ^ 64 := by
    show (m + 0) * (t : Int) ≤ _
    rw [Int.add_zero]
    omega
  have ro9 := repR_ok (t := t) ok9 (fun h => by simp at h) hs9
  have k9 := mk_ex w [(l, m)] S9 w1' w8' ok9
  rw [lean_lean ok9.pos True.intro] at k9
  have k9 : mkO "Word" d_Word___init__ [.d (.int w), .d (.tup [.tup [.int l, .int m]])] S9 = .ok (.d (.obj "Word" [.tup [.tup [.int l, .int m]], .int w])) S9 := k9
  have r9 := word_repeated_ex w [(l, m)] t S9 w1' w8' ok9 (by omega) (by omega) hs9 (fun h => by simp at h) ro9 ro9.lean
  have n9 : ∀ r ∈ ([(l, m * (t : Int))] : Rn), 0 ≤ r.2 := fun r h => by rw [List.mem_singleton.mp h]; exact mt0
  have q9 : leanR (leanR (repR [(l, m)] (t : Int))) = leanR [(l, m * (t : Int))] := by
    rw [lean_lean (leanR_pos ro9.nn) (leanR_alt _), leanR_rl ro9.nn, leanR_rl n9, ex_repR _ _ ok9.nn]
    congr 1
    show (List.replicate t (List.replicate m.toNat l ++ [])).flatten = List.replicate (m * (t : Int)).toNat l ++ []
    rw [List.append_nil, List.append_nil, rep_rep]
    congr 1
    obtain ⟨k, hk⟩ : ∃ k : Nat, m = k := ⟨m.toNat, by omega⟩
    rw [hk, ← Int.natCast_mul, Int.toNat_natCast, Int.toNat_natCast]
  rw [q9] at r9
  have r9 : d_word_repeated [.d (.obj "Word" [.tup [.tup [.int l, .int m]], .int w]), .d (.int t)] S9 = _ := r9
  have e70 : (10 : Nat) ^ 70 = 10000000000000000000000000000000000000000000000000000000000000000000000 := by decide
  have mk9 : mulOk m (t : Int) = true := mulOk_b (int_big (by omega)) (int_big (by omega))
  have l9 := leaned_ex [(l, m * (t : Int))] (.d (.lst [.tup [.int l, .int (m * (t : Int))]])) S9 (fun _ _ => rfl) (by simp)
  refine ⟨S9, d9, ?_⟩
  unfold d__law_right
  simp only [v_ap, c_ap, un_ap, un_ok, bi_ap, bi1_ok, bi2_ok, cl_ap, cl_ok, cs_ap, cs1_ok, cs2_ok, nil_ap, t_ap, t_ok, an_ap, an_t, an_f, or_ap, or_tt, or_ff, nt_ap, nt_ok, if_ap, iff_t, iff_f, ch_ap, ch1_ok, ch2_ok, ch3_t, ch3_f, ch4_ok, oN_ap, oS_ap, so_ok, sl_ap, sl1_ok, sl2_ok, sl3_ok, fSl_l, fSl_t, iv_ap, iv_l, iv_t, ir_ap, ir_ok, ir_i, ie_ap, ie_l, ie_t, iz_ap, i2_ap, it1_ok, it2_ok, iZz_l, iZz_t, me_ap, me1_ok, me2_ok, nox_ok, isO_d, fPr_o, fFld_o, sq_ap, sq_n, sq_r, sq_b, sq_c, nl_ap, bk_ap, ct_ap, ex_ap, ex_ok, rt_ap, rt_ok, rn_ap, as_ap, as_ok, nw_ap, nw_ok, sf_ap, sf_t, sf_f, pr_ap, pr1_ok, pr2_ok, pt_ap, pt1_ok, pt2_ok, pt3_ok, at_ap, at_ok, oN_some, fo_ap, fo_ok, tgN_ap, tgT_ap, tgs_c, tgs_n, ob_s, funD_ap, fin_d, fin_n, tk_len, tk_app, tk_appc, get_app, set_app, add_ii, add_ll, add_tt, sub_ii, mul_ii, mul_l, mulL_l, mul_t, addL_ll, div_ii, mod_ii, pow_ii, neg_i, lt_ii, le_ii, gt_ii, ge_ii, eq_ii, ne_ii, max_ii, min_ii, isB_bb, notB_bb, ix_t, ix_l, ix_c, ixC_l, oD_s, len_l, len_t, len_s, len_c, lnC_l, rd_d, rd_c, rdC_l, all_tt, tu_l, tu_t, li_l, li_t, in_i, rev_l, rev_t, sum_l, sum_t, all_b, any_b, fTup_0, fTup_1, fTup_2, fTup_3, fTup_4, fTup_5, fLst_0, fLst_1, fLst_2, fLst_3, fLst_4, fLst_5, isi_in, isi_tt, isi_ll, isi_bi, kb_d, kb_n, kb_c, lp_n, lp_c, lp_b, lp_r, isO_d, List.set_cons_zero, List.set_cons_succ, List.getElem?_cons_zero, List.getElem?_cons_succ, List.getElem?_nil, List.map_cons, List.map_nil, List.replicate_succ, List.replicate_zero, List.cons_append, List.nil_append, List.append_nil, atI_0, atI_1, atI_2, atI_3, decide_true, decide_false, Bool.not_true, Bool.not_false, Bool.and_true, Bool.true_and, Bool.and_false, Bool.false_and, Bool.or_true, Bool.true_or, Bool.or_false, Bool.false_or, wipeE, Option.map_some, Option.map_none, List.length_cons, List.length_nil, Nat.zero_add, Nat.reduceAdd, e1, hw, l1, m1, l2, le1, l3, runs_ex, ll, lc, n1, it4, e4, hW]
  simp only [v_ap, c_ap, un_ap, un_ok, bi_ap, bi1_ok, bi2_ok, cl_ap, cl_ok, cs_ap, cs1_ok, cs2_ok, nil_ap, t_ap, t_ok, an_ap, an_t, an_f, or_ap, or_tt, or_ff, nt_ap, nt_ok, if_ap, iff_t, iff_f, ch_ap, ch1_ok, ch2_ok, ch3_t, ch3_f, ch4_ok, oN_ap, oS_ap, so_ok, sl_ap, sl1_ok, sl2_ok, sl3_ok, fSl_l, fSl_t, iv_ap, iv_l, iv_t, ir_ap, ir_ok, ir_i, ie_ap, ie_l, ie_t, iz_ap, i2_ap, it1_ok, it2_ok, iZz_l, iZz_t, me_ap, me1_ok, me2_ok, nox_ok, isO_d, fPr_o, fFld_o, sq_ap, sq_n, sq_r, sq_b, sq_c, nl_ap, bk_ap, ct_ap, ex_ap, ex_ok, rt_ap, rt_ok, rn_ap, as_ap, as_ok, nw_ap, nw_ok, sf_ap, sf_t, sf_f, pr_ap, pr1_ok, pr2_ok, pt_ap, pt1_ok, pt2_ok, pt3_ok, at_ap, at_ok, oN_some, fo_ap, fo_ok, tgN_ap, tgT_ap, tgs_c, tgs_n, ob_s, funD_ap, fin_d, fin_n, tk_len, tk_app, tk_appc, get_app, set_app, add_ii, add_ll, add_tt, sub_ii, mul_ii, mul_l, mulL_l, mul_t, addL_ll, div_ii, mod_ii, pow_ii, neg_i, lt_ii, le_ii, gt_ii, ge_ii, eq_ii, ne_ii, max_ii, min_ii, isB_bb, notB_bb, ix_t, ix_l, ix_c, ixC_l, oD_s, len_l, len_t, len_s, len_c, lnC_l, rd_d, rd_c, rdC_l, all_tt, tu_l, tu_t, li_l, li_t, in_i, rev_l, rev_t, sum_l, sum_t, all_b, any_b, fTup_0, fTup_1, fTup_2, fTup_3, fTup_4, fTup_5, fLst_0, fLst_1, fLst_2, fLst_3, fLst_4, fLst_5, isi_in, isi_tt, isi_ll, isi_bi, kb_d, kb_n, kb_c, lp_n, lp_c, lp_b, lp_r, isO_d, List.set_cons_zero, List.set_cons_succ, List.getElem?_cons_zero, List.getElem?_cons_succ, List.getElem?_nil, List.map_cons, List.map_nil, List.replicate_succ, List.replicate_zero, List.cons_append, List.nil_append, List.append_nil, atI_0, atI_1, atI_2, atI_3, decide_true, decide_false, Bool.not_true, Bool.not_false, Bool.and_true, Bool.true_and, Bool.and_false, Bool.false_and, Bool.or_true, Bool.true_or, Bool.or_false, Bool.false_or, wipeE, Option.map_some, Option.map_none, List.length_cons, List.length_nil, Nat.zero_add, Nat.reduceAdd, e5, wa, wb, j1, j2, c1, runs_ex, cba, lba, nn_ne, r3, m3, l3', bk, rv, mi, l5]
  simp only [v_ap, c_ap, un_ap, un_ok, bi_ap, bi1_ok, bi2_ok, cl_ap, cl_ok, cs_ap, cs1_ok, cs2_ok, nil_ap, t_ap, t_ok, an_ap, an_t, an_f, or_ap, or_tt, or_ff, nt_ap, nt_ok, if_ap, iff_t, iff_f, ch_ap, ch1_ok, ch2_ok, ch3_t, ch3_f, ch4_ok, oN_ap, oS_ap, so_ok, sl_ap, sl1_ok, sl2_ok, sl3_ok, fSl_l, fSl_t, iv_ap, iv_l, iv_t, ir_ap, ir_ok, ir_i, ie_ap, ie_l, ie_t, iz_ap, i2_ap, it1_ok, it2_ok, iZz_l, iZz_t, me_ap, me1_ok, me2_ok, nox_ok, isO_d, fPr_o, fFld_o, sq_ap, sq_n, sq_r, sq_b, sq_c, nl_ap, bk_ap, ct_ap, ex_ap, ex_ok, rt_ap, rt_ok, rn_ap, as_ap, as_ok, nw_ap, nw_ok, sf_ap, sf_t, sf_f, pr_ap, pr1_ok, pr2_ok, pt_ap, pt1_ok, pt2_ok, pt3_ok, at_ap, at_ok, oN_some, fo_ap, fo_ok, tgN_ap, tgT_ap, tgs_c, tgs_n, ob_s, funD_ap, fin_d, fin_n, tk_len, tk_app, tk_appc, get_app, set_app, add_ii, add_ll, add_tt, sub_ii, mul_ii, mul_l, mulL_l, mul_t, addL_ll, div_ii, mod_ii, pow_ii, neg_i, lt_ii, le_ii, gt_ii, ge_ii, eq_ii, ne_ii, max_ii, min_ii, isB_bb, notB_bb, ix_t, ix_l, ix_c, ixC_l, oD_s, len_l, len_t, len_s, len_c, lnC_l, rd_d, rd_c, rdC_l, all_tt, tu_l, tu_t, li_l, li_t, in_i, rev_l, rev_t, sum_l, sum_t, all_b, any_b, fTup_0, fTup_1, fTup_2, fTup_3, fTup_4, fTup_5, fLst_0, fLst_1, fLst_2, fLst_3, fLst_4, fLst_5, isi_in, isi_tt, isi_ll, isi_bi, kb_d, kb_n, kb_c, lp_n, lp_c, lp_b, lp_r, isO_d, List.set_cons_zero, List.set_cons_succ, List.getElem?_cons_zero, List.getElem?_cons_succ, List.getElem?_nil, List.map_cons, List.map_nil, List.replicate_succ, List.replicate_zero, List.cons_append, List.nil_append, List.append_nil, atI_0, atI_1, atI_2, atI_3, decide_true, decide_false, Bool.not_true, Bool.not_false, Bool.and_true, Bool.true_and, Bool.and_false, Bool.false_and, Bool.or_true, Bool.true_or, Bool.or_false, Bool.false_or, wipeE, Option.map_some, Option.map_none, List.length_cons, List.length_nil, Nat.zero_add, Nat.reduceAdd, e6, l6, l7, bt, runs_ex, nn_ne, p30, p33, e30, e33, e7, e8, e9, hm, k9, r9, mk9, l9, nn_eq, hS.tk d9]
end L04


namespace L04
open PySem L2 Pd Pq
theorem law_den (ns : List Int) (h : ns.length ≤ 63) : d_law [.d (.scr ns)] [] = .ok (.d (.bl true)) [] := by
  have i0 : 0 ≤ max 1 (min 4 (ns.length : Int)) := by omega
  have i1 : max 1 (min 4 (ns.length : Int)) ≤ 1000000 := by omega
  obtain ⟨Γ', S', e, ⟨o1, o3, rfl, rfl⟩⟩ := forD_inv (tg := (tgN 1)) (body := (sSeq (sNew 3 (eCall d__law_dice (eCons (eVar 0) (eCons (eVar 1) eNil)))) (sSeq (sIf (eOr (eNot (eCall d__law_right (eCons (eVar 3) eNil))) (eNot (eCall d__law_right (eCons (eVar 3) eNil)))) (sRet (eC (.bl false))) sNil) (sSeq (sFrz 0 3) sNil)))) (upto (max 1 (min 4 (ns.length : Int))).toNat)
    (fun i Γ S' => ∃ (o1 o3 : Option D), Γ = [some (.d (.scr ns)), o1.map .d, none, o3.map .d] ∧ S' = []) (Γ := [some (.d (.scr ns)), none, none, none]) (S := []) ⟨none, none, rfl, rfl⟩ (by
      rintro i x Γ S' hx ⟨o1, o3, rfl, rfl⟩
      obtain ⟨rfl, hi⟩ := upto_get hx
      obtain ⟨a, b, c, e1⟩ := dice_ex ns i []
      obtain ⟨S2, d2, e2⟩ := right_ex [dice a b c] ⟨a, b, c, rfl⟩
      obtain ⟨S3, d3, e3⟩ := right_ex S2 d2
      obtain ⟨a2, b2, c2, rfl⟩ := d3
      have fz : sFrz 0 3 [some (.d (.scr ns)), some (.d (.int i)), none, some (.cell 0)] [dice a2 b2 c2] = .nx [some (.d (.scr ns)), some (.d (.int i)), none, some (.d (.lst [.int a2, .int b2, .int c2]))] [] := rfl
      have l0 : List.length ([] : Store) = 0 := rfl
      refine ⟨_, rfl, [some (.d (.scr ns)), some (.d (.int i)), none, some (.d (.lst [.int a2, .int b2, .int c2]))], [], .inl ?_, some (.int i), some (.lst [.int a2, .int b2, .int c2]), rfl, rfl⟩
      simp only [v_ap, c_ap, un_ap, un_ok, bi_ap, bi1_ok, bi2_ok, cl_ap, cl_ok, cs_ap, cs1_ok, cs2_ok, nil_ap, t_ap, t_ok, an_ap, an_t, an_f, or_ap, or_tt, or_ff, nt_ap, nt_ok, if_ap, iff_t, iff_f, ch_ap, ch1_ok, ch2_ok, ch3_t, ch3_f, ch4_ok, oN_ap, oS_ap, so_ok, sl_ap, sl1_ok, sl2_ok, sl3_ok, fSl_l, fSl_t, iv_ap, iv_l, iv_t, ir_ap, ir_ok, ir_i, ie_ap, ie_l, ie_t, iz_ap, i2_ap, it1_ok, it2_ok, iZz_l, iZz_t, me_ap, me1_ok, me2_ok, nox_ok, isO_d, fPr_o, fFld_o, sq_ap, sq_n, sq_r, sq_b, sq_c, nl_ap, bk_ap, ct_ap, ex_ap, ex_ok, rt_ap, rt_ok, rn_ap, as_ap, as_ok, nw_ap, nw_ok, sf_ap, sf_t, sf_f, pr_ap, pr1_ok, pr2_ok, pt_ap, pt1_ok, pt2_ok, pt3_ok, at_ap, at_ok, oN_some, fo_ap, fo_ok, tgN_ap, tgT_ap, tgs_c, tgs_n, ob_s, funD_ap, fin_d, fin_n, tk_len, tk_app, tk_appc, get_app, set_app, add_ii, add_ll, add_tt, sub_ii, mul_ii, mul_l, mulL_l, mul_t, addL_ll, div_ii, mod_ii, pow_ii, neg_i, lt_ii, le_ii, gt_ii, ge_ii, eq_ii, ne_ii, max_ii, min_ii, isB_bb, notB_bb, ix_t, ix_l, ix_c, ixC_l, oD_s, len_l, len_t, len_s, len_c, lnC_l, rd_d, rd_c, rdC_l, all_tt, tu_l, tu_t, li_l, li_t, in_i, rev_l, rev_t, sum_l, sum_t, all_b, any_b, fTup_0, fTup_1, fTup_2, fTup_3, fTup_4, fTup_5, fLst_0, fLst_1, fLst_2, fLst_3, fLst_4, fLst_5, isi_in, isi_tt, isi_ll, isi_bi, kb_d, kb_n, kb_c, lp_n, lp_c, lp_b, lp_r, isO_d, List.set_cons_zero, List.set_cons_succ, List.getElem?_cons_zero, List.getElem?_cons_succ, List.getElem?_nil, List.map_cons, List.map_nil, List.replicate_succ, List.replicate_zero, List.cons_append, List.nil_append, List.append_nil, atI_0, atI_1, atI_2, atI_3, decide_true, decide_false, Bool.not_true, Bool.not_false, Bool.and_true, Bool.true_and, Bool.and_false, Bool.false_and, Bool.or_true, Bool.true_or, Bool.or_false, Bool.false_or, wipeE, Option.map_some, Option.map_none, List.length_cons, List.length_nil, Nat.zero_add, Nat.reduceAdd, e1, l0, e2, e3, fz])
  have p50 : powOk 10 50 = true := powOk_l (by decide) (by decide) (by decide)
  have e50 : (10 : Int) ^ Int.toNat 50 = 100000000000000000000000000000000000000000000000000 := by decide
  have ok1 : OkR 2 [(1, 100000000000000000000000000000000000000000000000000), (0, 1)] := .of (by decide) (by decide) (by decide)
  have a1 : Alt [(1, 100000000000000000000000000000000000000000000000000), (0, 1)] := ⟨by decide, True.intro⟩
  have m1 := fun S => mk_ex 2 _ S (by decide) (by decide) ok1
  rw [lean_lean ok1.pos a1] at m1
  have hs : (([(1, 100000000000000000000000000000000000000000000000000), (0, 1)] : Rn).map (·.2)).sum * ((2 : Nat) : Int) ≤ 10 ^ 64 := by decide
  have ro := repR_ok (t := 2) ok1 (fun _ => by decide) hs
  have m2 := fun S => word_repeated_ex 2 _ ((2 : Nat) : Int) S (by decide) (by decide) ok1 (by decide) (by decide) hs (fun _ => by decide) ro ro.lean
  have s2 : ((leanR (leanR (repR [(1, 100000000000000000000000000000000000000000000000000), (0, 1)] ((2 : Nat) : Int)))).map (·.2)).sum = 200000000000000000000000000000000000000000000000002 := by
    rw [leanR_sum ro.lean.nn, leanR_sum ro.nn]
    decide
  have m3 := fun S => length_ex 2 (leanR (leanR (repR [(1, 100000000000000000000000000000000000000000000000000), (0, 1)] ((2 : Nat) : Int)))) S (by have := ro.lean.lean.len; omega)
  rw [s2] at m3
  obtain ⟨x, m4, n, t, e4⟩ := letterR_ex 2 _ [] ok1 100000000000000000000000000000000000000000000000000 (by decide) (by decide)
  have hx : x = 0 := by
    have : leanR (partR [(1, 100000000000000000000000000000000000000000000000000), (0, 1)] 100000000000000000000000000000000000000000000000000 1) = [(0, 1)] := by decide
    rw [this] at e4
    injection e4 with e5 e6
    injection e5 with e7 e8
    exact e7.symm
  rw [hx] at m4
  generalize hR : leanR (leanR (repR [(1, 100000000000000000000000000000000000000000000000000), (0, 1)] ((2 : Nat) : Int))) = R2 at *
  have m1 : ∀ S, mkO "Word" d_Word___init__ [.d (.int 2), .d (.tup [.tup [.int 1, .int 100000000000000000000000000000000000000000000000000], .tup [.int 0, .int 1]])] S = .ok (.d (.obj "Word" [.tup [.tup [.int 1, .int 100000000000000000000000000000000000000000000000000], .tup [.int 0, .int 1]], .int 2])) S := m1
  have m2 : ∀ S, d_word_repeated [.d (.obj "Word" [.tup [.tup [.int 1, .int 100000000000000000000000000000000000000000000000000], .tup [.int 0, .int 1]], .int 2]), .d (.int 2)] S = .ok (.d (wD 2 R2)) S := m2
  have m4 : d_Word_letter [.d (.obj "Word" [.tup [.tup [.int 1, .int 100000000000000000000000000000000000000000000000000], .tup [.int 0, .int 1]], .int 2]), .d (.int 100000000000000000000000000000000000000000000000000)] [] = .ok (.d (.int 0)) [] := m4
  have mo : mulOk 2 100000000000000000000000000000000000000000000000000 = true := mulOk_l (by decide) (by decide)
  have q : decide ((200000000000000000000000000000000000000000000000002 : Int) = 2 * 100000000000000000000000000000000000000000000000000 + 2) = true := by decide
  unfold d_law
  simp only [v_ap, c_ap, un_ap, un_ok, bi_ap, bi1_ok, bi2_ok, cl_ap, cl_ok, cs_ap, cs1_ok, cs2_ok, nil_ap, t_ap, t_ok, an_ap, an_t, an_f, or_ap, or_tt, or_ff, nt_ap, nt_ok, if_ap, iff_t, iff_f, ch_ap, ch1_ok, ch2_ok, ch3_t, ch3_f, ch4_ok, oN_ap, oS_ap, so_ok, sl_ap, sl1_ok, sl2_ok, sl3_ok, fSl_l, fSl_t, iv_ap, iv_l, iv_t, ir_ap, ir_ok, ir_i, ie_ap, ie_l, ie_t, iz_ap, i2_ap, it1_ok, it2_ok, iZz_l, iZz_t, me_ap, me1_ok, me2_ok, nox_ok, isO_d, fPr_o, fFld_o, sq_ap, sq_n, sq_r, sq_b, sq_c, nl_ap, bk_ap, ct_ap, ex_ap, ex_ok, rt_ap, rt_ok, rn_ap, as_ap, as_ok, nw_ap, nw_ok, sf_ap, sf_t, sf_f, pr_ap, pr1_ok, pr2_ok, pt_ap, pt1_ok, pt2_ok, pt3_ok, at_ap, at_ok, oN_some, fo_ap, fo_ok, tgN_ap, tgT_ap, tgs_c, tgs_n, ob_s, funD_ap, fin_d, fin_n, tk_len, tk_app, tk_appc, get_app, set_app, add_ii, add_ll, add_tt, sub_ii, mul_ii, mul_l, mulL_l, mul_t, addL_ll, div_ii, mod_ii, pow_ii, neg_i, lt_ii, le_ii, gt_ii, ge_ii, eq_ii, ne_ii, max_ii, min_ii, isB_bb, notB_bb, ix_t, ix_l, ix_c, ixC_l, oD_s, len_l, len_t, len_s, len_c, lnC_l, rd_d, rd_c, rdC_l, all_tt, tu_l, tu_t, li_l, li_t, in_i, rev_l, rev_t, sum_l, sum_t, all_b, any_b, fTup_0, fTup_1, fTup_2, fTup_3, fTup_4, fTup_5, fLst_0, fLst_1, fLst_2, fLst_3, fLst_4, fLst_5, isi_in, isi_tt, isi_ll, isi_bi, kb_d, kb_n, kb_c, lp_n, lp_c, lp_b, lp_r, isO_d, List.set_cons_zero, List.set_cons_succ, List.getElem?_cons_zero, List.getElem?_cons_succ, List.getElem?_nil, List.map_cons, List.map_nil, List.replicate_succ, List.replicate_zero, List.cons_append, List.nil_append, List.append_nil, atI_0, atI_1, atI_2, atI_3, decide_true, decide_false, Bool.not_true, Bool.not_false, Bool.and_true, Bool.true_and, Bool.and_false, Bool.false_and, Bool.or_true, Bool.true_or, Bool.or_false, Bool.false_or, wipeE, Option.map_some, Option.map_none, List.length_cons, List.length_nil, Nat.zero_add, Nat.reduceAdd, i0, i1, e, p50, e50, m1, m2, m3, mo, q, m4]
  rfl
end L04

namespace L04
open PySem PySem.Spec PyProof.Rows L2 Pd
set_option maxHeartbeats 0 in
theorem all_mk {l : PySem.W.OpenLaw} {w : World} {K : PySem.W.Frag} {h : Heap} {mg : Str → Option Value} {fa : Addr} (X : K.In h) (G : h.Ns mainGlobals mg) (hfa : mg "law" = some (.ref fa))
    {k_Word : Addr} (n_Word : PySem.W.nsIn K mainGlobals "Word" = some (some (.ref k_Word)))
    (pg_Word : PySem.W.plainGet K k_Word Str.empty = true)
    (ic_Word : PySem.W.isClsIn K k_Word = true)
    (po_Word : PySem.W.plainOver K k_Word = true)
    (sa_Word : PySem.W.findIn K (.ref k_Word) "__setattr__" = some (some (.builtin "object.__setattr__")))
    (mk_Word : PySem.W.makesIn K k_Word = true)
    (kc_Word : PySem.W.keepIn K (.ref k_Word) = true)
    (ca_Word : PySem.W.findIn K (.ref k_Word) "__class__" = some (some (.builtin "object.__class__")))
    (cn_Word : PySem.W.specialIn K (.builtin "object.__class__") "__get__" = some (some (.builtin "getset_descriptor.__get__")))
    (ct_Word : PySem.W.takesIn K (.builtin "object.__class__") = some true)
    (cm_Word : PySem.W.mroIn K k_Word (.type "object") = some true)
    (nf_Word : PySem.W.notFirst K k_Word (.ref k_Word) = true)
    (nt_Word : PySem.W.notFirst K k_Word (.type "tuple") = true)
    (jy_Word : PySem.W.typeIn K (.ref k_Word) = some (.type "type"))
    {q_Word_own_runs : Addr} (qa_Word_own_runs : PySem.W.findIn K (.ref k_Word) "own_runs" = some (some (.ref q_Word_own_runs))) (qg_Word_own_runs : PySem.W.specialIn K (.ref q_Word_own_runs) "__get__" = some (some (.builtin "member_descriptor.__get__"))) (qk_Word_own_runs : PySem.W.takesIn K (.ref q_Word_own_runs) = some true) (qt_Word_own_runs : PySem.W.typeIn K (.ref q_Word_own_runs) = some (.type "member_descriptor")) (qi_Word_own_runs : PySem.W.slotIn K q_Word_own_runs k_Word = some 0)
    {q_Word_own_width : Addr} (qa_Word_own_width : PySem.W.findIn K (.ref k_Word) "own_width" = some (some (.ref q_Word_own_width))) (qg_Word_own_width : PySem.W.specialIn K (.ref q_Word_own_width) "__get__" = some (some (.builtin "member_descriptor.__get__"))) (qk_Word_own_width : PySem.W.takesIn K (.ref q_Word_own_width) = some true) (qt_Word_own_width : PySem.W.typeIn K (.ref q_Word_own_width) = some (.type "member_descriptor")) (qi_Word_own_width : PySem.W.slotIn K q_Word_own_width k_Word = some 1)
    {f_is_integer : Addr} {oc_is_integer kV_is_integer dc_is_integer pm_is_integer cd_is_integer ct_is_integer : Value} {od_is_integer an_is_integer : Option Addr} {sl_is_integer : Array (Option Value)}
    (a_is_integer : PySem.W.nsIn K mainGlobals "is_integer" = some (some (.ref f_is_integer))) (l_is_integer : K.lookup f_is_integer = some ⟨oc_is_integer, od_is_integer, .func (PySem.W.fnOf "is_integer" "is_integer" (defArgs s_is_integer) (defBody s_is_integer) (defScope s_is_integer) .none kV_is_integer dc_is_integer pm_is_integer an_is_integer cd_is_integer ct_is_integer), sl_is_integer⟩) (c_is_integer : PySem.W.codeIn K cd_is_integer "is_integer" = true) (k_is_integer : PySem.W.keepIn K (.ref f_is_integer) = true)
    {f_is_within : Addr} {oc_is_within kV_is_within dc_is_within pm_is_within cd_is_within ct_is_within : Value} {od_is_within an_is_within : Option Addr} {sl_is_within : Array (Option Value)}
    (a_is_within : PySem.W.nsIn K mainGlobals "is_within" = some (some (.ref f_is_within))) (l_is_within : K.lookup f_is_within = some ⟨oc_is_within, od_is_within, .func (PySem.W.fnOf "is_within" "is_within" (defArgs s_is_within) (defBody s_is_within) (defScope s_is_within) .none kV_is_within dc_is_within pm_is_within an_is_within cd_is_within ct_is_within), sl_is_within⟩) (c_is_within : PySem.W.codeIn K cd_is_within "is_within" = true) (k_is_within : PySem.W.keepIn K (.ref f_is_within) = true)
    {f_require_within : Addr} {oc_require_within kV_require_within dc_require_within pm_require_within cd_require_within ct_require_within : Value} {od_require_within an_require_within : Option Addr} {sl_require_within : Array (Option Value)}
    (a_require_within : PySem.W.nsIn K mainGlobals "require_within" = some (some (.ref f_require_within))) (l_require_within : K.lookup f_require_within = some ⟨oc_require_within, od_require_within, .func (PySem.W.fnOf "require_within" "require_within" (defArgs s_require_within) (defBody s_require_within) (defScope s_require_within) .none kV_require_within dc_require_within pm_require_within an_require_within cd_require_within ct_require_within), sl_require_within⟩) (c_require_within : PySem.W.codeIn K cd_require_within "require_within" = true) (k_require_within : PySem.W.keepIn K (.ref f_require_within) = true)
    {f_lean_in : Addr} {oc_lean_in kV_lean_in dc_lean_in pm_lean_in cd_lean_in ct_lean_in : Value} {od_lean_in an_lean_in : Option Addr} {sl_lean_in : Array (Option Value)}
    (a_lean_in : PySem.W.nsIn K mainGlobals "lean_in" = some (some (.ref f_lean_in))) (l_lean_in : K.lookup f_lean_in = some ⟨oc_lean_in, od_lean_in, .func (PySem.W.fnOf "lean_in" "lean_in" (defArgs s_lean_in) (defBody s_lean_in) (defScope s_lean_in) .none kV_lean_in dc_lean_in pm_lean_in an_lean_in cd_lean_in ct_lean_in), sl_lean_in⟩) (c_lean_in : PySem.W.codeIn K cd_lean_in "lean_in" = true) (k_lean_in : PySem.W.keepIn K (.ref f_lean_in) = true)
    {f_is_run : Addr} {oc_is_run kV_is_run dc_is_run pm_is_run cd_is_run ct_is_run : Value} {od_is_run an_is_run : Option Addr} {sl_is_run : Array (Option Value)}
    (a_is_run : PySem.W.nsIn K mainGlobals "is_run" = some (some (.ref f_is_run))) (l_is_run : K.lookup f_is_run = some ⟨oc_is_run, od_is_run, .func (PySem.W.fnOf "is_run" "is_run" (defArgs s_is_run) (defBody s_is_run) (defScope s_is_run) .none kV_is_run dc_is_run pm_is_run an_is_run cd_is_run ct_is_run), sl_is_run⟩) (c_is_run : PySem.W.codeIn K cd_is_run "is_run" = true) (k_is_run : PySem.W.keepIn K (.ref f_is_run) = true)
    {f_are_runs : Addr} {oc_are_runs kV_are_runs dc_are_runs pm_are_runs cd_are_runs ct_are_runs : Value} {od_are_runs an_are_runs : Option Addr} {sl_are_runs : Array (Option Value)}
    (a_are_runs : PySem.W.nsIn K mainGlobals "are_runs" = some (some (.ref f_are_runs))) (l_are_runs : K.lookup f_are_runs = some ⟨oc_are_runs, od_are_runs, .func (PySem.W.fnOf "are_runs" "are_runs" (defArgs s_are_runs) (defBody s_are_runs) (defScope s_are_runs) .none kV_are_runs dc_are_runs pm_are_runs an_are_runs cd_are_runs ct_are_runs), sl_are_runs⟩) (c_are_runs : PySem.W.codeIn K cd_are_runs "are_runs" = true) (k_are_runs : PySem.W.keepIn K (.ref f_are_runs) = true)
    {f_counts_of : Addr} {oc_counts_of kV_counts_of dc_counts_of pm_counts_of cd_counts_of ct_counts_of : Value} {od_counts_of an_counts_of : Option Addr} {sl_counts_of : Array (Option Value)}
    (a_counts_of : PySem.W.nsIn K mainGlobals "counts_of" = some (some (.ref f_counts_of))) (l_counts_of : K.lookup f_counts_of = some ⟨oc_counts_of, od_counts_of, .func (PySem.W.fnOf "counts_of" "counts_of" (defArgs s_counts_of) (defBody s_counts_of) (defScope s_counts_of) .none kV_counts_of dc_counts_of pm_counts_of an_counts_of cd_counts_of ct_counts_of), sl_counts_of⟩) (c_counts_of : PySem.W.codeIn K cd_counts_of "counts_of" = true) (k_counts_of : PySem.W.keepIn K (.ref f_counts_of) = true)
    {f_part_of : Addr} {oc_part_of kV_part_of dc_part_of pm_part_of cd_part_of ct_part_of : Value} {od_part_of an_part_of : Option Addr} {sl_part_of : Array (Option Value)}
    (a_part_of : PySem.W.nsIn K mainGlobals "part_of" = some (some (.ref f_part_of))) (l_part_of : K.lookup f_part_of = some ⟨oc_part_of, od_part_of, .func (PySem.W.fnOf "part_of" "part_of" (defArgs s_part_of) (defBody s_part_of) (defScope s_part_of) .none kV_part_of dc_part_of pm_part_of an_part_of cd_part_of ct_part_of), sl_part_of⟩) (c_part_of : PySem.W.codeIn K cd_part_of "part_of" = true) (k_part_of : PySem.W.keepIn K (.ref f_part_of) = true)
    {f_Word___init__ : Addr} {oc_Word___init__ kV_Word___init__ dc_Word___init__ pm_Word___init__ cd_Word___init__ ct_Word___init__ : Value} {od_Word___init__ an_Word___init__ : Option Addr} {sl_Word___init__ : Array (Option Value)}
    (a_Word___init__ : PySem.W.findIn K (.ref k_Word) "__init__" = some (some (.ref f_Word___init__))) (i_Word___init__ : PySem.W.isFn K (.ref f_Word___init__) = true) (l_Word___init__ : K.lookup f_Word___init__ = some ⟨oc_Word___init__, od_Word___init__, .func (PySem.W.fnOf "__init__" "Word.__init__" (defArgs s_Word___init__) (defBody s_Word___init__) (defScope s_Word___init__) .none kV_Word___init__ dc_Word___init__ pm_Word___init__ an_Word___init__ cd_Word___init__ ct_Word___init__), sl_Word___init__⟩) (c_Word___init__ : PySem.W.codeIn K cd_Word___init__ "Word.__init__" = true) (k_Word___init__ : PySem.W.keepIn K (.ref f_Word___init__) = true)
    {f_word_in : Addr} {oc_word_in kV_word_in dc_word_in pm_word_in cd_word_in ct_word_in : Value} {od_word_in an_word_in : Option Addr} {sl_word_in : Array (Option Value)}
    (a_word_in : PySem.W.nsIn K mainGlobals "word_in" = some (some (.ref f_word_in))) (l_word_in : K.lookup f_word_in = some ⟨oc_word_in, od_word_in, .func (PySem.W.fnOf "word_in" "word_in" (defArgs s_word_in) (defBody s_word_in) (defScope s_word_in) .none kV_word_in dc_word_in pm_word_in an_word_in cd_word_in ct_word_in), sl_word_in⟩) (c_word_in : PySem.W.codeIn K cd_word_in "word_in" = true) (k_word_in : PySem.W.keepIn K (.ref f_word_in) = true)
    {f_require_word : Addr} {oc_require_word kV_require_word dc_require_word pm_require_word cd_require_word ct_require_word : Value} {od_require_word an_require_word : Option Addr} {sl_require_word : Array (Option Value)}
    (a_require_word : PySem.W.nsIn K mainGlobals "require_word" = some (some (.ref f_require_word))) (l_require_word : K.lookup f_require_word = some ⟨oc_require_word, od_require_word, .func (PySem.W.fnOf "require_word" "require_word" (defArgs s_require_word) (defBody s_require_word) (defScope s_require_word) .none kV_require_word dc_require_word pm_require_word an_require_word cd_require_word ct_require_word), sl_require_word⟩) (c_require_word : PySem.W.codeIn K cd_require_word "require_word" = true) (k_require_word : PySem.W.keepIn K (.ref f_require_word) = true)
    {f_word_of_runs : Addr} {oc_word_of_runs kV_word_of_runs dc_word_of_runs pm_word_of_runs cd_word_of_runs ct_word_of_runs : Value} {od_word_of_runs an_word_of_runs : Option Addr} {sl_word_of_runs : Array (Option Value)}
    (a_word_of_runs : PySem.W.nsIn K mainGlobals "word_of_runs" = some (some (.ref f_word_of_runs))) (l_word_of_runs : K.lookup f_word_of_runs = some ⟨oc_word_of_runs, od_word_of_runs, .func (PySem.W.fnOf "word_of_runs" "word_of_runs" (defArgs s_word_of_runs) (defBody s_word_of_runs) (defScope s_word_of_runs) .none kV_word_of_runs dc_word_of_runs pm_word_of_runs an_word_of_runs cd_word_of_runs ct_word_of_runs), sl_word_of_runs⟩) (c_word_of_runs : PySem.W.codeIn K cd_word_of_runs "word_of_runs" = true) (k_word_of_runs : PySem.W.keepIn K (.ref f_word_of_runs) = true)
    {f_Word_length : Addr} {oc_Word_length kV_Word_length dc_Word_length pm_Word_length cd_Word_length ct_Word_length : Value} {od_Word_length an_Word_length : Option Addr} {sl_Word_length : Array (Option Value)}
    {pp_Word_length : Addr} {rs_Word_length : List Value} (a_Word_length : PySem.W.findIn K (.ref k_Word) "length" = some (some (.ref pp_Word_length))) (pg_Word_length : PySem.W.specialIn K (.ref pp_Word_length) "__get__" = some (some (.builtin "property.__get__"))) (pt_Word_length : PySem.W.takesIn K (.ref pp_Word_length) = some true) (pr_Word_length : PySem.W.recIn K pp_Word_length "property" = some (.ref f_Word_length :: rs_Word_length)) (l_Word_length : K.lookup f_Word_length = some ⟨oc_Word_length, od_Word_length, .func (PySem.W.fnOf "length" "Word.length" (defArgs s_Word_length) (defBody s_Word_length) (defScope s_Word_length) .none kV_Word_length dc_Word_length pm_Word_length an_Word_length cd_Word_length ct_Word_length), sl_Word_length⟩) (c_Word_length : PySem.W.codeIn K cd_Word_length "Word.length" = true) (k_Word_length : PySem.W.keepIn K (.ref f_Word_length) = true)
    {f_Word_width : Addr} {oc_Word_width kV_Word_width dc_Word_width pm_Word_width cd_Word_width ct_Word_width : Value} {od_Word_width an_Word_width : Option Addr} {sl_Word_width : Array (Option Value)}
    {pp_Word_width : Addr} {rs_Word_width : List Value} (a_Word_width : PySem.W.findIn K (.ref k_Word) "width" = some (some (.ref pp_Word_width))) (pg_Word_width : PySem.W.specialIn K (.ref pp_Word_width) "__get__" = some (some (.builtin "property.__get__"))) (pt_Word_width : PySem.W.takesIn K (.ref pp_Word_width) = some true) (pr_Word_width : PySem.W.recIn K pp_Word_width "property" = some (.ref f_Word_width :: rs_Word_width)) (l_Word_width : K.lookup f_Word_width = some ⟨oc_Word_width, od_Word_width, .func (PySem.W.fnOf "width" "Word.width" (defArgs s_Word_width) (defBody s_Word_width) (defScope s_Word_width) .none kV_Word_width dc_Word_width pm_Word_width an_Word_width cd_Word_width ct_Word_width), sl_Word_width⟩) (c_Word_width : PySem.W.codeIn K cd_Word_width "Word.width" = true) (k_Word_width : PySem.W.keepIn K (.ref f_Word_width) = true)
    {f_Word_runs : Addr} {oc_Word_runs kV_Word_runs dc_Word_runs pm_Word_runs cd_Word_runs ct_Word_runs : Value} {od_Word_runs an_Word_runs : Option Addr} {sl_Word_runs : Array (Option Value)}
    {pp_Word_runs : Addr} {rs_Word_runs : List Value} (a_Word_runs : PySem.W.findIn K (.ref k_Word) "runs" = some (some (.ref pp_Word_runs))) (pg_Word_runs : PySem.W.specialIn K (.ref pp_Word_runs) "__get__" = some (some (.builtin "property.__get__"))) (pt_Word_runs : PySem.W.takesIn K (.ref pp_Word_runs) = some true) (pr_Word_runs : PySem.W.recIn K pp_Word_runs "property" = some (.ref f_Word_runs :: rs_Word_runs)) (l_Word_runs : K.lookup f_Word_runs = some ⟨oc_Word_runs, od_Word_runs, .func (PySem.W.fnOf "runs" "Word.runs" (defArgs s_Word_runs) (defBody s_Word_runs) (defScope s_Word_runs) .none kV_Word_runs dc_Word_runs pm_Word_runs an_Word_runs cd_Word_runs ct_Word_runs), sl_Word_runs⟩) (c_Word_runs : PySem.W.codeIn K cd_Word_runs "Word.runs" = true) (k_Word_runs : PySem.W.keepIn K (.ref f_Word_runs) = true)
    {f_word_part : Addr} {oc_word_part kV_word_part dc_word_part pm_word_part cd_word_part ct_word_part : Value} {od_word_part an_word_part : Option Addr} {sl_word_part : Array (Option Value)}
    (a_word_part : PySem.W.nsIn K mainGlobals "word_part" = some (some (.ref f_word_part))) (l_word_part : K.lookup f_word_part = some ⟨oc_word_part, od_word_part, .func (PySem.W.fnOf "word_part" "word_part" (defArgs s_word_part) (defBody s_word_part) (defScope s_word_part) .none kV_word_part dc_word_part pm_word_part an_word_part cd_word_part ct_word_part), sl_word_part⟩) (c_word_part : PySem.W.codeIn K cd_word_part "word_part" = true) (k_word_part : PySem.W.keepIn K (.ref f_word_part) = true)
    {f_word_joined : Addr} {oc_word_joined kV_word_joined dc_word_joined pm_word_joined cd_word_joined ct_word_joined : Value} {od_word_joined an_word_joined : Option Addr} {sl_word_joined : Array (Option Value)}
    (a_word_joined : PySem.W.nsIn K mainGlobals "word_joined" = some (some (.ref f_word_joined))) (l_word_joined : K.lookup f_word_joined = some ⟨oc_word_joined, od_word_joined, .func (PySem.W.fnOf "word_joined" "word_joined" (defArgs s_word_joined) (defBody s_word_joined) (defScope s_word_joined) .none kV_word_joined dc_word_joined pm_word_joined an_word_joined cd_word_joined ct_word_joined), sl_word_joined⟩) (c_word_joined : PySem.W.codeIn K cd_word_joined "word_joined" = true) (k_word_joined : PySem.W.keepIn K (.ref f_word_joined) = true)
    {f_word_repeated : Addr} {oc_word_repeated kV_word_repeated dc_word_repeated pm_word_repeated cd_word_repeated ct_word_repeated : Value} {od_word_repeated an_word_repeated : Option Addr} {sl_word_repeated : Array (Option Value)}
    (a_word_repeated : PySem.W.nsIn K mainGlobals "word_repeated" = some (some (.ref f_word_repeated))) (l_word_repeated : K.lookup f_word_repeated = some ⟨oc_word_repeated, od_word_repeated, .func (PySem.W.fnOf "word_repeated" "word_repeated" (defArgs s_word_repeated) (defBody s_word_repeated) (defScope s_word_repeated) .none kV_word_repeated dc_word_repeated pm_word_repeated an_word_repeated cd_word_repeated ct_word_repeated), sl_word_repeated⟩) (c_word_repeated : PySem.W.codeIn K cd_word_repeated "word_repeated" = true) (k_word_repeated : PySem.W.keepIn K (.ref f_word_repeated) = true)
    {f_word_backward : Addr} {oc_word_backward kV_word_backward dc_word_backward pm_word_backward cd_word_backward ct_word_backward : Value} {od_word_backward an_word_backward : Option Addr} {sl_word_backward : Array (Option Value)}
    (a_word_backward : PySem.W.nsIn K mainGlobals "word_backward" = some (some (.ref f_word_backward))) (l_word_backward : K.lookup f_word_backward = some ⟨oc_word_backward, od_word_backward, .func (PySem.W.fnOf "word_backward" "word_backward" (defArgs s_word_backward) (defBody s_word_backward) (defScope s_word_backward) .none kV_word_backward dc_word_backward pm_word_backward an_word_backward cd_word_backward ct_word_backward), sl_word_backward⟩) (c_word_backward : PySem.W.codeIn K cd_word_backward "word_backward" = true) (k_word_backward : PySem.W.keepIn K (.ref f_word_backward) = true)
    {f_word_mirrored : Addr} {oc_word_mirrored kV_word_mirrored dc_word_mirrored pm_word_mirrored cd_word_mirrored ct_word_mirrored : Value} {od_word_mirrored an_word_mirrored : Option Addr} {sl_word_mirrored : Array (Option Value)}
    (a_word_mirrored : PySem.W.nsIn K mainGlobals "word_mirrored" = some (some (.ref f_word_mirrored))) (l_word_mirrored : K.lookup f_word_mirrored = some ⟨oc_word_mirrored, od_word_mirrored, .func (PySem.W.fnOf "word_mirrored" "word_mirrored" (defArgs s_word_mirrored) (defBody s_word_mirrored) (defScope s_word_mirrored) .none kV_word_mirrored dc_word_mirrored pm_word_mirrored an_word_mirrored cd_word_mirrored ct_word_mirrored), sl_word_mirrored⟩) (c_word_mirrored : PySem.W.codeIn K cd_word_mirrored "word_mirrored" = true) (k_word_mirrored : PySem.W.keepIn K (.ref f_word_mirrored) = true)
    {f_word_between : Addr} {oc_word_between kV_word_between dc_word_between pm_word_between cd_word_between ct_word_between : Value} {od_word_between an_word_between : Option Addr} {sl_word_between : Array (Option Value)}
    (a_word_between : PySem.W.nsIn K mainGlobals "word_between" = some (some (.ref f_word_between))) (l_word_between : K.lookup f_word_between = some ⟨oc_word_between, od_word_between, .func (PySem.W.fnOf "word_between" "word_between" (defArgs s_word_between) (defBody s_word_between) (defScope s_word_between) .none kV_word_between dc_word_between pm_word_between an_word_between cd_word_between ct_word_between), sl_word_between⟩) (c_word_between : PySem.W.codeIn K cd_word_between "word_between" = true) (k_word_between : PySem.W.keepIn K (.ref f_word_between) = true)
    {f__law_dice : Addr} {oc__law_dice kV__law_dice dc__law_dice pm__law_dice cd__law_dice ct__law_dice : Value} {od__law_dice an__law_dice : Option Addr} {sl__law_dice : Array (Option Value)}
    (a__law_dice : PySem.W.nsIn K mainGlobals "_law_dice" = some (some (.ref f__law_dice))) (l__law_dice : K.lookup f__law_dice = some ⟨oc__law_dice, od__law_dice, .func (PySem.W.fnOf "_law_dice" "_law_dice" (defArgs s__law_dice) (defBody s__law_dice) (defScope s__law_dice) .none kV__law_dice dc__law_dice pm__law_dice an__law_dice cd__law_dice ct__law_dice), sl__law_dice⟩) (c__law_dice : PySem.W.codeIn K cd__law_dice "_law_dice" = true) (k__law_dice : PySem.W.keepIn K (.ref f__law_dice) = true)
    {f__law_roll : Addr} {oc__law_roll kV__law_roll dc__law_roll pm__law_roll cd__law_roll ct__law_roll : Value} {od__law_roll an__law_roll : Option Addr} {sl__law_roll : Array (Option Value)}
    (a__law_roll : PySem.W.nsIn K mainGlobals "_law_roll" = some (some (.ref f__law_roll))) (l__law_roll : K.lookup f__law_roll = some ⟨oc__law_roll, od__law_roll, .func (PySem.W.fnOf "_law_roll" "_law_roll" (defArgs s__law_roll) (defBody s__law_roll) (defScope s__law_roll) .none kV__law_roll dc__law_roll pm__law_roll an__law_roll cd__law_roll ct__law_roll), sl__law_roll⟩) (c__law_roll : PySem.W.codeIn K cd__law_roll "_law_roll" = true) (k__law_roll : PySem.W.keepIn K (.ref f__law_roll) = true)
    {f__law_far : Addr} {oc__law_far kV__law_far dc__law_far pm__law_far cd__law_far ct__law_far : Value} {od__law_far an__law_far : Option Addr} {sl__law_far : Array (Option Value)}
    (a__law_far : PySem.W.nsIn K mainGlobals "_law_far" = some (some (.ref f__law_far))) (l__law_far : K.lookup f__law_far = some ⟨oc__law_far, od__law_far, .func (PySem.W.fnOf "_law_far" "_law_far" (defArgs s__law_far) (defBody s__law_far) (defScope s__law_far) .none kV__law_far dc__law_far pm__law_far an__law_far cd__law_far ct__law_far), sl__law_far⟩) (c__law_far : PySem.W.codeIn K cd__law_far "_law_far" = true) (k__law_far : PySem.W.keepIn K (.ref f__law_far) = true)
    {f__law_pick : Addr} {oc__law_pick kV__law_pick dc__law_pick pm__law_pick cd__law_pick ct__law_pick : Value} {od__law_pick an__law_pick : Option Addr} {sl__law_pick : Array (Option Value)}
    (a__law_pick : PySem.W.nsIn K mainGlobals "_law_pick" = some (some (.ref f__law_pick))) (l__law_pick : K.lookup f__law_pick = some ⟨oc__law_pick, od__law_pick, .func (PySem.W.fnOf "_law_pick" "_law_pick" (defArgs s__law_pick) (defBody s__law_pick) (defScope s__law_pick) .none kV__law_pick dc__law_pick pm__law_pick an__law_pick cd__law_pick ct__law_pick), sl__law_pick⟩) (c__law_pick : PySem.W.codeIn K cd__law_pick "_law_pick" = true) (k__law_pick : PySem.W.keepIn K (.ref f__law_pick) = true)
    {f__law_leaned : Addr} {oc__law_leaned kV__law_leaned dc__law_leaned pm__law_leaned cd__law_leaned ct__law_leaned : Value} {od__law_leaned an__law_leaned : Option Addr} {sl__law_leaned : Array (Option Value)}
    (a__law_leaned : PySem.W.nsIn K mainGlobals "_law_leaned" = some (some (.ref f__law_leaned))) (l__law_leaned : K.lookup f__law_leaned = some ⟨oc__law_leaned, od__law_leaned, .func (PySem.W.fnOf "_law_leaned" "_law_leaned" (defArgs s__law_leaned) (defBody s__law_leaned) (defScope s__law_leaned) .none kV__law_leaned dc__law_leaned pm__law_leaned an__law_leaned cd__law_leaned ct__law_leaned), sl__law_leaned⟩) (c__law_leaned : PySem.W.codeIn K cd__law_leaned "_law_leaned" = true) (k__law_leaned : PySem.W.keepIn K (.ref f__law_leaned) = true)
    {f__law_part : Addr} {oc__law_part kV__law_part dc__law_part pm__law_part cd__law_part ct__law_part : Value} {od__law_part an__law_part : Option Addr} {sl__law_part : Array (Option Value)}
    (a__law_part : PySem.W.nsIn K mainGlobals "_law_part" = some (some (.ref f__law_part))) (l__law_part : K.lookup f__law_part = some ⟨oc__law_part, od__law_part, .func (PySem.W.fnOf "_law_part" "_law_part" (defArgs s__law_part) (defBody s__law_part) (defScope s__law_part) .none kV__law_part dc__law_part pm__law_part an__law_part cd__law_part ct__law_part), sl__law_part⟩) (c__law_part : PySem.W.codeIn K cd__law_part "_law_part" = true) (k__law_part : PySem.W.keepIn K (.ref f__law_part) = true)
    {f_Word___eq__ : Addr} {oc_Word___eq__ kV_Word___eq__ dc_Word___eq__ pm_Word___eq__ cd_Word___eq__ ct_Word___eq__ : Value} {od_Word___eq__ an_Word___eq__ : Option Addr} {sl_Word___eq__ : Array (Option Value)}
    (a_Word___eq__ : PySem.W.findIn K (.ref k_Word) "__eq__" = some (some (.ref f_Word___eq__))) (i_Word___eq__ : PySem.W.isFn K (.ref f_Word___eq__) = true) (l_Word___eq__ : K.lookup f_Word___eq__ = some ⟨oc_Word___eq__, od_Word___eq__, .func (PySem.W.fnOf "__eq__" "Word.__eq__" (defArgs s_Word___eq__) (defBody s_Word___eq__) (defScope s_Word___eq__) .none kV_Word___eq__ dc_Word___eq__ pm_Word___eq__ an_Word___eq__ cd_Word___eq__ ct_Word___eq__), sl_Word___eq__⟩) (c_Word___eq__ : PySem.W.codeIn K cd_Word___eq__ "Word.__eq__" = true) (k_Word___eq__ : PySem.W.keepIn K (.ref f_Word___eq__) = true)
    {f_Word___ne__ : Addr} {oc_Word___ne__ kV_Word___ne__ dc_Word___ne__ pm_Word___ne__ cd_Word___ne__ ct_Word___ne__ : Value} {od_Word___ne__ an_Word___ne__ : Option Addr} {sl_Word___ne__ : Array (Option Value)}
    (a_Word___ne__ : PySem.W.findIn K (.ref k_Word) "__ne__" = some (some (.ref f_Word___ne__))) (i_Word___ne__ : PySem.W.isFn K (.ref f_Word___ne__) = true) (l_Word___ne__ : K.lookup f_Word___ne__ = some ⟨oc_Word___ne__, od_Word___ne__, .func (PySem.W.fnOf "__ne__" "Word.__ne__" (defArgs s_Word___ne__) (defBody s_Word___ne__) (defScope s_Word___ne__) .none kV_Word___ne__ dc_Word___ne__ pm_Word___ne__ an_Word___ne__ cd_Word___ne__ ct_Word___ne__), sl_Word___ne__⟩) (c_Word___ne__ : PySem.W.codeIn K cd_Word___ne__ "Word.__ne__" = true) (k_Word___ne__ : PySem.W.keepIn K (.ref f_Word___ne__) = true)
    {f_Word_counts : Addr} {oc_Word_counts kV_Word_counts dc_Word_counts pm_Word_counts cd_Word_counts ct_Word_counts : Value} {od_Word_counts an_Word_counts : Option Addr} {sl_Word_counts : Array (Option Value)}
    {pp_Word_counts : Addr} {rs_Word_counts : List Value} (a_Word_counts : PySem.W.findIn K (.ref k_Word) "counts" = some (some (.ref pp_Word_counts))) (pg_Word_counts : PySem.W.specialIn K (.ref pp_Word_counts) "__get__" = some (some (.builtin "property.__get__"))) (pt_Word_counts : PySem.W.takesIn K (.ref pp_Word_counts) = some true) (pr_Word_counts : PySem.W.recIn K pp_Word_counts "property" = some (.ref f_Word_counts :: rs_Word_counts)) (l_Word_counts : K.lookup f_Word_counts = some ⟨oc_Word_counts, od_Word_counts, .func (PySem.W.fnOf "counts" "Word.counts" (defArgs s_Word_counts) (defBody s_Word_counts) (defScope s_Word_counts) .none kV_Word_counts dc_Word_counts pm_Word_counts an_Word_counts cd_Word_counts ct_Word_counts), sl_Word_counts⟩) (c_Word_counts : PySem.W.codeIn K cd_Word_counts "Word.counts" = true) (k_Word_counts : PySem.W.keepIn K (.ref f_Word_counts) = true)
    {f_Word_letter : Addr} {oc_Word_letter kV_Word_letter dc_Word_letter pm_Word_letter cd_Word_letter ct_Word_letter : Value} {od_Word_letter an_Word_letter : Option Addr} {sl_Word_letter : Array (Option Value)}
    (a_Word_letter : PySem.W.findIn K (.ref k_Word) "letter" = some (some (.ref f_Word_letter))) (i_Word_letter : PySem.W.isFn K (.ref f_Word_letter) = true) (l_Word_letter : K.lookup f_Word_letter = some ⟨oc_Word_letter, od_Word_letter, .func (PySem.W.fnOf "letter" "Word.letter" (defArgs s_Word_letter) (defBody s_Word_letter) (defScope s_Word_letter) .none kV_Word_letter dc_Word_letter pm_Word_letter an_Word_letter cd_Word_letter ct_Word_letter), sl_Word_letter⟩) (c_Word_letter : PySem.W.codeIn K cd_Word_letter "Word.letter" = true) (k_Word_letter : PySem.W.keepIn K (.ref f_Word_letter) = true)
    {f__law_right : Addr} {oc__law_right kV__law_right dc__law_right pm__law_right cd__law_right ct__law_right : Value} {od__law_right an__law_right : Option Addr} {sl__law_right : Array (Option Value)}
    (a__law_right : PySem.W.nsIn K mainGlobals "_law_right" = some (some (.ref f__law_right))) (l__law_right : K.lookup f__law_right = some ⟨oc__law_right, od__law_right, .func (PySem.W.fnOf "_law_right" "_law_right" (defArgs s__law_right) (defBody s__law_right) (defScope s__law_right) .none kV__law_right dc__law_right pm__law_right an__law_right cd__law_right ct__law_right), sl__law_right⟩) (c__law_right : PySem.W.codeIn K cd__law_right "_law_right" = true) (k__law_right : PySem.W.keepIn K (.ref f__law_right) = true)
    {f_law : Addr} {oc_law kV_law dc_law pm_law cd_law ct_law : Value} {od_law an_law : Option Addr} {sl_law : Array (Option Value)}
    (a_law : PySem.W.nsIn K mainGlobals "law" = some (some (.ref f_law))) (l_law : K.lookup f_law = some ⟨oc_law, od_law, .func (PySem.W.fnOf "law" "law" (defArgs s_law) (defBody s_law) (defScope s_law) .none kV_law dc_law pm_law an_law cd_law ct_law), sl_law⟩) (c_law : PySem.W.codeIn K cd_law "law" = true) (k_law : PySem.W.keepIn K (.ref f_law) = true)
    (z_abs : PySem.W.nsIn K mainGlobals "abs" = some none)
    (z_all : PySem.W.nsIn K mainGlobals "all" = some none)
    (z_bool : PySem.W.nsIn K mainGlobals "bool" = some none)
    (z_int : PySem.W.nsIn K mainGlobals "int" = some none)
    (z_isinstance : PySem.W.nsIn K mainGlobals "isinstance" = some none)
    (z_len : PySem.W.nsIn K mainGlobals "len" = some none)
    (z_max : PySem.W.nsIn K mainGlobals "max" = some none)
    (z_min : PySem.W.nsIn K mainGlobals "min" = some none)
    (z_range : PySem.W.nsIn K mainGlobals "range" = some none)
    (z_sum : PySem.W.nsIn K mainGlobals "sum" = some none)
    (z_tuple : PySem.W.nsIn K mainGlobals "tuple" = some none)
    {t_MOST_RUNS : Tok} (y_MOST_RUNS : PySem.W.nsIn K mainGlobals "MOST_RUNS" = some (some (.int 200 t_MOST_RUNS)))
    {t_MOST_TIMES : Tok} (y_MOST_TIMES : PySem.W.nsIn K mainGlobals "MOST_TIMES" = some (some (.int 1000000000000000000000000000000000000000000000000000000000000 t_MOST_TIMES)))
    {t_MOST_TOTAL : Tok} (y_MOST_TOTAL : PySem.W.nsIn K mainGlobals "MOST_TOTAL" = some (some (.int 10000000000000000000000000000000000000000000000000000000000000000 t_MOST_TOTAL)))
    {t_MOST_WIDTH : Tok} (y_MOST_WIDTH : PySem.W.nsIn K mainGlobals "MOST_WIDTH" = some (some (.int 8 t_MOST_WIDTH)))
    : ∃ fd : FuncData, (∀ (s : Shared) (v : Value), BindsTo s fd ⟨[v], []⟩ [("script", v)]) ∧ ∀ base : Heap, K.In base → base.Ns mainGlobals mg → FnOk l.prog w K mg base (L2.CX l.prog w) 11 fa fd ["script"] (spLaw K) := by
  have T : Txt mg := ⟨PySem.W.mg_none_of X G z_abs, PySem.W.mg_none_of X G z_all, PySem.W.mg_none_of X G z_bool, PySem.W.mg_none_of X G z_int, PySem.W.mg_none_of X G z_isinstance, PySem.W.mg_none_of X G z_len, PySem.W.mg_none_of X G z_max, PySem.W.mg_none_of X G z_min, PySem.W.mg_none_of X G z_range, PySem.W.mg_none_of X G z_sum, PySem.W.mg_none_of X G z_tuple, ⟨_, PySem.W.mg_of X G y_MOST_RUNS⟩, ⟨_, PySem.W.mg_of X G y_MOST_TIMES⟩, ⟨_, PySem.W.mg_of X G y_MOST_TOTAL⟩, ⟨_, PySem.W.mg_of X G y_MOST_WIDTH⟩⟩
  have A_is_integer : FunAt K mg "is_integer" "is_integer" s_is_integer ["value"] := ⟨f_is_integer, _, L2.fun_mk (st := s_is_integer) l_is_integer c_is_integer k_is_integer, PySem.W.mg_of X G a_is_integer, (L2.fun_mk (st := s_is_integer) l_is_integer c_is_integer k_is_integer).binds (ps := ["value"]) fun _ _ _ _ _ _ us hl => match us, hl with | [_], _ => rfl⟩
  have A_is_within : FunAt K mg "is_within" "is_within" s_is_within ["value", "low", "most"] := ⟨f_is_within, _, L2.fun_mk (st := s_is_within) l_is_within c_is_within k_is_within, PySem.W.mg_of X G a_is_within, (L2.fun_mk (st := s_is_within) l_is_within c_is_within k_is_within).binds (ps := ["value", "low", "most"]) fun _ _ _ _ _ _ us hl => match us, hl with | [_, _, _], _ => rfl⟩
  have A_require_within : FunAt K mg "require_within" "require_within" s_require_within ["value", "low", "most"] := ⟨f_require_within, _, L2.fun_mk (st := s_require_within) l_require_within c_require_within k_require_within, PySem.W.mg_of X G a_require_within, (L2.fun_mk (st := s_require_within) l_require_within c_require_within k_require_within).binds (ps := ["value", "low", "most"]) fun _ _ _ _ _ _ us hl => match us, hl with | [_, _, _], _ => rfl⟩
  have A_lean_in : FunAt K mg "lean_in" "lean_in" s_lean_in ["runs"] := ⟨f_lean_in, _, L2.fun_mk (st := s_lean_in) l_lean_in c_lean_in k_lean_in, PySem.W.mg_of X G a_lean_in, (L2.fun_mk (st := s_lean_in) l_lean_in c_lean_in k_lean_in).binds (ps := ["runs"]) fun _ _ _ _ _ _ us hl => match us, hl with | [_], _ => rfl⟩
  have A_is_run : FunAt K mg "is_run" "is_run" s_is_run ["width", "value"] := ⟨f_is_run, _, L2.fun_mk (st := s_is_run) l_is_run c_is_run k_is_run, PySem.W.mg_of X G a_is_run, (L2.fun_mk (st := s_is_run) l_is_run c_is_run k_is_run).binds (ps := ["width", "value"]) fun _ _ _ _ _ _ us hl => match us, hl with | [_, _], _ => rfl⟩
  have A_are_runs : FunAt K mg "are_runs" "are_runs" s_are_runs ["width", "value"] := ⟨f_are_runs, _, L2.fun_mk (st := s_are_runs) l_are_runs c_are_runs k_are_runs, PySem.W.mg_of X G a_are_runs, (L2.fun_mk (st := s_are_runs) l_are_runs c_are_runs k_are_runs).binds (ps := ["width", "value"]) fun _ _ _ _ _ _ us hl => match us, hl with | [_, _], _ => rfl⟩
  have A_counts_of : FunAt K mg "counts_of" "counts_of" s_counts_of ["width", "runs"] := ⟨f_counts_of, _, L2.fun_mk (st := s_counts_of) l_counts_of c_counts_of k_counts_of, PySem.W.mg_of X G a_counts_of, (L2.fun_mk (st := s_counts_of) l_counts_of c_counts_of k_counts_of).binds (ps := ["width", "runs"]) fun _ _ _ _ _ _ us hl => match us, hl with | [_, _], _ => rfl⟩
  have A_part_of : FunAt K mg "part_of" "part_of" s_part_of ["runs", "first", "many"] := ⟨f_part_of, _, L2.fun_mk (st := s_part_of) l_part_of c_part_of k_part_of, PySem.W.mg_of X G a_part_of, (L2.fun_mk (st := s_part_of) l_part_of c_part_of k_part_of).binds (ps := ["runs", "first", "many"]) fun _ _ _ _ _ _ us hl => match us, hl with | [_, _, _], _ => rfl⟩
  have A_Word___init__ : FunM K "__init__" "Word.__init__" s_Word___init__ ["self", "width", "runs"] f_Word___init__ := ⟨_, L2.fun_mk (st := s_Word___init__) l_Word___init__ c_Word___init__ k_Word___init__, (L2.fun_mk (st := s_Word___init__) l_Word___init__ c_Word___init__ k_Word___init__).binds (ps := ["self", "width", "runs"]) fun _ _ _ _ _ _ us hl => match us, hl with | [_, _, _], _ => rfl⟩
  have A_word_in : FunAt K mg "word_in" "word_in" s_word_in ["width", "runs"] := ⟨f_word_in, _, L2.fun_mk (st := s_word_in) l_word_in c_word_in k_word_in, PySem.W.mg_of X G a_word_in, (L2.fun_mk (st := s_word_in) l_word_in c_word_in k_word_in).binds (ps := ["width", "runs"]) fun _ _ _ _ _ _ us hl => match us, hl with | [_, _], _ => rfl⟩
  have A_require_word : FunAt K mg "require_word" "require_word" s_require_word ["word"] := ⟨f_require_word, _, L2.fun_mk (st := s_require_word) l_require_word c_require_word k_require_word, PySem.W.mg_of X G a_require_word, (L2.fun_mk (st := s_require_word) l_require_word c_require_word k_require_word).binds (ps := ["word"]) fun _ _ _ _ _ _ us hl => match us, hl with | [_], _ => rfl⟩
  have A_word_of_runs : FunAt K mg "word_of_runs" "word_of_runs" s_word_of_runs ["width", "runs"] := ⟨f_word_of_runs, _, L2.fun_mk (st := s_word_of_runs) l_word_of_runs c_word_of_runs k_word_of_runs, PySem.W.mg_of X G a_word_of_runs, (L2.fun_mk (st := s_word_of_runs) l_word_of_runs c_word_of_runs k_word_of_runs).binds (ps := ["width", "runs"]) fun _ _ _ _ _ _ us hl => match us, hl with | [_, _], _ => rfl⟩
  have A_Word_length : FunM K "length" "Word.length" s_Word_length ["self"] f_Word_length := ⟨_, L2.fun_mk (st := s_Word_length) l_Word_length c_Word_length k_Word_length, (L2.fun_mk (st := s_Word_length) l_Word_length c_Word_length k_Word_length).binds (ps := ["self"]) fun _ _ _ _ _ _ us hl => match us, hl with | [_], _ => rfl⟩
  have A_Word_width : FunM K "width" "Word.width" s_Word_width ["self"] f_Word_width := ⟨_, L2.fun_mk (st := s_Word_width) l_Word_width c_Word_width k_Word_width, (L2.fun_mk (st := s_Word_width) l_Word_width c_Word_width k_Word_width).binds (ps := ["self"]) fun _ _ _ _ _ _ us hl => match us, hl with | [_], _ => rfl⟩
  have A_Word_runs : FunM K "runs" "Word.runs" s_Word_runs ["self"] f_Word_runs := ⟨_, L2.fun_mk (st := s_Word_runs) l_Word_runs c_Word_runs k_Word_runs, (L2.fun_mk (st := s_Word_runs) l_Word_runs c_Word_runs k_Word_runs).binds (ps := ["self"]) fun _ _ _ _ _ _ us hl => match us, hl with | [_], _ => rfl⟩
  have A_word_part : FunAt K mg "word_part" "word_part" s_word_part ["word", "first", "many"] := ⟨f_word_part, _, L2.fun_mk (st := s_word_part) l_word_part c_word_part k_word_part, PySem.W.mg_of X G a_word_part, (L2.fun_mk (st := s_word_part) l_word_part c_word_part k_word_part).binds (ps := ["word", "first", "many"]) fun _ _ _ _ _ _ us hl => match us, hl with | [_, _, _], _ => rfl⟩
  have A_word_joined : FunAt K mg "word_joined" "word_joined" s_word_joined ["one", "other"] := ⟨f_word_joined, _, L2.fun_mk (st := s_word_joined) l_word_joined c_word_joined k_word_joined, PySem.W.mg_of X G a_word_joined, (L2.fun_mk (st := s_word_joined) l_word_joined c_word_joined k_word_joined).binds (ps := ["one", "other"]) fun _ _ _ _ _ _ us hl => match us, hl with | [_, _], _ => rfl⟩
  have A_word_repeated : FunAt K mg "word_repeated" "word_repeated" s_word_repeated ["word", "times"] := ⟨f_word_repeated, _, L2.fun_mk (st := s_word_repeated) l_word_repeated c_word_repeated k_word_repeated, PySem.W.mg_of X G a_word_repeated, (L2.fun_mk (st := s_word_repeated) l_word_repeated c_word_repeated k_word_repeated).binds (ps := ["word", "times"]) fun _ _ _ _ _ _ us hl => match us, hl with | [_, _], _ => rfl⟩
  have A_word_backward : FunAt K mg "word_backward" "word_backward" s_word_backward ["word"] := ⟨f_word_backward, _, L2.fun_mk (st := s_word_backward) l_word_backward c_word_backward k_word_backward, PySem.W.mg_of X G a_word_backward, (L2.fun_mk (st := s_word_backward) l_word_backward c_word_backward k_word_backward).binds (ps := ["word"]) fun _ _ _ _ _ _ us hl => match us, hl with | [_], _ => rfl⟩
  have A_word_mirrored : FunAt K mg "word_mirrored" "word_mirrored" s_word_mirrored ["word"] := ⟨f_word_mirrored, _, L2.fun_mk (st := s_word_mirrored) l_word_mirrored c_word_mirrored k_word_mirrored, PySem.W.mg_of X G a_word_mirrored, (L2.fun_mk (st := s_word_mirrored) l_word_mirrored c_word_mirrored k_word_mirrored).binds (ps := ["word"]) fun _ _ _ _ _ _ us hl => match us, hl with | [_], _ => rfl⟩
  have A_word_between : FunAt K mg "word_between" "word_between" s_word_between ["word", "low", "high"] := ⟨f_word_between, _, L2.fun_mk (st := s_word_between) l_word_between c_word_between k_word_between, PySem.W.mg_of X G a_word_between, (L2.fun_mk (st := s_word_between) l_word_between c_word_between k_word_between).binds (ps := ["word", "low", "high"]) fun _ _ _ _ _ _ us hl => match us, hl with | [_, _, _], _ => rfl⟩
  have A__law_dice : FunAt K mg "_law_dice" "_law_dice" s__law_dice ["script", "spot"] := ⟨f__law_dice, _, L2.fun_mk (st := s__law_dice) l__law_dice c__law_dice k__law_dice, PySem.W.mg_of X G a__law_dice, (L2.fun_mk (st := s__law_dice) l__law_dice c__law_dice k__law_dice).binds (ps := ["script", "spot"]) fun _ _ _ _ _ _ us hl => match us, hl with | [_, _], _ => rfl⟩
  have A__law_roll : FunAt K mg "_law_roll" "_law_roll" s__law_roll ["dice", "total"] := ⟨f__law_roll, _, L2.fun_mk (st := s__law_roll) l__law_roll c__law_roll k__law_roll, PySem.W.mg_of X G a__law_roll, (L2.fun_mk (st := s__law_roll) l__law_roll c__law_roll k__law_roll).binds (ps := ["dice", "total"]) fun _ _ _ _ _ _ us hl => match us, hl with | [_, _], _ => rfl⟩
  have A__law_far : FunAt K mg "_law_far" "_law_far" s__law_far ["dice", "total"] := ⟨f__law_far, _, L2.fun_mk (st := s__law_far) l__law_far c__law_far k__law_far, PySem.W.mg_of X G a__law_far, (L2.fun_mk (st := s__law_far) l__law_far c__law_far k__law_far).binds (ps := ["dice", "total"]) fun _ _ _ _ _ _ us hl => match us, hl with | [_, _], _ => rfl⟩
  have A__law_pick : FunAt K mg "_law_pick" "_law_pick" s__law_pick ["dice", "items"] := ⟨f__law_pick, _, L2.fun_mk (st := s__law_pick) l__law_pick c__law_pick k__law_pick, PySem.W.mg_of X G a__law_pick, (L2.fun_mk (st := s__law_pick) l__law_pick c__law_pick k__law_pick).binds (ps := ["dice", "items"]) fun _ _ _ _ _ _ us hl => match us, hl with | [_, _], _ => rfl⟩
  have A__law_leaned : FunAt K mg "_law_leaned" "_law_leaned" s__law_leaned ["runs"] := ⟨f__law_leaned, _, L2.fun_mk (st := s__law_leaned) l__law_leaned c__law_leaned k__law_leaned, PySem.W.mg_of X G a__law_leaned, (L2.fun_mk (st := s__law_leaned) l__law_leaned c__law_leaned k__law_leaned).binds (ps := ["runs"]) fun _ _ _ _ _ _ us hl => match us, hl with | [_], _ => rfl⟩
  have A__law_part : FunAt K mg "_law_part" "_law_part" s__law_part ["runs", "start", "many"] := ⟨f__law_part, _, L2.fun_mk (st := s__law_part) l__law_part c__law_part k__law_part, PySem.W.mg_of X G a__law_part, (L2.fun_mk (st := s__law_part) l__law_part c__law_part k__law_part).binds (ps := ["runs", "start", "many"]) fun _ _ _ _ _ _ us hl => match us, hl with | [_, _, _], _ => rfl⟩
  have A_Word___eq__ : FunM K "__eq__" "Word.__eq__" s_Word___eq__ ["self", "other"] f_Word___eq__ := ⟨_, L2.fun_mk (st := s_Word___eq__) l_Word___eq__ c_Word___eq__ k_Word___eq__, (L2.fun_mk (st := s_Word___eq__) l_Word___eq__ c_Word___eq__ k_Word___eq__).binds (ps := ["self", "other"]) fun _ _ _ _ _ _ us hl => match us, hl with | [_, _], _ => rfl⟩
  have A_Word___ne__ : FunM K "__ne__" "Word.__ne__" s_Word___ne__ ["self", "other"] f_Word___ne__ := ⟨_, L2.fun_mk (st := s_Word___ne__) l_Word___ne__ c_Word___ne__ k_Word___ne__, (L2.fun_mk (st := s_Word___ne__) l_Word___ne__ c_Word___ne__ k_Word___ne__).binds (ps := ["self", "other"]) fun _ _ _ _ _ _ us hl => match us, hl with | [_, _], _ => rfl⟩
  have A_Word_counts : FunM K "counts" "Word.counts" s_Word_counts ["self"] f_Word_counts := ⟨_, L2.fun_mk (st := s_Word_counts) l_Word_counts c_Word_counts k_Word_counts, (L2.fun_mk (st := s_Word_counts) l_Word_counts c_Word_counts k_Word_counts).binds (ps := ["self"]) fun _ _ _ _ _ _ us hl => match us, hl with | [_], _ => rfl⟩
  have A_Word_letter : FunM K "letter" "Word.letter" s_Word_letter ["self", "place"] f_Word_letter := ⟨_, L2.fun_mk (st := s_Word_letter) l_Word_letter c_Word_letter k_Word_letter, (L2.fun_mk (st := s_Word_letter) l_Word_letter c_Word_letter k_Word_letter).binds (ps := ["self", "place"]) fun _ _ _ _ _ _ us hl => match us, hl with | [_, _], _ => rfl⟩
  have A__law_right : FunAt K mg "_law_right" "_law_right" s__law_right ["dice"] := ⟨f__law_right, _, L2.fun_mk (st := s__law_right) l__law_right c__law_right k__law_right, PySem.W.mg_of X G a__law_right, (L2.fun_mk (st := s__law_right) l__law_right c__law_right k__law_right).binds (ps := ["dice"]) fun _ _ _ _ _ _ us hl => match us, hl with | [_], _ => rfl⟩
  have e := hfa.symm.trans (PySem.W.mg_of X G a_law)
  cases e
  have FL := L2.fun_mk (st := s_law) l_law c_law k_law
  have hb : Binds K (PySem.W.fnOf "law" "law" (defArgs s_law) (defBody s_law) (defScope s_law) .none kV_law dc_law pm_law an_law cd_law ct_law) ["script"] [] := FL.binds (ps := ["script"]) fun _ _ _ _ _ _ us hl => match us, hl with | [_], _ => rfl
  refine ⟨PySem.W.fnOf "law" "law" (defArgs s_law) (defBody s_law) (defScope s_law) .none kV_law dc_law pm_law an_law cd_law ct_law, fun s v => .of_eq rfl, fun base _ _ => ?_⟩
  have SC_Word : SlX.SCls K k_Word := ⟨pg_Word, ic_Word, po_Word, sa_Word⟩
  have GC_Word : (gX K k_Word).cl "Word" = some k_Word := by first | rfl | simp [gX]
  have C_Word : (gX K k_Word).cl "Word" = some k_Word := GC_Word
  have I_Word : IsiC (gX K k_Word) k_Word rel_Word := ⟨kit_plain ic_Word jy_Word rfl, kit_plain ic_Word jy_Word rfl, kit_plain ic_Word jy_Word rfl, kit_plain ic_Word jy_Word rfl, kit_plain ic_Word jy_Word rfl, kit_plain ic_Word jy_Word rfl, fun c b hb => by simp only [rel_Word] at hb; repeat (first | (split at hb; · (rename_i hc; cases hb; subst hc; first | exact ⟨_, GC_Word, SC_Word, ⟨ca_Word, cn_Word, ct_Word, cm_Word⟩, kit_self⟩)) | (cases hb))⟩
  have MK_Word : Mk K k_Word f_Word___init__ := ⟨mk_Word, a_Word___init__, i_Word___init__, kc_Word⟩
  have M_Word_letter : MethC (gX K k_Word) "Word" "letter" f_Word_letter := ⟨⟨_, GC_Word, SC_Word, a_Word_letter, i_Word_letter, k_Word_letter⟩⟩
  have N_Word : mg "Word" = some (.ref k_Word) := PySem.W.mg_of X G n_Word
  have O_Word___eq__ : OwnM (gX K k_Word) "Word" .Eq f_Word___eq__ := ⟨⟨_, GC_Word, a_Word___eq__, i_Word___eq__, nf_Word, nt_Word⟩⟩
  have O_Word___ne__ : OwnM (gX K k_Word) "Word" .NotEq f_Word___ne__ := ⟨⟨_, GC_Word, a_Word___ne__, i_Word___ne__, nf_Word, nt_Word⟩⟩
  have P_Word_counts : PropC (gX K k_Word) "Word" "counts" f_Word_counts := ⟨⟨_, _, GC_Word, SC_Word, a_Word_counts, pg_Word_counts, pt_Word_counts, _, pr_Word_counts⟩⟩
  have P_Word_length : PropC (gX K k_Word) "Word" "length" f_Word_length := ⟨⟨_, _, GC_Word, SC_Word, a_Word_length, pg_Word_length, pt_Word_length, _, pr_Word_length⟩⟩
  have P_Word_runs : PropC (gX K k_Word) "Word" "runs" f_Word_runs := ⟨⟨_, _, GC_Word, SC_Word, a_Word_runs, pg_Word_runs, pt_Word_runs, _, pr_Word_runs⟩⟩
  have P_Word_width : PropC (gX K k_Word) "Word" "width" f_Word_width := ⟨⟨_, _, GC_Word, SC_Word, a_Word_width, pg_Word_width, pt_Word_width, _, pr_Word_width⟩⟩
  have S_Word_own_runs : SlotC (gX K k_Word) "Word" "own_runs" 0 := ⟨⟨_, _, GC_Word, SC_Word, qa_Word_own_runs, qg_Word_own_runs, qk_Word_own_runs, qt_Word_own_runs, qi_Word_own_runs, by decide⟩⟩
  have S_Word_own_width : SlotC (gX K k_Word) "Word" "own_width" 1 := ⟨⟨_, _, GC_Word, SC_Word, qa_Word_own_width, qg_Word_own_width, qk_Word_own_width, qt_Word_own_width, qi_Word_own_width, by decide⟩⟩
  exact (all_ok (P := l.prog) (w := w) T A_is_integer A_is_within A_require_within A_lean_in A_is_run A_are_runs A_counts_of A_part_of A_Word___init__ A_word_in A_require_word A_word_of_runs A_Word_length A_Word_width A_Word_runs A_word_part A_word_joined A_word_repeated A_word_backward A_word_mirrored A_word_between A__law_dice A__law_roll A__law_far A__law_pick A__law_leaned A__law_part A_Word___eq__ A_Word___ne__ A_Word_counts A_Word_letter A__law_right C_Word I_Word MK_Word M_Word_letter N_Word O_Word___eq__ O_Word___ne__ P_Word_counts P_Word_length P_Word_runs P_Word_width S_Word_own_runs S_Word_own_width FL hfa hb base).2.2.2.imp (law_sp (g := (gX K k_Word)) rfl law_den)
theorem walk {l : PySem.W.OpenLaw} {q : Program} {loose : List Str} {XP : (Str → Option Value) → Heap → Prop} {YP : World → Heap → Prop} {d : DefRec} {K : Params → PySem.W.Frag} (hn : l.most = some 63) (hdf : d.params.defaults = [])
    (hY : ∀ (w : World) (h : Heap), YP w h → (K w.params).In h)
    (F : ∀ (w : World) (mg : Str → Option Value) (fa : Addr) (h : Heap), (K w.params).In h → h.Ns mainGlobals mg → mg d.name = some (.ref fa) →
      ∃ fd : FuncData, (∀ (s : Shared) (u : Value), BindsTo s fd ⟨[u], []⟩ [("script", u)]) ∧ ∀ base : Heap, (K w.params).In base → base.Ns mainGlobals mg → FnOk l.prog w (K w.params) mg base (L2.CX l.prog w) 11 fa fd ["script"] (spLaw (K w.params))) :
    PySem.W.WalkO q loose XP YP l.row.toRowW d [] (fun f vs => PySem.call f vs) :=
  L2.walk_of (n := 63) (k := 11) (x := "script") (CX := fun w => L2.CX l.prog w) (sp := fun w => spLaw (K w.params)) hn (by decide) hdf ⟨rfl, by decide, by decide⟩ hY F (fun _ _ a ns hl _ hS => ⟨a, ns, rfl, hS, hl, fun _ => rfl⟩) fun w H s e s' z => by
    obtain ⟨_, _, _, _, _, _, _, _, _, _, _, _, z⟩ := z
    exact z
end L04
open PySem PySem.W PyProof.Rows
set_option maxRecDepth 100000 in
set_option maxHeartbeats 0 in
theorem PySem.Challenge.cw_countshelves_k04_great_words_holds : PySem.Challenge.rw_countshelves_k04_great_words.Holds := by
  w_on; o_law; k_head; (case hw => w_witness2)
  k_fill
  refine L04.walk (l := PySem.Challenge.rw_countshelves_k04_great_words) rfl rfl (fun w h Y => PySem.W.kIn_of Y) ?F
  case F =>
    intro w mg fa h KX G hmg
    refine' L04.all_mk KX G hmg ?n_Word ?pg_Word ?ic_Word ?po_Word ?sa_Word ?mk_Word ?kc_Word ?ca_Word ?cn_Word ?ct_Word ?cm_Word ?nf_Word ?nt_Word ?jy_Word ?qa_Word_own_runs ?qg_Word_own_runs ?qk_Word_own_runs ?qt_Word_own_runs ?qi_Word_own_runs ?qa_Word_own_width ?qg_Word_own_width ?qk_Word_own_width ?qt_Word_own_width ?qi_Word_own_width ?a_is_integer ?l_is_integer ?c_is_integer ?k_is_integer ?a_is_within ?l_is_within ?c_is_within ?k_is_within ?a_require_within ?l_require_within ?c_require_within ?k_require_within ?a_lean_in ?l_lean_in ?c_lean_in ?k_lean_in ?a_is_run ?l_is_run ?c_is_run ?k_is_run ?a_are_runs ?l_are_runs ?c_are_runs ?k_are_runs ?a_counts_of ?l_counts_of ?c_counts_of ?k_counts_of ?a_part_of ?l_part_of ?c_part_of ?k_part_of ?a_Word___init__ ?i_Word___init__ ?l_Word___init__ ?c_Word___init__ ?k_Word___init__ ?a_word_in ?l_word_in ?c_word_in ?k_word_in ?a_require_word ?l_require_word ?c_require_word ?k_require_word ?a_word_of_runs ?l_word_of_runs ?c_word_of_runs ?k_word_of_runs ?a_Word_length ?pg_Word_length ?pt_Word_length ?pr_Word_length ?l_Word_length ?c_Word_length ?k_Word_length ?a_Word_width ?pg_Word_width ?pt_Word_width ?pr_Word_width ?l_Word_width ?c_Word_width ?k_Word_width ?a_Word_runs ?pg_Word_runs ?pt_Word_runs ?pr_Word_runs ?l_Word_runs ?c_Word_runs ?k_Word_runs ?a_word_part ?l_word_part ?c_word_part ?k_word_part ?a_word_joined ?l_word_joined ?c_word_joined ?k_word_joined ?a_word_repeated ?l_word_repeated ?c_word_repeated ?k_word_repeated ?a_word_backward ?l_word_backward ?c_word_backward ?k_word_backward ?a_word_mirrored ?l_word_mirrored ?c_word_mirrored ?k_word_mirrored ?a_word_between ?l_word_between ?c_word_between ?k_word_between ?a__law_dice ?l__law_dice ?c__law_dice ?k__law_dice ?a__law_roll ?l__law_roll ?c__law_roll ?k__law_roll ?a__law_far ?l__law_far ?c__law_far ?k__law_far ?a__law_pick ?l__law_pick ?c__law_pick ?k__law_pick ?a__law_leaned ?l__law_leaned ?c__law_leaned ?k__law_leaned ?a__law_part ?l__law_part ?c__law_part ?k__law_part ?a_Word___eq__ ?i_Word___eq__ ?l_Word___eq__ ?c_Word___eq__ ?k_Word___eq__ ?a_Word___ne__ ?i_Word___ne__ ?l_Word___ne__ ?c_Word___ne__ ?k_Word___ne__ ?a_Word_counts ?pg_Word_counts ?pt_Word_counts ?pr_Word_counts ?l_Word_counts ?c_Word_counts ?k_Word_counts ?a_Word_letter ?i_Word_letter ?l_Word_letter ?c_Word_letter ?k_Word_letter ?a__law_right ?l__law_right ?c__law_right ?k__law_right ?a_law ?l_law ?c_law ?k_law ?z_abs ?z_all ?z_bool ?z_int ?z_isinstance ?z_len ?z_max ?z_min ?z_range ?z_sum ?z_tuple ?y_MOST_RUNS ?y_MOST_TIMES ?y_MOST_TOTAL ?y_MOST_WIDTH
    (case n_Word => k_is)
    (case pg_Word => k_is)
    (case ic_Word => k_is)
    (case po_Word => k_is)
    (case sa_Word => k_is)
    (case mk_Word => k_is)
    (case kc_Word => k_is)
    (case ca_Word => k_is)
    (case cn_Word => k_is)
    (case ct_Word => k_is)
    (case cm_Word => k_is)
    (case nf_Word => k_is)
    (case nt_Word => k_is)
    (case jy_Word => k_is)
    (case qa_Word_own_runs => k_is)
    (case qg_Word_own_runs => k_is)
    (case qk_Word_own_runs => k_is)
    (case qt_Word_own_runs => k_is)
    (case qi_Word_own_runs => k_is)
    (case qa_Word_own_width => k_is)
    (case qg_Word_own_width => k_is)
    (case qk_Word_own_width => k_is)
    (case qt_Word_own_width => k_is)
    (case qi_Word_own_width => k_is)
    (case a_is_integer => k_is)
    (case l_is_integer => k_is)
    (case c_is_integer => k_is)
    (case k_is_integer => k_is)
    (case a_is_within => k_is)
    (case l_is_within => k_is)
    (case c_is_within => k_is)
    (case k_is_within => k_is)
    (case a_require_within => k_is)
    (case l_require_within => k_is)
    (case c_require_within => k_is)
    (case k_require_within => k_is)
    (case a_lean_in => k_is)
    (case l_lean_in => k_is)
    (case c_lean_in => k_is)
    (case k_lean_in => k_is)
    (case a_is_run => k_is)
    (case l_is_run => k_is)
    (case c_is_run => k_is)
    (case k_is_run => k_is)
    (case a_are_runs => k_is)
    (case l_are_runs => k_is)
    (case c_are_runs => k_is)
    (case k_are_runs => k_is)
    (case a_counts_of => k_is)
    (case l_counts_of => k_is)
    (case c_counts_of => k_is)
    (case k_counts_of => k_is)
    (case a_part_of => k_is)
    (case l_part_of => k_is)
    (case c_part_of => k_is)
    (case k_part_of => k_is)
    (case a_Word___init__ => k_is)
    (case i_Word___init__ => k_is)
    (case l_Word___init__ => k_is)
    (case c_Word___init__ => k_is)
    (case k_Word___init__ => k_is)
    (case a_word_in => k_is)
    (case l_word_in => k_is)
    (case c_word_in => k_is)
    (case k_word_in => k_is)
    (case a_require_word => k_is)
    (case l_require_word => k_is)
    (case c_require_word => k_is)
    (case k_require_word => k_is)
    (case a_word_of_runs => k_is)
    (case l_word_of_runs => k_is)
    (case c_word_of_runs => k_is)
    (case k_word_of_runs => k_is)
    (case a_Word_length => k_is)
    (case pg_Word_length => k_is)
    (case pt_Word_length => k_is)
    (case pr_Word_length => k_is)
    (case l_Word_length => k_is)
    (case c_Word_length => k_is)
    (case k_Word_length => k_is)
    (case a_Word_width => k_is)
    (case pg_Word_width => k_is)
    (case pt_Word_width => k_is)
    (case pr_Word_width => k_is)
    (case l_Word_width => k_is)
    (case c_Word_width => k_is)
    (case k_Word_width => k_is)
    (case a_Word_runs => k_is)
    (case pg_Word_runs => k_is)
    (case pt_Word_runs => k_is)
    (case pr_Word_runs => k_is)
    (case l_Word_runs => k_is)
    (case c_Word_runs => k_is)
    (case k_Word_runs => k_is)
    (case a_word_part => k_is)
    (case l_word_part => k_is)
    (case c_word_part => k_is)
    (case k_word_part => k_is)
    (case a_word_joined => k_is)
    (case l_word_joined => k_is)
    (case c_word_joined => k_is)
    (case k_word_joined => k_is)
    (case a_word_repeated => k_is)
    (case l_word_repeated => k_is)
    (case c_word_repeated => k_is)
    (case k_word_repeated => k_is)
    (case a_word_backward => k_is)
    (case l_word_backward => k_is)
    (case c_word_backward => k_is)
    (case k_word_backward => k_is)
    (case a_word_mirrored => k_is)
    (case l_word_mirrored => k_is)
    (case c_word_mirrored => k_is)
    (case k_word_mirrored => k_is)
    (case a_word_between => k_is)
    (case l_word_between => k_is)
    (case c_word_between => k_is)
    (case k_word_between => k_is)
    (case a__law_dice => k_is)
    (case l__law_dice => k_is)
    (case c__law_dice => k_is)
    (case k__law_dice => k_is)
    (case a__law_roll => k_is)
    (case l__law_roll => k_is)
    (case c__law_roll => k_is)
    (case k__law_roll => k_is)
    (case a__law_far => k_is)
    (case l__law_far => k_is)
    (case c__law_far => k_is)
    (case k__law_far => k_is)
    (case a__law_pick => k_is)
    (case l__law_pick => k_is)
    (case c__law_pick => k_is)
    (case k__law_pick => k_is)
    (case a__law_leaned => k_is)
    (case l__law_leaned => k_is)
    (case c__law_leaned => k_is)
    (case k__law_leaned => k_is)
    (case a__law_part => k_is)
    (case l__law_part => k_is)
    (case c__law_part => k_is)
    (case k__law_part => k_is)
    (case a_Word___eq__ => k_is)
    (case i_Word___eq__ => k_is)
    (case l_Word___eq__ => k_is)
    (case c_Word___eq__ => k_is)
    (case k_Word___eq__ => k_is)
    (case a_Word___ne__ => k_is)
    (case i_Word___ne__ => k_is)
    (case l_Word___ne__ => k_is)
    (case c_Word___ne__ => k_is)
    (case k_Word___ne__ => k_is)
    (case a_Word_counts => k_is)
    (case pg_Word_counts => k_is)
    (case pt_Word_counts => k_is)
    (case pr_Word_counts => k_is)
    (case l_Word_counts => k_is)
    (case c_Word_counts => k_is)
    (case k_Word_counts => k_is)
    (case a_Word_letter => k_is)
    (case i_Word_letter => k_is)
    (case l_Word_letter => k_is)
    (case c_Word_letter => k_is)
    (case k_Word_letter => k_is)
    (case a__law_right => k_is)
    (case l__law_right => k_is)
    (case c__law_right => k_is)
    (case k__law_right => k_is)
    (case a_law => k_is)
    (case l_law => k_is)
    (case c_law => k_is)
    (case k_law => k_is)
    (case z_abs => k_is)
    (case z_all => k_is)
    (case z_bool => k_is)
    (case z_int => k_is)
    (case z_isinstance => k_is)
    (case z_len => k_is)
    (case z_max => k_is)
    (case z_min => k_is)
    (case z_range => k_is)
    (case z_sum => k_is)
    (case z_tuple => k_is)
    (case y_MOST_RUNS => k_is)
    (case y_MOST_TIMES => k_is)
    (case y_MOST_TOTAL => k_is)
    (case y_MOST_WIDTH => k_is)
