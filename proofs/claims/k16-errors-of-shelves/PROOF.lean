import PyProof.Rows.All
import Wide.All
import OpenK.AllK
import Wide.FinOn
import HandS.ForMost
import HandS.Exc
import HandS.CallSlots
import HandS.Wide
import HandS.Zip
import HandS.TupAny
import HandS.Walk
import HandS.Slots
import HandS.Lambda
import HandS.EndTab
import KE.KTupSum
import HandS.Deep
import HandS.IsInst
import HandS.Style
import HandS.TupMul
import HandS.SortInts
import HandS.RaiseMore
import PyProof.ListMulRoad
import PyProof.FactsAll.tuple_2
import HandS.WordsExc
import HandS.Rev
import KE.GoesEnum
import KE.KRevSl
import HandS.Star
import HandS.Flt
import HandS.Conv
import HandS.SlotsOwn
import KE.KAssignIn
import HandS.SetFor
import PyProof.MinMaxWalk
import KE.KDictZip
import KE.KItemsList
import KE.GoesMore
import KE.KExcSuper
import KE.KSuper
import HandS.TryMany
import HandS.ExcOwn
import HandS.ExcField
import HandS.Iter
import HandS.RevRange
import PySem.Challenge.RW_countshelves_k16_errors_of_shelves
set_option Elab.async false
set_option linter.all false
set_option maxRecDepth 100000
set_option maxHeartbeats 4000000
/-! A layer of closed values, a store of mutable lists and denotations, over HandS. -/
namespace Pd
open PySem L2

/-! ### values -/
inductive D where
  | non | bl (b : Bool) | int (i : Int) | str (x : Str) | tup (xs : List D) | lst (xs : List D) | obj (c : Str) (fs : List D) | scr (xs : List Int) | val (v : V) | fn (x : Str) | dct (ks : List (List Int)) (vs : List D)
/-- a value of a name: a closed one, or the k-th mutable object of the store -/
inductive Val where
  | d (x : D) | cell (k : Nat)
inductive Cell where
  | lst (xs : List D)
  | obj (c : Str) (fs : List (Option D))
  | refs (ks : List Nat)
abbrev Env := List (Option Val)
abbrev Store := List (Option Cell)
inductive R (α : Type) where
  | ok (a : α) (S : Store) | exc (c : Str) (x : D) (S : Store) | bad
def R.bind {α β : Type} : R α → (α → Store → R β) → R β
  | .ok a S, k => k a S
  | .exc c x S, _ => .exc c x S
  | .bad, _ => .bad
abbrev Ev := Env → Store → R Val
inductive F where
  | nx (Γ : Env) (S : Store) | rt (x : Val) (S : Store) | bk (Γ : Env) (S : Store) | ct (Γ : Env) (S : Store) | exc (c : Str) (x : D) (Γ : Env) (S : Store) | bad
abbrev Sv := Env → Store → F

/-! ### how they stand in the heap -/
structure Gx where
  K : PySem.W.Frag
  cl : Str → Option Addr
  fld : Str → Str
  T : List (Addr × Str)
  fn : Str → Option Addr
structure Wd where
  m : List (Option Addr)
  hid : List Addr
def Wd.av (w : Wd) (a : Addr) : Prop := some a ∈ w.m ∨ a ∈ w.hid

def SqT' (g : Gx) (w : Wd) (H : Hp) (a : Addr) (vs : List V) : Prop :=
  (Rd H a (.tup vs) ∧ ¬ w.av a) ∨ ∃ (o : Obj) (its : Array Value) (n : Nat), g.K.lookup a = some o ∧ o.cls = .type "tuple" ∧ o.data = .seq its n ∧ its.size ≤ sizeLine ∧ Vals vs its.toList
def SqL' (g : Gx) (w : Wd) (H : Hp) (a : Addr) (vs : List V) : Prop :=
  (Rd H a (.lst vs) ∧ ¬ w.av a) ∨ ∃ (o : Obj) (its : Array Value) (n : Nat), g.K.lookup a = some o ∧ o.cls = .type "list" ∧ o.dict = none ∧ o.data = .seq its n ∧ its.size ≤ sizeLine ∧ Vals vs its.toList
theorem SqL'.sq {g : Gx} {w : Wd} {H : Hp} {a : Addr} {vs : List V} (h : SqL' g w H a vs) : SqL g.K H a vs := by
  rcases h with h | h
  · exact .inl h.1
  · exact .inr h
theorem SqT'.sq {g : Gx} {w : Wd} {H : Hp} {a : Addr} {vs : List V} (h : SqT' g w H a vs) : SqT g.K H a vs := by
  rcases h with h | h
  · exact .inl h.1
  · exact .inr h
mutual
inductive Rep (g : Gx) (w : Wd) (H : Hp) : D → V → Prop
  | non : Rep g w H .non .non
  | bl (b : Bool) : Rep g w H (.bl b) (.bl b)
  | int (i : Int) : Rep g w H (.int i) (.int i)
  | str (x : Str) : Rep g w H (.str x) (.str x)
  | tup {a : Addr} {vs : List V} {ds : List D} : SqT' g w H a vs → RepL g w H ds vs → Rep g w H (.tup ds) (.ref a)
  | lst {a : Addr} {vs : List V} {ds : List D} : H a = some (.lst vs) → ¬ w.av a → RepL g w H ds vs → Rep g w H (.lst ds) (.ref a)
  | obj {a C dx : Addr} {c : Str} {vs : List V} {ds : List D} : g.cl c = some C → H a = some (SlX.SlO a C dx (vs.map some)) → H dx = some (.xd []) → ¬ w.av a → ¬ w.av dx → RepL g w H ds vs → Rep g w H (.obj c ds) (.ref a)
  | scr {a : Addr} {ns : List Int} : SqL' g w H a (ns.map V.int) → Rep g w H (.scr ns) (.ref a)
  | val (v : V) : Rep g w H (.val v) v
  | fn {x : Str} {f : Addr} : g.fn x = some f → Rep g w H (.fn x) (.ref f)
  | dct {a : Addr} {ks : List (List Int)} {vs : List V} {ds : List D} : H a = some (.dT ((ks.map fun k => k.map Sum.inl).zip vs)) → ¬ w.av a → ks.length = ds.length → RepL g w H ds vs → Rep g w H (.dct ks ds) (.ref a)
inductive RepL (g : Gx) (w : Wd) (H : Hp) : List D → List V → Prop
  | nil : RepL g w H [] []
  | cons {d : D} {v : V} {ds : List D} {vs : List V} : Rep g w H d v → RepL g w H ds vs → RepL g w H (d :: ds) (v :: vs)
end
def RepV (g : Gx) (w : Wd) (H : Hp) : Val → V → Prop
  | .d x, v => Rep g w H x v
  | .cell k, v => k < w.m.length ∧ ∀ a, w.m[k]? = some (some a) → v = .ref a
inductive RepVs (g : Gx) (w : Wd) (H : Hp) : List Val → List V → Prop
  | nil : RepVs g w H [] []
  | cons {d : Val} {v : V} {ds : List Val} {vs : List V} : RepV g w H d v → RepVs g w H ds vs → RepVs g w H (d :: ds) (v :: vs)

/-- what a step keeps: not what an instance owns, not the table of a code object -/
def Firm (o : HO) : Prop := (∀ x, o ≠ .own x) ∧ ∀ ps, o ≠ .tbl ps
structure Le (w : Wd) (H : Hp) (w' : Wd) (H' : Hp) : Prop where
  av : ∀ a, w'.av a → w.av a ∨ H a = none
  keepN : ∀ a o, H a = some o → Firm o → ¬ w.av a → H' a = some o
  trk : ∀ a, H a ≠ none → H' a ≠ none
  hk : ∀ a ∈ w.hid, H' a = H a
theorem Le.refl (w : Wd) (H : Hp) : Le w H w H := ⟨fun _ h => .inl h, fun _ _ h _ _ => h, fun _ h => h, fun _ _ => rfl⟩
theorem Le.navk {w w' : Wd} {H H' : Hp} (l : Le w H w' H') {a : Addr} {o : HO} (h : H a = some o) (n : ¬ w.av a) : ¬ w'.av a := fun z => by
  rcases l.av a z with q | q
  · exact n q
  · rw [h] at q; cases q
theorem Le.keep {w w' : Wd} {H H' : Hp} (l : Le w H w' H') (a : Addr) (o : HO) (h : H a = some o) (n : ¬ w.av a) (z : Firm o := by constructor <;> (intro x z; cases z)) : H' a = some o := l.keepN a o h z n
theorem Le.trans {w w1 w2 : Wd} {H H1 H2 : Hp} (l : Le w H w1 H1) (r : Le w1 H1 w2 H2) (hid : ∀ a ∈ w.hid, a ∈ w1.hid) : Le w H w2 H2 where
  av := fun a z => by
    rcases r.av a z with q | q
    · exact l.av a q
    · refine .inr ?_
      cases e : H a with
      | none => rfl
      | some o => exact absurd q (l.trk a (by rw [e]; exact fun z => by cases z))
  keepN := fun a o h z n => r.keepN a o (l.keepN a o h z n) z (l.navk h n)
  trk := fun a h => r.trk a (l.trk a h)
  hk := fun a h => (r.hk a (hid a h)).trans (l.hk a h)

section
variable {g : Gx} {w w' : Wd} {H H' : Hp}
theorem SqT'.le (l : Le w H w' H') {a : Addr} {vs : List V} (h : SqT' g w H a vs) : SqT' g w' H' a vs := by
  rcases h with ⟨h | ⟨o, h⟩, n⟩ | h
  · exact .inl ⟨.inl (l.keep _ _ h n), l.navk h n⟩
  · exact .inl ⟨.inr ⟨o, l.keep _ _ h n⟩, l.navk h n⟩
  · exact .inr h
theorem SqL'.le (l : Le w H w' H') {a : Addr} {vs : List V} (h : SqL' g w H a vs) : SqL' g w' H' a vs := by
  rcases h with ⟨h | ⟨o, h⟩, n⟩ | h
  · exact .inl ⟨.inl (l.keep _ _ h n), l.navk h n⟩
  · exact .inl ⟨.inr ⟨o, l.keep _ _ h n⟩, l.navk h n⟩
  · exact .inr h
mutual
theorem Rep.le (l : Le w H w' H') : ∀ {d : D} {v : V}, Rep g w H d v → Rep g w' H' d v
  | _, _, .non => .non
  | _, _, .bl b => .bl b
  | _, _, .int i => .int i
  | _, _, .str x => .str x
  | _, _, .tup h r => .tup (h.le l) (RepL.le l r)
  | _, _, .lst h n r => .lst (l.keep _ _ h n) (l.navk h n) (RepL.le l r)
  | _, _, .obj c h e n n2 r => .obj c (l.keep _ _ h n) (l.keep _ _ e n2) (l.navk h n) (l.navk e n2) (RepL.le l r)
  | _, _, .scr h => .scr (h.le l)
  | _, _, .val v => .val v
  | _, _, .fn h => .fn h
  | _, _, .dct h n z r => .dct (l.keep _ _ h n) (l.navk h n) z (RepL.le l r)
theorem RepL.le (l : Le w H w' H') : ∀ {d : List D} {v : List V}, RepL g w H d v → RepL g w' H' d v
  | _, _, .nil => .nil
  | _, _, .cons h r => .cons (Rep.le l h) (RepL.le l r)
end
theorem RepL.length : ∀ {d : List D} {v : List V}, RepL g w H d v → d.length = v.length
  | _, _, .nil => rfl
  | _, _, .cons _ r => congrArg (· + 1) (RepL.length r)
theorem RepL.get : ∀ {ds : List D} {vs : List V} {i : Nat} {d : D}, RepL g w H ds vs → ds[i]? = some d → ∃ v, vs[i]? = some v ∧ Rep g w H d v
  | _, _, _, _, .nil, e => by simp at e
  | _, _, 0, _, .cons h _, e => by
    simp at e
    subst e
    exact ⟨_, rfl, h⟩
  | _, _, i + 1, d, .cons _ r, e => by
    obtain ⟨v, h1, h2⟩ := RepL.get (i := i) (d := d) r (by simpa using e)
    exact ⟨v, by simpa using h1, h2⟩
theorem RepL.append : ∀ {ds es : List D} {vs us : List V}, RepL g w H ds vs → RepL g w H es us → RepL g w H (ds ++ es) (vs ++ us)
  | _, _, _, _, .nil, s => s
  | _, _, _, _, .cons h r, s => .cons h (RepL.append r s)
theorem RepL.set {d : D} {v : V} (h : Rep g w H d v) : ∀ {ds : List D} {vs : List V} (i : Nat), RepL g w H ds vs → RepL g w H (ds.set i d) (vs.set i v)
  | _, _, _, .nil => .nil
  | _, _, 0, .cons _ r => .cons h r
  | _, _, i + 1, .cons q r => .cons q (RepL.set h i r)
theorem RepL.take : ∀ {ds : List D} {vs : List V} (n : Nat), RepL g w H ds vs → RepL g w H (ds.take n) (vs.take n)
  | _, _, 0, _ => by simp; exact .nil
  | _, _, _ + 1, .nil => .nil
  | _, _, n + 1, .cons h r => .cons h (RepL.take n r)
theorem RepL.drop : ∀ {ds : List D} {vs : List V} (n : Nat), RepL g w H ds vs → RepL g w H (ds.drop n) (vs.drop n)
  | _, _, 0, h => h
  | _, _, _ + 1, .nil => .nil
  | _, _, n + 1, .cons _ r => RepL.drop n r
theorem RepL.reverse : ∀ {ds : List D} {vs : List V}, RepL g w H ds vs → RepL g w H ds.reverse vs.reverse
  | _, _, .nil => .nil
  | _, _, .cons h r => by
    rw [List.reverse_cons, List.reverse_cons]
    exact RepL.append (RepL.reverse r) (.cons h .nil)
theorem RepL.ints : ∀ {ns : List Int} {vs : List V}, RepL g w H (ns.map .int) vs → vs = ns.map V.int
  | [], _, .nil => rfl
  | n :: ns, _, .cons h r => by
    cases h
    rw [RepL.ints r]
    rfl
theorem RepL.bls : ∀ {ns : List Bool} {vs : List V}, RepL g w H (ns.map .bl) vs → vs = ns.map V.bl
  | [], _, .nil => rfl
  | n :: ns, _, .cons h r => by
    cases h
    rw [RepL.bls r]
    rfl
theorem RepL.ofInts : ∀ {ns : List Int}, RepL g w H (ns.map .int) (ns.map V.int)
  | [] => .nil
  | _ :: _ => .cons (.int _) RepL.ofInts
theorem RepL.flatten : ∀ {n : Nat} {ds : List D} {vs : List V}, RepL g w H ds vs → RepL g w H (List.replicate n ds).flatten (List.replicate n vs).flatten
  | 0, _, _, _ => .nil
  | n + 1, _, _, h => by
    rw [List.replicate_succ, List.replicate_succ, List.flatten_cons, List.flatten_cons]
    exact RepL.append h (RepL.flatten h)

/-! ### the state -/
def CellOk (g : Gx) (w : Wd) (H : Hp) : Cell → Addr → Prop
  | .lst ds, a => ∃ vs, H a = some (.lst vs) ∧ RepL g w H ds vs
  | .refs ks, a => ∃ bs : List Addr, H a = some (.lst (bs.map V.ref)) ∧ bs.length = ks.length ∧ ∀ (i k : Nat) (b : Addr), ks[i]? = some k → w.m[k]? = some (some b) → bs[i]? = some b
  | .obj c fs, a => ∃ C dx vs, g.cl c = some C ∧ dx ≠ a ∧ ¬ w.av dx ∧ SlX.Slt H a C dx vs ∧ (H dx = some (.own a) ∨ H dx = some (.xd [])) ∧ vs.length = fs.length ∧ ∀ (i : Nat) (x : D), fs[i]? = some (some x) → ∃ v, vs[i]? = some (some v) ∧ Rep g w H x v
/-- the table at P of the lambdas that are named q -/
def TabK (w : Wd) (H : Hp) (P : Addr) (q : Str) : Prop := ∃ ps : Array Value, H P = some (.tbl ps) ∧ TriplesOk ps.toList ∧ ¬ w.av P ∧
  ∀ (pos : Pos) (cv : Value), codeAmong pos ps.toList = some cv → ∃ c, cv = .ref c ∧ H c = some (LamX.CodeO c q) ∧ ¬ w.av c
theorem codeO_firm {c : Addr} {q : Str} : Firm (LamX.CodeO c q) := by
  constructor <;> (intro x z; unfold LamX.CodeO at z; cases z)
theorem TabK.le {w w' : Wd} {H H' : Hp} {P : Addr} {q : Str} (t : TabK w H P q) (l : Le w H w' H') (k : ∀ ps, H P = some (.tbl ps) → ¬ w.av P → H' P = some (.tbl ps)) : TabK w' H' P q := by
  obtain ⟨ps, h1, h2, h3, h4⟩ := t
  refine ⟨ps, k ps h1 h3, h2, l.navk h1 h3, fun pos cv e => ?_⟩
  obtain ⟨c, e1, e2, e3⟩ := h4 pos cv e
  exact ⟨c, e1, l.keepN c _ e2 codeO_firm e3, l.navk e2 e3⟩
theorem TabK.mut {w : Wd} {H : Hp} {P a : Addr} {o : HO} {q : Str} (t : TabK w H P q) (n : w.av a) : TabK w (upd H a o) P q := by
  obtain ⟨ps, h1, h2, h3, h4⟩ := t
  refine ⟨ps, by rw [upd_ne fun z => h3 (by rw [z]; exact n)]; exact h1, h2, h3, fun pos cv e => ?_⟩
  obtain ⟨c, e1, e2, e3⟩ := h4 pos cv e
  exact ⟨c, e1, by rw [upd_ne fun z => e3 (by rw [z]; exact n)]; exact e2, e3⟩
theorem TabK.new {w w' : Wd} {H : Hp} {P a : Addr} {o : HO} {q : Str} (t : TabK w H P q) (l : Le w H w' (upd H a o)) (n : H a = none) : TabK w' (upd H a o) P q := t.le l fun ps e _ => by rw [upd_ne (ne_of_none e n)]; exact e
structure StOk (g : Gx) (w : Wd) (S : Store) (H : Hp) : Prop where
  len : w.m.length = S.length
  cell : ∀ (k : Nat) (c : Cell), S[k]? = some (some c) → ∃ a, w.m[k]? = some (some a) ∧ CellOk g w H c a
  live : ∀ (k : Nat) (a : Addr), w.m[k]? = some (some a) → ∃ c, S[k]? = some (some c)
  inj : ∀ (j k : Nat) (a : Addr), w.m[j]? = some (some a) → w.m[k]? = some (some a) → j = k
  hid : ∀ a ∈ w.hid, some a ∉ w.m ∧ ∃ xs, H a = some (.lst xs)
  lo : ∀ (r : Nat) (ks : List Nat), S[r]? = some (some (.refs ks)) → ∀ k ∈ ks, k < r
  tab : ∀ p ∈ g.T, TabK w H p.1 p.2
structure EnvOk (g : Gx) (w : Wd) (Γ : Env) (σ : St) (H : Hp) : Prop where
  len : Γ.length = σ.length
  val : ∀ (i : Nat) (x : Val), Γ[i]? = some (some x) → ∃ v, σ[i]? = some (some v) ∧ RepV g w H x v
/-- an expression's step: no object of the store comes; it may go -/
structure Stp (w : Wd) (H : Hp) (w' : Wd) (H' : Hp) : Prop where
  le : Le w H w' H'
  hid : w'.hid = w.hid
  len : w'.m.length = w.m.length
  old : ∀ (k : Nat) (a : Addr), w'.m[k]? = some (some a) → w.m[k]? = some (some a)
theorem Stp.refl (w : Wd) (H : Hp) : Stp w H w H := ⟨.refl w H, rfl, rfl, fun _ _ h => h⟩
theorem Stp.trans {w w1 w2 : Wd} {H H1 H2 : Hp} (l : Stp w H w1 H1) (r : Stp w1 H1 w2 H2) : Stp w H w2 H2 :=
  ⟨l.le.trans r.le (by rw [l.hid]; exact fun _ h => h), r.hid.trans l.hid, r.len.trans l.len, fun k a h => l.old k a (r.old k a h)⟩
theorem RepV.step (l : Stp w H w' H') {x : Val} {v : V} (h : RepV g w H x v) : RepV g w' H' x v := by
  cases x with
  | d x => exact Rep.le l.le h
  | cell k => exact ⟨by rw [l.len]; exact h.1, fun a e => h.2 a (l.old k a e)⟩
theorem RepVs.step (l : Stp w H w' H') : ∀ {xs : List Val} {vs : List V}, RepVs g w H xs vs → RepVs g w' H' xs vs
  | _, _, .nil => .nil
  | _, _, .cons h r => .cons (h.step l) (RepVs.step l r)
theorem RepVs.length : ∀ {d : List Val} {v : List V}, RepVs g w H d v → d.length = v.length
  | _, _, .nil => rfl
  | _, _, .cons _ r => congrArg (· + 1) (RepVs.length r)
theorem RepVs.get : ∀ {ds : List Val} {vs : List V} {i : Nat} {d : Val}, RepVs g w H ds vs → ds[i]? = some d → ∃ v, vs[i]? = some v ∧ RepV g w H d v
  | _, _, _, _, .nil, e => by simp at e
  | _, _, 0, _, .cons h _, e => by
    simp at e
    subst e
    exact ⟨_, rfl, h⟩
  | _, _, i + 1, d, .cons _ r, e => by
    obtain ⟨v, h1, h2⟩ := RepVs.get (i := i) (d := d) r (by simpa using e)
    exact ⟨v, by simpa using h1, h2⟩
theorem EnvOk.step (l : Stp w H w' H') {Γ : Env} {σ : St} (h : EnvOk g w Γ σ H) : EnvOk g w' Γ σ H' :=
  ⟨h.len, fun i x e => let ⟨v, h1, h2⟩ := h.val i x e; ⟨v, h1, h2.step l⟩⟩
theorem EnvOk.set {Γ : Env} {σ : St} (h : EnvOk g w Γ σ H) (i : Nat) {x : Val} {v : V} (r : RepV g w H x v) : EnvOk g w (Γ.set i (some x)) (σ.set i (some v)) H := by
  refine ⟨by simp [h.len], fun j y e => ?_⟩
  by_cases hj : i = j
  · subst hj
    have hlt : i < Γ.length := by
      rcases Nat.lt_or_ge i Γ.length with q | q
      · exact q
      · rw [List.getElem?_eq_none (by simpa using q)] at e
        cases e
    rw [List.getElem?_set_self hlt] at e
    cases e
    exact ⟨v, by rw [List.getElem?_set_self (by rw [← h.len]; exact hlt)], r⟩
  · rw [List.getElem?_set_ne hj] at e
    obtain ⟨u, h1, h2⟩ := h.val j y e
    exact ⟨u, by rw [List.getElem?_set_ne hj]; exact h1, h2⟩
theorem EnvOk.drop1 {Γ : Env} {σ : St} (h : EnvOk g w Γ σ H) (i : Nat) (o : Option V) : EnvOk g w (Γ.set i none) (σ.set i o) H := by
  refine ⟨by simp [h.len], fun j y e => ?_⟩
  by_cases hj : i = j
  · subst hj
    by_cases hlt : i < Γ.length
    · rw [List.getElem?_set_self hlt] at e
      cases e
    · rw [List.getElem?_eq_none (by simpa using hlt)] at e
      cases e
  · rw [List.getElem?_set_ne hj] at e
    obtain ⟨u, h1, h2⟩ := h.val j y e
    exact ⟨u, by rw [List.getElem?_set_ne hj]; exact h1, h2⟩
theorem StOk.hidN {S : Store} (h : StOk g w S H) {a : Addr} (z : a ∈ w.hid) : H a ≠ none := fun y => by
  obtain ⟨xs, e⟩ := (h.hid a z).2
  rw [y] at e
  cases e
theorem StOk.nav {S : Store} (h : StOk g w S H) {p : Addr} (hp : H p = none) : ¬ w.av p := fun z => by
  rcases z with z | z
  · obtain ⟨k, hk⟩ := List.getElem?_of_mem z
    obtain ⟨c, hc⟩ := h.live k p hk
    obtain ⟨a, ha, q⟩ := h.cell k c hc
    rw [hk] at ha
    cases ha
    cases c with
    | lst ds =>
      obtain ⟨vs, e, _⟩ := q
      rw [hp] at e
      cases e
    | refs ks =>
      obtain ⟨bs, e, _⟩ := q
      rw [hp] at e
      cases e
    | obj cn fs =>
      obtain ⟨C, dx, vs, _, _, _, e, _⟩ := q
      rcases e with ⟨e, _⟩ | ⟨e, _⟩
      · rw [hp] at e; cases e
      · rw [hp] at e; cases e
  · obtain ⟨xs, e⟩ := (h.hid p z).2
    rw [hp] at e
    cases e
theorem le_new {S : Store} (h : StOk g w S H) {p : Addr} {o : HO} (hp : H p = none) : Le w H w (upd H p o) where
  av := fun a z => .inl z
  keepN := fun a u e _ n => by rw [upd_ne (ne_of_none e hp)]; exact e
  trk := fun a e => by
    unfold upd
    split
    · exact fun z => by cases z
    · exact e
  hk := fun a z => upd_ne fun q => by
    obtain ⟨xs, e⟩ := (h.hid a z).2
    rw [q, hp] at e
    cases e
theorem CellOk.le (l : Le w H w' H') {c : Cell} {a : Addr} (h : CellOk g w H c a) (e : ∀ b o, (b = a ∨ H b = some (.own a)) → H b = some o → H' b = some o) (mo : ∀ k b, (∃ ks, c = .refs ks ∧ k ∈ ks) → w'.m[k]? = some (some b) → w.m[k]? = some (some b) := by intro _ _ _ z; exact z) : CellOk g w' H' c a := by
  cases c with
  | refs ks =>
    obtain ⟨bs, h1, h2, h3⟩ := h
    exact ⟨bs, e a _ (.inl rfl) h1, h2, fun i k b q z => h3 i k b q (mo k b ⟨ks, rfl, List.mem_of_getElem? q⟩ z)⟩
  | lst ds =>
    obtain ⟨vs, h1, h2⟩ := h
    exact ⟨vs, e a _ (.inl rfl) h1, RepL.le l h2⟩
  | obj cn fs =>
    obtain ⟨C, dx, vs, h1, h2, h3, h4, h5, hl, h6⟩ := h
    have hd : ∀ o, H dx = some o → (o = .own a ∨ o = .xd []) → H' dx = some o := fun o q z => by
      rcases z with z | z
      · exact e dx o (.inr (by rw [q, z])) q
      · rw [z] at q ⊢; exact l.keep _ _ q h3
    refine ⟨C, dx, vs, h1, h2, ?_, ?_, ?_, hl, fun i x q => ?_⟩
    · rcases h5 with q | q
      · exact l.navk q h3
      · exact l.navk q h3
    · rcases h4 with ⟨q, z⟩ | ⟨q, z⟩
      · exact .inl ⟨e a _ (.inl rfl) q, z⟩
      · exact .inr ⟨e a _ (.inl rfl) q, hd _ z (.inr rfl)⟩
    · exact h5.imp (fun q => hd _ q (.inl rfl)) fun q => hd _ q (.inr rfl)
    · obtain ⟨v, q1, q2⟩ := h6 i x q
      exact ⟨v, q1, Rep.le l q2⟩
theorem StOk.new {S : Store} (h : StOk g w S H) {p : Addr} {o : HO} (hp : H p = none) : StOk g w S (upd H p o) := by
  have l := le_new (o := o) h hp
  refine ⟨h.len, fun k c e => ?_, h.live, h.inj, fun a z => ⟨(h.hid a z).1, (h.hid a z).2.imp fun xs e => by rw [upd_ne (ne_of_none e hp)]; exact e⟩, h.lo, fun p z => (h.tab p z).new l hp⟩
  obtain ⟨a, h1, h2⟩ := h.cell k c e
  exact ⟨a, h1, h2.le l fun b o _ q => by rw [upd_ne (ne_of_none q hp)]; exact q⟩
theorem step_new {S : Store} (h : StOk g w S H) {p : Addr} {o : HO} (hp : H p = none) : Stp w H w (upd H p o) := ⟨le_new h hp, rfl, rfl, fun _ _ e => e⟩
end
end Pd

namespace Pd
open PySem L2

/-! ### readings by denotations -/
def ExcRep (g : Gx) (w : Wd) (H : Hp) (c : Str) (x : D) (cls : Value) (dx : Option Addr) : Prop :=
  ∃ C, g.cl c = some C ∧ cls = .ref C ∧ ((g.fld c = "" ∧ x = .non ∧ dx = none) ∨ (g.fld c ≠ "" ∧ ∃ d v, dx = some d ∧ H d = some (.xd [(g.fld c, v)]) ∧ ¬ w.av d ∧ Rep g w H x v))

section
variable {α β : Type}
def RQ (g : Gx) (W : WX) (ρ : Wd → Hp → α → β → Prop) (w : Wd) (σ : St) (H : Hp) (r : R α) (Q : β → Hp → Prop) : Prop := match r with
  | .ok x S' => ∀ v w' H', Stp w H w' H' → StOk g w' S' H' → ρ w' H' x v → Q v H'
  | .exc c x S' => ∀ cls dx w' H', Stp w H w' H' → StOk g w' S' H' → ExcRep g w' H' c x cls dx → W cls dx σ H'
  | .bad => False
def tX (g : Gx) (W : WX) (ρ : Wd → Hp → α → β → Prop) (ev : Env → Store → R α) : St → Hp → (β → Hp → Prop) → Prop := fun σ H Q =>
  ∃ w Γ S, StOk g w S H ∧ EnvOk g w Γ σ H ∧ RQ g W ρ w σ H (ev Γ S) Q
end
abbrev tE (g : Gx) (W : WX) (ev : Ev) : TE := tX g W (RepV g) ev
abbrev tT (g : Gx) (W : WX) (ev : Env → Store → R Bool) : TT := tX g W (fun _ _ a b => a = b) ev
abbrev tA (g : Gx) (W : WX) (ev : Env → Store → R (List Val)) : TA := tX g W (RepVs g) ev

section
variable {α β γ δ : Type} {g : Gx} {W : WX} {ρ : Wd → Hp → α → β → Prop} {ρ' : Wd → Hp → γ → δ → Prop} {w w1 : Wd} {σ : St} {H H1 : Hp}
theorem RQ.to {r : R α} {Q : β → Hp → Prop} (h : RQ g W ρ w σ H r Q) (s : Stp w H w1 H1) : RQ g W ρ w1 σ H1 r Q := by
  cases r with
  | ok x S => exact fun v w' H' s' => h v w' H' (s.trans s')
  | exc c x S => exact fun cls dx w' H' s' => h cls dx w' H' (s.trans s')
  | bad => exact h
theorem tX_seq {Γ : Env} {S : Store} {ea : Env → Store → R α} {k : α → Store → R γ} {Q : δ → Hp → Prop} (st : StOk g w S H) (en : EnvOk g w Γ σ H) (h : RQ g W ρ' w σ H ((ea Γ S).bind k) Q) {P : β → Hp → Prop}
    (hP : ∀ v H1 x S1 w1, Stp w H w1 H1 → StOk g w1 S1 H1 → EnvOk g w1 Γ σ H1 → ρ w1 H1 x v → RQ g W ρ' w1 σ H1 (k x S1) Q → P v H1) : tX g W ρ ea σ H P := by
  refine ⟨w, Γ, S, st, en, ?_⟩
  cases e : ea Γ S with
  | ok x S1 =>
    rw [e] at h
    exact fun v w' H' s st' r => hP v H' x S1 w' s st' (en.step s) r (RQ.to (r := k x S1) h s)
  | exc c x S1 =>
    rw [e] at h
    exact h
  | bad =>
    rw [e] at h
    exact h
theorem RQ.okQ {x : α} {S : Store} {v : β} {Q : β → Hp → Prop} (h : RQ g W ρ w σ H (.ok x S) Q) (st : StOk g w S H) (r : ρ w H x v) : Q v H := h v w H (.refl w H) st r
end
theorem _root_.L2.PE.imp {X : Cx} {e : Expr} {t t' : TE} (h : PE X e t) (i : ∀ σ H Q, t' σ H Q → t σ H Q) : PE X e t' := ⟨fun pins s σ H Q I hw => h.run pins s σ H Q I (i σ H Q hw)⟩
theorem _root_.L2.PT.imp {X : Cx} {e : Expr} {t t' : TT} (h : PT X e t) (i : ∀ σ H Q, t' σ H Q → t σ H Q) : PT X e t' := ⟨fun pins s σ H Q I hw => h.run pins s σ H Q I (i σ H Q hw)⟩
theorem _root_.L2.PW.imp {X : Cx} {e : Expr} {t t' : TT} (h : PW X e t) (i : ∀ σ H Q, t' σ H Q → t σ H Q) : PW X e t' := ⟨fun whole pins s σ H Q I hw => h.run whole pins s σ H Q I (i σ H Q hw)⟩
theorem _root_.L2.PA.imp {X : Cx} {e : List Expr} {t t' : TA} (h : PA X e t) (i : ∀ σ H Q, t' σ H Q → t σ H Q) : PA X e t' := ⟨fun pos pins s σ H Q I hw => h.run pos pins s σ H Q I (i σ H Q hw)⟩
theorem _root_.L2.PS.imp {X : Cx} {e : Stmt} {t t' : TS} (h : PS X e t) (i : ∀ D σ H, t' D σ H → t D σ H) : PS X e t' := ⟨fun pins s σ H D I hw => h.run pins s σ H D I (i D σ H hw)⟩
theorem _root_.L2.PSs.imp {X : Cx} {e : List Stmt} {t t' : TS} (h : PSs X e t) (i : ∀ D σ H, t' D σ H → t D σ H) : PSs X e t' := ⟨fun pins s σ H D I hw => h.run pins s σ H D I (i D σ H hw)⟩
theorem _root_.L2.PG.imp {X : Cx} {e : Expr} {t t' : TG} (h : PG X e t) (i : ∀ v σ H Q, t' v σ H Q → t v σ H Q) : PG X e t' := ⟨fun pins s σ H v u Q I r hw => h.run pins s σ H v u Q I r (i v σ H Q hw)⟩
theorem _root_.L2.PI.imp {X : Cx} {tg e : Expr} {t t' : TI} (h : PI X tg e t) (i : ∀ σ H R, t' σ H R → t σ H R) : PI X tg e t' := ⟨fun pins s σ H R I hw => h.run pins s σ H R I (i σ H R hw)⟩

/-! ### denotations of expressions -/
def cap : Nat := 1000000
def eVar (i : Nat) : Ev := fun Γ S => match Γ[i]? with | some (some x) => .ok x S | _ => .bad
def eC (d : D) : Ev := fun _ S => .ok (.d d) S
def eBin (f : Val → Val → Store → R Val) (a b : Ev) : Ev := fun Γ S => (a Γ S).bind fun x S1 => (b Γ S1).bind fun y S2 => f x y S2
def eUn (f : Val → Store → R Val) (a : Ev) : Ev := fun Γ S => (a Γ S).bind fun x S1 => f x S1
def asB : Val → Store → R Bool
  | .d (.bl b), S => .ok b S
  | _, _ => .bad
def eTest (a : Ev) : Env → Store → R Bool := fun Γ S => (a Γ S).bind asB
def eAnd (a b : Ev) : Ev := fun Γ S => (eTest a Γ S).bind fun x S1 => if x = true then b Γ S1 else .ok (.d (.bl false)) S1
def eOr (a b : Ev) : Ev := fun Γ S => (eTest a Γ S).bind fun x S1 => if x = true then .ok (.d (.bl true)) S1 else b Γ S1
def eNot (a : Ev) : Ev := fun Γ S => (eTest a Γ S).bind fun x S1 => .ok (.d (.bl (!x))) S1
def eIf (t a b : Ev) : Ev := fun Γ S => (eTest t Γ S).bind fun x S1 => if x = true then a Γ S1 else b Γ S1
def eChain (f f' : Val → Val → Store → R Val) (a b c : Ev) : Ev := fun Γ S => (a Γ S).bind fun x S1 => (b Γ S1).bind fun y S2 => (f x y S2).bind fun z S3 => (asB z S3).bind fun k S4 =>
  if k = true then (c Γ S4).bind fun u S5 => f' y u S5 else .ok (.d (.bl false)) S4
def eNil : Env → Store → R (List Val) := fun _ S => .ok [] S
def eCons (a : Ev) (r : Env → Store → R (List Val)) : Env → Store → R (List Val) := fun Γ S => (a Γ S).bind fun x S1 => (r Γ S1).bind fun xs S2 => .ok (x :: xs) S2
def eCall (f : List Val → Store → R Val) (r : Env → Store → R (List Val)) : Ev := fun Γ S => (r Γ S).bind f
/-- closed items alone -/
def clo : List Val → Option (List D)
  | [] => some []
  | .d x :: r => (clo r).map (x :: ·)
  | .cell _ :: _ => none
def fTup (xs : List Val) (S : Store) : R Val := match clo xs with | some ds => if ds.length ≤ cap then .ok (.d (.tup ds)) S else .bad | none => .bad
def fLst (xs : List Val) (S : Store) : R Val := match clo xs with | some ds => if ds.length ≤ cap then .ok (.d (.lst ds)) S else .bad | none => .bad

def Op2 (g : Gx) (r : R2) (f : Val → Val → Store → R Val) : Prop := ∀ (W : WX) (w : Wd) (S : Store) (H : Hp) (σ : St) (x y : Val) (u v : V) (Q : VK), StOk g w S H → RepV g w H x u → RepV g w H y v → RQ g W (RepV g) w σ H (f x y S) Q → r u v H Q
def Op1 (g : Gx) (r : V → Hp → VK → Prop) (f : Val → Store → R Val) : Prop := ∀ (W : WX) (w : Wd) (S : Store) (H : Hp) (σ : St) (x : Val) (u : V) (Q : VK), StOk g w S H → RepV g w H x u → RQ g W (RepV g) w σ H (f x S) Q → r u H Q
def OpN (g : Gx) (r : List V → Hp → VK → Prop) (f : List Val → Store → R Val) : Prop := ∀ (W : WX) (w : Wd) (S : Store) (H : Hp) (σ : St) (xs : List Val) (us : List V) (Q : VK), StOk g w S H → RepVs g w H xs us → RQ g W (RepV g) w σ H (f xs S) Q → r us H Q

section
variable {X : Cx} {g : Gx} {W : WX} {a b c : Expr} {ea eb ec : Ev} {pos : Pos} {es : List Expr} {er : Env → Store → R (List Val)}
theorem p_var {i : Nat} {x : Str} (hN : X.N[i]? = some x := by rfl) (hv : Vis X.env.scope x := by first | exact Or.inl rfl | exact Or.inr (Or.inl rfl) | exact Or.inr (Or.inr rfl)) (hd : (x == ("__debug__" : Str)) = false := by decide) (hcd : (x == ("__classdict__" : Str)) = false := by decide) :
    PE X (.Name x pos) (tE g W (eVar i)) := (pe_var (i := i) hN hv hd hcd).imp fun σ H Q ⟨w, Γ, S, st, en, h⟩ => by
  unfold eVar at h
  cases e : Γ[i]? with
  | none => rw [e] at h; exact h.elim
  | some o =>
    cases o with
    | none => rw [e] at h; exact h.elim
    | some y =>
      rw [e] at h
      obtain ⟨v, h1, h2⟩ := en.val i y e
      exact ⟨v, h1, RQ.okQ h st h2⟩
theorem p_c {e : Expr} {v : V} {d : D} (he : PE X e (tC v)) (hr : ∀ w H, Rep g w H d v) : PE X e (tE g W (eC d)) := he.imp fun σ H Q ⟨w, Γ, S, st, en, h⟩ => RQ.okQ h st (hr w H)
theorem p_int {i : Int} {j : Nat} : PE X (.Constant (.int i) j pos) (tE g W (eC (.int i))) := p_c pe_int fun _ _ => .int i
theorem p_bl {i : Bool} {j : Nat} : PE X (.Constant (.bool i) j pos) (tE g W (eC (.bl i))) := p_c pe_bl fun _ _ => .bl i
theorem p_non {j : Nat} : PE X (.Constant .none j pos) (tE g W (eC .non)) := p_c pe_non fun _ _ => .non
theorem p_str {i : Str} {j : Nat} : PE X (.Constant (.str i) j pos) (tE g W (eC (.str i))) := p_c pe_str fun _ _ => .str i
theorem p_glob {x : Str} {u : Value} {v : V} {d : D} (hg : Gl X x) (hm : X.mg x = some u) (r : RelV v u) (hr : ∀ w H, Rep g w H d v) (hd : (x == ("__debug__" : Str)) = false := by decide) : PE X (.Name x pos) (tE g W (eC d)) := p_c (pe_glob hg hm r hd) hr
theorem p_globI {x : Str} {i : Int} {t : Tok} (hg : Gl X x) (hm : X.mg x = some (.int i t)) (hd : (x == ("__debug__" : Str)) = false := by decide) : PE X (.Name x pos) (tE g W (eC (.int i))) := p_glob (v := .int i) hg hm (show RelV (.int i) (.int i t) from ⟨t, rfl⟩) (fun _ _ => .int i) hd

theorem p_bin {op : Operator} {r : R2} {f : Val → Val → Store → R Val} (ho : OpR X (binaryOp op) r) (hf : Op2 g r f) (ha : PE X a (tE g W ea)) (hb : PE X b (tE g W eb)) : PE X (.BinOp a op b pos) (tE g W (eBin f ea eb)) :=
  (pe_op ho ha hb).imp fun σ H Q ⟨w, Γ, S, st, en, h⟩ => tX_seq st en h fun u H1 x S1 w1 s1 st1 en1 r1 h1 => tX_seq st1 en1 h1 fun v H2 y S2 w2 s2 st2 en2 r2 h2 =>
    hf W w2 S2 H2 σ x y u v Q st2 (r1.step s2) r2 h2
theorem p_un {op : UnaryOp} {r : V → Hp → VK → Prop} {f : Val → Store → R Val} (ho : UnR X (unaryOp op) r) (hf : Op1 g r f) (ha : PE X a (tE g W ea)) : PE X (.UnaryOp op a pos) (tE g W (eUn f ea)) :=
  (pe_un ho ha).imp fun σ H Q ⟨w, Γ, S, st, en, h⟩ => tX_seq st en h fun u H1 x S1 w1 s1 st1 en1 r1 h1 => hf W w1 S1 H1 σ x u Q st1 r1 h1
theorem p_cmp {op : CmpOp} {r : R2} {f : Val → Val → Store → R Val} (ho : OpR X (compareOp op) r) (hf : Op2 g r f) (ha : PE X a (tE g W ea)) (hb : PE X b (tE g W eb)) (hm : behindInMarks op b = false := by first | exact nobehind _ (by decide) (by decide) | rfl) :
    PE X (.Compare a [op] [b] pos) (tE g W (eBin f ea eb)) :=
  (pe_cmpR ho ha hb hm).imp fun σ H Q ⟨w, Γ, S, st, en, h⟩ => tX_seq st en h fun u H1 x S1 w1 s1 st1 en1 r1 h1 => tX_seq st1 en1 h1 fun v H2 y S2 w2 s2 st2 en2 r2 h2 =>
    hf W w2 S2 H2 σ x y u v Q st2 (r1.step s2) r2 h2
/-- the test of a value: behind its reading -/
theorem asB_q {w : Wd} {σ : St} {H : Hp} {x : Val} {v : V} {S : Store} {Q : Bool → Hp → Prop} (st : StOk g w S H) (r : RepV g w H x v) (h : RQ g W (fun _ _ a b => a = b) w σ H (asB x S) Q) : ∃ k, v = .bl k ∧ Q k H := by
  cases x with
  | cell k => exact h.elim
  | d x =>
    cases x with
    | bl b =>
      cases r
      exact ⟨b, rfl, RQ.okQ h st rfl⟩
    | _ => exact h.elim
theorem R.bind_assoc {α β γ : Type} {r : R α} {k : α → Store → R β} {l : β → Store → R γ} : (r.bind k).bind l = r.bind fun x S => (k x S).bind l := by
  cases r <;> rfl
theorem pt_cmp' {op : CmpOp} {r : R2} {f : Val → Val → Store → R Val} (ho : OpR X (compareOp op) r) (hf : Op2 g r f) (ha : PE X a (tE g W ea)) (hb : PE X b (tE g W eb)) (hm : behindInMarks op b = false := by first | exact nobehind _ (by decide) (by decide) | rfl) :
    PT X (.Compare a [op] [b] pos) (tT g W (eTest (eBin f ea eb))) :=
  (pt_cmpR ho ha hb hm).imp fun σ H Q ⟨w, Γ, S, st, en, h⟩ => by
    unfold eTest eBin at h
    rw [R.bind_assoc] at h
    refine tX_seq st en h fun u H1 x S1 w1 s1 st1 en1 r1 h1 => ?_
    rw [R.bind_assoc] at h1
    refine tX_seq st1 en1 h1 fun v H2 y S2 w2 s2 st2 en2 r2 h2 => ?_
    refine hf W w2 S2 H2 σ x y u v _ st2 (r1.step s2) r2 ?_
    revert h2
    cases f x y S2 with
    | ok z S3 => exact fun h2 v' w' H' s' st' r' => asB_q st' r' (RQ.to (r := asB z S3) h2 s')
    | exc c z S3 => exact id
    | bad => exact id
/-- an expression whose value is a bool, as a test -/
theorem pt_v (ha : PE X a (tE g W ea)) (he : ∀ whole, isTrue a X.env whole = (do let v ← whole; standAt a.pos; holding [v] (truthy v)) := by intro _; rfl) : PT X a (tT g W (eTest ea)) :=
  (pt_val ha he).imp fun σ H Q ⟨w, Γ, S, st, en, h⟩ => tX_seq st en h fun u H1 x S1 w1 s1 st1 en1 r1 h1 => asB_q st1 r1 h1
theorem pt_not' (ha : PT X a (tT g W (eTest ea))) : PT X (.UnaryOp .Not a pos) (tT g W (eTest (eNot ea))) :=
  (pt_not ha).imp fun σ H Q ⟨w, Γ, S, st, en, h⟩ => by
    unfold eTest eNot at h
    rw [R.bind_assoc] at h
    refine tX_seq st en h fun u H1 x S1 w1 s1 st1 en1 r1 h1 => ?_
    cases r1
    exact RQ.okQ h1 st1 rfl
theorem p_not (ha : PE X a (tE g W ea)) : PE X (.UnaryOp .Not a pos) (tE g W (eNot ea)) :=
  (pe_not ha).imp fun σ H Q ⟨w, Γ, S, st, en, h⟩ => by
    unfold eNot eTest at h
    rw [R.bind_assoc] at h
    refine tX_seq st en h fun u H1 x S1 w1 s1 st1 en1 r1 h1 => ?_
    cases x with
    | cell k => exact h1.elim
    | d x =>
      cases x with
      | bl b =>
        cases r1
        exact ⟨b, rfl, RQ.okQ h1 st1 (.bl _)⟩
      | _ => exact h1.elim
variable {rest : List Expr}
theorem p_and1 {op : BoolOp} (ha : PE X a (tE g W ea)) : PE X (.BoolOp op [a] pos) (tE g W ea) := pe_one ha
theorem p_and (ha : PE X a (tE g W ea)) (hb : PE X (.BoolOp .And (b :: rest) pos) (tE g W eb)) : PE X (.BoolOp .And (a :: b :: rest) pos) (tE g W (eAnd ea eb)) :=
  (pe_and ha hb).imp fun σ H Q ⟨w, Γ, S, st, en, h⟩ => by
    unfold eAnd eTest at h
    rw [R.bind_assoc] at h
    refine tX_seq st en h fun u H1 x S1 w1 s1 st1 en1 r1 h1 => ?_
    cases x with
    | cell k => exact h1.elim
    | d x =>
      cases x with
      | bl b =>
        cases r1
        refine ⟨b, rfl, ?_⟩
        cases b with
        | true => exact ⟨w1, Γ, S1, st1, en1, h1⟩
        | false => exact RQ.okQ h1 st1 (.bl false)
      | _ => exact h1.elim
theorem p_or (ha : PE X a (tE g W ea)) (hb : PE X (.BoolOp .Or (b :: rest) pos) (tE g W eb)) : PE X (.BoolOp .Or (a :: b :: rest) pos) (tE g W (eOr ea eb)) :=
  (pe_or ha hb).imp fun σ H Q ⟨w, Γ, S, st, en, h⟩ => by
    unfold eOr eTest at h
    rw [R.bind_assoc] at h
    refine tX_seq st en h fun u H1 x S1 w1 s1 st1 en1 r1 h1 => ?_
    cases x with
    | cell k => exact h1.elim
    | d x =>
      cases x with
      | bl b =>
        cases r1
        refine ⟨b, rfl, ?_⟩
        cases b with
        | false => exact ⟨w1, Γ, S1, st1, en1, h1⟩
        | true => exact RQ.okQ h1 st1 (.bl true)
      | _ => exact h1.elim
theorem pw_and1' (ha : PT X a (tT g W (eTest ea))) : PW X (.BoolOp .And [a] pos) (tT g W (eTest ea)) := pw_and1 ha
theorem pw_or1' (ha : PT X a (tT g W (eTest ea))) : PW X (.BoolOp .Or [a] pos) (tT g W (eTest ea)) := pw_or1 ha
theorem pw_and' (ha : PT X a (tT g W (eTest ea))) (hb : PW X (.BoolOp .And (b :: rest) pos) (tT g W (eTest eb))) : PW X (.BoolOp .And (a :: b :: rest) pos) (tT g W (eTest (eAnd ea eb))) :=
  (pw_and ha hb).imp fun σ H Q ⟨w, Γ, S, st, en, h⟩ => by
    have e : eTest (eAnd ea eb) Γ S = (eTest ea Γ S).bind fun x S1 => if x = true then eTest eb Γ S1 else .ok false S1 := by
      show ((eTest ea Γ S).bind _).bind _ = _
      rw [R.bind_assoc]
      congr 1
      funext x S1
      cases x <;> rfl
    rw [e] at h
    refine tX_seq st en h fun u H1 x S1 w1 s1 st1 en1 r1 h1 => ?_
    cases r1
    cases u with
    | true => exact ⟨w1, Γ, S1, st1, en1, h1⟩
    | false => exact RQ.okQ h1 st1 rfl
theorem pw_or' (ha : PT X a (tT g W (eTest ea))) (hb : PW X (.BoolOp .Or (b :: rest) pos) (tT g W (eTest eb))) : PW X (.BoolOp .Or (a :: b :: rest) pos) (tT g W (eTest (eOr ea eb))) :=
  (pw_or ha hb).imp fun σ H Q ⟨w, Γ, S, st, en, h⟩ => by
    have e : eTest (eOr ea eb) Γ S = (eTest ea Γ S).bind fun x S1 => if x = true then .ok true S1 else eTest eb Γ S1 := by
      show ((eTest ea Γ S).bind _).bind _ = _
      rw [R.bind_assoc]
      congr 1
      funext x S1
      cases x <;> rfl
    rw [e] at h
    refine tX_seq st en h fun u H1 x S1 w1 s1 st1 en1 r1 h1 => ?_
    cases r1
    cases u with
    | false => exact ⟨w1, Γ, S1, st1, en1, h1⟩
    | true => exact RQ.okQ h1 st1 rfl
theorem p_if (hc : PT X c (tT g W (eTest ec))) (ha : PE X a (tE g W ea)) (hb : PE X b (tE g W eb)) : PE X (.IfExp c a b pos) (tE g W (eIf ec ea eb)) :=
  (pe_ifExp hc ha hb).imp fun σ H Q ⟨w, Γ, S, st, en, h⟩ => by
    refine tX_seq st en h fun u H1 x S1 w1 s1 st1 en1 r1 h1 => ?_
    cases r1
    cases u with
    | true => exact ⟨w1, Γ, S1, st1, en1, h1⟩
    | false => exact ⟨w1, Γ, S1, st1, en1, h1⟩
theorem chain_q {r r' : R2} {f f' : Val → Val → Store → R Val} (hf : Op2 g r f) (hf' : Op2 g r' f') {σ : St} {H : Hp} {Q : VK} (h : tE g W (eChain f f' ea eb ec) σ H Q) : tChain r r' (tE g W ea) (tE g W eb) (tE g W ec) σ H Q := by
  obtain ⟨w, Γ, S, st, en, h⟩ := h
  refine tX_seq st en h fun u H1 x S1 w1 s1 st1 en1 r1 h1 => tX_seq st1 en1 h1 fun v H2 y S2 w2 s2 st2 en2 r2 h2 => hf W w2 S2 H2 σ x y u v _ st2 (r1.step s2) r2 ?_
  revert h2
  cases f x y S2 with
  | ok z S3 =>
    intro h2 v' w' H' s' st' r'
    have h3 := RQ.to (r := (asB z S3).bind _) h2 s'
    cases z with
    | cell k => exact h3.elim
    | d z =>
      cases z with
      | bl k =>
        cases r'
        refine ⟨k, rfl, ?_⟩
        cases k with
        | true => exact tX_seq st' (en2.step s') h3 fun v4 H4 z4 S4 w4 s4 st4 en4 r4 h4 => hf' W w4 S4 H4 σ y z4 v v4 Q st4 ((r2.step s').step s4) r4 h4
        | false => exact RQ.okQ h3 st' (.bl false)
      | _ => exact h3.elim
  | exc c z S3 => exact id
  | bad => exact id
theorem p_chain {op op' : CmpOp} {r r' : R2} {f f' : Val → Val → Store → R Val} (ho : OpR X (compareOp op) r) (hf : Op2 g r f) (ho' : OpR X (compareOp op') r') (hf' : Op2 g r' f') (ha : PE X a (tE g W ea)) (hb : PE X b (tE g W eb)) (hc : PE X c (tE g W ec))
    (hm : lastMarks [op, op'] [b, c] = false := by with_unfolding_all rfl) : PE X (.Compare a [op, op'] [b, c] pos) (tE g W (eChain f f' ea eb ec)) := (pe_chain ho ho' ha hb hc hm).imp fun σ H Q h => chain_q hf hf' h
theorem pt_chain' {op op' : CmpOp} {r r' : R2} {f f' : Val → Val → Store → R Val} (ho : OpR X (compareOp op) r) (hf : Op2 g r f) (ho' : OpR X (compareOp op') r') (hf' : Op2 g r' f') (ha : PE X a (tE g W ea)) (hb : PE X b (tE g W eb)) (hc : PE X c (tE g W ec))
    (hm : lastMarks [op, op'] [b, c] = false := by with_unfolding_all rfl) : PT X (.Compare a [op, op'] [b, c] pos) (tT g W (eTest (eChain f f' ea eb ec))) :=
  (pt_chain ho ho' ha hb hc hm).imp fun σ H Q h => by
    refine chain_q (g := g) (W := W) hf hf' ?_
    obtain ⟨w, Γ, S, st, en, h⟩ := h
    refine ⟨w, Γ, S, st, en, ?_⟩
    revert h
    show RQ g W _ w σ H ((eChain f f' ea eb ec Γ S).bind asB) Q → _
    cases eChain f f' ea eb ec Γ S with
    | ok z S3 => exact fun h2 v' w' H' s' st' r' => asB_q st' r' (RQ.to (r := asB z S3) h2 s')
    | exc c z S3 => exact id
    | bad => exact id
theorem a_nil : PA X [] (tA g W eNil) := pa_nil.imp fun σ H Q ⟨w, Γ, S, st, en, h⟩ => RQ.okQ h st .nil
theorem a_cons (ha : PE X a (tE g W ea)) (hr : PA X es (tA g W er)) (hs : starEach (a :: es) X.env = (false, eval a X.env) :: starEach es X.env := by rfl) : PA X (a :: es) (tA g W (eCons ea er)) :=
  (pa_cons ha hr hs).imp fun σ H Q ⟨w, Γ, S, st, en, h⟩ => tX_seq st en h fun u H1 x S1 w1 s1 st1 en1 r1 h1 => tX_seq st1 en1 h1 fun v H2 y S2 w2 s2 st2 en2 r2 h2 =>
    RQ.okQ h2 st2 (.cons (r1.step s2) r2)
theorem clo_rep {w : Wd} {H : Hp} : ∀ {xs : List Val} {vs : List V} {ds : List D}, RepVs g w H xs vs → clo xs = some ds → RepL g w H ds vs
  | _, _, _, .nil, e => by
    cases e
    exact .nil
  | .d x :: xs, _, ds, .cons h r, e => by
    unfold clo at e
    cases q : clo xs with
    | none => rw [q] at e; cases e
    | some es =>
      rw [q] at e
      cases e
      exact .cons h (clo_rep r q)
  | .cell _ :: _, _, _, .cons _ _, e => by cases e
theorem RepL.new {w : Wd} {S : Store} {H : Hp} (st : StOk g w S H) {p : Addr} {o : HO} (hp : H p = none) {ds : List D} {vs : List V} (r : RepL g w H ds vs) : RepL g w (upd H p o) ds vs := RepL.le (le_new st hp) r
theorem rep_tup {w : Wd} {S : Store} {H : Hp} (st : StOk g w S H) {p : Addr} (hp : H p = none) {ds : List D} {vs : List V} (r : RepL g w H ds vs) : Rep g w (upd H p (.tup vs)) (.tup ds) (.ref p) := .tup (.inl ⟨.inl upd_same, st.nav hp⟩) (r.new st hp)
theorem rep_lst {w : Wd} {S : Store} {H : Hp} (st : StOk g w S H) {p : Addr} (hp : H p = none) {ds : List D} {vs : List V} (r : RepL g w H ds vs) : Rep g w (upd H p (.lst vs)) (.lst ds) (.ref p) := .lst upd_same (st.nav hp) (r.new st hp)
theorem RQ.newQ {x : Val} {w : Wd} {σ : St} {S : Store} {H : Hp} {p : Addr} {o : HO} {v : V} {Q : VK} (h : RQ g W (RepV g) w σ H (.ok x S) Q) (st : StOk g w S H) (hp : H p = none) (r : RepV g w (upd H p o) x v) : Q v (upd H p o) :=
  h v w _ (step_new st hp) (st.new hp) r
theorem cap_le {n : Nat} (h : n ≤ cap) : n ≤ sizeLine := Nat.le_trans h (by decide)
theorem p_tup {k : Nat} (h : PA X es (tA g W er)) : PE X (.Tuple es k pos) (tE g W (eCall fTup er)) :=
  (pe_tup h).imp fun σ H Q ⟨w, Γ, S, st, en, h⟩ => tX_seq st en h fun us H1 xs S1 w1 s1 st1 en1 r1 h1 => by
    unfold fTup at h1
    cases e : clo xs with
    | none => rw [e] at h1; exact h1.elim
    | some ds =>
      rw [e] at h1
      have rl := clo_rep r1 e
      by_cases hz : ds.length ≤ cap
      · simp only [if_pos hz] at h1
        exact ⟨by rw [← rl.length]; exact cap_le hz, fun p hp => RQ.newQ h1 st1 hp (rep_tup st1 hp rl)⟩
      · simp only [if_neg hz] at h1
        exact h1.elim
theorem p_lst (h : PA X es (tA g W er)) : PE X (.List es pos) (tE g W (eCall fLst er)) :=
  (pe_lst h).imp fun σ H Q ⟨w, Γ, S, st, en, h⟩ => tX_seq st en h fun us H1 xs S1 w1 s1 st1 en1 r1 h1 => by
    unfold fLst at h1
    cases e : clo xs with
    | none => rw [e] at h1; exact h1.elim
    | some ds =>
      rw [e] at h1
      have rl := clo_rep r1 e
      by_cases hz : ds.length ≤ cap
      · simp only [if_pos hz] at h1
        exact ⟨by rw [← rl.length]; exact cap_le hz, fun p hp => RQ.newQ h1 st1 hp (rep_lst st1 hp rl)⟩
      · simp only [if_neg hz] at h1
        exact h1.elim
end
end Pd

namespace Pd
open PySem L2

/-! ### data that can be compared -/
mutual
/-- numbers, texts, None, tuples and lists of them, so deep at most -/
def fit : Nat → D → Bool
  | _, .non => true
  | _, .bl _ => true
  | _, .int _ => true
  | _, .str x => PySem.PyData.strOk x
  | n + 1, .tup xs => fitL n xs
  | n + 1, .lst xs => fitL n xs
  | _, _ => false
def fitL : Nat → List D → Bool
  | _, [] => true
  | n, x :: xs => fit n x && fitL n xs
end
mutual
def D.pd : D → PyData
  | .non => .none
  | .bl b => .bool b
  | .int i => .int i
  | .str x => .str x
  | .tup xs => .tuple (pdL xs)
  | .lst xs => .list (pdL xs)
  | _ => .none
def pdL : List D → List PyData
  | [] => []
  | x :: xs => x.pd :: pdL xs
end
def b2 (b : Bool) : Int := if b then 1 else 0
mutual
/-- Python's == -/
def D.eqv : D → D → Bool
  | .non, .non => true
  | .bl a, .bl b => a == b
  | .bl a, .int j => b2 a == j
  | .int i, .bl b => i == b2 b
  | .int i, .int j => i == j
  | .str x, .str y => x == y
  | .tup xs, .tup ys => eqvL xs ys
  | .lst xs, .lst ys => eqvL xs ys
  | _, _ => false
def eqvL : List D → List D → Bool
  | [], [] => true
  | x :: xs, y :: ys => x.eqv y && eqvL xs ys
  | _, _ => false
end
mutual
theorem fit_shape : ∀ (n : Nat) (d : D), fit n d = true → d.pd.canLay0 = true ∧ d.pd.depth ≤ n
  | _, .non, _ => ⟨rfl, Nat.zero_le _⟩
  | _, .bl _, _ => ⟨rfl, Nat.zero_le _⟩
  | _, .int _, _ => ⟨rfl, Nat.zero_le _⟩
  | n, .str x, h => by
    refine ⟨?_, Nat.zero_le _⟩
    unfold fit at h
    exact h
  | n + 1, .tup xs, h => by
    unfold fit at h
    obtain ⟨h1, h2⟩ := fitL_shape n xs h
    exact ⟨h1, Nat.succ_le_succ h2⟩
  | n + 1, .lst xs, h => by
    unfold fit at h
    obtain ⟨h1, h2⟩ := fitL_shape n xs h
    exact ⟨h1, Nat.succ_le_succ h2⟩
  | 0, .tup xs, h => by simp [fit] at h
  | 0, .lst xs, h => by simp [fit] at h
  | 0, .obj _ _, h => by simp [fit] at h
  | _ + 1, .obj _ _, h => by simp [fit] at h
  | 0, .scr _, h => by simp [fit] at h
  | _ + 1, .scr _, h => by simp [fit] at h
  | 0, .val _, h => by simp [fit] at h
  | 0, .fn _, h => by simp [fit] at h
  | 0, .dct _ _, h => by simp [fit] at h
  | _ + 1, .val _, h => by simp [fit] at h
  | _ + 1, .fn _, h => by simp [fit] at h
  | _ + 1, .dct _ _, h => by simp [fit] at h
theorem fitL_shape : ∀ (n : Nat) (d : List D), fitL n d = true → PyData.canLayAll0 (pdL d) = true ∧ PyData.depthAll (pdL d) ≤ n
  | _, [], _ => ⟨rfl, Nat.zero_le _⟩
  | n, x :: xs, h => by
    unfold fitL at h
    obtain ⟨h1, h2⟩ := Bool.and_eq_true_iff.mp h
    obtain ⟨a1, a2⟩ := fit_shape n x h1
    obtain ⟨b1, b2⟩ := fitL_shape n xs h2
    refine ⟨?_, ?_⟩
    · show (x.pd.canLay0 && PyData.canLayAll0 (pdL xs)) = true
      rw [a1, b1]
      rfl
    · show max x.pd.depth (PyData.depthAll (pdL xs)) ≤ n
      omega
end
theorem fit_shaped {d : D} (h : fit 60 d = true) : SeqAt.shaped d.pd = true := by
  obtain ⟨h1, h2⟩ := fit_shape 60 d h
  unfold SeqAt.shaped
  rw [h1, Bool.true_and]
  exact decide_eq_true (by omega)
mutual
theorem fit_dp {g : Gx} {w : Wd} {H : Hp} : ∀ {n : Nat} {d : D} {v : V}, Rep g w H d v → fit n d = true → Dp g.K H v d.pd
  | _, _, _, .non, _ => .non
  | _, _, _, .bl b, _ => .bl b
  | _, _, _, .int i, _ => .int i
  | _, _, _, .str x, _ => .str x
  | n, _, _, .tup h r, e => by
    cases n with
    | zero => simp [fit] at e
    | succ n =>
      unfold fit at e
      exact .tup h.sq (fit_dpL r e)
  | n, _, _, .lst h _ r, e => by
    cases n with
    | zero => simp [fit] at e
    | succ n =>
      unfold fit at e
      exact .lst (.inl (.inl h)) (fit_dpL r e)
  | n, _, _, .obj .., e => by cases n <;> simp [fit] at e
  | n, _, _, .scr .., e => by cases n <;> simp [fit] at e
  | n, _, _, .val .., e => by cases n <;> simp [fit] at e
  | n, _, _, .fn .., e => by cases n <;> simp [fit] at e
  | n, _, _, .dct .., e => by cases n <;> simp [fit] at e
theorem fit_dpL {g : Gx} {w : Wd} {H : Hp} : ∀ {n : Nat} {d : List D} {v : List V}, RepL g w H d v → fitL n d = true → DpAll g.K H v (pdL d)
  | _, _, _, .nil, _ => .nil
  | n, _, _, .cons h r, e => by
    unfold fitL at e
    obtain ⟨h1, h2⟩ := Bool.and_eq_true_iff.mp e
    exact .cons (fit_dp h h1) (fit_dpL r h2)
end
mutual
theorem pd_eqv : ∀ (n m : Nat) (d e : D), fit n d = true → fit m e = true → PyData.eqv d.pd e.pd = d.eqv e
  | n, m, d, e, h1, h2 => by
    cases d with
    | obj _ _ => cases n <;> simp [fit] at h1
    | scr _ => cases n <;> simp [fit] at h1
    | val _ => cases n <;> simp [fit] at h1
    | fn _ => cases n <;> simp [fit] at h1
    | dct _ _ => cases n <;> simp [fit] at h1
    | non => cases e <;> first | rfl | (cases m <;> simp [fit] at h2)
    | bl a => cases e <;> first | rfl | (cases m <;> simp [fit] at h2)
    | int a => cases e <;> first | rfl | (cases m <;> simp [fit] at h2)
    | str a => cases e <;> first | rfl | (cases m <;> simp [fit] at h2)
    | tup xs =>
      cases e with
      | tup ys =>
        cases n with
        | zero => simp [fit] at h1
        | succ n =>
          cases m with
          | zero => simp [fit] at h2
          | succ m =>
            unfold fit at h1 h2
            exact pd_eqvL n m xs ys h1 h2
      | _ => first | rfl | (cases m <;> simp [fit] at h2)
    | lst xs =>
      cases e with
      | lst ys =>
        cases n with
        | zero => simp [fit] at h1
        | succ n =>
          cases m with
          | zero => simp [fit] at h2
          | succ m =>
            unfold fit at h1 h2
            exact pd_eqvL n m xs ys h1 h2
      | _ => first | rfl | (cases m <;> simp [fit] at h2)
theorem pd_eqvL : ∀ (n m : Nat) (d e : List D), fitL n d = true → fitL m e = true → PyData.eqvAll (pdL d) (pdL e) = eqvL d e
  | _, _, [], [], _, _ => rfl
  | _, _, [], _ :: _, _, _ => rfl
  | _, _, _ :: _, [], _, _ => rfl
  | n, m, x :: xs, y :: ys, h1, h2 => by
    unfold fitL at h1 h2
    obtain ⟨a1, a2⟩ := Bool.and_eq_true_iff.mp h1
    obtain ⟨b1, b2⟩ := Bool.and_eq_true_iff.mp h2
    show (PyData.eqv x.pd y.pd && PyData.eqvAll (pdL xs) (pdL ys)) = (x.eqv y && eqvL xs ys)
    rw [pd_eqv n m x y a1 b1, pd_eqvL n m xs ys a2 b2]
end
end Pd

set_option maxHeartbeats 4000000
/-! a tuple that stays what it is behind * -/
namespace Pd
open PySem PySem.Spec PyProof.Rows L2
theorem once_W (l : Addr) (its : Array Value) (n : Nat) (dd : Option Addr) (sl : Array (Option Value)) (x : Int) (u : Tok) (z0 : (decide (x < -(2 ^ 63)) || decide (x ≥ 2 ^ 63)) = false) (z1 : (its.isEmpty || x == 1) = true) :
    Meets (Builtin.«tuple.__mul__» ⟨[.ref l, .int x u], []⟩) (fun _ R s => s.heap.get? l = some { cls := .type "tuple", dict := dd, data := .seq its n, slots := sl } ∧
      R (.ok (.ret (Value.ref l))) s) :=
  .of_wp fun prog w A R s h => by
    obtain ⟨hp, g, d, tk, os⟩ := s
    obtain ⟨hl, h⟩ := h
    have f1 := AutoSeq1.idx_int
    wp_walk using wpAny_loadPart' hl
    refine wpAny_ite_false (decide_eq_false (by rw [z0]; exact Bool.false_ne_true)) ?_
    wp_walk using wpAny_loadPart' hl
    repeat (first
      | (refine wpAny_ite_true (decide_eq_true z1) ?_; wp_walk using wpAny_loadPart' hl)
      | (refine wpAny_ite_true (decide_eq_true rfl) ?_; wp_walk using wpAny_loadPart' hl))
    exact ⟨_, rfl, h⟩
def rRepS (K : PySem.W.Frag) : R2 := fun x y H Q => ∃ l k xs, x = .ref l ∧ y = .int k ∧ SqT K H l xs ∧ (xs = [] ∨ k = 1) ∧ -1000 ≤ k ∧ k ≤ 1000 ∧ Q (.ref l) H
theorem op_repS {X : Cx} : OpR X (binaryOp .Mult) (rRepS X.K) := by
  intro pins s σ H x y v u Q I rx ry h
  obtain ⟨l, k, xs, rfl, rfl, hT, hne, h1, h2, q⟩ := h
  cases rx
  obtain ⟨t, rfl⟩ := ry
  obtain ⟨its, r, ⟨⟨cls, dd, data, sl⟩, ho, hc, n, hd⟩, hs⟩ := I.tuple hT
  simp only at hc hd
  subst hc hd
  have z0 : (decide (k < -(2 ^ 63)) || decide (k ≥ 2 ^ 63)) = false := by
    rw [decide_eq_false (by omega), decide_eq_false (by omega)] <;> rfl
  have z1 : (its.toArray.isEmpty || k == 1) = true := by
    rcases hne with e | e
    · rw [e] at r
      cases r
      rfl
    · rw [e]
      simp
  refine wpAny_binaryOp_repeat_ref (T := "tuple") (U := "int") (by decide) ⟨_, ho, rfl⟩ (fun s' => typeIs_int s' k t) noFill_tuple_mul F.fills_int_mul F.slot_int_rmul repeat_tuple F.slot_int_index.lookup
    (call_meets F.slot_int_rmul (typeIs_int s k t) F.entry_int_rmul (F.args_int_rmul_2 _ _) (int_rmul_tuple k t l its.toArray n dd sl)
      ⟨ho, rfl, ⟨_, ho, rfl⟩, call_meets F.slot_tuple_mul ⟨_, ho, rfl⟩ F.entry_tuple_mul (F.args_tuple_mul_2 _ _) (once_W l its.toArray n dd sl k t z0 z1) ⟨ho, ?_⟩⟩)
  exact ⟨.ref l, _, I, rfl, q⟩
/-! a tuple, not empty, no times -/
theorem none_W (l : Addr) (its : Array Value) (n : Nat) (dd : Option Addr) (sl : Array (Option Value)) (x : Int) (u : Tok) (z0 : (decide (x < -(2 ^ 63)) || decide (x ≥ 2 ^ 63)) = false) (z1 : (its.isEmpty || x == 1) = false) (z2 : (decide (x ≤ 0) || its.isEmpty) = true) :
    Meets (Builtin.«tuple.__mul__» ⟨[.ref l, .int x u], []⟩) (fun _ R s => s.heap.get? l = some { cls := .type "tuple", dict := dd, data := .seq its n, slots := sl } ∧
      R (.ok (.ret (Value.ref s.heap.objs.size))) { s with heap := s.heap.push { cls := Value.type "tuple", data := Data.seq #[] }, toks := s.toks }) :=
  .of_wp fun prog w A R s h => by
    obtain ⟨hp, g, d, tk, os⟩ := s
    obtain ⟨hl, h⟩ := h
    have f1 := AutoSeq1.idx_int
    wp_walk using wpAny_loadPart' hl
    repeat (first
      | (refine wpAny_ite_false (decide_eq_false (by rw [z0]; exact Bool.false_ne_true)) ?_; wp_walk using wpAny_loadPart' hl)
      | (refine wpAny_ite_false (decide_eq_false (by rw [z1]; exact Bool.false_ne_true)) ?_; wp_walk using wpAny_loadPart' hl)
      | (refine wpAny_ite_true (decide_eq_true z2) ?_; wp_walk using wpAny_loadPart' hl))
    exact ⟨_, rfl, h⟩
def rRepZ (K : PySem.W.Frag) : R2 := fun x y H Q => ∃ l k xs, x = .ref l ∧ y = .int k ∧ SqT K H l xs ∧ xs ≠ [] ∧ -1000 ≤ k ∧ k ≤ 0 ∧ ∀ p, H p = none → Q (.ref p) (upd H p (.tup []))
theorem op_repZ {X : Cx} : OpR X (binaryOp .Mult) (rRepZ X.K) := by
  intro pins s σ H x y v u Q I rx ry h
  obtain ⟨l, k, xs, rfl, rfl, hT, hne, h1, h2, q⟩ := h
  cases rx
  obtain ⟨t, rfl⟩ := ry
  obtain ⟨its, r, ⟨⟨cls, dd, data, sl⟩, ho, hc, n, hd⟩, hs⟩ := I.tuple hT
  simp only at hc hd
  subst hc hd
  have hle : its.length = xs.length := r.length.symm
  have hi : its.toArray.isEmpty = false := by
    cases its with
    | nil => exact absurd (List.eq_nil_of_length_eq_zero hle.symm) hne
    | cons a b => rfl
  have z0 : (decide (k < -(2 ^ 63)) || decide (k ≥ 2 ^ 63)) = false := by
    rw [decide_eq_false (by omega), decide_eq_false (by omega)] <;> rfl
  have z1 : (its.toArray.isEmpty || k == 1) = false := by
    rw [hi, Bool.false_or]
    exact beq_eq_false_iff_ne.mpr (by omega)
  have z2 : (decide (k ≤ 0) || its.toArray.isEmpty) = true := by
    rw [decide_eq_true h2, Bool.true_or]
  refine wpAny_binaryOp_repeat_ref (T := "tuple") (U := "int") (by decide) ⟨_, ho, rfl⟩ (fun s' => typeIs_int s' k t) noFill_tuple_mul F.fills_int_mul F.slot_int_rmul repeat_tuple F.slot_int_index.lookup
    (call_meets F.slot_int_rmul (typeIs_int s k t) F.entry_int_rmul (F.args_int_rmul_2 _ _) (int_rmul_tuple k t l its.toArray n dd sl)
      ⟨ho, rfl, ⟨_, ho, rfl⟩, call_meets F.slot_tuple_mul ⟨_, ho, rfl⟩ F.entry_tuple_mul (F.args_tuple_mul_2 _ _) (none_W l its.toArray n dd sl k t z0 z1 z2) ⟨ho, ?_⟩⟩)
  refine ⟨.ref s.heap.objs.size, _, I.laid (t' := s.toks) (o := .tup []) (fun b ob q => Heap.get?_push_of_some _ q) (Nat.le_refl _) ?_, rfl, q _ (I.hok.fresh (Nat.le_refl _))⟩
  exact ⟨by show 0 ≤ sizeLine; exact Nat.zero_le _, [], .nil, IsTup.new _ _⟩
end Pd

namespace Pd
open PySem L2

/-! ### operators -/
/-- what a closed value or a list of the store holds -/
def rd (S : Store) : Val → Option D
  | .d x => some x
  | .cell k => match S[k]? with | some (some (.lst ds)) => some (.lst ds) | _ => none
def bigE : Nat := 400000
def bigDE : Nat := 9000
def big : Nat := 2 ^ bigE
def bigD : Nat := 2 ^ bigDE
@[irreducible] def mulOk (i j : Int) : Bool := (decide (i.natAbs < big) && decide (j.natAbs < big)) || (decide (i.natAbs < 2 ^ 64) || decide (j.natAbs < 2 ^ 64))
@[irreducible] def divOk (j : Int) : Bool := decide (0 < j) && decide (j.natAbs < bigD)
@[irreducible] def powOk (i j : Int) : Bool := decide (0 ≤ j) && decide (j ≤ 1000) && decide (i.natAbs < 2 ^ 2000)
def fI (h : Int → Int → D) : Val → Val → Store → R Val
  | .d (.int i), .d (.int j), S => .ok (.d (h i j)) S
  | _, _, _ => .bad
def fAdd : Val → Val → Store → R Val
  | .d (.int i), .d (.int j), S => .ok (.d (.int (i + j))) S
  | .d (.tup a), .d (.tup b), S => if a.length + b.length ≤ cap then .ok (.d (.tup (a ++ b))) S else .bad
  | .d (.lst a), .d (.lst b), S => if a.length + b.length ≤ cap then .ok (.d (.lst (a ++ b))) S else .bad
  | .d (.str a), .d (.str b), S => if a.length + b.length ≤ cap then .ok (.d (.str (a ++ b))) S else .bad
  | _, _, _ => .bad
def fSub := fI fun i j => .int (i - j)
def fMul : Val → Val → Store → R Val
  | .d (.int i), .d (.int j), S => if mulOk i j = true then .ok (.d (.int (i * j))) S else .bad
  | .d (.lst a), .d (.int j), S => if j ≤ cap ∧ -cap ≤ j ∧ a.length * j.toNat ≤ cap then .ok (.d (.lst (List.replicate j.toNat a).flatten)) S else .bad
  | .d (.tup a), .d (.int j), S => if 0 ≤ j ∧ j ≤ 1000 ∧ a.length ≤ 1000 then .ok (.d (.tup (List.replicate j.toNat a).flatten)) S else .bad
  | _, _, _ => .bad
def fDiv : Val → Val → Store → R Val
  | .d (.int i), .d (.int j), S => if divOk j = true then .ok (.d (.int (i / j))) S else .bad
  | _, _, _ => .bad
def fMod : Val → Val → Store → R Val
  | .d (.int i), .d (.int j), S => if 0 < j then .ok (.d (.int (i % j))) S else .bad
  | _, _, _ => .bad
def fPow : Val → Val → Store → R Val
  | .d (.int i), .d (.int j), S => if powOk i j = true then .ok (.d (.int (i ^ j.toNat))) S else .bad
  | _, _, _ => .bad
def fNeg : Val → Store → R Val
  | .d (.int i), S => .ok (.d (.int (-i))) S
  | _, _ => .bad
def fLt := fI fun i j => .bl (decide (i < j))
def fLe := fI fun i j => .bl (decide (i ≤ j))
def fGt := fI fun i j => .bl (decide (j < i))
def fGe := fI fun i j => .bl (decide (j ≤ i))
def fEq (x y : Val) (S : Store) : R Val := match rd S x, rd S y with
  | some a, some b => if fit 60 a = true ∧ fit 60 b = true then .ok (.d (.bl (a.eqv b))) S else .bad
  | _, _ => .bad
def fNe (x y : Val) (S : Store) : R Val := match rd S x, rd S y with
  | some a, some b => if fit 60 a = true ∧ fit 60 b = true then .ok (.d (.bl (!a.eqv b))) S else .bad
  | _, _ => .bad
def fIx (x y : Val) (S : Store) : R Val := match rd S x, y with
  | some (.lst ds), .d (.int i) => match atI ds i with | some d => .ok (.d d) S | none => .bad
  | some (.tup ds), .d (.int i) => match atI ds i with | some d => .ok (.d d) S | none => .bad
  | some (.scr ns), .d (.int i) => match atI ns i with | some d => .ok (.d (.int d)) S | none => .bad
  | _, _ => .bad
def isNon : D → Option Bool
  | .non => some true
  | .val _ => none
  | _ => some false
def fIsN : Val → Val → Store → R Val
  | .d x, .d .non, S => match isNon x with | some b => .ok (.d (.bl b)) S | none => .bad
  | _, _, _ => .bad
def fNotN : Val → Val → Store → R Val
  | .d x, .d .non, S => match isNon x with | some b => .ok (.d (.bl (!b))) S | none => .bad
  | _, _, _ => .bad

section
variable {g : Gx} {w : Wd} {S : Store} {H : Hp} {W : WX} {σ : St} {Q : VK} {X : Cx}
theorem rd_cell {k : Nat} {d : D} (e : rd S (.cell k) = some d) : ∃ ds, S[k]? = some (some (.lst ds)) ∧ d = .lst ds := by
  have e' : (match S[k]? with | some (some (.lst ds)) => some (D.lst ds) | _ => none) = some d := e
  split at e'
  · rename_i ds hk
    cases e'
    exact ⟨ds, hk, rfl⟩
  · cases e'
theorem rd_dp {n : Nat} {x : Val} {d : D} {v : V} (st : StOk g w S H) (r : RepV g w H x v) (e : rd S x = some d) (f : fit n d = true) : Dp g.K H v d.pd := by
  cases x with
  | d x =>
    cases e
    exact fit_dp r f
  | cell k =>
    obtain ⟨ds, hk, e2⟩ := rd_cell e
    subst e2
    obtain ⟨a, h1, vs, h2, h3⟩ := st.cell k _ hk
    rw [r.2 a h1]
    cases n with
    | zero => simp [fit] at f
    | succ n =>
      unfold fit at f
      exact .lst (.inl (.inl h2)) (fit_dpL h3 f)
/-- a list, a tuple that is read -/
theorem rd_lst {x : Val} {ds : List D} {v : V} (st : StOk g w S H) (r : RepV g w H x v) (e : rd S x = some (.lst ds)) : ∃ a vs, v = .ref a ∧ H a = some (.lst vs) ∧ RepL g w H ds vs := by
  cases x with
  | d x =>
    cases e
    cases r with
    | lst h1 h2 h3 => exact ⟨_, _, rfl, h1, h3⟩
  | cell k =>
    obtain ⟨es, hk, e2⟩ := rd_cell e
    cases e2
    obtain ⟨a, h1, vs, h2, h3⟩ := st.cell k _ hk
    exact ⟨a, vs, r.2 a h1, h2, h3⟩
theorem rd_tup {x : Val} {ds : List D} {v : V} (r : RepV g w H x v) (e : rd S x = some (.tup ds)) : ∃ a vs, v = .ref a ∧ SqT' g w H a vs ∧ RepL g w H ds vs := by
  cases x with
  | d x =>
    cases e
    cases r with
    | tup h1 h3 => exact ⟨_, _, rfl, h1, h3⟩
  | cell k =>
    obtain ⟨es, hk, e2⟩ := rd_cell e
    cases e2
theorem rd_scr {x : Val} {ns : List Int} {v : V} (r : RepV g w H x v) (e : rd S x = some (.scr ns)) : ∃ a, v = .ref a ∧ SqL g.K H a (ns.map V.int) := by
  cases x with
  | d x =>
    cases e
    cases r with
    | scr h1 => exact ⟨_, rfl, h1.sq⟩
  | cell k =>
    obtain ⟨es, hk, e2⟩ := rd_cell e
    cases e2
theorem fI_q {h : Int → Int → D} {x y : Val} {u v : V} (st : StOk g w S H) (r1 : RepV g w H x u) (r2 : RepV g w H y v) (q : RQ g W (RepV g) w σ H (fI h x y S) Q) :
    ∃ i j, u = .int i ∧ v = .int j ∧ RQ g W (RepV g) w σ H (.ok (.d (h i j)) S) Q := by
  unfold fI at q
  split at q
  · cases r1
    cases r2
    exact ⟨_, _, rfl, rfl, q⟩
  · exact q.elim
theorem o2_I0 {h : Int → Int → D} {k : Int → Int → V} (hk : ∀ i j w H, Rep g w H (h i j) (k i j)) : Op2 g (rI0 k) (fI h) := fun W w S H σ x y u v Q st r1 r2 q => by
  obtain ⟨i, j, rfl, rfl, q⟩ := fI_q st r1 r2 q
  exact ⟨i, j, rfl, rfl, RQ.okQ q st (hk i j w H)⟩
theorem o2_sub : Op2 g (rI0 fun i j => .int (i - j)) fSub := o2_I0 fun _ _ _ _ => .int _
theorem o2_lt : Op2 g (rI0 fun i j => .bl (decide (i < j))) fLt := o2_I0 fun _ _ _ _ => .bl _
theorem o2_le : Op2 g (rI0 fun i j => .bl (decide (i ≤ j))) fLe := o2_I0 fun _ _ _ _ => .bl _
theorem o2_gt : Op2 g (rI0 fun i j => .bl (decide (j < i))) fGt := o2_I0 fun _ _ _ _ => .bl _
theorem o2_ge : Op2 g (rI0 fun i j => .bl (decide (j ≤ i))) fGe := o2_I0 fun _ _ _ _ => .bl _
theorem ite_q {c : Prop} [Decidable c] {α β : Type} {ρ : Wd → Hp → α → β → Prop} {r : R α} {Q : β → Hp → Prop} (h : RQ g W ρ w σ H (if c then r else .bad) Q) : c ∧ RQ g W ρ w σ H r Q := by
  by_cases hc : c
  · rw [if_pos hc] at h
    exact ⟨hc, h⟩
  · rw [if_neg hc] at h
    exact h.elim
def rAdd4 (K : PySem.W.Frag) : R2 := fun x y H Q => (∃ i j, x = .int i ∧ y = .int j ∧ Q (.int (i + j)) H) ∨ rCatA K x y H Q ∨ rCat x y H Q ∨ (∃ i j, x = .str i ∧ y = .str j ∧ i.length + j.length ≤ sizeLine ∧ Q (.str (i ++ j)) H)
theorem op_add4 : OpR X (binaryOp .Add) (rAdd4 X.K) := op_add.or (op_catA.or (op_cat.or op_add_str))
theorem o2_add : Op2 g (rAdd4 g.K) fAdd := fun W w S H σ x y u v Q st r1 r2 q => by
  unfold fAdd at q
  split at q
  · cases r1
    cases r2
    exact .inl ⟨_, _, rfl, rfl, RQ.okQ q st (.int _)⟩
  · obtain ⟨hz, q⟩ := ite_q q
    cases r1 with
    | tup h1 l1 =>
      cases r2 with
      | tup h2 l2 =>
        have e1 := l1.length
        have e2 := l2.length
        refine .inr (.inl ⟨_, _, _, _, rfl, rfl, h1.sq, h2.sq, by rw [← e1, ← e2]; exact cap_le hz, fun z => ?_, fun _ z => ?_, fun _ _ p hp => ?_⟩)
        · subst z
          have z1 := List.eq_nil_of_length_eq_zero (e1.trans rfl)
          subst z1
          exact RQ.okQ q st (.tup h2 l2)
        · subst z
          have z1 := List.eq_nil_of_length_eq_zero (e2.trans rfl)
          subst z1
          rw [List.append_nil] at q
          exact RQ.okQ q st (.tup h1 l1)
        · exact RQ.newQ q st hp (rep_tup st hp (l1.append l2))
  · obtain ⟨hz, q⟩ := ite_q q
    cases r1 with
    | lst h1 n1 l1 =>
      cases r2 with
      | lst h2 n2 l2 =>
        refine .inr (.inr (.inl ⟨_, _, _, _, rfl, rfl, h1, h2, by rw [← l1.length, ← l2.length]; exact cap_le hz, fun p hp => ?_⟩))
        exact RQ.newQ q st hp (rep_lst st hp (l1.append l2))
  · obtain ⟨hz, q⟩ := ite_q q
    cases r1
    cases r2
    exact .inr (.inr (.inr ⟨_, _, rfl, rfl, cap_le hz, RQ.okQ q st (.str _)⟩))
  · exact q.elim
def rMul3 (K : PySem.W.Frag) : R2 := fun x y H Q => rI CMulW (fun i j => .int (i * j)) x y H Q ∨ rI CMul (fun i j => .int (i * j)) x y H Q ∨ rRep x y H Q ∨ rRepT K x y H Q ∨ rRepS K x y H Q ∨ rRepZ K x y H Q
theorem op_mul3 : OpR X (binaryOp .Mult) (rMul3 X.K) := op_mulW.or (op_mul.or (op_rep.or (op_repT.or (op_repS.or op_repZ))))
theorem mulOk_iff {i j : Int} : mulOk i j = true ↔ (i.natAbs < big ∧ j.natAbs < big) ∨ i.natAbs < 2 ^ 64 ∨ j.natAbs < 2 ^ 64 := by
  unfold mulOk
  rw [Bool.or_eq_true, Bool.or_eq_true, Bool.and_eq_true, decide_eq_true_iff, decide_eq_true_iff, decide_eq_true_iff, decide_eq_true_iff]
theorem divOk_iff {j : Int} : divOk j = true ↔ 0 < j ∧ j.natAbs < bigD := by
  unfold divOk
  rw [Bool.and_eq_true, decide_eq_true_iff, decide_eq_true_iff]
theorem powOk_iff {i j : Int} : powOk i j = true ↔ (0 ≤ j ∧ j ≤ 1000) ∧ i.natAbs < 2 ^ 2000 := by
  unfold powOk
  rw [Bool.and_eq_true, Bool.and_eq_true, decide_eq_true_iff, decide_eq_true_iff, decide_eq_true_iff]
theorem big_mul {i j : Int} (h1 : i.natAbs < big) (h2 : j.natAbs < big) : CMulW i j := by
  have e : ∀ n : Nat, n < big → n < 2 ^ bigE := fun n h => h
  exact wide_mul (e _ h1) (e _ h2) (by decide) (by decide) (by decide)
theorem o2_mul : Op2 g (rMul3 g.K) fMul := fun W w S H σ x y u v Q st r1 r2 q => by
  unfold fMul at q
  split at q
  · obtain ⟨hz, q⟩ := ite_q q
    cases r1
    cases r2
    rcases mulOk_iff.mp hz with h | h
    · exact .inl ⟨_, _, rfl, rfl, big_mul h.1 h.2, RQ.okQ q st (.int _)⟩
    · refine .inr (.inl ⟨_, _, rfl, rfl, ?_, RQ.okQ q st (.int _)⟩)
      have e : (2 : Nat) ^ 64 = 18446744073709551616 := by decide
      have e2 : (2 : Int) ^ 64 = 18446744073709551616 := by decide
      unfold CMul
      rw [e] at h
      rw [e2]
      rcases h with h | h
      · exact .inl (by omega)
      · exact .inr (by omega)
  · obtain ⟨⟨h1, h2, h3⟩, q⟩ := ite_q q
    cases r1 with
    | lst e1 n1 l1 =>
      cases r2
      have hc : ((cap : Nat) : Int) = 1000000 := rfl
      refine .inr (.inr (.inl ⟨_, _, _, rfl, rfl, e1, by omega, by omega, by rw [← l1.length]; exact cap_le h3, fun p hp => ?_⟩))
      exact RQ.newQ q st hp (rep_lst st hp l1.flatten)
  · obtain ⟨⟨h1, h2, h4⟩, q⟩ := ite_q q
    cases r1 with
    | tup e1 l1 =>
      cases r2
      rename_i ds j _ _ vs
      by_cases hs : ds = [] ∨ j = 1
      · have ev : vs = [] ∨ j = 1 := hs.imp (fun z => by subst z; cases l1; rfl) id
        refine .inr (.inr (.inr (.inr (.inl ⟨_, _, _, rfl, rfl, e1.sq, ev, by omega, h2, ?_⟩))))
        have e : (List.replicate j.toNat ds).flatten = ds := by
          rcases hs with z | z
          · rw [z]
            have : ∀ n : Nat, (List.replicate n ([] : List D)).flatten = [] := fun n => by
              induction n with
              | zero => rfl
              | succ n ih => rw [List.replicate_succ, List.flatten_cons, ih]; rfl
            exact this _
          · rw [z]
            show (List.replicate 1 ds).flatten = ds
            simp
        rw [e] at q
        exact RQ.okQ q st (.tup e1 l1)
      · have hd : ds ≠ [] := fun z => hs (.inl z)
        have hj : j ≠ 1 := fun z => hs (.inr z)
        have hv : vs ≠ [] := fun z => by
          subst z
          exact hd (List.eq_nil_of_length_eq_zero l1.length)
        by_cases h3' : 1 ≤ j
        · exact .inr (.inr (.inr (.inl ⟨_, _, _, rfl, rfl, e1.sq, hv, by omega, h2, by rw [← l1.length]; exact h4, fun p hp => RQ.newQ q st hp (rep_tup st hp l1.flatten)⟩)))
        · have h0 : j = 0 := by omega
          subst h0
          exact .inr (.inr (.inr (.inr (.inr ⟨_, _, _, rfl, rfl, e1.sq, hv, by omega, by omega, fun p hp => RQ.newQ q st hp (rep_tup st hp .nil)⟩))))
  · exact q.elim
theorem o2_div : Op2 g (rI CDivW fun i j => .int (i / j)) fDiv := fun W w S H σ x y u v Q st r1 r2 q => by
  unfold fDiv at q
  split at q
  · obtain ⟨hz, q⟩ := ite_q q
    cases r1
    cases r2
    exact ⟨_, _, rfl, rfl, (by obtain ⟨h1, h2⟩ := divOk_iff.mp hz; exact wide_div (b := bigDE) h1 h2 (by decide) (by decide)), RQ.okQ q st (.int _)⟩
  · exact q.elim
theorem o2_mod : Op2 g (rI (fun _ j => 0 < j) fun i j => .int (i % j)) fMod := fun W w S H σ x y u v Q st r1 r2 q => by
  unfold fMod at q
  split at q
  · obtain ⟨hz, q⟩ := ite_q q
    cases r1
    cases r2
    exact ⟨_, _, rfl, rfl, hz, RQ.okQ q st (.int _)⟩
  · exact q.elim
def CPowW (i j : Int) : Prop := powOk i j = true
theorem op_powW : OpR X (binaryOp .Pow) (rI CPowW fun i j => .int (i ^ j.toNat)) := opI fun i j _ _ _ _ _ hc q => by
  obtain ⟨⟨h3, h4⟩, h0⟩ := powOk_iff.mp hc
  refine PyProof.Rows.pow_int h3 ?_ q
  have h1 := PySem.Flt.log2_lt_of (show 0 < 2000 by omega) h0
  have b : Builtin.Int.intBits i ≤ i.natAbs.log2 + 1 := by
    unfold Builtin.Int.intBits
    split <;> omega
  have h2 : (Builtin.Int.intBits i : Int) ≤ 2001 := by omega
  have h5 : (Builtin.Int.intBits i : Int) * j ≤ 2001 * 1000 := Int.mul_le_mul h2 h4 h3 (by decide)
  have h6 : (2 : Int) ^ 27 = 134217728 := by decide
  rw [h6]
  omega
theorem o2_pow : Op2 g (rI CPowW fun i j => .int (i ^ j.toNat)) fPow := fun W w S H σ x y u v Q st r1 r2 q => by
  unfold fPow at q
  split at q
  · obtain ⟨hz, q⟩ := ite_q q
    cases r1
    cases r2
    exact ⟨_, _, rfl, rfl, hz, RQ.okQ q st (.int _)⟩
  · exact q.elim
theorem o1_neg : Op1 g (rU fun i => .int (-i)) fNeg := fun W w S H σ x u Q st r1 q => by
  unfold fNeg at q
  split at q
  · cases r1
    exact ⟨_, rfl, RQ.okQ q st (.int _)⟩
  · exact q.elim
theorem o2_eq : Op2 g (rEqD g.K) fEq := fun W w S H σ x y u v Q st r1 r2 q => by
  unfold fEq at q
  split at q
  · rename_i a b e1 e2
    obtain ⟨⟨h1, h2⟩, q⟩ := ite_q q
    refine ⟨_, _, rd_dp st r1 e1 h1, rd_dp st r2 e2 h2, fit_shaped h1, fit_shaped h2, ?_⟩
    rw [pd_eqv _ _ _ _ h1 h2]
    exact RQ.okQ q st (.bl _)
  · exact q.elim
theorem o2_ne : Op2 g (rNeD g.K) fNe := fun W w S H σ x y u v Q st r1 r2 q => by
  unfold fNe at q
  split at q
  · rename_i a b e1 e2
    obtain ⟨⟨h1, h2⟩, q⟩ := ite_q q
    refine ⟨_, _, rd_dp st r1 e1 h1, rd_dp st r2 e2 h2, fit_shaped h1, fit_shaped h2, ?_⟩
    rw [pd_eqv _ _ _ _ h1 h2]
    exact RQ.okQ q st (.bl _)
  · exact q.elim
theorem atI_rep {ds : List D} {vs : List V} {i : Int} {d : D} (l : RepL g w H ds vs) (e : atI ds i = some d) : ∃ v, atI vs i = some v ∧ Rep g w H d v := by
  unfold atI at e ⊢
  rw [← l.length]
  cases h : ixN ds.length i with
  | none => rw [h] at e; cases e
  | some j =>
    rw [h] at e
    exact l.get e
theorem atI_ints {ns : List Int} {i n : Int} (e : atI ns i = some n) : atI (ns.map V.int) i = some (.int n) := by
  unfold atI at e ⊢
  rw [List.length_map]
  cases h : ixN ns.length i with
  | none => rw [h] at e; cases e
  | some j =>
    rw [h] at e
    have e' : ns[j]? = some n := e
    show (ns.map V.int)[j]? = _
    rw [List.getElem?_map, e'] <;> rfl
def rIx2 (K : PySem.W.Frag) : R2 := fun x y H Q => rIxL K x y H Q ∨ rIxT K x y H Q
theorem ix_two : IxR X (rIx2 X.K) := ix_list.or ix_tup
theorem o2_ix : Op2 g (rIx2 g.K) fIx := fun W w S H σ x y u v Q st r1 r2 q => by
  unfold fIx at q
  split at q
  · rename_i ds i e
    split at q
    · rename_i d hd
      obtain ⟨a, vs, rfl, h1, l⟩ := rd_lst st r1 e
      cases r2
      obtain ⟨y, hy, ry⟩ := atI_rep l hd
      exact .inl ⟨a, vs, i, y, rfl, rfl, .inl (.inl h1), hy, RQ.okQ q st ry⟩
    · exact q.elim
  · rename_i ds i e
    split at q
    · rename_i d hd
      obtain ⟨a, vs, rfl, h1, l⟩ := rd_tup r1 e
      cases r2
      obtain ⟨y, hy, ry⟩ := atI_rep l hd
      exact .inr ⟨a, vs, i, y, rfl, rfl, h1.sq, hy, RQ.okQ q st ry⟩
    · exact q.elim
  · rename_i ns i e
    split at q
    · rename_i d hd
      obtain ⟨a, rfl, h1⟩ := rd_scr r1 e
      cases r2
      exact .inl ⟨a, _, i, .int d, rfl, rfl, h1, atI_ints hd, RQ.okQ q st (.int d)⟩
    · exact q.elim
  · exact q.elim
theorem isNon_rep {x : D} {u : V} {b : Bool} (r : Rep g w H x u) (e : isNon x = some b) : decide (u = V.non) = b := by
  cases r <;> cases e <;> rfl
theorem o2_isN : Op2 g (fun x y H Q => y = .non ∧ Q (.bl (decide (x = .non))) H) fIsN := fun W w S H σ x y u v Q st r1 r2 q => by
  unfold fIsN at q
  split at q
  · split at q
    · rename_i b hb
      cases r2
      refine ⟨rfl, ?_⟩
      rw [isNon_rep r1 hb]
      exact RQ.okQ q st (.bl _)
    · exact q.elim
  · exact q.elim
theorem o2_notN : Op2 g (fun x y H Q => y = .non ∧ Q (.bl (!decide (x = .non))) H) fNotN := fun W w S H σ x y u v Q st r1 r2 q => by
  unfold fNotN at q
  split at q
  · split at q
    · rename_i b hb
      cases r2
      refine ⟨rfl, ?_⟩
      rw [isNon_rep r1 hb]
      exact RQ.okQ q st (.bl _)
    · exact q.elim
  · exact q.elim
end

/-! ### a[i] -/
section
variable {X : Cx} {g : Gx} {W : WX} {a b : Expr} {ea eb : Ev} {pos : Pos}
theorem p_ix (hK : g.K = X.K) (ha : PE X a (tE g W ea)) (hb : PE X b (tE g W eb)) (hs : PlainIx b := by exact fun _ _ => rfl) : PE X (.Subscript a b pos) (tE g W (eBin fIx ea eb)) :=
  (pe_ix ix_two ha hb hs).imp fun σ H Q ⟨w, Γ, S, st, en, h⟩ => tX_seq st en h fun u H1 x S1 w1 s1 st1 en1 r1 h1 => tX_seq st1 en1 h1 fun v H2 y S2 w2 s2 st2 en2 r2 h2 => by
    rw [← hK]
    exact o2_ix W w2 S2 H2 σ x y u v Q st2 (r1.step s2) r2 h2
end
end Pd

namespace Pd
open PySem L2

/-! ### built-in functions -/
def asInts : List D → Option (List Int)
  | [] => some []
  | .int i :: r => (asInts r).map (i :: ·)
  | _ :: _ => none
def asBls : List D → Option (List Bool)
  | [] => some []
  | .bl i :: r => (asBls r).map (i :: ·)
  | _ :: _ => none
theorem asInts_eq : ∀ {ds : List D} {ns : List Int}, asInts ds = some ns → ds = ns.map .int
  | [], _, e => by cases e; rfl
  | .int i :: r, ns, e => by
    unfold asInts at e
    cases q : asInts r with
    | none => rw [q] at e; cases e
    | some ms =>
      rw [q] at e
      cases e
      rw [asInts_eq q] <;> rfl
  | .non :: _, _, e => by cases e
  | .bl _ :: _, _, e => by cases e
  | .str _ :: _, _, e => by cases e
  | .tup _ :: _, _, e => by cases e
  | .lst _ :: _, _, e => by cases e
  | .obj _ _ :: _, _, e => by cases e
  | .scr _ :: _, _, e => by cases e
  | .val _ :: _, _, e => by cases e
  | .fn _ :: _, _, e => by cases e
  | .dct _ _ :: _, _, e => by cases e
theorem asBls_eq : ∀ {ds : List D} {ns : List Bool}, asBls ds = some ns → ds = ns.map .bl
  | [], _, e => by cases e; rfl
  | .bl i :: r, ns, e => by
    unfold asBls at e
    cases q : asBls r with
    | none => rw [q] at e; cases e
    | some ms =>
      rw [q] at e
      cases e
      rw [asBls_eq q] <;> rfl
  | .non :: _, _, e => by cases e
  | .int _ :: _, _, e => by cases e
  | .str _ :: _, _, e => by cases e
  | .tup _ :: _, _, e => by cases e
  | .lst _ :: _, _, e => by cases e
  | .obj _ _ :: _, _, e => by cases e
  | .scr _ :: _, _, e => by cases e
  | .val _ :: _, _, e => by cases e
  | .fn _ :: _, _, e => by cases e
  | .dct _ _ :: _, _, e => by cases e
def fLen (x : Val) (S : Store) : R Val := match rd S x with
  | some (.lst ds) => .ok (.d (.int ds.length)) S
  | some (.tup ds) => .ok (.d (.int ds.length)) S
  | some (.scr ds) => .ok (.d (.int ds.length)) S
  | some (.str x) => if x.length ≤ cap then .ok (.d (.int x.length)) S else .bad
  | _ => .bad
def fAbs : Val → Store → R Val
  | .d (.int i), S => .ok (.d (.int (if i < 0 then -i else i))) S
  | _, _ => .bad
def fInt : Val → Store → R Val
  | .d (.int i), S => .ok (.d (.int i)) S
  | .d (.bl b), S => .ok (.d (.int (if b then 1 else 0))) S
  | _, _ => .bad
def fTuple (x : Val) (S : Store) : R Val := match rd S x with
  | some (.lst ds) => .ok (.d (.tup ds)) S
  | some (.tup ds) => .ok (.d (.tup ds)) S
  | _ => .bad
def fList (x : Val) (S : Store) : R Val := match rd S x with
  | some (.lst ds) => .ok (.d (.lst ds)) S
  | some (.tup ds) => .ok (.d (.lst ds)) S
  | _ => .bad
def fSum (x : Val) (S : Store) : R Val := match rd S x with
  | some (.lst ds) => match asInts ds with | some ns => .ok (.d (.int ns.sum)) S | none => .bad
  | some (.tup ds) => match asInts ds with | some ns => .ok (.d (.int ns.sum)) S | none => .bad
  | _ => .bad
def fAll (x : Val) (S : Store) : R Val := match rd S x with
  | some (.lst ds) => match asBls ds with | some ns => .ok (.d (.bl (ns.all id))) S | none => .bad
  | _ => .bad
def fAny (x : Val) (S : Store) : R Val := match rd S x with
  | some (.lst ds) => match asBls ds with | some ns => .ok (.d (.bl (ns.any id))) S | none => .bad
  | _ => .bad
def fMax2 : Val → Val → Store → R Val := fI fun i j => .int (if j > i then j else i)
def fMin2 : Val → Val → Store → R Val := fI fun i j => .int (if j < i then j else i)
inductive Ty where
  | int | bool | tuple | list | str
def Ty.name : Ty → String
  | .int => "int" | .bool => "bool" | .tuple => "tuple" | .list => "list" | .str => "str"
def isiD : Ty → D → Option Bool
  | .int, .int _ => some true
  | .int, .bl _ => some true
  | .bool, .bl _ => some true
  | .tuple, .tup _ => some true
  | .list, .lst _ => some true
  | .str, .str _ => some true
  | _, .obj _ _ => none
  | _, .scr _ => none
  | _, .val _ => none
  | _, .fn _ => none
  | _, .dct _ _ => none
  | _, _ => some false
def fIsi (t : Ty) (x : Val) (S : Store) : R Val := match rd S x with
  | some d => match isiD t d with | some b => .ok (.d (.bl b)) S | none => .bad
  | none => .bad

def OpC1 (g : Gx) (r : List V → Hp → VK → Prop) (f : Val → Store → R Val) : Prop := ∀ (W : WX) (w : Wd) (S : Store) (H : Hp) (σ : St) (x : Val) (u : V) (Q : VK), StOk g w S H → RepV g w H x u → RQ g W (RepV g) w σ H (f x S) Q → r [u] H Q
def OpC2 (g : Gx) (r : List V → Hp → VK → Prop) (f : Val → Val → Store → R Val) : Prop := ∀ (W : WX) (w : Wd) (S : Store) (H : Hp) (σ : St) (x y : Val) (u v : V) (Q : VK), StOk g w S H → RepV g w H x u → RepV g w H y v → RQ g W (RepV g) w σ H (f x y S) Q → r [u, v] H Q
theorem CallR.or {X : Cx} {f : Value} {r r' : List V → Hp → VK → Prop} (h : CallR X f r) (h' : CallR X f r') : CallR X f (fun x H Q => r x H Q ∨ r' x H Q) := fun pins s σ H x v Q I rx q => by
  rcases q with q | q
  · exact h pins s σ H x v Q I rx q
  · exact h' pins s σ H x v Q I rx q
theorem cr_sumT {X : Cx} (hc : X.calm = true) : CallR X (.builtin "sum") (fun vs H Q => ∃ (a : Addr) (ns : List Int), vs = [V.ref a] ∧ SqT X.K H a (ns.map V.int) ∧ Q (.int ns.sum) H) := by
  intro pins s σ H vs us Q I r h
  obtain ⟨a, ns, rfl, hs, q⟩ := h
  obtain ⟨its, rv, hl, _⟩ := I.tuple hs
  rw [Vals.ref1 r]
  have hi := intsAre_of rv
  obtain ⟨xs, hx⟩ := hi.allInts.items
  have hn : numsOf its.toArray.toList = ns := by
    rw [show its.toArray.toList = its from rfl, hi.numsOf]
  have ht : s.heap.IsTuple a its.toArray := hl
  rw [hx] at ht hn
  rw [nums_intItems] at hn
  refine PySem.W.ktm_sumG (I.ok.hd hc) ht fun h' tk t' hk => ?_
  have e : preSum (numAt xs) xs.size = ns.sum := by
    rw [preSum_eq, List.take_of_length_le (by simp), hn]
  rw [e]
  exact ⟨.int _, H, I.kept hk, ⟨_, rfl⟩, q⟩
def rSum2 (K : PySem.W.Frag) : List V → Hp → VK → Prop := fun vs H Q => rSum K vs H Q ∨ ∃ (a : Addr) (ns : List Int), vs = [V.ref a] ∧ SqT K H a (ns.map V.int) ∧ Q (.int ns.sum) H
theorem cr_sum2 {X : Cx} (hc : X.calm = true) : CallR X (.builtin "sum") (rSum2 X.K) := CallR.or (cr_sum hc) (cr_sumT hc)
def rLen2 (K : PySem.W.Frag) : List V → Hp → VK → Prop := fun xs H Q => (∃ p ys, xs = [.ref p] ∧ (SqL K H p ys ∨ SqT K H p ys) ∧ Q (.int ys.length) H) ∨ ∃ z, xs = [.str z] ∧ z.length ≤ sizeLine ∧ Q (.int z.length) H
theorem cr_len2 {X : Cx} : CallR X (.builtin "len") (rLen2 X.K) := CallR.or call_len_seq call_len_str

section
variable {g : Gx}
theorem c1_len : OpC1 g (rLen2 g.K) fLen := fun W w S H σ x u Q st r1 q => by
  unfold fLen at q
  split at q
  · rename_i ds e
    obtain ⟨a, vs, rfl, h1, l⟩ := rd_lst st r1 e
    rw [l.length] at q
    exact .inl ⟨a, vs, rfl, .inl (.inl (.inl h1)), RQ.okQ q st (.int _)⟩
  · rename_i ds e
    obtain ⟨a, vs, rfl, h1, l⟩ := rd_tup r1 e
    rw [l.length] at q
    exact .inl ⟨a, vs, rfl, .inr h1.sq, RQ.okQ q st (.int _)⟩
  · rename_i ns e
    obtain ⟨a, rfl, h1⟩ := rd_scr r1 e
    have e2 : (ns.length : Int) = ((ns.map V.int).length : Int) := by rw [List.length_map]
    rw [e2] at q
    exact .inl ⟨a, _, rfl, .inl h1, RQ.okQ q st (.int _)⟩
  · rename_i z e
    obtain ⟨hz, q⟩ := ite_q q
    cases x with
    | d x =>
      cases e
      cases r1
      exact .inr ⟨z, rfl, cap_le hz, RQ.okQ q st (.int _)⟩
    | cell k =>
      obtain ⟨es, hk, e2⟩ := rd_cell e
      cases e2
  · exact q.elim
theorem c1_abs : OpC1 g (fun xs H Q => ∃ i, xs = [.int i] ∧ Q (.int (if i < 0 then -i else i)) H) fAbs := fun W w S H σ x u Q st r1 q => by
  unfold fAbs at q
  split at q
  · cases r1
    exact ⟨_, rfl, RQ.okQ q st (.int _)⟩
  · exact q.elim
theorem c1_int : OpC1 g (fun xs H Q => (∃ i, xs = [.int i] ∧ Q (.int i) H) ∨ ∃ k, xs = [.bl k] ∧ Q (.int (if k then 1 else 0)) H) fInt := fun W w S H σ x u Q st r1 q => by
  unfold fInt at q
  split at q
  · cases r1
    exact .inl ⟨_, rfl, RQ.okQ q st (.int _)⟩
  · cases r1
    exact .inr ⟨_, rfl, RQ.okQ q st (.int _)⟩
  · exact q.elim
theorem c1_tuple : OpC1 g (fun xs H Q => ∃ p ys, xs = [.ref p] ∧ ((SqL g.K H p ys ∧ ∀ l, H l = none → Q (.ref l) (upd H l (.tup ys))) ∨ (SqT g.K H p ys ∧ Q (.ref p) H))) fTuple := fun W w S H σ x u Q st r1 q => by
  unfold fTuple at q
  split at q
  · rename_i ds e
    obtain ⟨a, vs, rfl, h1, l⟩ := rd_lst st r1 e
    exact ⟨a, vs, rfl, .inl ⟨.inl (.inl h1), fun p hp => RQ.newQ q st hp (rep_tup st hp l)⟩⟩
  · rename_i ds e
    obtain ⟨a, vs, rfl, h1, l⟩ := rd_tup r1 e
    exact ⟨a, vs, rfl, .inr ⟨h1.sq, RQ.okQ q st (.tup h1 l)⟩⟩
  · exact q.elim
theorem c1_list : OpC1 g (fun xs H Q => ∃ p ys, xs = [.ref p] ∧ (SqL g.K H p ys ∨ SqT g.K H p ys) ∧ ∀ l, H l = none → Q (.ref l) (upd H l (.lst ys))) fList := fun W w S H σ x u Q st r1 q => by
  unfold fList at q
  split at q
  · rename_i ds e
    obtain ⟨a, vs, rfl, h1, l⟩ := rd_lst st r1 e
    exact ⟨a, vs, rfl, .inl (.inl (.inl h1)), fun p hp => RQ.newQ q st hp (rep_lst st hp l)⟩
  · rename_i ds e
    obtain ⟨a, vs, rfl, h1, l⟩ := rd_tup r1 e
    exact ⟨a, vs, rfl, .inr h1.sq, fun p hp => RQ.newQ q st hp (rep_lst st hp l)⟩
  · exact q.elim
theorem c1_sum : OpC1 g (rSum2 g.K) fSum := fun W w S H σ x u Q st r1 q => by
  unfold fSum at q
  split at q
  · rename_i ds e
    split at q
    · rename_i ns en
      obtain ⟨a, vs, rfl, h1, l⟩ := rd_lst st r1 e
      rw [asInts_eq en] at l
      have ev := l.ints
      subst ev
      exact .inl ⟨a, ns, rfl, .inl (.inl h1), RQ.okQ q st (.int _)⟩
    · exact q.elim
  · rename_i ds e
    split at q
    · rename_i ns en
      obtain ⟨a, vs, rfl, h1, l⟩ := rd_tup r1 e
      rw [asInts_eq en] at l
      have ev := l.ints
      subst ev
      exact .inr ⟨a, ns, rfl, h1.sq, RQ.okQ q st (.int _)⟩
    · exact q.elim
  · exact q.elim
theorem c1_all : OpC1 g (rAll g.K) fAll := fun W w S H σ x u Q st r1 q => by
  unfold fAll at q
  split at q
  · rename_i ds e
    split at q
    · rename_i ns en
      obtain ⟨a, vs, rfl, h1, l⟩ := rd_lst st r1 e
      rw [asBls_eq en] at l
      have ev := l.bls
      subst ev
      exact ⟨a, ns, rfl, .inl (.inl h1), RQ.okQ q st (.bl _)⟩
    · exact q.elim
  · exact q.elim
theorem c1_any : OpC1 g (rAny g.K) fAny := fun W w S H σ x u Q st r1 q => by
  unfold fAny at q
  split at q
  · rename_i ds e
    split at q
    · rename_i ns en
      obtain ⟨a, vs, rfl, h1, l⟩ := rd_lst st r1 e
      rw [asBls_eq en] at l
      have ev := l.bls
      subst ev
      exact ⟨a, ns, rfl, .inl (.inl h1), RQ.okQ q st (.bl _)⟩
    · exact q.elim
  · exact q.elim
theorem c2_max : OpC2 g (fun xs H Q => ∃ i j, xs = [.int i, .int j] ∧ Q (.int (if j > i then j else i)) H) fMax2 := fun W w S H σ x y u v Q st r1 r2 q => by
  obtain ⟨i, j, rfl, rfl, q⟩ := fI_q st r1 r2 q
  exact ⟨i, j, rfl, RQ.okQ q st (.int _)⟩
theorem c2_min : OpC2 g (fun xs H Q => ∃ i j, xs = [.int i, .int j] ∧ Q (.int (if j < i then j else i)) H) fMin2 := fun W w S H σ x y u v Q st r1 r2 q => by
  obtain ⟨i, j, rfl, rfl, q⟩ := fI_q st r1 r2 q
  exact ⟨i, j, rfl, RQ.okQ q st (.int _)⟩
def rIsiTy (K : PySem.W.Frag) (n : String) : List V → Hp → VK → Prop := fun xs H Q => ∃ x, xs = [x] ∧ rIsi K [x, .ty n] H Q
theorem isi_ty {w : Wd} {S : Store} {H : Hp} {t : Ty} {x : Val} {d : D} {u : V} {b : Bool} (st : StOk g w S H) (r : RepV g w H x u) (e : rd S x = some d) (eb : isiD t d = some b) : ∃ tv, TyX g.K H u tv ∧ PySem.W.kitOne g.K tv (.type t.name) = some b := by
  have key : ∀ {n : String} {v : V}, TyX g.K H v (.type n) → kitB n t.name = some b → ∃ tv, TyX g.K H v tv ∧ PySem.W.kitOne g.K tv (.type t.name) = some b := fun h1 h2 => ⟨_, h1, kit_ty h2⟩
  cases d with
  | non =>
    cases x with
    | d x => cases e; cases r; refine key (.base .non) ?_; cases t <;> cases eb <;> decide +kernel
    | cell k => obtain ⟨es, hk, e2⟩ := rd_cell e; cases e2
  | bl y =>
    cases x with
    | d x => cases e; cases r; refine key (.base (.bl y)) ?_; cases t <;> cases eb <;> decide +kernel
    | cell k => obtain ⟨es, hk, e2⟩ := rd_cell e; cases e2
  | int y =>
    cases x with
    | d x => cases e; cases r; refine key (.base (.int y)) ?_; cases t <;> cases eb <;> decide +kernel
    | cell k => obtain ⟨es, hk, e2⟩ := rd_cell e; cases e2
  | str y =>
    cases x with
    | d x => cases e; cases r; refine key (.base (.str y)) ?_; cases t <;> cases eb <;> decide +kernel
    | cell k => obtain ⟨es, hk, e2⟩ := rd_cell e; cases e2
  | tup ds =>
    obtain ⟨a, vs, rfl, h1, l⟩ := rd_tup r e
    have kk : kitB "tuple" t.name = some b := by cases t <;> cases eb <;> decide +kernel
    rcases h1 with ⟨h1 | ⟨o, h1⟩, _⟩ | ⟨o, its, n, h1, h2, _⟩
    · exact key (.base (.tup h1)) kk
    · exact key (.fTuple h1) kk
    · exact key (.kTuple h1 h2) kk
  | lst ds =>
    obtain ⟨a, vs, rfl, h1, l⟩ := rd_lst st r e
    have kk : kitB "list" t.name = some b := by cases t <;> cases eb <;> decide +kernel
    exact key (.base (.lst h1)) kk
  | obj _ _ => cases t <;> cases eb
  | scr _ => cases t <;> cases eb
  | val _ => cases t <;> cases eb
  | fn _ => cases t <;> cases eb
  | dct _ _ => cases t <;> cases eb
end

/-! ### calls -/
section
variable {X : Cx} {g : Gx} {W : WX} {a b : Expr} {ea eb : Ev} {pos p : Pos} {x : Str} {id T : String} {r : List V → Hp → VK → Prop}
theorem p_call1 {f : Val → Store → R Val} (hc : CallR X (.builtin id) r) (hf : OpC1 g r f) (hg : Gl X x) (hm : X.mg x = none) (hv : bootBuiltins x = some (.builtin id)) (ha : PE X a (tE g W ea)) (hn : x ≠ "__name__" := by decide) (hdb : (x == ("__debug__" : Str)) = false := by decide)
    (he : starEach [a] X.env = (false, eval a X.env) :: starEach [] X.env := by rfl) (hpl : (backTo pos (starEach [] X.env)).any (·.1) = false := by rfl) : PE X (.Call (.Name x p) [a] [] pos) (tE g W (eUn f ea)) :=
  (pe_callB hc hg hm hv (pa_cons ha pa_nil he) hn hdb he hpl).imp fun σ H Q ⟨w, Γ, S, st, en, h⟩ => tX_seq st en h fun u H1 y S1 w1 s1 st1 en1 r1 h1 => hf W w1 S1 H1 σ y u Q st1 r1 h1
theorem p_callT1 {f : Val → Store → R Val} (hc : CallR X (.type T) r) (hf : OpC1 g r f) (hg : Gl X x) (hm : X.mg x = none) (hv : bootBuiltins x = some (.type T)) (ha : PE X a (tE g W ea)) (hn : x ≠ "__name__" := by decide) (hdb : (x == ("__debug__" : Str)) = false := by decide)
    (he : starEach [a] X.env = (false, eval a X.env) :: starEach [] X.env := by rfl) (hpl : (backTo pos (starEach [] X.env)).any (·.1) = false := by rfl) : PE X (.Call (.Name x p) [a] [] pos) (tE g W (eUn f ea)) :=
  (pe_callTy hc hg hm hv (pa_cons ha pa_nil he) hn hdb he hpl).imp fun σ H Q ⟨w, Γ, S, st, en, h⟩ => tX_seq st en h fun u H1 y S1 w1 s1 st1 en1 r1 h1 => hf W w1 S1 H1 σ y u Q st1 r1 h1
theorem p_call2 {f : Val → Val → Store → R Val} (hc : CallR X (.builtin id) r) (hf : OpC2 g r f) (hg : Gl X x) (hm : X.mg x = none) (hv : bootBuiltins x = some (.builtin id)) (ha : PE X a (tE g W ea)) (hb : PE X b (tE g W eb)) (hn : x ≠ "__name__" := by decide) (hdb : (x == ("__debug__" : Str)) = false := by decide)
    (he : starEach [a, b] X.env = (false, eval a X.env) :: starEach [b] X.env := by rfl) (he2 : starEach [b] X.env = (false, eval b X.env) :: starEach [] X.env := by rfl) (hpl : (backTo pos (starEach [b] X.env)).any (·.1) = false := by rfl) : PE X (.Call (.Name x p) [a, b] [] pos) (tE g W (eBin f ea eb)) :=
  (pe_callB hc hg hm hv (pa_cons ha (pa_cons hb pa_nil he2) he) hn hdb he hpl).imp fun σ H Q ⟨w, Γ, S, st, en, h⟩ => tX_seq st en h fun u H1 y S1 w1 s1 st1 en1 r1 h1 => tX_seq st1 en1 h1 fun v H2 z S2 w2 s2 st2 en2 r2 h2 =>
    hf W w2 S2 H2 σ y z u v Q st2 (r1.step s2) r2 h2
theorem p_len (hK : g.K = X.K) (hg : Gl X "len") (hm : X.mg "len" = none) (ha : PE X a (tE g W ea)) (he : starEach [a] X.env = (false, eval a X.env) :: starEach [] X.env := by rfl) (hpl : (backTo pos (starEach [] X.env)).any (·.1) = false := by rfl) :
    PE X (.Call (.Name "len" p) [a] [] pos) (tE g W (eUn fLen ea)) := p_call1 (id := "len") cr_len2 (by rw [← hK]; exact c1_len) hg hm (by decide +kernel) ha (by decide) (by decide) he hpl
theorem p_sum (hK : g.K = X.K) (hcm : X.calm = true) (hg : Gl X "sum") (hm : X.mg "sum" = none) (ha : PE X a (tE g W ea)) (he : starEach [a] X.env = (false, eval a X.env) :: starEach [] X.env := by rfl) (hpl : (backTo pos (starEach [] X.env)).any (·.1) = false := by rfl) :
    PE X (.Call (.Name "sum" p) [a] [] pos) (tE g W (eUn fSum ea)) := p_call1 (id := "sum") (cr_sum2 hcm) (by rw [← hK]; exact c1_sum) hg hm (by decide +kernel) ha (by decide) (by decide) he hpl
theorem p_all (hK : g.K = X.K) (hcm : X.calm = true) (hg : Gl X "all") (hm : X.mg "all" = none) (ha : PE X a (tE g W ea)) (he : starEach [a] X.env = (false, eval a X.env) :: starEach [] X.env := by rfl) (hpl : (backTo pos (starEach [] X.env)).any (·.1) = false := by rfl) :
    PE X (.Call (.Name "all" p) [a] [] pos) (tE g W (eUn fAll ea)) := p_call1 (id := "all") (cr_all hcm) (by rw [← hK]; exact c1_all) hg hm (by decide +kernel) ha (by decide) (by decide) he hpl
theorem p_any (hK : g.K = X.K) (hcm : X.calm = true) (hg : Gl X "any") (hm : X.mg "any" = none) (ha : PE X a (tE g W ea)) (he : starEach [a] X.env = (false, eval a X.env) :: starEach [] X.env := by rfl) (hpl : (backTo pos (starEach [] X.env)).any (·.1) = false := by rfl) :
    PE X (.Call (.Name "any" p) [a] [] pos) (tE g W (eUn fAny ea)) := p_call1 (id := "any") (cr_any hcm) (by rw [← hK]; exact c1_any) hg hm (by decide +kernel) ha (by decide) (by decide) he hpl
theorem p_abs (hg : Gl X "abs") (hm : X.mg "abs" = none) (ha : PE X a (tE g W ea)) (he : starEach [a] X.env = (false, eval a X.env) :: starEach [] X.env := by rfl) (hpl : (backTo pos (starEach [] X.env)).any (·.1) = false := by rfl) :
    PE X (.Call (.Name "abs" p) [a] [] pos) (tE g W (eUn fAbs ea)) := p_call1 (id := "abs") call_abs c1_abs hg hm (by decide +kernel) ha (by decide) (by decide) he hpl
theorem p_int' (hg : Gl X "int") (hm : X.mg "int" = none) (ha : PE X a (tE g W ea)) (he : starEach [a] X.env = (false, eval a X.env) :: starEach [] X.env := by rfl) (hpl : (backTo pos (starEach [] X.env)).any (·.1) = false := by rfl) :
    PE X (.Call (.Name "int" p) [a] [] pos) (tE g W (eUn fInt ea)) := p_callT1 (T := "int") call_int1 c1_int hg hm (by decide +kernel) ha (by decide) (by decide) he hpl
theorem p_tuple (hK : g.K = X.K) (hg : Gl X "tuple") (hm : X.mg "tuple" = none) (ha : PE X a (tE g W ea)) (he : starEach [a] X.env = (false, eval a X.env) :: starEach [] X.env := by rfl) (hpl : (backTo pos (starEach [] X.env)).any (·.1) = false := by rfl) :
    PE X (.Call (.Name "tuple" p) [a] [] pos) (tE g W (eUn fTuple ea)) := p_callT1 (T := "tuple") call_tuple_of (by rw [← hK]; exact c1_tuple) hg hm (by decide +kernel) ha (by decide) (by decide) he hpl
theorem p_list (hK : g.K = X.K) (hg : Gl X "list") (hm : X.mg "list" = none) (ha : PE X a (tE g W ea)) (he : starEach [a] X.env = (false, eval a X.env) :: starEach [] X.env := by rfl) (hpl : (backTo pos (starEach [] X.env)).any (·.1) = false := by rfl) :
    PE X (.Call (.Name "list" p) [a] [] pos) (tE g W (eUn fList ea)) := p_callT1 (T := "list") call_list_of (by rw [← hK]; exact c1_list) hg hm (by decide +kernel) ha (by decide) (by decide) he hpl
theorem p_max2 (hcm : X.calm = true) (hg : Gl X "max") (hm : X.mg "max" = none) (ha : PE X a (tE g W ea)) (hb : PE X b (tE g W eb)) (he : starEach [a, b] X.env = (false, eval a X.env) :: starEach [b] X.env := by rfl) (he2 : starEach [b] X.env = (false, eval b X.env) :: starEach [] X.env := by rfl) (hpl : (backTo pos (starEach [b] X.env)).any (·.1) = false := by rfl) :
    PE X (.Call (.Name "max" p) [a, b] [] pos) (tE g W (eBin fMax2 ea eb)) := p_call2 (id := "max") (call_max2 hcm) c2_max hg hm (by decide +kernel) ha hb (by decide) (by decide) he he2 hpl
theorem p_min2 (hcm : X.calm = true) (hg : Gl X "min") (hm : X.mg "min" = none) (ha : PE X a (tE g W ea)) (hb : PE X b (tE g W eb)) (he : starEach [a, b] X.env = (false, eval a X.env) :: starEach [b] X.env := by rfl) (he2 : starEach [b] X.env = (false, eval b X.env) :: starEach [] X.env := by rfl) (hpl : (backTo pos (starEach [b] X.env)).any (·.1) = false := by rfl) :
    PE X (.Call (.Name "min" p) [a, b] [] pos) (tE g W (eBin fMin2 ea eb)) := p_call2 (id := "min") (call_min2 hcm) c2_min hg hm (by decide +kernel) ha hb (by decide) (by decide) he he2 hpl
/-- isinstance(a, T), T a built-in class -/
theorem p_isi (t : Ty) {n : Str} {p2 : Pos} (hK : g.K = X.K) (hg : Gl X "isinstance") (hm : X.mg "isinstance" = none) (hgT : Gl X n) (hmT : X.mg n = none) (hvT : bootBuiltins n = some (.type t.name)) (ha : PE X a (tE g W ea)) (hnT : n ≠ "__name__" := by decide) (hdT : (n == ("__debug__" : Str)) = false := by decide)
    (he : starEach [a, .Name n p2] X.env = (false, eval a X.env) :: starEach [.Name n p2] X.env := by rfl) (he2 : starEach [.Name n p2] X.env = (false, eval (.Name n p2) X.env) :: starEach [] X.env := by rfl) (hpl : (backTo pos (starEach [.Name n p2] X.env)).any (·.1) = false := by rfl) :
    PE X (.Call (.Name "isinstance" p) [a, .Name n p2] [] pos) (tE g W (eUn (fIsi t) ea)) :=
  (pe_callB (id := "isinstance") call_isi hg hm (by decide +kernel) (pa_cons ha (pa_cons (pe_bltn (v := .ty t.name) hgT hmT hvT rfl hnT hdT) pa_nil he2) he) (by decide) (by decide) he hpl).imp fun σ H Q ⟨w, Γ, S, st, en, h⟩ =>
    tX_seq st en h fun u H1 y S1 w1 s1 st1 en1 r1 h1 => by
      unfold fIsi at h1
      split at h1
      · rename_i d e
        split at h1
        · rename_i bb eb
          obtain ⟨tv, t1, t2⟩ := isi_ty st1 r1 e eb
          rw [hK] at t1 t2
          exact ⟨u, .ty t.name, tv, .type t.name, bb, rfl, .ty t.name, t1, t2, RQ.okQ h1 st1 (.bl _)⟩
        · exact h1.elim
      · exact h1.elim
end
end Pd

namespace Pd
open PySem L2

/-! ### slices -/
def cutD {α : Type} (xs : List α) (lo hi : Option Int) : List α := (xs.drop (HT.sIx xs.length 0 lo)).take (HT.sIx xs.length xs.length hi - HT.sIx xs.length 0 lo)
def eoN : Env → Store → R (Option Int) := fun _ S => .ok none S
def eoS (a : Ev) : Env → Store → R (Option Int) := fun Γ S => (a Γ S).bind fun x S1 => match x with | .d (.int i) => .ok (some i) S1 | _ => .bad
def fSl (x : Val) (lo hi : Option Int) (S : Store) : R Val := match rd S x with
  | some (.lst ds) => .ok (.d (.lst (cutD ds lo hi))) S
  | some (.tup ds) => .ok (.d (.tup (cutD ds lo hi))) S
  | _ => .bad
def eSl (a : Ev) (lo hi : Env → Store → R (Option Int)) : Ev := fun Γ S => (a Γ S).bind fun x S1 => (lo Γ S1).bind fun l S2 => (hi Γ S2).bind fun h S3 => fSl x l h S3
abbrev tO (g : Gx) (W : WX) (ev : Env → Store → R (Option Int)) : TO := tX g W (fun _ _ a b => a = b) ev
theorem _root_.L2.PO.imp {X : Cx} {e : Option Expr} {t t' : TO} (h : PO X e t) (i : ∀ σ H Q, t' σ H Q → t σ H Q) : PO X e t' := ⟨fun pins s σ H Q I hw => h.run pins s σ H Q I (i σ H Q hw)⟩
section
variable {X : Cx} {g : Gx} {W : WX} {a b c : Expr} {ea eb ec : Ev} {pos p2 : Pos}
theorem po_n : PO X none (tO g W eoN) := po_none.imp fun σ H Q ⟨w, Γ, S, st, en, h⟩ => RQ.okQ h st rfl
theorem po_s (ha : PE X a (tE g W ea)) : PO X (some a) (tO g W (eoS ea)) := (po_some ha).imp fun σ H Q ⟨w, Γ, S, st, en, h⟩ => tX_seq st en h fun u H1 x S1 w1 s1 st1 en1 r1 h1 => by
  split at h1
  · cases r1
    exact ⟨_, rfl, RQ.okQ h1 st1 rfl⟩
  · exact h1.elim
theorem RepL.cut {w : Wd} {H : Hp} {ds : List D} {vs : List V} (l : RepL g w H ds vs) (lo hi : Option Int) : RepL g w H (cutD ds lo hi) (cutV vs lo hi) := by
  unfold cutD cutV
  rw [l.length]
  exact RepL.take _ (RepL.drop _ l)
theorem cut_whole {α : Type} (xs : List α) (lo hi : Option Int) (h : HT.sIx xs.length 0 lo = 0 ∧ HT.sIx xs.length xs.length hi = xs.length) : cutD xs lo hi = xs := by
  unfold cutD
  rw [h.1, h.2]
  simp
def rSl2 (K : PySem.W.Frag) : V → Option Int → Option Int → Hp → VK → Prop := fun x lo hi H Q => rSlL K x lo hi H Q ∨ rSlA K x lo hi H Q
theorem sl_two : SlR X (rSl2 X.K) := SlR.or sl_list sl_tupA
theorem p_sl {lo hi : Option Expr} {el eh : Env → Store → R (Option Int)} (hK : g.K = X.K) (ha : PE X a (tE g W ea)) (hl : PO X lo (tO g W el)) (hh : PO X hi (tO g W eh)) : PE X (.Subscript a (.Slice lo hi none p2) pos) (tE g W (eSl ea el eh)) :=
  (pe_slice sl_two ha hl hh).imp fun σ H Q ⟨w, Γ, S, st, en, h⟩ => tX_seq st en h fun u H1 x S1 w1 s1 st1 en1 r1 h1 => tX_seq st1 en1 h1 fun l H2 l' S2 w2 s2 st2 en2 r2 h2 => tX_seq st2 en2 h2 fun k H3 k' S3 w3 s3 st3 en3 r3 h3 => by
    subst r2
    subst r3
    have r1' := (r1.step s2).step s3
    unfold fSl at h3
    split at h3
    · rename_i ds e
      obtain ⟨p, vs, rfl, q1, q2⟩ := rd_lst st3 r1' e
      exact .inl ⟨p, vs, rfl, .inl (.inl q1), fun p hp => RQ.newQ h3 st3 hp (rep_lst st3 hp (q2.cut _ _))⟩
    · rename_i ds e
      obtain ⟨p, vs, rfl, q1, q2⟩ := rd_tup r1' e
      refine .inr ⟨p, vs, rfl, by rw [← hK]; exact q1.sq, fun hw => ?_, fun _ p hp => RQ.newQ h3 st3 hp (rep_tup st3 hp (q2.cut _ _))⟩
      rw [← q2.length] at hw
      rw [cut_whole ds _ _ hw] at h3
      exact RQ.okQ h3 st3 (.tup q1 q2)
    · exact h3.elim
end

/-! ### what a loop walks -/
def Items (g : Gx) (w : Wd) (H : Hp) (ds : List D) (J : It) : Prop := ∀ w1 S1 H1, StOk g w1 S1 H1 → Le w H w1 H1 →
  (∀ i, i < ds.length → J.go i H1 ∧ ∀ x H2, J.yld i H1 x H2 → Stp w1 H1 w1 H2 ∧ StOk g w1 S1 H2 ∧ ∀ d, ds[i]? = some d → Rep g w1 H2 d x) ∧ J.stop ds.length H1
abbrev tI (g : Gx) (W : WX) (it : Env → Store → R (List D)) : TI := tX g W (Items g) it
/-- the items of a list or a tuple -/
def itV (a : Ev) : Env → Store → R (List D) := fun Γ S => (a Γ S).bind fun x S1 => match x with | .d (.lst ds) => .ok ds S1 | .d (.tup ds) => .ok ds S1 | _ => .bad
def upto (n : Nat) : List D := (List.range n).map fun i => .int (i : Nat)
def itR1 (a : Ev) : Env → Store → R (List D) := fun Γ S => (a Γ S).bind fun x S1 => match x with | .d (.int n) => if n ≤ cap ∧ -cap ≤ n then .ok (upto n.toNat) S1 else .bad | _ => .bad
def itR2 (a b : Ev) : Env → Store → R (List D) := fun Γ S => (a Γ S).bind fun x S1 => (b Γ S1).bind fun y S2 => match x, y with
  | .d (.int m), .d (.int n) => if (n ≤ cap ∧ -cap ≤ n) ∧ m ≤ cap ∧ -cap ≤ m then .ok ((List.range (n - m).toNat).map fun i => .int (m + (i : Nat))) S2 else .bad | _, _ => .bad
def seqOf : Val → Option (List D)
  | .d (.lst ds) => some ds
  | .d (.tup ds) => some ds
  | _ => none
/-- enumerate(a list) -/
def itEn (a : Ev) : Env → Store → R (List D) := fun Γ S => (a Γ S).bind fun x S1 => match x with | .d (.lst ds) => .ok (ds.zipIdx.map fun p => .tup [.int (p.2 : Nat), p.1]) S1 | .d (.tup ds) => .ok (ds.zipIdx.map fun p => .tup [.int (p.2 : Nat), p.1]) S1 | _ => .bad
def zipD (xs ys : List D) : List D := (xs.zip ys).map fun p => .tup [p.1, p.2]
/-- zip of two lists, of two tuples -/
def itZ (a b : Ev) : Env → Store → R (List D) := fun Γ S => (a Γ S).bind fun x S1 => (b Γ S1).bind fun y S2 => match x, y with
  | .d (.lst ds), .d (.lst es) => .ok (zipD ds es) S2
  | .d (.tup ds), .d (.tup es) => .ok (zipD ds es) S2
  | _, _ => .bad

section
variable {X : Cx} {g : Gx} {W : WX} {a b c tg : Expr} {ea eb ec : Ev} {pos p p2 : Pos}
/-- a list or a tuple, walked -/
theorem pi_seq {l : Expr} {tl : TE} (hl : PE X l tl) : PI X tg l (fun σ H R => tl σ H fun x H1 => ∃ a, x = .ref a ∧ (((∃ xs, SqL X.K H1 a xs) ∧ R (Itl X.K a) H1) ∨ ((∃ xs, SqT X.K H1 a xs) ∧ R (Itt X.K a) H1))) := by
  refine ⟨fun pins s σ H R I h => ?_⟩
  refine thn (hl.run pins s σ H _ I h) fun v s1 ⟨x, H1, I1, r1, q1⟩ => ?_
  obtain ⟨a, e, q⟩ := q1
  subst e
  cases r1
  rcases q with ⟨⟨xs, hq⟩, q⟩ | ⟨⟨xs, hq⟩, q⟩
  · obtain ⟨its, rv, p, hz⟩ := I1.list hq
    refine wpAny_pyIter_list p.isList ?_
    refine ⟨s1.heap.objs.size, [s1.heap.objs.size], _, _, H1, rfl, I1.kept (t' := s1.toks) fun b o e => Heap.get?_push_of_some _ e, turn_list a _, ⟨_, Heap.get?_push_size _ rfl, rfl, rfl⟩, fun b hb => ?_, q⟩
    have e : b = s1.heap.objs.size := by simpa using hb
    subst e
    exact I1.fpOk (Nat.le_refl _) (I1.hok.fresh (Nat.le_refl _))
  · obtain ⟨its, rv, p, hz⟩ := I1.tuple hq
    refine wpAny_pyIter_tuple (show s1.heap.IsTuple a its.toArray from p) ?_
    refine ⟨s1.heap.objs.size, [s1.heap.objs.size], _, _, H1, rfl, I1.kept (t' := s1.toks) fun b o e => Heap.get?_push_of_some _ e, turn_tuple a _, ⟨_, Heap.get?_push_size _ rfl, rfl, rfl⟩, fun b hb => ?_, q⟩
    have e : b = s1.heap.objs.size := by simpa using hb
    subst e
    exact I1.fpOk (Nat.le_refl _) (I1.hok.fresh (Nat.le_refl _))
variable {w : Wd} {H : Hp} {ds es : List D}
theorem items_list {a : Addr} {vs : List V} (h : H a = some (.lst vs)) (n : ¬ w.av a) (l : RepL g w H ds vs) : Items g w H ds (Itl g.K a) := fun w1 S1 H1 st le => by
  have h1 : SqL g.K H1 a vs := .inl (.inl (le.keep _ _ h n))
  have l1 := RepL.le le l
  refine ⟨fun i hi => ?_, ⟨vs, h1, by rw [l.length]; exact Nat.le_refl _⟩⟩
  obtain ⟨v, hv, _⟩ := l.get (List.getElem?_eq_getElem hi)
  refine ⟨⟨vs, v, h1, hv⟩, fun x H2 y => ?_⟩
  obtain ⟨rfl, y⟩ := y
  refine ⟨.refl _ _, st, fun d hd => ?_⟩
  obtain ⟨u, hu, ru⟩ := l1.get hd
  have := y vs h1
  rw [hu] at this
  cases this
  exact ru
theorem items_tup {a : Addr} {vs : List V} (h : SqT' g w H a vs) (l : RepL g w H ds vs) : Items g w H ds (Itt g.K a) := fun w1 S1 H1 st le => by
  have h1 : SqT g.K H1 a vs := (h.le le).sq
  have l1 := RepL.le le l
  refine ⟨fun i hi => ?_, ⟨vs, h1, by rw [l.length]; exact Nat.le_refl _⟩⟩
  obtain ⟨v, hv, _⟩ := l.get (List.getElem?_eq_getElem hi)
  refine ⟨⟨vs, v, h1, hv⟩, fun x H2 y => ?_⟩
  obtain ⟨rfl, y⟩ := y
  refine ⟨.refl _ _, st, fun d hd => ?_⟩
  obtain ⟨u, hu, ru⟩ := l1.get hd
  have := y vs h1
  rw [hu] at this
  cases this
  exact ru
theorem i_val (hK : g.K = X.K) (ha : PE X a (tE g W ea)) : PI X tg a (tI g W (itV ea)) := (pi_seq ha).imp fun σ H Q ⟨w, Γ, S, st, en, h⟩ => tX_seq st en h fun u H1 x S1 w1 s1 st1 en1 r1 h1 => by
  split at h1
  · cases r1 with
    | lst q1 q2 q3 =>
      rw [← hK]
      exact ⟨_, rfl, .inl ⟨⟨_, .inl (.inl q1)⟩, RQ.okQ h1 st1 (items_list q1 q2 q3)⟩⟩
  · cases r1 with
    | tup q1 q3 =>
      rw [← hK]
      exact ⟨_, rfl, .inr ⟨⟨_, q1.sq⟩, RQ.okQ h1 st1 (items_tup q1 q3)⟩⟩
  · exact h1.elim
theorem items_range {lo : Int} {n : Nat} : Items g w H ((List.range n).map fun i => .int (lo + (i : Nat))) (Itr lo n) := fun w1 S1 H1 st le => by
  refine ⟨fun i hi => ?_, by show n ≤ _; simp⟩
  have hi' : i < n := by simpa using hi
  refine ⟨hi', fun x H2 y => ?_⟩
  obtain ⟨rfl, rfl⟩ := y
  refine ⟨.refl _ _, st, fun d hd => ?_⟩
  rw [List.getElem?_map, List.getElem?_range hi'] at hd
  cases hd
  exact .int _
theorem items_upto {n : Nat} : Items g w H (upto n) (Itr 0 n) := by
  have e : upto n = (List.range n).map fun i => .int ((0 : Int) + (i : Nat)) := by
    unfold upto
    simp
  rw [e]
  exact items_range
theorem i_range1 (hg : Gl X "range") (hm : X.mg "range" = none) (ha : PE X a (tE g W ea)) (hs : starEach [a] X.env = [(false, eval a X.env)] := by rfl) : PI X tg (.Call (.Name "range" p) [a] [] pos) (tI g W (itR1 ea)) :=
  (pi_range1 hg hm (pa_cons ha pa_nil hs) hs).imp fun σ H Q ⟨w, Γ, S, st, en, h⟩ => tX_seq st en h fun u H1 x S1 w1 s1 st1 en1 r1 h1 => by
    split at h1
    · obtain ⟨⟨q1, q2⟩, h1⟩ := ite_q h1
      cases r1
      have hc : ((cap : Nat) : Int) = 1000000 := rfl
      exact ⟨_, rfl, by omega, by omega, RQ.okQ h1 st1 items_upto⟩
    · exact h1.elim
theorem i_range2 (hg : Gl X "range") (hm : X.mg "range" = none) (ha : PE X a (tE g W ea)) (hb : PE X b (tE g W eb)) (hs : starEach [a, b] X.env = [(false, eval a X.env), (false, eval b X.env)] := by rfl) (hs2 : starEach [b] X.env = [(false, eval b X.env)] := by rfl) :
    PI X tg (.Call (.Name "range" p) [a, b] [] pos) (tI g W (itR2 ea eb)) :=
  (pi_range2 hg hm (pa_cons ha (pa_cons hb pa_nil hs2) (by rw [hs, hs2])) hs hs2).imp fun σ H Q ⟨w, Γ, S, st, en, h⟩ => tX_seq st en h fun u H1 x S1 w1 s1 st1 en1 r1 h1 => tX_seq st1 en1 h1 fun v H2 y S2 w2 s2 st2 en2 r2 h2 => by
    split at h2
    · obtain ⟨⟨⟨q1, q2⟩, q3, q4⟩, h2⟩ := ite_q h2
      cases r1
      cases r2
      have hc : ((cap : Nat) : Int) = 1000000 := rfl
      exact ⟨_, _, rfl, ⟨by omega, by omega, by omega, by omega⟩, RQ.okQ h2 st2 items_range⟩
    · exact h2.elim
/-- a new pair at each turn -/
theorem items_pair {J : It} {f : Nat → Option (D × D)} {n : Nat} (hn : ds.length = n) (hd : ∀ i d, ds[i]? = some d → ∃ x y, f i = some (x, y) ∧ d = .tup [x, y])
    (hJ : ∀ w1 S1 H1, StOk g w1 S1 H1 → Le w H w1 H1 → (∀ i, i < n → J.go i H1 ∧ ∀ x H2, J.yld i H1 x H2 → ∃ T u v, x = .ref T ∧ H1 T = none ∧ H2 = upd H1 T (.tup [u, v]) ∧ ∀ c d, f i = some (c, d) → Rep g w1 H1 c u ∧ Rep g w1 H1 d v) ∧ J.stop n H1) : Items g w H ds J := fun w1 S1 H1 st le => by
  subst hn
  obtain ⟨j1, j2⟩ := hJ w1 S1 H1 st le
  refine ⟨fun i hi => ⟨(j1 i hi).1, fun x H2 y => ?_⟩, j2⟩
  obtain ⟨T, u, v, rfl, hT, rfl, q⟩ := (j1 i hi).2 x H2 y
  refine ⟨step_new st hT, st.new hT, fun d hdd => ?_⟩
  obtain ⟨c, e, hf, rfl⟩ := hd i d hdd
  obtain ⟨r1, r2⟩ := q c e hf
  exact rep_tup st hT (.cons r1 (.cons r2 .nil))
theorem enum_len (ds : List D) : (ds.zipIdx.map fun p => D.tup [.int (p.2 : Nat), p.1]).length = ds.length := by simp
theorem enum_get (ds : List D) (i : Nat) (d : D) (h : (ds.zipIdx.map fun p => D.tup [.int (p.2 : Nat), p.1])[i]? = some d) : ∃ x y, (ds[i]?.map fun z => (D.int (i : Nat), z)) = some (x, y) ∧ d = .tup [x, y] := by
  rw [List.getElem?_map, List.getElem?_zipIdx] at h
  cases e : ds[i]? with
  | none => rw [e] at h; cases h
  | some z =>
    rw [e] at h
    simp at h
    exact ⟨_, _, rfl, h.symm⟩
theorem items_enum {a : Addr} {vs : List V} (h : H a = some (.lst vs)) (n : ¬ w.av a) (l : RepL g w H ds vs) : Items g w H (ds.zipIdx.map fun p => .tup [.int (p.2 : Nat), p.1]) (Ite g.K a) := by
  refine items_pair (enum_len ds) (f := fun i => ds[i]?.map fun z => (D.int (i : Nat), z)) (fun i d h => enum_get ds i d h) fun w1 S1 H1 st le => ?_
  have h1 : SqL g.K H1 a vs := .inl (.inl (le.keep _ _ h n))
  have l1 := RepL.le le l
  refine ⟨fun i hi => ?_, ⟨vs, h1, by rw [l.length]; exact Nat.le_refl _⟩⟩
  obtain ⟨v, hv, _⟩ := l.get (List.getElem?_eq_getElem hi)
  refine ⟨⟨vs, v, h1, hv⟩, fun x H2 y => ?_⟩
  obtain ⟨T, u, rfl, hT, rfl, q⟩ := y
  refine ⟨T, _, u, rfl, hT, rfl, fun c d e => ?_⟩
  cases e2 : ds[i]? with
  | none => rw [e2] at e; cases e
  | some z =>
    rw [e2] at e
    cases e
    obtain ⟨u', hu, ru⟩ := l1.get e2
    have := q vs h1
    rw [hu] at this
    cases this
    exact ⟨.int _, ru⟩
theorem zip_get (xs ys : List D) (i : Nat) (d : D) (h : (zipD xs ys)[i]? = some d) : ∃ x y, (match xs[i]?, ys[i]? with | some x, some y => some (x, y) | _, _ => none) = some (x, y) ∧ d = .tup [x, y] := by
  unfold zipD at h
  rw [List.getElem?_map] at h
  cases e : (xs.zip ys)[i]? with
  | none => rw [e] at h; cases h
  | some z =>
    rw [e] at h
    cases h
    obtain ⟨e1, e2⟩ := List.getElem?_zip_eq_some.mp e
    rw [e1, e2]
    exact ⟨_, _, rfl, rfl⟩
theorem items_zipL {a b : Addr} {vs us : List V} (h : H a = some (.lst vs)) (n : ¬ w.av a) (l : RepL g w H ds vs) (h' : H b = some (.lst us)) (n' : ¬ w.av b) (l' : RepL g w H es us) : Items g w H (zipD ds es) (Itz g.K a b) := by
  refine items_pair (n := min ds.length es.length) (by simp [zipD]) (fun i d h => zip_get ds es i d h) fun w1 S1 H1 st le => ?_
  have h1 : SqL g.K H1 a vs := .inl (.inl (le.keep _ _ h n))
  have h2 : SqL g.K H1 b us := .inl (.inl (le.keep _ _ h' n'))
  have l1 := RepL.le le l
  have l2 := RepL.le le l'
  refine ⟨fun i hi => ?_, ⟨vs, us, h1, h2, by have := l.length; have := l'.length; omega⟩⟩
  obtain ⟨v, hv, _⟩ := l.get (List.getElem?_eq_getElem (show i < ds.length by omega))
  obtain ⟨v', hv', _⟩ := l'.get (List.getElem?_eq_getElem (show i < es.length by omega))
  refine ⟨⟨vs, us, v, v', h1, h2, hv, hv'⟩, fun x H2 y => ?_⟩
  obtain ⟨T, u, u', rfl, hT, rfl, q, q'⟩ := y
  refine ⟨T, _, _, rfl, hT, rfl, fun c d e => ?_⟩
  split at e
  · rename_i c' d' e1 e2
    cases e
    obtain ⟨z, hz, rz⟩ := l1.get e1
    obtain ⟨z', hz', rz'⟩ := l2.get e2
    have t1 := q vs h1
    have t2 := q' us h2
    rw [hz] at t1
    rw [hz'] at t2
    cases t1
    cases t2
    exact ⟨rz, rz'⟩
  · cases e
theorem items_zipT {a b : Addr} {vs us : List V} (h : SqT' g w H a vs) (l : RepL g w H ds vs) (h' : SqT' g w H b us) (l' : RepL g w H es us) : Items g w H (zipD ds es) (RZ.ItzT g.K a b) := by
  refine items_pair (n := min ds.length es.length) (by simp [zipD]) (fun i d h => zip_get ds es i d h) fun w1 S1 H1 st le => ?_
  have h1 : SqT g.K H1 a vs := (h.le le).sq
  have h2 : SqT g.K H1 b us := (h'.le le).sq
  have l1 := RepL.le le l
  have l2 := RepL.le le l'
  refine ⟨fun i hi => ?_, ⟨vs, us, h1, h2, by have := l.length; have := l'.length; omega⟩⟩
  obtain ⟨v, hv, _⟩ := l.get (List.getElem?_eq_getElem (show i < ds.length by omega))
  obtain ⟨v', hv', _⟩ := l'.get (List.getElem?_eq_getElem (show i < es.length by omega))
  refine ⟨⟨vs, us, v, v', h1, h2, hv, hv'⟩, fun x H2 y => ?_⟩
  obtain ⟨T, u, u', rfl, hT, rfl, q, q'⟩ := y
  refine ⟨T, _, _, rfl, hT, rfl, fun c d e => ?_⟩
  split at e
  · rename_i c' d' e1 e2
    cases e
    obtain ⟨z, hz, rz⟩ := l1.get e1
    obtain ⟨z', hz', rz'⟩ := l2.get e2
    have t1 := q vs h1
    have t2 := q' us h2
    rw [hz] at t1
    rw [hz'] at t2
    cases t1
    cases t2
    exact ⟨rz, rz'⟩
  · cases e
theorem i_zip {elts : List Expr} {kk : Nat} {tpos : Pos} (hK : g.K = X.K) (hg : Gl X "zip") (hm : X.mg "zip" = none) (ha : PE X a (tE g W ea)) (hb : PE X b (tE g W eb)) (hs : starEach [a, b] X.env = (false, eval a X.env) :: starEach [b] X.env := by rfl) (hs2 : starEach [b] X.env = (false, eval b X.env) :: starEach [] X.env := by rfl)
    (hpl : (backTo pos (starEach [b] X.env)).any (·.1) = false := by rfl) : PI X (.Tuple elts kk tpos) (.Call (.Name "zip" p) [a, b] [] pos) (tI g W (itZ ea eb)) :=
  (RZ.pi_zipA hg hm (pa_cons ha (pa_cons hb pa_nil hs2) hs) hs hpl).imp fun σ H Q ⟨w, Γ, S, st, en, h⟩ => tX_seq st en h fun u H1 x S1 w1 s1 st1 en1 r1 h1 => tX_seq st1 en1 h1 fun v H2 y S2 w2 s2 st2 en2 r2 h2 => by
    have r1' := r1.step s2
    split at h2
    · cases r1' with
      | lst q1 q2 q3 =>
        cases r2 with
        | lst q4 q5 q6 =>
          rw [← hK]
          exact ⟨_, _, _, _, rfl, .inl ⟨.inl (.inl q1), .inl (.inl q4), RQ.okQ h2 st2 (items_zipL q1 q2 q3 q4 q5 q6)⟩⟩
    · cases r1' with
      | tup q1 q3 =>
        cases r2 with
        | tup q4 q6 =>
          rw [← hK]
          exact ⟨_, _, _, _, rfl, .inr ⟨q1.sq, q4.sq, RQ.okQ h2 st2 (items_zipT q1 q3 q4 q6)⟩⟩
    · exact h2.elim
end
end Pd

namespace Pd
open PySem L2

/-! ### hidden objects, objects that change -/
section
variable {g : Gx} {w w' : Wd} {H H' : Hp} {S : Store} {p : Addr} {o : HO}
theorem le_sub {m m' : List (Option Addr)} {h h' : List Addr} (s : ∀ a, (⟨m', h'⟩ : Wd).av a → (⟨m, h⟩ : Wd).av a) : Le ⟨m, h⟩ H ⟨m', h'⟩ H := ⟨fun a z => .inl (s a z), fun _ _ e _ _ => e, fun _ e => e, fun _ _ => rfl⟩
theorem le_unhide {m : List (Option Addr)} {h : List Addr} : Le ⟨m, p :: h⟩ H ⟨m, h⟩ H := le_sub fun a z => z.elim .inl fun z => .inr (List.mem_cons_of_mem _ z)
theorem StOk.unhide {m : List (Option Addr)} {h : List Addr} (st : StOk g ⟨m, p :: h⟩ S H) : StOk g ⟨m, h⟩ S H :=
  ⟨st.len, fun k c e => let ⟨a, h1, h2⟩ := st.cell k c e; ⟨a, h1, h2.le le_unhide fun _ _ _ q => q⟩, st.live, st.inj, fun a z => st.hid a (List.mem_cons_of_mem _ z), st.lo, fun p z => (st.tab p z).le le_unhide fun _ e _ => e⟩
/-- a new object, hidden -/
theorem le_newH (st : StOk g w S H) (hp : H p = none) : Le w H ⟨w.m, p :: w.hid⟩ (upd H p o) := by
  have l := le_new (o := o) st hp
  refine ⟨fun a z => ?_, l.keepN, l.trk, l.hk⟩
  rcases z with z | z
  · exact .inl (.inl z)
  · rcases List.mem_cons.mp z with q | q
    · exact .inr (by rw [q]; exact hp)
    · exact .inl (.inr q)
theorem StOk.newH {xs : List V} (st : StOk g w S H) (hp : H p = none) : StOk g ⟨w.m, p :: w.hid⟩ S (upd H p (.lst xs)) := by
  have l := le_newH (o := .lst xs) st hp
  refine ⟨st.len, fun k c e => ?_, st.live, st.inj, fun a z => ?_, st.lo, fun p z => (st.tab p z).new l hp⟩
  · obtain ⟨a, h1, h2⟩ := st.cell k c e
    exact ⟨a, h1, h2.le l fun b o _ q => by rw [upd_ne (ne_of_none q hp)]; exact q⟩
  · rcases List.mem_cons.mp z with q | q
    · subst q
      refine ⟨fun y => st.nav hp (.inl y), ?_⟩
      exact ⟨xs, upd_same⟩
    · exact ⟨(st.hid a q).1, (st.hid a q).2.imp fun ys e => by rw [upd_ne (ne_of_none e hp)]; exact e⟩
mutual
theorem Rep.mut (n : w.av p) : ∀ {d : D} {v : V}, Rep g w H d v → Rep g w (upd H p o) d v
  | _, _, .non => .non
  | _, _, .bl b => .bl b
  | _, _, .int i => .int i
  | _, _, .str x => .str x
  | _, _, .tup h r => .tup (by
      rcases h with ⟨h, k⟩ | h
      · refine .inl ⟨?_, k⟩
        have e : ∀ a, ¬ w.av a → upd H p o a = H a := fun a z => upd_ne fun q => z (by rw [q]; exact n)
        unfold Rd
        rw [e _ k]
        exact h
      · exact .inr h) (RepL.mut n r)
  | _, _, .lst h k r => .lst (by rw [upd_ne fun q => k (by rw [q]; exact n)]; exact h) k (RepL.mut n r)
  | _, _, .obj c h e k k2 r => .obj c (by rw [upd_ne fun q => k (by rw [q]; exact n)]; exact h) (by rw [upd_ne fun q => k2 (by rw [q]; exact n)]; exact e) k k2 (RepL.mut n r)
  | _, _, .scr h => .scr (by
      rcases h with ⟨h, k⟩ | h
      · refine .inl ⟨?_, k⟩
        have e : ∀ a, ¬ w.av a → upd H p o a = H a := fun a z => upd_ne fun q => z (by rw [q]; exact n)
        unfold Rd
        rw [e _ k]
        exact h
      · exact .inr h)
  | _, _, .val v => .val v
  | _, _, .fn h => .fn h
  | _, _, .dct h k z r => .dct (by rw [upd_ne fun q => k (by rw [q]; exact n)]; exact h) k z (RepL.mut n r)
theorem RepL.mut (n : w.av p) : ∀ {d : List D} {v : List V}, RepL g w H d v → RepL g w (upd H p o) d v
  | _, _, .nil => .nil
  | _, _, .cons h r => .cons (Rep.mut n h) (RepL.mut n r)
end
theorem RepV.mut (n : w.av p) {x : Val} {v : V} (h : RepV g w H x v) : RepV g w (upd H p o) x v := by
  cases x with
  | d x => exact Rep.mut n h
  | cell k => exact h
theorem CellOk.mut (n : w.av p) {c : Cell} {a : Addr} (ne : a ≠ p) (h : CellOk g w H c a) : CellOk g w (upd H p o) c a := by
  cases c with
  | refs ks =>
    obtain ⟨bs, h1, h2, h3⟩ := h
    exact ⟨bs, by rw [upd_ne ne]; exact h1, h2, h3⟩
  | lst ds =>
    obtain ⟨vs, e1, e2⟩ := h
    exact ⟨vs, by rw [upd_ne ne]; exact e1, RepL.mut n e2⟩
  | obj cn fs =>
    obtain ⟨C, dx, vs, h1, h2, h3, h4, h5, hl, h6⟩ := h
    have nd : dx ≠ p := fun q => h3 (by rw [q]; exact n)
    refine ⟨C, dx, vs, h1, h2, h3, ?_, by rw [upd_ne nd]; exact h5, hl, fun i x q => ?_⟩
    · unfold SlX.Slt
      rw [upd_ne ne, upd_ne nd]
      exact h4
    · obtain ⟨v, q1, q2⟩ := h6 i x q
      exact ⟨v, q1, Rep.mut n q2⟩
/-- the hidden object p changes -/
theorem StOk.mutH {xs : List V} (st : StOk g w S H) (hp : p ∈ w.hid) : StOk g w S (upd H p (.lst xs)) := by
  refine ⟨st.len, fun k c e => ?_, st.live, st.inj, fun a z => ⟨(st.hid a z).1, ?_⟩, st.lo, fun p z => (st.tab p z).mut (.inr hp)⟩
  · obtain ⟨a, h1, h2⟩ := st.cell k c e
    refine ⟨a, h1, ?_⟩
    have ne : a ≠ p := fun q => (st.hid p hp).1 (List.mem_of_getElem? (by rw [← q]; exact h1))
    exact h2.mut (.inr hp) ne
  · unfold upd
    split
    · exact ⟨xs, rfl⟩
    · exact (st.hid a z).2
/-- the k-th object of the store changes -/
theorem StOk.mutC (st : StOk g w S H) {k : Nat} {a : Addr} {ds : List D} {vs : List V} (hk : w.m[k]? = some (some a)) (l : RepL g w H ds vs) : StOk g w (S.set k (some (.lst ds))) (upd H a (.lst vs)) := by
  have av : w.av a := .inl (List.mem_of_getElem? hk)
  obtain ⟨c0, hc0⟩ := st.live k a hk
  have hlt : k < S.length := by
    rcases Nat.lt_or_ge k S.length with q | q
    · exact q
    · rw [List.getElem?_eq_none q] at hc0
      cases hc0
  refine ⟨by rw [List.length_set]; exact st.len, fun j c e => ?_, fun j b e => ?_, st.inj, fun b z => ⟨(st.hid b z).1, ?_⟩, fun r ks e => ?_, fun p z => (st.tab p z).mut av⟩
  rotate_left 3
  · by_cases hj : k = r
    · subst hj
      rw [List.getElem?_set_self hlt] at e
      cases e
    · rw [List.getElem?_set_ne hj] at e
      exact st.lo r ks e
  · by_cases hj : k = j
    · subst hj
      rw [List.getElem?_set_self hlt] at e
      cases e
      exact ⟨a, hk, vs, upd_same, RepL.mut av l⟩
    · rw [List.getElem?_set_ne hj] at e
      obtain ⟨b, h1, h2⟩ := st.cell j c e
      refine ⟨b, h1, ?_⟩
      have ne : b ≠ a := fun q => hj (st.inj k j a hk (by rw [← q]; exact h1))
      exact h2.mut av ne
  · by_cases hj : k = j
    · subst hj
      exact ⟨_, by rw [List.getElem?_set_self hlt]⟩
    · rw [List.getElem?_set_ne hj]
      exact st.live j b e
  · unfold upd
    split
    · exact ⟨vs, rfl⟩
    · exact (st.hid b z).2
theorem stp_mutC (st : StOk g w S H) {k : Nat} {a : Addr} (hk : w.m[k]? = some (some a)) : Stp w H w (upd H a o) := by
  have av : w.av a := .inl (List.mem_of_getElem? hk)
  refine ⟨⟨fun b z => .inl z, fun b u e _ n => ?_, fun b e => ?_, fun b z => ?_⟩, rfl, rfl, fun _ _ e => e⟩
  · rw [upd_ne fun q => n (by rw [q]; exact av)]
    exact e
  · unfold upd
    split
    · exact fun y => by cases y
    · exact e
  · exact upd_ne fun q => (st.hid b z).1 (by rw [q]; exact List.mem_of_getElem? hk)
end

/-! ### steps with one hidden object more -/
structure Stq (w : Wd) (H : Hp) (w' : Wd) (H' : Hp) : Prop where
  le : Le w H w' H'
  len : w'.m.length = w.m.length
  old : ∀ (k : Nat) (a : Addr), w'.m[k]? = some (some a) → w.m[k]? = some (some a)
section
variable {g : Gx} {w w' w1 : Wd} {H H' H1 : Hp} {S : Store} {p : Addr} {o : HO}
theorem Stp.q (s : Stp w H w' H') : Stq w H w' H' := ⟨s.le, s.len, s.old⟩
theorem RepV.stq (l : Stq w H w' H') {x : Val} {v : V} (h : RepV g w H x v) : RepV g w' H' x v := by
  cases x with
  | d x => exact Rep.le l.le h
  | cell k => exact ⟨by rw [l.len]; exact h.1, fun a e => h.2 a (l.old k a e)⟩
theorem EnvOk.stq (l : Stq w H w' H') {Γ : Env} {σ : St} (h : EnvOk g w Γ σ H) : EnvOk g w' Γ σ H' :=
  ⟨h.len, fun i x e => let ⟨v, h1, h2⟩ := h.val i x e; ⟨v, h1, h2.stq l⟩⟩
theorem Stq.stp (l : Stq w H w1 H1) (r : Stp w1 H1 w' H') (hid : ∀ a ∈ w.hid, a ∈ w1.hid) : Stq w H w' H' := ⟨l.le.trans r.le hid, r.len.trans l.len, fun k a e => l.old k a (r.old k a e)⟩
/-- the result of an expression that makes a new list -/
structure New (w : Wd) (H : Hp) (w' : Wd) (H' : Hp) (p : Addr) : Prop where
  q : Stq w H w' H'
  hid : w'.hid = p :: w.hid
  free : H p = none
def RQN (g : Gx) (W : WX) (w : Wd) (σ : St) (H : Hp) (r : R Val) (Q : VK) : Prop := match r with
  | .ok (.d (.lst ds)) S' => ∀ p vs w' H', New w H w' H' p → StOk g w' S' H' → H' p = some (.lst vs) → RepL g w' H' ds vs → Q (.ref p) H'
  | .ok _ _ => False
  | .exc c x S' => ∀ cls dx w' H', Stp w H w' H' → StOk g w' S' H' → ExcRep g w' H' c x cls dx → W cls dx σ H'
  | .bad => False
def tN (g : Gx) (W : WX) (ev : Ev) : TE := fun σ H Q => ∃ w Γ S, StOk g w S H ∧ EnvOk g w Γ σ H ∧ RQN g W w σ H (ev Γ S) Q
theorem New.stp (l : Stp w H w1 H1) (r : New w1 H1 w' H' p) : New w H w' H' p := by
  refine ⟨⟨l.le.trans r.q.le (by rw [l.hid]; exact fun _ h => h), r.q.len.trans l.len, fun k a e => l.old k a (r.q.old k a e)⟩, by rw [r.hid, l.hid], ?_⟩
  cases e : H p with
  | none => rfl
  | some o => exact absurd r.free (l.le.trk p (by rw [e]; exact fun z => by cases z))
theorem RQN.to {W : WX} {σ : St} {r : R Val} {Q : VK} (h : RQN g W w σ H r Q) (s : Stp w H w1 H1) : RQN g W w1 σ H1 r Q := by
  cases r with
  | ok x S =>
    cases x with
    | cell k => exact h
    | d x =>
      cases x with
      | lst ds => exact fun p vs w' H' n => h p vs w' H' (n.stp s)
      | _ => exact h
  | exc c x S => exact fun cls dx w' H' s' => h cls dx w' H' (s.trans s')
  | bad => exact h
theorem New.stp0 {m : List (Option Addr)} {h : List Addr} (hw : w' = ⟨m, h⟩) (n : New w H w' H' p) : Stp w H ⟨m, w.hid⟩ H' := by
  have e := n.hid
  subst hw
  have e' : h = p :: w.hid := e
  subst e'
  exact ⟨⟨fun a z => n.q.le.av a (z.elim .inl fun z => .inr (List.mem_cons_of_mem _ z)), n.q.le.keepN, n.q.le.trk, n.q.le.hk⟩, rfl, n.q.len, n.q.old⟩
/-- a new list, as a value -/
theorem RQN.plain {W : WX} {σ : St} {r : R Val} {Q : VK} (h : RQ g W (RepV g) w σ H r Q) (hl : ∀ x S, r = .ok x S → ∃ ds, x = .d (.lst ds)) (hw : ∀ a ∈ w.hid, H a ≠ none) : RQN g W w σ H r Q := by
  cases r with
  | ok x S =>
    obtain ⟨ds, rfl⟩ := hl x S rfl
    intro p vs w' H' n st hp l
    obtain ⟨m, hh⟩ := w'
    have e : hh = p :: w.hid := n.hid
    subst e
    refine h (.ref p) ⟨m, w.hid⟩ H' (n.stp0 rfl) st.unhide (.lst hp (fun z => ?_) (RepL.le le_unhide l))
    rcases z with z | z
    · exact (st.hid p List.mem_cons_self).1 z
    · exact hw p z n.free
  | exc c x S => exact h
  | bad => exact h
end
theorem _root_.L2.PE.plain {X : Cx} {e : Expr} {g : Gx} {W : WX} {ev : Ev} (h : PE X e (tN g W ev)) (hl : ∀ Γ S x S', ev Γ S = .ok x S' → ∃ ds, x = .d (.lst ds)) : PE X e (tE g W ev) :=
  h.imp fun σ H Q ⟨w, Γ, S, st, en, q⟩ => ⟨w, Γ, S, st, en, RQN.plain q (hl Γ S) fun a z y => by
    obtain ⟨xs, e⟩ := (st.hid a z).2
    rw [y] at e
    cases e⟩
section
variable {α β : Type} {g : Gx} {W : WX} {ρ : Wd → Hp → α → β → Prop} {w : Wd} {σ : St} {H : Hp}
theorem tX_seqN {Γ : Env} {S : Store} {ea : Env → Store → R α} {k : α → Store → R Val} {Q : VK} (st : StOk g w S H) (en : EnvOk g w Γ σ H) (h : RQN g W w σ H ((ea Γ S).bind k) Q) {P : β → Hp → Prop}
    (hP : ∀ v H1 x S1 w1, Stp w H w1 H1 → StOk g w1 S1 H1 → EnvOk g w1 Γ σ H1 → ρ w1 H1 x v → RQN g W w1 σ H1 (k x S1) Q → P v H1) : tX g W ρ ea σ H P := by
  refine ⟨w, Γ, S, st, en, ?_⟩
  cases e : ea Γ S with
  | ok x S1 =>
    rw [e] at h
    exact fun v w' H' s st' r => hP v H' x S1 w' s st' (en.step s) r (RQN.to (r := k x S1) h s)
  | exc c x S1 =>
    rw [e] at h
    exact h
  | bad =>
    rw [e] at h
    exact h
theorem RQN.newQ {ds : List D} {S : Store} {p : Addr} {vs : List V} {Q : VK} (h : RQN g W w σ H (.ok (.d (.lst ds)) S) Q) (st : StOk g w S H) (hp : H p = none) (l : RepL g w H ds vs) : Q (.ref p) (upd H p (.lst vs)) :=
  h p vs ⟨w.m, p :: w.hid⟩ _ ⟨⟨le_newH st hp, rfl, fun _ _ e => e⟩, rfl, hp⟩ (st.newH hp) upd_same (RepL.le (le_newH st hp) l)
end

/-! ### targets -/
abbrev Tg := D → Env → Option Env
def tgN (i : Nat) : Tg := fun x Γ => some (Γ.set i (some (.d x)))
def tgsNil : List D → Env → Option Env := fun ds Γ => match ds with | [] => some Γ | _ => none
def tgsCons (t : Tg) (u : List D → Env → Option Env) : List D → Env → Option Env := fun ds Γ => match ds with | x :: r => (t x Γ).bind (u r) | [] => none
def tgT (u : List D → Env → Option Env) : Tg := fun x Γ => match x with | .tup ds => u ds Γ | _ => none
def tG (g : Gx) (sl : List Nat) (tg : Tg) : TG := fun v σ H Q => ∃ w Γ S x Γ', StOk g w S H ∧ EnvOk g w Γ σ H ∧ Rep g w H x v ∧ tg x Γ = some Γ' ∧
  ∀ σ', EnvOk g w Γ' σ' H → σ'.length = σ.length → (∀ i, i ∉ sl → σ'[i]? = σ[i]?) → Q σ' H
def tGs (g : Gx) (sl : List Nat) (tg : List D → Env → Option Env) : TGs := fun vs σ H Q => ∃ w Γ S ds Γ', StOk g w S H ∧ EnvOk g w Γ σ H ∧ RepL g w H ds vs ∧ tg ds Γ = some Γ' ∧
  ∀ σ', EnvOk g w Γ' σ' H → σ'.length = σ.length → (∀ i, i ∉ sl → σ'[i]? = σ[i]?) → Q σ' H
theorem _root_.L2.PGs.imp {X : Cx} {e : List Expr} {t t' : TGs} (h : PGs X e t) (i : ∀ v σ H Q, t' v σ H Q → t v σ H Q) : PGs X e t' := ⟨fun pins s σ H v u Q I r hw => h.run pins s σ H v u Q I r (i v σ H Q hw)⟩
section
variable {X : Cx} {g : Gx} {pos : Pos}
theorem g_name {i : Nat} {x : Str} (hN : X.N.Nodup) (hi : X.N[i]? = some x) (hx : Loc X.env.scope x) (hf : X.fn x = true ∨ X.env.scope.names.lookup x = some .local := by first | exact .inl rfl | exact .inr rfl | assumption) : PG X (.Name x pos) (tG g [i] (tgN i)) :=
  (pg_name hN hi hx hf).imp fun v σ H Q ⟨w, Γ, S, x, Γ', st, en, r, e, k⟩ => by
    cases e
    exact k _ (en.set i (x := .d x) r) (by simp) fun j hj => by
      rw [List.getElem?_set_ne]
      exact fun z => hj (by simp [z])
theorem gs_nil : PGs X [] (tGs g [] tgsNil) := pgs_nil.imp fun v σ H Q ⟨w, Γ, S, ds, Γ', st, en, r, e, k⟩ => by
  unfold tgsNil at e
  split at e
  · cases e
    cases r
    exact ⟨rfl, k σ en rfl fun _ _ => rfl⟩
  · cases e
theorem gs_cons {e : Expr} {es : List Expr} {s1 s2 : List Nat} {t : Tg} {u : List D → Env → Option Env} (h1 : PG X e (tG g s1 t)) (h2 : PGs X es (tGs g s2 u)) (hs : (assignEach (e :: es) X.env).map (·.2) = assign e X.env :: (assignEach es X.env).map (·.2) := by rfl) : PGs X (e :: es) (tGs g (s1 ++ s2) (tgsCons t u)) :=
  (pgs_cons h1 h2 hs).imp fun v σ H Q ⟨w, Γ, S, ds, Γ', st, en, r, e, k⟩ => by
    unfold tgsCons at e
    split at e
    · rename_i x rr
      cases r with
      | cons r1 r2 =>
        cases e1 : t x Γ with
        | none => rw [e1] at e; cases e
        | some Γ1 =>
          rw [e1] at e
          refine ⟨_, _, rfl, w, Γ, S, x, Γ1, st, en, r1, e1, fun σ1 en1 l1 k1 => ?_⟩
          refine ⟨w, Γ1, S, rr, Γ', st, en1, r2, e, fun σ2 en2 l2 k2 => ?_⟩
          refine k σ2 en2 (l2.trans l1) fun i hi => ?_
          rw [k2 i fun z => hi (List.mem_append_right _ z), k1 i fun z => hi (List.mem_append_left _ z)]
    · cases e
theorem g_tup {es : List Expr} {k : Nat} {sl : List Nat} {u : List D → Env → Option Env} {n : Nat} (hK : g.K = X.K) (hc : X.calm = true) (h : PGs X es (tGs g sl u)) (hu : ∀ ds Γ Γ', u ds Γ = some Γ' → ds.length = n)
    (hn : (assignEach es X.env).length = n := by rfl) (hst : (assignEach es X.env).findIdx? (·.1) = none := by rfl) : PG X (.Tuple es k pos) (tG g sl (tgT u)) :=
  (pg_tup hc h hn hst).imp fun v σ H Q ⟨w, Γ, S, x, Γ', st, en, r, e, k⟩ => by
    unfold tgT at e
    split at e
    · cases r with
      | tup r1 r2 =>
        refine ⟨_, _, rfl, by rw [← hK]; exact r1.sq, ?_, w, Γ, S, _, Γ', st, en, r2, e, k⟩
        rw [← r2.length]
        exact hu _ _ _ e
    · cases e
theorem tgsNil_len {ds : List D} {Γ Γ' : Env} (e : tgsNil ds Γ = some Γ') : ds.length = 0 := by
  unfold tgsNil at e
  split at e
  · rfl
  · cases e
theorem tgsCons_len {t : Tg} {u : List D → Env → Option Env} {n : Nat} (hu : ∀ ds Γ Γ', u ds Γ = some Γ' → ds.length = n) {ds : List D} {Γ Γ' : Env} (e : tgsCons t u ds Γ = some Γ') : ds.length = n + 1 := by
  unfold tgsCons at e
  split at e
  · rename_i x rr
    cases e1 : t x Γ with
    | none => rw [e1] at e; cases e
    | some Γ1 =>
      rw [e1] at e
      exact congrArg (· + 1) (hu _ _ _ e)
  · cases e
end

/-! ### comprehensions -/
def wipeE (Γ : Env) : List Nat → Env
  | [] => Γ
  | v :: vs => (wipeE Γ vs).set v none
def noX {α : Type} : R α → R α
  | .exc _ _ _ => .bad
  | r => r
def tYesD : Env → Store → R Bool := fun _ S => .ok true S
def lcY (y : Val) (k : R (List D)) : R (List D) := match y with
  | .d d => k.bind fun ds S => .ok (d :: ds) S
  | .cell _ => .bad
def lcD (tg : Tg) (test : Env → Store → R Bool) (elt : Ev) (Γ : Env) : List D → Store → R (List D)
  | [], S => .ok [] S
  | x :: r, S => match tg x Γ with
    | none => .bad
    | some Γ1 => (noX (test Γ1 S)).bind fun b S1 => if b = true then (noX (elt Γ1 S1)).bind fun y S2 => lcY y (lcD tg test elt Γ r S2) else lcD tg test elt Γ r S1
def eLc (it : Env → Store → R (List D)) (vs : List Nat) (tg : Tg) (test : Env → Store → R Bool) (elt : Ev) : Ev := fun Γ S => (it Γ S).bind fun ds S1 =>
  if ds.length ≤ cap then (noX (lcD tg test elt (wipeE Γ vs) ds S1)).bind fun es S2 => .ok (.d (.lst es)) S2 else .bad
abbrev W0 : WX := fun _ _ _ _ => False
section
variable {g : Gx} {w : Wd} {H : Hp}
theorem EnvOk.wipe {Γ : Env} {σ : St} (en : EnvOk g w Γ σ H) : ∀ vs : List Nat, EnvOk g w (wipeE Γ vs) (wipe σ vs) H
  | [] => en
  | v :: vs => (EnvOk.wipe en vs).drop1 v none
theorem wipe_get (σ : St) : ∀ (vs : List Nat) (i : Nat), (wipe σ vs)[i]? = if i ∈ vs ∧ i < σ.length then some none else σ[i]?
  | [], i => by simp [L2.wipe]
  | v :: vs, i => by
    show ((wipe σ vs).set v none)[i]? = _
    rw [List.getElem?_set, wipe_length, wipe_get σ vs i]
    by_cases h : v = i
    · subst h
      by_cases h2 : v < σ.length
      · simp [h2]
      · simp [h2]
    · have h' : ¬ i = v := fun z => h z.symm
      simp [h, h']
theorem wipe_ext {σ σ' : St} {vs : List Nat} (l : σ'.length = σ.length) (h : ∀ i, i ∉ vs → σ'[i]? = σ[i]?) : wipe σ' vs = wipe σ vs := by
  apply List.ext_getElem?
  intro i
  rw [wipe_get, wipe_get, l]
  by_cases hi : i ∈ vs
  · by_cases h2 : i < σ.length
    · simp [hi, h2]
    · rw [if_neg fun z => h2 z.2, if_neg fun z => h2 z.2, List.getElem?_eq_none (by omega), List.getElem?_eq_none (by omega)]
  · simp [hi, h i hi]
theorem wipe_wipe (σ : St) (vs : List Nat) : wipe (wipe σ vs) vs = wipe σ vs := by
  apply List.ext_getElem?
  intro i
  rw [wipe_get, wipe_get, wipe_length]
  split <;> rfl
theorem noX_ok {α : Type} {r : R α} {x : α} {S : Store} (h : noX r = .ok x S) : r = .ok x S := by
  cases r <;> first | exact h | cases h
end
/-- how far a comprehension has come -/
structure LcAt (g : Gx) (tg : Tg) (test : Env → Store → R Bool) (elt : Ev) (Γw : Env) (ds all : List D) (Sf : Store) (w1 : Wd) (H1 : Hp) (Dd : Addr) (i m : Nat) (Hc : Hp) : Prop where
  im : i + m = ds.length
  at_ : ∃ w S es rest vs, StOk g w S Hc ∧ Stq w1 H1 w Hc ∧ w.hid = Dd :: w1.hid ∧ Hc Dd = some (.lst vs) ∧ RepL g w Hc es vs ∧ es.length ≤ i ∧ lcD tg test elt Γw (ds.drop i) S = .ok rest Sf ∧ all = es ++ rest
theorem lc_q {g : Gx} {W : WX} {it : Env → Store → R (List D)} {vs sl : List Nat} {tg : Tg} {test : Env → Store → R Bool} {elt : Ev} {σ : St} {H : Hp} {Q : VK} (hsl : ∀ i ∈ sl, i ∈ vs) (h : tN g W (eLc it vs tg test elt) σ H Q) :
    tLc (tI g W it) (tG g sl tg) (tT g W0 test) (tE g W0 elt) vs σ H Q := by
  obtain ⟨w, Γ, S, st, en, h⟩ := h
  refine tX_seqN st en h fun J H1 ds S1 w1 s1 st1 en1 it1 h1 => ?_
  by_cases hz : ds.length ≤ cap
  · rw [if_pos hz] at h1
    cases hl : lcD tg test elt (wipeE Γ vs) ds S1 with
    | ok all Sf =>
      rw [hl] at h1
      intro Dd hD
      have q0 : Stq w1 H1 ⟨w1.m, Dd :: w1.hid⟩ (upd H1 Dd (.lst [])) := ⟨le_newH st1 hD, rfl, fun _ _ e => e⟩
      refine ⟨LcAt g tg test elt (wipeE Γ vs) ds all Sf w1 H1 Dd, ⟨ds.length, by simp, ⟨w1.m, Dd :: w1.hid⟩, S1, [], all, [], st1.newH hD, q0, rfl, upd_same, .nil, Nat.zero_le _, hl, rfl⟩, ?_⟩
      rintro i m Hc ⟨im, w2, S2, es, rest, us, st2, q2, hid2, hDc, l2, le2, hl2, hall⟩
      obtain ⟨go, stop⟩ := it1 w2 S2 Hc st2 q2.le
      by_cases hi : i < ds.length
      · refine .inr ⟨(go i hi).1, LcAt g tg test elt (wipeE Γ vs) ds all Sf w1 H1 Dd (i + 1) (m - 1), fun H' q => ⟨m - 1, by omega, q⟩, fun x H' y => ?_⟩
        obtain ⟨sy, sty, ry⟩ := (go i hi).2 x H' y
        have ed : ds[i]? = some ds[i] := List.getElem?_eq_getElem hi
        have rx := ry _ ed
        rw [List.drop_eq_getElem_cons hi] at hl2
        unfold lcD at hl2
        have qy := q2.stp sy (by rw [hid2]; exact fun a z => List.mem_cons_of_mem _ z)
        have enw : EnvOk g w2 (wipeE Γ vs) (wipe σ vs) H' := (en1.stq qy).wipe vs
        have memD : Dd ∈ w2.hid := by rw [hid2]; exact List.mem_cons_self
        cases et : tg ds[i] (wipeE Γ vs) with
        | none => rw [et] at hl2; cases hl2
        | some Γ1 =>
          rw [et] at hl2
          have hl2 : (noX (test Γ1 S2)).bind _ = R.ok rest Sf := hl2
          refine ⟨w2, wipeE Γ vs, S2, ds[i], Γ1, sty, enw, rx, et, fun σ2 en2 ln2 k2 => ⟨?_, ?_⟩⟩
          · rw [wipe_ext (σ := wipe σ vs) ln2 fun j hj => k2 j fun z => hj (hsl j z)]
            exact wipe_wipe σ vs
          · cases eb : noX (test Γ1 S2) with
            | exc c z S3 => rw [eb] at hl2; cases hl2
            | bad => rw [eb] at hl2; cases hl2
            | ok b S3 =>
              have hl2 : (if b = true then (noX (elt Γ1 S3)).bind (fun y S2 => lcY y (lcD tg test elt (wipeE Γ vs) (List.drop (i + 1) ds) S2)) else lcD tg test elt (wipeE Γ vs) (List.drop (i + 1) ds) S3) = R.ok rest Sf := by rw [eb] at hl2; exact hl2
              refine ⟨w2, Γ1, S2, sty, en2, ?_⟩
              rw [noX_ok eb]
              intro b' w3 H3 s3 st3 e3
              subst e3
              have hD3 : H3 Dd = some (.lst us) := by rw [s3.le.hk Dd memD, sy.le.hk Dd memD]; exact hDc
              have q3 := qy.stp s3 (by rw [hid2]; exact fun a z => List.mem_cons_of_mem _ z)
              have l3 : RepL g w3 H3 es us := RepL.le s3.le (RepL.le sy.le l2)
              have hid3 : w3.hid = Dd :: w1.hid := s3.hid.trans hid2
              cases b with
              | false =>
                exact ⟨by omega, w3, S3, es, rest, us, st3, q3, hid3, hD3, l3, by omega, hl2, hall⟩
              | true =>
                have hl2 : (noX (elt Γ1 S3)).bind (fun y S2 => lcY y (lcD tg test elt (wipeE Γ vs) (List.drop (i + 1) ds) S2)) = R.ok rest Sf := hl2
                cases ey : noX (elt Γ1 S3) with
                | exc c z S4 => rw [ey] at hl2; cases hl2
                | bad => rw [ey] at hl2; cases hl2
                | ok y S4 =>
                  rw [ey] at hl2
                  refine ⟨w3, Γ1, S3, st3, en2.step s3, ?_⟩
                  rw [noX_ok ey]
                  intro v w4 H4 s4 st4 r4
                  have memD3 : Dd ∈ w3.hid := by rw [hid3]; exact List.mem_cons_self
                  have hD4 : H4 Dd = some (.lst us) := by rw [s4.le.hk Dd memD3]; exact hD3
                  have q4 := q3.stp s4 (by rw [hid3]; exact fun a z => List.mem_cons_of_mem _ z)
                  have l4 : RepL g w4 H4 es us := RepL.le s4.le l3
                  have hid4 : w4.hid = Dd :: w1.hid := s4.hid.trans hid3
                  have memD4 : Dd ∈ w4.hid := by rw [hid4]; exact List.mem_cons_self
                  cases y with
                  | cell k => cases hl2
                  | d d =>
                    have hl2 : (lcD tg test elt (wipeE Γ vs) (ds.drop (i + 1)) S4).bind (fun ds S => .ok (d :: ds) S) = R.ok rest Sf := hl2
                    cases el : lcD tg test elt (wipeE Γ vs) (ds.drop (i + 1)) S4 with
                    | exc c z S5 => rw [el] at hl2; cases hl2
                    | bad => rw [el] at hl2; cases hl2
                    | ok rest' S5 =>
                      rw [el] at hl2
                      cases hl2
                      refine ⟨us, hD4, ?_, by omega, w4, S4, es ++ [d], rest', us ++ [v], st4.mutH memD4, ?_, hid4, upd_same, RepL.mut (.inr memD4) (l4.append (.cons r4 .nil)), ?_, el, ?_⟩
                      · have := l4.length
                        have hc := cap_le hz
                        omega
                      · refine ⟨⟨q4.le.av, fun a o e zz n => ?_, fun a e => ?_, fun a z => ?_⟩, q4.len, q4.old⟩
                        · rw [upd_ne (ne_of_none e hD)]
                          exact q4.le.keepN a o e zz n
                        · unfold upd
                          split
                          · exact fun z => by cases z
                          · exact q4.le.trk a e
                        · rw [upd_ne fun q => by obtain ⟨xs, e⟩ := (st1.hid a z).2; rw [q, hD] at e; cases e]
                          exact q4.le.hk a z
                      · rw [List.length_append, List.length_singleton]
                        omega
                      · rw [hall]
                        simp
      · have ei : i = ds.length := by omega
        subst ei
        refine .inl ⟨stop, ?_⟩
        rw [List.drop_of_length_le (Nat.le_refl _)] at hl2
        cases hl2
        rw [List.append_nil] at hall
        subst hall
        exact h1 Dd us w2 Hc ⟨q2, hid2, hD⟩ st2 hDc l2
    | exc c z S2 =>
      rw [hl] at h1
      exact h1.elim
    | bad =>
      rw [hl] at h1
      exact h1.elim
  · rw [if_neg hz] at h1
    exact h1.elim
end Pd

namespace Pd
open PySem L2

/-! ### comprehensions, lists: as new lists and as values -/
section
variable {X : Cx} {g : Gx} {W : WX} {a b c : Expr} {ea eb ec : Ev} {pos : Pos} {es : List Expr} {er : Env → Store → R (List Val)}
theorem ts_nil : PTs X [] (tT g W tYesD) := pts_nil' where
  pts_nil' : PTs X [] (tT g W tYesD) := ⟨fun pins s σ H Q I ⟨w, Γ, S, st, en, h⟩ => pts_nil.run pins s σ H Q I (RQ.okQ h st rfl)⟩
theorem ts_one (h : PT X c (tT g W (eTest ec))) : PTs X [c] (tT g W (eTest ec)) := pts_one h
theorem p_lcN {elt tg iter : Expr} {ifs : List Expr} {scope : Scope} {own : List (Str × Nat)} {it : Env → Store → R (List D)} {sl : List Nat} {tgd : Tg} {test : Env → Store → R Bool} {el : Ev} (hc : X.calm = true) (hN : X.N.Nodup) (hi : PI X tg iter (tI g W it)) (ok : BlkOk X.N X.env.scope scope own)
    (hg : ∀ (s : Shared) (H : Hp) (C : Addr) (cl : List (Str × Addr)) (fp : List Addr), PG (X.blk s H scope (compEnvC scope cl C X.env) fp) tg (tG g sl tgd)) (ht : ∀ (s : Shared) (H : Hp) (C : Addr) (cl : List (Str × Addr)) (fp : List Addr), PTs (X.blk s H scope (compEnvC scope cl C X.env) fp) ifs (tT g W0 test))
    (he : ∀ (s : Shared) (H : Hp) (C : Addr) (cl : List (Str × Addr)) (fp : List Addr), PE (X.blk s H scope (compEnvC scope cl C X.env) fp) elt (tE g W0 el)) (hsl : ∀ i ∈ sl, i ∈ own.map (·.2)) (hs : ∀ x, foldedSetIterable iter X.env x = pure x := by intro _; rfl) :
    PE X (.ListComp elt [⟨tg, iter, ifs, 0⟩] scope pos) (tN g W (eLc it (own.map (·.2)) tgd test el)) := (pe_lc hc hN hi ok hg ht he hs).imp fun σ H Q h => lc_q hsl h
theorem eLc_lst {it : Env → Store → R (List D)} {vs : List Nat} {tg : Tg} {test : Env → Store → R Bool} {elt : Ev} (Γ : Env) (S : Store) (x : Val) (S' : Store) (h : eLc it vs tg test elt Γ S = .ok x S') : ∃ ds, x = .d (.lst ds) := by
  unfold eLc at h
  cases e : it Γ S with
  | exc c z S1 => rw [e] at h; cases h
  | bad => rw [e] at h; cases h
  | ok ds S1 =>
    rw [e] at h
    have h : (if ds.length ≤ cap then (noX (lcD tg test elt (wipeE Γ vs) ds S1)).bind fun es S2 => R.ok (Val.d (.lst es)) S2 else .bad) = .ok x S' := h
    split at h
    · cases e2 : noX (lcD tg test elt (wipeE Γ vs) ds S1) with
      | exc c z S1 => rw [e2] at h; cases h
      | bad => rw [e2] at h; cases h
      | ok es S2 =>
        rw [e2] at h
        cases h
        exact ⟨es, rfl⟩
    · cases h
theorem p_lc {elt tg iter : Expr} {ifs : List Expr} {scope : Scope} {own : List (Str × Nat)} {it : Env → Store → R (List D)} {sl : List Nat} {tgd : Tg} {test : Env → Store → R Bool} {el : Ev} (hc : X.calm = true) (hN : X.N.Nodup) (hi : PI X tg iter (tI g W it)) (ok : BlkOk X.N X.env.scope scope own)
    (hg : ∀ (s : Shared) (H : Hp) (C : Addr) (cl : List (Str × Addr)) (fp : List Addr), PG (X.blk s H scope (compEnvC scope cl C X.env) fp) tg (tG g sl tgd)) (ht : ∀ (s : Shared) (H : Hp) (C : Addr) (cl : List (Str × Addr)) (fp : List Addr), PTs (X.blk s H scope (compEnvC scope cl C X.env) fp) ifs (tT g W0 test))
    (he : ∀ (s : Shared) (H : Hp) (C : Addr) (cl : List (Str × Addr)) (fp : List Addr), PE (X.blk s H scope (compEnvC scope cl C X.env) fp) elt (tE g W0 el)) (hsl : ∀ i ∈ sl, i ∈ own.map (·.2)) (hs : ∀ x, foldedSetIterable iter X.env x = pure x := by intro _; rfl) :
    PE X (.ListComp elt [⟨tg, iter, ifs, 0⟩] scope pos) (tE g W (eLc it (own.map (·.2)) tgd test el)) := (p_lcN hc hN hi ok hg ht he hsl hs).plain eLc_lst
theorem p_lstN (h : PA X es (tA g W er)) : PE X (.List es pos) (tN g W (eCall fLst er)) :=
  (pe_lst h).imp fun σ H Q ⟨w, Γ, S, st, en, h⟩ => tX_seqN st en h fun us H1 xs S1 w1 s1 st1 en1 r1 h1 => by
    unfold fLst at h1
    cases e : clo xs with
    | none => rw [e] at h1; exact h1.elim
    | some ds =>
      rw [e] at h1
      have rl := clo_rep r1 e
      by_cases hz : ds.length ≤ cap
      · simp only [if_pos hz] at h1
        exact ⟨by rw [← rl.length]; exact cap_le hz, fun p hp => RQN.newQ h1 st1 hp rl⟩
      · simp only [if_neg hz] at h1
        exact h1.elim
def fAddL : Val → Val → Store → R Val
  | .d (.lst a), .d (.lst b), S => if a.length + b.length ≤ cap then .ok (.d (.lst (a ++ b))) S else .bad
  | _, _, _ => .bad
def fMulL : Val → Val → Store → R Val
  | .d (.lst a), .d (.int j), S => if j ≤ cap ∧ -cap ≤ j ∧ a.length * j.toNat ≤ cap then .ok (.d (.lst (List.replicate j.toNat a).flatten)) S else .bad
  | _, _, _ => .bad
theorem p_addN (ha : PE X a (tE g W ea)) (hb : PE X b (tE g W eb)) : PE X (.BinOp a .Add b pos) (tN g W (eBin fAddL ea eb)) :=
  (pe_op op_cat ha hb).imp fun σ H Q ⟨w, Γ, S, st, en, h⟩ => tX_seqN st en h fun u H1 x S1 w1 s1 st1 en1 r1 h1 => tX_seqN st1 en1 h1 fun v H2 y S2 w2 s2 st2 en2 r2 h2 => by
    have r1' := r1.step s2
    unfold fAddL at h2
    split at h2
    · split at h2
      · rename_i hz
        cases r1' with
        | lst e1 n1 l1 =>
          cases r2 with
          | lst e2 n2 l2 => exact ⟨_, _, _, _, rfl, rfl, e1, e2, by rw [← l1.length, ← l2.length]; exact cap_le hz, fun p hp => RQN.newQ h2 st2 hp (l1.append l2)⟩
      · exact h2.elim
    · exact h2.elim
theorem p_mulN (ha : PE X a (tE g W ea)) (hb : PE X b (tE g W eb)) : PE X (.BinOp a .Mult b pos) (tN g W (eBin fMulL ea eb)) :=
  (pe_op op_rep ha hb).imp fun σ H Q ⟨w, Γ, S, st, en, h⟩ => tX_seqN st en h fun u H1 x S1 w1 s1 st1 en1 r1 h1 => tX_seqN st1 en1 h1 fun v H2 y S2 w2 s2 st2 en2 r2 h2 => by
    have r1' := r1.step s2
    unfold fMulL at h2
    split at h2
    · split at h2
      · rename_i hz
        cases r1' with
        | lst e1 n1 l1 =>
          cases r2
          have hc : ((cap : Nat) : Int) = 1000000 := rfl
          exact ⟨_, _, _, rfl, rfl, e1, by omega, by omega, by rw [← l1.length]; exact cap_le hz.2.2, fun p hp => RQN.newQ h2 st2 hp l1.flatten⟩
      · exact h2.elim
    · exact h2.elim
theorem p_ifN (hc : PT X c (tT g W (eTest ec))) (ha : PE X a (tN g W ea)) (hb : PE X b (tN g W eb)) : PE X (.IfExp c a b pos) (tN g W (eIf ec ea eb)) :=
  (pe_ifExp hc ha hb).imp fun σ H Q ⟨w, Γ, S, st, en, h⟩ => by
    refine tX_seqN st en h fun u H1 x S1 w1 s1 st1 en1 r1 h1 => ?_
    cases r1
    cases u with
    | true => exact ⟨w1, Γ, S1, st1, en1, h1⟩
    | false => exact ⟨w1, Γ, S1, st1, en1, h1⟩
theorem p_listN {p : Pos} (hK : g.K = X.K) (hg : Gl X "list") (hm : X.mg "list" = none) (ha : PE X a (tE g W ea)) (he : starEach [a] X.env = (false, eval a X.env) :: starEach [] X.env := by rfl) (hpl : (backTo pos (starEach [] X.env)).any (·.1) = false := by rfl) :
    PE X (.Call (.Name "list" p) [a] [] pos) (tN g W (eUn fList ea)) :=
  (pe_callTy call_list_of hg hm (by decide +kernel) (pa_cons ha pa_nil he) (by decide) (by decide) he hpl).imp fun σ H Q ⟨w, Γ, S, st, en, h⟩ => tX_seqN st en h fun u H1 y S1 w1 s1 st1 en1 r1 q => by
    rw [← hK]
    unfold fList at q
    split at q
    · rename_i ds e
      obtain ⟨a, vs, rfl, h1, l⟩ := rd_lst st1 r1 e
      exact ⟨a, vs, rfl, .inl (.inl (.inl h1)), fun p hp => RQN.newQ q st1 hp l⟩
    · rename_i ds e
      obtain ⟨a, vs, rfl, h1, l⟩ := rd_tup r1 e
      exact ⟨a, vs, rfl, .inr h1.sq, fun p hp => RQN.newQ q st1 hp l⟩
    · exact q.elim
end

/-! ### statements -/
structure Fr (w0 : Wd) (H0 : Hp) (w : Wd) (H : Hp) (h : List Addr) : Prop where
  le : Le w0 H0 w H
  hid : w.hid = h
  len : w0.m.length ≤ w.m.length
  old : ∀ (k : Nat) (a : Addr), k < w0.m.length → w.m[k]? = some (some a) → w0.m[k]? = some (some a)
  new : ∀ (k : Nat) (a : Addr), w0.m.length ≤ k → w.m[k]? = some (some a) → H0 a = none
/-- the frame of a def: what stands at its entry; N: it hands back a new list -/
structure Cf where
  g : Gx
  W : WX
  w0 : Wd
  H0 : Hp
  N : Bool
abbrev Cf.fr (cf : Cf) (w : Wd) (H : Hp) : Prop := Fr cf.w0 cf.H0 w H cf.w0.hid
def RtP (cf : Cf) (w : Wd) (H : Hp) (x : Val) (S' : Store) (Q : VK) : Prop := ∀ v w' H', Le w H w' H' → cf.fr w' H' → StOk cf.g w' S' H' → RepV cf.g w' H' x v → Q v H'
def RtN (cf : Cf) (w : Wd) (H : Hp) (x : Val) (S' : Store) (Q : VK) : Prop := match x with
  | .d (.lst ds) => ∀ p vs w' H', Le w H w' H' → Fr cf.w0 cf.H0 w' H' (p :: cf.w0.hid) → cf.H0 p = none → StOk cf.g w' S' H' → H' p = some (.lst vs) → RepL cf.g w' H' ds vs → Q (.ref p) H'
  | _ => False
def FQ (cf : Cf) (w : Wd) (H : Hp) (f : F) (D : Ends) : Prop := match f with
  | .nx Γ' S' => ∀ σ' w' H', Le w H w' H' → cf.fr w' H' → StOk cf.g w' S' H' → EnvOk cf.g w' Γ' σ' H' → D.nx σ' H'
  | .rt x S' => if cf.N = true then RtN cf w H x S' D.rt else RtP cf w H x S' D.rt
  | .bk Γ' S' => ∀ σ' w' H', Le w H w' H' → cf.fr w' H' → StOk cf.g w' S' H' → EnvOk cf.g w' Γ' σ' H' → D.bk σ' H'
  | .ct Γ' S' => ∀ σ' w' H', Le w H w' H' → cf.fr w' H' → StOk cf.g w' S' H' → EnvOk cf.g w' Γ' σ' H' → D.ct σ' H'
  | .exc c x Γ' S' => ∀ σ' cls dx w' H', Le w H w' H' → cf.fr w' H' → StOk cf.g w' S' H' → EnvOk cf.g w' Γ' σ' H' → ExcRep cf.g w' H' c x cls dx → cf.W cls dx σ' H'
  | .bad => False
def tS (cf : Cf) (st : Sv) : TS := fun D σ H => ∃ w Γ S, StOk cf.g w S H ∧ EnvOk cf.g w Γ σ H ∧ cf.fr w H ∧ FQ cf w H (st Γ S) D
def R.fl {α : Type} (Γ : Env) : R α → (α → Store → F) → F
  | .ok a S, k => k a S
  | .exc c x S, _ => .exc c x Γ S
  | .bad, _ => .bad
section
variable {cf : Cf} {w w1 : Wd} {H H1 : Hp} {σ : St}
theorem Fr.stp (f : cf.fr w H) (s : Stp w H w1 H1) : cf.fr w1 H1 :=
  ⟨f.le.trans s.le (by rw [f.hid]; exact fun _ h => h), s.hid.trans f.hid, by rw [s.len]; exact f.len, fun k a h e => f.old k a h (s.old k a e), fun k a h e => f.new k a h (s.old k a e)⟩
theorem FQ.to {f : F} {D : Ends} (h : FQ cf w H f D) (s : Le w H w1 H1) (hh : ∀ a ∈ w.hid, a ∈ w1.hid) : FQ cf w1 H1 f D := by
  cases f with
  | nx Γ S => exact fun σ' w' H' l => h σ' w' H' (s.trans l hh)
  | bk Γ S => exact fun σ' w' H' l => h σ' w' H' (s.trans l hh)
  | ct Γ S => exact fun σ' w' H' l => h σ' w' H' (s.trans l hh)
  | exc c x Γ S => exact fun σ' cls dx w' H' l => h σ' cls dx w' H' (s.trans l hh)
  | bad => exact h
  | rt x S =>
    have h : (if cf.N = true then RtN cf w H x S D.rt else RtP cf w H x S D.rt) := h
    show (if cf.N = true then RtN cf w1 H1 x S D.rt else RtP cf w1 H1 x S D.rt)
    by_cases hn : cf.N = true
    · rw [if_pos hn] at h ⊢
      cases x with
      | cell k => exact h
      | d x =>
        cases x with
        | lst ds => exact fun p vs w' H' l => h p vs w' H' (s.trans l hh)
        | _ => exact h
    · rw [if_neg hn] at h ⊢
      exact fun v w' H' l => h v w' H' (s.trans l hh)
theorem tX_fl {α β : Type} {ρ : Wd → Hp → α → β → Prop} {Γ : Env} {S : Store} {ea : Env → Store → R α} {k : α → Store → F} {D : Ends} (st : StOk cf.g w S H) (en : EnvOk cf.g w Γ σ H) (fr : cf.fr w H) (h : FQ cf w H ((ea Γ S).fl Γ k) D) {P : β → Hp → Prop}
    (hP : ∀ v H1 x S1 w1, Stp w H w1 H1 → StOk cf.g w1 S1 H1 → EnvOk cf.g w1 Γ σ H1 → cf.fr w1 H1 → ρ w1 H1 x v → FQ cf w1 H1 (k x S1) D → P v H1) : tX cf.g cf.W ρ ea σ H P := by
  refine ⟨w, Γ, S, st, en, ?_⟩
  cases e : ea Γ S with
  | ok x S1 =>
    rw [e] at h
    exact fun v w' H' s st' r => hP v H' x S1 w' s st' (en.step s) (fr.stp s) r (FQ.to (f := k x S1) h s.le (by rw [s.hid]; exact fun _ z => z))
  | exc c x S1 =>
    rw [e] at h
    exact fun cls dx w' H' s st' r => h σ cls dx w' H' s.le (fr.stp s) st' (en.step s) r
  | bad =>
    rw [e] at h
    exact h
theorem FQ.nxQ {Γ : Env} {S : Store} {D : Ends} (h : FQ cf w H (.nx Γ S) D) (st : StOk cf.g w S H) (en : EnvOk cf.g w Γ σ H) (fr : cf.fr w H) : D.nx σ H := h σ w H (.refl w H) fr st en
end
def sNil : Sv := fun Γ S => .nx Γ S
def sSeq (a b : Sv) : Sv := fun Γ S => match a Γ S with
  | .nx Γ1 S1 => b Γ1 S1
  | f => f
def sEx (a : Ev) : Sv := fun Γ S => (a Γ S).fl Γ fun _ S1 => .nx Γ S1
def sRet (a : Ev) : Sv := fun Γ S => (a Γ S).fl Γ fun x S1 => .rt x S1
def sRetN : Sv := fun _ S => .rt (.d .non) S
def sAsg (i : Nat) (a : Ev) : Sv := fun Γ S => (a Γ S).fl Γ fun x S1 => .nx (Γ.set i (some x)) S1
/-- name = a new list, from here on an object of the store -/
def sNew (i : Nat) (a : Ev) : Sv := fun Γ S => (a Γ S).fl Γ fun x S1 => match x with | .d (.lst ds) => .nx (Γ.set i (some (.cell S1.length))) (S1 ++ [some (.lst ds)]) | _ => .bad
def sIf (t : Ev) (a b : Sv) : Sv := fun Γ S => (eTest t Γ S).fl Γ fun x S1 => if x = true then a Γ S1 else b Γ S1
def sAsgT (tg : Tg) (a : Ev) : Sv := fun Γ S => (a Γ S).fl Γ fun x S1 => match x with | .d d => (match tg d Γ with | some Γ' => .nx Γ' S1 | none => .bad) | _ => .bad
/-- a, b = x, y -/
def sPar (i j : Nat) (a b : Ev) : Sv := fun Γ S => (a Γ S).fl Γ fun x S1 => (b Γ S1).fl Γ fun y S2 => .nx ((Γ.set i (some x)).set j (some y)) S2
def keepB (k : Nat) : Option Val → Option Val
  | some (.cell j) => if j < k then some (.cell j) else none
  | o => o
/-- the object of a name becomes a value (no statement of the text) -/
def sFrz (n0 i : Nat) : Sv := fun Γ S => match Γ[i]? with
  | some (some (.cell k)) => match S[k]? with
    | some (some (.lst ds)) => if n0 ≤ k then (if k + 1 = S.length then .nx ((Γ.set i (some (.d (.lst ds)))).map (keepB k)) (S.take k) else .nx (Γ.set i (some (.d (.lst ds)))) (S.set k none)) else .bad
    | _ => .bad
  | _ => .bad
/-- return name, its object being of this call -/
def sRetC (n0 i : Nat) : Sv := fun Γ S => match Γ[i]? with
  | some (some (.cell k)) => match S[k]? with
    | some (some (.lst ds)) => if n0 ≤ k then .rt (.d (.lst ds)) (S.set k none) else .bad
    | _ => .bad
  | _ => .bad
def sNever : Sv := fun _ _ => .bad
def sBrk : Sv := fun Γ S => .bk Γ S
def sCont : Sv := fun Γ S => .ct Γ S
def F.lp (f : F) (k : Sv) : F := match f with
  | .nx Γ S => k Γ S
  | .ct Γ S => k Γ S
  | .bk Γ S => .nx Γ S
  | f => f
def forD (tg : Tg) (body : Sv) : List D → Sv
  | [], Γ, S => .nx Γ S
  | x :: r, Γ, S => match tg x Γ with
    | none => .bad
    | some Γ1 => (body Γ1 S).lp (forD tg body r)
def sFor (it : Env → Store → R (List D)) (tg : Tg) (body : Sv) : Sv := fun Γ S => (it Γ S).fl Γ fun ds S1 => forD tg body ds Γ S1
def whD (t : Ev) (body : Sv) : Nat → Sv
  | 0, _, _ => .bad
  | n + 1, Γ, S => (eTest t Γ S).fl Γ fun x S1 => if x = true then (body Γ S1).lp (whD t body n) else .nx Γ S1

section
variable {X : Cx} {cf : Cf} {a b c : Expr} {ea eb ec : Ev} {pos p2 : Pos} {st : Stmt} {rest : List Stmt} {sa sb : Sv}
theorem ss_nil : PSs X [] (tS cf sNil) := pss_nil.imp fun D σ H ⟨w, Γ, S, st, en, fr, h⟩ => FQ.nxQ h st en fr
theorem ss_cons (h1 : PS X st (tS cf sa)) (h2 : PSs X rest (tS cf sb)) : PSs X (st :: rest) (tS cf (sSeq sa sb)) :=
  (pss_cons h1 h2).imp fun D σ H ⟨w, Γ, S, st, en, fr, h⟩ => by
    refine ⟨w, Γ, S, st, en, fr, ?_⟩
    unfold sSeq at h
    cases e : sa Γ S with
    | nx Γ1 S1 =>
      rw [e] at h
      exact fun σ' w' H' l f s en' => ⟨w', Γ1, S1, s, en', f, FQ.to h l (by rw [f.hid, fr.hid]; exact fun _ z => z)⟩
    | bk Γ1 S1 => rw [e] at h; exact h
    | ct Γ1 S1 => rw [e] at h; exact h
    | rt x S1 => rw [e] at h; exact h
    | exc c x Γ1 S1 => rw [e] at h; exact h
    | bad => rw [e] at h; exact h
theorem ss_one (h1 : PS X st (tS cf sa)) : PSs X [st] (tS cf sa) := pss_one h1
theorem s_pass : PS X (.Pass pos) (tS cf sNil) := ps_pass.imp fun D σ H ⟨w, Γ, S, st, en, fr, h⟩ => FQ.nxQ h st en fr
theorem s_never : PS X st (tS cf sNever) := ps_never.imp fun D σ H ⟨w, Γ, S, st, en, fr, h⟩ => h.elim
theorem ss_never : PSs X rest (tS cf sNever) := pss_never.imp fun D σ H ⟨w, Γ, S, st, en, fr, h⟩ => h.elim
theorem s_brk : PS X (.Break pos) (tS cf sBrk) := ps_break.imp fun D σ H ⟨w, Γ, S, st, en, fr, h⟩ => h σ w H (.refl w H) fr st en
theorem s_cont : PS X (.Continue pos) (tS cf sCont) := ps_continue.imp fun D σ H ⟨w, Γ, S, st, en, fr, h⟩ => h σ w H (.refl w H) fr st en
theorem s_ex (ha : PE X a (tE cf.g cf.W ea)) (hs : swapsWith a none pos.line X.env = pure false := by rfl) : PS X (.Expr a pos) (tS cf (sEx ea)) :=
  (ps_expr ha hs).imp fun D σ H ⟨w, Γ, S, st, en, fr, h⟩ => tX_fl st en fr h fun u H1 x S1 w1 s1 st1 en1 fr1 r1 h1 => FQ.nxQ h1 st1 en1 fr1
theorem s_ret (hN : cf.N = false) (ha : PE X a (tE cf.g cf.W ea)) : PS X (.Return (some a) pos) (tS cf (sRet ea)) :=
  (ps_ret ha).imp fun D σ H ⟨w, Γ, S, st, en, fr, h⟩ => tX_fl st en fr h fun u H1 x S1 w1 s1 st1 en1 fr1 r1 h1 => by
    have h1 : (if cf.N = true then RtN cf w1 H1 x S1 D.rt else RtP cf w1 H1 x S1 D.rt) := h1
    rw [if_neg (by rw [hN]; exact Bool.false_ne_true)] at h1
    exact h1 u w1 H1 (.refl w1 H1) fr1 st1 r1
theorem s_retN (hN : cf.N = false) : PS X (.Return none pos) (tS cf sRetN) := ps_retN.imp fun D σ H ⟨w, Γ, S, st, en, fr, h⟩ => by
  have h : (if cf.N = true then RtN cf w H (.d .non) S D.rt else RtP cf w H (.d .non) S D.rt) := h
  rw [if_neg (by rw [hN]; exact Bool.false_ne_true)] at h
  exact h .non w H (.refl w H) fr st .non
theorem s_asg {i : Nat} {x : Str} {pos' : Pos} (hN : X.N.Nodup) (hi : X.N[i]? = some x) (hx : Loc X.env.scope x) (ha : PE X a (tE cf.g cf.W ea)) (hs : swapsWith a (some (.Name x pos')) pos.line X.env = pure false := by rfl) (hf : X.fn x = true ∨ X.env.scope.names.lookup x = some .local := by first | exact .inl rfl | exact .inr rfl | assumption) :
    PS X (.Assign [.Name x pos'] a pos) (tS cf (sAsg i ea)) :=
  (ps_set hN hi hx ha hs hf).imp fun D σ H ⟨w, Γ, S, st, en, fr, h⟩ => tX_fl st en fr h fun u H1 x S1 w1 s1 st1 en1 fr1 r1 h1 => FQ.nxQ h1 st1 (en1.set i r1) fr1
theorem s_if (hc : PT X c (tT cf.g cf.W (eTest ec))) {A B : List Stmt} (ha : PSs X A (tS cf sa)) (hb : PSs X B (tS cf sb)) : PS X (.If c A B pos) (tS cf (sIf ec sa sb)) :=
  (ps_if hc ha hb).imp fun D σ H ⟨w, Γ, S, st, en, fr, h⟩ => tX_fl st en fr h fun u H1 x S1 w1 s1 st1 en1 fr1 r1 h1 => by
    cases r1
    cases u with
    | true => exact ⟨w1, Γ, S1, st1, en1, fr1, h1⟩
    | false => exact ⟨w1, Γ, S1, st1, en1, fr1, h1⟩
theorem s_asgT {tg : Expr} {sl : List Nat} {t : Tg} (ha : PE X a (tE cf.g cf.W ea)) (ht : PG X tg (tG cf.g sl t)) (hs : swapsWithSole [tg] a pos.line X.env = pure false := by rfl) (hw : swappedStores [tg] a X.env = pure none := by rfl)
    (h1 : (assignEach [tg] X.env).map (·.2) = [assign tg X.env] := by rfl) : PS X (.Assign [tg] a pos) (tS cf (sAsgT t ea)) :=
  (ps_asg ha ht hs hw h1).imp fun D σ H ⟨w, Γ, S, st, en, fr, h⟩ => tX_fl st en fr h fun u H1 x S1 w1 s1 st1 en1 fr1 r1 h1 => by
    cases x with
    | cell k => exact h1.elim
    | d d =>
      have h1 : FQ cf w1 H1 (match t d Γ with | some Γ' => .nx Γ' S1 | none => .bad) D := h1
      cases e : t d Γ with
      | none => rw [e] at h1; exact h1.elim
      | some Γ' =>
        rw [e] at h1
        exact ⟨w1, Γ, S1, d, Γ', st1, en1, r1, e, fun σ' en' _ _ => FQ.nxQ h1 st1 en' fr1⟩
/-- a loop over what is walked -/
theorem s_for {tg iter : Expr} {it : Env → Store → R (List D)} {sl : List Nat} {t : Tg} {body : List Stmt} (hp : PassesOwn (model X.prog X.w) X.A X.env X.xe) (hcalm : X.calm = true) (hi : PI X tg iter (tI cf.g cf.W it)) (hg : PG X tg (tG cf.g sl t)) (hb : PSs X body (tS cf sa))
    (mk : ∀ {wi : TI} {g : TG} {tb : TS}, PI X tg iter wi → PG X tg g → PSs X body tb → PS X (.For tg iter body [] pos) (tFor wi g tb)) : PS X (.For tg iter body [] pos) (tS cf (sFor it t sa)) :=
  (mk hi hg hb).imp fun D σ H ⟨w, Γ, S, st, en, fr, h⟩ => tX_fl st en fr h fun J H1 ds S1 w1 s1 st1 en1 fr1 it1 h1 => by
    refine ⟨fun i m σ' Hc => i + m = ds.length ∧ ∃ w2 Γ2 S2, StOk cf.g w2 S2 Hc ∧ EnvOk cf.g w2 Γ2 σ' Hc ∧ cf.fr w2 Hc ∧ Le w1 H1 w2 Hc ∧ FQ cf w2 Hc (forD t sa (ds.drop i) Γ2 S2) D, ⟨ds.length, by simp, w1, Γ, S1, st1, en1, fr1, .refl _ _, h1⟩, ?_⟩
    rintro i m σ' Hc ⟨im, w2, Γ2, S2, st2, en2, fr2, le2, h2⟩
    obtain ⟨go, stop⟩ := it1 w2 S2 Hc st2 le2
    by_cases hlt : i < ds.length
    · refine .inr ⟨(go i hlt).1, fun σ' Hc => (i + 1) + (m - 1) = ds.length ∧ ∃ w2 Γ2 S2, StOk cf.g w2 S2 Hc ∧ EnvOk cf.g w2 Γ2 σ' Hc ∧ cf.fr w2 Hc ∧ Le w1 H1 w2 Hc ∧ FQ cf w2 Hc (forD t sa (ds.drop (i + 1)) Γ2 S2) D, fun σ' H' q => ⟨m - 1, by omega, q⟩, fun x H' y => ?_⟩
      obtain ⟨sy, sty, ry⟩ := (go i hlt).2 x H' y
      have ed : ds[i]? = some ds[i] := List.getElem?_eq_getElem hlt
      have h2' := FQ.to h2 sy.le fun _ z => z
      rw [List.drop_eq_getElem_cons hlt] at h2'
      have h2' : FQ cf w2 H' (match t ds[i] Γ2 with | none => .bad | some Γ1 => (sa Γ1 S2).lp (forD t sa (ds.drop (i + 1)))) D := h2'
      cases et : t ds[i] Γ2 with
      | none => rw [et] at h2'; exact h2'.elim
      | some Γ3 =>
        rw [et] at h2'
        have h2' : FQ cf w2 H' ((sa Γ3 S2).lp (forD t sa (ds.drop (i + 1)))) D := h2'
        have fry := fr2.stp sy
        refine ⟨w2, Γ2, S2, ds[i], Γ3, sty, en2.step sy, ry _ ed, et, fun σ3 en3 _ _ => ⟨w2, Γ3, S2, sty, en3, fry, ?_⟩⟩
        have lw : Le w1 H1 w2 H' := le2.trans sy.le (by rw [fr2.hid, fr1.hid]; exact fun _ z => z)
        have nxt : ∀ Γ4 S4, FQ cf w2 H' (forD t sa (ds.drop (i + 1)) Γ4 S4) D → ∀ σ4 w4 H4, Le w2 H' w4 H4 → cf.fr w4 H4 → StOk cf.g w4 S4 H4 → EnvOk cf.g w4 Γ4 σ4 H4 → (i + 1) + (m - 1) = ds.length ∧ ∃ w2 Γ2 S2, StOk cf.g w2 S2 H4 ∧ EnvOk cf.g w2 Γ2 σ4 H4 ∧ cf.fr w2 H4 ∧ Le w1 H1 w2 H4 ∧ FQ cf w2 H4 (forD t sa (ds.drop (i + 1)) Γ2 S2) D :=
          fun Γ4 S4 q σ4 w4 H4 l f s e => ⟨by omega, w4, Γ4, S4, s, e, f, lw.trans l (by rw [fr2.hid, fr1.hid]; exact fun _ z => z), FQ.to q l (by rw [f.hid, fr2.hid]; exact fun _ z => z)⟩
        cases e : sa Γ3 S2 with
        | nx Γ4 S4 => rw [e] at h2'; exact nxt Γ4 S4 h2'
        | ct Γ4 S4 => rw [e] at h2'; exact nxt Γ4 S4 h2'
        | bk Γ4 S4 => rw [e] at h2'; exact h2'
        | rt x S4 => rw [e] at h2'; exact h2'
        | exc c x Γ4 S4 => rw [e] at h2'; exact h2'
        | bad => rw [e] at h2'; exact h2'
    · have ei : i = ds.length := by omega
      subst ei
      rw [List.drop_of_length_le (Nat.le_refl _)] at h2
      exact .inl ⟨stop, FQ.nxQ h2 st2 en2 fr2⟩
theorem s_while {body : List Stmt} (n : Nat) (hp : PassesOwn (model X.prog X.w) X.A X.env X.xe) (hc : PT X c (tT cf.g cf.W (eTest ec))) (hb : PSs X body (tS cf sa)) : PS X (.While c body [] pos) (tS cf (whD ec sa n)) :=
  (ps_while hp hc hb).imp fun D σ H ⟨w, Γ, S, st, en, fr, h⟩ => by
    refine ⟨fun m σ' Hc => ∃ w2 Γ2 S2, StOk cf.g w2 S2 Hc ∧ EnvOk cf.g w2 Γ2 σ' Hc ∧ cf.fr w2 Hc ∧ FQ cf w2 Hc (whD ec sa m Γ2 S2) D, ⟨n, w, Γ, S, st, en, fr, h⟩, ?_⟩
    rintro m σ' Hc ⟨w2, Γ2, S2, st2, en2, fr2, h2⟩
    cases m with
    | zero => exact h2.elim
    | succ m =>
      refine tX_fl st2 en2 fr2 h2 fun u H1 x S1 w1 s1 st1 en1 fr1 r1 h1 => ?_
      cases r1
      cases u with
      | false => exact FQ.nxQ h1 st1 en1 fr1
      | true =>
        have h1 : FQ cf w1 H1 ((sa Γ2 S1).lp (whD ec sa m)) D := h1
        rw [if_pos rfl]
        refine ⟨fun σ' Hc => ∃ w2 Γ2 S2, StOk cf.g w2 S2 Hc ∧ EnvOk cf.g w2 Γ2 σ' Hc ∧ cf.fr w2 Hc ∧ FQ cf w2 Hc (whD ec sa m Γ2 S2) D, fun σ' H' q => ⟨m, Nat.lt_succ_self m, q⟩, w1, Γ2, S1, st1, en1, fr1, ?_⟩
        have nxt : ∀ Γ4 S4, FQ cf w1 H1 (whD ec sa m Γ4 S4) D → ∀ σ4 w4 H4, Le w1 H1 w4 H4 → cf.fr w4 H4 → StOk cf.g w4 S4 H4 → EnvOk cf.g w4 Γ4 σ4 H4 → ∃ w2 Γ2 S2, StOk cf.g w2 S2 H4 ∧ EnvOk cf.g w2 Γ2 σ4 H4 ∧ cf.fr w2 H4 ∧ FQ cf w2 H4 (whD ec sa m Γ2 S2) D :=
          fun Γ4 S4 q σ4 w4 H4 l f s e => ⟨w4, Γ4, S4, s, e, f, FQ.to q l (by rw [f.hid, fr1.hid]; exact fun _ z => z)⟩
        cases e : sa Γ2 S1 with
        | nx Γ4 S4 => rw [e] at h1; exact nxt Γ4 S4 h1
        | ct Γ4 S4 => rw [e] at h1; exact nxt Γ4 S4 h1
        | bk Γ4 S4 => rw [e] at h1; exact h1
        | rt x S4 => rw [e] at h1; exact h1
        | exc c x Γ4 S4 => rw [e] at h1; exact h1
        | bad => rw [e] at h1; exact h1
end
end Pd

namespace Pd
open PySem L2

/-! ### lists of the store -/
section
variable {g : Gx} {w w' : Wd} {H H' : Hp} {S : Store} {p : Addr} {m : List (Option Addr)} {h : List Addr}
/-- a hidden new list becomes an object of the store -/
theorem av_adopt {a : Addr} : (⟨m ++ [some p], h⟩ : Wd).av a ↔ (⟨m, p :: h⟩ : Wd).av a := by
  unfold Wd.av
  simp only [List.mem_append, List.mem_cons, List.not_mem_nil, or_false, Option.some.injEq]
  constructor
  · rintro ((q | q) | q)
    · exact .inl q
    · exact .inr (.inl q)
    · exact .inr (.inr q)
  · rintro (q | (q | q))
    · exact .inl (.inl q)
    · exact .inl (.inr q)
    · exact .inr q
theorem le_adopt : Le ⟨m, p :: h⟩ H ⟨m ++ [some p], h⟩ H := ⟨fun a z => .inl (av_adopt.mp z), fun _ _ e _ _ => e, fun _ e => e, fun _ _ => rfl⟩
theorem StOk.adopt {ds : List D} {vs : List V} (st : StOk g ⟨m, p :: h⟩ S H) (np : p ∉ h) (hp : H p = some (.lst vs)) (l : RepL g ⟨m, p :: h⟩ H ds vs) : StOk g ⟨m ++ [some p], h⟩ (S ++ [some (.lst ds)]) H := by
  have hl : m.length = S.length := st.len
  have pm : some p ∉ m := (st.hid p List.mem_cons_self).1
  have get : ∀ (k : Nat) (a : Addr), (m ++ [some p])[k]? = some (some a) → (k < m.length ∧ m[k]? = some (some a)) ∨ (k = m.length ∧ a = p) := fun k a e => by
    by_cases hk : k < m.length
    · rw [List.getElem?_append_left hk] at e
      exact .inl ⟨hk, e⟩
    · rw [List.getElem?_append_right (by omega)] at e
      cases e2 : k - m.length with
      | zero =>
        rw [e2] at e
        simp at e
        exact .inr ⟨by omega, e.symm⟩
      | succ j =>
        rw [e2] at e
        simp at e
  refine ⟨by simp [hl], fun k c e => ?_, fun k a e => ?_, fun j k a e1 e2 => ?_, fun a z => ⟨fun y => ?_, (st.hid a (List.mem_cons_of_mem _ z)).2⟩, fun r ks e => ?_, fun p z => (st.tab p z).le le_adopt fun _ e _ => e⟩
  rotate_left 4
  · by_cases hk : r < S.length
    · rw [List.getElem?_append_left hk] at e
      exact st.lo r ks e
    · rw [List.getElem?_append_right (by omega)] at e
      cases e2 : r - S.length with
      | zero => rw [e2] at e; cases e
      | succ j => rw [e2] at e; simp at e
  · by_cases hk : k < S.length
    · rw [List.getElem?_append_left hk] at e
      obtain ⟨a, h1, h2⟩ := st.cell k c e
      exact ⟨a, by rw [List.getElem?_append_left (by omega)]; exact h1, h2.le le_adopt (fun _ _ _ q => q) fun j b hj z => by
        obtain ⟨ks, hc, hj⟩ := hj
        subst hc
        have lt := st.lo k ks e j hj
        have z : (m ++ [some p])[j]? = some (some b) := z
        rw [List.getElem?_append_left (by omega)] at z
        exact z⟩
    · rw [List.getElem?_append_right (by omega)] at e
      cases e2 : k - S.length with
      | zero =>
        rw [e2] at e
        have e : some (some (Cell.lst ds)) = some (some c) := e
        cases e
        refine ⟨p, ?_, vs, hp, RepL.le le_adopt l⟩
        rw [List.getElem?_append_right (by omega), hl, e2] <;> rfl
      | succ j =>
        rw [e2] at e
        simp at e
  · rcases get k a e with ⟨hk, e⟩ | ⟨hk, e⟩
    · obtain ⟨c, hc⟩ := st.live k a e
      exact ⟨c, by rw [List.getElem?_append_left (by omega)]; exact hc⟩
    · refine ⟨.lst ds, ?_⟩
      rw [List.getElem?_append_right (by omega), hk, hl, Nat.sub_self] <;> rfl
  · rcases get j a e1 with ⟨hj, f1⟩ | ⟨hj, f1⟩
    · rcases get k a e2 with ⟨hk, f2⟩ | ⟨hk, f2⟩
      · exact st.inj j k a f1 f2
      · rw [f2] at f1
        exact absurd (List.mem_of_getElem? f1) pm
    · rcases get k a e2 with ⟨hk, f2⟩ | ⟨hk, f2⟩
      · rw [f1] at f2
        exact absurd (List.mem_of_getElem? f2) pm
      · omega
  · rcases List.mem_append.mp y with y | y
    · exact (st.hid a (List.mem_cons_of_mem _ z)).1 y
    · have q : a = p := by simpa using y
      exact np (by rw [← q]; exact z)
/-- the k-th object goes: from here on nothing is known of it -/
theorem le_gone {k : Nat} : Le ⟨m, h⟩ H ⟨m.set k none, h⟩ H := le_sub fun a z => z.elim (fun z => by
  rcases List.mem_or_eq_of_mem_set z with z | z
  · exact .inl z
  · cases z) .inr
theorem StOk.gone {k : Nat} (st : StOk g ⟨m, h⟩ S H) : StOk g ⟨m.set k none, h⟩ (S.set k none) H := by
  have hl : m.length = S.length := st.len
  have get : ∀ (j : Nat) (a : Addr), (m.set k none)[j]? = some (some a) → j ≠ k ∧ m[j]? = some (some a) := fun j a e => by
    by_cases hj : k = j
    · subst hj
      rw [List.getElem?_set] at e
      simp at e
    · rw [List.getElem?_set_ne hj] at e
      exact ⟨fun q => hj q.symm, e⟩
  refine ⟨by simp [hl], fun j c e => ?_, fun j a e => ?_, fun j i a e1 e2 => st.inj j i a (get j a e1).2 (get i a e2).2, fun a z => ⟨fun y => ?_, (st.hid a z).2⟩, fun r ks e => ?_, fun p z => (st.tab p z).le le_gone fun _ e _ => e⟩
  rotate_left 3
  · have hj : k ≠ r := fun q => by
      subst q
      rw [List.getElem?_set] at e
      simp at e
    rw [List.getElem?_set_ne hj] at e
    exact st.lo r ks e
  · have hj : k ≠ j := fun q => by
      subst q
      rw [List.getElem?_set] at e
      simp at e
    rw [List.getElem?_set_ne hj] at e
    obtain ⟨a, h1, h2⟩ := st.cell j c e
    exact ⟨a, by show (m.set k none)[j]? = _; rw [List.getElem?_set_ne hj]; exact h1, h2.le le_gone (fun _ _ _ q => q) fun i b _ z => (get i b z).2⟩
  · obtain ⟨hj, e⟩ := get j a e
    obtain ⟨c, hc⟩ := st.live j a e
    exact ⟨c, by rw [List.getElem?_set_ne (Ne.symm hj)]; exact hc⟩
  · rcases List.mem_or_eq_of_mem_set y with y | y
    · exact (st.hid a z).1 y
    · cases y
theorem le_take {k : Nat} : Le ⟨m, h⟩ H ⟨m.take k, h⟩ H := le_sub fun a z => z.elim (fun z => .inl (List.mem_of_mem_take z)) .inr
theorem StOk.take {k : Nat} (st : StOk g ⟨m, h⟩ S H) : StOk g ⟨m.take k, h⟩ (S.take k) H := by
  have hl : m.length = S.length := st.len
  have get : ∀ {α : Type} (l : List α) (j : Nat) (a : α), (l.take k)[j]? = some a → j < k ∧ l[j]? = some a := fun l j a e => by
    rw [List.getElem?_take] at e
    split at e
    · exact ⟨by assumption, e⟩
    · cases e
  refine ⟨by simp [hl], fun j c e => ?_, fun j a e => ?_, fun j i a e1 e2 => st.inj j i a (get m j _ e1).2 (get m i _ e2).2, fun a z => ⟨fun y => (st.hid a z).1 (List.mem_of_mem_take y), (st.hid a z).2⟩, fun r ks e => st.lo r ks (get S r _ e).2, fun p z => (st.tab p z).le le_take fun _ e _ => e⟩
  · obtain ⟨hj, e⟩ := get S j _ e
    obtain ⟨a, h1, h2⟩ := st.cell j c e
    exact ⟨a, by show (m.take k)[j]? = _; rw [List.getElem?_take, if_pos hj]; exact h1, h2.le le_take (fun _ _ _ q => q) fun i b _ z => (get m i _ z).2⟩
  · obtain ⟨hj, e⟩ := get m j _ e
    obtain ⟨c, hc⟩ := st.live j a e
    exact ⟨c, by rw [List.getElem?_take, if_pos hj]; exact hc⟩
/-- a list of the store, gone from it, is a value -/
theorem rep_gone {k : Nat} {a : Addr} {ds : List D} (st : StOk g ⟨m, h⟩ S H) (hS : S[k]? = some (some (.lst ds))) (hk : m[k]? = some (some a)) {m' : List (Option Addr)} (sub : ∀ b, some b ∈ m' → some b ∈ m) (no : some a ∉ m') : Rep g ⟨m', h⟩ H (.lst ds) (.ref a) := by
  obtain ⟨b, h1, vs, h2, h3⟩ := st.cell k _ hS
  have e : some (some a) = some (some b) := by rw [← hk]; exact h1
  cases e
  refine .lst h2 (fun z => ?_) (RepL.le (le_sub fun b z => z.elim (fun z => .inl (sub b z)) .inr) h3)
  rcases z with z | z
  · exact no z
  · exact (st.hid a z).1 (List.mem_of_getElem? hk)
theorem no_set {k : Nat} {a : Addr} (st : StOk g ⟨m, h⟩ S H) (hk : m[k]? = some (some a)) : some a ∉ m.set k none := fun z => by
  obtain ⟨j, hj⟩ := List.getElem?_of_mem z
  by_cases e : k = j
  · subst e
    rw [List.getElem?_set] at hj
    simp at hj
  · rw [List.getElem?_set_ne e] at hj
    exact e (st.inj k j a hk hj)
theorem no_take {k : Nat} {a : Addr} (st : StOk g ⟨m, h⟩ S H) (hk : m[k]? = some (some a)) : some a ∉ m.take k := fun z => by
  obtain ⟨j, hj⟩ := List.getElem?_of_mem z
  rw [List.getElem?_take] at hj
  split at hj
  · have := st.inj k j a hk hj
    omega
  · cases hj
end

section
variable {X : Cx} {cf : Cf} {a b c : Expr} {ea eb ec : Ev} {pos p2 : Pos} {st : Stmt} {rest : List Stmt} {sa sb : Sv}
/-- name = a new list, by the store's rule and what the expression asks -/
theorem new_q {i : Nat} {D : Ends} {σ : L2.St} {H : Hp} (hh : tS cf (sNew i ea) D σ H) : tN cf.g cf.W ea σ H fun x H1 => D.nx (σ.set i (some x)) H1 := by
    obtain ⟨w, Γ, S, so, en, fr, h⟩ := hh
    refine ⟨w, Γ, S, so, en, ?_⟩
    unfold sNew at h
    cases e : ea Γ S with
    | bad => rw [e] at h; exact h
    | exc c x S1 =>
      rw [e] at h
      exact fun cls dx w' H' s st' r => h σ cls dx w' H' s.le (fr.stp s) st' (en.step s) r
    | ok x S1 =>
      rw [e] at h
      cases x with
      | cell k => exact h.elim
      | d x =>
        cases x with
        | lst ds =>
          intro p vs w' H' n st' hp l
          obtain ⟨m', h'⟩ := w'
          have eh : h' = p :: w.hid := n.hid
          subst eh
          have np : p ∉ w.hid := fun z => so.hidN z n.free
          have ln : m'.length = w.m.length := n.q.len
          have lS : m'.length = S1.length := st'.len
          have ad : Le w H ⟨m' ++ [some p], w.hid⟩ H' := n.q.le.trans le_adopt fun a z => List.mem_cons_of_mem _ z
          have h0p : cf.H0 p = none := by
            cases q : cf.H0 p with
            | none => rfl
            | some o => exact absurd n.free (fr.le.trk p (by rw [q]; exact fun z => by cases z))
          refine h (σ.set i (some (.ref p))) ⟨m' ++ [some p], w.hid⟩ H' ad ⟨fr.le.trans ad (by rw [fr.hid]; exact fun _ z => z), fr.hid, ?_, fun k a hk e => ?_, fun k a hk e => ?_⟩ (st'.adopt np hp l) ?_
          · have := fr.len
            show _ ≤ (m' ++ [some p]).length
            rw [List.length_append]
            omega
          · have hk2 := fr.len
            have e : (m' ++ [some p])[k]? = some (some a) := e
            rw [List.getElem?_append_left (by omega)] at e
            exact fr.old k a hk (n.q.old k a e)
          · have e : (m' ++ [some p])[k]? = some (some a) := e
            by_cases hk3 : k < m'.length
            · rw [List.getElem?_append_left hk3] at e
              exact fr.new k a hk (n.q.old k a e)
            · rw [List.getElem?_append_right (by omega)] at e
              cases e2 : k - m'.length with
              | zero =>
                rw [e2] at e
                have e : some (some p) = some (some a) := e
                cases e
                exact h0p
              | succ j =>
                rw [e2] at e
                simp at e
          · have en' : EnvOk cf.g ⟨m' ++ [some p], w.hid⟩ Γ σ H' := ⟨en.len, fun j y e => by
              obtain ⟨v, h1, h2⟩ := en.val j y e
              refine ⟨v, h1, ?_⟩
              cases y with
              | d y => exact Rep.le ad h2
              | cell k =>
                have hk : k < w.m.length := h2.1
                refine ⟨by show k < (m' ++ [some p]).length; rw [List.length_append]; omega, fun a e => h2.2 a ?_⟩
                have e : (m' ++ [some p])[k]? = some (some a) := e
                rw [List.getElem?_append_left (by omega)] at e
                exact n.q.old k a e⟩
            refine en'.set i (x := .cell S1.length) ⟨?_, fun a e => ?_⟩
            · show _ < (m' ++ [some p]).length
              rw [List.length_append, lS]
              exact Nat.lt_succ_self _
            · have e : (m' ++ [some p])[S1.length]? = some (some a) := e
              rw [List.getElem?_append_right (by omega), lS, Nat.sub_self] at e
              have e : some (some p) = some (some a) := e
              cases e
              rfl
        | _ => exact h.elim
theorem s_newOf {i : Nat} {te : TE} (hps : PS X st (tAsg te (gName i))) (him : ∀ σ H Q, tN cf.g cf.W ea σ H Q → te σ H Q) : PS X st (tS cf (sNew i ea)) :=
  hps.imp fun D σ H h => him σ H _ (new_q h)
theorem s_new {i : Nat} {x : Str} {pos' : Pos} (hN : X.N.Nodup) (hi : X.N[i]? = some x) (hx : Loc X.env.scope x) (ha : PE X a (tN cf.g cf.W ea)) (hs : swapsWith a (some (.Name x pos')) pos.line X.env = pure false := by rfl) (hf : X.fn x = true ∨ X.env.scope.names.lookup x = some .local := by first | exact .inl rfl | exact .inr rfl | assumption) :
    PS X (.Assign [.Name x pos'] a pos) (tS cf (sNew i ea)) := s_newOf (ps_set hN hi hx ha hs hf) fun _ _ _ h => h
/-- name = a value, by the rule and what the expression asks -/
theorem s_asgOf {i : Nat} {te : TE} (hps : PS X st (tAsg te (gName i))) (him : ∀ σ H Q, tE cf.g cf.W ea σ H Q → te σ H Q) : PS X st (tS cf (sAsg i ea)) :=
  hps.imp fun D σ H ⟨w, Γ, S, so, en, fr, h⟩ => him σ H _ (tX_fl so en fr h fun u H1 x S1 w1 s1 st1 en1 fr1 r1 h1 => FQ.nxQ h1 st1 (en1.set i r1) fr1)
theorem lc_plain {it : Env → Store → R (List D)} {vs : List Nat} {tg : Tg} {test : Env → Store → R Bool} {elt : Ev} {g : Gx} {W : WX} {σ : L2.St} {H : Hp} {Q : VK} (h : tE g W (eLc it vs tg test elt) σ H Q) : tN g W (eLc it vs tg test elt) σ H Q := by
  obtain ⟨w, Γ, S, so, en, q⟩ := h
  exact ⟨w, Γ, S, so, en, RQN.plain q (eLc_lst Γ S) fun a z => so.hidN z⟩
/-- name = [..], the name a local of the def -/
theorem s_asgLc {i : Nat} {y : Str} {py spos : Pos} {elt tg iter : Expr} {ifs : List Expr} {scope : Scope} {own : List (Str × Nat)} {it : Env → Store → R (List D)} {sl : List Nat} {tgd : Tg} {test : Env → Store → R Bool} {el : Ev} (hc : X.calm = true) (hN : X.N.Nodup) (hy : X.N[i]? = some y) (hyl : X.env.scope.names.lookup y = some .local)
    (hsw : swapsWith (.ListComp elt [⟨tg, iter, ifs, 0⟩] scope pos) (some (.Name y py)) spos.line X.env = pure true) (hi : PI X tg iter (tI cf.g cf.W it)) (ok : BlkOk X.N X.env.scope scope own)
    (hg : ∀ (s : Shared) (H : Hp) (C : Addr) (cl : List (Str × Addr)) (fp : List Addr), PG (X.blk s H scope (compEnvC scope cl C X.env) fp) tg (tG cf.g sl tgd)) (ht : ∀ (s : Shared) (H : Hp) (C : Addr) (cl : List (Str × Addr)) (fp : List Addr), PTs (X.blk s H scope (compEnvC scope cl C X.env) fp) ifs (tT cf.g W0 test))
    (he : ∀ (s : Shared) (H : Hp) (C : Addr) (cl : List (Str × Addr)) (fp : List Addr), PE (X.blk s H scope (compEnvC scope cl C X.env) fp) elt (tE cf.g W0 el)) (hsl : ∀ i ∈ sl, i ∈ own.map (·.2)) (hs : ∀ x, foldedSetIterable iter X.env x = pure x := by intro _; rfl) :
    PS X (.Assign [.Name y py] (.ListComp elt [⟨tg, iter, ifs, 0⟩] scope pos) spos) (tS cf (sAsg i (eLc it (own.map (·.2)) tgd test el))) :=
  s_asgOf (ps_setLc hc hN hy hyl hsw hi ok hg ht he hs) fun σ H Q h => lc_q hsl (lc_plain h)
theorem s_newLc {i : Nat} {y : Str} {py spos : Pos} {elt tg iter : Expr} {ifs : List Expr} {scope : Scope} {own : List (Str × Nat)} {it : Env → Store → R (List D)} {sl : List Nat} {tgd : Tg} {test : Env → Store → R Bool} {el : Ev} (hc : X.calm = true) (hN : X.N.Nodup) (hy : X.N[i]? = some y) (hyl : X.env.scope.names.lookup y = some .local)
    (hsw : swapsWith (.ListComp elt [⟨tg, iter, ifs, 0⟩] scope pos) (some (.Name y py)) spos.line X.env = pure true) (hi : PI X tg iter (tI cf.g cf.W it)) (ok : BlkOk X.N X.env.scope scope own)
    (hg : ∀ (s : Shared) (H : Hp) (C : Addr) (cl : List (Str × Addr)) (fp : List Addr), PG (X.blk s H scope (compEnvC scope cl C X.env) fp) tg (tG cf.g sl tgd)) (ht : ∀ (s : Shared) (H : Hp) (C : Addr) (cl : List (Str × Addr)) (fp : List Addr), PTs (X.blk s H scope (compEnvC scope cl C X.env) fp) ifs (tT cf.g W0 test))
    (he : ∀ (s : Shared) (H : Hp) (C : Addr) (cl : List (Str × Addr)) (fp : List Addr), PE (X.blk s H scope (compEnvC scope cl C X.env) fp) elt (tE cf.g W0 el)) (hsl : ∀ i ∈ sl, i ∈ own.map (·.2)) (hs : ∀ x, foldedSetIterable iter X.env x = pure x := by intro _; rfl) :
    PS X (.Assign [.Name y py] (.ListComp elt [⟨tg, iter, ifs, 0⟩] scope pos) spos) (tS cf (sNew i (eLc it (own.map (·.2)) tgd test el))) :=
  s_newOf (ps_setLc hc hN hy hyl hsw hi ok hg ht he hs) fun σ H Q h => lc_q hsl h
/-- the object of a name becomes a value: ahead of any row -/
theorem ss_frz {i n0 : Nat} (hn : cf.w0.m.length = n0) (h1 : PSs X rest (tS cf sb)) : PSs X rest (tS cf (sSeq (sFrz n0 i) sb)) :=
  h1.imp fun D σ H ⟨w, Γ, S, so, en, fr, h⟩ => by
    subst hn
    unfold sSeq sFrz at h
    cases e1 : Γ[i]? with
    | none => rw [e1] at h; exact h.elim
    | some o =>
      cases o with
      | none => rw [e1] at h; exact h.elim
      | some x =>
        cases x with
        | d x => rw [e1] at h; exact h.elim
        | cell k =>
          cases e2 : S[k]? with
          | none => rw [e1] at h; simp only [e2] at h; exact h.elim
          | some o =>
            cases o with
            | none => rw [e1] at h; simp only [e2] at h; exact h.elim
            | some cl =>
              cases cl with
              | obj cn fs => rw [e1] at h; simp only [e2] at h; exact h.elim
              | refs ks => rw [e1] at h; simp only [e2] at h; exact h.elim
              | lst ds =>
                rw [e1] at h
                simp only [e2] at h
                obtain ⟨m, hd⟩ := w
                obtain ⟨av, hav, vs, hH, hl⟩ := so.cell k _ e2
                obtain ⟨v, hv, rv⟩ := en.val i _ e1
                have ev := rv.2 av hav
                subst ev
                have hlt : k < S.length := by
                  rcases Nat.lt_or_ge k S.length with q | q
                  · exact q
                  · rw [List.getElem?_eq_none q] at e2
                    cases e2
                by_cases h0 : cf.w0.m.length ≤ k
                · simp only [if_pos h0] at h
                  by_cases hlast : k + 1 = S.length
                  · simp only [if_pos hlast] at h
                    have le : Le ⟨m, hd⟩ H ⟨m.take k, hd⟩ H := le_take
                    have ml : m.length = S.length := so.len
                    refine ⟨⟨m.take k, hd⟩, _, _, so.take, ?_, ⟨fr.le.trans le (by rw [fr.hid]; exact fun _ z => z), fr.hid, ?_, fun j a hj e => ?_, fun j a hj e => ?_⟩, FQ.to h le fun _ z => z⟩
                    · have en' : EnvOk cf.g ⟨m.take k, hd⟩ ((Γ.set i none).map (keepB k)) σ H := ⟨by simp [en.len], fun j y e => by
                        rw [List.getElem?_map] at e
                        cases q : (Γ.set i none)[j]? with
                        | none => rw [q] at e; cases e
                        | some o =>
                          rw [q] at e
                          have q2 : ∀ z, o = some z → Γ[j]? = some (some z) := fun z hz => by
                            rw [hz] at q
                            rw [List.getElem?_set] at q
                            split at q
                            · split at q <;> cases q
                            · exact q
                          cases o with
                          | none => cases e
                          | some z =>
                            cases z with
                            | d z =>
                              cases e
                              obtain ⟨u, h1, h2⟩ := en.val j _ (q2 _ rfl)
                              exact ⟨u, h1, Rep.le le h2⟩
                            | cell l =>
                              have e : (some (if l < k then some (Val.cell l) else none)) = some (some y) := e
                              by_cases hlk : l < k
                              · rw [if_pos hlk] at e
                                cases e
                                obtain ⟨u, h1, h2⟩ := en.val j _ (q2 _ rfl)
                                refine ⟨u, h1, ?_, fun a ea => h2.2 a ?_⟩
                                · show l < (m.take k).length
                                  rw [List.length_take]
                                  omega
                                · have ea : (m.take k)[l]? = some (some a) := ea
                                  rw [List.getElem?_take, if_pos hlk] at ea
                                  exact ea
                              · rw [if_neg hlk] at e
                                cases e⟩
                      have e3 := en'.set i (x := .d (.lst ds)) (v := .ref av) (rep_gone so e2 hav (fun b z => List.mem_of_mem_take z) (no_take so hav))
                      have e4 : ((Γ.set i none).map (keepB k)).set i (some (.d (.lst ds))) = (Γ.set i (some (.d (.lst ds)))).map (keepB k) := by
                        apply List.ext_getElem?
                        intro j
                        simp only [List.getElem?_set, List.getElem?_map, List.length_map, List.length_set]
                        by_cases hj : i = j
                        · subst hj
                          by_cases hi : i < Γ.length
                          · simp [hi, keepB]
                          · simp [hi]
                        · simp [hj]
                      rw [e4] at e3
                      have e5 : σ.set i (some (V.ref av)) = σ := by
                        apply List.ext_getElem?
                        intro j
                        by_cases hj : i = j
                        · subst hj
                          rw [List.getElem?_set]
                          have : i < σ.length := by
                            rcases Nat.lt_or_ge i σ.length with q | q
                            · exact q
                            · rw [List.getElem?_eq_none q] at hv
                              cases hv
                          rw [if_pos rfl, if_pos this, hv]
                        · rw [List.getElem?_set_ne hj]
                      rw [e5] at e3
                      exact e3
                    · show _ ≤ (m.take k).length
                      rw [List.length_take]
                      omega
                    · have e : (m.take k)[j]? = some (some a) := e
                      rw [List.getElem?_take] at e
                      split at e
                      · exact fr.old j a hj e
                      · cases e
                    · have e : (m.take k)[j]? = some (some a) := e
                      rw [List.getElem?_take] at e
                      split at e
                      · exact fr.new j a hj e
                      · cases e
                  · simp only [if_neg hlast] at h
                    have le : Le ⟨m, hd⟩ H ⟨m.set k none, hd⟩ H := le_gone
                    have get : ∀ (j : Nat) (a : Addr), (m.set k none)[j]? = some (some a) → m[j]? = some (some a) := fun j a e => by
                      by_cases hj : k = j
                      · subst hj
                        rw [List.getElem?_set] at e
                        simp at e
                      · rw [List.getElem?_set_ne hj] at e
                        exact e
                    refine ⟨⟨m.set k none, hd⟩, _, _, so.gone, ?_, ⟨fr.le.trans le (by rw [fr.hid]; exact fun _ z => z), fr.hid, by show _ ≤ (m.set k none).length; rw [List.length_set]; exact fr.len, fun j a hj e => fr.old j a hj (get j a e), fun j a hj e => fr.new j a hj (get j a e)⟩, FQ.to h le fun _ z => z⟩
                    have en' : EnvOk cf.g ⟨m.set k none, hd⟩ Γ σ H := ⟨en.len, fun j y e => by
                      obtain ⟨u, h1, h2⟩ := en.val j y e
                      refine ⟨u, h1, ?_⟩
                      cases y with
                      | d y => exact Rep.le le h2
                      | cell l => exact ⟨by show l < (m.set k none).length; rw [List.length_set]; exact h2.1, fun a e => h2.2 a (get l a e)⟩⟩
                    have e3 := en'.set i (x := .d (.lst ds)) (v := .ref av) (rep_gone so e2 hav (fun b z => by
                      rcases List.mem_or_eq_of_mem_set z with z | z
                      · exact z
                      · cases z) (no_set so hav))
                    have e5 : σ.set i (some (V.ref av)) = σ := by
                      apply List.ext_getElem?
                      intro j
                      by_cases hj : i = j
                      · subst hj
                        rw [List.getElem?_set]
                        have : i < σ.length := by
                          rcases Nat.lt_or_ge i σ.length with q | q
                          · exact q
                          · rw [List.getElem?_eq_none q] at hv
                            cases hv
                        rw [if_pos rfl, if_pos this, hv]
                      · rw [List.getElem?_set_ne hj]
                    rw [e5] at e3
                    exact e3
                · simp only [if_neg h0] at h
                  exact h.elim
end
end Pd

namespace Pd
open PySem L2

/-! ### methods of lists of the store -/
def eApp (eo ea : Ev) : Ev := fun Γ S => (eo Γ S).bind fun o S1 => match rd S1 o with
  | some (.lst _) => (ea Γ S1).bind fun x S2 => (match o, x with
    | .cell k, .d d => (match S2[k]? with
      | some (some (.lst ds)) => if ds.length < cap then .ok (.d .non) (S2.set k (some (.lst (ds ++ [d])))) else .bad
      | _ => .bad)
    | _, _ => .bad)
  | _ => .bad
def eExt (eo ea : Ev) : Ev := fun Γ S => (eo Γ S).bind fun o S1 => match rd S1 o with
  | some (.lst _) => (ea Γ S1).bind fun x S2 => (match o, x with
    | .cell k, .d (.lst es) => (match S2[k]? with
      | some (some (.lst ds)) => if ds.length + es.length ≤ cap then .ok (.d .non) (S2.set k (some (.lst (ds ++ es)))) else .bad
      | _ => .bad)
    | _, _ => .bad)
  | _ => .bad
def ePop (eo : Ev) : Ev := fun Γ S => (eo Γ S).bind fun o S1 => match o with
  | .cell k => (match S1[k]? with
    | some (some (.lst ds)) => (match ds[ds.length - 1]? with | some d => .ok (.d d) (S1.set k (some (.lst ds.dropLast))) | none => .bad)
    | _ => .bad)
  | _ => .bad
/-- o[i] = e: the value first -/
def sSet (eo ei ea : Ev) : Sv := fun Γ S => (ea Γ S).fl Γ fun x S1 => (eo Γ S1).fl Γ fun o S2 => (ei Γ S2).fl Γ fun i S3 => match o, i, x with
  | .cell k, .d (.int j), .d d => (match S3[k]? with
    | some (some (.lst ds)) => (match ixN ds.length j with | some n => .nx Γ (S3.set k (some (.lst (ds.set n d)))) | none => .bad)
    | _ => .bad)
  | _, _, _ => .bad
section
variable {X : Cx} {g : Gx} {W : WX} {a b o : Expr} {ea eb eo ei : Ev} {pos apos cpos p : Pos} {cf : Cf}
theorem rd_ty {w : Wd} {S : Store} {H : Hp} {x : Val} {v : V} {ds : List D} (hK : g.K = X.K) (st : StOk g w S H) (r : RepV g w H x v) (e : rd S x = some (.lst ds)) : tyV X.K "list" v H := by
  obtain ⟨a, vs, rfl, h, _⟩ := rd_lst st r e
  exact .inl ⟨rfl, vs, .inl (.inl h)⟩
theorem cell_at {w : Wd} {S : Store} {H : Hp} {k : Nat} {v : V} {ds : List D} (st : StOk g w S H) (r : RepV g w H (.cell k) v) (e : S[k]? = some (some (.lst ds))) : ∃ a vs, v = .ref a ∧ w.m[k]? = some (some a) ∧ H a = some (.lst vs) ∧ RepL g w H ds vs := by
  obtain ⟨a, h1, vs, h2, h3⟩ := st.cell k _ e
  exact ⟨a, vs, r.2 a h1, h1, h2, h3⟩
theorem p_app (hK : g.K = X.K) (ho : PE X o (tE g W eo)) (ha : PE X a (tE g W ea)) (hbase : attributeBase o "append" X.env (eval o X.env) = eval o X.env := by rfl)
    (hfew : ((backTo cpos (starEach [a] X.env)).all (fun x => !x.1) && (backToKw cpos (keywordEach [] X.env)).all (fun x => x.1.isSome) && decide ([a].length + ([] : List Keyword).length + (if ([] : List Keyword).isEmpty then 0 else 1) < 30)) = true := by rfl)
    (hline : (apos.endLine == cpos.line) = true := by rfl) (hs : starEach [a] X.env = (false, eval a X.env) :: starEach [] X.env := by rfl) (hplain : (backTo cpos (starEach [] X.env)).any (·.1) = false := by rfl) :
    PE X (.Call (.Attribute o "append" apos) [a] [] cpos) (tE g W (eApp eo ea)) :=
  (pe_bm PySem.F.plainAttrs_list PySem.F.slot_list_append PySem.F.type_list_append mt_append ho (pa_cons ha pa_nil hs) hbase hfew hline hs hplain).imp fun σ H Q ⟨w, Γ, S, st, en, h⟩ =>
    tX_seq st en h fun u H1 x S1 w1 s1 st1 en1 r1 h1 => by
      split at h1
      · rename_i ds0 e0
        refine ⟨rd_ty hK st1 r1 e0, tX_seq st1 en1 h1 fun v H2 y S2 w2 s2 st2 en2 r2 h2 => ?_⟩
        split at h2
        · split at h2
          · rename_i ds e
            obtain ⟨hz, h2⟩ := ite_q h2
            obtain ⟨p, vs, rfl, hk, hp, l⟩ := cell_at st2 (r1.step s2) e
            refine ⟨p, vs, v, rfl, rfl, hp, ?_, ?_⟩
            · rw [← l.length]
              exact Nat.lt_of_lt_of_le hz (by decide)
            · exact h2 .non w2 _ (stp_mutC st2 hk) (st2.mutC hk (l.append (.cons r2 .nil))) .non
          · exact h2.elim
        · exact h2.elim
      · exact h1.elim
theorem p_ext (hK : g.K = X.K) (ho : PE X o (tE g W eo)) (ha : PE X a (tE g W ea)) (hbase : attributeBase o "extend" X.env (eval o X.env) = eval o X.env := by rfl)
    (hfew : ((backTo cpos (starEach [a] X.env)).all (fun x => !x.1) && (backToKw cpos (keywordEach [] X.env)).all (fun x => x.1.isSome) && decide ([a].length + ([] : List Keyword).length + (if ([] : List Keyword).isEmpty then 0 else 1) < 30)) = true := by rfl)
    (hline : (apos.endLine == cpos.line) = true := by rfl) (hs : starEach [a] X.env = (false, eval a X.env) :: starEach [] X.env := by rfl) (hplain : (backTo cpos (starEach [] X.env)).any (·.1) = false := by rfl) :
    PE X (.Call (.Attribute o "extend" apos) [a] [] cpos) (tE g W (eExt eo ea)) :=
  (pe_bm PySem.F.plainAttrs_list PySem.F.slot_list_extend PySem.F.type_list_extend mt_extend ho (pa_cons ha pa_nil hs) hbase hfew hline hs hplain).imp fun σ H Q ⟨w, Γ, S, st, en, h⟩ =>
    tX_seq st en h fun u H1 x S1 w1 s1 st1 en1 r1 h1 => by
      split at h1
      · rename_i ds0 e0
        refine ⟨rd_ty hK st1 r1 e0, tX_seq st1 en1 h1 fun v H2 y S2 w2 s2 st2 en2 r2 h2 => ?_⟩
        split at h2
        · split at h2
          · rename_i ds e
            obtain ⟨hz, h2⟩ := ite_q h2
            obtain ⟨p, vs, rfl, hk, hp, l⟩ := cell_at st2 (r1.step s2) e
            cases r2 with
            | lst q1 q2 q3 =>
              refine ⟨p, _, vs, _, rfl, rfl, hp, q1, ?_, ?_⟩
              · rw [← l.length, ← q3.length]
                exact cap_le hz
              · exact h2 .non w2 _ (stp_mutC st2 hk) (st2.mutC hk (l.append q3)) .non
          · exact h2.elim
        · exact h2.elim
      · exact h1.elim
theorem RepL.dropLast {w : Wd} {H : Hp} {ds : List D} {vs : List V} (l : RepL g w H ds vs) : RepL g w H ds.dropLast vs.dropLast := by
  rw [List.dropLast_eq_take, List.dropLast_eq_take, l.length]
  exact RepL.take _ l
theorem p_pop (hK : g.K = X.K) (ho : PE X o (tE g W eo)) (hbase : attributeBase o "pop" X.env (eval o X.env) = eval o X.env := by rfl) (hline : (apos.endLine == cpos.line) = true := by rfl) :
    PE X (.Call (.Attribute o "pop" apos) [] [] cpos) (tE g W (ePop eo)) :=
  (pe_bm0 PySem.F.plainAttrs_list PySem.F.slot_list_pop PySem.F.type_list_pop mt_pop ho hbase hline).imp fun σ H Q ⟨w, Γ, S, st, en, h⟩ =>
    tX_seq st en h fun u H1 x S1 w1 s1 st1 en1 r1 h1 => by
      split at h1
      · split at h1
        · rename_i ds e
          split at h1
          · rename_i d ed
            obtain ⟨p, vs, rfl, hk, hp, l⟩ := cell_at st1 r1 e
            refine ⟨.inl ⟨rfl, vs, .inl (.inl hp)⟩, ?_⟩
            obtain ⟨v, hv, rv⟩ := l.get ed
            rw [l.length] at hv
            refine ⟨p, vs, v, rfl, rfl, hp, hv, ?_⟩
            exact h1 v w1 _ (stp_mutC st1 hk) (st1.mutC hk l.dropLast) (Rep.mut (.inl (List.mem_of_getElem? hk)) rv)
          · exact h1.elim
        · exact h1.elim
      · exact h1.elim
theorem ixN_set {ds : List D} {vs : List V} {w : Wd} {H : Hp} (l : RepL g w H ds vs) {j : Int} {n : Nat} (e : ixN ds.length j = some n) : ixN vs.length j = some n := by
  rw [← l.length]
  exact e
theorem s_set {tp : Pos} (ho : PE X o (tE cf.g cf.W eo)) (hi : PE X b (tE cf.g cf.W ei)) (ha : PE X a (tE cf.g cf.W ea)) (hs : swapsWithSole [.Subscript o b tp] a pos.line X.env = pure false := by rfl) (hw : swappedStores [.Subscript o b tp] a X.env = pure none := by rfl)
    (h1 : (assignEach [.Subscript o b tp] X.env).map (·.2) = [assign (.Subscript o b tp) X.env] := by rfl)
    (has : ∀ v, assign (.Subscript o b tp) X.env v = (do
      let ov ← holding [v] (eval o X.env)
      let iv ← holding [v, ov] (eval b X.env)
      standAt tp
      holding [v, ov, iv] (setItem ov iv v)
      release [v, ov, iv] []) := by intro _; rfl) : PS X (.Assign [.Subscript o b tp] a pos) (tS cf (sSet eo ei ea)) :=
  (ps_asg ha (pg_sub ho hi set_list has) hs hw h1).imp fun D σ H ⟨w, Γ, S, st, en, fr, h⟩ => tX_fl st en fr h fun u H1 x S1 w1 s1 st1 en1 fr1 r1 h1 => tX_fl st1 en1 fr1 h1 fun v H2 y S2 w2 s2 st2 en2 fr2 r2 h2 => tX_fl st2 en2 fr2 h2 fun z H3 i S3 w3 s3 st3 en3 fr3 r3 h3 => by
    split at h3
    · split at h3
      · rename_i ds e
        split at h3
        · rename_i n en'
          obtain ⟨p, vs, rfl, hk, hp, l⟩ := cell_at st3 (r2.step s3) e
          cases r3
          refine ⟨p, vs, _, n, rfl, rfl, hp, ixN_set l en', ?_⟩
          have sp := stp_mutC (o := .lst (vs.set n u)) st3 hk
          exact h3 σ w3 _ sp.le (fr3.stp sp) (st3.mutC hk (l.set ((r1.step s2).step s3) n)) (en3.step sp)
        · exact h3.elim
      · exact h3.elim
    · exact h3.elim
end

/-! ### return of new lists -/
section
variable {X : Cx} {cf : Cf} {a b c : Expr} {ea eb ec : Ev} {pos p2 : Pos}
/-- return name, the name's object of this call -/
theorem s_retC {i n0 : Nat} {x : Str} (hn : cf.w0.m.length = n0) (hN : X.N[i]? = some x := by rfl) (hv : Vis X.env.scope x := by first | exact Or.inl rfl | exact Or.inr (Or.inl rfl) | exact Or.inr (Or.inr rfl)) (hd : (x == ("__debug__" : Str)) = false := by decide) (hcd : (x == ("__classdict__" : Str)) = false := by decide) :
    PS X (.Return (some (.Name x p2)) pos) (tS cf (sRetC n0 i)) :=
  (ps_ret (pe_var (i := i) hN hv hd hcd)).imp fun D σ H ⟨w, Γ, S, so, en, fr, h⟩ => by
    subst hn
    unfold sRetC at h
    cases e1 : Γ[i]? with
    | none => rw [e1] at h; exact h.elim
    | some o =>
      cases o with
      | none => rw [e1] at h; exact h.elim
      | some x =>
        cases x with
        | d x => rw [e1] at h; exact h.elim
        | cell k =>
          cases e2 : S[k]? with
          | none => rw [e1] at h; simp only [e2] at h; exact h.elim
          | some o =>
            cases o with
            | none => rw [e1] at h; simp only [e2] at h; exact h.elim
            | some cl =>
              cases cl with
              | obj cn fs => rw [e1] at h; simp only [e2] at h; exact h.elim
              | refs ks => rw [e1] at h; simp only [e2] at h; exact h.elim
              | lst ds =>
                rw [e1] at h
                simp only [e2] at h
                obtain ⟨m, hd⟩ := w
                obtain ⟨av, hav, vs, hH, hl⟩ := so.cell k _ e2
                obtain ⟨v, hv, rv⟩ := en.val i _ e1
                have ev := rv.2 av hav
                subst ev
                refine ⟨_, hv, ?_⟩
                by_cases h0 : cf.w0.m.length ≤ k
                · simp only [if_pos h0] at h
                  have get : ∀ (j : Nat) (a : Addr), (m.set k none)[j]? = some (some a) → m[j]? = some (some a) := fun j a e => by
                    by_cases hj : k = j
                    · subst hj
                      rw [List.getElem?_set] at e
                      simp at e
                    · rw [List.getElem?_set_ne hj] at e
                      exact e
                  have h : (if cf.N = true then RtN cf ⟨m, hd⟩ H (.d (.lst ds)) (S.set k none) D.rt else RtP cf ⟨m, hd⟩ H (.d (.lst ds)) (S.set k none) D.rt) := h
                  have le : Le ⟨m, hd⟩ H ⟨m.set k none, hd⟩ H := le_gone
                  by_cases hNN : cf.N = true
                  · rw [if_pos hNN] at h
                    have le2 : Le ⟨m, hd⟩ H ⟨m.set k none, av :: hd⟩ H := le_sub fun b z => z.elim (fun z => by
                      rcases List.mem_or_eq_of_mem_set z with z | z
                      · exact .inl z
                      · cases z) fun z => by
                      rcases List.mem_cons.mp z with z | z
                      · exact .inl (by rw [z]; exact List.mem_of_getElem? hav)
                      · exact .inr z
                    have so1 : StOk cf.g ⟨m.set k none, hd⟩ (S.set k none) H := so.gone
                    have ehd : hd = cf.w0.hid := fr.hid
                    refine h av vs ⟨m.set k none, av :: hd⟩ H le2 ⟨fr.le.trans le2 (by rw [fr.hid]; exact fun _ z => z), by rw [ehd], ?_, fun j a hj e => fr.old j a hj (get j a e), fun j a hj e => fr.new j a hj (get j a e)⟩ (fr.new k av h0 hav) ⟨so1.len, fun j c e => ?_, so1.live, so1.inj, fun b z => ?_, so1.lo, fun p z => (so.tab p z).le le2 fun _ e _ => e⟩ hH (RepL.le le2 hl)
                    · show _ ≤ (m.set k none).length
                      rw [List.length_set]
                      exact fr.len
                    · have hj : k ≠ j := fun q => by
                        subst q
                        rw [List.getElem?_set] at e
                        simp at e
                      obtain ⟨b, h1, h2⟩ := so.cell j c (by rw [List.getElem?_set_ne hj] at e; exact e)
                      exact ⟨b, by show (m.set k none)[j]? = _; rw [List.getElem?_set_ne hj]; exact h1, h2.le le2 (fun _ _ _ q => q) fun i b _ z => get i b z⟩
                    · rcases List.mem_cons.mp z with z | z
                      · subst z
                        exact ⟨no_set so hav, vs, hH⟩
                      · exact so1.hid b z
                  · rw [if_neg hNN] at h
                    exact h _ ⟨m.set k none, hd⟩ H le ⟨fr.le.trans le (by rw [fr.hid]; exact fun _ z => z), fr.hid, by show _ ≤ (m.set k none).length; rw [List.length_set]; exact fr.len, fun j a hj e => fr.old j a hj (get j a e), fun j a hj e => fr.new j a hj (get j a e)⟩ so.gone (rep_gone so e2 hav (fun b z => by
                      rcases List.mem_or_eq_of_mem_set z with z | z
                      · exact z
                      · cases z) (no_set so hav))
                · simp only [if_neg h0] at h
                  exact h.elim
/-- return of a new list, where new lists are handed back -/
theorem s_retNew (hN : cf.N = true) (ha : PE X a (tN cf.g cf.W ea)) : PS X (.Return (some a) pos) (tS cf (sRet ea)) :=
  (ps_ret ha).imp fun D σ H ⟨w, Γ, S, so, en, fr, h⟩ => by
    refine ⟨w, Γ, S, so, en, ?_⟩
    unfold sRet at h
    cases e : ea Γ S with
    | bad => rw [e] at h; exact h
    | exc c x S1 =>
      rw [e] at h
      exact fun cls dx w' H' s st' r => h σ cls dx w' H' s.le (fr.stp s) st' (en.step s) r
    | ok x S1 =>
      rw [e] at h
      have h : (if cf.N = true then RtN cf w H x S1 D.rt else RtP cf w H x S1 D.rt) := h
      rw [if_pos hN] at h
      cases x with
      | cell k => exact h.elim
      | d x =>
        cases x with
        | lst ds =>
          intro p vs w' H' n st' hp l
          refine h p vs w' H' n.q.le ⟨fr.le.trans n.q.le (by rw [fr.hid]; exact fun _ z => z), by rw [n.hid, fr.hid], by rw [n.q.len]; exact fr.len, fun k a hk e => fr.old k a hk (n.q.old k a e), fun k a hk e => fr.new k a hk (n.q.old k a e)⟩ ?_ st' hp l
          cases q : cf.H0 p with
          | none => rfl
          | some o => exact absurd n.free (fr.le.trk p (by rw [q]; exact fun z => by cases z))
        | _ => exact h.elim
end

/-! ### a, b = x, y -/
section
variable {X : Cx} {cf : Cf} {a b c : Expr} {ea eb ec : Ev} {pos p2 px py pt pt2 : Pos} {kt k2 : Nat}
theorem RQN.out {g : Gx} {W : WX} {w : Wd} {σ : L2.St} {H : Hp} {r : R Val} {Q Q' : VK} (h : RQN g W w σ H r Q) (i : ∀ v H', Q v H' → Q' v H') : RQN g W w σ H r Q' := by
  cases r with
  | ok x S =>
    cases x with
    | cell k => exact h
    | d x =>
      cases x with
      | lst ds => exact fun p vs w' H' n a b c => i _ _ (h p vs w' H' n a b c)
      | _ => exact h
  | exc c x S => exact h
  | bad => exact h
theorem s_parOf {st : Stmt} {i j : Nat} {ta tb : TE} (hps : PS X st (tPar i j (tCons (tE cf.g cf.W ea) (tCons (tE cf.g cf.W eb) tNil)))) : PS X st (tS cf (sPar i j ea eb)) :=
  hps.imp fun D σ H ⟨w, Γ, S, so, en, fr, h⟩ => tX_fl so en fr h fun u H1 x S1 w1 s1 st1 en1 fr1 r1 h1 => tX_fl st1 en1 fr1 h1 fun v H2 y S2 w2 s2 st2 en2 fr2 r2 h2 =>
    ⟨u, v, rfl, FQ.nxQ h2 st2 ((en2.set i (r1.step s2)).set j r2) fr2⟩
theorem s_par {i j : Nat} {x y : Str} (hc : X.calm = true) (hN : X.N.Nodup) (hi : X.N[i]? = some x) (hj : X.N[j]? = some y) (hij : i ≠ j)
    (hx : X.env.scope.names.lookup x = some .local) (hy : X.env.scope.names.lookup y = some .local) (ha : PE X a (tE cf.g cf.W ea)) (hb : PE X b (tE cf.g cf.W eb))
    (hw : swappedStores [.Tuple [.Name x px, .Name y py] kt pt] (.Tuple [a, b] k2 pt2) X.env = pure (some [x, y]))
    (hs : swapsWithSole [.Tuple [.Name x px, .Name y py] kt pt] (.Tuple [a, b] k2 pt2) pos.line X.env = pure false := by rfl)
    (hs1 : starEach [a, b] X.env = (false, eval a X.env) :: starEach [b] X.env := by rfl) (hs2 : starEach [b] X.env = (false, eval b X.env) :: starEach [] X.env := by rfl) :
    PS X (.Assign [.Tuple [.Name x px, .Name y py] kt pt] (.Tuple [a, b] k2 pt2) pos) (tS cf (sPar i j ea eb)) :=
  s_parOf (ta := tE cf.g cf.W ea) (tb := tE cf.g cf.W eb) (ps_par hc hN hi hj hij hx hy (pa_cons ha (pa_cons hb pa_nil hs2) hs1) hw hs)
/-- name, other = a new list, a constant -/
theorem s_parN {i j : Nat} {x y : Str} {d : D} {v : V} (hc : X.calm = true) (hN : X.N.Nodup) (hi : X.N[i]? = some x) (hj : X.N[j]? = some y) (hij : i ≠ j)
    (hx : X.env.scope.names.lookup x = some .local) (hy : X.env.scope.names.lookup y = some .local) (ha : PE X a (tN cf.g cf.W ea)) (hb : PE X b (tC v)) (hr : ∀ w H, Rep cf.g w H d v)
    (hw : swappedStores [.Tuple [.Name x px, .Name y py] kt pt] (.Tuple [a, b] k2 pt2) X.env = pure (some [x, y]))
    (hs : swapsWithSole [.Tuple [.Name x px, .Name y py] kt pt] (.Tuple [a, b] k2 pt2) pos.line X.env = pure false := by rfl)
    (hs1 : starEach [a, b] X.env = (false, eval a X.env) :: starEach [b] X.env := by rfl) (hs2 : starEach [b] X.env = (false, eval b X.env) :: starEach [] X.env := by rfl) :
    PS X (.Assign [.Tuple [.Name x px, .Name y py] kt pt] (.Tuple [a, b] k2 pt2) pos) (tS cf (sSeq (sNew i ea) (sAsg j (eC d)))) :=
  (ps_par hc hN hi hj hij hx hy (pa_cons ha (pa_cons hb pa_nil hs2) hs1) hw hs).imp fun D σ H ⟨w, Γ, S, so, en, fr, h⟩ => by
    have q : tN cf.g cf.W ea σ H fun u H1 => D.nx ((σ.set i (some u)).set j (some v)) H1 := by
      refine new_q (D := { nx := fun σ' H' => D.nx (σ'.set j (some v)) H', rt := D.rt, bk := D.bk, ct := D.ct }) ⟨w, Γ, S, so, en, fr, ?_⟩
      unfold sSeq at h
      cases e : sNew i ea Γ S with
      | nx Γ1 S1 =>
        rw [e] at h
        intro σ' w' H' l f st' en'
        exact h (σ'.set j (some v)) w' H' l f st' (en'.set j (x := .d d) (hr w' H'))
      | bk Γ1 S1 => rw [e] at h; exact h
      | ct Γ1 S1 => rw [e] at h; exact h
      | rt x S1 => rw [e] at h; exact h
      | exc c x Γ1 S1 => rw [e] at h; exact h
      | bad => rw [e] at h; exact h
    obtain ⟨w1, Γ1, S1, a1, a2, a3⟩ := q
    refine ⟨w1, Γ1, S1, a1, a2, ?_⟩
    exact RQN.out a3 fun u H1 z => ⟨u, v, rfl, z⟩
/-- the same by a tuple -/
theorem s_parT {i j : Nat} {x y : Str} (hc : X.calm = true) (hN : X.N.Nodup) (hi : X.N[i]? = some x) (hj : X.N[j]? = some y)
    (hx : Loc X.env.scope x) (hy : Loc X.env.scope y) (ha : PE X a (tE cf.g cf.W ea)) (hb : PE X b (tE cf.g cf.W eb))
    (hfx : X.fn x = true ∨ X.env.scope.names.lookup x = some .local := by first | exact .inl rfl | exact .inr rfl | assumption) (hfy : X.fn y = true ∨ X.env.scope.names.lookup y = some .local := by first | exact .inl rfl | exact .inr rfl | assumption)
    (hs : swapsWithSole [.Tuple [.Name x px, .Name y py] kt pt] (.Tuple [a, b] k2 pt2) pos.line X.env = pure false := by rfl) (hw : swappedStores [.Tuple [.Name x px, .Name y py] kt pt] (.Tuple [a, b] k2 pt2) X.env = pure none := by rfl)
    (hs1 : starEach [a, b] X.env = (false, eval a X.env) :: starEach [b] X.env := by rfl) (hs2 : starEach [b] X.env = (false, eval b X.env) :: starEach [] X.env := by rfl) :
    PS X (.Assign [.Tuple [.Name x px, .Name y py] kt pt] (.Tuple [a, b] k2 pt2) pos) (tS cf (sPar i j ea eb)) :=
  (ps_asg (pe_tup (pa_cons ha (pa_cons hb pa_nil hs2) hs1)) (pg_tup hc (pgs_cons (pg_name hN hi hx hfx) (pgs_cons (pg_name hN hj hy hfy) pgs_nil))) hs hw).imp fun D σ H ⟨w, Γ, S, so, en, fr, h⟩ =>
    tX_fl so en fr h fun u H1 x S1 w1 s1 st1 en1 fr1 r1 h1 => tX_fl st1 en1 fr1 h1 fun v H2 y S2 w2 s2 st2 en2 fr2 r2 h2 => by
      refine ⟨by show 2 ≤ sizeLine; decide, fun p hp => ⟨p, [u, v], rfl, .inl (.inl upd_same), rfl, u, [v], rfl, v, [], rfl, rfl, ?_⟩⟩
      have sp := step_new (o := .tup [u, v]) st2 hp
      exact h2 _ w2 _ sp.le (fr2.stp sp) (st2.new hp) (((en2.step sp).set i ((r1.step s2).step sp)).set j (r2.step sp))
end

/-! ### defs -/
def spD (g : Gx) (d : List Val → Store → R Val) (n : Nat) (N : Bool) : Sp := fun vs H Q E => vs.length = n ∧ ∃ w S xs, StOk g w S H ∧ RepVs g w H xs vs ∧
  (if N = true then RQN g (fun c d _ H' => E c d H') w [] H (d xs S) Q else RQ g (fun c d _ H' => E c d H') (RepV g) w [] H (d xs S) Q)
/-- a def of the text, by its denotation -/
def Fn (P : Program) (w : World) (K : PySem.W.Frag) (mg : Str → Option Value) (base : Heap) (g : Gx) (k : Nat) (x : Str) (ps : List Str) (d : List Val → Store → R Val) (N : Bool) : Prop :=
  ∃ (f : Addr) (fd : FuncData), mg x = some (.ref f) ∧ PySem.W.keepIn K (.ref f) = true ∧ Binds K fd ps [] ∧ FnOk P w K mg base (L2.CX P w) k f fd ps (spD g d ps.length N)
theorem Fn.mono {P : Program} {w : World} {K : PySem.W.Frag} {mg : Str → Option Value} {base : Heap} {g : Gx} {j k : Nat} {x : Str} {ps : List Str} {d : List Val → Store → R Val} {N : Bool} (F : Fn P w K mg base g j x ps d N) (h : j ≤ k) : Fn P w K mg base g k x ps d N :=
  let ⟨f, fd, a, b, c, e⟩ := F
  ⟨f, fd, a, b, c, e.mono h⟩
def fin (n0 : Nat) (x : Val) (S' : Store) : R Val := match x with
  | .d d => .ok (.d d) (S'.take n0)
  | .cell k => if k < n0 then .ok (.cell k) (S'.take n0) else .bad
def finF (n0 : Nat) (f : F) : R Val := match f with
  | .nx _ S' => fin n0 (.d .non) S'
  | .rt x S' => fin n0 x S'
  | .exc c x _ S' => .exc c x (S'.take n0)
  | _ => .bad
/-- a def's denotation by its body's; extra: the slots that are no parameters -/
def funD (extra : Nat) (body : Nat → Sv) : List Val → Store → R Val := fun xs S => finF S.length (body S.length (xs.map some ++ List.replicate extra none) S)
section
variable {X : Cx} {g : Gx} {W : WX} {e : Expr} {es : List Expr} {er : Env → Store → R (List Val)} {pos p : Pos} {x : Str} {ps : List Str} {d : List Val → Store → R Val} {k j : Nat}
theorem RQ.wish {α β : Type} {ρ : Wd → Hp → α → β → Prop} {w : Wd} {H : Hp} {r : R α} {Q : β → Hp → Prop} {W W' : WX} {σ σ' : L2.St} (h : RQ g W ρ w σ H r Q) (i : ∀ c d H, W c d σ H → W' c d σ' H) : RQ g W' ρ w σ' H r Q := by
  cases r with
  | ok x S => exact h
  | exc c x S => exact fun cls dx w' H' a b z => i _ _ _ (h cls dx w' H' a b z)
  | bad => exact h
theorem RQN.wish {w : Wd} {H : Hp} {r : R Val} {Q : VK} {W W' : WX} {σ σ' : L2.St} (h : RQN g W w σ H r Q) (i : ∀ c d H, W c d σ H → W' c d σ' H) : RQN g W' w σ' H r Q := by
  cases r with
  | ok x S =>
    cases x with
    | cell k => exact h
    | d x =>
      cases x with
      | lst ds => exact h
      | _ => exact h
  | exc c x S => exact fun cls dx w' H' a b z => i _ _ _ (h cls dx w' H' a b z)
  | bad => exact h
theorem len_of {α : Type} {w : Wd} {H : Hp} {xs : List Val} {vs : List V} (r : RepVs g w H xs vs) : xs.length = vs.length := r.length
/-- a call of a def -/
theorem p_call (F : Fn X.prog X.w X.K X.mg X.base g k x ps d false) (hr : Room j X.A) (hkj : k ≤ j) (hg : Gl X x) (tk : Takes X W) (hl : (e :: es).length = ps.length) (hel : ∀ Γ S xs S', er Γ S = .ok xs S' → xs.length = ps.length) (ha : PA X (e :: es) (tA g W er))
    (hdb : (x == ("__debug__" : Str)) = false := by decide) (he : starEach (e :: es) X.env = (false, eval e X.env) :: starEach es X.env := by rfl) (hpl : (backTo pos (starEach es X.env)).any (·.1) = false := by rfl) :
    PE X (.Call (.Name x p) (e :: es) [] pos) (tE g W (eCall d er)) := by
  obtain ⟨f, fd, hm, hk, hb, FO⟩ := F
  refine (pe_callS FO (hr.mono hkj) hg hm hk hb (fun σ => passAt tk σ) ha hdb he hpl).imp fun σ H Q ⟨w, Γ, S, st, en, h⟩ => ?_
  refine ⟨w, Γ, S, st, en, ?_⟩
  unfold eCall at h
  cases q : er Γ S with
  | exc c z S1 => rw [q] at h; exact h
  | bad => rw [q] at h; exact h
  | ok xs S1 =>
    rw [q] at h
    exact fun vs w1 H1 s1 st1 r1 => ⟨by rw [← r1.length]; exact hel Γ S xs S1 q, w1, S1, xs, st1, r1, by
      rw [if_neg Bool.false_ne_true]
      exact (RQ.to (r := d xs S1) h s1).wish fun _ _ _ z => z⟩
theorem p_callNew (F : Fn X.prog X.w X.K X.mg X.base g k x ps d true) (hr : Room j X.A) (hkj : k ≤ j) (hg : Gl X x) (tk : Takes X W) (hl : (e :: es).length = ps.length) (hel : ∀ Γ S xs S', er Γ S = .ok xs S' → xs.length = ps.length) (ha : PA X (e :: es) (tA g W er))
    (hdb : (x == ("__debug__" : Str)) = false := by decide) (he : starEach (e :: es) X.env = (false, eval e X.env) :: starEach es X.env := by rfl) (hpl : (backTo pos (starEach es X.env)).any (·.1) = false := by rfl) :
    PE X (.Call (.Name x p) (e :: es) [] pos) (tN g W (eCall d er)) := by
  obtain ⟨f, fd, hm, hk, hb, FO⟩ := F
  refine (pe_callS FO (hr.mono hkj) hg hm hk hb (fun σ => passAt tk σ) ha hdb he hpl).imp fun σ H Q ⟨w, Γ, S, st, en, h⟩ => ?_
  refine ⟨w, Γ, S, st, en, ?_⟩
  unfold eCall at h
  cases q : er Γ S with
  | exc c z S1 => rw [q] at h; exact h
  | bad => rw [q] at h; exact h
  | ok xs S1 =>
    rw [q] at h
    exact fun vs w1 H1 s1 st1 r1 => ⟨by rw [← r1.length]; exact hel Γ S xs S1 q, w1, S1, xs, st1, r1, by
      rw [if_pos rfl]
      exact (RQN.to (r := d xs S1) h s1).wish fun _ _ _ z => z⟩
theorem eNil_len (Γ : Env) (S : Store) (xs : List Val) (S' : Store) (h : eNil Γ S = .ok xs S') : xs.length = 0 := by
  cases h
  rfl
theorem eCons_len {a : Ev} {r : Env → Store → R (List Val)} {n : Nat} (hr : ∀ Γ S xs S', r Γ S = .ok xs S' → xs.length = n) (Γ : Env) (S : Store) (xs : List Val) (S' : Store) (h : eCons a r Γ S = .ok xs S') : xs.length = n + 1 := by
  unfold eCons at h
  cases e : a Γ S with
  | exc c z S1 => rw [e] at h; cases h
  | bad => rw [e] at h; cases h
  | ok x S1 =>
    rw [e] at h
    have h : (r Γ S1).bind (fun xs S2 => .ok (x :: xs) S2) = .ok xs S' := h
    cases e2 : r Γ S1 with
    | exc c z S1 => rw [e2] at h; cases h
    | bad => rw [e2] at h; cases h
    | ok ys S2 =>
      rw [e2] at h
      cases h
      exact congrArg (· + 1) (hr Γ S1 ys _ e2)
end
/-- a def hands back a list alone -/
theorem Fn.plain {P : Program} {w : World} {K : PySem.W.Frag} {mg : Str → Option Value} {base : Heap} {g : Gx} {k : Nat} {x : Str} {ps : List Str} {d : List Val → Store → R Val} (F : Fn P w K mg base g k x ps d true) (hl : ∀ xs S y S', d xs S = .ok y S' → ∃ ds, y = .d (.lst ds)) : Fn P w K mg base g k x ps d false := by
  obtain ⟨f, fd, a, b, c, e⟩ := F
  refine ⟨f, fd, a, b, c, e.imp fun vs H Q E ⟨h1, w, S, xs, h2, h3, h4⟩ => ⟨h1, w, S, xs, h2, h3, ?_⟩⟩
  rw [if_pos rfl]
  rw [if_neg Bool.false_ne_true] at h4
  exact RQN.plain h4 (hl xs S) fun a z => h2.hidN z
end Pd

namespace Pd
open PySem PySem.Spec PyProof.Rows L2
theorem le_takeL {g : Gx} {m : List (Option Addr)} {h : List Addr} {H : Hp} {k : Nat} : Le ⟨m, h⟩ H ⟨m.take k, h⟩ H := le_take
theorem start_env {g : Gx} {w : Wd} {H : Hp} {N : List Str} {xs : List Val} {vs : List V} {extra : Nat} (r : RepVs g w H xs vs) (hN : N.length = vs.length + extra) : EnvOk g w (xs.map some ++ List.replicate extra none) (L2.start N vs) H := by
  unfold L2.start
  have e : N.length - vs.length = extra := by omega
  rw [e]
  have rl := r.length
  refine ⟨by simp [rl], fun i x h => ?_⟩
  by_cases hi : i < xs.length
  · rw [List.getElem?_append_left (by simpa using hi), List.getElem?_map] at h
    rw [List.getElem?_append_left (by simpa using (by omega : i < vs.length)), List.getElem?_map]
    cases q : xs[i]? with
    | none => rw [q] at h; cases h
    | some y =>
      rw [q] at h
      cases h
      obtain ⟨v, h1, h2⟩ := r.get q
      exact ⟨v, by rw [h1] <;> rfl, h2⟩
  · rw [List.getElem?_append_right (by simpa using hi), List.getElem?_replicate] at h
    split at h <;> cases h
theorem fq_rtP {cf : Cf} {w : Wd} {H : Hp} {x : Val} {S' : Store} {D : Ends} (hN : cf.N = false) (h : RtP cf w H x S' D.rt) : FQ cf w H (.rt x S') D := by
  have e : FQ cf w H (.rt x S') D = (if cf.N = true then RtN cf w H x S' D.rt else RtP cf w H x S' D.rt) := rfl
  rw [e, if_neg (by rw [hN]; exact Bool.false_ne_true)]
  exact h
theorem fq_rtN {cf : Cf} {w : Wd} {H : Hp} {x : Val} {S' : Store} {D : Ends} (hN : cf.N = true) (h : RtN cf w H x S' D.rt) : FQ cf w H (.rt x S') D := by
  have e : FQ cf w H (.rt x S') D = (if cf.N = true then RtN cf w H x S' D.rt else RtP cf w H x S' D.rt) := rfl
  rw [e, if_pos hN]
  exact h
def FnX (P : Program) (w : World) (K : PySem.W.Frag) (mg : Str → Option Value) (base : Heap) (g : Gx) (k : Nat) (x : Str) (ps : List Str) (d : List Val → Store → R Val) (N : Bool) (f : Addr) (fd : FuncData) : Prop :=
  mg x = some (.ref f) ∧ PySem.W.keepIn K (.ref f) = true ∧ Binds K fd ps [] ∧ FnOk P w K mg base (L2.CX P w) k f fd ps (spD g d ps.length N)
theorem body_spD {P : Program} {w : World} {K : PySem.W.Frag} {mg : Str → Option Value} {base : Heap} {g : Gx} {qual : Str} {st : Stmt} {f : Addr} {N : List Str} {np k extra : Nat} {cdv : Value} (Nn : Bool) (body : Nat → Sv) (hx : N.length = np + extra)
    (hbody : ∀ (A : Around) (outer : List PySem.Env) (s : Shared) (H : Hp) (E : XK), Room k (A.deeper (envOfC qual (defScope st) s.heap.objs.size f cdv)) → ∀ w0 : Wd,
      PSs (cxOf (L2.CX P w) P w K mg base N qual (defScope st) f cdv A outer s H E) (defBody st) (tS ⟨g, fun c d _ H' => E c d H', w0, H, Nn⟩ (body w0.m.length)))
    (A : Around) (outer : List PySem.Env) (s : Shared) (H : Hp) (vs : List V) (Q : VK) (E : XK) (hr : Room k (A.deeper (envOfC qual (defScope st) s.heap.objs.size f cdv))) (hsp : spD g (funD extra body) np Nn vs H Q E) :
    ∃ t, PSs (cxOf (L2.CX P w) P w K mg base N qual (defScope st) f cdv A outer s H E) (defBody st) t ∧ t { nx := fun _ H' => Q .non H', rt := Q } (L2.start N vs) H := by
  obtain ⟨hl, w0, S, xs, so, rv, h⟩ := hsp
  refine ⟨_, hbody A outer s H E hr w0, w0, xs.map some ++ List.replicate extra none, S, so, start_env rv (by rw [hl]; exact hx), ⟨.refl _ _, rfl, Nat.le_refl _, fun _ _ _ e => e, fun k a hk e => ?_⟩, ?_⟩
  · rw [List.getElem?_eq_none hk] at e
    cases e
  have hn : w0.m.length = S.length := so.len
  have key : ∀ (w' : Wd) (H' : Hp), Le w0 H w' H' → Fr w0 H w' H' w0.hid → ∀ S', StOk g w' S' H' → Stp w0 H ⟨w'.m.take S.length, w0.hid⟩ H' ∧ StOk g ⟨w'.m.take S.length, w0.hid⟩ (S'.take S.length) H' ∧ Le w' H' ⟨w'.m.take S.length, w0.hid⟩ H' := fun w' H' le fr S' st' => by
    obtain ⟨m, hd⟩ := w'
    have eh : hd = w0.hid := fr.hid
    subst eh
    have l2 : Le ⟨m, w0.hid⟩ H' ⟨m.take S.length, w0.hid⟩ H' := le_take
    refine ⟨⟨le.trans l2 fun _ z => z, rfl, ?_, fun j a e => ?_⟩, st'.take, l2⟩
    · have := fr.len
      show (m.take S.length).length = _
      rw [List.length_take, ← hn]
      have : w0.m.length ≤ m.length := fr.len
      omega
    · have e : (m.take S.length)[j]? = some (some a) := e
      rw [List.getElem?_take] at e
      split at e
      · exact fr.old j a (by omega) e
      · cases e
  unfold funD at h
  rw [← hn] at h
  generalize body w0.m.length (xs.map some ++ List.replicate extra none) S = fl at h ⊢
  cases Nn with
  | false =>
    rw [if_neg Bool.false_ne_true] at h
    cases fl with
    | nx Γ' S' =>
      intro σ' w' H' le fr st' en'
      obtain ⟨k1, k2, k3⟩ := key w' H' le fr S' st'
      rw [hn] at h
      exact h .non _ H' k1 k2 .non
    | rt x S' =>
      refine fq_rtP rfl ?_
      intro v w' H' le fr st' r
      obtain ⟨k1, k2, k3⟩ := key w' H' le fr S' st'
      rw [hn] at h
      cases x with
      | d d => exact h v _ H' k1 k2 (Rep.le k3 r)
      | cell c =>
        have h : RQ g _ (RepV g) w0 [] H (if c < S.length then .ok (.cell c) (S'.take S.length) else .bad) Q := h
        by_cases hc : c < S.length
        · rw [if_pos hc] at h
          refine h v _ H' k1 k2 ⟨by rw [k1.len, hn]; exact hc, fun a e => r.2 a ?_⟩
          have e : (w'.m.take S.length)[c]? = some (some a) := e
          rw [List.getElem?_take, if_pos hc] at e
          exact e
        · rw [if_neg hc] at h
          exact h.elim
    | bk Γ' S' => exact h.elim
    | ct Γ' S' => exact h.elim
    | bad => exact h.elim
    | exc c x Γ' S' =>
      intro σ' cls dx w' H' le fr st' en' er
      obtain ⟨k1, k2, k3⟩ := key w' H' le fr S' st'
      rw [hn] at h
      refine h cls dx _ H' k1 k2 ?_
      obtain ⟨C, e1, e2, e3⟩ := er
      refine ⟨C, e1, e2, e3.elim .inl fun ⟨z0, d, v, z1, z2, z3, z4⟩ => .inr ⟨z0, d, v, z1, z2, k3.navk z2 z3, Rep.le k3 z4⟩⟩
  | true =>
    rw [if_pos rfl] at h
    cases fl with
    | nx Γ' S' => exact h.elim
    | rt x S' =>
      refine fq_rtN rfl ?_
      cases x with
      | cell c =>
        have h : RQN g _ w0 [] H (if c < w0.m.length then .ok (.cell c) (S'.take w0.m.length) else .bad) Q := h
        by_cases hc : c < w0.m.length
        · rw [if_pos hc] at h
          exact h.elim
        · rw [if_neg hc] at h
          exact h.elim
      | d d =>
        cases d with
        | lst ds =>
          intro p vs' w' H' le fr h0 st' hp l
          obtain ⟨m, hd⟩ := w'
          have eh : hd = p :: w0.hid := fr.hid
          subst eh
          have l2 : Le ⟨m, p :: w0.hid⟩ H' ⟨m.take S.length, p :: w0.hid⟩ H' := le_take
          rw [hn] at h
          refine h p vs' ⟨m.take S.length, p :: w0.hid⟩ H' ⟨⟨le.trans l2 fun _ z => List.mem_cons_of_mem _ z, ?_, fun j a e => ?_⟩, rfl, h0⟩ st'.take hp (RepL.le l2 l)
          · show (m.take S.length).length = _
            have : w0.m.length ≤ m.length := fr.len
            rw [List.length_take, ← hn]
            omega
          · have e : (m.take S.length)[j]? = some (some a) := e
            rw [List.getElem?_take] at e
            split at e
            · exact fr.old j a (by show j < w0.m.length; omega) e
            · cases e
        | _ => exact h.elim
    | bk Γ' S' => exact h.elim
    | ct Γ' S' => exact h.elim
    | bad => exact h.elim
    | exc c x Γ' S' =>
      intro σ' cls dx w' H' le fr st' en' er
      obtain ⟨k1, k2, k3⟩ := key w' H' le fr S' st'
      rw [hn] at h
      refine h cls dx _ H' k1 k2 ?_
      obtain ⟨C, e1, e2, e3⟩ := er
      exact ⟨C, e1, e2, e3.elim .inl fun ⟨z0, d, v, z1, z2, z3, z4⟩ => .inr ⟨z0, d, v, z1, z2, k3.navk z2 z3, Rep.le k3 z4⟩⟩
theorem fn_mkX {P : Program} {w : World} {K : PySem.W.Frag} {mg : Str → Option Value} {base : Heap} {g : Gx} {x qual : Str} {st : Stmt} {f : Addr} {fd : FuncData} {N ps : List Str} {k extra : Nat} (Nn : Bool) (body : Nat → Sv) (F : Fun K x qual st f fd) (SC : FnScope N ps (defScope st)) (hm : mg x = some (.ref f)) (hb : Binds K fd ps []) (hx : N.length = ps.length + extra)
    (hbody : ∀ (cdv : Value) (A : Around) (outer : List PySem.Env) (s : Shared) (H : Hp) (E : XK), Room k (A.deeper (envOfC qual (defScope st) s.heap.objs.size f cdv)) → ∀ w0 : Wd,
      PSs (cxOf (L2.CX P w) P w K mg base N qual (defScope st) f cdv A outer s H E) (defBody st) (tS ⟨g, fun c d _ H' => E c d H', w0, H, Nn⟩ (body w0.m.length))) : FnX P w K mg base g (k + 1) x ps (funD extra body) Nn f fd := by
  exact ⟨hm, F.kp, hb, F.okX SC (fun vs H Q E h => h.1) fun cdv A outer s H vs Q E hr hsp => body_spD (np := ps.length) Nn body hx (hbody cdv) A outer s H vs Q E hr hsp⟩
/-- the law's promise from its denotation -/
def spLaw (K : PySem.W.Frag) (T : List (Addr × Str)) : Sp := fun vs H Q _ => ∃ (a : Addr) (ns : List Int), vs = [.ref a] ∧ SqL K H a (ns.map V.int) ∧ ns.length ≤ 63 ∧ (∀ p ∈ T, H p.1 = some (.tbl #[])) ∧ ∀ H', Q (.bl true) H'
theorem law_sp {g : Gx} {K : PySem.W.Frag} {d : List Val → Store → R Val} (hK : g.K = K) (hd : ∀ ns : List Int, ns.length ≤ 63 → d [.d (.scr ns)] [] = .ok (.d (.bl true)) []) (vs : List V) (H : Hp) (Q : VK) (E : XK) (h : spLaw K g.T vs H Q E) : spD g d 1 false vs H Q E := by
  obtain ⟨a, ns, rfl, hs, hl, hT, q⟩ := h
  refine ⟨rfl, ⟨[], []⟩, [], [.d (.scr ns)], ⟨rfl, fun k c e => by simp at e, fun k a e => by simp at e, fun j k a e => by simp at e, fun a z => by simp at z, fun r ks e => by simp at e, fun p z => ⟨#[], hT p z, True.intro, fun y => by rcases y with y | y <;> simp at y, fun pos cv e => by simp [codeAmong] at e⟩⟩, .cons ?_ .nil, ?_⟩
  · rw [← hK] at hs
    refine .scr ?_
    rcases hs with hs | hs
    · exact .inl ⟨hs, fun z => by rcases z with z | z <;> simp at z⟩
    · exact .inr hs
  · rw [if_neg Bool.false_ne_true, hd ns hl]
    intro v w' H' _ _ r
    cases r
    exact q H'
end Pd

/-! ### enumerate of a tuple, slices backward, sorted of a tuple: at the library's level -/
namespace Pd
open PySem PySem.Spec PyProof.Rows L2

section
variable {prog : Program} {w : World} {A : Around} {E : Value → Shared → Prop} {s : Shared}
set_option maxHeartbeats 1000000 in
theorem meets_enumerate_new1 {v : Value} {o : Obj} {H : Heap → Prop} (B : Begins v o H) :
    Meets (Builtin.«enumerate.__new__» ⟨[.type "enumerate", v], []⟩) (fun _ R s => H s.heap ∧
      R (.ok (.ret (.ref (s.heap.push o).objs.size))) { s with heap := (s.heap.push o).push { cls := .type "enumerate", data := .fields #[.none, .bool false, .ref s.heap.objs.size, rawInt 0, .none, .none] } }) :=
  .of_wp fun prog w A R s h => by
    obtain ⟨hp, g, d, tk, os⟩ := s; obtain ⟨h1, h⟩ := h
    have hsub := sub_enumerate
    have q1 : ∀ {A' : Around} {E : Value → Shared → Prop} {Q : Value → Shared → Prop}, Q (.ref hp.objs.size) ⟨hp.push o, g, d, tk, os⟩ → wpAny (model prog w) A' (pyIter v) Q E ⟨hp, g, d, tk, os⟩ :=
      fun q => B.iter prog w _ _ ⟨hp, g, d, tk, os⟩ _ h1 q
    wp_walk using q1
    refine wpAny_stack_any fun st => wpAny_pure ?_
    split
    · rename_i c _ _ _ _ _
      cases (c == Value.type "enumerate")
      · wp_walk using q1
        exact ⟨_, rfl, h⟩
      · wp_walk using q1
        exact ⟨_, rfl, h⟩
    · wp_walk using q1
      exact ⟨_, rfl, h⟩
theorem enum_begins1 {v : Value} {o : Obj} {H : Heap → Prop} {Q : Value → Shared → Prop} (B : Begins v o H) (h1 : H s.heap)
    (h : ∀ h', IsEnum h' (s.heap.objs.size + 1) s.heap.objs.size 0 .none → h'.get? s.heap.objs.size = some o → h'.objs.size = s.heap.objs.size + 2 →
      (∀ b o, s.heap.get? b = some o → h'.get? b = some o) → Q (.ref (s.heap.objs.size + 1)) { s with heap := h' }) :
    wpAny (model prog w) A (call (.type "enumerate") [v]) Q E s := by
  refine callType_new F.called_enumerate (by decide) (F.typeCall_enumerate_1 _) (F.newCall_enumerate_1 _) (fun obj => F.args_object_init_2 obj _) F.entry_enumerate_new
    (meets_enumerate_new1 B) ⟨h1, ?_⟩
  have hz : (s.heap.push o).objs.size = s.heap.objs.size + 1 := Heap.size_push ..
  show _ ∧ _
  rw [hz]
  have he : IsEnum ((s.heap.push o).push { cls := .type "enumerate", data := .fields #[.none, .bool false, .ref s.heap.objs.size, rawInt 0, .none, .none] }) (s.heap.objs.size + 1) s.heap.objs.size 0 .none := by
    have := Heap.get?_push_size (s.heap.push o) (o := { cls := .type "enumerate", data := .fields #[.none, .bool false, .ref s.heap.objs.size, rawInt 0, .none, .none] }) rfl
    rw [hz] at this; exact this
  refine ⟨⟨_, he, rfl⟩, h _ he (Heap.get?_push_of_some _ (Heap.get?_push_size _ B.free)) (by rw [Heap.size_push, hz]) fun b o x => Heap.get?_push_of_some _ (Heap.get?_push_of_some _ x)⟩
theorem collect_tup {l : Addr} {vs : List Value} {Q : List Value → Shared → Prop} (hl : IsTup s.heap l vs.toArray)
    (h : Q vs { s with heap := (s.heap.push (seqObj "list" #[] 0)).update s.heap.objs.size (Obj.mapSeq (· ++ vs.toArray)) }) (hsz : vs.length ≤ sizeLine) :
    wpAny (model prog w) A (collect (.ref l)) Q E s := by
  obtain ⟨o, ho, hc, n, hd⟩ := id hl
  unfold collect
  refine wpAny_bind (wpAny_runValue (codeAny_builtin entry_proto_collect' ?_))
  show wpAny _ _ (do again (.builtin "list.__iadd__" ⟨[← newList [], .ref l], []⟩)) _ _ s
  refine wpAny_bind (wpAny_newList (wpAny_pure ⟨Code.quiet_builtin _ (by decide +kernel), codeAny_builtin entry_list_iadd' ?_⟩))
  show wpAny _ _ (Builtin.List.listExtendWith (.ref s.heap.objs.size) (.ref l) (.ref s.heap.objs.size)) _ _ { s with heap := s.heap.push (seqObj "list" #[] 0) }
  unfold Builtin.List.listExtendWith
  have ho' : (s.heap.push (seqObj "list" #[] 0)).get? l = some o := Heap.get?_push_of_some _ ho
  refine wpAny_bind (wpAny_typeOf (T := "tuple") ⟨o, ho', hc⟩ ?_)
  have ht : (Value.type "tuple" == Value.type "tuple") = true := by rfl
  rw [if_pos (by rw [ht]; simp)]
  refine wpAny_bind (listItems_at ho' hd ?_)
  refine wpAny_bind (listItems_at (xs := #[]) (n := 0) (Heap.get?_push_size _ rfl) rfl ?_)
  rw [if_neg (by simp)]
  refine wpAny_bind (listUpdate_at (xs := #[]) (n := 0) (Heap.get?_push_size _ rfl) rfl ?_ (Nat.zero_le _) (by show (#[] ++ vs.toArray).size ≤ sizeLine + 1; simp only [Array.size_append, List.size_toArray, List.length_nil]; omega))
  refine wpAny_pure ?_
  show wpAny (model prog w) A (do
      let o ← load s.heap.objs.size
      match o.data with
      | .seq xs _ => pure xs.toList
      | _ => unsupported "internal:collect") Q E { s with heap := (s.heap.push (seqObj "list" #[] 0)).update s.heap.objs.size (Obj.mapSeq (· ++ vs.toArray)) }
  refine wpAny_bind (wpAny_load (get?_update_seq (Heap.get?_push_size _ rfl) _) ?_)
  show wpAny _ _ (pure ((#[] : Array Value) ++ vs.toArray).toList) Q E _
  rw [show ((#[] : Array Value) ++ vs.toArray).toList = vs by simp]
  exact wpAny_pure h
open SrtO in
theorem sorted_ordT {l : Addr} {vs : List Value} {ltv : Value → Value → Bool} {Q : Value → Shared → Prop} (O : Swo ltv) (hl : IsTup s.heap l vs.toArray) (hz : vs.length ≤ sizeLine)
    (hS : 2 ≤ vs.length → ∀ (h₁ : Heap) (a : Addr), h₁.get? a = some (seqObj "list" vs.toArray 0) → (∀ b o, s.heap.get? b = some o → b ≠ a ∧ h₁.get? b = some o) → SortableO prog w A.in1.in1 { s with heap := h₁ } a vs ltv)
    (h : ∀ out : List Value, Srtd ltv out → Stb ltv out vs → Q (.ref (s.heap.objs.size + 1)) { s with heap := sortedAll s.heap vs out.toArray }) :
    wpAny (model prog w) A (call (.builtin "sorted") [.ref l]) Q E s := by
  refine Calls.call_function_entry kind_sorted plain_sorted entry_sorted (args_sorted1 _) ?_
  unfold Builtin.«sorted»
  refine wpAny_bind (m := checkCount "sorted" 1 1 _) (wpAny_pure ?_)
  refine wpAny_bind (collect_tup hl ?_ hz)
  refine wpAny_bind (wpAny_newList ?_ hz)
  have hsz : ((s.heap.push (seqObj "list" #[] 0)).update s.heap.objs.size (Obj.mapSeq (· ++ vs.toArray))).objs.size = s.heap.objs.size + 1 := by
    rw [Heap.size_update, size_push']
  have hoL : (((s.heap.push (seqObj "list" #[] 0)).update s.heap.objs.size (Obj.mapSeq (· ++ vs.toArray))).push (seqObj "list" vs.toArray 0)).get? (s.heap.objs.size + 1) = some (seqObj "list" vs.toArray 0) := by
    rw [← hsz]; exact Heap.get?_push_size _ rfl
  have keep : ∀ b o, s.heap.get? b = some o → b ≠ s.heap.objs.size + 1 ∧ (((s.heap.push (seqObj "list" #[] 0)).update s.heap.objs.size (Obj.mapSeq (· ++ vs.toArray))).push (seqObj "list" vs.toArray 0)).get? b = some o := fun b o q => by
    have hlt : b < s.heap.objs.size := Heap.lt_size q
    refine ⟨Nat.ne_of_lt (Nat.lt_succ_of_lt hlt), Heap.get?_push_of_some _ ?_⟩
    rw [Heap.get?_update_ne _ _ _ _ (Nat.ne_of_lt hlt)]
    exact Heap.get?_push_of_some _ q
  show wpAny _ _ _ _ _ { s with heap := ((s.heap.push (seqObj "list" #[] 0)).update s.heap.objs.size (Obj.mapSeq (· ++ vs.toArray))).push (seqObj "list" vs.toArray 0) }
  rw [hsz]
  refine wpAny_bind (wpAny_holding (wpAny_call_entry slot_list_sort ⟨_, hoL, rfl⟩ entry_list_sort (list_sort_ord O hoL hz (fun h2 => hS h2 _ _ hoL keep) fun out hs hb => ⟨_, rfl, ?_⟩) (args_list_sort _)))
  exact wpAny_pure ⟨_, rfl, h out hs hb⟩
end

/-! ### enumerate of a list or a tuple -/
def IteT (K : PySem.W.Frag) (a : Addr) : It :=
  ⟨fun i H => ∃ (xs : List V) (x : V), SqT K H a xs ∧ xs[i]? = some x, fun i H v H' => ∃ T x, v = .ref T ∧ H T = none ∧ H' = upd H T (.tup [.int (i : Nat), x]) ∧ ∀ xs, SqT K H a xs → xs[i]? = some x, fun i H => ∃ xs : List V, SqT K H a xs ∧ xs.length = i⟩
theorem turn_enumT {P : Program} {w : World} {K : PySem.W.Frag} {elts : List Expr} {kk : Nat} {tpos : Pos} (a e it : Addr) :
    Turn P w K (.Tuple elts kk tpos) (IteT K a) [e, it] e (fun i h => (∃ old, IsEnum h e it ((i : Nat) : Int) old) ∧ h.IsTupleIter it a i ∧ e ≠ it ∧ e ≠ a ∧ a ≠ it) where
  mem := by simp
  obj := fun i h st b hb => by
    obtain ⟨⟨old, he⟩, ⟨o, ho, hc, hd⟩, _⟩ := st
    have e' : b = e ∨ b = it := by simpa using hb
    rcases e' with z | z
    · rw [z]; exact ⟨_, he, fun v q => nomatch q⟩
    · rw [z]; exact ⟨o, ho, fun v q => by rw [hd] at q; cases q⟩
  keep := fun i h h' st k => let ⟨⟨old, he⟩, hi, hne⟩ := st; ⟨⟨old, k e (by simp) _ he⟩, hi.at fun o q => k it (by simp) o q, hne⟩
  item := by
    intro X hP hw hK hc i pins s σ H E I hf st hg
    subst hP hw hK
    obtain ⟨⟨old, he⟩, hit, hne, hea, hai⟩ := st
    obtain ⟨xs, x, hq, hx⟩ := hg
    obtain ⟨its, rv, p, hz⟩ := I.tuple hq
    obtain ⟨u, hu, ru⟩ := rv.get hx
    have hel : e < s.heap.objs.size := Heap.lt_size he
    have hil : it < s.heap.objs.size := by obtain ⟨_, q, _⟩ := hit; exact Heap.lt_size q
    have hal : a < s.heap.objs.size := by obtain ⟨_, q, _⟩ := p; exact Heap.lt_size q
    have Dr := Draws.tuple (prog := X.prog) (w := X.w) (A := X.A.in1) (I.ok.hd hc) it a hai its.toArray
    have hlen : i < its.toArray.size := by
      have := List.getElem?_eq_some_iff.mp hu
      obtain ⟨q, _⟩ := this
      simpa using q
    refine wpAny_pyNext_enum_itemD Dr he ⟨hit, p⟩ hlen hne (by simp [hne, hea]) fun x' h' tk px ho hit' hT hsz hk => ?_
    have ex : x' = u := by
      have q : its.toArray[i]? = some x' := px
      have q2 : its.toArray[i]? = some u := by simpa using hu
      rw [q] at q2
      exact Option.some.inj q2
    subst ex
    refine ⟨_, rfl, wpAny_letOwnedTupleGo_enum (s := { s with heap := h', toks := tk + 1 }) ho fun h'' he' sb => ?_⟩
    have hT2 : h''.get? s.heap.objs.size = some { cls := .type "tuple", data := .seq #[.int i tk, x'] } := (sb.2 _ (Nat.ne_of_gt hel)).trans hT
    have new : ObjOk X.prog X.w (upd H s.heap.objs.size (.tup [.int (i : Nat), x])) h'' s.heap.objs.size (.tup [.int (i : Nat), x]) :=
      ⟨by show 2 ≤ sizeLine; decide, [.int i tk, x'], .cons ⟨_, rfl⟩ (.cons ru .nil), ⟨_, hT2, rfl, _, rfl⟩⟩
    have I1 : Inv X pins σ (upd H s.heap.objs.size (.tup [.int (i : Nat), x])) { s with heap := h'', toks := tk + 1 } :=
      I.turnedNew (ch := [e, it]) (fun b ob hb q => (sb.2 b (fun z => hb (by simp [z]))).trans (hk b ob (fun z => hb (by simp [z])) (fun z => hb (by simp [z])) q)) hf (Nat.le_refl _) new
    refine ⟨.ref s.heap.objs.size, _, I1, rfl, ⟨_, x, rfl, I.hok.fresh (Nat.le_refl _), rfl, fun ys hy => by rw [I.tuple_inj hy hq]; exact hx⟩, ⟨⟨x', ?_⟩, hit'.1.at fun o q => (sb.2 it (Ne.symm hne)).trans q, hne, hea, hai⟩, fun b hb => ?_⟩
    · have e1 : ((i + 1 : Nat) : Int) = (i : Int) + 1 := by omega
      rw [e1]; exact he'
    · have hb' : b < s.heap.objs.size := by
        have e' : b = e ∨ b = it := by simpa using hb
        rcases e' with z | z
        · rw [z]; exact hel
        · rw [z]; exact hil
      rw [upd_ne (Nat.ne_of_lt hb')]
      exact (hf b hb).1
  done := by
    intro X hP hw hK hc i pins s σ H E I hf st hg
    subst hP hw hK
    obtain ⟨⟨old, he⟩, hit, hne, hea, hai⟩ := st
    obtain ⟨xs, hq, hx⟩ := hg
    obtain ⟨its, rv, p, hz⟩ := I.tuple hq
    obtain ⟨f0, f1, f2, f3, f4, f5⟩ := hf it (by simp)
    have hl := rv.length
    have Dr := Draws.tuple (prog := X.prog) (w := X.w) (A := X.A.in1) (I.ok.hd hc) it a hai its.toArray
    have ei : i = its.toArray.size := by
      simp only [List.size_toArray]
      omega
    exact wpAny_pyNext_enum_endD Dr he ⟨by rw [← ei]; exact hit, p⟩ fun h' eb => ⟨rfl, I.turned (t' := s.toks) (fun b o hb q => eb b o hb q) f0 f1 f3 f4 f5⟩
  self := fun A i s Q E st h => let ⟨⟨_, he⟩, _⟩ := st; wpAny_pyIter_enum he h
def iEnA (K : PySem.W.Frag) (ta : TA) : TI := fun σ H R => ta σ H fun vs H1 => ∃ a xs, vs = [.ref a] ∧ ((SqL K H1 a xs ∧ R (Ite K a) H1) ∨ (SqT K H1 a xs ∧ R (IteT K a) H1))
theorem pi_enA {X : Cx} {e : Expr} {ta : TA} {p pos tpos : Pos} {elts : List Expr} {kk : Nat} (hg : Gl X "enumerate") (hm : X.mg "enumerate" = none) (ha : PA X [e] ta) (hs : starEach [e] X.env = [(false, eval e X.env)] := by rfl) :
    PI X (.Tuple elts kk tpos) (.Call (.Name "enumerate" p) [e] [] pos) (iEnA X.K ta) := by
  refine ⟨fun pins s σ H R I h => ?_⟩
  refine Call_ (ld_blt I hg hm boot_enumerate (PyProof.Rows.callWith_type1 (thn (ha.run pos pins s σ H _ I h) fun us s1 ⟨vs, H1, I1, r1, q1⟩ => ?_) hs rfl))
  obtain ⟨a, xs, ex, q⟩ := q1
  subst ex
  cases r1 with
  | cons r rr =>
    cases rr
    cases r
    have fresh2 : ∀ b, b ∈ [s1.heap.objs.size + 1, s1.heap.objs.size] → FpOk X pins H1 b := fun b hb => by
      have e' : b = s1.heap.objs.size + 1 ∨ b = s1.heap.objs.size := by simpa using hb
      have hle : s1.heap.objs.size ≤ b := by
        rcases e' with z | z
        · rw [z]; exact Nat.le_add_right _ _
        · rw [z]; exact Nat.le_refl _
      exact I1.fpOk hle (I1.hok.fresh hle)
    rcases q with ⟨hq, q⟩ | ⟨hq, q⟩
    · obtain ⟨its, rv, p', hz⟩ := I1.list hq
      refine call_enumerate_list p'.isList fun h' he hit hsz hk => wpAny_pyIter_enum he ?_
      have I2 : Inv X pins σ H1 { s1 with heap := h' } := I1.kept (t' := s1.toks) hk
      exact ⟨s1.heap.objs.size + 1, [s1.heap.objs.size + 1, s1.heap.objs.size], _, _, H1, rfl, I2, turn_enum a (s1.heap.objs.size + 1) s1.heap.objs.size, ⟨⟨.none, he⟩, hit, Nat.succ_ne_self _⟩, fresh2, q⟩
    · obtain ⟨its, rv, p', hz⟩ := I1.tuple hq
      have hal : a < s1.heap.objs.size := by obtain ⟨_, q, _⟩ := p'; exact Heap.lt_size q
      refine enum_begins1 (begins_tuple a its.toArray) (show s1.heap.IsTuple a its.toArray from p') fun h' he hit hsz hk => wpAny_pyIter_enum he ?_
      have I2 : Inv X pins σ H1 { s1 with heap := h' } := I1.kept (t' := s1.toks) hk
      exact ⟨s1.heap.objs.size + 1, [s1.heap.objs.size + 1, s1.heap.objs.size], _, _, H1, rfl, I2, turn_enumT a (s1.heap.objs.size + 1) s1.heap.objs.size, ⟨⟨.none, he⟩, ⟨_, hit, rfl, rfl⟩, Nat.succ_ne_self _, Ne.symm (Nat.ne_of_lt (Nat.lt_succ_of_lt hal)), Nat.ne_of_lt hal⟩, fresh2, q⟩
section
variable {X : Cx} {g : Gx} {W : WX} {a b c tg : Expr} {ea eb ec : Ev} {pos p p2 : Pos} {w : Wd} {H : Hp} {ds es : List D}
theorem items_enumT {a : Addr} {vs : List V} (h : SqT' g w H a vs) (l : RepL g w H ds vs) : Items g w H (ds.zipIdx.map fun p => .tup [.int (p.2 : Nat), p.1]) (IteT g.K a) := by
  refine items_pair (enum_len ds) (f := fun i => ds[i]?.map fun z => (D.int (i : Nat), z)) (fun i d h => enum_get ds i d h) fun w1 S1 H1 st le => ?_
  have h1 : SqT g.K H1 a vs := (h.le le).sq
  have l1 := RepL.le le l
  refine ⟨fun i hi => ?_, ⟨vs, h1, by rw [l.length]⟩⟩
  obtain ⟨v, hv, _⟩ := l.get (List.getElem?_eq_getElem hi)
  refine ⟨⟨vs, v, h1, hv⟩, fun x H2 y => ?_⟩
  obtain ⟨T, u, rfl, hT, rfl, q⟩ := y
  refine ⟨T, _, u, rfl, hT, rfl, fun c d e => ?_⟩
  cases e2 : ds[i]? with
  | none => rw [e2] at e; cases e
  | some z =>
    rw [e2] at e
    cases e
    obtain ⟨u', hu, ru⟩ := l1.get e2
    have := q vs h1
    rw [hu] at this
    cases this
    exact ⟨.int _, ru⟩
theorem i_enum {elts : List Expr} {kk : Nat} {tpos : Pos} (hK : g.K = X.K) (hg : Gl X "enumerate") (hm : X.mg "enumerate" = none) (ha : PE X a (tE g W ea)) (hs : starEach [a] X.env = [(false, eval a X.env)] := by rfl) :
    PI X (.Tuple elts kk tpos) (.Call (.Name "enumerate" p) [a] [] pos) (tI g W (itEn ea)) :=
  (pi_enA hg hm (pa_cons ha pa_nil hs) hs).imp fun σ H Q ⟨w, Γ, S, st, en, h⟩ => tX_seq st en h fun u H1 x S1 w1 s1 st1 en1 r1 h1 => by
    split at h1
    · cases r1 with
      | lst q1 q2 q3 =>
        rw [← hK]
        exact ⟨_, _, rfl, .inl ⟨.inl (.inl q1), RQ.okQ h1 st1 (items_enum q1 q2 q3)⟩⟩
    · cases r1 with
      | tup q1 q3 =>
        rw [← hK]
        exact ⟨_, _, rfl, .inr ⟨q1.sq, RQ.okQ h1 st1 (items_enumT q1 q3)⟩⟩
    · exact h1.elim
end

/-! ### slices backward -/
section
variable {prog : Program} {w : World} {A : Around} {E : Value → Shared → Prop} {s : Shared}
theorem places_rev (n : Nat) : Builtin.Slice.slicePlaces ((n : Int) - 1) (-1) (-1) = n := by
  unfold Builtin.Slice.slicePlaces
  rw [if_neg (by decide)]
  have e : (-(-1) : Int) = 1 := by decide
  rw [e]
  by_cases h : (n : Int) - 1 > -1
  · rw [if_pos h, Int.ediv_one]
    omega
  · rw [if_neg h]
    omega
theorem sliceApplied_rev {sl : Addr} {n : Nat} {vl vu vs : Value} {Q : Int × Int × Nat → Shared → Prop} (hs : s.heap.IsSliceOf sl vl vu vs) (pl : IsPart vl none) (pu : IsPart vu none) (ps : IsPart vs (some (-1)))
    (h : Q ((n : Int) - 1, -1, n) s) : wpAny (model prog w) A (Builtin.Slice.sliceApplied (.ref sl) (pure (n : Int))) Q E s := by
  obtain ⟨os, hos, hcs, hds⟩ := id hs
  unfold Builtin.Slice.sliceApplied Builtin.Slice.sliceFields
  refine wpAny_bind (wpAny_bind (wpAny_field hos hds (x := vl) rfl (wpAny_bind (wpAny_field hos hds (x := vu) rfl (wpAny_bind (wpAny_field hos hds (x := vs) rfl (wpAny_pure ?_)))))))
  refine wpAny_bind (HT.slicePart_ ps ?_)
  show wpAny _ _ (if ((-1 : Int) == 0) = true then _ else _) _ _ s
  rw [if_neg (by decide)]
  refine wpAny_bind (HT.slicePart_ pl (wpAny_bind (HT.slicePart_ pu (wpAny_bind (wpAny_pure ?_)))))
  show wpAny _ _ (pure ((n : Int) - 1, (-1 : Int), Builtin.Slice.slicePlaces ((n : Int) - 1) (-1) (-1))) _ _ s
  rw [places_rev]
  exact wpAny_pure h
theorem pick_rev (xs : Array Value) : ((List.range xs.size).filterMap fun (m : Nat) => xs[((xs.size : Int) - 1 + (m : Int) * -1).toNat]?).toArray = xs.toList.reverse.toArray := by
  have e : (List.range xs.size).filterMap (fun (m : Nat) => xs[((xs.size : Int) - 1 + (m : Int) * -1).toNat]?) = ((List.range xs.size).map (fun k => xs.size - 1 - k)).filterMap (xs[·]?) := by
    rw [List.filterMap_map]
    congr 1
    funext m
    have : ((xs.size : Int) - 1 + (m : Int) * -1).toNat = xs.size - 1 - m := by omega
    show xs[((xs.size : Int) - 1 + (m : Int) * -1).toNat]? = xs[xs.size - 1 - m]?
    rw [this]
  rw [e, PySem.W.krv_range, List.filterMap_reverse, PySem.W.krv_all]
theorem getItem_tuple_rev {t sl : Addr} {items : Array Value} {vl vu vs : Value} {Q : Value → Shared → Prop} (ht : IsTup s.heap t items) (hs : s.heap.IsSliceOf sl vl vu vs) (pl : IsPart vl none) (pu : IsPart vu none) (ps : IsPart vs (some (-1)))
    (h : Q (.ref s.heap.objs.size) { s with heap := s.heap.push { cls := .type "tuple", data := .seq items.toList.reverse.toArray } })
    (hsz : items.size ≤ sizeLine) : wpAny (model prog w) A (getItem (.ref t) (.ref sl)) Q E s := by
  have htake : sizeOk (.seq items.toList.reverse.toArray) := by
    show items.toList.reverse.toArray.size ≤ sizeLine
    rw [List.size_toArray, List.length_reverse, Array.length_toList]
    exact hsz
  obtain ⟨os, hos, hcs, hds⟩ := id hs
  have hTs : s.TypeIs (.ref sl) "slice" := ⟨os, hos, hcs⟩
  unfold getItem
  try with_reducible refine wpAny_holding ?_
  first | refine wpAny_bind (wpAny_pure ?_) | skip
  refine wpAny_bind (wpAny_sequenceKey ht.typeIs (by decide) ?_)
  refine wpAny_bind (wpAny_callSpecial?_slot (name := Str.ofString "__getitem__") ht.typeIs PyProof.Rows.slot_tuple_getitem
    (wpAny_call_entry PyProof.Rows.slot_tuple_getitem ht.typeIs entry_tuple_getitem ?_ (args_tuple_getitem _ _)))
  show wpAny _ _ (Builtin.Tuple.tupleItemsOf (.ref t) >>= _) _ _ s
  refine wpAny_bind (tupleItemsOf_ ht ?_)
  refine wpAny_bind (wpAny_typeOf hTs ?_)
  rw [if_pos (by decide)]
  refine wpAny_bind (sliceApplied_rev hs pl pu ps ?_)
  have hno : ¬ ((((items.size : Int) - 1) == 0 && (-1 : Int) == 1 && items.size == items.size) = true) := by
    intro q
    rw [Bool.and_eq_true, Bool.and_eq_true] at q
    have q1 : (-1 : Int) = 1 := eq_of_beq q.1.2
    exact absurd q1 (by decide)
  show wpAny _ _ (if (((items.size : Int) - 1) == 0 && (-1 : Int) == 1 && items.size == items.size) = true then _ else _) _ _ s
  rw [if_neg hno, pick_rev]
  first
    | exact wpAny_bind (m := Builtin.Tuple.tupleExact _) (wpAny_newObj_type (wpAny_pure ⟨_, rfl, wpAny_pure h⟩) htake)
    | exact wpAny_bind (m := Builtin.Tuple.tupleExact _) (wpAny_newObj_type (wpAny_bind (wpAny_pure (wpAny_pure ⟨_, rfl, wpAny_pure h⟩))) htake)
    | exact wpAny_bind (wpAny_bind (m := Builtin.Tuple.tupleExact _) (wpAny_newObj_type (wpAny_pure (wpAny_pure ⟨_, rfl, wpAny_pure h⟩)) htake))
    | exact wpAny_bind (wpAny_bind (m := Builtin.Tuple.tupleExact _) (wpAny_newObj_type (wpAny_pure ⟨_, rfl, wpAny_pure h⟩) htake))
end
def tRev2 (K : PySem.W.Frag) (te : TE) : TE := fun σ H Q => te σ H fun x H1 => ∃ a xs, x = .ref a ∧ ((SqL K H1 a xs ∧ ∀ p, H1 p = none → Q (.ref p) (upd H1 p (.lst xs.reverse))) ∨ (SqT K H1 a xs ∧ ∀ p, H1 p = none → Q (.ref p) (upd H1 p (.tup xs.reverse))))
theorem pe_rev2 {X : Cx} {e : Expr} {te : TE} {k : Nat} {p1 p2 p3 pos : Pos} (he : PE X e te) : PE X (.Subscript e (.Slice none none (some (.UnaryOp .USub (.Constant (.int 1) k p1) p2)) p3) pos) (tRev2 X.K te) := by
  refine ⟨fun pins s σ H Q I h => ?_⟩
  refine Subscript_ (thn (he.run pins s σ H _ I h) fun v s1 ⟨x, H1, I1, r1, q1⟩ => ?_)
  obtain ⟨a, xs, ex, q⟩ := q1
  subst ex
  cases r1
  have hst : PO X (some (.UnaryOp .USub (.Constant (.int 1) k p1) p2)) (tPart (tUn (rU fun i => .int (-i)) (tC (.int 1)))) := po_some (pe_un un_neg pe_int)
  refine wpAny_Slice (thn (po_none.run pins s1 σ H1 (fun o H2 => o = none ∧ H2 = H1) I1 ⟨rfl, rfl⟩) fun vl s2 ⟨l, H2, I2, pl, el, e2⟩ => ?_)
  subst el e2
  refine thn (po_none.run pins s2 σ H2 (fun o H3 => o = none ∧ H3 = H2) I2 ⟨rfl, rfl⟩) fun vu s3 ⟨u, H3, I3, pu, eu, e3⟩ => ?_
  subst eu e3
  refine thn (hst.run pins s3 σ H3 (fun o H4 => o = some (-1) ∧ H4 = H3) I3 ⟨1, rfl, -1, rfl, rfl, rfl⟩) fun vs s4 ⟨o, H4, I4, ps, eo, e4⟩ => ?_
  subst eo e4
  have I5 : Inv X pins σ H4 { s4 with heap := s4.heap.push { cls := .type "slice", data := .fields #[vl, vu, vs] } } := I4.kept (t' := s4.toks) fun b ob q => Heap.get?_push_of_some _ q
  show wpAny (model X.prog X.w) X.A (subscriptTail e (.Slice none none (some (.UnaryOp .USub (.Constant (.int 1) k p1) p2)) p3) (.ref a) (.ref s4.heap.objs.size)) (EP X pins σ Q) X.xe { s4 with heap := s4.heap.push { cls := .type "slice", data := .fields #[vl, vu, vs] } }
  rcases q with ⟨hx, q⟩ | ⟨hx, q⟩
  · obtain ⟨its, r, ht, hz⟩ := I5.list hx
    have hlen := r.length
    refine tail_any (ops := [.ref a, .ref s4.heap.objs.size]) ht.isList.typeIs (PySem.slot_list_getitem.lookup) ?_ (by with_unfolding_all rfl)
    refine wpAny_getItem_list_slice ht.isList (Heap.IsSliceOf.new _ vl vu vs) pl pu ps (by decide) ?_ (by rw [List.size_toArray]; omega)
    rw [PySem.W.krv_pick]
    refine ⟨.ref _, _, I5.laid (t' := s4.toks) (o := .lst xs.reverse) (fun b ob q => Heap.get?_push_of_some _ q) (Nat.le_refl _) ?_, rfl, q _ (I5.hok.fresh (Nat.le_refl _))⟩
    exact ⟨by rw [List.length_reverse]; exact hz, _, 0, r.reverse, Heap.get?_push_size _ rfl⟩
  · obtain ⟨its, r, ht, hz⟩ := I5.tuple hx
    have hlen := r.length
    refine tail_any (ops := [.ref a, .ref s4.heap.objs.size]) ht.typeIs (PyProof.Rows.slot_tuple_getitem.lookup) ?_ (by with_unfolding_all rfl)
    refine getItem_tuple_rev ht (Heap.IsSliceOf.new _ vl vu vs) pl pu ps ?_ (by rw [List.size_toArray]; omega)
    refine ⟨.ref _, _, I5.laid (t' := s4.toks) (o := .tup xs.reverse) (fun b ob q => Heap.get?_push_of_some _ q) (Nat.le_refl _) ?_, rfl, q _ (I5.hok.fresh (Nat.le_refl _))⟩
    exact ⟨by rw [List.length_reverse]; exact hz, _, r.reverse, IsTup.new _ _⟩
def fRev (x : Val) (S : Store) : R Val := match rd S x with
  | some (.lst ds) => .ok (.d (.lst ds.reverse)) S
  | some (.tup ds) => .ok (.d (.tup ds.reverse)) S
  | _ => .bad
/-- sorted(..) of whole numbers -/
def fSorted (x : Val) (S : Store) : R Val := match rd S x with
  | some (.lst ds) => match asInts ds with | some ns => .ok (.d (.lst ((ns.mergeSort (fun a b => decide (a ≤ b))).map .int))) S | none => .bad
  | some (.tup ds) => match asInts ds with | some ns => .ok (.d (.lst ((ns.mergeSort (fun a b => decide (a ≤ b))).map .int))) S | none => .bad
  | _ => .bad
theorem sorted_one {ns ms : List Int} (hp : ms.Perm ns) (hs : ms.Pairwise (· ≤ ·)) : ms = ns.mergeSort (fun a b => decide (a ≤ b)) := by
  have h1 : (ns.mergeSort (fun a b => decide (a ≤ b))).Pairwise (fun a b => decide (a ≤ b) = true) := List.pairwise_mergeSort (by intro a b c h1 h2; simp only [decide_eq_true_eq] at *; omega) (by intro a b; simp only [Bool.or_eq_true, decide_eq_true_eq]; omega) ns
  have h2 : ms.Pairwise (fun a b => decide (a ≤ b) = true) := hs.imp fun h => decide_eq_true h
  have hpp : ms.Perm (ns.mergeSort (fun a b => decide (a ≤ b))) := hp.trans (List.mergeSort_perm ns _).symm
  refine List.Perm.eq_of_pairwise ?_ h2 h1 hpp
  intro a b _ _ h3 h4
  simp only [decide_eq_true_eq] at h3 h4
  omega
def rSorted2 (K : PySem.W.Frag) : List V → Hp → VK → Prop := fun vs H Q => ∃ (a : Addr) (ns : List Int), vs = [V.ref a] ∧ (SqL K H a (ns.map V.int) ∨ SqT K H a (ns.map V.int)) ∧
  ∀ (p : Addr), H p = none → Q (.ref p) (upd H p (.lst ((ns.mergeSort (fun a b => decide (a ≤ b))).map V.int)))
theorem cr_sorted2 {X : Cx} : CallR X (.builtin "sorted") (rSorted2 X.K) := by
  intro pins s σ H vs us Q I r h
  obtain ⟨a, ns, rfl, hs, q⟩ := h
  rcases hs with hs | hs
  · refine cr_sortedI pins s σ H _ us Q I r ⟨a, ns, rfl, hs, fun ns' p h1 h2 hp => ?_⟩
    rw [sorted_one h1 h2]
    exact q p hp
  · obtain ⟨its, rv, hl, hz⟩ := I.tuple hs
    rw [Vals.ref1 r]
    have hi := rv.ints
    refine sorted_ordT SrtO.swo_int hl (by rw [← rv.length]; exact hz) (fun h2 h₁ a' _ _ => SrtO.ints_sortable hi h2) fun out h1 h2 => ?_
    obtain ⟨k1, k2, k3⟩ := SrtO.ints_out hi h1 h2
    obtain ⟨ep, he'⟩ := PyProof.Rows.sortedAll_at s.heap its out.toArray
    have hlen : ((out.map SrtO.iv).map V.int).length ≤ sizeLine := by
      rw [List.length_map, k2.length_eq]
      rw [List.length_map] at hz
      exact hz
    refine ⟨.ref _, upd H (s.heap.objs.size + 1) (.lst ((out.map SrtO.iv).map V.int)), I.laid (t' := s.toks) (fun _ _ => PyProof.Rows.sortedAll_old) (Nat.le_succ _) ⟨hlen, out, ep, vals_of_ints k1, he'⟩, rfl, ?_⟩
    rw [sorted_one k2 k3]
    exact q _ (I.hok.fresh (Nat.le_succ _))
section
variable {X : Cx} {g : Gx} {W : WX} {a b c tg : Expr} {ea eb ec : Ev} {pos p p2 p3 p1 : Pos} {k : Nat}
theorem p_rev (hK : g.K = X.K) (ha : PE X a (tE g W ea)) : PE X (.Subscript a (.Slice none none (some (.UnaryOp .USub (.Constant (.int 1) k p1) p2)) p3) pos) (tE g W (eUn fRev ea)) :=
  (pe_rev2 ha).imp fun σ H Q ⟨w, Γ, S, st, en, h⟩ => tX_seq st en h fun u H1 y S1 w1 s1 st1 en1 r1 q => by
    rw [← hK]
    unfold fRev at q
    split at q
    · rename_i ds e
      obtain ⟨a, vs, rfl, h1, l⟩ := rd_lst st1 r1 e
      exact ⟨a, vs, rfl, .inl ⟨.inl (.inl h1), fun p hp => RQ.newQ q st1 hp (rep_lst st1 hp l.reverse)⟩⟩
    · rename_i ds e
      obtain ⟨a, vs, rfl, h1, l⟩ := rd_tup r1 e
      exact ⟨a, vs, rfl, .inr ⟨h1.sq, fun p hp => RQ.newQ q st1 hp (rep_tup st1 hp l.reverse)⟩⟩
    · exact q.elim
theorem c1_sorted : OpC1 g (rSorted2 g.K) fSorted := fun W w S H σ x u Q st r1 q => by
  unfold fSorted at q
  split at q
  · rename_i ds e
    split at q
    · rename_i ns en
      obtain ⟨a, vs, rfl, h1, l⟩ := rd_lst st r1 e
      rw [asInts_eq en] at l
      have ev := l.ints
      subst ev
      exact ⟨a, ns, rfl, .inl (.inl (.inl h1)), fun p hp => RQ.newQ q st hp (rep_lst st hp RepL.ofInts)⟩
    · exact q.elim
  · rename_i ds e
    split at q
    · rename_i ns en
      obtain ⟨a, vs, rfl, h1, l⟩ := rd_tup r1 e
      rw [asInts_eq en] at l
      have ev := l.ints
      subst ev
      exact ⟨a, ns, rfl, .inr h1.sq, fun p hp => RQ.newQ q st hp (rep_lst st hp RepL.ofInts)⟩
    · exact q.elim
  · exact q.elim
theorem p_sorted (hK : g.K = X.K) (hg : Gl X "sorted") (hm : X.mg "sorted" = none) (ha : PE X a (tE g W ea)) (he : starEach [a] X.env = (false, eval a X.env) :: starEach [] X.env := by rfl) (hpl : (backTo pos (starEach [] X.env)).any (·.1) = false := by rfl) :
    PE X (.Call (.Name "sorted" p) [a] [] pos) (tE g W (eUn fSorted ea)) := p_call1 (id := "sorted") cr_sorted2 (by rw [← hK]; exact c1_sorted) hg hm (by decide +kernel) ha (by decide) (by decide) he hpl

/-! ### operators in short -/
variable {j : Nat}
theorem p_add (hK : g.K = X.K) (ha : PE X a (tE g W ea)) (hb : PE X b (tE g W eb)) : PE X (.BinOp a .Add b pos) (tE g W (eBin fAdd ea eb)) := p_bin op_add4 (by rw [← hK]; exact o2_add) ha hb
theorem p_sub (ha : PE X a (tE g W ea)) (hb : PE X b (tE g W eb)) : PE X (.BinOp a .Sub b pos) (tE g W (eBin fSub ea eb)) := p_bin op_sub o2_sub ha hb
theorem p_mul (hK : g.K = X.K) (ha : PE X a (tE g W ea)) (hb : PE X b (tE g W eb)) : PE X (.BinOp a .Mult b pos) (tE g W (eBin fMul ea eb)) := p_bin op_mul3 (by rw [← hK]; exact o2_mul) ha hb
theorem p_div (ha : PE X a (tE g W ea)) (hb : PE X b (tE g W eb)) : PE X (.BinOp a .FloorDiv b pos) (tE g W (eBin fDiv ea eb)) := p_bin op_fdivW o2_div ha hb
theorem p_mod (ha : PE X a (tE g W ea)) (hb : PE X b (tE g W eb)) : PE X (.BinOp a .Mod b pos) (tE g W (eBin fMod ea eb)) := p_bin op_mod o2_mod ha hb
theorem p_pow (ha : PE X a (tE g W ea)) (hb : PE X b (tE g W eb)) : PE X (.BinOp a .Pow b pos) (tE g W (eBin fPow ea eb)) := p_bin op_powW o2_pow ha hb
theorem p_neg (ha : PE X a (tE g W ea)) : PE X (.UnaryOp .USub a pos) (tE g W (eUn fNeg ea)) := p_un un_neg o1_neg ha
theorem p_lt (ha : PE X a (tE g W ea)) (hb : PE X b (tE g W eb)) : PE X (.Compare a [.Lt] [b] pos) (tE g W (eBin fLt ea eb)) := p_cmp op_lt o2_lt ha hb
theorem p_le (ha : PE X a (tE g W ea)) (hb : PE X b (tE g W eb)) : PE X (.Compare a [.LtE] [b] pos) (tE g W (eBin fLe ea eb)) := p_cmp op_le o2_le ha hb
theorem p_gt (ha : PE X a (tE g W ea)) (hb : PE X b (tE g W eb)) : PE X (.Compare a [.Gt] [b] pos) (tE g W (eBin fGt ea eb)) := p_cmp op_gt o2_gt ha hb
theorem p_ge (ha : PE X a (tE g W ea)) (hb : PE X b (tE g W eb)) : PE X (.Compare a [.GtE] [b] pos) (tE g W (eBin fGe ea eb)) := p_cmp op_ge o2_ge ha hb
theorem p_eq (hK : g.K = X.K) (hr : Room j X.A) (ha : PE X a (tE g W ea)) (hb : PE X b (tE g W eb)) : PE X (.Compare a [.Eq] [b] pos) (tE g W (eBin fEq ea eb)) := p_cmp (op_eqD hr.units) (by rw [← hK]; exact o2_eq) ha hb
theorem p_ne (hK : g.K = X.K) (hr : Room j X.A) (ha : PE X a (tE g W ea)) (hb : PE X b (tE g W eb)) : PE X (.Compare a [.NotEq] [b] pos) (tE g W (eBin fNe ea eb)) := p_cmp (op_neD hr.units) (by rw [← hK]; exact o2_ne) ha hb
theorem t_lt (ha : PE X a (tE g W ea)) (hb : PE X b (tE g W eb)) : PT X (.Compare a [.Lt] [b] pos) (tT g W (eTest (eBin fLt ea eb))) := pt_cmp' op_lt o2_lt ha hb
theorem t_le (ha : PE X a (tE g W ea)) (hb : PE X b (tE g W eb)) : PT X (.Compare a [.LtE] [b] pos) (tT g W (eTest (eBin fLe ea eb))) := pt_cmp' op_le o2_le ha hb
theorem t_gt (ha : PE X a (tE g W ea)) (hb : PE X b (tE g W eb)) : PT X (.Compare a [.Gt] [b] pos) (tT g W (eTest (eBin fGt ea eb))) := pt_cmp' op_gt o2_gt ha hb
theorem t_ge (ha : PE X a (tE g W ea)) (hb : PE X b (tE g W eb)) : PT X (.Compare a [.GtE] [b] pos) (tT g W (eTest (eBin fGe ea eb))) := pt_cmp' op_ge o2_ge ha hb
theorem t_eq (hK : g.K = X.K) (hr : Room j X.A) (ha : PE X a (tE g W ea)) (hb : PE X b (tE g W eb)) : PT X (.Compare a [.Eq] [b] pos) (tT g W (eTest (eBin fEq ea eb))) := pt_cmp' (op_eqD hr.units) (by rw [← hK]; exact o2_eq) ha hb
theorem t_ne (hK : g.K = X.K) (hr : Room j X.A) (ha : PE X a (tE g W ea)) (hb : PE X b (tE g W eb)) : PT X (.Compare a [.NotEq] [b] pos) (tT g W (eTest (eBin fNe ea eb))) := pt_cmp' (op_neD hr.units) (by rw [← hK]; exact o2_ne) ha hb
theorem p_chLeLe (ha : PE X a (tE g W ea)) (hb : PE X b (tE g W eb)) (hc : PE X c (tE g W ec)) (hm : lastMarks [.LtE, .LtE] [b, c] = false := by with_unfolding_all rfl) : PE X (.Compare a [.LtE, .LtE] [b, c] pos) (tE g W (eChain fLe fLe ea eb ec)) := p_chain op_le o2_le op_le o2_le ha hb hc hm
theorem p_chLeLt (ha : PE X a (tE g W ea)) (hb : PE X b (tE g W eb)) (hc : PE X c (tE g W ec)) (hm : lastMarks [.LtE, .Lt] [b, c] = false := by with_unfolding_all rfl) : PE X (.Compare a [.LtE, .Lt] [b, c] pos) (tE g W (eChain fLe fLt ea eb ec)) := p_chain op_le o2_le op_lt o2_lt ha hb hc hm
theorem p_chLtLe (ha : PE X a (tE g W ea)) (hb : PE X b (tE g W eb)) (hc : PE X c (tE g W ec)) (hm : lastMarks [.Lt, .LtE] [b, c] = false := by with_unfolding_all rfl) : PE X (.Compare a [.Lt, .LtE] [b, c] pos) (tE g W (eChain fLt fLe ea eb ec)) := p_chain op_lt o2_lt op_le o2_le ha hb hc hm
theorem t_chLeLe (ha : PE X a (tE g W ea)) (hb : PE X b (tE g W eb)) (hc : PE X c (tE g W ec)) (hm : lastMarks [.LtE, .LtE] [b, c] = false := by with_unfolding_all rfl) : PT X (.Compare a [.LtE, .LtE] [b, c] pos) (tT g W (eTest (eChain fLe fLe ea eb ec))) := pt_chain' op_le o2_le op_le o2_le ha hb hc hm
theorem t_chLeLt (ha : PE X a (tE g W ea)) (hb : PE X b (tE g W eb)) (hc : PE X c (tE g W ec)) (hm : lastMarks [.LtE, .Lt] [b, c] = false := by with_unfolding_all rfl) : PT X (.Compare a [.LtE, .Lt] [b, c] pos) (tT g W (eTest (eChain fLe fLt ea eb ec))) := pt_chain' op_le o2_le op_lt o2_lt ha hb hc hm
theorem t_chLtLe (ha : PE X a (tE g W ea)) (hb : PE X b (tE g W eb)) (hc : PE X c (tE g W ec)) (hm : lastMarks [.Lt, .LtE] [b, c] = false := by with_unfolding_all rfl) : PT X (.Compare a [.Lt, .LtE] [b, c] pos) (tT g W (eTest (eChain fLt fLe ea eb ec))) := pt_chain' op_lt o2_lt op_le o2_le ha hb hc hm
theorem p_isN {j : Nat} {p' : Pos} (ha : PE X a (tE g W ea)) : PE X (.Compare a [.Is] [.Constant .none j p'] pos) (tE g W (eBin fIsN ea (eC .non))) := p_cmp op_isN o2_isN ha p_non
theorem t_isN {j : Nat} {p' : Pos} (ha : PE X a (tE g W ea)) : PT X (.Compare a [.Is] [.Constant .none j p'] pos) (tT g W (eTest (eBin fIsN ea (eC .non)))) := pt_cmp' op_isN o2_isN ha p_non
theorem p_notN {j : Nat} {p' : Pos} (ha : PE X a (tE g W ea)) : PE X (.Compare a [.IsNot] [.Constant .none j p'] pos) (tE g W (eBin fNotN ea (eC .non))) := p_cmp op_notN o2_notN ha p_non
theorem t_notN {j : Nat} {p' : Pos} (ha : PE X a (tE g W ea)) : PT X (.Compare a [.IsNot] [.Constant .none j p'] pos) (tT g W (eTest (eBin fNotN ea (eC .non)))) := pt_cmp' op_notN o2_notN ha p_non
theorem p_globE {x : Str} {i : Int} (hg : Gl X x) (hm : ∃ t, X.mg x = some (.int i t)) (hd : (x == ("__debug__" : Str)) = false := by decide) : PE X (.Name x pos) (tE g W (eC (.int i))) := let ⟨_, h⟩ := hm; p_globI hg h hd
end
/-! ### repr of plain values -/
@[irreducible] def reprOk (i : Int) : Bool := decide (i.natAbs < 2 ^ 1919)
def fRepr : Val → Store → R Val
  | .d .non, S => .ok (.d (.str "None")) S
  | .d (.bl b), S => .ok (.d (.str (if b then "True" else "False"))) S
  | .d (.int i), S => if reprOk i = true then .ok (.d (.str (toString i))) S else .bad
  | .d (.str x), S => if (reprText x).length ≤ cap then .ok (.d (.str (reprText x))) S else .bad
  | _, _ => .bad
def rRepr : List V → Hp → VK → Prop := fun xs H Q => (xs = [.non] ∧ Q (.str "None") H) ∨ (∃ b, xs = [.bl b] ∧ Q (.str (if b then "True" else "False")) H) ∨ (∃ i, xs = [.int i] ∧ i.natAbs.log2 < 1920 ∧ Q (.str (toString i)) H) ∨ (∃ x, xs = [.str x] ∧ (reprText x).length ≤ sizeLine ∧ Q (.str (reprText x)) H)
theorem cr_repr {X : Cx} : CallR X (.builtin "repr") rRepr := by
  intro pins s σ H xs us Q I r h
  rcases h with ⟨rfl, q⟩ | ⟨b, rfl, q⟩ | ⟨i, rfl, hz, q⟩ | ⟨x, rfl, hz, q⟩
  · obtain ⟨u, rfl, r1⟩ := r.one
    have e : u = Value.none := r1
    subst e
    refine PySem.P.repr_of_none ?_
    exact ⟨.str _, H, I.tok _, ⟨_, rfl⟩, q⟩
  · obtain ⟨u, rfl, r1⟩ := r.one
    have e : u = Value.bool b := r1
    subst e
    refine PySem.P.repr_of_bool ?_
    exact ⟨.str _, H, I.tok _, ⟨_, rfl⟩, q⟩
  · obtain ⟨u, rfl, t, rfl⟩ := r.one
    exact PySem.P.repr_of_int hz ⟨.str _, H, I.tok _, ⟨_, rfl⟩, q⟩
  · obtain ⟨u, rfl, t, rfl⟩ := r.one
    exact PySem.P.repr_of_str ⟨.str _, H, I.tok _, ⟨_, rfl⟩, q⟩ hz
theorem c1_repr {g : Gx} : OpC1 g rRepr fRepr := fun W w S H σ x u Q st r1 q => by
  unfold fRepr at q
  split at q
  · cases r1
    exact .inl ⟨rfl, RQ.okQ q st (.str _)⟩
  · cases r1
    exact .inr (.inl ⟨_, rfl, RQ.okQ q st (.str _)⟩)
  · obtain ⟨hz, q⟩ := ite_q q
    cases r1
    refine .inr (.inr (.inl ⟨_, rfl, ?_, RQ.okQ q st (.str _)⟩))
    unfold reprOk at hz
    have h1 := of_decide_eq_true hz
    exact Nat.lt_trans (PySem.Flt.log2_lt_of (show 0 < 1919 by omega) h1) (by omega)
  · obtain ⟨hz, q⟩ := ite_q q
    cases r1
    exact .inr (.inr (.inr ⟨_, rfl, cap_le hz, RQ.okQ q st (.str _)⟩))
  · exact q.elim
theorem p_repr {X : Cx} {g : Gx} {W : WX} {a : Expr} {ea : Ev} {pos p : Pos} (hg : Gl X "repr") (hm : X.mg "repr" = none) (ha : PE X a (tE g W ea)) (he : starEach [a] X.env = (false, eval a X.env) :: starEach [] X.env := by rfl) (hpl : (backTo pos (starEach [] X.env)).any (·.1) = false := by rfl) :
    PE X (.Call (.Name "repr" p) [a] [] pos) (tE g W (eUn fRepr ea)) := p_call1 (id := "repr") cr_repr c1_repr hg hm (by decide +kernel) ha (by decide) (by decide) he hpl
/-- where a def of the text stands -/
def FunAt (K : PySem.W.Frag) (mg : Str → Option Value) (x qual : Str) (st : Stmt) (ps : List Str) : Prop := ∃ (f : Addr) (fd : FuncData), Fun K x qual st f fd ∧ mg x = some (.ref f) ∧ Binds K fd ps []
theorem fn_at {P : Program} {w : World} {K : PySem.W.Frag} {mg : Str → Option Value} {base : Heap} {g : Gx} {x qual : Str} {st : Stmt} {N ps : List Str} {k extra : Nat} (Nn : Bool) (body : Nat → Sv) (F : FunAt K mg x qual st ps) (SC : FnScope N ps (defScope st)) (hx : N.length = ps.length + extra)
    (hbody : ∀ (f : Addr) (cdv : Value) (A : Around) (outer : List PySem.Env) (s : Shared) (H : Hp) (E : XK), Room k (A.deeper (envOfC qual (defScope st) s.heap.objs.size f cdv)) → ∀ w0 : Wd,
      PSs (cxOf (L2.CX P w) P w K mg base N qual (defScope st) f cdv A outer s H E) (defBody st) (tS ⟨g, fun c d _ H' => E c d H', w0, H, Nn⟩ (body w0.m.length))) : Fn P w K mg base g (k + 1) x ps (funD extra body) Nn := by
  obtain ⟨f, fd, F, hm, hb⟩ := F
  exact ⟨f, fd, fn_mkX Nn body F SC hm hb hx (hbody f)⟩
theorem s_for' {X : Cx} {cf : Cf} {sa : Sv} {pos : Pos} {tg iter : Expr} {it : Env → Store → R (List D)} {sl : List Nat} {t : Tg} {body : List Stmt} (hp : PassesOwn (model X.prog X.w) X.A X.env X.xe) (hcalm : X.calm = true) (hi : PI X tg iter (tI cf.g cf.W it)) (hg : PG X tg (tG cf.g sl t)) (hb : PSs X body (tS cf sa))
    (hs : ∀ x, foldedSetIterable iter X.env x = pure x := by intro _; rfl) : PS X (.For tg iter body [] pos) (tS cf (sFor it t sa)) := s_for hp hcalm hi hg hb fun hi hg hb => ps_for hp hcalm hi hg hb hs
def fuel : Nat := 100000
end Pd

namespace Pd
open PySem PySem.Spec PyProof.Rows L2
/-! ### is, is not, of truth values -/
def fIsB : Val → Val → Store → R Val
  | .d (.bl a), .d (.bl b), S => .ok (.d (.bl (decide (a = b)))) S
  | _, _, _ => .bad
def fNotB : Val → Val → Store → R Val
  | .d (.bl a), .d (.bl b), S => .ok (.d (.bl (!decide (a = b)))) S
  | _, _, _ => .bad
section
variable {X : Cx} {g : Gx} {W : WX} {a b c : Expr} {ea eb ec : Ev} {pos p p2 : Pos} {j : Nat}
theorem o2_isB : Op2 g rIsB fIsB := fun W w S H σ x y u v Q st r1 r2 q => by
  unfold fIsB at q
  split at q
  · rename_i a b
    cases r1; cases r2
    exact ⟨a, b, rfl, rfl, RQ.okQ q st (.bl _)⟩
  · exact q.elim
theorem o2_notB : Op2 g rNotB fNotB := fun W w S H σ x y u v Q st r1 r2 q => by
  unfold fNotB at q
  split at q
  · rename_i a b
    cases r1; cases r2
    exact ⟨a, b, rfl, rfl, RQ.okQ q st (.bl _)⟩
  · exact q.elim
theorem p_isB (ha : PE X a (tE g W ea)) (hb : PE X b (tE g W eb)) (hm : behindInMarks .Is b = false := by first | exact nobehind _ (by decide) (by decide) | rfl) : PE X (.Compare a [.Is] [b] pos) (tE g W (eBin fIsB ea eb)) := p_cmp op_isBl o2_isB ha hb hm
theorem p_notB (ha : PE X a (tE g W ea)) (hb : PE X b (tE g W eb)) (hm : behindInMarks .IsNot b = false := by first | exact nobehind _ (by decide) (by decide) | rfl) : PE X (.Compare a [.IsNot] [b] pos) (tE g W (eBin fNotB ea eb)) := p_cmp op_notBl o2_notB ha hb hm
theorem t_isB (ha : PE X a (tE g W ea)) (hb : PE X b (tE g W eb)) (hm : behindInMarks .Is b = false := by first | exact nobehind _ (by decide) (by decide) | rfl) : PT X (.Compare a [.Is] [b] pos) (tT g W (eTest (eBin fIsB ea eb))) := pt_cmp' op_isBl o2_isB ha hb hm
theorem t_notB (ha : PE X a (tE g W ea)) (hb : PE X b (tE g W eb)) (hm : behindInMarks .IsNot b = false := by first | exact nobehind _ (by decide) (by decide) | rfl) : PT X (.Compare a [.IsNot] [b] pos) (tT g W (eTest (eBin fNotB ea eb))) := pt_cmp' op_notBl o2_notB ha hb hm
/-! ### max, min of three -/
def maxI (i j : Int) : Int := if j > i then j else i
def minI (i j : Int) : Int := if j < i then j else i
def fMax3 : List Val → Store → R Val
  | [.d (.int i), .d (.int j), .d (.int k)], S => .ok (.d (.int (maxI (maxI i j) k))) S
  | _, _ => .bad
def fMin3 : List Val → Store → R Val
  | [.d (.int i), .d (.int j), .d (.int k)], S => .ok (.d (.int (minI (minI i j) k))) S
  | _, _ => .bad
def OpCA (g : Gx) (r : List V → Hp → VK → Prop) (f : List Val → Store → R Val) : Prop := ∀ (W : WX) (w : Wd) (S : Store) (H : Hp) (σ : L2.St) (xs : List Val) (us : List V) (Q : VK), StOk g w S H → RepVs g w H xs us → RQ g W (RepV g) w σ H (f xs S) Q → r us H Q
theorem p_callA {f : List Val → Store → R Val} {r : List V → Hp → VK → Prop} {id : String} {x : Str} {e : Expr} {es : List Expr} {er : Env → Store → R (List Val)} (hc : CallR X (.builtin id) r) (hf : OpCA g r f) (hg : Gl X x) (hm : X.mg x = none) (hv : bootBuiltins x = some (.builtin id)) (ha : PA X (e :: es) (tA g W er)) (hn : x ≠ "__name__" := by decide) (hdb : (x == ("__debug__" : Str)) = false := by decide)
    (he : starEach (e :: es) X.env = (false, eval e X.env) :: starEach es X.env := by rfl) (hpl : (backTo pos (starEach es X.env)).any (·.1) = false := by rfl) : PE X (.Call (.Name x p) (e :: es) [] pos) (tE g W (eCall f er)) :=
  (pe_callB hc hg hm hv ha hn hdb he hpl).imp fun σ H Q ⟨w, Γ, S, st, en, h⟩ => tX_seq st en h fun us H1 xs S1 w1 s1 st1 en1 r1 h1 => hf W w1 S1 H1 σ xs us Q st1 r1 h1
theorem max2_int (i j : Int) : nuMax2 (.int i) (.int j) = some (.int (maxI i j)) := by
  show some (if decide (i < j) = true then V.int j else V.int i) = _
  unfold maxI
  by_cases h : i < j
  · rw [if_pos (decide_eq_true h), if_pos h]
  · rw [if_neg (by simpa using h), if_neg h]
theorem min2_int (i j : Int) : nuMin2 (.int i) (.int j) = some (.int (minI i j)) := by
  show some (if decide (j < i) = true then V.int j else V.int i) = _
  unfold minI
  by_cases h : j < i
  · rw [if_pos (decide_eq_true h), if_pos h]
  · rw [if_neg (by simpa using h), if_neg h]
theorem ca_max3 : OpCA g (rNuC3 nuMax3) fMax3 := fun W w S H σ xs us Q st r q => by
  unfold fMax3 at q
  split at q
  · rename_i i j k
    cases r with
    | cons r1 r => cases r with
      | cons r2 r => cases r with
        | cons r3 r =>
          cases r; cases r1; cases r2; cases r3
          refine ⟨.int i, .int j, .int k, .int (maxI (maxI i j) k), rfl, ?_, RQ.okQ q st (.int _)⟩
          unfold nuMax3
          rw [max2_int, Option.bind_some, max2_int]
  · exact q.elim
theorem ca_min3 : OpCA g (rNuC3 nuMin3) fMin3 := fun W w S H σ xs us Q st r q => by
  unfold fMin3 at q
  split at q
  · rename_i i j k
    cases r with
    | cons r1 r => cases r with
      | cons r2 r => cases r with
        | cons r3 r =>
          cases r; cases r1; cases r2; cases r3
          refine ⟨.int i, .int j, .int k, .int (minI (minI i j) k), rfl, ?_, RQ.okQ q st (.int _)⟩
          unfold nuMin3
          rw [min2_int, Option.bind_some, min2_int]
  · exact q.elim
theorem p_max3 {e : Expr} {es : List Expr} {er : Env → Store → R (List Val)} (hcm : X.calm = true) (hg : Gl X "max") (hm : X.mg "max" = none) (ha : PA X (e :: es) (tA g W er)) (he : starEach (e :: es) X.env = (false, eval e X.env) :: starEach es X.env := by rfl) (hpl : (backTo pos (starEach es X.env)).any (·.1) = false := by rfl) :
    PE X (.Call (.Name "max" p) (e :: es) [] pos) (tE g W (eCall fMax3 er)) := p_callA (id := "max") (call_max3Nu hcm) ca_max3 hg hm (by decide +kernel) ha (by decide) (by decide) he hpl
theorem p_min3 {e : Expr} {es : List Expr} {er : Env → Store → R (List Val)} (hcm : X.calm = true) (hg : Gl X "min") (hm : X.mg "min" = none) (ha : PA X (e :: es) (tA g W er)) (he : starEach (e :: es) X.env = (false, eval e X.env) :: starEach es X.env := by rfl) (hpl : (backTo pos (starEach es X.env)).any (·.1) = false := by rfl) :
    PE X (.Call (.Name "min" p) (e :: es) [] pos) (tE g W (eCall fMin3 er)) := p_callA (id := "min") (call_min3Nu hcm) ca_min3 hg hm (by decide +kernel) ha (by decide) (by decide) he hpl
end
/-! ### def f(star v) -/
def spS (g : Gx) (d : List Val → Store → R Val) : Sp := fun vs H Q E => ∃ w S xs ds, StOk g w S H ∧ RepVs g w H xs vs ∧ clo xs = some ds ∧ ds.length ≤ cap ∧ RQ g (fun c e _ H' => E c e H') (RepV g) w [] H (d [.d (.tup ds)] S) Q
def FnS (P : Program) (w : World) (K : PySem.W.Frag) (mg : Str → Option Value) (base : Heap) (g : Gx) (k : Nat) (x : Str) (d : List Val → Store → R Val) : Prop :=
  ∃ f, mg x = some (.ref f) ∧ PySem.W.keepIn K (.ref f) = true ∧ FnR P w K mg base (L2.CX P w) k f (spS g d)
def FunS (K : PySem.W.Frag) (mg : Str → Option Value) (x qual : Str) (st : Stmt) (pv : Str) : Prop := ∃ (f : Addr) (fd : FuncData), Fun K x qual st f fd ∧ mg x = some (.ref f) ∧
  ∀ us rest : List Value, us.length = ([] : List Str).length → bindArgs fd ⟨us ++ rest, []⟩ = (newTuple rest >>= fun t => pure (([] : List Str).zip us ++ [(pv, t)]))
theorem fn_atS {P : Program} {w : World} {K : PySem.W.Frag} {mg : Str → Option Value} {base : Heap} {g : Gx} {x qual pv : Str} {st : Stmt} {N : List Str} {k extra : Nat} (body : Nat → Sv) (F : FunS K mg x qual st pv) (SC : FnScope N [pv] (defScope st)) (hx : N.length = 1 + extra)
    (hbody : ∀ (f : Addr) (cdv : Value) (A : Around) (outer : List PySem.Env) (s : Shared) (H : Hp) (E : XK), Room k (A.deeper (envOfC qual (defScope st) s.heap.objs.size f cdv)) → ∀ w0 : Wd,
      PSs (cxOf (L2.CX P w) P w K mg base N qual (defScope st) f cdv A outer s H E) (defBody st) (tS ⟨g, fun c d _ H' => E c d H', w0, H, false⟩ (body w0.m.length))) : FnS P w K mg base g (k + 1) x (funD extra body) := by
  obtain ⟨f, fd, F, hm, hb⟩ := F
  refine ⟨f, hm, F.kp, ?_⟩
  obtain ⟨oc, od, kV, doc, pm, an, cdv, ct, osl, rfl, lk, hcd⟩ := F.ex
  refine (StX.fn_star (ps := []) (sp := spD g (funD extra body) 1 false) lk hcd SC StX.cxUp hb fun A outer s H vs Q E hr hsp => body_spD (np := 1) false body hx (hbody f cdv) A outer s H vs Q E hr hsp).imp fun vs H Q E ⟨w1, S, xs, ds, so, r, e, hz, h⟩ => ?_
  have rl := clo_rep r e
  refine ⟨[], vs, rfl, rfl, by rw [← rl.length]; exact cap_le hz, fun p hp => ⟨rfl, w1, S, [.d (.tup ds)], so.new hp, .cons (rep_tup so hp rl) .nil, ?_⟩⟩
  rw [if_neg Bool.false_ne_true]
  exact h.to (step_new so hp)
theorem run_fnT {X : Cx} {k : Nat} {f : Addr} {sp : Sp} {pins : List (Addr × Obj)} {σ : L2.St} {H : Hp} {s : Shared} {Q : VK} {us : List Value} {vs : List V} {E : L2.St → XK} (F : FnR X.prog X.w X.K X.mg X.base (L2.CX X.prog X.w) k f sp) (hr : Room k X.A) (hx : PassesAt (L2.CX X.prog X.w) X σ (E σ))
    (I : Inv X pins σ H s) (r : Vals vs us) (h : sp vs H Q (E σ)) : wpAny (model X.prog X.w) X.A (call (.ref f) us) (EP X pins σ Q) X.xe s := by
  refine wpAny_call (codeAny_mono (F X.A X.stack s H us vs Q (E σ) hr I.env0 r h) fun res s' hq => ?_)
  match res, hq with
  | .error e, hq => exact hx pins H s e s' I hq
  | .ok (.ret u), hq => exact I.after hq
theorem p_callS {X : Cx} {g : Gx} {W : WX} {k j : Nat} {x : Str} {d : List Val → Store → R Val} {e : Expr} {es : List Expr} {er : Env → Store → R (List Val)} {p pos : Pos} (F : FnS X.prog X.w X.K X.mg X.base g k x d) (hr : Room j X.A) (hkj : k ≤ j) (hg : Gl X x) (tk : Takes X W) (ha : PA X (e :: es) (tA g W er))
    (hdb : (x == ("__debug__" : Str)) = false := by decide) (he : starEach (e :: es) X.env = (false, eval e X.env) :: starEach es X.env := by rfl) (hpl : (backTo pos (starEach es X.env)).any (·.1) = false := by rfl) :
    PE X (.Call (.Name x p) (e :: es) [] pos) (tE g W (eCall (fun xs S => (fTup xs S).bind fun t S1 => d [t] S1) er)) := by
  obtain ⟨f, hm, hk, FO⟩ := F
  refine ⟨fun pins s σ H Q I h => ?_⟩
  obtain ⟨w, Γ, S, st, en, h⟩ := h
  refine wpAny_Call_Name_kw (ld_glob I hg hm ?_ hdb)
  refine PySem.W.callWith_K (h₀ := X.base) I.ok.mod.kin hk (thn (ha.run pos pins s σ H (fun vs H1 => spS g d vs H1 Q (WE W σ)) I ?_) fun us s1 ⟨vs, H1, I1, r, q⟩ => ⟨I1.kIn, run_fnT FO (hr.mono hkj) (passAt tk σ) I1 r q⟩) he hpl
  refine tX_seq st en h fun vs H1 xs S1 w1 s1 st1 en1 r1 h1 => ?_
  have h1 : RQ g W (RepV g) w1 σ H1 ((fTup xs S1).bind fun t S1 => d [t] S1) Q := h1
  unfold fTup at h1
  cases ec : clo xs with
  | none => rw [ec] at h1; exact h1.elim
  | some ds =>
    rw [ec] at h1
    by_cases hz : ds.length ≤ cap
    · simp only [if_pos hz, R.bind] at h1
      exact ⟨w1, S1, xs, ds, st1, r1, ec, hz, h1.wish fun _ _ _ z => z⟩
    · simp only [if_neg hz, R.bind] at h1
      exact h1.elim
/-! ### list(range(n)); three names at once -/
def fLR1 : Val → Store → R Val
  | .d (.int n), S => if n ≤ cap ∧ -cap ≤ n then .ok (.d (.lst (upto n.toNat))) S else .bad
  | _, _ => .bad
theorem repL_of {α : Type} {g : Gx} {w : Wd} {H : Hp} (f : α → D) (h : α → V) : ∀ l : List α, (∀ x ∈ l, Rep g w H (f x) (h x)) → RepL g w H (l.map f) (l.map h)
  | [], _ => .nil
  | x :: l, k => .cons (k x List.mem_cons_self) (repL_of f h l fun y hy => k y (List.mem_cons_of_mem _ hy))
section
variable {X : Cx} {g : Gx} {W : WX} {cf : Cf} {a b c : Expr} {ea eb ec : Ev} {pos p p2 pos2 : Pos} {j : Nat}
theorem p_listR1 (hc : X.calm = true) (hg : Gl X "list") (hm : X.mg "list" = none) (hg2 : Gl X "range") (hm2 : X.mg "range" = none) (ha : PE X a (tE g W ea)) (n1 : starEach [a] X.env = (false, eval a X.env) :: starEach [] X.env := by rfl)
    (n2 : starEach [.Call (.Name "range" p2) [a] [] pos2] X.env = (false, eval (.Call (.Name "range" p2) [a] [] pos2) X.env) :: starEach [] X.env := by rfl) :
    PE X (.Call (.Name "list" p) [.Call (.Name "range" p2) [a] [] pos2] [] pos) (tE g W (eUn fLR1 ea)) :=
  (pe_listRg hc hg hm (prg_1 hg2 hm2 ha n1) n2).imp fun σ H Q ⟨w, Γ, S, st, en, h⟩ => tX_seq st en h fun u H1 x S1 w1 s1 st1 en1 r1 h1 => by
    unfold fLR1 at h1
    split at h1
    · rename_i n
      obtain ⟨⟨q1, q2⟩, h1⟩ := ite_q h1
      cases r1
      have hc : ((cap : Nat) : Int) = 1000000 := rfl
      refine ⟨n, rfl, ⟨by omega, by omega, by omega, by omega, by omega⟩, fun q hq => RQ.newQ h1 st1 hq (rep_lst st1 hq ?_)⟩
      have e : rgV 0 n = (List.range n.toNat).map fun i => V.int ((i : Nat) : Int) := by
        unfold rgV
        rw [Int.sub_zero]
        exact List.map_congr_left fun i _ => by rw [Int.zero_add]
      rw [e]
      exact repL_of _ _ _ fun i _ => .int _
    · exact h1.elim
def sPar3 (i j l : Nat) (a b c : Ev) : Sv := fun Γ S => (a Γ S).fl Γ fun x S1 => (b Γ S1).fl Γ fun y S2 => (c Γ S2).fl Γ fun z S3 => .nx (((Γ.set i (some x)).set j (some y)).set l (some z)) S3
theorem s_par3 {i j l : Nat} {x y z : Str} {px py pz pt pt2 : Pos} {kt k2 : Nat} (hc : X.calm = true) (hN : X.N.Nodup) (hi : X.N[i]? = some x) (hj : X.N[j]? = some y) (hl : X.N[l]? = some z) (hij : i ≠ j) (hil : i ≠ l) (hjl : j ≠ l)
    (hx : X.env.scope.names.lookup x = some .local) (hy : X.env.scope.names.lookup y = some .local) (hz : X.env.scope.names.lookup z = some .local) (ha : PE X a (tE cf.g cf.W ea)) (hb : PE X b (tE cf.g cf.W eb)) (hcc : PE X c (tE cf.g cf.W ec))
    (hw : swappedStores [.Tuple [.Name x px, .Name y py, .Name z pz] kt pt] (.Tuple [a, b, c] k2 pt2) X.env = pure (some [x, y, z]))
    (hs : swapsWithSole [.Tuple [.Name x px, .Name y py, .Name z pz] kt pt] (.Tuple [a, b, c] k2 pt2) pos.line X.env = pure false := by rfl)
    (hs1 : starEach [a, b, c] X.env = (false, eval a X.env) :: starEach [b, c] X.env := by rfl) (hs2 : starEach [b, c] X.env = (false, eval b X.env) :: starEach [c] X.env := by rfl) (hs3 : starEach [c] X.env = (false, eval c X.env) :: starEach [] X.env := by rfl) :
    PS X (.Assign [.Tuple [.Name x px, .Name y py, .Name z pz] kt pt] (.Tuple [a, b, c] k2 pt2) pos) (tS cf (sPar3 i j l ea eb ec)) :=
  (ps_par3 hc hN hi hj hl hij hil hjl hx hy hz (pa_cons ha (pa_cons hb (pa_cons hcc pa_nil hs3) hs2) hs1) hw hs).imp fun D σ H ⟨w, Γ, S, so, en, fr, h⟩ =>
    tX_fl so en fr h fun u H1 x S1 w1 s1 st1 en1 fr1 r1 h1 => tX_fl st1 en1 fr1 h1 fun v H2 y S2 w2 s2 st2 en2 fr2 r2 h2 => tX_fl st2 en2 fr2 h2 fun t H3 z S3 w3 s3 st3 en3 fr3 r3 h3 =>
      ⟨u, v, t, rfl, FQ.nxQ h3 st3 (((en3.set i ((r1.step s2).step s3)).set j (r2.step s3)).set l r3) fr3⟩
end
end Pd

namespace Pd
open PySem PySem.Spec PyProof.Rows L2
/-! ### instances with slots: cells and closed values -/
def putF (i : Nat) (d : D) (fs : List (Option D)) : List (Option D) := (fs ++ List.replicate (i + 1 - fs.length) none).set i (some d)
theorem putF_len {i : Nat} {d : D} {v : V} {fs : List (Option D)} {vs : List (Option V)} (h : vs.length = fs.length) : (SlX.putS i v vs).length = (putF i d fs).length := by
  unfold SlX.putS putF
  simp only [List.length_set, List.length_append, List.length_replicate, h]
theorem putF_get {i j : Nat} {d x : D} {fs : List (Option D)} (h : (putF i d fs)[j]? = some (some x)) : (j = i ∧ x = d) ∨ (j ≠ i ∧ fs[j]? = some (some x)) := by
  unfold putF at h
  by_cases hj : i = j
  · subst hj
    rw [List.getElem?_set_self (by simp; omega)] at h
    cases h
    exact .inl ⟨rfl, rfl⟩
  · rw [List.getElem?_set_ne hj] at h
    refine .inr ⟨Ne.symm hj, ?_⟩
    by_cases hl : j < fs.length
    · rw [List.getElem?_append_left hl] at h
      exact h
    · rw [List.getElem?_append_right (by omega), List.getElem?_replicate] at h
      split at h <;> cases h
section
variable {g : Gx} {w : Wd} {H : Hp} {S : Store}
mutual
theorem Rep.dx {a : Addr} (h : H a = some (.own b) ∨ H a = some (.xd [])) : ∀ {d : D} {v : V}, Rep g w H d v → Rep g w (upd H a (.xd [])) d v
  | _, _, .non => .non
  | _, _, .bl b => .bl b
  | _, _, .int i => .int i
  | _, _, .str x => .str x
  | _, _, .tup k r => .tup (by
      rcases k with ⟨k, n⟩ | k
      · refine .inl ⟨?_, n⟩
        rcases k with k | ⟨o, k⟩
        · exact .inl (by rw [upd_ne (fun z => by rw [z] at k; rcases h with h | h <;> (rw [h] at k; cases k))]; exact k)
        · exact .inr ⟨o, by rw [upd_ne (fun z => by rw [z] at k; rcases h with h | h <;> (rw [h] at k; cases k))]; exact k⟩
      · exact .inr k) (RepL.dx h r)
  | _, _, .lst k n r => .lst (by rw [upd_ne (fun z => by rw [z] at k; rcases h with h | h <;> (rw [h] at k; cases k))]; exact k) n (RepL.dx h r)
  | _, _, .obj c k e n n2 r => .obj c (by rw [upd_ne (fun z => by rw [z] at k; rcases h with h | h <;> (rw [h] at k; cases k))]; exact k) (by
      unfold upd
      split
      · rfl
      · exact e) n n2 (RepL.dx h r)
  | _, _, .scr k => .scr (by
      rcases k with ⟨k, n⟩ | k
      · refine .inl ⟨?_, n⟩
        rcases k with k | ⟨o, k⟩
        · exact .inl (by rw [upd_ne (fun z => by rw [z] at k; rcases h with h | h <;> (rw [h] at k; cases k))]; exact k)
        · exact .inr ⟨o, by rw [upd_ne (fun z => by rw [z] at k; rcases h with h | h <;> (rw [h] at k; cases k))]; exact k⟩
      · exact .inr k)
  | _, _, .val v => .val v
  | _, _, .fn h => .fn h
  | _, _, .dct k n z r => .dct (by rw [upd_ne (fun z => by rw [z] at k; rcases h with h | h <;> (rw [h] at k; cases k))]; exact k) n z (RepL.dx h r)
theorem RepL.dx {a : Addr} (h : H a = some (.own b) ∨ H a = some (.xd [])) : ∀ {d : List D} {v : List V}, RepL g w H d v → RepL g w (upd H a (.xd [])) d v
  | _, _, .nil => .nil
  | _, _, .cons k r => .cons (Rep.dx h k) (RepL.dx h r)
end
/-- an instance of the store takes a slot's value -/
theorem le_mutO {a C dx : Addr} {vs : List (Option V)} (hav : w.av a) (nd : ¬ w.av dx) (h5 : H dx = some (.own a) ∨ H dx = some (.xd [])) (st : StOk g w S H) (ha : H a ≠ none) (hm : a ∉ w.hid) : Le w H w (SlX.slH H a C dx vs) where
  av := fun b z => .inl z
  keepN := fun b o e z n => by
    have nb : b ≠ a := fun q => n (by rw [q]; exact hav)
    by_cases q : b = dx
    · subst q
      unfold SlX.slH
      rw [upd_ne nb, upd_same]
      rcases h5 with h5 | h5
      · rw [e] at h5; cases h5; exact absurd rfl (z.1 a)
      · rw [← h5]; exact e
    · rw [SlX.slH_ne nb q]; exact e
  trk := fun b e => by
    unfold SlX.slH upd
    split
    · exact fun z => by cases z
    · split
      · exact fun z => by cases z
      · exact e
  hk := fun b z => SlX.slH_ne (fun q => hm (by rw [← q]; exact z)) (fun q => nd (by rw [← q]; exact .inr z))
theorem obj_at {k : Nat} {v : V} {c : Str} {fs : List (Option D)} (st : StOk g w S H) (r : RepV g w H (.cell k) v) (e : S[k]? = some (some (.obj c fs))) : ∃ a, v = .ref a ∧ w.m[k]? = some (some a) ∧ CellOk g w H (.obj c fs) a := by
  obtain ⟨a, h1, h2⟩ := st.cell k _ e
  exact ⟨a, r.2 a h1, h1, h2⟩
theorem StOk.mutO (st : StOk g w S H) {k : Nat} {a C dx : Addr} {c : Str} {fs : List (Option D)} {vs : List (Option V)} {i : Nat} {d : D} {v : V} (hk : w.m[k]? = some (some a)) (hS : S[k]? = some (some (.obj c fs))) (h1 : g.cl c = some C) (h2 : dx ≠ a) (h3 : ¬ w.av dx) (h4 : SlX.Slt H a C dx vs) (h5 : H dx = some (.own a) ∨ H dx = some (.xd [])) (hl : vs.length = fs.length) (h6 : ∀ (i : Nat) (x : D), fs[i]? = some (some x) → ∃ v, vs[i]? = some (some v) ∧ Rep g w H x v) (r : Rep g w H d v) :
    StOk g w (S.set k (some (.obj c (putF i d fs)))) (SlX.slH H a C dx (SlX.putS i v vs)) ∧ Stp w H w (SlX.slH H a C dx (SlX.putS i v vs)) := by
  have hav : w.av a := .inl (List.mem_of_getElem? hk)
  have ha : H a ≠ none := by
    rcases h4 with ⟨q, _⟩ | ⟨q, _⟩ <;> rw [q] <;> exact fun z => by cases z
  have hm : a ∉ w.hid := fun z => (st.hid a z).1 (List.mem_of_getElem? hk)
  have le := le_mutO (C := C) (vs := SlX.putS i v vs) hav h3 h5 st ha hm
  have hlt : k < S.length := by
    rcases Nat.lt_or_ge k S.length with q | q
    · exact q
    · rw [List.getElem?_eq_none q] at hS
      cases hS
  refine ⟨⟨by rw [List.length_set]; exact st.len, fun j cc e => ?_, fun j b e => ?_, st.inj, fun b z => ⟨(st.hid b z).1, by rw [le.hk b z]; exact (st.hid b z).2⟩, fun r ks e => ?_, fun p z => (st.tab p z).le le fun ps e n => by
    rw [SlX.slH_ne (fun q => n (by rw [q]; exact hav)) (fun q => by rw [q] at e; rcases h5 with y | y <;> (rw [e] at y; cases y))]
    exact e⟩, ⟨le, rfl, rfl, fun _ _ e => e⟩⟩
  rotate_left 2
  · by_cases hj : k = r
    · subst hj
      rw [List.getElem?_set_self hlt] at e
      cases e
    · rw [List.getElem?_set_ne hj] at e
      exact st.lo r ks e
  · by_cases hj : k = j
    · subst hj
      rw [List.getElem?_set_self hlt] at e
      cases e
      refine ⟨a, hk, C, dx, SlX.putS i v vs, h1, h2, h3, SlX.slH_slt h2, ?_, putF_len hl, fun j x q => ?_⟩
      · unfold SlX.slH
        rw [upd_ne h2, upd_same]
        exact .inr rfl
      · have tr : ∀ {x : D} {u : V}, Rep g w H x u → Rep g w (SlX.slH H a C dx (SlX.putS i v vs)) x u := fun q => Rep.le le q
        rcases putF_get q with ⟨rfl, rfl⟩ | ⟨hj, q⟩
        · exact ⟨v, SlX.putS_get _ _ _, tr r⟩
        · obtain ⟨u, q1, q2⟩ := h6 j x q
          exact ⟨u, (SlX.putS_ne hj).mpr q1, tr q2⟩
    · rw [List.getElem?_set_ne hj] at e
      obtain ⟨b, q1, q2⟩ := st.cell j cc e
      have nb : b ≠ a := fun q => hj (st.inj k j a hk (by rw [← q]; exact q1))
      refine ⟨b, q1, q2.le le fun y o hy e => ?_⟩
      have hb : w.av b := .inl (List.mem_of_getElem? q1)
      have n1 : y ≠ a := fun z => by
        rcases hy with hy | hy
        · exact nb (by rw [← hy, z])
        · rw [z] at hy
          rcases h4 with ⟨q, _⟩ | ⟨q, _⟩
          · rw [q] at hy; cases hy
          · rw [q] at hy
            unfold SlX.SlO at hy
            cases hy
      have n2 : y ≠ dx := fun z => by
        rcases hy with hy | hy
        · exact h3 (by rw [← z, hy]; exact hb)
        · rw [z] at hy
          rcases h5 with q | q
          · rw [q] at hy; cases hy; exact nb rfl
          · rw [q] at hy; cases hy
      rw [SlX.slH_ne n1 n2]
      exact e
  · by_cases hj : k = j
    · subst hj
      exact ⟨_, by rw [List.getElem?_set_self hlt]⟩
    · rw [List.getElem?_set_ne hj]
      exact st.live j b e
end
/-! a class's slots, as the text has them -/
structure SlotC (g : Gx) (c f : Str) (i : Nat) : Prop where
  ex : ∃ C p, g.cl c = some C ∧ SlX.SCls g.K C ∧ SlX.Slot1 g.K C f p i
/-- o.f -/
def fFld (c : Str) (i : Nat) : Val → Store → R Val
  | .d (.obj c' ds), S => if c' = c then (match ds[i]? with | some d => .ok (.d d) S | none => .bad) else .bad
  | .cell k, S => (match S[k]? with | some (some (.obj c' fs)) => if c' = c then (match fs[i]? with | some (some d) => .ok (.d d) S | _ => .bad) else .bad | _ => .bad)
  | _, _ => .bad
section
variable {X : Cx} {g : Gx} {W : WX} {cf : Cf} {o a b c e : Expr} {eo ea eb ec : Ev} {pos p p2 pos2 : Pos} {j : Nat} {f : Str}
theorem p_fld {c : Str} {i : Nat} (hK : g.K = X.K) (K : SlotC g c f i) (he : PE X e (tE g W ea)) (hb : attributeBase e f X.env (eval e X.env) = eval e X.env := by rfl) : PE X (.Attribute e f pos) (tE g W (eUn (fFld c i) ea)) :=
  (SlX.pe_sl he hb).imp fun σ H Q ⟨w, Γ, S, st, en, h⟩ => tX_seq st en h fun u H1 x S1 w1 s1 st1 en1 r1 h1 => by
    obtain ⟨C, q, hc, sc, sl⟩ := K.ex
    rw [hK] at sc sl
    unfold fFld at h1
    split at h1
    · rename_i c' ds
      replace h1 := ite_q h1
      obtain ⟨rfl, h1⟩ := h1
      cases ed : ds[i]? with
      | none => rw [ed] at h1; exact h1.elim
      | some d =>
        rw [ed] at h1
        cases r1 with
        | obj c1 k e1 n n2 r =>
          rw [hc] at c1
          cases c1
          obtain ⟨v, q1, q2⟩ := r.get ed
          exact ⟨_, _, _, _, _, i, v, rfl, .inr ⟨k, e1⟩, sc, sl, by rw [List.getElem?_map, q1]; rfl, RQ.okQ h1 st1 q2⟩
    · rename_i k
      split at h1
      · rename_i c' fs e1
        replace h1 := ite_q h1
        obtain ⟨rfl, h1⟩ := h1
        cases ed : fs[i]? with
        | none => rw [ed] at h1; exact h1.elim
        | some od =>
         cases od with
         | none => rw [ed] at h1; exact h1.elim
         | some d =>
          rw [ed] at h1
          obtain ⟨a, ev, hk, C', dx, vs, h1', h2, h3, h4, h5, hl, h6⟩ := obj_at st1 r1 e1
          subst ev
          rw [hc] at h1'
          cases h1'
          obtain ⟨v, q1, q2⟩ := h6 i d ed
          exact ⟨_, _, _, _, _, i, v, rfl, h4, sc, sl, q1, RQ.okQ h1 st1 q2⟩
      · exact h1.elim
    · exact h1.elim
end
/-! ### o.f = value -/
def putO (c : Str) (i : Nat) (o x : Val) (S : Store) : Option Store := match o, x with
  | .cell k, .d d => (match S[k]? with | some (some (.obj c' fs)) => if c' = c then some (S.set k (some (.obj c (putF i d fs)))) else none | _ => none)
  | _, _ => none
theorem put_q {g : Gx} {w : Wd} {H : Hp} {S S' : Store} {c f : Str} {i : Nat} {o x : Val} {ov xv : V} (e : putO c i o x S = some S') (st : StOk g w S H) (ro : RepV g w H o ov) (rx : RepV g w H x xv) (K : SlotC g c f i) :
    ∃ a C dx p vs, ov = .ref a ∧ SlX.Slt H a C dx vs ∧ SlX.SCls g.K C ∧ SlX.Slot1 g.K C f p i ∧ StOk g w S' (SlX.slH H a C dx (SlX.putS i xv vs)) ∧ Stp w H w (SlX.slH H a C dx (SlX.putS i xv vs)) := by
  obtain ⟨C, p, hc, sc, sl⟩ := K.ex
  cases o with
  | d o => cases e
  | cell k =>
    cases x with
    | cell j => cases e
    | d d =>
      have e : (match S[k]? with | some (some (.obj c' fs)) => if c' = c then some (S.set k (some (.obj c (putF i d fs)))) else none | _ => none) = some S' := e
      cases q : S[k]? with
      | none => rw [q] at e; cases e
      | some oc =>
        cases oc with
        | none => rw [q] at e; cases e
        | some cl =>
          cases cl with
          | lst ds => rw [q] at e; cases e
          | refs ks => rw [q] at e; cases e
          | obj c' fs =>
            rw [q] at e
            have e : (if c' = c then some (S.set k (some (.obj c (putF i d fs)))) else none) = some S' := e
            by_cases hcc : c' = c
            · rw [if_pos hcc] at e
              cases e
              subst hcc
              obtain ⟨a, ev, hk, C', dx, vs, h1, h2, h3, h4, h5, hl, h6⟩ := obj_at st ro q
              rw [hc] at h1
              cases h1
              obtain ⟨k1, k2⟩ := st.mutO hk q hc h2 h3 h4 h5 hl h6 rx
              exact ⟨a, C, dx, p, vs, ev, h4, sc, sl, k1, k2⟩
            · rw [if_neg hcc] at e
              cases e
section
variable {X : Cx} {cf : Cf} {o a b d : Expr} {ea eb ed : Ev} {pos pos' : Pos} {f f1 f2 f3 : Str}
abbrev gSl (K : PySem.W.Frag) (tao : TE) (f : Str) : TG := fun v σ H Q => tao σ H fun x H2 => ∃ a C dx p vs i, x = V.ref a ∧ SlX.Slt H2 a C dx vs ∧ SlX.SCls K C ∧ SlX.Slot1 K C f p i ∧ Q σ (SlX.slH H2 a C dx (SlX.putS i v vs))
theorem pg_sl {tao : TE} (ho : PE X o tao) : PG X (.Attribute o f pos) (gSl X.K tao f) := by
  refine ⟨fun pins s σ H v u Q I r h => PySem.W.kas_attr (thn (ho.run pins s σ H _ I h) fun ov s1 ⟨x, H2, I2, rx, a, C, dx, p, vs, i, ex, hsl, c, t, q⟩ => ?_)⟩
  subst ex
  obtain rfl : ov = Value.ref a := rx
  exact SlX.setslot_ok I2 hsl c t r fun s3 I3 => ⟨σ, _, I3, q⟩
def sPut1 (j : Nat) (c : Str) (i : Nat) (ea : Ev) : Sv := fun Γ S => (ea Γ S).fl Γ fun x S1 => match Γ[j]? with | some (some o) => (match putO c i o x S1 with | some S2 => .nx Γ S2 | none => .bad) | _ => .bad
def sPut2 (j : Nat) (c : Str) (i1 i2 : Nat) (ea eb : Ev) : Sv := fun Γ S => (ea Γ S).fl Γ fun x S1 => (eb Γ S1).fl Γ fun y S2 => match Γ[j]? with | some (some o) => (match (putO c i1 o x S2).bind (putO c i2 o y) with | some S3 => .nx Γ S3 | none => .bad) | _ => .bad
def sPut3 (j : Nat) (c : Str) (i1 i2 i3 : Nat) (ea eb ec : Ev) : Sv := fun Γ S => (ea Γ S).fl Γ fun x S1 => (eb Γ S1).fl Γ fun y S2 => (ec Γ S2).fl Γ fun z S3 => match Γ[j]? with | some (some o) => (match ((putO c i1 o x S3).bind (putO c i2 o y)).bind (putO c i3 o z) with | some S4 => .nx Γ S4 | none => .bad) | _ => .bad
theorem rq_var {g : Gx} {W : WX} {w : Wd} {σ : L2.St} {H : Hp} {Γ : Env} {S : Store} {j : Nat} {o : Val} {Q : VK} (e : Γ[j]? = some (some o)) (h : ∀ v w' H', Stp w H w' H' → StOk g w' S H' → RepV g w' H' o v → Q v H') : RQ g W (RepV g) w σ H (eVar j Γ S) Q := by
  unfold eVar
  rw [e]
  exact h
/-- the targets, one after another: the object is read anew each time -/
theorem put_step {g : Gx} {W : WX} {w : Wd} {σ : L2.St} {H : Hp} {Γ : Env} {S S' : Store} {j i : Nat} {c : Str} {ox x : Val} {xv : V} {Q : L2.St → Hp → Prop} (hK : g.K = X.K) (hj : Γ[j]? = some (some ox)) (st : StOk g w S H) (en : EnvOk g w Γ σ H) (rx : RepV g w H x xv) (e : putO c i ox x S = some S') (K : SlotC g c f i)
    (h : ∀ w' H', Stp w H w' H' → StOk g w' S' H' → Q σ H') : gSl X.K (tE g W (eVar j)) f xv σ H Q := by
  refine ⟨w, Γ, S, st, en, rq_var hj fun ov w3 H3 s3 st3 ro => ?_⟩
  obtain ⟨a, C, dx, p, vs, e1, e2, e3, e4, e5, e6⟩ := put_q e st3 ro (rx.step s3) K
  exact ⟨a, C, dx, p, vs, i, e1, e2, hK ▸ e3, hK ▸ e4, h w3 _ (s3.trans e6) e5⟩
theorem s_put1 {j i : Nat} {c : Str} (hK : cf.g.K = X.K) (K : SlotC cf.g c f i) (ho : PE X o (tE cf.g cf.W (eVar j))) (ha : PE X a (tE cf.g cf.W ea)) (hs : swapsWithSole [.Attribute o f pos'] a pos.line X.env = pure false := by rfl) (hw : swappedStores [.Attribute o f pos'] a X.env = pure none := by rfl)
    (h1 : (assignEach [.Attribute o f pos'] X.env).map (·.2) = [assign (.Attribute o f pos') X.env] := by rfl) : PS X (.Assign [.Attribute o f pos'] a pos) (tS cf (sPut1 j c i ea)) :=
  (ps_asg ha (pg_sl ho) hs hw h1).imp fun D σ H ⟨w, Γ, S, so, en, fr, h⟩ => tX_fl so en fr h fun u H1 x S1 w1 s1 st1 en1 fr1 r1 h1 => by
    cases q : Γ[j]? with
    | none => rw [q] at h1; exact h1.elim
    | some oo =>
      cases oo with
      | none => rw [q] at h1; exact h1.elim
      | some ox =>
        rw [q] at h1
        have h1 : FQ cf w1 H1 (match putO c i ox x S1 with | some S2 => .nx Γ S2 | none => .bad) D := h1
        cases e : putO c i ox x S1 with
        | none => rw [e] at h1; exact h1.elim
        | some S2 =>
          rw [e] at h1
          exact put_step hK q st1 en1 r1 e K fun w' H' s' st' => h1 σ w' H' s'.le (fr1.stp s') st' (en1.step s')
theorem s_put2 {j i1 i2 k1 k2 : Nat} {c : Str} {p1 p2 q1 q2 : Pos} (hK : cf.g.K = X.K) (hc : X.calm = true) (K1 : SlotC cf.g c f1 i1) (K2 : SlotC cf.g c f2 i2) {o1 o2 : Expr} (ho1 : PE X o1 (tE cf.g cf.W (eVar j))) (ho2 : PE X o2 (tE cf.g cf.W (eVar j))) (ha : PE X a (tE cf.g cf.W ea)) (hb : PE X b (tE cf.g cf.W eb))
    (hs : swapsWithSole [.Tuple [.Attribute o1 f1 p1, .Attribute o2 f2 p2] k1 q1] (.Tuple [a, b] k2 q2) pos.line X.env = pure false := by rfl) (hw : swappedStores [.Tuple [.Attribute o1 f1 p1, .Attribute o2 f2 p2] k1 q1] (.Tuple [a, b] k2 q2) X.env = pure none := by rfl)
    (hs1 : starEach [a, b] X.env = (false, eval a X.env) :: starEach [b] X.env := by rfl) (hs2 : starEach [b] X.env = (false, eval b X.env) :: starEach [] X.env := by rfl)
    (h1 : (assignEach [.Tuple [.Attribute o1 f1 p1, .Attribute o2 f2 p2] k1 q1] X.env).map (·.2) = [assign (.Tuple [.Attribute o1 f1 p1, .Attribute o2 f2 p2] k1 q1) X.env] := by rfl)
    (hn : (assignEach [.Attribute o1 f1 p1, .Attribute o2 f2 p2] X.env).length = 2 := by rfl) (hst : (assignEach [.Attribute o1 f1 p1, .Attribute o2 f2 p2] X.env).findIdx? (·.1) = none := by rfl)
    (ht1 : (assignEach [.Attribute o1 f1 p1, .Attribute o2 f2 p2] X.env).map (·.2) = assign (.Attribute o1 f1 p1) X.env :: (assignEach [.Attribute o2 f2 p2] X.env).map (·.2) := by rfl) (ht2 : (assignEach [.Attribute o2 f2 p2] X.env).map (·.2) = assign (.Attribute o2 f2 p2) X.env :: (assignEach [] X.env).map (·.2) := by rfl) :
    PS X (.Assign [.Tuple [.Attribute o1 f1 p1, .Attribute o2 f2 p2] k1 q1] (.Tuple [a, b] k2 q2) pos) (tS cf (sPut2 j c i1 i2 ea eb)) :=
  (ps_asg (pe_tup (pa_cons ha (pa_cons hb pa_nil hs2) hs1)) (pg_tup hc (pgs_cons (pg_sl ho1) (pgs_cons (pg_sl ho2) pgs_nil ht2) ht1) hn hst) hs hw h1).imp fun D σ H ⟨w, Γ, S, so, en, fr, h⟩ =>
    tX_fl so en fr h fun u H1 x S1 w1 s1 st1 en1 fr1 r1 h1 => tX_fl st1 en1 fr1 h1 fun v H2 y S2 w2 s2 st2 en2 fr2 r2 h2 => by
      refine ⟨by show 2 ≤ sizeLine; decide, fun p hp => ⟨p, [u, v], rfl, .inl (.inl upd_same), rfl, u, [v], rfl, ?_⟩⟩
      have sp := step_new (o := .tup [u, v]) st2 hp
      cases q : Γ[j]? with
      | none => rw [q] at h2; exact h2.elim
      | some oo =>
        cases oo with
        | none => rw [q] at h2; exact h2.elim
        | some ox =>
          rw [q] at h2
          have h2 : FQ cf w2 H2 (match (putO c i1 ox x S2).bind (putO c i2 ox y) with | some S3 => .nx Γ S3 | none => .bad) D := h2
          cases e : putO c i1 ox x S2 with
          | none => rw [e] at h2; exact h2.elim
          | some S3 =>
            rw [e] at h2
            have h2 : FQ cf w2 H2 (match putO c i2 ox y S3 with | some S3 => .nx Γ S3 | none => .bad) D := h2
            cases e2 : putO c i2 ox y S3 with
            | none => rw [e2] at h2; exact h2.elim
            | some S4 =>
              rw [e2] at h2
              refine put_step (Q := fun σ' H' => gCons (gSl X.K (tE cf.g cf.W (eVar j)) f2) gNil [v] σ' H' D.nx) hK q (st2.new hp) (en2.step sp) ((r1.step s2).step sp) e K1 fun w3 H3 s3 st3 => ⟨v, [], rfl, ?_⟩
              exact put_step (Q := fun σ' H' => gNil [] σ' H' D.nx) hK q st3 ((en2.step sp).step s3) ((r2.step sp).step s3) e2 K2 fun w4 H4 s4 st4 => ⟨rfl, h2 σ w4 H4 ((sp.trans s3).trans s4).le (((fr2.stp sp).stp s3).stp s4) st4 (((en2.step sp).step s3).step s4)⟩
end
/-! ### C(..) -/
def allF : List (Option D) → Option (List D)
  | [] => some []
  | none :: _ => none
  | some d :: r => (allF r).map (d :: ·)
theorem allF_eq : ∀ {fs : List (Option D)} {ds : List D}, allF fs = some ds → fs = ds.map some
  | [], _, h => by cases h; rfl
  | none :: _, _, h => by cases h
  | some d :: r, ds, h => by
    unfold allF at h
    cases q : allF r with
    | none => rw [q] at h; cases h
    | some es => rw [q] at h; cases h; rw [allF_eq q]; rfl
/-- a new instance of c, its def __init__ being d; from then on a closed value -/
def mkO (c : Str) (d : List Val → Store → R Val) (xs : List Val) (S : Store) : R Val := match d (.cell S.length :: xs) (S ++ [some (.obj c [])]) with
  | .ok (.d .non) S' => (match S'[S.length]? with
    | some (some (.obj c' fs)) => (match allF fs with
      | some ds => if ds ≠ [] ∧ c' = c then .ok (.d (.obj c ds)) (S'.take S.length) else .bad
      | none => .bad)
    | _ => .bad)
  | .exc e x S' => .exc e x (S'.take S.length)
  | _ => .bad
section
variable {g : Gx} {w : Wd} {H : Hp} {S : Store} {x dx C : Addr}
theorem made_at (hx : H x = none) (hd : H dx = none) {b : Addr} {o : HO} (h : H b = some o) : upd (upd H dx (.own x)) x (.ins C dx []) b = some o := by
  rw [upd_ne (ne_of_none h hx), upd_ne (ne_of_none h hd)]
  exact h
theorem le_made (hx : H x = none) (hd : H dx = none) (st : StOk g w S H) : Le w H ⟨w.m ++ [some x], w.hid⟩ (upd (upd H dx (.own x)) x (.ins C dx [])) where
  av := fun a z => by
    rcases z with z | z
    · rcases List.mem_append.mp z with z | z
      · exact .inl (.inl z)
      · have := List.mem_singleton.mp z
        cases this
        exact .inr hx
    · exact .inl (.inr z)
  keepN := fun a o e _ _ => made_at hx hd e
  trk := fun a e => by
    unfold upd
    split
    · exact fun z => by cases z
    · split
      · exact fun z => by cases z
      · exact e
  hk := fun a z => by
    cases q : H a with
    | none => exact absurd q (st.hidN z)
    | some o => exact made_at hx hd q
theorem StOk.made {c : Str} (st : StOk g w S H) (hc : g.cl c = some C) (hx : H x = none) (hd : H dx = none) (hne : dx ≠ x) : StOk g ⟨w.m ++ [some x], w.hid⟩ (S ++ [some (.obj c [])]) (upd (upd H dx (.own x)) x (.ins C dx [])) := by
  have le := le_made (C := C) hx hd st
  have hl : w.m.length = S.length := st.len
  have nx : some x ∉ w.m := fun z => st.nav hx (.inl z)
  refine ⟨by show (w.m ++ [some x]).length = _; simp [hl], fun k cc e => ?_, fun k a e => ?_, fun j k a e1 e2 => ?_, fun a z => ⟨fun y => ?_, by rw [le.hk a z]; exact (st.hid a z).2⟩, fun r ks e => ?_, fun p z => (st.tab p z).le le fun ps e _ => made_at hx hd e⟩
  rotate_left 4
  · by_cases hk : r < S.length
    · rw [List.getElem?_append_left hk] at e
      exact st.lo r ks e
    · rw [List.getElem?_append_right (by omega)] at e
      cases e2 : r - S.length with
      | zero => rw [e2] at e; cases e
      | succ j => rw [e2] at e; simp at e
  · by_cases hk : k < S.length
    · rw [List.getElem?_append_left hk] at e
      obtain ⟨a, h1, h2⟩ := st.cell k cc e
      exact ⟨a, by show (w.m ++ [some x])[k]? = _; rw [List.getElem?_append_left (by omega)]; exact h1, h2.le le (fun b o _ q => made_at hx hd q) fun j b hj z => by
        obtain ⟨ks, hc, hj⟩ := hj
        subst hc
        have lt := st.lo k ks e j hj
        have z : (w.m ++ [some x])[j]? = some (some b) := z
        rw [List.getElem?_append_left (by omega)] at z
        exact z⟩
    · have hk2 : k = S.length := by
        rcases Nat.lt_or_ge k (S.length + 1) with q | q
        · omega
        · rw [List.getElem?_eq_none (by simp; omega)] at e; cases e
      subst hk2
      rw [List.getElem?_append_right (Nat.le_refl _), Nat.sub_self] at e
      cases e
      refine ⟨x, by show (w.m ++ [some x])[S.length]? = _; rw [List.getElem?_append_right (by omega), hl, Nat.sub_self]; rfl, C, dx, [], hc, hne, ?_, .inl ⟨upd_same, rfl⟩, .inl (by rw [upd_ne hne, upd_same]), rfl, fun i y q => by simp at q⟩
      rintro (z | z)
      · rcases List.mem_append.mp z with z | z
        · exact st.nav hd (.inl z)
        · have := List.mem_singleton.mp z
          cases this
          exact hne rfl
      · exact st.nav hd (.inr z)
  · have e : (w.m ++ [some x])[k]? = some (some a) := e
    by_cases hk : k < S.length
    · rw [List.getElem?_append_left (by omega)] at e
      obtain ⟨cc, q⟩ := st.live k a e
      exact ⟨cc, by rw [List.getElem?_append_left hk]; exact q⟩
    · rw [List.getElem?_append_right (by omega)] at e ⊢
      have : k - S.length = 0 := by
        cases q : k - w.m.length with
        | zero => omega
        | succ n => rw [q] at e; simp at e
      exact ⟨_, by rw [this]; rfl⟩
  · have e1 : (w.m ++ [some x])[j]? = some (some a) := e1
    have e2 : (w.m ++ [some x])[k]? = some (some a) := e2
    rw [List.getElem?_append] at e1 e2
    have one : ∀ (i : Nat) (b : Addr), [some x][i]? = some (some b) → i = 0 ∧ b = x := fun i b q => by
      cases i with
      | zero => cases q; exact ⟨rfl, rfl⟩
      | succ i => simp at q
    split at e1 <;> split at e2
    · exact st.inj j k a e1 e2
    · exact absurd (List.mem_of_getElem? e1) (by rw [(one _ _ e2).2]; exact nx)
    · exact absurd (List.mem_of_getElem? e2) (by rw [(one _ _ e1).2]; exact nx)
    · have := (one _ _ e1).1
      have := (one _ _ e2).1
      omega
  · rcases List.mem_append.mp y with y | y
    · exact (st.hid a z).1 y
    · have := List.mem_singleton.mp y
      cases this
      exact st.hidN z hx
theorem RepVs.grow {w' : Wd} {H' : Hp} (l : Le w H w' H') (hm : ∀ k, k < w.m.length → k < w'.m.length ∧ ∀ a, w'.m[k]? = some (some a) → w.m[k]? = some (some a)) : ∀ {xs : List Val} {vs : List V}, RepVs g w H xs vs → RepVs g w' H' xs vs
  | _, _, .nil => .nil
  | _, _, .cons (d := d) h r => .cons (by
      cases d with
      | d d => exact Rep.le l h
      | cell k => exact ⟨(hm k h.1).1, fun a e => h.2 a ((hm k h.1).2 a e)⟩) (RepVs.grow l hm r)
end
/-- a def at f, by its denotation -/
def FnM (P : Program) (w : World) (K : PySem.W.Frag) (mg : Str → Option Value) (base : Heap) (g : Gx) (k : Nat) (f : Addr) (n : Nat) (d : List Val → Store → R Val) : Prop := FnR P w K mg base (L2.CX P w) k f (spD g d n false)
theorem run_makeT {X : Cx} {pins : List (Addr × Obj)} {σ : L2.St} {H : Hp} {s : Shared} {Q : VK} {us : List Value} {vs : List V} {k : Nat} {f C : Addr} {sp : Sp} {E : XK} (M : Mk X.K C f) (F : FnR X.prog X.w X.K X.mg X.base (L2.CX X.prog X.w) k f sp) (hr : Room (k + 1) X.A) (hx : PassesAt (L2.CX X.prog X.w) X σ E) (I : Inv X pins σ H s) (r : Vals vs us)
    (h : ∀ x dx, H x = Option.none → H dx = Option.none → dx ≠ x → sp (V.ref x :: vs) (upd (upd H dx (.own x)) x (.ins C dx [])) (fun v H2 => v = .non ∧ Q (.ref x) H2) E) : wpAny (model X.prog X.w) X.A (call (.ref C) us) (EP X pins σ Q) X.xe s := by
  have z := h (s.heap.objs.size + 1) s.heap.objs.size (I.hok.fresh (Nat.le_succ _)) (I.hok.fresh (Nat.le_refl _)) (Nat.ne_of_lt (Nat.lt_succ_self _))
  have J := Inv.made (C := C) I
  have rr : Vals (V.ref (s.heap.objs.size + 1) :: vs) (Value.ref (s.heap.objs.size + 1) :: us) := .cons rfl r
  refine wpAny_call (make_map (f := f) I.kIn M.makes M.init (beq_iff_eq.mp M.fn) (codeAny_mono (F _ X.stack _ _ (Value.ref (s.heap.objs.size + 1) :: us) _ _ E (hr.make C us []) (J.env0.make C us []) rr z) fun res s' hq => ?_))
  match res, hq with
  | .error e, hq => exact hx pins _ _ e s' J hq
  | .ok (.ret u), hq =>
    obtain ⟨v, H', I3, rv, ev, q3⟩ := J.after hq
    subst ev
    exact ⟨rv, ⟨V.ref (s.heap.objs.size + 1), H', I3, rfl, q3⟩⟩
theorem p_make {X : Cx} {g : Gx} {W : WX} {k j n : Nat} {f C : Addr} {c x : Str} {d : List Val → Store → R Val} {e : Expr} {es : List Expr} {er : Env → Store → R (List Val)} {p pos : Pos} (M : Mk X.K C f) (hc : g.cl c = some C) (hm : X.mg x = some (.ref C)) (F : FnM X.prog X.w X.K X.mg X.base g k f (n + 1) d) (hr : Room j X.A) (hkj : k + 1 ≤ j) (hg : Gl X x) (tk : Takes X W)
    (hel : ∀ Γ S xs S', er Γ S = .ok xs S' → xs.length = n) (ha : PA X (e :: es) (tA g W er)) (hdb : (x == ("__debug__" : Str)) = false := by decide) (he : starEach (e :: es) X.env = (false, eval e X.env) :: starEach es X.env := by rfl) (hpl : (backTo pos (starEach es X.env)).any (·.1) = false := by rfl) :
    PE X (.Call (.Name x p) (e :: es) [] pos) (tE g W (eCall (mkO c d) er)) := by
  refine ⟨fun pins s σ H Q I h => ?_⟩
  obtain ⟨w, Γ, S, st, en, h⟩ := h
  refine wpAny_Call_Name_kw (ld_glob I hg hm ?_ hdb)
  refine PySem.W.callWith_K (h₀ := X.base) I.ok.mod.kin M.kp (thn (ha.run pos pins s σ H (fun vs H1 => ∀ x dx, H1 x = none → H1 dx = none → dx ≠ x → spD g d (n + 1) false (V.ref x :: vs) (upd (upd H1 dx (.own x)) x (.ins C dx [])) (fun v H2 => v = .non ∧ Q (.ref x) H2) (WE W σ)) I ?_) fun us s1 ⟨vs, H1, I1, r, q⟩ => ⟨I1.kIn, run_makeT M F (hr.mono hkj) (passAt tk σ) I1 r q⟩) he hpl
  have key : ∀ (w1 : Wd) (H1 : Hp) (S1 : Store) (xs : List Val) (vs : List V), xs.length = n → StOk g w1 S1 H1 → RepVs g w1 H1 xs vs → RQ g W (RepV g) w1 σ H1 (mkO c d xs S1) Q → ∀ x dx, H1 x = none → H1 dx = none → dx ≠ x → spD g d (n + 1) false (V.ref x :: vs) (upd (upd H1 dx (.own x)) x (.ins C dx [])) (fun v H2 => v = .non ∧ Q (.ref x) H2) (WE W σ) := by
    intro w1 H1 S1 xs vs hl st1 r1 h1 x dx hx hdx hne
    have st2 := st1.made (C := C) hc hx hdx hne
    have le := le_made (C := C) hx hdx st1
    have ml : w1.m.length = S1.length := st1.len
    have rx : RepV g ⟨w1.m ++ [some x], w1.hid⟩ (upd (upd H1 dx (.own x)) x (.ins C dx [])) (.cell S1.length) (.ref x) := by
      refine ⟨by show _ < (w1.m ++ [some x]).length; simp [ml], fun a e => ?_⟩
      have e : (w1.m ++ [some x])[S1.length]? = some (some a) := e
      rw [List.getElem?_append_right (by omega), ml, Nat.sub_self] at e
      cases e
      rfl
    have rs : RepVs g ⟨w1.m ++ [some x], w1.hid⟩ (upd (upd H1 dx (.own x)) x (.ins C dx [])) xs vs := RepVs.grow le (fun k hk => ⟨by show k < (w1.m ++ [some x]).length; rw [List.length_append]; omega, fun a e => by
      have e : (w1.m ++ [some x])[k]? = some (some a) := e
      rw [List.getElem?_append_left hk] at e
      exact e⟩) r1
    refine ⟨by rw [List.length_cons, ← r1.length, hl], ⟨w1.m ++ [some x], w1.hid⟩, S1 ++ [some (.obj c [])], .cell S1.length :: xs, st2, .cons rx rs, ?_⟩
    rw [if_neg Bool.false_ne_true]
    have fin : ∀ (w2 : Wd) (H2 : Hp) (S' : Store), Stp ⟨w1.m ++ [some x], w1.hid⟩ (upd (upd H1 dx (.own x)) x (.ins C dx [])) w2 H2 → StOk g w2 S' H2 → Stp w1 H1 ⟨w2.m.take S1.length, w2.hid⟩ H2 ∧ StOk g ⟨w2.m.take S1.length, w2.hid⟩ (S'.take S1.length) H2 ∧ Le w2 H2 ⟨w2.m.take S1.length, w2.hid⟩ H2 := fun w2 H2 S' s2 t2 => by
      obtain ⟨m2, h2⟩ := w2
      have eh : h2 = w1.hid := s2.hid
      subst eh
      have l3 : Le ⟨m2, w1.hid⟩ H2 ⟨m2.take S1.length, w1.hid⟩ H2 := le_take
      have len2 : m2.length = (w1.m ++ [some x]).length := s2.len
      refine ⟨⟨(le.trans s2.le fun _ z => z).trans l3 fun _ z => z, rfl, ?_, fun i a e => ?_⟩, t2.take, l3⟩
      · show (m2.take S1.length).length = _
        rw [List.length_take, len2, List.length_append]
        simp
        omega
      · have e : (m2.take S1.length)[i]? = some (some a) := e
        rw [List.getElem?_take] at e
        split at e
        · have := s2.old i a e
          have this : (w1.m ++ [some x])[i]? = some (some a) := this
          rw [List.getElem?_append_left (by omega)] at this
          exact this
        · cases e
    unfold mkO at h1
    cases q : d (.cell S1.length :: xs) (S1 ++ [some (.obj c [])]) with
    | bad => rw [q] at h1; exact h1.elim
    | exc ce xe S' =>
      rw [q] at h1
      intro cls dv w2 H2 s2 t2 er
      obtain ⟨k1, k2, k3⟩ := fin w2 H2 S' s2 t2
      refine h1 cls dv _ H2 k1 k2 ?_
      obtain ⟨C', e1, e2, e3⟩ := er
      exact ⟨C', e1, e2, e3.elim .inl fun ⟨z0, dd, v, z1, z2, z3, z4⟩ => .inr ⟨z0, dd, v, z1, z2, k3.navk z2 z3, Rep.le k3 z4⟩⟩
    | ok y S' =>
      rw [q] at h1
      cases y with
      | cell k => exact h1.elim
      | d y =>
        cases y with
        | non =>
          intro v w2 H2 s2 t2 rv
          cases rv
          refine ⟨rfl, ?_⟩
          obtain ⟨k1, k2, k3⟩ := fin w2 H2 S' s2 t2
          have h1 : RQ g W (RepV g) w1 σ H1 (match S'[S1.length]? with
            | some (some (.obj c' fs)) => (match allF fs with
              | some ds => if ds ≠ [] ∧ c' = c then .ok (.d (.obj c ds)) (S'.take S1.length) else .bad
              | none => .bad)
            | _ => .bad) Q := h1
          cases q2 : S'[S1.length]? with
          | none => rw [q2] at h1; exact h1.elim
          | some oc =>
            cases oc with
            | none => rw [q2] at h1; exact h1.elim
            | some cl =>
              cases cl with
              | lst ds => rw [q2] at h1; exact h1.elim
              | refs ks => rw [q2] at h1; exact h1.elim
              | obj c' fs =>
                rw [q2] at h1
                have h1 : RQ g W (RepV g) w1 σ H1 (match allF fs with
                  | some ds => if ds ≠ [] ∧ c' = c then .ok (.d (.obj c ds)) (S'.take S1.length) else .bad
                  | none => .bad) Q := h1
                cases q3 : allF fs with
                | none => rw [q3] at h1; exact h1.elim
                | some ds =>
                  rw [q3] at h1
                  obtain ⟨⟨hne2, hcc⟩, h1⟩ := ite_q h1
                  subst hcc
                  have ef := allF_eq q3
                  obtain ⟨a, e1, C2, dx2, vs2, c1, c2, c3, c4, c5, c6, c7⟩ := t2.cell S1.length _ q2
                  have ea : a = x := by
                    have := s2.old _ _ e1
                    have this : (w1.m ++ [some x])[S1.length]? = some (some a) := this
                    rw [List.getElem?_append_right (by omega), ml, Nat.sub_self] at this
                    cases this
                    rfl
                  subst ea
                  refine h1 (.ref a) _ H2 k1 k2 ?_
                  have hlen : vs2.length = ds.length := by rw [c6, ef, List.length_map]
                  obtain ⟨us, eu, ru⟩ : ∃ us : List V, vs2 = us.map some ∧ RepL g w2 H2 ds us := by
                    have gen : ∀ (ds : List D) (vs2 : List (Option V)), vs2.length = ds.length → (∀ (i : Nat) (x : D), ds[i]? = some x → ∃ v, vs2[i]? = some (some v) ∧ Rep g w2 H2 x v) → ∃ us : List V, vs2 = us.map some ∧ RepL g w2 H2 ds us := by
                      intro ds
                      induction ds with
                      | nil => intro vs2 hl _; exact ⟨[], by simpa using hl, .nil⟩
                      | cons d ds ih =>
                        intro vs2 hl hh
                        cases vs2 with
                        | nil => simp at hl
                        | cons v vs2 =>
                          obtain ⟨u, e1, e2⟩ := hh 0 d rfl
                          cases e1
                          obtain ⟨us, e3, e4⟩ := ih vs2 (by simpa using hl) fun i x e => hh (i + 1) x (by simpa using e)
                          exact ⟨u :: us, by rw [e3]; rfl, .cons e2 e4⟩
                    exact gen ds vs2 hlen fun i x e => c7 i x (by rw [ef, List.getElem?_map, e]; rfl)
                  have navA : ¬ (⟨w2.m.take S1.length, w2.hid⟩ : Wd).av a := by
                    rintro (z | z)
                    · obtain ⟨i, hi⟩ := List.getElem?_of_mem z
                      rw [List.getElem?_take] at hi
                      split at hi
                      · have := t2.inj _ _ _ hi e1
                        omega
                      · cases hi
                    · exact (t2.hid a z).1 (List.mem_of_getElem? e1)
                  have navD : ¬ (⟨w2.m.take S1.length, w2.hid⟩ : Wd).av dx2 := fun z => c3 (z.elim (fun z => .inl (List.mem_of_mem_take z)) .inr)
                  rcases c4 with ⟨_, z⟩ | ⟨z1, z2⟩
                  · rw [z] at hlen
                    exact absurd (List.eq_nil_of_length_eq_zero hlen.symm) hne2
                  · rw [eu] at z1
                    exact .obj c1 z1 z2 navA navD (RepL.le k3 ru)
        | _ => exact h1.elim
  refine ⟨w, Γ, S, st, en, ?_⟩
  unfold eCall at h
  cases q : er Γ S with
  | exc c z S1 => rw [q] at h; exact h
  | bad => rw [q] at h; exact h
  | ok xs S1 =>
    rw [q] at h
    exact fun vs w1 H1 s1 st1 r1 => key w1 H1 S1 xs vs (hel Γ S xs S1 q) st1 r1 (RQ.to (r := mkO c d xs S1) h s1)
end Pd

namespace Pd
open PySem PySem.Spec PyProof.Rows L2
/-! ### properties, methods, own comparisons of instances with slots -/
def isO (c : Str) (x : Val) (S : Store) : Bool := match x with
  | .d (.obj c' _) => decide (c' = c)
  | .cell k => (match S[k]? with | some (some (.obj c' _)) => decide (c' = c) | _ => false)
  | _ => false
theorem isO_slt {g : Gx} {w : Wd} {H : Hp} {S : Store} {c : Str} {C : Addr} {x : Val} {v : V} (e : isO c x S = true) (st : StOk g w S H) (r : RepV g w H x v) (hc : g.cl c = some C) : ∃ a dx vs, v = .ref a ∧ SlX.Slt H a C dx vs := by
  cases x with
  | d x =>
    cases x with
    | obj c' ds =>
      have e : c' = c := of_decide_eq_true e
      subst e
      cases r with
      | obj c1 k e1 n n2 r =>
        rw [hc] at c1
        cases c1
        exact ⟨_, _, _, rfl, .inr ⟨k, e1⟩⟩
    | _ => cases e
  | cell k =>
    have e : (match S[k]? with | some (some (Cell.obj c' _)) => decide (c' = c) | _ => false) = true := e
    cases q : S[k]? with
    | none => rw [q] at e; cases e
    | some o =>
      cases o with
      | none => rw [q] at e; cases e
      | some cl =>
        cases cl with
        | lst ds => rw [q] at e; cases e
        | refs ks => rw [q] at e; cases e
        | obj c' fs =>
          rw [q] at e
          have e : c' = c := of_decide_eq_true e
          subst e
          obtain ⟨a, ev, hk, C', dx, vs, h1, h2, h3, h4, _⟩ := obj_at st r q
          rw [hc] at h1
          cases h1
          exact ⟨a, dx, vs, ev, h4⟩
theorem noX_q {g : Gx} {W : WX} {w : Wd} {σ : L2.St} {H : Hp} {r : R Val} {Q : VK} (h : RQ g W (RepV g) w σ H (noX r) Q) : RQ g (fun c d _ H' => E0 c d H') (RepV g) w [] H r Q := by
  cases r with
  | ok x S => exact h
  | exc c x S => exact h.elim
  | bad => exact h.elim
def fPr (c : Str) (d : List Val → Store → R Val) (x : Val) (S : Store) : R Val := if isO c x S = true then noX (d [x] S) else .bad
def eMeth (c : Str) (d : List Val → Store → R Val) (eo : Ev) (er : Env → Store → R (List Val)) : Ev := fun Γ S => (eo Γ S).bind fun x S1 => if isO c x S1 = true then (er Γ S1).bind fun ys S2 => noX (d (x :: ys) S2) else .bad
def fOwn (c : Str) (d : List Val → Store → R Val) (x y : Val) (S : Store) : R Val := if isO c x S = true ∧ isO c y S = true then noX (d [x, y] S) else .bad
/-- the class c's property f, its getter at gA -/
structure PropC (g : Gx) (c f : Str) (gA : Addr) : Prop where
  ex : ∃ C p, g.cl c = some C ∧ SlX.SCls g.K C ∧ PySem.W.findIn g.K (.ref C) f = some (some (.ref p)) ∧ PySem.W.specialIn g.K (.ref p) "__get__" = some (some (.builtin "property.__get__")) ∧ PySem.W.takesIn g.K (.ref p) = some true ∧ ∃ rest, PySem.W.recIn g.K p "property" = some (.ref gA :: rest)
structure MethC (g : Gx) (c m : Str) (gA : Addr) : Prop where
  ex : ∃ C, g.cl c = some C ∧ SlX.SCls g.K C ∧ Meth g.K C m gA
section
variable {X : Cx} {g : Gx} {W : WX} {o a b e : Expr} {eo ea eb : Ev} {es : List Expr} {er : Env → Store → R (List Val)} {pos p apos : Pos} {j k n : Nat} {f m c : Str} {gA : Addr} {d : List Val → Store → R Val}
theorem p_prop (hK : g.K = X.K) (P : PropC g c f gA) (F : FnM X.prog X.w X.K X.mg X.base g k gA 1 d) (hr : Room j X.A) (hkj : k + 1 ≤ j) (he : PE X e (tE g W ea)) (hb : attributeBase e f X.env (eval e X.env) = eval e X.env := by rfl) : PE X (.Attribute e f pos) (tE g W (eUn (fPr c d) ea)) := by
  obtain ⟨C, q, hc, sc, h1, h2, h3, h4⟩ := P.ex
  rw [hK] at sc h1 h2 h3 h4
  refine (SlX.pe_propSl (E := E0) he sc h1 h2 h3 h4 F (hr.mono hkj) (fun H s e s' h => by
    obtain ⟨_, _, _, _, _, _, _, _, _, _, _, _, z⟩ := h
    exact z) hb).imp fun σ H Q ⟨w, Γ, S, st, en, h⟩ => tX_seq st en h fun u H1 x S1 w1 s1 st1 en1 r1 h1 => ?_
  unfold fPr at h1
  obtain ⟨hi, h1⟩ := ite_q h1
  obtain ⟨a, dx, vs, ev, hs⟩ := isO_slt hi st1 r1 hc
  refine ⟨a, dx, vs, ev, hs, rfl, w1, S1, [x], st1, .cons (by rw [← ev]; exact r1) .nil, ?_⟩
  rw [if_neg Bool.false_ne_true]
  exact noX_q h1
theorem p_meth (hK : g.K = X.K) (M : MethC g c m gA) (F : FnM X.prog X.w X.K X.mg X.base g k gA (n + 1) d) (hr : Room j X.A) (hkj : k ≤ j) (ho : PE X o (tE g W eo)) (hel : ∀ Γ S xs S', er Γ S = .ok xs S' → xs.length = n) (ha : PA X (e :: es) (tA g W er))
    (hst : starEach (e :: es) X.env = (false, eval e X.env) :: starEach es X.env := by rfl) (hpl : (backTo pos (starEach es X.env)).any (·.1) = false := by rfl) {pl : Sem Bool}
    (ht : eval (.Call (.Attribute o m apos) (e :: es) [] pos) X.env = (do
      let ov ← eval o X.env
      standAt apos.atName
      let (f, first) ← holding [ov] (getMethod ov m pl)
      callWith pos f first (backTo pos (starEach (e :: es) X.env)) (backToKw pos (keywordEach [] X.env))) := by rfl) :
    PE X (.Call (.Attribute o m apos) (e :: es) [] pos) (tE g W (eMeth c d eo er)) := by
  obtain ⟨C, hc, sc, hm⟩ := M.ex
  rw [hK] at sc hm
  refine (SlX.pe_methSl (E := E0) ho sc hm F (hr.mono hkj) passL ha hst hpl ht).imp fun σ H Q ⟨w, Γ, S, st, en, h⟩ => tX_seq st en h fun u H1 x S1 w1 s1 st1 en1 r1 h1 => ?_
  obtain ⟨hi, h1⟩ := ite_q h1
  obtain ⟨a, dx, vs, ev, hs⟩ := isO_slt hi st1 r1 hc
  refine ⟨a, dx, vs, ev, hs, w1, Γ, S1, st1, en1, ?_⟩
  cases q : er Γ S1 with
  | bad => rw [q] at h1; exact h1.elim
  | exc c z S2 => rw [q] at h1; exact h1
  | ok ys S2 =>
    rw [q] at h1
    intro ws w2 H2 s2 st2 r2
    refine ⟨by rw [List.length_cons, ← r2.length, hel Γ S1 ys S2 q], w2, S2, x :: ys, st2, .cons (r1.step s2) r2, ?_⟩
    rw [if_neg Bool.false_ne_true]
    exact noX_q (RQ.to (r := noX (d (x :: ys) S2)) h1 s2)
theorem p_meth0 (hK : g.K = X.K) (M : MethC g c m gA) (F : FnM X.prog X.w X.K X.mg X.base g k gA 1 d) (hr : Room j X.A) (hkj : k ≤ j) (ho : PE X o (tE g W eo)) {pl : Sem Bool}
    (ht : eval (.Call (.Attribute o m apos) [] [] pos) X.env = (do
      let ov ← eval o X.env
      standAt apos.atName
      let (f, first) ← holding [ov] (getMethod ov m pl)
      callWith pos f first (backTo pos (starEach [] X.env)) (backToKw pos (keywordEach [] X.env))) := by rfl) :
    PE X (.Call (.Attribute o m apos) [] [] pos) (tE g W (eMeth c d eo eNil)) := by
  obtain ⟨C, hc, sc, hm⟩ := M.ex
  rw [hK] at sc hm
  refine (SlX.pe_methSl0 (E := E0) ho sc hm F (hr.mono hkj) passL ht).imp fun σ H Q ⟨w, Γ, S, st, en, h⟩ => tX_seq st en h fun u H1 x S1 w1 s1 st1 en1 r1 h1 => ?_
  obtain ⟨hi, h1⟩ := ite_q h1
  obtain ⟨a, dx, vs, ev, hs⟩ := isO_slt hi st1 r1 hc
  refine ⟨a, dx, vs, ev, hs, rfl, w1, S1, [x], st1, .cons r1 .nil, ?_⟩
  rw [if_neg Bool.false_ne_true]
  exact noX_q h1
/-- a == b by the class's own def -/
structure OwnC (g : Gx) (c : Str) (op : CmpOp) (gA : Addr) : Prop where
  ex : ∃ C, g.cl c = some C ∧ PySem.W.findIn g.K (.ref C) (cmpInfo op).2.1 = some (some (.ref gA)) ∧ PySem.W.isFn g.K (.ref gA) = true ∧ PySem.W.notFirst g.K C (.ref C) = true
theorem o2_own {op : CmpOp} (hK : g.K = X.K) (O : OwnC g c op gA) {C : Addr} (hc : g.cl c = some C) (hn : PySem.W.notFirst g.K C (.ref C) = true) : Op2 g (SlX.rOwn X.K C (spD g d 2 false) E0) (fOwn c d) := fun W w S H σ x y u v Q st r1 r2 q => by
  unfold fOwn at q
  obtain ⟨⟨h1, h2⟩, q⟩ := ite_q q
  obtain ⟨a, dx, vs, ev, hs⟩ := isO_slt h1 st r1 hc
  obtain ⟨b, dy, ws, ew, ht⟩ := isO_slt h2 st r2 hc
  refine ⟨a, dx, vs, b, C, dy, ws, ev, ew, hs, ht, by rw [← hK]; exact hn, rfl, w, S, [x, y], st, .cons r1 (.cons r2 .nil), ?_⟩
  rw [if_neg Bool.false_ne_true]
  exact noX_q q
theorem p_own {op : CmpOp} (hop : ∀ a b, compareOp op a b = richCompare op a b) (hK : g.K = X.K) (O : OwnC g c op gA) (F : FnM X.prog X.w X.K X.mg X.base g k gA 2 d) (hr : Room j X.A) (hkj : k ≤ j) (ha : PE X a (tE g W ea)) (hb : PE X b (tE g W eb)) (hm : behindInMarks op b = false := by first | exact nobehind _ (by decide) (by decide) | rfl) :
    PE X (.Compare a [op] [b] pos) (tE g W (eBin (fOwn c d) ea eb)) := by
  obtain ⟨C, hc, h1, h2, h3⟩ := O.ex
  have h1' := h1
  have h2' := h2
  rw [hK] at h1' h2'
  exact p_cmp (SlX.op_own hop h1' h2' F (hr.mono hkj) passL) (o2_own hK O hc h3) ha hb hm
end
end Pd

namespace Pd
open PySem PySem.Spec PyProof.Rows L2
/-! ### isinstance(x, C), C a class of the text -/
def fIsiO (rel : Str → Option Bool) (x : Val) (S : Store) : R Val := match x with
  | .d (.obj c _) => (match rel c with | some b => .ok (.d (.bl b)) S | none => .bad)
  | .cell k => (match S[k]? with
    | some (some (.obj c _)) => (match rel c with | some b => .ok (.d (.bl b)) S | none => .bad)
    | some (some (.lst _)) => .ok (.d (.bl false)) S
    | _ => .bad)
  | .d .non => .ok (.d (.bl false)) S
  | .d (.bl _) => .ok (.d (.bl false)) S
  | .d (.int _) => .ok (.d (.bl false)) S
  | .d (.str _) => .ok (.d (.bl false)) S
  | .d (.tup _) => .ok (.d (.bl false)) S
  | .d (.lst _) => .ok (.d (.bl false)) S
  | _ => .bad
structure IsiC (g : Gx) (C : Addr) (rel : Str → Option Bool) : Prop where
  non : PySem.W.kitOne g.K (.type "NoneType") (.ref C) = some false
  bl : PySem.W.kitOne g.K (.type "bool") (.ref C) = some false
  int : PySem.W.kitOne g.K (.type "int") (.ref C) = some false
  str : PySem.W.kitOne g.K (.type "str") (.ref C) = some false
  tup : PySem.W.kitOne g.K (.type "tuple") (.ref C) = some false
  lst : PySem.W.kitOne g.K (.type "list") (.ref C) = some false
  obj : ∀ c b, rel c = some b → ∃ C', g.cl c = some C' ∧ SlX.SCls g.K C' ∧ SlX.SIsi g.K C' ∧ PySem.W.kitOne g.K (.ref C') (.ref C) = some b
section
variable {X : Cx} {g : Gx} {W : WX} {a : Expr} {ea : Ev} {pos p p2 : Pos} {x : Str} {C : Addr} {rel : Str → Option Bool}
theorem isi_obj {w : Wd} {S : Store} {H : Hp} {c : Str} {b : Bool} {y : Val} {u : V} {Q : VK} (hK : g.K = X.K) (I : IsiC g C rel) (hr : rel c = some b) (hi : isO c y S = true) (st : StOk g w S H) (r : RepV g w H y u) (q : Q (.bl b) H) : SlX.rIsiSl X.K (.ref C) [u, .ref C] H Q := by
  obtain ⟨C', hc, sc, si, hk⟩ := I.obj c b hr
  obtain ⟨a, dx, vs, ev, hs⟩ := isO_slt hi st r hc
  rw [hK] at sc si hk
  subst ev
  exact ⟨a, C', dx, vs, .ref C, b, rfl, rfl, fun w h => h, hs, sc, si, hk, q⟩
theorem p_isiO (hK : g.K = X.K) (I : IsiC g C rel) (hg : Gl X "isinstance") (hm : X.mg "isinstance" = none) (hgC : Gl X x) (hmC : X.mg x = some (.ref C)) (ha : PE X a (tE g W ea)) (hdb : (x == ("__debug__" : Str)) = false := by decide)
    (he : starEach [a, .Name x p2] X.env = (false, eval a X.env) :: starEach [.Name x p2] X.env := by rfl) (he2 : starEach [.Name x p2] X.env = (false, eval (.Name x p2) X.env) :: starEach [] X.env := by rfl) (hpl : (backTo pos (starEach [.Name x p2] X.env)).any (·.1) = false := by rfl) :
    PE X (.Call (.Name "isinstance" p) [a, .Name x p2] [] pos) (tE g W (eUn (fIsiO rel) ea)) :=
  (pe_callB (id := "isinstance") (CallR.or call_isi (SlX.call_isiSl (.ref C))) hg hm (by decide +kernel) (pa_cons ha (pa_cons (pe_glob (v := .ref C) hgC hmC rfl hdb) pa_nil he2) he) (by decide) (by decide) he hpl).imp fun σ H Q ⟨w, Γ, S, st, en, h⟩ =>
    tX_seq st en h fun u H1 y S1 w1 s1 st1 en1 r1 h1 => by
      have pl : ∀ {n : String} {b : Bool}, TyX g.K H1 u (.type n) → PySem.W.kitOne g.K (.type n) (.ref C) = some b → Q (.bl b) H1 → rIsi X.K [u, .ref C] H1 Q := fun h1 h2 q => by
        rw [hK] at h1 h2
        exact ⟨u, .ref C, _, .ref C, _, rfl, .own C, h1, h2, q⟩
      show rIsi X.K [u, .ref C] H1 Q ∨ SlX.rIsiSl X.K (.ref C) [u, .ref C] H1 Q
      cases y with
      | cell k =>
        cases q : S1[k]? with
        | none => simp only [fIsiO, q] at h1; exact h1.elim
        | some oc =>
          cases oc with
          | none => simp only [fIsiO, q] at h1; exact h1.elim
          | some cl =>
            cases cl with
            | lst ds =>
              simp only [fIsiO, q] at h1
              obtain ⟨a, vs, rfl, hk, hp, l⟩ := cell_at st1 r1 q
              exact .inl (pl (.base (.lst hp)) I.lst (RQ.okQ h1 st1 (.bl _)))
            | refs ks =>
              simp only [fIsiO, q] at h1
              exact h1.elim
            | obj c fs =>
              simp only [fIsiO, q] at h1
              cases qr : rel c with
              | none => rw [qr] at h1; exact h1.elim
              | some b =>
                rw [qr] at h1
                exact .inr (isi_obj hK I qr (by simp [isO, q]) st1 r1 (RQ.okQ h1 st1 (.bl _)))
      | d y =>
        cases y with
        | non => cases r1; exact .inl (pl (.base .non) I.non (RQ.okQ h1 st1 (.bl _)))
        | bl b => cases r1; exact .inl (pl (.base (.bl b)) I.bl (RQ.okQ h1 st1 (.bl _)))
        | int b => cases r1; exact .inl (pl (.base (.int b)) I.int (RQ.okQ h1 st1 (.bl _)))
        | str b => cases r1; exact .inl (pl (.base (.str b)) I.str (RQ.okQ h1 st1 (.bl _)))
        | tup ds =>
          obtain ⟨a, vs, rfl, k, l⟩ := rd_tup (S := S1) r1 rfl
          have q : Q (.bl false) H1 := RQ.okQ (x := Val.d (.bl false)) (v := V.bl false) h1 st1 (Rep.bl false)
          rcases k with ⟨k | ⟨o, k⟩, _⟩ | ⟨o, its, n, k, k2, _⟩
          · exact .inl (pl (.base (.tup k)) I.tup q)
          · exact .inl (pl (.fTuple k) I.tup q)
          · exact .inl (pl (.kTuple k k2) I.tup q)
        | lst ds =>
          obtain ⟨a, vs, rfl, k, l⟩ := rd_lst st1 r1 rfl
          exact .inl (pl (.base (.lst k)) I.lst (RQ.okQ h1 st1 (.bl _)))
        | obj c ds =>
          simp only [fIsiO] at h1
          cases qr : rel c with
          | none => rw [qr] at h1; exact h1.elim
          | some b =>
            rw [qr] at h1
            exact .inr (isi_obj hK I qr (by simp [isO]) st1 r1 (RQ.okQ h1 st1 (.bl _)))
        | scr _ => exact h1.elim
        | val _ => exact h1.elim
        | fn _ => exact h1.elim
        | dct _ _ => exact h1.elim
end
/-! ### a class's defs -/
/-- where a def of a class stands -/
def FunM (K : PySem.W.Frag) (x qual : Str) (st : Stmt) (ps : List Str) (f : Addr) : Prop := ∃ fd : FuncData, Fun K x qual st f fd ∧ Binds K fd ps []
theorem fn_atM {P : Program} {w : World} {K : PySem.W.Frag} {mg : Str → Option Value} {base : Heap} {g : Gx} {x qual : Str} {st : Stmt} {f : Addr} {N ps : List Str} {n k extra : Nat} (body : Nat → Sv) (F : FunM K x qual st ps f) (SC : FnScope N ps (defScope st)) (hn : ps.length = n) (hx : N.length = ps.length + extra)
    (hbody : ∀ (f : Addr) (cdv : Value) (A : Around) (outer : List PySem.Env) (s : Shared) (H : Hp) (E : XK), Room k (A.deeper (envOfC qual (defScope st) s.heap.objs.size f cdv)) → ∀ w0 : Wd,
      PSs (cxOf (L2.CX P w) P w K mg base N qual (defScope st) f cdv A outer s H E) (defBody st) (tS ⟨g, fun c d _ H' => E c d H', w0, H, false⟩ (body w0.m.length))) : FnM P w K mg base g (k + 1) f n (funD extra body) := by
  obtain ⟨fd, F, hb⟩ := F
  have FO : FnOk P w K mg base (L2.CX P w) (k + 1) f fd ps (spD g (funD extra body) ps.length false) := F.okX SC (fun vs H Q E h => h.1) fun cdv A outer s H vs Q E hr hsp => body_spD (np := ps.length) false body hx (hbody f cdv) A outer s H vs Q E hr hsp
  refine (FO.raw hb .nil).imp fun vs H Q E h => ?_
  rw [List.append_nil, hn]
  exact h
/-! ### ==, != where an instance may stand -/
def rOwnT (K : PySem.W.Frag) (C : Addr) (sp : Sp) (E : XK) : R2 := fun x y H Q => ∃ a dx vs b ys, x = .ref a ∧ y = .ref b ∧ SlX.Slt H a C dx vs ∧ SqT K H b ys ∧ sp [x, y] H Q E
theorem op_ownT {X : Cx} {CX : CXT} {n : Nat} {gA C : Addr} {sp : Sp} {E : XK} {op : CmpOp} (hop : ∀ a b, compareOp op a b = richCompare op a b) (hs : PySem.W.findIn X.K (.ref C) (cmpInfo op).2.1 = some (some (.ref gA))) (hf : PySem.W.isFn X.K (.ref gA) = true) (hn : PySem.W.notFirst X.K C (.type "tuple") = true)
    (F : FnR X.prog X.w X.K X.mg X.base CX n gA sp) (hr : Room n X.A) (hx : Passes CX X E) : OpR X (compareOp op) (rOwnT X.K C sp E) := by
  intro pins s σ H x y v u Q I rx ry h
  obtain ⟨a, dx, vs, b, ys, rfl, rfl, ha, hb, q⟩ := h
  cases (show v = Value.ref a from rx)
  cases (show u = Value.ref b from ry)
  obtain ⟨sl, od, _, J, _⟩ := SlX.slt_inst I ha
  obtain ⟨its, rv, ⟨o, ho, hcl, _⟩, _⟩ := I.tuple hb
  obtain ⟨m, hF⟩ := I.fr
  rw [hop]
  have L : PySem.W.Looks (model X.prog X.w) s.heap (typeOf (.ref b)) (.type "tuple") := fun A Q E s k q => wpAny_typeOf_ref (k _ _ ho) (by rw [hcl]; exact q)
  refine PySem.W.cmp_K (op := op) (tb := .type "tuple") hr.units0 hF I.ok.mod.kin J L hn hs hf ?_
  refine wpAny_mono (wpAny_call (run_fnR (us := [.ref a, .ref b]) (vs := [.ref a, .ref b]) F hr hx I (.cons rfl (.cons rfl .nil)) q)) (fun z' s' z => ?_) fun _ _ x => x
  obtain ⟨z', H', I', rz, qz⟩ := z
  exact SlX.cmpback rz ⟨z', H', I', rz, qz⟩
def isT : Val → Bool
  | .d (.tup _) => true
  | _ => false
/-- by the class's own def where x is an instance, else of plain values -/
def fCmpM (c : Str) (d : List Val → Store → R Val) (pl : Val → Val → Store → R Val) (x y : Val) (S : Store) : R Val := if isO c x S = true then (if isO c y S = true ∨ isT y = true then noX (d [x, y] S) else .bad) else pl x y S
section
variable {X : Cx} {g : Gx} {W : WX} {a b : Expr} {ea eb : Ev} {pos : Pos} {j k : Nat} {c : Str} {gA : Addr} {d : List Val → Store → R Val} {r : R2} {pl : Val → Val → Store → R Val}
structure OwnM (g : Gx) (c : Str) (op : CmpOp) (gA : Addr) : Prop where
  ex : ∃ C, g.cl c = some C ∧ PySem.W.findIn g.K (.ref C) (cmpInfo op).2.1 = some (some (.ref gA)) ∧ PySem.W.isFn g.K (.ref gA) = true ∧ PySem.W.notFirst g.K C (.ref C) = true ∧ PySem.W.notFirst g.K C (.type "tuple") = true
theorem op_ownM {op : CmpOp} (hop : ∀ a b, compareOp op a b = richCompare op a b) (hK : g.K = X.K) (O : OwnM g c op gA) (F : FnM X.prog X.w X.K X.mg X.base g k gA 2 d) (hr : Room j X.A) (hkj : k ≤ j) (hp : OpR X (compareOp op) r) (hq : Op2 g r pl) :
    ∃ r', OpR X (compareOp op) r' ∧ Op2 g r' (fCmpM c d pl) := by
  obtain ⟨C, hc, h1, h2, h3, h4⟩ := O.ex
  rw [hK] at h1 h2 h3 h4
  refine ⟨_, ((SlX.op_own (E := E0) hop h1 h2 F (hr.mono hkj) passL).or (op_ownT (E := E0) hop h1 h2 h4 F (hr.mono hkj) passL)).or hp, fun W w S H σ x y u v Q st r1 r2 q => ?_⟩
  unfold fCmpM at q
  by_cases hx : isO c x S = true
  · rw [if_pos hx] at q
    obtain ⟨hy, q⟩ := ite_q q
    obtain ⟨a, dx, vs, ev, hs⟩ := isO_slt hx st r1 hc
    have sp : spD g d 2 false [u, v] H Q E0 := ⟨rfl, w, S, [x, y], st, .cons r1 (.cons r2 .nil), by
      rw [if_neg Bool.false_ne_true]
      exact noX_q q⟩
    by_cases hy2 : isO c y S = true
    · obtain ⟨b, dy, ws, ew, ht⟩ := isO_slt hy2 st r2 hc
      exact .inl (.inl ⟨a, dx, vs, b, C, dy, ws, ev, ew, hs, ht, h3, sp⟩)
    · have hy3 : isT y = true := hy.resolve_left hy2
      cases y with
      | cell k => cases hy3
      | d y =>
        cases y with
        | tup ds =>
          obtain ⟨b, ys, ew, hq2, l⟩ := rd_tup (S := S) r2 rfl
          refine .inl (.inr ⟨a, dx, vs, b, ys, ev, ew, hs, ?_, sp⟩)
          rw [← hK]
          exact hq2.sq
        | _ => cases hy3
  · rw [if_neg hx] at q
    exact .inr (hq W w S H σ x y u v Q st r1 r2 q)
theorem p_eqM (hK : g.K = X.K) (O : OwnM g c .Eq gA) (F : FnM X.prog X.w X.K X.mg X.base g k gA 2 d) (hr : Room j X.A) (hkj : k ≤ j) (ha : PE X a (tE g W ea)) (hb : PE X b (tE g W eb)) : PE X (.Compare a [.Eq] [b] pos) (tE g W (eBin (fCmpM c d fEq) ea eb)) := by
  obtain ⟨r', h1, h2⟩ := op_ownM (fun _ _ => rfl) hK O F hr hkj (op_eqD hr.units) (show Op2 g (rEqD X.K) fEq by rw [← hK]; exact o2_eq)
  exact p_cmp h1 h2 ha hb
theorem p_neM (hK : g.K = X.K) (O : OwnM g c .NotEq gA) (F : FnM X.prog X.w X.K X.mg X.base g k gA 2 d) (hr : Room j X.A) (hkj : k ≤ j) (ha : PE X a (tE g W ea)) (hb : PE X b (tE g W eb)) : PE X (.Compare a [.NotEq] [b] pos) (tE g W (eBin (fCmpM c d fNe) ea eb)) := by
  obtain ⟨r', h1, h2⟩ := op_ownM (fun _ _ => rfl) hK O F hr hkj (op_neD hr.units) (by rw [← hK]; exact o2_ne)
  exact p_cmp h1 h2 ha hb
theorem t_eqM (hK : g.K = X.K) (O : OwnM g c .Eq gA) (F : FnM X.prog X.w X.K X.mg X.base g k gA 2 d) (hr : Room j X.A) (hkj : k ≤ j) (ha : PE X a (tE g W ea)) (hb : PE X b (tE g W eb)) : PT X (.Compare a [.Eq] [b] pos) (tT g W (eTest (eBin (fCmpM c d fEq) ea eb))) := by
  obtain ⟨r', h1, h2⟩ := op_ownM (fun _ _ => rfl) hK O F hr hkj (op_eqD hr.units) (show Op2 g (rEqD X.K) fEq by rw [← hK]; exact o2_eq)
  exact pt_cmp' h1 h2 ha hb
theorem t_neM (hK : g.K = X.K) (O : OwnM g c .NotEq gA) (F : FnM X.prog X.w X.K X.mg X.base g k gA 2 d) (hr : Room j X.A) (hkj : k ≤ j) (ha : PE X a (tE g W ea)) (hb : PE X b (tE g W eb)) : PT X (.Compare a [.NotEq] [b] pos) (tT g W (eTest (eBin (fCmpM c d fNe) ea eb))) := by
  obtain ⟨r', h1, h2⟩ := op_ownM (fun _ _ => rfl) hK O F hr hkj (op_neD hr.units) (by rw [← hK]; exact o2_ne)
  exact pt_cmp' h1 h2 ha hb
end
/-! ### l.count(k), l a list of whole numbers -/
def eCnt (eo ea : Ev) : Ev := fun Γ S => (eo Γ S).bind fun o S1 => match rd S1 o with
  | some (.lst _) => (ea Γ S1).bind fun x S2 => (match rd S2 o, x with
    | some (.lst ds), .d (.int k) => (match asInts ds with | some ns => .ok (.d (.int (ns.count k : Nat))) S2 | none => .bad)
    | _, _ => .bad)
  | _ => .bad
section
variable {X : Cx} {g : Gx} {W : WX} {o a : Expr} {eo ea : Ev} {cpos apos : Pos}
theorem p_count (hK : g.K = X.K) (ho : PE X o (tE g W eo)) (ha : PE X a (tE g W ea)) (hbase : attributeBase o "count" X.env (eval o X.env) = eval o X.env := by rfl)
    (hfew : ((backTo cpos (starEach [a] X.env)).all (fun x => !x.1) && (backToKw cpos (keywordEach [] X.env)).all (fun x => x.1.isSome) && decide ([a].length + ([] : List Keyword).length + (if ([] : List Keyword).isEmpty then 0 else 1) < 30)) = true := by rfl)
    (hline : (apos.endLine == cpos.line) = true := by rfl) (hs : starEach [a] X.env = (false, eval a X.env) :: starEach [] X.env := by rfl) (hplain : (backTo cpos (starEach [] X.env)).any (·.1) = false := by rfl) :
    PE X (.Call (.Attribute o "count" apos) [a] [] cpos) (tE g W (eCnt eo ea)) :=
  (pe_bm PySem.F.plainAttrs_list PySem.F.slot_list_count PySem.F.type_list_count mt_lcount ho (pa_cons ha pa_nil hs) hbase hfew hline hs hplain).imp fun σ H Q ⟨w, Γ, S, st, en, h⟩ =>
    tX_seq st en h fun u H1 x S1 w1 s1 st1 en1 r1 h1 => by
      split at h1
      · rename_i ds0 e0
        refine ⟨rd_ty hK st1 r1 e0, tX_seq st1 en1 h1 fun v H2 y S2 w2 s2 st2 en2 r2 h2 => ?_⟩
        split at h2
        · rename_i ds k e
          cases q : asInts ds with
          | none => rw [q] at h2; exact h2.elim
          | some ns =>
            rw [q] at h2
            cases r2
            obtain ⟨p, vs, rfl, hp, l⟩ := rd_lst st2 (r1.step s2) e
            have ed := asInts_eq q
            subst ed
            have ev := l.ints
            subst ev
            exact ⟨p, ns, k, rfl, rfl, .inl (.inl hp), RQ.okQ h2 st2 (.int _)⟩
        · exact h2.elim
      · exact h1.elim
end
theorem kit_plain {K : PySem.W.Frag} {C : Addr} {n : String} (h1 : PySem.W.isClsIn K C = true) (h2 : PySem.W.typeIn K (.ref C) = some (.type "type")) (h3 : PySem.W.subIn K (.type n) (.ref C) = some false) : PySem.W.kitOne K (.type n) (.ref C) = some false := by
  have e1 : (Value.type n == Value.ref C) = false := rfl
  have e2 : ((PySem.W.clsIn K C).isSome && PySem.W.typeIn K (.ref C) == some (.type "type")) = true := by
    have h1' : (PySem.W.clsIn K C).isSome = true := h1
    rw [h1', h2]
    rfl
  unfold PySem.W.kitOne
  rw [e1, if_neg Bool.false_ne_true]
  show (if ((PySem.W.clsIn K C).isSome && PySem.W.typeIn K (.ref C) == some (.type "type")) = true then PySem.W.subIn K (.type n) (.ref C) else none) = _
  rw [if_pos e2]
  exact h3
theorem kit_self {K : PySem.W.Frag} {C : Addr} : PySem.W.kitOne K (.ref C) (.ref C) = some true := if_pos (beq_self_eq_true _)
example (K : PySem.W.Frag) (C : Addr) : PySem.W.subIn K (.type "NoneType") (.ref C) = some false := rfl
example (K : PySem.W.Frag) (C : Addr) : PySem.W.subIn K (.type "tuple") (.ref C) = some false := rfl
end Pd

namespace Pd
open PySem PySem.Spec PyProof.Rows L2
/-! ### lists of new lists -/
def RowsAt (g : Gx) (w : Wd) (H : Hp) : List (List D) → List Addr → Prop
  | [], [] => True
  | r :: rs, b :: bs => (∃ vs, H b = some (.lst vs) ∧ RepL g w H r vs) ∧ RowsAt g w H rs bs
  | _, _ => False
def toRows : List D → Option (List (List D))
  | [] => some []
  | .lst r :: ds => (toRows ds).map (r :: ·)
  | _ :: _ => none
theorem toRows_eq : ∀ {ds : List D} {rows : List (List D)}, toRows ds = some rows → ds = rows.map .lst
  | [], _, e => by cases e; rfl
  | d :: ds, rows, e => by
    cases d with
    | lst r =>
      unfold toRows at e
      cases q : toRows ds with
      | none => rw [q] at e; cases e
      | some rs => rw [q] at e; cases e; rw [toRows_eq q]; rfl
    | _ => cases e
theorem toRows_map : ∀ rows : List (List D), toRows (rows.map .lst) = some rows
  | [] => rfl
  | r :: rs => by
    show (toRows (rs.map .lst)).map (r :: ·) = _
    rw [toRows_map rs]
    rfl
section
variable {g : Gx} {w w' w1 : Wd} {H H' H1 : Hp} {p : Addr} {o : HO}
theorem RowsAt.le (l : Le w H w' H') : ∀ {rows : List (List D)} {bs : List Addr}, (∀ b ∈ bs, H' b = H b) → RowsAt g w H rows bs → RowsAt g w' H' rows bs
  | [], [], _, _ => trivial
  | r :: rs, b :: bs, k, ⟨⟨vs, e, q⟩, h⟩ => ⟨⟨vs, by rw [k b List.mem_cons_self]; exact e, RepL.le l q⟩, RowsAt.le l (fun b hb => k b (List.mem_cons_of_mem _ hb)) h⟩
theorem RowsAt.mut (n : w.av p) : ∀ {rows : List (List D)} {bs : List Addr}, p ∉ bs → RowsAt g w H rows bs → RowsAt g w (upd H p o) rows bs
  | [], [], _, _ => trivial
  | r :: rs, b :: bs, k, ⟨⟨vs, e, q⟩, h⟩ => ⟨⟨vs, by rw [upd_ne fun z => k (by rw [← z]; exact List.mem_cons_self)]; exact e, RepL.mut n q⟩, RowsAt.mut n (fun z => k (List.mem_cons_of_mem _ z)) h⟩
theorem RowsAt.snoc {r : List D} {b : Addr} (hb : ∃ vs, H b = some (.lst vs) ∧ RepL g w H r vs) : ∀ {rows : List (List D)} {bs : List Addr}, RowsAt g w H rows bs → RowsAt g w H (rows ++ [r]) (bs ++ [b])
  | [], [], _ => ⟨hb, trivial⟩
  | _ :: _, _ :: _, ⟨q, h⟩ => ⟨q, RowsAt.snoc hb h⟩
theorem RowsAt.length : ∀ {rows : List (List D)} {bs : List Addr}, RowsAt g w H rows bs → rows.length = bs.length
  | [], [], _ => rfl
  | _ :: _, _ :: _, ⟨_, h⟩ => congrArg (· + 1) (RowsAt.length h)
end
def RQNN (g : Gx) (W : WX) (w : Wd) (σ : L2.St) (H : Hp) (r : R Val) (Q : VK) : Prop := match r with
  | .ok (.d (.lst ds)) S' => ∃ rows, toRows ds = some rows ∧ ∀ p bs w' H', Stq w H w' H' → w'.hid = bs.reverse ++ p :: w.hid → H p = none → (p :: bs).Nodup → (∀ b ∈ bs, H b = none) → StOk g w' S' H' → H' p = some (.lst (bs.map V.ref)) → RowsAt g w' H' rows bs → Q (.ref p) H'
  | .ok _ _ => False
  | .exc c x S' => ∀ cls dx w' H', Stp w H w' H' → StOk g w' S' H' → ExcRep g w' H' c x cls dx → W cls dx σ H'
  | .bad => False
def tNN (g : Gx) (W : WX) (ev : Ev) : TE := fun σ H Q => ∃ w Γ S, StOk g w S H ∧ EnvOk g w Γ σ H ∧ RQNN g W w σ H (ev Γ S) Q
section
variable {g : Gx} {W : WX} {w w1 : Wd} {σ : L2.St} {H H1 : Hp}
theorem none_back (l : Le w H w1 H1) {p : Addr} (e : H1 p = none) : H p = none := by
  cases q : H p with
  | none => rfl
  | some o => exact absurd e (l.trk p (by rw [q]; exact fun z => by cases z))
theorem RQNN.to {r : R Val} {Q : VK} (h : RQNN g W w σ H r Q) (s : Stp w H w1 H1) : RQNN g W w1 σ H1 r Q := by
  cases r with
  | ok x S =>
    cases x with
    | cell k => exact h
    | d x =>
      cases x with
      | lst ds =>
        obtain ⟨rows, e, h⟩ := h
        exact ⟨rows, e, fun p bs w' H' q hid hp nd nb => h p bs w' H' ⟨s.le.trans q.le (by rw [s.hid]; exact fun _ z => z), q.len.trans s.len, fun k a z => s.old k a (q.old k a z)⟩ (by rw [hid, s.hid]) (none_back s.le hp) nd fun b hb => none_back s.le (nb b hb)⟩
      | _ => exact h
  | exc c x S => exact fun cls dx w' H' s' => h cls dx w' H' (s.trans s')
  | bad => exact h
theorem tX_seqNN {α β : Type} {ρ : Wd → Hp → α → β → Prop} {Γ : Env} {S : Store} {ea : Env → Store → R α} {k : α → Store → R Val} {Q : VK} (st : StOk g w S H) (en : EnvOk g w Γ σ H) (h : RQNN g W w σ H ((ea Γ S).bind k) Q) {P : β → Hp → Prop}
    (hP : ∀ v H1 x S1 w1, Stp w H w1 H1 → StOk g w1 S1 H1 → EnvOk g w1 Γ σ H1 → ρ w1 H1 x v → RQNN g W w1 σ H1 (k x S1) Q → P v H1) : tX g W ρ ea σ H P := by
  refine ⟨w, Γ, S, st, en, ?_⟩
  cases e : ea Γ S with
  | ok x S1 =>
    rw [e] at h
    exact fun v w' H' s st' r => hP v H' x S1 w' s st' (en.step s) r (RQNN.to (r := k x S1) h s)
  | exc c x S1 =>
    rw [e] at h
    exact h
  | bad =>
    rw [e] at h
    exact h
end
structure LcAtN (g : Gx) (tg : Tg) (test : Env → Store → R Bool) (elt : Ev) (Γw : Env) (ds all : List D) (Sf : Store) (w1 : Wd) (H1 : Hp) (Dd : Addr) (i m : Nat) (Hc : Hp) : Prop where
  im : i + m = ds.length
  at_ : ∃ w S rows rest bs, StOk g w S Hc ∧ Stq w1 H1 w Hc ∧ w.hid = bs.reverse ++ Dd :: w1.hid ∧ (Dd :: bs).Nodup ∧ (∀ b ∈ bs, H1 b = none) ∧ Hc Dd = some (.lst (bs.map V.ref)) ∧ RowsAt g w Hc rows bs ∧ bs.length ≤ i ∧ lcD tg test elt Γw (ds.drop i) S = .ok rest Sf ∧ all = rows.map .lst ++ rest
theorem lcN_q {g : Gx} {W : WX} {it : Env → Store → R (List D)} {vs sl : List Nat} {tg : Tg} {test : Env → Store → R Bool} {elt : Ev} {σ : L2.St} {H : Hp} {Q : VK} (hsl : ∀ i ∈ sl, i ∈ vs) (h : tNN g W (eLc it vs tg test elt) σ H Q) :
    tLc (Pd.tI g W it) (tG g sl tg) (tT g W0 test) (tN g W0 elt) vs σ H Q := by
  obtain ⟨w, Γ, S, st, en, h⟩ := h
  refine tX_seqNN st en h fun J H1 ds S1 w1 s1 st1 en1 it1 h1 => ?_
  by_cases hz : ds.length ≤ cap
  · rw [if_pos hz] at h1
    cases hl : lcD tg test elt (wipeE Γ vs) ds S1 with
    | ok all Sf =>
      rw [hl] at h1
      obtain ⟨rowsA, hall0, h1⟩ := h1
      intro Dd hD
      have q0 : Stq w1 H1 ⟨w1.m, Dd :: w1.hid⟩ (upd H1 Dd (.lst [])) := ⟨le_newH st1 hD, rfl, fun _ _ e => e⟩
      refine ⟨LcAtN g tg test elt (wipeE Γ vs) ds all Sf w1 H1 Dd, ⟨ds.length, by simp, ⟨w1.m, Dd :: w1.hid⟩, S1, [], all, [], st1.newH hD, q0, rfl, by simp, by simp, upd_same, trivial, Nat.zero_le _, hl, rfl⟩, ?_⟩
      rintro i m Hc ⟨im, w2, S2, rows, rest, bs, st2, q2, hid2, nd2, nb2, hDc, l2, le2, hl2, hall⟩
      obtain ⟨go, stop⟩ := it1 w2 S2 Hc st2 q2.le
      by_cases hi : i < ds.length
      · refine .inr ⟨(go i hi).1, LcAtN g tg test elt (wipeE Γ vs) ds all Sf w1 H1 Dd (i + 1) (m - 1), fun H' q => ⟨m - 1, by omega, q⟩, fun x H' y => ?_⟩
        obtain ⟨sy, sty, ry⟩ := (go i hi).2 x H' y
        have ed : ds[i]? = some ds[i] := List.getElem?_eq_getElem hi
        have rx := ry _ ed
        rw [List.drop_eq_getElem_cons hi] at hl2
        unfold lcD at hl2
        have sub2 : ∀ a ∈ w1.hid, a ∈ w2.hid := by rw [hid2]; exact fun a z => List.mem_append_right _ (List.mem_cons_of_mem _ z)
        have qy := q2.stp sy sub2
        have enw : EnvOk g w2 (wipeE Γ vs) (wipe σ vs) H' := (en1.stq qy).wipe vs
        have memD : Dd ∈ w2.hid := by rw [hid2]; exact List.mem_append_right _ List.mem_cons_self
        have memB : ∀ b ∈ bs, b ∈ w2.hid := by rw [hid2]; exact fun b hb => List.mem_append_left _ (List.mem_reverse.mpr hb)
        cases et : tg ds[i] (wipeE Γ vs) with
        | none => rw [et] at hl2; cases hl2
        | some Γ1 =>
          rw [et] at hl2
          have hl2 : (noX (test Γ1 S2)).bind _ = R.ok rest Sf := hl2
          refine ⟨w2, wipeE Γ vs, S2, ds[i], Γ1, sty, enw, rx, et, fun σ2 en2 ln2 k2 => ⟨?_, ?_⟩⟩
          · rw [wipe_ext (σ := wipe σ vs) ln2 fun j hj => k2 j fun z => hj (hsl j z)]
            exact wipe_wipe σ vs
          · cases eb : noX (test Γ1 S2) with
            | exc c z S3 => rw [eb] at hl2; cases hl2
            | bad => rw [eb] at hl2; cases hl2
            | ok b S3 =>
              have hl2 : (if b = true then (noX (elt Γ1 S3)).bind (fun y S2 => lcY y (lcD tg test elt (wipeE Γ vs) (List.drop (i + 1) ds) S2)) else lcD tg test elt (wipeE Γ vs) (List.drop (i + 1) ds) S3) = R.ok rest Sf := by rw [eb] at hl2; exact hl2
              refine ⟨w2, Γ1, S2, sty, en2, ?_⟩
              rw [noX_ok eb]
              intro b' w3 H3 s3 st3 e3
              subst e3
              have hD3 : H3 Dd = some (.lst (bs.map V.ref)) := by rw [s3.le.hk Dd memD, sy.le.hk Dd memD]; exact hDc
              have q3 := qy.stp s3 sub2
              have l3 : RowsAt g w3 H3 rows bs := RowsAt.le s3.le (fun b hb => s3.le.hk b (memB b hb)) (RowsAt.le sy.le (fun b hb => sy.le.hk b (memB b hb)) l2)
              have hid3 : w3.hid = bs.reverse ++ Dd :: w1.hid := s3.hid.trans hid2
              have sub3 : ∀ a ∈ w1.hid, a ∈ w3.hid := by rw [hid3]; exact fun a z => List.mem_append_right _ (List.mem_cons_of_mem _ z)
              cases b with
              | false =>
                exact ⟨by omega, w3, S3, rows, rest, bs, st3, q3, hid3, nd2, nb2, hD3, l3, by omega, hl2, hall⟩
              | true =>
                have hl2 : (noX (elt Γ1 S3)).bind (fun y S2 => lcY y (lcD tg test elt (wipeE Γ vs) (List.drop (i + 1) ds) S2)) = R.ok rest Sf := hl2
                cases ey : noX (elt Γ1 S3) with
                | exc c z S4 => rw [ey] at hl2; cases hl2
                | bad => rw [ey] at hl2; cases hl2
                | ok y S4 =>
                  rw [ey] at hl2
                  cases y with
                  | cell k => cases hl2
                  | d d =>
                    have hl2 : (lcD tg test elt (wipeE Γ vs) (ds.drop (i + 1)) S4).bind (fun ds S => .ok (d :: ds) S) = R.ok rest Sf := hl2
                    cases el : lcD tg test elt (wipeE Γ vs) (ds.drop (i + 1)) S4 with
                    | exc c z S5 => rw [el] at hl2; cases hl2
                    | bad => rw [el] at hl2; cases hl2
                    | ok rest' S5 =>
                      rw [el] at hl2
                      cases hl2
                      obtain ⟨r, rfl⟩ : ∃ r, d = .lst r := by
                        have e := toRows_eq hall0
                        rw [hall] at e
                        have : d ∈ rowsA.map D.lst := by rw [← e]; simp
                        obtain ⟨r, _, er⟩ := List.mem_map.mp this
                        exact ⟨r, er.symm⟩
                      refine ⟨w3, Γ1, S3, st3, en2.step s3, ?_⟩
                      rw [noX_ok ey]
                      intro pb us w4 H4 n4 st4 hp4 r4
                      have memD3 : Dd ∈ w3.hid := by rw [hid3]; exact List.mem_append_right _ List.mem_cons_self
                      have memB3 : ∀ b ∈ bs, b ∈ w3.hid := by rw [hid3]; exact fun b hb => List.mem_append_left _ (List.mem_reverse.mpr hb)
                      have hD4 : H4 Dd = some (.lst (bs.map V.ref)) := by rw [n4.q.le.hk Dd memD3]; exact hD3
                      have q4 : Stq w1 H1 w4 H4 := ⟨q3.le.trans n4.q.le sub3, n4.q.len.trans q3.len, fun k a z => q3.old k a (n4.q.old k a z)⟩
                      have l4 : RowsAt g w4 H4 rows bs := RowsAt.le n4.q.le (fun b hb => n4.q.le.hk b (memB3 b hb)) l3
                      have hid4 : w4.hid = (bs ++ [pb]).reverse ++ Dd :: w1.hid := by rw [n4.hid, hid3]; simp
                      have memD4 : Dd ∈ w4.hid := by rw [hid4]; exact List.mem_append_right _ List.mem_cons_self
                      have pD : pb ≠ Dd := fun z => by have := n4.free; rw [z, hD3] at this; cases this
                      have pB : pb ∉ bs := fun z => by
                        have := st3.hidN (memB3 pb z)
                        exact this n4.free
                      have nDb : Dd ∉ bs := fun z => (List.nodup_cons.mp nd2).1 z
                      refine ⟨bs.map V.ref, hD4, ?_, by omega, w4, S4, rows ++ [r], rest', bs ++ [pb], st4.mutH memD4, ?_, hid4, ?_, ?_, by rw [upd_same]; simp, ?_, ?_, el, ?_⟩
                      · have hc := cap_le hz
                        rw [List.length_map]
                        omega
                      · refine ⟨⟨q4.le.av, fun a o e zz n => ?_, fun a e => ?_, fun a z => ?_⟩, q4.len, q4.old⟩
                        · rw [upd_ne (ne_of_none e hD)]
                          exact q4.le.keepN a o e zz n
                        · unfold upd
                          split
                          · exact fun z => by cases z
                          · exact q4.le.trk a e
                        · rw [upd_ne fun q => by obtain ⟨xs, e⟩ := (st1.hid a z).2; rw [q, hD] at e; cases e]
                          exact q4.le.hk a z
                      · have nd := List.nodup_cons.mp nd2
                        refine List.nodup_cons.mpr ⟨fun z => ?_, List.nodup_append.mpr ⟨nd.2, by simp, fun a ha b hb e => ?_⟩⟩
                        · rcases List.mem_append.mp z with z | z
                          · exact nDb z
                          · exact pD (List.mem_singleton.mp z).symm
                        · rw [List.mem_singleton.mp hb] at e
                          exact pB (by rw [← e]; exact ha)
                      · intro b hb
                        rcases List.mem_append.mp hb with hb | hb
                        · exact nb2 b hb
                        · rw [List.mem_singleton.mp hb]
                          exact none_back q3.le n4.free
                      · exact RowsAt.mut (.inr memD4) (fun z => by
                          rcases List.mem_append.mp z with z | z
                          · exact nDb z
                          · exact pD (List.mem_singleton.mp z).symm) (RowsAt.snoc ⟨us, hp4, r4⟩ l4)
                      · rw [List.length_append, List.length_singleton]
                        omega
                      · rw [hall]
                        simp
      · have ei : i = ds.length := by omega
        subst ei
        refine .inl ⟨stop, ?_⟩
        rw [List.drop_of_length_le (Nat.le_refl _)] at hl2
        cases hl2
        rw [List.append_nil] at hall
        subst hall
        rw [toRows_map] at hall0
        cases hall0
        exact h1 Dd bs w2 Hc q2 hid2 hD nd2 nb2 st2 hDc l2
    | exc c z S2 =>
      rw [hl] at h1
      exact h1.elim
    | bad =>
      rw [hl] at h1
      exact h1.elim
  · rw [if_neg hz] at h1
    exact h1.elim
/-! ### they become objects of the store -/
abbrev cells (rows : List (List D)) : Store := rows.map fun r => some (Cell.lst r)
section
variable {g : Gx} {w w' : Wd} {H H' : Hp} {S : Store} {p : Addr} {m : List (Option Addr)} {h h' : List Addr}
theorem StOk.perm (e : ∀ a, a ∈ h' ↔ a ∈ h) (st : StOk g ⟨m, h⟩ S H) : StOk g ⟨m, h'⟩ S H :=
  ⟨st.len, fun k c q => let ⟨a, h1, h2⟩ := st.cell k c q; ⟨a, h1, h2.le (le_sub (m := m) (m' := m) (h := h) (h' := h') fun a z => z.elim .inl fun z => .inr ((e a).mp z)) fun _ _ _ q => q⟩, st.live, st.inj, fun a z => st.hid a ((e a).mp z), st.lo, fun p z => (st.tab p z).le (le_sub (m := m) (m' := m) (h := h) (h' := h') fun a z => z.elim .inl fun z => .inr ((e a).mp z)) fun _ e _ => e⟩
theorem adopt_rows : ∀ {rows : List (List D)} {bs : List Addr} {m : List (Option Addr)} {S : Store}, StOk g ⟨m, bs ++ h⟩ S H → bs.Nodup → (∀ b ∈ bs, b ∉ h) → RowsAt g ⟨m, bs ++ h⟩ H rows bs → StOk g ⟨m ++ bs.map some, h⟩ (S ++ cells rows) H
  | [], [], m, S, st, _, _, _ => by simpa [cells] using st
  | r :: rs, b :: bs, m, S, st, nd, nh, ⟨⟨vs, e, l⟩, k⟩ => by
    have nd' := List.nodup_cons.mp nd
    have st1 : StOk g ⟨m ++ [some b], bs ++ h⟩ (S ++ [some (.lst r)]) H := StOk.adopt st (fun z => (List.mem_append.mp z).elim nd'.1 (nh b List.mem_cons_self)) e l
    have := adopt_rows st1 nd'.2 (fun b hb => nh b (List.mem_cons_of_mem _ hb)) (RowsAt.le le_adopt (fun _ _ => rfl) k)
    simpa [cells] using this
theorem StOk.recell {k : Nat} {a : Addr} {c : Cell} (st : StOk g w S H) (hk : w.m[k]? = some (some a)) (hc : CellOk g w H c a) (lo : ∀ ks, c = .refs ks → ∀ j ∈ ks, j < k) : StOk g w (S.set k (some c)) H := by
  obtain ⟨c0, hc0⟩ := st.live k a hk
  have hlt : k < S.length := by
    rcases Nat.lt_or_ge k S.length with q | q
    · exact q
    · rw [List.getElem?_eq_none q] at hc0
      cases hc0
  refine ⟨by rw [List.length_set]; exact st.len, fun j c' e => ?_, fun j b e => ?_, st.inj, st.hid, fun r ks e => ?_, st.tab⟩
  · by_cases hj : k = j
    · subst hj
      rw [List.getElem?_set_self hlt] at e
      cases e
      exact ⟨a, hk, hc⟩
    · rw [List.getElem?_set_ne hj] at e
      exact st.cell j c' e
  · by_cases hj : k = j
    · subst hj
      exact ⟨_, by rw [List.getElem?_set_self hlt]⟩
    · rw [List.getElem?_set_ne hj]
      exact st.live j b e
  · by_cases hj : k = r
    · subst hj
      rw [List.getElem?_set_self hlt] at e
      cases e
      exact lo ks rfl
    · rw [List.getElem?_set_ne hj] at e
      exact st.lo r ks e
theorem repL_val : ∀ vs : List V, RepL g w H (vs.map D.val) vs
  | [] => .nil
  | v :: vs => .cons (.val v) (repL_val vs)
theorem StOk.adoptR {bs : List Addr} {ks : List Nat} (st : StOk g ⟨m, p :: h⟩ S H) (np : p ∉ h) (hp : H p = some (.lst (bs.map V.ref))) (hl : bs.length = ks.length) (hk : ∀ (i k : Nat), ks[i]? = some k → ∃ b, m[k]? = some (some b) ∧ bs[i]? = some b) :
    StOk g ⟨m ++ [some p], h⟩ (S ++ [some (.refs ks)]) H := by
  have ml : m.length = S.length := st.len
  have s1 := st.adopt np hp (repL_val (bs.map V.ref))
  have hlt : ∀ k ∈ ks, k < m.length := fun k hk' => by
    obtain ⟨i, hi⟩ := List.getElem?_of_mem hk'
    obtain ⟨b, q, _⟩ := hk i k hi
    rcases Nat.lt_or_ge k m.length with z | z
    · exact z
    · rw [List.getElem?_eq_none z] at q; cases q
  have s2 := s1.recell (k := S.length) (a := p) (c := .refs ks) (by show (m ++ [some p])[S.length]? = _; rw [List.getElem?_append_right (by omega), ml, Nat.sub_self]; rfl) ⟨bs, hp, hl, fun i k b q z => by
    obtain ⟨b', q1, q2⟩ := hk i k q
    have z : (m ++ [some p])[k]? = some (some b) := z
    rw [List.getElem?_append_left (hlt k (List.mem_of_getElem? q)), q1] at z
    cases z
    exact q2⟩ (fun ks' e j hj => by cases e; have := hlt j hj; omega)
  simpa using s2
end
/-- name = a list of new lists -/
def sNewR (i : Nat) (a : Ev) : Sv := fun Γ S => (a Γ S).fl Γ fun x S1 => match x with
  | .d (.lst ds) => (match toRows ds with
    | some rows => .nx (Γ.set i (some (.cell (S1.length + rows.length)))) (S1 ++ cells rows ++ [some (.refs (List.range' S1.length rows.length))])
    | none => .bad)
  | _ => .bad
section
variable {X : Cx} {cf : Cf} {a b c : Expr} {ea eb ec : Ev} {pos p2 : Pos} {st : Stmt} {rest : List Stmt} {sa sb : Sv}
theorem newR_q {i : Nat} {D : Ends} {σ : L2.St} {H : Hp} (hh : tS cf (sNewR i ea) D σ H) : tNN cf.g cf.W ea σ H fun x H1 => D.nx (σ.set i (some x)) H1 := by
  obtain ⟨w, Γ, S, so, en, fr, h⟩ := hh
  refine ⟨w, Γ, S, so, en, ?_⟩
  unfold sNewR at h
  cases e : ea Γ S with
  | bad => rw [e] at h; exact h
  | exc c x S1 =>
    rw [e] at h
    exact fun cls dx w' H' s st' r => h σ cls dx w' H' s.le (fr.stp s) st' (en.step s) r
  | ok x S1 =>
    rw [e] at h
    cases x with
    | cell k => exact h.elim
    | d x =>
      cases x with
      | lst ds =>
        cases er : toRows ds with
        | none => simp only [R.fl, er] at h; exact h.elim
        | some rows =>
          simp only [R.fl, er] at h
          refine ⟨rows, er, fun p bs w' H' q hid hp nd nb st' hpl hr => ?_⟩
          obtain ⟨m', h'⟩ := w'
          have eh : h' = bs.reverse ++ p :: w.hid := hid
          subst eh
          have nd' := List.nodup_cons.mp nd
          have np : p ∉ w.hid := fun z => so.hidN z hp
          have nbh : ∀ b ∈ bs, b ∉ p :: w.hid := fun b hb z => by
            rcases List.mem_cons.mp z with z | z
            · exact nd'.1 (by rw [← z]; exact hb)
            · exact so.hidN z (nb b hb)
          have pe : ∀ a, a ∈ bs ++ p :: w.hid ↔ a ∈ bs.reverse ++ p :: w.hid := fun a => by simp
          have s1 : StOk cf.g ⟨m', bs ++ p :: w.hid⟩ S1 H' := st'.perm pe
          have r1 : RowsAt cf.g ⟨m', bs ++ p :: w.hid⟩ H' rows bs := RowsAt.le (le_sub (m := m') (m' := m') (h := bs.reverse ++ p :: w.hid) (h' := bs ++ p :: w.hid) fun a z => z.elim .inl fun z => .inr ((pe a).mp z)) (fun _ _ => rfl) hr
          have s2 := adopt_rows s1 nd'.2 nbh r1
          have lr := r1.length
          have ln : m'.length = w.m.length := q.len
          have lS : m'.length = S1.length := st'.len
          have gm : ∀ i, i < bs.length → (m' ++ bs.map some)[m'.length + i]? = some bs[i]? := fun i hi => by
            rw [List.getElem?_append_right (by omega), Nat.add_sub_cancel_left, List.getElem?_map, List.getElem?_eq_getElem hi]
            rfl
          have s3 := s2.adoptR (ks := List.range' S1.length rows.length) np hpl (by simp [lr]) fun i k hi => by
            by_cases hlt : i < rows.length
            · rw [List.getElem?_range' hlt] at hi
              cases hi
              have hb : i < bs.length := by omega
              refine ⟨bs[i], ?_, List.getElem?_eq_getElem hb⟩
              have := gm i hb
              rw [List.getElem?_eq_getElem hb] at this
              rw [← lS]
              simpa using this
            · rw [List.getElem?_eq_none (by simp; omega)] at hi
              cases hi
          have av : ∀ a, (⟨m' ++ bs.map some ++ [some p], w.hid⟩ : Wd).av a → (⟨m', bs.reverse ++ p :: w.hid⟩ : Wd).av a := fun a z => by
            rcases z with z | z
            · rcases List.mem_append.mp z with z | z
              · rcases List.mem_append.mp z with z | z
                · exact .inl z
                · obtain ⟨b, hb, e⟩ := List.mem_map.mp z
                  cases e
                  exact .inr (List.mem_append_left _ (List.mem_reverse.mpr hb))
              · have := List.mem_singleton.mp z
                cases this
                exact .inr (List.mem_append_right _ List.mem_cons_self)
            · exact .inr (List.mem_append_right _ (List.mem_cons_of_mem _ z))
          have ad : Le w H ⟨m' ++ bs.map some ++ [some p], w.hid⟩ H' := q.le.trans (le_sub av) fun a z => List.mem_append_right _ (List.mem_cons_of_mem _ z)
          have get : ∀ (k : Nat) (a : Addr), (m' ++ bs.map some ++ [some p])[k]? = some (some a) → (k < m'.length ∧ m'[k]? = some (some a)) ∨ (m'.length ≤ k ∧ H a = none) := fun k a e => by
            by_cases hk : k < m'.length
            · rw [List.append_assoc, List.getElem?_append_left hk] at e
              exact .inl ⟨hk, e⟩
            · rw [List.append_assoc, List.getElem?_append_right (by omega)] at e
              have := List.mem_of_getElem? e
              refine .inr ⟨by omega, ?_⟩
              rcases List.mem_append.mp this with z | z
              · obtain ⟨b, hb, e⟩ := List.mem_map.mp z
                cases e
                exact nb a hb
              · have := List.mem_singleton.mp z
                cases this
                exact hp
          have h0 : ∀ a, H a = none → cf.H0 a = none := fun a z => none_back fr.le z
          refine h (σ.set i (some (.ref p))) ⟨m' ++ bs.map some ++ [some p], w.hid⟩ H' ad ⟨fr.le.trans ad (by rw [fr.hid]; exact fun _ z => z), fr.hid, ?_, fun k a hk e => ?_, fun k a hk e => ?_⟩ s3 ?_
          · have := fr.len
            show _ ≤ (m' ++ bs.map some ++ [some p]).length
            rw [List.length_append, List.length_append]
            omega
          · have hk2 := fr.len
            rcases get k a e with ⟨_, z⟩ | ⟨z, _⟩
            · exact fr.old k a hk (q.old k a z)
            · omega
          · rcases get k a e with ⟨_, z⟩ | ⟨_, z⟩
            · exact fr.new k a hk (q.old k a z)
            · exact h0 a z
          · have en' : EnvOk cf.g ⟨m' ++ bs.map some ++ [some p], w.hid⟩ Γ σ H' := ⟨en.len, fun j y e => by
              obtain ⟨v, h1, h2⟩ := en.val j y e
              refine ⟨v, h1, ?_⟩
              cases y with
              | d y => exact Rep.le ad h2
              | cell k =>
                have hk : k < w.m.length := h2.1
                refine ⟨by show k < (m' ++ bs.map some ++ [some p]).length; rw [List.length_append, List.length_append]; omega, fun a e => h2.2 a ?_⟩
                rcases get k a e with ⟨_, z⟩ | ⟨z, _⟩
                · exact q.old k a z
                · omega⟩
            refine en'.set i (x := .cell (S1.length + rows.length)) ⟨?_, fun a e => ?_⟩
            · show _ < (m' ++ bs.map some ++ [some p]).length
              rw [List.length_append, List.length_append, List.length_map, lS, lr]
              exact Nat.lt_succ_self _
            · have e : (m' ++ bs.map some ++ [some p])[S1.length + rows.length]? = some (some a) := e
              rw [List.getElem?_append_right (by simp; omega)] at e
              have z : S1.length + rows.length - (m' ++ bs.map some).length = 0 := by simp; omega
              rw [z] at e
              have e : some (some p) = some (some a) := e
              cases e
              rfl
      | _ => exact h.elim
end
/-! ### a row of them, and all of them as a value -/
def eRow (eo ei : Ev) : Ev := fun Γ S => (eo Γ S).bind fun o S1 => (ei Γ S1).bind fun i S2 => match o, i with
  | .cell r, .d (.int n) => (match S2[r]? with
    | some (some (.refs ks)) => (match atI ks n with | some k => .ok (.cell k) S2 | none => .bad)
    | _ => .bad)
  | _, _ => .bad
section
variable {X : Cx} {g : Gx} {W : WX} {a b : Expr} {ea eb : Ev} {pos : Pos}
theorem p_row (hK : g.K = X.K) (ha : PE X a (tE g W ea)) (hb : PE X b (tE g W eb)) (hs : PlainIx b := by exact fun _ _ => rfl) : PE X (.Subscript a b pos) (tE g W (eRow ea eb)) :=
  (pe_ix ix_two ha hb hs).imp fun σ H Q ⟨w, Γ, S, st, en, h⟩ => tX_seq st en h fun u H1 x S1 w1 s1 st1 en1 r1 h1 => tX_seq st1 en1 h1 fun v H2 y S2 w2 s2 st2 en2 r2 h2 => by
    rw [← hK]
    cases x with
    | d x => exact h2.elim
    | cell r =>
      cases y with
      | cell k => exact h2.elim
      | d y =>
        cases y with
        | int n =>
          cases r2
          have h2 : RQ g W (RepV g) w2 σ H2 (match S2[r]? with
            | some (some (.refs ks)) => (match atI ks n with | some k => .ok (.cell k) S2 | none => .bad)
            | _ => .bad) Q := h2
          cases q : S2[r]? with
          | none => rw [q] at h2; exact h2.elim
          | some oc =>
            cases oc with
            | none => rw [q] at h2; exact h2.elim
            | some cl =>
              cases cl with
              | lst _ => rw [q] at h2; exact h2.elim
              | obj _ _ => rw [q] at h2; exact h2.elim
              | refs ks =>
                rw [q] at h2
                have h2 : RQ g W (RepV g) w2 σ H2 (match atI ks n with | some k => .ok (.cell k) S2 | none => .bad) Q := h2
                cases qk : atI ks n with
                | none => rw [qk] at h2; exact h2.elim
                | some k =>
                  rw [qk] at h2
                  obtain ⟨ar, har, bs, hH, hl, hb'⟩ := st2.cell r _ q
                  obtain rfl := (r1.step s2).2 ar har
                  have hk : ∃ i, ixN ks.length n = some i ∧ ks[i]? = some k := by
                    unfold atI at qk
                    cases e : ixN ks.length n with
                    | none => rw [e] at qk; cases qk
                    | some i => rw [e] at qk; exact ⟨i, rfl, qk⟩
                  obtain ⟨i, hi, hk⟩ := hk
                  have hlt : i < bs.length := by
                    have := (List.getElem?_eq_some_iff.mp hk).1
                    omega
                  have hat : atI (bs.map V.ref) n = some (V.ref bs[i]) := by
                    unfold atI
                    rw [List.length_map, hl, hi]
                    show (bs.map V.ref)[i]? = _
                    rw [List.getElem?_map, List.getElem?_eq_getElem hlt]
                    rfl
                  have hr : r < S2.length := (List.getElem?_eq_some_iff.mp q).1
                  have lo := st2.lo r ks q k (List.mem_of_getElem? hk)
                  refine .inl ⟨ar, _, n, _, rfl, rfl, .inl (.inl hH), hat, RQ.okQ h2 st2 ⟨by rw [st2.len]; omega, fun a' e => ?_⟩⟩
                  have := hb' i k a' hk e
                  rw [List.getElem?_eq_getElem hlt] at this
                  cases this
                  rfl
        | _ => exact h2.elim
end
def rowsOf (S : Store) : List Nat → Option (List (List D))
  | [] => some []
  | k :: ks => match S[k]? with
    | some (some (.lst ds)) => (rowsOf S ks).map (ds :: ·)
    | _ => none
def goneL {α : Type} (m : List (Option α)) : List Nat → List (Option α)
  | [] => m
  | k :: ks => goneL (m.set k none) ks
theorem goneL_get {α : Type} : ∀ {ks : List Nat} {m : List (Option α)} {j : Nat} {a : α}, (goneL m ks)[j]? = some (some a) → m[j]? = some (some a) ∧ j ∉ ks
  | [], m, j, a, e => ⟨e, by simp⟩
  | k :: ks, m, j, a, e => by
    obtain ⟨h1, h2⟩ := goneL_get (ks := ks) (m := m.set k none) e
    by_cases hj : k = j
    · subst hj
      rw [List.getElem?_set] at h1
      simp at h1
    · rw [List.getElem?_set_ne hj] at h1
      exact ⟨h1, fun z => (List.mem_cons.mp z).elim (fun z => hj z.symm) h2⟩
theorem goneL_len {α : Type} : ∀ {ks : List Nat} {m : List (Option α)}, (goneL m ks).length = m.length
  | [], m => rfl
  | k :: ks, m => by
    show (goneL (m.set k none) ks).length = _
    rw [goneL_len, List.length_set]
theorem StOk.goneL {g : Gx} {H : Hp} {h : List Addr} : ∀ {ks : List Nat} {m : List (Option Addr)} {S : Store}, StOk g ⟨m, h⟩ S H → StOk g ⟨Pd.goneL m ks, h⟩ (Pd.goneL S ks) H
  | [], m, S, st => st
  | k :: ks, m, S, st => StOk.goneL (ks := ks) st.gone
theorem le_goneL {H : Hp} {h : List Addr} {ks : List Nat} {m : List (Option Addr)} : Le ⟨m, h⟩ H ⟨goneL m ks, h⟩ H := le_sub fun a z => z.elim (fun z => by
  obtain ⟨j, hj⟩ := List.getElem?_of_mem z
  exact .inl (List.mem_of_getElem? (goneL_get hj).1)) .inr
theorem rowsOf_get : ∀ {S : Store} {ks : List Nat} {rows : List (List D)}, rowsOf S ks = some rows → rows.length = ks.length ∧ ∀ (i k : Nat) (r : List D), ks[i]? = some k → rows[i]? = some r → S[k]? = some (some (.lst r))
  | S, [], rows, e => by cases e; exact ⟨rfl, by simp⟩
  | S, k :: ks, rows, e => by
    unfold rowsOf at e
    split at e
    · rename_i ds hk
      cases q : rowsOf S ks with
      | none => rw [q] at e; cases e
      | some rs =>
        rw [q] at e
        cases e
        obtain ⟨h1, h2⟩ := rowsOf_get q
        refine ⟨by simp [h1], fun i j r hi hr => ?_⟩
        cases i with
        | zero => cases hi; cases hr; exact hk
        | succ i => exact h2 i j r (by simpa using hi) (by simpa using hr)
    · cases e
/-- the lists of a name become a value (no statement of the text) -/
def sFrzR (n0 i : Nat) : Sv := fun Γ S => match Γ[i]? with
  | some (some (.cell r)) => (match S[r]? with
    | some (some (.refs ks)) => (match rowsOf S ks with
      | some rows => if n0 ≤ r then .nx (Γ.set i (some (.d (.lst (rows.map .lst))))) (goneL S (r :: ks)) else .bad
      | none => .bad)
    | _ => .bad)
  | _ => .bad
section
variable {X : Cx} {cf : Cf} {a b c : Expr} {ea eb ec : Ev} {pos p2 : Pos} {st : Stmt} {rest : List Stmt} {sa sb : Sv}
theorem ss_frzR {i n0 : Nat} (hn : cf.w0.m.length = n0) (h1 : PSs X rest (tS cf sb)) : PSs X rest (tS cf (sSeq (sFrzR n0 i) sb)) :=
  h1.imp fun D σ H ⟨w, Γ, S, so, en, fr, h⟩ => by
    subst hn
    unfold sSeq sFrzR at h
    cases e1 : Γ[i]? with
    | none => rw [e1] at h; exact h.elim
    | some o =>
      cases o with
      | none => rw [e1] at h; exact h.elim
      | some x =>
        cases x with
        | d x => rw [e1] at h; exact h.elim
        | cell r =>
          cases e2 : S[r]? with
          | none => rw [e1] at h; simp only [e2] at h; exact h.elim
          | some o =>
            cases o with
            | none => rw [e1] at h; simp only [e2] at h; exact h.elim
            | some cl =>
              cases cl with
              | obj cn fs => rw [e1] at h; simp only [e2] at h; exact h.elim
              | lst ds => rw [e1] at h; simp only [e2] at h; exact h.elim
              | refs ks =>
                cases e3 : rowsOf S ks with
                | none => rw [e1] at h; simp only [e2, e3] at h; exact h.elim
                | some rows =>
                  rw [e1] at h
                  simp only [e2, e3] at h
                  by_cases h0 : cf.w0.m.length ≤ r
                  · simp only [if_pos h0] at h
                    obtain ⟨m, hd⟩ := w
                    obtain ⟨av, hav, bs, hH, hlb, hb'⟩ := so.cell r _ e2
                    obtain ⟨v, hv, rv⟩ := en.val i _ e1
                    have ev := rv.2 av hav
                    subst ev
                    obtain ⟨hlr, hrow⟩ := rowsOf_get e3
                    have le : Le ⟨m, hd⟩ H ⟨goneL m (r :: ks), hd⟩ H := le_goneL
                    have notin : ∀ (k : Nat) (a : Addr), k ∈ r :: ks → m[k]? = some (some a) → some a ∉ goneL m (r :: ks) := fun k a hk hm z => by
                      obtain ⟨j, hj⟩ := List.getElem?_of_mem z
                      obtain ⟨q1, q2⟩ := goneL_get hj
                      have := so.inj k j a hm q1
                      exact q2 (this ▸ hk)
                    have rl : ∀ (n : Nat), n ≤ ks.length → RepL cf.g ⟨goneL m (r :: ks), hd⟩ H ((rows.drop (ks.length - n)).map .lst) ((bs.drop (ks.length - n)).map V.ref) := fun n => by
                      induction n with
                      | zero =>
                        intro _
                        rw [Nat.sub_zero, List.drop_eq_nil_of_le (by omega), List.drop_eq_nil_of_le (by omega)]
                        exact .nil
                      | succ n ih =>
                        intro hn
                        have hi : ks.length - (n + 1) < rows.length := by omega
                        have hi2 : ks.length - (n + 1) < bs.length := by omega
                        have hi3 : ks.length - (n + 1) < ks.length := by omega
                        rw [List.drop_eq_getElem_cons hi, List.drop_eq_getElem_cons hi2, show ks.length - (n + 1) + 1 = ks.length - n by omega]
                        refine .cons ?_ (ih (by omega))
                        have hc := hrow _ _ _ (List.getElem?_eq_getElem hi3) (List.getElem?_eq_getElem hi)
                        obtain ⟨b', hm, vs, hb1, hb2⟩ := so.cell _ _ hc
                        have hbb := hb' _ _ b' (List.getElem?_eq_getElem hi3) hm
                        rw [List.getElem?_eq_getElem hi2] at hbb
                        have hbb := Option.some.inj hbb
                        rw [hbb]
                        refine .lst hb1 (fun z => ?_) (RepL.le le hb2)
                        rcases z with z | z
                        · exact notin _ b' (List.mem_cons_of_mem _ (List.getElem_mem hi3)) hm z
                        · exact (so.hid b' z).1 (List.mem_of_getElem? hm)
                    have rl := rl ks.length (Nat.le_refl _)
                    rw [Nat.sub_self, List.drop_zero, List.drop_zero] at rl
                    have rep : Rep cf.g ⟨goneL m (r :: ks), hd⟩ H (.lst (rows.map .lst)) (.ref av) := .lst hH (fun z => by
                      rcases z with z | z
                      · exact notin r av List.mem_cons_self hav z
                      · exact (so.hid av z).1 (List.mem_of_getElem? hav)) rl
                    refine ⟨⟨goneL m (r :: ks), hd⟩, _, _, so.goneL, ?_, ⟨fr.le.trans le (by rw [fr.hid]; exact fun _ z => z), fr.hid, by show _ ≤ (goneL m (r :: ks)).length; rw [goneL_len]; exact fr.len, fun j a hj e => fr.old j a hj (goneL_get e).1, fun j a hj e => fr.new j a hj (goneL_get e).1⟩, FQ.to h le fun _ z => z⟩
                    have en' : EnvOk cf.g ⟨goneL m (r :: ks), hd⟩ Γ σ H := ⟨en.len, fun j y e => by
                      obtain ⟨u, h1, h2⟩ := en.val j y e
                      refine ⟨u, h1, ?_⟩
                      cases y with
                      | d y => exact Rep.le le h2
                      | cell l => exact ⟨by show l < (goneL m (r :: ks)).length; rw [goneL_len]; exact h2.1, fun a e => h2.2 a (goneL_get e).1⟩⟩
                    have e3 := en'.set i (x := .d (.lst (rows.map .lst))) (v := .ref av) rep
                    have e5 : σ.set i (some (V.ref av)) = σ := by
                      apply List.ext_getElem?
                      intro j
                      by_cases hj : i = j
                      · subst hj
                        rw [List.getElem?_set]
                        have : i < σ.length := by
                          rcases Nat.lt_or_ge i σ.length with q | q
                          · exact q
                          · rw [List.getElem?_eq_none q] at hv
                            cases hv
                        rw [if_pos rfl, if_pos this, hv]
                      · rw [List.getElem?_set_ne hj]
                    rw [e5] at e3
                    exact e3
                  · simp only [if_neg h0] at h
                    exact h.elim
/-- name = [.. new lists ..], the name a local of the def -/
theorem s_newRows {i : Nat} {y : Str} {py spos : Pos} {elt tg iter : Expr} {ifs : List Expr} {scope : Scope} {own : List (Str × Nat)} {it : Env → Store → R (List D)} {sl : List Nat} {tgd : Tg} {test : Env → Store → R Bool} {el : Ev} (hc : X.calm = true) (hN : X.N.Nodup) (hy : X.N[i]? = some y) (hyl : X.env.scope.names.lookup y = some .local)
    (hsw : swapsWith (.ListComp elt [⟨tg, iter, ifs, 0⟩] scope pos) (some (.Name y py)) spos.line X.env = pure true) (hi : PI X tg iter (Pd.tI cf.g cf.W it)) (ok : BlkOk X.N X.env.scope scope own)
    (hg : ∀ (s : Shared) (H : Hp) (C : Addr) (cl : List (Str × Addr)) (fp : List Addr), PG (X.blk s H scope (compEnvC scope cl C X.env) fp) tg (tG cf.g sl tgd)) (ht : ∀ (s : Shared) (H : Hp) (C : Addr) (cl : List (Str × Addr)) (fp : List Addr), PTs (X.blk s H scope (compEnvC scope cl C X.env) fp) ifs (tT cf.g W0 test))
    (he : ∀ (s : Shared) (H : Hp) (C : Addr) (cl : List (Str × Addr)) (fp : List Addr), PE (X.blk s H scope (compEnvC scope cl C X.env) fp) elt (tN cf.g W0 el)) (hsl : ∀ i ∈ sl, i ∈ own.map (·.2)) (hs : ∀ x, foldedSetIterable iter X.env x = pure x := by intro _; rfl) :
    PS X (.Assign [.Name y py] (.ListComp elt [⟨tg, iter, ifs, 0⟩] scope pos) spos) (tS cf (sNewR i (eLc it (own.map (·.2)) tgd test el))) :=
  (ps_setLc hc hN hy hyl hsw hi ok hg ht he hs).imp fun D σ H h => lcN_q hsl (newR_q h)
theorem p_lcRows {g : Gx} {W : WX} {elt tg iter : Expr} {ifs : List Expr} {scope : Scope} {own : List (Str × Nat)} {it : Env → Store → R (List D)} {sl : List Nat} {tgd : Tg} {test : Env → Store → R Bool} {el : Ev} (hc : X.calm = true) (hN : X.N.Nodup) (hi : PI X tg iter (Pd.tI g W it)) (ok : BlkOk X.N X.env.scope scope own)
    (hg : ∀ (s : Shared) (H : Hp) (C : Addr) (cl : List (Str × Addr)) (fp : List Addr), PG (X.blk s H scope (compEnvC scope cl C X.env) fp) tg (tG g sl tgd)) (ht : ∀ (s : Shared) (H : Hp) (C : Addr) (cl : List (Str × Addr)) (fp : List Addr), PTs (X.blk s H scope (compEnvC scope cl C X.env) fp) ifs (tT g W0 test))
    (he : ∀ (s : Shared) (H : Hp) (C : Addr) (cl : List (Str × Addr)) (fp : List Addr), PE (X.blk s H scope (compEnvC scope cl C X.env) fp) elt (tN g W0 el)) (hsl : ∀ i ∈ sl, i ∈ own.map (·.2)) (hs : ∀ x, foldedSetIterable iter X.env x = pure x := by intro _; rfl) :
    PE X (.ListComp elt [⟨tg, iter, ifs, 0⟩] scope pos) (tNN g W (eLc it (own.map (·.2)) tgd test el)) := (pe_lc hc hN hi ok hg ht he hs).imp fun σ H Q h => lcN_q hsl h
theorem RQNN.out {g : Gx} {W : WX} {w : Wd} {σ : L2.St} {H : Hp} {r : R Val} {Q Q' : VK} (h : RQNN g W w σ H r Q) (i : ∀ v H', Q v H' → Q' v H') : RQNN g W w σ H r Q' := by
  cases r with
  | ok x S =>
    cases x with
    | cell k => exact h
    | d x =>
      cases x with
      | lst ds =>
        obtain ⟨rows, e, h⟩ := h
        exact ⟨rows, e, fun p bs w' H' a1 a2 a3 a4 a5 a6 a7 a8 => i _ _ (h p bs w' H' a1 a2 a3 a4 a5 a6 a7 a8)⟩
      | _ => exact h
  | exc c x S => exact h
  | bad => exact h
/-- name, other = lists of new lists, a constant -/
theorem s_parRows {i j : Nat} {x y : Str} {d : D} {v : V} {px py pt pt2 : Pos} {kt k2 : Nat} (hc : X.calm = true) (hN : X.N.Nodup) (hi : X.N[i]? = some x) (hj : X.N[j]? = some y) (hij : i ≠ j)
    (hx : X.env.scope.names.lookup x = some .local) (hy : X.env.scope.names.lookup y = some .local) (ha : PE X a (tNN cf.g cf.W ea)) (hb : PE X b (tC v)) (hr : ∀ w H, Rep cf.g w H d v)
    (hw : swappedStores [.Tuple [.Name x px, .Name y py] kt pt] (.Tuple [a, b] k2 pt2) X.env = pure (some [x, y]))
    (hs : swapsWithSole [.Tuple [.Name x px, .Name y py] kt pt] (.Tuple [a, b] k2 pt2) pos.line X.env = pure false := by rfl)
    (hs1 : starEach [a, b] X.env = (false, eval a X.env) :: starEach [b] X.env := by rfl) (hs2 : starEach [b] X.env = (false, eval b X.env) :: starEach [] X.env := by rfl) :
    PS X (.Assign [.Tuple [.Name x px, .Name y py] kt pt] (.Tuple [a, b] k2 pt2) pos) (tS cf (sSeq (sNewR i ea) (sAsg j (eC d)))) :=
  (ps_par hc hN hi hj hij hx hy (pa_cons ha (pa_cons hb pa_nil hs2) hs1) hw hs).imp fun D σ H ⟨w, Γ, S, so, en, fr, h⟩ => by
    have q : tNN cf.g cf.W ea σ H fun u H1 => D.nx ((σ.set i (some u)).set j (some v)) H1 := by
      refine newR_q (D := { nx := fun σ' H' => D.nx (σ'.set j (some v)) H', rt := D.rt, bk := D.bk, ct := D.ct }) ⟨w, Γ, S, so, en, fr, ?_⟩
      unfold sSeq at h
      cases e : sNewR i ea Γ S with
      | nx Γ1 S1 =>
        rw [e] at h
        intro σ' w' H' l f st' en'
        exact h (σ'.set j (some v)) w' H' l f st' (en'.set j (x := .d d) (hr w' H'))
      | bk Γ1 S1 => rw [e] at h; exact h
      | ct Γ1 S1 => rw [e] at h; exact h
      | rt x S1 => rw [e] at h; exact h
      | exc c x Γ1 S1 => rw [e] at h; exact h
      | bad => rw [e] at h; exact h
    obtain ⟨w1, Γ1, S1, a1, a2, a3⟩ := q
    refine ⟨w1, Γ1, S1, a1, a2, ?_⟩
    exact RQNN.out a3 fun u H1 z => ⟨u, v, rfl, z⟩
end
end Pd

namespace Pd
open PySem PySem.Spec PySem.Calls PyProof.Rows PyProof.V L2
/-! ### max, min of a list or a tuple of whole numbers -/
section
variable {prog : Program} {w : World} {A : Around} {E : Value → Shared → Prop} {s : Shared} {t : Addr}
theorem greatest_tup {xs : Array (Int × Tok)} {Q : Value → Shared → Prop} (hh : A.handled = none) (ht : s.heap.IsTuple t (intItems xs)) (hne : 0 < xs.size)
    (h : ∀ v h' tk, (intItems xs)[argBest (fun i j => decide (numAt xs i > numAt xs j)) (xs.size - 1)]? = some v → (∀ b o, s.heap.get? b = some o → h'.get? b = some o) → Q v { s with heap := h', toks := tk }) :
    wpAny (model prog w) A (call (.builtin "max") [.ref t]) Q E s := by
  obtain ⟨o, ho, hc, n, hd⟩ := id ht
  have far : t ≠ s.heap.objs.size := Nat.ne_of_lt (Heap.lt_size ho)
  have hsz : (intItems xs).size = xs.size := by simp [intItems]
  have wk := Walks.tuple (prog := prog) (w := w) (A := A.in1) hh s.heap.objs.size t far (intItems xs)
  refine call_max_walk (wpAny_pyIter_tuple ht ?_)
  refine ⟨s.heap.objs.size, _, _, _, _, _, _, rfl, wk, ⟨⟨_, Heap.get?_push_size _ rfl, rfl, rfl⟩, ht.at fun o e => Heap.get?_push_of_some _ e⟩, fun b hb => ?_, by simpa [intItems] using hne, CmpOf.ints_gt (numAt xs) (fun _ _ => intItems_at), fun v h' tk hP hk => ?_⟩
  · rcases List.mem_cons.mp hb with rfl | hb
    · exact Heap.lt_size (Heap.get?_push_size _ rfl)
    · obtain rfl := List.mem_singleton.mp hb
      exact Heap.lt_size (Heap.get?_push_of_some _ ho)
  · exact h v h' tk (by simpa [intItems] using hP) fun b o e => hk b o (fun hb => absurd (Heap.lt_size e) ((List.mem_singleton.mp hb) ▸ Nat.lt_irrefl _)) (Heap.get?_push_of_some _ e)
theorem least_tup {xs : Array (Int × Tok)} {Q : Value → Shared → Prop} (hh : A.handled = none) (ht : s.heap.IsTuple t (intItems xs)) (hne : 0 < xs.size)
    (h : ∀ v h' tk, (intItems xs)[argBest (fun i j => decide (numAt xs i < numAt xs j)) (xs.size - 1)]? = some v → (∀ b o, s.heap.get? b = some o → h'.get? b = some o) → Q v { s with heap := h', toks := tk }) :
    wpAny (model prog w) A (call (.builtin "min") [.ref t]) Q E s := by
  obtain ⟨o, ho, hc, n, hd⟩ := id ht
  have far : t ≠ s.heap.objs.size := Nat.ne_of_lt (Heap.lt_size ho)
  have hsz : (intItems xs).size = xs.size := by simp [intItems]
  have wk := Walks.tuple (prog := prog) (w := w) (A := A.in1) hh s.heap.objs.size t far (intItems xs)
  refine call_min_walk (wpAny_pyIter_tuple ht ?_)
  refine ⟨s.heap.objs.size, _, _, _, _, _, _, rfl, wk, ⟨⟨_, Heap.get?_push_size _ rfl, rfl, rfl⟩, ht.at fun o e => Heap.get?_push_of_some _ e⟩, fun b hb => ?_, by simpa [intItems] using hne, CmpOf.ints_lt (numAt xs) (fun _ _ => intItems_at), fun v h' tk hP hk => ?_⟩
  · rcases List.mem_cons.mp hb with rfl | hb
    · exact Heap.lt_size (Heap.get?_push_size _ rfl)
    · obtain rfl := List.mem_singleton.mp hb
      exact Heap.lt_size (Heap.get?_push_of_some _ ho)
  · exact h v h' tk (by simpa [intItems] using hP) fun b o e => hk b o (fun hb => absurd (Heap.lt_size e) ((List.mem_singleton.mp hb) ▸ Nat.lt_irrefl _)) (Heap.get?_push_of_some _ e)
end
def mxL : List Int → Int
  | [] => 0
  | n :: ns => ns.foldl max n
def mnL : List Int → Int
  | [] => 0
  | n :: ns => ns.foldl min n
theorem foldl_max : ∀ (ns : List Int) (n : Int), n ≤ ns.foldl max n ∧ (∀ y ∈ ns, y ≤ ns.foldl max n) ∧ (ns.foldl max n = n ∨ ns.foldl max n ∈ ns)
  | [], n => ⟨Int.le_refl _, by simp, .inl rfl⟩
  | m :: ns, n => by
    obtain ⟨h1, h2, h3⟩ := foldl_max ns (max n m)
    have e : (m :: ns).foldl max n = ns.foldl max (max n m) := rfl
    rw [e]
    refine ⟨by omega, fun y hy => ?_, ?_⟩
    · rcases List.mem_cons.mp hy with q | q
      · rw [q]; omega
      · exact h2 y q
    · rcases h3 with q | q
      · by_cases z : n ≤ m
        · exact .inr (by rw [q, show max n m = m by omega]; exact List.mem_cons_self)
        · exact .inl (by rw [q]; omega)
      · exact .inr (List.mem_cons_of_mem _ q)
theorem foldl_min : ∀ (ns : List Int) (n : Int), ns.foldl min n ≤ n ∧ (∀ y ∈ ns, ns.foldl min n ≤ y) ∧ (ns.foldl min n = n ∨ ns.foldl min n ∈ ns)
  | [], n => ⟨Int.le_refl _, by simp, .inl rfl⟩
  | m :: ns, n => by
    obtain ⟨h1, h2, h3⟩ := foldl_min ns (min n m)
    have e : (m :: ns).foldl min n = ns.foldl min (min n m) := rfl
    rw [e]
    refine ⟨by omega, fun y hy => ?_, ?_⟩
    · rcases List.mem_cons.mp hy with q | q
      · rw [q]; omega
      · exact h2 y q
    · rcases h3 with q | q
      · by_cases z : m ≤ n
        · exact .inr (by rw [q, show min n m = m by omega]; exact List.mem_cons_self)
        · exact .inl (by rw [q]; omega)
      · exact .inr (List.mem_cons_of_mem _ q)
theorem mxL_one {ns : List Int} {m : Int} (h1 : m ∈ ns) (h2 : ∀ y ∈ ns, y ≤ m) : mxL ns = m := by
  cases ns with
  | nil => cases h1
  | cons n ns =>
    obtain ⟨a, b, c⟩ := foldl_max ns n
    have u : ns.foldl max n ≤ m := by
      rcases c with c | c
      · rw [c]; exact h2 n List.mem_cons_self
      · exact h2 _ (List.mem_cons_of_mem _ c)
    have l : m ≤ ns.foldl max n := by
      rcases List.mem_cons.mp h1 with q | q
      · rw [q]; exact a
      · exact b m q
    show ns.foldl max n = m
    omega
theorem mnL_one {ns : List Int} {m : Int} (h1 : m ∈ ns) (h2 : ∀ y ∈ ns, m ≤ y) : mnL ns = m := by
  cases ns with
  | nil => cases h1
  | cons n ns =>
    obtain ⟨a, b, c⟩ := foldl_min ns n
    have u : m ≤ ns.foldl min n := by
      rcases c with c | c
      · rw [c]; exact h2 n List.mem_cons_self
      · exact h2 _ (List.mem_cons_of_mem _ c)
    have l : ns.foldl min n ≤ m := by
      rcases List.mem_cons.mp h1 with q | q
      · rw [q]; exact a
      · exact b m q
    show ns.foldl min n = m
    omega
def rMaxT (K : PySem.W.Frag) : List V → Hp → VK → Prop := fun vs H Q => ∃ (a : Addr) (ns : List Int), vs = [V.ref a] ∧ (SqL K H a (ns.map V.int) ∨ SqT K H a (ns.map V.int)) ∧ 0 < ns.length ∧ Q (.int (mxL ns)) H
def rMinT (K : PySem.W.Frag) : List V → Hp → VK → Prop := fun vs H Q => ∃ (a : Addr) (ns : List Int), vs = [V.ref a] ∧ (SqL K H a (ns.map V.int) ∨ SqT K H a (ns.map V.int)) ∧ 0 < ns.length ∧ Q (.int (mnL ns)) H
theorem cr_maxT {X : Cx} (hc : X.calm = true) : CallR X (.builtin "max") (rMaxT X.K) := by
  intro pins s σ H vs us Q I r h
  obtain ⟨a, ns, rfl, hs, hne, q⟩ := h
  rcases hs with hs | hs
  · exact cr_max hc pins s σ H _ us Q I r ⟨a, ns, rfl, hs, hne, fun m h1 h2 => by rw [← mxL_one h1 h2]; exact q⟩
  · obtain ⟨its, rv, hl, _⟩ := I.tuple hs
    rw [Vals.ref1 r]
    have hi := intsAre_of rv
    obtain ⟨xs, hx⟩ := hi.allInts.items
    have hn : numsOf its.toArray.toList = ns := by
      rw [show its.toArray.toList = its from rfl, hi.numsOf]
    have ht : s.heap.IsTuple a its.toArray := hl
    rw [hx] at ht hn
    rw [nums_intItems] at hn
    subst hn
    have hsz : 0 < xs.size := by simpa using hne
    refine greatest_tup (I.ok.hd hc) ht hsz fun v h' tk hv hk => ?_
    obtain ⟨t, rfl⟩ := intItems_at hv
    obtain ⟨h1, h2⟩ := argBest_gt (numAt xs) (xs.size - 1)
    have e : mxL (xs.toList.map (·.1)) = numAt xs (argBest (fun i j => decide (numAt xs i > numAt xs j)) (xs.size - 1)) := by
      refine mxL_one ?_ fun y hy => ?_
      · rw [numAt_eq]; exact PySem.getD_mem (by rw [List.length_map, Array.length_toList]; omega)
      · obtain ⟨j, hj, rfl⟩ := mem_getD hy
        rw [List.length_map, Array.length_toList] at hj
        rw [← numAt_eq]; exact h2 j (by omega)
    rw [e] at q
    exact ⟨.int _, H, I.kept hk, ⟨_, rfl⟩, q⟩
theorem cr_minT {X : Cx} (hc : X.calm = true) : CallR X (.builtin "min") (rMinT X.K) := by
  intro pins s σ H vs us Q I r h
  obtain ⟨a, ns, rfl, hs, hne, q⟩ := h
  rcases hs with hs | hs
  · exact cr_min hc pins s σ H _ us Q I r ⟨a, ns, rfl, hs, hne, fun m h1 h2 => by rw [← mnL_one h1 h2]; exact q⟩
  · obtain ⟨its, rv, hl, _⟩ := I.tuple hs
    rw [Vals.ref1 r]
    have hi := intsAre_of rv
    obtain ⟨xs, hx⟩ := hi.allInts.items
    have hn : numsOf its.toArray.toList = ns := by
      rw [show its.toArray.toList = its from rfl, hi.numsOf]
    have ht : s.heap.IsTuple a its.toArray := hl
    rw [hx] at ht hn
    rw [nums_intItems] at hn
    subst hn
    have hsz : 0 < xs.size := by simpa using hne
    refine least_tup (I.ok.hd hc) ht hsz fun v h' tk hv hk => ?_
    obtain ⟨t, rfl⟩ := intItems_at hv
    obtain ⟨h1, h2⟩ := argBest_lt (numAt xs) (xs.size - 1)
    have e : mnL (xs.toList.map (·.1)) = numAt xs (argBest (fun i j => decide (numAt xs i < numAt xs j)) (xs.size - 1)) := by
      refine mnL_one ?_ fun y hy => ?_
      · rw [numAt_eq]; exact PySem.getD_mem (by rw [List.length_map, Array.length_toList]; omega)
      · obtain ⟨j, hj, rfl⟩ := mem_getD hy
        rw [List.length_map, Array.length_toList] at hj
        rw [← numAt_eq]; exact h2 j (by omega)
    rw [e] at q
    exact ⟨.int _, H, I.kept hk, ⟨_, rfl⟩, q⟩
def best1 (f : List Int → Int) (x : Val) (S : Store) : R Val := match rd S x with
  | some (.lst ds) => match asInts ds with | some ns => if 0 < ns.length then .ok (.d (.int (f ns))) S else .bad | none => .bad
  | some (.tup ds) => match asInts ds with | some ns => if 0 < ns.length then .ok (.d (.int (f ns))) S else .bad | none => .bad
  | _ => .bad
def fMax1 := best1 mxL
def fMin1 := best1 mnL
theorem best1_q {g : Gx} {f : List Int → Int} {W : WX} {w : Wd} {S : Store} {H : Hp} {σ : L2.St} {x : Val} {u : V} {Q : VK} (st : StOk g w S H) (r1 : RepV g w H x u) (q : RQ g W (RepV g) w σ H (best1 f x S) Q) :
    ∃ (a : Addr) (ns : List Int), [u] = [V.ref a] ∧ (SqL g.K H a (ns.map V.int) ∨ SqT g.K H a (ns.map V.int)) ∧ 0 < ns.length ∧ Q (.int (f ns)) H := by
  unfold best1 at q
  split at q
  · rename_i ds e
    split at q
    · rename_i ns hn
      obtain ⟨hz, q⟩ := ite_q q
      obtain ⟨a, vs, rfl, h1, l⟩ := rd_lst st r1 e
      rw [asInts_eq hn] at l
      rw [l.ints] at h1
      exact ⟨a, ns, rfl, .inl (.inl (.inl h1)), hz, RQ.okQ q st (.int _)⟩
    · exact q.elim
  · rename_i ds e
    split at q
    · rename_i ns hn
      obtain ⟨hz, q⟩ := ite_q q
      obtain ⟨a, vs, rfl, h1, l⟩ := rd_tup r1 e
      rw [asInts_eq hn] at l
      rw [l.ints] at h1
      exact ⟨a, ns, rfl, .inr h1.sq, hz, RQ.okQ q st (.int _)⟩
    · exact q.elim
  · exact q.elim
theorem c1_max1 {g : Gx} : OpC1 g (rMaxT g.K) fMax1 := fun W w S H σ x u Q st r1 q => best1_q st r1 q
theorem c1_min1 {g : Gx} : OpC1 g (rMinT g.K) fMin1 := fun W w S H σ x u Q st r1 q => best1_q st r1 q
end Pd

namespace Pd
open PySem PySem.Spec PyProof.Rows L2
section
variable {X : Cx} {g : Gx} {W : WX} {a b : Expr} {ea eb : Ev} {p pos : Pos}
theorem p_max1 (hK : g.K = X.K) (hcm : X.calm = true) (hg : Gl X "max") (hm : X.mg "max" = none) (ha : PE X a (tE g W ea)) (he : starEach [a] X.env = (false, eval a X.env) :: starEach [] X.env := by rfl) (hpl : (backTo pos (starEach [] X.env)).any (·.1) = false := by rfl) :
    PE X (.Call (.Name "max" p) [a] [] pos) (tE g W (eUn fMax1 ea)) := p_call1 (id := "max") (cr_maxT hcm) (by rw [← hK]; exact c1_max1) hg hm (by decide +kernel) ha (by decide) (by decide) he hpl
theorem p_min1 (hK : g.K = X.K) (hcm : X.calm = true) (hg : Gl X "min") (hm : X.mg "min" = none) (ha : PE X a (tE g W ea)) (he : starEach [a] X.env = (false, eval a X.env) :: starEach [] X.env := by rfl) (hpl : (backTo pos (starEach [] X.env)).any (·.1) = false := by rfl) :
    PE X (.Call (.Name "min" p) [a] [] pos) (tE g W (eUn fMin1 ea)) := p_call1 (id := "min") (cr_minT hcm) (by rw [← hK]; exact c1_min1) hg hm (by decide +kernel) ha (by decide) (by decide) he hpl
end
/-! ### by the class of an instance -/
def eSel (c : Str) (eo e1 e2 : Ev) : Ev := fun Γ S => match eo Γ S with
  | .ok x S1 => if isO c x S1 = true then e1 Γ S else e2 Γ S
  | _ => .bad
theorem p_sel {X : Cx} {g : Gx} {W : WX} {e : Expr} {c : Str} {eo e1 e2 : Ev} (h1 : PE X e (tE g W e1)) (h2 : PE X e (tE g W e2)) : PE X e (tE g W (eSel c eo e1 e2)) := ⟨fun pins s σ H Q I hw => by
  obtain ⟨w, Γ, S, st, en, h⟩ := hw
  unfold eSel at h
  cases q : eo Γ S with
  | ok x S1 =>
    rw [q] at h
    have h : RQ g W (RepV g) w σ H (if isO c x S1 = true then e1 Γ S else e2 Γ S) Q := h
    by_cases z : isO c x S1 = true
    · rw [if_pos z] at h
      exact h1.run pins s σ H Q I ⟨w, Γ, S, st, en, h⟩
    · rw [if_neg z] at h
      exact h2.run pins s σ H Q I ⟨w, Γ, S, st, en, h⟩
  | exc cc x S1 => rw [q] at h; exact h.elim
  | bad => rw [q] at h; exact h.elim⟩
/-! ### name, other = a value, a new list -/
def sPVN (i j : Nat) (a b : Ev) : Sv := fun Γ S => (a Γ S).fl Γ fun x S1 => match x with
  | .d x => (match sNew j b Γ S1 with | .nx Γ1 S2 => .nx (Γ1.set i (some (.d x))) S2 | f => f)
  | _ => .bad
section
variable {X : Cx} {cf : Cf} {a b c : Expr} {ea eb ec : Ev} {pos p2 px py pt pt2 : Pos} {kt k2 : Nat}
theorem s_parVN {i j : Nat} {x y : Str} (hc : X.calm = true) (hN : X.N.Nodup) (hi : X.N[i]? = some x) (hj : X.N[j]? = some y) (hij : i ≠ j)
    (hx : X.env.scope.names.lookup x = some .local) (hy : X.env.scope.names.lookup y = some .local) (ha : PE X a (tE cf.g cf.W ea)) (hb : PE X b (tN cf.g cf.W eb))
    (hw : swappedStores [.Tuple [.Name x px, .Name y py] kt pt] (.Tuple [a, b] k2 pt2) X.env = pure (some [x, y]))
    (hs : swapsWithSole [.Tuple [.Name x px, .Name y py] kt pt] (.Tuple [a, b] k2 pt2) pos.line X.env = pure false := by rfl)
    (hs1 : starEach [a, b] X.env = (false, eval a X.env) :: starEach [b] X.env := by rfl) (hs2 : starEach [b] X.env = (false, eval b X.env) :: starEach [] X.env := by rfl) :
    PS X (.Assign [.Tuple [.Name x px, .Name y py] kt pt] (.Tuple [a, b] k2 pt2) pos) (tS cf (sPVN i j ea eb)) :=
  (ps_par hc hN hi hj hij hx hy (pa_cons ha (pa_cons hb pa_nil hs2) hs1) hw hs).imp fun D σ H ⟨w, Γ, S, so, en, fr, h⟩ =>
    tX_fl so en fr h fun u H1 x S1 w1 s1 st1 en1 fr1 r1 h1 => by
      cases x with
      | cell k => exact h1.elim
      | d x =>
        have q : tN cf.g cf.W eb σ H1 fun v H2 => D.nx ((σ.set j (some v)).set i (some u)) H2 := by
          refine new_q (D := { nx := fun σ' H' => D.nx (σ'.set i (some u)) H', rt := D.rt, bk := D.bk, ct := D.ct }) ⟨w1, Γ, S1, st1, en1, fr1, ?_⟩
          have h1 : FQ cf w1 H1 (match sNew j eb Γ S1 with | .nx Γ1 S2 => .nx (Γ1.set i (some (.d x))) S2 | f => f) D := h1
          cases e : sNew j eb Γ S1 with
          | nx Γ1 S2 =>
            rw [e] at h1
            intro σ' w' H' l f st' en'
            exact h1 (σ'.set i (some u)) w' H' l f st' (en'.set i (x := .d x) (Rep.le l r1))
          | bk Γ1 S1 => rw [e] at h1; exact h1
          | ct Γ1 S1 => rw [e] at h1; exact h1
          | rt x S1 => rw [e] at h1; exact h1
          | exc c x Γ1 S1 => rw [e] at h1; exact h1
          | bad => rw [e] at h1; exact h1
        obtain ⟨w2, Γ2, S2, a1, a2, a3⟩ := q
        exact ⟨w2, Γ2, S2, a1, a2, RQN.out a3 fun v H2 z => ⟨u, v, rfl, by rw [List.set_comm _ _ hij]; exact z⟩⟩
end
theorem kit_other {K : PySem.W.Frag} {C D : Addr} (h1 : PySem.W.isClsIn K C = true) (h2 : PySem.W.typeIn K (.ref C) = some (.type "type")) (h3 : PySem.W.subIn K (.ref D) (.ref C) = some false) (h4 : PySem.W.subIn K (.ref C) (.ref C) = some true) : PySem.W.kitOne K (.ref D) (.ref C) = some false := by
  have ne : D ≠ C := fun e => by rw [e, h4] at h3; cases h3
  have e1 : (Value.ref D == Value.ref C) = false := by
    rw [beq_eq_false_iff_ne]
    exact fun e => ne (by cases e; rfl)
  have e2 : ((PySem.W.clsIn K C).isSome && PySem.W.typeIn K (.ref C) == some (.type "type")) = true := by
    have h1' : (PySem.W.clsIn K C).isSome = true := h1
    rw [h1', h2]
    rfl
  unfold PySem.W.kitOne
  rw [e1, if_neg Bool.false_ne_true]
  show (if ((PySem.W.clsIn K C).isSome && PySem.W.typeIn K (.ref C) == some (.type "type")) = true then PySem.W.subIn K (.ref D) (.ref C) else none) = _
  rw [if_pos e2]
  exact h3
end Pd

namespace Pd
open PySem PySem.Spec PyProof.Rows L2
/-! ### name, other = a new list, a value -/
def sPNV (i j : Nat) (a b : Ev) : Sv := fun Γ S => match sNew i a Γ S with
  | .nx Γ1 S1 => (b (Γ1.set i none) S1).fl (Γ1.set i none) fun y S2 => .nx (Γ1.set j (some y)) S2
  | f => f
theorem set_back (σ : L2.St) (i : Nat) (u : V) : (σ.set i (some u)).set i (σ[i]?.join) = σ := by
  rw [List.set_set]
  by_cases h : i < σ.length
  · rw [List.getElem?_eq_getElem h]
    show σ.set i σ[i] = σ
    exact List.set_getElem_self h
  · exact List.set_eq_of_length_le (by omega)
theorem RQ.out {g : Gx} {W : WX} {w : Wd} {σ : L2.St} {H : Hp} {r : R Val} {Q Q' : VK} (h : RQ g W (RepV g) w σ H r Q) (i : ∀ v H', Q v H' → Q' v H') : RQ g W (RepV g) w σ H r Q' := by
  cases r with
  | ok x S => exact fun v w' H' a b c => i _ _ (h v w' H' a b c)
  | exc c x S => exact h
  | bad => exact h
section
variable {X : Cx} {cf : Cf} {a b c : Expr} {ea eb ec : Ev} {pos p2 px py pt pt2 : Pos} {kt k2 : Nat}
theorem s_parNV {i j : Nat} {x y : Str} (hc : X.calm = true) (hN : X.N.Nodup) (hi : X.N[i]? = some x) (hj : X.N[j]? = some y) (hij : i ≠ j)
    (hx : X.env.scope.names.lookup x = some .local) (hy : X.env.scope.names.lookup y = some .local) (ha : PE X a (tN cf.g cf.W ea)) (hb : PE X b (tE cf.g cf.W eb))
    (hw : swappedStores [.Tuple [.Name x px, .Name y py] kt pt] (.Tuple [a, b] k2 pt2) X.env = pure (some [x, y]))
    (hs : swapsWithSole [.Tuple [.Name x px, .Name y py] kt pt] (.Tuple [a, b] k2 pt2) pos.line X.env = pure false := by rfl)
    (hs1 : starEach [a, b] X.env = (false, eval a X.env) :: starEach [b] X.env := by rfl) (hs2 : starEach [b] X.env = (false, eval b X.env) :: starEach [] X.env := by rfl) :
    PS X (.Assign [.Tuple [.Name x px, .Name y py] kt pt] (.Tuple [a, b] k2 pt2) pos) (tS cf (sPNV i j ea eb)) :=
  (ps_par hc hN hi hj hij hx hy (pa_cons ha (pa_cons hb pa_nil hs2) hs1) hw hs).imp fun D σ H ⟨w, Γ, S, so, en, fr, h⟩ => by
    have q := new_q (i := i) (σ := σ) (H := H) (ea := ea) (cf := cf) (D := { nx := fun σ' H' => tE cf.g cf.W eb (σ'.set i (σ[i]?.join)) H' fun v H2 => D.nx (σ'.set j (some v)) H2, rt := D.rt, bk := D.bk, ct := D.ct }) ⟨w, Γ, S, so, en, fr, by
      unfold sPNV at h
      cases e : sNew i ea Γ S with
      | nx Γ1 S1 =>
        rw [e] at h
        intro σ' w' H' l f st' en'
        exact tX_fl st' (en'.drop1 i _) f (FQ.to h l (fun a z => by rw [f.hid, ← fr.hid]; exact z)) fun v H2 y S2 w2 s2 st2 en2 fr2 r2 h2 => h2 (σ'.set j (some v)) w2 H2 (.refl w2 H2) fr2 st2 ((en'.step s2).set j r2)
      | bk Γ1 S1 => rw [e] at h; exact h
      | ct Γ1 S1 => rw [e] at h; exact h
      | rt x S1 => rw [e] at h; exact h
      | exc c x Γ1 S1 => rw [e] at h; exact h
      | bad => rw [e] at h; exact h⟩
    obtain ⟨w1, Γ1, S1, a1, a2, a3⟩ := q
    refine ⟨w1, Γ1, S1, a1, a2, RQN.out a3 fun u H1 z => ?_⟩
    have z : tE cf.g cf.W eb ((σ.set i (some u)).set i (σ[i]?.join)) H1 fun v H2 => D.nx ((σ.set i (some u)).set j (some v)) H2 := z
    rw [set_back] at z
    obtain ⟨w2, Γ2, S2, b1, b2, b3⟩ := z
    exact ⟨w2, Γ2, S2, b1, b2, RQ.out b3 fun v H2 z => ⟨u, v, rfl, z⟩⟩
end
/-! ### list(enumerate(a tuple)) -/
section
variable {prog : Program} {w : World} {A : Around} {E : Value → Shared → Prop} {s : Shared}
theorem enumerate_next_item_heldD {e it T : Addr} {fp : List Addr} {n i : Nat} {P : Nat → Value → Prop} {St : Nat → Heap → Prop} {old : Value} {f : Bool} {oT : Obj} {Q : Value → Shared → Prop}
    (D : Draws prog w A it fp n P St) (he : IsEnumHeld s.heap e it i old T f) (hT : s.heap.get? T = some oT) (hTe : T ≠ e) (hTi : T ≠ it) (hst : St i s.heap) (hlt : i < n) (hne : e ≠ it) (hef : e ∉ fp)
    (hQ : ∀ x h' tk, P i x → IsEnumHeld h' e it ((i : Int) + 1) old T true → St (i + 1) h' →
      h'.get? s.heap.objs.size = some { cls := .type "tuple", data := .seq #[.int i tk, x] } → h'.objs.size = s.heap.objs.size + 1 →
      (∀ b o, b ≠ e → b ≠ it → s.heap.get? b = some o → h'.get? b = some o) → Q (.ref s.heap.objs.size) { s with heap := h', toks := tk + 1 }) :
    wpAny (model prog w) A (Builtin.«enumerate.__next__» ⟨[.ref e], []⟩) (fun fin s' => ∃ v, fin = .done (.ret v) ∧ Q v s') E s := by
  obtain ⟨hp, g, d, tk₀, os⟩ := s
  show wpAny _ _ (field (.ref e) 2 >>= _) _ _ _
  refine wpAny_bind (wpAny_field he rfl (x := .ref it) rfl ?_)
  refine wpAny_bind (D.item i _ _ _ hlt hst fun x h₁ tk hPx hit₁ hs₁ => ?_)
  replace hs₁ : Heap.SameBut it hp h₁ := hs₁
  have he₁ : IsEnumHeld h₁ e it i old T f := (hs₁.2 e hne).trans he
  show wpAny _ _ (field (.ref e) 3 >>= _) _ _ ⟨h₁, g, d, tk, os⟩
  refine wpAny_bind (wpAny_field he₁ rfl (x := rawInt i) rfl ?_)
  show wpAny _ _ (field (.ref e) 4 >>= _) _ _ ⟨h₁, g, d, tk, os⟩
  refine wpAny_bind (wpAny_field he₁ rfl (x := .none) rfl ?_)
  show wpAny _ _ (mkInt i >>= _) _ _ ⟨h₁, g, d, tk, os⟩
  refine wpAny_bind (wpAny_mkInt ?_)
  show wpAny _ _ (setField (.ref e) 3 (rawInt ((i : Int) + 1)) >>= _) _ _ ⟨h₁, g, d, tk + 1, os⟩
  refine wpAny_bind (wpAny_setField_rec he₁ (by simp) fun h₂ he₂ hs₂ => ?_)
  replace hs₂ : Heap.SameBut e h₁ h₂ := hs₂
  replace he₂ : IsEnumHeld h₂ e it ((i : Int) + 1) old T f := he₂
  show wpAny _ _ (setField (.ref e) 4 .none >>= _) _ _ ⟨h₂, g, d, tk + 1, os⟩
  refine wpAny_bind (wpAny_setField_rec he₂ (by simp) fun h₃ he₃ hs₃ => ?_)
  replace hs₃ : Heap.SameBut e h₂ h₃ := hs₃
  replace he₃ : IsEnumHeld h₃ e it ((i : Int) + 1) old T f := he₃
  show wpAny _ _ (newTuple [.int i tk, x] >>= _) _ _ ⟨h₃, g, d, tk + 1, os⟩
  refine wpAny_bind (wpAny_newTuple ?_)
  have he₄ : IsEnumHeld (h₃.push { cls := .type "tuple", data := .seq #[.int i tk, x] }) e it ((i : Int) + 1) old T f := Heap.get?_push_of_some _ he₃
  generalize hh₄ : h₃.push { cls := .type "tuple", data := .seq #[.int i tk, x] } = h₄ at he₄
  have hsz : h₃.objs.size = hp.objs.size := by rw [hs₃.1, hs₂.1, hs₁.1]
  have hel : e < hp.objs.size := Heap.lt_size he
  have ht₄ : h₄.get? hp.objs.size = some { cls := .type "tuple", data := .seq #[.int i tk, x] } := by rw [← hh₄, ← hsz]; exact Heap.get?_push_size _ rfl
  have hz₄ : h₄.objs.size = hp.objs.size + 1 := by rw [← hh₄, Heap.size_push, hsz]
  have hk₄ : ∀ b o, b ≠ e → b ≠ it → hp.get? b = some o → h₄.get? b = some o := fun b o hbe hbi hb => by
    rw [← hh₄]; exact Heap.get?_push_of_some _ (hs₃.extBut b o hbe (hs₂.extBut b o hbe (hs₁.extBut b o hbi hb)))
  have hit₄ : St (i + 1) h₄ := D.frame _ _ _ hit₁ fun b hb o y => by
    have hbe : b ≠ e := fun q => hef (q ▸ hb)
    rw [← hh₄]; exact Heap.get?_push_of_some _ (hs₃.extBut b o hbe (hs₂.extBut b o hbe y))
  show wpAny _ _ (Builtin.SmallTypes.ownedTupleIsFree (.ref e) >>= _) _ _ ⟨h₄, g, d, tk + 1, os⟩
  rw [hsz]
  clear hh₄ he₃ hs₃ he₂ hs₂ he₁ hs₁ hit₁ hsz h₃ h₂ h₁
  refine wpAny_bind (wpAny_tupleHeld_enum (s := ⟨h₄, g, d, tk + 1, os⟩) he₄ (hk₄ T oT hTe hTi hT) fun h₅ he₅ hs₅ => ?_)
  replace hs₅ : Heap.SameBut e h₄ h₅ := hs₅
  simp only [Bool.false_eq_true, if_false]
  refine wpAny_pure ⟨_, rfl, hQ x h₅ tk hPx he₅ (D.frame _ _ _ hit₄ fun b hb o y => hs₅.extBut b o (fun q => hef (q ▸ hb)) y) (hs₅.extBut _ _ (Nat.ne_of_gt hel) ht₄) ?_ fun b o hbe hbi hb => hs₅.extBut b o hbe (hk₄ b o hbe hbi hb)⟩
  show h₅.objs.size = hp.objs.size + 1
  rw [hs₅.1, hz₄]
theorem wpAny_pyNext_enum_item_heldD {e it T : Addr} {fp : List Addr} {n i : Nat} {P : Nat → Value → Prop} {St : Nat → Heap → Prop} {old : Value} {f : Bool} {oT : Obj} {Q : Option Value → Shared → Prop}
    (D : Draws prog w A.in1 it fp n P St) (he : IsEnumHeld s.heap e it i old T f) (hT : s.heap.get? T = some oT) (hTe : T ≠ e) (hTi : T ≠ it) (hst : St i s.heap) (hlt : i < n) (hne : e ≠ it) (hef : e ∉ fp)
    (hQ : ∀ x h' tk, P i x → IsEnumHeld h' e it ((i : Int) + 1) old T true → St (i + 1) h' →
      h'.get? s.heap.objs.size = some { cls := .type "tuple", data := .seq #[.int i tk, x] } → h'.objs.size = s.heap.objs.size + 1 →
      (∀ b o, b ≠ e → b ≠ it → s.heap.get? b = some o → h'.get? b = some o) → Q (some (.ref s.heap.objs.size)) { s with heap := h', toks := tk + 1 }) :
    wpAny (model prog w) A (pyNext (.ref e)) Q E s := by
  have hTy : s.TypeIs (.ref e) "enumerate" := ⟨_, he, rfl⟩
  unfold pyNext
  exact wpAny_bind (wpAny_attempt (wpAny_callSpecial?_slot (name := Str.ofString "__next__") hTy F.slot_enumerate_next
    (wpAny_call_entry F.slot_enumerate_next hTy F.entry_enumerate_next
      (enumerate_next_item_heldD D he hT hTe hTi hst hlt hne hef fun x h' tk a b c d k q => wpAny_pure (hQ x h' tk a b c d k q)) (F.args_enumerate_next_1 _))))
theorem wpAny_pyNext_enum_end_heldD {e it T : Addr} {fp : List Addr} {n : Nat} {P : Nat → Value → Prop} {St : Nat → Heap → Prop} {i : Int} {old : Value} {f : Bool} {Q : Option Value → Shared → Prop}
    (D : Draws prog w A.in1 it fp n P St) (he : IsEnumHeld s.heap e it i old T f) (hst : St n s.heap)
    (hQ : ∀ h', Heap.ExtBut it s.heap h' → Q none { s with heap := h' }) : wpAny (model prog w) A (pyNext (.ref e)) Q E s := by
  have hT : s.TypeIs (.ref e) "enumerate" := ⟨_, he, rfl⟩
  unfold pyNext
  refine wpAny_bind (wpAny_attempt (wpAny_callSpecial?_slot (name := Str.ofString "__next__") hT F.slot_enumerate_next
    (wpAny_call_entry F.slot_enumerate_next hT F.entry_enumerate_next ?_ (F.args_enumerate_next_1 _))))
  show wpAny _ _ (field (.ref e) 2 >>= _) _ _ _
  refine wpAny_bind (wpAny_field he rfl (x := .ref it) rfl ?_)
  refine wpAny_bind (D.done _ _ _ hst fun h' x he' hx' => ?_)
  obtain ⟨o, ho, hc⟩ := hx'
  refine wpAny_bind (wpAny_isInstance (T := "StopIteration") (b := true) ⟨o, ho, hc⟩ isSubtype_stop ?_)
  exact wpAny_pure (hQ _ he')
def EnSt (h : Heap) (e it S : Addr) (i : Nat) : Prop := (∃ old, IsEnum h e it ((i : Nat) : Int) old) ∨ ∃ old T f oT, IsEnumHeld h e it ((i : Nat) : Int) old T f ∧ h.get? T = some oT ∧ T ≠ e ∧ T ≠ it ∧ T ≠ S
structure EnG (items : Array Value) (lo : Addr) (h : Heap) (as : List Addr) : Prop where
  rise : as.Pairwise (· < ·)
  above : ∀ a ∈ as, lo < a
  pairs : ∀ (j : Nat) (a : Addr), as[j]? = some a → ∃ t x, items[j]? = some x ∧ h.get? a = some { cls := .type "tuple", data := .seq #[.int ((j : Nat) : Int) t, x] }
theorem EnG.there {items : Array Value} {lo : Addr} {h : Heap} {as : List Addr} (g : EnG items lo h as) {a : Addr} (ha : a ∈ as) : a < h.objs.size := by
  obtain ⟨j, hj⟩ := List.mem_iff_getElem?.mp ha
  obtain ⟨_, _, _, e⟩ := g.pairs j a hj
  exact Heap.lt_size e
theorem EnSt.keep {h h' : Heap} {e it S : Addr} {i : Nat} (x : EnSt h e it S i) (k : ∀ b o, b ≠ S → h.get? b = some o → h'.get? b = some o) (hS : e ≠ S) : EnSt h' e it S i := by
  rcases x with ⟨old, x⟩ | ⟨old, T, f, oT, x, hT, r1, r2, r3⟩
  · exact .inl ⟨old, k _ _ hS x⟩
  · exact .inr ⟨old, T, f, oT, k _ _ hS x, k _ _ r3 hT, r1, r2, r3⟩
theorem en_item {e it a S : Addr} {items : Array Value} {i : Nat} {x : Value} {Q : Option Value → Shared → Prop} (hh : A.handled = none) (hst : EnSt s.heap e it S i) (hit : s.heap.IsTupleIter it a i) (ht : s.heap.IsTuple a items) (hx : items[i]? = some x) (hne : e ≠ it) (hea : e ≠ a) (hai : a ≠ it) (hS : S < s.heap.objs.size)
    (hQ : ∀ h' tk, EnSt h' e it S (i + 1) → h'.IsTupleIter it a (i + 1) → h'.IsTuple a items → (∃ t, h'.get? s.heap.objs.size = some { cls := .type "tuple", data := .seq #[.int ((i : Nat) : Int) t, x] }) → h'.objs.size = s.heap.objs.size + 1 →
      (∀ b o, b ≠ e → b ≠ it → s.heap.get? b = some o → h'.get? b = some o) → Q (some (.ref s.heap.objs.size)) { s with heap := h', toks := tk }) :
    wpAny (model prog w) A (pyNext (.ref e)) Q E s := by
  have Dr := Draws.tuple (prog := prog) (w := w) (A := A.in1) hh it a hai items
  have hlen : i < items.size := (Array.getElem?_eq_some_iff.mp hx).1
  have ec : ((i + 1 : Nat) : Int) = (i : Int) + 1 := by omega
  have nit : s.heap.objs.size ≠ it := let ⟨_, x, _⟩ := hit; Nat.ne_of_gt (Heap.lt_size x)
  rcases hst with ⟨old, he⟩ | ⟨old, T, f, oT, he, hT, r1, r2, r3⟩
  · refine wpAny_pyNext_enum_itemD Dr he ⟨hit, ht⟩ hlen hne (by simp [hne, hea]) fun x' h' tk px ho hit' hT hsz hk => ?_
    have ex : x' = x := by
      have q : items[i]? = some x' := px
      rw [hx] at q
      exact (Option.some.inj q).symm
    subst ex
    exact hQ h' (tk + 1) (.inr ⟨_, s.heap.objs.size, false, _, by rw [ec]; exact ho, hT, Nat.ne_of_gt (Heap.lt_size he), nit, Nat.ne_of_gt hS⟩) hit'.1 hit'.2 ⟨_, hT⟩ hsz hk
  · refine wpAny_pyNext_enum_item_heldD Dr he hT r1 r2 ⟨hit, ht⟩ hlen hne (by simp [hne, hea]) fun x' h' tk px ho hit' hT' hsz hk => ?_
    have ex : x' = x := by
      have q : items[i]? = some x' := px
      rw [hx] at q
      exact (Option.some.inj q).symm
    subst ex
    exact hQ h' (tk + 1) (.inr ⟨old, T, true, oT, by rw [ec]; exact ho, hk _ _ r1 r2 hT, r1, r2, r3⟩) hit'.1 hit'.2 ⟨_, hT'⟩ hsz hk
theorem en_done {e it a S : Addr} {items : Array Value} {Q : Option Value → Shared → Prop} (hh : A.handled = none) (hst : EnSt s.heap e it S items.size) (hit : s.heap.IsTupleIter it a items.size) (ht : s.heap.IsTuple a items) (hai : a ≠ it)
    (hQ : ∀ h', Heap.ExtBut it s.heap h' → Q none { s with heap := h' }) : wpAny (model prog w) A (pyNext (.ref e)) Q E s := by
  have Dr := Draws.tuple (prog := prog) (w := w) (A := A.in1) hh it a hai items
  rcases hst with ⟨old, he⟩ | ⟨old, T, f, oT, he, hT, r1, r2, r3⟩
  · exact wpAny_pyNext_enum_endD Dr he ⟨hit, ht⟩ hQ
  · exact wpAny_pyNext_enum_end_heldD Dr he ⟨hit, ht⟩ hQ
end
section
variable {prog : Program} {w : World} {A : Around} {R : Result → Shared → Prop} {s : Shared} {items : Array Value}
theorem en_loop {S e it a : Addr} (hh : A.handled = none) (heS : e ≠ S) (hiS : it ≠ S) (haS : a ≠ S) (heS' : e < S) (hiS' : it < S) (hne : e ≠ it) (hea : e ≠ a) (hai : a ≠ it) (hn : items.size ≤ sizeLine) (res : Value) {h₁ : Heap}
    (hR : ∀ h' tk acc c as, (∀ b o, b ≠ S → b ≠ e → b ≠ it → h₁.get? b = some o → h'.get? b = some o) → h'.get? S = some { cls := .type "list", dict := none, data := .seq acc c, slots := #[] } → as.length = items.size → EnG items S h' as →
      acc.toList = as.map Value.ref → R (.ok (.ret res)) { s with heap := h', toks := tk }) :
    ∀ (k i : Nat) (h : Heap) (tk c : Nat) (acc : Array Value) (as : List Addr), items.size - i = k → i ≤ items.size → EnSt h e it S i → h.IsTupleIter it a i → h.IsTuple a items → (∀ b o, b ≠ S → b ≠ e → b ≠ it → h₁.get? b = some o → h.get? b = some o) →
      h.get? S = some { cls := .type "list", dict := none, data := .seq acc c, slots := #[] } → acc.toList = as.map Value.ref → as.length = i → EnG items S h as →
      codeAny (model prog w) A (.builtin "list.extend.loop" ⟨[.ref S, .ref e, res], []⟩) R { s with heap := h, toks := tk } := by
  intro k
  induction k with
  | zero =>
    intro i h tk c acc as hk hi hst hit ht hkeep hS hacc hal hG
    have hin : i = items.size := by omega
    subst hin
    refine codeAny_builtin PySem.F.entry_extend_loop ?_
    rw [Around.under_plainId PySem.F.plain_extend_loop _]
    show wpAny _ A.in1 (pyNext (.ref e) >>= _) _ _ _
    refine wpAny_bind (en_done (s := { s with heap := h, toks := tk }) (A := A.in1) hh hst hit ht hai fun h' he => ?_)
    refine wpAny_pure (hR h' tk acc c as (fun b o h1 h2 h3 e => he b o h3 (hkeep b o h1 h2 h3 e)) (he S _ (Ne.symm hiS) hS) hal ⟨hG.rise, hG.above, fun j b hj => ?_⟩ hacc)
    obtain ⟨t, x, e2, e3⟩ := hG.pairs j b hj
    exact ⟨t, x, e2, he b _ (fun z => Nat.lt_irrefl S (Nat.lt_trans (hG.above b (List.mem_of_getElem? hj)) (z ▸ hiS'))) e3⟩
  | succ k ih =>
    intro i h tk c acc as hk hi hst hit ht hkeep hS hacc hal hG
    have hlt : i < items.size := by omega
    obtain ⟨x, hx⟩ : ∃ p, items[i]? = some p := ⟨items[i], Array.getElem?_eq_getElem hlt⟩
    have hsz : acc.size = i := by rw [← Array.length_toList, hacc, List.length_map, hal]
    refine codeAny_builtin PySem.F.entry_extend_loop ?_
    rw [Around.under_plainId PySem.F.plain_extend_loop _]
    show wpAny _ A.in1 (pyNext (.ref e) >>= _) _ _ _
    refine wpAny_bind (en_item (s := { s with heap := h, toks := tk }) (S := S) (A := A.in1) hh hst hit ht hx hne hea hai (Heap.lt_size hS) fun h' tk' hst' hit' ht' hnew hz hkp => ?_)
    obtain ⟨t, hnew⟩ := hnew
    dsimp only at hnew hz hkp ⊢
    have hS' := hkp S _ (Ne.symm heS) (Ne.symm hiS) hS
    have up : ∀ b o, b ≠ S → h'.get? b = some o → (h'.update S (Obj.mapSeq (·.push (Value.ref h.objs.size)))).get? b = some o := fun b o hb e => (Heap.get?_update_other _ _ (Ne.symm hb)).trans e
    have hSl : S < h.objs.size := Heap.lt_size hS
    show wpAny _ A.in1 (updateSeq S (·.push (Value.ref h.objs.size)) >>= _) _ _ _
    refine wpAny_bind ?_
    refine wpAny_updateSeq hS' rfl (wpAny_pure ⟨plainId_quiet PySem.F.plain_extend_loop _, ih (i + 1) _ tk' _ (acc.push (Value.ref h.objs.size)) (as ++ [h.objs.size]) (by omega) hlt (hst'.keep up heS) (hit'.at fun o e => up it o hiS e) (ht'.at fun o e => up a o haS e)
      (fun b o h1 h2 h3 e => up b o h1 (hkp b o h2 h3 (hkeep b o h1 h2 h3 e))) (Heap.get?_update_self _ hS' rfl) (by rw [Array.toList_push, hacc, List.map_append]; rfl) (by rw [List.length_append, hal]; rfl) ⟨?_, ?_, ?_⟩⟩) (by rw [hsz]; omega) (by show (acc.push (Value.ref h.objs.size)).size ≤ sizeLine + 1; rw [Array.size_push, hsz]; omega)
    · refine List.pairwise_append.mpr ⟨hG.rise, List.pairwise_singleton _ _, fun a ha b hb => ?_⟩
      rw [List.mem_singleton.mp hb]
      exact hG.there ha
    · intro a ha
      rcases List.mem_append.mp ha with ha | ha
      · exact hG.above a ha
      · rw [List.mem_singleton.mp ha]; exact hSl
    · intro j b hj
      rcases Nat.lt_trichotomy j as.length with h1 | h1 | h1
      · rw [List.getElem?_append_left h1] at hj
        obtain ⟨t', x', e2, e3⟩ := hG.pairs j b hj
        have hb := hG.above b (List.mem_of_getElem? hj)
        exact ⟨t', x', e2, up b _ (Nat.ne_of_gt hb) (hkp b _ (Nat.ne_of_gt (Nat.lt_trans heS' hb)) (Nat.ne_of_gt (Nat.lt_trans hiS' hb)) e3)⟩
      · subst h1
        have hb : h.objs.size = b := by simpa using hj
        subst hb
        subst hal
        exact ⟨t, x, hx, up _ _ (Nat.ne_of_gt hSl) hnew⟩
      · have hnone : (as ++ [h.objs.size])[j]? = none := List.getElem?_eq_none (by rw [List.length_append, List.length_singleton]; omega)
        rw [hnone] at hj; cases hj
theorem en_no_len : typeLookup (.type "enumerate") "__len__" = pure none := by rw [typeLookup_type, builtinLookup_eq_fast]; kernel_rfl
theorem en_no_hint : typeLookup (.type "enumerate") "__length_hint__" = pure none := by rw [typeLookup_type, builtinLookup_eq_fast]; kernel_rfl
theorem en_hint {E : Value → Shared → Prop} {e : Addr} (hT : s.TypeIs (.ref e) "enumerate") {Q : Bool → Shared → Prop} (h : ∀ b, Q b s) : wpAny (model prog w) A (Builtin.List.listLengthHint (.ref e)) Q E s := by
  unfold Builtin.List.listLengthHint
  refine wpAny_bind (wpAny_specialOf hT en_no_len ?_)
  show wpAny _ A (specialOf (Value.ref e) (Str.ofString "__length_hint__") >>= _) _ _ _
  refine wpAny_bind (wpAny_specialOf hT en_no_hint ?_)
  exact wpAny_pure (h _)
theorem en_extend {S e it a : Addr} (hh : A.handled = none) (heS : e < S) (hiS : it < S) (haS : a < S) (hne : e ≠ it) (hea : e ≠ a) (hai : a ≠ it) (hn : items.size ≤ sizeLine) (res : Value) (c₀ : Nat) (he : IsEnum s.heap e it 0 .none) (hit : s.heap.IsTupleIter it a 0) (ht : s.heap.IsTuple a items)
    (hS : s.heap.get? S = some { cls := .type "list", data := .seq #[] c₀ })
    (hR : ∀ h' tk acc c as, (∀ b o, b ≠ S → b ≠ e → b ≠ it → s.heap.get? b = some o → h'.get? b = some o) → h'.get? S = some { cls := .type "list", dict := none, data := .seq acc c, slots := #[] } → as.length = items.size → EnG items S h' as →
      acc.toList = as.map Value.ref → R (.ok (.ret res)) { s with heap := h', toks := tk }) :
    wpAny (model prog w) A.in1 (Builtin.List.listExtendWith (.ref S) (.ref e) res)
      (fun fin s' => match fin with | .done f => R (.ok f) s' | .again c' => c'.quiet = true ∧ codeAny (model prog w) A c' R s') (fun e s' => R (.error e) s') s := by
  have key : ∀ (h : Heap) (c₁ tk : Nat), (∀ b o, b ≠ S → s.heap.get? b = some o → h.get? b = some o) → h.get? S = some { cls := .type "list", data := .seq #[] c₁ } →
      codeAny (model prog w) A (.builtin "list.extend.loop" ⟨[.ref S, .ref e, res], []⟩) R { s with heap := h, toks := tk } := by
    intro h c₁ tk hk hS₁
    exact en_loop (s := s) (h₁ := s.heap) (items := items) hh (Nat.ne_of_lt heS) (Nat.ne_of_lt hiS) (Nat.ne_of_lt haS) heS hiS hne hea hai hn res hR
      items.size 0 h tk c₁ #[] [] (Nat.sub_zero _) (Nat.zero_le _) (.inl ⟨.none, hk _ _ (Nat.ne_of_lt heS) he⟩) (hit.at fun o q => hk _ o (Nat.ne_of_lt hiS) q) (ht.at fun o q => hk _ o (Nat.ne_of_lt haS) q) (fun b o h1 _ _ q => hk b o h1 q) hS₁ rfl rfl
      ⟨List.Pairwise.nil, (fun _ ha => nomatch ha), (fun j a hj => by simp at hj)⟩
  have hT : s.TypeIs (.ref e) "enumerate" := ⟨_, he, rfl⟩
  unfold Builtin.List.listExtendWith
  refine wpAny_bind (wpAny_typeOf (T := "enumerate") hT ?_)
  have h1 : Builtin.List.listSameRef (.ref S) (.ref e) = false := by simp [Builtin.List.listSameRef, Nat.ne_of_gt heS]
  have h2 : (Value.type "enumerate" == Value.type "list") = false := by decide
  have h3 : (Value.type "enumerate" == Value.type "tuple") = false := by decide
  simp only [h1, h2, h3, Bool.or_false, Bool.false_eq_true, if_false]
  refine wpAny_bind (wpAny_pyIter_enum he ?_)
  refine wpAny_bind (wpAny_holding (en_hint hT fun b => ?_))
  refine wpAny_ite_split (fun _ => ?_) (fun _ => wpAny_pure ⟨plainId_quiet PySem.F.plain_extend_loop _, key _ c₀ _ (fun b o _ e => e) hS⟩)
  refine wpAny_bind (wpAny_rule ?_)
  refine wpAny_bind ?_
  show wpAny _ _ (updateSeq S (·.push .none) >>= fun _ => updateSeq S (·.pop)) _ _ _
  refine wpAny_bind (wpAny_updateSeq hS rfl ?_)
  have hS₂ := Heap.get?_update_self (Obj.mapSeq (·.push Value.none)) hS rfl
  refine wpAny_updateSeq (hz := by seq_fits) hS₂ rfl ?_
  have hS₃ := Heap.get?_update_self (Obj.mapSeq (·.pop)) hS₂ rfl
  refine wpAny_pure ⟨plainId_quiet PySem.F.plain_extend_loop _, key _ _ _ (fun b o hb e => ?_) hS₃⟩
  exact (Heap.get?_update_other _ _ (Ne.symm hb)).trans ((Heap.get?_update_other _ _ (Ne.symm hb)).trans e)
theorem en_init {S e it a : Addr} (hh : A.handled = none) (heS : e < S) (hiS : it < S) (haS : a < S) (hne : e ≠ it) (hea : e ≠ a) (hai : a ≠ it) (hn : items.size ≤ sizeLine) (he : IsEnum s.heap e it 0 .none) (hit : s.heap.IsTupleIter it a 0) (ht : s.heap.IsTuple a items)
    (hS : s.heap.get? S = some { cls := .type "list", data := .seq #[] })
    (hR : ∀ h' tk acc c as, (∀ b o, b ≠ S → b ≠ e → b ≠ it → s.heap.get? b = some o → h'.get? b = some o) → h'.get? S = some { cls := .type "list", dict := none, data := .seq acc c, slots := #[] } → as.length = items.size → EnG items S h' as →
      acc.toList = as.map Value.ref → R (.ok (.ret .none)) { s with heap := h', toks := tk }) :
    wpAny (model prog w) A.in1 (Builtin.«list.__init__» ⟨[.ref S, .ref e], []⟩)
      (fun fin s' => match fin with | .done f => R (.ok f) s' | .again c' => c'.quiet = true ∧ codeAny (model prog w) A c' R s') (fun e s' => R (.error e) s') s := by
  show wpAny _ _ (do let old ← Builtin.List.listItems (.ref S); Builtin.List.listUpdate (.ref S) (fun _ => #[]); letGo old.toList.reverse; Builtin.List.listExtendWith (.ref S) (.ref e) .none) _ _ s
  refine wpAny_bind ?_
  unfold Builtin.List.listItems
  refine wpAny_bind (wpAny_seqItems hS rfl (wpAny_pure ?_))
  show wpAny _ _ (updateSeq S (fun _ => #[]) >>= fun _ => letGo (#[] : Array Value).toList.reverse >>= fun _ => Builtin.List.listExtendWith (.ref S) (.ref e) .none) _ _ s
  refine wpAny_bind (wpAny_updateSeq hS rfl ?_)
  have hS₂ := Heap.get?_update_self (Obj.mapSeq (fun _ => (#[] : Array Value))) hS rfl
  have oth : ∀ b o, b ≠ S → s.heap.get? b = some o → (s.heap.update S (Obj.mapSeq (fun _ => (#[] : Array Value)))).get? b = some o :=
    fun b o hb e => (Heap.get?_update_other _ _ (Ne.symm hb)).trans e
  refine wpAny_bind (wpAny_letGo ?_)
  refine en_extend (items := items) hh heS hiS haS hne hea hai hn .none _ (oth _ _ (Nat.ne_of_lt heS) he) (hit.at fun o q => oth _ o (Nat.ne_of_lt hiS) q) (ht.at fun o q => oth _ o (Nat.ne_of_lt haS) q) hS₂ fun h' tk acc c as hk hS' hl hG hacc => ?_
  exact hR h' tk acc c as (fun b o hb h2 h3 e => hk b o hb h2 h3 (oth b o hb e)) hS' hl hG hacc
end
section
variable {prog : Program} {w : World} {A : Around} {E : Value → Shared → Prop} {s : Shared} {items : Array Value}
theorem en_call {Q : Value → Shared → Prop} {e it a : Addr} (hh : A.handled = none) (hne : e ≠ it) (hea : e ≠ a) (hai : a ≠ it) (hn : items.size ≤ sizeLine) (he : IsEnum s.heap e it 0 .none) (hit : s.heap.IsTupleIter it a 0) (ht : s.heap.IsTuple a items)
    (hQ : ∀ h' tk acc c as, (∀ b o, b ≠ e → b ≠ it → s.heap.get? b = some o → h'.get? b = some o) → h'.get? s.heap.objs.size = some { cls := .type "list", dict := none, data := .seq acc c, slots := #[] } → as.length = items.size → EnG items s.heap.objs.size h' as →
      acc.toList = as.map Value.ref → Q (.ref s.heap.objs.size) { s with heap := h', toks := tk }) :
    wpAny (model prog w) A (call (.type "list") [.ref e]) Q E s := by
  refine callType_codes (Q₁ := fun obj s₁ => obj = .ref s.heap.objs.size ∧ s₁ = { s with heap := s.heap.push { cls := .type "list", data := .seq #[] } }) PySem.F.called_list (PySem.F.typeCall_list_1 _) PySem.F.entry_list_init
    (code_list_new _ ⟨rfl, rfl⟩) fun obj s₁ h₁ => ?_
  obtain ⟨rfl, rfl⟩ := h₁
  have hS : (s.heap.push { cls := .type "list", data := .seq #[] }).get? s.heap.objs.size = some { cls := .type "list", data := .seq #[] } := Heap.get?_push_size _ rfl
  have l1 : e < s.heap.objs.size := Heap.lt_size he
  have l2 : it < s.heap.objs.size := let ⟨_, q, _⟩ := hit; Heap.lt_size q
  have l3 : a < s.heap.objs.size := let ⟨_, q, _⟩ := ht; Heap.lt_size q
  refine ⟨⟨_, hS, rfl⟩, PySem.F.args_list_init_2 _ _, en_init (A := A.in1) (items := items) hh l1 l2 l3 hne hea hai hn (Heap.get?_push_of_some _ he) (hit.at fun o q => Heap.get?_push_of_some _ q) (ht.at fun o q => Heap.get?_push_of_some _ q) hS (fun h' tk acc c as hk hS' hl hG hacc => ?_)⟩
  exact ⟨rfl, hQ h' tk acc c as (fun b o h1 h2 e => hk b o (Nat.ne_of_lt (Heap.lt_size e)) h1 h2 (Heap.get?_push_of_some _ e)) hS' hl hG hacc⟩
end
/-! the tuples and the list in the abstract heap -/
def putE : Hp → List Addr → List (List V) → Hp
  | H, a :: as, p :: ps => putE (upd H a (.tup p)) as ps
  | H, _, _ => H
theorem putE_off {b : Addr} : ∀ (as : List Addr) (ps : List (List V)) (H : Hp), b ∉ as → putE H as ps b = H b
  | [], _, _, _ => rfl
  | _ :: _, [], _, _ => rfl
  | a :: as, p :: ps, H, h => by
    show putE (upd H a (.tup p)) as ps b = H b
    rw [putE_off as ps _ (fun z => h (List.mem_cons_of_mem _ z)), upd_ne (fun z => h (by rw [z]; exact List.mem_cons_self))]
theorem putE_at : ∀ (as : List Addr) (ps : List (List V)) (H : Hp), as.length = ps.length → as.Nodup → ∀ (j : Nat) (b : Addr), as[j]? = some b → ∃ p, ps[j]? = some p ∧ putE H as ps b = some (.tup p)
  | [], _, _, _, _, j, b, hj => by simp at hj
  | _ :: _, [], _, h, _, _, _, _ => by cases h
  | a :: as, p :: ps, H, h, hn, 0, b, hj => by
    have hj : a = b := by simpa using hj
    subst hj
    refine ⟨p, rfl, ?_⟩
    show putE (upd H a (.tup p)) as ps a = some (.tup p)
    rw [putE_off as ps _ (List.nodup_cons.mp hn).1, upd_same]
  | a :: as, p :: ps, H, h, hn, j + 1, b, hj => by
    obtain ⟨q, h1, h2⟩ := putE_at as ps (upd H a (.tup p)) (Nat.succ.inj h) (List.nodup_cons.mp hn).2 j b (by simpa using hj)
    exact ⟨q, by simpa using h1, h2⟩
theorem putE_st {g : Gx} {w : Wd} {S : Store} : ∀ (as : List Addr) (ps : List (List V)) (H : Hp), StOk g w S H → (∀ a ∈ as, H a = none) → as.Nodup → Stp w H w (putE H as ps) ∧ StOk g w S (putE H as ps)
  | [], _, H, st, _, _ => ⟨.refl w H, st⟩
  | _ :: _, [], H, st, _, _ => ⟨.refl w H, st⟩
  | a :: as, p :: ps, H, st, hn, nd => by
    have h0 := hn a List.mem_cons_self
    have nd' := List.nodup_cons.mp nd
    obtain ⟨s1, s2⟩ := putE_st as ps (upd H a (.tup p)) (st.new h0) (fun b hb => by rw [upd_ne (fun z => nd'.1 (by rw [← z]; exact hb))]; exact hn b (List.mem_cons_of_mem _ hb)) nd'.2
    exact ⟨(step_new st h0).trans s1, s2⟩
def enV (ys : List V) : List (List V) := ys.zipIdx.map fun p => [V.int ((p.2 : Nat) : Int), p.1]
theorem enV_len (ys : List V) : (enV ys).length = ys.length := by simp [enV]
theorem enV_at {ys : List V} {j : Nat} {p : List V} (h : (enV ys)[j]? = some p) : ∃ x, ys[j]? = some x ∧ p = [V.int ((j : Nat) : Int), x] := by
  unfold enV at h
  rw [List.getElem?_map, List.getElem?_zipIdx] at h
  cases e : ys[j]? with
  | none => rw [e] at h; cases h
  | some x =>
    rw [e] at h
    refine ⟨x, rfl, ?_⟩
    have h : some [V.int ((0 + j : Nat) : Int), x] = some p := by simpa using h
    rw [Nat.zero_add] at h
    exact (Option.some.inj h).symm
theorem vals_refs' : ∀ as : List Addr, Vals (as.map V.ref) (as.map Value.ref)
  | [] => .nil
  | _ :: as => .cons rfl (vals_refs' as)
def enH (H : Hp) (S : Addr) (as : List Addr) (ys : List V) : Hp := upd (putE H as (enV ys)) S (.lst (as.map V.ref))
theorem en_laid {X : Cx} {pins : List (Addr × Obj)} {σ : L2.St} {H : Hp} {s : Shared} {h' : Heap} {tk : Nat} {ys : List V} {its : List Value} {acc : Array Value} {c : Nat} {as : List Addr} {S : Addr} (I : Inv X pins σ H s) (hz : ys.length ≤ sizeLine) (rv : Vals ys its)
    (hk : ∀ b o, s.heap.get? b = some o → h'.get? b = some o) (hS0 : s.heap.objs.size ≤ S) (hS : h'.get? S = some { cls := .type "list", dict := none, data := .seq acc c, slots := #[] }) (hl : as.length = its.toArray.size) (hG : EnG its.toArray S h' as) (hacc : acc.toList = as.map Value.ref) :
    H S = none ∧ (∀ t ∈ as, H t = none) ∧ S ∉ as ∧ as.Nodup ∧ as.length = ys.length ∧ Inv X pins σ (enH H S as ys) { s with heap := h', toks := tk } := by
  have lk : ys.length = its.length := rv.length
  have hSn : S ∉ as := fun z => Nat.lt_irrefl _ (hG.above _ z)
  have nd : as.Nodup := List.Pairwise.imp (fun {a b} (h : a < b) => Nat.ne_of_lt h) hG.rise
  have new : ∀ t ∈ as, H t = none := fun t ht => I.hok.fresh (Nat.le_trans hS0 (Nat.le_of_lt (hG.above t ht)))
  have newS : H S = none := I.hok.fresh hS0
  have la : as.length = ys.length := by rw [hl, lk]; simp
  refine ⟨newS, new, hSn, nd, la, ?_⟩
  have off : ∀ b, b ∉ as → b ≠ S → enH H S as ys b = H b := fun b h1 h2 => by unfold enH; rw [upd_ne h2, putE_off as _ _ h1]
  have low : ∀ b o, s.heap.get? b = some o → b ∉ as ∧ b ≠ S := fun b o e =>
    ⟨fun z => absurd (Heap.lt_size e) (Nat.not_lt.mpr (Nat.le_trans hS0 (Nat.le_of_lt (hG.above b z)))), Nat.ne_of_lt (Nat.lt_of_lt_of_le (Heap.lt_size e) hS0)⟩
  have kp : ∀ b u, H b = some u → enH H S as ys b = some u := fun b u e => by
    rw [off b (fun z => by rw [new b z] at e; cases e) (fun z => by rw [z, newS] at e; cases e)]
    exact e
  refine I.call' (ch := []) rfl ⟨fun b o q _ _ _ => hk b o q, fun b o q _ _ _ => ⟨o.slots, hk b o q⟩, fun b o q n _ => ?_, fun b o q _ => ⟨o, hk b o q⟩, fun b xs q => kp b _ q, fun b o u q => kp b _ q, fun b ps q => ⟨#[], by rw [kp b _ q]; simp⟩⟩ (fun b u q => ?_) I.bare fun b z => by simp at z
  · obtain ⟨z1, z2⟩ := low b o q
    rw [off b z1 z2]
    exact n
  · by_cases hb : b ∈ as
    · obtain ⟨j, hj⟩ := List.mem_iff_getElem?.mp hb
      have e0 : enH H S as ys b = putE H as (enV ys) b := by
        unfold enH
        exact upd_ne fun z => hSn (by rw [← z]; exact hb)
      obtain ⟨p, e1, e2⟩ := putE_at as (enV ys) H (by rw [enV_len]; exact la) nd j b hj
      obtain ⟨x, e3, rfl⟩ := enV_at e1
      rw [e0, e2] at q
      cases q
      obtain ⟨t, y, f1, f2⟩ := hG.pairs j b hj
      obtain ⟨y', g1, g2⟩ := rv.get e3
      have ey : y = y' := by
        have f1 : its[j]? = some y := by simpa using f1
        rw [f1] at g1
        exact Option.some.inj g1
      subst ey
      exact ⟨by show 2 ≤ sizeLine; decide, [.int j t, y], .cons ⟨_, rfl⟩ (.cons g2 .nil), ⟨_, f2, rfl, _, rfl⟩⟩
    · by_cases hb2 : b = S
      · rw [hb2] at q ⊢
        have eS : enH H S as ys S = some (.lst (as.map V.ref)) := upd_same
        rw [eS] at q
        cases q
        refine ⟨by rw [List.length_map]; omega, acc.toList, c, by rw [hacc]; exact vals_refs' as, ?_⟩
        rw [Array.toArray_toList]
        exact hS
      · rw [off b hb hb2] at q
        exact (I.hok b u q).stay (fun d v _ y => hk d v y) (fun d y => kp d _ y) fun d xs y => kp d _ y
def tLEn (K : PySem.W.Frag) (ta : TE) : TE := fun σ H Q => ta σ H fun x H1 => ∃ a ys, x = .ref a ∧ SqT K H1 a ys ∧
  ∀ (S : Addr) (as : List Addr), H1 S = none → (∀ t ∈ as, H1 t = none) → S ∉ as → as.Nodup → as.length = ys.length → Q (.ref S) (enH H1 S as ys)
theorem pe_listEn {X : Cx} {a : Expr} {ta : TE} {p pos p2 pos2 : Pos} (hc : X.calm = true) (hg : Gl X "list") (hm : X.mg "list" = none) (hg2 : Gl X "enumerate") (hm2 : X.mg "enumerate" = none) (ha : PE X a ta)
    (n1 : starEach [a] X.env = (false, eval a X.env) :: starEach [] X.env := by rfl)
    (n2 : starEach [.Call (.Name "enumerate" p2) [a] [] pos2] X.env = (false, eval (.Call (.Name "enumerate" p2) [a] [] pos2) X.env) :: starEach [] X.env := by rfl) :
    PE X (.Call (.Name "list" p) [.Call (.Name "enumerate" p2) [a] [] pos2] [] pos) (tLEn X.K ta) := by
  refine ⟨fun pins s σ H Q I h => ?_⟩
  refine Call_ (ld_blt I hg hm boot_list (PyProof.Rows.callWith_type1 (args_cons ?_ n2) n2))
  refine Call_ (ld_blt I hg2 hm2 boot_enumerate (PyProof.Rows.callWith_type1 (one_arg ha I h (fun v s1 x H1 I1 r q => ?_) n1) n1))
  obtain ⟨a, ys, rfl, hq, q⟩ := q
  obtain rfl : v = Value.ref a := r
  obtain ⟨its, rv, p', hz⟩ := I1.tuple hq
  have hal : a < s1.heap.objs.size := by obtain ⟨_, q, _⟩ := p'; exact Heap.lt_size q
  refine enum_begins1 (begins_tuple a its.toArray) (show s1.heap.IsTuple a its.toArray from p') fun h' he hit hsz hk => ?_
  refine args_nil ?_
  have l0 := rv.length
  refine en_call (s := { s1 with heap := h' }) (it := s1.heap.objs.size) (a := a) (items := its.toArray) (I1.ok.hd hc) (Nat.succ_ne_self _) (Ne.symm (Nat.ne_of_lt (Nat.lt_succ_of_lt hal))) (Nat.ne_of_lt hal) (by simp; omega) he ⟨_, hit, rfl, rfl⟩ (let ⟨o, e1, e2⟩ := p'; ⟨o, hk _ _ e1, e2⟩) fun h2 tk acc c as hk2 hS hl hG hacc => ?_
  have hs0 : s1.heap.objs.size ≤ h'.objs.size := by rw [hsz]; omega
  obtain ⟨k2, k3, k4, k5, k6, J⟩ := en_laid (tk := tk) I1 hz rv (fun b o e => hk2 b o (Nat.ne_of_lt (Nat.lt_succ_of_lt (Heap.lt_size e))) (Nat.ne_of_lt (Heap.lt_size e)) (hk b o e)) hs0 hS hl hG hacc
  exact ⟨.ref _, _, J, rfl, q _ as k2 k3 k4 k5 k6⟩
def fLEn : Val → Store → R Val
  | .d (.tup ds), S => .ok (.d (.lst (ds.zipIdx.map fun p => .tup [.int ((p.2 : Nat) : Int), p.1]))) S
  | _, _ => .bad
theorem p_listEn {X : Cx} {g : Gx} {W : WX} {a : Expr} {ea : Ev} {p pos p2 pos2 : Pos} (hK : g.K = X.K) (hc : X.calm = true) (hg : Gl X "list") (hm : X.mg "list" = none) (hg2 : Gl X "enumerate") (hm2 : X.mg "enumerate" = none) (ha : PE X a (tE g W ea))
    (n1 : starEach [a] X.env = (false, eval a X.env) :: starEach [] X.env := by rfl)
    (n2 : starEach [.Call (.Name "enumerate" p2) [a] [] pos2] X.env = (false, eval (.Call (.Name "enumerate" p2) [a] [] pos2) X.env) :: starEach [] X.env := by rfl) :
    PE X (.Call (.Name "list" p) [.Call (.Name "enumerate" p2) [a] [] pos2] [] pos) (tE g W (eUn fLEn ea)) :=
  (pe_listEn hc hg hm hg2 hm2 ha n1 n2).imp fun σ H Q ⟨w, Γ, S, st, en, h⟩ => tX_seq st en h fun u H1 x S1 w1 s1 st1 en1 r1 h1 => by
    unfold fLEn at h1
    split at h1
    · rename_i ds
      cases r1 with
      | tup q1 q3 =>
        rename_i a vs
        rw [← hK]
        refine ⟨a, vs, rfl, q1.sq, fun S2 as n1 n2 n3 n4 n5 => ?_⟩
        obtain ⟨t1, t2⟩ := putE_st as (enV vs) H1 st1 n2 n4
        have hS : putE H1 as (enV vs) S2 = none := by rw [putE_off as _ _ n3]; exact n1
        refine RQ.newQ (RQ.to h1 t1) t2 hS (rep_lst t2 hS ?_)
        have l3 := RepL.le t1.le q3
        have ld := q3.length
        have key : ∀ (bs : List Addr) (es : List D) (k : Nat), bs.length = es.length → (∀ (j : Nat) (b : Addr) (d : D), bs[j]? = some b → es[j]? = some d → Rep g w1 (putE H1 as (enV vs)) (.tup [.int ((k + j : Nat) : Int), d]) (.ref b)) →
            RepL g w1 (putE H1 as (enV vs)) ((es.zipIdx k).map fun p => .tup [.int ((p.2 : Nat) : Int), p.1]) (bs.map V.ref) := by
          intro bs
          induction bs with
          | nil =>
            intro es k hl _
            cases es with
            | nil => exact .nil
            | cons _ _ => simp at hl
          | cons b bs ih =>
            intro es k hl hf
            cases es with
            | nil => simp at hl
            | cons d es =>
              refine .cons (hf 0 b d rfl rfl) (ih es (k + 1) (by simpa using hl) fun j b' d' e1 e2 => ?_)
              have := hf (j + 1) b' d' (by simpa using e1) (by simpa using e2)
              rw [show k + (j + 1) = k + 1 + j by omega] at this
              exact this
        refine key as ds 0 (by omega) fun j b d e1 e2 => ?_
        rw [Nat.zero_add]
        obtain ⟨p, f1, f2⟩ := putE_at as (enV vs) H1 (by rw [enV_len]; exact n5) n4 j b e1
        obtain ⟨x, f3, rfl⟩ := enV_at f1
        obtain ⟨x', f4, f5⟩ := RepL.get l3 e2
        rw [f3] at f4
        cases f4
        exact .tup (.inl ⟨.inl f2, st1.nav (n2 b (List.mem_of_getElem? e1))⟩) (.cons (.int _) (.cons f5 .nil))
    · exact h1.elim
/-! ### o[i], p[j] = x, y -/
def sqF : F → Sv → F
  | .nx Γ S, k => k Γ S
  | f, _ => f
theorem fl_sqF {α : Type} {Γ : Env} (r : R α) (f : α → Store → F) (k : Sv) : sqF (r.fl Γ f) k = r.fl Γ fun a S => sqF (f a S) k := by cases r <;> rfl
def Sv0 : Sv := fun Γ S => .nx Γ S
def setAt (eo ei : Ev) (x : Val) : Sv := fun Γ S => (eo Γ S).fl Γ fun o S2 => (ei Γ S2).fl Γ fun i S3 => match o, i, x with
  | .cell k, .d (.int j), .d d => (match S3[k]? with
    | some (some (.lst ds)) => (match ixN ds.length j with | some n => .nx Γ (S3.set k (some (.lst (ds.set n d)))) | none => .bad)
    | _ => .bad)
  | _, _, _ => .bad
def sSet2 (eo ei eo2 ei2 ea eb : Ev) : Sv := fun Γ S => (ea Γ S).fl Γ fun x S1 => (eb Γ S1).fl Γ fun y S2 => match y with
  | .d y => sqF (setAt eo ei x Γ S2) (setAt eo2 ei2 (.d y))
  | _ => .bad
section
variable {X : Cx} {cf : Cf} {a b o a2 b2 o2 : Expr} {ea eb eo ei eo2 ei2 : Ev} {pos : Pos}
theorem setAt_q {w : Wd} {Γ : Env} {S : Store} {σ : L2.St} {H : Hp} {x : Val} {u : V} {k : Sv} {D : Ends} {P : L2.St → Hp → Prop} (st : StOk cf.g w S H) (en : EnvOk cf.g w Γ σ H) (fr : cf.fr w H) (r : RepV cf.g w H x u) (h : FQ cf w H (sqF (setAt eo ei x Γ S) k) D)
    (hP : ∀ w' H' S', Le w H w' H' → StOk cf.g w' S' H' → EnvOk cf.g w' Γ σ H' → cf.fr w' H' → FQ cf w' H' (k Γ S') D → P σ H') : gSub (tE cf.g cf.W eo) (tE cf.g cf.W ei) rSetL u σ H P := by
  unfold setAt at h
  rw [fl_sqF] at h
  refine tX_fl st en fr h fun v H2 y S2 w2 s2 st2 en2 fr2 r2 h2 => ?_
  rw [fl_sqF] at h2
  refine tX_fl st2 en2 fr2 h2 fun z H3 i S3 w3 s3 st3 en3 fr3 r3 h3 => ?_
  split at h3
  · split at h3
    · rename_i ds e
      split at h3
      · rename_i n en'
        obtain ⟨p, vs, rfl, hk, hp, l⟩ := cell_at st3 (r2.step s3) e
        cases r3
        refine ⟨p, vs, _, n, rfl, rfl, hp, ixN_set l en', ?_⟩
        have sp := stp_mutC (o := .lst (vs.set n u)) st3 hk
        exact hP w3 _ _ ((s2.trans s3).trans sp).le (st3.mutC hk (l.set ((r.step s2).step s3) n)) (en3.step sp) (fr3.stp sp) (FQ.to h3 sp.le (by rw [sp.hid]; exact fun _ z => z))
      · exact h3.elim
    · exact h3.elim
  · exact h3.elim
theorem s_set2 {tp tp2 pt pt2 : Pos} {kt k2 : Nat} (hc : X.calm = true) (ho : PE X o (tE cf.g cf.W eo)) (hi : PE X b (tE cf.g cf.W ei)) (ho2 : PE X o2 (tE cf.g cf.W eo2)) (hi2 : PE X b2 (tE cf.g cf.W ei2)) (ha : PE X a (tE cf.g cf.W ea)) (hb : PE X a2 (tE cf.g cf.W eb))
    (hs : swapsWithSole [.Tuple [.Subscript o b tp, .Subscript o2 b2 tp2] kt pt] (.Tuple [a, a2] k2 pt2) pos.line X.env = pure false := by rfl) (hw : swappedStores [.Tuple [.Subscript o b tp, .Subscript o2 b2 tp2] kt pt] (.Tuple [a, a2] k2 pt2) X.env = pure none := by rfl)
    (has : ∀ v, assign (.Subscript o b tp) X.env v = (do
      let ov ← holding [v] (eval o X.env)
      let iv ← holding [v, ov] (eval b X.env)
      standAt tp
      holding [v, ov, iv] (setItem ov iv v)
      release [v, ov, iv] []) := by intro _; rfl)
    (has2 : ∀ v, assign (.Subscript o2 b2 tp2) X.env v = (do
      let ov ← holding [v] (eval o2 X.env)
      let iv ← holding [v, ov] (eval b2 X.env)
      standAt tp2
      holding [v, ov, iv] (setItem ov iv v)
      release [v, ov, iv] []) := by intro _; rfl)
    (hs1 : starEach [a, a2] X.env = (false, eval a X.env) :: starEach [a2] X.env := by rfl) (hs2 : starEach [a2] X.env = (false, eval a2 X.env) :: starEach [] X.env := by rfl) :
    PS X (.Assign [.Tuple [.Subscript o b tp, .Subscript o2 b2 tp2] kt pt] (.Tuple [a, a2] k2 pt2) pos) (tS cf (sSet2 eo ei eo2 ei2 ea eb)) :=
  (ps_asg (pe_tup (pa_cons ha (pa_cons hb pa_nil hs2) hs1)) (pg_tup hc (pgs_cons (pg_sub ho hi set_list has) (pgs_cons (pg_sub ho2 hi2 set_list has2) pgs_nil))) hs hw).imp fun D σ H ⟨w, Γ, S, so, en, fr, h⟩ =>
    tX_fl so en fr h fun u H1 x S1 w1 s1 st1 en1 fr1 r1 h1 => tX_fl st1 en1 fr1 h1 fun v H2 y S2 w2 s2 st2 en2 fr2 r2 h2 => by
      cases y with
      | cell k => exact h2.elim
      | d y =>
        refine ⟨by show 2 ≤ sizeLine; decide, fun p hp => ⟨p, [u, v], rfl, .inl (.inl upd_same), rfl, u, [v], rfl, ?_⟩⟩
        have sp := step_new (o := .tup [u, v]) st2 hp
        refine setAt_q (st2.new hp) (en2.step sp) (fr2.stp sp) ((r1.step s2).step sp) (FQ.to h2 sp.le (by rw [sp.hid]; exact fun _ z => z)) fun w3 H3 S3 l3 st3 en3 fr3 h3 => ⟨v, [], rfl, ?_⟩
        have h3 : FQ cf w3 H3 (sqF (setAt eo2 ei2 (.d y) Γ S3) Sv0) D := by
          unfold Sv0
          cases e : setAt eo2 ei2 (.d y) Γ S3 <;> · rw [e] at h3; exact h3
        exact setAt_q (x := .d y) st3 en3 fr3 (Rep.le l3 (r2.step sp)) h3 fun w4 H4 S4 l4 st4 en4 fr4 h4 => ⟨rfl, FQ.nxQ h4 st4 en4 fr4⟩
end
end Pd

set_option maxHeartbeats 2000000
/-! errors of the program's own: made with a text, made with a value that they keep -/
namespace Pd
open PySem PySem.Spec PySem.Calls PyProof.Rows PySem.W L2
/-! ### def __init__(self, f): super().__init__('..'); self.f = f -/
def xiA (f : Str) (p1 p2 : Pos) : Arguments := { posonlyargs := [], args := [{ arg := "self", annotation := none, pos := p1 }, { arg := f, annotation := none, pos := p2 }], vararg := none, kwonlyargs := [], kw_defaults := [], kwarg := none, defaults := [] }
def xiB (f m : Str) (j : Nat) (q1 q2 q3 q4 q5 q6 q7 q8 q9 q10 : Pos) : List Stmt := [.Expr (.Call (.Attribute (.Call (.Name "super" q1) [] [] q2) "__init__" q3) [.Constant (.str m) j q4] [] q5) q6, .Assign [.Attribute (.Name "self" q7) f q8] (.Name f q9) q10]
def xiS (f : Str) : Scope := { kind := .function, names := [("self", .local), (f, .local), ("__class__", .free), ("super", .globalImplicit)], isGenerator := false, isCoroutine := false, more := [] }
/-- what the written part says of the class x at C, and of its __init__ at fI -/
structure XTxt (P : Program) (K : Frag) (mg : Str → Option Value) (x f : Str) (C fI : Addr) (B newId initId : String) (bmB : List Value) : Prop where
  FB : ExcBaseFacts B newId initId bmB
  KF : KxsFacts B initId
  SF : StoreFacts B bmB "object.__setattr__" "object"
  gC : mg x = some (.ref C)
  cls : excInitIn K C bmB newId = true
  ov : excOver K C bmB = true
  sa : findIn K (.ref C) "__setattr__" = some (some (.builtin "object.__setattr__"))
  tk : takerIn K C f = some none
  hd : hasDictIn K C = true
  ga : findIn K (.ref C) "__getattribute__" = some (some (.builtin "BaseException.__getattribute__"))
  gg : findIn K (.ref C) "__getattr__" = some none
  noN : findIn K (.ref C) f = some none
  iC : findIn K (.ref C) "__init__" = some (some (.ref fI))
  tC : typeIn K (.ref fI) = some (.type "function")
  kC : keepIn K (.ref C) = true
  exC : subIn K (.ref C) (.type "BaseException") = some true
  tyC : typeIn K (.ref C) = some (.type "type")
  sup : ks_superIn K C C "__init__" = some (some (.builtin initId))
  suB : subIn K (.ref C) (.type B) = some true
  suC : mroIn K C (.ref C) = some true
  ho : nsIn K cStatics "thirdparty.any" = some none
  ms : mg "super" = none
  top : (P.main.scope.names.lookup ("super" : Str)).isSome = false
  fn : ∃ (qn : Str) (oc : Value) (od : Option Addr) (doc pm : Value) (an : Option Addr) (cda cc : Addr) (ct : Value) (osl : Array (Option Value)) (m : Str) (j : Nat) (p1 p2 q1 q2 q3 q4 q5 q6 q7 q8 q9 q10 : Pos) (ccl cl : Value) (cdd cld : Option Addr) (ccs csl : Array (Option Value)) (vs : Array Value) (file : Str) (tf : Tok),
    K.lookup fI = some ⟨oc, od, .func (ksFn "__init__" qn (xiA f p1 p2) (xiB f m j q1 q2 q3 q4 q5 q6 q7 q8 q9 q10) (xiS f) .none .none doc pm an (.ref cda) ct cc), osl⟩ ∧ codeIn K (.ref cda) qn = true ∧
      K.lookup cc = some ⟨cl, cld, .cell (some (.ref C)), csl⟩ ∧ K.lookup cda = some ⟨ccl, cdd, .fields vs, ccs⟩ ∧ vs[2]? = some (.str file tf) ∧ ((P.main.file : Str) == file) = true ∧ (q3.endLine == q5.line) = true
/-- a name of a field as these classes have it -/
structure FldOk (f : Str) : Prop where
  n1 : (f == ("self" : Str)) = false
  n2 : (f == ("super" : Str)) = false
  n3 : (f == ("__class__" : Str)) = false
  n4 : (f == ("__debug__" : Str)) = false
  bd : ∀ (q : Str) (p1 p2 : Pos) (body : List Stmt) (doc pm : Value) (an : Option Addr) (cdv ct : Value) (cc : Addr) (e v : Value), bindArgs (ksFn "__init__" q (xiA f p1 p2) body (xiS f) .none .none doc pm an cdv ct cc) ⟨[e, v], []⟩ = pure [(("self" : Str), e), (f, v)]
theorem fld_given : FldOk "given" := ⟨by decide, by decide, by decide, by decide, fun _ _ _ _ _ _ _ _ _ _ _ _ => rfl⟩
theorem fld_limit : FldOk "limit" := ⟨by decide, by decide, by decide, by decide, fun _ _ _ _ _ _ _ _ _ _ _ _ => rfl⟩
theorem fld_wanted : FldOk "wanted" := ⟨by decide, by decide, by decide, by decide, fun _ _ _ _ _ _ _ _ _ _ _ _ => rfl⟩
theorem fld_line : FldOk "line" := ⟨by decide, by decide, by decide, by decide, fun _ _ _ _ _ _ _ _ _ _ _ _ => rfl⟩
section
variable {prog : Program} {w : World} {A : Around} {E : Value → Shared → Prop} {R : Result → Shared → Prop} {s : Shared} {K : Frag} {mg mb : Str → Option Value} {x f : Str} {C fI : Addr} {B newId initId : String} {bmB : List Value}
/-- the wrapper that super().__init__ is, called -/
theorem xi_call (T : XTxt prog K mg x f C fI B newId initId bmB) {h : Heap} {g : Array GenState} {d : Drawn} {t : Nat} {os : OsState} {u e t0 : Addr} {rest : List Value} {Q : Value → Shared → Prop} (X : K.In h) (he : h.get? e = some (HandSPX.excO C t0)) (hu : h.get? u = some (kxs_mw initId e)) (hz : rest.length ≤ sizeLine)
    (hq : ∀ h' t1, (∀ b o, b ≠ e → h.get? b = some o → h'.get? b = some o) → h'.get? e = some (HandSPX.excO C t1) → Q .none ⟨h', g, d, t, os⟩) : wpAny (model prog w) A (call (.ref u) rest) Q E ⟨h, g, d, t, os⟩ := by
  obtain ⟨nm, N', qn, bs, bm, hdct, sn, sub, ab, col, dd, k0, k1, k2, k3, k5, hC, _⟩ := excInit_of X T.cls
  refine wpAny_call (codeAny_of_tree ?_)
  show wpAny (model prog w) A.in1 (callAny (.ref u) ⟨rest, []⟩) _ _ _
  unfold callAny
  refine wpAny_bind (wpAny_load hu ?_)
  have tm : ((Value.type "method-wrapper" == Value.type "method" || Value.type "method-wrapper" == Value.type "builtin_function_or_method") || Value.type "method-wrapper" == Value.type "method-wrapper") = true := by decide
  simp only [kxs_mw, tm, if_true]
  refine KFB.if_so (by decide) (wpAny_bind (check_bound_init T.FB.toExcCallFacts hC he rfl (wpAny_bind (wpAny_pure (wpAny_pure ?_)))))
  exact ⟨plainId_quiet T.FB.init.plain _, codeAny_builtin T.FB.initEntry (exc_init_tree (cls := .ref C) (t0 := t0) (dv := none) (c2 := .none) (c3 := .none) (b4 := .bool false) he hz fun h' a b c => hq h' _ a b)⟩
/-- self.f = v on it -/
theorem xi_store (T : XTxt prog K mg x f C fI B newId initId bmB) {h : Heap} {g : Array GenState} {d : Drawn} {t : Nat} {os : OsState} {e t0 : Addr} {v : Value} {Q : Unit → Shared → Prop} (X : K.In h) (he : h.get? e = some (HandSPX.excO C t0))
    (hq : ∀ h' tk dx, (∀ b o, b ≠ e → h.get? b = some o → h'.get? b = some o) → h.objs.size ≤ dx → dx ≠ e → h'.get? e = some { cls := .ref C, dict := some dx, data := .fields #[.ref t0, .none, .none, .none, .bool false, .none] } → h'.Ns1 dx (fun y => if y = f then some v else none) → Q () ⟨h', g, d, tk, os⟩) :
    wpAny (model prog w) A (setAttr (.ref e) f v) Q E ⟨h, g, d, t, os⟩ := by
  have hlt : e < h.objs.size := Heap.lt_size he
  have hne : e ≠ h.objs.size := Nat.ne_of_lt hlt
  refine set_plain (od := none) X ⟨he, rfl, rfl, trivial⟩ T.sa (osa_openX (od := none) (s := ⟨h, g, d, t + 1, os⟩) T.SF X ⟨he, rfl, rfl, trivial⟩ T.ov T.tk fun b => ?_)
  obtain ⟨cd, hc, hd'⟩ := any_some T.hd
  have hx1 : (h.push { cls := .type "dict", data := .dict #[] }).get? e = some (HandSPX.excO C t0) := Heap.get?_push_of_some _ he
  refine wpAny_bind (wpAny_pure (wpAny_bind (instanceDict_exc (s := ⟨h, g, d, t + 1, os⟩) (x := e) (t := t0) (C := C) (c2 := .none) he (looks_clsIn X hc) hd' ?_)))
  refine HandSPX.store_in_new ?_ fun h' tk' hn' hs => ?_
  · exact ⟨_, #[], _, (Heap.get?_update_ne _ _ _ _ hne.symm).trans (Heap.get?_push_at rfl rfl), rfl, fun e he => absurd he (by simp), fun _ => rfl⟩
  · refine hq h' tk' h.objs.size (fun b o hb ho => ?_) (Nat.le_refl _) hne.symm ?_ hn'
    · exact (hs.2 b (Nat.ne_of_lt (Heap.lt_size ho))).trans ((Heap.get?_update_ne _ _ _ _ hb).trans (Heap.get?_push_of_some _ ho))
    · exact (hs.2 e hne).trans (Heap.get?_update_self _ hx1 rfl)
theorem xi_eval {o : Expr} {m : Str} {j : Nat} {q3 q4 q5 : Pos} {env : PySem.Env} (hline : (q3.endLine == q5.line) = true) : eval (.Call (.Attribute o "__init__" q3) [.Constant (.str m) j q4] [] q5) env = (do
      let ov ← attributeBase o "__init__" env (eval o env)
      standAt q3.atName
      let (f, first) ← holding [ov] (getMethod ov "__init__" (do return (← importBound o env).getD true))
      callWith q5 f first (backTo q5 (starEach [.Constant (.str m) j q4] env)) []) := by
  show (do
      let ov ← attributeBase o "__init__" env (eval o env)
      standAt q3.atName
      methodCall o "__init__" q3 q5 env ov 1 (backTo q5 (starEach [.Constant (.str m) j q4] env)) []) = _
  have f : methodCallForm 1 (backTo q5 (starEach [.Constant (.str m) j q4] env)) [] = true := rfl
  unfold methodCall methodCallPos
  rw [f]
  simp only [hline, Bool.not_true, Bool.false_or, if_true, calleeOf, pure_bind]
/-- its two statements, in any frame that stands so -/
theorem xi_body (T : XTxt prog K mg x f C fI B newId initId bmB) {body : List Stmt} {env : PySem.Env} {h : Heap} {g : Array GenState} {d : Drawn} {t : Nat} {os : OsState} {e t0 cda : Addr} {v : Value} {m : Str} {j : Nat} {q1 q2 q3 q4 q5 q6 q7 q8 q9 q10 : Pos} {of oc oD : Obj} {fd : FuncData} {ar : Arg} {vs : Array Value} {file : Str} {tf : Tok} {cdD : ClassData} {mL : Str → Option Value} {Q : Flow → Shared → Prop}
    (X : K.In h) (hG : h.Ns env.globals mg) (hB : h.Ns env.builtins mb) (hbb : mb "super" = bootBuiltins "super") (hL : h.Ns env.locals mL) (m1 : mL "self" = some (.ref e)) (m2 : mL f = some v) (he : h.get? e = some (HandSPX.excO C t0))
    (kk : env.scope.kind = .function) (ks : env.kindOf "super" = some .globalImplicit) (kc : env.kindOf "__class__" = some .free) (k1 : env.kindOf "self" = some .local) (k2' : env.kindOf f = some .local) (n4 : (f == ("__debug__" : Str)) = false)
    (hfu : env.func = some fI) (hf : h.get? fI = some of) (hfd : of.data = .func fd) (hp : (fd.params.posonlyargs ++ fd.params.args).head? = some ar) (har : ar.arg = "self") (hco : env.code = .ref cda) (hcc : h.get? cda = some oc) (hoc : oc.data = .fields vs) (hvs : vs[2]? = some (.str file tf)) (hfile : ((prog.main.file : Str) == file) = true)
    (hcl : ∀ {A : Around} {Q : Value → Shared → Prop} {E : Value → Shared → Prop} {s : Shared}, s.heap = h → Q (.ref C) s → wpAny (model prog w) A (loadName env "__class__") Q E s) (hD1 : h.get? C = some oD) (hD2 : oD.data = .cls cdD) (hcD : clsIn K C = some cdD)
    (hl : h.objs.size > e) (hle : env.locals ≠ e) (hi : interactive env = false) (hline : (q3.endLine == q5.line) = true) (hnx : K.lookup e = none)
    (hq : ∀ h' tk t1 dx, (∀ b o, b ≠ e → h.get? b = some o → h'.get? b = some o) → h.objs.size ≤ dx → dx ≠ e → h'.get? e = some { cls := .ref C, dict := some dx, data := .fields #[.ref t1, .none, .none, .none, .bool false, .none] } → h'.Ns1 dx (fun y => if y = f then some v else none) → Q .next ⟨h', g, d, tk, os⟩) :
    _root_.PySem.wpAt (model prog w) A (.func body env) (execs [.Expr (.Call (.Attribute (.Call (.Name "super" q1) [] [] q2) "__init__" q3) [.Constant (.str m) j q4] [] q5) q6, .Assign [.Attribute (.Name "self" q7) f q8] (.Name f q9) q10] env) Q E ⟨h, g, d, t, os⟩ := by
  have nC : e ≠ C := fun z => by
    rw [z, hD1] at he
    cases he
    cases hD2
  refine ks_wpAt_execs_cons (ks_wpAt_Expr_any (hi := hi) (ks_wpAt_MethodCall (pl := do return (← importBound (.Call (.Name "super" q1) [] [] q2) env).getD true) ?_ (xi_eval hline)))
  refine ks_wpAt_super_base ks kc rfl hfu hf hfd hp hco hcc hoc hvs hfile T.top ?_
  refine ks_loadName_global kk ks (loadGlobal_builtin hG T.ms hB (hbb.trans rfl) ⟨rfl, ?_⟩)
  refine hcl rfl ?_
  rw [har]
  refine wpAny_loadName_local kk k1 hL m1 ?_
  refine ks_wpAny_isType_cls hD1 hD2 ⟨rfl, ?_⟩
  refine ks_wpAny_call_super hD1 hD2 he rfl (fun c z => by cases z) (looks_mroIn X T.suC) (fun h2 e2 k2 => ?_)
  have e2' := e2
  have X2 : K.In h2 := X.keeps k2
  have he2 := k2 _ _ he
  have hmro : Looks (model prog w) h2 (mroOf (.ref C)) cdD.mro := fun A Q E s k q => wpAny_bind ((looks_clsIn X2 hcD) A _ E s k (wpAny_pure q))
  have hI : Looks (model prog w) h2 (isInstance (.ref e) (.type B)) true := (InstAt.type (M := model prog w) (⟨he2, rfl, rfl, trivial⟩ : InstAt h2 e (HandSPX.excO C t0) C none)).andThen (looks_subIn X2 T.suB)
  have hsup := T.sup
  unfold ks_superIn at hsup
  rw [hcD] at hsup
  refine kxs_getMethod T.KF e2 (looks_opaque X2 T.ho) hmro rfl X2 hsup hI nC rfl ?_
  have k3 : ∀ b o, h2.get? b = some o → (h2.push (kxs_mw initId e)).get? b = some o := fun b o z => Heap.get?_push_of_some _ z
  refine kxs_callWith (i := initId) (x := e) rfl (evalArgs_plain ?_)
  refine Calls.spliced_cons (wpAny_Constant_str (k := j) (pos := q4) ?_)
  refine Calls.spliced_nil ⟨Heap.get?_push_at rfl rfl, ?_⟩
  have he3 := k3 _ _ he2
  refine xi_call T (t0 := t0) (X2.keeps k3) he3 (Heap.get?_push_at rfl rfl) (by show 1 ≤ sizeLine; rw [sizeLine_eq]; decide) fun h4 t1 k4 he4 => ?_
  have old : ∀ b o, b ≠ e → h.get? b = some o → h4.get? b = some o := fun b o n z => k4 b o n (k3 b o (k2 b o z))
  have X4 : K.In h4 := fun a o z => old a o (fun n => by rw [n, hnx] at z; cases z) (X a o z)
  obtain ⟨oL, es, ep, hL1, hL2⟩ := hL
  have hL4 : h4.Ns env.locals mL := ⟨oL, es, ep, old _ _ hle hL1, hL2⟩
  have z2 : h.objs.size < h2.objs.size := Heap.lt_size e2'
  have z4 : h2.objs.size < h4.objs.size := Heap.lt_size (k4 h2.objs.size (kxs_mw initId e) (Nat.ne_of_gt (Heap.lt_size he2)) (Heap.get?_push_at rfl rfl))
  have sz : h.objs.size ≤ h4.objs.size := by omega
  show _root_.PySem.wpAt (model prog w) A (.func body env) (execs [.Assign [.Attribute (.Name "self" q7) f q8] (.Name f q9) q10] env) Q E _
  refine ks_wpAt_execs_cons (ks_wpAt_Assign_Attr (wpAt_of_wpAny (wpAny_Name (wpAny_loadName_local kk k2' hL4 m2 ?_) n4)))
  refine wpAny_Name (wpAny_loadName_local kk k1 hL4 m1 ?_) (by decide)
  refine xi_store T X4 he4 fun h5 tk5 dx k5 dn dne he5 hn5 => ?_
  refine wpAt_of_wpAny (wpAny_execs_nil (hq h5 tk5 t1 dx (fun b o n z => k5 b o n (old b o n z)) (Nat.le_trans sz dn) dne he5 hn5))
/-- the whole of __init__ -/
theorem xi_init (T : XTxt prog K mg x f C fI B newId initId bmB) (fo : FldOk f) {e t0 : Addr} {v : Value} (X : K.In s.heap) (hG : s.heap.Ns mainGlobals mg) (hB : s.heap.Ns builtinsNs mb) (hbb : mb "super" = bootBuiltins "super") (hlim : s.heap.NoLimit) (he : s.heap.get? e = some (HandSPX.excO C t0)) (hnx : K.lookup e = none) (hroom : A.depth < recursionLimit)
    (hq : ∀ h' tk t1 dx, (∀ b o, b ≠ e → s.heap.get? b = some o → h'.get? b = some o) → s.heap.objs.size ≤ dx → dx ≠ e → h'.get? e = some { cls := .ref C, dict := some dx, data := .fields #[.ref t1, .none, .none, .none, .bool false, .none] } → h'.Ns1 dx (fun y => if y = f then some v else none) → R (.ok (.ret .none)) { s with heap := h', toks := tk }) :
    codeAny (model prog w) A (.call (.ref fI) ⟨[.ref e, v], []⟩) R s := by
  obtain ⟨qn, oc, od, doc, pm, an, cda, cc, ct, osl, m, j, p1, p2, q1, q2, q3, q4, q5, q6, q7, q8, q9, q10, ccl, cl, cdd, cld, ccs, csl, vs, file, tf, ho, hcd, hcell, hcode, hvs, hfile, hline⟩ := T.fn
  refine ks_codeAny_call_defAt (fd := ksFn "__init__" qn (xiA f p1 p2) (xiB f m j q1 q2 q3 q4 q5 q6 q7 q8 q9 q10) (xiS f) .none .none doc pm an (.ref cda) ct cc) (body := xiB f m j q1 q2 q3 q4 q5 q6 q7 q8 q9 q10) (binds := [(("self" : Str), .ref e), (f, v)]) hroom (X _ _ ho) rfl hlim (codeRec_of X hcd) rfl ?_ ?_ ?_ (fun h₁ hns hk₁ => ?_)
  · exact .of_eq (fo.bd _ _ _ _ _ _ _ _ _ _ _ _)
  · intro y hy
    simp only [xiS, List.mem_cons, List.not_mem_nil, or_false] at hy
    rcases hy with rfl | rfl | rfl | rfl <;> exact fun z => by cases z
  · intro y hy
    simp only [List.mem_cons, List.not_mem_nil, or_false] at hy
    rcases hy with rfl | rfl
    · rfl
    · show List.lookup f [(("self" : Str), NameKind.local), (f, .local), ("__class__", .free), ("super", .globalImplicit)] = _
      simp [List.lookup, fo.n1]
  · have kk : ∀ b o, s.heap.get? b = some o → h₁.get? b = some o := hk₁
    have X1 : K.In h₁ := X.keeps kk
    have lf : List.lookup f [(("self" : Str), NameKind.local), (f, .local), ("__class__", .free), ("super", .globalImplicit)] = some .local := by simp [List.lookup, fo.n1]
    have ls : List.lookup ("super" : Str) [(("self" : Str), NameKind.local), (f, .local), ("__class__", .free), ("super", .globalImplicit)] = some .globalImplicit := by
      have : (("super" : Str) == f) = false := by have := fo.n2; simp only [beq_eq_false_iff_ne, ne_eq] at this ⊢; exact fun z => this z.symm
      simp only [List.lookup, this]
      rfl
    have lc : List.lookup ("__class__" : Str) [(("self" : Str), NameKind.local), (f, .local), ("__class__", .free), ("super", .globalImplicit)] = some .free := by
      have : (("__class__" : Str) == f) = false := by have := fo.n3; simp only [beq_eq_false_iff_ne, ne_eq] at this ⊢; exact fun z => this z.symm
      simp only [List.lookup, this]
      rfl
    obtain ⟨cdD, hcD⟩ : ∃ cdD, clsIn K C = some cdD := by
      have := T.hd
      unfold hasDictIn at this
      cases z : clsIn K C with
      | none => rw [z] at this; cases this
      | some cd => exact ⟨cd, rfl⟩
    obtain ⟨oD, hD1, hD2⟩ : ∃ oD, h₁.get? C = some oD ∧ oD.data = .cls cdD := by
      have hD' := hcD
      unfold clsIn at hD'
      split at hD'
      · rename_i c d cd' sl ho'
        cases hD'
        exact ⟨_, X1 _ _ ho', rfl⟩
      · cases hD'
    have m2 : (([(("self" : Str), Value.ref e), (f, v)] : List (Str × Value)).reverse.lookup f) = some v := by simp [List.lookup]
    have m1 : (([(("self" : Str), Value.ref e), (f, v)] : List (Str × Value)).reverse.lookup ("self" : Str)) = some (Value.ref e) := by
      have : (("self" : Str) == f) = false := by have := fo.n1; simp only [beq_eq_false_iff_ne, ne_eq] at this ⊢; exact fun z => this z.symm
      simp [List.lookup, this]
    have hLe : s.heap.objs.size ≠ e := Nat.ne_of_gt (Heap.lt_size he)
    have hlt : s.heap.objs.size < h₁.objs.size := hns.lt
    refine xi_body T X1 (hG.keeps kk) (hB.keeps kk) hbb hns m1 m2 (kk _ _ he) rfl ls lc rfl lf fo.n4 rfl (X1 _ _ ho) rfl rfl rfl rfl (X1 _ _ hcode) rfl hvs hfile
      (fun {A Q E s'} hs hq => wpAny_loadName_free rfl lc rfl ⟨_, by rw [hs]; exact X1 _ _ hcell, rfl⟩ hq) hD1 hD2 hcD (Nat.lt_of_lt_of_le (Heap.lt_size he) (Nat.le_of_lt hlt)) hLe rfl hline hnx ?_
    intro h' tk t1 dx k dn dne he' hn'
    exact hq h' tk t1 dx (fun b o n z => k b o n (kk b o z)) (Nat.le_trans (Nat.le_of_lt hlt) dn) dne he' hn'
/-- C(v) -/
theorem xi_made (T : XTxt prog K mg x f C fI B newId initId bmB) (fo : FldOk f) {v : Value} (X : K.In s.heap) (hG : s.heap.Ns mainGlobals mg) (hB : s.heap.Ns builtinsNs mb) (hbb : mb "super" = bootBuiltins "super") (hlim : s.heap.NoLimit) (hroom : A.depth + 1 < recursionLimit)
    (hq : ∀ h' tk e t1 dx, (∀ b o, s.heap.get? b = some o → h'.get? b = some o) → s.heap.objs.size ≤ e → s.heap.objs.size ≤ dx → dx ≠ e → h'.get? e = some { cls := .ref C, dict := some dx, data := .fields #[.ref t1, .none, .none, .none, .bool false, .none] } → h'.Ns1 dx (fun y => if y = f then some v else none) → R (.ok (.ret (.ref e))) { s with heap := h', toks := tk }) :
    codeAny (model prog w) A (.call (.ref C) ⟨[v], []⟩) R s := by
  obtain ⟨nm, N', qn, bs, bm, hdct, sn, sub, ab, col, dd, k0, k1, k2, k3, k5, hC, hT⟩ := excInit_of X T.cls
  obtain ⟨hp, g, dr, tk, os⟩ := s
  have kk : ∀ b o, hp.get? b = some o → ((hp.push (kdv_tup [v])).push (HandSPX.excO C hp.objs.size)).get? b = some o := fun b o e => Heap.get?_push_of_some _ (Heap.get?_push_of_some _ e)
  have hget : ((hp.push (kdv_tup [v])).push (HandSPX.excO C hp.objs.size)).get? (hp.objs.size + 1) = some (HandSPX.excO C hp.objs.size) := by heap_get
  have hnx : K.lookup (hp.objs.size + 1) = none := by
    cases e : K.lookup (hp.objs.size + 1) with
    | none => rfl
    | some o => exact absurd (Nat.lt_of_succ_lt (Heap.lt_size (X _ _ e))) (Nat.lt_irrefl _)
  refine HandSPX.call_own T.FB hT hC (looks_findIn X T.iC) (fun self => bind_fn X self T.tC) (by show 1 ≤ sizeLine; rw [sizeLine_eq]; decide) ?_
  refine xi_init (s := ⟨(hp.push (kdv_tup [v])).push (HandSPX.excO C hp.objs.size), g, dr, tk, os⟩) T fo (X.keeps kk) (hG.keeps kk) (hB.keeps kk) hbb (hlim.keeps kk) hget hnx ?_ fun h' tk' t1 dx k' dn dne hx hns => ?_
  · show A.depth + 1 < recursionLimit
    exact hroom
  · have z : hp.objs.size + 1 + 1 ≤ dx := by
      first
        | (simpa only [Heap.size_push] using dn)
        | exact dn
        | (have q := dn; rw [Heap.size_push, Heap.size_push] at q; exact q)
    exact ⟨rfl, hq h' tk' (hp.objs.size + 1) t1 dx (fun b o e => k' b o (Nat.ne_of_lt (Nat.lt_succ_of_lt (Heap.lt_size e))) (kk b o e)) (Nat.le_succ _) (Nat.le_trans (Nat.le_trans (Nat.le_succ _) (Nat.le_succ _)) z) dne hx hns⟩
end
theorem relO_fld {v : V} {v' : Value} {f : Str} (r : RelV v v') (y : Str) : RelO (List.lookup y [(f, v)]) (if y = f then some v' else none) := by
  by_cases hw : y = f
  · subst hw
    rw [if_pos rfl]
    have q : List.lookup y [(y, v)] = some v := by simp [List.lookup]
    rw [q]
    exact r
  · have qw : (y == f) = false := by simpa using hw
    rw [if_neg hw]
    have q : List.lookup y [(f, v)] = none := by simp [List.lookup, qw]
    rw [q]
    trivial
section
variable {X : Cx} {x f : Str} {C fI : Addr} {B newId initId : String} {bmB : List Value}
/-- C(e) -/
def tMkX (C : Addr) (f : Str) (te : TE) : L2.St → Hp → XK → Prop := fun σ H Q => te σ H fun v H1 => ∀ d, H1 d = none → Q (.ref C) (some d) (upd H1 d (.xd [(f, v)]))
theorem pmk_x {a : Expr} {te : TE} {p pos : Pos} {k : Nat} (T : XTxt X.prog X.K X.mg x f C fI B newId initId bmB) (fo : FldOk f) (hr : Room k X.A) (ha : PE X a te) (hg : Gl X x) (hdb : (x == ("__debug__" : Str)) = false := by decide)
    (hs : starEach [a] X.env = (false, eval a X.env) :: starEach [] X.env := by rfl) : PMk X (.Call (.Name x p) [a] [] pos) (tMkX C f te) := by
  intro pins s σ H Q I h
  refine wpAny_Call_Name_kw (ld_glob I hg T.gC ?_ hdb)
  refine PySem.W.callWith_K (h₀ := X.base) I.ok.mod.kin T.kC ?_ hs (by rfl)
  rw [hs]
  refine Calls.spliced_cons (thn (ha.run pins s σ H _ I h) fun u s1 ⟨v, H1, I1, r1, q1⟩ => ?_)
  refine Calls.spliced_nil ⟨I1.kIn, ?_⟩
  have hlim := I1.nolimit
  obtain ⟨mb, hb1, hb2⟩ := I1.mod.blt
  have G1 : s1.heap.Ns mainGlobals X.mg := I1.mod.glob.keeps I1.bk
  have B1 : s1.heap.Ns builtinsNs mb := hb1.keeps I1.bk
  obtain ⟨hp, g, dr, tk, os⟩ := s1
  refine wpAny_call (xi_made T fo I1.kIn G1 B1 (hb2 _ (by decide)) hlim (by have := hr.dp; omega) fun h' tk' e t1 d M ne nd dne he hns => ?_)
  show MkP X pins σ Q (.ref e) ⟨h', g, dr, tk', os⟩
  obtain ⟨G', g1, g2⟩ := restrict h' fun b => decide (b ≠ e)
  have gk : ∀ b, b ≠ e → G'.get? b = h'.get? b := fun b hb => g1 b (decide_eq_true hb)
  have ge : G'.get? e = none := g2 e (by simp)
  have old : ∀ b o, hp.get? b = some o → G'.get? b = some o := fun b o q => (gk b (Nat.ne_of_lt (Nat.lt_of_lt_of_le (Heap.lt_size q) ne))).trans (M b o q)
  have ob : ObjOk X.prog X.w (upd H1 d (.xd [(f, v)])) G' d (.xd [(f, v)]) := ⟨_, hns.at (fun o q => (gk d dne).trans q), fun y => relO_fld r1 y⟩
  have J : Inv X pins σ (upd H1 d (.xd [(f, v)])) ⟨G', g, dr, tk', os⟩ := I1.laid (t' := tk') old nd ob
  refine ⟨e, _, _, ⟨G', g, dr, tk', os⟩, _, .ref C, some d, rfl, J, fun b o q => ?_, ge, he, ⟨rfl, rfl⟩, rfl, rfl, ?_, rfl, I1.bare, raises_own T.exC T.tyC, q1 d (I1.hok.fresh nd)⟩
  · by_cases hb : b = e
    · have q' : G'.get? b = some o := q
      rw [hb, ge] at q'; cases q'
    · exact (gk b hb).symm.trans q
  · rw [upd_ne (Ne.symm dne)]
    exact I1.hok.fresh ne
end
/-! ### raise -/
/-- raise C('..') -/
def sRai (c : Str) : Sv := fun Γ S => .exc c .non Γ S
/-- raise C(e), C keeps e -/
def sRaiV (c : Str) (a : Ev) : Sv := fun Γ S => (a Γ S).fl Γ fun x S1 => match x with | .d d => .exc c d Γ S1 | _ => .bad
/-- what the written part says of a class over ValueError without an own __init__ -/
structure ExC0 (g : Gx) (K : Frag) (mg : Str → Option Value) (x : Str) (C : Addr) : Prop where
  gC : mg x = some (.ref C)
  cl : g.cl x = some C
  fl : g.fld x = ""
  ex : excIn K C [.type "ValueError", .type "Exception", .type "BaseException", .type "object"] "ValueError.__new__" = true
  kC : keepIn K (.ref C) = true
  bC : subIn K (.ref C) (.type "BaseException") = some true
  tC : typeIn K (.ref C) = some (.type "type")
structure ExCV (g : Gx) (P : Program) (K : Frag) (mg : Str → Option Value) (x : Str) (C fI : Addr) : Prop where
  cl : g.cl x = some C
  ne : g.fld x ≠ ""
  fo : FldOk (g.fld x)
  T : ∃ B newId initId bmB, XTxt P K mg x (g.fld x) C fI B newId initId bmB
section
variable {X : Cx} {cf : Cf} {x : Str} {C fI : Addr}
theorem s_rai {m : Str} {j : Nat} {p p2 p3 pos : Pos} (T : ExC0 cf.g X.K X.mg x C) (hc : X.calm = true) (tk : Takes X cf.W) (hg : Gl X x) (hdb : (x == ("__debug__" : Str)) = false := by decide) :
    PS X (.Raise (some (.Call (.Name x p) [.Constant (.str m) j p2] [] p3)) none pos) (tS cf (sRai x)) :=
  (ps_raise hc tk (pmk_own PySem.F.excBase_ValueError T.ex T.gC T.kC (raises_own T.bC T.tC) hg hdb)).imp fun D σ H ⟨w, Γ, S, st, en, fr, h⟩ =>
    h σ (.ref C) none w H (.refl w H) fr st en ⟨C, T.cl, rfl, .inl ⟨T.fl, rfl, rfl⟩⟩
theorem s_raiV {a : Expr} {ea : Ev} {p p3 pos : Pos} {k : Nat} (T : ExCV cf.g X.prog X.K X.mg x C fI) (hc : X.calm = true) (tk : Takes X cf.W) (hr : Room k X.A) (ha : PE X a (tE cf.g cf.W ea)) (hg : Gl X x) (hdb : (x == ("__debug__" : Str)) = false := by decide)
    (hs : starEach [a] X.env = (false, eval a X.env) :: starEach [] X.env := by rfl) : PS X (.Raise (some (.Call (.Name x p) [a] [] p3)) none pos) (tS cf (sRaiV x ea)) := by
  obtain ⟨B, newId, initId, bmB, T1⟩ := T.T
  refine (ps_raise hc tk (pmk_x T1 T.fo hr ha hg hdb hs)).imp fun D σ H ⟨w, Γ, S, st, en, fr, h⟩ => ?_
  refine tX_fl st en fr h fun v H1 y S1 w1 s1 st1 en1 fr1 r1 h1 d hd => ?_
  cases y with
  | cell k => exact h1.elim
  | d y =>
    have l := le_new (o := HO.xd [(cf.g.fld x, v)]) st1 hd
    have sn := step_new (o := HO.xd [(cf.g.fld x, v)]) st1 hd
    exact h1 σ (.ref C) (some d) w1 _ l (fr1.stp sn) (st1.new hd) (en1.step sn) ⟨C, T.cl, rfl, .inr ⟨T.ne, d, v, rfl, upd_same, st1.nav hd, Rep.le l r1⟩⟩
end
end Pd

set_option maxHeartbeats 2000000
/-! try with several clauses, some of which bind what they caught -/
namespace Pd
open PySem PySem.Spec PyProof.Rows L2
abbrev Suite := Addr → Value → Option Addr → TS
/-- one clause: the class that it names, the slot that it binds, its suite -/
abbrev Clause := Value × Option Nat × Suite
/-- what a clause's suite is asked -/
def clAsk (c : Clause) (a : Addr) (cls : Value) (d : Option Addr) (D : Ends) (σ : L2.St) (H : Hp) : Prop := match c.2.1 with
  | none => c.2.2 a cls d D σ H
  | some i => c.2.2 a cls d ⟨fun σ' H' => D.nx (σ'.set i none) H', D.rt, fun σ' H' => D.bk (σ'.set i none) H', fun σ' H' => D.ct (σ'.set i none) H'⟩ (σ.set i (some (.ref a))) H
/-- what the clauses wish of an exception, the first that fits -/
def wCl (K : PySem.W.Frag) (Wo : WX) (D : Ends) : List Clause → WX
  | [] => Wo
  | c :: r => fun cls d σ H => ∃ b, PySem.W.exmOne K cls c.1 = some b ∧ (b = true → ∀ a, H a = none → clAsk c a cls d D σ H) ∧ (b = false → wCl K Wo D r cls d σ H)
inductive ClsOk (X : Cx) : List ExceptHandler → List Clause → Prop
  | nil : ClsOk X [] []
  | plain {x : Str} {c : Value} {ts : Suite} {st : Stmt} {sts : List Stmt} {p p' : Pos} {hs : List ExceptHandler} {l : List Clause} (hc : Names X x c)
      (hb : ∀ (a : Addr) (oe : Obj) (cls : Value) (d : Option Addr) (pn : List (Addr × Obj)), Zc cls d oe → (∃ vs, oe.data = .fields vs) → PSs (X.suite a ((a, oe) :: pn)) (st :: sts) (ts a cls d)) (r : ClsOk X hs l) :
      ClsOk X (.ExceptHandler (some (.Name x p)) none (st :: sts) p' :: hs) ((c, none, ts) :: l)
  | bind {x n : Str} {i : Nat} {c : Value} {ts : Suite} {st : Stmt} {sts : List Stmt} {p p' : Pos} {hs : List ExceptHandler} {l : List Clause} (hc : Names X x c) (hi : X.N[i]? = some n) (hl : X.env.kindOf n = some .local)
      (hb : ∀ (a : Addr) (oe : Obj) (cls : Value) (d : Option Addr) (pn : List (Addr × Obj)), Zc cls d oe → (∃ vs, oe.data = .fields vs) → PSs (X.suite a ((a, oe) :: pn)) (st :: sts) (ts a cls d)) (r : ClsOk X hs l) :
      ClsOk X (.ExceptHandler (some (.Name x p)) (some n) (st :: sts) p' :: hs) ((c, some i, ts) :: l)
section
variable {X : Cx} {body : List Stmt} {hs : List ExceptHandler} {l : List Clause} {pos : Pos} {tb : WX → TS} {Wo : WX}
/-- an exception that flies is looked at by the clauses -/
theorem cl_go (stk : X.stack = X.env :: X.outer) (fr : X.env.frame = some X.env.locals) (nd : X.N.Nodup) (tk : Takes X Wo) {pins : List (Addr × Obj)} {D : Ends} {a : Addr} {B : Heap} {sI s3 : Shared} {σ : L2.St} {H : Hp} {cls : Value} {d : Option Addr}
    (J : L2.Inv X pins σ H sI) (nb : ∀ b o, sI.heap.get? b = some o → b ∉ frs X.stack → B.get? b = some o) (up : sI.heap.UpToSlots s3.heap) (fl : HandSPX.FlyingZ B (X.env :: X.outer) a (Zc cls d) s3.heap) (na : H a = none) (os : s3.os = sI.os) (ag : AllBare s3.gens)
    (ok : ClsOk X hs l) (w : wCl X.K Wo D l cls d σ H) : wpAny (model X.prog X.w) X.A (handleBy (.ref a) X.env hs) (SP X pins D) X.xe s3 := by
  have xo := J.ok
  obtain ⟨hp, gs, dr, tks, oss⟩ := s3
  have J3 : L2.Inv X pins σ H ⟨hp, gs, dr, tks, oss⟩ := J.landed nb fl.1 up os ag
  obtain ⟨oe, vs, he, hz, hd⟩ := fl.there
  have notFr : ∀ {h : Heap} {o : Obj} {us : Array Value}, h.FunFrames B (X.env :: X.outer) → h.get? a = some o → o.data = .fields us → a ∉ frs (X.env :: X.outer) := fun {h o us} ff e dd z => by
    obtain ⟨_, o', e', no⟩ := ff.mem z
    rw [e] at e'
    cases e'
    exact no _ dd
  have nfr := notFr fl.2.2.1 he hd
  have nL : a ≠ X.env.locals := fun z => nfr (List.mem_filterMap.mpr ⟨X.env, List.mem_cons_self, by rw [fr, z]⟩)
  have nF : a ∉ X.fs := fun z => by
    obtain ⟨e, h1, h2⟩ := List.mem_filterMap.mp z
    exact nfr (List.mem_filterMap.mpr ⟨e, List.mem_cons_of_mem _ h1, h2⟩)
  -- does the clause name its class?
  have asked : ∀ {x : Str} {p : Pos} {c : Value} {b : Bool} {Q : Bool → Shared → Prop} {E : Value → Shared → Prop}, Names X x c → PySem.W.exmOne X.K cls c = some b → Q b ⟨hp, gs, dr, tks, oss⟩ →
      wpAny (model X.prog X.w) (X.A.mark (some (.ref a))) (eval (.Name x p) X.env) (fun t s1 => wpAny (model X.prog X.w) (X.A.mark (some (.ref a))) (excMatches (.ref a) t) Q E s1) E ⟨hp, gs, dr, tks, oss⟩ := fun {x p c b Q E} hn hb q => by
    have S3 := J3.suite he hd na nL nF
    have LT : PySem.W.Looks (model X.prog X.w) hp (typeOf (.ref a)) cls := fun A Q E s k q => wpAny_typeOf_ref (k _ _ he) (by rw [hz.1]; exact q)
    have LM := PySem.W.exm_one (M := model X.prog X.w) J3.kIn LT hb
    obtain ⟨hg, hdb, hm | ⟨hm, hv, hnn⟩⟩ := hn
    · exact ld_glob (X := X.suite a ((a, oe) :: (X.pn ++ pins))) S3 hg hm (LM.here q) hdb
    · exact ld_blt (X := X.suite a ((a, oe) :: (X.pn ++ pins))) S3 hg hm hv (LM.here q) hnn hdb
  -- the exception in hand, within a suite
  have suite : ∀ (h4 : Heap), HandSPX.FlyingZ B (X.env :: X.outer) a (Zc cls d) h4 → hp.UpToSlots h4 → ∃ oe4, Zc cls d oe4 ∧ (∃ us, oe4.data = .fields us) ∧ L2.Inv (X.suite a ((a, oe4) :: (X.pn ++ pins))) [] σ H ⟨h4, gs, dr, tks, oss⟩ := fun h4 fl4 up4 => by
    have J4 : L2.Inv X pins σ H ⟨h4, gs, dr, tks, oss⟩ := J.landed nb fl4.1 (up.trans up4) os ag
    obtain ⟨oe4, vs4, he4, hz4, hd4⟩ := fl4.there
    exact ⟨oe4, hz4, ⟨_, hd4⟩, J4.suite he4 hd4 na nL nF⟩
  induction ok with
  | nil =>
    refine wpAny_handleBy_nil ?_
    obtain ⟨_, _, _, oo, us, T, oT, ts', ho, _, hod, h1, _⟩ := id fl
    unfold PySem.passOn
    refine wpAny_bind (wpAny_field ho hod h1 ?_)
    rw [if_neg (show ¬ ((Value.ref T == Value.none) = true) from by simp)]
    have out : wpAny (model X.prog X.w) X.A (setFlight (.ref a) X.env.frame) (fun _ s4 => wpAny (model X.prog X.w) X.A (throw (.ref a) : Sem Flow) (SP X pins D) X.xe s4) X.xe ⟨hp, gs, dr, tks, oss⟩ := by
      rw [fr]
      refine HandSPX.setFlight_upZ fl fun h4 fl4 up4 => wpAny_throw (tk _ _ ⟨a, B, sI, pins, σ, H, cls, d, rfl, J, nb, up.trans up4, .inr (.inr (by rw [stk]; exact fl4)), na, os, ag, w⟩)
    first
      | exact wpAny_bind (wpAny_pure (wpAny_bind out))
      | exact wpAny_bind out
  | plain hc hb r ih =>
    obtain ⟨b, hb1, yes, no⟩ := w
    refine wpAny_handleBy_cons (codeAny_handlers_test (asked hc hb1 ?_)) (by intro q; cases q)
    cases b with
    | false => exact ih (no rfl)
    | true =>
      refine codeAny_handlers_suite (HandSPX.lands_againZ fl fun h4 fl4 up4 => ?_)
      obtain ⟨oe4, z1, z2, S4⟩ := suite h4 fl4 up4
      refine wpAny_mono ((hb a oe4 cls d (X.pn ++ pins) z1 z2).run [] _ _ H _ S4 (yes rfl a na)) (fun f s6 q => ?_) (fun _ _ z => z.elim)
      cases f with
      | ret u =>
        obtain ⟨v6, σ6, H6, S6, r6, q6⟩ := q
        exact ⟨_, _, _, S6.unsuite xo, r6, q6⟩
      | next => exact q.imp fun σ6 q => q.imp fun H6 q => ⟨q.1.unsuite xo, q.2⟩
      | brk => exact q.imp fun σ6 q => q.imp fun H6 q => ⟨q.1.unsuite xo, q.2⟩
      | cont => exact q.imp fun σ6 q => q.imp fun H6 q => ⟨q.1.unsuite xo, q.2⟩
  | @bind x n i c ts st sts p p' hs l hc hi hl hb r ih =>
    obtain ⟨b, hb1, yes, no⟩ := w
    refine wpAny_handleBy_cons (codeAny_handlers_test (asked hc hb1 ?_)) (by intro q; cases q)
    cases b with
    | false => exact ih (no rfl)
    | true =>
      refine codeAny_handlers_suite_as (HandSPX.lands_againZ fl fun h4 fl4 up4 => ?_)
      obtain ⟨oe4, z1, z2, S4⟩ := suite h4 fl4 up4
      refine store_ok (X := X.suite a ((a, oe4) :: (X.pn ++ pins))) (v := .ref a) S4 nd hi (.inl hl) rfl (fun s5 S5 => ?_) (.inr hl)
      refine wpAny_mono ((hb a oe4 cls d (X.pn ++ pins) z1 z2).run [] s5 _ H _ S5 (yes rfl a na)) (fun f s6 q => ?_) (fun _ _ z => z.elim)
      have back : ∀ {σ6 : L2.St} {H6 : Hp} {Q : Shared → Prop}, L2.Inv (X.suite a ((a, oe4) :: (X.pn ++ pins))) [] σ6 H6 s6 → (∀ s7, L2.Inv X pins (σ6.set i none) H6 s7 → Q s7) →
          wpAny (model X.prog X.w) X.A (do bindName X.env n .none; unbindBehindTheSuite X.env n p') (fun _ s7 => Q s7) X.xe s6 := fun {σ6 H6 Q} S6 k => gone_ok (S6.unsuite xo) nd hi hl k
      cases f with
      | next =>
        obtain ⟨σ6, H6, S6, q6⟩ := q
        exact back S6 fun s7 J7 => ⟨_, _, J7, q6⟩
      | brk =>
        obtain ⟨σ6, H6, S6, q6⟩ := q
        exact back S6 fun s7 J7 => ⟨_, _, J7, q6⟩
      | cont =>
        obtain ⟨σ6, H6, S6, q6⟩ := q
        exact back S6 fun s7 J7 => ⟨_, _, J7, q6⟩
      | ret u =>
        obtain ⟨v6, σ6, H6, S6, r6, q6⟩ := q
        exact back S6 fun s7 J7 => ⟨_, _, _, J7, r6, q6⟩
/-- try: body / except X: .. / except Y as n: .. -/
theorem ps_clauses {h0 : ExceptHandler} (stk : X.stack = X.env :: X.outer) (fr : X.env.frame = some X.env.locals) (nd : X.N.Nodup) (tk : Takes X Wo)
    (hb : ∀ (W : WX) (pn : List (Addr × Obj)) (xe : Value → Shared → Prop), Takes (X.tr pn xe) W → PassesOwn (model X.prog X.w) X.A X.env xe → PSs (X.tr pn xe) body (tb W)) (hh : ClsOk X (h0 :: hs) l) :
    PS X (.Try body (h0 :: hs) [] [] pos) (fun D σ H => tb (fun cls d σ' H' => σ'.length = X.N.length → wCl X.K Wo D l cls d σ' H') D σ H) := by
  refine ⟨fun pins s σ H D I h => wpAny_Try_except ?_⟩
  have xo := I.ok
  have hfr : X.A.frames = some (X.env :: X.outer) := by rw [xo.frames, stk]
  refine wpAny_mono ((hb (fun cls d σ' H' => σ'.length = X.N.length → wCl X.K Wo D l cls d σ' H') (X.pn ++ pins) _ (fun u s' xx => ?_) PassesOwn.looking).run [] s σ H D (I.toTry _) h) (fun f s1 q => ?_) (fun e s1 z => z)
  · obtain ⟨a, B, sI, pins', σ', H', cls, d, rfl, J', nb, up, sky, na, os, ag, w⟩ := xx
    have sky' : Sky B (X.env :: X.outer) a (Zc cls d) X.env.locals s'.heap := by rw [← stk]; exact sky
    exact Sky.land Zc.steady hfr fr sky' fun h3 fl3 up3 => cl_go stk fr nd tk (J'.ofTry xo) nb (up.trans up3) fl3 na os ag hh (w J'.len)
  · cases f with
    | ret u =>
      obtain ⟨v, σ', H', J', r, q⟩ := q
      exact ⟨v, σ', H', J'.ofTry xo, r, q⟩
    | next =>
      obtain ⟨σ', H', J', q⟩ := q
      exact wpAny_execs_nil ⟨σ', H', J'.ofTry xo, q⟩
    | brk => exact q.imp fun σ' q => q.imp fun H' q => ⟨q.1.ofTry xo, q.2⟩
    | cont => exact q.imp fun σ' q => q.imp fun H' q => ⟨q.1.ofTry xo, q.2⟩
end
end Pd

set_option maxHeartbeats 2000000
/-! a def that calls what it got and tells its error; the call of it with a lambda -/
namespace Pd
open PySem PySem.Spec PyProof.Rows L2 LamX
/-- one clause of the teller: the class x at C, the field that is told ("" : none), the text -/
structure Row where
  x : Str
  C : Addr
  f : Str
  t : Str
/-- what is told of an error of a row -/
def tellQ (r : Row) (cls : Value) (d : Option Addr) (Q : VK) (H : Hp) : Prop :=
  if r.f = "" then Q (.str r.t) H else cls = .ref r.C ∧ ∃ (dd : Addr) (fs : List (Str × V)) (v : V), d = some dd ∧ H dd = some (.xd fs) ∧ fs.lookup r.f = some v ∧ rRepr [v] H fun y H' => ∃ s, y = .str s ∧ r.t.length + s.length ≤ sizeLine ∧ Q (.str (r.t ++ s)) H'
/-- what the rows wish of an error -/
def wRows (K : PySem.W.Frag) (Q : VK) : List Row → Value → Option Addr → Hp → Prop
  | [], _, _, _ => False
  | r :: l, cls, d, H => ∃ b, PySem.W.exmOne K cls (.ref r.C) = some b ∧ (b = true → tellQ r cls d Q H) ∧ (b = false → wRows K Q l cls d H)
/-- the suite of a row: slot 1 is what it binds -/
def rowSuite (r : Row) : Suite := fun a cls d D σ H => (r.f = "" ∨ σ[1]? = some (some (.ref a))) ∧ tellQ r cls d D.rt H
def rowCl (r : Row) : Clause := (.ref r.C, if r.f = "" then none else some 1, rowSuite r)
inductive RowsOk (X : Cx) : List ExceptHandler → List Row → Prop
  | nil : RowsOk X [] []
  | plain {x t : Str} {C : Addr} {j : Nat} {p p1 p2 p3 : Pos} {hs : List ExceptHandler} {l : List Row} (hg : Gl X x) (hm : X.mg x = some (.ref C)) (hd : (x == ("__debug__" : Str)) = false) (r : RowsOk X hs l) :
      RowsOk X (.ExceptHandler (some (.Name x p)) none [.Return (some (.Constant (.str t) j p1)) p2] p3 :: hs) (⟨x, C, "", t⟩ :: l)
  | keeps {x n f t : Str} {C : Addr} {j : Nat} {p p1 p2 p3 p4 p5 p6 p7 p8 : Pos} {hs : List ExceptHandler} {l : List Row} (hg : Gl X x) (hm : X.mg x = some (.ref C)) (hd : (x == ("__debug__" : Str)) = false) (hf : f ≠ "") (T : XfC X.K C) (hno : PySem.W.findIn X.K (.ref C) f = some none)
      (hi : X.N[1]? = some n) (hl : X.env.kindOf n = some .local) (hd2 : (n == ("__debug__" : Str)) = false) (hcd : (n == ("__classdict__" : Str)) = false) (hat : ∀ env : PySem.Env, attributeBase (.Name n p3) f env (eval (.Name n p3) env) = eval (.Name n p3) env) (r : RowsOk X hs l) :
      RowsOk X (.ExceptHandler (some (.Name x p)) (some n) [.Return (some (.BinOp (.Constant (.str t) j p1) .Add (.Call (.Name "repr" p2) [.Attribute (.Name n p3) f p4] [] p5) p6)) p7] p8 :: hs) (⟨x, C, f, t⟩ :: l)
theorem rRepr_mono {xs : List V} {H : Hp} {Q Q' : VK} (h : rRepr xs H Q) (i : ∀ v, Q v H → Q' v H) : rRepr xs H Q' := by
  rcases h with ⟨a, q⟩ | ⟨b, a, q⟩ | ⟨b, a, z, q⟩ | ⟨b, a, z, q⟩
  · exact .inl ⟨a, i _ q⟩
  · exact .inr (.inl ⟨b, a, i _ q⟩)
  · exact .inr (.inr (.inl ⟨b, a, z, i _ q⟩))
  · exact .inr (.inr (.inr ⟨b, a, z, i _ q⟩))
section
variable {X : Cx}
theorem RowsOk.cl (hrp : Gl X "repr") (hmr : X.mg "repr" = none) {hs : List ExceptHandler} {l : List Row} (h : RowsOk X hs l) : ClsOk X hs (l.map rowCl) := by
  induction h with
  | nil => exact .nil
  | @plain x t C j p p1 p2 p3 hs l hg hm hd r ih =>
    refine .plain ⟨hg, hd, .inl hm⟩ (fun a oe cls d pn hz hf => (pss_one (ps_ret pe_str)).imp fun D σ H ⟨_, q⟩ => ?_) ih
    unfold tellQ at q
    rw [if_pos rfl] at q
    exact q
  | @keeps x n f t C j p p1 p2 p3 p4 p5 p6 p7 p8 hs l hg hm hd hf T hno hi hl hd2 hcd hat r ih =>
    have e : rowCl ⟨x, C, f, t⟩ = (.ref C, some 1, rowSuite ⟨x, C, f, t⟩) := by
      show (Value.ref C, (if f = "" then none else some 1), rowSuite ⟨x, C, f, t⟩) = _
      rw [if_neg hf]
    show ClsOk X _ (rowCl ⟨x, C, f, t⟩ :: List.map rowCl l)
    rw [e]
    refine .bind ⟨hg, hd, .inl hm⟩ hi hl (fun a oe cls d pn hz hfs => ?_) ih
    have pv : PE (X.suite a ((a, oe) :: pn)) (.Name n p3) (tVar 1) := pe_var (i := 1) hi (.inl hl) hd2 hcd
    have px := pe_xf (pos := p4) T hno hz hfs pv (hat _)
    have pr := pe_callB (X := X.suite a ((a, oe) :: pn)) (id := "repr") (p := p2) (pos := p5) cr_repr hrp hmr (by decide +kernel) (pa_cons px pa_nil) (by decide) (by decide)
    refine (pss_one (ps_ret (pos := p7) (pe_op (pos := p6) op_add_str (pe_str (x := t) (j := j) (pos := p1)) pr))).imp fun D σ H ⟨z, q⟩ => ?_
    unfold tellQ at q
    rw [if_neg hf] at q
    obtain ⟨e1, dd, fs, v, e2, e3, e4, q⟩ := q
    have z1 : σ[1]? = some (some (V.ref a)) := z.elim (fun z => absurd z hf) id
    refine ⟨.ref a, z1, rfl, e1, dd, fs, v, e2, e3, e4, ?_⟩
    show rRepr [v] H fun y H2 => ∃ i j, V.str t = .str i ∧ y = .str j ∧ i.length + j.length ≤ sizeLine ∧ D.rt (.str (i ++ j)) H2
    exact rRepr_mono q fun y ⟨s, e, le, q⟩ => ⟨t, s, rfl, e, le, q⟩
/-- what the teller makes of the reading of what it calls -/
def TTm (K : PySem.W.Frag) (l : List Row) (no : Str) : (XK → Hp → VK → Prop) → Hp → VK → Prop := fun tl H Q => tl (fun cls d H' => wRows K Q l cls d H') H (fun _ H' => Q (.str no) H')
theorem wRows_cl {K : PySem.W.Frag} {D : Ends} {Q : VK} (hD : D.rt = Q) {σ : L2.St} (hσ : 1 < σ.length) {cls : Value} {d : Option Addr} {H : Hp} : ∀ {l : List Row}, wRows K Q l cls d H → wCl K (fun _ _ _ _ => False) D (l.map rowCl) cls d σ H
  | [], h => h
  | r :: l, ⟨b, e, yes, no⟩ => by
    refine ⟨b, e, fun hb a na => ?_, fun hb => wRows_cl hD hσ (no hb)⟩
    have q := yes hb
    by_cases hf : r.f = ""
    · show clAsk (.ref r.C, (if r.f = "" then none else some 1), rowSuite r) a cls d D σ H
      rw [if_pos hf]
      exact ⟨.inl hf, by rw [hD]; exact q⟩
    · show clAsk (.ref r.C, (if r.f = "" then none else some 1), rowSuite r) a cls d D σ H
      rw [if_neg hf]
      exact ⟨.inr (List.getElem?_set_self hσ), by rw [hD]; exact q⟩
/-- def x(a): try: a() / except ..: / return no -/
theorem met_gives {Ng : List Str} {x a q no : Str} {sg : Scope} {g : Addr} {cdg : Value} {j : Nat} {p1 p2 p3 p4 p5 p6 : Pos} {h0 : ExceptHandler} {hs : List ExceptHandler} {l : List Row}
    (hN : Ng.Nodup) (h0' : ∀ f : Addr, (L2.start Ng [V.ref f])[0]? = some (some (V.ref f))) (h1 : 1 < Ng.length)
    (hr : ∀ (s : Shared) (H : Hp), RowsOk (cxOf C8.CX0 X.prog X.w X.K X.mg X.base Ng x sg g cdg X.A X.stack s H C8.E0).nox (h0 :: hs) l) (hrp : sg.names.lookup ("repr" : Str) = some .globalImplicit) (hmr : X.mg "repr" = none)
    (hsw : ∀ (s : Shared) (H : Hp), swapsWith (.Call (.Name a p1) [] [] p2) none p3.line (cxOf C8.CX0 X.prog X.w X.K X.mg X.base Ng x sg g cdg X.A X.stack s H C8.E0).env = pure false) :
    GivesTo X Ng x sg g cdg [.Try [.Expr (.Call (.Name a p1) [] [] p2) p3] (h0 :: hs) [] [] p4, .Return (some (.Constant (.str no) j p5)) p6] a q (TTm X.K l no) := by
  intro f c' s H Q tl act hc h
  have hgl : Gl (cxOf C8.CX0 X.prog X.w X.K X.mg X.base Ng x sg g cdg X.A X.stack s H C8.E0).nox "repr" := hrp
  have P1 := ps_clauses (X := (cxOf C8.CX0 X.prog X.w X.K X.mg X.base Ng x sg g cdg X.A X.stack s H C8.E0).nox) (pos := p4) (Wo := fun _ _ _ _ => False)
      (tb := fun W D σ H => ∃ Ech : XK, (∀ cls d σ' H', Ech cls d H' → W cls d σ' H') ∧ σ[0]? = some (some (.ref f)) ∧ H c' = some (CodeO c' q) ∧ tl Ech H (fun _ H' => D.nx σ H'))
      (body := [.Expr (.Call (.Name a p1) [] [] p2) p3]) rfl rfl hN LamX.takes0 (fun W pn xe tk _ => ?_) ((hr s H).cl hgl hmr)
  · refine ⟨_, pss_cons P1 (pss_one (ps_ret (pos := p6) (pe_str (x := no) (j := j) (pos := p5)))), ?_⟩
    exact ⟨fun cls d H' => wRows X.K Q l cls d H', fun cls d σ' H' w hl => wRows_cl rfl (by rw [hl]; exact h1) w, h0' f, hc, h⟩
  · refine ⟨fun pins s' σ H' D I h' => ?_⟩
    obtain ⟨Ech, hW, e1, e2, e3⟩ := h'
    exact (pss_one (ps_expr (pos := p3) (act W pn xe Ech p1 p2 tk hW) (hsw s H))).run pins s' σ H' D I ⟨e1, e2, e3⟩
end
/-! ### the teller's denotation -/
/-- how an error is told: the classes, whether what they keep is told, the texts -/
def tellD : List (Str × Bool × Str) → Str → D → Store → R Val
  | [], _, _, _ => .bad
  | (y, k, t) :: r, c, x, S => if c = y then (if k = true then (fRepr (.d x) S).bind fun z S1 => match z with
      | .d (.str s) => if t.length + s.length ≤ cap then .ok (.d (.str (t ++ s))) S1 else .bad
      | _ => .bad
    else .ok (.d (.str t)) S) else tellD r c x S
/-- told: none, or the error -/
def eMet (tbl : List (Str × Bool × Str)) (no : Str) (a : Ev) : Ev := fun Γ S => match a Γ S with
  | .ok _ S1 => .ok (.d (.str no)) S1
  | .exc c x S1 => tellD tbl c x S1
  | .bad => .bad
def rowT (r : Row) : Str × Bool × Str := (r.x, decide (r.f ≠ ""), r.t)
structure RowG (g : Gx) (r : Row) : Prop where
  cl : g.cl r.x = some r.C
  fl : g.fld r.x = r.f
  ex : PySem.W.exmOne g.K (.ref r.C) (.ref r.C) = some true
structure RowsG (g : Gx) (l : List Row) : Prop where
  all : ∀ r ∈ l, RowG g r
  two : l.Pairwise fun r r' => PySem.W.exmOne g.K (.ref r'.C) (.ref r.C) = some false
theorem tellD_off {c : Str} {x : D} {S : Store} : ∀ {l : List Row}, (∀ r ∈ l, c ≠ r.x) → tellD (l.map rowT) c x S = .bad
  | [], _ => rfl
  | r :: l, h => by
    show (if c = r.x then _ else tellD (l.map rowT) c x S) = _
    rw [if_neg (h r List.mem_cons_self)]
    exact tellD_off fun r' hr => h r' (List.mem_cons_of_mem _ hr)
theorem tell_q {g : Gx} {W : WX} {w : Wd} {σ : L2.St} {H : Hp} {S : Store} {c : Str} {x : D} {cls : Value} {dx : Option Addr} {Q : VK} (st : StOk g w S H) (er : ExcRep g w H c x cls dx) : ∀ {l : List Row}, RowsG g l → RQ g W (RepV g) w σ H (tellD (l.map rowT) c x S) Q → wRows g.K Q l cls dx H
  | [], _, h => h.elim
  | r :: l, G, h => by
    have h' : RQ g W (RepV g) w σ H (if c = r.x then (if decide (r.f ≠ "") = true then (fRepr (.d x) S).bind fun z S1 => match z with
      | .d (.str s) => if r.t.length + s.length ≤ cap then .ok (.d (.str (r.t ++ s))) S1 else .bad
      | _ => .bad
    else .ok (.d (.str r.t)) S) else tellD (l.map rowT) c x S) Q := h
    have two := List.pairwise_cons.mp G.two
    obtain ⟨C, e1, e2, e3⟩ := id er
    by_cases hc : c = r.x
    · have RG := G.all r List.mem_cons_self
      rw [if_pos hc] at h'
      rw [hc, RG.cl] at e1
      cases e1
      rw [hc, RG.fl] at e3
      refine ⟨true, by rw [e2]; exact RG.ex, fun _ => ?_, (fun z => by cases z)⟩
      unfold tellQ
      by_cases hf : r.f = ""
      · rw [if_neg (by simp [hf])] at h'
        rw [if_pos hf]
        exact RQ.okQ h' st (.str _)
      · rw [if_pos (by simp [hf])] at h'
        rw [if_neg hf]
        rcases e3 with ⟨z, _⟩ | ⟨_, d, v, z1, z2, z3, z4⟩
        · exact absurd z hf
        · refine ⟨e2, d, _, v, z1, z2, by simp [List.lookup], ?_⟩
          have key := c1_repr (g := g) W w S H σ (.d x) v
          refine rRepr_mono (key (fun y H' => ∃ s, y = .str s ∧ r.t.length + s.length ≤ sizeLine ∧ Q (.str (r.t ++ s)) H') st z4 ?_) fun _ q => q
          revert h'
          cases fRepr (.d x) S with
          | bad => exact id
          | exc c x S1 => exact id
          | ok z S1 =>
            intro h' v' w' H' s' st' r'
            have h2 := RQ.to (r := match z with
              | .d (.str s) => if r.t.length + s.length ≤ cap then R.ok (Val.d (.str (r.t ++ s))) S1 else .bad
              | _ => .bad) h' s'
            split at h2
            · rename_i s
              split at h2
              · rename_i hl
                cases r'
                exact ⟨s, rfl, cap_le hl, RQ.okQ h2 st' (.str _)⟩
              · exact h2.elim
            · exact h2.elim
    · rw [if_neg hc] at h'
      have G' : RowsG g l := ⟨fun r' hr => G.all r' (List.mem_cons_of_mem _ hr), two.2⟩
      have rest := tell_q st er G' h'
      refine ⟨false, ?_, (fun z => by cases z), fun _ => rest⟩
      by_cases hx : ∃ r' ∈ l, c = r'.x
      · obtain ⟨r', hr, ec⟩ := hx
        rw [ec, (G.all r' (List.mem_cons_of_mem _ hr)).cl] at e1
        cases e1
        rw [e2]
        exact two.1 r' hr
      · rw [tellD_off fun r' hr z => hx ⟨r', hr, z⟩] at h'
        exact h'.elim
/-! ### the call with a lambda -/
section
variable {X : Cx} {pins : List (Addr × Obj)} {σ : L2.St} {H : Hp} {s : Shared}
/-- the name that a lambda of X's def bears -/
abbrev lamQ (X : Cx) : Str := X.env.qual ++ "<lambda>"
abbrev lamO (X : Cx) (params : Arguments) (body : Expr) (scope : Scope) (pm : Value) (c' : Addr) (ctv : Value) : Obj := PySem.W.kla_obj "<lambda>" (X.env.qual ++ "<lambda>") params body scope (cloFrom X.env.cells scope.names []) pm c' ctv
/-- the heap behind a lambda whose code object is new -/
def lamH (H : Hp) (P : Addr) (ps : Array Value) (c' : Addr) (q : Str) : Hp := upd (upd H P (.tbl ps)) c' (CodeO c' q)
theorem lam_made {c P : Addr} {ps : Array Value} {params : Arguments} {body : Expr} {scope : Scope} {pos : Pos} {E : Value → Shared → Prop} {Q : Value → Shared → Prop} (I : L2.Inv X pins σ H s) (TB : TabB X.base X.mg c P) (hcode : X.env.code = .ref c)
    (hP : H P = some (.tbl ps)) (ht : TriplesOk ps.toList) (ha : ∀ (pos : Pos) (cv : Value), codeAmong pos ps.toList = some cv → ∃ d, cv = .ref d ∧ H d = some (CodeO d (lamQ X))) (hdef : defaultsOf params X.env = ([], [])) (hfree : ∀ y ∈ scope.names, y.2 = .free → ∃ c, X.env.cells.lookup y.1 = some c)
    (old : ∀ (f c' : Addr) (pm ctv : Value) (s' : Shared), L2.Inv X pins σ H s' → s'.heap.get? f = some (lamO X params body scope pm c' ctv) → H f = none → f ∉ frs X.stack → H c' = some (CodeO c' (lamQ X)) → Q (.ref f) s')
    (new : ∀ (f c' : Addr) (pm ctv : Value) (s' : Shared) (more : Array Value), H c' = none → TriplesOk (ps ++ more).toList → (∀ (p : Pos) (cv : Value), codeAmong p (ps ++ more).toList = some cv → codeAmong p ps.toList = some cv ∨ cv = .ref c') →
      L2.Inv X pins σ (lamH H P (ps ++ more) c' (lamQ X)) s' → s'.heap.get? f = some (lamO X params body scope pm c' ctv) → lamH H P (ps ++ more) c' (lamQ X) f = none → f ∉ frs X.stack → Q (.ref f) s') :
    wpAny (model X.prog X.w) X.A (eval (.Lambda params body scope pos) X.env) Q E s := by
  refine PySem.W.kla_eval hdef ?_
  have bP := TB.bm.keeps I.bk
  have hP' : s.heap.get? P = some { cls := .none, data := .fields ps } := I.hok P _ hP
  have nofr : ∀ f, s.heap.objs.size ≤ f → f ∉ frs X.stack := fun f hf z => by
    rcases List.mem_cons.mp (I.stkSub _ z) with e | e
    · exact Nat.lt_irrefl _ (Nat.lt_of_lt_of_le (e ▸ I.lt) hf)
    · exact I.nofs hf e
  cases hc : codeAmong pos ps.toList with
  | some cv =>
    obtain ⟨c', e, hco⟩ := ha pos cv hc
    subst e
    refine PySem.W.kla_makeFunctionHit (mg := X.mg) (c := c) (P := P) (ps := ps) (closure_ok hfree) I.ok.glob (I.mod.glob.keeps I.bk) hcode (TB.code.keeps I.bk) hP' ht hc bP fun ctv h' tk hx hsz => ?_
    exact old h'.objs.size c' ((X.mg "__name__").getD .none) ctv _ (I.kept fun b o e => Heap.get?_push_of_some _ (hx b o e)) (Heap.get?_push_size _ rfl) (I.hok.fresh hsz) (nofr _ hsz) hco
  | none =>
    refine PySem.W.kla_makeFunction (mg := X.mg) (c := c) (P := P) (ps := ps) (closure_ok hfree) I.ok.glob (I.mod.glob.keeps I.bk) hcode (TB.code.keeps I.bk) hP' ht hc TB.gP bP fun c' ctv h' tk hx hge hlt hrec htb => ?_
    obtain ⟨c2, oc, vs, t, e2, hoc, hd, hv⟩ := hrec
    cases e2
    have hsz : s.heap.objs.size ≤ h'.objs.size := Nat.le_trans hge (Nat.le_of_lt hlt)
    have eL : (ps ++ #[rawInt pos.line, rawInt pos.col, .ref c']).toList = ps.toList ++ [rawInt pos.line, rawInt pos.col, .ref c'] := by simp
    have I1 := inv_table (t' := tk) (q := lamQ X) (more := #[rawInt pos.line, rawInt pos.col, .ref c']) (h' := h'.push (lamO X params body scope ((X.mg "__name__").getD .none) c' ctv)) I hP
      (fun b o hb e => Heap.get?_push_of_some _ (hx b o hb e)) (Heap.get?_push_of_some _ htb) hge ⟨oc, vs, t, Heap.get?_push_of_some _ hoc, hd, hv⟩
    refine new h'.objs.size c' ((X.mg "__name__").getD .none) ctv _ _ (I.hok.fresh hge) (by rw [eL]; exact PySem.TriplesOk_snoc _ _ _ _ ht) (fun p cv z => ?_) I1 (Heap.get?_push_size _ rfl) ?_ (nofr _ hsz)
    · rw [eL] at z
      exact among_app _ ht z
    · have n1 : h'.objs.size ≠ c' := Nat.ne_of_gt hlt
      have n2 : h'.objs.size ≠ P := Nat.ne_of_gt (Nat.lt_of_lt_of_le (Heap.lt_size hP') hsz)
      unfold lamH
      rw [upd_ne n1, upd_ne n2]
      exact I.hok.fresh hsz
end
/-- the state behind it -/
theorem StOk.lam {g : Gx} {w : Wd} {S : Store} {H : Hp} {P c' : Addr} {q : Str} {ps more : Array Value} (st : StOk g w S H) (hT : (P, q) ∈ g.T) (hu : ∀ p ∈ g.T, p.1 = P → p.2 = q) (hP : H P = some (.tbl ps)) (hc : H c' = none) (ht : TriplesOk (ps ++ more).toList)
    (hm : ∀ (p : Pos) (cv : Value), codeAmong p (ps ++ more).toList = some cv → codeAmong p ps.toList = some cv ∨ cv = .ref c') : StOk g w S (lamH H P (ps ++ more) c' q) ∧ Stp w H w (lamH H P (ps ++ more) c' q) := by
  have nP : P ≠ c' := ne_of_none hP hc
  have at_ : ∀ b o, H b = some o → (∀ ps, o ≠ .tbl ps) → lamH H P (ps ++ more) c' q b = some o := fun b o e n => by
    unfold lamH
    rw [upd_ne (ne_of_none e hc), upd_ne fun z => by rw [z, hP] at e; cases e; exact n ps rfl]
    exact e
  have atP : lamH H P (ps ++ more) c' q P = some (.tbl (ps ++ more)) := by
    unfold lamH
    rw [upd_ne nP, upd_same]
  have le : Le w H w (lamH H P (ps ++ more) c' q) := by
    refine ⟨fun a z => .inl z, fun a o e z _ => at_ a o e z.2, fun a e => ?_, fun a z => ?_⟩
    · unfold lamH upd
      split
      · exact fun z => by cases z
      · split
        · exact fun z => by cases z
        · exact e
    · obtain ⟨xs, e⟩ := (st.hid a z).2
      rw [e]
      exact at_ a _ e fun ps y => by cases y
  have old : ∀ a o, H a = some o → (∀ ps, o ≠ .tbl ps) → lamH H P (ps ++ more) c' q a = some o := at_
  refine ⟨⟨st.len, fun k c e => ?_, st.live, st.inj, fun a z => ⟨(st.hid a z).1, (st.hid a z).2.imp fun xs e => old a _ e fun ps y => by cases y⟩, st.lo, fun p hp => ?_⟩, ⟨le, rfl, rfl, fun _ _ e => e⟩⟩
  · obtain ⟨a, h1, h2⟩ := st.cell k c e
    refine ⟨a, h1, h2.le le fun b o hb e => ?_⟩
    unfold lamH
    rw [upd_ne (ne_of_none e hc)]
    have hb' : b ≠ P := fun z => by
      rcases hb with hb | hb
      · obtain ⟨ps', e1, _, n, _⟩ := st.tab _ hT
        exact n (.inl (by rw [← z, hb]; exact List.mem_of_getElem? h1))
      · rw [z, hP] at hb
        cases hb
    rw [upd_ne hb']
    exact e
  · obtain ⟨ps0, h1, h2, h3, h4⟩ := st.tab p hp
    by_cases hpP : p.1 = P
    · rw [hpP, hP] at h1
      cases h1
      have hq := hu p hp hpP
      refine ⟨ps ++ more, by rw [hpP]; exact atP, ht, h3, fun pos cv e => ?_⟩
      rcases hm pos cv e with z | z
      · obtain ⟨d, e1, e2, e3⟩ := h4 pos cv z
        exact ⟨d, e1, le.keepN d _ e2 codeO_firm e3, e3⟩
      · exact ⟨c', z, by rw [hq]; unfold lamH; rw [upd_same], st.nav hc⟩
    · refine ⟨ps0, ?_, h2, h3, fun pos cv e => ?_⟩
      · unfold lamH
        rw [upd_ne (ne_of_none h1 hc), upd_ne hpP]
        exact h1
      · obtain ⟨d, e1, e2, e3⟩ := h4 pos cv e
        exact ⟨d, e1, le.keepN d _ e2 codeO_firm e3, e3⟩
section
variable {X : Cx} {g : Gx} {W : WX}
/-- the teller, as the text has it: its try, its clauses, what it tells of no error -/
structure Teller (K : PySem.W.Frag) (mg : Str → Option Value) (x a : Str) (st : Stmt) (Ng : List Str) (h0 : ExceptHandler) (hs : List ExceptHandler) (rows : List Row) (no : Str) (j : Nat) (p1 p2 p3 p4 p5 p6 : Pos) : Prop where
  F : FunAt K mg x x st [a]
  hb : defBody st = [.Try [.Expr (.Call (.Name a p1) [] [] p2) p3] (h0 :: hs) [] [] p4, .Return (some (.Constant (.str no) j p5)) p6]
  S : FnScope Ng [a] (defScope st)
  N0 : Ng[0]? = some a
  va : Vis (defScope st) a
  s0 : ∀ f : Addr, (L2.start Ng [V.ref f])[0]? = some (some (V.ref f))
  s1 : 1 < Ng.length
  rp : (defScope st).names.lookup ("repr" : Str) = some .globalImplicit
  mr : mg "repr" = none
  rows : ∀ Z : Cx, Z.K = K → Z.mg = mg → Z.env.scope = defScope st → Z.N = Ng → RowsOk Z (h0 :: hs) rows
  sw : ∀ env : PySem.Env, env.scope = defScope st → swapsWith (.Call (.Name a p1) [] [] p2) none p3.line env = pure false
  d1 : (x == ("__debug__" : Str)) = false
  d2 : (a == ("__debug__" : Str)) = false
  d3 : (a == ("__classdict__" : Str)) = false
theorem p_met {x a no : Str} {st : Stmt} {Ng : List Str} {h0 : ExceptHandler} {hs : List ExceptHandler} {rows : List Row} {j : Nat} {p1 p2 p3 p4 p5 p6 : Pos} {c P : Addr} {k m : Nat} {params : Arguments} {body : Expr} {scope : Scope} {p lpos pos : Pos} {eb : Ev} (hK : g.K = X.K)
    (Te : Teller X.K X.mg x a st Ng h0 hs rows no j p1 p2 p3 p4 p5 p6) (G : RowsG g rows) (TB : TabB X.base X.mg c P) (hcode : X.env.code = .ref c) (hmT : (P, X.env.qual ++ "<lambda>") ∈ g.T) (hu : ∀ p ∈ g.T, p.1 = P → p.2 = X.env.qual ++ "<lambda>")
    (hrm : Room m X.A) (hkm : k + 2 ≤ m) (L : LamS X.env.scope scope) (hdef : defaultsOf params X.env = ([], []))
    (hbind : ∀ (q : Str) (cl : List (Str × Addr)) (pm cv ctv : Value), bindArgs (PySem.W.kla_fn "<lambda>" q params body scope cl pm cv ctv) ⟨[], []⟩ = pure [])
    (hg : Gl X x)
    (hbody : ∀ (A : Around) (outer : List PySem.Env) (s : Shared) (H : Hp) (E : XK) (f c' : Addr), Room k (A.deeper (lamEnv X scope s.heap.objs.size f c')) → PE (lamCx X A outer s H E scope f c') body (tE g (fun cls d _ H => E cls d H) eb)) :
    PE X (.Call (.Name x p) [.Lambda params body scope lpos] [] pos) (tE g W (eMet (rows.map rowT) no eb)) := by
  obtain ⟨f0, fd, ⟨⟨oc, od, kV, doc, pm0, an, cdv, ct, osl, rfl, lk, hcg⟩, kp⟩, hm, hb⟩ := Te.F
  have hr : Room (k + 2) X.A := hrm.mono hkm
  rw [Te.hb] at lk hb
  have hG : GivesTo X Ng x (defScope st) f0 cdv [.Try [.Expr (.Call (.Name a p1) [] [] p2) p3] (h0 :: hs) [] [] p4, .Return (some (.Constant (.str no) j p5)) p6] a (lamQ X) (TTm X.K rows no) :=
    met_gives Te.S.nd Te.s0 Te.s1 (fun s H => Te.rows _ rfl rfl rfl rfl) Te.rp Te.mr (fun s H => Te.sw _ rfl)
  refine ⟨fun pins s σ H Q I h => ?_⟩
  obtain ⟨w, Γ, S, so, en, h⟩ := h
  refine wpAny_Call_Name_kw (ld_glob I hg hm ?_ Te.d1)
  refine PySem.W.callWith_K (h₀ := X.base) I.ok.mod.kin kp ?_ (by rfl) (by rfl)
  show wpAny _ _ (spliced ((false, eval (.Lambda params body scope lpos) X.env) :: backTo pos (starEach [] X.env))) _ _ s
  obtain ⟨ps, hP, ht, nP, ha⟩ := so.tab _ hmT
  -- whatever heap the lambda leaves, the call answers as it is told
  have go : ∀ (H1 : Hp) (f c' : Addr) (pm' ctv : Value) (s' : Shared), StOk g w S H1 → Stp w H w H1 → L2.Inv X pins σ H1 s' → s'.heap.get? f = some (lamO X params body scope pm' c' ctv) → H1 f = none → f ∉ frs X.stack → H1 c' = some (CodeO c' (lamQ X)) →
      wpAny (model X.prog X.w) X.A (call (.ref f0) [.ref f]) (EP X pins σ Q) X.xe s' := fun H1 f c' pm' ctv s' so1 sp I1 hf hfn hfr hco => by
    have en1 := en.step sp
    have h1 := RQ.to (r := eMet (rows.map rowT) no eb Γ S) h sp
    have told : TTm X.K rows no (fun E H' Q' => tE g (fun cls d _ H => E cls d H) eb σ H' Q') H1 Q := by
      refine ⟨w, Γ, S, so1, en1, ?_⟩
      unfold eMet at h1
      cases e : eb Γ S with
      | bad => rw [e] at h1; exact h1.elim
      | ok x S1 =>
        rw [e] at h1
        exact fun v w' H' s2 st2 r2 => RQ.okQ (RQ.to (r := R.ok (Val.d (.str no)) S1) h1 s2) st2 (.str no)
      | exc cc x S1 =>
        rw [e] at h1
        intro cls dx w' H' s2 st2 er
        rw [← hK]
        exact tell_q st2 er G (RQ.to (r := tellD (rows.map rowT) cc x S1) h1 s2)
    have rc : codeAny (model X.prog X.w) X.A (.call (.ref f0) ⟨[.ref f], []⟩) (CR C8.CX0 X.stack X.prog X.w H1 s' Q C8.E0) s' := by
      refine run_ofS (N := Ng) (ps := [a]) (us := [.ref f]) (vs := [.ref f]) lk hcg Te.S hr I1.env0 (hb s' [.ref f] I1.kIn rfl) (.cons rfl .nil) rfl fun hr' => ?_
      obtain ⟨t', ht', hq'⟩ := hG f c' s' H1 Q (fun E H' Q' => tE g (fun cls d _ H => E cls d H) eb σ H' Q')
        (fun W pn xe E p1 p2 tk hW => pe_act (i := 0) I1 L hf hfn hfr (hbind _ _ _ _ _) tk hW hr' (fun A outer s H hr2 => hbody A outer s H E f c' hr2) Te.N0 Te.va Te.d2 Te.d3) hco told
      exact ⟨t', ht'.nox, hq'⟩
    refine wpAny_call (codeAny_mono rc fun r s2 hq => ?_)
    cases r with
    | error e => exact (show False from hq).elim
    | ok fl =>
      cases fl with
      | ret u => exact I1.after hq
      | next => exact False.elim hq
      | brk => exact False.elim hq
      | cont => exact False.elim hq
  refine Calls.spliced_cons (lam_made I TB hcode hP ht (fun pos cv e => let ⟨d, e1, e2, _⟩ := ha pos cv e; ⟨d, e1, e2⟩) hdef (L.has I.ok) (fun f c' pm' ctv s' I1 hf hfn hfr hco => ?_) (fun f c' pm' ctv s' more hc ht2 hm2 I1 hf hfn hfr => ?_))
  · exact Calls.spliced_nil ⟨I1.kIn, go H f c' pm' ctv s' so (.refl _ _) I1 hf hfn hfr hco⟩
  · obtain ⟨so1, sp⟩ := so.lam hmT hu hP hc ht2 hm2
    exact Calls.spliced_nil ⟨I1.kIn, go _ f c' pm' ctv s' so1 sp I1 hf hfn hfr (by unfold lamH; rw [upd_same])⟩
end
end Pd

set_option maxHeartbeats 2000000
/-! defs as values, methods that may raise, in and not in -/
namespace Pd
open PySem PySem.Spec PyProof.Rows L2
/-! ### the name of a def, as a value; a call of such a value -/
section
variable {X : Cx} {g : Gx} {W : WX} {e o : Expr} {es : List Expr} {eo : Ev} {er : Env → Store → R (List Val)} {pos p apos : Pos} {j k n : Nat}
theorem p_fnv {x : Str} {f : Addr} (hg : Gl X x) (hm : X.mg x = some (.ref f)) (hf : g.fn x = some f) (hd : (x == ("__debug__" : Str)) = false := by decide) : PE X (.Name x pos) (tE g W (eC (.fn x))) :=
  p_glob (v := .ref f) hg hm rfl (fun _ _ => .fn hf) hd
/-- the call of the def that stands in slot i, one of some -/
def eCallV (i : Nat) (tbl : List (Str × (List Val → Store → R Val))) (er : Env → Store → R (List Val)) : Ev := fun Γ S => match Γ[i]? with
  | some (some (.d (.fn x))) => (match tbl.lookup x with | some d => (er Γ S).bind d | none => .bad)
  | _ => .bad
/-- the defs that may stand there -/
inductive FnTbl (P : Program) (w : World) (K : PySem.W.Frag) (mg : Str → Option Value) (base : Heap) (g : Gx) (k n : Nat) : List (Str × (List Val → Store → R Val)) → Prop
  | nil : FnTbl P w K mg base g k n []
  | cons {x : Str} {ps : List Str} {d : List Val → Store → R Val} {m : Nat} {f : Addr} {l : List (Str × (List Val → Store → R Val))} (F : Fn P w K mg base g m x ps d false) (hm : m ≤ k) (hl : ps.length = n) (hf : mg x = some (.ref f)) (hg : g.fn x = some f) (r : FnTbl P w K mg base g k n l) : FnTbl P w K mg base g k n ((x, d) :: l)
theorem FnTbl.get {P : Program} {w : World} {K : PySem.W.Frag} {mg : Str → Option Value} {base : Heap} {g : Gx} {k n : Nat} {l : List (Str × (List Val → Store → R Val))} (T : FnTbl P w K mg base g k n l) {x : Str} {d : List Val → Store → R Val} (e : l.lookup x = some d) :
    ∃ (f : Addr) (fd : FuncData) (ps : List Str), g.fn x = some f ∧ PySem.W.keepIn K (.ref f) = true ∧ Binds K fd ps [] ∧ ps.length = n ∧ FnOk P w K mg base (L2.CX P w) k f fd ps (spD g d n false) := by
  induction T with
  | nil => cases e
  | @cons y ps d' m f l F hm hl hf hg r ih =>
    by_cases hy : x = y
    · subst hy
      simp [List.lookup] at e
      subst e
      obtain ⟨f', fd, h1, h2, h3, h4⟩ := F.mono hm
      rw [hf] at h1
      cases h1
      exact ⟨f, fd, ps, hg, h2, h3, hl, by rw [← hl]; exact h4⟩
    · have q : (x == y) = false := by simpa using hy
      simp only [List.lookup, q] at e
      exact ih e
theorem p_callV {i : Nat} {y : Str} {tbl : List (Str × (List Val → Store → R Val))} (hN : X.N[i]? = some y) (hv : Vis X.env.scope y) (T : FnTbl X.prog X.w X.K X.mg X.base g k n tbl) (hr : Room j X.A) (hkj : k ≤ j) (tk : Takes X W) (hel : ∀ Γ S xs S', er Γ S = .ok xs S' → xs.length = n) (ha : PA X (e :: es) (tA g W er))
    (hd : (y == ("__debug__" : Str)) = false := by decide) (hcd : (y == ("__classdict__" : Str)) = false := by decide) (he : starEach (e :: es) X.env = (false, eval e X.env) :: starEach es X.env := by rfl) (hpl : (backTo pos (starEach es X.env)).any (·.1) = false := by rfl) :
    PE X (.Call (.Name y p) (e :: es) [] pos) (tE g W (eCallV i tbl er)) := by
  refine ⟨fun pins s σ H Q I h => ?_⟩
  obtain ⟨w, Γ, S, st, en, h⟩ := h
  unfold eCallV at h
  cases q : Γ[i]? with
  | none => rw [q] at h; exact h.elim
  | some z =>
    rw [q] at h
    cases z with
    | none => exact h.elim
    | some z =>
      cases z with
      | cell k => exact h.elim
      | d z =>
        cases z with
        | fn x =>
          have h : RQ g W (RepV g) w σ H (match tbl.lookup x with | some d => (er Γ S).bind d | none => .bad) Q := h
          cases ed : tbl.lookup x with
          | none => rw [ed] at h; exact h.elim
          | some d =>
            rw [ed] at h
            have h : RQ g W (RepV g) w σ H ((er Γ S).bind d) Q := h
            obtain ⟨f, fd, ps, hf, hk, hb, hl, FO⟩ := T.get ed
            obtain ⟨v, hv1, hv2⟩ := en.val i _ q
            have ev : v = V.ref f := by
              have r : Rep g w H (.fn x) v := hv2
              cases r with
              | fn h1 => rw [hf] at h1; cases h1; rfl
            subst ev
            refine wpAny_Call_Name_kw (thn ((pe_var (pos := p) (i := i) hN hv hd hcd).run pins s σ H (fun v H1 => v = .ref f ∧ H1 = H) I ⟨.ref f, hv1, rfl, rfl⟩) fun u s1 ⟨v, H1, I1, r1, q1⟩ => ?_)
            obtain ⟨ev, eH⟩ := q1
            subst ev
            rw [eH] at I1
            obtain rfl : u = Value.ref f := r1
            have hA : tA g W er σ H fun vs H2 => spD g d n false vs H2 Q (WE W σ) := by
              refine ⟨w, Γ, S, st, en, ?_⟩
              cases qr : er Γ S with
              | exc c z S1 => rw [qr] at h; exact h
              | bad => rw [qr] at h; exact h
              | ok xs S1 =>
                rw [qr] at h
                exact fun vs w1 H1 s1 st1 r1 => ⟨by rw [← r1.length]; exact hel Γ S xs S1 qr, w1, S1, xs, st1, r1, by
                  rw [if_neg Bool.false_ne_true]
                  exact (RQ.to (r := d xs S1) h s1).wish fun _ _ _ z => z⟩
            refine PySem.W.callWith_K (h₀ := X.base) I.ok.mod.kin hk (thn (ha.run pos pins s1 σ H _ I1 hA) fun us s2 ⟨vs, H2, I2, r, q⟩ => ⟨I2.kIn, ?_⟩) he hpl
            exact run_fnS (E := WE W) FO (hr.mono hkj) hb (passAt tk σ) I2 r q
        | _ => exact h.elim
end
/-! ### methods that may raise -/
def eMethX (c : Str) (d : List Val → Store → R Val) (eo : Ev) (er : Env → Store → R (List Val)) : Ev := fun Γ S => (eo Γ S).bind fun x S1 => if isO c x S1 = true then (er Γ S1).bind fun ys S2 => d (x :: ys) S2 else .bad
/-- a wish that does not look at the slots -/
abbrev WFlat (W : WX) : Prop := ∀ c d σ σ' H, W c d σ H → W c d σ' H
section
variable {X : Cx} {g : Gx} {W : WX} {o e : Expr} {eo : Ev} {es : List Expr} {er : Env → Store → R (List Val)} {pos apos : Pos} {j k n : Nat} {m c : Str} {gA : Addr} {d : List Val → Store → R Val}
theorem p_methX (hK : g.K = X.K) (M : MethC g c m gA) (F : FnM X.prog X.w X.K X.mg X.base g k gA (n + 1) d) (hr : Room j X.A) (hkj : k ≤ j) (tk : Takes X W) (ho : PE X o (tE g W eo)) (hel : ∀ Γ S xs S', er Γ S = .ok xs S' → xs.length = n) (ha : PA X (e :: es) (tA g W er)) (hW : WFlat W := by exact fun _ _ _ _ _ z => z)
    (hst : starEach (e :: es) X.env = (false, eval e X.env) :: starEach es X.env := by rfl) (hpl : (backTo pos (starEach es X.env)).any (·.1) = false := by rfl) {pl : Sem Bool}
    (ht : eval (.Call (.Attribute o m apos) (e :: es) [] pos) X.env = (do
      let ov ← eval o X.env
      standAt apos.atName
      let (f, first) ← holding [ov] (getMethod ov m pl)
      callWith pos f first (backTo pos (starEach (e :: es) X.env)) (backToKw pos (keywordEach [] X.env))) := by rfl) :
    PE X (.Call (.Attribute o m apos) (e :: es) [] pos) (tE g W (eMethX c d eo er)) := by
  obtain ⟨C, hc, sc, hm⟩ := M.ex
  rw [hK] at sc hm
  refine (SlX.pe_methSl (E := fun cls d H => ∀ σ, W cls d σ H) ho sc hm F (hr.mono hkj) (passes_call tk fun cls d σ H z => z σ) ha hst hpl ht).imp fun σ H Q ⟨w, Γ, S, st, en, h⟩ => tX_seq st en h fun u H1 x S1 w1 s1 st1 en1 r1 h1 => ?_
  obtain ⟨hi, h1⟩ := ite_q h1
  obtain ⟨a, dx, vs, ev, hs⟩ := isO_slt hi st1 r1 hc
  refine ⟨a, dx, vs, ev, hs, w1, Γ, S1, st1, en1, ?_⟩
  cases q : er Γ S1 with
  | bad => rw [q] at h1; exact h1.elim
  | exc c z S2 => rw [q] at h1; exact h1
  | ok ys S2 =>
    rw [q] at h1
    intro ws w2 H2 s2 st2 r2
    refine ⟨by rw [List.length_cons, ← r2.length, hel Γ S1 ys S2 q], w2, S2, x :: ys, st2, .cons (r1.step s2) r2, ?_⟩
    rw [if_neg Bool.false_ne_true]
    exact (RQ.to (r := d (x :: ys) S2) h1 s2).wish fun c d H z σ' => hW c d σ σ' H z
theorem p_methX0 (hK : g.K = X.K) (M : MethC g c m gA) (F : FnM X.prog X.w X.K X.mg X.base g k gA 1 d) (hr : Room j X.A) (hkj : k ≤ j) (tk : Takes X W) (ho : PE X o (tE g W eo)) (hW : WFlat W := by exact fun _ _ _ _ _ z => z) {pl : Sem Bool}
    (ht : eval (.Call (.Attribute o m apos) [] [] pos) X.env = (do
      let ov ← eval o X.env
      standAt apos.atName
      let (f, first) ← holding [ov] (getMethod ov m pl)
      callWith pos f first (backTo pos (starEach [] X.env)) (backToKw pos (keywordEach [] X.env))) := by rfl) :
    PE X (.Call (.Attribute o m apos) [] [] pos) (tE g W (eMethX c d eo eNil)) := by
  obtain ⟨C, hc, sc, hm⟩ := M.ex
  rw [hK] at sc hm
  refine (SlX.pe_methSl0 (E := fun cls d H => ∀ σ, W cls d σ H) ho sc hm F (hr.mono hkj) (passes_call tk fun cls d σ H z => z σ) ht).imp fun σ H Q ⟨w, Γ, S, st, en, h⟩ => tX_seq st en h fun u H1 x S1 w1 s1 st1 en1 r1 h1 => ?_
  obtain ⟨hi, h1⟩ := ite_q h1
  obtain ⟨a, dx, vs, ev, hs⟩ := isO_slt hi st1 r1 hc
  refine ⟨a, dx, vs, ev, hs, rfl, w1, S1, [x], st1, .cons r1 .nil, ?_⟩
  rw [if_neg Bool.false_ne_true]
  exact (show RQ g W (RepV g) w1 σ H1 (d [x] S1) Q from h1).wish fun c d H z σ' => hW c d σ σ' H z
end
/-! ### in, not in -/
def flatD : D → Bool
  | .non => true
  | .bl _ => true
  | .int _ => true
  | .str _ => true
  | _ => false
theorem flat_rep {g : Gx} {w : Wd} {H : Hp} {d : D} {v : V} (r : Rep g w H d v) (h : flatD d = true) : flatV v = true := by
  cases r <;> first | rfl | (simp [flatD] at h)
theorem flat_eqv {g : Gx} {w : Wd} {H : Hp} {a b : D} {u v : V} (r1 : Rep g w H a u) (r2 : Rep g w H b v) (h1 : flatD a = true) (h2 : flatD b = true) : eqV u v = a.eqv b := by
  cases a <;> first | (simp [flatD] at h1; done) | skip
  all_goals (cases b <;> first | (simp [flatD] at h2; done) | (cases r1; cases r2; rfl))
theorem flat_any {g : Gx} {w : Wd} {H : Hp} {a : D} {u : V} (r : Rep g w H a u) (h : flatD a = true) : ∀ {ds : List D} {vs : List V}, RepL g w H ds vs → ds.all flatD = true → vs.all flatV = true ∧ (vs.any fun y => eqV y u) = ds.any fun z => z.eqv a
  | _, _, .nil, _ => ⟨rfl, rfl⟩
  | _, _, .cons r1 l, hd => by
    simp only [List.all_cons, Bool.and_eq_true] at hd
    obtain ⟨h1, h2⟩ := flat_any r h l hd.2
    simp only [List.all_cons, List.any_cons, h1, h2, flat_rep r1 hd.1, flat_eqv r1 r hd.1 h, Bool.and_self, and_self]
/-- is it among them? -/
def memD (x y : Val) (S : Store) : Option Bool := match rd S x, rd S y with
  | some a, some (.lst ds) => if fit 60 a = true ∧ fit 60 (.lst ds) = true then some (ds.any fun z => z.eqv a) else none
  | some a, some (.tup ds) => if flatD a = true ∧ ds.all flatD = true then some (ds.any fun z => z.eqv a) else none
  | _, _ => none
def fIn (x y : Val) (S : Store) : R Val := match memD x y S with | some b => .ok (.d (.bl b)) S | none => .bad
def fNotIn (x y : Val) (S : Store) : R Val := match memD x y S with | some b => .ok (.d (.bl (!b))) S | none => .bad
theorem pd_any {a : D} (ha : fit 60 a = true) : ∀ {ds : List D} {n : Nat}, fitL n ds = true → ((pdL ds).any fun z => PyData.eqv z a.pd) = ds.any fun z => z.eqv a
  | [], _, _ => rfl
  | x :: xs, n, h => by
    unfold fitL at h
    obtain ⟨h1, h2⟩ := Bool.and_eq_true_iff.mp h
    show (PyData.eqv x.pd a.pd || (pdL xs).any fun z => PyData.eqv z a.pd) = (x.eqv a || xs.any fun z => z.eqv a)
    rw [pd_any ha h2, pd_eqv _ _ _ _ h1 ha]
section
variable {X : Cx} {g : Gx} {W : WX} {a b : Expr} {ea eb : Ev} {pos : Pos} {j : Nat}
theorem mem_q {w : Wd} {S : Store} {H : Hp} {x y : Val} {u v : V} {m neg : Bool} {Q : VK} (st : StOk g w S H) (r1 : RepV g w H x u) (r2 : RepV g w H y v) (e : memD x y S = some m) (q : Q (.bl (if neg then !m else m)) H) : rIn g.K neg u v H Q ∨ ∃ d ds, Dp g.K H u d ∧ Dp g.K H v (.list ds) ∧ SeqAt.shaped d = true ∧ SeqAt.shaped (.list ds) = true ∧ Q (.bl (if neg then !(ds.any fun z => PyData.eqv z d) else ds.any fun z => PyData.eqv z d)) H := by
  unfold memD at e
  split at e
  · rename_i a ds e1 e2
    split at e
    · rename_i hf
      cases e
      refine .inr ⟨_, _, rd_dp st r1 e1 hf.1, rd_dp st r2 e2 hf.2, fit_shaped hf.1, fit_shaped hf.2, ?_⟩
      have z := pd_any hf.1 (n := 59) (ds := ds) (by have := hf.2; unfold fit at this; exact this)
      rw [z]
      exact q
    · cases e
  · rename_i a ds e1 e2
    split at e
    · rename_i hf
      cases e
      obtain ⟨p, vs, rfl, h1, l⟩ := rd_tup r2 e2
      have ra : Rep g w H a u := by
        cases x with
        | d x => cases e1; exact r1
        | cell k =>
          obtain ⟨es, _, ez⟩ := rd_cell e1
          rw [ez] at hf
          simp [flatD] at hf
      obtain ⟨z1, z2⟩ := flat_any ra hf.1 l hf.2
      refine .inl ⟨p, vs, rfl, .inr h1.sq, flat_rep ra hf.1, z1, ?_⟩
      unfold inV
      rw [z2]
      exact q
    · cases e
  · cases e
theorem o2_in (hK : g.K = X.K) : Op2 g (fun x y H Q => rIn X.K false x y H Q ∨ rInD X.K x y H Q) fIn := fun W w S H σ x y u v Q st r1 r2 q => by
  unfold fIn at q
  rw [← hK]
  split at q
  · rename_i m e
    exact (mem_q (neg := false) st r1 r2 e (RQ.okQ q st (.bl _))).imp id fun ⟨d, ds, h1, h2, h3, h4, h5⟩ => ⟨d, ds, h1, h2, h3, h4, h5⟩
  · exact q.elim
theorem o2_notin (hK : g.K = X.K) : Op2 g (fun x y H Q => rIn X.K true x y H Q ∨ rNotInD X.K x y H Q) fNotIn := fun W w S H σ x y u v Q st r1 r2 q => by
  unfold fNotIn at q
  rw [← hK]
  split at q
  · rename_i m e
    exact (mem_q (neg := true) st r1 r2 e (RQ.okQ q st (.bl _))).imp id fun ⟨d, ds, h1, h2, h3, h4, h5⟩ => ⟨d, ds, h1, h2, h3, h4, h5⟩
  · exact q.elim
theorem p_in (hK : g.K = X.K) (hr : Room j X.A) (ha : PE X a (tE g W ea)) (hb : PE X b (tE g W eb)) (hm : behindInMarks .In b = false := by rfl) : PE X (.Compare a [.In] [b] pos) (tE g W (eBin fIn ea eb)) := p_cmp (op_in_seq.or (op_inD (by have := hr.un; omega))) (o2_in hK) ha hb hm
theorem p_notin (hK : g.K = X.K) (hr : Room j X.A) (ha : PE X a (tE g W ea)) (hb : PE X b (tE g W eb)) (hm : behindInMarks .NotIn b = false := by rfl) : PE X (.Compare a [.NotIn] [b] pos) (tE g W (eBin fNotIn ea eb)) := p_cmp (op_notIn_seq.or (op_notInD (by have := hr.un; omega))) (o2_notin hK) ha hb hm
theorem t_in (hK : g.K = X.K) (hr : Room j X.A) (ha : PE X a (tE g W ea)) (hb : PE X b (tE g W eb)) (hm : behindInMarks .In b = false := by rfl) : PT X (.Compare a [.In] [b] pos) (tT g W (eTest (eBin fIn ea eb))) := pt_cmp' (op_in_seq.or (op_inD (by have := hr.un; omega))) (o2_in hK) ha hb hm
theorem t_notin (hK : g.K = X.K) (hr : Room j X.A) (ha : PE X a (tE g W ea)) (hb : PE X b (tE g W eb)) (hm : behindInMarks .NotIn b = false := by rfl) : PT X (.Compare a [.NotIn] [b] pos) (tT g W (eTest (eBin fNotIn ea eb))) := pt_cmp' (op_notIn_seq.or (op_notInD (by have := hr.un; omega))) (o2_notin hK) ha hb hm
end
/-! ### defs in which lambdas are made: their code object is told -/
def FunC (K : PySem.W.Frag) (x qual : Str) (st : Stmt) (f : Addr) (fd : FuncData) (c : Addr) : Prop :=
  (∃ (oc : Value) (od : Option Addr) (kV doc pm : Value) (an : Option Addr) (ct : Value) (osl : Array (Option Value)),
    fd = PySem.W.fnOf x qual (defArgs st) (defBody st) (defScope st) .none kV doc pm an (.ref c) ct ∧ K.lookup f = some ⟨oc, od, .func fd, osl⟩ ∧ PySem.W.codeIn K (.ref c) qual = true) ∧ PySem.W.keepIn K (.ref f) = true
def FunAtC (K : PySem.W.Frag) (mg : Str → Option Value) (x qual : Str) (st : Stmt) (ps : List Str) (c : Addr) : Prop := ∃ (f : Addr) (fd : FuncData), FunC K x qual st f fd c ∧ mg x = some (.ref f) ∧ Binds K fd ps []
theorem fn_mkC {P : Program} {w : World} {K : PySem.W.Frag} {mg : Str → Option Value} {base : Heap} {g : Gx} {x qual : Str} {st : Stmt} {f c : Addr} {fd : FuncData} {N ps : List Str} {k extra : Nat} (Nn : Bool) (body : Nat → Sv) (F : FunC K x qual st f fd c) (SC : FnScope N ps (defScope st)) (hm : mg x = some (.ref f)) (hb : Binds K fd ps []) (hx : N.length = ps.length + extra)
    (hbody : ∀ (A : Around) (outer : List PySem.Env) (s : Shared) (H : Hp) (E : XK), Room k (A.deeper (envOfC qual (defScope st) s.heap.objs.size f (.ref c))) → ∀ w0 : Wd,
      PSs (cxOf (L2.CX P w) P w K mg base N qual (defScope st) f (.ref c) A outer s H E) (defBody st) (tS ⟨g, fun c d _ H' => E c d H', w0, H, Nn⟩ (body w0.m.length))) : FnX P w K mg base g (k + 1) x ps (funD extra body) Nn f fd := by
  obtain ⟨⟨oc, od, kV, doc, pm, an, ct, osl, rfl, lk, hcd⟩, kp⟩ := F
  exact ⟨hm, kp, hb, fn_of lk hcd SC (fun vs H Q E h => h.1) fun A outer s H vs Q E hr hsp => body_spD (np := ps.length) Nn body hx hbody A outer s H vs Q E hr hsp⟩
theorem fn_atC {P : Program} {w : World} {K : PySem.W.Frag} {mg : Str → Option Value} {base : Heap} {g : Gx} {x qual : Str} {st : Stmt} {c : Addr} {N ps : List Str} {k extra : Nat} (Nn : Bool) (body : Nat → Sv) (F : FunAtC K mg x qual st ps c) (SC : FnScope N ps (defScope st)) (hx : N.length = ps.length + extra)
    (hbody : ∀ (f : Addr) (A : Around) (outer : List PySem.Env) (s : Shared) (H : Hp) (E : XK), Room k (A.deeper (envOfC qual (defScope st) s.heap.objs.size f (.ref c))) → ∀ w0 : Wd,
      PSs (cxOf (L2.CX P w) P w K mg base N qual (defScope st) f (.ref c) A outer s H E) (defBody st) (tS ⟨g, fun c d _ H' => E c d H', w0, H, Nn⟩ (body w0.m.length))) : Fn P w K mg base g (k + 1) x ps (funD extra body) Nn := by
  obtain ⟨f, fd, F, hm, hb⟩ := F
  exact ⟨f, fd, fn_mkC Nn body F SC hm hb hx (hbody f)⟩
/-! ### the end of a law with tables -/
/-- as LawAtS's tables and the rest, at the law's own heap -/
theorem walk_tabs {l : PySem.W.OpenLaw} {n k : Nat} {q : Program} {loose : List Str} {XP : (Str → Option Value) → Heap → Prop} {YP : World → Heap → Prop} {d : DefRec} {K : Params → PySem.W.Frag} {x : Str}
    (hn : l.most = some n) (hn2 : n ≤ sizeLine) (hdf : d.params.defaults = []) (hr : Room k callerA) (hY : ∀ (w : World) (h : Heap), YP w h → (K w.params).In h)
    (F : ∀ (w : World) (mg mb : Str → Option Value) (loose : List Str) (mean : ExcName → Option Value) (fa : Addr) (h : Heap), YP w h → (K w.params).In h → h.Ns mainGlobals mg → Top q loose mean mg mb h → mg d.name = some (.ref fa) → LamX.LawAtS l w (K w.params) (L2.CX l.prog w) k n x mg fa h) :
    PySem.W.WalkO q loose XP YP l.row.toRowW d [] (fun f vs => PySem.call f vs) := by
  refine Att.attach_callB hn hdf fun w s₀ s₁ mg mb fa o pm cd doc a vs ns G Y ho hd hcd hmg hobj hints hlen hbits hg => ?_
  have KX := hY w _ Y
  obtain ⟨fd, cs, sp, hT, nT, C, hb, hsp, hF⟩ := F w mg mb _ _ fa _ Y KX G.T.g G.T hmg
  exact LamX.law_callTs KX G.T.g G.T.b G.T.builtins G.T.nolimit hg hT nT C G.T.bmain hobj hints (Nat.le_trans hlen hn2) hr hF hb (fun H hH hS => hsp H a ns hlen hbits hH hS) fun H e s' z => by
    obtain ⟨_, _, _, _, _, _, _, _, _, _, _, _, z⟩ := z
    exact z
/-! ### the teller, told by what it is for -/
/-- the name of the lambdas that a def makes -/
abbrev lamN (q : Str) : Str := (envOfC q { kind := .function, names := [], isGenerator := false, isCoroutine := false, more := [] } 0 0 .none).qual ++ "<lambda>"
def offG (g : Gx) (r : Row) : List Row → Prop
  | [] => True
  | r' :: l => PySem.W.exmOne g.K (.ref r'.C) (.ref r.C) = some false ∧ offG g r l
def rowsG (g : Gx) : List Row → Prop
  | [] => True
  | r :: l => RowG g r ∧ offG g r l ∧ rowsG g l
theorem offG.all {g : Gx} {r : Row} : ∀ {l : List Row}, offG g r l → ∀ r' ∈ l, PySem.W.exmOne g.K (.ref r'.C) (.ref r.C) = some false
  | [], _, _, h => by cases h
  | x :: l, h, r', hr => by
    rcases List.mem_cons.mp hr with z | z
    · rw [z]; exact h.1
    · exact offG.all h.2 r' z
theorem rowsG.ok {g : Gx} : ∀ {l : List Row}, rowsG g l → RowsG g l
  | [], _ => ⟨(fun _ h => by cases h), List.Pairwise.nil⟩
  | r :: l, h => by
    have ih := rowsG.ok h.2.2
    exact ⟨fun r' hr => by
      rcases List.mem_cons.mp hr with z | z
      · rw [z]; exact h.1
      · exact ih.all r' z, List.pairwise_cons.mpr ⟨h.2.1.all, ih.two⟩⟩
def TellK (K : PySem.W.Frag) (mg : Str → Option Value) (g : Gx) (x a : Str) (tbl : List (Str × Bool × Str)) (no : Str) : Prop :=
  ∃ (st : Stmt) (Ng : List Str) (h0 : ExceptHandler) (hs : List ExceptHandler) (rows : List Row) (j : Nat) (p1 p2 p3 p4 p5 p6 : Pos), Teller K mg x a st Ng h0 hs rows no j p1 p2 p3 p4 p5 p6 ∧ RowsG g rows ∧ rows.map rowT = tbl
theorem p_tell {X : Cx} {g : Gx} {W : WX} {x a no : Str} {tbl : List (Str × Bool × Str)} {c P : Addr} {k m : Nat} {params : Arguments} {body : Expr} {scope : Scope} {p lpos pos : Pos} {eb : Ev} (hK : g.K = X.K)
    (Te : TellK X.K X.mg g x a tbl no) (TB : LamX.TabB X.base X.mg c P) (hcode : X.env.code = .ref c) (hmT : (P, X.env.qual ++ "<lambda>") ∈ g.T) (hu : ∀ p ∈ g.T, p.1 = P → p.2 = X.env.qual ++ "<lambda>")
    (hrm : Room m X.A) (hkm : k + 2 ≤ m) (L : LamX.LamS X.env.scope scope) (hdef : defaultsOf params X.env = ([], []))
    (hbind : ∀ (q : Str) (cl : List (Str × Addr)) (pm cv ctv : Value), bindArgs (PySem.W.kla_fn "<lambda>" q params body scope cl pm cv ctv) ⟨[], []⟩ = pure [])
    (hg : Gl X x)
    (hbody : ∀ (A : Around) (outer : List PySem.Env) (s : Shared) (H : Hp) (E : XK) (f c' : Addr), Room k (A.deeper (LamX.lamEnv X scope s.heap.objs.size f c')) → PE (LamX.lamCx X A outer s H E scope f c') body (tE g (fun cls d _ H => E cls d H) eb)) :
    PE X (.Call (.Name x p) [.Lambda params body scope lpos] [] pos) (tE g W (eMet tbl no eb)) := by
  obtain ⟨st, Ng, h0, hs, rows, j, p1, p2, p3, p4, p5, p6, T, G, rfl⟩ := Te
  exact p_met hK T G TB hcode hmT hu hrm hkm L hdef hbind hg hbody
theorem tabs_uniq : ∀ {T : List (Addr × Str)} {P : Addr} {q : Str}, (T.map Prod.fst).Nodup → (P, q) ∈ T → ∀ p ∈ T, p.1 = P → p.2 = q
  | t :: T, P, q, nd, h, p, hp, e => by
    have nd' := List.nodup_cons.mp (show (t.1 :: T.map Prod.fst).Nodup from nd)
    rcases List.mem_cons.mp h with z | z
    · rcases List.mem_cons.mp hp with y | y
      · rw [y, ← z]
      · exact absurd (show t.1 ∈ T.map Prod.fst by rw [← z]; exact List.mem_map.mpr ⟨p, y, e⟩) nd'.1
    · rcases List.mem_cons.mp hp with y | y
      · exact absurd (show t.1 ∈ T.map Prod.fst by rw [← y, e]; exact List.mem_map.mpr ⟨(P, q), z, rfl⟩) nd'.1
      · exact tabs_uniq nd'.2 z p y e
theorem excv {g : Gx} {P : Program} {K : PySem.W.Frag} {mg : Str → Option Value} {x f : Str} {C fI : Addr} (cl : g.cl x = some C) (hf : g.fld x = f) (hne : f ≠ "") (fo : FldOk f) (T : ∃ B newId initId bmB, XTxt P K mg x f C fI B newId initId bmB) : ExCV g P K mg x C fI := by
  subst hf
  exact ⟨cl, hne, fo, T⟩
end Pd

set_option maxHeartbeats 2000000
/-! names of the module for one def, a star in a display, augmented stores -/
namespace Pd
open PySem PySem.Spec PyProof.Rows L2
/-- a def of the text under another name of the module -/
def FunAtA (K : PySem.W.Frag) (mg : Str → Option Value) (x x0 qual : Str) (st : Stmt) (ps : List Str) : Prop := ∃ (f : Addr) (fd : FuncData), Fun K x0 qual st f fd ∧ mg x = some (.ref f) ∧ Binds K fd ps []
theorem fn_atA {P : Program} {w : World} {K : PySem.W.Frag} {mg : Str → Option Value} {base : Heap} {g : Gx} {x x0 qual : Str} {st : Stmt} {N ps : List Str} {k extra : Nat} (Nn : Bool) (body : Nat → Sv) (F : FunAtA K mg x x0 qual st ps) (SC : FnScope N ps (defScope st)) (hx : N.length = ps.length + extra)
    (hbody : ∀ (f : Addr) (cdv : Value) (A : Around) (outer : List PySem.Env) (s : Shared) (H : Hp) (E : XK), Room k (A.deeper (envOfC qual (defScope st) s.heap.objs.size f cdv)) → ∀ w0 : Wd,
      PSs (cxOf (L2.CX P w) P w K mg base N qual (defScope st) f cdv A outer s H E) (defBody st) (tS ⟨g, fun c d _ H' => E c d H', w0, H, Nn⟩ (body w0.m.length))) : Fn P w K mg base g (k + 1) x ps (funD extra body) Nn := by
  obtain ⟨f, fd, F, hm, hb⟩ := F
  exact ⟨f, fd, hm, F.kp, hb, F.okX SC (fun vs H Q E h => h.1) fun cdv A outer s H vs Q E hr hsp => body_spD (np := ps.length) Nn body hx (hbody f cdv) A outer s H vs Q E hr hsp⟩
/-! ### a star in a display -/
/-- *e -/
def eStar (a : Ev) (r : Env → Store → R (List Val)) : Env → Store → R (List Val) := fun Γ S => (a Γ S).bind fun x S1 => match rd S1 x with
  | some (.lst ds) => (r Γ S1).bind fun xs S2 => .ok (ds.map .d ++ xs) S2
  | some (.tup ds) => (r Γ S1).bind fun xs S2 => .ok (ds.map .d ++ xs) S2
  | _ => .bad
section
variable {X : Cx} {g : Gx} {W : WX} {a b o : Expr} {ea eb eo ei : Ev} {pos p : Pos} {es : List Expr} {er : Env → Store → R (List Val)} {cf : Cf}
theorem repl_vs {w : Wd} {H : Hp} : ∀ {ds : List D} {vs : List V}, RepL g w H ds vs → RepVs g w H (ds.map .d) vs
  | _, _, .nil => .nil
  | _, _, .cons h r => .cons h (repl_vs r)
theorem RepVs.append {w : Wd} {H : Hp} : ∀ {xs ys : List Val} {vs us : List V}, RepVs g w H xs vs → RepVs g w H ys us → RepVs g w H (xs ++ ys) (vs ++ us)
  | _, _, _, _, .nil, r => r
  | _, _, _, _, .cons h q, r => .cons h (q.append r)
theorem a_star (hK : g.K = X.K) (ha : PE X a (tE g W ea)) (hr : PA X es (tA g W er)) (hs : starEach (.Starred a p :: es) X.env = (true, eval a X.env) :: starEach es X.env := by rfl) : PA X (.Starred a p :: es) (tA g W (eStar ea er)) :=
  (StX.pa_star ha hr hs).imp fun σ H Q ⟨w, Γ, S, st, en, h⟩ => tX_seq st en h fun u H1 x S1 w1 s1 st1 en1 r1 h1 => by
    split at h1
    · rename_i ds e
      obtain ⟨q, vs, rfl, h2, l⟩ := rd_lst st1 r1 e
      exact ⟨q, vs, rfl, .inr (.inl (.inl h2)), tX_seq st1 en1 h1 fun us H2 xs S2 w2 s2 st2 en2 r2 h3 => RQ.okQ h3 st2 (((repl_vs l).step s2).append r2)⟩
    · rename_i ds e
      obtain ⟨q, vs, rfl, h2, l⟩ := rd_tup r1 e
      have z := h2.sq
      rw [hK] at z
      exact ⟨q, vs, rfl, .inl z, tX_seq st1 en1 h1 fun us H2 xs S2 w2 s2 st2 en2 r2 h3 => RQ.okQ h3 st2 (((repl_vs l).step s2).append r2)⟩
    · exact h1.elim
/-! ### augmented stores of ints -/
/-- name op= e -/
def sAug (i : Nat) (f : Int → Int → Int) (a : Ev) : Sv := fun Γ S => match Γ[i]? with
  | some (some (.d (.int j))) => (a Γ S).fl Γ fun x S1 => match x with | .d (.int k) => .nx (Γ.set i (some (.d (.int (f j k))))) S1 | _ => .bad
  | _ => .bad
theorem s_aug {i : Nat} {x : Str} {pos' : Pos} {op : Operator} {f : Int → Int → Int} (ho : PIp X op (ipI f)) (hN : X.N.Nodup) (hi : X.N[i]? = some x) (hx : Loc X.env.scope x) (ha : PE X a (tE cf.g cf.W ea)) (hf : X.fn x = true ∨ X.env.scope.names.lookup x = some .local := by first | exact .inl rfl | exact .inr rfl | assumption) :
    PS X (.AugAssign (.Name x pos') op a pos) (tS cf (sAug i f ea)) :=
  (ps_aug hN hi hx ha ho hf).imp fun D σ H ⟨w, Γ, S, st, en, fr, h⟩ => by
    unfold sAug at h
    split at h
    · rename_i j e
      obtain ⟨v, h1, h2⟩ := en.val i _ e
      cases h2
      refine ⟨_, h1, tX_fl st en fr h fun u H1 x S1 w1 s1 st1 en1 fr1 r1 h1 => ?_⟩
      split at h1
      · rename_i k
        cases r1
        exact ⟨j, k, rfl, rfl, FQ.nxQ h1 st1 (en1.set i (.int _)) fr1⟩
      · exact h1.elim
    · exact h.elim
theorem get_list : PGet X (fun x y H Q => ∃ p xs k v, x = .ref p ∧ y = .int k ∧ H p = some (.lst xs) ∧ atI xs k = some v ∧ Q v H) := by
  intro pins s σ H x y v u Q I rx ry h
  obtain ⟨p, xs, i, z, rfl, rfl, hq, he, q⟩ := h
  cases rx
  obtain ⟨t, rfl⟩ := ry
  obtain ⟨its, r, pl, hz⟩ := I.list (.inl (.inl hq))
  obtain ⟨j, h1, h2, h3, h4, h5⟩ := atI_get he
  obtain ⟨w, ew, rw'⟩ := r.get h2
  have hl := r.length
  have hn := line63
  have fin : EP X pins σ Q w s := ⟨z, H, I, rw', q⟩
  by_cases h0 : 0 ≤ i
  · have hj : i.toNat = j := by
      rw [seqIndex_of h0 h5] at h1
      exact Option.some.inj h1
    exact wpAny_getItem_list pl.isList h0 (by omega) (by rw [hj]; simpa using ew) fin
  · have hj : (i + (its.toArray.size : Int)).toNat = j := by
      rw [seqIndex_neg (by omega) h4] at h1
      rw [List.size_toArray, ← hl]
      exact Option.some.inj h1
    exact wpAny_getItem_list_neg pl.isList (by omega) (by rw [List.size_toArray] <;> omega) (by omega) (by rw [hj]; simpa using ew) fin
/-- o[i] op= e -/
def sAugS (f : Int → Int → Int) (eo ei ea : Ev) : Sv := fun Γ S => (eo Γ S).fl Γ fun o S1 => (ei Γ S1).fl Γ fun i S2 => match o, i with
  | .cell k, .d (.int j) => (match S2[k]? with
    | some (some (.lst ds)) => (match atI ds j with
      | some (.int x) => (ea Γ S2).fl Γ fun y S3 => (match y with
        | .d (.int z) => (match S3[k]? with
          | some (some (.lst es)) => (match ixN es.length j with | some n => .nx Γ (S3.set k (some (.lst (es.set n (.int (f x z)))))) | none => .bad)
          | _ => .bad)
        | _ => .bad)
      | _ => .bad)
    | _ => .bad)
  | _, _ => .bad
theorem repl_at {w : Wd} {H : Hp} {ds : List D} {vs : List V} {j : Int} {d : D} (l : RepL g w H ds vs) (e : atI ds j = some d) : ∃ v, atI vs j = some v ∧ Rep g w H d v := by
  unfold atI at e ⊢
  rw [← l.length]
  cases h : ixN ds.length j with
  | none => rw [h] at e; cases e
  | some n =>
    rw [h] at e
    exact l.get e
theorem s_augS {tp : Pos} {op : Operator} {f : Int → Int → Int} (hp : PIp X op (ipI f)) (ho : PE X o (tE cf.g cf.W eo)) (hi : PE X b (tE cf.g cf.W ei)) (ha : PE X a (tE cf.g cf.W ea))
    (hs : ∀ ov iv new, augStore b ov iv new = (do holding [new, ov, iv] (setItem ov iv new); release [new, ov, iv] []; pure .next) := by intros; rfl) : PS X (.AugAssign (.Subscript o b tp) op a pos) (tS cf (sAugS f eo ei ea)) :=
  (ps_augS ho hi get_list ha hp set_list hs).imp fun D σ H ⟨w, Γ, S, st, en, fr, h⟩ => tX_fl st en fr h fun v H2 y S2 w2 s2 st2 en2 fr2 r2 h2 => tX_fl st2 en2 fr2 h2 fun z H3 i S3 w3 s3 st3 en3 fr3 r3 h3 => by
    split at h3
    · split at h3
      · rename_i ds e
        split at h3
        · rename_i x ex
          obtain ⟨p, vs, rfl, hk, hp, l⟩ := cell_at st3 (r2.step s3) e
          obtain ⟨u, eu, ru⟩ := repl_at l ex
          cases r3
          cases ru
          refine ⟨p, vs, _, _, rfl, rfl, hp, eu, tX_fl st3 en3 fr3 h3 fun v4 H4 y4 S4 w4 s4 st4 en4 fr4 r4 h4 => ?_⟩
          split at h4
          · rename_i zz
            cases r4
            split at h4
            · rename_i es e4
              split at h4
              · rename_i n en'
                obtain ⟨p4, vs4, ep, hk4, hp4, l4⟩ := cell_at st4 ((r2.step s3).step s4) e4
                cases ep
                refine ⟨_, _, rfl, rfl, p, vs4, _, n, rfl, rfl, hp4, ixN_set l4 en', ?_⟩
                have sp := stp_mutC (o := .lst (vs4.set n (.int (f x zz)))) st4 hk4
                exact h4 σ w4 _ sp.le (fr4.stp sp) (st4.mutC hk4 (l4.set (.int _) n)) (en4.step sp)
              · exact h4.elim
            · exact h4.elim
          · exact h4.elim
        · exact h3.elim
      · exact h3.elim
    · exact h3.elim
/-! ### list(range(a, b, -1)) -/
def dnV (a b : Int) : List V := (List.range (a - b).toNat).map fun i => V.int (a + (i : Nat) * (-1))
theorem vals_dn {a b : Int} {acc : Array Value} (h : ItemsOf (fun i v => ∃ t, v = .int (a + i * (-1)) t) acc (a - b).toNat) : Vals (dnV a b) acc.toList := by
  have e : acc.toList.length = (a - b).toNat := by rw [Array.length_toList]; exact h.1
  unfold dnV
  rw [← e]
  refine vals_of_get acc.toList _ fun j u hj => ?_
  obtain ⟨t, rfl⟩ := h.2 j u (by rw [← hj, Array.getElem?_toList])
  exact ⟨t, rfl⟩
section
variable {c : Expr} {ta : TA} {p2 pos2 : Pos}
theorem prg_3 (hg : Gl X "range") (hm : X.mg "range" = none) (ha : PA X [a, b, c] ta)
    (hs : starEach [a, b, c] X.env = (false, eval a X.env) :: starEach [b, c] X.env := by rfl) (hpl : (backTo pos (starEach [b, c] X.env)).any (·.1) = false := by rfl)
    {pins : List (Addr × Obj)} {s : Shared} {σ : L2.St} {H : Hp} {Q : Int → Int → Hp → Prop} (I : L2.Inv X pins σ H s) (h : ta σ H fun vs H1 => ∃ i j, vs = [.int i, .int j, .int (-1)] ∧ Q i j H1) :
    wpAny (model X.prog X.w) X.A (eval (.Call (.Name "range" p) [a, b, c] [] pos) X.env) (fun x s' => ∃ r i j t u v H', x = .ref r ∧ IsRange s'.heap r i j (-1) t u v ∧ Inv X pins σ H' s' ∧ Q i j H') X.xe s := by
  refine Call_ (ld_blt I hg hm boot_range (PyProof.Rows.callWith_type1 (thn (ha.run pos pins s σ H _ I h) fun us s1 ⟨vs, H1, I1, r1, q1⟩ => ?_) hs hpl))
  obtain ⟨i, j, e, q⟩ := q1
  subst e
  cases r1 with
  | cons r rr =>
    cases rr with
    | cons r' rr =>
      cases rr with
      | cons r'' rr =>
        cases rr
        obtain ⟨t, rfl⟩ := r
        obtain ⟨t', rfl⟩ := r'
        obtain ⟨t'', rfl⟩ := r''
        exact call_range_3 (by decide) ⟨_, i, j, _, _, _, H1, rfl, IsRange.new _ _ _ _ _ _ _, I1.kept fun b u e => Heap.get?_push_of_some _ e, q⟩ (.inl (PyProof.noPylong_small (by decide)))
theorem pe_listR3 (hc : X.calm = true) (hg : Gl X "list") (hm : X.mg "list" = none) (hg2 : Gl X "range") (hm2 : X.mg "range" = none) (ha : PA X [a, b, c] ta)
    (hs : starEach [a, b, c] X.env = (false, eval a X.env) :: starEach [b, c] X.env := by rfl) (hpl : (backTo pos2 (starEach [b, c] X.env)).any (·.1) = false := by rfl)
    (na : starEach [.Call (.Name "range" p2) [a, b, c] [] pos2] X.env = (false, eval (.Call (.Name "range" p2) [a, b, c] [] pos2) X.env) :: starEach [] X.env := by rfl) :
    PE X (.Call (.Name "list" p) [.Call (.Name "range" p2) [a, b, c] [] pos2] [] pos) (fun σ H Q => ta σ H fun vs H1 => ∃ i j, vs = [.int i, .int j, .int (-1)] ∧ (-(2 ^ 62) ≤ i ∧ i < 2 ^ 62 ∧ -(2 ^ 62) ≤ j ∧ j < 2 ^ 62 ∧ (i - j).toNat ≤ 2 ^ 24) ∧ ∀ q, H1 q = none → Q (.ref q) (upd H1 q (.lst (dnV i j)))) := by
  refine ⟨fun pins s σ H Q I h => ?_⟩
  refine Call_ (ld_blt I hg hm boot_list (PyProof.Rows.callWith_type1 (args_cons (thn (prg_3 hg2 hm2 ha hs hpl I h) fun x s1 ⟨r, i, j, t, u, v, H1, ex, hr, I1, ok, q⟩ => args_nil ?_) na) na))
  subst ex
  obtain ⟨b1, b2, b3, b4, b5⟩ := ok
  refine call_list_range (n := (i - j).toNat) (I1.ok.hd hc) hr (PySem.W.small_down b1 b2 b3 b4) (PySem.W.rangeSize_downNat i j) b5 fun h' tk acc c' hk e' hi => ?_
  refine ⟨.ref s1.heap.objs.size, upd H1 s1.heap.objs.size (.lst (dnV i j)), I1.laid hk (Nat.le_refl _) (show ObjOk X.prog X.w _ _ _ (.lst (dnV i j)) from ⟨?_, acc.toList, c', vals_dn hi, ?_⟩), rfl, q _ (I1.hok.fresh (Nat.le_refl _))⟩
  · unfold dnV
    rw [List.length_map, List.length_range, sizeLine_eq]
    omega
  · rw [Array.toArray_toList]
    exact e'
end
def fLR3 : List Val → Store → R Val
  | [.d (.int i), .d (.int j), .d (.int k)], S => if k = -1 ∧ (-1000000 ≤ i ∧ i ≤ 1000000 ∧ -1000000 ≤ j ∧ j ≤ 1000000) then .ok (.d (.lst ((List.range (i - j).toNat).map fun n => .int (i - (n : Nat))))) S else .bad
  | _, _ => .bad
theorem p_listR3 {c : Expr} {p2 pos2 : Pos} (hc : X.calm = true) (hg : Gl X "list") (hm : X.mg "list" = none) (hg2 : Gl X "range") (hm2 : X.mg "range" = none) (ha : PA X [a, b, c] (tA g W er))
    (hs : starEach [a, b, c] X.env = (false, eval a X.env) :: starEach [b, c] X.env := by rfl) (hpl : (backTo pos2 (starEach [b, c] X.env)).any (·.1) = false := by rfl)
    (na : starEach [.Call (.Name "range" p2) [a, b, c] [] pos2] X.env = (false, eval (.Call (.Name "range" p2) [a, b, c] [] pos2) X.env) :: starEach [] X.env := by rfl) :
    PE X (.Call (.Name "list" p) [.Call (.Name "range" p2) [a, b, c] [] pos2] [] pos) (tE g W (eCall fLR3 er)) :=
  (pe_listR3 hc hg hm hg2 hm2 ha hs hpl na).imp fun σ H Q ⟨w, Γ, S, st, en, h⟩ => tX_seq st en h fun us H1 xs S1 w1 s1 st1 en1 r1 h1 => by
    unfold fLR3 at h1
    split at h1
    · rename_i i j k
      obtain ⟨⟨hk, q1, q2, q3, q4⟩, h2⟩ := ite_q h1
      subst hk
      cases r1 with
      | cons a1 r1 =>
        cases r1 with
        | cons a2 r1 =>
          cases r1 with
          | cons a3 r1 =>
            cases r1
            cases a1
            cases a2
            cases a3
            refine ⟨i, j, rfl, ⟨by omega, by omega, by omega, by omega, by omega⟩, fun q hq => RQ.newQ h2 st1 hq (rep_lst st1 hq ?_)⟩
            have e : dnV i j = (List.range (i - j).toNat).map fun n => V.int (i - (n : Nat)) := by
              unfold dnV
              exact List.map_congr_left fun n _ => by rw [Int.mul_neg, Int.mul_one, ← Int.sub_eq_add_neg]
            rw [e]
            exact repL_of _ _ _ fun n _ => .int _
    · exact h1.elim
/-! ### walks downward -/
theorem items_down {w : Wd} {H : Hp} {lo : Int} {n : Nat} : Items g w H ((List.range n).map fun i => .int (lo - (i : Nat))) (Itc lo (-1) n) := fun w1 S1 H1 st le => by
  refine ⟨fun i hi => ?_, ?_⟩
  · have hl : ((List.range n).map fun i => D.int (lo - (i : Nat))).length = n := by rw [List.length_map, List.length_range]
    refine ⟨by rw [hl] at hi; exact hi, fun x H2 y => ?_⟩
    obtain ⟨rfl, rfl⟩ := y
    refine ⟨.refl _ _, st, fun d hd => ?_⟩
    rw [hl] at hi
    rw [List.getElem?_map, List.getElem?_range hi] at hd
    cases hd
    have e : lo - (i : Nat) = lo + (i : Nat) * (-1) := by rw [Int.mul_neg, Int.mul_one, ← Int.sub_eq_add_neg]
    show Rep _ _ _ (.int (lo - (i : Nat))) _
    rw [e]
    exact .int _
  · show n ≤ _
    rw [List.length_map, List.length_range]
    exact Nat.le_refl _
/-- range(a, b, -1) -/
def itR3 (r : Env → Store → R (List Val)) : Env → Store → R (List D) := fun Γ S => (r Γ S).bind fun xs S1 => match xs with
  | [.d (.int i), .d (.int j), .d (.int k)] => if k = -1 ∧ (-1000000 ≤ i ∧ i ≤ 1000000 ∧ -1000000 ≤ j ∧ j ≤ 1000000) then .ok ((List.range (i - j).toNat).map fun n => .int (i - (n : Nat))) S1 else .bad
  | _ => .bad
theorem i_range3 {tg c : Expr} (hg : Gl X "range") (hm : X.mg "range" = none) (ha : PA X [a, b, c] (tA g W er))
    (hs : starEach [a, b, c] X.env = (false, eval a X.env) :: starEach [b, c] X.env := by rfl) (hpl : (backTo pos (starEach [b, c] X.env)).any (·.1) = false := by rfl) : PI X tg (.Call (.Name "range" p) [a, b, c] [] pos) (tI g W (itR3 er)) :=
  (pi_range3 hg hm ha hs hpl).imp fun σ H Q ⟨w, Γ, S, st, en, h⟩ => tX_seq st en h fun us H1 xs S1 w1 s1 st1 en1 r1 h1 => by
    split at h1
    · rename_i i j k
      obtain ⟨⟨hk, q1, q2, q3, q4⟩, h2⟩ := ite_q h1
      subst hk
      cases r1 with
      | cons a1 r1 =>
        cases r1 with
        | cons a2 r1 =>
          cases r1 with
          | cons a3 r1 =>
            cases r1
            cases a1
            cases a2
            cases a3
            exact ⟨i, j, -1, _, rfl, RgC.neg (by omega) (by omega) (by omega) (by omega), RQ.okQ h2 st1 items_down⟩
    · exact h1.elim
/-- reversed(range(n)) -/
def itRv1 (a : Ev) : Env → Store → R (List D) := fun Γ S => (a Γ S).bind fun x S1 => match x with
  | .d (.int n) => if -1000000 ≤ n ∧ n ≤ 1000000 then .ok ((List.range n.toNat).map fun i => .int ((n.toNat : Int) - 1 - (i : Nat))) S1 else .bad
  | _ => .bad
theorem i_rev1 {tg : Expr} {p2 pos2 : Pos} (hg : Gl X "reversed") (hm : X.mg "reversed" = none) (hg2 : Gl X "range") (hm2 : X.mg "range" = none) (ha : PE X a (tE g W ea)) (na : starEach [a] X.env = (false, eval a X.env) :: starEach [] X.env := by rfl)
    (hs : starEach [.Call (.Name "range" p2) [a] [] pos2] X.env = (false, eval (.Call (.Name "range" p2) [a] [] pos2) X.env) :: starEach [] X.env := by rfl) :
    PI X tg (.Call (.Name "reversed" p) [.Call (.Name "range" p2) [a] [] pos2] [] pos) (tI g W (itRv1 ea)) :=
  (pi_revR hg hm (prg_1 hg2 hm2 ha na) hs).imp fun σ H Q ⟨w, Γ, S, st, en, h⟩ => tX_seq st en h fun u H1 x S1 w1 s1 st1 en1 r1 h1 => by
    split at h1
    · rename_i n
      obtain ⟨⟨q1, q2⟩, h2⟩ := ite_q h1
      cases r1
      refine ⟨n, rfl, by omega, by omega, by omega, by omega, ?_⟩
      have e : (0 : Int) + (((n - 0).toNat : Nat) : Int) - 1 = (n.toNat : Int) - 1 := by rw [Int.sub_zero, Int.zero_add]
      rw [e, Int.sub_zero]
      exact RQ.okQ h2 st1 items_down
    · exact h1.elim
/-! ### name, other = a value, a new list; by a tuple (a name that a lambda sees) -/
section
variable {kt k2 : Nat} {px py pt pt2 : Pos}
theorem s_parVT {i j : Nat} {x y : Str} (hc : X.calm = true) (hN : X.N.Nodup) (hi : X.N[i]? = some x) (hj : X.N[j]? = some y) (hij : i ≠ j)
    (hx : Loc X.env.scope x) (hy : Loc X.env.scope y) (ha : PE X a (tE cf.g cf.W ea)) (hb : PE X b (tN cf.g cf.W eb))
    (hfx : X.fn x = true ∨ X.env.scope.names.lookup x = some .local := by first | exact .inl rfl | exact .inr rfl | assumption) (hfy : X.fn y = true ∨ X.env.scope.names.lookup y = some .local := by first | exact .inl rfl | exact .inr rfl | assumption)
    (hw : swappedStores [.Tuple [.Name x px, .Name y py] kt pt] (.Tuple [a, b] k2 pt2) X.env = pure none)
    (hs : swapsWithSole [.Tuple [.Name x px, .Name y py] kt pt] (.Tuple [a, b] k2 pt2) pos.line X.env = pure false := by rfl)
    (h1 : (assignEach [.Tuple [.Name x px, .Name y py] kt pt] X.env).map (·.2) = [assign (.Tuple [.Name x px, .Name y py] kt pt) X.env] := by rfl)
    (hn : (assignEach [.Name x px, .Name y py] X.env).length = 2 := by rfl) (hst : (assignEach [.Name x px, .Name y py] X.env).findIdx? (·.1) = none := by rfl)
    (hs3 : (assignEach [.Name x px, .Name y py] X.env).map (·.2) = assign (.Name x px) X.env :: (assignEach [.Name y py] X.env).map (·.2) := by rfl) (hs4 : (assignEach [.Name y py] X.env).map (·.2) = assign (.Name y py) X.env :: (assignEach [] X.env).map (·.2) := by rfl)
    (hs1 : starEach [a, b] X.env = (false, eval a X.env) :: starEach [b] X.env := by rfl) (hs2 : starEach [b] X.env = (false, eval b X.env) :: starEach [] X.env := by rfl) :
    PS X (.Assign [.Tuple [.Name x px, .Name y py] kt pt] (.Tuple [a, b] k2 pt2) pos) (tS cf (sPVN i j ea eb)) :=
  (ps_asg (pe_tup (pa_cons ha (pa_cons hb pa_nil hs2) hs1)) (pg_tup (n := 2) hc (pgs_cons (pg_name hN hi hx hfx) (pgs_cons (pg_name hN hj hy hfy) pgs_nil hs4) hs3) hn hst) hs hw h1).imp fun D σ H ⟨w, Γ, S, so, en, fr, h⟩ =>
    tX_fl so en fr h fun u H1 x S1 w1 s1 st1 en1 fr1 r1 h1 => by
      cases x with
      | cell k => exact h1.elim
      | d x =>
        have q : tN cf.g cf.W eb σ H1 fun v H2 => ∀ p o, H2 p = none → D.nx ((σ.set j (some v)).set i (some u)) (upd H2 p o) := by
          refine new_q (D := { nx := fun σ' H' => ∀ p o, H' p = none → D.nx (σ'.set i (some u)) (upd H' p o), rt := D.rt, bk := D.bk, ct := D.ct }) ⟨w1, Γ, S1, st1, en1, fr1, ?_⟩
          have h1 : FQ cf w1 H1 (match sNew j eb Γ S1 with | .nx Γ1 S2 => .nx (Γ1.set i (some (.d x))) S2 | f => f) D := h1
          cases e : sNew j eb Γ S1 with
          | nx Γ1 S2 =>
            rw [e] at h1
            intro σ' w' H' l f st' en' p o hp
            have sp := step_new (o := o) st' hp
            exact h1 (σ'.set i (some u)) w' (upd H' p o) (l.trans sp.le (by rw [f.hid, fr1.hid]; exact fun _ z => z)) (f.stp sp) (st'.new hp) ((en'.set i (x := .d x) (Rep.le l r1)).step sp)
          | bk Γ1 S1 => rw [e] at h1; exact h1
          | ct Γ1 S1 => rw [e] at h1; exact h1
          | rt x S1 => rw [e] at h1; exact h1
          | exc c x Γ1 S1 => rw [e] at h1; exact h1
          | bad => rw [e] at h1; exact h1
        obtain ⟨w2, Γ2, S2, a1, a2, a3⟩ := q
        refine ⟨w2, Γ2, S2, a1, a2, RQN.out a3 fun v H2 z => ⟨(by decide : 2 ≤ sizeLine), fun p hp => ⟨p, [u, v], rfl, .inl (.inl upd_same), rfl, ?_⟩⟩⟩
        refine ⟨u, [v], rfl, v, [], rfl, rfl, ?_⟩
        show D.nx ((σ.set i (some u)).set j (some v)) _
        rw [List.set_comm _ _ hij]
        exact z p _ hp
end
/-! ### name, other = two new lists -/
theorem new_q2 {i : Nat} {D : Ends} {σ σ2 : L2.St} {H : Hp} {w : Wd} {Γ Γ2 : Env} {S : Store} (so : StOk cf.g w S H) (en : EnvOk cf.g w Γ σ H) (en2 : EnvOk cf.g w Γ2 σ2 H) (fr : cf.fr w H)
    (h : FQ cf w H ((ea Γ S).fl Γ fun y S2 => match y with | .d (.lst es) => .nx (Γ2.set i (some (.cell S2.length))) (S2 ++ [some (.lst es)]) | _ => .bad) D) : tN cf.g cf.W ea σ H fun x H1 => D.nx (σ2.set i (some x)) H1 := by
    refine ⟨w, Γ, S, so, en, ?_⟩
    cases e : ea Γ S with
    | bad => rw [e] at h; exact h
    | exc c x S1 =>
      rw [e] at h
      exact fun cls dx w' H' s st' r => h σ cls dx w' H' s.le (fr.stp s) st' (en.step s) r
    | ok x S1 =>
      rw [e] at h
      cases x with
      | cell k => exact h.elim
      | d x =>
        cases x with
        | lst ds =>
          intro p vs w' H' n st' hp l
          obtain ⟨m', h'⟩ := w'
          have eh : h' = p :: w.hid := n.hid
          subst eh
          have np : p ∉ w.hid := fun z => so.hidN z n.free
          have ln : m'.length = w.m.length := n.q.len
          have lS : m'.length = S1.length := st'.len
          have ad : Le w H ⟨m' ++ [some p], w.hid⟩ H' := n.q.le.trans le_adopt fun a z => List.mem_cons_of_mem _ z
          have h0p : cf.H0 p = none := by
            cases q : cf.H0 p with
            | none => rfl
            | some o => exact absurd n.free (fr.le.trk p (by rw [q]; exact fun z => by cases z))
          refine h (σ2.set i (some (.ref p))) ⟨m' ++ [some p], w.hid⟩ H' ad ⟨fr.le.trans ad (by rw [fr.hid]; exact fun _ z => z), fr.hid, ?_, fun k a hk e => ?_, fun k a hk e => ?_⟩ (st'.adopt np hp l) ?_
          · have := fr.len
            show _ ≤ (m' ++ [some p]).length
            rw [List.length_append]
            omega
          · have hk2 := fr.len
            have e : (m' ++ [some p])[k]? = some (some a) := e
            rw [List.getElem?_append_left (by omega)] at e
            exact fr.old k a hk (n.q.old k a e)
          · have e : (m' ++ [some p])[k]? = some (some a) := e
            by_cases hk3 : k < m'.length
            · rw [List.getElem?_append_left hk3] at e
              exact fr.new k a hk (n.q.old k a e)
            · rw [List.getElem?_append_right (by omega)] at e
              cases e2 : k - m'.length with
              | zero =>
                rw [e2] at e
                have e : some (some p) = some (some a) := e
                cases e
                exact h0p
              | succ j =>
                rw [e2] at e
                simp at e
          · have en' : EnvOk cf.g ⟨m' ++ [some p], w.hid⟩ Γ2 σ2 H' := ⟨en2.len, fun j y e => by
              obtain ⟨v, h1, h2⟩ := en2.val j y e
              refine ⟨v, h1, ?_⟩
              cases y with
              | d y => exact Rep.le ad h2
              | cell k =>
                have hk : k < w.m.length := h2.1
                refine ⟨by show k < (m' ++ [some p]).length; rw [List.length_append]; omega, fun a e => h2.2 a ?_⟩
                have e : (m' ++ [some p])[k]? = some (some a) := e
                rw [List.getElem?_append_left (by omega)] at e
                exact n.q.old k a e⟩
            refine en'.set i (x := .cell S1.length) ⟨?_, fun a e => ?_⟩
            · show _ < (m' ++ [some p]).length
              rw [List.length_append, lS]
              exact Nat.lt_succ_self _
            · have e : (m' ++ [some p])[S1.length]? = some (some a) := e
              rw [List.getElem?_append_right (by omega), lS, Nat.sub_self] at e
              have e : some (some p) = some (some a) := e
              cases e
              rfl
        | _ => exact h.elim
def sPNN (i j : Nat) (a b : Ev) : Sv := fun Γ S => match sNew i a Γ S with
  | .nx Γ1 S1 => (b (Γ1.set i none) S1).fl (Γ1.set i none) fun y S2 => match y with | .d (.lst es) => .nx (Γ1.set j (some (.cell S2.length))) (S2 ++ [some (.lst es)]) | _ => .bad
  | f => f
section
variable {kt k2 : Nat} {px py pt pt2 : Pos}
theorem s_parNN {i j : Nat} {x y : Str} (hc : X.calm = true) (hN : X.N.Nodup) (hi : X.N[i]? = some x) (hj : X.N[j]? = some y) (hij : i ≠ j)
    (hx : X.env.scope.names.lookup x = some .local) (hy : X.env.scope.names.lookup y = some .local) (ha : PE X a (tN cf.g cf.W ea)) (hb : PE X b (tN cf.g cf.W eb))
    (hw : swappedStores [.Tuple [.Name x px, .Name y py] kt pt] (.Tuple [a, b] k2 pt2) X.env = pure (some [x, y]))
    (hs : swapsWithSole [.Tuple [.Name x px, .Name y py] kt pt] (.Tuple [a, b] k2 pt2) pos.line X.env = pure false := by rfl)
    (hs1 : starEach [a, b] X.env = (false, eval a X.env) :: starEach [b] X.env := by rfl) (hs2 : starEach [b] X.env = (false, eval b X.env) :: starEach [] X.env := by rfl) :
    PS X (.Assign [.Tuple [.Name x px, .Name y py] kt pt] (.Tuple [a, b] k2 pt2) pos) (tS cf (sPNN i j ea eb)) :=
  (ps_par hc hN hi hj hij hx hy (pa_cons ha (pa_cons hb pa_nil hs2) hs1) hw hs).imp fun D σ H ⟨w, Γ, S, so, en, fr, h⟩ => by
    have q := new_q (i := i) (σ := σ) (H := H) (ea := ea) (cf := cf) (D := { nx := fun σ' H' => tN cf.g cf.W eb (σ'.set i (σ[i]?.join)) H' fun v H2 => D.nx (σ'.set j (some v)) H2, rt := D.rt, bk := D.bk, ct := D.ct }) ⟨w, Γ, S, so, en, fr, by
      unfold sPNN at h
      cases e : sNew i ea Γ S with
      | nx Γ1 S1 =>
        rw [e] at h
        intro σ' w' H' l f st' en'
        exact new_q2 st' (en'.drop1 i _) en' f (FQ.to h l (fun a z => by rw [f.hid, ← fr.hid]; exact z))
      | bk Γ1 S1 => rw [e] at h; exact h
      | ct Γ1 S1 => rw [e] at h; exact h
      | rt x S1 => rw [e] at h; exact h
      | exc c x Γ1 S1 => rw [e] at h; exact h
      | bad => rw [e] at h; exact h⟩
    obtain ⟨w1, Γ1, S1, a1, a2, a3⟩ := q
    refine ⟨w1, Γ1, S1, a1, a2, RQN.out a3 fun u H1 z => ?_⟩
    have z : tN cf.g cf.W eb ((σ.set i (some u)).set i (σ[i]?.join)) H1 fun v H2 => D.nx ((σ.set i (some u)).set j (some v)) H2 := z
    rw [set_back] at z
    obtain ⟨w2, Γ2, S2, b1, b2, b3⟩ := z
    exact ⟨w2, Γ2, S2, b1, b2, RQN.out b3 fun v H2 z => ⟨u, v, rfl, z⟩⟩
end
/-! ### three names = two new lists, a value -/
def sPNNV (i j l : Nat) (a b c : Ev) : Sv := fun Γ S => match sNew i a Γ S with
  | .nx Γ1 S1 => (b (Γ1.set i none) S1).fl (Γ1.set i none) fun y S2 => match y with
    | .d (.lst es) => (c (((Γ1.set j (some (.cell S2.length))).set j none).set i none) (S2 ++ [some (.lst es)])).fl (((Γ1.set j (some (.cell S2.length))).set j none).set i none) fun z S4 => .nx ((Γ1.set j (some (.cell S2.length))).set l (some z)) S4
    | _ => .bad
  | f => f
theorem set_same (σ : L2.St) (i : Nat) : σ.set i (σ[i]?.join) = σ := by
  by_cases h : i < σ.length
  · rw [List.getElem?_eq_getElem h]
    show σ.set i σ[i] = σ
    exact List.set_getElem_self h
  · exact List.set_eq_of_length_le (by omega)
section
variable {kt k2 : Nat} {px py pz pt pt2 : Pos} {c : Expr} {ec : Ev}
theorem s_parNNV {i j l : Nat} {x y z : Str} (hc : X.calm = true) (hN : X.N.Nodup) (hi : X.N[i]? = some x) (hj : X.N[j]? = some y) (hl : X.N[l]? = some z) (hij : i ≠ j) (hil : i ≠ l) (hjl : j ≠ l)
    (hx : X.env.scope.names.lookup x = some .local) (hy : X.env.scope.names.lookup y = some .local) (hz : X.env.scope.names.lookup z = some .local) (ha : PE X a (tN cf.g cf.W ea)) (hb : PE X b (tN cf.g cf.W eb)) (hcc : PE X c (tE cf.g cf.W ec))
    (hw : swappedStores [.Tuple [.Name x px, .Name y py, .Name z pz] kt pt] (.Tuple [a, b, c] k2 pt2) X.env = pure (some [x, y, z]))
    (hs : swapsWithSole [.Tuple [.Name x px, .Name y py, .Name z pz] kt pt] (.Tuple [a, b, c] k2 pt2) pos.line X.env = pure false := by rfl)
    (hs1 : starEach [a, b, c] X.env = (false, eval a X.env) :: starEach [b, c] X.env := by rfl) (hs2 : starEach [b, c] X.env = (false, eval b X.env) :: starEach [c] X.env := by rfl) (hs3 : starEach [c] X.env = (false, eval c X.env) :: starEach [] X.env := by rfl) :
    PS X (.Assign [.Tuple [.Name x px, .Name y py, .Name z pz] kt pt] (.Tuple [a, b, c] k2 pt2) pos) (tS cf (sPNNV i j l ea eb ec)) :=
  (ps_par3 hc hN hi hj hl hij hil hjl hx hy hz (pa_cons ha (pa_cons hb (pa_cons hcc pa_nil hs3) hs2) hs1) hw hs).imp fun D σ H ⟨w, Γ, S, so, en, fr, h⟩ => by
    have q := new_q (i := i) (σ := σ) (H := H) (ea := ea) (cf := cf) (D := { nx := fun σ' H' => tN cf.g cf.W eb (σ'.set i (σ[i]?.join)) H' fun v H2 => tE cf.g cf.W ec (((σ'.set j (some v)).set j (σ[j]?.join)).set i (σ[i]?.join)) H2 fun t H3 => D.nx ((σ'.set j (some v)).set l (some t)) H3, rt := D.rt, bk := D.bk, ct := D.ct }) ⟨w, Γ, S, so, en, fr, by
      unfold sPNNV at h
      cases e : sNew i ea Γ S with
      | nx Γ1 S1 =>
        rw [e] at h
        intro σ' w' H' l0 f st' en'
        have h' := FQ.to h l0 (fun a z => by rw [f.hid, ← fr.hid]; exact z)
        refine new_q2 (D := { nx := fun σ'' H'' => tE cf.g cf.W ec ((σ''.set j (σ[j]?.join)).set i (σ[i]?.join)) H'' fun t H3 => D.nx (σ''.set l (some t)) H3, rt := D.rt, bk := D.bk, ct := D.ct }) st' (en'.drop1 i _) en' f ?_
        have h' : FQ cf w' H' ((eb (Γ1.set i none) S1).fl (Γ1.set i none) fun y S2 => match y with
          | .d (.lst es) => (ec (((Γ1.set j (some (.cell S2.length))).set j none).set i none) (S2 ++ [some (.lst es)])).fl (((Γ1.set j (some (.cell S2.length))).set j none).set i none) fun z S4 => .nx ((Γ1.set j (some (.cell S2.length))).set l (some z)) S4
          | _ => .bad) D := h'
        cases eb' : eb (Γ1.set i none) S1 with
        | ok y S2 =>
          rw [eb'] at h'
          cases y with
          | cell k => exact h'.elim
          | d y =>
            cases y with
            | lst es =>
              intro σ'' w'' H'' l2 f2 st2 en2
              exact tX_fl st2 ((en2.drop1 j _).drop1 i _) f2 (FQ.to h' l2 (fun a z => by rw [f2.hid, ← f.hid]; exact z)) fun v H3 z S4 w4 s4 st4 en4 fr4 r4 h4 => h4 (σ''.set l (some v)) w4 H3 (.refl w4 H3) fr4 st4 ((en2.step s4).set l r4)
            | _ => exact h'.elim
        | exc c x S2 => rw [eb'] at h'; exact h'
        | bad => rw [eb'] at h'; exact h'
      | bk Γ1 S1 => rw [e] at h; exact h
      | ct Γ1 S1 => rw [e] at h; exact h
      | rt x S1 => rw [e] at h; exact h
      | exc c x Γ1 S1 => rw [e] at h; exact h
      | bad => rw [e] at h; exact h⟩
    obtain ⟨w1, Γ1, S1, a1, a2, a3⟩ := q
    refine ⟨w1, Γ1, S1, a1, a2, RQN.out a3 fun u H1 z => ?_⟩
    have z : tN cf.g cf.W eb ((σ.set i (some u)).set i (σ[i]?.join)) H1 fun v H2 => tE cf.g cf.W ec ((((σ.set i (some u)).set j (some v)).set j (σ[j]?.join)).set i (σ[i]?.join)) H2 fun t H3 => D.nx (((σ.set i (some u)).set j (some v)).set l (some t)) H3 := z
    rw [set_back] at z
    obtain ⟨w2, Γ2, S2, b1, b2, b3⟩ := z
    refine ⟨w2, Γ2, S2, b1, b2, RQN.out b3 fun v H2 z => ?_⟩
    have es : (((σ.set i (some u)).set j (some v)).set j (σ[j]?.join)).set i (σ[i]?.join) = σ := by
      rw [List.set_set, List.set_comm _ _ hij, set_same, set_back]
    rw [es] at z
    obtain ⟨w3, Γ3, S3, c1, c2, c3⟩ := z
    exact ⟨w3, Γ3, S3, c1, c2, RQ.out c3 fun t H3 z => ⟨u, v, t, rfl, z⟩⟩
end
end
end Pd

set_option maxHeartbeats 2000000
/-! a list of the store, lent as a value to an expression that gives an atom -/
namespace Pd
open PySem PySem.Spec PyProof.Rows L2
def flat : D → Bool
  | .non => true | .bl _ => true | .int _ => true | .str _ => true | _ => false
def allLst : Store → Bool
  | [] => true
  | some (.lst _) :: r => allLst r
  | none :: r => allLst r
  | _ => false
/-- e, in which the list of the store that name i holds stands as a value, and no object of the store stands -/
def eLend (i : Nat) (e : Ev) : Ev := fun Γ S => match Γ[i]? with
  | some (some (.cell k)) => match S[k]? with
    | some (some (.lst ds)) => match e (Γ.set i (some (.d (.lst ds)))) (S.map fun _ => none) with
      | .ok (.d v) _ => if flat v && allLst S then .ok (.d v) S else .bad
      | _ => .bad
    | _ => .bad
  | _ => e Γ S
theorem allLst_get : ∀ {S : Store} {r : Nat} {c : Cell}, allLst S = true → S[r]? = some (some c) → ∃ ds, c = .lst ds
  | [], _, _, _, e => by simp at e
  | some (.refs _) :: _, _, _, h, _ => by cases h
  | some (.obj _ _) :: _, _, _, h, _ => by cases h
  | none :: S, 0, _, _, e => by simp at e
  | some (.lst ds) :: S, 0, _, _, e => ⟨ds, by simp at e; exact e.symm⟩
  | none :: S, r + 1, _, h, e => allLst_get (S := S) (r := r) h (by simpa using e)
  | some (.lst _) :: S, r + 1, _, h, e => allLst_get (S := S) (r := r) h (by simpa using e)
section
variable {X : Cx} {g : Gx} {W : WX} {a : Expr} {ea : Ev}
theorem rep_flat {w w' : Wd} {H H' : Hp} {d : D} {v : V} (f : flat d = true) (r : Rep g w H d v) : Rep g w' H' d v := by
  cases r <;> first | (constructor; done) | (cases f)
theorem get_none {α β : Type} {l : List α} {j : Nat} {b : β} (e : (l.map fun _ => (none : Option β))[j]? = some (some b)) : False := by
  rw [List.getElem?_map] at e
  cases q : l[j]? <;> rw [q] at e <;> cases e
theorem mem_none {α β : Type} {l : List α} {b : β} (e : some b ∈ (l.map fun _ => (none : Option β))) : False := by
  obtain ⟨_, _, z⟩ := List.mem_map.mp e
  cases z
theorem p_lend {i : Nat} (ha : PE X a (tE g W ea)) : PE X a (tE g W (eLend i ea)) := ha.imp fun σ H Q ⟨w, Γ, S, st, en, h⟩ => by
  unfold eLend at h
  split at h
  · rename_i k hk
    split at h
    · rename_i ds hS
      obtain ⟨m, hid⟩ := w
      obtain ⟨ad, hm, vs, hH, rl⟩ := st.cell k _ hS
      obtain ⟨v, hv, rv⟩ := en.val i _ hk
      have rv2 : v = .ref ad := rv.2 ad hm
      have sub : ∀ b, (⟨m.map fun _ => none, hid⟩ : Wd).av b → (⟨m, hid⟩ : Wd).av b := fun b z => z.elim (fun z => (mem_none z).elim) .inr
      have l1 : Le ⟨m, hid⟩ H ⟨m.map fun _ => none, hid⟩ H := le_sub sub
      have stp1 : Stp ⟨m, hid⟩ H ⟨m.map fun _ => none, hid⟩ H := ⟨l1, rfl, by simp, fun j b e => (get_none e).elim⟩
      have st1 : StOk g ⟨m.map fun _ => none, hid⟩ (S.map fun _ => none) H :=
        ⟨by simpa using st.len, fun j c e => (get_none e).elim, fun j b e => (get_none e).elim, fun j1 j2 b e => (get_none e).elim, fun b z => ⟨fun y => (mem_none y).elim, (st.hid b z).2⟩, fun r ks e => (get_none e).elim, fun p z => (st.tab p z).le l1 fun _ e _ => e⟩
      have nav : ¬ (⟨m.map fun _ => none, hid⟩ : Wd).av ad := fun z => by
        rcases z with z | z
        · exact mem_none z
        · exact (st.hid ad z).1 (List.mem_of_getElem? hm)
      have rg : Rep g ⟨m.map fun _ => none, hid⟩ H (.lst ds) (.ref ad) := .lst hH nav (RepL.le l1 rl)
      have en1 : EnvOk g ⟨m.map fun _ => none, hid⟩ (Γ.set i (some (.d (.lst ds)))) σ H := by
        refine ⟨by rw [List.length_set]; exact en.len, fun j x e => ?_⟩
        by_cases hj : i = j
        · subst hj
          have hlt : i < Γ.length := by
            rcases Nat.lt_or_ge i Γ.length with q | q
            · exact q
            · rw [List.getElem?_eq_none (by simpa using q)] at e
              cases e
          rw [List.getElem?_set_self hlt] at e
          cases e
          exact ⟨v, hv, by rw [rv2]; exact rg⟩
        · rw [List.getElem?_set_ne hj] at e
          obtain ⟨u, h1, h2⟩ := en.val j x e
          exact ⟨u, h1, h2.step stp1⟩
      refine ⟨_, _, _, st1, en1, ?_⟩
      cases e : ea (Γ.set i (some (.d (.lst ds)))) (S.map fun _ => none) with
      | bad => rw [e] at h; exact h.elim
      | exc c x S1 => rw [e] at h; exact h.elim
      | ok x S1 =>
        rw [e] at h
        cases x with
        | cell j => exact h.elim
        | d x =>
          have h : RQ g W (RepV g) ⟨m, hid⟩ σ H (if flat x && allLst S then .ok (.d x) S else .bad) Q := h
          by_cases hf : (flat x && allLst S) = true
          · rw [if_pos hf] at h
            obtain ⟨hf1, hf2⟩ := Bool.and_eq_true_iff.mp hf
            intro u w2 H2 s2 st2 r2
            have keep : ∀ (j : Nat) (b : Addr) (o : HO), m[j]? = some (some b) → H b = some o → Firm o → H2 b = some o := fun j b o e q f => s2.le.keepN b o q f fun z => by
              rcases z with z | z
              · exact mem_none z
              · exact (st.hid b z).1 (List.mem_of_getElem? e)
            have s3 : Stp ⟨m, hid⟩ H ⟨m, hid⟩ H2 := ⟨⟨fun b z => .inl z, fun b o e f n => s2.le.keepN b o e f fun z => n (sub b z), s2.le.trk, s2.le.hk⟩, rfl, rfl, fun _ _ e => e⟩
            have noav : ∀ b, (∀ xs, H2 b ≠ some (.lst xs)) → ¬ (⟨m, hid⟩ : Wd).av b := fun b n z => by
              rcases z with z | z
              · obtain ⟨j, hj⟩ := List.getElem?_of_mem z
                obtain ⟨c, hc⟩ := st.live j b hj
                obtain ⟨es, rfl⟩ := allLst_get hf2 hc
                obtain ⟨b', hb, us, h1, h2⟩ := st.cell j _ hc
                have e : some (some b) = some (some b') := by rw [← hj]; exact hb
                cases e
                exact n us (keep j b _ hj h1 (by constructor <;> (intro x z; cases z)))
              · obtain ⟨xs, q⟩ := (st.hid b z).2
                exact n xs ((s2.le.hk b z).trans q)
            refine h u _ _ s3 ⟨st.len, fun j c e => ?_, st.live, st.inj, fun b z => ⟨(st.hid b z).1, ?_⟩, st.lo, fun p z => ?_⟩ (rep_flat hf1 r2)
            · obtain ⟨es, rfl⟩ := allLst_get hf2 e
              obtain ⟨b, hb, us, h1, h2⟩ := st.cell j _ e
              exact ⟨b, hb, us, keep j b _ hb h1 (by constructor <;> (intro x z; cases z)), RepL.le s3.le h2⟩
            · obtain ⟨xs, q⟩ := (st.hid b z).2
              exact ⟨xs, (s2.le.hk b z).trans q⟩
            · obtain ⟨ps, h1, h2, h3, h4⟩ := st.tab p z
              obtain ⟨ps', k1, k2, k3, k4⟩ := st2.tab p z
              exact ⟨ps', k1, k2, noav p.1 (by rw [k1]; exact fun xs z => by cases z), fun pos cv e => by
                obtain ⟨c, e1, e2, e3⟩ := k4 pos cv e
                exact ⟨c, e1, e2, noav c (by rw [e2]; exact fun xs z => by unfold LamX.CodeO at z; cases z)⟩⟩
          · rw [if_neg hf] at h
            exact h.elim
    · exact h.elim
  · exact ⟨w, Γ, S, st, en, h⟩
end
end Pd

namespace Pq
open PySem L2 Pd
/-! ### small things about denotations -/
theorem ixN_nat (n j : Nat) (h : j < n) : ixN n (j : Int) = some j := by
  unfold ixN
  rw [if_pos (by omega), if_pos (by omega)]
  simp
theorem atI_k {α : Type} (l : List α) (j : Nat) : atI l (j : Int) = l[j]? := by
  unfold atI
  by_cases h : j < l.length
  · rw [ixN_nat _ _ h]
    rfl
  · unfold ixN
    rw [if_pos (by omega), if_neg (by omega), List.getElem?_eq_none (by omega)]
    rfl
theorem atI_0 {α : Type} (l : List α) : atI l 0 = l[0]? := atI_k l 0
theorem atI_1 {α : Type} (l : List α) : atI l 1 = l[1]? := atI_k l 1
theorem atI_2 {α : Type} (l : List α) : atI l 2 = l[2]? := atI_k l 2
theorem atI_3 {α : Type} (l : List α) : atI l 3 = l[3]? := atI_k l 3
theorem atI_end {α : Type} (l : List α) : atI l (-1) = l[l.length - 1]? := by
  unfold atI ixN
  rw [if_neg (by omega)]
  cases l with
  | nil => simp
  | cons x r =>
    rw [if_pos (by simp; omega)]
    have e : ((-1 : Int) + ((x :: r).length : Nat)).toNat = (x :: r).length - 1 := by omega
    rw [e]
    rfl
theorem mulOk_l {i j : Int} (h : -9223372036854775808 ≤ i) (h2 : i ≤ 9223372036854775808) : mulOk i j = true := mulOk_iff.mpr (.inr (.inl (by
  have e : (2 : Nat) ^ 64 = 18446744073709551616 := by decide
  omega)))
theorem mulOk_r {i j : Int} (h : -9223372036854775808 ≤ j) (h2 : j ≤ 9223372036854775808) : mulOk i j = true := mulOk_iff.mpr (.inr (.inr (by
  have e : (2 : Nat) ^ 64 = 18446744073709551616 := by decide
  omega)))
theorem mulOk_b {i j : Int} (h : i.natAbs < big) (h2 : j.natAbs < big) : mulOk i j = true := mulOk_iff.mpr (.inl ⟨h, h2⟩)
theorem divOk_l {j : Int} (h : 0 < j) (h2 : j ≤ 9223372036854775808) : divOk j = true := divOk_iff.mpr ⟨h, by
  have e : (2 : Nat) ^ 64 = 18446744073709551616 := by decide
  have : (2 : Nat) ^ 64 ≤ bigD := Nat.pow_le_pow_right (by decide) (by decide)
  omega⟩
theorem divOk_m {j : Int} (h : 0 < j) (h2 : j ≤ 10 ^ 70) : divOk j = true := divOk_iff.mpr ⟨h, by
  have e : (10 : Nat) ^ 70 < 2 ^ 300 := by decide
  have : (2 : Nat) ^ 300 ≤ bigD := Nat.pow_le_pow_right (by decide) (by decide)
  have e2 : ((10 ^ 70 : Nat) : Int) = 10 ^ 70 := by decide
  omega⟩
theorem powOk_l {i j : Int} (h : 0 ≤ j) (h2 : j ≤ 1000) (h3 : i.natAbs ≤ 10 ^ 70) : powOk i j = true := powOk_iff.mpr ⟨⟨h, h2⟩, by
  have e : (10 : Nat) ^ 70 < 2 ^ 2000 := by decide
  omega⟩
theorem asInts_map (ns : List Int) : asInts (ns.map .int) = some ns := by
  induction ns with
  | nil => rfl
  | cons n ns ih => simp [asInts, ih]
theorem asBls_map {α : Type} (p : α → Bool) (l : List α) : asBls (l.map fun x => .bl (p x)) = some (l.map p) := by
  induction l with
  | nil => rfl
  | cons n ns ih => simp [asBls, ih]
theorem eqvL_ints : ∀ (a b : List Int), eqvL (a.map .int) (b.map .int) = decide (a = b)
  | [], [] => by simp [eqvL]
  | [], b :: bs => by simp [eqvL]
  | a :: as, [] => by simp [eqvL]
  | a :: as, b :: bs => by
    have ih := eqvL_ints as bs
    simp only [List.map_cons, eqvL, D.eqv, ih]
    by_cases h : a = b <;> simp [h]
theorem fitL_ints (n : Nat) : ∀ (a : List Int), fitL n (a.map .int) = true
  | [] => by simp [fitL]
  | a :: as => by
    simp only [List.map_cons, fitL, fitL_ints n as, Bool.and_true]
    cases n <;> simp [fit]
theorem fitL_all (n : Nat) (ds : List D) (h : ∀ d ∈ ds, fit n d = true) : fitL n ds = true := by
  induction ds with
  | nil => simp [fitL]
  | cons d ds ih =>
    unfold fitL
    rw [h d List.mem_cons_self, ih fun x hx => h x (List.mem_cons_of_mem _ hx)]
    rfl
mutual
theorem eqv_self : ∀ (n : Nat) (d : D), fit n d = true → d.eqv d = true
  | n, d, h => by
    cases d with
    | non => rfl
    | bl b => simp [D.eqv]
    | int i => simp [D.eqv]
    | str x => simp [D.eqv]
    | tup xs =>
      cases n with
      | zero => simp [fit] at h
      | succ n =>
        unfold fit at h
        unfold D.eqv
        exact eqvL_self n xs h
    | lst xs =>
      cases n with
      | zero => simp [fit] at h
      | succ n =>
        unfold fit at h
        unfold D.eqv
        exact eqvL_self n xs h
    | obj _ _ => cases n <;> simp [fit] at h
    | scr _ => cases n <;> simp [fit] at h
    | val _ => cases n <;> simp [fit] at h
    | fn _ => cases n <;> simp [fit] at h
    | dct _ _ => cases n <;> simp [fit] at h
theorem eqvL_self : ∀ (n : Nat) (d : List D), fitL n d = true → eqvL d d = true
  | _, [], _ => by simp [eqvL]
  | n, x :: xs, h => by
    unfold fitL at h
    obtain ⟨a1, a2⟩ := Bool.and_eq_true_iff.mp h
    unfold eqvL
    rw [eqv_self n x a1, eqvL_self n xs a2]
    rfl
end
/-- a comprehension whose turns leave the store -/
theorem lcD_map {α : Type} {tg : Tg} {test : Pd.Env → Store → R Bool} {elt : Ev} {Γ : Pd.Env} {S : Store} (l : List α) (r f : α → D)
    (h : ∀ x ∈ l, ∃ Γ1, tg (r x) Γ = some Γ1 ∧ test Γ1 S = .ok true S ∧ elt Γ1 S = .ok (.d (f x)) S) : lcD tg test elt Γ (l.map r) S = .ok (l.map f) S := by
  induction l with
  | nil => rfl
  | cons x l ih =>
    obtain ⟨Γ1, h1, h2, h3⟩ := h x List.mem_cons_self
    rw [List.map_cons, lcD, h1]
    simp only [h2, h3, noX, R.bind, lcY, if_true, ih fun y hy => h y (List.mem_cons_of_mem _ hy), List.map_cons]
theorem lcD_filter {α : Type} {tg : Tg} {test : Pd.Env → Store → R Bool} {elt : Ev} {Γ : Pd.Env} {S : Store} (l : List α) (r f : α → D) (p : α → Bool)
    (h : ∀ x ∈ l, ∃ Γ1, tg (r x) Γ = some Γ1 ∧ test Γ1 S = .ok (p x) S ∧ (p x = true → elt Γ1 S = .ok (.d (f x)) S)) : lcD tg test elt Γ (l.map r) S = .ok ((l.filter p).map f) S := by
  induction l with
  | nil => rfl
  | cons x l ih =>
    obtain ⟨Γ1, h1, h2, h3⟩ := h x List.mem_cons_self
    have ih' := ih fun y hy => h y (List.mem_cons_of_mem _ hy)
    rw [List.map_cons, lcD, h1]
    cases hp : p x with
    | true => simp only [h2, hp, h3 hp, noX, R.bind, lcY, if_true, ih', List.filter_cons, List.map_cons]
    | false => simp [h2, hp, noX, R.bind, ih', List.filter_cons]
/-- a comprehension whose turns change the store -/
theorem lcD_st {α : Type} {tg : Tg} {elt : Ev} {Γ : Pd.Env} (l : List α) (r : α → D) (Q : D → Prop) (I : Store → Prop) (S : Store) (h0 : I S)
    (h : ∀ x ∈ l, ∀ S, I S → ∃ Γ1, tg (r x) Γ = some Γ1 ∧ ∃ d S', elt Γ1 S = .ok (.d d) S' ∧ Q d ∧ I S') : ∃ ds S', lcD tg tYesD elt Γ (l.map r) S = .ok ds S' ∧ ds.length = l.length ∧ (∀ d ∈ ds, Q d) ∧ I S' := by
  induction l generalizing S with
  | nil => exact ⟨[], S, rfl, rfl, by simp, h0⟩
  | cons x l ih =>
    obtain ⟨Γ1, h1, d, S1, h2, h3, h4⟩ := h x List.mem_cons_self S h0
    obtain ⟨ds, S2, e, e1, e2, e3⟩ := ih S1 h4 fun y hy => h y (List.mem_cons_of_mem _ hy)
    refine ⟨d :: ds, S2, ?_, by simp [e1], ?_, e3⟩
    · rw [List.map_cons, lcD, h1]
      simp only [tYesD, h2, noX, R.bind, lcY, if_true, e]
    · intro z hz
      rcases List.mem_cons.mp hz with q | q
      · rw [q]; exact h3
      · exact e2 z q
theorem forD_inv {tg : Tg} {body : Sv} (l : List D) (P : Nat → Pd.Env → Store → Prop) {Γ : Pd.Env} {S : Store} (h0 : P 0 Γ S)
    (hs : ∀ i x Γ S, l[i]? = some x → P i Γ S → ∃ Γ1, tg x Γ = some Γ1 ∧ ∃ Γ2 S2, (body Γ1 S = .nx Γ2 S2 ∨ body Γ1 S = .ct Γ2 S2) ∧ P (i + 1) Γ2 S2) :
    ∃ Γ' S', forD tg body l Γ S = .nx Γ' S' ∧ P l.length Γ' S' := by
  induction l generalizing P Γ S with
  | nil => exact ⟨Γ, S, rfl, h0⟩
  | cons x l ih =>
    obtain ⟨Γ1, h1, Γ2, S2, h2, h3⟩ := hs 0 x Γ S rfl h0
    obtain ⟨Γ', S', e, hp⟩ := ih (fun i => P (i + 1)) h3 fun i y Γ S hy hP => hs (i + 1) y Γ S (by simpa using hy) hP
    refine ⟨Γ', S', ?_, hp⟩
    rw [forD, h1]
    rcases h2 with h2 | h2 <;> simp only [h2, F.lp, e]
theorem whD_step {t : Ev} {body : Sv} {n : Nat} {Γ : Pd.Env} {S : Store} {Γ2 : Pd.Env} {S1 S2 : Store} (ht : eTest t Γ S = .ok true S1) (hb : body Γ S1 = .nx Γ2 S2) : whD t body (n + 1) Γ S = whD t body n Γ2 S2 := by
  rw [whD, ht]
  simp only [R.fl, if_true, hb, F.lp]
theorem whD_end {t : Ev} {body : Sv} {n : Nat} {Γ : Pd.Env} {S S1 : Store} (ht : eTest t Γ S = .ok false S1) : whD t body (n + 1) Γ S = .nx Γ S1 := by
  rw [whD, ht]
  simp [R.fl]
theorem upto_len (n : Nat) : (upto n).length = n := by simp [upto]
theorem upto_get {n i : Nat} {x : D} (h : (upto n)[i]? = some x) : x = .int (i : Nat) ∧ i < n := by
  unfold upto at h
  rw [List.getElem?_map] at h
  by_cases hi : i < n
  · rw [List.getElem?_range hi] at h
    cases h
    exact ⟨rfl, hi⟩
  · rw [List.getElem?_eq_none (by simpa using hi)] at h
    cases h
/-! ### steps of the denotations -/
section
variable {a b : Sv} {e f : Ev} {Γ Γ1 Γ2 : Pd.Env} {S S1 S2 S3 : Store} {r : F} {x y z : Val} {i j : Nat} {q : R Val}
theorem sq_nx (h : a Γ S = .nx Γ1 S1) (k : b Γ1 S1 = r) : sSeq a b Γ S = r := by unfold sSeq; rw [h]; exact k
theorem sq_rt (h : a Γ S = .rt x S1) : sSeq a b Γ S = .rt x S1 := by unfold sSeq; rw [h]
theorem if_t (h : eTest e Γ S = .ok true S1) (k : a Γ S1 = r) : sIf e a b Γ S = r := by unfold sIf; rw [h]; exact k
theorem if_f (h : eTest e Γ S = .ok false S1) (k : b Γ S1 = r) : sIf e a b Γ S = r := by unfold sIf; rw [h]; exact k
theorem asg_i (h : e Γ S = .ok x S1) : sAsg i e Γ S = .nx (Γ.set i (some x)) S1 := by unfold sAsg; rw [h]; rfl
theorem ret_i (h : e Γ S = .ok x S1) : sRet e Γ S = .rt x S1 := by unfold sRet; rw [h]; rfl
theorem ex_i (h : e Γ S = .ok x S1) : sEx e Γ S = .nx Γ S1 := by unfold sEx; rw [h]; rfl
theorem par_i (h : e Γ S = .ok x S1) (k : f Γ S1 = .ok y S2) : sPar i j e f Γ S = .nx ((Γ.set i (some x)).set j (some y)) S2 := by unfold sPar; rw [h]; simp only [R.fl]; rw [k]
theorem new_i {ds : List D} (h : e Γ S = .ok (.d (.lst ds)) S1) : sNew i e Γ S = .nx (Γ.set i (some (.cell S1.length))) (S1 ++ [some (.lst ds)]) := by unfold sNew; rw [h]; rfl
theorem for_i {it : Pd.Env → Store → R (List D)} {tg : Tg} {ds : List D} (h : it Γ S = .ok ds S1) (k : forD tg a ds Γ S1 = r) : sFor it tg a Γ S = r := by unfold sFor; rw [h]; exact k
theorem funD_rt {n : Nat} {body : Nat → Sv} {ds : List Val} {d : D} (h : body S.length (ds.map some ++ List.replicate n none) S = .rt (.d d) S1) (hl : S1.length = S.length) : funD n body ds S = .ok (.d d) S1 := by
  unfold funD; rw [h]; simp only [finF, fin]; rw [← hl, List.take_length]
theorem funD_nx {n : Nat} {body : Nat → Sv} {ds : List Val} (h : body S.length (ds.map some ++ List.replicate n none) S = .nx Γ1 S1) (hl : S1.length = S.length) : funD n body ds S = .ok (.d .non) S1 := by
  unfold funD; rw [h]; simp only [finF, fin]; rw [← hl, List.take_length]
theorem funD_cut {n : Nat} {body : Nat → Sv} {ds : List Val} {d : D} {T : Store} (h : body S.length (ds.map some ++ List.replicate n none) S = .rt (.d d) (S1 ++ T)) (hl : S1.length = S.length) : funD n body ds S = .ok (.d d) S1 := by
  unfold funD; rw [h]; simp only [finF, fin]; rw [← hl, List.take_left]
theorem c1 {d : List Val → Store → R Val} (h1 : e Γ S = .ok x S1) (k : d [x] S1 = q) : eCall d (eCons e eNil) Γ S = q := by
  simp only [eCall, eCons, eNil, h1, R.bind, k]
theorem c2 {d : List Val → Store → R Val} (h1 : e Γ S = .ok x S1) (h2 : f Γ S1 = .ok y S2) (k : d [x, y] S2 = q) : eCall d (eCons e (eCons f eNil)) Γ S = q := by
  simp only [eCall, eCons, eNil, h1, h2, R.bind, k]
theorem c3 {e3 : Ev} {d : List Val → Store → R Val} (h1 : e Γ S = .ok x S1) (h2 : f Γ S1 = .ok y S2) (h3 : e3 Γ S2 = .ok z S3) (k : d [x, y, z] S3 = q) : eCall d (eCons e (eCons f (eCons e3 eNil))) Γ S = q := by
  simp only [eCall, eCons, eNil, h1, h2, h3, R.bind, k]
theorem b2 {d : Val → Val → Store → R Val} (h1 : e Γ S = .ok x S1) (h2 : f Γ S1 = .ok y S2) (k : d x y S2 = q) : eBin d e f Γ S = q := by
  simp only [eBin, h1, h2, R.bind, k]
theorem u1 {d : Val → Store → R Val} (h1 : e Γ S = .ok x S1) (k : d x S1 = q) : eUn d e Γ S = q := by
  simp only [eUn, h1, R.bind, k]
theorem t_i {p : Bool} (h : e Γ S = .ok (.d (.bl p)) S1) : eTest e Γ S = .ok p S1 := by
  simp only [eTest, h, R.bind, asB]
theorem not_i {p : Bool} (h : e Γ S = .ok (.d (.bl p)) S1) : eTest (eNot e) Γ S = .ok (!p) S1 := by
  simp only [eTest, eNot, h, R.bind, asB]
end
theorem itR1_i {e : Ev} {Γ : Pd.Env} {S S1 : Store} {n : Int} {m : Nat} (h : e Γ S = .ok (.d (.int n)) S1) (hn : n = m) (hm : m ≤ 1000000) : itR1 e Γ S = .ok (upto m) S1 := by
  have ec : cap = 1000000 := rfl
  unfold itR1
  rw [h]
  simp only [R.bind]
  rw [if_pos ⟨by omega, by omega⟩, hn, Int.toNat_natCast]
theorem app_last {i : Nat} {e : Ev} {Γ : Pd.Env} {S S' : Store} {ds : List D} {d : D} (h0 : Γ[i]? = some (some (.cell S.length))) (he : e Γ (S ++ [some (.lst ds)]) = .ok (.d d) (S' ++ [some (.lst ds)])) (hl : S'.length = S.length) (hz : ds.length < 1000000) : eApp (eVar i) e Γ (S ++ [some (.lst ds)]) = .ok (.d .non) (S' ++ [some (.lst (ds ++ [d]))]) := by
  have hg : ∀ o : Option Cell, (S ++ [o])[S.length]? = some o := fun o => by simp
  have hg' : ∀ o : Option Cell, (S' ++ [o])[S.length]? = some o := fun o => by rw [← hl]; simp
  have hs : ∀ a b : Option Cell, (S' ++ [a]).set S.length b = S' ++ [b] := fun a b => by rw [← hl]; simp
  have ec : ds.length < cap := hz
  simp only [eApp, eVar, h0, R.bind, rd, hg, he, hg', hs, ec, if_true]
theorem frz_last {i : Nat} {Γ : Pd.Env} {S : Store} {ds : List D} (h0 : Γ[i]? = some (some (.cell S.length))) : sFrz S.length i Γ (S ++ [some (.lst ds)]) = .nx ((Γ.set i (some (.d (.lst ds)))).map (keepB S.length)) S := by
  have hg : ∀ o : Option Cell, (S ++ [o])[S.length]? = some o := fun o => by simp
  unfold sFrz
  rw [h0]
  simp only [hg, Nat.le_refl, if_true]
  rw [if_pos (by simp)]
  simp
theorem itR2_i {e f : Ev} {Γ : Pd.Env} {S S1 S2 : Store} {a b : Int} {m : Nat} (h : e Γ S = .ok (.d (.int a)) S1) (h2 : f Γ S1 = .ok (.d (.int b)) S2) (hm : b - a = m) (ha : -1000 ≤ a ∧ a ≤ 1000) (hb : m ≤ 100000) : itR2 e f Γ S = .ok ((List.range m).map fun i => .int (a + (i : Nat))) S2 := by
  have ec : cap = 1000000 := rfl
  unfold itR2
  rw [h]
  simp only [R.bind]
  rw [h2]
  simp only []
  rw [if_pos ⟨⟨by omega, by omega⟩, by omega, by omega⟩, hm, Int.toNat_natCast]
section
variable {e f : Ev} {Γ : Pd.Env} {S S1 S2 : Store} {q : R Val} {b : Bool}
theorem and_t (h : eTest e Γ S = .ok true S1) (k : f Γ S1 = q) : eAnd e f Γ S = q := by unfold eAnd; rw [h]; exact k
theorem and_f (h : eTest e Γ S = .ok false S1) : eAnd e f Γ S = .ok (.d (.bl false)) S1 := by unfold eAnd; rw [h]; rfl
theorem or_t (h : eTest e Γ S = .ok true S1) : eOr e f Γ S = .ok (.d (.bl true)) S1 := by unfold eOr; rw [h]; rfl
theorem or_f (h : eTest e Γ S = .ok false S1) (k : f Γ S1 = q) : eOr e f Γ S = q := by unfold eOr; rw [h]; exact k
theorem tand_t (h : eTest e Γ S = .ok true S1) (k : eTest f Γ S1 = .ok b S2) : eTest (eAnd e f) Γ S = .ok b S2 := by show (eAnd e f Γ S).bind asB = _; rw [and_t h rfl]; exact k
theorem tand_f (h : eTest e Γ S = .ok false S1) : eTest (eAnd e f) Γ S = .ok false S1 := t_i (and_f h)
theorem tor_t (h : eTest e Γ S = .ok true S1) : eTest (eOr e f) Γ S = .ok true S1 := t_i (or_t h)
theorem tor_f (h : eTest e Γ S = .ok false S1) (k : eTest f Γ S1 = .ok b S2) : eTest (eOr e f) Γ S = .ok b S2 := by show (eOr e f Γ S).bind asB = _; rw [or_f h rfl]; exact k
theorem tnot (h : eTest e Γ S = .ok b S1) : eTest (eNot e) Γ S = .ok (!b) S1 := by
  show (eNot e Γ S).bind asB = _
  unfold eNot
  rw [h]
  rfl
end
/-! ### common: plain things -/
theorem int_big {i : Int} (h : i.natAbs ≤ 10 ^ 70) : i.natAbs < big := by
  have e : (10 : Nat) ^ 70 < 2 ^ 255 := by decide
  have h3 : (2 : Nat) ^ 255 ≤ big := Nat.pow_le_pow_right (by decide) (by decide)
  omega
theorem take_sum (ns : List Int) (i : Nat) (h : i < ns.length) : (ns.take (i + 1)).sum = (ns.take i).sum + ns[i] := by
  rw [List.take_succ_eq_append_getElem h, List.sum_append]
  simp
theorem sum_nn : ∀ {ns : List Int}, (∀ n ∈ ns, 0 ≤ n) → 0 ≤ ns.sum
  | [], _ => by simp
  | n :: ns, h => by
    have h1 := sum_nn (ns := ns) fun x hx => h x (List.mem_cons_of_mem _ hx)
    have h2 := h n List.mem_cons_self
    rw [List.sum_cons]
    omega
theorem take_drop_sum (ns : List Int) (i : Nat) : ns.sum = (ns.take i).sum + (ns.drop i).sum := by
  conv => lhs; rw [← List.take_append_drop i ns]
  rw [List.sum_append]
def gos (ns : List Int) : Bool := (ns.zip (ns.drop 1)).all fun p => decide (p.2 ≤ p.1)
theorem gos_eq (ns : List Int) : gos ns = decide (((ns.zip (ns.drop 1)).filter fun p => decide (p.1 < p.2)) = []) := by
  unfold gos
  generalize ns.zip (ns.drop 1) = l
  induction l with
  | nil => rfl
  | cons x l ih =>
    rw [List.all_cons, ih, List.filter_cons]
    by_cases h : x.1 < x.2
    · have : ¬ x.2 ≤ x.1 := by omega
      have t : decide (x.2 ≤ x.1) = false := decide_eq_false this
      simp only [t, h, decide_true, if_true, Bool.false_and]
      rfl
    · have : x.2 ≤ x.1 := by omega
      simp [h, this]
abbrev iT (ns : List Int) : Val := .d (.tup (ns.map .int))
theorem lc_i {it : Pd.Env → Store → R (List D)} {vs : List Nat} {tg : Tg} {test : Pd.Env → Store → R Bool} {elt : Ev} {Γ : Pd.Env} {S S1 S2 : Store} {ds es : List D} (h : it Γ S = .ok ds S1) (hl : ds.length ≤ cap) (k : lcD tg test elt (wipeE Γ vs) ds S1 = .ok es S2) : eLc it vs tg test elt Γ S = .ok (.d (.lst es)) S2 := by
  unfold eLc
  rw [h]
  simp only [R.bind, hl, if_true, k, noX]
theorem cut1 {α : Type} (l : List α) : cutD l (some 1) none = l.drop 1 := by
  unfold cutD
  cases l with
  | nil => simp [HT.sIx]
  | cons x l => simp [HT.sIx]
theorem cutTo {α : Type} (l : List α) (i : Nat) (h : i ≤ l.length) : cutD l none (some (i : Int)) = l.take i := by
  unfold cutD
  have h2 : ¬ ((i : Int) < 0) := by omega
  simp [HT.sIx, h2]
  all_goals try omega
theorem zip_pairs (ns ms : List Int) : zipD (ns.map .int) (ms.map .int) = (ns.zip ms).map fun p => .tup [.int p.1, .int p.2] := by
  unfold zipD
  rw [List.zip_map, List.map_map]
  rfl
theorem fNe_same (d : D) (S : Store) (h : fit 60 d = true) : fNe (.d d) (.d d) S = .ok (.d (.bl false)) S := by
  simp only [fNe, rd, h, and_self, if_true, eqv_self 60 d h, Bool.not_true]
theorem fEq_same (d : D) (S : Store) (h : fit 60 d = true) : fEq (.d d) (.d d) S = .ok (.d (.bl true)) S := by
  simp only [fEq, rd, h, and_self, if_true, eqv_self 60 d h]
theorem fit_ints (n : Nat) (ns : List Int) : fit (n + 1) (.lst (ns.map .int)) = true := by
  unfold fit
  exact fitL_ints n ns
theorem fit_intsT (n : Nat) (ns : List Int) : fit (n + 1) (.tup (ns.map .int)) = true := by
  unfold fit
  exact fitL_ints n ns
theorem fit_int (n : Nat) (i : Int) : fit n (.int i) = true := by
  cases n <;> simp [fit]
theorem ints_of {P : Int → Prop} : ∀ {ds : List D}, (∀ d ∈ ds, ∃ x, d = .int x ∧ P x) → ∃ ns : List Int, ds = ns.map .int ∧ ∀ x ∈ ns, P x
  | [], _ => ⟨[], rfl, by simp⟩
  | d :: ds, h => by
    obtain ⟨x, rfl, px⟩ := h d List.mem_cons_self
    obtain ⟨ns, rfl, q⟩ := ints_of (ds := ds) fun e he => h e (List.mem_cons_of_mem _ he)
    refine ⟨x :: ns, rfl, fun y hy => ?_⟩
    rcases List.mem_cons.mp hy with rfl | hy
    · exact px
    · exact q y hy
theorem fit_tf (b : Bool) : fit 60 (.str (if b then "True" else "False")) = true := by
  cases b
  · unfold fit; decide +kernel
  · unfold fit; decide +kernel
theorem c4 {e f e3 e4 : Ev} {Γ : Pd.Env} {S S1 S2 S3 S4 : Store} {x y z u : Val} {q : R Val} {d : List Val → Store → R Val} (h1 : e Γ S = .ok x S1) (h2 : f Γ S1 = .ok y S2) (h3 : e3 Γ S2 = .ok z S3) (h4 : e4 Γ S3 = .ok u S4) (k : d [x, y, z, u] S4 = q) : eCall d (eCons e (eCons f (eCons e3 (eCons e4 eNil)))) Γ S = q := by
  simp only [eCall, eCons, eNil, h1, h2, h3, h4, R.bind, k]
/-! ### an evaluator by rewriting: each construct waits for the value of its first part -/
section
variable {α β : Type}
def _root_.Pd.R.un (r : R Val) (f : Val → Store → R Val) : R Val := r.bind fun x S => f x S
def _root_.Pd.R.bi2 (r : R Val) (x : Val) (f : Val → Val → Store → R Val) : R Val := r.bind fun y S => f x y S
def _root_.Pd.R.bi1 (r : R Val) (f : Val → Val → Store → R Val) (b : Ev) (Γ : Pd.Env) : R Val := r.bind fun x S => (b Γ S).bi2 x f
def _root_.Pd.R.cl (r : R (List Val)) (f : List Val → Store → R Val) : R Val := r.bind f
def _root_.Pd.R.cs2 (r : R (List Val)) (x : Val) : R (List Val) := r.bind fun xs S => .ok (x :: xs) S
def _root_.Pd.R.cs1 (r : R Val) (t : Pd.Env → Store → R (List Val)) (Γ : Pd.Env) : R (List Val) := r.bind fun x S => (t Γ S).cs2 x
def _root_.Pd.R.tst (r : R Val) : R Bool := r.bind asB
def _root_.Pd.R.an (r : R Bool) (b : Ev) (Γ : Pd.Env) : R Val := r.bind fun x S1 => if x = true then b Γ S1 else .ok (.d (.bl false)) S1
def _root_.Pd.R.orr (r : R Bool) (b : Ev) (Γ : Pd.Env) : R Val := r.bind fun x S1 => if x = true then .ok (.d (.bl true)) S1 else b Γ S1
def _root_.Pd.R.nt (r : R Bool) : R Val := r.bind fun x S1 => .ok (.d (.bl (!x))) S1
def _root_.Pd.R.iff (r : R Bool) (a b : Ev) (Γ : Pd.Env) : R Val := r.bind fun x S1 => if x = true then a Γ S1 else b Γ S1
def _root_.Pd.R.ch4 (r : R Val) (y : Val) (f' : Val → Val → Store → R Val) : R Val := r.bind fun u S => f' y u S
def _root_.Pd.R.ch3 (r : R Bool) (y : Val) (f' : Val → Val → Store → R Val) (c : Ev) (Γ : Pd.Env) : R Val := r.bind fun k S4 => if k = true then (c Γ S4).ch4 y f' else .ok (.d (.bl false)) S4
def _root_.Pd.R.ch2 (r : R Val) (x : Val) (f f' : Val → Val → Store → R Val) (c : Ev) (Γ : Pd.Env) : R Val := r.bind fun y S2 => ((f x y S2).tst).ch3 y f' c Γ
def _root_.Pd.R.ch1 (r : R Val) (f f' : Val → Val → Store → R Val) (b c : Ev) (Γ : Pd.Env) : R Val := r.bind fun x S1 => (b Γ S1).ch2 x f f' c Γ
def oI : Val → Store → R (Option Int)
  | .d (.int i), S => .ok (some i) S
  | _, _ => .bad
def _root_.Pd.R.so (r : R Val) : R (Option Int) := r.bind oI
def _root_.Pd.R.sl3 (r : R (Option Int)) (x : Val) (l : Option Int) : R Val := r.bind fun h S => fSl x l h S
def _root_.Pd.R.sl2 (r : R (Option Int)) (x : Val) (hi : Pd.Env → Store → R (Option Int)) (Γ : Pd.Env) : R Val := r.bind fun l S => (hi Γ S).sl3 x l
def _root_.Pd.R.sl1 (r : R Val) (lo hi : Pd.Env → Store → R (Option Int)) (Γ : Pd.Env) : R Val := r.bind fun x S => (lo Γ S).sl2 x hi Γ
def iV : Val → Store → R (List D)
  | .d (.lst ds), S => .ok ds S
  | .d (.tup ds), S => .ok ds S
  | _, _ => .bad
def _root_.Pd.R.iv (r : R Val) : R (List D) := r.bind iV
def iR : Val → Store → R (List D)
  | .d (.int n), S => if n ≤ cap ∧ -cap ≤ n then .ok (upto n.toNat) S else .bad
  | _, _ => .bad
def _root_.Pd.R.ir (r : R Val) : R (List D) := r.bind iR
def iEn : Val → Store → R (List D)
  | .d (.lst ds), S => .ok (ds.zipIdx.map fun p => .tup [.int (p.2 : Nat), p.1]) S
  | .d (.tup ds), S => .ok (ds.zipIdx.map fun p => .tup [.int (p.2 : Nat), p.1]) S
  | _, _ => .bad
def _root_.Pd.R.ie (r : R Val) : R (List D) := r.bind iEn
def iZz : Val → Val → Store → R (List D)
  | .d (.lst ds), .d (.lst es), S => .ok (zipD ds es) S
  | .d (.tup ds), .d (.tup es), S => .ok (zipD ds es) S
  | _, _, _ => .bad
def iR2 : Val → Val → Store → R (List D)
  | .d (.int m), .d (.int n), S => if (n ≤ cap ∧ -cap ≤ n) ∧ m ≤ cap ∧ -cap ≤ m then .ok ((List.range (n - m).toNat).map fun i => .int (m + (i : Nat))) S else .bad
  | _, _, _ => .bad
def _root_.Pd.R.it2 (r : R Val) (x : Val) (f : Val → Val → Store → R (List D)) : R (List D) := r.bind fun y S => f x y S
def _root_.Pd.R.it1 (r : R Val) (f : Val → Val → Store → R (List D)) (b : Ev) (Γ : Pd.Env) : R (List D) := r.bind fun x S => (b Γ S).it2 x f
def _root_.Pd.R.me2 (r : R (List Val)) (x : Val) (d : List Val → Store → R Val) : R Val := r.bind fun ys S => noX (d (x :: ys) S)
def _root_.Pd.R.me1 (r : R Val) (c : Str) (d : List Val → Store → R Val) (er : Pd.Env → Store → R (List Val)) (Γ : Pd.Env) : R Val := r.bind fun x S1 => if isO c x S1 = true then (er Γ S1).me2 x d else .bad
def _root_.Pd.F.sq (f : F) (b : Sv) : F := match f with
  | .nx Γ1 S1 => b Γ1 S1
  | f => f
def _root_.Pd.R.kEx (r : R Val) (Γ : Pd.Env) : F := r.fl Γ fun _ S1 => .nx Γ S1
def _root_.Pd.R.kRet (r : R Val) (Γ : Pd.Env) : F := r.fl Γ fun x S1 => .rt x S1
def _root_.Pd.R.kAsg (r : R Val) (i : Nat) (Γ : Pd.Env) : F := r.fl Γ fun x S1 => .nx (Γ.set i (some x)) S1
def kN (i : Nat) (Γ : Pd.Env) : Val → Store → F
  | .d (.lst ds), S => .nx (Γ.set i (some (.cell S.length))) (S ++ [some (.lst ds)])
  | _, _ => .bad
def _root_.Pd.R.kNew (r : R Val) (i : Nat) (Γ : Pd.Env) : F := r.fl Γ (kN i Γ)
def _root_.Pd.R.kIf (r : R Bool) (a b : Sv) (Γ : Pd.Env) : F := r.fl Γ fun x S1 => if x = true then a Γ S1 else b Γ S1
def _root_.Pd.R.kPr2 (r : R Val) (i j : Nat) (x : Val) (Γ : Pd.Env) : F := r.fl Γ fun y S2 => .nx ((Γ.set i (some x)).set j (some y)) S2
def _root_.Pd.R.kPr1 (r : R Val) (i j : Nat) (b : Ev) (Γ : Pd.Env) : F := r.fl Γ fun x S1 => (b Γ S1).kPr2 i j x Γ
def _root_.Pd.R.kPt3 (r : R Val) (i j l : Nat) (x y : Val) (Γ : Pd.Env) : F := r.fl Γ fun z S3 => .nx (((Γ.set i (some x)).set j (some y)).set l (some z)) S3
def _root_.Pd.R.kPt2 (r : R Val) (i j l : Nat) (x : Val) (c : Ev) (Γ : Pd.Env) : F := r.fl Γ fun y S2 => (c Γ S2).kPt3 i j l x y Γ
def _root_.Pd.R.kPt1 (r : R Val) (i j l : Nat) (b c : Ev) (Γ : Pd.Env) : F := r.fl Γ fun x S1 => (b Γ S1).kPt2 i j l x c Γ
def oN : Option Pd.Env → Store → F
  | some Γ, S => .nx Γ S
  | none, _ => .bad
def kT (tg : Tg) (Γ : Pd.Env) : Val → Store → F
  | .d d, S => oN (tg d Γ) S
  | _, _ => .bad
def _root_.Pd.R.kAt (r : R Val) (tg : Tg) (Γ : Pd.Env) : F := r.fl Γ (kT tg Γ)
def _root_.Pd.R.kFor (r : R (List D)) (tg : Tg) (a : Sv) (Γ : Pd.Env) : F := r.fl Γ fun ds S1 => forD tg a ds Γ S1
def oD : Option D → Store → R Val
  | some d, S => .ok (.d d) S
  | none, _ => .bad
def ixC : Option (Option Cell) → Int → Store → R Val
  | some (some (.lst ds)), n, S => oD (atI ds n) S
  | _, _, _ => .bad
def lnC : Option (Option Cell) → Store → R Val
  | some (some (.lst ds)), S => .ok (.d (.int ds.length)) S
  | _, _ => .bad
def rdC : Option (Option Cell) → Option D
  | some (some (.lst ds)) => some (.lst ds)
  | _ => none
variable {a b c : Ev} {s t : Sv} {Γ : Pd.Env} {S S1 : Store} {x y : Val} {i j l : Nat} {r : Pd.Env → Store → R (List Val)} {f f' : Val → Val → Store → R Val}
theorem v_ap : eVar i Γ S = (match Γ[i]? with | some (some x) => .ok x S | _ => .bad) := rfl
theorem c_ap {d : D} : eC d Γ S = .ok (.d d) S := rfl
theorem un_ap {f : Val → Store → R Val} : eUn f a Γ S = (a Γ S).un f := rfl
theorem un_ok {f : Val → Store → R Val} : R.un (.ok x S) f = f x S := rfl
theorem bi_ap : eBin f a b Γ S = (a Γ S).bi1 f b Γ := rfl
theorem bi1_ok : R.bi1 (.ok x S) f b Γ = (b Γ S).bi2 x f := rfl
theorem bi2_ok : R.bi2 (.ok y S) x f = f x y S := rfl
theorem cl_ap {d : List Val → Store → R Val} : eCall d r Γ S = (r Γ S).cl d := rfl
theorem cl_ok {d : List Val → Store → R Val} {xs : List Val} : R.cl (.ok xs S) d = d xs S := rfl
theorem cs_ap : eCons a r Γ S = (a Γ S).cs1 r Γ := rfl
theorem cs1_ok : R.cs1 (.ok x S) r Γ = (r Γ S).cs2 x := rfl
theorem cs2_ok {xs : List Val} : R.cs2 (.ok xs S) x = .ok (x :: xs) S := rfl
theorem nil_ap : eNil Γ S = .ok [] S := rfl
theorem t_ap : eTest a Γ S = (a Γ S).tst := rfl
theorem t_ok {p : Bool} : R.tst (.ok (.d (.bl p)) S) = .ok p S := rfl
theorem an_ap : eAnd a b Γ S = ((a Γ S).tst).an b Γ := rfl
theorem an_t : R.an (.ok true S) b Γ = b Γ S := rfl
theorem an_f : R.an (.ok false S) b Γ = .ok (.d (.bl false)) S := rfl
theorem or_ap : eOr a b Γ S = ((a Γ S).tst).orr b Γ := rfl
theorem or_tt : R.orr (.ok true S) b Γ = .ok (.d (.bl true)) S := rfl
theorem or_ff : R.orr (.ok false S) b Γ = b Γ S := rfl
theorem nt_ap : eNot a Γ S = ((a Γ S).tst).nt := rfl
theorem nt_ok {p : Bool} : R.nt (.ok p S) = .ok (.d (.bl (!p))) S := rfl
theorem if_ap : eIf a b c Γ S = ((a Γ S).tst).iff b c Γ := rfl
theorem iff_t : R.iff (.ok true S) b c Γ = b Γ S := rfl
theorem iff_f : R.iff (.ok false S) b c Γ = c Γ S := rfl
theorem ch_ap : eChain f f' a b c Γ S = (a Γ S).ch1 f f' b c Γ := by
  unfold eChain R.ch1
  congr 1
  funext x S
  unfold R.ch2
  congr 1
  funext y S
  unfold R.tst R.ch3
  rw [R.bind_assoc]
  rfl
theorem ch1_ok : R.ch1 (.ok x S) f f' b c Γ = (b Γ S).ch2 x f f' c Γ := rfl
theorem ch2_ok : R.ch2 (.ok y S) x f f' c Γ = ((f x y S).tst).ch3 y f' c Γ := rfl
theorem ch3_t : R.ch3 (.ok true S) y f' c Γ = (c Γ S).ch4 y f' := rfl
theorem ch3_f : R.ch3 (.ok false S) y f' c Γ = .ok (.d (.bl false)) S := rfl
theorem ch4_ok : R.ch4 (.ok x S) y f' = f' y x S := rfl
theorem oN_ap : eoN Γ S = .ok none S := rfl
theorem oS_ap : eoS a Γ S = (a Γ S).so := by
  unfold eoS R.so
  congr 1
  funext x S
  cases x with
  | cell k => rfl
  | d x => cases x <;> rfl
theorem so_ok {n : Int} : R.so (.ok (.d (.int n)) S) = .ok (some n) S := rfl
theorem sl_ap {lo hi : Pd.Env → Store → R (Option Int)} : eSl a lo hi Γ S = (a Γ S).sl1 lo hi Γ := rfl
theorem sl1_ok {lo hi : Pd.Env → Store → R (Option Int)} : R.sl1 (.ok x S) lo hi Γ = (lo Γ S).sl2 x hi Γ := rfl
theorem sl2_ok {hi : Pd.Env → Store → R (Option Int)} {l : Option Int} : R.sl2 (.ok l S) x hi Γ = (hi Γ S).sl3 x l := rfl
theorem sl3_ok {l h : Option Int} : R.sl3 (.ok h S) x l = fSl x l h S := rfl
theorem fSl_l {ds : List D} {l h : Option Int} : fSl (.d (.lst ds)) l h S = .ok (.d (.lst (cutD ds l h))) S := rfl
theorem fSl_t {ds : List D} {l h : Option Int} : fSl (.d (.tup ds)) l h S = .ok (.d (.tup (cutD ds l h))) S := rfl
theorem iv_ap : itV a Γ S = (a Γ S).iv := by
  unfold itV R.iv
  congr 1
  funext x S
  cases x with
  | cell k => rfl
  | d x => cases x <;> rfl
theorem iv_l {ds : List D} : R.iv (.ok (.d (.lst ds)) S) = .ok ds S := rfl
theorem iv_t {ds : List D} : R.iv (.ok (.d (.tup ds)) S) = .ok ds S := rfl
theorem ir_ap : itR1 a Γ S = (a Γ S).ir := by
  unfold itR1 R.ir
  congr 1
  funext x S
  cases x with
  | cell k => rfl
  | d x => cases x <;> rfl
theorem ir_ok {n : Nat} (h : n ≤ 1000000) : R.ir (.ok (.d (.int n)) S) = .ok (upto n) S := by
  show (if (n : Int) ≤ cap ∧ -cap ≤ (n : Int) then R.ok (upto (n : Int).toNat) S else .bad) = _
  have : cap = 1000000 := rfl
  rw [if_pos ⟨by omega, by omega⟩]
  rfl
theorem ir_i {n : Int} (h0 : 0 ≤ n) (h : n ≤ 1000000) : R.ir (.ok (.d (.int n)) S) = .ok (upto n.toNat) S := by
  show (if (n : Int) ≤ cap ∧ -cap ≤ (n : Int) then R.ok (upto (n : Int).toNat) S else .bad) = _
  have : cap = 1000000 := rfl
  rw [if_pos ⟨by omega, by omega⟩]
theorem ie_ap : itEn a Γ S = (a Γ S).ie := by
  unfold itEn R.ie
  congr 1
  funext x S
  cases x with
  | cell k => rfl
  | d x => cases x <;> rfl
theorem ie_l {ds : List D} : R.ie (.ok (.d (.lst ds)) S) = .ok (ds.zipIdx.map fun p => .tup [.int (p.2 : Nat), p.1]) S := rfl
theorem ie_t {ds : List D} : R.ie (.ok (.d (.tup ds)) S) = .ok (ds.zipIdx.map fun p => .tup [.int (p.2 : Nat), p.1]) S := rfl
theorem iz_ap : itZ a b Γ S = (a Γ S).it1 iZz b Γ := by
  unfold itZ R.it1 R.it2
  congr 1
  funext x S
  congr 1
  funext y S
  cases x with
  | cell k => rfl
  | d x =>
    cases y with
    | cell k => cases x <;> rfl
    | d y => cases x <;> cases y <;> rfl
theorem i2_ap : itR2 a b Γ S = (a Γ S).it1 iR2 b Γ := by
  unfold itR2 R.it1 R.it2
  congr 1
  funext x S
  congr 1
  funext y S
  cases x with
  | cell k => rfl
  | d x =>
    cases y with
    | cell k => cases x <;> rfl
    | d y => cases x <;> cases y <;> rfl
theorem it1_ok {f : Val → Val → Store → R (List D)} : R.it1 (.ok x S) f b Γ = (b Γ S).it2 x f := rfl
theorem it2_ok {f : Val → Val → Store → R (List D)} : R.it2 (.ok y S) x f = f x y S := rfl
theorem iZz_l {ds es : List D} : iZz (.d (.lst ds)) (.d (.lst es)) S = .ok (zipD ds es) S := rfl
theorem iZz_t {ds es : List D} : iZz (.d (.tup ds)) (.d (.tup es)) S = .ok (zipD ds es) S := rfl
theorem me_ap {m : Str} {d : List Val → Store → R Val} : eMeth m d a r Γ S = (a Γ S).me1 m d r Γ := rfl
theorem me1_ok {m : Str} {d : List Val → Store → R Val} (h : isO m x S = true) : R.me1 (.ok x S) m d r Γ = (r Γ S).me2 x d := by
  show (if isO m x S = true then (r Γ S).me2 x d else .bad) = _
  rw [if_pos h]
theorem me2_ok {d : List Val → Store → R Val} {xs : List Val} : R.me2 (.ok xs S) x d = noX (d (x :: xs) S) := rfl
theorem nox_ok {α : Type} {x : α} : noX (R.ok x S) = .ok x S := rfl
theorem isO_d {m m' : Str} {fs : List D} : isO m (.d (.obj m' fs)) S = decide (m' = m) := rfl
theorem fPr_o {m m' : Str} {fs : List D} {d : List Val → Store → R Val} (h : m' = m) : fPr m d (.d (.obj m' fs)) S = noX (d [.d (.obj m' fs)] S) := by
  unfold fPr
  rw [if_pos (by simp [isO, h])]
theorem fFld_o {m m' : Str} {fs : List D} (h : m' = m) : fFld m i (.d (.obj m' fs)) S = oD fs[i]? S := by
  show (if m' = m then (match fs[i]? with | some d => R.ok (Val.d d) S | none => .bad) else .bad) = _
  rw [if_pos h]
  cases fs[i]? <;> rfl
theorem sq_ap : sSeq s t Γ S = (s Γ S).sq t := rfl
theorem sq_n {Γ' : Pd.Env} : F.sq (.nx Γ' S) t = t Γ' S := rfl
theorem sq_r : F.sq (.rt x S) t = .rt x S := rfl
theorem sq_b {Γ' : Pd.Env} : F.sq (.bk Γ' S) t = .bk Γ' S := rfl
theorem sq_c {Γ' : Pd.Env} : F.sq (.ct Γ' S) t = .ct Γ' S := rfl
theorem nl_ap : sNil Γ S = .nx Γ S := rfl
theorem bk_ap : sBrk Γ S = .bk Γ S := rfl
theorem ct_ap : sCont Γ S = .ct Γ S := rfl
theorem ex_ap : sEx a Γ S = (a Γ S).kEx Γ := rfl
theorem ex_ok : R.kEx (.ok x S) Γ = .nx Γ S := rfl
theorem rt_ap : sRet a Γ S = (a Γ S).kRet Γ := rfl
theorem rt_ok : R.kRet (.ok x S) Γ = .rt x S := rfl
theorem rn_ap : sRetN Γ S = .rt (.d .non) S := rfl
theorem as_ap : sAsg i a Γ S = (a Γ S).kAsg i Γ := rfl
theorem as_ok : R.kAsg (.ok x S) i Γ = .nx (Γ.set i (some x)) S := rfl
theorem nw_ap : sNew i a Γ S = (a Γ S).kNew i Γ := by
  unfold sNew R.kNew
  congr 1
  funext x S
  cases x with
  | cell k => rfl
  | d x => cases x <;> rfl
theorem nw_ok {ds : List D} : R.kNew (.ok (.d (.lst ds)) S) i Γ = .nx (Γ.set i (some (.cell S.length))) (S ++ [some (.lst ds)]) := rfl
theorem sf_ap : sIf a s t Γ S = ((a Γ S).tst).kIf s t Γ := rfl
theorem sf_t : R.kIf (.ok true S) s t Γ = s Γ S := rfl
theorem sf_f : R.kIf (.ok false S) s t Γ = t Γ S := rfl
theorem pr_ap : sPar i j a b Γ S = (a Γ S).kPr1 i j b Γ := rfl
theorem pr1_ok : R.kPr1 (.ok x S) i j b Γ = (b Γ S).kPr2 i j x Γ := rfl
theorem pr2_ok : R.kPr2 (.ok y S) i j x Γ = .nx ((Γ.set i (some x)).set j (some y)) S := rfl
theorem pt_ap : sPar3 i j l a b c Γ S = (a Γ S).kPt1 i j l b c Γ := rfl
theorem pt1_ok : R.kPt1 (.ok x S) i j l b c Γ = (b Γ S).kPt2 i j l x c Γ := rfl
theorem pt2_ok : R.kPt2 (.ok y S) i j l x c Γ = (c Γ S).kPt3 i j l x y Γ := rfl
theorem pt3_ok {z : Val} : R.kPt3 (.ok z S) i j l x y Γ = .nx (((Γ.set i (some x)).set j (some y)).set l (some z)) S := rfl
theorem at_ap {tg : Tg} : sAsgT tg a Γ S = (a Γ S).kAt tg Γ := by
  unfold sAsgT R.kAt
  congr 1
  funext x S
  cases x with
  | cell k => rfl
  | d x => show _ = oN (tg x Γ) S; dsimp only; cases tg x Γ <;> rfl
theorem at_ok {tg : Tg} {d : D} : R.kAt (.ok (.d d) S) tg Γ = oN (tg d Γ) S := rfl
theorem oN_some {Γ' : Pd.Env} : oN (some Γ') S = .nx Γ' S := rfl
theorem fo_ap {it : Pd.Env → Store → R (List D)} {tg : Tg} : sFor it tg s Γ S = (it Γ S).kFor tg s Γ := rfl
theorem fo_ok {tg : Tg} {ds : List D} : R.kFor (.ok ds S) tg s Γ = forD tg s ds Γ S := rfl
theorem tgN_ap {d : D} : tgN i d Γ = some (Γ.set i (some (.d d))) := rfl
theorem tgT_ap {u : List D → Pd.Env → Option Pd.Env} {ds : List D} : tgT u (.tup ds) Γ = u ds Γ := rfl
theorem tgs_c {tg : Tg} {u : List D → Pd.Env → Option Pd.Env} {d : D} {ds : List D} : tgsCons tg u (d :: ds) Γ = (tg d Γ).bind (u ds) := rfl
theorem tgs_n : tgsNil [] Γ = some Γ := rfl
theorem ob_s {α β : Type} {x : α} {k : α → Option β} : (some x).bind k = k x := rfl
theorem funD_ap {n : Nat} {body : Nat → Sv} {xs : List Val} : funD n body xs S = finF S.length (body S.length (xs.map some ++ List.replicate n none) S) := rfl
theorem fin_d {d : D} {n : Nat} : finF n (.rt (.d d) S) = .ok (.d d) (S.take n) := rfl
theorem fin_n {n : Nat} : finF n (.nx Γ S) = .ok (.d .non) (S.take n) := rfl
theorem tk_len : S.take S.length = S := List.take_length
theorem tk_app {o : Option Cell} : (S ++ [o]).take S.length = S := by simp
theorem tk_appc {o o' : Option Cell} : (o' :: (S ++ [o])).take (S.length + 1) = o' :: S := by simp
theorem get_app {o : Option Cell} : (S ++ [o])[S.length]? = some o := by simp
theorem set_app {o o' : Option Cell} : (S ++ [o]).set S.length o' = S ++ [o'] := by simp
/-! operations -/
theorem add_ii {m n : Int} : fAdd (.d (.int m)) (.d (.int n)) S = .ok (.d (.int (m + n))) S := rfl
theorem add_ll {xs ys : List D} (h : xs.length + ys.length ≤ 1000000) : fAdd (.d (.lst xs)) (.d (.lst ys)) S = .ok (.d (.lst (xs ++ ys))) S := if_pos h
theorem add_tt {xs ys : List D} (h : xs.length + ys.length ≤ 1000000) : fAdd (.d (.tup xs)) (.d (.tup ys)) S = .ok (.d (.tup (xs ++ ys))) S := if_pos h
theorem sub_ii {m n : Int} : fSub (.d (.int m)) (.d (.int n)) S = .ok (.d (.int (m - n))) S := rfl
theorem mul_ii {m n : Int} (h : mulOk m n = true) : fMul (.d (.int m)) (.d (.int n)) S = .ok (.d (.int (m * n))) S := if_pos h
theorem mul_l {xs : List D} {n : Int} (h : n ≤ 1000000 ∧ -1000000 ≤ n ∧ xs.length * n.toNat ≤ 1000000) : fMul (.d (.lst xs)) (.d (.int n)) S = .ok (.d (.lst (List.replicate n.toNat xs).flatten)) S := if_pos h
theorem mulL_l {xs : List D} {n : Int} (h : n ≤ 1000000 ∧ -1000000 ≤ n ∧ xs.length * n.toNat ≤ 1000000) : fMulL (.d (.lst xs)) (.d (.int n)) S = .ok (.d (.lst (List.replicate n.toNat xs).flatten)) S := if_pos h
theorem mul_t {xs : List D} {n : Int} (h : 0 ≤ n ∧ n ≤ 1000 ∧ xs.length ≤ 1000) : fMul (.d (.tup xs)) (.d (.int n)) S = .ok (.d (.tup (List.replicate n.toNat xs).flatten)) S := if_pos h
theorem addL_ll {xs ys : List D} (h : xs.length + ys.length ≤ 1000000) : fAddL (.d (.lst xs)) (.d (.lst ys)) S = .ok (.d (.lst (xs ++ ys))) S := if_pos h
theorem div_ii {m n : Int} (h : divOk n = true) : fDiv (.d (.int m)) (.d (.int n)) S = .ok (.d (.int (m / n))) S := if_pos h
theorem mod_ii {m n : Int} (h : 0 < n) : fMod (.d (.int m)) (.d (.int n)) S = .ok (.d (.int (m % n))) S := if_pos h
theorem pow_ii {m n : Int} (h : powOk m n = true) : fPow (.d (.int m)) (.d (.int n)) S = .ok (.d (.int (m ^ n.toNat))) S := if_pos h
theorem neg_i {m : Int} : fNeg (.d (.int m)) S = .ok (.d (.int (-m))) S := rfl
theorem lt_ii {m n : Int} : fLt (.d (.int m)) (.d (.int n)) S = .ok (.d (.bl (decide (m < n)))) S := rfl
theorem le_ii {m n : Int} : fLe (.d (.int m)) (.d (.int n)) S = .ok (.d (.bl (decide (m ≤ n)))) S := rfl
theorem gt_ii {m n : Int} : fGt (.d (.int m)) (.d (.int n)) S = .ok (.d (.bl (decide (n < m)))) S := rfl
theorem ge_ii {m n : Int} : fGe (.d (.int m)) (.d (.int n)) S = .ok (.d (.bl (decide (n ≤ m)))) S := rfl
theorem eq_ii {m n : Int} : fEq (.d (.int m)) (.d (.int n)) S = .ok (.d (.bl (decide (m = n)))) S := by
  simp only [fEq, rd, fit_int, and_self, if_true, D.eqv]
  by_cases h : m = n <;> simp [h]
theorem ne_ii {m n : Int} : fNe (.d (.int m)) (.d (.int n)) S = .ok (.d (.bl (!decide (m = n)))) S := by
  simp only [fNe, rd, fit_int, and_self, if_true, D.eqv]
  by_cases h : m = n <;> simp [h]
theorem max_ii {m n : Int} : fMax2 (.d (.int m)) (.d (.int n)) S = .ok (.d (.int (max m n))) S := by
  show R.ok (Val.d (.int (if n > m then n else m))) S = _
  congr 3
  split <;> omega
theorem min_ii {m n : Int} : fMin2 (.d (.int m)) (.d (.int n)) S = .ok (.d (.int (min m n))) S := by
  show R.ok (Val.d (.int (if n < m then n else m))) S = _
  congr 3
  split <;> omega
theorem isB_bb {p q : Bool} : fIsB (.d (.bl p)) (.d (.bl q)) S = .ok (.d (.bl (decide (p = q)))) S := rfl
theorem notB_bb {p q : Bool} : fNotB (.d (.bl p)) (.d (.bl q)) S = .ok (.d (.bl (!decide (p = q)))) S := rfl
theorem ix_t {ds : List D} {n : Int} : fIx (.d (.tup ds)) (.d (.int n)) S = oD (atI ds n) S := by
  simp only [fIx, rd]
  cases atI ds n <;> rfl
theorem ix_l {ds : List D} {n : Int} : fIx (.d (.lst ds)) (.d (.int n)) S = oD (atI ds n) S := by
  simp only [fIx, rd]
  cases atI ds n <;> rfl
theorem ix_c {k : Nat} {n : Int} : fIx (.cell k) (.d (.int n)) S = ixC S[k]? n S := by
  simp only [fIx, rd]
  cases S[k]? with
  | none => rfl
  | some o =>
    cases o with
    | none => rfl
    | some c =>
      cases c with
      | obj _ _ => rfl
      | refs _ => rfl
      | lst ds => simp only [ixC]; cases atI ds n <;> rfl
theorem ixC_l {ds : List D} {n : Int} : ixC (some (some (.lst ds))) n S = oD (atI ds n) S := rfl
theorem oD_s {d : D} : oD (some d) S = .ok (.d d) S := rfl
theorem len_l {ds : List D} : fLen (.d (.lst ds)) S = .ok (.d (.int ds.length)) S := rfl
theorem len_t {ds : List D} : fLen (.d (.tup ds)) S = .ok (.d (.int ds.length)) S := rfl
theorem len_s {ds : List Int} : fLen (.d (.scr ds)) S = .ok (.d (.int ds.length)) S := rfl
theorem len_c {k : Nat} : fLen (.cell k) S = lnC S[k]? S := by
  simp only [fLen, rd]
  cases S[k]? with
  | none => rfl
  | some o =>
    cases o with
    | none => rfl
    | some c => cases c <;> rfl
theorem lnC_l {ds : List D} : lnC (some (some (.lst ds))) S = .ok (.d (.int ds.length)) S := rfl
theorem rd_d {x : D} : rd S (.d x) = some x := rfl
theorem rd_c {k : Nat} : rd S (.cell k) = rdC S[k]? := rfl
theorem rdC_l {ds : List D} : rdC (some (some (.lst ds))) = some (.lst ds) := rfl
theorem all_tt {l : List α} : l.all (fun _ => true) = true := by simp
theorem tu_l {ds : List D} : fTuple (.d (.lst ds)) S = .ok (.d (.tup ds)) S := rfl
theorem tu_t {ds : List D} : fTuple (.d (.tup ds)) S = .ok (.d (.tup ds)) S := rfl
theorem li_l {ds : List D} : fList (.d (.lst ds)) S = .ok (.d (.lst ds)) S := rfl
theorem li_t {ds : List D} : fList (.d (.tup ds)) S = .ok (.d (.lst ds)) S := rfl
theorem in_i {n : Int} : fInt (.d (.int n)) S = .ok (.d (.int n)) S := rfl
theorem rev_l {ds : List D} : fRev (.d (.lst ds)) S = .ok (.d (.lst ds.reverse)) S := rfl
theorem rev_t {ds : List D} : fRev (.d (.tup ds)) S = .ok (.d (.tup ds.reverse)) S := rfl
theorem sum_l {ns : List Int} : fSum (.d (.lst (ns.map .int))) S = .ok (.d (.int ns.sum)) S := by
  simp only [fSum, rd, asInts_map]
theorem sum_t {ns : List Int} : fSum (.d (.tup (ns.map .int))) S = .ok (.d (.int ns.sum)) S := by
  simp only [fSum, rd, asInts_map]
theorem all_b {α : Type} {p : α → Bool} {l : List α} : fAll (.d (.lst (l.map fun x => .bl (p x)))) S = .ok (.d (.bl (l.all p))) S := by
  simp only [fAll, rd, asBls_map, List.all_map]
  rfl
theorem any_b {α : Type} {p : α → Bool} {l : List α} : fAny (.d (.lst (l.map fun x => .bl (p x)))) S = .ok (.d (.bl (l.any p))) S := by
  simp only [fAny, rd, asBls_map, List.any_map]
  rfl
theorem fTup_0 : fTup [] S = .ok (.d (.tup [])) S := rfl
theorem fTup_1 {a : D} : fTup [.d a] S = .ok (.d (.tup [a])) S := rfl
theorem fTup_2 {a b : D} : fTup [.d a, .d b] S = .ok (.d (.tup [a, b])) S := rfl
theorem fTup_3 {a b c : D} : fTup [.d a, .d b, .d c] S = .ok (.d (.tup [a, b, c])) S := rfl
theorem fTup_4 {a b c d : D} : fTup [.d a, .d b, .d c, .d d] S = .ok (.d (.tup [a, b, c, d])) S := rfl
theorem fTup_5 {a b c d e : D} : fTup [.d a, .d b, .d c, .d d, .d e] S = .ok (.d (.tup [a, b, c, d, e])) S := rfl
theorem fLst_0 : fLst [] S = .ok (.d (.lst [])) S := rfl
theorem fLst_1 {a : D} : fLst [.d a] S = .ok (.d (.lst [a])) S := rfl
theorem fLst_2 {a b : D} : fLst [.d a, .d b] S = .ok (.d (.lst [a, b])) S := rfl
theorem fLst_3 {a b c : D} : fLst [.d a, .d b, .d c] S = .ok (.d (.lst [a, b, c])) S := rfl
theorem fLst_4 {a b c d : D} : fLst [.d a, .d b, .d c, .d d] S = .ok (.d (.lst [a, b, c, d])) S := rfl
theorem fLst_5 {a b c d e : D} : fLst [.d a, .d b, .d c, .d d, .d e] S = .ok (.d (.lst [a, b, c, d, e])) S := rfl
theorem isi_in {n : Int} : fIsi .int (.d (.int n)) S = .ok (.d (.bl true)) S := rfl
theorem isi_tt {ds : List D} : fIsi .tuple (.d (.tup ds)) S = .ok (.d (.bl true)) S := rfl
theorem isi_ll {ds : List D} : fIsi .list (.d (.lst ds)) S = .ok (.d (.bl true)) S := rfl
theorem isi_bi {n : Int} : fIsi .bool (.d (.int n)) S = .ok (.d (.bl false)) S := rfl
theorem app_ap {e : Ev} : eApp a e Γ S = eApp a e Γ S := rfl
theorem frz_ap {ds : List D} {n0 : Nat} (h0 : Γ[i]? = some (some (.cell S.length))) (hn : n0 = S.length) : sFrz n0 i Γ (S ++ [some (.lst ds)]) = .nx ((Γ.set i (some (.d (.lst ds)))).map (keepB S.length)) S := by
  subst hn
  exact frz_last h0
theorem rc_ap {ds : List D} (h0 : Γ[i]? = some (some (.cell S.length))) : sRetC S.length i Γ (S ++ [some (.lst ds)]) = .rt (.d (.lst ds)) (S ++ [none]) := by
  unfold sRetC
  rw [h0]
  simp
theorem kb_d {n : Nat} {d : D} : keepB n (some (.d d)) = some (.d d) := rfl
theorem kb_n {n : Nat} : keepB n none = none := rfl
theorem kb_c {n : Nat} : keepB n (some (.cell n)) = none := by simp [keepB]
theorem st_ok {k : Nat} {ds : List D} {n : Int} {m : Nat} {d : D} {ei ea : Ev} {S2 S3 : Store} (h1 : ea Γ S = .ok (.d d) S1) (h2 : a Γ S1 = .ok (.cell k) S2) (h3 : ei Γ S2 = .ok (.d (.int n)) S3) (h4 : S3[k]? = some (some (.lst ds))) (h5 : ixN ds.length n = some m) :
    sSet a ei ea Γ S = .nx Γ (S3.set k (some (.lst (ds.set m d)))) := by
  unfold sSet
  rw [h1]
  simp only [R.fl, h2, h3, h4, h5]
theorem ap_ok {k : Nat} {ds : List D} {d : D} {e : Ev} (h1 : a Γ S = .ok (.cell k) S) (h2 : e Γ S = .ok (.d d) S1) (g1 : S[k]? = some (some (.lst ds))) (g2 : S1[k]? = some (some (.lst ds))) (h : ds.length < 1000000) :
    eApp a e Γ S = .ok (.d .non) (S1.set k (some (.lst (ds ++ [d])))) := by
  have ec : ds.length < cap := h
  unfold eApp
  rw [h1]
  simp only [R.bind, rd, g1, h2, g2, ec, if_true]
end
section
variable {α : Type} {it : Pd.Env → Store → R (List D)} {vs : List Nat} {tg : Tg} {test : Pd.Env → Store → R Bool} {elt : Ev} {Γ : Pd.Env} {S : Store}
theorem lc_map' (l : List α) (r f : α → D) (h : it Γ S = .ok (l.map r) S) (hl : l.length ≤ 1000000) (k : ∀ x ∈ l, ∃ Γ1, tg (r x) (wipeE Γ vs) = some Γ1 ∧ test Γ1 S = .ok true S ∧ elt Γ1 S = .ok (.d (f x)) S) : eLc it vs tg test elt Γ S = .ok (.d (.lst (l.map f))) S :=
  lc_i h (by rw [List.length_map]; exact hl) (lcD_map l r f k)
theorem lc_fil' (l : List α) (r f : α → D) (p : α → Bool) (h : it Γ S = .ok (l.map r) S) (hl : l.length ≤ 1000000) (k : ∀ x ∈ l, ∃ Γ1, tg (r x) (wipeE Γ vs) = some Γ1 ∧ test Γ1 S = .ok (p x) S ∧ (p x = true → elt Γ1 S = .ok (.d (f x)) S)) : eLc it vs tg test elt Γ S = .ok (.d (.lst ((l.filter p).map f))) S :=
  lc_i h (by rw [List.length_map]; exact hl) (lcD_filter l r f p k)
end

theorem forD_c {tg : Tg} {b : Sv} {x : D} {r : List D} {Γ Γ1 : Pd.Env} {S : Store} (h : tg x Γ = some Γ1) : forD tg b (x :: r) Γ S = (b Γ1 S).lp (forD tg b r) := by
  rw [forD, h]
theorem forD_n {tg : Tg} {b : Sv} {Γ : Pd.Env} {S : Store} : forD tg b [] Γ S = .nx Γ S := rfl
theorem lp_n {Γ : Pd.Env} {S : Store} {k : Sv} : F.lp (.nx Γ S) k = k Γ S := rfl
theorem lp_c {Γ : Pd.Env} {S : Store} {k : Sv} : F.lp (.ct Γ S) k = k Γ S := rfl
theorem lp_b {Γ : Pd.Env} {S : Store} {k : Sv} : F.lp (.bk Γ S) k = .nx Γ S := rfl
theorem lp_r {x : Val} {S : Store} {k : Sv} : F.lp (.rt x S) k = .rt x S := rfl
theorem set_last {i : Nat} {e : Ev} {Γ : Pd.Env} {S : Store} {ds : List D} {d : D} (h0 : Γ[i]? = some (some (.cell S.length))) (he : e Γ (S ++ [some (.lst ds)]) = .ok (.d d) (S ++ [some (.lst ds)])) (hd : ds ≠ []) :
    sSet (eVar i) (eUn fNeg (eC (.int 1))) e Γ (S ++ [some (.lst ds)]) = .nx Γ (S ++ [some (.lst (ds.set (ds.length - 1) d))]) := by
  have hl : 0 < ds.length := List.length_pos_iff.mpr hd
  have ix : ixN ds.length (-1) = some (ds.length - 1) := by
    unfold ixN
    rw [if_neg (by decide), if_pos (by omega)]
    congr 1
    omega
  have := st_ok (a := eVar i) (ei := eUn fNeg (eC (.int 1))) (ea := e) (Γ := Γ) (S := S ++ [some (.lst ds)]) (S1 := S ++ [some (.lst ds)]) (S2 := S ++ [some (.lst ds)]) (S3 := S ++ [some (.lst ds)]) (k := S.length) (n := -1) (ds := ds) (m := ds.length - 1) (d := d) he (by rw [v_ap, h0]) rfl (by simp) ix
  rw [this, set_app]
theorem ct_ok {o a : Ev} {Γ : Pd.Env} {S : Store} {ns : List Int} {k : Int} (h1 : o Γ S = .ok (.d (.lst (ns.map .int))) S) (h2 : a Γ S = .ok (.d (.int k)) S) : eCnt o a Γ S = .ok (.d (.int (ns.count k : Nat))) S := by
  unfold eCnt
  simp only [h1, R.bind, rd, h2, asInts_map]
theorem cut_to {α : Type} (l : List α) (i : Nat) : cutD l none (some (i : Int)) = l.take i := by
  unfold cutD
  have h2 : ¬ ((i : Int) < 0) := by omega
  by_cases h : i ≤ l.length
  · simp [HT.sIx, h2]
    try omega
  · have h3 : l.length ≤ i := by omega
    simp [HT.sIx, h2]
    try omega
theorem cut_ft {α : Type} (l : List α) (i j : Nat) (h : i ≤ l.length) (h2 : i ≤ j) (h3 : j ≤ l.length) : cutD l (some (i : Int)) (some (j : Int)) = (l.drop i).take (j - i) := by
  unfold cutD
  have h4 : ¬ ((i : Int) < 0) := by omega
  have h5 : ¬ ((j : Int) < 0) := by omega
  have e1 : HT.sIx l.length 0 (some (i : Int)) = i := by simp [HT.sIx, h4]; omega
  have e2 : HT.sIx l.length l.length (some (j : Int)) = j := by simp [HT.sIx, h5]; omega
  rw [e1, e2]
theorem lc_st' {α : Type} {it : Pd.Env → Store → R (List D)} {vs : List Nat} {tg : Tg} {elt : Ev} {Γ : Pd.Env} {S S1 : Store} (l : List α) (r : α → D) (Q : D → Prop) (I : Store → Prop) (h : it Γ S = .ok (l.map r) S1) (h0 : I S1) (hl : l.length ≤ 1000000)
    (k : ∀ x ∈ l, ∀ S, I S → ∃ Γ1, tg (r x) (wipeE Γ vs) = some Γ1 ∧ ∃ d S', elt Γ1 S = .ok (.d d) S' ∧ Q d ∧ I S') : ∃ ds S', eLc it vs tg tYesD elt Γ S = .ok (.d (.lst ds)) S' ∧ ds.length = l.length ∧ (∀ d ∈ ds, Q d) ∧ I S' := by
  obtain ⟨ds, S', e, e1, e2, e3⟩ := lcD_st (tg := tg) (elt := elt) (Γ := wipeE Γ vs) l r Q I S1 h0 k
  exact ⟨ds, S', lc_i h (by rw [List.length_map]; exact hl) e, e1, e2, e3⟩
/-! more constructs -/
section
variable {a b c : Ev} {s t : Sv} {Γ : Pd.Env} {S S1 : Store} {x y : Val} {i j l : Nat}
def _root_.Pd.R.sel (r : R Val) (c : Str) (e1 e2 : Ev) (Γ : Pd.Env) (S : Store) : R Val := match r with
  | .ok x S1 => if isO c x S1 = true then e1 Γ S else e2 Γ S
  | _ => .bad
theorem sel_ap {m : Str} : eSel m a b c Γ S = (a Γ S).sel m b c Γ S := rfl
theorem sel_t {m : Str} (h : isO m x S1 = true) : R.sel (.ok x S1) m b c Γ S = b Γ S := if_pos h
theorem sel_f {m : Str} (h : isO m x S1 = false) : R.sel (.ok x S1) m b c Γ S = c Γ S := if_neg (by rw [h]; exact Bool.false_ne_true)
theorem n_WT : (Str.ofString "Word" = Str.ofString "Table") = False := eq_false (by decide)
theorem n_TW : (Str.ofString "Table" = Str.ofString "Word") = False := eq_false (by decide)
theorem n_WC : (Str.ofString "Word" = Str.ofString "Case") = False := eq_false (by decide)
theorem n_CW : (Str.ofString "Case" = Str.ofString "Word") = False := eq_false (by decide)
theorem n_TC : (Str.ofString "Table" = Str.ofString "Case") = False := eq_false (by decide)
theorem n_CT : (Str.ofString "Case" = Str.ofString "Table") = False := eq_false (by decide)
theorem max1_l {ns : List Int} (h : 0 < ns.length) : fMax1 (.d (.lst (ns.map .int))) S = .ok (.d (.int (mxL ns))) S := by
  unfold fMax1 best1
  simp only [rd, asInts_map, h, if_true]
theorem max1_t {ns : List Int} (h : 0 < ns.length) : fMax1 (.d (.tup (ns.map .int))) S = .ok (.d (.int (mxL ns))) S := by
  unfold fMax1 best1
  simp only [rd, asInts_map, h, if_true]
theorem min1_l {ns : List Int} (h : 0 < ns.length) : fMin1 (.d (.lst (ns.map .int))) S = .ok (.d (.int (mnL ns))) S := by
  unfold fMin1 best1
  simp only [rd, asInts_map, h, if_true]
theorem min1_t {ns : List Int} (h : 0 < ns.length) : fMin1 (.d (.tup (ns.map .int))) S = .ok (.d (.int (mnL ns))) S := by
  unfold fMin1 best1
  simp only [rd, asInts_map, h, if_true]
def _root_.Pd.F.pv2 (f : F) (i : Nat) (x : D) : F := match f with
  | .nx Γ1 S2 => .nx (Γ1.set i (some (.d x))) S2
  | f => f
def kPv (i j : Nat) (b : Ev) (Γ : Pd.Env) : Val → Store → F
  | .d x, S => (sNew j b Γ S).pv2 i x
  | _, _ => .bad
def _root_.Pd.R.kPv (r : R Val) (i j : Nat) (b : Ev) (Γ : Pd.Env) : F := r.fl Γ (Pq.kPv i j b Γ)
theorem pv_ap : sPVN i j a b Γ S = (a Γ S).kPv i j b Γ := by
  unfold sPVN R.kPv
  congr 1
  funext x S
  cases x with
  | cell k => rfl
  | d x => rfl
theorem pv_ok {x : D} : R.kPv (.ok (.d x) S) i j b Γ = (sNew j b Γ S).pv2 i x := rfl
theorem pv2_n {x : D} : F.pv2 (.nx Γ S) i x = .nx (Γ.set i (some (.d x))) S := rfl
def _root_.Pd.R.kNr (r : R Val) (i : Nat) (Γ : Pd.Env) : F := r.fl Γ fun x S1 => match x with
  | .d (.lst ds) => (match toRows ds with
    | some rows => .nx (Γ.set i (some (.cell (S1.length + rows.length)))) (S1 ++ cells rows ++ [some (.refs (List.range' S1.length rows.length))])
    | none => .bad)
  | _ => .bad
theorem nr_ap : sNewR i a Γ S = (a Γ S).kNr i Γ := rfl
theorem nr_ok {rows : List (List D)} : R.kNr (.ok (.d (.lst (rows.map .lst))) S) i Γ = .nx (Γ.set i (some (.cell (S.length + rows.length)))) (S ++ cells rows ++ [some (.refs (List.range' S.length rows.length))]) := by
  simp only [R.kNr, R.fl, toRows_map]
theorem ext_last {e : Ev} {ds es : List D} (h0 : Γ[i]? = some (some (.cell S.length))) (he : e Γ (S ++ [some (.lst ds)]) = .ok (.d (.lst es)) (S ++ [some (.lst ds)])) (hz : ds.length + es.length ≤ 1000000) : eExt (eVar i) e Γ (S ++ [some (.lst ds)]) = .ok (.d .non) (S ++ [some (.lst (ds ++ es))]) := by
  have ec : ds.length + es.length ≤ cap := hz
  simp only [eExt, eVar, h0, R.bind, rd, get_app, he, set_app, ec, if_true]
end
theorem in_b {p : Bool} {S : Store} : fInt (.d (.bl p)) S = .ok (.d (.int (if p then 1 else 0))) S := by cases p <;> rfl
theorem zip_map' {α β : Type} (f : α → D) (g : β → D) (l : List α) (m : List β) : zipD (l.map f) (m.map g) = (l.zip m).map fun p => .tup [f p.1, g p.2] := by
  unfold zipD
  rw [List.zip_map, List.map_map]
  rfl
theorem lcD_two {α β : Type} {tg : Tg} {elt : Ev} {Γ : Pd.Env} (l : List α) (r : α → D) (f : β → D) (P : α → β → Prop) (I : Store → Prop) (S : Store) (h0 : I S)
    (h : ∀ x ∈ l, ∀ S, I S → ∃ Γ1, tg (r x) Γ = some Γ1 ∧ ∃ y S', elt Γ1 S = .ok (.d (f y)) S' ∧ P x y ∧ I S') : ∃ (ys : List β) (S' : Store), lcD tg tYesD elt Γ (l.map r) S = .ok (ys.map f) S' ∧ ys.length = l.length ∧ (∀ p ∈ l.zip ys, P p.1 p.2) ∧ I S' := by
  induction l generalizing S with
  | nil => exact ⟨[], S, rfl, rfl, by simp, h0⟩
  | cons x l ih =>
    obtain ⟨Γ1, h1, y, S1, h2, h3, h4⟩ := h x List.mem_cons_self S h0
    obtain ⟨ys, S2, e, e1, e2, e3⟩ := ih S1 h4 fun y hy => h y (List.mem_cons_of_mem _ hy)
    refine ⟨y :: ys, S2, ?_, by simp [e1], ?_, e3⟩
    · rw [List.map_cons, lcD, h1]
      simp only [tYesD, h2, noX, R.bind, lcY, if_true, e, List.map_cons]
    · intro z hz
      rw [List.zip_cons_cons] at hz
      rcases List.mem_cons.mp hz with q | q
      · rw [q]; exact h3
      · exact e2 z q
theorem lc_two' {α β : Type} {it : Pd.Env → Store → R (List D)} {vs : List Nat} {tg : Tg} {elt : Ev} {Γ : Pd.Env} {S S1 : Store} (l : List α) (r : α → D) (f : β → D) (P : α → β → Prop) (I : Store → Prop) (h : it Γ S = .ok (l.map r) S1) (h0 : I S1) (hl : l.length ≤ 1000000)
    (k : ∀ x ∈ l, ∀ S, I S → ∃ Γ1, tg (r x) (wipeE Γ vs) = some Γ1 ∧ ∃ y S', elt Γ1 S = .ok (.d (f y)) S' ∧ P x y ∧ I S') : ∃ (ys : List β) (S' : Store), eLc it vs tg tYesD elt Γ S = .ok (.d (.lst (ys.map f))) S' ∧ ys.length = l.length ∧ (∀ p ∈ l.zip ys, P p.1 p.2) ∧ I S' := by
  obtain ⟨ys, S', e, e1, e2, e3⟩ := lcD_two (tg := tg) (elt := elt) (Γ := wipeE Γ vs) l r f P I S1 h0 k
  exact ⟨ys, S', lc_i h (by rw [List.length_map]; exact hl) e, e1, e2, e3⟩
theorem zip_all {α β : Type} {Q : β → Prop} : ∀ {l : List α} {ys : List β}, ys.length = l.length → (∀ p ∈ l.zip ys, Q p.2) → ∀ y ∈ ys, Q y
  | [], [], _, _, _, h => by cases h
  | x :: l, z :: ys, e, h, y, hy => by
    rw [List.zip_cons_cons] at h
    rcases List.mem_cons.mp hy with q | q
    · rw [q]; exact h (x, z) List.mem_cons_self
    · exact zip_all (l := l) (by simpa using e) (fun p hp => h p (List.mem_cons_of_mem _ hp)) y q
end Pq

set_option maxHeartbeats 4000000
namespace L16
open PySem PySem.Spec PyProof.Rows L2 Pd
def top (i : Nat) : Stmt := PySem.Challenge.pw_countshelves_k16_errors_of_shelves.main.body.getD i (.Pass ⟨0, 0, 0, 0⟩)
abbrev s__law_met : Stmt := top 43
abbrev s_InvalidCount___init__ : Stmt := inClass (top 8) 0
abbrev s_TooMany___init__ : Stmt := inClass (top 9) 0
abbrev s__wall : Stmt := top 0
abbrev s_is_integer : Stmt := top 11
abbrev s_is_within : Stmt := top 12
abbrev s_require_within : Stmt := top 13
abbrev s_lean_in : Stmt := top 18
abbrev s_is_run : Stmt := top 19
abbrev s_are_runs : Stmt := top 20
abbrev s_part_of : Stmt := top 21
abbrev s_require_word : Stmt := top 23
abbrev s_run_pushed : Stmt := top 25
abbrev s_run_pulled : Stmt := top 26
abbrev s_led_in : Stmt := top 27
abbrev s_fits_in : Stmt := top 28
abbrev s_is_shelf : Stmt := top 29
abbrev s_require_shelf : Stmt := top 30
abbrev s_require_letter : Stmt := top 31
abbrev s_require_room : Stmt := top 32
abbrev s_push_in : Stmt := top 33
abbrev s_Word_width : Stmt := inClass (top 22) 2
abbrev s_Word_runs : Stmt := inClass (top 22) 3
abbrev s_push_word : Stmt := top 34
abbrev s_pull_in : Stmt := top 35
abbrev s_fits_under : Stmt := top 36
abbrev s__law_dice : Stmt := top 38
abbrev s__law_roll : Stmt := top 39
abbrev s__law_pick : Stmt := top 40
abbrev s__law_one : Stmt := top 41
abbrev s__law_first : Stmt := top 42
abbrev s_Word___init__ : Stmt := inClass (top 22) 1
abbrev s__law_right : Stmt := top 44
abbrev s_law : Stmt := top 45
abbrev s_Word_length : Stmt := inClass (top 22) 4
abbrev s_Word_counts : Stmt := inClass (top 22) 5
abbrev s_Word_letter : Stmt := inClass (top 22) 6
abbrev s_Word___eq__ : Stmt := inClass (top 22) 7
abbrev s_Word___ne__ : Stmt := inClass (top 22) 8
def rel_Word : Str → Option Bool := fun c => if c = "Word" then some true else none
def metT : List (Str × Bool × Str) := [("InvalidWord", false, "word"), ("InvalidTable", false, "table"), ("InvalidShape", false, "shape"), ("InvalidCase", false, "case"), ("InvalidOperation", false, "operation"), ("InvalidCount", true, "count "), ("TooMany", true, "many ")]
def gX (K : PySem.W.Frag) (k_Word k_InvalidCount k_InvalidWord k_InvalidOperation k_TooMany k_InvalidTable k_InvalidShape k_InvalidCase P__law_right P_law v_run_pushed : Addr) : Gx := ⟨K, fun c => if c = "Word" then some k_Word else if c = "InvalidCount" then some k_InvalidCount else if c = "InvalidWord" then some k_InvalidWord else if c = "InvalidOperation" then some k_InvalidOperation else if c = "TooMany" then some k_TooMany else if c = "InvalidTable" then some k_InvalidTable else if c = "InvalidShape" then some k_InvalidShape else if c = "InvalidCase" then some k_InvalidCase else none, fun c => if c = "InvalidCount" then "given" else if c = "TooMany" then "limit" else "", [(P__law_right, lamN "_law_right"), (P_law, lamN "law")], fun x => if x = "run_pushed" then some v_run_pushed else none⟩
structure Txt (mg : Str → Option Value) : Prop where
  n_abs : mg "abs" = none
  n_all : mg "all" = none
  n_bool : mg "bool" = none
  n_int : mg "int" = none
  n_isinstance : mg "isinstance" = none
  n_len : mg "len" = none
  n_list : mg "list" = none
  n_max : mg "max" = none
  n_min : mg "min" = none
  n_range : mg "range" = none
  n_repr : mg "repr" = none
  n_reversed : mg "reversed" = none
  n_sum : mg "sum" = none
  n_tuple : mg "tuple" = none
  n_zip : mg "zip" = none
  c_MOST_RUNS : ∃ t, mg "MOST_RUNS" = some (.int 200 t)
  c_MOST_TOTAL : ∃ t, mg "MOST_TOTAL" = some (.int 10000000000000000000000000000000000000000000000000000000000000000 t)
  c_MOST_WIDTH : ∃ t, mg "MOST_WIDTH" = some (.int 8 t)
def d__wall : List Val → Store → R Val := funD 0 fun n0 => (whD (eC (.bl true)) sNil fuel)
def d_is_integer : List Val → Store → R Val := funD 0 fun n0 => (sRet (eAnd (eUn (fIsi .int) (eVar 0)) (eNot (eUn (fIsi .bool) (eVar 0)))))
def d_is_within : List Val → Store → R Val := funD 0 fun n0 => (sRet (eAnd (eCall d_is_integer (eCons (eVar 0) eNil)) (eChain fLe fLe (eVar 1) (eVar 0) (eVar 2))))
def d_require_within : List Val → Store → R Val := funD 0 fun n0 => (sIf (eNot (eCall d_is_within (eCons (eVar 0) (eCons (eVar 1) (eCons (eVar 2) eNil))))) (sRaiV "InvalidCount" (eVar 0)) sNil)
def d_lean_in : List Val → Store → R Val := funD 3 fun n0 => (sSeq (sNew 1 (eCall fLst eNil)) (sSeq (sFor (itV (eVar 0)) (tgT (tgsCons (tgN 2) (tgsCons (tgN 3) tgsNil))) (sIf (eAnd (eBin fNe (eVar 1) (eCall fLst eNil)) (eBin fEq (eBin fIx (eBin fIx (eVar 1) (eUn fNeg (eC (.int 1)))) (eC (.int 0))) (eVar 2))) (sSet (eVar 1) (eUn fNeg (eC (.int 1))) (eCall fTup (eCons (eVar 2) (eCons (eBin fAdd (eBin fIx (eBin fIx (eVar 1) (eUn fNeg (eC (.int 1)))) (eC (.int 1))) (eVar 3)) eNil)))) (sIf (eBin fGt (eVar 3) (eC (.int 0))) (sEx (eApp (eVar 1) (eCall fTup (eCons (eVar 2) (eCons (eVar 3) eNil))))) sNil))) (sRetC n0 1)))
def d_is_run : List Val → Store → R Val := funD 0 fun n0 => (sSeq (sIf (eOr (eNot (eUn (fIsi .tuple) (eVar 1))) (eBin fNe (eUn fLen (eVar 1)) (eC (.int 2)))) (sRet (eC (.bl false))) sNil) (sRet (eAnd (eCall d_is_within (eCons (eBin fIx (eVar 1) (eC (.int 0))) (eCons (eC (.int 0)) (eCons (eBin fSub (eVar 0) (eC (.int 1))) eNil)))) (eCall d_is_within (eCons (eBin fIx (eVar 1) (eC (.int 1))) (eCons (eC (.int 1)) (eCons (eC (.int 10000000000000000000000000000000000000000000000000000000000000000)) eNil)))))))
def d_are_runs : List Val → Store → R Val := funD 3 fun n0 => (sSeq (sIf (eOr (eNot (eUn (fIsi .tuple) (eVar 1))) (eOr (eBin fGt (eUn fLen (eVar 1)) (eC (.int 200))) (eNot (eUn fAll (eLc (itV (eVar 1)) [2] (tgN 2) tYesD (eCall d_is_run (eCons (eVar 0) (eCons (eVar 2) eNil)))))))) (sRet (eC (.bl false))) sNil) (sRet (eBin fLe (eUn fSum (eLc (itV (eVar 1)) [3, 4] (tgT (tgsCons (tgN 3) (tgsCons (tgN 4) tgsNil))) tYesD (eVar 4))) (eC (.int 10000000000000000000000000000000000000000000000000000000000000000)))))
def d_part_of : List Val → Store → R Val := funD 5 fun n0 => (sSeq (sNew 3 (eCall fLst eNil)) (sSeq (sFor (itV (eVar 0)) (tgT (tgsCons (tgN 4) (tgsCons (tgN 5) tgsNil))) (sSeq (sPar 6 7 (eBin fMax2 (eVar 1) (eC (.int 0))) (eBin fMin2 (eBin fAdd (eVar 1) (eVar 2)) (eVar 5))) (sSeq (sIf (eBin fLt (eVar 6) (eVar 7)) (sEx (eApp (eVar 3) (eCall fTup (eCons (eVar 4) (eCons (eBin fSub (eVar 7) (eVar 6)) eNil))))) sNil) (sAsg 1 (eBin fSub (eVar 1) (eVar 5)))))) (sRetC n0 3)))
def d_require_word : List Val → Store → R Val := funD 0 fun n0 => (sIf (eNot (eUn (fIsiO rel_Word) (eVar 0))) (sRai "InvalidWord") sNil)
def d_run_pushed : List Val → Store → R Val := funD 5 fun n0 => (sSeq (sPNNV 4 5 6 (eUn fList (eVar 0)) (eCall fLst eNil) (eVar 2)) (sSeq (sFor (itR2 (eBin fAdd (eVar 1) (eC (.int 1))) (eUn fLen (eVar 4))) (tgN 3) (sSeq (sAsg 7 (eBin fMin2 (eVar 6) (eBin fIx (eVar 4) (eVar 3)))) (sIf (eBin fGt (eVar 7) (eC (.int 0))) (sSeq (sAugS (fun i j => i - j) (eVar 4) (eVar 3) (eVar 7)) (sSeq (sEx (eApp (eVar 5) (eCall fTup (eCons (eVar 3) (eCons (eVar 7) eNil))))) (sAug 6 (fun i j => i - j) (eVar 7)))) sNil))) (sSeq (sFrz n0 5) (sSeq (sAugS (fun i j => i + j) (eVar 4) (eVar 1) (eVar 2)) (sSeq (sFrz n0 4) (sRet (eCall fTup (eCons (eVar 4) (eCons (eVar 5) eNil)))))))))
def d_run_pulled : List Val → Store → R Val := funD 5 fun n0 => (sSeq (sPNNV 4 5 6 (eUn fList (eVar 0)) (eCall fLst eNil) (eVar 2)) (sSeq (sFor (itRv1 (eVar 1)) (tgN 3) (sSeq (sAsg 7 (eBin fMin2 (eVar 6) (eBin fIx (eVar 4) (eVar 3)))) (sIf (eBin fGt (eVar 7) (eC (.int 0))) (sSeq (sAugS (fun i j => i - j) (eVar 4) (eVar 3) (eVar 7)) (sSeq (sEx (eApp (eVar 5) (eCall fTup (eCons (eVar 3) (eCons (eVar 7) eNil))))) (sAug 6 (fun i j => i - j) (eVar 7)))) sNil))) (sSeq (sFrz n0 5) (sSeq (sAugS (fun i j => i + j) (eVar 4) (eVar 1) (eVar 2)) (sSeq (sFrz n0 4) (sRet (eCall fTup (eCons (eVar 4) (eCons (eVar 5) eNil)))))))))
def d_led_in : List Val → Store → R Val := funD 4 fun n0 => (sSeq (sNew 3 (eCall fLst eNil)) (sSeq (sFor (itV (eVar 1)) (tgT (tgsCons (tgN 4) (tgsCons (tgN 5) tgsNil))) (sSeq (sAsgT (tgT (tgsCons (tgN 0) (tgsCons (tgN 6) tgsNil))) (eCallV 2 [("run_pushed", d_run_pushed)] (eCons (eVar 0) (eCons (eVar 4) (eCons (eVar 5) eNil))))) (sEx (eExt (eVar 3) (eVar 6))))) (sSeq (sFrz n0 3) (sRet (eCall fTup (eCons (eVar 0) (eCons (eCall d_lean_in (eCons (eVar 3) eNil)) eNil)))))))
def d_fits_in : List Val → Store → R Val := funD 4 fun n0 => (sSeq (sPar 2 3 (eC (.int 0)) (eC (.int 0))) (sSeq (sFor (itZ (eVar 0) (eVar 1)) (tgT (tgsCons (tgN 4) (tgsCons (tgN 5) tgsNil))) (sSeq (sAug 3 (fun i j => i + j) (eVar 5)) (sSeq (sIf (eBin fGt (eVar 3) (eVar 2)) (sRet (eC (.bl false))) sNil) (sAug 2 (fun i j => i + j) (eVar 4))))) (sRet (eC (.bl true)))))
def d_is_shelf : List Val → Store → R Val := funD 1 fun n0 => (sSeq (sIf (eOr (eNot (eUn (fIsi .tuple) (eVar 0))) (eNot (eChain fLe fLe (eC (.int 1)) (eUn fLen (eVar 0)) (eC (.int 8))))) (sRet (eC (.bl false))) sNil) (sRet (eAnd (eUn fAll (eLc (itV (eVar 0)) [1] (tgN 1) tYesD (eCall d_is_within (eCons (eVar 1) (eCons (eC (.int 0)) (eCons (eC (.int 10000000000000000000000000000000000000000000000000000000000000000)) eNil)))))) (eBin fLe (eUn fSum (eVar 0)) (eC (.int 10000000000000000000000000000000000000000000000000000000000000000))))))
def d_require_shelf : List Val → Store → R Val := funD 0 fun n0 => (sIf (eNot (eCall d_is_shelf (eCons (eVar 0) eNil))) (sRai "InvalidOperation") sNil)
def d_require_letter : List Val → Store → R Val := funD 0 fun n0 => (sSeq (sEx (eCall d_require_shelf (eCons (eVar 0) eNil))) (sSeq (sEx (eCall d_require_within (eCons (eVar 1) (eCons (eC (.int 0)) (eCons (eBin fSub (eUn fLen (eVar 0)) (eC (.int 1))) eNil))))) (sEx (eCall d_require_within (eCons (eVar 2) (eCons (eC (.int 0)) (eCons (eC (.int 10000000000000000000000000000000000000000000000000000000000000000)) eNil)))))))
def d_require_room : List Val → Store → R Val := funD 0 fun n0 => (sIf (eBin fGt (eBin fAdd (eVar 0) (eVar 1)) (eC (.int 10000000000000000000000000000000000000000000000000000000000000000))) (sRaiV "TooMany" (eC (.int 10000000000000000000000000000000000000000000000000000000000000000))) sNil)
def d_push_in : List Val → Store → R Val := funD 2 fun n0 => (sSeq (sEx (eCall d_require_letter (eCons (eVar 0) (eCons (eVar 1) (eCons (eVar 2) eNil))))) (sSeq (sAsgT (tgT (tgsCons (tgN 3) (tgsCons (tgN 4) tgsNil))) (eCall d_run_pushed (eCons (eVar 0) (eCons (eVar 1) (eCons (eVar 2) eNil))))) (sSeq (sEx (eCall d_require_room (eCons (eUn fSum (eVar 3)) (eCons (eC (.int 0)) eNil)))) (sRet (eCall fTup (eCons (eUn fTuple (eVar 3)) (eCons (eUn fTuple (eVar 4)) eNil)))))))
def d_Word_width : List Val → Store → R Val := funD 0 fun n0 => (sRet (eUn (fFld "Word" 1) (eVar 0)))
def d_Word_runs : List Val → Store → R Val := funD 0 fun n0 => (sRet (eUn (fFld "Word" 0) (eVar 0)))
def d_push_word : List Val → Store → R Val := funD 2 fun n0 => (sSeq (sEx (eCall d_require_shelf (eCons (eVar 0) eNil))) (sSeq (sEx (eCall d_require_word (eCons (eVar 1) eNil))) (sSeq (sIf (eBin fNe (eUn (fPr "Word" d_Word_width) (eVar 1)) (eUn fLen (eVar 0))) (sRai "InvalidOperation") sNil) (sSeq (sAsgT (tgT (tgsCons (tgN 2) (tgsCons (tgN 3) tgsNil))) (eCall d_led_in (eCons (eVar 0) (eCons (eUn (fPr "Word" d_Word_runs) (eVar 1)) (eCons (eC (.fn "run_pushed")) eNil))))) (sSeq (sEx (eCall d_require_room (eCons (eUn fSum (eVar 2)) (eCons (eC (.int 0)) eNil)))) (sRet (eCall fTup (eCons (eUn fTuple (eVar 2)) (eCons (eUn fTuple (eVar 3)) eNil)))))))))
def d_pull_in : List Val → Store → R Val := funD 2 fun n0 => (sSeq (sEx (eCall d_require_letter (eCons (eVar 0) (eCons (eVar 1) (eCons (eVar 2) eNil))))) (sSeq (sIf (eBin fLt (eUn fSum (eSl (eVar 0) eoN (eoS (eVar 1)))) (eVar 2)) (sRai "InvalidOperation") sNil) (sSeq (sAsgT (tgT (tgsCons (tgN 3) (tgsCons (tgN 4) tgsNil))) (eCall d_run_pulled (eCons (eVar 0) (eCons (eVar 1) (eCons (eVar 2) eNil))))) (sRet (eCall fTup (eCons (eUn fTuple (eVar 3)) (eCons (eUn fTuple (eVar 4)) eNil)))))))
def d_fits_under : List Val → Store → R Val := funD 0 fun n0 => (sSeq (sEx (eCall d_require_shelf (eCons (eVar 0) eNil))) (sSeq (sEx (eCall d_require_shelf (eCons (eVar 1) eNil))) (sSeq (sIf (eBin fNe (eUn fLen (eVar 0)) (eUn fLen (eVar 1))) (sRai "InvalidOperation") sNil) (sRet (eCall d_fits_in (eCons (eVar 0) (eCons (eVar 1) eNil)))))))
def d__law_dice : List Val → Store → R Val := funD 3 fun n0 => (sSeq (sAsg 2 (eIf (eBin fLt (eVar 1) (eUn fLen (eVar 0))) (eUn fInt (eBin fIx (eVar 0) (eVar 1))) (eBin fAdd (eBin fMul (eC (.int 233)) (eVar 1)) (eC (.int 113))))) (sSeq (sAsg 3 (eBin fMod (eUn fInt (eUn fAbs (eVar 2))) (eBin fPow (eBin fPow (eC (.int 10)) (eC (.int 54))) (eC (.int 6))))) (sSeq (sAsg 4 (eBin fAdd (eBin fAdd (eBin fAdd (eBin fMul (eBin fMod (eVar 3) (eC (.int 2305843009213693921))) (eC (.int 97))) (eBin fMul (eC (.int 733)) (eVar 1))) (eBin fMul (eC (.int 67)) (eUn fInt (eBin fLt (eVar 2) (eC (.int 0)))))) (eC (.int 53)))) (sRet (eCall fLst (eCons (eBin fMax2 (eC (.int 0)) (eBin fSub (eVar 3) (eBin fPow (eC (.int 10)) (eC (.int 16))))) (eCons (eVar 4) (eCons (eC (.int 0)) eNil))))))))
def d__law_roll : List Val → Store → R Val := funD 3 fun n0 => (sSeq (sIf (eBin fGt (eBin fIx (eVar 0) (eC (.int 0))) (eC (.int 0))) (sSeq (sAsg 4 (eBin fMod (eBin fIx (eVar 0) (eC (.int 0))) (eVar 1))) (sSeq (sSet (eVar 0) (eC (.int 0)) (eBin fDiv (eBin fIx (eVar 0) (eC (.int 0))) (eVar 1))) (sRet (eUn fInt (eVar 4))))) sNil) (sSeq (sSet (eVar 0) (eC (.int 2)) (eBin fAdd (eBin fIx (eVar 0) (eC (.int 2))) (eC (.int 1)))) (sSeq (sAsg 2 (eBin fMod (eBin fAdd (eBin fIx (eVar 0) (eC (.int 1))) (eBin fMul (eC (.int 86028121)) (eBin fIx (eVar 0) (eC (.int 2))))) (eC (.int 2305843009213693951)))) (sSeq (sAsg 3 (eBin fAdd (eBin fMul (eBin fMod (eBin fAdd (eBin fMul (eVar 2) (eVar 2)) (eBin fMul (eC (.int 191)) (eBin fIx (eVar 0) (eC (.int 2))))) (eC (.int 2305843009213693907))) (eC (.int 15485867))) (eVar 2))) (sRet (eBin fMod (eUn fInt (eBin fDiv (eVar 3) (eC (.int 65537)))) (eVar 1)))))))
def d__law_pick : List Val → Store → R Val := funD 0 fun n0 => (sRet (eBin fIx (eVar 1) (eCall d__law_roll (eCons (eVar 0) (eCons (eUn fLen (eVar 1)) eNil)))))
def d__law_one : List Val → Store → R Val := funD 0 fun n0 => (sSeq (sIf (eBin fGt (eCall d__law_roll (eCons (eVar 0) (eCons (eC (.int 3)) eNil))) (eC (.int 0))) (sRet (eCall fTup (eCons (eVar 1) (eCons (eC (.bl false)) eNil)))) sNil) (sRet (eCall fTup (eCons (eCall d__law_pick (eCons (eVar 0) (eCons (eVar 2) eNil))) (eCons (eC (.bl true)) eNil)))))
def d__law_first : List Val → Store → R Val := funD 3 fun n0 => (sSeq (sAsg 1 (eLc (itV (eVar 0)) [2, 3] (tgT (tgsCons (tgN 2) (tgsCons (tgN 3) tgsNil))) (eTest (eVar 3)) (eVar 2))) (sRet (eIf (eBin fNe (eVar 1) (eCall fLst eNil)) (eBin fIx (eVar 1) (eC (.int 0))) (eC (.str "none")))))
def d_Word___init__ : List Val → Store → R Val := funD 0 fun n0 => (sSeq (sIf (eOr (eNot (eCall d_is_within (eCons (eVar 1) (eCons (eC (.int 1)) (eCons (eC (.int 8)) eNil))))) (eNot (eCall d_are_runs (eCons (eVar 1) (eCons (eVar 2) eNil))))) (sRai "InvalidWord") sNil) (sPut2 0 "Word" 1 0 (eVar 1) (eUn fTuple (eCall d_lean_in (eCons (eVar 2) eNil)))))
def d__law_right : List Val → Store → R Val := funD 18 fun n0 => (sSeq (sAsg 1 (eCall fLst (eCons (eC .non) (eCons (eC (.int 5)) (eCons (eCall fLst eNil) (eCons (eCall fTup eNil) (eCons (eCall fLst (eCons (eC (.int 1)) (eCons (eC (.int 2)) eNil))) (eCons (eBin fMul (eCall fTup (eCons (eC (.int 1)) eNil)) (eC (.int 9))) (eCons (eCall fTup (eCons (eUn fNeg (eC (.int 1))) (eCons (eC (.int 2)) eNil))) (eCons (eCall fTup (eCons (eC (.bl true)) (eCons (eC (.int 1)) eNil))) (eCons (eCall fTup (eCons (eC (.str "1")) (eCons (eC (.int 1)) eNil))) (eCons (eCall fTup (eCons (eBin fPow (eC (.int 10)) (eC (.int 64))) (eCons (eC (.int 1)) eNil))) (eCons (eCall fTup (eCons (eCall fTup (eCons (eC (.int 1)) eNil)) eNil)) (eCons (eC (.str "12")) eNil)))))))))))))) (sSeq (sAsg 2 (eBin fPow (eC (.int 10)) (eC (.int 64)))) (sSeq (sAsgT (tgT (tgsCons (tgN 5) (tgsCons (tgN 6) tgsNil))) (eCall d__law_one (eCons (eVar 0) (eCons (eCall d__law_pick (eCons (eVar 0) (eCons (eCall fLst (eCons (eCall fTup (eCons (eC (.int 2)) (eCons (eC (.int 0)) (eCons (eC (.int 1)) eNil)))) (eCons (eCall fTup (eCons (eC (.int 0)) (eCons (eC (.int 0)) (eCons (eC (.int 0)) eNil)))) (eCons (eCall fTup (eCons (eC (.int 1)) (eCons (eC (.int 3)) (eCons (eC (.int 0)) eNil)))) eNil)))) eNil))) (eCons (eVar 1) eNil))))) (sSeq (sAsg 3 (eC (.int 3))) (sSeq (sAsgT (tgT (tgsCons (tgN 7) (tgsCons (tgN 8) tgsNil))) (eCall d__law_one (eCons (eVar 0) (eCons (eCall d__law_roll (eCons (eVar 0) (eCons (eVar 3) eNil))) (eCons (eCall fLst (eCons (eUn fNeg (eC (.int 1))) (eCons (eC (.int 3)) (eCons (eC .non) (eCons (eC (.bl true)) (eCons (eC (.str "0")) (eCons (eVar 2) eNil))))))) eNil))))) (sSeq (sAsgT (tgT (tgsCons (tgN 9) (tgsCons (tgN 10) tgsNil))) (eCall d__law_one (eCons (eVar 0) (eCons (eCall d__law_pick (eCons (eVar 0) (eCons (eCall fLst (eCons (eC (.int 0)) (eCons (eC (.int 1)) (eCons (eC (.int 2)) (eCons (eC (.int 3)) (eCons (eC (.int 4)) eNil)))))) eNil))) (eCons (eCall fLst (eCons (eUn fNeg (eC (.int 1))) (eCons (eC .non) (eCons (eC (.bl false)) (eCons (eC (.str "1")) (eCons (eBin fAdd (eVar 2) (eC (.int 1))) eNil)))))) eNil))))) (sSeq (sNew 4 (eCall fLst (eCons (eCall fTup (eCons (eC (.str "operation")) (eCons (eVar 6) eNil))) (eCons (eCall fTup (eCons (eBin fAdd (eC (.str "count ")) (eUn fRepr (eVar 7))) (eCons (eVar 8) eNil))) (eCons (eCall fTup (eCons (eBin fAdd (eC (.str "count ")) (eUn fRepr (eVar 9))) (eCons (eVar 10) eNil))) eNil))))) (sSeq (sIf (eBin fNe (eMet metT "none" (eCall d_push_in (eCons (eVar 5) (eCons (eVar 7) (eCons (eVar 9) eNil))))) (eLend 4 (eCall d__law_first (eCons (eVar 4) eNil)))) (sRet (eC (.bl false))) sNil) (sSeq (sIf (eBin fEq (eLend 4 (eCall d__law_first (eCons (eVar 4) eNil))) (eC (.str "none"))) (sEx (eApp (eVar 4) (eCall fTup (eCons (eC (.str "operation")) (eCons (eBin fLt (eUn fSum (eSl (eVar 5) eoN (eoS (eVar 7)))) (eVar 9)) eNil))))) sNil) (sSeq (sIf (eBin fNe (eMet metT "none" (eCall d_pull_in (eCons (eVar 5) (eCons (eVar 7) (eCons (eVar 9) eNil))))) (eLend 4 (eCall d__law_first (eCons (eVar 4) eNil)))) (sRet (eC (.bl false))) sNil) (sSeq (sAsgT (tgT (tgsCons (tgN 11) (tgsCons (tgN 12) tgsNil))) (eCall d__law_one (eCons (eVar 0) (eCons (eCall (mkO "Word" d_Word___init__) (eCons (eC (.int 3)) (eCons (eCall fTup (eCons (eCall fTup (eCons (eC (.int 1)) (eCons (eC (.int 2)) eNil))) (eCons (eCall fTup (eCons (eC (.int 0)) (eCons (eC (.int 1)) eNil))) eNil))) eNil))) (eCons (eCall fLst (eCons (eC .non) (eCons (eCall fTup eNil) (eCons (eCall fTup (eCons (eCall fTup (eCons (eC (.int 0)) (eCons (eC (.int 1)) eNil))) eNil)) (eCons (eC (.str "word")) (eCons (eC (.int 5)) eNil)))))) eNil))))) (sSeq (sAsgT (tgT (tgsCons (tgN 13) (tgsCons (tgN 14) tgsNil))) (eCall d__law_one (eCons (eVar 0) (eCons (eVar 11) (eCons (eCall fLst (eCons (eCall (mkO "Word" d_Word___init__) (eCons (eC (.int 2)) (eCons (eCall fTup (eCons (eCall fTup (eCons (eC (.int 1)) (eCons (eC (.int 1)) eNil))) eNil)) eNil))) (eCons (eCall (mkO "Word" d_Word___init__) (eCons (eC (.int 4)) (eCons (eCall fTup eNil) eNil))) eNil))) eNil))))) (sSeq (sIf (eVar 12) (sPar 13 14 (eVar 11) (eC (.bl false))) sNil) (sSeq (sNew 4 (eCall fLst (eCons (eCall fTup (eCons (eC (.str "operation")) (eCons (eVar 6) eNil))) (eCons (eCall fTup (eCons (eC (.str "word")) (eCons (eVar 12) eNil))) (eCons (eCall fTup (eCons (eC (.str "operation")) (eCons (eVar 14) eNil))) eNil))))) (sSeq (sIf (eBin fNe (eMet metT "none" (eCall d_push_word (eCons (eVar 5) (eCons (eVar 13) eNil)))) (eLend 4 (eCall d__law_first (eCons (eVar 4) eNil)))) (sRet (eC (.bl false))) sNil) (sSeq (sAsgT (tgT (tgsCons (tgN 15) (tgsCons (tgN 16) tgsNil))) (eCall d__law_one (eCons (eVar 0) (eCons (eCall d__law_pick (eCons (eVar 0) (eCons (eCall fLst (eCons (eCall fTup (eCons (eC (.int 0)) (eCons (eC (.int 1)) (eCons (eC (.int 0)) eNil)))) (eCons (eCall fTup (eCons (eC (.int 0)) (eCons (eC (.int 0)) (eCons (eC (.int 0)) eNil)))) eNil))) eNil))) (eCons (eVar 1) eNil))))) (sSeq (sAsgT (tgT (tgsCons (tgN 17) (tgsCons (tgN 18) tgsNil))) (eCall d__law_one (eCons (eVar 0) (eCons (eVar 15) (eCons (eCall fLst (eCons (eCall fTup (eCons (eC (.int 0)) (eCons (eC (.int 1)) eNil))) (eCons (eCall fTup (eCons (eC (.int 0)) (eCons (eC (.int 0)) (eCons (eC (.int 0)) (eCons (eC (.int 1)) eNil))))) eNil))) eNil))))) (sSeq (sIf (eVar 16) (sPar 17 18 (eVar 15) (eC (.bl false))) sNil) (sSeq (sNew 4 (eCall fLst (eCons (eCall fTup (eCons (eC (.str "operation")) (eCons (eVar 6) eNil))) (eCons (eCall fTup (eCons (eC (.str "operation")) (eCons (eOr (eVar 16) (eVar 18)) eNil))) eNil)))) (sSeq (sFrz n0 4) (sRet (eBin fEq (eMet metT "none" (eCall d_fits_under (eCons (eVar 5) (eCons (eVar 17) eNil)))) (eLend 4 (eCall d__law_first (eCons (eVar 4) eNil)))))))))))))))))))))))))
def d_law : List Val → Store → R Val := funD 5 fun n0 => (sSeq (sFor (itR1 (eBin fMax2 (eC (.int 1)) (eBin fMin2 (eC (.int 6)) (eUn fLen (eVar 0))))) (tgN 1) (sSeq (sNew 3 (eCall d__law_dice (eCons (eVar 0) (eCons (eVar 1) eNil)))) (sSeq (sIf (eOr (eNot (eCall d__law_right (eCons (eVar 3) eNil))) (eNot (eCall d__law_right (eCons (eVar 3) eNil)))) (sRet (eC (.bl false))) sNil) (sSeq (sFrz n0 3) sNil)))) (sSeq (sPVN 4 5 (eBin fPow (eC (.int 10)) (eC (.int 64))) (eCall fLst eNil)) (sSeq (sEx (eApp (eVar 5) (eMet metT "none" (eCall d_push_in (eCons (eCall fTup (eCons (eVar 4) (eCons (eC (.int 0)) eNil))) (eCons (eC (.int 1)) (eCons (eC (.int 1)) eNil))))))) (sSeq (sEx (eApp (eVar 5) (eMet metT "none" (eCall d_push_in (eCons (eCall fTup (eCons (eBin fSub (eVar 4) (eC (.int 1))) (eCons (eC (.int 0)) eNil))) (eCons (eC (.int 1)) (eCons (eC (.int 1)) eNil))))))) (sSeq (sEx (eApp (eVar 5) (eMet metT "none" (eCall d_push_in (eCons (eCall fTup (eCons (eC (.int 0)) (eCons (eVar 4) eNil))) (eCons (eC (.int 0)) (eCons (eC (.int 5)) eNil))))))) (sSeq (sEx (eApp (eVar 5) (eMet metT "none" (eCall d_push_in (eCons (eCall fTup (eCons (eC (.int 0)) (eCons (eBin fSub (eVar 4) (eC (.int 3))) eNil))) (eCons (eC (.int 0)) (eCons (eVar 4) eNil))))))) (sSeq (sEx (eApp (eVar 5) (eMet metT "none" (eCall d_push_word (eCons (eCall fTup (eCons (eC (.int 0)) (eCons (eVar 4) eNil))) (eCons (eCall (mkO "Word" d_Word___init__) (eCons (eC (.int 2)) (eCons (eCall fTup (eCons (eCall fTup (eCons (eC (.int 0)) (eCons (eC (.int 4)) eNil))) eNil)) eNil))) eNil)))))) (sSeq (sEx (eApp (eVar 5) (eMet metT "none" (eCall d_push_word (eCons (eCall fTup (eCons (eBin fSub (eVar 4) (eC (.int 4))) (eCons (eC (.int 0)) eNil))) (eCons (eCall (mkO "Word" d_Word___init__) (eCons (eC (.int 2)) (eCons (eCall fTup (eCons (eCall fTup (eCons (eC (.int 1)) (eCons (eC (.int 4)) eNil))) (eCons (eCall fTup (eCons (eC (.int 0)) (eCons (eC (.int 4)) eNil))) eNil))) eNil))) eNil)))))) (sSeq (sEx (eApp (eVar 5) (eMet metT "none" (eCall d_push_word (eCons (eCall fTup (eCons (eBin fSub (eVar 4) (eC (.int 4))) (eCons (eC (.int 0)) eNil))) (eCons (eCall (mkO "Word" d_Word___init__) (eCons (eC (.int 2)) (eCons (eCall fTup (eCons (eCall fTup (eCons (eC (.int 1)) (eCons (eC (.int 5)) eNil))) (eCons (eCall fTup (eCons (eC (.int 0)) (eCons (eC (.int 4)) eNil))) eNil))) eNil))) eNil)))))) (sSeq (sEx (eApp (eVar 5) (eMet metT "none" (eCall d_pull_in (eCons (eCall fTup (eCons (eVar 4) (eCons (eC (.int 0)) eNil))) (eCons (eC (.int 1)) (eCons (eVar 4) eNil))))))) (sSeq (sFrz n0 5) (sSeq (sAsg 2 (eBin fAdd (eC (.str "many ")) (eUn fRepr (eVar 4)))) (sRet (eBin fEq (eVar 5) (eCall fLst (eCons (eVar 2) (eCons (eC (.str "none")) (eCons (eC (.str "none")) (eCons (eC (.str "none")) (eCons (eC (.str "none")) (eCons (eC (.str "none")) (eCons (eVar 2) (eCons (eC (.str "none")) eNil)))))))))))))))))))))))
def d_Word_length : List Val → Store → R Val := funD 2 fun n0 => (sRet (eUn fSum (eLc (itV (eUn (fFld "Word" 0) (eVar 0))) [1, 2] (tgT (tgsCons (tgN 1) (tgsCons (tgN 2) tgsNil))) tYesD (eVar 2))))
def d_Word_counts : List Val → Store → R Val := funD 0 fun n0 => (sEx (eCall d__wall (eCons (eC (.int 0)) eNil)))
def d_Word_letter : List Val → Store → R Val := funD 0 fun n0 => (sSeq (sEx (eCall d_require_within (eCons (eVar 1) (eCons (eC (.int 0)) (eCons (eBin fSub (eUn (fPr "Word" d_Word_length) (eVar 0)) (eC (.int 1))) eNil))))) (sRet (eBin fIx (eBin fIx (eCall d_part_of (eCons (eUn (fFld "Word" 0) (eVar 0)) (eCons (eVar 1) (eCons (eC (.int 1)) eNil)))) (eC (.int 0))) (eC (.int 0)))))
def d_Word___eq__ : List Val → Store → R Val := funD 0 fun n0 => (sRet (eAnd (eUn (fIsiO rel_Word) (eVar 1)) (eBin fEq (eCall fTup (eCons (eUn (fFld "Word" 1) (eVar 0)) (eCons (eUn (fFld "Word" 0) (eVar 0)) eNil))) (eCall fTup (eCons (eUn (fFld "Word" 1) (eVar 1)) (eCons (eUn (fFld "Word" 0) (eVar 1)) eNil))))))
def d_Word___ne__ : List Val → Store → R Val := funD 0 fun n0 => (sRet (eNot (eBin (fCmpM "Word" d_Word___eq__ fEq) (eVar 0) (eVar 1))))
section
variable {P : Program} {w : World} {K : PySem.W.Frag} {mg : Str → Option Value} {base : Heap} {g : Gx}
theorem sc__wall : FnScope ["k"] ["k"] (defScope s__wall) := ⟨rfl, rfl, rfl, by decide +kernel, rfl, by decide +kernel, by decide +kernel⟩
theorem ok__wall (hK : g.K = K) (T : Txt mg) (FA : FunAt K mg "_wall" "_wall" s__wall ["k"])  : Fn P w K mg base g 1 "_wall" ["k"] d__wall false :=
  have nd := (sc__wall).nd
  fn_at (k := 0) (extra := 0) false (fun n0 => (whD (eC (.bl true)) sNil fuel)) FA sc__wall rfl fun f cdv A outer s H E hr w0 => (ss_one (s_while fuel (passes_of rfl) (pt_v p_bl) (ss_one s_pass)))
theorem sc_is_integer : FnScope ["value"] ["value"] (defScope s_is_integer) := ⟨rfl, rfl, rfl, by decide +kernel, rfl, by decide +kernel, by decide +kernel⟩
theorem ok_is_integer (hK : g.K = K) (T : Txt mg) (FA : FunAt K mg "is_integer" "is_integer" s_is_integer ["value"])  : Fn P w K mg base g 1 "is_integer" ["value"] d_is_integer false :=
  have nd := (sc_is_integer).nd
  fn_at (k := 0) (extra := 0) false (fun n0 => (sRet (eAnd (eUn (fIsi .int) (eVar 0)) (eNot (eUn (fIsi .bool) (eVar 0)))))) FA sc_is_integer rfl fun f cdv A outer s H E hr w0 => (ss_one (s_ret rfl (p_and (p_isi .int hK (by rfl) T.n_isinstance (by rfl) T.n_int (by decide +kernel) (p_var (i := 0))) (p_and1 (p_not (p_isi .bool hK (by rfl) T.n_isinstance (by rfl) T.n_bool (by decide +kernel) (p_var (i := 0))))))))
theorem sc_is_within : FnScope ["value", "low", "most"] ["value", "low", "most"] (defScope s_is_within) := ⟨rfl, rfl, rfl, by decide +kernel, rfl, by decide +kernel, by decide +kernel⟩
theorem ok_is_within (hK : g.K = K) (T : Txt mg) (FA : FunAt K mg "is_within" "is_within" s_is_within ["value", "low", "most"]) (F_is_integer : Fn P w K mg base g 1 "is_integer" ["value"] d_is_integer false) : Fn P w K mg base g 2 "is_within" ["value", "low", "most"] d_is_within false :=
  have nd := (sc_is_within).nd
  fn_at (k := 1) (extra := 0) false (fun n0 => (sRet (eAnd (eCall d_is_integer (eCons (eVar 0) eNil)) (eChain fLe fLe (eVar 1) (eVar 0) (eVar 2))))) FA sc_is_within rfl fun f cdv A outer s H E hr w0 => (ss_one (s_ret rfl (p_and (p_call F_is_integer hr (by decide) (by rfl) (takes_of rfl rfl rfl rfl) rfl (eCons_len eNil_len) (a_cons (p_var (i := 0)) a_nil)) (p_and1 (p_chLeLe (p_var (i := 1)) (p_var (i := 0)) (p_var (i := 2)))))))
theorem sc_require_within : FnScope ["value", "low", "most"] ["value", "low", "most"] (defScope s_require_within) := ⟨rfl, rfl, rfl, by decide +kernel, rfl, by decide +kernel, by decide +kernel⟩
theorem ok_require_within (hK : g.K = K) (T : Txt mg) (FA : FunAt K mg "require_within" "require_within" s_require_within ["value", "low", "most"]) {i_InvalidCount k_InvalidCount : Addr} (F_is_within : Fn P w K mg base g 2 "is_within" ["value", "low", "most"] d_is_within false) (XV_InvalidCount : ExCV g P K mg "InvalidCount" k_InvalidCount i_InvalidCount) : Fn P w K mg base g 3 "require_within" ["value", "low", "most"] d_require_within false :=
  have nd := (sc_require_within).nd
  fn_at (k := 2) (extra := 0) false (fun n0 => (sIf (eNot (eCall d_is_within (eCons (eVar 0) (eCons (eVar 1) (eCons (eVar 2) eNil))))) (sRaiV "InvalidCount" (eVar 0)) sNil)) FA sc_require_within rfl fun f cdv A outer s H E hr w0 => (ss_one (s_if (pt_not' (pt_v (p_call F_is_within hr (by decide) (by rfl) (takes_of rfl rfl rfl rfl) rfl (eCons_len (eCons_len (eCons_len eNil_len))) (a_cons (p_var (i := 0)) (a_cons (p_var (i := 1)) (a_cons (p_var (i := 2)) a_nil)))))) (ss_one (s_raiV XV_InvalidCount rfl (takes_of rfl rfl rfl rfl) hr (p_var (i := 0)) (by rfl))) ss_nil))
theorem sc_lean_in : FnScope ["runs", "found", "letter", "many"] ["runs"] (defScope s_lean_in) := ⟨rfl, rfl, rfl, by decide +kernel, rfl, by decide +kernel, by decide +kernel⟩
theorem ok_lean_in (hK : g.K = K) (T : Txt mg) (FA : FunAt K mg "lean_in" "lean_in" s_lean_in ["runs"])  : Fn P w K mg base g 1 "lean_in" ["runs"] d_lean_in false :=
  have nd := (sc_lean_in).nd
  fn_at (k := 0) (extra := 3) false (fun n0 => (sSeq (sNew 1 (eCall fLst eNil)) (sSeq (sFor (itV (eVar 0)) (tgT (tgsCons (tgN 2) (tgsCons (tgN 3) tgsNil))) (sIf (eAnd (eBin fNe (eVar 1) (eCall fLst eNil)) (eBin fEq (eBin fIx (eBin fIx (eVar 1) (eUn fNeg (eC (.int 1)))) (eC (.int 0))) (eVar 2))) (sSet (eVar 1) (eUn fNeg (eC (.int 1))) (eCall fTup (eCons (eVar 2) (eCons (eBin fAdd (eBin fIx (eBin fIx (eVar 1) (eUn fNeg (eC (.int 1)))) (eC (.int 1))) (eVar 3)) eNil)))) (sIf (eBin fGt (eVar 3) (eC (.int 0))) (sEx (eApp (eVar 1) (eCall fTup (eCons (eVar 2) (eCons (eVar 3) eNil))))) sNil))) (sRetC n0 1)))) FA sc_lean_in rfl fun f cdv A outer s H E hr w0 => (ss_cons (s_new (i := 1) nd rfl (by first | exact .inl rfl | exact .inr rfl) (p_lstN a_nil)) (ss_cons (s_for' (passes_of rfl) rfl (i_val hK (p_var (i := 0))) (g_tup hK rfl (gs_cons (g_name (i := 2) nd rfl (by first | exact .inl rfl | exact .inr rfl)) (gs_cons (g_name (i := 3) nd rfl (by first | exact .inl rfl | exact .inr rfl)) gs_nil)) (fun _ _ _ z => tgsCons_len (fun _ _ _ z => tgsCons_len (fun _ _ _ z => tgsNil_len z) z) z)) (ss_one (s_if (PW.pt (pw_and' (t_ne hK hr (p_var (i := 1)) (p_lst a_nil)) (pw_and1' (t_eq hK hr (p_ix hK (p_ix hK (p_var (i := 1)) (p_neg p_int)) p_int) (p_var (i := 2)))))) (ss_one (s_set (p_var (i := 1)) (p_neg p_int) (p_tup (a_cons (p_var (i := 2)) (a_cons (p_add hK (p_ix hK (p_ix hK (p_var (i := 1)) (p_neg p_int)) p_int) (p_var (i := 3))) a_nil))))) (ss_one (s_if (t_gt (p_var (i := 3)) p_int) (ss_one (s_ex (p_app hK (p_var (i := 1)) (p_tup (a_cons (p_var (i := 2)) (a_cons (p_var (i := 3)) a_nil)))))) ss_nil))))) (ss_one (s_retC (i := 1) rfl))))
theorem sc_is_run : FnScope ["width", "value"] ["width", "value"] (defScope s_is_run) := ⟨rfl, rfl, rfl, by decide +kernel, rfl, by decide +kernel, by decide +kernel⟩
theorem ok_is_run (hK : g.K = K) (T : Txt mg) (FA : FunAt K mg "is_run" "is_run" s_is_run ["width", "value"]) (F_is_within : Fn P w K mg base g 2 "is_within" ["value", "low", "most"] d_is_within false) : Fn P w K mg base g 3 "is_run" ["width", "value"] d_is_run false :=
  have nd := (sc_is_run).nd
  fn_at (k := 2) (extra := 0) false (fun n0 => (sSeq (sIf (eOr (eNot (eUn (fIsi .tuple) (eVar 1))) (eBin fNe (eUn fLen (eVar 1)) (eC (.int 2)))) (sRet (eC (.bl false))) sNil) (sRet (eAnd (eCall d_is_within (eCons (eBin fIx (eVar 1) (eC (.int 0))) (eCons (eC (.int 0)) (eCons (eBin fSub (eVar 0) (eC (.int 1))) eNil)))) (eCall d_is_within (eCons (eBin fIx (eVar 1) (eC (.int 1))) (eCons (eC (.int 1)) (eCons (eC (.int 10000000000000000000000000000000000000000000000000000000000000000)) eNil)))))))) FA sc_is_run rfl fun f cdv A outer s H E hr w0 => (ss_cons (s_if (PW.pt (pw_or' (pt_not' (pt_v (p_isi .tuple hK (by rfl) T.n_isinstance (by rfl) T.n_tuple (by decide +kernel) (p_var (i := 1))))) (pw_or1' (t_ne hK hr (p_len hK (by rfl) T.n_len (p_var (i := 1))) p_int)))) (ss_one (s_ret rfl p_bl)) ss_nil) (ss_one (s_ret rfl (p_and (p_call F_is_within hr (by decide) (by rfl) (takes_of rfl rfl rfl rfl) rfl (eCons_len (eCons_len (eCons_len eNil_len))) (a_cons (p_ix hK (p_var (i := 1)) p_int) (a_cons p_int (a_cons (p_sub (p_var (i := 0)) p_int) a_nil)))) (p_and1 (p_call F_is_within hr (by decide) (by rfl) (takes_of rfl rfl rfl rfl) rfl (eCons_len (eCons_len (eCons_len eNil_len))) (a_cons (p_ix hK (p_var (i := 1)) p_int) (a_cons p_int (a_cons (p_globE (by rfl) T.c_MOST_TOTAL) a_nil)))))))))
theorem sc_are_runs : FnScope ["width", "value", "one", "letter", "many"] ["width", "value"] (defScope s_are_runs) := ⟨rfl, rfl, rfl, by decide +kernel, rfl, by decide +kernel, by decide +kernel⟩
theorem ok_are_runs (hK : g.K = K) (T : Txt mg) (FA : FunAt K mg "are_runs" "are_runs" s_are_runs ["width", "value"]) (F_is_run : Fn P w K mg base g 3 "is_run" ["width", "value"] d_is_run false) : Fn P w K mg base g 4 "are_runs" ["width", "value"] d_are_runs false :=
  have nd := (sc_are_runs).nd
  fn_at (k := 3) (extra := 3) false (fun n0 => (sSeq (sIf (eOr (eNot (eUn (fIsi .tuple) (eVar 1))) (eOr (eBin fGt (eUn fLen (eVar 1)) (eC (.int 200))) (eNot (eUn fAll (eLc (itV (eVar 1)) [2] (tgN 2) tYesD (eCall d_is_run (eCons (eVar 0) (eCons (eVar 2) eNil)))))))) (sRet (eC (.bl false))) sNil) (sRet (eBin fLe (eUn fSum (eLc (itV (eVar 1)) [3, 4] (tgT (tgsCons (tgN 3) (tgsCons (tgN 4) tgsNil))) tYesD (eVar 4))) (eC (.int 10000000000000000000000000000000000000000000000000000000000000000)))))) FA sc_are_runs rfl fun f cdv A outer s H E hr w0 => (ss_cons (s_if (PW.pt (pw_or' (pt_not' (pt_v (p_isi .tuple hK (by rfl) T.n_isinstance (by rfl) T.n_tuple (by decide +kernel) (p_var (i := 1))))) (pw_or' (t_gt (p_len hK (by rfl) T.n_len (p_var (i := 1))) (p_globE (by rfl) T.c_MOST_RUNS)) (pw_or1' (pt_not' (pt_v (p_all hK rfl (by rfl) T.n_all (p_lc (own := [("one", 2)]) rfl nd (i_val hK (p_var (i := 1))) (blkOk_by (N := ["width", "value", "one", "letter", "many"]) (sc := defScope s_are_runs) (own := [("one", 2)]) (by decide +kernel)) (fun _ _ _ _ _ => (g_name (i := 2) nd rfl (by first | exact .inl rfl | exact .inr rfl))) (fun _ _ _ _ _ => ts_nil) (fun _ _ _ _ _ => (p_call F_is_run hr (by decide) (by rfl) takes0 rfl (eCons_len (eCons_len eNil_len)) (a_cons (p_var (i := 0)) (a_cons (p_var (i := 2)) a_nil)))) (by decide))))))))) (ss_one (s_ret rfl p_bl)) ss_nil) (ss_one (s_ret rfl (p_le (p_sum hK rfl (by rfl) T.n_sum (p_lc (own := [("letter", 3), ("many", 4)]) rfl nd (i_val hK (p_var (i := 1))) (blkOk_by (N := ["width", "value", "one", "letter", "many"]) (sc := defScope s_are_runs) (own := [("letter", 3), ("many", 4)]) (by decide +kernel)) (fun _ _ _ _ _ => (g_tup hK rfl (gs_cons (g_name (i := 3) nd rfl (by first | exact .inl rfl | exact .inr rfl)) (gs_cons (g_name (i := 4) nd rfl (by first | exact .inl rfl | exact .inr rfl)) gs_nil)) (fun _ _ _ z => tgsCons_len (fun _ _ _ z => tgsCons_len (fun _ _ _ z => tgsNil_len z) z) z))) (fun _ _ _ _ _ => ts_nil) (fun _ _ _ _ _ => (p_var (i := 4))) (by decide))) (p_globE (by rfl) T.c_MOST_TOTAL)))))
theorem sc_part_of : FnScope ["runs", "first", "many", "found", "letter", "times", "low", "high"] ["runs", "first", "many"] (defScope s_part_of) := ⟨rfl, rfl, rfl, by decide +kernel, rfl, by decide +kernel, by decide +kernel⟩
theorem ok_part_of (hK : g.K = K) (T : Txt mg) (FA : FunAt K mg "part_of" "part_of" s_part_of ["runs", "first", "many"])  : Fn P w K mg base g 1 "part_of" ["runs", "first", "many"] d_part_of false :=
  have nd := (sc_part_of).nd
  fn_at (k := 0) (extra := 5) false (fun n0 => (sSeq (sNew 3 (eCall fLst eNil)) (sSeq (sFor (itV (eVar 0)) (tgT (tgsCons (tgN 4) (tgsCons (tgN 5) tgsNil))) (sSeq (sPar 6 7 (eBin fMax2 (eVar 1) (eC (.int 0))) (eBin fMin2 (eBin fAdd (eVar 1) (eVar 2)) (eVar 5))) (sSeq (sIf (eBin fLt (eVar 6) (eVar 7)) (sEx (eApp (eVar 3) (eCall fTup (eCons (eVar 4) (eCons (eBin fSub (eVar 7) (eVar 6)) eNil))))) sNil) (sAsg 1 (eBin fSub (eVar 1) (eVar 5)))))) (sRetC n0 3)))) FA sc_part_of rfl fun f cdv A outer s H E hr w0 => (ss_cons (s_new (i := 3) nd rfl (by first | exact .inl rfl | exact .inr rfl) (p_lstN a_nil)) (ss_cons (s_for' (passes_of rfl) rfl (i_val hK (p_var (i := 0))) (g_tup hK rfl (gs_cons (g_name (i := 4) nd rfl (by first | exact .inl rfl | exact .inr rfl)) (gs_cons (g_name (i := 5) nd rfl (by first | exact .inl rfl | exact .inr rfl)) gs_nil)) (fun _ _ _ z => tgsCons_len (fun _ _ _ z => tgsCons_len (fun _ _ _ z => tgsNil_len z) z) z)) (ss_cons (s_par (i := 6) (j := 7) rfl nd rfl rfl (by decide) rfl rfl (p_max2 rfl (by rfl) T.n_max (p_var (i := 1)) p_int) (p_min2 rfl (by rfl) T.n_min (p_add hK (p_var (i := 1)) (p_var (i := 2))) (p_var (i := 5))) (by rfl)) (ss_cons (s_if (t_lt (p_var (i := 6)) (p_var (i := 7))) (ss_one (s_ex (p_app hK (p_var (i := 3)) (p_tup (a_cons (p_var (i := 4)) (a_cons (p_sub (p_var (i := 7)) (p_var (i := 6))) a_nil)))))) ss_nil) (ss_one (s_asg (i := 1) nd rfl (by first | exact .inl rfl | exact .inr rfl) (p_sub (p_var (i := 1)) (p_var (i := 5)))))))) (ss_one (s_retC (i := 3) rfl))))
theorem sc_require_word : FnScope ["word"] ["word"] (defScope s_require_word) := ⟨rfl, rfl, rfl, by decide +kernel, rfl, by decide +kernel, by decide +kernel⟩
theorem ok_require_word (hK : g.K = K) (T : Txt mg) (FA : FunAt K mg "require_word" "require_word" s_require_word ["word"]) {k_InvalidWord k_Word : Addr} (I_Word : IsiC g k_Word rel_Word) (N_Word : mg "Word" = some (.ref k_Word)) (X0_InvalidWord : ExC0 g K mg "InvalidWord" k_InvalidWord) : Fn P w K mg base g 1 "require_word" ["word"] d_require_word false :=
  have nd := (sc_require_word).nd
  fn_at (k := 0) (extra := 0) false (fun n0 => (sIf (eNot (eUn (fIsiO rel_Word) (eVar 0))) (sRai "InvalidWord") sNil)) FA sc_require_word rfl fun f cdv A outer s H E hr w0 => (ss_one (s_if (pt_not' (pt_v (p_isiO hK I_Word (by rfl) T.n_isinstance (by rfl) N_Word (p_var (i := 0))))) (ss_one (s_rai X0_InvalidWord rfl (takes_of rfl rfl rfl rfl) (by rfl))) ss_nil))
theorem sc_run_pushed : FnScope ["shelf", "letter", "many", "other", "found", "out", "left", "taken"] ["shelf", "letter", "many"] (defScope s_run_pushed) := ⟨rfl, rfl, rfl, by decide +kernel, rfl, by decide +kernel, by decide +kernel⟩
theorem ok_run_pushed (hK : g.K = K) (T : Txt mg) (FA : FunAt K mg "run_pushed" "run_pushed" s_run_pushed ["shelf", "letter", "many"])  : Fn P w K mg base g 1 "run_pushed" ["shelf", "letter", "many"] d_run_pushed false :=
  have nd := (sc_run_pushed).nd
  fn_at (k := 0) (extra := 5) false (fun n0 => (sSeq (sPNNV 4 5 6 (eUn fList (eVar 0)) (eCall fLst eNil) (eVar 2)) (sSeq (sFor (itR2 (eBin fAdd (eVar 1) (eC (.int 1))) (eUn fLen (eVar 4))) (tgN 3) (sSeq (sAsg 7 (eBin fMin2 (eVar 6) (eBin fIx (eVar 4) (eVar 3)))) (sIf (eBin fGt (eVar 7) (eC (.int 0))) (sSeq (sAugS (fun i j => i - j) (eVar 4) (eVar 3) (eVar 7)) (sSeq (sEx (eApp (eVar 5) (eCall fTup (eCons (eVar 3) (eCons (eVar 7) eNil))))) (sAug 6 (fun i j => i - j) (eVar 7)))) sNil))) (sSeq (sFrz n0 5) (sSeq (sAugS (fun i j => i + j) (eVar 4) (eVar 1) (eVar 2)) (sSeq (sFrz n0 4) (sRet (eCall fTup (eCons (eVar 4) (eCons (eVar 5) eNil)))))))))) FA sc_run_pushed rfl fun f cdv A outer s H E hr w0 => (ss_cons (s_parNNV (i := 4) (j := 5) (l := 6) rfl nd rfl rfl rfl (by decide) (by decide) (by decide) rfl rfl rfl (p_listN hK (by rfl) T.n_list (p_var (i := 0))) (p_lstN a_nil) (p_var (i := 2)) (by rfl)) (ss_cons (s_for' (passes_of rfl) rfl (i_range2 (by rfl) T.n_range (p_add hK (p_var (i := 1)) p_int) (p_len hK (by rfl) T.n_len (p_var (i := 4)))) (g_name (i := 3) nd rfl (by first | exact .inl rfl | exact .inr rfl)) (ss_cons (s_asg (i := 7) nd rfl (by first | exact .inl rfl | exact .inr rfl) (p_min2 rfl (by rfl) T.n_min (p_var (i := 6)) (p_ix hK (p_var (i := 4)) (p_var (i := 3))))) (ss_one (s_if (t_gt (p_var (i := 7)) p_int) (ss_cons (s_augS ip_sub (p_var (i := 4)) (p_var (i := 3)) (p_var (i := 7))) (ss_cons (s_ex (p_app hK (p_var (i := 5)) (p_tup (a_cons (p_var (i := 3)) (a_cons (p_var (i := 7)) a_nil))))) (ss_one (s_aug (i := 6) ip_sub nd rfl (by first | exact .inl rfl | exact .inr rfl) (p_var (i := 7)))))) ss_nil)))) (ss_frz rfl (ss_cons (s_augS ip_add (p_var (i := 4)) (p_var (i := 1)) (p_var (i := 2))) (ss_frz rfl (ss_one (s_ret rfl (p_tup (a_cons (p_var (i := 4)) (a_cons (p_var (i := 5)) a_nil))))))))))
theorem sc_run_pulled : FnScope ["shelf", "letter", "many", "other", "found", "out", "left", "taken"] ["shelf", "letter", "many"] (defScope s_run_pulled) := ⟨rfl, rfl, rfl, by decide +kernel, rfl, by decide +kernel, by decide +kernel⟩
theorem ok_run_pulled (hK : g.K = K) (T : Txt mg) (FA : FunAt K mg "run_pulled" "run_pulled" s_run_pulled ["shelf", "letter", "many"])  : Fn P w K mg base g 1 "run_pulled" ["shelf", "letter", "many"] d_run_pulled false :=
  have nd := (sc_run_pulled).nd
  fn_at (k := 0) (extra := 5) false (fun n0 => (sSeq (sPNNV 4 5 6 (eUn fList (eVar 0)) (eCall fLst eNil) (eVar 2)) (sSeq (sFor (itRv1 (eVar 1)) (tgN 3) (sSeq (sAsg 7 (eBin fMin2 (eVar 6) (eBin fIx (eVar 4) (eVar 3)))) (sIf (eBin fGt (eVar 7) (eC (.int 0))) (sSeq (sAugS (fun i j => i - j) (eVar 4) (eVar 3) (eVar 7)) (sSeq (sEx (eApp (eVar 5) (eCall fTup (eCons (eVar 3) (eCons (eVar 7) eNil))))) (sAug 6 (fun i j => i - j) (eVar 7)))) sNil))) (sSeq (sFrz n0 5) (sSeq (sAugS (fun i j => i + j) (eVar 4) (eVar 1) (eVar 2)) (sSeq (sFrz n0 4) (sRet (eCall fTup (eCons (eVar 4) (eCons (eVar 5) eNil)))))))))) FA sc_run_pulled rfl fun f cdv A outer s H E hr w0 => (ss_cons (s_parNNV (i := 4) (j := 5) (l := 6) rfl nd rfl rfl rfl (by decide) (by decide) (by decide) rfl rfl rfl (p_listN hK (by rfl) T.n_list (p_var (i := 0))) (p_lstN a_nil) (p_var (i := 2)) (by rfl)) (ss_cons (s_for' (passes_of rfl) rfl (i_rev1 (by rfl) T.n_reversed (by rfl) T.n_range (p_var (i := 1))) (g_name (i := 3) nd rfl (by first | exact .inl rfl | exact .inr rfl)) (ss_cons (s_asg (i := 7) nd rfl (by first | exact .inl rfl | exact .inr rfl) (p_min2 rfl (by rfl) T.n_min (p_var (i := 6)) (p_ix hK (p_var (i := 4)) (p_var (i := 3))))) (ss_one (s_if (t_gt (p_var (i := 7)) p_int) (ss_cons (s_augS ip_sub (p_var (i := 4)) (p_var (i := 3)) (p_var (i := 7))) (ss_cons (s_ex (p_app hK (p_var (i := 5)) (p_tup (a_cons (p_var (i := 3)) (a_cons (p_var (i := 7)) a_nil))))) (ss_one (s_aug (i := 6) ip_sub nd rfl (by first | exact .inl rfl | exact .inr rfl) (p_var (i := 7)))))) ss_nil)))) (ss_frz rfl (ss_cons (s_augS ip_add (p_var (i := 4)) (p_var (i := 1)) (p_var (i := 2))) (ss_frz rfl (ss_one (s_ret rfl (p_tup (a_cons (p_var (i := 4)) (a_cons (p_var (i := 5)) a_nil))))))))))
theorem sc_led_in : FnScope ["shelf", "runs", "way", "out", "letter", "many", "here"] ["shelf", "runs", "way"] (defScope s_led_in) := ⟨rfl, rfl, rfl, by decide +kernel, rfl, by decide +kernel, by decide +kernel⟩
theorem ok_led_in (hK : g.K = K) (T : Txt mg) (FA : FunAt K mg "led_in" "led_in" s_led_in ["shelf", "runs", "way"]) {v_run_pushed : Addr} (F_lean_in : Fn P w K mg base g 1 "lean_in" ["runs"] d_lean_in false) (F_run_pushed : Fn P w K mg base g 1 "run_pushed" ["shelf", "letter", "many"] d_run_pushed false) (G_run_pushed : g.fn "run_pushed" = some v_run_pushed) (V_run_pushed : mg "run_pushed" = some (.ref v_run_pushed)) : Fn P w K mg base g 2 "led_in" ["shelf", "runs", "way"] d_led_in false :=
  have nd := (sc_led_in).nd
  fn_at (k := 1) (extra := 4) false (fun n0 => (sSeq (sNew 3 (eCall fLst eNil)) (sSeq (sFor (itV (eVar 1)) (tgT (tgsCons (tgN 4) (tgsCons (tgN 5) tgsNil))) (sSeq (sAsgT (tgT (tgsCons (tgN 0) (tgsCons (tgN 6) tgsNil))) (eCallV 2 [("run_pushed", d_run_pushed)] (eCons (eVar 0) (eCons (eVar 4) (eCons (eVar 5) eNil))))) (sEx (eExt (eVar 3) (eVar 6))))) (sSeq (sFrz n0 3) (sRet (eCall fTup (eCons (eVar 0) (eCons (eCall d_lean_in (eCons (eVar 3) eNil)) eNil)))))))) FA sc_led_in rfl fun f cdv A outer s H E hr w0 => (ss_cons (s_new (i := 3) nd rfl (by first | exact .inl rfl | exact .inr rfl) (p_lstN a_nil)) (ss_cons (s_for' (passes_of rfl) rfl (i_val hK (p_var (i := 1))) (g_tup hK rfl (gs_cons (g_name (i := 4) nd rfl (by first | exact .inl rfl | exact .inr rfl)) (gs_cons (g_name (i := 5) nd rfl (by first | exact .inl rfl | exact .inr rfl)) gs_nil)) (fun _ _ _ z => tgsCons_len (fun _ _ _ z => tgsCons_len (fun _ _ _ z => tgsNil_len z) z) z)) (ss_cons (s_asgT (p_callV (i := 2) (k := 1) (n := 3) rfl (by first | exact Or.inl rfl | exact Or.inr (Or.inl rfl) | exact Or.inr (Or.inr rfl)) (.cons F_run_pushed (by decide) rfl V_run_pushed G_run_pushed .nil) hr (by decide) (takes_of rfl rfl rfl rfl) (eCons_len (eCons_len (eCons_len eNil_len))) (a_cons (p_var (i := 0)) (a_cons (p_var (i := 4)) (a_cons (p_var (i := 5)) a_nil)))) (g_tup hK rfl (gs_cons (g_name (i := 0) nd rfl (by first | exact .inl rfl | exact .inr rfl)) (gs_cons (g_name (i := 6) nd rfl (by first | exact .inl rfl | exact .inr rfl)) gs_nil)) (fun _ _ _ z => tgsCons_len (fun _ _ _ z => tgsCons_len (fun _ _ _ z => tgsNil_len z) z) z))) (ss_one (s_ex (p_ext hK (p_var (i := 3)) (p_var (i := 6))))))) (ss_frz rfl (ss_one (s_ret rfl (p_tup (a_cons (p_var (i := 0)) (a_cons (p_call F_lean_in hr (by decide) (by rfl) (takes_of rfl rfl rfl rfl) rfl (eCons_len eNil_len) (a_cons (p_var (i := 3)) a_nil)) a_nil))))))))
theorem sc_fits_in : FnScope ["shelf", "under", "upper", "lower", "above", "below"] ["shelf", "under"] (defScope s_fits_in) := ⟨rfl, rfl, rfl, by decide +kernel, rfl, by decide +kernel, by decide +kernel⟩
theorem ok_fits_in (hK : g.K = K) (T : Txt mg) (FA : FunAt K mg "fits_in" "fits_in" s_fits_in ["shelf", "under"])  : Fn P w K mg base g 1 "fits_in" ["shelf", "under"] d_fits_in false :=
  have nd := (sc_fits_in).nd
  fn_at (k := 0) (extra := 4) false (fun n0 => (sSeq (sPar 2 3 (eC (.int 0)) (eC (.int 0))) (sSeq (sFor (itZ (eVar 0) (eVar 1)) (tgT (tgsCons (tgN 4) (tgsCons (tgN 5) tgsNil))) (sSeq (sAug 3 (fun i j => i + j) (eVar 5)) (sSeq (sIf (eBin fGt (eVar 3) (eVar 2)) (sRet (eC (.bl false))) sNil) (sAug 2 (fun i j => i + j) (eVar 4))))) (sRet (eC (.bl true)))))) FA sc_fits_in rfl fun f cdv A outer s H E hr w0 => (ss_cons (s_parT (i := 2) (j := 3) rfl nd rfl rfl (by first | exact .inl rfl | exact .inr rfl) (by first | exact .inl rfl | exact .inr rfl) p_int p_int) (ss_cons (s_for' (passes_of rfl) rfl (i_zip hK (by rfl) T.n_zip (p_var (i := 0)) (p_var (i := 1))) (g_tup hK rfl (gs_cons (g_name (i := 4) nd rfl (by first | exact .inl rfl | exact .inr rfl)) (gs_cons (g_name (i := 5) nd rfl (by first | exact .inl rfl | exact .inr rfl)) gs_nil)) (fun _ _ _ z => tgsCons_len (fun _ _ _ z => tgsCons_len (fun _ _ _ z => tgsNil_len z) z) z)) (ss_cons (s_aug (i := 3) ip_add nd rfl (by first | exact .inl rfl | exact .inr rfl) (p_var (i := 5))) (ss_cons (s_if (t_gt (p_var (i := 3)) (p_var (i := 2))) (ss_one (s_ret rfl p_bl)) ss_nil) (ss_one (s_aug (i := 2) ip_add nd rfl (by first | exact .inl rfl | exact .inr rfl) (p_var (i := 4))))))) (ss_one (s_ret rfl p_bl))))
theorem sc_is_shelf : FnScope ["value", "one"] ["value"] (defScope s_is_shelf) := ⟨rfl, rfl, rfl, by decide +kernel, rfl, by decide +kernel, by decide +kernel⟩
theorem ok_is_shelf (hK : g.K = K) (T : Txt mg) (FA : FunAt K mg "is_shelf" "is_shelf" s_is_shelf ["value"]) (F_is_within : Fn P w K mg base g 2 "is_within" ["value", "low", "most"] d_is_within false) : Fn P w K mg base g 3 "is_shelf" ["value"] d_is_shelf false :=
  have nd := (sc_is_shelf).nd
  fn_at (k := 2) (extra := 1) false (fun n0 => (sSeq (sIf (eOr (eNot (eUn (fIsi .tuple) (eVar 0))) (eNot (eChain fLe fLe (eC (.int 1)) (eUn fLen (eVar 0)) (eC (.int 8))))) (sRet (eC (.bl false))) sNil) (sRet (eAnd (eUn fAll (eLc (itV (eVar 0)) [1] (tgN 1) tYesD (eCall d_is_within (eCons (eVar 1) (eCons (eC (.int 0)) (eCons (eC (.int 10000000000000000000000000000000000000000000000000000000000000000)) eNil)))))) (eBin fLe (eUn fSum (eVar 0)) (eC (.int 10000000000000000000000000000000000000000000000000000000000000000))))))) FA sc_is_shelf rfl fun f cdv A outer s H E hr w0 => (ss_cons (s_if (PW.pt (pw_or' (pt_not' (pt_v (p_isi .tuple hK (by rfl) T.n_isinstance (by rfl) T.n_tuple (by decide +kernel) (p_var (i := 0))))) (pw_or1' (pt_not' (t_chLeLe p_int (p_len hK (by rfl) T.n_len (p_var (i := 0))) (p_globE (by rfl) T.c_MOST_WIDTH)))))) (ss_one (s_ret rfl p_bl)) ss_nil) (ss_one (s_ret rfl (p_and (p_all hK rfl (by rfl) T.n_all (p_lc (own := [("one", 1)]) rfl nd (i_val hK (p_var (i := 0))) (blkOk_by (N := ["value", "one"]) (sc := defScope s_is_shelf) (own := [("one", 1)]) (by decide +kernel)) (fun _ _ _ _ _ => (g_name (i := 1) nd rfl (by first | exact .inl rfl | exact .inr rfl))) (fun _ _ _ _ _ => ts_nil) (fun _ _ _ _ _ => (p_call F_is_within hr (by decide) (by rfl) takes0 rfl (eCons_len (eCons_len (eCons_len eNil_len))) (a_cons (p_var (i := 1)) (a_cons p_int (a_cons (p_globE (by rfl) T.c_MOST_TOTAL) a_nil))))) (by decide))) (p_and1 (p_le (p_sum hK rfl (by rfl) T.n_sum (p_var (i := 0))) (p_globE (by rfl) T.c_MOST_TOTAL)))))))
theorem sc_require_shelf : FnScope ["shelf"] ["shelf"] (defScope s_require_shelf) := ⟨rfl, rfl, rfl, by decide +kernel, rfl, by decide +kernel, by decide +kernel⟩
theorem ok_require_shelf (hK : g.K = K) (T : Txt mg) (FA : FunAt K mg "require_shelf" "require_shelf" s_require_shelf ["shelf"]) {k_InvalidOperation : Addr} (F_is_shelf : Fn P w K mg base g 3 "is_shelf" ["value"] d_is_shelf false) (X0_InvalidOperation : ExC0 g K mg "InvalidOperation" k_InvalidOperation) : Fn P w K mg base g 4 "require_shelf" ["shelf"] d_require_shelf false :=
  have nd := (sc_require_shelf).nd
  fn_at (k := 3) (extra := 0) false (fun n0 => (sIf (eNot (eCall d_is_shelf (eCons (eVar 0) eNil))) (sRai "InvalidOperation") sNil)) FA sc_require_shelf rfl fun f cdv A outer s H E hr w0 => (ss_one (s_if (pt_not' (pt_v (p_call F_is_shelf hr (by decide) (by rfl) (takes_of rfl rfl rfl rfl) rfl (eCons_len eNil_len) (a_cons (p_var (i := 0)) a_nil)))) (ss_one (s_rai X0_InvalidOperation rfl (takes_of rfl rfl rfl rfl) (by rfl))) ss_nil))
theorem sc_require_letter : FnScope ["shelf", "letter", "many"] ["shelf", "letter", "many"] (defScope s_require_letter) := ⟨rfl, rfl, rfl, by decide +kernel, rfl, by decide +kernel, by decide +kernel⟩
theorem ok_require_letter (hK : g.K = K) (T : Txt mg) (FA : FunAt K mg "require_letter" "require_letter" s_require_letter ["shelf", "letter", "many"]) (F_require_shelf : Fn P w K mg base g 4 "require_shelf" ["shelf"] d_require_shelf false) (F_require_within : Fn P w K mg base g 3 "require_within" ["value", "low", "most"] d_require_within false) : Fn P w K mg base g 5 "require_letter" ["shelf", "letter", "many"] d_require_letter false :=
  have nd := (sc_require_letter).nd
  fn_at (k := 4) (extra := 0) false (fun n0 => (sSeq (sEx (eCall d_require_shelf (eCons (eVar 0) eNil))) (sSeq (sEx (eCall d_require_within (eCons (eVar 1) (eCons (eC (.int 0)) (eCons (eBin fSub (eUn fLen (eVar 0)) (eC (.int 1))) eNil))))) (sEx (eCall d_require_within (eCons (eVar 2) (eCons (eC (.int 0)) (eCons (eC (.int 10000000000000000000000000000000000000000000000000000000000000000)) eNil)))))))) FA sc_require_letter rfl fun f cdv A outer s H E hr w0 => (ss_cons (s_ex (p_call F_require_shelf hr (by decide) (by rfl) (takes_of rfl rfl rfl rfl) rfl (eCons_len eNil_len) (a_cons (p_var (i := 0)) a_nil))) (ss_cons (s_ex (p_call F_require_within hr (by decide) (by rfl) (takes_of rfl rfl rfl rfl) rfl (eCons_len (eCons_len (eCons_len eNil_len))) (a_cons (p_var (i := 1)) (a_cons p_int (a_cons (p_sub (p_len hK (by rfl) T.n_len (p_var (i := 0))) p_int) a_nil))))) (ss_one (s_ex (p_call F_require_within hr (by decide) (by rfl) (takes_of rfl rfl rfl rfl) rfl (eCons_len (eCons_len (eCons_len eNil_len))) (a_cons (p_var (i := 2)) (a_cons p_int (a_cons (p_globE (by rfl) T.c_MOST_TOTAL) a_nil))))))))
theorem sc_require_room : FnScope ["letters", "many"] ["letters", "many"] (defScope s_require_room) := ⟨rfl, rfl, rfl, by decide +kernel, rfl, by decide +kernel, by decide +kernel⟩
theorem ok_require_room (hK : g.K = K) (T : Txt mg) (FA : FunAt K mg "require_room" "require_room" s_require_room ["letters", "many"]) {i_TooMany k_TooMany : Addr} (XV_TooMany : ExCV g P K mg "TooMany" k_TooMany i_TooMany) : Fn P w K mg base g 1 "require_room" ["letters", "many"] d_require_room false :=
  have nd := (sc_require_room).nd
  fn_at (k := 0) (extra := 0) false (fun n0 => (sIf (eBin fGt (eBin fAdd (eVar 0) (eVar 1)) (eC (.int 10000000000000000000000000000000000000000000000000000000000000000))) (sRaiV "TooMany" (eC (.int 10000000000000000000000000000000000000000000000000000000000000000))) sNil)) FA sc_require_room rfl fun f cdv A outer s H E hr w0 => (ss_one (s_if (t_gt (p_add hK (p_var (i := 0)) (p_var (i := 1))) (p_globE (by rfl) T.c_MOST_TOTAL)) (ss_one (s_raiV XV_TooMany rfl (takes_of rfl rfl rfl rfl) hr (p_globE (by rfl) T.c_MOST_TOTAL) (by rfl))) ss_nil))
theorem sc_push_in : FnScope ["shelf", "letter", "many", "found", "out"] ["shelf", "letter", "many"] (defScope s_push_in) := ⟨rfl, rfl, rfl, by decide +kernel, rfl, by decide +kernel, by decide +kernel⟩
theorem ok_push_in (hK : g.K = K) (T : Txt mg) (FA : FunAt K mg "push_in" "push_in" s_push_in ["shelf", "letter", "many"]) (F_require_letter : Fn P w K mg base g 5 "require_letter" ["shelf", "letter", "many"] d_require_letter false) (F_require_room : Fn P w K mg base g 1 "require_room" ["letters", "many"] d_require_room false) (F_run_pushed : Fn P w K mg base g 1 "run_pushed" ["shelf", "letter", "many"] d_run_pushed false) : Fn P w K mg base g 6 "push_in" ["shelf", "letter", "many"] d_push_in false :=
  have nd := (sc_push_in).nd
  fn_at (k := 5) (extra := 2) false (fun n0 => (sSeq (sEx (eCall d_require_letter (eCons (eVar 0) (eCons (eVar 1) (eCons (eVar 2) eNil))))) (sSeq (sAsgT (tgT (tgsCons (tgN 3) (tgsCons (tgN 4) tgsNil))) (eCall d_run_pushed (eCons (eVar 0) (eCons (eVar 1) (eCons (eVar 2) eNil))))) (sSeq (sEx (eCall d_require_room (eCons (eUn fSum (eVar 3)) (eCons (eC (.int 0)) eNil)))) (sRet (eCall fTup (eCons (eUn fTuple (eVar 3)) (eCons (eUn fTuple (eVar 4)) eNil)))))))) FA sc_push_in rfl fun f cdv A outer s H E hr w0 => (ss_cons (s_ex (p_call F_require_letter hr (by decide) (by rfl) (takes_of rfl rfl rfl rfl) rfl (eCons_len (eCons_len (eCons_len eNil_len))) (a_cons (p_var (i := 0)) (a_cons (p_var (i := 1)) (a_cons (p_var (i := 2)) a_nil))))) (ss_cons (s_asgT (p_call F_run_pushed hr (by decide) (by rfl) (takes_of rfl rfl rfl rfl) rfl (eCons_len (eCons_len (eCons_len eNil_len))) (a_cons (p_var (i := 0)) (a_cons (p_var (i := 1)) (a_cons (p_var (i := 2)) a_nil)))) (g_tup hK rfl (gs_cons (g_name (i := 3) nd rfl (by first | exact .inl rfl | exact .inr rfl)) (gs_cons (g_name (i := 4) nd rfl (by first | exact .inl rfl | exact .inr rfl)) gs_nil)) (fun _ _ _ z => tgsCons_len (fun _ _ _ z => tgsCons_len (fun _ _ _ z => tgsNil_len z) z) z))) (ss_cons (s_ex (p_call F_require_room hr (by decide) (by rfl) (takes_of rfl rfl rfl rfl) rfl (eCons_len (eCons_len eNil_len)) (a_cons (p_sum hK rfl (by rfl) T.n_sum (p_var (i := 3))) (a_cons p_int a_nil)))) (ss_one (s_ret rfl (p_tup (a_cons (p_tuple hK (by rfl) T.n_tuple (p_var (i := 3))) (a_cons (p_tuple hK (by rfl) T.n_tuple (p_var (i := 4))) a_nil))))))))
theorem sc_Word_width : FnScope ["self"] ["self"] (defScope s_Word_width) := ⟨rfl, rfl, rfl, by decide +kernel, rfl, by decide +kernel, by decide +kernel⟩
theorem ok_Word_width (hK : g.K = K) (T : Txt mg) {a_Word_width : Addr} (FA : FunM K "width" "Word.width" s_Word_width ["self"] a_Word_width) (S_Word_own_width : SlotC g "Word" "own_width" 1) : FnM P w K mg base g 1 a_Word_width 1 d_Word_width :=
  have nd := (sc_Word_width).nd
  fn_atM (k := 0) (extra := 0) (fun n0 => (sRet (eUn (fFld "Word" 1) (eVar 0)))) FA sc_Word_width rfl rfl fun f cdv A outer s H E hr w0 => (ss_one (s_ret rfl (p_fld hK S_Word_own_width (p_var (i := 0)))))
theorem sc_Word_runs : FnScope ["self"] ["self"] (defScope s_Word_runs) := ⟨rfl, rfl, rfl, by decide +kernel, rfl, by decide +kernel, by decide +kernel⟩
theorem ok_Word_runs (hK : g.K = K) (T : Txt mg) {a_Word_runs : Addr} (FA : FunM K "runs" "Word.runs" s_Word_runs ["self"] a_Word_runs) (S_Word_own_runs : SlotC g "Word" "own_runs" 0) : FnM P w K mg base g 1 a_Word_runs 1 d_Word_runs :=
  have nd := (sc_Word_runs).nd
  fn_atM (k := 0) (extra := 0) (fun n0 => (sRet (eUn (fFld "Word" 0) (eVar 0)))) FA sc_Word_runs rfl rfl fun f cdv A outer s H E hr w0 => (ss_one (s_ret rfl (p_fld hK S_Word_own_runs (p_var (i := 0)))))
theorem sc_push_word : FnScope ["shelf", "word", "found", "out"] ["shelf", "word"] (defScope s_push_word) := ⟨rfl, rfl, rfl, by decide +kernel, rfl, by decide +kernel, by decide +kernel⟩
theorem ok_push_word (hK : g.K = K) (T : Txt mg) (FA : FunAt K mg "push_word" "push_word" s_push_word ["shelf", "word"]) {a_Word_runs a_Word_width k_InvalidOperation v_run_pushed : Addr} (F_led_in : Fn P w K mg base g 2 "led_in" ["shelf", "runs", "way"] d_led_in false) (F_require_room : Fn P w K mg base g 1 "require_room" ["letters", "many"] d_require_room false) (F_require_shelf : Fn P w K mg base g 4 "require_shelf" ["shelf"] d_require_shelf false) (F_require_word : Fn P w K mg base g 1 "require_word" ["word"] d_require_word false) (F_Word_runs : FnM P w K mg base g 1 a_Word_runs 1 d_Word_runs) (F_Word_width : FnM P w K mg base g 1 a_Word_width 1 d_Word_width) (G_run_pushed : g.fn "run_pushed" = some v_run_pushed) (P_Word_runs : PropC g "Word" "runs" a_Word_runs) (P_Word_width : PropC g "Word" "width" a_Word_width) (V_run_pushed : mg "run_pushed" = some (.ref v_run_pushed)) (X0_InvalidOperation : ExC0 g K mg "InvalidOperation" k_InvalidOperation) : Fn P w K mg base g 5 "push_word" ["shelf", "word"] d_push_word false :=
  have nd := (sc_push_word).nd
  fn_at (k := 4) (extra := 2) false (fun n0 => (sSeq (sEx (eCall d_require_shelf (eCons (eVar 0) eNil))) (sSeq (sEx (eCall d_require_word (eCons (eVar 1) eNil))) (sSeq (sIf (eBin fNe (eUn (fPr "Word" d_Word_width) (eVar 1)) (eUn fLen (eVar 0))) (sRai "InvalidOperation") sNil) (sSeq (sAsgT (tgT (tgsCons (tgN 2) (tgsCons (tgN 3) tgsNil))) (eCall d_led_in (eCons (eVar 0) (eCons (eUn (fPr "Word" d_Word_runs) (eVar 1)) (eCons (eC (.fn "run_pushed")) eNil))))) (sSeq (sEx (eCall d_require_room (eCons (eUn fSum (eVar 2)) (eCons (eC (.int 0)) eNil)))) (sRet (eCall fTup (eCons (eUn fTuple (eVar 2)) (eCons (eUn fTuple (eVar 3)) eNil)))))))))) FA sc_push_word rfl fun f cdv A outer s H E hr w0 => (ss_cons (s_ex (p_call F_require_shelf hr (by decide) (by rfl) (takes_of rfl rfl rfl rfl) rfl (eCons_len eNil_len) (a_cons (p_var (i := 0)) a_nil))) (ss_cons (s_ex (p_call F_require_word hr (by decide) (by rfl) (takes_of rfl rfl rfl rfl) rfl (eCons_len eNil_len) (a_cons (p_var (i := 1)) a_nil))) (ss_cons (s_if (t_ne hK hr (p_prop hK P_Word_width F_Word_width hr (by decide) (p_var (i := 1))) (p_len hK (by rfl) T.n_len (p_var (i := 0)))) (ss_one (s_rai X0_InvalidOperation rfl (takes_of rfl rfl rfl rfl) (by rfl))) ss_nil) (ss_cons (s_asgT (p_call F_led_in hr (by decide) (by rfl) (takes_of rfl rfl rfl rfl) rfl (eCons_len (eCons_len (eCons_len eNil_len))) (a_cons (p_var (i := 0)) (a_cons (p_prop hK P_Word_runs F_Word_runs hr (by decide) (p_var (i := 1))) (a_cons (p_fnv (by rfl) V_run_pushed G_run_pushed) a_nil)))) (g_tup hK rfl (gs_cons (g_name (i := 2) nd rfl (by first | exact .inl rfl | exact .inr rfl)) (gs_cons (g_name (i := 3) nd rfl (by first | exact .inl rfl | exact .inr rfl)) gs_nil)) (fun _ _ _ z => tgsCons_len (fun _ _ _ z => tgsCons_len (fun _ _ _ z => tgsNil_len z) z) z))) (ss_cons (s_ex (p_call F_require_room hr (by decide) (by rfl) (takes_of rfl rfl rfl rfl) rfl (eCons_len (eCons_len eNil_len)) (a_cons (p_sum hK rfl (by rfl) T.n_sum (p_var (i := 2))) (a_cons p_int a_nil)))) (ss_one (s_ret rfl (p_tup (a_cons (p_tuple hK (by rfl) T.n_tuple (p_var (i := 2))) (a_cons (p_tuple hK (by rfl) T.n_tuple (p_var (i := 3))) a_nil))))))))))
theorem sc_pull_in : FnScope ["shelf", "letter", "many", "found", "out"] ["shelf", "letter", "many"] (defScope s_pull_in) := ⟨rfl, rfl, rfl, by decide +kernel, rfl, by decide +kernel, by decide +kernel⟩
theorem ok_pull_in (hK : g.K = K) (T : Txt mg) (FA : FunAt K mg "pull_in" "pull_in" s_pull_in ["shelf", "letter", "many"]) {k_InvalidOperation : Addr} (F_require_letter : Fn P w K mg base g 5 "require_letter" ["shelf", "letter", "many"] d_require_letter false) (F_run_pulled : Fn P w K mg base g 1 "run_pulled" ["shelf", "letter", "many"] d_run_pulled false) (X0_InvalidOperation : ExC0 g K mg "InvalidOperation" k_InvalidOperation) : Fn P w K mg base g 6 "pull_in" ["shelf", "letter", "many"] d_pull_in false :=
  have nd := (sc_pull_in).nd
  fn_at (k := 5) (extra := 2) false (fun n0 => (sSeq (sEx (eCall d_require_letter (eCons (eVar 0) (eCons (eVar 1) (eCons (eVar 2) eNil))))) (sSeq (sIf (eBin fLt (eUn fSum (eSl (eVar 0) eoN (eoS (eVar 1)))) (eVar 2)) (sRai "InvalidOperation") sNil) (sSeq (sAsgT (tgT (tgsCons (tgN 3) (tgsCons (tgN 4) tgsNil))) (eCall d_run_pulled (eCons (eVar 0) (eCons (eVar 1) (eCons (eVar 2) eNil))))) (sRet (eCall fTup (eCons (eUn fTuple (eVar 3)) (eCons (eUn fTuple (eVar 4)) eNil)))))))) FA sc_pull_in rfl fun f cdv A outer s H E hr w0 => (ss_cons (s_ex (p_call F_require_letter hr (by decide) (by rfl) (takes_of rfl rfl rfl rfl) rfl (eCons_len (eCons_len (eCons_len eNil_len))) (a_cons (p_var (i := 0)) (a_cons (p_var (i := 1)) (a_cons (p_var (i := 2)) a_nil))))) (ss_cons (s_if (t_lt (p_sum hK rfl (by rfl) T.n_sum (p_sl hK (p_var (i := 0)) po_n (po_s (p_var (i := 1))))) (p_var (i := 2))) (ss_one (s_rai X0_InvalidOperation rfl (takes_of rfl rfl rfl rfl) (by rfl))) ss_nil) (ss_cons (s_asgT (p_call F_run_pulled hr (by decide) (by rfl) (takes_of rfl rfl rfl rfl) rfl (eCons_len (eCons_len (eCons_len eNil_len))) (a_cons (p_var (i := 0)) (a_cons (p_var (i := 1)) (a_cons (p_var (i := 2)) a_nil)))) (g_tup hK rfl (gs_cons (g_name (i := 3) nd rfl (by first | exact .inl rfl | exact .inr rfl)) (gs_cons (g_name (i := 4) nd rfl (by first | exact .inl rfl | exact .inr rfl)) gs_nil)) (fun _ _ _ z => tgsCons_len (fun _ _ _ z => tgsCons_len (fun _ _ _ z => tgsNil_len z) z) z))) (ss_one (s_ret rfl (p_tup (a_cons (p_tuple hK (by rfl) T.n_tuple (p_var (i := 3))) (a_cons (p_tuple hK (by rfl) T.n_tuple (p_var (i := 4))) a_nil))))))))
theorem sc_fits_under : FnScope ["shelf", "under"] ["shelf", "under"] (defScope s_fits_under) := ⟨rfl, rfl, rfl, by decide +kernel, rfl, by decide +kernel, by decide +kernel⟩
theorem ok_fits_under (hK : g.K = K) (T : Txt mg) (FA : FunAt K mg "fits_under" "fits_under" s_fits_under ["shelf", "under"]) {k_InvalidOperation : Addr} (F_fits_in : Fn P w K mg base g 1 "fits_in" ["shelf", "under"] d_fits_in false) (F_require_shelf : Fn P w K mg base g 4 "require_shelf" ["shelf"] d_require_shelf false) (X0_InvalidOperation : ExC0 g K mg "InvalidOperation" k_InvalidOperation) : Fn P w K mg base g 5 "fits_under" ["shelf", "under"] d_fits_under false :=
  have nd := (sc_fits_under).nd
  fn_at (k := 4) (extra := 0) false (fun n0 => (sSeq (sEx (eCall d_require_shelf (eCons (eVar 0) eNil))) (sSeq (sEx (eCall d_require_shelf (eCons (eVar 1) eNil))) (sSeq (sIf (eBin fNe (eUn fLen (eVar 0)) (eUn fLen (eVar 1))) (sRai "InvalidOperation") sNil) (sRet (eCall d_fits_in (eCons (eVar 0) (eCons (eVar 1) eNil)))))))) FA sc_fits_under rfl fun f cdv A outer s H E hr w0 => (ss_cons (s_ex (p_call F_require_shelf hr (by decide) (by rfl) (takes_of rfl rfl rfl rfl) rfl (eCons_len eNil_len) (a_cons (p_var (i := 0)) a_nil))) (ss_cons (s_ex (p_call F_require_shelf hr (by decide) (by rfl) (takes_of rfl rfl rfl rfl) rfl (eCons_len eNil_len) (a_cons (p_var (i := 1)) a_nil))) (ss_cons (s_if (t_ne hK hr (p_len hK (by rfl) T.n_len (p_var (i := 0))) (p_len hK (by rfl) T.n_len (p_var (i := 1)))) (ss_one (s_rai X0_InvalidOperation rfl (takes_of rfl rfl rfl rfl) (by rfl))) ss_nil) (ss_one (s_ret rfl (p_call F_fits_in hr (by decide) (by rfl) (takes_of rfl rfl rfl rfl) rfl (eCons_len (eCons_len eNil_len)) (a_cons (p_var (i := 0)) (a_cons (p_var (i := 1)) a_nil))))))))
theorem sc__law_dice : FnScope ["script", "spot", "cell", "great", "seed"] ["script", "spot"] (defScope s__law_dice) := ⟨rfl, rfl, rfl, by decide +kernel, rfl, by decide +kernel, by decide +kernel⟩
theorem ok__law_dice (hK : g.K = K) (T : Txt mg) (FA : FunAt K mg "_law_dice" "_law_dice" s__law_dice ["script", "spot"])  : Fn P w K mg base g 1 "_law_dice" ["script", "spot"] d__law_dice false :=
  have nd := (sc__law_dice).nd
  fn_at (k := 0) (extra := 3) false (fun n0 => (sSeq (sAsg 2 (eIf (eBin fLt (eVar 1) (eUn fLen (eVar 0))) (eUn fInt (eBin fIx (eVar 0) (eVar 1))) (eBin fAdd (eBin fMul (eC (.int 233)) (eVar 1)) (eC (.int 113))))) (sSeq (sAsg 3 (eBin fMod (eUn fInt (eUn fAbs (eVar 2))) (eBin fPow (eBin fPow (eC (.int 10)) (eC (.int 54))) (eC (.int 6))))) (sSeq (sAsg 4 (eBin fAdd (eBin fAdd (eBin fAdd (eBin fMul (eBin fMod (eVar 3) (eC (.int 2305843009213693921))) (eC (.int 97))) (eBin fMul (eC (.int 733)) (eVar 1))) (eBin fMul (eC (.int 67)) (eUn fInt (eBin fLt (eVar 2) (eC (.int 0)))))) (eC (.int 53)))) (sRet (eCall fLst (eCons (eBin fMax2 (eC (.int 0)) (eBin fSub (eVar 3) (eBin fPow (eC (.int 10)) (eC (.int 16))))) (eCons (eVar 4) (eCons (eC (.int 0)) eNil))))))))) FA sc__law_dice rfl fun f cdv A outer s H E hr w0 => (ss_cons (s_asg (i := 2) nd rfl (by first | exact .inl rfl | exact .inr rfl) (p_if (t_lt (p_var (i := 1)) (p_len hK (by rfl) T.n_len (p_var (i := 0)))) (p_int' (by rfl) T.n_int (p_ix hK (p_var (i := 0)) (p_var (i := 1)))) (p_add hK (p_mul hK p_int (p_var (i := 1))) p_int))) (ss_cons (s_asg (i := 3) nd rfl (by first | exact .inl rfl | exact .inr rfl) (p_mod (p_int' (by rfl) T.n_int (p_abs (by rfl) T.n_abs (p_var (i := 2)))) (p_pow (p_pow p_int p_int) p_int))) (ss_cons (s_asg (i := 4) nd rfl (by first | exact .inl rfl | exact .inr rfl) (p_add hK (p_add hK (p_add hK (p_mul hK (p_mod (p_var (i := 3)) p_int) p_int) (p_mul hK p_int (p_var (i := 1)))) (p_mul hK p_int (p_int' (by rfl) T.n_int (p_lt (p_var (i := 2)) p_int)))) p_int)) (ss_one (s_ret rfl (p_lst (a_cons (p_max2 rfl (by rfl) T.n_max p_int (p_sub (p_var (i := 3)) (p_pow p_int p_int))) (a_cons (p_var (i := 4)) (a_cons p_int a_nil)))))))))
theorem ok__law_dice_N (hK : g.K = K) (T : Txt mg) (FA : FunAt K mg "_law_dice" "_law_dice" s__law_dice ["script", "spot"])  : Fn P w K mg base g 1 "_law_dice" ["script", "spot"] d__law_dice true :=
  have nd := (sc__law_dice).nd
  fn_at (k := 0) (extra := 3) true (fun n0 => (sSeq (sAsg 2 (eIf (eBin fLt (eVar 1) (eUn fLen (eVar 0))) (eUn fInt (eBin fIx (eVar 0) (eVar 1))) (eBin fAdd (eBin fMul (eC (.int 233)) (eVar 1)) (eC (.int 113))))) (sSeq (sAsg 3 (eBin fMod (eUn fInt (eUn fAbs (eVar 2))) (eBin fPow (eBin fPow (eC (.int 10)) (eC (.int 54))) (eC (.int 6))))) (sSeq (sAsg 4 (eBin fAdd (eBin fAdd (eBin fAdd (eBin fMul (eBin fMod (eVar 3) (eC (.int 2305843009213693921))) (eC (.int 97))) (eBin fMul (eC (.int 733)) (eVar 1))) (eBin fMul (eC (.int 67)) (eUn fInt (eBin fLt (eVar 2) (eC (.int 0)))))) (eC (.int 53)))) (sRet (eCall fLst (eCons (eBin fMax2 (eC (.int 0)) (eBin fSub (eVar 3) (eBin fPow (eC (.int 10)) (eC (.int 16))))) (eCons (eVar 4) (eCons (eC (.int 0)) eNil))))))))) FA sc__law_dice rfl fun f cdv A outer s H E hr w0 => (ss_cons (s_asg (i := 2) nd rfl (by first | exact .inl rfl | exact .inr rfl) (p_if (t_lt (p_var (i := 1)) (p_len hK (by rfl) T.n_len (p_var (i := 0)))) (p_int' (by rfl) T.n_int (p_ix hK (p_var (i := 0)) (p_var (i := 1)))) (p_add hK (p_mul hK p_int (p_var (i := 1))) p_int))) (ss_cons (s_asg (i := 3) nd rfl (by first | exact .inl rfl | exact .inr rfl) (p_mod (p_int' (by rfl) T.n_int (p_abs (by rfl) T.n_abs (p_var (i := 2)))) (p_pow (p_pow p_int p_int) p_int))) (ss_cons (s_asg (i := 4) nd rfl (by first | exact .inl rfl | exact .inr rfl) (p_add hK (p_add hK (p_add hK (p_mul hK (p_mod (p_var (i := 3)) p_int) p_int) (p_mul hK p_int (p_var (i := 1)))) (p_mul hK p_int (p_int' (by rfl) T.n_int (p_lt (p_var (i := 2)) p_int)))) p_int)) (ss_one (s_retNew rfl (p_lstN (a_cons (p_max2 rfl (by rfl) T.n_max p_int (p_sub (p_var (i := 3)) (p_pow p_int p_int))) (a_cons (p_var (i := 4)) (a_cons p_int a_nil)))))))))
theorem sc__law_roll : FnScope ["dice", "total", "one", "two", "found"] ["dice", "total"] (defScope s__law_roll) := ⟨rfl, rfl, rfl, by decide +kernel, rfl, by decide +kernel, by decide +kernel⟩
theorem ok__law_roll (hK : g.K = K) (T : Txt mg) (FA : FunAt K mg "_law_roll" "_law_roll" s__law_roll ["dice", "total"])  : Fn P w K mg base g 1 "_law_roll" ["dice", "total"] d__law_roll false :=
  have nd := (sc__law_roll).nd
  fn_at (k := 0) (extra := 3) false (fun n0 => (sSeq (sIf (eBin fGt (eBin fIx (eVar 0) (eC (.int 0))) (eC (.int 0))) (sSeq (sAsg 4 (eBin fMod (eBin fIx (eVar 0) (eC (.int 0))) (eVar 1))) (sSeq (sSet (eVar 0) (eC (.int 0)) (eBin fDiv (eBin fIx (eVar 0) (eC (.int 0))) (eVar 1))) (sRet (eUn fInt (eVar 4))))) sNil) (sSeq (sSet (eVar 0) (eC (.int 2)) (eBin fAdd (eBin fIx (eVar 0) (eC (.int 2))) (eC (.int 1)))) (sSeq (sAsg 2 (eBin fMod (eBin fAdd (eBin fIx (eVar 0) (eC (.int 1))) (eBin fMul (eC (.int 86028121)) (eBin fIx (eVar 0) (eC (.int 2))))) (eC (.int 2305843009213693951)))) (sSeq (sAsg 3 (eBin fAdd (eBin fMul (eBin fMod (eBin fAdd (eBin fMul (eVar 2) (eVar 2)) (eBin fMul (eC (.int 191)) (eBin fIx (eVar 0) (eC (.int 2))))) (eC (.int 2305843009213693907))) (eC (.int 15485867))) (eVar 2))) (sRet (eBin fMod (eUn fInt (eBin fDiv (eVar 3) (eC (.int 65537)))) (eVar 1)))))))) FA sc__law_roll rfl fun f cdv A outer s H E hr w0 => (ss_cons (s_if (t_gt (p_ix hK (p_var (i := 0)) p_int) p_int) (ss_cons (s_asg (i := 4) nd rfl (by first | exact .inl rfl | exact .inr rfl) (p_mod (p_ix hK (p_var (i := 0)) p_int) (p_var (i := 1)))) (ss_cons (s_set (p_var (i := 0)) p_int (p_div (p_ix hK (p_var (i := 0)) p_int) (p_var (i := 1)))) (ss_one (s_ret rfl (p_int' (by rfl) T.n_int (p_var (i := 4))))))) ss_nil) (ss_cons (s_set (p_var (i := 0)) p_int (p_add hK (p_ix hK (p_var (i := 0)) p_int) p_int)) (ss_cons (s_asg (i := 2) nd rfl (by first | exact .inl rfl | exact .inr rfl) (p_mod (p_add hK (p_ix hK (p_var (i := 0)) p_int) (p_mul hK p_int (p_ix hK (p_var (i := 0)) p_int))) p_int)) (ss_cons (s_asg (i := 3) nd rfl (by first | exact .inl rfl | exact .inr rfl) (p_add hK (p_mul hK (p_mod (p_add hK (p_mul hK (p_var (i := 2)) (p_var (i := 2))) (p_mul hK p_int (p_ix hK (p_var (i := 0)) p_int))) p_int) p_int) (p_var (i := 2)))) (ss_one (s_ret rfl (p_mod (p_int' (by rfl) T.n_int (p_div (p_var (i := 3)) p_int)) (p_var (i := 1)))))))))
theorem sc__law_pick : FnScope ["dice", "items"] ["dice", "items"] (defScope s__law_pick) := ⟨rfl, rfl, rfl, by decide +kernel, rfl, by decide +kernel, by decide +kernel⟩
theorem ok__law_pick (hK : g.K = K) (T : Txt mg) (FA : FunAt K mg "_law_pick" "_law_pick" s__law_pick ["dice", "items"]) (F__law_roll : Fn P w K mg base g 1 "_law_roll" ["dice", "total"] d__law_roll false) : Fn P w K mg base g 2 "_law_pick" ["dice", "items"] d__law_pick false :=
  have nd := (sc__law_pick).nd
  fn_at (k := 1) (extra := 0) false (fun n0 => (sRet (eBin fIx (eVar 1) (eCall d__law_roll (eCons (eVar 0) (eCons (eUn fLen (eVar 1)) eNil)))))) FA sc__law_pick rfl fun f cdv A outer s H E hr w0 => (ss_one (s_ret rfl (p_ix hK (p_var (i := 1)) (p_call F__law_roll hr (by decide) (by rfl) (takes_of rfl rfl rfl rfl) rfl (eCons_len (eCons_len eNil_len)) (a_cons (p_var (i := 0)) (a_cons (p_len hK (by rfl) T.n_len (p_var (i := 1))) a_nil))))))
theorem sc__law_one : FnScope ["dice", "right", "wrong"] ["dice", "right", "wrong"] (defScope s__law_one) := ⟨rfl, rfl, rfl, by decide +kernel, rfl, by decide +kernel, by decide +kernel⟩
theorem ok__law_one (hK : g.K = K) (T : Txt mg) (FA : FunAt K mg "_law_one" "_law_one" s__law_one ["dice", "right", "wrong"]) (F__law_pick : Fn P w K mg base g 2 "_law_pick" ["dice", "items"] d__law_pick false) (F__law_roll : Fn P w K mg base g 1 "_law_roll" ["dice", "total"] d__law_roll false) : Fn P w K mg base g 3 "_law_one" ["dice", "right", "wrong"] d__law_one false :=
  have nd := (sc__law_one).nd
  fn_at (k := 2) (extra := 0) false (fun n0 => (sSeq (sIf (eBin fGt (eCall d__law_roll (eCons (eVar 0) (eCons (eC (.int 3)) eNil))) (eC (.int 0))) (sRet (eCall fTup (eCons (eVar 1) (eCons (eC (.bl false)) eNil)))) sNil) (sRet (eCall fTup (eCons (eCall d__law_pick (eCons (eVar 0) (eCons (eVar 2) eNil))) (eCons (eC (.bl true)) eNil)))))) FA sc__law_one rfl fun f cdv A outer s H E hr w0 => (ss_cons (s_if (t_gt (p_call F__law_roll hr (by decide) (by rfl) (takes_of rfl rfl rfl rfl) rfl (eCons_len (eCons_len eNil_len)) (a_cons (p_var (i := 0)) (a_cons p_int a_nil))) p_int) (ss_one (s_ret rfl (p_tup (a_cons (p_var (i := 1)) (a_cons p_bl a_nil))))) ss_nil) (ss_one (s_ret rfl (p_tup (a_cons (p_call F__law_pick hr (by decide) (by rfl) (takes_of rfl rfl rfl rfl) rfl (eCons_len (eCons_len eNil_len)) (a_cons (p_var (i := 0)) (a_cons (p_var (i := 2)) a_nil))) (a_cons p_bl a_nil))))))
theorem sc__law_first : FnScope ["rows", "some", "word", "is_wrong"] ["rows"] (defScope s__law_first) := ⟨rfl, rfl, rfl, by decide +kernel, rfl, by decide +kernel, by decide +kernel⟩
theorem ok__law_first (hK : g.K = K) (T : Txt mg) (FA : FunAt K mg "_law_first" "_law_first" s__law_first ["rows"])  : Fn P w K mg base g 1 "_law_first" ["rows"] d__law_first false :=
  have nd := (sc__law_first).nd
  fn_at (k := 0) (extra := 3) false (fun n0 => (sSeq (sAsg 1 (eLc (itV (eVar 0)) [2, 3] (tgT (tgsCons (tgN 2) (tgsCons (tgN 3) tgsNil))) (eTest (eVar 3)) (eVar 2))) (sRet (eIf (eBin fNe (eVar 1) (eCall fLst eNil)) (eBin fIx (eVar 1) (eC (.int 0))) (eC (.str "none")))))) FA sc__law_first rfl fun f cdv A outer s H E hr w0 => (ss_cons (s_asgLc (i := 1) (own := [("word", 2), ("is_wrong", 3)]) rfl nd rfl rfl (sw_true rfl rfl rfl (by decide +kernel)) (i_val hK (p_var (i := 0))) (blkOk_by (N := ["rows", "some", "word", "is_wrong"]) (sc := defScope s__law_first) (own := [("word", 2), ("is_wrong", 3)]) (by decide +kernel)) (fun _ _ _ _ _ => (g_tup hK rfl (gs_cons (g_name (i := 2) nd rfl (by first | exact .inl rfl | exact .inr rfl)) (gs_cons (g_name (i := 3) nd rfl (by first | exact .inl rfl | exact .inr rfl)) gs_nil)) (fun _ _ _ z => tgsCons_len (fun _ _ _ z => tgsCons_len (fun _ _ _ z => tgsNil_len z) z) z))) (fun _ _ _ _ _ => (ts_one (pt_v (p_var (i := 3))))) (fun _ _ _ _ _ => (p_var (i := 2))) (by decide)) (ss_one (s_ret rfl (p_if (t_ne hK hr (p_var (i := 1)) (p_lst a_nil)) (p_ix hK (p_var (i := 1)) p_int) p_str))))
theorem sc_Word___init__ : FnScope ["self", "width", "runs"] ["self", "width", "runs"] (defScope s_Word___init__) := ⟨rfl, rfl, rfl, by decide +kernel, rfl, by decide +kernel, by decide +kernel⟩
theorem ok_Word___init__ (hK : g.K = K) (T : Txt mg) {a_Word___init__ : Addr} (FA : FunM K "__init__" "Word.__init__" s_Word___init__ ["self", "width", "runs"] a_Word___init__) {k_InvalidWord : Addr} (F_are_runs : Fn P w K mg base g 4 "are_runs" ["width", "value"] d_are_runs false) (F_is_within : Fn P w K mg base g 2 "is_within" ["value", "low", "most"] d_is_within false) (F_lean_in : Fn P w K mg base g 1 "lean_in" ["runs"] d_lean_in false) (S_Word_own_runs : SlotC g "Word" "own_runs" 0) (S_Word_own_width : SlotC g "Word" "own_width" 1) (X0_InvalidWord : ExC0 g K mg "InvalidWord" k_InvalidWord) : FnM P w K mg base g 5 a_Word___init__ 3 d_Word___init__ :=
  have nd := (sc_Word___init__).nd
  fn_atM (k := 4) (extra := 0) (fun n0 => (sSeq (sIf (eOr (eNot (eCall d_is_within (eCons (eVar 1) (eCons (eC (.int 1)) (eCons (eC (.int 8)) eNil))))) (eNot (eCall d_are_runs (eCons (eVar 1) (eCons (eVar 2) eNil))))) (sRai "InvalidWord") sNil) (sPut2 0 "Word" 1 0 (eVar 1) (eUn fTuple (eCall d_lean_in (eCons (eVar 2) eNil)))))) FA sc_Word___init__ rfl rfl fun f cdv A outer s H E hr w0 => (ss_cons (s_if (PW.pt (pw_or' (pt_not' (pt_v (p_call F_is_within hr (by decide) (by rfl) (takes_of rfl rfl rfl rfl) rfl (eCons_len (eCons_len (eCons_len eNil_len))) (a_cons (p_var (i := 1)) (a_cons p_int (a_cons (p_globE (by rfl) T.c_MOST_WIDTH) a_nil)))))) (pw_or1' (pt_not' (pt_v (p_call F_are_runs hr (by decide) (by rfl) (takes_of rfl rfl rfl rfl) rfl (eCons_len (eCons_len eNil_len)) (a_cons (p_var (i := 1)) (a_cons (p_var (i := 2)) a_nil)))))))) (ss_one (s_rai X0_InvalidWord rfl (takes_of rfl rfl rfl rfl) (by rfl))) ss_nil) (ss_one (s_put2 (j := 0) hK rfl S_Word_own_width S_Word_own_runs (p_var (i := 0)) (p_var (i := 0)) (p_var (i := 1)) (p_tuple hK (by rfl) T.n_tuple (p_call F_lean_in hr (by decide) (by rfl) (takes_of rfl rfl rfl rfl) rfl (eCons_len eNil_len) (a_cons (p_var (i := 2)) a_nil))))))
theorem sc__law_right : FnScope ["dice", "odd", "most", "width", "rows", "shelf", "no_shelf", "letter", "no_letter", "many", "no_many", "word", "no_word", "other", "is_other", "under", "no_under", "long", "is_long"] ["dice"] (defScope s__law_right) := ⟨rfl, rfl, rfl, by decide +kernel, rfl, by decide +kernel, by decide +kernel⟩
theorem ok__law_right {c__law_right : Addr} (hK : g.K = K) (T : Txt mg) (FA : FunAtC K mg "_law_right" "_law_right" s__law_right ["dice"] c__law_right) {P__law_right a_Word___init__ k_Word : Addr} (F__law_first : Fn P w K mg base g 1 "_law_first" ["rows"] d__law_first false) (F__law_one : Fn P w K mg base g 3 "_law_one" ["dice", "right", "wrong"] d__law_one false) (F__law_pick : Fn P w K mg base g 2 "_law_pick" ["dice", "items"] d__law_pick false) (F__law_roll : Fn P w K mg base g 1 "_law_roll" ["dice", "total"] d__law_roll false) (F_fits_under : Fn P w K mg base g 5 "fits_under" ["shelf", "under"] d_fits_under false) (F_pull_in : Fn P w K mg base g 6 "pull_in" ["shelf", "letter", "many"] d_pull_in false) (F_push_in : Fn P w K mg base g 6 "push_in" ["shelf", "letter", "many"] d_push_in false) (F_push_word : Fn P w K mg base g 5 "push_word" ["shelf", "word"] d_push_word false) (C_Word : g.cl "Word" = some k_Word) (F_Word___init__ : FnM P w K mg base g 5 a_Word___init__ 3 d_Word___init__) (MK_Word : Mk K k_Word a_Word___init__) (N_Word : mg "Word" = some (.ref k_Word)) (TB__law_right : LamX.TabB base mg c__law_right P__law_right) (TE : TellK K mg g "_law_met" "call" metT "none") (TT__law_right : (P__law_right, lamN "_law_right") ∈ g.T) (TU__law_right : ∀ p ∈ g.T, p.1 = P__law_right → p.2 = lamN "_law_right") : Fn P w K mg base g 11 "_law_right" ["dice"] d__law_right false :=
  have nd := (sc__law_right).nd
  fn_atC (k := 10) (extra := 18) false (fun n0 => (sSeq (sAsg 1 (eCall fLst (eCons (eC .non) (eCons (eC (.int 5)) (eCons (eCall fLst eNil) (eCons (eCall fTup eNil) (eCons (eCall fLst (eCons (eC (.int 1)) (eCons (eC (.int 2)) eNil))) (eCons (eBin fMul (eCall fTup (eCons (eC (.int 1)) eNil)) (eC (.int 9))) (eCons (eCall fTup (eCons (eUn fNeg (eC (.int 1))) (eCons (eC (.int 2)) eNil))) (eCons (eCall fTup (eCons (eC (.bl true)) (eCons (eC (.int 1)) eNil))) (eCons (eCall fTup (eCons (eC (.str "1")) (eCons (eC (.int 1)) eNil))) (eCons (eCall fTup (eCons (eBin fPow (eC (.int 10)) (eC (.int 64))) (eCons (eC (.int 1)) eNil))) (eCons (eCall fTup (eCons (eCall fTup (eCons (eC (.int 1)) eNil)) eNil)) (eCons (eC (.str "12")) eNil)))))))))))))) (sSeq (sAsg 2 (eBin fPow (eC (.int 10)) (eC (.int 64)))) (sSeq (sAsgT (tgT (tgsCons (tgN 5) (tgsCons (tgN 6) tgsNil))) (eCall d__law_one (eCons (eVar 0) (eCons (eCall d__law_pick (eCons (eVar 0) (eCons (eCall fLst (eCons (eCall fTup (eCons (eC (.int 2)) (eCons (eC (.int 0)) (eCons (eC (.int 1)) eNil)))) (eCons (eCall fTup (eCons (eC (.int 0)) (eCons (eC (.int 0)) (eCons (eC (.int 0)) eNil)))) (eCons (eCall fTup (eCons (eC (.int 1)) (eCons (eC (.int 3)) (eCons (eC (.int 0)) eNil)))) eNil)))) eNil))) (eCons (eVar 1) eNil))))) (sSeq (sAsg 3 (eC (.int 3))) (sSeq (sAsgT (tgT (tgsCons (tgN 7) (tgsCons (tgN 8) tgsNil))) (eCall d__law_one (eCons (eVar 0) (eCons (eCall d__law_roll (eCons (eVar 0) (eCons (eVar 3) eNil))) (eCons (eCall fLst (eCons (eUn fNeg (eC (.int 1))) (eCons (eC (.int 3)) (eCons (eC .non) (eCons (eC (.bl true)) (eCons (eC (.str "0")) (eCons (eVar 2) eNil))))))) eNil))))) (sSeq (sAsgT (tgT (tgsCons (tgN 9) (tgsCons (tgN 10) tgsNil))) (eCall d__law_one (eCons (eVar 0) (eCons (eCall d__law_pick (eCons (eVar 0) (eCons (eCall fLst (eCons (eC (.int 0)) (eCons (eC (.int 1)) (eCons (eC (.int 2)) (eCons (eC (.int 3)) (eCons (eC (.int 4)) eNil)))))) eNil))) (eCons (eCall fLst (eCons (eUn fNeg (eC (.int 1))) (eCons (eC .non) (eCons (eC (.bl false)) (eCons (eC (.str "1")) (eCons (eBin fAdd (eVar 2) (eC (.int 1))) eNil)))))) eNil))))) (sSeq (sNew 4 (eCall fLst (eCons (eCall fTup (eCons (eC (.str "operation")) (eCons (eVar 6) eNil))) (eCons (eCall fTup (eCons (eBin fAdd (eC (.str "count ")) (eUn fRepr (eVar 7))) (eCons (eVar 8) eNil))) (eCons (eCall fTup (eCons (eBin fAdd (eC (.str "count ")) (eUn fRepr (eVar 9))) (eCons (eVar 10) eNil))) eNil))))) (sSeq (sIf (eBin fNe (eMet metT "none" (eCall d_push_in (eCons (eVar 5) (eCons (eVar 7) (eCons (eVar 9) eNil))))) (eLend 4 (eCall d__law_first (eCons (eVar 4) eNil)))) (sRet (eC (.bl false))) sNil) (sSeq (sIf (eBin fEq (eLend 4 (eCall d__law_first (eCons (eVar 4) eNil))) (eC (.str "none"))) (sEx (eApp (eVar 4) (eCall fTup (eCons (eC (.str "operation")) (eCons (eBin fLt (eUn fSum (eSl (eVar 5) eoN (eoS (eVar 7)))) (eVar 9)) eNil))))) sNil) (sSeq (sIf (eBin fNe (eMet metT "none" (eCall d_pull_in (eCons (eVar 5) (eCons (eVar 7) (eCons (eVar 9) eNil))))) (eLend 4 (eCall d__law_first (eCons (eVar 4) eNil)))) (sRet (eC (.bl false))) sNil) (sSeq (sAsgT (tgT (tgsCons (tgN 11) (tgsCons (tgN 12) tgsNil))) (eCall d__law_one (eCons (eVar 0) (eCons (eCall (mkO "Word" d_Word___init__) (eCons (eC (.int 3)) (eCons (eCall fTup (eCons (eCall fTup (eCons (eC (.int 1)) (eCons (eC (.int 2)) eNil))) (eCons (eCall fTup (eCons (eC (.int 0)) (eCons (eC (.int 1)) eNil))) eNil))) eNil))) (eCons (eCall fLst (eCons (eC .non) (eCons (eCall fTup eNil) (eCons (eCall fTup (eCons (eCall fTup (eCons (eC (.int 0)) (eCons (eC (.int 1)) eNil))) eNil)) (eCons (eC (.str "word")) (eCons (eC (.int 5)) eNil)))))) eNil))))) (sSeq (sAsgT (tgT (tgsCons (tgN 13) (tgsCons (tgN 14) tgsNil))) (eCall d__law_one (eCons (eVar 0) (eCons (eVar 11) (eCons (eCall fLst (eCons (eCall (mkO "Word" d_Word___init__) (eCons (eC (.int 2)) (eCons (eCall fTup (eCons (eCall fTup (eCons (eC (.int 1)) (eCons (eC (.int 1)) eNil))) eNil)) eNil))) (eCons (eCall (mkO "Word" d_Word___init__) (eCons (eC (.int 4)) (eCons (eCall fTup eNil) eNil))) eNil))) eNil))))) (sSeq (sIf (eVar 12) (sPar 13 14 (eVar 11) (eC (.bl false))) sNil) (sSeq (sNew 4 (eCall fLst (eCons (eCall fTup (eCons (eC (.str "operation")) (eCons (eVar 6) eNil))) (eCons (eCall fTup (eCons (eC (.str "word")) (eCons (eVar 12) eNil))) (eCons (eCall fTup (eCons (eC (.str "operation")) (eCons (eVar 14) eNil))) eNil))))) (sSeq (sIf (eBin fNe (eMet metT "none" (eCall d_push_word (eCons (eVar 5) (eCons (eVar 13) eNil)))) (eLend 4 (eCall d__law_first (eCons (eVar 4) eNil)))) (sRet (eC (.bl false))) sNil) (sSeq (sAsgT (tgT (tgsCons (tgN 15) (tgsCons (tgN 16) tgsNil))) (eCall d__law_one (eCons (eVar 0) (eCons (eCall d__law_pick (eCons (eVar 0) (eCons (eCall fLst (eCons (eCall fTup (eCons (eC (.int 0)) (eCons (eC (.int 1)) (eCons (eC (.int 0)) eNil)))) (eCons (eCall fTup (eCons (eC (.int 0)) (eCons (eC (.int 0)) (eCons (eC (.int 0)) eNil)))) eNil))) eNil))) (eCons (eVar 1) eNil))))) (sSeq (sAsgT (tgT (tgsCons (tgN 17) (tgsCons (tgN 18) tgsNil))) (eCall d__law_one (eCons (eVar 0) (eCons (eVar 15) (eCons (eCall fLst (eCons (eCall fTup (eCons (eC (.int 0)) (eCons (eC (.int 1)) eNil))) (eCons (eCall fTup (eCons (eC (.int 0)) (eCons (eC (.int 0)) (eCons (eC (.int 0)) (eCons (eC (.int 1)) eNil))))) eNil))) eNil))))) (sSeq (sIf (eVar 16) (sPar 17 18 (eVar 15) (eC (.bl false))) sNil) (sSeq (sNew 4 (eCall fLst (eCons (eCall fTup (eCons (eC (.str "operation")) (eCons (eVar 6) eNil))) (eCons (eCall fTup (eCons (eC (.str "operation")) (eCons (eOr (eVar 16) (eVar 18)) eNil))) eNil)))) (sSeq (sFrz n0 4) (sRet (eBin fEq (eMet metT "none" (eCall d_fits_under (eCons (eVar 5) (eCons (eVar 17) eNil)))) (eLend 4 (eCall d__law_first (eCons (eVar 4) eNil)))))))))))))))))))))))))) FA sc__law_right  rfl fun f A outer s H E hr w0 => (ss_cons (s_asg (i := 1) nd rfl (by first | exact .inl rfl | exact .inr rfl) (p_lst (a_cons p_non (a_cons p_int (a_cons (p_lst a_nil) (a_cons (p_tup a_nil) (a_cons (p_lst (a_cons p_int (a_cons p_int a_nil))) (a_cons (p_mul hK (p_tup (a_cons p_int a_nil)) p_int) (a_cons (p_tup (a_cons (p_neg p_int) (a_cons p_int a_nil))) (a_cons (p_tup (a_cons p_bl (a_cons p_int a_nil))) (a_cons (p_tup (a_cons p_str (a_cons p_int a_nil))) (a_cons (p_tup (a_cons (p_pow p_int p_int) (a_cons p_int a_nil))) (a_cons (p_tup (a_cons (p_tup (a_cons p_int a_nil)) a_nil)) (a_cons p_str a_nil)))))))))))))) (ss_cons (s_asg (i := 2) nd rfl (by first | exact .inl rfl | exact .inr rfl) (p_pow p_int p_int)) (ss_cons (s_asgT (p_call F__law_one hr (by decide) (by rfl) (takes_of rfl rfl rfl rfl) rfl (eCons_len (eCons_len (eCons_len eNil_len))) (a_cons (p_var (i := 0)) (a_cons (p_call F__law_pick hr (by decide) (by rfl) (takes_of rfl rfl rfl rfl) rfl (eCons_len (eCons_len eNil_len)) (a_cons (p_var (i := 0)) (a_cons (p_lst (a_cons (p_tup (a_cons p_int (a_cons p_int (a_cons p_int a_nil)))) (a_cons (p_tup (a_cons p_int (a_cons p_int (a_cons p_int a_nil)))) (a_cons (p_tup (a_cons p_int (a_cons p_int (a_cons p_int a_nil)))) a_nil)))) a_nil))) (a_cons (p_var (i := 1)) a_nil)))) (g_tup hK rfl (gs_cons (g_name (i := 5) nd rfl (by first | exact .inl rfl | exact .inr rfl)) (gs_cons (g_name (i := 6) nd rfl (by first | exact .inl rfl | exact .inr rfl)) gs_nil)) (fun _ _ _ z => tgsCons_len (fun _ _ _ z => tgsCons_len (fun _ _ _ z => tgsNil_len z) z) z))) (ss_cons (s_asg (i := 3) nd rfl (by first | exact .inl rfl | exact .inr rfl) p_int) (ss_cons (s_asgT (p_call F__law_one hr (by decide) (by rfl) (takes_of rfl rfl rfl rfl) rfl (eCons_len (eCons_len (eCons_len eNil_len))) (a_cons (p_var (i := 0)) (a_cons (p_call F__law_roll hr (by decide) (by rfl) (takes_of rfl rfl rfl rfl) rfl (eCons_len (eCons_len eNil_len)) (a_cons (p_var (i := 0)) (a_cons (p_var (i := 3)) a_nil))) (a_cons (p_lst (a_cons (p_neg p_int) (a_cons p_int (a_cons p_non (a_cons p_bl (a_cons p_str (a_cons (p_var (i := 2)) a_nil))))))) a_nil)))) (g_tup hK rfl (gs_cons (g_name (i := 7) nd rfl (by first | exact .inl rfl | exact .inr rfl)) (gs_cons (g_name (i := 8) nd rfl (by first | exact .inl rfl | exact .inr rfl)) gs_nil)) (fun _ _ _ z => tgsCons_len (fun _ _ _ z => tgsCons_len (fun _ _ _ z => tgsNil_len z) z) z))) (ss_cons (s_asgT (p_call F__law_one hr (by decide) (by rfl) (takes_of rfl rfl rfl rfl) rfl (eCons_len (eCons_len (eCons_len eNil_len))) (a_cons (p_var (i := 0)) (a_cons (p_call F__law_pick hr (by decide) (by rfl) (takes_of rfl rfl rfl rfl) rfl (eCons_len (eCons_len eNil_len)) (a_cons (p_var (i := 0)) (a_cons (p_lst (a_cons p_int (a_cons p_int (a_cons p_int (a_cons p_int (a_cons p_int a_nil)))))) a_nil))) (a_cons (p_lst (a_cons (p_neg p_int) (a_cons p_non (a_cons p_bl (a_cons p_str (a_cons (p_add hK (p_var (i := 2)) p_int) a_nil)))))) a_nil)))) (g_tup hK rfl (gs_cons (g_name (i := 9) nd rfl (by first | exact .inl rfl | exact .inr rfl)) (gs_cons (g_name (i := 10) nd rfl (by first | exact .inl rfl | exact .inr rfl)) gs_nil)) (fun _ _ _ z => tgsCons_len (fun _ _ _ z => tgsCons_len (fun _ _ _ z => tgsNil_len z) z) z))) (ss_cons (s_new (i := 4) nd rfl (by first | exact .inl rfl | exact .inr rfl) (p_lstN (a_cons (p_tup (a_cons p_str (a_cons (p_var (i := 6)) a_nil))) (a_cons (p_tup (a_cons (p_add hK p_str (p_repr (by rfl) T.n_repr (p_var (i := 7)))) (a_cons (p_var (i := 8)) a_nil))) (a_cons (p_tup (a_cons (p_add hK p_str (p_repr (by rfl) T.n_repr (p_var (i := 9)))) (a_cons (p_var (i := 10)) a_nil))) a_nil))))) (ss_cons (s_if (t_ne hK hr (by exact p_tell (k := 8) hK TE TB__law_right rfl TT__law_right TU__law_right hr (by decide) (LamX.lamS_by (by first | rfl | exact (by decide +kernel : LamX.lamSB (defScope s__law_right) _ = true))) rfl (fun _ _ _ _ _ => rfl) (by rfl) (fun A outer s H E f c' hr => (p_call F_push_in hr (by decide) (by rfl) (takes_of rfl rfl rfl rfl) rfl (eCons_len (eCons_len (eCons_len eNil_len))) (a_cons (p_var (i := 5)) (a_cons (p_var (i := 7)) (a_cons (p_var (i := 9)) a_nil)))))) (p_lend (i := 4) (p_call F__law_first hr (by decide) (by rfl) (takes_of rfl rfl rfl rfl) rfl (eCons_len eNil_len) (a_cons (p_var (i := 4)) a_nil)))) (ss_one (s_ret rfl p_bl)) ss_nil) (ss_cons (s_if (t_eq hK hr (p_lend (i := 4) (p_call F__law_first hr (by decide) (by rfl) (takes_of rfl rfl rfl rfl) rfl (eCons_len eNil_len) (a_cons (p_var (i := 4)) a_nil))) p_str) (ss_one (s_ex (p_app hK (p_var (i := 4)) (p_tup (a_cons p_str (a_cons (p_lt (p_sum hK rfl (by rfl) T.n_sum (p_sl hK (p_var (i := 5)) po_n (po_s (p_var (i := 7))))) (p_var (i := 9))) a_nil)))))) ss_nil) (ss_cons (s_if (t_ne hK hr (by exact p_tell (k := 8) hK TE TB__law_right rfl TT__law_right TU__law_right hr (by decide) (LamX.lamS_by (by first | rfl | exact (by decide +kernel : LamX.lamSB (defScope s__law_right) _ = true))) rfl (fun _ _ _ _ _ => rfl) (by rfl) (fun A outer s H E f c' hr => (p_call F_pull_in hr (by decide) (by rfl) (takes_of rfl rfl rfl rfl) rfl (eCons_len (eCons_len (eCons_len eNil_len))) (a_cons (p_var (i := 5)) (a_cons (p_var (i := 7)) (a_cons (p_var (i := 9)) a_nil)))))) (p_lend (i := 4) (p_call F__law_first hr (by decide) (by rfl) (takes_of rfl rfl rfl rfl) rfl (eCons_len eNil_len) (a_cons (p_var (i := 4)) a_nil)))) (ss_one (s_ret rfl p_bl)) ss_nil) (ss_cons (s_asgT (p_call F__law_one hr (by decide) (by rfl) (takes_of rfl rfl rfl rfl) rfl (eCons_len (eCons_len (eCons_len eNil_len))) (a_cons (p_var (i := 0)) (a_cons (p_make (n := 2) MK_Word C_Word N_Word F_Word___init__ hr (by decide) (by rfl) (takes_of rfl rfl rfl rfl) (eCons_len (eCons_len eNil_len)) (a_cons p_int (a_cons (p_tup (a_cons (p_tup (a_cons p_int (a_cons p_int a_nil))) (a_cons (p_tup (a_cons p_int (a_cons p_int a_nil))) a_nil))) a_nil))) (a_cons (p_lst (a_cons p_non (a_cons (p_tup a_nil) (a_cons (p_tup (a_cons (p_tup (a_cons p_int (a_cons p_int a_nil))) a_nil)) (a_cons p_str (a_cons p_int a_nil)))))) a_nil)))) (g_tup hK rfl (gs_cons (g_name (i := 11) nd rfl (by first | exact .inl rfl | exact .inr rfl)) (gs_cons (g_name (i := 12) nd rfl (by first | exact .inl rfl | exact .inr rfl)) gs_nil)) (fun _ _ _ z => tgsCons_len (fun _ _ _ z => tgsCons_len (fun _ _ _ z => tgsNil_len z) z) z))) (ss_cons (s_asgT (p_call F__law_one hr (by decide) (by rfl) (takes_of rfl rfl rfl rfl) rfl (eCons_len (eCons_len (eCons_len eNil_len))) (a_cons (p_var (i := 0)) (a_cons (p_var (i := 11)) (a_cons (p_lst (a_cons (p_make (n := 2) MK_Word C_Word N_Word F_Word___init__ hr (by decide) (by rfl) (takes_of rfl rfl rfl rfl) (eCons_len (eCons_len eNil_len)) (a_cons p_int (a_cons (p_tup (a_cons (p_tup (a_cons p_int (a_cons p_int a_nil))) a_nil)) a_nil))) (a_cons (p_make (n := 2) MK_Word C_Word N_Word F_Word___init__ hr (by decide) (by rfl) (takes_of rfl rfl rfl rfl) (eCons_len (eCons_len eNil_len)) (a_cons p_int (a_cons (p_tup a_nil) a_nil))) a_nil))) a_nil)))) (g_tup hK rfl (gs_cons (g_name (i := 13) nd rfl (by first | exact .inl rfl | exact .inr rfl)) (gs_cons (g_name (i := 14) nd rfl (by first | exact .inl rfl | exact .inr rfl)) gs_nil)) (fun _ _ _ z => tgsCons_len (fun _ _ _ z => tgsCons_len (fun _ _ _ z => tgsNil_len z) z) z))) (ss_cons (s_if (pt_v (p_var (i := 12))) (ss_one (s_parT (i := 13) (j := 14) rfl nd rfl rfl (by first | exact .inl rfl | exact .inr rfl) (by first | exact .inl rfl | exact .inr rfl) (p_var (i := 11)) p_bl)) ss_nil) (ss_cons (s_new (i := 4) nd rfl (by first | exact .inl rfl | exact .inr rfl) (p_lstN (a_cons (p_tup (a_cons p_str (a_cons (p_var (i := 6)) a_nil))) (a_cons (p_tup (a_cons p_str (a_cons (p_var (i := 12)) a_nil))) (a_cons (p_tup (a_cons p_str (a_cons (p_var (i := 14)) a_nil))) a_nil))))) (ss_cons (s_if (t_ne hK hr (by exact p_tell (k := 8) hK TE TB__law_right rfl TT__law_right TU__law_right hr (by decide) (LamX.lamS_by (by first | rfl | exact (by decide +kernel : LamX.lamSB (defScope s__law_right) _ = true))) rfl (fun _ _ _ _ _ => rfl) (by rfl) (fun A outer s H E f c' hr => (p_call F_push_word hr (by decide) (by rfl) (takes_of rfl rfl rfl rfl) rfl (eCons_len (eCons_len eNil_len)) (a_cons (p_var (i := 5)) (a_cons (p_var (i := 13)) a_nil))))) (p_lend (i := 4) (p_call F__law_first hr (by decide) (by rfl) (takes_of rfl rfl rfl rfl) rfl (eCons_len eNil_len) (a_cons (p_var (i := 4)) a_nil)))) (ss_one (s_ret rfl p_bl)) ss_nil) (ss_cons (s_asgT (p_call F__law_one hr (by decide) (by rfl) (takes_of rfl rfl rfl rfl) rfl (eCons_len (eCons_len (eCons_len eNil_len))) (a_cons (p_var (i := 0)) (a_cons (p_call F__law_pick hr (by decide) (by rfl) (takes_of rfl rfl rfl rfl) rfl (eCons_len (eCons_len eNil_len)) (a_cons (p_var (i := 0)) (a_cons (p_lst (a_cons (p_tup (a_cons p_int (a_cons p_int (a_cons p_int a_nil)))) (a_cons (p_tup (a_cons p_int (a_cons p_int (a_cons p_int a_nil)))) a_nil))) a_nil))) (a_cons (p_var (i := 1)) a_nil)))) (g_tup hK rfl (gs_cons (g_name (i := 15) nd rfl (by first | exact .inl rfl | exact .inr rfl)) (gs_cons (g_name (i := 16) nd rfl (by first | exact .inl rfl | exact .inr rfl)) gs_nil)) (fun _ _ _ z => tgsCons_len (fun _ _ _ z => tgsCons_len (fun _ _ _ z => tgsNil_len z) z) z))) (ss_cons (s_asgT (p_call F__law_one hr (by decide) (by rfl) (takes_of rfl rfl rfl rfl) rfl (eCons_len (eCons_len (eCons_len eNil_len))) (a_cons (p_var (i := 0)) (a_cons (p_var (i := 15)) (a_cons (p_lst (a_cons (p_tup (a_cons p_int (a_cons p_int a_nil))) (a_cons (p_tup (a_cons p_int (a_cons p_int (a_cons p_int (a_cons p_int a_nil))))) a_nil))) a_nil)))) (g_tup hK rfl (gs_cons (g_name (i := 17) nd rfl (by first | exact .inl rfl | exact .inr rfl)) (gs_cons (g_name (i := 18) nd rfl (by first | exact .inl rfl | exact .inr rfl)) gs_nil)) (fun _ _ _ z => tgsCons_len (fun _ _ _ z => tgsCons_len (fun _ _ _ z => tgsNil_len z) z) z))) (ss_cons (s_if (pt_v (p_var (i := 16))) (ss_one (s_parT (i := 17) (j := 18) rfl nd rfl rfl (by first | exact .inl rfl | exact .inr rfl) (by first | exact .inl rfl | exact .inr rfl) (p_var (i := 15)) p_bl)) ss_nil) (ss_cons (s_new (i := 4) nd rfl (by first | exact .inl rfl | exact .inr rfl) (p_lstN (a_cons (p_tup (a_cons p_str (a_cons (p_var (i := 6)) a_nil))) (a_cons (p_tup (a_cons p_str (a_cons (p_or (p_var (i := 16)) (p_and1 (p_var (i := 18)))) a_nil))) a_nil)))) (ss_frz rfl (ss_one (s_ret rfl (p_eq hK hr (by exact p_tell (k := 8) hK TE TB__law_right rfl TT__law_right TU__law_right hr (by decide) (LamX.lamS_by (by first | rfl | exact (by decide +kernel : LamX.lamSB (defScope s__law_right) _ = true))) rfl (fun _ _ _ _ _ => rfl) (by rfl) (fun A outer s H E f c' hr => (p_call F_fits_under hr (by decide) (by rfl) (takes_of rfl rfl rfl rfl) rfl (eCons_len (eCons_len eNil_len)) (a_cons (p_var (i := 5)) (a_cons (p_var (i := 17)) a_nil))))) (p_lend (i := 4) (p_call F__law_first hr (by decide) (by rfl) (takes_of rfl rfl rfl rfl) rfl (eCons_len eNil_len) (a_cons (p_var (i := 4)) a_nil))))))))))))))))))))))))))
theorem sc_law : FnScope ["script", "spot", "far", "dice", "most", "told"] ["script"] (defScope s_law) := ⟨rfl, rfl, rfl, by decide +kernel, rfl, by decide +kernel, by decide +kernel⟩
theorem ok_law {c_law : Addr} (hK : g.K = K) (T : Txt mg) {fa : Addr} {fda : FuncData} (FA : FunC K "law" "law" s_law fa fda c_law) (hm : mg "law" = some (.ref fa)) (hb : Binds K fda ["script"] []) {P_law a_Word___init__ k_Word : Addr} (F__law_dice_N : Fn P w K mg base g 1 "_law_dice" ["script", "spot"] d__law_dice true) (F__law_right : Fn P w K mg base g 11 "_law_right" ["dice"] d__law_right false) (F_pull_in : Fn P w K mg base g 6 "pull_in" ["shelf", "letter", "many"] d_pull_in false) (F_push_in : Fn P w K mg base g 6 "push_in" ["shelf", "letter", "many"] d_push_in false) (F_push_word : Fn P w K mg base g 5 "push_word" ["shelf", "word"] d_push_word false) (C_Word : g.cl "Word" = some k_Word) (F_Word___init__ : FnM P w K mg base g 5 a_Word___init__ 3 d_Word___init__) (MK_Word : Mk K k_Word a_Word___init__) (N_Word : mg "Word" = some (.ref k_Word)) (TB_law : LamX.TabB base mg c_law P_law) (TE : TellK K mg g "_law_met" "call" metT "none") (TT_law : (P_law, lamN "law") ∈ g.T) (TU_law : ∀ p ∈ g.T, p.1 = P_law → p.2 = lamN "law") : FnX P w K mg base g 16 "law" ["script"] d_law false fa fda :=
  have nd := (sc_law).nd
  fn_mkC (k := 15) (extra := 5) false (fun n0 => (sSeq (sFor (itR1 (eBin fMax2 (eC (.int 1)) (eBin fMin2 (eC (.int 6)) (eUn fLen (eVar 0))))) (tgN 1) (sSeq (sNew 3 (eCall d__law_dice (eCons (eVar 0) (eCons (eVar 1) eNil)))) (sSeq (sIf (eOr (eNot (eCall d__law_right (eCons (eVar 3) eNil))) (eNot (eCall d__law_right (eCons (eVar 3) eNil)))) (sRet (eC (.bl false))) sNil) (sSeq (sFrz n0 3) sNil)))) (sSeq (sPVN 4 5 (eBin fPow (eC (.int 10)) (eC (.int 64))) (eCall fLst eNil)) (sSeq (sEx (eApp (eVar 5) (eMet metT "none" (eCall d_push_in (eCons (eCall fTup (eCons (eVar 4) (eCons (eC (.int 0)) eNil))) (eCons (eC (.int 1)) (eCons (eC (.int 1)) eNil))))))) (sSeq (sEx (eApp (eVar 5) (eMet metT "none" (eCall d_push_in (eCons (eCall fTup (eCons (eBin fSub (eVar 4) (eC (.int 1))) (eCons (eC (.int 0)) eNil))) (eCons (eC (.int 1)) (eCons (eC (.int 1)) eNil))))))) (sSeq (sEx (eApp (eVar 5) (eMet metT "none" (eCall d_push_in (eCons (eCall fTup (eCons (eC (.int 0)) (eCons (eVar 4) eNil))) (eCons (eC (.int 0)) (eCons (eC (.int 5)) eNil))))))) (sSeq (sEx (eApp (eVar 5) (eMet metT "none" (eCall d_push_in (eCons (eCall fTup (eCons (eC (.int 0)) (eCons (eBin fSub (eVar 4) (eC (.int 3))) eNil))) (eCons (eC (.int 0)) (eCons (eVar 4) eNil))))))) (sSeq (sEx (eApp (eVar 5) (eMet metT "none" (eCall d_push_word (eCons (eCall fTup (eCons (eC (.int 0)) (eCons (eVar 4) eNil))) (eCons (eCall (mkO "Word" d_Word___init__) (eCons (eC (.int 2)) (eCons (eCall fTup (eCons (eCall fTup (eCons (eC (.int 0)) (eCons (eC (.int 4)) eNil))) eNil)) eNil))) eNil)))))) (sSeq (sEx (eApp (eVar 5) (eMet metT "none" (eCall d_push_word (eCons (eCall fTup (eCons (eBin fSub (eVar 4) (eC (.int 4))) (eCons (eC (.int 0)) eNil))) (eCons (eCall (mkO "Word" d_Word___init__) (eCons (eC (.int 2)) (eCons (eCall fTup (eCons (eCall fTup (eCons (eC (.int 1)) (eCons (eC (.int 4)) eNil))) (eCons (eCall fTup (eCons (eC (.int 0)) (eCons (eC (.int 4)) eNil))) eNil))) eNil))) eNil)))))) (sSeq (sEx (eApp (eVar 5) (eMet metT "none" (eCall d_push_word (eCons (eCall fTup (eCons (eBin fSub (eVar 4) (eC (.int 4))) (eCons (eC (.int 0)) eNil))) (eCons (eCall (mkO "Word" d_Word___init__) (eCons (eC (.int 2)) (eCons (eCall fTup (eCons (eCall fTup (eCons (eC (.int 1)) (eCons (eC (.int 5)) eNil))) (eCons (eCall fTup (eCons (eC (.int 0)) (eCons (eC (.int 4)) eNil))) eNil))) eNil))) eNil)))))) (sSeq (sEx (eApp (eVar 5) (eMet metT "none" (eCall d_pull_in (eCons (eCall fTup (eCons (eVar 4) (eCons (eC (.int 0)) eNil))) (eCons (eC (.int 1)) (eCons (eVar 4) eNil))))))) (sSeq (sFrz n0 5) (sSeq (sAsg 2 (eBin fAdd (eC (.str "many ")) (eUn fRepr (eVar 4)))) (sRet (eBin fEq (eVar 5) (eCall fLst (eCons (eVar 2) (eCons (eC (.str "none")) (eCons (eC (.str "none")) (eCons (eC (.str "none")) (eCons (eC (.str "none")) (eCons (eC (.str "none")) (eCons (eVar 2) (eCons (eC (.str "none")) eNil)))))))))))))))))))))))) FA sc_law hm hb rfl fun A outer s H E hr w0 => (ss_cons (s_for' (passes_of rfl) rfl (i_range1 (by rfl) T.n_range (p_max2 rfl (by rfl) T.n_max p_int (p_min2 rfl (by rfl) T.n_min p_int (p_len hK (by rfl) T.n_len (p_var (i := 0)))))) (g_name (i := 1) nd rfl (by first | exact .inl rfl | exact .inr rfl)) (ss_cons (s_new (i := 3) nd rfl (by first | exact .inl rfl | exact .inr rfl) (p_callNew F__law_dice_N hr (by decide) (by rfl) (takes_of rfl rfl rfl rfl) rfl (eCons_len (eCons_len eNil_len)) (a_cons (p_var (i := 0)) (a_cons (p_var (i := 1)) a_nil)))) (ss_cons (s_if (PW.pt (pw_or' (pt_not' (pt_v (p_call F__law_right hr (by decide) (by rfl) (takes_of rfl rfl rfl rfl) rfl (eCons_len eNil_len) (a_cons (p_var (i := 3)) a_nil)))) (pw_or1' (pt_not' (pt_v (p_call F__law_right hr (by decide) (by rfl) (takes_of rfl rfl rfl rfl) rfl (eCons_len eNil_len) (a_cons (p_var (i := 3)) a_nil))))))) (ss_one (s_ret rfl p_bl)) ss_nil) (ss_frz rfl ss_nil)))) (ss_cons (s_parVT (i := 4) (j := 5) rfl nd rfl rfl (by decide) (by first | exact .inl rfl | exact .inr rfl) (by first | exact .inl rfl | exact .inr rfl) (p_pow p_int p_int) (p_lstN a_nil) (hw := by rfl)) (ss_cons (s_ex (p_app hK (p_var (i := 5)) (by exact p_tell (k := 13) hK TE TB_law rfl TT_law TU_law hr (by decide) (LamX.lamS_by (by first | rfl | exact (by decide +kernel : LamX.lamSB (defScope s_law) _ = true))) rfl (fun _ _ _ _ _ => rfl) (by rfl) (fun A outer s H E f c' hr => (p_call F_push_in hr (by decide) (by rfl) (takes_of rfl rfl rfl rfl) rfl (eCons_len (eCons_len (eCons_len eNil_len))) (a_cons (p_tup (a_cons (p_var (i := 4)) (a_cons p_int a_nil))) (a_cons p_int (a_cons p_int a_nil)))))))) (ss_cons (s_ex (p_app hK (p_var (i := 5)) (by exact p_tell (k := 13) hK TE TB_law rfl TT_law TU_law hr (by decide) (LamX.lamS_by (by first | rfl | exact (by decide +kernel : LamX.lamSB (defScope s_law) _ = true))) rfl (fun _ _ _ _ _ => rfl) (by rfl) (fun A outer s H E f c' hr => (p_call F_push_in hr (by decide) (by rfl) (takes_of rfl rfl rfl rfl) rfl (eCons_len (eCons_len (eCons_len eNil_len))) (a_cons (p_tup (a_cons (p_sub (p_var (i := 4)) p_int) (a_cons p_int a_nil))) (a_cons p_int (a_cons p_int a_nil)))))))) (ss_cons (s_ex (p_app hK (p_var (i := 5)) (by exact p_tell (k := 13) hK TE TB_law rfl TT_law TU_law hr (by decide) (LamX.lamS_by (by first | rfl | exact (by decide +kernel : LamX.lamSB (defScope s_law) _ = true))) rfl (fun _ _ _ _ _ => rfl) (by rfl) (fun A outer s H E f c' hr => (p_call F_push_in hr (by decide) (by rfl) (takes_of rfl rfl rfl rfl) rfl (eCons_len (eCons_len (eCons_len eNil_len))) (a_cons (p_tup (a_cons p_int (a_cons (p_var (i := 4)) a_nil))) (a_cons p_int (a_cons p_int a_nil)))))))) (ss_cons (s_ex (p_app hK (p_var (i := 5)) (by exact p_tell (k := 13) hK TE TB_law rfl TT_law TU_law hr (by decide) (LamX.lamS_by (by first | rfl | exact (by decide +kernel : LamX.lamSB (defScope s_law) _ = true))) rfl (fun _ _ _ _ _ => rfl) (by rfl) (fun A outer s H E f c' hr => (p_call F_push_in hr (by decide) (by rfl) (takes_of rfl rfl rfl rfl) rfl (eCons_len (eCons_len (eCons_len eNil_len))) (a_cons (p_tup (a_cons p_int (a_cons (p_sub (p_var (i := 4)) p_int) a_nil))) (a_cons p_int (a_cons (p_var (i := 4)) a_nil)))))))) (ss_cons (s_ex (p_app hK (p_var (i := 5)) (by exact p_tell (k := 13) hK TE TB_law rfl TT_law TU_law hr (by decide) (LamX.lamS_by (by first | rfl | exact (by decide +kernel : LamX.lamSB (defScope s_law) _ = true))) rfl (fun _ _ _ _ _ => rfl) (by rfl) (fun A outer s H E f c' hr => (p_call F_push_word hr (by decide) (by rfl) (takes_of rfl rfl rfl rfl) rfl (eCons_len (eCons_len eNil_len)) (a_cons (p_tup (a_cons p_int (a_cons (p_var (i := 4)) a_nil))) (a_cons (p_make (n := 2) MK_Word C_Word N_Word F_Word___init__ hr (by decide) (by rfl) (takes_of rfl rfl rfl rfl) (eCons_len (eCons_len eNil_len)) (a_cons p_int (a_cons (p_tup (a_cons (p_tup (a_cons p_int (a_cons p_int a_nil))) a_nil)) a_nil))) a_nil))))))) (ss_cons (s_ex (p_app hK (p_var (i := 5)) (by exact p_tell (k := 13) hK TE TB_law rfl TT_law TU_law hr (by decide) (LamX.lamS_by (by first | rfl | exact (by decide +kernel : LamX.lamSB (defScope s_law) _ = true))) rfl (fun _ _ _ _ _ => rfl) (by rfl) (fun A outer s H E f c' hr => (p_call F_push_word hr (by decide) (by rfl) (takes_of rfl rfl rfl rfl) rfl (eCons_len (eCons_len eNil_len)) (a_cons (p_tup (a_cons (p_sub (p_var (i := 4)) p_int) (a_cons p_int a_nil))) (a_cons (p_make (n := 2) MK_Word C_Word N_Word F_Word___init__ hr (by decide) (by rfl) (takes_of rfl rfl rfl rfl) (eCons_len (eCons_len eNil_len)) (a_cons p_int (a_cons (p_tup (a_cons (p_tup (a_cons p_int (a_cons p_int a_nil))) (a_cons (p_tup (a_cons p_int (a_cons p_int a_nil))) a_nil))) a_nil))) a_nil))))))) (ss_cons (s_ex (p_app hK (p_var (i := 5)) (by exact p_tell (k := 13) hK TE TB_law rfl TT_law TU_law hr (by decide) (LamX.lamS_by (by first | rfl | exact (by decide +kernel : LamX.lamSB (defScope s_law) _ = true))) rfl (fun _ _ _ _ _ => rfl) (by rfl) (fun A outer s H E f c' hr => (p_call F_push_word hr (by decide) (by rfl) (takes_of rfl rfl rfl rfl) rfl (eCons_len (eCons_len eNil_len)) (a_cons (p_tup (a_cons (p_sub (p_var (i := 4)) p_int) (a_cons p_int a_nil))) (a_cons (p_make (n := 2) MK_Word C_Word N_Word F_Word___init__ hr (by decide) (by rfl) (takes_of rfl rfl rfl rfl) (eCons_len (eCons_len eNil_len)) (a_cons p_int (a_cons (p_tup (a_cons (p_tup (a_cons p_int (a_cons p_int a_nil))) (a_cons (p_tup (a_cons p_int (a_cons p_int a_nil))) a_nil))) a_nil))) a_nil))))))) (ss_cons (s_ex (p_app hK (p_var (i := 5)) (by exact p_tell (k := 13) hK TE TB_law rfl TT_law TU_law hr (by decide) (LamX.lamS_by (by first | rfl | exact (by decide +kernel : LamX.lamSB (defScope s_law) _ = true))) rfl (fun _ _ _ _ _ => rfl) (by rfl) (fun A outer s H E f c' hr => (p_call F_pull_in hr (by decide) (by rfl) (takes_of rfl rfl rfl rfl) rfl (eCons_len (eCons_len (eCons_len eNil_len))) (a_cons (p_tup (a_cons (p_var (i := 4)) (a_cons p_int a_nil))) (a_cons p_int (a_cons (p_var (i := 4)) a_nil)))))))) (ss_frz rfl (ss_cons (s_asg (i := 2) nd rfl (by first | exact .inl rfl | exact .inr rfl) (p_add hK p_str (p_repr (by rfl) T.n_repr (p_var (i := 4))))) (ss_one (s_ret rfl (p_eq hK hr (p_var (i := 5)) (p_lst (a_cons (p_var (i := 2)) (a_cons p_str (a_cons p_str (a_cons p_str (a_cons p_str (a_cons p_str (a_cons (p_var (i := 2)) (a_cons p_str a_nil))))))))))))))))))))))))
theorem sc_Word_length : FnScope ["self", "letter", "many"] ["self"] (defScope s_Word_length) := ⟨rfl, rfl, rfl, by decide +kernel, rfl, by decide +kernel, by decide +kernel⟩
theorem ok_Word_length (hK : g.K = K) (T : Txt mg) {a_Word_length : Addr} (FA : FunM K "length" "Word.length" s_Word_length ["self"] a_Word_length) (S_Word_own_runs : SlotC g "Word" "own_runs" 0) : FnM P w K mg base g 1 a_Word_length 1 d_Word_length :=
  have nd := (sc_Word_length).nd
  fn_atM (k := 0) (extra := 2) (fun n0 => (sRet (eUn fSum (eLc (itV (eUn (fFld "Word" 0) (eVar 0))) [1, 2] (tgT (tgsCons (tgN 1) (tgsCons (tgN 2) tgsNil))) tYesD (eVar 2))))) FA sc_Word_length rfl rfl fun f cdv A outer s H E hr w0 => (ss_one (s_ret rfl (p_sum hK rfl (by rfl) T.n_sum (p_lc (own := [("letter", 1), ("many", 2)]) rfl nd (i_val hK (p_fld hK S_Word_own_runs (p_var (i := 0)))) (blkOk_by (N := ["self", "letter", "many"]) (sc := defScope s_Word_length) (own := [("letter", 1), ("many", 2)]) (by decide +kernel)) (fun _ _ _ _ _ => (g_tup hK rfl (gs_cons (g_name (i := 1) nd rfl (by first | exact .inl rfl | exact .inr rfl)) (gs_cons (g_name (i := 2) nd rfl (by first | exact .inl rfl | exact .inr rfl)) gs_nil)) (fun _ _ _ z => tgsCons_len (fun _ _ _ z => tgsCons_len (fun _ _ _ z => tgsNil_len z) z) z))) (fun _ _ _ _ _ => ts_nil) (fun _ _ _ _ _ => (p_var (i := 2))) (by decide)))))
theorem sc_Word_counts : FnScope ["self"] ["self"] (defScope s_Word_counts) := ⟨rfl, rfl, rfl, by decide +kernel, rfl, by decide +kernel, by decide +kernel⟩
theorem ok_Word_counts (hK : g.K = K) (T : Txt mg) {a_Word_counts : Addr} (FA : FunM K "counts" "Word.counts" s_Word_counts ["self"] a_Word_counts) (F__wall : Fn P w K mg base g 1 "_wall" ["k"] d__wall false) : FnM P w K mg base g 2 a_Word_counts 1 d_Word_counts :=
  have nd := (sc_Word_counts).nd
  fn_atM (k := 1) (extra := 0) (fun n0 => (sEx (eCall d__wall (eCons (eC (.int 0)) eNil)))) FA sc_Word_counts rfl rfl fun f cdv A outer s H E hr w0 => (ss_one (s_ex (p_call F__wall hr (by decide) (by rfl) (takes_of rfl rfl rfl rfl) rfl (eCons_len eNil_len) (a_cons p_int a_nil))))
theorem sc_Word_letter : FnScope ["self", "place"] ["self", "place"] (defScope s_Word_letter) := ⟨rfl, rfl, rfl, by decide +kernel, rfl, by decide +kernel, by decide +kernel⟩
theorem ok_Word_letter (hK : g.K = K) (T : Txt mg) {a_Word_letter : Addr} (FA : FunM K "letter" "Word.letter" s_Word_letter ["self", "place"] a_Word_letter) {a_Word_length : Addr} (F_part_of : Fn P w K mg base g 1 "part_of" ["runs", "first", "many"] d_part_of false) (F_require_within : Fn P w K mg base g 3 "require_within" ["value", "low", "most"] d_require_within false) (F_Word_length : FnM P w K mg base g 1 a_Word_length 1 d_Word_length) (P_Word_length : PropC g "Word" "length" a_Word_length) (S_Word_own_runs : SlotC g "Word" "own_runs" 0) : FnM P w K mg base g 4 a_Word_letter 2 d_Word_letter :=
  have nd := (sc_Word_letter).nd
  fn_atM (k := 3) (extra := 0) (fun n0 => (sSeq (sEx (eCall d_require_within (eCons (eVar 1) (eCons (eC (.int 0)) (eCons (eBin fSub (eUn (fPr "Word" d_Word_length) (eVar 0)) (eC (.int 1))) eNil))))) (sRet (eBin fIx (eBin fIx (eCall d_part_of (eCons (eUn (fFld "Word" 0) (eVar 0)) (eCons (eVar 1) (eCons (eC (.int 1)) eNil)))) (eC (.int 0))) (eC (.int 0)))))) FA sc_Word_letter rfl rfl fun f cdv A outer s H E hr w0 => (ss_cons (s_ex (p_call F_require_within hr (by decide) (by rfl) (takes_of rfl rfl rfl rfl) rfl (eCons_len (eCons_len (eCons_len eNil_len))) (a_cons (p_var (i := 1)) (a_cons p_int (a_cons (p_sub (p_prop hK P_Word_length F_Word_length hr (by decide) (p_var (i := 0))) p_int) a_nil))))) (ss_one (s_ret rfl (p_ix hK (p_ix hK (p_call F_part_of hr (by decide) (by rfl) (takes_of rfl rfl rfl rfl) rfl (eCons_len (eCons_len (eCons_len eNil_len))) (a_cons (p_fld hK S_Word_own_runs (p_var (i := 0))) (a_cons (p_var (i := 1)) (a_cons p_int a_nil)))) p_int) p_int))))
theorem sc_Word___eq__ : FnScope ["self", "other"] ["self", "other"] (defScope s_Word___eq__) := ⟨rfl, rfl, rfl, by decide +kernel, rfl, by decide +kernel, by decide +kernel⟩
theorem ok_Word___eq__ (hK : g.K = K) (T : Txt mg) {a_Word___eq__ : Addr} (FA : FunM K "__eq__" "Word.__eq__" s_Word___eq__ ["self", "other"] a_Word___eq__) {k_Word : Addr} (I_Word : IsiC g k_Word rel_Word) (N_Word : mg "Word" = some (.ref k_Word)) (S_Word_own_runs : SlotC g "Word" "own_runs" 0) (S_Word_own_width : SlotC g "Word" "own_width" 1) : FnM P w K mg base g 1 a_Word___eq__ 2 d_Word___eq__ :=
  have nd := (sc_Word___eq__).nd
  fn_atM (k := 0) (extra := 0) (fun n0 => (sRet (eAnd (eUn (fIsiO rel_Word) (eVar 1)) (eBin fEq (eCall fTup (eCons (eUn (fFld "Word" 1) (eVar 0)) (eCons (eUn (fFld "Word" 0) (eVar 0)) eNil))) (eCall fTup (eCons (eUn (fFld "Word" 1) (eVar 1)) (eCons (eUn (fFld "Word" 0) (eVar 1)) eNil))))))) FA sc_Word___eq__ rfl rfl fun f cdv A outer s H E hr w0 => (ss_one (s_ret rfl (p_and (p_isiO hK I_Word (by rfl) T.n_isinstance (by rfl) N_Word (p_var (i := 1))) (p_and1 (p_eq hK hr (p_tup (a_cons (p_fld hK S_Word_own_width (p_var (i := 0))) (a_cons (p_fld hK S_Word_own_runs (p_var (i := 0))) a_nil))) (p_tup (a_cons (p_fld hK S_Word_own_width (p_var (i := 1))) (a_cons (p_fld hK S_Word_own_runs (p_var (i := 1))) a_nil))))))))
theorem sc_Word___ne__ : FnScope ["self", "other"] ["self", "other"] (defScope s_Word___ne__) := ⟨rfl, rfl, rfl, by decide +kernel, rfl, by decide +kernel, by decide +kernel⟩
theorem ok_Word___ne__ (hK : g.K = K) (T : Txt mg) {a_Word___ne__ : Addr} (FA : FunM K "__ne__" "Word.__ne__" s_Word___ne__ ["self", "other"] a_Word___ne__) {a_Word___eq__ : Addr} (F_Word___eq__ : FnM P w K mg base g 1 a_Word___eq__ 2 d_Word___eq__) (O_Word___eq__ : OwnM g "Word" .Eq a_Word___eq__) : FnM P w K mg base g 2 a_Word___ne__ 2 d_Word___ne__ :=
  have nd := (sc_Word___ne__).nd
  fn_atM (k := 1) (extra := 0) (fun n0 => (sRet (eNot (eBin (fCmpM "Word" d_Word___eq__ fEq) (eVar 0) (eVar 1))))) FA sc_Word___ne__ rfl rfl fun f cdv A outer s H E hr w0 => (ss_one (s_ret rfl (p_not (p_eqM hK O_Word___eq__ F_Word___eq__ hr (by decide) (p_var (i := 0)) (p_var (i := 1))))))
end
theorem all_ok {P : Program} {w : World} {K : PySem.W.Frag} {mg : Str → Option Value} (T : Txt mg) {k_Word k_InvalidCount k_InvalidWord k_InvalidOperation k_TooMany k_InvalidTable k_InvalidShape k_InvalidCase i_InvalidCount i_TooMany P__law_right P_law c__law_right c_law v_run_pushed a_Word_width a_Word_runs a_Word___init__ a_Word_length a_Word_counts a_Word_letter a_Word___eq__ a_Word___ne__ : Addr} (A__wall : FunAt K mg "_wall" "_wall" s__wall ["k"]) (A_is_integer : FunAt K mg "is_integer" "is_integer" s_is_integer ["value"]) (A_is_within : FunAt K mg "is_within" "is_within" s_is_within ["value", "low", "most"]) (A_require_within : FunAt K mg "require_within" "require_within" s_require_within ["value", "low", "most"]) (A_lean_in : FunAt K mg "lean_in" "lean_in" s_lean_in ["runs"]) (A_is_run : FunAt K mg "is_run" "is_run" s_is_run ["width", "value"]) (A_are_runs : FunAt K mg "are_runs" "are_runs" s_are_runs ["width", "value"]) (A_part_of : FunAt K mg "part_of" "part_of" s_part_of ["runs", "first", "many"]) (A_require_word : FunAt K mg "require_word" "require_word" s_require_word ["word"]) (A_run_pushed : FunAt K mg "run_pushed" "run_pushed" s_run_pushed ["shelf", "letter", "many"]) (A_run_pulled : FunAt K mg "run_pulled" "run_pulled" s_run_pulled ["shelf", "letter", "many"]) (A_led_in : FunAt K mg "led_in" "led_in" s_led_in ["shelf", "runs", "way"]) (A_fits_in : FunAt K mg "fits_in" "fits_in" s_fits_in ["shelf", "under"]) (A_is_shelf : FunAt K mg "is_shelf" "is_shelf" s_is_shelf ["value"]) (A_require_shelf : FunAt K mg "require_shelf" "require_shelf" s_require_shelf ["shelf"]) (A_require_letter : FunAt K mg "require_letter" "require_letter" s_require_letter ["shelf", "letter", "many"]) (A_require_room : FunAt K mg "require_room" "require_room" s_require_room ["letters", "many"]) (A_push_in : FunAt K mg "push_in" "push_in" s_push_in ["shelf", "letter", "many"]) (A_Word_width : FunM K "width" "Word.width" s_Word_width ["self"] a_Word_width) (A_Word_runs : FunM K "runs" "Word.runs" s_Word_runs ["self"] a_Word_runs) (A_push_word : FunAt K mg "push_word" "push_word" s_push_word ["shelf", "word"]) (A_pull_in : FunAt K mg "pull_in" "pull_in" s_pull_in ["shelf", "letter", "many"]) (A_fits_under : FunAt K mg "fits_under" "fits_under" s_fits_under ["shelf", "under"]) (A__law_dice : FunAt K mg "_law_dice" "_law_dice" s__law_dice ["script", "spot"]) (A__law_roll : FunAt K mg "_law_roll" "_law_roll" s__law_roll ["dice", "total"]) (A__law_pick : FunAt K mg "_law_pick" "_law_pick" s__law_pick ["dice", "items"]) (A__law_one : FunAt K mg "_law_one" "_law_one" s__law_one ["dice", "right", "wrong"]) (A__law_first : FunAt K mg "_law_first" "_law_first" s__law_first ["rows"]) (A_Word___init__ : FunM K "__init__" "Word.__init__" s_Word___init__ ["self", "width", "runs"] a_Word___init__) (A__law_right : FunAtC K mg "_law_right" "_law_right" s__law_right ["dice"] c__law_right) (A_Word_length : FunM K "length" "Word.length" s_Word_length ["self"] a_Word_length) (A_Word_counts : FunM K "counts" "Word.counts" s_Word_counts ["self"] a_Word_counts) (A_Word_letter : FunM K "letter" "Word.letter" s_Word_letter ["self", "place"] a_Word_letter) (A_Word___eq__ : FunM K "__eq__" "Word.__eq__" s_Word___eq__ ["self", "other"] a_Word___eq__) (A_Word___ne__ : FunM K "__ne__" "Word.__ne__" s_Word___ne__ ["self", "other"] a_Word___ne__) (C_Word : (gX K k_Word k_InvalidCount k_InvalidWord k_InvalidOperation k_TooMany k_InvalidTable k_InvalidShape k_InvalidCase P__law_right P_law v_run_pushed).cl "Word" = some k_Word) (G_run_pushed : (gX K k_Word k_InvalidCount k_InvalidWord k_InvalidOperation k_TooMany k_InvalidTable k_InvalidShape k_InvalidCase P__law_right P_law v_run_pushed).fn "run_pushed" = some v_run_pushed) (I_Word : IsiC (gX K k_Word k_InvalidCount k_InvalidWord k_InvalidOperation k_TooMany k_InvalidTable k_InvalidShape k_InvalidCase P__law_right P_law v_run_pushed) k_Word rel_Word) (MK_Word : Mk K k_Word a_Word___init__) (N_Word : mg "Word" = some (.ref k_Word)) (O_Word___eq__ : OwnM (gX K k_Word k_InvalidCount k_InvalidWord k_InvalidOperation k_TooMany k_InvalidTable k_InvalidShape k_InvalidCase P__law_right P_law v_run_pushed) "Word" .Eq a_Word___eq__) (P_Word_length : PropC (gX K k_Word k_InvalidCount k_InvalidWord k_InvalidOperation k_TooMany k_InvalidTable k_InvalidShape k_InvalidCase P__law_right P_law v_run_pushed) "Word" "length" a_Word_length) (P_Word_runs : PropC (gX K k_Word k_InvalidCount k_InvalidWord k_InvalidOperation k_TooMany k_InvalidTable k_InvalidShape k_InvalidCase P__law_right P_law v_run_pushed) "Word" "runs" a_Word_runs) (P_Word_width : PropC (gX K k_Word k_InvalidCount k_InvalidWord k_InvalidOperation k_TooMany k_InvalidTable k_InvalidShape k_InvalidCase P__law_right P_law v_run_pushed) "Word" "width" a_Word_width) (S_Word_own_runs : SlotC (gX K k_Word k_InvalidCount k_InvalidWord k_InvalidOperation k_TooMany k_InvalidTable k_InvalidShape k_InvalidCase P__law_right P_law v_run_pushed) "Word" "own_runs" 0) (S_Word_own_width : SlotC (gX K k_Word k_InvalidCount k_InvalidWord k_InvalidOperation k_TooMany k_InvalidTable k_InvalidShape k_InvalidCase P__law_right P_law v_run_pushed) "Word" "own_width" 1) (TE : TellK K mg (gX K k_Word k_InvalidCount k_InvalidWord k_InvalidOperation k_TooMany k_InvalidTable k_InvalidShape k_InvalidCase P__law_right P_law v_run_pushed) "_law_met" "call" metT "none") (TT__law_right : (P__law_right, lamN "_law_right") ∈ (gX K k_Word k_InvalidCount k_InvalidWord k_InvalidOperation k_TooMany k_InvalidTable k_InvalidShape k_InvalidCase P__law_right P_law v_run_pushed).T) (TT_law : (P_law, lamN "law") ∈ (gX K k_Word k_InvalidCount k_InvalidWord k_InvalidOperation k_TooMany k_InvalidTable k_InvalidShape k_InvalidCase P__law_right P_law v_run_pushed).T) (TU__law_right : ∀ p ∈ (gX K k_Word k_InvalidCount k_InvalidWord k_InvalidOperation k_TooMany k_InvalidTable k_InvalidShape k_InvalidCase P__law_right P_law v_run_pushed).T, p.1 = P__law_right → p.2 = lamN "_law_right") (TU_law : ∀ p ∈ (gX K k_Word k_InvalidCount k_InvalidWord k_InvalidOperation k_TooMany k_InvalidTable k_InvalidShape k_InvalidCase P__law_right P_law v_run_pushed).T, p.1 = P_law → p.2 = lamN "law") (V_run_pushed : mg "run_pushed" = some (.ref v_run_pushed)) (X0_InvalidOperation : ExC0 (gX K k_Word k_InvalidCount k_InvalidWord k_InvalidOperation k_TooMany k_InvalidTable k_InvalidShape k_InvalidCase P__law_right P_law v_run_pushed) K mg "InvalidOperation" k_InvalidOperation) (X0_InvalidWord : ExC0 (gX K k_Word k_InvalidCount k_InvalidWord k_InvalidOperation k_TooMany k_InvalidTable k_InvalidShape k_InvalidCase P__law_right P_law v_run_pushed) K mg "InvalidWord" k_InvalidWord) (XV_InvalidCount : ExCV (gX K k_Word k_InvalidCount k_InvalidWord k_InvalidOperation k_TooMany k_InvalidTable k_InvalidShape k_InvalidCase P__law_right P_law v_run_pushed) P K mg "InvalidCount" k_InvalidCount i_InvalidCount) (XV_TooMany : ExCV (gX K k_Word k_InvalidCount k_InvalidWord k_InvalidOperation k_TooMany k_InvalidTable k_InvalidShape k_InvalidCase P__law_right P_law v_run_pushed) P K mg "TooMany" k_TooMany i_TooMany) {fa : Addr} {fda : FuncData} (FA : FunC K "law" "law" s_law fa fda c_law) (hm : mg "law" = some (.ref fa)) (hb : Binds K fda ["script"] []) (base : Heap) (TB__law_right : LamX.TabB base mg c__law_right P__law_right) (TB_law : LamX.TabB base mg c_law P_law) : FnX P w K mg base (gX K k_Word k_InvalidCount k_InvalidWord k_InvalidOperation k_TooMany k_InvalidTable k_InvalidShape k_InvalidCase P__law_right P_law v_run_pushed) 16 "law" ["script"] d_law false fa fda := by
  have F__wall := ok__wall (P := P) (w := w) (base := base) (g := (gX K k_Word k_InvalidCount k_InvalidWord k_InvalidOperation k_TooMany k_InvalidTable k_InvalidShape k_InvalidCase P__law_right P_law v_run_pushed)) rfl T A__wall 
  have F_is_integer := ok_is_integer (P := P) (w := w) (base := base) (g := (gX K k_Word k_InvalidCount k_InvalidWord k_InvalidOperation k_TooMany k_InvalidTable k_InvalidShape k_InvalidCase P__law_right P_law v_run_pushed)) rfl T A_is_integer 
  have F_is_within := ok_is_within (P := P) (w := w) (base := base) (g := (gX K k_Word k_InvalidCount k_InvalidWord k_InvalidOperation k_TooMany k_InvalidTable k_InvalidShape k_InvalidCase P__law_right P_law v_run_pushed)) rfl T A_is_within F_is_integer
  have F_require_within := ok_require_within (P := P) (w := w) (base := base) (g := (gX K k_Word k_InvalidCount k_InvalidWord k_InvalidOperation k_TooMany k_InvalidTable k_InvalidShape k_InvalidCase P__law_right P_law v_run_pushed)) rfl T A_require_within F_is_within XV_InvalidCount
  have F_lean_in := ok_lean_in (P := P) (w := w) (base := base) (g := (gX K k_Word k_InvalidCount k_InvalidWord k_InvalidOperation k_TooMany k_InvalidTable k_InvalidShape k_InvalidCase P__law_right P_law v_run_pushed)) rfl T A_lean_in 
  have F_is_run := ok_is_run (P := P) (w := w) (base := base) (g := (gX K k_Word k_InvalidCount k_InvalidWord k_InvalidOperation k_TooMany k_InvalidTable k_InvalidShape k_InvalidCase P__law_right P_law v_run_pushed)) rfl T A_is_run F_is_within
  have F_are_runs := ok_are_runs (P := P) (w := w) (base := base) (g := (gX K k_Word k_InvalidCount k_InvalidWord k_InvalidOperation k_TooMany k_InvalidTable k_InvalidShape k_InvalidCase P__law_right P_law v_run_pushed)) rfl T A_are_runs F_is_run
  have F_part_of := ok_part_of (P := P) (w := w) (base := base) (g := (gX K k_Word k_InvalidCount k_InvalidWord k_InvalidOperation k_TooMany k_InvalidTable k_InvalidShape k_InvalidCase P__law_right P_law v_run_pushed)) rfl T A_part_of 
  have F_require_word := ok_require_word (P := P) (w := w) (base := base) (g := (gX K k_Word k_InvalidCount k_InvalidWord k_InvalidOperation k_TooMany k_InvalidTable k_InvalidShape k_InvalidCase P__law_right P_law v_run_pushed)) rfl T A_require_word I_Word N_Word X0_InvalidWord
  have F_run_pushed := ok_run_pushed (P := P) (w := w) (base := base) (g := (gX K k_Word k_InvalidCount k_InvalidWord k_InvalidOperation k_TooMany k_InvalidTable k_InvalidShape k_InvalidCase P__law_right P_law v_run_pushed)) rfl T A_run_pushed 
  have F_run_pulled := ok_run_pulled (P := P) (w := w) (base := base) (g := (gX K k_Word k_InvalidCount k_InvalidWord k_InvalidOperation k_TooMany k_InvalidTable k_InvalidShape k_InvalidCase P__law_right P_law v_run_pushed)) rfl T A_run_pulled 
  have F_led_in := ok_led_in (P := P) (w := w) (base := base) (g := (gX K k_Word k_InvalidCount k_InvalidWord k_InvalidOperation k_TooMany k_InvalidTable k_InvalidShape k_InvalidCase P__law_right P_law v_run_pushed)) rfl T A_led_in F_lean_in F_run_pushed G_run_pushed V_run_pushed
  have F_fits_in := ok_fits_in (P := P) (w := w) (base := base) (g := (gX K k_Word k_InvalidCount k_InvalidWord k_InvalidOperation k_TooMany k_InvalidTable k_InvalidShape k_InvalidCase P__law_right P_law v_run_pushed)) rfl T A_fits_in 
  have F_is_shelf := ok_is_shelf (P := P) (w := w) (base := base) (g := (gX K k_Word k_InvalidCount k_InvalidWord k_InvalidOperation k_TooMany k_InvalidTable k_InvalidShape k_InvalidCase P__law_right P_law v_run_pushed)) rfl T A_is_shelf F_is_within
  have F_require_shelf := ok_require_shelf (P := P) (w := w) (base := base) (g := (gX K k_Word k_InvalidCount k_InvalidWord k_InvalidOperation k_TooMany k_InvalidTable k_InvalidShape k_InvalidCase P__law_right P_law v_run_pushed)) rfl T A_require_shelf F_is_shelf X0_InvalidOperation
  have F_require_letter := ok_require_letter (P := P) (w := w) (base := base) (g := (gX K k_Word k_InvalidCount k_InvalidWord k_InvalidOperation k_TooMany k_InvalidTable k_InvalidShape k_InvalidCase P__law_right P_law v_run_pushed)) rfl T A_require_letter F_require_shelf F_require_within
  have F_require_room := ok_require_room (P := P) (w := w) (base := base) (g := (gX K k_Word k_InvalidCount k_InvalidWord k_InvalidOperation k_TooMany k_InvalidTable k_InvalidShape k_InvalidCase P__law_right P_law v_run_pushed)) rfl T A_require_room XV_TooMany
  have F_push_in := ok_push_in (P := P) (w := w) (base := base) (g := (gX K k_Word k_InvalidCount k_InvalidWord k_InvalidOperation k_TooMany k_InvalidTable k_InvalidShape k_InvalidCase P__law_right P_law v_run_pushed)) rfl T A_push_in F_require_letter F_require_room F_run_pushed
  have F_Word_width := ok_Word_width (P := P) (w := w) (base := base) (g := (gX K k_Word k_InvalidCount k_InvalidWord k_InvalidOperation k_TooMany k_InvalidTable k_InvalidShape k_InvalidCase P__law_right P_law v_run_pushed)) rfl T A_Word_width S_Word_own_width
  have F_Word_runs := ok_Word_runs (P := P) (w := w) (base := base) (g := (gX K k_Word k_InvalidCount k_InvalidWord k_InvalidOperation k_TooMany k_InvalidTable k_InvalidShape k_InvalidCase P__law_right P_law v_run_pushed)) rfl T A_Word_runs S_Word_own_runs
  have F_push_word := ok_push_word (P := P) (w := w) (base := base) (g := (gX K k_Word k_InvalidCount k_InvalidWord k_InvalidOperation k_TooMany k_InvalidTable k_InvalidShape k_InvalidCase P__law_right P_law v_run_pushed)) rfl T A_push_word F_led_in F_require_room F_require_shelf F_require_word F_Word_runs F_Word_width G_run_pushed P_Word_runs P_Word_width V_run_pushed X0_InvalidOperation
  have F_pull_in := ok_pull_in (P := P) (w := w) (base := base) (g := (gX K k_Word k_InvalidCount k_InvalidWord k_InvalidOperation k_TooMany k_InvalidTable k_InvalidShape k_InvalidCase P__law_right P_law v_run_pushed)) rfl T A_pull_in F_require_letter F_run_pulled X0_InvalidOperation
  have F_fits_under := ok_fits_under (P := P) (w := w) (base := base) (g := (gX K k_Word k_InvalidCount k_InvalidWord k_InvalidOperation k_TooMany k_InvalidTable k_InvalidShape k_InvalidCase P__law_right P_law v_run_pushed)) rfl T A_fits_under F_fits_in F_require_shelf X0_InvalidOperation
  have F__law_dice := ok__law_dice (P := P) (w := w) (base := base) (g := (gX K k_Word k_InvalidCount k_InvalidWord k_InvalidOperation k_TooMany k_InvalidTable k_InvalidShape k_InvalidCase P__law_right P_law v_run_pushed)) rfl T A__law_dice 
  have F__law_dice_N := ok__law_dice_N (P := P) (w := w) (base := base) (g := (gX K k_Word k_InvalidCount k_InvalidWord k_InvalidOperation k_TooMany k_InvalidTable k_InvalidShape k_InvalidCase P__law_right P_law v_run_pushed)) rfl T A__law_dice 
  have F__law_roll := ok__law_roll (P := P) (w := w) (base := base) (g := (gX K k_Word k_InvalidCount k_InvalidWord k_InvalidOperation k_TooMany k_InvalidTable k_InvalidShape k_InvalidCase P__law_right P_law v_run_pushed)) rfl T A__law_roll 
  have F__law_pick := ok__law_pick (P := P) (w := w) (base := base) (g := (gX K k_Word k_InvalidCount k_InvalidWord k_InvalidOperation k_TooMany k_InvalidTable k_InvalidShape k_InvalidCase P__law_right P_law v_run_pushed)) rfl T A__law_pick F__law_roll
  have F__law_one := ok__law_one (P := P) (w := w) (base := base) (g := (gX K k_Word k_InvalidCount k_InvalidWord k_InvalidOperation k_TooMany k_InvalidTable k_InvalidShape k_InvalidCase P__law_right P_law v_run_pushed)) rfl T A__law_one F__law_pick F__law_roll
  have F__law_first := ok__law_first (P := P) (w := w) (base := base) (g := (gX K k_Word k_InvalidCount k_InvalidWord k_InvalidOperation k_TooMany k_InvalidTable k_InvalidShape k_InvalidCase P__law_right P_law v_run_pushed)) rfl T A__law_first 
  have F_Word___init__ := ok_Word___init__ (P := P) (w := w) (base := base) (g := (gX K k_Word k_InvalidCount k_InvalidWord k_InvalidOperation k_TooMany k_InvalidTable k_InvalidShape k_InvalidCase P__law_right P_law v_run_pushed)) rfl T A_Word___init__ F_are_runs F_is_within F_lean_in S_Word_own_runs S_Word_own_width X0_InvalidWord
  have F__law_right := ok__law_right (P := P) (w := w) (base := base) (g := (gX K k_Word k_InvalidCount k_InvalidWord k_InvalidOperation k_TooMany k_InvalidTable k_InvalidShape k_InvalidCase P__law_right P_law v_run_pushed)) rfl T A__law_right F__law_first F__law_one F__law_pick F__law_roll F_fits_under F_pull_in F_push_in F_push_word C_Word F_Word___init__ MK_Word N_Word TB__law_right TE TT__law_right TU__law_right
  have F_Word_length := ok_Word_length (P := P) (w := w) (base := base) (g := (gX K k_Word k_InvalidCount k_InvalidWord k_InvalidOperation k_TooMany k_InvalidTable k_InvalidShape k_InvalidCase P__law_right P_law v_run_pushed)) rfl T A_Word_length S_Word_own_runs
  have F_Word_counts := ok_Word_counts (P := P) (w := w) (base := base) (g := (gX K k_Word k_InvalidCount k_InvalidWord k_InvalidOperation k_TooMany k_InvalidTable k_InvalidShape k_InvalidCase P__law_right P_law v_run_pushed)) rfl T A_Word_counts F__wall
  have F_Word_letter := ok_Word_letter (P := P) (w := w) (base := base) (g := (gX K k_Word k_InvalidCount k_InvalidWord k_InvalidOperation k_TooMany k_InvalidTable k_InvalidShape k_InvalidCase P__law_right P_law v_run_pushed)) rfl T A_Word_letter F_part_of F_require_within F_Word_length P_Word_length S_Word_own_runs
  have F_Word___eq__ := ok_Word___eq__ (P := P) (w := w) (base := base) (g := (gX K k_Word k_InvalidCount k_InvalidWord k_InvalidOperation k_TooMany k_InvalidTable k_InvalidShape k_InvalidCase P__law_right P_law v_run_pushed)) rfl T A_Word___eq__ I_Word N_Word S_Word_own_runs S_Word_own_width
  have F_Word___ne__ := ok_Word___ne__ (P := P) (w := w) (base := base) (g := (gX K k_Word k_InvalidCount k_InvalidWord k_InvalidOperation k_TooMany k_InvalidTable k_InvalidShape k_InvalidCase P__law_right P_law v_run_pushed)) rfl T A_Word___ne__ F_Word___eq__ O_Word___eq__
  exact ok_law rfl T FA hm hb F__law_dice_N F__law_right F_pull_in F_push_in F_push_word C_Word F_Word___init__ MK_Word N_Word TB_law TE TT_law TU_law
end L16


namespace L16
open PySem L2 Pd Pq
/-! ### the dice of the laws -/
def roll2 (b c t : Int) : Int :=
  (((((b + 86028121 * (c + 1)) % 2305843009213693951 * ((b + 86028121 * (c + 1)) % 2305843009213693951) + 191 * (c + 1)) % 2305843009213693907) * 15485867 + (b + 86028121 * (c + 1)) % 2305843009213693951) / 65537) % t
abbrev dice (a b c : Int) : Option Cell := some (.lst [.int a, .int b, .int c])
theorem roll_ex (a b c t : Int) (S : Store) (h : 0 < t) (hb : divOk t = true) : ∃ v a' c', 0 ≤ v ∧ v < t ∧
    d__law_roll [.cell 0, .d (.int t)] (dice a b c :: S) = .ok (.d (.int v)) (dice a' b c' :: S) := by
  by_cases ha : 0 < a
  · refine ⟨a % t, a / t, c, Int.emod_nonneg _ (by omega), Int.emod_lt_of_pos _ h, ?_⟩
    unfold d__law_roll
    simp only [funD, finF, fin, sNil, sSeq, sEx, sRet, sRetN, sAsg, sNew, sIf, sAsgT, sPar, sFrz, sRetC, sNever, sBrk, sCont, sFor, eVar, eC, eBin, eUn, eTest, eAnd, eOr, eNot, eIf, eChain, eNil, eCons, eCall, eSl, eoN, eoS, eApp, eExt, ePop, sSet, itV, itR1, itR2, itEn, itZ, eLc, asB, clo, fTup, fLst, fAddL, fMulL, fI, fAdd, fSub, fMul, fDiv, fMod, fPow, fNeg, fLt, fLe, fGt, fGe, fEq, fNe, fIx, fIsN, fNotN, Pd.isNon, fLen, fAbs, fInt, fTuple, fList, fSum, fAll, fAny, fMax2, fMin2, isiD, fIsi, fSl, fRev, fSorted, fRepr, rd, R.bind, R.fl, F.lp, noX, tYesD, lcY, tgN, tgsNil, tgsCons, tgT, wipeE, keepB, List.map_cons, List.map_nil, List.replicate_succ, List.replicate_zero, List.cons_append, List.nil_append, List.append_nil, List.length_cons, List.length_nil, List.length_append, List.getElem?_cons_zero, List.getElem?_cons_succ, List.getElem?_nil, List.set_cons_zero, List.set_cons_succ, List.take_zero, List.take_succ_cons, List.take_nil, Option.map_some, Option.map_none, Option.bind_some, Option.bind_none, Nat.zero_add, Nat.add_zero, Nat.reduceAdd, Nat.reduceLeDiff, Nat.reduceSub, Nat.reduceEqDiff, Int.reduceLT, Int.reduceLE, Int.reduceEq, Int.reduceNeg, Int.reduceAdd, Int.reduceSub, Int.reduceMul, decide_true, decide_false, ↓reduceIte, decide_eq_true_eq, Bool.not_eq_true', decide_eq_false_iff_not, Bool.false_eq_true, Bool.true_eq_false, Bool.not_true, Bool.not_false, true_and, and_true, and_self, false_and, and_false, ixN, atI_0, atI_1, atI_2, ha, h, hb]
    simp
  · refine ⟨roll2 b c t, a, c + 1, Int.emod_nonneg _ (by omega), Int.emod_lt_of_pos _ h, ?_⟩
    unfold d__law_roll
    have m1 : mulOk 86028121 (c + 1) = true := mulOk_l (by decide) (by decide)
    have m2 : mulOk 191 (c + 1) = true := mulOk_l (by decide) (by decide)
    have m3 : mulOk ((b + 86028121 * (c + 1)) % 2305843009213693951) ((b + 86028121 * (c + 1)) % 2305843009213693951) = true := mulOk_l (by omega) (by omega)
    have m4 : mulOk (((b + 86028121 * (c + 1)) % 2305843009213693951 * ((b + 86028121 * (c + 1)) % 2305843009213693951) + 191 * (c + 1)) % 2305843009213693907) 15485867 = true := mulOk_l (by omega) (by omega)
    have m5 : divOk 65537 = true := divOk_l (by decide) (by decide)
    simp only [funD, finF, fin, sNil, sSeq, sEx, sRet, sRetN, sAsg, sNew, sIf, sAsgT, sPar, sFrz, sRetC, sNever, sBrk, sCont, sFor, eVar, eC, eBin, eUn, eTest, eAnd, eOr, eNot, eIf, eChain, eNil, eCons, eCall, eSl, eoN, eoS, eApp, eExt, ePop, sSet, itV, itR1, itR2, itEn, itZ, eLc, asB, clo, fTup, fLst, fAddL, fMulL, fI, fAdd, fSub, fMul, fDiv, fMod, fPow, fNeg, fLt, fLe, fGt, fGe, fEq, fNe, fIx, fIsN, fNotN, Pd.isNon, fLen, fAbs, fInt, fTuple, fList, fSum, fAll, fAny, fMax2, fMin2, isiD, fIsi, fSl, fRev, fSorted, fRepr, rd, R.bind, R.fl, F.lp, noX, tYesD, lcY, tgN, tgsNil, tgsCons, tgT, wipeE, keepB, List.map_cons, List.map_nil, List.replicate_succ, List.replicate_zero, List.cons_append, List.nil_append, List.append_nil, List.length_cons, List.length_nil, List.length_append, List.getElem?_cons_zero, List.getElem?_cons_succ, List.getElem?_nil, List.set_cons_zero, List.set_cons_succ, List.take_zero, List.take_succ_cons, List.take_nil, Option.map_some, Option.map_none, Option.bind_some, Option.bind_none, Nat.zero_add, Nat.add_zero, Nat.reduceAdd, Nat.reduceLeDiff, Nat.reduceSub, Nat.reduceEqDiff, Int.reduceLT, Int.reduceLE, Int.reduceEq, Int.reduceNeg, Int.reduceAdd, Int.reduceSub, Int.reduceMul, decide_true, decide_false, ↓reduceIte, decide_eq_true_eq, Bool.not_eq_true', decide_eq_false_iff_not, Bool.false_eq_true, Bool.true_eq_false, Bool.not_true, Bool.not_false, true_and, and_true, and_self, false_and, and_false, ixN, atI_0, atI_1, atI_2, ha, h, hb, m1, m2, m3, m4, m5]
    simp [m1, m2, m3, m4, m5, h, atI_0, atI_1, atI_2, roll2]
theorem dice_ex (ns : List Int) (k : Nat) (S : Store) : ∃ a b c, d__law_dice [.d (.scr ns), .d (.int (k : Nat))] S = .ok (.d (.lst [.int a, .int b, .int c])) S := by
  have p1 : powOk 10 54 = true := powOk_l (by decide) (by decide) (by decide)
  have p2 : powOk (10 ^ 54) 6 = true := powOk_l (by decide) (by decide) (by decide)
  have p3 : powOk 10 16 = true := powOk_l (by decide) (by decide) (by decide)
  have key : ∀ cell : Int, ∃ a b c, (sSeq (sAsg 3 (eBin fMod (eUn fInt (eUn fAbs (eVar 2))) (eBin fPow (eBin fPow (eC (.int 10)) (eC (.int 54))) (eC (.int 6))))) (sSeq (sAsg 4 (eBin fAdd (eBin fAdd (eBin fAdd (eBin fMul (eBin fMod (eVar 3) (eC (.int 2305843009213693921))) (eC (.int 97))) (eBin fMul (eC (.int 733)) (eVar 1))) (eBin fMul (eC (.int 67)) (eUn fInt (eBin fLt (eVar 2) (eC (.int 0)))))) (eC (.int 53)))) (sRet (eCall fLst (eCons (eBin fMax2 (eC (.int 0)) (eBin fSub (eVar 3) (eBin fPow (eC (.int 10)) (eC (.int 16))))) (eCons (eVar 4) (eCons (eC (.int 0)) eNil)))))))
      [some (.d (.scr ns)), some (.d (.int (k : Nat))), some (.d (.int cell)), none, none] S = .rt (.d (.lst [.int a, .int b, .int c])) S := by
    intro cell
    apply Exists.intro
    apply Exists.intro
    apply Exists.intro
    have m1 : ∀ x : Int, mulOk x 97 = true := fun x => mulOk_r (by decide) (by decide)
    have m2 : ∀ x : Int, mulOk 733 x = true := fun x => mulOk_l (by decide) (by decide)
    have m3 : ∀ x : Int, mulOk 67 x = true := fun x => mulOk_l (by decide) (by decide)
    have e54 : (10 : Int) ^ Int.toNat 54 = 10 ^ 54 := rfl
    have q : (0 : Int) < (10 ^ 54) ^ Int.toNat 6 := by decide
    simp only [funD, finF, fin, sNil, sSeq, sEx, sRet, sRetN, sAsg, sNew, sIf, sAsgT, sPar, sFrz, sRetC, sNever, sBrk, sCont, sFor, eVar, eC, eBin, eUn, eTest, eAnd, eOr, eNot, eIf, eChain, eNil, eCons, eCall, eSl, eoN, eoS, eApp, eExt, ePop, sSet, itV, itR1, itR2, itEn, itZ, eLc, asB, clo, fTup, fLst, fAddL, fMulL, fI, fAdd, fSub, fMul, fDiv, fMod, fPow, fNeg, fLt, fLe, fGt, fGe, fEq, fNe, fIx, fIsN, fNotN, Pd.isNon, fLen, fAbs, fInt, fTuple, fList, fSum, fAll, fAny, fMax2, fMin2, isiD, fIsi, fSl, fRev, fSorted, fRepr, rd, R.bind, R.fl, F.lp, noX, tYesD, lcY, tgN, tgsNil, tgsCons, tgT, wipeE, keepB, List.map_cons, List.map_nil, List.replicate_succ, List.replicate_zero, List.cons_append, List.nil_append, List.append_nil, List.length_cons, List.length_nil, List.length_append, List.getElem?_cons_zero, List.getElem?_cons_succ, List.getElem?_nil, List.set_cons_zero, List.set_cons_succ, List.take_zero, List.take_succ_cons, List.take_nil, Option.map_some, Option.map_none, Option.bind_some, Option.bind_none, Nat.zero_add, Nat.add_zero, Nat.reduceAdd, Nat.reduceLeDiff, Nat.reduceSub, Nat.reduceEqDiff, Int.reduceLT, Int.reduceLE, Int.reduceEq, Int.reduceNeg, Int.reduceAdd, Int.reduceSub, Int.reduceMul, decide_true, decide_false, ↓reduceIte, decide_eq_true_eq, Bool.not_eq_true', decide_eq_false_iff_not, Bool.false_eq_true, Bool.true_eq_false, Bool.not_true, Bool.not_false, true_and, and_true, and_self, false_and, and_false, p1, p2, p3, m1, m2, m3, e54, q]
    rfl
  unfold d__law_dice
  by_cases hk : k < ns.length
  · obtain ⟨a, b, c, h⟩ := key ns[k]
    refine ⟨a, b, c, funD_rt (sq_nx (asg_i (x := .d (.int ns[k])) (S1 := S) ?_) h) rfl⟩
    have e : atI ns (k : Int) = some ns[k] := by rw [atI_k, List.getElem?_eq_getElem hk]
    have hk' : (k : Int) < (ns.length : Int) := by omega
    simp only [funD, finF, fin, sNil, sSeq, sEx, sRet, sRetN, sAsg, sNew, sIf, sAsgT, sPar, sFrz, sRetC, sNever, sBrk, sCont, sFor, eVar, eC, eBin, eUn, eTest, eAnd, eOr, eNot, eIf, eChain, eNil, eCons, eCall, eSl, eoN, eoS, eApp, eExt, ePop, sSet, itV, itR1, itR2, itEn, itZ, eLc, asB, clo, fTup, fLst, fAddL, fMulL, fI, fAdd, fSub, fMul, fDiv, fMod, fPow, fNeg, fLt, fLe, fGt, fGe, fEq, fNe, fIx, fIsN, fNotN, Pd.isNon, fLen, fAbs, fInt, fTuple, fList, fSum, fAll, fAny, fMax2, fMin2, isiD, fIsi, fSl, fRev, fSorted, fRepr, rd, R.bind, R.fl, F.lp, noX, tYesD, lcY, tgN, tgsNil, tgsCons, tgT, wipeE, keepB, List.map_cons, List.map_nil, List.replicate_succ, List.replicate_zero, List.cons_append, List.nil_append, List.append_nil, List.length_cons, List.length_nil, List.length_append, List.getElem?_cons_zero, List.getElem?_cons_succ, List.getElem?_nil, List.set_cons_zero, List.set_cons_succ, List.take_zero, List.take_succ_cons, List.take_nil, Option.map_some, Option.map_none, Option.bind_some, Option.bind_none, Nat.zero_add, Nat.add_zero, Nat.reduceAdd, Nat.reduceLeDiff, Nat.reduceSub, Nat.reduceEqDiff, Int.reduceLT, Int.reduceLE, Int.reduceEq, Int.reduceNeg, Int.reduceAdd, Int.reduceSub, Int.reduceMul, decide_true, decide_false, ↓reduceIte, decide_eq_true_eq, Bool.not_eq_true', decide_eq_false_iff_not, Bool.false_eq_true, Bool.true_eq_false, Bool.not_true, Bool.not_false, true_and, and_true, and_self, false_and, and_false, e, hk']
  · obtain ⟨a, b, c, h⟩ := key (233 * (k : Int) + 113)
    refine ⟨a, b, c, funD_rt (sq_nx (asg_i (x := .d (.int (233 * (k : Int) + 113))) (S1 := S) ?_) h) rfl⟩
    have hk' : ¬ (k : Int) < (ns.length : Int) := by omega
    have m0 : ∀ x : Int, mulOk 233 x = true := fun x => mulOk_l (by decide) (by decide)
    simp only [funD, finF, fin, sNil, sSeq, sEx, sRet, sRetN, sAsg, sNew, sIf, sAsgT, sPar, sFrz, sRetC, sNever, sBrk, sCont, sFor, eVar, eC, eBin, eUn, eTest, eAnd, eOr, eNot, eIf, eChain, eNil, eCons, eCall, eSl, eoN, eoS, eApp, eExt, ePop, sSet, itV, itR1, itR2, itEn, itZ, eLc, asB, clo, fTup, fLst, fAddL, fMulL, fI, fAdd, fSub, fMul, fDiv, fMod, fPow, fNeg, fLt, fLe, fGt, fGe, fEq, fNe, fIx, fIsN, fNotN, Pd.isNon, fLen, fAbs, fInt, fTuple, fList, fSum, fAll, fAny, fMax2, fMin2, isiD, fIsi, fSl, fRev, fSorted, fRepr, rd, R.bind, R.fl, F.lp, noX, tYesD, lcY, tgN, tgsNil, tgsCons, tgT, wipeE, keepB, List.map_cons, List.map_nil, List.replicate_succ, List.replicate_zero, List.cons_append, List.nil_append, List.append_nil, List.length_cons, List.length_nil, List.length_append, List.getElem?_cons_zero, List.getElem?_cons_succ, List.getElem?_nil, List.set_cons_zero, List.set_cons_succ, List.take_zero, List.take_succ_cons, List.take_nil, Option.map_some, Option.map_none, Option.bind_some, Option.bind_none, Nat.zero_add, Nat.add_zero, Nat.reduceAdd, Nat.reduceLeDiff, Nat.reduceSub, Nat.reduceEqDiff, Int.reduceLT, Int.reduceLE, Int.reduceEq, Int.reduceNeg, Int.reduceAdd, Int.reduceSub, Int.reduceMul, decide_true, decide_false, ↓reduceIte, decide_eq_true_eq, Bool.not_eq_true', decide_eq_false_iff_not, Bool.false_eq_true, Bool.true_eq_false, Bool.not_true, Bool.not_false, true_and, and_true, and_self, false_and, and_false, hk', m0]
theorem pick_ex (a b c : Int) (ds : List D) (S : Store) (h : ds ≠ []) (hl : ds.length ≤ 1000) : ∃ d a' c', d ∈ ds ∧ d__law_pick [.cell 0, .d (.lst ds)] (dice a b c :: S) = .ok (.d d) (dice a' b c' :: S) := by
  have hn : 0 < ds.length := List.length_pos_iff.mpr h
  obtain ⟨v, a', c', h0, h1, e⟩ := roll_ex a b c ds.length S (by omega) (divOk_l (by omega) (by omega))
  obtain ⟨n, rfl⟩ : ∃ n : Nat, v = n := ⟨v.toNat, by omega⟩
  have hlt : n < ds.length := by omega
  refine ⟨ds[n], a', c', List.getElem_mem hlt, ?_⟩
  have e2 : atI ds (n : Int) = some ds[n] := by rw [atI_k, List.getElem?_eq_getElem hlt]
  unfold d__law_pick
  simp only [funD, finF, fin, sNil, sSeq, sEx, sRet, sRetN, sAsg, sNew, sIf, sAsgT, sPar, sFrz, sRetC, sNever, sBrk, sCont, sFor, eVar, eC, eBin, eUn, eTest, eAnd, eOr, eNot, eIf, eChain, eNil, eCons, eCall, eSl, eoN, eoS, eApp, eExt, ePop, sSet, itV, itR1, itR2, itEn, itZ, eLc, asB, clo, fTup, fLst, fAddL, fMulL, fI, fAdd, fSub, fMul, fDiv, fMod, fPow, fNeg, fLt, fLe, fGt, fGe, fEq, fNe, fIx, fIsN, fNotN, Pd.isNon, fLen, fAbs, fInt, fTuple, fList, fSum, fAll, fAny, fMax2, fMin2, isiD, fIsi, fSl, fRev, fSorted, fRepr, rd, R.bind, R.fl, F.lp, noX, tYesD, lcY, tgN, tgsNil, tgsCons, tgT, wipeE, keepB, List.map_cons, List.map_nil, List.replicate_succ, List.replicate_zero, List.cons_append, List.nil_append, List.append_nil, List.length_cons, List.length_nil, List.length_append, List.getElem?_cons_zero, List.getElem?_cons_succ, List.getElem?_nil, List.set_cons_zero, List.set_cons_succ, List.take_zero, List.take_succ_cons, List.take_nil, Option.map_some, Option.map_none, Option.bind_some, Option.bind_none, Nat.zero_add, Nat.add_zero, Nat.reduceAdd, Nat.reduceLeDiff, Nat.reduceSub, Nat.reduceEqDiff, Int.reduceLT, Int.reduceLE, Int.reduceEq, Int.reduceNeg, Int.reduceAdd, Int.reduceSub, Int.reduceMul, decide_true, decide_false, ↓reduceIte, decide_eq_true_eq, Bool.not_eq_true', decide_eq_false_iff_not, Bool.false_eq_true, Bool.true_eq_false, Bool.not_true, Bool.not_false, true_and, and_true, and_self, false_and, and_false, e, e2, List.take_length]
end L16


namespace L16
open PySem L2 Pd Pq
/-! ### what is drawn, one right or wrong -/
def okD (r : R Val) : D := match r with | .ok (.d d) _ => d | _ => .non
def okI (r : R Val) : Nat := match r with | .ok (.d (.int i)) _ => i.toNat | _ => 0
def lsD (r : R Val) : List D := match r with | .ok (.d (.lst ds)) _ => ds | _ => []
def nxE (f : F) : Pd.Env := match f with | .nx Γ _ => Γ | _ => []
def nxS (f : F) : Store := match f with | .nx _ S => S | _ => []
def slotE (f : F) (j : Nat) : Option Val := match (nxE f)[j]? with | some x => x | none => none
def optV (v : D) (W : List D) : List (D × D) := (v, D.bl false) :: W.map fun d => (d, D.bl true)
def optP (L W : List D) : List (D × D) := (L.map fun d => (d, D.bl false)) ++ W.map fun d => (d, D.bl true)
def optR (n : Nat) (W : List D) : List (D × D) := ((List.range n).map fun i => (D.int (i : Nat), D.bl false)) ++ W.map fun d => (d, D.bl true)
def valD (v : Option Val) : D := match v with | some (.d d) => d | _ => .non
def slotD (f : F) (j : Nat) : D := match (nxE f)[j]? with | some (some (.d d)) => d | _ => .non
def cellL (f : F) (k : Nat) : List D := match (nxS f)[k]? with | some (some (.lst ds)) => ds | _ => []
def rollL (n : Nat) : List D := (List.range n).map fun i => D.int (i : Nat)
def okL (L : List D) : Bool := Nat.ble 1 L.length && Nat.ble L.length 1000
def okV (_ : D) : Bool := true
def okN (n : Nat) : Bool := Nat.ble 1 n && Nat.ble n 1000
theorem okL_ne {L : List D} (h : okL L = true) : L ≠ [] ∧ L.length ≤ 1000 := by
  unfold okL at h
  simp only [Bool.and_eq_true, Nat.ble_eq] at h
  refine ⟨fun z => ?_, h.2⟩
  rw [z] at h
  simp at h
theorem law_one_ex (a b c : Int) (v : D) (W : List D) (T : Store) (hW : okL W = true) : ∃ o ∈ optV v W, ∃ a' c', d__law_one [.cell 0, .d v, .d (.lst W)] (dice a b c :: T) = .ok (.d (.tup [o.1, o.2])) (dice a' b c' :: T) := by
  obtain ⟨h1, h2⟩ := okL_ne hW
  obtain ⟨r, a1, c1, r0, r1, e⟩ := roll_ex a b c 3 T (by decide) (divOk_l (by decide) (by decide))
  have ec : cap = 1000000 := rfl
  by_cases hr : r > 0
  · refine ⟨(v, .bl false), List.mem_cons_self, a1, c1, ?_⟩
    unfold d__law_one
    simp only [funD, finF, fin, sNil, sSeq, sEx, sRet, sRetN, sAsg, sNew, sIf, sAsgT, sPar, sFrz, sRetC, sNever, sBrk, sCont, sFor, eVar, eC, eBin, eUn, eTest, eAnd, eOr, eNot, eIf, eChain, eNil, eCons, eCall, eSl, eoN, eoS, eApp, eExt, ePop, sSet, itV, itR1, itR2, itEn, itZ, eLc, asB, clo, fTup, fLst, fAddL, fMulL, fI, fAdd, fSub, fMul, fDiv, fMod, fPow, fNeg, fLt, fLe, fGt, fGe, fEq, fNe, fIx, fIsN, fNotN, Pd.isNon, fLen, fAbs, fInt, fTuple, fList, fSum, fAll, fAny, fMax2, fMin2, isiD, fIsi, fSl, fRev, fSorted, fRepr, rd, R.bind, R.fl, F.lp, noX, tYesD, lcY, tgN, tgsNil, tgsCons, tgT, wipeE, keepB, List.map_cons, List.map_nil, List.replicate_succ, List.replicate_zero, List.cons_append, List.nil_append, List.append_nil, List.length_cons, List.length_nil, List.length_append, List.getElem?_cons_zero, List.getElem?_cons_succ, List.getElem?_nil, List.set_cons_zero, List.set_cons_succ, List.take_zero, List.take_succ_cons, List.take_nil, Option.map_some, Option.map_none, Option.bind_some, Option.bind_none, Nat.zero_add, Nat.add_zero, Nat.reduceAdd, Nat.reduceLeDiff, Nat.reduceSub, Nat.reduceEqDiff, Int.reduceLT, Int.reduceLE, Int.reduceEq, Int.reduceNeg, Int.reduceAdd, Int.reduceSub, Int.reduceMul, decide_true, decide_false, ↓reduceIte, decide_eq_true_eq, Bool.not_eq_true', decide_eq_false_iff_not, Bool.false_eq_true, Bool.true_eq_false, Bool.not_true, Bool.not_false, true_and, and_true, and_self, false_and, and_false, e, hr]
    simp [cap]
  · obtain ⟨d, a2, c2, hd, e2⟩ := pick_ex a1 b c1 W T h1 h2
    refine ⟨(d, .bl true), List.mem_cons_of_mem _ (List.mem_map.mpr ⟨d, hd, rfl⟩), a2, c2, ?_⟩
    unfold d__law_one
    simp only [funD, finF, fin, sNil, sSeq, sEx, sRet, sRetN, sAsg, sNew, sIf, sAsgT, sPar, sFrz, sRetC, sNever, sBrk, sCont, sFor, eVar, eC, eBin, eUn, eTest, eAnd, eOr, eNot, eIf, eChain, eNil, eCons, eCall, eSl, eoN, eoS, eApp, eExt, ePop, sSet, itV, itR1, itR2, itEn, itZ, eLc, asB, clo, fTup, fLst, fAddL, fMulL, fI, fAdd, fSub, fMul, fDiv, fMod, fPow, fNeg, fLt, fLe, fGt, fGe, fEq, fNe, fIx, fIsN, fNotN, Pd.isNon, fLen, fAbs, fInt, fTuple, fList, fSum, fAll, fAny, fMax2, fMin2, isiD, fIsi, fSl, fRev, fSorted, fRepr, rd, R.bind, R.fl, F.lp, noX, tYesD, lcY, tgN, tgsNil, tgsCons, tgT, wipeE, keepB, List.map_cons, List.map_nil, List.replicate_succ, List.replicate_zero, List.cons_append, List.nil_append, List.append_nil, List.length_cons, List.length_nil, List.length_append, List.getElem?_cons_zero, List.getElem?_cons_succ, List.getElem?_nil, List.set_cons_zero, List.set_cons_succ, List.take_zero, List.take_succ_cons, List.take_nil, Option.map_some, Option.map_none, Option.bind_some, Option.bind_none, Nat.zero_add, Nat.add_zero, Nat.reduceAdd, Nat.reduceLeDiff, Nat.reduceSub, Nat.reduceEqDiff, Int.reduceLT, Int.reduceLE, Int.reduceEq, Int.reduceNeg, Int.reduceAdd, Int.reduceSub, Int.reduceMul, decide_true, decide_false, ↓reduceIte, decide_eq_true_eq, Bool.not_eq_true', decide_eq_false_iff_not, Bool.false_eq_true, Bool.true_eq_false, Bool.not_true, Bool.not_false, true_and, and_true, and_self, false_and, and_false, e, hr, e2]
    simp [cap]
section
variable {a a' b r r' e e' t t' l w : Ev} {Γ : Pd.Env} {S S' S1 T : Store}
theorem lk_call {f : List Val → Store → R Val} {r r' : Pd.Env → Store → R (List Val)} (h : r Γ S = r' Γ S') : eCall f r Γ S = eCall f r' Γ S' := by unfold eCall; rw [h]
theorem lk_cons1 {r : Pd.Env → Store → R (List Val)} (h : a Γ S = a' Γ S') : eCons a r Γ S = eCons a' r Γ S' := by unfold eCons; rw [h]
theorem lk_cons2 {x : Val} {r r' : Pd.Env → Store → R (List Val)} (h1 : a Γ S = .ok x S) (h2 : a Γ S' = .ok x S') (h : r Γ S = r' Γ S') : eCons a r Γ S = eCons a r' Γ S' := by
  unfold eCons
  rw [h1, h2]
  show (r Γ S).bind _ = (r' Γ S').bind _
  rw [h]
theorem lk_bin1 {f : Val → Val → Store → R Val} (h : a Γ S = a' Γ S') : eBin f a b Γ S = eBin f a' b Γ S' := by unfold eBin; rw [h]
theorem lk_bin2 {x : Val} {f : Val → Val → Store → R Val} (h1 : a Γ S = .ok x S) (h2 : a Γ S' = .ok x S') (h : r Γ S = r' Γ S') : eBin f a r Γ S = eBin f a r' Γ S' := by
  unfold eBin
  rw [h1, h2]
  show (r Γ S).bind _ = (r' Γ S').bind _
  rw [h]
theorem lk_un {f : Val → Store → R Val} (h : a Γ S = a' Γ S') : eUn f a Γ S = eUn f a' Γ S' := by unfold eUn; rw [h]
theorem lk_and (h : a Γ S = a' Γ S') : eAnd a b Γ S = eAnd a' b Γ S' := by unfold eAnd eTest; rw [h]
theorem lk_or (h : a Γ S = a' Γ S') : eOr a b Γ S = eOr a' b Γ S' := by unfold eOr eTest; rw [h]
theorem lk_not (h : a Γ S = a' Γ S') : eNot a Γ S = eNot a' Γ S' := by unfold eNot eTest; rw [h]
theorem lk_eif (h : t Γ S = t' Γ S') : eIf t a b Γ S = eIf t' a b Γ S' := by unfold eIf eTest; rw [h]
theorem lk_asg {i : Nat} (h : a Γ S = a' Γ S') : sAsg i a Γ S = sAsg i a' Γ S' := by unfold sAsg; rw [h]
theorem lk_asgT {tg : Tg} (h : a Γ S = a' Γ S') : sAsgT tg a Γ S = sAsgT tg a' Γ S' := by unfold sAsgT; rw [h]
theorem lk_new {i : Nat} (h : a Γ S = a' Γ S') : sNew i a Γ S = sNew i a' Γ S' := by unfold sNew; rw [h]
theorem lk_if {x y : Sv} (h : a Γ S = a' Γ S') : sIf a x y Γ S = sIf a' x y Γ S' := by unfold sIf eTest; rw [h]
theorem lk_ret (h : a Γ S = a' Γ S') : sRet a Γ S = sRet a' Γ S' := by unfold sRet; rw [h]
theorem lk_par1 {i j : Nat} (h : a Γ S = a' Γ S') : sPar i j a b Γ S = sPar i j a' b Γ S' := by unfold sPar; rw [h]
theorem sq_fin {n : Nat} {x y : Sv} {Γ1 : Pd.Env} {q : R Val} (h : x Γ S = .nx Γ1 S1) (k : finF n (y Γ1 S1) = q) : finF n (sSeq x y Γ S) = q := by unfold sSeq; rw [h]; exact k
theorem ret_call {n : Nat} {f : List Val → Store → R Val} {r : Pd.Env → Store → R (List Val)} {xs : List Val} {v : D} (h : r Γ S = .ok xs S) (k : f xs S = .ok (.d v) S1) : finF n (sRet (eCall f r) Γ S) = .ok (.d v) (S1.take n) := by
  have q : sRet (eCall f r) Γ S = .rt (.d v) S1 := by
    unfold sRet eCall
    rw [h]
    show (f xs S).fl Γ _ = _
    rw [k]
    rfl
  rw [q]
  rfl
variable {a b c : Int}
theorem var_cell (hd : Γ[0]? = some (some (.cell 0))) (S : Store) : eVar 0 Γ S = .ok (.cell 0) S := by
  unfold eVar
  rw [hd]
theorem pick_at {L : List D} (hd : Γ[0]? = some (some (.cell 0))) (hl : ∀ a b c, l Γ (dice a b c :: T) = .ok (.d (.lst L)) (dice a b c :: T)) (hc : okL L = true) :
    ∃ o ∈ L, ∃ a' c', eCall d__law_pick (eCons (eVar 0) (eCons l eNil)) Γ (dice a b c :: T) = eC o Γ (dice a' b c' :: T) := by
  obtain ⟨h3, h4⟩ := okL_ne hc
  obtain ⟨d, a1, c1', hd1, e1⟩ := pick_ex a b c L T h3 h4
  exact ⟨d, hd1, a1, c1', c2 (var_cell hd _) (hl _ _ _) e1⟩
theorem roll_at {n : Nat} (hd : Γ[0]? = some (some (.cell 0))) (hl : ∀ a b c, l Γ (dice a b c :: T) = .ok (.d (.int (n : Nat))) (dice a b c :: T)) (hc : okN n = true) :
    ∃ o ∈ rollL n, ∃ a' c', eCall d__law_roll (eCons (eVar 0) (eCons l eNil)) Γ (dice a b c :: T) = eC o Γ (dice a' b c' :: T) := by
  unfold okN at hc
  simp only [Bool.and_eq_true, Nat.ble_eq] at hc
  obtain ⟨r, a1, c1', r0, r1, e1⟩ := roll_ex a b c n T (by omega) (divOk_l (by omega) (by omega))
  obtain ⟨m, rfl⟩ : ∃ m : Nat, r = m := ⟨r.toNat, by omega⟩
  exact ⟨.int (m : Nat), List.mem_map.mpr ⟨m, List.mem_range.mpr (by omega), rfl⟩, a1, c1', c2 (var_cell hd _) (hl _ _ _) e1⟩
theorem one_at_val {v : D} {W : List D} (hd : Γ[0]? = some (some (.cell 0))) (hl : ∀ a b c, l Γ (dice a b c :: T) = .ok (.d v) (dice a b c :: T)) (hw : ∀ a b c, w Γ (dice a b c :: T) = .ok (.d (.lst W)) (dice a b c :: T)) (hc : (okV v && okL W) = true) :
    ∃ o ∈ optV v W, ∃ a' c', eCall d__law_one (eCons (eVar 0) (eCons l (eCons w eNil))) Γ (dice a b c :: T) = eC (.tup [o.1, o.2]) Γ (dice a' b c' :: T) := by
  obtain ⟨o, ho, a1, c1, e⟩ := law_one_ex a b c v W T (Bool.and_eq_true_iff.mp hc).2
  exact ⟨o, ho, a1, c1, c3 (var_cell hd _) (hl _ _ _) (hw _ _ _) e⟩
theorem one_at_pick {L W : List D} (hd : Γ[0]? = some (some (.cell 0))) (hl : ∀ a b c, l Γ (dice a b c :: T) = .ok (.d (.lst L)) (dice a b c :: T)) (hw : ∀ a b c, w Γ (dice a b c :: T) = .ok (.d (.lst W)) (dice a b c :: T)) (hc : (okL L && okL W) = true) :
    ∃ o ∈ optP L W, ∃ a' c', eCall d__law_one (eCons (eVar 0) (eCons (eCall d__law_pick (eCons (eVar 0) (eCons l eNil))) (eCons w eNil))) Γ (dice a b c :: T) = eC (.tup [o.1, o.2]) Γ (dice a' b c' :: T) := by
  obtain ⟨h1, h2⟩ := Bool.and_eq_true_iff.mp hc
  obtain ⟨h3, h4⟩ := okL_ne h1
  obtain ⟨d, a1, c1', hd1, e1⟩ := pick_ex a b c L T h3 h4
  obtain ⟨o, ho, a2, c2', e2⟩ := law_one_ex a1 b c1' d W T h2
  refine ⟨o, ?_, a2, c2', c3 (var_cell hd _) (c2 (var_cell hd _) (hl _ _ _) e1) (hw _ _ _) e2⟩
  unfold optP
  rcases List.mem_cons.mp ho with z | z
  · exact List.mem_append_left _ (List.mem_map.mpr ⟨d, hd1, z.symm⟩)
  · exact List.mem_append_right _ z
theorem one_at_roll {n : Nat} {W : List D} (hd : Γ[0]? = some (some (.cell 0))) (hl : ∀ a b c, l Γ (dice a b c :: T) = .ok (.d (.int (n : Nat))) (dice a b c :: T)) (hw : ∀ a b c, w Γ (dice a b c :: T) = .ok (.d (.lst W)) (dice a b c :: T)) (hc : (okN n && okL W) = true) :
    ∃ o ∈ optR n W, ∃ a' c', eCall d__law_one (eCons (eVar 0) (eCons (eCall d__law_roll (eCons (eVar 0) (eCons l eNil))) (eCons w eNil))) Γ (dice a b c :: T) = eC (.tup [o.1, o.2]) Γ (dice a' b c' :: T) := by
  obtain ⟨h1, h2⟩ := Bool.and_eq_true_iff.mp hc
  unfold okN at h1
  simp only [Bool.and_eq_true, Nat.ble_eq] at h1
  obtain ⟨r, a1, c1', r0, r1, e1⟩ := roll_ex a b c n T (by omega) (divOk_l (by omega) (by omega))
  obtain ⟨m, rfl⟩ : ∃ m : Nat, r = m := ⟨r.toNat, by omega⟩
  obtain ⟨o, ho, a2, c2', e2⟩ := law_one_ex a1 b c1' (.int (m : Nat)) W T h2
  refine ⟨o, ?_, a2, c2', c3 (var_cell hd _) (c2 (var_cell hd _) (hl _ _ _) e1) (hw _ _ _) e2⟩
  unfold optR
  rcases List.mem_cons.mp ho with z | z
  · exact List.mem_append_left _ (List.mem_map.mpr ⟨m, List.mem_range.mpr (by omega), z.symm⟩)
  · exact List.mem_append_right _ z
end
end L16


namespace L16
open PySem L2 Pd Pq
def right_v0_1  : D := slotD ((sAsg 1 (eCall fLst (eCons (eC .non) (eCons (eC (.int 5)) (eCons (eCall fLst eNil) (eCons (eCall fTup eNil) (eCons (eCall fLst (eCons (eC (.int 1)) (eCons (eC (.int 2)) eNil))) (eCons (eBin fMul (eCall fTup (eCons (eC (.int 1)) eNil)) (eC (.int 9))) (eCons (eCall fTup (eCons (eUn fNeg (eC (.int 1))) (eCons (eC (.int 2)) eNil))) (eCons (eCall fTup (eCons (eC (.bl true)) (eCons (eC (.int 1)) eNil))) (eCons (eCall fTup (eCons (eC (.str "1")) (eCons (eC (.int 1)) eNil))) (eCons (eCall fTup (eCons (eBin fPow (eC (.int 10)) (eC (.int 64))) (eCons (eC (.int 1)) eNil))) (eCons (eCall fTup (eCons (eCall fTup (eCons (eC (.int 1)) eNil)) eNil)) (eCons (eC (.str "12")) eNil)))))))))))))) [some (.cell 0), none, none, none, none, none, none, none, none, none, none, none, none, none, none, none, none, none, none] (dice 0 0 0 :: [])) 1
theorem right_s0_k (a b c : Int) : (sAsg 1 (eCall fLst (eCons (eC .non) (eCons (eC (.int 5)) (eCons (eCall fLst eNil) (eCons (eCall fTup eNil) (eCons (eCall fLst (eCons (eC (.int 1)) (eCons (eC (.int 2)) eNil))) (eCons (eBin fMul (eCall fTup (eCons (eC (.int 1)) eNil)) (eC (.int 9))) (eCons (eCall fTup (eCons (eUn fNeg (eC (.int 1))) (eCons (eC (.int 2)) eNil))) (eCons (eCall fTup (eCons (eC (.bl true)) (eCons (eC (.int 1)) eNil))) (eCons (eCall fTup (eCons (eC (.str "1")) (eCons (eC (.int 1)) eNil))) (eCons (eCall fTup (eCons (eBin fPow (eC (.int 10)) (eC (.int 64))) (eCons (eC (.int 1)) eNil))) (eCons (eCall fTup (eCons (eCall fTup (eCons (eC (.int 1)) eNil)) eNil)) (eCons (eC (.str "12")) eNil)))))))))))))) [some (.cell 0), none, none, none, none, none, none, none, none, none, none, none, none, none, none, none, none, none, none] (dice a b c :: []) = .nx [some (.cell 0), some (.d right_v0_1), none, none, none, none, none, none, none, none, none, none, none, none, none, none, none, none, none] (dice a b c :: []) := by kernel_rfl
theorem right_s0 (a b c : Int)   : (sAsg 1 (eCall fLst (eCons (eC .non) (eCons (eC (.int 5)) (eCons (eCall fLst eNil) (eCons (eCall fTup eNil) (eCons (eCall fLst (eCons (eC (.int 1)) (eCons (eC (.int 2)) eNil))) (eCons (eBin fMul (eCall fTup (eCons (eC (.int 1)) eNil)) (eC (.int 9))) (eCons (eCall fTup (eCons (eUn fNeg (eC (.int 1))) (eCons (eC (.int 2)) eNil))) (eCons (eCall fTup (eCons (eC (.bl true)) (eCons (eC (.int 1)) eNil))) (eCons (eCall fTup (eCons (eC (.str "1")) (eCons (eC (.int 1)) eNil))) (eCons (eCall fTup (eCons (eBin fPow (eC (.int 10)) (eC (.int 64))) (eCons (eC (.int 1)) eNil))) (eCons (eCall fTup (eCons (eCall fTup (eCons (eC (.int 1)) eNil)) eNil)) (eCons (eC (.str "12")) eNil)))))))))))))) [some (.cell 0), none, none, none, none, none, none, none, none, none, none, none, none, none, none, none, none, none, none] (dice a b c :: []) = .nx [some (.cell 0), some (.d right_v0_1), none, none, none, none, none, none, none, none, none, none, none, none, none, none, none, none, none] (dice a b c :: []) := right_s0_k a b c
def right_v1_2  : D := slotD ((sAsg 2 (eBin fPow (eC (.int 10)) (eC (.int 64)))) [some (.cell 0), some (.d .non), none, none, none, none, none, none, none, none, none, none, none, none, none, none, none, none, none] (dice 0 0 0 :: [])) 2
theorem right_s1_k (a b c : Int) (u1 : D) : (sAsg 2 (eBin fPow (eC (.int 10)) (eC (.int 64)))) [some (.cell 0), some (.d u1), none, none, none, none, none, none, none, none, none, none, none, none, none, none, none, none, none] (dice a b c :: []) = .nx [some (.cell 0), some (.d u1), some (.d right_v1_2), none, none, none, none, none, none, none, none, none, none, none, none, none, none, none, none] (dice a b c :: []) := by kernel_rfl
theorem right_s1 (a b c : Int) (u1 : D)   : (sAsg 2 (eBin fPow (eC (.int 10)) (eC (.int 64)))) [some (.cell 0), some (.d u1), none, none, none, none, none, none, none, none, none, none, none, none, none, none, none, none, none] (dice a b c :: []) = .nx [some (.cell 0), some (.d u1), some (.d right_v1_2), none, none, none, none, none, none, none, none, none, none, none, none, none, none, none, none] (dice a b c :: []) := right_s1_k a b c u1
def right_x2  : List D := lsD ((eCall fLst (eCons (eCall fTup (eCons (eC (.int 2)) (eCons (eC (.int 0)) (eCons (eC (.int 1)) eNil)))) (eCons (eCall fTup (eCons (eC (.int 0)) (eCons (eC (.int 0)) (eCons (eC (.int 0)) eNil)))) (eCons (eCall fTup (eCons (eC (.int 1)) (eCons (eC (.int 3)) (eCons (eC (.int 0)) eNil)))) eNil)))) [some (.cell 0), some (.d .non), some (.d .non), none, none, none, none, none, none, none, none, none, none, none, none, none, none, none, none] (dice 0 0 0 :: []))
theorem right_p2_k (u1 u2 : D) (a b c : Int) : (eCall fLst (eCons (eCall fTup (eCons (eC (.int 2)) (eCons (eC (.int 0)) (eCons (eC (.int 1)) eNil)))) (eCons (eCall fTup (eCons (eC (.int 0)) (eCons (eC (.int 0)) (eCons (eC (.int 0)) eNil)))) (eCons (eCall fTup (eCons (eC (.int 1)) (eCons (eC (.int 3)) (eCons (eC (.int 0)) eNil)))) eNil)))) [some (.cell 0), some (.d u1), some (.d u2), none, none, none, none, none, none, none, none, none, none, none, none, none, none, none, none] (dice a b c :: []) = .ok (.d (.lst right_x2)) (dice a b c :: []) := by kernel_rfl
theorem right_p2 (u1 u2 : D) (a b c : Int)   : (eCall fLst (eCons (eCall fTup (eCons (eC (.int 2)) (eCons (eC (.int 0)) (eCons (eC (.int 1)) eNil)))) (eCons (eCall fTup (eCons (eC (.int 0)) (eCons (eC (.int 0)) (eCons (eC (.int 0)) eNil)))) (eCons (eCall fTup (eCons (eC (.int 1)) (eCons (eC (.int 3)) (eCons (eC (.int 0)) eNil)))) eNil)))) [some (.cell 0), some (.d u1), some (.d u2), none, none, none, none, none, none, none, none, none, none, none, none, none, none, none, none] (dice a b c :: []) = .ok (.d (.lst right_x2)) (dice a b c :: []) := right_p2_k u1 u2 a b c
def right_x3  : List D := lsD ((eVar 1) [some (.cell 0), some (.d right_v0_1), some (.d .non), none, none, none, none, none, none, none, none, none, none, none, none, none, none, none, none] (dice 0 0 0 :: []))
theorem right_p3_k (u2 : D) (a b c : Int) : (eVar 1) [some (.cell 0), some (.d right_v0_1), some (.d u2), none, none, none, none, none, none, none, none, none, none, none, none, none, none, none, none] (dice a b c :: []) = .ok (.d (.lst right_x3)) (dice a b c :: []) := by kernel_rfl
theorem right_p3 (u2 : D) (a b c : Int)   : (eVar 1) [some (.cell 0), some (.d right_v0_1), some (.d u2), none, none, none, none, none, none, none, none, none, none, none, none, none, none, none, none] (dice a b c :: []) = .ok (.d (.lst right_x3)) (dice a b c :: []) := right_p3_k u2 a b c
def right_o1  : List (D × D) := optP right_x2 right_x3
theorem right_c4_k  : (okL right_x2 && okL right_x3) = true := by kernel_rfl
theorem right_c4    : (okL right_x2 && okL right_x3) = true := right_c4_k 
def right_v2_5 (o1 : D × D) : D := slotD ((sAsgT (tgT (tgsCons (tgN 5) (tgsCons (tgN 6) tgsNil))) (eC (.tup [o1.1, o1.2]))) [some (.cell 0), some (.d .non), some (.d .non), none, none, none, none, none, none, none, none, none, none, none, none, none, none, none, none] (dice 0 0 0 :: [])) 5
def right_v2_6 (o1 : D × D) : D := slotD ((sAsgT (tgT (tgsCons (tgN 5) (tgsCons (tgN 6) tgsNil))) (eC (.tup [o1.1, o1.2]))) [some (.cell 0), some (.d .non), some (.d .non), none, none, none, none, none, none, none, none, none, none, none, none, none, none, none, none] (dice 0 0 0 :: [])) 6
theorem right_s2_k (a b c : Int) (u1 u2 : D) : ((right_o1).map fun o1 => (sAsgT (tgT (tgsCons (tgN 5) (tgsCons (tgN 6) tgsNil))) (eC (.tup [o1.1, o1.2]))) [some (.cell 0), some (.d u1), some (.d u2), none, none, none, none, none, none, none, none, none, none, none, none, none, none, none, none] (dice a b c :: [])) = ((right_o1).map fun o1 => .nx [some (.cell 0), some (.d u1), some (.d u2), none, none, some (.d (right_v2_5 o1)), some (.d (right_v2_6 o1)), none, none, none, none, none, none, none, none, none, none, none, none] (dice a b c :: [])) := by kernel_rfl
theorem right_s2 (a b c : Int) (u1 u2 : D) {o1 : D × D} (m1 : o1 ∈ right_o1) : (sAsgT (tgT (tgsCons (tgN 5) (tgsCons (tgN 6) tgsNil))) (eC (.tup [o1.1, o1.2]))) [some (.cell 0), some (.d u1), some (.d u2), none, none, none, none, none, none, none, none, none, none, none, none, none, none, none, none] (dice a b c :: []) = .nx [some (.cell 0), some (.d u1), some (.d u2), none, none, some (.d (right_v2_5 o1)), some (.d (right_v2_6 o1)), none, none, none, none, none, none, none, none, none, none, none, none] (dice a b c :: []) := List.map_inj_left.mp (right_s2_k a b c u1 u2) _ m1
def right_v3_3  : D := slotD ((sAsg 3 (eC (.int 3))) [some (.cell 0), some (.d .non), some (.d .non), none, none, some (.d .non), some (.d .non), none, none, none, none, none, none, none, none, none, none, none, none] (dice 0 0 0 :: [])) 3
theorem right_s3_k (a b c : Int) (u1 u2 u5 u6 : D) : (sAsg 3 (eC (.int 3))) [some (.cell 0), some (.d u1), some (.d u2), none, none, some (.d u5), some (.d u6), none, none, none, none, none, none, none, none, none, none, none, none] (dice a b c :: []) = .nx [some (.cell 0), some (.d u1), some (.d u2), some (.d right_v3_3), none, some (.d u5), some (.d u6), none, none, none, none, none, none, none, none, none, none, none, none] (dice a b c :: []) := by kernel_rfl
theorem right_s3 (a b c : Int) (u1 u2 u5 u6 : D)   : (sAsg 3 (eC (.int 3))) [some (.cell 0), some (.d u1), some (.d u2), none, none, some (.d u5), some (.d u6), none, none, none, none, none, none, none, none, none, none, none, none] (dice a b c :: []) = .nx [some (.cell 0), some (.d u1), some (.d u2), some (.d right_v3_3), none, some (.d u5), some (.d u6), none, none, none, none, none, none, none, none, none, none, none, none] (dice a b c :: []) := right_s3_k a b c u1 u2 u5 u6
def right_x6  : Nat := okI ((eVar 3) [some (.cell 0), some (.d .non), some (.d .non), some (.d right_v3_3), none, some (.d .non), some (.d .non), none, none, none, none, none, none, none, none, none, none, none, none] (dice 0 0 0 :: []))
theorem right_p6_k (u1 u2 u5 u6 : D) (a b c : Int) : (eVar 3) [some (.cell 0), some (.d u1), some (.d u2), some (.d right_v3_3), none, some (.d u5), some (.d u6), none, none, none, none, none, none, none, none, none, none, none, none] (dice a b c :: []) = .ok (.d (.int (right_x6 : Nat))) (dice a b c :: []) := by kernel_rfl
theorem right_p6 (u1 u2 u5 u6 : D) (a b c : Int)   : (eVar 3) [some (.cell 0), some (.d u1), some (.d u2), some (.d right_v3_3), none, some (.d u5), some (.d u6), none, none, none, none, none, none, none, none, none, none, none, none] (dice a b c :: []) = .ok (.d (.int (right_x6 : Nat))) (dice a b c :: []) := right_p6_k u1 u2 u5 u6 a b c
def right_x7  : List D := lsD ((eCall fLst (eCons (eUn fNeg (eC (.int 1))) (eCons (eC (.int 3)) (eCons (eC .non) (eCons (eC (.bl true)) (eCons (eC (.str "0")) (eCons (eVar 2) eNil))))))) [some (.cell 0), some (.d .non), some (.d right_v1_2), some (.d .non), none, some (.d .non), some (.d .non), none, none, none, none, none, none, none, none, none, none, none, none] (dice 0 0 0 :: []))
theorem right_p7_k (u1 u3 u5 u6 : D) (a b c : Int) : (eCall fLst (eCons (eUn fNeg (eC (.int 1))) (eCons (eC (.int 3)) (eCons (eC .non) (eCons (eC (.bl true)) (eCons (eC (.str "0")) (eCons (eVar 2) eNil))))))) [some (.cell 0), some (.d u1), some (.d right_v1_2), some (.d u3), none, some (.d u5), some (.d u6), none, none, none, none, none, none, none, none, none, none, none, none] (dice a b c :: []) = .ok (.d (.lst right_x7)) (dice a b c :: []) := by kernel_rfl
theorem right_p7 (u1 u3 u5 u6 : D) (a b c : Int)   : (eCall fLst (eCons (eUn fNeg (eC (.int 1))) (eCons (eC (.int 3)) (eCons (eC .non) (eCons (eC (.bl true)) (eCons (eC (.str "0")) (eCons (eVar 2) eNil))))))) [some (.cell 0), some (.d u1), some (.d right_v1_2), some (.d u3), none, some (.d u5), some (.d u6), none, none, none, none, none, none, none, none, none, none, none, none] (dice a b c :: []) = .ok (.d (.lst right_x7)) (dice a b c :: []) := right_p7_k u1 u3 u5 u6 a b c
def right_o5  : List (D × D) := optR right_x6 right_x7
theorem right_c8_k  : (okN right_x6 && okL right_x7) = true := by kernel_rfl
theorem right_c8    : (okN right_x6 && okL right_x7) = true := right_c8_k 
def right_v4_7 (o5 : D × D) : D := slotD ((sAsgT (tgT (tgsCons (tgN 7) (tgsCons (tgN 8) tgsNil))) (eC (.tup [o5.1, o5.2]))) [some (.cell 0), some (.d .non), some (.d .non), some (.d .non), none, some (.d .non), some (.d .non), none, none, none, none, none, none, none, none, none, none, none, none] (dice 0 0 0 :: [])) 7
def right_v4_8 (o5 : D × D) : D := slotD ((sAsgT (tgT (tgsCons (tgN 7) (tgsCons (tgN 8) tgsNil))) (eC (.tup [o5.1, o5.2]))) [some (.cell 0), some (.d .non), some (.d .non), some (.d .non), none, some (.d .non), some (.d .non), none, none, none, none, none, none, none, none, none, none, none, none] (dice 0 0 0 :: [])) 8
theorem right_s4_k (a b c : Int) (u1 u2 u3 u5 u6 : D) : ((right_o5).map fun o5 => (sAsgT (tgT (tgsCons (tgN 7) (tgsCons (tgN 8) tgsNil))) (eC (.tup [o5.1, o5.2]))) [some (.cell 0), some (.d u1), some (.d u2), some (.d u3), none, some (.d u5), some (.d u6), none, none, none, none, none, none, none, none, none, none, none, none] (dice a b c :: [])) = ((right_o5).map fun o5 => .nx [some (.cell 0), some (.d u1), some (.d u2), some (.d u3), none, some (.d u5), some (.d u6), some (.d (right_v4_7 o5)), some (.d (right_v4_8 o5)), none, none, none, none, none, none, none, none, none, none] (dice a b c :: [])) := by kernel_rfl
theorem right_s4 (a b c : Int) (u1 u2 u3 u5 u6 : D) {o5 : D × D} (m5 : o5 ∈ right_o5) : (sAsgT (tgT (tgsCons (tgN 7) (tgsCons (tgN 8) tgsNil))) (eC (.tup [o5.1, o5.2]))) [some (.cell 0), some (.d u1), some (.d u2), some (.d u3), none, some (.d u5), some (.d u6), none, none, none, none, none, none, none, none, none, none, none, none] (dice a b c :: []) = .nx [some (.cell 0), some (.d u1), some (.d u2), some (.d u3), none, some (.d u5), some (.d u6), some (.d (right_v4_7 o5)), some (.d (right_v4_8 o5)), none, none, none, none, none, none, none, none, none, none] (dice a b c :: []) := List.map_inj_left.mp (right_s4_k a b c u1 u2 u3 u5 u6) _ m5
def right_x10  : List D := lsD ((eCall fLst (eCons (eC (.int 0)) (eCons (eC (.int 1)) (eCons (eC (.int 2)) (eCons (eC (.int 3)) (eCons (eC (.int 4)) eNil)))))) [some (.cell 0), some (.d .non), some (.d .non), some (.d .non), none, some (.d .non), some (.d .non), some (.d .non), some (.d .non), none, none, none, none, none, none, none, none, none, none] (dice 0 0 0 :: []))
theorem right_p10_k (u1 u2 u3 u5 u6 u7 u8 : D) (a b c : Int) : (eCall fLst (eCons (eC (.int 0)) (eCons (eC (.int 1)) (eCons (eC (.int 2)) (eCons (eC (.int 3)) (eCons (eC (.int 4)) eNil)))))) [some (.cell 0), some (.d u1), some (.d u2), some (.d u3), none, some (.d u5), some (.d u6), some (.d u7), some (.d u8), none, none, none, none, none, none, none, none, none, none] (dice a b c :: []) = .ok (.d (.lst right_x10)) (dice a b c :: []) := by kernel_rfl
theorem right_p10 (u1 u2 u3 u5 u6 u7 u8 : D) (a b c : Int)   : (eCall fLst (eCons (eC (.int 0)) (eCons (eC (.int 1)) (eCons (eC (.int 2)) (eCons (eC (.int 3)) (eCons (eC (.int 4)) eNil)))))) [some (.cell 0), some (.d u1), some (.d u2), some (.d u3), none, some (.d u5), some (.d u6), some (.d u7), some (.d u8), none, none, none, none, none, none, none, none, none, none] (dice a b c :: []) = .ok (.d (.lst right_x10)) (dice a b c :: []) := right_p10_k u1 u2 u3 u5 u6 u7 u8 a b c
def right_x11  : List D := lsD ((eCall fLst (eCons (eUn fNeg (eC (.int 1))) (eCons (eC .non) (eCons (eC (.bl false)) (eCons (eC (.str "1")) (eCons (eBin fAdd (eVar 2) (eC (.int 1))) eNil)))))) [some (.cell 0), some (.d .non), some (.d right_v1_2), some (.d .non), none, some (.d .non), some (.d .non), some (.d .non), some (.d .non), none, none, none, none, none, none, none, none, none, none] (dice 0 0 0 :: []))
theorem right_p11_k (u1 u3 u5 u6 u7 u8 : D) (a b c : Int) : (eCall fLst (eCons (eUn fNeg (eC (.int 1))) (eCons (eC .non) (eCons (eC (.bl false)) (eCons (eC (.str "1")) (eCons (eBin fAdd (eVar 2) (eC (.int 1))) eNil)))))) [some (.cell 0), some (.d u1), some (.d right_v1_2), some (.d u3), none, some (.d u5), some (.d u6), some (.d u7), some (.d u8), none, none, none, none, none, none, none, none, none, none] (dice a b c :: []) = .ok (.d (.lst right_x11)) (dice a b c :: []) := by kernel_rfl
theorem right_p11 (u1 u3 u5 u6 u7 u8 : D) (a b c : Int)   : (eCall fLst (eCons (eUn fNeg (eC (.int 1))) (eCons (eC .non) (eCons (eC (.bl false)) (eCons (eC (.str "1")) (eCons (eBin fAdd (eVar 2) (eC (.int 1))) eNil)))))) [some (.cell 0), some (.d u1), some (.d right_v1_2), some (.d u3), none, some (.d u5), some (.d u6), some (.d u7), some (.d u8), none, none, none, none, none, none, none, none, none, none] (dice a b c :: []) = .ok (.d (.lst right_x11)) (dice a b c :: []) := right_p11_k u1 u3 u5 u6 u7 u8 a b c
def right_o9  : List (D × D) := optP right_x10 right_x11
theorem right_c12_k  : (okL right_x10 && okL right_x11) = true := by kernel_rfl
theorem right_c12    : (okL right_x10 && okL right_x11) = true := right_c12_k 
def right_v5_9 (o9 : D × D) : D := slotD ((sAsgT (tgT (tgsCons (tgN 9) (tgsCons (tgN 10) tgsNil))) (eC (.tup [o9.1, o9.2]))) [some (.cell 0), some (.d .non), some (.d .non), some (.d .non), none, some (.d .non), some (.d .non), some (.d .non), some (.d .non), none, none, none, none, none, none, none, none, none, none] (dice 0 0 0 :: [])) 9
def right_v5_10 (o9 : D × D) : D := slotD ((sAsgT (tgT (tgsCons (tgN 9) (tgsCons (tgN 10) tgsNil))) (eC (.tup [o9.1, o9.2]))) [some (.cell 0), some (.d .non), some (.d .non), some (.d .non), none, some (.d .non), some (.d .non), some (.d .non), some (.d .non), none, none, none, none, none, none, none, none, none, none] (dice 0 0 0 :: [])) 10
theorem right_s5_k (a b c : Int) (u1 u2 u3 u5 u6 u7 u8 : D) : ((right_o9).map fun o9 => (sAsgT (tgT (tgsCons (tgN 9) (tgsCons (tgN 10) tgsNil))) (eC (.tup [o9.1, o9.2]))) [some (.cell 0), some (.d u1), some (.d u2), some (.d u3), none, some (.d u5), some (.d u6), some (.d u7), some (.d u8), none, none, none, none, none, none, none, none, none, none] (dice a b c :: [])) = ((right_o9).map fun o9 => .nx [some (.cell 0), some (.d u1), some (.d u2), some (.d u3), none, some (.d u5), some (.d u6), some (.d u7), some (.d u8), some (.d (right_v5_9 o9)), some (.d (right_v5_10 o9)), none, none, none, none, none, none, none, none] (dice a b c :: [])) := by kernel_rfl
theorem right_s5 (a b c : Int) (u1 u2 u3 u5 u6 u7 u8 : D) {o9 : D × D} (m9 : o9 ∈ right_o9) : (sAsgT (tgT (tgsCons (tgN 9) (tgsCons (tgN 10) tgsNil))) (eC (.tup [o9.1, o9.2]))) [some (.cell 0), some (.d u1), some (.d u2), some (.d u3), none, some (.d u5), some (.d u6), some (.d u7), some (.d u8), none, none, none, none, none, none, none, none, none, none] (dice a b c :: []) = .nx [some (.cell 0), some (.d u1), some (.d u2), some (.d u3), none, some (.d u5), some (.d u6), some (.d u7), some (.d u8), some (.d (right_v5_9 o9)), some (.d (right_v5_10 o9)), none, none, none, none, none, none, none, none] (dice a b c :: []) := List.map_inj_left.mp (right_s5_k a b c u1 u2 u3 u5 u6 u7 u8) _ m9
def right_y6_1 (o1 : D × D) (o5 : D × D) (o9 : D × D) : List D := cellL ((sNew 4 (eCall fLst (eCons (eCall fTup (eCons (eC (.str "operation")) (eCons (eVar 6) eNil))) (eCons (eCall fTup (eCons (eBin fAdd (eC (.str "count ")) (eUn fRepr (eVar 7))) (eCons (eVar 8) eNil))) (eCons (eCall fTup (eCons (eBin fAdd (eC (.str "count ")) (eUn fRepr (eVar 9))) (eCons (eVar 10) eNil))) eNil))))) [some (.cell 0), some (.d .non), some (.d .non), some (.d .non), none, some (.d .non), some (.d (right_v2_6 o1)), some (.d (right_v4_7 o5)), some (.d (right_v4_8 o5)), some (.d (right_v5_9 o9)), some (.d (right_v5_10 o9)), none, none, none, none, none, none, none, none] (dice 0 0 0 :: [])) 1
theorem right_s6_k (a b c : Int) (u1 u2 u3 u5 : D) : ((right_o1).map fun o1 => (right_o5).map fun o5 => (right_o9).map fun o9 => (sNew 4 (eCall fLst (eCons (eCall fTup (eCons (eC (.str "operation")) (eCons (eVar 6) eNil))) (eCons (eCall fTup (eCons (eBin fAdd (eC (.str "count ")) (eUn fRepr (eVar 7))) (eCons (eVar 8) eNil))) (eCons (eCall fTup (eCons (eBin fAdd (eC (.str "count ")) (eUn fRepr (eVar 9))) (eCons (eVar 10) eNil))) eNil))))) [some (.cell 0), some (.d u1), some (.d u2), some (.d u3), none, some (.d u5), some (.d (right_v2_6 o1)), some (.d (right_v4_7 o5)), some (.d (right_v4_8 o5)), some (.d (right_v5_9 o9)), some (.d (right_v5_10 o9)), none, none, none, none, none, none, none, none] (dice a b c :: [])) = ((right_o1).map fun o1 => (right_o5).map fun o5 => (right_o9).map fun o9 => .nx [some (.cell 0), some (.d u1), some (.d u2), some (.d u3), some (.cell 1), some (.d u5), some (.d (right_v2_6 o1)), some (.d (right_v4_7 o5)), some (.d (right_v4_8 o5)), some (.d (right_v5_9 o9)), some (.d (right_v5_10 o9)), none, none, none, none, none, none, none, none] (dice a b c :: some (.lst (right_y6_1 o1 o5 o9)) :: [])) := by kernel_rfl
theorem right_s6 (a b c : Int) (u1 u2 u3 u5 : D) {o1 : D × D} {o5 : D × D} {o9 : D × D} (m1 : o1 ∈ right_o1) (m5 : o5 ∈ right_o5) (m9 : o9 ∈ right_o9) : (sNew 4 (eCall fLst (eCons (eCall fTup (eCons (eC (.str "operation")) (eCons (eVar 6) eNil))) (eCons (eCall fTup (eCons (eBin fAdd (eC (.str "count ")) (eUn fRepr (eVar 7))) (eCons (eVar 8) eNil))) (eCons (eCall fTup (eCons (eBin fAdd (eC (.str "count ")) (eUn fRepr (eVar 9))) (eCons (eVar 10) eNil))) eNil))))) [some (.cell 0), some (.d u1), some (.d u2), some (.d u3), none, some (.d u5), some (.d (right_v2_6 o1)), some (.d (right_v4_7 o5)), some (.d (right_v4_8 o5)), some (.d (right_v5_9 o9)), some (.d (right_v5_10 o9)), none, none, none, none, none, none, none, none] (dice a b c :: []) = .nx [some (.cell 0), some (.d u1), some (.d u2), some (.d u3), some (.cell 1), some (.d u5), some (.d (right_v2_6 o1)), some (.d (right_v4_7 o5)), some (.d (right_v4_8 o5)), some (.d (right_v5_9 o9)), some (.d (right_v5_10 o9)), none, none, none, none, none, none, none, none] (dice a b c :: some (.lst (right_y6_1 o1 o5 o9)) :: []) := List.map_inj_left.mp (List.map_inj_left.mp (List.map_inj_left.mp (right_s6_k a b c u1 u2 u3 u5) _ m1) _ m5) _ m9
theorem right_s7_k (a b c : Int) (u1 u2 u3 u6 u8 u10 : D) : ((right_o1).map fun o1 => (right_o5).map fun o5 => (right_o9).map fun o9 => (sIf (eBin fNe (eMet metT "none" (eCall d_push_in (eCons (eVar 5) (eCons (eVar 7) (eCons (eVar 9) eNil))))) (eLend 4 (eCall d__law_first (eCons (eVar 4) eNil)))) (sRet (eC (.bl false))) sNil) [some (.cell 0), some (.d u1), some (.d u2), some (.d u3), some (.cell 1), some (.d (right_v2_5 o1)), some (.d u6), some (.d (right_v4_7 o5)), some (.d u8), some (.d (right_v5_9 o9)), some (.d u10), none, none, none, none, none, none, none, none] (dice a b c :: some (.lst (right_y6_1 o1 o5 o9)) :: [])) = ((right_o1).map fun o1 => (right_o5).map fun o5 => (right_o9).map fun o9 => .nx [some (.cell 0), some (.d u1), some (.d u2), some (.d u3), some (.cell 1), some (.d (right_v2_5 o1)), some (.d u6), some (.d (right_v4_7 o5)), some (.d u8), some (.d (right_v5_9 o9)), some (.d u10), none, none, none, none, none, none, none, none] (dice a b c :: some (.lst (right_y6_1 o1 o5 o9)) :: [])) := by kernel_rfl
theorem right_s7 (a b c : Int) (u1 u2 u3 u6 u8 u10 : D) {o1 : D × D} {o5 : D × D} {o9 : D × D} (m1 : o1 ∈ right_o1) (m5 : o5 ∈ right_o5) (m9 : o9 ∈ right_o9) : (sIf (eBin fNe (eMet metT "none" (eCall d_push_in (eCons (eVar 5) (eCons (eVar 7) (eCons (eVar 9) eNil))))) (eLend 4 (eCall d__law_first (eCons (eVar 4) eNil)))) (sRet (eC (.bl false))) sNil) [some (.cell 0), some (.d u1), some (.d u2), some (.d u3), some (.cell 1), some (.d (right_v2_5 o1)), some (.d u6), some (.d (right_v4_7 o5)), some (.d u8), some (.d (right_v5_9 o9)), some (.d u10), none, none, none, none, none, none, none, none] (dice a b c :: some (.lst (right_y6_1 o1 o5 o9)) :: []) = .nx [some (.cell 0), some (.d u1), some (.d u2), some (.d u3), some (.cell 1), some (.d (right_v2_5 o1)), some (.d u6), some (.d (right_v4_7 o5)), some (.d u8), some (.d (right_v5_9 o9)), some (.d u10), none, none, none, none, none, none, none, none] (dice a b c :: some (.lst (right_y6_1 o1 o5 o9)) :: []) := List.map_inj_left.mp (List.map_inj_left.mp (List.map_inj_left.mp (right_s7_k a b c u1 u2 u3 u6 u8 u10) _ m1) _ m5) _ m9
def right_y8_1 (o1 : D × D) (o5 : D × D) (o9 : D × D) : List D := cellL ((sIf (eBin fEq (eLend 4 (eCall d__law_first (eCons (eVar 4) eNil))) (eC (.str "none"))) (sEx (eApp (eVar 4) (eCall fTup (eCons (eC (.str "operation")) (eCons (eBin fLt (eUn fSum (eSl (eVar 5) eoN (eoS (eVar 7)))) (eVar 9)) eNil))))) sNil) [some (.cell 0), some (.d .non), some (.d .non), some (.d .non), some (.cell 1), some (.d (right_v2_5 o1)), some (.d .non), some (.d (right_v4_7 o5)), some (.d .non), some (.d (right_v5_9 o9)), some (.d .non), none, none, none, none, none, none, none, none] (dice 0 0 0 :: some (.lst (right_y6_1 o1 o5 o9)) :: [])) 1
theorem right_s8_k (a b c : Int) (u1 u2 u3 u6 u8 u10 : D) : ((right_o1).map fun o1 => (right_o5).map fun o5 => (right_o9).map fun o9 => (sIf (eBin fEq (eLend 4 (eCall d__law_first (eCons (eVar 4) eNil))) (eC (.str "none"))) (sEx (eApp (eVar 4) (eCall fTup (eCons (eC (.str "operation")) (eCons (eBin fLt (eUn fSum (eSl (eVar 5) eoN (eoS (eVar 7)))) (eVar 9)) eNil))))) sNil) [some (.cell 0), some (.d u1), some (.d u2), some (.d u3), some (.cell 1), some (.d (right_v2_5 o1)), some (.d u6), some (.d (right_v4_7 o5)), some (.d u8), some (.d (right_v5_9 o9)), some (.d u10), none, none, none, none, none, none, none, none] (dice a b c :: some (.lst (right_y6_1 o1 o5 o9)) :: [])) = ((right_o1).map fun o1 => (right_o5).map fun o5 => (right_o9).map fun o9 => .nx [some (.cell 0), some (.d u1), some (.d u2), some (.d u3), some (.cell 1), some (.d (right_v2_5 o1)), some (.d u6), some (.d (right_v4_7 o5)), some (.d u8), some (.d (right_v5_9 o9)), some (.d u10), none, none, none, none, none, none, none, none] (dice a b c :: some (.lst (right_y8_1 o1 o5 o9)) :: [])) := by kernel_rfl
theorem right_s8 (a b c : Int) (u1 u2 u3 u6 u8 u10 : D) {o1 : D × D} {o5 : D × D} {o9 : D × D} (m1 : o1 ∈ right_o1) (m5 : o5 ∈ right_o5) (m9 : o9 ∈ right_o9) : (sIf (eBin fEq (eLend 4 (eCall d__law_first (eCons (eVar 4) eNil))) (eC (.str "none"))) (sEx (eApp (eVar 4) (eCall fTup (eCons (eC (.str "operation")) (eCons (eBin fLt (eUn fSum (eSl (eVar 5) eoN (eoS (eVar 7)))) (eVar 9)) eNil))))) sNil) [some (.cell 0), some (.d u1), some (.d u2), some (.d u3), some (.cell 1), some (.d (right_v2_5 o1)), some (.d u6), some (.d (right_v4_7 o5)), some (.d u8), some (.d (right_v5_9 o9)), some (.d u10), none, none, none, none, none, none, none, none] (dice a b c :: some (.lst (right_y6_1 o1 o5 o9)) :: []) = .nx [some (.cell 0), some (.d u1), some (.d u2), some (.d u3), some (.cell 1), some (.d (right_v2_5 o1)), some (.d u6), some (.d (right_v4_7 o5)), some (.d u8), some (.d (right_v5_9 o9)), some (.d u10), none, none, none, none, none, none, none, none] (dice a b c :: some (.lst (right_y8_1 o1 o5 o9)) :: []) := List.map_inj_left.mp (List.map_inj_left.mp (List.map_inj_left.mp (right_s8_k a b c u1 u2 u3 u6 u8 u10) _ m1) _ m5) _ m9
theorem right_s9_k (a b c : Int) (u1 u2 u3 u6 u8 u10 : D) : ((right_o1).map fun o1 => (right_o5).map fun o5 => (right_o9).map fun o9 => (sIf (eBin fNe (eMet metT "none" (eCall d_pull_in (eCons (eVar 5) (eCons (eVar 7) (eCons (eVar 9) eNil))))) (eLend 4 (eCall d__law_first (eCons (eVar 4) eNil)))) (sRet (eC (.bl false))) sNil) [some (.cell 0), some (.d u1), some (.d u2), some (.d u3), some (.cell 1), some (.d (right_v2_5 o1)), some (.d u6), some (.d (right_v4_7 o5)), some (.d u8), some (.d (right_v5_9 o9)), some (.d u10), none, none, none, none, none, none, none, none] (dice a b c :: some (.lst (right_y8_1 o1 o5 o9)) :: [])) = ((right_o1).map fun o1 => (right_o5).map fun o5 => (right_o9).map fun o9 => .nx [some (.cell 0), some (.d u1), some (.d u2), some (.d u3), some (.cell 1), some (.d (right_v2_5 o1)), some (.d u6), some (.d (right_v4_7 o5)), some (.d u8), some (.d (right_v5_9 o9)), some (.d u10), none, none, none, none, none, none, none, none] (dice a b c :: some (.lst (right_y8_1 o1 o5 o9)) :: [])) := by kernel_rfl
theorem right_s9 (a b c : Int) (u1 u2 u3 u6 u8 u10 : D) {o1 : D × D} {o5 : D × D} {o9 : D × D} (m1 : o1 ∈ right_o1) (m5 : o5 ∈ right_o5) (m9 : o9 ∈ right_o9) : (sIf (eBin fNe (eMet metT "none" (eCall d_pull_in (eCons (eVar 5) (eCons (eVar 7) (eCons (eVar 9) eNil))))) (eLend 4 (eCall d__law_first (eCons (eVar 4) eNil)))) (sRet (eC (.bl false))) sNil) [some (.cell 0), some (.d u1), some (.d u2), some (.d u3), some (.cell 1), some (.d (right_v2_5 o1)), some (.d u6), some (.d (right_v4_7 o5)), some (.d u8), some (.d (right_v5_9 o9)), some (.d u10), none, none, none, none, none, none, none, none] (dice a b c :: some (.lst (right_y8_1 o1 o5 o9)) :: []) = .nx [some (.cell 0), some (.d u1), some (.d u2), some (.d u3), some (.cell 1), some (.d (right_v2_5 o1)), some (.d u6), some (.d (right_v4_7 o5)), some (.d u8), some (.d (right_v5_9 o9)), some (.d u10), none, none, none, none, none, none, none, none] (dice a b c :: some (.lst (right_y8_1 o1 o5 o9)) :: []) := List.map_inj_left.mp (List.map_inj_left.mp (List.map_inj_left.mp (right_s9_k a b c u1 u2 u3 u6 u8 u10) _ m1) _ m5) _ m9
def right_x14  : D := okD ((eCall (mkO "Word" d_Word___init__) (eCons (eC (.int 3)) (eCons (eCall fTup (eCons (eCall fTup (eCons (eC (.int 1)) (eCons (eC (.int 2)) eNil))) (eCons (eCall fTup (eCons (eC (.int 0)) (eCons (eC (.int 1)) eNil))) eNil))) eNil))) [some (.cell 0), some (.d .non), some (.d .non), some (.d .non), some (.cell 1), some (.d .non), some (.d .non), some (.d .non), some (.d .non), some (.d .non), some (.d .non), none, none, none, none, none, none, none, none] (dice 0 0 0 :: some (.lst []) :: []))
theorem right_p14_k (u1 u2 u3 u5 u6 u7 u8 u9 u10 : D) (w1 : List D) (a b c : Int) : (eCall (mkO "Word" d_Word___init__) (eCons (eC (.int 3)) (eCons (eCall fTup (eCons (eCall fTup (eCons (eC (.int 1)) (eCons (eC (.int 2)) eNil))) (eCons (eCall fTup (eCons (eC (.int 0)) (eCons (eC (.int 1)) eNil))) eNil))) eNil))) [some (.cell 0), some (.d u1), some (.d u2), some (.d u3), some (.cell 1), some (.d u5), some (.d u6), some (.d u7), some (.d u8), some (.d u9), some (.d u10), none, none, none, none, none, none, none, none] (dice a b c :: some (.lst w1) :: []) = .ok (.d right_x14) (dice a b c :: some (.lst w1) :: []) := by kernel_rfl
theorem right_p14 (u1 u2 u3 u5 u6 u7 u8 u9 u10 : D) (w1 : List D) (a b c : Int)   : (eCall (mkO "Word" d_Word___init__) (eCons (eC (.int 3)) (eCons (eCall fTup (eCons (eCall fTup (eCons (eC (.int 1)) (eCons (eC (.int 2)) eNil))) (eCons (eCall fTup (eCons (eC (.int 0)) (eCons (eC (.int 1)) eNil))) eNil))) eNil))) [some (.cell 0), some (.d u1), some (.d u2), some (.d u3), some (.cell 1), some (.d u5), some (.d u6), some (.d u7), some (.d u8), some (.d u9), some (.d u10), none, none, none, none, none, none, none, none] (dice a b c :: some (.lst w1) :: []) = .ok (.d right_x14) (dice a b c :: some (.lst w1) :: []) := right_p14_k u1 u2 u3 u5 u6 u7 u8 u9 u10 w1 a b c
def right_x15  : List D := lsD ((eCall fLst (eCons (eC .non) (eCons (eCall fTup eNil) (eCons (eCall fTup (eCons (eCall fTup (eCons (eC (.int 0)) (eCons (eC (.int 1)) eNil))) eNil)) (eCons (eC (.str "word")) (eCons (eC (.int 5)) eNil)))))) [some (.cell 0), some (.d .non), some (.d .non), some (.d .non), some (.cell 1), some (.d .non), some (.d .non), some (.d .non), some (.d .non), some (.d .non), some (.d .non), none, none, none, none, none, none, none, none] (dice 0 0 0 :: some (.lst []) :: []))
theorem right_p15_k (u1 u2 u3 u5 u6 u7 u8 u9 u10 : D) (w1 : List D) (a b c : Int) : (eCall fLst (eCons (eC .non) (eCons (eCall fTup eNil) (eCons (eCall fTup (eCons (eCall fTup (eCons (eC (.int 0)) (eCons (eC (.int 1)) eNil))) eNil)) (eCons (eC (.str "word")) (eCons (eC (.int 5)) eNil)))))) [some (.cell 0), some (.d u1), some (.d u2), some (.d u3), some (.cell 1), some (.d u5), some (.d u6), some (.d u7), some (.d u8), some (.d u9), some (.d u10), none, none, none, none, none, none, none, none] (dice a b c :: some (.lst w1) :: []) = .ok (.d (.lst right_x15)) (dice a b c :: some (.lst w1) :: []) := by kernel_rfl
theorem right_p15 (u1 u2 u3 u5 u6 u7 u8 u9 u10 : D) (w1 : List D) (a b c : Int)   : (eCall fLst (eCons (eC .non) (eCons (eCall fTup eNil) (eCons (eCall fTup (eCons (eCall fTup (eCons (eC (.int 0)) (eCons (eC (.int 1)) eNil))) eNil)) (eCons (eC (.str "word")) (eCons (eC (.int 5)) eNil)))))) [some (.cell 0), some (.d u1), some (.d u2), some (.d u3), some (.cell 1), some (.d u5), some (.d u6), some (.d u7), some (.d u8), some (.d u9), some (.d u10), none, none, none, none, none, none, none, none] (dice a b c :: some (.lst w1) :: []) = .ok (.d (.lst right_x15)) (dice a b c :: some (.lst w1) :: []) := right_p15_k u1 u2 u3 u5 u6 u7 u8 u9 u10 w1 a b c
def right_o13  : List (D × D) := optV right_x14 right_x15
theorem right_c16_k  : (okV right_x14 && okL right_x15) = true := by kernel_rfl
theorem right_c16    : (okV right_x14 && okL right_x15) = true := right_c16_k 
def right_v10_11 (o13 : D × D) : D := slotD ((sAsgT (tgT (tgsCons (tgN 11) (tgsCons (tgN 12) tgsNil))) (eC (.tup [o13.1, o13.2]))) [some (.cell 0), some (.d .non), some (.d .non), some (.d .non), some (.cell 1), some (.d .non), some (.d .non), some (.d .non), some (.d .non), some (.d .non), some (.d .non), none, none, none, none, none, none, none, none] (dice 0 0 0 :: some (.lst []) :: [])) 11
def right_v10_12 (o13 : D × D) : D := slotD ((sAsgT (tgT (tgsCons (tgN 11) (tgsCons (tgN 12) tgsNil))) (eC (.tup [o13.1, o13.2]))) [some (.cell 0), some (.d .non), some (.d .non), some (.d .non), some (.cell 1), some (.d .non), some (.d .non), some (.d .non), some (.d .non), some (.d .non), some (.d .non), none, none, none, none, none, none, none, none] (dice 0 0 0 :: some (.lst []) :: [])) 12
theorem right_s10_k (a b c : Int) (u1 u2 u3 u5 u6 u7 u8 u9 u10 : D) (w1 : List D) : ((right_o13).map fun o13 => (sAsgT (tgT (tgsCons (tgN 11) (tgsCons (tgN 12) tgsNil))) (eC (.tup [o13.1, o13.2]))) [some (.cell 0), some (.d u1), some (.d u2), some (.d u3), some (.cell 1), some (.d u5), some (.d u6), some (.d u7), some (.d u8), some (.d u9), some (.d u10), none, none, none, none, none, none, none, none] (dice a b c :: some (.lst w1) :: [])) = ((right_o13).map fun o13 => .nx [some (.cell 0), some (.d u1), some (.d u2), some (.d u3), some (.cell 1), some (.d u5), some (.d u6), some (.d u7), some (.d u8), some (.d u9), some (.d u10), some (.d (right_v10_11 o13)), some (.d (right_v10_12 o13)), none, none, none, none, none, none] (dice a b c :: some (.lst w1) :: [])) := by kernel_rfl
theorem right_s10 (a b c : Int) (u1 u2 u3 u5 u6 u7 u8 u9 u10 : D) (w1 : List D) {o13 : D × D} (m13 : o13 ∈ right_o13) : (sAsgT (tgT (tgsCons (tgN 11) (tgsCons (tgN 12) tgsNil))) (eC (.tup [o13.1, o13.2]))) [some (.cell 0), some (.d u1), some (.d u2), some (.d u3), some (.cell 1), some (.d u5), some (.d u6), some (.d u7), some (.d u8), some (.d u9), some (.d u10), none, none, none, none, none, none, none, none] (dice a b c :: some (.lst w1) :: []) = .nx [some (.cell 0), some (.d u1), some (.d u2), some (.d u3), some (.cell 1), some (.d u5), some (.d u6), some (.d u7), some (.d u8), some (.d u9), some (.d u10), some (.d (right_v10_11 o13)), some (.d (right_v10_12 o13)), none, none, none, none, none, none] (dice a b c :: some (.lst w1) :: []) := List.map_inj_left.mp (right_s10_k a b c u1 u2 u3 u5 u6 u7 u8 u9 u10 w1) _ m13
def right_x18 (o13 : D × D) : D := okD ((eVar 11) [some (.cell 0), some (.d .non), some (.d .non), some (.d .non), some (.cell 1), some (.d .non), some (.d .non), some (.d .non), some (.d .non), some (.d .non), some (.d .non), some (.d (right_v10_11 o13)), some (.d .non), none, none, none, none, none, none] (dice 0 0 0 :: some (.lst []) :: []))
theorem right_p18_k (u1 u2 u3 u5 u6 u7 u8 u9 u10 u12 : D) (w1 : List D) (a b c : Int) : ((right_o13).map fun o13 => (eVar 11) [some (.cell 0), some (.d u1), some (.d u2), some (.d u3), some (.cell 1), some (.d u5), some (.d u6), some (.d u7), some (.d u8), some (.d u9), some (.d u10), some (.d (right_v10_11 o13)), some (.d u12), none, none, none, none, none, none] (dice a b c :: some (.lst w1) :: [])) = ((right_o13).map fun o13 => .ok (.d (right_x18 o13)) (dice a b c :: some (.lst w1) :: [])) := by kernel_rfl
theorem right_p18 (u1 u2 u3 u5 u6 u7 u8 u9 u10 u12 : D) (w1 : List D) (a b c : Int) {o13 : D × D} (m13 : o13 ∈ right_o13) : (eVar 11) [some (.cell 0), some (.d u1), some (.d u2), some (.d u3), some (.cell 1), some (.d u5), some (.d u6), some (.d u7), some (.d u8), some (.d u9), some (.d u10), some (.d (right_v10_11 o13)), some (.d u12), none, none, none, none, none, none] (dice a b c :: some (.lst w1) :: []) = .ok (.d (right_x18 o13)) (dice a b c :: some (.lst w1) :: []) := List.map_inj_left.mp (right_p18_k u1 u2 u3 u5 u6 u7 u8 u9 u10 u12 w1 a b c) _ m13
def right_x19  : List D := lsD ((eCall fLst (eCons (eCall (mkO "Word" d_Word___init__) (eCons (eC (.int 2)) (eCons (eCall fTup (eCons (eCall fTup (eCons (eC (.int 1)) (eCons (eC (.int 1)) eNil))) eNil)) eNil))) (eCons (eCall (mkO "Word" d_Word___init__) (eCons (eC (.int 4)) (eCons (eCall fTup eNil) eNil))) eNil))) [some (.cell 0), some (.d .non), some (.d .non), some (.d .non), some (.cell 1), some (.d .non), some (.d .non), some (.d .non), some (.d .non), some (.d .non), some (.d .non), some (.d .non), some (.d .non), none, none, none, none, none, none] (dice 0 0 0 :: some (.lst []) :: []))
theorem right_p19_k (u1 u2 u3 u5 u6 u7 u8 u9 u10 u11 u12 : D) (w1 : List D) (a b c : Int) : (eCall fLst (eCons (eCall (mkO "Word" d_Word___init__) (eCons (eC (.int 2)) (eCons (eCall fTup (eCons (eCall fTup (eCons (eC (.int 1)) (eCons (eC (.int 1)) eNil))) eNil)) eNil))) (eCons (eCall (mkO "Word" d_Word___init__) (eCons (eC (.int 4)) (eCons (eCall fTup eNil) eNil))) eNil))) [some (.cell 0), some (.d u1), some (.d u2), some (.d u3), some (.cell 1), some (.d u5), some (.d u6), some (.d u7), some (.d u8), some (.d u9), some (.d u10), some (.d u11), some (.d u12), none, none, none, none, none, none] (dice a b c :: some (.lst w1) :: []) = .ok (.d (.lst right_x19)) (dice a b c :: some (.lst w1) :: []) := by kernel_rfl
theorem right_p19 (u1 u2 u3 u5 u6 u7 u8 u9 u10 u11 u12 : D) (w1 : List D) (a b c : Int)   : (eCall fLst (eCons (eCall (mkO "Word" d_Word___init__) (eCons (eC (.int 2)) (eCons (eCall fTup (eCons (eCall fTup (eCons (eC (.int 1)) (eCons (eC (.int 1)) eNil))) eNil)) eNil))) (eCons (eCall (mkO "Word" d_Word___init__) (eCons (eC (.int 4)) (eCons (eCall fTup eNil) eNil))) eNil))) [some (.cell 0), some (.d u1), some (.d u2), some (.d u3), some (.cell 1), some (.d u5), some (.d u6), some (.d u7), some (.d u8), some (.d u9), some (.d u10), some (.d u11), some (.d u12), none, none, none, none, none, none] (dice a b c :: some (.lst w1) :: []) = .ok (.d (.lst right_x19)) (dice a b c :: some (.lst w1) :: []) := right_p19_k u1 u2 u3 u5 u6 u7 u8 u9 u10 u11 u12 w1 a b c
def right_o17 (o13 : D × D) : List (D × D) := optV (right_x18 o13) right_x19
theorem right_c20_k  : ((right_o13).map fun o13 => (okV (right_x18 o13) && okL right_x19)) = ((right_o13).map fun o13 => true) := by kernel_rfl
theorem right_c20  {o13 : D × D} (m13 : o13 ∈ right_o13) : (okV (right_x18 o13) && okL right_x19) = true := List.map_inj_left.mp (right_c20_k ) _ m13
def right_v11_13 (o13 : D × D) (o17 : D × D) : D := slotD ((sAsgT (tgT (tgsCons (tgN 13) (tgsCons (tgN 14) tgsNil))) (eC (.tup [o17.1, o17.2]))) [some (.cell 0), some (.d .non), some (.d .non), some (.d .non), some (.cell 1), some (.d .non), some (.d .non), some (.d .non), some (.d .non), some (.d .non), some (.d .non), some (.d .non), some (.d .non), none, none, none, none, none, none] (dice 0 0 0 :: some (.lst []) :: [])) 13
def right_v11_14 (o13 : D × D) (o17 : D × D) : D := slotD ((sAsgT (tgT (tgsCons (tgN 13) (tgsCons (tgN 14) tgsNil))) (eC (.tup [o17.1, o17.2]))) [some (.cell 0), some (.d .non), some (.d .non), some (.d .non), some (.cell 1), some (.d .non), some (.d .non), some (.d .non), some (.d .non), some (.d .non), some (.d .non), some (.d .non), some (.d .non), none, none, none, none, none, none] (dice 0 0 0 :: some (.lst []) :: [])) 14
theorem right_s11_k (a b c : Int) (u1 u2 u3 u5 u6 u7 u8 u9 u10 u11 u12 : D) (w1 : List D) : ((right_o13).map fun o13 => ((right_o17 o13)).map fun o17 => (sAsgT (tgT (tgsCons (tgN 13) (tgsCons (tgN 14) tgsNil))) (eC (.tup [o17.1, o17.2]))) [some (.cell 0), some (.d u1), some (.d u2), some (.d u3), some (.cell 1), some (.d u5), some (.d u6), some (.d u7), some (.d u8), some (.d u9), some (.d u10), some (.d u11), some (.d u12), none, none, none, none, none, none] (dice a b c :: some (.lst w1) :: [])) = ((right_o13).map fun o13 => ((right_o17 o13)).map fun o17 => .nx [some (.cell 0), some (.d u1), some (.d u2), some (.d u3), some (.cell 1), some (.d u5), some (.d u6), some (.d u7), some (.d u8), some (.d u9), some (.d u10), some (.d u11), some (.d u12), some (.d (right_v11_13 o13 o17)), some (.d (right_v11_14 o13 o17)), none, none, none, none] (dice a b c :: some (.lst w1) :: [])) := by kernel_rfl
theorem right_s11 (a b c : Int) (u1 u2 u3 u5 u6 u7 u8 u9 u10 u11 u12 : D) (w1 : List D) {o13 : D × D} {o17 : D × D} (m13 : o13 ∈ right_o13) (m17 : o17 ∈ (right_o17 o13)) : (sAsgT (tgT (tgsCons (tgN 13) (tgsCons (tgN 14) tgsNil))) (eC (.tup [o17.1, o17.2]))) [some (.cell 0), some (.d u1), some (.d u2), some (.d u3), some (.cell 1), some (.d u5), some (.d u6), some (.d u7), some (.d u8), some (.d u9), some (.d u10), some (.d u11), some (.d u12), none, none, none, none, none, none] (dice a b c :: some (.lst w1) :: []) = .nx [some (.cell 0), some (.d u1), some (.d u2), some (.d u3), some (.cell 1), some (.d u5), some (.d u6), some (.d u7), some (.d u8), some (.d u9), some (.d u10), some (.d u11), some (.d u12), some (.d (right_v11_13 o13 o17)), some (.d (right_v11_14 o13 o17)), none, none, none, none] (dice a b c :: some (.lst w1) :: []) := List.map_inj_left.mp (List.map_inj_left.mp (right_s11_k a b c u1 u2 u3 u5 u6 u7 u8 u9 u10 u11 u12 w1) _ m13) _ m17
def right_v12_13 (o13 : D × D) (o17 : D × D) : D := slotD ((sIf (eVar 12) (sPar 13 14 (eVar 11) (eC (.bl false))) sNil) [some (.cell 0), some (.d .non), some (.d .non), some (.d .non), some (.cell 1), some (.d .non), some (.d .non), some (.d .non), some (.d .non), some (.d .non), some (.d .non), some (.d (right_v10_11 o13)), some (.d (right_v10_12 o13)), some (.d (right_v11_13 o13 o17)), some (.d (right_v11_14 o13 o17)), none, none, none, none] (dice 0 0 0 :: some (.lst []) :: [])) 13
def right_v12_14 (o13 : D × D) (o17 : D × D) : D := slotD ((sIf (eVar 12) (sPar 13 14 (eVar 11) (eC (.bl false))) sNil) [some (.cell 0), some (.d .non), some (.d .non), some (.d .non), some (.cell 1), some (.d .non), some (.d .non), some (.d .non), some (.d .non), some (.d .non), some (.d .non), some (.d (right_v10_11 o13)), some (.d (right_v10_12 o13)), some (.d (right_v11_13 o13 o17)), some (.d (right_v11_14 o13 o17)), none, none, none, none] (dice 0 0 0 :: some (.lst []) :: [])) 14
theorem right_s12_k (a b c : Int) (u1 u2 u3 u5 u6 u7 u8 u9 u10 : D) (w1 : List D) : ((right_o13).map fun o13 => ((right_o17 o13)).map fun o17 => (sIf (eVar 12) (sPar 13 14 (eVar 11) (eC (.bl false))) sNil) [some (.cell 0), some (.d u1), some (.d u2), some (.d u3), some (.cell 1), some (.d u5), some (.d u6), some (.d u7), some (.d u8), some (.d u9), some (.d u10), some (.d (right_v10_11 o13)), some (.d (right_v10_12 o13)), some (.d (right_v11_13 o13 o17)), some (.d (right_v11_14 o13 o17)), none, none, none, none] (dice a b c :: some (.lst w1) :: [])) = ((right_o13).map fun o13 => ((right_o17 o13)).map fun o17 => .nx [some (.cell 0), some (.d u1), some (.d u2), some (.d u3), some (.cell 1), some (.d u5), some (.d u6), some (.d u7), some (.d u8), some (.d u9), some (.d u10), some (.d (right_v10_11 o13)), some (.d (right_v10_12 o13)), some (.d (right_v12_13 o13 o17)), some (.d (right_v12_14 o13 o17)), none, none, none, none] (dice a b c :: some (.lst w1) :: [])) := by kernel_rfl
theorem right_s12 (a b c : Int) (u1 u2 u3 u5 u6 u7 u8 u9 u10 : D) (w1 : List D) {o13 : D × D} {o17 : D × D} (m13 : o13 ∈ right_o13) (m17 : o17 ∈ (right_o17 o13)) : (sIf (eVar 12) (sPar 13 14 (eVar 11) (eC (.bl false))) sNil) [some (.cell 0), some (.d u1), some (.d u2), some (.d u3), some (.cell 1), some (.d u5), some (.d u6), some (.d u7), some (.d u8), some (.d u9), some (.d u10), some (.d (right_v10_11 o13)), some (.d (right_v10_12 o13)), some (.d (right_v11_13 o13 o17)), some (.d (right_v11_14 o13 o17)), none, none, none, none] (dice a b c :: some (.lst w1) :: []) = .nx [some (.cell 0), some (.d u1), some (.d u2), some (.d u3), some (.cell 1), some (.d u5), some (.d u6), some (.d u7), some (.d u8), some (.d u9), some (.d u10), some (.d (right_v10_11 o13)), some (.d (right_v10_12 o13)), some (.d (right_v12_13 o13 o17)), some (.d (right_v12_14 o13 o17)), none, none, none, none] (dice a b c :: some (.lst w1) :: []) := List.map_inj_left.mp (List.map_inj_left.mp (right_s12_k a b c u1 u2 u3 u5 u6 u7 u8 u9 u10 w1) _ m13) _ m17
def right_y13_2 (o1 : D × D) (o13 : D × D) (o17 : D × D) : List D := cellL ((sNew 4 (eCall fLst (eCons (eCall fTup (eCons (eC (.str "operation")) (eCons (eVar 6) eNil))) (eCons (eCall fTup (eCons (eC (.str "word")) (eCons (eVar 12) eNil))) (eCons (eCall fTup (eCons (eC (.str "operation")) (eCons (eVar 14) eNil))) eNil))))) [some (.cell 0), some (.d .non), some (.d .non), some (.d .non), some (.cell 1), some (.d .non), some (.d (right_v2_6 o1)), some (.d .non), some (.d .non), some (.d .non), some (.d .non), some (.d .non), some (.d (right_v10_12 o13)), some (.d .non), some (.d (right_v12_14 o13 o17)), none, none, none, none] (dice 0 0 0 :: some (.lst []) :: [])) 2
theorem right_s13_k (a b c : Int) (u1 u2 u3 u5 u7 u8 u9 u10 u11 u13 : D) (w1 : List D) : ((right_o1).map fun o1 => (right_o13).map fun o13 => ((right_o17 o13)).map fun o17 => (sNew 4 (eCall fLst (eCons (eCall fTup (eCons (eC (.str "operation")) (eCons (eVar 6) eNil))) (eCons (eCall fTup (eCons (eC (.str "word")) (eCons (eVar 12) eNil))) (eCons (eCall fTup (eCons (eC (.str "operation")) (eCons (eVar 14) eNil))) eNil))))) [some (.cell 0), some (.d u1), some (.d u2), some (.d u3), some (.cell 1), some (.d u5), some (.d (right_v2_6 o1)), some (.d u7), some (.d u8), some (.d u9), some (.d u10), some (.d u11), some (.d (right_v10_12 o13)), some (.d u13), some (.d (right_v12_14 o13 o17)), none, none, none, none] (dice a b c :: some (.lst w1) :: [])) = ((right_o1).map fun o1 => (right_o13).map fun o13 => ((right_o17 o13)).map fun o17 => .nx [some (.cell 0), some (.d u1), some (.d u2), some (.d u3), some (.cell 2), some (.d u5), some (.d (right_v2_6 o1)), some (.d u7), some (.d u8), some (.d u9), some (.d u10), some (.d u11), some (.d (right_v10_12 o13)), some (.d u13), some (.d (right_v12_14 o13 o17)), none, none, none, none] (dice a b c :: some (.lst w1) :: some (.lst (right_y13_2 o1 o13 o17)) :: [])) := by kernel_rfl
theorem right_s13 (a b c : Int) (u1 u2 u3 u5 u7 u8 u9 u10 u11 u13 : D) (w1 : List D) {o1 : D × D} {o13 : D × D} {o17 : D × D} (m1 : o1 ∈ right_o1) (m13 : o13 ∈ right_o13) (m17 : o17 ∈ (right_o17 o13)) : (sNew 4 (eCall fLst (eCons (eCall fTup (eCons (eC (.str "operation")) (eCons (eVar 6) eNil))) (eCons (eCall fTup (eCons (eC (.str "word")) (eCons (eVar 12) eNil))) (eCons (eCall fTup (eCons (eC (.str "operation")) (eCons (eVar 14) eNil))) eNil))))) [some (.cell 0), some (.d u1), some (.d u2), some (.d u3), some (.cell 1), some (.d u5), some (.d (right_v2_6 o1)), some (.d u7), some (.d u8), some (.d u9), some (.d u10), some (.d u11), some (.d (right_v10_12 o13)), some (.d u13), some (.d (right_v12_14 o13 o17)), none, none, none, none] (dice a b c :: some (.lst w1) :: []) = .nx [some (.cell 0), some (.d u1), some (.d u2), some (.d u3), some (.cell 2), some (.d u5), some (.d (right_v2_6 o1)), some (.d u7), some (.d u8), some (.d u9), some (.d u10), some (.d u11), some (.d (right_v10_12 o13)), some (.d u13), some (.d (right_v12_14 o13 o17)), none, none, none, none] (dice a b c :: some (.lst w1) :: some (.lst (right_y13_2 o1 o13 o17)) :: []) := List.map_inj_left.mp (List.map_inj_left.mp (List.map_inj_left.mp (right_s13_k a b c u1 u2 u3 u5 u7 u8 u9 u10 u11 u13 w1) _ m1) _ m13) _ m17
theorem right_s14_k (a b c : Int) (u1 u2 u3 u6 u7 u8 u9 u10 u11 u12 u14 : D) (w1 : List D) : ((right_o1).map fun o1 => (right_o13).map fun o13 => ((right_o17 o13)).map fun o17 => (sIf (eBin fNe (eMet metT "none" (eCall d_push_word (eCons (eVar 5) (eCons (eVar 13) eNil)))) (eLend 4 (eCall d__law_first (eCons (eVar 4) eNil)))) (sRet (eC (.bl false))) sNil) [some (.cell 0), some (.d u1), some (.d u2), some (.d u3), some (.cell 2), some (.d (right_v2_5 o1)), some (.d u6), some (.d u7), some (.d u8), some (.d u9), some (.d u10), some (.d u11), some (.d u12), some (.d (right_v12_13 o13 o17)), some (.d u14), none, none, none, none] (dice a b c :: some (.lst w1) :: some (.lst (right_y13_2 o1 o13 o17)) :: [])) = ((right_o1).map fun o1 => (right_o13).map fun o13 => ((right_o17 o13)).map fun o17 => .nx [some (.cell 0), some (.d u1), some (.d u2), some (.d u3), some (.cell 2), some (.d (right_v2_5 o1)), some (.d u6), some (.d u7), some (.d u8), some (.d u9), some (.d u10), some (.d u11), some (.d u12), some (.d (right_v12_13 o13 o17)), some (.d u14), none, none, none, none] (dice a b c :: some (.lst w1) :: some (.lst (right_y13_2 o1 o13 o17)) :: [])) := by kernel_rfl
theorem right_s14 (a b c : Int) (u1 u2 u3 u6 u7 u8 u9 u10 u11 u12 u14 : D) (w1 : List D) {o1 : D × D} {o13 : D × D} {o17 : D × D} (m1 : o1 ∈ right_o1) (m13 : o13 ∈ right_o13) (m17 : o17 ∈ (right_o17 o13)) : (sIf (eBin fNe (eMet metT "none" (eCall d_push_word (eCons (eVar 5) (eCons (eVar 13) eNil)))) (eLend 4 (eCall d__law_first (eCons (eVar 4) eNil)))) (sRet (eC (.bl false))) sNil) [some (.cell 0), some (.d u1), some (.d u2), some (.d u3), some (.cell 2), some (.d (right_v2_5 o1)), some (.d u6), some (.d u7), some (.d u8), some (.d u9), some (.d u10), some (.d u11), some (.d u12), some (.d (right_v12_13 o13 o17)), some (.d u14), none, none, none, none] (dice a b c :: some (.lst w1) :: some (.lst (right_y13_2 o1 o13 o17)) :: []) = .nx [some (.cell 0), some (.d u1), some (.d u2), some (.d u3), some (.cell 2), some (.d (right_v2_5 o1)), some (.d u6), some (.d u7), some (.d u8), some (.d u9), some (.d u10), some (.d u11), some (.d u12), some (.d (right_v12_13 o13 o17)), some (.d u14), none, none, none, none] (dice a b c :: some (.lst w1) :: some (.lst (right_y13_2 o1 o13 o17)) :: []) := List.map_inj_left.mp (List.map_inj_left.mp (List.map_inj_left.mp (right_s14_k a b c u1 u2 u3 u6 u7 u8 u9 u10 u11 u12 u14 w1) _ m1) _ m13) _ m17
def right_x22  : List D := lsD ((eCall fLst (eCons (eCall fTup (eCons (eC (.int 0)) (eCons (eC (.int 1)) (eCons (eC (.int 0)) eNil)))) (eCons (eCall fTup (eCons (eC (.int 0)) (eCons (eC (.int 0)) (eCons (eC (.int 0)) eNil)))) eNil))) [some (.cell 0), some (.d .non), some (.d .non), some (.d .non), some (.cell 2), some (.d .non), some (.d .non), some (.d .non), some (.d .non), some (.d .non), some (.d .non), some (.d .non), some (.d .non), some (.d .non), some (.d .non), none, none, none, none] (dice 0 0 0 :: some (.lst []) :: some (.lst []) :: []))
theorem right_p22_k (u1 u2 u3 u5 u6 u7 u8 u9 u10 u11 u12 u13 u14 : D) (w1 w2 : List D) (a b c : Int) : (eCall fLst (eCons (eCall fTup (eCons (eC (.int 0)) (eCons (eC (.int 1)) (eCons (eC (.int 0)) eNil)))) (eCons (eCall fTup (eCons (eC (.int 0)) (eCons (eC (.int 0)) (eCons (eC (.int 0)) eNil)))) eNil))) [some (.cell 0), some (.d u1), some (.d u2), some (.d u3), some (.cell 2), some (.d u5), some (.d u6), some (.d u7), some (.d u8), some (.d u9), some (.d u10), some (.d u11), some (.d u12), some (.d u13), some (.d u14), none, none, none, none] (dice a b c :: some (.lst w1) :: some (.lst w2) :: []) = .ok (.d (.lst right_x22)) (dice a b c :: some (.lst w1) :: some (.lst w2) :: []) := by kernel_rfl
theorem right_p22 (u1 u2 u3 u5 u6 u7 u8 u9 u10 u11 u12 u13 u14 : D) (w1 w2 : List D) (a b c : Int)   : (eCall fLst (eCons (eCall fTup (eCons (eC (.int 0)) (eCons (eC (.int 1)) (eCons (eC (.int 0)) eNil)))) (eCons (eCall fTup (eCons (eC (.int 0)) (eCons (eC (.int 0)) (eCons (eC (.int 0)) eNil)))) eNil))) [some (.cell 0), some (.d u1), some (.d u2), some (.d u3), some (.cell 2), some (.d u5), some (.d u6), some (.d u7), some (.d u8), some (.d u9), some (.d u10), some (.d u11), some (.d u12), some (.d u13), some (.d u14), none, none, none, none] (dice a b c :: some (.lst w1) :: some (.lst w2) :: []) = .ok (.d (.lst right_x22)) (dice a b c :: some (.lst w1) :: some (.lst w2) :: []) := right_p22_k u1 u2 u3 u5 u6 u7 u8 u9 u10 u11 u12 u13 u14 w1 w2 a b c
def right_x23  : List D := lsD ((eVar 1) [some (.cell 0), some (.d right_v0_1), some (.d .non), some (.d .non), some (.cell 2), some (.d .non), some (.d .non), some (.d .non), some (.d .non), some (.d .non), some (.d .non), some (.d .non), some (.d .non), some (.d .non), some (.d .non), none, none, none, none] (dice 0 0 0 :: some (.lst []) :: some (.lst []) :: []))
theorem right_p23_k (u2 u3 u5 u6 u7 u8 u9 u10 u11 u12 u13 u14 : D) (w1 w2 : List D) (a b c : Int) : (eVar 1) [some (.cell 0), some (.d right_v0_1), some (.d u2), some (.d u3), some (.cell 2), some (.d u5), some (.d u6), some (.d u7), some (.d u8), some (.d u9), some (.d u10), some (.d u11), some (.d u12), some (.d u13), some (.d u14), none, none, none, none] (dice a b c :: some (.lst w1) :: some (.lst w2) :: []) = .ok (.d (.lst right_x23)) (dice a b c :: some (.lst w1) :: some (.lst w2) :: []) := by kernel_rfl
theorem right_p23 (u2 u3 u5 u6 u7 u8 u9 u10 u11 u12 u13 u14 : D) (w1 w2 : List D) (a b c : Int)   : (eVar 1) [some (.cell 0), some (.d right_v0_1), some (.d u2), some (.d u3), some (.cell 2), some (.d u5), some (.d u6), some (.d u7), some (.d u8), some (.d u9), some (.d u10), some (.d u11), some (.d u12), some (.d u13), some (.d u14), none, none, none, none] (dice a b c :: some (.lst w1) :: some (.lst w2) :: []) = .ok (.d (.lst right_x23)) (dice a b c :: some (.lst w1) :: some (.lst w2) :: []) := right_p23_k u2 u3 u5 u6 u7 u8 u9 u10 u11 u12 u13 u14 w1 w2 a b c
def right_o21  : List (D × D) := optP right_x22 right_x23
theorem right_c24_k  : (okL right_x22 && okL right_x23) = true := by kernel_rfl
theorem right_c24    : (okL right_x22 && okL right_x23) = true := right_c24_k 
def right_v15_15 (o21 : D × D) : D := slotD ((sAsgT (tgT (tgsCons (tgN 15) (tgsCons (tgN 16) tgsNil))) (eC (.tup [o21.1, o21.2]))) [some (.cell 0), some (.d .non), some (.d .non), some (.d .non), some (.cell 2), some (.d .non), some (.d .non), some (.d .non), some (.d .non), some (.d .non), some (.d .non), some (.d .non), some (.d .non), some (.d .non), some (.d .non), none, none, none, none] (dice 0 0 0 :: some (.lst []) :: some (.lst []) :: [])) 15
def right_v15_16 (o21 : D × D) : D := slotD ((sAsgT (tgT (tgsCons (tgN 15) (tgsCons (tgN 16) tgsNil))) (eC (.tup [o21.1, o21.2]))) [some (.cell 0), some (.d .non), some (.d .non), some (.d .non), some (.cell 2), some (.d .non), some (.d .non), some (.d .non), some (.d .non), some (.d .non), some (.d .non), some (.d .non), some (.d .non), some (.d .non), some (.d .non), none, none, none, none] (dice 0 0 0 :: some (.lst []) :: some (.lst []) :: [])) 16
theorem right_s15_k (a b c : Int) (u1 u2 u3 u5 u6 u7 u8 u9 u10 u11 u12 u13 u14 : D) (w1 w2 : List D) : ((right_o21).map fun o21 => (sAsgT (tgT (tgsCons (tgN 15) (tgsCons (tgN 16) tgsNil))) (eC (.tup [o21.1, o21.2]))) [some (.cell 0), some (.d u1), some (.d u2), some (.d u3), some (.cell 2), some (.d u5), some (.d u6), some (.d u7), some (.d u8), some (.d u9), some (.d u10), some (.d u11), some (.d u12), some (.d u13), some (.d u14), none, none, none, none] (dice a b c :: some (.lst w1) :: some (.lst w2) :: [])) = ((right_o21).map fun o21 => .nx [some (.cell 0), some (.d u1), some (.d u2), some (.d u3), some (.cell 2), some (.d u5), some (.d u6), some (.d u7), some (.d u8), some (.d u9), some (.d u10), some (.d u11), some (.d u12), some (.d u13), some (.d u14), some (.d (right_v15_15 o21)), some (.d (right_v15_16 o21)), none, none] (dice a b c :: some (.lst w1) :: some (.lst w2) :: [])) := by kernel_rfl
theorem right_s15 (a b c : Int) (u1 u2 u3 u5 u6 u7 u8 u9 u10 u11 u12 u13 u14 : D) (w1 w2 : List D) {o21 : D × D} (m21 : o21 ∈ right_o21) : (sAsgT (tgT (tgsCons (tgN 15) (tgsCons (tgN 16) tgsNil))) (eC (.tup [o21.1, o21.2]))) [some (.cell 0), some (.d u1), some (.d u2), some (.d u3), some (.cell 2), some (.d u5), some (.d u6), some (.d u7), some (.d u8), some (.d u9), some (.d u10), some (.d u11), some (.d u12), some (.d u13), some (.d u14), none, none, none, none] (dice a b c :: some (.lst w1) :: some (.lst w2) :: []) = .nx [some (.cell 0), some (.d u1), some (.d u2), some (.d u3), some (.cell 2), some (.d u5), some (.d u6), some (.d u7), some (.d u8), some (.d u9), some (.d u10), some (.d u11), some (.d u12), some (.d u13), some (.d u14), some (.d (right_v15_15 o21)), some (.d (right_v15_16 o21)), none, none] (dice a b c :: some (.lst w1) :: some (.lst w2) :: []) := List.map_inj_left.mp (right_s15_k a b c u1 u2 u3 u5 u6 u7 u8 u9 u10 u11 u12 u13 u14 w1 w2) _ m21
def right_x26 (o21 : D × D) : D := okD ((eVar 15) [some (.cell 0), some (.d .non), some (.d .non), some (.d .non), some (.cell 2), some (.d .non), some (.d .non), some (.d .non), some (.d .non), some (.d .non), some (.d .non), some (.d .non), some (.d .non), some (.d .non), some (.d .non), some (.d (right_v15_15 o21)), some (.d .non), none, none] (dice 0 0 0 :: some (.lst []) :: some (.lst []) :: []))
theorem right_p26_k (u1 u2 u3 u5 u6 u7 u8 u9 u10 u11 u12 u13 u14 u16 : D) (w1 w2 : List D) (a b c : Int) : ((right_o21).map fun o21 => (eVar 15) [some (.cell 0), some (.d u1), some (.d u2), some (.d u3), some (.cell 2), some (.d u5), some (.d u6), some (.d u7), some (.d u8), some (.d u9), some (.d u10), some (.d u11), some (.d u12), some (.d u13), some (.d u14), some (.d (right_v15_15 o21)), some (.d u16), none, none] (dice a b c :: some (.lst w1) :: some (.lst w2) :: [])) = ((right_o21).map fun o21 => .ok (.d (right_x26 o21)) (dice a b c :: some (.lst w1) :: some (.lst w2) :: [])) := by kernel_rfl
theorem right_p26 (u1 u2 u3 u5 u6 u7 u8 u9 u10 u11 u12 u13 u14 u16 : D) (w1 w2 : List D) (a b c : Int) {o21 : D × D} (m21 : o21 ∈ right_o21) : (eVar 15) [some (.cell 0), some (.d u1), some (.d u2), some (.d u3), some (.cell 2), some (.d u5), some (.d u6), some (.d u7), some (.d u8), some (.d u9), some (.d u10), some (.d u11), some (.d u12), some (.d u13), some (.d u14), some (.d (right_v15_15 o21)), some (.d u16), none, none] (dice a b c :: some (.lst w1) :: some (.lst w2) :: []) = .ok (.d (right_x26 o21)) (dice a b c :: some (.lst w1) :: some (.lst w2) :: []) := List.map_inj_left.mp (right_p26_k u1 u2 u3 u5 u6 u7 u8 u9 u10 u11 u12 u13 u14 u16 w1 w2 a b c) _ m21
def right_x27  : List D := lsD ((eCall fLst (eCons (eCall fTup (eCons (eC (.int 0)) (eCons (eC (.int 1)) eNil))) (eCons (eCall fTup (eCons (eC (.int 0)) (eCons (eC (.int 0)) (eCons (eC (.int 0)) (eCons (eC (.int 1)) eNil))))) eNil))) [some (.cell 0), some (.d .non), some (.d .non), some (.d .non), some (.cell 2), some (.d .non), some (.d .non), some (.d .non), some (.d .non), some (.d .non), some (.d .non), some (.d .non), some (.d .non), some (.d .non), some (.d .non), some (.d .non), some (.d .non), none, none] (dice 0 0 0 :: some (.lst []) :: some (.lst []) :: []))
theorem right_p27_k (u1 u2 u3 u5 u6 u7 u8 u9 u10 u11 u12 u13 u14 u15 u16 : D) (w1 w2 : List D) (a b c : Int) : (eCall fLst (eCons (eCall fTup (eCons (eC (.int 0)) (eCons (eC (.int 1)) eNil))) (eCons (eCall fTup (eCons (eC (.int 0)) (eCons (eC (.int 0)) (eCons (eC (.int 0)) (eCons (eC (.int 1)) eNil))))) eNil))) [some (.cell 0), some (.d u1), some (.d u2), some (.d u3), some (.cell 2), some (.d u5), some (.d u6), some (.d u7), some (.d u8), some (.d u9), some (.d u10), some (.d u11), some (.d u12), some (.d u13), some (.d u14), some (.d u15), some (.d u16), none, none] (dice a b c :: some (.lst w1) :: some (.lst w2) :: []) = .ok (.d (.lst right_x27)) (dice a b c :: some (.lst w1) :: some (.lst w2) :: []) := by kernel_rfl
theorem right_p27 (u1 u2 u3 u5 u6 u7 u8 u9 u10 u11 u12 u13 u14 u15 u16 : D) (w1 w2 : List D) (a b c : Int)   : (eCall fLst (eCons (eCall fTup (eCons (eC (.int 0)) (eCons (eC (.int 1)) eNil))) (eCons (eCall fTup (eCons (eC (.int 0)) (eCons (eC (.int 0)) (eCons (eC (.int 0)) (eCons (eC (.int 1)) eNil))))) eNil))) [some (.cell 0), some (.d u1), some (.d u2), some (.d u3), some (.cell 2), some (.d u5), some (.d u6), some (.d u7), some (.d u8), some (.d u9), some (.d u10), some (.d u11), some (.d u12), some (.d u13), some (.d u14), some (.d u15), some (.d u16), none, none] (dice a b c :: some (.lst w1) :: some (.lst w2) :: []) = .ok (.d (.lst right_x27)) (dice a b c :: some (.lst w1) :: some (.lst w2) :: []) := right_p27_k u1 u2 u3 u5 u6 u7 u8 u9 u10 u11 u12 u13 u14 u15 u16 w1 w2 a b c
def right_o25 (o21 : D × D) : List (D × D) := optV (right_x26 o21) right_x27
theorem right_c28_k  : ((right_o21).map fun o21 => (okV (right_x26 o21) && okL right_x27)) = ((right_o21).map fun o21 => true) := by kernel_rfl
theorem right_c28  {o21 : D × D} (m21 : o21 ∈ right_o21) : (okV (right_x26 o21) && okL right_x27) = true := List.map_inj_left.mp (right_c28_k ) _ m21
def right_v16_17 (o21 : D × D) (o25 : D × D) : D := slotD ((sAsgT (tgT (tgsCons (tgN 17) (tgsCons (tgN 18) tgsNil))) (eC (.tup [o25.1, o25.2]))) [some (.cell 0), some (.d .non), some (.d .non), some (.d .non), some (.cell 2), some (.d .non), some (.d .non), some (.d .non), some (.d .non), some (.d .non), some (.d .non), some (.d .non), some (.d .non), some (.d .non), some (.d .non), some (.d .non), some (.d .non), none, none] (dice 0 0 0 :: some (.lst []) :: some (.lst []) :: [])) 17
def right_v16_18 (o21 : D × D) (o25 : D × D) : D := slotD ((sAsgT (tgT (tgsCons (tgN 17) (tgsCons (tgN 18) tgsNil))) (eC (.tup [o25.1, o25.2]))) [some (.cell 0), some (.d .non), some (.d .non), some (.d .non), some (.cell 2), some (.d .non), some (.d .non), some (.d .non), some (.d .non), some (.d .non), some (.d .non), some (.d .non), some (.d .non), some (.d .non), some (.d .non), some (.d .non), some (.d .non), none, none] (dice 0 0 0 :: some (.lst []) :: some (.lst []) :: [])) 18
theorem right_s16_k (a b c : Int) (u1 u2 u3 u5 u6 u7 u8 u9 u10 u11 u12 u13 u14 u15 u16 : D) (w1 w2 : List D) : ((right_o21).map fun o21 => ((right_o25 o21)).map fun o25 => (sAsgT (tgT (tgsCons (tgN 17) (tgsCons (tgN 18) tgsNil))) (eC (.tup [o25.1, o25.2]))) [some (.cell 0), some (.d u1), some (.d u2), some (.d u3), some (.cell 2), some (.d u5), some (.d u6), some (.d u7), some (.d u8), some (.d u9), some (.d u10), some (.d u11), some (.d u12), some (.d u13), some (.d u14), some (.d u15), some (.d u16), none, none] (dice a b c :: some (.lst w1) :: some (.lst w2) :: [])) = ((right_o21).map fun o21 => ((right_o25 o21)).map fun o25 => .nx [some (.cell 0), some (.d u1), some (.d u2), some (.d u3), some (.cell 2), some (.d u5), some (.d u6), some (.d u7), some (.d u8), some (.d u9), some (.d u10), some (.d u11), some (.d u12), some (.d u13), some (.d u14), some (.d u15), some (.d u16), some (.d (right_v16_17 o21 o25)), some (.d (right_v16_18 o21 o25))] (dice a b c :: some (.lst w1) :: some (.lst w2) :: [])) := by kernel_rfl
theorem right_s16 (a b c : Int) (u1 u2 u3 u5 u6 u7 u8 u9 u10 u11 u12 u13 u14 u15 u16 : D) (w1 w2 : List D) {o21 : D × D} {o25 : D × D} (m21 : o21 ∈ right_o21) (m25 : o25 ∈ (right_o25 o21)) : (sAsgT (tgT (tgsCons (tgN 17) (tgsCons (tgN 18) tgsNil))) (eC (.tup [o25.1, o25.2]))) [some (.cell 0), some (.d u1), some (.d u2), some (.d u3), some (.cell 2), some (.d u5), some (.d u6), some (.d u7), some (.d u8), some (.d u9), some (.d u10), some (.d u11), some (.d u12), some (.d u13), some (.d u14), some (.d u15), some (.d u16), none, none] (dice a b c :: some (.lst w1) :: some (.lst w2) :: []) = .nx [some (.cell 0), some (.d u1), some (.d u2), some (.d u3), some (.cell 2), some (.d u5), some (.d u6), some (.d u7), some (.d u8), some (.d u9), some (.d u10), some (.d u11), some (.d u12), some (.d u13), some (.d u14), some (.d u15), some (.d u16), some (.d (right_v16_17 o21 o25)), some (.d (right_v16_18 o21 o25))] (dice a b c :: some (.lst w1) :: some (.lst w2) :: []) := List.map_inj_left.mp (List.map_inj_left.mp (right_s16_k a b c u1 u2 u3 u5 u6 u7 u8 u9 u10 u11 u12 u13 u14 u15 u16 w1 w2) _ m21) _ m25
def right_v17_17 (o21 : D × D) (o25 : D × D) : D := slotD ((sIf (eVar 16) (sPar 17 18 (eVar 15) (eC (.bl false))) sNil) [some (.cell 0), some (.d .non), some (.d .non), some (.d .non), some (.cell 2), some (.d .non), some (.d .non), some (.d .non), some (.d .non), some (.d .non), some (.d .non), some (.d .non), some (.d .non), some (.d .non), some (.d .non), some (.d (right_v15_15 o21)), some (.d (right_v15_16 o21)), some (.d (right_v16_17 o21 o25)), some (.d (right_v16_18 o21 o25))] (dice 0 0 0 :: some (.lst []) :: some (.lst []) :: [])) 17
def right_v17_18 (o21 : D × D) (o25 : D × D) : D := slotD ((sIf (eVar 16) (sPar 17 18 (eVar 15) (eC (.bl false))) sNil) [some (.cell 0), some (.d .non), some (.d .non), some (.d .non), some (.cell 2), some (.d .non), some (.d .non), some (.d .non), some (.d .non), some (.d .non), some (.d .non), some (.d .non), some (.d .non), some (.d .non), some (.d .non), some (.d (right_v15_15 o21)), some (.d (right_v15_16 o21)), some (.d (right_v16_17 o21 o25)), some (.d (right_v16_18 o21 o25))] (dice 0 0 0 :: some (.lst []) :: some (.lst []) :: [])) 18
theorem right_s17_k (a b c : Int) (u1 u2 u3 u5 u6 u7 u8 u9 u10 u11 u12 u13 u14 : D) (w1 w2 : List D) : ((right_o21).map fun o21 => ((right_o25 o21)).map fun o25 => (sIf (eVar 16) (sPar 17 18 (eVar 15) (eC (.bl false))) sNil) [some (.cell 0), some (.d u1), some (.d u2), some (.d u3), some (.cell 2), some (.d u5), some (.d u6), some (.d u7), some (.d u8), some (.d u9), some (.d u10), some (.d u11), some (.d u12), some (.d u13), some (.d u14), some (.d (right_v15_15 o21)), some (.d (right_v15_16 o21)), some (.d (right_v16_17 o21 o25)), some (.d (right_v16_18 o21 o25))] (dice a b c :: some (.lst w1) :: some (.lst w2) :: [])) = ((right_o21).map fun o21 => ((right_o25 o21)).map fun o25 => .nx [some (.cell 0), some (.d u1), some (.d u2), some (.d u3), some (.cell 2), some (.d u5), some (.d u6), some (.d u7), some (.d u8), some (.d u9), some (.d u10), some (.d u11), some (.d u12), some (.d u13), some (.d u14), some (.d (right_v15_15 o21)), some (.d (right_v15_16 o21)), some (.d (right_v17_17 o21 o25)), some (.d (right_v17_18 o21 o25))] (dice a b c :: some (.lst w1) :: some (.lst w2) :: [])) := by kernel_rfl
theorem right_s17 (a b c : Int) (u1 u2 u3 u5 u6 u7 u8 u9 u10 u11 u12 u13 u14 : D) (w1 w2 : List D) {o21 : D × D} {o25 : D × D} (m21 : o21 ∈ right_o21) (m25 : o25 ∈ (right_o25 o21)) : (sIf (eVar 16) (sPar 17 18 (eVar 15) (eC (.bl false))) sNil) [some (.cell 0), some (.d u1), some (.d u2), some (.d u3), some (.cell 2), some (.d u5), some (.d u6), some (.d u7), some (.d u8), some (.d u9), some (.d u10), some (.d u11), some (.d u12), some (.d u13), some (.d u14), some (.d (right_v15_15 o21)), some (.d (right_v15_16 o21)), some (.d (right_v16_17 o21 o25)), some (.d (right_v16_18 o21 o25))] (dice a b c :: some (.lst w1) :: some (.lst w2) :: []) = .nx [some (.cell 0), some (.d u1), some (.d u2), some (.d u3), some (.cell 2), some (.d u5), some (.d u6), some (.d u7), some (.d u8), some (.d u9), some (.d u10), some (.d u11), some (.d u12), some (.d u13), some (.d u14), some (.d (right_v15_15 o21)), some (.d (right_v15_16 o21)), some (.d (right_v17_17 o21 o25)), some (.d (right_v17_18 o21 o25))] (dice a b c :: some (.lst w1) :: some (.lst w2) :: []) := List.map_inj_left.mp (List.map_inj_left.mp (right_s17_k a b c u1 u2 u3 u5 u6 u7 u8 u9 u10 u11 u12 u13 u14 w1 w2) _ m21) _ m25
def right_y18_3 (o1 : D × D) (o21 : D × D) (o25 : D × D) : List D := cellL ((sNew 4 (eCall fLst (eCons (eCall fTup (eCons (eC (.str "operation")) (eCons (eVar 6) eNil))) (eCons (eCall fTup (eCons (eC (.str "operation")) (eCons (eOr (eVar 16) (eVar 18)) eNil))) eNil)))) [some (.cell 0), some (.d .non), some (.d .non), some (.d .non), some (.cell 2), some (.d .non), some (.d (right_v2_6 o1)), some (.d .non), some (.d .non), some (.d .non), some (.d .non), some (.d .non), some (.d .non), some (.d .non), some (.d .non), some (.d .non), some (.d (right_v15_16 o21)), some (.d .non), some (.d (right_v17_18 o21 o25))] (dice 0 0 0 :: some (.lst []) :: some (.lst []) :: [])) 3
theorem right_s18_k (a b c : Int) (u1 u2 u3 u5 u7 u8 u9 u10 u11 u12 u13 u14 u15 u17 : D) (w1 w2 : List D) : ((right_o1).map fun o1 => (right_o21).map fun o21 => ((right_o25 o21)).map fun o25 => (sNew 4 (eCall fLst (eCons (eCall fTup (eCons (eC (.str "operation")) (eCons (eVar 6) eNil))) (eCons (eCall fTup (eCons (eC (.str "operation")) (eCons (eOr (eVar 16) (eVar 18)) eNil))) eNil)))) [some (.cell 0), some (.d u1), some (.d u2), some (.d u3), some (.cell 2), some (.d u5), some (.d (right_v2_6 o1)), some (.d u7), some (.d u8), some (.d u9), some (.d u10), some (.d u11), some (.d u12), some (.d u13), some (.d u14), some (.d u15), some (.d (right_v15_16 o21)), some (.d u17), some (.d (right_v17_18 o21 o25))] (dice a b c :: some (.lst w1) :: some (.lst w2) :: [])) = ((right_o1).map fun o1 => (right_o21).map fun o21 => ((right_o25 o21)).map fun o25 => .nx [some (.cell 0), some (.d u1), some (.d u2), some (.d u3), some (.cell 3), some (.d u5), some (.d (right_v2_6 o1)), some (.d u7), some (.d u8), some (.d u9), some (.d u10), some (.d u11), some (.d u12), some (.d u13), some (.d u14), some (.d u15), some (.d (right_v15_16 o21)), some (.d u17), some (.d (right_v17_18 o21 o25))] (dice a b c :: some (.lst w1) :: some (.lst w2) :: some (.lst (right_y18_3 o1 o21 o25)) :: [])) := by kernel_rfl
theorem right_s18 (a b c : Int) (u1 u2 u3 u5 u7 u8 u9 u10 u11 u12 u13 u14 u15 u17 : D) (w1 w2 : List D) {o1 : D × D} {o21 : D × D} {o25 : D × D} (m1 : o1 ∈ right_o1) (m21 : o21 ∈ right_o21) (m25 : o25 ∈ (right_o25 o21)) : (sNew 4 (eCall fLst (eCons (eCall fTup (eCons (eC (.str "operation")) (eCons (eVar 6) eNil))) (eCons (eCall fTup (eCons (eC (.str "operation")) (eCons (eOr (eVar 16) (eVar 18)) eNil))) eNil)))) [some (.cell 0), some (.d u1), some (.d u2), some (.d u3), some (.cell 2), some (.d u5), some (.d (right_v2_6 o1)), some (.d u7), some (.d u8), some (.d u9), some (.d u10), some (.d u11), some (.d u12), some (.d u13), some (.d u14), some (.d u15), some (.d (right_v15_16 o21)), some (.d u17), some (.d (right_v17_18 o21 o25))] (dice a b c :: some (.lst w1) :: some (.lst w2) :: []) = .nx [some (.cell 0), some (.d u1), some (.d u2), some (.d u3), some (.cell 3), some (.d u5), some (.d (right_v2_6 o1)), some (.d u7), some (.d u8), some (.d u9), some (.d u10), some (.d u11), some (.d u12), some (.d u13), some (.d u14), some (.d u15), some (.d (right_v15_16 o21)), some (.d u17), some (.d (right_v17_18 o21 o25))] (dice a b c :: some (.lst w1) :: some (.lst w2) :: some (.lst (right_y18_3 o1 o21 o25)) :: []) := List.map_inj_left.mp (List.map_inj_left.mp (List.map_inj_left.mp (right_s18_k a b c u1 u2 u3 u5 u7 u8 u9 u10 u11 u12 u13 u14 u15 u17 w1 w2) _ m1) _ m21) _ m25
theorem right_s19_k (a b c : Int) (u1 u2 u3 u5 u6 u7 u8 u9 u10 u11 u12 u13 u14 u15 u16 u17 u18 : D) (w1 w2 : List D) : ((right_o1).map fun o1 => (right_o21).map fun o21 => ((right_o25 o21)).map fun o25 => (sFrz 1 4) [some (.cell 0), some (.d u1), some (.d u2), some (.d u3), some (.cell 3), some (.d u5), some (.d u6), some (.d u7), some (.d u8), some (.d u9), some (.d u10), some (.d u11), some (.d u12), some (.d u13), some (.d u14), some (.d u15), some (.d u16), some (.d u17), some (.d u18)] (dice a b c :: some (.lst w1) :: some (.lst w2) :: some (.lst (right_y18_3 o1 o21 o25)) :: [])) = ((right_o1).map fun o1 => (right_o21).map fun o21 => ((right_o25 o21)).map fun o25 => .nx [some (.cell 0), some (.d u1), some (.d u2), some (.d u3), some (.d (.lst (right_y18_3 o1 o21 o25))), some (.d u5), some (.d u6), some (.d u7), some (.d u8), some (.d u9), some (.d u10), some (.d u11), some (.d u12), some (.d u13), some (.d u14), some (.d u15), some (.d u16), some (.d u17), some (.d u18)] (dice a b c :: some (.lst w1) :: some (.lst w2) :: [])) := by kernel_rfl
theorem right_s19 (a b c : Int) (u1 u2 u3 u5 u6 u7 u8 u9 u10 u11 u12 u13 u14 u15 u16 u17 u18 : D) (w1 w2 : List D) {o1 : D × D} {o21 : D × D} {o25 : D × D} (m1 : o1 ∈ right_o1) (m21 : o21 ∈ right_o21) (m25 : o25 ∈ (right_o25 o21)) : (sFrz 1 4) [some (.cell 0), some (.d u1), some (.d u2), some (.d u3), some (.cell 3), some (.d u5), some (.d u6), some (.d u7), some (.d u8), some (.d u9), some (.d u10), some (.d u11), some (.d u12), some (.d u13), some (.d u14), some (.d u15), some (.d u16), some (.d u17), some (.d u18)] (dice a b c :: some (.lst w1) :: some (.lst w2) :: some (.lst (right_y18_3 o1 o21 o25)) :: []) = .nx [some (.cell 0), some (.d u1), some (.d u2), some (.d u3), some (.d (.lst (right_y18_3 o1 o21 o25))), some (.d u5), some (.d u6), some (.d u7), some (.d u8), some (.d u9), some (.d u10), some (.d u11), some (.d u12), some (.d u13), some (.d u14), some (.d u15), some (.d u16), some (.d u17), some (.d u18)] (dice a b c :: some (.lst w1) :: some (.lst w2) :: []) := List.map_inj_left.mp (List.map_inj_left.mp (List.map_inj_left.mp (right_s19_k a b c u1 u2 u3 u5 u6 u7 u8 u9 u10 u11 u12 u13 u14 u15 u16 u17 u18 w1 w2) _ m1) _ m21) _ m25
theorem right_s20_k (a b c : Int) (u1 u2 u3 u6 u7 u8 u9 u10 u11 u12 u13 u14 u15 u16 u18 : D) (w1 w2 : List D) : ((right_o1).map fun o1 => (right_o21).map fun o21 => ((right_o25 o21)).map fun o25 => finF 1 ((sRet (eBin fEq (eMet metT "none" (eCall d_fits_under (eCons (eVar 5) (eCons (eVar 17) eNil)))) (eLend 4 (eCall d__law_first (eCons (eVar 4) eNil))))) [some (.cell 0), some (.d u1), some (.d u2), some (.d u3), some (.d (.lst (right_y18_3 o1 o21 o25))), some (.d (right_v2_5 o1)), some (.d u6), some (.d u7), some (.d u8), some (.d u9), some (.d u10), some (.d u11), some (.d u12), some (.d u13), some (.d u14), some (.d u15), some (.d u16), some (.d (right_v17_17 o21 o25)), some (.d u18)] (dice a b c :: some (.lst w1) :: some (.lst w2) :: []))) = ((right_o1).map fun o1 => (right_o21).map fun o21 => ((right_o25 o21)).map fun o25 => .ok (.d (.bl true)) (dice a b c :: [])) := by kernel_rfl
theorem right_s20 (a b c : Int) (u1 u2 u3 u6 u7 u8 u9 u10 u11 u12 u13 u14 u15 u16 u18 : D) (w1 w2 : List D) {o1 : D × D} {o21 : D × D} {o25 : D × D} (m1 : o1 ∈ right_o1) (m21 : o21 ∈ right_o21) (m25 : o25 ∈ (right_o25 o21)) : finF 1 ((sRet (eBin fEq (eMet metT "none" (eCall d_fits_under (eCons (eVar 5) (eCons (eVar 17) eNil)))) (eLend 4 (eCall d__law_first (eCons (eVar 4) eNil))))) [some (.cell 0), some (.d u1), some (.d u2), some (.d u3), some (.d (.lst (right_y18_3 o1 o21 o25))), some (.d (right_v2_5 o1)), some (.d u6), some (.d u7), some (.d u8), some (.d u9), some (.d u10), some (.d u11), some (.d u12), some (.d u13), some (.d u14), some (.d u15), some (.d u16), some (.d (right_v17_17 o21 o25)), some (.d u18)] (dice a b c :: some (.lst w1) :: some (.lst w2) :: [])) = .ok (.d (.bl true)) (dice a b c :: []) := List.map_inj_left.mp (List.map_inj_left.mp (List.map_inj_left.mp (right_s20_k a b c u1 u2 u3 u6 u7 u8 u9 u10 u11 u12 u13 u14 u15 u16 u18 w1 w2) _ m1) _ m21) _ m25
theorem right_ex (a0 b c0 : Int) : ∃ a' c', d__law_right [.cell 0] [dice a0 b c0] = .ok (.d (.bl true)) [dice a' b c'] := by
  have e10000 := (right_s0 a0 b c0  )
  have e10001 := (right_s1 a0 b c0 (right_v0_1) )
  obtain ⟨o1, m1, a1, c1, e1⟩ := one_at_pick (T := []) (Γ := [some (.cell 0), some (.d right_v0_1), some (.d right_v1_2), none, none, none, none, none, none, none, none, none, none, none, none, none, none, none, none]) (a := a0) (b := b) (c := c0) rfl (fun a b c => right_p2 (right_v0_1) (right_v1_2) a b c ) (fun a b c => right_p3 (right_v1_2) a b c ) (right_c4 )
  have e10002 := ((lk_asgT e1).trans (right_s2 a1 b c1 (right_v0_1) (right_v1_2) m1))
  have e10003 := (right_s3 a1 b c1 (right_v0_1) (right_v1_2) ((right_v2_5 o1)) ((right_v2_6 o1)) )
  obtain ⟨o5, m5, a2, c2, e5⟩ := one_at_roll (T := []) (Γ := [some (.cell 0), some (.d right_v0_1), some (.d right_v1_2), some (.d right_v3_3), none, some (.d (right_v2_5 o1)), some (.d (right_v2_6 o1)), none, none, none, none, none, none, none, none, none, none, none, none]) (a := a1) (b := b) (c := c1) rfl (fun a b c => right_p6 (right_v0_1) (right_v1_2) ((right_v2_5 o1)) ((right_v2_6 o1)) a b c ) (fun a b c => right_p7 (right_v0_1) (right_v3_3) ((right_v2_5 o1)) ((right_v2_6 o1)) a b c ) (right_c8 )
  have e10004 := ((lk_asgT e5).trans (right_s4 a2 b c2 (right_v0_1) (right_v1_2) (right_v3_3) ((right_v2_5 o1)) ((right_v2_6 o1)) m5))
  obtain ⟨o9, m9, a3, c3, e9⟩ := one_at_pick (T := []) (Γ := [some (.cell 0), some (.d right_v0_1), some (.d right_v1_2), some (.d right_v3_3), none, some (.d (right_v2_5 o1)), some (.d (right_v2_6 o1)), some (.d (right_v4_7 o5)), some (.d (right_v4_8 o5)), none, none, none, none, none, none, none, none, none, none]) (a := a2) (b := b) (c := c2) rfl (fun a b c => right_p10 (right_v0_1) (right_v1_2) (right_v3_3) ((right_v2_5 o1)) ((right_v2_6 o1)) ((right_v4_7 o5)) ((right_v4_8 o5)) a b c ) (fun a b c => right_p11 (right_v0_1) (right_v3_3) ((right_v2_5 o1)) ((right_v2_6 o1)) ((right_v4_7 o5)) ((right_v4_8 o5)) a b c ) (right_c12 )
  have e10005 := ((lk_asgT e9).trans (right_s5 a3 b c3 (right_v0_1) (right_v1_2) (right_v3_3) ((right_v2_5 o1)) ((right_v2_6 o1)) ((right_v4_7 o5)) ((right_v4_8 o5)) m9))
  have e10006 := (right_s6 a3 b c3 (right_v0_1) (right_v1_2) (right_v3_3) ((right_v2_5 o1)) m1 m5 m9)
  have e10007 := (right_s7 a3 b c3 (right_v0_1) (right_v1_2) (right_v3_3) ((right_v2_6 o1)) ((right_v4_8 o5)) ((right_v5_10 o9)) m1 m5 m9)
  have e10008 := (right_s8 a3 b c3 (right_v0_1) (right_v1_2) (right_v3_3) ((right_v2_6 o1)) ((right_v4_8 o5)) ((right_v5_10 o9)) m1 m5 m9)
  have e10009 := (right_s9 a3 b c3 (right_v0_1) (right_v1_2) (right_v3_3) ((right_v2_6 o1)) ((right_v4_8 o5)) ((right_v5_10 o9)) m1 m5 m9)
  obtain ⟨o13, m13, a4, c4, e13⟩ := one_at_val (T := some (.lst (right_y8_1 o1 o5 o9)) :: []) (Γ := [some (.cell 0), some (.d right_v0_1), some (.d right_v1_2), some (.d right_v3_3), some (.cell 1), some (.d (right_v2_5 o1)), some (.d (right_v2_6 o1)), some (.d (right_v4_7 o5)), some (.d (right_v4_8 o5)), some (.d (right_v5_9 o9)), some (.d (right_v5_10 o9)), none, none, none, none, none, none, none, none]) (a := a3) (b := b) (c := c3) rfl (fun a b c => right_p14 (right_v0_1) (right_v1_2) (right_v3_3) ((right_v2_5 o1)) ((right_v2_6 o1)) ((right_v4_7 o5)) ((right_v4_8 o5)) ((right_v5_9 o9)) ((right_v5_10 o9)) ((right_y8_1 o1 o5 o9)) a b c ) (fun a b c => right_p15 (right_v0_1) (right_v1_2) (right_v3_3) ((right_v2_5 o1)) ((right_v2_6 o1)) ((right_v4_7 o5)) ((right_v4_8 o5)) ((right_v5_9 o9)) ((right_v5_10 o9)) ((right_y8_1 o1 o5 o9)) a b c ) (right_c16 )
  have e10010 := ((lk_asgT e13).trans (right_s10 a4 b c4 (right_v0_1) (right_v1_2) (right_v3_3) ((right_v2_5 o1)) ((right_v2_6 o1)) ((right_v4_7 o5)) ((right_v4_8 o5)) ((right_v5_9 o9)) ((right_v5_10 o9)) ((right_y8_1 o1 o5 o9)) m13))
  obtain ⟨o17, m17, a5, c5, e17⟩ := one_at_val (T := some (.lst (right_y8_1 o1 o5 o9)) :: []) (Γ := [some (.cell 0), some (.d right_v0_1), some (.d right_v1_2), some (.d right_v3_3), some (.cell 1), some (.d (right_v2_5 o1)), some (.d (right_v2_6 o1)), some (.d (right_v4_7 o5)), some (.d (right_v4_8 o5)), some (.d (right_v5_9 o9)), some (.d (right_v5_10 o9)), some (.d (right_v10_11 o13)), some (.d (right_v10_12 o13)), none, none, none, none, none, none]) (a := a4) (b := b) (c := c4) rfl (fun a b c => right_p18 (right_v0_1) (right_v1_2) (right_v3_3) ((right_v2_5 o1)) ((right_v2_6 o1)) ((right_v4_7 o5)) ((right_v4_8 o5)) ((right_v5_9 o9)) ((right_v5_10 o9)) ((right_v10_12 o13)) ((right_y8_1 o1 o5 o9)) a b c m13) (fun a b c => right_p19 (right_v0_1) (right_v1_2) (right_v3_3) ((right_v2_5 o1)) ((right_v2_6 o1)) ((right_v4_7 o5)) ((right_v4_8 o5)) ((right_v5_9 o9)) ((right_v5_10 o9)) ((right_v10_11 o13)) ((right_v10_12 o13)) ((right_y8_1 o1 o5 o9)) a b c ) (right_c20 m13)
  have e10011 := ((lk_asgT e17).trans (right_s11 a5 b c5 (right_v0_1) (right_v1_2) (right_v3_3) ((right_v2_5 o1)) ((right_v2_6 o1)) ((right_v4_7 o5)) ((right_v4_8 o5)) ((right_v5_9 o9)) ((right_v5_10 o9)) ((right_v10_11 o13)) ((right_v10_12 o13)) ((right_y8_1 o1 o5 o9)) m13 m17))
  have e10012 := (right_s12 a5 b c5 (right_v0_1) (right_v1_2) (right_v3_3) ((right_v2_5 o1)) ((right_v2_6 o1)) ((right_v4_7 o5)) ((right_v4_8 o5)) ((right_v5_9 o9)) ((right_v5_10 o9)) ((right_y8_1 o1 o5 o9)) m13 m17)
  have e10013 := (right_s13 a5 b c5 (right_v0_1) (right_v1_2) (right_v3_3) ((right_v2_5 o1)) ((right_v4_7 o5)) ((right_v4_8 o5)) ((right_v5_9 o9)) ((right_v5_10 o9)) ((right_v10_11 o13)) ((right_v12_13 o13 o17)) ((right_y8_1 o1 o5 o9)) m1 m13 m17)
  have e10014 := (right_s14 a5 b c5 (right_v0_1) (right_v1_2) (right_v3_3) ((right_v2_6 o1)) ((right_v4_7 o5)) ((right_v4_8 o5)) ((right_v5_9 o9)) ((right_v5_10 o9)) ((right_v10_11 o13)) ((right_v10_12 o13)) ((right_v12_14 o13 o17)) ((right_y8_1 o1 o5 o9)) m1 m13 m17)
  obtain ⟨o21, m21, a6, c6, e21⟩ := one_at_pick (T := some (.lst (right_y8_1 o1 o5 o9)) :: some (.lst (right_y13_2 o1 o13 o17)) :: []) (Γ := [some (.cell 0), some (.d right_v0_1), some (.d right_v1_2), some (.d right_v3_3), some (.cell 2), some (.d (right_v2_5 o1)), some (.d (right_v2_6 o1)), some (.d (right_v4_7 o5)), some (.d (right_v4_8 o5)), some (.d (right_v5_9 o9)), some (.d (right_v5_10 o9)), some (.d (right_v10_11 o13)), some (.d (right_v10_12 o13)), some (.d (right_v12_13 o13 o17)), some (.d (right_v12_14 o13 o17)), none, none, none, none]) (a := a5) (b := b) (c := c5) rfl (fun a b c => right_p22 (right_v0_1) (right_v1_2) (right_v3_3) ((right_v2_5 o1)) ((right_v2_6 o1)) ((right_v4_7 o5)) ((right_v4_8 o5)) ((right_v5_9 o9)) ((right_v5_10 o9)) ((right_v10_11 o13)) ((right_v10_12 o13)) ((right_v12_13 o13 o17)) ((right_v12_14 o13 o17)) ((right_y8_1 o1 o5 o9)) ((right_y13_2 o1 o13 o17)) a b c ) (fun a b c => right_p23 (right_v1_2) (right_v3_3) ((right_v2_5 o1)) ((right_v2_6 o1)) ((right_v4_7 o5)) ((right_v4_8 o5)) ((right_v5_9 o9)) ((right_v5_10 o9)) ((right_v10_11 o13)) ((right_v10_12 o13)) ((right_v12_13 o13 o17)) ((right_v12_14 o13 o17)) ((right_y8_1 o1 o5 o9)) ((right_y13_2 o1 o13 o17)) a b c ) (right_c24 )
  have e10015 := ((lk_asgT e21).trans (right_s15 a6 b c6 (right_v0_1) (right_v1_2) (right_v3_3) ((right_v2_5 o1)) ((right_v2_6 o1)) ((right_v4_7 o5)) ((right_v4_8 o5)) ((right_v5_9 o9)) ((right_v5_10 o9)) ((right_v10_11 o13)) ((right_v10_12 o13)) ((right_v12_13 o13 o17)) ((right_v12_14 o13 o17)) ((right_y8_1 o1 o5 o9)) ((right_y13_2 o1 o13 o17)) m21))
  obtain ⟨o25, m25, a7, c7, e25⟩ := one_at_val (T := some (.lst (right_y8_1 o1 o5 o9)) :: some (.lst (right_y13_2 o1 o13 o17)) :: []) (Γ := [some (.cell 0), some (.d right_v0_1), some (.d right_v1_2), some (.d right_v3_3), some (.cell 2), some (.d (right_v2_5 o1)), some (.d (right_v2_6 o1)), some (.d (right_v4_7 o5)), some (.d (right_v4_8 o5)), some (.d (right_v5_9 o9)), some (.d (right_v5_10 o9)), some (.d (right_v10_11 o13)), some (.d (right_v10_12 o13)), some (.d (right_v12_13 o13 o17)), some (.d (right_v12_14 o13 o17)), some (.d (right_v15_15 o21)), some (.d (right_v15_16 o21)), none, none]) (a := a6) (b := b) (c := c6) rfl (fun a b c => right_p26 (right_v0_1) (right_v1_2) (right_v3_3) ((right_v2_5 o1)) ((right_v2_6 o1)) ((right_v4_7 o5)) ((right_v4_8 o5)) ((right_v5_9 o9)) ((right_v5_10 o9)) ((right_v10_11 o13)) ((right_v10_12 o13)) ((right_v12_13 o13 o17)) ((right_v12_14 o13 o17)) ((right_v15_16 o21)) ((right_y8_1 o1 o5 o9)) ((right_y13_2 o1 o13 o17)) a b c m21) (fun a b c => right_p27 (right_v0_1) (right_v1_2) (right_v3_3) ((right_v2_5 o1)) ((right_v2_6 o1)) ((right_v4_7 o5)) ((right_v4_8 o5)) ((right_v5_9 o9)) ((right_v5_10 o9)) ((right_v10_11 o13)) ((right_v10_12 o13)) ((right_v12_13 o13 o17)) ((right_v12_14 o13 o17)) ((right_v15_15 o21)) ((right_v15_16 o21)) ((right_y8_1 o1 o5 o9)) ((right_y13_2 o1 o13 o17)) a b c ) (right_c28 m21)
  have e10016 := ((lk_asgT e25).trans (right_s16 a7 b c7 (right_v0_1) (right_v1_2) (right_v3_3) ((right_v2_5 o1)) ((right_v2_6 o1)) ((right_v4_7 o5)) ((right_v4_8 o5)) ((right_v5_9 o9)) ((right_v5_10 o9)) ((right_v10_11 o13)) ((right_v10_12 o13)) ((right_v12_13 o13 o17)) ((right_v12_14 o13 o17)) ((right_v15_15 o21)) ((right_v15_16 o21)) ((right_y8_1 o1 o5 o9)) ((right_y13_2 o1 o13 o17)) m21 m25))
  have e10017 := (right_s17 a7 b c7 (right_v0_1) (right_v1_2) (right_v3_3) ((right_v2_5 o1)) ((right_v2_6 o1)) ((right_v4_7 o5)) ((right_v4_8 o5)) ((right_v5_9 o9)) ((right_v5_10 o9)) ((right_v10_11 o13)) ((right_v10_12 o13)) ((right_v12_13 o13 o17)) ((right_v12_14 o13 o17)) ((right_y8_1 o1 o5 o9)) ((right_y13_2 o1 o13 o17)) m21 m25)
  have e10018 := (right_s18 a7 b c7 (right_v0_1) (right_v1_2) (right_v3_3) ((right_v2_5 o1)) ((right_v4_7 o5)) ((right_v4_8 o5)) ((right_v5_9 o9)) ((right_v5_10 o9)) ((right_v10_11 o13)) ((right_v10_12 o13)) ((right_v12_13 o13 o17)) ((right_v12_14 o13 o17)) ((right_v15_15 o21)) ((right_v17_17 o21 o25)) ((right_y8_1 o1 o5 o9)) ((right_y13_2 o1 o13 o17)) m1 m21 m25)
  have e10019 := (right_s19 a7 b c7 (right_v0_1) (right_v1_2) (right_v3_3) ((right_v2_5 o1)) ((right_v2_6 o1)) ((right_v4_7 o5)) ((right_v4_8 o5)) ((right_v5_9 o9)) ((right_v5_10 o9)) ((right_v10_11 o13)) ((right_v10_12 o13)) ((right_v12_13 o13 o17)) ((right_v12_14 o13 o17)) ((right_v15_15 o21)) ((right_v15_16 o21)) ((right_v17_17 o21 o25)) ((right_v17_18 o21 o25)) ((right_y8_1 o1 o5 o9)) ((right_y13_2 o1 o13 o17)) m1 m21 m25)
  have e10020 := (right_s20 a7 b c7 (right_v0_1) (right_v1_2) (right_v3_3) ((right_v2_6 o1)) ((right_v4_7 o5)) ((right_v4_8 o5)) ((right_v5_9 o9)) ((right_v5_10 o9)) ((right_v10_11 o13)) ((right_v10_12 o13)) ((right_v12_13 o13 o17)) ((right_v12_14 o13 o17)) ((right_v15_15 o21)) ((right_v15_16 o21)) ((right_v17_18 o21 o25)) ((right_y8_1 o1 o5 o9)) ((right_y13_2 o1 o13 o17)) m1 m21 m25)
  refine ⟨a7, c7, ?_⟩
  unfold d__law_right
  exact (sq_fin e10000 (sq_fin e10001 (sq_fin e10002 (sq_fin e10003 (sq_fin e10004 (sq_fin e10005 (sq_fin e10006 (sq_fin e10007 (sq_fin e10008 (sq_fin e10009 (sq_fin e10010 (sq_fin e10011 (sq_fin e10012 (sq_fin e10013 (sq_fin e10014 (sq_fin e10015 (sq_fin e10016 (sq_fin e10017 (sq_fin e10018 (sq_fin e10019 e10020))))))))))))))))))))
end L16


namespace L16
open PySem L2 Pd Pq
/-! ### the law's own loops -/
theorem turns_ex {dd t : Nat} {B : Sv} (ht : t ≠ dd) (hB : ∀ (Γ : Pd.Env) (a b c : Int), Γ[dd]? = some (some (.cell 0)) → ∃ a' b' c', B Γ [dice a b c] = .nx Γ [dice a' b' c']) :
    ∀ (ds : List D) (Γ : Pd.Env) (a b c : Int), Γ[dd]? = some (some (.cell 0)) → ∃ (Γ' : Pd.Env) (a' b' c' : Int), (Γ' = Γ ∨ ∃ x, Γ' = Γ.set t (some (.d x))) ∧ forD (tgN t) B ds Γ [dice a b c] = .nx Γ' [dice a' b' c']
  | [], Γ, a, b, c, _ => ⟨Γ, a, b, c, .inl rfl, rfl⟩
  | x :: ds, Γ, a, b, c, h => by
    have h1 : (Γ.set t (some (.d x)))[dd]? = some (some (.cell 0)) := by rw [List.getElem?_set_ne ht]; exact h
    obtain ⟨a1, b1, c1, e1⟩ := hB (Γ.set t (some (.d x))) a b c h1
    obtain ⟨Γ', a2, b2, c2, hΓ, e2⟩ := turns_ex ht hB ds (Γ.set t (some (.d x))) a1 b1 c1 h1
    refine ⟨Γ', a2, b2, c2, ?_, ?_⟩
    · rcases hΓ with z | ⟨y, z⟩
      · exact .inr ⟨x, z⟩
      · exact .inr ⟨y, by rw [z, List.set_set]⟩
    · show (match tgN t x Γ with | some Γ1 => F.lp (B Γ1 [dice a b c]) (forD (tgN t) B ds) | none => .bad) = _
      show F.lp (B (Γ.set t (some (.d x))) [dice a b c]) (forD (tgN t) B ds) = _
      rw [e1]
      exact e2
theorem not_callD {dd : Nat} {Γ : Pd.Env} {S S1 : Store} {d : List Val → Store → R Val} (h : Γ[dd]? = some (some (.cell 0))) (e : d [.cell 0] S = .ok (.d (.bl true)) S1) : eTest (eNot (eCall d (eCons (eVar dd) eNil))) Γ S = .ok false S1 := by
  have q : eVar dd Γ S = .ok (.cell 0) S := by unfold eVar; rw [h]
  have q2 : eCall d (eCons (eVar dd) eNil) Γ S = .ok (.d (.bl true)) S1 := c1 q e
  exact not_i (p := true) q2
theorem or_fD {a b : Ev} {Γ : Pd.Env} {S S1 : Store} {r : R Bool} (h : eTest a Γ S = .ok false S1) (k : eTest b Γ S1 = r) : eTest (eOr a b) Γ S = r := by
  unfold eTest eOr
  rw [R.bind_assoc, h]
  exact k
end L16


namespace L16
open PySem L2 Pd Pq
theorem turn_ex (Γ : Pd.Env) (a b c : Int) (h : Γ[3]? = some (some (.cell 0))) : ∃ a' b' c', (sIf (eOr (eNot (eCall d__law_right (eCons (eVar 3) eNil))) (eNot (eCall d__law_right (eCons (eVar 3) eNil)))) (sRet (eC (.bl false))) sNil) Γ [dice a b c] = .nx Γ [dice a' b' c'] := by
  obtain ⟨a1, c1, e0⟩ := right_ex a b c
  obtain ⟨a2, c2, e1⟩ := right_ex a1 b c1
  exact ⟨a2, b, c2, if_f (or_fD (not_callD h e0) (not_callD h e1)) rfl⟩
theorem tail_ex (ns : List Int) (u1 u3 : Option Val) : (sSeq (sPVN 4 5 (eBin fPow (eC (.int 10)) (eC (.int 64))) (eCall fLst eNil)) (sSeq (sEx (eApp (eVar 5) (eMet metT "none" (eCall d_push_in (eCons (eCall fTup (eCons (eVar 4) (eCons (eC (.int 0)) eNil))) (eCons (eC (.int 1)) (eCons (eC (.int 1)) eNil))))))) (sSeq (sEx (eApp (eVar 5) (eMet metT "none" (eCall d_push_in (eCons (eCall fTup (eCons (eBin fSub (eVar 4) (eC (.int 1))) (eCons (eC (.int 0)) eNil))) (eCons (eC (.int 1)) (eCons (eC (.int 1)) eNil))))))) (sSeq (sEx (eApp (eVar 5) (eMet metT "none" (eCall d_push_in (eCons (eCall fTup (eCons (eC (.int 0)) (eCons (eVar 4) eNil))) (eCons (eC (.int 0)) (eCons (eC (.int 5)) eNil))))))) (sSeq (sEx (eApp (eVar 5) (eMet metT "none" (eCall d_push_in (eCons (eCall fTup (eCons (eC (.int 0)) (eCons (eBin fSub (eVar 4) (eC (.int 3))) eNil))) (eCons (eC (.int 0)) (eCons (eVar 4) eNil))))))) (sSeq (sEx (eApp (eVar 5) (eMet metT "none" (eCall d_push_word (eCons (eCall fTup (eCons (eC (.int 0)) (eCons (eVar 4) eNil))) (eCons (eCall (mkO "Word" d_Word___init__) (eCons (eC (.int 2)) (eCons (eCall fTup (eCons (eCall fTup (eCons (eC (.int 0)) (eCons (eC (.int 4)) eNil))) eNil)) eNil))) eNil)))))) (sSeq (sEx (eApp (eVar 5) (eMet metT "none" (eCall d_push_word (eCons (eCall fTup (eCons (eBin fSub (eVar 4) (eC (.int 4))) (eCons (eC (.int 0)) eNil))) (eCons (eCall (mkO "Word" d_Word___init__) (eCons (eC (.int 2)) (eCons (eCall fTup (eCons (eCall fTup (eCons (eC (.int 1)) (eCons (eC (.int 4)) eNil))) (eCons (eCall fTup (eCons (eC (.int 0)) (eCons (eC (.int 4)) eNil))) eNil))) eNil))) eNil)))))) (sSeq (sEx (eApp (eVar 5) (eMet metT "none" (eCall d_push_word (eCons (eCall fTup (eCons (eBin fSub (eVar 4) (eC (.int 4))) (eCons (eC (.int 0)) eNil))) (eCons (eCall (mkO "Word" d_Word___init__) (eCons (eC (.int 2)) (eCons (eCall fTup (eCons (eCall fTup (eCons (eC (.int 1)) (eCons (eC (.int 5)) eNil))) (eCons (eCall fTup (eCons (eC (.int 0)) (eCons (eC (.int 4)) eNil))) eNil))) eNil))) eNil)))))) (sSeq (sEx (eApp (eVar 5) (eMet metT "none" (eCall d_pull_in (eCons (eCall fTup (eCons (eVar 4) (eCons (eC (.int 0)) eNil))) (eCons (eC (.int 1)) (eCons (eVar 4) eNil))))))) (sSeq (sFrz 0 5) (sSeq (sAsg 2 (eBin fAdd (eC (.str "many ")) (eUn fRepr (eVar 4)))) (sRet (eBin fEq (eVar 5) (eCall fLst (eCons (eVar 2) (eCons (eC (.str "none")) (eCons (eC (.str "none")) (eCons (eC (.str "none")) (eCons (eC (.str "none")) (eCons (eC (.str "none")) (eCons (eVar 2) (eCons (eC (.str "none")) eNil)))))))))))))))))))))) [some (.d (.scr ns)), u1, none, u3, none, none] [] = .rt (.d (.bl true)) [] := by kernel_rfl
theorem law_den (ns : List Int) (h : ns.length ≤ 63) : d_law [.d (.scr ns)] [] = .ok (.d (.bl true)) [] := by
  obtain ⟨Γ', S', e, ⟨o1, o3, o4, rfl, rfl⟩⟩ := forD_inv (tg := (tgN 1)) (body := (sSeq (sNew 3 (eCall d__law_dice (eCons (eVar 0) (eCons (eVar 1) eNil)))) (sSeq (sIf (eOr (eNot (eCall d__law_right (eCons (eVar 3) eNil))) (eNot (eCall d__law_right (eCons (eVar 3) eNil)))) (sRet (eC (.bl false))) sNil) (sSeq (sFrz 0 3) sNil)))) (upto (max 1 (min 6 (ns.length : Int))).toNat)
    (fun i Γ S' => ∃ (o1 o3 o4 : Option D), Γ = [some (.d (.scr ns)), o1.map .d, none, o3.map .d, none, none] ∧ S' = []) (Γ := [some (.d (.scr ns)), none, none, none, none, none]) (S := []) ⟨none, none, none, rfl, rfl⟩ (by
      rintro i x Γ S' hx ⟨o1, o3, o4, rfl, rfl⟩
      obtain ⟨rfl, hi⟩ := upto_get hx
      obtain ⟨a, b, c, e1⟩ := dice_ex ns i []
      have q1 : (sNew 3 (eCall d__law_dice (eCons (eVar 0) (eCons (eVar 1) eNil)))) [some (.d (.scr ns)), some (.d (.int i)), none, o3.map .d, none, none] [] = .nx [some (.d (.scr ns)), some (.d (.int i)), none, some (.cell 0), none, none] [dice a b c] := new_i (S1 := []) (c2 (S1 := []) (S2 := []) rfl rfl e1)
      obtain ⟨a2, b2, c2, e2⟩ := turn_ex [some (.d (.scr ns)), some (.d (.int i)), none, some (.cell 0), none, none] a b c rfl
      exact ⟨_, rfl, [some (.d (.scr ns)), some (.d (.int i)), none, some (.d (.lst [.int a2, .int b2, .int c2])), none, none], [], .inl (sq_nx q1 (sq_nx e2 rfl)), some (.int i), some (.lst [.int a2, .int b2, .int c2]), o4, rfl, rfl⟩)
  have hm : 0 ≤ max 1 (min 6 (ns.length : Int)) := by omega
  have q0 : (itR1 (eBin fMax2 (eC (.int 1)) (eBin fMin2 (eC (.int 6)) (eUn fLen (eVar 0))))) [some (.d (.scr ns)), none, none, none, none, none] [] = .ok (upto (max 1 (min 6 (ns.length : Int))).toNat) [] := itR1_i (n := max 1 (min 6 (ns.length : Int))) (m := (max 1 (min 6 (ns.length : Int))).toNat) (by
    simp only [funD, finF, fin, sNil, sSeq, sEx, sRet, sRetN, sAsg, sNew, sIf, sAsgT, sPar, sFrz, sRetC, sNever, sBrk, sCont, sFor, eVar, eC, eBin, eUn, eTest, eAnd, eOr, eNot, eIf, eChain, eNil, eCons, eCall, eSl, eoN, eoS, eApp, eExt, ePop, sSet, itV, itR1, itR2, itEn, itZ, eLc, asB, clo, fTup, fLst, fAddL, fMulL, fI, fAdd, fSub, fMul, fDiv, fMod, fPow, fNeg, fLt, fLe, fGt, fGe, fEq, fNe, fIx, fIsN, fNotN, Pd.isNon, fLen, fAbs, fInt, fTuple, fList, fSum, fAll, fAny, fMax2, fMin2, isiD, fIsi, fSl, fRev, fSorted, fRepr, rd, R.bind, R.fl, F.lp, noX, tYesD, lcY, tgN, tgsNil, tgsCons, tgT, wipeE, keepB, List.map_cons, List.map_nil, List.replicate_succ, List.replicate_zero, List.cons_append, List.nil_append, List.append_nil, List.length_cons, List.length_nil, List.length_append, List.getElem?_cons_zero, List.getElem?_cons_succ, List.getElem?_nil, List.set_cons_zero, List.set_cons_succ, List.take_zero, List.take_succ_cons, List.take_nil, Option.map_some, Option.map_none, Option.bind_some, Option.bind_none, Nat.zero_add, Nat.add_zero, Nat.reduceAdd, Nat.reduceLeDiff, Nat.reduceSub, Nat.reduceEqDiff, Int.reduceLT, Int.reduceLE, Int.reduceEq, Int.reduceNeg, Int.reduceAdd, Int.reduceSub, Int.reduceMul, decide_true, decide_false, ↓reduceIte, decide_eq_true_eq, Bool.not_eq_true', decide_eq_false_iff_not, Bool.false_eq_true, Bool.true_eq_false, Bool.not_true, Bool.not_false, true_and, and_true, and_self, false_and, and_false]
    have z : (if (if (ns.length : Int) < 6 then (ns.length : Int) else 6) > 1 then (if (ns.length : Int) < 6 then (ns.length : Int) else 6) else 1) = max 1 (min 6 (ns.length : Int)) := by
      by_cases h1 : (ns.length : Int) < 6
      · simp only [h1, if_true]
        split <;> omega
      · simp only [h1, if_false]
        omega
    rw [z]) (by omega) (by omega)
  unfold d_law
  exact funD_rt (S1 := []) (sq_nx (for_i q0 e) (tail_ex ns _ _)) rfl
end L16

set_option maxHeartbeats 4000000
namespace L16
open PySem PySem.Spec PyProof.Rows L2 Pd
theorem tabIn_mk {K : PySem.W.Frag} {x : Str} {f c P : Addr} {oc oc' : Value} {od od' : Option Addr} {fd : FuncData} {sl sl' : Array (Option Value)} {vs : Array Value} (h1 : PySem.W.nsIn K mainGlobals x = some (some (.ref f))) (h2 : K.lookup f = some ⟨oc, od, .func fd, sl⟩) (h3 : fd.code = .ref c)
    (h4 : K.lookup c = some ⟨oc', od', .fields vs, sl'⟩) (h5 : vs[11]? = some (.ref P)) : PySem.W.tabIn K x = some (c, P) := by
  unfold PySem.W.tabIn
  rw [h1]
  simp only [h2, h3, h4, h5]

set_option maxHeartbeats 0 in
theorem all_mk {l : PySem.W.OpenLaw} {w : World} {K : PySem.W.Frag} {h : Heap} {mg : Str → Option Value} {fa : Addr} (X : K.In h) (G : h.Ns mainGlobals mg) (hfa : mg "law" = some (.ref fa)) {q : Program} {loose : List Str} {mean : ExcName → Option Value} {mb : Str → Option Value} (TP : Top q loose mean mg mb h)
    {k_Word : Addr} (n_Word : PySem.W.nsIn K mainGlobals "Word" = some (some (.ref k_Word)))
    (pg_Word : PySem.W.plainGet K k_Word Str.empty = true)
    (ic_Word : PySem.W.isClsIn K k_Word = true)
    (po_Word : PySem.W.plainOver K k_Word = true)
    (sa_Word : PySem.W.findIn K (.ref k_Word) "__setattr__" = some (some (.builtin "object.__setattr__")))
    (mk_Word : PySem.W.makesIn K k_Word = true)
    (kc_Word : PySem.W.keepIn K (.ref k_Word) = true)
    (ca_Word : PySem.W.findIn K (.ref k_Word) "__class__" = some (some (.builtin "object.__class__")))
    (cn_Word : PySem.W.specialIn K (.builtin "object.__class__") "__get__" = some (some (.builtin "getset_descriptor.__get__")))
    (ct_Word : PySem.W.takesIn K (.builtin "object.__class__") = some true)
    (cm_Word : PySem.W.mroIn K k_Word (.type "object") = some true)
    (nf_Word : PySem.W.notFirst K k_Word (.ref k_Word) = true)
    (nt_Word : PySem.W.notFirst K k_Word (.type "tuple") = true)
    (jy_Word : PySem.W.typeIn K (.ref k_Word) = some (.type "type"))
    (jt_Word : PySem.W.subIn K (.ref k_Word) (.ref k_Word) = some true)
    {q_Word_own_runs : Addr} (qa_Word_own_runs : PySem.W.findIn K (.ref k_Word) "own_runs" = some (some (.ref q_Word_own_runs))) (qg_Word_own_runs : PySem.W.specialIn K (.ref q_Word_own_runs) "__get__" = some (some (.builtin "member_descriptor.__get__"))) (qk_Word_own_runs : PySem.W.takesIn K (.ref q_Word_own_runs) = some true) (qt_Word_own_runs : PySem.W.typeIn K (.ref q_Word_own_runs) = some (.type "member_descriptor")) (qi_Word_own_runs : PySem.W.slotIn K q_Word_own_runs k_Word = some 0)
    {q_Word_own_width : Addr} (qa_Word_own_width : PySem.W.findIn K (.ref k_Word) "own_width" = some (some (.ref q_Word_own_width))) (qg_Word_own_width : PySem.W.specialIn K (.ref q_Word_own_width) "__get__" = some (some (.builtin "member_descriptor.__get__"))) (qk_Word_own_width : PySem.W.takesIn K (.ref q_Word_own_width) = some true) (qt_Word_own_width : PySem.W.typeIn K (.ref q_Word_own_width) = some (.type "member_descriptor")) (qi_Word_own_width : PySem.W.slotIn K q_Word_own_width k_Word = some 1)
    {k_InvalidCount : Addr} (n_InvalidCount : PySem.W.nsIn K mainGlobals "InvalidCount" = some (some (.ref k_InvalidCount))) (kc_InvalidCount : PySem.W.keepIn K (.ref k_InvalidCount) = true) (xb_InvalidCount : PySem.W.subIn K (.ref k_InvalidCount) (.type "BaseException") = some true) (xt_InvalidCount : PySem.W.typeIn K (.ref k_InvalidCount) = some (.type "type"))
    (xc_InvalidCount : PySem.W.excInitIn K k_InvalidCount [.type "IndexError", .type "LookupError", .type "Exception", .type "BaseException", .type "object"] "IndexError.__new__" = true)
    (xo_InvalidCount : PySem.W.excOver K k_InvalidCount [.type "IndexError", .type "LookupError", .type "Exception", .type "BaseException", .type "object"] = true)
    (xs_InvalidCount : PySem.W.findIn K (.ref k_InvalidCount) "__setattr__" = some (some (.builtin "object.__setattr__")))
    (xk_InvalidCount : PySem.W.takerIn K k_InvalidCount "given" = some none)
    (xd_InvalidCount : PySem.W.hasDictIn K k_InvalidCount = true)
    (xg_InvalidCount : PySem.W.findIn K (.ref k_InvalidCount) "__getattribute__" = some (some (.builtin "BaseException.__getattribute__")))
    (xh_InvalidCount : PySem.W.findIn K (.ref k_InvalidCount) "__getattr__" = some none)
    (xn_InvalidCount : PySem.W.findIn K (.ref k_InvalidCount) "given" = some none)
    {i_InvalidCount : Addr} (xi_InvalidCount : PySem.W.findIn K (.ref k_InvalidCount) "__init__" = some (some (.ref i_InvalidCount)))
    (xf_InvalidCount : PySem.W.typeIn K (.ref i_InvalidCount) = some (.type "function"))
    (xu_InvalidCount : PySem.W.ks_superIn K k_InvalidCount k_InvalidCount "__init__" = some (some (.builtin "IndexError.__init__")))
    (xv_InvalidCount : PySem.W.subIn K (.ref k_InvalidCount) (.type "IndexError") = some true)
    (xw_InvalidCount : PySem.W.mroIn K k_InvalidCount (.ref k_InvalidCount) = some true)
    {xoc_InvalidCount xdc_InvalidCount xpm_InvalidCount xct_InvalidCount xcl_InvalidCount xce_InvalidCount : Value} {xod_InvalidCount xan_InvalidCount xcd_InvalidCount xcf_InvalidCount : Option Addr} {xsl_InvalidCount xcs_InvalidCount xcg_InvalidCount : Array (Option Value)} {xca_InvalidCount xcc_InvalidCount : Addr} {xvs_InvalidCount : Array Value} {xfi_InvalidCount : Str} {xtf_InvalidCount : Tok}
    (xl_InvalidCount : K.lookup i_InvalidCount = some ⟨xoc_InvalidCount, xod_InvalidCount, .func (PySem.W.ksFn "__init__" "InvalidCount.__init__" (defArgs s_InvalidCount___init__) (defBody s_InvalidCount___init__) (defScope s_InvalidCount___init__) .none .none xdc_InvalidCount xpm_InvalidCount xan_InvalidCount (.ref xca_InvalidCount) xct_InvalidCount xcc_InvalidCount), xsl_InvalidCount⟩) (xm_InvalidCount : PySem.W.codeIn K (.ref xca_InvalidCount) "InvalidCount.__init__" = true) (xp_InvalidCount : K.lookup xcc_InvalidCount = some ⟨xcl_InvalidCount, xcd_InvalidCount, .cell (some (.ref k_InvalidCount)), xcs_InvalidCount⟩) (xq_InvalidCount : K.lookup xca_InvalidCount = some ⟨xce_InvalidCount, xcf_InvalidCount, .fields xvs_InvalidCount, xcg_InvalidCount⟩) (xr_InvalidCount : xvs_InvalidCount[2]? = some (.str xfi_InvalidCount xtf_InvalidCount)) (xx_InvalidCount : ((l.prog.main.file : Str) == xfi_InvalidCount) = true)
    {k_InvalidWord : Addr} (n_InvalidWord : PySem.W.nsIn K mainGlobals "InvalidWord" = some (some (.ref k_InvalidWord))) (kc_InvalidWord : PySem.W.keepIn K (.ref k_InvalidWord) = true) (xb_InvalidWord : PySem.W.subIn K (.ref k_InvalidWord) (.type "BaseException") = some true) (xt_InvalidWord : PySem.W.typeIn K (.ref k_InvalidWord) = some (.type "type"))
    (xe_InvalidWord : PySem.W.excIn K k_InvalidWord [.type "ValueError", .type "Exception", .type "BaseException", .type "object"] "ValueError.__new__" = true)
    {k_InvalidOperation : Addr} (n_InvalidOperation : PySem.W.nsIn K mainGlobals "InvalidOperation" = some (some (.ref k_InvalidOperation))) (kc_InvalidOperation : PySem.W.keepIn K (.ref k_InvalidOperation) = true) (xb_InvalidOperation : PySem.W.subIn K (.ref k_InvalidOperation) (.type "BaseException") = some true) (xt_InvalidOperation : PySem.W.typeIn K (.ref k_InvalidOperation) = some (.type "type"))
    (xe_InvalidOperation : PySem.W.excIn K k_InvalidOperation [.type "ValueError", .type "Exception", .type "BaseException", .type "object"] "ValueError.__new__" = true)
    {k_TooMany : Addr} (n_TooMany : PySem.W.nsIn K mainGlobals "TooMany" = some (some (.ref k_TooMany))) (kc_TooMany : PySem.W.keepIn K (.ref k_TooMany) = true) (xb_TooMany : PySem.W.subIn K (.ref k_TooMany) (.type "BaseException") = some true) (xt_TooMany : PySem.W.typeIn K (.ref k_TooMany) = some (.type "type"))
    (xc_TooMany : PySem.W.excInitIn K k_TooMany [.type "OverflowError", .type "ArithmeticError", .type "Exception", .type "BaseException", .type "object"] "OverflowError.__new__" = true)
    (xo_TooMany : PySem.W.excOver K k_TooMany [.type "OverflowError", .type "ArithmeticError", .type "Exception", .type "BaseException", .type "object"] = true)
    (xs_TooMany : PySem.W.findIn K (.ref k_TooMany) "__setattr__" = some (some (.builtin "object.__setattr__")))
    (xk_TooMany : PySem.W.takerIn K k_TooMany "limit" = some none)
    (xd_TooMany : PySem.W.hasDictIn K k_TooMany = true)
    (xg_TooMany : PySem.W.findIn K (.ref k_TooMany) "__getattribute__" = some (some (.builtin "BaseException.__getattribute__")))
    (xh_TooMany : PySem.W.findIn K (.ref k_TooMany) "__getattr__" = some none)
    (xn_TooMany : PySem.W.findIn K (.ref k_TooMany) "limit" = some none)
    {i_TooMany : Addr} (xi_TooMany : PySem.W.findIn K (.ref k_TooMany) "__init__" = some (some (.ref i_TooMany)))
    (xf_TooMany : PySem.W.typeIn K (.ref i_TooMany) = some (.type "function"))
    (xu_TooMany : PySem.W.ks_superIn K k_TooMany k_TooMany "__init__" = some (some (.builtin "OverflowError.__init__")))
    (xv_TooMany : PySem.W.subIn K (.ref k_TooMany) (.type "OverflowError") = some true)
    (xw_TooMany : PySem.W.mroIn K k_TooMany (.ref k_TooMany) = some true)
    {xoc_TooMany xdc_TooMany xpm_TooMany xct_TooMany xcl_TooMany xce_TooMany : Value} {xod_TooMany xan_TooMany xcd_TooMany xcf_TooMany : Option Addr} {xsl_TooMany xcs_TooMany xcg_TooMany : Array (Option Value)} {xca_TooMany xcc_TooMany : Addr} {xvs_TooMany : Array Value} {xfi_TooMany : Str} {xtf_TooMany : Tok}
    (xl_TooMany : K.lookup i_TooMany = some ⟨xoc_TooMany, xod_TooMany, .func (PySem.W.ksFn "__init__" "TooMany.__init__" (defArgs s_TooMany___init__) (defBody s_TooMany___init__) (defScope s_TooMany___init__) .none .none xdc_TooMany xpm_TooMany xan_TooMany (.ref xca_TooMany) xct_TooMany xcc_TooMany), xsl_TooMany⟩) (xm_TooMany : PySem.W.codeIn K (.ref xca_TooMany) "TooMany.__init__" = true) (xp_TooMany : K.lookup xcc_TooMany = some ⟨xcl_TooMany, xcd_TooMany, .cell (some (.ref k_TooMany)), xcs_TooMany⟩) (xq_TooMany : K.lookup xca_TooMany = some ⟨xce_TooMany, xcf_TooMany, .fields xvs_TooMany, xcg_TooMany⟩) (xr_TooMany : xvs_TooMany[2]? = some (.str xfi_TooMany xtf_TooMany)) (xx_TooMany : ((l.prog.main.file : Str) == xfi_TooMany) = true)
    {k_InvalidTable : Addr} (n_InvalidTable : PySem.W.nsIn K mainGlobals "InvalidTable" = some (some (.ref k_InvalidTable))) (kc_InvalidTable : PySem.W.keepIn K (.ref k_InvalidTable) = true) (xb_InvalidTable : PySem.W.subIn K (.ref k_InvalidTable) (.type "BaseException") = some true) (xt_InvalidTable : PySem.W.typeIn K (.ref k_InvalidTable) = some (.type "type"))
    (xe_InvalidTable : PySem.W.excIn K k_InvalidTable [.type "ValueError", .type "Exception", .type "BaseException", .type "object"] "ValueError.__new__" = true)
    {k_InvalidShape : Addr} (n_InvalidShape : PySem.W.nsIn K mainGlobals "InvalidShape" = some (some (.ref k_InvalidShape))) (kc_InvalidShape : PySem.W.keepIn K (.ref k_InvalidShape) = true) (xb_InvalidShape : PySem.W.subIn K (.ref k_InvalidShape) (.type "BaseException") = some true) (xt_InvalidShape : PySem.W.typeIn K (.ref k_InvalidShape) = some (.type "type"))
    (xe_InvalidShape : PySem.W.excIn K k_InvalidShape [.type "ValueError", .type "Exception", .type "BaseException", .type "object"] "ValueError.__new__" = true)
    {k_InvalidCase : Addr} (n_InvalidCase : PySem.W.nsIn K mainGlobals "InvalidCase" = some (some (.ref k_InvalidCase))) (kc_InvalidCase : PySem.W.keepIn K (.ref k_InvalidCase) = true) (xb_InvalidCase : PySem.W.subIn K (.ref k_InvalidCase) (.type "BaseException") = some true) (xt_InvalidCase : PySem.W.typeIn K (.ref k_InvalidCase) = some (.type "type"))
    (xe_InvalidCase : PySem.W.excIn K k_InvalidCase [.type "ValueError", .type "Exception", .type "BaseException", .type "object"] "ValueError.__new__" = true)
    (zz_any : PySem.W.nsIn K cStatics "thirdparty.any" = some none) (z_super : PySem.W.nsIn K mainGlobals "super" = some none) (zz_top : (l.prog.main.scope.names.lookup ("super" : Str)).isSome = false)
    (es_InvalidWord : PySem.W.exmOne K (.ref k_InvalidWord) (.ref k_InvalidWord) = some true)
    (eo_InvalidTable_InvalidWord : PySem.W.exmOne K (.ref k_InvalidTable) (.ref k_InvalidWord) = some false)
    (eo_InvalidShape_InvalidWord : PySem.W.exmOne K (.ref k_InvalidShape) (.ref k_InvalidWord) = some false)
    (eo_InvalidCase_InvalidWord : PySem.W.exmOne K (.ref k_InvalidCase) (.ref k_InvalidWord) = some false)
    (eo_InvalidOperation_InvalidWord : PySem.W.exmOne K (.ref k_InvalidOperation) (.ref k_InvalidWord) = some false)
    (eo_InvalidCount_InvalidWord : PySem.W.exmOne K (.ref k_InvalidCount) (.ref k_InvalidWord) = some false)
    (eo_TooMany_InvalidWord : PySem.W.exmOne K (.ref k_TooMany) (.ref k_InvalidWord) = some false)
    (es_InvalidTable : PySem.W.exmOne K (.ref k_InvalidTable) (.ref k_InvalidTable) = some true)
    (eo_InvalidShape_InvalidTable : PySem.W.exmOne K (.ref k_InvalidShape) (.ref k_InvalidTable) = some false)
    (eo_InvalidCase_InvalidTable : PySem.W.exmOne K (.ref k_InvalidCase) (.ref k_InvalidTable) = some false)
    (eo_InvalidOperation_InvalidTable : PySem.W.exmOne K (.ref k_InvalidOperation) (.ref k_InvalidTable) = some false)
    (eo_InvalidCount_InvalidTable : PySem.W.exmOne K (.ref k_InvalidCount) (.ref k_InvalidTable) = some false)
    (eo_TooMany_InvalidTable : PySem.W.exmOne K (.ref k_TooMany) (.ref k_InvalidTable) = some false)
    (es_InvalidShape : PySem.W.exmOne K (.ref k_InvalidShape) (.ref k_InvalidShape) = some true)
    (eo_InvalidCase_InvalidShape : PySem.W.exmOne K (.ref k_InvalidCase) (.ref k_InvalidShape) = some false)
    (eo_InvalidOperation_InvalidShape : PySem.W.exmOne K (.ref k_InvalidOperation) (.ref k_InvalidShape) = some false)
    (eo_InvalidCount_InvalidShape : PySem.W.exmOne K (.ref k_InvalidCount) (.ref k_InvalidShape) = some false)
    (eo_TooMany_InvalidShape : PySem.W.exmOne K (.ref k_TooMany) (.ref k_InvalidShape) = some false)
    (es_InvalidCase : PySem.W.exmOne K (.ref k_InvalidCase) (.ref k_InvalidCase) = some true)
    (eo_InvalidOperation_InvalidCase : PySem.W.exmOne K (.ref k_InvalidOperation) (.ref k_InvalidCase) = some false)
    (eo_InvalidCount_InvalidCase : PySem.W.exmOne K (.ref k_InvalidCount) (.ref k_InvalidCase) = some false)
    (eo_TooMany_InvalidCase : PySem.W.exmOne K (.ref k_TooMany) (.ref k_InvalidCase) = some false)
    (es_InvalidOperation : PySem.W.exmOne K (.ref k_InvalidOperation) (.ref k_InvalidOperation) = some true)
    (eo_InvalidCount_InvalidOperation : PySem.W.exmOne K (.ref k_InvalidCount) (.ref k_InvalidOperation) = some false)
    (eo_TooMany_InvalidOperation : PySem.W.exmOne K (.ref k_TooMany) (.ref k_InvalidOperation) = some false)
    (es_InvalidCount : PySem.W.exmOne K (.ref k_InvalidCount) (.ref k_InvalidCount) = some true)
    (eo_TooMany_InvalidCount : PySem.W.exmOne K (.ref k_TooMany) (.ref k_InvalidCount) = some false)
    (es_TooMany : PySem.W.exmOne K (.ref k_TooMany) (.ref k_TooMany) = some true)
    {f__wall : Addr} {oc__wall kV__wall dc__wall pm__wall cd__wall ct__wall : Value} {od__wall an__wall : Option Addr} {sl__wall : Array (Option Value)}
    (a__wall : PySem.W.nsIn K mainGlobals "_wall" = some (some (.ref f__wall))) (l__wall : K.lookup f__wall = some ⟨oc__wall, od__wall, .func (PySem.W.fnOf "_wall" "_wall" (defArgs s__wall) (defBody s__wall) (defScope s__wall) .none kV__wall dc__wall pm__wall an__wall cd__wall ct__wall), sl__wall⟩) (c__wall : PySem.W.codeIn K cd__wall "_wall" = true) (k__wall : PySem.W.keepIn K (.ref f__wall) = true)
    {f_is_integer : Addr} {oc_is_integer kV_is_integer dc_is_integer pm_is_integer cd_is_integer ct_is_integer : Value} {od_is_integer an_is_integer : Option Addr} {sl_is_integer : Array (Option Value)}
    (a_is_integer : PySem.W.nsIn K mainGlobals "is_integer" = some (some (.ref f_is_integer))) (l_is_integer : K.lookup f_is_integer = some ⟨oc_is_integer, od_is_integer, .func (PySem.W.fnOf "is_integer" "is_integer" (defArgs s_is_integer) (defBody s_is_integer) (defScope s_is_integer) .none kV_is_integer dc_is_integer pm_is_integer an_is_integer cd_is_integer ct_is_integer), sl_is_integer⟩) (c_is_integer : PySem.W.codeIn K cd_is_integer "is_integer" = true) (k_is_integer : PySem.W.keepIn K (.ref f_is_integer) = true)
    {f_is_within : Addr} {oc_is_within kV_is_within dc_is_within pm_is_within cd_is_within ct_is_within : Value} {od_is_within an_is_within : Option Addr} {sl_is_within : Array (Option Value)}
    (a_is_within : PySem.W.nsIn K mainGlobals "is_within" = some (some (.ref f_is_within))) (l_is_within : K.lookup f_is_within = some ⟨oc_is_within, od_is_within, .func (PySem.W.fnOf "is_within" "is_within" (defArgs s_is_within) (defBody s_is_within) (defScope s_is_within) .none kV_is_within dc_is_within pm_is_within an_is_within cd_is_within ct_is_within), sl_is_within⟩) (c_is_within : PySem.W.codeIn K cd_is_within "is_within" = true) (k_is_within : PySem.W.keepIn K (.ref f_is_within) = true)
    {f_require_within : Addr} {oc_require_within kV_require_within dc_require_within pm_require_within cd_require_within ct_require_within : Value} {od_require_within an_require_within : Option Addr} {sl_require_within : Array (Option Value)}
    (a_require_within : PySem.W.nsIn K mainGlobals "require_within" = some (some (.ref f_require_within))) (l_require_within : K.lookup f_require_within = some ⟨oc_require_within, od_require_within, .func (PySem.W.fnOf "require_within" "require_within" (defArgs s_require_within) (defBody s_require_within) (defScope s_require_within) .none kV_require_within dc_require_within pm_require_within an_require_within cd_require_within ct_require_within), sl_require_within⟩) (c_require_within : PySem.W.codeIn K cd_require_within "require_within" = true) (k_require_within : PySem.W.keepIn K (.ref f_require_within) = true)
    {f_lean_in : Addr} {oc_lean_in kV_lean_in dc_lean_in pm_lean_in cd_lean_in ct_lean_in : Value} {od_lean_in an_lean_in : Option Addr} {sl_lean_in : Array (Option Value)}
    (a_lean_in : PySem.W.nsIn K mainGlobals "lean_in" = some (some (.ref f_lean_in))) (l_lean_in : K.lookup f_lean_in = some ⟨oc_lean_in, od_lean_in, .func (PySem.W.fnOf "lean_in" "lean_in" (defArgs s_lean_in) (defBody s_lean_in) (defScope s_lean_in) .none kV_lean_in dc_lean_in pm_lean_in an_lean_in cd_lean_in ct_lean_in), sl_lean_in⟩) (c_lean_in : PySem.W.codeIn K cd_lean_in "lean_in" = true) (k_lean_in : PySem.W.keepIn K (.ref f_lean_in) = true)
    {f_is_run : Addr} {oc_is_run kV_is_run dc_is_run pm_is_run cd_is_run ct_is_run : Value} {od_is_run an_is_run : Option Addr} {sl_is_run : Array (Option Value)}
    (a_is_run : PySem.W.nsIn K mainGlobals "is_run" = some (some (.ref f_is_run))) (l_is_run : K.lookup f_is_run = some ⟨oc_is_run, od_is_run, .func (PySem.W.fnOf "is_run" "is_run" (defArgs s_is_run) (defBody s_is_run) (defScope s_is_run) .none kV_is_run dc_is_run pm_is_run an_is_run cd_is_run ct_is_run), sl_is_run⟩) (c_is_run : PySem.W.codeIn K cd_is_run "is_run" = true) (k_is_run : PySem.W.keepIn K (.ref f_is_run) = true)
    {f_are_runs : Addr} {oc_are_runs kV_are_runs dc_are_runs pm_are_runs cd_are_runs ct_are_runs : Value} {od_are_runs an_are_runs : Option Addr} {sl_are_runs : Array (Option Value)}
    (a_are_runs : PySem.W.nsIn K mainGlobals "are_runs" = some (some (.ref f_are_runs))) (l_are_runs : K.lookup f_are_runs = some ⟨oc_are_runs, od_are_runs, .func (PySem.W.fnOf "are_runs" "are_runs" (defArgs s_are_runs) (defBody s_are_runs) (defScope s_are_runs) .none kV_are_runs dc_are_runs pm_are_runs an_are_runs cd_are_runs ct_are_runs), sl_are_runs⟩) (c_are_runs : PySem.W.codeIn K cd_are_runs "are_runs" = true) (k_are_runs : PySem.W.keepIn K (.ref f_are_runs) = true)
    {f_part_of : Addr} {oc_part_of kV_part_of dc_part_of pm_part_of cd_part_of ct_part_of : Value} {od_part_of an_part_of : Option Addr} {sl_part_of : Array (Option Value)}
    (a_part_of : PySem.W.nsIn K mainGlobals "part_of" = some (some (.ref f_part_of))) (l_part_of : K.lookup f_part_of = some ⟨oc_part_of, od_part_of, .func (PySem.W.fnOf "part_of" "part_of" (defArgs s_part_of) (defBody s_part_of) (defScope s_part_of) .none kV_part_of dc_part_of pm_part_of an_part_of cd_part_of ct_part_of), sl_part_of⟩) (c_part_of : PySem.W.codeIn K cd_part_of "part_of" = true) (k_part_of : PySem.W.keepIn K (.ref f_part_of) = true)
    {f_require_word : Addr} {oc_require_word kV_require_word dc_require_word pm_require_word cd_require_word ct_require_word : Value} {od_require_word an_require_word : Option Addr} {sl_require_word : Array (Option Value)}
    (a_require_word : PySem.W.nsIn K mainGlobals "require_word" = some (some (.ref f_require_word))) (l_require_word : K.lookup f_require_word = some ⟨oc_require_word, od_require_word, .func (PySem.W.fnOf "require_word" "require_word" (defArgs s_require_word) (defBody s_require_word) (defScope s_require_word) .none kV_require_word dc_require_word pm_require_word an_require_word cd_require_word ct_require_word), sl_require_word⟩) (c_require_word : PySem.W.codeIn K cd_require_word "require_word" = true) (k_require_word : PySem.W.keepIn K (.ref f_require_word) = true)
    {f_run_pushed : Addr} {oc_run_pushed kV_run_pushed dc_run_pushed pm_run_pushed cd_run_pushed ct_run_pushed : Value} {od_run_pushed an_run_pushed : Option Addr} {sl_run_pushed : Array (Option Value)}
    (a_run_pushed : PySem.W.nsIn K mainGlobals "run_pushed" = some (some (.ref f_run_pushed))) (l_run_pushed : K.lookup f_run_pushed = some ⟨oc_run_pushed, od_run_pushed, .func (PySem.W.fnOf "run_pushed" "run_pushed" (defArgs s_run_pushed) (defBody s_run_pushed) (defScope s_run_pushed) .none kV_run_pushed dc_run_pushed pm_run_pushed an_run_pushed cd_run_pushed ct_run_pushed), sl_run_pushed⟩) (c_run_pushed : PySem.W.codeIn K cd_run_pushed "run_pushed" = true) (k_run_pushed : PySem.W.keepIn K (.ref f_run_pushed) = true)
    {f_run_pulled : Addr} {oc_run_pulled kV_run_pulled dc_run_pulled pm_run_pulled cd_run_pulled ct_run_pulled : Value} {od_run_pulled an_run_pulled : Option Addr} {sl_run_pulled : Array (Option Value)}
    (a_run_pulled : PySem.W.nsIn K mainGlobals "run_pulled" = some (some (.ref f_run_pulled))) (l_run_pulled : K.lookup f_run_pulled = some ⟨oc_run_pulled, od_run_pulled, .func (PySem.W.fnOf "run_pulled" "run_pulled" (defArgs s_run_pulled) (defBody s_run_pulled) (defScope s_run_pulled) .none kV_run_pulled dc_run_pulled pm_run_pulled an_run_pulled cd_run_pulled ct_run_pulled), sl_run_pulled⟩) (c_run_pulled : PySem.W.codeIn K cd_run_pulled "run_pulled" = true) (k_run_pulled : PySem.W.keepIn K (.ref f_run_pulled) = true)
    {f_led_in : Addr} {oc_led_in kV_led_in dc_led_in pm_led_in cd_led_in ct_led_in : Value} {od_led_in an_led_in : Option Addr} {sl_led_in : Array (Option Value)}
    (a_led_in : PySem.W.nsIn K mainGlobals "led_in" = some (some (.ref f_led_in))) (l_led_in : K.lookup f_led_in = some ⟨oc_led_in, od_led_in, .func (PySem.W.fnOf "led_in" "led_in" (defArgs s_led_in) (defBody s_led_in) (defScope s_led_in) .none kV_led_in dc_led_in pm_led_in an_led_in cd_led_in ct_led_in), sl_led_in⟩) (c_led_in : PySem.W.codeIn K cd_led_in "led_in" = true) (k_led_in : PySem.W.keepIn K (.ref f_led_in) = true)
    {f_fits_in : Addr} {oc_fits_in kV_fits_in dc_fits_in pm_fits_in cd_fits_in ct_fits_in : Value} {od_fits_in an_fits_in : Option Addr} {sl_fits_in : Array (Option Value)}
    (a_fits_in : PySem.W.nsIn K mainGlobals "fits_in" = some (some (.ref f_fits_in))) (l_fits_in : K.lookup f_fits_in = some ⟨oc_fits_in, od_fits_in, .func (PySem.W.fnOf "fits_in" "fits_in" (defArgs s_fits_in) (defBody s_fits_in) (defScope s_fits_in) .none kV_fits_in dc_fits_in pm_fits_in an_fits_in cd_fits_in ct_fits_in), sl_fits_in⟩) (c_fits_in : PySem.W.codeIn K cd_fits_in "fits_in" = true) (k_fits_in : PySem.W.keepIn K (.ref f_fits_in) = true)
    {f_is_shelf : Addr} {oc_is_shelf kV_is_shelf dc_is_shelf pm_is_shelf cd_is_shelf ct_is_shelf : Value} {od_is_shelf an_is_shelf : Option Addr} {sl_is_shelf : Array (Option Value)}
    (a_is_shelf : PySem.W.nsIn K mainGlobals "is_shelf" = some (some (.ref f_is_shelf))) (l_is_shelf : K.lookup f_is_shelf = some ⟨oc_is_shelf, od_is_shelf, .func (PySem.W.fnOf "is_shelf" "is_shelf" (defArgs s_is_shelf) (defBody s_is_shelf) (defScope s_is_shelf) .none kV_is_shelf dc_is_shelf pm_is_shelf an_is_shelf cd_is_shelf ct_is_shelf), sl_is_shelf⟩) (c_is_shelf : PySem.W.codeIn K cd_is_shelf "is_shelf" = true) (k_is_shelf : PySem.W.keepIn K (.ref f_is_shelf) = true)
    {f_require_shelf : Addr} {oc_require_shelf kV_require_shelf dc_require_shelf pm_require_shelf cd_require_shelf ct_require_shelf : Value} {od_require_shelf an_require_shelf : Option Addr} {sl_require_shelf : Array (Option Value)}
    (a_require_shelf : PySem.W.nsIn K mainGlobals "require_shelf" = some (some (.ref f_require_shelf))) (l_require_shelf : K.lookup f_require_shelf = some ⟨oc_require_shelf, od_require_shelf, .func (PySem.W.fnOf "require_shelf" "require_shelf" (defArgs s_require_shelf) (defBody s_require_shelf) (defScope s_require_shelf) .none kV_require_shelf dc_require_shelf pm_require_shelf an_require_shelf cd_require_shelf ct_require_shelf), sl_require_shelf⟩) (c_require_shelf : PySem.W.codeIn K cd_require_shelf "require_shelf" = true) (k_require_shelf : PySem.W.keepIn K (.ref f_require_shelf) = true)
    {f_require_letter : Addr} {oc_require_letter kV_require_letter dc_require_letter pm_require_letter cd_require_letter ct_require_letter : Value} {od_require_letter an_require_letter : Option Addr} {sl_require_letter : Array (Option Value)}
    (a_require_letter : PySem.W.nsIn K mainGlobals "require_letter" = some (some (.ref f_require_letter))) (l_require_letter : K.lookup f_require_letter = some ⟨oc_require_letter, od_require_letter, .func (PySem.W.fnOf "require_letter" "require_letter" (defArgs s_require_letter) (defBody s_require_letter) (defScope s_require_letter) .none kV_require_letter dc_require_letter pm_require_letter an_require_letter cd_require_letter ct_require_letter), sl_require_letter⟩) (c_require_letter : PySem.W.codeIn K cd_require_letter "require_letter" = true) (k_require_letter : PySem.W.keepIn K (.ref f_require_letter) = true)
    {f_require_room : Addr} {oc_require_room kV_require_room dc_require_room pm_require_room cd_require_room ct_require_room : Value} {od_require_room an_require_room : Option Addr} {sl_require_room : Array (Option Value)}
    (a_require_room : PySem.W.nsIn K mainGlobals "require_room" = some (some (.ref f_require_room))) (l_require_room : K.lookup f_require_room = some ⟨oc_require_room, od_require_room, .func (PySem.W.fnOf "require_room" "require_room" (defArgs s_require_room) (defBody s_require_room) (defScope s_require_room) .none kV_require_room dc_require_room pm_require_room an_require_room cd_require_room ct_require_room), sl_require_room⟩) (c_require_room : PySem.W.codeIn K cd_require_room "require_room" = true) (k_require_room : PySem.W.keepIn K (.ref f_require_room) = true)
    {f_push_in : Addr} {oc_push_in kV_push_in dc_push_in pm_push_in cd_push_in ct_push_in : Value} {od_push_in an_push_in : Option Addr} {sl_push_in : Array (Option Value)}
    (a_push_in : PySem.W.nsIn K mainGlobals "push_in" = some (some (.ref f_push_in))) (l_push_in : K.lookup f_push_in = some ⟨oc_push_in, od_push_in, .func (PySem.W.fnOf "push_in" "push_in" (defArgs s_push_in) (defBody s_push_in) (defScope s_push_in) .none kV_push_in dc_push_in pm_push_in an_push_in cd_push_in ct_push_in), sl_push_in⟩) (c_push_in : PySem.W.codeIn K cd_push_in "push_in" = true) (k_push_in : PySem.W.keepIn K (.ref f_push_in) = true)
    {f_Word_width : Addr} {oc_Word_width kV_Word_width dc_Word_width pm_Word_width cd_Word_width ct_Word_width : Value} {od_Word_width an_Word_width : Option Addr} {sl_Word_width : Array (Option Value)}
    {pp_Word_width : Addr} {rs_Word_width : List Value} (a_Word_width : PySem.W.findIn K (.ref k_Word) "width" = some (some (.ref pp_Word_width))) (pg_Word_width : PySem.W.specialIn K (.ref pp_Word_width) "__get__" = some (some (.builtin "property.__get__"))) (pt_Word_width : PySem.W.takesIn K (.ref pp_Word_width) = some true) (pr_Word_width : PySem.W.recIn K pp_Word_width "property" = some (.ref f_Word_width :: rs_Word_width)) (l_Word_width : K.lookup f_Word_width = some ⟨oc_Word_width, od_Word_width, .func (PySem.W.fnOf "width" "Word.width" (defArgs s_Word_width) (defBody s_Word_width) (defScope s_Word_width) .none kV_Word_width dc_Word_width pm_Word_width an_Word_width cd_Word_width ct_Word_width), sl_Word_width⟩) (c_Word_width : PySem.W.codeIn K cd_Word_width "Word.width" = true) (k_Word_width : PySem.W.keepIn K (.ref f_Word_width) = true)
    {f_Word_runs : Addr} {oc_Word_runs kV_Word_runs dc_Word_runs pm_Word_runs cd_Word_runs ct_Word_runs : Value} {od_Word_runs an_Word_runs : Option Addr} {sl_Word_runs : Array (Option Value)}
    {pp_Word_runs : Addr} {rs_Word_runs : List Value} (a_Word_runs : PySem.W.findIn K (.ref k_Word) "runs" = some (some (.ref pp_Word_runs))) (pg_Word_runs : PySem.W.specialIn K (.ref pp_Word_runs) "__get__" = some (some (.builtin "property.__get__"))) (pt_Word_runs : PySem.W.takesIn K (.ref pp_Word_runs) = some true) (pr_Word_runs : PySem.W.recIn K pp_Word_runs "property" = some (.ref f_Word_runs :: rs_Word_runs)) (l_Word_runs : K.lookup f_Word_runs = some ⟨oc_Word_runs, od_Word_runs, .func (PySem.W.fnOf "runs" "Word.runs" (defArgs s_Word_runs) (defBody s_Word_runs) (defScope s_Word_runs) .none kV_Word_runs dc_Word_runs pm_Word_runs an_Word_runs cd_Word_runs ct_Word_runs), sl_Word_runs⟩) (c_Word_runs : PySem.W.codeIn K cd_Word_runs "Word.runs" = true) (k_Word_runs : PySem.W.keepIn K (.ref f_Word_runs) = true)
    {f_push_word : Addr} {oc_push_word kV_push_word dc_push_word pm_push_word cd_push_word ct_push_word : Value} {od_push_word an_push_word : Option Addr} {sl_push_word : Array (Option Value)}
    (a_push_word : PySem.W.nsIn K mainGlobals "push_word" = some (some (.ref f_push_word))) (l_push_word : K.lookup f_push_word = some ⟨oc_push_word, od_push_word, .func (PySem.W.fnOf "push_word" "push_word" (defArgs s_push_word) (defBody s_push_word) (defScope s_push_word) .none kV_push_word dc_push_word pm_push_word an_push_word cd_push_word ct_push_word), sl_push_word⟩) (c_push_word : PySem.W.codeIn K cd_push_word "push_word" = true) (k_push_word : PySem.W.keepIn K (.ref f_push_word) = true)
    {f_pull_in : Addr} {oc_pull_in kV_pull_in dc_pull_in pm_pull_in cd_pull_in ct_pull_in : Value} {od_pull_in an_pull_in : Option Addr} {sl_pull_in : Array (Option Value)}
    (a_pull_in : PySem.W.nsIn K mainGlobals "pull_in" = some (some (.ref f_pull_in))) (l_pull_in : K.lookup f_pull_in = some ⟨oc_pull_in, od_pull_in, .func (PySem.W.fnOf "pull_in" "pull_in" (defArgs s_pull_in) (defBody s_pull_in) (defScope s_pull_in) .none kV_pull_in dc_pull_in pm_pull_in an_pull_in cd_pull_in ct_pull_in), sl_pull_in⟩) (c_pull_in : PySem.W.codeIn K cd_pull_in "pull_in" = true) (k_pull_in : PySem.W.keepIn K (.ref f_pull_in) = true)
    {f_fits_under : Addr} {oc_fits_under kV_fits_under dc_fits_under pm_fits_under cd_fits_under ct_fits_under : Value} {od_fits_under an_fits_under : Option Addr} {sl_fits_under : Array (Option Value)}
    (a_fits_under : PySem.W.nsIn K mainGlobals "fits_under" = some (some (.ref f_fits_under))) (l_fits_under : K.lookup f_fits_under = some ⟨oc_fits_under, od_fits_under, .func (PySem.W.fnOf "fits_under" "fits_under" (defArgs s_fits_under) (defBody s_fits_under) (defScope s_fits_under) .none kV_fits_under dc_fits_under pm_fits_under an_fits_under cd_fits_under ct_fits_under), sl_fits_under⟩) (c_fits_under : PySem.W.codeIn K cd_fits_under "fits_under" = true) (k_fits_under : PySem.W.keepIn K (.ref f_fits_under) = true)
    {f__law_dice : Addr} {oc__law_dice kV__law_dice dc__law_dice pm__law_dice cd__law_dice ct__law_dice : Value} {od__law_dice an__law_dice : Option Addr} {sl__law_dice : Array (Option Value)}
    (a__law_dice : PySem.W.nsIn K mainGlobals "_law_dice" = some (some (.ref f__law_dice))) (l__law_dice : K.lookup f__law_dice = some ⟨oc__law_dice, od__law_dice, .func (PySem.W.fnOf "_law_dice" "_law_dice" (defArgs s__law_dice) (defBody s__law_dice) (defScope s__law_dice) .none kV__law_dice dc__law_dice pm__law_dice an__law_dice cd__law_dice ct__law_dice), sl__law_dice⟩) (c__law_dice : PySem.W.codeIn K cd__law_dice "_law_dice" = true) (k__law_dice : PySem.W.keepIn K (.ref f__law_dice) = true)
    {f__law_roll : Addr} {oc__law_roll kV__law_roll dc__law_roll pm__law_roll cd__law_roll ct__law_roll : Value} {od__law_roll an__law_roll : Option Addr} {sl__law_roll : Array (Option Value)}
    (a__law_roll : PySem.W.nsIn K mainGlobals "_law_roll" = some (some (.ref f__law_roll))) (l__law_roll : K.lookup f__law_roll = some ⟨oc__law_roll, od__law_roll, .func (PySem.W.fnOf "_law_roll" "_law_roll" (defArgs s__law_roll) (defBody s__law_roll) (defScope s__law_roll) .none kV__law_roll dc__law_roll pm__law_roll an__law_roll cd__law_roll ct__law_roll), sl__law_roll⟩) (c__law_roll : PySem.W.codeIn K cd__law_roll "_law_roll" = true) (k__law_roll : PySem.W.keepIn K (.ref f__law_roll) = true)
    {f__law_pick : Addr} {oc__law_pick kV__law_pick dc__law_pick pm__law_pick cd__law_pick ct__law_pick : Value} {od__law_pick an__law_pick : Option Addr} {sl__law_pick : Array (Option Value)}
    (a__law_pick : PySem.W.nsIn K mainGlobals "_law_pick" = some (some (.ref f__law_pick))) (l__law_pick : K.lookup f__law_pick = some ⟨oc__law_pick, od__law_pick, .func (PySem.W.fnOf "_law_pick" "_law_pick" (defArgs s__law_pick) (defBody s__law_pick) (defScope s__law_pick) .none kV__law_pick dc__law_pick pm__law_pick an__law_pick cd__law_pick ct__law_pick), sl__law_pick⟩) (c__law_pick : PySem.W.codeIn K cd__law_pick "_law_pick" = true) (k__law_pick : PySem.W.keepIn K (.ref f__law_pick) = true)
    {f__law_one : Addr} {oc__law_one kV__law_one dc__law_one pm__law_one cd__law_one ct__law_one : Value} {od__law_one an__law_one : Option Addr} {sl__law_one : Array (Option Value)}
    (a__law_one : PySem.W.nsIn K mainGlobals "_law_one" = some (some (.ref f__law_one))) (l__law_one : K.lookup f__law_one = some ⟨oc__law_one, od__law_one, .func (PySem.W.fnOf "_law_one" "_law_one" (defArgs s__law_one) (defBody s__law_one) (defScope s__law_one) .none kV__law_one dc__law_one pm__law_one an__law_one cd__law_one ct__law_one), sl__law_one⟩) (c__law_one : PySem.W.codeIn K cd__law_one "_law_one" = true) (k__law_one : PySem.W.keepIn K (.ref f__law_one) = true)
    {f__law_first : Addr} {oc__law_first kV__law_first dc__law_first pm__law_first cd__law_first ct__law_first : Value} {od__law_first an__law_first : Option Addr} {sl__law_first : Array (Option Value)}
    (a__law_first : PySem.W.nsIn K mainGlobals "_law_first" = some (some (.ref f__law_first))) (l__law_first : K.lookup f__law_first = some ⟨oc__law_first, od__law_first, .func (PySem.W.fnOf "_law_first" "_law_first" (defArgs s__law_first) (defBody s__law_first) (defScope s__law_first) .none kV__law_first dc__law_first pm__law_first an__law_first cd__law_first ct__law_first), sl__law_first⟩) (c__law_first : PySem.W.codeIn K cd__law_first "_law_first" = true) (k__law_first : PySem.W.keepIn K (.ref f__law_first) = true)
    {f_Word___init__ : Addr} {oc_Word___init__ kV_Word___init__ dc_Word___init__ pm_Word___init__ cd_Word___init__ ct_Word___init__ : Value} {od_Word___init__ an_Word___init__ : Option Addr} {sl_Word___init__ : Array (Option Value)}
    (a_Word___init__ : PySem.W.findIn K (.ref k_Word) "__init__" = some (some (.ref f_Word___init__))) (i_Word___init__ : PySem.W.isFn K (.ref f_Word___init__) = true) (l_Word___init__ : K.lookup f_Word___init__ = some ⟨oc_Word___init__, od_Word___init__, .func (PySem.W.fnOf "__init__" "Word.__init__" (defArgs s_Word___init__) (defBody s_Word___init__) (defScope s_Word___init__) .none kV_Word___init__ dc_Word___init__ pm_Word___init__ an_Word___init__ cd_Word___init__ ct_Word___init__), sl_Word___init__⟩) (c_Word___init__ : PySem.W.codeIn K cd_Word___init__ "Word.__init__" = true) (k_Word___init__ : PySem.W.keepIn K (.ref f_Word___init__) = true)
    {f__law_right cd__law_right : Addr} {oc__law_right kV__law_right dc__law_right pm__law_right ct__law_right : Value} {od__law_right an__law_right : Option Addr} {sl__law_right : Array (Option Value)}
    {P__law_right : Addr}
    (a__law_right : PySem.W.nsIn K mainGlobals "_law_right" = some (some (.ref f__law_right))) (l__law_right : K.lookup f__law_right = some ⟨oc__law_right, od__law_right, .func (PySem.W.fnOf "_law_right" "_law_right" (defArgs s__law_right) (defBody s__law_right) (defScope s__law_right) .none kV__law_right dc__law_right pm__law_right an__law_right (.ref cd__law_right) ct__law_right), sl__law_right⟩) (c__law_right : PySem.W.codeIn K (.ref cd__law_right) "_law_right" = true) (k__law_right : PySem.W.keepIn K (.ref f__law_right) = true) {dr__law_right : DefRec} (tr__law_right : (recsOf q).find? (fun e => e.name == ("_law_right" : Str)) = some dr__law_right) {ta__law_right : Value} {tb__law_right : Option Addr} {tv__law_right : Array Value} {ts__law_right : Array (Option Value)} (tc__law_right : K.lookup cd__law_right = some ⟨ta__law_right, tb__law_right, .fields tv__law_right, ts__law_right⟩) (tt__law_right : tv__law_right[11]? = some (.ref P__law_right)) (tn__law_right : K.lookup P__law_right = none)
    {f_law cd_law : Addr} {oc_law kV_law dc_law pm_law ct_law : Value} {od_law an_law : Option Addr} {sl_law : Array (Option Value)}
    {P_law : Addr}
    (a_law : PySem.W.nsIn K mainGlobals "law" = some (some (.ref f_law))) (l_law : K.lookup f_law = some ⟨oc_law, od_law, .func (PySem.W.fnOf "law" "law" (defArgs s_law) (defBody s_law) (defScope s_law) .none kV_law dc_law pm_law an_law (.ref cd_law) ct_law), sl_law⟩) (c_law : PySem.W.codeIn K (.ref cd_law) "law" = true) (k_law : PySem.W.keepIn K (.ref f_law) = true) {dr_law : DefRec} (tr_law : (recsOf q).find? (fun e => e.name == ("law" : Str)) = some dr_law) {ta_law : Value} {tb_law : Option Addr} {tv_law : Array Value} {ts_law : Array (Option Value)} (tc_law : K.lookup cd_law = some ⟨ta_law, tb_law, .fields tv_law, ts_law⟩) (tt_law : tv_law[11]? = some (.ref P_law)) (tn_law : K.lookup P_law = none)
    {f_Word_length : Addr} {oc_Word_length kV_Word_length dc_Word_length pm_Word_length cd_Word_length ct_Word_length : Value} {od_Word_length an_Word_length : Option Addr} {sl_Word_length : Array (Option Value)}
    {pp_Word_length : Addr} {rs_Word_length : List Value} (a_Word_length : PySem.W.findIn K (.ref k_Word) "length" = some (some (.ref pp_Word_length))) (pg_Word_length : PySem.W.specialIn K (.ref pp_Word_length) "__get__" = some (some (.builtin "property.__get__"))) (pt_Word_length : PySem.W.takesIn K (.ref pp_Word_length) = some true) (pr_Word_length : PySem.W.recIn K pp_Word_length "property" = some (.ref f_Word_length :: rs_Word_length)) (l_Word_length : K.lookup f_Word_length = some ⟨oc_Word_length, od_Word_length, .func (PySem.W.fnOf "length" "Word.length" (defArgs s_Word_length) (defBody s_Word_length) (defScope s_Word_length) .none kV_Word_length dc_Word_length pm_Word_length an_Word_length cd_Word_length ct_Word_length), sl_Word_length⟩) (c_Word_length : PySem.W.codeIn K cd_Word_length "Word.length" = true) (k_Word_length : PySem.W.keepIn K (.ref f_Word_length) = true)
    {f_Word_counts : Addr} {oc_Word_counts kV_Word_counts dc_Word_counts pm_Word_counts cd_Word_counts ct_Word_counts : Value} {od_Word_counts an_Word_counts : Option Addr} {sl_Word_counts : Array (Option Value)}
    {pp_Word_counts : Addr} {rs_Word_counts : List Value} (a_Word_counts : PySem.W.findIn K (.ref k_Word) "counts" = some (some (.ref pp_Word_counts))) (pg_Word_counts : PySem.W.specialIn K (.ref pp_Word_counts) "__get__" = some (some (.builtin "property.__get__"))) (pt_Word_counts : PySem.W.takesIn K (.ref pp_Word_counts) = some true) (pr_Word_counts : PySem.W.recIn K pp_Word_counts "property" = some (.ref f_Word_counts :: rs_Word_counts)) (l_Word_counts : K.lookup f_Word_counts = some ⟨oc_Word_counts, od_Word_counts, .func (PySem.W.fnOf "counts" "Word.counts" (defArgs s_Word_counts) (defBody s_Word_counts) (defScope s_Word_counts) .none kV_Word_counts dc_Word_counts pm_Word_counts an_Word_counts cd_Word_counts ct_Word_counts), sl_Word_counts⟩) (c_Word_counts : PySem.W.codeIn K cd_Word_counts "Word.counts" = true) (k_Word_counts : PySem.W.keepIn K (.ref f_Word_counts) = true)
    {f_Word_letter : Addr} {oc_Word_letter kV_Word_letter dc_Word_letter pm_Word_letter cd_Word_letter ct_Word_letter : Value} {od_Word_letter an_Word_letter : Option Addr} {sl_Word_letter : Array (Option Value)}
    (a_Word_letter : PySem.W.findIn K (.ref k_Word) "letter" = some (some (.ref f_Word_letter))) (i_Word_letter : PySem.W.isFn K (.ref f_Word_letter) = true) (l_Word_letter : K.lookup f_Word_letter = some ⟨oc_Word_letter, od_Word_letter, .func (PySem.W.fnOf "letter" "Word.letter" (defArgs s_Word_letter) (defBody s_Word_letter) (defScope s_Word_letter) .none kV_Word_letter dc_Word_letter pm_Word_letter an_Word_letter cd_Word_letter ct_Word_letter), sl_Word_letter⟩) (c_Word_letter : PySem.W.codeIn K cd_Word_letter "Word.letter" = true) (k_Word_letter : PySem.W.keepIn K (.ref f_Word_letter) = true)
    {f_Word___eq__ : Addr} {oc_Word___eq__ kV_Word___eq__ dc_Word___eq__ pm_Word___eq__ cd_Word___eq__ ct_Word___eq__ : Value} {od_Word___eq__ an_Word___eq__ : Option Addr} {sl_Word___eq__ : Array (Option Value)}
    (a_Word___eq__ : PySem.W.findIn K (.ref k_Word) "__eq__" = some (some (.ref f_Word___eq__))) (i_Word___eq__ : PySem.W.isFn K (.ref f_Word___eq__) = true) (l_Word___eq__ : K.lookup f_Word___eq__ = some ⟨oc_Word___eq__, od_Word___eq__, .func (PySem.W.fnOf "__eq__" "Word.__eq__" (defArgs s_Word___eq__) (defBody s_Word___eq__) (defScope s_Word___eq__) .none kV_Word___eq__ dc_Word___eq__ pm_Word___eq__ an_Word___eq__ cd_Word___eq__ ct_Word___eq__), sl_Word___eq__⟩) (c_Word___eq__ : PySem.W.codeIn K cd_Word___eq__ "Word.__eq__" = true) (k_Word___eq__ : PySem.W.keepIn K (.ref f_Word___eq__) = true)
    {f_Word___ne__ : Addr} {oc_Word___ne__ kV_Word___ne__ dc_Word___ne__ pm_Word___ne__ cd_Word___ne__ ct_Word___ne__ : Value} {od_Word___ne__ an_Word___ne__ : Option Addr} {sl_Word___ne__ : Array (Option Value)}
    (a_Word___ne__ : PySem.W.findIn K (.ref k_Word) "__ne__" = some (some (.ref f_Word___ne__))) (i_Word___ne__ : PySem.W.isFn K (.ref f_Word___ne__) = true) (l_Word___ne__ : K.lookup f_Word___ne__ = some ⟨oc_Word___ne__, od_Word___ne__, .func (PySem.W.fnOf "__ne__" "Word.__ne__" (defArgs s_Word___ne__) (defBody s_Word___ne__) (defScope s_Word___ne__) .none kV_Word___ne__ dc_Word___ne__ pm_Word___ne__ an_Word___ne__ cd_Word___ne__ ct_Word___ne__), sl_Word___ne__⟩) (c_Word___ne__ : PySem.W.codeIn K cd_Word___ne__ "Word.__ne__" = true) (k_Word___ne__ : PySem.W.keepIn K (.ref f_Word___ne__) = true)
    {f__law_met : Addr} {oc__law_met kV__law_met dc__law_met pm__law_met cd__law_met ct__law_met : Value} {od__law_met an__law_met : Option Addr} {sl__law_met : Array (Option Value)}
    (a__law_met : PySem.W.nsIn K mainGlobals "_law_met" = some (some (.ref f__law_met))) (l__law_met : K.lookup f__law_met = some ⟨oc__law_met, od__law_met, .func (PySem.W.fnOf "_law_met" "_law_met" (defArgs s__law_met) (defBody s__law_met) (defScope s__law_met) .none kV__law_met dc__law_met pm__law_met an__law_met cd__law_met ct__law_met), sl__law_met⟩) (c__law_met : PySem.W.codeIn K cd__law_met "_law_met" = true) (k__law_met : PySem.W.keepIn K (.ref f__law_met) = true)
    (zz_nd : [P__law_right, P_law].Nodup)
    (z_abs : PySem.W.nsIn K mainGlobals "abs" = some none)
    (z_all : PySem.W.nsIn K mainGlobals "all" = some none)
    (z_bool : PySem.W.nsIn K mainGlobals "bool" = some none)
    (z_int : PySem.W.nsIn K mainGlobals "int" = some none)
    (z_isinstance : PySem.W.nsIn K mainGlobals "isinstance" = some none)
    (z_len : PySem.W.nsIn K mainGlobals "len" = some none)
    (z_list : PySem.W.nsIn K mainGlobals "list" = some none)
    (z_max : PySem.W.nsIn K mainGlobals "max" = some none)
    (z_min : PySem.W.nsIn K mainGlobals "min" = some none)
    (z_range : PySem.W.nsIn K mainGlobals "range" = some none)
    (z_repr : PySem.W.nsIn K mainGlobals "repr" = some none)
    (z_reversed : PySem.W.nsIn K mainGlobals "reversed" = some none)
    (z_sum : PySem.W.nsIn K mainGlobals "sum" = some none)
    (z_tuple : PySem.W.nsIn K mainGlobals "tuple" = some none)
    (z_zip : PySem.W.nsIn K mainGlobals "zip" = some none)
    {t_MOST_RUNS : Tok} (y_MOST_RUNS : PySem.W.nsIn K mainGlobals "MOST_RUNS" = some (some (.int 200 t_MOST_RUNS)))
    {t_MOST_TOTAL : Tok} (y_MOST_TOTAL : PySem.W.nsIn K mainGlobals "MOST_TOTAL" = some (some (.int 10000000000000000000000000000000000000000000000000000000000000000 t_MOST_TOTAL)))
    {t_MOST_WIDTH : Tok} (y_MOST_WIDTH : PySem.W.nsIn K mainGlobals "MOST_WIDTH" = some (some (.int 8 t_MOST_WIDTH)))
    : LamX.LawAtS l w K (L2.CX l.prog w) 16 63 "script" mg fa h := by
  have T : Txt mg := ⟨PySem.W.mg_none_of X G z_abs, PySem.W.mg_none_of X G z_all, PySem.W.mg_none_of X G z_bool, PySem.W.mg_none_of X G z_int, PySem.W.mg_none_of X G z_isinstance, PySem.W.mg_none_of X G z_len, PySem.W.mg_none_of X G z_list, PySem.W.mg_none_of X G z_max, PySem.W.mg_none_of X G z_min, PySem.W.mg_none_of X G z_range, PySem.W.mg_none_of X G z_repr, PySem.W.mg_none_of X G z_reversed, PySem.W.mg_none_of X G z_sum, PySem.W.mg_none_of X G z_tuple, PySem.W.mg_none_of X G z_zip, ⟨_, PySem.W.mg_of X G y_MOST_RUNS⟩, ⟨_, PySem.W.mg_of X G y_MOST_TOTAL⟩, ⟨_, PySem.W.mg_of X G y_MOST_WIDTH⟩⟩
  have A__wall : FunAt K mg "_wall" "_wall" s__wall ["k"] := ⟨f__wall, _, L2.fun_mk (st := s__wall) l__wall c__wall k__wall, PySem.W.mg_of X G a__wall, (L2.fun_mk (st := s__wall) l__wall c__wall k__wall).binds (ps := ["k"]) fun _ _ _ _ _ _ us hl => match us, hl with | [_], _ => rfl⟩
  have A_is_integer : FunAt K mg "is_integer" "is_integer" s_is_integer ["value"] := ⟨f_is_integer, _, L2.fun_mk (st := s_is_integer) l_is_integer c_is_integer k_is_integer, PySem.W.mg_of X G a_is_integer, (L2.fun_mk (st := s_is_integer) l_is_integer c_is_integer k_is_integer).binds (ps := ["value"]) fun _ _ _ _ _ _ us hl => match us, hl with | [_], _ => rfl⟩
  have A_is_within : FunAt K mg "is_within" "is_within" s_is_within ["value", "low", "most"] := ⟨f_is_within, _, L2.fun_mk (st := s_is_within) l_is_within c_is_within k_is_within, PySem.W.mg_of X G a_is_within, (L2.fun_mk (st := s_is_within) l_is_within c_is_within k_is_within).binds (ps := ["value", "low", "most"]) fun _ _ _ _ _ _ us hl => match us, hl with | [_, _, _], _ => rfl⟩
  have A_require_within : FunAt K mg "require_within" "require_within" s_require_within ["value", "low", "most"] := ⟨f_require_within, _, L2.fun_mk (st := s_require_within) l_require_within c_require_within k_require_within, PySem.W.mg_of X G a_require_within, (L2.fun_mk (st := s_require_within) l_require_within c_require_within k_require_within).binds (ps := ["value", "low", "most"]) fun _ _ _ _ _ _ us hl => match us, hl with | [_, _, _], _ => rfl⟩
  have A_lean_in : FunAt K mg "lean_in" "lean_in" s_lean_in ["runs"] := ⟨f_lean_in, _, L2.fun_mk (st := s_lean_in) l_lean_in c_lean_in k_lean_in, PySem.W.mg_of X G a_lean_in, (L2.fun_mk (st := s_lean_in) l_lean_in c_lean_in k_lean_in).binds (ps := ["runs"]) fun _ _ _ _ _ _ us hl => match us, hl with | [_], _ => rfl⟩
  have A_is_run : FunAt K mg "is_run" "is_run" s_is_run ["width", "value"] := ⟨f_is_run, _, L2.fun_mk (st := s_is_run) l_is_run c_is_run k_is_run, PySem.W.mg_of X G a_is_run, (L2.fun_mk (st := s_is_run) l_is_run c_is_run k_is_run).binds (ps := ["width", "value"]) fun _ _ _ _ _ _ us hl => match us, hl with | [_, _], _ => rfl⟩
  have A_are_runs : FunAt K mg "are_runs" "are_runs" s_are_runs ["width", "value"] := ⟨f_are_runs, _, L2.fun_mk (st := s_are_runs) l_are_runs c_are_runs k_are_runs, PySem.W.mg_of X G a_are_runs, (L2.fun_mk (st := s_are_runs) l_are_runs c_are_runs k_are_runs).binds (ps := ["width", "value"]) fun _ _ _ _ _ _ us hl => match us, hl with | [_, _], _ => rfl⟩
  have A_part_of : FunAt K mg "part_of" "part_of" s_part_of ["runs", "first", "many"] := ⟨f_part_of, _, L2.fun_mk (st := s_part_of) l_part_of c_part_of k_part_of, PySem.W.mg_of X G a_part_of, (L2.fun_mk (st := s_part_of) l_part_of c_part_of k_part_of).binds (ps := ["runs", "first", "many"]) fun _ _ _ _ _ _ us hl => match us, hl with | [_, _, _], _ => rfl⟩
  have A_require_word : FunAt K mg "require_word" "require_word" s_require_word ["word"] := ⟨f_require_word, _, L2.fun_mk (st := s_require_word) l_require_word c_require_word k_require_word, PySem.W.mg_of X G a_require_word, (L2.fun_mk (st := s_require_word) l_require_word c_require_word k_require_word).binds (ps := ["word"]) fun _ _ _ _ _ _ us hl => match us, hl with | [_], _ => rfl⟩
  have A_run_pushed : FunAt K mg "run_pushed" "run_pushed" s_run_pushed ["shelf", "letter", "many"] := ⟨f_run_pushed, _, L2.fun_mk (st := s_run_pushed) l_run_pushed c_run_pushed k_run_pushed, PySem.W.mg_of X G a_run_pushed, (L2.fun_mk (st := s_run_pushed) l_run_pushed c_run_pushed k_run_pushed).binds (ps := ["shelf", "letter", "many"]) fun _ _ _ _ _ _ us hl => match us, hl with | [_, _, _], _ => rfl⟩
  have A_run_pulled : FunAt K mg "run_pulled" "run_pulled" s_run_pulled ["shelf", "letter", "many"] := ⟨f_run_pulled, _, L2.fun_mk (st := s_run_pulled) l_run_pulled c_run_pulled k_run_pulled, PySem.W.mg_of X G a_run_pulled, (L2.fun_mk (st := s_run_pulled) l_run_pulled c_run_pulled k_run_pulled).binds (ps := ["shelf", "letter", "many"]) fun _ _ _ _ _ _ us hl => match us, hl with | [_, _, _], _ => rfl⟩
  have A_led_in : FunAt K mg "led_in" "led_in" s_led_in ["shelf", "runs", "way"] := ⟨f_led_in, _, L2.fun_mk (st := s_led_in) l_led_in c_led_in k_led_in, PySem.W.mg_of X G a_led_in, (L2.fun_mk (st := s_led_in) l_led_in c_led_in k_led_in).binds (ps := ["shelf", "runs", "way"]) fun _ _ _ _ _ _ us hl => match us, hl with | [_, _, _], _ => rfl⟩
  have A_fits_in : FunAt K mg "fits_in" "fits_in" s_fits_in ["shelf", "under"] := ⟨f_fits_in, _, L2.fun_mk (st := s_fits_in) l_fits_in c_fits_in k_fits_in, PySem.W.mg_of X G a_fits_in, (L2.fun_mk (st := s_fits_in) l_fits_in c_fits_in k_fits_in).binds (ps := ["shelf", "under"]) fun _ _ _ _ _ _ us hl => match us, hl with | [_, _], _ => rfl⟩
  have A_is_shelf : FunAt K mg "is_shelf" "is_shelf" s_is_shelf ["value"] := ⟨f_is_shelf, _, L2.fun_mk (st := s_is_shelf) l_is_shelf c_is_shelf k_is_shelf, PySem.W.mg_of X G a_is_shelf, (L2.fun_mk (st := s_is_shelf) l_is_shelf c_is_shelf k_is_shelf).binds (ps := ["value"]) fun _ _ _ _ _ _ us hl => match us, hl with | [_], _ => rfl⟩
  have A_require_shelf : FunAt K mg "require_shelf" "require_shelf" s_require_shelf ["shelf"] := ⟨f_require_shelf, _, L2.fun_mk (st := s_require_shelf) l_require_shelf c_require_shelf k_require_shelf, PySem.W.mg_of X G a_require_shelf, (L2.fun_mk (st := s_require_shelf) l_require_shelf c_require_shelf k_require_shelf).binds (ps := ["shelf"]) fun _ _ _ _ _ _ us hl => match us, hl with | [_], _ => rfl⟩
  have A_require_letter : FunAt K mg "require_letter" "require_letter" s_require_letter ["shelf", "letter", "many"] := ⟨f_require_letter, _, L2.fun_mk (st := s_require_letter) l_require_letter c_require_letter k_require_letter, PySem.W.mg_of X G a_require_letter, (L2.fun_mk (st := s_require_letter) l_require_letter c_require_letter k_require_letter).binds (ps := ["shelf", "letter", "many"]) fun _ _ _ _ _ _ us hl => match us, hl with | [_, _, _], _ => rfl⟩
  have A_require_room : FunAt K mg "require_room" "require_room" s_require_room ["letters", "many"] := ⟨f_require_room, _, L2.fun_mk (st := s_require_room) l_require_room c_require_room k_require_room, PySem.W.mg_of X G a_require_room, (L2.fun_mk (st := s_require_room) l_require_room c_require_room k_require_room).binds (ps := ["letters", "many"]) fun _ _ _ _ _ _ us hl => match us, hl with | [_, _], _ => rfl⟩
  have A_push_in : FunAt K mg "push_in" "push_in" s_push_in ["shelf", "letter", "many"] := ⟨f_push_in, _, L2.fun_mk (st := s_push_in) l_push_in c_push_in k_push_in, PySem.W.mg_of X G a_push_in, (L2.fun_mk (st := s_push_in) l_push_in c_push_in k_push_in).binds (ps := ["shelf", "letter", "many"]) fun _ _ _ _ _ _ us hl => match us, hl with | [_, _, _], _ => rfl⟩
  have A_Word_width : FunM K "width" "Word.width" s_Word_width ["self"] f_Word_width := ⟨_, L2.fun_mk (st := s_Word_width) l_Word_width c_Word_width k_Word_width, (L2.fun_mk (st := s_Word_width) l_Word_width c_Word_width k_Word_width).binds (ps := ["self"]) fun _ _ _ _ _ _ us hl => match us, hl with | [_], _ => rfl⟩
  have A_Word_runs : FunM K "runs" "Word.runs" s_Word_runs ["self"] f_Word_runs := ⟨_, L2.fun_mk (st := s_Word_runs) l_Word_runs c_Word_runs k_Word_runs, (L2.fun_mk (st := s_Word_runs) l_Word_runs c_Word_runs k_Word_runs).binds (ps := ["self"]) fun _ _ _ _ _ _ us hl => match us, hl with | [_], _ => rfl⟩
  have A_push_word : FunAt K mg "push_word" "push_word" s_push_word ["shelf", "word"] := ⟨f_push_word, _, L2.fun_mk (st := s_push_word) l_push_word c_push_word k_push_word, PySem.W.mg_of X G a_push_word, (L2.fun_mk (st := s_push_word) l_push_word c_push_word k_push_word).binds (ps := ["shelf", "word"]) fun _ _ _ _ _ _ us hl => match us, hl with | [_, _], _ => rfl⟩
  have A_pull_in : FunAt K mg "pull_in" "pull_in" s_pull_in ["shelf", "letter", "many"] := ⟨f_pull_in, _, L2.fun_mk (st := s_pull_in) l_pull_in c_pull_in k_pull_in, PySem.W.mg_of X G a_pull_in, (L2.fun_mk (st := s_pull_in) l_pull_in c_pull_in k_pull_in).binds (ps := ["shelf", "letter", "many"]) fun _ _ _ _ _ _ us hl => match us, hl with | [_, _, _], _ => rfl⟩
  have A_fits_under : FunAt K mg "fits_under" "fits_under" s_fits_under ["shelf", "under"] := ⟨f_fits_under, _, L2.fun_mk (st := s_fits_under) l_fits_under c_fits_under k_fits_under, PySem.W.mg_of X G a_fits_under, (L2.fun_mk (st := s_fits_under) l_fits_under c_fits_under k_fits_under).binds (ps := ["shelf", "under"]) fun _ _ _ _ _ _ us hl => match us, hl with | [_, _], _ => rfl⟩
  have A__law_dice : FunAt K mg "_law_dice" "_law_dice" s__law_dice ["script", "spot"] := ⟨f__law_dice, _, L2.fun_mk (st := s__law_dice) l__law_dice c__law_dice k__law_dice, PySem.W.mg_of X G a__law_dice, (L2.fun_mk (st := s__law_dice) l__law_dice c__law_dice k__law_dice).binds (ps := ["script", "spot"]) fun _ _ _ _ _ _ us hl => match us, hl with | [_, _], _ => rfl⟩
  have A__law_roll : FunAt K mg "_law_roll" "_law_roll" s__law_roll ["dice", "total"] := ⟨f__law_roll, _, L2.fun_mk (st := s__law_roll) l__law_roll c__law_roll k__law_roll, PySem.W.mg_of X G a__law_roll, (L2.fun_mk (st := s__law_roll) l__law_roll c__law_roll k__law_roll).binds (ps := ["dice", "total"]) fun _ _ _ _ _ _ us hl => match us, hl with | [_, _], _ => rfl⟩
  have A__law_pick : FunAt K mg "_law_pick" "_law_pick" s__law_pick ["dice", "items"] := ⟨f__law_pick, _, L2.fun_mk (st := s__law_pick) l__law_pick c__law_pick k__law_pick, PySem.W.mg_of X G a__law_pick, (L2.fun_mk (st := s__law_pick) l__law_pick c__law_pick k__law_pick).binds (ps := ["dice", "items"]) fun _ _ _ _ _ _ us hl => match us, hl with | [_, _], _ => rfl⟩
  have A__law_one : FunAt K mg "_law_one" "_law_one" s__law_one ["dice", "right", "wrong"] := ⟨f__law_one, _, L2.fun_mk (st := s__law_one) l__law_one c__law_one k__law_one, PySem.W.mg_of X G a__law_one, (L2.fun_mk (st := s__law_one) l__law_one c__law_one k__law_one).binds (ps := ["dice", "right", "wrong"]) fun _ _ _ _ _ _ us hl => match us, hl with | [_, _, _], _ => rfl⟩
  have A__law_first : FunAt K mg "_law_first" "_law_first" s__law_first ["rows"] := ⟨f__law_first, _, L2.fun_mk (st := s__law_first) l__law_first c__law_first k__law_first, PySem.W.mg_of X G a__law_first, (L2.fun_mk (st := s__law_first) l__law_first c__law_first k__law_first).binds (ps := ["rows"]) fun _ _ _ _ _ _ us hl => match us, hl with | [_], _ => rfl⟩
  have A_Word___init__ : FunM K "__init__" "Word.__init__" s_Word___init__ ["self", "width", "runs"] f_Word___init__ := ⟨_, L2.fun_mk (st := s_Word___init__) l_Word___init__ c_Word___init__ k_Word___init__, (L2.fun_mk (st := s_Word___init__) l_Word___init__ c_Word___init__ k_Word___init__).binds (ps := ["self", "width", "runs"]) fun _ _ _ _ _ _ us hl => match us, hl with | [_, _, _], _ => rfl⟩
  have A__law_right : FunAtC K mg "_law_right" "_law_right" s__law_right ["dice"] cd__law_right := ⟨f__law_right, _, ⟨⟨_, _, _, _, _, _, _, _, rfl, l__law_right, c__law_right⟩, k__law_right⟩, PySem.W.mg_of X G a__law_right, (L2.fun_mk (st := s__law_right) l__law_right c__law_right k__law_right).binds (ps := ["dice"]) fun _ _ _ _ _ _ us hl => match us, hl with | [_], _ => rfl⟩
  have A_Word_length : FunM K "length" "Word.length" s_Word_length ["self"] f_Word_length := ⟨_, L2.fun_mk (st := s_Word_length) l_Word_length c_Word_length k_Word_length, (L2.fun_mk (st := s_Word_length) l_Word_length c_Word_length k_Word_length).binds (ps := ["self"]) fun _ _ _ _ _ _ us hl => match us, hl with | [_], _ => rfl⟩
  have A_Word_counts : FunM K "counts" "Word.counts" s_Word_counts ["self"] f_Word_counts := ⟨_, L2.fun_mk (st := s_Word_counts) l_Word_counts c_Word_counts k_Word_counts, (L2.fun_mk (st := s_Word_counts) l_Word_counts c_Word_counts k_Word_counts).binds (ps := ["self"]) fun _ _ _ _ _ _ us hl => match us, hl with | [_], _ => rfl⟩
  have A_Word_letter : FunM K "letter" "Word.letter" s_Word_letter ["self", "place"] f_Word_letter := ⟨_, L2.fun_mk (st := s_Word_letter) l_Word_letter c_Word_letter k_Word_letter, (L2.fun_mk (st := s_Word_letter) l_Word_letter c_Word_letter k_Word_letter).binds (ps := ["self", "place"]) fun _ _ _ _ _ _ us hl => match us, hl with | [_, _], _ => rfl⟩
  have A_Word___eq__ : FunM K "__eq__" "Word.__eq__" s_Word___eq__ ["self", "other"] f_Word___eq__ := ⟨_, L2.fun_mk (st := s_Word___eq__) l_Word___eq__ c_Word___eq__ k_Word___eq__, (L2.fun_mk (st := s_Word___eq__) l_Word___eq__ c_Word___eq__ k_Word___eq__).binds (ps := ["self", "other"]) fun _ _ _ _ _ _ us hl => match us, hl with | [_, _], _ => rfl⟩
  have A_Word___ne__ : FunM K "__ne__" "Word.__ne__" s_Word___ne__ ["self", "other"] f_Word___ne__ := ⟨_, L2.fun_mk (st := s_Word___ne__) l_Word___ne__ c_Word___ne__ k_Word___ne__, (L2.fun_mk (st := s_Word___ne__) l_Word___ne__ c_Word___ne__ k_Word___ne__).binds (ps := ["self", "other"]) fun _ _ _ _ _ _ us hl => match us, hl with | [_, _], _ => rfl⟩
  have A__law_met : FunAt K mg "_law_met" "_law_met" s__law_met ["call"] := ⟨f__law_met, _, L2.fun_mk (st := s__law_met) l__law_met c__law_met k__law_met, PySem.W.mg_of X G a__law_met, (L2.fun_mk (st := s__law_met) l__law_met c__law_met k__law_met).binds (ps := ["call"]) fun _ _ _ _ _ _ us hl => match us, hl with | [_], _ => rfl⟩
  have e := hfa.symm.trans (PySem.W.mg_of X G a_law)
  cases e
  have FL := L2.fun_mk (st := s_law) l_law c_law k_law
  have hb : Binds K (PySem.W.fnOf "law" "law" (defArgs s_law) (defBody s_law) (defScope s_law) .none kV_law dc_law pm_law an_law (.ref cd_law) ct_law) ["script"] [] := FL.binds (ps := ["script"]) fun _ _ _ _ _ _ us hl => match us, hl with | [_], _ => rfl
  have tab__law_right := PySem.W.tab_of (x := PySem.Str.ofString "_law_right") TP X tr__law_right (tabIn_mk a__law_right l__law_right rfl tc__law_right tt__law_right)
  have tab_law := PySem.W.tab_of (x := PySem.Str.ofString "law") TP X tr_law (tabIn_mk a_law l_law rfl tc_law tt_law)
  refine ⟨PySem.W.fnOf "law" "law" (defArgs s_law) (defBody s_law) (defScope s_law) .none kV_law dc_law pm_law an_law (.ref cd_law) ct_law, [(cd__law_right, P__law_right), (cd_law, P_law)], spLaw K ((gX K k_Word k_InvalidCount k_InvalidWord k_InvalidOperation k_TooMany k_InvalidTable k_InvalidShape k_InvalidCase P__law_right P_law f_run_pushed)).T, fun p hp => by
    simp only [List.mem_cons, List.not_mem_nil, or_false] at hp
    rcases hp with rfl | rfl <;> first | exact tab__law_right.2 | exact tab_law.2, fun p hp => by
    simp only [List.mem_cons, List.not_mem_nil, or_false] at hp
    rcases hp with rfl | rfl <;> first | exact tn__law_right | exact tn_law, fun p hp => by
    simp only [List.mem_cons, List.not_mem_nil, or_false] at hp
    rcases hp with rfl | rfl <;> first | exact tab__law_right.1 | exact tab_law.1, fun s v => .of_eq rfl, fun H a ns hl _ hT hS => ⟨a, ns, rfl, hS, hl, ?_, fun _ => rfl⟩, fun base _ _ hTB => ?_⟩
  · intro p hp
    simp only [gX, List.mem_cons, List.not_mem_nil, or_false] at hp
    rcases hp with rfl | rfl <;> first | exact hT (cd__law_right, P__law_right) (by simp) | exact hT (cd_law, P_law) (by simp)
  have SC_Word : SlX.SCls K k_Word := ⟨pg_Word, ic_Word, po_Word, sa_Word⟩
  have GC_Word : (gX K k_Word k_InvalidCount k_InvalidWord k_InvalidOperation k_TooMany k_InvalidTable k_InvalidShape k_InvalidCase P__law_right P_law f_run_pushed).cl "Word" = some k_Word := by first | rfl | simp [gX]
  have C_Word : (gX K k_Word k_InvalidCount k_InvalidWord k_InvalidOperation k_TooMany k_InvalidTable k_InvalidShape k_InvalidCase P__law_right P_law f_run_pushed).cl "Word" = some k_Word := GC_Word
  have G_run_pushed : (gX K k_Word k_InvalidCount k_InvalidWord k_InvalidOperation k_TooMany k_InvalidTable k_InvalidShape k_InvalidCase P__law_right P_law f_run_pushed).fn "run_pushed" = some f_run_pushed := by first | rfl | simp [gX]
  have I_Word : IsiC (gX K k_Word k_InvalidCount k_InvalidWord k_InvalidOperation k_TooMany k_InvalidTable k_InvalidShape k_InvalidCase P__law_right P_law f_run_pushed) k_Word rel_Word := ⟨kit_plain ic_Word jy_Word rfl, kit_plain ic_Word jy_Word rfl, kit_plain ic_Word jy_Word rfl, kit_plain ic_Word jy_Word rfl, kit_plain ic_Word jy_Word rfl, kit_plain ic_Word jy_Word rfl, fun c b hb => by simp only [rel_Word] at hb; repeat (first | (split at hb; · (rename_i hc; cases hb; subst hc; first | exact ⟨_, GC_Word, SC_Word, ⟨ca_Word, cn_Word, ct_Word, cm_Word⟩, kit_self⟩)) | (cases hb))⟩
  have MK_Word : Mk K k_Word f_Word___init__ := ⟨mk_Word, a_Word___init__, i_Word___init__, kc_Word⟩
  have N_Word : mg "Word" = some (.ref k_Word) := PySem.W.mg_of X G n_Word
  have O_Word___eq__ : OwnM (gX K k_Word k_InvalidCount k_InvalidWord k_InvalidOperation k_TooMany k_InvalidTable k_InvalidShape k_InvalidCase P__law_right P_law f_run_pushed) "Word" .Eq f_Word___eq__ := ⟨⟨_, GC_Word, a_Word___eq__, i_Word___eq__, nf_Word, nt_Word⟩⟩
  have P_Word_length : PropC (gX K k_Word k_InvalidCount k_InvalidWord k_InvalidOperation k_TooMany k_InvalidTable k_InvalidShape k_InvalidCase P__law_right P_law f_run_pushed) "Word" "length" f_Word_length := ⟨⟨_, _, GC_Word, SC_Word, a_Word_length, pg_Word_length, pt_Word_length, _, pr_Word_length⟩⟩
  have P_Word_runs : PropC (gX K k_Word k_InvalidCount k_InvalidWord k_InvalidOperation k_TooMany k_InvalidTable k_InvalidShape k_InvalidCase P__law_right P_law f_run_pushed) "Word" "runs" f_Word_runs := ⟨⟨_, _, GC_Word, SC_Word, a_Word_runs, pg_Word_runs, pt_Word_runs, _, pr_Word_runs⟩⟩
  have P_Word_width : PropC (gX K k_Word k_InvalidCount k_InvalidWord k_InvalidOperation k_TooMany k_InvalidTable k_InvalidShape k_InvalidCase P__law_right P_law f_run_pushed) "Word" "width" f_Word_width := ⟨⟨_, _, GC_Word, SC_Word, a_Word_width, pg_Word_width, pt_Word_width, _, pr_Word_width⟩⟩
  have S_Word_own_runs : SlotC (gX K k_Word k_InvalidCount k_InvalidWord k_InvalidOperation k_TooMany k_InvalidTable k_InvalidShape k_InvalidCase P__law_right P_law f_run_pushed) "Word" "own_runs" 0 := ⟨⟨_, _, GC_Word, SC_Word, qa_Word_own_runs, qg_Word_own_runs, qk_Word_own_runs, qt_Word_own_runs, qi_Word_own_runs, by decide⟩⟩
  have S_Word_own_width : SlotC (gX K k_Word k_InvalidCount k_InvalidWord k_InvalidOperation k_TooMany k_InvalidTable k_InvalidShape k_InvalidCase P__law_right P_law f_run_pushed) "Word" "own_width" 1 := ⟨⟨_, _, GC_Word, SC_Word, qa_Word_own_width, qg_Word_own_width, qk_Word_own_width, qt_Word_own_width, qi_Word_own_width, by decide⟩⟩
  have TE : TellK K mg (gX K k_Word k_InvalidCount k_InvalidWord k_InvalidOperation k_TooMany k_InvalidTable k_InvalidShape k_InvalidCase P__law_right P_law f_run_pushed) "_law_met" "call" metT "none" := ⟨s__law_met, ["call", "error"], _, _, [⟨"InvalidWord", k_InvalidWord, "", "word"⟩, ⟨"InvalidTable", k_InvalidTable, "", "table"⟩, ⟨"InvalidShape", k_InvalidShape, "", "shape"⟩, ⟨"InvalidCase", k_InvalidCase, "", "case"⟩, ⟨"InvalidOperation", k_InvalidOperation, "", "operation"⟩, ⟨"InvalidCount", k_InvalidCount, "given", "count "⟩, ⟨"TooMany", k_TooMany, "limit", "many "⟩], _, _, _, _, _, _, _, ⟨A__law_met, rfl, ⟨rfl, rfl, rfl, by decide +kernel, rfl, by decide +kernel, by decide +kernel⟩, rfl, .inl rfl, fun _ => rfl, by decide, rfl, T.n_repr, fun Z hK hm hs hN => (.plain (by unfold L2.Gl PySem.Env.kindOf; rw [hs]; rfl) (by rw [hm]; exact PySem.W.mg_of X G n_InvalidWord) (by decide) (.plain (by unfold L2.Gl PySem.Env.kindOf; rw [hs]; rfl) (by rw [hm]; exact PySem.W.mg_of X G n_InvalidTable) (by decide) (.plain (by unfold L2.Gl PySem.Env.kindOf; rw [hs]; rfl) (by rw [hm]; exact PySem.W.mg_of X G n_InvalidShape) (by decide) (.plain (by unfold L2.Gl PySem.Env.kindOf; rw [hs]; rfl) (by rw [hm]; exact PySem.W.mg_of X G n_InvalidCase) (by decide) (.plain (by unfold L2.Gl PySem.Env.kindOf; rw [hs]; rfl) (by rw [hm]; exact PySem.W.mg_of X G n_InvalidOperation) (by decide) (.keeps (by unfold L2.Gl PySem.Env.kindOf; rw [hs]; rfl) (by rw [hm]; exact PySem.W.mg_of X G n_InvalidCount) (by decide) (by decide) (by rw [hK]; exact ⟨xg_InvalidCount, xh_InvalidCount, xb_InvalidCount, xd_InvalidCount⟩) (by rw [hK]; exact xn_InvalidCount) (by rw [hN]; rfl) (by unfold PySem.Env.kindOf; rw [hs]; rfl) (by decide) (by decide) (fun _ => rfl) (.keeps (by unfold L2.Gl PySem.Env.kindOf; rw [hs]; rfl) (by rw [hm]; exact PySem.W.mg_of X G n_TooMany) (by decide) (by decide) (by rw [hK]; exact ⟨xg_TooMany, xh_TooMany, xb_TooMany, xd_TooMany⟩) (by rw [hK]; exact xn_TooMany) (by rw [hN]; rfl) (by unfold PySem.Env.kindOf; rw [hs]; rfl) (by decide) (by decide) (fun _ => rfl) .nil))))))), fun env hs => rfl, by decide, by decide, by decide⟩, (rowsG.ok ⟨⟨by first | rfl | simp [gX], by first | rfl | simp [gX], es_InvalidWord⟩, ⟨eo_InvalidTable_InvalidWord, ⟨eo_InvalidShape_InvalidWord, ⟨eo_InvalidCase_InvalidWord, ⟨eo_InvalidOperation_InvalidWord, ⟨eo_InvalidCount_InvalidWord, ⟨eo_TooMany_InvalidWord, trivial⟩⟩⟩⟩⟩⟩, ⟨⟨by first | rfl | simp [gX], by first | rfl | simp [gX], es_InvalidTable⟩, ⟨eo_InvalidShape_InvalidTable, ⟨eo_InvalidCase_InvalidTable, ⟨eo_InvalidOperation_InvalidTable, ⟨eo_InvalidCount_InvalidTable, ⟨eo_TooMany_InvalidTable, trivial⟩⟩⟩⟩⟩, ⟨⟨by first | rfl | simp [gX], by first | rfl | simp [gX], es_InvalidShape⟩, ⟨eo_InvalidCase_InvalidShape, ⟨eo_InvalidOperation_InvalidShape, ⟨eo_InvalidCount_InvalidShape, ⟨eo_TooMany_InvalidShape, trivial⟩⟩⟩⟩, ⟨⟨by first | rfl | simp [gX], by first | rfl | simp [gX], es_InvalidCase⟩, ⟨eo_InvalidOperation_InvalidCase, ⟨eo_InvalidCount_InvalidCase, ⟨eo_TooMany_InvalidCase, trivial⟩⟩⟩, ⟨⟨by first | rfl | simp [gX], by first | rfl | simp [gX], es_InvalidOperation⟩, ⟨eo_InvalidCount_InvalidOperation, ⟨eo_TooMany_InvalidOperation, trivial⟩⟩, ⟨⟨by first | rfl | simp [gX], by first | rfl | simp [gX], es_InvalidCount⟩, ⟨eo_TooMany_InvalidCount, trivial⟩, ⟨⟨by first | rfl | simp [gX], by first | rfl | simp [gX], es_TooMany⟩, trivial, trivial⟩⟩⟩⟩⟩⟩⟩), rfl⟩
  have TT__law_right : (P__law_right, lamN "_law_right") ∈ (gX K k_Word k_InvalidCount k_InvalidWord k_InvalidOperation k_TooMany k_InvalidTable k_InvalidShape k_InvalidCase P__law_right P_law f_run_pushed).T := by simp [gX]
  have TT_law : (P_law, lamN "law") ∈ (gX K k_Word k_InvalidCount k_InvalidWord k_InvalidOperation k_TooMany k_InvalidTable k_InvalidShape k_InvalidCase P__law_right P_law f_run_pushed).T := by simp [gX]
  have TU__law_right : ∀ p ∈ (gX K k_Word k_InvalidCount k_InvalidWord k_InvalidOperation k_TooMany k_InvalidTable k_InvalidShape k_InvalidCase P__law_right P_law f_run_pushed).T, p.1 = P__law_right → p.2 = lamN "_law_right" := tabs_uniq (by exact zz_nd) TT__law_right
  have TU_law : ∀ p ∈ (gX K k_Word k_InvalidCount k_InvalidWord k_InvalidOperation k_TooMany k_InvalidTable k_InvalidShape k_InvalidCase P__law_right P_law f_run_pushed).T, p.1 = P_law → p.2 = lamN "law" := tabs_uniq (by exact zz_nd) TT_law
  have V_run_pushed : mg "run_pushed" = some (.ref f_run_pushed) := PySem.W.mg_of X G a_run_pushed
  have X0_InvalidOperation : ExC0 (gX K k_Word k_InvalidCount k_InvalidWord k_InvalidOperation k_TooMany k_InvalidTable k_InvalidShape k_InvalidCase P__law_right P_law f_run_pushed) K mg "InvalidOperation" k_InvalidOperation := ⟨PySem.W.mg_of X G n_InvalidOperation, by first | rfl | simp [gX], by first | rfl | simp [gX], xe_InvalidOperation, kc_InvalidOperation, xb_InvalidOperation, xt_InvalidOperation⟩
  have X0_InvalidWord : ExC0 (gX K k_Word k_InvalidCount k_InvalidWord k_InvalidOperation k_TooMany k_InvalidTable k_InvalidShape k_InvalidCase P__law_right P_law f_run_pushed) K mg "InvalidWord" k_InvalidWord := ⟨PySem.W.mg_of X G n_InvalidWord, by first | rfl | simp [gX], by first | rfl | simp [gX], xe_InvalidWord, kc_InvalidWord, xb_InvalidWord, xt_InvalidWord⟩
  have XV_InvalidCount : ExCV (gX K k_Word k_InvalidCount k_InvalidWord k_InvalidOperation k_TooMany k_InvalidTable k_InvalidShape k_InvalidCase P__law_right P_law f_run_pushed) l.prog K mg "InvalidCount" k_InvalidCount i_InvalidCount := excv (f := "given") (by first | rfl | simp [gX]) (by first | rfl | simp [gX]) (by decide) fld_given ⟨_, _, _, _, PySem.F.excBase_IndexError, PySem.W.kxs_IndexError, PySem.F.store_IndexError, PySem.W.mg_of X G n_InvalidCount, xc_InvalidCount, xo_InvalidCount, xs_InvalidCount, xk_InvalidCount, xd_InvalidCount, xg_InvalidCount, xh_InvalidCount, xn_InvalidCount, xi_InvalidCount, xf_InvalidCount, kc_InvalidCount, xb_InvalidCount, xt_InvalidCount, xu_InvalidCount, xv_InvalidCount, xw_InvalidCount, zz_any, PySem.W.mg_none_of X G z_super, zz_top, _, _, _, _, _, _, _, _, _, _, _, _, _, _, _, _, _, _, _, _, _, _, _, _, _, _, _, _, _, _, _, _, _, xl_InvalidCount, xm_InvalidCount, xp_InvalidCount, xq_InvalidCount, xr_InvalidCount, xx_InvalidCount, rfl⟩
  have XV_TooMany : ExCV (gX K k_Word k_InvalidCount k_InvalidWord k_InvalidOperation k_TooMany k_InvalidTable k_InvalidShape k_InvalidCase P__law_right P_law f_run_pushed) l.prog K mg "TooMany" k_TooMany i_TooMany := excv (f := "limit") (by first | rfl | simp [gX]) (by first | rfl | simp [gX]) (by decide) fld_limit ⟨_, _, _, _, PySem.F.excBase_OverflowError, PySem.W.kxs_OverflowError, PySem.F.store_OverflowError, PySem.W.mg_of X G n_TooMany, xc_TooMany, xo_TooMany, xs_TooMany, xk_TooMany, xd_TooMany, xg_TooMany, xh_TooMany, xn_TooMany, xi_TooMany, xf_TooMany, kc_TooMany, xb_TooMany, xt_TooMany, xu_TooMany, xv_TooMany, xw_TooMany, zz_any, PySem.W.mg_none_of X G z_super, zz_top, _, _, _, _, _, _, _, _, _, _, _, _, _, _, _, _, _, _, _, _, _, _, _, _, _, _, _, _, _, _, _, _, _, xl_TooMany, xm_TooMany, xp_TooMany, xq_TooMany, xr_TooMany, xx_TooMany, rfl⟩
  exact (all_ok (P := l.prog) (w := w) T A__wall A_is_integer A_is_within A_require_within A_lean_in A_is_run A_are_runs A_part_of A_require_word A_run_pushed A_run_pulled A_led_in A_fits_in A_is_shelf A_require_shelf A_require_letter A_require_room A_push_in A_Word_width A_Word_runs A_push_word A_pull_in A_fits_under A__law_dice A__law_roll A__law_pick A__law_one A__law_first A_Word___init__ A__law_right A_Word_length A_Word_counts A_Word_letter A_Word___eq__ A_Word___ne__ C_Word G_run_pushed I_Word MK_Word N_Word O_Word___eq__ P_Word_length P_Word_runs P_Word_width S_Word_own_runs S_Word_own_width TE TT__law_right TT_law TU__law_right TU_law V_run_pushed X0_InvalidOperation X0_InvalidWord XV_InvalidCount XV_TooMany ⟨⟨_, _, _, _, _, _, _, _, rfl, l_law, c_law⟩, k_law⟩ hfa hb base (hTB (cd__law_right, P__law_right) (by simp)) (hTB (cd_law, P_law) (by simp))).2.2.2.imp (law_sp (g := (gX K k_Word k_InvalidCount k_InvalidWord k_InvalidOperation k_TooMany k_InvalidTable k_InvalidShape k_InvalidCase P__law_right P_law f_run_pushed)) rfl law_den)
theorem walk {l : PySem.W.OpenLaw} {q : Program} {loose : List Str} {XP : (Str → Option Value) → Heap → Prop} {YP : World → Heap → Prop} {d : DefRec} {K : Params → PySem.W.Frag} (hn : l.most = some 63) (hdf : d.params.defaults = [])
    (hY : ∀ (w : World) (h : Heap), YP w h → (K w.params).In h)
    (F : ∀ (w : World) (mg mb : Str → Option Value) (loose : List Str) (mean : ExcName → Option Value) (fa : Addr) (h : Heap), YP w h → (K w.params).In h → h.Ns mainGlobals mg → Top q loose mean mg mb h → mg d.name = some (.ref fa) → LamX.LawAtS l w (K w.params) (L2.CX l.prog w) 16 63 "script" mg fa h) :
    PySem.W.WalkO q loose XP YP l.row.toRowW d [] (fun f vs => PySem.call f vs) :=
  walk_tabs (n := 63) (k := 16) (x := "script") hn (by decide) hdf ⟨rfl, by decide, by decide⟩ hY F
end L16
open PySem PySem.W PyProof.Rows
set_option maxRecDepth 100000 in
set_option pp.maxSteps 150 in
set_option maxHeartbeats 0 in
theorem PySem.Challenge.cw_countshelves_k16_errors_of_shelves_holds : PySem.Challenge.rw_countshelves_k16_errors_of_shelves.Holds := by
  w_on; o_law; k_head; (case hw => w_witness2)
  k_fill
  refine L16.walk (l := PySem.Challenge.rw_countshelves_k16_errors_of_shelves) rfl rfl (fun w h Y => PySem.W.km_in_of Y) ?F
  case F =>
    intro w mg mb loose mean fa h Y KX G TP hmg
    refine' L16.all_mk KX G hmg TP ?n_Word ?pg_Word ?ic_Word ?po_Word ?sa_Word ?mk_Word ?kc_Word ?ca_Word ?cn_Word ?ct_Word ?cm_Word ?nf_Word ?nt_Word ?jy_Word ?jt_Word ?qa_Word_own_runs ?qg_Word_own_runs ?qk_Word_own_runs ?qt_Word_own_runs ?qi_Word_own_runs ?qa_Word_own_width ?qg_Word_own_width ?qk_Word_own_width ?qt_Word_own_width ?qi_Word_own_width ?n_InvalidCount ?kc_InvalidCount ?xb_InvalidCount ?xt_InvalidCount ?xc_InvalidCount ?xo_InvalidCount ?xs_InvalidCount ?xk_InvalidCount ?xd_InvalidCount ?xg_InvalidCount ?xh_InvalidCount ?xn_InvalidCount ?xi_InvalidCount ?xf_InvalidCount ?xu_InvalidCount ?xv_InvalidCount ?xw_InvalidCount ?xl_InvalidCount ?xm_InvalidCount ?xp_InvalidCount ?xq_InvalidCount ?xr_InvalidCount ?xx_InvalidCount ?n_InvalidWord ?kc_InvalidWord ?xb_InvalidWord ?xt_InvalidWord ?xe_InvalidWord ?n_InvalidOperation ?kc_InvalidOperation ?xb_InvalidOperation ?xt_InvalidOperation ?xe_InvalidOperation ?n_TooMany ?kc_TooMany ?xb_TooMany ?xt_TooMany ?xc_TooMany ?xo_TooMany ?xs_TooMany ?xk_TooMany ?xd_TooMany ?xg_TooMany ?xh_TooMany ?xn_TooMany ?xi_TooMany ?xf_TooMany ?xu_TooMany ?xv_TooMany ?xw_TooMany ?xl_TooMany ?xm_TooMany ?xp_TooMany ?xq_TooMany ?xr_TooMany ?xx_TooMany ?n_InvalidTable ?kc_InvalidTable ?xb_InvalidTable ?xt_InvalidTable ?xe_InvalidTable ?n_InvalidShape ?kc_InvalidShape ?xb_InvalidShape ?xt_InvalidShape ?xe_InvalidShape ?n_InvalidCase ?kc_InvalidCase ?xb_InvalidCase ?xt_InvalidCase ?xe_InvalidCase ?zz_any ?z_super ?zz_top ?es_InvalidWord ?eo_InvalidTable_InvalidWord ?eo_InvalidShape_InvalidWord ?eo_InvalidCase_InvalidWord ?eo_InvalidOperation_InvalidWord ?eo_InvalidCount_InvalidWord ?eo_TooMany_InvalidWord ?es_InvalidTable ?eo_InvalidShape_InvalidTable ?eo_InvalidCase_InvalidTable ?eo_InvalidOperation_InvalidTable ?eo_InvalidCount_InvalidTable ?eo_TooMany_InvalidTable ?es_InvalidShape ?eo_InvalidCase_InvalidShape ?eo_InvalidOperation_InvalidShape ?eo_InvalidCount_InvalidShape ?eo_TooMany_InvalidShape ?es_InvalidCase ?eo_InvalidOperation_InvalidCase ?eo_InvalidCount_InvalidCase ?eo_TooMany_InvalidCase ?es_InvalidOperation ?eo_InvalidCount_InvalidOperation ?eo_TooMany_InvalidOperation ?es_InvalidCount ?eo_TooMany_InvalidCount ?es_TooMany ?a__wall ?l__wall ?c__wall ?k__wall ?a_is_integer ?l_is_integer ?c_is_integer ?k_is_integer ?a_is_within ?l_is_within ?c_is_within ?k_is_within ?a_require_within ?l_require_within ?c_require_within ?k_require_within ?a_lean_in ?l_lean_in ?c_lean_in ?k_lean_in ?a_is_run ?l_is_run ?c_is_run ?k_is_run ?a_are_runs ?l_are_runs ?c_are_runs ?k_are_runs ?a_part_of ?l_part_of ?c_part_of ?k_part_of ?a_require_word ?l_require_word ?c_require_word ?k_require_word ?a_run_pushed ?l_run_pushed ?c_run_pushed ?k_run_pushed ?a_run_pulled ?l_run_pulled ?c_run_pulled ?k_run_pulled ?a_led_in ?l_led_in ?c_led_in ?k_led_in ?a_fits_in ?l_fits_in ?c_fits_in ?k_fits_in ?a_is_shelf ?l_is_shelf ?c_is_shelf ?k_is_shelf ?a_require_shelf ?l_require_shelf ?c_require_shelf ?k_require_shelf ?a_require_letter ?l_require_letter ?c_require_letter ?k_require_letter ?a_require_room ?l_require_room ?c_require_room ?k_require_room ?a_push_in ?l_push_in ?c_push_in ?k_push_in ?a_Word_width ?pg_Word_width ?pt_Word_width ?pr_Word_width ?l_Word_width ?c_Word_width ?k_Word_width ?a_Word_runs ?pg_Word_runs ?pt_Word_runs ?pr_Word_runs ?l_Word_runs ?c_Word_runs ?k_Word_runs ?a_push_word ?l_push_word ?c_push_word ?k_push_word ?a_pull_in ?l_pull_in ?c_pull_in ?k_pull_in ?a_fits_under ?l_fits_under ?c_fits_under ?k_fits_under ?a__law_dice ?l__law_dice ?c__law_dice ?k__law_dice ?a__law_roll ?l__law_roll ?c__law_roll ?k__law_roll ?a__law_pick ?l__law_pick ?c__law_pick ?k__law_pick ?a__law_one ?l__law_one ?c__law_one ?k__law_one ?a__law_first ?l__law_first ?c__law_first ?k__law_first ?a_Word___init__ ?i_Word___init__ ?l_Word___init__ ?c_Word___init__ ?k_Word___init__ ?a__law_right ?l__law_right ?c__law_right ?k__law_right ?tr__law_right ?tc__law_right ?tt__law_right ?tn__law_right ?a_law ?l_law ?c_law ?k_law ?tr_law ?tc_law ?tt_law ?tn_law ?a_Word_length ?pg_Word_length ?pt_Word_length ?pr_Word_length ?l_Word_length ?c_Word_length ?k_Word_length ?a_Word_counts ?pg_Word_counts ?pt_Word_counts ?pr_Word_counts ?l_Word_counts ?c_Word_counts ?k_Word_counts ?a_Word_letter ?i_Word_letter ?l_Word_letter ?c_Word_letter ?k_Word_letter ?a_Word___eq__ ?i_Word___eq__ ?l_Word___eq__ ?c_Word___eq__ ?k_Word___eq__ ?a_Word___ne__ ?i_Word___ne__ ?l_Word___ne__ ?c_Word___ne__ ?k_Word___ne__ ?a__law_met ?l__law_met ?c__law_met ?k__law_met ?zz_nd ?z_abs ?z_all ?z_bool ?z_int ?z_isinstance ?z_len ?z_list ?z_max ?z_min ?z_range ?z_repr ?z_reversed ?z_sum ?z_tuple ?z_zip ?y_MOST_RUNS ?y_MOST_TOTAL ?y_MOST_WIDTH
    (case n_Word => k_is)
    (case pg_Word => k_is)
    (case ic_Word => k_is)
    (case po_Word => k_is)
    (case sa_Word => k_is)
    (case mk_Word => k_is)
    (case kc_Word => k_is)
    (case ca_Word => k_is)
    (case cn_Word => k_is)
    (case ct_Word => k_is)
    (case cm_Word => k_is)
    (case nf_Word => k_is)
    (case nt_Word => k_is)
    (case jy_Word => k_is)
    (case jt_Word => k_is)
    (case qa_Word_own_runs => k_is)
    (case qg_Word_own_runs => k_is)
    (case qk_Word_own_runs => k_is)
    (case qt_Word_own_runs => k_is)
    (case qi_Word_own_runs => k_is)
    (case qa_Word_own_width => k_is)
    (case qg_Word_own_width => k_is)
    (case qk_Word_own_width => k_is)
    (case qt_Word_own_width => k_is)
    (case qi_Word_own_width => k_is)
    (case n_InvalidCount => k_is)
    (case kc_InvalidCount => k_is)
    (case xb_InvalidCount => k_is)
    (case xt_InvalidCount => k_is)
    (case xc_InvalidCount => kernel_rfl)
    (case xo_InvalidCount => kernel_rfl)
    (case xs_InvalidCount => k_is)
    (case xk_InvalidCount => k_is)
    (case xd_InvalidCount => k_is)
    (case xg_InvalidCount => k_is)
    (case xh_InvalidCount => k_is)
    (case xn_InvalidCount => k_is)
    (case xi_InvalidCount => k_is)
    (case xf_InvalidCount => k_is)
    (case xu_InvalidCount => kernel_rfl)
    (case xv_InvalidCount => k_is)
    (case xw_InvalidCount => k_is)
    (case xl_InvalidCount => k_is)
    (case xm_InvalidCount => k_is)
    (case xp_InvalidCount => k_is)
    (case xq_InvalidCount => k_is)
    (case xr_InvalidCount => first | rfl | decide +kernel)
    (case xx_InvalidCount => first | rfl | decide +kernel)
    (case n_InvalidWord => k_is)
    (case kc_InvalidWord => k_is)
    (case xb_InvalidWord => k_is)
    (case xt_InvalidWord => k_is)
    (case xe_InvalidWord => k_exc)
    (case n_InvalidOperation => k_is)
    (case kc_InvalidOperation => k_is)
    (case xb_InvalidOperation => k_is)
    (case xt_InvalidOperation => k_is)
    (case xe_InvalidOperation => k_exc)
    (case n_TooMany => k_is)
    (case kc_TooMany => k_is)
    (case xb_TooMany => k_is)
    (case xt_TooMany => k_is)
    (case xc_TooMany => kernel_rfl)
    (case xo_TooMany => kernel_rfl)
    (case xs_TooMany => k_is)
    (case xk_TooMany => k_is)
    (case xd_TooMany => k_is)
    (case xg_TooMany => k_is)
    (case xh_TooMany => k_is)
    (case xn_TooMany => k_is)
    (case xi_TooMany => k_is)
    (case xf_TooMany => k_is)
    (case xu_TooMany => kernel_rfl)
    (case xv_TooMany => k_is)
    (case xw_TooMany => k_is)
    (case xl_TooMany => k_is)
    (case xm_TooMany => k_is)
    (case xp_TooMany => k_is)
    (case xq_TooMany => k_is)
    (case xr_TooMany => first | rfl | decide +kernel)
    (case xx_TooMany => first | rfl | decide +kernel)
    (case n_InvalidTable => k_is)
    (case kc_InvalidTable => k_is)
    (case xb_InvalidTable => k_is)
    (case xt_InvalidTable => k_is)
    (case xe_InvalidTable => k_exc)
    (case n_InvalidShape => k_is)
    (case kc_InvalidShape => k_is)
    (case xb_InvalidShape => k_is)
    (case xt_InvalidShape => k_is)
    (case xe_InvalidShape => k_exc)
    (case n_InvalidCase => k_is)
    (case kc_InvalidCase => k_is)
    (case xb_InvalidCase => k_is)
    (case xt_InvalidCase => k_is)
    (case xe_InvalidCase => k_exc)
    (case zz_any => k_is)
    (case z_super => k_is)
    (case zz_top => first | rfl | decide +kernel)
    (case es_InvalidWord => kernel_rfl)
    (case eo_InvalidTable_InvalidWord => kernel_rfl)
    (case eo_InvalidShape_InvalidWord => kernel_rfl)
    (case eo_InvalidCase_InvalidWord => kernel_rfl)
    (case eo_InvalidOperation_InvalidWord => kernel_rfl)
    (case eo_InvalidCount_InvalidWord => kernel_rfl)
    (case eo_TooMany_InvalidWord => kernel_rfl)
    (case es_InvalidTable => kernel_rfl)
    (case eo_InvalidShape_InvalidTable => kernel_rfl)
    (case eo_InvalidCase_InvalidTable => kernel_rfl)
    (case eo_InvalidOperation_InvalidTable => kernel_rfl)
    (case eo_InvalidCount_InvalidTable => kernel_rfl)
    (case eo_TooMany_InvalidTable => kernel_rfl)
    (case es_InvalidShape => kernel_rfl)
    (case eo_InvalidCase_InvalidShape => kernel_rfl)
    (case eo_InvalidOperation_InvalidShape => kernel_rfl)
    (case eo_InvalidCount_InvalidShape => kernel_rfl)
    (case eo_TooMany_InvalidShape => kernel_rfl)
    (case es_InvalidCase => kernel_rfl)
    (case eo_InvalidOperation_InvalidCase => kernel_rfl)
    (case eo_InvalidCount_InvalidCase => kernel_rfl)
    (case eo_TooMany_InvalidCase => kernel_rfl)
    (case es_InvalidOperation => kernel_rfl)
    (case eo_InvalidCount_InvalidOperation => kernel_rfl)
    (case eo_TooMany_InvalidOperation => kernel_rfl)
    (case es_InvalidCount => kernel_rfl)
    (case eo_TooMany_InvalidCount => kernel_rfl)
    (case es_TooMany => kernel_rfl)
    (case a__wall => k_is)
    (case l__wall => k_is)
    (case c__wall => k_is)
    (case k__wall => k_is)
    (case a_is_integer => k_is)
    (case l_is_integer => k_is)
    (case c_is_integer => k_is)
    (case k_is_integer => k_is)
    (case a_is_within => k_is)
    (case l_is_within => k_is)
    (case c_is_within => k_is)
    (case k_is_within => k_is)
    (case a_require_within => k_is)
    (case l_require_within => k_is)
    (case c_require_within => k_is)
    (case k_require_within => k_is)
    (case a_lean_in => k_is)
    (case l_lean_in => k_is)
    (case c_lean_in => k_is)
    (case k_lean_in => k_is)
    (case a_is_run => k_is)
    (case l_is_run => k_is)
    (case c_is_run => k_is)
    (case k_is_run => k_is)
    (case a_are_runs => k_is)
    (case l_are_runs => k_is)
    (case c_are_runs => k_is)
    (case k_are_runs => k_is)
    (case a_part_of => k_is)
    (case l_part_of => k_is)
    (case c_part_of => k_is)
    (case k_part_of => k_is)
    (case a_require_word => k_is)
    (case l_require_word => k_is)
    (case c_require_word => k_is)
    (case k_require_word => k_is)
    (case a_run_pushed => k_is)
    (case l_run_pushed => k_is)
    (case c_run_pushed => k_is)
    (case k_run_pushed => k_is)
    (case a_run_pulled => k_is)
    (case l_run_pulled => k_is)
    (case c_run_pulled => k_is)
    (case k_run_pulled => k_is)
    (case a_led_in => k_is)
    (case l_led_in => k_is)
    (case c_led_in => k_is)
    (case k_led_in => k_is)
    (case a_fits_in => k_is)
    (case l_fits_in => k_is)
    (case c_fits_in => k_is)
    (case k_fits_in => k_is)
    (case a_is_shelf => k_is)
    (case l_is_shelf => k_is)
    (case c_is_shelf => k_is)
    (case k_is_shelf => k_is)
    (case a_require_shelf => k_is)
    (case l_require_shelf => k_is)
    (case c_require_shelf => k_is)
    (case k_require_shelf => k_is)
    (case a_require_letter => k_is)
    (case l_require_letter => k_is)
    (case c_require_letter => k_is)
    (case k_require_letter => k_is)
    (case a_require_room => k_is)
    (case l_require_room => k_is)
    (case c_require_room => k_is)
    (case k_require_room => k_is)
    (case a_push_in => k_is)
    (case l_push_in => k_is)
    (case c_push_in => k_is)
    (case k_push_in => k_is)
    (case a_Word_width => k_is)
    (case pg_Word_width => k_is)
    (case pt_Word_width => k_is)
    (case pr_Word_width => k_is)
    (case l_Word_width => k_is)
    (case c_Word_width => k_is)
    (case k_Word_width => k_is)
    (case a_Word_runs => k_is)
    (case pg_Word_runs => k_is)
    (case pt_Word_runs => k_is)
    (case pr_Word_runs => k_is)
    (case l_Word_runs => k_is)
    (case c_Word_runs => k_is)
    (case k_Word_runs => k_is)
    (case a_push_word => k_is)
    (case l_push_word => k_is)
    (case c_push_word => k_is)
    (case k_push_word => k_is)
    (case a_pull_in => k_is)
    (case l_pull_in => k_is)
    (case c_pull_in => k_is)
    (case k_pull_in => k_is)
    (case a_fits_under => k_is)
    (case l_fits_under => k_is)
    (case c_fits_under => k_is)
    (case k_fits_under => k_is)
    (case a__law_dice => k_is)
    (case l__law_dice => k_is)
    (case c__law_dice => k_is)
    (case k__law_dice => k_is)
    (case a__law_roll => k_is)
    (case l__law_roll => k_is)
    (case c__law_roll => k_is)
    (case k__law_roll => k_is)
    (case a__law_pick => k_is)
    (case l__law_pick => k_is)
    (case c__law_pick => k_is)
    (case k__law_pick => k_is)
    (case a__law_one => k_is)
    (case l__law_one => k_is)
    (case c__law_one => k_is)
    (case k__law_one => k_is)
    (case a__law_first => k_is)
    (case l__law_first => k_is)
    (case c__law_first => k_is)
    (case k__law_first => k_is)
    (case a_Word___init__ => k_is)
    (case i_Word___init__ => k_is)
    (case l_Word___init__ => k_is)
    (case c_Word___init__ => k_is)
    (case k_Word___init__ => k_is)
    (case a__law_right => k_is)
    (case l__law_right => k_is)
    (case c__law_right => k_is)
    (case k__law_right => k_is)
    (case tr__law_right => rfl)
    (case tc__law_right => k_is)
    (case tt__law_right => rfl)
    (case tn__law_right => kernel_rfl)
    (case a_law => k_is)
    (case l_law => k_is)
    (case c_law => k_is)
    (case k_law => k_is)
    (case tr_law => rfl)
    (case tc_law => k_is)
    (case tt_law => rfl)
    (case tn_law => kernel_rfl)
    (case a_Word_length => k_is)
    (case pg_Word_length => k_is)
    (case pt_Word_length => k_is)
    (case pr_Word_length => k_is)
    (case l_Word_length => k_is)
    (case c_Word_length => k_is)
    (case k_Word_length => k_is)
    (case a_Word_counts => k_is)
    (case pg_Word_counts => k_is)
    (case pt_Word_counts => k_is)
    (case pr_Word_counts => k_is)
    (case l_Word_counts => k_is)
    (case c_Word_counts => k_is)
    (case k_Word_counts => k_is)
    (case a_Word_letter => k_is)
    (case i_Word_letter => k_is)
    (case l_Word_letter => k_is)
    (case c_Word_letter => k_is)
    (case k_Word_letter => k_is)
    (case a_Word___eq__ => k_is)
    (case i_Word___eq__ => k_is)
    (case l_Word___eq__ => k_is)
    (case c_Word___eq__ => k_is)
    (case k_Word___eq__ => k_is)
    (case a_Word___ne__ => k_is)
    (case i_Word___ne__ => k_is)
    (case l_Word___ne__ => k_is)
    (case c_Word___ne__ => k_is)
    (case k_Word___ne__ => k_is)
    (case a__law_met => k_is)
    (case l__law_met => k_is)
    (case c__law_met => k_is)
    (case k__law_met => k_is)
    (case zz_nd => decide)
    (case z_abs => k_is)
    (case z_all => k_is)
    (case z_bool => k_is)
    (case z_int => k_is)
    (case z_isinstance => k_is)
    (case z_len => k_is)
    (case z_list => k_is)
    (case z_max => k_is)
    (case z_min => k_is)
    (case z_range => k_is)
    (case z_repr => k_is)
    (case z_reversed => k_is)
    (case z_sum => k_is)
    (case z_tuple => k_is)
    (case z_zip => k_is)
    (case y_MOST_RUNS => k_is)
    (case y_MOST_TOTAL => k_is)
    (case y_MOST_WIDTH => k_is)
