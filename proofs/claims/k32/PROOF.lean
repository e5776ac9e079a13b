import PyProof.Rows.All
import HandS.ForMost
import HandS.ForExc
import HandS.Wide
import HandS.Flow
import HandS.IsInst
import HandS.Zip
import HandS.TupMul
import HandS.TupAny
import HandS.Style
import HandS.CallSlots
import HandS.WideBits
import KE.GoesNew
import KE.GoesMore
import KE.GoesEnum
import KE.KSortTupG
import HandS.SortInts
import HandS.ExcInit
import KE.KExcIs
import HandS.ExcField
import HandS.ExcIs
import HandS.Head0
import HandS.Head1
import HandS.Head2
import HandS.HeadEnd
import HandS.HeadHook1
import HandS.HeadHook2
import HandS.Conv
import HandS.SetFor
import HandS.Strs
import HandS.TupSets
import PySem.Challenge.RW_slowedsteps_k32_loads_or_not
section
set_option Elab.async false
set_option linter.all false
set_option maxRecDepth 100000
/-! the value layer: plain data in the place of addresses -/
namespace Dl
open PySem PySem.Spec PyProof.Rows L2

abbrev OS := Addr → Bool
/-- no written part -/
abbrev K0 : PySem.W.Frag := []
def hid (O : OS) (H : Hp) : Hp := fun a => if O a = true then none else H a
theorem hid_le {O : OS} {H : Hp} {a : Addr} {o : HO} (h : hid O H a = some o) : O a = false ∧ H a = some o := by
  unfold hid at h
  by_cases e : O a = true
  · rw [if_pos e] at h; cases h
  · rw [if_neg e] at h; exact ⟨by simpa using e, h⟩
theorem hid_of {O : OS} {H : Hp} {a : Addr} (h : O a = false) : hid O H a = H a := by
  unfold hid; rw [if_neg (by simp [h])]

section
variable {K : PySem.W.Frag}
theorem sqL_mono {H H' : Hp} {a : Addr} {xs : List V} (m : Same H H') (h : SqL K H a xs) : SqL K H' a xs := m.seq h
theorem sqT_mono {H H' : Hp} {a : Addr} {xs : List V} (m : Same H H') (h : SqT K H a xs) : SqT K H' a xs := by
  rcases h with (h | ⟨o, h⟩) | h
  · exact .inl (.inl (m _ _ h))
  · exact .inl (.inr ⟨o, m _ _ h⟩)
  · exact .inr h
mutual
theorem dp_mono {H H' : Hp} (m : Same H H') : ∀ {v : V} {d : PyData}, Dp K H v d → Dp K H' v d
  | _, _, .non => .non
  | _, _, .bl b => .bl b
  | _, _, .int i => .int i
  | _, _, .str x => .str x
  | _, _, .lst s a => .lst (sqL_mono m s) (dpAll_mono m a)
  | _, _, .tup s a => .tup (sqT_mono m s) (dpAll_mono m a)
theorem dpAll_mono {H H' : Hp} (m : Same H H') : ∀ {vs : List V} {ds : List PyData}, DpAll K H vs ds → DpAll K H' vs ds
  | _, _, .nil => .nil
  | _, _, .cons a b => .cons (dp_mono m a) (dpAll_mono m b)
end
theorem dpAll_len {H : Hp} : ∀ {vs : List V} {ds : List PyData}, DpAll K H vs ds → vs.length = ds.length
  | _, _, .nil => rfl
  | _, _, .cons _ b => by simp [dpAll_len b]
theorem dpAll_get {H : Hp} : ∀ {vs : List V} {ds : List PyData} {i : Nat} {v : V}, DpAll K H vs ds → vs[i]? = some v → ∃ d, ds[i]? = some d ∧ Dp K H v d
  | _, _, _, _, .nil, e => by simp at e
  | _, _, 0, _, .cons a _, e => by simp at e; subst e; exact ⟨_, rfl, a⟩
  | _, _, i + 1, v, .cons _ b, e => by
    obtain ⟨d, h1, h2⟩ := dpAll_get (i := i) b (by simpa using e)
    exact ⟨d, by simpa using h1, h2⟩
theorem dpAll_getD {H : Hp} : ∀ {vs : List V} {ds : List PyData} {i : Nat} {d : PyData}, DpAll K H vs ds → ds[i]? = some d → ∃ v, vs[i]? = some v ∧ Dp K H v d
  | _, _, _, _, .nil, e => by simp at e
  | _, _, 0, _, .cons a _, e => by simp at e; subst e; exact ⟨_, rfl, a⟩
  | _, _, i + 1, v, .cons _ b, e => by
    obtain ⟨d, h1, h2⟩ := dpAll_getD (i := i) b (by simpa using e)
    exact ⟨d, by simpa using h1, h2⟩
theorem dpAll_app {H : Hp} : ∀ {vs ws : List V} {ds es : List PyData}, DpAll K H vs ds → DpAll K H ws es → DpAll K H (vs ++ ws) (ds ++ es)
  | _, _, _, _, .nil, b => b
  | _, _, _, _, .cons a r, b => .cons a (dpAll_app r b)
theorem dpAll_set {H : Hp} {v : V} {d : PyData} (h : Dp K H v d) : ∀ {vs : List V} {ds : List PyData} (i : Nat), DpAll K H vs ds → DpAll K H (vs.set i v) (ds.set i d)
  | _, _, _, .nil => .nil
  | _, _, 0, .cons _ r => .cons h r
  | _, _, i + 1, .cons a r => .cons a (dpAll_set h i r)
theorem dpAll_take {H : Hp} : ∀ {vs : List V} {ds : List PyData} (i : Nat), DpAll K H vs ds → DpAll K H (vs.take i) (ds.take i)
  | _, _, 0, _ => .nil
  | _, _, i + 1, .nil => .nil
  | _, _, i + 1, .cons a r => .cons a (dpAll_take i r)
theorem dpAll_drop {H : Hp} : ∀ {vs : List V} {ds : List PyData} (i : Nat), DpAll K H vs ds → DpAll K H (vs.drop i) (ds.drop i)
  | _, _, 0, h => h
  | _, _, i + 1, .nil => .nil
  | _, _, i + 1, .cons _ r => dpAll_drop i r
theorem dpAll_erase {H : Hp} : ∀ {vs : List V} {ds : List PyData} (i : Nat), DpAll K H vs ds → DpAll K H (vs.eraseIdx i) (ds.eraseIdx i)
  | _, _, 0, .nil => .nil
  | _, _, i + 1, .nil => .nil
  | _, _, 0, .cons _ r => r
  | _, _, i + 1, .cons a r => .cons a (dpAll_erase i r)
theorem dpAll_rev {H : Hp} : ∀ {vs : List V} {ds : List PyData}, DpAll K H vs ds → DpAll K H vs.reverse ds.reverse
  | _, _, .nil => .nil
  | _, _, .cons a r => by
    rw [List.reverse_cons, List.reverse_cons]
    exact dpAll_app (dpAll_rev r) (.cons a .nil)
theorem dp_int {H : Hp} {v : V} {i : Int} (h : Dp K H v (.int i)) : v = .int i := by cases h; rfl
theorem dp_str {H : Hp} {v : V} {i : Str} (h : Dp K H v (.str i)) : v = .str i := by cases h; rfl
theorem dp_bool {H : Hp} {v : V} {i : Bool} (h : Dp K H v (.bool i)) : v = .bl i := by cases h; rfl
theorem dp_none {H : Hp} {v : V} (h : Dp K H v .none) : v = .non := by cases h; rfl
end

/-- what a name holds -/
inductive Sl where
  | no | hd
  | dat (d : PyData)
  | own (xs : List PyData)
  | bor (xs : List PyData)
  | dct (kvs : List (Key × PyData))
  | exc (c : Nat) (fs : List (Str × PyData))
abbrev En := List Sl
def Sl.isOwn : Sl → Bool
  | .own _ | .bor _ | .dct _ => true
  | _ => false
def Sl.fixed : Sl → Bool
  | .bor _ | .hd => true
  | _ => false

inductive Out (α : Type) where
  | val (a : α) | ex (c : Nat) (fs : List (Str × PyData))
abbrev Mo (α : Type) := En → Option (Out α × En)
def ret {α : Type} (a : α) : Mo α := fun ρ => some (.val a, ρ)
def bnd {α β : Type} (x : Mo α) (k : α → Mo β) : Mo β := fun ρ => match x ρ with
  | none => none
  | some (.val a, ρ') => k a ρ'
  | some (.ex c fs, ρ') => some (.ex c fs, ρ')
def lft {α : Type} (o : Option α) : Mo α := fun ρ => match o with
  | none => none
  | some a => some (.val a, ρ)
theorem bnd_val {α β : Type} {x : Mo α} {k : α → Mo β} {ρ ρ' : En} {a : α} (h : x ρ = some (.val a, ρ')) : bnd x k ρ = k a ρ' := by unfold bnd; rw [h]
theorem bnd_ex {α β : Type} {x : Mo α} {k : α → Mo β} {ρ ρ' : En} {c} {fs} (h : x ρ = some (.ex c fs, ρ')) : bnd x k ρ = some (.ex c fs, ρ') := by unfold bnd; rw [h]
theorem bnd_no {α β : Type} {x : Mo α} {k : α → Mo β} {ρ : En} (h : x ρ = none) : bnd x k ρ = none := by unfold bnd; rw [h]

/-- what an expression gives: data, or a new list, a new dict that nobody else holds -/
inductive Rs where
  | dt (d : PyData) | new (xs : List PyData) | newd (kvs : List (Key × PyData))
def Rs.asD : Rs → Option PyData
  | .dt d => some d
  | .new xs => some (.list xs)
  | .newd _ => none

def DKs (K : PySem.W.Frag) (H : Hp) (ws : List (Key × V)) (kvs : List (Key × PyData)) : Prop := ws.map (·.1) = kvs.map (·.1) ∧ DpAll K H (ws.map (·.2)) (kvs.map (·.2))
def FsOk (K : PySem.W.Frag) (H : Hp) (ws : List (Str × V)) (fs : List (Str × PyData)) : Prop := ws.map (·.1) = fs.map (·.1) ∧ DpAll K H (ws.map (·.2)) (fs.map (·.2))
theorem dKs_mono {K : PySem.W.Frag} {H H' : Hp} {ws} {kvs} (m : Same H H') (h : DKs K H ws kvs) : DKs K H' ws kvs := ⟨h.1, dpAll_mono m h.2⟩
theorem fsOk_mono {K : PySem.W.Frag} {H H' : Hp} {ws} {kvs} (m : Same H H') (h : FsOk K H ws kvs) : FsOk K H' ws kvs := ⟨h.1, dpAll_mono m h.2⟩

/-- the entry's heap and what is hidden there, the classes of errors by number, the wish about errors -/
structure Ct where
  H0 : Hp
  O0 : OS
  ce : Nat → Addr
  W : WX

/-- an error object held as a value -/
def exn (a : Addr) (cls : Value) (d : Addr) : HO := .ext fun h => ∃ (oe : Obj) (vs : Array Value), h.get? a = some oe ∧ oe.cls = cls ∧ oe.dict = some d ∧ oe.data = .fields vs
def ExV (K : PySem.W.Frag) (H : Hp) (ce : Nat → Addr) (a : Addr) (c : Nat) (fs : List (Str × PyData)) : Prop := ∃ (dd : Addr) (ws : List (Str × V)), H a = some (exn a (.ref (ce c)) dd) ∧ H dd = some (.xd ws) ∧ FsOk K H ws fs

def SlOk (K : PySem.W.Frag) (c : Ct) (O : OS) (H : Hp) (w : Option V) : Sl → Prop
  | .no | .hd => True
  | .dat d => ∃ v, w = some v ∧ Dp K (hid O H) v d
  | .own xs => ∃ a vs, w = some (.ref a) ∧ c.H0 a = none ∧ O a = true ∧ H a = some (.lst vs) ∧ DpAll K (hid O H) vs xs
  | .bor xs => ∃ a vs, w = some (.ref a) ∧ O a = true ∧ H a = some (.lst vs) ∧ DpAll K (hid O H) vs xs
  | .dct kvs => ∃ a ws, w = some (.ref a) ∧ c.H0 a = none ∧ O a = true ∧ H a = some (.dK ws) ∧ DKs K (hid O H) ws kvs
  | .exc n fs => ∃ a, w = some (.ref a) ∧ ExV K (hid O H) c.ce a n fs

def Own (σ : L2.St) (ρ : En) (a : Addr) : Prop := ∃ (i : Nat) (s : Sl), σ[i]? = some (some (V.ref a)) ∧ ρ[i]? = some s ∧ s.isOwn = true

structure Rel (K : PySem.W.Frag) (c : Ct) (O : OS) (σ : L2.St) (H : Hp) (ρ : En) : Prop where
  len : σ.length = ρ.length
  low : ∀ a, c.O0 a = true → O a = true
  dom0 : ∀ a, c.H0 a ≠ none → H a ≠ none
  o0 : ∀ a, c.O0 a = true → c.H0 a ≠ none
  dom : ∀ a, O a = true → H a ≠ none
  sl : ∀ (i : Nat) (w : Option V) (s : Sl), σ[i]? = some w → ρ[i]? = some s → SlOk K c O H w s
  inj : ∀ (i j : Nat) (a : Addr) (s t : Sl), σ[i]? = some (some (.ref a)) → σ[j]? = some (some (.ref a)) → ρ[i]? = some s → ρ[j]? = some t → s.isOwn = true → t.isOwn = true → i = j

/-- one state behind another -/
structure Stp (σ σ' : L2.St) (ρ ρ' : En) (H H' : Hp) (O O' : OS) : Prop where
  dom : ∀ a, H a ≠ none → H' a ≠ none
  fr : ∀ a o, H a = some o → ¬ Own σ ρ a → H' a = some o
  sub : ∀ a, O' a = true → O a = true ∨ H a = none
  own : ∀ a, Own σ' ρ' a → Own σ ρ a ∨ H a = none
  keep : ∀ a, O a = true → Own σ ρ a ∨ O' a = true
  fix : ∀ (i : Nat) (s : Sl), ρ'[i]? = some s → s.fixed = true → ∃ t, ρ[i]? = some t ∧ t.fixed = true ∧ σ'[i]? = σ[i]? ∧ (t = .hd ↔ s = .hd)

theorem Stp.refl {σ : L2.St} {ρ : En} {H : Hp} {O : OS} : Stp σ σ ρ ρ H H O O :=
  ⟨fun _ h => h, fun _ _ h _ => h, fun _ h => .inl h, fun _ h => .inl h, fun _ h => .inr h, fun _ s h f => ⟨s, h, f, rfl, Iff.rfl⟩⟩
theorem own_dom {K : PySem.W.Frag} {c : Ct} {O : OS} {σ : L2.St} {H : Hp} {ρ : En} (R : Rel K c O σ H ρ) {a : Addr} (h : Own σ ρ a) : O a = true ∧ H a ≠ none := by
  obtain ⟨i, s, h1, h2, h3⟩ := h
  have q := R.sl i _ s h1 h2
  cases s with
  | own xs => obtain ⟨b, vs, e, _, o, e2, _⟩ := q; cases e; exact ⟨o, by rw [e2]; exact fun z => nomatch z⟩
  | bor xs => obtain ⟨b, vs, e, o, e2, _⟩ := q; cases e; exact ⟨o, by rw [e2]; exact fun z => nomatch z⟩
  | dct xs => obtain ⟨b, vs, e, _, o, e2, _⟩ := q; cases e; exact ⟨o, by rw [e2]; exact fun z => nomatch z⟩
  | _ => cases h3
theorem Stp.trans {K : PySem.W.Frag} {c : Ct} {σ σ1 σ2 : L2.St} {ρ ρ1 ρ2 : En} {H H1 H2 : Hp} {O O1 O2 : OS} (R : Rel K c O σ H ρ) (a : Stp σ σ1 ρ ρ1 H H1 O O1) (b : Stp σ1 σ2 ρ1 ρ2 H1 H2 O1 O2) : Stp σ σ2 ρ ρ2 H H2 O O2 where
  dom := fun x h => b.dom x (a.dom x h)
  fr := fun x o h n => b.fr x o (a.fr x o h n) fun z => (a.own x z).elim n fun q => by rw [h] at q; cases q
  sub := fun x h => by
    rcases b.sub x h with q | q
    · exact a.sub x q
    · cases e : H x with
      | none => exact .inr rfl
      | some o => exact absurd q (a.dom x (by rw [e]; exact fun z => nomatch z))
  own := fun x h => by
    rcases b.own x h with q | q
    · exact a.own x q
    · cases e : H x with
      | none => exact .inr rfl
      | some o => exact absurd q (a.dom x (by rw [e]; exact fun z => nomatch z))
  keep := fun x h => by
    rcases a.keep x h with q | q
    · exact .inl q
    · rcases b.keep x q with z | z
      · rcases a.own x z with y | y
        · exact .inl y
        · exact absurd y (R.dom x h)
      · exact .inr z
  fix := fun i s h f => by
    obtain ⟨t, h1, h2, h3, h5⟩ := b.fix i s h f
    obtain ⟨u, h4, h6, h7, h8⟩ := a.fix i t h1 h2
    exact ⟨u, h4, h6, h3.trans h7, h8.trans h5⟩
/-- data stands -/
theorem Stp.same {K : PySem.W.Frag} {c : Ct} {σ σ' : L2.St} {ρ ρ' : En} {H H' : Hp} {O O' : OS} (R : Rel K c O σ H ρ) (t : Stp σ σ' ρ ρ' H H' O O') : Same (hid O H) (hid O' H') := fun a o h => by
  obtain ⟨h1, h2⟩ := hid_le h
  have n : ¬ Own σ ρ a := fun z => by rw [(own_dom R z).1] at h1; cases h1
  have z : O' a = false := by
    cases e : O' a with
    | false => rfl
    | true =>
      rcases t.sub a e with q | q
      · rw [h1] at q; cases q
      · rw [h2] at q; cases q
  rw [hid_of z]
  exact t.fr a o h2 n

/-- by the heap ahead of it -/
def RsOk (K : PySem.W.Frag) (c : Ct) (σ : L2.St) (H : Hp) (ρ' : En) (H' : Hp) (O' : OS) (v : V) : Rs → Prop
  | .dt d => Dp K (hid O' H') v d
  | .new xs => ∃ p vs, v = .ref p ∧ H p = none ∧ O' p = true ∧ ¬ Own σ ρ' p ∧ H' p = some (.lst vs) ∧ DpAll K (hid O' H') vs xs
  | .newd kvs => ∃ p ws, v = .ref p ∧ H p = none ∧ O' p = true ∧ ¬ Own σ ρ' p ∧ H' p = some (.dK ws) ∧ DKs K (hid O' H') ws kvs

def ExOk (K : PySem.W.Frag) (c : Ct) (H' : Hp) (O' : OS) (dd : Addr) (fs : List (Str × PyData)) : Prop := c.H0 dd = none ∧ O' dd = false ∧ ∃ ws, H' dd = some (.xd ws) ∧ FsOk K (hid O' H') ws fs

/-- what is wanted behind a piece of code that gives an α, by what R says of the value -/
def PostG {α β : Type} (K : PySem.W.Frag) (c : Ct) (O : OS) (σ : L2.St) (H : Hp) (ρ : En) (R : Hp → En → Hp → OS → β → α → Prop) (Q : β → Hp → Prop) : Option (Out α × En) → Prop
  | none => False
  | some (.val r, ρ') => ∀ v H' O', Stp σ σ ρ ρ' H H' O O' → Rel K c O' σ H' ρ' → R H ρ' H' O' v r → Q v H'
  | some (.ex n fs, ρ') => ∀ dd H' O', Stp σ σ ρ ρ' H H' O O' → Rel K c O' σ H' ρ' → ExOk K c H' O' dd fs → c.W (.ref (c.ce n)) (some dd) σ H'
/-- a reading by data -/
def rdG {α β : Type} (K : PySem.W.Frag) (c : Ct) (R : L2.St → Hp → En → Hp → OS → β → α → Prop) (x : Mo α) : L2.St → Hp → (β → Hp → Prop) → Prop :=
  fun σ H Q => ∃ O ρ, Rel K c O σ H ρ ∧ PostG K c O σ H ρ (R σ) Q (x ρ)
def RD (K : PySem.W.Frag) : L2.St → Hp → En → Hp → OS → V → PyData → Prop := fun _ _ _ H O v d => Dp K (hid O H) v d
def RR (K : PySem.W.Frag) (c : Ct) : L2.St → Hp → En → Hp → OS → V → Rs → Prop := fun σ H ρ H' O v r => RsOk K c σ H ρ H' O v r
abbrev rd (K : PySem.W.Frag) (c : Ct) (x : Mo Rs) : TE := rdG K c (RR K c) x
abbrev rdD (K : PySem.W.Frag) (c : Ct) (x : Mo PyData) : TE := rdG K c (RD K) x
/-- told of an earlier heap, if of a later one -/
def Mn {α β : Type} (R : Hp → En → Hp → OS → β → α → Prop) : Prop := ∀ (H H1 : Hp), (∀ a, H a ≠ none → H1 a ≠ none) → ∀ ρ H' O v a, R H1 ρ H' O v a → R H ρ H' O v a
theorem mn_D {K : PySem.W.Frag} {σ : L2.St} : Mn (RD K σ) := fun _ _ _ _ _ _ _ _ h => h
theorem none_back {H H1 : Hp} (m : ∀ a, H a ≠ none → H1 a ≠ none) {p : Addr} (h : H1 p = none) : H p = none := by
  cases e : H p with
  | none => rfl
  | some o => exact absurd h (m p (by rw [e]; exact fun z => nomatch z))
theorem mn_R {K : PySem.W.Frag} {c : Ct} {σ : L2.St} : Mn (RR K c σ) := fun H H1 m ρ H' O v a h => by
  cases a with
  | dt d => exact h
  | new xs => obtain ⟨p, vs, e, n, r⟩ := h; exact ⟨p, vs, e, none_back m n, r⟩
  | newd xs => obtain ⟨p, vs, e, n, r⟩ := h; exact ⟨p, vs, e, none_back m n, r⟩

theorem PostG.later {α β : Type} {K : PySem.W.Frag} {c : Ct} {O O1 : OS} {σ : L2.St} {H H1 : Hp} {ρ ρ1 : En} {R : Hp → En → Hp → OS → β → α → Prop} {Q : β → Hp → Prop} {r : Option (Out α × En)}
    (M : Mn R) (h : PostG K c O σ H ρ R Q r) (L : Rel K c O σ H ρ) (s : Stp σ σ ρ ρ1 H H1 O O1) : PostG K c O1 σ H1 ρ1 R Q r := by
  match r with
  | none => exact h
  | some (.val a, ρ2) => exact fun v H2 O2 t L2 q => h v H2 O2 (s.trans L t) L2 (M _ _ s.dom _ _ _ _ _ q)
  | some (.ex n fs, ρ2) => exact fun v H2 O2 t L2 q => h v H2 O2 (s.trans L t) L2 q
/-- first x, then what hangs on it -/
theorem PostG.bind {α β γ δ : Type} {K : PySem.W.Frag} {c : Ct} {O : OS} {σ : L2.St} {H : Hp} {ρ : En} {R : Hp → En → Hp → OS → β → α → Prop} {R2 : Hp → En → Hp → OS → δ → γ → Prop} {Q : δ → Hp → Prop} {Q1 : β → Hp → Prop} {x : Mo α} {k : α → Mo γ}
    (M : Mn R2) (L : Rel K c O σ H ρ) (h : PostG K c O σ H ρ R2 Q (bnd x k ρ))
    (f : ∀ a ρ1 v H1 O1, x ρ = some (.val a, ρ1) → Stp σ σ ρ ρ1 H H1 O O1 → Rel K c O1 σ H1 ρ1 → R H ρ1 H1 O1 v a → PostG K c O1 σ H1 ρ1 R2 Q (k a ρ1) → PostG K c O σ H ρ R2 Q (k a ρ1) → Q1 v H1) : PostG K c O σ H ρ R Q1 (x ρ) := by
  match e : x ρ with
  | none => rw [bnd_no e] at h; exact h
  | some (.val a, ρ1) =>
    rw [bnd_val e] at h
    exact fun v H1 O1 s L1 q => f a ρ1 v H1 O1 e s L1 q (h.later M L s) h
  | some (.ex n fs, ρ1) =>
    rw [bnd_ex e] at h
    exact h
theorem PostG.at {α β : Type} {K : PySem.W.Frag} {c : Ct} {O : OS} {σ : L2.St} {H : Hp} {ρ : En} {R : Hp → En → Hp → OS → β → α → Prop} {Q : β → Hp → Prop} {a : α} {v : β}
    (L : Rel K c O σ H ρ) (h : PostG K c O σ H ρ R Q (some (.val a, ρ))) (q : R H ρ H O v a) : Q v H := h v H O .refl L q

/-! ### hiding and showing -/
def rm (O : OS) (p : Addr) : OS := fun a => O a && !(a == p)
def ins (O : OS) (p : Addr) : OS := fun a => (a == p) || O a
theorem rm_same {O : OS} {p : Addr} : rm O p p = false := by simp [rm]
theorem rm_ne {O : OS} {p a : Addr} (h : a ≠ p) : rm O p a = O a := by simp [rm, h]
theorem rm_le {O : OS} {p a : Addr} (h : rm O p a = true) : O a = true := by simp [rm] at h; exact h.1
theorem ins_same {O : OS} {p : Addr} : ins O p p = true := by simp [ins]
theorem ins_ne {O : OS} {p a : Addr} (h : a ≠ p) : ins O p a = O a := by simp [ins, h]
theorem hid_rm {O : OS} {H : Hp} {p : Addr} : Same (hid O H) (hid (rm O p) H) := fun a o h => by
  obtain ⟨h1, h2⟩ := hid_le h
  have z : rm O p a = false := by simp [rm, h1]
  rw [hid_of z]; exact h2
theorem slOk_mono {K : PySem.W.Frag} {c : Ct} {O O' : OS} {H H' : Hp} {w : Option V} {s : Sl} (m : Same (hid O H) (hid O' H')) (ho : ∀ a, w = some (.ref a) → s.isOwn = true → O' a = O a ∧ H' a = H a) (h : SlOk K c O H w s) : SlOk K c O' H' w s := by
  cases s with
  | no => trivial
  | hd => trivial
  | dat d => obtain ⟨v, e, q⟩ := h; exact ⟨v, e, dp_mono m q⟩
  | own xs => obtain ⟨a, vs, e, n, o, hh, q⟩ := h; obtain ⟨e1, e2⟩ := ho a e rfl; exact ⟨a, vs, e, n, by rw [e1]; exact o, by rw [e2]; exact hh, dpAll_mono m q⟩
  | bor xs => obtain ⟨a, vs, e, o, hh, q⟩ := h; obtain ⟨e1, e2⟩ := ho a e rfl; exact ⟨a, vs, e, by rw [e1]; exact o, by rw [e2]; exact hh, dpAll_mono m q⟩
  | dct xs => obtain ⟨a, vs, e, n, o, hh, q⟩ := h; obtain ⟨e1, e2⟩ := ho a e rfl; exact ⟨a, vs, e, n, by rw [e1]; exact o, by rw [e2]; exact hh, dKs_mono m q⟩
  | exc n fs => obtain ⟨a, e, dd, ws, h1, h2, h3⟩ := h; exact ⟨a, e, dd, ws, m _ _ h1, m _ _ h2, fsOk_mono m h3⟩
/-- a new list that nobody holds becomes data -/
theorem Rel.show {K : PySem.W.Frag} {c : Ct} {O : OS} {σ : L2.St} {H : Hp} {ρ : En} (L : Rel K c O σ H ρ) {p : Addr} (h0 : c.H0 p = none) (hn : ¬ Own σ ρ p) : Rel K c (rm O p) σ H ρ where
  len := L.len
  low := fun a h => by
    have : a ≠ p := fun e => by subst e; exact L.o0 a h h0
    rw [rm_ne this]; exact L.low a h
  dom0 := L.dom0
  o0 := L.o0
  dom := fun a h => L.dom a (rm_le h)
  sl := fun i w s h1 h2 => slOk_mono hid_rm (fun a e o => ⟨rm_ne fun z => hn ⟨i, s, by rw [h1, e, z], h2, o⟩, rfl⟩) (L.sl i w s h1 h2)
  inj := L.inj
theorem Stp.show {σ σ' : L2.St} {ρ ρ' : En} {H H' : Hp} {O O' : OS} (s : Stp σ σ' ρ ρ' H H' O O') {p : Addr} (hp : H p = none) (d : ∀ a, O a = true → H a ≠ none) : Stp σ σ' ρ ρ' H H' O (rm O' p) where
  dom := s.dom
  fr := s.fr
  sub := fun a h => s.sub a (rm_le h)
  own := s.own
  keep := fun a h => by
    rcases s.keep a h with q | q
    · exact .inl q
    · have : a ≠ p := fun e => by subst e; exact d a h hp
      exact .inr (by rw [rm_ne this]; exact q)
  fix := s.fix
theorem h0_of {K : PySem.W.Frag} {c : Ct} {O : OS} {σ : L2.St} {H : Hp} {ρ : En} (L : Rel K c O σ H ρ) {p : Addr} (h : H p = none) : c.H0 p = none := none_back L.dom0 h
theorem RsOk.data {K : PySem.W.Frag} {c : Ct} {O O1 : OS} {σ : L2.St} {H H1 : Hp} {ρ ρ1 : En} {v : V} {r : Rs} {d : PyData} (L : Rel K c O σ H ρ) (s : Stp σ σ ρ ρ1 H H1 O O1) (L1 : Rel K c O1 σ H1 ρ1) (h : RsOk K c σ H ρ1 H1 O1 v r) (e : r.asD = some d) :
    ∃ O2, Stp σ σ ρ ρ1 H H1 O O2 ∧ Rel K c O2 σ H1 ρ1 ∧ Dp K (hid O2 H1) v d := by
  cases r with
  | dt x => cases e; exact ⟨O1, s, L1, h⟩
  | newd x => cases e
  | new xs =>
    cases e
    obtain ⟨p, vs, rfl, hp, ho, hn, hh, ha⟩ := h
    refine ⟨rm O1 p, s.show hp L.dom, L1.show (h0_of L hp) hn, .lst (.inl (.inl ?_)) (dpAll_mono hid_rm ha)⟩
    rw [hid_of rm_same]; exact hh

/-! ### readings -/
section
variable {X : Cx} {c : Ct} {e : Expr}
theorem pe_imp {t t' : TE} (h : PE X e t) (i : ∀ σ H Q, t' σ H Q → t σ H Q) : PE X e t' := ⟨fun pins s σ H Q I q => h.run pins s σ H Q I (i σ H Q q)⟩
theorem pt_imp {t t' : TT} (h : PT X e t) (i : ∀ σ H Q, t' σ H Q → t σ H Q) : PT X e t' := ⟨fun pins s σ H Q I q => h.run pins s σ H Q I (i σ H Q q)⟩
theorem pa_imp {es : List Expr} {t t' : TA} (h : PA X es t) (i : ∀ σ H Q, t' σ H Q → t σ H Q) : PA X es t' := ⟨fun pos pins s σ H Q I q => h.run pos pins s σ H Q I (i σ H Q q)⟩
theorem ps_imp {st : Stmt} {t t' : TS} (h : PS X st t) (i : ∀ D σ H, t' D σ H → t D σ H) : PS X st t' := ⟨fun pins s σ H D I q => h.run pins s σ H D I (i D σ H q)⟩
theorem pss_imp {st : List Stmt} {t t' : TS} (h : PSs X st t) (i : ∀ D σ H, t' D σ H → t D σ H) : PSs X st t' := ⟨fun pins s σ H D I q => h.run pins s σ H D I (i D σ H q)⟩
/-- as data -/
def eD (x : Mo Rs) : Mo PyData := bnd x fun r => lft r.asD
def dR (x : Mo PyData) : Mo Rs := bnd x fun d => ret (.dt d)
theorem post_eD {K : PySem.W.Frag} {O : OS} {σ : L2.St} {H : Hp} {ρ : En} {Q : VK} {x : Mo Rs} (L : Rel K c O σ H ρ) (h : PostG K c O σ H ρ (RD K σ) Q (eD x ρ)) : PostG K c O σ H ρ (RR K c σ) Q (x ρ) := by
  refine PostG.bind mn_D L h fun r ρ1 v H1 O1 _ s L1 q _ k => ?_
  cases e : r.asD with
  | none => rw [e] at k; exact k.elim
  | some d =>
    rw [e] at k
    obtain ⟨O2, s2, L2, hd⟩ := RsOk.data L s L1 q e
    exact k v H1 O2 s2 L2 hd
theorem pe_eD {x : Mo Rs} (h : PE X e (rd K0 c x)) : PE X e (rdD K0 c (eD x)) := pe_imp h fun σ H Q ⟨O, ρ, L, q⟩ => ⟨O, ρ, L, post_eD L q⟩
theorem pe_dR {x : Mo PyData} (h : PE X e (rdD K0 c x)) : PE X e (rd K0 c (dR x)) := pe_imp h fun σ H Q ⟨O, ρ, L, q⟩ => ⟨O, ρ, L, by
  refine PostG.bind mn_R L q fun d ρ1 v H1 O1 _ s L1 q1 _ k => ?_
  exact k v H1 O1 s L1 q1⟩
end
end Dl
end

section
set_option Elab.async false
set_option linter.all false
set_option maxRecDepth 100000
namespace Dl
open PySem PySem.Spec PyProof.Rows L2

/-! ### operands: data, or a place -/
inductive Vd where
  | dt (d : PyData) | pl (j : Nat)
def RV (K : PySem.W.Frag) : L2.St → Hp → En → Hp → OS → V → Vd → Prop := fun σ _ _ H O v a => match a with
  | .dt d => Dp K (hid O H) v d
  | .pl j => σ[j]? = some (some v)
inductive RVl (K : PySem.W.Frag) (σ : L2.St) (H : Hp) (O : OS) : List V → List Vd → Prop where
  | nil : RVl K σ H O [] []
  | cons {v : V} {vs : List V} {a : Vd} {as : List Vd} : RV K σ H [] H O v a → RVl K σ H O vs as → RVl K σ H O (v :: vs) (a :: as)
def RVs (K : PySem.W.Frag) : L2.St → Hp → En → Hp → OS → List V → List Vd → Prop := fun σ _ _ H O vs as => RVl K σ H O vs as
theorem mn_V {K : PySem.W.Frag} {σ : L2.St} : Mn (RV K σ) := fun _ _ _ _ _ _ _ a h => by cases a <;> exact h
theorem mn_Vs {K : PySem.W.Frag} {σ : L2.St} : Mn (RVs K σ) := fun _ _ _ _ _ _ _ _ h => h
abbrev rdV (K : PySem.W.Frag) (c : Ct) (x : Mo Vd) : TE := rdG K c (RV K) x
abbrev rdVs (K : PySem.W.Frag) (c : Ct) (x : Mo (List Vd)) : TA := rdG K c (RVs K) x
def oE (x : Mo Rs) : Mo Vd := bnd (eD x) fun d => ret (.dt d)
def isPl : Sl → Bool
  | .dat _ | .own _ | .bor _ | .dct _ => true
  | _ => false
def oN (j : Nat) : Mo Vd := fun ρ => match ρ[j]? with
  | some s => if isPl s = true then some (.val (.pl j), ρ) else none
  | none => none
def vNil : Mo (List Vd) := ret []
def vCons (y : Mo Vd) (ys : Mo (List Vd)) : Mo (List Vd) := bnd y fun a => bnd ys fun as => ret (a :: as)
section
variable {X : Cx} {c : Ct} {e : Expr} {es : List Expr}
theorem op_e {x : Mo Rs} (h : PE X e (rd K0 c x)) : PE X e (rdV K0 c (oE x)) := pe_imp (pe_eD h) fun σ H Q ⟨O, ρ, L, q⟩ => ⟨O, ρ, L, by
  refine PostG.bind mn_V L q fun d ρ1 v H1 O1 _ s L1 q1 _ k => ?_
  exact k v H1 O1 s L1 q1⟩
theorem sl_some {K : PySem.W.Frag} {O : OS} {H : Hp} {w : Option V} {s : Sl} (h : SlOk K c O H w s) (hs : isPl s = true) : ∃ v, w = some v := by
  cases s with
  | no => cases hs
  | hd => cases hs
  | dat d => obtain ⟨v, e, _⟩ := h; exact ⟨v, e⟩
  | own d => obtain ⟨v, _, e, _⟩ := h; exact ⟨_, e⟩
  | bor d => obtain ⟨v, _, e, _⟩ := h; exact ⟨_, e⟩
  | dct d => obtain ⟨v, _, e, _⟩ := h; exact ⟨_, e⟩
  | exc _ _ => cases hs
theorem slot_of {K : PySem.W.Frag} {O : OS} {σ : L2.St} {H : Hp} {ρ : En} (L : Rel K c O σ H ρ) {j : Nat} {s : Sl} (h : ρ[j]? = some s) : ∃ w, σ[j]? = some w ∧ SlOk K c O H w s := by
  have hl : j < ρ.length := by
    rcases Nat.lt_or_ge j ρ.length with q | q
    · exact q
    · rw [List.getElem?_eq_none q] at h; cases h
  have hs : j < σ.length := by rw [L.len]; exact hl
  exact ⟨σ[j], List.getElem?_eq_getElem hs, L.sl j _ s (List.getElem?_eq_getElem hs) h⟩
theorem op_n (j : Nat) (h : PE X e (tVar j)) : PE X e (rdV K0 c (oN j)) := pe_imp h fun σ H Q ⟨O, ρ, L, q⟩ => by
  unfold oN at q
  split at q
  · rename_i s hs
    split at q
    · rename_i hp
      obtain ⟨w, hw, ok⟩ := slot_of L hs
      obtain ⟨v, rfl⟩ := sl_some ok hp
      exact ⟨v, hw, q.at L hw⟩
    · exact q.elim
  · exact q.elim
theorem rvl_later {K : PySem.W.Frag} {σ : L2.St} {H H1 : Hp} {O O1 : OS} (m : Same (hid O H) (hid O1 H1)) : ∀ {vs : List V} {as : List Vd}, RVl K σ H O vs as → RVl K σ H1 O1 vs as
  | _, _, .nil => .nil
  | _, _, .cons (a := a) h r => .cons (by
      cases a with
      | dt d => exact dp_mono m h
      | pl j => exact h) (rvl_later m r)
theorem rv_later {K : PySem.W.Frag} {σ : L2.St} {H0 H H1 H2 : Hp} {O O1 : OS} {ρ ρ2 : En} (m : Same (hid O H) (hid O1 H1)) {v : V} {a : Vd} (h : RV K σ H0 ρ H O v a) : RV K σ H2 ρ2 H1 O1 v a := by
  cases a with
  | dt d => exact dp_mono m h
  | pl j => exact h
theorem as_nil : PA X [] (rdVs K0 c vNil) := pa_imp pa_nil fun σ H Q ⟨O, ρ, L, q⟩ => q.at L .nil
theorem post_cons {K : PySem.W.Frag} {O : OS} {σ : L2.St} {H : Hp} {ρ : En} {Q : List V → Hp → Prop} {y : Mo Vd} {ys : Mo (List Vd)} (L : Rel K c O σ H ρ) (q : PostG K c O σ H ρ (RVs K σ) Q (vCons y ys ρ)) :
    PostG K c O σ H ρ (RV K σ) (fun x H1 => rdVs K c ys σ H1 fun xs H2 => Q (x :: xs) H2) (y ρ) := by
  refine PostG.bind mn_Vs L q fun a ρ1 v H1 O1 _ s L1 q1 k _ => ⟨O1, ρ1, L1, ?_⟩
  refine PostG.bind mn_Vs L1 k fun as ρ2 vs H2 O2 _ s2 L2 q2 k2 _ => ?_
  exact k2.at L2 (.cons (rv_later (s2.same L1) q1) q2)
theorem as_cons {y : Mo Vd} {ys : Mo (List Vd)} (h : PE X e (rdV K0 c y)) (hs : PA X es (rdVs K0 c ys)) (hst : starEach (e :: es) X.env = (false, eval e X.env) :: starEach es X.env := by rfl) : PA X (e :: es) (rdVs K0 c (vCons y ys)) :=
  pa_imp (pa_cons h hs hst) fun σ H Q ⟨O, ρ, L, q⟩ => ⟨O, ρ, L, post_cons L q⟩
end

/-! ### what an operand is worth -/
def slD : Sl → Option PyData
  | .dat d => some d
  | .own xs => some (.list xs)
  | .bor xs => some (.list xs)
  | _ => none
def rsl (ρ : En) : Vd → Option PyData
  | .dt d => some d
  | .pl j => match ρ[j]? with
    | some s => slD s
    | none => none
def rsls (ρ : En) : List Vd → Option (List PyData)
  | [] => some []
  | a :: as => match rsl ρ a with
    | none => none
    | some d => match rsls ρ as with
      | none => none
      | some ds => some (d :: ds)
def Vw (K : PySem.W.Frag) (O : OS) (H : Hp) (v : V) (d : PyData) : Prop := Dp K (hid O H) v d ∨ ∃ p vs xs, v = .ref p ∧ d = .list xs ∧ H p = some (.lst vs) ∧ DpAll K (hid O H) vs xs
inductive Vws (K : PySem.W.Frag) (O : OS) (H : Hp) : List V → List PyData → Prop where
  | nil : Vws K O H [] []
  | cons {v : V} {vs : List V} {d : PyData} {ds : List PyData} : Vw K O H v d → Vws K O H vs ds → Vws K O H (v :: vs) (d :: ds)
section
variable {K : PySem.W.Frag} {c : Ct} {O : OS} {σ : L2.St} {H : Hp} {ρ : En}
theorem rsl_ok (L : Rel K c O σ H ρ) {a : Vd} {v : V} {d : PyData} {H0 : Hp} {ρ0 : En} (h : RV K σ H0 ρ0 H O v a) (e : rsl ρ a = some d) : Vw K O H v d := by
  cases a with
  | dt x => cases e; exact .inl h
  | pl j =>
    simp only [rsl] at e
    cases hx : ρ[j]? with
    | none => rw [hx] at e; cases e
    | some sl =>
      rw [hx] at e
      obtain ⟨w, hw, ok⟩ := slot_of L hx
      have z : σ[j]? = some (some v) := h
      rw [hw] at z
      cases sl with
      | dat x =>
        cases e
        obtain ⟨u, e1, q⟩ := ok
        rw [e1] at z; cases z
        exact .inl q
      | own x =>
        cases e
        obtain ⟨a, vs, e1, _, _, q1, q2⟩ := ok
        rw [e1] at z; cases z
        exact .inr ⟨a, vs, _, rfl, rfl, q1, q2⟩
      | bor x =>
        cases e
        obtain ⟨a, vs, e1, _, q1, q2⟩ := ok
        rw [e1] at z; cases z
        exact .inr ⟨a, vs, _, rfl, rfl, q1, q2⟩
      | _ => cases e
theorem rsls_ok (L : Rel K c O σ H ρ) : ∀ {as : List Vd} {vs : List V} {ds : List PyData}, RVl K σ H O vs as → rsls ρ as = some ds → Vws K O H vs ds
  | [], _, _, .nil, e => by cases e; exact .nil
  | a :: as, _, _, .cons h r, e => by
    unfold rsls at e
    cases e1 : rsl ρ a with
    | none => rw [e1] at e; cases e
    | some d =>
      rw [e1] at e
      cases e2 : rsls ρ as with
      | none => simp only [e2] at e; cases e
      | some ds =>
        simp only [e2] at e; cases e
        exact .cons (rsl_ok L h e1) (rsls_ok L r e2)
theorem vw_list {v : V} {xs : List PyData} (h : Vw K O H v (.list xs)) : ∃ a vs, v = .ref a ∧ SqL K H a vs ∧ DpAll K (hid O H) vs xs := by
  rcases h with h | ⟨p, vs, ys, rfl, e, h1, h2⟩
  · cases h with
    | lst s a => exact ⟨_, _, rfl, sqL_mono (fun _ _ q => (hid_le q).2) s, a⟩
  · cases e; exact ⟨p, vs, rfl, .inl (.inl h1), h2⟩
theorem vw_tuple {v : V} {xs : List PyData} (h : Vw K O H v (.tuple xs)) : ∃ a vs, v = .ref a ∧ SqT K H a vs ∧ DpAll K (hid O H) vs xs := by
  rcases h with h | ⟨p, vs, ys, rfl, e, h1, h2⟩
  · cases h with
    | tup s a => exact ⟨_, _, rfl, sqT_mono (fun _ _ q => (hid_le q).2) s, a⟩
  · cases e
theorem vw_int {v : V} {i : Int} (h : Vw K O H v (.int i)) : v = .int i := by
  rcases h with h | ⟨p, vs, ys, rfl, e, h1, h2⟩
  · exact dp_int h
  · cases e
theorem vw_str {v : V} {i : Str} (h : Vw K O H v (.str i)) : v = .str i := by
  rcases h with h | ⟨p, vs, ys, rfl, e, h1, h2⟩
  · exact dp_str h
  · cases e
theorem vw_bool {v : V} {i : Bool} (h : Vw K O H v (.bool i)) : v = .bl i := by
  rcases h with h | ⟨p, vs, ys, rfl, e, h1, h2⟩
  · exact dp_bool h
  · cases e
theorem vw_none {v : V} (h : Vw K O H v .none) : v = .non := by
  rcases h with h | ⟨p, vs, ys, rfl, e, h1, h2⟩
  · exact dp_none h
  · cases e
theorem hid_same : Same (hid O H) H := fun _ _ q => (hid_le q).2
theorem vw_dp {v : V} {d : PyData} (h : Vw K O H v d) : Dp K H v d := by
  rcases h with h | ⟨p, vs, ys, rfl, rfl, h1, h2⟩
  · exact dp_mono hid_same h
  · exact .lst (.inl (.inl h1)) (dpAll_mono hid_same h2)
theorem vws_one {vs : List V} {d : PyData} (h : Vws K O H vs [d]) : ∃ v, vs = [v] ∧ Vw K O H v d := by
  cases h with
  | cons a r => cases r; exact ⟨_, rfl, a⟩
theorem vws_two {vs : List V} {d e : PyData} (h : Vws K O H vs [d, e]) : ∃ v w, vs = [v, w] ∧ Vw K O H v d ∧ Vw K O H w e := by
  cases h with
  | cons a r => cases r with
    | cons b r => cases r; exact ⟨_, _, rfl, a, b⟩
end

/-! ### what only makes new objects -/
structure Alc (H H' : Hp) (O O' : OS) : Prop where
  same : Same H H'
  sub : ∀ a, O' a = true → O a = true ∨ (H a = none ∧ H' a ≠ none)
  up : ∀ a, O a = true → O' a = true
theorem Alc.refl {H : Hp} {O : OS} : Alc H H O O := ⟨fun _ _ h => h, fun _ h => .inl h, fun _ h => h⟩
theorem same_upd {H : Hp} {p : Addr} {o : HO} (h : H p = none) : Same H (upd H p o) := fun b x e => by
  rw [upd_ne (ne_of_none e h)]; exact e
theorem Alc.data {H : Hp} {O : OS} {p : Addr} {o : HO} (h : H p = none) : Alc H (upd H p o) O O := ⟨same_upd h, fun _ h => .inl h, fun _ h => h⟩
theorem Alc.new {H : Hp} {O : OS} {p : Addr} {o : HO} (h : H p = none) : Alc H (upd H p o) O (ins O p) := ⟨same_upd h, fun a q => by
  by_cases e : a = p
  · subst e; exact .inr ⟨h, by rw [upd_same]; exact fun z => nomatch z⟩
  · rw [ins_ne e] at q; exact .inl q, fun a q => by
  by_cases e : a = p
  · subst e; exact ins_same
  · rw [ins_ne e]; exact q⟩
theorem Alc.hid {H H' : Hp} {O O' : OS} (a : Alc H H' O O') : Same (hid O H) (hid O' H') := fun x o h => by
  obtain ⟨h1, h2⟩ := hid_le h
  have z : O' x = false := by
    cases e : O' x with
    | false => rfl
    | true =>
      rcases a.sub x e with q | q
      · rw [h1] at q; cases q
      · rw [h2] at q; cases q.1
  rw [hid_of z]; exact a.same x o h2
section
variable {K : PySem.W.Frag} {c : Ct} {O O' : OS} {σ : L2.St} {H H' : Hp} {ρ : En}
theorem Alc.stp (a : Alc H H' O O') : Stp σ σ ρ ρ H H' O O' where
  dom := fun x h => by
    cases e : H x with
    | none => exact absurd e h
    | some o => rw [a.same x o e]; exact fun z => nomatch z
  fr := fun x o h _ => a.same x o h
  sub := fun x h => (a.sub x h).elim .inl fun q => .inr q.1
  own := fun _ h => .inl h
  keep := fun x h => .inr (a.up x h)
  fix := fun _ s h f => ⟨s, h, f, rfl, Iff.rfl⟩
theorem Alc.rel (a : Alc H H' O O') (L : Rel K c O σ H ρ) : Rel K c O' σ H' ρ where
  len := L.len
  low := fun x h => a.up x (L.low x h)
  dom0 := fun x h => (Alc.stp (σ := σ) (ρ := ρ) a).dom x (L.dom0 x h)
  o0 := L.o0
  dom := fun x h => (a.sub x h).elim (fun q => (Alc.stp (σ := σ) (ρ := ρ) a).dom x (L.dom x q)) fun q => q.2
  sl := fun i w s h1 h2 => slOk_mono a.hid (fun x e o => by
    have z := own_dom L (a := x) ⟨i, s, by rw [h1, e], h2, o⟩
    refine ⟨by rw [z.1, a.up x z.1], ?_⟩
    cases e : H x with
    | none => exact absurd e z.2
    | some u => exact a.same x u e) (L.sl i w s h1 h2)
  inj := L.inj
end
def RsN (K : PySem.W.Frag) (H H' : Hp) (O' : OS) (v : V) : Rs → Prop
  | .dt d => Dp K (hid O' H') v d
  | .new xs => ∃ p vs, v = .ref p ∧ H p = none ∧ O' p = true ∧ H' p = some (.lst vs) ∧ DpAll K (hid O' H') vs xs
  | .newd kvs => ∃ p ws, v = .ref p ∧ H p = none ∧ O' p = true ∧ H' p = some (.dK ws) ∧ DKs K (hid O' H') ws kvs
theorem RsN.ok {K : PySem.W.Frag} {c : Ct} {O : OS} {σ : L2.St} {H H' : Hp} {ρ : En} {O' : OS} {v : V} {r : Rs} (L : Rel K c O σ H ρ) (h : RsN K H H' O' v r) : RsOk K c σ H ρ H' O' v r := by
  cases r with
  | dt d => exact h
  | new xs => obtain ⟨p, vs, e, n, o, q⟩ := h; exact ⟨p, vs, e, n, o, fun z => (own_dom L z).2 n, q⟩
  | newd xs => obtain ⟨p, vs, e, n, o, q⟩ := h; exact ⟨p, vs, e, n, o, fun z => (own_dom L z).2 n, q⟩

/-- a built-in's rule r does on data what g says -/
def BOk (K : PySem.W.Frag) (r : List V → Hp → VK → Prop) (g : List PyData → Option Rs) : Prop :=
  ∀ (O : OS) (H : Hp) (vs : List V) (ds : List PyData) (rs : Rs) (Q : VK), (∀ a, O a = true → H a ≠ none) → Vws K O H vs ds → g ds = some rs → (∀ v H' O', Alc H H' O O' → RsN K H H' O' v rs → Q v H') → r vs H Q
def xB (g : List PyData → Option Rs) (ys : Mo (List Vd)) : Mo Rs := bnd ys fun as ρ => match rsls ρ as with
  | none => none
  | some ds => match g ds with
    | none => none
    | some r => some (.val r, ρ)
theorem post_B {K : PySem.W.Frag} {c : Ct} {O : OS} {σ : L2.St} {H : Hp} {ρ : En} {Q : VK} {g : List PyData → Option Rs} {ys : Mo (List Vd)} {r : List V → Hp → VK → Prop} (b : BOk K r g) (L : Rel K c O σ H ρ)
    (q : PostG K c O σ H ρ (RR K c σ) Q (xB g ys ρ)) : PostG K c O σ H ρ (RVs K σ) (fun vs H1 => r vs H1 Q) (ys ρ) := by
  refine PostG.bind mn_R L q fun as ρ1 vs H1 O1 _ s L1 q1 k _ => ?_
  cases e : rsls ρ1 as with
  | none => simp only [e] at k; exact k.elim
  | some ds =>
    cases e2 : g ds with
    | none => simp only [e, e2] at k; exact k.elim
    | some rs =>
      simp only [e, e2] at k
      exact b O1 H1 vs ds rs Q L1.dom (rsls_ok L1 q1 e) e2 fun v H2 O2 a h => k v H2 O2 a.stp (a.rel L1) (h.ok L1)
def l2 (r : R2) : List V → Hp → VK → Prop := fun vs H Q => ∃ x y, vs = [x, y] ∧ r x y H Q
def l1 (r : V → Hp → VK → Prop) : List V → Hp → VK → Prop := fun vs H Q => ∃ x, vs = [x] ∧ r x H Q
section
variable {X : Cx} {c : Ct} {e a b : Expr} {es : List Expr} {x : Str} {p pos : Pos} {id T : String} {r : List V → Hp → VK → Prop} {g : List PyData → Option Rs} {ys : Mo (List Vd)} {ya yb : Mo Vd}
theorem de_B (hc : CallR X (.builtin id) r) (hb : BOk K0 r g) (hm : X.mg x = none) (hv : bootBuiltins x = some (.builtin id)) (ha : PA X (e :: es) (rdVs K0 c ys)) (hg : Gl X x := by rfl) (hn : x ≠ "__name__" := by decide) (hdb : (x == ("__debug__" : Str)) = false := by decide)
    (he : starEach (e :: es) X.env = (false, eval e X.env) :: starEach es X.env := by rfl) (hpl : (backTo pos (starEach es X.env)).any (·.1) = false := by rfl) : PE X (.Call (.Name x p) (e :: es) [] pos) (rd K0 c (xB g ys)) :=
  pe_imp (pe_callB hc hg hm hv ha hn hdb he hpl) fun σ H Q ⟨O, ρ, L, q⟩ => ⟨O, ρ, L, post_B hb L q⟩
theorem de_T (hc : CallR X (.type T) r) (hb : BOk K0 r g) (hm : X.mg x = none) (hv : bootBuiltins x = some (.type T)) (ha : PA X (e :: es) (rdVs K0 c ys)) (hg : Gl X x := by rfl) (hn : x ≠ "__name__" := by decide) (hdb : (x == ("__debug__" : Str)) = false := by decide)
    (he : starEach (e :: es) X.env = (false, eval e X.env) :: starEach es X.env := by rfl) (hpl : (backTo pos (starEach es X.env)).any (·.1) = false := by rfl) : PE X (.Call (.Name x p) (e :: es) [] pos) (rd K0 c (xB g ys)) :=
  pe_imp (pe_callTy hc hg hm hv ha hn hdb he hpl) fun σ H Q ⟨O, ρ, L, q⟩ => ⟨O, ρ, L, post_B hb L q⟩
theorem tail1 {K : PySem.W.Frag} {σ : L2.St} {H : Hp} {Q : List V → Hp → Prop} (h : rdVs K c vNil σ H Q) : Q [] H := by
  obtain ⟨O, ρ, L, q⟩ := h
  exact q.at L .nil
theorem two {K : PySem.W.Frag} {r : R2} {σ : L2.St} {H : Hp} {Q : VK} {g : List PyData → Option Rs} {ya yb : Mo Vd} (hb : BOk K (l2 r) g) (h : rd K c (xB g (vCons ya (vCons yb vNil))) σ H Q) : tOp r (rdV K c ya) (rdV K c yb) σ H Q := by
  obtain ⟨O, ρ, L, q⟩ := h
  refine ⟨O, ρ, L, ?_⟩
  have h1 := post_cons L (post_B hb L q)
  match e : ya ρ with
  | none => rw [e] at h1; exact h1
  | some (.ex n fs, ρ1) => rw [e] at h1; exact h1
  | some (.val d, ρ1) =>
    rw [e] at h1
    intro v H1 O1 s L1 q1
    obtain ⟨O', ρ', L', q'⟩ := h1 v H1 O1 s L1 q1
    refine ⟨O', ρ', L', ?_⟩
    have h2 := post_cons L' q'
    match e2 : yb ρ' with
    | none => rw [e2] at h2; exact h2
    | some (.ex n fs, ρ2) => rw [e2] at h2; exact h2
    | some (.val d2, ρ2) =>
      rw [e2] at h2
      intro w H2 O2 s2 L2 q2
      obtain ⟨x, y, ee, z⟩ := tail1 (h2 w H2 O2 s2 L2 q2)
      cases ee
      exact z
theorem de_op {op : Operator} {r : R2} (ho : OpR X (binaryOp op) r) (hb : BOk K0 (l2 r) g) (ha : PE X a (rdV K0 c ya)) (hb2 : PE X b (rdV K0 c yb)) : PE X (.BinOp a op b pos) (rd K0 c (xB g (vCons ya (vCons yb vNil)))) :=
  pe_imp (pe_op ho ha hb2) fun σ H Q h => two hb h
theorem de_cmp {op : CmpOp} {r : R2} (ho : OpR X (compareOp op) r) (hb : BOk K0 (l2 r) g) (ha : PE X a (rdV K0 c ya)) (hb2 : PE X b (rdV K0 c yb)) (hm : behindInMarks op b = false := by first | exact nomark _ | rfl) : PE X (.Compare a [op] [b] pos) (rd K0 c (xB g (vCons ya (vCons yb vNil)))) :=
  pe_imp (pe_cmpR ho ha hb2 hm) fun σ H Q h => two hb h
theorem de_ix {r : R2} (ho : IxR X r) (hb : BOk K0 (l2 r) g) (ha : PE X a (rdV K0 c ya)) (hb2 : PE X b (rdV K0 c yb)) (hs : PlainIx b := by intro _ _; rfl) : PE X (.Subscript a b pos) (rd K0 c (xB g (vCons ya (vCons yb vNil)))) :=
  pe_imp (pe_ix ho ha hb2 hs) fun σ H Q h => two hb h
theorem one {K : PySem.W.Frag} {r : V → Hp → VK → Prop} {σ : L2.St} {H : Hp} {Q : VK} {g : List PyData → Option Rs} {ya : Mo Vd} (hb : BOk K (l1 r) g) (h : rd K c (xB g (vCons ya vNil)) σ H Q) : rdV K c ya σ H (fun x H1 => r x H1 Q) := by
  obtain ⟨O, ρ, L, q⟩ := h
  refine ⟨O, ρ, L, ?_⟩
  have h1 := post_cons L (post_B hb L q)
  match e : ya ρ with
  | none => rw [e] at h1; exact h1
  | some (.ex n fs, ρ1) => rw [e] at h1; exact h1
  | some (.val d, ρ1) =>
    rw [e] at h1
    intro v H1 O1 s L1 q1
    obtain ⟨x, ee, z⟩ := tail1 (h1 v H1 O1 s L1 q1)
    cases ee
    exact z
theorem de_un {op : UnaryOp} {r : V → Hp → VK → Prop} (ho : UnR X (unaryOp op) r) (hb : BOk K0 (l1 r) g) (ha : PE X a (rdV K0 c ya)) : PE X (.UnaryOp op a pos) (rd K0 c (xB g (vCons ya vNil))) :=
  pe_imp (pe_un ho ha) fun σ H Q h => one hb h
end

/-! ### constants, names -/
def xC (d : PyData) : Mo Rs := ret (.dt d)
def xVar (j : Nat) : Mo Rs := fun ρ => match ρ[j]? with
  | some (.dat d) => some (.val (.dt d), ρ)
  | some (.own xs) => some (.val (.dt (.list xs)), ρ.set j (.dat (.list xs)))
  | _ => none
section
variable {X : Cx} {c : Ct} {e : Expr}
theorem de_c {K : PySem.W.Frag} {v : V} {d : PyData} (h : PE X e (tC v)) (hd : ∀ H, Dp K0 H v d) : PE X e (rd K0 c (xC d)) := pe_imp h fun σ H Q ⟨O, ρ, L, q⟩ => q.at L (hd _)
theorem de_int {i : Int} {j : Nat} {pos : Pos} : PE X (.Constant (.int i) j pos) (rd K0 c (xC (.int i))) := de_c (K := K0) pe_int fun _ => .int i
theorem de_bl {i : Bool} {j : Nat} {pos : Pos} : PE X (.Constant (.bool i) j pos) (rd K0 c (xC (.bool i))) := de_c (K := K0) pe_bl fun _ => .bl i
theorem de_str {i : Str} {j : Nat} {pos : Pos} : PE X (.Constant (.str i) j pos) (rd K0 c (xC (.str i))) := de_c (K := K0) pe_str fun _ => .str i
theorem de_non {j : Nat} {pos : Pos} : PE X (.Constant .none j pos) (rd K0 c (xC .none)) := de_c (K := K0) pe_non fun _ => .non
/-- another slot is set to what is not owned; the hidden set may lose its address -/
theorem own_set {σ : L2.St} {ρ : En} {j : Nat} {s : Sl} (h : s.isOwn = false) {a : Addr} (o : Own σ (ρ.set j s) a) : Own σ ρ a ∧ ∃ i t, i ≠ j ∧ σ[i]? = some (some (V.ref a)) ∧ ρ[i]? = some t ∧ t.isOwn = true := by
  obtain ⟨i, t, h1, h2, h3⟩ := o
  rw [List.getElem?_set] at h2
  split at h2
  · split at h2
    · cases h2; rw [h] at h3; cases h3
    · cases h2
  · rename_i n
    exact ⟨⟨i, t, h1, h2, h3⟩, i, t, fun z => n z.symm, h1, h2, h3⟩
theorem freeze {K : PySem.W.Frag} {O : OS} {σ : L2.St} {H : Hp} {ρ : En} {j : Nat} {xs : List PyData} {p : Addr} {vs : List V} (L : Rel K c O σ H ρ) (hj : ρ[j]? = some (.own xs)) (hw : σ[j]? = some (some (.ref p))) (h0 : c.H0 p = none)
    (hH : H p = some (.lst vs)) (hd : DpAll K (hid O H) vs xs) : Stp σ σ ρ (ρ.set j (.dat (.list xs))) H H O (rm O p) ∧ Rel K c (rm O p) σ H (ρ.set j (.dat (.list xs))) := by
  have hdp : Dp K (hid (rm O p) H) (.ref p) (.list xs) := .lst (.inl (.inl (by rw [hid_of rm_same]; exact hH))) (dpAll_mono hid_rm hd)
  have uniq : ∀ (i : Nat) (t : Sl), i ≠ j → σ[i]? = some (some (.ref p)) → ρ[i]? = some t → t.isOwn = true → False := fun i t n h1 h2 h3 => n (L.inj i j p t _ h1 hw h2 hj h3 rfl)
  refine ⟨⟨fun _ h => h, fun _ _ h _ => h, fun a h => .inl (rm_le h), fun a h => .inl (own_set rfl h).1, fun a h => ?_, fun i s h f => ?_⟩, ⟨?_, fun a h => ?_, L.dom0, L.o0, fun a h => L.dom a (rm_le h), fun i w s h1 h2 => ?_, fun i k a s t h1 h2 h3 h4 h5 h6 => ?_⟩⟩
  · by_cases e : a = p
    · subst e; exact .inl ⟨j, _, hw, hj, rfl⟩
    · exact .inr (by rw [rm_ne e]; exact h)
  · rw [List.getElem?_set] at h
    split at h
    · split at h
      · cases h; cases f
      · cases h
    · exact ⟨s, h, f, rfl, Iff.rfl⟩
  · rw [List.length_set]; exact L.len
  · have : a ≠ p := fun e => by subst e; exact L.o0 a h h0
    rw [rm_ne this]; exact L.low a h
  · rw [List.getElem?_set] at h2
    split at h2
    · rename_i ej
      split at h2
      · cases h2
        subst ej
        rw [hw] at h1; cases h1
        exact ⟨_, rfl, hdp⟩
      · cases h2
    · rename_i n
      refine slOk_mono hid_rm (fun a e o => ⟨rm_ne fun z => ?_, rfl⟩) (L.sl i w s h1 h2)
      subst z
      exact uniq i s (fun z => n z.symm) (by rw [h1, e]) h2 o
  · have q1 := own_set (σ := σ) (ρ := ρ) (j := j) (s := .dat (.list xs)) rfl ⟨i, s, h1, h3, h5⟩
    have hi : i ≠ j := fun z => by
      subst z
      rw [List.getElem?_set_self (by rcases Nat.lt_or_ge i ρ.length with q | q; exact q; rw [List.getElem?_eq_none q] at hj; cases hj)] at h3
      cases h3; cases h5
    have hk : k ≠ j := fun z => by
      subst z
      rw [List.getElem?_set_self (by rcases Nat.lt_or_ge k ρ.length with q | q; exact q; rw [List.getElem?_eq_none q] at hj; cases hj)] at h4
      cases h4; cases h6
    rw [List.getElem?_set_ne hi.symm] at h3
    rw [List.getElem?_set_ne hk.symm] at h4
    exact L.inj i k a s t h1 h2 h3 h4 h5 h6
theorem de_var (j : Nat) (h : PE X e (tVar j)) : PE X e (rd K0 c (xVar j)) := pe_imp h fun σ H Q ⟨O, ρ, L, q⟩ => by
  unfold xVar at q
  split at q
  · rename_i d hs
    obtain ⟨w, hw, v, rfl, hd⟩ := slot_of L hs
    exact ⟨v, hw, q.at L hd⟩
  · rename_i xs hs
    obtain ⟨w, hw, p, vs, rfl, h0, ho, hH, hd⟩ := slot_of L hs
    obtain ⟨s, L1⟩ := freeze L hs hw h0 hH hd
    refine ⟨_, hw, q (.ref p) H _ s L1 ?_⟩
    exact .lst (.inl (.inl (by rw [hid_of rm_same]; exact hH))) (dpAll_mono hid_rm hd)
  · exact q.elim
end
end Dl
end

section
set_option Elab.async false
set_option linter.all false
set_option maxRecDepth 100000
namespace Dl
open PySem PySem.Spec PyProof.Rows L2

/-! ### sequences without a written part -/
theorem sqL0 {H : Hp} {a : Addr} {xs : List V} (h : SqL K0 H a xs) : Rd H a (.lst xs) := by
  rcases h with h | ⟨o, its, n, hk, _⟩
  · exact h
  · cases hk
theorem sqT0 {H : Hp} {a : Addr} {xs : List V} (h : SqT K0 H a xs) : Rd H a (.tup xs) := by
  rcases h with h | ⟨o, its, n, hk, _⟩
  · exact h
  · cases hk
theorem sqL1 {K : PySem.W.Frag} {H : Hp} {a : Addr} {xs : List V} (h : SqL K0 H a xs) : SqL K H a xs := .inl (sqL0 h)
theorem sqT1 {K : PySem.W.Frag} {H : Hp} {a : Addr} {xs : List V} (h : SqT K0 H a xs) : SqT K H a xs := .inl (sqT0 h)
mutual
theorem dp1 {K : PySem.W.Frag} {H : Hp} : ∀ {v : V} {d : PyData}, Dp K0 H v d → Dp K H v d
  | _, _, .non => .non
  | _, _, .bl b => .bl b
  | _, _, .int i => .int i
  | _, _, .str x => .str x
  | _, _, .lst s a => .lst (sqL1 s) (dpAll1 a)
  | _, _, .tup s a => .tup (sqT1 s) (dpAll1 a)
theorem dpAll1 {K : PySem.W.Frag} {H : Hp} : ∀ {vs : List V} {ds : List PyData}, DpAll K0 H vs ds → DpAll K H vs ds
  | _, _, .nil => .nil
  | _, _, .cons a b => .cons (dp1 a) (dpAll1 b)
end
theorem OpR.or {X : Cx} {f : Value → Value → Sem Value} {r r' : R2} (h : OpR X f r) (h' : OpR X f r') : OpR X f (fun x y H Q => r x y H Q ∨ r' x y H Q) := by
  intro pins s σ H x y v u Q I rx ry q
  rcases q with q | q
  · exact h pins s σ H x y v u Q I rx ry q
  · exact h' pins s σ H x y v u Q I rx ry q
/-- two lists, tracked or locked -/
def rCatR : R2 := fun x y H Q => ∃ l b xs zs, x = .ref l ∧ y = .ref b ∧ Rd H l (.lst xs) ∧ Rd H b (.lst zs) ∧ xs.length + zs.length ≤ sizeLine ∧ ∀ p, H p = none → Q (.ref p) (upd H p (.lst (xs ++ zs)))
theorem op_catR {X : Cx} : OpR X (binaryOp .Add) rCatR := by
  intro pins s σ H x y v u Q I rx ry h
  obtain ⟨l, b, xs, zs, rfl, rfl, hH, hB, hz, q⟩ := h
  cases rx; cases ry
  obtain ⟨z1, its1, n1, r1, e1⟩ := hH.ok I.hok
  obtain ⟨z2, its2, n2, r2, e2⟩ := hB.ok I.hok
  have l1 := r1.length
  have l2 := r2.length
  refine PySem.P.add_list e1 e2 ?_ (by simp only [List.size_toArray]; omega)
  rw [show its1.toArray ++ its2.toArray = (its1 ++ its2).toArray by simp]
  exact ⟨.ref _, _, I.lnew (t' := s.toks) (r1.append r2) (by simp only [List.length_append]; omega), rfl, q _ I.fresh⟩

section
variable {K : PySem.W.Frag}
/-! ### + -/
def gAdd : List PyData → Option Rs
  | [.int a, .int b] => some (.dt (.int (a + b)))
  | [.str a, .str b] => if a.length + b.length ≤ sizeLine then some (.dt (.str (a ++ b))) else none
  | [.list a, .list b] => if a.length + b.length ≤ sizeLine then some (.new (a ++ b)) else none
  | [.tuple a, .tuple b] => if a.length + b.length ≤ sizeLine then some (.dt (.tuple (a ++ b))) else none
  | _ => none
def rAddA (K : PySem.W.Frag) : R2 := fun x y H Q => (∃ i j, x = .int i ∧ y = .int j ∧ Q (.int (i + j)) H) ∨ (∃ i j, x = .str i ∧ y = .str j ∧ i.length + j.length ≤ sizeLine ∧ Q (.str (i ++ j)) H) ∨ rCatR x y H Q ∨ rCatA K x y H Q
theorem op_addA {X : Cx} : OpR X (binaryOp .Add) (rAddA X.K) := OpR.or op_add (OpR.or op_add_str (OpR.or op_catR op_catA))
theorem tup_new {O : OS} {H : Hp} {p : Addr} {vs : List V} {ds : List PyData} (hO : ∀ a, O a = true → H a ≠ none) (hp : H p = none) (h : DpAll K0 (hid O H) vs ds) : RsN K0 H (upd H p (.tup vs)) O (.ref p) (.dt (.tuple ds)) := by
  have hn : O p = false := by
    cases e : O p with
    | false => rfl
    | true => exact absurd hp (hO p e)
  exact .tup (.inl (.inl (by rw [hid_of hn]; exact upd_same))) (dpAll_mono (Alc.data hp).hid h)
theorem lst_new {O : OS} {H : Hp} {p : Addr} {vs : List V} {ds : List PyData} (hp : H p = none) (h : DpAll K0 (hid O H) vs ds) : RsN K0 H (upd H p (.lst vs)) (ins O p) (.ref p) (.new ds) :=
  ⟨p, vs, rfl, hp, ins_same, upd_same, dpAll_mono (Alc.new hp).hid h⟩
theorem ite_some {α : Type} {c : Prop} [Decidable c] {a b : α} (h : (if c then some a else none) = some b) : c ∧ a = b := by
  by_cases e : c
  · rw [if_pos e] at h; exact ⟨e, Option.some.inj h⟩
  · rw [if_neg e] at h; cases h
theorem vw_tupD {O : OS} {H : Hp} {v : V} {xs : List PyData} (h : Vw K0 O H v (.tuple xs)) : Dp K0 (hid O H) v (.tuple xs) := by
  rcases h with h | ⟨p, vs, ys, rfl, e, h1, h2⟩
  · exact h
  · cases e
theorem bok_add : BOk K0 (l2 (rAddA K)) gAdd := fun O H vs ds rs Q hO hv hg k => by
  unfold gAdd at hg
  split at hg
  · cases hg
    obtain ⟨v, w, rfl, h1, h2⟩ := vws_two hv
    exact ⟨v, w, rfl, .inl ⟨_, _, vw_int h1, vw_int h2, k _ _ O .refl (.int _)⟩⟩
  · obtain ⟨hl, rfl⟩ := ite_some hg
    obtain ⟨v, w, rfl, h1, h2⟩ := vws_two hv
    exact ⟨v, w, rfl, .inr (.inl ⟨_, _, vw_str h1, vw_str h2, hl, k _ _ O .refl (.str _)⟩)⟩
  · obtain ⟨hl, rfl⟩ := ite_some hg
    obtain ⟨v, w, rfl, h1, h2⟩ := vws_two hv
    obtain ⟨a, xs, rfl, s1, d1⟩ := vw_list h1
    obtain ⟨b, ys, rfl, s2, d2⟩ := vw_list h2
    refine ⟨_, _, rfl, .inr (.inr (.inl ⟨a, b, xs, ys, rfl, rfl, sqL0 s1, sqL0 s2, by rw [dpAll_len d1, dpAll_len d2]; exact hl, fun p hp => ?_⟩))⟩
    exact k _ _ _ (Alc.new hp) (lst_new hp (dpAll_app d1 d2))
  · obtain ⟨hl, rfl⟩ := ite_some hg
    obtain ⟨v, w, rfl, h1, h2⟩ := vws_two hv
    have t1 := vw_tupD h1
    have t2 := vw_tupD h2
    obtain ⟨a, xs, rfl, s1, d1⟩ := vw_tuple h1
    obtain ⟨b, ys, rfl, s2, d2⟩ := vw_tuple h2
    refine ⟨_, _, rfl, .inr (.inr (.inr ⟨a, b, xs, ys, rfl, rfl, sqT1 s1, sqT1 s2, by rw [dpAll_len d1, dpAll_len d2]; exact hl, fun e => ?_, fun _ e => ?_, fun _ _ p hp => ?_⟩))⟩
    · subst e; cases d1
      exact k _ _ O .refl t2
    · subst e; cases d2
      refine k _ _ O .refl ?_
      show Dp K0 _ _ _
      rw [List.append_nil]; exact t1
    · exact k _ _ _ (Alc.data hp) (tup_new hO hp (dpAll_app d1 d2))
  · cases hg
/-! ### -, *, //, %, ** -/
def gSub : List PyData → Option Rs
  | [.int a, .int b] => some (.dt (.int (a - b)))
  | _ => none
theorem bok_sub : BOk K0 (l2 (rI0 fun i j => .int (i - j))) gSub := fun O H vs ds rs Q hO hv hg k => by
  unfold gSub at hg
  split at hg
  · cases hg
    obtain ⟨v, w, rfl, h1, h2⟩ := vws_two hv
    exact ⟨v, w, rfl, _, _, vw_int h1, vw_int h2, k _ _ O .refl (.int _)⟩
  · cases hg
def gMul : List PyData → Option Rs
  | [.int a, .int b] => if a.natAbs < 2 ^ 63 ∨ b.natAbs < 2 ^ 63 ∨ a.natAbs.log2 + b.natAbs.log2 < 100000000 then some (.dt (.int (a * b))) else none
  | [.tuple a, .int b] => if a ≠ [] ∧ 2 ≤ b ∧ b ≤ 1000 ∧ a.length ≤ 1000 then some (.dt (.tuple (List.replicate b.toNat a).flatten)) else none
  | _ => none
theorem dpAll_rep {H : Hp} {vs : List V} {ds : List PyData} (h : DpAll K0 H vs ds) : ∀ n : Nat, DpAll K0 H (List.replicate n vs).flatten (List.replicate n ds).flatten
  | 0 => .nil
  | n + 1 => by
    rw [List.replicate_succ, List.replicate_succ, List.flatten_cons, List.flatten_cons]
    exact dpAll_app h (dpAll_rep h n)
/-- * of two factors of together less than 2 ^ 27 bits -/
def CMulY (i j : Int) : Prop := i.natAbs < 2 ^ 63 ∨ j.natAbs < 2 ^ 63 ∨ i.natAbs.log2 + j.natAbs.log2 < 100000000
theorem op_mulY {X : Cx} : OpR X (binaryOp .Mult) (rI CMulY fun i j => .int (i * j)) := by
  intro pins s σ H x y v u Q I rx ry h
  obtain ⟨i, j, rfl, rfl, hc, q⟩ := h
  have e63 : (2 : Nat) ^ 63 = 9223372036854775808 := by decide
  have e64 : (2 : Int) ^ 64 = 18446744073709551616 := by decide
  rcases hc with hc | hc | hc
  · exact op_mul pins s σ H _ _ v u Q I rx ry ⟨_, _, rfl, rfl, .inl (by rw [e63] at hc; rw [e64]; omega), q⟩
  · exact op_mul pins s σ H _ _ v u Q I rx ry ⟨_, _, rfl, rfl, .inr (by rw [e63] at hc; rw [e64]; omega), q⟩
  have nb : ∀ z : Int, Builtin.Int.intBits z ≤ z.natAbs.log2 + 1 := fun z => by
    unfold Builtin.Int.intBits
    split <;> omega
  have n1 := nb i
  have n2 := nb j
  have n3 : i.natAbs.log2 + j.natAbs.log2 < 100000000 := hc
  exact op_mulX pins s σ H _ _ v u Q I rx ry ⟨_, _, rfl, rfl, (by unfold CMulX; omega), q⟩
def rMulA (K : PySem.W.Frag) : R2 := fun x y H Q => rI CMulY (fun i j => .int (i * j)) x y H Q ∨ rRepT K x y H Q
theorem op_mulA {X : Cx} : OpR X (binaryOp .Mult) (rMulA X.K) := OpR.or op_mulY op_repT
theorem bok_mul : BOk K0 (l2 (rMulA K)) gMul := fun O H vs ds rs Q hO hv hg k => by
  unfold gMul at hg
  split at hg
  · obtain ⟨hl, rfl⟩ := ite_some hg
    obtain ⟨v, w, rfl, h1, h2⟩ := vws_two hv
    exact ⟨v, w, rfl, .inl ⟨_, _, vw_int h1, vw_int h2, hl, k _ _ O .refl (.int _)⟩⟩
  · obtain ⟨⟨g1, g2, g3, g4⟩, rfl⟩ := ite_some hg
    obtain ⟨v, w, rfl, h1, h2⟩ := vws_two hv
    obtain ⟨a, xs, rfl, s1, d1⟩ := vw_tuple h1
    refine ⟨_, _, rfl, .inr ⟨a, _, xs, rfl, vw_int h2, sqT1 s1, fun e => ?_, g2, g3, by rw [dpAll_len d1]; exact g4, fun p hp => ?_⟩⟩
    · subst e; cases d1; exact g1 rfl
    · exact k _ _ _ (Alc.data hp) (tup_new hO hp (dpAll_rep d1 _))
  · cases hg
def gDiv : List PyData → Option Rs
  | [.int a, .int b] => if 0 < b ∧ b.natAbs.log2 < 9000 then some (.dt (.int (a / b))) else none
  | _ => none
theorem bok_div : BOk K0 (l2 (rI CDivW fun i j => .int (i / j))) gDiv := fun O H vs ds rs Q hO hv hg k => by
  unfold gDiv at hg
  split at hg
  · obtain ⟨hl, rfl⟩ := ite_some hg
    obtain ⟨v, w, rfl, h1, h2⟩ := vws_two hv
    exact ⟨v, w, rfl, _, _, vw_int h1, vw_int h2, hl, k _ _ O .refl (.int _)⟩
  · cases hg
def gMod : List PyData → Option Rs
  | [.int a, .int b] => if b ≠ 0 then some (.dt (.int (a.fmod b))) else none
  | _ => none
theorem bok_mod : BOk K0 (l2 (rI (fun _ j => j ≠ 0) fun i j => .int (i.fmod j))) gMod := fun O H vs ds rs Q hO hv hg k => by
  unfold gMod at hg
  split at hg
  · obtain ⟨hl, rfl⟩ := ite_some hg
    obtain ⟨v, w, rfl, h1, h2⟩ := vws_two hv
    exact ⟨v, w, rfl, _, _, vw_int h1, vw_int h2, hl, k _ _ O .refl (.int _)⟩
  · cases hg
def gPow : List PyData → Option Rs
  | [.int a, .int b] => if 0 ≤ b ∧ b ≤ 1000000 ∧ a.natAbs < 2 ^ 64 then some (.dt (.int (a ^ b.toNat))) else none
  | _ => none
theorem bok_pow : BOk K0 (l2 (rI CPow fun i j => .int (i ^ j.toNat))) gPow := fun O H vs ds rs Q hO hv hg k => by
  unfold gPow at hg
  split at hg
  · obtain ⟨hl, rfl⟩ := ite_some hg
    obtain ⟨v, w, rfl, h1, h2⟩ := vws_two hv
    exact ⟨v, w, rfl, _, _, vw_int h1, vw_int h2, hl, k _ _ O .refl (.int _)⟩
  · cases hg
def gNeg : List PyData → Option Rs
  | [.int a] => some (.dt (.int (-a)))
  | _ => none
theorem bok_neg : BOk K0 (l1 (rU fun i => .int (-i))) gNeg := fun O H vs ds rs Q hO hv hg k => by
  unfold gNeg at hg
  split at hg
  · cases hg
    obtain ⟨v, rfl, h1⟩ := vws_one hv
    exact ⟨v, rfl, _, vw_int h1, k _ _ O .refl (.int _)⟩
  · cases hg
/-! ### comparisons -/
def gCmp (p : Int → Int → Bool) (q : List Nat → List Nat → Bool) : List PyData → Option Rs
  | [.int a, .int b] => some (.dt (.bool (p a b)))
  | _ => none
def gLt : List PyData → Option Rs
  | [.int a, .int b] => some (.dt (.bool (decide (a < b))))
  | [.str a, .str b] => some (.dt (.bool (decide (a.cps.toList < b.cps.toList))))
  | _ => none
def rLtA : R2 := fun x y H Q => rI0 (fun i j => .bl (decide (i < j))) x y H Q ∨ (∃ i j, x = .str i ∧ y = .str j ∧ Q (.bl (decide (i.cps.toList < j.cps.toList))) H)
theorem op_ltA {X : Cx} : OpR X (compareOp .Lt) rLtA := OpR.or op_lt op_lt_str
theorem bok_lt : BOk K0 (l2 rLtA) gLt := fun O H vs ds rs Q hO hv hg k => by
  unfold gLt at hg
  split at hg
  · cases hg
    obtain ⟨v, w, rfl, h1, h2⟩ := vws_two hv
    exact ⟨v, w, rfl, .inl ⟨_, _, vw_int h1, vw_int h2, k _ _ O .refl (.bl _)⟩⟩
  · cases hg
    obtain ⟨v, w, rfl, h1, h2⟩ := vws_two hv
    exact ⟨v, w, rfl, .inr ⟨_, _, vw_str h1, vw_str h2, k _ _ O .refl (.bl _)⟩⟩
  · cases hg
def gLe : List PyData → Option Rs
  | [.int a, .int b] => some (.dt (.bool (decide (a ≤ b))))
  | _ => none
theorem bok_le : BOk K0 (l2 (rI0 fun i j => .bl (decide (i ≤ j)))) gLe := fun O H vs ds rs Q hO hv hg k => by
  unfold gLe at hg
  split at hg
  · cases hg
    obtain ⟨v, w, rfl, h1, h2⟩ := vws_two hv
    exact ⟨v, w, rfl, _, _, vw_int h1, vw_int h2, k _ _ O .refl (.bl _)⟩
  · cases hg
def gGt : List PyData → Option Rs
  | [.int a, .int b] => some (.dt (.bool (decide (b < a))))
  | _ => none
theorem bok_gt : BOk K0 (l2 (rI0 fun i j => .bl (decide (j < i)))) gGt := fun O H vs ds rs Q hO hv hg k => by
  unfold gGt at hg
  split at hg
  · cases hg
    obtain ⟨v, w, rfl, h1, h2⟩ := vws_two hv
    exact ⟨v, w, rfl, _, _, vw_int h1, vw_int h2, k _ _ O .refl (.bl _)⟩
  · cases hg
def gGe : List PyData → Option Rs
  | [.int a, .int b] => some (.dt (.bool (decide (b ≤ a))))
  | _ => none
theorem bok_ge : BOk K0 (l2 (rI0 fun i j => .bl (decide (j ≤ i)))) gGe := fun O H vs ds rs Q hO hv hg k => by
  unfold gGe at hg
  split at hg
  · cases hg
    obtain ⟨v, w, rfl, h1, h2⟩ := vws_two hv
    exact ⟨v, w, rfl, _, _, vw_int h1, vw_int h2, k _ _ O .refl (.bl _)⟩
  · cases hg
/-- == : plain numbers and texts at once, else by data -/
def eqD : PyData → PyData → Option Bool
  | .int a, .int b => some (decide (a = b))
  | .str a, .str b => some (decide (a = b))
  | .bool a, .bool b => some (decide (a = b))
  | a, b => if SeqAt.shaped a = true ∧ SeqAt.shaped b = true then some (PyData.eqv a b) else none
def rEqA (K : PySem.W.Frag) : R2 := fun x y H Q => rEq x y H Q ∨ rEqD K x y H Q
def rNeA (K : PySem.W.Frag) : R2 := fun x y H Q => rNe x y H Q ∨ rNeD K x y H Q
theorem op_eqA {X : Cx} {k : Nat} (hr : Room k X.A) : OpR X (compareOp .Eq) (rEqA X.K) := OpR.or op_eq (op_eqD hr.units)
theorem op_neA {X : Cx} {k : Nat} (hr : Room k X.A) : OpR X (compareOp .NotEq) (rNeA X.K) := OpR.or op_ne (op_neD hr.units)
def gEq : List PyData → Option Rs
  | [a, b] => match eqD a b with
    | some k => some (.dt (.bool k))
    | none => none
  | _ => none
def gNe : List PyData → Option Rs
  | [a, b] => match eqD a b with
    | some k => some (.dt (.bool (!k)))
    | none => none
  | _ => none
theorem eq_some {O : OS} {H : Hp} {v w : V} {a b : PyData} {k : Bool} (h1 : Vw K0 O H v a) (h2 : Vw K0 O H w b) (e : eqD a b = some k) :
    (scal v w = true ∧ decide (v = w) = k) ∨ (∃ d e, Dp K H v d ∧ Dp K H w e ∧ SeqAt.shaped d = true ∧ SeqAt.shaped e = true ∧ PyData.eqv d e = k) := by
  unfold eqD at e
  split at e
  · cases e
    have := vw_int h1; have := vw_int h2; subst v w
    exact .inl ⟨rfl, by simp⟩
  · cases e
    have := vw_str h1; have := vw_str h2; subst v w
    exact .inl ⟨rfl, by simp⟩
  · cases e
    have := vw_bool h1; have := vw_bool h2; subst v w
    exact .inl ⟨rfl, by simp⟩
  · obtain ⟨⟨g1, g2⟩, rfl⟩ := ite_some e
    exact .inr ⟨_, _, dp1 (vw_dp h1), dp1 (vw_dp h2), g1, g2, rfl⟩
theorem bok_eq : BOk K0 (l2 (rEqA K)) gEq := fun O H vs ds rs Q hO hv hg k => by
  unfold gEq at hg
  split at hg
  · split at hg
    · rename_i a b kk e
      cases hg
      obtain ⟨v, w, rfl, h1, h2⟩ := vws_two hv
      rcases eq_some (K := K) h1 h2 e with ⟨g, rfl⟩ | ⟨d, e', p1, p2, p3, p4, rfl⟩
      · exact ⟨v, w, rfl, .inl ⟨g, k _ _ O .refl (.bl _)⟩⟩
      · exact ⟨v, w, rfl, .inr ⟨d, e', p1, p2, p3, p4, k _ _ O .refl (.bl _)⟩⟩
    · cases hg
  · cases hg
theorem bok_ne : BOk K0 (l2 (rNeA K)) gNe := fun O H vs ds rs Q hO hv hg k => by
  unfold gNe at hg
  split at hg
  · split at hg
    · rename_i a b kk e
      cases hg
      obtain ⟨v, w, rfl, h1, h2⟩ := vws_two hv
      rcases eq_some (K := K) h1 h2 e with ⟨g, rfl⟩ | ⟨d, e', p1, p2, p3, p4, rfl⟩
      · exact ⟨v, w, rfl, .inl ⟨g, k _ _ O .refl (.bl _)⟩⟩
      · exact ⟨v, w, rfl, .inr ⟨d, e', p1, p2, p3, p4, k _ _ O .refl (.bl _)⟩⟩
    · cases hg
  · cases hg
/-- is None -/
def gIs : List PyData → Option Rs
  | [.none, .none] => some (.dt (.bool true))
  | [_, .none] => some (.dt (.bool false))
  | _ => none
def gIsnt : List PyData → Option Rs
  | [.none, .none] => some (.dt (.bool false))
  | [_, .none] => some (.dt (.bool true))
  | _ => none
theorem vw_not_none {O : OS} {H : Hp} {v : V} {d : PyData} (h : Vw K0 O H v d) (n : d ≠ .none) : v ≠ .non := fun e => by
  subst e
  rcases h with h | ⟨p, vs, xs, e, _⟩
  · cases h; exact n rfl
  · cases e
theorem bok_is : BOk K0 (l2 fun x y H Q => y = .non ∧ Q (.bl (decide (x = .non))) H) gIs := fun O H vs ds rs Q hO hv hg k => by
  unfold gIs at hg
  split at hg
  · cases hg
    obtain ⟨v, w, rfl, h1, h2⟩ := vws_two hv
    have := vw_none h1; subst v
    exact ⟨_, w, rfl, vw_none h2, k _ _ O .refl (.bl _)⟩
  · rename_i a n
    cases hg
    obtain ⟨v, w, rfl, h1, h2⟩ := vws_two hv
    have e : decide (v = V.non) = false := decide_eq_false (vw_not_none h1 fun z => n (by rw [z]))
    refine ⟨_, w, rfl, vw_none h2, ?_⟩
    rw [e]; exact k _ _ O .refl (.bl _)
  · cases hg
theorem bok_isnt : BOk K0 (l2 fun x y H Q => y = .non ∧ Q (.bl (!decide (x = .non))) H) gIsnt := fun O H vs ds rs Q hO hv hg k => by
  unfold gIsnt at hg
  split at hg
  · cases hg
    obtain ⟨v, w, rfl, h1, h2⟩ := vws_two hv
    have := vw_none h1; subst v
    exact ⟨_, w, rfl, vw_none h2, k _ _ O .refl (.bl _)⟩
  · rename_i a n
    cases hg
    obtain ⟨v, w, rfl, h1, h2⟩ := vws_two hv
    have e : decide (v = V.non) = false := decide_eq_false (vw_not_none h1 fun z => n (by rw [z]))
    refine ⟨_, w, rfl, vw_none h2, ?_⟩
    rw [e]; exact k _ _ O .refl (.bl _)
  · cases hg
/-- in, not in: flat things -/
def flat : PyData → Bool
  | .none | .bool _ | .int _ | .str _ => true
  | _ => false
def feq : PyData → PyData → Bool
  | .none, .none => true
  | .bool a, .bool b => a == b
  | .bool a, .int j => (if a then 1 else 0) == j
  | .int i, .bool b => i == (if b then 1 else 0)
  | .int i, .int j => i == j
  | .str x, .str y => x == y
  | _, _ => false
def inD (x : PyData) (xs : List PyData) : Option Bool := if flat x = true ∧ xs.all flat = true then some (xs.any fun y => feq y x) else none
def gIn : List PyData → Option Rs
  | [x, .list xs] => match inD x xs with
    | some k => some (.dt (.bool k))
    | none => none
  | [x, .tuple xs] => match inD x xs with
    | some k => some (.dt (.bool k))
    | none => none
  | _ => none
def gNotIn : List PyData → Option Rs
  | [x, .list xs] => match inD x xs with
    | some k => some (.dt (.bool (!k)))
    | none => none
  | [x, .tuple xs] => match inD x xs with
    | some k => some (.dt (.bool (!k)))
    | none => none
  | _ => none
theorem flat_dp {H : Hp} {v : V} {d : PyData} (h : Dp K0 H v d) (f : flat d = true) : flatV v = true := by cases h <;> first | rfl | cases f
theorem flat_eq {H : Hp} {v w : V} {d e : PyData} (h : Dp K0 H v d) (h' : Dp K0 H w e) (f : flat d = true) (f' : flat e = true) : eqV v w = feq d e := by
  cases h <;> first | (cases f; done) | (cases h' <;> first | (cases f'; done) | rfl | (simp [eqV, feq]; done) | skip)
end
end Dl
end

section
set_option Elab.async false
set_option linter.all false
set_option maxRecDepth 100000
namespace Dl
open PySem PySem.Spec PyProof.Rows L2
section
variable {K : PySem.W.Frag}
theorem all_flat {H : Hp} : ∀ {vs : List V} {ds : List PyData}, DpAll K0 H vs ds → ds.all flat = true → vs.all flatV = true
  | _, _, .nil, _ => rfl
  | _, _, .cons a r, f => by
    simp only [List.all_cons, Bool.and_eq_true] at f ⊢
    exact ⟨flat_dp a f.1, all_flat r f.2⟩
theorem any_flat {H : Hp} {v : V} {d : PyData} (h : Dp K0 H v d) (f : flat d = true) : ∀ {vs : List V} {ds : List PyData}, DpAll K0 H vs ds → ds.all flat = true → (vs.any fun y => eqV y v) = ds.any fun y => feq y d
  | _, _, .nil, _ => rfl
  | _, _, .cons a r, g => by
    simp only [List.all_cons, Bool.and_eq_true] at g
    simp only [List.any_cons]
    rw [flat_eq a h g.1 f, any_flat h f r g.2]
theorem vw_flat {O : OS} {H : Hp} {v : V} {d : PyData} (h : Vw K0 O H v d) (f : flat d = true) : Dp K0 (hid O H) v d := by
  rcases h with h | ⟨p, vs, xs, rfl, rfl, _⟩
  · exact h
  · cases f
theorem in_some {O : OS} {H : Hp} {v : V} {vs : List V} {x : PyData} {xs : List PyData} {k : Bool} (h1 : Vw K0 O H v x) (h2 : DpAll K0 (hid O H) vs xs) (e : inD x xs = some k) : flatV v = true ∧ vs.all flatV = true ∧ inV v vs = k := by
  obtain ⟨⟨g1, g2⟩, rfl⟩ := ite_some e
  have h := vw_flat h1 g1
  exact ⟨flat_dp h g1, all_flat h2 g2, any_flat h g1 h2 g2⟩
theorem bok_in : BOk K0 (l2 (rIn K false)) gIn := fun O H vs ds rs Q hO hv hg k => by
  unfold gIn at hg
  split at hg
  · split at hg
    · rename_i e
      cases hg
      obtain ⟨v, w, rfl, h1, h2⟩ := vws_two hv
      obtain ⟨a, xs, rfl, s, d⟩ := vw_list h2
      obtain ⟨f1, f2, f3⟩ := in_some h1 d e
      refine ⟨v, _, rfl, a, xs, rfl, .inl (sqL1 s), f1, f2, ?_⟩
      subst f3
      exact k _ _ O .refl (.bl _)
    · cases hg
  · split at hg
    · rename_i e
      cases hg
      obtain ⟨v, w, rfl, h1, h2⟩ := vws_two hv
      obtain ⟨a, xs, rfl, s, d⟩ := vw_tuple h2
      obtain ⟨f1, f2, f3⟩ := in_some h1 d e
      refine ⟨v, _, rfl, a, xs, rfl, .inr (sqT1 s), f1, f2, ?_⟩
      subst f3
      exact k _ _ O .refl (.bl _)
    · cases hg
  · cases hg
theorem bok_notin : BOk K0 (l2 (rIn K true)) gNotIn := fun O H vs ds rs Q hO hv hg k => by
  unfold gNotIn at hg
  split at hg
  · split at hg
    · rename_i e
      cases hg
      obtain ⟨v, w, rfl, h1, h2⟩ := vws_two hv
      obtain ⟨a, xs, rfl, s, d⟩ := vw_list h2
      obtain ⟨f1, f2, f3⟩ := in_some h1 d e
      refine ⟨v, _, rfl, a, xs, rfl, .inl (sqL1 s), f1, f2, ?_⟩
      subst f3
      exact k _ _ O .refl (.bl _)
    · cases hg
  · split at hg
    · rename_i e
      cases hg
      obtain ⟨v, w, rfl, h1, h2⟩ := vws_two hv
      obtain ⟨a, xs, rfl, s, d⟩ := vw_tuple h2
      obtain ⟨f1, f2, f3⟩ := in_some h1 d e
      refine ⟨v, _, rfl, a, xs, rfl, .inr (sqT1 s), f1, f2, ?_⟩
      subst f3
      exact k _ _ O .refl (.bl _)
    · cases hg
  · cases hg
/-! ### len, abs, int -/
def gLen : List PyData → Option Rs
  | [.list xs] => some (.dt (.int xs.length))
  | [.tuple xs] => some (.dt (.int xs.length))
  | [.str x] => if x.length ≤ sizeLine then some (.dt (.int x.length)) else none
  | _ => none
def rLenA (K : PySem.W.Frag) : List V → Hp → VK → Prop := fun xs H Q => (∃ p ys, xs = [.ref p] ∧ (SqL K H p ys ∨ SqT K H p ys) ∧ Q (.int ys.length) H) ∨ (∃ z, xs = [.str z] ∧ z.length ≤ sizeLine ∧ Q (.int z.length) H)
theorem call_lenA {X : Cx} : CallR X (.builtin "len") (rLenA X.K) := CallR.or call_len_seq call_len_str
theorem bok_len : BOk K0 (rLenA K) gLen := fun O H vs ds rs Q hO hv hg k => by
  unfold gLen at hg
  split at hg
  · cases hg
    obtain ⟨v, rfl, h1⟩ := vws_one hv
    obtain ⟨a, xs, rfl, s, d⟩ := vw_list h1
    refine .inl ⟨a, xs, rfl, .inl (sqL1 s), ?_⟩
    rw [dpAll_len d]; exact k _ _ O .refl (.int _)
  · cases hg
    obtain ⟨v, rfl, h1⟩ := vws_one hv
    obtain ⟨a, xs, rfl, s, d⟩ := vw_tuple h1
    refine .inl ⟨a, xs, rfl, .inr (sqT1 s), ?_⟩
    rw [dpAll_len d]; exact k _ _ O .refl (.int _)
  · obtain ⟨hl, rfl⟩ := ite_some hg
    obtain ⟨v, rfl, h1⟩ := vws_one hv
    have := vw_str h1; subst v
    exact .inr ⟨_, rfl, hl, k _ _ O .refl (.int _)⟩
  · cases hg
def gAbs : List PyData → Option Rs
  | [.int a] => some (.dt (.int (if a < 0 then -a else a)))
  | _ => none
theorem bok_abs : BOk K0 (fun xs H Q => ∃ i, xs = [.int i] ∧ Q (.int (if i < 0 then -i else i)) H) gAbs := fun O H vs ds rs Q hO hv hg k => by
  unfold gAbs at hg
  split at hg
  · cases hg
    obtain ⟨v, rfl, h1⟩ := vws_one hv
    have := vw_int h1; subst v
    exact ⟨_, rfl, k _ _ O .refl (.int _)⟩
  · cases hg
def gInt : List PyData → Option Rs
  | [.int a] => some (.dt (.int a))
  | [.bool a] => some (.dt (.int (if a then 1 else 0)))
  | _ => none
theorem bok_int : BOk K0 (fun xs H Q => (∃ i, xs = [.int i] ∧ Q (.int i) H) ∨ ∃ k, xs = [.bl k] ∧ Q (.int (if k then 1 else 0)) H) gInt := fun O H vs ds rs Q hO hv hg k => by
  unfold gInt at hg
  split at hg
  · cases hg
    obtain ⟨v, rfl, h1⟩ := vws_one hv
    have := vw_int h1; subst v
    exact .inl ⟨_, rfl, k _ _ O .refl (.int _)⟩
  · cases hg
    obtain ⟨v, rfl, h1⟩ := vws_one hv
    have := vw_bool h1; subst v
    exact .inr ⟨_, rfl, k _ _ O .refl (.int _)⟩
  · cases hg
/-! ### lists of numbers, of truth values -/
def intsOf : List PyData → Option (List Int)
  | [] => some []
  | .int i :: r => match intsOf r with
    | some is => some (i :: is)
    | none => none
  | _ => none
def boolsOf : List PyData → Option (List Bool)
  | [] => some []
  | .bool i :: r => match boolsOf r with
    | some is => some (i :: is)
    | none => none
  | _ => none
def strsOf : List PyData → Option (List Str)
  | [] => some []
  | .str i :: r => match strsOf r with
    | some is => some (i :: is)
    | none => none
  | _ => none
theorem ints_ok {H : Hp} : ∀ {ds : List PyData} {vs : List V} {is : List Int}, DpAll K0 H vs ds → intsOf ds = some is → vs = is.map V.int
  | [], _, _, .nil, e => by cases e; rfl
  | .int i :: r, _, _, .cons a b, e => by
    unfold intsOf at e
    split at e
    · rename_i h; cases e; rw [ints_ok b h]; cases a; rfl
    · cases e
  | .none :: _, _, _, _, e => by cases e
  | .bool _ :: _, _, _, _, e => by cases e
  | .str _ :: _, _, _, _, e => by cases e
  | .list _ :: _, _, _, _, e => by cases e
  | .tuple _ :: _, _, _, _, e => by cases e
  | .dict _ :: _, _, _, _, e => by cases e
theorem bools_ok {H : Hp} : ∀ {ds : List PyData} {vs : List V} {is : List Bool}, DpAll K0 H vs ds → boolsOf ds = some is → vs = is.map V.bl
  | [], _, _, .nil, e => by cases e; rfl
  | .bool i :: r, _, _, .cons a b, e => by
    unfold boolsOf at e
    split at e
    · rename_i h; cases e; rw [bools_ok b h]; cases a; rfl
    · cases e
  | .none :: _, _, _, _, e => by cases e
  | .int _ :: _, _, _, _, e => by cases e
  | .str _ :: _, _, _, _, e => by cases e
  | .list _ :: _, _, _, _, e => by cases e
  | .tuple _ :: _, _, _, _, e => by cases e
  | .dict _ :: _, _, _, _, e => by cases e
theorem strs_ok {H : Hp} : ∀ {ds : List PyData} {vs : List V} {is : List Str}, DpAll K0 H vs ds → strsOf ds = some is → vs = is.map V.str
  | [], _, _, .nil, e => by cases e; rfl
  | .str i :: r, _, _, .cons a b, e => by
    unfold strsOf at e
    split at e
    · rename_i h; cases e; rw [strs_ok b h]; cases a; rfl
    · cases e
  | .none :: _, _, _, _, e => by cases e
  | .int _ :: _, _, _, _, e => by cases e
  | .bool _ :: _, _, _, _, e => by cases e
  | .list _ :: _, _, _, _, e => by cases e
  | .tuple _ :: _, _, _, _, e => by cases e
  | .dict _ :: _, _, _, _, e => by cases e
def topI : Int → List Int → Int
  | m, [] => m
  | m, x :: r => topI (if m < x then x else m) r
def lowI : Int → List Int → Int
  | m, [] => m
  | m, x :: r => lowI (if x < m then x else m) r
theorem topI_mem : ∀ (r : List Int) (m : Int), topI m r ∈ m :: r ∧ ∀ y ∈ m :: r, y ≤ topI m r
  | [], m => ⟨List.mem_cons_self, fun y h => by simp at h; subst h; exact Int.le_refl _⟩
  | x :: r, m => by
    obtain ⟨h1, h2⟩ := topI_mem r (if m < x then x else m)
    unfold topI
    refine ⟨?_, fun y hy => ?_⟩
    · rcases List.mem_cons.mp h1 with e | e
      · rw [e]; split <;> simp
      · exact List.mem_cons_of_mem _ (List.mem_cons_of_mem _ e)
    · have hm := h2 _ List.mem_cons_self
      rcases List.mem_cons.mp hy with e | e
      · subst e; split at hm <;> rename_i hc <;> simp only [hc, if_true, if_false] <;> omega
      · rcases List.mem_cons.mp e with e | e
        · subst e; split at hm <;> rename_i hc <;> simp only [hc, if_true, if_false] <;> omega
        · exact h2 y (List.mem_cons_of_mem _ e)
theorem lowI_mem : ∀ (r : List Int) (m : Int), lowI m r ∈ m :: r ∧ ∀ y ∈ m :: r, lowI m r ≤ y
  | [], m => ⟨List.mem_cons_self, fun y h => by simp at h; subst h; exact Int.le_refl _⟩
  | x :: r, m => by
    obtain ⟨h1, h2⟩ := lowI_mem r (if x < m then x else m)
    unfold lowI
    refine ⟨?_, fun y hy => ?_⟩
    · rcases List.mem_cons.mp h1 with e | e
      · rw [e]; split <;> simp
      · exact List.mem_cons_of_mem _ (List.mem_cons_of_mem _ e)
    · have hm := h2 _ List.mem_cons_self
      rcases List.mem_cons.mp hy with e | e
      · subst e; split at hm <;> rename_i hc <;> simp only [hc, if_true, if_false] <;> omega
      · rcases List.mem_cons.mp e with e | e
        · subst e; split at hm <;> rename_i hc <;> simp only [hc, if_true, if_false] <;> omega
        · exact h2 y (List.mem_cons_of_mem _ e)
def gMax : List PyData → Option Rs
  | [.list xs] => match intsOf xs with
    | some (m :: r) => some (.dt (.int (topI m r)))
    | _ => none
  | _ => none
def gMin : List PyData → Option Rs
  | [.list xs] => match intsOf xs with
    | some (m :: r) => some (.dt (.int (lowI m r)))
    | _ => none
  | _ => none
theorem bok_max : BOk K0 (rMax K) gMax := fun O H vs ds rs Q hO hv hg k => by
  unfold gMax at hg
  split at hg
  · split at hg
    · rename_i m r e
      cases hg
      obtain ⟨v, rfl, h1⟩ := vws_one hv
      obtain ⟨a, xs, rfl, s, d⟩ := vw_list h1
      have := ints_ok d e; subst xs
      refine ⟨a, m :: r, rfl, sqL1 s, by simp, fun t ht hle => ?_⟩
      obtain ⟨q1, q2⟩ := topI_mem r m
      have : t = topI m r := Int.le_antisymm (q2 t ht) (hle _ q1)
      subst t
      exact k _ _ O .refl (.int _)
    · cases hg
  · cases hg
theorem bok_min : BOk K0 (rMin K) gMin := fun O H vs ds rs Q hO hv hg k => by
  unfold gMin at hg
  split at hg
  · split at hg
    · rename_i m r e
      cases hg
      obtain ⟨v, rfl, h1⟩ := vws_one hv
      obtain ⟨a, xs, rfl, s, d⟩ := vw_list h1
      have := ints_ok d e; subst xs
      refine ⟨a, m :: r, rfl, sqL1 s, by simp, fun t ht hle => ?_⟩
      obtain ⟨q1, q2⟩ := lowI_mem r m
      have : t = lowI m r := Int.le_antisymm (hle _ q1) (q2 t ht)
      subst t
      exact k _ _ O .refl (.int _)
    · cases hg
  · cases hg
def gSum : List PyData → Option Rs
  | [.list xs] => match intsOf xs with
    | some r => some (.dt (.int r.sum))
    | _ => none
  | _ => none
theorem bok_sum : BOk K0 (rSum K) gSum := fun O H vs ds rs Q hO hv hg k => by
  unfold gSum at hg
  split at hg
  · split at hg
    · rename_i r e
      cases hg
      obtain ⟨v, rfl, h1⟩ := vws_one hv
      obtain ⟨a, xs, rfl, s, d⟩ := vw_list h1
      have := ints_ok d e; subst xs
      exact ⟨a, r, rfl, sqL1 s, k _ _ O .refl (.int _)⟩
    · cases hg
  · cases hg
def gAll : List PyData → Option Rs
  | [.list xs] => match boolsOf xs with
    | some r => some (.dt (.bool (r.all id)))
    | _ => none
  | _ => none
theorem bok_all : BOk K0 (rAll K) gAll := fun O H vs ds rs Q hO hv hg k => by
  unfold gAll at hg
  split at hg
  · split at hg
    · rename_i r e
      cases hg
      obtain ⟨v, rfl, h1⟩ := vws_one hv
      obtain ⟨a, xs, rfl, s, d⟩ := vw_list h1
      have := bools_ok d e; subst xs
      exact ⟨a, r, rfl, sqL1 s, k _ _ O .refl (.bl _)⟩
    · cases hg
  · cases hg
def gAny : List PyData → Option Rs
  | [.list xs] => match boolsOf xs with
    | some r => some (.dt (.bool (r.any id)))
    | _ => none
  | _ => none
theorem bok_any : BOk K0 (rAny K) gAny := fun O H vs ds rs Q hO hv hg k => by
  unfold gAny at hg
  split at hg
  · split at hg
    · rename_i r e
      cases hg
      obtain ⟨v, rfl, h1⟩ := vws_one hv
      obtain ⟨a, xs, rfl, s, d⟩ := vw_list h1
      have := bools_ok d e; subst xs
      exact ⟨a, r, rfl, sqL1 s, k _ _ O .refl (.bl _)⟩
    · cases hg
  · cases hg
def gList : List PyData → Option Rs
  | [.list xs] => some (.new xs)
  | [.tuple xs] => some (.new xs)
  | _ => none
theorem bok_list : BOk K0 (fun xs H Q => ∃ p ys, xs = [.ref p] ∧ (SqL K H p ys ∨ SqT K H p ys) ∧ ∀ l, H l = none → Q (.ref l) (upd H l (.lst ys))) gList := fun O H vs ds rs Q hO hv hg k => by
  unfold gList at hg
  split at hg
  · cases hg
    obtain ⟨v, rfl, h1⟩ := vws_one hv
    obtain ⟨a, xs, rfl, s, d⟩ := vw_list h1
    exact ⟨a, xs, rfl, .inl (sqL1 s), fun p hp => k _ _ _ (Alc.new hp) (lst_new hp d)⟩
  · cases hg
    obtain ⟨v, rfl, h1⟩ := vws_one hv
    obtain ⟨a, xs, rfl, s, d⟩ := vw_tuple h1
    exact ⟨a, xs, rfl, .inr (sqT1 s), fun p hp => k _ _ _ (Alc.new hp) (lst_new hp d)⟩
  · cases hg
def gTuple : List PyData → Option Rs
  | [.list xs] => some (.dt (.tuple xs))
  | [.tuple xs] => some (.dt (.tuple xs))
  | _ => none
theorem bok_tuple : BOk K0 (fun xs H Q => ∃ p ys, xs = [.ref p] ∧ ((SqL K H p ys ∧ ∀ l, H l = none → Q (.ref l) (upd H l (.tup ys))) ∨ (SqT K H p ys ∧ Q (.ref p) H))) gTuple := fun O H vs ds rs Q hO hv hg k => by
  unfold gTuple at hg
  split at hg
  · cases hg
    obtain ⟨v, rfl, h1⟩ := vws_one hv
    obtain ⟨a, xs, rfl, s, d⟩ := vw_list h1
    exact ⟨a, xs, rfl, .inl ⟨sqL1 s, fun p hp => k _ _ _ (Alc.data hp) (tup_new hO hp d)⟩⟩
  · cases hg
    obtain ⟨v, rfl, h1⟩ := vws_one hv
    have t := vw_tupD h1
    obtain ⟨a, xs, rfl, s, d⟩ := vw_tuple h1
    exact ⟨a, xs, rfl, .inr ⟨sqT1 s, k _ _ O .refl t⟩⟩
  · cases hg
/-! ### an item -/
def gIx : List PyData → Option Rs
  | [.list xs, .int i] => match atI xs i with
    | some d => some (.dt d)
    | none => none
  | [.tuple xs, .int i] => match atI xs i with
    | some d => some (.dt d)
    | none => none
  | [.str z, .int i] => if z.length ≤ sizeLine then match atI z.cps.toList i with
    | some c => some (.dt (.str ⟨#[c]⟩))
    | none => none else none
  | _ => none
theorem atI_dp {H : Hp} {vs : List V} {ds : List PyData} {i : Int} {d : PyData} (h : DpAll K0 H vs ds) (e : atI ds i = some d) : ∃ v, atI vs i = some v ∧ Dp K0 H v d := by
  unfold atI at e ⊢
  rw [dpAll_len h]
  cases q : ixN ds.length i with
  | none => rw [q] at e; cases e
  | some j =>
    rw [q] at e
    exact dpAll_getD h e
theorem bok_ix : BOk K0 (l2 (rIx K)) gIx := fun O H vs ds rs Q hO hv hg k => by
  unfold gIx at hg
  split at hg
  · split at hg
    · rename_i e
      cases hg
      obtain ⟨v, w, rfl, h1, h2⟩ := vws_two hv
      obtain ⟨a, xs, rfl, s, d⟩ := vw_list h1
      obtain ⟨u, e1, e2⟩ := atI_dp d e
      exact ⟨_, _, rfl, .inl ⟨a, xs, _, u, rfl, vw_int h2, sqL1 s, e1, k _ _ O .refl e2⟩⟩
    · cases hg
  · split at hg
    · rename_i e
      cases hg
      obtain ⟨v, w, rfl, h1, h2⟩ := vws_two hv
      obtain ⟨a, xs, rfl, s, d⟩ := vw_tuple h1
      obtain ⟨u, e1, e2⟩ := atI_dp d e
      exact ⟨_, _, rfl, .inr (.inl ⟨a, xs, _, u, rfl, vw_int h2, sqT1 s, e1, k _ _ O .refl e2⟩)⟩
    · cases hg
  · split at hg
    · rename_i hl
      split at hg
      · rename_i e
        cases hg
        obtain ⟨v, w, rfl, h1, h2⟩ := vws_two hv
        exact ⟨_, _, rfl, .inr (.inr ⟨_, _, _, vw_str h1, vw_int h2, hl, e, k _ _ O .refl (.str _)⟩)⟩
      · cases hg
    · cases hg
  · cases hg
end
end Dl
end

section
set_option Elab.async false
set_option linter.all false
set_option maxRecDepth 100000
namespace Dl
open PySem PySem.Spec PyProof.Rows L2
section
variable {c : Ct}
theorem PostG.mono {α β : Type} {K : PySem.W.Frag} {O : OS} {σ : L2.St} {H : Hp} {ρ : En} {R : Hp → En → Hp → OS → β → α → Prop} {Q Q' : β → Hp → Prop} (i : ∀ v H', Q v H' → Q' v H') {r : Option (Out α × En)} (h : PostG K c O σ H ρ R Q r) : PostG K c O σ H ρ R Q' r := by
  match r with
  | none => exact h
  | some (.val a, ρ2) => exact fun v H2 O2 t L2 q => i _ _ (h v H2 O2 t L2 q)
  | some (.ex n fs, ρ2) => exact h
theorem rdG_mono {α β : Type} {K : PySem.W.Frag} {R : L2.St → Hp → En → Hp → OS → β → α → Prop} {x : Mo α} {σ : L2.St} {H : Hp} {Q Q' : β → Hp → Prop} (i : ∀ v H', Q v H' → Q' v H') (h : rdG K c R x σ H Q) : rdG K c R x σ H Q' := by
  obtain ⟨O, ρ, L, q⟩ := h
  exact ⟨O, ρ, L, q.mono i⟩
theorem rdV_cons {y : Mo Vd} {ys : Mo (List Vd)} {σ : L2.St} {H : Hp} {Q : List V → Hp → Prop} (h : rdVs K0 c (vCons y ys) σ H Q) : rdV K0 c y σ H fun x H1 => rdVs K0 c ys σ H1 fun xs H2 => Q (x :: xs) H2 := by
  obtain ⟨O, ρ, L, q⟩ := h
  exact ⟨O, ρ, L, post_cons L q⟩
theorem rdV_one {y : Mo Vd} {σ : L2.St} {H : Hp} {Q : List V → Hp → Prop} (h : rdVs K0 c (vCons y vNil) σ H Q) : rdV K0 c y σ H fun x H1 => Q [x] H1 := rdG_mono (fun _ _ q => tail1 q) (rdV_cons h)
theorem rdB_ops {g : List PyData → Option Rs} {ys : Mo (List Vd)} {r : List V → Hp → VK → Prop} (b : BOk K0 r g) {σ : L2.St} {H : Hp} {Q : VK} (h : rd K0 c (xB g ys) σ H Q) : rdVs K0 c ys σ H fun vs H1 => r vs H1 Q := by
  obtain ⟨O, ρ, L, q⟩ := h
  exact ⟨O, ρ, L, post_B b L q⟩
end

/-! ### isinstance -/
def tyN : PyData → String
  | .none => "NoneType"
  | .bool _ => "bool"
  | .int _ => "int"
  | .str _ => "str"
  | .list _ => "list"
  | .tuple _ => "tuple"
  | .dict _ => "dict"
theorem ty_of {K : PySem.W.Frag} {O : OS} {H : Hp} {v : V} {d : PyData} (h : Vw K0 O H v d) : TyX K H v (.type (tyN d)) := by
  have q := vw_dp h
  cases q with
  | non => exact .base .non
  | bl b => exact .base (.bl b)
  | int b => exact .base (.int b)
  | str b => exact .base (.str b)
  | lst s _ =>
    rcases sqL0 s with e | ⟨o, e⟩
    · exact .base (.lst e)
    · exact .base (.frz e)
  | tup s _ =>
    rcases sqT0 s with e | ⟨o, e⟩
    · exact .base (.tup e)
    · exact .fTuple e
/-- of a built-in class -/
def isT (d : PyData) (T : String) : Bool := (tyN d == T) || (tyN d == "bool" && T == "int")
theorem kit_isT (K : PySem.W.Frag) (d : PyData) (T : String) (hT : T ∈ ["list", "tuple", "str", "bool", "int"]) : PySem.W.kitOne K (.type (tyN d)) (.type T) = some (isT d T) := by
  refine kit_ty ?_
  simp only [List.mem_cons, List.mem_nil_iff, or_false] at hT
  rcases hT with rfl | rfl | rfl | rfl | rfl <;> cases d <;> (first | rfl | decide +kernel)
def gIsi (T : String) : List PyData → Option Rs
  | [d] => some (.dt (.bool (isT d T)))
  | _ => none
def gIsi2 (T U : String) : List PyData → Option Rs
  | [d] => some (.dt (.bool (isT d T || isT d U)))
  | _ => none
section
variable {X : Cx} {c : Ct} {a : Expr} {ya : Mo Vd}
def rI1 (K : PySem.W.Frag) (T : String) : List V → Hp → VK → Prop := fun xs H Q => ∃ x, xs = [x] ∧ rIsi K [x, .ty T] H Q
theorem bok_isi {K : PySem.W.Frag} {T : String} (hT : T ∈ ["list", "tuple", "str", "bool", "int"]) : BOk K0 (rI1 K T) (gIsi T) := fun O H vs ds rs Q hO hv hg k => by
  unfold gIsi at hg
  split at hg
  · cases hg
    obtain ⟨v, rfl, h1⟩ := vws_one hv
    exact ⟨v, rfl, v, _, _, _, _, rfl, .ty T, ty_of h1, kit_isT K _ T hT, k _ _ O .refl (.bl _)⟩
  · cases hg
theorem de_isi {T : String} {tn : Str} {p q pos : Pos} (hT : T ∈ ["list", "tuple", "str", "bool", "int"]) (hm : X.mg "isinstance" = none) (hmt : X.mg tn = none) (hbt : bootBuiltins tn = some (.type T)) (ha : PE X a (rdV K0 c ya))
    (hg : Gl X "isinstance" := by rfl) (hgt : Gl X tn := by rfl) (hn : tn ≠ "__name__" := by decide) (hdb : (tn == ("__debug__" : Str)) = false := by decide)
    (he : starEach (a :: [.Name tn q]) X.env = (false, eval a X.env) :: starEach [.Name tn q] X.env := by rfl) (he2 : starEach [.Name tn q] X.env = [(false, eval (.Name tn q) X.env)] := by rfl) (hpl : (backTo pos (starEach [.Name tn q] X.env)).any (·.1) = false := by rfl) :
    PE X (.Call (.Name "isinstance" p) [a, .Name tn q] [] pos) (rd K0 c (xB (gIsi T) (vCons ya vNil))) :=
  pe_imp (pe_callB call_isi hg hm (by decide +kernel) (pa_cons ha (pa_cons (pe_bltn (v := .ty T) hgt hmt hbt rfl hn hdb) pa_nil he2) he) (by decide) (by decide) he hpl) fun σ H Q h => by
    refine rdG_mono (fun v H1 q => ?_) (rdV_one (rdB_ops (bok_isi (K := X.K) hT) h))
    obtain ⟨x, e, z⟩ := q
    cases e
    exact z
def rI2 (K : PySem.W.Frag) (T U : String) : List V → Hp → VK → Prop := fun xs H Q => ∃ x, xs = [x] ∧ ∀ p, H p = none → rIsiT K [x, .ref p] (upd H p (.tup [.ty T, .ty U])) Q
theorem vw_mono {O O' : OS} {H H' : Hp} {v : V} {d : PyData} (a : Alc H H' O O') (h : Vw K0 O H v d) : Vw K0 O' H' v d := by
  rcases h with h | ⟨p, vs, xs, e1, e2, h1, h2⟩
  · exact .inl (dp_mono a.hid h)
  · exact .inr ⟨p, vs, xs, e1, e2, a.same _ _ h1, dpAll_mono a.hid h2⟩
theorem bok_isi2 {K : PySem.W.Frag} {T U : String} (hT : T ∈ ["list", "tuple", "str", "bool", "int"]) (hU : U ∈ ["list", "tuple", "str", "bool", "int"]) : BOk K0 (rI2 K T U) (gIsi2 T U) := fun O H vs ds rs Q hO hv hg k => by
  unfold gIsi2 at hg
  split at hg
  · rename_i d
    cases hg
    obtain ⟨v, rfl, h1⟩ := vws_one hv
    refine ⟨v, rfl, fun p hp => ?_⟩
    have al : Alc H (upd H p (.tup [.ty T, .ty U])) O O := Alc.data hp
    refine ⟨v, p, [.ty T, .ty U], _, [.type T, .type U], isT d T || isT d U, rfl, upd_same, .cons (.ty T) (.cons (.ty U) .nil), ty_of (vw_mono al h1), ?_, k _ _ O al (.bl _)⟩
    refine kitAny_cons (kit_isT K d T hT) (fun e => ?_) (fun e => by rw [e]; rfl)
    refine kitAny_cons (kit_isT K d U hU) (fun e2 => ?_) (fun e2 => by rw [e2, Bool.or_true])
    rw [e, e2]; exact kitAny_nil
  · cases hg
theorem de_isi2 {T U : String} {tn un : Str} {kk : Nat} {p q q2 tp pos : Pos} (hT : T ∈ ["list", "tuple", "str", "bool", "int"]) (hU : U ∈ ["list", "tuple", "str", "bool", "int"]) (hm : X.mg "isinstance" = none) (hmt : X.mg tn = none) (hmu : X.mg un = none) (hbt : bootBuiltins tn = some (.type T)) (hbu : bootBuiltins un = some (.type U)) (ha : PE X a (rdV K0 c ya))
    (hg : Gl X "isinstance" := by rfl) (hgt : Gl X tn := by rfl) (hgu : Gl X un := by rfl) (hn : tn ≠ "__name__" := by decide) (hdb : (tn == ("__debug__" : Str)) = false := by decide) (hn2 : un ≠ "__name__" := by decide) (hdb2 : (un == ("__debug__" : Str)) = false := by decide)
    (he : starEach (a :: [.Tuple [.Name tn q, .Name un q2] kk tp]) X.env = (false, eval a X.env) :: starEach [.Tuple [.Name tn q, .Name un q2] kk tp] X.env := by rfl) (he2 : starEach [.Tuple [.Name tn q, .Name un q2] kk tp] X.env = [(false, eval (.Tuple [.Name tn q, .Name un q2] kk tp) X.env)] := by rfl)
    (hpl : (backTo pos (starEach [.Tuple [.Name tn q, .Name un q2] kk tp] X.env)).any (·.1) = false := by rfl) :
    PE X (.Call (.Name "isinstance" p) [a, .Tuple [.Name tn q, .Name un q2] kk tp] [] pos) (rd K0 c (xB (gIsi2 T U) (vCons ya vNil))) :=
  pe_imp (pe_callB call_isiT hg hm (by decide +kernel) (pa_cons ha (pa_cons (pe_tup (pa_cons (pe_bltn (v := .ty T) hgt hmt hbt rfl hn hdb) (pa_cons (pe_bltn (v := .ty U) hgu hmu hbu rfl hn2 hdb2) pa_nil))) pa_nil he2) he) (by decide) (by decide) he hpl) fun σ H Q h => by
    refine rdG_mono (fun v H1 q => ?_) (rdV_one (rdB_ops (bok_isi2 (K := X.K) hT hU) h))
    obtain ⟨x, e, z⟩ := q
    cases e
    exact ⟨by show 2 ≤ sizeLine; decide, fun p hp => z p hp⟩
end

/-! ### slices -/
def cutD {α : Type} (xs : List α) (lo hi : Option Int) : List α := (xs.drop (HT.sIx xs.length 0 lo)).take (HT.sIx xs.length xs.length hi - HT.sIx xs.length 0 lo)
def gSl (lo hi : Option Int) : PyData → Option Rs
  | .list xs => some (.new (cutD xs lo hi))
  | .tuple xs => some (.dt (.tuple (cutD xs lo hi)))
  | .str z => if z.length ≤ sizeLine then some (.dt (.str (cutS z lo hi))) else none
  | _ => none
def rSlD (K : PySem.W.Frag) : V → Option Int → Option Int → Hp → VK → Prop := fun x lo hi H Q => rSlL K x lo hi H Q ∨ (rSlA K x lo hi H Q ∨ rSlS x lo hi H Q)
theorem sl_D {X : Cx} : SlR X (rSlD X.K) := SlR.or sl_list (SlR.or sl_tupA sl_str)
theorem cut_dp {H : Hp} {vs : List V} {ds : List PyData} (h : DpAll K0 H vs ds) (lo hi : Option Int) : DpAll K0 H (cutV vs lo hi) (cutD ds lo hi) := by
  unfold cutV cutD
  rw [dpAll_len h]
  exact dpAll_take _ (dpAll_drop _ h)
theorem sl_ok {K : PySem.W.Frag} {O : OS} {H : Hp} {v : V} {d : PyData} {lo hi : Option Int} {rs : Rs} {Q : VK} (hO : ∀ a, O a = true → H a ≠ none) (h : Vw K0 O H v d) (hg : gSl lo hi d = some rs) (k : ∀ v H' O', Alc H H' O O' → RsN K0 H H' O' v rs → Q v H') : rSlD K v lo hi H Q := by
  unfold gSl at hg
  split at hg
  · cases hg
    obtain ⟨a, xs, rfl, s, dd⟩ := vw_list h
    exact .inl ⟨a, xs, rfl, sqL1 s, fun p hp => k _ _ _ (Alc.new hp) (lst_new hp (cut_dp dd lo hi))⟩
  · cases hg
    have t := vw_tupD h
    obtain ⟨a, xs, rfl, s, dd⟩ := vw_tuple h
    refine .inr (.inl ⟨a, xs, rfl, sqT1 s, fun e => ?_, fun _ p hp => k _ _ _ (Alc.data hp) (tup_new hO hp (cut_dp dd lo hi))⟩)
    refine k _ _ O .refl ?_
    rename_i ds
    have : cutD ds lo hi = ds := by
      unfold cutD
      rw [← dpAll_len dd, e.1, e.2, List.drop_zero, Nat.sub_zero, dpAll_len dd, List.take_length]
    show Dp K0 _ _ (.tuple (cutD ds lo hi))
    rw [this]; exact t
  · obtain ⟨hl, rfl⟩ := ite_some hg
    exact .inr (.inr ⟨_, vw_str h, hl, k _ _ O .refl (.str _)⟩)
  · cases hg
/-- the parts of a slice are numbers -/
def RI : L2.St → Hp → En → Hp → OS → V → Int → Prop := fun _ _ _ _ _ v i => v = .int i
theorem mn_I {σ : L2.St} : Mn (RI σ) := fun _ _ _ _ _ _ _ _ h => h
def asI : PyData → Option Int
  | .int i => some i
  | _ => none
def oI (x : Mo Rs) : Mo Int := bnd (eD x) fun d => lft (asI d)
def xSl (y : Mo Vd) (lo hi : Mo (Option Int)) : Mo Rs := bnd y fun a => bnd lo fun i => bnd hi fun j ρ => match rsl ρ a with
  | none => none
  | some d => match gSl i j d with
    | none => none
    | some r => some (.val r, ρ)
def sNo : Mo (Option Int) := ret none
def sAt (x : Mo Rs) : Mo (Option Int) := bnd (oI x) fun i => ret (some i)
def RO : L2.St → Hp → En → Hp → OS → Option Int → Option Int → Prop := fun _ _ _ _ _ v i => v = i
theorem mn_O {σ : L2.St} : Mn (RO σ) := fun _ _ _ _ _ _ _ _ h => h
section
variable {X : Cx} {c : Ct} {a l u : Expr} {ya : Mo Vd} {xl xu : Mo Rs} {lo hi : Option Expr} {sl sh : Mo (Option Int)} {p2 pos : Pos}
theorem pe_oI (h : PE X a (rd K0 c xl)) : PE X a (rdG K0 c RI (oI xl)) := pe_imp (pe_eD h) fun σ H Q ⟨O, ρ, L, q⟩ => ⟨O, ρ, L, by
  refine PostG.bind mn_I L q fun d ρ1 v H1 O1 _ s L1 q1 _ k => ?_
  cases d with
  | int i => exact k v H1 O1 s L1 (dp_int q1)
  | _ => exact k.elim⟩
theorem po_imp {e : Option Expr} {t t' : TO} (h : PO X e t) (i : ∀ σ H Q, t' σ H Q → t σ H Q) : PO X e t' := by
  obtain ⟨f⟩ := h
  exact ⟨fun pins s σ H Q I q => f pins s σ H Q I (i σ H Q q)⟩
theorem sl_no : PO X none (rdG K0 c RO sNo) := po_imp po_none fun σ H Q ⟨O, ρ, L, q⟩ => q.at L rfl
theorem sl_at (h : PE X l (rd K0 c xl)) : PO X (some l) (rdG K0 c RO (sAt xl)) := po_imp (po_some (pe_oI h)) fun σ H Q ⟨O, ρ, L, q⟩ => ⟨O, ρ, L, by
  refine PostG.bind mn_O L q fun i ρ1 v H1 O1 _ s L1 q1 _ k => ?_
  exact ⟨i, q1, k _ H1 O1 s L1 rfl⟩⟩
theorem de_sl (ha : PE X a (rdV K0 c ya)) (hl : PO X lo (rdG K0 c RO sl)) (hu : PO X hi (rdG K0 c RO sh)) : PE X (.Subscript a (.Slice lo hi none p2) pos) (rd K0 c (xSl ya sl sh)) :=
  pe_imp (pe_slice sl_D ha hl hu) fun σ H Q ⟨O, ρ, L, q⟩ => ⟨O, ρ, L, by
    refine PostG.bind mn_R L q fun va ρ1 v H1 O1 _ s L1 q1 k _ => ⟨O1, ρ1, L1, ?_⟩
    refine PostG.bind mn_R L1 k fun i ρ2 w H2 O2 _ s2 L2 q2 k2 _ => ⟨O2, ρ2, L2, ?_⟩
    refine PostG.bind mn_R L2 k2 fun j ρ3 z H3 O3 _ s3 L3 q3 k3 _ => ?_
    cases q2; cases q3
    have q5 : RV K0 σ H3 [] H3 O3 v va := rv_later (s3.same L2) (rv_later (H2 := H2) (ρ2 := []) (s2.same L1) q1)
    cases e : rsl ρ3 va with
    | none => simp only [e] at k3; exact k3.elim
    | some d =>
      cases e2 : gSl i j d with
      | none => simp only [e, e2] at k3; exact k3.elim
      | some r =>
        simp only [e, e2] at k3
        exact sl_ok L3.dom (rsl_ok L3 q5 e) e2 fun v H' O' al h => k3 v H' O' al.stp (al.rel L3) (h.ok L3)⟩
end

/-! ### displays -/
def dts : List Vd → Option (List PyData)
  | [] => some []
  | .dt d :: r => match dts r with
    | some ds => some (d :: ds)
    | none => none
  | .pl _ :: _ => none
theorem dts_ok {σ : L2.St} {H : Hp} {O : OS} : ∀ {as : List Vd} {vs : List V} {ds : List PyData}, RVl K0 σ H O vs as → dts as = some ds → DpAll K0 (hid O H) vs ds
  | [], _, _, .nil, e => by cases e; exact .nil
  | .dt d :: r, _, _, .cons a b, e => by
    unfold dts at e
    split at e
    · rename_i h; cases e; exact .cons a (dts_ok b h)
    · cases e
  | .pl _ :: _, _, _, _, e => by cases e
def xDsp (mk : List PyData → Rs) (ys : Mo (List Vd)) : Mo Rs := bnd ys fun as => match dts as with
  | some ds => if ds.length ≤ sizeLine then ret (mk ds) else lft none
  | none => lft none
def xTup (ys : Mo (List Vd)) : Mo Rs := xDsp (fun ds => .dt (.tuple ds)) ys
def xLst (ys : Mo (List Vd)) : Mo Rs := xDsp (fun ds => .new ds) ys
section
variable {X : Cx} {c : Ct} {es : List Expr} {ys : Mo (List Vd)} {pos : Pos}
theorem post_dsp {mk : List PyData → Rs} {ob : List V → HO} {fO : OS → Addr → OS} {O : OS} {σ : L2.St} {H : Hp} {ρ : En} {Q : VK} (L : Rel K0 c O σ H ρ) (q : PostG K0 c O σ H ρ (RR K0 c σ) Q (xDsp mk ys ρ))
    (f : ∀ (O : OS) (H : Hp) (p : Addr) (vs : List V) (ds : List PyData), (∀ a, O a = true → H a ≠ none) → H p = none → DpAll K0 (hid O H) vs ds → Alc H (upd H p (ob vs)) O (fO O p) ∧ RsN K0 H (upd H p (ob vs)) (fO O p) (.ref p) (mk ds)) :
    PostG K0 c O σ H ρ (RVs K0 σ) (fun xs H1 => xs.length ≤ sizeLine ∧ ∀ p, H1 p = none → Q (.ref p) (upd H1 p (ob xs))) (ys ρ) := by
  refine PostG.bind mn_R L q fun as ρ1 vs H1 O1 _ s L1 q1 k _ => ?_
  cases e : dts as with
  | none => simp only [e] at k; exact k.elim
  | some ds =>
    have hd := dts_ok q1 e
    by_cases hl : ds.length ≤ sizeLine
    · simp only [e, if_pos hl] at k
      refine ⟨by rw [dpAll_len hd]; exact hl, fun p hp => ?_⟩
      obtain ⟨al, rn⟩ := f O1 H1 p vs ds L1.dom hp hd
      exact k _ _ _ al.stp (al.rel L1) (rn.ok L1)
    · simp only [e, if_neg hl] at k; exact k.elim
theorem de_tup {kk : Nat} (h : PA X es (rdVs K0 c ys)) : PE X (.Tuple es kk pos) (rd K0 c (xTup ys)) := pe_imp (pe_tup h) fun σ H Q ⟨O, ρ, L, q⟩ =>
  ⟨O, ρ, L, post_dsp (fO := fun O _ => O) L q fun O H p vs ds hO hp hd => ⟨Alc.data hp, tup_new hO hp hd⟩⟩
theorem de_lst (h : PA X es (rdVs K0 c ys)) : PE X (.List es pos) (rd K0 c (xLst ys)) := pe_imp (pe_lst h) fun σ H Q ⟨O, ρ, L, q⟩ =>
  ⟨O, ρ, L, post_dsp (fO := fun O p => ins O p) L q fun O H p vs ds hO hp hd => ⟨Alc.new hp, lst_new hp hd⟩⟩
end

/-! ### tests -/
def RB : L2.St → Hp → En → Hp → OS → Bool → Bool → Prop := fun _ _ _ _ _ v i => v = i
theorem mn_B {σ : L2.St} : Mn (RB σ) := fun _ _ _ _ _ _ _ _ h => h
abbrev rdB (c : Ct) (x : Mo Bool) : TT := rdG K0 c RB x
def truD : PyData → Option Bool
  | .none => some false
  | .bool b => some b
  | .int i => some (i != 0)
  | .str y => if y.length ≤ sizeLine then some ((y.length : Int) != 0) else none
  | .list xs => some (!xs.isEmpty)
  | .tuple xs => some (!xs.isEmpty)
  | .dict _ => none
def truR : Rs → Option Bool
  | .dt d => truD d
  | .new xs => some (!xs.isEmpty)
  | .newd kvs => some (!kvs.isEmpty)
theorem isEmpty_len {α β : Type} {xs : List α} {ys : List β} (h : xs.length = ys.length) : (!xs.isEmpty) = !ys.isEmpty := by
  cases xs <;> cases ys <;> first | rfl | (simp at h)
theorem tru_ok1 {K : PySem.W.Frag} {O : OS} {H : Hp} {v : V} {d : PyData} {b : Bool} (h : Vw K0 O H v d) (e : truD d = some b) : TruV K v H b := by
  cases d with
  | none => cases e; have := vw_none h; subst v; rfl
  | bool k => cases e; have := vw_bool h; subst v; rfl
  | int k => cases e; have := vw_int h; subst v; rfl
  | str k =>
    obtain ⟨hl, rfl⟩ := ite_some e
    have := vw_str h; subst v
    exact ⟨hl, rfl⟩
  | list xs =>
    cases e
    obtain ⟨a, vs, rfl, s, dd⟩ := vw_list h
    exact .inl ⟨vs, sqL1 s, isEmpty_len (dpAll_len dd).symm⟩
  | tuple xs =>
    cases e
    obtain ⟨a, vs, rfl, s, dd⟩ := vw_tuple h
    exact .inr (.inl ⟨vs, sqT1 s, isEmpty_len (dpAll_len dd).symm⟩)
  | dict _ => cases e
theorem tru_ok2 {K : PySem.W.Frag} {c : Ct} {σ : L2.St} {H H' : Hp} {ρ : En} {O : OS} {v : V} {r : Rs} {b : Bool} (h : RsOk K0 c σ H ρ H' O v r) (e : truR r = some b) : TruV K v H' b := by
  cases r with
  | dt d => exact tru_ok1 (.inl h) e
  | new xs =>
    cases e
    obtain ⟨p, vs, rfl, _, _, _, hh, dd⟩ := h
    exact .inl ⟨vs, .inl (.inl hh), isEmpty_len (dpAll_len dd).symm⟩
  | newd xs =>
    cases e
    obtain ⟨p, vs, rfl, _, _, _, hh, dd⟩ := h
    refine .inr (.inr ⟨vs, hh, isEmpty_len ?_⟩)
    have := congrArg List.length dd.1
    simpa using this.symm
def xTru (y : Mo Vd) : Mo Bool := bnd y fun a ρ => match rsl ρ a with
  | none => none
  | some d => match truD d with
    | none => none
    | some b => some (.val b, ρ)
def isB : Rs → Option Bool
  | .dt (.bool b) => some b
  | _ => none
def xTst (x : Mo Rs) : Mo Bool := bnd x fun r => lft (isB r)
def xAnd (x y : Mo Bool) : Mo Bool := bnd x fun b => if b = true then y else ret false
def xOr (x y : Mo Bool) : Mo Bool := bnd x fun b => if b = true then ret true else y
def xNot (x : Mo Bool) : Mo Bool := bnd x fun b => ret (!b)
def xIf {α : Type} (t : Mo Bool) (x y : Mo α) : Mo α := bnd t fun b => if b = true then x else y
def xOrV (x y : Mo Rs) : Mo Rs := bnd x fun r => match truR r with
  | some true => ret r
  | some false => y
  | none => lft none
def xAndV (x y : Mo Rs) : Mo Rs := bnd x fun r => match truR r with
  | some true => y
  | some false => ret r
  | none => lft none
def xNotV (y : Mo Vd) : Mo Rs := bnd (xTru y) fun b => ret (.dt (.bool (!b)))
section
variable {X : Cx} {c : Ct} {a b e : Expr} {rest : List Expr} {y : Mo Vd} {x x' : Mo Rs} {t t' : Mo Bool} {pos : Pos}
theorem post_tru {K : PySem.W.Frag} {O : OS} {σ : L2.St} {H : Hp} {ρ : En} {Q : Bool → Hp → Prop} (L : Rel K0 c O σ H ρ) (q : PostG K0 c O σ H ρ (RB σ) Q (xTru y ρ)) : PostG K0 c O σ H ρ (RV K0 σ) (fun x H1 => ∃ k, TruV K x H1 k ∧ Q k H1) (y ρ) := by
  refine PostG.bind mn_B L q fun va ρ1 v H1 O1 _ s L1 q1 k _ => ?_
  cases e : rsl ρ1 va with
  | none => simp only [e] at k; exact k.elim
  | some d =>
    cases e2 : truD d with
    | none => simp only [e, e2] at k; exact k.elim
    | some bb =>
      simp only [e, e2] at k
      exact ⟨bb, tru_ok1 (rsl_ok L1 q1 e) e2, k.at L1 rfl⟩
theorem dt_tru (h : PE X e (rdV K0 c y)) (he : ∀ whole, isTrue e X.env whole = (do let v ← whole; standAt e.pos; holding [v] (truthy v)) := by intro _; rfl) : PT X e (rdB c (xTru y)) :=
  pt_imp (pt_truth h he) fun σ H Q ⟨O, ρ, L, q⟩ => ⟨O, ρ, L, post_tru L q⟩
theorem dt_cmp {op : CmpOp} {r : R2} {g : List PyData → Option Rs} {ya yb : Mo Vd} (ho : OpR X (compareOp op) r) (hb : BOk K0 (l2 r) g) (ha : PE X a (rdV K0 c ya)) (hb2 : PE X b (rdV K0 c yb)) (hm : behindInMarks op b = false := by first | exact nomark _ | rfl) :
    PT X (.Compare a [op] [b] pos) (rdB c (xTst (xB g (vCons ya (vCons yb vNil))))) := pt_imp (pt_cmpR ho ha hb2 hm) fun σ H Q ⟨O, ρ, L, q⟩ => two hb ⟨O, ρ, L, by
    refine PostG.bind mn_B L q fun r ρ1 v H1 O1 _ s L1 q1 _ k => ?_
    match r, q1, k with
    | .dt (.bool bb), q1, k => exact ⟨bb, dp_bool q1, k bb H1 O1 s L1 rfl⟩
    | .dt .none, _, k => exact k.elim
    | .dt (.int _), _, k => exact k.elim
    | .dt (.str _), _, k => exact k.elim
    | .dt (.list _), _, k => exact k.elim
    | .dt (.tuple _), _, k => exact k.elim
    | .dt (.dict _), _, k => exact k.elim
    | .new _, _, k => exact k.elim
    | .newd _, _, k => exact k.elim⟩
theorem dt_not (h : PT X a (rdB c t)) : PT X (.UnaryOp .Not a pos) (rdB c (xNot t)) := pt_imp (pt_not h) fun σ H Q ⟨O, ρ, L, q⟩ => ⟨O, ρ, L, by
  refine PostG.bind mn_B L q fun bb ρ1 v H1 O1 _ s L1 q1 _ k => ?_
  cases q1
  exact k _ H1 O1 s L1 rfl⟩
theorem pw_imp {t t' : TT} (h : PW X e t) (i : ∀ σ H Q, t' σ H Q → t σ H Q) : PW X e t' := ⟨fun whole pins s σ H Q I q => h.run whole pins s σ H Q I (i σ H Q q)⟩
theorem dw_and1 (h : PT X a (rdB c t)) : PW X (.BoolOp .And [a] pos) (rdB c t) := pw_and1 h
theorem dw_or1 (h : PT X a (rdB c t)) : PW X (.BoolOp .Or [a] pos) (rdB c t) := pw_or1 h
theorem dw_and (h : PT X a (rdB c t)) (h' : PW X (.BoolOp .And (b :: rest) pos) (rdB c t')) : PW X (.BoolOp .And (a :: b :: rest) pos) (rdB c (xAnd t t')) := pw_imp (pw_and h h') fun σ H Q ⟨O, ρ, L, q⟩ => ⟨O, ρ, L, by
  refine PostG.bind mn_B L q fun bb ρ1 v H1 O1 _ s L1 q1 k _ => ?_
  cases q1
  cases bb with
  | true => rw [if_pos rfl]; rw [if_pos rfl] at k; exact ⟨O1, ρ1, L1, k⟩
  | false => rw [if_neg (by decide)]; rw [if_neg (by decide)] at k; exact k.at L1 rfl⟩
theorem dw_or (h : PT X a (rdB c t)) (h' : PW X (.BoolOp .Or (b :: rest) pos) (rdB c t')) : PW X (.BoolOp .Or (a :: b :: rest) pos) (rdB c (xOr t t')) := pw_imp (pw_or h h') fun σ H Q ⟨O, ρ, L, q⟩ => ⟨O, ρ, L, by
  refine PostG.bind mn_B L q fun bb ρ1 v H1 O1 _ s L1 q1 k _ => ?_
  cases q1
  cases bb with
  | true => rw [if_pos rfl]; rw [if_pos rfl] at k; exact k.at L1 rfl
  | false => rw [if_neg (by decide)]; rw [if_neg (by decide)] at k; exact ⟨O1, ρ1, L1, k⟩⟩
theorem de_if (h : PT X e (rdB c t)) (ha : PE X a (rd K0 c x)) (hb : PE X b (rd K0 c x')) : PE X (.IfExp e a b pos) (rd K0 c (xIf t x x')) := pe_imp (pe_ifExp h ha hb) fun σ H Q ⟨O, ρ, L, q⟩ => ⟨O, ρ, L, by
  refine PostG.bind mn_R L q fun bb ρ1 v H1 O1 _ s L1 q1 k _ => ?_
  cases q1
  cases bb with
  | true => rw [if_pos rfl]; rw [if_pos rfl] at k; exact ⟨O1, ρ1, L1, k⟩
  | false => rw [if_neg (by decide)]; rw [if_neg (by decide)] at k; exact ⟨O1, ρ1, L1, k⟩⟩
theorem de_one {op : BoolOp} (h : PE X a (rd K0 c x)) : PE X (.BoolOp op [a] pos) (rd K0 c x) := pe_one h
theorem de_orV (h : PE X a (rd K0 c x)) (h' : PE X (.BoolOp .Or (b :: rest) pos) (rd K0 c x')) : PE X (.BoolOp .Or (a :: b :: rest) pos) (rd K0 c (xOrV x x')) := pe_imp (pe_orT h h') fun σ H Q ⟨O, ρ, L, q⟩ => ⟨O, ρ, L, by
  refine PostG.bind mn_R L q fun r ρ1 v H1 O1 _ s L1 q1 k k' => ?_
  cases e : truR r with
  | none => simp only [e] at k; exact k.elim
  | some bb =>
    refine ⟨bb, tru_ok2 q1 e, ?_⟩
    cases bb with
    | true => rw [if_pos rfl]; simp only [e] at k'; exact k' v H1 O1 s L1 q1
    | false => rw [if_neg (by decide)]; simp only [e] at k; exact ⟨O1, ρ1, L1, k⟩⟩
theorem de_andV (h : PE X a (rd K0 c x)) (h' : PE X (.BoolOp .And (b :: rest) pos) (rd K0 c x')) : PE X (.BoolOp .And (a :: b :: rest) pos) (rd K0 c (xAndV x x')) := pe_imp (pe_andT h h') fun σ H Q ⟨O, ρ, L, q⟩ => ⟨O, ρ, L, by
  refine PostG.bind mn_R L q fun r ρ1 v H1 O1 _ s L1 q1 k k' => ?_
  cases e : truR r with
  | none => simp only [e] at k; exact k.elim
  | some bb =>
    refine ⟨bb, tru_ok2 q1 e, ?_⟩
    cases bb with
    | true => rw [if_pos rfl]; simp only [e] at k; exact ⟨O1, ρ1, L1, k⟩
    | false => rw [if_neg (by decide)]; simp only [e] at k'; exact k' v H1 O1 s L1 q1⟩
theorem de_notV (h : PE X a (rdV K0 c y)) : PE X (.UnaryOp .Not a pos) (rd K0 c (xNotV y)) := pe_imp (pe_notT h) fun σ H Q ⟨O, ρ, L, q⟩ => ⟨O, ρ, L, by
  have z : PostG K0 c O σ H ρ (RB σ) (fun b H1 => Q (.bl (!b)) H1) (xTru y ρ) := PostG.bind mn_R L q fun bb ρ1 v H1 O1 _ s L1 q1 _ k => by
    cases q1
    exact k _ H1 O1 s L1 (.bl _)
  exact post_tru L z⟩
end
end Dl
end

section
set_option Elab.async false
set_option linter.all false
set_option maxRecDepth 100000
namespace Dl
open PySem PySem.Spec PyProof.Rows L2

/-! ### what a value is, in a state -/
def RtOk (c : Ct) (σ : L2.St) (ρ : En) (H : Hp) (O : OS) (v : V) : Rs → Prop
  | .dt d => Dp K0 (hid O H) v d
  | .new xs => ∃ p vs, v = .ref p ∧ c.H0 p = none ∧ O p = true ∧ ¬ Own σ ρ p ∧ H p = some (.lst vs) ∧ DpAll K0 (hid O H) vs xs
  | .newd kvs => ∃ p ws, v = .ref p ∧ c.H0 p = none ∧ O p = true ∧ ¬ Own σ ρ p ∧ H p = some (.dK ws) ∧ DKs K0 (hid O H) ws kvs
theorem RsOk.rt {c : Ct} {O : OS} {σ : L2.St} {H H' : Hp} {ρ ρ' : En} {O' : OS} {v : V} {r : Rs} (L : Rel K0 c O σ H ρ) (h : RsOk K0 c σ H ρ' H' O' v r) : RtOk c σ ρ' H' O' v r := by
  cases r with
  | dt d => exact h
  | new xs => obtain ⟨p, vs, e, n, q⟩ := h; exact ⟨p, vs, e, h0_of L n, q⟩
  | newd xs => obtain ⟨p, vs, e, n, q⟩ := h; exact ⟨p, vs, e, h0_of L n, q⟩
def slotOf : Rs → Sl
  | .dt d => .dat d
  | .new xs => .own xs
  | .newd kvs => .dct kvs
theorem slotOf_fixed (r : Rs) : (slotOf r).fixed = false := by cases r <;> rfl
/-- it stands while nobody else owns it -/
theorem keep_one {c : Ct} {σ σ' : L2.St} {ρ ρ' : En} {H H' : Hp} {O O' : OS} (s : Stp σ σ' ρ ρ' H H' O O') {p : Addr} {o : HO} (ho : O p = true) (hn : ¬ Own σ ρ p) (hh : H p = some o) : O' p = true ∧ ¬ Own σ' ρ' p ∧ H' p = some o := by
  refine ⟨(s.keep p ho).resolve_left hn, fun z => ?_, s.fr p o hh hn⟩
  rcases s.own p z with q | q
  · exact hn q
  · rw [hh] at q; cases q
theorem RtOk.later {c : Ct} {σ σ' : L2.St} {ρ ρ' : En} {H H' : Hp} {O O' : OS} {v : V} {r : Rs} (L : Rel K0 c O σ H ρ) (s : Stp σ σ' ρ ρ' H H' O O') (h : RtOk c σ ρ H O v r) : RtOk c σ' ρ' H' O' v r := by
  cases r with
  | dt d => exact dp_mono (s.same L) h
  | new xs =>
    obtain ⟨p, vs, e, n, o, nn, hh, d⟩ := h
    obtain ⟨a1, a2, a3⟩ := keep_one (c := c) s o nn hh
    exact ⟨p, vs, e, n, a1, a2, a3, dpAll_mono (s.same L) d⟩
  | newd xs =>
    obtain ⟨p, vs, e, n, o, nn, hh, d⟩ := h
    obtain ⟨a1, a2, a3⟩ := keep_one (c := c) s o nn hh
    exact ⟨p, vs, e, n, a1, a2, a3, dKs_mono (s.same L) d⟩
theorem get_set {α : Type} {l : List α} {i j : Nat} {a b : α} (h : (l.set i a)[j]? = some b) : (j = i ∧ b = a) ∨ (j ≠ i ∧ l[j]? = some b) := by
  rw [List.getElem?_set] at h
  split at h
  · rename_i e
    split at h
    · cases h; exact .inl ⟨e.symm, rfl⟩
    · cases h
  · rename_i e; exact .inr ⟨fun z => e z.symm, h⟩
theorem RtOk.own {c : Ct} {σ : L2.St} {ρ : En} {H : Hp} {O : OS} {v : V} {r : Rs} (h : RtOk c σ ρ H O v r) {a : Addr} (e : v = .ref a) (o : (slotOf r).isOwn = true) : ¬ Own σ ρ a ∧ H a ≠ none := by
  cases r with
  | dt d => cases o
  | new xs => obtain ⟨p, vs, e1, _, _, n, hh, _⟩ := h; rw [e] at e1; cases e1; exact ⟨n, by rw [hh]; exact fun z => nomatch z⟩
  | newd xs => obtain ⟨p, vs, e1, _, _, n, hh, _⟩ := h; rw [e] at e1; cases e1; exact ⟨n, by rw [hh]; exact fun z => nomatch z⟩
theorem RtOk.slot {c : Ct} {σ : L2.St} {ρ : En} {H : Hp} {O : OS} {v : V} {r : Rs} (h : RtOk c σ ρ H O v r) : SlOk K0 c O H (some v) (slotOf r) := by
  cases r with
  | dt d => exact ⟨v, rfl, h⟩
  | new xs => obtain ⟨p, vs, rfl, h0, o, _, hh, d⟩ := h; exact ⟨p, vs, rfl, h0, o, hh, d⟩
  | newd xs => obtain ⟨p, vs, rfl, h0, o, _, hh, d⟩ := h; exact ⟨p, vs, rfl, h0, o, hh, d⟩
theorem store_rel {c : Ct} {σ : L2.St} {ρ : En} {H : Hp} {O : OS} {v : V} {r : Rs} (i : Nat) (L : Rel K0 c O σ H ρ) (h : RtOk c σ ρ H O v r) : Rel K0 c O (σ.set i (some v)) H (ρ.set i (slotOf r)) where
  len := by rw [List.length_set, List.length_set]; exact L.len
  low := L.low
  dom0 := L.dom0
  o0 := L.o0
  dom := L.dom
  sl := fun j w s h1 h2 => by
    rcases get_set h1 with ⟨e, rfl⟩ | ⟨e, g⟩
    · rcases get_set h2 with ⟨_, rfl⟩ | ⟨n, _⟩
      · exact h.slot
      · exact absurd e n
    · rcases get_set h2 with ⟨z, _⟩ | ⟨_, g2⟩
      · exact absurd z e
      · exact L.sl j w s g g2
  inj := fun j k a s t h1 h2 h3 h4 h5 h6 => by
    rcases get_set h1 with ⟨e1, q1⟩ | ⟨e1, q1⟩
    · rcases get_set h2 with ⟨e2, q2⟩ | ⟨e2, q2⟩
      · rw [e1, e2]
      · rcases get_set h3 with ⟨_, rfl⟩ | ⟨n, _⟩
        · rcases get_set h4 with ⟨n, _⟩ | ⟨_, g4⟩
          · exact absurd n e2
          · exact absurd ⟨k, t, q2, g4, h6⟩ (h.own (Option.some.inj q1).symm h5).1
        · exact absurd e1 n
    · rcases get_set h3 with ⟨n, _⟩ | ⟨_, g3⟩
      · exact absurd n e1
      · rcases get_set h2 with ⟨e2, q2⟩ | ⟨e2, q2⟩
        · rcases get_set h4 with ⟨_, rfl⟩ | ⟨n, _⟩
          · exact absurd ⟨j, s, q1, g3, h5⟩ (h.own (Option.some.inj q2).symm h6).1
          · exact absurd e2 n
        · rcases get_set h4 with ⟨n, _⟩ | ⟨_, g4⟩
          · exact absurd n e2
          · exact L.inj j k a s t q1 q2 g3 g4 h5 h6
theorem store_stp {σ0 σ : L2.St} {ρ0 ρ : En} {H0 H : Hp} {O0 O : OS} {v : V} {r : Rs} (i : Nat) (s : Stp σ0 σ ρ0 ρ H0 H O0 O) (hp : ∀ a, v = .ref a → (slotOf r).isOwn = true → H0 a = none) : Stp σ0 (σ.set i (some v)) ρ0 (ρ.set i (slotOf r)) H0 H O0 O where
  dom := s.dom
  fr := s.fr
  sub := s.sub
  own := fun a h => by
    obtain ⟨j, t, h1, h2, h3⟩ := h
    rcases get_set h1 with ⟨e1, q1⟩ | ⟨e1, q1⟩
    · rcases get_set h2 with ⟨_, rfl⟩ | ⟨n, _⟩
      · exact .inr (hp a (Option.some.inj q1).symm h3)
      · exact absurd e1 n
    · rcases get_set h2 with ⟨n, _⟩ | ⟨_, g2⟩
      · exact absurd n e1
      · exact s.own a ⟨j, t, q1, g2, h3⟩
  keep := s.keep
  fix := fun j t h f => by
    rcases get_set h with ⟨_, rfl⟩ | ⟨n, g⟩
    · rw [slotOf_fixed] at f; cases f
    · obtain ⟨u, q1, q2, q3, q4⟩ := s.fix j t g f
      exact ⟨u, q1, q2, by rw [List.getElem?_set_ne n.symm]; exact q3, q4⟩
theorem RsOk.new_none {c : Ct} {σ : L2.St} {H H' : Hp} {ρ' : En} {O' : OS} {v : V} {r : Rs} (h : RsOk K0 c σ H ρ' H' O' v r) {a : Addr} (e : v = .ref a) (o : (slotOf r).isOwn = true) : H a = none := by
  cases r with
  | dt d => cases o
  | new xs => obtain ⟨p, vs, e1, n, _⟩ := h; rw [e] at e1; cases e1; exact n
  | newd xs => obtain ⟨p, vs, e1, n, _⟩ := h; rw [e] at e1; cases e1; exact n

/-! ### statements -/
inductive Fl where
  | nx | rt (r : Rs) | bk | ct
def PostS (c : Ct) (D : Ends) (O : OS) (σ : L2.St) (H : Hp) (ρ : En) : Option (Out Fl × En) → Prop
  | none => False
  | some (.val .nx, ρ') => ∀ σ' H' O', Stp σ σ' ρ ρ' H H' O O' → Rel K0 c O' σ' H' ρ' → D.nx σ' H'
  | some (.val .bk, ρ') => ∀ σ' H' O', Stp σ σ' ρ ρ' H H' O O' → Rel K0 c O' σ' H' ρ' → D.bk σ' H'
  | some (.val .ct, ρ') => ∀ σ' H' O', Stp σ σ' ρ ρ' H H' O O' → Rel K0 c O' σ' H' ρ' → D.ct σ' H'
  | some (.val (.rt r), ρ') => ∀ v σ' H' O', Stp σ σ' ρ ρ' H H' O O' → Rel K0 c O' σ' H' ρ' → RtOk c σ' ρ' H' O' v r → D.rt v H'
  | some (.ex n fs, ρ') => ∀ dd σ' H' O', Stp σ σ' ρ ρ' H H' O O' → Rel K0 c O' σ' H' ρ' → ExOk K0 c H' O' dd fs → c.W (.ref (c.ce n)) (some dd) σ' H'
def rdS (c : Ct) (y : Mo Fl) : TS := fun D σ H => ∃ O ρ, Rel K0 c O σ H ρ ∧ PostS c D O σ H ρ (y ρ)
theorem PostS.later {c : Ct} {D : Ends} {O O1 : OS} {σ σ1 : L2.St} {H H1 : Hp} {ρ ρ1 : En} {r : Option (Out Fl × En)} (h : PostS c D O σ H ρ r) (L : Rel K0 c O σ H ρ) (s : Stp σ σ1 ρ ρ1 H H1 O O1) : PostS c D O1 σ1 H1 ρ1 r := by
  match r with
  | none => exact h
  | some (.val .nx, ρ2) => exact fun σ2 H2 O2 t L2 => h σ2 H2 O2 (s.trans L t) L2
  | some (.val .bk, ρ2) => exact fun σ2 H2 O2 t L2 => h σ2 H2 O2 (s.trans L t) L2
  | some (.val .ct, ρ2) => exact fun σ2 H2 O2 t L2 => h σ2 H2 O2 (s.trans L t) L2
  | some (.val (.rt r), ρ2) => exact fun v σ2 H2 O2 t L2 q => h v σ2 H2 O2 (s.trans L t) L2 q
  | some (.ex n fs, ρ2) => exact fun v σ2 H2 O2 t L2 q => h v σ2 H2 O2 (s.trans L t) L2 q
/-- an expression, then a statement's end -/
theorem PostS.bind {α β : Type} {c : Ct} {D : Ends} {O : OS} {σ : L2.St} {H : Hp} {ρ : En} {R : Hp → En → Hp → OS → β → α → Prop} {Q1 : β → Hp → Prop} {x : Mo α} {k : α → Mo Fl} (L : Rel K0 c O σ H ρ) (h : PostS c D O σ H ρ (bnd x k ρ))
    (f : ∀ a ρ1 v H1 O1, x ρ = some (.val a, ρ1) → Stp σ σ ρ ρ1 H H1 O O1 → Rel K0 c O1 σ H1 ρ1 → R H ρ1 H1 O1 v a → PostS c D O1 σ H1 ρ1 (k a ρ1) → PostS c D O σ H ρ (k a ρ1) → Q1 v H1) : PostG K0 c O σ H ρ R Q1 (x ρ) := by
  match e : x ρ with
  | none => rw [bnd_no e] at h; exact h
  | some (.val a, ρ1) =>
    rw [bnd_val e] at h
    exact fun v H1 O1 s L1 q => f a ρ1 v H1 O1 e s L1 q (h.later L s) h
  | some (.ex n fs, ρ1) =>
    rw [bnd_ex e] at h
    exact fun dd H1 O1 s L1 q => h dd σ H1 O1 s L1 q
def yPass : Mo Fl := ret .nx
def ySeq (y z : Mo Fl) : Mo Fl := fun ρ => match y ρ with
  | some (.val .nx, ρ') => z ρ'
  | o => o
def yExpr (x : Mo Rs) : Mo Fl := bnd x fun _ => ret .nx
def yRet (x : Mo Rs) : Mo Fl := bnd x fun r => ret (.rt r)
/-- return of a name: a list of one's own goes out as a new one -/
def yRetV (j : Nat) : Mo Fl := fun ρ => match ρ[j]? with
  | some (.dat d) => some (.val (.rt (.dt d)), ρ)
  | some (.own xs) => some (.val (.rt (.new xs)), ρ.set j .no)
  | some (.dct xs) => some (.val (.rt (.newd xs)), ρ.set j .no)
  | _ => none
def ySet (i : Nat) (x : Mo Rs) : Mo Fl := bnd x fun r ρ => some (.val .nx, ρ.set i (slotOf r))
def yIf (t : Mo Bool) (y z : Mo Fl) : Mo Fl := bnd t fun b => if b = true then y else z
section
variable {X : Cx} {c : Ct} {e a b : Expr} {st : Stmt} {sts : List Stmt} {x : Mo Rs} {y z : Mo Fl} {t : Mo Bool} {pos : Pos}
theorem ds_pass : PS X (.Pass pos) (rdS c yPass) := ps_imp ps_pass fun D σ H ⟨O, ρ, L, q⟩ => q σ H O .refl L
theorem ds_break : PS X (.Break pos) (rdS c (ret .bk)) := ps_imp ps_break fun D σ H ⟨O, ρ, L, q⟩ => q σ H O .refl L
theorem ds_cont : PS X (.Continue pos) (rdS c (ret .ct)) := ps_imp ps_continue fun D σ H ⟨O, ρ, L, q⟩ => q σ H O .refl L
theorem dss_nil : PSs X [] (rdS c yPass) := pss_imp pss_nil fun D σ H ⟨O, ρ, L, q⟩ => q σ H O .refl L
theorem dss_one (h : PS X st (rdS c y)) : PSs X [st] (rdS c y) := pss_one h
theorem dss_cons (h : PS X st (rdS c y)) (hs : PSs X sts (rdS c z)) : PSs X (st :: sts) (rdS c (ySeq y z)) := pss_imp (pss_cons h hs) fun D σ H ⟨O, ρ, L, q⟩ => ⟨O, ρ, L, by
  unfold ySeq at q
  match e : y ρ with
  | none => rw [e] at q; exact q
  | some (.val .nx, ρ1) =>
    rw [e] at q
    exact fun σ1 H1 O1 s L1 => ⟨O1, ρ1, L1, q.later L s⟩
  | some (.val .bk, ρ1) => rw [e] at q; exact q
  | some (.val .ct, ρ1) => rw [e] at q; exact q
  | some (.val (.rt r), ρ1) => rw [e] at q; exact q
  | some (.ex n fs, ρ1) => rw [e] at q; exact q⟩
theorem ds_expr (h : PE X e (rd K0 c x)) (hs : swapsWith e none pos.line X.env = pure false := by rfl) : PS X (.Expr e pos) (rdS c (yExpr x)) := ps_imp (ps_expr h hs) fun D σ H ⟨O, ρ, L, q⟩ => ⟨O, ρ, L, by
  refine PostS.bind L q fun r ρ1 v H1 O1 _ s L1 q1 _ k => ?_
  exact k σ H1 O1 s L1⟩
theorem ds_ret (h : PE X e (rd K0 c x)) : PS X (.Return (some e) pos) (rdS c (yRet x)) := ps_imp (ps_ret h) fun D σ H ⟨O, ρ, L, q⟩ => ⟨O, ρ, L, by
  refine PostS.bind L q fun r ρ1 v H1 O1 _ s L1 q1 _ k => ?_
  exact k v σ H1 O1 s L1 (q1.rt L)⟩
theorem set_no {σ : L2.St} {ρ : En} {H : Hp} {O : OS} (j : Nat) (L : Rel K0 c O σ H ρ) : Rel K0 c O σ H (ρ.set j .no) ∧ Stp σ σ ρ (ρ.set j .no) H H O O := by
  refine ⟨⟨by rw [List.length_set]; exact L.len, L.low, L.dom0, L.o0, L.dom, fun i w s h1 h2 => ?_, fun i k a s t h1 h2 h3 h4 h5 h6 => ?_⟩, ⟨fun _ h => h, fun _ _ h _ => h, fun _ h => .inl h, fun a h => ?_, fun _ h => .inr h, fun i s h f => ?_⟩⟩
  · rcases get_set h2 with ⟨_, rfl⟩ | ⟨_, g⟩
    · trivial
    · exact L.sl i w s h1 g
  · rcases get_set h3 with ⟨_, rfl⟩ | ⟨_, g3⟩
    · cases h5
    · rcases get_set h4 with ⟨_, rfl⟩ | ⟨_, g4⟩
      · cases h6
      · exact L.inj i k a s t h1 h2 g3 g4 h5 h6
  · obtain ⟨i, s, h1, h2, h3⟩ := h
    rcases get_set h2 with ⟨_, rfl⟩ | ⟨_, g⟩
    · cases h3
    · exact .inl ⟨i, s, h1, g, h3⟩
  · rcases get_set h with ⟨_, rfl⟩ | ⟨_, g⟩
    · cases f
    · exact ⟨s, g, f, rfl, Iff.rfl⟩
theorem no_own {σ : L2.St} {ρ : En} {H : Hp} {O : OS} {j : Nat} {s : Sl} {p : Addr} (L : Rel K0 c O σ H ρ) (hs : ρ[j]? = some s) (ho : s.isOwn = true) (hw : σ[j]? = some (some (.ref p))) : ¬ Own σ (ρ.set j .no) p := fun z => by
  obtain ⟨i, t, h1, h2, h3⟩ := z
  rcases get_set h2 with ⟨_, rfl⟩ | ⟨n, g⟩
  · cases h3
  · exact n (L.inj i j p t s h1 hw g hs h3 ho)
theorem ds_retV (j : Nat) (h : PE X e (tVar j)) : PS X (.Return (some e) pos) (rdS c (yRetV j)) := ps_imp (ps_ret h) fun D σ H ⟨O, ρ, L, q⟩ => by
  unfold yRetV at q
  split at q
  · rename_i d hs
    obtain ⟨w, hw, v, rfl, hd⟩ := slot_of L hs
    exact ⟨v, hw, q v σ H O .refl L hd⟩
  · rename_i xs hs
    obtain ⟨w, hw, p, vs, rfl, h0, ho, hH, hd⟩ := slot_of L hs
    obtain ⟨L1, s⟩ := set_no j L
    exact ⟨_, hw, q (.ref p) σ H O s L1 ⟨p, vs, rfl, h0, ho, no_own L hs rfl hw, hH, hd⟩⟩
  · rename_i xs hs
    obtain ⟨w, hw, p, vs, rfl, h0, ho, hH, hd⟩ := slot_of L hs
    obtain ⟨L1, s⟩ := set_no j L
    exact ⟨_, hw, q (.ref p) σ H O s L1 ⟨p, vs, rfl, h0, ho, no_own L hs rfl hw, hH, hd⟩⟩
  · exact q.elim
theorem post_set {D : Ends} {O : OS} {σ : L2.St} {H : Hp} {ρ : En} {i : Nat} (L : Rel K0 c O σ H ρ) (q : PostS c D O σ H ρ (ySet i x ρ)) : PostG K0 c O σ H ρ (RR K0 c σ) (fun v H1 => D.nx (σ.set i (some v)) H1) (x ρ) := by
  refine PostS.bind L q fun r ρ1 v H1 O1 _ s L1 q1 _ k => ?_
  exact k _ H1 O1 (store_stp i s fun a e o => RsOk.new_none q1 e o) (store_rel i L1 (q1.rt L))
theorem ds_set {i : Nat} {xn : Str} {pos' : Pos} (hN : X.N.Nodup) (hi : X.N[i]? = some xn) (hx : Loc X.env.scope xn) (he : PE X e (rd K0 c x)) (hs : swapsWith e (some (.Name xn pos')) pos.line X.env = pure false := by rfl) (hf : X.fn xn = true ∨ X.env.scope.names.lookup xn = some .local := by first | exact .inl rfl | exact .inr rfl | assumption) :
    PS X (.Assign [.Name xn pos'] e pos) (rdS c (ySet i x)) := ps_imp (ps_set hN hi hx he hs hf) fun D σ H ⟨O, ρ, L, q⟩ => ⟨O, ρ, L, post_set L q⟩
theorem ds_if {p q : List Stmt} (h : PT X e (rdB c t)) (ha : PSs X p (rdS c y)) (hb : PSs X q (rdS c z)) : PS X (.If e p q pos) (rdS c (yIf t y z)) := ps_imp (ps_if h ha hb) fun D σ H ⟨O, ρ, L, q⟩ => ⟨O, ρ, L, by
  refine PostS.bind L q fun bb ρ1 v H1 O1 _ s L1 q1 k _ => ?_
  cases q1
  cases bb with
  | true => rw [if_pos rfl]; rw [if_pos rfl] at k; exact ⟨O1, ρ1, L1, k⟩
  | false => rw [if_neg (by decide)]; rw [if_neg (by decide)] at k; exact ⟨O1, ρ1, L1, k⟩⟩
end

/-! ### changes of a list of one's own -/
/-- the list at a slot -/
def lsl : Sl → Option (List PyData)
  | .own xs | .bor xs => some xs
  | _ => none
def putL : Sl → List PyData → Sl
  | .own _, ys => .own ys
  | .bor _, ys => .bor ys
  | s, _ => s
section
variable {X : Cx} {c : Ct}
theorem lsl_own {s : Sl} {xs : List PyData} (h : lsl s = some xs) : s.isOwn = true := by cases s <;> first | rfl | cases h
theorem lsl_ok {O : OS} {H : Hp} {w : Option V} {s : Sl} {xs : List PyData} (ok : SlOk K0 c O H w s) (h : lsl s = some xs) : ∃ p vs, w = some (.ref p) ∧ O p = true ∧ H p = some (.lst vs) ∧ DpAll K0 (hid O H) vs xs := by
  cases s with
  | own ys => cases h; obtain ⟨a, vs, e, _, o, hh, d⟩ := ok; exact ⟨a, vs, e, o, hh, d⟩
  | bor ys => cases h; obtain ⟨a, vs, e, o, hh, d⟩ := ok; exact ⟨a, vs, e, o, hh, d⟩
  | _ => cases h
theorem put_own {s : Sl} {xs ys : List PyData} (h : lsl s = some xs) : (putL s ys).isOwn = true := by cases s <;> first | rfl | cases h
theorem put_fixed {s : Sl} {xs ys : List PyData} (h : lsl s = some xs) : (putL s ys).fixed = s.fixed ∧ (putL s ys ≠ .hd ∧ s ≠ .hd) := by cases s <;> first | (cases h; done) | exact ⟨rfl, by constructor <;> (intro z; cases z)⟩
theorem put_slok {O : OS} {H H' : Hp} {w : Option V} {s : Sl} {xs ys : List PyData} {p : Addr} {vs : List V} (ok : SlOk K0 c O H w s) (h : lsl s = some xs) (e : w = some (.ref p)) (hh : H' p = some (.lst vs)) (hd : DpAll K0 (hid O H') vs ys) : SlOk K0 c O H' w (putL s ys) := by
  cases s with
  | own zs => obtain ⟨a, _, e1, h0, o, _⟩ := ok; rw [e] at e1; cases e1; exact ⟨p, vs, e, h0, o, hh, hd⟩
  | bor zs => obtain ⟨a, _, e1, o, _⟩ := ok; rw [e] at e1; cases e1; exact ⟨p, vs, e, o, hh, hd⟩
  | _ => cases h
theorem hid_upd {O : OS} {H : Hp} {p : Addr} {o : HO} (h : O p = true) : hid O (upd H p o) = hid O H := by
  funext a
  unfold hid
  by_cases e : a = p
  · subst e; rw [if_pos h, if_pos h]
  · rw [upd_ne e]
theorem mutate {O : OS} {σ : L2.St} {H : Hp} {ρ : En} {j : Nat} {s : Sl} {xs ys : List PyData} {p : Addr} {vs : List V} {o : HO} (L : Rel K0 c O σ H ρ) (hj : ρ[j]? = some s) (hs : lsl s = some xs) (hw : σ[j]? = some (some (.ref p))) (hO : O p = true) (hH : H p = some o) (hd : DpAll K0 (hid O H) vs ys) :
    Stp σ σ ρ (ρ.set j (putL s ys)) H (upd H p (.lst vs)) O O ∧ Rel K0 c O σ (upd H p (.lst vs)) (ρ.set j (putL s ys)) := by
  have hid' := hid_upd (O := O) (H := H) (o := .lst vs) hO
  have dom' : ∀ a, H a ≠ none → upd H p (.lst vs) a ≠ none := fun a h => by
    by_cases e : a = p
    · subst e; rw [upd_same]; exact fun z => nomatch z
    · rw [upd_ne e]; exact h
  have jl : j < ρ.length := by
    rcases Nat.lt_or_ge j ρ.length with q | q
    · exact q
    · rw [List.getElem?_eq_none q] at hj; cases hj
  have own' : ∀ a, Own σ (ρ.set j (putL s ys)) a → Own σ ρ a := fun a h => by
    obtain ⟨i, t, h1, h2, h3⟩ := h
    rcases get_set h2 with ⟨e, rfl⟩ | ⟨_, g⟩
    · subst e; exact ⟨i, s, h1, hj, lsl_own hs⟩
    · exact ⟨i, t, h1, g, h3⟩
  refine ⟨⟨dom', fun a u h n => ?_, fun _ h => .inl h, fun a h => .inl (own' a h), fun _ h => .inr h, fun i t h f => ?_⟩, ⟨by rw [List.length_set]; exact L.len, L.low, fun a h => dom' a (L.dom0 a h), L.o0, fun a h => dom' a (L.dom a h), fun i w t h1 h2 => ?_, fun i k a u t h1 h2 h3 h4 h5 h6 => ?_⟩⟩
  · have : a ≠ p := fun e => by subst e; exact n ⟨j, s, hw, hj, lsl_own hs⟩
    rw [upd_ne this]; exact h
  · rcases get_set h with ⟨e, rfl⟩ | ⟨_, g⟩
    · subst e
      obtain ⟨q1, q2, q3⟩ := put_fixed (ys := ys) hs
      exact ⟨s, hj, by rw [← q1]; exact f, rfl, ⟨fun z => absurd z q3, fun z => absurd z q2⟩⟩
    · exact ⟨t, g, f, rfl, Iff.rfl⟩
  · rcases get_set h2 with ⟨e, rfl⟩ | ⟨n, g⟩
    · subst e
      rw [hw] at h1; cases h1
      exact put_slok (L.sl i _ s hw hj) hs rfl upd_same (by rw [hid']; exact hd)
    · refine slOk_mono (by rw [hid']; exact fun _ _ h => h) (fun a e o => ⟨rfl, upd_ne fun z => ?_⟩) (L.sl i w t h1 g)
      subst z
      exact n (L.inj i j a t s (by rw [h1, e]) hw g hj o (lsl_own hs))
  · have f : ∀ (i : Nat) (u : Sl), (ρ.set j (putL s ys))[i]? = some u → u.isOwn = true → ∃ u', ρ[i]? = some u' ∧ u'.isOwn = true := fun i u h o => by
      rcases get_set h with ⟨e, rfl⟩ | ⟨_, g⟩
      · subst e; exact ⟨s, hj, lsl_own hs⟩
      · exact ⟨u, g, o⟩
    obtain ⟨u', g1, g2⟩ := f i u h3 h5
    obtain ⟨t', g3, g4⟩ := f k t h4 h6
    exact L.inj i k a u' t' h1 h2 g1 g3 g2 g4
end
/-- x.append(e) -/
def xApp (j : Nat) (x : Mo Rs) : Mo Rs := bnd (eD x) fun d ρ => match ρ[j]? with
  | some s => match lsl s with
    | some xs => if xs.length < sizeLine then some (.val (.dt .none), ρ.set j (putL s (xs ++ [d]))) else none
    | none => none
  | none => none
/-- x.pop(i) -/
def xPopAt (j : Nat) (x : Mo Rs) : Mo Rs := bnd (eD x) fun d ρ => match ρ[j]? with
  | some s => match lsl s with
    | some xs => match asI d with
      | some i => if -(2 ^ 63) ≤ i ∧ i < 2 ^ 63 then match seqIndex? i xs.length with
        | some k => match xs[k]? with
          | some e => some (.val (.dt e), ρ.set j (putL s (xs.eraseIdx k)))
          | none => none
        | none => none else none
      | none => none
    | none => none
  | none => none
/-- x[i] = e -/
def ySetI (j : Nat) (xi xe : Mo Rs) : Mo Fl := bnd (eD xe) fun d => bnd (eD xi) fun di ρ => match ρ[j]? with
  | some s => match lsl s with
    | some xs => match asI di with
      | some i => match ixN xs.length i with
        | some k => some (.val .nx, ρ.set j (putL s (xs.set k d)))
        | none => none
      | none => none
    | none => none
  | none => none
theorem asI_int {d : PyData} {i : Int} (h : asI d = some i) : d = .int i := by cases d <;> first | (cases h; done) | (cases h; rfl)
section
variable {X : Cx} {c : Ct} {o e i : Expr} {x xi : Mo Rs} {pos apos cpos : Pos}
/-- a name that holds a list: its object, ahead of what comes -/
theorem oN_list {K : PySem.W.Frag} {O : OS} {σ : L2.St} {H : Hp} {ρ : En} {j : Nat} {s : Sl} {xs : List PyData} (L : Rel K0 c O σ H ρ) (hj : ρ[j]? = some s) (hs : lsl s = some xs) : ∃ p vs, σ[j]? = some (some (.ref p)) ∧ O p = true ∧ H p = some (.lst vs) ∧ DpAll K0 (hid O H) vs xs := by
  obtain ⟨w, hw, ok⟩ := slot_of L hj
  obtain ⟨p, vs, rfl, q⟩ := lsl_ok ok hs
  exact ⟨p, vs, hw, q⟩
/-- ahead of the argument the name must hold a list already -/
def yL {α : Type} (j : Nat) (x : Mo α) : Mo α := fun ρ => match ρ[j]? with
  | some s => match lsl s with
    | some _ => x ρ
    | none => none
  | none => none
theorem de_app (j : Nat) (ho : PE X o (tVar j)) (he : PE X e (rd K0 c x)) (hbase : attributeBase o "append" X.env (eval o X.env) = eval o X.env := by rfl) (hfew : ((backTo cpos (starEach (e :: []) X.env)).all (fun x => !x.1) && (backToKw cpos (keywordEach [] X.env)).all (fun x => x.1.isSome) && decide ((e :: ([] : List Expr)).length + ([] : List Keyword).length + (if ([] : List Keyword).isEmpty then 0 else 1) < 30)) = true := by rfl) (hline : (apos.endLine == cpos.line) = true := by rfl)
    (hs : starEach [e] X.env = (false, eval e X.env) :: starEach [] X.env := by rfl) (hp : (backTo cpos (starEach [] X.env)).any (·.1) = false := by rfl) :
    PE X (.Call (.Attribute o "append" apos) [e] [] cpos) (rd K0 c (yL j (xApp j x))) := pe_imp (pe_bm PySem.F.plainAttrs_list PySem.F.slot_list_append PySem.F.type_list_append mt_append ho (pa_cons (pe_eD he) pa_nil hs) hbase hfew hline hs hp) fun σ H Q ⟨O, ρ, L, q⟩ => by
  unfold yL at q
  split at q
  · rename_i s hj
    split at q
    · rename_i xs hs
      obtain ⟨p, vs, hw, hO, hH, hd⟩ := oN_list (K := K0) L hj hs
      refine ⟨_, hw, .inl ⟨rfl, _, .inl (.inl hH)⟩, O, ρ, L, ?_⟩
      refine PostG.bind mn_R L q fun d ρ1 v H1 O1 _ st L1 q1 k _ => ?_
      split at k
      · rename_i s1 hj1
        split at k
        · rename_i xs1 hs1
          split at k
          · rename_i hl
            obtain ⟨p1, vs1, hw1, hO1, hH1, hd1⟩ := oN_list (K := K0) L1 hj1 hs1
            rw [hw] at hw1; cases hw1
            obtain ⟨t, L2⟩ := mutate L1 hj1 hs1 hw hO1 hH1 (dpAll_app hd1 (.cons q1 .nil))
            exact ⟨p, vs1, v, rfl, rfl, hH1, by rw [dpAll_len hd1]; exact hl, k _ _ O1 t L2 .non⟩
          · exact k.elim
        · exact k.elim
      · exact k.elim
    · exact q.elim
  · exact q.elim
theorem de_popAt (j : Nat) (ho : PE X o (tVar j)) (he : PE X e (rd K0 c x)) (hbase : attributeBase o "pop" X.env (eval o X.env) = eval o X.env := by rfl) (hfew : ((backTo cpos (starEach (e :: []) X.env)).all (fun x => !x.1) && (backToKw cpos (keywordEach [] X.env)).all (fun x => x.1.isSome) && decide ((e :: ([] : List Expr)).length + ([] : List Keyword).length + (if ([] : List Keyword).isEmpty then 0 else 1) < 30)) = true := by rfl) (hline : (apos.endLine == cpos.line) = true := by rfl)
    (hs : starEach [e] X.env = (false, eval e X.env) :: starEach [] X.env := by rfl) (hp : (backTo cpos (starEach [] X.env)).any (·.1) = false := by rfl) :
    PE X (.Call (.Attribute o "pop" apos) [e] [] cpos) (rd K0 c (yL j (xPopAt j x))) := pe_imp (pe_bm PySem.F.plainAttrs_list PySem.F.slot_list_pop PySem.F.type_list_pop mt_popAt ho (pa_cons (pe_eD he) pa_nil hs) hbase hfew hline hs hp) fun σ H Q ⟨O, ρ, L, q⟩ => by
  unfold yL at q
  split at q
  · rename_i s hj
    split at q
    · rename_i xs hs
      obtain ⟨p, vs, hw, hO, hH, hd⟩ := oN_list (K := K0) L hj hs
      refine ⟨_, hw, .inl ⟨rfl, _, .inl (.inl hH)⟩, O, ρ, L, ?_⟩
      refine PostG.bind mn_R L q fun d ρ1 v H1 O1 _ st L1 q1 k _ => ?_
      split at k
      · rename_i s1 hj1
        split at k
        · rename_i xs1 hs1
          split at k
          rotate_left
          · exact k.elim
          rename_i ii hii
          have hii := asI_int hii
          subst hii
          split at k
          · rename_i hb
            split at k
            · rename_i kk hk
              split at k
              · rename_i ee he
                obtain ⟨p1, vs1, hw1, hO1, hH1, hd1⟩ := oN_list (K := K0) L1 hj1 hs1
                rw [hw] at hw1; cases hw1
                obtain ⟨y, hy, hdy⟩ := dpAll_getD hd1 he
                obtain ⟨t, L2⟩ := mutate L1 hj1 hs1 hw hO1 hH1 (dpAll_erase kk hd1)
                refine ⟨p, vs1, ii, kk, y, rfl, by rw [dp_int q1], hH1, hb.1, hb.2, by rw [dpAll_len hd1]; exact hk, hy, k _ _ O1 t L2 ?_⟩
                show Dp K0 _ _ _
                rw [hid_upd hO1]; exact hdy
              · exact k.elim
            · exact k.elim
          · exact k.elim
        · exact k.elim
      · exact k.elim
    · exact q.elim
  · exact q.elim
theorem ds_setI (j : Nat) {tpos : Pos} (ho : PE X o (tVar j)) (hi : PE X i (rd K0 c xi)) (he : PE X e (rd K0 c x))
    (ha : ∀ v, assign (.Subscript o i tpos) X.env v = (do
      let ov ← holding [v] (eval o X.env)
      let iv ← holding [v, ov] (eval i X.env)
      standAt tpos
      holding [v, ov, iv] (setItem ov iv v)
      release [v, ov, iv] []) := by intro _; rfl)
    (hs : swapsWithSole [.Subscript o i tpos] e pos.line X.env = pure false := by rfl) (hw : swappedStores [.Subscript o i tpos] e X.env = pure none := by rfl)
    (h1 : (assignEach [.Subscript o i tpos] X.env).map (·.2) = [assign (.Subscript o i tpos) X.env] := by rfl) :
    PS X (.Assign [.Subscript o i tpos] e pos) (rdS c (yL j (ySetI j xi x))) := ps_imp (ps_asg (pe_eD he) (pg_sub ho (pe_eD hi) set_list ha) hs hw h1) fun D σ H ⟨O, ρ, L, q⟩ => by
  unfold yL at q
  split at q
  · rename_i s hj
    split at q
    · rename_i xs hs
      refine ⟨O, ρ, L, ?_⟩
      refine PostS.bind L q fun d ρ1 v H1 O1 _ st L1 q1 k _ => ?_
      obtain ⟨w, hw, ok⟩ := slot_of L hj
      obtain ⟨p, vs, rfl, hO, hH, hd⟩ := lsl_ok ok hs
      refine ⟨_, hw, O1, ρ1, L1, ?_⟩
      refine PostS.bind L1 k fun di ρ2 u H2 O2 _ st2 L2 q2 k2 _ => ?_
      split at k2
      · rename_i s1 hj1
        split at k2
        · rename_i xs1 hs1
          split at k2
          rotate_left
          · exact k2.elim
          rename_i ii hii
          have hii := asI_int hii
          subst hii
          split at k2
          · rename_i kk hk
            obtain ⟨p1, vs1, hw1, hO1, hH1, hd1⟩ := oN_list (K := K0) L2 hj1 hs1
            rw [hw] at hw1; cases hw1
            obtain ⟨t, L3⟩ := mutate L2 hj1 hs1 hw hO1 hH1 (dpAll_set (dp_mono (st2.same L1) q1) kk hd1)
            exact ⟨p, vs1, ii, kk, rfl, dp_int q2, hH1, by rw [dpAll_len hd1]; exact hk, k2 σ _ O2 t L3⟩
          · exact k2.elim
        · exact k2.elim
      · exact k2.elim
    · exact q.elim
  · exact q.elim
end
end Dl
end

section
set_option Elab.async false
set_option linter.all false
set_option maxRecDepth 100000
namespace Dl
open PySem PySem.Spec PyProof.Rows L2

/-! ### targets -/
def Only (vs : List Nat) (σ σ' : L2.St) : Prop := σ'.length = σ.length ∧ ∀ i, i ∉ vs → σ'[i]? = σ[i]?
abbrev Tg := PyData → En → Option En
abbrev Tgs := List PyData → En → Option En
def EndT (c : Ct) (vs : List Nat) (O : OS) (σ : L2.St) (H : Hp) (ρ : En) (Q : L2.St → Hp → Prop) : Option En → Prop
  | none => False
  | some ρ' => ∀ σ', Only vs σ σ' → Stp σ σ' ρ ρ' H H O O → Rel K0 c O σ' H ρ' → Q σ' H
def rdT (c : Ct) (vs : List Nat) (tg : Tg) : TG := fun v σ H Q => ∃ O ρ d, Rel K0 c O σ H ρ ∧ Dp K0 (hid O H) v d ∧ EndT c vs O σ H ρ Q (tg d ρ)
def rdTs (c : Ct) (vs : List Nat) (tg : Tgs) : TGs := fun us σ H Q => ∃ O ρ ds, Rel K0 c O σ H ρ ∧ DpAll K0 (hid O H) us ds ∧ EndT c vs O σ H ρ Q (tg ds ρ)
def gN (i : Nat) : Tg := fun d ρ => some (ρ.set i (.dat d))
def gNl : Tgs := fun ds ρ => match ds with
  | [] => some ρ
  | _ => none
def gCn (t : Tg) (ts : Tgs) : Tgs := fun ds ρ => match ds with
  | d :: r => match t d ρ with
    | some ρ' => ts r ρ'
    | none => none
  | [] => none
def gTp (n : Nat) (ts : Tgs) : Tg := fun d ρ => match d with
  | .tuple ds => if ds.length = n then ts ds ρ else none
  | .list ds => if ds.length = n then ts ds ρ else none
  | _ => none
section
variable {X : Cx} {c : Ct} {vs vs' : List Nat} {e : Expr} {es : List Expr} {pos : Pos}
theorem pg_imp {t t' : TG} (h : PG X e t) (i : ∀ v σ H Q, t' v σ H Q → t v σ H Q) : PG X e t' := ⟨fun pins s σ H v u Q I r q => h.run pins s σ H v u Q I r (i v σ H Q q)⟩
theorem pgs_imp {t t' : TGs} (h : PGs X es t) (i : ∀ v σ H Q, t' v σ H Q → t v σ H Q) : PGs X es t' := ⟨fun pins s σ H v u Q I r q => h.run pins s σ H v u Q I r (i v σ H Q q)⟩
theorem pg_or {t t' : TG} (h : PG X e t) (h' : PG X e t') : PG X e (fun v σ H Q => t v σ H Q ∨ t' v σ H Q) := ⟨fun pins s σ H v u Q I r q => q.elim (h.run pins s σ H v u Q I r) (h'.run pins s σ H v u Q I r)⟩
theorem Only.refl {σ : L2.St} : Only vs σ σ := ⟨rfl, fun _ _ => rfl⟩
theorem Only.trans {σ σ1 σ2 : L2.St} (a : Only vs σ σ1) (b : Only vs σ1 σ2) : Only vs σ σ2 := ⟨b.1.trans a.1, fun i h => (b.2 i h).trans (a.2 i h)⟩
theorem dg_name {i : Nat} {x : Str} (hN : X.N.Nodup) (hi : X.N[i]? = some x) (hx : Loc X.env.scope x) (hv : i ∈ vs) (hf : X.fn x = true ∨ X.env.scope.names.lookup x = some .local := by first | exact .inl rfl | exact .inr rfl | assumption) : PG X (.Name x pos) (rdT c vs (gN i)) :=
  pg_imp (pg_name hN hi hx hf) fun v σ H Q ⟨O, ρ, d, L, hd, q⟩ => by
    refine q _ ⟨by rw [List.length_set], fun j hj => ?_⟩ (store_stp (r := .dt d) i .refl fun a _ o => by cases o) (store_rel (r := .dt d) i L hd)
    rw [List.getElem?_set_ne fun e => hj (by rw [← e]; exact hv)]
theorem dgs_nil : PGs X [] (rdTs c vs gNl) := pgs_imp pgs_nil fun us σ H Q ⟨O, ρ, ds, L, hd, q⟩ => by
  cases hd with
  | nil => exact ⟨rfl, q σ .refl .refl L⟩
  | cons a b => exact q.elim
theorem dgs_cons {t : Tg} {ts : Tgs} (h : PG X e (rdT c vs t)) (hs : PGs X es (rdTs c vs ts)) (ha : (assignEach (e :: es) X.env).map (·.2) = assign e X.env :: (assignEach es X.env).map (·.2) := by rfl) : PGs X (e :: es) (rdTs c vs (gCn t ts)) :=
  pgs_imp (pgs_cons h hs ha) fun us σ H Q ⟨O, ρ, ds, L, hd, q⟩ => by
    cases hd with
    | nil => exact q.elim
    | @cons v us d ds a b =>
      refine ⟨v, us, rfl, O, ρ, d, L, a, ?_⟩
      unfold gCn at q
      cases e : t d ρ with
      | none => simp only [e] at q; exact q.elim
      | some ρ1 =>
        simp only [e] at q
        intro σ1 o1 s1 L1
        refine ⟨O, ρ1, ds, L1, b, ?_⟩
        cases e2 : ts ds ρ1 with
        | none => rw [e2] at q; exact q.elim
        | some ρ2 =>
          rw [e2] at q
          exact fun σ2 o2 s2 L2 => q σ2 (o1.trans o2) (s1.trans L s2) L2
theorem dg_tup {ts : Tgs} {kk n : Nat} (hc : X.calm = true) (h : PGs X es (rdTs c vs ts)) (hn : (assignEach es X.env).length = n := by rfl) (hst : (assignEach es X.env).findIdx? (·.1) = none := by rfl) : PG X (.Tuple es kk pos) (rdT c vs (gTp n ts)) :=
  pg_imp (pg_or (pg_tup hc h hn hst) (pg_lst hc h hn hst)) fun v σ H Q ⟨O, ρ, d, L, hd, q⟩ => by
    cases d with
    | tuple ds =>
      unfold gTp at q
      by_cases hl : ds.length = n
      · simp only [if_pos hl] at q
        cases hd with
        | tup s a => exact .inl ⟨_, _, rfl, sqT1 (sqT_mono hid_same s), by rw [dpAll_len a]; exact hl, O, ρ, ds, L, a, q⟩
      · simp only [if_neg hl] at q; exact q.elim
    | list ds =>
      unfold gTp at q
      by_cases hl : ds.length = n
      · simp only [if_pos hl] at q
        cases hd with
        | lst s a => exact .inr ⟨_, _, rfl, sqL1 (sqL_mono hid_same s), by rw [dpAll_len a]; exact hl, O, ρ, ds, L, a, q⟩
      · simp only [if_neg hl] at q; exact q.elim
    | _ => exact q.elim
end
/-- target = value, the value a tuple or list -/
def yAsg (tg : Tg) (x : Mo Rs) : Mo Fl := bnd (eD x) fun d ρ => match tg d ρ with
  | some ρ' => some (.val .nx, ρ')
  | none => none
section
variable {X : Cx} {c : Ct} {vs : List Nat} {e t : Expr} {x : Mo Rs} {tg : Tg} {pos : Pos}
theorem ds_asg (he : PE X e (rd K0 c x)) (hg : PG X t (rdT c vs tg)) (hs : swapsWithSole [t] e pos.line X.env = pure false := by rfl) (hw : swappedStores [t] e X.env = pure none := by rfl)
    (h1 : (assignEach [t] X.env).map (·.2) = [assign t X.env] := by rfl) : PS X (.Assign [t] e pos) (rdS c (yAsg tg x)) := ps_imp (ps_asg (pe_eD he) hg hs hw h1) fun D σ H ⟨O, ρ, L, q⟩ => ⟨O, ρ, L, by
  refine PostS.bind L q fun d ρ1 v H1 O1 _ s L1 q1 k _ => ?_
  refine ⟨O1, ρ1, d, L1, q1, ?_⟩
  cases e : tg d ρ1 with
  | none => simp only [e] at k; exact k.elim
  | some ρ2 =>
    simp only [e] at k
    exact fun σ2 _ s2 L2 => k σ2 H1 O1 s2 L2⟩
end

/-! ### what is walked -/
def hideO (ρ : En) : Option Nat → En
  | none => ρ
  | some j => ρ.set j .hd
/-- the walk J yields the items, as long as what is not owned stands -/
def ItOk (c : Ct) (σ : L2.St) (ρ : En) (H : Hp) (O : OS) (J : It) (items : List PyData) : Prop := ∀ (H2 : Hp) (O2 : OS), (∀ a o, H a = some o → ¬ Own σ ρ a → H2 a = some o) → Same (hid O H) (hid O2 H2) → (∀ a, O2 a = true → H2 a ≠ none) →
  J.stop items.length H2 ∧ ∀ (i : Nat) (d : PyData), items[i]? = some d → J.go i H2 ∧ ∀ x H3, J.yld i H2 x H3 → Alc H2 H3 O2 O2 ∧ Dp K0 (hid O2 H3) x d
/-- the place that was hidden is a list of one's own -/
def HdOk (ρ : En) : Option Nat → Prop
  | none => True
  | some j => ∃ s xs, ρ[j]? = some s ∧ lsl s = some xs
def RJ (c : Ct) : L2.St → Hp → En → Hp → OS → It → List PyData × Option Nat → Prop := fun σ _ ρ H O J a => HdOk ρ a.2 ∧ ItOk c σ (hideO ρ a.2) H O J a.1
theorem mn_J {c : Ct} {σ : L2.St} : Mn (RJ c σ) := fun _ _ _ _ _ _ _ _ h => h
abbrev rdJ (c : Ct) (z : Mo (List PyData × Option Nat)) : TI := rdG K0 c (RJ c) z
def seqD : PyData → Option (List PyData)
  | .list xs => some xs
  | .tuple xs => some xs
  | .str z => some (z.cps.toList.map fun ch => .str ⟨#[ch]⟩)
  | _ => none
def zSeq (y : Mo Vd) : Mo (List PyData × Option Nat) := bnd y fun a ρ => match a with
  | .dt d => match seqD d with
    | some xs => some (.val (xs, none), ρ)
    | none => none
  | .pl j => match ρ[j]? with
    | some s => match lsl s with
      | some xs => some (.val (xs, some j), ρ)
      | none => match slD s with
        | some d => match seqD d with
          | some xs => some (.val (xs, none), ρ)
          | none => none
        | none => none
    | none => none
def rangeD (lo : Int) : Nat → List PyData
  | 0 => []
  | n + 1 => .int lo :: rangeD (lo + 1) n
theorem rangeD_len : ∀ (n : Nat) (lo : Int), (rangeD lo n).length = n
  | 0, _ => rfl
  | n + 1, lo => by simp [rangeD, rangeD_len n]
theorem rangeD_get : ∀ (n : Nat) (lo : Int) (i : Nat) (d : PyData), (rangeD lo n)[i]? = some d → i < n ∧ d = .int (lo + i)
  | 0, _, i, d, h => by simp [rangeD] at h
  | n + 1, lo, 0, d, h => by
    simp [rangeD] at h
    exact ⟨Nat.succ_pos _, by rw [← h]; simp⟩
  | n + 1, lo, i + 1, d, h => by
    simp only [rangeD, List.getElem?_cons_succ] at h
    obtain ⟨h1, h2⟩ := rangeD_get n (lo + 1) i d h
    exact ⟨Nat.succ_lt_succ h1, by rw [h2]; congr 1; omega⟩
def zRg1 (ys : Mo (List Vd)) : Mo (List PyData × Option Nat) := bnd ys fun as ρ => match rsls ρ as with
  | some [.int j] => if -(2 ^ 62) ≤ j ∧ j < 2 ^ 62 then some (.val (rangeD 0 j.toNat, none), ρ) else none
  | _ => none
def zRg2 (ys : Mo (List Vd)) : Mo (List PyData × Option Nat) := bnd ys fun as ρ => match rsls ρ as with
  | some [.int i, .int j] => if (-(2 ^ 62) ≤ i ∧ i < 2 ^ 62) ∧ -(2 ^ 62) ≤ j ∧ j < 2 ^ 62 then some (.val (rangeD i (j - i).toNat, none), ρ) else none
  | _ => none
def enumD (k : Nat) : List PyData → List PyData
  | [] => []
  | x :: r => .tuple [.int k, x] :: enumD (k + 1) r
theorem enumD_len : ∀ (xs : List PyData) (k : Nat), (enumD k xs).length = xs.length
  | [], _ => rfl
  | x :: r, k => by simp [enumD, enumD_len r]
theorem enumD_get : ∀ (xs : List PyData) (k i : Nat) (d : PyData), (enumD k xs)[i]? = some d → ∃ x, xs[i]? = some x ∧ d = .tuple [.int ((k + i : Nat) : Int), x]
  | [], _, i, d, h => by simp [enumD] at h
  | x :: r, k, 0, d, h => by
    simp [enumD] at h
    exact ⟨x, rfl, by rw [← h]; rfl⟩
  | x :: r, k, i + 1, d, h => by
    simp only [enumD, List.getElem?_cons_succ] at h
    obtain ⟨y, h1, h2⟩ := enumD_get r (k + 1) i d h
    exact ⟨y, by simpa using h1, by rw [h2, show k + 1 + i = k + (i + 1) from by omega]⟩
def zipD : List PyData → List PyData → List PyData
  | x :: r, y :: s => .tuple [x, y] :: zipD r s
  | _, _ => []
theorem zipD_len : ∀ (xs ys : List PyData), (zipD xs ys).length = min xs.length ys.length
  | [], ys => by simp [zipD]
  | _ :: _, [] => by simp [zipD]
  | x :: r, y :: s => by simp [zipD, zipD_len r s]
theorem zipD_get : ∀ (xs ys : List PyData) (i : Nat) (d : PyData), (zipD xs ys)[i]? = some d → ∃ x y, xs[i]? = some x ∧ ys[i]? = some y ∧ d = .tuple [x, y]
  | [], _, i, d, h => by simp [zipD] at h
  | _ :: _, [], i, d, h => by simp [zipD] at h
  | x :: r, y :: s, 0, d, h => by
    simp [zipD] at h
    exact ⟨x, y, rfl, rfl, h.symm⟩
  | x :: r, y :: s, i + 1, d, h => by
    simp only [zipD, List.getElem?_cons_succ] at h
    obtain ⟨a, b, h1, h2, h3⟩ := zipD_get r s i d h
    exact ⟨a, b, by simpa using h1, by simpa using h2, h3⟩
section
variable {X : Cx} {c : Ct} {tg e e2 : Expr} {p pos : Pos}
theorem pi_imp {t t' : TI} (h : PI X tg e t) (i : ∀ σ H Q, t' σ H Q → t σ H Q) : PI X tg e t' := ⟨fun pins s σ H R I q => h.run pins s σ H R I (i σ H R q)⟩
theorem pi_or {t t' : TI} (h : PI X tg e t) (h' : PI X tg e t') : PI X tg e (fun σ H R => t σ H R ∨ t' σ H R) := ⟨fun pins s σ H R I q => q.elim (h.run pins s σ H R I) (h'.run pins s σ H R I)⟩
theorem own_hide {σ : L2.St} {ρ : En} {h : Option Nat} {a : Addr} (o : Own σ (hideO ρ h) a) : Own σ ρ a := by
  cases h with
  | none => exact o
  | some j =>
    obtain ⟨i, s, h1, h2, h3⟩ := o
    rcases get_set h2 with ⟨_, rfl⟩ | ⟨_, g⟩
    · cases h3
    · exact ⟨i, s, h1, g, h3⟩
theorem rd_stay {H H2 : Hp} {a : Addr} {u : HO} (h : Rd H a u) (f : ∀ o, H a = some o → H2 a = some o) : Rd H2 a u := by
  rcases h with h | ⟨o, h⟩
  · exact .inl (f _ h)
  · exact .inr ⟨o, f _ h⟩
theorem rd_injL {H : Hp} {a : Addr} {xs ys : List V} (h : Rd H a (.lst xs)) (h' : SqL K0 H a ys) : xs = ys := by
  rcases h with h | ⟨o, h⟩ <;> rcases sqL0 h' with g | ⟨o', g⟩ <;> (rw [h] at g; cases g; try rfl)
theorem rd_injL' {K : PySem.W.Frag} {X : Cx} {H : Hp} {a : Addr} {xs : List V} (h : Rd H a (.lst xs)) : SqL K H a xs := .inl h
/-- a list, wherever it is held -/
theorem it_list {K : PySem.W.Frag} {σ : L2.St} {ρ : En} {H : Hp} {O : OS} {a : Addr} {vs : List V} {ds : List PyData} (hR : Rd H a (.lst vs)) (hd : DpAll K0 (hid O H) vs ds) (hn : ¬ Own σ ρ a) : ItOk c σ ρ H O (Itl K a) ds := fun H2 O2 fr sm _ => by
  have r2 : Rd H2 a (.lst vs) := rd_stay hR fun o e => fr a o e hn
  have d2 := dpAll_mono sm hd
  refine ⟨⟨vs, .inl r2, by rw [dpAll_len hd]; exact Nat.le_refl _⟩, fun i d hi => ?_⟩
  obtain ⟨v, hv, hdv⟩ := dpAll_getD d2 hi
  refine ⟨⟨vs, v, .inl r2, hv⟩, fun x H3 y => ?_⟩
  obtain ⟨rfl, y⟩ := y
  have z := y vs (.inl r2)
  rw [hv] at z; cases z
  exact ⟨.refl, hdv⟩
theorem it_tup {K : PySem.W.Frag} {σ : L2.St} {ρ : En} {H : Hp} {O : OS} {a : Addr} {vs : List V} {ds : List PyData} (hR : Rd H a (.tup vs)) (hd : DpAll K0 (hid O H) vs ds) (hn : ¬ Own σ ρ a) : ItOk c σ ρ H O (Itt K a) ds := fun H2 O2 fr sm _ => by
  have r2 : Rd H2 a (.tup vs) := rd_stay hR fun o e => fr a o e hn
  have d2 := dpAll_mono sm hd
  refine ⟨⟨vs, .inl r2, by rw [dpAll_len hd]; exact Nat.le_refl _⟩, fun i d hi => ?_⟩
  obtain ⟨v, hv, hdv⟩ := dpAll_getD d2 hi
  refine ⟨⟨vs, v, .inl r2, hv⟩, fun x H3 y => ?_⟩
  obtain ⟨rfl, y⟩ := y
  have z := y vs (.inl r2)
  rw [hv] at z; cases z
  exact ⟨.refl, hdv⟩
theorem it_str {σ : L2.St} {ρ : En} {H : Hp} {O : OS} (z : Str) : ItOk c σ ρ H O (Its z) (z.cps.toList.map fun ch => .str ⟨#[ch]⟩) := fun H2 O2 fr sm _ => by
  refine ⟨by show z.cps.size ≤ _; simp, fun i d hi => ?_⟩
  rw [List.getElem?_map] at hi
  cases e : z.cps.toList[i]? with
  | none => rw [e] at hi; cases hi
  | some ch =>
    rw [e] at hi; cases hi
    have hlt : i < z.cps.size := by
      rcases Nat.lt_or_ge i z.cps.toList.length with q | q
      · simpa using q
      · rw [List.getElem?_eq_none q] at e; cases e
    refine ⟨hlt, fun x H3 y => ?_⟩
    obtain ⟨rfl, c', hc', rfl⟩ := y
    rw [← Array.getElem?_toList, e] at hc'; cases hc'
    exact ⟨.refl, .str _⟩
theorem it_rng {σ : L2.St} {ρ : En} {H : Hp} {O : OS} (lo : Int) (n : Nat) : ItOk c σ ρ H O (Itr lo n) (rangeD lo n) := fun H2 O2 fr sm _ => by
  refine ⟨by show n ≤ _; rw [rangeD_len]; exact Nat.le_refl _, fun i d hi => ?_⟩
  obtain ⟨h1, rfl⟩ := rangeD_get n lo i d hi
  refine ⟨h1, fun x H3 y => ?_⟩
  obtain ⟨rfl, rfl⟩ := y
  exact ⟨.refl, .int _⟩
theorem dp_notown {K : PySem.W.Frag} {O : OS} {σ : L2.St} {H : Hp} {ρ : En} {a : Addr} {u : HO} (L : Rel K0 c O σ H ρ) (h : Rd (hid O H) a u) : ¬ Own σ ρ a := fun o => by
  have z := (own_dom L o).1
  rcases h with h | ⟨_, h⟩ <;> (have q := (hid_le h).1; rw [z] at q; cases q)
theorem rd_hid {O : OS} {H : Hp} {a : Addr} {u : HO} (h : Rd (hid O H) a u) : Rd H a u := rd_stay h fun o e => (hid_le e).2
theorem hide_own {O : OS} {σ : L2.St} {H : Hp} {ρ : En} {j : Nat} {s : Sl} {p : Addr} (L : Rel K0 c O σ H ρ) (hs : ρ[j]? = some s) (ho : s.isOwn = true) (hw : σ[j]? = some (some (.ref p))) : ¬ Own σ (ρ.set j .hd) p := fun z => by
  obtain ⟨i, t, h1, h2, h3⟩ := z
  rcases get_set h2 with ⟨_, rfl⟩ | ⟨n, g⟩
  · cases h3
  · exact n (L.inj i j p t s h1 hw g hs h3 ho)
/-- which of three walks, by the data -/
theorem seq_pick {O : OS} {σ : L2.St} {H : Hp} {ρ : En} {R : It → Hp → Prop} {y : Mo Vd} {d : PyData} {xs : List PyData} (L : Rel K0 c O σ H ρ) (e : seqD d = some xs) {a : Vd} {ρ1 : En} (ey : y ρ = some (.val a, ρ1))
    (hv : ∀ v H1 O1, Stp σ σ ρ ρ1 H H1 O O1 → Rel K0 c O1 σ H1 ρ1 → RV K0 σ H ρ1 H1 O1 v a → Dp K0 (hid O1 H1) v d)
    (q : ∀ J H' O', Stp σ σ ρ ρ1 H H' O O' → Rel K0 c O' σ H' ρ1 → (HdOk ρ1 none ∧ ItOk c σ ρ1 H' O' J xs) → R J H') : iList X.K (rdV K0 c y) σ H R ∨ iTup X.K (rdV K0 c y) σ H R ∨ iStr (rdV K0 c y) σ H R := by
  cases d with
  | list ds =>
    cases e
    refine .inl ⟨O, ρ, L, ?_⟩
    rw [ey]
    intro v H1 O1 s L1 q1
    cases hv v H1 O1 s L1 q1 with
    | lst sq al =>
      have r := sqL0 sq
      exact ⟨_, rfl, ⟨_, .inl (rd_hid r)⟩, q _ H1 O1 s L1 ⟨trivial, it_list (rd_hid r) al (dp_notown (K := K0) L1 r)⟩⟩
  | tuple ds =>
    cases e
    refine .inr (.inl ⟨O, ρ, L, ?_⟩)
    rw [ey]
    intro v H1 O1 s L1 q1
    cases hv v H1 O1 s L1 q1 with
    | tup sq al =>
      have r := sqT0 sq
      exact ⟨_, rfl, ⟨_, .inl (rd_hid r)⟩, q _ H1 O1 s L1 ⟨trivial, it_tup (rd_hid r) al (dp_notown (K := K0) L1 r)⟩⟩
  | str z =>
    cases e
    refine .inr (.inr ⟨O, ρ, L, ?_⟩)
    rw [ey]
    intro v H1 O1 s L1 q1
    exact ⟨z, dp_str (hv v H1 O1 s L1 q1), q _ H1 O1 s L1 ⟨trivial, it_str z⟩⟩
  | _ => cases e
theorem di_seq {y : Mo Vd} (h : PE X e (rdV K0 c y)) : PI X tg e (rdJ c (zSeq y)) := pi_imp (pi_or (pi_list h) (pi_or (pi_tup h) (pi_str h))) fun σ H R ⟨O, ρ, L, q⟩ => by
  unfold zSeq at q
  match ey : y ρ with
  | none => rw [bnd_no ey] at q; exact q.elim
  | some (.ex n fs, ρ1) =>
    rw [bnd_ex ey] at q
    refine .inl ⟨O, ρ, L, ?_⟩
    rw [ey]; exact q
  | some (.val (.dt d), ρ1) =>
    rw [bnd_val ey] at q
    simp only at q
    cases es : seqD d with
    | none => simp only [es] at q; exact q.elim
    | some xs =>
      simp only [es] at q
      exact seq_pick L es ey (fun v H1 O1 _ _ r => r) q
  | some (.val (.pl j), ρ1) =>
    rw [bnd_val ey] at q
    simp only at q
    cases hj : ρ1[j]? with
    | none => simp only [hj] at q; exact q.elim
    | some sl =>
      simp only [hj] at q
      cases hl : lsl sl with
      | some xs =>
        simp only [hl] at q
        refine .inl ⟨O, ρ, L, ?_⟩
        rw [ey]
        intro v H1 O1 s L1 q1
        obtain ⟨p, vs, hw, hO, hH, hd⟩ := oN_list (K := K0) L1 hj hl
        have z : σ[j]? = some (some v) := q1
        rw [hw] at z; cases z
        exact ⟨p, rfl, ⟨vs, .inl (.inl hH)⟩, q _ H1 O1 s L1 ⟨⟨sl, xs, hj, hl⟩, it_list (.inl hH) hd (hide_own L1 hj (lsl_own hl) hw)⟩⟩
      | none =>
        simp only [hl] at q
        cases hd : slD sl with
        | none => simp only [hd] at q; exact q.elim
        | some d =>
          simp only [hd] at q
          cases es : seqD d with
          | none => simp only [es] at q; exact q.elim
          | some xs =>
            simp only [es] at q
            refine seq_pick L es ey (fun v H1 O1 s L1 r => ?_) q
            cases sl with
            | dat dd =>
              cases hd
              obtain ⟨w, hw, v', rfl, hdp⟩ := slot_of L1 hj
              have z : σ[j]? = some (some v) := r
              rw [hw] at z; cases z
              exact hdp
            | own _ => cases hl
            | bor _ => cases hl
            | _ => cases hd
theorem di_rg1 {ys : Mo (List Vd)} (hm : X.mg "range" = none) (ha : PA X [e] (rdVs K0 c ys)) (hg : Gl X "range" := by rfl) (hs : starEach [e] X.env = [(false, eval e X.env)] := by rfl) : PI X tg (.Call (.Name "range" p) [e] [] pos) (rdJ c (zRg1 ys)) :=
  pi_imp (pi_range1 hg hm ha hs) fun σ H R ⟨O, ρ, L, q⟩ => ⟨O, ρ, L, by
    refine PostG.bind mn_J L q fun as ρ1 vs H1 O1 _ s L1 q1 k _ => ?_
    split at k
    · rename_i j es
      split at k
      · rename_i hb
        obtain ⟨v, rfl, h1⟩ := vws_one (rsls_ok L1 q1 es)
        exact ⟨j, by rw [vw_int h1], hb.1, hb.2, k.at L1 ⟨trivial, it_rng 0 j.toNat⟩⟩
      · exact k.elim
    · exact k.elim⟩
theorem di_rg2 {ys : Mo (List Vd)} (hm : X.mg "range" = none) (ha : PA X [e, e2] (rdVs K0 c ys)) (hg : Gl X "range" := by rfl) (hs : starEach [e, e2] X.env = [(false, eval e X.env), (false, eval e2 X.env)] := by rfl) (hs2 : starEach [e2] X.env = [(false, eval e2 X.env)] := by rfl) : PI X tg (.Call (.Name "range" p) [e, e2] [] pos) (rdJ c (zRg2 ys)) :=
  pi_imp (pi_range2 hg hm ha hs hs2) fun σ H R ⟨O, ρ, L, q⟩ => ⟨O, ρ, L, by
    refine PostG.bind mn_J L q fun as ρ1 vs H1 O1 _ s L1 q1 k _ => ?_
    split at k
    · rename_i i j es
      split at k
      · rename_i hb
        obtain ⟨v, w, rfl, h1, h2⟩ := vws_two (rsls_ok L1 q1 es)
        exact ⟨i, j, by rw [vw_int h1, vw_int h2], ⟨hb.1.1, hb.1.2, hb.2.1, hb.2.2⟩, k.at L1 ⟨trivial, it_rng i (j - i).toNat⟩⟩
      · exact k.elim
    · exact k.elim⟩
end

/-! ### hiding a place, showing it again -/
def restO (ρ0 : En) (h : Option Nat) (ρ : En) : En := match h with
  | none => ρ
  | some j => match ρ[j]? with
    | some .hd => match ρ0[j]? with
      | some s => ρ.set j s
      | none => ρ
    | _ => ρ
theorem restO_hd {ρ0 ρ : En} {j : Nat} {s : Sl} (h : ρ[j]? = some .hd) (h0 : ρ0[j]? = some s) : restO ρ0 (some j) ρ = ρ.set j s := by unfold restO; simp only [h, h0]
theorem restO_no {ρ0 ρ : En} {j : Nat} (h : ρ[j]? ≠ some .hd) : restO ρ0 (some j) ρ = ρ := by
  unfold restO
  split
  · rfl
  · rename_i e
    cases e
    split
    · rename_i z; exact absurd z h
    · rfl
section
variable {c : Ct}
theorem hide_rel {O : OS} {σ : L2.St} {H : Hp} {ρ : En} (h : Option Nat) (L : Rel K0 c O σ H ρ) : Rel K0 c O σ H (hideO ρ h) := by
  cases h with
  | none => exact L
  | some j =>
    refine ⟨by show σ.length = (ρ.set j .hd).length; rw [List.length_set]; exact L.len, L.low, L.dom0, L.o0, L.dom, fun i w s h1 h2 => ?_, fun i k a s t h1 h2 h3 h4 h5 h6 => ?_⟩
    · rcases get_set h2 with ⟨_, rfl⟩ | ⟨_, g⟩
      · trivial
      · exact L.sl i w s h1 g
    · rcases get_set h3 with ⟨_, rfl⟩ | ⟨_, g3⟩
      · cases h5
      · rcases get_set h4 with ⟨_, rfl⟩ | ⟨_, g4⟩
        · cases h6
        · exact L.inj i k a s t h1 h2 g3 g4 h5 h6
theorem unhide {O O' : OS} {σ σ' : L2.St} {H H' : Hp} {ρ ρ' : En} {h : Option Nat} (L : Rel K0 c O σ H ρ) (hk : HdOk ρ h) (s : Stp σ σ' (hideO ρ h) ρ' H H' O O') (L' : Rel K0 c O' σ' H' ρ') :
    Stp σ σ' ρ (restO ρ h ρ') H H' O O' ∧ Rel K0 c O' σ' H' (restO ρ h ρ') := by
  cases h with
  | none => exact ⟨s, L'⟩
  | some j =>
    obtain ⟨sl, xs, hj, hl⟩ := hk
    have Lh := hide_rel (some j) L
    have jl : j < ρ.length := by
      rcases Nat.lt_or_ge j ρ.length with q | q
      · exact q
      · rw [List.getElem?_eq_none q] at hj; cases hj
    have hjh : (hideO ρ (some j))[j]? = some .hd := by show (ρ.set j .hd)[j]? = _; rw [List.getElem?_set_self jl]
    have back : ∀ (i : Nat) (t : Sl), ρ'[i]? = some t → t.fixed = true → t ≠ .hd → ∃ u, ρ[i]? = some u ∧ u.fixed = true ∧ σ'[i]? = σ[i]? ∧ (u = .hd ↔ t = .hd) := fun i t g f n => by
      obtain ⟨u, q1, q2, q3, q4⟩ := s.fix i t g f
      rcases get_set (show (ρ.set j .hd)[i]? = some u from q1) with ⟨_, rfl⟩ | ⟨_, g1⟩
      · exact absurd (q4.mp rfl) n
      · exact ⟨u, g1, q2, q3, q4⟩
    have base : ∀ ρ2 : En, (∀ a, Own σ' ρ2 a → Own σ ρ a ∨ H a = none) → (∀ (i : Nat) (t : Sl), ρ2[i]? = some t → t.fixed = true → ∃ u, ρ[i]? = some u ∧ u.fixed = true ∧ σ'[i]? = σ[i]? ∧ (u = .hd ↔ t = .hd)) → Stp σ σ' ρ ρ2 H H' O O' := fun ρ2 h1 h2 =>
      ⟨s.dom, fun a o e n => s.fr a o e fun z => n (own_hide z), s.sub, h1, fun a e => (s.keep a e).imp (fun z => own_hide z) id, h2⟩
    have ownb : ∀ a, Own σ' ρ' a → Own σ ρ a ∨ H a = none := fun a z => (s.own a z).imp (fun z => own_hide z) id
    by_cases e : ρ'[j]? = some .hd
    · rw [restO_hd e hj]
      obtain ⟨u0, q1, _, q3, _⟩ := s.fix j .hd e rfl
      obtain ⟨w, hw, ok⟩ := slot_of L hj
      obtain ⟨p, vs, rfl, hO, hH, hd⟩ := lsl_ok ok hl
      have hn := hide_own L hj (lsl_own hl) hw
      obtain ⟨k1, k2, k3⟩ := keep_one (c := c) s hO hn hH
      have hw' : σ'[j]? = some (some (.ref p)) := q3.trans hw
      refine ⟨base _ (fun a z => ?_) fun i t g f => ?_, ⟨by rw [List.length_set]; exact L'.len, L'.low, L'.dom0, L'.o0, L'.dom, fun i w s1 h1 h2 => ?_, fun i k a s1 t1 h1 h2 h3 h4 h5 h6 => ?_⟩⟩
      · obtain ⟨i, t, h1, h2, h3⟩ := z
        rcases get_set h2 with ⟨rfl, rfl⟩ | ⟨_, g⟩
        · rw [hw'] at h1; cases h1
          exact .inl ⟨i, t, hw, hj, h3⟩
        · exact ownb a ⟨i, t, h1, g, h3⟩
      · rcases get_set g with ⟨rfl, rfl⟩ | ⟨ni, g1⟩
        · exact ⟨t, hj, f, q3, Iff.rfl⟩
        · by_cases n : t = .hd
          · subst n
            obtain ⟨u, r1, r2, r3, r4⟩ := s.fix i _ g1 f
            rcases get_set (show (ρ.set j .hd)[i]? = some u from r1) with ⟨ei, _⟩ | ⟨_, g2⟩
            · exact absurd ei ni
            · exact ⟨u, g2, r2, r3, r4⟩
          · exact back i t g1 f n
      · rcases get_set h2 with ⟨rfl, rfl⟩ | ⟨_, g⟩
        · rw [hw'] at h1; cases h1
          refine slOk_mono (s.same Lh) (fun a e1 o => ?_) ok
          cases e1
          exact ⟨by rw [k1, hO], by rw [k3, hH]⟩
        · exact L'.sl i w s1 h1 g
      · rcases get_set h3 with ⟨rfl, rfl⟩ | ⟨n1, g1⟩
        · rcases get_set h4 with ⟨rfl, _⟩ | ⟨n2, g2⟩
          · rfl
          · rw [hw'] at h1; cases h1
            exact absurd ⟨k, t1, h2, g2, h6⟩ k2
        · rcases get_set h4 with ⟨rfl, rfl⟩ | ⟨n2, g2⟩
          · rw [hw'] at h2; cases h2
            exact absurd ⟨i, s1, h1, g1, h5⟩ k2
          · exact L'.inj i k a s1 t1 h1 h2 g1 g2 h5 h6
    · rw [restO_no e]
      refine ⟨base ρ' ownb fun i t g f => ?_, L'⟩
      by_cases n : t = .hd
      · subst n
        obtain ⟨u, q1, q2, q3, q4⟩ := s.fix i _ g f
        rcases get_set (show (ρ.set j .hd)[i]? = some u from q1) with ⟨ei, _⟩ | ⟨_, g1⟩
        · rw [ei] at g; exact absurd g e
        · exact ⟨u, g1, q2, q3, q4⟩
      · exact back i t g f n
end
end Dl
end

section
set_option Elab.async false
set_option linter.all false
set_option maxRecDepth 100000
namespace Dl
open PySem PySem.Spec PyProof.Rows L2

/-! ### for -/
def forX (tg : Tg) (body : Mo Fl) : List PyData → Mo Fl
  | [], ρ => some (.val .nx, ρ)
  | d :: ds, ρ => match tg d ρ with
    | none => none
    | some ρ1 => match body ρ1 with
      | none => none
      | some (.val .nx, ρ2) => forX tg body ds ρ2
      | some (.val .ct, ρ2) => forX tg body ds ρ2
      | some (.val .bk, ρ2) => some (.val .nx, ρ2)
      | some (.val (.rt r), ρ2) => some (.val (.rt r), ρ2)
      | some (.ex n fs, ρ2) => some (.ex n fs, ρ2)
/-- the hidden place shown again -/
def finF (ρ : En) (h : Option Nat) : Option (Out Fl × En) → Option (Out Fl × En)
  | none => none
  | some (.val (.rt a), ρ') => if h.isSome && (slotOf a).isOwn then none else some (.val (.rt a), restO ρ h ρ')
  | some (o, ρ') => some (o, restO ρ h ρ')
def yFor (z : Mo (List PyData × Option Nat)) (tg : Tg) (body : Mo Fl) : Mo Fl := bnd z fun a ρ => finF ρ a.2 (forX tg body a.1 (hideO ρ a.2))
section
variable {X : Cx} {c : Ct}
theorem rtOk_rest {σ' : L2.St} {ρ ρ' : En} {H' : Hp} {O' : OS} {h : Option Nat} {v : V} {r : Rs} {O : OS} {σ : L2.St} {H : Hp} (L : Rel K0 c O σ H ρ) (hk : HdOk ρ h) (s : Stp σ σ' (hideO ρ h) ρ' H H' O O') (q : RtOk c σ' ρ' H' O' v r)
    (hnew : ∀ p, v = .ref p → (slotOf r).isOwn = true → ∀ j, h = some j → σ[j]? ≠ some (some (.ref p))) : RtOk c σ' (restO ρ h ρ') H' O' v r := by
  have key : ∀ p, v = .ref p → (slotOf r).isOwn = true → ¬ Own σ' ρ' p → ¬ Own σ' (restO ρ h ρ') p := fun p ev ho n z => by
    cases h with
    | none => exact n z
    | some j =>
      by_cases e : ρ'[j]? = some .hd
      · obtain ⟨sl, xs, hj, hl⟩ := hk
        rw [restO_hd e hj] at z
        obtain ⟨i, t, h1, h2, h3⟩ := z
        rcases get_set h2 with ⟨rfl, rfl⟩ | ⟨_, g⟩
        · obtain ⟨_, _, _, q3, _⟩ := s.fix i .hd e rfl
          rw [q3] at h1
          exact hnew p ev ho i rfl h1
        · exact n ⟨i, t, h1, g, h3⟩
      · rw [restO_no e] at z; exact n z
  cases r with
  | dt d => exact q
  | new xs => obtain ⟨p, vs, rfl, h0, o, nn, hh, d⟩ := q; exact ⟨p, vs, rfl, h0, o, key p rfl rfl nn, hh, d⟩
  | newd xs => obtain ⟨p, vs, rfl, h0, o, nn, hh, d⟩ := q; exact ⟨p, vs, rfl, h0, o, key p rfl rfl nn, hh, d⟩
/-- what is wanted behind the shown state is wanted behind the hidden one -/
theorem post_unhide {D : Ends} {O : OS} {σ : L2.St} {H : Hp} {ρ : En} {h : Option Nat} {r : Option (Out Fl × En)} (L : Rel K0 c O σ H ρ) (hk : HdOk ρ h) (q : PostS c D O σ H ρ (finF ρ h r)) : PostS c D O σ H (hideO ρ h) r := by
  match r with
  | none => exact q
  | some (.val .nx, ρ2) => exact fun σ2 H2 O2 t L2 => q σ2 H2 O2 (unhide L hk t L2).1 (unhide L hk t L2).2
  | some (.val .bk, ρ2) => exact fun σ2 H2 O2 t L2 => q σ2 H2 O2 (unhide L hk t L2).1 (unhide L hk t L2).2
  | some (.val .ct, ρ2) => exact fun σ2 H2 O2 t L2 => q σ2 H2 O2 (unhide L hk t L2).1 (unhide L hk t L2).2
  | some (.val (.rt a), ρ2) =>
    unfold finF at q
    by_cases e : (h.isSome && (slotOf a).isOwn) = true
    · simp only [if_pos e] at q; exact q.elim
    · simp only [if_neg e] at q
      exact fun v σ2 H2 O2 t L2 z => q v σ2 H2 O2 (unhide L hk t L2).1 (unhide L hk t L2).2 (rtOk_rest L hk t z fun p _ ho j hj => by rw [hj, ho] at e; exact absurd rfl e)
  | some (.ex n fs, ρ2) => exact fun v σ2 H2 O2 t L2 z => q v σ2 H2 O2 (unhide L hk t L2).1 (unhide L hk t L2).2 z
/-- the turns -/
theorem for_turns {D : Ends} {J : It} {vs : List Nat} {tg : Tg} {body : Mo Fl} {items : List PyData} {O : OS} {σ : L2.St} {H : Hp} {ρ : En} (L : Rel K0 c O σ H ρ) (it : ItOk c σ ρ H O J items) (q : PostS c D O σ H ρ (forX tg body items ρ)) :
    ∃ W : Nat → Nat → L2.St → Hp → Prop, (∃ m, W 0 m σ H) ∧ ∀ i m σ H, W i m σ H →
      (J.stop i H ∧ D.nx σ H) ∨ (J.go i H ∧ ∃ N : L2.St → Hp → Prop, (∀ σ' H', N σ' H' → ∃ m', m' < m ∧ W (i + 1) m' σ' H') ∧ ∀ x H', J.yld i H x H' → rdT c vs tg x σ H' fun σ2 H2 => rdS c body { D with nx := N, ct := N, bk := D.nx } σ2 H2) := by
  let In : Nat → L2.St → Hp → Prop := fun i σ1 H1 => ∃ O1 ρ1, Stp σ σ1 ρ ρ1 H H1 O O1 ∧ Rel K0 c O1 σ1 H1 ρ1 ∧ PostS c D O σ H ρ (forX tg body (items.drop i) ρ1)
  refine ⟨fun i m σ1 H1 => m = items.length - i ∧ i ≤ items.length ∧ In i σ1 H1, ⟨items.length, by simp, Nat.zero_le _, O, ρ, .refl, L, by rw [List.drop_zero]; exact q⟩, ?_⟩
  rintro i m σ1 H1 ⟨rfl, hi, O1, ρ1, s1, L1, q1⟩
  obtain ⟨stop, go⟩ := it H1 O1 s1.fr (s1.same L) L1.dom
  by_cases hlt : i < items.length
  · have hd : items.drop i = items[i] :: items.drop (i + 1) := List.drop_eq_getElem_cons hlt
    rw [hd] at q1
    obtain ⟨g, y⟩ := go i items[i] (List.getElem?_eq_getElem hlt)
    refine .inr ⟨g, In (i + 1), fun σ' H' n => ⟨items.length - (i + 1), by omega, rfl, hlt, n⟩, fun x H2 hy => ?_⟩
    obtain ⟨al, hdp⟩ := y x H2 hy
    have L2 := al.rel L1
    have s2 : Stp σ σ1 ρ ρ1 H H2 O O1 := s1.trans L al.stp
    refine ⟨O1, ρ1, items[i], L2, hdp, ?_⟩
    unfold forX at q1
    cases et : tg items[i] ρ1 with
    | none => simp only [et] at q1; exact q1.elim
    | some ρ2 =>
      simp only [et] at q1
      intro σ2 _ s3 L3
      have s23 := s2.trans L s3
      refine ⟨O1, ρ2, L3, ?_⟩
      match eb : body ρ2 with
      | none => rw [eb] at q1; exact q1.elim
      | some (.val .nx, ρ4) =>
        rw [eb] at q1
        exact fun σ4 H4 O4 s4 L4 => ⟨O4, ρ4, s23.trans L s4, L4, q1⟩
      | some (.val .ct, ρ4) =>
        rw [eb] at q1
        exact fun σ4 H4 O4 s4 L4 => ⟨O4, ρ4, s23.trans L s4, L4, q1⟩
      | some (.val .bk, ρ4) =>
        rw [eb] at q1
        exact fun σ4 H4 O4 s4 L4 => q1 σ4 H4 O4 (s23.trans L s4) L4
      | some (.val (.rt r), ρ4) =>
        rw [eb] at q1
        exact fun v σ4 H4 O4 s4 L4 z => q1 v σ4 H4 O4 (s23.trans L s4) L4 z
      | some (.ex n fs, ρ4) =>
        rw [eb] at q1
        exact fun v σ4 H4 O4 s4 L4 z => q1 v σ4 H4 O4 (s23.trans L s4) L4 z
  · have e : i = items.length := by omega
    subst e
    rw [List.drop_length] at q1
    exact .inl ⟨stop, q1 σ1 H1 O1 s1 L1⟩
theorem ds_for {t it : Expr} {body : List Stmt} {z : Mo (List PyData × Option Nat)} {vs : List Nat} {tg : Tg} {y : Mo Fl} {pos : Pos} (hp : PassesOwn (model X.prog X.w) X.A X.env X.xe) (hc : X.calm = true) (hi : PI X t it (rdJ c z)) (hg : PG X t (rdT c vs tg)) (hb : PSs X body (rdS c y))
    (hs : ∀ x, foldedSetIterable it X.env x = pure x := by intro _; rfl) : PS X (.For t it body [] pos) (rdS c (yFor z tg y)) := ps_imp (ps_for hp hc hi hg hb hs) fun D σ H ⟨O, ρ, L, q⟩ => ⟨O, ρ, L, by
  refine PostS.bind L q fun a ρ1 J H1 O1 _ s L1 q1 k _ => ?_
  exact for_turns (hide_rel a.2 L1) q1.2 (post_unhide L1 q1.1 k)⟩
end

/-! ### while -/
def whileX (t : Mo Bool) (body : Mo Fl) : Nat → Mo Fl
  | 0, _ => none
  | n + 1, ρ => match t ρ with
    | none => none
    | some (.ex m fs, ρ1) => some (.ex m fs, ρ1)
    | some (.val false, ρ1) => some (.val .nx, ρ1)
    | some (.val true, ρ1) => match body ρ1 with
      | none => none
      | some (.val .nx, ρ2) => whileX t body n ρ2
      | some (.val .ct, ρ2) => whileX t body n ρ2
      | some (.val .bk, ρ2) => some (.val .nx, ρ2)
      | some (.val (.rt r), ρ2) => some (.val (.rt r), ρ2)
      | some (.ex m fs, ρ2) => some (.ex m fs, ρ2)
section
variable {X : Cx} {c : Ct}
theorem ds_while (n : Nat) {e : Expr} {body : List Stmt} {t : Mo Bool} {y : Mo Fl} {pos : Pos} (hp : PassesOwn (model X.prog X.w) X.A X.env X.xe) (hc : PT X e (rdB c t)) (hb : PSs X body (rdS c y)) : PS X (.While e body [] pos) (rdS c (whileX t y n)) := ps_imp (ps_while hp hc hb) fun D σ H ⟨O, ρ, L, q⟩ => by
  refine ⟨fun m σ1 H1 => ∃ O1 ρ1, Stp σ σ1 ρ ρ1 H H1 O O1 ∧ Rel K0 c O1 σ1 H1 ρ1 ∧ PostS c D O σ H ρ (whileX t y m ρ1), ⟨n, O, ρ, .refl, L, q⟩, ?_⟩
  rintro m σ1 H1 ⟨O1, ρ1, s1, L1, q1⟩
  cases m with
  | zero => exact q1.elim
  | succ m =>
    refine ⟨O1, ρ1, L1, ?_⟩
    unfold whileX at q1
    match et : t ρ1 with
    | none => simp only [et] at q1; exact q1.elim
    | some (.ex mm fs, ρ2) => simp only [et] at q1; exact fun dd H2 O2 s2 L2 z => q1 dd σ1 H2 O2 (s1.trans L s2) L2 z
    | some (.val false, ρ2) =>
      simp only [et] at q1
      intro b H2 O2 s2 L2 z
      cases z
      rw [if_neg (by decide)]
      exact q1 σ1 H2 O2 (s1.trans L s2) L2
    | some (.val true, ρ2) =>
      simp only [et] at q1
      intro b H2 O2 s2 L2 z
      cases z
      have s12 := s1.trans L s2
      rw [if_pos rfl]
      refine ⟨fun σ' H' => ∃ O3 ρ3, Stp σ σ' ρ ρ3 H H' O O3 ∧ Rel K0 c O3 σ' H' ρ3 ∧ PostS c D O σ H ρ (whileX t y m ρ3), fun σ' H' z => ⟨m, Nat.lt_succ_self m, z⟩, O2, ρ2, L2, ?_⟩
      match eb : y ρ2 with
      | none => rw [eb] at q1; exact q1.elim
      | some (.val .nx, ρ4) => rw [eb] at q1; exact fun σ4 H4 O4 s4 L4 => ⟨O4, ρ4, s12.trans L s4, L4, q1⟩
      | some (.val .ct, ρ4) => rw [eb] at q1; exact fun σ4 H4 O4 s4 L4 => ⟨O4, ρ4, s12.trans L s4, L4, q1⟩
      | some (.val .bk, ρ4) => rw [eb] at q1; exact fun σ4 H4 O4 s4 L4 => q1 σ4 H4 O4 (s12.trans L s4) L4
      | some (.val (.rt r), ρ4) => rw [eb] at q1; exact fun v σ4 H4 O4 s4 L4 z => q1 v σ4 H4 O4 (s12.trans L s4) L4 z
      | some (.ex n fs, ρ4) => rw [eb] at q1; exact fun v σ4 H4 O4 s4 L4 z => q1 v σ4 H4 O4 (s12.trans L s4) L4 z
end

/-! ### comprehensions -/
def wipeE (ρ : En) : List Nat → En
  | [] => ρ
  | v :: vs => (wipeE ρ vs).set v .no
def keepD : Option Sl → Sl
  | some (.dat d) => .dat d
  | _ => .no
def backE (ρ0 ρ : En) : List Nat → En
  | [] => ρ
  | v :: vs => (backE ρ0 ρ vs).set v (keepD ρ0[v]?)
def lcX (vs : List Nat) (tg : Tg) (tt : Mo Bool) (el : Mo PyData) : List PyData → En → Option (List PyData × En)
  | [], ρ => some ([], ρ)
  | d :: ds, ρ => match tg d ρ with
    | none => none
    | some ρ1 => match tt ρ1 with
      | some (.val true, ρ2) => match el ρ2 with
        | some (.val x, ρ3) => match lcX vs tg tt el ds (wipeE ρ3 vs) with
          | some (xs, ρ4) => some (x :: xs, ρ4)
          | none => none
        | _ => none
      | some (.val false, ρ2) => lcX vs tg tt el ds (wipeE ρ2 vs)
      | _ => none
def xLc (vs : List Nat) (z : Mo (List PyData × Option Nat)) (tg : Tg) (tt : Mo Bool) (x : Mo Rs) : Mo Rs := bnd z fun a ρ => if a.1.length ≤ sizeLine then match lcX vs tg tt (eD x) a.1 (wipeE (hideO ρ a.2) vs) with
  | some (xs, ρ') => some (.val (.new xs), restO ρ a.2 (backE (hideO ρ a.2) ρ' vs))
  | none => none else none
section
theorem wipeE_len (ρ : En) : ∀ vs : List Nat, (wipeE ρ vs).length = ρ.length
  | [] => rfl
  | v :: vs => by unfold wipeE; rw [List.length_set, wipeE_len ρ vs]
theorem wipeE_get {ρ : En} {i : Nat} {s : Sl} : ∀ {vs : List Nat}, (wipeE ρ vs)[i]? = some s → s = .no ∨ (ρ[i]? = some s ∧ i ∉ vs)
  | [], h => .inr ⟨h, by simp⟩
  | v :: vs, h => by
    unfold wipeE at h
    rcases get_set h with ⟨_, rfl⟩ | ⟨n, g⟩
    · exact .inl rfl
    · rcases wipeE_get g with e | ⟨e1, e2⟩
      · exact .inl e
      · exact .inr ⟨e1, by simp only [List.mem_cons, not_or]; exact ⟨n, e2⟩⟩
theorem backE_len (ρ0 ρ : En) : ∀ vs : List Nat, (backE ρ0 ρ vs).length = ρ.length
  | [] => rfl
  | v :: vs => by unfold backE; rw [List.length_set, backE_len ρ0 ρ vs]
theorem backE_get {ρ0 ρ : En} {i : Nat} {s : Sl} : ∀ {vs : List Nat}, (backE ρ0 ρ vs)[i]? = some s → (i ∈ vs ∧ s = keepD ρ0[i]?) ∨ (ρ[i]? = some s ∧ i ∉ vs)
  | [], h => .inr ⟨h, by simp⟩
  | v :: vs, h => by
    unfold backE at h
    rcases get_set h with ⟨rfl, rfl⟩ | ⟨n, g⟩
    · exact .inl ⟨List.mem_cons_self, rfl⟩
    · rcases backE_get g with ⟨e1, e2⟩ | ⟨e1, e2⟩
      · exact .inl ⟨List.mem_cons_of_mem _ e1, e2⟩
      · exact .inr ⟨e1, by simp only [List.mem_cons, not_or]; exact ⟨n, e2⟩⟩
theorem keepD_own (o : Option Sl) : (keepD o).isOwn = false ∧ (keepD o).fixed = false := by
  cases o with
  | none => exact ⟨rfl, rfl⟩
  | some s => cases s <;> exact ⟨rfl, rfl⟩
variable {c : Ct}
theorem wipe_rel {O : OS} {σ σw : L2.St} {H : Hp} {ρ : En} {vs : List Nat} (hl : σw.length = σ.length) (hw : ∀ i, i ∉ vs → σw[i]? = σ[i]?) (L : Rel K0 c O σ H ρ) : Rel K0 c O σw H (wipeE ρ vs) ∧ Stp σ σw ρ (wipeE ρ vs) H H O O := by
  refine ⟨⟨by rw [wipeE_len, hl]; exact L.len, L.low, L.dom0, L.o0, L.dom, fun i w s h1 h2 => ?_, fun i k a s t h1 h2 h3 h4 h5 h6 => ?_⟩, ⟨fun _ h => h, fun _ _ h _ => h, fun _ h => .inl h, fun a h => ?_, fun _ h => .inr h, fun i s h f => ?_⟩⟩
  · rcases wipeE_get h2 with rfl | ⟨g, n⟩
    · trivial
    · rw [hw i n] at h1; exact L.sl i w s h1 g
  · rcases wipeE_get h3 with rfl | ⟨g3, n3⟩
    · cases h5
    · rcases wipeE_get h4 with rfl | ⟨g4, n4⟩
      · cases h6
      · rw [hw i n3] at h1; rw [hw k n4] at h2
        exact L.inj i k a s t h1 h2 g3 g4 h5 h6
  · obtain ⟨i, s, h1, h2, h3⟩ := h
    rcases wipeE_get h2 with rfl | ⟨g, n⟩
    · cases h3
    · rw [hw i n] at h1; exact .inl ⟨i, s, h1, g, h3⟩
  · rcases wipeE_get h with rfl | ⟨g, n⟩
    · cases f
    · exact ⟨s, g, f, hw i n, Iff.rfl⟩
/-- the block's end: the names as they were -/
theorem back_rel {O O' : OS} {σ σw : L2.St} {H H' : Hp} {ρ ρ' : En} {vs : List Nat} (hl : σw.length = σ.length) (hw : ∀ i, i ∉ vs → σw[i]? = σ[i]?) (L : Rel K0 c O σ H ρ) (s : Stp σw σw (wipeE ρ vs) ρ' H H' O O') (L' : Rel K0 c O' σw H' ρ') (sm : Same (hid O H) (hid O' H')) :
    Rel K0 c O' σ H' (backE ρ ρ' vs) ∧ Stp σ σ ρ (backE ρ ρ' vs) H H' O O' := by
  have ow : ∀ a, Own σw (wipeE ρ vs) a → Own σ ρ a := fun a h => by
    obtain ⟨i, t, h1, h2, h3⟩ := h
    rcases wipeE_get h2 with rfl | ⟨g, n⟩
    · cases h3
    · rw [hw i n] at h1; exact ⟨i, t, h1, g, h3⟩
  have ob : ∀ a, Own σ (backE ρ ρ' vs) a → Own σw ρ' a := fun a h => by
    obtain ⟨i, t, h1, h2, h3⟩ := h
    rcases backE_get h2 with ⟨_, rfl⟩ | ⟨g, n⟩
    · rw [(keepD_own _).1] at h3; cases h3
    · rw [← hw i n] at h1; exact ⟨i, t, h1, g, h3⟩
  refine ⟨⟨by rw [backE_len, ← hl]; exact L'.len, L'.low, L'.dom0, L'.o0, L'.dom, fun i w t h1 h2 => ?_, fun i k a u t h1 h2 h3 h4 h5 h6 => ?_⟩, ⟨s.dom, fun a o e n => s.fr a o e fun z => n (ow a z), s.sub, fun a h => (s.own a (ob a h)).imp (ow a) id, fun a h => (s.keep a h).imp (ow a) id, fun i t h f => ?_⟩⟩
  · rcases backE_get h2 with ⟨_, rfl⟩ | ⟨g, n⟩
    · cases e : ρ[i]? with
      | none => trivial
      | some u =>
        cases u with
        | dat d =>
          obtain ⟨v, ev, hd⟩ := L.sl i w _ h1 e
          exact ⟨v, ev, dp_mono sm hd⟩
        | _ => trivial
    · rw [← hw i n] at h1; exact L'.sl i w t h1 g
  · rcases backE_get h3 with ⟨_, rfl⟩ | ⟨g3, n3⟩
    · rw [(keepD_own _).1] at h5; cases h5
    · rcases backE_get h4 with ⟨_, rfl⟩ | ⟨g4, n4⟩
      · rw [(keepD_own _).1] at h6; cases h6
      · rw [← hw i n3] at h1; rw [← hw k n4] at h2
        exact L'.inj i k a u t h1 h2 g3 g4 h5 h6
  · rcases backE_get h with ⟨_, rfl⟩ | ⟨g, n⟩
    · rw [(keepD_own _).2] at f; cases f
    · obtain ⟨u, q1, q2, q3, q4⟩ := s.fix i t g f
      rcases wipeE_get q1 with rfl | ⟨g1, n1⟩
      · cases q2
      · exact ⟨u, g1, q2, rfl, q4⟩
/-- a hidden object that no name holds is written -/
theorem upd_rel {O : OS} {σ : L2.St} {H : Hp} {ρ : En} {p : Addr} {o u : HO} (L : Rel K0 c O σ H ρ) (hO : O p = true) (hn : ¬ Own σ ρ p) (hH : H p = some u) : Rel K0 c O σ (upd H p o) ρ := by
  have dom' : ∀ a, H a ≠ none → upd H p o a ≠ none := fun a h => by
    by_cases e : a = p
    · subst e; rw [upd_same]; exact fun z => nomatch z
    · rw [upd_ne e]; exact h
  refine ⟨L.len, L.low, fun a h => dom' a (L.dom0 a h), L.o0, fun a h => dom' a (L.dom a h), fun i w t h1 h2 => ?_, L.inj⟩
  refine slOk_mono (by rw [hid_upd hO]; exact fun _ _ h => h) (fun a e ow => ⟨rfl, upd_ne fun z => ?_⟩) (L.sl i w t h1 h2)
  subst z
  exact hn ⟨i, t, by rw [h1, e], h2, ow⟩
end
/-- in a comprehension's block nothing may be raised -/
def Ct.blk (c : Ct) : Ct := { c with W := fun _ _ _ _ => False }
section
variable {c : Ct}
theorem relB {O : OS} {σ : L2.St} {H : Hp} {ρ : En} (L : Rel K0 c O σ H ρ) : Rel K0 c.blk O σ H ρ := ⟨L.len, L.low, L.dom0, L.o0, L.dom, L.sl, L.inj⟩
theorem relU {O : OS} {σ : L2.St} {H : Hp} {ρ : En} (L : Rel K0 c.blk O σ H ρ) : Rel K0 c O σ H ρ := ⟨L.len, L.low, L.dom0, L.o0, L.dom, L.sl, L.inj⟩
theorem wipe_in {σ : L2.St} {i : Nat} : ∀ {vs : List Nat}, i ∈ vs → i < σ.length → (wipe σ vs)[i]? = some none
  | v :: vs, h, hl => by
    unfold wipe
    by_cases e : v = i
    · subst e; rw [List.getElem?_set_self (by rw [wipe_length]; exact hl)]
    · rw [List.getElem?_set_ne e]
      rcases List.mem_cons.mp h with z | z
      · exact absurd z.symm e
      · exact wipe_in z hl
theorem wipe_only {σ σ3 : L2.St} {vs : List Nat} (o : Only vs (wipe σ vs) σ3) : wipe σ3 vs = wipe σ vs := by
  have hl : σ3.length = σ.length := by rw [o.1, wipe_length]
  apply List.ext_getElem?
  intro i
  by_cases hi : i < σ.length
  · by_cases hv : i ∈ vs
    · rw [wipe_in hv hi, wipe_in hv (by rw [hl]; exact hi)]
    · rw [wipe_out hv, o.2 i hv]
  · rw [List.getElem?_eq_none (by rw [wipe_length]; omega), List.getElem?_eq_none (by rw [wipe_length]; omega)]
theorem own_wipe {σ : L2.St} {ρ : En} {vs : List Nat} {a : Addr} (h : Own (wipe σ vs) (wipeE ρ vs) a) : Own σ ρ a := by
  obtain ⟨i, t, h1, h2, h3⟩ := h
  rcases wipeE_get h2 with rfl | ⟨g, n⟩
  · cases h3
  · rw [wipe_out n] at h1; exact ⟨i, t, h1, g, h3⟩
theorem own_back {σ : L2.St} {ρ ρ' : En} {vs : List Nat} {a : Addr} (h : Own σ (backE ρ ρ' vs) a) : Own (wipe σ vs) ρ' a := by
  obtain ⟨i, t, h1, h2, h3⟩ := h
  rcases backE_get h2 with ⟨_, rfl⟩ | ⟨g, n⟩
  · rw [(keepD_own _).1] at h3; cases h3
  · rw [← wipe_out (vs := vs) n] at h1; exact ⟨i, t, h1, g, h3⟩
theorem own_rest {σ : L2.St} {ρ ρ' : En} {h : Option Nat} {a : Addr} (o : Own σ (restO ρ h ρ') a) : Own σ ρ a ∨ Own σ ρ' a := by
  cases h with
  | none => exact .inr o
  | some j =>
    by_cases e : ρ'[j]? = some .hd
    · cases hj : ρ[j]? with
      | none =>
        have : restO ρ (some j) ρ' = ρ' := by unfold restO; simp only [e, hj]
        rw [this] at o; exact .inr o
      | some s =>
        rw [restO_hd e hj] at o
        obtain ⟨i, t, h1, h2, h3⟩ := o
        rcases get_set h2 with ⟨rfl, rfl⟩ | ⟨_, g⟩
        · exact .inl ⟨i, t, h1, hj, h3⟩
        · exact .inr ⟨i, t, h1, g, h3⟩
    · rw [restO_no e] at o; exact .inr o
theorem stp_upd {σ σ' : L2.St} {ρ ρ' : En} {H H' : Hp} {O O' : OS} {p : Addr} {o : HO} (s : Stp σ σ' ρ ρ' H H' O O') (hp : H p = none) : Stp σ σ' ρ ρ' H (upd H' p o) O O' where
  dom := fun a h => by
    by_cases e : a = p
    · subst e; rw [upd_same]; exact fun z => nomatch z
    · rw [upd_ne e]; exact s.dom a h
  fr := fun a u h n => by
    rw [upd_ne (ne_of_none h hp)]; exact s.fr a u h n
  sub := s.sub
  own := s.own
  keep := s.keep
  fix := s.fix
theorem lc_main {O : OS} {σ : L2.St} {H : Hp} {ρ : En} {Q : VK} {vs : List Nat} {z : Mo (List PyData × Option Nat)} {tg : Tg} {t : Mo Bool} {x : Mo Rs} (L : Rel K0 c O σ H ρ) (q : PostG K0 c O σ H ρ (RR K0 c σ) Q (xLc vs z tg t x ρ)) :
    tLc (rdJ c z) (rdT c.blk vs tg) (rdB c.blk t) (rdD K0 c.blk (eD x)) vs σ H Q := ⟨O, ρ, L, by
  refine PostG.bind mn_R L q fun a ρ1 J H1 O1 _ s L1 q1 _ k D hD => ?_
  obtain ⟨items, h⟩ := a
  by_cases hlen : items.length ≤ sizeLine
  rotate_left
  · simp only [if_neg hlen] at k; exact k.elim
  simp only [if_pos hlen] at k
  cases el : lcX vs tg t (eD x) items (wipeE (hideO ρ1 h) vs) with
  | none => simp only [el] at k; exact k.elim
  | some res =>
    obtain ⟨xs, ρe⟩ := res
    simp only [el] at k
    have Lh := hide_rel h L1
    have hw : ∀ i, i ∉ vs → (wipe σ vs)[i]? = σ[i]? := fun i n => wipe_out n
    obtain ⟨Lw, sw⟩ := wipe_rel (wipe_length σ vs) hw Lh
    let In : Nat → Hp → Prop := fun i H2 => ∃ O2 ρ2 acc accD xs', Stp (wipe σ vs) (wipe σ vs) (wipeE (hideO ρ1 h) vs) ρ2 H1 H2 O1 O2 ∧ Rel K0 c O2 (wipe σ vs) H2 ρ2 ∧ O2 D = true ∧ ¬ Own (wipe σ vs) ρ2 D ∧ H2 D = some (.lst acc) ∧ DpAll K0 (hid O2 H2) acc accD ∧ accD.length ≤ i ∧
      lcX vs tg t (eD x) (items.drop i) ρ2 = some (xs', ρe) ∧ accD ++ xs' = xs
    refine ⟨fun i m H2 => m = items.length - i ∧ i ≤ items.length ∧ In i H2, ⟨items.length, by simp, Nat.zero_le _, ?_⟩, ?_⟩
    · have al : Alc H1 (upd H1 D (.lst [])) O1 (ins O1 D) := Alc.new hD
      exact ⟨ins O1 D, _, [], [], xs, al.stp, al.rel Lw, ins_same, fun zz => (own_dom Lw zz).2 hD, upd_same, .nil, Nat.zero_le _, by rw [List.drop_zero]; exact el, rfl⟩
    · rintro i m H2 ⟨rfl, hi, O2, ρ2, acc, accD, xs', s2, L2, oD, nD, hHD, hdA, hle, elx, eapp⟩
      obtain ⟨stop, go⟩ := q1.2 H2 O2 (fun a o e n => s2.fr a o e fun zz => n (own_wipe zz)) (s2.same Lw) L2.dom
      by_cases hlt : i < items.length
      · have hd : items.drop i = items[i] :: items.drop (i + 1) := List.drop_eq_getElem_cons hlt
        rw [hd] at elx
        obtain ⟨g, y⟩ := go i items[i] (List.getElem?_eq_getElem hlt)
        refine .inr ⟨g, In (i + 1), fun H' n => ⟨items.length - (i + 1), by omega, rfl, hlt, n⟩, fun v H3 hy => ?_⟩
        obtain ⟨al, hdp⟩ := y v H3 hy
        have L3 := al.rel L2
        have s3 := s2.trans Lw (al.stp (σ := wipe σ vs) (ρ := ρ2))
        obtain ⟨oD3, nD3, hD3⟩ := keep_one (c := c) (al.stp (σ := wipe σ vs) (ρ := ρ2)) oD nD hHD
        have dA3 := dpAll_mono al.hid hdA
        refine ⟨O2, ρ2, items[i], relB L3, hdp, ?_⟩
        unfold lcX at elx
        cases et : tg items[i] ρ2 with
        | none => simp only [et] at elx; cases elx
        | some ρ3 =>
          simp only [et] at elx
          intro σ3 on s4 L4
          have L4 := relU L4
          have s34 := s3.trans Lw s4
          obtain ⟨oD4, nD4, hD4⟩ := keep_one (c := c) s4 oD3 nD3 hD3
          have wo := wipe_only on
          refine ⟨wo, O2, ρ3, relB L4, ?_⟩
          have hlw : (wipe σ vs).length = σ3.length := by rw [on.1]
          have hww : ∀ j, j ∉ vs → (wipe σ vs)[j]? = σ3[j]? := fun j n => (on.2 j n).symm
          match ett : t ρ3 with
          | none => simp only [ett] at elx; cases elx
          | some (.ex n fs, ρ4) => simp only [ett] at elx; cases elx
          | some (.val false, ρ4) =>
            simp only [ett] at elx
            intro b H5 O5 s5 L5 eb
            cases eb
            have L5 := relU L5
            rw [if_neg (by decide)]
            obtain ⟨oD5, nD5, hD5⟩ := keep_one (c := c) s5 oD4 nD4 hD4
            obtain ⟨Lz, sz⟩ := wipe_rel hlw hww L5
            obtain ⟨oD6, nD6, hD6⟩ := keep_one (c := c) sz oD5 nD5 hD5
            exact ⟨O5, _, acc, accD, xs', (s34.trans Lw s5).trans Lw sz, Lz, oD6, nD6, hD6, dpAll_mono (s5.same L4) dA3, by omega, elx, eapp⟩
          | some (.val true, ρ4) =>
            simp only [ett] at elx
            intro b H5 O5 s5 L5 eb
            cases eb
            have L5 := relU L5
            rw [if_pos rfl]
            obtain ⟨oD5, nD5, hD5⟩ := keep_one (c := c) s5 oD4 nD4 hD4
            refine ⟨O5, ρ4, relB L5, ?_⟩
            match ee : eD x ρ4 with
            | none => simp only [ee] at elx; cases elx
            | some (.ex n fs, ρ5) => simp only [ee] at elx; cases elx
            | some (.val xv, ρ5) =>
              simp only [ee] at elx
              intro w H6 O6 s6 L6 hdw
              have L6 := relU L6
              obtain ⟨oD6, nD6, hD6⟩ := keep_one (c := c) s6 oD5 nD5 hD5
              obtain ⟨Lz, sz⟩ := wipe_rel hlw hww L6
              obtain ⟨oD7, nD7, hD7⟩ := keep_one (c := c) sz oD6 nD6 hD6
              cases er : lcX vs tg t (eD x) (items.drop (i + 1)) (wipeE ρ5 vs) with
              | none => simp only [er] at elx; cases elx
              | some rr =>
                obtain ⟨xs2, ρe2⟩ := rr
                simp only [er] at elx
                cases elx
                have dA6 := dpAll_mono (s6.same L5) (dpAll_mono (s5.same L4) dA3)
                refine ⟨acc, hD6, by rw [dpAll_len hdA]; omega, O6, wipeE ρ5 vs, acc ++ [w], accD ++ [xv], xs2, stp_upd ((((s34.trans Lw s5).trans Lw s6).trans Lw sz)) hD, upd_rel Lz oD7 nD7 hD7, oD7, nD7, upd_same, ?_, by rw [List.length_append, List.length_singleton]; omega, er, by rw [List.append_assoc]; exact eapp⟩
                rw [hid_upd oD7]
                exact dpAll_app dA6 (.cons hdw .nil)
      · have e : i = items.length := by omega
        subst e
        rw [List.drop_length] at elx
        cases elx
        rw [List.append_nil] at eapp
        subst eapp
        refine .inl ⟨stop, ?_⟩
        obtain ⟨Lb, sb⟩ := back_rel (wipe_length σ vs) hw Lh s2 L2 (s2.same Lw)
        obtain ⟨su, Lu⟩ := unhide L1 q1.1 sb Lb
        refine k (.ref D) H2 O2 (s.trans L su) Lu ⟨D, acc, rfl, none_back s.dom hD, oD, fun zz => ?_, hHD, hdA⟩
        rcases own_rest zz with w | w
        · exact (own_dom L1 w).2 hD
        · exact nD (own_back w)⟩
variable {X : Cx}
theorem pts_imp {es : List Expr} {t t' : TT} (h : PTs X es t) (i : ∀ σ H Q, t' σ H Q → t σ H Q) : PTs X es t' := ⟨fun pins s σ H Q I q => h.run pins s σ H Q I (i σ H Q q)⟩
def tYesX : Mo Bool := ret true
theorem dts_nil : PTs X [] (rdB c tYesX) := pts_imp pts_nil fun σ H Q ⟨O, ρ, L, q⟩ => q.at L rfl
theorem dts_one {e : Expr} {t : Mo Bool} (h : PT X e (rdB c t)) : PTs X [e] (rdB c t) := pts_one h
theorem de_lc {elt tgE iter : Expr} {ifs : List Expr} {scope : Scope} (own : List (Str × Nat)) {pos : Pos} {z : Mo (List PyData × Option Nat)} {tg : Tg} {t : Mo Bool} {x : Mo Rs} (hc : X.calm = true) (hN : X.N.Nodup) (hi : PI X tgE iter (rdJ c z)) (ok : BlkOk X.N X.env.scope scope own)
    (hg : ∀ (s : Shared) (H : Hp) (C : Addr) (cl : List (Str × Addr)) (fp : List Addr), PG (X.blk s H scope (compEnvC scope cl C X.env) fp) tgE (rdT c.blk (own.map (·.2)) tg)) (ht : ∀ (s : Shared) (H : Hp) (C : Addr) (cl : List (Str × Addr)) (fp : List Addr), PTs (X.blk s H scope (compEnvC scope cl C X.env) fp) ifs (rdB c.blk t))
    (he : ∀ (s : Shared) (H : Hp) (C : Addr) (cl : List (Str × Addr)) (fp : List Addr), PE (X.blk s H scope (compEnvC scope cl C X.env) fp) elt (rd K0 c.blk x)) (hs : ∀ x, foldedSetIterable iter X.env x = pure x := by intro _; rfl) :
    PE X (.ListComp elt [⟨tgE, iter, ifs, 0⟩] scope pos) (rd K0 c (xLc (own.map (·.2)) z tg t x)) :=
  pe_imp (pe_lc hc hN hi ok hg ht (fun s H C cl fp => pe_eD (he s H C cl fp)) hs) fun σ H Q ⟨O, ρ, L, q⟩ => lc_main L q
theorem ds_setLc {i : Nat} {y : Str} {py : Pos} {elt tgE iter : Expr} {ifs : List Expr} {scope : Scope} (own : List (Str × Nat)) {pos spos : Pos} {z : Mo (List PyData × Option Nat)} {tg : Tg} {t : Mo Bool} {x : Mo Rs} (hc : X.calm = true) (hN : X.N.Nodup) (hy : X.N[i]? = some y) (hyl : X.env.scope.names.lookup y = some .local)
    (hsw : swapsWith (.ListComp elt [⟨tgE, iter, ifs, 0⟩] scope pos) (some (.Name y py)) spos.line X.env = pure true) (hi : PI X tgE iter (rdJ c z)) (ok : BlkOk X.N X.env.scope scope own)
    (hg : ∀ (s : Shared) (H : Hp) (C : Addr) (cl : List (Str × Addr)) (fp : List Addr), PG (X.blk s H scope (compEnvC scope cl C X.env) fp) tgE (rdT c.blk (own.map (·.2)) tg)) (ht : ∀ (s : Shared) (H : Hp) (C : Addr) (cl : List (Str × Addr)) (fp : List Addr), PTs (X.blk s H scope (compEnvC scope cl C X.env) fp) ifs (rdB c.blk t))
    (he : ∀ (s : Shared) (H : Hp) (C : Addr) (cl : List (Str × Addr)) (fp : List Addr), PE (X.blk s H scope (compEnvC scope cl C X.env) fp) elt (rd K0 c.blk x)) (hs : ∀ x, foldedSetIterable iter X.env x = pure x := by intro _; rfl) :
    PS X (.Assign [.Name y py] (.ListComp elt [⟨tgE, iter, ifs, 0⟩] scope pos) spos) (rdS c (ySet i (xLc (own.map (·.2)) z tg t x))) :=
  ps_imp (ps_setLc hc hN hy hyl hsw hi ok hg ht (fun s H C cl fp => pe_eD (he s H C cl fp)) hs) fun D σ H ⟨O, ρ, L, q⟩ => lc_main L (post_set L q)
end
end Dl
end

section
set_option Elab.async false
set_option linter.all false
set_option maxRecDepth 100000
namespace Dl
open PySem PySem.Spec PyProof.Rows L2

/-! ### what a def promises, by data -/
abbrev Fx := List Sl → Option (Out Rs × List Sl)
def ArgOk (O : OS) (H : Hp) (v : V) : Sl → Prop
  | .dat d => Dp K0 (hid O H) v d
  | .bor xs => ∃ a vs, v = .ref a ∧ O a = true ∧ H a = some (.lst vs) ∧ DpAll K0 (hid O H) vs xs
  | _ => False
inductive ArgsOk (O : OS) (H : Hp) : List V → List Sl → Prop where
  | nil : ArgsOk O H [] []
  | cons {v : V} {vs : List V} {s : Sl} {as : List Sl} : ArgOk O H v s → ArgsOk O H vs as → ArgsOk O H (v :: vs) (s :: as)
theorem ArgsOk.len {O : OS} {H : Hp} : ∀ {vs : List V} {as : List Sl}, ArgsOk O H vs as → vs.length = as.length
  | _, _, .nil => rfl
  | _, _, .cons _ r => by simp [r.len]
theorem ArgsOk.get {O : OS} {H : Hp} : ∀ {vs : List V} {as : List Sl} {i : Nat} {v : V} {s : Sl}, ArgsOk O H vs as → vs[i]? = some v → as[i]? = some s → ArgOk O H v s
  | _, _, _, _, _, .nil, h, _ => by simp at h
  | _, _, 0, _, _, .cons a _, h, g => by simp at h g; subst h; subst g; exact a
  | _, _, i + 1, _, _, .cons _ r, h, g => r.get (i := i) (by simpa using h) (by simpa using g)
def OwnA (vs : List V) (as : List Sl) (a : Addr) : Prop := ∃ (i : Nat) (xs : List PyData), vs[i]? = some (V.ref a) ∧ as[i]? = some (.bor xs)
structure StpA (vs : List V) (as : List Sl) (H H' : Hp) (O O' : OS) : Prop where
  dom : ∀ a, H a ≠ none → H' a ≠ none
  fr : ∀ a o, H a = some o → ¬ OwnA vs as a → H' a = some o
  sub : ∀ a, O' a = true → O a = true ∨ H a = none
  up : ∀ a, O a = true → O' a = true
  dm : ∀ a, O' a = true → H' a ≠ none
def RfOk (H H' : Hp) (O' : OS) (v : V) : Rs → Prop
  | .dt d => Dp K0 (hid O' H') v d
  | .new xs => ∃ p vs, v = .ref p ∧ H p = none ∧ O' p = true ∧ H' p = some (.lst vs) ∧ DpAll K0 (hid O' H') vs xs
  | .newd kvs => ∃ p ws, v = .ref p ∧ H p = none ∧ O' p = true ∧ H' p = some (.dK ws) ∧ DKs K0 (hid O' H') ws kvs
def EndF (ce : Nat → Addr) (O : OS) (H : Hp) (vs : List V) (as : List Sl) (Q : VK) (E : XK) : Option (Out Rs × List Sl) → Prop
  | none => False
  | some (.val r, bs) => ∀ v H' O', StpA vs as H H' O O' → ArgsOk O' H' vs bs → RfOk H H' O' v r → Q v H'
  | some (.ex n fs, bs) => ∀ dd H' O', StpA vs as H H' O O' → ArgsOk O' H' vs bs → H dd = none → O' dd = false → (∃ ws, H' dd = some (.xd ws) ∧ FsOk K0 (hid O' H') ws fs) → E (.ref (ce n)) (some dd) H'
def oneB (as : List Sl) : Prop := ∀ (i j : Nat) (xs ys : List PyData), as[i]? = some (.bor xs) → as[j]? = some (.bor ys) → i = j
def spX (ce : Nat → Addr) (n : Nat) (f : Fx) : Sp := fun vs H Q E => vs.length = n ∧ ∃ O as, (∀ a, O a = true → H a ≠ none) ∧ ArgsOk O H vs as ∧ oneB as ∧ EndF ce O H vs as Q E (f as)
def outs : List Sl → En → Option (List Sl)
  | [], _ => some []
  | .bor _ :: r, s :: ρ => match s with
    | .bor ys => match outs r ρ with
      | some q => some (.bor ys :: q)
      | none => none
    | _ => none
  | .bor _ :: _, [] => none
  | a :: r, _ :: ρ => match outs r ρ with
    | some q => some (a :: q)
    | none => none
  | a :: r, [] => match outs r [] with
    | some q => some (a :: q)
    | none => none
def fnX (n N : Nat) (y : Mo Fl) : Fx := fun as => if as.length = n then match y (as ++ List.replicate (N - n) .no) with
  | some (.val (.rt r), ρ') => match outs as ρ' with
    | some q => some (.val r, q)
    | none => none
  | some (.val .nx, ρ') => match outs as ρ' with
    | some q => some (.val (.dt .none), q)
    | none => none
  | some (.ex c fs, ρ') => match outs as ρ' with
    | some q => some (.ex c fs, q)
    | none => none
  | _ => none else none
/-- the arguments behind the body -/
theorem outs_ok {O O' : OS} {H H' : Hp} (m : Same (hid O H) (hid O' H')) : ∀ {vs : List V} {as : List Sl} {ρ : En} {q : List Sl}, ArgsOk O H vs as → outs as ρ = some q →
    (∀ (i : Nat) (xs ys : List PyData), as[i]? = some (.bor xs) → ρ[i]? = some (.bor ys) → ∀ v, vs[i]? = some v → ArgOk O' H' v (.bor ys)) → ArgsOk O' H' vs q
  | _, _, ρ, q, .nil, e, f => by cases e; exact .nil
  | _, _, [], q, .cons (s := s) a r, e, f => by
    cases s with
    | dat d =>
      simp only [outs] at e
      split at e
      · rename_i h; cases e
        exact .cons (dp_mono m a) (outs_ok m r h fun i xs ys h1 h2 => by simp at h2)
      · cases e
    | bor xs => cases e
    | _ => exact a.elim
  | _, _, t :: ρ, q, .cons (s := s) a r, e, f => by
    cases s with
    | dat d =>
      simp only [outs] at e
      split at e
      · rename_i h; cases e
        exact .cons (dp_mono m a) (outs_ok m r h fun i xs ys h1 h2 v hv => f (i + 1) xs ys (by simpa using h1) (by simpa using h2) v (by simpa using hv))
      · cases e
    | bor xs =>
      simp only [outs] at e
      split at e
      · split at e
        · rename_i h; cases e
          exact .cons (f 0 _ _ rfl rfl _ rfl) (outs_ok m r h fun i xs ys h1 h2 v hv => f (i + 1) xs ys (by simpa using h1) (by simpa using h2) v (by simpa using hv))
        · cases e
      · cases e
    | _ => exact a.elim
theorem app_get {as : List Sl} {n i : Nat} {s : Sl} (h : (as ++ List.replicate n Sl.no)[i]? = some s) : as[i]? = some s ∨ s = .no := by
  rw [List.getElem?_append] at h
  split at h
  · exact .inl h
  · rw [List.getElem?_replicate] at h
    split at h
    · cases h; exact .inr rfl
    · cases h
theorem start_get {N : List Str} {vs : List V} {i : Nat} {a : V} (h : (L2.start N vs)[i]? = some (some a)) : vs[i]? = some a := by
  unfold L2.start at h
  rw [List.getElem?_append] at h
  split at h
  · rw [List.getElem?_map] at h
    cases e : vs[i]? with
    | none => rw [e] at h; cases h
    | some v => rw [e] at h; cases h; rfl
  · rw [List.getElem?_replicate] at h
    split at h <;> cases h
theorem start_of {N : List Str} {vs : List V} {i : Nat} {a : V} (h : vs[i]? = some a) : (L2.start N vs)[i]? = some (some a) := by
  have hl : i < vs.length := by
    rcases Nat.lt_or_ge i vs.length with q | q
    · exact q
    · rw [List.getElem?_eq_none q] at h; cases h
  unfold L2.start
  rw [List.getElem?_append_left (by simpa using hl), List.getElem?_map, h]; rfl
theorem own_start {N : List Str} {vs : List V} {O : OS} {H : Hp} {as : List Sl} {n : Nat} (A : ArgsOk O H vs as) {a : Addr} (h : Own (L2.start N vs) (as ++ List.replicate n .no) a) : OwnA vs as a := by
  obtain ⟨i, s, h1, h2, h3⟩ := h
  have g1 := start_get h1
  rcases app_get h2 with g2 | rfl
  · have q := A.get g1 g2
    cases s with
    | bor xs => exact ⟨i, xs, g1, g2⟩
    | dat d => cases h3
    | _ => exact q.elim
  · cases h3
theorem start_rel {ce : Nat → Addr} {W : WX} {N : List Str} {vs : List V} {O : OS} {H : Hp} {as : List Sl} (hO : ∀ a, O a = true → H a ≠ none) (A : ArgsOk O H vs as) (o : oneB as) (hn : vs.length ≤ N.length) : Rel K0 ⟨H, O, ce, W⟩ O (L2.start N vs) H (as ++ List.replicate (N.length - vs.length) .no) where
  len := by unfold L2.start; simp [A.len]
  low := fun _ h => h
  dom0 := fun _ h => h
  o0 := hO
  dom := hO
  sl := fun i w s h1 h2 => by
    rcases app_get h2 with g2 | rfl
    · have hl : i < vs.length := by
        rw [A.len]
        rcases Nat.lt_or_ge i as.length with q | q
        · exact q
        · rw [List.getElem?_eq_none q] at g2; cases g2
      have g1 : vs[i]? = some vs[i] := List.getElem?_eq_getElem hl
      rw [start_of g1] at h1; cases h1
      have q := A.get g1 g2
      cases s with
      | dat d => exact ⟨_, rfl, q⟩
      | bor xs => obtain ⟨a, us, e, q⟩ := q; exact ⟨a, us, by rw [e], q⟩
      | _ => exact q.elim
    · trivial
  inj := fun i j a s t h1 h2 h3 h4 h5 h6 => by
    rcases app_get h3 with g3 | rfl
    · rcases app_get h4 with g4 | rfl
      · have q1 := A.get (start_get h1) g3
        have q2 := A.get (start_get h2) g4
        cases s with
        | bor xs =>
          cases t with
          | bor ys => exact o i j xs ys g3 g4
          | dat _ => cases h6
          | _ => exact q2.elim
        | dat _ => cases h5
        | _ => exact q1.elim
      · cases h6
    · cases h5
section
variable {P : Program} {w : World} {K : PySem.W.Frag} {mg : Str → Option Value} {base : Heap} {ce : Nat → Addr}
theorem fn_ok {x qual : Str} {st : Stmt} {f : Addr} {fd : FuncData} {N ps : List Str} {k : Nat} {y : Mo Fl} (F : Fun K x qual st f fd) (S : FnScope N ps (defScope st))
    (hbody : ∀ (cdv : Value) (A : Around) (outer : List Env) (s : Shared) (H : Hp) (E : XK) (O : OS), Room k (A.deeper (envOfC qual (defScope st) s.heap.objs.size f cdv)) →
      PSs (cxOf (L2.CX P w) P w K mg base N qual (defScope st) f cdv A outer s H E) (defBody st) (rdS ⟨H, O, ce, fun cls d _ H => E cls d H⟩ y)) : FnOk P w K mg base (L2.CX P w) (k + 1) f fd ps (spX ce ps.length (fnX ps.length N.length y)) := by
  refine F.okX S (fun vs H Q E h => h.1) fun cdv A outer s H vs Q E hr h => ?_
  obtain ⟨hn, O, as, hO, Ar, o1, q⟩ := h
  have hpl : vs.length ≤ N.length := by
    have := congrArg List.length S.pre
    rw [List.length_take] at this
    omega
  have L : Rel K0 ⟨H, O, ce, fun cls d _ H => E cls d H⟩ O (L2.start N vs) H (as ++ List.replicate (N.length - vs.length) .no) := start_rel hO Ar o1 hpl
  refine ⟨_, hbody cdv A outer s H E O hr, O, _, L, ?_⟩
  have hal : as.length = ps.length := by rw [← Ar.len]; exact hn
  unfold fnX at q
  rw [if_pos hal, ← hn] at q
  have ends : ∀ {σ' : L2.St} {H' : Hp} {O' : OS} {ρ' : En} {qs : List Sl}, Stp (L2.start N vs) σ' (as ++ List.replicate (N.length - vs.length) .no) ρ' H H' O O' → Rel K0 ⟨H, O, ce, fun cls d _ H => E cls d H⟩ O' σ' H' ρ' → outs as ρ' = some qs →
      StpA vs as H H' O O' ∧ ArgsOk O' H' vs qs := fun {σ' H' O' ρ' qs} s1 L1 e => by
    refine ⟨⟨s1.dom, fun a u h n => s1.fr a u h fun z => n (own_start Ar z), s1.sub, L1.low, L1.dom⟩, outs_ok (s1.same L) Ar e fun i xs ys h1 h2 v hv => ?_⟩
    obtain ⟨t, _, _, q3, _⟩ := s1.fix i _ h2 rfl
    have z : σ'[i]? = some (some v) := q3.trans (start_of hv)
    obtain ⟨a, us, e1, o, hh, dd⟩ := L1.sl i _ _ z h2
    cases e1
    exact ⟨a, us, rfl, o, hh, dd⟩
  have rf : ∀ {σ' : L2.St} {H' : Hp} {O' : OS} {ρ' : En} {v : V} {r : Rs}, RtOk ⟨H, O, ce, fun cls d _ H => E cls d H⟩ σ' ρ' H' O' v r → RfOk H H' O' v r := fun {σ' H' O' ρ' v r} h => by
    cases r with
    | dt d => exact h
    | new xs => obtain ⟨p, us, e, h0, o, _, q⟩ := h; exact ⟨p, us, e, h0, o, q⟩
    | newd xs => obtain ⟨p, us, e, h0, o, _, q⟩ := h; exact ⟨p, us, e, h0, o, q⟩
  match ey : y (as ++ List.replicate (N.length - vs.length) .no) with
  | none => simp only [ey] at q; exact q.elim
  | some (.val .bk, ρ') => simp only [ey] at q; exact q.elim
  | some (.val .ct, ρ') => simp only [ey] at q; exact q.elim
  | some (.val .nx, ρ') =>
    simp only [ey] at q
    cases eo : outs as ρ' with
    | none => simp only [eo] at q; exact q.elim
    | some qs =>
      simp only [eo] at q
      rw [ey]
      intro σ' H' O' s1 L1
      obtain ⟨sa, ao⟩ := ends s1 L1 eo
      exact q .non H' O' sa ao .non
  | some (.val (.rt r), ρ') =>
    simp only [ey] at q
    cases eo : outs as ρ' with
    | none => simp only [eo] at q; exact q.elim
    | some qs =>
      simp only [eo] at q
      rw [ey]
      intro v σ' H' O' s1 L1 hr1
      obtain ⟨sa, ao⟩ := ends s1 L1 eo
      exact q v H' O' sa ao (rf hr1)
  | some (.ex n fs, ρ') =>
    simp only [ey] at q
    cases eo : outs as ρ' with
    | none => simp only [eo] at q; exact q.elim
    | some qs =>
      simp only [eo] at q
      rw [ey]
      intro dd σ' H' O' s1 L1 he
      obtain ⟨sa, ao⟩ := ends s1 L1 eo
      exact q dd H' O' sa ao he.1 he.2.1 he.2.2
end

/-! ### calls -/
def xCallD (f : Fx) (ys : Mo (List Vd)) : Mo Rs := bnd ys fun as ρ => match dts as with
  | none => none
  | some ds => match f (ds.map .dat) with
    | none => none
    | some (o, _) => some (o, ρ)
/-- the first argument a list of one's own, handed on -/
def xCallB (j : Nat) (f : Fx) (ys : Mo (List Vd)) : Mo Rs := bnd ys fun as ρ => match as with
  | .pl i :: r => if i = j then match dts r with
    | none => none
    | some ds => match ρ[j]? with
      | none => none
      | some s => match lsl s with
        | none => none
        | some xs => match f (.bor xs :: ds.map .dat) with
          | some (o, .bor ys :: _) => some (o, ρ.set j (putL s ys))
          | _ => none else none
  | _ => none
section
variable {c : Ct}
theorem args_dat {O : OS} {H : Hp} : ∀ {vs : List V} {ds : List PyData}, DpAll K0 (hid O H) vs ds → ArgsOk O H vs (ds.map .dat)
  | _, _, .nil => .nil
  | _, _, .cons a r => .cons a (args_dat r)
theorem dat_get {ds : List PyData} {i : Nat} {xs : List PyData} (h : (ds.map Sl.dat)[i]? = some (.bor xs)) : False := by
  rw [List.getElem?_map] at h
  cases e : ds[i]? with
  | none => rw [e] at h; cases h
  | some d => rw [e] at h; cases h
theorem call_dat {O : OS} {σ : L2.St} {H : Hp} {ρ : En} {Q : VK} {vs : List V} {ds : List PyData} {f : Fx} {n : Nat} (L : Rel K0 c O σ H ρ) (hn : vs.length = n) (hd : DpAll K0 (hid O H) vs ds)
    (k : PostG K0 c O σ H ρ (RR K0 c σ) Q (match f (ds.map .dat) with | none => none | some (o, _) => some (o, ρ))) : spX c.ce n f vs H Q (WE c.W σ) := by
  have no : ∀ a, ¬ OwnA vs (ds.map .dat) a := fun a ⟨i, xs, _, h⟩ => dat_get h
  refine ⟨hn, O, _, L.dom, args_dat hd, fun i j xs ys h => (dat_get h).elim, ?_⟩
  have st : ∀ {H' : Hp} {O' : OS}, StpA vs (ds.map .dat) H H' O O' → Alc H H' O O' := fun {H' O'} s => ⟨fun a o e => s.fr a o e (no a), fun a h => (s.sub a h).imp id fun z => ⟨z, s.dm a h⟩, s.up⟩
  match e : f (ds.map .dat) with
  | none => rw [e] at k; exact k
  | some (.val r, bs) =>
    rw [e] at k
    intro v H' O' s A q
    have al := st s
    refine k v H' O' al.stp (al.rel L) ?_
    cases r with
    | dt d => exact q
    | new xs => obtain ⟨p, us, e1, h0, o, q⟩ := q; exact ⟨p, us, e1, h0, o, fun z => (own_dom L z).2 h0, q⟩
    | newd xs => obtain ⟨p, us, e1, h0, o, q⟩ := q; exact ⟨p, us, e1, h0, o, fun z => (own_dom L z).2 h0, q⟩
  | some (.ex m fs, bs) =>
    rw [e] at k
    intro dd H' O' s A h0 hO q
    have al := st s
    exact k dd H' O' al.stp (al.rel L) ⟨h0_of L h0, hO, q⟩
theorem call_bor {O : OS} {σ : L2.St} {H : Hp} {ρ : En} {Q : VK} {v0 : V} {vs : List V} {ds xs : List PyData} {f : Fx} {n j : Nat} {s : Sl} (L : Rel K0 c O σ H ρ) (hn : (v0 :: vs).length = n) (hd : DpAll K0 (hid O H) vs ds) (hv : σ[j]? = some (some v0)) (hj : ρ[j]? = some s) (hl : lsl s = some xs)
    (k : PostG K0 c O σ H ρ (RR K0 c σ) Q (match f (.bor xs :: ds.map .dat) with | some (o, .bor ys :: _) => some (o, ρ.set j (putL s ys)) | _ => none)) : spX c.ce n f (v0 :: vs) H Q (WE c.W σ) := by
  obtain ⟨p, us, hw, hO, hH, hdp⟩ := oN_list (K := K0) L hj hl
  rw [hv] at hw; cases hw
  have ow : ∀ a, OwnA (.ref p :: vs) (.bor xs :: ds.map .dat) a → a = p := fun a ⟨i, ys, h1, h2⟩ => by
    cases i with
    | zero => simp at h1; exact h1.symm
    | succ i => exact (dat_get (List.getElem?_cons_succ.symm.trans h2)).elim
  refine ⟨hn, O, .bor xs :: ds.map .dat, L.dom, .cons ⟨p, us, rfl, hO, hH, hdp⟩ (args_dat hd), fun i k xs ys h1 h2 => ?_, ?_⟩
  · cases i with
    | zero => cases k with
      | zero => rfl
      | succ k => exact (dat_get (List.getElem?_cons_succ.symm.trans h2)).elim
    | succ i => exact (dat_get (List.getElem?_cons_succ.symm.trans h1)).elim
  -- behind the call: the list at p is another one, all else stands
  have key : ∀ {H' : Hp} {O' : OS} {ys : List PyData} {bs : List Sl}, StpA (.ref p :: vs) (.bor xs :: ds.map .dat) H H' O O' → ArgsOk O' H' (.ref p :: vs) (.bor ys :: bs) → Stp σ σ ρ (ρ.set j (putL s ys)) H H' O O' ∧ Rel K0 c O' σ H' (ρ.set j (putL s ys)) := fun {H' O' ys bs} sa ao => by
    obtain ⟨p', us', e, hO', hH', hd'⟩ : ArgOk O' H' (.ref p) (.bor ys) := by cases ao with | cons a _ => exact a
    cases e
    have fr' : ∀ a o, H a = some o → a ≠ p → H' a = some o := fun a o e n => sa.fr a o e fun z => n (ow a z)
    have sm : Same (hid O H) (hid O' H') := fun a o h => by
      obtain ⟨h1, h2⟩ := hid_le h
      have np : a ≠ p := fun e => by subst e; rw [hO] at h1; cases h1
      have z : O' a = false := by
        cases e : O' a with
        | false => rfl
        | true =>
          rcases sa.sub a e with q | q
          · rw [h1] at q; cases q
          · rw [h2] at q; cases q
      rw [hid_of z]; exact fr' a o h2 np
    have own' : ∀ a, Own σ (ρ.set j (putL s ys)) a → Own σ ρ a := fun a h => by
      obtain ⟨i, t, h1, h2, h3⟩ := h
      rcases get_set h2 with ⟨e, rfl⟩ | ⟨_, g⟩
      · subst e; exact ⟨i, s, h1, hj, lsl_own hl⟩
      · exact ⟨i, t, h1, g, h3⟩
    have pown : Own σ ρ p := ⟨j, s, hv, hj, lsl_own hl⟩
    refine ⟨⟨sa.dom, fun a o e n => fr' a o e fun z => by subst z; exact n pown, sa.sub, fun a h => .inl (own' a h), fun a h => .inr (sa.up a h), fun i t h f => ?_⟩, ⟨by rw [List.length_set]; exact L.len, fun a h => sa.up a (L.low a h), fun a h => sa.dom a (L.dom0 a h), L.o0, sa.dm, fun i w t h1 h2 => ?_, fun i k a u t h1 h2 h3 h4 h5 h6 => ?_⟩⟩
    · rcases get_set h with ⟨e, rfl⟩ | ⟨_, g⟩
      · subst e
        obtain ⟨q1, q2, q3⟩ := put_fixed (ys := ys) hl
        exact ⟨s, hj, by rw [← q1]; exact f, rfl, ⟨fun z => absurd z q3, fun z => absurd z q2⟩⟩
      · exact ⟨t, g, f, rfl, Iff.rfl⟩
    · rcases get_set h2 with ⟨e, rfl⟩ | ⟨n, g⟩
      · subst e
        rw [hv] at h1; cases h1
        have ok := L.sl i _ s hv hj
        cases s with
        | own zs => obtain ⟨a, _, e1, h0, _⟩ := ok; cases e1; exact ⟨p, us', rfl, h0, hO', hH', hd'⟩
        | bor zs => exact ⟨p, us', rfl, hO', hH', hd'⟩
        | _ => cases hl
      · refine slOk_mono sm (fun a e o => ?_) (L.sl i w t h1 g)
        have np : a ≠ p := fun z => by
          subst z
          exact n (L.inj i j a t s (by rw [h1, e]) hv g hj o (lsl_own hl))
        have oa := own_dom L (a := a) ⟨i, t, by rw [h1, e], g, o⟩
        refine ⟨by rw [oa.1, sa.up a oa.1], ?_⟩
        cases eh : H a with
        | none => exact absurd eh oa.2
        | some u => exact fr' a u eh np
    · have f : ∀ (i : Nat) (u : Sl), (ρ.set j (putL s ys))[i]? = some u → u.isOwn = true → ∃ u', ρ[i]? = some u' ∧ u'.isOwn = true := fun i u h o => by
        rcases get_set h with ⟨e, rfl⟩ | ⟨_, g⟩
        · subst e; exact ⟨s, hj, lsl_own hl⟩
        · exact ⟨u, g, o⟩
      obtain ⟨u', g1, g2⟩ := f i u h3 h5
      obtain ⟨t', g3, g4⟩ := f k t h4 h6
      exact L.inj i k a u' t' h1 h2 g1 g3 g2 g4
  match e : f (.bor xs :: ds.map .dat) with
  | none => rw [e] at k; exact k
  | some (.val r, .bor ys :: bs) =>
    rw [e] at k
    intro v H' O' sa A q
    obtain ⟨s1, L1⟩ := key sa A
    refine k v H' O' s1 L1 ?_
    have nn : ∀ q : Addr, H q = none → ¬ Own σ (ρ.set j (putL s ys)) q := fun q h0 z => by
      rcases s1.own q z with w | w
      · exact (own_dom L w).2 h0
      · obtain ⟨i, t, h1, h2, h3⟩ := z
        rcases get_set h2 with ⟨e, rfl⟩ | ⟨_, g⟩
        · subst e; rw [hv] at h1; cases h1; rw [hH] at h0; cases h0
        · exact (own_dom L ⟨i, t, h1, g, h3⟩).2 h0
    cases r with
    | dt d => exact q
    | new xs => obtain ⟨p, us, e1, h0, o, q⟩ := q; exact ⟨p, us, e1, h0, o, nn p h0, q⟩
    | newd xs => obtain ⟨p, us, e1, h0, o, q⟩ := q; exact ⟨p, us, e1, h0, o, nn p h0, q⟩
  | some (.ex m fs, .bor ys :: bs) =>
    rw [e] at k
    intro dd H' O' sa A h0 hO q
    obtain ⟨s1, L1⟩ := key sa A
    exact k dd H' O' s1 L1 ⟨h0_of L h0, hO, q⟩
  | some (.val r, []) => rw [e] at k; exact k.elim
  | some (.ex m fs, []) => rw [e] at k; exact k.elim
  | some (.val r, .no :: bs) => rw [e] at k; exact k.elim
  | some (.val r, .hd :: bs) => rw [e] at k; exact k.elim
  | some (.val r, .dat _ :: bs) => rw [e] at k; exact k.elim
  | some (.val r, .own _ :: bs) => rw [e] at k; exact k.elim
  | some (.val r, .dct _ :: bs) => rw [e] at k; exact k.elim
  | some (.val r, .exc _ _ :: bs) => rw [e] at k; exact k.elim
  | some (.ex m fs, .no :: bs) => rw [e] at k; exact k.elim
  | some (.ex m fs, .hd :: bs) => rw [e] at k; exact k.elim
  | some (.ex m fs, .dat _ :: bs) => rw [e] at k; exact k.elim
  | some (.ex m fs, .own _ :: bs) => rw [e] at k; exact k.elim
  | some (.ex m fs, .dct _ :: bs) => rw [e] at k; exact k.elim
  | some (.ex m fs, .exc _ _ :: bs) => rw [e] at k; exact k.elim
variable {X : Cx} {k : Nat} {f : Addr} {fd : FuncData} {ps : List Str} {n : Nat} {xf : Fx} {x : Str} {p pos : Pos} {e : Expr} {es : List Expr} {ys : Mo (List Vd)}
theorem rvl_len {K : PySem.W.Frag} {σ : L2.St} {H : Hp} {O : OS} : ∀ {vs : List V} {as : List Vd}, RVl K σ H O vs as → vs.length = as.length
  | _, _, .nil => rfl
  | _, _, .cons _ r => by simp [rvl_len r]
theorem dts_len : ∀ {as : List Vd} {ds : List PyData}, dts as = some ds → as.length = ds.length
  | [], _, e => by cases e; rfl
  | .dt d :: r, _, e => by
    unfold dts at e
    split at e
    · rename_i h; cases e; simp [dts_len h]
    · cases e
  | .pl _ :: _, _, e => by cases e
theorem post_callD {O : OS} {σ : L2.St} {H : Hp} {ρ : En} {Q : VK} (hn : ∀ ds, xf ds = none ∨ ds.length = n) (L : Rel K0 c O σ H ρ) (q : PostG K0 c O σ H ρ (RR K0 c σ) Q (xCallD xf ys ρ)) : PostG K0 c O σ H ρ (RVs K0 σ) (fun vs H1 => spX c.ce n xf vs H1 Q (WE c.W σ)) (ys ρ) := by
  refine PostG.bind mn_R L q fun as ρ1 vs H1 O1 _ s L1 q1 k _ => ?_
  cases e : dts as with
  | none => simp only [e] at k; exact k.elim
  | some ds =>
    simp only [e] at k
    have hd := dts_ok q1 e
    rcases hn (ds.map .dat) with z | z
    · rw [z] at k; exact k.elim
    · exact call_dat L1 (by rw [dpAll_len hd]; simpa using z) hd k
theorem post_callB {O : OS} {σ : L2.St} {H : Hp} {ρ : En} {Q : VK} {j : Nat} (hn : ∀ ds, xf ds = none ∨ ds.length = n) (L : Rel K0 c O σ H ρ) (q : PostG K0 c O σ H ρ (RR K0 c σ) Q (xCallB j xf ys ρ)) : PostG K0 c O σ H ρ (RVs K0 σ) (fun vs H1 => spX c.ce n xf vs H1 Q (WE c.W σ)) (ys ρ) := by
  refine PostG.bind mn_R L q fun as ρ1 vs H1 O1 _ s L1 q1 k k0 => ?_
  clear k0
  match as, q1, k with
  | [], _, k => exact k.elim
  | .dt _ :: _, _, k => exact k.elim
  | .pl i :: r, q1, k =>
    simp only at k
    split at k
    · rename_i ei
      subst ei
      cases q1 with
      | @cons v0 vs _ _ h0 hr =>
        cases e : dts r with
        | none => simp only [e] at k; exact k.elim
        | some ds =>
          simp only [e] at k
          cases hj : ρ1[i]? with
          | none => simp only [hj] at k; exact k.elim
          | some sl =>
            simp only [hj] at k
            cases hl : lsl sl with
            | none => simp only [hl] at k; exact k.elim
            | some xs =>
              simp only [hl] at k
              have hd := dts_ok hr e
              rcases hn (.bor xs :: ds.map .dat) with z | z
              · rw [z] at k; exact k.elim
              · exact call_bor L1 (by rw [List.length_cons, dpAll_len hd]; simpa using z) hd h0 hj hl k
    · exact k.elim
theorem fnX_len {N : Nat} {y : Mo Fl} (as : List Sl) : fnX n N y as = none ∨ as.length = n := by
  by_cases h : as.length = n
  · exact .inr h
  · refine .inl ?_; unfold fnX; rw [if_neg h]
theorem de_callD (F : FnOk X.prog X.w X.K X.mg X.base (L2.CX X.prog X.w) k f fd ps (spX c.ce n xf)) (hr : Room k X.A) (hm : X.mg x = some (.ref f)) (hk : PySem.W.keepIn X.K (.ref f) = true) (hb : Binds X.K fd ps []) (tk : Takes X c.W) (hn : ∀ ds, xf ds = none ∨ ds.length = n) (ha : PA X (e :: es) (rdVs K0 c ys))
    (hg : Gl X x := by rfl) (hdb : (x == ("__debug__" : Str)) = false := by decide) (he : starEach (e :: es) X.env = (false, eval e X.env) :: starEach es X.env := by rfl) (hpl : (backTo pos (starEach es X.env)).any (·.1) = false := by rfl) :
    PE X (.Call (.Name x p) (e :: es) [] pos) (rd K0 c (xCallD xf ys)) := pe_imp (pe_callS F hr hg hm hk hb (fun σ => passAt tk σ) ha hdb he hpl) fun σ H Q ⟨O, ρ, L, q⟩ => ⟨O, ρ, L, post_callD hn L q⟩
theorem de_callB (j : Nat) (F : FnOk X.prog X.w X.K X.mg X.base (L2.CX X.prog X.w) k f fd ps (spX c.ce n xf)) (hr : Room k X.A) (hm : X.mg x = some (.ref f)) (hk : PySem.W.keepIn X.K (.ref f) = true) (hb : Binds X.K fd ps []) (tk : Takes X c.W) (hn : ∀ ds, xf ds = none ∨ ds.length = n) (ha : PA X (e :: es) (rdVs K0 c ys))
    (hg : Gl X x := by rfl) (hdb : (x == ("__debug__" : Str)) = false := by decide) (he : starEach (e :: es) X.env = (false, eval e X.env) :: starEach es X.env := by rfl) (hpl : (backTo pos (starEach es X.env)).any (·.1) = false := by rfl) :
    PE X (.Call (.Name x p) (e :: es) [] pos) (rd K0 c (xCallB j xf ys)) := pe_imp (pe_callS F hr hg hm hk hb (fun σ => passAt tk σ) ha hdb he hpl) fun σ H Q ⟨O, ρ, L, q⟩ => ⟨O, ρ, L, post_callB hn L q⟩
theorem de_call0 (F : FnOk X.prog X.w X.K X.mg X.base (L2.CX X.prog X.w) k f fd ps (spX c.ce n xf)) (hr : Room k X.A) (hm : X.mg x = some (.ref f)) (hk : PySem.W.keepIn X.K (.ref f) = true) (hb : Binds X.K fd ps []) (tk : Takes X c.W) (hn : ∀ ds, xf ds = none ∨ ds.length = n)
    (hg : Gl X x := by rfl) (hdb : (x == ("__debug__" : Str)) = false := by decide) : PE X (.Call (.Name x p) [] [] pos) (rd K0 c (xCallD xf vNil)) := ⟨fun pins s σ H Q I h => by
  refine wpAny_Call_Name_kw (ld_glob I hg hm ?_ hdb)
  obtain ⟨O, ρ, L, q⟩ := h
  exact PySem.W.callWith_K0 I.kIn hk (run_fnS (us := []) F hr hb (passAt tk σ) I .nil ((post_callD (ys := vNil) hn L q).at L .nil))⟩
end
end Dl
end

section
set_option Elab.async false
set_option linter.all false
set_option maxRecDepth 100000
namespace Dl
open PySem PySem.Spec PyProof.Rows L2

/-! ### several values at once -/
inductive RRl (c : Ct) (σ : L2.St) (H : Hp) (ρ' : En) (H' : Hp) (O' : OS) : List V → List Rs → Prop where
  | nil : RRl c σ H ρ' H' O' [] []
  | cons {v : V} {vs : List V} {r : Rs} {rs : List Rs} : RsOk K0 c σ H ρ' H' O' v r → ((slotOf r).isOwn = true → ∀ (i : Nat) (w : V) (t : Rs), vs[i]? = some w → rs[i]? = some t → (slotOf t).isOwn = true → w ≠ v) → RRl c σ H ρ' H' O' vs rs → RRl c σ H ρ' H' O' (v :: vs) (r :: rs)
def RRs (c : Ct) : L2.St → Hp → En → Hp → OS → List V → List Rs → Prop := fun σ H ρ H' O vs rs => RRl c σ H ρ H' O vs rs
theorem rrl_back {c : Ct} {σ : L2.St} {H H1 : Hp} (m : ∀ a, H a ≠ none → H1 a ≠ none) {ρ : En} {H' : Hp} {O : OS} : ∀ {vs : List V} {rs : List Rs}, RRl c σ H1 ρ H' O vs rs → RRl c σ H ρ H' O vs rs
  | _, _, .nil => .nil
  | _, _, .cons a b r => .cons (mn_R _ _ m _ _ _ _ _ a) b (rrl_back m r)
theorem mn_Rs {c : Ct} {σ : L2.St} : Mn (RRs c σ) := fun _ _ m _ _ _ _ _ h => rrl_back m h
theorem rsOk_later {c : Ct} {σ : L2.St} {ρ ρ' : En} {H0 H H' : Hp} {O O' : OS} {v : V} {r : Rs} (L : Rel K0 c O σ H ρ) (s : Stp σ σ ρ ρ' H H' O O') (h : RsOk K0 c σ H0 ρ H O v r) : RsOk K0 c σ H0 ρ' H' O' v r := by
  cases r with
  | dt d => exact dp_mono (s.same L) h
  | new xs =>
    obtain ⟨p, vs, e, n, o, nn, hh, d⟩ := h
    obtain ⟨a1, a2, a3⟩ := keep_one (c := c) s o nn hh
    exact ⟨p, vs, e, n, a1, a2, a3, dpAll_mono (s.same L) d⟩
  | newd xs =>
    obtain ⟨p, vs, e, n, o, nn, hh, d⟩ := h
    obtain ⟨a1, a2, a3⟩ := keep_one (c := c) s o nn hh
    exact ⟨p, vs, e, n, a1, a2, a3, dKs_mono (s.same L) d⟩
theorem rrl_later {c : Ct} {σ : L2.St} {ρ ρ' : En} {H0 H H' : Hp} {O O' : OS} (L : Rel K0 c O σ H ρ) (s : Stp σ σ ρ ρ' H H' O O') : ∀ {vs : List V} {rs : List Rs}, RRl c σ H0 ρ H O vs rs → RRl c σ H0 ρ' H' O' vs rs
  | _, _, .nil => .nil
  | _, _, .cons a b r => .cons (rsOk_later L s a) b (rrl_later L s r)
theorem rsOk_ref {c : Ct} {σ : L2.St} {ρ : En} {H0 H : Hp} {O : OS} {v : V} {r : Rs} (h : RsOk K0 c σ H0 ρ H O v r) (o : (slotOf r).isOwn = true) : ∃ p, v = .ref p ∧ H0 p = none ∧ H p ≠ none := by
  cases r with
  | dt d => cases o
  | new xs => obtain ⟨p, vs, e, n, _, _, hh, _⟩ := h; exact ⟨p, e, n, by rw [hh]; exact fun z => nomatch z⟩
  | newd xs => obtain ⟨p, vs, e, n, _, _, hh, _⟩ := h; exact ⟨p, e, n, by rw [hh]; exact fun z => nomatch z⟩
theorem rrl_get {c : Ct} {σ : L2.St} {H : Hp} {ρ : En} {H' : Hp} {O : OS} : ∀ {vs : List V} {rs : List Rs} {i : Nat} {w : V} {t : Rs}, RRl c σ H ρ H' O vs rs → vs[i]? = some w → rs[i]? = some t → RsOk K0 c σ H ρ H' O w t
  | _, _, _, _, _, .nil, h, _ => by simp at h
  | _, _, 0, _, _, .cons a _ _, h, g => by simp at h g; subst h; subst g; exact a
  | _, _, i + 1, _, _, .cons _ _ r, h, g => rrl_get (i := i) r (by simpa using h) (by simpa using g)
def rNil : Mo (List Rs) := ret []
def rCons (x : Mo Rs) (xs : Mo (List Rs)) : Mo (List Rs) := bnd x fun r => bnd xs fun rs => ret (r :: rs)
def setAll (ρ : En) : List Nat → List Rs → En
  | i :: is, r :: rs => setAll (ρ.set i (slotOf r)) is rs
  | _, _ => ρ
def setV (σ : L2.St) : List Nat → List V → L2.St
  | i :: is, v :: vs => setV (σ.set i (some v)) is vs
  | _, _ => σ
def yPar (is : List Nat) (xs : Mo (List Rs)) : Mo Fl := bnd xs fun rs ρ => some (.val .nx, setAll ρ is rs)
section
variable {X : Cx} {c : Ct} {e : Expr} {es : List Expr}
theorem rs_nil : PA X [] (rdG K0 c (RRs c) rNil) := pa_imp pa_nil fun σ H Q ⟨O, ρ, L, q⟩ => q.at L .nil
theorem rs_cons {x : Mo Rs} {xs : Mo (List Rs)} (h : PE X e (rd K0 c x)) (hs : PA X es (rdG K0 c (RRs c) xs)) (hst : starEach (e :: es) X.env = (false, eval e X.env) :: starEach es X.env := by rfl) : PA X (e :: es) (rdG K0 c (RRs c) (rCons x xs)) :=
  pa_imp (pa_cons h hs hst) fun σ H Q ⟨O, ρ, L, q⟩ => ⟨O, ρ, L, by
    refine PostG.bind mn_Rs L q fun r ρ1 v H1 O1 _ s L1 q1 k k0 => ⟨O1, ρ1, L1, ?_⟩
    match ex : xs ρ1 with
    | none => rw [bnd_no ex] at k; exact k
    | some (.ex n fs, ρ2) => rw [bnd_ex ex] at k; exact k
    | some (.val rs, ρ2) =>
      rw [bnd_val ex] at k0
      intro vs H2 O2 s2 L2 q2
      refine k0 (v :: vs) H2 O2 (s.trans L s2) L2 (.cons (rsOk_later L1 s2 q1) (fun o i w t h1 h2 h3 e => ?_) (rrl_back s.dom q2))
      subst e
      obtain ⟨p, rfl, _, g⟩ := rsOk_ref q1 o
      obtain ⟨p', e', g', _⟩ := rsOk_ref (rrl_get q2 h1 h2) h3
      cases e'
      exact g g'⟩
theorem rt_stored {σ : L2.St} {ρ : En} {H : Hp} {O : OS} {v w : V} {r t : Rs} (i : Nat) (h : RtOk c σ ρ H O w t) (d : (slotOf r).isOwn = true → (slotOf t).isOwn = true → w ≠ v) : RtOk c (σ.set i (some v)) (ρ.set i (slotOf r)) H O w t := by
  have key : ∀ p, w = .ref p → (slotOf t).isOwn = true → ¬ Own σ ρ p → ¬ Own (σ.set i (some v)) (ρ.set i (slotOf r)) p := fun p ew ot n ⟨j, s, h1, h2, h3⟩ => by
    rcases get_set h1 with ⟨e1, q1⟩ | ⟨e1, q1⟩
    · rcases get_set h2 with ⟨_, rfl⟩ | ⟨n2, _⟩
      · exact d h3 ot (ew.trans (Option.some.inj q1))
      · exact absurd e1 n2
    · rcases get_set h2 with ⟨n2, _⟩ | ⟨_, g2⟩
      · exact absurd n2 e1
      · exact n ⟨j, s, q1, g2, h3⟩
  cases t with
  | dt d => exact h
  | new xs => obtain ⟨p, vs, rfl, h0, o, n, q⟩ := h; exact ⟨p, vs, rfl, h0, o, key p rfl rfl n, q⟩
  | newd xs => obtain ⟨p, vs, rfl, h0, o, n, q⟩ := h; exact ⟨p, vs, rfl, h0, o, key p rfl rfl n, q⟩
inductive RTl (c : Ct) (σ : L2.St) (H : Hp) (ρ' : En) (H' : Hp) (O' : OS) : List V → List Rs → Prop where
  | nil : RTl c σ H ρ' H' O' [] []
  | cons {v : V} {vs : List V} {r : Rs} {rs : List Rs} : RtOk c σ ρ' H' O' v r → ((slotOf r).isOwn = true → ∃ p, v = .ref p ∧ H p = none) → ((slotOf r).isOwn = true → ∀ (i : Nat) (w : V) (t : Rs), vs[i]? = some w → rs[i]? = some t → (slotOf t).isOwn = true → w ≠ v) → RTl c σ H ρ' H' O' vs rs → RTl c σ H ρ' H' O' (v :: vs) (r :: rs)
theorem rtl_of {O : OS} {σ : L2.St} {H H' : Hp} {ρ ρ' : En} {O' : OS} (L : Rel K0 c O σ H ρ) : ∀ {vs : List V} {rs : List Rs}, RRl c σ H ρ' H' O' vs rs → RTl c σ H ρ' H' O' vs rs
  | _, _, .nil => .nil
  | _, _, .cons a b r => .cons (a.rt L) (fun o => by obtain ⟨p, e, n, _⟩ := rsOk_ref a o; exact ⟨p, e, n⟩) b (rtl_of L r)
theorem rtl_len {σ : L2.St} {H H' : Hp} {ρ' : En} {O' : OS} : ∀ {vs : List V} {rs : List Rs}, RTl c σ H ρ' H' O' vs rs → vs.length = rs.length
  | _, _, .nil => rfl
  | _, _, .cons _ _ _ r => by simp [rtl_len r]
theorem rtl_stored {σ : L2.St} {H H' : Hp} {ρ' : En} {O' : OS} {v : V} {r : Rs} (i : Nat) : ∀ {vs : List V} {rs : List Rs}, ((slotOf r).isOwn = true → ∀ (i : Nat) (w : V) (t : Rs), vs[i]? = some w → rs[i]? = some t → (slotOf t).isOwn = true → w ≠ v) → RTl c σ H ρ' H' O' vs rs → RTl c (σ.set i (some v)) H (ρ'.set i (slotOf r)) H' O' vs rs
  | _, _, _, .nil => .nil
  | _, _, d, .cons a n b rr => .cons (rt_stored i a fun o ot => d o 0 _ _ rfl rfl ot) n b (rtl_stored i (fun o j w t h1 h2 => d o (j + 1) w t (by simpa using h1) (by simpa using h2)) rr)
theorem store_all {σ0 : L2.St} {ρ0 : En} {H H' : Hp} {O0 O' : OS} : ∀ {vs : List V} {rs : List Rs} (is : List Nat) {σ : L2.St} {ρ' : En}, Stp σ0 σ ρ0 ρ' H H' O0 O' → Rel K0 c O' σ H' ρ' → RTl c σ H ρ' H' O' vs rs → Stp σ0 (setV σ is vs) ρ0 (setAll ρ' is rs) H H' O0 O' ∧ Rel K0 c O' (setV σ is vs) H' (setAll ρ' is rs)
  | _, _, [], _, _, s, L, _ => by unfold setV setAll; exact ⟨s, L⟩
  | _, _, _ :: _, _, _, s, L, .nil => by unfold setV setAll; exact ⟨s, L⟩
  | _, _, i :: is, σ, ρ', s, L, .cons a n d r => by
    unfold setV setAll
    exact store_all is (store_stp i s fun p e o => by obtain ⟨q, e2, g⟩ := n o; rw [e] at e2; cases e2; exact g) (store_rel i L a) (rtl_stored i d r)
theorem post_par {D : Ends} {O : OS} {σ : L2.St} {H : Hp} {ρ : En} {is : List Nat} {xs : Mo (List Rs)} (L : Rel K0 c O σ H ρ) (q : PostS c D O σ H ρ (yPar is xs ρ)) : PostG K0 c O σ H ρ (RRs c σ) (fun vs H1 => D.nx (setV σ is vs) H1) (xs ρ) := by
  refine PostS.bind L q fun rs ρ1 vs H1 O1 _ s L1 q1 _ k => ?_
  obtain ⟨s2, L2⟩ := store_all is s L1 (rtl_of L q1)
  exact k _ H1 O1 s2 L2
end
/-- how many values there are -/
def lenIs (n : Nat) (xs : Mo (List Rs)) : Prop := ∀ ρ rs ρ', xs ρ = some (.val rs, ρ') → rs.length = n
theorem lenIs_nil : lenIs 0 rNil := fun ρ rs ρ' h => by cases h; rfl
theorem lenIs_cons {n : Nat} {x : Mo Rs} {xs : Mo (List Rs)} (h : lenIs n xs) : lenIs (n + 1) (rCons x xs) := fun ρ rs ρ' e => by
  unfold rCons at e
  match e1 : x ρ with
  | none => rw [bnd_no e1] at e; cases e
  | some (.ex m fs, ρ1) => rw [bnd_ex e1] at e; cases e
  | some (.val r, ρ1) =>
    rw [bnd_val e1] at e
    match e2 : xs ρ1 with
    | none => rw [bnd_no e2] at e; cases e
    | some (.ex m fs, ρ2) => rw [bnd_ex e2] at e; cases e
    | some (.val rr, ρ2) =>
      rw [bnd_val e2] at e
      cases e
      simp [h _ _ _ e2]
section
variable {X : Cx} {c : Ct}
theorem par_len {O : OS} {σ : L2.St} {H : Hp} {ρ : En} {n : Nat} {xs : Mo (List Rs)} {Q : List V → Hp → Prop} (L : Rel K0 c O σ H ρ) (hn : lenIs n xs) (h : PostG K0 c O σ H ρ (RRs c σ) Q (xs ρ)) : PostG K0 c O σ H ρ (RRs c σ) (fun vs H1 => vs.length = n ∧ Q vs H1) (xs ρ) := by
  match e : xs ρ with
  | none => rw [e] at h; exact h
  | some (.ex m fs, ρ1) => rw [e] at h; exact h
  | some (.val rs, ρ1) =>
    rw [e] at h
    intro vs H1 O1 s L1 q1
    refine ⟨?_, h vs H1 O1 s L1 q1⟩
    have := hn ρ rs ρ1 e
    rw [← this]
    exact rtl_len (rtl_of L q1)
theorem ds_par2 {i j : Nat} {x y : Str} {a b : Expr} {xs : Mo (List Rs)} {px py pt pos : Pos} {kt k2 pt2} (hc : X.calm = true) (hN : X.N.Nodup) (hi : X.N[i]? = some x) (hj : X.N[j]? = some y) (hij : i ≠ j) (hx : X.env.scope.names.lookup x = some .local) (hy : X.env.scope.names.lookup y = some .local)
    (ha : PA X [a, b] (rdG K0 c (RRs c) xs)) (hn : lenIs 2 xs) (hw : swappedStores [.Tuple [.Name x px, .Name y py] kt pt] (.Tuple [a, b] k2 pt2) X.env = pure (some [x, y]) := by rfl) (hs : swapsWithSole [.Tuple [.Name x px, .Name y py] kt pt] (.Tuple [a, b] k2 pt2) pos.line X.env = pure false := by rfl) :
    PS X (.Assign [.Tuple [.Name x px, .Name y py] kt pt] (.Tuple [a, b] k2 pt2) pos) (rdS c (yPar [i, j] xs)) := ps_imp (ps_par hc hN hi hj hij hx hy ha hw hs) fun D σ H ⟨O, ρ, L, q⟩ => ⟨O, ρ, L, by
  refine PostG.mono (fun vs H1 h => ?_) (par_len L hn (post_par L q))
  obtain ⟨hl, h⟩ := h
  match vs, hl, h with
  | [v, w], _, h => exact ⟨v, w, rfl, h⟩⟩
theorem ds_par3 {i j l : Nat} {x y z : Str} {a b d : Expr} {xs : Mo (List Rs)} {px py pz pt pos : Pos} {kt k2 pt2} (hc : X.calm = true) (hN : X.N.Nodup) (hi : X.N[i]? = some x) (hj : X.N[j]? = some y) (hl : X.N[l]? = some z) (hij : i ≠ j) (hil : i ≠ l) (hjl : j ≠ l) (hx : X.env.scope.names.lookup x = some .local) (hy : X.env.scope.names.lookup y = some .local) (hz : X.env.scope.names.lookup z = some .local)
    (ha : PA X [a, b, d] (rdG K0 c (RRs c) xs)) (hn : lenIs 3 xs) (hw : swappedStores [.Tuple [.Name x px, .Name y py, .Name z pz] kt pt] (.Tuple [a, b, d] k2 pt2) X.env = pure (some [x, y, z]) := by rfl) (hs : swapsWithSole [.Tuple [.Name x px, .Name y py, .Name z pz] kt pt] (.Tuple [a, b, d] k2 pt2) pos.line X.env = pure false := by rfl) :
    PS X (.Assign [.Tuple [.Name x px, .Name y py, .Name z pz] kt pt] (.Tuple [a, b, d] k2 pt2) pos) (rdS c (yPar [i, j, l] xs)) := ps_imp (ps_par3 hc hN hi hj hl hij hil hjl hx hy hz ha hw hs) fun D σ H ⟨O, ρ, L, q⟩ => ⟨O, ρ, L, by
  refine PostG.mono (fun vs H1 h => ?_) (par_len L hn (post_par L q))
  obtain ⟨hl, h⟩ := h
  match vs, hl, h with
  | [u, v, w], _, h => exact ⟨u, v, w, rfl, h⟩⟩
/-- the tuple is laid, then taken apart: nobody holds it -/
inductive Nms (X : Cx) : List Expr → List Nat → Prop where
  | nil : Nms X [] []
  | cons {i : Nat} {x : Str} {p : Pos} {ts : List Expr} {is : List Nat} : X.N.Nodup → X.N[i]? = some x → Loc X.env.scope x → (X.fn x = true ∨ X.env.scope.names.lookup x = some .local) → ((assignEach (.Name x p :: ts) X.env).map (·.2) = assign (.Name x p) X.env :: (assignEach ts X.env).map (·.2)) → Nms X ts is → Nms X (.Name x p :: ts) (i :: is)
def gVs : List Nat → TGs
  | [] => gNil
  | i :: is => gCons (gName i) (gVs is)
theorem nms_pgs : ∀ {ts : List Expr} {is : List Nat}, Nms X ts is → PGs X ts (gVs is)
  | _, _, .nil => pgs_nil
  | _, _, .cons a b d f g r => pgs_cons (pg_name a b d f) (nms_pgs r) g
theorem gVs_ok : ∀ (is : List Nat) (vs : List V) (σ : L2.St) (H : Hp) (Q : L2.St → Hp → Prop), vs.length = is.length → Q (setV σ is vs) H → gVs is vs σ H Q
  | [], [], _, _, _, _, q => ⟨rfl, q⟩
  | i :: is, v :: vs, σ, H, Q, h, q => ⟨v, vs, rfl, gVs_ok is vs (σ.set i (some v)) H Q (by simpa using h) q⟩
  | [], _ :: _, _, _, _, h, _ => by cases h
  | _ :: _, [], _, _, _, h, _ => by cases h
theorem ds_parG {ts vals : List Expr} {is : List Nat} {n : Nat} {xs : Mo (List Rs)} {pt pos : Pos} {kt k2 pt2} (hc : X.calm = true) (hnm : Nms X ts is) (hl : is.length = n) (hn2 : n ≤ 1000) (ha : PA X vals (rdG K0 c (RRs c) xs)) (hn : lenIs n xs)
    (hs : swapsWithSole [.Tuple ts kt pt] (.Tuple vals k2 pt2) pos.line X.env = pure false := by rfl) (hw : swappedStores [.Tuple ts kt pt] (.Tuple vals k2 pt2) X.env = pure none := by rfl) (h1 : (assignEach [.Tuple ts kt pt] X.env).map (·.2) = [assign (.Tuple ts kt pt) X.env] := by rfl)
    (hln : (assignEach ts X.env).length = n := by rfl) (hst : (assignEach ts X.env).findIdx? (·.1) = none := by rfl) :
    PS X (.Assign [.Tuple ts kt pt] (.Tuple vals k2 pt2) pos) (rdS c (yPar is xs)) := ps_imp (ps_asg (pe_tup ha) (pg_tup hc (nms_pgs hnm) hln hst) hs hw h1) fun D σ H ⟨O, ρ, L, q⟩ => ⟨O, ρ, L, by
  have h0 : PostG K0 c O σ H ρ (RRs c σ) (fun vs H1 => ∀ p, H1 p = none → D.nx (setV σ is vs) (upd H1 p (.tup vs))) (xs ρ) := by
    refine PostS.bind L q fun rs ρ1 vs H1 O1 _ s L1 q1 _ k p hp => ?_
    have al : Alc H1 (upd H1 p (.tup vs)) O1 (ins O1 p) := Alc.new hp
    have s2 := s.trans L (al.stp (σ := σ) (ρ := ρ1))
    have L2 := al.rel L1
    have q2 : RRl c σ H ρ1 (upd H1 p (.tup vs)) (ins O1 p) vs rs := rrl_later L1 (al.stp (σ := σ) (ρ := ρ1)) q1
    obtain ⟨s3, L3⟩ := store_all is s2 L2 (rtl_of L q2)
    exact k _ _ _ s3 L3
  refine PostG.mono (fun vs H1 h => ?_) (par_len L hn h0)
  obtain ⟨hvl, h⟩ := h
  refine ⟨by rw [hvl]; exact Nat.le_of_lt (small1000 hn2), fun p hp => ⟨p, vs, rfl, SqT.of upd_same, hvl, gVs_ok is vs σ _ D.nx (by rw [hvl, hl]) (h p hp)⟩⟩⟩
end
/-! ### x op= e -/
def yAug (i : Nat) (g : List PyData → Option Rs) (x : Mo Rs) : Mo Fl := bnd (eD x) fun d ρ => match ρ[i]? with
  | some (.dat a) => match g [a, d] with
    | some r => some (.val .nx, ρ.set i (slotOf r))
    | none => none
  | _ => none
section
variable {X : Cx} {c : Ct}
/-- first the name's own value is taken -/
def yD {α : Type} (i : Nat) (x : Mo α) : Mo α := fun ρ => match ρ[i]? with
  | some (.dat _) => x ρ
  | _ => none
theorem ds_aug {i : Nat} {xn : Str} {e : Expr} {x : Mo Rs} {op : Operator} {r : R2} {g : List PyData → Option Rs} {pos pos' : Pos} (hN : X.N.Nodup) (hi : X.N[i]? = some xn) (hx : Loc X.env.scope xn) (ho : PIp X op r) (hb : BOk K0 (l2 r) g) (he : PE X e (rd K0 c x)) (hst : ∀ ρ d ρ', eD x ρ = some (.val d, ρ') → ρ'[i]? = ρ[i]?)
    (hf : X.fn xn = true ∨ X.env.scope.names.lookup xn = some .local := by first | exact .inl rfl | exact .inr rfl | assumption) : PS X (.AugAssign (.Name xn pos') op e pos) (rdS c (yD i (yAug i g x))) := ps_imp (ps_aug hN hi hx (pe_eD he) ho hf) fun D σ H ⟨O, ρ, L, q⟩ => by
  unfold yD at q
  split at q
  · rename_i a hs
    obtain ⟨w, hw, v, rfl, hd⟩ := slot_of L hs
    refine ⟨v, hw, O, ρ, L, ?_⟩
    refine PostS.bind L q fun d ρ1 u H1 O1 ex s L1 q1 _ k => ?_
    have hi1 := hst ρ d ρ1 ex
    rw [hs] at hi1
    simp only [hi1] at k
    cases eg : g [a, d] with
    | none => simp only [eg] at k; exact k.elim
    | some rr =>
      simp only [eg] at k
      have hv : Vws K0 O1 H1 [v, u] [a, d] := .cons (.inl (dp_mono (s.same L) hd)) (.cons (.inl q1) .nil)
      obtain ⟨x', y', ee, z⟩ := hb O1 H1 [v, u] [a, d] rr (fun z H2 => D.nx (σ.set i (some z)) H2) L1.dom hv eg fun v2 H2 O2 al h => by
        have s2 := s.trans L (al.stp (σ := σ) (ρ := ρ1))
        have L2 := al.rel L1
        refine k _ H2 O2 (store_stp i s2 fun p e o => ?_) (store_rel i L2 ((h.ok L1).rt L1))
        cases rr with
        | dt _ => cases o
        | new xs => obtain ⟨p', vs, e1, n, _⟩ := h; rw [e] at e1; cases e1; exact none_back s.dom n
        | newd xs => obtain ⟨p', vs, e1, n, _⟩ := h; rw [e] at e1; cases e1; exact none_back s.dom n
      cases ee
      exact z
  · exact q.elim
theorem ip_addA : PIp X .Add (rI0 fun i j => .int (i + j)) := fun pins s σ H x y v u Q I rx ry h => by
  obtain ⟨i, j, e1, e2, q⟩ := h
  exact ip_add pins s σ H x y v u Q I rx ry ⟨i, j, e1, e2, q⟩
end
end Dl
end

section
set_option Elab.async false
set_option linter.all false
set_option maxRecDepth 100000
namespace Dl
open PySem PySem.Spec PyProof.Rows L2

/-! ### a list or a tuple that is walked: true a list -/
def oK (k : Bool) (xs : List V) : HO := if k then .lst xs else .tup xs
def hK (k : Bool) (h : Heap) (a : Addr) (its : Array Value) : Prop := if k then h.IsList a its else h.IsTuple a its
def iK (k : Bool) (h : Heap) (it a : Addr) (i : Nat) : Prop := if k then h.IsListIter it a i else h.IsTupleIter it a i
def bK (k : Bool) (a : Addr) : Obj := if k then { cls := .type "list_iterator", data := .fields #[.ref a, .int 0 0] } else { cls := .type "tuple_iterator", data := .fields #[.ref a, .int 0 0] }
theorem begins_K (k : Bool) (a : Addr) (its : Array Value) : Begins (.ref a) (bK k a) fun h => hK k h a its := by
  cases k
  · exact begins_tuple a its
  · exact begins_list a its
theorem draws_K {prog : Program} {w : World} {A : Around} (hh : A.handled = none) (k : Bool) (it a : Addr) (hne : a ≠ it) (its : Array Value) : Draws prog w A it [it, a] its.size (fun i v => its[i]? = some v) (fun i h => iK k h it a i ∧ hK k h a its) := by
  cases k
  · exact Draws.tuple hh it a hne its
  · exact Draws.list hh it a hne its
theorem iK_new {k : Bool} {h : Heap} {it a : Addr} (e : h.get? it = some (bK k a)) : iK k h it a 0 := by
  cases k <;> exact ⟨_, e, rfl, rfl⟩
theorem iK_at {k : Bool} {h h' : Heap} {it a : Addr} {i : Nat} (x : iK k h it a i) (f : ∀ o, h.get? it = some o → h'.get? it = some o) : iK k h' it a i := by
  cases k
  · exact Heap.IsTupleIter.at (h := h) x f
  · exact Heap.IsListIter.at (h := h) x f
theorem iK_get {k : Bool} {h : Heap} {it a : Addr} {i : Nat} (x : iK k h it a i) : ∃ o, h.get? it = some o ∧ ∀ v, o.data ≠ .cell v := by
  cases k <;> (obtain ⟨o, e, _, d⟩ := x; exact ⟨o, e, fun v z => by rw [d] at z; cases z⟩)
theorem rdK_of {X : Cx} {pins : List (Addr × Obj)} {σ : L2.St} {H : Hp} {s : Shared} (I : Inv X pins σ H s) {k : Bool} {a : Addr} {xs : List V} (h : Rd H a (oK k xs)) : ∃ its : List Value, Vals xs its ∧ hK k s.heap a its.toArray ∧ ∃ o, s.heap.get? a = some o := by
  cases k
  · obtain ⟨its, r, p, _⟩ := I.tuple (a := a) (xs := xs) (.inl h)
    obtain ⟨o, e, _⟩ := id p
    exact ⟨its, r, p, o, e⟩
  · obtain ⟨its, r, p, _⟩ := I.list (a := a) (xs := xs) (.inl h)
    obtain ⟨o, _, e, _⟩ := id p
    exact ⟨its, r, p.isList, o, e⟩
theorem rdK_inj {H : Hp} {k : Bool} {a : Addr} {xs ys : List V} (h : Rd H a (oK k xs)) (h' : Rd H a (oK k ys)) : xs = ys := by
  cases k <;> (rcases h with h | ⟨o, h⟩ <;> rcases h' with g | ⟨o', g⟩ <;> (rw [h] at g; cases g; try rfl))
theorem rdK_some {H : Hp} {k : Bool} {a : Addr} {xs : List V} (h : Rd H a (oK k xs)) : H a ≠ none := by
  rcases h with h | ⟨o, h⟩ <;> (rw [h]; exact fun z => nomatch z)
/-- zip of two -/
def ItZ (k1 k2 : Bool) (a b : Addr) : It :=
  ⟨fun i H => ∃ (xs ys : List V) (x y : V), Rd H a (oK k1 xs) ∧ Rd H b (oK k2 ys) ∧ xs[i]? = some x ∧ ys[i]? = some y,
    fun i H v H' => ∃ T x y, v = .ref T ∧ H T = none ∧ H' = upd H T (.tup [x, y]) ∧ (∀ xs, Rd H a (oK k1 xs) → xs[i]? = some x) ∧ ∀ ys, Rd H b (oK k2 ys) → ys[i]? = some y,
    fun i H => ∃ xs ys : List V, Rd H a (oK k1 xs) ∧ Rd H b (oK k2 ys) ∧ i = min xs.length ys.length⟩
theorem turn_Z {P : Program} {w : World} {K : PySem.W.Frag} {elts : List Expr} {kk : Nat} {tpos : Pos} {k1 k2 : Bool} {a b z TI TO i1 i2 : Addr}
    (d1 : TI ≠ z) (d2 : TO ≠ z) (d3 : TI ≠ TO) (d4 : TI ≠ i1) (d5 : TI ≠ i2) (d6 : i1 ≠ i2) (d7 : i1 ≠ z) (d8 : i1 ≠ TO) (d9 : i2 ≠ z) (d10 : i2 ≠ TO) :
    Turn P w K (.Tuple elts kk tpos) (ItZ k1 k2 a b) [z, TI, TO, i1, i2] z (fun i h => IsZip h z TI TO .none ∧ IsTupOf2 h TI (.ref i1) (.ref i2) ∧ (∃ a1 a2, IsTupOf2 h TO a1 a2) ∧ iK k1 h i1 a i ∧ iK k2 h i2 b i) where
  mem := by simp
  obj := fun i h st c hc => by
    obtain ⟨hz, hTI, ⟨x, y, hTO⟩, h1, h2⟩ := st
    have e' : c = z ∨ c = TI ∨ c = TO ∨ c = i1 ∨ c = i2 := by simpa using hc
    rcases e' with rfl | rfl | rfl | rfl | rfl
    · exact ⟨_, hz, fun v q => nomatch q⟩
    · exact ⟨_, hTI, fun v q => nomatch q⟩
    · exact ⟨_, hTO, fun v q => nomatch q⟩
    · exact iK_get h1
    · exact iK_get h2
  keep := fun i h h' st k => by
    obtain ⟨hz, hTI, ⟨x, y, hTO⟩, h1, h2⟩ := st
    exact ⟨k z (by simp) _ hz, k TI (by simp) _ hTI, ⟨x, y, k TO (by simp) _ hTO⟩, iK_at h1 fun o q => k i1 (by simp) o q, iK_at h2 fun o q => k i2 (by simp) o q⟩
  item := by
    intro X hP hw hK hc i pins s σ H E I hf st hg
    subst hP hw hK
    obtain ⟨xs, ys, x, y, hqx, hqy, hx, hy⟩ := hg
    obtain ⟨its, rv, p, _⟩ := rdK_of I hqx
    obtain ⟨its2, rv2, p2, _⟩ := rdK_of I hqy
    obtain ⟨u, hu, ru⟩ := rv.get hx
    obtain ⟨u2, hu2, ru2⟩ := rv2.get hy
    have na : ∀ c ∈ [z, TI, TO, i1, i2], c ≠ a ∧ c ≠ b := fun c hm => ⟨fun e => rdK_some hqx (by rw [← e]; exact (hf c hm).1), fun e => rdK_some hqy (by rw [← e]; exact (hf c hm).1)⟩
    have zz := na z (by simp); have tt := na TI (by simp); have oo := na TO (by simp); have ii := na i1 (by simp); have jj := na i2 (by simp)
    have hh : X.A.in1.handled = none := I.ok.hd hc
    have S : ZipSep2 z TI TO i1 i2 [i1, a] [i2, b] := by
      refine ⟨d1, d2, d3, d4, by simp, ?_, ?_, d5, by simp, ?_, ?_, ?_, ?_⟩ <;> simp <;> first | exact ⟨d7.symm, zz.1⟩ | exact ⟨d8.symm, oo.1⟩ | exact ⟨d9.symm, zz.2⟩ | exact ⟨d10.symm, oo.2⟩ | exact ⟨d6, ii.2⟩ | exact ⟨d6.symm, jj.1⟩
    have G := GoesN.zip2 (prog := X.prog) (w := X.w) (A := X.A) (elts := elts) (x1 := kk) (pos := tpos) S (draws_K hh k1 i1 a ii.1.symm its.toArray) (draws_K hh k2 i2 b jj.2.symm its2.toArray)
    have hl1 : i < its.toArray.size := by
      have := List.getElem?_eq_some_iff.mp hu
      simpa using this.1
    have hl2 : i < its2.toArray.size := by
      have := List.getElem?_eq_some_iff.mp hu2
      simpa using this.1
    obtain ⟨hz, hTI, ⟨x0, y0, hTO⟩, h1, h2⟩ := st
    refine G.goes i s (fun v s2 => ∃ xx H', Inv X pins σ H' s2 ∧ RelV xx v ∧ (ItZ k1 k2 a b).yld i H xx H' ∧ _ ∧ ∀ c ∈ [z, TI, TO, i1, i2], H' c = none) E (Nat.lt_min.mpr ⟨hl1, hl2⟩) ⟨hz, hTI, ⟨x0, y0, hTO⟩, ⟨h1, p⟩, ⟨h2, p2⟩⟩ fun v h' tk Y st' hk _ => ?_
    obtain ⟨T, x', y', rfl, hT, e1, e2, hTup⟩ := Y
    have ex : x' = u := by
      have : its.toArray[i]? = some u := by simpa using hu
      rw [this] at e1; exact (Option.some.inj e1).symm
    have ey : y' = u2 := by
      have : its2.toArray[i]? = some u2 := by simpa using hu2
      rw [this] at e2; exact (Option.some.inj e2).symm
    subst ex ey
    obtain ⟨z', TI', TO', ⟨h1', _⟩, ⟨h2', _⟩⟩ := st'
    have new : ObjOk X.prog X.w (upd H T (.tup [x, y])) h' T (.tup [x, y]) := ⟨by show 2 ≤ sizeLine; decide, [x', y'], .cons ru (.cons ru2 .nil), hTup⟩
    have I1 : Inv X pins σ (upd H T (.tup [x, y])) { s with heap := h', toks := tk } := I.turnedNew (t' := tk) (ch := [z, TI, TO, i1, i2]) (fun c o hb q => hk c o (fun hm => hb (by simp at hm ⊢; rcases hm with e | e | e | e <;> simp [e])) q) hf hT new
    refine ⟨.ref T, _, I1, rfl, ⟨T, x, y, rfl, I.hok.fresh hT, rfl, fun l hl => by rw [rdK_inj hl hqx]; exact hx, fun l hl => by rw [rdK_inj hl hqy]; exact hy⟩, ⟨z', TI', TO', h1', h2'⟩, fun c hm => ?_⟩
    have lt : c < s.heap.objs.size := by
      have e' : c = z ∨ c = TI ∨ c = TO ∨ c = i1 ∨ c = i2 := by simpa using hm
      rcases e' with rfl | rfl | rfl | rfl | rfl
      · exact Heap.lt_size hz
      · exact Heap.lt_size hTI
      · exact Heap.lt_size hTO
      · obtain ⟨_, e, _⟩ := iK_get h1; exact Heap.lt_size e
      · obtain ⟨_, e, _⟩ := iK_get h2; exact Heap.lt_size e
    rw [upd_ne (Nat.ne_of_lt (Nat.lt_of_lt_of_le lt hT))]
    exact (hf c hm).1
  done := by
    intro X hP hw hK hc i pins s σ H E I hf st hg
    subst hP hw hK
    obtain ⟨xs, ys, hqx, hqy, hi⟩ := hg
    obtain ⟨its, rv, p, _⟩ := rdK_of I hqx
    obtain ⟨its2, rv2, p2, _⟩ := rdK_of I hqy
    have na : ∀ c ∈ [z, TI, TO, i1, i2], c ≠ a ∧ c ≠ b := fun c hm => ⟨fun e => rdK_some hqx (by rw [← e]; exact (hf c hm).1), fun e => rdK_some hqy (by rw [← e]; exact (hf c hm).1)⟩
    have zz := na z (by simp); have tt := na TI (by simp); have oo := na TO (by simp); have ii := na i1 (by simp); have jj := na i2 (by simp)
    have hh : X.A.in1.handled = none := I.ok.hd hc
    have S : ZipSep2 z TI TO i1 i2 [i1, a] [i2, b] := by
      refine ⟨d1, d2, d3, d4, by simp, ?_, ?_, d5, by simp, ?_, ?_, ?_, ?_⟩ <;> simp <;> first | exact ⟨d7.symm, zz.1⟩ | exact ⟨d8.symm, oo.1⟩ | exact ⟨d9.symm, zz.2⟩ | exact ⟨d10.symm, oo.2⟩ | exact ⟨d6, ii.2⟩ | exact ⟨d6.symm, jj.1⟩
    have G := GoesN.zip2 (prog := X.prog) (w := X.w) (A := X.A) (elts := elts) (x1 := kk) (pos := tpos) S (draws_K hh k1 i1 a ii.1.symm its.toArray) (draws_K hh k2 i2 b jj.2.symm its2.toArray)
    obtain ⟨hz, hTI, hTO, h1, h2⟩ := st
    have en : i = min its.toArray.size its2.toArray.size := by rw [hi, rv.length, rv2.length]; simp
    subst en
    exact G.stops s (fun s1 => Inv X pins σ H s1) E ⟨hz, hTI, hTO, ⟨h1, p⟩, ⟨h2, p2⟩⟩ fun h' tk hk _ => I.turnedL (t' := tk) (ch := [z, TI, TO, i1, i2]) (fun c o hb q => hk c o (fun hm => hb (by simp at hm ⊢; rcases hm with e | e | e | e <;> simp [e])) q) hf
  self := fun A i s Q E st h => wpAny_pyIter_zip st.1 h
def iZip2 (ta : TA) : TI := fun σ H R => ta σ H fun vs H1 => ∃ a b k1 k2 xs ys, vs = [.ref a, .ref b] ∧ Rd H1 a (oK k1 xs) ∧ Rd H1 b (oK k2 ys) ∧ R (ItZ k1 k2 a b) H1
theorem pi_zip2 {X : Cx} {e e2 : Expr} {ta : TA} {p pos tpos : Pos} {elts : List Expr} {kk : Nat} (hg : Gl X "zip") (hm : X.mg "zip" = none) (ha : PA X [e, e2] ta)
    (hs : starEach [e, e2] X.env = (false, eval e X.env) :: starEach [e2] X.env := by rfl) (hpl : (backTo pos (starEach [e2] X.env)).any (·.1) = false := by rfl) :
    PI X (.Tuple elts kk tpos) (.Call (.Name "zip" p) [e, e2] [] pos) (iZip2 ta) := by
  refine ⟨fun pins s σ H R I h => Call_ (ld_blt I hg hm PyProof.Rows.boot_zip (PyProof.Rows.callWith_type1 (thn (ha.run pos pins s σ H _ I h) fun us s1 ⟨vs, H1, I1, r1, q1⟩ => ?_) hs hpl))⟩
  obtain ⟨a, b, k1, k2, xs, ys, rfl, hx, hy, q⟩ := q1
  obtain ⟨u, v, rfl, ru, rv⟩ := r1.two
  cases ru; cases rv
  obtain ⟨its, rv, p1, o1, e1⟩ := rdK_of I1 hx
  obtain ⟨its2, rv2, p2, o2, e2⟩ := rdK_of I1 hy
  refine zip_begins2 (begins_K k1 a its.toArray) (begins_K k2 b its2.toArray) p1 p2 fun h' hz hTI hTO g1 g2 hsz hk => wpAny_pyIter_zip hz ?_
  have I2 : Inv X pins σ H1 { s1 with heap := h' } := I1.kept (t' := s1.toks) hk
  refine ⟨s1.heap.objs.size + 4, [s1.heap.objs.size + 4, s1.heap.objs.size + 2, s1.heap.objs.size + 3, s1.heap.objs.size, s1.heap.objs.size + 1], _, ItZ k1 k2 a b, H1, rfl, I2, turn_Z ?_ ?_ ?_ ?_ ?_ ?_ ?_ ?_ ?_ ?_, ⟨hz, hTI, ⟨_, _, hTO⟩, iK_new g1, iK_new g2⟩, fun c hcm => ?_, q⟩
  all_goals first
    | (intro z; have z' : (s1.heap.objs.size + _ : Nat) = s1.heap.objs.size + _ := z; omega)
    | (intro z; have z' : (s1.heap.objs.size : Nat) = s1.heap.objs.size + _ := z; omega)
    | (intro z; have z' : (s1.heap.objs.size + _ : Nat) = s1.heap.objs.size := z; omega)
    | skip
  have e' : c = s1.heap.objs.size + 4 ∨ c = s1.heap.objs.size + 2 ∨ c = s1.heap.objs.size + 3 ∨ c = s1.heap.objs.size ∨ c = s1.heap.objs.size + 1 := by simpa using hcm
  have hle : s1.heap.objs.size ≤ c := by
    rcases e' with z | z | z | z | z <;> (rw [z]; first | exact Nat.le_add_right _ _ | exact Nat.le_refl _)
  exact I1.fpOk hle (I1.hok.fresh hle)
/-! ### by data -/
def zZip (ys : Mo (List Vd)) : Mo (List PyData × Option Nat) := bnd ys fun as ρ => match dts as with
  | some [a, b] => match lt2D a with
    | some xs => match lt2D b with
      | some ys => some (.val (zipD xs ys, none), ρ)
      | none => none
    | none => none
  | _ => none
where lt2D : PyData → Option (List PyData)
  | .list xs => some xs
  | .tuple xs => some xs
  | _ => none
theorem dp_seq {H : Hp} {v : V} {d : PyData} {xs : List PyData} (h : Dp K0 H v d) (e : zZip.lt2D d = some xs) : ∃ a k vs, v = .ref a ∧ Rd H a (oK k vs) ∧ DpAll K0 H vs xs := by
  cases h with
  | lst s a => cases e; exact ⟨_, true, _, rfl, sqL0 s, a⟩
  | tup s a => cases e; exact ⟨_, false, _, rfl, sqT0 s, a⟩
  | _ => cases e
theorem it_zip {c : Ct} {σ : L2.St} {ρ : En} {H : Hp} {O : OS} {k1 k2 : Bool} {a b : Addr} {vs ws : List V} {ds es : List PyData} (hR : Rd H a (oK k1 vs)) (hS : Rd H b (oK k2 ws)) (hd : DpAll K0 (hid O H) vs ds) (he : DpAll K0 (hid O H) ws es) (hn : ¬ Own σ ρ a) (hn2 : ¬ Own σ ρ b) : ItOk c σ ρ H O (ItZ k1 k2 a b) (zipD ds es) := fun H2 O2 fr sm hO2 => by
  have r2 : Rd H2 a (oK k1 vs) := rd_stay hR fun o e => fr a o e hn
  have s2 : Rd H2 b (oK k2 ws) := rd_stay hS fun o e => fr b o e hn2
  have d2 := dpAll_mono sm hd
  have e2 := dpAll_mono sm he
  refine ⟨⟨vs, ws, r2, s2, by rw [zipD_len, dpAll_len hd, dpAll_len he]⟩, fun i d hi => ?_⟩
  obtain ⟨x, y, hx, hy, rfl⟩ := zipD_get ds es i d hi
  obtain ⟨v, hv, hdv⟩ := dpAll_getD d2 hx
  obtain ⟨w, hw, hdw⟩ := dpAll_getD e2 hy
  refine ⟨⟨vs, ws, v, w, r2, s2, hv, hw⟩, fun t H3 y => ?_⟩
  obtain ⟨T, x', y', rfl, nT, rfl, f1, f2⟩ := y
  have z1 := f1 vs r2
  have z2 := f2 ws s2
  rw [hv] at z1; cases z1
  rw [hw] at z2; cases z2
  exact ⟨Alc.data nT, tup_new hO2 nT (.cons hdv (.cons hdw .nil))⟩
theorem it_enum {c : Ct} {K : PySem.W.Frag} {σ : L2.St} {ρ : En} {H : Hp} {O : OS} {a : Addr} {vs : List V} {ds : List PyData} (hR : Rd H a (.lst vs)) (hd : DpAll K0 (hid O H) vs ds) (hn : ¬ Own σ ρ a) : ItOk c σ ρ H O (Ite K a) (enumD 0 ds) := fun H2 O2 fr sm hO2 => by
  have r2 : Rd H2 a (.lst vs) := rd_stay hR fun o e => fr a o e hn
  have d2 := dpAll_mono sm hd
  refine ⟨⟨vs, .inl r2, by rw [enumD_len, dpAll_len hd]; exact Nat.le_refl _⟩, fun i d hi => ?_⟩
  obtain ⟨x, hx, rfl⟩ := enumD_get ds 0 i d hi
  obtain ⟨v, hv, hdv⟩ := dpAll_getD d2 hx
  refine ⟨⟨vs, v, .inl r2, hv⟩, fun t H3 y => ?_⟩
  obtain ⟨T, x', rfl, nT, rfl, f1⟩ := y
  have z1 := f1 vs (.inl r2)
  rw [hv] at z1; cases z1
  rw [Nat.zero_add]
  exact ⟨Alc.data nT, tup_new hO2 nT (.cons (.int _) (.cons hdv .nil))⟩
def zEnum (ys : Mo (List Vd)) : Mo (List PyData × Option Nat) := bnd ys fun as ρ => match dts as with
  | some [.list xs] => some (.val (enumD 0 xs, none), ρ)
  | _ => none
section
variable {X : Cx} {c : Ct} {e e2 : Expr} {p pos tpos : Pos} {elts : List Expr} {kk : Nat} {ys : Mo (List Vd)}
theorem di_zip (hm : X.mg "zip" = none) (ha : PA X [e, e2] (rdVs K0 c ys)) (hg : Gl X "zip" := by rfl) (hs : starEach [e, e2] X.env = (false, eval e X.env) :: starEach [e2] X.env := by rfl) (hpl : (backTo pos (starEach [e2] X.env)).any (·.1) = false := by rfl) :
    PI X (.Tuple elts kk tpos) (.Call (.Name "zip" p) [e, e2] [] pos) (rdJ c (zZip ys)) := pi_imp (pi_zip2 hg hm ha hs hpl) fun σ H R ⟨O, ρ, L, q⟩ => ⟨O, ρ, L, by
  refine PostG.bind mn_J L q fun as ρ1 vs H1 O1 _ s L1 q1 k k0 => ?_
  clear k0
  split at k
  · rename_i a b ed
    have hd := dts_ok q1 ed
    split at k
    rotate_left
    · exact k.elim
    rename_i xs ex
    split at k
    · rename_i ws ew
      cases hd with
      | cons h1 hr =>
        cases hr with
        | cons h2 hr =>
          cases hr
          obtain ⟨a1, k1, us, rfl, r1, d1⟩ := dp_seq h1 ex
          obtain ⟨a2, k2, us2, rfl, r2, d2⟩ := dp_seq h2 ew
          exact ⟨a1, a2, k1, k2, us, us2, rfl, rd_hid r1, rd_hid r2, k.at L1 ⟨trivial, it_zip (rd_hid r1) (rd_hid r2) d1 d2 (dp_notown (K := K0) L1 r1) (dp_notown (K := K0) L1 r2)⟩⟩
    · exact k.elim
  · exact k.elim⟩
theorem di_enum (hm : X.mg "enumerate" = none) (ha : PA X [e] (rdVs K0 c ys)) (hg : Gl X "enumerate" := by rfl) (hs : starEach [e] X.env = [(false, eval e X.env)] := by rfl) :
    PI X (.Tuple elts kk tpos) (.Call (.Name "enumerate" p) [e] [] pos) (rdJ c (zEnum ys)) := pi_imp (pi_enum hg hm ha hs) fun σ H R ⟨O, ρ, L, q⟩ => ⟨O, ρ, L, by
  refine PostG.bind mn_J L q fun as ρ1 vs H1 O1 _ s L1 q1 k k0 => ?_
  clear k0
  split at k
  · rename_i xs ed
    have hd := dts_ok q1 ed
    cases hd with
    | cons h1 hr =>
      cases hr
      cases h1 with
      | lst sq al =>
        have r := sqL0 sq
        exact ⟨_, _, rfl, .inl (rd_hid r), k.at L1 ⟨trivial, it_enum (rd_hid r) al (dp_notown (K := K0) L1 r)⟩⟩
  · exact k.elim⟩
end
end Dl
end

section
set_option Elab.async false
set_option linter.all false
set_option maxRecDepth 100000
namespace Dl
open PySem PySem.Spec PyProof.Rows L2

/-! ### sep.join(texts), the sep a constant -/
def gJoin (a : Str) : List PyData → Option Rs
  | [.list xs] => match strsOf xs with
    | some ys => if (ys.map (·.length)).sum + ys.length * a.length ≤ 16777216 then some (.dt (.str (Txt.join a ys))) else none
    | none => none
  | [.tuple xs] => match strsOf xs with
    | some ys => if (ys.map (·.length)).sum + ys.length * a.length ≤ 16777216 then some (.dt (.str (Txt.join a ys))) else none
    | none => none
  | _ => none
def rJoinC (K : PySem.W.Frag) (a : Str) : List V → Hp → VK → Prop := fun xs H Q => ∃ p, ∃ ys : List Str, xs = [.ref p] ∧ (SqL K H p (ys.map V.str) ∨ SqT K H p (ys.map V.str)) ∧ (ys.map (·.length)).sum + ys.length * a.length ≤ 16777216 ∧ Q (.str (Txt.join a ys)) H
theorem bok_join {K : PySem.W.Frag} {a : Str} : BOk K0 (rJoinC K a) (gJoin a) := fun O H vs ds rs Q hO hv hg k => by
  unfold gJoin at hg
  split at hg
  · split at hg
    · rename_i ys e
      obtain ⟨hl, rfl⟩ := ite_some hg
      obtain ⟨v, rfl, h1⟩ := vws_one hv
      obtain ⟨p, xs, rfl, s, d⟩ := vw_list h1
      have := strs_ok d e; subst xs
      exact ⟨p, ys, rfl, .inl (sqL1 s), hl, k _ _ O .refl (.str _)⟩
    · cases hg
  · split at hg
    · rename_i ys e
      obtain ⟨hl, rfl⟩ := ite_some hg
      obtain ⟨v, rfl, h1⟩ := vws_one hv
      obtain ⟨p, xs, rfl, s, d⟩ := vw_tuple h1
      have := strs_ok d e; subst xs
      exact ⟨p, ys, rfl, .inr (sqT1 s), hl, k _ _ O .refl (.str _)⟩
    · cases hg
  · cases hg
theorem de_join {X : Cx} {c : Ct} {o e : Expr} {a : Str} {y : Mo Vd} {apos pos : Pos} (ho : PE X o (tC (.str a))) (he : PE X e (rdV K0 c y)) (hs : starEach [e] X.env = [(false, eval e X.env)] := by rfl) (hbase : attributeBase o "join" X.env (eval o X.env) = eval o X.env := by rfl) (hline : (apos.endLine == pos.line) = true := by rfl) :
    PE X (.Call (.Attribute o "join" apos) [e] [] pos) (rd K0 c (xB (gJoin a) (vCons y vNil))) := pe_imp (pe_join ho he hs hbase hline) fun σ H Q h => ⟨⟨a, rfl⟩, rdG_mono (fun v H1 q => by
  obtain ⟨p, ys, e, z1, z2, z3⟩ := q
  cases e
  exact ⟨a, p, ys, rfl, rfl, z1, z2, z3⟩) (rdV_one (rdB_ops (bok_join (K := X.K)) h))⟩

/-! ### sorting by keys: numbers, texts, tuples of them -/
abbrev SKey := List (Int ⊕ List Nat)
def keysD : List PyData → Option SKey
  | [] => some []
  | .int i :: r => match keysD r with
    | some k => some (.inl i :: k)
    | none => none
  | .str x :: r => match keysD r with
    | some k => some (.inr x.cps.toList :: k)
    | none => none
  | _ => none
def kindsD : List PyData → Option (List Bool)
  | [] => some []
  | .int _ :: r => match kindsD r with
    | some k => some (false :: k)
    | none => none
  | .str _ :: r => match kindsD r with
    | some k => some (true :: k)
    | none => none
  | _ => none
def keyD : PyData → SKey
  | .int i => [.inl i]
  | .str x => [.inr x.cps.toList]
  | .tuple ds => (keysD ds).getD []
  | _ => []
def ltK (a b : PyData) : Bool := lexLt itemOrd (keyD a) (keyD b)
def insB {α : Type} (lt : α → α → Bool) (x : α) : List α → List α
  | [] => [x]
  | y :: r => if lt y x = true then y :: insB lt x r else x :: y :: r
def sortB {α : Type} (lt : α → α → Bool) : List α → List α
  | [] => []
  | x :: r => insB lt x (sortB lt r)
theorem insB_perm {α : Type} {lt : α → α → Bool} {x : α} : ∀ l : List α, (insB lt x l).Perm (x :: l)
  | [] => List.Perm.refl _
  | y :: r => by
    unfold insB
    split
    · exact ((insB_perm r).cons y).trans (List.Perm.swap x y r)
    · exact List.Perm.refl _
theorem sortB_perm {α : Type} {lt : α → α → Bool} : ∀ l : List α, (sortB lt l).Perm l
  | [] => List.Perm.refl _
  | x :: r => (insB_perm _).trans ((sortB_perm r).cons x)
/-- no later one is less -/
def Srt {α : Type} (lt : α → α → Bool) (l : List α) : Prop := l.Pairwise fun a b => lt b a = false
theorem insB_srt {α : Type} {lt : α → α → Bool} (as : ∀ a b, lt a b = true → lt b a = false) (tr : ∀ a b c, lt b a = false → lt c b = false → lt c a = false) {x : α} : ∀ {l : List α}, Srt lt l → Srt lt (insB lt x l)
  | [], _ => List.pairwise_singleton _ _
  | y :: r, h => by
    obtain ⟨h1, h2⟩ := List.pairwise_cons.mp h
    unfold insB
    split
    · rename_i e
      refine List.pairwise_cons.mpr ⟨fun z hz => ?_, insB_srt as tr h2⟩
      rcases List.mem_cons.mp ((insB_perm r).mem_iff.mp hz) with rfl | hz
      · exact as _ _ e
      · exact h1 z hz
    · rename_i e
      have e' : lt y x = false := by simpa using e
      refine List.pairwise_cons.mpr ⟨fun z hz => ?_, h⟩
      rcases List.mem_cons.mp hz with rfl | hz
      · exact e'
      · exact tr _ _ _ e' (h1 z hz)
theorem sortB_srt {α : Type} {lt : α → α → Bool} (as : ∀ a b, lt a b = true → lt b a = false) (tr : ∀ a b c, lt b a = false → lt c b = false → lt c a = false) : ∀ l : List α, Srt lt (sortB lt l)
  | [] => List.Pairwise.nil
  | x :: r => insB_srt as tr (sortB_srt as tr r)
theorem srt_uniq {α : Type} {lt : α → α → Bool} : ∀ {l m : List α}, (∀ a ∈ l, ∀ b ∈ l, lt a b = false → lt b a = false → a = b) → l.Perm m → Srt lt l → Srt lt m → l = m
  | [], m, _, p, _, _ => (List.Perm.eq_nil p.symm).symm ▸ rfl
  | a :: l, [], _, p, _, _ => by have := p.length_eq; simp at this
  | a :: l, b :: m, an, p, h1, h2 => by
    obtain ⟨f1, g1⟩ := List.pairwise_cons.mp h1
    obtain ⟨f2, g2⟩ := List.pairwise_cons.mp h2
    have hb : b ∈ a :: l := p.mem_iff.mpr List.mem_cons_self
    have ha : a ∈ b :: m := p.mem_iff.mp List.mem_cons_self
    have e : a = b := by
      rcases List.mem_cons.mp hb with rfl | hb'
      · rfl
      · rcases List.mem_cons.mp ha with rfl | ha'
        · rfl
        · exact an a List.mem_cons_self b hb (f2 a ha') (f1 b hb')
    subst e
    rw [srt_uniq (fun x hx y hy => an x (List.mem_cons_of_mem _ hx) y (List.mem_cons_of_mem _ hy)) ((List.perm_cons a).mp p) g1 g2]
theorem ltK_as (a b : PyData) (h : ltK a b = true) : ltK b a = false := (listOrd itemOrd).klt_asymm h
theorem ltK_tr (a b c : PyData) (h1 : ltK b a = false) (h2 : ltK c b = false) : ltK c a = false := KeyOrd.kle_trans (O := listOrd itemOrd) (a := keyD a) (b := keyD b) (c := keyD c) h1 h2
theorem ltK_anti {a b : PyData} (h1 : ltK a b = false) (h2 : ltK b a = false) : keyD a = keyD b := (listOrd itemOrd).total _ _ h1 h2
theorem sortK_srt (l : List PyData) : Srt ltK (sortB ltK l) := sortB_srt ltK_as ltK_tr l
theorem str_inj {x y : Str} (h : x.cps.toList = y.cps.toList) : x = y := by
  cases x; cases y
  have := Array.toList_inj.mp h
  simp at this
  rw [this]
theorem keys_inj : ∀ {ds es : List PyData} {ks : List Bool}, kindsD ds = some ks → kindsD es = some ks → keysD ds = keysD es → ds = es
  | [], [], _, _, _, _ => rfl
  | [], .int _ :: r, ks, h1, h2, _ => by cases h1; simp only [kindsD] at h2; split at h2 <;> cases h2
  | [], .str _ :: r, ks, h1, h2, _ => by cases h1; simp only [kindsD] at h2; split at h2 <;> cases h2
  | .int _ :: r, [], ks, h1, h2, _ => by cases h2; simp only [kindsD] at h1; split at h1 <;> cases h1
  | .str _ :: r, [], ks, h1, h2, _ => by cases h2; simp only [kindsD] at h1; split at h1 <;> cases h1
  | .int i :: r, .int j :: t, ks, h1, h2, h3 => by
    simp only [kindsD] at h1 h2
    split at h1
    · rename_i k1 e1; cases h1
      split at h2
      · rename_i k2 e2; cases h2
        simp only [keysD] at h3
        split at h3
        · rename_i q1 f1
          split at h3
          · rename_i q2 f2
            cases h3
            rw [keys_inj e1 e2 (f1.trans f2.symm)]
          · cases h3
        · rename_i f1
          have : ∃ q, keysD r = some q := keys_some e1
          obtain ⟨q, e⟩ := this
          rw [e] at f1; cases f1
      · cases h2
    · cases h1
  | .str i :: r, .str j :: t, ks, h1, h2, h3 => by
    simp only [kindsD] at h1 h2
    split at h1
    · rename_i k1 e1; cases h1
      split at h2
      · rename_i k2 e2; cases h2
        simp only [keysD] at h3
        split at h3
        · rename_i q1 f1
          split at h3
          · rename_i q2 f2
            have h4 := Option.some.inj h3
            injection h4 with h5 h6
            injection h5 with h7
            rw [str_inj h7, keys_inj e1 e2 (by rw [f1, f2, h6])]
          · cases h3
        · rename_i f1
          obtain ⟨q, e⟩ := keys_some e1
          rw [e] at f1; cases f1
      · cases h2
    · cases h1
  | .int i :: r, .str j :: t, ks, h1, h2, h3 => by
    simp only [kindsD] at h1 h2
    split at h1
    · cases h1
      split at h2
      · cases h2
      · cases h2
    · cases h1
  | .str i :: r, .int j :: t, ks, h1, h2, h3 => by
    simp only [kindsD] at h1 h2
    split at h1
    · cases h1
      split at h2
      · cases h2
      · cases h2
    · cases h1
where keys_some : ∀ {ds : List PyData} {ks : List Bool}, kindsD ds = some ks → ∃ q, keysD ds = some q
  | [], _, _ => ⟨[], rfl⟩
  | .int i :: r, ks, h => by
    simp only [kindsD] at h
    split at h
    · rename_i e
      obtain ⟨q, f⟩ := keys_some e
      exact ⟨.inl i :: q, by simp only [keysD, f]⟩
    · cases h
  | .str i :: r, ks, h => by
    simp only [kindsD] at h
    split at h
    · rename_i e
      obtain ⟨q, f⟩ := keys_some e
      exact ⟨.inr i.cps.toList :: q, by simp only [keysD, f]⟩
    · cases h
  | .none :: _, _, h => by cases h
  | .bool _ :: _, _, h => by cases h
  | .list _ :: _, _, h => by cases h
  | .tuple _ :: _, _, h => by cases h
  | .dict _ :: _, _, h => by cases h

/-! ### sorted: tuples of numbers and texts, of one shape -/
def itemsV : List V → Option SKey
  | [] => some []
  | .int i :: r => match itemsV r with
    | some k => some (.inl i :: k)
    | none => none
  | .str x :: r => match itemsV r with
    | some k => some (.inr x.cps.toList :: k)
    | none => none
  | _ => none
def shapeV : List V → List Bool → Prop
  | [], [] => True
  | .int _ :: r, false :: k => shapeV r k
  | .str _ :: r, true :: k => shapeV r k
  | _, _ => False
def TupV (H : Hp) (f : Nat → Bool) (key : V → SKey) (x : V) : Prop := ∃ t items ks, x = .ref t ∧ Rd H t (.tup items) ∧ (shapeV items ks ∧ ks ≠ [] ∧ ∀ i b, ks[i]? = some b → f (0 + i) = b) ∧ itemsV items = some (key x)
def rSortT (K : PySem.W.Frag) : List V → Hp → VK → Prop := fun vs H Q => ∃ (a : Addr) (xs : List V) (f : Nat → Bool) (key : V → SKey), vs = [.ref a] ∧ SqL K H a xs ∧ (∀ x ∈ xs, TupV H f key x) ∧
  ∀ ys p, ys.Perm xs → ys.Pairwise (fun a b => lexLt itemOrd (key b) (key a) = false) → H p = none → Q (.ref p) (upd H p (.lst ys))
theorem perm_vals : ∀ {its out : List Value}, out.Perm its → ∀ {xs : List V}, Vals xs its → ∃ ys, Vals ys out ∧ ys.Perm xs := by
  intro its out p
  induction p with
  | nil => intro xs h; cases h; exact ⟨[], .nil, List.Perm.refl _⟩
  | cons x _ ih =>
    intro xs h
    cases h with
    | cons r t =>
      obtain ⟨ys, h1, h2⟩ := ih t
      exact ⟨_ :: ys, .cons r h1, h2.cons _⟩
  | swap x y l =>
    intro xs h
    cases h with
    | cons r t =>
      cases t with
      | cons r2 t2 => exact ⟨_ :: _ :: _, .cons r2 (.cons r t2), List.Perm.swap _ _ _⟩
  | trans _ _ ih1 ih2 =>
    intro xs h
    obtain ⟨ys, h1, h2⟩ := ih2 h
    obtain ⟨zs, h3, h4⟩ := ih1 h1
    exact ⟨zs, h3, h4.trans h2⟩
theorem tup_items : ∀ {items : List V} {its : List Value} {ks : List Bool} {f : Nat → Bool} {n : Nat} {k : SKey}, Vals items its → shapeV items ks → (∀ i b, ks[i]? = some b → f (n + i) = b) → itemsV items = some k → tupItems f n its = some k
  | [], _, _, _, _, _, .nil, _, _, e => by cases e; rfl
  | .int i :: r, _, false :: ks, f, n, k, .cons a b, h, hf, e => by
    obtain ⟨t, rfl⟩ := a
    simp only [itemsV] at e
    split at e
    · rename_i q hq
      cases e
      have h0 := hf 0 false rfl
      rw [Nat.add_zero] at h0
      have := tup_items (f := f) (n := n + 1) b h (fun j b' hj => by rw [show n + 1 + j = n + (j + 1) by omega]; exact hf (j + 1) b' (by simpa using hj)) hq
      simp [tupItems, h0, this]
    · cases e
  | .str i :: r, _, true :: ks, f, n, k, .cons a b, h, hf, e => by
    obtain ⟨t, rfl⟩ := a
    simp only [itemsV] at e
    split at e
    · rename_i q hq
      cases e
      have h0 := hf 0 true rfl
      rw [Nat.add_zero] at h0
      have := tup_items (f := f) (n := n + 1) b h (fun j b' hj => by rw [show n + 1 + j = n + (j + 1) by omega]; exact hf (j + 1) b' (by simpa using hj)) hq
      simp [tupItems, h0, this]
    · cases e
  | .int i :: r, _, [], _, _, _, _, h, _, _ => h.elim
  | .int i :: r, _, true :: _, _, _, _, _, h, _, _ => h.elim
  | .str i :: r, _, [], _, _, _, _, h, _, _ => h.elim
  | .str i :: r, _, false :: _, _, _, _, _, h, _, _ => h.elim
  | .non :: r, _, _, _, _, _, _, h, _, _ => by cases ‹List Bool› <;> exact h.elim
  | .bl _ :: r, _, _, _, _, _, _, h, _, _ => by cases ‹List Bool› <;> exact h.elim
  | .byt _ :: r, _, _, _, _, _, _, h, _, _ => by cases ‹List Bool› <;> exact h.elim
  | .flt _ :: r, _, _, _, _, _, _, h, _, _ => by cases ‹List Bool› <;> exact h.elim
  | .ref _ :: r, _, _, _, _, _, _, h, _, _ => by cases ‹List Bool› <;> exact h.elim
  | .ty _ :: r, _, _, _, _, _, _, h, _, _ => by cases ‹List Bool› <;> exact h.elim
theorem shape_head : ∀ {items : List V} {ks : List Bool}, shapeV items ks → ks ≠ [] → (∃ i r, items = .int i :: r ∧ ks[0]? = some false) ∨ (∃ x r, items = .str x :: r ∧ ks[0]? = some true)
  | .int i :: r, false :: _, _, _ => .inl ⟨i, r, rfl, rfl⟩
  | .str i :: r, true :: _, _, _ => .inr ⟨i, r, rfl, rfl⟩
  | .int _ :: _, true :: _, h, _ => h.elim
  | .str _ :: _, false :: _, h, _ => h.elim
  | [], _ :: _, h, _ => h.elim
  | .non :: _, _ :: _, h, _ => h.elim
  | .bl _ :: _, _ :: _, h, _ => h.elim
  | .byt _ :: _, _ :: _, h, _ => h.elim
  | .flt _ :: _, _ :: _, h, _ => h.elim
  | .ref _ :: _, _ :: _, h, _ => h.elim
  | .ty _ :: _, _ :: _, h, _ => h.elim
  | _, [], _, h => absurd rfl h
theorem cr_sortedT {X : Cx} : CallR X (.builtin "sorted") (rSortT X.K) := by
  intro pins s σ H vs us Q I r h
  obtain ⟨a, xs, f, key, rfl, hs, hx, q⟩ := h
  obtain ⟨its, rv, hl, hz⟩ := I.list hs
  obtain ⟨u, rfl, ru⟩ := r.one
  obtain rfl : u = Value.ref a := ru
  -- each item is a tuple of the heap with its key
  have one : ∀ {v : Value} {x : V}, RelV x v → TupV H f key x → G.tupKeyC s.heap f v = some (key x) ∧ ∃ w, TupOf s.heap f v w := fun {v x} rx ht => by
    obtain ⟨t, items, ks, rfl, hr, ⟨sh, hne, hfk⟩, ei⟩ := ht
    obtain rfl : v = Value.ref t := rx
    obtain ⟨its2, r2, p2, _⟩ := I.tuple (a := t) (xs := items) (.inl hr)
    obtain ⟨o, ho, hc, n, hd⟩ := id p2
    have hti : tupItems f 0 its2 = some (key (.ref t)) := tup_items r2 sh hfk ei
    refine ⟨?_, ?_⟩
    · have e1 : G.isTupObj s.heap (.ref t) = true := by simp [G.isTupObj, ho, hc]
      unfold G.tupKeyC
      rw [if_pos e1]
      simp only [tupKey, ho, hd]
      simpa using hti
    · rcases shape_head sh hne with ⟨i, rr, rfl, e0⟩ | ⟨i, rr, rfl, e0⟩
      · have h0 := hfk 0 false e0
        cases r2 with
        | cons ra rb =>
          obtain ⟨t1, rfl⟩ := ra
          refine ⟨_, t, o, _, n, rfl, ho, hc, hd, rfl, fun _ => ⟨i, t1, rfl⟩, fun z => ?_⟩
          rw [show f 0 = false from h0] at z; cases z
      · have h0 := hfk 0 true e0
        cases r2 with
        | cons ra rb =>
          obtain ⟨t1, rfl⟩ := ra
          refine ⟨_, t, o, _, n, rfl, ho, hc, hd, rfl, fun z => ?_, fun _ => ⟨i, t1, rfl⟩⟩
          rw [show f 0 = true from h0] at z; cases z
  have all : ∀ {xs : List V} {its : List Value}, Vals xs its → (∀ x ∈ xs, TupV H f key x) → (∃ fs, TupsOf s.heap f its fs) ∧ ∀ v ∈ its, ∃ x ∈ xs, RelV x v := fun {xs its} rv => by
    induction rv with
    | nil => exact fun _ => ⟨⟨[], .nil⟩, fun v h => by cases h⟩
    | cons r _ ih =>
      intro hx
      obtain ⟨⟨fs, hf⟩, hm⟩ := ih fun x m => hx x (List.mem_cons_of_mem _ m)
      obtain ⟨w, hw⟩ := (one r (hx _ List.mem_cons_self)).2
      refine ⟨⟨w :: fs, .cons hw hf⟩, fun v hv => ?_⟩
      rcases List.mem_cons.mp hv with rfl | hv
      · exact ⟨_, List.mem_cons_self, r⟩
      · obtain ⟨x, m, rr⟩ := hm v hv
        exact ⟨x, List.mem_cons_of_mem _ m, rr⟩
  obtain ⟨⟨fs, hfs⟩, hmem⟩ := all rv hx
  refine G.sorted_tups hl.isList hfs (fun v hv => by obtain ⟨x, m, rr⟩ := hmem v hv; exact ⟨_, (one rr (hx x m)).1⟩) (by rw [← rv.length]; exact hz) fun st' pm srt _ => ?_
  have pml : (arrOf st').toList.Perm (its.zip its) := by
    have := pm.toList
    rwa [pairsOf_toList] at this
  have diag : ∀ p ∈ (arrOf st').toList, p.1 = p.2 := fun p hp => (mem_zip_self (pml.mem_iff.mp hp)).1.symm ▸ rfl
  have out_perm : ((arrOf st').map (·.2)).toList.Perm its := by
    rw [Array.toList_map]
    refine (pml.map _).trans ?_
    rw [List.map_snd_zip (Nat.le_refl _)]
  obtain ⟨ys, hvy, hpy⟩ := perm_vals out_perm rv
  obtain ⟨ep, he'⟩ := PyProof.Rows.sortedAll_at s.heap its ((arrOf st').map (·.2))
  refine ⟨.ref _, upd H (s.heap.objs.size + 1) (.lst ys), I.laid (t' := s.toks) (fun _ _ => PyProof.Rows.sortedAll_old) (Nat.le_succ _) ⟨by rw [hpy.length_eq]; exact hz, _, ep, hvy, by rw [Array.toArray_toList]; exact he'⟩, rfl, q ys _ hpy ?_ (I.hok.fresh (Nat.le_succ _))⟩
  rw [List.pairwise_iff_getElem]
  intro i j hi hj hij
  have hlen : ys.length = (arrOf st').size := by rw [hvy.length]; simp
  have hsz : (pairsOf its).size = (arrOf st').size := by
    rw [pairsOf_size, ← rv.length, ← hpy.length_eq, hlen]
  have kk : ∀ (i : Nat) (hi : i < ys.length), KK (G.tupKindC s.heap f) (arrOf st') i = key ys[i] := fun i hi => by
    have hi2 : i < (arrOf st').size := by rw [← hlen]; exact hi
    obtain ⟨u, hu, ru⟩ := hvy.get (List.getElem?_eq_getElem hi)
    have e1 : ((arrOf st').map (·.2)).toList[i]? = some (arrOf st')[i].2 := by simp [hi2]
    rw [e1] at hu
    have hu' := Option.some.inj hu
    have e2 : (arrOf st')[i].1 = (arrOf st')[i].2 := diag _ (by simp)
    unfold KK
    rw [Array.getElem?_eq_getElem hi2]
    show (G.tupKeyC s.heap f (arrOf st')[i].1).getD _ = _
    rw [e2, hu', (one ru (hx _ (hpy.mem_iff.mp (List.getElem_mem hi)))).1]
    rfl
  have := srt i j (Nat.le_of_lt hij) (by rw [hsz, ← hlen]; exact hj)
  rw [kk i hi, kk j hj] at this
  exact this
/-! ### by data -/
def kindD : PyData → Option (Nat × List Bool)
  | .int _ => some (0, [])
  | .str _ => some (1, [])
  | .tuple ds => match kindsD ds with
    | some (b :: k) => some (2, b :: k)
    | _ => none
  | _ => none
def gSorted0 : List PyData → Option Rs
  | [.list []] => some (.new [])
  | [.list (x :: r)] => match kindD x with
    | some (n, k) => if (r.all fun y => decide (kindD y = some (n, k))) = true ∧ (n = 1 → r.length < 63) then some (.new (sortB ltK (x :: r))) else none
    | none => none
  | _ => none
theorem perm_dp {H : Hp} : ∀ {xs ys : List V}, ys.Perm xs → ∀ {ds : List PyData}, DpAll K0 H xs ds → ∃ es, DpAll K0 H ys es ∧ es.Perm ds := by
  intro xs ys p
  induction p with
  | nil => intro ds h; cases h; exact ⟨[], .nil, List.Perm.refl _⟩
  | cons x _ ih =>
    intro ds h
    cases h with
    | cons r t =>
      obtain ⟨es, h1, h2⟩ := ih t
      exact ⟨_ :: es, .cons r h1, h2.cons _⟩
  | swap x y l =>
    intro ds h
    cases h with
    | cons r t =>
      cases t with
      | cons r2 t2 => exact ⟨_ :: _ :: _, .cons r2 (.cons r t2), List.Perm.swap _ _ _⟩
  | trans _ _ ih1 ih2 =>
    intro ds h
    obtain ⟨es, h1, h2⟩ := ih2 h
    obtain ⟨fs, h3, h4⟩ := ih1 h1
    exact ⟨fs, h3, h4.trans h2⟩
theorem kind_inj {a b : PyData} {k : Nat × List Bool} (h1 : kindD a = some k) (h2 : kindD b = some k) (e : keyD a = keyD b) : a = b := by
  cases a with
  | int i =>
    cases h1
    cases b with
    | int j => simp only [keyD] at e; cases e; rfl
    | str j => cases h2
    | tuple ds => simp only [kindD] at h2; split at h2 <;> cases h2
    | _ => cases h2
  | str i =>
    cases h1
    cases b with
    | int j => cases h2
    | str j =>
      simp only [keyD] at e
      injection e with e1 _
      injection e1 with e2
      rw [str_inj e2]
    | tuple ds => simp only [kindD] at h2; split at h2 <;> cases h2
    | _ => cases h2
  | tuple ds =>
    simp only [kindD] at h1
    split at h1
    · rename_i bb kk e1
      cases h1
      cases b with
      | int j => cases h2
      | str j => cases h2
      | tuple es =>
        simp only [kindD] at h2
        split at h2
        · rename_i b2 k2 e2
          cases h2
          obtain ⟨q1, f1⟩ := keys_inj.keys_some e1
          obtain ⟨q2, f2⟩ := keys_inj.keys_some e2
          simp only [keyD, f1, f2, Option.getD_some] at e
          rw [keys_inj e1 e2 (by rw [f1, f2, e])]
        · cases h2
      | _ => cases h2
    · cases h1
  | _ => cases h1
theorem sort_is {ds es : List PyData} {k : Nat × List Bool} (hk : ∀ d ∈ ds, kindD d = some k) (p : es.Perm ds) (h : Srt ltK es) : es = sortB ltK ds := by
  refine srt_uniq (fun a ha b hb h1 h2 => ?_) (p.trans (sortB_perm ds).symm) h (sortK_srt ds)
  exact kind_inj (hk a (p.mem_iff.mp ha)) (hk b (p.mem_iff.mp hb)) (ltK_anti h1 h2)
theorem tup_key {H : Hp} : ∀ {items : List V} {ds : List PyData} {ks : List Bool}, DpAll K0 H items ds → kindsD ds = some ks → shapeV items ks ∧ itemsV items = keysD ds
  | _, [], ks, .nil, e => by cases e; exact ⟨trivial, rfl⟩
  | _, .int i :: r, ks, .cons a b, e => by
    cases a
    simp only [kindsD] at e
    split at e
    · rename_i k1 e1
      cases e
      obtain ⟨h1, h2⟩ := tup_key b e1
      exact ⟨h1, by simp only [itemsV, keysD, h2]⟩
    · cases e
  | _, .str i :: r, ks, .cons a b, e => by
    cases a
    simp only [kindsD] at e
    split at e
    · rename_i k1 e1
      cases e
      obtain ⟨h1, h2⟩ := tup_key b e1
      exact ⟨h1, by simp only [itemsV, keysD, h2]⟩
    · cases e
  | _, .none :: _, _, _, e => by cases e
  | _, .bool _ :: _, _, _, e => by cases e
  | _, .list _ :: _, _, _, e => by cases e
  | _, .tuple _ :: _, _, _, e => by cases e
  | _, .dict _ :: _, _, _, e => by cases e
def keyV (H : Hp) : V → SKey
  | .ref t => match H t with
    | some (.tup items) => (itemsV items).getD []
    | some (.frz _ (.tup items)) => (itemsV items).getD []
    | _ => []
  | _ => []
theorem key_of {O : OS} {H : Hp} {x : V} {d : PyData} {ks : List Bool} {f : Nat → Bool} (h : Dp K0 (hid O H) x d) (e : kindD d = some (2, ks)) (hf : ∀ i b, ks[i]? = some b → f (0 + i) = b) : TupV H f (keyV H) x ∧ keyV H x = keyD d ∧ ks ≠ [] := by
  cases h with
  | @tup t items ds s a =>
    simp only [kindD] at e
    split at e
    · rename_i b kk ek
      cases e
      have r := rd_hid (sqT0 s)
      obtain ⟨h1, h2⟩ := tup_key a ek
      obtain ⟨q, hq⟩ := keys_inj.keys_some ek
      rw [hq] at h2
      have kv : keyV H (.ref t) = q := by
        rcases r with r | ⟨o, r⟩ <;> simp only [keyV, r, h2, Option.getD_some]
      refine ⟨⟨t, items, b :: kk, rfl, r, ⟨h1, fun z => (by cases z), hf⟩, by rw [kv]; exact h2⟩, ?_, fun z => by cases z⟩
      rw [kv]; simp only [keyD, hq, Option.getD_some]
    · cases e
  | _ => cases e
theorem keys_map {O : OS} {H : Hp} {f : Nat → Bool} : ∀ {xs : List V} {ds : List PyData}, DpAll K0 (hid O H) xs ds → (∀ d ∈ ds, ∃ ks, kindD d = some (2, ks) ∧ ∀ i b, ks[i]? = some b → f (0 + i) = b) → xs.map (keyV H) = ds.map keyD ∧ ∀ x ∈ xs, TupV H f (keyV H) x
  | _, _, .nil, _ => ⟨rfl, fun x h => by cases h⟩
  | _, _, .cons a b, hk => by
    obtain ⟨ks, hk0, hf⟩ := hk _ List.mem_cons_self
    obtain ⟨h1, h2, _⟩ := key_of a hk0 hf
    obtain ⟨h3, h4⟩ := keys_map b fun d m => hk d (List.mem_cons_of_mem _ m)
    refine ⟨by rw [List.map_cons, List.map_cons, h2, h3], fun x hx => ?_⟩
    rcases List.mem_cons.mp hx with rfl | hx
    · exact h1
    · exact h4 x hx
theorem ints_all : ∀ {ds : List PyData}, (∀ d ∈ ds, kindD d = some (0, [])) → ∃ is, intsOf ds = some is ∧ ds = is.map PyData.int
  | [], _ => ⟨[], rfl, rfl⟩
  | d :: r, h => by
    obtain ⟨is, e1, e2⟩ := ints_all fun x m => h x (List.mem_cons_of_mem _ m)
    have := h d List.mem_cons_self
    cases d with
    | int i => exact ⟨i :: is, by simp only [intsOf, e1], by rw [e2]; rfl⟩
    | tuple ds => simp only [kindD] at this; split at this <;> cases this
    | _ => cases this
theorem strs_all : ∀ {ds : List PyData}, (∀ d ∈ ds, kindD d = some (1, [])) → ∃ is, strsOf ds = some is ∧ ds = is.map PyData.str
  | [], _ => ⟨[], rfl, rfl⟩
  | d :: r, h => by
    obtain ⟨is, e1, e2⟩ := strs_all fun x m => h x (List.mem_cons_of_mem _ m)
    have := h d List.mem_cons_self
    cases d with
    | str i => exact ⟨i :: is, by simp only [strsOf, e1], by rw [e2]; rfl⟩
    | tuple ds => simp only [kindD] at this; split at this <;> cases this
    | _ => cases this
theorem dp_ints {H : Hp} : ∀ (is : List Int), DpAll K0 H (is.map V.int) (is.map PyData.int)
  | [] => .nil
  | i :: r => .cons (.int i) (dp_ints r)
theorem dp_strs {H : Hp} : ∀ (is : List Str), DpAll K0 H (is.map V.str) (is.map PyData.str)
  | [] => .nil
  | i :: r => .cons (.str i) (dp_strs r)
theorem ltCps_is : ∀ (a b : List Nat), ltCps a b = decide (a < b)
  | [], [] => by simp [ltCps]
  | [], _ :: _ => by simp [ltCps]
  | _ :: _, [] => by simp [ltCps]
  | a :: r, b :: t => by
    rw [ltCps, ltCps_is r t, Bool.eq_iff_iff]
    simp only [Bool.or_eq_true, Bool.and_eq_true, decide_eq_true_eq, beq_iff_eq]
    exact List.cons_lt_cons_iff.symm
theorem risingS_pw : ∀ {l : List Str} {p : Str}, risingS p l = true → (p :: l).Pairwise fun a b => decide (b.cps.toList < a.cps.toList) = false
  | [], p, _ => List.pairwise_singleton _ _
  | x :: r, p, h => by
    have h' : (!ltCps x.cps.toList p.cps.toList && risingS x r) = true := h
    rw [Bool.and_eq_true] at h'
    have h1 : decide (x.cps.toList < p.cps.toList) = false := by
      rw [← ltCps_is]; simpa using h'.1
    have ih := risingS_pw h'.2
    refine List.pairwise_cons.mpr ⟨fun z hz => ?_, ih⟩
    rcases List.mem_cons.mp hz with rfl | hz
    · exact h1
    · exact KeyOrd.kle_trans (O := PyProof.Rows.strKind.toKeyOrd) (a := p.cps.toList) (b := x.cps.toList) (c := z.cps.toList) h1 ((List.pairwise_cons.mp ih).1 z hz)
theorem sortedS_pw : ∀ {l : List Str}, sortedS l = true → l.Pairwise fun a b => decide (b.cps.toList < a.cps.toList) = false
  | [], _ => List.Pairwise.nil
  | _ :: _, h => risingS_pw h
theorem kindT_inj {a b : PyData} {k1 k2 : List Bool} (h1 : kindD a = some (2, k1)) (h2 : kindD b = some (2, k2)) (e : keyD a = keyD b) : a = b := by
  have hl : ∀ {ds : List PyData} {ks : List Bool}, kindsD ds = some ks → ∀ {es : List PyData} {ls : List Bool}, kindsD es = some ls → keysD ds = keysD es → ks = ls := by
    intro ds
    induction ds with
    | nil =>
      intro ks e1 es ls e2 e
      cases es with
      | nil => cases e1; cases e2; rfl
      | cons y r =>
        cases e1
        obtain ⟨q, f⟩ := keys_inj.keys_some e2
        rw [f] at e
        cases y with
        | int i => simp only [keysD] at f e; split at f <;> cases f; cases e
        | str i => simp only [keysD] at f e; split at f <;> cases f; cases e
        | _ => cases e2
    | cons x r ih =>
      intro ks e1 es ls e2 e
      obtain ⟨q1, f1⟩ := keys_inj.keys_some e1
      obtain ⟨q2, f2⟩ := keys_inj.keys_some e2
      cases es with
      | nil =>
        rw [f1] at e
        cases x with
        | int i => simp only [keysD] at f1 e; split at f1 <;> cases f1; cases e
        | str i => simp only [keysD] at f1 e; split at f1 <;> cases f1; cases e
        | _ => cases e1
      | cons y t =>
        cases x with
        | int i =>
          simp only [kindsD] at e1
          split at e1 <;> cases e1
          rename_i k1 g1
          cases y with
          | int j =>
            simp only [kindsD] at e2
            split at e2 <;> cases e2
            rename_i k2 g2
            obtain ⟨p1, o1⟩ := keys_inj.keys_some g1
            obtain ⟨p2, o2⟩ := keys_inj.keys_some g2
            simp only [keysD, o1, o2, Option.some.injEq, List.cons.injEq] at e
            rw [ih g1 g2 (by rw [o1, o2, e.2])]
          | str j =>
            simp only [kindsD] at e2
            split at e2 <;> cases e2
            rename_i k2 g2
            obtain ⟨p1, o1⟩ := keys_inj.keys_some g1
            obtain ⟨p2, o2⟩ := keys_inj.keys_some g2
            simp only [keysD, o1, o2, Option.some.injEq, List.cons.injEq] at e
            exact absurd e.1 (by simp)
          | _ => cases e2
        | str i =>
          simp only [kindsD] at e1
          split at e1 <;> cases e1
          rename_i k1 g1
          cases y with
          | str j =>
            simp only [kindsD] at e2
            split at e2 <;> cases e2
            rename_i k2 g2
            obtain ⟨p1, o1⟩ := keys_inj.keys_some g1
            obtain ⟨p2, o2⟩ := keys_inj.keys_some g2
            simp only [keysD, o1, o2, Option.some.injEq, List.cons.injEq] at e
            rw [ih g1 g2 (by rw [o1, o2, e.2])]
          | int j =>
            simp only [kindsD] at e2
            split at e2 <;> cases e2
            rename_i k2 g2
            obtain ⟨p1, o1⟩ := keys_inj.keys_some g1
            obtain ⟨p2, o2⟩ := keys_inj.keys_some g2
            simp only [keysD, o1, o2, Option.some.injEq, List.cons.injEq] at e
            exact absurd e.1 (by simp)
          | _ => cases e2
        | _ => cases e1
  have hk : k1 = k2 := by
    cases a with
    | tuple ds =>
      cases b with
      | tuple es =>
        simp only [kindD] at h1 h2
        split at h1 <;> cases h1
        rename_i e1
        split at h2 <;> cases h2
        rename_i e2
        obtain ⟨q1, f1⟩ := keys_inj.keys_some e1
        obtain ⟨q2, f2⟩ := keys_inj.keys_some e2
        simp only [keyD, f1, f2, Option.getD_some] at e
        exact hl e1 e2 (by rw [f1, f2, e])
      | _ => cases h2
    | _ => cases h1
  subst hk
  exact kind_inj h1 h2 e
theorem sort_isT {ds es : List PyData} (hk : ∀ d ∈ ds, ∃ ks, kindD d = some (2, ks)) (p : es.Perm ds) (h : Srt ltK es) : es = sortB ltK ds := by
  refine srt_uniq (fun a ha b hb h1 h2 => ?_) (p.trans (sortB_perm ds).symm) h (sortK_srt ds)
  obtain ⟨k1, e1⟩ := hk a (p.mem_iff.mp ha)
  obtain ⟨k2, e2⟩ := hk b (p.mem_iff.mp hb)
  exact kindT_inj e1 e2 (ltK_anti h1 h2)
theorem tups_sort {K : PySem.W.Frag} {O : OS} {H : Hp} {Q : VK} {a : Addr} {xs : List V} {ds : List PyData} {f : Nat → Bool} (s : SqL K0 H a xs) (d : DpAll K0 (hid O H) xs ds) (hk : ∀ y ∈ ds, ∃ ks, kindD y = some (2, ks) ∧ ∀ i b, ks[i]? = some b → f (0 + i) = b)
    (k : ∀ v H' O', Alc H H' O O' → RsN K0 H H' O' v (.new (sortB ltK ds)) → Q v H') : rSortT K [.ref a] H Q := by
  obtain ⟨hm, ht⟩ := keys_map d hk
  refine ⟨a, xs, f, keyV H, rfl, sqL1 s, ht, fun ys p pm pw hp => ?_⟩
  obtain ⟨es, de, pe⟩ := perm_dp pm d
  obtain ⟨hm2, _⟩ := keys_map de fun y hy => hk y (pe.mem_iff.mp hy)
  have ee : es = sortB ltK ds := by
    refine sort_isT (fun y hy => by obtain ⟨ks, e, _⟩ := hk y hy; exact ⟨ks, e⟩) pe ?_
    unfold Srt ltK
    have p1 : (ys.map (keyV H)).Pairwise fun a b => lexLt itemOrd b a = false := List.pairwise_map.mpr pw
    rw [hm2] at p1
    exact List.pairwise_map.mp p1
  rw [← ee] at k
  exact k _ _ _ (Alc.new hp) (lst_new hp de)
def rSortA (K : PySem.W.Frag) : List V → Hp → VK → Prop := fun vs H Q => rSortedI K vs H Q ∨ (rSortedS K vs H Q ∨ rSortT K vs H Q)
theorem cr_sortedA {X : Cx} : CallR X (.builtin "sorted") (rSortA X.K) := CallR.or cr_sortedI (CallR.or cr_sortedS cr_sortedT)
theorem bok_sorted0 {K : PySem.W.Frag} : BOk K0 (rSortA K) gSorted0 := fun O H vs ds rs Q hO hv hg k => by
  unfold gSorted0 at hg
  split at hg
  · cases hg
    obtain ⟨v, rfl, h1⟩ := vws_one hv
    obtain ⟨a, xs, rfl, s, d⟩ := vw_list h1
    cases d
    refine .inl ⟨a, [], rfl, sqL1 s, fun ns' p pm _ hp => ?_⟩
    have := pm.eq_nil
    subst this
    exact k _ _ _ (Alc.new hp) (lst_new hp .nil)
  · rename_i x r
    split at hg
    · rename_i n kk ek
      obtain ⟨⟨hall, h63⟩, rfl⟩ := ite_some hg
      obtain ⟨v, rfl, h1⟩ := vws_one hv
      obtain ⟨a, xs, rfl, s, d⟩ := vw_list h1
      have hk : ∀ y ∈ x :: r, kindD y = some (n, kk) := fun y hy => by
        rcases List.mem_cons.mp hy with rfl | hy
        · exact ek
        · exact of_decide_eq_true (List.all_eq_true.mp hall y hy)
      have cases3 : (n = 0 ∧ kk = []) ∨ (n = 1 ∧ kk = []) ∨ n = 2 := by
        cases x with
        | int i => cases ek; exact .inl ⟨rfl, rfl⟩
        | str i => cases ek; exact .inr (.inl ⟨rfl, rfl⟩)
        | tuple ds => simp only [kindD] at ek; split at ek <;> cases ek; exact .inr (.inr rfl)
        | _ => cases ek
      rcases cases3 with ⟨rfl, rfl⟩ | ⟨rfl, rfl⟩ | rfl
      · obtain ⟨is, e1, e2⟩ := ints_all hk
        have := ints_ok d e1; subst xs
        refine .inl ⟨a, is, rfl, sqL1 s, fun ns' p pm pw hp => ?_⟩
        have es : ns'.map PyData.int = sortB ltK (x :: r) := by
          refine sort_is hk (by rw [e2]; exact pm.map _) ?_
          unfold Srt
          rw [List.pairwise_map]
          refine pw.imp fun {a b} h => ?_
          show PyProof.Rows.lexLt itemOrd [.inl b] [.inl a] = false
          have h1 : decide (b < a) = false := decide_eq_false (by omega)
          simp only [PyProof.Rows.lexLt, itemLt, Bool.and_false, Bool.or_false, h1]
        rw [← es] at k
        exact k _ _ _ (Alc.new hp) (lst_new hp (dp_ints ns'))
      · obtain ⟨is, e1, e2⟩ := strs_all hk
        have := strs_ok d e1; subst xs
        have hlen : is.length < 64 := by
          have := congrArg List.length e2
          simp at this
          have := h63 rfl
          omega
        refine .inr (.inl ⟨a, is, rfl, sqL1 s, hlen, fun ns' p pm pw hp => ?_⟩)
        have es : ns'.map PyData.str = sortB ltK (x :: r) := by
          refine sort_is hk (by rw [e2]; exact pm.map _) ?_
          unfold Srt
          rw [List.pairwise_map]
          refine (sortedS_pw pw).imp fun {a b} h => ?_
          show PyProof.Rows.lexLt itemOrd [.inr b.cps.toList] [.inr a.cps.toList] = false
          simp only [PyProof.Rows.lexLt, itemLt, Bool.and_false, Bool.or_false]
          exact h
        rw [← es] at k
        exact k _ _ _ (Alc.new hp) (lst_new hp (dp_strs ns'))
      · have hk2 : ∀ y ∈ x :: r, ∃ ks, kindD y = some (2, ks) ∧ ∀ i b, ks[i]? = some b → (fun i => kk.getD i false) (0 + i) = b := fun y hy => ⟨kk, hk y hy, fun i b e => by show kk.getD (0 + i) false = b; rw [Nat.zero_add, List.getD, e]; rfl⟩
        exact .inr (.inr (tups_sort (f := fun i => kk.getD i false) s d hk2 k))
    · cases hg
  · cases hg
/-- tuples of texts, of any lengths, besides -/
def txtT (d : PyData) : Bool := match kindD d with
  | some (2, ks) => ks.all id
  | _ => false
def gSorted : List PyData → Option Rs
  | [.list xs] => match gSorted0 [.list xs] with
    | some r => some r
    | none => if xs.all txtT = true then some (.new (sortB ltK xs)) else none
  | _ => none
theorem txt_kind {d : PyData} (h : txtT d = true) : ∃ ks, kindD d = some (2, ks) ∧ ∀ i b, ks[i]? = some b → (fun _ => true) (0 + i) = b := by
  unfold txtT at h
  split at h
  · rename_i ks e
    refine ⟨ks, e, fun i b hb => ?_⟩
    exact (List.all_eq_true.mp h b (List.mem_of_getElem? hb)).symm
  · cases h
theorem bok_sorted {K : PySem.W.Frag} : BOk K0 (rSortA K) gSorted := fun O H vs ds rs Q hO hv hg k => by
  unfold gSorted at hg
  split at hg
  · rename_i xs0
    split at hg
    · rename_i r e
      cases hg
      exact bok_sorted0 O H vs _ rs Q hO hv e k
    · obtain ⟨hall, rfl⟩ := ite_some hg
      obtain ⟨v, rfl, h1⟩ := vws_one hv
      obtain ⟨a, xs, rfl, s, d⟩ := vw_list h1
      exact .inr (.inr (tups_sort (f := fun _ => true) s d (fun y hy => txt_kind (List.all_eq_true.mp hall y hy)) k))
  · cases hg
end Dl
end

section
set_option Elab.async false
set_option linter.all false
set_option maxRecDepth 100000
namespace Dl
open PySem PySem.Spec PyProof.Rows L2

/-! ### a caught error is kept as a value -/
theorem exn_ok {P : Program} {w : World} {H : Hp} {h : Heap} {a d : Addr} {cls : Value} {oe : Obj} {vs : Array Value} (he : h.get? a = some oe) (h1 : oe.cls = cls) (h2 : oe.dict = some d) (h3 : oe.data = .fields vs) : ObjOk P w H h a (exn a cls d) :=
  ⟨⟨oe, vs, he, h1, h2, h3⟩, ⟨oe, he⟩, fun _ _ ⟨oe, vs, e, r⟩ k => ⟨oe, vs, k _ e, r⟩⟩
theorem exn_at {P : Program} {w : World} {H : Hp} {h : Heap} {a d : Addr} {cls : Value} (hok : HOk P w H h) (he : H a = some (exn a cls d)) : ∃ (oe : Obj) (vs : Array Value), h.get? a = some oe ∧ oe.cls = cls ∧ oe.dict = some d ∧ oe.data = .fields vs := by
  have x : ObjOk P w H h a (.ext fun h => ∃ (oe : Obj) (vs : Array Value), h.get? a = some oe ∧ oe.cls = cls ∧ oe.dict = some d ∧ oe.data = .fields vs) := hok a _ he
  exact x.1
section
variable {X : Cx} {pins : List (Addr × Obj)} {σ : L2.St} {H : Hp} {sI s : Shared} {B : Heap} {a d : Addr} {oe : Obj} {vs : Array Value} {cls : Value}
theorem track (J : Inv X pins σ H sI) (J4 : Inv X pins σ H s) (nb : ∀ b o, sI.heap.get? b = some o → b ∉ frs X.stack → B.get? b = some o) (hB : B.get? a = none) (na : H a = none) (he : s.heap.get? a = some oe) (h1 : oe.cls = cls) (h2 : oe.dict = some d) (h3 : oe.data = .fields vs)
    (nL : a ≠ X.env.locals) (nfr : a ∉ frs X.stack) : Inv X pins σ (upd H a (exn a cls d)) s := by
  have ne : ∀ {b : Addr} {o : HO}, H b = some o → b ≠ a := fun {b o} q z => by rw [z, na] at q; cases q
  have nI : ∀ o, sI.heap.get? a ≠ some o := fun o q => by have := nb a o q nfr; rw [hB] at this; cases this
  refine ⟨J4.ok, J4.os, J4.bare, ⟨J4.base.keep, J4.base.slot, fun b o q n hx => ?_, J4.base.there, fun b xs q => ?_, fun b o u q => ?_, fun b ps q => ?_⟩, J4.loc, J4.cell, ?_, fun y c e => ?_, fun p hp => ?_, fun b o q => ?_, J4.len⟩
  · have nba : b ≠ a := fun z => by
      subst z
      obtain ⟨o', q'⟩ := J.base.there b o q hx
      exact nI o' q'
    rw [upd_ne nba]; exact J4.base.free b o q n hx
  · have := J4.base.tups b xs q; rw [upd_ne (ne this)]; exact this
  · have := J4.base.frzs b o u q; rw [upd_ne (ne this)]; exact this
  · obtain ⟨more, this⟩ := J4.base.tbls b ps q; exact ⟨more, by rw [upd_ne (ne this)]; exact this⟩
  · rw [upd_ne nL.symm]; exact J4.free
  · have nca : c ≠ a := fun z => by
      subst z
      obtain ⟨v, o, q1, q2⟩ := J4.cell y c e
      rw [he] at q1; cases q1; rw [h3] at q2; cases q2
    rw [upd_ne nca]; exact J4.freeC y c e
  · obtain ⟨q1, q2, q3, q4, q5⟩ := J4.pin p hp
    have npa : p.1 ≠ a := fun z => by
      obtain ⟨r1, _⟩ := J.pin p hp
      rw [z] at r1
      exact nI _ r1
    exact ⟨q1, by rw [upd_ne npa]; exact q2, q3, q4, q5⟩
  · by_cases z : b = a
    · subst z
      rw [upd_same] at q; cases q
      exact exn_ok he h1 h2 h3
    · rw [upd_ne z] at q
      exact (J4.hok b o q).stay (fun _ _ _ y => y) (fun c hc => by rw [upd_ne (ne hc)]; exact hc) fun c xs hc => by rw [upd_ne (ne hc)]; exact hc
end
/-- an error at a, over X's frames -/
def Air (X : Cx) (pins : List (Addr × Obj)) (σ : L2.St) (H : Hp) (a : Addr) (cls : Value) (d : Option Addr) (s : Shared) : Prop :=
  ∃ (B : Heap) (sI : Shared), Inv X pins σ H sI ∧ (∀ b o, sI.heap.get? b = some o → b ∉ frs X.stack → B.get? b = some o) ∧ sI.heap.UpToSlots s.heap ∧ HandSPX.FlyingZ B (X.env :: X.outer) a (Zc cls d) s.heap ∧ H a = none ∧ s.os = sI.os ∧ AllBare s.gens
abbrev WH := Ends → Value → Option Addr → Addr → L2.St → Hp → Prop
/-- the clauses of a try -/
def PHs (X : Cx) (hs : List ExceptHandler) (wh : WH) : Prop := ∀ pins σ H D a cls d s, Air X pins σ H a cls d s → wh D cls d a σ H → wpAny (model X.prog X.w) X.A (handleBy (.ref a) X.env hs) (SP X pins D) X.xe s
section
variable {X : Cx} {W : WX}
theorem phs_nil (hs : X.stack = X.env :: X.outer) (hf : X.env.frame = some X.env.locals) (tk : Takes X W) : PHs X [] fun _ cls d _ σ H => W cls d σ H := by
  intro pins σ H D a cls d s air hw
  obtain ⟨B, sI, J, nb, up, fl, na, os, ag⟩ := air
  refine wpAny_handleBy_nil ?_
  obtain ⟨_, _, _, oe, vs, T, _, _, he, _, hd, h1, _⟩ := id fl
  unfold PySem.passOn
  refine wpAny_bind (wpAny_field he hd h1 ?_)
  rw [if_neg (show ¬ ((Value.ref T == Value.none) = true) from by simp)]
  have fin : wpAny (model X.prog X.w) X.A (setFlight (.ref a) X.env.frame) (fun _ r => wpAny (model X.prog X.w) X.A (throw (.ref a) : Sem Flow) (SP X pins D) X.xe r) X.xe s := by
    rw [hf]
    refine HandSPX.setFlight_upZ fl fun h4 hh4 up4 => wpAny_throw (tk _ _ ?_)
    exact ⟨a, B, sI, pins, σ, H, cls, d, rfl, J, nb, up.trans up4, .inr (.inr (by rw [hs]; exact hh4)), na, os, ag, hw⟩
  first
    | exact wpAny_bind (wpAny_pure (wpAny_bind fin))
    | exact wpAny_bind fin
/-- the suite's ends -/
abbrev endAs (i : Nat) (D : Ends) : Ends := { nx := fun σ H => D.nx (σ.set i none) H, rt := D.rt, bk := fun σ H => D.bk (σ.set i none) H, ct := fun σ H => D.ct (σ.set i none) H }
def whAs (K : PySem.W.Frag) (cc : Value) (i : Nat) (ts : TS) (wh : WH) : WH := fun D cls d a σ H => ∃ b, PySem.W.exmOne K cls cc = some b ∧ (b = true → ∃ dd, d = some dd ∧ ts (endAs i D) (σ.set i (some (.ref a))) (upd H a (exn a cls dd))) ∧ (b = false → wh D cls d a σ H)
def whNo (K : PySem.W.Frag) (cc : Value) (ts : TS) (wh : WH) : WH := fun D cls d a σ H => ∃ b, PySem.W.exmOne K cls cc = some b ∧ (b = true → ∃ dd, d = some dd ∧ ts D σ (upd H a (exn a cls dd))) ∧ (b = false → wh D cls d a σ H)
abbrev Cx.su (X : Cx) (a : Addr) (pn : List (Addr × Obj)) : Cx := { X with A := X.A.mark (some (.ref a)), calm := false, pn := pn, xe := fun _ _ => False }
theorem inv_su {pins : List (Addr × Obj)} {σ : L2.St} {H : Hp} {s : Shared} (I : Inv X pins σ H s) (a : Addr) : Inv (Cx.su X a (X.pn ++ pins)) [] σ H s :=
  ⟨I.ok.suite a _, I.os, I.bare, I.base, I.loc, I.cell, I.free, I.freeC, fun p hp => I.pin p (by rw [List.append_nil] at hp; exact hp), I.hok, I.len⟩
theorem inv_unsu {pins pn' : List (Addr × Obj)} {σ : L2.St} {H : Hp} {s : Shared} {a : Addr} (I : Inv (Cx.su X a (X.pn ++ pins)) pn' σ H s) (ok : X.Ok) : Inv X pins σ H s :=
  ⟨ok, I.os, I.bare, I.base, I.loc, I.cell, I.free, I.freeC, fun p hp => I.pin p (List.mem_append_left _ hp), I.hok, I.len⟩
/-- where the error stands, what is known of it -/
theorem Air.known {pins : List (Addr × Obj)} {σ : L2.St} {H : Hp} {a : Addr} {cls : Value} {d : Option Addr} {s : Shared} (hs : X.stack = X.env :: X.outer) (hf : X.env.frame = some X.env.locals) (air : Air X pins σ H a cls d s) :
    ∃ oe vs, s.heap.get? a = some oe ∧ Zc cls d oe ∧ oe.data = .fields vs ∧ Inv X pins σ H s ∧ (∀ dd, d = some dd → Inv X pins σ (upd H a (exn a cls dd)) s) := by
  obtain ⟨B, sI, J, nb, up, fl, na, os, ag⟩ := air
  have J3 : Inv X pins σ H s := J.landed nb fl.1 up os ag
  obtain ⟨oe, vs, he, hz, hd⟩ := fl.there
  have nfr : a ∉ frs (X.env :: X.outer) := fun hm => by
    obtain ⟨_, o', e', hnf⟩ := fl.2.2.1.mem hm
    rw [he] at e'; cases e'
    exact hnf _ hd
  have nL : a ≠ X.env.locals := fun z => nfr (List.mem_filterMap.mpr ⟨X.env, List.mem_cons_self, by rw [hf, z]⟩)
  exact ⟨oe, vs, he, hz, hd, J3, fun dd e => track J J3 nb fl.2.1 na he hz.1 (by rw [hz.2, e]) hd nL (by rw [hs]; exact nfr)⟩
variable {x n : Str} {cc : Value} {i : Nat} {hs' : List ExceptHandler} {suite : List Stmt} {b₀ : Stmt} {np pos' : Pos} {ts : TS} {wh : WH}
theorem test_name {pins : List (Addr × Obj)} {σ : L2.St} {H : Hp} {s : Shared} (I : Inv X pins σ H s) (a : Addr) (hc : Names X x cc) {Q : Value → Shared → Prop} {E : Value → Shared → Prop} (q : Q cc s) : wpAny (model X.prog X.w) (X.A.mark (some (.ref a))) (eval (.Name x np) X.env) Q E s := by
  obtain ⟨hg, hdbg, hm | ⟨hm, hv, hnn⟩⟩ := hc
  · exact ld_glob (X := Cx.su X a (X.pn ++ pins)) (inv_su I a) hg hm q hdbg
  · exact ld_blt (X := Cx.su X a (X.pn ++ pins)) (inv_su I a) hg hm hv q hnn hdbg
theorem phs_as (hs : X.stack = X.env :: X.outer) (hf : X.env.frame = some X.env.locals) (hN : X.N.Nodup) (hi : X.N[i]? = some n) (hln : X.env.kindOf n = some .local) (hc : Names X x cc)
    (hsu : ∀ (a : Addr) (pn : List (Addr × Obj)), PSs (Cx.su X a pn) (b₀ :: suite) ts) (hr : PHs X hs' wh) :
    PHs X (.ExceptHandler (some (.Name x np)) (some n) (b₀ :: suite) pos' :: hs') (whAs X.K cc i ts wh) := by
  intro pins σ H D a cls d s air hw
  obtain ⟨b, hb1, hyes, hno⟩ := hw
  obtain ⟨oe, vs, he, hz, hd, J3, _⟩ := Air.known hs hf air
  have ok := J3.ok
  refine wpAny_handleBy_cons (codeAny_handlers_test ?_) (by intro q; cases q)
  have LT : PySem.W.Looks (model X.prog X.w) s.heap (typeOf (.ref a)) cls := fun A Q E s k q => wpAny_typeOf_ref (k _ _ he) (by rw [hz.1]; exact q)
  refine test_name J3 a hc ((PySem.W.exm_one (M := model X.prog X.w) J3.kIn LT hb1).here ?_)
  cases b with
  | false => exact hr pins σ H D a cls d s air (hno rfl)
  | true =>
    obtain ⟨dd, ed, ht⟩ := hyes rfl
    refine codeAny_handlers_suite_as ?_
    obtain ⟨B, sI, J, nb, up, fl, na, os, ag⟩ := air
    refine HandSPX.lands_againZ fl fun h4 fl4 up4 => ?_
    obtain ⟨_, _, _, _, _, _, J4⟩ := Air.known (s := { s with heap := h4 }) hs hf ⟨B, sI, J, nb, up.trans up4, fl4, na, os, ag⟩
    refine store_ok (X := Cx.su X a (X.pn ++ pins)) (v := .ref a) (inv_su (J4 dd ed) a) hN hi (.inl hln) rfl (fun s5 S5 => ?_) (.inr hln)
    refine wpAny_mono ((hsu a (X.pn ++ pins)).run [] s5 _ _ _ S5 ht) (fun f s6 hsp => ?_) (fun _ _ z => False.elim z)
    have fin : ∀ {σ6 : L2.St} {H6 : Hp} {Q : Shared → Prop}, Inv (Cx.su X a (X.pn ++ pins)) [] σ6 H6 s6 → (∀ s7, Inv X pins (σ6.set i none) H6 s7 → Q s7) → wpAny (model X.prog X.w) X.A (do bindName X.env n .none; unbindBehindTheSuite X.env n pos') (fun _ s7 => Q s7) X.xe s6 :=
      fun {σ6 H6 Q} S6 hq => gone_ok (inv_unsu S6 ok) hN hi hln hq
    cases f with
    | ret u =>
      obtain ⟨v6, σ6, H6, S6, r6, q6⟩ := hsp
      exact fin S6 fun s7 J7 => ⟨_, _, _, J7, r6, q6⟩
    | next => obtain ⟨σ6, H6, S6, q6⟩ := hsp; exact fin S6 fun s7 J7 => ⟨_, _, J7, q6⟩
    | brk => obtain ⟨σ6, H6, S6, q6⟩ := hsp; exact fin S6 fun s7 J7 => ⟨_, _, J7, q6⟩
    | cont => obtain ⟨σ6, H6, S6, q6⟩ := hsp; exact fin S6 fun s7 J7 => ⟨_, _, J7, q6⟩
theorem phs_no (hs : X.stack = X.env :: X.outer) (hf : X.env.frame = some X.env.locals) (hc : Names X x cc)
    (hsu : ∀ (a : Addr) (pn : List (Addr × Obj)), PSs (Cx.su X a pn) (b₀ :: suite) ts) (hr : PHs X hs' wh) :
    PHs X (.ExceptHandler (some (.Name x np)) none (b₀ :: suite) pos' :: hs') (whNo X.K cc ts wh) := by
  intro pins σ H D a cls d s air hw
  obtain ⟨b, hb1, hyes, hno⟩ := hw
  obtain ⟨oe, vs, he, hz, hd, J3, _⟩ := Air.known hs hf air
  have ok := J3.ok
  refine wpAny_handleBy_cons (codeAny_handlers_test ?_) (by intro q; cases q)
  have LT : PySem.W.Looks (model X.prog X.w) s.heap (typeOf (.ref a)) cls := fun A Q E s k q => wpAny_typeOf_ref (k _ _ he) (by rw [hz.1]; exact q)
  refine test_name J3 a hc ((PySem.W.exm_one (M := model X.prog X.w) J3.kIn LT hb1).here ?_)
  cases b with
  | false => exact hr pins σ H D a cls d s air (hno rfl)
  | true =>
    obtain ⟨dd, ed, ht⟩ := hyes rfl
    refine codeAny_handlers_suite ?_
    obtain ⟨B, sI, J, nb, up, fl, na, os, ag⟩ := air
    refine HandSPX.lands_againZ fl fun h4 fl4 up4 => ?_
    obtain ⟨_, _, _, _, _, _, J4⟩ := Air.known (s := { s with heap := h4 }) hs hf ⟨B, sI, J, nb, up.trans up4, fl4, na, os, ag⟩
    refine wpAny_mono ((hsu a (X.pn ++ pins)).run [] _ _ _ _ (inv_su (J4 dd ed) a) ht) (fun f s6 hsp => ?_) (fun _ _ z => False.elim z)
    cases f with
    | ret u => obtain ⟨v6, σ6, H6, S6, r6, q6⟩ := hsp; exact ⟨_, _, _, inv_unsu S6 ok, r6, q6⟩
    | next => obtain ⟨σ6, H6, S6, q6⟩ := hsp; exact ⟨_, _, inv_unsu S6 ok, q6⟩
    | brk => obtain ⟨σ6, H6, S6, q6⟩ := hsp; exact ⟨_, _, inv_unsu S6 ok, q6⟩
    | cont => obtain ⟨σ6, H6, S6, q6⟩ := hsp; exact ⟨_, _, inv_unsu S6 ok, q6⟩
/-- try: body, clauses -/
theorem ps_tryH {h0 : ExceptHandler} {hb : List ExceptHandler} {body : List Stmt} {tb : WX → TS} {pos : Pos} (hs : X.stack = X.env :: X.outer) (hf : X.env.frame = some X.env.locals)
    (hbody : ∀ (W : WX) (pn : List (Addr × Obj)) (xe : Value → Shared → Prop), Takes (X.tr pn xe) W → PassesOwn (model X.prog X.w) X.A X.env xe → PSs (X.tr pn xe) body (tb W)) (hh : PHs X (h0 :: hb) wh) :
    PS X (.Try body (h0 :: hb) [] [] pos) (fun D σ H => tb (fun cls d σ' H' => ∀ a, H' a = none → wh D cls d a σ' H') D σ H) := by
  refine ⟨fun pins s σ H D I h => ?_⟩
  have ok := I.ok
  have hfr : X.A.frames = some (X.env :: X.outer) := by rw [ok.frames, hs]
  refine wpAny_Try_except ?_
  refine wpAny_mono ((hbody (fun cls d σ' H' => ∀ a, H' a = none → wh D cls d a σ' H') (X.pn ++ pins) (fun e r => wpAny (model X.prog X.w) X.A (noteFrame e X.env) (fun _ r => wpAny (model X.prog X.w) X.A (setFlight e none) (fun _ r =>
    wpAny (model X.prog X.w) X.A (handleBy e X.env (h0 :: hb)) (SP X pins D) X.xe r) X.xe r) X.xe r) (fun u s' xx => ?_) PassesOwn.looking).run [] s σ H D (I.toTry _) h) (fun f s1 hsp => ?_) (fun e s1 he => he)
  · obtain ⟨a, B, sI, pins', σ', H', cls, d, rfl, J', nb, up, sky, na, os, ag, ww⟩ := xx
    have J : Inv X pins σ' H' sI := J'.ofTry ok
    have sky' : Sky B (X.env :: X.outer) a (Zc cls d) X.env.locals s'.heap := by rw [← hs]; exact sky
    show wpAny (model X.prog X.w) X.A (noteFrame (.ref a) X.env) _ _ _
    exact Sky.land Zc.steady hfr hf sky' fun h3 fl3 up3 => hh pins σ' H' D a cls d _ ⟨B, sI, J, nb, up.trans up3, fl3, na, os, ag⟩ (ww a na)
  · cases f with
    | ret u => obtain ⟨v, σ', H', J', r, q⟩ := hsp; exact ⟨v, σ', H', J'.ofTry ok, r, q⟩
    | next => obtain ⟨σ', H', J', q⟩ := hsp; exact wpAny_execs_nil ⟨σ', H', J'.ofTry ok, q⟩
    | brk => obtain ⟨σ', H', J', q⟩ := hsp; exact ⟨σ', H', J'.ofTry ok, q⟩
    | cont => obtain ⟨σ', H', J', q⟩ := hsp; exact ⟨σ', H', J'.ofTry ok, q⟩
end
end Dl
end

section
set_option Elab.async false
set_option linter.all false
set_option maxRecDepth 100000
namespace Dl
open PySem PySem.Spec PyProof.Rows L2

/-! ### another wish -/
abbrev Ct.wi (c : Ct) (W : WX) : Ct := { c with W := W }
section
variable {c : Ct} {W : WX}
theorem relW {O : OS} {σ : L2.St} {H : Hp} {ρ : En} (L : Rel K0 c O σ H ρ) : Rel K0 (c.wi W) O σ H ρ := ⟨L.len, L.low, L.dom0, L.o0, L.dom, L.sl, L.inj⟩
theorem relV {O : OS} {σ : L2.St} {H : Hp} {ρ : En} (L : Rel K0 (c.wi W) O σ H ρ) : Rel K0 c O σ H ρ := ⟨L.len, L.low, L.dom0, L.o0, L.dom, L.sl, L.inj⟩
/-- a slot that owns nothing is stored -/
theorem put_slot {σ : L2.St} {ρ : En} {H : Hp} {O : OS} {w : Option V} {s : Sl} (i : Nat) (L : Rel K0 c O σ H ρ) (ho : s.isOwn = false) (hf : s.fixed = false) (ok : SlOk K0 c O H w s) : Rel K0 c O (σ.set i w) H (ρ.set i s) ∧ Stp σ (σ.set i w) ρ (ρ.set i s) H H O O := by
  have back : ∀ {j : Nat} {a : Addr} {t : Sl}, (σ.set i w)[j]? = some (some (V.ref a)) → (ρ.set i s)[j]? = some t → t.isOwn = true → σ[j]? = some (some (V.ref a)) ∧ ρ[j]? = some t := fun {j a t} h1 h2 h3 => by
    rcases get_set h2 with ⟨_, rfl⟩ | ⟨n, g⟩
    · rw [ho] at h3; cases h3
    · rcases get_set h1 with ⟨e, _⟩ | ⟨_, g1⟩
      · exact absurd e n
      · exact ⟨g1, g⟩
  refine ⟨⟨by rw [List.length_set, List.length_set]; exact L.len, L.low, L.dom0, L.o0, L.dom, fun j v t h1 h2 => ?_, fun j k a t u h1 h2 h3 h4 h5 h6 => ?_⟩, ⟨fun _ h => h, fun _ _ h _ => h, fun _ h => .inl h, fun a h => ?_, fun _ h => .inr h, fun j t h f => ?_⟩⟩
  · rcases get_set h1 with ⟨e, rfl⟩ | ⟨e, g⟩
    · rcases get_set h2 with ⟨_, rfl⟩ | ⟨n, _⟩
      · exact ok
      · exact absurd e n
    · rcases get_set h2 with ⟨z, _⟩ | ⟨_, g2⟩
      · exact absurd z e
      · exact L.sl j v t g g2
  · obtain ⟨a1, a2⟩ := back h1 h3 h5
    obtain ⟨b1, b2⟩ := back h2 h4 h6
    exact L.inj j k a t u a1 b1 a2 b2 h5 h6
  · obtain ⟨j, t, h1, h2, h3⟩ := h
    obtain ⟨a1, a2⟩ := back h1 h2 h3
    exact .inl ⟨j, t, a1, a2, h3⟩
  · rcases get_set h with ⟨_, rfl⟩ | ⟨n, g⟩
    · rw [hf] at f; cases f
    · exact ⟨t, g, f, by rw [List.getElem?_set_ne n.symm], Iff.rfl⟩
end

/-! ### try -/
abbrev Hx := Nat → List (Str × PyData) → Mo Fl
def hNil : Hx := fun n fs ρ => some (.ex n fs, ρ)
def hAs (p : Nat → Bool) (i : Nat) (y : Mo Fl) (h : Hx) : Hx := fun n fs ρ => if p n = true then match y (ρ.set i (.exc n fs)) with
  | some (.val (.rt r), ρ') => some (.val (.rt r), ρ')
  | some (.val .nx, ρ') => some (.val .nx, ρ'.set i .no)
  | some (.val .bk, ρ') => some (.val .bk, ρ'.set i .no)
  | some (.val .ct, ρ') => some (.val .ct, ρ'.set i .no)
  | _ => none else h n fs ρ
def hNo (p : Nat → Bool) (y : Mo Fl) (h : Hx) : Hx := fun n fs ρ => if p n = true then match y ρ with
  | some (.val f, ρ') => some (.val f, ρ')
  | _ => none else h n fs ρ
def yTry (y : Mo Fl) (h : Hx) : Mo Fl := fun ρ => match y ρ with
  | some (.ex n fs, ρ') => h n fs ρ'
  | r => r
def whD (c : Ct) (h : Hx) : WH := fun D cls d a σ H => ∃ n fs dd O ρ, cls = .ref (c.ce n) ∧ d = some dd ∧ H a = none ∧ Rel K0 c O σ H ρ ∧ ExOk K0 c H O dd fs ∧ PostS c D O σ H ρ (h n fs ρ)
section
variable {X : Cx} {c : Ct} {h : Hx} {hs' : List ExceptHandler} {y : Mo Fl}
theorem phs_imp {wh wh' : WH} (q : PHs X hs' wh) (i : ∀ D cls d a σ H, wh' D cls d a σ H → wh D cls d a σ H) : PHs X hs' wh' := fun pins σ H D a cls d s air w => q pins σ H D a cls d s air (i _ _ _ _ _ _ w)
theorem dh_nil (hs : X.stack = X.env :: X.outer) (hf : X.env.frame = some X.env.locals) (tk : Takes X c.W) : PHs X [] (whD c hNil) := phs_imp (phs_nil hs hf tk) fun D cls d a σ H ⟨n, fs, dd, O, ρ, e1, e2, na, L, E, q⟩ => by
  subst e1 e2
  exact q dd σ H O .refl L E
theorem exc_rel {O : OS} {σ : L2.St} {H : Hp} {ρ : En} {n : Nat} {fs : List (Str × PyData)} {dd a : Addr} (L : Rel K0 c O σ H ρ) (na : H a = none) (E : ExOk K0 c H O dd fs) :
    Alc H (upd H a (exn a (.ref (c.ce n)) dd)) O O ∧ SlOk K0 c O (upd H a (exn a (.ref (c.ce n)) dd)) (some (.ref a)) (.exc n fs) := by
  have al : Alc H (upd H a (exn a (.ref (c.ce n)) dd)) O O := Alc.data na
  obtain ⟨h0, ho, ws, hd, hf⟩ := E
  have oa : O a = false := by
    cases e : O a with
    | false => rfl
    | true => exact absurd na (L.dom a e)
  refine ⟨al, a, rfl, dd, ws, by rw [hid_of oa, upd_same], ?_, fsOk_mono al.hid hf⟩
  rw [hid_of ho]; exact al.same _ _ hd
variable {x n : Str} {cc : Value} {i : Nat} {suite : List Stmt} {b₀ : Stmt} {np pos' : Pos} {p : Nat → Bool}
theorem dh_as (hs : X.stack = X.env :: X.outer) (hf : X.env.frame = some X.env.locals) (hN : X.N.Nodup) (hi : X.N[i]? = some n) (hln : X.env.kindOf n = some .local) (hc : Names X x cc) (hp : ∀ m, PySem.W.exmOne X.K (.ref (c.ce m)) cc = some (p m))
    (hsu : ∀ (a : Addr) (pn : List (Addr × Obj)), PSs (Cx.su X a pn) (b₀ :: suite) (rdS c.blk y)) (hr : PHs X hs' (whD c h)) :
    PHs X (.ExceptHandler (some (.Name x np)) (some n) (b₀ :: suite) pos' :: hs') (whD c (hAs p i y h)) := phs_imp (phs_as hs hf hN hi hln hc hsu hr) fun D cls d a σ H ⟨m, fs, dd, O, ρ, e1, e2, na, L, E, q⟩ => by
  subst e1 e2
  refine ⟨p m, hp m, fun e => ?_, fun e => ?_⟩
  · unfold hAs at q
    rw [if_pos e] at q
    obtain ⟨al, sl⟩ := exc_rel (n := m) L na E
    have L1 := al.rel L
    obtain ⟨L5, s2⟩ := put_slot i L1 rfl rfl sl
    have s02 := (Alc.stp (σ := σ) (ρ := ρ) al).trans L s2
    have gone : ∀ {σ' : L2.St} {H' : Hp} {O' : OS} {ρ' : En}, Stp (σ.set i (some (.ref a))) σ' (ρ.set i (.exc m fs)) ρ' (upd H a (exn a (.ref (c.ce m)) dd)) H' O O' → Rel K0 c.blk O' σ' H' ρ' → Stp σ (σ'.set i none) ρ (ρ'.set i .no) H H' O O' ∧ Rel K0 c O' (σ'.set i none) H' (ρ'.set i .no) := fun {σ' H' O' ρ'} s3 L3 => by
      obtain ⟨L4, s4⟩ := put_slot (w := none) (s := .no) i (relU L3) rfl rfl trivial
      exact ⟨(s02.trans L s3).trans L s4, L4⟩
    refine ⟨dd, rfl, O, ρ.set i (.exc m fs), relB L5, ?_⟩
    match e : y (ρ.set i (.exc m fs)) with
    | none => rw [e] at q; exact q
    | some (.ex _ _, ρ') => rw [e] at q; exact q.elim
    | some (.val .nx, ρ') => rw [e] at q; exact fun σ' H' O' s3 L3 => q _ _ _ (gone s3 L3).1 (gone s3 L3).2
    | some (.val .bk, ρ') => rw [e] at q; exact fun σ' H' O' s3 L3 => q _ _ _ (gone s3 L3).1 (gone s3 L3).2
    | some (.val .ct, ρ') => rw [e] at q; exact fun σ' H' O' s3 L3 => q _ _ _ (gone s3 L3).1 (gone s3 L3).2
    | some (.val (.rt r), ρ') => rw [e] at q; exact fun v σ' H' O' s3 L3 rt => q v _ _ _ (s02.trans L s3) (relU L3) (by cases r <;> exact rt)
  · unfold hAs at q
    rw [if_neg (by rw [e]; decide)] at q
    exact ⟨m, fs, dd, O, ρ, rfl, rfl, na, L, E, q⟩
theorem dh_no (hs : X.stack = X.env :: X.outer) (hf : X.env.frame = some X.env.locals) (hc : Names X x cc) (hp : ∀ m, PySem.W.exmOne X.K (.ref (c.ce m)) cc = some (p m))
    (hsu : ∀ (a : Addr) (pn : List (Addr × Obj)), PSs (Cx.su X a pn) (b₀ :: suite) (rdS c.blk y)) (hr : PHs X hs' (whD c h)) :
    PHs X (.ExceptHandler (some (.Name x np)) none (b₀ :: suite) pos' :: hs') (whD c (hNo p y h)) := phs_imp (phs_no hs hf hc hsu hr) fun D cls d a σ H ⟨m, fs, dd, O, ρ, e1, e2, na, L, E, q⟩ => by
  subst e1 e2
  refine ⟨p m, hp m, fun e => ?_, fun e => ?_⟩
  · unfold hNo at q
    rw [if_pos e] at q
    obtain ⟨al, _⟩ := exc_rel (n := m) L na E
    have s02 : Stp σ σ ρ ρ H (upd H a (exn a (.ref (c.ce m)) dd)) O O := al.stp
    refine ⟨dd, rfl, O, ρ, relB (al.rel L), ?_⟩
    match e : y ρ with
    | none => rw [e] at q; exact q
    | some (.ex _ _, ρ') => rw [e] at q; exact q.elim
    | some (.val .nx, ρ') => rw [e] at q; exact fun σ' H' O' s3 L3 => q _ _ _ (s02.trans L s3) (relU L3)
    | some (.val .bk, ρ') => rw [e] at q; exact fun σ' H' O' s3 L3 => q _ _ _ (s02.trans L s3) (relU L3)
    | some (.val .ct, ρ') => rw [e] at q; exact fun σ' H' O' s3 L3 => q _ _ _ (s02.trans L s3) (relU L3)
    | some (.val (.rt r), ρ') => rw [e] at q; exact fun v σ' H' O' s3 L3 rt => q v _ _ _ (s02.trans L s3) (relU L3) (by cases r <;> exact rt)
  · unfold hNo at q
    rw [if_neg (by rw [e]; decide)] at q
    exact ⟨m, fs, dd, O, ρ, rfl, rfl, na, L, E, q⟩
theorem ds_try {h0 : ExceptHandler} {hb : List ExceptHandler} {body : List Stmt} {pos : Pos} (hs : X.stack = X.env :: X.outer) (hf : X.env.frame = some X.env.locals)
    (hbody : ∀ (W : WX) (pn : List (Addr × Obj)) (xe : Value → Shared → Prop), Takes (X.tr pn xe) (c.wi W).W → PassesOwn (model X.prog X.w) X.A X.env xe → PSs (X.tr pn xe) body (rdS (c.wi W) y)) (hh : PHs X (h0 :: hb) (whD c h)) :
    PS X (.Try body (h0 :: hb) [] [] pos) (rdS c (yTry y h)) := ps_imp (ps_tryH (tb := fun W => rdS (c.wi W) y) hs hf hbody hh) fun D σ H ⟨O, ρ, L, q⟩ => by
  refine ⟨O, ρ, relW L, ?_⟩
  unfold yTry at q
  match e : y ρ with
  | none => rw [e] at q; exact q
  | some (.val .nx, ρ') => rw [e] at q; exact fun σ' H' O' s3 L3 => q _ _ _ s3 (relV L3)
  | some (.val .bk, ρ') => rw [e] at q; exact fun σ' H' O' s3 L3 => q _ _ _ s3 (relV L3)
  | some (.val .ct, ρ') => rw [e] at q; exact fun σ' H' O' s3 L3 => q _ _ _ s3 (relV L3)
  | some (.val (.rt r), ρ') => rw [e] at q; exact fun v σ' H' O' s3 L3 rt => q v _ _ _ s3 (relV L3) (by cases r <;> exact rt)
  | some (.ex n fs, ρ') =>
    rw [e] at q
    exact fun dd σ' H' O' s3 L3 E a na => ⟨n, fs, dd, O', ρ', rfl, rfl, na, relV L3, E, q.later L s3⟩
end

/-! ### a caught error in a name -/
def ySetE (i j : Nat) : Mo Fl := fun ρ => match ρ[j]? with
  | some (.exc n fs) => some (.val .nx, ρ.set i (.exc n fs))
  | _ => none
/-- x is None, x an error or data -/
def xIsN (j : Nat) : Mo Rs := fun ρ => match ρ[j]? with
  | some (.exc _ _) => some (.val (.dt (.bool false)), ρ)
  | some (.dat .none) => some (.val (.dt (.bool true)), ρ)
  | some (.dat _) => some (.val (.dt (.bool false)), ρ)
  | _ => none
def xFld (j : Nat) (f : Str) : Mo Rs := fun ρ => match ρ[j]? with
  | some (.exc _ fs) => match fs.lookup f with
    | some d => some (.val (.dt d), ρ)
    | none => none
  | _ => none
def xIsE (j : Nat) (p : Nat → Bool) : Mo Rs := fun ρ => match ρ[j]? with
  | some (.exc n _) => some (.val (.dt (.bool (p n))), ρ)
  | _ => none
theorem fs_lookup {K : PySem.W.Frag} {H : Hp} {f : Str} {d : PyData} : ∀ {ws : List (Str × V)} {fs : List (Str × PyData)}, FsOk K H ws fs → fs.lookup f = some d → ∃ v, ws.lookup f = some v ∧ Dp K H v d
  | [], [], _, e => by cases e
  | [], _ :: _, h, _ => by cases h.1
  | _ :: _, [], h, _ => by cases h.1
  | (g, v) :: ws, (g', d') :: fs, h, e => by
    obtain ⟨h1, h2⟩ := h
    simp only [List.map_cons, List.cons.injEq] at h1
    obtain ⟨rfl, h1⟩ := h1
    cases h2 with
    | cons a r =>
      simp only [List.lookup] at e ⊢
      split at e
      · cases e; exact ⟨v, rfl, a⟩
      · exact fs_lookup ⟨h1, r⟩ e
section
variable {X : Cx} {c : Ct} {j : Nat} {e : Expr} {pos : Pos}
theorem ds_setE {i : Nat} {xn : Str} {pos' : Pos} (j : Nat) (hN : X.N.Nodup) (hi : X.N[i]? = some xn) (hx : Loc X.env.scope xn) (he : PE X e (tVar j)) (hs : swapsWith e (some (.Name xn pos')) pos.line X.env = pure false := by rfl) (hf : X.fn xn = true ∨ X.env.scope.names.lookup xn = some .local := by first | exact .inl rfl | exact .inr rfl | assumption) :
    PS X (.Assign [.Name xn pos'] e pos) (rdS c (ySetE i j)) := ps_imp (ps_set hN hi hx he hs hf) fun D σ H ⟨O, ρ, L, q⟩ => by
  unfold ySetE at q
  split at q
  · rename_i n fs h
    obtain ⟨w, hw, ok⟩ := slot_of L h
    obtain ⟨a, rfl, ev⟩ := id ok
    obtain ⟨L1, s1⟩ := put_slot i L rfl rfl ok
    exact ⟨.ref a, hw, q _ H O s1 L1⟩
  · exact q.elim
theorem de_isN (j : Nat) {p : Pos} {k : Nat} (he : PE X e (tVar j)) (hm : behindInMarks .Is (.Constant .none k p) = false := by first | exact nomark _ | rfl) : PE X (.Compare e [.Is] [.Constant .none k p] pos) (rd K0 c (xIsN j)) := pe_imp (pe_cmpR op_isN he pe_non hm) fun σ H Q ⟨O, ρ, L, q⟩ => by
  unfold xIsN at q
  split at q
  · rename_i n fs h
    obtain ⟨w, hw, a, rfl, ev⟩ := slot_of L h
    exact ⟨_, hw, rfl, q (.bl false) H O .refl L (.bl false)⟩
  · rename_i h
    obtain ⟨w, hw, v, rfl, d⟩ := slot_of L h
    cases d
    exact ⟨_, hw, rfl, q (.bl true) H O .refl L (.bl true)⟩
  · rename_i d nd h
    obtain ⟨w, hw, v, rfl, d⟩ := slot_of L h
    refine ⟨_, hw, rfl, ?_⟩
    have nn : v ≠ .non := fun z => by subst z; cases d; exact nd rfl
    rw [decide_eq_false nn]
    exact q (.bl false) H O .refl L (.bl false)
  · exact q.elim
theorem de_fld (j : Nat) {f : Str} (T : ∀ n, XfC X.K (c.ce n)) (hno : ∀ n, PySem.W.findIn X.K (.ref (c.ce n)) f = some none) (he : PE X e (tVar j)) (hb : attributeBase e f X.env (eval e X.env) = eval e X.env := by rfl) : PE X (.Attribute e f pos) (rd K0 c (xFld j f)) := by
  refine ⟨fun pins s σ H Q I h => ?_⟩
  obtain ⟨O, ρ, L, q⟩ := h
  unfold xFld at q
  split at q
  · rename_i n fs hj
    split at q
    · rename_i d hl
      obtain ⟨w, hw, a, rfl, dd, ws, h1, h2, h3⟩ := slot_of L hj
      obtain ⟨v, hv, hd⟩ := fs_lookup h3 hl
      refine attr_of hb (thn (he.run pins s σ H (fun x H1 => x = .ref a ∧ H1 = H) I ⟨_, hw, rfl, rfl⟩) fun u s1 hh => ?_)
      obtain ⟨x, H1, I1, rx, rfl, rfl⟩ := hh
      obtain rfl : u = Value.ref a := rx
      obtain ⟨oe, vs, ha, hc, hdi, hda⟩ := exn_at I1.hok (hid_le h1).2
      have hx : ObjOk X.prog X.w H1 s1.heap dd (.xd ws) := I1.hok dd _ (hid_le h2).2
      obtain ⟨mA, hns, hr⟩ := hx
      obtain ⟨od, ho, hlk⟩ := lookIn_ns hns
      obtain ⟨u, hu, ru⟩ := RelO.some_of (v := v) (o := mA f) (by rw [← hv]; exact hr f)
      have J : PySem.W.InstAt s1.heap a oe (c.ce n) (some od) := ⟨ha, hc, by unfold PySem.W.notCls; rw [hda] <;> rfl, by rw [hdi]; exact ho⟩
      exact HandSPX.exc_get I1.kIn J (T n).ga (T n).gg (T n).exC (PySem.W.findObj_own (T n).hdC (hno n) rfl (by rw [hlk, hu])) (handed_of ru) ⟨v, H1, I1.tok _, ru, q v H1 O .refl L hd⟩
    · exact q.elim
  · exact q.elim
/-- isinstance of a caught error -/
def rIsX (K : PySem.W.Frag) : List V → Hp → VK → Prop := fun xs H Q => ∃ (a D dd : Addr) (ws : List (Str × V)) (cv : V) (u : Value) (b : Bool), xs = [.ref a, cv] ∧ H a = some (exn a (.ref D) dd) ∧ H dd = some (.xd ws) ∧ (∀ z, RelV cv z → z = u) ∧ ExcC K D ∧ PySem.W.kitOne K (.ref D) u = some b ∧ Q (.bl b) H
theorem call_isX : CallR X (.builtin "isinstance") (rIsX X.K) := by
  intro pins s σ H xs us Q I r h
  obtain ⟨a, D, dd, ws, cv, u, b, rfl, h1, h2, hcv, C, e, q⟩ := h
  cases r with
  | cons rx rr => cases rr with
    | cons rt rr =>
      cases rr
      cases rx
      have ec := hcv _ rt
      subst ec
      obtain ⟨oe, vs, ha, hc, hdi, hda⟩ := exn_at I.hok h1
      obtain ⟨mA, hns, _⟩ : ∃ mA, s.heap.Ns1 dd mA ∧ ∀ f, RelO (ws.lookup f) (mA f) := (I.hok dd _ h2 : ObjOk X.prog X.w H s.heap dd (.xd ws))
      obtain ⟨od, ho, _⟩ := lookIn_ns hns
      have J : PySem.W.InstAt s.heap a oe D (some od) := ⟨ha, hc, by unfold PySem.W.notCls; rw [hda] <;> rfl, by rw [hdi]; exact ho⟩
      have hcl : (PySem.W.clsIn X.K D).isSome = true := by
        obtain ⟨cd, hc, _⟩ := PySem.W.any_some C.hd
        rw [hc]; rfl
      exact PySem.W.kia_one (PySem.W.kitx_exc hcl C.hg C.hk C.hs C.ha C.hn C.ht C.hm) I.kIn J e (fun z => nomatch z) fun tk => ⟨.bl b, H, I.kept (t' := tk) fun _ _ z => z, rfl, q⟩
theorem post_isE {p : Nat → Bool} {cv : V} {u : Value} {σ : L2.St} {H : Hp} {Q : VK} (T : ∀ n, ExcC X.K (c.ce n)) (hp : ∀ n, PySem.W.kitOne X.K (.ref (c.ce n)) u = some (p n)) (hcv : ∀ z, RelV cv z → z = u) (h : rd K0 c (xIsE j p) σ H Q) : ∃ v, σ[j]? = some (some v) ∧ rIsX X.K [v, cv] H Q := by
  obtain ⟨O, ρ, L, q⟩ := h
  unfold xIsE at q
  split at q
  · rename_i n fs hj
    obtain ⟨w, hw, a, rfl, dd, ws, h1, h2, h3⟩ := slot_of L hj
    exact ⟨_, hw, a, _, dd, ws, cv, u, p n, rfl, (hid_le h1).2, (hid_le h2).2, hcv, T n, hp n, q (.bl (p n)) H O .refl L (.bl _)⟩
  · exact q.elim
theorem de_isE (j : Nat) {p : Nat → Bool} {C : Addr} {tn : Str} {p1 p2 pos : Pos} (T : ∀ n, ExcC X.K (c.ce n)) (hp : ∀ n, PySem.W.kitOne X.K (.ref (c.ce n)) (.ref C) = some (p n)) (hm : X.mg "isinstance" = none) (hmt : X.mg tn = some (.ref C)) (he : PE X e (tVar j))
    (hg : Gl X "isinstance" := by rfl) (hgt : Gl X tn := by rfl) (hdb : (tn == ("__debug__" : Str)) = false := by decide)
    (h1 : starEach (e :: [.Name tn p2]) X.env = (false, eval e X.env) :: starEach [.Name tn p2] X.env := by rfl) (h2 : starEach [.Name tn p2] X.env = [(false, eval (.Name tn p2) X.env)] := by rfl) (hpl : (backTo pos (starEach [.Name tn p2] X.env)).any (·.1) = false := by rfl) :
    PE X (.Call (.Name "isinstance" p1) [e, .Name tn p2] [] pos) (rd K0 c (xIsE j p)) :=
  pe_imp (pe_callB call_isX hg hm (by decide +kernel) (pa_cons he (pa_cons (pe_glob (v := .ref C) hgt hmt rfl hdb) pa_nil h2) h1) (by decide) (by decide) h1 hpl) fun σ H Q h => by
    obtain ⟨v, hv, r⟩ := post_isE (cv := .ref C) T hp (fun z r => by cases r; rfl) h
    exact ⟨v, hv, r⟩
theorem de_isV (j : Nat) {p : Nat → Bool} {tn : Str} {ty : String} {p1 p2 pos : Pos} (T : ∀ n, ExcC X.K (c.ce n)) (hp : ∀ n, PySem.W.kitOne X.K (.ref (c.ce n)) (.type ty) = some (p n)) (hm : X.mg "isinstance" = none) (hmt : X.mg tn = none) (hbt : bootBuiltins tn = some (.type ty)) (he : PE X e (tVar j))
    (hg : Gl X "isinstance" := by rfl) (hgt : Gl X tn := by rfl) (hn : tn ≠ "__name__" := by decide) (hdb : (tn == ("__debug__" : Str)) = false := by decide)
    (h1 : starEach (e :: [.Name tn p2]) X.env = (false, eval e X.env) :: starEach [.Name tn p2] X.env := by rfl) (h2 : starEach [.Name tn p2] X.env = [(false, eval (.Name tn p2) X.env)] := by rfl) (hpl : (backTo pos (starEach [.Name tn p2] X.env)).any (·.1) = false := by rfl) :
    PE X (.Call (.Name "isinstance" p1) [e, .Name tn p2] [] pos) (rd K0 c (xIsE j p)) :=
  pe_imp (pe_callB call_isX hg hm (by decide +kernel) (pa_cons he (pa_cons (pe_bltn (v := .ty ty) hgt hmt hbt rfl hn hdb) pa_nil h2) h1) (by decide) (by decide) h1 hpl) fun σ H Q h => by
    obtain ⟨v, hv, r⟩ := post_isE (cv := .ty ty) T hp (fun z r => by cases r; rfl) h
    exact ⟨v, hv, r⟩
end

/-! ### raise: a class whose __init__ keeps its brackets' values -/
def spI (C : Addr) (f : Str) : Sp := fun vs H Q _ => vs.length = 2 ∧ ∃ (a : Addr) (v : V), vs = [.ref a, v] ∧ H a = some (exo a C none) ∧ ∀ dx, H dx = none → dx ≠ a → Q .non (upd (upd H dx (exd dx [(f, v)])) a (exo a C (some dx)))
def spI2 (C : Addr) (f g : Str) : Sp := fun vs H Q _ => vs.length = 3 ∧ ∃ (a : Addr) (v u : V), vs = [.ref a, v, u] ∧ H a = some (exo a C none) ∧ ∀ dx, H dx = none → dx ≠ a → Q .non (upd (upd (upd H dx (exd dx [(f, v)])) a (exo a C (some dx))) dx (exd dx [(g, u), (f, v)]))
section
variable {P : Program} {w : World} {K : PySem.W.Frag} {mg : Str → Option Value} {base : Heap}
theorem init_ok {x qual : Str} {st : Stmt} {f : Addr} {fd : FuncData} {k : Nat} {C : Addr} {fl : Str} {p1 p2 p3 pos : Pos} (F : Fun K x qual st f fd) (S : FnScope ["self", fl] ["self", fl] (defScope st)) (T : OexC K C) (hno : PySem.W.findIn K (.ref C) fl = some none)
    (hb : defBody st = [.Assign [.Attribute (.Name "self" p1) fl p2] (.Name fl p3) pos]) (v1 : Vis (defScope st) "self") (v2 : Vis (defScope st) fl) (hd : (fl == ("__debug__" : Str)) = false) (hcd : (fl == ("__classdict__" : Str)) = false)
    (hs : ∀ env : Env, swapsWith (.Name fl p3) (some (.Attribute (.Name "self" p1) fl p2)) pos.line env = pure false) : FnOk P w K mg base (L2.CX P w) (k + 1) f fd ["self", fl] (spI C fl) := by
  refine F.okX S (fun vs H Q E h => h.1) fun cdv A outer s H vs Q E hr h => ?_
  obtain ⟨_, a, v, rfl, ha, q⟩ := h
  rw [hb]
  exact ⟨_, pss_one (ps_ost (pe_var (i := 0) rfl v1) (pe_var (i := 1) rfl v2 hd hcd) (hs _)), v, rfl, .ref a, rfl, a, C, rfl, T, hno, .inl ⟨ha, fun dx n ne => q dx n ne⟩⟩
theorem init_ok2 {x qual : Str} {st : Stmt} {f : Addr} {fd : FuncData} {k : Nat} {C : Addr} {fl gl : Str} {p1 p2 p3 pos q1 q2 q3 pos' : Pos} (F : Fun K x qual st f fd) (S : FnScope ["self", fl, gl] ["self", fl, gl] (defScope st)) (T : OexC K C) (hno : PySem.W.findIn K (.ref C) fl = some none) (hno2 : PySem.W.findIn K (.ref C) gl = some none)
    (hb : defBody st = [.Assign [.Attribute (.Name "self" p1) fl p2] (.Name fl p3) pos, .Assign [.Attribute (.Name "self" q1) gl q2] (.Name gl q3) pos']) (v1 : Vis (defScope st) "self") (v2 : Vis (defScope st) fl) (v3 : Vis (defScope st) gl) (hd : (fl == ("__debug__" : Str)) = false) (hcd : (fl == ("__classdict__" : Str)) = false) (hd2 : (gl == ("__debug__" : Str)) = false) (hcd2 : (gl == ("__classdict__" : Str)) = false)
    (hs : ∀ env : Env, swapsWith (.Name fl p3) (some (.Attribute (.Name "self" p1) fl p2)) pos.line env = pure false) (hs2 : ∀ env : Env, swapsWith (.Name gl q3) (some (.Attribute (.Name "self" q1) gl q2)) pos'.line env = pure false) : FnOk P w K mg base (L2.CX P w) (k + 1) f fd ["self", fl, gl] (spI2 C fl gl) := by
  refine F.okX S (fun vs H Q E h => h.1) fun cdv A outer s H vs Q E hr h => ?_
  obtain ⟨_, a, v, u, rfl, ha, q⟩ := h
  rw [hb]
  exact ⟨_, pss_cons (ps_ost (pe_var (i := 0) rfl v1) (pe_var (i := 1) rfl v2 hd hcd) (hs _)) (pss_one (ps_ost (pe_var (i := 0) rfl v1) (pe_var (i := 2) rfl v3 hd2 hcd2) (hs2 _))), v, rfl, .ref a, rfl, a, C, rfl, T, hno, .inl ⟨ha, fun dx n ne =>
    ⟨u, rfl, .ref a, rfl, a, C, rfl, T, hno2, .inr ⟨dx, [(fl, v)], upd_same, by rw [upd_ne ne, upd_same], by simp, q dx n ne⟩⟩⟩⟩
end
def yRaise (n : Nat) (f : Str) (ys : Mo (List Vd)) : Mo Fl := bnd ys fun as ρ => match dts as with
  | some [d] => some (.ex n [(f, d)], ρ)
  | _ => none
def yRaise2 (n : Nat) (f g : Str) (ys : Mo (List Vd)) : Mo Fl := bnd ys fun as ρ => match dts as with
  | some [d, e] => some (.ex n [(g, e), (f, d)], ρ)
  | _ => none
section
variable {X : Cx} {c : Ct} {e : Expr} {es : List Expr} {ys : Mo (List Vd)} {x : Str} {p p1 pos : Pos} {fI : Addr} {k n : Nat} {fd : FuncData} {ps : List Str} {f g : Str}
theorem no_pass : Passes (L2.CX X.prog X.w) X (fun _ _ _ => False) := fun _ _ _ _ _ _ _ ⟨_, _, _, _, _, _, _, _, _, _, _, _, z⟩ => z.elim
/-- the heap behind the making -/
theorem made_alc {H : Hp} {O : OS} {a dx C : Addr} {v : HO} {fs : List (Str × V)} (ha : H a = none) (hd : H dx = none) (ne : dx ≠ a) {H2 : Hp} (e2 : ∀ b, b ≠ a → b ≠ dx → H2 b = H b) : Alc H (upd (del H2 a) dx (.xd fs)) O O := by
  refine ⟨fun b o h => ?_, fun _ h => .inl h, fun _ h => h⟩
  have n1 : b ≠ dx := fun z => by rw [z, hd] at h; cases h
  have n2 : b ≠ a := fun z => by rw [z, ha] at h; cases h
  rw [upd_ne n1, del_ne n2, e2 b n2 n1]; exact h
theorem ds_raise (hc : X.calm = true) (T : OexC X.K (c.ce n)) (iC : PySem.W.findIn X.K (.ref (c.ce n)) "__init__" = some (some (.ref fI))) (tI : PySem.W.typeIn X.K (.ref fI) = some (.type "function")) (F1 : FnOk X.prog X.w X.K X.mg X.base (L2.CX X.prog X.w) k fI fd ps (spI (c.ce n) f)) (hr : Room (k + 1) X.A) (hb : Binds X.K fd ps [])
    (hm : X.mg x = some (.ref (c.ce n))) (tk : Takes X c.W) (ha : PA X (e :: es) (rdVs K0 c ys)) (hg : Gl X x := by rfl)
    (hdb : (x == ("__debug__" : Str)) = false := by decide) (he : starEach (e :: es) X.env = (false, eval e X.env) :: starEach es X.env := by rfl) (hpl : (backTo p1 (starEach es X.env)).any (·.1) = false := by rfl) :
    PS X (.Raise (some (.Call (.Name x p) (e :: es) [] p1)) none pos) (rdS c (yRaise n f ys)) := ps_imp (ps_raise hc tk (pmk_oex T iC tI F1 hr hb .nil no_pass hg hm ha hdb he hpl)) fun D σ H ⟨O, ρ, L, q⟩ => ⟨O, ρ, L, by
  refine PostS.bind L q fun as ρ1 vs H1 O1 _ s L1 q1 k0 _ => ?_
  match ed : dts as with
  | none => simp only [ed] at k0; exact k0.elim
  | some [] => simp only [ed] at k0; exact k0.elim
  | some (_ :: _ :: _) => simp only [ed] at k0; exact k0.elim
  | some [d] =>
    simp only [ed] at k0
    have hd := dts_ok q1 ed
    cases hd with
    | @cons v _ vr _ dv dr =>
      cases dr
      refine ⟨by simp, fun a na => ⟨rfl, a, v, rfl, upd_same, fun dx nd ne => ⟨rfl, dx, [(f, v)], upd_same, by rw [upd_ne ne, upd_same], ?_, ?_⟩⟩⟩
      · rw [upd_ne ne] at nd; exact nd
      · have nd1 : H1 dx = none := by rw [upd_ne ne] at nd; exact nd
        have al : Alc H1 (upd (del (upd (upd (upd H1 a (exo a (c.ce n) none)) dx (exd dx [(f, v)])) a (exo a (c.ce n) (some dx))) a) dx (.xd [(f, v)])) O1 O1 := made_alc (v := exd dx []) (C := c.ce n) na nd1 ne fun b n1 n2 => by rw [upd_ne n1, upd_ne n2, upd_ne n1]
        have o1 : O1 dx = false := by
          cases eo : O1 dx with
          | false => rfl
          | true => exact absurd nd1 (L1.dom dx eo)
        exact k0 dx σ _ O1 al.stp (al.rel L1) ⟨h0_of L1 nd1, o1, _, upd_same, rfl, .cons (dp_mono al.hid dv) .nil⟩⟩
theorem ds_raise2 (hc : X.calm = true) (T : OexC X.K (c.ce n)) (iC : PySem.W.findIn X.K (.ref (c.ce n)) "__init__" = some (some (.ref fI))) (tI : PySem.W.typeIn X.K (.ref fI) = some (.type "function")) (F1 : FnOk X.prog X.w X.K X.mg X.base (L2.CX X.prog X.w) k fI fd ps (spI2 (c.ce n) f g)) (hr : Room (k + 1) X.A) (hb : Binds X.K fd ps [])
    (hm : X.mg x = some (.ref (c.ce n))) (tk : Takes X c.W) (ha : PA X (e :: es) (rdVs K0 c ys)) (hg : Gl X x := by rfl)
    (hdb : (x == ("__debug__" : Str)) = false := by decide) (he : starEach (e :: es) X.env = (false, eval e X.env) :: starEach es X.env := by rfl) (hpl : (backTo p1 (starEach es X.env)).any (·.1) = false := by rfl) :
    PS X (.Raise (some (.Call (.Name x p) (e :: es) [] p1)) none pos) (rdS c (yRaise2 n f g ys)) := ps_imp (ps_raise hc tk (pmk_oex T iC tI F1 hr hb .nil no_pass hg hm ha hdb he hpl)) fun D σ H ⟨O, ρ, L, q⟩ => ⟨O, ρ, L, by
  refine PostS.bind L q fun as ρ1 vs H1 O1 _ s L1 q1 k0 _ => ?_
  match ed : dts as with
  | none => simp only [ed] at k0; exact k0.elim
  | some [] => simp only [ed] at k0; exact k0.elim
  | some [_] => simp only [ed] at k0; exact k0.elim
  | some (_ :: _ :: _ :: _) => simp only [ed] at k0; exact k0.elim
  | some [d, d2] =>
    simp only [ed] at k0
    have hd := dts_ok q1 ed
    cases hd with
    | @cons v _ vr _ dv dr =>
      cases dr with
      | @cons u _ vr _ du dr =>
        cases dr
        refine ⟨by simp, fun a na => ⟨rfl, a, v, u, rfl, upd_same, fun dx nd ne => ⟨rfl, dx, [(g, u), (f, v)], by rw [upd_ne ne.symm, upd_same], upd_same, ?_, ?_⟩⟩⟩
        · rw [upd_ne ne] at nd; exact nd
        · have nd1 : H1 dx = none := by rw [upd_ne ne] at nd; exact nd
          have al : Alc H1 (upd (del (upd (upd (upd (upd H1 a (exo a (c.ce n) none)) dx (exd dx [(f, v)])) a (exo a (c.ce n) (some dx))) dx (exd dx [(g, u), (f, v)])) a) dx (.xd [(g, u), (f, v)])) O1 O1 := made_alc (v := exd dx []) (C := c.ce n) na nd1 ne fun b n1 n2 => by rw [upd_ne n2, upd_ne n1, upd_ne n2, upd_ne n1]
          have o1 : O1 dx = false := by
            cases eo : O1 dx with
            | false => rfl
            | true => exact absurd nd1 (L1.dom dx eo)
          exact k0 dx σ _ O1 al.stp (al.rel L1) ⟨h0_of L1 nd1, o1, _, upd_same, rfl, .cons (dp_mono al.hid du) (.cons (dp_mono al.hid dv) .nil)⟩⟩
end
end Dl
end

section
set_option Elab.async false
set_option linter.all false
set_option maxRecDepth 100000
namespace Dl
open PySem PySem.Spec PyProof.Rows L2

/-! ### calls by keywords -/
def pick {α : Type} (perm : List Nat) (l : List α) : List α := perm.filterMap fun i => l[i]?
def KwB (fd : FuncData) (ps ks : List Str) (perm : List Nat) : Prop := ∀ ws : List Value, ws.length = ks.length → bindArgs fd ⟨[], ks.zip ws⟩ = pure (ps.zip (pick perm ws))
theorem vals_get : ∀ {vs : List V} {us : List Value} (i : Nat), Vals vs us → (vs[i]? = none ∧ us[i]? = none) ∨ ∃ v u, vs[i]? = some v ∧ us[i]? = some u ∧ RelV v u
  | _, _, _, .nil => .inl ⟨by simp, by simp⟩
  | _, _, 0, .cons r _ => .inr ⟨_, _, rfl, rfl, r⟩
  | _, _, i + 1, .cons _ t => by simpa using vals_get i t
theorem vals_pick {vs : List V} {us : List Value} (h : Vals vs us) : ∀ perm : List Nat, Vals (pick perm vs) (pick perm us)
  | [] => .nil
  | i :: r => by
    unfold pick
    rcases vals_get i h with ⟨e1, e2⟩ | ⟨v, u, e1, e2, rel⟩
    · rw [List.filterMap_cons_none e1, List.filterMap_cons_none e2]; exact vals_pick h r
    · rw [List.filterMap_cons_some e1, List.filterMap_cons_some e2]; exact .cons rel (vals_pick h r)
theorem dp_pick {K : PySem.W.Frag} {H : Hp} {vs : List V} {ds : List PyData} (h : DpAll K H vs ds) : ∀ perm : List Nat, DpAll K H (pick perm vs) (pick perm ds)
  | [] => .nil
  | i :: r => by
    unfold pick
    cases e : vs[i]? with
    | none =>
      have e2 : ds[i]? = none := by
        rw [List.getElem?_eq_none_iff] at e ⊢; rw [← dpAll_len h]; exact e
      rw [List.filterMap_cons_none e, List.filterMap_cons_none e2]; exact dp_pick h r
    | some v =>
      obtain ⟨d, e2, hd⟩ := dpAll_get h e
      rw [List.filterMap_cons_some e, List.filterMap_cons_some e2]; exact .cons hd (dp_pick h r)
def xCallK (perm : List Nat) (f : Fx) (ys : Mo (List Vd)) : Mo Rs := bnd ys fun as ρ => match dts as with
  | none => none
  | some ds => match f ((pick perm ds).map .dat) with
    | none => none
    | some (o, _) => some (o, ρ)
section
variable {X : Cx} {c : Ct} {k : Nat} {f : Addr} {fd : FuncData} {ps ks : List Str} {n m : Nat} {xf : Fx} {x : Str} {p pos kpos : Pos} {e : Expr} {kws : List Keyword} {ys : Mo (List Vd)} {y : Mo Vd} {nm : Option Str} {perm : List Nat}
theorem pk_imp {t t' : TA} (h : PK X kws t) (i : ∀ σ H Q, t' σ H Q → t σ H Q) : PK X kws t' := ⟨fun pos pins s σ H Q I q => h.run pos pins s σ H Q I (i σ H Q q)⟩
theorem dk_nil : PK X [] (rdVs K0 c vNil) := pk_imp pk_nil fun σ H Q ⟨O, ρ, L, q⟩ => q [] H O .refl L .nil
theorem dk_cons (ha : PE X e (rdV K0 c y)) (hr : PK X kws (rdVs K0 c ys)) : PK X (⟨nm, e, kpos⟩ :: kws) (rdVs K0 c (vCons y ys)) := pk_imp (pk_cons ha hr) fun σ H Q h => rdV_cons h
def lenM (n : Nat) (ys : Mo (List Vd)) : Prop := ∀ ρ as ρ', ys ρ = some (.val as, ρ') → as.length = n
theorem lenM_nil : lenM 0 vNil := fun ρ as ρ' h => by cases h; rfl
theorem lenM_cons (h : lenM n ys) : lenM (n + 1) (vCons y ys) := fun ρ as ρ' e => by
  unfold vCons bnd at e
  match e1 : y ρ with
  | none => simp only [e1] at e; cases e
  | some (.ex _ _, _) => simp only [e1] at e; cases e
  | some (.val a, ρ1) =>
    simp only [e1] at e
    match e2 : ys ρ1 with
    | none => simp only [e2] at e; cases e
    | some (.ex _ _, _) => simp only [e2] at e; cases e
    | some (.val bs, ρ2) =>
      simp only [e2] at e
      cases e
      simp [h _ _ _ e2]
theorem de_callK (F : FnOk X.prog X.w X.K X.mg X.base (L2.CX X.prog X.w) k f fd ps (spX c.ce n xf)) (hr : Room k X.A) (hm : X.mg x = some (.ref f)) (hk : PySem.W.keepIn X.K (.ref f) = true) (hb : KwB fd ps ks perm) (tk : Takes X c.W) (hn : ∀ ds, xf ds = none ∨ ds.length = n) (hkw : PK X kws (rdVs K0 c ys)) (hl : lenM ks.length ys)
    (hall : (backToKw pos (keywordEach kws X.env)).all (·.1.isSome) = true := by rfl) (hks : (backToKw pos (keywordEach kws X.env)).filterMap (·.1) = ks := by rfl) (hg : Gl X x := by rfl) (hdb : (x == ("__debug__" : Str)) = false := by decide)
    (hpl : ((backTo pos (starEach [] X.env)).any (·.1) || (backToKw pos (keywordEach kws X.env)).any (·.1.isNone)) = false := by rfl) :
    PE X (.Call (.Name x p) [] kws pos) (rd K0 c (xCallK perm xf ys)) := by
  refine ⟨fun pins s σ H Q I h => ?_⟩
  obtain ⟨O, ρ, L, q⟩ := h
  refine wpAny_Call_Name_kw (ld_glob I hg hm ?_ hdb)
  refine PySem.W.callWith_KW0 (h₀ := X.base) I.ok.mod.kin hk hall ?_ hpl
  have hq : PostG K0 c O σ H ρ (RVs K0 σ) (fun vs H1 => vs.length = ks.length ∧ spX c.ce n xf (pick perm vs) H1 Q (WE c.W σ)) (ys ρ) := by
    refine PostG.bind mn_R L q fun as ρ1 vs H1 O1 e1 s L1 q1 k _ => ?_
    refine ⟨by rw [rvl_len q1]; exact hl _ _ _ e1, ?_⟩
    cases e : dts as with
    | none => simp only [e] at k; exact k.elim
    | some ds =>
      simp only [e] at k
      have hd := dp_pick (dts_ok q1 e) perm
      rcases hn ((pick perm ds).map .dat) with z | z
      · rw [z] at k; exact k.elim
      · exact call_dat L1 (by rw [dpAll_len hd]; simpa using z) hd k
  refine thn (hkw.run pos pins s σ H _ I ⟨O, ρ, L, hq⟩) fun ws s2 ⟨zs, H2, I2, rz, hlen, q2⟩ => ⟨I2.kIn, ?_⟩
  rw [hks]
  have r2 := vals_pick rz perm
  have hw : ws.length = ks.length := by rw [← rz.length]; exact hlen
  refine wpAny_call (codeAny_mono (F.run X.A X.stack s2 H2 ⟨[], ks.zip ws⟩ (pick perm ws) (pick perm zs) Q (WE c.W σ) hr I2.env0 (.of_eq (hb ws hw)) r2 q2) fun r s' hq => ?_)
  cases r with
  | error e => exact passAt tk σ pins H2 s2 e s' I2 hq
  | ok fl =>
    cases fl with
    | ret u => exact I2.after hq
    | next => exact False.elim hq
    | brk => exact False.elim hq
    | cont => exact False.elim hq
end
end Dl
end

section
set_option Elab.async false
set_option linter.all false
set_option maxRecDepth 100000
namespace Dl
open PySem PySem.Spec PyProof.Rows L2

/-! ### a new list handed to a def that may change it -/
def xCallN (f : Fx) (x : Mo Rs) : Mo Rs := bnd x fun r ρ => match r with
  | .new xs => match f [.bor xs] with
    | some (o, _) => some (o, ρ)
    | none => none
  | _ => none
section
variable {X : Cx} {c : Ct} {k : Nat} {f : Addr} {fd : FuncData} {ps : List Str} {n : Nat} {xf : Fx} {xn : Str} {p pos : Pos} {e : Expr} {x : Mo Rs}
theorem post_callN {O : OS} {σ : L2.St} {H : Hp} {ρ : En} {Q : VK} (hn : ∀ ds, xf ds = none ∨ ds.length = n) (L : Rel K0 c O σ H ρ) (q : PostG K0 c O σ H ρ (RR K0 c σ) Q (xCallN xf x ρ)) : PostG K0 c O σ H ρ (RR K0 c σ) (fun v H1 => spX c.ce n xf [v] H1 Q (WE c.W σ)) (x ρ) := by
  refine PostG.bind mn_R L q fun r ρ1 v H1 O1 _ s L1 q1 _ k0 => ?_
  cases r with
  | dt d => exact k0.elim
  | newd xs => exact k0.elim
  | new xs =>
    obtain ⟨p, us, rfl, hp, ho, no, hh, hd⟩ := q1
    simp only at k0
    have hl : [V.ref p].length = n := by
      rcases hn [.bor xs] with z | z
      · rw [z] at k0; exact k0.elim
      · simpa using z
    have ow : ∀ a, OwnA [.ref p] [.bor xs] a → a = p := fun a ⟨i, ys, h1, h2⟩ => by
      cases i with
      | zero => simp at h1; exact h1.symm
      | succ i => simp at h1
    refine ⟨hl, O1, [.bor xs], L1.dom, .cons ⟨p, us, rfl, ho, hh, hd⟩ .nil, fun i j ys zs h1 h2 => ?_, ?_⟩
    · cases i with
      | zero => cases j with
        | zero => rfl
        | succ j => simp at h2
      | succ i => simp at h1
    have key : ∀ {H' : Hp} {O' : OS}, StpA [.ref p] [.bor xs] H1 H' O1 O' → Stp σ σ ρ ρ1 H H' O O' ∧ Rel K0 c O' σ H' ρ1 := fun {H' O'} sa => by
      have fr' : ∀ a o, H1 a = some o → a ≠ p → H' a = some o := fun a o e n => sa.fr a o e fun z => n (ow a z)
      have sm : Same (hid O1 H1) (hid O' H') := fun a o h => by
        obtain ⟨h1, h2⟩ := hid_le h
        have np : a ≠ p := fun e => by subst e; rw [ho] at h1; cases h1
        have z : O' a = false := by
          cases e : O' a with
          | false => rfl
          | true =>
            rcases sa.sub a e with q | q
            · rw [h1] at q; cases q
            · rw [h2] at q; cases q
        rw [hid_of z]; exact fr' a o h2 np
      refine ⟨⟨fun a h => sa.dom a (s.dom a h), fun a o h n => fr' a o (s.fr a o h n) fun z => (by subst z; rw [hp] at h; cases h), fun a h => ?_, s.own, fun a h => (s.keep a h).imp id (sa.up a), s.fix⟩, ⟨L1.len, fun a h => sa.up a (L1.low a h), fun a h => sa.dom a (L1.dom0 a h), L1.o0, sa.dm, fun i w t h1 h2 => ?_, L1.inj⟩⟩
      · rcases sa.sub a h with q | q
        · exact s.sub a q
        · exact .inr (none_back s.dom q)
      · refine slOk_mono sm (fun a e o => ?_) (L1.sl i w t h1 h2)
        have oa : Own σ ρ1 a := ⟨i, t, by rw [h1, e], h2, o⟩
        have np : a ≠ p := fun z => by subst z; exact no oa
        have d := own_dom L1 oa
        refine ⟨by rw [d.1, sa.up a d.1], ?_⟩
        cases eh : H1 a with
        | none => exact absurd eh d.2
        | some u => exact fr' a u eh np
    match e : xf [.bor xs] with
    | none => rw [e] at k0; exact k0.elim
    | some (.val r, bs) =>
      rw [e] at k0
      intro v H' O' sa A q
      obtain ⟨s1, L2⟩ := key sa
      refine k0 v H' O' s1 L2 ?_
      have nn : ∀ b : Addr, H1 b = none → ¬ Own σ ρ1 b := fun b h0 z => (own_dom L1 z).2 h0
      cases r with
      | dt d => exact q
      | new xs => obtain ⟨p, us, e1, h0, o, q⟩ := q; exact ⟨p, us, e1, none_back s.dom h0, o, nn p h0, q⟩
      | newd xs => obtain ⟨p, us, e1, h0, o, q⟩ := q; exact ⟨p, us, e1, none_back s.dom h0, o, nn p h0, q⟩
    | some (.ex m fs, bs) =>
      rw [e] at k0
      intro dd H' O' sa A h0 hO q
      obtain ⟨s1, L2⟩ := key sa
      exact k0 dd H' O' s1 L2 ⟨h0_of L1 h0, hO, q⟩
/-! ### a def as it is known to its callers -/
def Fk (P : Program) (w : World) (K : PySem.W.Frag) (mg : Str → Option Value) (base : Heap) (ce : Nat → Addr) (st : Stmt) (k : Nat) (x : Str) (ps : List Str) (xf : Fx) : Prop :=
  ∃ f fd, Fun K x x st f fd ∧ mg x = some (.ref f) ∧ Binds K fd ps [] ∧ FnOk P w K mg base (L2.CX P w) k f fd ps (spX ce ps.length xf) ∧ ∀ ds, xf ds = none ∨ ds.length = ps.length
variable {st : Stmt} {ys : Mo (List Vd)} {es : List Expr}
theorem de_cD (F : Fk X.prog X.w X.K X.mg X.base c.ce st k xn ps xf) (hr : Room k X.A) (tk : Takes X c.W) (ha : PA X (e :: es) (rdVs K0 c ys)) (hg : Gl X xn := by rfl) (hdb : (xn == ("__debug__" : Str)) = false := by decide) (he : starEach (e :: es) X.env = (false, eval e X.env) :: starEach es X.env := by rfl) (hpl : (backTo pos (starEach es X.env)).any (·.1) = false := by rfl) :
    PE X (.Call (.Name xn p) (e :: es) [] pos) (rd K0 c (xCallD xf ys)) := by
  obtain ⟨f, fd, F0, hm, hb, G, hn⟩ := F
  exact de_callD G hr hm F0.kp hb tk hn ha hg hdb he hpl
theorem de_cB (j : Nat) (F : Fk X.prog X.w X.K X.mg X.base c.ce st k xn ps xf) (hr : Room k X.A) (tk : Takes X c.W) (ha : PA X (e :: es) (rdVs K0 c ys)) (hg : Gl X xn := by rfl) (hdb : (xn == ("__debug__" : Str)) = false := by decide) (he : starEach (e :: es) X.env = (false, eval e X.env) :: starEach es X.env := by rfl) (hpl : (backTo pos (starEach es X.env)).any (·.1) = false := by rfl) :
    PE X (.Call (.Name xn p) (e :: es) [] pos) (rd K0 c (xCallB j xf ys)) := by
  obtain ⟨f, fd, F0, hm, hb, G, hn⟩ := F
  exact de_callB j G hr hm F0.kp hb tk hn ha hg hdb he hpl
theorem de_cN (F : Fk X.prog X.w X.K X.mg X.base c.ce st k xn ps xf) (hr : Room k X.A) (tk : Takes X c.W) (ha : PE X e (rd K0 c x)) (hg : Gl X xn := by rfl) (hdb : (xn == ("__debug__" : Str)) = false := by decide) (hst : starEach [e] X.env = [(false, eval e X.env)] := by rfl) (he : starEach (e :: []) X.env = (false, eval e X.env) :: starEach [] X.env := by rfl) (hpl : (backTo pos (starEach [] X.env)).any (·.1) = false := by rfl) :
    PE X (.Call (.Name xn p) [e] [] pos) (rd K0 c (xCallN xf x)) := by
  obtain ⟨f, fd, F0, hm, hb, G, hn⟩ := F
  exact pe_imp (pe_callS G hr hg hm F0.kp hb (fun σ => passAt tk σ) (pa_cons ha pa_nil hst) hdb he hpl) fun σ H Q ⟨O, ρ, L, q⟩ => ⟨O, ρ, L, post_callN hn L q⟩
theorem de_c0 (F : Fk X.prog X.w X.K X.mg X.base c.ce st k xn ps xf) (hr : Room k X.A) (tk : Takes X c.W) (hg : Gl X xn := by rfl) (hdb : (xn == ("__debug__" : Str)) = false := by decide) : PE X (.Call (.Name xn p) [] [] pos) (rd K0 c (xCallD xf vNil)) := by
  obtain ⟨f, fd, F0, hm, hb, G, hn⟩ := F
  exact de_call0 G hr hm F0.kp hb tk hn hg hdb
theorem de_cK {kws : List Keyword} {ks : List Str} (perm : List Nat) (F : Fk X.prog X.w X.K X.mg X.base c.ce st k xn ps xf) (hr : Room k X.A) (hkb : ∀ (kV doc pm : Value) (an : Option Addr) (cdv ct : Value), KwB (PySem.W.fnOf xn xn (defArgs st) (defBody st) (defScope st) .none kV doc pm an cdv ct) ps ks perm) (tk : Takes X c.W) (hkw : PK X kws (rdVs K0 c ys)) (hl : lenM ks.length ys)
    (hall : (backToKw pos (keywordEach kws X.env)).all (·.1.isSome) = true := by rfl) (hks : (backToKw pos (keywordEach kws X.env)).filterMap (·.1) = ks := by rfl) (hg : Gl X xn := by rfl) (hdb : (xn == ("__debug__" : Str)) = false := by decide)
    (hpl : ((backTo pos (starEach [] X.env)).any (·.1) || (backToKw pos (keywordEach kws X.env)).any (·.1.isNone)) = false := by rfl) : PE X (.Call (.Name xn p) [] kws pos) (rd K0 c (xCallK perm xf ys)) := by
  obtain ⟨f, fd, F0, hm, hb, G, hn⟩ := F
  have kb : KwB fd ps ks perm := by
    obtain ⟨oc, od, kV, doc, pm, an, cdv, ct, osl, rfl, _⟩ := F0.ex
    exact hkb kV doc pm an cdv ct
  exact de_callK G hr hm F0.kp kb tk hn hkw hl hall hks hg hdb hpl
end
section
variable {P : Program} {w : World} {K : PySem.W.Frag} {mg : Str → Option Value} {base : Heap} {ce : Nat → Addr}
theorem fk_of {x : Str} {st : Stmt} {N ps : List Str} {k : Nat} {y : Mo Fl} {f : Addr} {fd : FuncData} (F : Fun K x x st f fd) (hm : mg x = some (.ref f)) (hb : ∀ (kV doc pm : Value) (an : Option Addr) (cdv ct : Value) (us : List Value), us.length = ps.length → bindArgs (PySem.W.fnOf x x (defArgs st) (defBody st) (defScope st) .none kV doc pm an cdv ct) ⟨us, []⟩ = pure (ps.zip us)) (S : FnScope N ps (defScope st))
    (hbody : ∀ (cdv : Value) (A : Around) (outer : List Env) (s : Shared) (H : Hp) (E : XK) (O : OS), Room k (A.deeper (envOfC x (defScope st) s.heap.objs.size f cdv)) →
      PSs (cxOf (L2.CX P w) P w K mg base N x (defScope st) f cdv A outer s H E) (defBody st) (rdS ⟨H, O, ce, fun cls d _ H => E cls d H⟩ y)) : Fk P w K mg base ce st (k + 1) x ps (fnX ps.length N.length y) :=
  ⟨f, fd, F, hm, F.binds hb, fn_ok F S hbody, fnX_len⟩
end
end Dl
end

section
set_option Elab.async false
set_option linter.all false
set_option maxRecDepth 100000
namespace Dl
open PySem PySem.Spec PyProof.Rows L2

section
variable {X : Cx} {c : Ct} {e : Expr} {es : List Expr} {j : Nat} {pos : Pos}
theorem dt_isN (j : Nat) {p : Pos} {k : Nat} (he : PE X e (tVar j)) (hm : behindInMarks .Is (.Constant .none k p) = false := by first | exact nomark _ | rfl) : PT X (.Compare e [.Is] [.Constant .none k p] pos) (rdB c (xTst (xIsN j))) := pt_imp (pt_cmpR op_isN he pe_non hm) fun σ H Q ⟨O, ρ, L, q⟩ => by
  unfold xTst bnd xIsN at q
  split at q
  · exact q.elim
  · rename_i a ρ' e
    split at e
    · rename_i n fs h
      cases e
      obtain ⟨w, hw, a, rfl, ev⟩ := slot_of L h
      exact ⟨_, hw, rfl, false, rfl, q false H O .refl L rfl⟩
    · rename_i h
      cases e
      obtain ⟨w, hw, v, rfl, d⟩ := slot_of L h
      cases d
      exact ⟨_, hw, rfl, true, rfl, q true H O .refl L rfl⟩
    · rename_i d nd h
      cases e
      obtain ⟨w, hw, v, rfl, d⟩ := slot_of L h
      have nn : v ≠ .non := fun z => by subst z; cases d; exact nd rfl
      exact ⟨_, hw, rfl, false, by rw [decide_eq_false nn], q false H O .refl L rfl⟩
    · cases e
  · rename_i e
    split at e <;> cases e
/-- a class of errors, as a raise wants it -/
def Rz (P : Program) (w : World) (K : PySem.W.Frag) (mg : Str → Option Value) (base : Heap) (C : Addr) (x f : Str) : Prop :=
  OexC K C ∧ mg x = some (.ref C) ∧ ∃ fI fd, PySem.W.findIn K (.ref C) "__init__" = some (some (.ref fI)) ∧ PySem.W.typeIn K (.ref fI) = some (.type "function") ∧ FnOk P w K mg base (L2.CX P w) 1 fI fd ["self", f] (spI C f) ∧ Binds K fd ["self", f] []
def Rz2 (P : Program) (w : World) (K : PySem.W.Frag) (mg : Str → Option Value) (base : Heap) (C : Addr) (x f g : Str) : Prop :=
  OexC K C ∧ mg x = some (.ref C) ∧ ∃ fI fd, PySem.W.findIn K (.ref C) "__init__" = some (some (.ref fI)) ∧ PySem.W.typeIn K (.ref fI) = some (.type "function") ∧ FnOk P w K mg base (L2.CX P w) 1 fI fd ["self", f, g] (spI2 C f g) ∧ Binds K fd ["self", f, g] []
theorem ds_rz {n : Nat} {x f : Str} {ys : Mo (List Vd)} {p p1 : Pos} (Z : Rz X.prog X.w X.K X.mg X.base (c.ce n) x f) (hr : Room 2 X.A) (hc : X.calm = true) (tk : Takes X c.W) (ha : PA X (e :: es) (rdVs K0 c ys)) (hg : Gl X x := by rfl)
    (hdb : (x == ("__debug__" : Str)) = false := by decide) (he : starEach (e :: es) X.env = (false, eval e X.env) :: starEach es X.env := by rfl) (hpl : (backTo p1 (starEach es X.env)).any (·.1) = false := by rfl) :
    PS X (.Raise (some (.Call (.Name x p) (e :: es) [] p1)) none pos) (rdS c (yRaise n f ys)) := by
  obtain ⟨T, hm, fI, fd, h1, h2, F, b⟩ := Z
  exact ds_raise hc T h1 h2 F hr b hm tk ha hg hdb he hpl
theorem ds_rz2 {n : Nat} {x f g : Str} {ys : Mo (List Vd)} {p p1 : Pos} (Z : Rz2 X.prog X.w X.K X.mg X.base (c.ce n) x f g) (hr : Room 2 X.A) (hc : X.calm = true) (tk : Takes X c.W) (ha : PA X (e :: es) (rdVs K0 c ys)) (hg : Gl X x := by rfl)
    (hdb : (x == ("__debug__" : Str)) = false := by decide) (he : starEach (e :: es) X.env = (false, eval e X.env) :: starEach es X.env := by rfl) (hpl : (backTo p1 (starEach es X.env)).any (·.1) = false := by rfl) :
    PS X (.Raise (some (.Call (.Name x p) (e :: es) [] p1)) none pos) (rdS c (yRaise2 n f g ys)) := by
  obtain ⟨T, hm, fI, fd, h1, h2, F, b⟩ := Z
  exact ds_raise2 hc T h1 h2 F hr b hm tk ha hg hdb he hpl
end
section
variable {P : Program} {w : World} {K : PySem.W.Frag} {mg : Str → Option Value} {base : Heap} {ce : Nat → Addr}
theorem fk_zero {x : Str} {st : Stmt} {ps : List Str} {k : Nat} {f : Addr} {fd : FuncData} (F : Fun K x x st f fd) (hm : mg x = some (.ref f)) (hb : ∀ (kV doc pm : Value) (an : Option Addr) (cdv ct : Value) (us : List Value), us.length = ps.length → bindArgs (PySem.W.fnOf x x (defArgs st) (defBody st) (defScope st) .none kV doc pm an cdv ct) ⟨us, []⟩ = pure (ps.zip us)) : Fk P w K mg base ce st k x ps (fun _ => none) :=
  ⟨f, fd, F, hm, F.binds hb, ⟨fun _ _ _ _ h => h.1, fun _ _ _ _ _ _ _ _ _ _ _ _ _ ⟨_, _, _, _, _, _, z⟩ => z.elim⟩, fun _ => .inl rfl⟩
end

/-! ### what is read off the heap behind the top -/
/-- no list stands in it -/
def noLst (K : PySem.W.Frag) : Bool := K.all fun p => !(p.2.cls == .type "list")
theorem noLst_lookup {K : PySem.W.Frag} (h : noLst K = true) {a : Addr} {o : Obj} (e : K.lookup a = some o) : o.cls ≠ .type "list" := by
  induction K with
  | nil => cases e
  | cons p r ih =>
    obtain ⟨b, ob⟩ := p
    unfold noLst at h
    rw [List.all_cons, Bool.and_eq_true] at h
    simp only [List.lookup] at e
    split at e
    · cases e
      intro z
      rw [z] at h
      simp at h
    · exact ih h.2 e
theorem sqL_none {K : PySem.W.Frag} (h : noLst K = true) {H : Hp} {a : Addr} {xs : List V} (q : SqL K H a xs) : SqL K0 H a xs := by
  rcases q with q | ⟨o, its, n, e, hc, _⟩
  · exact .inl q
  · exact absurd hc (noLst_lookup h e)
/-- a class of errors over ValueError -/
def oexB (K : PySem.W.Frag) (C : Addr) : Bool := (match K.lookup C with
  | some ⟨.type t, _, .cls cd, sl⟩ => t == "type" && (match cd.mro, sl.toList with
    | .ref C' :: bm, [_, _, _, _, some (.builtin n), _] => C' == C && n == "ValueError.__new__" && !cd.hasDel && cd.hasDict && HandSPX.refsVE bm
    | _, _ => false)
  | _ => false) && (decide (PySem.W.findIn K (.ref C) "__setattr__" = some (some (.builtin "object.__setattr__"))) && (decide (PySem.W.subIn K (.ref C) (.type "BaseException") = some true) && (decide (PySem.W.typeIn K (.ref C) = some (.type "type")) && PySem.W.keepIn K (.ref C))))
theorem oexB_ok {K : PySem.W.Frag} {C : Addr} (h : oexB K C = true) : OexC K C := by
  obtain ⟨h0, h⟩ := Bool.and_eq_true_iff.mp h
  obtain ⟨h2, h⟩ := Bool.and_eq_true_iff.mp h
  obtain ⟨h3, h⟩ := Bool.and_eq_true_iff.mp h
  obtain ⟨h4, h5⟩ := Bool.and_eq_true_iff.mp h
  refine ⟨?_, of_decide_eq_true h2, of_decide_eq_true h3, of_decide_eq_true h4, h5⟩
  split at h0
  · rename_i t dd cd sl hl
    obtain ⟨ht, h0⟩ := Bool.and_eq_true_iff.mp h0
    have ht := eq_of_beq ht
    split at h0
    · rename_i C' bm k0 k1 k2 k3 n k5 hm hs
      simp only [Bool.and_eq_true, Bool.not_eq_true'] at h0
      obtain ⟨⟨⟨⟨g1, g2⟩, g3⟩, g4⟩, g5⟩ := h0
      have g1 := eq_of_beq g1
      have g2 := eq_of_beq g2
      subst ht g1 g2
      obtain ⟨nm, bs, mro, ns, qn, hd, sn, sb, ab, col, del⟩ := cd
      dsimp only at hm g3 g4
      subst hm g3 g4
      have hs' : sl = #[k0, k1, k2, k3, some (.builtin "ValueError.__new__"), k5] := by
        apply Array.ext'
        rw [hs]
      subst hs'
      exact ⟨_, _, _, _, _, _, _, _, _, _, _, _, _, _, _, hl, g5⟩
    · cases h0
  · cases h0
def excB (K : PySem.W.Frag) (D : Addr) : Bool := decide (PySem.W.findIn K (.ref D) "__getattribute__" = some (some (.builtin "BaseException.__getattribute__"))) && (decide (PySem.W.findIn K (.ref D) "__getattr__" = some none) && (decide (PySem.W.subIn K (.ref D) (.type "BaseException") = some true) && (PySem.W.hasDictIn K D && (decide (PySem.W.findIn K (.ref D) "__class__" = some (some (.builtin "object.__class__"))) &&
  (decide (PySem.W.specialIn K (.builtin "object.__class__") "__get__" = some (some (.builtin "getset_descriptor.__get__"))) && (decide (PySem.W.takesIn K (.builtin "object.__class__") = some true) && decide (PySem.W.mroIn K D (.type "object") = some true)))))))
theorem excB_ok {K : PySem.W.Frag} {D : Addr} (h : excB K D = true) : ExcC K D ∧ XfC K D := by
  obtain ⟨h1, h⟩ := Bool.and_eq_true_iff.mp h
  obtain ⟨h2, h⟩ := Bool.and_eq_true_iff.mp h
  obtain ⟨h3, h⟩ := Bool.and_eq_true_iff.mp h
  obtain ⟨h4, h⟩ := Bool.and_eq_true_iff.mp h
  obtain ⟨h5, h⟩ := Bool.and_eq_true_iff.mp h
  obtain ⟨h6, h⟩ := Bool.and_eq_true_iff.mp h
  obtain ⟨h7, h8⟩ := Bool.and_eq_true_iff.mp h
  exact ⟨⟨of_decide_eq_true h1, of_decide_eq_true h2, of_decide_eq_true h3, h4, of_decide_eq_true h5, of_decide_eq_true h6, of_decide_eq_true h7, of_decide_eq_true h8⟩, ⟨of_decide_eq_true h1, of_decide_eq_true h2, of_decide_eq_true h3, h4⟩⟩
/-- the Hook: facts by names, defs, and a look of one's own -/
def obsE (fa : List He.Fa) (fn : List He.DefD) (ck : PySem.W.Frag → Bool) (K : PySem.W.Frag) : He.AlD × Bool := (He.obsD fa fn K, ck K)
def hookE (n : Nat) (fa : List He.Fa) (fn : List He.DefD) (ck : PySem.W.Frag → Bool) : PySem.W.Hook where
  α := He.AlD × Bool
  obs := fun s => obsE fa fn ck (He.frG s.heap.get? (He.asD s.heap.get? n))
  val := fun _ => (He.valD fn, true)
  says := fun _ h => ∃ K : PySem.W.Frag, K.In h ∧ He.SaysD fa fn K ∧ ck K = true
  of := fun _ _ e => ⟨_, He.frG_in, congrArg (fun z : He.AlD × Bool => z.1) e, congrArg (fun z : He.AlD × Bool => z.2) e⟩
  keeps := fun _ _ _ ⟨K, hK, c⟩ k => ⟨K, PySem.W.Frag.In.keeps hK k, c⟩
def obsEG (n : Nat) (fa : List He.Fa) (fn : List He.DefD) (ck : PySem.W.Frag → Bool) (g : Addr → Option Obj) : He.AlD × Bool := obsE fa fn ck (He.frG g (He.asD g n))
theorem obsEG_eq {n : Nat} {fa : List He.Fa} {fn : List He.DefD} {ck : PySem.W.Frag → Bool} {g : Addr → Option Obj} {s : Shared} (h : ∀ a, g a = s.heap.get? a) : obsEG n fa fn ck g = (hookE n fa fn ck).obs s := by
  have e : g = s.heap.get? := funext h
  rw [e] <;> rfl
/-- a def without defaults -/
theorem funD_fun {K : PySem.W.Frag} {x qual : Str} {st : Stmt} {f : Addr} {fd : FuncData} (F : FunD K x qual (defArgs st) (defBody st) (defScope st) [] [] f fd) : Fun K x qual st f fd := by
  obtain ⟨oc, od, dV, kV, doc, pm, an, cdv, ct, osl, e, lk, hc, hd, _⟩ := F.ex
  rcases hd with ⟨_, hd⟩ | ⟨hn, _⟩
  · subst hd
    exact ⟨⟨oc, od, kV, doc, pm, an, cdv, ct, osl, e, lk, hc⟩, F.kp⟩
  · exact absurd rfl hn
/-- a comprehension's names, looked at by the kernel -/
def blkB (N : List Str) (sc scope : Scope) (own : List (Str × Nat)) : Bool := decide (scope.kind = .function) && (scope.names.all (fun y => decide (scope.names.lookup y.1 = some y.2)) && (own.all (fun p => decide (N[p.2]? = some p.1)) &&
  (scope.names.all (fun y => !decide (y.2 = .free) || (decide (sc.names.lookup y.1 = some .cell) || decide (sc.names.lookup y.1 = some .free))) && scope.names.all (fun y => !(decide (y.2 = .local) || decide (y.2 = .cell)) || ((own.map (·.1)).contains y.1 || !(N.contains y.1))))))
theorem blk_of {N : List Str} {sc scope : Scope} {own : List (Str × Nat)} (h : blkB N sc scope own = true) : BlkOk N sc scope own := by
  obtain ⟨h1, h⟩ := Bool.and_eq_true_iff.mp h
  obtain ⟨h2, h⟩ := Bool.and_eq_true_iff.mp h
  obtain ⟨h3, h⟩ := Bool.and_eq_true_iff.mp h
  obtain ⟨h4, h5⟩ := Bool.and_eq_true_iff.mp h
  rw [List.all_eq_true] at h2 h3 h4 h5
  refine ⟨of_decide_eq_true h1, fun y hy => of_decide_eq_true (h2 y hy), fun p hp => of_decide_eq_true (h3 p hp), fun y hy e => ?_, fun y hy e => ?_⟩
  · have z := h4 y hy
    rw [decide_eq_true e, Bool.not_true, Bool.false_or, Bool.or_eq_true] at z
    exact z.imp of_decide_eq_true of_decide_eq_true
  · have z := h5 y hy
    have z1 : (decide (y.2 = .local) || decide (y.2 = .cell)) = true := by
      rw [Bool.or_eq_true]
      exact e.imp decide_eq_true decide_eq_true
    rw [z1, Bool.not_true, Bool.false_or, Bool.or_eq_true] at z
    rcases z with z | z
    · exact .inl (List.contains_iff_mem.mp z)
    · refine .inr fun m => ?_
      rw [List.contains_iff_mem.mpr m] at z
      cases z
/-! ### the end -/
theorem dp_intsL {H : Hp} : ∀ ns : List Int, DpAll K0 H (ns.map V.int) (ns.map PyData.int)
  | [] => .nil
  | n :: r => .cons (.int n) (dp_intsL r)
def isTr : Option (Out Rs × List Sl) → Bool
  | some (.val (.dt (.bool true)), _) => true
  | _ => false
theorem law_sp {K : PySem.W.Frag} {H : Hp} {a : Addr} {ns : List Int} {ce : Nat → Addr} {xf : Fx} (hK : noLst K = true) (hS : SqL K H a (ns.map V.int)) (h : isTr (xf [.dat (.list (ns.map .int))]) = true) : spX ce 1 xf [.ref a] H (fun v _ => v = .bl true) (fun _ _ _ => False) := by
  refine ⟨rfl, fun _ => false, [.dat (.list (ns.map .int))], fun _ z => (by cases z), .cons (.lst ?_ (dp_intsL ns)) .nil, fun i j xs ys h1 => ?_, ?_⟩
  · refine sqL_mono (fun b o e => ?_) (sqL_none hK hS)
    rw [hid_of rfl]; exact e
  · cases i <;> simp at h1
  · unfold isTr at h
    split at h
    · rename_i e
      rw [e]
      exact fun v H' O' _ _ q => dp_bool q
    · cases h
theorem cx_no {P : Program} {w : World} {H : Hp} {s : Shared} {e : Value} {s' : Shared} (z : L2.CX P w [] H s (fun _ _ _ => False) e s') : False := by
  obtain ⟨_, _, _, _, _, _, _, _, _, _, _, _, q⟩ := z
  exact q
def CXe (P : Program) : CXT := fun o H s E u s' => ∃ w : World, L2.CX P w o H s E u s'
theorem fn_cx {P : Program} {w : World} {K : PySem.W.Frag} {mg : Str → Option Value} {base : Heap} {k : Nat} {f : Addr} {fd : FuncData} {ps : List Str} {sp : Sp} (F : FnOk P w K mg base (L2.CX P w) k f fd ps sp) : FnOk P w K mg base (CXe P) k f fd ps sp :=
  ⟨F.len, fun A outer s H args us vs Q E hr he hb hv hs => codeAny_mono (F.run A outer s H args us vs Q E hr he hb hv hs) fun r s' h => by
    cases r with
    | error e => exact ⟨w, h⟩
    | ok fl => cases fl <;> exact h⟩
theorem fk_mk {P : Program} {w : World} {K : PySem.W.Frag} {mg : Str → Option Value} {base : Heap} {ce : Nat → Addr} {x : Str} {st : Stmt} {ps : List Str} {k N : Nat} {y : Mo Fl} {f : Addr} {fd : FuncData} (F : Fun K x x st f fd) (hm : mg x = some (.ref f)) (hb : ∀ (kV doc pm : Value) (an : Option Addr) (cdv ct : Value) (us : List Value), us.length = ps.length → bindArgs (PySem.W.fnOf x x (defArgs st) (defBody st) (defScope st) .none kV doc pm an cdv ct) ⟨us, []⟩ = pure (ps.zip us))
    (G : FnOk P w K mg base (L2.CX P w) k f fd ps (spX ce ps.length (fnX ps.length N y))) : Fk P w K mg base ce st k x ps (fnX ps.length N y) := ⟨f, fd, F, hm, F.binds hb, G, fnX_len⟩
/-- the statements of a class -/
def clsBody : Stmt → List Stmt
  | .ClassDef _ _ _ b _ _ _ _ _ _ _ => b
  | _ => []
theorem getD_all {α : Type} {p : α → Prop} {d : α} : ∀ {l : List α}, (∀ x ∈ l, p x) → p d → ∀ n, p (l.getD n d)
  | [], _, h, n => by simpa using h
  | x :: r, h, hd, 0 => h x (by simp)
  | x :: r, h, hd, n + 1 => by
    have := getD_all (l := r) (fun y hy => h y (by simp [hy])) hd n
    simpa using this
theorem bb_len : bootBuiltins "len" = some (.builtin "len") := by decide +kernel
theorem bb_abs : bootBuiltins "abs" = some (.builtin "abs") := by decide +kernel
theorem bb_max : bootBuiltins "max" = some (.builtin "max") := by decide +kernel
theorem bb_min : bootBuiltins "min" = some (.builtin "min") := by decide +kernel
theorem bb_sum : bootBuiltins "sum" = some (.builtin "sum") := by decide +kernel
theorem bb_all : bootBuiltins "all" = some (.builtin "all") := by decide +kernel
theorem bb_any : bootBuiltins "any" = some (.builtin "any") := by decide +kernel
theorem bb_sorted : bootBuiltins "sorted" = some (.builtin "sorted") := by decide +kernel
theorem bb_int : bootBuiltins "int" = some (.type "int") := by decide +kernel
theorem bb_list : bootBuiltins "list" = some (.type "list") := by decide +kernel
theorem bb_tuple : bootBuiltins "tuple" = some (.type "tuple") := by decide +kernel
theorem bb_str : bootBuiltins "str" = some (.type "str") := by decide +kernel
theorem bb_bool : bootBuiltins "bool" = some (.type "bool") := by decide +kernel
theorem bb_ValueError : bootBuiltins "ValueError" = some (.type "ValueError") := by decide +kernel
end Dl
end

section
set_option Elab.async false
set_option linter.all false
set_option maxRecDepth 100000
namespace Dl
open PySem PySem.Spec PyProof.Rows L2
/-! ### constants of the top, two comparisons, a list turned, tuple(range(..)) -/
section
variable {X : Cx} {c : Ct} {a b d e : Expr} {pos : Pos}
theorem de_gI {x : Str} {i : Int} (hm : ∃ t, X.mg x = some (.int i t)) (hg : Gl X x := by rfl) (hd : (x == ("__debug__" : Str)) = false := by decide) : PE X (.Name x pos) (rd K0 c (xC (.int i))) := by
  obtain ⟨t, hm⟩ := hm
  exact de_c (K := K0) (pe_glob (v := .int i) hg hm ⟨t, rfl⟩ hd) fun _ => .int i
theorem de_gS {x z : Str} (hm : ∃ t, X.mg x = some (.str z t)) (hg : Gl X x := by rfl) (hd : (x == ("__debug__" : Str)) = false := by decide) : PE X (.Name x pos) (rd K0 c (xC (.str z))) := by
  obtain ⟨t, hm⟩ := hm
  exact de_c (K := K0) (pe_glob (v := .str z) hg hm ⟨t, rfl⟩ hd) fun _ => .str z
def xChI (p p' : Int → Int → Bool) (xa xb xc : Mo Rs) : Mo Rs := bnd (oI xa) fun i => bnd (oI xb) fun j => if p i j = true then bnd (oI xc) fun k => ret (.dt (.bool (p' j k))) else ret (.dt (.bool false))
theorem chI {p p' : Int → Int → Bool} {xa xb xc : Mo Rs} {σ : L2.St} {H : Hp} {Q : VK} (h : rd K0 c (xChI p p' xa xb xc) σ H Q) : tChain (rI0 fun i j => .bl (p i j)) (rI0 fun i j => .bl (p' i j)) (rdG K0 c RI (oI xa)) (rdG K0 c RI (oI xb)) (rdG K0 c RI (oI xc)) σ H Q := by
  obtain ⟨O, ρ, L, q⟩ := h
  refine ⟨O, ρ, L, ?_⟩
  refine PostG.bind mn_R L q fun i ρ1 v H1 O1 _ s L1 q1 k _ => ⟨O1, ρ1, L1, ?_⟩
  refine PostG.bind mn_R L1 k fun j ρ2 w H2 O2 _ s2 L2 q2 k2 _ => ?_
  refine ⟨i, j, q1, q2, p i j, rfl, ?_⟩
  by_cases e : p i j = true
  · rw [if_pos e] at k2 ⊢
    refine ⟨O2, ρ2, L2, ?_⟩
    refine PostG.bind mn_R L2 k2 fun l ρ3 u H3 O3 _ s3 L3 q3 k3 _ => ?_
    exact ⟨j, l, q2, q3, k3.at L3 (.bl _)⟩
  · rw [if_neg e] at k2 ⊢
    exact k2.at L2 (.bl _)
theorem de_chI {op op' : CmpOp} {p p' : Int → Int → Bool} {xa xb xc : Mo Rs} (ho : OpR X (compareOp op) (rI0 fun i j => .bl (p i j))) (ho' : OpR X (compareOp op') (rI0 fun i j => .bl (p' i j))) (ha : PE X a (rd K0 c xa)) (hb : PE X b (rd K0 c xb)) (hd : PE X d (rd K0 c xc))
    (hm : lastMarks [op, op'] [b, d] = false := by with_unfolding_all rfl) : PE X (.Compare a [op, op'] [b, d] pos) (rd K0 c (xChI p p' xa xb xc)) := pe_imp (pe_chain ho ho' (pe_oI ha) (pe_oI hb) (pe_oI hd) hm) fun σ H Q h => chI h
theorem dt_chI {op op' : CmpOp} {p p' : Int → Int → Bool} {xa xb xc : Mo Rs} (ho : OpR X (compareOp op) (rI0 fun i j => .bl (p i j))) (ho' : OpR X (compareOp op') (rI0 fun i j => .bl (p' i j))) (ha : PE X a (rd K0 c xa)) (hb : PE X b (rd K0 c xb)) (hd : PE X d (rd K0 c xc))
    (hm : lastMarks [op, op'] [b, d] = false := by with_unfolding_all rfl) : PT X (.Compare a [op, op'] [b, d] pos) (rdB c (xTst (xChI p p' xa xb xc))) := pt_imp (pt_chain ho ho' (pe_oI ha) (pe_oI hb) (pe_oI hd) hm) fun σ H Q ⟨O, ρ, L, q⟩ => chI ⟨O, ρ, L, by
    refine PostG.bind mn_B L q fun r ρ1 v H1 O1 _ s L1 q1 _ k => ?_
    match r, q1, k with
    | .dt (.bool bb), q1, k => exact ⟨bb, dp_bool q1, k bb H1 O1 s L1 rfl⟩
    | .dt .none, _, k => exact k.elim
    | .dt (.int _), _, k => exact k.elim
    | .dt (.str _), _, k => exact k.elim
    | .dt (.list _), _, k => exact k.elim
    | .dt (.tuple _), _, k => exact k.elim
    | .dt (.dict _), _, k => exact k.elim
    | .new _, _, k => exact k.elim
    | .newd _, _, k => exact k.elim⟩
/-- xs[::-1] -/
def gRev : List PyData → Option Rs
  | [.list xs] => some (.new xs.reverse)
  | _ => none
theorem bok_rev {K : PySem.W.Frag} : BOk K0 (l1 fun x H Q => ∃ a xs, x = .ref a ∧ SqL K H a xs ∧ ∀ p, H p = none → Q (.ref p) (upd H p (.lst xs.reverse))) gRev := fun O H vs ds rs Q hO hv hg k => by
  unfold gRev at hg
  split at hg
  · cases hg
    obtain ⟨v, rfl, h1⟩ := vws_one hv
    obtain ⟨a, xs, rfl, s, d⟩ := vw_list h1
    exact ⟨_, rfl, a, xs, rfl, sqL1 s, fun p hp => k _ _ _ (Alc.new hp) (lst_new hp (dpAll_rev d))⟩
  · cases hg
theorem de_rev {ya : Mo Vd} {k : Nat} {p1 p2 p3 : Pos} (ha : PE X a (rdV K0 c ya)) : PE X (.Subscript a (.Slice none none (some (.UnaryOp .USub (.Constant (.int 1) k p1) p2)) p3) pos) (rd K0 c (xB gRev (vCons ya vNil))) :=
  pe_imp (pe_revL ha) fun σ H Q h => one (bok_rev (K := X.K)) h
/-- tuple(range(..)) -/
theorem dp_rg {H : Hp} : ∀ (n : Nat) (a : Int), DpAll K0 H ((List.range n).map fun i => V.int (a + (i : Nat))) (rangeD a n)
  | 0, a => .nil
  | n + 1, a => by
    rw [List.range_succ_eq_map, List.map_cons, List.map_map, rangeD]
    have e : ((fun i : Nat => V.int (a + (i : Nat))) ∘ Nat.succ) = fun i : Nat => V.int (a + 1 + (i : Nat)) := by
      funext i; simp only [Function.comp]; congr 1; omega
    rw [e, show a + ((0 : Nat) : Int) = a by omega]
    exact .cons (.int a) (dp_rg n (a + 1))
def xTR1 (x : Mo Rs) : Mo Rs := bnd (oI x) fun n => if 0 ≤ n ∧ n ≤ 16777216 then ret (.dt (.tuple (rangeD 0 n.toNat))) else lft none
def xTR2 (x y : Mo Rs) : Mo Rs := bnd (oI x) fun a => bnd (oI y) fun n => if (0 ≤ a ∧ a ≤ 16777216) ∧ 0 ≤ n ∧ n ≤ 16777216 then ret (.dt (.tuple (rangeD a (n - a).toNat))) else lft none
theorem de_tR1 {xa : Mo Rs} {p p2 pos2 : Pos} (hc : X.calm = true) (hm : X.mg "tuple" = none) (hm2 : X.mg "range" = none) (ha : PE X a (rd K0 c xa)) (hg : Gl X "tuple" := by rfl) (hg2 : Gl X "range" := by rfl)
    (na : starEach [.Call (.Name "range" p2) [a] [] pos2] X.env = (false, eval (.Call (.Name "range" p2) [a] [] pos2) X.env) :: starEach [] X.env := by rfl) (na2 : starEach [a] X.env = (false, eval a X.env) :: starEach [] X.env := by rfl) :
    PE X (.Call (.Name "tuple" p) [.Call (.Name "range" p2) [a] [] pos2] [] pos) (rd K0 c (xTR1 xa)) := pe_imp (pe_tupRg hc hg hm (prg_1 hg2 hm2 (pe_oI ha) na2) na) fun σ H Q ⟨O, ρ, L, q⟩ => by
  refine ⟨O, ρ, L, PostG.bind mn_R L q fun i ρ1 v H1 O1 _ s L1 q1 k _ => ?_⟩
  refine ⟨i, q1, ?_⟩
  by_cases e : 0 ≤ i ∧ i ≤ 16777216
  · rw [if_pos e] at k
    refine ⟨RgOk.of_le (Int.le_refl _) e.2 (by omega) e.1, fun r hr => ?_⟩
    have d : DpAll K0 (hid O1 H1) (rgV 0 i) (rangeD 0 i.toNat) := by
      unfold rgV; rw [Int.sub_zero]; exact dp_rg _ _
    exact k _ _ _ (Alc.data hr).stp ((Alc.data hr).rel L1) ((tup_new L1.dom hr d).ok L1)
  · rw [if_neg e] at k; exact k.elim
theorem de_tR2 {xa xb : Mo Rs} {p p2 pos2 : Pos} (hc : X.calm = true) (hm : X.mg "tuple" = none) (hm2 : X.mg "range" = none) (ha : PE X a (rd K0 c xa)) (hb : PE X b (rd K0 c xb)) (hg : Gl X "tuple" := by rfl) (hg2 : Gl X "range" := by rfl)
    (na : starEach [.Call (.Name "range" p2) [a, b] [] pos2] X.env = (false, eval (.Call (.Name "range" p2) [a, b] [] pos2) X.env) :: starEach [] X.env := by rfl) (na2 : starEach [a, b] X.env = (false, eval a X.env) :: starEach [b] X.env := by rfl) (nb : starEach [b] X.env = (false, eval b X.env) :: starEach [] X.env := by rfl) (hp : (backTo pos2 (starEach [b] X.env)).any (·.1) = false := by rfl) :
    PE X (.Call (.Name "tuple" p) [.Call (.Name "range" p2) [a, b] [] pos2] [] pos) (rd K0 c (xTR2 xa xb)) := pe_imp (pe_tupRg hc hg hm (prg_2 hg2 hm2 (pe_oI ha) (pe_oI hb) na2 nb hp) na) fun σ H Q ⟨O, ρ, L, q⟩ => by
  refine ⟨O, ρ, L, PostG.bind mn_R L q fun i ρ1 v H1 O1 _ s L1 q1 k _ => ⟨O1, ρ1, L1, PostG.bind mn_R L1 k fun j ρ2 w H2 O2 _ s2 L2 q2 k2 _ => ?_⟩⟩
  refine ⟨i, j, q1, q2, ?_⟩
  by_cases e : (0 ≤ i ∧ i ≤ 16777216) ∧ 0 ≤ j ∧ j ≤ 16777216
  · rw [if_pos e] at k2
    refine ⟨RgOk.of_le e.1.1 e.2.2 e.1.2 e.2.1, fun r hr => ?_⟩
    have d : DpAll K0 (hid O2 H2) (rgV i j) (rangeD i (j - i).toNat) := by
      unfold rgV; exact dp_rg _ _
    exact k2 _ _ _ (Alc.data hr).stp ((Alc.data hr).rel L2) ((tup_new L2.dom hr d).ok L2)
  · rw [if_neg e] at k2; exact k2.elim
/-! ### dicts -/
def keyOf : PyData → Option Key
  | .int i => some (.inl i)
  | .str x => some (.inr x)
  | _ => none
theorem keyOf_ok {H : Hp} {v : V} {d : PyData} {k : Key} (h : Dp K0 H v d) (e : keyOf d = some k) : v = kV k := by
  cases d with
  | int i => cases e; exact dp_int h
  | str i => cases e; exact dp_str h
  | _ => cases e
def valD (kvs : List (Key × PyData)) (k : Key) : Option PyData := (kvs.find? fun kv => decide (kv.1 = k)).map (·.2)
def putD (kvs : List (Key × PyData)) (k : Key) (d : PyData) : List (Key × PyData) := if (kvs.any fun kv => decide (kv.1 = k)) = true then kvs.map (fun kv => if kv.1 = k then (kv.1, d) else kv) else kvs ++ [(k, d)]
end
end Dl
end

section
set_option Elab.async false
set_option linter.all false
set_option maxRecDepth 100000
namespace Dl
open PySem PySem.Spec PyProof.Rows L2
/-! ### dicts held by a name, or new -/
inductive DK (H : Hp) : List (Key × V) → List (Key × PyData) → Prop where
  | nil : DK H [] []
  | cons {k : Key} {v : V} {d : PyData} {ws kvs} : Dp K0 H v d → DK H ws kvs → DK H ((k, v) :: ws) ((k, d) :: kvs)
theorem dk_of {H : Hp} : ∀ {ws : List (Key × V)} {kvs : List (Key × PyData)}, DKs K0 H ws kvs → DK H ws kvs
  | [], [], _ => .nil
  | [], _ :: _, h => by have := h.1; simp at this
  | _ :: _, [], h => by have := h.1; simp at this
  | (k, v) :: ws, (k2, d) :: kvs, h => by
    obtain ⟨h1, h2⟩ := h
    simp only [List.map_cons, List.cons.injEq] at h1
    rw [List.map_cons, List.map_cons] at h2
    cases h2 with
    | cons a b =>
      obtain ⟨e, h1⟩ := h1
      cases e
      exact .cons a (dk_of ⟨h1, b⟩)
theorem dk_to {H : Hp} : ∀ {ws : List (Key × V)} {kvs : List (Key × PyData)}, DK H ws kvs → DKs K0 H ws kvs
  | _, _, .nil => ⟨rfl, .nil⟩
  | _, _, .cons a b => by
    obtain ⟨h1, h2⟩ := dk_to b
    exact ⟨by simp [h1], .cons a h2⟩
theorem dk_val {H : Hp} {k : Key} {ws : List (Key × V)} {kvs : List (Key × PyData)} (h : DK H ws kvs) : (valV ws k = none ∧ valD kvs k = none) ∨ ∃ v d, valV ws k = some v ∧ valD kvs k = some d ∧ Dp K0 H v d := by
  induction h with
  | nil => exact .inl ⟨rfl, rfl⟩
  | @cons k2 v d ws kvs a b ih =>
    by_cases e : k2 = k
    · exact .inr ⟨v, d, valV_pos e, by simp [valD, List.find?_cons, e], a⟩
    · have e1 : valV ((k2, v) :: ws) k = valV ws k := valV_neg e
      have e2 : valD ((k2, d) :: kvs) k = valD kvs k := by simp [valD, List.find?_cons, e]
      rw [e1, e2]; exact ih
theorem dk_any {H : Hp} {k : Key} {ws : List (Key × V)} {kvs : List (Key × PyData)} (h : DK H ws kvs) : (ws.any fun kv => decide (kv.1 = k)) = (kvs.any fun kv => decide (kv.1 = k)) := by
  induction h with
  | nil => rfl
  | cons a b ih => rw [List.any_cons, List.any_cons, ih]
theorem dk_app {H : Hp} {ws us : List (Key × V)} {kvs ls : List (Key × PyData)} (h : DK H ws kvs) (g : DK H us ls) : DK H (ws ++ us) (kvs ++ ls) := by
  induction h with
  | nil => exact g
  | cons a b ih => exact .cons a ih
theorem dk_put {H : Hp} {k : Key} {v : V} {d : PyData} {ws : List (Key × V)} {kvs : List (Key × PyData)} (h : DK H ws kvs) (hd : Dp K0 H v d) : DK H (putK ws k v) (putD kvs k d) := by
  unfold putK putD
  rw [dk_any h]
  split
  · rename_i he
    clear he
    induction h with
    | nil => exact .nil
    | @cons k2 v2 d2 ws kvs a b ih =>
      rw [List.map_cons, List.map_cons]
      by_cases e : k2 = k
      · simp only [e, if_true]; exact .cons hd ih
      · simp only [e, if_false]; exact .cons a ih
  · exact dk_app h (.cons hd .nil)
theorem dk_len {H : Hp} {ws : List (Key × V)} {kvs : List (Key × PyData)} (h : DK H ws kvs) : ws.length = kvs.length := by
  induction h with
  | nil => rfl
  | cons a b ih => simp [ih]
theorem dk_mono {H H' : Hp} (m : Same H H') {ws : List (Key × V)} {kvs : List (Key × PyData)} (h : DK H ws kvs) : DK H' ws kvs := by
  induction h with
  | nil => exact .nil
  | cons a b ih => exact .cons (dp_mono m a) ih
section
variable {X : Cx} {c : Ct} {a b d e i o : Expr} {pos : Pos}
/-- {k: v} -/
def xDsp1 (xk xv : Mo Rs) : Mo Rs := bnd (eD xk) fun dk => bnd (eD xv) fun dv => match keyOf dk with
  | some k => ret (.newd [(k, dv)])
  | none => lft none
theorem de_dsp1 {xk xv : Mo Rs} (hk : PE X a (rd K0 c xk)) (hv : PE X b (rd K0 c xv)) : PE X (.Dict [some a] [b] pos) (rd K0 c (xDsp1 xk xv)) := pe_imp (pe_disp (pps_cons (pe_eD hk) (pe_eD hv) pps_nil) rfl rfl (fun z => by cases z) (by simp)) fun σ H Q ⟨O, ρ, L, q⟩ => by
  intro p hp
  have A : Alc H (upd H p (.dK [])) O (ins O p) := Alc.new hp
  have L0 := A.rel L
  have oP : ins O p p = true := ins_same
  have nP : ¬ Own σ ρ p := fun z => (own_dom L z).2 hp
  refine ⟨ins O p, ρ, L0, ?_⟩
  unfold xDsp1 at q
  match ek : eD xk ρ with
  | none => rw [bnd_no ek] at q; exact q
  | some (.ex n fs, ρ1) => rw [bnd_ex ek] at q; exact fun dd H2 O2 t L2 q2 => q dd H2 O2 (A.stp.trans L t) L2 q2
  | some (.val dk, ρ1) =>
    rw [bnd_val ek] at q
    intro v H1 O1 s1 L1 d1
    obtain ⟨oP1, nP1, hP1⟩ := keep_one (c := c) s1 oP nP upd_same
    refine ⟨O1, ρ1, L1, ?_⟩
    have s01 := A.stp.trans L s1
    match ev : eD xv ρ1 with
    | none => rw [bnd_no ev] at q; exact q
    | some (.ex n fs, ρ2) => rw [bnd_ex ev] at q; exact fun dd H2 O2 t L2 q2 => q dd H2 O2 (s01.trans L t) L2 q2
    | some (.val dv, ρ2) =>
      rw [bnd_val ev] at q
      intro w H2 O2 s2 L2 d2
      obtain ⟨oP2, nP2, hP2⟩ := keep_one (c := c) s2 oP1 nP1 hP1
      refine ⟨hP2, ?_⟩
      cases ek2 : keyOf dk with
      | none => rw [ek2] at q; exact q.elim
      | some k =>
        rw [ek2] at q
        have ev1 := keyOf_ok d1 ek2
        subst ev1
        refine ⟨[(k, w)], rfl, by simp, ?_⟩
        have s02 := s01.trans L s2
        refine q (.ref p) _ O2 (stp_upd s02 hp) (upd_rel L2 oP2 nP2 hP2) ⟨p, _, rfl, hp, oP2, nP2, upd_same, ?_⟩
        rw [hid_upd oP2]
        exact dk_to (.cons d2 .nil)
/-- k in d -/
def xDinN (j : Nat) (xk : Mo Rs) : Mo Rs := bnd (eD xk) fun dk ρ => match ρ[j]? with
  | some (.dct kvs) => match keyOf dk with
    | some k => some (.val (.dt (.bool (valD kvs k).isSome)), ρ)
    | none => none
  | _ => none
theorem dct_at {O : OS} {σ : L2.St} {H : Hp} {ρ : En} {j : Nat} {kvs : List (Key × PyData)} (L : Rel K0 c O σ H ρ) (hj : ρ[j]? = some (.dct kvs)) : ∃ p ws, σ[j]? = some (some (.ref p)) ∧ c.H0 p = none ∧ O p = true ∧ H p = some (.dK ws) ∧ DK (hid O H) ws kvs := by
  obtain ⟨w, hw, a, ws, rfl, h0, ho, hH, hd⟩ := slot_of L hj
  exact ⟨a, ws, hw, h0, ho, hH, dk_of hd⟩
theorem dk_some {H : Hp} {k : Key} {ws : List (Key × V)} {kvs : List (Key × PyData)} (h : DK H ws kvs) : (valV ws k).isSome = (valD kvs k).isSome := by
  rcases dk_val (k := k) h with ⟨e1, e2⟩ | ⟨v, d, e1, e2, _⟩ <;> rw [e1, e2] <;> rfl
theorem post_dinN {σ : L2.St} {H : Hp} {Q : VK} {O : OS} {ρ : En} {j : Nat} {xk : Mo Rs} (L : Rel K0 c O σ H ρ) (q : PostG K0 c O σ H ρ (RR K0 c σ) Q (xDinN j xk ρ)) : tDIn (rdD K0 c (eD xk)) (tVar j) σ H Q := by
  refine ⟨O, ρ, L, PostG.bind mn_R L q fun dk ρ1 v H1 O1 _ s L1 q1 k _ => ?_⟩
  split at k
  · rename_i kvs hj
    split at k
    · rename_i key hk
      obtain ⟨p, ws, hw, h0, ho, hH, hd⟩ := dct_at L1 hj
      have e := keyOf_ok q1 hk
      subst e
      refine ⟨_, hw, p, _, rfl, DGet.k hH, ?_⟩
      rw [dk_some hd]
      exact k.at L1 (.bl _)
    · exact k.elim
  · exact k.elim
theorem de_dinN (j : Nat) {kk : Nat} {xk : Mo Rs} (hr : Room kk X.A) (hk : PE X a (rd K0 c xk)) (ho : PE X b (tVar j)) (h1 : behindInMarks .In b = false := by rfl) : PE X (.Compare a [.In] [b] pos) (rd K0 c (xDinN j xk)) := pe_imp (pe_cmp (pc_din (hu_of hr) (pe_eD hk) ho) h1) fun σ H Q ⟨O, ρ, L, q⟩ => post_dinN L q
theorem tb_of {t : TE} {x : Mo Rs} (f : ∀ σ H Q O ρ, Rel K0 c O σ H ρ → PostG K0 c O σ H ρ (RR K0 c σ) Q (x ρ) → t σ H Q) {σ : L2.St} {H : Hp} {Q : Bool → Hp → Prop} (h : rdB c (xTst x) σ H Q) : tB t σ H Q := by
  obtain ⟨O, ρ, L, q⟩ := h
  refine f σ H _ O ρ L (PostG.bind mn_B L q fun r ρ1 v H1 O1 _ s L1 q1 _ k => ?_)
  match r, q1, k with
  | .dt (.bool bb), q1, k => exact ⟨bb, dp_bool q1, k bb H1 O1 s L1 rfl⟩
  | .dt .none, _, k => exact k.elim
  | .dt (.int _), _, k => exact k.elim
  | .dt (.str _), _, k => exact k.elim
  | .dt (.list _), _, k => exact k.elim
  | .dt (.tuple _), _, k => exact k.elim
  | .dt (.dict _), _, k => exact k.elim
  | .new _, _, k => exact k.elim
  | .newd _, _, k => exact k.elim
theorem dt_dinN (j : Nat) {kk : Nat} {xk : Mo Rs} (hr : Room kk X.A) (hk : PE X a (rd K0 c xk)) (ho : PE X b (tVar j)) (h1 : behindInMarks .In b = false := by rfl) : PT X (.Compare a [.In] [b] pos) (rdB c (xTst (xDinN j xk))) := pt_imp (pt_cmp (pc_din (hu_of hr) (pe_eD hk) ho) h1) fun σ H Q h => tb_of (fun σ H Q O ρ L q => post_dinN L q) h
/-- k not in d -/
def xDnoN (j : Nat) (xk : Mo Rs) : Mo Rs := bnd (eD xk) fun dk ρ => match ρ[j]? with
  | some (.dct kvs) => match keyOf dk with
    | some k => some (.val (.dt (.bool (!(valD kvs k).isSome))), ρ)
    | none => none
  | _ => none
theorem post_dnoN {σ : L2.St} {H : Hp} {Q : VK} {O : OS} {ρ : En} {j : Nat} {xk : Mo Rs} (L : Rel K0 c O σ H ρ) (q : PostG K0 c O σ H ρ (RR K0 c σ) Q (xDnoN j xk ρ)) : tDNotIn (rdD K0 c (eD xk)) (tVar j) σ H Q := by
  refine ⟨O, ρ, L, PostG.bind mn_R L q fun dk ρ1 v H1 O1 _ s L1 q1 k _ => ?_⟩
  split at k
  · rename_i kvs hj
    split at k
    · rename_i key hk
      obtain ⟨p, ws, hw, h0, ho, hH, hd⟩ := dct_at L1 hj
      have e := keyOf_ok q1 hk
      subst e
      refine ⟨_, hw, p, _, rfl, DGet.k hH, ?_⟩
      rw [dk_some hd]
      exact k.at L1 (.bl _)
    · exact k.elim
  · exact k.elim
theorem dt_dnoN (j : Nat) {kk : Nat} {xk : Mo Rs} (hr : Room kk X.A) (hk : PE X a (rd K0 c xk)) (ho : PE X b (tVar j)) (h1 : behindInMarks .NotIn b = false := by rfl) : PT X (.Compare a [.NotIn] [b] pos) (rdB c (xTst (xDnoN j xk))) := pt_imp (pt_cmp (pc_dnotin (hu_of hr) (pe_eD hk) ho) h1) fun σ H Q h => tb_of (fun σ H Q O ρ L q => post_dnoN L q) h
/-- k in f(..), a new dict -/
def xDinE (xk x : Mo Rs) : Mo Rs := bnd (eD xk) fun dk => bnd x fun r => match r, keyOf dk with
  | .newd kvs, some k => ret (.dt (.bool (valD kvs k).isSome))
  | _, _ => lft none
theorem post_dinE {σ : L2.St} {H : Hp} {Q : VK} {O : OS} {ρ : En} {xk x : Mo Rs} (L : Rel K0 c O σ H ρ) (q : PostG K0 c O σ H ρ (RR K0 c σ) Q (xDinE xk x ρ)) : tDIn (rdD K0 c (eD xk)) (rd K0 c x) σ H Q := by
  refine ⟨O, ρ, L, PostG.bind mn_R L q fun dk ρ1 v H1 O1 _ s L1 q1 k _ => ⟨O1, ρ1, L1, ?_⟩⟩
  refine PostG.bind mn_R L1 k fun r ρ2 w H2 O2 _ s2 L2 q2 k2 _ => ?_
  match r, q2, k2 with
  | .dt _, _, k2 => exact k2.elim
  | .new _, _, k2 => exact k2.elim
  | .newd kvs, q2, k2 =>
    cases hk : keyOf dk with
    | none => rw [hk] at k2; exact k2.elim
    | some key =>
      rw [hk] at k2
      obtain ⟨p, ws, rfl, hp, ho, hn, hH, hd⟩ := q2
      have e := keyOf_ok q1 hk
      subst e
      refine ⟨p, _, rfl, DGet.k hH, ?_⟩
      rw [dk_some (dk_of hd)]
      exact k2.at L2 (.bl _)
theorem de_dinE {kk : Nat} {xk x : Mo Rs} (hr : Room kk X.A) (hk : PE X a (rd K0 c xk)) (ho : PE X b (rd K0 c x)) (h1 : behindInMarks .In b = false := by rfl) : PE X (.Compare a [.In] [b] pos) (rd K0 c (xDinE xk x)) := pe_imp (pe_cmp (pc_din (hu_of hr) (pe_eD hk) ho) h1) fun σ H Q ⟨O, ρ, L, q⟩ => post_dinE L q
theorem dt_dinE {kk : Nat} {xk x : Mo Rs} (hr : Room kk X.A) (hk : PE X a (rd K0 c xk)) (ho : PE X b (rd K0 c x)) (h1 : behindInMarks .In b = false := by rfl) : PT X (.Compare a [.In] [b] pos) (rdB c (xTst (xDinE xk x))) := pt_imp (pt_cmp (pc_din (hu_of hr) (pe_eD hk) ho) h1) fun σ H Q h => tb_of (fun σ H Q O ρ L q => post_dinE L q) h
/-- d[k] -/
def xDget (j : Nat) (xk : Mo Rs) : Mo Rs := bnd (eD xk) fun dk ρ => match ρ[j]? with
  | some (.dct kvs) => match keyOf dk with
    | some k => match valD kvs k with
      | some d => some (.val (.dt d), ρ)
      | none => none
    | none => none
  | _ => none
/-- the name holds a dict ahead of what comes -/
def yDct {α : Type} (j : Nat) (x : Mo α) : Mo α := fun ρ => match ρ[j]? with
  | some (.dct _) => x ρ
  | _ => none
theorem de_dget (j : Nat) {kk : Nat} {xk : Mo Rs} (hr : Room kk X.A) (ho : PE X o (tVar j)) (hk : PE X i (rd K0 c xk)) (hs : NoSl i := by intro _ _; rfl) : PE X (.Subscript o i pos) (rd K0 c (yDct j (xDget j xk))) := pe_imp (pe_dget (hu_of hr) ho (pe_eD hk) hs) fun σ H Q ⟨O, ρ, L, q⟩ => by
  unfold yDct at q
  split at q
  rotate_left
  · exact q.elim
  rename_i kvs0 hj0
  obtain ⟨p0, ws0, hw0, _⟩ := dct_at L hj0
  refine ⟨_, hw0, O, ρ, L, PostG.bind mn_R L q fun dk ρ1 v H1 O1 _ s L1 q1 k _ => ?_⟩
  split at k
  · rename_i kvs hj
    split at k
    · rename_i key hk
      obtain ⟨p, ws, hw, h0, ho, hH, hd⟩ := dct_at L1 hj
      rw [hw0] at hw; cases hw
      have e := keyOf_ok q1 hk
      subst e
      rcases dk_val (k := key) hd with ⟨e1, e2⟩ | ⟨v, d, e1, e2, e3⟩
      · rw [e2] at k; exact k.elim
      · rw [e2] at k
        refine ⟨p0, v, rfl, ?_, k.at L1 e3⟩
        have := DGet.k (k := key) hH
        rw [e1] at this; exact this
    · exact k.elim
  · exact k.elim
/-- a dict of one's own is changed -/
theorem mutD {O : OS} {σ : L2.St} {H : Hp} {ρ : En} {j : Nat} {xs ys : List (Key × PyData)} {p : Addr} {vs : List (Key × V)} {o : HO} (L : Rel K0 c O σ H ρ) (hj : ρ[j]? = some (.dct xs)) (hw : σ[j]? = some (some (.ref p))) (h0 : c.H0 p = none) (hO : O p = true) (hH : H p = some o) (hd : DK (hid O H) vs ys) :
    Stp σ σ ρ (ρ.set j (.dct ys)) H (upd H p (.dK vs)) O O ∧ Rel K0 c O σ (upd H p (.dK vs)) (ρ.set j (.dct ys)) := by
  have hid' := hid_upd (O := O) (H := H) (o := .dK vs) hO
  have dom' : ∀ a, H a ≠ none → upd H p (.dK vs) a ≠ none := fun a h => by
    by_cases e : a = p
    · subst e; rw [upd_same]; exact fun z => nomatch z
    · rw [upd_ne e]; exact h
  have own' : ∀ a, Own σ (ρ.set j (.dct ys)) a → Own σ ρ a := fun a h => by
    obtain ⟨i, t, h1, h2, h3⟩ := h
    rcases get_set h2 with ⟨e, rfl⟩ | ⟨_, g⟩
    · subst e; exact ⟨i, _, h1, hj, rfl⟩
    · exact ⟨i, t, h1, g, h3⟩
  refine ⟨⟨dom', fun a u h n => ?_, fun _ h => .inl h, fun a h => .inl (own' a h), fun _ h => .inr h, fun i t h f => ?_⟩, ⟨by rw [List.length_set]; exact L.len, L.low, fun a h => dom' a (L.dom0 a h), L.o0, fun a h => dom' a (L.dom a h), fun i w t h1 h2 => ?_, fun i k a u t h1 h2 h3 h4 h5 h6 => ?_⟩⟩
  · have : a ≠ p := fun e => by subst e; exact n ⟨j, _, hw, hj, rfl⟩
    rw [upd_ne this]; exact h
  · rcases get_set h with ⟨e, rfl⟩ | ⟨_, g⟩
    · cases f
    · exact ⟨t, g, f, rfl, Iff.rfl⟩
  · rcases get_set h2 with ⟨e, rfl⟩ | ⟨n, g⟩
    · subst e
      rw [hw] at h1; cases h1
      exact ⟨p, vs, rfl, h0, hO, upd_same, dk_to (by rw [hid']; exact hd)⟩
    · refine slOk_mono (by rw [hid']; exact fun _ _ h => h) (fun a e o => ⟨rfl, upd_ne fun z => ?_⟩) (L.sl i w t h1 g)
      subst z
      exact n (L.inj i j a t _ (by rw [h1, e]) hw g hj o rfl)
  · have f : ∀ (i : Nat) (u : Sl), (ρ.set j (.dct ys))[i]? = some u → u.isOwn = true → ∃ u', ρ[i]? = some u' ∧ u'.isOwn = true := fun i u h o => by
      rcases get_set h with ⟨e, rfl⟩ | ⟨_, g⟩
      · subst e; exact ⟨_, hj, rfl⟩
      · exact ⟨u, g, o⟩
    obtain ⟨u', g1, g2⟩ := f i u h3 h5
    obtain ⟨t', g3, g4⟩ := f k t h4 h6
    exact L.inj i k a u' t' h1 h2 g1 g3 g2 g4
/-- d[k] = v -/
def yDput (j : Nat) (xk xv : Mo Rs) : Mo Fl := bnd (eD xv) fun dv => yDct j (bnd (eD xk) fun dk ρ => match ρ[j]? with
  | some (.dct kvs) => match keyOf dk with
    | some k => if kvs.length < sizeLine then some (.val .nx, ρ.set j (.dct (putD kvs k dv))) else none
    | none => none
  | _ => none)
theorem ds_dput (j : Nat) {kk : Nat} {xk xv : Mo Rs} {pos' : Pos} (hr : Room kk X.A) (ho : PE X o (tVar j)) (hk : PE X i (rd K0 c xk)) (hv : PE X e (rd K0 c xv)) (hs : swapsWith e (some (.Subscript o i pos')) pos.line X.env = pure false := by rfl) : PS X (.Assign [.Subscript o i pos'] e pos) (rdS c (yDput j xk xv)) := ps_imp (ps_dput (hu_of hr) ho (pe_eD hk) (pe_eD hv) hs) fun D σ H ⟨O, ρ, L, q⟩ => by
  refine ⟨O, ρ, L, PostS.bind L q fun dv ρ1 v H1 O1 _ s L1 q1 k _ => ?_⟩
  unfold yDct at k
  split at k
  rotate_left
  · exact k.elim
  rename_i kvs0 hj0
  obtain ⟨p0, ws0, hw0, _⟩ := dct_at L1 hj0
  refine ⟨_, hw0, O1, ρ1, L1, PostS.bind L1 k fun dk ρ2 u H2 O2 _ s2 L2 q2 k2 _ => ?_⟩
  split at k2
  · rename_i kvs hj
    split at k2
    · rename_i key hk
      split at k2
      · rename_i hl
        obtain ⟨p, ws, hw, h0, ho, hH, hd⟩ := dct_at L2 hj
        rw [hw0] at hw; cases hw
        have e := keyOf_ok q2 hk
        subst e
        have q1' := dp_mono (s2.same L1) q1
        obtain ⟨t, L3⟩ := mutD L2 hj hw0 h0 ho hH (dk_put (k := key) hd q1')
        exact ⟨p0, _, rfl, DPut.k hH (by rw [dk_len hd]; exact hl), k2 _ _ O2 t L3⟩
      · exact k2.elim
    · exact k2.elim
  · exact k2.elim
end
end Dl
end

section
set_option Elab.async false
set_option linter.all false
set_option maxRecDepth 100000
namespace Dl
open PySem PySem.Spec PyProof.Rows L2
section
variable {X : Cx} {c : Ct} {a b d e i o : Expr} {pos : Pos}
/-- [..] * n -/
def xRepN (x y : Mo Rs) : Mo Rs := bnd x fun r => bnd (oI y) fun n => match r with
  | .new xs => if (0 ≤ n ∧ n ≤ 16777216) ∧ xs.length * n.toNat ≤ sizeLine then ret (.new (List.replicate n.toNat xs).flatten) else lft none
  | _ => lft none
theorem de_repN {x y : Mo Rs} (ha : PE X a (rd K0 c x)) (hb : PE X b (rd K0 c y)) : PE X (.BinOp a .Mult b pos) (rd K0 c (xRepN x y)) := pe_imp (pe_op op_rep ha (pe_oI hb)) fun σ H Q ⟨O, ρ, L, q⟩ => by
  refine ⟨O, ρ, L, PostG.bind mn_R L q fun r ρ1 v H1 O1 _ s L1 q1 k _ => ⟨O1, ρ1, L1, ?_⟩⟩
  refine PostG.bind mn_R L1 k fun n ρ2 w H2 O2 _ s2 L2 q2 k2 _ => ?_
  match r, q1, k2 with
  | .dt _, _, k2 => exact k2.elim
  | .newd _, _, k2 => exact k2.elim
  | .new xs, q1, k2 =>
    obtain ⟨p, vs, rfl, hp, ho, hn, hH, hd⟩ := q1
    obtain ⟨ho2, hn2, hH2⟩ := keep_one (c := c) s2 ho hn hH
    have hd2 := dpAll_mono (s2.same L1) hd
    by_cases e : (0 ≤ n ∧ n ≤ 16777216) ∧ xs.length * n.toNat ≤ sizeLine
    · simp only [if_pos e] at k2
      refine ⟨p, n, vs, rfl, q2, hH2, by omega, by omega, by rw [dpAll_len hd]; exact e.2, fun l hl => ?_⟩
      exact k2 _ _ _ (Alc.new hl).stp ((Alc.new hl).rel L2) ((lst_new hl (dpAll_rep hd2 _)).ok L2)
    · simp only [if_neg e] at k2; exact k2.elim
end
end Dl
end

section
set_option Elab.async false
set_option linter.all false
set_option maxRecDepth 100000
namespace Dl
open PySem PySem.Spec PyProof.Rows L2
section
variable {X : Cx} {c : Ct} {a b d e i o : Expr} {pos : Pos}
/-- x op= e, x data of any kind: its value is taken first -/
def yAugB (i : Nat) (g : List PyData → Option Rs) (x : Mo Rs) : Mo Fl := fun ρ => match ρ[i]? with
  | some (.dat a) => bnd (eD x) (fun d ρ' => match g [a, d] with
    | some r => some (.val .nx, ρ'.set i (slotOf r))
    | none => none) ρ
  | _ => none
theorem ds_augB {i : Nat} {xn : Str} {e : Expr} {x : Mo Rs} {op : Operator} {r : R2} {g : List PyData → Option Rs} {pos pos' : Pos} (hN : X.N.Nodup) (hi : X.N[i]? = some xn) (hx : Loc X.env.scope xn) (ho : PIp X op r) (hb : BOk K0 (l2 r) g) (he : PE X e (rd K0 c x))
    (hf : X.fn xn = true ∨ X.env.scope.names.lookup xn = some .local := by first | exact .inl rfl | exact .inr rfl | assumption) : PS X (.AugAssign (.Name xn pos') op e pos) (rdS c (yAugB i g x)) := ps_imp (ps_aug hN hi hx (pe_eD he) ho hf) fun D σ H ⟨O, ρ, L, q⟩ => by
  unfold yAugB at q
  split at q
  · rename_i a hs
    obtain ⟨w, hw, v, rfl, hd⟩ := slot_of L hs
    refine ⟨v, hw, O, ρ, L, ?_⟩
    refine PostS.bind L q fun d ρ1 u H1 O1 ex s L1 q1 _ k => ?_
    cases eg : g [a, d] with
    | none => simp only [eg] at k; exact k.elim
    | some rr =>
      simp only [eg] at k
      have hv : Vws K0 O1 H1 [v, u] [a, d] := .cons (.inl (dp_mono (s.same L) hd)) (.cons (.inl q1) .nil)
      obtain ⟨x', y', ee, z⟩ := hb O1 H1 [v, u] [a, d] rr (fun z H2 => D.nx (σ.set i (some z)) H2) L1.dom hv eg fun v2 H2 O2 al h => by
        have s2 := s.trans L (al.stp (σ := σ) (ρ := ρ1))
        have L2 := al.rel L1
        refine k _ H2 O2 (store_stp i s2 fun p e o => ?_) (store_rel i L2 ((h.ok L1).rt L1))
        cases rr with
        | dt _ => cases o
        | new xs => obtain ⟨p', vs, e1, n, _⟩ := h; rw [e] at e1; cases e1; exact none_back s.dom n
        | newd xs => obtain ⟨p', vs, e1, n, _⟩ := h; rw [e] at e1; cases e1; exact none_back s.dom n
      cases ee
      exact z
  · exact q.elim
theorem ip_subA : PIp X .Sub (rI0 fun i j => .int (i - j)) := fun pins s σ H x y v u Q I rx ry h => by
  obtain ⟨i, j, e1, e2, q⟩ := h
  exact ip_sub pins s σ H x y v u Q I rx ry ⟨i, j, e1, e2, q⟩
def gAddI : List PyData → Option Rs
  | [.int a, .int b] => some (.dt (.int (a + b)))
  | _ => none
theorem bok_addI : BOk K0 (l2 (rI0 fun i j => .int (i + j))) gAddI := fun O H vs ds rs Q hO hv hg k => by
  unfold gAddI at hg
  split at hg
  · cases hg
    obtain ⟨v, w, rfl, h1, h2⟩ := vws_two hv
    exact ⟨v, w, rfl, _, _, vw_int h1, vw_int h2, k _ _ O .refl (.int _)⟩
  · cases hg
/-- xs[i] op= e -/
def rGetL : V → V → Hp → VK → Prop := fun o i H Q => ∃ p xs k v, o = .ref p ∧ i = .int k ∧ H p = some (.lst xs) ∧ 0 ≤ k ∧ xs[k.toNat]? = some v ∧ Q v H
theorem pget_list : PGet X rGetL := by
  intro pins s σ H o i ov iv Q I ro ri h
  obtain ⟨p, xs, k, v, rfl, rfl, hH, h0, hx, q⟩ := h
  cases ro
  obtain ⟨t, rfl⟩ := ri
  obtain ⟨its, r, pl, hz⟩ := I.list (.inl (.inl hH))
  obtain ⟨w, ew, rw'⟩ := r.get hx
  have hl := r.length
  have hn := line63
  have hk : k.toNat < xs.length := by
    rcases Nat.lt_or_ge k.toNat xs.length with z | z
    · exact z
    · rw [List.getElem?_eq_none z] at hx; cases hx
  exact wpAny_getItem_list pl.isList h0 (by omega) (by simpa using ew) ⟨v, H, I, rw', q⟩
def yAugI (j : Nat) (f : Int → Int → Int) (xi x : Mo Rs) : Mo Fl := bnd (oI xi) fun n ρ => match ρ[j]? with
  | some s => match lsl s with
    | some xs => if 0 ≤ n then match xs[n.toNat]? with
      | some (.int a) => bnd (oI x) (fun b ρ2 => match ρ2[j]? with
        | some s2 => match lsl s2 with
          | some ys => if n < ys.length then some (.val .nx, ρ2.set j (putL s2 (ys.set n.toNat (.int (f a b))))) else none
          | none => none
        | none => none) ρ
      | _ => none else none
    | none => none
  | none => none
theorem ds_augI (j : Nat) {op : Operator} {f : Int → Int → Int} {xi x : Mo Rs} {tpos : Pos} (ho : PE X o (tVar j)) (hi : PE X i (rd K0 c xi)) (he : PE X e (rd K0 c x)) (hp : PIp X op (rI0 fun i j => .int (f i j)))
    (ha : ∀ ov iv new, augStore i ov iv new = (do holding [new, ov, iv] (setItem ov iv new); release [new, ov, iv] []; pure .next) := by intros; rfl) : PS X (.AugAssign (.Subscript o i tpos) op e pos) (rdS c (yL j (yAugI j f xi x))) := ps_imp (ps_augS ho (pe_oI hi) pget_list (pe_oI he) hp set_list ha) fun D σ H ⟨O, ρ, L, q⟩ => by
  unfold yL at q
  split at q
  rotate_left
  · exact q.elim
  rename_i s0 hj0
  split at q
  rotate_left
  · exact q.elim
  rename_i xs0 hs0
  obtain ⟨p, vs0, hw, _, _, _⟩ := oN_list (K := K0) L hj0 hs0
  refine ⟨_, hw, O, ρ, L, PostS.bind L q fun n ρ1 v H1 O1 _ st L1 q1 k _ => ?_⟩
  split at k
  rotate_left
  · exact k.elim
  rename_i s1 hj1
  split at k
  rotate_left
  · exact k.elim
  rename_i xs hs1
  split at k
  rotate_left
  · exact k.elim
  rename_i h0
  split at k
  rotate_left
  · exact k.elim
  rename_i aa hx
  obtain ⟨p1, vs1, hw1, hO1, hH1, hd1⟩ := oN_list (K := K0) L1 hj1 hs1
  rw [hw] at hw1; cases hw1
  obtain ⟨y, hy, hdy⟩ := dpAll_getD hd1 hx
  have ey := dp_int hdy
  subst ey
  refine ⟨p, vs1, n, _, rfl, q1, hH1, h0, hy, O1, ρ1, L1, PostS.bind L1 k fun bb ρ2 u H2 O2 _ st2 L2 q2 k2 _ => ?_⟩
  refine ⟨aa, bb, rfl, q2, ?_⟩
  split at k2
  rotate_left
  · exact k2.elim
  rename_i s2 hj2
  split at k2
  rotate_left
  · exact k2.elim
  rename_i ys hs2
  split at k2
  rotate_left
  · exact k2.elim
  rename_i hl
  obtain ⟨p2, vs2, hw2, hO2, hH2, hd2⟩ := oN_list (K := K0) L2 hj2 hs2
  rw [hw] at hw2; cases hw2
  obtain ⟨t, L3⟩ := mutate L2 hj2 hs2 hw hO2 hH2 (dpAll_set (.int (f aa bb)) n.toNat hd2)
  exact ⟨p, vs2, n, n.toNat, rfl, q1, hH2, by unfold ixN; rw [if_pos h0, dpAll_len hd2, if_pos hl], k2 σ _ O2 t L3⟩
end
end Dl
end

section
set_option Elab.async false
set_option linter.all false
set_option maxRecDepth 100000
namespace Dl
open PySem PySem.Spec PyProof.Rows L2
/-! any of a list of whole numbers -/
section
variable {X : Cx}
def rAnyN (K : PySem.W.Frag) : List V → Hp → VK → Prop := fun vs H Q => ∃ p, ∃ ms : List Int, vs = [V.ref p] ∧ SqL K H p (ms.map V.int) ∧ Q (.bl (ms.any fun m => m != 0)) H
theorem anyG : ∀ cs : List Bool, (List.range cs.length).any (fun j => cs.getD j false) = cs.any id
  | [] => rfl
  | x :: cs => by
    rw [List.length_cons, List.range_succ_eq_map]
    simp only [List.any_cons, List.any_map, id, ← anyG cs]
    rfl
theorem truthN {P : Program} {w : World} {A : Around} {ms : List Int} {us : List Value} (h : IntsAre us ms) :
    TruthOf P w A (fun j v => us.toArray[j]? = some v) (fun j => (ms.map fun m => m != 0).getD j false) := by
  intro j v s Q E hv hq
  have hv : us[j]? = some v := by simpa using hv
  obtain ⟨t, rfl⟩ := IntsAre.int_at h j v hv
  have hl : j < ms.length := by
    have e := IntsAre.length h
    rcases Nat.lt_or_ge j us.length with z | z
    · omega
    · rw [List.getElem?_eq_none z] at hv; cases hv
  have e : (ms.map fun m => m != 0).getD j false = (ms.getD j 0 != 0) := by
    rw [List.getD_eq_getElem?_getD, List.getElem?_map, List.getD_eq_getElem?_getD, List.getElem?_eq_getElem hl]; rfl
  have hq : Q (ms.getD j 0 != 0) s := by rw [← e]; exact hq
  exact PySem.P.truthy_int hq
theorem cr_anyN (hc : X.calm = true) : CallR X (.builtin "any") (rAnyN X.K) := by
  intro pins s σ H vs us Q I r h
  obtain ⟨p, ms, rfl, hs, q⟩ := h
  obtain ⟨its, rv, hl, _⟩ := I.list hs
  have hi := rv.ints
  rw [Vals.ref1 r]
  refine call_any_walk (iter_any hl.isList ?_)
  intro s2 e st hne
  subst e
  refine ⟨_, _, _, _, _, _, _, rfl, Walks.list (A := X.A.in1) (I.ok.hd hc) _ p hne its.toArray, st, truthN hi, ?_⟩
  intro h' tk hk
  refine ⟨.bl _, H, I.kept fun b o eo => hk b o (fun z => ?_) (Heap.get?_push_of_some _ eo), ?_, q⟩
  · rcases List.mem_cons.mp z with z | z
    · exact Nat.lt_irrefl _ (z ▸ Heap.lt_size eo)
    · cases z
  · have e := IntsAre.length hi
    have f := anyG (ms.map fun m => m != 0)
    rw [List.length_map] at f
    show Value.bool _ = Value.bool _
    rw [List.size_toArray, e, f, List.any_map]
    rfl
def gAnyN : List PyData → Option Rs
  | [.list xs] => match boolsOf xs with
    | some r => some (.dt (.bool (r.any id)))
    | none => match intsOf xs with
      | some r => some (.dt (.bool (r.any fun m => m != 0)))
      | none => none
  | _ => none
theorem bok_anyN {K : PySem.W.Frag} : BOk K0 (fun vs H Q => rAny K vs H Q ∨ rAnyN K vs H Q) gAnyN := fun O H vs ds rs Q hO hv hg k => by
  unfold gAnyN at hg
  split at hg
  · split at hg
    · rename_i r e
      cases hg
      obtain ⟨v, rfl, h1⟩ := vws_one hv
      obtain ⟨a, xs, rfl, s, d⟩ := vw_list h1
      have := bools_ok d e; subst xs
      exact .inl ⟨a, r, rfl, sqL1 s, k _ _ O .refl (.bl _)⟩
    · split at hg
      · rename_i r e
        cases hg
        obtain ⟨v, rfl, h1⟩ := vws_one hv
        obtain ⟨a, xs, rfl, s, d⟩ := vw_list h1
        have := ints_ok d e; subst xs
        exact .inr ⟨a, r, rfl, sqL1 s, k _ _ O .refl (.bl _)⟩
      · cases hg
  · cases hg
theorem cr_anyB (hc : X.calm = true) : CallR X (.builtin "any") (fun vs H Q => rAny X.K vs H Q ∨ rAnyN X.K vs H Q) := CallR.or (cr_any hc) (cr_anyN hc)
end
end Dl
end

section
set_option Elab.async false
set_option linter.all false
set_option maxRecDepth 100000
namespace Dl
open PySem PySem.Spec PyProof.Rows L2
/-! t[::-1] of a tuple -/
section
variable {prog : Program} {w : World} {A : Around} {E : Value → Shared → Prop} {s : Shared}
theorem applied_rev {sl : Addr} {vl vu vs : Value} {n : Nat} {Q : Int × Int × Nat → Shared → Prop} (hs : s.heap.IsSliceOf sl vl vu vs) (pl : IsPart vl none) (pu : IsPart vu none) (ps : IsPart vs (some (-1))) (h : Q ((n : Int) - 1, -1, n) s) : wpAny (model prog w) A (Builtin.Slice.sliceApplied (.ref sl) (pure (n : Int))) Q E s := by
  obtain ⟨o, ho, hc, hd⟩ := id hs
  unfold Builtin.Slice.sliceApplied Builtin.Slice.sliceFields
  refine wpAny_bind (wpAny_bind (wpAny_field ho hd (x := vl) rfl (wpAny_bind (wpAny_field ho hd (x := vu) rfl (wpAny_bind (wpAny_field ho hd (x := vs) rfl (wpAny_pure ?_)))))))
  refine wpAny_bind (HT.slicePart_ ps ?_)
  show wpAny _ _ (if ((-1 : Int) == 0) = true then _ else _) _ _ s
  rw [if_neg (by decide)]
  refine wpAny_bind (HT.slicePart_ pl (wpAny_bind (HT.slicePart_ pu (wpAny_bind (wpAny_pure ?_)))))
  show wpAny _ _ (match Builtin.Slice.sliceAdjust none none (-1) (n : Int) with | (lo, hi) => pure (lo, (-1 : Int), Builtin.Slice.slicePlaces lo hi (-1))) _ _ s
  have e1 : Builtin.Slice.sliceAdjust none none (-1) (n : Int) = ((n : Int) - 1, -1) := by
    unfold Builtin.Slice.sliceAdjust
    simp
  rw [e1]
  have e2 : Builtin.Slice.slicePlaces ((n : Int) - 1) (-1) (-1) = n := by
    unfold Builtin.Slice.slicePlaces
    simp
    omega
  show wpAny _ _ (pure ((n : Int) - 1, (-1 : Int), Builtin.Slice.slicePlaces ((n : Int) - 1) (-1) (-1))) _ _ s
  rw [e2]
  exact wpAny_pure h
theorem getItem_tup_rev {t sl : Addr} {items : Array Value} {vl vu vs : Value} {Q : Value → Shared → Prop} (ht : IsTup s.heap t items) (hs : s.heap.IsSliceOf sl vl vu vs) (pl : IsPart vl none) (pu : IsPart vu none) (ps : IsPart vs (some (-1)))
    (h : Q (.ref s.heap.objs.size) { s with heap := s.heap.push { cls := .type "tuple", data := .seq items.toList.reverse.toArray } }) (hz : items.size ≤ sizeLine) : wpAny (model prog w) A (getItem (.ref t) (.ref sl)) Q E s := by
  have hk : sizeOk (.seq items.toList.reverse.toArray) := by
    show items.toList.reverse.toArray.size ≤ sizeLine
    simpa using hz
  obtain ⟨o, ho, hc, hd⟩ := id hs
  have hT : s.TypeIs (.ref sl) "slice" := ⟨o, ho, hc⟩
  unfold getItem
  try with_reducible refine wpAny_holding ?_
  first | refine wpAny_bind (wpAny_pure ?_) | skip
  refine wpAny_bind (wpAny_sequenceKey ht.typeIs (by decide) ?_)
  refine wpAny_bind (wpAny_callSpecial?_slot (name := Str.ofString "__getitem__") ht.typeIs PyProof.Rows.slot_tuple_getitem (wpAny_call_entry PyProof.Rows.slot_tuple_getitem ht.typeIs entry_tuple_getitem ?_ (args_tuple_getitem _ _)))
  show wpAny _ _ (Builtin.Tuple.tupleItemsOf (.ref t) >>= _) _ _ s
  refine wpAny_bind (tupleItemsOf_ ht ?_)
  refine wpAny_bind (wpAny_typeOf hT ?_)
  rw [if_pos (by decide)]
  refine wpAny_bind (applied_rev hs pl pu ps ?_)
  have hno : ¬ ((((items.size : Int) - 1) == 0 && (-1 : Int) == 1 && items.size == items.size) = true) := by simp
  show wpAny _ _ (if (((items.size : Int) - 1) == 0 && (-1 : Int) == 1 && items.size == items.size) = true then _ else _) _ _ s
  have hp : ((List.range items.size).filterMap fun (m : Nat) => items[((items.size : Int) - 1 + (m : Int) * -1).toNat]?).toArray = items.toList.reverse.toArray := by
    congr 1
    have e : (fun (m : Nat) => items[((items.size : Int) - 1 + (m : Int) * -1).toNat]?) = fun m => if m < items.size then items[items.size - 1 - m]? else items[((items.size : Int) - 1 + (m : Int) * -1).toNat]? := by
      funext m
      split
      · congr 1; omega
      · rfl
    rw [e, ← PySem.W.krv_all items, ← List.filterMap_reverse, ← PySem.W.krv_range, List.filterMap_map]
    have cg : ∀ (l : List Nat) (f g : Nat → Option Value), (∀ a ∈ l, f a = g a) → l.filterMap f = l.filterMap g := by
      intro l f g
      induction l with
      | nil => intro _; rfl
      | cons a l ih =>
        intro h
        rw [List.filterMap_cons, List.filterMap_cons, h a (by simp), ih fun b m => h b (by simp [m])]
    refine cg _ _ _ fun m hm => ?_
    rw [if_pos (List.mem_range.mp hm)]; rfl
  rw [if_neg hno, hp]
  first
    | exact wpAny_bind (m := Builtin.Tuple.tupleExact _) (wpAny_newObj_type (wpAny_pure ⟨_, rfl, wpAny_pure h⟩) hk)
    | exact wpAny_bind (m := Builtin.Tuple.tupleExact _) (wpAny_newObj_type (wpAny_bind (wpAny_pure (wpAny_pure ⟨_, rfl, wpAny_pure h⟩))) hk)
    | exact wpAny_bind (wpAny_bind (m := Builtin.Tuple.tupleExact _) (wpAny_newObj_type (wpAny_pure (wpAny_pure ⟨_, rfl, wpAny_pure h⟩)) hk))
    | exact wpAny_bind (wpAny_bind (m := Builtin.Tuple.tupleExact _) (wpAny_newObj_type (wpAny_pure ⟨_, rfl, wpAny_pure h⟩) hk))
end
section
variable {X : Cx} {c : Ct} {a : Expr} {pos : Pos}
def rRv (K : PySem.W.Frag) : V → Hp → VK → Prop := fun x H1 Q => (∃ a xs, x = .ref a ∧ SqL K H1 a xs ∧ ∀ p, H1 p = none → Q (.ref p) (upd H1 p (.lst xs.reverse))) ∨ ∃ a xs, x = .ref a ∧ SqT K H1 a xs ∧ ∀ p, H1 p = none → Q (.ref p) (upd H1 p (.tup xs.reverse))
theorem pe_rv {e : Expr} {te : TE} {k : Nat} {p1 p2 p3 pos : Pos} (he : PE X e te) : PE X (.Subscript e (.Slice none none (some (.UnaryOp .USub (.Constant (.int 1) k p1) p2)) p3) pos) (fun σ H Q => te σ H fun x H1 => rRv X.K x H1 Q) := by
  refine ⟨fun pins s σ H Q I h => Subscript_ (thn (he.run pins s σ H _ I h) fun v s1 ⟨x, H1, I1, r1, q1⟩ => ?_)⟩
  have hst : PO X (some (.UnaryOp .USub (.Constant (.int 1) k p1) p2)) (tPart (tUn (rU fun i => .int (-i)) (tC (.int 1)))) := po_some (pe_un un_neg pe_int)
  refine wpAny_Slice (thn (po_none.run pins s1 σ H1 (fun o G => o = none ∧ G = H1) I1 ⟨rfl, rfl⟩) fun vl s2 ⟨l, H2, I2, pl, el, e2⟩ => ?_)
  subst el e2
  refine thn (po_none.run pins s2 σ H2 (fun o G => o = none ∧ G = H2) I2 ⟨rfl, rfl⟩) fun vu s3 ⟨u, H3, I3, pu, eu, e3⟩ => ?_
  subst eu e3
  refine thn (hst.run pins s3 σ H3 (fun o G => o = some (-1) ∧ G = H3) I3 ⟨1, rfl, -1, rfl, rfl, rfl⟩) fun vs s4 ⟨o, H4, I4, ps, eo, e4⟩ => ?_
  subst eo e4
  have I5 : Inv X pins σ H4 { s4 with heap := s4.heap.push { cls := .type "slice", data := .fields #[vl, vu, vs] } } := I4.kept (t' := s4.toks) fun b ob q => Heap.get?_push_of_some _ q
  rcases q1 with ⟨a, xs, ex, hx, q⟩ | ⟨a, xs, ex, hx, q⟩
  all_goals
    subst ex
    cases r1
    show wpAny (model X.prog X.w) X.A (subscriptTail e (.Slice none none (some (.UnaryOp .USub (.Constant (.int 1) k p1) p2)) p3) (.ref a) (.ref s4.heap.objs.size)) (EP X pins σ Q) X.xe _
  · obtain ⟨its, r, ht, hz⟩ := I5.list hx
    have hl := r.length
    refine tail_any (ops := [.ref a, .ref s4.heap.objs.size]) ht.isList.typeIs (PySem.slot_list_getitem.lookup) (wpAny_getItem_list_slice ht.isList (Heap.IsSliceOf.new _ vl vu vs) pl pu ps (by decide) ?_ (by rw [List.size_toArray]; omega)) (by with_unfolding_all rfl)
    rw [PySem.W.krv_pick]
    exact ⟨.ref _, _, I5.laid (t' := s4.toks) (o := .lst xs.reverse) (fun b ob q => Heap.get?_push_of_some _ q) (Nat.le_refl _) ⟨by rw [List.length_reverse]; exact hz, _, 0, r.reverse, Heap.get?_push_size _ rfl⟩, rfl, q _ (I5.hok.fresh (Nat.le_refl _))⟩
  · obtain ⟨its, r, ht, hz⟩ := I5.tuple hx
    have hl := r.length
    refine tail_any (ops := [.ref a, .ref s4.heap.objs.size]) ht.typeIs (PyProof.Rows.slot_tuple_getitem.lookup) (getItem_tup_rev ht (Heap.IsSliceOf.new _ vl vu vs) pl pu ps ?_ (by rw [List.size_toArray]; omega)) (by with_unfolding_all rfl)
    exact ⟨.ref _, _, I5.laid (t' := s4.toks) (o := .tup xs.reverse) (fun b ob q => Heap.get?_push_of_some _ q) (Nat.le_refl _) ⟨by rw [List.length_reverse]; exact hz, _, r.reverse, IsTup.new _ _⟩, rfl, q _ (I5.hok.fresh (Nat.le_refl _))⟩
def gRv : List PyData → Option Rs
  | [.list xs] => some (.new xs.reverse)
  | [.tuple xs] => some (.dt (.tuple xs.reverse))
  | _ => none
theorem bok_rv {K : PySem.W.Frag} : BOk K0 (l1 (rRv K)) gRv := fun O H vs ds rs Q hO hv hg k => by
  unfold gRv at hg
  split at hg
  · cases hg
    obtain ⟨v, rfl, h1⟩ := vws_one hv
    obtain ⟨a, xs, rfl, s, d⟩ := vw_list h1
    exact ⟨_, rfl, .inl ⟨a, xs, rfl, sqL1 s, fun p hp => k _ _ _ (Alc.new hp) (lst_new hp (dpAll_rev d))⟩⟩
  · cases hg
    obtain ⟨v, rfl, h1⟩ := vws_one hv
    obtain ⟨a, xs, rfl, s, d⟩ := vw_tuple h1
    exact ⟨_, rfl, .inr ⟨a, xs, rfl, sqT1 s, fun p hp => k _ _ _ (Alc.data hp) (tup_new hO hp (dpAll_rev d))⟩⟩
  · cases hg
theorem de_rv {ya : Mo Vd} {k : Nat} {p1 p2 p3 : Pos} (ha : PE X a (rdV K0 c ya)) : PE X (.Subscript a (.Slice none none (some (.UnaryOp .USub (.Constant (.int 1) k p1) p2)) p3) pos) (rd K0 c (xB gRv (vCons ya vNil))) :=
  pe_imp (pe_rv ha) fun σ H Q h => one (bok_rv (K := X.K)) h
end
end Dl
end

section
set_option Elab.async false
set_option linter.all false
set_option maxRecDepth 100000
namespace Dl
open PySem PySem.Spec PyProof.Rows L2
/-! sorted(set(..)) of whole numbers -/
section
variable {P : Program} {w : World} {A : Around} {E : Value → Shared → Prop} {s : Shared}
abbrev newSetO (w : World) : Obj := { cls := .type "set", dict := none, data := .set #[] 0 (.fresh 0 0 (!w.params.followText "set-order")) }
set_option maxHeartbeats 3200000 in
theorem setCall_list {l : Addr} {items : Array Value} (ns : List Int) {Q : Value → Shared → Prop} (h0 : A.handled = none) (hl : s.heap.IsList l items) (hi : IntsAre items.toList ns) (hb : ns.length + 1 < scanBound)
    (hq : ∀ (g : Heap) (k c : Nat), SetR w g s.heap.objs.size (fun j => decide (j ∈ ns)) c → c ≤ ns.length → (∀ b o, s.heap.get? b = some o → g.get? b = some o) → Q (.ref s.heap.objs.size) { s with heap := g, toks := k }) :
    wpAny (model P w) A (call (.type "set") [.ref l]) Q E s := by
  have hz : items.size = ns.length := by simpa using IntsAre.length hi
  obtain ⟨c, tl, hm⟩ := F.called_set.mro
  have d1 := F.called_set.made
  have d2 := F.called_set.sub
  refine wpAny_call (codeAny_of_tree (?_ : wpAny _ _ (callAny (.type "set") _) _ _ _))
  refine wpAny_pure ⟨Code.quiet_builtin _ (by decide +kernel), codeAny_builtin F.entry_type_call ?_⟩
  rw [Around.under_plain (weight_type_call_type "set" [.ref l] []) rfl]
  have d3 := F.called_set.notType
  have d4 := F.called_set.canCreate
  have d5 := F.typeCall_set_1 (.ref l)
  repeat (any_goals (first | assumption | wp_step))
  refine codeAny_mono (code_set_led1 (.ref l) (E := E) (Q₁ := fun v t => v = .ref s.heap.objs.size ∧ t = { s with heap := s.heap.push (newSetO w) }) ⟨rfl, rfl⟩) fun r t hr => ?_
  match r, hr with
  | .error _, hr => exact hr
  | .ok (.ret v), hr =>
    obtain ⟨rfl, rfl⟩ := hr
    have hS : (s.heap.push (newSetO w)).get? s.heap.objs.size = some (newSetO w) := Heap.get?_push_size _ rfl
    have hT : Shared.TypeIs { s with heap := s.heap.push (newSetO w) } (.ref s.heap.objs.size) "set" := ⟨_, hS, rfl⟩
    have d6 := F.called_set.init.lookup
    have d7 := F.called_set.init.bind (.ref s.heap.objs.size)
    repeat (any_goals (first | assumption | wp_step))
    refine codeAny_mono (codeAny_call_builtin (R := wants (fun r t => r = .none ∧ ∃ g k c, t = { s with heap := g, toks := k } ∧ SetR w g s.heap.objs.size (fun j => decide (j ∈ ns)) c ∧ c ≤ ns.length ∧ (∀ b o, s.heap.get? b = some o → g.get? b = some o)) E) F.called_set.init.plain F.entry_set_init (check_set_init_1 hT ?_)) fun r2 t2 hr2 => ?_
    · obtain ⟨⟨ocls, odict, odata, oslots⟩, hol, hcl, nl, hdl⟩ := hl
      simp only at hcl hdl
      subst hcl hdl
      have hol2 : (s.heap.push (newSetO w)).get? l = some { cls := .type "list", dict := odict, data := .seq items nl, slots := oslots } := Heap.get?_push_of_some _ hol
      have e1 := F.sub_list_set
      have e2 := F.sub_list_frozenset
      have e3 : (Value.type "list" == Value.type "dict") = false := by decide
      have hl1 : (s.heap.push (newSetO w)).IsList l items := ⟨_, hol2, rfl, nl, rfl⟩
      unfold Builtin.«set.__init__» noKeywords Builtin.Frozenset.updateFrom
      generalize hPI : pyIter = PI
      wp_walk
      subst hPI
      refine wpAny_pyIter_list hl1 (wpAny_bind (wpAny_runValue ?_))
      have lt := Heap.lt_size hol
      have h3 : A.in1.in1.in1.handled = none := by simp [h0]
      have n1 : l ≠ (s.heap.push (newSetO w)).objs.size := by rw [Heap.size_push]; exact Nat.ne_of_lt (Nat.lt_succ_of_lt lt)
      have n2 : s.heap.objs.size ∉ [(s.heap.push (newSetO w)).objs.size, l] := by
        rw [Heap.size_push]
        intro z
        rcases List.mem_cons.mp z with z | z
        · exact Nat.ne_of_lt (Nat.lt_succ_self s.heap.objs.size) z
        · exact Nat.lt_irrefl _ (List.mem_singleton.mp z ▸ lt)
      have hv : ∀ (i : Nat) (v : Value), items[i]? = some v → ∃ k t, ns[i]? = some k ∧ v = .int k t := fun i v e => by
        have hi2 : i < ns.length := by rw [← hz]; exact (Array.getElem?_eq_some_iff.mp e).1
        obtain ⟨t, q⟩ := PyProof.Rows.IntsAre.int_at hi i v (by rw [Array.getElem?_toList]; exact e)
        refine ⟨ns[i], t, List.getElem?_eq_getElem hi2, ?_⟩
        rw [q, List.getD_eq_getElem?_getD, List.getElem?_eq_getElem hi2]; rfl
      refine set_update_ints ((Walks.list h3 _ l n1 items).toS) s.heap.objs.size n2 ns hz hb hv (items.size - 0) 0 _ (by omega) (Nat.zero_le _) ⟨⟨_, Heap.get?_push_size _ rfl, rfl, rfl⟩, (hl1.push _)⟩ ⟨0, Nat.le_refl 0, setR_new_at (Heap.get?_push_of_some _ hS)⟩ ?_
      intro t c2 hm2 hc2 hS2
      obtain ⟨g, g2, d, k, os⟩ := t
      obtain rfl : g2 = s.gens := hm2.gens
      obtain rfl : d = s.drawn := hm2.drawn
      obtain rfl : os = s.os := hm2.os
      show wpAny _ _ _ _ _ _
      refine wpAny_pure ?_
      show wpAny _ _ (PySem.ret Value.none) _ _ _
      refine wpAny_pure ⟨rfl, g, k, c2, rfl, hS2, by omega, fun b o e => ?_⟩
      have b0 := Heap.lt_size e
      exact hm2.heap b o (fun z => by
        rw [Heap.size_push] at z
        rcases List.mem_cons.mp z with z | z
        · exact Nat.lt_irrefl _ (z ▸ b0)
        · have z := List.mem_singleton.mp z
          rw [z] at b0
          exact Nat.lt_irrefl _ (Nat.lt_trans (Nat.lt_succ_self s.heap.objs.size) b0)) (Heap.get?_push_of_some _ (Heap.get?_push_of_some _ e))
    · match r2, hr2 with
      | .error _, hr2 => exact hr2
      | .ok (.ret _), hr2 =>
        obtain ⟨rfl, g, k, c2, rfl, a1, a2, a3⟩ := hr2
        repeat (any_goals (first | assumption | wp_step))
        exact hq g k c2 a1 a2 a3
end
end Dl
end

section
set_option Elab.async false
set_option linter.all false
set_option maxRecDepth 100000
namespace Dl
open PySem PySem.Spec PyProof.Rows L2
/-- ascending, each once -/
def insU (x : Int) : List Int → List Int
  | [] => [x]
  | y :: r => if x < y then x :: y :: r else if x = y then y :: r else y :: insU x r
def sortU : List Int → List Int
  | [] => []
  | x :: r => insU x (sortU r)
theorem mem_insU {x y : Int} : ∀ {l : List Int}, y ∈ insU x l ↔ y = x ∨ y ∈ l
  | [] => by simp [insU]
  | z :: r => by
    unfold insU
    split
    · simp
    · split
      · rename_i h; subst h; simp
      · rw [List.mem_cons, mem_insU, List.mem_cons]
        constructor
        · rintro (h | h | h) <;> simp [h]
        · rintro (h | h | h) <;> simp [h]
theorem mem_sortU {y : Int} : ∀ {l : List Int}, y ∈ sortU l ↔ y ∈ l
  | [] => by simp [sortU]
  | z :: r => by rw [sortU, mem_insU, mem_sortU, List.mem_cons]
theorem insU_srt {x : Int} : ∀ {l : List Int}, l.Pairwise (· < ·) → (insU x l).Pairwise (· < ·)
  | [], _ => by simp [insU]
  | z :: r, h => by
    obtain ⟨h1, h2⟩ := List.pairwise_cons.mp h
    unfold insU
    split
    · rename_i hx
      refine List.pairwise_cons.mpr ⟨fun y hy => ?_, h⟩
      rcases List.mem_cons.mp hy with e | e
      · omega
      · have := h1 y e; omega
    · split
      · exact h
      · refine List.pairwise_cons.mpr ⟨fun y hy => ?_, insU_srt h2⟩
        rcases mem_insU.mp hy with e | e
        · omega
        · exact h1 y e
theorem sortU_srt : ∀ {l : List Int}, (sortU l).Pairwise (· < ·)
  | [] => .nil
  | z :: r => insU_srt sortU_srt
theorem srtI_uniq : ∀ {a b : List Int}, a.Pairwise (· < ·) → b.Pairwise (· < ·) → (∀ x, x ∈ a ↔ x ∈ b) → a = b
  | [], [], _, _, _ => rfl
  | [], y :: b, _, _, h => by have := (h y).mpr (by simp); simp at this
  | x :: a, [], _, _, h => by have := (h x).mp (by simp); simp at this
  | x :: a, y :: b, ha, hb, h => by
    obtain ⟨a1, a2⟩ := List.pairwise_cons.mp ha
    obtain ⟨b1, b2⟩ := List.pairwise_cons.mp hb
    have e : x = y := by
      rcases List.mem_cons.mp ((h x).mp (by simp)) with q | q
      · exact q
      · rcases List.mem_cons.mp ((h y).mpr (by simp)) with r | r
        · exact r.symm
        · have := b1 x q; have := a1 y r; omega
    subst e
    rw [srtI_uniq a2 b2 fun z => ?_]
    constructor
    · intro m
      rcases List.mem_cons.mp ((h z).mp (by simp [m])) with q | q
      · have := a1 z m; omega
      · exact q
    · intro m
      rcases List.mem_cons.mp ((h z).mpr (by simp [m])) with q | q
      · have := b1 z m; omega
      · exact q
theorem sortU_len : ∀ {l : List Int}, (sortU l).length ≤ l.length
  | [] => Nat.le_refl _
  | z :: r => by
    have h : ∀ (x : Int) (l : List Int), (insU x l).length ≤ l.length + 1 := by
      intro x l
      induction l with
      | nil => simp [insU]
      | cons y l ih => unfold insU; split <;> (try split) <;> simp_all
    have := h z (sortU r)
    have := sortU_len (l := r)
    simp only [sortU, List.length_cons]; omega
theorem nat_len : ∀ {l D : List Int}, l.Nodup → D.Nodup → (∀ x ∈ l, x ∈ D) → l.length ≤ D.length
  | [], _, _, _, _ => Nat.zero_le _
  | x :: l, D, h, d, s => by
    obtain ⟨h1, h2⟩ := List.nodup_cons.mp h
    have m := s x (by simp)
    have := nat_len (l := l) (D := D.erase x) h2 (d.erase x) fun y hy => (List.mem_erase_of_ne (fun e : y = x => h1 (by rw [← e]; exact hy))).mpr (s y (by simp [hy]))
    rw [List.length_erase_of_mem m] at this
    have := List.length_pos_of_mem m
    simp only [List.length_cons]; omega
section
variable {X : Cx} {c : Ct} {a : Expr} {pos : Pos}
/-- set(xs) -/
def rSetI (K : PySem.W.Frag) (w : World) : List V → Hp → VK → Prop := fun vs H Q => ∃ l, ∃ ns : List Int, vs = [V.ref l] ∧ (SqL K H l (ns.map V.int) ∨ SqT K H l (ns.map V.int)) ∧ ns.length < 63 ∧
  ∀ p c, H p = none → c ≤ ns.length → Q (.ref p) (upd H p (SetO w p (fun j => decide (j ∈ ns)) c))
theorem cr_setI (hc : X.calm = true) : CallR X (.type "set") (rSetI X.K X.w) := by
  intro pins s σ H vs us Q I r h
  obtain ⟨l, ns, rfl, hq, hl, q⟩ := h
  rw [Vals.ref1 r]
  have hb : ns.length + 1 < scanBound := by unfold scanBound; omega
  have fin : ∀ (g : Heap) (k c : Nat), SetR X.w g s.heap.objs.size (fun j => decide (j ∈ ns)) c → c ≤ ns.length → (∀ b o, s.heap.get? b = some o → g.get? b = some o) → EP X pins σ Q (.ref s.heap.objs.size) { s with heap := g, toks := k } := fun g k c R h1 h2 =>
    ⟨.ref _, _, I.laid (t' := k) h2 (Nat.le_refl _) (setO_new R), rfl, q _ c (I.hok.fresh (Nat.le_refl _)) h1⟩
  rcases hq with hq | hq
  · obtain ⟨its, r, pl, _⟩ := I.list hq
    exact setCall_list ns (I.ok.hd hc) pl.isList (by simpa using r.ints) hb fin
  · obtain ⟨its, r, pl, _⟩ := I.tuple hq
    exact call_set_tupI ns (I.ok.hd hc) pl (by simpa using r.ints) hb fin
theorem bb_set : bootBuiltins "set" = some (.type "set") := by decide +kernel
def seqOf : PyData → Option (List PyData)
  | .list xs => some xs
  | .tuple xs => some xs
  | _ => none
/-- sorted(set(xs)) -/
def gSS : List PyData → Option Rs
  | [d] => match seqOf d with
    | some xs => match intsOf xs with
      | some ns => if ns.length < 63 then some (.new ((sortU ns).map .int)) else none
      | none => none
    | none => none
  | _ => none
/-- len(set(xs)) -/
def gLS : List PyData → Option Rs
  | [d] => match seqOf d with
    | some xs => match intsOf xs with
      | some ns => if ns.length < 63 then some (.dt (.int (sortU ns).length)) else none
      | none => none
    | none => none
  | _ => none
theorem dpI {H : Hp} : ∀ (ns : List Int), DpAll K0 H (ns.map V.int) (ns.map .int)
  | [] => .nil
  | n :: ns => .cons (.int n) (dpI ns)
theorem seq_vw {K : PySem.W.Frag} {O : OS} {H : Hp} {v : V} {d : PyData} {xs : List PyData} {ns : List Int} (h : Vw K0 O H v d) (e : seqOf d = some xs) (e2 : intsOf xs = some ns) : ∃ l, v = .ref l ∧ (SqL K H l (ns.map V.int) ∨ SqT K H l (ns.map V.int)) := by
  unfold seqOf at e
  split at e
  · cases e
    obtain ⟨l, vs, rfl, s, d⟩ := vw_list h
    rw [ints_ok d e2] at s
    exact ⟨l, rfl, .inl (sqL1 s)⟩
  · cases e
    obtain ⟨l, vs, rfl, s, d⟩ := vw_tuple h
    rw [ints_ok d e2] at s
    exact ⟨l, rfl, .inr (sqT1 s)⟩
  · cases e
theorem bok_SS {K : PySem.W.Frag} {w : World} : BOk K0 (l1 fun x H Q => rSetI K w [x] H fun y H2 => rSortedSet w [y] H2 Q) gSS := fun O H vs ds rs Q hO hv hg k => by
  unfold gSS at hg
  split at hg
  · obtain ⟨v, rfl, h1⟩ := vws_one hv
    split at hg
    · rename_i xs e
      split at hg
      · rename_i ns e2
        obtain ⟨hl, rfl⟩ := ite_some hg
        obtain ⟨l, rfl, hs⟩ := seq_vw (K := K) h1 e e2
        refine ⟨_, rfl, l, ns, rfl, hs, hl, fun p c hp hc => ⟨p, _, _, rfl, upd_same, by omega, fun ms q h1 h2 h3 hq => ?_⟩⟩
        have en : ms = sortU ns := srtI_uniq h1 sortU_srt fun x => by rw [h2 x, mem_sortU, decide_eq_true_eq]
        subst en
        have hne : q ≠ p := fun z => by rw [z, upd_same] at hq; cases hq
        have hq0 : H q = none := by rw [upd_ne hne] at hq; exact hq
        have a1 : Alc H (upd H p (SetO w p (fun j => decide (j ∈ ns)) c)) O O := Alc.data hp
        have a2 : Alc (upd H p (SetO w p (fun j => decide (j ∈ ns)) c)) (upd (upd H p (SetO w p (fun j => decide (j ∈ ns)) c)) q (.lst ((sortU ns).map V.int))) O (ins O q) := Alc.new hq
        refine k _ _ _ ⟨fun x o hx => a2.1 x o (a1.1 x o hx), fun x hx => ?_, fun x hx => a2.3 x (a1.3 x hx)⟩ ⟨q, _, rfl, hq0, ins_same, upd_same, dpI _⟩
        rcases a2.2 x hx with z | ⟨z1, z2⟩
        · exact .inl z
        · refine .inr ⟨?_, z2⟩
          by_cases e : x = p
          · rw [e]; exact hp
          · rw [upd_ne e] at z1; exact z1
      · cases hg
    · cases hg
  · cases hg
theorem de_srtSet {ya : Mo Vd} {p p2 pos2 : Pos} (hc : X.calm = true) (hm : X.mg "sorted" = none) (hm2 : X.mg "set" = none) (ha : PE X a (rdV K0 c ya)) (hg : Gl X "sorted" := by rfl) (hg2 : Gl X "set" := by rfl)
    (na : starEach [.Call (.Name "set" p2) [a] [] pos2] X.env = (false, eval (.Call (.Name "set" p2) [a] [] pos2) X.env) :: starEach [] X.env := by rfl) (na2 : starEach [a] X.env = (false, eval a X.env) :: starEach [] X.env := by rfl) :
    PE X (.Call (.Name "sorted" p) [.Call (.Name "set" p2) [a] [] pos2] [] pos) (rd K0 c (xB gSS (vCons ya vNil))) :=
  pe_imp (pe_callB (cr_sortedSet hc) hg hm bb_sorted (pa_cons (pe_callTy (cr_setI hc) hg2 hm2 bb_set (pa_cons ha pa_nil na2) (he := na2)) pa_nil na) (he := na)) fun σ H Q h => one (bok_SS (K := X.K) (w := X.w)) h
theorem setR_len {w : World} {h : Heap} {a : Addr} {ns : List Int} {n : Nat} (R : SetR w h a (fun j => decide (j ∈ ns)) n) : n = (sortU ns).length := by
  obtain ⟨o, es, ep, t, ho, hex, hd, g, nd, hm, hb, hf, hn, hr, hl⟩ := R
  rw [← hn, ← Array.length_toList]
  have nd2 : (sortU ns).Nodup := (sortU_srt (l := ns)).imp fun {x y} z e => by omega
  have h1 := nat_len nd nd2 fun x hx => mem_sortU.mpr (of_decide_eq_true ((hm x).mpr hx))
  have h2 := nat_len nd2 nd fun x hx => (hm x).mp (decide_eq_true (mem_sortU.mp hx))
  rw [List.length_map] at h1 h2
  omega
def rLenSet (w : World) : List V → Hp → VK → Prop := fun vs H Q => ∃ (a : Addr) (ns : List Int) (n : Nat), vs = [V.ref a] ∧ H a = some (SetO w a (fun j => decide (j ∈ ns)) n) ∧ ns.length < 63 ∧ Q (.int (sortU ns).length) H
theorem cr_lenSet : CallR X (.builtin "len") (rLenSet X.w) := by
  intro pins s σ H vs us Q I r h
  obtain ⟨a, ns, n, rfl, ha, hl, q⟩ := h
  have R := setO_get I ha
  rw [Vals.ref1 r]
  have e := setR_len R
  obtain ⟨o, es, ep, t, ho, hex, hd, g, nd, hm, hb, hf, hn, hr, _⟩ := R
  have := sortU_len (l := ns)
  exact call_len_set ho hex hd hf (by omega) ⟨.int (sortU ns).length, H, I.tok _, ⟨_, by rw [hn, e]⟩, q⟩
theorem bok_LS {K : PySem.W.Frag} {w : World} : BOk K0 (l1 fun x H Q => rSetI K w [x] H fun y H2 => rLenSet w [y] H2 Q) gLS := fun O H vs ds rs Q hO hv hg k => by
  unfold gLS at hg
  split at hg
  · obtain ⟨v, rfl, h1⟩ := vws_one hv
    split at hg
    · rename_i xs e
      split at hg
      · rename_i ns e2
        obtain ⟨hl, rfl⟩ := ite_some hg
        obtain ⟨l, rfl, hs⟩ := seq_vw (K := K) h1 e e2
        exact ⟨_, rfl, l, ns, rfl, hs, hl, fun p c hp hc => ⟨p, _, _, rfl, upd_same, hl, k _ _ _ (Alc.data hp) (.int _)⟩⟩
      · cases hg
    · cases hg
  · cases hg
theorem de_lenSet {ya : Mo Vd} {p p2 pos2 : Pos} (hc : X.calm = true) (hm : X.mg "len" = none) (hm2 : X.mg "set" = none) (ha : PE X a (rdV K0 c ya)) (hg : Gl X "len" := by rfl) (hg2 : Gl X "set" := by rfl)
    (na : starEach [.Call (.Name "set" p2) [a] [] pos2] X.env = (false, eval (.Call (.Name "set" p2) [a] [] pos2) X.env) :: starEach [] X.env := by rfl) (na2 : starEach [a] X.env = (false, eval a X.env) :: starEach [] X.env := by rfl) :
    PE X (.Call (.Name "len" p) [.Call (.Name "set" p2) [a] [] pos2] [] pos) (rd K0 c (xB gLS (vCons ya vNil))) :=
  pe_imp (pe_callB cr_lenSet hg hm bb_len (pa_cons (pe_callTy (cr_setI hc) hg2 hm2 bb_set (pa_cons ha pa_nil na2) (he := na2)) pa_nil na) (he := na)) fun σ H Q h => one (bok_LS (K := X.K) (w := X.w)) h
end
end Dl
end

section
set_option Elab.async false
set_option linter.all false
set_option maxRecDepth 100000
namespace Dl
open PySem PySem.Spec PyProof.Rows L2
/-! enumerate of a list or a tuple -/
abbrev enO (it : Addr) : Obj := { cls := .type "enumerate", data := .fields #[.none, .bool false, .ref it, rawInt 0, .none, .none] }
set_option maxHeartbeats 1000000 in
theorem enum_new1 {v : Value} {o : Obj} {H : Heap → Prop} (B : Begins v o H) :
    Meets (Builtin.«enumerate.__new__» ⟨[.type "enumerate", v], []⟩) (fun _ R s => H s.heap ∧ R (.ok (.ret (.ref (s.heap.push o).objs.size))) { s with heap := (s.heap.push o).push (enO s.heap.objs.size) }) :=
  .of_wp fun prog w A R s h => by
    obtain ⟨hp, g, d, tk, os⟩ := s
    obtain ⟨h1, h⟩ := h
    have d1 := sub_enumerate
    have qq : ∀ {B : Around} {E : Value → Shared → Prop} {Q : Value → Shared → Prop}, Q (.ref hp.objs.size) ⟨hp.push o, g, d, tk, os⟩ → wpAny (model prog w) B (pyIter v) Q E ⟨hp, g, d, tk, os⟩ := fun q => B.iter prog w _ _ ⟨hp, g, d, tk, os⟩ _ h1 q
    wp_walk using qq
    refine wpAny_stack_any fun st => wpAny_pure ?_
    split
    · rename_i c _ _ _ _ _
      cases (c == Value.type "enumerate") <;> (wp_walk using qq; exact ⟨_, rfl, h⟩)
    · wp_walk using qq
      exact ⟨_, rfl, h⟩
section
variable {prog : Program} {w : World} {A : Around} {E : Value → Shared → Prop} {s : Shared}
theorem enum_call1 {v : Value} {o : Obj} {H : Heap → Prop} {Q : Value → Shared → Prop} (B : Begins v o H) (h1 : H s.heap)
    (h : ∀ g, IsEnum g (s.heap.objs.size + 1) s.heap.objs.size 0 .none → g.get? s.heap.objs.size = some o → (∀ b o, s.heap.get? b = some o → g.get? b = some o) → Q (.ref (s.heap.objs.size + 1)) { s with heap := g }) :
    wpAny (model prog w) A (call (.type "enumerate") [v]) Q E s := by
  refine callType_new F.called_enumerate (by decide) (F.typeCall_enumerate_1 _) (F.newCall_enumerate_1 _) (fun obj => F.args_object_init_2 obj _) F.entry_enumerate_new (enum_new1 B) ⟨h1, ?_⟩
  have hz : (s.heap.push o).objs.size = s.heap.objs.size + 1 := Heap.size_push ..
  show _ ∧ _
  rw [hz]
  have he : IsEnum ((s.heap.push o).push (enO s.heap.objs.size)) (s.heap.objs.size + 1) s.heap.objs.size 0 .none := by
    have q := Heap.get?_push_size (s.heap.push o) (o := enO s.heap.objs.size) rfl
    rw [hz] at q; exact q
  exact ⟨⟨_, he, rfl⟩, h _ he (Heap.get?_push_of_some _ (Heap.get?_push_size _ B.free)) fun b o x => Heap.get?_push_of_some _ (Heap.get?_push_of_some _ x)⟩
end
def ItE (k : Bool) (a : Addr) : It :=
  ⟨fun i H => ∃ (xs : List V) (x : V), Rd H a (oK k xs) ∧ xs[i]? = some x,
    fun i H v H' => ∃ T x, v = .ref T ∧ H T = none ∧ H' = upd H T (.tup [.int (i : Nat), x]) ∧ ∀ xs, Rd H a (oK k xs) → xs[i]? = some x,
    fun i H => ∃ xs : List V, Rd H a (oK k xs) ∧ i = xs.length⟩
theorem turn_E {P : Program} {w : World} {K : PySem.W.Frag} {elts : List Expr} {kk : Nat} {tpos : Pos} {k : Bool} {a e it : Addr} (d1 : e ≠ it) :
    Turn P w K (.Tuple elts kk tpos) (ItE k a) [e, it] e (fun i h => (∃ old, IsEnum h e it ((0 : Int) + (i : Int)) old) ∧ iK k h it a i) where
  mem := by simp
  obj := fun i h st c hc => by
    obtain ⟨⟨old, he⟩, hi⟩ := st
    have e' : c = e ∨ c = it := by simpa using hc
    rcases e' with rfl | rfl
    · exact ⟨_, he, fun v q => nomatch q⟩
    · exact iK_get hi
  keep := fun i h h' st k => by
    obtain ⟨⟨old, he⟩, hi⟩ := st
    exact ⟨⟨old, k e (by simp) _ he⟩, iK_at hi fun o q => k it (by simp) o q⟩
  item := by
    intro X hP hw hK hc i pins s σ H E I hf st hg
    subst hP hw hK
    obtain ⟨xs, x, hq, hx⟩ := hg
    obtain ⟨its, rv, p, _⟩ := rdK_of I hq
    obtain ⟨u, hu, ru⟩ := rv.get hx
    have na : ∀ c ∈ [e, it], c ≠ a := fun c hm z => rdK_some hq (by rw [← z]; exact (hf c hm).1)
    have n1 := na e (by simp); have n2 := na it (by simp)
    have hh : X.A.in1.handled = none := I.ok.hd hc
    have G := GoesN.enumFrom (prog := X.prog) (w := X.w) (A := X.A) (elts := elts) (x1 := kk) (pos := tpos) 0 (draws_K hh k it a n2.symm its.toArray) e d1 (by simp; exact ⟨d1, n1⟩) (by simp)
    have hl : i < its.toArray.size := by
      have := List.getElem?_eq_some_iff.mp hu
      simpa using this.1
    obtain ⟨he, hi⟩ := st
    refine G.goes i s (fun v s2 => ∃ xx H', Inv X pins σ H' s2 ∧ RelV xx v ∧ (ItE k a).yld i H xx H' ∧ _ ∧ ∀ c ∈ [e, it], H' c = none) E hl ⟨he, hi, p⟩ fun v h' tk Y st' hk _ => ?_
    obtain ⟨T, t, y, rfl, hT, e1, hTup⟩ := Y
    have ey : y = u := by
      have : its.toArray[i]? = some u := by simpa using hu
      rw [this] at e1; exact (Option.some.inj e1).symm
    subst ey
    obtain ⟨he', hi', _⟩ := st'
    have new : ObjOk X.prog X.w (upd H T (.tup [.int (i : Nat), x])) h' T (.tup [.int (i : Nat), x]) := ⟨by show 2 ≤ sizeLine; decide, [.int ((0 : Int) + (i : Int)) t, y], .cons ⟨t, by show Value.int ((0 : Int) + (i : Int)) t = Value.int (i : Nat) t; rw [Int.zero_add]⟩ (.cons ru .nil), hTup⟩
    have I1 : Inv X pins σ (upd H T (.tup [.int (i : Nat), x])) { s with heap := h', toks := tk } := I.turnedNew (t' := tk) (ch := [e, it]) (fun c o hb q => hk c o (fun hm => hb (by simp at hm ⊢; rcases hm with z | z <;> simp [z])) q) hf hT new
    refine ⟨.ref T, _, I1, rfl, ⟨T, x, rfl, I.hok.fresh hT, rfl, fun l hl => by rw [rdK_inj hl hq]; exact hx⟩, ⟨he', hi'⟩, fun c hm => ?_⟩
    have lt : c < s.heap.objs.size := by
      have e' : c = e ∨ c = it := by simpa using hm
      rcases e' with rfl | rfl
      · obtain ⟨_, z⟩ := he; exact Heap.lt_size z
      · obtain ⟨_, z, _⟩ := iK_get hi; exact Heap.lt_size z
    rw [upd_ne (Nat.ne_of_lt (Nat.lt_of_lt_of_le lt hT))]
    exact (hf c hm).1
  done := by
    intro X hP hw hK hc i pins s σ H E I hf st hg
    subst hP hw hK
    obtain ⟨xs, hq, hi0⟩ := hg
    obtain ⟨its, rv, p, _⟩ := rdK_of I hq
    have na : ∀ c ∈ [e, it], c ≠ a := fun c hm z => rdK_some hq (by rw [← z]; exact (hf c hm).1)
    have n1 := na e (by simp); have n2 := na it (by simp)
    have hh : X.A.in1.handled = none := I.ok.hd hc
    have G := GoesN.enumFrom (prog := X.prog) (w := X.w) (A := X.A) (elts := elts) (x1 := kk) (pos := tpos) 0 (draws_K hh k it a n2.symm its.toArray) e d1 (by simp; exact ⟨d1, n1⟩) (by simp)
    obtain ⟨he, hi⟩ := st
    have en : i = its.toArray.size := by rw [hi0, rv.length]; simp
    subst en
    exact G.stops s (fun s1 => Inv X pins σ H s1) E ⟨he, hi, p⟩ fun h' tk hk _ => I.turnedL (t' := tk) (ch := [e, it]) (fun c o hb q => hk c o (fun hm => hb (by simp at hm ⊢; rcases hm with z | z <;> simp [z])) q) hf
  self := fun A i s Q E st h => by
    obtain ⟨⟨old, he⟩, _⟩ := st
    exact wpAny_pyIter_enum he h
def iEn2 (ta : TA) : TI := fun σ H R => ta σ H fun vs H1 => ∃ a k xs, vs = [.ref a] ∧ Rd H1 a (oK k xs) ∧ R (ItE k a) H1
theorem pi_en2 {X : Cx} {e : Expr} {ta : TA} {p pos tpos : Pos} {elts : List Expr} {kk : Nat} (hg : Gl X "enumerate") (hm : X.mg "enumerate" = none) (ha : PA X [e] ta) (hs : starEach [e] X.env = [(false, eval e X.env)] := by rfl) :
    PI X (.Tuple elts kk tpos) (.Call (.Name "enumerate" p) [e] [] pos) (iEn2 ta) := by
  refine ⟨fun pins s σ H R I h => Call_ (ld_blt I hg hm boot_enumerate (PyProof.Rows.callWith_type1 (thn (ha.run pos pins s σ H _ I h) fun us s1 ⟨vs, H1, I1, r1, q1⟩ => ?_) hs rfl))⟩
  obtain ⟨a, k, xs, rfl, hx, q⟩ := q1
  cases r1 with
  | cons r rr =>
    cases rr
    cases r
    obtain ⟨its, rv, p1, o1, e1⟩ := rdK_of I1 hx
    refine enum_call1 (begins_K k a its.toArray) p1 fun h' he hit hk => wpAny_pyIter_enum he ?_
    have I2 : Inv X pins σ H1 { s1 with heap := h' } := I1.kept (t' := s1.toks) hk
    refine ⟨s1.heap.objs.size + 1, [s1.heap.objs.size + 1, s1.heap.objs.size], _, ItE k a, H1, rfl, I2, turn_E (Nat.succ_ne_self _), ⟨⟨.none, he⟩, iK_new hit⟩, fun b hb => ?_, q⟩
    have e' : b = s1.heap.objs.size + 1 ∨ b = s1.heap.objs.size := by simpa using hb
    have hle : s1.heap.objs.size ≤ b := by
      rcases e' with z | z <;> (rw [z]; first | exact Nat.le_add_right _ _ | exact Nat.le_refl _)
    exact I1.fpOk hle (I1.hok.fresh hle)
theorem it_en2 {c : Ct} {σ : L2.St} {ρ : En} {H : Hp} {O : OS} {k : Bool} {a : Addr} {vs : List V} {ds : List PyData} (hR : Rd H a (oK k vs)) (hd : DpAll K0 (hid O H) vs ds) (hn : ¬ Own σ ρ a) : ItOk c σ ρ H O (ItE k a) (enumD 0 ds) := fun H2 O2 fr sm hO2 => by
  have r2 : Rd H2 a (oK k vs) := rd_stay hR fun o e => fr a o e hn
  have d2 := dpAll_mono sm hd
  refine ⟨⟨vs, r2, by rw [enumD_len, dpAll_len hd]⟩, fun i d hi => ?_⟩
  obtain ⟨x, hx, rfl⟩ := enumD_get ds 0 i d hi
  obtain ⟨v, hv, hdv⟩ := dpAll_getD d2 hx
  refine ⟨⟨vs, v, r2, hv⟩, fun t H3 y => ?_⟩
  obtain ⟨T, x', rfl, nT, rfl, f1⟩ := y
  have z1 := f1 vs r2
  rw [hv] at z1; cases z1
  rw [Nat.zero_add]
  exact ⟨Alc.data nT, tup_new hO2 nT (.cons (.int _) (.cons hdv .nil))⟩
def zEn2 (ys : Mo (List Vd)) : Mo (List PyData × Option Nat) := bnd ys fun as ρ => match dts as with
  | some [a] => match zZip.lt2D a with
    | some xs => some (.val (enumD 0 xs, none), ρ)
    | none => none
  | _ => none
section
variable {X : Cx} {c : Ct} {e e2 : Expr} {p pos tpos : Pos} {elts : List Expr} {kk : Nat} {ys : Mo (List Vd)}
theorem di_en2 (hm : X.mg "enumerate" = none) (ha : PA X [e] (rdVs K0 c ys)) (hg : Gl X "enumerate" := by rfl) (hs : starEach [e] X.env = [(false, eval e X.env)] := by rfl) :
    PI X (.Tuple elts kk tpos) (.Call (.Name "enumerate" p) [e] [] pos) (rdJ c (zEn2 ys)) := pi_imp (pi_en2 hg hm ha hs) fun σ H R ⟨O, ρ, L, q⟩ => ⟨O, ρ, L, by
  refine PostG.bind mn_J L q fun as ρ1 vs H1 O1 _ s L1 q1 k k0 => ?_
  clear k0
  split at k
  · rename_i a ed
    have hd := dts_ok q1 ed
    split at k
    · rename_i xs ex
      cases hd with
      | cons h1 hr =>
        cases hr
        obtain ⟨a1, k1, us, rfl, r1, d1⟩ := dp_seq h1 ex
        exact ⟨a1, k1, us, rfl, rd_hid r1, k.at L1 ⟨trivial, it_en2 (rd_hid r1) d1 (dp_notown (K := K0) L1 r1)⟩⟩
    · exact k.elim
  · exact k.elim⟩
end
end Dl
end

section
set_option Elab.async false
set_option linter.all false
set_option maxRecDepth 100000
/-! the pure layer: what a value function gives, told of its ends; equations for simp, read from the front -/
namespace Dl
open PySem PySem.Spec PyProof.Rows L2
/-- a sign that hangs on what shall not be looked into -/
inductive Tag {α : Sort _} (a : α) : Type where
  | mk : Tag a
@[irreducible] def gv {α : Type} (o : Option α) (Q : α → Prop) (_ : Tag Q := .mk) : Prop := match o with
  | some a => Q a
  | none => False
abbrev XQ (β : Type) := Nat → List (Str × PyData) → β → Prop
@[irreducible] def wp {α β : Type} (o : Option (Out α × β)) (Q : α → β → Prop) (X : XQ β) (_ : Tag Q := .mk) (_ : Tag X := .mk) : Prop := match o with
  | some (.val a, ρ) => Q a ρ
  | some (.ex n fs, ρ) => X n fs ρ
  | none => False
/-- no error -/
abbrev nX {β : Type} : XQ β := fun _ _ _ => False
/-- the names as they stand: written out ahead of what comes -/
def stE (ρ : En) (k : En → Prop) (_ : Tag k := .mk) : Prop := k ρ
theorem stE_e {ρ : En} {k : En → Prop} : stE ρ k = k ρ := by with_unfolding_all rfl
section
variable {α β γ : Type} {ρ : En} {j i : Nat} {X : XQ En} {Q : α → En → Prop} {QR : Rs → En → Prop} {QF : Fl → En → Prop} {QB : Bool → En → Prop} {QV : Vd → En → Prop} {QL : List Vd → En → Prop} {QD : PyData → En → Prop}
theorem gv_some {a : α} {Q : α → Prop} : gv (some a) Q = Q a := by with_unfolding_all rfl
theorem gv_none {Q : α → Prop} : gv (none : Option α) Q = False := by with_unfolding_all rfl
theorem gv_of {o : Option α} {a : α} {Q : α → Prop} (h : o = some a) (k : Q a) : gv o Q := by rw [h, gv_some]; exact k
theorem gv_eq {o : Option α} {Q : α → Prop} (h : gv o Q) : ∃ a, o = some a ∧ Q a := by
  unfold gv at h
  split at h
  · exact ⟨_, rfl, h⟩
  · exact h.elim
theorem gv_mono {o : Option α} {Q Q' : α → Prop} (h : gv o Q) (i : ∀ a, Q a → Q' a) : gv o Q' := by
  obtain ⟨a, e, q⟩ := gv_eq h
  exact gv_of e (i _ q)
theorem wp_val {a : α} {ρ : β} {Q : α → β → Prop} {X : XQ β} : wp (some (.val a, ρ)) Q X = Q a ρ := by with_unfolding_all rfl
theorem wp_none {Q : α → β → Prop} {X : XQ β} : wp (none : Option (Out α × β)) Q X = False := by with_unfolding_all rfl
theorem wp_ex {n : Nat} {fs : List (Str × PyData)} {ρ : β} {Q : α → β → Prop} {X : XQ β} : wp (some (.ex n fs, ρ)) Q X = X n fs ρ := by with_unfolding_all rfl
theorem wp_mono {o : Option (Out α × β)} {Q Q' : α → β → Prop} {X X' : XQ β} (h : wp o Q X) (i : ∀ a ρ, Q a ρ → Q' a ρ) (k : ∀ n fs ρ, X n fs ρ → X' n fs ρ) : wp o Q' X' := by
  unfold wp at h ⊢
  split at h
  · exact i _ _ h
  · exact k _ _ _ h
  · exact h.elim
theorem wp_nx {o : Option (Out α × β)} {Q Q' : α → β → Prop} {X' : XQ β} (h : wp o Q nX) (i : ∀ a ρ, Q a ρ → Q' a ρ) : wp o Q' X' := wp_mono h i fun _ _ _ e => e.elim
theorem wp_eq {o : Option (Out α × β)} {Q : α → β → Prop} (h : wp o Q nX) : ∃ a ρ, o = some (.val a, ρ) ∧ Q a ρ := by
  unfold wp at h
  split at h
  · exact ⟨_, _, rfl, h⟩
  · exact h.elim
  · exact h.elim
theorem wp_of {o : Option (Out α × β)} {Q : α → β → Prop} {X : XQ β} {a : α} {ρ : β} (e : o = some (.val a, ρ)) (h : Q a ρ) : wp o Q X := by rw [e, wp_val]; exact h
theorem wp_ofX {o : Option (Out α × β)} {Q : α → β → Prop} {X : XQ β} {n : Nat} {fs} {ρ : β} (e : o = some (.ex n fs, ρ)) (h : X n fs ρ) : wp o Q X := by rw [e, wp_ex]; exact h
theorem wp_cq {o : Option (Out α × β)} {Q Q' : α → β → Prop} {X : XQ β} (h : ∀ a ρ, Q a ρ = Q' a ρ) : wp o Q X = wp o Q' X := by
  have e : Q = Q' := funext fun a => funext fun ρ => h a ρ
  subst e; with_unfolding_all rfl
theorem wp_ret {a : α} : wp (ret a ρ) Q X = Q a ρ := by with_unfolding_all rfl
theorem wp_bnd {x : Mo γ} {k : γ → Mo α} : wp (bnd x k ρ) Q X = wp (x ρ) (fun a ρ' => wp (k a ρ') Q X) X := by
  unfold bnd
  match x ρ with
  | none => with_unfolding_all rfl
  | some (.val a, ρ') => with_unfolding_all rfl
  | some (.ex n fs, ρ') => with_unfolding_all rfl
theorem wp_lft {o : Option α} : wp (lft o ρ) Q X = gv o fun a => Q a ρ := by cases o <;> with_unfolding_all rfl
theorem wp_eD {x : Mo Rs} : wp (eD x ρ) QD X = wp (x ρ) (fun r ρ' => gv r.asD fun d => QD d ρ') X := by
  unfold eD; rw [wp_bnd]; exact wp_cq fun _ _ => wp_lft
theorem wp_oE {x : Mo Rs} : wp (oE x ρ) QV X = wp (x ρ) (fun r ρ' => gv r.asD fun d => QV (.dt d) ρ') X := by
  unfold oE; rw [wp_bnd, wp_eD]; with_unfolding_all rfl
theorem wp_oN : wp (oN j ρ) QV X = gv ρ[j]? fun s => isPl s = true ∧ QV (.pl j) ρ := by
  unfold oN
  cases ρ[j]? with
  | none => with_unfolding_all rfl
  | some s =>
    simp only [gv]
    by_cases h : isPl s = true
    · rw [if_pos h, wp_val]; exact propext ⟨fun q => ⟨h, q⟩, fun q => q.2⟩
    · rw [if_neg h, wp_none]; exact propext ⟨fun q => q.elim, fun q => h q.1⟩
theorem wp_vNil : wp (vNil ρ) QL X = QL [] ρ := by with_unfolding_all rfl
theorem wp_vCons {y : Mo Vd} {ys : Mo (List Vd)} : wp (vCons y ys ρ) QL X = wp (y ρ) (fun a ρ1 => wp (ys ρ1) (fun as ρ2 => QL (a :: as) ρ2) X) X := by
  unfold vCons; rw [wp_bnd]; exact wp_cq fun _ _ => by rw [wp_bnd]; with_unfolding_all rfl
theorem wp_xB {g : List PyData → Option Rs} {ys : Mo (List Vd)} : wp (xB g ys ρ) QR X = wp (ys ρ) (fun as ρ' => gv (rsls ρ' as) fun ds => gv (g ds) fun r => QR r ρ') X := by
  unfold xB; rw [wp_bnd]
  refine wp_cq fun as ρ' => ?_
  cases rsls ρ' as with
  | none => with_unfolding_all rfl
  | some ds =>
    simp only [gv]
    cases g ds <;> with_unfolding_all rfl
theorem wp_xC {d : PyData} : wp (xC d ρ) QR X = QR (.dt d) ρ := by with_unfolding_all rfl
/-- a name read -/
def rdVar (j : Nat) (ρ : En) (Q : Rs → En → Prop) : Sl → Prop
  | .dat d => Q (.dt d) ρ
  | .own xs => stE (ρ.set j (.dat (.list xs))) (Q (.dt (.list xs)))
  | _ => False
theorem wp_xVar : wp (xVar j ρ) QR X = gv ρ[j]? (rdVar j ρ QR) := by
  unfold xVar
  cases ρ[j]? with
  | none => with_unfolding_all rfl
  | some s => cases s <;> with_unfolding_all rfl
theorem rdVar_dat {d : PyData} : rdVar j ρ QR (.dat d) = QR (.dt d) ρ := by with_unfolding_all rfl
theorem rdVar_own {d : List PyData} : rdVar j ρ QR (.own d) = stE (ρ.set j (.dat (.list d))) (QR (.dt (.list d))) := by with_unfolding_all rfl
theorem wp_xTst {x : Mo Rs} : wp (xTst x ρ) QB X = wp (x ρ) (fun r ρ' => gv (isB r) fun b => QB b ρ') X := by
  unfold xTst; rw [wp_bnd]; exact wp_cq fun _ _ => wp_lft
theorem wp_xTru {y : Mo Vd} : wp (xTru y ρ) QB X = wp (y ρ) (fun a ρ' => gv (rsl ρ' a) fun d => gv (truD d) fun b => QB b ρ') X := by
  unfold xTru; rw [wp_bnd]
  refine wp_cq fun a ρ' => ?_
  cases rsl ρ' a with
  | none => with_unfolding_all rfl
  | some d =>
    simp only [gv]
    cases truD d <;> with_unfolding_all rfl
theorem wp_tYes : wp (tYesX ρ) QB X = QB true ρ := by with_unfolding_all rfl
theorem wp_xNot {x : Mo Bool} : wp (xNot x ρ) QB X = wp (x ρ) (fun b ρ' => QB (!b) ρ') X := by
  unfold xNot; rw [wp_bnd]; with_unfolding_all rfl
theorem wp_ite {c : Prop} [Decidable c] {x y : Mo α} : wp ((if c then x else y) ρ) Q X = if c then wp (x ρ) Q X else wp (y ρ) Q X := by split <;> with_unfolding_all rfl
theorem wp_xAnd {x y : Mo Bool} : wp (xAnd x y ρ) QB X = wp (x ρ) (fun b ρ' => if b = true then wp (y ρ') QB X else QB false ρ') X := by
  unfold xAnd; rw [wp_bnd]; exact wp_cq fun _ _ => by rw [wp_ite]; with_unfolding_all rfl
theorem wp_xOr {x y : Mo Bool} : wp (xOr x y ρ) QB X = wp (x ρ) (fun b ρ' => if b = true then QB true ρ' else wp (y ρ') QB X) X := by
  unfold xOr; rw [wp_bnd]; exact wp_cq fun _ _ => by rw [wp_ite]; with_unfolding_all rfl
theorem wp_xIf {t : Mo Bool} {x y : Mo α} : wp (xIf t x y ρ) Q X = wp (t ρ) (fun b ρ' => if b = true then wp (x ρ') Q X else wp (y ρ') Q X) X := by
  unfold xIf; rw [wp_bnd]; exact wp_cq fun _ _ => by rw [wp_ite]
theorem wp_yIf {t : Mo Bool} {x y : Mo Fl} : wp (yIf t x y ρ) QF X = wp (t ρ) (fun b ρ' => if b = true then wp (x ρ') QF X else wp (y ρ') QF X) X := by
  unfold yIf; rw [wp_bnd]; exact wp_cq fun _ _ => by rw [wp_ite]
theorem wp_xOrV {x y : Mo Rs} : wp (xOrV x y ρ) QR X = wp (x ρ) (fun r ρ' => gv (truR r) fun b => if b = true then QR r ρ' else wp (y ρ') QR X) X := by
  unfold xOrV; rw [wp_bnd]
  refine wp_cq fun r ρ' => ?_
  cases truR r with
  | none => with_unfolding_all rfl
  | some b => cases b <;> with_unfolding_all rfl
theorem wp_xAndV {x y : Mo Rs} : wp (xAndV x y ρ) QR X = wp (x ρ) (fun r ρ' => gv (truR r) fun b => if b = true then wp (y ρ') QR X else QR r ρ') X := by
  unfold xAndV; rw [wp_bnd]
  refine wp_cq fun r ρ' => ?_
  cases truR r with
  | none => with_unfolding_all rfl
  | some b => cases b <;> with_unfolding_all rfl
theorem wp_xNotV {y : Mo Vd} : wp (xNotV y ρ) QR X = wp (y ρ) (fun a ρ' => gv (rsl ρ' a) fun d => gv (truD d) fun b => QR (.dt (.bool (!b))) ρ') X := by
  unfold xNotV; rw [wp_bnd, wp_xTru]; with_unfolding_all rfl
theorem wp_xTup {ys : Mo (List Vd)} : wp (xTup ys ρ) QR X = wp (ys ρ) (fun as ρ' => gv (dts as) fun ds => ds.length ≤ sizeLine ∧ QR (.dt (.tuple ds)) ρ') X := by
  unfold xTup xDsp; rw [wp_bnd]
  refine wp_cq fun as ρ' => ?_
  cases dts as with
  | none => with_unfolding_all rfl
  | some ds =>
    simp only [gv]
    by_cases h : ds.length ≤ sizeLine
    · rw [if_pos h, wp_ret]; exact propext ⟨fun q => ⟨h, q⟩, fun q => q.2⟩
    · rw [if_neg h, wp_lft, gv_none]; exact propext ⟨fun q => q.elim, fun q => h q.1⟩
theorem wp_xLst {ys : Mo (List Vd)} : wp (xLst ys ρ) QR X = wp (ys ρ) (fun as ρ' => gv (dts as) fun ds => ds.length ≤ sizeLine ∧ QR (.new ds) ρ') X := by
  unfold xLst xDsp; rw [wp_bnd]
  refine wp_cq fun as ρ' => ?_
  cases dts as with
  | none => with_unfolding_all rfl
  | some ds =>
    simp only [gv]
    by_cases h : ds.length ≤ sizeLine
    · rw [if_pos h, wp_ret]; exact propext ⟨fun q => ⟨h, q⟩, fun q => q.2⟩
    · rw [if_neg h, wp_lft, gv_none]; exact propext ⟨fun q => q.elim, fun q => h q.1⟩
theorem wp_sNo {Q : Option Int → En → Prop} : wp (sNo ρ) Q X = Q none ρ := by with_unfolding_all rfl
theorem wp_sAt {x : Mo Rs} {Q : Option Int → En → Prop} : wp (sAt x ρ) Q X = wp (x ρ) (fun r ρ' => gv r.asD fun d => gv (asI d) fun i => Q (some i) ρ') X := by
  unfold sAt oI; rw [wp_bnd, wp_bnd, wp_eD]
  refine wp_cq fun r ρ' => ?_
  cases r.asD with
  | none => with_unfolding_all rfl
  | some d => simp only [gv_some, wp_lft]; with_unfolding_all rfl
theorem wp_xSl {y : Mo Vd} {lo hi : Mo (Option Int)} : wp (xSl y lo hi ρ) QR X = wp (y ρ) (fun a ρ1 => wp (lo ρ1) (fun l ρ2 => wp (hi ρ2) (fun h ρ3 => gv (rsl ρ3 a) fun d => gv (gSl l h d) fun r => QR r ρ3) X) X) X := by
  unfold xSl; rw [wp_bnd]
  refine wp_cq fun a ρ1 => ?_
  rw [wp_bnd]
  refine wp_cq fun l ρ2 => ?_
  rw [wp_bnd]
  refine wp_cq fun h ρ3 => ?_
  cases rsl ρ3 a with
  | none => with_unfolding_all rfl
  | some d =>
    simp only [gv_some]
    cases gSl l h d <;> with_unfolding_all rfl
/-! statements -/
theorem wp_yPass : wp (yPass ρ) QF X = QF .nx ρ := by with_unfolding_all rfl
/-- behind a statement -/
def sq (z : Mo Fl) (QF : Fl → En → Prop) (X : XQ En) (f : Fl) (ρ : En) : Prop := match f with
  | .nx => wp (z ρ) QF X
  | f => QF f ρ
theorem wp_seq {y z : Mo Fl} : wp (ySeq y z ρ) QF X = wp (y ρ) (sq z QF X) X := by
  unfold ySeq
  match y ρ with
  | none => with_unfolding_all rfl
  | some (.val .nx, ρ') => with_unfolding_all rfl
  | some (.val .bk, ρ') => with_unfolding_all rfl
  | some (.val .ct, ρ') => with_unfolding_all rfl
  | some (.val (.rt r), ρ') => with_unfolding_all rfl
  | some (.ex n fs, ρ') => with_unfolding_all rfl
theorem sq_nx {z : Mo Fl} : sq z QF X .nx ρ = wp (z ρ) QF X := by with_unfolding_all rfl
theorem sq_rt {z : Mo Fl} {r : Rs} : sq z QF X (.rt r) ρ = QF (.rt r) ρ := by with_unfolding_all rfl
theorem sq_bk {z : Mo Fl} : sq z QF X .bk ρ = QF .bk ρ := by with_unfolding_all rfl
theorem sq_ct {z : Mo Fl} : sq z QF X .ct ρ = QF .ct ρ := by with_unfolding_all rfl
theorem wp_yExpr {x : Mo Rs} : wp (yExpr x ρ) QF X = wp (x ρ) (fun _ ρ' => QF .nx ρ') X := by
  unfold yExpr; rw [wp_bnd]; with_unfolding_all rfl
theorem wp_yRet {x : Mo Rs} : wp (yRet x ρ) QF X = wp (x ρ) (fun r ρ' => QF (.rt r) ρ') X := by
  unfold yRet; rw [wp_bnd]; with_unfolding_all rfl
def rtVar (j : Nat) (ρ : En) (Q : Fl → En → Prop) : Sl → Prop
  | .dat d => Q (.rt (.dt d)) ρ
  | .own xs => stE (ρ.set j .no) (Q (.rt (.new xs)))
  | .dct xs => stE (ρ.set j .no) (Q (.rt (.newd xs)))
  | _ => False
theorem wp_yRetV : wp (yRetV j ρ) QF X = gv ρ[j]? (rtVar j ρ QF) := by
  unfold yRetV
  cases ρ[j]? with
  | none => with_unfolding_all rfl
  | some s => cases s <;> with_unfolding_all rfl
theorem rtVar_dat {d : PyData} : rtVar j ρ QF (.dat d) = QF (.rt (.dt d)) ρ := by with_unfolding_all rfl
theorem rtVar_own {d : List PyData} : rtVar j ρ QF (.own d) = stE (ρ.set j .no) (QF (.rt (.new d))) := by with_unfolding_all rfl
theorem wp_ySet {x : Mo Rs} : wp (ySet i x ρ) QF X = wp (x ρ) (fun r ρ' => stE (ρ'.set i (slotOf r)) (QF .nx)) X := by
  unfold ySet; rw [wp_bnd]; with_unfolding_all rfl
theorem wp_yL {x : Mo α} : wp (yL j x ρ) Q X = gv ρ[j]? fun s => gv (lsl s) fun _ => wp (x ρ) Q X := by
  unfold yL
  cases ρ[j]? with
  | none => with_unfolding_all rfl
  | some s =>
    simp only [gv]
    cases lsl s <;> with_unfolding_all rfl
theorem wp_yD {x : Mo α} : wp (yD j x ρ) Q X = gv ρ[j]? fun s => match s with
    | .dat _ => wp (x ρ) Q X
    | _ => False := by
  unfold yD
  cases ρ[j]? with
  | none => with_unfolding_all rfl
  | some s => cases s <;> with_unfolding_all rfl
theorem wp_ySetI {xi xe : Mo Rs} : wp (ySetI j xi xe ρ) QF X = wp (xe ρ) (fun r ρ1 => gv r.asD fun d => wp (xi ρ1) (fun ri ρ2 => gv ri.asD fun di => gv ρ2[j]? fun s => gv (lsl s) fun xs => gv (asI di) fun n => gv (ixN xs.length n) fun k => stE (ρ2.set j (putL s (xs.set k d))) (QF .nx)) X) X := by
  unfold ySetI; rw [wp_bnd, wp_eD]
  refine wp_cq fun r ρ1 => ?_
  cases r.asD with
  | none => with_unfolding_all rfl
  | some d =>
    simp only [gv]
    rw [wp_bnd, wp_eD]
    refine wp_cq fun ri ρ2 => ?_
    cases ri.asD with
    | none => with_unfolding_all rfl
    | some di =>
      simp only [gv]
      cases ρ2[j]? with
      | none => with_unfolding_all rfl
      | some s =>
        simp only [gv]
        cases lsl s with
        | none => with_unfolding_all rfl
        | some xs =>
          simp only [gv]
          cases asI di with
          | none => with_unfolding_all rfl
          | some n =>
            simp only [gv]
            cases ixN xs.length n <;> with_unfolding_all rfl
theorem wp_xApp {x : Mo Rs} : wp (xApp j x ρ) QR X = wp (x ρ) (fun r ρ1 => gv r.asD fun d => gv ρ1[j]? fun s => gv (lsl s) fun xs => xs.length < sizeLine ∧ stE (ρ1.set j (putL s (xs ++ [d]))) (QR (.dt .none))) X := by
  unfold xApp; rw [wp_bnd, wp_eD]
  refine wp_cq fun r ρ1 => ?_
  cases r.asD with
  | none => with_unfolding_all rfl
  | some d =>
    simp only [gv]
    cases ρ1[j]? with
    | none => with_unfolding_all rfl
    | some s =>
      simp only [gv]
      cases lsl s with
      | none => with_unfolding_all rfl
      | some xs =>
        simp only [gv_some]
        by_cases h : xs.length < sizeLine
        · rw [if_pos h, wp_val]; exact propext ⟨fun q => ⟨h, q⟩, fun q => q.2⟩
        · rw [if_neg h, wp_none]; exact propext ⟨fun q => q.elim, fun q => h q.1⟩
theorem wp_xPopAt {x : Mo Rs} : wp (xPopAt j x ρ) QR X = wp (x ρ) (fun r ρ1 => gv r.asD fun d => gv ρ1[j]? fun s => gv (lsl s) fun xs => gv (asI d) fun i => (-(2 ^ 63) ≤ i ∧ i < 2 ^ 63) ∧ gv (seqIndex? i xs.length) fun k => gv xs[k]? fun e => stE (ρ1.set j (putL s (xs.eraseIdx k))) (QR (.dt e))) X := by
  unfold xPopAt; rw [wp_bnd, wp_eD]
  refine wp_cq fun r ρ1 => ?_
  cases r.asD with
  | none => with_unfolding_all rfl
  | some d =>
    simp only [gv]
    cases ρ1[j]? with
    | none => with_unfolding_all rfl
    | some s =>
      simp only [gv]
      cases lsl s with
      | none => with_unfolding_all rfl
      | some xs =>
        simp only [gv_some]
        cases asI d with
        | none => simp only [wp_none, gv_none]
        | some i =>
          simp only [gv_some]
          by_cases h : -(2 ^ 63) ≤ i ∧ i < 2 ^ 63
          · rw [if_pos h]
            cases seqIndex? i xs.length with
            | none => simp only [wp_none, gv_none, and_false]
            | some k =>
              simp only [gv_some]
              cases xs[k]? with
              | none => simp only [wp_none, gv_none, and_false]
              | some e =>
                simp only [gv_some, wp_val, stE_e]
                exact propext ⟨fun q => ⟨h, q⟩, fun q => q.2⟩
          · rw [if_neg h, wp_none]; exact propext ⟨fun q => q.elim, fun q => h q.1⟩
theorem wp_yAsg {tg : Tg} {x : Mo Rs} : wp (yAsg tg x ρ) QF X = wp (x ρ) (fun r ρ1 => gv r.asD fun d => gv (tg d ρ1) fun ρ2 => QF .nx ρ2) X := by
  unfold yAsg; rw [wp_bnd, wp_eD]
  refine wp_cq fun r ρ1 => ?_
  cases r.asD with
  | none => with_unfolding_all rfl
  | some d =>
    simp only [gv]
    cases tg d ρ1 <;> with_unfolding_all rfl
theorem wp_yPar {is : List Nat} {xs : Mo (List Rs)} : wp (yPar is xs ρ) QF X = wp (xs ρ) (fun rs ρ1 => stE (setAll ρ1 is rs) (QF .nx)) X := by
  unfold yPar; rw [wp_bnd]; with_unfolding_all rfl
theorem wp_rNil {Q : List Rs → En → Prop} : wp (rNil ρ) Q X = Q [] ρ := by with_unfolding_all rfl
theorem wp_rCons {x : Mo Rs} {xs : Mo (List Rs)} {Q : List Rs → En → Prop} : wp (rCons x xs ρ) Q X = wp (x ρ) (fun a ρ1 => wp (xs ρ1) (fun as ρ2 => Q (a :: as) ρ2) X) X := by
  unfold rCons; rw [wp_bnd]; exact wp_cq fun _ _ => by rw [wp_bnd]; with_unfolding_all rfl
def augQ (i : Nat) (g : List PyData → Option Rs) (d : PyData) (ρ : En) (QF : Fl → En → Prop) : Sl → Prop
  | .dat a => gv (g [a, d]) fun r => stE (ρ.set i (slotOf r)) (QF .nx)
  | _ => False
theorem augQ_dat {g : List PyData → Option Rs} {d a : PyData} : augQ i g d ρ QF (.dat a) = gv (g [a, d]) fun r => stE (ρ.set i (slotOf r)) (QF .nx) := by with_unfolding_all rfl
theorem wp_yAug {g : List PyData → Option Rs} {x : Mo Rs} : wp (yAug i g x ρ) QF X = wp (x ρ) (fun r ρ1 => gv r.asD fun d => gv ρ1[i]? (augQ i g d ρ1 QF)) X := by
  unfold yAug; rw [wp_bnd, wp_eD]
  refine wp_cq fun r ρ1 => ?_
  cases r.asD with
  | none => with_unfolding_all rfl
  | some d =>
    simp only [gv]
    cases ρ1[i]? with
    | none => with_unfolding_all rfl
    | some s =>
      cases s with
      | dat a =>
        rw [gv_some]
        simp only [augQ]
        cases g [a, d] <;> with_unfolding_all rfl
      | _ => with_unfolding_all rfl
/-! walks -/
def seqQ (ρ : En) (Q : List PyData × Option Nat → En → Prop) : Vd → Prop
  | .dt d => gv (seqD d) fun xs => Q (xs, none) ρ
  | .pl j => gv ρ[j]? fun s => match s with
    | .own xs | .bor xs => Q (xs, some j) ρ
    | s => gv (slD s) fun d => gv (seqD d) fun xs => Q (xs, none) ρ
def seqS (ρ : En) (j : Nat) (Q : List PyData × Option Nat → En → Prop) : Sl → Prop
  | .own xs | .bor xs => Q (xs, some j) ρ
  | .dat d => gv (seqD d) fun xs => Q (xs, none) ρ
  | _ => False
theorem seqS_own {Q : List PyData × Option Nat → En → Prop} {xs} : seqS ρ j Q (.own xs) = Q (xs, some j) ρ := by with_unfolding_all rfl
theorem seqS_bor {Q : List PyData × Option Nat → En → Prop} {xs} : seqS ρ j Q (.bor xs) = Q (xs, some j) ρ := by with_unfolding_all rfl
theorem seqS_dat {Q : List PyData × Option Nat → En → Prop} {d} : seqS ρ j Q (.dat d) = gv (seqD d) fun xs => Q (xs, none) ρ := by with_unfolding_all rfl
theorem wp_zSeqN {Q : List PyData × Option Nat → En → Prop} : wp (zSeq (oN j) ρ) Q X = gv ρ[j]? (seqS ρ j Q) := by
  unfold zSeq; rw [wp_bnd, wp_oN]
  cases h : ρ[j]? with
  | none => with_unfolding_all rfl
  | some s =>
    simp only [gv]
    cases s with
    | dat d =>
      simp only [isPl, true_and, h, lsl, slD, seqS]
      cases seqD d <;> with_unfolding_all rfl
    | own xs => simp only [isPl, true_and, h, lsl, seqS]; with_unfolding_all rfl
    | bor xs => simp only [isPl, true_and, h, lsl, seqS]; with_unfolding_all rfl
    | dct xs => simp only [isPl, true_and, h, lsl, slD, seqS]; with_unfolding_all rfl
    | no => simp [isPl, seqS]
    | hd => simp [isPl, seqS]
    | exc a b => simp [isPl, seqS]
theorem wp_zSeqE {x : Mo Rs} {Q : List PyData × Option Nat → En → Prop} : wp (zSeq (oE x) ρ) Q X = wp (x ρ) (fun r ρ' => gv r.asD fun d => gv (seqD d) fun xs => Q (xs, none) ρ') X := by
  unfold zSeq; rw [wp_bnd, wp_oE]
  refine wp_cq fun r ρ' => ?_
  cases r.asD with
  | none => with_unfolding_all rfl
  | some d =>
    simp only [gv]
    cases seqD d <;> with_unfolding_all rfl
def rg1 : List PyData → Option (List PyData)
  | [.int j] => if -(2 ^ 62) ≤ j ∧ j < 2 ^ 62 then some (rangeD 0 j.toNat) else none
  | _ => none
def rg2 : List PyData → Option (List PyData)
  | [.int i, .int j] => if (-(2 ^ 62) ≤ i ∧ i < 2 ^ 62) ∧ -(2 ^ 62) ≤ j ∧ j < 2 ^ 62 then some (rangeD i (j - i).toNat) else none
  | _ => none
theorem wp_zRg1 {ys : Mo (List Vd)} {Q : List PyData × Option Nat → En → Prop} : wp (zRg1 ys ρ) Q X = wp (ys ρ) (fun as ρ' => gv (rsls ρ' as) fun ds => gv (rg1 ds) fun xs => Q (xs, none) ρ') X := by
  unfold zRg1; rw [wp_bnd]
  refine wp_cq fun as ρ' => ?_
  cases rsls ρ' as with
  | none => with_unfolding_all rfl
  | some ds =>
    simp only [gv_some]
    rcases ds with _ | ⟨a, _ | ⟨b, r⟩⟩
    · with_unfolding_all rfl
    · cases a with
      | int j =>
        simp only [rg1]
        by_cases h : -(2 ^ 62) ≤ j ∧ j < 2 ^ 62
        · simp only [if_pos h, gv_some, wp_val]
        · simp only [if_neg h, gv_none, wp_none]
      | _ => with_unfolding_all rfl
    · cases a <;> with_unfolding_all rfl
theorem wp_zRg2 {ys : Mo (List Vd)} {Q : List PyData × Option Nat → En → Prop} : wp (zRg2 ys ρ) Q X = wp (ys ρ) (fun as ρ' => gv (rsls ρ' as) fun ds => gv (rg2 ds) fun xs => Q (xs, none) ρ') X := by
  unfold zRg2; rw [wp_bnd]
  refine wp_cq fun as ρ' => ?_
  cases rsls ρ' as with
  | none => with_unfolding_all rfl
  | some ds =>
    simp only [gv_some]
    rcases ds with _ | ⟨a, _ | ⟨b, _ | ⟨c, r⟩⟩⟩
    · with_unfolding_all rfl
    · cases a <;> with_unfolding_all rfl
    · cases a with
      | int i =>
        cases b with
        | int j =>
          simp only [rg2]
          by_cases h : (-(2 ^ 62) ≤ i ∧ i < 2 ^ 62) ∧ -(2 ^ 62) ≤ j ∧ j < 2 ^ 62
          · simp only [if_pos h, gv_some, wp_val]
          · simp only [if_neg h, gv_none, wp_none]
        | _ => with_unfolding_all rfl
      | _ => with_unfolding_all rfl
    · cases a <;> cases b <;> with_unfolding_all rfl
def lt2 : PyData → Option (List PyData)
  | .list xs => some xs
  | .tuple xs => some xs
  | _ => none
def zp2 : List PyData → Option (List PyData)
  | [a, b] => match lt2 a, lt2 b with
    | some xs, some ys => some (zipD xs ys)
    | _, _ => none
  | _ => none
theorem lt2_eq (d : PyData) : zZip.lt2D d = lt2 d := by cases d <;> with_unfolding_all rfl
theorem wp_zZip {ys : Mo (List Vd)} {Q : List PyData × Option Nat → En → Prop} : wp (zZip ys ρ) Q X = wp (ys ρ) (fun as ρ' => gv (dts as) fun ds => gv (zp2 ds) fun xs => Q (xs, none) ρ') X := by
  unfold zZip; rw [wp_bnd]
  refine wp_cq fun as ρ' => ?_
  cases dts as with
  | none => with_unfolding_all rfl
  | some ds =>
    simp only [gv_some]
    match ds with
    | [] => with_unfolding_all rfl
    | [_] => with_unfolding_all rfl
    | _ :: _ :: _ :: _ => with_unfolding_all rfl
    | [a, b] =>
      simp only [lt2_eq, zp2]
      cases lt2 a with
      | none => with_unfolding_all rfl
      | some xs =>
        simp only
        cases lt2 b <;> with_unfolding_all rfl
def en1 : List PyData → Option (List PyData)
  | [.list xs] => some (enumD 0 xs)
  | _ => none
theorem wp_zEnum {ys : Mo (List Vd)} {Q : List PyData × Option Nat → En → Prop} : wp (zEnum ys ρ) Q X = wp (ys ρ) (fun as ρ' => gv (dts as) fun ds => gv (en1 ds) fun xs => Q (xs, none) ρ') X := by
  unfold zEnum; rw [wp_bnd]
  refine wp_cq fun as ρ' => ?_
  cases dts as with
  | none => with_unfolding_all rfl
  | some ds =>
    simp only [gv_some]
    rcases ds with _ | ⟨a, _ | ⟨b, r⟩⟩
    · with_unfolding_all rfl
    · cases a <;> with_unfolding_all rfl
    · cases a <;> with_unfolding_all rfl
/-- behind a loop -/
def finQ (ρ : En) (h : Option Nat) (QF : Fl → En → Prop) (f : Fl) (ρ' : En) : Prop := match f with
  | .rt a => (h.isSome && (slotOf a).isOwn) = false ∧ stE (restO ρ h ρ') (QF (.rt a))
  | f => stE (restO ρ h ρ') (QF f)
theorem wp_yFor {z : Mo (List PyData × Option Nat)} {tg : Tg} {body : Mo Fl} : wp (yFor z tg body ρ) QF X = wp (z ρ) (fun a ρ' => stE (hideO ρ' a.2) fun ρ1 => wp (forX tg body a.1 ρ1) (finQ ρ' a.2 QF) (fun n fs ρ'' => stE (restO ρ' a.2 ρ'') (X n fs))) X := by
  unfold yFor; rw [wp_bnd]
  refine wp_cq fun a ρ' => ?_
  rw [stE_e]
  generalize forX tg body a.1 (hideO ρ' a.2) = o
  match o with
  | none => with_unfolding_all rfl
  | some (.val .nx, ρ') => with_unfolding_all rfl
  | some (.val .bk, ρ') => with_unfolding_all rfl
  | some (.val .ct, ρ') => with_unfolding_all rfl
  | some (.ex n fs, ρ') => with_unfolding_all rfl
  | some (.val (.rt r), ρ2) =>
    simp only [finF, wp_val, finQ]
    cases a.2.isSome && (slotOf r).isOwn
    · simp [wp_val, stE_e]
    · simp [wp_none]
theorem finQ_nx {h : Option Nat} {ρ0 : En} : finQ ρ0 h QF .nx ρ = stE (restO ρ0 h ρ) (QF .nx) := by with_unfolding_all rfl
theorem finQ_rt {h : Option Nat} {ρ0 : En} {a : Rs} : finQ ρ0 h QF (.rt a) ρ = ((h.isSome && (slotOf a).isOwn) = false ∧ stE (restO ρ0 h ρ) (QF (.rt a))) := by with_unfolding_all rfl
/-- one turn's end -/
def turnQ (k : En → Prop) (QF : Fl → En → Prop) (f : Fl) (ρ : En) : Prop := match f with
  | .nx => k ρ
  | .ct => k ρ
  | .bk => QF .nx ρ
  | .rt r => QF (.rt r) ρ
theorem turnQ_nx {k : En → Prop} : turnQ k QF .nx ρ = k ρ := by with_unfolding_all rfl
theorem turnQ_ct {k : En → Prop} : turnQ k QF .ct ρ = k ρ := by with_unfolding_all rfl
theorem turnQ_bk {k : En → Prop} : turnQ k QF .bk ρ = QF .nx ρ := by with_unfolding_all rfl
theorem turnQ_rt {k : En → Prop} {r : Rs} : turnQ k QF (.rt r) ρ = QF (.rt r) ρ := by with_unfolding_all rfl
theorem wp_forNil {tg : Tg} {body : Mo Fl} : wp (forX tg body [] ρ) QF X = QF .nx ρ := by with_unfolding_all rfl
theorem wp_forCons {tg : Tg} {body : Mo Fl} {d : PyData} {ds : List PyData} : wp (forX tg body (d :: ds) ρ) QF X = gv (tg d ρ) fun ρ1 => wp (body ρ1) (turnQ (fun ρ2 => wp (forX tg body ds ρ2) QF X) QF) X := by
  unfold forX
  cases tg d ρ with
  | none => with_unfolding_all rfl
  | some ρ1 =>
    simp only [gv]
    match body ρ1 with
    | none => with_unfolding_all rfl
    | some (.val .nx, ρ') => cases ds <;> with_unfolding_all rfl
    | some (.val .bk, ρ') => with_unfolding_all rfl
    | some (.val .ct, ρ') => cases ds <;> with_unfolding_all rfl
    | some (.ex n fs, ρ') => with_unfolding_all rfl
    | some (.val (.rt r), ρ') => with_unfolding_all rfl
/-- a loop by its invariant over what is left -/
theorem for_inv {tg : Tg} {body : Mo Fl} (I : List PyData → En → Prop) : ∀ (ds : List PyData) (ρ : En), I ds ρ → (∀ d ds ρ, I (d :: ds) ρ → gv (tg d ρ) fun ρ1 => wp (body ρ1) (turnQ (I ds) QF) X) → (∀ ρ, I [] ρ → QF .nx ρ) → wp (forX tg body ds ρ) QF X
  | [], ρ, h, _, e => by rw [wp_forNil]; exact e ρ h
  | d :: ds, ρ, h, s, e => by
    rw [wp_forCons]
    refine gv_mono (s d ds ρ h) fun ρ1 k => wp_mono k (fun f ρ2 q => ?_) fun _ _ _ q => q
    cases f with
    | nx => exact for_inv I ds ρ2 q s e
    | ct => exact for_inv I ds ρ2 q s e
    | bk => exact q
    | rt r => exact q
theorem wp_while0 {t : Mo Bool} {body : Mo Fl} {n : Nat} : wp (whileX t body (n + 1) ρ) QF X = wp (t ρ) (fun b ρ1 => if b = true then wp (body ρ1) (turnQ (fun ρ2 => wp (whileX t body n ρ2) QF X) QF) X else QF .nx ρ1) X := by
  rw [whileX]
  match t ρ with
  | none => with_unfolding_all rfl
  | some (.ex m fs, ρ1) => with_unfolding_all rfl
  | some (.val false, ρ1) => with_unfolding_all rfl
  | some (.val true, ρ1) =>
    simp only [wp_val, if_true]
    match body ρ1 with
    | none => with_unfolding_all rfl
    | some (.val .nx, ρ') => with_unfolding_all rfl
    | some (.val .bk, ρ') => with_unfolding_all rfl
    | some (.val .ct, ρ') => with_unfolding_all rfl
    | some (.ex n fs, ρ') => with_unfolding_all rfl
    | some (.val (.rt r), ρ') => with_unfolding_all rfl
/-- a comprehension -/
theorem wp_xLc {vs : List Nat} {z : Mo (List PyData × Option Nat)} {tg : Tg} {tt : Mo Bool} {x : Mo Rs} : wp (xLc vs z tg tt x ρ) QR X = wp (z ρ) (fun a ρ' => a.1.length ≤ sizeLine ∧ stE (wipeE (hideO ρ' a.2) vs) fun ρ1 => gv (lcX vs tg tt (eD x) a.1 ρ1) fun p => stE (restO ρ' a.2 (backE (hideO ρ' a.2) p.2 vs)) (QR (.new p.1))) X := by
  unfold xLc; rw [wp_bnd]
  refine wp_cq fun a ρ' => ?_
  rw [stE_e]
  by_cases h : a.1.length ≤ sizeLine
  · simp only [if_pos h]
    generalize lcX vs tg tt (eD x) a.1 (wipeE (hideO ρ' a.2) vs) = o
    cases o with
    | none => simp [wp_none, gv_none]
    | some p => simp only [gv_some, wp_val, h, true_and, stE_e]
  · simp only [if_neg h, wp_none]; exact propext ⟨fun q => q.elim, fun q => h q.1⟩
abbrev lcStep (vs : List Nat) (tg : Tg) (tt : Mo Bool) (el : Mo PyData) (d : PyData) (ρ : En) (K : Option PyData → En → Prop) : Prop := gv (tg d ρ) fun ρ1 => wp (tt ρ1) (fun b ρ2 => if b = true then wp (el ρ2) (fun x ρ3 => stE (wipeE ρ3 vs) (K (some x))) nX else stE (wipeE ρ2 vs) (K none)) nX
theorem lc_cons {vs : List Nat} {tg : Tg} {tt : Mo Bool} {el : Mo PyData} {d : PyData} {ds : List PyData} {Q : List PyData × En → Prop} : gv (lcX vs tg tt el (d :: ds) ρ) Q = lcStep vs tg tt el d ρ fun o ρ' => gv (lcX vs tg tt el ds ρ') fun p => Q (o.toList ++ p.1, p.2) := by
  rw [lcX]
  unfold lcStep
  cases tg d ρ with
  | none => with_unfolding_all rfl
  | some ρ1 =>
    simp only [gv_some]
    match tt ρ1 with
    | none => with_unfolding_all rfl
    | some (.ex m fs, ρ1) => with_unfolding_all rfl
    | some (.val false, ρ2) => simp [wp_val, stE_e]
    | some (.val true, ρ2) =>
      simp only [wp_val, if_true, stE_e]
      match el ρ2 with
      | none => with_unfolding_all rfl
      | some (.ex m fs, ρ1) => with_unfolding_all rfl
      | some (.val x, ρ3) =>
        simp only [wp_val, stE_e]
        cases lcX vs tg tt el ds (wipeE ρ3 vs) with
        | none => with_unfolding_all rfl
        | some p => with_unfolding_all rfl
theorem lc_nil {vs : List Nat} {tg : Tg} {tt : Mo Bool} {el : Mo PyData} {Q : List PyData × En → Prop} : gv (lcX vs tg tt el [] ρ) Q = Q ([], ρ) := by with_unfolding_all rfl
theorem lcStep_mono {vs : List Nat} {tg : Tg} {tt : Mo Bool} {el : Mo PyData} {d : PyData} {K K' : Option PyData → En → Prop} (h : lcStep vs tg tt el d ρ K) (i : ∀ o ρ, K o ρ → K' o ρ) : lcStep vs tg tt el d ρ K' := by
  refine gv_mono h fun ρ1 k => wp_mono k (fun b ρ2 q => ?_) fun _ _ _ q => q
  cases b
  · simp only [Bool.false_eq_true, if_false] at q ⊢; exact i _ _ q
  · simp only [if_true] at q ⊢
    exact wp_mono q (fun x ρ3 q => i _ _ q) fun _ _ _ q => q
/-- all items, nothing changed -/
theorem lc_map {vs : List Nat} {tg : Tg} {tt : Mo Bool} {el : Mo PyData} {ι : Type} {f : ι → PyData} {enc : ι → PyData} {ρ : En} {xs : List ι} {Q : List PyData × En → Prop} (h : ∀ a ∈ xs, lcStep vs tg tt el (enc a) ρ fun o ρ' => o = some (f a) ∧ ρ' = ρ) (k : Q (xs.map f, ρ)) : gv (lcX vs tg tt el (xs.map enc) ρ) Q := by
  induction xs generalizing Q with
  | nil => rw [List.map_nil, lc_nil]; exact k
  | cons a xs ih =>
    rw [List.map_cons, lc_cons]
    refine lcStep_mono (h a (by simp)) fun o ρ' q => ?_
    obtain ⟨e1, e2⟩ := q
    subst e1; subst e2
    exact ih (fun b m => h b (by simp [m])) k
/-- some items -/
theorem lc_filter {vs : List Nat} {tg : Tg} {tt : Mo Bool} {el : Mo PyData} {ι : Type} {f : ι → PyData} {enc : ι → PyData} {p : ι → Bool} {ρ : En} {xs : List ι} {Q : List PyData × En → Prop} (h : ∀ a ∈ xs, lcStep vs tg tt el (enc a) ρ fun o ρ' => o = (if p a = true then some (f a) else none) ∧ ρ' = ρ) (k : Q ((xs.filter p).map f, ρ)) : gv (lcX vs tg tt el (xs.map enc) ρ) Q := by
  induction xs generalizing Q with
  | nil => rw [List.map_nil, lc_nil]; exact k
  | cons a xs ih =>
    rw [List.map_cons, lc_cons]
    refine lcStep_mono (h a (by simp)) fun o ρ' q => ?_
    obtain ⟨e1, e2⟩ := q
    subst e1; subst e2
    refine ih (fun b m => h b (by simp [m])) ?_
    cases e : p a
    · simpa [e] using k
    · simpa [e] using k
/-- with a state that goes on: I i, i turns done -/
theorem lc_inv {vs : List Nat} {tg : Tg} {tt : Mo Bool} {el : Mo PyData} (I : List PyData → List PyData → En → Prop) : ∀ (ds : List PyData) (acc : List PyData) (ρ : En) (Q : List PyData × En → Prop), I ds acc ρ → (∀ d ds acc ρ, I (d :: ds) acc ρ → lcStep vs tg tt el d ρ fun o ρ' => I ds (acc ++ o.toList) ρ') → (∀ xs ρ, I [] (acc ++ xs) ρ → Q (xs, ρ)) → gv (lcX vs tg tt el ds ρ) Q
  | [], acc, ρ, Q, h, _, k => by rw [lc_nil]; exact k [] ρ (by simpa using h)
  | d :: ds, acc, ρ, Q, h, s, k => by
    rw [lc_cons]
    refine lcStep_mono (s d ds acc ρ h) fun o ρ' q => ?_
    exact lc_inv I ds (acc ++ o.toList) ρ' _ q s fun xs ρ h => k _ _ (by simpa using h)
/-! defs and calls -/
def endF (as : List Sl) (Q : Rs → List Sl → Prop) (f : Fl) (ρ : En) : Prop := match f with
  | .rt r => gv (outs as ρ) fun q => Q r q
  | .nx => gv (outs as ρ) fun q => Q (.dt .none) q
  | _ => False
theorem endF_rt {as : List Sl} {Q : Rs → List Sl → Prop} {r : Rs} : endF as Q (.rt r) ρ = gv (outs as ρ) fun q => Q r q := by with_unfolding_all rfl
theorem endF_nx {as : List Sl} {Q : Rs → List Sl → Prop} : endF as Q .nx ρ = gv (outs as ρ) fun q => Q (.dt .none) q := by with_unfolding_all rfl
theorem wp_fn {n N : Nat} {y : Mo Fl} {as : List Sl} {Q : Rs → List Sl → Prop} {X : XQ (List Sl)} (h : as.length = n) : wp (fnX n N y as) Q X = wp (y (as ++ List.replicate (N - n) .no)) (endF as Q) (fun n fs ρ => gv (outs as ρ) fun q => X n fs q) := by
  unfold fnX
  rw [if_pos h]
  generalize y (as ++ List.replicate (N - n) .no) = o
  match o with
  | none => with_unfolding_all rfl
  | some (.val .nx, ρ') =>
    simp only [wp_val, endF]
    cases outs as ρ' <;> with_unfolding_all rfl
  | some (.val .bk, ρ') => with_unfolding_all rfl
  | some (.val .ct, ρ') => with_unfolding_all rfl
  | some (.val (.rt r), ρ') =>
    simp only [wp_val, endF]
    cases outs as ρ' <;> with_unfolding_all rfl
  | some (.ex n fs, ρ') =>
    simp only [wp_ex]
    cases outs as ρ' <;> with_unfolding_all rfl
theorem wp_callD {f : Fx} {ys : Mo (List Vd)} : wp (xCallD f ys ρ) QR X = wp (ys ρ) (fun as ρ' => gv (dts as) fun ds => wp (f (ds.map .dat)) (fun r _ => QR r ρ') (fun n fs _ => X n fs ρ')) X := by
  unfold xCallD
  rw [wp_bnd]
  refine wp_cq fun as ρ' => ?_
  cases dts as with
  | none => with_unfolding_all rfl
  | some ds =>
    simp only [gv]
    match f (ds.map .dat) with
    | none => with_unfolding_all rfl
    | some (.val r, q) => with_unfolding_all rfl
    | some (.ex n fs, q) => with_unfolding_all rfl
theorem wp_callK {perm : List Nat} {f : Fx} {ys : Mo (List Vd)} : wp (xCallK perm f ys ρ) QR X = wp (ys ρ) (fun as ρ' => gv (dts as) fun ds => wp (f ((pick perm ds).map .dat)) (fun r _ => QR r ρ') (fun n fs _ => X n fs ρ')) X := by
  unfold xCallK
  rw [wp_bnd]
  refine wp_cq fun as ρ' => ?_
  cases dts as with
  | none => with_unfolding_all rfl
  | some ds =>
    simp only [gv]
    match f ((pick perm ds).map .dat) with
    | none => with_unfolding_all rfl
    | some (.val r, q) => with_unfolding_all rfl
    | some (.ex n fs, q) => with_unfolding_all rfl
def newQ (f : Fx) (ρ : En) (QR : Rs → En → Prop) (X : XQ En) : Rs → Prop
  | .new xs => wp (f [.bor xs]) (fun r _ => QR r ρ) (fun n fs _ => X n fs ρ)
  | _ => False
theorem newQ_new {f : Fx} {xs : List PyData} : newQ f ρ QR X (.new xs) = wp (f [.bor xs]) (fun r _ => QR r ρ) (fun n fs _ => X n fs ρ) := by with_unfolding_all rfl
theorem wp_callN {f : Fx} {x : Mo Rs} : wp (xCallN f x ρ) QR X = wp (x ρ) (fun r ρ' => newQ f ρ' QR X r) X := by
  unfold xCallN
  rw [wp_bnd]
  refine wp_cq fun r ρ' => ?_
  cases r with
  | dt d => with_unfolding_all rfl
  | newd d => with_unfolding_all rfl
  | new xs =>
    simp only [newQ]
    match f [.bor xs] with
    | none => with_unfolding_all rfl
    | some (.val r, q) => with_unfolding_all rfl
    | some (.ex n fs, q) => with_unfolding_all rfl
/-- the list of a def's borrowed argument -/
def borE (j : Nat) (s : Sl) (ρ : En) (k : En → Prop) (q : List Sl) : Prop := match q with
  | .bor ys :: _ => stE (ρ.set j (putL s ys)) k
  | _ => False
theorem borE_ok {s : Sl} {k : En → Prop} {ys : List PyData} {q : List Sl} : borE j s ρ k (.bor ys :: q) = stE (ρ.set j (putL s ys)) k := by with_unfolding_all rfl
def borQ (j : Nat) (f : Fx) (ρ : En) (QR : Rs → En → Prop) (X : XQ En) : List Vd → Prop
  | .pl i :: r => i = j ∧ gv (dts r) fun ds => gv ρ[j]? fun s => gv (lsl s) fun xs => wp (f (.bor xs :: ds.map .dat)) (fun r q => borE j s ρ (QR r) q) (fun n fs q => borE j s ρ (X n fs) q)
  | _ => False
theorem borQ_pl {f : Fx} {i : Nat} {r : List Vd} : borQ j f ρ QR X (.pl i :: r) = (i = j ∧ gv (dts r) fun ds => gv ρ[j]? fun s => gv (lsl s) fun xs => wp (f (.bor xs :: ds.map .dat)) (fun r q => borE j s ρ (QR r) q) (fun n fs q => borE j s ρ (X n fs) q)) := by with_unfolding_all rfl
theorem wp_callB {f : Fx} {ys : Mo (List Vd)} : wp (xCallB j f ys ρ) QR X = wp (ys ρ) (fun as ρ' => borQ j f ρ' QR X as) X := by
  unfold xCallB
  rw [wp_bnd]
  refine wp_cq fun as ρ' => ?_
  match as with
  | [] => with_unfolding_all rfl
  | .dt _ :: _ => with_unfolding_all rfl
  | .pl i :: r =>
    simp only [borQ]
    by_cases e : i = j
    · simp only [if_pos e, e, true_and]
      cases dts r with
      | none => with_unfolding_all rfl
      | some ds =>
        simp only [gv_some]
        cases ρ'[j]? with
        | none => with_unfolding_all rfl
        | some s =>
          simp only [gv_some]
          cases lsl s with
          | none => with_unfolding_all rfl
          | some xs =>
            simp only [gv_some]
            match f (.bor xs :: ds.map .dat) with
            | none => with_unfolding_all rfl
            | some (.val r, .bor ys :: _) => with_unfolding_all rfl
            | some (.ex n fs, .bor ys :: _) => with_unfolding_all rfl
            | some (.val r, []) => with_unfolding_all rfl
            | some (.ex n fs, []) => with_unfolding_all rfl
            | some (.val r, .no :: _) => with_unfolding_all rfl
            | some (.val r, .hd :: _) => with_unfolding_all rfl
            | some (.val r, .dat _ :: _) => with_unfolding_all rfl
            | some (.val r, .own _ :: _) => with_unfolding_all rfl
            | some (.val r, .dct _ :: _) => with_unfolding_all rfl
            | some (.val r, .exc _ _ :: _) => with_unfolding_all rfl
            | some (.ex n fs, .no :: _) => with_unfolding_all rfl
            | some (.ex n fs, .hd :: _) => with_unfolding_all rfl
            | some (.ex n fs, .dat _ :: _) => with_unfolding_all rfl
            | some (.ex n fs, .own _ :: _) => with_unfolding_all rfl
            | some (.ex n fs, .dct _ :: _) => with_unfolding_all rfl
            | some (.ex n fs, .exc _ _ :: _) => with_unfolding_all rfl
    · rw [if_neg e, wp_none]; simp only [e, false_and]
/-! errors -/
def rz1 (X : Nat → List (Str × PyData) → Prop) (n : Nat) (f : Str) : List PyData → Prop
  | [d] => X n [(f, d)]
  | _ => False
theorem wp_yRaise {n : Nat} {f : Str} {ys : Mo (List Vd)} : wp (yRaise n f ys ρ) QF X = wp (ys ρ) (fun as ρ' => gv (dts as) fun ds => rz1 (fun n fs => X n fs ρ') n f ds) X := by
  unfold yRaise; rw [wp_bnd]
  refine wp_cq fun as ρ' => ?_
  cases dts as with
  | none => with_unfolding_all rfl
  | some ds =>
    simp only [gv_some]
    match ds with
    | [] => with_unfolding_all rfl
    | [_] => with_unfolding_all rfl
    | _ :: _ :: _ => with_unfolding_all rfl
theorem rz1_one {X : Nat → List (Str × PyData) → Prop} {n : Nat} {f : Str} {d : PyData} : rz1 X n f [d] = X n [(f, d)] := by with_unfolding_all rfl
def rz2 (X : Nat → List (Str × PyData) → Prop) (n : Nat) (f g : Str) : List PyData → Prop
  | [d, e] => X n [(g, e), (f, d)]
  | _ => False
theorem wp_yRaise2 {n : Nat} {f g : Str} {ys : Mo (List Vd)} : wp (yRaise2 n f g ys ρ) QF X = wp (ys ρ) (fun as ρ' => gv (dts as) fun ds => rz2 (fun n fs => X n fs ρ') n f g ds) X := by
  unfold yRaise2; rw [wp_bnd]
  refine wp_cq fun as ρ' => ?_
  cases dts as with
  | none => with_unfolding_all rfl
  | some ds =>
    simp only [gv_some]
    match ds with
    | [] => with_unfolding_all rfl
    | [_] => with_unfolding_all rfl
    | [_, _] => with_unfolding_all rfl
    | _ :: _ :: _ :: _ => with_unfolding_all rfl
theorem rz2_one {X : Nat → List (Str × PyData) → Prop} {n : Nat} {f g : Str} {d e : PyData} : rz2 X n f g [d, e] = X n [(g, e), (f, d)] := by with_unfolding_all rfl
theorem wp_yTry {y : Mo Fl} {h : Hx} : wp (yTry y h ρ) QF X = wp (y ρ) QF (fun n fs ρ' => wp (h n fs ρ') QF X) := by
  unfold yTry
  match y ρ with
  | none => with_unfolding_all rfl
  | some (.val _, ρ') => with_unfolding_all rfl
  | some (.ex n fs, ρ') => with_unfolding_all rfl
theorem wp_hNil {n : Nat} {fs} : wp (hNil n fs ρ) QF X = X n fs ρ := by with_unfolding_all rfl
def asQ (i : Nat) (QF : Fl → En → Prop) (f : Fl) (ρ : En) : Prop := match f with
  | .rt r => QF (.rt r) ρ
  | f => stE (ρ.set i .no) (QF f)
theorem asQ_rt {r : Rs} : asQ i QF (.rt r) ρ = QF (.rt r) ρ := by with_unfolding_all rfl
theorem asQ_nx : asQ i QF .nx ρ = stE (ρ.set i .no) (QF .nx) := by with_unfolding_all rfl
theorem wp_hAs {p : Nat → Bool} {y : Mo Fl} {h : Hx} {n : Nat} {fs} : wp (hAs p i y h n fs ρ) QF X = if p n = true then stE (ρ.set i (.exc n fs)) (fun ρ1 => wp (y ρ1) (asQ i QF) nX) else wp (h n fs ρ) QF X := by
  unfold hAs
  split
  · rw [stE_e]
    match y (ρ.set i (.exc n fs)) with
    | none => with_unfolding_all rfl
    | some (.val .nx, ρ') => with_unfolding_all rfl
    | some (.val .bk, ρ') => with_unfolding_all rfl
    | some (.val .ct, ρ') => with_unfolding_all rfl
    | some (.ex n fs, ρ') => with_unfolding_all rfl
    | some (.val (.rt r), ρ') => with_unfolding_all rfl
  · with_unfolding_all rfl
theorem wp_hNo {p : Nat → Bool} {y : Mo Fl} {h : Hx} {n : Nat} {fs} : wp (hNo p y h n fs ρ) QF X = if p n = true then wp (y ρ) QF nX else wp (h n fs ρ) QF X := by
  unfold hNo
  split
  · match y ρ with
    | none => with_unfolding_all rfl
    | some (.val _, ρ') => with_unfolding_all rfl
    | some (.ex n fs, ρ') => with_unfolding_all rfl
  · with_unfolding_all rfl
def setEQ (i : Nat) (ρ : En) (QF : Fl → En → Prop) : Sl → Prop
  | .exc n fs => stE (ρ.set i (.exc n fs)) (QF .nx)
  | _ => False
theorem wp_ySetE : wp (ySetE i j ρ) QF X = gv ρ[j]? (setEQ i ρ QF) := by
  unfold ySetE
  cases ρ[j]? with
  | none => with_unfolding_all rfl
  | some s => cases s <;> with_unfolding_all rfl
theorem setEQ_ok {n : Nat} {fs} : setEQ i ρ QF (.exc n fs) = stE (ρ.set i (.exc n fs)) (QF .nx) := by with_unfolding_all rfl
def isNQ (ρ : En) (QR : Rs → En → Prop) : Sl → Prop
  | .exc _ _ => QR (.dt (.bool false)) ρ
  | .dat .none => QR (.dt (.bool true)) ρ
  | .dat _ => QR (.dt (.bool false)) ρ
  | _ => False
theorem wp_xIsN : wp (xIsN j ρ) QR X = gv ρ[j]? (isNQ ρ QR) := by
  unfold xIsN
  cases ρ[j]? with
  | none => with_unfolding_all rfl
  | some s => cases s with
    | dat d => cases d <;> with_unfolding_all rfl
    | _ => with_unfolding_all rfl
theorem isNQ_exc {n : Nat} {fs} : isNQ ρ QR (.exc n fs) = QR (.dt (.bool false)) ρ := by with_unfolding_all rfl
theorem isNQ_none : isNQ ρ QR (.dat .none) = QR (.dt (.bool true)) ρ := by with_unfolding_all rfl
def fldQ (f : Str) (ρ : En) (QR : Rs → En → Prop) : Sl → Prop
  | .exc _ fs => gv (fs.lookup f) fun d => QR (.dt d) ρ
  | _ => False
theorem wp_xFld {f : Str} : wp (xFld j f ρ) QR X = gv ρ[j]? (fldQ f ρ QR) := by
  unfold xFld
  cases ρ[j]? with
  | none => with_unfolding_all rfl
  | some s => cases s with
    | exc n fs => simp only [gv_some, fldQ]; cases fs.lookup f <;> with_unfolding_all rfl
    | _ => with_unfolding_all rfl
theorem fldQ_exc {f : Str} {n : Nat} {fs} : fldQ f ρ QR (.exc n fs) = gv (fs.lookup f) fun d => QR (.dt d) ρ := by with_unfolding_all rfl
def isEQ (p : Nat → Bool) (ρ : En) (QR : Rs → En → Prop) : Sl → Prop
  | .exc n _ => QR (.dt (.bool (p n))) ρ
  | _ => False
theorem wp_xIsE {p : Nat → Bool} : wp (xIsE j p ρ) QR X = gv ρ[j]? (isEQ p ρ QR) := by
  unfold xIsE
  cases ρ[j]? with
  | none => with_unfolding_all rfl
  | some s => cases s <;> with_unfolding_all rfl
theorem isEQ_exc {p : Nat → Bool} {n : Nat} {fs} : isEQ p ρ QR (.exc n fs) = QR (.dt (.bool (p n))) ρ := by with_unfolding_all rfl
end
end Dl
end

section
set_option Elab.async false
set_option linter.all false
set_option maxRecDepth 100000
namespace Dl
open PySem PySem.Spec PyProof.Rows L2
/-! operators where they give something -/
theorem e63 : (2 : Nat) ^ 63 = 9223372036854775808 := by decide
theorem gMul_l {a b : Int} (h : a.natAbs < 9223372036854775808) : gMul [.int a, .int b] = some (.dt (.int (a * b))) := if_pos (.inl (by rw [e63]; exact h))
theorem gMul_r {a b : Int} (h : b.natAbs < 9223372036854775808) : gMul [.int a, .int b] = some (.dt (.int (a * b))) := if_pos (.inr (.inl (by rw [e63]; exact h)))
theorem gMod_e {a b : Int} (h : 0 < b) : gMod [.int a, .int b] = some (.dt (.int (a % b))) := by
  have e : gMod [.int a, .int b] = some (.dt (.int (a.fmod b))) := if_pos (by omega)
  rw [e, Int.fmod_eq_emod_of_nonneg a (by omega)]
theorem log_small {b : Int} (h : b.natAbs < 340282366920938463463374607431768211456) : b.natAbs.log2 < 9000 := by
  by_cases z : b.natAbs = 0
  · rw [z]; decide
  · have e : (2 : Nat) ^ 128 = 340282366920938463463374607431768211456 := by decide
    have : b.natAbs.log2 < 128 := (Nat.log2_lt z).mpr (by rw [e]; exact h)
    omega
theorem gPow_e {a b : Int} (h : 0 ≤ b) (h2 : b ≤ 1000000) (h3 : a.natAbs < 18446744073709551616) : gPow [.int a, .int b] = some (.dt (.int (a ^ b.toNat))) := if_pos ⟨h, h2, by simpa using h3⟩
theorem gDiv_e {a b : Int} (h : 0 < b) (h2 : b < 340282366920938463463374607431768211456) : gDiv [.int a, .int b] = some (.dt (.int (a / b))) := if_pos ⟨h, log_small (by omega)⟩
theorem gAdd_i {a b : Int} : gAdd [.int a, .int b] = some (.dt (.int (a + b))) := rfl
theorem gAdd_l {a b : List PyData} (h : a.length + b.length ≤ 16777216) : gAdd [.list a, .list b] = some (.new (a ++ b)) := if_pos h
theorem gAdd_t {a b : List PyData} (h : a.length + b.length ≤ 16777216) : gAdd [.tuple a, .tuple b] = some (.dt (.tuple (a ++ b))) := if_pos h
theorem gAdd_s {a b : Str} (h : a.length + b.length ≤ 16777216) : gAdd [.str a, .str b] = some (.dt (.str (a ++ b))) := if_pos h
theorem gSub_i {a b : Int} : gSub [.int a, .int b] = some (.dt (.int (a - b))) := rfl
theorem gNeg_i {a : Int} : gNeg [.int a] = some (.dt (.int (-a))) := rfl
theorem gInt_i {a : Int} : gInt [.int a] = some (.dt (.int a)) := rfl
theorem gInt_b {a : Bool} : gInt [.bool a] = some (.dt (.int (if a then 1 else 0))) := rfl
theorem gGt_i {a b : Int} : gGt [.int a, .int b] = some (.dt (.bool (decide (b < a)))) := rfl
theorem gLt_i {a b : Int} : gLt [.int a, .int b] = some (.dt (.bool (decide (a < b)))) := rfl
theorem gLe_i {a b : Int} : gLe [.int a, .int b] = some (.dt (.bool (decide (a ≤ b)))) := rfl
theorem gGe_i {a b : Int} : gGe [.int a, .int b] = some (.dt (.bool (decide (b ≤ a)))) := rfl
theorem gAbs_i {a : Int} : gAbs [.int a] = some (.dt (.int (if a < 0 then -a else a))) := rfl
theorem gLen_l {xs : List PyData} : gLen [.list xs] = some (.dt (.int xs.length)) := rfl
theorem gLen_t {xs : List PyData} : gLen [.tuple xs] = some (.dt (.int xs.length)) := rfl
theorem gLen_s {x : Str} (h : x.length ≤ 16777216) : gLen [.str x] = some (.dt (.int x.length)) := if_pos h
theorem gList_l {xs : List PyData} : gList [.list xs] = some (.new xs) := rfl
theorem gList_t {xs : List PyData} : gList [.tuple xs] = some (.new xs) := rfl
theorem gTuple_l {xs : List PyData} : gTuple [.list xs] = some (.dt (.tuple xs)) := rfl
theorem gTuple_t {xs : List PyData} : gTuple [.tuple xs] = some (.dt (.tuple xs)) := rfl
theorem atI_nn {α : Type} {xs : List α} {i : Int} (h0 : 0 ≤ i) : atI xs i = xs[i.toNat]? := by
  unfold atI ixN
  rw [if_pos h0]
  split
  · rfl
  · next h =>
    have : xs.length ≤ i.toNat := by omega
    simp [List.getElem?_eq_none this]
theorem gIx_l {xs : List PyData} {i : Int} {d : PyData} (h : atI xs i = some d) : gIx [.list xs, .int i] = some (.dt d) := by
  show (match atI xs i with | some d => some (Rs.dt d) | none => none) = _
  rw [h]
theorem gIx_lo {xs : List PyData} {i : Int} : gIx [.list xs, .int i] = (atI xs i).map .dt := by
  show (match atI xs i with | some d => some (Rs.dt d) | none => none) = _
  cases atI xs i <;> rfl
theorem gIx_to {xs : List PyData} {i : Int} : gIx [.tuple xs, .int i] = (atI xs i).map .dt := by
  show (match atI xs i with | some d => some (Rs.dt d) | none => none) = _
  cases atI xs i <;> rfl
theorem gEq_i {a b : Int} : gEq [.int a, .int b] = some (.dt (.bool (decide (a = b)))) := rfl
theorem gEq_s {a b : Str} : gEq [.str a, .str b] = some (.dt (.bool (decide (a = b)))) := rfl
theorem gEq_b {a b : Bool} : gEq [.bool a, .bool b] = some (.dt (.bool (decide (a = b)))) := rfl
theorem gNe_i {a b : Int} : gNe [.int a, .int b] = some (.dt (.bool (!decide (a = b)))) := rfl
theorem gNe_s {a b : Str} : gNe [.str a, .str b] = some (.dt (.bool (!decide (a = b)))) := rfl
theorem ixN_nn {n : Nat} {i : Int} (h0 : 0 ≤ i) (h : i < n) : ixN n i = some i.toNat := by unfold ixN; rw [if_pos h0, if_pos h]
theorem seqIx {n : Nat} {i : Int} (h0 : 0 ≤ i) (h : i < n) : seqIndex? i n = some i.toNat := by
  unfold seqIndex?
  have h1 : ¬ i < 0 := by omega
  simp [h1, h0, h]
theorem rg1_e {j : Int} (h0 : 0 ≤ j) (h : j < 4000000000000000000) : rg1 [.int j] = some (rangeD 0 j.toNat) := by
  have e : (2 : Int) ^ 62 = 4611686018427387904 := by decide
  exact if_pos ⟨by omega, by omega⟩
theorem rg2_e {i j : Int} (h0 : 0 ≤ i) (h : i < 4000000000000000000) (h2 : 0 ≤ j) (h3 : j < 4000000000000000000) : rg2 [.int i, .int j] = some (rangeD i (j - i).toNat) := by
  have e : (2 : Int) ^ 62 = 4611686018427387904 := by decide
  exact if_pos ⟨⟨by omega, by omega⟩, by omega, by omega⟩
theorem asD_dt {d : PyData} : (Rs.dt d).asD = some d := rfl
theorem asD_new {xs : List PyData} : (Rs.new xs).asD = some (.list xs) := rfl
theorem isPl_dat {d : PyData} : isPl (.dat d) = true := rfl
theorem isPl_own {d : List PyData} : isPl (.own d) = true := rfl
theorem isPl_bor {d : List PyData} : isPl (.bor d) = true := rfl
theorem slD_dat {d : PyData} : slD (.dat d) = some d := rfl
theorem slD_own {d : List PyData} : slD (.own d) = some (.list d) := rfl
theorem slD_bor {d : List PyData} : slD (.bor d) = some (.list d) := rfl
theorem lslOwn {d : List PyData} : lsl (.own d) = some d := rfl
theorem lslBor {d : List PyData} : lsl (.bor d) = some d := rfl
theorem putL_own {d e : List PyData} : putL (.own d) e = .own e := rfl
theorem putL_bor {d e : List PyData} : putL (.bor d) e = .bor e := rfl
theorem slotOf_dt {d : PyData} : slotOf (.dt d) = .dat d := rfl
theorem slotOf_new {d : List PyData} : slotOf (.new d) = .own d := rfl
theorem asIint {i : Int} : asI (.int i) = some i := rfl
theorem isB_bool {b : Bool} : isB (.dt (.bool b)) = some b := rfl
theorem truD_bool {b : Bool} : truD (.bool b) = some b := rfl
theorem truD_none : truD .none = some false := rfl
theorem truD_int {i : Int} : truD (.int i) = some (i != 0) := rfl
theorem truD_list {xs : List PyData} : truD (.list xs) = some (!xs.isEmpty) := rfl
theorem truD_tuple {xs : List PyData} : truD (.tuple xs) = some (!xs.isEmpty) := rfl
theorem truR_dt {d : PyData} : truR (.dt d) = truD d := rfl
theorem truR_new {xs : List PyData} : truR (.new xs) = some (!xs.isEmpty) := rfl
theorem rsl_dt {ρ : En} {d : PyData} : rsl ρ (.dt d) = some d := rfl
theorem rsl_pl {ρ : En} {j : Nat} : rsl ρ (.pl j) = (ρ[j]?).bind slD := by
  show (match ρ[j]? with | some s => slD s | none => none) = _
  cases ρ[j]? <;> rfl
def ocons {α : Type} : Option α → Option (List α) → Option (List α)
  | some a, some l => some (a :: l)
  | _, _ => none
theorem ocons_e {α : Type} {a : α} {l : List α} : ocons (some a) (some l) = some (a :: l) := rfl
theorem rsls_nil {ρ : En} : rsls ρ [] = some [] := rfl
theorem rsls_cons {ρ : En} {a : Vd} {as : List Vd} : rsls ρ (a :: as) = ocons (rsl ρ a) (rsls ρ as) := by
  rw [rsls]
  cases rsl ρ a <;> cases rsls ρ as <;> rfl
theorem dts_nil' : dts [] = some [] := rfl
theorem dts_cons {d : PyData} {r : List Vd} : dts (.dt d :: r) = ocons (some d) (dts r) := by
  rw [dts]
  cases dts r <;> rfl
theorem outs_nil {ρ : En} : outs [] ρ = some [] := by rw [outs]
theorem outs_bor {x y : List PyData} {r : List Sl} {ρ : En} : outs (.bor x :: r) (.bor y :: ρ) = ocons (some (.bor y)) (outs r ρ) := by
  rw [outs]
  cases outs r ρ <;> rfl
theorem outs_dat {d : PyData} {s : Sl} {r : List Sl} {ρ : En} : outs (.dat d :: r) (s :: ρ) = ocons (some (.dat d)) (outs r ρ) := by
  rw [outs]
  · cases outs r ρ <;> rfl
  · intro x h; cases h
theorem hideO_none {ρ : En} : hideO ρ none = ρ := rfl
theorem hideO_some {ρ : En} {j : Nat} : hideO ρ (some j) = ρ.set j .hd := rfl
theorem restO_none {ρ0 ρ : En} : restO ρ0 none ρ = ρ := rfl
def restS (ρ0 : En) (j : Nat) (ρ : En) : Option Sl → En
  | some .hd => match ρ0[j]? with
    | some s => ρ.set j s
    | none => ρ
  | _ => ρ
def restT (ρ : En) (j : Nat) : Option Sl → En
  | some s => ρ.set j s
  | none => ρ
theorem restO_some {ρ0 ρ : En} {j : Nat} : restO ρ0 (some j) ρ = restS ρ0 j ρ ρ[j]? := by
  show (match ρ[j]? with | some .hd => (match ρ0[j]? with | some s => ρ.set j s | none => ρ) | _ => ρ) = _
  cases ρ[j]? with
  | none => rfl
  | some s => cases s <;> rfl
theorem restS_hd {ρ0 ρ : En} {j : Nat} : restS ρ0 j ρ (some .hd) = restT ρ j ρ0[j]? := by
  unfold restS restT
  cases ρ0[j]? <;> rfl
theorem restT_some {ρ : En} {j : Nat} {s : Sl} : restT ρ j (some s) = ρ.set j s := rfl
theorem wipeE_nil {ρ : En} : wipeE ρ [] = ρ := rfl
theorem wipeE_cons {ρ : En} {v : Nat} {vs : List Nat} : wipeE ρ (v :: vs) = (wipeE ρ vs).set v .no := rfl
theorem backE_nil {ρ0 ρ : En} : backE ρ0 ρ [] = ρ := rfl
theorem backE_cons {ρ0 ρ : En} {v : Nat} {vs : List Nat} : backE ρ0 ρ (v :: vs) = (backE ρ0 ρ vs).set v (keepD ρ0[v]?) := rfl
theorem keepD_dat {d : PyData} : keepD (some (.dat d)) = .dat d := rfl
theorem keepD_no : keepD (some .no) = .no := rfl
theorem setAll_nil {ρ : En} : setAll ρ [] [] = ρ := rfl
theorem setAll_cons {ρ : En} {i : Nat} {is : List Nat} {r : Rs} {rs : List Rs} : setAll ρ (i :: is) (r :: rs) = setAll (ρ.set i (slotOf r)) is rs := rfl
theorem isOwn_dat {d : PyData} : (Sl.dat d).isOwn = false := rfl
theorem isOwn_own {d : List PyData} : (Sl.own d).isOwn = true := rfl
/-- a list or a tuple -/
def sqd : Bool → List PyData → PyData
  | true, xs => .list xs
  | false, xs => .tuple xs
theorem sqd_l {xs : List PyData} : sqd true xs = .list xs := rfl
theorem sqd_t {xs : List PyData} : sqd false xs = .tuple xs := rfl
theorem seqD_l {xs : List PyData} : seqD (.list xs) = some xs := rfl
theorem seqD_t {xs : List PyData} : seqD (.tuple xs) = some xs := rfl
theorem seqD_k {k : Bool} {xs : List PyData} : seqD (sqd k xs) = some xs := by cases k <;> rfl
theorem gLen_k {k : Bool} {xs : List PyData} : gLen [sqd k xs] = some (.dt (.int xs.length)) := by cases k <;> rfl
theorem gIx_k {k : Bool} {xs : List PyData} {i : Int} : gIx [sqd k xs, .int i] = (atI xs i).map .dt := by cases k; exact gIx_to; exact gIx_lo
theorem gTuple_k {k : Bool} {xs : List PyData} : gTuple [sqd k xs] = some (.dt (.tuple xs)) := by cases k <;> rfl
theorem gList_k {k : Bool} {xs : List PyData} : gList [sqd k xs] = some (.new xs) := by cases k <;> rfl
theorem lt2_l {xs : List PyData} : lt2 (.list xs) = some xs := rfl
theorem lt2_t {xs : List PyData} : lt2 (.tuple xs) = some xs := rfl
theorem lt2_k {k : Bool} {xs : List PyData} : lt2 (sqd k xs) = some xs := by cases k <;> rfl
theorem gTp_k {k : Bool} {n : Nat} {ts : Tgs} {xs : List PyData} {ρ : En} (h : xs.length = n) : gTp n ts (sqd k xs) ρ = ts xs ρ := by cases k <;> exact if_pos h
theorem gTp_l {n : Nat} {ts : Tgs} {xs : List PyData} {ρ : En} (h : xs.length = n) : gTp n ts (.list xs) ρ = ts xs ρ := if_pos h
theorem gTp_t {n : Nat} {ts : Tgs} {xs : List PyData} {ρ : En} (h : xs.length = n) : gTp n ts (.tuple xs) ρ = ts xs ρ := if_pos h
theorem gCn_e {t : Tg} {ts : Tgs} {d : PyData} {r : List PyData} {ρ : En} : gCn t ts (d :: r) ρ = (t d ρ).bind (ts r) := by
  show (match t d ρ with | some ρ' => ts r ρ' | none => none) = _
  cases t d ρ <;> rfl
theorem gN_e {i : Nat} {d : PyData} {ρ : En} : gN i d ρ = some (ρ.set i (.dat d)) := rfl
theorem gNl_e {ρ : En} : gNl [] ρ = some ρ := rfl
theorem zp2_e {a b : PyData} {xs ys : List PyData} (h : lt2 a = some xs) (k : lt2 b = some ys) : zp2 [a, b] = some (zipD xs ys) := by simp only [zp2, h, k]
theorem en1_l {xs : List PyData} : en1 [.list xs] = some (enumD 0 xs) := rfl
theorem wp_fn0_0 {y : Mo Fl} {Q : Rs → List Sl → Prop} {X : XQ (List Sl)} : wp (fnX 0 0 y []) Q X = wp (y []) (endF [] Q) (fun n fs ρ => gv (outs [] ρ) fun q => X n fs q) := wp_fn rfl
theorem wp_fn0_1 {y : Mo Fl} {Q : Rs → List Sl → Prop} {X : XQ (List Sl)} : wp (fnX 0 1 y []) Q X = wp (y [.no]) (endF [] Q) (fun n fs ρ => gv (outs [] ρ) fun q => X n fs q) := wp_fn rfl
theorem wp_fn0_2 {y : Mo Fl} {Q : Rs → List Sl → Prop} {X : XQ (List Sl)} : wp (fnX 0 2 y []) Q X = wp (y [.no, .no]) (endF [] Q) (fun n fs ρ => gv (outs [] ρ) fun q => X n fs q) := wp_fn rfl
theorem wp_fn0_3 {y : Mo Fl} {Q : Rs → List Sl → Prop} {X : XQ (List Sl)} : wp (fnX 0 3 y []) Q X = wp (y [.no, .no, .no]) (endF [] Q) (fun n fs ρ => gv (outs [] ρ) fun q => X n fs q) := wp_fn rfl
theorem wp_fn0_4 {y : Mo Fl} {Q : Rs → List Sl → Prop} {X : XQ (List Sl)} : wp (fnX 0 4 y []) Q X = wp (y [.no, .no, .no, .no]) (endF [] Q) (fun n fs ρ => gv (outs [] ρ) fun q => X n fs q) := wp_fn rfl
theorem wp_fn0_5 {y : Mo Fl} {Q : Rs → List Sl → Prop} {X : XQ (List Sl)} : wp (fnX 0 5 y []) Q X = wp (y [.no, .no, .no, .no, .no]) (endF [] Q) (fun n fs ρ => gv (outs [] ρ) fun q => X n fs q) := wp_fn rfl
theorem wp_fn0_6 {y : Mo Fl} {Q : Rs → List Sl → Prop} {X : XQ (List Sl)} : wp (fnX 0 6 y []) Q X = wp (y [.no, .no, .no, .no, .no, .no]) (endF [] Q) (fun n fs ρ => gv (outs [] ρ) fun q => X n fs q) := wp_fn rfl
theorem wp_fn0_7 {y : Mo Fl} {Q : Rs → List Sl → Prop} {X : XQ (List Sl)} : wp (fnX 0 7 y []) Q X = wp (y [.no, .no, .no, .no, .no, .no, .no]) (endF [] Q) (fun n fs ρ => gv (outs [] ρ) fun q => X n fs q) := wp_fn rfl
theorem wp_fn0_8 {y : Mo Fl} {Q : Rs → List Sl → Prop} {X : XQ (List Sl)} : wp (fnX 0 8 y []) Q X = wp (y [.no, .no, .no, .no, .no, .no, .no, .no]) (endF [] Q) (fun n fs ρ => gv (outs [] ρ) fun q => X n fs q) := wp_fn rfl
theorem wp_fn0_9 {y : Mo Fl} {Q : Rs → List Sl → Prop} {X : XQ (List Sl)} : wp (fnX 0 9 y []) Q X = wp (y [.no, .no, .no, .no, .no, .no, .no, .no, .no]) (endF [] Q) (fun n fs ρ => gv (outs [] ρ) fun q => X n fs q) := wp_fn rfl
theorem wp_fn0_10 {y : Mo Fl} {Q : Rs → List Sl → Prop} {X : XQ (List Sl)} : wp (fnX 0 10 y []) Q X = wp (y [.no, .no, .no, .no, .no, .no, .no, .no, .no, .no]) (endF [] Q) (fun n fs ρ => gv (outs [] ρ) fun q => X n fs q) := wp_fn rfl
theorem wp_fn0_11 {y : Mo Fl} {Q : Rs → List Sl → Prop} {X : XQ (List Sl)} : wp (fnX 0 11 y []) Q X = wp (y [.no, .no, .no, .no, .no, .no, .no, .no, .no, .no, .no]) (endF [] Q) (fun n fs ρ => gv (outs [] ρ) fun q => X n fs q) := wp_fn rfl
theorem wp_fn0_12 {y : Mo Fl} {Q : Rs → List Sl → Prop} {X : XQ (List Sl)} : wp (fnX 0 12 y []) Q X = wp (y [.no, .no, .no, .no, .no, .no, .no, .no, .no, .no, .no, .no]) (endF [] Q) (fun n fs ρ => gv (outs [] ρ) fun q => X n fs q) := wp_fn rfl
theorem wp_fn0_13 {y : Mo Fl} {Q : Rs → List Sl → Prop} {X : XQ (List Sl)} : wp (fnX 0 13 y []) Q X = wp (y [.no, .no, .no, .no, .no, .no, .no, .no, .no, .no, .no, .no, .no]) (endF [] Q) (fun n fs ρ => gv (outs [] ρ) fun q => X n fs q) := wp_fn rfl
theorem wp_fn0_14 {y : Mo Fl} {Q : Rs → List Sl → Prop} {X : XQ (List Sl)} : wp (fnX 0 14 y []) Q X = wp (y [.no, .no, .no, .no, .no, .no, .no, .no, .no, .no, .no, .no, .no, .no]) (endF [] Q) (fun n fs ρ => gv (outs [] ρ) fun q => X n fs q) := wp_fn rfl
theorem wp_fn0_15 {y : Mo Fl} {Q : Rs → List Sl → Prop} {X : XQ (List Sl)} : wp (fnX 0 15 y []) Q X = wp (y [.no, .no, .no, .no, .no, .no, .no, .no, .no, .no, .no, .no, .no, .no, .no]) (endF [] Q) (fun n fs ρ => gv (outs [] ρ) fun q => X n fs q) := wp_fn rfl
theorem wp_fn0_16 {y : Mo Fl} {Q : Rs → List Sl → Prop} {X : XQ (List Sl)} : wp (fnX 0 16 y []) Q X = wp (y [.no, .no, .no, .no, .no, .no, .no, .no, .no, .no, .no, .no, .no, .no, .no, .no]) (endF [] Q) (fun n fs ρ => gv (outs [] ρ) fun q => X n fs q) := wp_fn rfl
theorem wp_fn1_1 {y : Mo Fl} {a0 : Sl} {Q : Rs → List Sl → Prop} {X : XQ (List Sl)} : wp (fnX 1 1 y [a0]) Q X = wp (y [a0]) (endF [a0] Q) (fun n fs ρ => gv (outs [a0] ρ) fun q => X n fs q) := wp_fn rfl
theorem wp_fn1_2 {y : Mo Fl} {a0 : Sl} {Q : Rs → List Sl → Prop} {X : XQ (List Sl)} : wp (fnX 1 2 y [a0]) Q X = wp (y [a0, .no]) (endF [a0] Q) (fun n fs ρ => gv (outs [a0] ρ) fun q => X n fs q) := wp_fn rfl
theorem wp_fn1_3 {y : Mo Fl} {a0 : Sl} {Q : Rs → List Sl → Prop} {X : XQ (List Sl)} : wp (fnX 1 3 y [a0]) Q X = wp (y [a0, .no, .no]) (endF [a0] Q) (fun n fs ρ => gv (outs [a0] ρ) fun q => X n fs q) := wp_fn rfl
theorem wp_fn1_4 {y : Mo Fl} {a0 : Sl} {Q : Rs → List Sl → Prop} {X : XQ (List Sl)} : wp (fnX 1 4 y [a0]) Q X = wp (y [a0, .no, .no, .no]) (endF [a0] Q) (fun n fs ρ => gv (outs [a0] ρ) fun q => X n fs q) := wp_fn rfl
theorem wp_fn1_5 {y : Mo Fl} {a0 : Sl} {Q : Rs → List Sl → Prop} {X : XQ (List Sl)} : wp (fnX 1 5 y [a0]) Q X = wp (y [a0, .no, .no, .no, .no]) (endF [a0] Q) (fun n fs ρ => gv (outs [a0] ρ) fun q => X n fs q) := wp_fn rfl
theorem wp_fn1_6 {y : Mo Fl} {a0 : Sl} {Q : Rs → List Sl → Prop} {X : XQ (List Sl)} : wp (fnX 1 6 y [a0]) Q X = wp (y [a0, .no, .no, .no, .no, .no]) (endF [a0] Q) (fun n fs ρ => gv (outs [a0] ρ) fun q => X n fs q) := wp_fn rfl
theorem wp_fn1_7 {y : Mo Fl} {a0 : Sl} {Q : Rs → List Sl → Prop} {X : XQ (List Sl)} : wp (fnX 1 7 y [a0]) Q X = wp (y [a0, .no, .no, .no, .no, .no, .no]) (endF [a0] Q) (fun n fs ρ => gv (outs [a0] ρ) fun q => X n fs q) := wp_fn rfl
theorem wp_fn1_8 {y : Mo Fl} {a0 : Sl} {Q : Rs → List Sl → Prop} {X : XQ (List Sl)} : wp (fnX 1 8 y [a0]) Q X = wp (y [a0, .no, .no, .no, .no, .no, .no, .no]) (endF [a0] Q) (fun n fs ρ => gv (outs [a0] ρ) fun q => X n fs q) := wp_fn rfl
theorem wp_fn1_9 {y : Mo Fl} {a0 : Sl} {Q : Rs → List Sl → Prop} {X : XQ (List Sl)} : wp (fnX 1 9 y [a0]) Q X = wp (y [a0, .no, .no, .no, .no, .no, .no, .no, .no]) (endF [a0] Q) (fun n fs ρ => gv (outs [a0] ρ) fun q => X n fs q) := wp_fn rfl
theorem wp_fn1_10 {y : Mo Fl} {a0 : Sl} {Q : Rs → List Sl → Prop} {X : XQ (List Sl)} : wp (fnX 1 10 y [a0]) Q X = wp (y [a0, .no, .no, .no, .no, .no, .no, .no, .no, .no]) (endF [a0] Q) (fun n fs ρ => gv (outs [a0] ρ) fun q => X n fs q) := wp_fn rfl
theorem wp_fn1_11 {y : Mo Fl} {a0 : Sl} {Q : Rs → List Sl → Prop} {X : XQ (List Sl)} : wp (fnX 1 11 y [a0]) Q X = wp (y [a0, .no, .no, .no, .no, .no, .no, .no, .no, .no, .no]) (endF [a0] Q) (fun n fs ρ => gv (outs [a0] ρ) fun q => X n fs q) := wp_fn rfl
theorem wp_fn1_12 {y : Mo Fl} {a0 : Sl} {Q : Rs → List Sl → Prop} {X : XQ (List Sl)} : wp (fnX 1 12 y [a0]) Q X = wp (y [a0, .no, .no, .no, .no, .no, .no, .no, .no, .no, .no, .no]) (endF [a0] Q) (fun n fs ρ => gv (outs [a0] ρ) fun q => X n fs q) := wp_fn rfl
theorem wp_fn1_13 {y : Mo Fl} {a0 : Sl} {Q : Rs → List Sl → Prop} {X : XQ (List Sl)} : wp (fnX 1 13 y [a0]) Q X = wp (y [a0, .no, .no, .no, .no, .no, .no, .no, .no, .no, .no, .no, .no]) (endF [a0] Q) (fun n fs ρ => gv (outs [a0] ρ) fun q => X n fs q) := wp_fn rfl
theorem wp_fn1_14 {y : Mo Fl} {a0 : Sl} {Q : Rs → List Sl → Prop} {X : XQ (List Sl)} : wp (fnX 1 14 y [a0]) Q X = wp (y [a0, .no, .no, .no, .no, .no, .no, .no, .no, .no, .no, .no, .no, .no]) (endF [a0] Q) (fun n fs ρ => gv (outs [a0] ρ) fun q => X n fs q) := wp_fn rfl
theorem wp_fn1_15 {y : Mo Fl} {a0 : Sl} {Q : Rs → List Sl → Prop} {X : XQ (List Sl)} : wp (fnX 1 15 y [a0]) Q X = wp (y [a0, .no, .no, .no, .no, .no, .no, .no, .no, .no, .no, .no, .no, .no, .no]) (endF [a0] Q) (fun n fs ρ => gv (outs [a0] ρ) fun q => X n fs q) := wp_fn rfl
theorem wp_fn1_16 {y : Mo Fl} {a0 : Sl} {Q : Rs → List Sl → Prop} {X : XQ (List Sl)} : wp (fnX 1 16 y [a0]) Q X = wp (y [a0, .no, .no, .no, .no, .no, .no, .no, .no, .no, .no, .no, .no, .no, .no, .no]) (endF [a0] Q) (fun n fs ρ => gv (outs [a0] ρ) fun q => X n fs q) := wp_fn rfl
theorem wp_fn1_17 {y : Mo Fl} {a0 : Sl} {Q : Rs → List Sl → Prop} {X : XQ (List Sl)} : wp (fnX 1 17 y [a0]) Q X = wp (y [a0, .no, .no, .no, .no, .no, .no, .no, .no, .no, .no, .no, .no, .no, .no, .no, .no]) (endF [a0] Q) (fun n fs ρ => gv (outs [a0] ρ) fun q => X n fs q) := wp_fn rfl
theorem wp_fn2_2 {y : Mo Fl} {a0 a1 : Sl} {Q : Rs → List Sl → Prop} {X : XQ (List Sl)} : wp (fnX 2 2 y [a0, a1]) Q X = wp (y [a0, a1]) (endF [a0, a1] Q) (fun n fs ρ => gv (outs [a0, a1] ρ) fun q => X n fs q) := wp_fn rfl
theorem wp_fn2_3 {y : Mo Fl} {a0 a1 : Sl} {Q : Rs → List Sl → Prop} {X : XQ (List Sl)} : wp (fnX 2 3 y [a0, a1]) Q X = wp (y [a0, a1, .no]) (endF [a0, a1] Q) (fun n fs ρ => gv (outs [a0, a1] ρ) fun q => X n fs q) := wp_fn rfl
theorem wp_fn2_4 {y : Mo Fl} {a0 a1 : Sl} {Q : Rs → List Sl → Prop} {X : XQ (List Sl)} : wp (fnX 2 4 y [a0, a1]) Q X = wp (y [a0, a1, .no, .no]) (endF [a0, a1] Q) (fun n fs ρ => gv (outs [a0, a1] ρ) fun q => X n fs q) := wp_fn rfl
theorem wp_fn2_5 {y : Mo Fl} {a0 a1 : Sl} {Q : Rs → List Sl → Prop} {X : XQ (List Sl)} : wp (fnX 2 5 y [a0, a1]) Q X = wp (y [a0, a1, .no, .no, .no]) (endF [a0, a1] Q) (fun n fs ρ => gv (outs [a0, a1] ρ) fun q => X n fs q) := wp_fn rfl
theorem wp_fn2_6 {y : Mo Fl} {a0 a1 : Sl} {Q : Rs → List Sl → Prop} {X : XQ (List Sl)} : wp (fnX 2 6 y [a0, a1]) Q X = wp (y [a0, a1, .no, .no, .no, .no]) (endF [a0, a1] Q) (fun n fs ρ => gv (outs [a0, a1] ρ) fun q => X n fs q) := wp_fn rfl
theorem wp_fn2_7 {y : Mo Fl} {a0 a1 : Sl} {Q : Rs → List Sl → Prop} {X : XQ (List Sl)} : wp (fnX 2 7 y [a0, a1]) Q X = wp (y [a0, a1, .no, .no, .no, .no, .no]) (endF [a0, a1] Q) (fun n fs ρ => gv (outs [a0, a1] ρ) fun q => X n fs q) := wp_fn rfl
theorem wp_fn2_8 {y : Mo Fl} {a0 a1 : Sl} {Q : Rs → List Sl → Prop} {X : XQ (List Sl)} : wp (fnX 2 8 y [a0, a1]) Q X = wp (y [a0, a1, .no, .no, .no, .no, .no, .no]) (endF [a0, a1] Q) (fun n fs ρ => gv (outs [a0, a1] ρ) fun q => X n fs q) := wp_fn rfl
theorem wp_fn2_9 {y : Mo Fl} {a0 a1 : Sl} {Q : Rs → List Sl → Prop} {X : XQ (List Sl)} : wp (fnX 2 9 y [a0, a1]) Q X = wp (y [a0, a1, .no, .no, .no, .no, .no, .no, .no]) (endF [a0, a1] Q) (fun n fs ρ => gv (outs [a0, a1] ρ) fun q => X n fs q) := wp_fn rfl
theorem wp_fn2_10 {y : Mo Fl} {a0 a1 : Sl} {Q : Rs → List Sl → Prop} {X : XQ (List Sl)} : wp (fnX 2 10 y [a0, a1]) Q X = wp (y [a0, a1, .no, .no, .no, .no, .no, .no, .no, .no]) (endF [a0, a1] Q) (fun n fs ρ => gv (outs [a0, a1] ρ) fun q => X n fs q) := wp_fn rfl
theorem wp_fn2_11 {y : Mo Fl} {a0 a1 : Sl} {Q : Rs → List Sl → Prop} {X : XQ (List Sl)} : wp (fnX 2 11 y [a0, a1]) Q X = wp (y [a0, a1, .no, .no, .no, .no, .no, .no, .no, .no, .no]) (endF [a0, a1] Q) (fun n fs ρ => gv (outs [a0, a1] ρ) fun q => X n fs q) := wp_fn rfl
theorem wp_fn2_12 {y : Mo Fl} {a0 a1 : Sl} {Q : Rs → List Sl → Prop} {X : XQ (List Sl)} : wp (fnX 2 12 y [a0, a1]) Q X = wp (y [a0, a1, .no, .no, .no, .no, .no, .no, .no, .no, .no, .no]) (endF [a0, a1] Q) (fun n fs ρ => gv (outs [a0, a1] ρ) fun q => X n fs q) := wp_fn rfl
theorem wp_fn2_13 {y : Mo Fl} {a0 a1 : Sl} {Q : Rs → List Sl → Prop} {X : XQ (List Sl)} : wp (fnX 2 13 y [a0, a1]) Q X = wp (y [a0, a1, .no, .no, .no, .no, .no, .no, .no, .no, .no, .no, .no]) (endF [a0, a1] Q) (fun n fs ρ => gv (outs [a0, a1] ρ) fun q => X n fs q) := wp_fn rfl
theorem wp_fn2_14 {y : Mo Fl} {a0 a1 : Sl} {Q : Rs → List Sl → Prop} {X : XQ (List Sl)} : wp (fnX 2 14 y [a0, a1]) Q X = wp (y [a0, a1, .no, .no, .no, .no, .no, .no, .no, .no, .no, .no, .no, .no]) (endF [a0, a1] Q) (fun n fs ρ => gv (outs [a0, a1] ρ) fun q => X n fs q) := wp_fn rfl
theorem wp_fn2_15 {y : Mo Fl} {a0 a1 : Sl} {Q : Rs → List Sl → Prop} {X : XQ (List Sl)} : wp (fnX 2 15 y [a0, a1]) Q X = wp (y [a0, a1, .no, .no, .no, .no, .no, .no, .no, .no, .no, .no, .no, .no, .no]) (endF [a0, a1] Q) (fun n fs ρ => gv (outs [a0, a1] ρ) fun q => X n fs q) := wp_fn rfl
theorem wp_fn2_16 {y : Mo Fl} {a0 a1 : Sl} {Q : Rs → List Sl → Prop} {X : XQ (List Sl)} : wp (fnX 2 16 y [a0, a1]) Q X = wp (y [a0, a1, .no, .no, .no, .no, .no, .no, .no, .no, .no, .no, .no, .no, .no, .no]) (endF [a0, a1] Q) (fun n fs ρ => gv (outs [a0, a1] ρ) fun q => X n fs q) := wp_fn rfl
theorem wp_fn2_17 {y : Mo Fl} {a0 a1 : Sl} {Q : Rs → List Sl → Prop} {X : XQ (List Sl)} : wp (fnX 2 17 y [a0, a1]) Q X = wp (y [a0, a1, .no, .no, .no, .no, .no, .no, .no, .no, .no, .no, .no, .no, .no, .no, .no]) (endF [a0, a1] Q) (fun n fs ρ => gv (outs [a0, a1] ρ) fun q => X n fs q) := wp_fn rfl
theorem wp_fn2_18 {y : Mo Fl} {a0 a1 : Sl} {Q : Rs → List Sl → Prop} {X : XQ (List Sl)} : wp (fnX 2 18 y [a0, a1]) Q X = wp (y [a0, a1, .no, .no, .no, .no, .no, .no, .no, .no, .no, .no, .no, .no, .no, .no, .no, .no]) (endF [a0, a1] Q) (fun n fs ρ => gv (outs [a0, a1] ρ) fun q => X n fs q) := wp_fn rfl
theorem wp_fn3_3 {y : Mo Fl} {a0 a1 a2 : Sl} {Q : Rs → List Sl → Prop} {X : XQ (List Sl)} : wp (fnX 3 3 y [a0, a1, a2]) Q X = wp (y [a0, a1, a2]) (endF [a0, a1, a2] Q) (fun n fs ρ => gv (outs [a0, a1, a2] ρ) fun q => X n fs q) := wp_fn rfl
theorem wp_fn3_4 {y : Mo Fl} {a0 a1 a2 : Sl} {Q : Rs → List Sl → Prop} {X : XQ (List Sl)} : wp (fnX 3 4 y [a0, a1, a2]) Q X = wp (y [a0, a1, a2, .no]) (endF [a0, a1, a2] Q) (fun n fs ρ => gv (outs [a0, a1, a2] ρ) fun q => X n fs q) := wp_fn rfl
theorem wp_fn3_5 {y : Mo Fl} {a0 a1 a2 : Sl} {Q : Rs → List Sl → Prop} {X : XQ (List Sl)} : wp (fnX 3 5 y [a0, a1, a2]) Q X = wp (y [a0, a1, a2, .no, .no]) (endF [a0, a1, a2] Q) (fun n fs ρ => gv (outs [a0, a1, a2] ρ) fun q => X n fs q) := wp_fn rfl
theorem wp_fn3_6 {y : Mo Fl} {a0 a1 a2 : Sl} {Q : Rs → List Sl → Prop} {X : XQ (List Sl)} : wp (fnX 3 6 y [a0, a1, a2]) Q X = wp (y [a0, a1, a2, .no, .no, .no]) (endF [a0, a1, a2] Q) (fun n fs ρ => gv (outs [a0, a1, a2] ρ) fun q => X n fs q) := wp_fn rfl
theorem wp_fn3_7 {y : Mo Fl} {a0 a1 a2 : Sl} {Q : Rs → List Sl → Prop} {X : XQ (List Sl)} : wp (fnX 3 7 y [a0, a1, a2]) Q X = wp (y [a0, a1, a2, .no, .no, .no, .no]) (endF [a0, a1, a2] Q) (fun n fs ρ => gv (outs [a0, a1, a2] ρ) fun q => X n fs q) := wp_fn rfl
theorem wp_fn3_8 {y : Mo Fl} {a0 a1 a2 : Sl} {Q : Rs → List Sl → Prop} {X : XQ (List Sl)} : wp (fnX 3 8 y [a0, a1, a2]) Q X = wp (y [a0, a1, a2, .no, .no, .no, .no, .no]) (endF [a0, a1, a2] Q) (fun n fs ρ => gv (outs [a0, a1, a2] ρ) fun q => X n fs q) := wp_fn rfl
theorem wp_fn3_9 {y : Mo Fl} {a0 a1 a2 : Sl} {Q : Rs → List Sl → Prop} {X : XQ (List Sl)} : wp (fnX 3 9 y [a0, a1, a2]) Q X = wp (y [a0, a1, a2, .no, .no, .no, .no, .no, .no]) (endF [a0, a1, a2] Q) (fun n fs ρ => gv (outs [a0, a1, a2] ρ) fun q => X n fs q) := wp_fn rfl
theorem wp_fn3_10 {y : Mo Fl} {a0 a1 a2 : Sl} {Q : Rs → List Sl → Prop} {X : XQ (List Sl)} : wp (fnX 3 10 y [a0, a1, a2]) Q X = wp (y [a0, a1, a2, .no, .no, .no, .no, .no, .no, .no]) (endF [a0, a1, a2] Q) (fun n fs ρ => gv (outs [a0, a1, a2] ρ) fun q => X n fs q) := wp_fn rfl
theorem wp_fn3_11 {y : Mo Fl} {a0 a1 a2 : Sl} {Q : Rs → List Sl → Prop} {X : XQ (List Sl)} : wp (fnX 3 11 y [a0, a1, a2]) Q X = wp (y [a0, a1, a2, .no, .no, .no, .no, .no, .no, .no, .no]) (endF [a0, a1, a2] Q) (fun n fs ρ => gv (outs [a0, a1, a2] ρ) fun q => X n fs q) := wp_fn rfl
theorem wp_fn3_12 {y : Mo Fl} {a0 a1 a2 : Sl} {Q : Rs → List Sl → Prop} {X : XQ (List Sl)} : wp (fnX 3 12 y [a0, a1, a2]) Q X = wp (y [a0, a1, a2, .no, .no, .no, .no, .no, .no, .no, .no, .no]) (endF [a0, a1, a2] Q) (fun n fs ρ => gv (outs [a0, a1, a2] ρ) fun q => X n fs q) := wp_fn rfl
theorem wp_fn3_13 {y : Mo Fl} {a0 a1 a2 : Sl} {Q : Rs → List Sl → Prop} {X : XQ (List Sl)} : wp (fnX 3 13 y [a0, a1, a2]) Q X = wp (y [a0, a1, a2, .no, .no, .no, .no, .no, .no, .no, .no, .no, .no]) (endF [a0, a1, a2] Q) (fun n fs ρ => gv (outs [a0, a1, a2] ρ) fun q => X n fs q) := wp_fn rfl
theorem wp_fn3_14 {y : Mo Fl} {a0 a1 a2 : Sl} {Q : Rs → List Sl → Prop} {X : XQ (List Sl)} : wp (fnX 3 14 y [a0, a1, a2]) Q X = wp (y [a0, a1, a2, .no, .no, .no, .no, .no, .no, .no, .no, .no, .no, .no]) (endF [a0, a1, a2] Q) (fun n fs ρ => gv (outs [a0, a1, a2] ρ) fun q => X n fs q) := wp_fn rfl
theorem wp_fn3_15 {y : Mo Fl} {a0 a1 a2 : Sl} {Q : Rs → List Sl → Prop} {X : XQ (List Sl)} : wp (fnX 3 15 y [a0, a1, a2]) Q X = wp (y [a0, a1, a2, .no, .no, .no, .no, .no, .no, .no, .no, .no, .no, .no, .no]) (endF [a0, a1, a2] Q) (fun n fs ρ => gv (outs [a0, a1, a2] ρ) fun q => X n fs q) := wp_fn rfl
theorem wp_fn3_16 {y : Mo Fl} {a0 a1 a2 : Sl} {Q : Rs → List Sl → Prop} {X : XQ (List Sl)} : wp (fnX 3 16 y [a0, a1, a2]) Q X = wp (y [a0, a1, a2, .no, .no, .no, .no, .no, .no, .no, .no, .no, .no, .no, .no, .no]) (endF [a0, a1, a2] Q) (fun n fs ρ => gv (outs [a0, a1, a2] ρ) fun q => X n fs q) := wp_fn rfl
theorem wp_fn3_17 {y : Mo Fl} {a0 a1 a2 : Sl} {Q : Rs → List Sl → Prop} {X : XQ (List Sl)} : wp (fnX 3 17 y [a0, a1, a2]) Q X = wp (y [a0, a1, a2, .no, .no, .no, .no, .no, .no, .no, .no, .no, .no, .no, .no, .no, .no]) (endF [a0, a1, a2] Q) (fun n fs ρ => gv (outs [a0, a1, a2] ρ) fun q => X n fs q) := wp_fn rfl
theorem wp_fn3_18 {y : Mo Fl} {a0 a1 a2 : Sl} {Q : Rs → List Sl → Prop} {X : XQ (List Sl)} : wp (fnX 3 18 y [a0, a1, a2]) Q X = wp (y [a0, a1, a2, .no, .no, .no, .no, .no, .no, .no, .no, .no, .no, .no, .no, .no, .no, .no]) (endF [a0, a1, a2] Q) (fun n fs ρ => gv (outs [a0, a1, a2] ρ) fun q => X n fs q) := wp_fn rfl
theorem wp_fn3_19 {y : Mo Fl} {a0 a1 a2 : Sl} {Q : Rs → List Sl → Prop} {X : XQ (List Sl)} : wp (fnX 3 19 y [a0, a1, a2]) Q X = wp (y [a0, a1, a2, .no, .no, .no, .no, .no, .no, .no, .no, .no, .no, .no, .no, .no, .no, .no, .no]) (endF [a0, a1, a2] Q) (fun n fs ρ => gv (outs [a0, a1, a2] ρ) fun q => X n fs q) := wp_fn rfl
theorem wp_fn4_4 {y : Mo Fl} {a0 a1 a2 a3 : Sl} {Q : Rs → List Sl → Prop} {X : XQ (List Sl)} : wp (fnX 4 4 y [a0, a1, a2, a3]) Q X = wp (y [a0, a1, a2, a3]) (endF [a0, a1, a2, a3] Q) (fun n fs ρ => gv (outs [a0, a1, a2, a3] ρ) fun q => X n fs q) := wp_fn rfl
theorem wp_fn4_5 {y : Mo Fl} {a0 a1 a2 a3 : Sl} {Q : Rs → List Sl → Prop} {X : XQ (List Sl)} : wp (fnX 4 5 y [a0, a1, a2, a3]) Q X = wp (y [a0, a1, a2, a3, .no]) (endF [a0, a1, a2, a3] Q) (fun n fs ρ => gv (outs [a0, a1, a2, a3] ρ) fun q => X n fs q) := wp_fn rfl
theorem wp_fn4_6 {y : Mo Fl} {a0 a1 a2 a3 : Sl} {Q : Rs → List Sl → Prop} {X : XQ (List Sl)} : wp (fnX 4 6 y [a0, a1, a2, a3]) Q X = wp (y [a0, a1, a2, a3, .no, .no]) (endF [a0, a1, a2, a3] Q) (fun n fs ρ => gv (outs [a0, a1, a2, a3] ρ) fun q => X n fs q) := wp_fn rfl
theorem wp_fn4_7 {y : Mo Fl} {a0 a1 a2 a3 : Sl} {Q : Rs → List Sl → Prop} {X : XQ (List Sl)} : wp (fnX 4 7 y [a0, a1, a2, a3]) Q X = wp (y [a0, a1, a2, a3, .no, .no, .no]) (endF [a0, a1, a2, a3] Q) (fun n fs ρ => gv (outs [a0, a1, a2, a3] ρ) fun q => X n fs q) := wp_fn rfl
theorem wp_fn4_8 {y : Mo Fl} {a0 a1 a2 a3 : Sl} {Q : Rs → List Sl → Prop} {X : XQ (List Sl)} : wp (fnX 4 8 y [a0, a1, a2, a3]) Q X = wp (y [a0, a1, a2, a3, .no, .no, .no, .no]) (endF [a0, a1, a2, a3] Q) (fun n fs ρ => gv (outs [a0, a1, a2, a3] ρ) fun q => X n fs q) := wp_fn rfl
theorem wp_fn4_9 {y : Mo Fl} {a0 a1 a2 a3 : Sl} {Q : Rs → List Sl → Prop} {X : XQ (List Sl)} : wp (fnX 4 9 y [a0, a1, a2, a3]) Q X = wp (y [a0, a1, a2, a3, .no, .no, .no, .no, .no]) (endF [a0, a1, a2, a3] Q) (fun n fs ρ => gv (outs [a0, a1, a2, a3] ρ) fun q => X n fs q) := wp_fn rfl
theorem wp_fn4_10 {y : Mo Fl} {a0 a1 a2 a3 : Sl} {Q : Rs → List Sl → Prop} {X : XQ (List Sl)} : wp (fnX 4 10 y [a0, a1, a2, a3]) Q X = wp (y [a0, a1, a2, a3, .no, .no, .no, .no, .no, .no]) (endF [a0, a1, a2, a3] Q) (fun n fs ρ => gv (outs [a0, a1, a2, a3] ρ) fun q => X n fs q) := wp_fn rfl
theorem wp_fn4_11 {y : Mo Fl} {a0 a1 a2 a3 : Sl} {Q : Rs → List Sl → Prop} {X : XQ (List Sl)} : wp (fnX 4 11 y [a0, a1, a2, a3]) Q X = wp (y [a0, a1, a2, a3, .no, .no, .no, .no, .no, .no, .no]) (endF [a0, a1, a2, a3] Q) (fun n fs ρ => gv (outs [a0, a1, a2, a3] ρ) fun q => X n fs q) := wp_fn rfl
theorem wp_fn4_12 {y : Mo Fl} {a0 a1 a2 a3 : Sl} {Q : Rs → List Sl → Prop} {X : XQ (List Sl)} : wp (fnX 4 12 y [a0, a1, a2, a3]) Q X = wp (y [a0, a1, a2, a3, .no, .no, .no, .no, .no, .no, .no, .no]) (endF [a0, a1, a2, a3] Q) (fun n fs ρ => gv (outs [a0, a1, a2, a3] ρ) fun q => X n fs q) := wp_fn rfl
theorem wp_fn4_13 {y : Mo Fl} {a0 a1 a2 a3 : Sl} {Q : Rs → List Sl → Prop} {X : XQ (List Sl)} : wp (fnX 4 13 y [a0, a1, a2, a3]) Q X = wp (y [a0, a1, a2, a3, .no, .no, .no, .no, .no, .no, .no, .no, .no]) (endF [a0, a1, a2, a3] Q) (fun n fs ρ => gv (outs [a0, a1, a2, a3] ρ) fun q => X n fs q) := wp_fn rfl
theorem wp_fn4_14 {y : Mo Fl} {a0 a1 a2 a3 : Sl} {Q : Rs → List Sl → Prop} {X : XQ (List Sl)} : wp (fnX 4 14 y [a0, a1, a2, a3]) Q X = wp (y [a0, a1, a2, a3, .no, .no, .no, .no, .no, .no, .no, .no, .no, .no]) (endF [a0, a1, a2, a3] Q) (fun n fs ρ => gv (outs [a0, a1, a2, a3] ρ) fun q => X n fs q) := wp_fn rfl
theorem wp_fn4_15 {y : Mo Fl} {a0 a1 a2 a3 : Sl} {Q : Rs → List Sl → Prop} {X : XQ (List Sl)} : wp (fnX 4 15 y [a0, a1, a2, a3]) Q X = wp (y [a0, a1, a2, a3, .no, .no, .no, .no, .no, .no, .no, .no, .no, .no, .no]) (endF [a0, a1, a2, a3] Q) (fun n fs ρ => gv (outs [a0, a1, a2, a3] ρ) fun q => X n fs q) := wp_fn rfl
theorem wp_fn4_16 {y : Mo Fl} {a0 a1 a2 a3 : Sl} {Q : Rs → List Sl → Prop} {X : XQ (List Sl)} : wp (fnX 4 16 y [a0, a1, a2, a3]) Q X = wp (y [a0, a1, a2, a3, .no, .no, .no, .no, .no, .no, .no, .no, .no, .no, .no, .no]) (endF [a0, a1, a2, a3] Q) (fun n fs ρ => gv (outs [a0, a1, a2, a3] ρ) fun q => X n fs q) := wp_fn rfl
theorem wp_fn4_17 {y : Mo Fl} {a0 a1 a2 a3 : Sl} {Q : Rs → List Sl → Prop} {X : XQ (List Sl)} : wp (fnX 4 17 y [a0, a1, a2, a3]) Q X = wp (y [a0, a1, a2, a3, .no, .no, .no, .no, .no, .no, .no, .no, .no, .no, .no, .no, .no]) (endF [a0, a1, a2, a3] Q) (fun n fs ρ => gv (outs [a0, a1, a2, a3] ρ) fun q => X n fs q) := wp_fn rfl
theorem wp_fn4_18 {y : Mo Fl} {a0 a1 a2 a3 : Sl} {Q : Rs → List Sl → Prop} {X : XQ (List Sl)} : wp (fnX 4 18 y [a0, a1, a2, a3]) Q X = wp (y [a0, a1, a2, a3, .no, .no, .no, .no, .no, .no, .no, .no, .no, .no, .no, .no, .no, .no]) (endF [a0, a1, a2, a3] Q) (fun n fs ρ => gv (outs [a0, a1, a2, a3] ρ) fun q => X n fs q) := wp_fn rfl
theorem wp_fn4_19 {y : Mo Fl} {a0 a1 a2 a3 : Sl} {Q : Rs → List Sl → Prop} {X : XQ (List Sl)} : wp (fnX 4 19 y [a0, a1, a2, a3]) Q X = wp (y [a0, a1, a2, a3, .no, .no, .no, .no, .no, .no, .no, .no, .no, .no, .no, .no, .no, .no, .no]) (endF [a0, a1, a2, a3] Q) (fun n fs ρ => gv (outs [a0, a1, a2, a3] ρ) fun q => X n fs q) := wp_fn rfl
theorem wp_fn4_20 {y : Mo Fl} {a0 a1 a2 a3 : Sl} {Q : Rs → List Sl → Prop} {X : XQ (List Sl)} : wp (fnX 4 20 y [a0, a1, a2, a3]) Q X = wp (y [a0, a1, a2, a3, .no, .no, .no, .no, .no, .no, .no, .no, .no, .no, .no, .no, .no, .no, .no, .no]) (endF [a0, a1, a2, a3] Q) (fun n fs ρ => gv (outs [a0, a1, a2, a3] ρ) fun q => X n fs q) := wp_fn rfl
theorem wp_fn5_5 {y : Mo Fl} {a0 a1 a2 a3 a4 : Sl} {Q : Rs → List Sl → Prop} {X : XQ (List Sl)} : wp (fnX 5 5 y [a0, a1, a2, a3, a4]) Q X = wp (y [a0, a1, a2, a3, a4]) (endF [a0, a1, a2, a3, a4] Q) (fun n fs ρ => gv (outs [a0, a1, a2, a3, a4] ρ) fun q => X n fs q) := wp_fn rfl
theorem wp_fn5_6 {y : Mo Fl} {a0 a1 a2 a3 a4 : Sl} {Q : Rs → List Sl → Prop} {X : XQ (List Sl)} : wp (fnX 5 6 y [a0, a1, a2, a3, a4]) Q X = wp (y [a0, a1, a2, a3, a4, .no]) (endF [a0, a1, a2, a3, a4] Q) (fun n fs ρ => gv (outs [a0, a1, a2, a3, a4] ρ) fun q => X n fs q) := wp_fn rfl
theorem wp_fn5_7 {y : Mo Fl} {a0 a1 a2 a3 a4 : Sl} {Q : Rs → List Sl → Prop} {X : XQ (List Sl)} : wp (fnX 5 7 y [a0, a1, a2, a3, a4]) Q X = wp (y [a0, a1, a2, a3, a4, .no, .no]) (endF [a0, a1, a2, a3, a4] Q) (fun n fs ρ => gv (outs [a0, a1, a2, a3, a4] ρ) fun q => X n fs q) := wp_fn rfl
theorem wp_fn5_8 {y : Mo Fl} {a0 a1 a2 a3 a4 : Sl} {Q : Rs → List Sl → Prop} {X : XQ (List Sl)} : wp (fnX 5 8 y [a0, a1, a2, a3, a4]) Q X = wp (y [a0, a1, a2, a3, a4, .no, .no, .no]) (endF [a0, a1, a2, a3, a4] Q) (fun n fs ρ => gv (outs [a0, a1, a2, a3, a4] ρ) fun q => X n fs q) := wp_fn rfl
theorem wp_fn5_9 {y : Mo Fl} {a0 a1 a2 a3 a4 : Sl} {Q : Rs → List Sl → Prop} {X : XQ (List Sl)} : wp (fnX 5 9 y [a0, a1, a2, a3, a4]) Q X = wp (y [a0, a1, a2, a3, a4, .no, .no, .no, .no]) (endF [a0, a1, a2, a3, a4] Q) (fun n fs ρ => gv (outs [a0, a1, a2, a3, a4] ρ) fun q => X n fs q) := wp_fn rfl
theorem wp_fn5_10 {y : Mo Fl} {a0 a1 a2 a3 a4 : Sl} {Q : Rs → List Sl → Prop} {X : XQ (List Sl)} : wp (fnX 5 10 y [a0, a1, a2, a3, a4]) Q X = wp (y [a0, a1, a2, a3, a4, .no, .no, .no, .no, .no]) (endF [a0, a1, a2, a3, a4] Q) (fun n fs ρ => gv (outs [a0, a1, a2, a3, a4] ρ) fun q => X n fs q) := wp_fn rfl
theorem wp_fn5_11 {y : Mo Fl} {a0 a1 a2 a3 a4 : Sl} {Q : Rs → List Sl → Prop} {X : XQ (List Sl)} : wp (fnX 5 11 y [a0, a1, a2, a3, a4]) Q X = wp (y [a0, a1, a2, a3, a4, .no, .no, .no, .no, .no, .no]) (endF [a0, a1, a2, a3, a4] Q) (fun n fs ρ => gv (outs [a0, a1, a2, a3, a4] ρ) fun q => X n fs q) := wp_fn rfl
theorem wp_fn5_12 {y : Mo Fl} {a0 a1 a2 a3 a4 : Sl} {Q : Rs → List Sl → Prop} {X : XQ (List Sl)} : wp (fnX 5 12 y [a0, a1, a2, a3, a4]) Q X = wp (y [a0, a1, a2, a3, a4, .no, .no, .no, .no, .no, .no, .no]) (endF [a0, a1, a2, a3, a4] Q) (fun n fs ρ => gv (outs [a0, a1, a2, a3, a4] ρ) fun q => X n fs q) := wp_fn rfl
theorem wp_fn5_13 {y : Mo Fl} {a0 a1 a2 a3 a4 : Sl} {Q : Rs → List Sl → Prop} {X : XQ (List Sl)} : wp (fnX 5 13 y [a0, a1, a2, a3, a4]) Q X = wp (y [a0, a1, a2, a3, a4, .no, .no, .no, .no, .no, .no, .no, .no]) (endF [a0, a1, a2, a3, a4] Q) (fun n fs ρ => gv (outs [a0, a1, a2, a3, a4] ρ) fun q => X n fs q) := wp_fn rfl
theorem wp_fn5_14 {y : Mo Fl} {a0 a1 a2 a3 a4 : Sl} {Q : Rs → List Sl → Prop} {X : XQ (List Sl)} : wp (fnX 5 14 y [a0, a1, a2, a3, a4]) Q X = wp (y [a0, a1, a2, a3, a4, .no, .no, .no, .no, .no, .no, .no, .no, .no]) (endF [a0, a1, a2, a3, a4] Q) (fun n fs ρ => gv (outs [a0, a1, a2, a3, a4] ρ) fun q => X n fs q) := wp_fn rfl
theorem wp_fn5_15 {y : Mo Fl} {a0 a1 a2 a3 a4 : Sl} {Q : Rs → List Sl → Prop} {X : XQ (List Sl)} : wp (fnX 5 15 y [a0, a1, a2, a3, a4]) Q X = wp (y [a0, a1, a2, a3, a4, .no, .no, .no, .no, .no, .no, .no, .no, .no, .no]) (endF [a0, a1, a2, a3, a4] Q) (fun n fs ρ => gv (outs [a0, a1, a2, a3, a4] ρ) fun q => X n fs q) := wp_fn rfl
theorem wp_fn5_16 {y : Mo Fl} {a0 a1 a2 a3 a4 : Sl} {Q : Rs → List Sl → Prop} {X : XQ (List Sl)} : wp (fnX 5 16 y [a0, a1, a2, a3, a4]) Q X = wp (y [a0, a1, a2, a3, a4, .no, .no, .no, .no, .no, .no, .no, .no, .no, .no, .no]) (endF [a0, a1, a2, a3, a4] Q) (fun n fs ρ => gv (outs [a0, a1, a2, a3, a4] ρ) fun q => X n fs q) := wp_fn rfl
theorem wp_fn5_17 {y : Mo Fl} {a0 a1 a2 a3 a4 : Sl} {Q : Rs → List Sl → Prop} {X : XQ (List Sl)} : wp (fnX 5 17 y [a0, a1, a2, a3, a4]) Q X = wp (y [a0, a1, a2, a3, a4, .no, .no, .no, .no, .no, .no, .no, .no, .no, .no, .no, .no]) (endF [a0, a1, a2, a3, a4] Q) (fun n fs ρ => gv (outs [a0, a1, a2, a3, a4] ρ) fun q => X n fs q) := wp_fn rfl
theorem wp_fn5_18 {y : Mo Fl} {a0 a1 a2 a3 a4 : Sl} {Q : Rs → List Sl → Prop} {X : XQ (List Sl)} : wp (fnX 5 18 y [a0, a1, a2, a3, a4]) Q X = wp (y [a0, a1, a2, a3, a4, .no, .no, .no, .no, .no, .no, .no, .no, .no, .no, .no, .no, .no]) (endF [a0, a1, a2, a3, a4] Q) (fun n fs ρ => gv (outs [a0, a1, a2, a3, a4] ρ) fun q => X n fs q) := wp_fn rfl
theorem wp_fn5_19 {y : Mo Fl} {a0 a1 a2 a3 a4 : Sl} {Q : Rs → List Sl → Prop} {X : XQ (List Sl)} : wp (fnX 5 19 y [a0, a1, a2, a3, a4]) Q X = wp (y [a0, a1, a2, a3, a4, .no, .no, .no, .no, .no, .no, .no, .no, .no, .no, .no, .no, .no, .no]) (endF [a0, a1, a2, a3, a4] Q) (fun n fs ρ => gv (outs [a0, a1, a2, a3, a4] ρ) fun q => X n fs q) := wp_fn rfl
theorem wp_fn5_20 {y : Mo Fl} {a0 a1 a2 a3 a4 : Sl} {Q : Rs → List Sl → Prop} {X : XQ (List Sl)} : wp (fnX 5 20 y [a0, a1, a2, a3, a4]) Q X = wp (y [a0, a1, a2, a3, a4, .no, .no, .no, .no, .no, .no, .no, .no, .no, .no, .no, .no, .no, .no, .no]) (endF [a0, a1, a2, a3, a4] Q) (fun n fs ρ => gv (outs [a0, a1, a2, a3, a4] ρ) fun q => X n fs q) := wp_fn rfl
theorem wp_fn5_21 {y : Mo Fl} {a0 a1 a2 a3 a4 : Sl} {Q : Rs → List Sl → Prop} {X : XQ (List Sl)} : wp (fnX 5 21 y [a0, a1, a2, a3, a4]) Q X = wp (y [a0, a1, a2, a3, a4, .no, .no, .no, .no, .no, .no, .no, .no, .no, .no, .no, .no, .no, .no, .no, .no]) (endF [a0, a1, a2, a3, a4] Q) (fun n fs ρ => gv (outs [a0, a1, a2, a3, a4] ρ) fun q => X n fs q) := wp_fn rfl
theorem wp_fn6_6 {y : Mo Fl} {a0 a1 a2 a3 a4 a5 : Sl} {Q : Rs → List Sl → Prop} {X : XQ (List Sl)} : wp (fnX 6 6 y [a0, a1, a2, a3, a4, a5]) Q X = wp (y [a0, a1, a2, a3, a4, a5]) (endF [a0, a1, a2, a3, a4, a5] Q) (fun n fs ρ => gv (outs [a0, a1, a2, a3, a4, a5] ρ) fun q => X n fs q) := wp_fn rfl
theorem wp_fn6_7 {y : Mo Fl} {a0 a1 a2 a3 a4 a5 : Sl} {Q : Rs → List Sl → Prop} {X : XQ (List Sl)} : wp (fnX 6 7 y [a0, a1, a2, a3, a4, a5]) Q X = wp (y [a0, a1, a2, a3, a4, a5, .no]) (endF [a0, a1, a2, a3, a4, a5] Q) (fun n fs ρ => gv (outs [a0, a1, a2, a3, a4, a5] ρ) fun q => X n fs q) := wp_fn rfl
theorem wp_fn6_8 {y : Mo Fl} {a0 a1 a2 a3 a4 a5 : Sl} {Q : Rs → List Sl → Prop} {X : XQ (List Sl)} : wp (fnX 6 8 y [a0, a1, a2, a3, a4, a5]) Q X = wp (y [a0, a1, a2, a3, a4, a5, .no, .no]) (endF [a0, a1, a2, a3, a4, a5] Q) (fun n fs ρ => gv (outs [a0, a1, a2, a3, a4, a5] ρ) fun q => X n fs q) := wp_fn rfl
theorem wp_fn6_9 {y : Mo Fl} {a0 a1 a2 a3 a4 a5 : Sl} {Q : Rs → List Sl → Prop} {X : XQ (List Sl)} : wp (fnX 6 9 y [a0, a1, a2, a3, a4, a5]) Q X = wp (y [a0, a1, a2, a3, a4, a5, .no, .no, .no]) (endF [a0, a1, a2, a3, a4, a5] Q) (fun n fs ρ => gv (outs [a0, a1, a2, a3, a4, a5] ρ) fun q => X n fs q) := wp_fn rfl
theorem wp_fn6_10 {y : Mo Fl} {a0 a1 a2 a3 a4 a5 : Sl} {Q : Rs → List Sl → Prop} {X : XQ (List Sl)} : wp (fnX 6 10 y [a0, a1, a2, a3, a4, a5]) Q X = wp (y [a0, a1, a2, a3, a4, a5, .no, .no, .no, .no]) (endF [a0, a1, a2, a3, a4, a5] Q) (fun n fs ρ => gv (outs [a0, a1, a2, a3, a4, a5] ρ) fun q => X n fs q) := wp_fn rfl
theorem wp_fn6_11 {y : Mo Fl} {a0 a1 a2 a3 a4 a5 : Sl} {Q : Rs → List Sl → Prop} {X : XQ (List Sl)} : wp (fnX 6 11 y [a0, a1, a2, a3, a4, a5]) Q X = wp (y [a0, a1, a2, a3, a4, a5, .no, .no, .no, .no, .no]) (endF [a0, a1, a2, a3, a4, a5] Q) (fun n fs ρ => gv (outs [a0, a1, a2, a3, a4, a5] ρ) fun q => X n fs q) := wp_fn rfl
theorem wp_fn6_12 {y : Mo Fl} {a0 a1 a2 a3 a4 a5 : Sl} {Q : Rs → List Sl → Prop} {X : XQ (List Sl)} : wp (fnX 6 12 y [a0, a1, a2, a3, a4, a5]) Q X = wp (y [a0, a1, a2, a3, a4, a5, .no, .no, .no, .no, .no, .no]) (endF [a0, a1, a2, a3, a4, a5] Q) (fun n fs ρ => gv (outs [a0, a1, a2, a3, a4, a5] ρ) fun q => X n fs q) := wp_fn rfl
theorem wp_fn6_13 {y : Mo Fl} {a0 a1 a2 a3 a4 a5 : Sl} {Q : Rs → List Sl → Prop} {X : XQ (List Sl)} : wp (fnX 6 13 y [a0, a1, a2, a3, a4, a5]) Q X = wp (y [a0, a1, a2, a3, a4, a5, .no, .no, .no, .no, .no, .no, .no]) (endF [a0, a1, a2, a3, a4, a5] Q) (fun n fs ρ => gv (outs [a0, a1, a2, a3, a4, a5] ρ) fun q => X n fs q) := wp_fn rfl
theorem wp_fn6_14 {y : Mo Fl} {a0 a1 a2 a3 a4 a5 : Sl} {Q : Rs → List Sl → Prop} {X : XQ (List Sl)} : wp (fnX 6 14 y [a0, a1, a2, a3, a4, a5]) Q X = wp (y [a0, a1, a2, a3, a4, a5, .no, .no, .no, .no, .no, .no, .no, .no]) (endF [a0, a1, a2, a3, a4, a5] Q) (fun n fs ρ => gv (outs [a0, a1, a2, a3, a4, a5] ρ) fun q => X n fs q) := wp_fn rfl
theorem wp_fn6_15 {y : Mo Fl} {a0 a1 a2 a3 a4 a5 : Sl} {Q : Rs → List Sl → Prop} {X : XQ (List Sl)} : wp (fnX 6 15 y [a0, a1, a2, a3, a4, a5]) Q X = wp (y [a0, a1, a2, a3, a4, a5, .no, .no, .no, .no, .no, .no, .no, .no, .no]) (endF [a0, a1, a2, a3, a4, a5] Q) (fun n fs ρ => gv (outs [a0, a1, a2, a3, a4, a5] ρ) fun q => X n fs q) := wp_fn rfl
theorem wp_fn6_16 {y : Mo Fl} {a0 a1 a2 a3 a4 a5 : Sl} {Q : Rs → List Sl → Prop} {X : XQ (List Sl)} : wp (fnX 6 16 y [a0, a1, a2, a3, a4, a5]) Q X = wp (y [a0, a1, a2, a3, a4, a5, .no, .no, .no, .no, .no, .no, .no, .no, .no, .no]) (endF [a0, a1, a2, a3, a4, a5] Q) (fun n fs ρ => gv (outs [a0, a1, a2, a3, a4, a5] ρ) fun q => X n fs q) := wp_fn rfl
theorem wp_fn6_17 {y : Mo Fl} {a0 a1 a2 a3 a4 a5 : Sl} {Q : Rs → List Sl → Prop} {X : XQ (List Sl)} : wp (fnX 6 17 y [a0, a1, a2, a3, a4, a5]) Q X = wp (y [a0, a1, a2, a3, a4, a5, .no, .no, .no, .no, .no, .no, .no, .no, .no, .no, .no]) (endF [a0, a1, a2, a3, a4, a5] Q) (fun n fs ρ => gv (outs [a0, a1, a2, a3, a4, a5] ρ) fun q => X n fs q) := wp_fn rfl
theorem wp_fn6_18 {y : Mo Fl} {a0 a1 a2 a3 a4 a5 : Sl} {Q : Rs → List Sl → Prop} {X : XQ (List Sl)} : wp (fnX 6 18 y [a0, a1, a2, a3, a4, a5]) Q X = wp (y [a0, a1, a2, a3, a4, a5, .no, .no, .no, .no, .no, .no, .no, .no, .no, .no, .no, .no]) (endF [a0, a1, a2, a3, a4, a5] Q) (fun n fs ρ => gv (outs [a0, a1, a2, a3, a4, a5] ρ) fun q => X n fs q) := wp_fn rfl
theorem wp_fn6_19 {y : Mo Fl} {a0 a1 a2 a3 a4 a5 : Sl} {Q : Rs → List Sl → Prop} {X : XQ (List Sl)} : wp (fnX 6 19 y [a0, a1, a2, a3, a4, a5]) Q X = wp (y [a0, a1, a2, a3, a4, a5, .no, .no, .no, .no, .no, .no, .no, .no, .no, .no, .no, .no, .no]) (endF [a0, a1, a2, a3, a4, a5] Q) (fun n fs ρ => gv (outs [a0, a1, a2, a3, a4, a5] ρ) fun q => X n fs q) := wp_fn rfl
theorem wp_fn6_20 {y : Mo Fl} {a0 a1 a2 a3 a4 a5 : Sl} {Q : Rs → List Sl → Prop} {X : XQ (List Sl)} : wp (fnX 6 20 y [a0, a1, a2, a3, a4, a5]) Q X = wp (y [a0, a1, a2, a3, a4, a5, .no, .no, .no, .no, .no, .no, .no, .no, .no, .no, .no, .no, .no, .no]) (endF [a0, a1, a2, a3, a4, a5] Q) (fun n fs ρ => gv (outs [a0, a1, a2, a3, a4, a5] ρ) fun q => X n fs q) := wp_fn rfl
theorem wp_fn6_21 {y : Mo Fl} {a0 a1 a2 a3 a4 a5 : Sl} {Q : Rs → List Sl → Prop} {X : XQ (List Sl)} : wp (fnX 6 21 y [a0, a1, a2, a3, a4, a5]) Q X = wp (y [a0, a1, a2, a3, a4, a5, .no, .no, .no, .no, .no, .no, .no, .no, .no, .no, .no, .no, .no, .no, .no]) (endF [a0, a1, a2, a3, a4, a5] Q) (fun n fs ρ => gv (outs [a0, a1, a2, a3, a4, a5] ρ) fun q => X n fs q) := wp_fn rfl
theorem wp_fn6_22 {y : Mo Fl} {a0 a1 a2 a3 a4 a5 : Sl} {Q : Rs → List Sl → Prop} {X : XQ (List Sl)} : wp (fnX 6 22 y [a0, a1, a2, a3, a4, a5]) Q X = wp (y [a0, a1, a2, a3, a4, a5, .no, .no, .no, .no, .no, .no, .no, .no, .no, .no, .no, .no, .no, .no, .no, .no]) (endF [a0, a1, a2, a3, a4, a5] Q) (fun n fs ρ => gv (outs [a0, a1, a2, a3, a4, a5] ρ) fun q => X n fs q) := wp_fn rfl
theorem wp_fn7_7 {y : Mo Fl} {a0 a1 a2 a3 a4 a5 a6 : Sl} {Q : Rs → List Sl → Prop} {X : XQ (List Sl)} : wp (fnX 7 7 y [a0, a1, a2, a3, a4, a5, a6]) Q X = wp (y [a0, a1, a2, a3, a4, a5, a6]) (endF [a0, a1, a2, a3, a4, a5, a6] Q) (fun n fs ρ => gv (outs [a0, a1, a2, a3, a4, a5, a6] ρ) fun q => X n fs q) := wp_fn rfl
theorem wp_fn7_8 {y : Mo Fl} {a0 a1 a2 a3 a4 a5 a6 : Sl} {Q : Rs → List Sl → Prop} {X : XQ (List Sl)} : wp (fnX 7 8 y [a0, a1, a2, a3, a4, a5, a6]) Q X = wp (y [a0, a1, a2, a3, a4, a5, a6, .no]) (endF [a0, a1, a2, a3, a4, a5, a6] Q) (fun n fs ρ => gv (outs [a0, a1, a2, a3, a4, a5, a6] ρ) fun q => X n fs q) := wp_fn rfl
theorem wp_fn7_9 {y : Mo Fl} {a0 a1 a2 a3 a4 a5 a6 : Sl} {Q : Rs → List Sl → Prop} {X : XQ (List Sl)} : wp (fnX 7 9 y [a0, a1, a2, a3, a4, a5, a6]) Q X = wp (y [a0, a1, a2, a3, a4, a5, a6, .no, .no]) (endF [a0, a1, a2, a3, a4, a5, a6] Q) (fun n fs ρ => gv (outs [a0, a1, a2, a3, a4, a5, a6] ρ) fun q => X n fs q) := wp_fn rfl
theorem wp_fn7_10 {y : Mo Fl} {a0 a1 a2 a3 a4 a5 a6 : Sl} {Q : Rs → List Sl → Prop} {X : XQ (List Sl)} : wp (fnX 7 10 y [a0, a1, a2, a3, a4, a5, a6]) Q X = wp (y [a0, a1, a2, a3, a4, a5, a6, .no, .no, .no]) (endF [a0, a1, a2, a3, a4, a5, a6] Q) (fun n fs ρ => gv (outs [a0, a1, a2, a3, a4, a5, a6] ρ) fun q => X n fs q) := wp_fn rfl
theorem wp_fn7_11 {y : Mo Fl} {a0 a1 a2 a3 a4 a5 a6 : Sl} {Q : Rs → List Sl → Prop} {X : XQ (List Sl)} : wp (fnX 7 11 y [a0, a1, a2, a3, a4, a5, a6]) Q X = wp (y [a0, a1, a2, a3, a4, a5, a6, .no, .no, .no, .no]) (endF [a0, a1, a2, a3, a4, a5, a6] Q) (fun n fs ρ => gv (outs [a0, a1, a2, a3, a4, a5, a6] ρ) fun q => X n fs q) := wp_fn rfl
theorem wp_fn7_12 {y : Mo Fl} {a0 a1 a2 a3 a4 a5 a6 : Sl} {Q : Rs → List Sl → Prop} {X : XQ (List Sl)} : wp (fnX 7 12 y [a0, a1, a2, a3, a4, a5, a6]) Q X = wp (y [a0, a1, a2, a3, a4, a5, a6, .no, .no, .no, .no, .no]) (endF [a0, a1, a2, a3, a4, a5, a6] Q) (fun n fs ρ => gv (outs [a0, a1, a2, a3, a4, a5, a6] ρ) fun q => X n fs q) := wp_fn rfl
theorem wp_fn7_13 {y : Mo Fl} {a0 a1 a2 a3 a4 a5 a6 : Sl} {Q : Rs → List Sl → Prop} {X : XQ (List Sl)} : wp (fnX 7 13 y [a0, a1, a2, a3, a4, a5, a6]) Q X = wp (y [a0, a1, a2, a3, a4, a5, a6, .no, .no, .no, .no, .no, .no]) (endF [a0, a1, a2, a3, a4, a5, a6] Q) (fun n fs ρ => gv (outs [a0, a1, a2, a3, a4, a5, a6] ρ) fun q => X n fs q) := wp_fn rfl
theorem wp_fn7_14 {y : Mo Fl} {a0 a1 a2 a3 a4 a5 a6 : Sl} {Q : Rs → List Sl → Prop} {X : XQ (List Sl)} : wp (fnX 7 14 y [a0, a1, a2, a3, a4, a5, a6]) Q X = wp (y [a0, a1, a2, a3, a4, a5, a6, .no, .no, .no, .no, .no, .no, .no]) (endF [a0, a1, a2, a3, a4, a5, a6] Q) (fun n fs ρ => gv (outs [a0, a1, a2, a3, a4, a5, a6] ρ) fun q => X n fs q) := wp_fn rfl
theorem wp_fn7_15 {y : Mo Fl} {a0 a1 a2 a3 a4 a5 a6 : Sl} {Q : Rs → List Sl → Prop} {X : XQ (List Sl)} : wp (fnX 7 15 y [a0, a1, a2, a3, a4, a5, a6]) Q X = wp (y [a0, a1, a2, a3, a4, a5, a6, .no, .no, .no, .no, .no, .no, .no, .no]) (endF [a0, a1, a2, a3, a4, a5, a6] Q) (fun n fs ρ => gv (outs [a0, a1, a2, a3, a4, a5, a6] ρ) fun q => X n fs q) := wp_fn rfl
theorem wp_fn7_16 {y : Mo Fl} {a0 a1 a2 a3 a4 a5 a6 : Sl} {Q : Rs → List Sl → Prop} {X : XQ (List Sl)} : wp (fnX 7 16 y [a0, a1, a2, a3, a4, a5, a6]) Q X = wp (y [a0, a1, a2, a3, a4, a5, a6, .no, .no, .no, .no, .no, .no, .no, .no, .no]) (endF [a0, a1, a2, a3, a4, a5, a6] Q) (fun n fs ρ => gv (outs [a0, a1, a2, a3, a4, a5, a6] ρ) fun q => X n fs q) := wp_fn rfl
theorem wp_fn7_17 {y : Mo Fl} {a0 a1 a2 a3 a4 a5 a6 : Sl} {Q : Rs → List Sl → Prop} {X : XQ (List Sl)} : wp (fnX 7 17 y [a0, a1, a2, a3, a4, a5, a6]) Q X = wp (y [a0, a1, a2, a3, a4, a5, a6, .no, .no, .no, .no, .no, .no, .no, .no, .no, .no]) (endF [a0, a1, a2, a3, a4, a5, a6] Q) (fun n fs ρ => gv (outs [a0, a1, a2, a3, a4, a5, a6] ρ) fun q => X n fs q) := wp_fn rfl
theorem wp_fn7_18 {y : Mo Fl} {a0 a1 a2 a3 a4 a5 a6 : Sl} {Q : Rs → List Sl → Prop} {X : XQ (List Sl)} : wp (fnX 7 18 y [a0, a1, a2, a3, a4, a5, a6]) Q X = wp (y [a0, a1, a2, a3, a4, a5, a6, .no, .no, .no, .no, .no, .no, .no, .no, .no, .no, .no]) (endF [a0, a1, a2, a3, a4, a5, a6] Q) (fun n fs ρ => gv (outs [a0, a1, a2, a3, a4, a5, a6] ρ) fun q => X n fs q) := wp_fn rfl
theorem wp_fn7_19 {y : Mo Fl} {a0 a1 a2 a3 a4 a5 a6 : Sl} {Q : Rs → List Sl → Prop} {X : XQ (List Sl)} : wp (fnX 7 19 y [a0, a1, a2, a3, a4, a5, a6]) Q X = wp (y [a0, a1, a2, a3, a4, a5, a6, .no, .no, .no, .no, .no, .no, .no, .no, .no, .no, .no, .no]) (endF [a0, a1, a2, a3, a4, a5, a6] Q) (fun n fs ρ => gv (outs [a0, a1, a2, a3, a4, a5, a6] ρ) fun q => X n fs q) := wp_fn rfl
theorem wp_fn7_20 {y : Mo Fl} {a0 a1 a2 a3 a4 a5 a6 : Sl} {Q : Rs → List Sl → Prop} {X : XQ (List Sl)} : wp (fnX 7 20 y [a0, a1, a2, a3, a4, a5, a6]) Q X = wp (y [a0, a1, a2, a3, a4, a5, a6, .no, .no, .no, .no, .no, .no, .no, .no, .no, .no, .no, .no, .no]) (endF [a0, a1, a2, a3, a4, a5, a6] Q) (fun n fs ρ => gv (outs [a0, a1, a2, a3, a4, a5, a6] ρ) fun q => X n fs q) := wp_fn rfl
theorem wp_fn7_21 {y : Mo Fl} {a0 a1 a2 a3 a4 a5 a6 : Sl} {Q : Rs → List Sl → Prop} {X : XQ (List Sl)} : wp (fnX 7 21 y [a0, a1, a2, a3, a4, a5, a6]) Q X = wp (y [a0, a1, a2, a3, a4, a5, a6, .no, .no, .no, .no, .no, .no, .no, .no, .no, .no, .no, .no, .no, .no]) (endF [a0, a1, a2, a3, a4, a5, a6] Q) (fun n fs ρ => gv (outs [a0, a1, a2, a3, a4, a5, a6] ρ) fun q => X n fs q) := wp_fn rfl
theorem wp_fn7_22 {y : Mo Fl} {a0 a1 a2 a3 a4 a5 a6 : Sl} {Q : Rs → List Sl → Prop} {X : XQ (List Sl)} : wp (fnX 7 22 y [a0, a1, a2, a3, a4, a5, a6]) Q X = wp (y [a0, a1, a2, a3, a4, a5, a6, .no, .no, .no, .no, .no, .no, .no, .no, .no, .no, .no, .no, .no, .no, .no]) (endF [a0, a1, a2, a3, a4, a5, a6] Q) (fun n fs ρ => gv (outs [a0, a1, a2, a3, a4, a5, a6] ρ) fun q => X n fs q) := wp_fn rfl
theorem wp_fn7_23 {y : Mo Fl} {a0 a1 a2 a3 a4 a5 a6 : Sl} {Q : Rs → List Sl → Prop} {X : XQ (List Sl)} : wp (fnX 7 23 y [a0, a1, a2, a3, a4, a5, a6]) Q X = wp (y [a0, a1, a2, a3, a4, a5, a6, .no, .no, .no, .no, .no, .no, .no, .no, .no, .no, .no, .no, .no, .no, .no, .no]) (endF [a0, a1, a2, a3, a4, a5, a6] Q) (fun n fs ρ => gv (outs [a0, a1, a2, a3, a4, a5, a6] ρ) fun q => X n fs q) := wp_fn rfl
theorem wp_fn8_8 {y : Mo Fl} {a0 a1 a2 a3 a4 a5 a6 a7 : Sl} {Q : Rs → List Sl → Prop} {X : XQ (List Sl)} : wp (fnX 8 8 y [a0, a1, a2, a3, a4, a5, a6, a7]) Q X = wp (y [a0, a1, a2, a3, a4, a5, a6, a7]) (endF [a0, a1, a2, a3, a4, a5, a6, a7] Q) (fun n fs ρ => gv (outs [a0, a1, a2, a3, a4, a5, a6, a7] ρ) fun q => X n fs q) := wp_fn rfl
theorem wp_fn8_9 {y : Mo Fl} {a0 a1 a2 a3 a4 a5 a6 a7 : Sl} {Q : Rs → List Sl → Prop} {X : XQ (List Sl)} : wp (fnX 8 9 y [a0, a1, a2, a3, a4, a5, a6, a7]) Q X = wp (y [a0, a1, a2, a3, a4, a5, a6, a7, .no]) (endF [a0, a1, a2, a3, a4, a5, a6, a7] Q) (fun n fs ρ => gv (outs [a0, a1, a2, a3, a4, a5, a6, a7] ρ) fun q => X n fs q) := wp_fn rfl
theorem wp_fn8_10 {y : Mo Fl} {a0 a1 a2 a3 a4 a5 a6 a7 : Sl} {Q : Rs → List Sl → Prop} {X : XQ (List Sl)} : wp (fnX 8 10 y [a0, a1, a2, a3, a4, a5, a6, a7]) Q X = wp (y [a0, a1, a2, a3, a4, a5, a6, a7, .no, .no]) (endF [a0, a1, a2, a3, a4, a5, a6, a7] Q) (fun n fs ρ => gv (outs [a0, a1, a2, a3, a4, a5, a6, a7] ρ) fun q => X n fs q) := wp_fn rfl
theorem wp_fn8_11 {y : Mo Fl} {a0 a1 a2 a3 a4 a5 a6 a7 : Sl} {Q : Rs → List Sl → Prop} {X : XQ (List Sl)} : wp (fnX 8 11 y [a0, a1, a2, a3, a4, a5, a6, a7]) Q X = wp (y [a0, a1, a2, a3, a4, a5, a6, a7, .no, .no, .no]) (endF [a0, a1, a2, a3, a4, a5, a6, a7] Q) (fun n fs ρ => gv (outs [a0, a1, a2, a3, a4, a5, a6, a7] ρ) fun q => X n fs q) := wp_fn rfl
theorem wp_fn8_12 {y : Mo Fl} {a0 a1 a2 a3 a4 a5 a6 a7 : Sl} {Q : Rs → List Sl → Prop} {X : XQ (List Sl)} : wp (fnX 8 12 y [a0, a1, a2, a3, a4, a5, a6, a7]) Q X = wp (y [a0, a1, a2, a3, a4, a5, a6, a7, .no, .no, .no, .no]) (endF [a0, a1, a2, a3, a4, a5, a6, a7] Q) (fun n fs ρ => gv (outs [a0, a1, a2, a3, a4, a5, a6, a7] ρ) fun q => X n fs q) := wp_fn rfl
theorem wp_fn8_13 {y : Mo Fl} {a0 a1 a2 a3 a4 a5 a6 a7 : Sl} {Q : Rs → List Sl → Prop} {X : XQ (List Sl)} : wp (fnX 8 13 y [a0, a1, a2, a3, a4, a5, a6, a7]) Q X = wp (y [a0, a1, a2, a3, a4, a5, a6, a7, .no, .no, .no, .no, .no]) (endF [a0, a1, a2, a3, a4, a5, a6, a7] Q) (fun n fs ρ => gv (outs [a0, a1, a2, a3, a4, a5, a6, a7] ρ) fun q => X n fs q) := wp_fn rfl
theorem wp_fn8_14 {y : Mo Fl} {a0 a1 a2 a3 a4 a5 a6 a7 : Sl} {Q : Rs → List Sl → Prop} {X : XQ (List Sl)} : wp (fnX 8 14 y [a0, a1, a2, a3, a4, a5, a6, a7]) Q X = wp (y [a0, a1, a2, a3, a4, a5, a6, a7, .no, .no, .no, .no, .no, .no]) (endF [a0, a1, a2, a3, a4, a5, a6, a7] Q) (fun n fs ρ => gv (outs [a0, a1, a2, a3, a4, a5, a6, a7] ρ) fun q => X n fs q) := wp_fn rfl
theorem wp_fn8_15 {y : Mo Fl} {a0 a1 a2 a3 a4 a5 a6 a7 : Sl} {Q : Rs → List Sl → Prop} {X : XQ (List Sl)} : wp (fnX 8 15 y [a0, a1, a2, a3, a4, a5, a6, a7]) Q X = wp (y [a0, a1, a2, a3, a4, a5, a6, a7, .no, .no, .no, .no, .no, .no, .no]) (endF [a0, a1, a2, a3, a4, a5, a6, a7] Q) (fun n fs ρ => gv (outs [a0, a1, a2, a3, a4, a5, a6, a7] ρ) fun q => X n fs q) := wp_fn rfl
theorem wp_fn8_16 {y : Mo Fl} {a0 a1 a2 a3 a4 a5 a6 a7 : Sl} {Q : Rs → List Sl → Prop} {X : XQ (List Sl)} : wp (fnX 8 16 y [a0, a1, a2, a3, a4, a5, a6, a7]) Q X = wp (y [a0, a1, a2, a3, a4, a5, a6, a7, .no, .no, .no, .no, .no, .no, .no, .no]) (endF [a0, a1, a2, a3, a4, a5, a6, a7] Q) (fun n fs ρ => gv (outs [a0, a1, a2, a3, a4, a5, a6, a7] ρ) fun q => X n fs q) := wp_fn rfl
theorem wp_fn8_17 {y : Mo Fl} {a0 a1 a2 a3 a4 a5 a6 a7 : Sl} {Q : Rs → List Sl → Prop} {X : XQ (List Sl)} : wp (fnX 8 17 y [a0, a1, a2, a3, a4, a5, a6, a7]) Q X = wp (y [a0, a1, a2, a3, a4, a5, a6, a7, .no, .no, .no, .no, .no, .no, .no, .no, .no]) (endF [a0, a1, a2, a3, a4, a5, a6, a7] Q) (fun n fs ρ => gv (outs [a0, a1, a2, a3, a4, a5, a6, a7] ρ) fun q => X n fs q) := wp_fn rfl
theorem wp_fn8_18 {y : Mo Fl} {a0 a1 a2 a3 a4 a5 a6 a7 : Sl} {Q : Rs → List Sl → Prop} {X : XQ (List Sl)} : wp (fnX 8 18 y [a0, a1, a2, a3, a4, a5, a6, a7]) Q X = wp (y [a0, a1, a2, a3, a4, a5, a6, a7, .no, .no, .no, .no, .no, .no, .no, .no, .no, .no]) (endF [a0, a1, a2, a3, a4, a5, a6, a7] Q) (fun n fs ρ => gv (outs [a0, a1, a2, a3, a4, a5, a6, a7] ρ) fun q => X n fs q) := wp_fn rfl
theorem wp_fn8_19 {y : Mo Fl} {a0 a1 a2 a3 a4 a5 a6 a7 : Sl} {Q : Rs → List Sl → Prop} {X : XQ (List Sl)} : wp (fnX 8 19 y [a0, a1, a2, a3, a4, a5, a6, a7]) Q X = wp (y [a0, a1, a2, a3, a4, a5, a6, a7, .no, .no, .no, .no, .no, .no, .no, .no, .no, .no, .no]) (endF [a0, a1, a2, a3, a4, a5, a6, a7] Q) (fun n fs ρ => gv (outs [a0, a1, a2, a3, a4, a5, a6, a7] ρ) fun q => X n fs q) := wp_fn rfl
theorem wp_fn8_20 {y : Mo Fl} {a0 a1 a2 a3 a4 a5 a6 a7 : Sl} {Q : Rs → List Sl → Prop} {X : XQ (List Sl)} : wp (fnX 8 20 y [a0, a1, a2, a3, a4, a5, a6, a7]) Q X = wp (y [a0, a1, a2, a3, a4, a5, a6, a7, .no, .no, .no, .no, .no, .no, .no, .no, .no, .no, .no, .no]) (endF [a0, a1, a2, a3, a4, a5, a6, a7] Q) (fun n fs ρ => gv (outs [a0, a1, a2, a3, a4, a5, a6, a7] ρ) fun q => X n fs q) := wp_fn rfl
theorem wp_fn8_21 {y : Mo Fl} {a0 a1 a2 a3 a4 a5 a6 a7 : Sl} {Q : Rs → List Sl → Prop} {X : XQ (List Sl)} : wp (fnX 8 21 y [a0, a1, a2, a3, a4, a5, a6, a7]) Q X = wp (y [a0, a1, a2, a3, a4, a5, a6, a7, .no, .no, .no, .no, .no, .no, .no, .no, .no, .no, .no, .no, .no]) (endF [a0, a1, a2, a3, a4, a5, a6, a7] Q) (fun n fs ρ => gv (outs [a0, a1, a2, a3, a4, a5, a6, a7] ρ) fun q => X n fs q) := wp_fn rfl
theorem wp_fn8_22 {y : Mo Fl} {a0 a1 a2 a3 a4 a5 a6 a7 : Sl} {Q : Rs → List Sl → Prop} {X : XQ (List Sl)} : wp (fnX 8 22 y [a0, a1, a2, a3, a4, a5, a6, a7]) Q X = wp (y [a0, a1, a2, a3, a4, a5, a6, a7, .no, .no, .no, .no, .no, .no, .no, .no, .no, .no, .no, .no, .no, .no]) (endF [a0, a1, a2, a3, a4, a5, a6, a7] Q) (fun n fs ρ => gv (outs [a0, a1, a2, a3, a4, a5, a6, a7] ρ) fun q => X n fs q) := wp_fn rfl
theorem wp_fn8_23 {y : Mo Fl} {a0 a1 a2 a3 a4 a5 a6 a7 : Sl} {Q : Rs → List Sl → Prop} {X : XQ (List Sl)} : wp (fnX 8 23 y [a0, a1, a2, a3, a4, a5, a6, a7]) Q X = wp (y [a0, a1, a2, a3, a4, a5, a6, a7, .no, .no, .no, .no, .no, .no, .no, .no, .no, .no, .no, .no, .no, .no, .no]) (endF [a0, a1, a2, a3, a4, a5, a6, a7] Q) (fun n fs ρ => gv (outs [a0, a1, a2, a3, a4, a5, a6, a7] ρ) fun q => X n fs q) := wp_fn rfl
theorem wp_fn8_24 {y : Mo Fl} {a0 a1 a2 a3 a4 a5 a6 a7 : Sl} {Q : Rs → List Sl → Prop} {X : XQ (List Sl)} : wp (fnX 8 24 y [a0, a1, a2, a3, a4, a5, a6, a7]) Q X = wp (y [a0, a1, a2, a3, a4, a5, a6, a7, .no, .no, .no, .no, .no, .no, .no, .no, .no, .no, .no, .no, .no, .no, .no, .no]) (endF [a0, a1, a2, a3, a4, a5, a6, a7] Q) (fun n fs ρ => gv (outs [a0, a1, a2, a3, a4, a5, a6, a7] ρ) fun q => X n fs q) := wp_fn rfl
theorem gTp_k1 {k : Bool} {ts : Tgs} {a0 : PyData} {ρ : En} : gTp 1 ts (sqd k [a0]) ρ = ts [a0] ρ := gTp_k rfl
theorem gTp_l1 {ts : Tgs} {a0 : PyData} {ρ : En} : gTp 1 ts (.list [a0]) ρ = ts [a0] ρ := gTp_l rfl
theorem gTp_t1 {ts : Tgs} {a0 : PyData} {ρ : En} : gTp 1 ts (.tuple [a0]) ρ = ts [a0] ρ := gTp_t rfl
theorem gTp_k2 {k : Bool} {ts : Tgs} {a0 a1 : PyData} {ρ : En} : gTp 2 ts (sqd k [a0, a1]) ρ = ts [a0, a1] ρ := gTp_k rfl
theorem gTp_l2 {ts : Tgs} {a0 a1 : PyData} {ρ : En} : gTp 2 ts (.list [a0, a1]) ρ = ts [a0, a1] ρ := gTp_l rfl
theorem gTp_t2 {ts : Tgs} {a0 a1 : PyData} {ρ : En} : gTp 2 ts (.tuple [a0, a1]) ρ = ts [a0, a1] ρ := gTp_t rfl
theorem gTp_k3 {k : Bool} {ts : Tgs} {a0 a1 a2 : PyData} {ρ : En} : gTp 3 ts (sqd k [a0, a1, a2]) ρ = ts [a0, a1, a2] ρ := gTp_k rfl
theorem gTp_l3 {ts : Tgs} {a0 a1 a2 : PyData} {ρ : En} : gTp 3 ts (.list [a0, a1, a2]) ρ = ts [a0, a1, a2] ρ := gTp_l rfl
theorem gTp_t3 {ts : Tgs} {a0 a1 a2 : PyData} {ρ : En} : gTp 3 ts (.tuple [a0, a1, a2]) ρ = ts [a0, a1, a2] ρ := gTp_t rfl
theorem gTp_k4 {k : Bool} {ts : Tgs} {a0 a1 a2 a3 : PyData} {ρ : En} : gTp 4 ts (sqd k [a0, a1, a2, a3]) ρ = ts [a0, a1, a2, a3] ρ := gTp_k rfl
theorem gTp_l4 {ts : Tgs} {a0 a1 a2 a3 : PyData} {ρ : En} : gTp 4 ts (.list [a0, a1, a2, a3]) ρ = ts [a0, a1, a2, a3] ρ := gTp_l rfl
theorem gTp_t4 {ts : Tgs} {a0 a1 a2 a3 : PyData} {ρ : En} : gTp 4 ts (.tuple [a0, a1, a2, a3]) ρ = ts [a0, a1, a2, a3] ρ := gTp_t rfl
theorem gTp_k5 {k : Bool} {ts : Tgs} {a0 a1 a2 a3 a4 : PyData} {ρ : En} : gTp 5 ts (sqd k [a0, a1, a2, a3, a4]) ρ = ts [a0, a1, a2, a3, a4] ρ := gTp_k rfl
theorem gTp_l5 {ts : Tgs} {a0 a1 a2 a3 a4 : PyData} {ρ : En} : gTp 5 ts (.list [a0, a1, a2, a3, a4]) ρ = ts [a0, a1, a2, a3, a4] ρ := gTp_l rfl
theorem gTp_t5 {ts : Tgs} {a0 a1 a2 a3 a4 : PyData} {ρ : En} : gTp 5 ts (.tuple [a0, a1, a2, a3, a4]) ρ = ts [a0, a1, a2, a3, a4] ρ := gTp_t rfl
theorem gSl_l {lo hi : Option Int} {xs : List PyData} : gSl lo hi (.list xs) = some (.new (cutD xs lo hi)) := rfl
theorem gSl_t {lo hi : Option Int} {xs : List PyData} : gSl lo hi (.tuple xs) = some (.dt (.tuple (cutD xs lo hi))) := rfl
theorem gSl_s {lo hi : Option Int} {z : Str} (h : z.length ≤ 16777216) : gSl lo hi (.str z) = some (.dt (.str (cutS z lo hi))) := if_pos h
theorem cut_hi {α : Type} {xs : List α} {n : Int} (h : 0 ≤ n) : cutD xs none (some n) = xs.take n.toNat := by
  unfold cutD
  rw [HT.sIx_none]
  have e : n = (n.toNat : Int) := by omega
  rw [e, HT.sIx_nat, Int.toNat_natCast, List.drop_zero, Nat.sub_zero]
  rcases Nat.le_total n.toNat xs.length with h1 | h1
  · rw [Nat.min_eq_left h1]
  · rw [Nat.min_eq_right h1, List.take_length, List.take_of_length_le h1]
theorem cut_lo {α : Type} {xs : List α} {n : Int} (h : 0 ≤ n) : cutD xs (some n) none = xs.drop n.toNat := by
  unfold cutD
  rw [HT.sIx_none]
  have e : n = (n.toNat : Int) := by omega
  rw [e, HT.sIx_nat, Int.toNat_natCast]
  rcases Nat.le_total n.toNat xs.length with h1 | h1
  · rw [Nat.min_eq_left h1, List.take_of_length_le (by simp)]
  · rw [Nat.min_eq_right h1, Nat.sub_self, List.take_zero, List.drop_of_length_le h1]
theorem cut_in {α : Type} {xs : List α} {i n : Int} (h0 : 0 ≤ i) (h : 0 ≤ n) : cutD xs (some i) (some n) = (xs.take n.toNat).drop i.toNat := by
  unfold cutD
  have e : n = (n.toNat : Int) := by omega
  have e2 : i = (i.toNat : Int) := by omega
  rw [e, HT.sIx_nat, e2, HT.sIx_nat, Int.toNat_natCast, Int.toNat_natCast, List.drop_take]
  rcases Nat.le_total i.toNat xs.length with h1 | h1
  · rw [Nat.min_eq_left h1]
    rcases Nat.le_total n.toNat xs.length with h2 | h2
    · rw [Nat.min_eq_left h2]
    · rw [Nat.min_eq_right h2, List.take_of_length_le (by simp), List.take_of_length_le (by simp; omega)]
  · rw [Nat.min_eq_right h1, List.drop_of_length_le (Nat.le_refl _), List.drop_of_length_le h1, List.take_nil, List.take_nil]
/-- a box: the first number, the seed, the count -/
def Bx (m : Int) (b : List PyData) : Prop := ∃ a s z : Int, b = [.int a, .int s, .int z] ∧ 0 ≤ s ∧ s < 4611686018427387904 ∧ 0 ≤ z ∧ z ≤ m
theorem Bx.mono {m n : Int} {b : List PyData} (h : Bx m b) (i : m ≤ n) : Bx n b := by
  obtain ⟨a, s, z, e, h1, h2, h3, h4⟩ := h
  exact ⟨a, s, z, e, h1, h2, h3, by omega⟩
end Dl
end

section
set_option Elab.async false
set_option linter.all false
set_option maxRecDepth 100000
namespace Dl
open PySem PySem.Spec PyProof.Rows L2
section
variable {ι κ : Type} {tg : Tg} {body : Mo Fl} {QF : Fl → En → Prop} {X : XQ En} {ρ : En}
/-- the loop over coded items -/
theorem for_map {enc : ι → PyData} (I : List ι → En → Prop) : ∀ {xs : List ι} {ρ : En}, I xs ρ → (∀ a xs ρ, I (a :: xs) ρ → gv (tg (enc a) ρ) fun ρ1 => wp (body ρ1) (turnQ (I xs) QF) X) → (∀ ρ, I [] ρ → QF .nx ρ) → wp (forX tg body (xs.map enc) ρ) QF X
  | [], ρ, h, _, e => by rw [List.map_nil, wp_forNil]; exact e ρ h
  | a :: xs, ρ, h, s, e => by
    rw [List.map_cons, wp_forCons]
    refine gv_mono (s a xs ρ h) fun ρ1 k => wp_mono k (fun f ρ2 q => ?_) fun _ _ _ q => q
    cases f with
    | nx => exact for_map I q s e
    | ct => exact for_map I q s e
    | bk => exact q
    | rt r => exact q
theorem for_enum (I : Nat → List PyData → En → Prop) : ∀ {k : Nat} {xs : List PyData} {ρ : En}, I k xs ρ → (∀ k d xs ρ, I k (d :: xs) ρ → gv (tg (.tuple [.int k, d]) ρ) fun ρ1 => wp (body ρ1) (turnQ (I (k + 1) xs) QF) X) → (∀ k ρ, I k [] ρ → QF .nx ρ) → wp (forX tg body (enumD k xs) ρ) QF X
  | k, [], ρ, h, _, e => by rw [enumD, wp_forNil]; exact e k ρ h
  | k, d :: xs, ρ, h, s, e => by
    rw [enumD, wp_forCons]
    refine gv_mono (s k d xs ρ h) fun ρ1 k => wp_mono k (fun f ρ2 q => ?_) fun _ _ _ q => q
    cases f with
    | nx => exact for_enum I q s e
    | ct => exact for_enum I q s e
    | bk => exact q
    | rt r => exact q
theorem for_range (I : Int → Nat → En → Prop) : ∀ {lo : Int} {n : Nat} {ρ : En}, I lo n ρ → (∀ lo n ρ, I lo (n + 1) ρ → gv (tg (.int lo) ρ) fun ρ1 => wp (body ρ1) (turnQ (I (lo + 1) n) QF) X) → (∀ lo ρ, I lo 0 ρ → QF .nx ρ) → wp (forX tg body (rangeD lo n) ρ) QF X
  | lo, 0, ρ, h, _, e => by rw [rangeD, wp_forNil]; exact e lo ρ h
  | lo, n + 1, ρ, h, s, e => by
    rw [rangeD, wp_forCons]
    refine gv_mono (s lo n ρ h) fun ρ1 k => wp_mono k (fun f ρ2 q => ?_) fun _ _ _ q => q
    cases f with
    | nx => exact for_range I q s e
    | ct => exact for_range I q s e
    | bk => exact q
    | rt r => exact q
variable {vs : List Nat} {tt : Mo Bool} {el : Mo PyData}
theorem lc_range (I : Int → Nat → List PyData → En → Prop) : ∀ {lo : Int} {n : Nat} {acc : List PyData} {ρ : En} {Q : List PyData × En → Prop}, I lo n acc ρ → (∀ lo n acc ρ, I lo (n + 1) acc ρ → lcStep vs tg tt el (.int lo) ρ fun o ρ' => I (lo + 1) n (acc ++ o.toList) ρ') → (∀ lo xs ρ, I lo 0 (acc ++ xs) ρ → Q (xs, ρ)) → gv (lcX vs tg tt el (rangeD lo n) ρ) Q
  | lo, 0, acc, ρ, Q, h, _, k => by rw [rangeD, lc_nil]; exact k lo [] ρ (by simpa using h)
  | lo, n + 1, acc, ρ, Q, h, s, k => by
    rw [rangeD, lc_cons]
    refine lcStep_mono (s lo n acc ρ h) fun o ρ' q => ?_
    exact lc_range I q s fun lo xs ρ h => k lo _ _ (by simpa using h)
/-- over coded items, with a state -/
theorem lc_mapS {enc : ι → PyData} (I : List ι → List PyData → En → Prop) : ∀ {xs : List ι} {acc : List PyData} {ρ : En} {Q : List PyData × En → Prop}, I xs acc ρ → (∀ a xs acc ρ, I (a :: xs) acc ρ → lcStep vs tg tt el (enc a) ρ fun o ρ' => I xs (acc ++ o.toList) ρ') → (∀ ys ρ, I [] (acc ++ ys) ρ → Q (ys, ρ)) → gv (lcX vs tg tt el (xs.map enc) ρ) Q
  | [], acc, ρ, Q, h, _, k => by rw [List.map_nil, lc_nil]; exact k [] ρ (by simpa using h)
  | a :: xs, acc, ρ, Q, h, s, k => by
    rw [List.map_cons, lc_cons]
    refine lcStep_mono (s a xs acc ρ h) fun o ρ' q => ?_
    exact lc_mapS I q s fun xs ρ h => k _ _ (by simpa using h)
/-- a range as coded items -/
theorem rangeD_map : ∀ (lo : Int) (n : Nat), rangeD lo n = (List.range n).map fun (i : Nat) => PyData.int (lo + i)
  | lo, 0 => rfl
  | lo, n + 1 => by
    rw [rangeD, rangeD_map, List.range_succ_eq_map, List.map_cons, List.map_map]
    simp only [Int.natCast_zero, Int.add_zero, List.cons.injEq, true_and]
    refine List.map_congr_left fun i _ => ?_
    simp only [Function.comp, Nat.succ_eq_add_one, Int.natCast_add, Int.natCast_one]
    congr 1; omega
theorem zipD_map {f : ι → PyData} {g : κ → PyData} : ∀ (xs : List ι) (ys : List κ), zipD (xs.map f) (ys.map g) = (xs.zip ys).map fun p => PyData.tuple [f p.1, g p.2]
  | [], _ => by cases ‹List κ› <;> rfl
  | _ :: _, [] => rfl
  | x :: xs, y :: ys => by rw [List.map_cons, List.map_cons, zipD, zipD_map, List.zip_cons_cons, List.map_cons]
theorem zipD_self {f g : ι → PyData} : ∀ (xs : List ι), zipD (xs.map f) (xs.map g) = xs.map fun p => PyData.tuple [f p, g p]
  | [] => rfl
  | x :: xs => by rw [List.map_cons, List.map_cons, zipD, zipD_self, List.map_cons]
theorem enumD_map {f : ι → PyData} : ∀ (k : Nat) (xs : List ι), enumD k (xs.map f) = (xs.zipIdx k).map fun p => PyData.tuple [.int p.2, f p.1]
  | k, [] => rfl
  | k, x :: xs => by rw [List.map_cons, enumD, enumD_map, List.zipIdx_cons, List.map_cons]
end
end Dl
end

section
set_option Elab.async false
set_option linter.all false
set_option maxRecDepth 100000
namespace Dl
open PySem PySem.Spec PyProof.Rows L2
theorem isT_list_list {xs : List PyData} : isT (.list xs) "list" = true := by simp [isT, tyN]
theorem isT_list_tuple {xs : List PyData} : isT (.list xs) "tuple" = false := by simp [isT, tyN]
theorem isT_list_int {xs : List PyData} : isT (.list xs) "int" = false := by simp [isT, tyN]
theorem isT_list_bool {xs : List PyData} : isT (.list xs) "bool" = false := by simp [isT, tyN]
theorem isT_list_str {xs : List PyData} : isT (.list xs) "str" = false := by simp [isT, tyN]
theorem isT_tuple_list {xs : List PyData} : isT (.tuple xs) "list" = false := by simp [isT, tyN]
theorem isT_tuple_tuple {xs : List PyData} : isT (.tuple xs) "tuple" = true := by simp [isT, tyN]
theorem isT_tuple_int {xs : List PyData} : isT (.tuple xs) "int" = false := by simp [isT, tyN]
theorem isT_tuple_bool {xs : List PyData} : isT (.tuple xs) "bool" = false := by simp [isT, tyN]
theorem isT_tuple_str {xs : List PyData} : isT (.tuple xs) "str" = false := by simp [isT, tyN]
theorem isT_int_list {i : Int} : isT (.int i) "list" = false := by simp [isT, tyN]
theorem isT_int_tuple {i : Int} : isT (.int i) "tuple" = false := by simp [isT, tyN]
theorem isT_int_int {i : Int} : isT (.int i) "int" = true := by simp [isT, tyN]
theorem isT_int_bool {i : Int} : isT (.int i) "bool" = false := by simp [isT, tyN]
theorem isT_int_str {i : Int} : isT (.int i) "str" = false := by simp [isT, tyN]
theorem isT_bool_list {b : Bool} : isT (.bool b) "list" = false := by simp [isT, tyN]
theorem isT_bool_tuple {b : Bool} : isT (.bool b) "tuple" = false := by simp [isT, tyN]
theorem isT_bool_int {b : Bool} : isT (.bool b) "int" = true := by simp [isT, tyN]
theorem isT_bool_bool {b : Bool} : isT (.bool b) "bool" = true := by simp [isT, tyN]
theorem isT_bool_str {b : Bool} : isT (.bool b) "str" = false := by simp [isT, tyN]
theorem isT_str_list {z : Str} : isT (.str z) "list" = false := by simp [isT, tyN]
theorem isT_str_tuple {z : Str} : isT (.str z) "tuple" = false := by simp [isT, tyN]
theorem isT_str_int {z : Str} : isT (.str z) "int" = false := by simp [isT, tyN]
theorem isT_str_bool {z : Str} : isT (.str z) "bool" = false := by simp [isT, tyN]
theorem isT_str_str {z : Str} : isT (.str z) "str" = true := by simp [isT, tyN]
theorem isT_none_list : isT (.none) "list" = false := by simp [isT, tyN]
theorem isT_none_tuple : isT (.none) "tuple" = false := by simp [isT, tyN]
theorem isT_none_int : isT (.none) "int" = false := by simp [isT, tyN]
theorem isT_none_bool : isT (.none) "bool" = false := by simp [isT, tyN]
theorem isT_none_str : isT (.none) "str" = false := by simp [isT, tyN]
theorem gNe_b {a b : Bool} : gNe [.bool a, .bool b] = some (.dt (.bool (!decide (a = b)))) := rfl
theorem zp2_ll {xs ys : List PyData} : zp2 [(.list xs), (.list ys)] = some (zipD xs ys) := zp2_e lt2_l lt2_l
theorem zp2_lt {xs ys : List PyData} : zp2 [(.list xs), (.tuple ys)] = some (zipD xs ys) := zp2_e lt2_l lt2_t
theorem zp2_lk {j : Bool} {xs ys : List PyData} : zp2 [(.list xs), (sqd j ys)] = some (zipD xs ys) := zp2_e lt2_l lt2_k
theorem zp2_tl {xs ys : List PyData} : zp2 [(.tuple xs), (.list ys)] = some (zipD xs ys) := zp2_e lt2_t lt2_l
theorem zp2_tt {xs ys : List PyData} : zp2 [(.tuple xs), (.tuple ys)] = some (zipD xs ys) := zp2_e lt2_t lt2_t
theorem zp2_tk {j : Bool} {xs ys : List PyData} : zp2 [(.tuple xs), (sqd j ys)] = some (zipD xs ys) := zp2_e lt2_t lt2_k
theorem zp2_kl {k : Bool} {xs ys : List PyData} : zp2 [(sqd k xs), (.list ys)] = some (zipD xs ys) := zp2_e lt2_k lt2_l
theorem zp2_kt {k : Bool} {xs ys : List PyData} : zp2 [(sqd k xs), (.tuple ys)] = some (zipD xs ys) := zp2_e lt2_k lt2_t
theorem zp2_kk {k : Bool} {j : Bool} {xs ys : List PyData} : zp2 [(sqd k xs), (sqd j ys)] = some (zipD xs ys) := zp2_e lt2_k lt2_k
theorem lcStep_e {vs : List Nat} {tg : Tg} {tt : Mo Bool} {el : Mo PyData} {d : PyData} {ρ : En} {K : Option PyData → En → Prop} : lcStep vs tg tt el d ρ K = gv (tg d ρ) fun ρ1 => wp (tt ρ1) (fun b ρ2 => if b = true then wp (el ρ2) (fun x ρ3 => stE (wipeE ρ3 vs) (K (some x))) nX else stE (wipeE ρ2 vs) (K none)) nX := rfl
theorem gIsi_e {T : String} {d : PyData} : gIsi T [d] = some (.dt (.bool (isT d T))) := rfl
theorem gIsi2_e {T U : String} {d : PyData} : gIsi2 T U [d] = some (.dt (.bool (isT d T || isT d U))) := rfl
theorem gIs_nn : gIs [.none, .none] = some (.dt (.bool true)) := rfl
theorem gIs_i {i : Int} : gIs [.int i, .none] = some (.dt (.bool false)) := rfl
theorem gIs_b {i : Bool} : gIs [.bool i, .none] = some (.dt (.bool false)) := rfl
theorem gIs_s {i : Str} : gIs [.str i, .none] = some (.dt (.bool false)) := rfl
theorem gIs_l {i : List PyData} : gIs [.list i, .none] = some (.dt (.bool false)) := rfl
theorem gIs_t {i : List PyData} : gIs [.tuple i, .none] = some (.dt (.bool false)) := rfl
theorem gEq_nn : gEq [.none, .none] = some (.dt (.bool true)) := by
  have e : eqD .none .none = some true := by decide +kernel
  simp only [gEq, e]
theorem gAll_t {xs : List PyData} (h : ∀ d ∈ xs, d = .bool true) : gAll [.list xs] = some (.dt (.bool true)) := by
  have e : ∀ xs : List PyData, (∀ d ∈ xs, d = .bool true) → ∃ bs, boolsOf xs = some bs ∧ bs.all id = true := by
    intro xs
    induction xs with
    | nil => intro _; exact ⟨[], rfl, rfl⟩
    | cons d r ih =>
      intro h
      obtain ⟨bs, e1, e2⟩ := ih fun d m => h d (by simp [m])
      have := h d (by simp)
      subst this
      exact ⟨true :: bs, by simp only [boolsOf, e1], by simpa using e2⟩
  obtain ⟨bs, e1, e2⟩ := e xs h
  simp only [gAll, e1, e2]
theorem boolsOf_map {ι : Type} {f : ι → Bool} : ∀ xs : List ι, boolsOf (xs.map fun a => PyData.bool (f a)) = some (xs.map f)
  | [] => rfl
  | a :: xs => by rw [List.map_cons, List.map_cons, boolsOf, boolsOf_map]
theorem gAll_map {ι : Type} {f : ι → Bool} {xs : List ι} : gAll [.list (xs.map fun a => PyData.bool (f a))] = some (.dt (.bool (xs.all f))) := by
  simp only [gAll, boolsOf_map, List.all_map, Function.comp_def, id]
theorem gAny_map {ι : Type} {f : ι → Bool} {xs : List ι} : gAny [.list (xs.map fun a => PyData.bool (f a))] = some (.dt (.bool (xs.any f))) := by
  simp only [gAny, boolsOf_map, List.any_map, Function.comp_def, id]
theorem intsOf_map {ι : Type} {f : ι → Int} : ∀ xs : List ι, intsOf (xs.map fun a => PyData.int (f a)) = some (xs.map f)
  | [] => rfl
  | a :: xs => by rw [List.map_cons, List.map_cons, intsOf, intsOf_map]
theorem strsOf_map {ι : Type} {f : ι → Str} : ∀ xs : List ι, strsOf (xs.map fun a => PyData.str (f a)) = some (xs.map f)
  | [] => rfl
  | a :: xs => by rw [List.map_cons, List.map_cons, strsOf, strsOf_map]
theorem gSum_map {ι : Type} {f : ι → Int} {xs : List ι} : gSum [.list (xs.map fun a => PyData.int (f a))] = some (.dt (.int (xs.map f).sum)) := by
  simp only [gSum, intsOf_map]
/-- the greatest -/
def maxI : List Int → Int
  | [] => 0
  | m :: r => topI m r
theorem gMax_map {ι : Type} {f : ι → Int} {xs : List ι} (h : 0 < xs.length) : gMax [.list (xs.map fun a => PyData.int (f a))] = some (.dt (.int (maxI (xs.map f)))) := by
  cases xs with
  | nil => simp at h
  | cons a r =>
    have e := intsOf_map (f := f) (a :: r)
    show (match intsOf (List.map (fun a => PyData.int (f a)) (a :: r)) with | some (m :: r) => some (Rs.dt (.int (topI m r))) | _ => none) = _
    rw [e]; rfl
theorem topI_ge : ∀ (r : List Int) (m : Int), m ≤ topI m r ∧ ∀ x ∈ r, x ≤ topI m r
  | [], m => ⟨Int.le_refl _, fun _ h => by simp at h⟩
  | x :: r, m => by
    rw [topI]
    have ⟨h1, h2⟩ := topI_ge r (if m < x then x else m)
    have h3 : m ≤ (if m < x then x else m) ∧ x ≤ (if m < x then x else m) := by split <;> omega
    refine ⟨by omega, fun y hy => ?_⟩
    rcases List.mem_cons.mp hy with rfl | hy
    · omega
    · exact h2 y hy
theorem topI_in : ∀ (r : List Int) (m : Int), topI m r = m ∨ topI m r ∈ r
  | [], m => .inl rfl
  | x :: r, m => by
    rw [topI]
    by_cases e : m < x
    · rw [if_pos e]
      right
      rcases topI_in r x with h | h
      · rw [h]; simp
      · exact List.mem_cons_of_mem _ h
    · rw [if_neg e]
      rcases topI_in r m with h | h
      · exact .inl h
      · exact .inr (List.mem_cons_of_mem _ h)
theorem maxI_ge {l : List Int} {x : Int} (h : x ∈ l) : x ≤ maxI l := by
  cases l with
  | nil => simp at h
  | cons m r =>
    rcases List.mem_cons.mp h with rfl | h
    · exact (topI_ge r _).1
    · exact (topI_ge r m).2 x h
theorem maxI_mem {l : List Int} (h : l ≠ []) : maxI l ∈ l := by
  cases l with
  | nil => exact (h rfl).elim
  | cons m r =>
    rcases topI_in r m with h | h
    · rw [maxI, h]; simp
    · rw [maxI]; exact List.mem_cons_of_mem _ h
theorem maxI_eq {l : List Int} {x : Int} (h : x ∈ l) (k : ∀ y ∈ l, y ≤ x) : maxI l = x := Int.le_antisymm (k _ (maxI_mem (List.ne_nil_of_mem h))) (maxI_ge h)
/-! texts as lists of signs -/
def stL (l : List Nat) : Str := ⟨l.toArray⟩
theorem stL_len {l : List Nat} : (stL l).length = l.length := by simp [stL, Str.length]
theorem stL_cps {l : List Nat} : (stL l).cps.toList = l := by simp [stL]
theorem stL_app {a b : List Nat} : stL a ++ stL b = stL (a ++ b) := by
  show Str.append (stL a) (stL b) = _
  simp [stL, Str.append]
theorem stL_inj {a b : List Nat} : stL a = stL b ↔ a = b := by
  constructor
  · intro h; rw [← stL_cps (l := a), h, stL_cps]
  · rintro rfl; rfl
theorem stL_of (s : Str) : s = stL s.cps.toList := by simp [stL]
theorem cutS_e {l : List Nat} {lo hi : Option Int} : cutS (stL l) lo hi = stL (cutD l lo hi) := by
  unfold cutS cutD
  rw [stL_cps, stL_len]; rfl
theorem gLen_st {l : List Nat} (h : l.length ≤ 16777216) : gLen [.str (stL l)] = some (.dt (.int l.length)) := by rw [gLen_s (by rw [stL_len]; exact h), stL_len]
theorem gAdd_st {a b : List Nat} (h : a.length + b.length ≤ 16777216) : gAdd [.str (stL a), .str (stL b)] = some (.dt (.str (stL (a ++ b)))) := by rw [gAdd_s (by rw [stL_len, stL_len]; exact h), stL_app]
theorem gSl_st {lo hi : Option Int} {l : List Nat} (h : l.length ≤ 16777216) : gSl lo hi (.str (stL l)) = some (.dt (.str (stL (cutD l lo hi)))) := by rw [gSl_s (by rw [stL_len]; exact h), cutS_e]
theorem gEq_st {a b : List Nat} : gEq [.str (stL a), .str (stL b)] = some (.dt (.bool (decide (a = b)))) := by
  rw [gEq_s]
  congr 3
  exact decide_eq_decide.mpr stL_inj
theorem alphaAt : ∀ n : Nat, n < 26 → (Str.ofString "abcdefghijklmnopqrstuvwxyz").cps.toList[n]? = some (97 + n) := by decide +kernel
theorem gIx_alpha {i : Int} (h0 : 0 ≤ i) (h : i < 26) : gIx [.str (Str.ofString "abcdefghijklmnopqrstuvwxyz"), .int i] = some (.dt (.str (stL [97 + i.toNat]))) := by
  have e : (Str.ofString "abcdefghijklmnopqrstuvwxyz").length ≤ sizeLine := by decide +kernel
  show (if (Str.ofString "abcdefghijklmnopqrstuvwxyz").length ≤ sizeLine then (match atI (Str.ofString "abcdefghijklmnopqrstuvwxyz").cps.toList i with | some c => some (Rs.dt (.str ⟨#[c]⟩)) | none => none) else none) = _
  rw [if_pos e, atI_nn h0, alphaAt i.toNat (by omega)]
  rfl
theorem join_nil {xs : List (List Nat)} : Txt.join (Str.ofString "") (xs.map stL) = stL xs.flatten := by
  rw [TL.join_eq]
  induction xs with
  | nil => rfl
  | cons x r ih =>
    cases r with
    | nil => simp [Str.join]
    | cons y r =>
      have e0 : Str.ofString "" = stL [] := by decide +kernel
      rw [List.map_cons, List.map_cons, Str.join, ← List.map_cons, ih, e0, stL_app, stL_app]
      · simp
      · simp
theorem gJoin_e {xs : List (List Nat)} (h : (xs.map List.length).sum ≤ 16777216) : gJoin (Str.ofString "") [.list (xs.map fun x => PyData.str (stL x))] = some (.dt (.str (stL xs.flatten))) := by
  have e0 : (Str.ofString "").length = 0 := by decide +kernel
  have e : ((xs.map fun x => stL x).map (·.length)).sum + (xs.map fun x => stL x).length * (Str.ofString "").length ≤ 16777216 := by
    rw [e0, List.map_map]
    have : (xs.map ((·.length) ∘ fun x => stL x)) = xs.map List.length := List.map_congr_left fun x _ => stL_len
    rw [this]; omega
  simp only [gJoin, strsOf_map]
  rw [if_pos e]
  have := join_nil (xs := xs)
  rw [this]
theorem erase_perm {α : Type} : ∀ {l : List α} {i : Nat} (h : i < l.length), (l[i] :: l.eraseIdx i).Perm l
  | a :: l, 0, _ => by simp
  | a :: l, i + 1, h => by
    have := erase_perm (l := l) (i := i) (by simpa using h)
    simp only [List.getElem_cons_succ, List.eraseIdx_cons_succ]
    exact (List.Perm.swap _ _ _).trans (this.cons a)
end Dl
end

section
set_option Elab.async false
set_option linter.all false
set_option maxRecDepth 100000
namespace Dl
open PySem PySem.Spec PyProof.Rows L2
/-- data of so many levels -/
def okd : Nat → PyData → Prop
  | 0, _ => False
  | n + 1, .list xs => xs.length ≤ 16777216 ∧ ∀ d ∈ xs, okd n d
  | n + 1, .tuple xs => xs.length ≤ 16777216 ∧ ∀ d ∈ xs, okd n d
  | _ + 1, .dict _ => False
  | _ + 1, .str x => PyData.strOk x = true
  | _ + 1, _ => True
theorem okd_succ : ∀ (n : Nat) (d : PyData), okd n d → okd (n + 1) d
  | 0, _, h => h.elim
  | n + 1, d, h => by
    cases d with
    | list xs => exact ⟨h.1, fun d m => okd_succ n d (h.2 d m)⟩
    | tuple xs => exact ⟨h.1, fun d m => okd_succ n d (h.2 d m)⟩
    | dict xs => exact h
    | str x => exact h
    | _ => trivial
theorem okd_le {n m : Nat} {d : PyData} (h : okd n d) (l : n ≤ m) : okd m d := by
  induction l with
  | refl => exact h
  | step _ ih => exact okd_succ _ _ ih
theorem canAll {xs : List PyData} (h : ∀ d ∈ xs, d.canLay0 = true) : PyData.canLayAll0 xs = true := by
  induction xs with
  | nil => simp [PyData.canLayAll0]
  | cons a r ih => rw [PyData.canLayAll0, h a (by simp), ih fun d m => h d (by simp [m])]; rfl
theorem depAll {xs : List PyData} {n : Nat} (h : ∀ d ∈ xs, d.depth ≤ n) : PyData.depthAll xs ≤ n := by
  induction xs with
  | nil => simp [PyData.depthAll]
  | cons a r ih => rw [PyData.depthAll]; exact Nat.max_le.mpr ⟨h a (by simp), ih fun d m => h d (by simp [m])⟩
theorem okd_lay : ∀ (n : Nat) (d : PyData), okd n d → d.canLay0 = true ∧ d.depth ≤ n
  | 0, _, h => h.elim
  | n + 1, d, h => by
    cases d with
    | list xs =>
      refine ⟨by rw [PyData.canLay0]; exact canAll fun d m => (okd_lay n d (h.2 d m)).1, ?_⟩
      rw [PyData.depth]
      have := depAll fun d m => (okd_lay n d (h.2 d m)).2
      omega
    | tuple xs =>
      refine ⟨by rw [PyData.canLay0]; exact canAll fun d m => (okd_lay n d (h.2 d m)).1, ?_⟩
      rw [PyData.depth]
      have := depAll fun d m => (okd_lay n d (h.2 d m)).2
      omega
    | dict xs => exact h.elim
    | str x => exact ⟨by rw [PyData.canLay0]; exact h, by simp [PyData.depth]⟩
    | none => exact ⟨by simp [PyData.canLay0], by simp [PyData.depth]⟩
    | bool x => exact ⟨by simp [PyData.canLay0], by simp [PyData.depth]⟩
    | int x => exact ⟨by simp [PyData.canLay0], by simp [PyData.depth]⟩
theorem okd_shaped {n : Nat} {d : PyData} (h : okd n d) (hn : n ≤ 64) : SeqAt.shaped d = true := by
  have ⟨h1, h2⟩ := okd_lay n d h
  unfold SeqAt.shaped
  rw [h1, decide_eq_true (by omega)]; rfl
theorem eqD_e {a b : PyData} (ha : SeqAt.shaped a = true) (hb : SeqAt.shaped b = true) : eqD a b = some (PyData.eqv a b) := by
  unfold eqD
  split
  · simp only [PyData.eqv, Option.some.injEq]; rfl
  · simp only [PyData.eqv, Option.some.injEq]; rfl
  · next x y => cases x <;> cases y <;> simp [PyData.eqv]
  · rw [if_pos ⟨ha, hb⟩]
theorem gEq_e {n m : Nat} {a b : PyData} (ha : okd n a) (hb : okd m b) (hn : n ≤ 64) (hm : m ≤ 64) : gEq [a, b] = some (.dt (.bool (PyData.eqv a b))) := by
  simp only [gEq, eqD_e (okd_shaped ha hn) (okd_shaped hb hm)]
theorem gNe_e {n m : Nat} {a b : PyData} (ha : okd n a) (hb : okd m b) (hn : n ≤ 64) (hm : m ≤ 64) : gNe [a, b] = some (.dt (.bool (!PyData.eqv a b))) := by
  simp only [gNe, eqD_e (okd_shaped ha hn) (okd_shaped hb hm)]
theorem okd_refl {n : Nat} {d : PyData} (h : okd n d) : PyData.eqv d d = true := SeqAt.eqv_refl d (okd_lay n d h).1
theorem gEq_nil {n : Nat} {xs : List PyData} (h : okd n (.list xs)) (hn : n ≤ 64) : gEq [.list xs, .list []] = some (.dt (.bool xs.isEmpty)) := by
  have e : okd 1 (.list []) := ⟨by simp, by simp⟩
  rw [gEq_e h e hn (by omega)]
  cases xs <;> simp [PyData.eqv, PyData.eqvAll]
theorem strKind_lt (a b : List Nat) : itemOrd.blt (.inr a) (.inr b) = decide (a < b) := rfl
theorem name_tot {a b : List Nat} (h : ¬ a < b) (k : ¬ b < a) : a = b := by
  have := itemOrd.total (.inr a) (.inr b) (by rw [strKind_lt]; simpa using h) (by rw [strKind_lt]; simpa using k)
  exact Sum.inr.inj this
theorem gSorted_e {xs : List PyData} {n : Nat} {k : List Bool} (h : ∀ d ∈ xs, kindD d = some (n, k)) (hn : n ≠ 1) : gSorted [.list xs] = some (.new (sortB ltK xs)) := by
  have e : gSorted0 [.list xs] = some (.new (sortB ltK xs)) := by
    cases xs with
    | nil => rfl
    | cons x r =>
      simp only [gSorted0, h x (by simp)]
      rw [if_pos]
      refine ⟨List.all_eq_true.mpr fun y m => ?_, fun e => (hn e).elim⟩
      rw [h y (by simp [m])]; exact decide_eq_true rfl
  simp only [gSorted, e]
theorem gSorted_t {xs : List PyData} (h : ∀ d ∈ xs, txtT d = true) : gSorted [.list xs] = some (.new (sortB ltK xs)) := by
  have e : gSorted0 [.list xs] = some (.new (sortB ltK xs)) ∨ gSorted0 [.list xs] = none := by
    cases xs with
    | nil => exact .inl rfl
    | cons x r =>
      simp only [gSorted0]
      split
      · split
        · exact .inl rfl
        · exact .inr rfl
      · exact .inr rfl
  rcases e with e | e
  · simp only [gSorted, e]
  · simp only [gSorted, e]
    rw [if_pos (List.all_eq_true.mpr h)]
theorem range_getD {α : Type} (l : List α) (d : α) : (List.range l.length).map (fun i => l[i]?.getD d) = l := by
  apply List.ext_getElem?
  intro i
  rw [List.getElem?_map]
  by_cases h : i < l.length
  · rw [List.getElem?_range h, Option.map_some, List.getElem?_eq_getElem h]; rfl
  · rw [List.getElem?_eq_none (by simpa using h), List.getElem?_eq_none (by simpa using h)]; rfl
end Dl
end

section
set_option Elab.async false
set_option linter.all false
set_option maxRecDepth 100000
namespace Dl
open PySem PySem.Spec PyProof.Rows L2
/-- a NAME, by its signs -/
def Nm (x : List Nat) : Prop := 0 < x.length ∧ x.length ≤ 8 ∧ ∀ c ∈ x, 97 ≤ c ∧ c ≤ 122
abbrev Net := List (List Nat × Int × Int)
def encS (k : Bool) (s : List Nat × Int × Int) : PyData := sqd k [.str (stL s.1), .int s.2.1, .int s.2.2]
def encN (k : Bool) (N : Net) : PyData := sqd k (N.map (encS k))
structure IsNet (N : Net) (last : Int) : Prop where
  srt : N.Pairwise fun a b => a.1 < b.1
  nm : ∀ s ∈ N, Nm s.1
  lo : ∀ s ∈ N, 0 ≤ s.2.1 ∧ s.2.1 < s.2.2 ∧ s.2.2 ≤ last
  out : ∀ p, 0 ≤ p → p < last → ∃ s ∈ N, s.2.1 = p
  inn : ∀ p, 0 < p → p ≤ last → ∃ s ∈ N, s.2.2 = p
  pos : 0 < last
  few : N.length ≤ 26
  many : last ≤ N.length
theorem okd_sqd {n : Nat} {k : Bool} {xs : List PyData} (h : xs.length ≤ 16777216) (h2 : ∀ d ∈ xs, okd n d) : okd (n + 1) (sqd k xs) := by cases k <;> exact ⟨h, h2⟩
theorem str_ok {n : Nat} {x : List Nat} (h : Nm x) : okd (n + 1) (.str (stL x)) := by
  show PyData.strOk (stL x) = true
  unfold PyData.strOk stL
  rw [Array.all_eq_true']
  intro c hc
  have := h.2.2 c (by simpa using hc)
  simp; omega
theorem encS_ok {n : Nat} {k : Bool} {s : List Nat × Int × Int} (h : Nm s.1) : okd (n + 2) (encS k s) := okd_sqd (by simp) (by
  intro d hd
  simp only [List.mem_cons, List.mem_nil_iff, or_false] at hd
  rcases hd with rfl | rfl | rfl
  · exact str_ok h
  · trivial
  · trivial)
theorem encN_ok {n : Nat} {k : Bool} {N : Net} {last : Int} (h : IsNet N last) : okd (n + 3) (encN k N) := okd_sqd (by have := h.few; simp; omega) (by
  intro d hd
  obtain ⟨s, m, rfl⟩ := List.mem_map.mp hd
  exact encS_ok (h.nm s m))
theorem net_len {N : Net} {last : Int} (h : IsNet N last) : 0 < N.length := by
  obtain ⟨s, m, _⟩ := h.out 0 (Int.le_refl _) h.pos
  exact List.length_pos_of_mem m
theorem name_irr (a : List Nat) : ¬ a < a := fun h => by
  have := itemOrd.irrefl (.inr a)
  rw [strKind_lt] at this
  simp [h] at this
theorem srt_inj {N : Net} (hs : N.Pairwise fun a b => a.1 < b.1) {s u : List Nat × Int × Int} (h1 : s ∈ N) (h2 : u ∈ N) (e : s.1 = u.1) : s = u := by
  induction N with
  | nil => simp at h1
  | cons a r ih =>
    rw [List.pairwise_cons] at hs
    rcases List.mem_cons.mp h1 with e1 | g1
    · rcases List.mem_cons.mp h2 with e2 | g2
      · rw [e1, e2]
      · have := hs.1 u g2; rw [← e1, e] at this; exact (name_irr _ this).elim
    · rcases List.mem_cons.mp h2 with e2 | g2
      · have := hs.1 s g1; rw [← e2, e] at this; exact (name_irr _ this).elim
      · exact ih hs.2 g1 g2
theorem fold_l {N : Net} : PyData.list (N.map (encS true)) = encN true N := rfl
theorem fold_t {N : Net} : PyData.tuple (N.map (encS false)) = encN false N := rfl
theorem tp_encS {k : Bool} {ts : Tgs} {s : List Nat × Int × Int} {ρ : En} : gTp 3 ts (encS k s) ρ = ts [.str (stL s.1), .int s.2.1, .int s.2.2] ρ := gTp_k3
theorem ix_encS {k : Bool} {s : List Nat × Int × Int} {i : Int} : gIx [encS k s, .int i] = (atI [.str (stL s.1), .int s.2.1, .int s.2.2] i).map .dt := gIx_k
theorem sd_encN {k : Bool} {N : Net} : seqD (encN k N) = some (N.map (encS k)) := seqD_k
theorem len_encN {k : Bool} {N : Net} : gLen [encN k N] = some (.dt (.int N.length)) := by rw [encN, gLen_k, List.length_map]
end Dl
end

section
set_option Elab.async false
set_option linter.all false
set_option maxRecDepth 100000
namespace Dl
open PySem PySem.Spec PyProof.Rows L2
section
variable {α : Type} {ρ : En} {j i : Nat} {X : XQ En} {Q : α → En → Prop} {QR : Rs → En → Prop} {QF : Fl → En → Prop}
theorem wp_oI {x : Mo Rs} {Q : Int → En → Prop} : wp (oI x ρ) Q X = wp (x ρ) (fun r ρ' => gv r.asD fun d => gv (asI d) fun i => Q i ρ') X := by
  unfold oI; rw [wp_bnd, wp_eD]
  refine wp_cq fun r ρ' => ?_
  cases r.asD with
  | none => simp only [gv_none]
  | some d => simp only [gv_some, wp_lft]
theorem wp_xChI {p p' : Int → Int → Bool} {xa xb xc : Mo Rs} : wp (xChI p p' xa xb xc ρ) QR X = wp (oI xa ρ) (fun i ρ1 => wp (oI xb ρ1) (fun j ρ2 => if p i j = true then wp (oI xc ρ2) (fun k ρ3 => QR (.dt (.bool (p' j k))) ρ3) X else QR (.dt (.bool false)) ρ2) X) X := by
  unfold xChI; rw [wp_bnd]
  refine wp_cq fun i ρ1 => ?_
  rw [wp_bnd]
  refine wp_cq fun j ρ2 => ?_
  rw [wp_ite, wp_bnd, wp_ret]
  split
  · exact wp_cq fun k ρ3 => wp_ret
  · rfl
theorem wp_xTR1 {x : Mo Rs} : wp (xTR1 x ρ) QR X = wp (oI x ρ) (fun n ρ1 => (0 ≤ n ∧ n ≤ 16777216) ∧ QR (.dt (.tuple (rangeD 0 n.toNat))) ρ1) X := by
  unfold xTR1; rw [wp_bnd]
  refine wp_cq fun i ρ1 => ?_
  rw [wp_ite, wp_ret, wp_lft, gv_none]
  split
  · next h => exact propext ⟨fun q => ⟨h, q⟩, fun q => q.2⟩
  · next h => exact propext ⟨fun q => q.elim, fun q => h q.1⟩
theorem wp_xTR2 {x y : Mo Rs} : wp (xTR2 x y ρ) QR X = wp (oI x ρ) (fun a ρ1 => wp (oI y ρ1) (fun n ρ2 => ((0 ≤ a ∧ a ≤ 16777216) ∧ 0 ≤ n ∧ n ≤ 16777216) ∧ QR (.dt (.tuple (rangeD a (n - a).toNat))) ρ2) X) X := by
  unfold xTR2; rw [wp_bnd]
  refine wp_cq fun i ρ1 => ?_
  rw [wp_bnd]
  refine wp_cq fun j ρ2 => ?_
  rw [wp_ite, wp_ret, wp_lft, gv_none]
  split
  · next h => exact propext ⟨fun q => ⟨h, q⟩, fun q => q.2⟩
  · next h => exact propext ⟨fun q => q.elim, fun q => h q.1⟩
theorem gRev_l {xs : List PyData} : gRev [.list xs] = some (.new xs.reverse) := rfl
/-! dicts -/
theorem keyOf_i {i : Int} : keyOf (.int i) = some (.inl i) := rfl
theorem keyOf_s {i : Str} : keyOf (.str i) = some (.inr i) := rfl
def dctQ (k : List (Key × PyData) → Prop) : Sl → Prop
  | .dct kvs => k kvs
  | _ => False
theorem dctQ_e {k : List (Key × PyData) → Prop} {kvs : List (Key × PyData)} : dctQ k (.dct kvs) = k kvs := rfl
def newdQ (k : List (Key × PyData) → Prop) : Rs → Prop
  | .newd kvs => k kvs
  | _ => False
theorem newdQ_e {k : List (Key × PyData) → Prop} {kvs : List (Key × PyData)} : newdQ k (.newd kvs) = k kvs := rfl
theorem slotOf_newd {kvs : List (Key × PyData)} : slotOf (.newd kvs) = .dct kvs := rfl
theorem isPl_dct {kvs : List (Key × PyData)} : isPl (.dct kvs) = true := rfl
theorem rtVar_dct {kvs : List (Key × PyData)} : rtVar j ρ QF (.dct kvs) = stE (ρ.set j .no) (QF (.rt (.newd kvs))) := rfl
theorem wp_xDsp1 {xk xv : Mo Rs} : wp (xDsp1 xk xv ρ) QR X = wp (eD xk ρ) (fun dk ρ1 => wp (eD xv ρ1) (fun dv ρ2 => gv (keyOf dk) fun k => QR (.newd [(k, dv)]) ρ2) X) X := by
  unfold xDsp1; rw [wp_bnd]
  refine wp_cq fun dk ρ1 => ?_
  rw [wp_bnd]
  refine wp_cq fun dv ρ2 => ?_
  cases keyOf dk with
  | none => simp only [gv_none, wp_lft]
  | some k => simp only [gv_some, wp_ret]
theorem wp_xDinN {xk : Mo Rs} : wp (xDinN j xk ρ) QR X = wp (eD xk ρ) (fun dk ρ1 => gv ρ1[j]? (dctQ fun kvs => gv (keyOf dk) fun k => QR (.dt (.bool (valD kvs k).isSome)) ρ1)) X := by
  unfold xDinN; rw [wp_bnd]
  refine wp_cq fun dk ρ1 => ?_
  cases ρ1[j]? with
  | none => simp only [gv_none, wp_none]
  | some s =>
    cases s with
    | dct kvs =>
      simp only [gv_some, dctQ]
      cases keyOf dk with
      | none => simp only [gv_none, wp_none]
      | some k => simp only [gv_some, wp_val]
    | _ => simp only [gv_some, dctQ, wp_none]
theorem wp_xDnoN {xk : Mo Rs} : wp (xDnoN j xk ρ) QR X = wp (eD xk ρ) (fun dk ρ1 => gv ρ1[j]? (dctQ fun kvs => gv (keyOf dk) fun k => QR (.dt (.bool (!(valD kvs k).isSome))) ρ1)) X := by
  unfold xDnoN; rw [wp_bnd]
  refine wp_cq fun dk ρ1 => ?_
  cases ρ1[j]? with
  | none => simp only [gv_none, wp_none]
  | some s =>
    cases s with
    | dct kvs =>
      simp only [gv_some, dctQ]
      cases keyOf dk with
      | none => simp only [gv_none, wp_none]
      | some k => simp only [gv_some, wp_val]
    | _ => simp only [gv_some, dctQ, wp_none]
theorem wp_xDinE {xk x : Mo Rs} : wp (xDinE xk x ρ) QR X = wp (eD xk ρ) (fun dk ρ1 => wp (x ρ1) (fun r ρ2 => newdQ (fun kvs => gv (keyOf dk) fun k => QR (.dt (.bool (valD kvs k).isSome)) ρ2) r) X) X := by
  unfold xDinE; rw [wp_bnd]
  refine wp_cq fun dk ρ1 => ?_
  rw [wp_bnd]
  refine wp_cq fun r ρ2 => ?_
  cases r with
  | newd kvs =>
    simp only [newdQ]
    cases keyOf dk with
    | none => simp only [gv_none, wp_lft]
    | some k => simp only [gv_some, wp_ret]
  | _ => simp only [newdQ, wp_lft, gv_none]
theorem wp_yDct {x : Mo α} : wp (yDct j x ρ) Q X = gv ρ[j]? (dctQ fun _ => wp (x ρ) Q X) := by
  unfold yDct
  cases ρ[j]? with
  | none => simp only [gv_none, wp_none]
  | some s => cases s <;> simp only [gv_some, dctQ, wp_none]
theorem wp_xDget {xk : Mo Rs} : wp (xDget j xk ρ) QR X = wp (eD xk ρ) (fun dk ρ1 => gv ρ1[j]? (dctQ fun kvs => gv (keyOf dk) fun k => gv (valD kvs k) fun d => QR (.dt d) ρ1)) X := by
  unfold xDget; rw [wp_bnd]
  refine wp_cq fun dk ρ1 => ?_
  cases ρ1[j]? with
  | none => simp only [gv_none, wp_none]
  | some s =>
    cases s with
    | dct kvs =>
      simp only [gv_some, dctQ]
      cases keyOf dk with
      | none => simp only [gv_none, wp_none]
      | some k =>
        simp only [gv_some]
        cases valD kvs k with
        | none => simp only [gv_none, wp_none]
        | some k => simp only [gv_some, wp_val]
    | _ => simp only [gv_some, dctQ, wp_none]
theorem wp_yDput {xk xv : Mo Rs} : wp (yDput j xk xv ρ) QF X = wp (eD xv ρ) (fun dv ρ1 => gv ρ1[j]? (dctQ fun _ => wp (eD xk ρ1) (fun dk ρ2 => gv ρ2[j]? (dctQ fun kvs => gv (keyOf dk) fun k => kvs.length < sizeLine ∧ stE (ρ2.set j (.dct (putD kvs k dv))) (QF .nx))) X)) X := by
  unfold yDput; rw [wp_bnd]
  refine wp_cq fun dv ρ1 => ?_
  rw [wp_yDct]
  cases ρ1[j]? with
  | none => simp only [gv_none]
  | some s =>
    cases s with
    | dct kvs0 =>
      simp only [gv_some, dctQ]
      rw [wp_bnd]
      refine wp_cq fun dk ρ2 => ?_
      cases ρ2[j]? with
      | none => simp only [gv_none, wp_none]
      | some s =>
        cases s with
        | dct kvs =>
          simp only [gv_some, dctQ]
          cases keyOf dk with
          | none => simp only [gv_none, wp_none]
          | some k =>
            simp only [gv_some]
            by_cases h : kvs.length < sizeLine
            · rw [if_pos h, wp_val]; exact propext ⟨fun q => ⟨h, q⟩, fun q => q.2⟩
            · rw [if_neg h, wp_none]; exact propext ⟨fun q => q.elim, fun q => h q.1⟩
        | _ => simp only [gv_some, dctQ, wp_none]
    | _ => simp only [gv_some, dctQ]
def newQ' (k : List PyData → Prop) : Rs → Prop
  | .new xs => k xs
  | _ => False
theorem newQ'_e {k : List PyData → Prop} {xs : List PyData} : newQ' k (.new xs) = k xs := rfl
theorem wp_xRepN {x y : Mo Rs} : wp (xRepN x y ρ) QR X = wp (x ρ) (fun r ρ1 => wp (oI y ρ1) (fun n ρ2 => newQ' (fun xs => ((0 ≤ n ∧ n ≤ 16777216) ∧ xs.length * n.toNat ≤ sizeLine) ∧ QR (.new (List.replicate n.toNat xs).flatten) ρ2) r) X) X := by
  unfold xRepN; rw [wp_bnd]
  refine wp_cq fun r ρ1 => ?_
  rw [wp_bnd]
  refine wp_cq fun n ρ2 => ?_
  cases r with
  | new xs =>
    simp only [newQ']
    rw [wp_ite, wp_ret, wp_lft, gv_none]
    split
    · next h => exact propext ⟨fun q => ⟨h, q⟩, fun q => q.2⟩
    · next h => exact propext ⟨fun q => q.elim, fun q => h q.1⟩
  | _ => simp only [newQ', wp_lft, gv_none]
theorem rep2 {xs : List PyData} : (List.replicate 2 xs).flatten = xs ++ xs := by simp [List.replicate]
/-- while, by a measure -/
theorem while_inv {t : Mo Bool} {body : Mo Fl} (I : Nat → En → Prop) (h : ∀ m ρ, I m ρ → wp (t ρ) (fun b ρ1 => if b = true then wp (body ρ1) (turnQ (fun ρ2 => ∃ k, k < m ∧ I k ρ2) QF) X else QF .nx ρ1) X) : ∀ (n m : Nat) (ρ : En), I m ρ → m < n → wp (whileX t body n ρ) QF X
  | 0, m, ρ, _, e => by omega
  | n + 1, m, ρ, i, e => by
    rw [wp_while0]
    refine wp_mono (h m ρ i) (fun b ρ1 q => ?_) fun _ _ _ q => q
    cases b
    · simpa using q
    · simp only [if_true] at q ⊢
      refine wp_mono q (fun f ρ2 q => ?_) fun _ _ _ q => q
      cases f with
      | nx => obtain ⟨k, hk, ik⟩ := q; exact while_inv I h n k ρ2 ik (by omega)
      | ct => obtain ⟨k, hk, ik⟩ := q; exact while_inv I h n k ρ2 ik (by omega)
      | bk => exact q
      | rt r => exact q
end
end Dl
end

section
set_option Elab.async false
set_option linter.all false
set_option maxRecDepth 100000
namespace Dl
open PySem PySem.Spec PyProof.Rows L2
abbrev Stp3 := List Nat × Int × Int
/-- steps lead from p to q -/
inductive Reach (N : Net) (p : Int) : Int → Prop where
  | refl : Reach N p p
  | step {q : Int} {s : Stp3} : Reach N p q → s ∈ N → s.2.1 = q → Reach N p s.2.2
inductive ReachN (N : Net) (p : Int) : Nat → Int → Prop where
  | refl : ReachN N p 0 p
  | step {k : Nat} {q : Int} {s : Stp3} : ReachN N p k q → s ∈ N → s.2.1 = q → ReachN N p (k + 1) s.2.2
theorem reach_n {N : Net} {p q : Int} (h : Reach N p q) : ∃ k, ReachN N p k q := by
  induction h with
  | refl => exact ⟨0, .refl⟩
  | step _ m e ih => obtain ⟨k, h⟩ := ih; exact ⟨k + 1, .step h m e⟩
theorem reachN_le {N : Net} {p : Int} (hl : ∀ s ∈ N, s.2.1 < s.2.2) {k : Nat} {q : Int} (h : ReachN N p k q) : p + k ≤ q := by
  induction h with
  | refl => omega
  | @step k q s _ m e ih => have := hl _ m; rw [e] at this; omega
theorem reachN_top {N : Net} {p last : Int} (hp : p ≤ last) (hl : ∀ s ∈ N, s.2.2 ≤ last) {k : Nat} {q : Int} (h : ReachN N p k q) : q ≤ last := by
  induction h with
  | refl => exact hp
  | step _ m e ih => exact hl _ m
theorem reach_sub {M N : Net} (h : ∀ s ∈ M, s ∈ N) {p q : Int} (r : Reach M p q) : Reach N p q := by
  induction r with
  | refl => exact .refl
  | step _ m e ih => exact .step ih (h _ m) e
/-- one step more, which starts last of all -/
theorem reach_snoc {M : Net} {s : Stp3} {p : Int} (hs : s.2.1 < s.2.2) (hM : ∀ t ∈ M, t.2.1 ≤ s.2.1) {q : Int} (r : Reach (M ++ [s]) p q) : Reach M p q ∨ (q = s.2.2 ∧ Reach M p s.2.1) := by
  induction r with
  | refl => exact .inl .refl
  | @step q t _ m e ih =>
    rcases List.mem_append.mp m with m | m
    · rcases ih with ih | ⟨e2, _⟩
      · exact .inl (.step ih m e)
      · have := hM _ m; omega
    · simp only [List.mem_singleton] at m
      subst m
      rcases ih with ih | ⟨e2, _⟩
      · exact .inr ⟨rfl, by rw [e]; exact ih⟩
      · omega
theorem reach_snoc_iff {M : Net} {s : Stp3} {p : Int} (hs : s.2.1 < s.2.2) (hM : ∀ t ∈ M, t.2.1 ≤ s.2.1) {q : Int} : Reach (M ++ [s]) p q ↔ Reach M p q ∨ (q = s.2.2 ∧ Reach M p s.2.1) := by
  refine ⟨reach_snoc hs hM, fun h => ?_⟩
  rcases h with h | ⟨rfl, h⟩
  · exact reach_sub (fun s m => by simp [m]) h
  · exact .step (reach_sub (fun s m => by simp [m]) h) (by simp) rfl
/-- steps by their places -/
def encQ (s : Stp3) : PyData := .tuple [.int s.2.1, .int s.2.2, .str (stL s.1)]
theorem encQ_kind (s : Stp3) : kindD (encQ s) = some (2, [false, false, true]) := rfl
theorem ltQ {a b : Stp3} (h : ltK (encQ b) (encQ a) = false) : a.2.1 ≤ b.2.1 := by
  have e : ltK (encQ b) (encQ a) = lexLt itemOrd [.inl b.2.1, .inl b.2.2, .inr (stL b.1).cps.toList] [.inl a.2.1, .inl a.2.2, .inr (stL a.1).cps.toList] := rfl
  rw [e, lex_cons] at h
  have h := (Bool.or_eq_false_iff.mp h).1
  have h : decide (b.2.1 < a.2.1) = false := h
  have := of_decide_eq_false h
  omega
theorem tp_encQ {ts : Tgs} {s : Stp3} {ρ : En} : gTp 3 ts (encQ s) ρ = ts [.int s.2.1, .int s.2.2, .str (stL s.1)] ρ := gTp_t3
theorem gIn_ints {x : Int} {xs : List Int} : gIn [.int x, .list (xs.map .int)] = some (.dt (.bool (decide (x ∈ xs)))) := by
  have h : inD (.int x) (xs.map .int) = some (decide (x ∈ xs)) := by
    unfold inD
    rw [if_pos ⟨rfl, by simp [flat]⟩]
    congr 1
    rw [List.any_map]
    induction xs with
    | nil => rfl
    | cons a r ih =>
      rw [List.any_cons, ih]
      show ((a == x) || _) = _
      by_cases e : a = x
      · subst e; simp
      · have e2 : ¬ x = a := fun z => e z.symm
        simp [e, e2]
  simp only [gIn, h]
theorem gNotIn_ints {x : Int} {xs : List Int} : gNotIn [.int x, .list (xs.map .int)] = some (.dt (.bool (!decide (x ∈ xs)))) := by
  have h := gIn_ints (x := x) (xs := xs)
  simp only [gIn] at h
  simp only [gNotIn]
  cases e : inD (.int x) (xs.map .int) with
  | none => rw [e] at h; simp at h
  | some b => rw [e] at h; simp at h; simp [h]
theorem inD_strs {x : List Nat} {xs : List (List Nat)} : inD (.str (stL x)) (xs.map fun y => .str (stL y)) = some (decide (x ∈ xs)) := by
  unfold inD
  rw [if_pos ⟨rfl, by simp [flat]⟩]
  congr 1
  rw [List.any_map]
  induction xs with
  | nil => rfl
  | cons a r ih =>
    rw [List.any_cons, ih]
    show ((stL a == stL x) || _) = _
    by_cases e : a = x
    · subst e; simp
    · have e2 : ¬ x = a := fun z => e z.symm
      have e3 : ¬ stL a = stL x := fun z => e (stL_inj.mp z)
      simp [e2, e3]
theorem gIn_strs {x : List Nat} {xs : List (List Nat)} : gIn [.str (stL x), .list (xs.map fun y => .str (stL y))] = some (.dt (.bool (decide (x ∈ xs)))) := by simp only [gIn, inD_strs]
theorem gNotIn_strs {x : List Nat} {xs : List (List Nat)} : gNotIn [.str (stL x), .list (xs.map fun y => .str (stL y))] = some (.dt (.bool (!decide (x ∈ xs)))) := by simp only [gNotIn, inD_strs]
theorem gNotIn_names {x : List Nat} {N : Net} : gNotIn [.str (stL x), .list (N.map fun s => .str (stL s.1))] = some (.dt (.bool (!decide (x ∈ N.map fun s => s.1)))) := by
  have := gNotIn_strs (x := x) (xs := N.map fun s => s.1)
  rw [List.map_map] at this
  exact this
theorem gIn_names {x : List Nat} {N : Net} : gIn [.str (stL x), .list (N.map fun s => .str (stL s.1))] = some (.dt (.bool (decide (x ∈ N.map fun s => s.1)))) := by
  have := gIn_strs (x := x) (xs := N.map fun s => s.1)
  rw [List.map_map] at this
  exact this
theorem valD_put {kvs : List (Key × PyData)} {k l : Key} {d : PyData} : (valD (putD kvs k d) l).isSome = (decide (l = k) || (valD kvs l).isSome) := by
  have hv : ∀ (m : List (Key × PyData)) (l : Key), (valD m l).isSome = m.any fun kv => decide (kv.1 = l) := by
    intro m l
    unfold valD
    rw [Option.isSome_map, Bool.eq_iff_iff, List.find?_isSome]
    simp
  rw [hv, hv]
  unfold putD
  split
  · next h =>
    rw [List.any_map]
    have e : ∀ kv : Key × PyData, (decide ((if kv.1 = k then (kv.1, d) else kv).1 = l)) = decide (kv.1 = l) := by intro kv; split <;> rfl
    simp only [Function.comp_def, e]
    by_cases el : l = k
    · subst el; simp only [decide_true, Bool.true_or]; exact h
    · simp [el]
  · simp only [List.any_append, List.any_cons, List.any_nil, Bool.or_false]
    rw [Bool.or_comm]
    congr 1
    by_cases el : l = k
    · subst el; simp
    · have : ¬ k = l := fun z => el z.symm
      simp [el, this]
theorem putD_len {kvs : List (Key × PyData)} {k : Key} {d : PyData} : (putD kvs k d).length ≤ kvs.length + 1 := by
  unfold putD; split <;> simp
theorem lk1 {f : Str} {d : PyData} {fs : List (Str × PyData)} : List.lookup f ((f, d) :: fs) = some d := by simp [List.lookup]
end Dl
end

section
set_option Elab.async false
set_option linter.all false
set_option maxRecDepth 100000
namespace Dl
open PySem PySem.Spec PyProof.Rows L2
section
variable {α : Type} {ρ : En} {j i : Nat} {X : XQ En} {Q : α → En → Prop} {QR : Rs → En → Prop} {QF : Fl → En → Prop}
def augBQ (k : PyData → Prop) : Sl → Prop
  | .dat a => k a
  | _ => False
theorem augBQ_e {k : PyData → Prop} {a : PyData} : augBQ k (.dat a) = k a := rfl
theorem wp_yAugB {g : List PyData → Option Rs} {x : Mo Rs} : wp (yAugB i g x ρ) QF X = gv ρ[i]? (augBQ fun a => wp (eD x ρ) (fun d ρ1 => gv (g [a, d]) fun r => stE (ρ1.set i (slotOf r)) (QF .nx)) X) := by
  unfold yAugB
  cases ρ[i]? with
  | none => simp only [gv_none, wp_none]
  | some s =>
    cases s with
    | dat a =>
      simp only [gv_some, augBQ]
      rw [wp_bnd]
      refine wp_cq fun d ρ1 => ?_
      cases g [a, d] with
      | none => simp only [gv_none, wp_none]
      | some r => simp only [gv_some, wp_val, stE_e]
    | _ => simp only [gv_some, augBQ, wp_none]
def intQ (k : Int → Prop) : PyData → Prop
  | .int a => k a
  | _ => False
theorem intQ_e {k : Int → Prop} {a : Int} : intQ k (.int a) = k a := rfl
theorem wp_yAugI {f : Int → Int → Int} {xi x : Mo Rs} : wp (yAugI j f xi x ρ) QF X = wp (oI xi ρ) (fun n ρ1 => gv ρ1[j]? fun s => gv (lsl s) fun xs => 0 ≤ n ∧ gv xs[n.toNat]? (intQ fun a => wp (oI x ρ1) (fun b ρ2 => gv ρ2[j]? fun s2 => gv (lsl s2) fun ys => n < ys.length ∧ stE (ρ2.set j (putL s2 (ys.set n.toNat (.int (f a b))))) (QF .nx)) X)) X := by
  unfold yAugI
  rw [wp_bnd]
  refine wp_cq fun n ρ1 => ?_
  cases ρ1[j]? with
  | none => simp only [gv_none, wp_none]
  | some s =>
    simp only [gv_some]
    cases lsl s with
    | none => simp only [gv_none, wp_none]
    | some xs =>
      simp only [gv_some]
      by_cases h0 : 0 ≤ n
      · simp only [h0, if_true, true_and]
        cases xs[n.toNat]? with
        | none => simp only [gv_none, wp_none]
        | some d =>
          cases d with
          | int a =>
            simp only [gv_some, intQ]
            rw [wp_bnd]
            refine wp_cq fun b ρ2 => ?_
            cases ρ2[j]? with
            | none => simp only [gv_none, wp_none]
            | some s2 =>
              simp only [gv_some]
              cases lsl s2 with
              | none => simp only [gv_none, wp_none]
              | some ys =>
                simp only [gv_some]
                by_cases h : n < ys.length
                · simp only [h, if_true, true_and, wp_val, stE_e]
                · simp only [h, if_false, false_and, wp_none]
          | _ => simp only [gv_some, intQ, wp_none]
      · simp only [h0, if_false, false_and, wp_none]
theorem gAddI_i {a b : Int} : gAddI [.int a, .int b] = some (.dt (.int (a + b))) := rfl
end
/-! lists without doubles -/
theorem nodup_perm {α : Type} [DecidableEq α] : ∀ {l m : List α}, l.Nodup → m.Nodup → (∀ a, a ∈ l ↔ a ∈ m) → l.Perm m
  | [], m, _, _, h => by
    cases m with
    | nil => exact .nil
    | cons a r => have := (h a).mpr (by simp); simp at this
  | a :: l, m, hl, hm, h => by
    have ha : a ∈ m := (h a).mp (by simp)
    rw [List.nodup_cons] at hl
    refine ((nodup_perm hl.2 (hm.erase a) fun b => ?_).cons a).trans (List.perm_cons_erase ha).symm
    rw [List.Nodup.mem_erase_iff hm]
    constructor
    · intro hb
      exact ⟨fun e => hl.1 (e ▸ hb), (h b).mp (by simp [hb])⟩
    · rintro ⟨hne, hb⟩
      have := (h b).mpr hb
      simp only [List.mem_cons] at this
      exact this.resolve_left hne
/-! paths along the arrows -/
def Pth (N : Net) : Int → List Stp3 → Int → Prop
  | p, [], q => p = q
  | p, s :: w, q => s ∈ N ∧ s.2.1 = p ∧ Pth N s.2.2 w q
theorem pth_app {N : Net} : ∀ {w : List Stp3} {p q r : Int} {v : List Stp3}, Pth N p w q → Pth N q v r → Pth N p (w ++ v) r
  | [], p, q, r, v, h, k => by cases h; exact k
  | s :: w, p, q, r, v, ⟨h1, h2, h3⟩, k => ⟨h1, h2, pth_app h3 k⟩
theorem pth_split {N : Net} : ∀ {w : List Stp3} {p r : Int} {v : List Stp3}, Pth N p (w ++ v) r → ∃ q, Pth N p w q ∧ Pth N q v r
  | [], p, r, v, h => ⟨p, rfl, h⟩
  | s :: w, p, r, v, ⟨h1, h2, h3⟩ => by
    obtain ⟨q, a, b⟩ := pth_split h3
    exact ⟨q, ⟨h1, h2, a⟩, b⟩
theorem pth_len {N : Net} (hl : ∀ s ∈ N, s.2.1 < s.2.2) : ∀ {w : List Stp3} {p q : Int}, Pth N p w q → p + w.length ≤ q
  | [], p, q, h => by cases h; simp
  | s :: w, p, q, ⟨h1, h2, h3⟩ => by
    have := pth_len hl h3
    have := hl s h1
    simp; omega
theorem pth_mem {N : Net} : ∀ {w : List Stp3} {p q : Int}, Pth N p w q → ∀ s ∈ w, s ∈ N
  | [], _, _, _, s, h => by simp at h
  | t :: w, p, q, ⟨h1, _, h3⟩, s, h => by
    rcases List.mem_cons.mp h with rfl | h
    · exact h1
    · exact pth_mem h3 s h
end Dl
end

section
set_option Elab.async false
set_option linter.all false
set_option maxRecDepth 100000
namespace Dl
open PySem PySem.Spec PyProof.Rows L2
/-! all paths, laid level by level -/
abbrev Edg := List Stp3 × Int
def later1 (N : Net) (e : Edg) : List Edg := (N.filter fun s => decide (s.2.1 = e.2)).map fun s => (e.1 ++ [s], s.2.2)
def laterE (N : Net) (E : List Edg) : List Edg := (E.map (later1 N)).flatten
theorem mem_later1 {N : Net} {e v : Edg} : v ∈ later1 N e ↔ ∃ s ∈ N, s.2.1 = e.2 ∧ v = (e.1 ++ [s], s.2.2) := by
  unfold later1
  rw [List.mem_map]
  constructor
  · rintro ⟨s, m, rfl⟩
    rw [List.mem_filter] at m
    exact ⟨s, m.1, of_decide_eq_true m.2, rfl⟩
  · rintro ⟨s, m, e, rfl⟩
    exact ⟨s, List.mem_filter.mpr ⟨m, decide_eq_true e⟩, rfl⟩
theorem mem_laterE {N : Net} {E : List Edg} {v : Edg} : v ∈ laterE N E ↔ ∃ e ∈ E, ∃ s ∈ N, s.2.1 = e.2 ∧ v = (e.1 ++ [s], s.2.2) := by
  unfold laterE
  rw [List.mem_flatten]
  constructor
  · rintro ⟨l, m, hv⟩
    obtain ⟨e, me, rfl⟩ := List.mem_map.mp m
    exact ⟨e, me, mem_later1.mp hv⟩
  · rintro ⟨e, me, h⟩
    exact ⟨_, List.mem_map.mpr ⟨e, me, rfl⟩, mem_later1.mpr h⟩
theorem net_nodup {N : Net} (hs : N.Pairwise fun a b => a.1 < b.1) : N.Nodup := by
  rw [List.nodup_iff_pairwise_ne]
  exact hs.imp fun {a b} h e => by rw [e] at h; exact name_irr _ h
theorem later1_nodup {N : Net} (hN : N.Nodup) (e : Edg) : (later1 N e).Nodup := by
  unfold later1
  rw [List.nodup_iff_pairwise_ne, List.pairwise_map]
  refine List.Pairwise.imp ?_ (List.nodup_iff_pairwise_ne.mp (hN.filter _))
  intro a b hne h
  simp only [Prod.mk.injEq] at h
  have := List.append_cancel_left h.1
  simp only [List.cons.injEq, and_true] at this
  exact hne this
theorem laterE_nodup {N : Net} (hN : N.Nodup) : ∀ {E : List Edg}, (E.map (·.1)).Nodup → ((laterE N E).map (·.1)).Nodup
  | [], _ => by simp [laterE]
  | e :: E, h => by
    rw [List.map_cons, List.nodup_cons] at h
    have ih := laterE_nodup hN h.2
    have e0 : laterE N (e :: E) = later1 N e ++ laterE N E := by simp [laterE]
    rw [e0, List.map_append, List.nodup_append]
    refine ⟨?_, ih, ?_⟩
    · unfold later1
      rw [List.map_map, List.nodup_iff_pairwise_ne, List.pairwise_map]
      refine List.Pairwise.imp ?_ (List.nodup_iff_pairwise_ne.mp (hN.filter _))
      intro a b hne h
      have := List.append_cancel_left (as := e.1) h
      simp only [List.cons.injEq, and_true] at this
      exact hne this
    · intro a ha b hb hab
      obtain ⟨u, hu, rfl⟩ := List.mem_map.mp ha
      obtain ⟨v, hv, rfl⟩ := List.mem_map.mp hb
      obtain ⟨s, _, _, rfl⟩ := mem_later1.mp hu
      obtain ⟨f, hf, t, _, _, rfl⟩ := mem_laterE.mp hv
      have := List.append_inj_left' hab rfl
      exact h.1 (List.mem_map.mpr ⟨f, hf, this.symm⟩)
/-! how many there can be -/
def cge (N : Net) (p : Int) : Nat := (N.filter fun s => decide (p ≤ s.2.1)).length
def phi (N : Net) (E : List Edg) : Nat := (E.map fun e => 2 ^ cge N e.2).sum
theorem cge_split {N : Net} {p q : Int} (h : p < q) : cge N q + (N.filter fun s => decide (s.2.1 = p)).length ≤ cge N p := by
  unfold cge
  induction N with
  | nil => simp
  | cons s r ih =>
    simp only [List.filter_cons]
    by_cases h1 : q ≤ s.2.1
    · have h2 : p ≤ s.2.1 := by omega
      have h3 : ¬ s.2.1 = p := by omega
      simp only [h1, h2, h3, decide_true, decide_false, if_true, Bool.false_eq_true, if_false, List.length_cons]
      omega
    · by_cases h2 : s.2.1 = p
      · have h3 : p ≤ s.2.1 := by omega
        have e1 : decide (q ≤ s.2.1) = false := decide_eq_false h1
        have e2 : decide (s.2.1 = p) = true := decide_eq_true h2
        have e3 : decide (p ≤ s.2.1) = true := decide_eq_true h3
        rw [e1, e2, e3]
        simp only [if_true, Bool.false_eq_true, if_false, List.length_cons]
        omega
      · by_cases h3 : p ≤ s.2.1
        · simp only [h1, h2, h3, decide_true, decide_false, if_true, Bool.false_eq_true, if_false, List.length_cons]
          omega
        · simp only [h1, h2, h3, decide_false, Bool.false_eq_true, if_false]
          exact ih
theorem sum_le {α : Type} {f : α → Nat} {c : Nat} : ∀ {l : List α}, (∀ a ∈ l, f a ≤ c) → (l.map f).sum ≤ l.length * c
  | [], _ => by simp
  | a :: l, h => by
    have h1 := sum_le (l := l) fun b m => h b (by simp [m])
    have h2 := h a (by simp)
    rw [List.map_cons, List.sum_cons, List.length_cons, Nat.succ_mul]
    omega
theorem phi_later1 {N : Net} (hl : ∀ s ∈ N, s.2.1 < s.2.2) (e : Edg) : phi N (later1 N e) ≤ 2 ^ cge N e.2 := by
  unfold phi later1
  rw [List.map_map]
  generalize hd : (N.filter fun s => decide (s.2.1 = e.2)).length = d
  have h1 : ((N.filter fun s => decide (s.2.1 = e.2)).map ((fun e => 2 ^ cge N e.2) ∘ fun s => (e.1 ++ [s], s.2.2))).sum ≤ d * 2 ^ (cge N e.2 - d) := by
    rw [← hd]
    refine sum_le fun s m => ?_
    rw [List.mem_filter] at m
    have h3 := of_decide_eq_true m.2
    have h4 := hl s m.1
    have h5 := cge_split (N := N) (p := e.2) (q := s.2.2) (by omega)
    show 2 ^ cge N s.2.2 ≤ _
    exact Nat.pow_le_pow_right (by omega) (by omega)
  refine Nat.le_trans h1 ?_
  have h6 : d ≤ cge N e.2 := by
    have := cge_split (N := N) (p := e.2) (q := e.2 + 1) (by omega)
    omega
  have h7 : d ≤ 2 ^ d := Nat.le_of_lt Nat.lt_two_pow_self
  calc d * 2 ^ (cge N e.2 - d) ≤ 2 ^ d * 2 ^ (cge N e.2 - d) := Nat.mul_le_mul_right _ h7
    _ = 2 ^ cge N e.2 := by rw [← Nat.pow_add]; congr 1; omega
theorem phi_app {N : Net} {E F : List Edg} : phi N (E ++ F) = phi N E + phi N F := by simp [phi]
theorem phi_later {N : Net} (hl : ∀ s ∈ N, s.2.1 < s.2.2) : ∀ E : List Edg, phi N (laterE N E) ≤ phi N E
  | [] => by simp [laterE, phi]
  | e :: E => by
    have e0 : laterE N (e :: E) = later1 N e ++ laterE N E := by simp [laterE]
    have h1 := phi_later hl E
    have h2 := phi_later1 hl e
    rw [e0, phi_app]
    have : phi N (e :: E) = 2 ^ cge N e.2 + phi N E := by simp [phi]
    omega
theorem len_phi {N : Net} : ∀ E : List Edg, E.length ≤ phi N E
  | [] => by simp [phi]
  | e :: E => by
    have h1 := len_phi (N := N) E
    have : phi N (e :: E) = 2 ^ cge N e.2 + phi N E := by simp [phi]
    have h2 : 0 < 2 ^ cge N e.2 := Nat.pow_pos (by omega)
    rw [List.length_cons]; omega
theorem phi_filter {N : Net} {p : Edg → Bool} : ∀ E : List Edg, phi N (E.filter p) + phi N (E.filter fun e => !p e) = phi N E
  | [] => by simp [phi]
  | e :: E => by
    have h1 := phi_filter (N := N) (p := p) E
    have e1 : ∀ F, phi N (e :: F) = 2 ^ cge N e.2 + phi N F := by intro F; simp [phi]
    rw [List.filter_cons, List.filter_cons]
    cases h : p e
    · simp only [Bool.false_eq_true, if_false, Bool.not_false, if_true, e1]; omega
    · simp only [if_true, Bool.not_true, Bool.false_eq_true, if_false, e1]; omega
end Dl
end

section
set_option Elab.async false
set_option linter.all false
set_option maxRecDepth 100000
namespace Dl
open PySem PySem.Spec PyProof.Rows L2
theorem pth_sub {M N : Net} (h : ∀ s ∈ M, s ∈ N) : ∀ {w : List Stp3} {p q : Int}, Pth M p w q → Pth N p w q
  | [], _, _, e => e
  | s :: w, p, q, ⟨h1, h2, h3⟩ => ⟨h s h1, h2, pth_sub h h3⟩
/-- a step that starts last of all is the last one of a path -/
theorem no_after {D : Net} {s : Stp3} (hs : s.2.1 < s.2.2) (hM : ∀ t ∈ D, t.2.1 ≤ s.2.1) {v : List Stp3} {q : Int} (h : Pth (D ++ [s]) s.2.2 v q) : v = [] := by
  cases v with
  | nil => rfl
  | cons t v =>
    obtain ⟨h1, h2, _⟩ := h
    rcases List.mem_append.mp h1 with m | m
    · have := hM t m; omega
    · simp only [List.mem_singleton] at m; subst m; omega
theorem pth_last {D : Net} {s : Stp3} (hs : s.2.1 < s.2.2) (hM : ∀ t ∈ D, t.2.1 ≤ s.2.1) : ∀ {w : List Stp3} {p q : Int}, Pth (D ++ [s]) p w q ↔ Pth D p w q ∨ ∃ u, w = u ++ [s] ∧ q = s.2.2 ∧ Pth D p u s.2.1 := by
  intro w
  induction w with
  | nil =>
    intro p q
    constructor
    · exact .inl
    · rintro (h | ⟨u, e, _⟩)
      · exact h
      · simp at e
  | cons t w ih =>
    intro p q
    constructor
    · rintro ⟨h1, h2, h3⟩
      rcases List.mem_append.mp h1 with m | m
      · rcases ih.mp h3 with g | ⟨u, e, e2, g⟩
        · exact .inl ⟨m, h2, g⟩
        · exact .inr ⟨t :: u, by rw [e]; rfl, e2, m, h2, g⟩
      · simp only [List.mem_singleton] at m
        subst m
        have := no_after hs hM h3
        subst this
        exact .inr ⟨[], rfl, h3.symm, h2.symm⟩
    · rintro (h | ⟨u, e, rfl, h⟩)
      · exact pth_sub (fun s m => by simp [m]) h
      · rw [e]
        exact pth_app (pth_sub (fun s m => by simp [m]) h) ⟨by simp, rfl, rfl⟩
/-- a step that starts first of all is the first one -/
theorem no_before {D : Net} {s : Stp3} (hl : ∀ t ∈ D, t.2.1 < t.2.2) (hs : s.2.1 < s.2.2) : ∀ {w : List Stp3} {p q : Int}, s.2.1 < p → Pth (s :: D) p w q → Pth D p w q
  | [], _, _, _, h => h
  | t :: w, p, q, hp, ⟨h1, h2, h3⟩ => by
    rcases List.mem_cons.mp h1 with rfl | m
    · omega
    · have := hl t m
      exact ⟨m, h2, no_before hl hs (by omega) h3⟩
theorem pth_first {D : Net} {s : Stp3} (hl : ∀ t ∈ D, t.2.1 < t.2.2) (hs : s.2.1 < s.2.2) (hM : ∀ t ∈ D, s.2.1 ≤ t.2.1) {w : List Stp3} {p q : Int} : Pth (s :: D) p w q ↔ Pth D p w q ∨ ∃ u, w = s :: u ∧ p = s.2.1 ∧ Pth D s.2.2 u q := by
  cases w with
  | nil =>
    constructor
    · exact .inl
    · rintro (h | ⟨u, e, _⟩)
      · exact h
      · cases e
  | cons t w =>
    constructor
    · rintro ⟨h1, h2, h3⟩
      rcases List.mem_cons.mp h1 with rfl | m
      · exact .inr ⟨w, rfl, h2.symm, no_before hl hs hs h3⟩
      · have a := hl t m
        have b := hM t m
        exact .inl ⟨m, h2, no_before hl hs (by omega) h3⟩
    · rintro (h | ⟨u, e, rfl, h⟩)
      · exact pth_sub (fun s m => by simp [m]) h
      · cases e
        exact ⟨by simp, rfl, pth_sub (fun s m => by simp [m]) h⟩
/-- so many paths -/
def Cnt (N : Net) (p q : Int) (c : Nat) : Prop := ∃ P : List (List Stp3), P.Nodup ∧ (∀ w, w ∈ P ↔ Pth N p w q) ∧ P.length = c
theorem cnt_uniq {N : Net} {p q : Int} {c d : Nat} (h : Cnt N p q c) (k : Cnt N p q d) : c = d := by
  obtain ⟨P, h1, h2, rfl⟩ := h
  obtain ⟨R, k1, k2, rfl⟩ := k
  exact (nodup_perm h1 k1 fun w => (h2 w).trans (k2 w).symm).length_eq
theorem cnt_perm {M N : Net} (hp : M.Perm N) {p q : Int} {c : Nat} (h : Cnt M p q c) : Cnt N p q c := by
  obtain ⟨P, h1, h2, h3⟩ := h
  exact ⟨P, h1, fun w => (h2 w).trans ⟨pth_sub fun s m => hp.mem_iff.mp m, pth_sub fun s m => hp.mem_iff.mpr m⟩, h3⟩
theorem cnt_nil {p q : Int} : Cnt [] p q (if p = q then 1 else 0) := by
  split
  · next e =>
    refine ⟨[[]], by simp, fun w => ?_, rfl⟩
    cases w with
    | nil => simp [Pth, e]
    | cons s w => simp [Pth]
  · next e =>
    refine ⟨[], by simp, fun w => ?_, rfl⟩
    cases w with
    | nil => simp [Pth, e]
    | cons s w => simp [Pth]
theorem cnt_last {D : Net} {s : Stp3} (hs : s.2.1 < s.2.2) (hM : ∀ t ∈ D, t.2.1 ≤ s.2.1) (hn : s ∉ D) {p q : Int} {c d : Nat} (h : Cnt D p q c) (k : Cnt D p s.2.1 d) : Cnt (D ++ [s]) p q (c + if q = s.2.2 then d else 0) := by
  obtain ⟨P, h1, h2, rfl⟩ := h
  obtain ⟨R, k1, k2, rfl⟩ := k
  split
  · next e =>
    refine ⟨P ++ R.map (· ++ [s]), ?_, fun w => ?_, by simp⟩
    · rw [List.nodup_append]
      refine ⟨h1, ?_, ?_⟩
      · rw [List.nodup_iff_pairwise_ne, List.pairwise_map]
        exact (List.nodup_iff_pairwise_ne.mp k1).imp fun {a b} hne h => hne (List.append_cancel_right h)
      · intro a ha b hb hab
        subst hab
        obtain ⟨u, mu, rfl⟩ := List.mem_map.mp hb
        exact hn (pth_mem ((h2 _).mp ha) s (by simp))
    · rw [pth_last hs hM, List.mem_append, h2, List.mem_map]
      constructor
      · rintro (z | ⟨u, mu, rfl⟩)
        · exact .inl z
        · exact .inr ⟨u, rfl, e, (k2 u).mp mu⟩
      · rintro (z | ⟨u, rfl, _, z⟩)
        · exact .inl z
        · exact .inr ⟨u, (k2 u).mpr z, rfl⟩
  · next e =>
    refine ⟨P, h1, fun w => ?_, by simp⟩
    rw [pth_last hs hM, h2]
    constructor
    · exact .inl
    · rintro (z | ⟨u, _, e2, _⟩)
      · exact z
      · exact (e e2).elim
theorem cnt_first {D : Net} {s : Stp3} (hl : ∀ t ∈ D, t.2.1 < t.2.2) (hs : s.2.1 < s.2.2) (hM : ∀ t ∈ D, s.2.1 ≤ t.2.1) (hn : s ∉ D) {p q : Int} {c d : Nat} (h : Cnt D p q c) (k : Cnt D s.2.2 q d) : Cnt (s :: D) p q (c + if p = s.2.1 then d else 0) := by
  obtain ⟨P, h1, h2, rfl⟩ := h
  obtain ⟨R, k1, k2, rfl⟩ := k
  split
  · next e =>
    refine ⟨P ++ R.map (s :: ·), ?_, fun w => ?_, by simp⟩
    · rw [List.nodup_append]
      refine ⟨h1, ?_, ?_⟩
      · rw [List.nodup_iff_pairwise_ne, List.pairwise_map]
        exact (List.nodup_iff_pairwise_ne.mp k1).imp fun {a b} hne h => hne (List.cons.inj h).2
      · intro a ha b hb hab
        subst hab
        obtain ⟨u, mu, rfl⟩ := List.mem_map.mp hb
        exact hn (pth_mem ((h2 _).mp ha) s (by simp))
    · rw [pth_first hl hs hM, List.mem_append, h2, List.mem_map]
      constructor
      · rintro (z | ⟨u, mu, rfl⟩)
        · exact .inl z
        · exact .inr ⟨u, rfl, e, (k2 u).mp mu⟩
      · rintro (z | ⟨u, rfl, _, z⟩)
        · exact .inl z
        · exact .inr ⟨u, (k2 u).mpr z, rfl⟩
  · next e =>
    refine ⟨P, h1, fun w => ?_, by simp⟩
    rw [pth_first hl hs hM, h2]
    constructor
    · exact .inl
    · rintro (z | ⟨u, _, e2, _⟩)
      · exact z
      · exact (e e2).elim
/-- the paths through a step -/
theorem cnt_through {N : Net} (hl : ∀ t ∈ N, t.2.1 < t.2.2) {s : Stp3} (hs : s ∈ N) {p q : Int} {c d : Nat} (h : Cnt N p s.2.1 c) (k : Cnt N s.2.2 q d) {W : List (List Stp3)} (w1 : W.Nodup) (w2 : ∀ w, w ∈ W ↔ Pth N p w q) : (W.filter fun w => decide (s ∈ w)).length = c * d := by
  obtain ⟨P, h1, h2, rfl⟩ := h
  obtain ⟨R, k1, k2, rfl⟩ := k
  have hsl := hl s hs
  let T := (P.map fun u => R.map fun v => u ++ s :: v).flatten
  have nb : ∀ {u : List Stp3} {p : Int}, Pth N p u s.2.1 → s ∉ u := by
    intro u p hu hm
    obtain ⟨a, b, rfl⟩ := List.append_of_mem hm
    obtain ⟨q, _, z2, z3, z4⟩ := pth_split hu
    have := pth_len hl z4
    omega
  have inj : ∀ {u u' v v' : List Stp3}, s ∉ u → s ∉ u' → u ++ s :: v = u' ++ s :: v' → u = u' ∧ v = v' := by
    intro u
    induction u with
    | nil =>
      intro u' v v' _ h2 e
      cases u' with
      | nil => simpa using e
      | cons a r => simp at e; exact (h2 (by rw [e.1]; simp)).elim
    | cons a r ih =>
      intro u' v v' h1 h2 e
      cases u' with
      | nil => simp at e; exact (h1 (by rw [e.1]; simp)).elim
      | cons b t =>
        simp only [List.cons_append, List.cons.injEq] at e
        obtain ⟨g1, g2⟩ := ih (fun z => h1 (by simp [z])) (fun z => h2 (by simp [z])) e.2
        exact ⟨by rw [e.1, g1], g2⟩
  have hT : ∀ w, w ∈ T ↔ ∃ u ∈ P, ∃ v ∈ R, w = u ++ s :: v := by
    intro w
    show w ∈ (P.map fun u => R.map fun v => u ++ s :: v).flatten ↔ _
    rw [List.mem_flatten]
    constructor
    · rintro ⟨l, m, hw⟩
      obtain ⟨u, mu, rfl⟩ := List.mem_map.mp m
      obtain ⟨v, mv, rfl⟩ := List.mem_map.mp hw
      exact ⟨u, mu, v, mv, rfl⟩
    · rintro ⟨u, mu, v, mv, rfl⟩
      exact ⟨_, List.mem_map.mpr ⟨u, mu, rfl⟩, List.mem_map.mpr ⟨v, mv, rfl⟩⟩
  have len : T.length = P.length * R.length := by
    show ((P.map fun u => R.map fun v => u ++ s :: v).flatten).length = _
    clear hT h1 h2
    induction P with
    | nil => simp
    | cons a r ih => rw [List.map_cons, List.flatten_cons, List.length_append, ih, List.length_map, List.length_cons, Nat.succ_mul, Nat.add_comm]
  have nd : T.Nodup := by
    show ((P.map fun u => R.map fun v => u ++ s :: v).flatten).Nodup
    have hP : ∀ u ∈ P, s ∉ u := fun u mu => nb ((h2 u).mp mu)
    clear hT h2 len
    induction P with
    | nil => simp
    | cons a r ih =>
      rw [List.nodup_cons] at h1
      rw [List.map_cons, List.flatten_cons, List.nodup_append]
      refine ⟨?_, ih h1.2 (fun u mu => hP u (by simp [mu])), ?_⟩
      · rw [List.nodup_iff_pairwise_ne, List.pairwise_map]
        exact (List.nodup_iff_pairwise_ne.mp k1).imp fun {x y} hne h => hne (inj (hP a (by simp)) (hP a (by simp)) h).2
      · intro x hx y hy hxy
        subst hxy
        obtain ⟨v, mv, rfl⟩ := List.mem_map.mp hx
        rw [List.mem_flatten] at hy
        obtain ⟨l, ml, hl2⟩ := hy
        obtain ⟨u, mu, rfl⟩ := List.mem_map.mp ml
        obtain ⟨v2, mv2, e⟩ := List.mem_map.mp hl2
        have := (inj (hP u (by simp [mu])) (hP a (by simp)) e).1
        exact h1.1 (by rw [← this]; exact mu)
  rw [← len]
  refine (nodup_perm (w1.filter _) nd fun w => ?_).length_eq
  rw [List.mem_filter, w2, hT]
  constructor
  · rintro ⟨hw, hm⟩
    have hm := of_decide_eq_true hm
    obtain ⟨a, b, rfl⟩ := List.append_of_mem hm
    obtain ⟨r, z1, z2, z3, z4⟩ := pth_split hw
    exact ⟨a, (h2 a).mpr (by rw [z3]; exact z1), b, (k2 b).mpr z4, rfl⟩
  · rintro ⟨u, mu, v, mv, rfl⟩
    exact ⟨pth_app ((h2 u).mp mu) ⟨hs, rfl, (k2 v).mp mv⟩, decide_eq_true (by simp)⟩
end Dl
end

section
set_option Elab.async false
set_option linter.all false
set_option maxRecDepth 100000
namespace Dl
open PySem PySem.Spec PyProof.Rows L2
theorem cnt_ex : ∀ {M : Net}, (M.Pairwise fun a b => a.2.1 ≤ b.2.1) → (∀ t ∈ M, t.2.1 < t.2.2) → M.Nodup → ∀ p q : Int, ∃ c, Cnt M p q c ∧ c ≤ 2 ^ M.length
  | [], _, _, _, p, q => ⟨_, cnt_nil, by split <;> simp⟩
  | s :: M, hs, hl, hn, p, q => by
    rw [List.pairwise_cons] at hs
    rw [List.nodup_cons] at hn
    have ih := cnt_ex hs.2 (fun t m => hl t (by simp [m])) hn.2
    obtain ⟨c, h1, h2⟩ := ih p q
    obtain ⟨d, k1, k2⟩ := ih s.2.2 q
    refine ⟨_, cnt_first (fun t m => hl t (by simp [m])) (hl s (by simp)) (fun t m => hs.1 t m) hn.1 h1 k1, ?_⟩
    rw [List.length_cons, Nat.pow_succ]
    split <;> omega
theorem cnt_bound {N : Net} (hl : ∀ t ∈ N, t.2.1 < t.2.2) (hn : N.Nodup) {p q : Int} {c : Nat} (h : Cnt N p q c) : c ≤ 2 ^ N.length := by
  have hp := sortB_perm (lt := fun a b : Stp3 => decide (a.2.1 < b.2.1)) N
  have hs := sortB_srt (lt := fun a b : Stp3 => decide (a.2.1 < b.2.1)) (fun a b h => by simp at h ⊢; omega) (fun a b c h k => by simp at h k ⊢; omega) N
  have hs2 : (sortB (fun a b : Stp3 => decide (a.2.1 < b.2.1)) N).Pairwise fun a b => a.2.1 ≤ b.2.1 := hs.imp fun {a b} h => by simp at h; omega
  obtain ⟨d, k1, k2⟩ := cnt_ex hs2 (fun t m => hl t (hp.mem_iff.mp m)) (hp.symm.nodup hn) p q
  rw [cnt_uniq h (cnt_perm hp k1)]
  rw [hp.length_eq] at k2
  exact k2
/-- back along the arrows -/
theorem reach_pth {N : Net} {p q : Int} : Reach N p q ↔ ∃ w, Pth N p w q := by
  constructor
  · intro h
    induction h with
    | refl => exact ⟨[], rfl⟩
    | step _ m e ih =>
      obtain ⟨w, hw⟩ := ih
      exact ⟨w ++ [_], pth_app hw ⟨m, e, rfl⟩⟩
  · rintro ⟨w, hw⟩
    have : ∀ {w : List Stp3} {r : Int}, Reach N p r → Pth N r w q → Reach N p q := by
      intro w
      induction w with
      | nil => intro r hr hw; cases hw; exact hr
      | cons s w ih => intro r hr ⟨h1, h2, h3⟩; exact ih (.step hr h1 h2) h3
    exact this .refl hw
theorem lead_first {D : Net} {s : Stp3} (hl : ∀ t ∈ D, t.2.1 < t.2.2) (hs : s.2.1 < s.2.2) (hM : ∀ t ∈ D, s.2.1 ≤ t.2.1) {p q : Int} : Reach (s :: D) p q ↔ Reach D p q ∨ (p = s.2.1 ∧ Reach D s.2.2 q) := by
  simp only [reach_pth]
  constructor
  · rintro ⟨w, hw⟩
    rcases (pth_first hl hs hM).mp hw with h | ⟨u, _, e, h⟩
    · exact .inl ⟨w, h⟩
    · exact .inr ⟨e, u, h⟩
  · rintro (⟨w, h⟩ | ⟨e, u, h⟩)
    · exact ⟨w, (pth_first hl hs hM).mpr (.inl h)⟩
    · exact ⟨s :: u, (pth_first hl hs hM).mpr (.inr ⟨u, rfl, e, h⟩)⟩
end Dl
end

section
set_option Elab.async false
set_option linter.all false
set_option maxRecDepth 100000
namespace Dl
open PySem PySem.Spec PyProof.Rows L2
section
variable {α : Type} {ρ : En} {j i : Nat} {X : XQ En} {Q : α → En → Prop} {QR : Rs → En → Prop}
def en2 : List PyData → Option (List PyData)
  | [a] => match lt2 a with
    | some xs => some (enumD 0 xs)
    | none => none
  | _ => none
theorem wp_zEn2 {ys : Mo (List Vd)} {Q : List PyData × Option Nat → En → Prop} : wp (zEn2 ys ρ) Q X = wp (ys ρ) (fun as ρ' => gv (dts as) fun ds => gv (en2 ds) fun xs => Q (xs, none) ρ') X := by
  unfold zEn2; rw [wp_bnd]
  refine wp_cq fun as ρ' => ?_
  cases dts as with
  | none => with_unfolding_all rfl
  | some ds =>
    simp only [gv_some]
    match ds with
    | [] => with_unfolding_all rfl
    | [a] =>
      simp only [en2, lt2_eq]
      cases lt2 a <;> with_unfolding_all rfl
    | _ :: _ :: _ => with_unfolding_all rfl
theorem en2_l {xs : List PyData} : en2 [.list xs] = some (enumD 0 xs) := rfl
theorem en2_t {xs : List PyData} : en2 [.tuple xs] = some (enumD 0 xs) := rfl
theorem en2_k {k : Bool} {xs : List PyData} : en2 [sqd k xs] = some (enumD 0 xs) := by cases k <;> rfl
theorem gRv_l {xs : List PyData} : gRv [.list xs] = some (.new xs.reverse) := rfl
theorem gRv_t {xs : List PyData} : gRv [.tuple xs] = some (.dt (.tuple xs.reverse)) := rfl
theorem intsOf_ints : ∀ xs : List Int, intsOf (xs.map .int) = some xs
  | [] => rfl
  | x :: xs => by simp only [List.map_cons, intsOf, intsOf_ints xs]
theorem gSS_l {xs : List Int} (h : xs.length < 63) : gSS [.list (xs.map .int)] = some (.new ((sortU xs).map .int)) := by simp only [gSS, seqOf, intsOf_ints, if_pos h]
theorem gSS_t {xs : List Int} (h : xs.length < 63) : gSS [.tuple (xs.map .int)] = some (.new ((sortU xs).map .int)) := by simp only [gSS, seqOf, intsOf_ints, if_pos h]
theorem gLS_l {xs : List Int} (h : xs.length < 63) : gLS [.list (xs.map .int)] = some (.dt (.int (sortU xs).length)) := by simp only [gLS, seqOf, intsOf_ints, if_pos h]
end
theorem wp_fn0_17 {y : Mo Fl} {Q : Rs → List Sl → Prop} {X : XQ (List Sl)} : wp (fnX 0 17 y []) Q X = wp (y [.no, .no, .no, .no, .no, .no, .no, .no, .no, .no, .no, .no, .no, .no, .no, .no, .no]) (endF [] Q) (fun n fs ρ => gv (outs [] ρ) fun q => X n fs q) := wp_fn rfl
theorem wp_fn0_18 {y : Mo Fl} {Q : Rs → List Sl → Prop} {X : XQ (List Sl)} : wp (fnX 0 18 y []) Q X = wp (y [.no, .no, .no, .no, .no, .no, .no, .no, .no, .no, .no, .no, .no, .no, .no, .no, .no, .no]) (endF [] Q) (fun n fs ρ => gv (outs [] ρ) fun q => X n fs q) := wp_fn rfl
theorem wp_fn0_19 {y : Mo Fl} {Q : Rs → List Sl → Prop} {X : XQ (List Sl)} : wp (fnX 0 19 y []) Q X = wp (y [.no, .no, .no, .no, .no, .no, .no, .no, .no, .no, .no, .no, .no, .no, .no, .no, .no, .no, .no]) (endF [] Q) (fun n fs ρ => gv (outs [] ρ) fun q => X n fs q) := wp_fn rfl
theorem wp_fn0_20 {y : Mo Fl} {Q : Rs → List Sl → Prop} {X : XQ (List Sl)} : wp (fnX 0 20 y []) Q X = wp (y [.no, .no, .no, .no, .no, .no, .no, .no, .no, .no, .no, .no, .no, .no, .no, .no, .no, .no, .no, .no]) (endF [] Q) (fun n fs ρ => gv (outs [] ρ) fun q => X n fs q) := wp_fn rfl
theorem wp_fn0_21 {y : Mo Fl} {Q : Rs → List Sl → Prop} {X : XQ (List Sl)} : wp (fnX 0 21 y []) Q X = wp (y [.no, .no, .no, .no, .no, .no, .no, .no, .no, .no, .no, .no, .no, .no, .no, .no, .no, .no, .no, .no, .no]) (endF [] Q) (fun n fs ρ => gv (outs [] ρ) fun q => X n fs q) := wp_fn rfl
theorem wp_fn0_22 {y : Mo Fl} {Q : Rs → List Sl → Prop} {X : XQ (List Sl)} : wp (fnX 0 22 y []) Q X = wp (y [.no, .no, .no, .no, .no, .no, .no, .no, .no, .no, .no, .no, .no, .no, .no, .no, .no, .no, .no, .no, .no, .no]) (endF [] Q) (fun n fs ρ => gv (outs [] ρ) fun q => X n fs q) := wp_fn rfl
theorem wp_fn0_23 {y : Mo Fl} {Q : Rs → List Sl → Prop} {X : XQ (List Sl)} : wp (fnX 0 23 y []) Q X = wp (y [.no, .no, .no, .no, .no, .no, .no, .no, .no, .no, .no, .no, .no, .no, .no, .no, .no, .no, .no, .no, .no, .no, .no]) (endF [] Q) (fun n fs ρ => gv (outs [] ρ) fun q => X n fs q) := wp_fn rfl
theorem wp_fn0_24 {y : Mo Fl} {Q : Rs → List Sl → Prop} {X : XQ (List Sl)} : wp (fnX 0 24 y []) Q X = wp (y [.no, .no, .no, .no, .no, .no, .no, .no, .no, .no, .no, .no, .no, .no, .no, .no, .no, .no, .no, .no, .no, .no, .no, .no]) (endF [] Q) (fun n fs ρ => gv (outs [] ρ) fun q => X n fs q) := wp_fn rfl
theorem wp_fn0_25 {y : Mo Fl} {Q : Rs → List Sl → Prop} {X : XQ (List Sl)} : wp (fnX 0 25 y []) Q X = wp (y [.no, .no, .no, .no, .no, .no, .no, .no, .no, .no, .no, .no, .no, .no, .no, .no, .no, .no, .no, .no, .no, .no, .no, .no, .no]) (endF [] Q) (fun n fs ρ => gv (outs [] ρ) fun q => X n fs q) := wp_fn rfl
theorem wp_fn0_26 {y : Mo Fl} {Q : Rs → List Sl → Prop} {X : XQ (List Sl)} : wp (fnX 0 26 y []) Q X = wp (y [.no, .no, .no, .no, .no, .no, .no, .no, .no, .no, .no, .no, .no, .no, .no, .no, .no, .no, .no, .no, .no, .no, .no, .no, .no, .no]) (endF [] Q) (fun n fs ρ => gv (outs [] ρ) fun q => X n fs q) := wp_fn rfl
theorem wp_fn0_27 {y : Mo Fl} {Q : Rs → List Sl → Prop} {X : XQ (List Sl)} : wp (fnX 0 27 y []) Q X = wp (y [.no, .no, .no, .no, .no, .no, .no, .no, .no, .no, .no, .no, .no, .no, .no, .no, .no, .no, .no, .no, .no, .no, .no, .no, .no, .no, .no]) (endF [] Q) (fun n fs ρ => gv (outs [] ρ) fun q => X n fs q) := wp_fn rfl
theorem wp_fn0_28 {y : Mo Fl} {Q : Rs → List Sl → Prop} {X : XQ (List Sl)} : wp (fnX 0 28 y []) Q X = wp (y [.no, .no, .no, .no, .no, .no, .no, .no, .no, .no, .no, .no, .no, .no, .no, .no, .no, .no, .no, .no, .no, .no, .no, .no, .no, .no, .no, .no]) (endF [] Q) (fun n fs ρ => gv (outs [] ρ) fun q => X n fs q) := wp_fn rfl
theorem wp_fn0_29 {y : Mo Fl} {Q : Rs → List Sl → Prop} {X : XQ (List Sl)} : wp (fnX 0 29 y []) Q X = wp (y [.no, .no, .no, .no, .no, .no, .no, .no, .no, .no, .no, .no, .no, .no, .no, .no, .no, .no, .no, .no, .no, .no, .no, .no, .no, .no, .no, .no, .no]) (endF [] Q) (fun n fs ρ => gv (outs [] ρ) fun q => X n fs q) := wp_fn rfl
theorem wp_fn1_18 {y : Mo Fl} {a0 : Sl} {Q : Rs → List Sl → Prop} {X : XQ (List Sl)} : wp (fnX 1 18 y [a0]) Q X = wp (y [a0, .no, .no, .no, .no, .no, .no, .no, .no, .no, .no, .no, .no, .no, .no, .no, .no, .no]) (endF [a0] Q) (fun n fs ρ => gv (outs [a0] ρ) fun q => X n fs q) := wp_fn rfl
theorem wp_fn1_19 {y : Mo Fl} {a0 : Sl} {Q : Rs → List Sl → Prop} {X : XQ (List Sl)} : wp (fnX 1 19 y [a0]) Q X = wp (y [a0, .no, .no, .no, .no, .no, .no, .no, .no, .no, .no, .no, .no, .no, .no, .no, .no, .no, .no]) (endF [a0] Q) (fun n fs ρ => gv (outs [a0] ρ) fun q => X n fs q) := wp_fn rfl
theorem wp_fn1_20 {y : Mo Fl} {a0 : Sl} {Q : Rs → List Sl → Prop} {X : XQ (List Sl)} : wp (fnX 1 20 y [a0]) Q X = wp (y [a0, .no, .no, .no, .no, .no, .no, .no, .no, .no, .no, .no, .no, .no, .no, .no, .no, .no, .no, .no]) (endF [a0] Q) (fun n fs ρ => gv (outs [a0] ρ) fun q => X n fs q) := wp_fn rfl
theorem wp_fn1_21 {y : Mo Fl} {a0 : Sl} {Q : Rs → List Sl → Prop} {X : XQ (List Sl)} : wp (fnX 1 21 y [a0]) Q X = wp (y [a0, .no, .no, .no, .no, .no, .no, .no, .no, .no, .no, .no, .no, .no, .no, .no, .no, .no, .no, .no, .no]) (endF [a0] Q) (fun n fs ρ => gv (outs [a0] ρ) fun q => X n fs q) := wp_fn rfl
theorem wp_fn1_22 {y : Mo Fl} {a0 : Sl} {Q : Rs → List Sl → Prop} {X : XQ (List Sl)} : wp (fnX 1 22 y [a0]) Q X = wp (y [a0, .no, .no, .no, .no, .no, .no, .no, .no, .no, .no, .no, .no, .no, .no, .no, .no, .no, .no, .no, .no, .no]) (endF [a0] Q) (fun n fs ρ => gv (outs [a0] ρ) fun q => X n fs q) := wp_fn rfl
theorem wp_fn1_23 {y : Mo Fl} {a0 : Sl} {Q : Rs → List Sl → Prop} {X : XQ (List Sl)} : wp (fnX 1 23 y [a0]) Q X = wp (y [a0, .no, .no, .no, .no, .no, .no, .no, .no, .no, .no, .no, .no, .no, .no, .no, .no, .no, .no, .no, .no, .no, .no]) (endF [a0] Q) (fun n fs ρ => gv (outs [a0] ρ) fun q => X n fs q) := wp_fn rfl
theorem wp_fn1_24 {y : Mo Fl} {a0 : Sl} {Q : Rs → List Sl → Prop} {X : XQ (List Sl)} : wp (fnX 1 24 y [a0]) Q X = wp (y [a0, .no, .no, .no, .no, .no, .no, .no, .no, .no, .no, .no, .no, .no, .no, .no, .no, .no, .no, .no, .no, .no, .no, .no]) (endF [a0] Q) (fun n fs ρ => gv (outs [a0] ρ) fun q => X n fs q) := wp_fn rfl
theorem wp_fn1_25 {y : Mo Fl} {a0 : Sl} {Q : Rs → List Sl → Prop} {X : XQ (List Sl)} : wp (fnX 1 25 y [a0]) Q X = wp (y [a0, .no, .no, .no, .no, .no, .no, .no, .no, .no, .no, .no, .no, .no, .no, .no, .no, .no, .no, .no, .no, .no, .no, .no, .no]) (endF [a0] Q) (fun n fs ρ => gv (outs [a0] ρ) fun q => X n fs q) := wp_fn rfl
theorem wp_fn1_26 {y : Mo Fl} {a0 : Sl} {Q : Rs → List Sl → Prop} {X : XQ (List Sl)} : wp (fnX 1 26 y [a0]) Q X = wp (y [a0, .no, .no, .no, .no, .no, .no, .no, .no, .no, .no, .no, .no, .no, .no, .no, .no, .no, .no, .no, .no, .no, .no, .no, .no, .no]) (endF [a0] Q) (fun n fs ρ => gv (outs [a0] ρ) fun q => X n fs q) := wp_fn rfl
theorem wp_fn1_27 {y : Mo Fl} {a0 : Sl} {Q : Rs → List Sl → Prop} {X : XQ (List Sl)} : wp (fnX 1 27 y [a0]) Q X = wp (y [a0, .no, .no, .no, .no, .no, .no, .no, .no, .no, .no, .no, .no, .no, .no, .no, .no, .no, .no, .no, .no, .no, .no, .no, .no, .no, .no]) (endF [a0] Q) (fun n fs ρ => gv (outs [a0] ρ) fun q => X n fs q) := wp_fn rfl
theorem wp_fn1_28 {y : Mo Fl} {a0 : Sl} {Q : Rs → List Sl → Prop} {X : XQ (List Sl)} : wp (fnX 1 28 y [a0]) Q X = wp (y [a0, .no, .no, .no, .no, .no, .no, .no, .no, .no, .no, .no, .no, .no, .no, .no, .no, .no, .no, .no, .no, .no, .no, .no, .no, .no, .no, .no]) (endF [a0] Q) (fun n fs ρ => gv (outs [a0] ρ) fun q => X n fs q) := wp_fn rfl
theorem wp_fn1_29 {y : Mo Fl} {a0 : Sl} {Q : Rs → List Sl → Prop} {X : XQ (List Sl)} : wp (fnX 1 29 y [a0]) Q X = wp (y [a0, .no, .no, .no, .no, .no, .no, .no, .no, .no, .no, .no, .no, .no, .no, .no, .no, .no, .no, .no, .no, .no, .no, .no, .no, .no, .no, .no, .no]) (endF [a0] Q) (fun n fs ρ => gv (outs [a0] ρ) fun q => X n fs q) := wp_fn rfl
theorem wp_fn1_30 {y : Mo Fl} {a0 : Sl} {Q : Rs → List Sl → Prop} {X : XQ (List Sl)} : wp (fnX 1 30 y [a0]) Q X = wp (y [a0, .no, .no, .no, .no, .no, .no, .no, .no, .no, .no, .no, .no, .no, .no, .no, .no, .no, .no, .no, .no, .no, .no, .no, .no, .no, .no, .no, .no, .no]) (endF [a0] Q) (fun n fs ρ => gv (outs [a0] ρ) fun q => X n fs q) := wp_fn rfl
theorem wp_fn2_19 {y : Mo Fl} {a0 a1 : Sl} {Q : Rs → List Sl → Prop} {X : XQ (List Sl)} : wp (fnX 2 19 y [a0, a1]) Q X = wp (y [a0, a1, .no, .no, .no, .no, .no, .no, .no, .no, .no, .no, .no, .no, .no, .no, .no, .no, .no]) (endF [a0, a1] Q) (fun n fs ρ => gv (outs [a0, a1] ρ) fun q => X n fs q) := wp_fn rfl
theorem wp_fn2_20 {y : Mo Fl} {a0 a1 : Sl} {Q : Rs → List Sl → Prop} {X : XQ (List Sl)} : wp (fnX 2 20 y [a0, a1]) Q X = wp (y [a0, a1, .no, .no, .no, .no, .no, .no, .no, .no, .no, .no, .no, .no, .no, .no, .no, .no, .no, .no]) (endF [a0, a1] Q) (fun n fs ρ => gv (outs [a0, a1] ρ) fun q => X n fs q) := wp_fn rfl
theorem wp_fn2_21 {y : Mo Fl} {a0 a1 : Sl} {Q : Rs → List Sl → Prop} {X : XQ (List Sl)} : wp (fnX 2 21 y [a0, a1]) Q X = wp (y [a0, a1, .no, .no, .no, .no, .no, .no, .no, .no, .no, .no, .no, .no, .no, .no, .no, .no, .no, .no, .no]) (endF [a0, a1] Q) (fun n fs ρ => gv (outs [a0, a1] ρ) fun q => X n fs q) := wp_fn rfl
theorem wp_fn2_22 {y : Mo Fl} {a0 a1 : Sl} {Q : Rs → List Sl → Prop} {X : XQ (List Sl)} : wp (fnX 2 22 y [a0, a1]) Q X = wp (y [a0, a1, .no, .no, .no, .no, .no, .no, .no, .no, .no, .no, .no, .no, .no, .no, .no, .no, .no, .no, .no, .no]) (endF [a0, a1] Q) (fun n fs ρ => gv (outs [a0, a1] ρ) fun q => X n fs q) := wp_fn rfl
theorem wp_fn2_23 {y : Mo Fl} {a0 a1 : Sl} {Q : Rs → List Sl → Prop} {X : XQ (List Sl)} : wp (fnX 2 23 y [a0, a1]) Q X = wp (y [a0, a1, .no, .no, .no, .no, .no, .no, .no, .no, .no, .no, .no, .no, .no, .no, .no, .no, .no, .no, .no, .no, .no]) (endF [a0, a1] Q) (fun n fs ρ => gv (outs [a0, a1] ρ) fun q => X n fs q) := wp_fn rfl
theorem wp_fn2_24 {y : Mo Fl} {a0 a1 : Sl} {Q : Rs → List Sl → Prop} {X : XQ (List Sl)} : wp (fnX 2 24 y [a0, a1]) Q X = wp (y [a0, a1, .no, .no, .no, .no, .no, .no, .no, .no, .no, .no, .no, .no, .no, .no, .no, .no, .no, .no, .no, .no, .no, .no]) (endF [a0, a1] Q) (fun n fs ρ => gv (outs [a0, a1] ρ) fun q => X n fs q) := wp_fn rfl
theorem wp_fn2_25 {y : Mo Fl} {a0 a1 : Sl} {Q : Rs → List Sl → Prop} {X : XQ (List Sl)} : wp (fnX 2 25 y [a0, a1]) Q X = wp (y [a0, a1, .no, .no, .no, .no, .no, .no, .no, .no, .no, .no, .no, .no, .no, .no, .no, .no, .no, .no, .no, .no, .no, .no, .no]) (endF [a0, a1] Q) (fun n fs ρ => gv (outs [a0, a1] ρ) fun q => X n fs q) := wp_fn rfl
theorem wp_fn2_26 {y : Mo Fl} {a0 a1 : Sl} {Q : Rs → List Sl → Prop} {X : XQ (List Sl)} : wp (fnX 2 26 y [a0, a1]) Q X = wp (y [a0, a1, .no, .no, .no, .no, .no, .no, .no, .no, .no, .no, .no, .no, .no, .no, .no, .no, .no, .no, .no, .no, .no, .no, .no, .no]) (endF [a0, a1] Q) (fun n fs ρ => gv (outs [a0, a1] ρ) fun q => X n fs q) := wp_fn rfl
theorem wp_fn2_27 {y : Mo Fl} {a0 a1 : Sl} {Q : Rs → List Sl → Prop} {X : XQ (List Sl)} : wp (fnX 2 27 y [a0, a1]) Q X = wp (y [a0, a1, .no, .no, .no, .no, .no, .no, .no, .no, .no, .no, .no, .no, .no, .no, .no, .no, .no, .no, .no, .no, .no, .no, .no, .no, .no]) (endF [a0, a1] Q) (fun n fs ρ => gv (outs [a0, a1] ρ) fun q => X n fs q) := wp_fn rfl
theorem wp_fn2_28 {y : Mo Fl} {a0 a1 : Sl} {Q : Rs → List Sl → Prop} {X : XQ (List Sl)} : wp (fnX 2 28 y [a0, a1]) Q X = wp (y [a0, a1, .no, .no, .no, .no, .no, .no, .no, .no, .no, .no, .no, .no, .no, .no, .no, .no, .no, .no, .no, .no, .no, .no, .no, .no, .no, .no]) (endF [a0, a1] Q) (fun n fs ρ => gv (outs [a0, a1] ρ) fun q => X n fs q) := wp_fn rfl
theorem wp_fn2_29 {y : Mo Fl} {a0 a1 : Sl} {Q : Rs → List Sl → Prop} {X : XQ (List Sl)} : wp (fnX 2 29 y [a0, a1]) Q X = wp (y [a0, a1, .no, .no, .no, .no, .no, .no, .no, .no, .no, .no, .no, .no, .no, .no, .no, .no, .no, .no, .no, .no, .no, .no, .no, .no, .no, .no, .no]) (endF [a0, a1] Q) (fun n fs ρ => gv (outs [a0, a1] ρ) fun q => X n fs q) := wp_fn rfl
theorem wp_fn2_30 {y : Mo Fl} {a0 a1 : Sl} {Q : Rs → List Sl → Prop} {X : XQ (List Sl)} : wp (fnX 2 30 y [a0, a1]) Q X = wp (y [a0, a1, .no, .no, .no, .no, .no, .no, .no, .no, .no, .no, .no, .no, .no, .no, .no, .no, .no, .no, .no, .no, .no, .no, .no, .no, .no, .no, .no, .no]) (endF [a0, a1] Q) (fun n fs ρ => gv (outs [a0, a1] ρ) fun q => X n fs q) := wp_fn rfl
theorem wp_fn2_31 {y : Mo Fl} {a0 a1 : Sl} {Q : Rs → List Sl → Prop} {X : XQ (List Sl)} : wp (fnX 2 31 y [a0, a1]) Q X = wp (y [a0, a1, .no, .no, .no, .no, .no, .no, .no, .no, .no, .no, .no, .no, .no, .no, .no, .no, .no, .no, .no, .no, .no, .no, .no, .no, .no, .no, .no, .no, .no]) (endF [a0, a1] Q) (fun n fs ρ => gv (outs [a0, a1] ρ) fun q => X n fs q) := wp_fn rfl
theorem wp_fn3_20 {y : Mo Fl} {a0 a1 a2 : Sl} {Q : Rs → List Sl → Prop} {X : XQ (List Sl)} : wp (fnX 3 20 y [a0, a1, a2]) Q X = wp (y [a0, a1, a2, .no, .no, .no, .no, .no, .no, .no, .no, .no, .no, .no, .no, .no, .no, .no, .no, .no]) (endF [a0, a1, a2] Q) (fun n fs ρ => gv (outs [a0, a1, a2] ρ) fun q => X n fs q) := wp_fn rfl
theorem wp_fn3_21 {y : Mo Fl} {a0 a1 a2 : Sl} {Q : Rs → List Sl → Prop} {X : XQ (List Sl)} : wp (fnX 3 21 y [a0, a1, a2]) Q X = wp (y [a0, a1, a2, .no, .no, .no, .no, .no, .no, .no, .no, .no, .no, .no, .no, .no, .no, .no, .no, .no, .no]) (endF [a0, a1, a2] Q) (fun n fs ρ => gv (outs [a0, a1, a2] ρ) fun q => X n fs q) := wp_fn rfl
theorem wp_fn3_22 {y : Mo Fl} {a0 a1 a2 : Sl} {Q : Rs → List Sl → Prop} {X : XQ (List Sl)} : wp (fnX 3 22 y [a0, a1, a2]) Q X = wp (y [a0, a1, a2, .no, .no, .no, .no, .no, .no, .no, .no, .no, .no, .no, .no, .no, .no, .no, .no, .no, .no, .no]) (endF [a0, a1, a2] Q) (fun n fs ρ => gv (outs [a0, a1, a2] ρ) fun q => X n fs q) := wp_fn rfl
theorem wp_fn3_23 {y : Mo Fl} {a0 a1 a2 : Sl} {Q : Rs → List Sl → Prop} {X : XQ (List Sl)} : wp (fnX 3 23 y [a0, a1, a2]) Q X = wp (y [a0, a1, a2, .no, .no, .no, .no, .no, .no, .no, .no, .no, .no, .no, .no, .no, .no, .no, .no, .no, .no, .no, .no]) (endF [a0, a1, a2] Q) (fun n fs ρ => gv (outs [a0, a1, a2] ρ) fun q => X n fs q) := wp_fn rfl
theorem wp_fn3_24 {y : Mo Fl} {a0 a1 a2 : Sl} {Q : Rs → List Sl → Prop} {X : XQ (List Sl)} : wp (fnX 3 24 y [a0, a1, a2]) Q X = wp (y [a0, a1, a2, .no, .no, .no, .no, .no, .no, .no, .no, .no, .no, .no, .no, .no, .no, .no, .no, .no, .no, .no, .no, .no]) (endF [a0, a1, a2] Q) (fun n fs ρ => gv (outs [a0, a1, a2] ρ) fun q => X n fs q) := wp_fn rfl
theorem wp_fn3_25 {y : Mo Fl} {a0 a1 a2 : Sl} {Q : Rs → List Sl → Prop} {X : XQ (List Sl)} : wp (fnX 3 25 y [a0, a1, a2]) Q X = wp (y [a0, a1, a2, .no, .no, .no, .no, .no, .no, .no, .no, .no, .no, .no, .no, .no, .no, .no, .no, .no, .no, .no, .no, .no, .no]) (endF [a0, a1, a2] Q) (fun n fs ρ => gv (outs [a0, a1, a2] ρ) fun q => X n fs q) := wp_fn rfl
theorem wp_fn3_26 {y : Mo Fl} {a0 a1 a2 : Sl} {Q : Rs → List Sl → Prop} {X : XQ (List Sl)} : wp (fnX 3 26 y [a0, a1, a2]) Q X = wp (y [a0, a1, a2, .no, .no, .no, .no, .no, .no, .no, .no, .no, .no, .no, .no, .no, .no, .no, .no, .no, .no, .no, .no, .no, .no, .no]) (endF [a0, a1, a2] Q) (fun n fs ρ => gv (outs [a0, a1, a2] ρ) fun q => X n fs q) := wp_fn rfl
theorem wp_fn3_27 {y : Mo Fl} {a0 a1 a2 : Sl} {Q : Rs → List Sl → Prop} {X : XQ (List Sl)} : wp (fnX 3 27 y [a0, a1, a2]) Q X = wp (y [a0, a1, a2, .no, .no, .no, .no, .no, .no, .no, .no, .no, .no, .no, .no, .no, .no, .no, .no, .no, .no, .no, .no, .no, .no, .no, .no]) (endF [a0, a1, a2] Q) (fun n fs ρ => gv (outs [a0, a1, a2] ρ) fun q => X n fs q) := wp_fn rfl
theorem wp_fn3_28 {y : Mo Fl} {a0 a1 a2 : Sl} {Q : Rs → List Sl → Prop} {X : XQ (List Sl)} : wp (fnX 3 28 y [a0, a1, a2]) Q X = wp (y [a0, a1, a2, .no, .no, .no, .no, .no, .no, .no, .no, .no, .no, .no, .no, .no, .no, .no, .no, .no, .no, .no, .no, .no, .no, .no, .no, .no]) (endF [a0, a1, a2] Q) (fun n fs ρ => gv (outs [a0, a1, a2] ρ) fun q => X n fs q) := wp_fn rfl
theorem wp_fn3_29 {y : Mo Fl} {a0 a1 a2 : Sl} {Q : Rs → List Sl → Prop} {X : XQ (List Sl)} : wp (fnX 3 29 y [a0, a1, a2]) Q X = wp (y [a0, a1, a2, .no, .no, .no, .no, .no, .no, .no, .no, .no, .no, .no, .no, .no, .no, .no, .no, .no, .no, .no, .no, .no, .no, .no, .no, .no, .no]) (endF [a0, a1, a2] Q) (fun n fs ρ => gv (outs [a0, a1, a2] ρ) fun q => X n fs q) := wp_fn rfl
theorem wp_fn3_30 {y : Mo Fl} {a0 a1 a2 : Sl} {Q : Rs → List Sl → Prop} {X : XQ (List Sl)} : wp (fnX 3 30 y [a0, a1, a2]) Q X = wp (y [a0, a1, a2, .no, .no, .no, .no, .no, .no, .no, .no, .no, .no, .no, .no, .no, .no, .no, .no, .no, .no, .no, .no, .no, .no, .no, .no, .no, .no, .no]) (endF [a0, a1, a2] Q) (fun n fs ρ => gv (outs [a0, a1, a2] ρ) fun q => X n fs q) := wp_fn rfl
theorem wp_fn3_31 {y : Mo Fl} {a0 a1 a2 : Sl} {Q : Rs → List Sl → Prop} {X : XQ (List Sl)} : wp (fnX 3 31 y [a0, a1, a2]) Q X = wp (y [a0, a1, a2, .no, .no, .no, .no, .no, .no, .no, .no, .no, .no, .no, .no, .no, .no, .no, .no, .no, .no, .no, .no, .no, .no, .no, .no, .no, .no, .no, .no]) (endF [a0, a1, a2] Q) (fun n fs ρ => gv (outs [a0, a1, a2] ρ) fun q => X n fs q) := wp_fn rfl
theorem wp_fn3_32 {y : Mo Fl} {a0 a1 a2 : Sl} {Q : Rs → List Sl → Prop} {X : XQ (List Sl)} : wp (fnX 3 32 y [a0, a1, a2]) Q X = wp (y [a0, a1, a2, .no, .no, .no, .no, .no, .no, .no, .no, .no, .no, .no, .no, .no, .no, .no, .no, .no, .no, .no, .no, .no, .no, .no, .no, .no, .no, .no, .no, .no]) (endF [a0, a1, a2] Q) (fun n fs ρ => gv (outs [a0, a1, a2] ρ) fun q => X n fs q) := wp_fn rfl
theorem wp_fn4_21 {y : Mo Fl} {a0 a1 a2 a3 : Sl} {Q : Rs → List Sl → Prop} {X : XQ (List Sl)} : wp (fnX 4 21 y [a0, a1, a2, a3]) Q X = wp (y [a0, a1, a2, a3, .no, .no, .no, .no, .no, .no, .no, .no, .no, .no, .no, .no, .no, .no, .no, .no, .no]) (endF [a0, a1, a2, a3] Q) (fun n fs ρ => gv (outs [a0, a1, a2, a3] ρ) fun q => X n fs q) := wp_fn rfl
theorem wp_fn4_22 {y : Mo Fl} {a0 a1 a2 a3 : Sl} {Q : Rs → List Sl → Prop} {X : XQ (List Sl)} : wp (fnX 4 22 y [a0, a1, a2, a3]) Q X = wp (y [a0, a1, a2, a3, .no, .no, .no, .no, .no, .no, .no, .no, .no, .no, .no, .no, .no, .no, .no, .no, .no, .no]) (endF [a0, a1, a2, a3] Q) (fun n fs ρ => gv (outs [a0, a1, a2, a3] ρ) fun q => X n fs q) := wp_fn rfl
theorem wp_fn4_23 {y : Mo Fl} {a0 a1 a2 a3 : Sl} {Q : Rs → List Sl → Prop} {X : XQ (List Sl)} : wp (fnX 4 23 y [a0, a1, a2, a3]) Q X = wp (y [a0, a1, a2, a3, .no, .no, .no, .no, .no, .no, .no, .no, .no, .no, .no, .no, .no, .no, .no, .no, .no, .no, .no]) (endF [a0, a1, a2, a3] Q) (fun n fs ρ => gv (outs [a0, a1, a2, a3] ρ) fun q => X n fs q) := wp_fn rfl
theorem wp_fn4_24 {y : Mo Fl} {a0 a1 a2 a3 : Sl} {Q : Rs → List Sl → Prop} {X : XQ (List Sl)} : wp (fnX 4 24 y [a0, a1, a2, a3]) Q X = wp (y [a0, a1, a2, a3, .no, .no, .no, .no, .no, .no, .no, .no, .no, .no, .no, .no, .no, .no, .no, .no, .no, .no, .no, .no]) (endF [a0, a1, a2, a3] Q) (fun n fs ρ => gv (outs [a0, a1, a2, a3] ρ) fun q => X n fs q) := wp_fn rfl
theorem wp_fn4_25 {y : Mo Fl} {a0 a1 a2 a3 : Sl} {Q : Rs → List Sl → Prop} {X : XQ (List Sl)} : wp (fnX 4 25 y [a0, a1, a2, a3]) Q X = wp (y [a0, a1, a2, a3, .no, .no, .no, .no, .no, .no, .no, .no, .no, .no, .no, .no, .no, .no, .no, .no, .no, .no, .no, .no, .no]) (endF [a0, a1, a2, a3] Q) (fun n fs ρ => gv (outs [a0, a1, a2, a3] ρ) fun q => X n fs q) := wp_fn rfl
theorem wp_fn4_26 {y : Mo Fl} {a0 a1 a2 a3 : Sl} {Q : Rs → List Sl → Prop} {X : XQ (List Sl)} : wp (fnX 4 26 y [a0, a1, a2, a3]) Q X = wp (y [a0, a1, a2, a3, .no, .no, .no, .no, .no, .no, .no, .no, .no, .no, .no, .no, .no, .no, .no, .no, .no, .no, .no, .no, .no, .no]) (endF [a0, a1, a2, a3] Q) (fun n fs ρ => gv (outs [a0, a1, a2, a3] ρ) fun q => X n fs q) := wp_fn rfl
theorem wp_fn4_27 {y : Mo Fl} {a0 a1 a2 a3 : Sl} {Q : Rs → List Sl → Prop} {X : XQ (List Sl)} : wp (fnX 4 27 y [a0, a1, a2, a3]) Q X = wp (y [a0, a1, a2, a3, .no, .no, .no, .no, .no, .no, .no, .no, .no, .no, .no, .no, .no, .no, .no, .no, .no, .no, .no, .no, .no, .no, .no]) (endF [a0, a1, a2, a3] Q) (fun n fs ρ => gv (outs [a0, a1, a2, a3] ρ) fun q => X n fs q) := wp_fn rfl
theorem wp_fn4_28 {y : Mo Fl} {a0 a1 a2 a3 : Sl} {Q : Rs → List Sl → Prop} {X : XQ (List Sl)} : wp (fnX 4 28 y [a0, a1, a2, a3]) Q X = wp (y [a0, a1, a2, a3, .no, .no, .no, .no, .no, .no, .no, .no, .no, .no, .no, .no, .no, .no, .no, .no, .no, .no, .no, .no, .no, .no, .no, .no]) (endF [a0, a1, a2, a3] Q) (fun n fs ρ => gv (outs [a0, a1, a2, a3] ρ) fun q => X n fs q) := wp_fn rfl
theorem wp_fn4_29 {y : Mo Fl} {a0 a1 a2 a3 : Sl} {Q : Rs → List Sl → Prop} {X : XQ (List Sl)} : wp (fnX 4 29 y [a0, a1, a2, a3]) Q X = wp (y [a0, a1, a2, a3, .no, .no, .no, .no, .no, .no, .no, .no, .no, .no, .no, .no, .no, .no, .no, .no, .no, .no, .no, .no, .no, .no, .no, .no, .no]) (endF [a0, a1, a2, a3] Q) (fun n fs ρ => gv (outs [a0, a1, a2, a3] ρ) fun q => X n fs q) := wp_fn rfl
theorem wp_fn4_30 {y : Mo Fl} {a0 a1 a2 a3 : Sl} {Q : Rs → List Sl → Prop} {X : XQ (List Sl)} : wp (fnX 4 30 y [a0, a1, a2, a3]) Q X = wp (y [a0, a1, a2, a3, .no, .no, .no, .no, .no, .no, .no, .no, .no, .no, .no, .no, .no, .no, .no, .no, .no, .no, .no, .no, .no, .no, .no, .no, .no, .no]) (endF [a0, a1, a2, a3] Q) (fun n fs ρ => gv (outs [a0, a1, a2, a3] ρ) fun q => X n fs q) := wp_fn rfl
theorem wp_fn4_31 {y : Mo Fl} {a0 a1 a2 a3 : Sl} {Q : Rs → List Sl → Prop} {X : XQ (List Sl)} : wp (fnX 4 31 y [a0, a1, a2, a3]) Q X = wp (y [a0, a1, a2, a3, .no, .no, .no, .no, .no, .no, .no, .no, .no, .no, .no, .no, .no, .no, .no, .no, .no, .no, .no, .no, .no, .no, .no, .no, .no, .no, .no]) (endF [a0, a1, a2, a3] Q) (fun n fs ρ => gv (outs [a0, a1, a2, a3] ρ) fun q => X n fs q) := wp_fn rfl
theorem wp_fn4_32 {y : Mo Fl} {a0 a1 a2 a3 : Sl} {Q : Rs → List Sl → Prop} {X : XQ (List Sl)} : wp (fnX 4 32 y [a0, a1, a2, a3]) Q X = wp (y [a0, a1, a2, a3, .no, .no, .no, .no, .no, .no, .no, .no, .no, .no, .no, .no, .no, .no, .no, .no, .no, .no, .no, .no, .no, .no, .no, .no, .no, .no, .no, .no]) (endF [a0, a1, a2, a3] Q) (fun n fs ρ => gv (outs [a0, a1, a2, a3] ρ) fun q => X n fs q) := wp_fn rfl
theorem wp_fn4_33 {y : Mo Fl} {a0 a1 a2 a3 : Sl} {Q : Rs → List Sl → Prop} {X : XQ (List Sl)} : wp (fnX 4 33 y [a0, a1, a2, a3]) Q X = wp (y [a0, a1, a2, a3, .no, .no, .no, .no, .no, .no, .no, .no, .no, .no, .no, .no, .no, .no, .no, .no, .no, .no, .no, .no, .no, .no, .no, .no, .no, .no, .no, .no, .no]) (endF [a0, a1, a2, a3] Q) (fun n fs ρ => gv (outs [a0, a1, a2, a3] ρ) fun q => X n fs q) := wp_fn rfl
theorem wp_fn5_22 {y : Mo Fl} {a0 a1 a2 a3 a4 : Sl} {Q : Rs → List Sl → Prop} {X : XQ (List Sl)} : wp (fnX 5 22 y [a0, a1, a2, a3, a4]) Q X = wp (y [a0, a1, a2, a3, a4, .no, .no, .no, .no, .no, .no, .no, .no, .no, .no, .no, .no, .no, .no, .no, .no, .no]) (endF [a0, a1, a2, a3, a4] Q) (fun n fs ρ => gv (outs [a0, a1, a2, a3, a4] ρ) fun q => X n fs q) := wp_fn rfl
theorem wp_fn5_23 {y : Mo Fl} {a0 a1 a2 a3 a4 : Sl} {Q : Rs → List Sl → Prop} {X : XQ (List Sl)} : wp (fnX 5 23 y [a0, a1, a2, a3, a4]) Q X = wp (y [a0, a1, a2, a3, a4, .no, .no, .no, .no, .no, .no, .no, .no, .no, .no, .no, .no, .no, .no, .no, .no, .no, .no]) (endF [a0, a1, a2, a3, a4] Q) (fun n fs ρ => gv (outs [a0, a1, a2, a3, a4] ρ) fun q => X n fs q) := wp_fn rfl
theorem wp_fn5_24 {y : Mo Fl} {a0 a1 a2 a3 a4 : Sl} {Q : Rs → List Sl → Prop} {X : XQ (List Sl)} : wp (fnX 5 24 y [a0, a1, a2, a3, a4]) Q X = wp (y [a0, a1, a2, a3, a4, .no, .no, .no, .no, .no, .no, .no, .no, .no, .no, .no, .no, .no, .no, .no, .no, .no, .no, .no]) (endF [a0, a1, a2, a3, a4] Q) (fun n fs ρ => gv (outs [a0, a1, a2, a3, a4] ρ) fun q => X n fs q) := wp_fn rfl
theorem wp_fn5_25 {y : Mo Fl} {a0 a1 a2 a3 a4 : Sl} {Q : Rs → List Sl → Prop} {X : XQ (List Sl)} : wp (fnX 5 25 y [a0, a1, a2, a3, a4]) Q X = wp (y [a0, a1, a2, a3, a4, .no, .no, .no, .no, .no, .no, .no, .no, .no, .no, .no, .no, .no, .no, .no, .no, .no, .no, .no, .no]) (endF [a0, a1, a2, a3, a4] Q) (fun n fs ρ => gv (outs [a0, a1, a2, a3, a4] ρ) fun q => X n fs q) := wp_fn rfl
theorem wp_fn5_26 {y : Mo Fl} {a0 a1 a2 a3 a4 : Sl} {Q : Rs → List Sl → Prop} {X : XQ (List Sl)} : wp (fnX 5 26 y [a0, a1, a2, a3, a4]) Q X = wp (y [a0, a1, a2, a3, a4, .no, .no, .no, .no, .no, .no, .no, .no, .no, .no, .no, .no, .no, .no, .no, .no, .no, .no, .no, .no, .no]) (endF [a0, a1, a2, a3, a4] Q) (fun n fs ρ => gv (outs [a0, a1, a2, a3, a4] ρ) fun q => X n fs q) := wp_fn rfl
theorem wp_fn5_27 {y : Mo Fl} {a0 a1 a2 a3 a4 : Sl} {Q : Rs → List Sl → Prop} {X : XQ (List Sl)} : wp (fnX 5 27 y [a0, a1, a2, a3, a4]) Q X = wp (y [a0, a1, a2, a3, a4, .no, .no, .no, .no, .no, .no, .no, .no, .no, .no, .no, .no, .no, .no, .no, .no, .no, .no, .no, .no, .no, .no]) (endF [a0, a1, a2, a3, a4] Q) (fun n fs ρ => gv (outs [a0, a1, a2, a3, a4] ρ) fun q => X n fs q) := wp_fn rfl
theorem wp_fn5_28 {y : Mo Fl} {a0 a1 a2 a3 a4 : Sl} {Q : Rs → List Sl → Prop} {X : XQ (List Sl)} : wp (fnX 5 28 y [a0, a1, a2, a3, a4]) Q X = wp (y [a0, a1, a2, a3, a4, .no, .no, .no, .no, .no, .no, .no, .no, .no, .no, .no, .no, .no, .no, .no, .no, .no, .no, .no, .no, .no, .no, .no]) (endF [a0, a1, a2, a3, a4] Q) (fun n fs ρ => gv (outs [a0, a1, a2, a3, a4] ρ) fun q => X n fs q) := wp_fn rfl
theorem wp_fn5_29 {y : Mo Fl} {a0 a1 a2 a3 a4 : Sl} {Q : Rs → List Sl → Prop} {X : XQ (List Sl)} : wp (fnX 5 29 y [a0, a1, a2, a3, a4]) Q X = wp (y [a0, a1, a2, a3, a4, .no, .no, .no, .no, .no, .no, .no, .no, .no, .no, .no, .no, .no, .no, .no, .no, .no, .no, .no, .no, .no, .no, .no, .no]) (endF [a0, a1, a2, a3, a4] Q) (fun n fs ρ => gv (outs [a0, a1, a2, a3, a4] ρ) fun q => X n fs q) := wp_fn rfl
theorem wp_fn5_30 {y : Mo Fl} {a0 a1 a2 a3 a4 : Sl} {Q : Rs → List Sl → Prop} {X : XQ (List Sl)} : wp (fnX 5 30 y [a0, a1, a2, a3, a4]) Q X = wp (y [a0, a1, a2, a3, a4, .no, .no, .no, .no, .no, .no, .no, .no, .no, .no, .no, .no, .no, .no, .no, .no, .no, .no, .no, .no, .no, .no, .no, .no, .no]) (endF [a0, a1, a2, a3, a4] Q) (fun n fs ρ => gv (outs [a0, a1, a2, a3, a4] ρ) fun q => X n fs q) := wp_fn rfl
theorem wp_fn5_31 {y : Mo Fl} {a0 a1 a2 a3 a4 : Sl} {Q : Rs → List Sl → Prop} {X : XQ (List Sl)} : wp (fnX 5 31 y [a0, a1, a2, a3, a4]) Q X = wp (y [a0, a1, a2, a3, a4, .no, .no, .no, .no, .no, .no, .no, .no, .no, .no, .no, .no, .no, .no, .no, .no, .no, .no, .no, .no, .no, .no, .no, .no, .no, .no]) (endF [a0, a1, a2, a3, a4] Q) (fun n fs ρ => gv (outs [a0, a1, a2, a3, a4] ρ) fun q => X n fs q) := wp_fn rfl
theorem wp_fn5_32 {y : Mo Fl} {a0 a1 a2 a3 a4 : Sl} {Q : Rs → List Sl → Prop} {X : XQ (List Sl)} : wp (fnX 5 32 y [a0, a1, a2, a3, a4]) Q X = wp (y [a0, a1, a2, a3, a4, .no, .no, .no, .no, .no, .no, .no, .no, .no, .no, .no, .no, .no, .no, .no, .no, .no, .no, .no, .no, .no, .no, .no, .no, .no, .no, .no]) (endF [a0, a1, a2, a3, a4] Q) (fun n fs ρ => gv (outs [a0, a1, a2, a3, a4] ρ) fun q => X n fs q) := wp_fn rfl
theorem wp_fn5_33 {y : Mo Fl} {a0 a1 a2 a3 a4 : Sl} {Q : Rs → List Sl → Prop} {X : XQ (List Sl)} : wp (fnX 5 33 y [a0, a1, a2, a3, a4]) Q X = wp (y [a0, a1, a2, a3, a4, .no, .no, .no, .no, .no, .no, .no, .no, .no, .no, .no, .no, .no, .no, .no, .no, .no, .no, .no, .no, .no, .no, .no, .no, .no, .no, .no, .no]) (endF [a0, a1, a2, a3, a4] Q) (fun n fs ρ => gv (outs [a0, a1, a2, a3, a4] ρ) fun q => X n fs q) := wp_fn rfl
theorem wp_fn6_23 {y : Mo Fl} {a0 a1 a2 a3 a4 a5 : Sl} {Q : Rs → List Sl → Prop} {X : XQ (List Sl)} : wp (fnX 6 23 y [a0, a1, a2, a3, a4, a5]) Q X = wp (y [a0, a1, a2, a3, a4, a5, .no, .no, .no, .no, .no, .no, .no, .no, .no, .no, .no, .no, .no, .no, .no, .no, .no]) (endF [a0, a1, a2, a3, a4, a5] Q) (fun n fs ρ => gv (outs [a0, a1, a2, a3, a4, a5] ρ) fun q => X n fs q) := wp_fn rfl
theorem wp_fn6_24 {y : Mo Fl} {a0 a1 a2 a3 a4 a5 : Sl} {Q : Rs → List Sl → Prop} {X : XQ (List Sl)} : wp (fnX 6 24 y [a0, a1, a2, a3, a4, a5]) Q X = wp (y [a0, a1, a2, a3, a4, a5, .no, .no, .no, .no, .no, .no, .no, .no, .no, .no, .no, .no, .no, .no, .no, .no, .no, .no]) (endF [a0, a1, a2, a3, a4, a5] Q) (fun n fs ρ => gv (outs [a0, a1, a2, a3, a4, a5] ρ) fun q => X n fs q) := wp_fn rfl
theorem wp_fn6_25 {y : Mo Fl} {a0 a1 a2 a3 a4 a5 : Sl} {Q : Rs → List Sl → Prop} {X : XQ (List Sl)} : wp (fnX 6 25 y [a0, a1, a2, a3, a4, a5]) Q X = wp (y [a0, a1, a2, a3, a4, a5, .no, .no, .no, .no, .no, .no, .no, .no, .no, .no, .no, .no, .no, .no, .no, .no, .no, .no, .no]) (endF [a0, a1, a2, a3, a4, a5] Q) (fun n fs ρ => gv (outs [a0, a1, a2, a3, a4, a5] ρ) fun q => X n fs q) := wp_fn rfl
theorem wp_fn6_26 {y : Mo Fl} {a0 a1 a2 a3 a4 a5 : Sl} {Q : Rs → List Sl → Prop} {X : XQ (List Sl)} : wp (fnX 6 26 y [a0, a1, a2, a3, a4, a5]) Q X = wp (y [a0, a1, a2, a3, a4, a5, .no, .no, .no, .no, .no, .no, .no, .no, .no, .no, .no, .no, .no, .no, .no, .no, .no, .no, .no, .no]) (endF [a0, a1, a2, a3, a4, a5] Q) (fun n fs ρ => gv (outs [a0, a1, a2, a3, a4, a5] ρ) fun q => X n fs q) := wp_fn rfl
theorem wp_fn6_27 {y : Mo Fl} {a0 a1 a2 a3 a4 a5 : Sl} {Q : Rs → List Sl → Prop} {X : XQ (List Sl)} : wp (fnX 6 27 y [a0, a1, a2, a3, a4, a5]) Q X = wp (y [a0, a1, a2, a3, a4, a5, .no, .no, .no, .no, .no, .no, .no, .no, .no, .no, .no, .no, .no, .no, .no, .no, .no, .no, .no, .no, .no]) (endF [a0, a1, a2, a3, a4, a5] Q) (fun n fs ρ => gv (outs [a0, a1, a2, a3, a4, a5] ρ) fun q => X n fs q) := wp_fn rfl
theorem wp_fn6_28 {y : Mo Fl} {a0 a1 a2 a3 a4 a5 : Sl} {Q : Rs → List Sl → Prop} {X : XQ (List Sl)} : wp (fnX 6 28 y [a0, a1, a2, a3, a4, a5]) Q X = wp (y [a0, a1, a2, a3, a4, a5, .no, .no, .no, .no, .no, .no, .no, .no, .no, .no, .no, .no, .no, .no, .no, .no, .no, .no, .no, .no, .no, .no]) (endF [a0, a1, a2, a3, a4, a5] Q) (fun n fs ρ => gv (outs [a0, a1, a2, a3, a4, a5] ρ) fun q => X n fs q) := wp_fn rfl
theorem wp_fn6_29 {y : Mo Fl} {a0 a1 a2 a3 a4 a5 : Sl} {Q : Rs → List Sl → Prop} {X : XQ (List Sl)} : wp (fnX 6 29 y [a0, a1, a2, a3, a4, a5]) Q X = wp (y [a0, a1, a2, a3, a4, a5, .no, .no, .no, .no, .no, .no, .no, .no, .no, .no, .no, .no, .no, .no, .no, .no, .no, .no, .no, .no, .no, .no, .no]) (endF [a0, a1, a2, a3, a4, a5] Q) (fun n fs ρ => gv (outs [a0, a1, a2, a3, a4, a5] ρ) fun q => X n fs q) := wp_fn rfl
theorem wp_fn6_30 {y : Mo Fl} {a0 a1 a2 a3 a4 a5 : Sl} {Q : Rs → List Sl → Prop} {X : XQ (List Sl)} : wp (fnX 6 30 y [a0, a1, a2, a3, a4, a5]) Q X = wp (y [a0, a1, a2, a3, a4, a5, .no, .no, .no, .no, .no, .no, .no, .no, .no, .no, .no, .no, .no, .no, .no, .no, .no, .no, .no, .no, .no, .no, .no, .no]) (endF [a0, a1, a2, a3, a4, a5] Q) (fun n fs ρ => gv (outs [a0, a1, a2, a3, a4, a5] ρ) fun q => X n fs q) := wp_fn rfl
theorem wp_fn6_31 {y : Mo Fl} {a0 a1 a2 a3 a4 a5 : Sl} {Q : Rs → List Sl → Prop} {X : XQ (List Sl)} : wp (fnX 6 31 y [a0, a1, a2, a3, a4, a5]) Q X = wp (y [a0, a1, a2, a3, a4, a5, .no, .no, .no, .no, .no, .no, .no, .no, .no, .no, .no, .no, .no, .no, .no, .no, .no, .no, .no, .no, .no, .no, .no, .no, .no]) (endF [a0, a1, a2, a3, a4, a5] Q) (fun n fs ρ => gv (outs [a0, a1, a2, a3, a4, a5] ρ) fun q => X n fs q) := wp_fn rfl
theorem wp_fn6_32 {y : Mo Fl} {a0 a1 a2 a3 a4 a5 : Sl} {Q : Rs → List Sl → Prop} {X : XQ (List Sl)} : wp (fnX 6 32 y [a0, a1, a2, a3, a4, a5]) Q X = wp (y [a0, a1, a2, a3, a4, a5, .no, .no, .no, .no, .no, .no, .no, .no, .no, .no, .no, .no, .no, .no, .no, .no, .no, .no, .no, .no, .no, .no, .no, .no, .no, .no]) (endF [a0, a1, a2, a3, a4, a5] Q) (fun n fs ρ => gv (outs [a0, a1, a2, a3, a4, a5] ρ) fun q => X n fs q) := wp_fn rfl
theorem wp_fn6_33 {y : Mo Fl} {a0 a1 a2 a3 a4 a5 : Sl} {Q : Rs → List Sl → Prop} {X : XQ (List Sl)} : wp (fnX 6 33 y [a0, a1, a2, a3, a4, a5]) Q X = wp (y [a0, a1, a2, a3, a4, a5, .no, .no, .no, .no, .no, .no, .no, .no, .no, .no, .no, .no, .no, .no, .no, .no, .no, .no, .no, .no, .no, .no, .no, .no, .no, .no, .no]) (endF [a0, a1, a2, a3, a4, a5] Q) (fun n fs ρ => gv (outs [a0, a1, a2, a3, a4, a5] ρ) fun q => X n fs q) := wp_fn rfl
theorem wp_fn7_24 {y : Mo Fl} {a0 a1 a2 a3 a4 a5 a6 : Sl} {Q : Rs → List Sl → Prop} {X : XQ (List Sl)} : wp (fnX 7 24 y [a0, a1, a2, a3, a4, a5, a6]) Q X = wp (y [a0, a1, a2, a3, a4, a5, a6, .no, .no, .no, .no, .no, .no, .no, .no, .no, .no, .no, .no, .no, .no, .no, .no, .no]) (endF [a0, a1, a2, a3, a4, a5, a6] Q) (fun n fs ρ => gv (outs [a0, a1, a2, a3, a4, a5, a6] ρ) fun q => X n fs q) := wp_fn rfl
theorem wp_fn7_25 {y : Mo Fl} {a0 a1 a2 a3 a4 a5 a6 : Sl} {Q : Rs → List Sl → Prop} {X : XQ (List Sl)} : wp (fnX 7 25 y [a0, a1, a2, a3, a4, a5, a6]) Q X = wp (y [a0, a1, a2, a3, a4, a5, a6, .no, .no, .no, .no, .no, .no, .no, .no, .no, .no, .no, .no, .no, .no, .no, .no, .no, .no]) (endF [a0, a1, a2, a3, a4, a5, a6] Q) (fun n fs ρ => gv (outs [a0, a1, a2, a3, a4, a5, a6] ρ) fun q => X n fs q) := wp_fn rfl
theorem wp_fn7_26 {y : Mo Fl} {a0 a1 a2 a3 a4 a5 a6 : Sl} {Q : Rs → List Sl → Prop} {X : XQ (List Sl)} : wp (fnX 7 26 y [a0, a1, a2, a3, a4, a5, a6]) Q X = wp (y [a0, a1, a2, a3, a4, a5, a6, .no, .no, .no, .no, .no, .no, .no, .no, .no, .no, .no, .no, .no, .no, .no, .no, .no, .no, .no]) (endF [a0, a1, a2, a3, a4, a5, a6] Q) (fun n fs ρ => gv (outs [a0, a1, a2, a3, a4, a5, a6] ρ) fun q => X n fs q) := wp_fn rfl
theorem wp_fn7_27 {y : Mo Fl} {a0 a1 a2 a3 a4 a5 a6 : Sl} {Q : Rs → List Sl → Prop} {X : XQ (List Sl)} : wp (fnX 7 27 y [a0, a1, a2, a3, a4, a5, a6]) Q X = wp (y [a0, a1, a2, a3, a4, a5, a6, .no, .no, .no, .no, .no, .no, .no, .no, .no, .no, .no, .no, .no, .no, .no, .no, .no, .no, .no, .no]) (endF [a0, a1, a2, a3, a4, a5, a6] Q) (fun n fs ρ => gv (outs [a0, a1, a2, a3, a4, a5, a6] ρ) fun q => X n fs q) := wp_fn rfl
theorem wp_fn7_28 {y : Mo Fl} {a0 a1 a2 a3 a4 a5 a6 : Sl} {Q : Rs → List Sl → Prop} {X : XQ (List Sl)} : wp (fnX 7 28 y [a0, a1, a2, a3, a4, a5, a6]) Q X = wp (y [a0, a1, a2, a3, a4, a5, a6, .no, .no, .no, .no, .no, .no, .no, .no, .no, .no, .no, .no, .no, .no, .no, .no, .no, .no, .no, .no, .no]) (endF [a0, a1, a2, a3, a4, a5, a6] Q) (fun n fs ρ => gv (outs [a0, a1, a2, a3, a4, a5, a6] ρ) fun q => X n fs q) := wp_fn rfl
theorem wp_fn7_29 {y : Mo Fl} {a0 a1 a2 a3 a4 a5 a6 : Sl} {Q : Rs → List Sl → Prop} {X : XQ (List Sl)} : wp (fnX 7 29 y [a0, a1, a2, a3, a4, a5, a6]) Q X = wp (y [a0, a1, a2, a3, a4, a5, a6, .no, .no, .no, .no, .no, .no, .no, .no, .no, .no, .no, .no, .no, .no, .no, .no, .no, .no, .no, .no, .no, .no]) (endF [a0, a1, a2, a3, a4, a5, a6] Q) (fun n fs ρ => gv (outs [a0, a1, a2, a3, a4, a5, a6] ρ) fun q => X n fs q) := wp_fn rfl
theorem wp_fn7_30 {y : Mo Fl} {a0 a1 a2 a3 a4 a5 a6 : Sl} {Q : Rs → List Sl → Prop} {X : XQ (List Sl)} : wp (fnX 7 30 y [a0, a1, a2, a3, a4, a5, a6]) Q X = wp (y [a0, a1, a2, a3, a4, a5, a6, .no, .no, .no, .no, .no, .no, .no, .no, .no, .no, .no, .no, .no, .no, .no, .no, .no, .no, .no, .no, .no, .no, .no]) (endF [a0, a1, a2, a3, a4, a5, a6] Q) (fun n fs ρ => gv (outs [a0, a1, a2, a3, a4, a5, a6] ρ) fun q => X n fs q) := wp_fn rfl
theorem wp_fn7_31 {y : Mo Fl} {a0 a1 a2 a3 a4 a5 a6 : Sl} {Q : Rs → List Sl → Prop} {X : XQ (List Sl)} : wp (fnX 7 31 y [a0, a1, a2, a3, a4, a5, a6]) Q X = wp (y [a0, a1, a2, a3, a4, a5, a6, .no, .no, .no, .no, .no, .no, .no, .no, .no, .no, .no, .no, .no, .no, .no, .no, .no, .no, .no, .no, .no, .no, .no, .no]) (endF [a0, a1, a2, a3, a4, a5, a6] Q) (fun n fs ρ => gv (outs [a0, a1, a2, a3, a4, a5, a6] ρ) fun q => X n fs q) := wp_fn rfl
theorem wp_fn7_32 {y : Mo Fl} {a0 a1 a2 a3 a4 a5 a6 : Sl} {Q : Rs → List Sl → Prop} {X : XQ (List Sl)} : wp (fnX 7 32 y [a0, a1, a2, a3, a4, a5, a6]) Q X = wp (y [a0, a1, a2, a3, a4, a5, a6, .no, .no, .no, .no, .no, .no, .no, .no, .no, .no, .no, .no, .no, .no, .no, .no, .no, .no, .no, .no, .no, .no, .no, .no, .no]) (endF [a0, a1, a2, a3, a4, a5, a6] Q) (fun n fs ρ => gv (outs [a0, a1, a2, a3, a4, a5, a6] ρ) fun q => X n fs q) := wp_fn rfl
theorem wp_fn7_33 {y : Mo Fl} {a0 a1 a2 a3 a4 a5 a6 : Sl} {Q : Rs → List Sl → Prop} {X : XQ (List Sl)} : wp (fnX 7 33 y [a0, a1, a2, a3, a4, a5, a6]) Q X = wp (y [a0, a1, a2, a3, a4, a5, a6, .no, .no, .no, .no, .no, .no, .no, .no, .no, .no, .no, .no, .no, .no, .no, .no, .no, .no, .no, .no, .no, .no, .no, .no, .no, .no]) (endF [a0, a1, a2, a3, a4, a5, a6] Q) (fun n fs ρ => gv (outs [a0, a1, a2, a3, a4, a5, a6] ρ) fun q => X n fs q) := wp_fn rfl
theorem wp_fn8_25 {y : Mo Fl} {a0 a1 a2 a3 a4 a5 a6 a7 : Sl} {Q : Rs → List Sl → Prop} {X : XQ (List Sl)} : wp (fnX 8 25 y [a0, a1, a2, a3, a4, a5, a6, a7]) Q X = wp (y [a0, a1, a2, a3, a4, a5, a6, a7, .no, .no, .no, .no, .no, .no, .no, .no, .no, .no, .no, .no, .no, .no, .no, .no, .no]) (endF [a0, a1, a2, a3, a4, a5, a6, a7] Q) (fun n fs ρ => gv (outs [a0, a1, a2, a3, a4, a5, a6, a7] ρ) fun q => X n fs q) := wp_fn rfl
theorem wp_fn8_26 {y : Mo Fl} {a0 a1 a2 a3 a4 a5 a6 a7 : Sl} {Q : Rs → List Sl → Prop} {X : XQ (List Sl)} : wp (fnX 8 26 y [a0, a1, a2, a3, a4, a5, a6, a7]) Q X = wp (y [a0, a1, a2, a3, a4, a5, a6, a7, .no, .no, .no, .no, .no, .no, .no, .no, .no, .no, .no, .no, .no, .no, .no, .no, .no, .no]) (endF [a0, a1, a2, a3, a4, a5, a6, a7] Q) (fun n fs ρ => gv (outs [a0, a1, a2, a3, a4, a5, a6, a7] ρ) fun q => X n fs q) := wp_fn rfl
theorem wp_fn8_27 {y : Mo Fl} {a0 a1 a2 a3 a4 a5 a6 a7 : Sl} {Q : Rs → List Sl → Prop} {X : XQ (List Sl)} : wp (fnX 8 27 y [a0, a1, a2, a3, a4, a5, a6, a7]) Q X = wp (y [a0, a1, a2, a3, a4, a5, a6, a7, .no, .no, .no, .no, .no, .no, .no, .no, .no, .no, .no, .no, .no, .no, .no, .no, .no, .no, .no]) (endF [a0, a1, a2, a3, a4, a5, a6, a7] Q) (fun n fs ρ => gv (outs [a0, a1, a2, a3, a4, a5, a6, a7] ρ) fun q => X n fs q) := wp_fn rfl
theorem wp_fn8_28 {y : Mo Fl} {a0 a1 a2 a3 a4 a5 a6 a7 : Sl} {Q : Rs → List Sl → Prop} {X : XQ (List Sl)} : wp (fnX 8 28 y [a0, a1, a2, a3, a4, a5, a6, a7]) Q X = wp (y [a0, a1, a2, a3, a4, a5, a6, a7, .no, .no, .no, .no, .no, .no, .no, .no, .no, .no, .no, .no, .no, .no, .no, .no, .no, .no, .no, .no]) (endF [a0, a1, a2, a3, a4, a5, a6, a7] Q) (fun n fs ρ => gv (outs [a0, a1, a2, a3, a4, a5, a6, a7] ρ) fun q => X n fs q) := wp_fn rfl
theorem wp_fn8_29 {y : Mo Fl} {a0 a1 a2 a3 a4 a5 a6 a7 : Sl} {Q : Rs → List Sl → Prop} {X : XQ (List Sl)} : wp (fnX 8 29 y [a0, a1, a2, a3, a4, a5, a6, a7]) Q X = wp (y [a0, a1, a2, a3, a4, a5, a6, a7, .no, .no, .no, .no, .no, .no, .no, .no, .no, .no, .no, .no, .no, .no, .no, .no, .no, .no, .no, .no, .no]) (endF [a0, a1, a2, a3, a4, a5, a6, a7] Q) (fun n fs ρ => gv (outs [a0, a1, a2, a3, a4, a5, a6, a7] ρ) fun q => X n fs q) := wp_fn rfl
theorem wp_fn8_30 {y : Mo Fl} {a0 a1 a2 a3 a4 a5 a6 a7 : Sl} {Q : Rs → List Sl → Prop} {X : XQ (List Sl)} : wp (fnX 8 30 y [a0, a1, a2, a3, a4, a5, a6, a7]) Q X = wp (y [a0, a1, a2, a3, a4, a5, a6, a7, .no, .no, .no, .no, .no, .no, .no, .no, .no, .no, .no, .no, .no, .no, .no, .no, .no, .no, .no, .no, .no, .no]) (endF [a0, a1, a2, a3, a4, a5, a6, a7] Q) (fun n fs ρ => gv (outs [a0, a1, a2, a3, a4, a5, a6, a7] ρ) fun q => X n fs q) := wp_fn rfl
theorem wp_fn8_31 {y : Mo Fl} {a0 a1 a2 a3 a4 a5 a6 a7 : Sl} {Q : Rs → List Sl → Prop} {X : XQ (List Sl)} : wp (fnX 8 31 y [a0, a1, a2, a3, a4, a5, a6, a7]) Q X = wp (y [a0, a1, a2, a3, a4, a5, a6, a7, .no, .no, .no, .no, .no, .no, .no, .no, .no, .no, .no, .no, .no, .no, .no, .no, .no, .no, .no, .no, .no, .no, .no]) (endF [a0, a1, a2, a3, a4, a5, a6, a7] Q) (fun n fs ρ => gv (outs [a0, a1, a2, a3, a4, a5, a6, a7] ρ) fun q => X n fs q) := wp_fn rfl
theorem wp_fn8_32 {y : Mo Fl} {a0 a1 a2 a3 a4 a5 a6 a7 : Sl} {Q : Rs → List Sl → Prop} {X : XQ (List Sl)} : wp (fnX 8 32 y [a0, a1, a2, a3, a4, a5, a6, a7]) Q X = wp (y [a0, a1, a2, a3, a4, a5, a6, a7, .no, .no, .no, .no, .no, .no, .no, .no, .no, .no, .no, .no, .no, .no, .no, .no, .no, .no, .no, .no, .no, .no, .no, .no]) (endF [a0, a1, a2, a3, a4, a5, a6, a7] Q) (fun n fs ρ => gv (outs [a0, a1, a2, a3, a4, a5, a6, a7] ρ) fun q => X n fs q) := wp_fn rfl
theorem wp_fn8_33 {y : Mo Fl} {a0 a1 a2 a3 a4 a5 a6 a7 : Sl} {Q : Rs → List Sl → Prop} {X : XQ (List Sl)} : wp (fnX 8 33 y [a0, a1, a2, a3, a4, a5, a6, a7]) Q X = wp (y [a0, a1, a2, a3, a4, a5, a6, a7, .no, .no, .no, .no, .no, .no, .no, .no, .no, .no, .no, .no, .no, .no, .no, .no, .no, .no, .no, .no, .no, .no, .no, .no, .no]) (endF [a0, a1, a2, a3, a4, a5, a6, a7] Q) (fun n fs ρ => gv (outs [a0, a1, a2, a3, a4, a5, a6, a7] ρ) fun q => X n fs q) := wp_fn rfl
/-- some slots, whatever they hold -/
def Vr : Nat → (List Sl → Prop) → Prop
  | 0, P => P []
  | n + 1, P => ∃ a, Vr n fun l => P (a :: l)
theorem Vr_mk : ∀ {n : Nat} {l : List Sl} {P : List Sl → Prop}, P l → l.length = n → Vr n P
  | 0, [], _, h, _ => h
  | 0, _ :: _, _, _, e => by simp at e
  | n + 1, [], _, _, e => by simp at e
  | n + 1, a :: l, P, h, e => ⟨a, Vr_mk (l := l) (P := fun l => P (a :: l)) h (by simpa using e)⟩
end Dl
end

section
set_option Elab.async false
set_option linter.all false
set_option maxRecDepth 100000
namespace Dl
open PySem PySem.Spec PyProof.Rows L2
section
variable {ι : Type} {vs : List Nat} {tg : Tg} {tt : Mo Bool} {el : Mo PyData} {body : Mo Fl} {ρ : En} {QF : Fl → En → Prop} {X : XQ En} {ds : List PyData} {xs : List ι} {enc f : ι → PyData} {p : ι → Bool} {Q : List PyData × En → Prop}
theorem lc_mapE (e : ds = xs.map enc) (h : ∀ a ∈ xs, lcStep vs tg tt el (enc a) ρ fun o ρ' => o = some (f a) ∧ ρ' = ρ) (k : Q (xs.map f, ρ)) : gv (lcX vs tg tt el ds ρ) Q := by subst e; exact lc_map h k
theorem lc_filterE (e : ds = xs.map enc) (h : ∀ a ∈ xs, lcStep vs tg tt el (enc a) ρ fun o ρ' => o = (if p a = true then some (f a) else none) ∧ ρ' = ρ) (k : Q ((xs.filter p).map f, ρ)) : gv (lcX vs tg tt el ds ρ) Q := by subst e; exact lc_filter h k
/-- a loop, told by what is done -/
theorem for_pre (e : ds = xs.map enc) (I : List ι → En → Prop) (h0 : I [] ρ) (hs : ∀ done a rest ρ, xs = done ++ a :: rest → I done ρ → gv (tg (enc a) ρ) fun ρ1 => wp (body ρ1) (turnQ (I (done ++ [a])) QF) X) (he : ∀ ρ, I xs ρ → QF .nx ρ) : wp (forX tg body ds ρ) QF X := by
  subst e
  refine for_map (fun rest ρ => ∃ done, xs = done ++ rest ∧ I done ρ) ⟨[], rfl, h0⟩ ?_ ?_
  · intro a rest ρ ⟨done, e, i⟩
    refine gv_mono (hs done a rest ρ e i) fun ρ1 w => wp_mono w (fun f ρ2 t => ?_) fun _ _ _ z => z
    have g : ∀ ρ, I (done ++ [a]) ρ → ∃ d, xs = d ++ rest ∧ I d ρ := fun ρ i => ⟨done ++ [a], by rw [e]; simp, i⟩
    cases f with
    | nx => rw [turnQ_nx] at t ⊢; exact g _ t
    | ct => rw [turnQ_ct] at t ⊢; exact g _ t
    | bk => rw [turnQ_bk] at t ⊢; exact t
    | rt r => rw [turnQ_rt] at t ⊢; exact t
  · intro ρ ⟨done, e, i⟩
    rw [List.append_nil] at e
    subst e
    exact he ρ i
theorem lc_pre (e : ds = xs.map enc) (I : List ι → List PyData → En → Prop) (h0 : I [] [] ρ) (hs : ∀ done a rest acc ρ, xs = done ++ a :: rest → I done acc ρ → lcStep vs tg tt el (enc a) ρ fun o ρ' => I (done ++ [a]) (acc ++ o.toList) ρ') (he : ∀ acc ρ, I xs acc ρ → Q (acc, ρ)) : gv (lcX vs tg tt el ds ρ) Q := by
  subst e
  have step_mono : ∀ {d : PyData} {ρ : En} {K K' : Option PyData → En → Prop}, (∀ o ρ, K o ρ → K' o ρ) → lcStep vs tg tt el d ρ K → lcStep vs tg tt el d ρ K' := by
    intro d ρ K K' m h
    rw [lcStep_e] at h ⊢
    refine gv_mono h fun ρ1 w => wp_mono w (fun b ρ2 z => ?_) fun _ _ _ z => z
    split at z
    · rename_i hb
      rw [if_pos hb]
      refine wp_mono z (fun x ρ3 y => ?_) fun _ _ _ z => z
      rw [stE_e] at y ⊢; exact m _ _ y
    · rename_i hb
      rw [if_neg hb]
      rw [stE_e] at z ⊢; exact m _ _ z
  refine lc_mapS (acc := []) (fun rest acc ρ => ∃ done, xs = done ++ rest ∧ I done acc ρ) ⟨[], rfl, h0⟩ ?_ ?_
  · intro a rest acc ρ ⟨done, e, i⟩
    exact step_mono (fun o ρ' z => ⟨done ++ [a], by rw [e]; simp, z⟩) (hs done a rest acc ρ e i)
  · intro ys ρ ⟨done, e, i⟩
    rw [List.append_nil] at e
    subst e
    exact he _ ρ (by simpa using i)
end
/-- a range, by the naturals in it -/
theorem rangeD_nat {n : Nat} : rangeD 0 n = (List.range n).map fun i : Nat => PyData.int i := by rw [rangeD_map]; simp
theorem pre_range {n i : Nat} {done rest : List Nat} (e : List.range n = done ++ i :: rest) : i = done.length ∧ done = List.range i ∧ i < n := by
  have h1 : (List.range n)[done.length]? = some i := by rw [e]; simp
  rw [List.getElem?_range] at h1
  · have hl : done.length = i := by simpa using h1
    have hn : i < n := by
      have := congrArg List.length e
      simp at this; omega
    refine ⟨hl.symm, ?_, hn⟩
    have := congrArg (List.take done.length) e
    rw [List.take_left', List.take_range] at this
    · rw [← this, hl]; congr 1; omega
    · rfl
  · have := congrArg List.length e
    simp at this; omega
theorem cut_1m {α : Type} {xs : List α} (h : 1 ≤ xs.length) : cutD xs (some 1) (some (-1)) = (xs.take (xs.length - 1)).drop 1 := by
  unfold cutD
  have e1 : HT.sIx xs.length 0 (some 1) = 1 := by unfold HT.sIx; simp; omega
  have e2 : HT.sIx xs.length xs.length (some (-1)) = xs.length - 1 := by unfold HT.sIx; simp; omega
  rw [e1, e2, List.drop_take]
theorem cut_m {α : Type} {xs : List α} : cutD xs none (some (-1)) = xs.take (xs.length - 1) := by
  unfold cutD
  have e2 : HT.sIx xs.length xs.length (some (-1)) = xs.length - 1 := by unfold HT.sIx; simp; omega
  rw [HT.sIx_none, e2, List.drop_zero, Nat.sub_zero]
theorem atI_m {α : Type} {xs : List α} (h : 0 < xs.length) : atI xs (-1) = xs[xs.length - 1]? := by
  unfold atI ixN
  have e : ((xs.length : Nat) : Int) + -1 = ((xs.length - 1 : Nat) : Int) := by omega
  simp
  split <;> simp_all <;> (try omega)
  all_goals (try congr 1)
  all_goals (try omega)
/-- a row of whole numbers, by their places -/
def arrI (n : Nat) (F : Nat → Int) : List PyData := (List.range n).map fun i => .int (F i)
theorem arrI_len {n : Nat} {F : Nat → Int} : (arrI n F).length = n := by simp [arrI]
theorem arrI_get {n : Nat} {F : Nat → Int} {i : Nat} (h : i < n) : (arrI n F)[i]? = some (.int (F i)) := by simp [arrI, h]
theorem arrI_set {n : Nat} {F : Nat → Int} {i : Nat} {v : Int} : (arrI n F).set i (.int v) = arrI n fun j => if j = i then v else F j := by
  unfold arrI
  refine List.ext_getElem? fun j => ?_
  rw [List.getElem?_set]
  by_cases hj : j < n
  · by_cases e : i = j
    · subst e; simp [hj]
    · have e2 : ¬ j = i := fun z => e z.symm
      simp [hj, e, e2]
  · by_cases e : i = j
    · subst e; simp [hj]
    · simp [hj, e]
theorem arrI_rep {n : Nat} {v : Int} : (List.replicate n [PyData.int v]).flatten = arrI n fun _ => v := by
  unfold arrI
  induction n with
  | zero => rfl
  | succ n ih => rw [List.range_succ, List.map_append, ← ih, List.replicate_succ', List.flatten_append]; simp
theorem arrI_congr {n : Nat} {F G : Nat → Int} (h : ∀ i, i < n → F i = G i) : arrI n F = arrI n G := by
  unfold arrI
  exact List.map_congr_left fun i hi => by rw [h i (List.mem_range.mp hi)]
theorem gAnyN_map {ι : Type} {f : ι → Int} {xs : List ι} : gAnyN [.list (xs.map fun a => PyData.int (f a))] = some (.dt (.bool (xs.any fun a => f a != 0))) := by
  cases xs with
  | nil => rfl
  | cons a xs =>
    have : boolsOf ((a :: xs).map fun a => PyData.int (f a)) = none := rfl
    simp only [gAnyN, this, intsOf_map, List.any_map]
    rfl
theorem zp2_nt {k : Bool} {N : Net} {ys : List PyData} : zp2 [encN k N, .tuple ys] = some (zipD (N.map (encS k)) ys) := zp2_e lt2_k lt2_t
theorem zp2_nl {k : Bool} {N : Net} {ys : List PyData} : zp2 [encN k N, .list ys] = some (zipD (N.map (encS k)) ys) := zp2_e lt2_k lt2_l
theorem zp2_nk {k j : Bool} {N : Net} {ys : List PyData} : zp2 [encN k N, sqd j ys] = some (zipD (N.map (encS k)) ys) := zp2_e lt2_k lt2_k
theorem en2_n {k : Bool} {N : Net} : en2 [encN k N] = some (enumD 0 (N.map (encS k))) := en2_k
theorem ix_encN {k : Bool} {N : Net} {i : Int} : gIx [encN k N, .int i] = (atI (N.map (encS k)) i).map .dt := gIx_k
theorem gNe_nil {n : Nat} {xs : List PyData} (h : okd n (.list xs)) (hn : n ≤ 64) : gNe [.list xs, .list []] = some (.dt (.bool (!xs.isEmpty))) := by
  have h0 : okd 1 (.list []) := ⟨by simp, by simp⟩
  rw [gNe_e h h0 hn (by omega)]
  have := gEq_nil h hn
  rw [gEq_e h h0 hn (by omega)] at this
  simp only [Option.some.injEq, Rs.dt.injEq, PyData.bool.injEq] at this
  rw [this]
theorem idx_map {α β : Type} {Z : List α} {P : α → Bool} {g : α → β} : (Z.zipIdx.filter fun p => P p.1).map (fun p => g p.1) = (Z.filter P).map g := by
  have e : (Z.zipIdx.filter fun p => P p.1).map (fun p => p.1) = Z.filter P := by
    have := List.filter_map (f := fun p : α × Nat => p.1) (p := P) (l := Z.zipIdx)
    rw [show (Z.zipIdx.map fun p : α × Nat => p.1) = Z by simp [List.zipIdx_map_fst]] at this
    exact this.symm
  rw [← e, List.map_map]; rfl
theorem idx_get {α : Type} {Z : List α} {p : α × Nat} (h : p ∈ Z.zipIdx) : Z[p.2]? = some p.1 := by
  obtain ⟨a, i⟩ := p
  exact List.mem_zipIdx_iff_getElem?.mp h
theorem sum_filt {α : Type} {P : α → Bool} {g : α → Int} : ∀ {Z : List α}, ((Z.filter P).map g).sum = (Z.map fun a => if P a = true then g a else 0).sum
  | [] => rfl
  | a :: Z => by
    rw [List.filter_cons, List.map_cons, List.sum_cons, ← sum_filt]
    split <;> simp
theorem sum_sub {α : Type} {f g : α → Int} : ∀ {Z : List α}, (Z.map fun a => f a - g a).sum = (Z.map f).sum - (Z.map g).sum
  | [] => rfl
  | a :: Z => by simp only [List.map_cons, List.sum_cons, sum_sub]; omega
end Dl
end

section
set_option Elab.async false
set_option linter.all false
set_option maxRecDepth 100000
namespace Dl
open PySem PySem.Spec PyProof.Rows L2
/-! paths and sums -/
theorem perm_sum {α : Type} {f : α → Int} {a b : List α} (h : a.Perm b) : (a.map f).sum = (b.map f).sum := by
  induction h with
  | nil => rfl
  | cons x _ ih => simp only [List.map_cons, List.sum_cons, ih]
  | swap x y l => simp only [List.map_cons, List.sum_cons]; omega
  | trans _ _ h1 h2 => exact h1.trans h2
theorem sum_zero {α : Type} {f : α → Int} : ∀ {l : List α}, (∀ a ∈ l, f a = 0) → (l.map f).sum = 0
  | [], _ => rfl
  | a :: l, h => by rw [List.map_cons, List.sum_cons, h a (by simp), sum_zero fun b m => h b (by simp [m])]; rfl
theorem sum_congr {α : Type} {f g : α → Int} : ∀ {l : List α}, (∀ a ∈ l, f a = g a) → (l.map f).sum = (l.map g).sum
  | [], _ => rfl
  | a :: l, h => by rw [List.map_cons, List.map_cons, List.sum_cons, List.sum_cons, h a (by simp), sum_congr fun b m => h b (by simp [m])]
theorem sum_add {α : Type} {f g : α → Int} : ∀ {Z : List α}, (Z.map fun a => f a + g a).sum = (Z.map f).sum + (Z.map g).sum
  | [] => rfl
  | a :: Z => by simp only [List.map_cons, List.sum_cons, sum_add]; omega
theorem sum_mul {α : Type} {f : α → Int} {c : Int} : ∀ {Z : List α}, (Z.map fun a => c * f a).sum = c * (Z.map f).sum
  | [] => by simp
  | a :: Z => by simp only [List.map_cons, List.sum_cons, sum_mul, Int.mul_add]
/-- two sums in the other order -/
theorem sum_swap {α β : Type} {f : α → β → Int} : ∀ {A : List α} {B : List β}, (A.map fun a => (B.map fun b => f a b).sum).sum = (B.map fun b => (A.map fun a => f a b).sum).sum
  | [], B => by simp only [List.map_nil, List.sum_nil]; exact (sum_zero fun _ _ => rfl).symm
  | a :: A, B => by simp only [List.map_cons, List.sum_cons, sum_add, sum_swap (A := A)]
theorem pth_low {N : Net} (hl : ∀ s ∈ N, s.2.1 < s.2.2) : ∀ {w : List Stp3} {p q : Int}, Pth N p w q → ∀ s ∈ w, p ≤ s.2.1
  | [], _, _, _, s, m => by simp at m
  | t :: w, p, q, ⟨h1, h2, h3⟩, s, m => by
    have hp : p = t.2.1 := by first | exact h2 | exact h2.symm
    rcases List.mem_cons.mp m with e | e
    · rw [e]; omega
    · have := pth_low hl h3 s e
      have := hl t h1
      omega
theorem pth_nodup {N : Net} (hl : ∀ s ∈ N, s.2.1 < s.2.2) : ∀ {w : List Stp3} {p q : Int}, Pth N p w q → w.Nodup
  | [], _, _, _ => List.nodup_nil
  | t :: w, p, q, ⟨h1, h2, h3⟩ => by
    refine List.nodup_cons.mpr ⟨fun m => ?_, pth_nodup hl h3⟩
    have := pth_low hl h3 t m
    have := hl t h1
    omega
theorem sum_on {N w : List Stp3} (hN : N.Nodup) (hw : w.Nodup) (hs : ∀ s ∈ w, s ∈ N) {f : Stp3 → Int} : (N.map fun s => if s ∈ w then f s else 0).sum = (w.map f).sum := by
  have e : (N.filter fun s => decide (s ∈ w)).Perm w := nodup_perm (hN.filter _) hw fun a => by
    rw [List.mem_filter, decide_eq_true_eq]
    exact ⟨fun z => z.2, fun z => ⟨hs a z, z⟩⟩
  rw [← perm_sum e, sum_filt]
  exact sum_congr fun a _ => by simp
/-- a path comes to a place as often as it leaves it -/
theorem pth_flow {N : Net} {r : Int} : ∀ {w : List Stp3} {p q : Int}, Pth N p w q → (w.map fun s => (if s.2.1 = r then (1 : Int) else 0) - (if s.2.2 = r then 1 else 0)).sum = (if p = r then 1 else 0) - (if q = r then 1 else 0)
  | [], p, q, h => by
    have e : p = q := h
    subst e; simp
  | t :: w, p, q, ⟨h1, h2, h3⟩ => by
    have hp : t.2.1 = p := by first | exact h2 | exact h2.symm
    rw [List.map_cons, List.sum_cons, pth_flow h3, hp]; omega
theorem place_in {N : Net} {last : Int} (h : IsNet N last) : ∀ (n : Nat) (p : Int), p.toNat ≤ n → 0 ≤ p → p ≤ last → ∃ w, Pth N 0 w p
  | 0, p, hn, h0, _ => ⟨[], show (0 : Int) = p by omega⟩
  | n + 1, p, hn, h0, hl => by
    by_cases e : p = 0
    · subst e; exact ⟨[], rfl⟩
    · obtain ⟨s, ms, hs⟩ := h.inn p (by omega) hl
      have := h.lo s ms
      obtain ⟨w, hw⟩ := place_in h n s.2.1 (by omega) this.1 (by omega)
      exact ⟨w ++ [s], pth_app hw ⟨ms, by first | rfl | exact rfl, by rw [← hs]; exact rfl⟩⟩
theorem place_out {N : Net} {last : Int} (h : IsNet N last) : ∀ (n : Nat) (p : Int), (last - p).toNat ≤ n → 0 ≤ p → p ≤ last → ∃ w, Pth N p w last
  | 0, p, hn, h0, _ => ⟨[], show p = last by omega⟩
  | n + 1, p, hn, h0, hl => by
    by_cases e : p = last
    · subst e; exact ⟨[], rfl⟩
    · obtain ⟨s, ms, hs⟩ := h.out p h0 (by omega)
      have := h.lo s ms
      obtain ⟨w, hw⟩ := place_out h n s.2.2 (by omega) (by omega) this.2.2
      exact ⟨s :: w, ms, by first | exact hs | exact hs.symm, hw⟩
theorem way_thru {N : Net} {last : Int} (h : IsNet N last) {s : Stp3} (hs : s ∈ N) : ∃ w, Pth N 0 w last ∧ s ∈ w := by
  have := h.lo s hs
  obtain ⟨a, ha⟩ := place_in h _ s.2.1 (Nat.le_refl _) this.1 (by omega)
  obtain ⟨b, hb⟩ := place_out h _ s.2.2 (Nat.le_refl _) (by omega) this.2.2
  exact ⟨a ++ s :: b, pth_app ha ⟨hs, rfl, hb⟩, by simp⟩
end Dl
end

section
set_option Elab.async false
set_option linter.all false
set_option maxRecDepth 100000
set_option maxHeartbeats 2000000
namespace Lw
open PySem PySem.Spec PyProof.Rows L2 Dl
def topS (i : Nat) : Stmt := PySem.Challenge.pw_slowedsteps_k32_loads_or_not.main.body.getD i (.Pass ⟨0, 0, 0, 0⟩)
/-- names that the top leaves free -/
structure Bn (mg : Str → Option Value) : Prop where
  b_abs : mg "abs" = none
  b_all : mg "all" = none
  b_any : mg "any" = none
  b_bool : mg "bool" = none
  b_enumerate : mg "enumerate" = none
  b_int : mg "int" = none
  b_isinstance : mg "isinstance" = none
  b_len : mg "len" = none
  b_list : mg "list" = none
  b_max : mg "max" = none
  b_range : mg "range" = none
  b_sorted : mg "sorted" = none
  b_str : mg "str" = none
  b_sum : mg "sum" = none
  b_tuple : mg "tuple" = none
  b_zip : mg "zip" = none
/-- what is known of the errors -/
structure Ez (P : Program) (w : World) (K : PySem.W.Frag) (mg : Str → Option Value) (base : Heap) (ce : Nat → Addr) : Prop where
  tr : True
section
variable {P : Program} {w : World} {K : PySem.W.Frag} {mg : Str → Option Value} {base : Heap} {ce : Nat → Addr}
abbrev s_is_number : Stmt := topS 1
theorem sc_is_number : FnScope ["value"] ["value"] (defScope s_is_number) := ⟨rfl, rfl, rfl, by decide +kernel, rfl, by decide +kernel, by decide +kernel⟩
def x_is_number : Fx := fnX 1 1
   (yRet (xAndV (xB (gIsi "int") (vCons (oN 0) vNil)) (xNotV (oE (xB (gIsi "bool") (vCons (oN 0) vNil))))))
theorem okF_is_number {f : Addr} {fd : FuncData} (B : Bn mg) (Z : Ez P w K mg base ce)  (F : Fun K "is_number" "is_number" s_is_number f fd) : FnOk P w K mg base (L2.CX P w) 4 f fd ["value"] (spX ce 1 x_is_number) :=
  have sc := sc_is_number
  fn_ok F sc_is_number fun cdv A outer s H E O hr =>
    (dss_one (ds_ret (de_andV (de_isi (T := "int") (by decide) B.b_isinstance B.b_int bb_int (op_n 0 (pv 0))) (de_one (de_notV (op_e (de_isi (T := "bool") (by decide) B.b_isinstance B.b_bool bb_bool (op_n 0 (pv 0)))))))))
theorem ok_is_number {f : Addr} {fd : FuncData} (B : Bn mg) (Z : Ez P w K mg base ce)  (F : Fun K "is_number" "is_number" s_is_number f fd) (hm : mg "is_number" = some (.ref f)) : Fk P w K mg base ce s_is_number 4 "is_number" ["value"] x_is_number := fk_mk F hm (fun _ _ _ _ _ _ us hl => match us, hl with | [_], _ => rfl) (okF_is_number B Z  F)
abbrev s_is_count : Stmt := topS 2
theorem sc_is_count : FnScope ["value"] ["value"] (defScope s_is_count) := ⟨rfl, rfl, rfl, by decide +kernel, rfl, by decide +kernel, by decide +kernel⟩
def x_is_count : Fx := fnX 1 1
   (yRet (xAndV (xCallD x_is_number (vCons (oE (xVar 0)) (vNil))) (xB gGe (vCons (oN 0) (vCons (oE (xC (.int 0))) vNil)))))
theorem okF_is_count {f : Addr} {fd : FuncData} (B : Bn mg) (Z : Ez P w K mg base ce) (F_is_number : Fk P w K mg base ce s_is_number 4 "is_number" ["value"] x_is_number) (F : Fun K "is_count" "is_count" s_is_count f fd) : FnOk P w K mg base (L2.CX P w) 5 f fd ["value"] (spX ce 1 x_is_count) :=
  have sc := sc_is_count
  fn_ok F sc_is_count fun cdv A outer s H E O hr =>
    (dss_one (ds_ret (de_andV (de_cD F_is_number (hr.mono (by decide)) (takes_of rfl rfl rfl rfl) (as_cons (op_e (de_var 0 (pv 0))) as_nil)) (de_one (de_cmp op_ge bok_ge (op_n 0 (pv 0)) (op_e de_int))))))
theorem ok_is_count {f : Addr} {fd : FuncData} (B : Bn mg) (Z : Ez P w K mg base ce) (F_is_number : Fk P w K mg base ce s_is_number 4 "is_number" ["value"] x_is_number) (F : Fun K "is_count" "is_count" s_is_count f fd) (hm : mg "is_count" = some (.ref f)) : Fk P w K mg base ce s_is_count 5 "is_count" ["value"] x_is_count := fk_mk F hm (fun _ _ _ _ _ _ us hl => match us, hl with | [_], _ => rfl) (okF_is_count B Z F_is_number F)
abbrev s_last_place : Stmt := topS 4
theorem sc_last_place : FnScope ["net", "name", "low", "high"] ["net"] (defScope s_last_place) := ⟨rfl, rfl, rfl, by decide +kernel, rfl, by decide +kernel, by decide +kernel⟩
def x_last_place : Fx := fnX 1 4
   (yRet (xB gMax (vCons (oE (xLc [1, 2, 3] (zSeq (oN 0)) (gTp 3 (gCn (gN 1) (gCn (gN 2) (gCn (gN 3) (gNl))))) (tYesX) (xVar 3))) (vNil))))
theorem okF_last_place {f : Addr} {fd : FuncData} (B : Bn mg) (Z : Ez P w K mg base ce)  (F : Fun K "last_place" "last_place" s_last_place f fd) : FnOk P w K mg base (L2.CX P w) 4 f fd ["net"] (spX ce 1 x_last_place) :=
  have sc := sc_last_place
  fn_ok F sc_last_place fun cdv A outer s H E O hr =>
    (dss_one (ds_ret (de_B (cr_max rfl) bok_max B.b_max bb_max (as_cons (op_e (de_lc [("name", 1), ("low", 2), ("high", 3)] rfl sc.nd (di_seq (op_n 0 (pv 0))) (blk_of (by kernel_rfl)) (fun _ _ _ _ _ => (dg_tup rfl (dgs_cons (dg_name (i := 1) sc.nd rfl (by first | exact Or.inl rfl | exact Or.inr rfl) (by decide)) (dgs_cons (dg_name (i := 2) sc.nd rfl (by first | exact Or.inl rfl | exact Or.inr rfl) (by decide)) (dgs_cons (dg_name (i := 3) sc.nd rfl (by first | exact Or.inl rfl | exact Or.inr rfl) (by decide)) dgs_nil))))) (fun _ _ _ _ _ => dts_nil) (fun _ _ _ _ _ => (de_var 3 (pv 3))))) as_nil))))
theorem ok_last_place {f : Addr} {fd : FuncData} (B : Bn mg) (Z : Ez P w K mg base ce)  (F : Fun K "last_place" "last_place" s_last_place f fd) (hm : mg "last_place" = some (.ref f)) : Fk P w K mg base ce s_last_place 4 "last_place" ["net"] x_last_place := fk_mk F hm (fun _ _ _ _ _ _ us hl => match us, hl with | [_], _ => rfl) (okF_last_place B Z  F)
abbrev s_is_loads : Stmt := topS 6
theorem sc_is_loads : FnScope ["net", "goers", "thing", "part", "leaving", "name", "low", "high", "load"] ["net", "goers", "thing"] (defScope s_is_loads) := ⟨rfl, rfl, rfl, by decide +kernel, rfl, by decide +kernel, by decide +kernel⟩
def x_is_loads : Fx := fnX 3 9
   (ySeq (yIf (xOr (xNot (xTru (oE (xB (gIsi "tuple") (vCons (oN 2) vNil))))) (xOr (xTst (xB gNe (vCons (oE (xB gLen (vCons (oN 2) (vNil)))) (vCons (oE (xB gLen (vCons (oN 0) (vNil)))) vNil)))) (xNot (xTru (oE (xB gAll (vCons (oE (xLc [3] (zSeq (oN 2)) (gN 3) (tYesX) (xCallD x_is_count (vCons (oE (xVar 3)) (vNil))))) (vNil)))))))) (yRet (xC (.bool false))) (yPass))
    (ySeq (ySet 4 (xRepN (xLst (vCons (oE (xC (.int 0))) (vNil))) (xB gAdd (vCons (oE (xCallD x_last_place (vCons (oE (xVar 0)) (vNil)))) (vCons (oE (xC (.int 1))) vNil)))))
    (ySeq (yFor (zZip (vCons (oE (xVar 0)) (vCons (oE (xVar 2)) (vNil)))) (gTp 2 (gCn (gTp 3 (gCn (gN 5) (gCn (gN 6) (gCn (gN 7) (gNl))))) (gCn (gN 8) (gNl)))) (ySeq (yL 4 (yAugI 4 (fun i j => i + j) (xVar 6) (xVar 8)))
    (yL 4 (yAugI 4 (fun i j => i - j) (xVar 7) (xVar 8)))))
    (yRet (xAndV (xB gEq (vCons (oE (xB gIx (vCons (oN 4) (vCons (oE (xC (.int 0))) vNil)))) (vCons (oN 1) vNil))) (xNotV (oE (xB gAnyN (vCons (oE (xSl (oN 4) (sAt (xC (.int 1))) (sAt (xB gNeg (vCons (oE (xC (.int 1))) vNil))))) (vNil))))))))))
theorem okF_is_loads {f : Addr} {fd : FuncData} (B : Bn mg) (Z : Ez P w K mg base ce) (F_is_count : Fk P w K mg base ce s_is_count 5 "is_count" ["value"] x_is_count) (F_last_place : Fk P w K mg base ce s_last_place 4 "last_place" ["net"] x_last_place) (F : Fun K "is_loads" "is_loads" s_is_loads f fd) : FnOk P w K mg base (L2.CX P w) 6 f fd ["net", "goers", "thing"] (spX ce 3 x_is_loads) :=
  have sc := sc_is_loads
  fn_ok F sc_is_loads fun cdv A outer s H E O hr =>
    (dss_cons (ds_if (dw_or (dt_not (dt_tru (op_e (de_isi (T := "tuple") (by decide) B.b_isinstance B.b_tuple bb_tuple (op_n 2 (pv 2)))))) (dw_or (dt_cmp (op_neA hr) bok_ne (op_e (de_B call_lenA bok_len B.b_len bb_len (as_cons (op_n 2 (pv 2)) as_nil))) (op_e (de_B call_lenA bok_len B.b_len bb_len (as_cons (op_n 0 (pv 0)) as_nil)))) (dw_or1 (dt_not (dt_tru (op_e (de_B (cr_all rfl) bok_all B.b_all bb_all (as_cons (op_e (de_lc [("part", 3)] rfl sc.nd (di_seq (op_n 2 (pv 2))) (blk_of (by kernel_rfl)) (fun _ _ _ _ _ => (dg_name (i := 3) sc.nd rfl (by first | exact Or.inl rfl | exact Or.inr rfl) (by decide))) (fun _ _ _ _ _ => dts_nil) (fun _ _ _ _ _ => (de_cD F_is_count (hr.mono (by decide)) takes0 (as_cons (op_e (de_var 3 (pv 3))) as_nil))))) as_nil)))))))).pt (dss_one (ds_ret de_bl)) dss_nil)
      (dss_cons (ds_set (i := 4) sc.nd rfl (by first | exact Or.inl rfl | exact Or.inr rfl) (de_repN (de_lst (as_cons (op_e de_int) as_nil)) (de_op op_addA bok_add (op_e (de_cD F_last_place (hr.mono (by decide)) (takes_of rfl rfl rfl rfl) (as_cons (op_e (de_var 0 (pv 0))) as_nil))) (op_e de_int))))
      (dss_cons (ds_for (vs := [5, 6, 7, 8]) (passes_of rfl) rfl (di_zip B.b_zip (as_cons (op_e (de_var 0 (pv 0))) (as_cons (op_e (de_var 2 (pv 2))) as_nil))) (dg_tup rfl (dgs_cons (dg_tup rfl (dgs_cons (dg_name (i := 5) sc.nd rfl (by first | exact Or.inl rfl | exact Or.inr rfl) (by decide)) (dgs_cons (dg_name (i := 6) sc.nd rfl (by first | exact Or.inl rfl | exact Or.inr rfl) (by decide)) (dgs_cons (dg_name (i := 7) sc.nd rfl (by first | exact Or.inl rfl | exact Or.inr rfl) (by decide)) dgs_nil)))) (dgs_cons (dg_name (i := 8) sc.nd rfl (by first | exact Or.inl rfl | exact Or.inr rfl) (by decide)) dgs_nil))) (dss_cons (ds_augI 4 (f := (fun i j => i + j)) (pv 4) (de_var 6 (pv 6)) (de_var 8 (pv 8)) ip_addA)
      (dss_one (ds_augI 4 (f := (fun i j => i - j)) (pv 4) (de_var 7 (pv 7)) (de_var 8 (pv 8)) ip_subA))))
      (dss_one (ds_ret (de_andV (de_cmp (op_eqA hr) bok_eq (op_e (de_ix ix_seq bok_ix (op_n 4 (pv 4)) (op_e de_int))) (op_n 1 (pv 1))) (de_one (de_notV (op_e (de_B (cr_anyB rfl) bok_anyN B.b_any bb_any (as_cons (op_e (de_sl (op_n 4 (pv 4)) (sl_at de_int) (sl_at (de_un un_neg bok_neg (op_e de_int))))) as_nil)))))))))))
theorem ok_is_loads {f : Addr} {fd : FuncData} (B : Bn mg) (Z : Ez P w K mg base ce) (F_is_count : Fk P w K mg base ce s_is_count 5 "is_count" ["value"] x_is_count) (F_last_place : Fk P w K mg base ce s_last_place 4 "last_place" ["net"] x_last_place) (F : Fun K "is_loads" "is_loads" s_is_loads f fd) (hm : mg "is_loads" = some (.ref f)) : Fk P w K mg base ce s_is_loads 6 "is_loads" ["net", "goers", "thing"] x_is_loads := fk_mk F hm (fun _ _ _ _ _ _ us hl => match us, hl with | [_, _, _], _ => rfl) (okF_is_loads B Z F_is_count F_last_place F)
abbrev s__law_box : Stmt := topS 8
theorem sc__law_box : FnScope ["_law_script", "_law_k", "_law_cell"] ["_law_script", "_law_k"] (defScope s__law_box) := ⟨rfl, rfl, rfl, by decide +kernel, rfl, by decide +kernel, by decide +kernel⟩
def x__law_box : Fx := fnX 2 3
   (ySeq (ySet 2 (xIf (xTst (xB gLt (vCons (oN 1) (vCons (oE (xB gLen (vCons (oN 0) (vNil)))) vNil)))) (xB gIx (vCons (oN 0) (vCons (oN 1) vNil))) (xC (.int 0))))
    (yRet (xLst (vCons (oE (xB gMul (vCons (oE (xB gAbs (vCons (oN 2) (vNil)))) (vCons (oE (xB gInt (vCons (oE (xB gGe (vCons (oE (xB gAbs (vCons (oN 2) (vNil)))) (vCons (oE (xB gPow (vCons (oE (xC (.int 10))) (vCons (oE (xC (.int 18))) vNil)))) vNil)))) (vNil)))) vNil)))) (vCons (oE (xB gAdd (vCons (oE (xB gAdd (vCons (oE (xB gMod (vCons (oE (xB gInt (vCons (oN 2) (vNil)))) (vCons (oE (xC (.int 2305843009213693951))) vNil)))) (vCons (oE (xB gMul (vCons (oE (xC (.int 39373))) (vCons (oN 1) vNil)))) vNil)))) (vCons (oE (xC (.int 862532))) vNil)))) (vCons (oE (xC (.int 0))) (vNil)))))))
theorem okF__law_box {f : Addr} {fd : FuncData} (B : Bn mg) (Z : Ez P w K mg base ce)  (F : Fun K "_law_box" "_law_box" s__law_box f fd) : FnOk P w K mg base (L2.CX P w) 4 f fd ["_law_script", "_law_k"] (spX ce 2 x__law_box) :=
  have sc := sc__law_box
  fn_ok F sc__law_box fun cdv A outer s H E O hr =>
    (dss_cons (ds_set (i := 2) sc.nd rfl (by first | exact Or.inl rfl | exact Or.inr rfl) (de_if (dt_cmp op_ltA bok_lt (op_n 1 (pv 1)) (op_e (de_B call_lenA bok_len B.b_len bb_len (as_cons (op_n 0 (pv 0)) as_nil)))) (de_ix ix_seq bok_ix (op_n 0 (pv 0)) (op_n 1 (pv 1))) de_int))
      (dss_one (ds_ret (de_lst (as_cons (op_e (de_op op_mulA bok_mul (op_e (de_B call_abs bok_abs B.b_abs bb_abs (as_cons (op_n 2 (pv 2)) as_nil))) (op_e (de_T call_int1 bok_int B.b_int bb_int (as_cons (op_e (de_cmp op_ge bok_ge (op_e (de_B call_abs bok_abs B.b_abs bb_abs (as_cons (op_n 2 (pv 2)) as_nil))) (op_e (de_op op_pow bok_pow (op_e de_int) (op_e de_int))))) as_nil))))) (as_cons (op_e (de_op op_addA bok_add (op_e (de_op op_addA bok_add (op_e (de_op op_modN bok_mod (op_e (de_T call_int1 bok_int B.b_int bb_int (as_cons (op_n 2 (pv 2)) as_nil))) (op_e de_int))) (op_e (de_op op_mulA bok_mul (op_e de_int) (op_n 1 (pv 1)))))) (op_e de_int))) (as_cons (op_e de_int) as_nil)))))))
theorem ok__law_box {f : Addr} {fd : FuncData} (B : Bn mg) (Z : Ez P w K mg base ce)  (F : Fun K "_law_box" "_law_box" s__law_box f fd) (hm : mg "_law_box" = some (.ref f)) : Fk P w K mg base ce s__law_box 4 "_law_box" ["_law_script", "_law_k"] x__law_box := fk_mk F hm (fun _ _ _ _ _ _ us hl => match us, hl with | [_, _], _ => rfl) (okF__law_box B Z  F)
abbrev s__law_take : Stmt := topS 9
theorem sc__law_take : FnScope ["_law_box_here", "_law_below_so", "_law_drawn", "_law_once", "_law_far", "_law_twice"] ["_law_box_here", "_law_below_so"] (defScope s__law_take) := ⟨rfl, rfl, rfl, by decide +kernel, rfl, by decide +kernel, by decide +kernel⟩
def x__law_take : Fx := fnX 2 6
   (ySeq (yIf (xTst (xB gGt (vCons (oE (xB gIx (vCons (oN 0) (vCons (oE (xC (.int 0))) vNil)))) (vCons (oE (xC (.int 0))) vNil)))) (ySeq (ySet 2 (xB gMod (vCons (oE (xB gInt (vCons (oE (xB gIx (vCons (oN 0) (vCons (oE (xC (.int 0))) vNil)))) (vNil)))) (vCons (oN 1) vNil))))
    (ySeq (yL 0 (ySetI 0 (xC (.int 0)) (xB gDiv (vCons (oE (xB gIx (vCons (oN 0) (vCons (oE (xC (.int 0))) vNil)))) (vCons (oN 1) vNil)))))
    (yRetV 2))) (yPass))
    (ySeq (yL 0 (ySetI 0 (xC (.int 2)) (xB gAdd (vCons (oE (xB gIx (vCons (oN 0) (vCons (oE (xC (.int 2))) vNil)))) (vCons (oE (xC (.int 1))) vNil)))))
    (ySeq (ySet 3 (xB gMod (vCons (oE (xB gInt (vCons (oE (xB gMul (vCons (oE (xB gAdd (vCons (oE (xB gIx (vCons (oN 0) (vCons (oE (xC (.int 1))) vNil)))) (vCons (oE (xB gMul (vCons (oE (xC (.int 48271))) (vCons (oE (xB gIx (vCons (oN 0) (vCons (oE (xC (.int 2))) vNil)))) vNil)))) vNil)))) (vCons (oE (xB gAdd (vCons (oE (xC (.int 39373))) (vCons (oE (xB gIx (vCons (oN 0) (vCons (oE (xC (.int 2))) vNil)))) vNil)))) vNil)))) (vNil)))) (vCons (oE (xC (.int 2147483647))) vNil))))
    (ySeq (ySet 4 (xB gAdd (vCons (oE (xB gMod (vCons (oE (xB gInt (vCons (oN 3) (vNil)))) (vCons (oE (xC (.int 40009))) vNil)))) (vCons (oE (xC (.int 7))) vNil))))
    (ySeq (ySet 5 (xB gMod (vCons (oE (xB gInt (vCons (oE (xB gMul (vCons (oE (xB gAdd (vCons (oE (xB gAdd (vCons (oN 3) (vCons (oE (xB gIx (vCons (oN 0) (vCons (oE (xC (.int 2))) vNil)))) vNil)))) (vCons (oE (xB gDiv (vCons (oE (xB gIx (vCons (oN 0) (vCons (oE (xC (.int 1))) vNil)))) (vCons (oE (xC (.int 1000003))) vNil)))) vNil)))) (vCons (oN 4) vNil)))) (vNil)))) (vCons (oE (xC (.int 2147483629))) vNil))))
    (yRet (xB gMod (vCons (oE (xB gInt (vCons (oE (xB gDiv (vCons (oE (xB gMod (vCons (oE (xB gInt (vCons (oE (xB gAdd (vCons (oE (xB gMul (vCons (oN 5) (vCons (oE (xC (.int 48271))) vNil)))) (vCons (oN 3) vNil)))) (vNil)))) (vCons (oE (xC (.int 2147483587))) vNil)))) (vCons (oE (xC (.int 64))) vNil)))) (vNil)))) (vCons (oN 1) vNil)))))))))
theorem okF__law_take {f : Addr} {fd : FuncData} (B : Bn mg) (Z : Ez P w K mg base ce)  (F : Fun K "_law_take" "_law_take" s__law_take f fd) : FnOk P w K mg base (L2.CX P w) 4 f fd ["_law_box_here", "_law_below_so"] (spX ce 2 x__law_take) :=
  have sc := sc__law_take
  fn_ok F sc__law_take fun cdv A outer s H E O hr =>
    (dss_cons (ds_if (dt_cmp op_gt bok_gt (op_e (de_ix ix_seq bok_ix (op_n 0 (pv 0)) (op_e de_int))) (op_e de_int)) (dss_cons (ds_set (i := 2) sc.nd rfl (by first | exact Or.inl rfl | exact Or.inr rfl) (de_op op_modN bok_mod (op_e (de_T call_int1 bok_int B.b_int bb_int (as_cons (op_e (de_ix ix_seq bok_ix (op_n 0 (pv 0)) (op_e de_int))) as_nil))) (op_n 1 (pv 1))))
      (dss_cons (ds_setI 0 (pv 0) de_int (de_op op_fdivW bok_div (op_e (de_ix ix_seq bok_ix (op_n 0 (pv 0)) (op_e de_int))) (op_n 1 (pv 1))))
      (dss_one (ds_retV 2 (pv 2))))) dss_nil)
      (dss_cons (ds_setI 0 (pv 0) de_int (de_op op_addA bok_add (op_e (de_ix ix_seq bok_ix (op_n 0 (pv 0)) (op_e de_int))) (op_e de_int)))
      (dss_cons (ds_set (i := 3) sc.nd rfl (by first | exact Or.inl rfl | exact Or.inr rfl) (de_op op_modN bok_mod (op_e (de_T call_int1 bok_int B.b_int bb_int (as_cons (op_e (de_op op_mulA bok_mul (op_e (de_op op_addA bok_add (op_e (de_ix ix_seq bok_ix (op_n 0 (pv 0)) (op_e de_int))) (op_e (de_op op_mulA bok_mul (op_e de_int) (op_e (de_ix ix_seq bok_ix (op_n 0 (pv 0)) (op_e de_int))))))) (op_e (de_op op_addA bok_add (op_e de_int) (op_e (de_ix ix_seq bok_ix (op_n 0 (pv 0)) (op_e de_int))))))) as_nil))) (op_e de_int)))
      (dss_cons (ds_set (i := 4) sc.nd rfl (by first | exact Or.inl rfl | exact Or.inr rfl) (de_op op_addA bok_add (op_e (de_op op_modN bok_mod (op_e (de_T call_int1 bok_int B.b_int bb_int (as_cons (op_n 3 (pv 3)) as_nil))) (op_e de_int))) (op_e de_int)))
      (dss_cons (ds_set (i := 5) sc.nd rfl (by first | exact Or.inl rfl | exact Or.inr rfl) (de_op op_modN bok_mod (op_e (de_T call_int1 bok_int B.b_int bb_int (as_cons (op_e (de_op op_mulA bok_mul (op_e (de_op op_addA bok_add (op_e (de_op op_addA bok_add (op_n 3 (pv 3)) (op_e (de_ix ix_seq bok_ix (op_n 0 (pv 0)) (op_e de_int))))) (op_e (de_op op_fdivW bok_div (op_e (de_ix ix_seq bok_ix (op_n 0 (pv 0)) (op_e de_int))) (op_e de_int))))) (op_n 4 (pv 4)))) as_nil))) (op_e de_int)))
      (dss_one (ds_ret (de_op op_modN bok_mod (op_e (de_T call_int1 bok_int B.b_int bb_int (as_cons (op_e (de_op op_fdivW bok_div (op_e (de_op op_modN bok_mod (op_e (de_T call_int1 bok_int B.b_int bb_int (as_cons (op_e (de_op op_addA bok_add (op_e (de_op op_mulA bok_mul (op_n 5 (pv 5)) (op_e de_int))) (op_n 3 (pv 3)))) as_nil))) (op_e de_int))) (op_e de_int))) as_nil))) (op_n 1 (pv 1))))))))))
theorem ok__law_take {f : Addr} {fd : FuncData} (B : Bn mg) (Z : Ez P w K mg base ce)  (F : Fun K "_law_take" "_law_take" s__law_take f fd) (hm : mg "_law_take" = some (.ref f)) : Fk P w K mg base ce s__law_take 4 "_law_take" ["_law_box_here", "_law_below_so"] x__law_take := fk_mk F hm (fun _ _ _ _ _ _ us hl => match us, hl with | [_, _], _ => rfl) (okF__law_take B Z  F)
abbrev s__law_cells : Stmt := topS 10
theorem sc__law_cells : FnScope ["_law_script", "_law_top_so", "_law_cells_so", "_law_k", "_law_cell", "_law_at_so"] ["_law_script", "_law_top_so"] (defScope s__law_cells) := ⟨rfl, rfl, rfl, by decide +kernel, rfl, by decide +kernel, by decide +kernel⟩
def x__law_cells : Fx := fnX 2 6
   (ySeq (ySet 2 (xOrV (xB gList (vCons (oE (xSl (oN 0) (sNo) (sAt (xVar 1)))) (vNil))) (xLst (vCons (oE (xC (.int 0))) (vNil)))))
    (ySeq (yFor (zEn2 (vCons (oE (xSl (oN 0) (sAt (xVar 1)) (sAt (xC (.int 63))))) (vNil))) (gTp 2 (gCn (gN 3) (gCn (gN 4) (gNl)))) (ySeq (ySet 5 (xB gMod (vCons (oE (xB gInt (vCons (oN 3) (vNil)))) (vCons (oN 1) vNil))))
    (yL 2 (ySetI 2 (xVar 5) (xB gAdd (vCons (oE (xB gIx (vCons (oN 2) (vCons (oN 5) vNil)))) (vCons (oE (xB gMul (vCons (oN 4) (vCons (oE (xB gAdd (vCons (oN 3) (vCons (oE (xC (.int 2))) vNil)))) vNil)))) vNil)))))))
    (yRetV 2)))
theorem okF__law_cells {f : Addr} {fd : FuncData} (B : Bn mg) (Z : Ez P w K mg base ce)  (F : Fun K "_law_cells" "_law_cells" s__law_cells f fd) : FnOk P w K mg base (L2.CX P w) 4 f fd ["_law_script", "_law_top_so"] (spX ce 2 x__law_cells) :=
  have sc := sc__law_cells
  fn_ok F sc__law_cells fun cdv A outer s H E O hr =>
    (dss_cons (ds_set (i := 2) sc.nd rfl (by first | exact Or.inl rfl | exact Or.inr rfl) (de_orV (de_T call_list_of bok_list B.b_list bb_list (as_cons (op_e (de_sl (op_n 0 (pv 0)) sl_no (sl_at (de_var 1 (pv 1))))) as_nil)) (de_one (de_lst (as_cons (op_e de_int) as_nil)))))
      (dss_cons (ds_for (vs := [3, 4]) (passes_of rfl) rfl (di_en2 B.b_enumerate (as_cons (op_e (de_sl (op_n 0 (pv 0)) (sl_at (de_var 1 (pv 1))) (sl_at de_int))) as_nil)) (dg_tup rfl (dgs_cons (dg_name (i := 3) sc.nd rfl (by first | exact Or.inl rfl | exact Or.inr rfl) (by decide)) (dgs_cons (dg_name (i := 4) sc.nd rfl (by first | exact Or.inl rfl | exact Or.inr rfl) (by decide)) dgs_nil))) (dss_cons (ds_set (i := 5) sc.nd rfl (by first | exact Or.inl rfl | exact Or.inr rfl) (de_op op_modN bok_mod (op_e (de_T call_int1 bok_int B.b_int bb_int (as_cons (op_n 3 (pv 3)) as_nil))) (op_n 1 (pv 1))))
      (dss_one (ds_setI 2 (pv 2) (de_var 5 (pv 5)) (de_op op_addA bok_add (op_e (de_ix ix_seq bok_ix (op_n 2 (pv 2)) (op_n 5 (pv 5)))) (op_e (de_op op_mulA bok_mul (op_n 4 (pv 4)) (op_e (de_op op_addA bok_add (op_n 3 (pv 3)) (op_e de_int))))))))))
      (dss_one (ds_retV 2 (pv 2)))))
theorem ok__law_cells {f : Addr} {fd : FuncData} (B : Bn mg) (Z : Ez P w K mg base ce)  (F : Fun K "_law_cells" "_law_cells" s__law_cells f fd) (hm : mg "_law_cells" = some (.ref f)) : Fk P w K mg base ce s__law_cells 4 "_law_cells" ["_law_script", "_law_top_so"] x__law_cells := fk_mk F hm (fun _ _ _ _ _ _ us hl => match us, hl with | [_, _], _ => rfl) (okF__law_cells B Z  F)
abbrev s__law_of : Stmt := topS 11
theorem sc__law_of : FnScope ["_law_box_here", "_law_pool_so"] ["_law_box_here", "_law_pool_so"] (defScope s__law_of) := ⟨rfl, rfl, rfl, by decide +kernel, rfl, by decide +kernel, by decide +kernel⟩
def x__law_of : Fx := fnX 2 2
   (yRet (xB gIx (vCons (oN 1) (vCons (oE (xCallB 0 x__law_take (vCons (oN 0) (vCons (oE (xB gLen (vCons (oN 1) (vNil)))) (vNil))))) vNil))))
theorem okF__law_of {f : Addr} {fd : FuncData} (B : Bn mg) (Z : Ez P w K mg base ce) (F__law_take : Fk P w K mg base ce s__law_take 4 "_law_take" ["_law_box_here", "_law_below_so"] x__law_take) (F : Fun K "_law_of" "_law_of" s__law_of f fd) : FnOk P w K mg base (L2.CX P w) 5 f fd ["_law_box_here", "_law_pool_so"] (spX ce 2 x__law_of) :=
  have sc := sc__law_of
  fn_ok F sc__law_of fun cdv A outer s H E O hr =>
    (dss_one (ds_ret (de_ix ix_seq bok_ix (op_n 1 (pv 1)) (op_e (de_cB 0 F__law_take (hr.mono (by decide)) (takes_of rfl rfl rfl rfl) (as_cons (op_n 0 (pv 0)) (as_cons (op_e (de_B call_lenA bok_len B.b_len bb_len (as_cons (op_n 1 (pv 1)) as_nil))) as_nil)))))))
theorem ok__law_of {f : Addr} {fd : FuncData} (B : Bn mg) (Z : Ez P w K mg base ce) (F__law_take : Fk P w K mg base ce s__law_take 4 "_law_take" ["_law_box_here", "_law_below_so"] x__law_take) (F : Fun K "_law_of" "_law_of" s__law_of f fd) (hm : mg "_law_of" = some (.ref f)) : Fk P w K mg base ce s__law_of 5 "_law_of" ["_law_box_here", "_law_pool_so"] x__law_of := fk_mk F hm (fun _ _ _ _ _ _ us hl => match us, hl with | [_, _], _ => rfl) (okF__law_of B Z F__law_take F)
abbrev s__law_same : Stmt := topS 12
theorem sc__law_same : FnScope ["_law_got", "_law_due", "_law_mine", "_law_its"] ["_law_got", "_law_due"] (defScope s__law_same) := ⟨rfl, rfl, rfl, by decide +kernel, rfl, by decide +kernel, by decide +kernel⟩
def yy__law_same (X : Fx) : Fx := fnX 2 4
   (ySeq (yIf (xTru (oE (xB (gIsi2 "list" "tuple") (vCons (oN 1) vNil)))) (ySeq (yIf (xOr (xTst (xB gNe (vCons (oE (xB (gIsi "list") (vCons (oN 0) vNil))) (vCons (oE (xB (gIsi "list") (vCons (oN 1) vNil))) vNil)))) (xTst (xB gNe (vCons (oE (xB (gIsi "tuple") (vCons (oN 0) vNil))) (vCons (oE (xB (gIsi "tuple") (vCons (oN 1) vNil))) vNil))))) (yRet (xC (.bool false))) (yPass))
    (yRet (xAndV (xB gEq (vCons (oE (xB gLen (vCons (oN 0) (vNil)))) (vCons (oE (xB gLen (vCons (oN 1) (vNil)))) vNil))) (xB gAll (vCons (oE (xLc [2, 3] (zZip (vCons (oE (xVar 0)) (vCons (oE (xVar 1)) (vNil)))) (gTp 2 (gCn (gN 2) (gCn (gN 3) (gNl)))) (tYesX) (xCallD X (vCons (oE (xVar 2)) (vCons (oE (xVar 3)) (vNil)))))) (vNil)))))) (yPass))
    (ySeq (yIf (xOr (xTst (xB gIs (vCons (oN 1) (vCons (oE (xC .none)) vNil)))) (xTru (oE (xB (gIsi2 "bool" "str") (vCons (oN 1) vNil))))) (yRet (xAndV (xB gEq (vCons (oN 0) (vCons (oN 1) vNil))) (xAndV (xB gEq (vCons (oE (xB (gIsi "bool") (vCons (oN 0) vNil))) (vCons (oE (xB (gIsi "bool") (vCons (oN 1) vNil))) vNil))) (xB gEq (vCons (oE (xB gIs (vCons (oN 0) (vCons (oE (xC .none)) vNil)))) (vCons (oE (xB gIs (vCons (oN 1) (vCons (oE (xC .none)) vNil)))) vNil)))))) (yPass))
    (yRet (xAndV (xB (gIsi "int") (vCons (oN 0) vNil)) (xAndV (xNotV (oE (xB (gIsi "bool") (vCons (oN 0) vNil)))) (xB gEq (vCons (oN 0) (vCons (oN 1) vNil))))))))
def x__law_same : Nat → Fx
  | 0 => fun _ => none
  | n + 1 => yy__law_same (x__law_same n)
theorem st__law_same {f : Addr} {fd : FuncData} {n : Nat} (B : Bn mg) (Z : Ez P w K mg base ce)  (F : Fun K "_law_same" "_law_same" s__law_same f fd) (hm : mg "_law_same" = some (.ref f)) (IH : Fk P w K mg base ce s__law_same (4 + n) "_law_same" ["_law_got", "_law_due"] (x__law_same n)) : Fk P w K mg base ce s__law_same (4 + (n + 1)) "_law_same" ["_law_got", "_law_due"] (x__law_same (n + 1)) :=
  have sc := sc__law_same
  fk_of F hm (fun _ _ _ _ _ _ us hl => match us, hl with | [_, _], _ => rfl) sc__law_same fun cdv A outer s H E O hr =>
    (dss_cons (ds_if (dt_tru (op_e (de_isi2 (T := "list") (U := "tuple") (by decide) (by decide) B.b_isinstance B.b_list B.b_tuple bb_list bb_tuple (op_n 1 (pv 1))))) (dss_cons (ds_if (dw_or (dt_cmp (op_neA hr) bok_ne (op_e (de_isi (T := "list") (by decide) B.b_isinstance B.b_list bb_list (op_n 0 (pv 0)))) (op_e (de_isi (T := "list") (by decide) B.b_isinstance B.b_list bb_list (op_n 1 (pv 1))))) (dw_or1 (dt_cmp (op_neA hr) bok_ne (op_e (de_isi (T := "tuple") (by decide) B.b_isinstance B.b_tuple bb_tuple (op_n 0 (pv 0)))) (op_e (de_isi (T := "tuple") (by decide) B.b_isinstance B.b_tuple bb_tuple (op_n 1 (pv 1))))))).pt (dss_one (ds_ret de_bl)) dss_nil)
      (dss_one (ds_ret (de_andV (de_cmp (op_eqA hr) bok_eq (op_e (de_B call_lenA bok_len B.b_len bb_len (as_cons (op_n 0 (pv 0)) as_nil))) (op_e (de_B call_lenA bok_len B.b_len bb_len (as_cons (op_n 1 (pv 1)) as_nil)))) (de_one (de_B (cr_all rfl) bok_all B.b_all bb_all (as_cons (op_e (de_lc [("_law_mine", 2), ("_law_its", 3)] rfl sc.nd (di_zip B.b_zip (as_cons (op_e (de_var 0 (pv 0))) (as_cons (op_e (de_var 1 (pv 1))) as_nil))) (blk_of (by kernel_rfl)) (fun _ _ _ _ _ => (dg_tup rfl (dgs_cons (dg_name (i := 2) sc.nd rfl (by first | exact Or.inl rfl | exact Or.inr rfl) (by decide)) (dgs_cons (dg_name (i := 3) sc.nd rfl (by first | exact Or.inl rfl | exact Or.inr rfl) (by decide)) dgs_nil)))) (fun _ _ _ _ _ => dts_nil) (fun _ _ _ _ _ => (de_cD IH (hr.mono (Nat.le_refl _)) takes0 (as_cons (op_e (de_var 2 (pv 2))) (as_cons (op_e (de_var 3 (pv 3))) as_nil)))))) as_nil))))))) dss_nil)
      (dss_cons (ds_if (dw_or (dt_cmp op_isN bok_is (op_n 1 (pv 1)) (op_e de_non)) (dw_or1 (dt_tru (op_e (de_isi2 (T := "bool") (U := "str") (by decide) (by decide) B.b_isinstance B.b_bool B.b_str bb_bool bb_str (op_n 1 (pv 1))))))).pt (dss_one (ds_ret (de_andV (de_cmp (op_eqA hr) bok_eq (op_n 0 (pv 0)) (op_n 1 (pv 1))) (de_andV (de_cmp (op_eqA hr) bok_eq (op_e (de_isi (T := "bool") (by decide) B.b_isinstance B.b_bool bb_bool (op_n 0 (pv 0)))) (op_e (de_isi (T := "bool") (by decide) B.b_isinstance B.b_bool bb_bool (op_n 1 (pv 1))))) (de_one (de_cmp (op_eqA hr) bok_eq (op_e (de_cmp op_isN bok_is (op_n 0 (pv 0)) (op_e de_non))) (op_e (de_cmp op_isN bok_is (op_n 1 (pv 1)) (op_e de_non))))))))) dss_nil)
      (dss_one (ds_ret (de_andV (de_isi (T := "int") (by decide) B.b_isinstance B.b_int bb_int (op_n 0 (pv 0))) (de_andV (de_notV (op_e (de_isi (T := "bool") (by decide) B.b_isinstance B.b_bool bb_bool (op_n 0 (pv 0))))) (de_one (de_cmp (op_eqA hr) bok_eq (op_n 0 (pv 0)) (op_n 1 (pv 1))))))))))
theorem ok__law_same {f : Addr} {fd : FuncData} (B : Bn mg) (Z : Ez P w K mg base ce)  (F : Fun K "_law_same" "_law_same" s__law_same f fd) (hm : mg "_law_same" = some (.ref f)) : ∀ n : Nat, Fk P w K mg base ce s__law_same (4 + n) "_law_same" ["_law_got", "_law_due"] (x__law_same n)
  | 0 => fk_zero F hm (fun _ _ _ _ _ _ us hl => match us, hl with | [_, _], _ => rfl)
  | n + 1 => st__law_same B Z  F hm (ok__law_same B Z  F hm n)
abbrev s__law_lists : Stmt := topS 13
theorem sc__law_lists : FnScope ["_law_matter_so", "_law_bit"] ["_law_matter_so"] (defScope s__law_lists) := ⟨rfl, rfl, rfl, by decide +kernel, rfl, by decide +kernel, by decide +kernel⟩
def yy__law_lists (X : Fx) : Fx := fnX 1 2
   (yRet (xIf (xTru (oE (xB (gIsi2 "list" "tuple") (vCons (oN 0) vNil)))) (xLc [1] (zSeq (oN 0)) (gN 1) (tYesX) (xCallD X (vCons (oE (xVar 1)) (vNil)))) (xVar 0)))
def x__law_lists : Nat → Fx
  | 0 => fun _ => none
  | n + 1 => yy__law_lists (x__law_lists n)
theorem st__law_lists {f : Addr} {fd : FuncData} {n : Nat} (B : Bn mg) (Z : Ez P w K mg base ce)  (F : Fun K "_law_lists" "_law_lists" s__law_lists f fd) (hm : mg "_law_lists" = some (.ref f)) (IH : Fk P w K mg base ce s__law_lists (4 + n) "_law_lists" ["_law_matter_so"] (x__law_lists n)) : Fk P w K mg base ce s__law_lists (4 + (n + 1)) "_law_lists" ["_law_matter_so"] (x__law_lists (n + 1)) :=
  have sc := sc__law_lists
  fk_of F hm (fun _ _ _ _ _ _ us hl => match us, hl with | [_], _ => rfl) sc__law_lists fun cdv A outer s H E O hr =>
    (dss_one (ds_ret (de_if (dt_tru (op_e (de_isi2 (T := "list") (U := "tuple") (by decide) (by decide) B.b_isinstance B.b_list B.b_tuple bb_list bb_tuple (op_n 0 (pv 0))))) (de_lc [("_law_bit", 1)] rfl sc.nd (di_seq (op_n 0 (pv 0))) (blk_of (by kernel_rfl)) (fun _ _ _ _ _ => (dg_name (i := 1) sc.nd rfl (by first | exact Or.inl rfl | exact Or.inr rfl) (by decide))) (fun _ _ _ _ _ => dts_nil) (fun _ _ _ _ _ => (de_cD IH (hr.mono (Nat.le_refl _)) takes0 (as_cons (op_e (de_var 1 (pv 1))) as_nil)))) (de_var 0 (pv 0)))))
theorem ok__law_lists {f : Addr} {fd : FuncData} (B : Bn mg) (Z : Ez P w K mg base ce)  (F : Fun K "_law_lists" "_law_lists" s__law_lists f fd) (hm : mg "_law_lists" = some (.ref f)) : ∀ n : Nat, Fk P w K mg base ce s__law_lists (4 + n) "_law_lists" ["_law_matter_so"] (x__law_lists n)
  | 0 => fk_zero F hm (fun _ _ _ _ _ _ us hl => match us, hl with | [_], _ => rfl)
  | n + 1 => st__law_lists B Z  F hm (ok__law_lists B Z  F hm n)
abbrev s__law_mixed : Stmt := topS 14
theorem sc__law_mixed : FnScope ["_law_box_here", "_law_rows_so", "_law_left_so", "_law_found", "_law_turn"] ["_law_box_here", "_law_rows_so"] (defScope s__law_mixed) := ⟨rfl, rfl, rfl, by decide +kernel, rfl, by decide +kernel, by decide +kernel⟩
def x__law_mixed : Fx := fnX 2 5
   (ySeq (yPar [2, 3] (rCons (xB gList (vCons (oN 1) (vNil))) (rCons (xLst (vNil)) (rNil))))
    (ySeq (yFor (zRg1 (vCons (oE (xB gLen (vCons (oN 1) (vNil)))) (vNil))) (gN 4) (yExpr (yL 3 (xApp 3 (yL 2 (xPopAt 2 (xCallB 0 x__law_take (vCons (oN 0) (vCons (oE (xB gLen (vCons (oN 2) (vNil)))) (vNil))))))))))
    (yRetV 3)))
theorem okF__law_mixed {f : Addr} {fd : FuncData} (B : Bn mg) (Z : Ez P w K mg base ce) (F__law_take : Fk P w K mg base ce s__law_take 4 "_law_take" ["_law_box_here", "_law_below_so"] x__law_take) (F : Fun K "_law_mixed" "_law_mixed" s__law_mixed f fd) : FnOk P w K mg base (L2.CX P w) 5 f fd ["_law_box_here", "_law_rows_so"] (spX ce 2 x__law_mixed) :=
  have sc := sc__law_mixed
  fn_ok F sc__law_mixed fun cdv A outer s H E O hr =>
    (dss_cons (ds_par2 (i := 2) (j := 3) rfl sc.nd rfl rfl (by decide) rfl rfl (rs_cons (de_T call_list_of bok_list B.b_list bb_list (as_cons (op_n 1 (pv 1)) as_nil)) (rs_cons (de_lst as_nil) rs_nil)) (lenIs_cons (lenIs_cons lenIs_nil)))
      (dss_cons (ds_for (vs := [4]) (passes_of rfl) rfl (di_rg1 B.b_range (as_cons (op_e (de_B call_lenA bok_len B.b_len bb_len (as_cons (op_n 1 (pv 1)) as_nil))) as_nil)) (dg_name (i := 4) sc.nd rfl (by first | exact Or.inl rfl | exact Or.inr rfl) (by decide)) (dss_one (ds_expr (de_app 3 (pv 3) (de_popAt 2 (pv 2) (de_cB 0 F__law_take (hr.mono (by decide)) (takes_of rfl rfl rfl rfl) (as_cons (op_n 0 (pv 0)) (as_cons (op_e (de_B call_lenA bok_len B.b_len bb_len (as_cons (op_n 2 (pv 2)) as_nil))) as_nil))))))))
      (dss_one (ds_retV 3 (pv 3)))))
theorem ok__law_mixed {f : Addr} {fd : FuncData} (B : Bn mg) (Z : Ez P w K mg base ce) (F__law_take : Fk P w K mg base ce s__law_take 4 "_law_take" ["_law_box_here", "_law_below_so"] x__law_take) (F : Fun K "_law_mixed" "_law_mixed" s__law_mixed f fd) (hm : mg "_law_mixed" = some (.ref f)) : Fk P w K mg base ce s__law_mixed 5 "_law_mixed" ["_law_box_here", "_law_rows_so"] x__law_mixed := fk_mk F hm (fun _ _ _ _ _ _ us hl => match us, hl with | [_, _], _ => rfl) (okF__law_mixed B Z F__law_take F)
abbrev s__law_tags : Stmt := topS 15
theorem sc__law_tags : FnScope ["_law_box_here", "_law_many_so", "_law_signs_so", "_law_found", "_law_turn", "_law_stem_so", "_law_at_so", "_law_first_so", "_law_k", "_law_sign_so"] ["_law_box_here", "_law_many_so"] (defScope s__law_tags) := ⟨rfl, rfl, rfl, by decide +kernel, rfl, by decide +kernel, by decide +kernel⟩
def x__law_tags : Fx := fnX 2 10
   (ySeq (yPar [2, 3] (rCons (xC (.str "abcdefghijklmnopqrstuvwxyz")) (rCons (xLst (vNil)) (rNil))))
    (ySeq (ySet 5 (xB (gJoin "") (vCons (oE (xLc [4] (zRg1 (vCons (oE (xCallB 0 x__law_of (vCons (oN 0) (vCons (oE (xLst (vCons (oE (xC (.int 0))) (vCons (oE (xC (.int 0))) (vCons (oE (xC (.int 1))) (vCons (oE (xC (.int 3))) (vCons (oE (xC (.int 7))) (vNil)))))))) (vNil))))) (vNil))) (gN 4) (tYesX) (xB gIx (vCons (oN 2) (vCons (oE (xCallB 0 x__law_take (vCons (oN 0) (vCons (oE (xC (.int 26))) (vNil))))) vNil))))) vNil)))
    (ySeq (yPar [6, 7] (rCons (xCallB 0 x__law_take (vCons (oN 0) (vCons (oE (xB gAdd (vCons (oE (xB gLen (vCons (oN 5) (vNil)))) (vCons (oE (xC (.int 1))) vNil)))) (vNil)))) (rCons (xCallB 0 x__law_take (vCons (oN 0) (vCons (oE (xC (.int 26))) (vNil)))) (rNil))))
    (ySeq (yFor (zRg1 (vCons (oN 1) (vNil))) (gN 8) (ySeq (ySet 9 (xB gIx (vCons (oN 2) (vCons (oE (xB gMod (vCons (oE (xB gInt (vCons (oE (xB gAdd (vCons (oN 7) (vCons (oN 8) vNil)))) (vNil)))) (vCons (oE (xC (.int 26))) vNil)))) vNil))))
    (yExpr (yL 3 (xApp 3 (xB gAdd (vCons (oE (xB gAdd (vCons (oE (xSl (oN 5) (sNo) (sAt (xVar 6)))) (vCons (oN 9) vNil)))) (vCons (oE (xSl (oN 5) (sAt (xVar 6)) (sNo))) vNil))))))))
    (yRet (xCallB 0 x__law_mixed (vCons (oN 0) (vCons (oE (xVar 3)) (vNil)))))))))
theorem okF__law_tags {f : Addr} {fd : FuncData} (B : Bn mg) (Z : Ez P w K mg base ce) (F__law_take : Fk P w K mg base ce s__law_take 4 "_law_take" ["_law_box_here", "_law_below_so"] x__law_take) (F__law_of : Fk P w K mg base ce s__law_of 5 "_law_of" ["_law_box_here", "_law_pool_so"] x__law_of) (F__law_mixed : Fk P w K mg base ce s__law_mixed 5 "_law_mixed" ["_law_box_here", "_law_rows_so"] x__law_mixed) (F : Fun K "_law_tags" "_law_tags" s__law_tags f fd) : FnOk P w K mg base (L2.CX P w) 6 f fd ["_law_box_here", "_law_many_so"] (spX ce 2 x__law_tags) :=
  have sc := sc__law_tags
  fn_ok F sc__law_tags fun cdv A outer s H E O hr =>
    (dss_cons (ds_parG rfl (.cons (i := 2) sc.nd rfl (by first | exact Or.inl rfl | exact Or.inr rfl) (by first | exact .inl rfl | exact .inr rfl) rfl (.cons (i := 3) sc.nd rfl (by first | exact Or.inl rfl | exact Or.inr rfl) (by first | exact .inl rfl | exact .inr rfl) rfl .nil)) rfl (by decide) (rs_cons de_str (rs_cons (de_lst as_nil) rs_nil)) (lenIs_cons (lenIs_cons lenIs_nil)))
      (dss_cons (ds_set (i := 5) sc.nd rfl (by first | exact Or.inl rfl | exact Or.inr rfl) (de_join pe_str (op_e (de_lc [("_law_turn", 4)] rfl sc.nd (di_rg1 B.b_range (as_cons (op_e (de_cB 0 F__law_of (hr.mono (by decide)) (takes_of rfl rfl rfl rfl) (as_cons (op_n 0 (pv 0)) (as_cons (op_e (de_lst (as_cons (op_e de_int) (as_cons (op_e de_int) (as_cons (op_e de_int) (as_cons (op_e de_int) (as_cons (op_e de_int) as_nil))))))) as_nil)))) as_nil)) (blk_of (by kernel_rfl)) (fun _ _ _ _ _ => (dg_name (i := 4) sc.nd rfl (by first | exact Or.inl rfl | exact Or.inr rfl) (by decide))) (fun _ _ _ _ _ => dts_nil) (fun _ _ _ _ _ => (de_ix ix_seq bok_ix (op_n 2 (pv 2)) (op_e (de_cB 0 F__law_take (hr.mono (by decide)) takes0 (as_cons (op_n 0 (pv 0)) (as_cons (op_e de_int) as_nil))))))))))
      (dss_cons (ds_par2 (i := 6) (j := 7) rfl sc.nd rfl rfl (by decide) rfl rfl (rs_cons (de_cB 0 F__law_take (hr.mono (by decide)) (takes_of rfl rfl rfl rfl) (as_cons (op_n 0 (pv 0)) (as_cons (op_e (de_op op_addA bok_add (op_e (de_B call_lenA bok_len B.b_len bb_len (as_cons (op_n 5 (pv 5)) as_nil))) (op_e de_int))) as_nil))) (rs_cons (de_cB 0 F__law_take (hr.mono (by decide)) (takes_of rfl rfl rfl rfl) (as_cons (op_n 0 (pv 0)) (as_cons (op_e de_int) as_nil))) rs_nil)) (lenIs_cons (lenIs_cons lenIs_nil)))
      (dss_cons (ds_for (vs := [8]) (passes_of rfl) rfl (di_rg1 B.b_range (as_cons (op_n 1 (pv 1)) as_nil)) (dg_name (i := 8) sc.nd rfl (by first | exact Or.inl rfl | exact Or.inr rfl) (by decide)) (dss_cons (ds_set (i := 9) sc.nd rfl (by first | exact Or.inl rfl | exact Or.inr rfl) (de_ix ix_seq bok_ix (op_n 2 (pv 2)) (op_e (de_op op_modN bok_mod (op_e (de_T call_int1 bok_int B.b_int bb_int (as_cons (op_e (de_op op_addA bok_add (op_n 7 (pv 7)) (op_n 8 (pv 8)))) as_nil))) (op_e de_int)))))
      (dss_one (ds_expr (de_app 3 (pv 3) (de_op op_addA bok_add (op_e (de_op op_addA bok_add (op_e (de_sl (op_n 5 (pv 5)) sl_no (sl_at (de_var 6 (pv 6))))) (op_n 9 (pv 9)))) (op_e (de_sl (op_n 5 (pv 5)) (sl_at (de_var 6 (pv 6))) sl_no))))))))
      (dss_one (ds_ret (de_cB 0 F__law_mixed (hr.mono (by decide)) (takes_of rfl rfl rfl rfl) (as_cons (op_n 0 (pv 0)) (as_cons (op_e (de_var 3 (pv 3))) as_nil)))))))))
theorem ok__law_tags {f : Addr} {fd : FuncData} (B : Bn mg) (Z : Ez P w K mg base ce) (F__law_take : Fk P w K mg base ce s__law_take 4 "_law_take" ["_law_box_here", "_law_below_so"] x__law_take) (F__law_of : Fk P w K mg base ce s__law_of 5 "_law_of" ["_law_box_here", "_law_pool_so"] x__law_of) (F__law_mixed : Fk P w K mg base ce s__law_mixed 5 "_law_mixed" ["_law_box_here", "_law_rows_so"] x__law_mixed) (F : Fun K "_law_tags" "_law_tags" s__law_tags f fd) (hm : mg "_law_tags" = some (.ref f)) : Fk P w K mg base ce s__law_tags 6 "_law_tags" ["_law_box_here", "_law_many_so"] x__law_tags := fk_mk F hm (fun _ _ _ _ _ _ us hl => match us, hl with | [_, _], _ => rfl) (okF__law_tags B Z F__law_take F__law_of F__law_mixed F)
abbrev s__law_net : Stmt := topS 16
theorem sc__law_net : FnScope ["_law_box_here", "_law_last_so", "_law_more_so", "_law_k", "_law_rows_so", "_law_own", "_law_turn", "_law_low_so", "_law_tags_so"] ["_law_box_here", "_law_last_so", "_law_more_so"] (defScope s__law_net) := ⟨rfl, rfl, rfl, by decide +kernel, rfl, by decide +kernel, by decide +kernel⟩
def x__law_net : Fx := fnX 3 9
   (ySeq (ySet 4 (xLc [3] (zRg2 (vCons (oE (xC (.int 1))) (vCons (oE (xB gAdd (vCons (oN 1) (vCons (oE (xC (.int 1))) vNil)))) (vNil)))) (gN 3) (tYesX) (xTup (vCons (oE (xCallB 0 x__law_take (vCons (oN 0) (vCons (oE (xVar 3)) (vNil))))) (vCons (oE (xVar 3)) (vNil))))))
    (ySeq (yFor (zRg1 (vCons (oN 1) (vNil))) (gN 3) (yIf (xTst (xB gEq (vCons (oE (xLc [5] (zSeq (oN 4)) (gN 5) (xTst (xB gEq (vCons (oE (xB gIx (vCons (oN 5) (vCons (oE (xC (.int 0))) vNil)))) (vCons (oN 3) vNil)))) (xVar 5))) (vCons (oE (xLst (vNil))) vNil)))) (yExpr (yL 4 (xApp 4 (xTup (vCons (oE (xVar 3)) (vCons (oE (xB gAdd (vCons (oE (xB gAdd (vCons (oN 3) (vCons (oE (xC (.int 1))) vNil)))) (vCons (oE (xCallB 0 x__law_take (vCons (oN 0) (vCons (oE (xB gSub (vCons (oN 1) (vCons (oN 3) vNil)))) (vNil))))) vNil)))) (vNil))))))) (yPass)))
    (ySeq (yFor (zRg1 (vCons (oN 2) (vNil))) (gN 6) (ySeq (ySet 7 (xCallB 0 x__law_take (vCons (oN 0) (vCons (oE (xVar 1)) (vNil)))))
    (yExpr (yL 4 (xApp 4 (xTup (vCons (oE (xVar 7)) (vCons (oE (xB gAdd (vCons (oE (xB gAdd (vCons (oN 7) (vCons (oE (xC (.int 1))) vNil)))) (vCons (oE (xCallB 0 x__law_take (vCons (oN 0) (vCons (oE (xB gSub (vCons (oN 1) (vCons (oN 7) vNil)))) (vNil))))) vNil)))) (vNil)))))))))
    (ySeq (ySet 8 (xCallB 0 x__law_tags (vCons (oN 0) (vCons (oE (xB gLen (vCons (oN 4) (vNil)))) (vNil)))))
    (yRet (xB gTuple (vCons (oE (xB gSorted (vCons (oE (xLc [3] (zRg1 (vCons (oE (xB gLen (vCons (oN 4) (vNil)))) (vNil))) (gN 3) (tYesX) (xTup (vCons (oE (xB gIx (vCons (oN 8) (vCons (oN 3) vNil)))) (vCons (oE (xB gIx (vCons (oE (xB gIx (vCons (oN 4) (vCons (oN 3) vNil)))) (vCons (oE (xC (.int 0))) vNil)))) (vCons (oE (xB gIx (vCons (oE (xB gIx (vCons (oN 4) (vCons (oN 3) vNil)))) (vCons (oE (xC (.int 1))) vNil)))) (vNil))))))) (vNil)))) (vNil))))))))
theorem okF__law_net {f : Addr} {fd : FuncData} (B : Bn mg) (Z : Ez P w K mg base ce) (F__law_take : Fk P w K mg base ce s__law_take 4 "_law_take" ["_law_box_here", "_law_below_so"] x__law_take) (F__law_tags : Fk P w K mg base ce s__law_tags 6 "_law_tags" ["_law_box_here", "_law_many_so"] x__law_tags) (F : Fun K "_law_net" "_law_net" s__law_net f fd) : FnOk P w K mg base (L2.CX P w) 7 f fd ["_law_box_here", "_law_last_so", "_law_more_so"] (spX ce 3 x__law_net) :=
  have sc := sc__law_net
  fn_ok F sc__law_net fun cdv A outer s H E O hr =>
    (dss_cons (ds_set (i := 4) sc.nd rfl (by first | exact Or.inl rfl | exact Or.inr rfl) (de_lc [("_law_k", 3)] rfl sc.nd (di_rg2 B.b_range (as_cons (op_e de_int) (as_cons (op_e (de_op op_addA bok_add (op_n 1 (pv 1)) (op_e de_int))) as_nil))) (blk_of (by kernel_rfl)) (fun _ _ _ _ _ => (dg_name (i := 3) sc.nd rfl (by first | exact Or.inl rfl | exact Or.inr rfl) (by decide))) (fun _ _ _ _ _ => dts_nil) (fun _ _ _ _ _ => (de_tup (as_cons (op_e (de_cB 0 F__law_take (hr.mono (by decide)) takes0 (as_cons (op_n 0 (pv 0)) (as_cons (op_e (de_var 3 (pv 3))) as_nil)))) (as_cons (op_e (de_var 3 (pv 3))) as_nil))))))
      (dss_cons (ds_for (vs := [3]) (passes_of rfl) rfl (di_rg1 B.b_range (as_cons (op_n 1 (pv 1)) as_nil)) (dg_name (i := 3) sc.nd rfl (by first | exact Or.inl rfl | exact Or.inr rfl) (by decide)) (dss_one (ds_if (dt_cmp (op_eqA hr) bok_eq (op_e (de_lc [("_law_own", 5)] rfl sc.nd (di_seq (op_n 4 (pv 4))) (blk_of (by kernel_rfl)) (fun _ _ _ _ _ => (dg_name (i := 5) sc.nd rfl (by first | exact Or.inl rfl | exact Or.inr rfl) (by decide))) (fun _ _ _ _ _ => (dts_one (dt_cmp (op_eqA hr) bok_eq (op_e (de_ix ix_seq bok_ix (op_n 5 (pv 5)) (op_e de_int))) (op_n 3 (pv 3))))) (fun _ _ _ _ _ => (de_var 5 (pv 5))))) (op_e (de_lst as_nil))) (dss_one (ds_expr (de_app 4 (pv 4) (de_tup (as_cons (op_e (de_var 3 (pv 3))) (as_cons (op_e (de_op op_addA bok_add (op_e (de_op op_addA bok_add (op_n 3 (pv 3)) (op_e de_int))) (op_e (de_cB 0 F__law_take (hr.mono (by decide)) (takes_of rfl rfl rfl rfl) (as_cons (op_n 0 (pv 0)) (as_cons (op_e (de_op op_sub bok_sub (op_n 1 (pv 1)) (op_n 3 (pv 3)))) as_nil)))))) as_nil)))))) dss_nil)))
      (dss_cons (ds_for (vs := [6]) (passes_of rfl) rfl (di_rg1 B.b_range (as_cons (op_n 2 (pv 2)) as_nil)) (dg_name (i := 6) sc.nd rfl (by first | exact Or.inl rfl | exact Or.inr rfl) (by decide)) (dss_cons (ds_set (i := 7) sc.nd rfl (by first | exact Or.inl rfl | exact Or.inr rfl) (de_cB 0 F__law_take (hr.mono (by decide)) (takes_of rfl rfl rfl rfl) (as_cons (op_n 0 (pv 0)) (as_cons (op_e (de_var 1 (pv 1))) as_nil))))
      (dss_one (ds_expr (de_app 4 (pv 4) (de_tup (as_cons (op_e (de_var 7 (pv 7))) (as_cons (op_e (de_op op_addA bok_add (op_e (de_op op_addA bok_add (op_n 7 (pv 7)) (op_e de_int))) (op_e (de_cB 0 F__law_take (hr.mono (by decide)) (takes_of rfl rfl rfl rfl) (as_cons (op_n 0 (pv 0)) (as_cons (op_e (de_op op_sub bok_sub (op_n 1 (pv 1)) (op_n 7 (pv 7)))) as_nil)))))) as_nil))))))))
      (dss_cons (ds_set (i := 8) sc.nd rfl (by first | exact Or.inl rfl | exact Or.inr rfl) (de_cB 0 F__law_tags (hr.mono (by decide)) (takes_of rfl rfl rfl rfl) (as_cons (op_n 0 (pv 0)) (as_cons (op_e (de_B call_lenA bok_len B.b_len bb_len (as_cons (op_n 4 (pv 4)) as_nil))) as_nil))))
      (dss_one (ds_ret (de_T call_tuple_of bok_tuple B.b_tuple bb_tuple (as_cons (op_e (de_B cr_sortedA bok_sorted B.b_sorted bb_sorted (as_cons (op_e (de_lc [("_law_k", 3)] rfl sc.nd (di_rg1 B.b_range (as_cons (op_e (de_B call_lenA bok_len B.b_len bb_len (as_cons (op_n 4 (pv 4)) as_nil))) as_nil)) (blk_of (by kernel_rfl)) (fun _ _ _ _ _ => (dg_name (i := 3) sc.nd rfl (by first | exact Or.inl rfl | exact Or.inr rfl) (by decide))) (fun _ _ _ _ _ => dts_nil) (fun _ _ _ _ _ => (de_tup (as_cons (op_e (de_ix ix_seq bok_ix (op_n 8 (pv 8)) (op_n 3 (pv 3)))) (as_cons (op_e (de_ix ix_seq bok_ix (op_e (de_ix ix_seq bok_ix (op_n 4 (pv 4)) (op_n 3 (pv 3)))) (op_e de_int))) (as_cons (op_e (de_ix ix_seq bok_ix (op_e (de_ix ix_seq bok_ix (op_n 4 (pv 4)) (op_n 3 (pv 3)))) (op_e de_int))) as_nil))))))) as_nil))) as_nil))))))))
theorem ok__law_net {f : Addr} {fd : FuncData} (B : Bn mg) (Z : Ez P w K mg base ce) (F__law_take : Fk P w K mg base ce s__law_take 4 "_law_take" ["_law_box_here", "_law_below_so"] x__law_take) (F__law_tags : Fk P w K mg base ce s__law_tags 6 "_law_tags" ["_law_box_here", "_law_many_so"] x__law_tags) (F : Fun K "_law_net" "_law_net" s__law_net f fd) (hm : mg "_law_net" = some (.ref f)) : Fk P w K mg base ce s__law_net 7 "_law_net" ["_law_box_here", "_law_last_so", "_law_more_so"] x__law_net := fk_mk F hm (fun _ _ _ _ _ _ us hl => match us, hl with | [_, _, _], _ => rfl) (okF__law_net B Z F__law_take F__law_tags F)
abbrev s__law_exit : Stmt := topS 17
theorem sc__law_exit : FnScope ["_law_net_so", "_law_own"] ["_law_net_so"] (defScope s__law_exit) := ⟨rfl, rfl, rfl, by decide +kernel, rfl, by decide +kernel, by decide +kernel⟩
def x__law_exit : Fx := fnX 1 2
   (yRet (xB gMax (vCons (oE (xLc [1] (zSeq (oN 0)) (gN 1) (tYesX) (xB gIx (vCons (oN 1) (vCons (oE (xC (.int 2))) vNil))))) (vNil))))
theorem okF__law_exit {f : Addr} {fd : FuncData} (B : Bn mg) (Z : Ez P w K mg base ce)  (F : Fun K "_law_exit" "_law_exit" s__law_exit f fd) : FnOk P w K mg base (L2.CX P w) 4 f fd ["_law_net_so"] (spX ce 1 x__law_exit) :=
  have sc := sc__law_exit
  fn_ok F sc__law_exit fun cdv A outer s H E O hr =>
    (dss_one (ds_ret (de_B (cr_max rfl) bok_max B.b_max bb_max (as_cons (op_e (de_lc [("_law_own", 1)] rfl sc.nd (di_seq (op_n 0 (pv 0))) (blk_of (by kernel_rfl)) (fun _ _ _ _ _ => (dg_name (i := 1) sc.nd rfl (by first | exact Or.inl rfl | exact Or.inr rfl) (by decide))) (fun _ _ _ _ _ => dts_nil) (fun _ _ _ _ _ => (de_ix ix_seq bok_ix (op_n 1 (pv 1)) (op_e de_int))))) as_nil))))
theorem ok__law_exit {f : Addr} {fd : FuncData} (B : Bn mg) (Z : Ez P w K mg base ce)  (F : Fun K "_law_exit" "_law_exit" s__law_exit f fd) (hm : mg "_law_exit" = some (.ref f)) : Fk P w K mg base ce s__law_exit 4 "_law_exit" ["_law_net_so"] x__law_exit := fk_mk F hm (fun _ _ _ _ _ _ us hl => match us, hl with | [_], _ => rfl) (okF__law_exit B Z  F)
abbrev s__law_ways : Stmt := topS 18
theorem sc__law_ways : FnScope ["_law_net_so", "_law_found", "_law_edge_so", "_law_last_so", "_law_turn", "_law_later_so", "_law_row_so", "_law_here_so", "_law_own"] ["_law_net_so"] (defScope s__law_ways) := ⟨rfl, rfl, rfl, by decide +kernel, rfl, by decide +kernel, by decide +kernel⟩
def x__law_ways : Fx := fnX 1 9
   (ySeq (yPar [1, 2, 3] (rCons (xLst (vNil)) (rCons (xLst (vCons (oE (xTup (vCons (oE (xTup (vNil))) (vCons (oE (xC (.int 0))) (vNil))))) (vNil))) (rCons (xCallD x__law_exit (vCons (oE (xVar 0)) (vNil))) (rNil)))))
    (ySeq (yFor (zRg1 (vCons (oN 3) (vNil))) (gN 4) (ySeq (ySet 5 (xLst (vNil)))
    (ySeq (yFor (zSeq (oN 2)) (gTp 2 (gCn (gN 6) (gCn (gN 7) (gNl)))) (ySet 5 (xB gAdd (vCons (oN 5) (vCons (oE (xLc [8] (zSeq (oN 0)) (gN 8) (xTst (xB gEq (vCons (oE (xB gIx (vCons (oN 8) (vCons (oE (xC (.int 1))) vNil)))) (vCons (oN 7) vNil)))) (xTup (vCons (oE (xB gAdd (vCons (oN 6) (vCons (oE (xTup (vCons (oE (xB gIx (vCons (oN 8) (vCons (oE (xC (.int 0))) vNil)))) (vNil)))) vNil)))) (vCons (oE (xB gIx (vCons (oN 8) (vCons (oE (xC (.int 2))) vNil)))) (vNil)))))) vNil)))))
    (ySeq (ySet 1 (xB gAdd (vCons (oN 1) (vCons (oE (xLc [8] (zSeq (oN 5)) (gN 8) (xTst (xB gEq (vCons (oE (xB gIx (vCons (oN 8) (vCons (oE (xC (.int 1))) vNil)))) (vCons (oN 3) vNil)))) (xB gIx (vCons (oN 8) (vCons (oE (xC (.int 0))) vNil))))) vNil))))
    (ySet 2 (xLc [8] (zSeq (oN 5)) (gN 8) (xTst (xB gNe (vCons (oE (xB gIx (vCons (oN 8) (vCons (oE (xC (.int 1))) vNil)))) (vCons (oN 3) vNil)))) (xVar 8)))))))
    (yRet (xB gSorted (vCons (oN 1) (vNil))))))
theorem okF__law_ways {f : Addr} {fd : FuncData} (B : Bn mg) (Z : Ez P w K mg base ce) (F__law_exit : Fk P w K mg base ce s__law_exit 4 "_law_exit" ["_law_net_so"] x__law_exit) (F : Fun K "_law_ways" "_law_ways" s__law_ways f fd) : FnOk P w K mg base (L2.CX P w) 5 f fd ["_law_net_so"] (spX ce 1 x__law_ways) :=
  have sc := sc__law_ways
  fn_ok F sc__law_ways fun cdv A outer s H E O hr =>
    (dss_cons (ds_parG rfl (.cons (i := 1) sc.nd rfl (by first | exact Or.inl rfl | exact Or.inr rfl) (by first | exact .inl rfl | exact .inr rfl) rfl (.cons (i := 2) sc.nd rfl (by first | exact Or.inl rfl | exact Or.inr rfl) (by first | exact .inl rfl | exact .inr rfl) rfl (.cons (i := 3) sc.nd rfl (by first | exact Or.inl rfl | exact Or.inr rfl) (by first | exact .inl rfl | exact .inr rfl) rfl .nil))) rfl (by decide) (rs_cons (de_lst as_nil) (rs_cons (de_lst (as_cons (op_e (de_tup (as_cons (op_e (de_tup as_nil)) (as_cons (op_e de_int) as_nil)))) as_nil)) (rs_cons (de_cD F__law_exit (hr.mono (by decide)) (takes_of rfl rfl rfl rfl) (as_cons (op_e (de_var 0 (pv 0))) as_nil)) rs_nil))) (lenIs_cons (lenIs_cons (lenIs_cons lenIs_nil))))
      (dss_cons (ds_for (vs := [4]) (passes_of rfl) rfl (di_rg1 B.b_range (as_cons (op_n 3 (pv 3)) as_nil)) (dg_name (i := 4) sc.nd rfl (by first | exact Or.inl rfl | exact Or.inr rfl) (by decide)) (dss_cons (ds_set (i := 5) sc.nd rfl (by first | exact Or.inl rfl | exact Or.inr rfl) (de_lst as_nil))
      (dss_cons (ds_for (vs := [6, 7]) (passes_of rfl) rfl (di_seq (op_n 2 (pv 2))) (dg_tup rfl (dgs_cons (dg_name (i := 6) sc.nd rfl (by first | exact Or.inl rfl | exact Or.inr rfl) (by decide)) (dgs_cons (dg_name (i := 7) sc.nd rfl (by first | exact Or.inl rfl | exact Or.inr rfl) (by decide)) dgs_nil))) (dss_one (ds_set (i := 5) sc.nd rfl (by first | exact Or.inl rfl | exact Or.inr rfl) (de_op op_addA bok_add (op_n 5 (pv 5)) (op_e (de_lc [("_law_own", 8)] rfl sc.nd (di_seq (op_n 0 (pv 0))) (blk_of (by kernel_rfl)) (fun _ _ _ _ _ => (dg_name (i := 8) sc.nd rfl (by first | exact Or.inl rfl | exact Or.inr rfl) (by decide))) (fun _ _ _ _ _ => (dts_one (dt_cmp (op_eqA hr) bok_eq (op_e (de_ix ix_seq bok_ix (op_n 8 (pv 8)) (op_e de_int))) (op_n 7 (pv 7))))) (fun _ _ _ _ _ => (de_tup (as_cons (op_e (de_op op_addA bok_add (op_n 6 (pv 6)) (op_e (de_tup (as_cons (op_e (de_ix ix_seq bok_ix (op_n 8 (pv 8)) (op_e de_int))) as_nil))))) (as_cons (op_e (de_ix ix_seq bok_ix (op_n 8 (pv 8)) (op_e de_int))) as_nil))))))))))
      (dss_cons (ds_set (i := 1) sc.nd rfl (by first | exact Or.inl rfl | exact Or.inr rfl) (de_op op_addA bok_add (op_n 1 (pv 1)) (op_e (de_lc [("_law_own", 8)] rfl sc.nd (di_seq (op_n 5 (pv 5))) (blk_of (by kernel_rfl)) (fun _ _ _ _ _ => (dg_name (i := 8) sc.nd rfl (by first | exact Or.inl rfl | exact Or.inr rfl) (by decide))) (fun _ _ _ _ _ => (dts_one (dt_cmp (op_eqA hr) bok_eq (op_e (de_ix ix_seq bok_ix (op_n 8 (pv 8)) (op_e de_int))) (op_n 3 (pv 3))))) (fun _ _ _ _ _ => (de_ix ix_seq bok_ix (op_n 8 (pv 8)) (op_e de_int)))))))
      (dss_one (ds_setLc (i := 2) [("_law_own", 8)] rfl sc.nd rfl rfl rfl (di_seq (op_n 5 (pv 5))) (blk_of (by kernel_rfl)) (fun _ _ _ _ _ => (dg_name (i := 8) sc.nd rfl (by first | exact Or.inl rfl | exact Or.inr rfl) (by decide))) (fun _ _ _ _ _ => (dts_one (dt_cmp (op_neA hr) bok_ne (op_e (de_ix ix_seq bok_ix (op_n 8 (pv 8)) (op_e de_int))) (op_n 3 (pv 3))))) (fun _ _ _ _ _ => (de_var 8 (pv 8)))))))))
      (dss_one (ds_ret (de_B cr_sortedA bok_sorted B.b_sorted bb_sorted (as_cons (op_n 1 (pv 1)) as_nil))))))
theorem ok__law_ways {f : Addr} {fd : FuncData} (B : Bn mg) (Z : Ez P w K mg base ce) (F__law_exit : Fk P w K mg base ce s__law_exit 4 "_law_exit" ["_law_net_so"] x__law_exit) (F : Fun K "_law_ways" "_law_ways" s__law_ways f fd) (hm : mg "_law_ways" = some (.ref f)) : Fk P w K mg base ce s__law_ways 5 "_law_ways" ["_law_net_so"] x__law_ways := fk_mk F hm (fun _ _ _ _ _ _ us hl => match us, hl with | [_], _ => rfl) (okF__law_ways B Z F__law_exit F)
abbrev s__law_by_ways : Stmt := topS 19
theorem sc__law_by_ways : FnScope ["_law_net_so", "_law_lots_so", "_law_step_so", "_law_own"] ["_law_net_so", "_law_lots_so"] (defScope s__law_by_ways) := ⟨rfl, rfl, rfl, by decide +kernel, rfl, by decide +kernel, by decide +kernel⟩
def x__law_by_ways : Fx := fnX 2 4
   (yRet (xB gTuple (vCons (oE (xLc [2] (zSeq (oN 0)) (gN 2) (tYesX) (xB gSum (vCons (oE (xLc [3] (zSeq (oN 1)) (gN 3) (xTst (xB gIn (vCons (oE (xB gIx (vCons (oN 2) (vCons (oE (xC (.int 0))) vNil)))) (vCons (oE (xB gIx (vCons (oN 3) (vCons (oE (xC (.int 0))) vNil)))) vNil)))) (xB gIx (vCons (oN 3) (vCons (oE (xC (.int 1))) vNil))))) (vNil))))) (vNil))))
theorem okF__law_by_ways {f : Addr} {fd : FuncData} (B : Bn mg) (Z : Ez P w K mg base ce)  (F : Fun K "_law_by_ways" "_law_by_ways" s__law_by_ways f fd) : FnOk P w K mg base (L2.CX P w) 4 f fd ["_law_net_so", "_law_lots_so"] (spX ce 2 x__law_by_ways) :=
  have sc := sc__law_by_ways
  fn_ok F sc__law_by_ways fun cdv A outer s H E O hr =>
    (dss_one (ds_ret (de_T call_tuple_of bok_tuple B.b_tuple bb_tuple (as_cons (op_e (de_lc [("_law_step_so", 2)] rfl sc.nd (di_seq (op_n 0 (pv 0))) (blk_of (by kernel_rfl)) (fun _ _ _ _ _ => (dg_name (i := 2) sc.nd rfl (by first | exact Or.inl rfl | exact Or.inr rfl) (by decide))) (fun _ _ _ _ _ => dts_nil) (fun _ _ _ _ _ => (de_B (cr_sum rfl) bok_sum B.b_sum bb_sum (as_cons (op_e (de_lc [("_law_own", 3)] rfl sc.nd (di_seq (op_n 1 (pv 1))) (blk_of (by kernel_rfl)) (fun _ _ _ _ _ => (dg_name (i := 3) sc.nd rfl (by first | exact Or.inl rfl | exact Or.inr rfl) (by decide))) (fun _ _ _ _ _ => (dts_one (dt_cmp op_in_seq bok_in (op_e (de_ix ix_seq bok_ix (op_n 2 (pv 2)) (op_e de_int))) (op_e (de_ix ix_seq bok_ix (op_n 3 (pv 3)) (op_e de_int)))))) (fun _ _ _ _ _ => (de_ix ix_seq bok_ix (op_n 3 (pv 3)) (op_e de_int))))) as_nil))))) as_nil))))
theorem ok__law_by_ways {f : Addr} {fd : FuncData} (B : Bn mg) (Z : Ez P w K mg base ce)  (F : Fun K "_law_by_ways" "_law_by_ways" s__law_by_ways f fd) (hm : mg "_law_by_ways" = some (.ref f)) : Fk P w K mg base ce s__law_by_ways 4 "_law_by_ways" ["_law_net_so", "_law_lots_so"] x__law_by_ways := fk_mk F hm (fun _ _ _ _ _ _ us hl => match us, hl with | [_, _], _ => rfl) (okF__law_by_ways B Z  F)
abbrev s__law_lots : Stmt := topS 20
theorem sc__law_lots : FnScope ["_law_box_here", "_law_net_so", "_law_rows_so", "_law_found", "_law_turn"] ["_law_box_here", "_law_net_so"] (defScope s__law_lots) := ⟨rfl, rfl, rfl, by decide +kernel, rfl, by decide +kernel, by decide +kernel⟩
def x__law_lots : Fx := fnX 2 5
   (ySeq (yPar [2, 3] (rCons (xCallD x__law_ways (vCons (oE (xVar 1)) (vNil))) (rCons (xLst (vNil)) (rNil))))
    (ySeq (yFor (zRg1 (vCons (oE (xCallB 0 x__law_take (vCons (oN 0) (vCons (oE (xC (.int 6))) (vNil))))) (vNil))) (gN 4) (yExpr (yL 3 (xApp 3 (xTup (vCons (oE (xCallB 0 x__law_of (vCons (oN 0) (vCons (oE (xVar 2)) (vNil))))) (vCons (oE (xCallB 0 x__law_of (vCons (oN 0) (vCons (oE (xLst (vCons (oE (xC (.int 0))) (vCons (oE (xC (.int 1))) (vCons (oE (xC (.int 1))) (vCons (oE (xC (.int 2))) (vCons (oE (xC (.int 5))) (vCons (oE (xB gAdd (vCons (oE (xB gPow (vCons (oE (xC (.int 10))) (vCons (oE (xC (.int 27))) vNil)))) (vCons (oE (xC (.int 3))) vNil)))) (vNil))))))))) (vNil))))) (vNil))))))))
    (yRetV 3)))
theorem okF__law_lots {f : Addr} {fd : FuncData} (B : Bn mg) (Z : Ez P w K mg base ce) (F__law_take : Fk P w K mg base ce s__law_take 4 "_law_take" ["_law_box_here", "_law_below_so"] x__law_take) (F__law_of : Fk P w K mg base ce s__law_of 5 "_law_of" ["_law_box_here", "_law_pool_so"] x__law_of) (F__law_ways : Fk P w K mg base ce s__law_ways 5 "_law_ways" ["_law_net_so"] x__law_ways) (F : Fun K "_law_lots" "_law_lots" s__law_lots f fd) : FnOk P w K mg base (L2.CX P w) 6 f fd ["_law_box_here", "_law_net_so"] (spX ce 2 x__law_lots) :=
  have sc := sc__law_lots
  fn_ok F sc__law_lots fun cdv A outer s H E O hr =>
    (dss_cons (ds_par2 (i := 2) (j := 3) rfl sc.nd rfl rfl (by decide) rfl rfl (rs_cons (de_cD F__law_ways (hr.mono (by decide)) (takes_of rfl rfl rfl rfl) (as_cons (op_e (de_var 1 (pv 1))) as_nil)) (rs_cons (de_lst as_nil) rs_nil)) (lenIs_cons (lenIs_cons lenIs_nil)))
      (dss_cons (ds_for (vs := [4]) (passes_of rfl) rfl (di_rg1 B.b_range (as_cons (op_e (de_cB 0 F__law_take (hr.mono (by decide)) (takes_of rfl rfl rfl rfl) (as_cons (op_n 0 (pv 0)) (as_cons (op_e de_int) as_nil)))) as_nil)) (dg_name (i := 4) sc.nd rfl (by first | exact Or.inl rfl | exact Or.inr rfl) (by decide)) (dss_one (ds_expr (de_app 3 (pv 3) (de_tup (as_cons (op_e (de_cB 0 F__law_of (hr.mono (by decide)) (takes_of rfl rfl rfl rfl) (as_cons (op_n 0 (pv 0)) (as_cons (op_e (de_var 2 (pv 2))) as_nil)))) (as_cons (op_e (de_cB 0 F__law_of (hr.mono (by decide)) (takes_of rfl rfl rfl rfl) (as_cons (op_n 0 (pv 0)) (as_cons (op_e (de_lst (as_cons (op_e de_int) (as_cons (op_e de_int) (as_cons (op_e de_int) (as_cons (op_e de_int) (as_cons (op_e de_int) (as_cons (op_e (de_op op_addA bok_add (op_e (de_op op_pow bok_pow (op_e de_int) (op_e de_int))) (op_e de_int))) as_nil)))))))) as_nil)))) as_nil)))))))
      (dss_one (ds_retV 3 (pv 3)))))
theorem ok__law_lots {f : Addr} {fd : FuncData} (B : Bn mg) (Z : Ez P w K mg base ce) (F__law_take : Fk P w K mg base ce s__law_take 4 "_law_take" ["_law_box_here", "_law_below_so"] x__law_take) (F__law_of : Fk P w K mg base ce s__law_of 5 "_law_of" ["_law_box_here", "_law_pool_so"] x__law_of) (F__law_ways : Fk P w K mg base ce s__law_ways 5 "_law_ways" ["_law_net_so"] x__law_ways) (F : Fun K "_law_lots" "_law_lots" s__law_lots f fd) (hm : mg "_law_lots" = some (.ref f)) : Fk P w K mg base ce s__law_lots 6 "_law_lots" ["_law_box_here", "_law_net_so"] x__law_lots := fk_mk F hm (fun _ _ _ _ _ _ us hl => match us, hl with | [_, _], _ => rfl) (okF__law_lots B Z F__law_take F__law_of F__law_ways F)
abbrev s__law_is_loads : Stmt := topS 21
theorem sc__law_is_loads : FnScope ["_law_net_so", "_law_many_so", "_law_matter_so", "_law_own", "_law_k", "_law_at_so", "_law_into_so", "_law_off_so"] ["_law_net_so", "_law_many_so", "_law_matter_so"] (defScope s__law_is_loads) := ⟨rfl, rfl, rfl, by decide +kernel, rfl, by decide +kernel, by decide +kernel⟩
def x__law_is_loads : Fx := fnX 3 8
   (ySeq (yIf (xOr (xNot (xTru (oE (xB (gIsi "tuple") (vCons (oN 2) vNil))))) (xTst (xB gNe (vCons (oE (xB gLen (vCons (oN 2) (vNil)))) (vCons (oE (xB gLen (vCons (oN 0) (vNil)))) vNil))))) (yRet (xC (.bool false))) (yPass))
    (ySeq (yIf (xTst (xB gNe (vCons (oE (xLc [3] (zSeq (oN 2)) (gN 3) (xOr (xNot (xTru (oE (xB (gIsi "int") (vCons (oN 3) vNil))))) (xOr (xTru (oE (xB (gIsi "bool") (vCons (oN 3) vNil)))) (xTst (xB gLt (vCons (oN 3) (vCons (oE (xC (.int 0))) vNil)))))) (xVar 3))) (vCons (oE (xLst (vNil))) vNil)))) (yRet (xC (.bool false))) (yPass))
    (ySeq (yFor (zRg1 (vCons (oE (xCallD x__law_exit (vCons (oE (xVar 0)) (vNil)))) (vNil))) (gN 4) (ySeq (ySet 6 (xB gSum (vCons (oE (xLc [5, 3] (zEn2 (vCons (oE (xVar 0)) (vNil))) (gTp 2 (gCn (gN 5) (gCn (gN 3) (gNl)))) (xTst (xB gEq (vCons (oE (xB gIx (vCons (oN 3) (vCons (oE (xC (.int 2))) vNil)))) (vCons (oN 4) vNil)))) (xB gIx (vCons (oN 2) (vCons (oN 5) vNil))))) (vNil))))
    (ySeq (ySet 7 (xB gSum (vCons (oE (xLc [5, 3] (zEn2 (vCons (oE (xVar 0)) (vNil))) (gTp 2 (gCn (gN 5) (gCn (gN 3) (gNl)))) (xTst (xB gEq (vCons (oE (xB gIx (vCons (oN 3) (vCons (oE (xC (.int 1))) vNil)))) (vCons (oN 4) vNil)))) (xB gIx (vCons (oN 2) (vCons (oN 5) vNil))))) (vNil))))
    (yIf (xTst (xB gNe (vCons (oE (xB gSub (vCons (oN 7) (vCons (oN 6) vNil)))) (vCons (oE (xIf (xTst (xB gEq (vCons (oN 4) (vCons (oE (xC (.int 0))) vNil)))) (xVar 1) (xC (.int 0)))) vNil)))) (yRet (xC (.bool false))) (yPass)))))
    (yRet (xC (.bool true))))))
theorem okF__law_is_loads {f : Addr} {fd : FuncData} (B : Bn mg) (Z : Ez P w K mg base ce) (F__law_exit : Fk P w K mg base ce s__law_exit 4 "_law_exit" ["_law_net_so"] x__law_exit) (F : Fun K "_law_is_loads" "_law_is_loads" s__law_is_loads f fd) : FnOk P w K mg base (L2.CX P w) 5 f fd ["_law_net_so", "_law_many_so", "_law_matter_so"] (spX ce 3 x__law_is_loads) :=
  have sc := sc__law_is_loads
  fn_ok F sc__law_is_loads fun cdv A outer s H E O hr =>
    (dss_cons (ds_if (dw_or (dt_not (dt_tru (op_e (de_isi (T := "tuple") (by decide) B.b_isinstance B.b_tuple bb_tuple (op_n 2 (pv 2)))))) (dw_or1 (dt_cmp (op_neA hr) bok_ne (op_e (de_B call_lenA bok_len B.b_len bb_len (as_cons (op_n 2 (pv 2)) as_nil))) (op_e (de_B call_lenA bok_len B.b_len bb_len (as_cons (op_n 0 (pv 0)) as_nil)))))).pt (dss_one (ds_ret de_bl)) dss_nil)
      (dss_cons (ds_if (dt_cmp (op_neA hr) bok_ne (op_e (de_lc [("_law_own", 3)] rfl sc.nd (di_seq (op_n 2 (pv 2))) (blk_of (by kernel_rfl)) (fun _ _ _ _ _ => (dg_name (i := 3) sc.nd rfl (by first | exact Or.inl rfl | exact Or.inr rfl) (by decide))) (fun _ _ _ _ _ => (dts_one (dw_or (dt_not (dt_tru (op_e (de_isi (T := "int") (by decide) B.b_isinstance B.b_int bb_int (op_n 3 (pv 3)))))) (dw_or (dt_tru (op_e (de_isi (T := "bool") (by decide) B.b_isinstance B.b_bool bb_bool (op_n 3 (pv 3))))) (dw_or1 (dt_cmp op_ltA bok_lt (op_n 3 (pv 3)) (op_e de_int))))).pt)) (fun _ _ _ _ _ => (de_var 3 (pv 3))))) (op_e (de_lst as_nil))) (dss_one (ds_ret de_bl)) dss_nil)
      (dss_cons (ds_for (vs := [4]) (passes_of rfl) rfl (di_rg1 B.b_range (as_cons (op_e (de_cD F__law_exit (hr.mono (by decide)) (takes_of rfl rfl rfl rfl) (as_cons (op_e (de_var 0 (pv 0))) as_nil))) as_nil)) (dg_name (i := 4) sc.nd rfl (by first | exact Or.inl rfl | exact Or.inr rfl) (by decide)) (dss_cons (ds_set (i := 6) sc.nd rfl (by first | exact Or.inl rfl | exact Or.inr rfl) (de_B (cr_sum rfl) bok_sum B.b_sum bb_sum (as_cons (op_e (de_lc [("_law_at_so", 5), ("_law_own", 3)] rfl sc.nd (di_en2 B.b_enumerate (as_cons (op_e (de_var 0 (pv 0))) as_nil)) (blk_of (by kernel_rfl)) (fun _ _ _ _ _ => (dg_tup rfl (dgs_cons (dg_name (i := 5) sc.nd rfl (by first | exact Or.inl rfl | exact Or.inr rfl) (by decide)) (dgs_cons (dg_name (i := 3) sc.nd rfl (by first | exact Or.inl rfl | exact Or.inr rfl) (by decide)) dgs_nil)))) (fun _ _ _ _ _ => (dts_one (dt_cmp (op_eqA hr) bok_eq (op_e (de_ix ix_seq bok_ix (op_n 3 (pv 3)) (op_e de_int))) (op_n 4 (pv 4))))) (fun _ _ _ _ _ => (de_ix ix_seq bok_ix (op_n 2 (pv 2)) (op_n 5 (pv 5)))))) as_nil)))
      (dss_cons (ds_set (i := 7) sc.nd rfl (by first | exact Or.inl rfl | exact Or.inr rfl) (de_B (cr_sum rfl) bok_sum B.b_sum bb_sum (as_cons (op_e (de_lc [("_law_at_so", 5), ("_law_own", 3)] rfl sc.nd (di_en2 B.b_enumerate (as_cons (op_e (de_var 0 (pv 0))) as_nil)) (blk_of (by kernel_rfl)) (fun _ _ _ _ _ => (dg_tup rfl (dgs_cons (dg_name (i := 5) sc.nd rfl (by first | exact Or.inl rfl | exact Or.inr rfl) (by decide)) (dgs_cons (dg_name (i := 3) sc.nd rfl (by first | exact Or.inl rfl | exact Or.inr rfl) (by decide)) dgs_nil)))) (fun _ _ _ _ _ => (dts_one (dt_cmp (op_eqA hr) bok_eq (op_e (de_ix ix_seq bok_ix (op_n 3 (pv 3)) (op_e de_int))) (op_n 4 (pv 4))))) (fun _ _ _ _ _ => (de_ix ix_seq bok_ix (op_n 2 (pv 2)) (op_n 5 (pv 5)))))) as_nil)))
      (dss_one (ds_if (dt_cmp (op_neA hr) bok_ne (op_e (de_op op_sub bok_sub (op_n 7 (pv 7)) (op_n 6 (pv 6)))) (op_e (de_if (dt_cmp (op_eqA hr) bok_eq (op_n 4 (pv 4)) (op_e de_int)) (de_var 1 (pv 1)) de_int))) (dss_one (ds_ret de_bl)) dss_nil)))))
      (dss_one (ds_ret de_bl)))))
theorem ok__law_is_loads {f : Addr} {fd : FuncData} (B : Bn mg) (Z : Ez P w K mg base ce) (F__law_exit : Fk P w K mg base ce s__law_exit 4 "_law_exit" ["_law_net_so"] x__law_exit) (F : Fun K "_law_is_loads" "_law_is_loads" s__law_is_loads f fd) (hm : mg "_law_is_loads" = some (.ref f)) : Fk P w K mg base ce s__law_is_loads 5 "_law_is_loads" ["_law_net_so", "_law_many_so", "_law_matter_so"] x__law_is_loads := fk_mk F hm (fun _ _ _ _ _ _ us hl => match us, hl with | [_, _, _], _ => rfl) (okF__law_is_loads B Z F__law_exit F)
abbrev s__law_size : Stmt := topS 22
theorem sc__law_size : FnScope ["_law_box_here", "_law_last_so"] ["_law_box_here"] (defScope s__law_size) := ⟨rfl, rfl, rfl, by decide +kernel, rfl, by decide +kernel, by decide +kernel⟩
def x__law_size : Fx := fnX 1 2
   (ySeq (ySet 1 (xB gAdd (vCons (oE (xC (.int 1))) (vCons (oE (xCallB 0 x__law_take (vCons (oN 0) (vCons (oE (xC (.int 5))) (vNil))))) vNil))))
    (yRet (xCallB 0 x__law_net (vCons (oN 0) (vCons (oE (xVar 1)) (vCons (oE (xCallB 0 x__law_take (vCons (oN 0) (vCons (oE (xC (.int 4))) (vNil))))) (vNil)))))))
theorem okF__law_size {f : Addr} {fd : FuncData} (B : Bn mg) (Z : Ez P w K mg base ce) (F__law_take : Fk P w K mg base ce s__law_take 4 "_law_take" ["_law_box_here", "_law_below_so"] x__law_take) (F__law_net : Fk P w K mg base ce s__law_net 7 "_law_net" ["_law_box_here", "_law_last_so", "_law_more_so"] x__law_net) (F : Fun K "_law_size" "_law_size" s__law_size f fd) : FnOk P w K mg base (L2.CX P w) 8 f fd ["_law_box_here"] (spX ce 1 x__law_size) :=
  have sc := sc__law_size
  fn_ok F sc__law_size fun cdv A outer s H E O hr =>
    (dss_cons (ds_set (i := 1) sc.nd rfl (by first | exact Or.inl rfl | exact Or.inr rfl) (de_op op_addA bok_add (op_e de_int) (op_e (de_cB 0 F__law_take (hr.mono (by decide)) (takes_of rfl rfl rfl rfl) (as_cons (op_n 0 (pv 0)) (as_cons (op_e de_int) as_nil))))))
      (dss_one (ds_ret (de_cB 0 F__law_net (hr.mono (by decide)) (takes_of rfl rfl rfl rfl) (as_cons (op_n 0 (pv 0)) (as_cons (op_e (de_var 1 (pv 1))) (as_cons (op_e (de_cB 0 F__law_take (hr.mono (by decide)) (takes_of rfl rfl rfl rfl) (as_cons (op_n 0 (pv 0)) (as_cons (op_e de_int) as_nil)))) as_nil)))))))
theorem ok__law_size {f : Addr} {fd : FuncData} (B : Bn mg) (Z : Ez P w K mg base ce) (F__law_take : Fk P w K mg base ce s__law_take 4 "_law_take" ["_law_box_here", "_law_below_so"] x__law_take) (F__law_net : Fk P w K mg base ce s__law_net 7 "_law_net" ["_law_box_here", "_law_last_so", "_law_more_so"] x__law_net) (F : Fun K "_law_size" "_law_size" s__law_size f fd) (hm : mg "_law_size" = some (.ref f)) : Fk P w K mg base ce s__law_size 8 "_law_size" ["_law_box_here"] x__law_size := fk_mk F hm (fun _ _ _ _ _ _ us hl => match us, hl with | [_], _ => rfl) (okF__law_size B Z F__law_take F__law_net F)
abbrev s__law_bent : Stmt := topS 23
theorem sc__law_bent : FnScope ["_law_box_here", "_law_net_so", "_law_much_so", "_law_k", "_law_spot_so", "_law_some_so", "_law_bit_so", "_law_far", "_law_round_so", "_law_at_so", "_law_own"] ["_law_box_here", "_law_net_so", "_law_much_so"] (defScope s__law_bent) := ⟨rfl, rfl, rfl, by decide +kernel, rfl, by decide +kernel, by decide +kernel⟩
def x__law_bent : Fx := fnX 3 11
   (ySeq (yPar [3, 4] (rCons (xCallB 0 x__law_take (vCons (oN 0) (vCons (oE (xB gLen (vCons (oN 1) (vNil)))) (vNil)))) (rCons (xCallB 0 x__law_take (vCons (oN 0) (vCons (oE (xB gLen (vCons (oN 1) (vNil)))) (vNil)))) (rNil))))
    (ySeq (ySet 5 (xLst (vCons (oE (xB gList (vCons (oN 2) (vNil)))) (vCons (oE (xB gAdd (vCons (oN 2) (vCons (oE (xTup (vCons (oE (xC (.int 0))) (vNil)))) vNil)))) (vCons (oE (xSl (oN 2) (sNo) (sAt (xB gNeg (vCons (oE (xC (.int 1))) vNil))))) (vCons (oE (xB gRv (vCons (oN 2) vNil))) (vCons (oE (xC .none)) (vCons (oE (xC (.int 0))) (vCons (oE (xC (.str ""))) (vCons (oE (xTup (vNil))) (vCons (oE (xB gTuple (vCons (oE (xRepN (xLst (vCons (oE (xC (.int 0))) (vNil))) (xB gLen (vCons (oN 1) (vNil))))) (vNil)))) (vNil))))))))))))
    (ySeq (yFor (zSeq (oE (xTup (vCons (oE (xB gAdd (vCons (oE (xB gIx (vCons (oN 2) (vCons (oN 3) vNil)))) (vCons (oE (xC (.int 1))) vNil)))) (vCons (oE (xB gSub (vCons (oE (xB gIx (vCons (oN 2) (vCons (oN 3) vNil)))) (vCons (oE (xC (.int 1))) vNil)))) (vCons (oE (xB gNeg (vCons (oE (xC (.int 1))) vNil))) (vCons (oE (xC (.bool true))) (vCons (oE (xC .none)) (vCons (oE (xC (.str "1"))) (vCons (oE (xC (.int 0))) (vCons (oE (xTup (vCons (oE (xB gIx (vCons (oN 2) (vCons (oN 3) vNil)))) (vNil)))) (vCons (oE (xB gIx (vCons (oN 2) (vCons (oN 4) vNil)))) (vCons (oE (xB gPow (vCons (oE (xC (.int 10))) (vCons (oE (xC (.int 50))) vNil)))) (vNil)))))))))))))) (gN 6) (yExpr (yL 5 (xApp 5 (xB gAdd (vCons (oE (xB gAdd (vCons (oE (xSl (oN 2) (sNo) (sAt (xVar 3)))) (vCons (oE (xTup (vCons (oE (xVar 6)) (vNil)))) vNil)))) (vCons (oE (xSl (oN 2) (sAt (xB gAdd (vCons (oN 3) (vCons (oE (xC (.int 1))) vNil)))) (sNo))) vNil)))))))
    (ySeq (ySet 8 (xB gIx (vCons (oE (xLc [7] (zSeq (oE (xCallD x__law_ways (vCons (oE (xVar 1)) (vNil))))) (gN 7) (xTst (xB gIn (vCons (oE (xB gIx (vCons (oE (xB gIx (vCons (oN 1) (vCons (oN 3) vNil)))) (vCons (oE (xC (.int 0))) vNil)))) (vCons (oN 7) vNil)))) (xVar 7))) (vCons (oE (xC (.int 0))) vNil))))
    (ySeq (yFor (zSeq (oE (xTup (vCons (oE (xC (.int 1))) (vCons (oE (xB gNeg (vCons (oE (xC (.int 1))) vNil))) (vCons (oE (xB gPow (vCons (oE (xC (.int 10))) (vCons (oE (xC (.int 40))) vNil)))) (vNil))))))) (gN 6) (yExpr (yL 5 (xApp 5 (xB gTuple (vCons (oE (xLc [9, 10] (zEn2 (vCons (oE (xVar 2)) (vNil))) (gTp 2 (gCn (gN 9) (gCn (gN 10) (gNl)))) (tYesX) (xB gAdd (vCons (oN 10) (vCons (oE (xB gMul (vCons (oN 6) (vCons (oE (xB gInt (vCons (oE (xB gIn (vCons (oE (xB gIx (vCons (oE (xB gIx (vCons (oN 1) (vCons (oN 9) vNil)))) (vCons (oE (xC (.int 0))) vNil)))) (vCons (oN 8) vNil)))) (vNil)))) vNil)))) vNil))))) (vNil)))))))
    (yRetV 5))))))
theorem okF__law_bent {f : Addr} {fd : FuncData} (B : Bn mg) (Z : Ez P w K mg base ce) (F__law_take : Fk P w K mg base ce s__law_take 4 "_law_take" ["_law_box_here", "_law_below_so"] x__law_take) (F__law_ways : Fk P w K mg base ce s__law_ways 5 "_law_ways" ["_law_net_so"] x__law_ways) (F : Fun K "_law_bent" "_law_bent" s__law_bent f fd) : FnOk P w K mg base (L2.CX P w) 6 f fd ["_law_box_here", "_law_net_so", "_law_much_so"] (spX ce 3 x__law_bent) :=
  have sc := sc__law_bent
  fn_ok F sc__law_bent fun cdv A outer s H E O hr =>
    (dss_cons (ds_parG rfl (.cons (i := 3) sc.nd rfl (by first | exact Or.inl rfl | exact Or.inr rfl) (by first | exact .inl rfl | exact .inr rfl) rfl (.cons (i := 4) sc.nd rfl (by first | exact Or.inl rfl | exact Or.inr rfl) (by first | exact .inl rfl | exact .inr rfl) rfl .nil)) rfl (by decide) (rs_cons (de_cB 0 F__law_take (hr.mono (by decide)) (takes_of rfl rfl rfl rfl) (as_cons (op_n 0 (pv 0)) (as_cons (op_e (de_B call_lenA bok_len B.b_len bb_len (as_cons (op_n 1 (pv 1)) as_nil))) as_nil))) (rs_cons (de_cB 0 F__law_take (hr.mono (by decide)) (takes_of rfl rfl rfl rfl) (as_cons (op_n 0 (pv 0)) (as_cons (op_e (de_B call_lenA bok_len B.b_len bb_len (as_cons (op_n 1 (pv 1)) as_nil))) as_nil))) rs_nil)) (lenIs_cons (lenIs_cons lenIs_nil)))
      (dss_cons (ds_set (i := 5) sc.nd rfl (by first | exact Or.inl rfl | exact Or.inr rfl) (de_lst (as_cons (op_e (de_T call_list_of bok_list B.b_list bb_list (as_cons (op_n 2 (pv 2)) as_nil))) (as_cons (op_e (de_op op_addA bok_add (op_n 2 (pv 2)) (op_e (de_tup (as_cons (op_e de_int) as_nil))))) (as_cons (op_e (de_sl (op_n 2 (pv 2)) sl_no (sl_at (de_un un_neg bok_neg (op_e de_int))))) (as_cons (op_e (de_rv (op_n 2 (pv 2)))) (as_cons (op_e de_non) (as_cons (op_e de_int) (as_cons (op_e de_str) (as_cons (op_e (de_tup as_nil)) (as_cons (op_e (de_T call_tuple_of bok_tuple B.b_tuple bb_tuple (as_cons (op_e (de_repN (de_lst (as_cons (op_e de_int) as_nil)) (de_B call_lenA bok_len B.b_len bb_len (as_cons (op_n 1 (pv 1)) as_nil)))) as_nil))) as_nil)))))))))))
      (dss_cons (ds_for (vs := [6]) (passes_of rfl) rfl (di_seq (op_e (de_tup (as_cons (op_e (de_op op_addA bok_add (op_e (de_ix ix_seq bok_ix (op_n 2 (pv 2)) (op_n 3 (pv 3)))) (op_e de_int))) (as_cons (op_e (de_op op_sub bok_sub (op_e (de_ix ix_seq bok_ix (op_n 2 (pv 2)) (op_n 3 (pv 3)))) (op_e de_int))) (as_cons (op_e (de_un un_neg bok_neg (op_e de_int))) (as_cons (op_e de_bl) (as_cons (op_e de_non) (as_cons (op_e de_str) (as_cons (op_e de_int) (as_cons (op_e (de_tup (as_cons (op_e (de_ix ix_seq bok_ix (op_n 2 (pv 2)) (op_n 3 (pv 3)))) as_nil))) (as_cons (op_e (de_ix ix_seq bok_ix (op_n 2 (pv 2)) (op_n 4 (pv 4)))) (as_cons (op_e (de_op op_pow bok_pow (op_e de_int) (op_e de_int))) as_nil))))))))))))) (dg_name (i := 6) sc.nd rfl (by first | exact Or.inl rfl | exact Or.inr rfl) (by decide)) (dss_one (ds_expr (de_app 5 (pv 5) (de_op op_addA bok_add (op_e (de_op op_addA bok_add (op_e (de_sl (op_n 2 (pv 2)) sl_no (sl_at (de_var 3 (pv 3))))) (op_e (de_tup (as_cons (op_e (de_var 6 (pv 6))) as_nil))))) (op_e (de_sl (op_n 2 (pv 2)) (sl_at (de_op op_addA bok_add (op_n 3 (pv 3)) (op_e de_int))) sl_no)))))))
      (dss_cons (ds_set (i := 8) sc.nd rfl (by first | exact Or.inl rfl | exact Or.inr rfl) (de_ix ix_seq bok_ix (op_e (de_lc [("_law_far", 7)] rfl sc.nd (di_seq (op_e (de_cD F__law_ways (hr.mono (by decide)) (takes_of rfl rfl rfl rfl) (as_cons (op_e (de_var 1 (pv 1))) as_nil)))) (blk_of (by kernel_rfl)) (fun _ _ _ _ _ => (dg_name (i := 7) sc.nd rfl (by first | exact Or.inl rfl | exact Or.inr rfl) (by decide))) (fun _ _ _ _ _ => (dts_one (dt_cmp op_in_seq bok_in (op_e (de_ix ix_seq bok_ix (op_e (de_ix ix_seq bok_ix (op_n 1 (pv 1)) (op_n 3 (pv 3)))) (op_e de_int))) (op_n 7 (pv 7))))) (fun _ _ _ _ _ => (de_var 7 (pv 7))))) (op_e de_int)))
      (dss_cons (ds_for (vs := [6]) (passes_of rfl) rfl (di_seq (op_e (de_tup (as_cons (op_e de_int) (as_cons (op_e (de_un un_neg bok_neg (op_e de_int))) (as_cons (op_e (de_op op_pow bok_pow (op_e de_int) (op_e de_int))) as_nil)))))) (dg_name (i := 6) sc.nd rfl (by first | exact Or.inl rfl | exact Or.inr rfl) (by decide)) (dss_one (ds_expr (de_app 5 (pv 5) (de_T call_tuple_of bok_tuple B.b_tuple bb_tuple (as_cons (op_e (de_lc [("_law_at_so", 9), ("_law_own", 10)] rfl sc.nd (di_en2 B.b_enumerate (as_cons (op_e (de_var 2 (pv 2))) as_nil)) (blk_of (by kernel_rfl)) (fun _ _ _ _ _ => (dg_tup rfl (dgs_cons (dg_name (i := 9) sc.nd rfl (by first | exact Or.inl rfl | exact Or.inr rfl) (by decide)) (dgs_cons (dg_name (i := 10) sc.nd rfl (by first | exact Or.inl rfl | exact Or.inr rfl) (by decide)) dgs_nil)))) (fun _ _ _ _ _ => dts_nil) (fun _ _ _ _ _ => (de_op op_addA bok_add (op_n 10 (pv 10)) (op_e (de_op op_mulA bok_mul (op_n 6 (pv 6)) (op_e (de_T call_int1 bok_int B.b_int bb_int (as_cons (op_e (de_cmp op_in_seq bok_in (op_e (de_ix ix_seq bok_ix (op_e (de_ix ix_seq bok_ix (op_n 1 (pv 1)) (op_n 9 (pv 9)))) (op_e de_int))) (op_n 8 (pv 8)))) as_nil))))))))) as_nil))))))
      (dss_one (ds_retV 5 (pv 5))))))))
theorem ok__law_bent {f : Addr} {fd : FuncData} (B : Bn mg) (Z : Ez P w K mg base ce) (F__law_take : Fk P w K mg base ce s__law_take 4 "_law_take" ["_law_box_here", "_law_below_so"] x__law_take) (F__law_ways : Fk P w K mg base ce s__law_ways 5 "_law_ways" ["_law_net_so"] x__law_ways) (F : Fun K "_law_bent" "_law_bent" s__law_bent f fd) (hm : mg "_law_bent" = some (.ref f)) : Fk P w K mg base ce s__law_bent 6 "_law_bent" ["_law_box_here", "_law_net_so", "_law_much_so"] x__law_bent := fk_mk F hm (fun _ _ _ _ _ _ us hl => match us, hl with | [_, _, _], _ => rfl) (okF__law_bent B Z F__law_take F__law_ways F)
abbrev s__law_case_right : Stmt := topS 24
theorem sc__law_case_right : FnScope ["_law_box_here", "_law_net_so", "_law_lots_so", "_law_own", "_law_much_so", "_law_many_so", "_law_matter_so", "_law_far", "_law_due", "_law_got"] ["_law_box_here", "_law_net_so"] (defScope s__law_case_right) := ⟨rfl, rfl, rfl, by decide +kernel, rfl, by decide +kernel, by decide +kernel⟩
def x__law_case_right : Fx := fnX 2 10
   (ySeq (ySet 2 (xCallB 0 x__law_lots (vCons (oN 0) (vCons (oE (xVar 1)) (vNil)))))
    (ySeq (yPar [4, 5] (rCons (xCallD x__law_by_ways (vCons (oE (xVar 1)) (vCons (oE (xVar 2)) (vNil)))) (rCons (xB gSum (vCons (oE (xLc [3] (zSeq (oN 2)) (gN 3) (tYesX) (xB gIx (vCons (oN 3) (vCons (oE (xC (.int 1))) vNil))))) (vNil))) (rNil))))
    (ySeq (yIf (xNot (xTru (oE (xCallD (x__law_same 8) (vCons (oE (xLst (vCons (oE (xCallD x_is_loads (vCons (oE (xVar 1)) (vCons (oE (xVar 5)) (vCons (oE (xVar 4)) (vNil)))))) (vCons (oE (xCallD x_is_loads (vCons (oE (xVar 1)) (vCons (oE (xB gAdd (vCons (oN 5) (vCons (oE (xC (.int 1))) vNil)))) (vCons (oE (xVar 4)) (vNil)))))) (vNil))))) (vCons (oE (xLst (vCons (oE (xC (.bool true))) (vCons (oE (xC (.bool false))) (vNil))))) (vNil))))))) (yRet (xC (.bool false))) (yPass))
    (ySeq (yFor (zSeq (oE (xCallB 0 x__law_bent (vCons (oN 0) (vCons (oE (xVar 1)) (vCons (oE (xVar 4)) (vNil))))))) (gN 6) (yFor (zSeq (oE (xTup (vCons (oE (xVar 5)) (vCons (oE (xB gAdd (vCons (oN 5) (vCons (oE (xC (.int 1))) vNil)))) (vCons (oE (xC (.int 0))) (vNil))))))) (gN 7) (ySeq (ySet 8 (xCallD x__law_is_loads (vCons (oE (xVar 1)) (vCons (oE (xVar 7)) (vCons (oE (xVar 6)) (vNil))))))
    (ySeq (ySet 9 (xLst (vCons (oE (xCallD x_is_loads (vCons (oE (xVar 1)) (vCons (oE (xVar 7)) (vCons (oE (xVar 6)) (vNil)))))) (vCons (oE (xCallK [2, 1, 0] x_is_loads (vCons (oE (xVar 6)) (vCons (oE (xVar 7)) (vCons (oE (xCallD (x__law_lists 8) (vCons (oE (xVar 1)) (vNil)))) (vNil)))))) (vNil)))))
    (yIf (xNot (xTru (oE (xCallD (x__law_same 8) (vCons (oE (xVar 9)) (vCons (oE (xLst (vCons (oE (xVar 8)) (vCons (oE (xVar 8)) (vNil))))) (vNil))))))) (yRet (xC (.bool false))) (yPass))))))
    (yRet (xC (.bool true)))))))
theorem okF__law_case_right {f : Addr} {fd : FuncData} (B : Bn mg) (Z : Ez P w K mg base ce) (F_is_loads : Fk P w K mg base ce s_is_loads 6 "is_loads" ["net", "goers", "thing"] x_is_loads) (F__law_same : Fk P w K mg base ce s__law_same 12 "_law_same" ["_law_got", "_law_due"] (x__law_same 8)) (F__law_lists : Fk P w K mg base ce s__law_lists 12 "_law_lists" ["_law_matter_so"] (x__law_lists 8)) (F__law_by_ways : Fk P w K mg base ce s__law_by_ways 4 "_law_by_ways" ["_law_net_so", "_law_lots_so"] x__law_by_ways) (F__law_lots : Fk P w K mg base ce s__law_lots 6 "_law_lots" ["_law_box_here", "_law_net_so"] x__law_lots) (F__law_is_loads : Fk P w K mg base ce s__law_is_loads 5 "_law_is_loads" ["_law_net_so", "_law_many_so", "_law_matter_so"] x__law_is_loads) (F__law_bent : Fk P w K mg base ce s__law_bent 6 "_law_bent" ["_law_box_here", "_law_net_so", "_law_much_so"] x__law_bent) (F : Fun K "_law_case_right" "_law_case_right" s__law_case_right f fd) : FnOk P w K mg base (L2.CX P w) 13 f fd ["_law_box_here", "_law_net_so"] (spX ce 2 x__law_case_right) :=
  have sc := sc__law_case_right
  fn_ok F sc__law_case_right fun cdv A outer s H E O hr =>
    (dss_cons (ds_set (i := 2) sc.nd rfl (by first | exact Or.inl rfl | exact Or.inr rfl) (de_cB 0 F__law_lots (hr.mono (by decide)) (takes_of rfl rfl rfl rfl) (as_cons (op_n 0 (pv 0)) (as_cons (op_e (de_var 1 (pv 1))) as_nil))))
      (dss_cons (ds_par2 (i := 4) (j := 5) rfl sc.nd rfl rfl (by decide) rfl rfl (rs_cons (de_cD F__law_by_ways (hr.mono (by decide)) (takes_of rfl rfl rfl rfl) (as_cons (op_e (de_var 1 (pv 1))) (as_cons (op_e (de_var 2 (pv 2))) as_nil))) (rs_cons (de_B (cr_sum rfl) bok_sum B.b_sum bb_sum (as_cons (op_e (de_lc [("_law_own", 3)] rfl sc.nd (di_seq (op_n 2 (pv 2))) (blk_of (by kernel_rfl)) (fun _ _ _ _ _ => (dg_name (i := 3) sc.nd rfl (by first | exact Or.inl rfl | exact Or.inr rfl) (by decide))) (fun _ _ _ _ _ => dts_nil) (fun _ _ _ _ _ => (de_ix ix_seq bok_ix (op_n 3 (pv 3)) (op_e de_int))))) as_nil)) rs_nil)) (lenIs_cons (lenIs_cons lenIs_nil)))
      (dss_cons (ds_if (dt_not (dt_tru (op_e (de_cD F__law_same (hr.mono (by decide)) (takes_of rfl rfl rfl rfl) (as_cons (op_e (de_lst (as_cons (op_e (de_cD F_is_loads (hr.mono (by decide)) (takes_of rfl rfl rfl rfl) (as_cons (op_e (de_var 1 (pv 1))) (as_cons (op_e (de_var 5 (pv 5))) (as_cons (op_e (de_var 4 (pv 4))) as_nil))))) (as_cons (op_e (de_cD F_is_loads (hr.mono (by decide)) (takes_of rfl rfl rfl rfl) (as_cons (op_e (de_var 1 (pv 1))) (as_cons (op_e (de_op op_addA bok_add (op_n 5 (pv 5)) (op_e de_int))) (as_cons (op_e (de_var 4 (pv 4))) as_nil))))) as_nil)))) (as_cons (op_e (de_lst (as_cons (op_e de_bl) (as_cons (op_e de_bl) as_nil)))) as_nil)))))) (dss_one (ds_ret de_bl)) dss_nil)
      (dss_cons (ds_for (vs := [6]) (passes_of rfl) rfl (di_seq (op_e (de_cB 0 F__law_bent (hr.mono (by decide)) (takes_of rfl rfl rfl rfl) (as_cons (op_n 0 (pv 0)) (as_cons (op_e (de_var 1 (pv 1))) (as_cons (op_e (de_var 4 (pv 4))) as_nil)))))) (dg_name (i := 6) sc.nd rfl (by first | exact Or.inl rfl | exact Or.inr rfl) (by decide)) (dss_one (ds_for (vs := [7]) (passes_of rfl) rfl (di_seq (op_e (de_tup (as_cons (op_e (de_var 5 (pv 5))) (as_cons (op_e (de_op op_addA bok_add (op_n 5 (pv 5)) (op_e de_int))) (as_cons (op_e de_int) as_nil)))))) (dg_name (i := 7) sc.nd rfl (by first | exact Or.inl rfl | exact Or.inr rfl) (by decide)) (dss_cons (ds_set (i := 8) sc.nd rfl (by first | exact Or.inl rfl | exact Or.inr rfl) (de_cD F__law_is_loads (hr.mono (by decide)) (takes_of rfl rfl rfl rfl) (as_cons (op_e (de_var 1 (pv 1))) (as_cons (op_e (de_var 7 (pv 7))) (as_cons (op_e (de_var 6 (pv 6))) as_nil)))))
      (dss_cons (ds_set (i := 9) sc.nd rfl (by first | exact Or.inl rfl | exact Or.inr rfl) (de_lst (as_cons (op_e (de_cD F_is_loads (hr.mono (by decide)) (takes_of rfl rfl rfl rfl) (as_cons (op_e (de_var 1 (pv 1))) (as_cons (op_e (de_var 7 (pv 7))) (as_cons (op_e (de_var 6 (pv 6))) as_nil))))) (as_cons (op_e (de_cK (ks := ["thing", "goers", "net"]) [2, 1, 0] F_is_loads (hr.mono (by decide)) (fun _ _ _ _ _ _ us hl => match us, hl with | [_, _, _], _ => rfl) (takes_of rfl rfl rfl rfl) (dk_cons (op_e (de_var 6 (pv 6))) (dk_cons (op_e (de_var 7 (pv 7))) (dk_cons (op_e (de_cD F__law_lists (hr.mono (by decide)) (takes_of rfl rfl rfl rfl) (as_cons (op_e (de_var 1 (pv 1))) as_nil))) dk_nil))) (lenM_cons (lenM_cons (lenM_cons lenM_nil))))) as_nil))))
      (dss_one (ds_if (dt_not (dt_tru (op_e (de_cD F__law_same (hr.mono (by decide)) (takes_of rfl rfl rfl rfl) (as_cons (op_e (de_var 9 (pv 9))) (as_cons (op_e (de_lst (as_cons (op_e (de_var 8 (pv 8))) (as_cons (op_e (de_var 8 (pv 8))) as_nil)))) as_nil)))))) (dss_one (ds_ret de_bl)) dss_nil)))))))
      (dss_one (ds_ret de_bl))))))
theorem ok__law_case_right {f : Addr} {fd : FuncData} (B : Bn mg) (Z : Ez P w K mg base ce) (F_is_loads : Fk P w K mg base ce s_is_loads 6 "is_loads" ["net", "goers", "thing"] x_is_loads) (F__law_same : Fk P w K mg base ce s__law_same 12 "_law_same" ["_law_got", "_law_due"] (x__law_same 8)) (F__law_lists : Fk P w K mg base ce s__law_lists 12 "_law_lists" ["_law_matter_so"] (x__law_lists 8)) (F__law_by_ways : Fk P w K mg base ce s__law_by_ways 4 "_law_by_ways" ["_law_net_so", "_law_lots_so"] x__law_by_ways) (F__law_lots : Fk P w K mg base ce s__law_lots 6 "_law_lots" ["_law_box_here", "_law_net_so"] x__law_lots) (F__law_is_loads : Fk P w K mg base ce s__law_is_loads 5 "_law_is_loads" ["_law_net_so", "_law_many_so", "_law_matter_so"] x__law_is_loads) (F__law_bent : Fk P w K mg base ce s__law_bent 6 "_law_bent" ["_law_box_here", "_law_net_so", "_law_much_so"] x__law_bent) (F : Fun K "_law_case_right" "_law_case_right" s__law_case_right f fd) (hm : mg "_law_case_right" = some (.ref f)) : Fk P w K mg base ce s__law_case_right 13 "_law_case_right" ["_law_box_here", "_law_net_so"] x__law_case_right := fk_mk F hm (fun _ _ _ _ _ _ us hl => match us, hl with | [_, _], _ => rfl) (okF__law_case_right B Z F_is_loads F__law_same F__law_lists F__law_by_ways F__law_lots F__law_is_loads F__law_bent F)
abbrev s__law_by_hand_right : Stmt := topS 25
theorem sc__law_by_hand_right : FnScope ["_law_bridge_so", "_law_great_so", "_law_some_so", "_law_own", "_law_got", "_law_due", "_law_lone_so", "_law_past_so", "_law_wide_so"] [] (defScope s__law_by_hand_right) := ⟨rfl, rfl, rfl, by decide +kernel, rfl, by decide +kernel, by decide +kernel⟩
def x__law_by_hand_right : Fx := fnX 0 9
   (ySeq (yPar [0, 1] (rCons (xTup (vCons (oE (xTup (vCons (oE (xC (.str "a"))) (vCons (oE (xC (.int 0))) (vCons (oE (xC (.int 1))) (vNil)))))) (vCons (oE (xTup (vCons (oE (xC (.str "b"))) (vCons (oE (xC (.int 0))) (vCons (oE (xC (.int 2))) (vNil)))))) (vCons (oE (xTup (vCons (oE (xC (.str "c"))) (vCons (oE (xC (.int 1))) (vCons (oE (xC (.int 2))) (vNil)))))) (vCons (oE (xTup (vCons (oE (xC (.str "d"))) (vCons (oE (xC (.int 1))) (vCons (oE (xC (.int 3))) (vNil)))))) (vCons (oE (xTup (vCons (oE (xC (.str "e"))) (vCons (oE (xC (.int 2))) (vCons (oE (xC (.int 3))) (vNil)))))) (vNil))))))) (rCons (xB gPow (vCons (oE (xC (.int 10))) (vCons (oE (xC (.int 30))) vNil))) (rNil))))
    (ySeq (ySet 2 (xLst (vCons (oE (xTup (vCons (oE (xC (.int 4))) (vCons (oE (xC (.int 0))) (vCons (oE (xC (.int 4))) (vCons (oE (xC (.int 0))) (vCons (oE (xC (.int 4))) (vNil)))))))) (vCons (oE (xTup (vCons (oE (xC (.int 2))) (vCons (oE (xC (.int 2))) (vCons (oE (xC (.int 0))) (vCons (oE (xC (.int 2))) (vCons (oE (xC (.int 2))) (vNil)))))))) (vCons (oE (xTup (vCons (oE (xC (.int 3))) (vCons (oE (xC (.int 1))) (vCons (oE (xC (.int 2))) (vCons (oE (xC (.int 1))) (vCons (oE (xC (.int 3))) (vNil)))))))) (vCons (oE (xTup (vCons (oE (xC (.int 0))) (vCons (oE (xC (.int 4))) (vCons (oE (xC (.int 0))) (vCons (oE (xC (.int 0))) (vCons (oE (xC (.int 4))) (vNil)))))))) (vCons (oE (xLst (vCons (oE (xC (.int 4))) (vCons (oE (xC (.int 0))) (vCons (oE (xC (.int 4))) (vCons (oE (xC (.int 0))) (vCons (oE (xC (.int 4))) (vNil)))))))) (vCons (oE (xTup (vCons (oE (xC (.int 4))) (vCons (oE (xC (.int 0))) (vCons (oE (xC (.int 3))) (vCons (oE (xC (.int 0))) (vCons (oE (xC (.int 4))) (vNil)))))))) (vNil)))))))))
    (ySeq (ySet 2 (xB gAdd (vCons (oN 2) (vCons (oE (xLst (vCons (oE (xTup (vCons (oE (xC (.int 4))) (vCons (oE (xC (.int 0))) (vCons (oE (xC (.int 4))) (vCons (oE (xC (.int 0))) (vCons (oE (xC (.int 3))) (vNil)))))))) (vCons (oE (xTup (vCons (oE (xC (.int 3))) (vCons (oE (xC (.int 0))) (vCons (oE (xC (.int 3))) (vCons (oE (xC (.int 0))) (vCons (oE (xC (.int 3))) (vNil)))))))) (vCons (oE (xTup (vCons (oE (xC (.int 4))) (vCons (oE (xC (.int 0))) (vCons (oE (xC (.int 5))) (vCons (oE (xB gNeg (vCons (oE (xC (.int 1))) vNil))) (vCons (oE (xC (.int 4))) (vNil)))))))) (vCons (oE (xTup (vCons (oE (xC (.int 4))) (vCons (oE (xC (.int 0))) (vCons (oE (xC (.int 4))) (vCons (oE (xC (.int 0))) (vNil))))))) (vCons (oE (xTup (vCons (oE (xC (.int 4))) (vCons (oE (xC (.int 0))) (vCons (oE (xC (.int 4))) (vCons (oE (xC (.int 0))) (vCons (oE (xC (.int 4))) (vCons (oE (xC (.int 0))) (vNil))))))))) (vCons (oE (xC .none)) (vCons (oE (xC (.int 4))) (vNil)))))))))) vNil))))
    (ySeq (ySet 2 (xB gAdd (vCons (oN 2) (vCons (oE (xLst (vCons (oE (xTup (vCons (oE (xC (.int 4))) (vCons (oE (xC (.bool false))) (vCons (oE (xC (.int 4))) (vCons (oE (xC (.int 0))) (vCons (oE (xC (.int 4))) (vNil)))))))) (vCons (oE (xTup (vCons (oE (xC (.int 4))) (vCons (oE (xC (.int 0))) (vCons (oE (xC (.int 4))) (vCons (oE (xC (.int 0))) (vCons (oE (xC (.str "4"))) (vNil)))))))) (vCons (oE (xTup (vCons (oE (xTup (vCons (oE (xC (.int 4))) (vNil)))) (vCons (oE (xC (.int 0))) (vCons (oE (xC (.int 4))) (vCons (oE (xC (.int 0))) (vCons (oE (xC (.int 4))) (vNil)))))))) (vCons (oE (xTup (vCons (oE (xC (.int 4))) (vCons (oE (xC (.int 0))) (vCons (oE (xC (.int 4))) (vCons (oE (xC .none)) (vCons (oE (xC (.int 4))) (vNil)))))))) (vCons (oE (xC (.str "40404"))) (vCons (oE (xTup (vNil))) (vNil))))))))) vNil))))
    (ySeq (ySet 4 (xLc [3] (zSeq (oN 2)) (gN 3) (tYesX) (xCallD x_is_loads (vCons (oE (xVar 0)) (vCons (oE (xC (.int 4))) (vCons (oE (xVar 3)) (vNil)))))))
    (ySeq (ySet 5 (xB gAdd (vCons (oE (xRepN (xLst (vCons (oE (xC (.bool true))) (vNil))) (xC (.int 4)))) (vCons (oE (xRepN (xLst (vCons (oE (xC (.bool false))) (vNil))) (xC (.int 15)))) vNil))))
    (ySeq (ySet 4 (xB gAdd (vCons (oN 4) (vCons (oE (xLst (vCons (oE (xCallD x_is_loads (vCons (oE (xVar 0)) (vCons (oE (xC (.int 0))) (vCons (oE (xB gMul (vCons (oE (xTup (vCons (oE (xC (.int 0))) (vNil)))) (vCons (oE (xC (.int 5))) vNil)))) (vNil)))))) (vCons (oE (xCallD x_is_loads (vCons (oE (xVar 0)) (vCons (oE (xC (.int 1))) (vCons (oE (xB gMul (vCons (oE (xTup (vCons (oE (xC (.int 0))) (vNil)))) (vCons (oE (xC (.int 5))) vNil)))) (vNil)))))) (vCons (oE (xCallD x_is_loads (vCons (oE (xVar 0)) (vCons (oE (xC (.int 0))) (vCons (oE (xTup (vNil))) (vNil)))))) (vNil)))))) vNil))))
    (ySeq (ySet 5 (xB gAdd (vCons (oN 5) (vCons (oE (xLst (vCons (oE (xC (.bool true))) (vCons (oE (xC (.bool false))) (vCons (oE (xC (.bool false))) (vNil)))))) vNil))))
    (ySeq (ySet 6 (xTup (vCons (oE (xTup (vCons (oE (xC (.str "a"))) (vCons (oE (xC (.int 0))) (vCons (oE (xC (.int 1))) (vNil)))))) (vNil))))
    (ySeq (ySet 4 (xB gAdd (vCons (oN 4) (vCons (oE (xLst (vCons (oE (xCallD x_is_loads (vCons (oE (xVar 6)) (vCons (oE (xVar 1)) (vCons (oE (xTup (vCons (oE (xVar 1)) (vNil)))) (vNil)))))) (vCons (oE (xCallD x_is_loads (vCons (oE (xVar 6)) (vCons (oE (xVar 1)) (vCons (oE (xTup (vCons (oE (xB gSub (vCons (oN 1) (vCons (oE (xC (.int 1))) vNil)))) (vNil)))) (vNil)))))) (vNil))))) vNil))))
    (ySeq (ySet 4 (xB gAdd (vCons (oN 4) (vCons (oE (xLst (vCons (oE (xCallD x_is_loads (vCons (oE (xVar 6)) (vCons (oE (xC (.int 1))) (vCons (oE (xTup (vCons (oE (xC (.bool true))) (vNil)))) (vNil)))))) (vCons (oE (xCallD x_is_loads (vCons (oE (xVar 6)) (vCons (oE (xC (.int 0))) (vCons (oE (xTup (vCons (oE (xC (.bool false))) (vNil)))) (vNil)))))) (vCons (oE (xCallD x_is_loads (vCons (oE (xVar 6)) (vCons (oE (xC (.int 0))) (vCons (oE (xTup (vCons (oE (xC (.int 0))) (vNil)))) (vNil)))))) (vNil)))))) vNil))))
    (ySeq (ySet 5 (xB gAdd (vCons (oN 5) (vCons (oE (xLst (vCons (oE (xC (.bool true))) (vCons (oE (xC (.bool false))) (vCons (oE (xC (.bool false))) (vCons (oE (xC (.bool false))) (vCons (oE (xC (.bool true))) (vNil)))))))) vNil))))
    (ySeq (ySet 7 (xTup (vCons (oE (xTup (vCons (oE (xC (.str "a"))) (vCons (oE (xC (.int 0))) (vCons (oE (xC (.int 1))) (vNil)))))) (vCons (oE (xTup (vCons (oE (xC (.str "b"))) (vCons (oE (xC (.int 1))) (vCons (oE (xC (.int 2))) (vNil)))))) (vCons (oE (xTup (vCons (oE (xC (.str "c"))) (vCons (oE (xC (.int 0))) (vCons (oE (xC (.int 2))) (vNil)))))) (vNil))))))
    (ySeq (ySet 4 (xB gAdd (vCons (oN 4) (vCons (oE (xLst (vCons (oE (xCallD x_is_loads (vCons (oE (xVar 7)) (vCons (oE (xC (.int 5))) (vCons (oE (xTup (vCons (oE (xC (.int 2))) (vCons (oE (xC (.int 2))) (vCons (oE (xC (.int 3))) (vNil)))))) (vNil)))))) (vCons (oE (xCallD x_is_loads (vCons (oE (xVar 7)) (vCons (oE (xC (.int 5))) (vCons (oE (xTup (vCons (oE (xC (.int 2))) (vCons (oE (xC (.int 3))) (vCons (oE (xC (.int 2))) (vNil)))))) (vNil)))))) (vCons (oE (xCallD x_is_loads (vCons (oE (xVar 7)) (vCons (oE (xC (.int 5))) (vCons (oE (xTup (vCons (oE (xC (.int 5))) (vCons (oE (xC (.int 5))) (vCons (oE (xC (.int 0))) (vNil)))))) (vNil)))))) (vNil)))))) vNil))))
    (ySeq (ySet 5 (xB gAdd (vCons (oN 5) (vCons (oE (xLst (vCons (oE (xC (.bool true))) (vCons (oE (xC (.bool false))) (vCons (oE (xC (.bool true))) (vNil)))))) vNil))))
    (ySeq (ySet 8 (xB gTuple (vCons (oE (xLc [3] (zSeq (oE (xC (.str "abcdefghijklmnopqrstuvwx")))) (gN 3) (tYesX) (xTup (vCons (oE (xVar 3)) (vCons (oE (xC (.int 0))) (vCons (oE (xC (.int 1))) (vNil))))))) (vNil))))
    (ySeq (ySet 4 (xB gAdd (vCons (oN 4) (vCons (oE (xLst (vCons (oE (xCallD x_is_loads (vCons (oE (xVar 8)) (vCons (oE (xB gMul (vCons (oE (xC (.int 24))) (vCons (oE (xB gPow (vCons (oE (xC (.int 10))) (vCons (oE (xC (.int 28))) vNil)))) vNil)))) (vCons (oE (xB gMul (vCons (oE (xTup (vCons (oE (xB gPow (vCons (oE (xC (.int 10))) (vCons (oE (xC (.int 28))) vNil)))) (vNil)))) (vCons (oE (xC (.int 24))) vNil)))) (vNil)))))) (vCons (oE (xCallD x_is_loads (vCons (oE (xVar 8)) (vCons (oE (xC (.int 23))) (vCons (oE (xB gMul (vCons (oE (xTup (vCons (oE (xC (.int 1))) (vNil)))) (vCons (oE (xC (.int 24))) vNil)))) (vNil)))))) (vNil))))) vNil))))
    (yRet (xCallD (x__law_same 8) (vCons (oE (xVar 4)) (vCons (oE (xB gAdd (vCons (oN 5) (vCons (oE (xLst (vCons (oE (xC (.bool true))) (vCons (oE (xC (.bool false))) (vNil))))) vNil)))) (vNil))))))))))))))))))))))
theorem okF__law_by_hand_right {f : Addr} {fd : FuncData} (B : Bn mg) (Z : Ez P w K mg base ce) (F_is_loads : Fk P w K mg base ce s_is_loads 6 "is_loads" ["net", "goers", "thing"] x_is_loads) (F__law_same : Fk P w K mg base ce s__law_same 12 "_law_same" ["_law_got", "_law_due"] (x__law_same 8)) (F : Fun K "_law_by_hand_right" "_law_by_hand_right" s__law_by_hand_right f fd) : FnOk P w K mg base (L2.CX P w) 13 f fd [] (spX ce 0 x__law_by_hand_right) :=
  have sc := sc__law_by_hand_right
  fn_ok F sc__law_by_hand_right fun cdv A outer s H E O hr =>
    (dss_cons (ds_parG rfl (.cons (i := 0) sc.nd rfl (by first | exact Or.inl rfl | exact Or.inr rfl) (by first | exact .inl rfl | exact .inr rfl) rfl (.cons (i := 1) sc.nd rfl (by first | exact Or.inl rfl | exact Or.inr rfl) (by first | exact .inl rfl | exact .inr rfl) rfl .nil)) rfl (by decide) (rs_cons (de_tup (as_cons (op_e (de_tup (as_cons (op_e de_str) (as_cons (op_e de_int) (as_cons (op_e de_int) as_nil))))) (as_cons (op_e (de_tup (as_cons (op_e de_str) (as_cons (op_e de_int) (as_cons (op_e de_int) as_nil))))) (as_cons (op_e (de_tup (as_cons (op_e de_str) (as_cons (op_e de_int) (as_cons (op_e de_int) as_nil))))) (as_cons (op_e (de_tup (as_cons (op_e de_str) (as_cons (op_e de_int) (as_cons (op_e de_int) as_nil))))) (as_cons (op_e (de_tup (as_cons (op_e de_str) (as_cons (op_e de_int) (as_cons (op_e de_int) as_nil))))) as_nil)))))) (rs_cons (de_op op_pow bok_pow (op_e de_int) (op_e de_int)) rs_nil)) (lenIs_cons (lenIs_cons lenIs_nil)))
      (dss_cons (ds_set (i := 2) sc.nd rfl (by first | exact Or.inl rfl | exact Or.inr rfl) (de_lst (as_cons (op_e (de_tup (as_cons (op_e de_int) (as_cons (op_e de_int) (as_cons (op_e de_int) (as_cons (op_e de_int) (as_cons (op_e de_int) as_nil))))))) (as_cons (op_e (de_tup (as_cons (op_e de_int) (as_cons (op_e de_int) (as_cons (op_e de_int) (as_cons (op_e de_int) (as_cons (op_e de_int) as_nil))))))) (as_cons (op_e (de_tup (as_cons (op_e de_int) (as_cons (op_e de_int) (as_cons (op_e de_int) (as_cons (op_e de_int) (as_cons (op_e de_int) as_nil))))))) (as_cons (op_e (de_tup (as_cons (op_e de_int) (as_cons (op_e de_int) (as_cons (op_e de_int) (as_cons (op_e de_int) (as_cons (op_e de_int) as_nil))))))) (as_cons (op_e (de_lst (as_cons (op_e de_int) (as_cons (op_e de_int) (as_cons (op_e de_int) (as_cons (op_e de_int) (as_cons (op_e de_int) as_nil))))))) (as_cons (op_e (de_tup (as_cons (op_e de_int) (as_cons (op_e de_int) (as_cons (op_e de_int) (as_cons (op_e de_int) (as_cons (op_e de_int) as_nil))))))) as_nil))))))))
      (dss_cons (ds_set (i := 2) sc.nd rfl (by first | exact Or.inl rfl | exact Or.inr rfl) (de_op op_addA bok_add (op_n 2 (pv 2)) (op_e (de_lst (as_cons (op_e (de_tup (as_cons (op_e de_int) (as_cons (op_e de_int) (as_cons (op_e de_int) (as_cons (op_e de_int) (as_cons (op_e de_int) as_nil))))))) (as_cons (op_e (de_tup (as_cons (op_e de_int) (as_cons (op_e de_int) (as_cons (op_e de_int) (as_cons (op_e de_int) (as_cons (op_e de_int) as_nil))))))) (as_cons (op_e (de_tup (as_cons (op_e de_int) (as_cons (op_e de_int) (as_cons (op_e de_int) (as_cons (op_e (de_un un_neg bok_neg (op_e de_int))) (as_cons (op_e de_int) as_nil))))))) (as_cons (op_e (de_tup (as_cons (op_e de_int) (as_cons (op_e de_int) (as_cons (op_e de_int) (as_cons (op_e de_int) as_nil)))))) (as_cons (op_e (de_tup (as_cons (op_e de_int) (as_cons (op_e de_int) (as_cons (op_e de_int) (as_cons (op_e de_int) (as_cons (op_e de_int) (as_cons (op_e de_int) as_nil)))))))) (as_cons (op_e de_non) (as_cons (op_e de_int) as_nil)))))))))))
      (dss_cons (ds_set (i := 2) sc.nd rfl (by first | exact Or.inl rfl | exact Or.inr rfl) (de_op op_addA bok_add (op_n 2 (pv 2)) (op_e (de_lst (as_cons (op_e (de_tup (as_cons (op_e de_int) (as_cons (op_e de_bl) (as_cons (op_e de_int) (as_cons (op_e de_int) (as_cons (op_e de_int) as_nil))))))) (as_cons (op_e (de_tup (as_cons (op_e de_int) (as_cons (op_e de_int) (as_cons (op_e de_int) (as_cons (op_e de_int) (as_cons (op_e de_str) as_nil))))))) (as_cons (op_e (de_tup (as_cons (op_e (de_tup (as_cons (op_e de_int) as_nil))) (as_cons (op_e de_int) (as_cons (op_e de_int) (as_cons (op_e de_int) (as_cons (op_e de_int) as_nil))))))) (as_cons (op_e (de_tup (as_cons (op_e de_int) (as_cons (op_e de_int) (as_cons (op_e de_int) (as_cons (op_e de_non) (as_cons (op_e de_int) as_nil))))))) (as_cons (op_e de_str) (as_cons (op_e (de_tup as_nil)) as_nil))))))))))
      (dss_cons (ds_setLc (i := 4) [("_law_own", 3)] rfl sc.nd rfl rfl rfl (di_seq (op_n 2 (pv 2))) (blk_of (by kernel_rfl)) (fun _ _ _ _ _ => (dg_name (i := 3) sc.nd rfl (by first | exact Or.inl rfl | exact Or.inr rfl) (by decide))) (fun _ _ _ _ _ => dts_nil) (fun _ _ _ _ _ => (de_cD F_is_loads (hr.mono (by decide)) takes0 (as_cons (op_e (de_var 0 (pv 0))) (as_cons (op_e de_int) (as_cons (op_e (de_var 3 (pv 3))) as_nil))))))
      (dss_cons (ds_set (i := 5) sc.nd rfl (by first | exact Or.inl rfl | exact Or.inr rfl) (de_op op_addA bok_add (op_e (de_repN (de_lst (as_cons (op_e de_bl) as_nil)) de_int)) (op_e (de_repN (de_lst (as_cons (op_e de_bl) as_nil)) de_int))))
      (dss_cons (ds_set (i := 4) sc.nd rfl (by first | exact Or.inl rfl | exact Or.inr rfl) (de_op op_addA bok_add (op_n 4 (pv 4)) (op_e (de_lst (as_cons (op_e (de_cD F_is_loads (hr.mono (by decide)) (takes_of rfl rfl rfl rfl) (as_cons (op_e (de_var 0 (pv 0))) (as_cons (op_e de_int) (as_cons (op_e (de_op op_mulA bok_mul (op_e (de_tup (as_cons (op_e de_int) as_nil))) (op_e de_int))) as_nil))))) (as_cons (op_e (de_cD F_is_loads (hr.mono (by decide)) (takes_of rfl rfl rfl rfl) (as_cons (op_e (de_var 0 (pv 0))) (as_cons (op_e de_int) (as_cons (op_e (de_op op_mulA bok_mul (op_e (de_tup (as_cons (op_e de_int) as_nil))) (op_e de_int))) as_nil))))) (as_cons (op_e (de_cD F_is_loads (hr.mono (by decide)) (takes_of rfl rfl rfl rfl) (as_cons (op_e (de_var 0 (pv 0))) (as_cons (op_e de_int) (as_cons (op_e (de_tup as_nil)) as_nil))))) as_nil)))))))
      (dss_cons (ds_set (i := 5) sc.nd rfl (by first | exact Or.inl rfl | exact Or.inr rfl) (de_op op_addA bok_add (op_n 5 (pv 5)) (op_e (de_lst (as_cons (op_e de_bl) (as_cons (op_e de_bl) (as_cons (op_e de_bl) as_nil)))))))
      (dss_cons (ds_set (i := 6) sc.nd rfl (by first | exact Or.inl rfl | exact Or.inr rfl) (de_tup (as_cons (op_e (de_tup (as_cons (op_e de_str) (as_cons (op_e de_int) (as_cons (op_e de_int) as_nil))))) as_nil)))
      (dss_cons (ds_set (i := 4) sc.nd rfl (by first | exact Or.inl rfl | exact Or.inr rfl) (de_op op_addA bok_add (op_n 4 (pv 4)) (op_e (de_lst (as_cons (op_e (de_cD F_is_loads (hr.mono (by decide)) (takes_of rfl rfl rfl rfl) (as_cons (op_e (de_var 6 (pv 6))) (as_cons (op_e (de_var 1 (pv 1))) (as_cons (op_e (de_tup (as_cons (op_e (de_var 1 (pv 1))) as_nil))) as_nil))))) (as_cons (op_e (de_cD F_is_loads (hr.mono (by decide)) (takes_of rfl rfl rfl rfl) (as_cons (op_e (de_var 6 (pv 6))) (as_cons (op_e (de_var 1 (pv 1))) (as_cons (op_e (de_tup (as_cons (op_e (de_op op_sub bok_sub (op_n 1 (pv 1)) (op_e de_int))) as_nil))) as_nil))))) as_nil))))))
      (dss_cons (ds_set (i := 4) sc.nd rfl (by first | exact Or.inl rfl | exact Or.inr rfl) (de_op op_addA bok_add (op_n 4 (pv 4)) (op_e (de_lst (as_cons (op_e (de_cD F_is_loads (hr.mono (by decide)) (takes_of rfl rfl rfl rfl) (as_cons (op_e (de_var 6 (pv 6))) (as_cons (op_e de_int) (as_cons (op_e (de_tup (as_cons (op_e de_bl) as_nil))) as_nil))))) (as_cons (op_e (de_cD F_is_loads (hr.mono (by decide)) (takes_of rfl rfl rfl rfl) (as_cons (op_e (de_var 6 (pv 6))) (as_cons (op_e de_int) (as_cons (op_e (de_tup (as_cons (op_e de_bl) as_nil))) as_nil))))) (as_cons (op_e (de_cD F_is_loads (hr.mono (by decide)) (takes_of rfl rfl rfl rfl) (as_cons (op_e (de_var 6 (pv 6))) (as_cons (op_e de_int) (as_cons (op_e (de_tup (as_cons (op_e de_int) as_nil))) as_nil))))) as_nil)))))))
      (dss_cons (ds_set (i := 5) sc.nd rfl (by first | exact Or.inl rfl | exact Or.inr rfl) (de_op op_addA bok_add (op_n 5 (pv 5)) (op_e (de_lst (as_cons (op_e de_bl) (as_cons (op_e de_bl) (as_cons (op_e de_bl) (as_cons (op_e de_bl) (as_cons (op_e de_bl) as_nil)))))))))
      (dss_cons (ds_set (i := 7) sc.nd rfl (by first | exact Or.inl rfl | exact Or.inr rfl) (de_tup (as_cons (op_e (de_tup (as_cons (op_e de_str) (as_cons (op_e de_int) (as_cons (op_e de_int) as_nil))))) (as_cons (op_e (de_tup (as_cons (op_e de_str) (as_cons (op_e de_int) (as_cons (op_e de_int) as_nil))))) (as_cons (op_e (de_tup (as_cons (op_e de_str) (as_cons (op_e de_int) (as_cons (op_e de_int) as_nil))))) as_nil)))))
      (dss_cons (ds_set (i := 4) sc.nd rfl (by first | exact Or.inl rfl | exact Or.inr rfl) (de_op op_addA bok_add (op_n 4 (pv 4)) (op_e (de_lst (as_cons (op_e (de_cD F_is_loads (hr.mono (by decide)) (takes_of rfl rfl rfl rfl) (as_cons (op_e (de_var 7 (pv 7))) (as_cons (op_e de_int) (as_cons (op_e (de_tup (as_cons (op_e de_int) (as_cons (op_e de_int) (as_cons (op_e de_int) as_nil))))) as_nil))))) (as_cons (op_e (de_cD F_is_loads (hr.mono (by decide)) (takes_of rfl rfl rfl rfl) (as_cons (op_e (de_var 7 (pv 7))) (as_cons (op_e de_int) (as_cons (op_e (de_tup (as_cons (op_e de_int) (as_cons (op_e de_int) (as_cons (op_e de_int) as_nil))))) as_nil))))) (as_cons (op_e (de_cD F_is_loads (hr.mono (by decide)) (takes_of rfl rfl rfl rfl) (as_cons (op_e (de_var 7 (pv 7))) (as_cons (op_e de_int) (as_cons (op_e (de_tup (as_cons (op_e de_int) (as_cons (op_e de_int) (as_cons (op_e de_int) as_nil))))) as_nil))))) as_nil)))))))
      (dss_cons (ds_set (i := 5) sc.nd rfl (by first | exact Or.inl rfl | exact Or.inr rfl) (de_op op_addA bok_add (op_n 5 (pv 5)) (op_e (de_lst (as_cons (op_e de_bl) (as_cons (op_e de_bl) (as_cons (op_e de_bl) as_nil)))))))
      (dss_cons (ds_set (i := 8) sc.nd rfl (by first | exact Or.inl rfl | exact Or.inr rfl) (de_T call_tuple_of bok_tuple B.b_tuple bb_tuple (as_cons (op_e (de_lc [("_law_own", 3)] rfl sc.nd (di_seq (op_e de_str)) (blk_of (by kernel_rfl)) (fun _ _ _ _ _ => (dg_name (i := 3) sc.nd rfl (by first | exact Or.inl rfl | exact Or.inr rfl) (by decide))) (fun _ _ _ _ _ => dts_nil) (fun _ _ _ _ _ => (de_tup (as_cons (op_e (de_var 3 (pv 3))) (as_cons (op_e de_int) (as_cons (op_e de_int) as_nil))))))) as_nil)))
      (dss_cons (ds_set (i := 4) sc.nd rfl (by first | exact Or.inl rfl | exact Or.inr rfl) (de_op op_addA bok_add (op_n 4 (pv 4)) (op_e (de_lst (as_cons (op_e (de_cD F_is_loads (hr.mono (by decide)) (takes_of rfl rfl rfl rfl) (as_cons (op_e (de_var 8 (pv 8))) (as_cons (op_e (de_op op_mulA bok_mul (op_e de_int) (op_e (de_op op_pow bok_pow (op_e de_int) (op_e de_int))))) (as_cons (op_e (de_op op_mulA bok_mul (op_e (de_tup (as_cons (op_e (de_op op_pow bok_pow (op_e de_int) (op_e de_int))) as_nil))) (op_e de_int))) as_nil))))) (as_cons (op_e (de_cD F_is_loads (hr.mono (by decide)) (takes_of rfl rfl rfl rfl) (as_cons (op_e (de_var 8 (pv 8))) (as_cons (op_e de_int) (as_cons (op_e (de_op op_mulA bok_mul (op_e (de_tup (as_cons (op_e de_int) as_nil))) (op_e de_int))) as_nil))))) as_nil))))))
      (dss_one (ds_ret (de_cD F__law_same (hr.mono (by decide)) (takes_of rfl rfl rfl rfl) (as_cons (op_e (de_var 4 (pv 4))) (as_cons (op_e (de_op op_addA bok_add (op_n 5 (pv 5)) (op_e (de_lst (as_cons (op_e de_bl) (as_cons (op_e de_bl) as_nil)))))) as_nil))))))))))))))))))))))
theorem ok__law_by_hand_right {f : Addr} {fd : FuncData} (B : Bn mg) (Z : Ez P w K mg base ce) (F_is_loads : Fk P w K mg base ce s_is_loads 6 "is_loads" ["net", "goers", "thing"] x_is_loads) (F__law_same : Fk P w K mg base ce s__law_same 12 "_law_same" ["_law_got", "_law_due"] (x__law_same 8)) (F : Fun K "_law_by_hand_right" "_law_by_hand_right" s__law_by_hand_right f fd) (hm : mg "_law_by_hand_right" = some (.ref f)) : Fk P w K mg base ce s__law_by_hand_right 13 "_law_by_hand_right" [] x__law_by_hand_right := fk_mk F hm (fun _ _ _ _ _ _ us hl => match us, hl with | [], _ => rfl) (okF__law_by_hand_right B Z F_is_loads F__law_same F)
abbrev s__law_right : Stmt := topS 26
theorem sc__law_right : FnScope ["_law_box_here", "_law_turn"] ["_law_box_here"] (defScope s__law_right) := ⟨rfl, rfl, rfl, by decide +kernel, rfl, by decide +kernel, by decide +kernel⟩
def x__law_right : Fx := fnX 1 2
   (yRet (xB gAll (vCons (oE (xLc [1] (zRg1 (vCons (oE (xC (.int 4))) (vNil))) (gN 1) (tYesX) (xCallB 0 x__law_case_right (vCons (oN 0) (vCons (oE (xCallB 0 x__law_size (vCons (oN 0) (vNil)))) (vNil)))))) (vNil))))
theorem okF__law_right {f : Addr} {fd : FuncData} (B : Bn mg) (Z : Ez P w K mg base ce) (F__law_size : Fk P w K mg base ce s__law_size 8 "_law_size" ["_law_box_here"] x__law_size) (F__law_case_right : Fk P w K mg base ce s__law_case_right 13 "_law_case_right" ["_law_box_here", "_law_net_so"] x__law_case_right) (F : Fun K "_law_right" "_law_right" s__law_right f fd) : FnOk P w K mg base (L2.CX P w) 14 f fd ["_law_box_here"] (spX ce 1 x__law_right) :=
  have sc := sc__law_right
  fn_ok F sc__law_right fun cdv A outer s H E O hr =>
    (dss_one (ds_ret (de_B (cr_all rfl) bok_all B.b_all bb_all (as_cons (op_e (de_lc [("_law_turn", 1)] rfl sc.nd (di_rg1 B.b_range (as_cons (op_e de_int) as_nil)) (blk_of (by kernel_rfl)) (fun _ _ _ _ _ => (dg_name (i := 1) sc.nd rfl (by first | exact Or.inl rfl | exact Or.inr rfl) (by decide))) (fun _ _ _ _ _ => dts_nil) (fun _ _ _ _ _ => (de_cB 0 F__law_case_right (hr.mono (by decide)) takes0 (as_cons (op_n 0 (pv 0)) (as_cons (op_e (de_cB 0 F__law_size (hr.mono (by decide)) takes0 (as_cons (op_n 0 (pv 0)) as_nil))) as_nil)))))) as_nil))))
theorem ok__law_right {f : Addr} {fd : FuncData} (B : Bn mg) (Z : Ez P w K mg base ce) (F__law_size : Fk P w K mg base ce s__law_size 8 "_law_size" ["_law_box_here"] x__law_size) (F__law_case_right : Fk P w K mg base ce s__law_case_right 13 "_law_case_right" ["_law_box_here", "_law_net_so"] x__law_case_right) (F : Fun K "_law_right" "_law_right" s__law_right f fd) (hm : mg "_law_right" = some (.ref f)) : Fk P w K mg base ce s__law_right 14 "_law_right" ["_law_box_here"] x__law_right := fk_mk F hm (fun _ _ _ _ _ _ us hl => match us, hl with | [_], _ => rfl) (okF__law_right B Z F__law_size F__law_case_right F)
abbrev s_law : Stmt := topS 27
theorem sc_law : FnScope ["_law_script", "_law_cells_here", "_law_k"] ["_law_script"] (defScope s_law) := ⟨rfl, rfl, rfl, by decide +kernel, rfl, by decide +kernel, by decide +kernel⟩
def x_law : Fx := fnX 1 3
   (ySeq (yIf (xNot (xTru (oE (xCallD x__law_by_hand_right vNil)))) (yRet (xC (.bool false))) (yPass))
    (ySeq (ySet 1 (xCallD x__law_cells (vCons (oE (xVar 0)) (vCons (oE (xC (.int 3))) (vNil)))))
    (yRet (xB gAll (vCons (oE (xLc [2] (zRg1 (vCons (oE (xB gLen (vCons (oN 1) (vNil)))) (vNil))) (gN 2) (tYesX) (xCallN x__law_right (xCallD x__law_box (vCons (oE (xVar 1)) (vCons (oE (xVar 2)) (vNil))))))) (vNil))))))
theorem okF_law {f : Addr} {fd : FuncData} (B : Bn mg) (Z : Ez P w K mg base ce) (F__law_box : Fk P w K mg base ce s__law_box 4 "_law_box" ["_law_script", "_law_k"] x__law_box) (F__law_cells : Fk P w K mg base ce s__law_cells 4 "_law_cells" ["_law_script", "_law_top_so"] x__law_cells) (F__law_by_hand_right : Fk P w K mg base ce s__law_by_hand_right 13 "_law_by_hand_right" [] x__law_by_hand_right) (F__law_right : Fk P w K mg base ce s__law_right 14 "_law_right" ["_law_box_here"] x__law_right) (F : Fun K "law" "law" s_law f fd) : FnOk P w K mg base (L2.CX P w) 15 f fd ["_law_script"] (spX ce 1 x_law) :=
  have sc := sc_law
  fn_ok F sc_law fun cdv A outer s H E O hr =>
    (dss_cons (ds_if (dt_not (dt_tru (op_e (de_c0 F__law_by_hand_right (hr.mono (by decide)) (takes_of rfl rfl rfl rfl))))) (dss_one (ds_ret de_bl)) dss_nil)
      (dss_cons (ds_set (i := 1) sc.nd rfl (by first | exact Or.inl rfl | exact Or.inr rfl) (de_cD F__law_cells (hr.mono (by decide)) (takes_of rfl rfl rfl rfl) (as_cons (op_e (de_var 0 (pv 0))) (as_cons (op_e de_int) as_nil))))
      (dss_one (ds_ret (de_B (cr_all rfl) bok_all B.b_all bb_all (as_cons (op_e (de_lc [("_law_k", 2)] rfl sc.nd (di_rg1 B.b_range (as_cons (op_e (de_B call_lenA bok_len B.b_len bb_len (as_cons (op_n 1 (pv 1)) as_nil))) as_nil)) (blk_of (by kernel_rfl)) (fun _ _ _ _ _ => (dg_name (i := 2) sc.nd rfl (by first | exact Or.inl rfl | exact Or.inr rfl) (by decide))) (fun _ _ _ _ _ => dts_nil) (fun _ _ _ _ _ => (de_cN F__law_right (hr.mono (by decide)) takes0 (de_cD F__law_box (hr.mono (by decide)) takes0 (as_cons (op_e (de_var 1 (pv 1))) (as_cons (op_e (de_var 2 (pv 2))) as_nil))))))) as_nil))))))
theorem ok_law {f : Addr} {fd : FuncData} (B : Bn mg) (Z : Ez P w K mg base ce) (F__law_box : Fk P w K mg base ce s__law_box 4 "_law_box" ["_law_script", "_law_k"] x__law_box) (F__law_cells : Fk P w K mg base ce s__law_cells 4 "_law_cells" ["_law_script", "_law_top_so"] x__law_cells) (F__law_by_hand_right : Fk P w K mg base ce s__law_by_hand_right 13 "_law_by_hand_right" [] x__law_by_hand_right) (F__law_right : Fk P w K mg base ce s__law_right 14 "_law_right" ["_law_box_here"] x__law_right) (F : Fun K "law" "law" s_law f fd) (hm : mg "law" = some (.ref f)) : Fk P w K mg base ce s_law 15 "law" ["_law_script"] x_law := fk_mk F hm (fun _ _ _ _ _ _ us hl => match us, hl with | [_], _ => rfl) (okF_law B Z F__law_box F__law_cells F__law_by_hand_right F__law_right F)
end
end Lw
end

section
set_option Elab.async false
set_option linter.all false
set_option maxRecDepth 100000
set_option maxHeartbeats 0
namespace Lw
open PySem PySem.Spec PyProof.Rows L2 Dl
def d_is_number : He.DefD := ⟨("is_number", none), "is_number", "is_number", defArgs s_is_number, defBody s_is_number, defScope s_is_number, [], []⟩
def d_is_count : He.DefD := ⟨("is_count", none), "is_count", "is_count", defArgs s_is_count, defBody s_is_count, defScope s_is_count, [], []⟩
def d_last_place : He.DefD := ⟨("last_place", none), "last_place", "last_place", defArgs s_last_place, defBody s_last_place, defScope s_last_place, [], []⟩
def d_is_loads : He.DefD := ⟨("is_loads", none), "is_loads", "is_loads", defArgs s_is_loads, defBody s_is_loads, defScope s_is_loads, [], []⟩
def d__law_box : He.DefD := ⟨("_law_box", none), "_law_box", "_law_box", defArgs s__law_box, defBody s__law_box, defScope s__law_box, [], []⟩
def d__law_take : He.DefD := ⟨("_law_take", none), "_law_take", "_law_take", defArgs s__law_take, defBody s__law_take, defScope s__law_take, [], []⟩
def d__law_cells : He.DefD := ⟨("_law_cells", none), "_law_cells", "_law_cells", defArgs s__law_cells, defBody s__law_cells, defScope s__law_cells, [], []⟩
def d__law_of : He.DefD := ⟨("_law_of", none), "_law_of", "_law_of", defArgs s__law_of, defBody s__law_of, defScope s__law_of, [], []⟩
def d__law_same : He.DefD := ⟨("_law_same", none), "_law_same", "_law_same", defArgs s__law_same, defBody s__law_same, defScope s__law_same, [], []⟩
def d__law_lists : He.DefD := ⟨("_law_lists", none), "_law_lists", "_law_lists", defArgs s__law_lists, defBody s__law_lists, defScope s__law_lists, [], []⟩
def d__law_mixed : He.DefD := ⟨("_law_mixed", none), "_law_mixed", "_law_mixed", defArgs s__law_mixed, defBody s__law_mixed, defScope s__law_mixed, [], []⟩
def d__law_tags : He.DefD := ⟨("_law_tags", none), "_law_tags", "_law_tags", defArgs s__law_tags, defBody s__law_tags, defScope s__law_tags, [], []⟩
def d__law_net : He.DefD := ⟨("_law_net", none), "_law_net", "_law_net", defArgs s__law_net, defBody s__law_net, defScope s__law_net, [], []⟩
def d__law_exit : He.DefD := ⟨("_law_exit", none), "_law_exit", "_law_exit", defArgs s__law_exit, defBody s__law_exit, defScope s__law_exit, [], []⟩
def d__law_ways : He.DefD := ⟨("_law_ways", none), "_law_ways", "_law_ways", defArgs s__law_ways, defBody s__law_ways, defScope s__law_ways, [], []⟩
def d__law_by_ways : He.DefD := ⟨("_law_by_ways", none), "_law_by_ways", "_law_by_ways", defArgs s__law_by_ways, defBody s__law_by_ways, defScope s__law_by_ways, [], []⟩
def d__law_lots : He.DefD := ⟨("_law_lots", none), "_law_lots", "_law_lots", defArgs s__law_lots, defBody s__law_lots, defScope s__law_lots, [], []⟩
def d__law_is_loads : He.DefD := ⟨("_law_is_loads", none), "_law_is_loads", "_law_is_loads", defArgs s__law_is_loads, defBody s__law_is_loads, defScope s__law_is_loads, [], []⟩
def d__law_size : He.DefD := ⟨("_law_size", none), "_law_size", "_law_size", defArgs s__law_size, defBody s__law_size, defScope s__law_size, [], []⟩
def d__law_bent : He.DefD := ⟨("_law_bent", none), "_law_bent", "_law_bent", defArgs s__law_bent, defBody s__law_bent, defScope s__law_bent, [], []⟩
def d__law_case_right : He.DefD := ⟨("_law_case_right", none), "_law_case_right", "_law_case_right", defArgs s__law_case_right, defBody s__law_case_right, defScope s__law_case_right, [], []⟩
def d__law_by_hand_right : He.DefD := ⟨("_law_by_hand_right", none), "_law_by_hand_right", "_law_by_hand_right", defArgs s__law_by_hand_right, defBody s__law_by_hand_right, defScope s__law_by_hand_right, [], []⟩
def d__law_right : He.DefD := ⟨("_law_right", none), "_law_right", "_law_right", defArgs s__law_right, defBody s__law_right, defScope s__law_right, [], []⟩
def d_law : He.DefD := ⟨("law", none), "law", "law", defArgs s_law, defBody s_law, defScope s_law, [], []⟩
def fnL0 : List He.DefD := [d_is_number, d_is_count, d_last_place, d_is_loads, d__law_box, d__law_take, d__law_cells, d__law_of, d__law_same, d__law_lists, d__law_mixed, d__law_tags, d__law_net, d__law_exit, d__law_ways, d__law_by_ways, d__law_lots, d__law_is_loads, d__law_size, d__law_bent, d__law_case_right, d__law_by_hand_right, d__law_right, d_law]
def fnL : List He.DefD := fnL0
def faL0 : List He.Fa := [.glo "is_number", .glo "is_count", .glo "last_place", .glo "is_loads", .glo "_law_box", .glo "_law_take", .glo "_law_cells", .glo "_law_of", .glo "_law_same", .glo "_law_lists", .glo "_law_mixed", .glo "_law_tags", .glo "_law_net", .glo "_law_exit", .glo "_law_ways", .glo "_law_by_ways", .glo "_law_lots", .glo "_law_is_loads", .glo "_law_size", .glo "_law_bent", .glo "_law_case_right", .glo "_law_by_hand_right", .glo "_law_right", .glo "law", .free "abs", .free "all", .free "any", .free "bool", .free "enumerate", .free "int"]
def faL1 : List He.Fa := [.free "isinstance", .free "len", .free "list", .free "max", .free "range", .free "sorted", .free "str", .free "sum", .free "tuple", .free "zip"]
def faL : List He.Fa := faL0 ++ faL1
def ceN : List Str := []
def ceOf (K : PySem.W.Frag) (n : Nat) : Addr := He.ga K (ceN.getD n "law")
def ckL (K : PySem.W.Frag) : List Bool := [noLst K]
def ckB (K : PySem.W.Frag) : Bool := (ckL K).all id
theorem ck_at {K : PySem.W.Frag} (h : ckB K = true) (i : Nat) {b : Bool} (e : (ckL K)[i]? = some b := by rfl) : b = true := List.all_eq_true.mp h b (List.mem_of_getElem? e)
abbrev Rw : PySem.W.OpenRow := PySem.W.OpenLaw.row PySem.Challenge.rw_slowedsteps_k32_loads_or_not
abbrev hk : PySem.W.Hook := hookE 5 faL fnL ckB
def obL (s : PySem.W.SharedT) : He.AlD × Bool := obsEG 5 faL fnL ckB (HandSHeadRun.getT s)
theorem obL_eq (s : PySem.W.SharedT) : obL s = hk.obs s.abs := obsEG_eq (HandSHeadRun.getT_eq s)
def loL0 : List PySem.Str := ["is_number", "is_count", "last_place", "is_loads", "_law_box", "_law_take", "_law_cells", "_law_of", "_law_same", "_law_lists", "_law_mixed", "_law_tags", "_law_net", "_law_exit", "_law_ways", "_law_by_ways", "_law_lots", "_law_is_loads", "_law_size", "_law_bent", "_law_case_right", "_law_by_hand_right", "_law_right"]
def loL : List PySem.Str := loL0
theorem runL (w : World) : HandSHeadRun.RunEq Rw (PySem.W.view Rw.prog [27]) hk obL 4000 loL w := by
  intro os
  kernel_rfl
theorem factsL {P : Program} {w : World} {K : PySem.W.Frag} {h : Heap} {mg : Str → Option Value} {f : Addr} (X : K.In h) (G : h.Ns mainGlobals mg) (hfa : mg "law" = some (.ref f)) (c : He.SaysD faL fnL K) (ck : ckB K = true) :
    ∃ fd : FuncData, (∀ (s : Shared) (v : Value), BindsTo s fd ⟨[v], []⟩ [("_law_script", v)]) ∧ ∀ base : Heap, K.In base → base.Ns mainGlobals mg → FnOk P w K mg base (L2.CX P w) 15 f fd ["_law_script"] (spX (ceOf K) 1 x_law) := by
  obtain ⟨_, D0⟩ := c.def_ 0 (d := d_is_number) rfl
  have R0 : Fun K "is_number" "is_number" s_is_number _ _ := funD_fun D0
  have m0 := He.glo_ok X G (c.fact 0 (f := .glo "is_number") rfl)
  obtain ⟨_, D1⟩ := c.def_ 1 (d := d_is_count) rfl
  have R1 : Fun K "is_count" "is_count" s_is_count _ _ := funD_fun D1
  have m1 := He.glo_ok X G (c.fact 1 (f := .glo "is_count") rfl)
  obtain ⟨_, D2⟩ := c.def_ 2 (d := d_last_place) rfl
  have R2 : Fun K "last_place" "last_place" s_last_place _ _ := funD_fun D2
  have m2 := He.glo_ok X G (c.fact 2 (f := .glo "last_place") rfl)
  obtain ⟨_, D3⟩ := c.def_ 3 (d := d_is_loads) rfl
  have R3 : Fun K "is_loads" "is_loads" s_is_loads _ _ := funD_fun D3
  have m3 := He.glo_ok X G (c.fact 3 (f := .glo "is_loads") rfl)
  obtain ⟨_, D4⟩ := c.def_ 4 (d := d__law_box) rfl
  have R4 : Fun K "_law_box" "_law_box" s__law_box _ _ := funD_fun D4
  have m4 := He.glo_ok X G (c.fact 4 (f := .glo "_law_box") rfl)
  obtain ⟨_, D5⟩ := c.def_ 5 (d := d__law_take) rfl
  have R5 : Fun K "_law_take" "_law_take" s__law_take _ _ := funD_fun D5
  have m5 := He.glo_ok X G (c.fact 5 (f := .glo "_law_take") rfl)
  obtain ⟨_, D6⟩ := c.def_ 6 (d := d__law_cells) rfl
  have R6 : Fun K "_law_cells" "_law_cells" s__law_cells _ _ := funD_fun D6
  have m6 := He.glo_ok X G (c.fact 6 (f := .glo "_law_cells") rfl)
  obtain ⟨_, D7⟩ := c.def_ 7 (d := d__law_of) rfl
  have R7 : Fun K "_law_of" "_law_of" s__law_of _ _ := funD_fun D7
  have m7 := He.glo_ok X G (c.fact 7 (f := .glo "_law_of") rfl)
  obtain ⟨_, D8⟩ := c.def_ 8 (d := d__law_same) rfl
  have R8 : Fun K "_law_same" "_law_same" s__law_same _ _ := funD_fun D8
  have m8 := He.glo_ok X G (c.fact 8 (f := .glo "_law_same") rfl)
  obtain ⟨_, D9⟩ := c.def_ 9 (d := d__law_lists) rfl
  have R9 : Fun K "_law_lists" "_law_lists" s__law_lists _ _ := funD_fun D9
  have m9 := He.glo_ok X G (c.fact 9 (f := .glo "_law_lists") rfl)
  obtain ⟨_, D10⟩ := c.def_ 10 (d := d__law_mixed) rfl
  have R10 : Fun K "_law_mixed" "_law_mixed" s__law_mixed _ _ := funD_fun D10
  have m10 := He.glo_ok X G (c.fact 10 (f := .glo "_law_mixed") rfl)
  obtain ⟨_, D11⟩ := c.def_ 11 (d := d__law_tags) rfl
  have R11 : Fun K "_law_tags" "_law_tags" s__law_tags _ _ := funD_fun D11
  have m11 := He.glo_ok X G (c.fact 11 (f := .glo "_law_tags") rfl)
  obtain ⟨_, D12⟩ := c.def_ 12 (d := d__law_net) rfl
  have R12 : Fun K "_law_net" "_law_net" s__law_net _ _ := funD_fun D12
  have m12 := He.glo_ok X G (c.fact 12 (f := .glo "_law_net") rfl)
  obtain ⟨_, D13⟩ := c.def_ 13 (d := d__law_exit) rfl
  have R13 : Fun K "_law_exit" "_law_exit" s__law_exit _ _ := funD_fun D13
  have m13 := He.glo_ok X G (c.fact 13 (f := .glo "_law_exit") rfl)
  obtain ⟨_, D14⟩ := c.def_ 14 (d := d__law_ways) rfl
  have R14 : Fun K "_law_ways" "_law_ways" s__law_ways _ _ := funD_fun D14
  have m14 := He.glo_ok X G (c.fact 14 (f := .glo "_law_ways") rfl)
  obtain ⟨_, D15⟩ := c.def_ 15 (d := d__law_by_ways) rfl
  have R15 : Fun K "_law_by_ways" "_law_by_ways" s__law_by_ways _ _ := funD_fun D15
  have m15 := He.glo_ok X G (c.fact 15 (f := .glo "_law_by_ways") rfl)
  obtain ⟨_, D16⟩ := c.def_ 16 (d := d__law_lots) rfl
  have R16 : Fun K "_law_lots" "_law_lots" s__law_lots _ _ := funD_fun D16
  have m16 := He.glo_ok X G (c.fact 16 (f := .glo "_law_lots") rfl)
  obtain ⟨_, D17⟩ := c.def_ 17 (d := d__law_is_loads) rfl
  have R17 : Fun K "_law_is_loads" "_law_is_loads" s__law_is_loads _ _ := funD_fun D17
  have m17 := He.glo_ok X G (c.fact 17 (f := .glo "_law_is_loads") rfl)
  obtain ⟨_, D18⟩ := c.def_ 18 (d := d__law_size) rfl
  have R18 : Fun K "_law_size" "_law_size" s__law_size _ _ := funD_fun D18
  have m18 := He.glo_ok X G (c.fact 18 (f := .glo "_law_size") rfl)
  obtain ⟨_, D19⟩ := c.def_ 19 (d := d__law_bent) rfl
  have R19 : Fun K "_law_bent" "_law_bent" s__law_bent _ _ := funD_fun D19
  have m19 := He.glo_ok X G (c.fact 19 (f := .glo "_law_bent") rfl)
  obtain ⟨_, D20⟩ := c.def_ 20 (d := d__law_case_right) rfl
  have R20 : Fun K "_law_case_right" "_law_case_right" s__law_case_right _ _ := funD_fun D20
  have m20 := He.glo_ok X G (c.fact 20 (f := .glo "_law_case_right") rfl)
  obtain ⟨_, D21⟩ := c.def_ 21 (d := d__law_by_hand_right) rfl
  have R21 : Fun K "_law_by_hand_right" "_law_by_hand_right" s__law_by_hand_right _ _ := funD_fun D21
  have m21 := He.glo_ok X G (c.fact 21 (f := .glo "_law_by_hand_right") rfl)
  obtain ⟨_, D22⟩ := c.def_ 22 (d := d__law_right) rfl
  have R22 : Fun K "_law_right" "_law_right" s__law_right _ _ := funD_fun D22
  have m22 := He.glo_ok X G (c.fact 22 (f := .glo "_law_right") rfl)
  obtain ⟨_, D23⟩ := c.def_ 23 (d := d_law) rfl
  have R23 : Fun K "law" "law" s_law _ _ := funD_fun D23
  have m23 := He.glo_ok X G (c.fact 23 (f := .glo "law") rfl)
  have B : Bn mg := ⟨He.free_ok X G (c.fact 24 (f := .free "abs") rfl), He.free_ok X G (c.fact 25 (f := .free "all") rfl), He.free_ok X G (c.fact 26 (f := .free "any") rfl), He.free_ok X G (c.fact 27 (f := .free "bool") rfl), He.free_ok X G (c.fact 28 (f := .free "enumerate") rfl), He.free_ok X G (c.fact 29 (f := .free "int") rfl), He.free_ok X G (c.fact 30 (f := .free "isinstance") rfl), He.free_ok X G (c.fact 31 (f := .free "len") rfl), He.free_ok X G (c.fact 32 (f := .free "list") rfl), He.free_ok X G (c.fact 33 (f := .free "max") rfl), He.free_ok X G (c.fact 34 (f := .free "range") rfl), He.free_ok X G (c.fact 35 (f := .free "sorted") rfl), He.free_ok X G (c.fact 36 (f := .free "str") rfl), He.free_ok X G (c.fact 37 (f := .free "sum") rfl), He.free_ok X G (c.fact 38 (f := .free "tuple") rfl), He.free_ok X G (c.fact 39 (f := .free "zip") rfl)⟩
  have Z : ∀ base : Heap, Ez P w K mg base (ceOf K) := fun base => {
    tr := trivial
  }
  have F0 : ∀ base : Heap, Fk P w K mg base (ceOf K) s_is_number 4 "is_number" ["value"] x_is_number := fun base => ok_is_number B (Z base)  R0 m0
  have F1 : ∀ base : Heap, Fk P w K mg base (ceOf K) s_is_count 5 "is_count" ["value"] x_is_count := fun base => ok_is_count B (Z base) (F0 base) R1 m1
  have F2 : ∀ base : Heap, Fk P w K mg base (ceOf K) s_last_place 4 "last_place" ["net"] x_last_place := fun base => ok_last_place B (Z base)  R2 m2
  have F3 : ∀ base : Heap, Fk P w K mg base (ceOf K) s_is_loads 6 "is_loads" ["net", "goers", "thing"] x_is_loads := fun base => ok_is_loads B (Z base) (F1 base) (F2 base) R3 m3
  have F4 : ∀ base : Heap, Fk P w K mg base (ceOf K) s__law_box 4 "_law_box" ["_law_script", "_law_k"] x__law_box := fun base => ok__law_box B (Z base)  R4 m4
  have F5 : ∀ base : Heap, Fk P w K mg base (ceOf K) s__law_take 4 "_law_take" ["_law_box_here", "_law_below_so"] x__law_take := fun base => ok__law_take B (Z base)  R5 m5
  have F6 : ∀ base : Heap, Fk P w K mg base (ceOf K) s__law_cells 4 "_law_cells" ["_law_script", "_law_top_so"] x__law_cells := fun base => ok__law_cells B (Z base)  R6 m6
  have F7 : ∀ base : Heap, Fk P w K mg base (ceOf K) s__law_of 5 "_law_of" ["_law_box_here", "_law_pool_so"] x__law_of := fun base => ok__law_of B (Z base) (F5 base) R7 m7
  have F8 : ∀ base : Heap, Fk P w K mg base (ceOf K) s__law_same 12 "_law_same" ["_law_got", "_law_due"] (x__law_same 8) := fun base => ok__law_same B (Z base)  R8 m8 8
  have F9 : ∀ base : Heap, Fk P w K mg base (ceOf K) s__law_lists 12 "_law_lists" ["_law_matter_so"] (x__law_lists 8) := fun base => ok__law_lists B (Z base)  R9 m9 8
  have F10 : ∀ base : Heap, Fk P w K mg base (ceOf K) s__law_mixed 5 "_law_mixed" ["_law_box_here", "_law_rows_so"] x__law_mixed := fun base => ok__law_mixed B (Z base) (F5 base) R10 m10
  have F11 : ∀ base : Heap, Fk P w K mg base (ceOf K) s__law_tags 6 "_law_tags" ["_law_box_here", "_law_many_so"] x__law_tags := fun base => ok__law_tags B (Z base) (F5 base) (F7 base) (F10 base) R11 m11
  have F12 : ∀ base : Heap, Fk P w K mg base (ceOf K) s__law_net 7 "_law_net" ["_law_box_here", "_law_last_so", "_law_more_so"] x__law_net := fun base => ok__law_net B (Z base) (F5 base) (F11 base) R12 m12
  have F13 : ∀ base : Heap, Fk P w K mg base (ceOf K) s__law_exit 4 "_law_exit" ["_law_net_so"] x__law_exit := fun base => ok__law_exit B (Z base)  R13 m13
  have F14 : ∀ base : Heap, Fk P w K mg base (ceOf K) s__law_ways 5 "_law_ways" ["_law_net_so"] x__law_ways := fun base => ok__law_ways B (Z base) (F13 base) R14 m14
  have F15 : ∀ base : Heap, Fk P w K mg base (ceOf K) s__law_by_ways 4 "_law_by_ways" ["_law_net_so", "_law_lots_so"] x__law_by_ways := fun base => ok__law_by_ways B (Z base)  R15 m15
  have F16 : ∀ base : Heap, Fk P w K mg base (ceOf K) s__law_lots 6 "_law_lots" ["_law_box_here", "_law_net_so"] x__law_lots := fun base => ok__law_lots B (Z base) (F5 base) (F7 base) (F14 base) R16 m16
  have F17 : ∀ base : Heap, Fk P w K mg base (ceOf K) s__law_is_loads 5 "_law_is_loads" ["_law_net_so", "_law_many_so", "_law_matter_so"] x__law_is_loads := fun base => ok__law_is_loads B (Z base) (F13 base) R17 m17
  have F18 : ∀ base : Heap, Fk P w K mg base (ceOf K) s__law_size 8 "_law_size" ["_law_box_here"] x__law_size := fun base => ok__law_size B (Z base) (F5 base) (F12 base) R18 m18
  have F19 : ∀ base : Heap, Fk P w K mg base (ceOf K) s__law_bent 6 "_law_bent" ["_law_box_here", "_law_net_so", "_law_much_so"] x__law_bent := fun base => ok__law_bent B (Z base) (F5 base) (F14 base) R19 m19
  have F20 : ∀ base : Heap, Fk P w K mg base (ceOf K) s__law_case_right 13 "_law_case_right" ["_law_box_here", "_law_net_so"] x__law_case_right := fun base => ok__law_case_right B (Z base) (F3 base) (F8 base) (F9 base) (F15 base) (F16 base) (F17 base) (F19 base) R20 m20
  have F21 : ∀ base : Heap, Fk P w K mg base (ceOf K) s__law_by_hand_right 13 "_law_by_hand_right" [] x__law_by_hand_right := fun base => ok__law_by_hand_right B (Z base) (F3 base) (F8 base) R21 m21
  have F22 : ∀ base : Heap, Fk P w K mg base (ceOf K) s__law_right 14 "_law_right" ["_law_box_here"] x__law_right := fun base => ok__law_right B (Z base) (F18 base) (F20 base) R22 m22
  have e := hfa.symm.trans m23
  cases e
  have b := FunD.bindsA (ps := ["_law_script"]) D23 fun _ _ _ _ _ _ us hl => match us, hl with | [_], _ => rfl
  exact ⟨_, fun s v => b s [v] rfl, fun base _ _ => okF_law B (Z base) (F4 base) (F6 base) (F21 base) (F22 base) R23⟩
end Lw
end

section
set_option Elab.async false
set_option linter.all false
set_option maxRecDepth 100000
set_option maxHeartbeats 4000000
namespace Lw
open PySem PySem.Spec PyProof.Rows L2 Dl
local macro_rules | `(tactic| pv_eval) => `(tactic| try simp (config := {maxSteps := 10000000, implicitDefEqProofs := false}) (disch := first | omega | (simp only [List.length_append, List.length_cons, List.length_nil, List.length_map]; omega)) only [↓wp_val, ↓wp_none, ↓wp_ex, ↓wp_ret, ↓wp_bnd, ↓wp_lft, ↓wp_eD, ↓wp_oE, ↓wp_oN, ↓wp_vNil, ↓wp_vCons, ↓wp_xB, ↓wp_xC, ↓wp_xVar, ↓wp_xTst, ↓wp_xTru, ↓wp_tYes, ↓wp_xNot, ↓wp_xAnd, ↓wp_xOr, ↓wp_xIf, ↓wp_yIf, ↓wp_xOrV, ↓wp_xAndV, ↓wp_xNotV, ↓wp_xTup, ↓wp_xLst, ↓wp_sNo, ↓wp_sAt, ↓wp_xSl, ↓wp_yPass, ↓wp_seq, ↓wp_yExpr, ↓wp_yRet, ↓wp_yRetV, ↓wp_ySet, ↓wp_yL, ↓wp_yD, ↓wp_ySetI, ↓wp_xApp, ↓wp_xPopAt, ↓wp_yAsg, ↓wp_yPar, ↓wp_rNil, ↓wp_rCons, ↓wp_yAug, ↓wp_zSeqN, ↓wp_zSeqE, ↓wp_zRg1, ↓wp_zRg2, ↓wp_zZip, ↓wp_zEnum, ↓wp_zEn2, zp2_nt, zp2_nl, zp2_nk, en2_n, ix_encN, cut_m, en2_l, en2_t, en2_k, gRv_l, gRv_t, ↓wp_fn0_17, ↓wp_fn0_18, ↓wp_fn0_19, ↓wp_fn0_20, ↓wp_fn0_21, ↓wp_fn0_22, ↓wp_fn0_23, ↓wp_fn0_24, ↓wp_fn0_25, ↓wp_fn0_26, ↓wp_fn0_27, ↓wp_fn0_28, ↓wp_fn0_29, ↓wp_fn1_18, ↓wp_fn1_19, ↓wp_fn1_20, ↓wp_fn1_21, ↓wp_fn1_22, ↓wp_fn1_23, ↓wp_fn1_24, ↓wp_fn1_25, ↓wp_fn1_26, ↓wp_fn1_27, ↓wp_fn1_28, ↓wp_fn1_29, ↓wp_fn1_30, ↓wp_fn2_19, ↓wp_fn2_20, ↓wp_fn2_21, ↓wp_fn2_22, ↓wp_fn2_23, ↓wp_fn2_24, ↓wp_fn2_25, ↓wp_fn2_26, ↓wp_fn2_27, ↓wp_fn2_28, ↓wp_fn2_29, ↓wp_fn2_30, ↓wp_fn2_31, ↓wp_fn3_20, ↓wp_fn3_21, ↓wp_fn3_22, ↓wp_fn3_23, ↓wp_fn3_24, ↓wp_fn3_25, ↓wp_fn3_26, ↓wp_fn3_27, ↓wp_fn3_28, ↓wp_fn3_29, ↓wp_fn3_30, ↓wp_fn3_31, ↓wp_fn3_32, ↓wp_fn4_21, ↓wp_fn4_22, ↓wp_fn4_23, ↓wp_fn4_24, ↓wp_fn4_25, ↓wp_fn4_26, ↓wp_fn4_27, ↓wp_fn4_28, ↓wp_fn4_29, ↓wp_fn4_30, ↓wp_fn4_31, ↓wp_fn4_32, ↓wp_fn4_33, ↓wp_fn5_22, ↓wp_fn5_23, ↓wp_fn5_24, ↓wp_fn5_25, ↓wp_fn5_26, ↓wp_fn5_27, ↓wp_fn5_28, ↓wp_fn5_29, ↓wp_fn5_30, ↓wp_fn5_31, ↓wp_fn5_32, ↓wp_fn5_33, ↓wp_fn6_23, ↓wp_fn6_24, ↓wp_fn6_25, ↓wp_fn6_26, ↓wp_fn6_27, ↓wp_fn6_28, ↓wp_fn6_29, ↓wp_fn6_30, ↓wp_fn6_31, ↓wp_fn6_32, ↓wp_fn6_33, ↓wp_fn7_24, ↓wp_fn7_25, ↓wp_fn7_26, ↓wp_fn7_27, ↓wp_fn7_28, ↓wp_fn7_29, ↓wp_fn7_30, ↓wp_fn7_31, ↓wp_fn7_32, ↓wp_fn7_33, ↓wp_fn8_25, ↓wp_fn8_26, ↓wp_fn8_27, ↓wp_fn8_28, ↓wp_fn8_29, ↓wp_fn8_30, ↓wp_fn8_31, ↓wp_fn8_32, ↓wp_fn8_33, ↓wp_yFor, ↓wp_oI, ↓wp_xChI, ↓wp_xTR1, ↓wp_xTR2, ↓wp_xDsp1, ↓wp_xDinN, ↓wp_xDnoN, ↓wp_xDinE, ↓wp_yDct, ↓wp_xDget, ↓wp_yDput, ↓dctQ_e, ↓wp_yAugB, ↓augBQ_e, ↓wp_yAugI, ↓intQ_e, gAddI_i, ↓wp_xRepN, ↓newQ'_e, ↓newdQ_e, ↓rtVar_dct, ↓isPl_dct, ↓keyOf_i, ↓keyOf_s, slotOf_newd, gRev_l, ↓wp_forNil, ↓wp_xLc, ↓lcStep_e, id_eq, ↓wp_callD, ↓wp_callK, ↓wp_callN, ↓wp_callB, ↓wp_yRaise, ↓wp_yRaise2, ↓wp_yTry, ↓wp_hNil, ↓wp_hAs, ↓wp_hNo, ↓wp_ySetE, ↓wp_xIsN, ↓wp_xFld, ↓wp_xIsE, ↓wp_fn0_0, ↓wp_fn0_1, ↓wp_fn0_2, ↓wp_fn0_3, ↓wp_fn0_4, ↓wp_fn0_5, ↓wp_fn0_6, ↓wp_fn0_7, ↓wp_fn0_8, ↓wp_fn0_9, ↓wp_fn0_10, ↓wp_fn0_11, ↓wp_fn0_12, ↓wp_fn0_13, ↓wp_fn0_14, ↓wp_fn0_15, ↓wp_fn0_16, ↓wp_fn1_1, ↓wp_fn1_2, ↓wp_fn1_3, ↓wp_fn1_4, ↓wp_fn1_5, ↓wp_fn1_6, ↓wp_fn1_7, ↓wp_fn1_8, ↓wp_fn1_9, ↓wp_fn1_10, ↓wp_fn1_11, ↓wp_fn1_12, ↓wp_fn1_13, ↓wp_fn1_14, ↓wp_fn1_15, ↓wp_fn1_16, ↓wp_fn1_17, ↓wp_fn2_2, ↓wp_fn2_3, ↓wp_fn2_4, ↓wp_fn2_5, ↓wp_fn2_6, ↓wp_fn2_7, ↓wp_fn2_8, ↓wp_fn2_9, ↓wp_fn2_10, ↓wp_fn2_11, ↓wp_fn2_12, ↓wp_fn2_13, ↓wp_fn2_14, ↓wp_fn2_15, ↓wp_fn2_16, ↓wp_fn2_17, ↓wp_fn2_18, ↓wp_fn3_3, ↓wp_fn3_4, ↓wp_fn3_5, ↓wp_fn3_6, ↓wp_fn3_7, ↓wp_fn3_8, ↓wp_fn3_9, ↓wp_fn3_10, ↓wp_fn3_11, ↓wp_fn3_12, ↓wp_fn3_13, ↓wp_fn3_14, ↓wp_fn3_15, ↓wp_fn3_16, ↓wp_fn3_17, ↓wp_fn3_18, ↓wp_fn3_19, ↓wp_fn4_4, ↓wp_fn4_5, ↓wp_fn4_6, ↓wp_fn4_7, ↓wp_fn4_8, ↓wp_fn4_9, ↓wp_fn4_10, ↓wp_fn4_11, ↓wp_fn4_12, ↓wp_fn4_13, ↓wp_fn4_14, ↓wp_fn4_15, ↓wp_fn4_16, ↓wp_fn4_17, ↓wp_fn4_18, ↓wp_fn4_19, ↓wp_fn4_20, ↓wp_fn5_5, ↓wp_fn5_6, ↓wp_fn5_7, ↓wp_fn5_8, ↓wp_fn5_9, ↓wp_fn5_10, ↓wp_fn5_11, ↓wp_fn5_12, ↓wp_fn5_13, ↓wp_fn5_14, ↓wp_fn5_15, ↓wp_fn5_16, ↓wp_fn5_17, ↓wp_fn5_18, ↓wp_fn5_19, ↓wp_fn5_20, ↓wp_fn5_21, ↓wp_fn6_6, ↓wp_fn6_7, ↓wp_fn6_8, ↓wp_fn6_9, ↓wp_fn6_10, ↓wp_fn6_11, ↓wp_fn6_12, ↓wp_fn6_13, ↓wp_fn6_14, ↓wp_fn6_15, ↓wp_fn6_16, ↓wp_fn6_17, ↓wp_fn6_18, ↓wp_fn6_19, ↓wp_fn6_20, ↓wp_fn6_21, ↓wp_fn6_22, ↓wp_fn7_7, ↓wp_fn7_8, ↓wp_fn7_9, ↓wp_fn7_10, ↓wp_fn7_11, ↓wp_fn7_12, ↓wp_fn7_13, ↓wp_fn7_14, ↓wp_fn7_15, ↓wp_fn7_16, ↓wp_fn7_17, ↓wp_fn7_18, ↓wp_fn7_19, ↓wp_fn7_20, ↓wp_fn7_21, ↓wp_fn7_22, ↓wp_fn7_23, ↓wp_fn8_8, ↓wp_fn8_9, ↓wp_fn8_10, ↓wp_fn8_11, ↓wp_fn8_12, ↓wp_fn8_13, ↓wp_fn8_14, ↓wp_fn8_15, ↓wp_fn8_16, ↓wp_fn8_17, ↓wp_fn8_18, ↓wp_fn8_19, ↓wp_fn8_20, ↓wp_fn8_21, ↓wp_fn8_22, ↓wp_fn8_23, ↓wp_fn8_24, ↓sq_nx, ↓sq_rt, ↓sq_bk, ↓sq_ct, ↓rdVar_dat, ↓rdVar_own, ↓rtVar_dat, ↓rtVar_own, ↓augQ_dat, ↓seqS_own, ↓seqS_bor, ↓seqS_dat, ↓finQ_nx, ↓finQ_rt, ↓turnQ_nx, ↓turnQ_ct, ↓turnQ_bk, ↓turnQ_rt, ↓endF_rt, ↓endF_nx, ↓newQ_new, ↓borE_ok, ↓borQ_pl, ↓rz1_one, ↓rz2_one, ↓asQ_rt, ↓asQ_nx, ↓setEQ_ok, ↓isNQ_exc, ↓isNQ_none, ↓fldQ_exc, ↓isEQ_exc, ↓gv_some, ↓gv_none, ↓reduceIte, ↓asD_dt, ↓asD_new, ↓isPl_dat, ↓isPl_own, ↓isPl_bor, ↓slD_dat, ↓slD_own, ↓slD_bor, ↓lslOwn, ↓lslBor, putL_own, putL_bor, slotOf_dt, slotOf_new, ↓asIint, ↓isB_bool, ↓truD_bool, ↓truD_none, ↓truD_int, ↓truD_list, ↓truD_tuple, ↓truR_dt, ↓truR_new, ↓rsl_dt, ↓rsl_pl, ocons_e, ↓rsls_nil, ↓rsls_cons, ↓dts_nil', ↓dts_cons, ↓outs_nil, ↓outs_bor, ↓outs_dat, stE_e, setAll_nil, setAll_cons, Option.map_some, Option.map_none, Option.bind_some, Option.bind_none, Option.isSome_none, Option.isSome_some, hideO_none, hideO_some, restO_none, restO_some, restS_hd, restT_some, wipeE_nil, wipeE_cons, backE_nil, backE_cons, keepD_dat, keepD_no, isOwn_dat, isOwn_own, Bool.false_and, Bool.true_and, Bool.and_false, Bool.and_true, Bool.not_true, Bool.not_false, List.map_cons, List.map_nil, List.cons_append, List.nil_append, List.append_nil, Nat.reduceAdd, List.length_cons, List.length_nil, List.length_map, Int.zero_add, ↓List.getElem?_cons_zero, ↓List.getElem?_cons_succ, ↓List.set_cons_zero, ↓List.set_cons_succ, sizeLine, Nat.reducePow, Nat.reduceLeDiff, true_and, and_true, eq_self, if_true, if_false, Bool.false_eq_true, decide_eq_true_eq, Bool.not_eq_true', decide_eq_false_iff_not, gMul_l, gMul_r, gMod_e, gDiv_e, gPow_e, Int.reducePow, gAdd_i, gSub_i, gNeg_i, gInt_i, gInt_b, gGt_i, gLt_i, gLe_i, gGe_i, gAbs_i, gLen_l, gLen_t, gLen_k, gList_l, gList_t, gList_k, gTuple_l, gTuple_t, gTuple_k, gIx_lo, gIx_to, gIx_k, atI_nn, Int.toNat_zero, Int.toNat_one, Int.toNat_natCast, Int.reduceToNat, gEq_i, gEq_s, gEq_b, gNe_i, gNe_s, ixN_nn, seqIx, rg1_e, rg2_e, seqD_l, seqD_t, seqD_k, lt2_l, lt2_t, lt2_k, gTp_k1, gTp_l1, gTp_t1, gTp_k2, gTp_l2, gTp_t2, gTp_k3, gTp_l3, gTp_t3, gTp_k4, gTp_l4, gTp_t4, gTp_k5, gTp_l5, gTp_t5, gCn_e, gN_e, gNl_e, gNe_b, zp2_ll, zp2_lt, zp2_lk, zp2_tl, zp2_tt, zp2_tk, zp2_kl, zp2_kt, zp2_kk, en1_l, gSl_l, gSl_t, cut_hi, cut_lo, cut_in, gAdd_l, gAdd_t, ↓isT_list_list, ↓isT_list_tuple, ↓isT_list_int, ↓isT_list_bool, ↓isT_list_str, ↓isT_tuple_list, ↓isT_tuple_tuple, ↓isT_tuple_int, ↓isT_tuple_bool, ↓isT_tuple_str, ↓isT_int_list, ↓isT_int_tuple, ↓isT_int_int, ↓isT_int_bool, ↓isT_int_str, ↓isT_bool_list, ↓isT_bool_tuple, ↓isT_bool_int, ↓isT_bool_bool, ↓isT_bool_str, ↓isT_str_list, ↓isT_str_tuple, ↓isT_str_int, ↓isT_str_bool, ↓isT_str_str, ↓isT_none_list, ↓isT_none_tuple, ↓isT_none_int, ↓isT_none_bool, ↓isT_none_str, gIsi_e, gIsi2_e, gIs_nn, gIs_i, gIs_b, gIs_s, gIs_l, gIs_t, gEq_nn, gLen_st, gAdd_st, gSl_st, gEq_st, gIx_alpha, stL_inj, lk1, Int.reduceEq, Int.reduceNeg, Int.reduceAdd, Int.reduceSub, rep2, Int.reduceLE, Int.reduceLT, Nat.reduceMul, and_self, fold_l, fold_t, tp_encS, tp_encQ, gIn_ints, gNotIn_ints, gIn_strs, gNotIn_strs, gNotIn_names, gIn_names, ix_encS, sd_encN, len_encN, Bool.or_false, Bool.or_true, Bool.true_or, Bool.false_or, decide_true, decide_false])
local macro_rules
  | `(tactic| obtain $p:rcasesPatMed := ($t:term :)) => `(tactic| (refine wp_nx $t (fun r q h => ?_); obtain $p := h; pv_eval))
abbrev Ints (xs : List PyData) : Prop := ∀ d ∈ xs, ∃ a : Int, d = .int a
theorem ints_at {xs : List PyData} (h : Ints xs) {k : Nat} (hk : k < xs.length) : ∃ a : Int, xs[k]? = some (.int a) := by
  obtain ⟨a, e⟩ := h _ (List.getElem_mem hk)
  exact ⟨a, by rw [List.getElem?_eq_getElem hk, e]⟩
theorem box_ok {s : List PyData} {k : Int} (h : Ints s) (h0 : 0 ≤ k) (h1 : k < s.length) (h2 : k < 1000000) : wp (x__law_box [.dat (.list s), .dat (.int k)]) (fun r _ => ∃ b, r = .new b ∧ Bx 0 b) nX := by
  obtain ⟨a, e⟩ := ints_at h (k := k.toNat) (by omega)
  unfold x__law_box
  pv_eval
  simp only [h1, if_true, e]
  pv_eval
  have hm := Int.emod_nonneg a (b := 2305843009213693951) (by omega)
  have hm' := Int.emod_lt_of_pos a (b := 2305843009213693951) (by omega)
  split <;> split <;> exact ⟨_, rfl, _, _, _, rfl, by omega, by omega, by omega, by omega⟩
theorem take_ok {b : List PyData} {m n : Int} (hb : Bx m b) (hm : m < 1000000 := by omega) (h0 : 0 < n := by omega) (h9 : n < 1000000000000000000000000000000000 := by omega) : wp (x__law_take [.bor b, .dat (.int n)]) (fun r q => ∃ i b', r = .dt (.int i) ∧ q = [.bor b', .dat (.int n)] ∧ 0 ≤ i ∧ i < n ∧ Bx (m + 1) b') nX := by
  obtain ⟨a, s, z, rfl, hs0, hs1, hz0, hz1⟩ := hb
  unfold x__law_take
  pv_eval
  split
  · exact ⟨_, _, rfl, rfl, Int.emod_nonneg _ (by omega), Int.emod_lt_of_pos _ h0, _, s, z, rfl, hs0, hs1, hz0, by omega⟩
  · exact ⟨_, _, rfl, rfl, Int.emod_nonneg _ (by omega), Int.emod_lt_of_pos _ h0, _, s, z + 1, rfl, hs0, hs1, by omega, by omega⟩
theorem of_ok {b xs : List PyData} {k : Bool} {m : Int} (hb : Bx m b) (hm : m < 1000000 := by omega) (h0 : 0 < xs.length := by first | omega | (simp; done) | (simp; omega)) (h9 : xs.length < 1000000 := by first | omega | (simp; done) | (simp; omega)) : wp (x__law_of [.bor b, .dat (sqd k xs)]) (fun r q => ∃ (i : Nat) (d : PyData) (b' : List PyData), xs[i]? = some d ∧ r = .dt d ∧ q = [.bor b', .dat (sqd k xs)] ∧ Bx (m + 1) b') nX := by
  unfold x__law_of
  pv_eval
  refine wp_nx (take_ok hb hm (by omega) (by omega)) fun r q h => ?_
  obtain ⟨i, b', rfl, rfl, hi0, hi1, hb'⟩ := h
  have hl : i.toNat < xs.length := by omega
  have e := List.getElem?_eq_getElem hl
  pv_eval
  rw [e]
  pv_eval
  exact ⟨_, _, _, e, rfl, rfl, hb'⟩
theorem cells_ok {xs : List PyData} (h : Ints xs) (hl : xs.length ≤ 63) : wp (x__law_cells [.dat (.list xs), .dat (.int 3)]) (fun r _ => ∃ ys, r = .new ys ∧ Ints ys ∧ 0 < ys.length ∧ ys.length ≤ 3) nX := by
  unfold x__law_cells
  pv_eval
  have hd : Ints (List.drop 3 (List.take 63 xs)) := fun d m => h d (List.mem_of_mem_take (List.mem_of_mem_drop m))
  have ht : Ints (List.take 3 xs) := fun d m => h d (List.mem_of_mem_take m)
  split
  all_goals
    refine for_enum (fun k ds ρ => ∃ ys a b c, k + ds.length ≤ 63 ∧ Ints ds ∧ Ints ys ∧ 0 < ys.length ∧ ys.length ≤ 3 ∧ (ds ≠ [] → ys.length = 3) ∧ ρ = [.dat (.list xs), .dat (.int 3), .own ys, a, b, c]) ?_ ?_ ?_
  rotate_left
  iterate 2
    · intro k d ds ρ ⟨ys, a, b, c, hk, hd, hy, h0, h3, h3', e⟩
      subst e
      have h3' := h3' (by simp)
      obtain ⟨x, rfl⟩ := hd d (by simp)
      have m0 := Int.emod_nonneg (k : Int) (b := 3) (by omega)
      have m1 := Int.emod_lt_of_pos (k : Int) (b := 3) (by omega)
      obtain ⟨y, ey⟩ := ints_at hy (k := ((k : Int) % 3).toNat) (by omega)
      simp only [List.length_cons] at hk
      pv_eval
      rw [ey]
      pv_eval
      refine ⟨_, _, _, _, by omega, fun d m => hd d (by simp [m]), fun d m => ?_, ?_, ?_, ?_, rfl⟩
      · rcases List.mem_or_eq_of_mem_set m with m | rfl
        · exact hy d m
        · exact ⟨_, rfl⟩
      · simpa using h0
      · simpa using h3
      · intro _; simpa using h3'
    · intro k ρ ⟨ys, a, b, c, hk, hd, hy, h0, h3, h3', e⟩
      subst e
      pv_eval
      exact ⟨_, rfl, hy, h0, h3⟩
    try rotate_left
  · next hc =>
    have hx : xs = [] := by
      cases xs with
      | nil => rfl
      | cons a r => simp at hc
    subst hx
    exact ⟨_, _, _, _, by simp, hd, fun d m => by simp at m; exact ⟨0, m⟩, by simp, by simp, by simp, rfl⟩
  · next hc =>
    refine ⟨_, _, _, _, by simp; omega, hd, ht, ?_, by simp; omega, ?_, rfl⟩
    · cases xs with
      | nil => simp at hc
      | cons a r => simp
    · intro hn
      have : 3 < xs.length := by
        rcases Nat.lt_or_ge 3 xs.length with h | h
        · exact h
        · exact (hn (List.drop_of_length_le (by simp; omega))).elim
      simp; omega
theorem mixed_ok {b xs : List PyData} {k : Bool} {m : Int} (hb : Bx m b) (h0 : 0 ≤ m) (hm : m + xs.length < 1000000) : wp (x__law_mixed [.bor b, .dat (sqd k xs)]) (fun r q => ∃ ys b', r = .new ys ∧ ys.Perm xs ∧ q = [.bor b', .dat (sqd k xs)] ∧ Bx (m + xs.length) b') nX := by
  unfold x__law_mixed
  pv_eval
  refine for_range (fun lo n ρ => ∃ b ls fs a, ls.length = n ∧ (fs ++ ls).Perm xs ∧ Bx (m + xs.length - n) b ∧ ρ = [.bor b, .dat (sqd k xs), .own ls, .own fs, a]) ?_ ?_ ?_
  · exact ⟨_, _, _, _, by simp, by simp, hb.mono (by omega), rfl⟩
  · intro lo n ρ ⟨b, ls, fs, a, hl, hp, hb, e⟩
    subst e
    have hle : n + 1 ≤ xs.length := by have := hp.length_eq; simp at this; omega
    pv_eval
    refine wp_nx (take_ok hb (by omega) (by omega) (by omega)) fun r q h => ?_
    obtain ⟨i, b', rfl, rfl, hi0, hi1, hb'⟩ := h
    have hil : i.toNat < ls.length := by omega
    have e := List.getElem?_eq_getElem hil
    pv_eval
    have hfs : fs.length < 1000000 := by have := hp.length_eq; simp at this; omega
    refine ⟨⟨by omega, by omega⟩, ?_⟩
    rw [e]
    pv_eval
    refine ⟨by omega, _, _, _, _, ?_, ?_, hb'.mono (by omega), rfl⟩
    · rw [List.length_eraseIdx_of_lt hil]; omega
    · refine List.Perm.trans ?_ hp
      rw [List.append_assoc]
      exact List.Perm.append_left fs (erase_perm hil)
  · intro lo ρ ⟨b, ls, fs, a, hl, hp, hb, e⟩
    subst e
    have : ls = [] := List.eq_nil_of_length_eq_zero hl
    subst this
    pv_eval
    exact ⟨_, _, rfl, by simpa using hp, rfl, hb.mono (by omega)⟩
theorem mixed_l {b xs : List PyData} {m : Int} (hb : Bx m b) (h0 : 0 ≤ m) (hm : m + xs.length < 1000000) : wp (x__law_mixed [.bor b, .dat (.list xs)]) (fun r q => ∃ ys b', r = .new ys ∧ ys.Perm xs ∧ q = [.bor b', .dat (.list xs)] ∧ Bx (m + xs.length) b') nX := by
  have h := mixed_ok (k := true) hb h0 hm
  rw [sqd_l] at h
  exact h
theorem of_l {b xs : List PyData} {m : Int} (hb : Bx m b) (hm : m < 1000000 := by omega) (h0 : 0 < xs.length := by first | omega | (simp; done) | (simp; omega)) (h9 : xs.length < 1000000 := by first | omega | (simp; done) | (simp; omega)) : wp (x__law_of [.bor b, .dat (.list xs)]) (fun r q => ∃ (i : Nat) (d : PyData) (b' : List PyData), xs[i]? = some d ∧ r = .dt d ∧ q = [.bor b', .dat (.list xs)] ∧ Bx (m + 1) b') nX := by
  have h := of_ok (k := true) hb hm h0 h9
  rw [sqd_l] at h
  exact h
end Lw
end

section
set_option Elab.async false
set_option linter.all false
set_option maxRecDepth 100000
set_option maxHeartbeats 4000000
namespace Lw
open PySem PySem.Spec PyProof.Rows L2 Dl
local macro_rules | `(tactic| pv_eval) => `(tactic| try simp (config := {maxSteps := 10000000, implicitDefEqProofs := false}) (disch := first | omega | (simp only [List.length_append, List.length_cons, List.length_nil, List.length_map]; omega)) only [↓wp_val, ↓wp_none, ↓wp_ex, ↓wp_ret, ↓wp_bnd, ↓wp_lft, ↓wp_eD, ↓wp_oE, ↓wp_oN, ↓wp_vNil, ↓wp_vCons, ↓wp_xB, ↓wp_xC, ↓wp_xVar, ↓wp_xTst, ↓wp_xTru, ↓wp_tYes, ↓wp_xNot, ↓wp_xAnd, ↓wp_xOr, ↓wp_xIf, ↓wp_yIf, ↓wp_xOrV, ↓wp_xAndV, ↓wp_xNotV, ↓wp_xTup, ↓wp_xLst, ↓wp_sNo, ↓wp_sAt, ↓wp_xSl, ↓wp_yPass, ↓wp_seq, ↓wp_yExpr, ↓wp_yRet, ↓wp_yRetV, ↓wp_ySet, ↓wp_yL, ↓wp_yD, ↓wp_ySetI, ↓wp_xApp, ↓wp_xPopAt, ↓wp_yAsg, ↓wp_yPar, ↓wp_rNil, ↓wp_rCons, ↓wp_yAug, ↓wp_zSeqN, ↓wp_zSeqE, ↓wp_zRg1, ↓wp_zRg2, ↓wp_zZip, ↓wp_zEnum, ↓wp_zEn2, zp2_nt, zp2_nl, zp2_nk, en2_n, ix_encN, cut_m, en2_l, en2_t, en2_k, gRv_l, gRv_t, ↓wp_fn0_17, ↓wp_fn0_18, ↓wp_fn0_19, ↓wp_fn0_20, ↓wp_fn0_21, ↓wp_fn0_22, ↓wp_fn0_23, ↓wp_fn0_24, ↓wp_fn0_25, ↓wp_fn0_26, ↓wp_fn0_27, ↓wp_fn0_28, ↓wp_fn0_29, ↓wp_fn1_18, ↓wp_fn1_19, ↓wp_fn1_20, ↓wp_fn1_21, ↓wp_fn1_22, ↓wp_fn1_23, ↓wp_fn1_24, ↓wp_fn1_25, ↓wp_fn1_26, ↓wp_fn1_27, ↓wp_fn1_28, ↓wp_fn1_29, ↓wp_fn1_30, ↓wp_fn2_19, ↓wp_fn2_20, ↓wp_fn2_21, ↓wp_fn2_22, ↓wp_fn2_23, ↓wp_fn2_24, ↓wp_fn2_25, ↓wp_fn2_26, ↓wp_fn2_27, ↓wp_fn2_28, ↓wp_fn2_29, ↓wp_fn2_30, ↓wp_fn2_31, ↓wp_fn3_20, ↓wp_fn3_21, ↓wp_fn3_22, ↓wp_fn3_23, ↓wp_fn3_24, ↓wp_fn3_25, ↓wp_fn3_26, ↓wp_fn3_27, ↓wp_fn3_28, ↓wp_fn3_29, ↓wp_fn3_30, ↓wp_fn3_31, ↓wp_fn3_32, ↓wp_fn4_21, ↓wp_fn4_22, ↓wp_fn4_23, ↓wp_fn4_24, ↓wp_fn4_25, ↓wp_fn4_26, ↓wp_fn4_27, ↓wp_fn4_28, ↓wp_fn4_29, ↓wp_fn4_30, ↓wp_fn4_31, ↓wp_fn4_32, ↓wp_fn4_33, ↓wp_fn5_22, ↓wp_fn5_23, ↓wp_fn5_24, ↓wp_fn5_25, ↓wp_fn5_26, ↓wp_fn5_27, ↓wp_fn5_28, ↓wp_fn5_29, ↓wp_fn5_30, ↓wp_fn5_31, ↓wp_fn5_32, ↓wp_fn5_33, ↓wp_fn6_23, ↓wp_fn6_24, ↓wp_fn6_25, ↓wp_fn6_26, ↓wp_fn6_27, ↓wp_fn6_28, ↓wp_fn6_29, ↓wp_fn6_30, ↓wp_fn6_31, ↓wp_fn6_32, ↓wp_fn6_33, ↓wp_fn7_24, ↓wp_fn7_25, ↓wp_fn7_26, ↓wp_fn7_27, ↓wp_fn7_28, ↓wp_fn7_29, ↓wp_fn7_30, ↓wp_fn7_31, ↓wp_fn7_32, ↓wp_fn7_33, ↓wp_fn8_25, ↓wp_fn8_26, ↓wp_fn8_27, ↓wp_fn8_28, ↓wp_fn8_29, ↓wp_fn8_30, ↓wp_fn8_31, ↓wp_fn8_32, ↓wp_fn8_33, ↓wp_yFor, ↓wp_oI, ↓wp_xChI, ↓wp_xTR1, ↓wp_xTR2, ↓wp_xDsp1, ↓wp_xDinN, ↓wp_xDnoN, ↓wp_xDinE, ↓wp_yDct, ↓wp_xDget, ↓wp_yDput, ↓dctQ_e, ↓wp_yAugB, ↓augBQ_e, ↓wp_yAugI, ↓intQ_e, gAddI_i, ↓wp_xRepN, ↓newQ'_e, ↓newdQ_e, ↓rtVar_dct, ↓isPl_dct, ↓keyOf_i, ↓keyOf_s, slotOf_newd, gRev_l, ↓wp_forNil, ↓wp_xLc, ↓lcStep_e, id_eq, ↓wp_callD, ↓wp_callK, ↓wp_callN, ↓wp_callB, ↓wp_yRaise, ↓wp_yRaise2, ↓wp_yTry, ↓wp_hNil, ↓wp_hAs, ↓wp_hNo, ↓wp_ySetE, ↓wp_xIsN, ↓wp_xFld, ↓wp_xIsE, ↓wp_fn0_0, ↓wp_fn0_1, ↓wp_fn0_2, ↓wp_fn0_3, ↓wp_fn0_4, ↓wp_fn0_5, ↓wp_fn0_6, ↓wp_fn0_7, ↓wp_fn0_8, ↓wp_fn0_9, ↓wp_fn0_10, ↓wp_fn0_11, ↓wp_fn0_12, ↓wp_fn0_13, ↓wp_fn0_14, ↓wp_fn0_15, ↓wp_fn0_16, ↓wp_fn1_1, ↓wp_fn1_2, ↓wp_fn1_3, ↓wp_fn1_4, ↓wp_fn1_5, ↓wp_fn1_6, ↓wp_fn1_7, ↓wp_fn1_8, ↓wp_fn1_9, ↓wp_fn1_10, ↓wp_fn1_11, ↓wp_fn1_12, ↓wp_fn1_13, ↓wp_fn1_14, ↓wp_fn1_15, ↓wp_fn1_16, ↓wp_fn1_17, ↓wp_fn2_2, ↓wp_fn2_3, ↓wp_fn2_4, ↓wp_fn2_5, ↓wp_fn2_6, ↓wp_fn2_7, ↓wp_fn2_8, ↓wp_fn2_9, ↓wp_fn2_10, ↓wp_fn2_11, ↓wp_fn2_12, ↓wp_fn2_13, ↓wp_fn2_14, ↓wp_fn2_15, ↓wp_fn2_16, ↓wp_fn2_17, ↓wp_fn2_18, ↓wp_fn3_3, ↓wp_fn3_4, ↓wp_fn3_5, ↓wp_fn3_6, ↓wp_fn3_7, ↓wp_fn3_8, ↓wp_fn3_9, ↓wp_fn3_10, ↓wp_fn3_11, ↓wp_fn3_12, ↓wp_fn3_13, ↓wp_fn3_14, ↓wp_fn3_15, ↓wp_fn3_16, ↓wp_fn3_17, ↓wp_fn3_18, ↓wp_fn3_19, ↓wp_fn4_4, ↓wp_fn4_5, ↓wp_fn4_6, ↓wp_fn4_7, ↓wp_fn4_8, ↓wp_fn4_9, ↓wp_fn4_10, ↓wp_fn4_11, ↓wp_fn4_12, ↓wp_fn4_13, ↓wp_fn4_14, ↓wp_fn4_15, ↓wp_fn4_16, ↓wp_fn4_17, ↓wp_fn4_18, ↓wp_fn4_19, ↓wp_fn4_20, ↓wp_fn5_5, ↓wp_fn5_6, ↓wp_fn5_7, ↓wp_fn5_8, ↓wp_fn5_9, ↓wp_fn5_10, ↓wp_fn5_11, ↓wp_fn5_12, ↓wp_fn5_13, ↓wp_fn5_14, ↓wp_fn5_15, ↓wp_fn5_16, ↓wp_fn5_17, ↓wp_fn5_18, ↓wp_fn5_19, ↓wp_fn5_20, ↓wp_fn5_21, ↓wp_fn6_6, ↓wp_fn6_7, ↓wp_fn6_8, ↓wp_fn6_9, ↓wp_fn6_10, ↓wp_fn6_11, ↓wp_fn6_12, ↓wp_fn6_13, ↓wp_fn6_14, ↓wp_fn6_15, ↓wp_fn6_16, ↓wp_fn6_17, ↓wp_fn6_18, ↓wp_fn6_19, ↓wp_fn6_20, ↓wp_fn6_21, ↓wp_fn6_22, ↓wp_fn7_7, ↓wp_fn7_8, ↓wp_fn7_9, ↓wp_fn7_10, ↓wp_fn7_11, ↓wp_fn7_12, ↓wp_fn7_13, ↓wp_fn7_14, ↓wp_fn7_15, ↓wp_fn7_16, ↓wp_fn7_17, ↓wp_fn7_18, ↓wp_fn7_19, ↓wp_fn7_20, ↓wp_fn7_21, ↓wp_fn7_22, ↓wp_fn7_23, ↓wp_fn8_8, ↓wp_fn8_9, ↓wp_fn8_10, ↓wp_fn8_11, ↓wp_fn8_12, ↓wp_fn8_13, ↓wp_fn8_14, ↓wp_fn8_15, ↓wp_fn8_16, ↓wp_fn8_17, ↓wp_fn8_18, ↓wp_fn8_19, ↓wp_fn8_20, ↓wp_fn8_21, ↓wp_fn8_22, ↓wp_fn8_23, ↓wp_fn8_24, ↓sq_nx, ↓sq_rt, ↓sq_bk, ↓sq_ct, ↓rdVar_dat, ↓rdVar_own, ↓rtVar_dat, ↓rtVar_own, ↓augQ_dat, ↓seqS_own, ↓seqS_bor, ↓seqS_dat, ↓finQ_nx, ↓finQ_rt, ↓turnQ_nx, ↓turnQ_ct, ↓turnQ_bk, ↓turnQ_rt, ↓endF_rt, ↓endF_nx, ↓newQ_new, ↓borE_ok, ↓borQ_pl, ↓rz1_one, ↓rz2_one, ↓asQ_rt, ↓asQ_nx, ↓setEQ_ok, ↓isNQ_exc, ↓isNQ_none, ↓fldQ_exc, ↓isEQ_exc, ↓gv_some, ↓gv_none, ↓reduceIte, ↓asD_dt, ↓asD_new, ↓isPl_dat, ↓isPl_own, ↓isPl_bor, ↓slD_dat, ↓slD_own, ↓slD_bor, ↓lslOwn, ↓lslBor, putL_own, putL_bor, slotOf_dt, slotOf_new, ↓asIint, ↓isB_bool, ↓truD_bool, ↓truD_none, ↓truD_int, ↓truD_list, ↓truD_tuple, ↓truR_dt, ↓truR_new, ↓rsl_dt, ↓rsl_pl, ocons_e, ↓rsls_nil, ↓rsls_cons, ↓dts_nil', ↓dts_cons, ↓outs_nil, ↓outs_bor, ↓outs_dat, stE_e, setAll_nil, setAll_cons, Option.map_some, Option.map_none, Option.bind_some, Option.bind_none, Option.isSome_none, Option.isSome_some, hideO_none, hideO_some, restO_none, restO_some, restS_hd, restT_some, wipeE_nil, wipeE_cons, backE_nil, backE_cons, keepD_dat, keepD_no, isOwn_dat, isOwn_own, Bool.false_and, Bool.true_and, Bool.and_false, Bool.and_true, Bool.not_true, Bool.not_false, List.map_cons, List.map_nil, List.cons_append, List.nil_append, List.append_nil, Nat.reduceAdd, List.length_cons, List.length_nil, List.length_map, Int.zero_add, ↓List.getElem?_cons_zero, ↓List.getElem?_cons_succ, ↓List.set_cons_zero, ↓List.set_cons_succ, sizeLine, Nat.reducePow, Nat.reduceLeDiff, true_and, and_true, eq_self, if_true, if_false, Bool.false_eq_true, decide_eq_true_eq, Bool.not_eq_true', decide_eq_false_iff_not, gMul_l, gMul_r, gMod_e, gDiv_e, gPow_e, Int.reducePow, gAdd_i, gSub_i, gNeg_i, gInt_i, gInt_b, gGt_i, gLt_i, gLe_i, gGe_i, gAbs_i, gLen_l, gLen_t, gLen_k, gList_l, gList_t, gList_k, gTuple_l, gTuple_t, gTuple_k, gIx_lo, gIx_to, gIx_k, atI_nn, Int.toNat_zero, Int.toNat_one, Int.toNat_natCast, Int.reduceToNat, gEq_i, gEq_s, gEq_b, gNe_i, gNe_s, ixN_nn, seqIx, rg1_e, rg2_e, seqD_l, seqD_t, seqD_k, lt2_l, lt2_t, lt2_k, gTp_k1, gTp_l1, gTp_t1, gTp_k2, gTp_l2, gTp_t2, gTp_k3, gTp_l3, gTp_t3, gTp_k4, gTp_l4, gTp_t4, gTp_k5, gTp_l5, gTp_t5, gCn_e, gN_e, gNl_e, gNe_b, zp2_ll, zp2_lt, zp2_lk, zp2_tl, zp2_tt, zp2_tk, zp2_kl, zp2_kt, zp2_kk, en1_l, gSl_l, gSl_t, cut_hi, cut_lo, cut_in, gAdd_l, gAdd_t, ↓isT_list_list, ↓isT_list_tuple, ↓isT_list_int, ↓isT_list_bool, ↓isT_list_str, ↓isT_tuple_list, ↓isT_tuple_tuple, ↓isT_tuple_int, ↓isT_tuple_bool, ↓isT_tuple_str, ↓isT_int_list, ↓isT_int_tuple, ↓isT_int_int, ↓isT_int_bool, ↓isT_int_str, ↓isT_bool_list, ↓isT_bool_tuple, ↓isT_bool_int, ↓isT_bool_bool, ↓isT_bool_str, ↓isT_str_list, ↓isT_str_tuple, ↓isT_str_int, ↓isT_str_bool, ↓isT_str_str, ↓isT_none_list, ↓isT_none_tuple, ↓isT_none_int, ↓isT_none_bool, ↓isT_none_str, gIsi_e, gIsi2_e, gIs_nn, gIs_i, gIs_b, gIs_s, gIs_l, gIs_t, gEq_nn, gLen_st, gAdd_st, gSl_st, gEq_st, gIx_alpha, stL_inj, lk1, Int.reduceEq, Int.reduceNeg, Int.reduceAdd, Int.reduceSub, rep2, Int.reduceLE, Int.reduceLT, Nat.reduceMul, and_self, fold_l, fold_t, tp_encS, tp_encQ, gIn_ints, gNotIn_ints, gIn_strs, gNotIn_strs, gNotIn_names, gIn_names, ix_encS, sd_encN, len_encN, Bool.or_false, Bool.or_true, Bool.true_or, Bool.false_or, decide_true, decide_false])
local macro_rules
  | `(tactic| obtain $p:rcasesPatMed := ($t:term :)) => `(tactic| (refine wp_nx $t (fun r q h => ?_); obtain $p := h; pv_eval))
theorem same_refl : ∀ (n : Nat) (d : PyData), okd n d → wp (x__law_same n [.dat d, .dat d]) (fun r _ => r = .dt (.bool true)) nX
  | 0, _, h => h.elim
  | n + 1, d, h => by
    rw [x__law_same]
    unfold yy__law_same
    cases d with
    | dict xs => exact h.elim
    | list xs =>
      obtain ⟨h1, h2⟩ := h
      pv_eval
      have e := zipD_self (f := id) (g := id) xs
      simp only [List.map_id_fun, id] at e
      rw [e]
      refine ⟨by simpa using h1, ?_⟩
      refine lc_map (f := fun _ => .bool true) (fun d m => ?_) ?_
      · pv_eval
        refine wp_nx (same_refl n d (h2 d m)) fun r q e => ?_
        subst e
        pv_eval
      · pv_eval
        rw [gAll_t (by simp)]
        pv_eval
    | tuple xs =>
      obtain ⟨h1, h2⟩ := h
      pv_eval
      have e := zipD_self (f := id) (g := id) xs
      simp only [List.map_id_fun, id] at e
      rw [e]
      refine ⟨by simpa using h1, ?_⟩
      refine lc_map (f := fun _ => .bool true) (fun d m => ?_) ?_
      · pv_eval
        refine wp_nx (same_refl n d (h2 d m)) fun r q e => ?_
        subst e
        pv_eval
      · pv_eval
        rw [gAll_t (by simp)]
        pv_eval
    | none => pv_eval
    | bool b => pv_eval
    | int b => pv_eval
    | str b => pv_eval
/-- lists in the place of tuples -/
def lsd : Nat → PyData → PyData
  | n + 1, .list xs => .list (xs.map (lsd n))
  | n + 1, .tuple xs => .list (xs.map (lsd n))
  | _, d => d
theorem lists_ok : ∀ (n : Nat) (d : PyData), okd n d → wp (x__law_lists n [.dat d]) (fun r _ => r.asD = some (lsd n d)) nX
  | 0, _, h => h.elim
  | n + 1, d, h => by
    rw [x__law_lists]
    unfold yy__law_lists
    cases d with
    | dict xs => exact h.elim
    | list xs =>
      obtain ⟨h1, h2⟩ := h
      pv_eval
      refine ⟨h1, ?_⟩
      have e : xs = xs.map id := by simp
      conv => enter [1, 5]; rw [e]
      refine lc_map (f := lsd n) (fun d m => ?_) ?_
      · pv_eval
        refine wp_nx (lists_ok n d (h2 d m)) fun r q e => ?_
        rw [e]
        pv_eval
      · pv_eval
        rfl
    | tuple xs =>
      obtain ⟨h1, h2⟩ := h
      pv_eval
      refine ⟨h1, ?_⟩
      have e : xs = xs.map id := by simp
      conv => enter [1, 5]; rw [e]
      refine lc_map (f := lsd n) (fun d m => ?_) ?_
      · pv_eval
        refine wp_nx (lists_ok n d (h2 d m)) fun r q e => ?_
        rw [e]
        pv_eval
      · pv_eval
        rfl
    | none => pv_eval; rfl
    | bool b => pv_eval; rfl
    | int b => pv_eval; rfl
    | str b => pv_eval; rfl
end Lw
end

section
set_option Elab.async false
set_option linter.all false
set_option maxRecDepth 100000
set_option maxHeartbeats 4000000
namespace Lw
open PySem PySem.Spec PyProof.Rows L2 Dl
local macro_rules | `(tactic| pv_eval) => `(tactic| try simp (config := {maxSteps := 10000000, implicitDefEqProofs := false}) (disch := first | omega | (simp only [List.length_append, List.length_cons, List.length_nil, List.length_map]; omega)) only [↓wp_val, ↓wp_none, ↓wp_ex, ↓wp_ret, ↓wp_bnd, ↓wp_lft, ↓wp_eD, ↓wp_oE, ↓wp_oN, ↓wp_vNil, ↓wp_vCons, ↓wp_xB, ↓wp_xC, ↓wp_xVar, ↓wp_xTst, ↓wp_xTru, ↓wp_tYes, ↓wp_xNot, ↓wp_xAnd, ↓wp_xOr, ↓wp_xIf, ↓wp_yIf, ↓wp_xOrV, ↓wp_xAndV, ↓wp_xNotV, ↓wp_xTup, ↓wp_xLst, ↓wp_sNo, ↓wp_sAt, ↓wp_xSl, ↓wp_yPass, ↓wp_seq, ↓wp_yExpr, ↓wp_yRet, ↓wp_yRetV, ↓wp_ySet, ↓wp_yL, ↓wp_yD, ↓wp_ySetI, ↓wp_xApp, ↓wp_xPopAt, ↓wp_yAsg, ↓wp_yPar, ↓wp_rNil, ↓wp_rCons, ↓wp_yAug, ↓wp_zSeqN, ↓wp_zSeqE, ↓wp_zRg1, ↓wp_zRg2, ↓wp_zZip, ↓wp_zEnum, ↓wp_zEn2, zp2_nt, zp2_nl, zp2_nk, en2_n, ix_encN, cut_m, en2_l, en2_t, en2_k, gRv_l, gRv_t, ↓wp_fn0_17, ↓wp_fn0_18, ↓wp_fn0_19, ↓wp_fn0_20, ↓wp_fn0_21, ↓wp_fn0_22, ↓wp_fn0_23, ↓wp_fn0_24, ↓wp_fn0_25, ↓wp_fn0_26, ↓wp_fn0_27, ↓wp_fn0_28, ↓wp_fn0_29, ↓wp_fn1_18, ↓wp_fn1_19, ↓wp_fn1_20, ↓wp_fn1_21, ↓wp_fn1_22, ↓wp_fn1_23, ↓wp_fn1_24, ↓wp_fn1_25, ↓wp_fn1_26, ↓wp_fn1_27, ↓wp_fn1_28, ↓wp_fn1_29, ↓wp_fn1_30, ↓wp_fn2_19, ↓wp_fn2_20, ↓wp_fn2_21, ↓wp_fn2_22, ↓wp_fn2_23, ↓wp_fn2_24, ↓wp_fn2_25, ↓wp_fn2_26, ↓wp_fn2_27, ↓wp_fn2_28, ↓wp_fn2_29, ↓wp_fn2_30, ↓wp_fn2_31, ↓wp_fn3_20, ↓wp_fn3_21, ↓wp_fn3_22, ↓wp_fn3_23, ↓wp_fn3_24, ↓wp_fn3_25, ↓wp_fn3_26, ↓wp_fn3_27, ↓wp_fn3_28, ↓wp_fn3_29, ↓wp_fn3_30, ↓wp_fn3_31, ↓wp_fn3_32, ↓wp_fn4_21, ↓wp_fn4_22, ↓wp_fn4_23, ↓wp_fn4_24, ↓wp_fn4_25, ↓wp_fn4_26, ↓wp_fn4_27, ↓wp_fn4_28, ↓wp_fn4_29, ↓wp_fn4_30, ↓wp_fn4_31, ↓wp_fn4_32, ↓wp_fn4_33, ↓wp_fn5_22, ↓wp_fn5_23, ↓wp_fn5_24, ↓wp_fn5_25, ↓wp_fn5_26, ↓wp_fn5_27, ↓wp_fn5_28, ↓wp_fn5_29, ↓wp_fn5_30, ↓wp_fn5_31, ↓wp_fn5_32, ↓wp_fn5_33, ↓wp_fn6_23, ↓wp_fn6_24, ↓wp_fn6_25, ↓wp_fn6_26, ↓wp_fn6_27, ↓wp_fn6_28, ↓wp_fn6_29, ↓wp_fn6_30, ↓wp_fn6_31, ↓wp_fn6_32, ↓wp_fn6_33, ↓wp_fn7_24, ↓wp_fn7_25, ↓wp_fn7_26, ↓wp_fn7_27, ↓wp_fn7_28, ↓wp_fn7_29, ↓wp_fn7_30, ↓wp_fn7_31, ↓wp_fn7_32, ↓wp_fn7_33, ↓wp_fn8_25, ↓wp_fn8_26, ↓wp_fn8_27, ↓wp_fn8_28, ↓wp_fn8_29, ↓wp_fn8_30, ↓wp_fn8_31, ↓wp_fn8_32, ↓wp_fn8_33, ↓wp_yFor, ↓wp_oI, ↓wp_xChI, ↓wp_xTR1, ↓wp_xTR2, ↓wp_xDsp1, ↓wp_xDinN, ↓wp_xDnoN, ↓wp_xDinE, ↓wp_yDct, ↓wp_xDget, ↓wp_yDput, ↓dctQ_e, ↓wp_yAugB, ↓augBQ_e, ↓wp_yAugI, ↓intQ_e, gAddI_i, ↓wp_xRepN, ↓newQ'_e, ↓newdQ_e, ↓rtVar_dct, ↓isPl_dct, ↓keyOf_i, ↓keyOf_s, slotOf_newd, gRev_l, ↓wp_forNil, ↓wp_xLc, ↓lcStep_e, id_eq, ↓wp_callD, ↓wp_callK, ↓wp_callN, ↓wp_callB, ↓wp_yRaise, ↓wp_yRaise2, ↓wp_yTry, ↓wp_hNil, ↓wp_hAs, ↓wp_hNo, ↓wp_ySetE, ↓wp_xIsN, ↓wp_xFld, ↓wp_xIsE, ↓wp_fn0_0, ↓wp_fn0_1, ↓wp_fn0_2, ↓wp_fn0_3, ↓wp_fn0_4, ↓wp_fn0_5, ↓wp_fn0_6, ↓wp_fn0_7, ↓wp_fn0_8, ↓wp_fn0_9, ↓wp_fn0_10, ↓wp_fn0_11, ↓wp_fn0_12, ↓wp_fn0_13, ↓wp_fn0_14, ↓wp_fn0_15, ↓wp_fn0_16, ↓wp_fn1_1, ↓wp_fn1_2, ↓wp_fn1_3, ↓wp_fn1_4, ↓wp_fn1_5, ↓wp_fn1_6, ↓wp_fn1_7, ↓wp_fn1_8, ↓wp_fn1_9, ↓wp_fn1_10, ↓wp_fn1_11, ↓wp_fn1_12, ↓wp_fn1_13, ↓wp_fn1_14, ↓wp_fn1_15, ↓wp_fn1_16, ↓wp_fn1_17, ↓wp_fn2_2, ↓wp_fn2_3, ↓wp_fn2_4, ↓wp_fn2_5, ↓wp_fn2_6, ↓wp_fn2_7, ↓wp_fn2_8, ↓wp_fn2_9, ↓wp_fn2_10, ↓wp_fn2_11, ↓wp_fn2_12, ↓wp_fn2_13, ↓wp_fn2_14, ↓wp_fn2_15, ↓wp_fn2_16, ↓wp_fn2_17, ↓wp_fn2_18, ↓wp_fn3_3, ↓wp_fn3_4, ↓wp_fn3_5, ↓wp_fn3_6, ↓wp_fn3_7, ↓wp_fn3_8, ↓wp_fn3_9, ↓wp_fn3_10, ↓wp_fn3_11, ↓wp_fn3_12, ↓wp_fn3_13, ↓wp_fn3_14, ↓wp_fn3_15, ↓wp_fn3_16, ↓wp_fn3_17, ↓wp_fn3_18, ↓wp_fn3_19, ↓wp_fn4_4, ↓wp_fn4_5, ↓wp_fn4_6, ↓wp_fn4_7, ↓wp_fn4_8, ↓wp_fn4_9, ↓wp_fn4_10, ↓wp_fn4_11, ↓wp_fn4_12, ↓wp_fn4_13, ↓wp_fn4_14, ↓wp_fn4_15, ↓wp_fn4_16, ↓wp_fn4_17, ↓wp_fn4_18, ↓wp_fn4_19, ↓wp_fn4_20, ↓wp_fn5_5, ↓wp_fn5_6, ↓wp_fn5_7, ↓wp_fn5_8, ↓wp_fn5_9, ↓wp_fn5_10, ↓wp_fn5_11, ↓wp_fn5_12, ↓wp_fn5_13, ↓wp_fn5_14, ↓wp_fn5_15, ↓wp_fn5_16, ↓wp_fn5_17, ↓wp_fn5_18, ↓wp_fn5_19, ↓wp_fn5_20, ↓wp_fn5_21, ↓wp_fn6_6, ↓wp_fn6_7, ↓wp_fn6_8, ↓wp_fn6_9, ↓wp_fn6_10, ↓wp_fn6_11, ↓wp_fn6_12, ↓wp_fn6_13, ↓wp_fn6_14, ↓wp_fn6_15, ↓wp_fn6_16, ↓wp_fn6_17, ↓wp_fn6_18, ↓wp_fn6_19, ↓wp_fn6_20, ↓wp_fn6_21, ↓wp_fn6_22, ↓wp_fn7_7, ↓wp_fn7_8, ↓wp_fn7_9, ↓wp_fn7_10, ↓wp_fn7_11, ↓wp_fn7_12, ↓wp_fn7_13, ↓wp_fn7_14, ↓wp_fn7_15, ↓wp_fn7_16, ↓wp_fn7_17, ↓wp_fn7_18, ↓wp_fn7_19, ↓wp_fn7_20, ↓wp_fn7_21, ↓wp_fn7_22, ↓wp_fn7_23, ↓wp_fn8_8, ↓wp_fn8_9, ↓wp_fn8_10, ↓wp_fn8_11, ↓wp_fn8_12, ↓wp_fn8_13, ↓wp_fn8_14, ↓wp_fn8_15, ↓wp_fn8_16, ↓wp_fn8_17, ↓wp_fn8_18, ↓wp_fn8_19, ↓wp_fn8_20, ↓wp_fn8_21, ↓wp_fn8_22, ↓wp_fn8_23, ↓wp_fn8_24, ↓sq_nx, ↓sq_rt, ↓sq_bk, ↓sq_ct, ↓rdVar_dat, ↓rdVar_own, ↓rtVar_dat, ↓rtVar_own, ↓augQ_dat, ↓seqS_own, ↓seqS_bor, ↓seqS_dat, ↓finQ_nx, ↓finQ_rt, ↓turnQ_nx, ↓turnQ_ct, ↓turnQ_bk, ↓turnQ_rt, ↓endF_rt, ↓endF_nx, ↓newQ_new, ↓borE_ok, ↓borQ_pl, ↓rz1_one, ↓rz2_one, ↓asQ_rt, ↓asQ_nx, ↓setEQ_ok, ↓isNQ_exc, ↓isNQ_none, ↓fldQ_exc, ↓isEQ_exc, ↓gv_some, ↓gv_none, ↓reduceIte, ↓asD_dt, ↓asD_new, ↓isPl_dat, ↓isPl_own, ↓isPl_bor, ↓slD_dat, ↓slD_own, ↓slD_bor, ↓lslOwn, ↓lslBor, putL_own, putL_bor, slotOf_dt, slotOf_new, ↓asIint, ↓isB_bool, ↓truD_bool, ↓truD_none, ↓truD_int, ↓truD_list, ↓truD_tuple, ↓truR_dt, ↓truR_new, ↓rsl_dt, ↓rsl_pl, ocons_e, ↓rsls_nil, ↓rsls_cons, ↓dts_nil', ↓dts_cons, ↓outs_nil, ↓outs_bor, ↓outs_dat, stE_e, setAll_nil, setAll_cons, Option.map_some, Option.map_none, Option.bind_some, Option.bind_none, Option.isSome_none, Option.isSome_some, hideO_none, hideO_some, restO_none, restO_some, restS_hd, restT_some, wipeE_nil, wipeE_cons, backE_nil, backE_cons, keepD_dat, keepD_no, isOwn_dat, isOwn_own, Bool.false_and, Bool.true_and, Bool.and_false, Bool.and_true, Bool.not_true, Bool.not_false, List.map_cons, List.map_nil, List.cons_append, List.nil_append, List.append_nil, Nat.reduceAdd, List.length_cons, List.length_nil, List.length_map, Int.zero_add, ↓List.getElem?_cons_zero, ↓List.getElem?_cons_succ, ↓List.set_cons_zero, ↓List.set_cons_succ, sizeLine, Nat.reducePow, Nat.reduceLeDiff, true_and, and_true, eq_self, if_true, if_false, Bool.false_eq_true, decide_eq_true_eq, Bool.not_eq_true', decide_eq_false_iff_not, gMul_l, gMul_r, gMod_e, gDiv_e, gPow_e, Int.reducePow, gAdd_i, gSub_i, gNeg_i, gInt_i, gInt_b, gGt_i, gLt_i, gLe_i, gGe_i, gAbs_i, gLen_l, gLen_t, gLen_k, gList_l, gList_t, gList_k, gTuple_l, gTuple_t, gTuple_k, gIx_lo, gIx_to, gIx_k, atI_nn, Int.toNat_zero, Int.toNat_one, Int.toNat_natCast, Int.reduceToNat, gEq_i, gEq_s, gEq_b, gNe_i, gNe_s, ixN_nn, seqIx, rg1_e, rg2_e, seqD_l, seqD_t, seqD_k, lt2_l, lt2_t, lt2_k, gTp_k1, gTp_l1, gTp_t1, gTp_k2, gTp_l2, gTp_t2, gTp_k3, gTp_l3, gTp_t3, gTp_k4, gTp_l4, gTp_t4, gTp_k5, gTp_l5, gTp_t5, gCn_e, gN_e, gNl_e, gNe_b, zp2_ll, zp2_lt, zp2_lk, zp2_tl, zp2_tt, zp2_tk, zp2_kl, zp2_kt, zp2_kk, en1_l, gSl_l, gSl_t, cut_hi, cut_lo, cut_in, gAdd_l, gAdd_t, ↓isT_list_list, ↓isT_list_tuple, ↓isT_list_int, ↓isT_list_bool, ↓isT_list_str, ↓isT_tuple_list, ↓isT_tuple_tuple, ↓isT_tuple_int, ↓isT_tuple_bool, ↓isT_tuple_str, ↓isT_int_list, ↓isT_int_tuple, ↓isT_int_int, ↓isT_int_bool, ↓isT_int_str, ↓isT_bool_list, ↓isT_bool_tuple, ↓isT_bool_int, ↓isT_bool_bool, ↓isT_bool_str, ↓isT_str_list, ↓isT_str_tuple, ↓isT_str_int, ↓isT_str_bool, ↓isT_str_str, ↓isT_none_list, ↓isT_none_tuple, ↓isT_none_int, ↓isT_none_bool, ↓isT_none_str, gIsi_e, gIsi2_e, gIs_nn, gIs_i, gIs_b, gIs_s, gIs_l, gIs_t, gEq_nn, gLen_st, gAdd_st, gSl_st, gEq_st, gIx_alpha, stL_inj, lk1, Int.reduceEq, Int.reduceNeg, Int.reduceAdd, Int.reduceSub, rep2, Int.reduceLE, Int.reduceLT, Nat.reduceMul, and_self, fold_l, fold_t, tp_encS, tp_encQ, gIn_ints, gNotIn_ints, gIn_strs, gNotIn_strs, gNotIn_names, gIn_names, ix_encS, sd_encN, len_encN, Bool.or_false, Bool.or_true, Bool.true_or, Bool.false_or, decide_true, decide_false])
local macro_rules
  | `(tactic| obtain $p:rcasesPatMed := ($t:term :)) => `(tactic| (refine wp_nx $t (fun r q h => ?_); obtain $p := h; pv_eval))
theorem ones_sum : ∀ ls : List Nat, ((ls.map fun c => [c]).map List.length).sum = ls.length
  | [] => rfl
  | a :: r => by rw [List.map_cons, List.map_cons, List.sum_cons, ones_sum r]; simp; omega
theorem ones_flat : ∀ ls : List Nat, (ls.map fun c => [c]).flatten = ls
  | [] => rfl
  | a :: r => by rw [List.map_cons, List.flatten_cons, ones_flat r]; rfl
def tagAt (ls : List Nat) (a : Nat) (fi : Int) (i : Nat) : List Nat := ls.take a ++ [97 + ((fi + i) % 26).toNat] ++ ls.drop a
theorem tagAt_inj {ls : List Nat} {a : Nat} {fi : Int} {i j : Nat} (h0 : 0 ≤ fi) (hi : i < 26) (hj : j < 26) (e : tagAt ls a fi i = tagAt ls a fi j) : i = j := by
  unfold tagAt at e
  have e := List.append_cancel_right e
  have e := List.append_cancel_left e
  simp only [List.cons.injEq, and_true] at e
  omega
theorem tagAt_nm {ls : List Nat} {a : Nat} {fi : Int} {i : Nat} (h0 : 0 ≤ fi) (hl : ls.length ≤ 7) (hc : ∀ c ∈ ls, 97 ≤ c ∧ c ≤ 122) : Nm (tagAt ls a fi i) := by
  unfold tagAt
  have h := List.take_append_drop a ls
  have hlen : (ls.take a).length + (ls.drop a).length = ls.length := by rw [← List.length_append, h]
  refine ⟨by simp; omega, by simp only [List.length_append, List.length_cons, List.length_nil]; omega, fun c m => ?_⟩
  simp only [List.mem_append, List.mem_singleton] at m
  rcases m with (m | m) | m
  · exact hc c (List.mem_of_mem_take m)
  · omega
  · exact hc c (List.mem_of_mem_drop m)
theorem tags_nodup {ls : List Nat} {a : Nat} {fi : Int} {n : Nat} (h0 : 0 ≤ fi) (hn : n ≤ 26) : ((List.range n).map (tagAt ls a fi)).Nodup := by
  rw [List.nodup_iff_pairwise_ne, List.pairwise_map]
  refine List.Pairwise.imp_of_mem ?_ (List.nodup_range (n := n))
  intro i j hi hj hne e
  simp only [List.mem_range] at hi hj
  exact hne (tagAt_inj h0 (by omega) (by omega) e)
theorem perm_map {α β : Type} {f : α → β} {ys : List β} {xs : List α} (h : ys.Perm (xs.map f)) : ∃ zs : List α, ys = zs.map f ∧ zs.Perm xs := by
  generalize e : xs.map f = l at h
  induction h generalizing xs with
  | nil => exact ⟨[], rfl, by cases xs with | nil => exact .nil | cons a r => simp at e⟩
  | cons x h ih =>
    cases xs with
    | nil => simp at e
    | cons a r =>
      simp only [List.map_cons, List.cons.injEq] at e
      obtain ⟨zs, e1, e2⟩ := ih e.2
      exact ⟨a :: zs, by simp [e1, e.1], e2.cons a⟩
  | swap x y l =>
    match xs, e with
    | a :: b :: r, e =>
      simp only [List.map_cons, List.cons.injEq] at e
      exact ⟨b :: a :: r, by simp [e.1, e.2.1, e.2.2], .swap _ _ _⟩
  | trans h1 h2 ih1 ih2 =>
    obtain ⟨zs, e1, e2⟩ := ih2 e
    obtain ⟨ws, e3, e4⟩ := ih1 e1.symm
    exact ⟨ws, e3, e4.trans e2⟩
end Lw
end

section
set_option Elab.async false
set_option linter.all false
set_option maxRecDepth 100000
set_option maxHeartbeats 4000000
namespace Lw
open PySem PySem.Spec PyProof.Rows L2 Dl
local macro_rules | `(tactic| pv_eval) => `(tactic| try simp (config := {maxSteps := 10000000, implicitDefEqProofs := false}) (disch := first | omega | (simp only [List.length_append, List.length_cons, List.length_nil, List.length_map]; omega)) only [↓wp_val, ↓wp_none, ↓wp_ex, ↓wp_ret, ↓wp_bnd, ↓wp_lft, ↓wp_eD, ↓wp_oE, ↓wp_oN, ↓wp_vNil, ↓wp_vCons, ↓wp_xB, ↓wp_xC, ↓wp_xVar, ↓wp_xTst, ↓wp_xTru, ↓wp_tYes, ↓wp_xNot, ↓wp_xAnd, ↓wp_xOr, ↓wp_xIf, ↓wp_yIf, ↓wp_xOrV, ↓wp_xAndV, ↓wp_xNotV, ↓wp_xTup, ↓wp_xLst, ↓wp_sNo, ↓wp_sAt, ↓wp_xSl, ↓wp_yPass, ↓wp_seq, ↓wp_yExpr, ↓wp_yRet, ↓wp_yRetV, ↓wp_ySet, ↓wp_yL, ↓wp_yD, ↓wp_ySetI, ↓wp_xApp, ↓wp_xPopAt, ↓wp_yAsg, ↓wp_yPar, ↓wp_rNil, ↓wp_rCons, ↓wp_yAug, ↓wp_zSeqN, ↓wp_zSeqE, ↓wp_zRg1, ↓wp_zRg2, ↓wp_zZip, ↓wp_zEnum, ↓wp_zEn2, zp2_nt, zp2_nl, zp2_nk, en2_n, ix_encN, cut_m, en2_l, en2_t, en2_k, gRv_l, gRv_t, ↓wp_fn0_17, ↓wp_fn0_18, ↓wp_fn0_19, ↓wp_fn0_20, ↓wp_fn0_21, ↓wp_fn0_22, ↓wp_fn0_23, ↓wp_fn0_24, ↓wp_fn0_25, ↓wp_fn0_26, ↓wp_fn0_27, ↓wp_fn0_28, ↓wp_fn0_29, ↓wp_fn1_18, ↓wp_fn1_19, ↓wp_fn1_20, ↓wp_fn1_21, ↓wp_fn1_22, ↓wp_fn1_23, ↓wp_fn1_24, ↓wp_fn1_25, ↓wp_fn1_26, ↓wp_fn1_27, ↓wp_fn1_28, ↓wp_fn1_29, ↓wp_fn1_30, ↓wp_fn2_19, ↓wp_fn2_20, ↓wp_fn2_21, ↓wp_fn2_22, ↓wp_fn2_23, ↓wp_fn2_24, ↓wp_fn2_25, ↓wp_fn2_26, ↓wp_fn2_27, ↓wp_fn2_28, ↓wp_fn2_29, ↓wp_fn2_30, ↓wp_fn2_31, ↓wp_fn3_20, ↓wp_fn3_21, ↓wp_fn3_22, ↓wp_fn3_23, ↓wp_fn3_24, ↓wp_fn3_25, ↓wp_fn3_26, ↓wp_fn3_27, ↓wp_fn3_28, ↓wp_fn3_29, ↓wp_fn3_30, ↓wp_fn3_31, ↓wp_fn3_32, ↓wp_fn4_21, ↓wp_fn4_22, ↓wp_fn4_23, ↓wp_fn4_24, ↓wp_fn4_25, ↓wp_fn4_26, ↓wp_fn4_27, ↓wp_fn4_28, ↓wp_fn4_29, ↓wp_fn4_30, ↓wp_fn4_31, ↓wp_fn4_32, ↓wp_fn4_33, ↓wp_fn5_22, ↓wp_fn5_23, ↓wp_fn5_24, ↓wp_fn5_25, ↓wp_fn5_26, ↓wp_fn5_27, ↓wp_fn5_28, ↓wp_fn5_29, ↓wp_fn5_30, ↓wp_fn5_31, ↓wp_fn5_32, ↓wp_fn5_33, ↓wp_fn6_23, ↓wp_fn6_24, ↓wp_fn6_25, ↓wp_fn6_26, ↓wp_fn6_27, ↓wp_fn6_28, ↓wp_fn6_29, ↓wp_fn6_30, ↓wp_fn6_31, ↓wp_fn6_32, ↓wp_fn6_33, ↓wp_fn7_24, ↓wp_fn7_25, ↓wp_fn7_26, ↓wp_fn7_27, ↓wp_fn7_28, ↓wp_fn7_29, ↓wp_fn7_30, ↓wp_fn7_31, ↓wp_fn7_32, ↓wp_fn7_33, ↓wp_fn8_25, ↓wp_fn8_26, ↓wp_fn8_27, ↓wp_fn8_28, ↓wp_fn8_29, ↓wp_fn8_30, ↓wp_fn8_31, ↓wp_fn8_32, ↓wp_fn8_33, ↓wp_yFor, ↓wp_oI, ↓wp_xChI, ↓wp_xTR1, ↓wp_xTR2, ↓wp_xDsp1, ↓wp_xDinN, ↓wp_xDnoN, ↓wp_xDinE, ↓wp_yDct, ↓wp_xDget, ↓wp_yDput, ↓dctQ_e, ↓wp_yAugB, ↓augBQ_e, ↓wp_yAugI, ↓intQ_e, gAddI_i, ↓wp_xRepN, ↓newQ'_e, ↓newdQ_e, ↓rtVar_dct, ↓isPl_dct, ↓keyOf_i, ↓keyOf_s, slotOf_newd, gRev_l, ↓wp_forNil, ↓wp_xLc, ↓lcStep_e, id_eq, ↓wp_callD, ↓wp_callK, ↓wp_callN, ↓wp_callB, ↓wp_yRaise, ↓wp_yRaise2, ↓wp_yTry, ↓wp_hNil, ↓wp_hAs, ↓wp_hNo, ↓wp_ySetE, ↓wp_xIsN, ↓wp_xFld, ↓wp_xIsE, ↓wp_fn0_0, ↓wp_fn0_1, ↓wp_fn0_2, ↓wp_fn0_3, ↓wp_fn0_4, ↓wp_fn0_5, ↓wp_fn0_6, ↓wp_fn0_7, ↓wp_fn0_8, ↓wp_fn0_9, ↓wp_fn0_10, ↓wp_fn0_11, ↓wp_fn0_12, ↓wp_fn0_13, ↓wp_fn0_14, ↓wp_fn0_15, ↓wp_fn0_16, ↓wp_fn1_1, ↓wp_fn1_2, ↓wp_fn1_3, ↓wp_fn1_4, ↓wp_fn1_5, ↓wp_fn1_6, ↓wp_fn1_7, ↓wp_fn1_8, ↓wp_fn1_9, ↓wp_fn1_10, ↓wp_fn1_11, ↓wp_fn1_12, ↓wp_fn1_13, ↓wp_fn1_14, ↓wp_fn1_15, ↓wp_fn1_16, ↓wp_fn1_17, ↓wp_fn2_2, ↓wp_fn2_3, ↓wp_fn2_4, ↓wp_fn2_5, ↓wp_fn2_6, ↓wp_fn2_7, ↓wp_fn2_8, ↓wp_fn2_9, ↓wp_fn2_10, ↓wp_fn2_11, ↓wp_fn2_12, ↓wp_fn2_13, ↓wp_fn2_14, ↓wp_fn2_15, ↓wp_fn2_16, ↓wp_fn2_17, ↓wp_fn2_18, ↓wp_fn3_3, ↓wp_fn3_4, ↓wp_fn3_5, ↓wp_fn3_6, ↓wp_fn3_7, ↓wp_fn3_8, ↓wp_fn3_9, ↓wp_fn3_10, ↓wp_fn3_11, ↓wp_fn3_12, ↓wp_fn3_13, ↓wp_fn3_14, ↓wp_fn3_15, ↓wp_fn3_16, ↓wp_fn3_17, ↓wp_fn3_18, ↓wp_fn3_19, ↓wp_fn4_4, ↓wp_fn4_5, ↓wp_fn4_6, ↓wp_fn4_7, ↓wp_fn4_8, ↓wp_fn4_9, ↓wp_fn4_10, ↓wp_fn4_11, ↓wp_fn4_12, ↓wp_fn4_13, ↓wp_fn4_14, ↓wp_fn4_15, ↓wp_fn4_16, ↓wp_fn4_17, ↓wp_fn4_18, ↓wp_fn4_19, ↓wp_fn4_20, ↓wp_fn5_5, ↓wp_fn5_6, ↓wp_fn5_7, ↓wp_fn5_8, ↓wp_fn5_9, ↓wp_fn5_10, ↓wp_fn5_11, ↓wp_fn5_12, ↓wp_fn5_13, ↓wp_fn5_14, ↓wp_fn5_15, ↓wp_fn5_16, ↓wp_fn5_17, ↓wp_fn5_18, ↓wp_fn5_19, ↓wp_fn5_20, ↓wp_fn5_21, ↓wp_fn6_6, ↓wp_fn6_7, ↓wp_fn6_8, ↓wp_fn6_9, ↓wp_fn6_10, ↓wp_fn6_11, ↓wp_fn6_12, ↓wp_fn6_13, ↓wp_fn6_14, ↓wp_fn6_15, ↓wp_fn6_16, ↓wp_fn6_17, ↓wp_fn6_18, ↓wp_fn6_19, ↓wp_fn6_20, ↓wp_fn6_21, ↓wp_fn6_22, ↓wp_fn7_7, ↓wp_fn7_8, ↓wp_fn7_9, ↓wp_fn7_10, ↓wp_fn7_11, ↓wp_fn7_12, ↓wp_fn7_13, ↓wp_fn7_14, ↓wp_fn7_15, ↓wp_fn7_16, ↓wp_fn7_17, ↓wp_fn7_18, ↓wp_fn7_19, ↓wp_fn7_20, ↓wp_fn7_21, ↓wp_fn7_22, ↓wp_fn7_23, ↓wp_fn8_8, ↓wp_fn8_9, ↓wp_fn8_10, ↓wp_fn8_11, ↓wp_fn8_12, ↓wp_fn8_13, ↓wp_fn8_14, ↓wp_fn8_15, ↓wp_fn8_16, ↓wp_fn8_17, ↓wp_fn8_18, ↓wp_fn8_19, ↓wp_fn8_20, ↓wp_fn8_21, ↓wp_fn8_22, ↓wp_fn8_23, ↓wp_fn8_24, ↓sq_nx, ↓sq_rt, ↓sq_bk, ↓sq_ct, ↓rdVar_dat, ↓rdVar_own, ↓rtVar_dat, ↓rtVar_own, ↓augQ_dat, ↓seqS_own, ↓seqS_bor, ↓seqS_dat, ↓finQ_nx, ↓finQ_rt, ↓turnQ_nx, ↓turnQ_ct, ↓turnQ_bk, ↓turnQ_rt, ↓endF_rt, ↓endF_nx, ↓newQ_new, ↓borE_ok, ↓borQ_pl, ↓rz1_one, ↓rz2_one, ↓asQ_rt, ↓asQ_nx, ↓setEQ_ok, ↓isNQ_exc, ↓isNQ_none, ↓fldQ_exc, ↓isEQ_exc, ↓gv_some, ↓gv_none, ↓reduceIte, ↓asD_dt, ↓asD_new, ↓isPl_dat, ↓isPl_own, ↓isPl_bor, ↓slD_dat, ↓slD_own, ↓slD_bor, ↓lslOwn, ↓lslBor, putL_own, putL_bor, slotOf_dt, slotOf_new, ↓asIint, ↓isB_bool, ↓truD_bool, ↓truD_none, ↓truD_int, ↓truD_list, ↓truD_tuple, ↓truR_dt, ↓truR_new, ↓rsl_dt, ↓rsl_pl, ocons_e, ↓rsls_nil, ↓rsls_cons, ↓dts_nil', ↓dts_cons, ↓outs_nil, ↓outs_bor, ↓outs_dat, stE_e, setAll_nil, setAll_cons, Option.map_some, Option.map_none, Option.bind_some, Option.bind_none, Option.isSome_none, Option.isSome_some, hideO_none, hideO_some, restO_none, restO_some, restS_hd, restT_some, wipeE_nil, wipeE_cons, backE_nil, backE_cons, keepD_dat, keepD_no, isOwn_dat, isOwn_own, Bool.false_and, Bool.true_and, Bool.and_false, Bool.and_true, Bool.not_true, Bool.not_false, List.map_cons, List.map_nil, List.cons_append, List.nil_append, List.append_nil, Nat.reduceAdd, List.length_cons, List.length_nil, List.length_map, Int.zero_add, ↓List.getElem?_cons_zero, ↓List.getElem?_cons_succ, ↓List.set_cons_zero, ↓List.set_cons_succ, sizeLine, Nat.reducePow, Nat.reduceLeDiff, true_and, and_true, eq_self, if_true, if_false, Bool.false_eq_true, decide_eq_true_eq, Bool.not_eq_true', decide_eq_false_iff_not, gMul_l, gMul_r, gMod_e, gDiv_e, gPow_e, Int.reducePow, gAdd_i, gSub_i, gNeg_i, gInt_i, gInt_b, gGt_i, gLt_i, gLe_i, gGe_i, gAbs_i, gLen_l, gLen_t, gLen_k, gList_l, gList_t, gList_k, gTuple_l, gTuple_t, gTuple_k, gIx_lo, gIx_to, gIx_k, atI_nn, Int.toNat_zero, Int.toNat_one, Int.toNat_natCast, Int.reduceToNat, gEq_i, gEq_s, gEq_b, gNe_i, gNe_s, ixN_nn, seqIx, rg1_e, rg2_e, seqD_l, seqD_t, seqD_k, lt2_l, lt2_t, lt2_k, gTp_k1, gTp_l1, gTp_t1, gTp_k2, gTp_l2, gTp_t2, gTp_k3, gTp_l3, gTp_t3, gTp_k4, gTp_l4, gTp_t4, gTp_k5, gTp_l5, gTp_t5, gCn_e, gN_e, gNl_e, gNe_b, zp2_ll, zp2_lt, zp2_lk, zp2_tl, zp2_tt, zp2_tk, zp2_kl, zp2_kt, zp2_kk, en1_l, gSl_l, gSl_t, cut_hi, cut_lo, cut_in, gAdd_l, gAdd_t, ↓isT_list_list, ↓isT_list_tuple, ↓isT_list_int, ↓isT_list_bool, ↓isT_list_str, ↓isT_tuple_list, ↓isT_tuple_tuple, ↓isT_tuple_int, ↓isT_tuple_bool, ↓isT_tuple_str, ↓isT_int_list, ↓isT_int_tuple, ↓isT_int_int, ↓isT_int_bool, ↓isT_int_str, ↓isT_bool_list, ↓isT_bool_tuple, ↓isT_bool_int, ↓isT_bool_bool, ↓isT_bool_str, ↓isT_str_list, ↓isT_str_tuple, ↓isT_str_int, ↓isT_str_bool, ↓isT_str_str, ↓isT_none_list, ↓isT_none_tuple, ↓isT_none_int, ↓isT_none_bool, ↓isT_none_str, gIsi_e, gIsi2_e, gIs_nn, gIs_i, gIs_b, gIs_s, gIs_l, gIs_t, gEq_nn, gLen_st, gAdd_st, gSl_st, gEq_st, gIx_alpha, stL_inj, lk1, Int.reduceEq, Int.reduceNeg, Int.reduceAdd, Int.reduceSub, rep2, Int.reduceLE, Int.reduceLT, Nat.reduceMul, and_self, fold_l, fold_t, tp_encS, tp_encQ, gIn_ints, gNotIn_ints, gIn_strs, gNotIn_strs, gNotIn_names, gIn_names, ix_encS, sd_encN, len_encN, Bool.or_false, Bool.or_true, Bool.true_or, Bool.false_or, decide_true, decide_false])
local macro_rules
  | `(tactic| obtain $p:rcasesPatMed := ($t:term :)) => `(tactic| (refine wp_nx $t (fun r q h => ?_); obtain $p := h; pv_eval))
theorem tags_ok {b : List PyData} {m n : Int} (hb : Bx m b) (h0 : 0 ≤ m) (hm : m < 900000) (hn0 : 0 ≤ n) (hn : n ≤ 26) : wp (x__law_tags [.bor b, .dat (.int n)]) (fun r q => ∃ (ns : List (List Nat)) (b' : List PyData), r = .new (ns.map fun x => .str (stL x)) ∧ (ns.length : Int) = n ∧ ns.Nodup ∧ (∀ x ∈ ns, Nm x) ∧ q = [.bor b', .dat (.int n)] ∧ Bx (m + n + 10) b') nX := by
  unfold x__law_tags
  pv_eval
  refine wp_nx (of_l hb (by omega) (by simp) (by simp)) fun r q h => ?_
  obtain ⟨i, d, b1, e1, rfl, rfl, hb1⟩ := h
  have hv : ∃ v : Int, d = .int v ∧ 0 ≤ v ∧ v ≤ 7 := by
    have := List.mem_of_getElem? e1
    simp only [List.mem_cons, List.mem_nil_iff, or_false] at this
    rcases this with rfl | rfl | rfl | rfl | rfl <;> exact ⟨_, rfl, by omega, by omega⟩
  obtain ⟨v, rfl, hv0, hv7⟩ := hv
  pv_eval
  rw [rangeD_len]
  refine ⟨by omega, ?_⟩
  refine lc_range (fun lo k acc ρ => ∃ (b : List PyData) (ls : List Nat), acc = (ls.map fun c => [c]).map (fun x => PyData.str (stL x)) ∧ (∀ c ∈ ls, 97 ≤ c ∧ c ≤ 122) ∧ ls.length + k = v.toNat ∧ Bx (m + 1 + ls.length) b ∧ ρ = [.bor b, .dat (.int n), .dat (.str (Str.ofString "abcdefghijklmnopqrstuvwxyz")), .own [], .no, .no, .no, .no, .no, .no]) (acc := []) ⟨b1, [], rfl, by simp, by simp, by simpa using hb1, rfl⟩ ?_ ?_
  · intro lo k acc ρ ⟨b, ls, e, hc, hl, hb, e2⟩
    subst e e2
    pv_eval
    refine wp_nx (take_ok hb (by omega) (by omega) (by omega)) fun r q h => ?_
    obtain ⟨j, b', rfl, rfl, hi0, hi1, hb'⟩ := h
    pv_eval
    refine ⟨b', ls ++ [97 + j.toNat], by simp, ?_, by simp; omega, by simpa [Int.add_assoc] using hb', rfl⟩
    intro c hc'
    rcases List.mem_append.mp hc' with h | h
    · exact hc c h
    · simp at h; omega
  · intro lo xs ρ ⟨b, ls, e, hc, hl, hb, e2⟩
    subst e2
    simp only [List.nil_append] at e
    subst e
    have hl : ls.length = v.toNat := by omega
    have hs := ones_sum ls
    have hf := ones_flat ls
    pv_eval
    rw [gJoin_e (by omega), hf]
    pv_eval
    refine wp_nx (take_ok hb (by omega) (by omega) (by omega)) fun r q h => ?_
    obtain ⟨at', b2, rfl, rfl, ha0, ha1, hb2⟩ := h
    pv_eval
    refine wp_nx (take_ok hb2 (by omega) (by omega) (by omega)) fun r q h => ?_
    obtain ⟨fi, b3, rfl, rfl, hf0, hf1, hb3⟩ := h
    pv_eval
    refine for_range (fun lo k ρ => ∃ a c, 0 ≤ lo ∧ lo + k = n ∧ ρ = [.bor b3, .dat (.int n), .dat (.str (Str.ofString "abcdefghijklmnopqrstuvwxyz")), .own (((List.range lo.toNat).map (tagAt ls at'.toNat fi)).map fun x => PyData.str (stL x)), .no, .dat (.str (stL ls)), .dat (.int at'), .dat (.int fi), a, c]) ⟨.no, .no, by omega, by omega, rfl⟩ ?_ ?_
    · intro lo k ρ ⟨a, c, hlo, hk, e⟩
      subst e
      pv_eval
      have hl1 : (ls.take at'.toNat).length ≤ 7 := by simp; omega
      have hl2 : (ls.drop at'.toNat).length ≤ 7 := by simp; omega
      pv_eval
      have e : (lo + 1).toNat = lo.toNat + 1 := by omega
      have e2 : ((lo.toNat : Nat) : Int) = lo := by omega
      have e3 : tagAt ls at'.toNat fi lo.toNat = List.take at'.toNat ls ++ [97 + ((fi + lo) % 26).toNat] ++ List.drop at'.toNat ls := by rw [tagAt, e2]
      simp only [e, List.range_succ, List.map_append, List.map_singleton, e3]
      exact ⟨by simp; omega, _, _, by omega, by omega, rfl⟩
    · intro lo ρ ⟨a, c, hlo, hk, e⟩
      subst e
      have : lo = n := by omega
      subst this
      pv_eval
      refine wp_nx (mixed_l hb3 (by omega) (by simp; omega)) fun r q h => ?_
      obtain ⟨ys, b4, rfl, hp, rfl, hb4⟩ := h
      pv_eval
      rw [List.map_map] at hp
      obtain ⟨ns, rfl, hp2⟩ := perm_map hp
      refine ⟨(ns.map (tagAt ls at'.toNat fi)), b4, by rw [List.map_map], ?_, ?_, ?_, rfl, hb4.mono ?_⟩
      · have := hp2.length_eq; simp at this ⊢; omega
      · have := hp2.map (tagAt ls at'.toNat fi)
        exact this.symm.nodup (tags_nodup hf0 (by omega))
      · intro x hx
        obtain ⟨i, _, rfl⟩ := List.mem_map.mp hx
        exact tagAt_nm hf0 (by omega) hc
      · simp; omega
end Lw
end

section
set_option Elab.async false
set_option linter.all false
set_option maxRecDepth 100000
set_option maxHeartbeats 4000000
namespace Lw
open PySem PySem.Spec PyProof.Rows L2 Dl
local macro_rules | `(tactic| pv_eval) => `(tactic| try simp (config := {maxSteps := 10000000, implicitDefEqProofs := false}) (disch := first | omega | (simp only [List.length_append, List.length_cons, List.length_nil, List.length_map]; omega)) only [↓wp_val, ↓wp_none, ↓wp_ex, ↓wp_ret, ↓wp_bnd, ↓wp_lft, ↓wp_eD, ↓wp_oE, ↓wp_oN, ↓wp_vNil, ↓wp_vCons, ↓wp_xB, ↓wp_xC, ↓wp_xVar, ↓wp_xTst, ↓wp_xTru, ↓wp_tYes, ↓wp_xNot, ↓wp_xAnd, ↓wp_xOr, ↓wp_xIf, ↓wp_yIf, ↓wp_xOrV, ↓wp_xAndV, ↓wp_xNotV, ↓wp_xTup, ↓wp_xLst, ↓wp_sNo, ↓wp_sAt, ↓wp_xSl, ↓wp_yPass, ↓wp_seq, ↓wp_yExpr, ↓wp_yRet, ↓wp_yRetV, ↓wp_ySet, ↓wp_yL, ↓wp_yD, ↓wp_ySetI, ↓wp_xApp, ↓wp_xPopAt, ↓wp_yAsg, ↓wp_yPar, ↓wp_rNil, ↓wp_rCons, ↓wp_yAug, ↓wp_zSeqN, ↓wp_zSeqE, ↓wp_zRg1, ↓wp_zRg2, ↓wp_zZip, ↓wp_zEnum, ↓wp_zEn2, zp2_nt, zp2_nl, zp2_nk, en2_n, ix_encN, cut_m, en2_l, en2_t, en2_k, gRv_l, gRv_t, ↓wp_fn0_17, ↓wp_fn0_18, ↓wp_fn0_19, ↓wp_fn0_20, ↓wp_fn0_21, ↓wp_fn0_22, ↓wp_fn0_23, ↓wp_fn0_24, ↓wp_fn0_25, ↓wp_fn0_26, ↓wp_fn0_27, ↓wp_fn0_28, ↓wp_fn0_29, ↓wp_fn1_18, ↓wp_fn1_19, ↓wp_fn1_20, ↓wp_fn1_21, ↓wp_fn1_22, ↓wp_fn1_23, ↓wp_fn1_24, ↓wp_fn1_25, ↓wp_fn1_26, ↓wp_fn1_27, ↓wp_fn1_28, ↓wp_fn1_29, ↓wp_fn1_30, ↓wp_fn2_19, ↓wp_fn2_20, ↓wp_fn2_21, ↓wp_fn2_22, ↓wp_fn2_23, ↓wp_fn2_24, ↓wp_fn2_25, ↓wp_fn2_26, ↓wp_fn2_27, ↓wp_fn2_28, ↓wp_fn2_29, ↓wp_fn2_30, ↓wp_fn2_31, ↓wp_fn3_20, ↓wp_fn3_21, ↓wp_fn3_22, ↓wp_fn3_23, ↓wp_fn3_24, ↓wp_fn3_25, ↓wp_fn3_26, ↓wp_fn3_27, ↓wp_fn3_28, ↓wp_fn3_29, ↓wp_fn3_30, ↓wp_fn3_31, ↓wp_fn3_32, ↓wp_fn4_21, ↓wp_fn4_22, ↓wp_fn4_23, ↓wp_fn4_24, ↓wp_fn4_25, ↓wp_fn4_26, ↓wp_fn4_27, ↓wp_fn4_28, ↓wp_fn4_29, ↓wp_fn4_30, ↓wp_fn4_31, ↓wp_fn4_32, ↓wp_fn4_33, ↓wp_fn5_22, ↓wp_fn5_23, ↓wp_fn5_24, ↓wp_fn5_25, ↓wp_fn5_26, ↓wp_fn5_27, ↓wp_fn5_28, ↓wp_fn5_29, ↓wp_fn5_30, ↓wp_fn5_31, ↓wp_fn5_32, ↓wp_fn5_33, ↓wp_fn6_23, ↓wp_fn6_24, ↓wp_fn6_25, ↓wp_fn6_26, ↓wp_fn6_27, ↓wp_fn6_28, ↓wp_fn6_29, ↓wp_fn6_30, ↓wp_fn6_31, ↓wp_fn6_32, ↓wp_fn6_33, ↓wp_fn7_24, ↓wp_fn7_25, ↓wp_fn7_26, ↓wp_fn7_27, ↓wp_fn7_28, ↓wp_fn7_29, ↓wp_fn7_30, ↓wp_fn7_31, ↓wp_fn7_32, ↓wp_fn7_33, ↓wp_fn8_25, ↓wp_fn8_26, ↓wp_fn8_27, ↓wp_fn8_28, ↓wp_fn8_29, ↓wp_fn8_30, ↓wp_fn8_31, ↓wp_fn8_32, ↓wp_fn8_33, ↓wp_yFor, ↓wp_oI, ↓wp_xChI, ↓wp_xTR1, ↓wp_xTR2, ↓wp_xDsp1, ↓wp_xDinN, ↓wp_xDnoN, ↓wp_xDinE, ↓wp_yDct, ↓wp_xDget, ↓wp_yDput, ↓dctQ_e, ↓wp_yAugB, ↓augBQ_e, ↓wp_yAugI, ↓intQ_e, gAddI_i, ↓wp_xRepN, ↓newQ'_e, ↓newdQ_e, ↓rtVar_dct, ↓isPl_dct, ↓keyOf_i, ↓keyOf_s, slotOf_newd, gRev_l, ↓wp_forNil, ↓wp_xLc, ↓lcStep_e, id_eq, ↓wp_callD, ↓wp_callK, ↓wp_callN, ↓wp_callB, ↓wp_yRaise, ↓wp_yRaise2, ↓wp_yTry, ↓wp_hNil, ↓wp_hAs, ↓wp_hNo, ↓wp_ySetE, ↓wp_xIsN, ↓wp_xFld, ↓wp_xIsE, ↓wp_fn0_0, ↓wp_fn0_1, ↓wp_fn0_2, ↓wp_fn0_3, ↓wp_fn0_4, ↓wp_fn0_5, ↓wp_fn0_6, ↓wp_fn0_7, ↓wp_fn0_8, ↓wp_fn0_9, ↓wp_fn0_10, ↓wp_fn0_11, ↓wp_fn0_12, ↓wp_fn0_13, ↓wp_fn0_14, ↓wp_fn0_15, ↓wp_fn0_16, ↓wp_fn1_1, ↓wp_fn1_2, ↓wp_fn1_3, ↓wp_fn1_4, ↓wp_fn1_5, ↓wp_fn1_6, ↓wp_fn1_7, ↓wp_fn1_8, ↓wp_fn1_9, ↓wp_fn1_10, ↓wp_fn1_11, ↓wp_fn1_12, ↓wp_fn1_13, ↓wp_fn1_14, ↓wp_fn1_15, ↓wp_fn1_16, ↓wp_fn1_17, ↓wp_fn2_2, ↓wp_fn2_3, ↓wp_fn2_4, ↓wp_fn2_5, ↓wp_fn2_6, ↓wp_fn2_7, ↓wp_fn2_8, ↓wp_fn2_9, ↓wp_fn2_10, ↓wp_fn2_11, ↓wp_fn2_12, ↓wp_fn2_13, ↓wp_fn2_14, ↓wp_fn2_15, ↓wp_fn2_16, ↓wp_fn2_17, ↓wp_fn2_18, ↓wp_fn3_3, ↓wp_fn3_4, ↓wp_fn3_5, ↓wp_fn3_6, ↓wp_fn3_7, ↓wp_fn3_8, ↓wp_fn3_9, ↓wp_fn3_10, ↓wp_fn3_11, ↓wp_fn3_12, ↓wp_fn3_13, ↓wp_fn3_14, ↓wp_fn3_15, ↓wp_fn3_16, ↓wp_fn3_17, ↓wp_fn3_18, ↓wp_fn3_19, ↓wp_fn4_4, ↓wp_fn4_5, ↓wp_fn4_6, ↓wp_fn4_7, ↓wp_fn4_8, ↓wp_fn4_9, ↓wp_fn4_10, ↓wp_fn4_11, ↓wp_fn4_12, ↓wp_fn4_13, ↓wp_fn4_14, ↓wp_fn4_15, ↓wp_fn4_16, ↓wp_fn4_17, ↓wp_fn4_18, ↓wp_fn4_19, ↓wp_fn4_20, ↓wp_fn5_5, ↓wp_fn5_6, ↓wp_fn5_7, ↓wp_fn5_8, ↓wp_fn5_9, ↓wp_fn5_10, ↓wp_fn5_11, ↓wp_fn5_12, ↓wp_fn5_13, ↓wp_fn5_14, ↓wp_fn5_15, ↓wp_fn5_16, ↓wp_fn5_17, ↓wp_fn5_18, ↓wp_fn5_19, ↓wp_fn5_20, ↓wp_fn5_21, ↓wp_fn6_6, ↓wp_fn6_7, ↓wp_fn6_8, ↓wp_fn6_9, ↓wp_fn6_10, ↓wp_fn6_11, ↓wp_fn6_12, ↓wp_fn6_13, ↓wp_fn6_14, ↓wp_fn6_15, ↓wp_fn6_16, ↓wp_fn6_17, ↓wp_fn6_18, ↓wp_fn6_19, ↓wp_fn6_20, ↓wp_fn6_21, ↓wp_fn6_22, ↓wp_fn7_7, ↓wp_fn7_8, ↓wp_fn7_9, ↓wp_fn7_10, ↓wp_fn7_11, ↓wp_fn7_12, ↓wp_fn7_13, ↓wp_fn7_14, ↓wp_fn7_15, ↓wp_fn7_16, ↓wp_fn7_17, ↓wp_fn7_18, ↓wp_fn7_19, ↓wp_fn7_20, ↓wp_fn7_21, ↓wp_fn7_22, ↓wp_fn7_23, ↓wp_fn8_8, ↓wp_fn8_9, ↓wp_fn8_10, ↓wp_fn8_11, ↓wp_fn8_12, ↓wp_fn8_13, ↓wp_fn8_14, ↓wp_fn8_15, ↓wp_fn8_16, ↓wp_fn8_17, ↓wp_fn8_18, ↓wp_fn8_19, ↓wp_fn8_20, ↓wp_fn8_21, ↓wp_fn8_22, ↓wp_fn8_23, ↓wp_fn8_24, ↓sq_nx, ↓sq_rt, ↓sq_bk, ↓sq_ct, ↓rdVar_dat, ↓rdVar_own, ↓rtVar_dat, ↓rtVar_own, ↓augQ_dat, ↓seqS_own, ↓seqS_bor, ↓seqS_dat, ↓finQ_nx, ↓finQ_rt, ↓turnQ_nx, ↓turnQ_ct, ↓turnQ_bk, ↓turnQ_rt, ↓endF_rt, ↓endF_nx, ↓newQ_new, ↓borE_ok, ↓borQ_pl, ↓rz1_one, ↓rz2_one, ↓asQ_rt, ↓asQ_nx, ↓setEQ_ok, ↓isNQ_exc, ↓isNQ_none, ↓fldQ_exc, ↓isEQ_exc, ↓gv_some, ↓gv_none, ↓reduceIte, ↓asD_dt, ↓asD_new, ↓isPl_dat, ↓isPl_own, ↓isPl_bor, ↓slD_dat, ↓slD_own, ↓slD_bor, ↓lslOwn, ↓lslBor, putL_own, putL_bor, slotOf_dt, slotOf_new, ↓asIint, ↓isB_bool, ↓truD_bool, ↓truD_none, ↓truD_int, ↓truD_list, ↓truD_tuple, ↓truR_dt, ↓truR_new, ↓rsl_dt, ↓rsl_pl, ocons_e, ↓rsls_nil, ↓rsls_cons, ↓dts_nil', ↓dts_cons, ↓outs_nil, ↓outs_bor, ↓outs_dat, stE_e, setAll_nil, setAll_cons, Option.map_some, Option.map_none, Option.bind_some, Option.bind_none, Option.isSome_none, Option.isSome_some, hideO_none, hideO_some, restO_none, restO_some, restS_hd, restT_some, wipeE_nil, wipeE_cons, backE_nil, backE_cons, keepD_dat, keepD_no, isOwn_dat, isOwn_own, Bool.false_and, Bool.true_and, Bool.and_false, Bool.and_true, Bool.not_true, Bool.not_false, List.map_cons, List.map_nil, List.cons_append, List.nil_append, List.append_nil, Nat.reduceAdd, List.length_cons, List.length_nil, List.length_map, Int.zero_add, ↓List.getElem?_cons_zero, ↓List.getElem?_cons_succ, ↓List.set_cons_zero, ↓List.set_cons_succ, sizeLine, Nat.reducePow, Nat.reduceLeDiff, true_and, and_true, eq_self, if_true, if_false, Bool.false_eq_true, decide_eq_true_eq, Bool.not_eq_true', decide_eq_false_iff_not, gMul_l, gMul_r, gMod_e, gDiv_e, gPow_e, Int.reducePow, gAdd_i, gSub_i, gNeg_i, gInt_i, gInt_b, gGt_i, gLt_i, gLe_i, gGe_i, gAbs_i, gLen_l, gLen_t, gLen_k, gList_l, gList_t, gList_k, gTuple_l, gTuple_t, gTuple_k, gIx_lo, gIx_to, gIx_k, atI_nn, Int.toNat_zero, Int.toNat_one, Int.toNat_natCast, Int.reduceToNat, gEq_i, gEq_s, gEq_b, gNe_i, gNe_s, ixN_nn, seqIx, rg1_e, rg2_e, seqD_l, seqD_t, seqD_k, lt2_l, lt2_t, lt2_k, gTp_k1, gTp_l1, gTp_t1, gTp_k2, gTp_l2, gTp_t2, gTp_k3, gTp_l3, gTp_t3, gTp_k4, gTp_l4, gTp_t4, gTp_k5, gTp_l5, gTp_t5, gCn_e, gN_e, gNl_e, gNe_b, zp2_ll, zp2_lt, zp2_lk, zp2_tl, zp2_tt, zp2_tk, zp2_kl, zp2_kt, zp2_kk, en1_l, gSl_l, gSl_t, cut_hi, cut_lo, cut_in, gAdd_l, gAdd_t, ↓isT_list_list, ↓isT_list_tuple, ↓isT_list_int, ↓isT_list_bool, ↓isT_list_str, ↓isT_tuple_list, ↓isT_tuple_tuple, ↓isT_tuple_int, ↓isT_tuple_bool, ↓isT_tuple_str, ↓isT_int_list, ↓isT_int_tuple, ↓isT_int_int, ↓isT_int_bool, ↓isT_int_str, ↓isT_bool_list, ↓isT_bool_tuple, ↓isT_bool_int, ↓isT_bool_bool, ↓isT_bool_str, ↓isT_str_list, ↓isT_str_tuple, ↓isT_str_int, ↓isT_str_bool, ↓isT_str_str, ↓isT_none_list, ↓isT_none_tuple, ↓isT_none_int, ↓isT_none_bool, ↓isT_none_str, gIsi_e, gIsi2_e, gIs_nn, gIs_i, gIs_b, gIs_s, gIs_l, gIs_t, gEq_nn, gLen_st, gAdd_st, gSl_st, gEq_st, gIx_alpha, stL_inj, lk1, Int.reduceEq, Int.reduceNeg, Int.reduceAdd, Int.reduceSub, rep2, Int.reduceLE, Int.reduceLT, Nat.reduceMul, and_self, fold_l, fold_t, tp_encS, tp_encQ, gIn_ints, gNotIn_ints, gIn_strs, gNotIn_strs, gNotIn_names, gIn_names, ix_encS, sd_encN, len_encN, Bool.or_false, Bool.or_true, Bool.true_or, Bool.false_or, decide_true, decide_false])
local macro_rules
  | `(tactic| obtain $p:rcasesPatMed := ($t:term :)) => `(tactic| (refine wp_nx $t (fun r q h => ?_); obtain $p := h; pv_eval))
def encP (p : Int × Int) : PyData := .tuple [.int p.1, .int p.2]
theorem encP_ok (p : Int × Int) : okd 2 (encP p) := ⟨by simp, by simp [okd]⟩
theorem net_ok {b : List PyData} {m last more : Int} (hb : Bx m b) (h0 : 0 ≤ m) (hm : m < 800000) (hl0 : 0 < last) (hm0 : 0 ≤ more) (hl : 2 * last + more ≤ 26) : wp (x__law_net [.bor b, .dat (.int last), .dat (.int more)]) (fun r q => ∃ (N : Net) (b' : List PyData), r = .dt (encN false N) ∧ IsNet N last ∧ (N.length : Int) ≤ 2 * last + more ∧ q = [.bor b', .dat (.int last), .dat (.int more)] ∧ Bx (m + 100) b') nX := by
  unfold x__law_net
  pv_eval
  rw [rangeD_len]
  refine ⟨by omega, ?_⟩
  refine lc_range (fun lo k acc ρ => ∃ (b : List PyData) (rows : List (Int × Int)), acc = rows.map encP ∧ (∀ r ∈ rows, 0 ≤ r.1 ∧ r.1 < r.2 ∧ r.2 ≤ last) ∧ (∀ p, 1 ≤ p → p < lo → ∃ r ∈ rows, r.2 = p) ∧ 1 ≤ lo ∧ (rows.length : Int) = lo - 1 ∧ lo + k = last + 1 ∧ Bx (m + rows.length) b ∧ ρ = [.bor b, .dat (.int last), .dat (.int more), .no, .no, .no, .no, .no, .no]) (acc := []) ⟨b, [], rfl, by simp, by intro p h1 h2; omega, by omega, by simp, by omega, by simpa using hb, rfl⟩ ?_ ?_
  · intro lo k acc ρ ⟨b, rows, e, hr, hc, hlo, hlen, hk, hb, e2⟩
    subst e e2
    pv_eval
    refine wp_nx (take_ok hb (by omega) (by omega) (by omega)) fun r q h => ?_
    obtain ⟨j, b', rfl, rfl, hi0, hi1, hb'⟩ := h
    pv_eval
    refine ⟨b', rows ++ [(j, lo)], by simp [encP], ?_, ?_, by omega, by simp; omega, by omega, by simpa [Int.add_assoc] using hb', rfl⟩
    · intro r hr'
      rcases List.mem_append.mp hr' with h | h
      · exact hr r h
      · simp at h; subst h; exact ⟨hi0, hi1, by show lo ≤ last; omega⟩
    · intro p h1 h2
      by_cases e : p = lo
      · exact ⟨(j, lo), by simp, e.symm⟩
      · obtain ⟨r, m, e⟩ := hc p h1 (by omega)
        exact ⟨r, by simp [m], e⟩
  · intro lo xs ρ ⟨b, rows, e, hr, hc, hlo, hlen, hk, hb, e2⟩
    subst e2
    simp only [List.nil_append] at e
    subst e
    pv_eval
    refine for_range (fun lo k ρ => ∃ (b : List PyData) (rows : List (Int × Int)) (a : Sl), (∀ r ∈ rows, 0 ≤ r.1 ∧ r.1 < r.2 ∧ r.2 ≤ last) ∧ (∀ p, 1 ≤ p → p ≤ last → ∃ r ∈ rows, r.2 = p) ∧ (∀ p, 0 ≤ p → p < lo → ∃ r ∈ rows, r.1 = p) ∧ 0 ≤ lo ∧ ((rows.length : Int) ≤ last + lo ∧ last ≤ rows.length) ∧ lo + k = last ∧ Bx (m + last + lo) b ∧ ρ = [.bor b, .dat (.int last), .dat (.int more), a, .own (rows.map encP), .no, .no, .no, .no]) ⟨b, rows, _, hr, fun p h1 h2 => hc p h1 (by omega), fun p h1 h2 => by omega, by omega, ⟨by omega, by omega⟩, by omega, hb.mono (by omega), rfl⟩ ?_ ?_
    · intro lo k ρ ⟨b, rows, a, hr, hc, ho, hlo, hlen, hk, hb, e⟩
      subst e
      pv_eval
      refine ⟨by omega, ?_⟩
      refine lc_filter (f := encP) (p := fun r => decide (r.1 = lo)) (fun r m => ?_) ?_
      · unfold encP
        pv_eval
        split <;> rfl
      · pv_eval
        rw [gEq_nil (n := 3) ⟨by have := List.length_filter_le (fun r : Int × Int => decide (r.1 = lo)) rows; simp; omega, fun d m => by obtain ⟨r, _, rfl⟩ := List.mem_map.mp m; exact encP_ok r⟩ (by omega)]
        pv_eval
        split
        · refine wp_nx (take_ok hb (by omega) (by omega) (by omega)) fun r q h => ?_
          obtain ⟨j, b', rfl, rfl, hi0, hi1, hb'⟩ := h
          pv_eval
          refine ⟨by omega, b', rows ++ [(lo, lo + 1 + j)], _, ?_, ?_, ?_, by omega, ⟨by simp; omega, by simp; omega⟩, by omega, hb'.mono (by omega), by rw [List.map_append]; rfl⟩
          · intro r hr'
            rcases List.mem_append.mp hr' with h | h
            · exact hr r h
            · simp at h; subst h; exact ⟨hlo, by show lo < lo + 1 + j; omega, by show lo + 1 + j ≤ last; omega⟩
          · intro p h1 h2
            obtain ⟨r, m, e⟩ := hc p h1 h2
            exact ⟨r, by simp [m], e⟩
          · intro p h1 h2
            by_cases e : p = lo
            · exact ⟨(lo, lo + 1 + j), by simp, e.symm⟩
            · obtain ⟨r, m, e⟩ := ho p h1 (by omega)
              exact ⟨r, by simp [m], e⟩
        · next hne =>
          refine ⟨b, rows, _, hr, hc, ?_, by omega, ⟨by omega, by omega⟩, by omega, hb.mono (by omega), rfl⟩
          intro p h1 h2
          by_cases e : p = lo
          · have : List.filter (fun r => decide (r.1 = lo)) rows ≠ [] := fun e => hne (by rw [e]; rfl)
            obtain ⟨r, m⟩ := List.exists_mem_of_ne_nil _ this
            rw [List.mem_filter] at m
            exact ⟨r, m.1, by rw [of_decide_eq_true m.2, e]⟩
          · exact ho p h1 (by omega)
    · intro lo2 ρ ⟨b, rows, a, hr, hc, ho, hlo, hlen, hk, hb, e⟩
      subst e
      have hlo2 : lo2 = last := by omega
      subst hlo2
      pv_eval
      refine for_range (fun lo k ρ => ∃ (b : List PyData) (rows : List (Int × Int)) (c1 c2 : Sl), (∀ r ∈ rows, 0 ≤ r.1 ∧ r.1 < r.2 ∧ r.2 ≤ lo2) ∧ (∀ p, 1 ≤ p → p ≤ lo2 → ∃ r ∈ rows, r.2 = p) ∧ (∀ p, 0 ≤ p → p < lo2 → ∃ r ∈ rows, r.1 = p) ∧ 0 ≤ lo ∧ ((rows.length : Int) ≤ lo2 + lo2 + lo ∧ lo2 ≤ rows.length) ∧ lo + k = more ∧ Bx (m + lo2 + lo2 + 2 * lo) b ∧ ρ = [.bor b, .dat (.int lo2), .dat (.int more), a, .own (rows.map encP), .no, c1, c2, .no]) ⟨b, rows, _, _, hr, hc, ho, by omega, ⟨by omega, by omega⟩, by omega, hb.mono (by omega), rfl⟩ ?_ ?_
      · intro lo k ρ ⟨b, rows, c1, c2, hr, hc, ho, hlo, hlen, hk, hb, e⟩
        subst e
        pv_eval
        refine wp_nx (take_ok hb (by omega) (by omega) (by omega)) fun r q h => ?_
        obtain ⟨j, b', rfl, rfl, hi0, hi1, hb'⟩ := h
        pv_eval
        refine wp_nx (take_ok hb' (by omega) (by omega) (by omega)) fun r q h => ?_
        obtain ⟨j2, b2, rfl, rfl, hj0, hj1, hb2⟩ := h
        pv_eval
        refine ⟨by omega, b2, rows ++ [(j, j + 1 + j2)], _, _, ?_, ?_, ?_, by omega, ⟨by simp; omega, by simp; omega⟩, by omega, hb2.mono (by omega), by rw [List.map_append]; rfl⟩
        · intro r hr'
          rcases List.mem_append.mp hr' with h | h
          · exact hr r h
          · simp at h; subst h; exact ⟨hi0, by show j < j + 1 + j2; omega, by show j + 1 + j2 ≤ lo2; omega⟩
        · intro p h1 h2
          obtain ⟨r, m, e⟩ := hc p h1 h2
          exact ⟨r, by simp [m], e⟩
        · intro p h1 h2
          obtain ⟨r, m, e⟩ := ho p h1 h2
          exact ⟨r, by simp [m], e⟩
      · intro lo ρ ⟨b, rows, c1, c2, hr, hc, ho, hlo, hlen, hk, hb, e⟩
        subst e
        pv_eval
        refine wp_nx (tags_ok hb (by omega) (by omega) (by omega) (by omega)) fun r q h => ?_
        obtain ⟨ns, b3, rfl, hnl, hnd, hnm, rfl, hb3⟩ := h
        pv_eval
        rw [rangeD_map]
        refine ⟨by simp; omega, ?_⟩
        refine lc_map (f := fun i => ((ns.zip rows).map (encS false))[i]?.getD .none) (fun i mi => ?_) ?_
        · have hi : i < rows.length := by simpa using mi
          have hi2 : i < ns.length := by omega
          have e1 : (List.map (fun x => PyData.str (stL x)) ns)[i]? = some (.str (stL ns[i])) := by rw [List.getElem?_map, List.getElem?_eq_getElem hi2]; rfl
          have e2 : (List.map encP rows)[i]? = some (.tuple [.int rows[i].1, .int rows[i].2]) := by rw [List.getElem?_map, List.getElem?_eq_getElem hi]; rfl
          have e3 : (List.map (encS false) (ns.zip rows))[i]? = some (.tuple [.str (stL ns[i]), .int rows[i].1, .int rows[i].2]) := by
            rw [List.getElem?_map, List.getElem?_eq_getElem (by simp; omega), List.getElem_zip]; rfl
          pv_eval
          rw [e1]
          pv_eval
          rw [e2]
          pv_eval
          rw [e2]
          pv_eval
          rw [e3]
          rfl
        · have hz : (ns.zip rows).length = rows.length := by simp; omega
          have e : (List.range rows.length).map (fun i => ((ns.zip rows).map (encS false))[i]?.getD .none) = (ns.zip rows).map (encS false) := by
            have := Dl.range_getD ((ns.zip rows).map (encS false)) PyData.none
            rwa [List.length_map, hz] at this
          rw [e]
          pv_eval
          rw [gSorted_e (n := 2) (k := [true, false, false]) (fun d hd => by obtain ⟨s, _, rfl⟩ := List.mem_map.mp hd; rfl) (by omega)]
          pv_eval
          have hp := sortB_perm (lt := ltK) ((ns.zip rows).map (encS false))
          have hs := sortK_srt ((ns.zip rows).map (encS false))
          obtain ⟨N, eN, hpN⟩ := perm_map hp
          rw [eN] at hs ⊢
          have hmem : ∀ s, s ∈ N ↔ s ∈ ns.zip rows := fun s => hpN.mem_iff
          have hln : N.length = rows.length := by rw [hpN.length_eq, hz]
          refine ⟨N, b3, rfl, ⟨?_, ?_, ?_, ?_, ?_, hl0, by omega, by omega⟩, by omega, rfl, hb3.mono (by omega)⟩
          · have hnames : (N.map (·.1)).Nodup := by
              have := (hpN.map (·.1)).symm.nodup
              refine this ?_
              have e : (ns.zip rows).map (·.1) = ns := List.map_fst_zip (by omega)
              rw [e]; exact hnd
            rw [List.nodup_iff_pairwise_ne, List.pairwise_map] at hnames
            unfold Srt at hs
            rw [List.pairwise_map] at hs
            refine (hnames.and hs).imp fun {a b} ⟨h1, h2⟩ => ?_
            have h3 : itemOrd.blt (.inr b.1) (.inr a.1) = false := by
              have e : ltK (encS false b) (encS false a) = lexLt itemOrd [.inr b.1, .inl b.2.1, .inl b.2.2] [.inr a.1, .inl a.2.1, .inl a.2.2] := by
                show lexLt itemOrd [.inr (stL b.1).cps.toList, _, _] [.inr (stL a.1).cps.toList, _, _] = _
                rw [stL_cps, stL_cps]
              rw [e, lex_cons] at h2
              exact (Bool.or_eq_false_iff.mp h2).1
            rw [strKind_lt] at h3
            have h3 := of_decide_eq_false h3
            rcases Classical.em (a.1 < b.1) with h | h
            · exact h
            · exact (h1 (name_tot h h3)).elim
          · intro s hs
            have := (hmem s).mp hs
            exact hnm _ (List.of_mem_zip this).1
          · intro s hs
            exact hr _ (List.of_mem_zip ((hmem s).mp hs)).2
          · intro p h1 h2
            obtain ⟨r, mr, e⟩ := ho p h1 h2
            obtain ⟨i, hi, e2⟩ := List.getElem_of_mem mr
            refine ⟨(ns[i]'(by omega), rows[i]), (hmem _).mpr ?_, by rw [e2]; exact e⟩
            rw [List.mem_iff_getElem]
            exact ⟨i, by omega, List.getElem_zip⟩
          · intro p h1 h2
            obtain ⟨r, mr, e⟩ := hc p (by omega) h2
            obtain ⟨i, hi, e2⟩ := List.getElem_of_mem mr
            refine ⟨(ns[i]'(by omega), rows[i]), (hmem _).mpr ?_, by rw [e2]; exact e⟩
            rw [List.mem_iff_getElem]
            exact ⟨i, by omega, List.getElem_zip⟩
end Lw
end

section
set_option Elab.async false
set_option linter.all false
set_option maxRecDepth 100000
set_option maxHeartbeats 4000000
namespace Lw
open PySem PySem.Spec PyProof.Rows L2 Dl
local macro_rules | `(tactic| pv_eval) => `(tactic| try simp (config := {maxSteps := 10000000, implicitDefEqProofs := false}) (disch := first | omega | (simp only [List.length_append, List.length_cons, List.length_nil, List.length_map]; omega)) only [↓wp_val, ↓wp_none, ↓wp_ex, ↓wp_ret, ↓wp_bnd, ↓wp_lft, ↓wp_eD, ↓wp_oE, ↓wp_oN, ↓wp_vNil, ↓wp_vCons, ↓wp_xB, ↓wp_xC, ↓wp_xVar, ↓wp_xTst, ↓wp_xTru, ↓wp_tYes, ↓wp_xNot, ↓wp_xAnd, ↓wp_xOr, ↓wp_xIf, ↓wp_yIf, ↓wp_xOrV, ↓wp_xAndV, ↓wp_xNotV, ↓wp_xTup, ↓wp_xLst, ↓wp_sNo, ↓wp_sAt, ↓wp_xSl, ↓wp_yPass, ↓wp_seq, ↓wp_yExpr, ↓wp_yRet, ↓wp_yRetV, ↓wp_ySet, ↓wp_yL, ↓wp_yD, ↓wp_ySetI, ↓wp_xApp, ↓wp_xPopAt, ↓wp_yAsg, ↓wp_yPar, ↓wp_rNil, ↓wp_rCons, ↓wp_yAug, ↓wp_zSeqN, ↓wp_zSeqE, ↓wp_zRg1, ↓wp_zRg2, ↓wp_zZip, ↓wp_zEnum, ↓wp_zEn2, zp2_nt, zp2_nl, zp2_nk, en2_n, ix_encN, cut_m, en2_l, en2_t, en2_k, gRv_l, gRv_t, ↓wp_fn0_17, ↓wp_fn0_18, ↓wp_fn0_19, ↓wp_fn0_20, ↓wp_fn0_21, ↓wp_fn0_22, ↓wp_fn0_23, ↓wp_fn0_24, ↓wp_fn0_25, ↓wp_fn0_26, ↓wp_fn0_27, ↓wp_fn0_28, ↓wp_fn0_29, ↓wp_fn1_18, ↓wp_fn1_19, ↓wp_fn1_20, ↓wp_fn1_21, ↓wp_fn1_22, ↓wp_fn1_23, ↓wp_fn1_24, ↓wp_fn1_25, ↓wp_fn1_26, ↓wp_fn1_27, ↓wp_fn1_28, ↓wp_fn1_29, ↓wp_fn1_30, ↓wp_fn2_19, ↓wp_fn2_20, ↓wp_fn2_21, ↓wp_fn2_22, ↓wp_fn2_23, ↓wp_fn2_24, ↓wp_fn2_25, ↓wp_fn2_26, ↓wp_fn2_27, ↓wp_fn2_28, ↓wp_fn2_29, ↓wp_fn2_30, ↓wp_fn2_31, ↓wp_fn3_20, ↓wp_fn3_21, ↓wp_fn3_22, ↓wp_fn3_23, ↓wp_fn3_24, ↓wp_fn3_25, ↓wp_fn3_26, ↓wp_fn3_27, ↓wp_fn3_28, ↓wp_fn3_29, ↓wp_fn3_30, ↓wp_fn3_31, ↓wp_fn3_32, ↓wp_fn4_21, ↓wp_fn4_22, ↓wp_fn4_23, ↓wp_fn4_24, ↓wp_fn4_25, ↓wp_fn4_26, ↓wp_fn4_27, ↓wp_fn4_28, ↓wp_fn4_29, ↓wp_fn4_30, ↓wp_fn4_31, ↓wp_fn4_32, ↓wp_fn4_33, ↓wp_fn5_22, ↓wp_fn5_23, ↓wp_fn5_24, ↓wp_fn5_25, ↓wp_fn5_26, ↓wp_fn5_27, ↓wp_fn5_28, ↓wp_fn5_29, ↓wp_fn5_30, ↓wp_fn5_31, ↓wp_fn5_32, ↓wp_fn5_33, ↓wp_fn6_23, ↓wp_fn6_24, ↓wp_fn6_25, ↓wp_fn6_26, ↓wp_fn6_27, ↓wp_fn6_28, ↓wp_fn6_29, ↓wp_fn6_30, ↓wp_fn6_31, ↓wp_fn6_32, ↓wp_fn6_33, ↓wp_fn7_24, ↓wp_fn7_25, ↓wp_fn7_26, ↓wp_fn7_27, ↓wp_fn7_28, ↓wp_fn7_29, ↓wp_fn7_30, ↓wp_fn7_31, ↓wp_fn7_32, ↓wp_fn7_33, ↓wp_fn8_25, ↓wp_fn8_26, ↓wp_fn8_27, ↓wp_fn8_28, ↓wp_fn8_29, ↓wp_fn8_30, ↓wp_fn8_31, ↓wp_fn8_32, ↓wp_fn8_33, ↓wp_yFor, ↓wp_oI, ↓wp_xChI, ↓wp_xTR1, ↓wp_xTR2, ↓wp_xDsp1, ↓wp_xDinN, ↓wp_xDnoN, ↓wp_xDinE, ↓wp_yDct, ↓wp_xDget, ↓wp_yDput, ↓dctQ_e, ↓wp_yAugB, ↓augBQ_e, ↓wp_yAugI, ↓intQ_e, gAddI_i, ↓wp_xRepN, ↓newQ'_e, ↓newdQ_e, ↓rtVar_dct, ↓isPl_dct, ↓keyOf_i, ↓keyOf_s, slotOf_newd, gRev_l, ↓wp_forNil, ↓wp_xLc, ↓lcStep_e, id_eq, ↓wp_callD, ↓wp_callK, ↓wp_callN, ↓wp_callB, ↓wp_yRaise, ↓wp_yRaise2, ↓wp_yTry, ↓wp_hNil, ↓wp_hAs, ↓wp_hNo, ↓wp_ySetE, ↓wp_xIsN, ↓wp_xFld, ↓wp_xIsE, ↓wp_fn0_0, ↓wp_fn0_1, ↓wp_fn0_2, ↓wp_fn0_3, ↓wp_fn0_4, ↓wp_fn0_5, ↓wp_fn0_6, ↓wp_fn0_7, ↓wp_fn0_8, ↓wp_fn0_9, ↓wp_fn0_10, ↓wp_fn0_11, ↓wp_fn0_12, ↓wp_fn0_13, ↓wp_fn0_14, ↓wp_fn0_15, ↓wp_fn0_16, ↓wp_fn1_1, ↓wp_fn1_2, ↓wp_fn1_3, ↓wp_fn1_4, ↓wp_fn1_5, ↓wp_fn1_6, ↓wp_fn1_7, ↓wp_fn1_8, ↓wp_fn1_9, ↓wp_fn1_10, ↓wp_fn1_11, ↓wp_fn1_12, ↓wp_fn1_13, ↓wp_fn1_14, ↓wp_fn1_15, ↓wp_fn1_16, ↓wp_fn1_17, ↓wp_fn2_2, ↓wp_fn2_3, ↓wp_fn2_4, ↓wp_fn2_5, ↓wp_fn2_6, ↓wp_fn2_7, ↓wp_fn2_8, ↓wp_fn2_9, ↓wp_fn2_10, ↓wp_fn2_11, ↓wp_fn2_12, ↓wp_fn2_13, ↓wp_fn2_14, ↓wp_fn2_15, ↓wp_fn2_16, ↓wp_fn2_17, ↓wp_fn2_18, ↓wp_fn3_3, ↓wp_fn3_4, ↓wp_fn3_5, ↓wp_fn3_6, ↓wp_fn3_7, ↓wp_fn3_8, ↓wp_fn3_9, ↓wp_fn3_10, ↓wp_fn3_11, ↓wp_fn3_12, ↓wp_fn3_13, ↓wp_fn3_14, ↓wp_fn3_15, ↓wp_fn3_16, ↓wp_fn3_17, ↓wp_fn3_18, ↓wp_fn3_19, ↓wp_fn4_4, ↓wp_fn4_5, ↓wp_fn4_6, ↓wp_fn4_7, ↓wp_fn4_8, ↓wp_fn4_9, ↓wp_fn4_10, ↓wp_fn4_11, ↓wp_fn4_12, ↓wp_fn4_13, ↓wp_fn4_14, ↓wp_fn4_15, ↓wp_fn4_16, ↓wp_fn4_17, ↓wp_fn4_18, ↓wp_fn4_19, ↓wp_fn4_20, ↓wp_fn5_5, ↓wp_fn5_6, ↓wp_fn5_7, ↓wp_fn5_8, ↓wp_fn5_9, ↓wp_fn5_10, ↓wp_fn5_11, ↓wp_fn5_12, ↓wp_fn5_13, ↓wp_fn5_14, ↓wp_fn5_15, ↓wp_fn5_16, ↓wp_fn5_17, ↓wp_fn5_18, ↓wp_fn5_19, ↓wp_fn5_20, ↓wp_fn5_21, ↓wp_fn6_6, ↓wp_fn6_7, ↓wp_fn6_8, ↓wp_fn6_9, ↓wp_fn6_10, ↓wp_fn6_11, ↓wp_fn6_12, ↓wp_fn6_13, ↓wp_fn6_14, ↓wp_fn6_15, ↓wp_fn6_16, ↓wp_fn6_17, ↓wp_fn6_18, ↓wp_fn6_19, ↓wp_fn6_20, ↓wp_fn6_21, ↓wp_fn6_22, ↓wp_fn7_7, ↓wp_fn7_8, ↓wp_fn7_9, ↓wp_fn7_10, ↓wp_fn7_11, ↓wp_fn7_12, ↓wp_fn7_13, ↓wp_fn7_14, ↓wp_fn7_15, ↓wp_fn7_16, ↓wp_fn7_17, ↓wp_fn7_18, ↓wp_fn7_19, ↓wp_fn7_20, ↓wp_fn7_21, ↓wp_fn7_22, ↓wp_fn7_23, ↓wp_fn8_8, ↓wp_fn8_9, ↓wp_fn8_10, ↓wp_fn8_11, ↓wp_fn8_12, ↓wp_fn8_13, ↓wp_fn8_14, ↓wp_fn8_15, ↓wp_fn8_16, ↓wp_fn8_17, ↓wp_fn8_18, ↓wp_fn8_19, ↓wp_fn8_20, ↓wp_fn8_21, ↓wp_fn8_22, ↓wp_fn8_23, ↓wp_fn8_24, ↓sq_nx, ↓sq_rt, ↓sq_bk, ↓sq_ct, ↓rdVar_dat, ↓rdVar_own, ↓rtVar_dat, ↓rtVar_own, ↓augQ_dat, ↓seqS_own, ↓seqS_bor, ↓seqS_dat, ↓finQ_nx, ↓finQ_rt, ↓turnQ_nx, ↓turnQ_ct, ↓turnQ_bk, ↓turnQ_rt, ↓endF_rt, ↓endF_nx, ↓newQ_new, ↓borE_ok, ↓borQ_pl, ↓rz1_one, ↓rz2_one, ↓asQ_rt, ↓asQ_nx, ↓setEQ_ok, ↓isNQ_exc, ↓isNQ_none, ↓fldQ_exc, ↓isEQ_exc, ↓gv_some, ↓gv_none, ↓reduceIte, ↓asD_dt, ↓asD_new, ↓isPl_dat, ↓isPl_own, ↓isPl_bor, ↓slD_dat, ↓slD_own, ↓slD_bor, ↓lslOwn, ↓lslBor, putL_own, putL_bor, slotOf_dt, slotOf_new, ↓asIint, ↓isB_bool, ↓truD_bool, ↓truD_none, ↓truD_int, ↓truD_list, ↓truD_tuple, ↓truR_dt, ↓truR_new, ↓rsl_dt, ↓rsl_pl, ocons_e, ↓rsls_nil, ↓rsls_cons, ↓dts_nil', ↓dts_cons, ↓outs_nil, ↓outs_bor, ↓outs_dat, stE_e, setAll_nil, setAll_cons, Option.map_some, Option.map_none, Option.bind_some, Option.bind_none, Option.isSome_none, Option.isSome_some, hideO_none, hideO_some, restO_none, restO_some, restS_hd, restT_some, wipeE_nil, wipeE_cons, backE_nil, backE_cons, keepD_dat, keepD_no, isOwn_dat, isOwn_own, Bool.false_and, Bool.true_and, Bool.and_false, Bool.and_true, Bool.not_true, Bool.not_false, List.map_cons, List.map_nil, List.cons_append, List.nil_append, List.append_nil, Nat.reduceAdd, List.length_cons, List.length_nil, List.length_map, Int.zero_add, ↓List.getElem?_cons_zero, ↓List.getElem?_cons_succ, ↓List.set_cons_zero, ↓List.set_cons_succ, sizeLine, Nat.reducePow, Nat.reduceLeDiff, true_and, and_true, eq_self, if_true, if_false, Bool.false_eq_true, decide_eq_true_eq, Bool.not_eq_true', decide_eq_false_iff_not, gMul_l, gMul_r, gMod_e, gDiv_e, gPow_e, Int.reducePow, gAdd_i, gSub_i, gNeg_i, gInt_i, gInt_b, gGt_i, gLt_i, gLe_i, gGe_i, gAbs_i, gLen_l, gLen_t, gLen_k, gList_l, gList_t, gList_k, gTuple_l, gTuple_t, gTuple_k, gIx_lo, gIx_to, gIx_k, atI_nn, Int.toNat_zero, Int.toNat_one, Int.toNat_natCast, Int.reduceToNat, gEq_i, gEq_s, gEq_b, gNe_i, gNe_s, ixN_nn, seqIx, rg1_e, rg2_e, seqD_l, seqD_t, seqD_k, lt2_l, lt2_t, lt2_k, gTp_k1, gTp_l1, gTp_t1, gTp_k2, gTp_l2, gTp_t2, gTp_k3, gTp_l3, gTp_t3, gTp_k4, gTp_l4, gTp_t4, gTp_k5, gTp_l5, gTp_t5, gCn_e, gN_e, gNl_e, gNe_b, zp2_ll, zp2_lt, zp2_lk, zp2_tl, zp2_tt, zp2_tk, zp2_kl, zp2_kt, zp2_kk, en1_l, gSl_l, gSl_t, cut_hi, cut_lo, cut_in, gAdd_l, gAdd_t, ↓isT_list_list, ↓isT_list_tuple, ↓isT_list_int, ↓isT_list_bool, ↓isT_list_str, ↓isT_tuple_list, ↓isT_tuple_tuple, ↓isT_tuple_int, ↓isT_tuple_bool, ↓isT_tuple_str, ↓isT_int_list, ↓isT_int_tuple, ↓isT_int_int, ↓isT_int_bool, ↓isT_int_str, ↓isT_bool_list, ↓isT_bool_tuple, ↓isT_bool_int, ↓isT_bool_bool, ↓isT_bool_str, ↓isT_str_list, ↓isT_str_tuple, ↓isT_str_int, ↓isT_str_bool, ↓isT_str_str, ↓isT_none_list, ↓isT_none_tuple, ↓isT_none_int, ↓isT_none_bool, ↓isT_none_str, gIsi_e, gIsi2_e, gIs_nn, gIs_i, gIs_b, gIs_s, gIs_l, gIs_t, gEq_nn, gLen_st, gAdd_st, gSl_st, gEq_st, gIx_alpha, stL_inj, lk1, Int.reduceEq, Int.reduceNeg, Int.reduceAdd, Int.reduceSub, rep2, Int.reduceLE, Int.reduceLT, Nat.reduceMul, and_self, fold_l, fold_t, tp_encS, tp_encQ, gIn_ints, gNotIn_ints, gIn_strs, gNotIn_strs, gNotIn_names, gIn_names, ix_encS, sd_encN, len_encN, Bool.or_false, Bool.or_true, Bool.true_or, Bool.false_or, decide_true, decide_false])
local macro_rules
  | `(tactic| obtain $p:rcasesPatMed := ($t:term :)) => `(tactic| (refine wp_nx $t (fun r q h => ?_); obtain $p := h; pv_eval))
theorem lsd_sqd {n : Nat} {k : Bool} {xs : List PyData} : lsd (n + 1) (sqd k xs) = .list (xs.map (lsd n)) := by cases k <;> rfl
theorem lsd_int {n : Nat} {i : Int} : lsd n (.int i) = .int i := by cases n <;> rfl
theorem lsd_str {n : Nat} {i : Str} : lsd n (.str i) = .str i := by cases n <;> rfl
theorem lsd_encN {n : Nat} {k : Bool} {N : Net} : lsd (n + 3) (encN k N) = encN true N := by
  unfold encN
  rw [lsd_sqd, List.map_map]
  show _ = PyData.list _
  congr 1
  refine List.map_congr_left fun s _ => ?_
  show lsd (n + 2) (encS k s) = _
  unfold encS
  rw [lsd_sqd, List.map_cons, List.map_cons, List.map_cons, List.map_nil, lsd_int, lsd_int, lsd_str]
  rfl
theorem lists_seq {n : Nat} {k : Bool} {xs : List PyData} (h : xs.length ≤ 16777216) (h2 : ∀ d ∈ xs, okd n d) : wp (x__law_lists (n + 1) [.dat (sqd k xs)]) (fun r _ => r = .new (xs.map (lsd n))) nX := by
  rw [x__law_lists]
  unfold yy__law_lists
  have e : xs = xs.map id := by simp
  cases k
  · rw [sqd_t]
    pv_eval
    refine ⟨h, ?_⟩
    conv => enter [1, 5]; rw [e]
    refine lc_map (f := lsd n) (fun d m => ?_) ?_
    · pv_eval
      refine wp_nx (lists_ok n d (h2 d m)) fun r q e => ?_
      rw [e]
      pv_eval
    · pv_eval
  · rw [sqd_l]
    pv_eval
    refine ⟨h, ?_⟩
    conv => enter [1, 5]; rw [e]
    refine lc_map (f := lsd n) (fun d m => ?_) ?_
    · pv_eval
      refine wp_nx (lists_ok n d (h2 d m)) fun r q e => ?_
      rw [e]
      pv_eval
    · pv_eval
theorem lists_net {k : Bool} {N : Net} {last : Int} (h : IsNet N last) : wp (x__law_lists 8 [.dat (encN k N)]) (fun r _ => r = .new (N.map (encS true))) nX := by
  unfold encN
  refine wp_nx (lists_seq (n := 7) (by have := h.few; simp; omega) (fun d hd => by obtain ⟨s, m, rfl⟩ := List.mem_map.mp hd; exact encS_ok (n := 5) (h.nm s m))) fun r q e => ?_
  rw [e, List.map_map]
  congr 1
  refine List.map_congr_left fun s _ => ?_
  show lsd 7 (encS k s) = _
  unfold encS
  rw [lsd_sqd, List.map_cons, List.map_cons, List.map_cons, List.map_nil, lsd_int, lsd_int, lsd_str]
  rfl
end Lw
end

section
set_option Elab.async false
set_option linter.all false
set_option maxRecDepth 100000
set_option maxHeartbeats 4000000
namespace Lw
open PySem PySem.Spec PyProof.Rows L2 Dl
local macro_rules | `(tactic| pv_eval) => `(tactic| try simp (config := {maxSteps := 10000000, implicitDefEqProofs := false}) (disch := first | omega | (simp only [List.length_append, List.length_cons, List.length_nil, List.length_map]; omega)) only [↓wp_val, ↓wp_none, ↓wp_ex, ↓wp_ret, ↓wp_bnd, ↓wp_lft, ↓wp_eD, ↓wp_oE, ↓wp_oN, ↓wp_vNil, ↓wp_vCons, ↓wp_xB, ↓wp_xC, ↓wp_xVar, ↓wp_xTst, ↓wp_xTru, ↓wp_tYes, ↓wp_xNot, ↓wp_xAnd, ↓wp_xOr, ↓wp_xIf, ↓wp_yIf, ↓wp_xOrV, ↓wp_xAndV, ↓wp_xNotV, ↓wp_xTup, ↓wp_xLst, ↓wp_sNo, ↓wp_sAt, ↓wp_xSl, ↓wp_yPass, ↓wp_seq, ↓wp_yExpr, ↓wp_yRet, ↓wp_yRetV, ↓wp_ySet, ↓wp_yL, ↓wp_yD, ↓wp_ySetI, ↓wp_xApp, ↓wp_xPopAt, ↓wp_yAsg, ↓wp_yPar, ↓wp_rNil, ↓wp_rCons, ↓wp_yAug, ↓wp_zSeqN, ↓wp_zSeqE, ↓wp_zRg1, ↓wp_zRg2, ↓wp_zZip, ↓wp_zEnum, ↓wp_zEn2, zp2_nt, zp2_nl, zp2_nk, en2_n, ix_encN, cut_m, en2_l, en2_t, en2_k, gRv_l, gRv_t, ↓wp_fn0_17, ↓wp_fn0_18, ↓wp_fn0_19, ↓wp_fn0_20, ↓wp_fn0_21, ↓wp_fn0_22, ↓wp_fn0_23, ↓wp_fn0_24, ↓wp_fn0_25, ↓wp_fn0_26, ↓wp_fn0_27, ↓wp_fn0_28, ↓wp_fn0_29, ↓wp_fn1_18, ↓wp_fn1_19, ↓wp_fn1_20, ↓wp_fn1_21, ↓wp_fn1_22, ↓wp_fn1_23, ↓wp_fn1_24, ↓wp_fn1_25, ↓wp_fn1_26, ↓wp_fn1_27, ↓wp_fn1_28, ↓wp_fn1_29, ↓wp_fn1_30, ↓wp_fn2_19, ↓wp_fn2_20, ↓wp_fn2_21, ↓wp_fn2_22, ↓wp_fn2_23, ↓wp_fn2_24, ↓wp_fn2_25, ↓wp_fn2_26, ↓wp_fn2_27, ↓wp_fn2_28, ↓wp_fn2_29, ↓wp_fn2_30, ↓wp_fn2_31, ↓wp_fn3_20, ↓wp_fn3_21, ↓wp_fn3_22, ↓wp_fn3_23, ↓wp_fn3_24, ↓wp_fn3_25, ↓wp_fn3_26, ↓wp_fn3_27, ↓wp_fn3_28, ↓wp_fn3_29, ↓wp_fn3_30, ↓wp_fn3_31, ↓wp_fn3_32, ↓wp_fn4_21, ↓wp_fn4_22, ↓wp_fn4_23, ↓wp_fn4_24, ↓wp_fn4_25, ↓wp_fn4_26, ↓wp_fn4_27, ↓wp_fn4_28, ↓wp_fn4_29, ↓wp_fn4_30, ↓wp_fn4_31, ↓wp_fn4_32, ↓wp_fn4_33, ↓wp_fn5_22, ↓wp_fn5_23, ↓wp_fn5_24, ↓wp_fn5_25, ↓wp_fn5_26, ↓wp_fn5_27, ↓wp_fn5_28, ↓wp_fn5_29, ↓wp_fn5_30, ↓wp_fn5_31, ↓wp_fn5_32, ↓wp_fn5_33, ↓wp_fn6_23, ↓wp_fn6_24, ↓wp_fn6_25, ↓wp_fn6_26, ↓wp_fn6_27, ↓wp_fn6_28, ↓wp_fn6_29, ↓wp_fn6_30, ↓wp_fn6_31, ↓wp_fn6_32, ↓wp_fn6_33, ↓wp_fn7_24, ↓wp_fn7_25, ↓wp_fn7_26, ↓wp_fn7_27, ↓wp_fn7_28, ↓wp_fn7_29, ↓wp_fn7_30, ↓wp_fn7_31, ↓wp_fn7_32, ↓wp_fn7_33, ↓wp_fn8_25, ↓wp_fn8_26, ↓wp_fn8_27, ↓wp_fn8_28, ↓wp_fn8_29, ↓wp_fn8_30, ↓wp_fn8_31, ↓wp_fn8_32, ↓wp_fn8_33, ↓wp_yFor, ↓wp_oI, ↓wp_xChI, ↓wp_xTR1, ↓wp_xTR2, ↓wp_xDsp1, ↓wp_xDinN, ↓wp_xDnoN, ↓wp_xDinE, ↓wp_yDct, ↓wp_xDget, ↓wp_yDput, ↓dctQ_e, ↓wp_yAugB, ↓augBQ_e, ↓wp_yAugI, ↓intQ_e, gAddI_i, ↓wp_xRepN, ↓newQ'_e, ↓newdQ_e, ↓rtVar_dct, ↓isPl_dct, ↓keyOf_i, ↓keyOf_s, slotOf_newd, gRev_l, ↓wp_forNil, ↓wp_xLc, ↓lcStep_e, id_eq, ↓wp_callD, ↓wp_callK, ↓wp_callN, ↓wp_callB, ↓wp_yRaise, ↓wp_yRaise2, ↓wp_yTry, ↓wp_hNil, ↓wp_hAs, ↓wp_hNo, ↓wp_ySetE, ↓wp_xIsN, ↓wp_xFld, ↓wp_xIsE, ↓wp_fn0_0, ↓wp_fn0_1, ↓wp_fn0_2, ↓wp_fn0_3, ↓wp_fn0_4, ↓wp_fn0_5, ↓wp_fn0_6, ↓wp_fn0_7, ↓wp_fn0_8, ↓wp_fn0_9, ↓wp_fn0_10, ↓wp_fn0_11, ↓wp_fn0_12, ↓wp_fn0_13, ↓wp_fn0_14, ↓wp_fn0_15, ↓wp_fn0_16, ↓wp_fn1_1, ↓wp_fn1_2, ↓wp_fn1_3, ↓wp_fn1_4, ↓wp_fn1_5, ↓wp_fn1_6, ↓wp_fn1_7, ↓wp_fn1_8, ↓wp_fn1_9, ↓wp_fn1_10, ↓wp_fn1_11, ↓wp_fn1_12, ↓wp_fn1_13, ↓wp_fn1_14, ↓wp_fn1_15, ↓wp_fn1_16, ↓wp_fn1_17, ↓wp_fn2_2, ↓wp_fn2_3, ↓wp_fn2_4, ↓wp_fn2_5, ↓wp_fn2_6, ↓wp_fn2_7, ↓wp_fn2_8, ↓wp_fn2_9, ↓wp_fn2_10, ↓wp_fn2_11, ↓wp_fn2_12, ↓wp_fn2_13, ↓wp_fn2_14, ↓wp_fn2_15, ↓wp_fn2_16, ↓wp_fn2_17, ↓wp_fn2_18, ↓wp_fn3_3, ↓wp_fn3_4, ↓wp_fn3_5, ↓wp_fn3_6, ↓wp_fn3_7, ↓wp_fn3_8, ↓wp_fn3_9, ↓wp_fn3_10, ↓wp_fn3_11, ↓wp_fn3_12, ↓wp_fn3_13, ↓wp_fn3_14, ↓wp_fn3_15, ↓wp_fn3_16, ↓wp_fn3_17, ↓wp_fn3_18, ↓wp_fn3_19, ↓wp_fn4_4, ↓wp_fn4_5, ↓wp_fn4_6, ↓wp_fn4_7, ↓wp_fn4_8, ↓wp_fn4_9, ↓wp_fn4_10, ↓wp_fn4_11, ↓wp_fn4_12, ↓wp_fn4_13, ↓wp_fn4_14, ↓wp_fn4_15, ↓wp_fn4_16, ↓wp_fn4_17, ↓wp_fn4_18, ↓wp_fn4_19, ↓wp_fn4_20, ↓wp_fn5_5, ↓wp_fn5_6, ↓wp_fn5_7, ↓wp_fn5_8, ↓wp_fn5_9, ↓wp_fn5_10, ↓wp_fn5_11, ↓wp_fn5_12, ↓wp_fn5_13, ↓wp_fn5_14, ↓wp_fn5_15, ↓wp_fn5_16, ↓wp_fn5_17, ↓wp_fn5_18, ↓wp_fn5_19, ↓wp_fn5_20, ↓wp_fn5_21, ↓wp_fn6_6, ↓wp_fn6_7, ↓wp_fn6_8, ↓wp_fn6_9, ↓wp_fn6_10, ↓wp_fn6_11, ↓wp_fn6_12, ↓wp_fn6_13, ↓wp_fn6_14, ↓wp_fn6_15, ↓wp_fn6_16, ↓wp_fn6_17, ↓wp_fn6_18, ↓wp_fn6_19, ↓wp_fn6_20, ↓wp_fn6_21, ↓wp_fn6_22, ↓wp_fn7_7, ↓wp_fn7_8, ↓wp_fn7_9, ↓wp_fn7_10, ↓wp_fn7_11, ↓wp_fn7_12, ↓wp_fn7_13, ↓wp_fn7_14, ↓wp_fn7_15, ↓wp_fn7_16, ↓wp_fn7_17, ↓wp_fn7_18, ↓wp_fn7_19, ↓wp_fn7_20, ↓wp_fn7_21, ↓wp_fn7_22, ↓wp_fn7_23, ↓wp_fn8_8, ↓wp_fn8_9, ↓wp_fn8_10, ↓wp_fn8_11, ↓wp_fn8_12, ↓wp_fn8_13, ↓wp_fn8_14, ↓wp_fn8_15, ↓wp_fn8_16, ↓wp_fn8_17, ↓wp_fn8_18, ↓wp_fn8_19, ↓wp_fn8_20, ↓wp_fn8_21, ↓wp_fn8_22, ↓wp_fn8_23, ↓wp_fn8_24, ↓sq_nx, ↓sq_rt, ↓sq_bk, ↓sq_ct, ↓rdVar_dat, ↓rdVar_own, ↓rtVar_dat, ↓rtVar_own, ↓augQ_dat, ↓seqS_own, ↓seqS_bor, ↓seqS_dat, ↓finQ_nx, ↓finQ_rt, ↓turnQ_nx, ↓turnQ_ct, ↓turnQ_bk, ↓turnQ_rt, ↓endF_rt, ↓endF_nx, ↓newQ_new, ↓borE_ok, ↓borQ_pl, ↓rz1_one, ↓rz2_one, ↓asQ_rt, ↓asQ_nx, ↓setEQ_ok, ↓isNQ_exc, ↓isNQ_none, ↓fldQ_exc, ↓isEQ_exc, ↓gv_some, ↓gv_none, ↓reduceIte, ↓asD_dt, ↓asD_new, ↓isPl_dat, ↓isPl_own, ↓isPl_bor, ↓slD_dat, ↓slD_own, ↓slD_bor, ↓lslOwn, ↓lslBor, putL_own, putL_bor, slotOf_dt, slotOf_new, ↓asIint, ↓isB_bool, ↓truD_bool, ↓truD_none, ↓truD_int, ↓truD_list, ↓truD_tuple, ↓truR_dt, ↓truR_new, ↓rsl_dt, ↓rsl_pl, ocons_e, ↓rsls_nil, ↓rsls_cons, ↓dts_nil', ↓dts_cons, ↓outs_nil, ↓outs_bor, ↓outs_dat, stE_e, setAll_nil, setAll_cons, Option.map_some, Option.map_none, Option.bind_some, Option.bind_none, Option.isSome_none, Option.isSome_some, hideO_none, hideO_some, restO_none, restO_some, restS_hd, restT_some, wipeE_nil, wipeE_cons, backE_nil, backE_cons, keepD_dat, keepD_no, isOwn_dat, isOwn_own, Bool.false_and, Bool.true_and, Bool.and_false, Bool.and_true, Bool.not_true, Bool.not_false, List.map_cons, List.map_nil, List.cons_append, List.nil_append, List.append_nil, Nat.reduceAdd, List.length_cons, List.length_nil, List.length_map, Int.zero_add, ↓List.getElem?_cons_zero, ↓List.getElem?_cons_succ, ↓List.set_cons_zero, ↓List.set_cons_succ, sizeLine, Nat.reducePow, Nat.reduceLeDiff, true_and, and_true, eq_self, if_true, if_false, Bool.false_eq_true, decide_eq_true_eq, Bool.not_eq_true', decide_eq_false_iff_not, gMul_l, gMul_r, gMod_e, gDiv_e, gPow_e, Int.reducePow, gAdd_i, gSub_i, gNeg_i, gInt_i, gInt_b, gGt_i, gLt_i, gLe_i, gGe_i, gAbs_i, gLen_l, gLen_t, gLen_k, gList_l, gList_t, gList_k, gTuple_l, gTuple_t, gTuple_k, gIx_lo, gIx_to, gIx_k, atI_nn, Int.toNat_zero, Int.toNat_one, Int.toNat_natCast, Int.reduceToNat, gEq_i, gEq_s, gEq_b, gNe_i, gNe_s, ixN_nn, seqIx, rg1_e, rg2_e, seqD_l, seqD_t, seqD_k, lt2_l, lt2_t, lt2_k, gTp_k1, gTp_l1, gTp_t1, gTp_k2, gTp_l2, gTp_t2, gTp_k3, gTp_l3, gTp_t3, gTp_k4, gTp_l4, gTp_t4, gTp_k5, gTp_l5, gTp_t5, gCn_e, gN_e, gNl_e, gNe_b, zp2_ll, zp2_lt, zp2_lk, zp2_tl, zp2_tt, zp2_tk, zp2_kl, zp2_kt, zp2_kk, en1_l, gSl_l, gSl_t, cut_hi, cut_lo, cut_in, gAdd_l, gAdd_t, ↓isT_list_list, ↓isT_list_tuple, ↓isT_list_int, ↓isT_list_bool, ↓isT_list_str, ↓isT_tuple_list, ↓isT_tuple_tuple, ↓isT_tuple_int, ↓isT_tuple_bool, ↓isT_tuple_str, ↓isT_int_list, ↓isT_int_tuple, ↓isT_int_int, ↓isT_int_bool, ↓isT_int_str, ↓isT_bool_list, ↓isT_bool_tuple, ↓isT_bool_int, ↓isT_bool_bool, ↓isT_bool_str, ↓isT_str_list, ↓isT_str_tuple, ↓isT_str_int, ↓isT_str_bool, ↓isT_str_str, ↓isT_none_list, ↓isT_none_tuple, ↓isT_none_int, ↓isT_none_bool, ↓isT_none_str, gIsi_e, gIsi2_e, gIs_nn, gIs_i, gIs_b, gIs_s, gIs_l, gIs_t, gEq_nn, gLen_st, gAdd_st, gSl_st, gEq_st, gIx_alpha, stL_inj, lk1, Int.reduceEq, Int.reduceNeg, Int.reduceAdd, Int.reduceSub, rep2, Int.reduceLE, Int.reduceLT, Nat.reduceMul, and_self, fold_l, fold_t, tp_encS, tp_encQ, gIn_ints, gNotIn_ints, gIn_strs, gNotIn_strs, gNotIn_names, gIn_names, ix_encS, sd_encN, len_encN, Bool.or_false, Bool.or_true, Bool.true_or, Bool.false_or, decide_true, decide_false])
local macro_rules
  | `(tactic| obtain $p:rcasesPatMed := ($t:term :)) => `(tactic| (refine wp_nx $t (fun r q h => ?_); obtain $p := h; pv_eval))
theorem max_net {N : Net} {last : Int} (h : IsNet N last) : maxI (N.map fun s => s.2.2) = last := by
  refine maxI_eq ?_ ?_
  · obtain ⟨s, m, e⟩ := h.inn last h.pos (Int.le_refl _)
    exact List.mem_map.mpr ⟨s, m, e⟩
  · intro y hy
    obtain ⟨s, m, rfl⟩ := List.mem_map.mp hy
    exact (h.lo s m).2.2
theorem exit_ok {k : Bool} {N : Net} {last : Int} (h : IsNet N last) : wp (x__law_exit [.dat (encN k N)]) (fun r _ => r = .dt (.int last)) nX := by
  have hf := h.few
  unfold x__law_exit
  pv_eval
  refine ⟨by omega, lc_map (f := fun s => .int s.2.2) (fun s m => by pv_eval) ?_⟩
  pv_eval
  rw [gMax_map (net_len h), max_net h]
  pv_eval
end Lw
end

section
set_option Elab.async false
set_option linter.all false
set_option maxRecDepth 100000
set_option maxHeartbeats 4000000
namespace Lw
open PySem PySem.Spec PyProof.Rows L2 Dl
local macro_rules | `(tactic| pv_eval) => `(tactic| try simp (config := {maxSteps := 10000000, implicitDefEqProofs := false}) (disch := first | omega | (simp only [List.length_append, List.length_cons, List.length_nil, List.length_map]; omega)) only [↓wp_val, ↓wp_none, ↓wp_ex, ↓wp_ret, ↓wp_bnd, ↓wp_lft, ↓wp_eD, ↓wp_oE, ↓wp_oN, ↓wp_vNil, ↓wp_vCons, ↓wp_xB, ↓wp_xC, ↓wp_xVar, ↓wp_xTst, ↓wp_xTru, ↓wp_tYes, ↓wp_xNot, ↓wp_xAnd, ↓wp_xOr, ↓wp_xIf, ↓wp_yIf, ↓wp_xOrV, ↓wp_xAndV, ↓wp_xNotV, ↓wp_xTup, ↓wp_xLst, ↓wp_sNo, ↓wp_sAt, ↓wp_xSl, ↓wp_yPass, ↓wp_seq, ↓wp_yExpr, ↓wp_yRet, ↓wp_yRetV, ↓wp_ySet, ↓wp_yL, ↓wp_yD, ↓wp_ySetI, ↓wp_xApp, ↓wp_xPopAt, ↓wp_yAsg, ↓wp_yPar, ↓wp_rNil, ↓wp_rCons, ↓wp_yAug, ↓wp_zSeqN, ↓wp_zSeqE, ↓wp_zRg1, ↓wp_zRg2, ↓wp_zZip, ↓wp_zEnum, ↓wp_zEn2, zp2_nt, zp2_nl, zp2_nk, en2_n, ix_encN, cut_m, en2_l, en2_t, en2_k, gRv_l, gRv_t, ↓wp_fn0_17, ↓wp_fn0_18, ↓wp_fn0_19, ↓wp_fn0_20, ↓wp_fn0_21, ↓wp_fn0_22, ↓wp_fn0_23, ↓wp_fn0_24, ↓wp_fn0_25, ↓wp_fn0_26, ↓wp_fn0_27, ↓wp_fn0_28, ↓wp_fn0_29, ↓wp_fn1_18, ↓wp_fn1_19, ↓wp_fn1_20, ↓wp_fn1_21, ↓wp_fn1_22, ↓wp_fn1_23, ↓wp_fn1_24, ↓wp_fn1_25, ↓wp_fn1_26, ↓wp_fn1_27, ↓wp_fn1_28, ↓wp_fn1_29, ↓wp_fn1_30, ↓wp_fn2_19, ↓wp_fn2_20, ↓wp_fn2_21, ↓wp_fn2_22, ↓wp_fn2_23, ↓wp_fn2_24, ↓wp_fn2_25, ↓wp_fn2_26, ↓wp_fn2_27, ↓wp_fn2_28, ↓wp_fn2_29, ↓wp_fn2_30, ↓wp_fn2_31, ↓wp_fn3_20, ↓wp_fn3_21, ↓wp_fn3_22, ↓wp_fn3_23, ↓wp_fn3_24, ↓wp_fn3_25, ↓wp_fn3_26, ↓wp_fn3_27, ↓wp_fn3_28, ↓wp_fn3_29, ↓wp_fn3_30, ↓wp_fn3_31, ↓wp_fn3_32, ↓wp_fn4_21, ↓wp_fn4_22, ↓wp_fn4_23, ↓wp_fn4_24, ↓wp_fn4_25, ↓wp_fn4_26, ↓wp_fn4_27, ↓wp_fn4_28, ↓wp_fn4_29, ↓wp_fn4_30, ↓wp_fn4_31, ↓wp_fn4_32, ↓wp_fn4_33, ↓wp_fn5_22, ↓wp_fn5_23, ↓wp_fn5_24, ↓wp_fn5_25, ↓wp_fn5_26, ↓wp_fn5_27, ↓wp_fn5_28, ↓wp_fn5_29, ↓wp_fn5_30, ↓wp_fn5_31, ↓wp_fn5_32, ↓wp_fn5_33, ↓wp_fn6_23, ↓wp_fn6_24, ↓wp_fn6_25, ↓wp_fn6_26, ↓wp_fn6_27, ↓wp_fn6_28, ↓wp_fn6_29, ↓wp_fn6_30, ↓wp_fn6_31, ↓wp_fn6_32, ↓wp_fn6_33, ↓wp_fn7_24, ↓wp_fn7_25, ↓wp_fn7_26, ↓wp_fn7_27, ↓wp_fn7_28, ↓wp_fn7_29, ↓wp_fn7_30, ↓wp_fn7_31, ↓wp_fn7_32, ↓wp_fn7_33, ↓wp_fn8_25, ↓wp_fn8_26, ↓wp_fn8_27, ↓wp_fn8_28, ↓wp_fn8_29, ↓wp_fn8_30, ↓wp_fn8_31, ↓wp_fn8_32, ↓wp_fn8_33, ↓wp_yFor, ↓wp_oI, ↓wp_xChI, ↓wp_xTR1, ↓wp_xTR2, ↓wp_xDsp1, ↓wp_xDinN, ↓wp_xDnoN, ↓wp_xDinE, ↓wp_yDct, ↓wp_xDget, ↓wp_yDput, ↓dctQ_e, ↓wp_yAugB, ↓augBQ_e, ↓wp_yAugI, ↓intQ_e, gAddI_i, ↓wp_xRepN, ↓newQ'_e, ↓newdQ_e, ↓rtVar_dct, ↓isPl_dct, ↓keyOf_i, ↓keyOf_s, slotOf_newd, gRev_l, ↓wp_forNil, ↓wp_xLc, ↓lcStep_e, id_eq, ↓wp_callD, ↓wp_callK, ↓wp_callN, ↓wp_callB, ↓wp_yRaise, ↓wp_yRaise2, ↓wp_yTry, ↓wp_hNil, ↓wp_hAs, ↓wp_hNo, ↓wp_ySetE, ↓wp_xIsN, ↓wp_xFld, ↓wp_xIsE, ↓wp_fn0_0, ↓wp_fn0_1, ↓wp_fn0_2, ↓wp_fn0_3, ↓wp_fn0_4, ↓wp_fn0_5, ↓wp_fn0_6, ↓wp_fn0_7, ↓wp_fn0_8, ↓wp_fn0_9, ↓wp_fn0_10, ↓wp_fn0_11, ↓wp_fn0_12, ↓wp_fn0_13, ↓wp_fn0_14, ↓wp_fn0_15, ↓wp_fn0_16, ↓wp_fn1_1, ↓wp_fn1_2, ↓wp_fn1_3, ↓wp_fn1_4, ↓wp_fn1_5, ↓wp_fn1_6, ↓wp_fn1_7, ↓wp_fn1_8, ↓wp_fn1_9, ↓wp_fn1_10, ↓wp_fn1_11, ↓wp_fn1_12, ↓wp_fn1_13, ↓wp_fn1_14, ↓wp_fn1_15, ↓wp_fn1_16, ↓wp_fn1_17, ↓wp_fn2_2, ↓wp_fn2_3, ↓wp_fn2_4, ↓wp_fn2_5, ↓wp_fn2_6, ↓wp_fn2_7, ↓wp_fn2_8, ↓wp_fn2_9, ↓wp_fn2_10, ↓wp_fn2_11, ↓wp_fn2_12, ↓wp_fn2_13, ↓wp_fn2_14, ↓wp_fn2_15, ↓wp_fn2_16, ↓wp_fn2_17, ↓wp_fn2_18, ↓wp_fn3_3, ↓wp_fn3_4, ↓wp_fn3_5, ↓wp_fn3_6, ↓wp_fn3_7, ↓wp_fn3_8, ↓wp_fn3_9, ↓wp_fn3_10, ↓wp_fn3_11, ↓wp_fn3_12, ↓wp_fn3_13, ↓wp_fn3_14, ↓wp_fn3_15, ↓wp_fn3_16, ↓wp_fn3_17, ↓wp_fn3_18, ↓wp_fn3_19, ↓wp_fn4_4, ↓wp_fn4_5, ↓wp_fn4_6, ↓wp_fn4_7, ↓wp_fn4_8, ↓wp_fn4_9, ↓wp_fn4_10, ↓wp_fn4_11, ↓wp_fn4_12, ↓wp_fn4_13, ↓wp_fn4_14, ↓wp_fn4_15, ↓wp_fn4_16, ↓wp_fn4_17, ↓wp_fn4_18, ↓wp_fn4_19, ↓wp_fn4_20, ↓wp_fn5_5, ↓wp_fn5_6, ↓wp_fn5_7, ↓wp_fn5_8, ↓wp_fn5_9, ↓wp_fn5_10, ↓wp_fn5_11, ↓wp_fn5_12, ↓wp_fn5_13, ↓wp_fn5_14, ↓wp_fn5_15, ↓wp_fn5_16, ↓wp_fn5_17, ↓wp_fn5_18, ↓wp_fn5_19, ↓wp_fn5_20, ↓wp_fn5_21, ↓wp_fn6_6, ↓wp_fn6_7, ↓wp_fn6_8, ↓wp_fn6_9, ↓wp_fn6_10, ↓wp_fn6_11, ↓wp_fn6_12, ↓wp_fn6_13, ↓wp_fn6_14, ↓wp_fn6_15, ↓wp_fn6_16, ↓wp_fn6_17, ↓wp_fn6_18, ↓wp_fn6_19, ↓wp_fn6_20, ↓wp_fn6_21, ↓wp_fn6_22, ↓wp_fn7_7, ↓wp_fn7_8, ↓wp_fn7_9, ↓wp_fn7_10, ↓wp_fn7_11, ↓wp_fn7_12, ↓wp_fn7_13, ↓wp_fn7_14, ↓wp_fn7_15, ↓wp_fn7_16, ↓wp_fn7_17, ↓wp_fn7_18, ↓wp_fn7_19, ↓wp_fn7_20, ↓wp_fn7_21, ↓wp_fn7_22, ↓wp_fn7_23, ↓wp_fn8_8, ↓wp_fn8_9, ↓wp_fn8_10, ↓wp_fn8_11, ↓wp_fn8_12, ↓wp_fn8_13, ↓wp_fn8_14, ↓wp_fn8_15, ↓wp_fn8_16, ↓wp_fn8_17, ↓wp_fn8_18, ↓wp_fn8_19, ↓wp_fn8_20, ↓wp_fn8_21, ↓wp_fn8_22, ↓wp_fn8_23, ↓wp_fn8_24, ↓sq_nx, ↓sq_rt, ↓sq_bk, ↓sq_ct, ↓rdVar_dat, ↓rdVar_own, ↓rtVar_dat, ↓rtVar_own, ↓augQ_dat, ↓seqS_own, ↓seqS_bor, ↓seqS_dat, ↓finQ_nx, ↓finQ_rt, ↓turnQ_nx, ↓turnQ_ct, ↓turnQ_bk, ↓turnQ_rt, ↓endF_rt, ↓endF_nx, ↓newQ_new, ↓borE_ok, ↓borQ_pl, ↓rz1_one, ↓rz2_one, ↓asQ_rt, ↓asQ_nx, ↓setEQ_ok, ↓isNQ_exc, ↓isNQ_none, ↓fldQ_exc, ↓isEQ_exc, ↓gv_some, ↓gv_none, ↓reduceIte, ↓asD_dt, ↓asD_new, ↓isPl_dat, ↓isPl_own, ↓isPl_bor, ↓slD_dat, ↓slD_own, ↓slD_bor, ↓lslOwn, ↓lslBor, putL_own, putL_bor, slotOf_dt, slotOf_new, ↓asIint, ↓isB_bool, ↓truD_bool, ↓truD_none, ↓truD_int, ↓truD_list, ↓truD_tuple, ↓truR_dt, ↓truR_new, ↓rsl_dt, ↓rsl_pl, ocons_e, ↓rsls_nil, ↓rsls_cons, ↓dts_nil', ↓dts_cons, ↓outs_nil, ↓outs_bor, ↓outs_dat, stE_e, setAll_nil, setAll_cons, Option.map_some, Option.map_none, Option.bind_some, Option.bind_none, Option.isSome_none, Option.isSome_some, hideO_none, hideO_some, restO_none, restO_some, restS_hd, restT_some, wipeE_nil, wipeE_cons, backE_nil, backE_cons, keepD_dat, keepD_no, isOwn_dat, isOwn_own, Bool.false_and, Bool.true_and, Bool.and_false, Bool.and_true, Bool.not_true, Bool.not_false, List.map_cons, List.map_nil, List.cons_append, List.nil_append, List.append_nil, Nat.reduceAdd, List.length_cons, List.length_nil, List.length_map, Int.zero_add, ↓List.getElem?_cons_zero, ↓List.getElem?_cons_succ, ↓List.set_cons_zero, ↓List.set_cons_succ, sizeLine, Nat.reducePow, Nat.reduceLeDiff, true_and, and_true, eq_self, if_true, if_false, Bool.false_eq_true, decide_eq_true_eq, Bool.not_eq_true', decide_eq_false_iff_not, gMul_l, gMul_r, gMod_e, gDiv_e, gPow_e, Int.reducePow, gAdd_i, gSub_i, gNeg_i, gInt_i, gInt_b, gGt_i, gLt_i, gLe_i, gGe_i, gAbs_i, gLen_l, gLen_t, gLen_k, gList_l, gList_t, gList_k, gTuple_l, gTuple_t, gTuple_k, gIx_lo, gIx_to, gIx_k, atI_nn, Int.toNat_zero, Int.toNat_one, Int.toNat_natCast, Int.reduceToNat, gEq_i, gEq_s, gEq_b, gNe_i, gNe_s, ixN_nn, seqIx, rg1_e, rg2_e, seqD_l, seqD_t, seqD_k, lt2_l, lt2_t, lt2_k, gTp_k1, gTp_l1, gTp_t1, gTp_k2, gTp_l2, gTp_t2, gTp_k3, gTp_l3, gTp_t3, gTp_k4, gTp_l4, gTp_t4, gTp_k5, gTp_l5, gTp_t5, gCn_e, gN_e, gNl_e, gNe_b, zp2_ll, zp2_lt, zp2_lk, zp2_tl, zp2_tt, zp2_tk, zp2_kl, zp2_kt, zp2_kk, en1_l, gSl_l, gSl_t, cut_hi, cut_lo, cut_in, gAdd_l, gAdd_t, ↓isT_list_list, ↓isT_list_tuple, ↓isT_list_int, ↓isT_list_bool, ↓isT_list_str, ↓isT_tuple_list, ↓isT_tuple_tuple, ↓isT_tuple_int, ↓isT_tuple_bool, ↓isT_tuple_str, ↓isT_int_list, ↓isT_int_tuple, ↓isT_int_int, ↓isT_int_bool, ↓isT_int_str, ↓isT_bool_list, ↓isT_bool_tuple, ↓isT_bool_int, ↓isT_bool_bool, ↓isT_bool_str, ↓isT_str_list, ↓isT_str_tuple, ↓isT_str_int, ↓isT_str_bool, ↓isT_str_str, ↓isT_none_list, ↓isT_none_tuple, ↓isT_none_int, ↓isT_none_bool, ↓isT_none_str, gIsi_e, gIsi2_e, gIs_nn, gIs_i, gIs_b, gIs_s, gIs_l, gIs_t, gEq_nn, gLen_st, gAdd_st, gSl_st, gEq_st, gIx_alpha, stL_inj, lk1, Int.reduceEq, Int.reduceNeg, Int.reduceAdd, Int.reduceSub, rep2, Int.reduceLE, Int.reduceLT, Nat.reduceMul, and_self, fold_l, fold_t, tp_encS, tp_encQ, gIn_ints, gNotIn_ints, gIn_strs, gNotIn_strs, gNotIn_names, gIn_names, ix_encS, sd_encN, len_encN, Bool.or_false, Bool.or_true, Bool.true_or, Bool.false_or, decide_true, decide_false])
local macro_rules
  | `(tactic| obtain $p:rcasesPatMed := ($t:term :)) => `(tactic| (refine wp_nx $t (fun r q h => ?_); obtain $p := h; pv_eval))
def rowD (w : List Stp3) : PyData := .tuple (w.map fun s => .str (stL s.1))
def encE (e : Edg) : PyData := .tuple [rowD e.1, .int e.2]
theorem tp_encE {ts : Tgs} {e : Edg} {ρ : En} : gTp 2 ts (encE e) ρ = ts [rowD e.1, .int e.2] ρ := gTp_t2
theorem ix_encE {e : Edg} {i : Int} : gIx [encE e, .int i] = (atI [rowD e.1, .int e.2] i).map .dt := gIx_to
theorem row_kinds : ∀ w : List Stp3, kindsD (w.map fun s => .str (stL s.1)) = some (w.map fun _ => true)
  | [] => rfl
  | s :: w => by rw [List.map_cons, kindsD, row_kinds w]; rfl
theorem row_txt {w : List Stp3} (h : w ≠ []) : txtT (rowD w) = true := by
  cases w with
  | nil => exact (h rfl).elim
  | cons s w =>
    unfold txtT rowD
    have := row_kinds (s :: w)
    rw [List.map_cons] at this
    simp [kindD, this]
theorem cge_le {N : Net} {p : Int} : cge N p ≤ N.length := List.length_filter_le _ _
theorem ways_ok {k : Bool} {N : Net} {last : Int} (h : IsNet N last) (h24 : N.length ≤ 24) : wp (x__law_ways [.dat (encN k N)]) (fun r _ => ∃ W : List (List Stp3), r = .new (W.map rowD) ∧ W.Nodup ∧ (∀ w, w ∈ W ↔ Pth N 0 w last) ∧ Srt ltK (W.map rowD)) nX := by
  have hnd := net_nodup h.srt
  have hlt : ∀ s ∈ N, s.2.1 < s.2.2 := fun s m => (h.lo s m).2.1
  have hmany := h.many
  have hpos := h.pos
  unfold x__law_ways
  pv_eval
  refine wp_nx (exit_ok h) fun r q e => ?_
  subst e
  pv_eval
  have c24 : 2 ^ cge N 0 ≤ 16777216 := Nat.le_trans (Nat.pow_le_pow_right (by omega) (Nat.le_trans cge_le h24)) (by decide)
  refine for_range (fun lo n ρ => ∃ (F : List (List Stp3)) (E : List Edg) (a4 a5 a6 a7 a8 : Sl), 0 ≤ lo ∧ lo + n = last ∧ (E.map (·.1)).Nodup ∧ (∀ e, e ∈ E ↔ (e.1.length : Int) = lo ∧ Pth N 0 e.1 e.2 ∧ e.2 ≠ last) ∧ F.Nodup ∧ (∀ w, w ∈ F ↔ (w.length : Int) ≤ lo ∧ Pth N 0 w last) ∧ F.length + phi N E ≤ 16777216 ∧ ρ = [.dat (encN k N), .own (F.map rowD), .own (E.map encE), .dat (.int last), a4, a5, a6, a7, a8]) ⟨[], [([], 0)], _, _, _, _, _, by omega, by omega, by simp, ?_, by simp, ?_, by simpa [phi] using c24, rfl⟩ ?_ ?_
  · intro e
    obtain ⟨w, q⟩ := e
    simp only [List.mem_singleton, Prod.mk.injEq]
    constructor
    · rintro ⟨rfl, rfl⟩; exact ⟨rfl, rfl, by omega⟩
    · rintro ⟨h1, h2, _⟩
      have : w = [] := List.eq_nil_of_length_eq_zero (by omega)
      subst this
      exact ⟨rfl, h2.symm⟩
  · intro w
    simp only [List.not_mem_nil, false_iff, not_and]
    intro h1 h2
    have : w = [] := List.eq_nil_of_length_eq_zero (by omega)
    subst this
    have : (0 : Int) = last := h2
    omega
  · intro lo n ρ ⟨F, E, a4, a5, a6, a7, a8, hlo, hn, hE1, hE2, hF1, hF2, hΦ, e⟩
    subst e
    have hpE := phi_later hlt E
    pv_eval
    refine for_map (fun R ρ => ∃ (D : List Edg) (c6 c7 c8 : Sl), E = D ++ R ∧ ρ = [.dat (encN k N), .own (F.map rowD), .hd, .dat (.int last), .dat (.int lo), .own ((laterE N D).map encE), c6, c7, c8]) ⟨[], _, _, _, rfl, rfl⟩ ?_ ?_
    · intro e R ρ ⟨D, c6, c7, c8, hD, e2⟩
      subst e2
      have he : (e.1.length : Int) = lo := ((hE2 e).mp (by rw [hD]; simp)).1
      have l1 := len_phi (N := N) (laterE N (D ++ [e]))
      have l2 := phi_later hlt (D ++ [e])
      have l3 : phi N (D ++ [e]) ≤ phi N E := by
        rw [hD, show D ++ e :: R = (D ++ [e]) ++ R by simp, phi_app (E := D ++ [e])]; omega
      have l4 : laterE N (D ++ [e]) = laterE N D ++ later1 N e := by simp [laterE]
      have l5 : (laterE N D).length + (later1 N e).length ≤ 16777216 := by
        have : (laterE N (D ++ [e])).length = (laterE N D).length + (later1 N e).length := by rw [l4, List.length_append]
        omega
      have hfew := h.few
      simp only [tp_encE]
      pv_eval
      refine ⟨by omega, lc_filter (f := fun s => encE (e.1 ++ [s], s.2.2)) (p := fun s => decide (s.2.1 = e.2)) (fun s m => ?_) ?_⟩
      · unfold rowD
        pv_eval
        split
        · simp [encE, rowD]
        · rfl
      · have l6 : (N.filter fun s => decide (s.2.1 = e.2)).length = (later1 N e).length := by simp [later1]
        pv_eval
        have l7 : (later1 N e).map encE = (N.filter fun s => decide (s.2.1 = e.2)).map fun s => encE (e.1 ++ [s], s.2.2) := by
          unfold later1; rw [List.map_map]; rfl
        exact ⟨D ++ [e], .dat (rowD e.1), .dat (.int e.2), keepD (some c8), by simp [hD], by rw [l4, List.map_append, l7]⟩
    · intro ρ ⟨D, c6, c7, c8, hD, e2⟩
      subst e2
      rw [List.append_nil] at hD
      subst hD
      have m1 := len_phi (N := N) (laterE N E)
      have m2 := phi_filter (N := N) (p := fun e => decide (e.2 = last)) (laterE N E)
      have m3 := len_phi (N := N) ((laterE N E).filter fun e => decide (e.2 = last))
      pv_eval
      refine ⟨by omega, lc_filter (f := fun e => rowD e.1) (p := fun e => decide (e.2 = last)) (fun e m => ?_) ?_⟩
      · pv_eval
        rw [ix_encE]
        pv_eval
        split
        · next he =>
          rw [ix_encE]
          pv_eval
          rw [if_pos he]
        · rfl
      pv_eval
      refine ⟨by omega, lc_filter (f := encE) (p := fun e => !decide (e.2 = last)) (fun e m => ?_) ?_⟩
      · pv_eval
        rw [ix_encE]
        pv_eval
        split <;> rfl
      have hL : ∀ v, v ∈ laterE N E ↔ (v.1.length : Int) = lo + 1 ∧ Pth N 0 v.1 v.2 := by
        intro v
        rw [mem_laterE]
        constructor
        · rintro ⟨e, me, s, ms, e1, rfl⟩
          obtain ⟨g1, g2, _⟩ := (hE2 e).mp me
          exact ⟨by simp; omega, pth_app g2 ⟨ms, e1, rfl⟩⟩
        · rintro ⟨g1, g2⟩
          obtain ⟨w, q⟩ := v
          have hne : w ≠ [] := fun z => by subst z; simp at g1; omega
          obtain ⟨u, s, rfl⟩ : ∃ u s, w = u ++ [s] := ⟨w.dropLast, w.getLast hne, (List.dropLast_concat_getLast hne).symm⟩
          obtain ⟨p, p1, p2, p3, p4⟩ := pth_split g2
          have p4 : s.2.2 = q := p4
          subst p4
          refine ⟨(u, p), (hE2 _).mpr ⟨by simp at g1; show (u.length : Int) = lo; omega, p1, ?_⟩, s, p2, p3, rfl⟩
          have := (h.lo s p2)
          show p ≠ last
          omega
      have hLn := laterE_nodup hnd hE1
      pv_eval
      refine ⟨F ++ ((laterE N E).filter fun e => decide (e.2 = last)).map (·.1), (laterE N E).filter fun e => !decide (e.2 = last), _, _, _, _, _, by omega, by omega, ?_, ?_, ?_, ?_, ?_, by rw [List.map_append, List.map_map]; rfl⟩
      · exact (List.Sublist.map _ List.filter_sublist).nodup hLn
      · intro e
        rw [List.mem_filter, hL]
        simp only [Bool.not_eq_true', decide_eq_false_iff_not]
        exact ⟨fun z => ⟨z.1.1, z.1.2, z.2⟩, fun z => ⟨⟨z.1, z.2.1⟩, z.2.2⟩⟩
      · rw [List.nodup_append]
        refine ⟨hF1, (List.Sublist.map _ List.filter_sublist).nodup hLn, ?_⟩
        intro a ha b hb hab
        subst hab
        obtain ⟨e, me, rfl⟩ := List.mem_map.mp hb
        have g1 := ((hF2 _).mp ha).1
        have g2 := ((hL e).mp (List.mem_filter.mp me).1).1
        omega
      · intro w
        rw [List.mem_append, hF2, List.mem_map]
        constructor
        · rintro (z | ⟨e, me, rfl⟩)
          · exact ⟨by omega, z.2⟩
          · rw [List.mem_filter, hL] at me
            have g := of_decide_eq_true me.2
            rw [← g]
            exact ⟨by omega, me.1.2⟩
        · rintro ⟨g1, g2⟩
          by_cases g3 : (w.length : Int) ≤ lo
          · exact .inl ⟨g3, g2⟩
          · exact .inr ⟨(w, last), List.mem_filter.mpr ⟨(hL _).mpr ⟨by show (w.length : Int) = lo + 1; omega, g2⟩, decide_eq_true rfl⟩, rfl⟩
      · simp only [List.length_append, List.length_map]
        omega
  · intro lo ρ ⟨F, E, a4, a5, a6, a7, a8, hlo, hn, hE1, hE2, hF1, hF2, hΦ, e⟩
    subst e
    pv_eval
    rw [gSorted_t (fun d hd => by
      obtain ⟨w, mw, rfl⟩ := List.mem_map.mp hd
      have g := ((hF2 w).mp mw).2
      have hne : w ≠ [] := fun z => by subst z; have : (0 : Int) = last := g; omega
      exact row_txt hne)]
    pv_eval
    have hp := sortB_perm (lt := ltK) (F.map rowD)
    have hs := sortK_srt (F.map rowD)
    obtain ⟨W, eW, hpW⟩ := perm_map hp
    rw [eW] at hs ⊢
    refine ⟨W, rfl, hpW.symm.nodup hF1, fun w => ?_, hs⟩
    rw [hpW.mem_iff, hF2]
    refine ⟨fun z => z.2, fun z => ⟨?_, z⟩⟩
    have := pth_len hlt z
    omega
end Lw
end

section
set_option Elab.async false
set_option linter.all false
set_option maxRecDepth 100000
set_option maxHeartbeats 4000000
namespace Lw
open PySem PySem.Spec PyProof.Rows L2 Dl
local macro_rules | `(tactic| pv_eval) => `(tactic| try simp (config := {maxSteps := 10000000, implicitDefEqProofs := false}) (disch := first | omega | (simp only [List.length_append, List.length_cons, List.length_nil, List.length_map]; omega)) only [↓wp_val, ↓wp_none, ↓wp_ex, ↓wp_ret, ↓wp_bnd, ↓wp_lft, ↓wp_eD, ↓wp_oE, ↓wp_oN, ↓wp_vNil, ↓wp_vCons, ↓wp_xB, ↓wp_xC, ↓wp_xVar, ↓wp_xTst, ↓wp_xTru, ↓wp_tYes, ↓wp_xNot, ↓wp_xAnd, ↓wp_xOr, ↓wp_xIf, ↓wp_yIf, ↓wp_xOrV, ↓wp_xAndV, ↓wp_xNotV, ↓wp_xTup, ↓wp_xLst, ↓wp_sNo, ↓wp_sAt, ↓wp_xSl, ↓wp_yPass, ↓wp_seq, ↓wp_yExpr, ↓wp_yRet, ↓wp_yRetV, ↓wp_ySet, ↓wp_yL, ↓wp_yD, ↓wp_ySetI, ↓wp_xApp, ↓wp_xPopAt, ↓wp_yAsg, ↓wp_yPar, ↓wp_rNil, ↓wp_rCons, ↓wp_yAug, ↓wp_zSeqN, ↓wp_zSeqE, ↓wp_zRg1, ↓wp_zRg2, ↓wp_zZip, ↓wp_zEnum, ↓wp_zEn2, zp2_nt, zp2_nl, zp2_nk, en2_n, ix_encN, cut_m, en2_l, en2_t, en2_k, gRv_l, gRv_t, ↓wp_fn0_17, ↓wp_fn0_18, ↓wp_fn0_19, ↓wp_fn0_20, ↓wp_fn0_21, ↓wp_fn0_22, ↓wp_fn0_23, ↓wp_fn0_24, ↓wp_fn0_25, ↓wp_fn0_26, ↓wp_fn0_27, ↓wp_fn0_28, ↓wp_fn0_29, ↓wp_fn1_18, ↓wp_fn1_19, ↓wp_fn1_20, ↓wp_fn1_21, ↓wp_fn1_22, ↓wp_fn1_23, ↓wp_fn1_24, ↓wp_fn1_25, ↓wp_fn1_26, ↓wp_fn1_27, ↓wp_fn1_28, ↓wp_fn1_29, ↓wp_fn1_30, ↓wp_fn2_19, ↓wp_fn2_20, ↓wp_fn2_21, ↓wp_fn2_22, ↓wp_fn2_23, ↓wp_fn2_24, ↓wp_fn2_25, ↓wp_fn2_26, ↓wp_fn2_27, ↓wp_fn2_28, ↓wp_fn2_29, ↓wp_fn2_30, ↓wp_fn2_31, ↓wp_fn3_20, ↓wp_fn3_21, ↓wp_fn3_22, ↓wp_fn3_23, ↓wp_fn3_24, ↓wp_fn3_25, ↓wp_fn3_26, ↓wp_fn3_27, ↓wp_fn3_28, ↓wp_fn3_29, ↓wp_fn3_30, ↓wp_fn3_31, ↓wp_fn3_32, ↓wp_fn4_21, ↓wp_fn4_22, ↓wp_fn4_23, ↓wp_fn4_24, ↓wp_fn4_25, ↓wp_fn4_26, ↓wp_fn4_27, ↓wp_fn4_28, ↓wp_fn4_29, ↓wp_fn4_30, ↓wp_fn4_31, ↓wp_fn4_32, ↓wp_fn4_33, ↓wp_fn5_22, ↓wp_fn5_23, ↓wp_fn5_24, ↓wp_fn5_25, ↓wp_fn5_26, ↓wp_fn5_27, ↓wp_fn5_28, ↓wp_fn5_29, ↓wp_fn5_30, ↓wp_fn5_31, ↓wp_fn5_32, ↓wp_fn5_33, ↓wp_fn6_23, ↓wp_fn6_24, ↓wp_fn6_25, ↓wp_fn6_26, ↓wp_fn6_27, ↓wp_fn6_28, ↓wp_fn6_29, ↓wp_fn6_30, ↓wp_fn6_31, ↓wp_fn6_32, ↓wp_fn6_33, ↓wp_fn7_24, ↓wp_fn7_25, ↓wp_fn7_26, ↓wp_fn7_27, ↓wp_fn7_28, ↓wp_fn7_29, ↓wp_fn7_30, ↓wp_fn7_31, ↓wp_fn7_32, ↓wp_fn7_33, ↓wp_fn8_25, ↓wp_fn8_26, ↓wp_fn8_27, ↓wp_fn8_28, ↓wp_fn8_29, ↓wp_fn8_30, ↓wp_fn8_31, ↓wp_fn8_32, ↓wp_fn8_33, ↓wp_yFor, ↓wp_oI, ↓wp_xChI, ↓wp_xTR1, ↓wp_xTR2, ↓wp_xDsp1, ↓wp_xDinN, ↓wp_xDnoN, ↓wp_xDinE, ↓wp_yDct, ↓wp_xDget, ↓wp_yDput, ↓dctQ_e, ↓wp_yAugB, ↓augBQ_e, ↓wp_yAugI, ↓intQ_e, gAddI_i, ↓wp_xRepN, ↓newQ'_e, ↓newdQ_e, ↓rtVar_dct, ↓isPl_dct, ↓keyOf_i, ↓keyOf_s, slotOf_newd, gRev_l, ↓wp_forNil, ↓wp_xLc, ↓lcStep_e, id_eq, ↓wp_callD, ↓wp_callK, ↓wp_callN, ↓wp_callB, ↓wp_yRaise, ↓wp_yRaise2, ↓wp_yTry, ↓wp_hNil, ↓wp_hAs, ↓wp_hNo, ↓wp_ySetE, ↓wp_xIsN, ↓wp_xFld, ↓wp_xIsE, ↓wp_fn0_0, ↓wp_fn0_1, ↓wp_fn0_2, ↓wp_fn0_3, ↓wp_fn0_4, ↓wp_fn0_5, ↓wp_fn0_6, ↓wp_fn0_7, ↓wp_fn0_8, ↓wp_fn0_9, ↓wp_fn0_10, ↓wp_fn0_11, ↓wp_fn0_12, ↓wp_fn0_13, ↓wp_fn0_14, ↓wp_fn0_15, ↓wp_fn0_16, ↓wp_fn1_1, ↓wp_fn1_2, ↓wp_fn1_3, ↓wp_fn1_4, ↓wp_fn1_5, ↓wp_fn1_6, ↓wp_fn1_7, ↓wp_fn1_8, ↓wp_fn1_9, ↓wp_fn1_10, ↓wp_fn1_11, ↓wp_fn1_12, ↓wp_fn1_13, ↓wp_fn1_14, ↓wp_fn1_15, ↓wp_fn1_16, ↓wp_fn1_17, ↓wp_fn2_2, ↓wp_fn2_3, ↓wp_fn2_4, ↓wp_fn2_5, ↓wp_fn2_6, ↓wp_fn2_7, ↓wp_fn2_8, ↓wp_fn2_9, ↓wp_fn2_10, ↓wp_fn2_11, ↓wp_fn2_12, ↓wp_fn2_13, ↓wp_fn2_14, ↓wp_fn2_15, ↓wp_fn2_16, ↓wp_fn2_17, ↓wp_fn2_18, ↓wp_fn3_3, ↓wp_fn3_4, ↓wp_fn3_5, ↓wp_fn3_6, ↓wp_fn3_7, ↓wp_fn3_8, ↓wp_fn3_9, ↓wp_fn3_10, ↓wp_fn3_11, ↓wp_fn3_12, ↓wp_fn3_13, ↓wp_fn3_14, ↓wp_fn3_15, ↓wp_fn3_16, ↓wp_fn3_17, ↓wp_fn3_18, ↓wp_fn3_19, ↓wp_fn4_4, ↓wp_fn4_5, ↓wp_fn4_6, ↓wp_fn4_7, ↓wp_fn4_8, ↓wp_fn4_9, ↓wp_fn4_10, ↓wp_fn4_11, ↓wp_fn4_12, ↓wp_fn4_13, ↓wp_fn4_14, ↓wp_fn4_15, ↓wp_fn4_16, ↓wp_fn4_17, ↓wp_fn4_18, ↓wp_fn4_19, ↓wp_fn4_20, ↓wp_fn5_5, ↓wp_fn5_6, ↓wp_fn5_7, ↓wp_fn5_8, ↓wp_fn5_9, ↓wp_fn5_10, ↓wp_fn5_11, ↓wp_fn5_12, ↓wp_fn5_13, ↓wp_fn5_14, ↓wp_fn5_15, ↓wp_fn5_16, ↓wp_fn5_17, ↓wp_fn5_18, ↓wp_fn5_19, ↓wp_fn5_20, ↓wp_fn5_21, ↓wp_fn6_6, ↓wp_fn6_7, ↓wp_fn6_8, ↓wp_fn6_9, ↓wp_fn6_10, ↓wp_fn6_11, ↓wp_fn6_12, ↓wp_fn6_13, ↓wp_fn6_14, ↓wp_fn6_15, ↓wp_fn6_16, ↓wp_fn6_17, ↓wp_fn6_18, ↓wp_fn6_19, ↓wp_fn6_20, ↓wp_fn6_21, ↓wp_fn6_22, ↓wp_fn7_7, ↓wp_fn7_8, ↓wp_fn7_9, ↓wp_fn7_10, ↓wp_fn7_11, ↓wp_fn7_12, ↓wp_fn7_13, ↓wp_fn7_14, ↓wp_fn7_15, ↓wp_fn7_16, ↓wp_fn7_17, ↓wp_fn7_18, ↓wp_fn7_19, ↓wp_fn7_20, ↓wp_fn7_21, ↓wp_fn7_22, ↓wp_fn7_23, ↓wp_fn8_8, ↓wp_fn8_9, ↓wp_fn8_10, ↓wp_fn8_11, ↓wp_fn8_12, ↓wp_fn8_13, ↓wp_fn8_14, ↓wp_fn8_15, ↓wp_fn8_16, ↓wp_fn8_17, ↓wp_fn8_18, ↓wp_fn8_19, ↓wp_fn8_20, ↓wp_fn8_21, ↓wp_fn8_22, ↓wp_fn8_23, ↓wp_fn8_24, ↓sq_nx, ↓sq_rt, ↓sq_bk, ↓sq_ct, ↓rdVar_dat, ↓rdVar_own, ↓rtVar_dat, ↓rtVar_own, ↓augQ_dat, ↓seqS_own, ↓seqS_bor, ↓seqS_dat, ↓finQ_nx, ↓finQ_rt, ↓turnQ_nx, ↓turnQ_ct, ↓turnQ_bk, ↓turnQ_rt, ↓endF_rt, ↓endF_nx, ↓newQ_new, ↓borE_ok, ↓borQ_pl, ↓rz1_one, ↓rz2_one, ↓asQ_rt, ↓asQ_nx, ↓setEQ_ok, ↓isNQ_exc, ↓isNQ_none, ↓fldQ_exc, ↓isEQ_exc, ↓gv_some, ↓gv_none, ↓reduceIte, ↓asD_dt, ↓asD_new, ↓isPl_dat, ↓isPl_own, ↓isPl_bor, ↓slD_dat, ↓slD_own, ↓slD_bor, ↓lslOwn, ↓lslBor, putL_own, putL_bor, slotOf_dt, slotOf_new, ↓asIint, ↓isB_bool, ↓truD_bool, ↓truD_none, ↓truD_int, ↓truD_list, ↓truD_tuple, ↓truR_dt, ↓truR_new, ↓rsl_dt, ↓rsl_pl, ocons_e, ↓rsls_nil, ↓rsls_cons, ↓dts_nil', ↓dts_cons, ↓outs_nil, ↓outs_bor, ↓outs_dat, stE_e, setAll_nil, setAll_cons, Option.map_some, Option.map_none, Option.bind_some, Option.bind_none, Option.isSome_none, Option.isSome_some, hideO_none, hideO_some, restO_none, restO_some, restS_hd, restT_some, wipeE_nil, wipeE_cons, backE_nil, backE_cons, keepD_dat, keepD_no, isOwn_dat, isOwn_own, Bool.false_and, Bool.true_and, Bool.and_false, Bool.and_true, Bool.not_true, Bool.not_false, List.map_cons, List.map_nil, List.cons_append, List.nil_append, List.append_nil, Nat.reduceAdd, List.length_cons, List.length_nil, List.length_map, Int.zero_add, ↓List.getElem?_cons_zero, ↓List.getElem?_cons_succ, ↓List.set_cons_zero, ↓List.set_cons_succ, sizeLine, Nat.reducePow, Nat.reduceLeDiff, true_and, and_true, eq_self, if_true, if_false, Bool.false_eq_true, decide_eq_true_eq, Bool.not_eq_true', decide_eq_false_iff_not, gMul_l, gMul_r, gMod_e, gDiv_e, gPow_e, Int.reducePow, gAdd_i, gSub_i, gNeg_i, gInt_i, gInt_b, gGt_i, gLt_i, gLe_i, gGe_i, gAbs_i, gLen_l, gLen_t, gLen_k, gList_l, gList_t, gList_k, gTuple_l, gTuple_t, gTuple_k, gIx_lo, gIx_to, gIx_k, atI_nn, Int.toNat_zero, Int.toNat_one, Int.toNat_natCast, Int.reduceToNat, gEq_i, gEq_s, gEq_b, gNe_i, gNe_s, ixN_nn, seqIx, rg1_e, rg2_e, seqD_l, seqD_t, seqD_k, lt2_l, lt2_t, lt2_k, gTp_k1, gTp_l1, gTp_t1, gTp_k2, gTp_l2, gTp_t2, gTp_k3, gTp_l3, gTp_t3, gTp_k4, gTp_l4, gTp_t4, gTp_k5, gTp_l5, gTp_t5, gCn_e, gN_e, gNl_e, gNe_b, zp2_ll, zp2_lt, zp2_lk, zp2_tl, zp2_tt, zp2_tk, zp2_kl, zp2_kt, zp2_kk, en1_l, gSl_l, gSl_t, cut_hi, cut_lo, cut_in, gAdd_l, gAdd_t, ↓isT_list_list, ↓isT_list_tuple, ↓isT_list_int, ↓isT_list_bool, ↓isT_list_str, ↓isT_tuple_list, ↓isT_tuple_tuple, ↓isT_tuple_int, ↓isT_tuple_bool, ↓isT_tuple_str, ↓isT_int_list, ↓isT_int_tuple, ↓isT_int_int, ↓isT_int_bool, ↓isT_int_str, ↓isT_bool_list, ↓isT_bool_tuple, ↓isT_bool_int, ↓isT_bool_bool, ↓isT_bool_str, ↓isT_str_list, ↓isT_str_tuple, ↓isT_str_int, ↓isT_str_bool, ↓isT_str_str, ↓isT_none_list, ↓isT_none_tuple, ↓isT_none_int, ↓isT_none_bool, ↓isT_none_str, gIsi_e, gIsi2_e, gIs_nn, gIs_i, gIs_b, gIs_s, gIs_l, gIs_t, gEq_nn, gLen_st, gAdd_st, gSl_st, gEq_st, gIx_alpha, stL_inj, lk1, Int.reduceEq, Int.reduceNeg, Int.reduceAdd, Int.reduceSub, rep2, Int.reduceLE, Int.reduceLT, Nat.reduceMul, and_self, fold_l, fold_t, tp_encS, tp_encQ, gIn_ints, gNotIn_ints, gIn_strs, gNotIn_strs, gNotIn_names, gIn_names, ix_encS, sd_encN, len_encN, Bool.or_false, Bool.or_true, Bool.true_or, Bool.false_or, decide_true, decide_false])
local macro_rules
  | `(tactic| obtain $p:rcasesPatMed := ($t:term :)) => `(tactic| (refine wp_nx $t (fun r q h => ?_); obtain $p := h; pv_eval))
theorem last_ok {k : Bool} {N : Net} {last : Int} (h : IsNet N last) : wp (x_last_place [.dat (encN k N)]) (fun r _ => r = .dt (.int last)) nX := by
  have hf := h.few
  unfold x_last_place
  pv_eval
  refine ⟨by omega, lc_map (f := fun s => .int s.2.2) (fun s m => by pv_eval) ?_⟩
  pv_eval
  rw [gMax_map (net_len h), max_net h]
  pv_eval
end Lw
end

section
set_option Elab.async false
set_option linter.all false
set_option maxRecDepth 100000
set_option maxHeartbeats 4000000
namespace Lw
open PySem PySem.Spec PyProof.Rows L2 Dl
local macro_rules | `(tactic| pv_eval) => `(tactic| try simp (config := {maxSteps := 10000000, implicitDefEqProofs := false}) (disch := first | omega | (simp only [List.length_append, List.length_cons, List.length_nil, List.length_map]; omega)) only [↓wp_val, ↓wp_none, ↓wp_ex, ↓wp_ret, ↓wp_bnd, ↓wp_lft, ↓wp_eD, ↓wp_oE, ↓wp_oN, ↓wp_vNil, ↓wp_vCons, ↓wp_xB, ↓wp_xC, ↓wp_xVar, ↓wp_xTst, ↓wp_xTru, ↓wp_tYes, ↓wp_xNot, ↓wp_xAnd, ↓wp_xOr, ↓wp_xIf, ↓wp_yIf, ↓wp_xOrV, ↓wp_xAndV, ↓wp_xNotV, ↓wp_xTup, ↓wp_xLst, ↓wp_sNo, ↓wp_sAt, ↓wp_xSl, ↓wp_yPass, ↓wp_seq, ↓wp_yExpr, ↓wp_yRet, ↓wp_yRetV, ↓wp_ySet, ↓wp_yL, ↓wp_yD, ↓wp_ySetI, ↓wp_xApp, ↓wp_xPopAt, ↓wp_yAsg, ↓wp_yPar, ↓wp_rNil, ↓wp_rCons, ↓wp_yAug, ↓wp_zSeqN, ↓wp_zSeqE, ↓wp_zRg1, ↓wp_zRg2, ↓wp_zZip, ↓wp_zEnum, ↓wp_zEn2, zp2_nt, zp2_nl, zp2_nk, en2_n, ix_encN, cut_m, en2_l, en2_t, en2_k, gRv_l, gRv_t, ↓wp_fn0_17, ↓wp_fn0_18, ↓wp_fn0_19, ↓wp_fn0_20, ↓wp_fn0_21, ↓wp_fn0_22, ↓wp_fn0_23, ↓wp_fn0_24, ↓wp_fn0_25, ↓wp_fn0_26, ↓wp_fn0_27, ↓wp_fn0_28, ↓wp_fn0_29, ↓wp_fn1_18, ↓wp_fn1_19, ↓wp_fn1_20, ↓wp_fn1_21, ↓wp_fn1_22, ↓wp_fn1_23, ↓wp_fn1_24, ↓wp_fn1_25, ↓wp_fn1_26, ↓wp_fn1_27, ↓wp_fn1_28, ↓wp_fn1_29, ↓wp_fn1_30, ↓wp_fn2_19, ↓wp_fn2_20, ↓wp_fn2_21, ↓wp_fn2_22, ↓wp_fn2_23, ↓wp_fn2_24, ↓wp_fn2_25, ↓wp_fn2_26, ↓wp_fn2_27, ↓wp_fn2_28, ↓wp_fn2_29, ↓wp_fn2_30, ↓wp_fn2_31, ↓wp_fn3_20, ↓wp_fn3_21, ↓wp_fn3_22, ↓wp_fn3_23, ↓wp_fn3_24, ↓wp_fn3_25, ↓wp_fn3_26, ↓wp_fn3_27, ↓wp_fn3_28, ↓wp_fn3_29, ↓wp_fn3_30, ↓wp_fn3_31, ↓wp_fn3_32, ↓wp_fn4_21, ↓wp_fn4_22, ↓wp_fn4_23, ↓wp_fn4_24, ↓wp_fn4_25, ↓wp_fn4_26, ↓wp_fn4_27, ↓wp_fn4_28, ↓wp_fn4_29, ↓wp_fn4_30, ↓wp_fn4_31, ↓wp_fn4_32, ↓wp_fn4_33, ↓wp_fn5_22, ↓wp_fn5_23, ↓wp_fn5_24, ↓wp_fn5_25, ↓wp_fn5_26, ↓wp_fn5_27, ↓wp_fn5_28, ↓wp_fn5_29, ↓wp_fn5_30, ↓wp_fn5_31, ↓wp_fn5_32, ↓wp_fn5_33, ↓wp_fn6_23, ↓wp_fn6_24, ↓wp_fn6_25, ↓wp_fn6_26, ↓wp_fn6_27, ↓wp_fn6_28, ↓wp_fn6_29, ↓wp_fn6_30, ↓wp_fn6_31, ↓wp_fn6_32, ↓wp_fn6_33, ↓wp_fn7_24, ↓wp_fn7_25, ↓wp_fn7_26, ↓wp_fn7_27, ↓wp_fn7_28, ↓wp_fn7_29, ↓wp_fn7_30, ↓wp_fn7_31, ↓wp_fn7_32, ↓wp_fn7_33, ↓wp_fn8_25, ↓wp_fn8_26, ↓wp_fn8_27, ↓wp_fn8_28, ↓wp_fn8_29, ↓wp_fn8_30, ↓wp_fn8_31, ↓wp_fn8_32, ↓wp_fn8_33, ↓wp_yFor, ↓wp_oI, ↓wp_xChI, ↓wp_xTR1, ↓wp_xTR2, ↓wp_xDsp1, ↓wp_xDinN, ↓wp_xDnoN, ↓wp_xDinE, ↓wp_yDct, ↓wp_xDget, ↓wp_yDput, ↓dctQ_e, ↓wp_yAugB, ↓augBQ_e, ↓wp_yAugI, ↓intQ_e, gAddI_i, ↓wp_xRepN, ↓newQ'_e, ↓newdQ_e, ↓rtVar_dct, ↓isPl_dct, ↓keyOf_i, ↓keyOf_s, slotOf_newd, gRev_l, ↓wp_forNil, ↓wp_xLc, ↓lcStep_e, id_eq, ↓wp_callD, ↓wp_callK, ↓wp_callN, ↓wp_callB, ↓wp_yRaise, ↓wp_yRaise2, ↓wp_yTry, ↓wp_hNil, ↓wp_hAs, ↓wp_hNo, ↓wp_ySetE, ↓wp_xIsN, ↓wp_xFld, ↓wp_xIsE, ↓wp_fn0_0, ↓wp_fn0_1, ↓wp_fn0_2, ↓wp_fn0_3, ↓wp_fn0_4, ↓wp_fn0_5, ↓wp_fn0_6, ↓wp_fn0_7, ↓wp_fn0_8, ↓wp_fn0_9, ↓wp_fn0_10, ↓wp_fn0_11, ↓wp_fn0_12, ↓wp_fn0_13, ↓wp_fn0_14, ↓wp_fn0_15, ↓wp_fn0_16, ↓wp_fn1_1, ↓wp_fn1_2, ↓wp_fn1_3, ↓wp_fn1_4, ↓wp_fn1_5, ↓wp_fn1_6, ↓wp_fn1_7, ↓wp_fn1_8, ↓wp_fn1_9, ↓wp_fn1_10, ↓wp_fn1_11, ↓wp_fn1_12, ↓wp_fn1_13, ↓wp_fn1_14, ↓wp_fn1_15, ↓wp_fn1_16, ↓wp_fn1_17, ↓wp_fn2_2, ↓wp_fn2_3, ↓wp_fn2_4, ↓wp_fn2_5, ↓wp_fn2_6, ↓wp_fn2_7, ↓wp_fn2_8, ↓wp_fn2_9, ↓wp_fn2_10, ↓wp_fn2_11, ↓wp_fn2_12, ↓wp_fn2_13, ↓wp_fn2_14, ↓wp_fn2_15, ↓wp_fn2_16, ↓wp_fn2_17, ↓wp_fn2_18, ↓wp_fn3_3, ↓wp_fn3_4, ↓wp_fn3_5, ↓wp_fn3_6, ↓wp_fn3_7, ↓wp_fn3_8, ↓wp_fn3_9, ↓wp_fn3_10, ↓wp_fn3_11, ↓wp_fn3_12, ↓wp_fn3_13, ↓wp_fn3_14, ↓wp_fn3_15, ↓wp_fn3_16, ↓wp_fn3_17, ↓wp_fn3_18, ↓wp_fn3_19, ↓wp_fn4_4, ↓wp_fn4_5, ↓wp_fn4_6, ↓wp_fn4_7, ↓wp_fn4_8, ↓wp_fn4_9, ↓wp_fn4_10, ↓wp_fn4_11, ↓wp_fn4_12, ↓wp_fn4_13, ↓wp_fn4_14, ↓wp_fn4_15, ↓wp_fn4_16, ↓wp_fn4_17, ↓wp_fn4_18, ↓wp_fn4_19, ↓wp_fn4_20, ↓wp_fn5_5, ↓wp_fn5_6, ↓wp_fn5_7, ↓wp_fn5_8, ↓wp_fn5_9, ↓wp_fn5_10, ↓wp_fn5_11, ↓wp_fn5_12, ↓wp_fn5_13, ↓wp_fn5_14, ↓wp_fn5_15, ↓wp_fn5_16, ↓wp_fn5_17, ↓wp_fn5_18, ↓wp_fn5_19, ↓wp_fn5_20, ↓wp_fn5_21, ↓wp_fn6_6, ↓wp_fn6_7, ↓wp_fn6_8, ↓wp_fn6_9, ↓wp_fn6_10, ↓wp_fn6_11, ↓wp_fn6_12, ↓wp_fn6_13, ↓wp_fn6_14, ↓wp_fn6_15, ↓wp_fn6_16, ↓wp_fn6_17, ↓wp_fn6_18, ↓wp_fn6_19, ↓wp_fn6_20, ↓wp_fn6_21, ↓wp_fn6_22, ↓wp_fn7_7, ↓wp_fn7_8, ↓wp_fn7_9, ↓wp_fn7_10, ↓wp_fn7_11, ↓wp_fn7_12, ↓wp_fn7_13, ↓wp_fn7_14, ↓wp_fn7_15, ↓wp_fn7_16, ↓wp_fn7_17, ↓wp_fn7_18, ↓wp_fn7_19, ↓wp_fn7_20, ↓wp_fn7_21, ↓wp_fn7_22, ↓wp_fn7_23, ↓wp_fn8_8, ↓wp_fn8_9, ↓wp_fn8_10, ↓wp_fn8_11, ↓wp_fn8_12, ↓wp_fn8_13, ↓wp_fn8_14, ↓wp_fn8_15, ↓wp_fn8_16, ↓wp_fn8_17, ↓wp_fn8_18, ↓wp_fn8_19, ↓wp_fn8_20, ↓wp_fn8_21, ↓wp_fn8_22, ↓wp_fn8_23, ↓wp_fn8_24, ↓sq_nx, ↓sq_rt, ↓sq_bk, ↓sq_ct, ↓rdVar_dat, ↓rdVar_own, ↓rtVar_dat, ↓rtVar_own, ↓augQ_dat, ↓seqS_own, ↓seqS_bor, ↓seqS_dat, ↓finQ_nx, ↓finQ_rt, ↓turnQ_nx, ↓turnQ_ct, ↓turnQ_bk, ↓turnQ_rt, ↓endF_rt, ↓endF_nx, ↓newQ_new, ↓borE_ok, ↓borQ_pl, ↓rz1_one, ↓rz2_one, ↓asQ_rt, ↓asQ_nx, ↓setEQ_ok, ↓isNQ_exc, ↓isNQ_none, ↓fldQ_exc, ↓isEQ_exc, ↓gv_some, ↓gv_none, ↓reduceIte, ↓asD_dt, ↓asD_new, ↓isPl_dat, ↓isPl_own, ↓isPl_bor, ↓slD_dat, ↓slD_own, ↓slD_bor, ↓lslOwn, ↓lslBor, putL_own, putL_bor, slotOf_dt, slotOf_new, ↓asIint, ↓isB_bool, ↓truD_bool, ↓truD_none, ↓truD_int, ↓truD_list, ↓truD_tuple, ↓truR_dt, ↓truR_new, ↓rsl_dt, ↓rsl_pl, ocons_e, ↓rsls_nil, ↓rsls_cons, ↓dts_nil', ↓dts_cons, ↓outs_nil, ↓outs_bor, ↓outs_dat, stE_e, setAll_nil, setAll_cons, Option.map_some, Option.map_none, Option.bind_some, Option.bind_none, Option.isSome_none, Option.isSome_some, hideO_none, hideO_some, restO_none, restO_some, restS_hd, restT_some, wipeE_nil, wipeE_cons, backE_nil, backE_cons, keepD_dat, keepD_no, isOwn_dat, isOwn_own, Bool.false_and, Bool.true_and, Bool.and_false, Bool.and_true, Bool.not_true, Bool.not_false, List.map_cons, List.map_nil, List.cons_append, List.nil_append, List.append_nil, Nat.reduceAdd, List.length_cons, List.length_nil, List.length_map, Int.zero_add, ↓List.getElem?_cons_zero, ↓List.getElem?_cons_succ, ↓List.set_cons_zero, ↓List.set_cons_succ, sizeLine, Nat.reducePow, Nat.reduceLeDiff, true_and, and_true, eq_self, if_true, if_false, Bool.false_eq_true, decide_eq_true_eq, Bool.not_eq_true', decide_eq_false_iff_not, gMul_l, gMul_r, gMod_e, gDiv_e, gPow_e, Int.reducePow, gAdd_i, gSub_i, gNeg_i, gInt_i, gInt_b, gGt_i, gLt_i, gLe_i, gGe_i, gAbs_i, gLen_l, gLen_t, gLen_k, gList_l, gList_t, gList_k, gTuple_l, gTuple_t, gTuple_k, gIx_lo, gIx_to, gIx_k, atI_nn, Int.toNat_zero, Int.toNat_one, Int.toNat_natCast, Int.reduceToNat, gEq_i, gEq_s, gEq_b, gNe_i, gNe_s, ixN_nn, seqIx, rg1_e, rg2_e, seqD_l, seqD_t, seqD_k, lt2_l, lt2_t, lt2_k, gTp_k1, gTp_l1, gTp_t1, gTp_k2, gTp_l2, gTp_t2, gTp_k3, gTp_l3, gTp_t3, gTp_k4, gTp_l4, gTp_t4, gTp_k5, gTp_l5, gTp_t5, gCn_e, gN_e, gNl_e, gNe_b, zp2_ll, zp2_lt, zp2_lk, zp2_tl, zp2_tt, zp2_tk, zp2_kl, zp2_kt, zp2_kk, en1_l, gSl_l, gSl_t, cut_hi, cut_lo, cut_in, gAdd_l, gAdd_t, ↓isT_list_list, ↓isT_list_tuple, ↓isT_list_int, ↓isT_list_bool, ↓isT_list_str, ↓isT_tuple_list, ↓isT_tuple_tuple, ↓isT_tuple_int, ↓isT_tuple_bool, ↓isT_tuple_str, ↓isT_int_list, ↓isT_int_tuple, ↓isT_int_int, ↓isT_int_bool, ↓isT_int_str, ↓isT_bool_list, ↓isT_bool_tuple, ↓isT_bool_int, ↓isT_bool_bool, ↓isT_bool_str, ↓isT_str_list, ↓isT_str_tuple, ↓isT_str_int, ↓isT_str_bool, ↓isT_str_str, ↓isT_none_list, ↓isT_none_tuple, ↓isT_none_int, ↓isT_none_bool, ↓isT_none_str, gIsi_e, gIsi2_e, gIs_nn, gIs_i, gIs_b, gIs_s, gIs_l, gIs_t, gEq_nn, gLen_st, gAdd_st, gSl_st, gEq_st, gIx_alpha, stL_inj, lk1, Int.reduceEq, Int.reduceNeg, Int.reduceAdd, Int.reduceSub, rep2, Int.reduceLE, Int.reduceLT, Nat.reduceMul, and_self, fold_l, fold_t, tp_encS, tp_encQ, gIn_ints, gNotIn_ints, gIn_strs, gNotIn_strs, gNotIn_names, gIn_names, ix_encS, sd_encN, len_encN, Bool.or_false, Bool.or_true, Bool.true_or, Bool.false_or, decide_true, decide_false])
local macro_rules
  | `(tactic| obtain $p:rcasesPatMed := ($t:term :)) => `(tactic| (refine wp_nx $t (fun r q h => ?_); obtain $p := h; pv_eval))
def isI : PyData → Bool
  | .int _ => true
  | _ => false
def cntD : PyData → Bool
  | .int i => decide (0 ≤ i)
  | _ => false
def intD : PyData → Int
  | .int i => i
  | _ => 0
theorem number_ok {n : Nat} {d : PyData} (h : okd n d) : wp (x_is_number [.dat d]) (fun r _ => r = .dt (.bool (isI d))) nX := by
  unfold x_is_number
  cases d with
  | dict _ => cases n <;> exact h.elim
  | none => pv_eval; rfl
  | bool b => pv_eval; rfl
  | int i => pv_eval; rfl
  | str s => pv_eval; rfl
  | list xs => pv_eval; rfl
  | tuple xs => pv_eval; rfl
theorem count_ok {n : Nat} {d : PyData} (h : okd n d) : wp (x_is_count [.dat d]) (fun r _ => r = .dt (.bool (cntD d))) nX := by
  unfold x_is_count
  pv_eval
  obtain rfl := (number_ok h :)
  cases d with
  | dict _ => cases n <;> exact h.elim
  | none => rfl
  | bool b => rfl
  | int i => simp only [isI]; pv_eval; rfl
  | str s => rfl
  | list xs => rfl
  | tuple xs => rfl
/-- what leaves a place less what comes to it -/
def flS (D : List (Stp3 × Int)) (p : Int) : Int := (D.map fun q => (if q.1.2.1 = p then q.2 else 0) - (if q.1.2.2 = p then q.2 else 0)).sum
theorem flS_app {D : List (Stp3 × Int)} {q : Stp3 × Int} {p : Int} : flS (D ++ [q]) p = flS D p + ((if q.1.2.1 = p then q.2 else 0) - (if q.1.2.2 = p then q.2 else 0)) := by simp [flS]
abbrev flow (N : Net) (L : List Int) (p : Int) : Int := flS (N.zip L) p
def LdB (N : Net) (last g : Int) : PyData → Bool
  | .tuple xs => decide (xs.length = N.length) && xs.all cntD && (List.range last.toNat).all fun p => decide (flow N (xs.map intD) p = if p = 0 then g else 0)
  | _ => false
theorem cnt_int : ∀ {xs : List PyData}, xs.all cntD = true → xs = (xs.map intD).map PyData.int
  | [], _ => rfl
  | d :: xs, h => by
    simp only [List.all_cons, Bool.and_eq_true] at h
    have := cnt_int h.2
    rw [List.map_cons, List.map_cons, ← this]
    cases d <;> simp [cntD] at h <;> rfl
theorem okd_tup {n : Nat} {xs : List PyData} (h : okd n (.tuple xs)) : xs.length ≤ 16777216 ∧ ∀ d ∈ xs, okd (n - 1) d := by
  cases n with
  | zero => exact h.elim
  | succ n => exact h
theorem loads_ok {k : Bool} {N : Net} {last g : Int} {n : Nat} {d : PyData} (h : IsNet N last) (hd : okd n d) : wp (x_is_loads [.dat (encN k N), .dat (.int g), .dat d]) (fun r _ => r = .dt (.bool (LdB N last g d))) nX := by
  have hf := h.few
  have hpos := h.pos
  have hmany := h.many
  unfold x_is_loads
  cases d with
  | dict _ => cases n <;> exact hd.elim
  | none => pv_eval; rfl
  | bool b => pv_eval; rfl
  | int i => pv_eval; rfl
  | str s => pv_eval; rfl
  | list xs => pv_eval; rfl
  | tuple xs =>
    obtain ⟨hl, hx⟩ := okd_tup hd
    pv_eval
    split
    · next e =>
      have : ¬ xs.length = N.length := by omega
      simp [LdB, this]
    next e =>
    have e : xs.length = N.length := by omega
    refine ⟨hl, lc_mapE (xs := xs) (enc := id) (f := fun d => .bool (cntD d)) (by simp) (fun d hd => ?_) ?_⟩
    · pv_eval
      obtain rfl := (count_ok (hx d hd) :)
    pv_eval
    rw [gAll_map]
    pv_eval
    split
    · next ha => simp [LdB, ha]
    next ha =>
    have ha : xs.all cntD = true := by simpa using ha
    obtain ⟨L, rfl, hL⟩ : ∃ L : List Int, xs = L.map PyData.int ∧ xs.map intD = L := ⟨_, cnt_int ha, rfl⟩
    rw [List.length_map] at e
    obtain rfl := (last_ok h :)
    refine ⟨⟨by omega, by omega⟩, ?_⟩
    rw [arrI_rep]
    pv_eval
    rw [zipD_map]
    refine for_pre rfl (fun done ρ => ∃ (a5 a6 a7 a8 : Sl), ρ = [.dat (encN k N), .dat (.int g), .dat (.tuple (L.map .int)), .no, .own (arrI (last + 1).toNat fun p => flS done p), a5, a6, a7, a8]) ⟨_, _, _, _, rfl⟩ ?_ ?_
    · intro done q rest ρ eq ⟨a5, a6, a7, a8, e⟩
      subst e
      have mq : q ∈ N.zip L := by rw [eq]; simp
      have hq := h.lo q.1 (List.of_mem_zip mq).1
      have i1 : q.1.2.1.toNat < (last + 1).toNat := by omega
      have i2 : q.1.2.2.toNat < (last + 1).toNat := by omega
      pv_eval
      refine ⟨hq.1, ?_⟩
      rw [arrI_get i1]
      pv_eval
      rw [arrI_len, arrI_set]
      refine ⟨by omega, ?_⟩
      pv_eval
      refine ⟨by omega, ?_⟩
      rw [arrI_get i2]
      pv_eval
      rw [arrI_len, arrI_set]
      refine ⟨by omega, .dat (.str (stL q.1.1)), .dat (.int q.1.2.1), .dat (.int q.1.2.2), .dat (.int q.2), ?_⟩
      rw [arrI_congr (G := fun p : Nat => flS (done ++ [q]) p)]
      intro j hj
      rw [flS_app]
      have c1 : (j = q.1.2.2.toNat) = (q.1.2.2 = (j : Int)) := by apply propext; omega
      have c2 : (j = q.1.2.1.toNat) = (q.1.2.1 = (j : Int)) := by apply propext; omega
      have c3 : ¬ (q.1.2.2.toNat = q.1.2.1.toNat) := by omega
      simp only [c1, c2, if_neg c3]
      by_cases z1 : q.1.2.2 = (j : Int)
      · have z2 : ¬ q.1.2.1 = (j : Int) := by omega
        have z3 : ((q.1.2.2.toNat : Nat) : Int) = (j : Int) := by omega
        simp only [if_pos z1, if_neg z2, z3]; omega
      · by_cases z2 : q.1.2.1 = (j : Int)
        · have z3 : ((q.1.2.1.toNat : Nat) : Int) = (j : Int) := by omega
          simp only [if_neg z1, if_pos z2, z3]; omega
        · simp only [if_neg z1, if_neg z2]; omega
    · intro ρ ⟨a5, a6, a7, a8, e⟩
      subst e
      pv_eval
      rw [arrI_get (by omega)]
      pv_eval
      have eL : LdB N last g (.tuple (L.map .int)) = (List.range last.toNat).all fun p => decide (flow N L p = if p = 0 then g else 0) := by
        simp only [LdB]
        rw [ha, hL, List.length_map, e]; simp
      rw [eL]
      split
      · next e0 =>
        rw [cut_1m (by rw [arrI_len]; omega), arrI_len, arrI, ← List.map_take, ← List.map_drop, gAnyN_map]
        pv_eval
        congr 2
        rw [Bool.eq_iff_iff, Bool.not_eq_true', List.any_eq_false, List.all_eq_true]
        have mm : ∀ x : Nat, x ∈ ((List.range (last + 1).toNat).take ((last + 1).toNat - 1)).drop 1 ↔ 1 ≤ x ∧ x < last.toNat := by
          intro x
          rw [List.take_range, List.mem_drop_iff_getElem]
          constructor
          · rintro ⟨i, hi, rfl⟩
            simp at hi ⊢; omega
          · rintro ⟨h1, h2⟩
            exact ⟨x - 1, by simp; omega, by simp; omega⟩
        constructor
        · intro z x hx
          have hx := List.mem_range.mp hx
          refine decide_eq_true ?_
          by_cases e : x = 0
          · subst e; rw [if_pos rfl]; exact e0
          · rw [if_neg e]
            have := z x ((mm x).mpr ⟨by omega, hx⟩)
            simpa using this
        · intro z x hx
          obtain ⟨h1, h2⟩ := (mm x).mp hx
          have := of_decide_eq_true (z x (List.mem_range.mpr h2))
          rw [if_neg (by omega)] at this
          simp only [bne_iff_ne, ne_eq, Decidable.not_not]; exact this
      · next e0 =>
        rw [decide_eq_false e0]
        congr 2
        symm
        rw [List.all_eq_false]
        exact ⟨0, List.mem_range.mpr (by omega), by simpa using e0⟩
theorem lawloads_ok {N : Net} {last g : Int} {n : Nat} {d : PyData} (h : IsNet N last) (hd : okd n d) (hn : n ≤ 60) : wp (x__law_is_loads [.dat (encN false N), .dat (.int g), .dat d]) (fun r _ => r = .dt (.bool (LdB N last g d))) nX := by
  have hf := h.few
  have hpos := h.pos
  have hmany := h.many
  unfold x__law_is_loads
  cases d with
  | dict _ => cases n <;> exact hd.elim
  | none => pv_eval; rfl
  | bool b => pv_eval; rfl
  | int i => pv_eval; rfl
  | str s => pv_eval; rfl
  | list xs => pv_eval; rfl
  | tuple xs =>
    obtain ⟨hl, hx⟩ := okd_tup hd
    pv_eval
    split
    · next e =>
      have : ¬ xs.length = N.length := by omega
      simp [LdB, this]
    next e =>
    have e : xs.length = N.length := by omega
    refine ⟨hl, lc_filterE (xs := xs) (enc := id) (f := id) (p := fun d => !cntD d) (by simp) (fun d hd => ?_) ?_⟩
    · have hdd := hx d hd
      generalize n - 1 = m at hdd
      cases d with
      | dict _ => cases m <;> exact hdd.elim
      | int i =>
        pv_eval
        by_cases hi : i < 0
        · have hc : cntD (.int i) = false := decide_eq_false (by omega)
          simp [hi, hc]
        · have hc : cntD (.int i) = true := decide_eq_true (by omega)
          simp [hi, hc]
      | _ => pv_eval; rfl
    pv_eval
    have hok : okd n (.list ((xs.filter fun d => !cntD d).map id)) := by
      cases n with
      | zero => exact hd.elim
      | succ n => exact ⟨by have := List.length_filter_le (fun d => !cntD d) xs; simp; omega, fun d hd => by
          simp only [List.map_id] at hd
          exact hx d (List.mem_filter.mp hd).1⟩
    rw [gNe_nil hok (by omega)]
    pv_eval
    have ee : ((xs.filter fun d => !cntD d).map id).isEmpty = xs.all cntD := by
      rw [List.isEmpty_map, Bool.eq_iff_iff, List.isEmpty_iff, List.filter_eq_nil_iff, List.all_eq_true]
      constructor
      · intro z d hd; simpa using z d hd
      · intro z d hd; simpa using z d hd
    rw [ee]
    split
    · next ha => simp [LdB, ha]
    next ha =>
    have ha : xs.all cntD = true := by simpa using ha
    obtain ⟨L, rfl, hL⟩ : ∃ L : List Int, xs = L.map PyData.int ∧ xs.map intD = L := ⟨_, cnt_int ha, rfl⟩
    rw [List.length_map] at e
    have eL : LdB N last g (.tuple (L.map .int)) = (List.range last.toNat).all fun p => decide (flow N L p = if p = 0 then g else 0) := by
      simp only [LdB]
      rw [ha, hL, List.length_map, e]; simp
    rw [eL]
    obtain rfl := (exit_ok h :)
    have hN : N.map (encS false) = (N.zip L).map fun q => encS false q.1 := by
      have := congrArg (List.map (encS false)) (List.map_fst_zip (l₁ := N) (l₂ := L) (by omega))
      rw [← this, List.map_map]; rfl
    have hL2 : ∀ p ∈ (N.zip L).zipIdx, L[p.2]? = some p.1.2 := by
      intro p hp
      have := idx_get hp
      rw [List.getElem?_zip_eq_some] at this
      exact this.2
    refine for_pre rangeD_nat (fun done ρ => ∃ (a4 a6 a7 : Sl), (∀ p ∈ done, flow N L p = if p = 0 then g else 0) ∧ ρ = [.dat (encN false N), .dat (.int g), .dat (.tuple (L.map .int)), .no, a4, .no, a6, a7]) ⟨_, _, _, by simp, rfl⟩ ?_ ?_
    · intro done p rest ρ eq ⟨a4, a6, a7, hdn, e⟩
      subst e
      have hp := pre_range eq
      pv_eval
      rw [hN, enumD_map]
      refine ⟨by simp; omega, lc_filterE (xs := (N.zip L).zipIdx) (f := fun q => .int q.1.2) (p := fun q => decide (q.1.1.2.2 = (p : Int))) rfl (fun q mq => ?_) ?_⟩
      · have hq := hL2 q mq
        pv_eval
        rw [List.getElem?_map, hq]
        by_cases z : q.1.1.2.2 = (p : Int)
        · rw [if_pos z]; pv_eval; rw [if_pos z]
        · rw [if_neg z, if_neg z]
      pv_eval
      rw [gSum_map]
      pv_eval
      rw [hN, enumD_map]
      refine ⟨by simp; omega, lc_filterE (xs := (N.zip L).zipIdx) (f := fun q => .int q.1.2) (p := fun q => decide (q.1.1.2.1 = (p : Int))) rfl (fun q mq => ?_) ?_⟩
      · have hq := hL2 q mq
        pv_eval
        rw [List.getElem?_map, hq]
        by_cases z : q.1.1.2.1 = (p : Int)
        · rw [if_pos z]; pv_eval; rw [if_pos z]
        · rw [if_neg z, if_neg z]
      pv_eval
      rw [gSum_map]
      pv_eval
      rw [idx_map (Z := N.zip L) (P := fun q => decide (q.1.2.2 = (p : Int))) (g := fun q => q.2), idx_map (Z := N.zip L) (P := fun q => decide (q.1.2.1 = (p : Int))) (g := fun q => q.2), sum_filt, sum_filt]
      have ef : flow N L p = (List.map (fun a => if decide (a.1.2.1 = (p : Int)) = true then a.2 else 0) (N.zip L)).sum - (List.map (fun a => if decide (a.1.2.2 = (p : Int)) = true then a.2 else 0) (N.zip L)).sum := by
        simp only [flow, flS, sum_sub, decide_eq_true_eq]
      rw [← ef]
      have mp : p ∈ List.range last.toNat := List.mem_range.mpr hp.2.2
      have bad : ¬ flow N L p = (if p = 0 then g else 0) → Rs.dt (.bool false) = Rs.dt (.bool ((List.range last.toNat).all fun p => decide (flow N L p = if p = 0 then g else 0))) := by
        intro z
        congr 2
        symm
        rw [List.all_eq_false]
        exact ⟨p, mp, by simpa using z⟩
      have good : flow N L p = (if p = 0 then g else 0) → ∀ q ∈ done ++ [p], flow N L q = if q = 0 then g else 0 := by
        intro z q hq
        rcases List.mem_append.mp hq with m | m
        · exact hdn q m
        · rw [List.mem_singleton.mp m]; exact z
      by_cases z0 : p = 0
      · rw [if_pos (by omega)]
        rw [if_pos z0] at bad good
        split
        · next z => exact bad z
        · next z => exact ⟨_, _, _, good (by simpa using z), rfl⟩
      · rw [if_neg (by omega)]
        rw [if_neg z0] at bad good
        split
        · next z => exact bad z
        · next z => exact ⟨_, _, _, good (by simpa using z), rfl⟩
    · intro ρ ⟨a4, a6, a7, hdn, e⟩
      subst e
      pv_eval
      congr 2
      symm
      rw [List.all_eq_true]
      intro p hp
      exact decide_eq_true (hdn p hp)
end Lw
end

section
set_option Elab.async false
set_option linter.all false
set_option maxRecDepth 100000
set_option maxHeartbeats 4000000
namespace Lw
open PySem PySem.Spec PyProof.Rows L2 Dl
local macro_rules | `(tactic| pv_eval) => `(tactic| try simp (config := {maxSteps := 10000000, implicitDefEqProofs := false}) (disch := first | omega | (simp only [List.length_append, List.length_cons, List.length_nil, List.length_map]; omega)) only [↓wp_val, ↓wp_none, ↓wp_ex, ↓wp_ret, ↓wp_bnd, ↓wp_lft, ↓wp_eD, ↓wp_oE, ↓wp_oN, ↓wp_vNil, ↓wp_vCons, ↓wp_xB, ↓wp_xC, ↓wp_xVar, ↓wp_xTst, ↓wp_xTru, ↓wp_tYes, ↓wp_xNot, ↓wp_xAnd, ↓wp_xOr, ↓wp_xIf, ↓wp_yIf, ↓wp_xOrV, ↓wp_xAndV, ↓wp_xNotV, ↓wp_xTup, ↓wp_xLst, ↓wp_sNo, ↓wp_sAt, ↓wp_xSl, ↓wp_yPass, ↓wp_seq, ↓wp_yExpr, ↓wp_yRet, ↓wp_yRetV, ↓wp_ySet, ↓wp_yL, ↓wp_yD, ↓wp_ySetI, ↓wp_xApp, ↓wp_xPopAt, ↓wp_yAsg, ↓wp_yPar, ↓wp_rNil, ↓wp_rCons, ↓wp_yAug, ↓wp_zSeqN, ↓wp_zSeqE, ↓wp_zRg1, ↓wp_zRg2, ↓wp_zZip, ↓wp_zEnum, ↓wp_zEn2, zp2_nt, zp2_nl, zp2_nk, en2_n, ix_encN, cut_m, en2_l, en2_t, en2_k, gRv_l, gRv_t, ↓wp_fn0_17, ↓wp_fn0_18, ↓wp_fn0_19, ↓wp_fn0_20, ↓wp_fn0_21, ↓wp_fn0_22, ↓wp_fn0_23, ↓wp_fn0_24, ↓wp_fn0_25, ↓wp_fn0_26, ↓wp_fn0_27, ↓wp_fn0_28, ↓wp_fn0_29, ↓wp_fn1_18, ↓wp_fn1_19, ↓wp_fn1_20, ↓wp_fn1_21, ↓wp_fn1_22, ↓wp_fn1_23, ↓wp_fn1_24, ↓wp_fn1_25, ↓wp_fn1_26, ↓wp_fn1_27, ↓wp_fn1_28, ↓wp_fn1_29, ↓wp_fn1_30, ↓wp_fn2_19, ↓wp_fn2_20, ↓wp_fn2_21, ↓wp_fn2_22, ↓wp_fn2_23, ↓wp_fn2_24, ↓wp_fn2_25, ↓wp_fn2_26, ↓wp_fn2_27, ↓wp_fn2_28, ↓wp_fn2_29, ↓wp_fn2_30, ↓wp_fn2_31, ↓wp_fn3_20, ↓wp_fn3_21, ↓wp_fn3_22, ↓wp_fn3_23, ↓wp_fn3_24, ↓wp_fn3_25, ↓wp_fn3_26, ↓wp_fn3_27, ↓wp_fn3_28, ↓wp_fn3_29, ↓wp_fn3_30, ↓wp_fn3_31, ↓wp_fn3_32, ↓wp_fn4_21, ↓wp_fn4_22, ↓wp_fn4_23, ↓wp_fn4_24, ↓wp_fn4_25, ↓wp_fn4_26, ↓wp_fn4_27, ↓wp_fn4_28, ↓wp_fn4_29, ↓wp_fn4_30, ↓wp_fn4_31, ↓wp_fn4_32, ↓wp_fn4_33, ↓wp_fn5_22, ↓wp_fn5_23, ↓wp_fn5_24, ↓wp_fn5_25, ↓wp_fn5_26, ↓wp_fn5_27, ↓wp_fn5_28, ↓wp_fn5_29, ↓wp_fn5_30, ↓wp_fn5_31, ↓wp_fn5_32, ↓wp_fn5_33, ↓wp_fn6_23, ↓wp_fn6_24, ↓wp_fn6_25, ↓wp_fn6_26, ↓wp_fn6_27, ↓wp_fn6_28, ↓wp_fn6_29, ↓wp_fn6_30, ↓wp_fn6_31, ↓wp_fn6_32, ↓wp_fn6_33, ↓wp_fn7_24, ↓wp_fn7_25, ↓wp_fn7_26, ↓wp_fn7_27, ↓wp_fn7_28, ↓wp_fn7_29, ↓wp_fn7_30, ↓wp_fn7_31, ↓wp_fn7_32, ↓wp_fn7_33, ↓wp_fn8_25, ↓wp_fn8_26, ↓wp_fn8_27, ↓wp_fn8_28, ↓wp_fn8_29, ↓wp_fn8_30, ↓wp_fn8_31, ↓wp_fn8_32, ↓wp_fn8_33, ↓wp_yFor, ↓wp_oI, ↓wp_xChI, ↓wp_xTR1, ↓wp_xTR2, ↓wp_xDsp1, ↓wp_xDinN, ↓wp_xDnoN, ↓wp_xDinE, ↓wp_yDct, ↓wp_xDget, ↓wp_yDput, ↓dctQ_e, ↓wp_yAugB, ↓augBQ_e, ↓wp_yAugI, ↓intQ_e, gAddI_i, ↓wp_xRepN, ↓newQ'_e, ↓newdQ_e, ↓rtVar_dct, ↓isPl_dct, ↓keyOf_i, ↓keyOf_s, slotOf_newd, gRev_l, ↓wp_forNil, ↓wp_xLc, ↓lcStep_e, id_eq, ↓wp_callD, ↓wp_callK, ↓wp_callN, ↓wp_callB, ↓wp_yRaise, ↓wp_yRaise2, ↓wp_yTry, ↓wp_hNil, ↓wp_hAs, ↓wp_hNo, ↓wp_ySetE, ↓wp_xIsN, ↓wp_xFld, ↓wp_xIsE, ↓wp_fn0_0, ↓wp_fn0_1, ↓wp_fn0_2, ↓wp_fn0_3, ↓wp_fn0_4, ↓wp_fn0_5, ↓wp_fn0_6, ↓wp_fn0_7, ↓wp_fn0_8, ↓wp_fn0_9, ↓wp_fn0_10, ↓wp_fn0_11, ↓wp_fn0_12, ↓wp_fn0_13, ↓wp_fn0_14, ↓wp_fn0_15, ↓wp_fn0_16, ↓wp_fn1_1, ↓wp_fn1_2, ↓wp_fn1_3, ↓wp_fn1_4, ↓wp_fn1_5, ↓wp_fn1_6, ↓wp_fn1_7, ↓wp_fn1_8, ↓wp_fn1_9, ↓wp_fn1_10, ↓wp_fn1_11, ↓wp_fn1_12, ↓wp_fn1_13, ↓wp_fn1_14, ↓wp_fn1_15, ↓wp_fn1_16, ↓wp_fn1_17, ↓wp_fn2_2, ↓wp_fn2_3, ↓wp_fn2_4, ↓wp_fn2_5, ↓wp_fn2_6, ↓wp_fn2_7, ↓wp_fn2_8, ↓wp_fn2_9, ↓wp_fn2_10, ↓wp_fn2_11, ↓wp_fn2_12, ↓wp_fn2_13, ↓wp_fn2_14, ↓wp_fn2_15, ↓wp_fn2_16, ↓wp_fn2_17, ↓wp_fn2_18, ↓wp_fn3_3, ↓wp_fn3_4, ↓wp_fn3_5, ↓wp_fn3_6, ↓wp_fn3_7, ↓wp_fn3_8, ↓wp_fn3_9, ↓wp_fn3_10, ↓wp_fn3_11, ↓wp_fn3_12, ↓wp_fn3_13, ↓wp_fn3_14, ↓wp_fn3_15, ↓wp_fn3_16, ↓wp_fn3_17, ↓wp_fn3_18, ↓wp_fn3_19, ↓wp_fn4_4, ↓wp_fn4_5, ↓wp_fn4_6, ↓wp_fn4_7, ↓wp_fn4_8, ↓wp_fn4_9, ↓wp_fn4_10, ↓wp_fn4_11, ↓wp_fn4_12, ↓wp_fn4_13, ↓wp_fn4_14, ↓wp_fn4_15, ↓wp_fn4_16, ↓wp_fn4_17, ↓wp_fn4_18, ↓wp_fn4_19, ↓wp_fn4_20, ↓wp_fn5_5, ↓wp_fn5_6, ↓wp_fn5_7, ↓wp_fn5_8, ↓wp_fn5_9, ↓wp_fn5_10, ↓wp_fn5_11, ↓wp_fn5_12, ↓wp_fn5_13, ↓wp_fn5_14, ↓wp_fn5_15, ↓wp_fn5_16, ↓wp_fn5_17, ↓wp_fn5_18, ↓wp_fn5_19, ↓wp_fn5_20, ↓wp_fn5_21, ↓wp_fn6_6, ↓wp_fn6_7, ↓wp_fn6_8, ↓wp_fn6_9, ↓wp_fn6_10, ↓wp_fn6_11, ↓wp_fn6_12, ↓wp_fn6_13, ↓wp_fn6_14, ↓wp_fn6_15, ↓wp_fn6_16, ↓wp_fn6_17, ↓wp_fn6_18, ↓wp_fn6_19, ↓wp_fn6_20, ↓wp_fn6_21, ↓wp_fn6_22, ↓wp_fn7_7, ↓wp_fn7_8, ↓wp_fn7_9, ↓wp_fn7_10, ↓wp_fn7_11, ↓wp_fn7_12, ↓wp_fn7_13, ↓wp_fn7_14, ↓wp_fn7_15, ↓wp_fn7_16, ↓wp_fn7_17, ↓wp_fn7_18, ↓wp_fn7_19, ↓wp_fn7_20, ↓wp_fn7_21, ↓wp_fn7_22, ↓wp_fn7_23, ↓wp_fn8_8, ↓wp_fn8_9, ↓wp_fn8_10, ↓wp_fn8_11, ↓wp_fn8_12, ↓wp_fn8_13, ↓wp_fn8_14, ↓wp_fn8_15, ↓wp_fn8_16, ↓wp_fn8_17, ↓wp_fn8_18, ↓wp_fn8_19, ↓wp_fn8_20, ↓wp_fn8_21, ↓wp_fn8_22, ↓wp_fn8_23, ↓wp_fn8_24, ↓sq_nx, ↓sq_rt, ↓sq_bk, ↓sq_ct, ↓rdVar_dat, ↓rdVar_own, ↓rtVar_dat, ↓rtVar_own, ↓augQ_dat, ↓seqS_own, ↓seqS_bor, ↓seqS_dat, ↓finQ_nx, ↓finQ_rt, ↓turnQ_nx, ↓turnQ_ct, ↓turnQ_bk, ↓turnQ_rt, ↓endF_rt, ↓endF_nx, ↓newQ_new, ↓borE_ok, ↓borQ_pl, ↓rz1_one, ↓rz2_one, ↓asQ_rt, ↓asQ_nx, ↓setEQ_ok, ↓isNQ_exc, ↓isNQ_none, ↓fldQ_exc, ↓isEQ_exc, ↓gv_some, ↓gv_none, ↓reduceIte, ↓asD_dt, ↓asD_new, ↓isPl_dat, ↓isPl_own, ↓isPl_bor, ↓slD_dat, ↓slD_own, ↓slD_bor, ↓lslOwn, ↓lslBor, putL_own, putL_bor, slotOf_dt, slotOf_new, ↓asIint, ↓isB_bool, ↓truD_bool, ↓truD_none, ↓truD_int, ↓truD_list, ↓truD_tuple, ↓truR_dt, ↓truR_new, ↓rsl_dt, ↓rsl_pl, ocons_e, ↓rsls_nil, ↓rsls_cons, ↓dts_nil', ↓dts_cons, ↓outs_nil, ↓outs_bor, ↓outs_dat, stE_e, setAll_nil, setAll_cons, Option.map_some, Option.map_none, Option.bind_some, Option.bind_none, Option.isSome_none, Option.isSome_some, hideO_none, hideO_some, restO_none, restO_some, restS_hd, restT_some, wipeE_nil, wipeE_cons, backE_nil, backE_cons, keepD_dat, keepD_no, isOwn_dat, isOwn_own, Bool.false_and, Bool.true_and, Bool.and_false, Bool.and_true, Bool.not_true, Bool.not_false, List.map_cons, List.map_nil, List.cons_append, List.nil_append, List.append_nil, Nat.reduceAdd, List.length_cons, List.length_nil, List.length_map, Int.zero_add, ↓List.getElem?_cons_zero, ↓List.getElem?_cons_succ, ↓List.set_cons_zero, ↓List.set_cons_succ, sizeLine, Nat.reducePow, Nat.reduceLeDiff, true_and, and_true, eq_self, if_true, if_false, Bool.false_eq_true, decide_eq_true_eq, Bool.not_eq_true', decide_eq_false_iff_not, gMul_l, gMul_r, gMod_e, gDiv_e, gPow_e, Int.reducePow, gAdd_i, gSub_i, gNeg_i, gInt_i, gInt_b, gGt_i, gLt_i, gLe_i, gGe_i, gAbs_i, gLen_l, gLen_t, gLen_k, gList_l, gList_t, gList_k, gTuple_l, gTuple_t, gTuple_k, gIx_lo, gIx_to, gIx_k, atI_nn, Int.toNat_zero, Int.toNat_one, Int.toNat_natCast, Int.reduceToNat, gEq_i, gEq_s, gEq_b, gNe_i, gNe_s, ixN_nn, seqIx, rg1_e, rg2_e, seqD_l, seqD_t, seqD_k, lt2_l, lt2_t, lt2_k, gTp_k1, gTp_l1, gTp_t1, gTp_k2, gTp_l2, gTp_t2, gTp_k3, gTp_l3, gTp_t3, gTp_k4, gTp_l4, gTp_t4, gTp_k5, gTp_l5, gTp_t5, gCn_e, gN_e, gNl_e, gNe_b, zp2_ll, zp2_lt, zp2_lk, zp2_tl, zp2_tt, zp2_tk, zp2_kl, zp2_kt, zp2_kk, en1_l, gSl_l, gSl_t, cut_hi, cut_lo, cut_in, gAdd_l, gAdd_t, ↓isT_list_list, ↓isT_list_tuple, ↓isT_list_int, ↓isT_list_bool, ↓isT_list_str, ↓isT_tuple_list, ↓isT_tuple_tuple, ↓isT_tuple_int, ↓isT_tuple_bool, ↓isT_tuple_str, ↓isT_int_list, ↓isT_int_tuple, ↓isT_int_int, ↓isT_int_bool, ↓isT_int_str, ↓isT_bool_list, ↓isT_bool_tuple, ↓isT_bool_int, ↓isT_bool_bool, ↓isT_bool_str, ↓isT_str_list, ↓isT_str_tuple, ↓isT_str_int, ↓isT_str_bool, ↓isT_str_str, ↓isT_none_list, ↓isT_none_tuple, ↓isT_none_int, ↓isT_none_bool, ↓isT_none_str, gIsi_e, gIsi2_e, gIs_nn, gIs_i, gIs_b, gIs_s, gIs_l, gIs_t, gEq_nn, gLen_st, gAdd_st, gSl_st, gEq_st, gIx_alpha, stL_inj, lk1, Int.reduceEq, Int.reduceNeg, Int.reduceAdd, Int.reduceSub, rep2, Int.reduceLE, Int.reduceLT, Nat.reduceMul, and_self, fold_l, fold_t, tp_encS, tp_encQ, gIn_ints, gNotIn_ints, gIn_strs, gNotIn_strs, gNotIn_names, gIn_names, ix_encS, sd_encN, len_encN, Bool.or_false, Bool.or_true, Bool.true_or, Bool.false_or, decide_true, decide_false])
local macro_rules
  | `(tactic| obtain $p:rcasesPatMed := ($t:term :)) => `(tactic| (refine wp_nx $t (fun r q h => ?_); obtain $p := h; pv_eval))
theorem name_on {N : Net} {last p q : Int} (h : IsNet N last) {s : Stp3} (hs : s ∈ N) {w : List Stp3} (hw : Pth N p w q) : s.1 ∈ w.map (fun s => s.1) ↔ s ∈ w := by
  constructor
  · intro z
    obtain ⟨u, mu, e⟩ := List.mem_map.mp z
    have := srt_inj h.srt (pth_mem hw u mu) hs e
    rw [← this]; exact mu
  · intro z
    exact List.mem_map.mpr ⟨s, z, rfl⟩
theorem in_row {x : List Nat} {w : List Stp3} : gIn [.str (stL x), rowD w] = some (.dt (.bool (decide (x ∈ w.map fun s => s.1)))) := by
  have := inD_strs (x := x) (xs := w.map fun s => s.1)
  rw [List.map_map] at this
  simp only [gIn, rowD]
  rw [show (w.map fun s => PyData.str (stL s.1)) = w.map ((fun y => PyData.str (stL y)) ∘ fun s => s.1) from rfl, this]
abbrev Lot := List Stp3 × Int
def encL (l : Lot) : PyData := .tuple [rowD l.1, .int l.2]
theorem ix_encL {l : Lot} {i : Int} : gIx [encL l, .int i] = (atI [rowD l.1, .int l.2] i).map .dt := gIx_to
def byW (G : List Lot) (s : Stp3) : Int := ((G.filter fun l => decide (s.1 ∈ l.1.map fun s => s.1)).map fun l => l.2).sum
structure Lots (N : Net) (last : Int) (G : List Lot) : Prop where
  way : ∀ l ∈ G, Pth N 0 l.1 last
  pos : ∀ l ∈ G, 0 ≤ l.2
  few : G.length ≤ 5
def totL (G : List Lot) : Int := (G.map fun l => l.2).sum
theorem by_ways_ok {k : Bool} {N : Net} {last : Int} {G : List Lot} (h : IsNet N last) (hG : Lots N last G) : wp (x__law_by_ways [.dat (encN k N), .dat (.list (G.map encL))]) (fun r _ => r = .dt (.tuple ((N.map (byW G)).map .int))) nX := by
  have hf := h.few
  have hg := hG.few
  unfold x__law_by_ways
  pv_eval
  refine ⟨by omega, lc_map (f := fun s => .int (byW G s)) (fun s ms => ?_) ?_⟩
  · pv_eval
    refine ⟨by omega, lc_filter (f := fun l => .int l.2) (p := fun l => decide (s.1 ∈ l.1.map fun s => s.1)) (fun l ml => ?_) ?_⟩
    · pv_eval
      rw [ix_encL]
      pv_eval
      rw [in_row]
      pv_eval
      rw [ix_encL]
      pv_eval
      by_cases z : s.1 ∈ l.1.map fun s => s.1
      · rw [if_pos z, if_pos z]
      · rw [if_neg z, if_neg z]
    pv_eval
    rw [gSum_map]
    pv_eval
    rfl
  pv_eval
  rw [List.map_map]; rfl
theorem ways_pos {N : Net} {last : Int} (h : IsNet N last) {W : List (List Stp3)} (w2 : ∀ w, w ∈ W ↔ Pth N 0 w last) : 0 < W.length := by
  obtain ⟨w, hw⟩ := place_in h _ last (Nat.le_refl _) (by have := h.pos; omega) (Int.le_refl _)
  exact List.length_pos_of_mem ((w2 w).mpr hw)
theorem lots_ok {k : Bool} {b : List PyData} {m : Int} {N : Net} {last : Int} (hb : Bx m b) (h0 : 0 ≤ m) (hm : m < 900000) (h : IsNet N last) (hl : N.length ≤ 19) : wp (x__law_lots [.bor b, .dat (encN k N)]) (fun r q => ∃ (G : List Lot) (b' : List PyData), r = .new (G.map encL) ∧ Lots N last G ∧ q = [.bor b', .dat (encN k N)] ∧ Bx (m + 11) b') nX := by
  have hlt : ∀ s ∈ N, s.2.1 < s.2.2 := fun s m => (h.lo s m).2.1
  unfold x__law_lots
  pv_eval
  obtain ⟨W, rfl, w1, w2, _⟩ := (ways_ok h (by omega) :)
  have hW : W.length ≤ 524288 := Nat.le_trans (cnt_bound hlt (net_nodup h.srt) ⟨W, w1, w2, rfl⟩) (Nat.le_trans (Nat.pow_le_pow_right (by omega) hl) (by decide))
  have hW0 := ways_pos h w2
  obtain ⟨i, b1, rfl, rfl, hi0, hi1, hb1⟩ := (take_ok hb :)
  refine for_pre rangeD_nat (fun done ρ => ∃ (b : List PyData) (G : List Lot) (a2 a4 : Sl), (a2 = .own (W.map rowD) ∨ a2 = .dat (.list (W.map rowD))) ∧ G.length = done.length ∧ (∀ l ∈ G, Pth N 0 l.1 last ∧ 0 ≤ l.2) ∧ Bx (m + 1 + 2 * done.length) b ∧ ρ = [.bor b, .dat (encN k N), a2, .own (G.map encL), a4]) ⟨b1, [], _, _, .inl rfl, rfl, by simp, by simpa using hb1, rfl⟩ ?_ ?_
  · intro done j rest ρ eq ⟨b, G, a2, a4, ha, hGl, hG, hb, e⟩
    have hj := pre_range eq
    subst e
    rcases ha with rfl | rfl
    all_goals
      pv_eval
      obtain ⟨i1, d1, b2, e1, rfl, rfl, hb2⟩ := (of_l hb (xs := W.map rowD) :)
      obtain ⟨w, mw, rfl⟩ := List.mem_map.mp (List.mem_of_getElem? e1)
      obtain ⟨i2, d2, b3, e2, rfl, rfl, hb3⟩ := (of_l hb2 :)
      have hv : ∃ v : Int, d2 = .int v ∧ 0 ≤ v := by
        have := List.mem_of_getElem? e2
        simp only [List.mem_cons, List.mem_nil_iff, or_false] at this
        rcases this with rfl | rfl | rfl | rfl | rfl | rfl <;> exact ⟨_, rfl, by decide⟩
      obtain ⟨v, rfl, hv0⟩ := hv
      pv_eval
      refine ⟨by omega, b3, G ++ [(w, v)], _, _, .inr rfl, by simp [hGl], ?_, hb3.mono (by simp; omega), by rw [List.map_append]; rfl⟩
      intro l ml
      rcases List.mem_append.mp ml with z | z
      · exact hG l z
      · rw [List.mem_singleton.mp z]; exact ⟨(w2 w).mp mw, hv0⟩
  · intro ρ ⟨b, G, a2, a4, ha, hGl, hG, hb, e⟩
    subst e
    rcases ha with rfl | rfl
    all_goals
      pv_eval
      rw [List.length_range] at hGl hb
      exact ⟨G, b, rfl, ⟨fun l m => (hG l m).1, fun l m => (hG l m).2, by omega⟩, rfl, hb.mono (by omega)⟩
/-- what goes by ways is balanced -/
theorem flow_ways {N : Net} {last : Int} (h : IsNet N last) {G : List Lot} (hG : Lots N last G) {p : Int} (hp : p ≠ last) : ((N.zip (N.map (byW G))).map fun q => (if q.1.2.1 = p then q.2 else 0) - (if q.1.2.2 = p then q.2 else 0)).sum = if p = 0 then totL G else 0 := by
  have hlt : ∀ s ∈ N, s.2.1 < s.2.2 := fun s m => (h.lo s m).2.1
  have hnd := net_nodup h.srt
  have e1 : ∀ M : Net, M.zip (M.map (byW G)) = M.map fun s => (s, byW G s) := by
    intro M
    induction M with
    | nil => rfl
    | cons a M ih => rw [List.map_cons, List.zip_cons_cons, ih, List.map_cons]
  rw [e1, List.map_map]
  have e2 : (N.map ((fun q : Stp3 × Int => (if q.1.2.1 = p then q.2 else 0) - (if q.1.2.2 = p then q.2 else 0)) ∘ fun s => (s, byW G s))).sum = (N.map fun s => (G.map fun l => if s ∈ l.1 then l.2 * ((if s.2.1 = p then (1 : Int) else 0) - (if s.2.2 = p then 1 else 0)) else 0).sum).sum := by
    refine sum_congr fun s ms => ?_
    have e3 : byW G s = (G.map fun l => if s ∈ l.1 then l.2 else 0).sum := by
      unfold byW
      rw [sum_filt]
      refine sum_congr fun l ml => ?_
      have := name_on h ms (hG.way l ml)
      simp only [decide_eq_true_eq, this]
    have e4 : (G.map fun l => if s ∈ l.1 then l.2 * ((if s.2.1 = p then (1 : Int) else 0) - (if s.2.2 = p then 1 else 0)) else 0).sum = ((if s.2.1 = p then (1 : Int) else 0) - (if s.2.2 = p then 1 else 0)) * (G.map fun l => if s ∈ l.1 then l.2 else 0).sum := by
      rw [← sum_mul]
      refine sum_congr fun l ml => ?_
      split
      · rw [Int.mul_comm]
      · simp
    rw [e4, ← e3]
    simp only [Function.comp]
    split <;> split <;> simp
  rw [e2, sum_swap]
  have e5 : (G.map fun l => (N.map fun s => if s ∈ l.1 then l.2 * ((if s.2.1 = p then (1 : Int) else 0) - (if s.2.2 = p then 1 else 0)) else 0).sum).sum = (G.map fun l => (if p = 0 then 1 else 0) * l.2).sum := by
    refine sum_congr fun l ml => ?_
    have hw := hG.way l ml
    rw [sum_on hnd (pth_nodup hlt hw) (fun s m => pth_mem hw s m) (f := fun s => l.2 * ((if s.2.1 = p then (1 : Int) else 0) - (if s.2.2 = p then 1 else 0))), sum_mul, pth_flow hw]
    by_cases z : p = 0
    · subst z; rw [if_pos rfl, if_neg (fun e => hp e.symm)]; omega
    · rw [if_neg (fun e => z e.symm), if_neg (fun e => hp e.symm), if_neg z]; omega
  rw [e5, sum_mul]
  unfold totL
  split <;> simp
end Lw
end

section
set_option Elab.async false
set_option linter.all false
set_option maxRecDepth 100000
set_option maxHeartbeats 4000000
namespace Lw
open PySem PySem.Spec PyProof.Rows L2 Dl
local macro_rules | `(tactic| pv_eval) => `(tactic| try simp (config := {maxSteps := 10000000, implicitDefEqProofs := false}) (disch := first | omega | (simp only [List.length_append, List.length_cons, List.length_nil, List.length_map]; omega)) only [↓wp_val, ↓wp_none, ↓wp_ex, ↓wp_ret, ↓wp_bnd, ↓wp_lft, ↓wp_eD, ↓wp_oE, ↓wp_oN, ↓wp_vNil, ↓wp_vCons, ↓wp_xB, ↓wp_xC, ↓wp_xVar, ↓wp_xTst, ↓wp_xTru, ↓wp_tYes, ↓wp_xNot, ↓wp_xAnd, ↓wp_xOr, ↓wp_xIf, ↓wp_yIf, ↓wp_xOrV, ↓wp_xAndV, ↓wp_xNotV, ↓wp_xTup, ↓wp_xLst, ↓wp_sNo, ↓wp_sAt, ↓wp_xSl, ↓wp_yPass, ↓wp_seq, ↓wp_yExpr, ↓wp_yRet, ↓wp_yRetV, ↓wp_ySet, ↓wp_yL, ↓wp_yD, ↓wp_ySetI, ↓wp_xApp, ↓wp_xPopAt, ↓wp_yAsg, ↓wp_yPar, ↓wp_rNil, ↓wp_rCons, ↓wp_yAug, ↓wp_zSeqN, ↓wp_zSeqE, ↓wp_zRg1, ↓wp_zRg2, ↓wp_zZip, ↓wp_zEnum, ↓wp_zEn2, zp2_nt, zp2_nl, zp2_nk, en2_n, ix_encN, cut_m, en2_l, en2_t, en2_k, gRv_l, gRv_t, ↓wp_fn0_17, ↓wp_fn0_18, ↓wp_fn0_19, ↓wp_fn0_20, ↓wp_fn0_21, ↓wp_fn0_22, ↓wp_fn0_23, ↓wp_fn0_24, ↓wp_fn0_25, ↓wp_fn0_26, ↓wp_fn0_27, ↓wp_fn0_28, ↓wp_fn0_29, ↓wp_fn1_18, ↓wp_fn1_19, ↓wp_fn1_20, ↓wp_fn1_21, ↓wp_fn1_22, ↓wp_fn1_23, ↓wp_fn1_24, ↓wp_fn1_25, ↓wp_fn1_26, ↓wp_fn1_27, ↓wp_fn1_28, ↓wp_fn1_29, ↓wp_fn1_30, ↓wp_fn2_19, ↓wp_fn2_20, ↓wp_fn2_21, ↓wp_fn2_22, ↓wp_fn2_23, ↓wp_fn2_24, ↓wp_fn2_25, ↓wp_fn2_26, ↓wp_fn2_27, ↓wp_fn2_28, ↓wp_fn2_29, ↓wp_fn2_30, ↓wp_fn2_31, ↓wp_fn3_20, ↓wp_fn3_21, ↓wp_fn3_22, ↓wp_fn3_23, ↓wp_fn3_24, ↓wp_fn3_25, ↓wp_fn3_26, ↓wp_fn3_27, ↓wp_fn3_28, ↓wp_fn3_29, ↓wp_fn3_30, ↓wp_fn3_31, ↓wp_fn3_32, ↓wp_fn4_21, ↓wp_fn4_22, ↓wp_fn4_23, ↓wp_fn4_24, ↓wp_fn4_25, ↓wp_fn4_26, ↓wp_fn4_27, ↓wp_fn4_28, ↓wp_fn4_29, ↓wp_fn4_30, ↓wp_fn4_31, ↓wp_fn4_32, ↓wp_fn4_33, ↓wp_fn5_22, ↓wp_fn5_23, ↓wp_fn5_24, ↓wp_fn5_25, ↓wp_fn5_26, ↓wp_fn5_27, ↓wp_fn5_28, ↓wp_fn5_29, ↓wp_fn5_30, ↓wp_fn5_31, ↓wp_fn5_32, ↓wp_fn5_33, ↓wp_fn6_23, ↓wp_fn6_24, ↓wp_fn6_25, ↓wp_fn6_26, ↓wp_fn6_27, ↓wp_fn6_28, ↓wp_fn6_29, ↓wp_fn6_30, ↓wp_fn6_31, ↓wp_fn6_32, ↓wp_fn6_33, ↓wp_fn7_24, ↓wp_fn7_25, ↓wp_fn7_26, ↓wp_fn7_27, ↓wp_fn7_28, ↓wp_fn7_29, ↓wp_fn7_30, ↓wp_fn7_31, ↓wp_fn7_32, ↓wp_fn7_33, ↓wp_fn8_25, ↓wp_fn8_26, ↓wp_fn8_27, ↓wp_fn8_28, ↓wp_fn8_29, ↓wp_fn8_30, ↓wp_fn8_31, ↓wp_fn8_32, ↓wp_fn8_33, ↓wp_yFor, ↓wp_oI, ↓wp_xChI, ↓wp_xTR1, ↓wp_xTR2, ↓wp_xDsp1, ↓wp_xDinN, ↓wp_xDnoN, ↓wp_xDinE, ↓wp_yDct, ↓wp_xDget, ↓wp_yDput, ↓dctQ_e, ↓wp_yAugB, ↓augBQ_e, ↓wp_yAugI, ↓intQ_e, gAddI_i, ↓wp_xRepN, ↓newQ'_e, ↓newdQ_e, ↓rtVar_dct, ↓isPl_dct, ↓keyOf_i, ↓keyOf_s, slotOf_newd, gRev_l, ↓wp_forNil, ↓wp_xLc, ↓lcStep_e, id_eq, ↓wp_callD, ↓wp_callK, ↓wp_callN, ↓wp_callB, ↓wp_yRaise, ↓wp_yRaise2, ↓wp_yTry, ↓wp_hNil, ↓wp_hAs, ↓wp_hNo, ↓wp_ySetE, ↓wp_xIsN, ↓wp_xFld, ↓wp_xIsE, ↓wp_fn0_0, ↓wp_fn0_1, ↓wp_fn0_2, ↓wp_fn0_3, ↓wp_fn0_4, ↓wp_fn0_5, ↓wp_fn0_6, ↓wp_fn0_7, ↓wp_fn0_8, ↓wp_fn0_9, ↓wp_fn0_10, ↓wp_fn0_11, ↓wp_fn0_12, ↓wp_fn0_13, ↓wp_fn0_14, ↓wp_fn0_15, ↓wp_fn0_16, ↓wp_fn1_1, ↓wp_fn1_2, ↓wp_fn1_3, ↓wp_fn1_4, ↓wp_fn1_5, ↓wp_fn1_6, ↓wp_fn1_7, ↓wp_fn1_8, ↓wp_fn1_9, ↓wp_fn1_10, ↓wp_fn1_11, ↓wp_fn1_12, ↓wp_fn1_13, ↓wp_fn1_14, ↓wp_fn1_15, ↓wp_fn1_16, ↓wp_fn1_17, ↓wp_fn2_2, ↓wp_fn2_3, ↓wp_fn2_4, ↓wp_fn2_5, ↓wp_fn2_6, ↓wp_fn2_7, ↓wp_fn2_8, ↓wp_fn2_9, ↓wp_fn2_10, ↓wp_fn2_11, ↓wp_fn2_12, ↓wp_fn2_13, ↓wp_fn2_14, ↓wp_fn2_15, ↓wp_fn2_16, ↓wp_fn2_17, ↓wp_fn2_18, ↓wp_fn3_3, ↓wp_fn3_4, ↓wp_fn3_5, ↓wp_fn3_6, ↓wp_fn3_7, ↓wp_fn3_8, ↓wp_fn3_9, ↓wp_fn3_10, ↓wp_fn3_11, ↓wp_fn3_12, ↓wp_fn3_13, ↓wp_fn3_14, ↓wp_fn3_15, ↓wp_fn3_16, ↓wp_fn3_17, ↓wp_fn3_18, ↓wp_fn3_19, ↓wp_fn4_4, ↓wp_fn4_5, ↓wp_fn4_6, ↓wp_fn4_7, ↓wp_fn4_8, ↓wp_fn4_9, ↓wp_fn4_10, ↓wp_fn4_11, ↓wp_fn4_12, ↓wp_fn4_13, ↓wp_fn4_14, ↓wp_fn4_15, ↓wp_fn4_16, ↓wp_fn4_17, ↓wp_fn4_18, ↓wp_fn4_19, ↓wp_fn4_20, ↓wp_fn5_5, ↓wp_fn5_6, ↓wp_fn5_7, ↓wp_fn5_8, ↓wp_fn5_9, ↓wp_fn5_10, ↓wp_fn5_11, ↓wp_fn5_12, ↓wp_fn5_13, ↓wp_fn5_14, ↓wp_fn5_15, ↓wp_fn5_16, ↓wp_fn5_17, ↓wp_fn5_18, ↓wp_fn5_19, ↓wp_fn5_20, ↓wp_fn5_21, ↓wp_fn6_6, ↓wp_fn6_7, ↓wp_fn6_8, ↓wp_fn6_9, ↓wp_fn6_10, ↓wp_fn6_11, ↓wp_fn6_12, ↓wp_fn6_13, ↓wp_fn6_14, ↓wp_fn6_15, ↓wp_fn6_16, ↓wp_fn6_17, ↓wp_fn6_18, ↓wp_fn6_19, ↓wp_fn6_20, ↓wp_fn6_21, ↓wp_fn6_22, ↓wp_fn7_7, ↓wp_fn7_8, ↓wp_fn7_9, ↓wp_fn7_10, ↓wp_fn7_11, ↓wp_fn7_12, ↓wp_fn7_13, ↓wp_fn7_14, ↓wp_fn7_15, ↓wp_fn7_16, ↓wp_fn7_17, ↓wp_fn7_18, ↓wp_fn7_19, ↓wp_fn7_20, ↓wp_fn7_21, ↓wp_fn7_22, ↓wp_fn7_23, ↓wp_fn8_8, ↓wp_fn8_9, ↓wp_fn8_10, ↓wp_fn8_11, ↓wp_fn8_12, ↓wp_fn8_13, ↓wp_fn8_14, ↓wp_fn8_15, ↓wp_fn8_16, ↓wp_fn8_17, ↓wp_fn8_18, ↓wp_fn8_19, ↓wp_fn8_20, ↓wp_fn8_21, ↓wp_fn8_22, ↓wp_fn8_23, ↓wp_fn8_24, ↓sq_nx, ↓sq_rt, ↓sq_bk, ↓sq_ct, ↓rdVar_dat, ↓rdVar_own, ↓rtVar_dat, ↓rtVar_own, ↓augQ_dat, ↓seqS_own, ↓seqS_bor, ↓seqS_dat, ↓finQ_nx, ↓finQ_rt, ↓turnQ_nx, ↓turnQ_ct, ↓turnQ_bk, ↓turnQ_rt, ↓endF_rt, ↓endF_nx, ↓newQ_new, ↓borE_ok, ↓borQ_pl, ↓rz1_one, ↓rz2_one, ↓asQ_rt, ↓asQ_nx, ↓setEQ_ok, ↓isNQ_exc, ↓isNQ_none, ↓fldQ_exc, ↓isEQ_exc, ↓gv_some, ↓gv_none, ↓reduceIte, ↓asD_dt, ↓asD_new, ↓isPl_dat, ↓isPl_own, ↓isPl_bor, ↓slD_dat, ↓slD_own, ↓slD_bor, ↓lslOwn, ↓lslBor, putL_own, putL_bor, slotOf_dt, slotOf_new, ↓asIint, ↓isB_bool, ↓truD_bool, ↓truD_none, ↓truD_int, ↓truD_list, ↓truD_tuple, ↓truR_dt, ↓truR_new, ↓rsl_dt, ↓rsl_pl, ocons_e, ↓rsls_nil, ↓rsls_cons, ↓dts_nil', ↓dts_cons, ↓outs_nil, ↓outs_bor, ↓outs_dat, stE_e, setAll_nil, setAll_cons, Option.map_some, Option.map_none, Option.bind_some, Option.bind_none, Option.isSome_none, Option.isSome_some, hideO_none, hideO_some, restO_none, restO_some, restS_hd, restT_some, wipeE_nil, wipeE_cons, backE_nil, backE_cons, keepD_dat, keepD_no, isOwn_dat, isOwn_own, Bool.false_and, Bool.true_and, Bool.and_false, Bool.and_true, Bool.not_true, Bool.not_false, List.map_cons, List.map_nil, List.cons_append, List.nil_append, List.append_nil, Nat.reduceAdd, List.length_cons, List.length_nil, List.length_map, Int.zero_add, ↓List.getElem?_cons_zero, ↓List.getElem?_cons_succ, ↓List.set_cons_zero, ↓List.set_cons_succ, sizeLine, Nat.reducePow, Nat.reduceLeDiff, true_and, and_true, eq_self, if_true, if_false, Bool.false_eq_true, decide_eq_true_eq, Bool.not_eq_true', decide_eq_false_iff_not, gMul_l, gMul_r, gMod_e, gDiv_e, gPow_e, Int.reducePow, gAdd_i, gSub_i, gNeg_i, gInt_i, gInt_b, gGt_i, gLt_i, gLe_i, gGe_i, gAbs_i, gLen_l, gLen_t, gLen_k, gList_l, gList_t, gList_k, gTuple_l, gTuple_t, gTuple_k, gIx_lo, gIx_to, gIx_k, atI_nn, Int.toNat_zero, Int.toNat_one, Int.toNat_natCast, Int.reduceToNat, gEq_i, gEq_s, gEq_b, gNe_i, gNe_s, ixN_nn, seqIx, rg1_e, rg2_e, seqD_l, seqD_t, seqD_k, lt2_l, lt2_t, lt2_k, gTp_k1, gTp_l1, gTp_t1, gTp_k2, gTp_l2, gTp_t2, gTp_k3, gTp_l3, gTp_t3, gTp_k4, gTp_l4, gTp_t4, gTp_k5, gTp_l5, gTp_t5, gCn_e, gN_e, gNl_e, gNe_b, zp2_ll, zp2_lt, zp2_lk, zp2_tl, zp2_tt, zp2_tk, zp2_kl, zp2_kt, zp2_kk, en1_l, gSl_l, gSl_t, cut_hi, cut_lo, cut_in, gAdd_l, gAdd_t, ↓isT_list_list, ↓isT_list_tuple, ↓isT_list_int, ↓isT_list_bool, ↓isT_list_str, ↓isT_tuple_list, ↓isT_tuple_tuple, ↓isT_tuple_int, ↓isT_tuple_bool, ↓isT_tuple_str, ↓isT_int_list, ↓isT_int_tuple, ↓isT_int_int, ↓isT_int_bool, ↓isT_int_str, ↓isT_bool_list, ↓isT_bool_tuple, ↓isT_bool_int, ↓isT_bool_bool, ↓isT_bool_str, ↓isT_str_list, ↓isT_str_tuple, ↓isT_str_int, ↓isT_str_bool, ↓isT_str_str, ↓isT_none_list, ↓isT_none_tuple, ↓isT_none_int, ↓isT_none_bool, ↓isT_none_str, gIsi_e, gIsi2_e, gIs_nn, gIs_i, gIs_b, gIs_s, gIs_l, gIs_t, gEq_nn, gLen_st, gAdd_st, gSl_st, gEq_st, gIx_alpha, stL_inj, lk1, Int.reduceEq, Int.reduceNeg, Int.reduceAdd, Int.reduceSub, rep2, Int.reduceLE, Int.reduceLT, Nat.reduceMul, and_self, fold_l, fold_t, tp_encS, tp_encQ, gIn_ints, gNotIn_ints, gIn_strs, gNotIn_strs, gNotIn_names, gIn_names, ix_encS, sd_encN, len_encN, Bool.or_false, Bool.or_true, Bool.true_or, Bool.false_or, decide_true, decide_false])
local macro_rules
  | `(tactic| obtain $p:rcasesPatMed := ($t:term :)) => `(tactic| (refine wp_nx $t (fun r q h => ?_); obtain $p := h; pv_eval))
theorem hand_ok : x__law_by_hand_right [] = some (.val (.dt (.bool true)), []) := by kernel_rfl
theorem ints_okd {L : List Int} (h : L.length ≤ 1000) : okd 3 (.tuple (L.map .int)) := ⟨by simp; omega, by
  intro d hd
  obtain ⟨i, _, rfl⟩ := List.mem_map.mp hd
  trivial⟩
theorem mid_okd {A B : List PyData} {d : PyData} (ha : ∀ e ∈ A, okd 2 e) (hb : ∀ e ∈ B, okd 2 e) (hd : okd 2 d) (hl : A.length + B.length ≤ 1000) : okd 3 (.tuple (A ++ [d] ++ B)) := ⟨by simp; omega, by
  intro e he
  simp only [List.mem_append, List.mem_singleton] at he
  rcases he with (h | h) | h
  · exact ha e h
  · rw [h]; exact hd
  · exact hb e h⟩
theorem size_ok {b : List PyData} {m : Int} (hb : Bx m b) (h0 : 0 ≤ m) (hm : m < 700000) : wp (x__law_size [.bor b]) (fun r q => ∃ (N : Net) (last : Int) (b' : List PyData), r = .dt (encN false N) ∧ IsNet N last ∧ last ≤ 5 ∧ N.length ≤ 13 ∧ q = [.bor b'] ∧ Bx (m + 102) b') nX := by
  unfold x__law_size
  pv_eval
  obtain ⟨i1, b1, rfl, rfl, hi0, hi1, hb1⟩ := (take_ok hb :)
  obtain ⟨i2, b2, rfl, rfl, hj0, hj1, hb2⟩ := (take_ok hb1 :)
  obtain ⟨N, b3, rfl, hN, hNl, rfl, hb3⟩ := (net_ok hb2 (by omega) (by omega) (by omega) (by omega) (by omega) :)
  exact ⟨N, _, b3, rfl, hN, by omega, by omega, rfl, hb3.mono (by omega)⟩
theorem bent_ok {b : List PyData} {m : Int} {N : Net} {last : Int} {L : List Int} (hb : Bx m b) (hm : m < 900000) (h : IsNet N last) (hl : N.length ≤ 19) (hL : L.length = N.length) : wp (x__law_bent [.bor b, .dat (encN false N), .dat (.tuple (L.map .int))]) (fun r q => ∃ (T b' : List PyData), r = .new T ∧ (∀ d ∈ T, okd 3 d) ∧ q = [.bor b', .dat (encN false N), .dat (.tuple (L.map .int))] ∧ Bx (m + 2) b') nX := by
  have hlt : ∀ s ∈ N, s.2.1 < s.2.2 := fun s m => (h.lo s m).2.1
  have hNl := net_len h
  unfold x__law_bent
  pv_eval
  obtain ⟨i1, b1, rfl, rfl, hi0, hi1, hb1⟩ := (take_ok hb :)
  obtain ⟨i2, b2, rfl, rfl, hj0, hj1, hb2⟩ := (take_ok hb1 :)
  refine ⟨⟨by omega, by simp; omega⟩, ?_⟩
  rw [arrI_rep]
  pv_eval
  obtain ⟨v1, hv1⟩ : ∃ v, L[i1.toNat]? = some v := ⟨_, List.getElem?_eq_getElem (by omega)⟩
  obtain ⟨v2, hv2⟩ : ∃ v, L[i2.toNat]? = some v := ⟨_, List.getElem?_eq_getElem (by omega)⟩
  have g1 : (L.map PyData.int)[i1.toNat]? = some (.int v1) := by rw [List.getElem?_map, hv1]; rfl
  have g2 : (L.map PyData.int)[i2.toNat]? = some (.int v2) := by rw [List.getElem?_map, hv2]; rfl
  rw [g1]
  pv_eval
  rw [g1]
  pv_eval
  rw [g1]
  pv_eval
  rw [g2]
  pv_eval
  obtain ⟨s0, hs0⟩ : ∃ s, N[i1.toNat]? = some s := ⟨_, List.getElem?_eq_getElem (by omega)⟩
  have ms0 := List.mem_of_getElem? hs0
  have hin : ∀ d ∈ L.map PyData.int, okd 2 d := by
    intro d hd
    obtain ⟨i, _, rfl⟩ := List.mem_map.mp hd
    trivial
  refine for_inv (fun ds ρ => (∀ d ∈ ds, okd 2 d) ∧ ∃ (T : List PyData) (a6 : Sl), (∀ d ∈ T, okd 3 d) ∧ T.length + ds.length = 19 ∧ ρ = [.bor b2, .dat (encN false N), .dat (.tuple (L.map .int)), .dat (.int i1), .dat (.int i2), .own T, a6, .no, .no, .no, .no]) _ _ ⟨?_, _, _, ?_, ?_, rfl⟩ ?_ ?_
  · intro d hd
    simp only [List.mem_cons, List.mem_nil_iff, or_false] at hd
    rcases hd with rfl | rfl | rfl | rfl | rfl | rfl | rfl | rfl | rfl | rfl <;> first | trivial | exact ⟨by simp, by simp [okd]⟩ | exact (by decide +kernel : PyData.strOk (Str.ofString "1") = true)
  · intro d hd
    simp only [List.mem_cons, List.mem_nil_iff, or_false] at hd
    rcases hd with rfl | rfl | rfl | rfl | rfl | rfl | rfl | rfl | rfl
    · exact ⟨by simp; omega, hin⟩
    · exact ⟨by simp; omega, fun d hd => by
        rcases List.mem_append.mp hd with z | z
        · exact hin d z
        · rw [List.mem_singleton.mp z]; trivial⟩
    · exact ⟨by simp; omega, fun d hd => hin d (List.mem_of_mem_take hd)⟩
    · exact ⟨by simp; omega, fun d hd => hin d (List.mem_reverse.mp hd)⟩
    · trivial
    · trivial
    · exact (by decide +kernel : PyData.strOk (Str.ofString "") = true)
    · exact ⟨by simp, by simp⟩
    · exact ⟨by rw [arrI_len]; omega, fun d hd => by
        obtain ⟨i, _, rfl⟩ := List.mem_map.mp hd
        trivial⟩
  · rfl
  · intro d ds ρ ⟨hd, T, a6, hT, hTl, e⟩
    subst e
    simp only [List.length_cons] at hTl
    have t1 : (List.take i1.toNat (L.map PyData.int)).length ≤ 100 := by simp; omega
    have t2 : (List.drop (i1 + 1).toNat (L.map PyData.int)).length ≤ 100 := by simp; omega
    pv_eval
    refine ⟨by omega, fun d m => hd d (by simp [m]), T ++ [_], _, ?_, by simp; omega, rfl⟩
    intro e me
    rcases List.mem_append.mp me with z | z
    · exact hT e z
    · rw [List.mem_singleton.mp z]
      exact mid_okd (fun e me => hin e (List.mem_of_mem_take me)) (fun e me => hin e (List.mem_of_mem_drop me)) (hd d (by simp)) (by simp; omega)
  · intro ρ ⟨_, T, a6, hT, hTl, e⟩
    subst e
    pv_eval
    obtain ⟨W, rfl, w1, w2, _⟩ := (ways_ok h (by omega) :)
    have hW : W.length ≤ 524288 := Nat.le_trans (cnt_bound hlt (net_nodup h.srt) ⟨W, w1, w2, rfl⟩) (Nat.le_trans (Nat.pow_le_pow_right (by omega) hl) (by decide))
    have gN : (N.map (encS false))[i1.toNat]? = some (encS false s0) := by rw [List.getElem?_map, hs0]; rfl
    refine ⟨by omega, lc_filter (f := rowD) (p := fun w => decide (s0.1 ∈ w.map fun s => s.1)) (fun w mw => ?_) ?_⟩
    · pv_eval
      rw [gN]
      pv_eval
      rw [in_row]
      pv_eval
      by_cases z : s0.1 ∈ w.map fun s => s.1
      · rw [if_pos z, if_pos z]
      · rw [if_neg z, if_neg z]
    pv_eval
    obtain ⟨w, hw, msw⟩ := way_thru h ms0
    have mw : w ∈ W.filter fun w => decide (s0.1 ∈ w.map fun s => s.1) := List.mem_filter.mpr ⟨(w2 w).mpr hw, by simpa using (name_on h ms0 hw).mpr msw⟩
    generalize W.filter (fun w => decide (s0.1 ∈ w.map fun s => s.1)) = F at mw
    cases F with
    | nil => simp at mw
    | cons r F =>
      pv_eval
      refine for_inv (fun ds ρ => (∀ d ∈ ds, ∃ i : Int, d = .int i) ∧ ∃ (T : List PyData) (a6 : Sl), (∀ d ∈ T, okd 3 d) ∧ T.length + ds.length = 22 ∧ ρ = [.bor b2, .dat (encN false N), .dat (.tuple (L.map .int)), .dat (.int i1), .dat (.int i2), .own T, a6, .no, .dat (rowD r), .no, .no]) _ _ ⟨?_, T, _, hT, by simp at hTl ⊢; omega, rfl⟩ ?_ ?_
      · intro d hd
        simp only [List.mem_cons, List.mem_nil_iff, or_false] at hd
        rcases hd with rfl | rfl | rfl <;> exact ⟨_, rfl⟩
      · intro d ds ρ ⟨hd, T, a6, hT, hTl, e⟩
        subst e
        simp only [List.length_cons] at hTl
        obtain ⟨i, rfl⟩ := hd d (by simp)
        pv_eval
        rw [enumD_map]
        refine ⟨by simp; omega, lc_mapE (xs := L.zipIdx) (f := fun p => .int (p.1 + i * (if decide ((N.getD p.2 ([], 0, 0)).1 ∈ r.map (fun s => s.1)) = true then 1 else 0))) rfl (fun p mp => ?_) ?_⟩
        · have hp := idx_get mp
          have hpl : p.2 < N.length := by
            have := (List.getElem?_eq_some_iff.mp hp).1
            omega
          have gp : (N.map (encS false))[p.2]? = some (encS false (N.getD p.2 ([], 0, 0))) := by
            rw [List.getElem?_map, List.getD_eq_getElem?_getD, List.getElem?_eq_getElem hpl]; rfl
          pv_eval
          simp only [gp]
          pv_eval
          simp only [in_row]
          pv_eval
        pv_eval
        refine ⟨by omega, fun d m => hd d (by simp [m]), T ++ [_], _, ?_, by simp; omega, rfl⟩
        intro e me
        rcases List.mem_append.mp me with z | z
        · exact hT e z
        · rw [List.mem_singleton.mp z]
          exact ⟨by simp; omega, fun d hd => by
            obtain ⟨i, _, rfl⟩ := List.mem_map.mp hd
            trivial⟩
      · intro ρ ⟨_, T, a6, hT, hTl, e⟩
        subst e
        pv_eval
        exact ⟨T, b2, rfl, hT, rfl, hb2.mono (by omega)⟩
theorem case_ok {b : List PyData} {m : Int} {N : Net} {last : Int} (hb : Bx m b) (h0 : 0 ≤ m) (hm : m < 800000) (h : IsNet N last) (hl : N.length ≤ 19) : wp (x__law_case_right [.bor b, .dat (encN false N)]) (fun r q => ∃ b', r = .dt (.bool true) ∧ q = [.bor b', .dat (encN false N)] ∧ Bx (m + 20) b') nX := by
  have hpos := h.pos
  unfold x__law_case_right
  pv_eval
  obtain ⟨G, b1, rfl, hG, rfl, hb1⟩ := (lots_ok hb h0 (by omega) h hl :)
  have hg := hG.few
  obtain rfl := (by_ways_ok h hG :)
  refine ⟨by omega, lc_map (f := fun l => .int l.2) (fun l ml => ?_) ?_⟩
  · pv_eval
    simp only [ix_encL]
    pv_eval
  pv_eval
  simp only [gSum_map]
  pv_eval
  have hok := ints_okd (L := N.map (byW G)) (by simp; omega)
  have hcn : ((N.map (byW G)).map PyData.int).all cntD = true := by
    rw [List.all_eq_true]
    intro d hd
    obtain ⟨i, mi, rfl⟩ := List.mem_map.mp hd
    obtain ⟨s, ms, rfl⟩ := List.mem_map.mp mi
    refine decide_eq_true ?_
    unfold byW
    have : ∀ Z : List Lot, (∀ l ∈ Z, 0 ≤ l.2) → 0 ≤ (Z.map fun l => l.2).sum := by
      intro Z
      induction Z with
      | nil => intro _; simp
      | cons a Z ih =>
        intro hz
        have := ih fun l m => hz l (by simp [m])
        have := hz a (by simp)
        simp only [List.map_cons, List.sum_cons]; omega
    exact this _ fun l ml => hG.pos l (List.mem_filter.mp ml).1
  have hint : ((N.map (byW G)).map PyData.int).map intD = N.map (byW G) := by
    rw [List.map_map]
    have : intD ∘ PyData.int = id := rfl
    rw [this, List.map_id]
  have hflow : ∀ g : Int, LdB N last g (.tuple ((N.map (byW G)).map .int)) = decide (totL G = g) := by
    intro g
    simp only [LdB]
    rw [hcn, hint]
    simp only [List.length_map, decide_true, Bool.true_and]
    rw [Bool.eq_iff_iff, List.all_eq_true, decide_eq_true_eq]
    constructor
    · intro z
      have := of_decide_eq_true (z 0 (List.mem_range.mpr (by omega)))
      rw [if_pos rfl] at this
      have e := flow_ways h hG (p := 0) (by omega)
      rw [if_pos rfl] at e
      rw [← e]; exact this
    · intro z p hp
      have hp := List.mem_range.mp hp
      refine decide_eq_true ?_
      have e := flow_ways h hG (p := (p : Int)) (by omega)
      refine e.trans ?_
      by_cases e0 : p = 0
      · subst e0; rw [if_pos (by rfl), if_pos rfl]; exact z
      · rw [if_neg e0, if_neg (by omega)]
  obtain rfl := (loads_ok h hok :)
  obtain rfl := (loads_ok h hok :)
  have et : (List.map Prod.snd G).sum = totL G := rfl
  have f1 : decide (totL G = (List.map Prod.snd G).sum) = true := decide_eq_true et.symm
  have f2 : decide (totL G = (List.map Prod.snd G).sum + 1) = false := decide_eq_false (by rw [et]; omega)
  rw [hflow, hflow, f1, f2]
  obtain rfl := (same_refl 8 _ ⟨by simp, by simp [okd]⟩ :)
  generalize hg0 : (List.map Prod.snd G).sum = g0
  obtain ⟨T, b2, rfl, hT, rfl, hb2⟩ := (bent_ok hb1 (by omega) h hl (by simp) :)
  refine for_inv (fun ds ρ => (∀ d ∈ ds, okd 3 d) ∧ Vr 4 fun l => ρ = [.bor b2, .dat (encN false N), .dat (.list (G.map encL)), .no, .dat (.tuple ((N.map (byW G)).map .int)), .dat (.int g0)] ++ l) _ _ ⟨hT, Vr_mk rfl rfl⟩ ?_ ?_
  · intro d ds ρ ⟨hd, hv⟩
    iterate 4 obtain ⟨_, hv⟩ := hv
    obtain rfl := hv
    have hd1 := hd d (by simp)
    pv_eval
    refine for_inv (fun es ρ => (∀ e ∈ es, ∃ i : Int, e = .int i) ∧ Vr 3 fun l => ρ = [.bor b2, .dat (encN false N), .dat (.list (G.map encL)), .no, .dat (.tuple ((N.map (byW G)).map .int)), .dat (.int g0), .dat d] ++ l) _ _ ⟨?_, Vr_mk rfl rfl⟩ ?_ ?_
    · intro e he
      simp only [List.mem_cons, List.mem_nil_iff, or_false] at he
      rcases he with rfl | rfl | rfl <;> exact ⟨_, rfl⟩
    · intro e es ρ ⟨he, hv⟩
      iterate 3 obtain ⟨_, hv⟩ := hv
      obtain rfl := hv
      obtain ⟨i, rfl⟩ := he e (by simp)
      pv_eval
      obtain rfl := (lawloads_ok h hd1 (by omega) :)
      obtain rfl := (loads_ok h hd1 :)
      refine wp_nx (lists_net h) fun r q hr => ?_
      subst hr
      pv_eval
      obtain rfl := (loads_ok h hd1 :)
      obtain rfl := (same_refl 8 _ ⟨by simp, by simp [okd]⟩ :)
      exact ⟨fun e m => he e (by simp [m]), Vr_mk rfl rfl⟩
    · intro ρ ⟨_, hv⟩
      iterate 3 obtain ⟨_, hv⟩ := hv
      obtain rfl := hv
      pv_eval
      exact ⟨fun e m => hd e (by simp [m]), Vr_mk rfl rfl⟩
  · intro ρ ⟨_, hv⟩
    iterate 4 obtain ⟨_, hv⟩ := hv
    obtain rfl := hv
    pv_eval
    exact ⟨b2, rfl, hb2.mono (by omega)⟩
theorem right_ok {b : List PyData} (hb : Bx 0 b) : wp (x__law_right [.bor b]) (fun r _ => r = .dt (.bool true)) nX := by
  unfold x__law_right
  pv_eval
  refine ⟨by rw [rangeD_len]; decide, lc_pre rangeD_nat (fun done acc ρ => ∃ b : List PyData, (∀ d ∈ acc, d = .bool true) ∧ Bx (200 * done.length) b ∧ ρ = [.bor b, .no]) ⟨b, by simp, hb.mono (by simp), rfl⟩ ?_ ?_⟩
  · intro done i rest acc ρ eq ⟨b, ha, hb, e⟩
    have hi := pre_range eq
    subst e
    pv_eval
    obtain ⟨N, last, b1, rfl, hN, hl5, hl13, rfl, hb1⟩ := (size_ok hb (by omega) (by omega) :)
    obtain ⟨b2, rfl, rfl, hb2⟩ := (case_ok hb1 (by omega) (by omega) hN (by omega) :)
    refine ⟨b2, ?_, hb2.mono (by simp; omega), rfl⟩
    intro d m
    rcases List.mem_append.mp m with m | m
    · exact ha d m
    · simpa using m
  · intro acc ρ ⟨b, ha, hb, e⟩
    subst e
    pv_eval
    simp only [gAll_t ha]
    pv_eval
theorem law_pure (ns : List Int) (hl : ns.length ≤ 63) : isTr (x_law [.dat (.list (ns.map .int))]) = true := by
  have h : wp (x_law [.dat (.list (ns.map .int))]) (fun r _ => r = .dt (.bool true)) nX := by
    unfold x_law
    pv_eval
    rw [hand_ok]
    pv_eval
    refine wp_nx (cells_ok (by intro d hd; obtain ⟨a, _, rfl⟩ := List.mem_map.mp hd; exact ⟨a, rfl⟩) (by simpa using hl)) fun r q h => ?_
    obtain ⟨ys, rfl, hy, hy0, hy3⟩ := h
    pv_eval
    rw [rangeD_map]
    refine ⟨by simp; omega, ?_⟩
    refine lc_mapS (fun M acc ρ => (∀ d ∈ acc, d = .bool true) ∧ (∀ i ∈ M, i < ys.length) ∧ (ρ = [.dat (.list (ns.map .int)), .own ys, .no] ∨ ρ = [.dat (.list (ns.map .int)), .dat (.list ys), .no])) (acc := []) ⟨by simp, by simp, .inl rfl⟩ ?_ ?_
    · intro i M acc ρ ⟨h1, h2, h3⟩
      have hi := h2 i (by simp)
      rcases h3 with e | e <;> subst e
      all_goals
        pv_eval
        refine wp_nx (box_ok hy (by omega) (by omega) (by omega)) fun r q h => ?_
        obtain ⟨b, rfl, hb⟩ := h
        pv_eval
        refine wp_nx (right_ok hb) fun r q h => ?_
        subst h
        pv_eval
        refine ⟨fun d m => ?_, fun i m => h2 i (by simp [m]), .inr trivial⟩
        rcases List.mem_append.mp m with m | m
        · exact h1 d m
        · simpa using m
    · intro zs ρ ⟨h1, _, h3⟩
      rcases h3 with e | e <;> subst e
      all_goals
        pv_eval
        rw [gAll_t (by simpa using h1)]
        pv_eval
  obtain ⟨a, ρ, e, rfl⟩ := wp_eq h
  rw [e]; rfl
end Lw
end

section
open PySem PySem.W PySem.Calls PyProof.Rows
set_option maxHeartbeats 0 in
theorem PySem.Challenge.cw_slowedsteps_k32_loads_or_not_holds : PySem.Challenge.rw_slowedsteps_k32_loads_or_not.Holds := by
  w_on; o_law
  refine HandSHeadRun.head_any (r := OpenLaw.row PySem.Challenge.rw_slowedsteps_k32_loads_or_not) (q := view (OpenLaw.row PySem.Challenge.rw_slowedsteps_k32_loads_or_not).prog [27]) (H := Lw.hk) (ob := Lw.obL) (M := 4000) (loose := Lw.loL) (d := HandSHeadRun.topDef (OpenLaw.row PySem.Challenge.rw_slowedsteps_k32_loads_or_not).prog 27) (kwd := []) Lw.obL_eq
    (by kernel_rfl) (fun s => by kernel_rfl) Lw.runL (by kernel_rfl) (by kernel_rfl) (by kernel_rfl) (by rfl) (by first | assumption | decide +kernel) (by decide +kernel) ⟨rfl, rfl, rfl, rfl, rfl, by decide +kernel⟩ ?hw ?hc
  case hw => w_witness2
  case hc =>
    refine L2.walk_ofE (l := PySem.Challenge.rw_slowedsteps_k32_loads_or_not) (n := 63) (k := 15) (x := "_law_script") (CX := Dl.CXe (PySem.Challenge.rw_slowedsteps_k32_loads_or_not).prog) rfl (by decide) (by kernel_rfl) ⟨rfl, by decide, by decide⟩ ?F (fun _ _ _ _ ⟨_, z⟩ => Dl.cx_no z)
    intro w mg fa h Y G hmg0
    obtain ⟨K, KX, c, ck⟩ := Y
    have hmg : mg ("law" : PySem.Str) = some (.ref fa) := by
      have e : (HandSHeadRun.topDef (OpenLaw.row PySem.Challenge.rw_slowedsteps_k32_loads_or_not).prog 27).name = ("law" : PySem.Str) := by kernel_rfl
      rw [← e]
      exact hmg0
    obtain ⟨fd, hb, hF⟩ := Lw.factsL (P := (PySem.Challenge.rw_slowedsteps_k32_loads_or_not).prog) (w := w) KX G hmg c ck
    exact ⟨K, fd, _, KX, hb, fun H a ns hl _ hS => Dl.law_sp (Lw.ck_at ck 0) hS (Lw.law_pure ns hl), fun base h1 h2 => Dl.fn_cx (hF base h1 h2)⟩
end
