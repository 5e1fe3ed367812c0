import PyProof.Rows.All
import HandS.ForMost
import HandS.Wide
import HandS.WideBits
import HandS.Walk
import HandS.RaiseMore
import HandS.Style
import KE.KTupSum
import HandS.EndBits
import KE.GoesEnum
import HandS.TupAny
import HandS.Small
import KE.GoesZip
import HandS.Zip
import HandS.Deep
import HandS.Star
import KE.SortCalls
import KE.SortKeyed
import PyProof.StrBlock2
import PyProof.Rows.StrOr
import PyProof.ReprRoads
import PySem.Challenge.RW_unwrittenrow_k03_whole_fractions_by_inte
set_option Elab.async false
set_option linter.all false
set_option maxRecDepth 100000
set_option maxHeartbeats 8000000
/-! MK: a layer of own over HandS: each piece of syntax has a plain function (over values without addresses) beside it. -/
namespace MK
open PySem PySem.Spec PyProof.Rows L2

/-! ### values without addresses -/
inductive D where
  | non | bl (b : Bool) | int (i : Int) | str (x : Str) | tup (xs : List D) | lst (xs : List D) | flst (xs : List D) | cell (k : Nat) | ref (a : Addr) | ty (n : String)

/-- what may change: a list, or nothing any more -/
inductive Cell where
  | dead | lst (xs : List D)
abbrev Store := List Cell
structure Exn where
  cls : Value
  fld : Option (Str × D)

inductive Out (α : Type) where
  | ok (a : α) (S : Store) | ex (e : Exn) (S : Store) | no
namespace Out
def bind {α β : Type} (o : Out α) (f : α → Store → Out β) : Out β := match o with
  | .ok a S => f a S
  | .ex e S => .ex e S
  | .no => .no
@[simp] theorem bind_ok {α β : Type} (a : α) (S : Store) (f : α → Store → Out β) : (Out.ok a S).bind f = f a S := rfl
@[simp] theorem bind_ex {α β : Type} (e : Exn) (S : Store) (f : α → Store → Out β) : (Out.ex e S).bind f = .ex e S := rfl
@[simp] theorem bind_no {α β : Type} (f : α → Store → Out β) : (Out.no).bind f = .no := rfl
theorem bind_assoc {α β γ : Type} (o : Out α) (f : α → Store → Out β) (g : β → Store → Out γ) : (o.bind f).bind g = o.bind fun a S => (f a S).bind g := by cases o <;> rfl
end Out

/-- the ghost: what is frozen, where the cells stand, how many, what else stands untouched -/
structure Gh where
  G : Hp
  m : Nat → Addr
  n : Nat
  F : Hp

section
variable (K : PySem.W.Frag)
mutual
inductive RD (g : Gh) : D → V → Prop
  | non : RD g .non .non
  | bl (b : Bool) : RD g (.bl b) (.bl b)
  | int (i : Int) : RD g (.int i) (.int i)
  | str (x : Str) : RD g (.str x) (.str x)
  | tup {a : Addr} {vs : List V} {ds : List D} : SqT K g.G a vs → RDs g ds vs → RD g (.tup ds) (.ref a)
  | lst {a : Addr} {vs : List V} {ds : List D} : g.G a = some (.lst vs) → RDs g ds vs → RD g (.lst ds) (.ref a)
  | flst {a : Addr} {vs : List V} {ds : List D} : SqL K g.G a vs → RDs g ds vs → RD g (.flst ds) (.ref a)
  | cell {k : Nat} {a : Addr} : k < g.n → g.m k = a → RD g (.cell k) (.ref a)
  | ref (a : Addr) : RD g (.ref a) (.ref a)
  | ty (n : String) : RD g (.ty n) (.ty n)
inductive RDs (g : Gh) : List D → List V → Prop
  | nil : RDs g [] []
  | cons {d : D} {v : V} {ds : List D} {vs : List V} : RD g d v → RDs g ds vs → RDs g (d :: ds) (v :: vs)
end

structure ExtG (g g' : Gh) : Prop where
  G : Same g.G g'.G
  n : g.n ≤ g'.n
  m : ∀ k, k < g.n → g'.m k = g.m k
structure Ext (g g' : Gh) : Prop extends ExtG g g' where
  F : g'.F = g.F
end
theorem ExtG.refl (g : Gh) : ExtG g g := ⟨Same.refl _, Nat.le_refl _, fun _ _ => rfl⟩
theorem ExtG.trans {g g1 g2 : Gh} (a : ExtG g g1) (b : ExtG g1 g2) : ExtG g g2 :=
  ⟨a.G.trans b.G, Nat.le_trans a.n b.n, fun k h => (b.m k (Nat.lt_of_lt_of_le h a.n)).trans (a.m k h)⟩
theorem Ext.refl (g : Gh) : Ext g g := ⟨.refl g, rfl⟩
theorem Ext.trans {g g1 g2 : Gh} (a : Ext g g1) (b : Ext g1 g2) : Ext g g2 := ⟨a.toExtG.trans b.toExtG, b.F.trans a.F⟩

theorem sameT {K : PySem.W.Frag} {H H' : Hp} {a : Addr} {xs : List V} (e : Same H H') (h : SqT K H a xs) : SqT K H' a xs := by
  rcases h with (h | ⟨o, h⟩) | h
  · exact .inl (.inl (e _ _ h))
  · exact .inl (.inr ⟨o, e _ _ h⟩)
  · exact .inr h

section
variable {K : PySem.W.Frag} {g g' : Gh}
mutual
theorem RD.mono (e : ExtG g g') : ∀ {d : D} {v : V}, RD K g d v → RD K g' d v
  | _, _, .non => .non
  | _, _, .bl b => .bl b
  | _, _, .int i => .int i
  | _, _, .str x => .str x
  | _, _, .tup h r => .tup (sameT e.G h) (RDs.mono e r)
  | _, _, .lst h r => .lst (e.G _ _ h) (RDs.mono e r)
  | _, _, .flst h r => .flst (e.G.seq h) (RDs.mono e r)
  | _, _, .cell h q => .cell (Nat.lt_of_lt_of_le h e.n) ((e.m _ h).trans q)
  | _, _, .ref a => .ref a
  | _, _, .ty n => .ty n
theorem RDs.mono (e : ExtG g g') : ∀ {ds : List D} {vs : List V}, RDs K g ds vs → RDs K g' ds vs
  | _, _, .nil => .nil
  | _, _, .cons h r => .cons (RD.mono e h) (RDs.mono e r)
end
theorem RDs.length : ∀ {ds : List D} {vs : List V}, RDs K g ds vs → vs.length = ds.length
  | _, _, .nil => rfl
  | _, _, .cons _ r => by rw [List.length_cons, List.length_cons, RDs.length r]
theorem RDs.append : ∀ {ds es : List D} {vs ws : List V}, RDs K g ds vs → RDs K g es ws → RDs K g (ds ++ es) (vs ++ ws)
  | _, _, _, _, .nil, s => s
  | _, _, _, _, .cons h r, s => .cons h (RDs.append r s)
theorem RDs.get : ∀ {ds : List D} {vs : List V} {i : Nat} {d : D}, RDs K g ds vs → ds[i]? = some d → ∃ v, vs[i]? = some v ∧ RD K g d v
  | _, _, _, _, .nil, h => by simp at h
  | _, _, 0, _, .cons h _, e => by
    have e' := Option.some.inj e
    subst e'
    exact ⟨_, rfl, h⟩
  | _, _, i + 1, d, .cons _ r, e => by
    obtain ⟨v, h1, h2⟩ := RDs.get (i := i) (d := d) r (by simpa using e)
    exact ⟨v, by simpa using h1, h2⟩
theorem RDs.get' : ∀ {ds : List D} {vs : List V} {i : Nat} {v : V}, RDs K g ds vs → vs[i]? = some v → ∃ d, ds[i]? = some d ∧ RD K g d v
  | _, _, _, _, .nil, h => by simp at h
  | _, _, 0, _, .cons h _, e => by
    have e' := Option.some.inj e
    subst e'
    exact ⟨_, rfl, h⟩
  | _, _, i + 1, v, .cons _ r, e => by
    obtain ⟨d, h1, h2⟩ := RDs.get' (i := i) (v := v) r (by simpa using e)
    exact ⟨d, by simpa using h1, h2⟩
theorem RDs.take : ∀ {ds : List D} {vs : List V} (n : Nat), RDs K g ds vs → RDs K g (ds.take n) (vs.take n)
  | _, _, 0, _ => .nil
  | _, _, _ + 1, .nil => .nil
  | _, _, n + 1, .cons h r => .cons h (RDs.take n r)
theorem RDs.drop : ∀ {ds : List D} {vs : List V} (n : Nat), RDs K g ds vs → RDs K g (ds.drop n) (vs.drop n)
  | _, _, 0, r => r
  | _, _, _ + 1, .nil => .nil
  | _, _, n + 1, .cons _ r => RDs.drop n r
theorem RDs.set {d : D} {v : V} (h : RD K g d v) : ∀ {ds : List D} {vs : List V} (i : Nat), RDs K g ds vs → RDs K g (ds.set i d) (vs.set i v)
  | _, _, _, .nil => .nil
  | _, _, 0, .cons _ r => .cons h r
  | _, _, i + 1, .cons q r => .cons q (RDs.set h i r)
end

/-! ### the state behind it -/
def CellOk (K : PySem.W.Frag) (g : Gh) (H : Hp) (a : Addr) : Cell → Prop
  | .dead => True
  | .lst ds => g.G a = none ∧ ∃ vs, H a = some (.lst vs) ∧ RDs K g ds vs
def Live : Option Cell → Prop
  | some (.lst _) => True
  | _ => False
structure Rep (K : PySem.W.Frag) (g : Gh) (S : Store) (H : Hp) : Prop where
  sub : Same g.G H
  len : S.length = g.n
  cel : ∀ k c, S[k]? = some c → CellOk K g H (g.m k) c
  inj : ∀ k l, Live S[k]? → Live S[l]? → g.m k = g.m l → k = l
  frm : ∀ a o, g.F a = some o → H a = some o ∧ g.G a = none ∧ ∀ k, Live S[k]? → g.m k ≠ a

section
variable {K : PySem.W.Frag} {g g' : Gh} {S S' : Store} {H H' : Hp}
theorem Rep.live (R : Rep K g S H) {k : Nat} (h : Live S[k]?) : ∃ ds vs, S[k]? = some (.lst ds) ∧ g.G (g.m k) = none ∧ H (g.m k) = some (.lst vs) ∧ RDs K g ds vs := by
  cases e : S[k]? with
  | none => rw [e] at h; exact h.elim
  | some c =>
    cases c with
    | dead => rw [e] at h; exact h.elim
    | lst ds =>
      obtain ⟨h1, vs, h2, h3⟩ := R.cel k _ e
      exact ⟨ds, vs, rfl, h1, h2, h3⟩
/-- a new object that never changes -/
def Gh.add (g : Gh) (p : Addr) (o : HO) : Gh := { g with G := upd g.G p o }
theorem Rep.newG (R : Rep K g S H) {p : Addr} (hp : H p = none) : g.G p = none := by
  cases e : g.G p with
  | none => rfl
  | some o => rw [R.sub p o e] at hp; cases hp
theorem Gh.add_ext {p : Addr} {o : HO} (h : g.G p = none) : Ext g (g.add p o) :=
  ⟨⟨fun b x e => by
    show upd g.G p o b = some x
    rw [upd_ne (ne_of_none e h)]; exact e, Nat.le_refl _, fun _ _ => rfl⟩, rfl⟩
theorem Rep.add (R : Rep K g S H) {p : Addr} {o : HO} (hp : H p = none) : Rep K (g.add p o) S (upd H p o) := by
  have x := Gh.add_ext (g := g) (o := o) (R.newG hp)
  refine ⟨fun b u e => ?_, R.len, fun k c e => ?_, R.inj, fun a u e => ?_⟩
  · by_cases hb : b = p
    · subst hb
      have e' : upd g.G b o b = some u := e
      rw [upd_same] at e' ⊢
      exact e'
    · have e' : upd g.G p o b = some u := e
      rw [upd_ne hb] at e' ⊢
      exact R.sub b u e'
  · cases c with
    | dead => trivial
    | lst ds =>
      obtain ⟨h1, vs, h2, h3⟩ := R.cel k _ e
      have ne : g.m k ≠ p := ne_of_none h2 hp
      refine ⟨?_, vs, ?_, h3.mono x.toExtG⟩
      · show upd g.G p o (g.m k) = none
        rw [upd_ne ne]; exact h1
      · show upd H p o (g.m k) = _
        rw [upd_ne ne]; exact h2
  · obtain ⟨h1, h2, h3⟩ := R.frm a u e
    have ne : a ≠ p := ne_of_none h1 hp
    refine ⟨?_, ?_, h3⟩
    · rw [upd_ne ne]; exact h1
    · show upd g.G p o a = none
      rw [upd_ne ne]; exact h2
/-- a new cell -/
def Gh.cell (g : Gh) (p : Addr) : Gh := { g with m := fun i => if i = g.n then p else g.m i, n := g.n + 1 }
theorem Gh.cell_ext {p : Addr} : Ext g (g.cell p) :=
  ⟨⟨Same.refl _, Nat.le_succ _, fun k h => by
    show (if k = g.n then p else g.m k) = g.m k
    rw [if_neg (Nat.ne_of_lt h)]⟩, rfl⟩
theorem Rep.cell (R : Rep K g S H) {p : Addr} {ds : List D} {vs : List V} (hp : H p = none) (h : RDs K g ds vs) : Rep K (g.cell p) (S ++ [.lst ds]) (upd H p (.lst vs)) := by
  have x := Gh.cell_ext (g := g) (p := p)
  have mlt : ∀ k, k < g.n → (g.cell p).m k = g.m k := fun k hk => x.m k hk
  have mn : (g.cell p).m g.n = p := if_pos rfl
  have look : ∀ k, (S ++ [Cell.lst ds])[k]? = if k < g.n then S[k]? else if k = g.n then some (.lst ds) else none := fun k => by
    rw [← R.len]
    by_cases hk : k < S.length
    · rw [if_pos hk, List.getElem?_append_left hk]
    · rw [if_neg hk, List.getElem?_append_right (by omega)]
      by_cases h2 : k = S.length
      · subst h2; simp
      · rw [if_neg h2, List.getElem?_eq_none (by simp; omega)]
  have mlive : ∀ k, k < g.n → Live S[k]? → g.m k ≠ p := fun k _ hl => by
    obtain ⟨_, _, _, _, h2, _⟩ := R.live hl
    exact ne_of_none h2 hp
  have ltn : ∀ k, Live S[k]? → k < g.n := fun k hl => by
    rw [← R.len]
    by_cases hk : k < S.length
    · exact hk
    · rw [List.getElem?_eq_none (by omega)] at hl; exact hl.elim
  refine ⟨fun b u e => ?_, ?_, fun k c e => ?_, fun k l hk hl e => ?_, fun a u e => ?_⟩
  · have e' : g.G b = some u := e
    have q := R.sub b u e'
    rw [upd_ne (ne_of_none q hp)]; exact q
  · show (S ++ [Cell.lst ds]).length = g.n + 1
    rw [List.length_append, R.len]; rfl
  · rw [look] at e
    by_cases hk : k < g.n
    · rw [if_pos hk] at e
      cases c with
      | dead => trivial
      | lst es =>
        obtain ⟨h1, ws, h2, h3⟩ := R.cel k _ e
        rw [mlt k hk]
        refine ⟨h1, ws, ?_, h3.mono x.toExtG⟩
        rw [upd_ne (ne_of_none h2 hp)]; exact h2
    · rw [if_neg hk] at e
      by_cases h2 : k = g.n
      · rw [if_pos h2] at e
        cases e
        subst h2
        rw [mn]
        exact ⟨R.newG hp, vs, upd_same, h.mono x.toExtG⟩
      · rw [if_neg h2] at e; cases e
  · rw [look] at hk hl
    by_cases h1 : k < g.n
    · rw [if_pos h1] at hk
      by_cases h2 : l < g.n
      · rw [if_pos h2] at hl
        rw [mlt k h1, mlt l h2] at e
        exact R.inj k l hk hl e
      · rw [if_neg h2] at hl
        by_cases h3 : l = g.n
        · subst h3
          rw [mlt k h1, mn] at e
          exact absurd e (mlive k h1 hk)
        · rw [if_neg h3] at hl; exact hl.elim
    · rw [if_neg h1] at hk
      by_cases h4 : k = g.n
      · subst h4
        by_cases h2 : l < g.n
        · rw [if_pos h2] at hl
          rw [mlt l h2, mn] at e
          exact absurd e.symm (mlive l h2 hl)
        · rw [if_neg h2] at hl
          by_cases h3 : l = g.n
          · exact h3.symm
          · rw [if_neg h3] at hl; exact hl.elim
      · rw [if_neg h4] at hk; exact hk.elim
  · obtain ⟨h1, h2, h3⟩ := R.frm a u e
    refine ⟨?_, h2, fun k hk => ?_⟩
    · rw [upd_ne (ne_of_none h1 hp)]; exact h1
    · rw [look] at hk
      by_cases q1 : k < g.n
      · rw [if_pos q1] at hk
        rw [mlt k q1]
        exact h3 k hk
      · rw [if_neg q1] at hk
        by_cases q2 : k = g.n
        · subst q2
          rw [mn]
          exact fun z => by rw [z, h1] at hp; cases hp
        · rw [if_neg q2] at hk; exact hk.elim
theorem live_lt {k : Nat} (hl : Live S[k]?) : k < S.length := by
  by_cases hk : k < S.length
  · exact hk
  · rw [List.getElem?_eq_none (by omega)] at hl; exact hl.elim
/-- a cell is stored into -/
theorem Rep.store (R : Rep K g S H) {k : Nat} {ds : List D} {vs : List V} (hl : Live S[k]?) (h : RDs K g ds vs) : Rep K g (S.set k (.lst ds)) (upd H (g.m k) (.lst vs)) := by
  have hk := live_lt hl
  obtain ⟨_, _, _, hG, hH, _⟩ := R.live hl
  have look : ∀ l, l ≠ k → (S.set k (.lst ds))[l]? = S[l]? := fun l h => List.getElem?_set_ne (Ne.symm h)
  have lk : (S.set k (.lst ds))[k]? = some (.lst ds) := List.getElem?_set_self hk
  have lv : ∀ l, Live (S.set k (.lst ds))[l]? → Live S[l]? := fun l q => by
    by_cases e : l = k
    · subst e; exact hl
    · rw [look l e] at q; exact q
  refine ⟨fun b u e => ?_, by rw [List.length_set]; exact R.len, fun l c e => ?_, fun a b ha hb => R.inj a b (lv a ha) (lv b hb), fun a u e => ?_⟩
  · have ne : b ≠ g.m k := fun z => by rw [z, hG] at e; cases e
    rw [upd_ne ne]; exact R.sub b u e
  · by_cases q : l = k
    · subst q
      rw [lk] at e; cases e
      exact ⟨hG, vs, upd_same, h⟩
    · rw [look l q] at e
      cases c with
      | dead => trivial
      | lst es =>
        obtain ⟨h1, ws, h2, h3⟩ := R.cel l _ e
        have ne : g.m l ≠ g.m k := fun z => q (R.inj l k (by rw [e]; trivial) hl z)
        exact ⟨h1, ws, by rw [upd_ne ne]; exact h2, h3⟩
  · obtain ⟨h1, h2, h3⟩ := R.frm a u e
    exact ⟨by rw [upd_ne (Ne.symm (h3 k hl))]; exact h1, h2, fun l q => h3 l (lv l q)⟩
/-- a cell is frozen: no more stores -/
theorem Rep.freeze (R : Rep K g S H) {k : Nat} {ds : List D} (e0 : S[k]? = some (.lst ds)) : ∃ g', Ext g g' ∧ Rep K g' (S.set k .dead) H ∧ RD K g' (.lst ds) (.ref (g.m k)) := by
  have hl : Live S[k]? := by rw [e0]; trivial
  have hk := live_lt hl
  obtain ⟨h1, vs, h2, h3⟩ := R.cel k _ e0
  have x : Ext g (g.add (g.m k) (.lst vs)) := Gh.add_ext h1
  have look : ∀ l, l ≠ k → (S.set k .dead)[l]? = S[l]? := fun l h => List.getElem?_set_ne (Ne.symm h)
  have lk : (S.set k .dead)[k]? = some .dead := List.getElem?_set_self hk
  have nk : ∀ l, Live (S.set k .dead)[l]? → l ≠ k := fun l q z => by subst z; rw [lk] at q; exact q
  have lv : ∀ l, Live (S.set k .dead)[l]? → Live S[l]? := fun l q => by rw [look l (nk l q)] at q; exact q
  refine ⟨_, x, ⟨fun b u e => ?_, by rw [List.length_set]; exact R.len, fun l c e => ?_, fun a b ha hb => R.inj a b (lv a ha) (lv b hb), fun a u e => ?_⟩, .lst upd_same (h3.mono x.toExtG)⟩
  · have e' : upd g.G (g.m k) (.lst vs) b = some u := e
    by_cases hb : b = g.m k
    · subst hb
      rw [upd_same] at e'
      rw [← e']; exact h2
    · rw [upd_ne hb] at e'; exact R.sub b u e'
  · by_cases q : l = k
    · subst q
      rw [lk] at e; cases e
      trivial
    · rw [look l q] at e
      cases c with
      | dead => trivial
      | lst es =>
        obtain ⟨q1, ws, q2, q3⟩ := R.cel l _ e
        have ne : g.m l ≠ g.m k := fun z => q (R.inj l k (by rw [e]; trivial) hl z)
        refine ⟨?_, ws, q2, q3.mono x.toExtG⟩
        show upd g.G (g.m k) (.lst vs) (g.m l) = none
        rw [upd_ne ne]; exact q1
  · obtain ⟨q1, q2, q3⟩ := R.frm a u e
    refine ⟨q1, ?_, fun l q => q3 l (lv l q)⟩
    show upd g.G (g.m k) (.lst vs) a = none
    rw [upd_ne (Ne.symm (q3 k hl))]; exact q2
/-- something that grows is set aside -/
def Gh.aside (g : Gh) (p : Addr) (o : HO) : Gh := { g with F := upd g.F p o }
theorem Rep.aside (R : Rep K g S H) {p : Addr} {o : HO} (hp : H p = none) : Rep K (g.aside p o) S (upd H p o) := by
  have x : ExtG g (g.aside p o) := ⟨Same.refl _, Nat.le_refl _, fun _ _ => rfl⟩
  refine ⟨fun b u e => ?_, R.len, fun k c e => ?_, R.inj, fun a u e => ?_⟩
  · have q := R.sub b u e
    rw [upd_ne (ne_of_none q hp)]; exact q
  · cases c with
    | dead => trivial
    | lst ds =>
      obtain ⟨h1, vs, h2, h3⟩ := R.cel k _ e
      exact ⟨h1, vs, by show upd H p o (g.m k) = _; rw [upd_ne (ne_of_none h2 hp)]; exact h2, h3.mono x⟩
  · have e' : upd g.F p o a = some u := e
    by_cases ha : a = p
    · subst ha
      rw [upd_same] at e' ⊢
      refine ⟨e', R.newG hp, fun k hk z => ?_⟩
      obtain ⟨_, _, _, _, h2, _⟩ := R.live hk
      have z' : g.m k = a := z
      rw [z', hp] at h2; cases h2
    · rw [upd_ne ha] at e' ⊢
      exact R.frm a u e'
/-- what is set aside has changed -/
theorem Rep.again (R : Rep K g S H) {p : Addr} {o o' : HO} (hp : g.F p = some o) : Rep K (g.aside p o') S (upd H p o') := by
  have x : ExtG g (g.aside p o') := ⟨Same.refl _, Nat.le_refl _, fun _ _ => rfl⟩
  obtain ⟨f1, f2, f3⟩ := R.frm p o hp
  refine ⟨fun b u e => ?_, R.len, fun k c e => ?_, R.inj, fun a u e => ?_⟩
  · have ne : b ≠ p := fun z => by
      have e' : g.G b = some u := e
      rw [z, f2] at e'; cases e'
    rw [upd_ne ne]; exact R.sub b u e
  · cases c with
    | dead => trivial
    | lst ds =>
      obtain ⟨h1, vs, h2, h3⟩ := R.cel k _ e
      exact ⟨h1, vs, by show upd H p o' (g.m k) = _; rw [upd_ne (f3 k (by rw [e]; trivial))]; exact h2, h3.mono x⟩
  · have e' : upd g.F p o' a = some u := e
    by_cases ha : a = p
    · subst ha
      rw [upd_same] at e' ⊢
      exact ⟨e', f2, f3⟩
    · rw [upd_ne ha] at e' ⊢
      exact R.frm a u e'
/-- what was set aside is frozen -/
theorem Rep.settle (R : Rep K g S H) {p : Addr} {o : HO} {F : Hp} (hp : g.F p = some o) (hF : ∀ a u, F a = some u → g.F a = some u ∧ a ≠ p) : Rep K { g with G := upd g.G p o, F := F } S H ∧ ExtG g { g with G := upd g.G p o, F := F } := by
  obtain ⟨f1, f2, f3⟩ := R.frm p o hp
  have x : ExtG g { g with G := upd g.G p o, F := F } := ⟨(Gh.add_ext (g := g) (o := o) f2).G, Nat.le_refl _, fun _ _ => rfl⟩
  refine ⟨⟨fun b u e => ?_, R.len, fun k c e => ?_, R.inj, fun a u e => ?_⟩, x⟩
  · have e' : upd g.G p o b = some u := e
    by_cases hb : b = p
    · subst hb
      rw [upd_same] at e'
      rw [← e']; exact f1
    · rw [upd_ne hb] at e'; exact R.sub b u e'
  · cases c with
    | dead => trivial
    | lst ds =>
      obtain ⟨h1, vs, h2, h3⟩ := R.cel k _ e
      refine ⟨?_, vs, h2, h3.mono x⟩
      show upd g.G p o (g.m k) = none
      rw [upd_ne (f3 k (by rw [e]; trivial))]; exact h1
  · obtain ⟨q1, q2⟩ := hF a u e
    obtain ⟨h1, h2, h3⟩ := R.frm a u q1
    refine ⟨h1, ?_, h3⟩
    show upd g.G p o a = none
    rw [upd_ne q2]; exact h2
end
end MK

namespace MK
open PySem PySem.Spec PyProof.Rows L2

/-! ### what is wanted behind -/
def RX (K : PySem.W.Frag) (g : Gh) (e : Exn) (cls : Value) (d : Option Addr) : Prop :=
  cls = e.cls ∧ match e.fld with
    | none => True
    | some (f, x) => ∃ a v, d = some a ∧ g.G a = some (.xd [(f, v)]) ∧ RD K g x v
def pst {α : Type} (K : PySem.W.Frag) (W : XK) (g : Gh) (o : Out α) (C : Gh → Store → Hp → α → Prop) : Prop :=
  match o with
  | .ok a S => ∀ g' H', Ext g g' → Rep K g' S H' → C g' S H' a
  | .ex e S => ∀ g' H' cls d, Ext g g' → Rep K g' S H' → RX K g' e cls d → W cls d H'
  | .no => False
section
variable {α β : Type} {K : PySem.W.Frag} {W : XK} {g g' : Gh} {o : Out α} {C C' : Gh → Store → Hp → α → Prop}
theorem pst.ext (x : Ext g g') (h : pst K W g o C) : pst K W g' o C := by
  cases o with
  | ok a S => exact fun g'' H' y R => h g'' H' (x.trans y) R
  | ex e S => exact fun g'' H' cls d y R q => h g'' H' cls d (x.trans y) R q
  | no => exact h
theorem pst.mp (h : pst K W g o C) (hC : ∀ g' S' H' a, Ext g g' → Rep K g' S' H' → C g' S' H' a → C' g' S' H' a) : pst K W g o C' := by
  cases o with
  | ok a S => exact fun g' H' x R => hC g' S H' a x R (h g' H' x R)
  | ex e S => exact h
  | no => exact h
theorem pst.bind {f : α → Store → Out β} {C : Gh → Store → Hp → β → Prop} (h : pst K W g (o.bind f) C) : pst K W g o (fun g' S' _ a => pst K W g' (f a S') C) := by
  cases o with
  | ok a S => exact fun g' H' x R => pst.ext x h
  | ex e S => exact h
  | no => exact h
/-- at once -/
theorem pst.here {a : α} {S : Store} {H : Hp} (h : pst K W g (.ok a S) C) (R : Rep K g S H) : C g S H a := h g H (.refl g) R
end

/-! ### slots -/
abbrev Sl := List (Option D)
structure RS (K : PySem.W.Frag) (g : Gh) (ρ : Sl) (σ : L2.St) : Prop where
  len : ρ.length = σ.length
  at_ : ∀ (i : Nat) (d : D), ρ[i]? = some (some d) → ∃ v, σ[i]? = some (some v) ∧ RD K g d v
theorem RS.mono {K : PySem.W.Frag} {g g' : Gh} {ρ : Sl} {σ : L2.St} (h : RS K g ρ σ) (e : ExtG g g') : RS K g' ρ σ :=
  ⟨h.len, fun i d q => let ⟨v, a, b⟩ := h.at_ i d q; ⟨v, a, b.mono e⟩⟩
theorem RS.set {K : PySem.W.Frag} {g : Gh} {ρ : Sl} {σ : L2.St} {d : D} {v : V} (h : RS K g ρ σ) (i : Nat) (r : RD K g d v) : RS K g (ρ.set i (some d)) (σ.set i (some v)) := by
  refine ⟨by rw [List.length_set, List.length_set]; exact h.len, fun j x e => ?_⟩
  by_cases hj : i = j
  · subst hj
    by_cases hl : i < ρ.length
    · rw [List.getElem?_set_self hl] at e
      cases e
      exact ⟨v, List.getElem?_set_self (by rw [← h.len]; exact hl), r⟩
    · rw [List.getElem?_eq_none (by rw [List.length_set]; omega)] at e; cases e
  · rw [List.getElem?_set_ne hj] at e
    rw [List.getElem?_set_ne hj]
    exact h.at_ j x e
def wipeD (ρ : Sl) : List Nat → Sl
  | [] => ρ
  | v :: vs => (wipeD ρ vs).set v none
theorem wipeD_length (ρ : Sl) : ∀ vs : List Nat, (wipeD ρ vs).length = ρ.length
  | [] => rfl
  | v :: vs => by unfold wipeD; rw [List.length_set, wipeD_length ρ vs]
theorem wipeD_some {ρ : Sl} {i : Nat} {d : D} : ∀ {vs : List Nat}, (wipeD ρ vs)[i]? = some (some d) → ρ[i]? = some (some d) ∧ i ∉ vs
  | [], h => ⟨h, by simp⟩
  | v :: vs, h => by
    unfold wipeD at h
    by_cases hi : v = i
    · subst hi
      by_cases hv : v < (wipeD ρ vs).length
      · rw [List.getElem?_set_self hv] at h; cases h
      · rw [List.getElem?_eq_none (by rw [List.length_set]; omega)] at h; cases h
    · rw [List.getElem?_set_ne hi] at h
      obtain ⟨a, b⟩ := wipeD_some h
      exact ⟨a, by simp only [List.mem_cons, not_or]; exact ⟨Ne.symm hi, b⟩⟩
theorem wipe_keep {σ : L2.St} {i : Nat} : ∀ {vs : List Nat}, i ∉ vs → (wipe σ vs)[i]? = σ[i]?
  | [], _ => rfl
  | v :: vs, h => by
    unfold wipe
    rw [List.getElem?_set_ne (fun z => h (by rw [z]; exact List.mem_cons_self)), wipe_keep fun z => h (List.mem_cons_of_mem _ z)]
theorem RS.wipe {K : PySem.W.Frag} {g : Gh} {ρ : Sl} {σ : L2.St} (h : RS K g ρ σ) (vs : List Nat) : RS K g (wipeD ρ vs) (L2.wipe σ vs) := by
  refine ⟨by rw [wipeD_length, wipe_length]; exact h.len, fun i d e => ?_⟩
  obtain ⟨a, b⟩ := wipeD_some e
  rw [wipe_keep b]
  exact h.at_ i d a
theorem wipe_set {σ : L2.St} {i : Nat} {x : Option V} : ∀ {vs : List Nat}, i ∈ vs → L2.wipe (σ.set i x) vs = L2.wipe σ vs
  | v :: vs, h => by
    unfold L2.wipe
    by_cases e : i = v
    · subst e
      by_cases h2 : i ∈ vs
      · rw [wipe_set h2]
      · have : ∀ (ws : List Nat), i ∉ ws → L2.wipe (σ.set i x) ws = (L2.wipe σ ws).set i x := by
          intro ws
          induction ws with
          | nil => intro _; rfl
          | cons w ws ih =>
            intro hw
            unfold L2.wipe
            rw [ih fun z => hw (List.mem_cons_of_mem _ z), List.set_comm _ _ (fun z => hw (by rw [z]; exact List.mem_cons_self))]
        rw [this vs h2, List.set_set]
    · rcases List.mem_cons.mp h with z | z
      · exact absurd z e
      · rw [wipe_set z]

/-! ### the judgements -/
abbrev F (α : Type) := Sl → Store → Out α
abbrev FE := F D
inductive Fl where
  | nx (ρ : Sl) | rt (d : D) | bk (ρ : Sl) | ct (ρ : Sl)
abbrev FS := F Fl
abbrev FG := D → F Sl

/-- from some ghost, store and slots that stand for the state -/
def rd {α : Type} (K : PySem.W.Frag) (W : XK) (f : F α) (σ : L2.St) (H : Hp) (C : Gh → Store → Hp → α → Prop) : Prop := ∃ g S ρ, Rep K g S H ∧ RS K g ρ σ ∧ pst K W g (f ρ S) C
def rdE (K : PySem.W.Frag) (W : XK) (f : FE) : TE := fun σ H Q => rd K W f σ H fun g _ H' d => ∀ v, RD K g d v → Q v H'
def rdT (K : PySem.W.Frag) (W : XK) (f : F Bool) : TT := fun σ H Q => rd K W f σ H fun _ _ H' b => Q b H'
def rdA (K : PySem.W.Frag) (W : XK) (f : F (List D)) : TA := fun σ H Q => rd K W f σ H fun g _ H' ds => ∀ vs, RDs K g ds vs → Q vs H'
def Fl.post (K : PySem.W.Frag) (D' : Ends) (g : Gh) (H' : Hp) : Fl → Prop
  | .nx ρ => ∀ σ', RS K g ρ σ' → D'.nx σ' H'
  | .rt d => ∀ v, RD K g d v → D'.rt v H'
  | .bk ρ => ∀ σ', RS K g ρ σ' → D'.bk σ' H'
  | .ct ρ => ∀ σ', RS K g ρ σ' → D'.ct σ' H'
def rdS (K : PySem.W.Frag) (W : XK) (f : FS) : TS := fun D' σ H => rd K W f σ H fun g _ H' fl => fl.post K D' g H'
def rdG (K : PySem.W.Frag) (W : XK) (ws : List Nat) (f : FG) : TG := fun v σ H Q => ∃ g S ρ d, Rep K g S H ∧ RS K g ρ σ ∧ RD K g d v ∧ pst K W g (f d ρ S) fun g' _ H' ρ' => ∀ σ', RS K g' ρ' σ' → wipe σ' ws = wipe σ ws → Q σ' H'
/-- an iterator walks these items -/
def ItOk (K : PySem.W.Frag) (g : Gh) (ds : List D) (J : It) : Prop := ∀ g' S' H', ExtG g g' → Rep K g' S' H' →
  J.stop ds.length H' ∧ ∀ i d, ds[i]? = some d → J.go i H' ∧ ∀ x H'', J.yld i H' x H'' → ∃ g'', Ext g' g'' ∧ Rep K g'' S' H'' ∧ RD K g'' d x
def rdI (K : PySem.W.Frag) (W : XK) (f : F (List D)) : TI := fun σ H R => rd K W f σ H fun g _ H' ds => ∀ J, ItOk K g ds J → R J H'

theorem PE.imp {X : Cx} {e : Expr} {t t' : TE} (h : PE X e t) (i : ∀ σ H Q, t' σ H Q → t σ H Q) : PE X e t' := ⟨fun pins s σ H Q I q => h.run pins s σ H Q I (i σ H Q q)⟩
theorem PT.imp {X : Cx} {e : Expr} {t t' : TT} (h : PT X e t) (i : ∀ σ H Q, t' σ H Q → t σ H Q) : PT X e t' := ⟨fun pins s σ H Q I q => h.run pins s σ H Q I (i σ H Q q)⟩
theorem PW.imp {X : Cx} {e : Expr} {t t' : TT} (h : PW X e t) (i : ∀ σ H Q, t' σ H Q → t σ H Q) : PW X e t' := ⟨fun wh pins s σ H Q I q => h.run wh pins s σ H Q I (i σ H Q q)⟩
theorem PA.imp {X : Cx} {e : List Expr} {t t' : TA} (h : PA X e t) (i : ∀ σ H Q, t' σ H Q → t σ H Q) : PA X e t' := ⟨fun pos pins s σ H Q I q => h.run pos pins s σ H Q I (i σ H Q q)⟩
theorem PS.imp {X : Cx} {e : Stmt} {t t' : TS} (h : PS X e t) (i : ∀ D' σ H, t' D' σ H → t D' σ H) : PS X e t' := ⟨fun pins s σ H D' I q => h.run pins s σ H D' I (i D' σ H q)⟩
theorem PSs.imp {X : Cx} {e : List Stmt} {t t' : TS} (h : PSs X e t) (i : ∀ D' σ H, t' D' σ H → t D' σ H) : PSs X e t' := ⟨fun pins s σ H D' I q => h.run pins s σ H D' I (i D' σ H q)⟩
theorem PG.imp {X : Cx} {e : Expr} {t t' : TG} (h : PG X e t) (i : ∀ v σ H Q, t' v σ H Q → t v σ H Q) : PG X e t' := ⟨fun pins s σ H v u Q I r q => h.run pins s σ H v u Q I r (i v σ H Q q)⟩
theorem PI.imp {X : Cx} {tg e : Expr} {t t' : TI} (h : PI X tg e t) (i : ∀ σ H R, t' σ H R → t σ H R) : PI X tg e t' := ⟨fun pins s σ H R I q => h.run pins s σ H R I (i σ H R q)⟩
theorem PTs.imp {X : Cx} {e : List Expr} {t t' : TT} (h : PTs X e t) (i : ∀ σ H Q, t' σ H Q → t σ H Q) : PTs X e t' := ⟨fun pins s σ H Q I q => h.run pins s σ H Q I (i σ H Q q)⟩

abbrev ME (X : Cx) (W : XK) (e : Expr) (f : FE) : Prop := PE X e (rdE X.K W f)
abbrev MT (X : Cx) (W : XK) (e : Expr) (f : F Bool) : Prop := PT X e (rdT X.K W f)
abbrev MW (X : Cx) (W : XK) (e : Expr) (f : F Bool) : Prop := PW X e (rdT X.K W f)
abbrev MA (X : Cx) (W : XK) (e : List Expr) (f : F (List D)) : Prop := PA X e (rdA X.K W f)
abbrev MS (X : Cx) (W : XK) (e : Stmt) (f : FS) : Prop := PS X e (rdS X.K W f)
abbrev MSs (X : Cx) (W : XK) (e : List Stmt) (f : FS) : Prop := PSs X e (rdS X.K W f)
abbrev MG (X : Cx) (W : XK) (e : Expr) (ws : List Nat) (f : FG) : Prop := PG X e (rdG X.K W ws f)
abbrev MI (X : Cx) (W : XK) (tg e : Expr) (f : F (List D)) : Prop := PI X tg e (rdI X.K W f)

section
variable {X : Cx} {W : XK} {K : PySem.W.Frag}
/-- one part, then the rest -/
theorem rd.then {α β : Type} {f : F α} {k : α → F β} {σ : L2.St} {H : Hp} {C : Gh → Store → Hp → β → Prop} {C' : Gh → Store → Hp → α → Prop} (h : rd K W (fun ρ S => (f ρ S).bind fun a S1 => k a ρ S1) σ H C)
    (hC : ∀ g S H' ρ a, Rep K g S H' → RS K g ρ σ → pst K W g (k a ρ S) C → C' g S H' a) : rd K W f σ H C' := by
  obtain ⟨g, S, ρ, R, rs, p⟩ := h
  exact ⟨g, S, ρ, R, rs, p.bind.mp fun g' S' H' a x R' q => hC g' S' H' ρ a R' (rs.mono x.toExtG) q⟩

/-! ### names, constants -/
def fVar (i : Nat) : FE := fun ρ S => match ρ[i]? with
  | some (some d) => .ok d S
  | _ => .no
def fC {α : Type} (d : α) : F α := fun _ S => .ok d S
theorem me_var (i : Nat) {x : Str} {pos : Pos} (hN : X.N[i]? = some x := by rfl) (hv : Vis X.env.scope x := by first | exact Or.inl rfl | exact Or.inr (Or.inl rfl) | exact Or.inr (Or.inr rfl)) (hd : (x == ("__debug__" : Str)) = false := by decide)
    (hcd : (x == ("__classdict__" : Str)) = false := by decide) : ME X W (.Name x pos) (fVar i) := PE.imp (pe_var hN hv hd hcd) fun σ H Q h => by
  obtain ⟨g, S, ρ, R, rs, p⟩ := h
  unfold fVar at p
  cases e : ρ[i]? with
  | none => rw [e] at p; exact p.elim
  | some o =>
    cases o with
    | none => rw [e] at p; exact p.elim
    | some d =>
      rw [e] at p
      obtain ⟨v, h1, h2⟩ := rs.at_ i d e
      exact ⟨v, h1, pst.here p R v h2⟩
theorem me_c {d : D} {v : V} {e : Expr} (h : PE X e (tC v)) (hd : ∀ g, RD X.K g d v) : ME X W e (fC d) := PE.imp h fun σ H Q h => by
  obtain ⟨g, S, ρ, R, rs, p⟩ := h
  exact pst.here p R v (hd g)
theorem me_int {i j pos} : ME X W (.Constant (.int i) j pos) (fC (.int i)) := me_c pe_int fun _ => .int i
theorem me_bl {b j pos} : ME X W (.Constant (.bool b) j pos) (fC (.bl b)) := me_c pe_bl fun _ => .bl b
theorem me_non {j pos} : ME X W (.Constant .none j pos) (fC .non) := me_c pe_non fun _ => .non
theorem me_str {x j pos} : ME X W (.Constant (.str x) j pos) (fC (.str x)) := me_c pe_str fun _ => .str x
theorem me_glI {x : Str} {i : Int} {t : Tok} {pos : Pos} (hg : Gl X x) (hm : X.mg x = some (.int i t)) (hd : (x == ("__debug__" : Str)) = false := by decide) : ME X W (.Name x pos) (fC (.int i)) := me_c (v := .int i) (pe_glob hg hm ⟨t, rfl⟩ hd) fun _ => .int i
theorem me_glS {x : Str} {i : Str} {t : Tok} {pos : Pos} (hg : Gl X x) (hm : X.mg x = some (.str i t)) (hd : (x == ("__debug__" : Str)) = false := by decide) : ME X W (.Name x pos) (fC (.str i)) := me_c (v := .str i) (pe_glob hg hm ⟨t, rfl⟩ hd) fun _ => .str i

/-! ### operators -/
abbrev B2 := D → D → Store → Out D
abbrev B1 := D → Store → Out D
def f2 (op : B2) (a b : FE) : FE := fun ρ S => (a ρ S).bind fun x S1 => (b ρ S1).bind fun y S2 => op x y S2
def f1 (op : B1) (a : FE) : FE := fun ρ S => (a ρ S).bind fun x S1 => op x S1
/-- a rule by values keeps a plain function -/
def Op2 (K : PySem.W.Frag) (r : R2) (op : B2) : Prop := ∀ (W : XK) (g : Gh) (S : Store) (H : Hp) (dx dy : D) (x y : V) (Q : VK), Rep K g S H → RD K g dx x → RD K g dy y → pst K W g (op dx dy S) (fun g' _ H' d => ∀ v, RD K g' d v → Q v H') → r x y H Q
def Op1 (K : PySem.W.Frag) (r : V → Hp → VK → Prop) (op : B1) : Prop := ∀ (W : XK) (g : Gh) (S : Store) (H : Hp) (dx : D) (x : V) (Q : VK), Rep K g S H → RD K g dx x → pst K W g (op dx S) (fun g' _ H' d => ∀ v, RD K g' d v → Q v H') → r x H Q
theorem rd2 {a b : FE} {r : R2} {op : B2} {σ : L2.St} {H : Hp} {Q : VK} (o : Op2 K r op) (h : rdE K W (f2 op a b) σ H Q) : rdE K W a σ H fun x H1 => rdE K W b σ H1 fun y H2 => r x y H2 Q := by
  refine rd.then (k := fun x ρ S1 => (b ρ S1).bind fun y S2 => op x y S2) h fun g S H' ρ d R rs p v rv => ?_
  exact ⟨g, S, ρ, R, rs, p.bind.mp fun g' S' H'' d' x R' q w rw' => o W g' S' H'' d d' v w Q R' (rv.mono x.toExtG) rw' q⟩
theorem me_op {a b : Expr} {pos : Pos} {fa fb : FE} {op : Operator} {r : R2} {o : B2} (ho : OpR X (binaryOp op) r) (hf : Op2 X.K r o) (ha : ME X W a fa) (hb : ME X W b fb) : ME X W (.BinOp a op b pos) (f2 o fa fb) :=
  PE.imp (pe_op ho ha hb) fun σ H Q h => rd2 hf h
theorem me_cmp {a b : Expr} {pos : Pos} {fa fb : FE} {op : CmpOp} {r : R2} {o : B2} (ho : OpR X (compareOp op) r) (hf : Op2 X.K r o) (ha : ME X W a fa) (hb : ME X W b fb) (hm : behindInMarks op b = false) : ME X W (.Compare a [op] [b] pos) (f2 o fa fb) :=
  PE.imp (pe_cmpR ho ha hb hm) fun σ H Q h => rd2 hf h
theorem me_un {a : Expr} {pos : Pos} {fa : FE} {op : UnaryOp} {r : V → Hp → VK → Prop} {o : B1} (ho : UnR X (unaryOp op) r) (hf : Op1 X.K r o) (ha : ME X W a fa) : ME X W (.UnaryOp op a pos) (f1 o fa) :=
  PE.imp (pe_un ho ha) fun σ H Q h => rd.then (k := fun x _ S1 => o x S1) h fun g S H' ρ d R rs p v rv => hf W g S H' d v Q R rv p
theorem me_ix {a b : Expr} {pos : Pos} {fa fb : FE} {r : R2} {o : B2} (ho : IxR X r) (hf : Op2 X.K r o) (ha : ME X W a fa) (hb : ME X W b fb) (hs : PlainIx b := by exact fun _ _ => rfl) : ME X W (.Subscript a b pos) (f2 o fa fb) :=
  PE.imp (pe_ix ho ha hb hs) fun σ H Q h => rd2 hf h

/-! ### tests -/
def dB : D → Store → Out Bool
  | .bl b, S => .ok b S
  | _, _ => .no
def fB (f : FE) : F Bool := fun ρ S => (f ρ S).bind dB
theorem RD.bl_inv {g : Gh} {b : Bool} {v : V} (h : RD K g (.bl b) v) : v = .bl b := by cases h; rfl
theorem RD.int_inv {g : Gh} {b : Int} {v : V} (h : RD K g (.int b) v) : v = .int b := by cases h; rfl
theorem RD.str_inv {g : Gh} {b : Str} {v : V} (h : RD K g (.str b) v) : v = .str b := by cases h; rfl
theorem RD.non_inv {g : Gh} {v : V} (h : RD K g .non v) : v = .non := by cases h; rfl
theorem rdB {f : FE} {σ : L2.St} {H : Hp} {Q : Bool → Hp → Prop} (h : rdT K W (fB f) σ H Q) : rdE K W f σ H fun x H1 => ∃ c, x = .bl c ∧ Q c H1 := by
  refine rd.then (k := fun (x : D) (_ : Sl) (S1 : Store) => dB x S1) h fun g S H' ρ d R rs p v rv => ?_
  cases d with
  | bl b => exact ⟨b, rv.bl_inv, pst.here p R⟩
  | _ => exact p.elim
theorem mt_cmp {a b : Expr} {pos : Pos} {fa fb : FE} {op : CmpOp} {r : R2} {o : B2} (ho : OpR X (compareOp op) r) (hf : Op2 X.K r o) (ha : ME X W a fa) (hb : ME X W b fb) (hm : behindInMarks op b = false) : MT X W (.Compare a [op] [b] pos) (fB (f2 o fa fb)) :=
  PT.imp (pt_cmpR ho ha hb hm) fun σ H Q h => rd2 (Q := fun x H1 => ∃ c, x = .bl c ∧ Q c H1) hf (rdB h)
theorem mt_val {e : Expr} {f : FE} (h : ME X W e f) (he : ∀ whole, isTrue e X.env whole = (do let v ← whole; standAt e.pos; holding [v] (truthy v)) := by intro _; rfl) : MT X W e (fB f) :=
  PT.imp (pt_val h he) fun σ H Q h => rdB h
def fNot (f : F Bool) : F Bool := fun ρ S => (f ρ S).bind fun b S1 => .ok (!b) S1
def fAnd (f k : F Bool) : F Bool := fun ρ S => (f ρ S).bind fun b S1 => if b = true then k ρ S1 else .ok false S1
def fOr (f k : F Bool) : F Bool := fun ρ S => (f ρ S).bind fun b S1 => if b = true then .ok true S1 else k ρ S1
theorem mt_not {a : Expr} {pos : Pos} {f : F Bool} (h : MT X W a f) : MT X W (.UnaryOp .Not a pos) (fNot f) :=
  PT.imp (pt_not h) fun σ H Q h => rd.then (k := fun (b : Bool) (_ : Sl) (S1 : Store) => Out.ok (!b) S1) h fun g S H' ρ d R rs p => pst.here p R
theorem mw_and1 {a : Expr} {pos : Pos} {f : F Bool} (h : MT X W a f) : MW X W (.BoolOp .And [a] pos) f := pw_and1 h
theorem mw_or1 {a : Expr} {pos : Pos} {f : F Bool} (h : MT X W a f) : MW X W (.BoolOp .Or [a] pos) f := pw_or1 h
theorem mw_and {a b : Expr} {rest : List Expr} {pos : Pos} {f k : F Bool} (h : MT X W a f) (hb : MW X W (.BoolOp .And (b :: rest) pos) k) : MW X W (.BoolOp .And (a :: b :: rest) pos) (fAnd f k) :=
  PW.imp (pw_and h hb) fun σ H Q h => rd.then (k := fun (b : Bool) ρ S1 => if b = true then k ρ S1 else Out.ok false S1) h fun g S H' ρ d R rs p => by
    cases d with
    | true => exact ⟨g, S, ρ, R, rs, p⟩
    | false => exact pst.here p R
theorem mw_or {a b : Expr} {rest : List Expr} {pos : Pos} {f k : F Bool} (h : MT X W a f) (hb : MW X W (.BoolOp .Or (b :: rest) pos) k) : MW X W (.BoolOp .Or (a :: b :: rest) pos) (fOr f k) :=
  PW.imp (pw_or h hb) fun σ H Q h => rd.then (k := fun (b : Bool) ρ S1 => if b = true then Out.ok true S1 else k ρ S1) h fun g S H' ρ d R rs p => by
    cases d with
    | false => exact ⟨g, S, ρ, R, rs, p⟩
    | true => exact pst.here p R
theorem mt_w {e : Expr} {f : F Bool} (h : MW X W e f) : MT X W e f := PW.pt h
/-- and, or as values (all but the last bools) -/
def fAndV (a b : FE) : FE := fun ρ S => (a ρ S).bind fun x S1 => match x with
  | .bl c => if c = true then b ρ S1 else .ok (.bl false) S1
  | _ => .no
def fOrV (a b : FE) : FE := fun ρ S => (a ρ S).bind fun x S1 => match x with
  | .bl c => if c = true then .ok (.bl true) S1 else b ρ S1
  | _ => .no
def fNotV (a : FE) : FE := fun ρ S => (a ρ S).bind fun x S1 => match x with
  | .bl c => .ok (.bl (!c)) S1
  | _ => .no
theorem me_one {op : BoolOp} {a : Expr} {pos : Pos} {f : FE} (h : ME X W a f) : ME X W (.BoolOp op [a] pos) f := pe_one h
theorem me_and {a b : Expr} {rest : List Expr} {pos : Pos} {f k : FE} (h : ME X W a f) (hb : ME X W (.BoolOp .And (b :: rest) pos) k) : ME X W (.BoolOp .And (a :: b :: rest) pos) (fAndV f k) :=
  PE.imp (pe_and h hb) fun σ H Q h => rd.then (k := fun (x : D) ρ S1 => match x with | .bl c => if c = true then k ρ S1 else Out.ok (D.bl false) S1 | _ => Out.no) h fun g S H' ρ d R rs p v rv => by
    cases d with
    | bl c =>
      refine ⟨c, rv.bl_inv, ?_⟩
      cases c with
      | true => exact ⟨g, S, ρ, R, rs, p⟩
      | false => exact pst.here p R _ (.bl false)
    | _ => exact p.elim
theorem me_or {a b : Expr} {rest : List Expr} {pos : Pos} {f k : FE} (h : ME X W a f) (hb : ME X W (.BoolOp .Or (b :: rest) pos) k) : ME X W (.BoolOp .Or (a :: b :: rest) pos) (fOrV f k) :=
  PE.imp (pe_or h hb) fun σ H Q h => rd.then (k := fun (x : D) ρ S1 => match x with | .bl c => if c = true then Out.ok (D.bl true) S1 else k ρ S1 | _ => Out.no) h fun g S H' ρ d R rs p v rv => by
    cases d with
    | bl c =>
      refine ⟨c, rv.bl_inv, ?_⟩
      cases c with
      | false => exact ⟨g, S, ρ, R, rs, p⟩
      | true => exact pst.here p R _ (.bl true)
    | _ => exact p.elim
theorem me_not {a : Expr} {pos : Pos} {f : FE} (h : ME X W a f) : ME X W (.UnaryOp .Not a pos) (fNotV f) :=
  PE.imp (pe_not h) fun σ H Q h => rd.then (k := fun (x : D) (_ : Sl) (S1 : Store) => match x with | .bl c => Out.ok (D.bl (!c)) S1 | _ => Out.no) h fun g S H' ρ d R rs p v rv => by
    cases d with
    | bl c => exact ⟨c, rv.bl_inv, pst.here p R _ (.bl _)⟩
    | _ => exact p.elim
def fIf {α : Type} (c : F Bool) (a b : F α) : F α := fun ρ S => (c ρ S).bind fun t S1 => if t = true then a ρ S1 else b ρ S1
theorem me_if {c a b : Expr} {pos : Pos} {fc : F Bool} {fa fb : FE} (hc : MT X W c fc) (ha : ME X W a fa) (hb : ME X W b fb) : ME X W (.IfExp c a b pos) (fIf fc fa fb) :=
  PE.imp (pe_ifExp hc ha hb) fun σ H Q h => rd.then (k := fun t ρ S1 => if t = true then fa ρ S1 else fb ρ S1) h fun g S H' ρ d R rs p => by
    cases d with
    | true => exact ⟨g, S, ρ, R, rs, p⟩
    | false => exact ⟨g, S, ρ, R, rs, p⟩

/-! ### argument lists, displays -/
def fNil : F (List D) := fC []
def fCons (a : FE) (r : F (List D)) : F (List D) := fun ρ S => (a ρ S).bind fun x S1 => (r ρ S1).bind fun xs S2 => .ok (x :: xs) S2
theorem ma_nil : MA X W [] fNil := PA.imp pa_nil fun σ H Q h => by
  obtain ⟨g, S, ρ, R, rs, p⟩ := h
  exact pst.here p R [] .nil
theorem ma_cons {e : Expr} {es : List Expr} {f : FE} {k : F (List D)} (h : ME X W e f) (hr : MA X W es k) (hs : starEach (e :: es) X.env = (false, eval e X.env) :: starEach es X.env := by rfl) : MA X W (e :: es) (fCons f k) :=
  PA.imp (pa_cons h hr hs) fun σ H Q h => by
    refine rd.then (k := fun (x : D) ρ S1 => (k ρ S1).bind fun xs S2 => Out.ok (x :: xs) S2) h fun g S H' ρ d R rs p v rv => ?_
    exact ⟨g, S, ρ, R, rs, p.bind.mp fun g' S' H'' ds x R' q vs rvs => pst.here q R' (v :: vs) (.cons (rv.mono x.toExtG) rvs)⟩
def line : Nat := 16777216
theorem line_eq : line = sizeLine := by rw [sizeLine_eq]; rfl
def fTup (r : F (List D)) : FE := fun ρ S => (r ρ S).bind fun xs S1 => if xs.length ≤ line then .ok (.tup xs) S1 else .no
def fLst (r : F (List D)) : FE := fun ρ S => (r ρ S).bind fun xs S1 => if xs.length ≤ line then .ok (.lst xs) S1 else .no
def fNew (r : F (List D)) : FE := fun ρ S => (r ρ S).bind fun xs S1 => if xs.length ≤ line then .ok (.cell S1.length) (S1 ++ [.lst xs]) else .no
theorem me_tup {es : List Expr} {x1} {pos : Pos} {f : F (List D)} (h : MA X W es f) : ME X W (.Tuple es x1 pos) (fTup f) :=
  PE.imp (pe_tup h) fun σ H Q h => rd.then (k := fun (xs : List D) (_ : Sl) (S1 : Store) => if xs.length ≤ line then Out.ok (D.tup xs) S1 else Out.no) h fun g S H' ρ ds R rs p vs rvs => by
    by_cases hl : ds.length ≤ line
    · rw [if_pos hl] at p
      refine ⟨by rw [rvs.length, ← line_eq]; exact hl, fun a ha => ?_⟩
      exact p _ _ (Gh.add_ext (R.newG ha)) (R.add ha) _ (.tup (.inl (.inl upd_same)) (rvs.mono (Gh.add_ext (R.newG ha)).toExtG))
    · rw [if_neg hl] at p; exact p.elim
theorem me_lst {es : List Expr} {pos : Pos} {f : F (List D)} (h : MA X W es f) : ME X W (.List es pos) (fLst f) :=
  PE.imp (pe_lst h) fun σ H Q h => rd.then (k := fun (xs : List D) (_ : Sl) (S1 : Store) => if xs.length ≤ line then Out.ok (D.lst xs) S1 else Out.no) h fun g S H' ρ ds R rs p vs rvs => by
    by_cases hl : ds.length ≤ line
    · rw [if_pos hl] at p
      refine ⟨by rw [rvs.length, ← line_eq]; exact hl, fun a ha => ?_⟩
      exact p _ _ (Gh.add_ext (R.newG ha)) (R.add ha) _ (.lst upd_same (rvs.mono (Gh.add_ext (R.newG ha)).toExtG))
    · rw [if_neg hl] at p; exact p.elim
theorem me_new {es : List Expr} {pos : Pos} {f : F (List D)} (h : MA X W es f) : ME X W (.List es pos) (fNew f) :=
  PE.imp (pe_lst h) fun σ H Q h => rd.then (k := fun (xs : List D) (_ : Sl) (S1 : Store) => if xs.length ≤ line then Out.ok (D.cell S1.length) (S1 ++ [Cell.lst xs]) else Out.no) h fun g S H' ρ ds R rs p vs rvs => by
    by_cases hl : ds.length ≤ line
    · rw [if_pos hl] at p
      refine ⟨by rw [rvs.length, ← line_eq]; exact hl, fun a ha => ?_⟩
      refine p _ _ Gh.cell_ext (R.cell ha rvs) _ (.cell (k := S.length) ?_ ?_)
      · show S.length < g.n + 1
        rw [R.len]; exact Nat.lt_succ_self _
      · show (if S.length = g.n then a else g.m S.length) = a
        rw [if_pos R.len]
    · rw [if_neg hl] at p; exact p.elim

/-! ### calls -/
def spM (K : PySem.W.Frag) (n : Nat) (f : List D → Store → Out D) : Sp := fun vs H Q E => vs.length = n ∧ ∃ g S ds, Rep K g S H ∧ RDs K g ds vs ∧ pst K E g (f ds S) fun g' _ H' d => ∀ v, RD K g' d v → Q v H'
def fCall (f : List D → Store → Out D) (a : F (List D)) : FE := fun ρ S => (a ρ S).bind f
/-- the arguments are so many -/
def Many (n : Nat) (f : F (List D)) : Prop := ∀ ρ S ds S', f ρ S = .ok ds S' → ds.length = n
theorem many_nil : Many 0 fNil := fun ρ S ds S' h => by
  cases h; rfl
theorem many_cons {n : Nat} {a : FE} {r : F (List D)} (h : Many n r) : Many (n + 1) (fCons a r) := fun ρ S ds S' e => by
  unfold fCons at e
  cases e1 : a ρ S with
  | ok x S1 =>
    rw [e1] at e
    cases e2 : r ρ S1 with
    | ok xs S2 =>
      rw [Out.bind_ok, e2, Out.bind_ok] at e
      cases e
      rw [List.length_cons, h _ _ _ _ e2]
    | ex _ _ => rw [Out.bind_ok, e2] at e; cases e
    | no => rw [Out.bind_ok, e2] at e; cases e
  | ex _ _ => rw [e1] at e; cases e
  | no => rw [e1] at e; cases e
theorem pst.same {α : Type} {K : PySem.W.Frag} {W : XK} {g : Gh} {o : Out α} {C : Gh → Store → Hp → α → Prop} (h : pst K W g o C) : pst K W g o (fun g' S' H' a => o = .ok a S' ∧ C g' S' H' a) := by
  cases o with
  | ok a S => exact fun g' H' x R => ⟨rfl, h g' H' x R⟩
  | ex e S => exact h
  | no => exact h
/-- a built-in by its name -/
def CallM (K : PySem.W.Frag) (r : List V → Hp → VK → Prop) (op : List D → Store → Out D) : Prop := ∀ (W : XK) (g : Gh) (S : Store) (H : Hp) (ds : List D) (vs : List V) (Q : VK), Rep K g S H → RDs K g ds vs → pst K W g (op ds S) (fun g' _ H' d => ∀ v, RD K g' d v → Q v H') → r vs H Q
theorem me_callB {x : Str} {id : String} {r : List V → Hp → VK → Prop} {op : List D → Store → Out D} {p pos : Pos} {e : Expr} {es : List Expr} {a : MK.F (List D)} (hc : CallR X (.builtin id) r) (ho : CallM X.K r op) (hg : Gl X x) (hm : X.mg x = none) (hv : bootBuiltins x = some (.builtin id)) (ha : MA X W (e :: es) a)
    (hn : x ≠ "__name__" := by decide) (hdb : (x == ("__debug__" : Str)) = false := by decide) (he : starEach (e :: es) X.env = (false, eval e X.env) :: starEach es X.env := by rfl) (hpl : (backTo pos (starEach es X.env)).any (·.1) = false := by rfl) : ME X W (.Call (.Name x p) (e :: es) [] pos) (fCall op a) :=
  PE.imp (pe_callB hc hg hm hv ha hn hdb he hpl) fun σ H Q h => rd.then (k := fun xs _ S1 => op xs S1) h fun g S H' ρ ds R rs p vs rvs => ho W g S H' ds vs Q R rvs p
theorem me_callT {x : Str} {T : String} {r : List V → Hp → VK → Prop} {op : List D → Store → Out D} {p pos : Pos} {e : Expr} {es : List Expr} {a : MK.F (List D)} (hc : CallR X (.type T) r) (ho : CallM X.K r op) (hg : Gl X x) (hm : X.mg x = none) (hv : bootBuiltins x = some (.type T)) (ha : MA X W (e :: es) a)
    (hn : x ≠ "__name__" := by decide) (hdb : (x == ("__debug__" : Str)) = false := by decide) (he : starEach (e :: es) X.env = (false, eval e X.env) :: starEach es X.env := by rfl) (hpl : (backTo pos (starEach es X.env)).any (·.1) = false := by rfl) : ME X W (.Call (.Name x p) (e :: es) [] pos) (fCall op a) :=
  PE.imp (pe_callTy hc hg hm hv ha hn hdb he hpl) fun σ H Q h => rd.then (k := fun xs _ S1 => op xs S1) h fun g S H' ρ ds R rs p vs rvs => ho W g S H' ds vs Q R rvs p
end
end MK

namespace MK
open PySem PySem.Spec PyProof.Rows L2

/-- a def's promise where no repr is under way around the call -/
structure FnG (P : Program) (w : World) (K : PySem.W.Frag) (mg : Str → Option Value) (base : Heap) (CX : CXT)
    (k : Nat) (f : Addr) (fd : FuncData) (ps : List Str) (sp : Sp) : Prop where
  len : ∀ vs H Q E, sp vs H Q E → vs.length = ps.length
  run : ∀ (A : Around) (outer : List Env) (s : Shared) (H : Hp) (args : Args) (us : List Value) (vs : List V) (Q : VK) (E : XK),
    A.guards = some [] → Room k A → Env0 P w K mg base A outer s H → BindsTo s fd args (ps.zip us) → Vals vs us → sp vs H Q E →
      codeAny (model P w) A (.call (.ref f) args) (CR CX outer P w H s Q E) s
theorem FnG.mono {P : Program} {w : World} {K : PySem.W.Frag} {mg : Str → Option Value} {base : Heap} {CX : CXT} {j k : Nat}
    {f : Addr} {fd : FuncData} {ps : List Str} {sp : Sp} (G : FnG P w K mg base CX j f fd ps sp) (h : j ≤ k) : FnG P w K mg base CX k f fd ps sp where
  len := G.len
  run := fun A outer s H args us vs Q E hq hr => G.run A outer s H args us vs Q E hq (hr.mono h)

section
variable {P : Program} {w : World} {K : PySem.W.Frag} {mg : Str → Option Value} {base : Heap}
/-- from the body -/
theorem FnG.of {CX : CXT} {x qual : Str} {st : Stmt} {f : Addr} {fd : FuncData} {N ps : List Str} {k : Nat} {sp : Sp}
    (Fu : Fun K x qual st f fd) (Sc : FnScope N ps (defScope st)) (len : ∀ vs H Q E, sp vs H Q E → vs.length = ps.length)
    (body : ∀ (cdv : Value) (A : Around) (outer : List Env) (s : Shared) (H : Hp) (vs : List V) (Q : VK) (E : XK),
      A.guards = some [] → Room k (A.deeper (envOfC qual (defScope st) s.heap.objs.size f cdv)) → sp vs H Q E →
        ∃ t, PSs (cxOf CX P w K mg base N qual (defScope st) f cdv A outer s H E) (defBody st) t ∧ t { nx := fun _ H' => Q .non H', rt := Q } (start N vs) H) :
    FnG P w K mg base CX (k + 1) f fd ps sp := by
  obtain ⟨oc, od, kV, doc, pm, an, cdv, ct, osl, e, look, code⟩ := Fu.ex
  subst e
  refine ⟨len, ?_⟩
  intro A outer s H args us vs Q E gd room env0 binds vals want
  have many := len vs H Q E want
  have inK : K.In s.heap := env0.mod.kin.keeps fun b o q => (env0.bs b o q).1
  have free : s.heap.NoLimit := env0.mod.nolimit.keeps fun b o q => (env0.bs b o q).1
  have kinds : ∀ y ∈ ps.zip us, (defScope st).names.lookup y.1 = some .local ∨
      ((defScope st).names.lookup y.1 = some .cell ∧ ((cellsFrom (s.heap.objs.size + 1) (defScope st).names []).lookup y.1).isSome = true) := by
    rintro ⟨n, v⟩ hy
    exact (Sc.par n (List.of_mem_zip hy).1).imp id fun c => ⟨c, PySem.W.cellsFrom_some _ _ _ (.inl c)⟩
  apply codeAny_call_function room.depth (inK _ _ look) rfl Sc.co Sc.gen rfl (PySem.W.codeRec_of inK code)
  refine binds _ _ _ _ (wpAny_newFunctionEnv_cells Sc.kind kinds fun env he s1 x => ?_)
  subst he
  refine ⟨free.keeps x.toInCall.keep, codeAny_func ?_⟩
  obtain ⟨t, ht, hq⟩ := body cdv A outer s H vs Q E gd (room.deeper _) want
  have J := inv_start (CX := CX) (E := E) Sc room.hd env0 many vals x
  refine wpAny_mono (ht.run [] s1 (start N vs) H _ J hq) ?_ fun _ _ z => z
  intro fl s' done
  cases fl with
  | brk => obtain ⟨_, _, _, z⟩ := done; exact z.elim
  | cont => obtain ⟨_, _, _, z⟩ := done; exact z.elim
  | next =>
    obtain ⟨σ', H', I, q⟩ := done
    exact ⟨V.non, H', I.os, I.bare, I.base, I.hok, rfl, q⟩
  | ret u =>
    obtain ⟨v, σ', H', I, r, q⟩ := done
    exact ⟨v, H', I.os, I.bare, I.base, I.hok, r, q⟩
end

section
variable {X : Cx} {W : XK}
theorem peG_call {CX : CXT} {k : Nat} {f : Addr} {fd : FuncData} {ps : List Str} {sp : Sp} {x : Str} {p pos : Pos} {e : Expr} {es : List Expr} {t : TA}
    (G : FnG X.prog X.w X.K X.mg X.base CX k f fd ps sp) (gd : X.A.guards = some []) (hr : Room k X.A) (hg : Gl X x) (hm : X.mg x = some (.ref f))
    (hk : PySem.W.keepIn X.K (.ref f) = true) (hb : Binds X.K fd ps []) (hx : Passes CX X W) (ha : PA X (e :: es) t)
    (hdb : (x == ("__debug__" : Str)) = false := by decide) (he : starEach (e :: es) X.env = (false, eval e X.env) :: starEach es X.env := by rfl)
    (hpl : (backTo pos (starEach es X.env)).any (·.1) = false := by rfl) :
    PE X (.Call (.Name x p) (e :: es) [] pos) fun σ H Q => t σ H fun vs H1 => sp vs H1 Q W := by
  constructor
  intro pins s σ H Q I h
  apply wpAny_Call_Name_kw
  apply ld_glob I hg hm _ hdb
  refine PySem.W.callWith_K (h₀ := X.base) I.ok.mod.kin hk (thn (ha.run pos pins s σ H _ I h) ?_) he hpl
  rintro us s1 ⟨vs, H1, I1, r, q⟩
  refine ⟨I1.kIn, ?_⟩
  have hl : us.length = ps.length := r.length.symm.trans (G.len _ _ _ _ q)
  have hbind : BindsTo s1 fd ⟨us, []⟩ (ps.zip us) := by
    have z := hb s1 us I1.kIn (by rw [List.append_nil]; exact hl)
    rw [List.append_nil] at z
    exact z
  refine wpAny_call (codeAny_mono (G.run X.A X.stack s1 H1 ⟨us, []⟩ us vs Q W gd hr I1.env0 hbind r q) ?_)
  intro res s' hq
  cases res with
  | error e => exact hx pins σ H1 s1 e s' I1 hq
  | ok fl =>
    cases fl with
    | ret u => exact I1.after hq
    | next => exact hq.elim
    | brk => exact hq.elim
    | cont => exact hq.elim
theorem peG_call0 {CX : CXT} {k : Nat} {f : Addr} {fd : FuncData} {ps : List Str} {sp : Sp} {x : Str} {p pos : Pos}
    (G : FnG X.prog X.w X.K X.mg X.base CX k f fd ps sp) (gd : X.A.guards = some []) (hr : Room k X.A) (hg : Gl X x) (hm : X.mg x = some (.ref f))
    (hk : PySem.W.keepIn X.K (.ref f) = true) (hb : Binds X.K fd ps []) (hx : Passes CX X W)
    (hdb : (x == ("__debug__" : Str)) = false := by decide) :
    PE X (.Call (.Name x p) [] [] pos) fun _ H Q => sp [] H Q W := by
  constructor
  intro pins s σ H Q I q
  apply wpAny_Call_Name_kw
  apply ld_glob I hg hm _ hdb
  refine PySem.W.callWith_K0 I.kIn hk ?_
  have hl : ([] : List Value).length = ps.length := G.len _ _ _ _ q
  have hbind : BindsTo s fd ⟨[], []⟩ (ps.zip []) := hb s [] I.kIn hl
  refine wpAny_call (codeAny_mono (G.run X.A X.stack s H ⟨[], []⟩ [] [] Q W gd hr I.env0 hbind .nil q) ?_)
  intro res s' hq
  cases res with
  | error e => exact hx pins σ H s e s' I hq
  | ok fl =>
    cases fl with
    | ret u => exact I.after hq
    | next => exact hq.elim
    | brk => exact hq.elim
    | cont => exact hq.elim
end

/-! ### the end: the law called with the script -/
section
variable {P : Program} {w : World} {K : PySem.W.Frag} {mg mb : Str → Option Value} {CX : CXT} {k : Nat} {fa a : Addr} {fd : FuncData} {x : Str} {sp : Sp}
  {s₁ : Shared} {vs : List Value} {ns : List Int}
/-- the called law, from an abstract heap of which the script alone is told -/
theorem lawG_core (inK : K.In s₁.heap) (gl : s₁.heap.Ns mainGlobals mg) (bl : s₁.heap.Ns builtinsNs mb) (boot : ∀ y : Str, y ≠ "__name__" → mb y = bootBuiltins y)
    (lim : s₁.heap.NoLimit) (gens : s₁.gens = #[]) (obj : s₁.heap.get? a = some { cls := .type "list", data := .seq vs.toArray }) (room : Room k callerA)
    (G : ∀ base : Heap, K.In base → base.Ns mainGlobals mg → FnG P w K mg base CX k fa fd [x] sp) (binds : ∀ (s : Shared) (u : Value), BindsTo s fd ⟨[u], []⟩ [(x, u)])
    (noX : ∀ H e s', CX [] H s₁ (fun _ _ _ => False) e s' → False) {H : Hp} (only : Only H) (ok : HOk P w H s₁.heap) (hA : ∀ b, H b ≠ none → b = a ∧ K.lookup a = none)
    (want : sp [.ref a] H (fun v _ => v = .bl true) fun _ _ _ => False) :
    codeAny (model P w) callerA (.call (.ref fa) ⟨[.ref a], []⟩) (fun r s' => r = .ok (.ret (.bool true)) ∧ OldK s₁.heap s'.heap ∧ s'.os = s₁.os ∧ AllBare s'.gens) s₁ := by
  have plain : ∀ {b : Addr} {o : Obj}, s₁.heap.get? b = some o → (b = a → False) → (hidT s₁.heap H).get? b = some o := fun {b o} e n => by
    refine hidT_get e ?_
    cases q : H b with
    | none => rfl
    | some u => exact (n (hA b (by rw [q]; exact fun z => nomatch z)).1).elim
  have names : ∀ {b : Addr} {m : Str → Option Value}, s₁.heap.Ns b m → (hidT s₁.heap H).Ns b m := fun {b m} ns => by
    obtain ⟨o, es, ep, e, d, r⟩ := ns
    refine ⟨o, es, ep, plain e fun z => ?_, d, r⟩
    subst z
    rw [obj] at e
    cases e
    exact nomatch d
  have inB : K.In (hidT s₁.heap H) := fun b o e => by
    have e1 := inK b o e
    refine hidT_get e1 ?_
    cases q : H b with
    | none => rfl
    | some u =>
      obtain ⟨z1, z2⟩ := hA b (by rw [q]; exact fun z => nomatch z)
      rw [z1, z2] at e
      exact nomatch e
  have md : Mod K mg (hidT s₁.heap H) := ⟨inB, names gl, ⟨mb, names bl, boot⟩, by obtain ⟨mc, l1, l2⟩ := lim; exact ⟨mc, names l1, l2⟩⟩
  have env0 : Env0 P w K mg (hidT s₁.heap H) callerA [] s₁ H :=
    { frames := rfl, mod := md, bs := fun b o e => of_hidT e, bsz := Nat.le_of_eq (hidT_size _ _), funs := trivial,
      frf := fun b hb => (by simp [frs] at hb), hok := ok, bare := .of_eq gens }
  refine codeAny_mono ((G _ inB (names gl)).run callerA [] s₁ H ⟨[.ref a], []⟩ [.ref a] [.ref a] _ _ rfl room env0 (binds s₁ (.ref a)) (.cons rfl .nil) want) ?_
  intro r s' done
  cases r with
  | error e => exact (noX H e s' done).elim
  | ok fl =>
    cases fl with
    | next => exact done.elim
    | brk => exact done.elim
    | cont => exact done.elim
    | ret u =>
      obtain ⟨v, H', os, bare, un, ok', rv, q⟩ := done
      have q' : v = .bl true := q
      subst q'
      have eu : u = Value.bool true := rv
      subst eu
      refine ⟨rfl, OldK.of_keep fun b o e => ?_, os, bare⟩
      cases hb : H b with
      | none => exact un.keep b o e hb (by simp [frs]) (by simp)
      | some u =>
        rcases only b with z | ⟨ob, xs, z⟩
        · rw [hb] at z; exact nomatch z
        · have e1 := (ok b _ z).1
          have e2 := (ok' b _ (un.frzs b ob _ z)).1
          rw [e] at e1
          rw [Option.some.inj e1]
          exact e2
theorem lawG_call (inK : K.In s₁.heap) (gl : s₁.heap.Ns mainGlobals mg) (bl : s₁.heap.Ns builtinsNs mb) (boot : ∀ y : Str, y ≠ "__name__" → mb y = bootBuiltins y)
    (lim : s₁.heap.NoLimit) (gens : s₁.gens = #[]) (obj : s₁.heap.get? a = some { cls := .type "list", data := .seq vs.toArray }) (hi : IntsAre vs ns) (hl : ns.length ≤ sizeLine) (room : Room k callerA)
    (G : ∀ base : Heap, K.In base → base.Ns mainGlobals mg → FnG P w K mg base CX k fa fd [x] sp) (binds : ∀ (s : Shared) (u : Value), BindsTo s fd ⟨[u], []⟩ [(x, u)])
    (want : ∀ H : Hp, Only H → SqL K H a (ns.map V.int) → sp [.ref a] H (fun v _ => v = .bl true) fun _ _ _ => False)
    (noX : ∀ H e s', CX [] H s₁ (fun _ _ _ => False) e s' → False) :
    codeAny (model P w) callerA (.call (.ref fa) ⟨[.ref a], []⟩) (fun r s' => r = .ok (.ret (.bool true)) ∧ OldK s₁.heap s'.heap ∧ s'.os = s₁.os ∧ AllBare s'.gens) s₁ := by
  have rv := vals_ints hi
  have hlen : (ns.map V.int).length ≤ sizeLine := by rw [List.length_map]; exact hl
  cases hk : K.lookup a with
  | some o =>
    have e := inK a o hk
    rw [obj] at e
    have e' := Option.some.inj e
    subst e'
    have none_only : Only fun _ => none := fun _ => .inl rfl
    refine lawG_core inK gl bl boot lim gens obj room G binds noX none_only (fun b u z => nomatch z) (fun b z => absurd rfl z) (want _ none_only (.inr ⟨_, vs.toArray, _, hk, rfl, rfl, rfl, ?_, by simpa using rv⟩))
    rw [List.size_toArray, hi.length]
    exact hl
  | none =>
    have only1 : Only fun b => if b = a then some (.frz { cls := .type "list", data := .seq vs.toArray } (.lst (ns.map V.int))) else none := fun b => by
      by_cases q : b = a
      · exact .inr ⟨_, _, if_pos q⟩
      · exact .inl (if_neg q)
    refine lawG_core inK gl bl boot lim gens obj room G binds noX only1 (fun b u z => ?_) (fun b z => ?_) (want _ only1 (.inl (.inr ⟨_, if_pos rfl⟩)))
    · by_cases q : b = a
      · rw [if_pos q] at z
        have z' := Option.some.inj z
        subst z'
        subst q
        exact ⟨obj, hlen, vs, _, rv, obj⟩
      · rw [if_neg q] at z; exact nomatch z
    · by_cases q : b = a
      · exact ⟨q, hk⟩
      · exact absurd (if_neg q) z
end
/-- the goal behind k_head, the bits told -/
theorem walkG {l : PySem.W.OpenLaw} {n k : Nat} {q : Program} {loose : List Str} {XP : (Str → Option Value) → Heap → Prop} {YP : World → Heap → Prop} {d : DefRec} {K : Params → PySem.W.Frag} {sp : PySem.W.Frag → Sp} {x : Str}
    (hn : l.most = some n) (hn2 : n ≤ sizeLine) (hdf : d.params.defaults = []) (room : Room k callerA)
    (hY : ∀ (w : World) (h : Heap), YP w h → (K w.params).In h)
    (G : ∀ (w : World) (mg : Str → Option Value) (fa : Addr) (h : Heap), (K w.params).In h → h.Ns mainGlobals mg → mg d.name = some (.ref fa) →
      ∃ fd : FuncData, (∀ (s : Shared) (u : Value), BindsTo s fd ⟨[u], []⟩ [(x, u)]) ∧
        ∀ base : Heap, (K w.params).In base → base.Ns mainGlobals mg → FnG l.prog w (K w.params) mg base CX0 k fa fd [x] (sp (K w.params)))
    (want : ∀ (K : PySem.W.Frag) (H : Hp) (a : Addr) (ns : List Int), ns.length ≤ n → (∀ z ∈ ns, Builtin.Int.intBits z ≤ 1048576) → Only H → SqL K H a (ns.map V.int) →
      sp K [.ref a] H (fun v _ => v = .bl true) fun _ _ _ => False) :
    PySem.W.WalkO q loose XP YP l.row.toRowW d [] (fun f vs => PySem.call f vs) := by
  refine Att.attach_callB hn hdf ?_
  intro w s₀ s₁ mg mb fa o pm cd doc a vs ns Gr Y ho hd hcd hmg hobj hints hlen hbits hg
  obtain ⟨fd, hb, hF⟩ := G w mg fa _ (hY w _ Y) Gr.T.g hmg
  exact lawG_call (hY w _ Y) Gr.T.g Gr.T.b Gr.T.builtins Gr.T.nolimit hg hobj hints (Nat.le_trans hlen hn2) room hF hb
    (fun H hO hS => want _ H a ns hlen hbits hO hS) fun _ _ _ z => z
end MK

namespace MK
open PySem PySem.Spec PyProof.Rows L2

theorem wipe_at {σ : L2.St} {i : Nat} : ∀ {vs : List Nat}, (L2.wipe σ vs)[i]? = if i ∈ vs then (if i < σ.length then some none else none) else σ[i]?
  | [] => by simp [L2.wipe]
  | v :: vs => by
    unfold L2.wipe
    by_cases e : v = i
    · subst e
      rw [if_pos List.mem_cons_self]
      by_cases h : v < σ.length
      · rw [if_pos h, List.getElem?_set_self (by rw [wipe_length]; exact h)]
      · rw [if_neg h, List.getElem?_eq_none (by rw [List.length_set, wipe_length]; omega)]
    · rw [List.getElem?_set_ne e, wipe_at (vs := vs)]
      by_cases h : i ∈ vs
      · rw [if_pos h, if_pos (List.mem_cons_of_mem _ h)]
      · rw [if_neg h, if_neg fun z => (List.mem_cons.mp z).elim (fun q => e q.symm) h]
theorem wipe_ext {σ τ : L2.St} {vs : List Nat} (hl : σ.length = τ.length) (h : ∀ i, i ∉ vs → σ[i]? = τ[i]?) : L2.wipe σ vs = L2.wipe τ vs := by
  refine List.ext_getElem? fun i => ?_
  rw [wipe_at, wipe_at, hl]
  by_cases q : i ∈ vs
  · rw [if_pos q, if_pos q]
  · rw [if_neg q, if_neg q, h i q]
theorem off_of_wipe {σ τ : L2.St} {ws : List Nat} (h : L2.wipe σ ws = L2.wipe τ ws) : σ.length = τ.length ∧ ∀ i, i ∉ ws → σ[i]? = τ[i]? := by
  refine ⟨by rw [← wipe_length σ ws, h, wipe_length], fun i hi => ?_⟩
  have e := congrArg (fun l : L2.St => l[i]?) h
  simp only [wipe_at, if_neg hi] at e
  exact e

section
variable {X : Cx} {W : XK} {K : PySem.W.Frag}

/-! ### targets -/
def gNm (i : Nat) : FG := fun d ρ S => .ok (ρ.set i (some d)) S
theorem mg_name {i : Nat} {x : Str} {pos : Pos} (hN : X.N.Nodup) (hi : X.N[i]? = some x) (hx : Loc X.env.scope x) (hf : X.fn x = true ∨ X.env.scope.names.lookup x = some .local := by first | exact .inl rfl | exact .inr rfl | assumption) : MG X W (.Name x pos) [i] (gNm i) :=
  PG.imp (pg_name hN hi hx hf) fun v σ H Q h => by
    obtain ⟨g, S, ρ, d, R, rs, r, p⟩ := h
    exact pst.here p R _ (rs.set i r) (wipe_set (List.mem_cons_self))
abbrev FGs := List D → F Sl
def rdGs (K : PySem.W.Frag) (W : XK) (ws : List Nat) (f : FGs) : TGs := fun vs σ H Q => ∃ g S ρ ds, Rep K g S H ∧ RS K g ρ σ ∧ RDs K g ds vs ∧ pst K W g (f ds ρ S) fun g' _ H' ρ' => ∀ σ', RS K g' ρ' σ' → wipe σ' ws = wipe σ ws → Q σ' H'
abbrev MGs (X : Cx) (W : XK) (es : List Expr) (ws : List Nat) (f : FGs) : Prop := PGs X es (rdGs X.K W ws f)
theorem PGs.imp {X : Cx} {e : List Expr} {t t' : TGs} (h : PGs X e t) (i : ∀ vs σ H Q, t' vs σ H Q → t vs σ H Q) : PGs X e t' := ⟨fun pins s σ H vs us Q I r q => h.run pins s σ H vs us Q I r (i vs σ H Q q)⟩
def gsNil : FGs := fun ds ρ S => match ds with
  | [] => .ok ρ S
  | _ :: _ => .no
def gsCons (f : FG) (k : FGs) : FGs := fun ds ρ S => match ds with
  | d :: r => (f d ρ S).bind fun ρ1 S1 => k r ρ1 S1
  | [] => .no
theorem mgs_nil : MGs X W [] [] gsNil := PGs.imp pgs_nil fun vs σ H Q h => by
  obtain ⟨g, S, ρ, ds, R, rs, r, p⟩ := h
  cases r with
  | nil => exact ⟨rfl, pst.here p R σ rs rfl⟩
  | cons _ _ => exact p.elim
theorem mgs_cons {e : Expr} {es : List Expr} {w1 w2 : List Nat} {f : FG} {k : FGs} (h1 : MG X W e w1 f) (h2 : MGs X W es w2 k) (hs : (assignEach (e :: es) X.env).map (·.2) = assign e X.env :: (assignEach es X.env).map (·.2) := by rfl) : MGs X W (e :: es) (w1 ++ w2) (gsCons f k) :=
  PGs.imp (pgs_cons h1 h2 hs) fun vs σ H Q h => by
    obtain ⟨g, S, ρ, ds, R, rs, r, p⟩ := h
    cases r with
    | nil => exact p.elim
    | cons r rr =>
      refine ⟨_, _, rfl, g, S, ρ, _, R, rs, r, (pst.bind (f := fun ρ1 S1 => k _ ρ1 S1) p).mp fun g' S' H' ρ' x R' q σ' rs' off => ?_⟩
      refine ⟨g', S', ρ', _, R', rs', rr.mono x.toExtG, q.mp fun g'' S'' H'' ρ'' x' R'' q' σ'' rs'' off' => q' σ'' rs'' ?_⟩
      obtain ⟨a1, a2⟩ := off_of_wipe off
      obtain ⟨b1, b2⟩ := off_of_wipe off'
      exact wipe_ext (b1.trans a1) fun i hi => (b2 i fun z => hi (List.mem_append_right _ z)).trans (a2 i fun z => hi (List.mem_append_left _ z))
def gTp (n : Nat) (f : FGs) : FG := fun d ρ S => match d with
  | .tup ds => if ds.length = n then f ds ρ S else .no
  | _ => .no
theorem mg_tup {es : List Expr} {kk : Nat} {ws : List Nat} {f : FGs} {n : Nat} {pos : Pos} (hc : X.calm = true) (h : MGs X W es ws f) (hn : (assignEach es X.env).length = n := by rfl) (hst : (assignEach es X.env).findIdx? (·.1) = none := by rfl) : MG X W (.Tuple es kk pos) ws (gTp n f) :=
  PG.imp (pg_tup hc h hn hst) fun v σ H Q h => by
    obtain ⟨g, S, ρ, d, R, rs, r, p⟩ := h
    cases r with
    | tup h1 h2 =>
      rename_i a vs ds
      have p' : pst X.K W g (if ds.length = n then f ds ρ S else Out.no) _ := p
      by_cases hl : ds.length = n
      · rw [if_pos hl] at p'
        exact ⟨a, vs, rfl, sameT R.sub h1, by rw [h2.length]; exact hl, g, S, ρ, ds, R, rs, h2, p'⟩
      · rw [if_neg hl] at p'; exact p'.elim
    | _ => exact p.elim
/-- o[i] = v -/
abbrev B3 := D → D → D → Store → Out Unit
def Set3 (K : PySem.W.Frag) (r : TSet) (op : B3) : Prop := ∀ (W : XK) (g : Gh) (S : Store) (H : Hp) (d1 d2 d3 : D) (o i v : V) (Q : Hp → Prop), Rep K g S H → RD K g d1 o → RD K g d2 i → RD K g d3 v → pst K W g (op d1 d2 d3 S) (fun _ _ H' _ => Q H') → r o i v H Q
def gSb (op : B3) (fo fi : FE) : FG := fun d ρ S => (fo ρ S).bind fun o S1 => (fi ρ S1).bind fun i S2 => (op o i d S2).bind fun _ S3 => .ok ρ S3
theorem mg_sub {o i : Expr} {pos : Pos} {fo fi : FE} {r : TSet} {op : B3} (hs : PSet X r) (hf : Set3 X.K r op) (ho : ME X W o fo) (hi : ME X W i fi)
    (ha : ∀ v, assign (.Subscript o i pos) X.env v = (do
      let ov ← holding [v] (eval o X.env)
      let iv ← holding [v, ov] (eval i X.env)
      standAt pos
      holding [v, ov, iv] (setItem ov iv v)
      release [v, ov, iv] []) := by intro _; rfl) : MG X W (.Subscript o i pos) [] (gSb op fo fi) :=
  PG.imp (pg_sub ho hi hs ha) fun v σ H Q h => by
    obtain ⟨g, S, ρ, d, R, rs, r, p⟩ := h
    refine ⟨g, S, ρ, R, rs, (pst.bind p).mp fun g1 S1 H1 o x1 R1 q1 ov ro => ?_⟩
    refine ⟨g1, S1, ρ, R1, rs.mono x1.toExtG, q1.bind.mp fun g2 S2 H2 i x2 R2 q2 iv ri => ?_⟩
    refine hf W g2 S2 H2 o i d ov iv v _ R2 (ro.mono x2.toExtG) ri ((r.mono x1.toExtG).mono x2.toExtG) (q2.bind.mp fun g3 S3 H3 _ x3 R3 q3 => ?_)
    exact pst.here q3 R3 σ (((rs.mono x1.toExtG).mono x2.toExtG).mono x3.toExtG) rfl

/-! ### statements -/
def fNext : FS := fun ρ S => .ok (.nx ρ) S
def fSeq (a b : FS) : FS := fun ρ S => (a ρ S).bind fun fl S1 => match fl with
  | .nx ρ1 => b ρ1 S1
  | .rt d => .ok (.rt d) S1
  | .bk ρ1 => .ok (.bk ρ1) S1
  | .ct ρ1 => .ok (.ct ρ1) S1
def fRet (f : FE) : FS := fun ρ S => (f ρ S).bind fun d S1 => .ok (.rt d) S1
def fSet (i : Nat) (f : FE) : FS := fun ρ S => (f ρ S).bind fun d S1 => .ok (.nx (ρ.set i (some d))) S1
def fAsg (f : FE) (k : FG) : FS := fun ρ S => (f ρ S).bind fun d S1 => (k d ρ S1).bind fun ρ1 S2 => .ok (.nx ρ1) S2
def fDrop (f : FE) : FS := fun ρ S => (f ρ S).bind fun _ S1 => .ok (.nx ρ) S1
def fBreak : FS := fun ρ S => .ok (.bk ρ) S
def fCont : FS := fun ρ S => .ok (.ct ρ) S
theorem mss_nil : MSs X W [] fNext := PSs.imp pss_nil fun D' σ H h => by
  obtain ⟨g, S, ρ, R, rs, p⟩ := h
  exact pst.here p R σ rs
theorem mss_one {st : Stmt} {f : FS} (h : MS X W st f) : MSs X W [st] f := pss_one h
theorem mss_cons {st : Stmt} {rest : List Stmt} {f k : FS} (h1 : MS X W st f) (h2 : MSs X W rest k) : MSs X W (st :: rest) (fSeq f k) := PSs.imp (pss_cons h1 h2) fun D' σ H h => by
  obtain ⟨g, S, ρ, R, rs, p⟩ := h
  refine ⟨g, S, ρ, R, rs, (pst.bind p).mp fun g1 S1 H1 fl x R1 q => ?_⟩
  cases fl with
  | nx ρ1 => exact fun σ' rs' => ⟨g1, S1, ρ1, R1, rs', q⟩
  | rt d => exact pst.here q R1
  | bk ρ1 => exact pst.here q R1
  | ct ρ1 => exact pst.here q R1
theorem ms_ret {e : Expr} {pos : Pos} {f : FE} (h : ME X W e f) : MS X W (.Return (some e) pos) (fRet f) := PS.imp (ps_ret h) fun D' σ H h => by
  obtain ⟨g, S, ρ, R, rs, p⟩ := h
  exact ⟨g, S, ρ, R, rs, (pst.bind p).mp fun g1 S1 H1 d x R1 q v r => pst.here q R1 v r⟩
theorem ms_retN {pos : Pos} : MS X W (.Return none pos) (fRet (fC .non)) := PS.imp ps_retN fun D' σ H h => by
  obtain ⟨g, S, ρ, R, rs, p⟩ := h
  exact pst.here p R _ .non
theorem ms_pass {pos : Pos} : MS X W (.Pass pos) fNext := PS.imp ps_pass fun D' σ H h => by
  obtain ⟨g, S, ρ, R, rs, p⟩ := h
  exact pst.here p R σ rs
theorem ms_break {pos : Pos} : MS X W (.Break pos) fBreak := PS.imp ps_break fun D' σ H h => by
  obtain ⟨g, S, ρ, R, rs, p⟩ := h
  exact pst.here p R σ rs
theorem ms_cont {pos : Pos} : MS X W (.Continue pos) fCont := PS.imp ps_continue fun D' σ H h => by
  obtain ⟨g, S, ρ, R, rs, p⟩ := h
  exact pst.here p R σ rs
theorem ms_doc {x j pos pos'} : MS X W (.Expr (.Constant (.str x) j pos) pos') fNext := PS.imp ps_doc fun D' σ H h => by
  obtain ⟨g, S, ρ, R, rs, p⟩ := h
  exact pst.here p R σ rs
theorem ms_expr {e : Expr} {pos : Pos} {f : FE} (h : ME X W e f) (hs : swapsWith e none pos.line X.env = pure false := by rfl) : MS X W (.Expr e pos) (fDrop f) := PS.imp (ps_expr h hs) fun D' σ H h => by
  obtain ⟨g, S, ρ, R, rs, p⟩ := h
  exact ⟨g, S, ρ, R, rs, (pst.bind p).mp fun g1 S1 H1 d x R1 q v r => pst.here q R1 σ (rs.mono x.toExtG)⟩
theorem ms_set {i : Nat} {x : Str} {e : Expr} {pos pos' : Pos} {f : FE} (hN : X.N.Nodup) (hi : X.N[i]? = some x) (hx : Loc X.env.scope x) (h : ME X W e f) (hs : swapsWith e (some (.Name x pos')) pos.line X.env = pure false := by rfl) (hf : X.fn x = true ∨ X.env.scope.names.lookup x = some .local := by first | exact .inl rfl | exact .inr rfl | assumption) :
    MS X W (.Assign [.Name x pos'] e pos) (fSet i f) := PS.imp (ps_set hN hi hx h hs hf) fun D' σ H h => by
  obtain ⟨g, S, ρ, R, rs, p⟩ := h
  exact ⟨g, S, ρ, R, rs, (pst.bind p).mp fun g1 S1 H1 d x R1 q v r => pst.here q R1 _ ((rs.mono x.toExtG).set i r)⟩
theorem ms_asg {tg e : Expr} {pos : Pos} {f : FE} {ws : List Nat} {k : FG} (he : ME X W e f) (hg : MG X W tg ws k) (hs : swapsWithSole [tg] e pos.line X.env = pure false := by rfl) (hw : swappedStores [tg] e X.env = pure none := by rfl)
    (h1 : (assignEach [tg] X.env).map (·.2) = [assign tg X.env] := by rfl) : MS X W (.Assign [tg] e pos) (fAsg f k) := PS.imp (ps_asg he hg hs hw h1) fun D' σ H h => by
  obtain ⟨g, S, ρ, R, rs, p⟩ := h
  refine ⟨g, S, ρ, R, rs, (pst.bind p).mp fun g1 S1 H1 d x R1 q v r => ?_⟩
  exact ⟨g1, S1, ρ, d, R1, rs.mono x.toExtG, r, q.bind.mp fun g2 S2 H2 ρ2 x2 R2 q2 σ' rs' _ => pst.here q2 R2 σ' rs'⟩
def fPar (i j : Nat) (a : F (List D)) : FS := fun ρ S => (a ρ S).bind fun ds S1 => match ds with
  | [x, y] => .ok (.nx ((ρ.set i (some x)).set j (some y))) S1
  | _ => .no
def fPar3 (i j l : Nat) (a : F (List D)) : FS := fun ρ S => (a ρ S).bind fun ds S1 => match ds with
  | [x, y, z] => .ok (.nx (((ρ.set i (some x)).set j (some y)).set l (some z))) S1
  | _ => .no
theorem ms_par {i j : Nat} {x y : Str} {a b : Expr} {f : F (List D)} {px py pt pos : Pos} {kt k2 pt2} (hc : X.calm = true) (hN : X.N.Nodup) (hi : X.N[i]? = some x) (hj : X.N[j]? = some y) (hij : i ≠ j)
    (hx : X.env.scope.names.lookup x = some .local) (hy : X.env.scope.names.lookup y = some .local) (ha : MA X W [a, b] f)
    (hw : swappedStores [.Tuple [.Name x px, .Name y py] kt pt] (.Tuple [a, b] k2 pt2) X.env = pure (some [x, y]) := by rfl)
    (hs : swapsWithSole [.Tuple [.Name x px, .Name y py] kt pt] (.Tuple [a, b] k2 pt2) pos.line X.env = pure false := by rfl) :
    MS X W (.Assign [.Tuple [.Name x px, .Name y py] kt pt] (.Tuple [a, b] k2 pt2) pos) (fPar i j f) := PS.imp (ps_par hc hN hi hj hij hx hy ha hw hs) fun D' σ H h => by
  obtain ⟨g, S, ρ, R, rs, p⟩ := h
  refine ⟨g, S, ρ, R, rs, (pst.bind p).mp fun g1 S1 H1 ds x R1 q vs r => ?_⟩
  cases r with
  | nil => exact q.elim
  | cons r1 r =>
    cases r with
    | nil => exact q.elim
    | cons r2 r =>
      cases r with
      | nil => exact ⟨_, _, rfl, pst.here q R1 _ (((rs.mono x.toExtG).set i r1).set j r2)⟩
      | cons _ _ => exact q.elim
theorem ms_par3 {i j l : Nat} {x y z : Str} {a b c : Expr} {f : F (List D)} {px py pz pt pos : Pos} {kt k2 pt2} (hc : X.calm = true) (hN : X.N.Nodup) (hi : X.N[i]? = some x) (hj : X.N[j]? = some y) (hl : X.N[l]? = some z) (hij : i ≠ j) (hil : i ≠ l) (hjl : j ≠ l)
    (hx : X.env.scope.names.lookup x = some .local) (hy : X.env.scope.names.lookup y = some .local) (hz : X.env.scope.names.lookup z = some .local) (ha : MA X W [a, b, c] f)
    (hw : swappedStores [.Tuple [.Name x px, .Name y py, .Name z pz] kt pt] (.Tuple [a, b, c] k2 pt2) X.env = pure (some [x, y, z]) := by rfl)
    (hs : swapsWithSole [.Tuple [.Name x px, .Name y py, .Name z pz] kt pt] (.Tuple [a, b, c] k2 pt2) pos.line X.env = pure false := by rfl) :
    MS X W (.Assign [.Tuple [.Name x px, .Name y py, .Name z pz] kt pt] (.Tuple [a, b, c] k2 pt2) pos) (fPar3 i j l f) := PS.imp (ps_par3 hc hN hi hj hl hij hil hjl hx hy hz ha hw hs) fun D' σ H h => by
  obtain ⟨g, S, ρ, R, rs, p⟩ := h
  refine ⟨g, S, ρ, R, rs, (pst.bind p).mp fun g1 S1 H1 ds x R1 q vs r => ?_⟩
  cases r with
  | nil => exact q.elim
  | cons r1 r =>
    cases r with
    | nil => exact q.elim
    | cons r2 r =>
      cases r with
      | nil => exact q.elim
      | cons r3 r =>
        cases r with
        | nil => exact ⟨_, _, _, rfl, pst.here q R1 _ ((((rs.mono x.toExtG).set i r1).set j r2).set l r3)⟩
        | cons _ _ => exact q.elim
def fAug (i : Nat) (op : B2) (f : FE) : FS := fun ρ S => (fVar i ρ S).bind fun x S0 => (f ρ S0).bind fun y S1 => (op x y S1).bind fun z S2 => .ok (.nx (ρ.set i (some z))) S2
theorem ms_aug {i : Nat} {x : Str} {e : Expr} {pos pos' : Pos} {op : Operator} {ti : TIp} {o : B2} {f : FE} (hN : X.N.Nodup) (hi : X.N[i]? = some x) (hx : Loc X.env.scope x) (ho : PIp X op ti) (hfo : Op2 X.K ti o) (h : ME X W e f) (hf : X.fn x = true ∨ X.env.scope.names.lookup x = some .local := by first | exact .inl rfl | exact .inr rfl | assumption) :
    MS X W (.AugAssign (.Name x pos') op e pos) (fAug i o f) := PS.imp (ps_aug hN hi hx h ho hf) fun D' σ H h => by
  obtain ⟨g, S, ρ, R, rs, p⟩ := h
  unfold fAug fVar at p
  cases e1 : ρ[i]? with
  | none => rw [e1] at p; exact p.elim
  | some od =>
    cases od with
    | none => rw [e1] at p; exact p.elim
    | some d =>
      rw [e1] at p
      obtain ⟨v, h1, h2⟩ := rs.at_ i d e1
      refine ⟨v, h1, g, S, ρ, R, rs, (pst.bind (o := f ρ S) p).mp fun g1 S1 H1 dy x1 R1 q1 y ry => ?_⟩
      refine hfo W g1 S1 H1 d dy v y _ R1 (h2.mono x1.toExtG) ry (q1.bind.mp fun g2 S2 H2 dz x2 R2 q2 z rz => ?_)
      exact pst.here q2 R2 _ (((rs.mono x1.toExtG).mono x2.toExtG).set i rz)
def fAugS (get : B2) (op : B2) (st : B3) (fo fi f : FE) : FS := fun ρ S => (fo ρ S).bind fun o S1 => (fi ρ S1).bind fun i S2 => (get o i S2).bind fun x S3 => (f ρ S3).bind fun y S4 => (op x y S4).bind fun z S5 => (st o i z S5).bind fun _ S6 => .ok (.nx ρ) S6
theorem ms_augS {o i e : Expr} {pos tpos : Pos} {op : Operator} {tget : V → V → Hp → VK → Prop} {tip : TIp} {tset : TSet} {bg bo : B2} {bs : B3} {fo fi f : FE} (hg : PGet X tget) (hgf : Op2 X.K tget bg) (hp : PIp X op tip) (hpf : Op2 X.K tip bo) (hs : PSet X tset) (hsf : Set3 X.K tset bs)
    (ho : ME X W o fo) (hi : ME X W i fi) (he : ME X W e f)
    (ha : ∀ ov iv new, augStore i ov iv new = (do holding [new, ov, iv] (setItem ov iv new); release [new, ov, iv] []; pure .next) := by intros; rfl) : MS X W (.AugAssign (.Subscript o i tpos) op e pos) (fAugS bg bo bs fo fi f) := PS.imp (ps_augS ho hi hg he hp hs ha) fun D' σ H h => by
  obtain ⟨g, S, ρ, R, rs, p⟩ := h
  refine ⟨g, S, ρ, R, rs, (pst.bind p).mp fun g1 S1 H1 d1 x1 R1 q1 v1 r1 => ?_⟩
  have rs1 := rs.mono x1.toExtG
  refine ⟨g1, S1, ρ, R1, rs1, q1.bind.mp fun g2 S2 H2 d2 x2 R2 q2 v2 r2 => ?_⟩
  have rs2 := rs1.mono x2.toExtG
  have r1 := r1.mono x2.toExtG
  refine hgf W g2 S2 H2 d1 d2 v1 v2 _ R2 r1 r2 (q2.bind.mp fun g3 S3 H3 d3 x3 R3 q3 v3 r3 => ?_)
  have rs3 := rs2.mono x3.toExtG
  have r1 := r1.mono x3.toExtG
  have r2 := r2.mono x3.toExtG
  refine ⟨g3, S3, ρ, R3, rs3, q3.bind.mp fun g4 S4 H4 d4 x4 R4 q4 v4 r4 => ?_⟩
  have rs4 := rs3.mono x4.toExtG
  have r1 := r1.mono x4.toExtG
  have r2 := r2.mono x4.toExtG
  have r3 := r3.mono x4.toExtG
  refine hpf W g4 S4 H4 d3 d4 v3 v4 _ R4 r3 r4 (q4.bind.mp fun g5 S5 H5 d5 x5 R5 q5 v5 r5 => ?_)
  have rs5 := rs4.mono x5.toExtG
  have r1 := r1.mono x5.toExtG
  have r2 := r2.mono x5.toExtG
  refine hsf W g5 S5 H5 d1 d2 d5 v1 v2 v5 _ R5 r1 r2 r5 (q5.bind.mp fun g6 S6 H6 _ x6 R6 q6 => ?_)
  exact pst.here q6 R6 _ (rs5.mono x6.toExtG)
theorem ms_if {c : Expr} {a b : List Stmt} {pos : Pos} {fc : F Bool} {fa fb : FS} (hc : MT X W c fc) (ha : MSs X W a fa) (hb : MSs X W b fb) : MS X W (.If c a b pos) (fIf fc fa fb) := PS.imp (ps_if hc ha hb) fun D' σ H h => by
  refine rd.then (k := fun t ρ S1 => if t = true then fa ρ S1 else fb ρ S1) h fun g S H' ρ d R rs p => ?_
  cases d with
  | true => exact ⟨g, S, ρ, R, rs, p⟩
  | false => exact ⟨g, S, ρ, R, rs, p⟩

/-! ### loops -/
def whileF (c : F Bool) (b : FS) : Nat → FS
  | 0 => fun _ _ => .no
  | n + 1 => fun ρ S => (c ρ S).bind fun t S1 => if t = true then (b ρ S1).bind fun fl S2 => match fl with
      | .nx ρ2 => whileF c b n ρ2 S2
      | .ct ρ2 => whileF c b n ρ2 S2
      | .bk ρ2 => .ok (.nx ρ2) S2
      | .rt d => .ok (.rt d) S2
    else .ok (.nx ρ) S1
theorem ms_while (n : Nat) {c : Expr} {body : List Stmt} {pos : Pos} {fc : F Bool} {fb : FS} (hp : PassesOwn (model X.prog X.w) X.A X.env X.xe) (hc : MT X W c fc) (hb : MSs X W body fb) : MS X W (.While c body [] pos) (whileF fc fb n) := PS.imp (ps_while hp hc hb) fun D' σ H h => by
  refine ⟨fun m σ H => rd X.K W (whileF fc fb m) σ H fun g _ H' fl => fl.post X.K D' g H', ⟨n, h⟩, fun m σ H h => ?_⟩
  cases m with
  | zero =>
    obtain ⟨g, S, ρ, R, rs, p⟩ := h
    exact p.elim
  | succ m =>
    obtain ⟨g, S, ρ, R, rs, p⟩ := h
    refine ⟨g, S, ρ, R, rs, (pst.bind p).mp fun g1 S1 H1 t x R1 q => ?_⟩
    have rs1 := rs.mono x.toExtG
    cases t with
    | false => exact pst.here q R1 σ rs1
    | true =>
      refine ⟨fun σ' H' => rd X.K W (whileF fc fb m) σ' H' fun g _ H' fl => fl.post X.K D' g H', fun σ' H' h => ⟨m, Nat.lt_succ_self m, h⟩, ?_⟩
      refine ⟨g1, S1, ρ, R1, rs1, (pst.bind (o := fb ρ S1) q).mp fun g2 S2 H2 fl x2 R2 q2 => ?_⟩
      cases fl with
      | nx ρ2 => exact fun σ' rs' => ⟨g2, S2, ρ2, R2, rs', q2⟩
      | ct ρ2 => exact fun σ' rs' => ⟨g2, S2, ρ2, R2, rs', q2⟩
      | bk ρ2 => exact fun σ' rs' => pst.here q2 R2 σ' rs'
      | rt d => exact pst.here q2 R2
def forF (k : FG) (b : FS) : List D → FS
  | [] => fun ρ S => .ok (.nx ρ) S
  | d :: ds => fun ρ S => (k d ρ S).bind fun ρ1 S1 => (b ρ1 S1).bind fun fl S2 => match fl with
      | .nx ρ2 => forF k b ds ρ2 S2
      | .ct ρ2 => forF k b ds ρ2 S2
      | .bk ρ2 => .ok (.nx ρ2) S2
      | .rt d => .ok (.rt d) S2
def fFor (it : F (List D)) (k : FG) (b : FS) : FS := fun ρ S => (it ρ S).bind fun ds S1 => forF k b ds ρ S1
theorem ms_for {tg iter : Expr} {body : List Stmt} {pos : Pos} {fi : F (List D)} {k : FG} {ws : List Nat} {fb : FS} (hp : PassesOwn (model X.prog X.w) X.A X.env X.xe) (hc : X.calm = true) (hi : MI X W tg iter fi) (hg : MG X W tg ws k) (hb : MSs X W body fb)
    (hs : ∀ x, foldedSetIterable iter X.env x = pure x := by intro _; rfl) : MS X W (.For tg iter body [] pos) (fFor fi k fb) := PS.imp (ps_for hp hc hi hg hb hs) fun D' σ H h => by
  obtain ⟨g0, S0, ρ0, R0, rs0, p0⟩ := h
  refine ⟨g0, S0, ρ0, R0, rs0, (pst.bind p0).mp fun g1 S1 H1 ds x1 R1 p1 J hJ => ?_⟩
  refine ⟨fun i m σ H => i + m = ds.length ∧ ∃ g S ρ, Ext g1 g ∧ Rep X.K g S H ∧ RS X.K g ρ σ ∧ pst X.K W g (forF k fb (ds.drop i) ρ S) fun g _ H' fl => fl.post X.K D' g H', ⟨ds.length, by omega, g1, S1, ρ0, .refl _, R1, rs0.mono x1.toExtG, p1⟩, ?_⟩
  rintro i m σ H ⟨hm, g, S, ρ, x, R, rs, p⟩
  obtain ⟨stop, item⟩ := hJ g S H x.toExtG R
  by_cases hi : i < ds.length
  · have ed : ds[i]? = some ds[i] := List.getElem?_eq_getElem hi
    obtain ⟨go, yl⟩ := item i ds[i] ed
    rw [List.drop_eq_getElem_cons hi] at p
    refine .inr ⟨go, fun σ' H' => ∃ g S ρ, Ext g1 g ∧ Rep X.K g S H' ∧ RS X.K g ρ σ' ∧ pst X.K W g (forF k fb (ds.drop (i + 1)) ρ S) fun g _ H' fl => fl.post X.K D' g H', fun σ' H' h => ⟨m - 1, by omega, by omega, h⟩, fun v H' y => ?_⟩
    obtain ⟨g2, x2, R2, r2⟩ := yl v H' y
    refine ⟨g2, S, ρ, ds[i], R2, rs.mono x2.toExtG, r2, (pst.bind (p.ext x2)).mp fun g3 S3 H3 ρ3 x3 R3 q3 σ3 rs3 _ => ?_⟩
    refine ⟨g3, S3, ρ3, R3, rs3, q3.bind.mp fun g4 S4 H4 fl x4 R4 q4 => ?_⟩
    cases fl with
    | nx ρ4 => exact fun σ' rs' => ⟨g4, S4, ρ4, ((x.trans x2).trans x3).trans x4, R4, rs', q4⟩
    | ct ρ4 => exact fun σ' rs' => ⟨g4, S4, ρ4, ((x.trans x2).trans x3).trans x4, R4, rs', q4⟩
    | bk ρ4 => exact fun σ' rs' => pst.here q4 R4 σ' rs'
    | rt d => exact pst.here q4 R4
  · have e : i = ds.length := by omega
    subst e
    rw [List.drop_length] at p
    exact .inl ⟨stop, pst.here p R σ rs⟩

/-! ### comprehensions -/
def Out.noex {α : Type} : Out α → Out α
  | .ok a S => .ok a S
  | _ => .no
abbrev E00 : XK := fun _ _ _ => False
def compF (k : FG) (t : F Bool) (e : FE) (ρ : Sl) : List D → Store → Out (List D)
  | [], S => .ok [] S
  | d :: ds, S => (k d ρ S).noex.bind fun ρ1 S1 => (t ρ1 S1).noex.bind fun b S2 => if b = true then (e ρ1 S2).noex.bind fun y S3 => (compF k t e ρ ds S3).bind fun ys S4 => .ok (y :: ys) S4 else compF k t e ρ ds S2
theorem Out.noex_ok {α : Type} {o : Out α} {β : Type} {f : α → Store → Out β} {b : β} {S : Store} (h : o.noex.bind f = .ok b S) : ∃ a S1, o = .ok a S1 ∧ f a S1 = .ok b S := by
  cases o with
  | ok a S1 => exact ⟨a, S1, rfl, h⟩
  | ex _ _ => cases h
  | no => cases h
theorem Out.bind_eq_ok {α : Type} {o : Out α} {β : Type} {f : α → Store → Out β} {b : β} {S : Store} (h : o.bind f = .ok b S) : ∃ a S1, o = .ok a S1 ∧ f a S1 = .ok b S := by
  cases o with
  | ok a S1 => exact ⟨a, S1, rfl, h⟩
  | ex _ _ => cases h
  | no => cases h
def NotEx {α : Type} (o : Out α) : Prop := ∀ e S, o ≠ .ex e S
theorem notEx_noex {α β : Type} {o : Out α} {f : α → Store → Out β} (h : ∀ a S, NotEx (f a S)) : NotEx (o.noex.bind f) := by
  cases o with
  | ok a S => exact h a S
  | ex _ _ => exact fun _ _ z => nomatch z
  | no => exact fun _ _ z => nomatch z
theorem notEx_bind {α β : Type} {o : Out α} {f : α → Store → Out β} (ho : NotEx o) (h : ∀ a S, NotEx (f a S)) : NotEx (o.bind f) := by
  cases o with
  | ok a S => exact h a S
  | ex e S => exact absurd rfl (ho e S)
  | no => exact fun _ _ z => nomatch z
theorem notEx_ok {α : Type} {a : α} {S : Store} : NotEx (Out.ok a S) := fun _ _ z => nomatch z
theorem notEx_no {α : Type} : NotEx (Out.no : Out α) := fun _ _ z => nomatch z
theorem compF_notEx {k : FG} {t : F Bool} {e : FE} {ρ : Sl} : ∀ (ds : List D) (S : Store), NotEx (compF k t e ρ ds S)
  | [], S => notEx_ok
  | d :: ds, S => notEx_noex fun ρ1 S1 => notEx_noex fun b S2 => by
    cases b with
    | false => exact compF_notEx ds S2
    | true => exact notEx_noex fun y S3 => notEx_bind (compF_notEx ds S3) fun _ _ => notEx_ok
theorem compF_noex {k : FG} {t : F Bool} {e : FE} {ρ : Sl} (ds : List D) (S : Store) : (∃ ys S', compF k t e ρ ds S = .ok ys S') ∨ compF k t e ρ ds S = .no := by
  have h := compF_notEx (k := k) (t := t) (e := e) (ρ := ρ) ds S
  cases q : compF k t e ρ ds S with
  | ok a S' => exact .inl ⟨a, S', rfl⟩
  | ex e' S' => rw [q] at h; exact absurd rfl (h e' S')
  | no => exact .inr rfl
def fLc (vs : List Nat) (it : F (List D)) (k : FG) (t : F Bool) (e : FE) : FE := fun ρ S => (it ρ S).bind fun ds S1 => if ds.length ≤ line then (compF k t e (wipeD ρ vs) ds S1).bind fun ys S2 => .ok (.lst ys) S2 else .no
def fYes : F Bool := fC true
theorem mts_nil : PTs X [] (rdT X.K W fYes) := PTs.imp pts_nil fun σ H Q h => by
  obtain ⟨g, S, ρ, R, rs, p⟩ := h
  exact pst.here p R
theorem mts_one {c : Expr} {f : F Bool} (h : MT X W c f) : PTs X [c] (rdT X.K W f) := pts_one h
/-- the heart of it -/
theorem lc_read {vs ws : List Nat} {fi : F (List D)} {k : FG} {ft : F Bool} {fe : FE} (hws : ∀ i ∈ ws, i ∈ vs) {σ : L2.St} {H : Hp} {C : Gh → Store → Hp → D → Prop} {Q : VK}
    (hC : ∀ g S H d, Rep K g S H → C g S H d → ∀ v, RD K g d v → Q v H)
    (h : rd K W (fLc vs fi k ft fe) σ H C) : tLc (rdI K W fi) (rdG K E00 ws k) (rdT K E00 ft) (rdE K E00 fe) vs σ H Q := by
  obtain ⟨g0, S0, ρ0, R0, rs0, p0⟩ := h
  refine ⟨g0, S0, ρ0, R0, rs0, (pst.bind p0).mp fun g1 S1 H1 ds x1 R1 p1 J hJ A hA => ?_⟩
  have rs1 := (rs0.mono x1.toExtG).wipe vs
  by_cases hlen : ds.length ≤ line
  · rw [if_pos hlen] at p1
    rcases compF_noex (k := k) (t := ft) (e := fe) (ρ := wipeD ρ0 vs) ds S1 with ⟨zs, S9, e9⟩ | e9
    · rw [e9] at p1
      have p2 : ∀ g' H', Ext g1 g' → Rep K g' S9 H' → C g' S9 H' (.lst zs) := p1
      have hF1 : ∀ a u, g1.F a = some u → a ≠ A := fun a u e => by
        have := (R1.frm a u e).1
        exact ne_of_none this hA
      refine ⟨fun i m H => i + m = ds.length ∧ ∃ g S acc us ys, ExtG g1 g ∧ g.F = upd g1.F A (.lst us) ∧ Rep K g S H ∧ RDs K g acc us ∧ acc.length ≤ i ∧ compF k ft fe (wipeD ρ0 vs) (ds.drop i) S = .ok ys S9 ∧ zs = acc ++ ys,
        ⟨ds.length, by omega, g1.aside A (.lst []), S1, [], [], zs, ⟨Same.refl _, Nat.le_refl _, fun _ _ => rfl⟩, rfl, R1.aside hA, .nil, Nat.le_refl _, e9, rfl⟩, ?_⟩
      rintro i m H ⟨hm, g, S, acc, us, ys, x, hF, R, ra, hacc, ec, ez⟩
      obtain ⟨stop, item⟩ := hJ g S H x R
      by_cases hi : i < ds.length
      · have ed : ds[i]? = some ds[i] := List.getElem?_eq_getElem hi
        obtain ⟨go, yl⟩ := item i ds[i] ed
        rw [List.drop_eq_getElem_cons hi] at ec
        obtain ⟨ρa, Sa, ea, ec⟩ := Out.noex_ok ec
        obtain ⟨b, Sb, eb, ec⟩ := Out.noex_ok ec
        refine .inr ⟨go, fun H' => ∃ g S acc us ys, ExtG g1 g ∧ g.F = upd g1.F A (.lst us) ∧ Rep K g S H' ∧ RDs K g acc us ∧ acc.length ≤ i + 1 ∧ compF k ft fe (wipeD ρ0 vs) (ds.drop (i + 1)) S = .ok ys S9 ∧ zs = acc ++ ys, fun H' h => ⟨m - 1, by omega, by omega, h⟩, fun v H' y => ?_⟩
        obtain ⟨g2, x2, R2, r2⟩ := yl v H' y
        have xx := x.trans x2.toExtG
        refine ⟨g2, S, wipeD ρ0 vs, ds[i], R2, rs1.mono xx, r2, ?_⟩
        rw [ea]
        intro g3 H3 x3 R3 σ3 rs3 off
        obtain ⟨o1, o2⟩ := off_of_wipe off
        refine ⟨?_, ?_⟩
        · refine wipe_ext (o1.trans (wipe_length _ _)) fun j hj => ?_
          rw [o2 j fun z => hj (hws j z), wipe_keep hj]
        refine ⟨g3, Sa, ρa, R3, rs3, ?_⟩
        rw [eb]
        intro g4 H4 x4 R4
        have hF4 : g4.F = upd g1.F A (.lst us) := x4.F.trans (x3.F.trans (x2.F.trans hF))
        have xx4 := (xx.trans x3.toExtG).trans x4.toExtG
        cases b with
        | false => exact ⟨g4, Sb, acc, us, ys, xx4, hF4, R4, ra.mono ((x2.toExtG.trans x3.toExtG).trans x4.toExtG), by omega, ec, ez⟩
        | true =>
          obtain ⟨dy, Sc, ey, ec⟩ := Out.noex_ok ec
          obtain ⟨yt, Sd, ey2, ec⟩ := Out.bind_eq_ok ec
          cases ec
          refine ⟨g4, Sb, ρa, R4, rs3.mono x4.toExtG, ?_⟩
          rw [ey]
          intro g5 H5 x5 R5 vy ry
          have hF5 : g5.F = upd g1.F A (.lst us) := x5.F.trans hF4
          have hFA : g5.F A = some (.lst us) := by rw [hF5, upd_same]
          refine ⟨us, (R5.frm A _ hFA).1, ?_, ?_⟩
          · have := ra.length
            rw [line_eq] at hlen
            omega
          · have x6 : ExtG g5 (g5.aside A (.lst (us ++ [vy]))) := ⟨Same.refl _, Nat.le_refl _, fun _ _ => rfl⟩
            have x56 := x5.toExtG.trans x6
            refine ⟨g5.aside A (.lst (us ++ [vy])), Sc, acc ++ [dy], us ++ [vy], yt, xx4.trans x56, ?_, R5.again hFA, ?_, ?_, ey2, ?_⟩
            · show upd g5.F A _ = _
              rw [hF5, upd_upd]
            · exact (ra.mono (((x2.toExtG.trans x3.toExtG).trans x4.toExtG).trans x56)).append (.cons (ry.mono x6) .nil)
            · rw [List.length_append]
              exact Nat.succ_le_succ hacc
            · rw [ez, List.append_assoc]; rfl
      · have e : i = ds.length := by omega
        subst e
        rw [List.drop_length] at ec
        cases ec
        rw [List.append_nil] at ez
        subst ez
        have hFA : g.F A = some (.lst us) := by rw [hF, upd_same]
        obtain ⟨R', x'⟩ := R.settle (F := g1.F) hFA fun a u e => ⟨by rw [hF, upd_ne (hF1 a u e)]; exact e, hF1 a u e⟩
        refine .inl ⟨stop, hC _ _ _ _ R' (p2 _ H ⟨x.trans x', rfl⟩ R') _ ?_⟩
        exact .lst upd_same (ra.mono x')
    · rw [e9] at p1; exact p1.elim
  · rw [if_neg hlen] at p1; exact p1.elim
theorem me_lc {elt tg iter : Expr} {ifs : List Expr} {scope : Scope} {own : List (Str × Nat)} {pos : Pos} {fi : F (List D)} {ws : List Nat} {k : FG} {ft : F Bool} {fe : FE} (hc : X.calm = true) (hN : X.N.Nodup) (ok : BlkOk X.N X.env.scope scope own) (hws : ∀ i ∈ ws, i ∈ own.map (·.2)) (hi : MI X W tg iter fi)
    (hg : ∀ (s : Shared) (H : Hp) (C : Addr) (cl : List (Str × Addr)) (fp : List Addr), MG (X.blk s H scope (compEnvC scope cl C X.env) fp) E00 tg ws k) (ht : ∀ (s : Shared) (H : Hp) (C : Addr) (cl : List (Str × Addr)) (fp : List Addr), PTs (X.blk s H scope (compEnvC scope cl C X.env) fp) ifs (rdT X.K E00 ft))
    (he : ∀ (s : Shared) (H : Hp) (C : Addr) (cl : List (Str × Addr)) (fp : List Addr), ME (X.blk s H scope (compEnvC scope cl C X.env) fp) E00 elt fe) (hs : ∀ x, foldedSetIterable iter X.env x = pure x := by intro _; rfl) :
    ME X W (.ListComp elt [⟨tg, iter, ifs, 0⟩] scope pos) (fLc (own.map (·.2)) fi k ft fe) :=
  PE.imp (pe_lc hc hN hi ok hg ht he hs) fun σ H Q h => lc_read hws (fun g S H d R c v r => c v r) h
theorem ms_setLc {i : Nat} {y : Str} {py : Pos} {elt tg iter : Expr} {ifs : List Expr} {scope : Scope} {own : List (Str × Nat)} {pos spos : Pos} {fi : F (List D)} {ws : List Nat} {k : FG} {ft : F Bool} {fe : FE} (hc : X.calm = true) (hN : X.N.Nodup) (hy : X.N[i]? = some y) (hyl : X.env.scope.names.lookup y = some .local)
    (hsw : swapsWith (.ListComp elt [⟨tg, iter, ifs, 0⟩] scope pos) (some (.Name y py)) spos.line X.env = pure true) (ok : BlkOk X.N X.env.scope scope own) (hws : ∀ i ∈ ws, i ∈ own.map (·.2)) (hi : MI X W tg iter fi)
    (hg : ∀ (s : Shared) (H : Hp) (C : Addr) (cl : List (Str × Addr)) (fp : List Addr), MG (X.blk s H scope (compEnvC scope cl C X.env) fp) E00 tg ws k) (ht : ∀ (s : Shared) (H : Hp) (C : Addr) (cl : List (Str × Addr)) (fp : List Addr), PTs (X.blk s H scope (compEnvC scope cl C X.env) fp) ifs (rdT X.K E00 ft))
    (he : ∀ (s : Shared) (H : Hp) (C : Addr) (cl : List (Str × Addr)) (fp : List Addr), ME (X.blk s H scope (compEnvC scope cl C X.env) fp) E00 elt fe) (hs : ∀ x, foldedSetIterable iter X.env x = pure x := by intro _; rfl) :
    MS X W (.Assign [.Name y py] (.ListComp elt [⟨tg, iter, ifs, 0⟩] scope pos) spos) (fSet i (fLc (own.map (·.2)) fi k ft fe)) :=
  PS.imp (ps_setLc hc hN hy hyl hsw hi ok hg ht he hs) fun D' σ H h => by
    obtain ⟨g, S, ρ, R, rs, p⟩ := h
    refine lc_read (C := fun g _ H' d => ∀ v, RD X.K g d v → gName i v σ H' D'.nx) hws (fun g S H d R c v r => c v r) ⟨g, S, ρ, R, rs, (pst.bind p).mp fun g1 S1 H1 d x R1 q v r => ?_⟩
    exact pst.here q R1 _ ((rs.mono x.toExtG).set i r)

/-! ### calls of own defs -/
theorem me_call {CX : CXT} {k n : Nat} {f : Addr} {fd : FuncData} {ps : List Str} {F : List D → Store → Out D} {x : Str} {p pos : Pos} {e : Expr} {es : List Expr} {a : MK.F (List D)}
    (gd : X.A.guards = some []) (G : FnG X.prog X.w X.K X.mg X.base CX k f fd ps (spM X.K n F)) (hr : Room k X.A) (hg : Gl X x) (hm : X.mg x = some (.ref f)) (hk : PySem.W.keepIn X.K (.ref f) = true) (hb : Binds X.K fd ps []) (hx : Passes CX X W)
    (ha : MA X W (e :: es) a) (hn : Many n a) (hdb : (x == ("__debug__" : Str)) = false := by decide) (he : starEach (e :: es) X.env = (false, eval e X.env) :: starEach es X.env := by rfl) (hpl : (backTo pos (starEach es X.env)).any (·.1) = false := by rfl) : ME X W (.Call (.Name x p) (e :: es) [] pos) (fCall F a) :=
  PE.imp (peG_call G gd hr hg hm hk hb hx ha hdb he hpl) fun σ H Q h => by
    obtain ⟨g, S, ρ, R, rs, q⟩ := h
    refine ⟨g, S, ρ, R, rs, q.bind.same.mp fun g' S' H' ds x R' ⟨e1, q⟩ vs rvs => ?_⟩
    show spM X.K n F vs H' Q W
    exact ⟨by rw [rvs.length]; exact hn _ _ _ _ e1, g', S', ds, R', rvs, q⟩
theorem me_call0 {CX : CXT} {k : Nat} {f : Addr} {fd : FuncData} {ps : List Str} {F : List D → Store → Out D} {x : Str} {p pos : Pos}
    (gd : X.A.guards = some []) (G : FnG X.prog X.w X.K X.mg X.base CX k f fd ps (spM X.K 0 F)) (hr : Room k X.A) (hg : Gl X x) (hm : X.mg x = some (.ref f)) (hk : PySem.W.keepIn X.K (.ref f) = true) (hb : Binds X.K fd ps []) (hx : Passes CX X W)
    (hdb : (x == ("__debug__" : Str)) = false := by decide) : ME X W (.Call (.Name x p) [] [] pos) (fCall F fNil) :=
  PE.imp (peG_call0 G gd hr hg hm hk hb hx hdb) fun σ H Q h => by
    obtain ⟨g, S, ρ, R, rs, q⟩ := h
    exact ⟨rfl, g, S, [], R, .nil, q⟩

/-! ### a def -/
def runB (N : Nat) (f : FS) : List D → Store → Out D := fun ds S => (f (ds.map some ++ List.replicate (N - ds.length) none) S).noex.bind fun fl S1 => match fl with
  | .nx _ => .ok .non S1
  | .rt d => .ok d S1
  | _ => .no
theorem RS.start {g : Gh} {N : List Str} {ds : List D} {vs : List V} (h : RDs K g ds vs) : RS K g (ds.map some ++ List.replicate (N.length - ds.length) none) (L2.start N vs) := by
  have hl := h.length
  refine ⟨by unfold L2.start; simp [hl], fun i d e => ?_⟩
  unfold L2.start
  by_cases hi : i < ds.length
  · rw [List.getElem?_append_left (by simpa using hi), List.getElem?_map] at e
    cases e2 : ds[i]? with
    | none => rw [e2] at e; cases e
    | some d' =>
      rw [e2] at e
      cases e
      obtain ⟨v, h1, h2⟩ := h.get e2
      refine ⟨v, ?_, h2⟩
      rw [List.getElem?_append_left (by simp; omega), List.getElem?_map, h1]
      rfl
  · rw [List.getElem?_append_right (by simpa using hi)] at e
    rw [List.getElem?_replicate] at e
    split at e <;> cases e
theorem fn_mk {P : Program} {w : World} {K : PySem.W.Frag} {mg : Str → Option Value} {base : Heap} {x qual : Str} {st : Stmt} {f : Addr} {fd : FuncData} {N ps : List Str} {k : Nat} {fb : FS} (Fu : Fun K x qual st f fd) (Sc : FnScope N ps (defScope st))
    (h : ∀ (cdv : Value) (A : Around) (outer : List Env) (s : Shared) (H : Hp) (E : XK), A.guards = some [] → Room k (A.deeper (envOfC qual (defScope st) s.heap.objs.size f cdv)) → MSs (cxOf CX0 P w K mg base N qual (defScope st) f cdv A outer s H E).nox E00 (defBody st) fb) :
    FnG P w K mg base CX0 (k + 1) f fd ps (spM K ps.length (runB N.length fb)) := by
  refine FnG.of Fu Sc (fun vs H Q E h => h.1) fun cdv A outer s H vs Q E gd hr hsp => ?_
  obtain ⟨_, g, S, ds, R, r, p⟩ := hsp
  refine ⟨_, (h cdv A outer s H E gd hr).nox, g, S, _, R, RS.start r, ?_⟩
  unfold runB at p
  cases e : fb (ds.map some ++ List.replicate (N.length - ds.length) none) S with
  | no => rw [e] at p; exact p.elim
  | ex e' S' => rw [e] at p; exact p.elim
  | ok fl S' =>
    rw [e] at p
    cases fl with
    | nx ρ => exact fun g' H' x R' σ' rs' => p g' H' x R' _ .non
    | rt d => exact fun g' H' x R' v rv => p g' H' x R' v rv
    | bk ρ => exact p.elim
    | ct ρ => exact p.elim
end
end MK

namespace MK
open PySem PySem.Spec PyProof.Rows L2

/-! ### enumerate(v), v a tuple: in the model's words -/
theorem meets_enum_one {v : Value} {o : Obj} {H : Heap → Prop} (B : Begins v o H) :
    Meets (Builtin.«enumerate.__new__» ⟨[.type "enumerate", v], []⟩) fun _ R s => H s.heap ∧
      R (.ok (.ret (.ref (s.heap.push o).objs.size)))
        { s with heap := (s.heap.push o).push { cls := .type "enumerate", data := .fields #[.none, .bool false, .ref s.heap.objs.size, rawInt 0, .none, .none] } } :=
  .of_wp fun prog w A R s h => by
    obtain ⟨hp, g, d, tk, os⟩ := s
    obtain ⟨h1, h⟩ := h
    have sub := sub_enumerate
    have begin_ : ∀ {A' : Around} {E : Value → Shared → Prop} {Q : Value → Shared → Prop}, Q (.ref hp.objs.size) ⟨hp.push o, g, d, tk, os⟩ →
        wpAny (model prog w) A' (pyIter v) Q E ⟨hp, g, d, tk, os⟩ := fun q => B.iter prog w _ _ ⟨hp, g, d, tk, os⟩ _ h1 q
    wp_walk using begin_
    refine wpAny_stack_any fun st => wpAny_pure ?_
    split
    · rename_i c _ _ _ _ _
      cases (c == Value.type "enumerate")
      all_goals
        wp_walk using begin_
        exact ⟨_, rfl, h⟩
    · wp_walk using begin_
      exact ⟨_, rfl, h⟩
theorem call_enum_one {prog : Program} {w : World} {A : Around} {E : Value → Shared → Prop} {s : Shared} {v : Value} {o : Obj} {H : Heap → Prop} {Q : Value → Shared → Prop}
    (B : Begins v o H) (h1 : H s.heap)
    (h : ∀ h', IsEnum h' (s.heap.objs.size + 1) s.heap.objs.size 0 .none → h'.get? s.heap.objs.size = some o →
      (∀ b u, s.heap.get? b = some u → h'.get? b = some u) → Q (.ref (s.heap.objs.size + 1)) { s with heap := h' }) :
    wpAny (model prog w) A (call (.type "enumerate") [v]) Q E s := by
  have size1 : (s.heap.push o).objs.size = s.heap.objs.size + 1 := Heap.size_push ..
  refine callType_new F.called_enumerate (by decide) (F.typeCall_enumerate_1 _) (F.newCall_enumerate_1 _) (fun obj => F.args_object_init_2 obj _) F.entry_enumerate_new (meets_enum_one B) ⟨h1, ?_⟩
  show _ ∧ _
  rw [size1]
  have it : IsEnum ((s.heap.push o).push { cls := .type "enumerate", data := .fields #[.none, .bool false, .ref s.heap.objs.size, rawInt 0, .none, .none] })
      (s.heap.objs.size + 1) s.heap.objs.size 0 .none := by
    rw [← size1]
    exact Heap.get?_push_size _ rfl
  exact ⟨⟨_, it, rfl⟩, h _ it (Heap.get?_push_of_some _ (Heap.get?_push_size _ B.free)) fun b u x => Heap.get?_push_of_some _ (Heap.get?_push_of_some _ x)⟩

/-- what enumerate yields over the tuple at a -/
def ItE (K : PySem.W.Frag) (a : Addr) : It where
  go := fun i H => ∃ (xs : List V) (x : V), SqT K H a xs ∧ xs[i]? = some x
  yld := fun i H v H' => ∃ (T : Addr) (x : V), v = .ref T ∧ H T = none ∧ H' = upd H T (.tup [.int (i : Nat), x]) ∧ ∀ xs, SqT K H a xs → xs[i]? = some x
  stop := fun i H => ∃ xs : List V, SqT K H a xs ∧ xs.length ≤ i
theorem turnE {P : Program} {w : World} {K : PySem.W.Frag} {elts : List Expr} {kk : Nat} {tpos : Pos} (a e it : Addr) :
    Turn P w K (.Tuple elts kk tpos) (ItE K a) [e, it] e fun i h => (∃ old, IsEnum h e it ((i : Nat) : Int) old) ∧ h.IsTupleIter it a i ∧ e ≠ it ∧ a ≠ it where
  mem := List.mem_cons_self
  obj := by
    rintro i h ⟨⟨old, he⟩, ⟨o, ho, hc, hd⟩, _⟩ b hb
    rcases List.mem_cons.mp hb with z | z
    · rw [z]
      exact ⟨_, he, fun v q => nomatch q⟩
    · rw [List.mem_singleton.mp z]
      exact ⟨o, ho, fun v q => by rw [hd] at q; exact nomatch q⟩
  keep := by
    rintro i h h' ⟨⟨old, he⟩, hi, n1, n2⟩ k
    exact ⟨⟨old, k e List.mem_cons_self _ he⟩, hi.at fun o q => k it (List.mem_cons_of_mem _ List.mem_cons_self) o q, n1, n2⟩
  item := by
    intro X hP hw hK hc i pins s σ H E I hf st go
    subst hP hw hK
    obtain ⟨⟨old, he⟩, hit, ne, na⟩ := st
    obtain ⟨xs, x, hq, hx⟩ := go
    obtain ⟨its, rv, p, hz⟩ := I.tuple hq
    obtain ⟨u, hu, ru⟩ := rv.get hx
    have elt : e < s.heap.objs.size := Heap.lt_size he
    have ilt : it < s.heap.objs.size := by
      obtain ⟨_, q, _⟩ := hit
      exact Heap.lt_size q
    have il : i < its.toArray.size := by
      have := (List.getElem?_eq_some_iff.mp hu).1
      simpa using this
    have D := Draws.tuple (prog := X.prog) (w := X.w) (A := X.A.in1) (I.ok.hd hc) it a na its.toArray
    have ea : e ≠ a := fun z => by
      obtain ⟨o, q1, q2, _⟩ := p
      rw [← z, he] at q1
      rw [← Option.some.inj q1] at q2
      exact absurd (Value.type.inj q2) (by decide)
    refine wpAny_pyNext_enum_itemC D he ⟨hit, p⟩ il ne (fun z => ?_) fun y h' tk hy ho hst hT hsz hk => ?_
    · rcases List.mem_cons.mp z with z | z
      · exact ne z
      · exact ea (List.mem_singleton.mp z)
    have ey : y = u := by
      have hy' : its.toArray[i]? = some y := hy
      simp only [List.getElem?_toArray] at hy'
      rw [hu] at hy'
      exact (Option.some.inj hy').symm
    subst ey
    refine ⟨_, rfl, wpAny_letOwnedTupleGo_enum (s := { s with heap := h', toks := tk + 1 }) ho fun h'' he' sb => ?_⟩
    have hT2 := (sb.2 _ (Nat.ne_of_gt elt)).trans hT
    have J : Inv X pins σ (upd H s.heap.objs.size (.tup [.int (i : Nat), x])) { s with heap := h'', toks := tk + 1 } := by
      refine I.turnedNew (ch := [e, it]) (fun b ob hb q => ?_) hf (Nat.le_refl _) ?_
      · have b1 : b ≠ e := fun z => hb (by rw [z]; exact List.mem_cons_self)
        have b2 : b ≠ it := fun z => hb (by rw [z]; exact List.mem_cons_of_mem _ List.mem_cons_self)
        exact (sb.2 b b1).trans (hk b ob b1 b2 q)
      · exact ⟨by show 2 ≤ sizeLine; decide, [.int i tk, y], .cons ⟨_, rfl⟩ (.cons ru .nil), ⟨_, hT2, rfl, _, rfl⟩⟩
    refine ⟨.ref s.heap.objs.size, _, J, rfl, ⟨_, x, rfl, I.hok.fresh (Nat.le_refl _), rfl, fun ys hy => ?_⟩, ⟨⟨y, ?_⟩, hst.1.at fun o q => (sb.2 it ne.symm).trans q, ne, na⟩, fun b hb => ?_⟩
    · rw [I.tuple_inj hy hq]; exact hx
    · have up : ((i + 1 : Nat) : Int) = (i : Int) + 1 := by omega
      rw [up]
      exact he'
    · have blt : b < s.heap.objs.size := by
        rcases List.mem_cons.mp hb with z | z
        · rw [z]; exact elt
        · rw [List.mem_singleton.mp z]; exact ilt
      rw [upd_ne (Nat.ne_of_lt blt)]
      exact (hf b hb).1
  done := by
    intro X hP hw hK hc i pins s σ H E I hf st stop
    subst hP hw hK
    obtain ⟨⟨old, he⟩, hit, ne, na⟩ := st
    obtain ⟨xs, hq, hx⟩ := stop
    obtain ⟨its, rv, p, hz⟩ := I.tuple hq
    obtain ⟨f0, f1, f2, f3, f4, f5⟩ := hf it (List.mem_cons_of_mem _ List.mem_cons_self)
    have hl := rv.length
    have hT : s.TypeIs (.ref e) "enumerate" := ⟨_, he, rfl⟩
    unfold pyNext
    refine wpAny_bind (wpAny_attempt (wpAny_callSpecial?_slot (name := Str.ofString "__next__") hT F.slot_enumerate_next (wpAny_call_entry F.slot_enumerate_next hT F.entry_enumerate_next ?_ (F.args_enumerate_next_1 _))))
    show wpAny _ _ (field (.ref e) 2 >>= _) _ _ _
    refine wpAny_bind (wpAny_field he rfl (x := .ref it) rfl ?_)
    refine wpAny_bind (wpAny_nextOf_tuple_end (I.ok.hd hc) hit p (by simp; omega) fun h' z eb ex => ?_)
    obtain ⟨o, ho, hcl⟩ := ex
    refine wpAny_bind (wpAny_isInstance (T := "StopIteration") (b := true) ⟨o, ho, hcl⟩ isSubtype_stop (wpAny_pure ?_))
    exact ⟨rfl, I.turned (t' := s.toks) (fun b o hb q => eb b o hb q) f0 f1 f3 f4 f5⟩
  self := by
    rintro A i s Q E ⟨⟨_, he⟩, _⟩ h
    exact wpAny_pyIter_enum he h
/-- enumerate(e): a list or a tuple -/
def iEn (K : PySem.W.Frag) (ta : TA) : TI := fun σ H R => ta σ H fun vs H1 => ∃ a, vs = [.ref a] ∧ ((∃ xs, SqL K H1 a xs ∧ R (Ite K a) H1) ∨ ∃ xs, SqT K H1 a xs ∧ R (ItE K a) H1)
theorem pi_en {X : Cx} {e : Expr} {ta : TA} {p pos tpos : Pos} {elts : List Expr} {kk : Nat} (hg : Gl X "enumerate") (hm : X.mg "enumerate" = none) (ha : PA X [e] ta)
    (hs : starEach [e] X.env = [(false, eval e X.env)] := by rfl) : PI X (.Tuple elts kk tpos) (.Call (.Name "enumerate" p) [e] [] pos) (iEn X.K ta) := by
  constructor
  intro pins s σ H R I h
  refine Call_ (ld_blt I hg hm boot_enumerate (PyProof.Rows.callWith_type1 (thn (ha.run pos pins s σ H _ I h) ?_) hs rfl))
  rintro us s1 ⟨vs, H1, I1, r1, a, ev, way⟩
  subst ev
  cases r1 with
  | cons r rr =>
    cases rr
    cases r
    have two : ∀ (h' : Heap) (J : It) (tn : Nat → Heap → Prop), (∀ b u, s1.heap.get? b = some u → h'.get? b = some u) → Turn X.prog X.w X.K (.Tuple elts kk tpos) J [s1.heap.objs.size + 1, s1.heap.objs.size] (s1.heap.objs.size + 1) tn → tn 0 h' → R J H1 →
        PIE X pins σ (.Tuple elts kk tpos) R (.ref (s1.heap.objs.size + 1)) { s1 with heap := h' } := fun h' J tn k T st q => by
      refine ⟨s1.heap.objs.size + 1, [s1.heap.objs.size + 1, s1.heap.objs.size], tn, J, H1, rfl, I1.kept (t' := s1.toks) k, T, st, fun b hb => ?_, q⟩
      rcases List.mem_cons.mp hb with z | z
      · rw [z]
        exact I1.fpOk (Nat.le_succ _) (I1.hok.fresh (Nat.le_succ _))
      · rw [List.mem_singleton.mp z]
        exact I1.fpOk (Nat.le_refl _) (I1.hok.fresh (Nat.le_refl _))
    rcases way with ⟨xs, hq, q⟩ | ⟨xs, hq, q⟩
    · obtain ⟨its, rv, pl, hz⟩ := I1.list hq
      exact call_enumerate_list pl.isList fun h' he hit hsz hk => wpAny_pyIter_enum he (two h' _ _ hk (turn_enum a _ _) ⟨⟨.none, he⟩, hit, Nat.succ_ne_self _⟩ q)
    · obtain ⟨its, rv, pl, hz⟩ := I1.tuple hq
      have lt : a < s1.heap.objs.size := by
        obtain ⟨o, q, _⟩ := pl
        exact Heap.lt_size q
      exact call_enum_one (begins_tuple a its.toArray) pl fun h' he hit hk => wpAny_pyIter_enum he (two h' _ _ hk (turnE a _ _) ⟨⟨.none, he⟩, ⟨_, hit, rfl, rfl⟩, Nat.succ_ne_self _, Nat.ne_of_lt lt⟩ q)
end MK

namespace MK
open PySem PySem.Spec PyProof.Rows L2

section
variable {X : Cx} {W : XK} {K : PySem.W.Frag} {g : Gh} {S : Store} {H : Hp}

/-! ### sequences read -/
def D.asL (S : Store) : D → Option (List D)
  | .lst xs => some xs
  | .flst xs => some xs
  | .cell k => match S[k]? with
    | some (.lst xs) => some xs
    | _ => none
  | _ => none
def D.asT : D → Option (List D)
  | .tup xs => some xs
  | _ => none
theorem RD.asL (R : Rep K g S H) {d : D} {v : V} {xs : List D} (r : RD K g d v) (e : d.asL S = some xs) : ∃ a vs, v = .ref a ∧ SqL K H a vs ∧ RDs K g xs vs := by
  cases r with
  | lst h1 h2 =>
    cases e
    exact ⟨_, _, rfl, .inl (.inl (R.sub _ _ h1)), h2⟩
  | flst h1 h2 =>
    cases e
    exact ⟨_, _, rfl, R.sub.seq h1, h2⟩
  | cell h1 h2 =>
    rename_i k a
    unfold D.asL at e
    simp only at e
    split at e
    · rename_i ds q
      cases e
      obtain ⟨_, vs, h3, h4⟩ := R.cel k _ q
      exact ⟨_, vs, rfl, .inl (.inl (by rw [← h2]; exact h3)), h4⟩
    · cases e
  | _ => cases e
theorem RD.asT (R : Rep K g S H) {d : D} {v : V} {xs : List D} (r : RD K g d v) (e : d.asT = some xs) : ∃ a vs, v = .ref a ∧ SqT K H a vs ∧ RDs K g xs vs := by
  cases r with
  | tup h1 h2 =>
    cases e
    exact ⟨_, _, rfl, sameT R.sub h1, h2⟩
  | _ => cases e
def intsOf : List D → Option (List Int)
  | [] => some []
  | .int i :: r => (intsOf r).map (i :: ·)
  | _ => none
theorem RDs.ints : ∀ {ds : List D} {vs : List V} {ns : List Int}, RDs K g ds vs → intsOf ds = some ns → vs = ns.map V.int
  | _, _, _, .nil, e => by cases e; rfl
  | _, _, _, .cons (d := d) h r, e => by
    cases h with
    | int i =>
      unfold intsOf at e
      cases q : intsOf _ with
      | none => rw [q] at e; cases e
      | some ms =>
        rw [q] at e
        cases e
        rw [RDs.ints r q]; rfl
    | _ => cases e
theorem intsOf_map (ns : List Int) : intsOf (ns.map D.int) = some ns := by
  induction ns with
  | nil => rfl
  | cons n r ih => rw [List.map_cons]; unfold intsOf; rw [ih]; rfl

/-! ### data -/
mutual
def D.py : D → Option PyData
  | .non => some .none
  | .bl b => some (.bool b)
  | .int i => some (.int i)
  | .str x => some (.str x)
  | .tup xs => (D.pys xs).map .tuple
  | .lst xs => (D.pys xs).map .list
  | .flst xs => (D.pys xs).map .list
  | _ => none
def D.pys : List D → Option (List PyData)
  | [] => some []
  | x :: xs => match x.py, D.pys xs with
    | some p, some ps => some (p :: ps)
    | _, _ => none
end
def D.pyS (S : Store) : D → Option PyData
  | .cell k => match S[k]? with
    | some (.lst xs) => (D.pys xs).map .list
    | _ => none
  | d => d.py
mutual
theorem RD.py (s : Same g.G H) : ∀ {d : D} {v : V} {p : PyData}, RD K g d v → d.py = some p → Dp K H v p
  | _, _, _, .non, e => by cases e; exact .non
  | _, _, _, .bl b, e => by cases e; exact .bl b
  | _, _, _, .int i, e => by cases e; exact .int i
  | _, _, _, .str x, e => by cases e; exact .str x
  | _, _, _, .tup (ds := ds) h1 h2, e => by
    unfold D.py at e
    cases q : D.pys ds with
    | none => rw [q] at e; cases e
    | some ps =>
      rw [q] at e
      cases e
      exact .tup (sameT s h1) (RDs.py s h2 q)
  | _, _, _, .lst (ds := ds) h1 h2, e => by
    unfold D.py at e
    cases q : D.pys ds with
    | none => rw [q] at e; cases e
    | some ps =>
      rw [q] at e
      cases e
      exact .lst (.inl (.inl (s _ _ h1))) (RDs.py s h2 q)
  | _, _, _, .flst (ds := ds) h1 h2, e => by
    unfold D.py at e
    cases q : D.pys ds with
    | none => rw [q] at e; cases e
    | some ps =>
      rw [q] at e
      cases e
      exact .lst (s.seq h1) (RDs.py s h2 q)
  | _, _, _, .cell _ _, e => by cases e
  | _, _, _, .ref _, e => by cases e
  | _, _, _, .ty _, e => by cases e
theorem RDs.py (s : Same g.G H) : ∀ {ds : List D} {vs : List V} {ps : List PyData}, RDs K g ds vs → D.pys ds = some ps → DpAll K H vs ps
  | _, _, _, .nil, e => by cases e; exact .nil
  | _, _, _, .cons (d := d) (ds := ds) h r, e => by
    unfold D.pys at e
    cases q : d.py with
    | none => rw [q] at e; cases e
    | some p =>
      cases q2 : D.pys ds with
      | none => rw [q, q2] at e; cases e
      | some ps =>
        rw [q, q2] at e
        cases e
        exact .cons (RD.py s h q) (RDs.py s r q2)
end
theorem RD.pyS (R : Rep K g S H) {d : D} {v : V} {p : PyData} (r : RD K g d v) (e : d.pyS S = some p) : Dp K H v p := by
  cases r with
  | cell h1 h2 =>
    rename_i k a
    unfold D.pyS at e
    simp only at e
    split at e
    · rename_i xs q
      obtain ⟨_, vs, h3, h4⟩ := R.cel k _ q
      cases q2 : D.pys xs with
      | none => rw [q2] at e; cases e
      | some ps =>
        rw [q2] at e
        cases e
        refine .lst (.inl (.inl ?_)) (RDs.py R.sub h4 q2)
        rw [← h2]; exact h3
    · cases e
  | non => exact RD.py R.sub .non e
  | bl b => exact RD.py R.sub (.bl b) e
  | int i => exact RD.py R.sub (.int i) e
  | str x => exact RD.py R.sub (.str x) e
  | tup h1 h2 => exact RD.py R.sub (.tup h1 h2) e
  | lst h1 h2 => exact RD.py R.sub (.lst h1 h2) e
  | flst h1 h2 => exact RD.py R.sub (.flst h1 h2) e
  | ref a => cases e
  | ty n => cases e

/-! ### numbers, +, * -/
def mulOk (i j : Int) : Prop := (Builtin.Int.intBits i : Int) + (Builtin.Int.intBits j : Int) ≤ 134217728
instance (i j : Int) : Decidable (mulOk i j) := inferInstanceAs (Decidable (_ ≤ _))
def addD : B2
  | .int i, .int j, S => .ok (.int (i + j)) S
  | .str a, .str b, S => if a.length + b.length ≤ line then .ok (.str (a ++ b)) S else .no
  | .lst xs, .lst ys, S => if xs.length + ys.length ≤ line then .ok (.lst (xs ++ ys)) S else .no
  | .tup xs, .tup ys, S => if xs.length + ys.length ≤ line then .ok (.tup (xs ++ ys)) S else .no
  | _, _, _ => .no
abbrev rAddA (K : PySem.W.Frag) : R2 := fun x y H Q => rI0 (fun i j => .int (i + j)) x y H Q ∨ (fun x y H Q => (∃ i j, x = .str i ∧ y = .str j ∧ i.length + j.length ≤ sizeLine ∧ Q (.str (i ++ j)) H)) x y H Q ∨ rCat x y H Q ∨ rCatA K x y H Q
theorem or_add : OpR X (binaryOp .Add) (rAddA X.K) := op_add.or (op_add_str.or (op_cat.or op_catA))
theorem o_add : Op2 K (rAddA K) addD := by
  intro W g S H dx dy x y Q R rx ry p
  cases rx with
  | int i =>
    cases ry with
    | int j => exact .inl ⟨i, j, rfl, rfl, pst.here p R _ (.int _)⟩
    | _ => exact p.elim
  | str a =>
    cases ry with
    | str b =>
      have p' : pst K W g (if a.length + b.length ≤ line then Out.ok (D.str (a ++ b)) S else Out.no) _ := p
      by_cases h : a.length + b.length ≤ line
      · rw [if_pos h] at p'
        exact .inr (.inl ⟨a, b, rfl, rfl, by rw [← line_eq]; exact h, pst.here p' R _ (.str _)⟩)
      · rw [if_neg h] at p'; exact p'.elim
    | _ => exact p.elim
  | lst h1 h2 =>
    rename_i a vs ds
    cases ry with
    | lst h3 h4 =>
      rename_i b ws es
      have p' : pst K W g (if ds.length + es.length ≤ line then Out.ok (D.lst (ds ++ es)) S else Out.no) _ := p
      by_cases h : ds.length + es.length ≤ line
      · rw [if_pos h] at p'
        refine .inr (.inr (.inl ⟨a, b, vs, ws, rfl, rfl, R.sub _ _ h1, R.sub _ _ h3, by rw [h2.length, h4.length, ← line_eq]; exact h, fun q hq => ?_⟩))
        exact p' _ _ (Gh.add_ext (R.newG hq)) (R.add hq) _ (.lst upd_same ((h2.append h4).mono (Gh.add_ext (R.newG hq)).toExtG))
      · rw [if_neg h] at p'; exact p'.elim
    | _ => exact p.elim
  | tup h1 h2 =>
    rename_i a vs ds
    cases ry with
    | tup h3 h4 =>
      rename_i b ws es
      have p' : pst K W g (if ds.length + es.length ≤ line then Out.ok (D.tup (ds ++ es)) S else Out.no) _ := p
      by_cases h : ds.length + es.length ≤ line
      · rw [if_pos h] at p'
        refine .inr (.inr (.inr ⟨a, b, vs, ws, rfl, rfl, sameT R.sub h1, sameT R.sub h3, by rw [h2.length, h4.length, ← line_eq]; exact h, fun e => ?_, fun _ e => ?_, fun _ _ q hq => ?_⟩))
        · subst e
          cases h2
          exact pst.here p' R _ (.tup h3 h4)
        · subst e
          cases h4
          rw [List.append_nil] at p'
          exact pst.here p' R _ (.tup h1 h2)
        · exact p' _ _ (Gh.add_ext (R.newG hq)) (R.add hq) _ (.tup (.inl (.inl upd_same)) ((h2.append h4).mono (Gh.add_ext (R.newG hq)).toExtG))
      · rw [if_neg h] at p'; exact p'.elim
    | _ => exact p.elim
  | _ => exact p.elim
def subD : B2
  | .int i, .int j, S => .ok (.int (i - j)) S
  | _, _, _ => .no
theorem o_sub : Op2 K (rI0 fun i j => .int (i - j)) subD := by
  intro W g S H dx dy x y Q R rx ry p
  cases rx with
  | int i =>
    cases ry with
    | int j => exact ⟨i, j, rfl, rfl, pst.here p R _ (.int _)⟩
    | _ => exact p.elim
  | _ => exact p.elim
/-- int op int under a condition -/
theorem o_int {C : Int → Int → Prop} {gV : Int → Int → Int} {op : B2} (h : ∀ i j S, op (.int i) (.int j) S = .no ∨ (C i j ∧ op (.int i) (.int j) S = .ok (.int (gV i j)) S)) (hn : ∀ x y S, (∀ i j, ¬ (x = .int i ∧ y = .int j)) → op x y S = .no) : Op2 K (rI C fun i j => .int (gV i j)) op := by
  intro W g S H dx dy x y Q R rx ry p
  by_cases e : ∃ i j, dx = .int i ∧ dy = .int j
  · obtain ⟨i, j, rfl, rfl⟩ := e
    rw [RD.int_inv rx, RD.int_inv ry]
    rcases h i j S with q | ⟨c, q⟩
    · rw [q] at p; exact p.elim
    · rw [q] at p
      exact ⟨i, j, rfl, rfl, c, pst.here p R _ (.int _)⟩
  · rw [hn dx dy S fun i j z => e ⟨i, j, z⟩] at p; exact p.elim
def mulD : B2
  | .int i, .int j, S => if mulOk i j then .ok (.int (i * j)) S else .no
  | .lst xs, .int k, S => if -(2 ^ 63) ≤ k ∧ k < 2 ^ 63 ∧ xs.length * k.toNat ≤ line then .ok (.lst (List.replicate k.toNat xs).flatten) S else .no
  | _, _, _ => .no
abbrev rMulA : R2 := fun x y H Q => rI CMulX (fun i j => .int (i * j)) x y H Q ∨ rRep x y H Q
theorem or_mul : OpR X (binaryOp .Mult) rMulA := op_mulX.or op_rep
theorem RDs.rep {ds : List D} {vs : List V} (h : RDs K g ds vs) : ∀ n : Nat, RDs K g (List.replicate n ds).flatten (List.replicate n vs).flatten
  | 0 => .nil
  | n + 1 => by
    rw [List.replicate_succ, List.replicate_succ, List.flatten_cons, List.flatten_cons]
    exact h.append (RDs.rep h n)
theorem o_mul : Op2 K rMulA mulD := by
  intro W g S H dx dy x y Q R rx ry p
  cases rx with
  | int i =>
    cases ry with
    | int j =>
      have p' : pst K W g (if mulOk i j then Out.ok (D.int (i * j)) S else Out.no) _ := p
      by_cases h : mulOk i j
      · rw [if_pos h] at p'
        exact .inl ⟨i, j, rfl, rfl, h, pst.here p' R _ (.int _)⟩
      · rw [if_neg h] at p'; exact p'.elim
    | _ => exact p.elim
  | lst h1 h2 =>
    rename_i a vs ds
    cases ry with
    | int k =>
      have p' : pst K W g (if -(2 ^ 63) ≤ k ∧ k < 2 ^ 63 ∧ ds.length * k.toNat ≤ line then Out.ok (D.lst (List.replicate k.toNat ds).flatten) S else Out.no) _ := p
      by_cases h : -(2 ^ 63) ≤ k ∧ k < 2 ^ 63 ∧ ds.length * k.toNat ≤ line
      · rw [if_pos h] at p'
        refine .inr ⟨a, k, vs, rfl, rfl, R.sub _ _ h1, h.1, h.2.1, by rw [h2.length, ← line_eq]; exact h.2.2, fun q hq => ?_⟩
        exact p' _ _ (Gh.add_ext (R.newG hq)) (R.add hq) _ (.lst upd_same ((h2.rep _).mono (Gh.add_ext (R.newG hq)).toExtG))
      · rw [if_neg h] at p'; exact p'.elim
    | _ => exact p.elim
  | _ => exact p.elim
def divOk (j : Int) : Prop := 0 < j ∧ j.natAbs.log2 < 9000
instance (j : Int) : Decidable (divOk j) := inferInstanceAs (Decidable (_ ∧ _))
def divD : B2
  | .int i, .int j, S => if divOk j then .ok (.int (i / j)) S else .no
  | _, _, _ => .no
theorem o_div : Op2 K (rI CDivW fun i j => .int (i / j)) divD := o_int (fun i j S => by
    show (if divOk j then Out.ok (D.int (i / j)) S else Out.no) = .no ∨ (CDivW i j ∧ (if divOk j then Out.ok (D.int (i / j)) S else Out.no) = .ok _ S)
    by_cases h : divOk j
    · rw [if_pos h]; exact .inr ⟨h, rfl⟩
    · rw [if_neg h]; exact .inl rfl) fun x y S h => by
    cases x <;> first
      | rfl
      | (cases y <;> first | rfl | exact absurd ⟨rfl, rfl⟩ (h _ _))
def modD : B2
  | .int i, .int j, S => if 0 < j then .ok (.int (i % j)) S else .no
  | _, _, _ => .no
theorem o_mod : Op2 K (rI (fun _ j => 0 < j) fun i j => .int (i % j)) modD := o_int (fun i j S => by
    show (if 0 < j then Out.ok (D.int (i % j)) S else Out.no) = .no ∨ (0 < j ∧ (if 0 < j then Out.ok (D.int (i % j)) S else Out.no) = .ok _ S)
    by_cases h : 0 < j
    · rw [if_pos h]; exact .inr ⟨h, rfl⟩
    · rw [if_neg h]; exact .inl rfl) fun x y S h => by
    cases x <;> first
      | rfl
      | (cases y <;> first | rfl | exact absurd ⟨rfl, rfl⟩ (h _ _))
def powOk (i j : Int) : Prop := 0 ≤ j ∧ j ≤ 1000000 ∧ i.natAbs < 2 ^ 64
instance (i j : Int) : Decidable (powOk i j) := inferInstanceAs (Decidable (_ ∧ _))
def powD : B2
  | .int i, .int j, S => if powOk i j then .ok (.int (i ^ j.toNat)) S else .no
  | _, _, _ => .no
theorem o_pow : Op2 K (rI CPow fun i j => .int (i ^ j.toNat)) powD := o_int (fun i j S => by
    show (if powOk i j then Out.ok (D.int (i ^ j.toNat)) S else Out.no) = .no ∨ (CPow i j ∧ (if powOk i j then Out.ok (D.int (i ^ j.toNat)) S else Out.no) = .ok _ S)
    by_cases h : powOk i j
    · rw [if_pos h]; exact .inr ⟨h, rfl⟩
    · rw [if_neg h]; exact .inl rfl) fun x y S h => by
    cases x <;> first
      | rfl
      | (cases y <;> first | rfl | exact absurd ⟨rfl, rfl⟩ (h _ _))
def negD : B1
  | .int i, S => .ok (.int (-i)) S
  | _, _ => .no
theorem o_neg : Op1 K (rU fun i => .int (-i)) negD := by
  intro W g S H dx x Q R rx p
  cases rx with
  | int i => exact ⟨i, rfl, pst.here p R _ (.int _)⟩
  | _ => exact p.elim

/-! ### comparisons -/
def eqP (x y : D) (S : Store) : Out D := match x.pyS S, y.pyS S with
  | some p, some q => if SeqAt.shaped p = true ∧ SeqAt.shaped q = true then .ok (.bl (PyData.eqv p q)) S else .no
  | _, _ => .no
def neP (x y : D) (S : Store) : Out D := match x.pyS S, y.pyS S with
  | some p, some q => if SeqAt.shaped p = true ∧ SeqAt.shaped q = true then .ok (.bl (!PyData.eqv p q)) S else .no
  | _, _ => .no
def eqD : B2
  | .str a, .str b, S => .ok (.bl (decide (a = b))) S
  | x, y, S => eqP x y S
def neD : B2
  | .str a, .str b, S => .ok (.bl (!decide (a = b))) S
  | x, y, S => neP x y S
theorem eqD_str (x y : D) (S : Store) : (∃ a b, x = .str a ∧ y = .str b ∧ eqD x y S = .ok (.bl (decide (a = b))) S ∧ neD x y S = .ok (.bl (!decide (a = b))) S) ∨ (eqD x y S = eqP x y S ∧ neD x y S = neP x y S) := by
  cases x <;> first
    | exact .inr ⟨rfl, rfl⟩
    | (cases y <;> first | exact .inr ⟨rfl, rfl⟩ | exact .inl ⟨_, _, rfl, rfl, rfl, rfl⟩)
abbrev rEqA (K : PySem.W.Frag) : R2 := fun x y H Q => rEq x y H Q ∨ rEqD K x y H Q
abbrev rNeA (K : PySem.W.Frag) : R2 := fun x y H Q => rNe x y H Q ∨ rNeD K x y H Q
theorem or_eq {k : Nat} (hr : Room k X.A) : OpR X (compareOp .Eq) (rEqA X.K) := op_eq.or (op_eqD hr.units)
theorem or_ne {k : Nat} (hr : Room k X.A) : OpR X (compareOp .NotEq) (rNeA X.K) := op_ne.or (op_neD hr.units)
theorem o_eq : Op2 K (rEqA K) eqD := by
  intro W g S H dx dy x y Q R rx ry p
  rcases eqD_str dx dy S with ⟨a, b, rfl, rfl, e, _⟩ | ⟨e, _⟩
  · rw [e] at p
    rw [rx.str_inv, ry.str_inv]
    have e2 : decide (V.str a = V.str b) = decide (a = b) := by
      by_cases q : a = b
      · subst q; simp
      · rw [decide_eq_false q, decide_eq_false fun z => q (V.str.inj z)]
    refine .inl ⟨rfl, ?_⟩
    rw [e2]
    exact pst.here p R _ (.bl _)
  rw [e] at p
  unfold eqP at p
  cases e1 : dx.pyS S with
  | none => rw [e1] at p; exact p.elim
  | some a =>
    cases e2 : dy.pyS S with
    | none => rw [e1, e2] at p; exact p.elim
    | some b =>
      rw [e1, e2] at p
      have p' : pst K W g (if SeqAt.shaped a = true ∧ SeqAt.shaped b = true then Out.ok (D.bl (PyData.eqv a b)) S else Out.no) _ := p
      by_cases h : SeqAt.shaped a = true ∧ SeqAt.shaped b = true
      · rw [if_pos h] at p'
        exact .inr ⟨a, b, rx.pyS R e1, ry.pyS R e2, h.1, h.2, pst.here p' R _ (.bl _)⟩
      · rw [if_neg h] at p'; exact p'.elim
theorem o_ne : Op2 K (rNeA K) neD := by
  intro W g S H dx dy x y Q R rx ry p
  rcases eqD_str dx dy S with ⟨a, b, rfl, rfl, _, e⟩ | ⟨_, e⟩
  · rw [e] at p
    rw [rx.str_inv, ry.str_inv]
    have e2 : decide (V.str a = V.str b) = decide (a = b) := by
      by_cases q : a = b
      · subst q; simp
      · rw [decide_eq_false q, decide_eq_false fun z => q (V.str.inj z)]
    refine .inl ⟨rfl, ?_⟩
    rw [e2]
    exact pst.here p R _ (.bl _)
  rw [e] at p
  unfold neP at p
  cases e1 : dx.pyS S with
  | none => rw [e1] at p; exact p.elim
  | some a =>
    cases e2 : dy.pyS S with
    | none => rw [e1, e2] at p; exact p.elim
    | some b =>
      rw [e1, e2] at p
      have p' : pst K W g (if SeqAt.shaped a = true ∧ SeqAt.shaped b = true then Out.ok (D.bl (!PyData.eqv a b)) S else Out.no) _ := p
      by_cases h : SeqAt.shaped a = true ∧ SeqAt.shaped b = true
      · rw [if_pos h] at p'
        exact .inr ⟨a, b, rx.pyS R e1, ry.pyS R e2, h.1, h.2, pst.here p' R _ (.bl _)⟩
      · rw [if_neg h] at p'; exact p'.elim
def cmpD (f : Int → Int → Bool) : B2
  | .int i, .int j, S => .ok (.bl (f i j)) S
  | _, _, _ => .no
theorem o_cmp {f : Int → Int → Bool} : Op2 K (rI0 fun i j => .bl (f i j)) (cmpD f) := by
  intro W g S H dx dy x y Q R rx ry p
  cases rx with
  | int i =>
    cases ry with
    | int j => exact ⟨i, j, rfl, rfl, pst.here p R _ (.bl _)⟩
    | _ => exact p.elim
  | _ => exact p.elim
abbrev ltD : B2 := cmpD fun i j => decide (i < j)
abbrev leD : B2 := cmpD fun i j => decide (i ≤ j)
abbrev gtD : B2 := cmpD fun i j => decide (j < i)
abbrev geD : B2 := cmpD fun i j => decide (j ≤ i)
def isNon : D → Bool
  | .non => true
  | _ => false
theorem RD.isNon {d : D} {v : V} (r : RD K g d v) : decide (v = .non) = isNon d := by cases r <;> rfl
def isD : B2
  | x, .non, S => .ok (.bl (isNon x)) S
  | _, _, _ => .no
def isnotD : B2
  | x, .non, S => .ok (.bl (!isNon x)) S
  | _, _, _ => .no
theorem o_is : Op2 K (fun x y H Q => y = .non ∧ Q (.bl (decide (x = .non))) H) isD := by
  intro W g S H dx dy x y Q R rx ry p
  cases ry with
  | non =>
    rw [rx.isNon]
    have p' : pst K W g (Out.ok (D.bl (isNon dx)) S) _ := p
    exact ⟨rfl, pst.here p' R _ (.bl _)⟩
  | _ => exact p.elim
theorem o_isnot : Op2 K (fun x y H Q => y = .non ∧ Q (.bl (!decide (x = .non))) H) isnotD := by
  intro W g S H dx dy x y Q R rx ry p
  cases ry with
  | non =>
    rw [rx.isNon]
    have p' : pst K W g (Out.ok (D.bl (!isNon dx)) S) _ := p
    exact ⟨rfl, pst.here p' R _ (.bl _)⟩
  | _ => exact p.elim

/-! ### subscripts, slices -/
theorem atI_rd {ds : List D} {vs : List V} {i : Int} {d : D} (r : RDs K g ds vs) (e : atI ds i = some d) : ∃ v, atI vs i = some v ∧ RD K g d v := by
  unfold atI at e ⊢
  rw [r.length]
  cases q : ixN ds.length i with
  | none => rw [q] at e; cases e
  | some j =>
    rw [q] at e
    exact r.get (show ds[j]? = some d from e)
def ixD : B2 := fun x y S => match y with
  | .int i => match x.asL S with
    | some xs => match atI xs i with
      | some d => .ok d S
      | none => .no
    | none => match x.asT with
      | some xs => match atI xs i with
        | some d => .ok d S
        | none => .no
      | none => .no
  | _ => .no
abbrev rIxA (K : PySem.W.Frag) : R2 := fun x y H Q => rIxL K x y H Q ∨ rIxT K x y H Q
theorem or_ix : IxR X (rIxA X.K) := ix_list.or ix_tup
theorem o_ix : Op2 K (rIxA K) ixD := by
  intro W g S H dx dy x y Q R rx ry p
  cases ry with
  | int i =>
    unfold ixD at p
    cases e1 : dx.asL S with
    | some xs =>
      obtain ⟨a, vs, rfl, h1, h2⟩ := rx.asL R e1
      cases e2 : atI xs i with
      | none => simp only [e1, e2] at p; exact p.elim
      | some d =>
        simp only [e1, e2] at p
        obtain ⟨v, h3, h4⟩ := atI_rd h2 e2
        exact .inl ⟨a, vs, i, v, rfl, rfl, h1, h3, pst.here p R v h4⟩
    | none =>
      cases e3 : dx.asT with
      | none => simp only [e1, e3] at p; exact p.elim
      | some xs =>
        obtain ⟨a, vs, rfl, h1, h2⟩ := rx.asT R e3
        cases e2 : atI xs i with
        | none => simp only [e1, e3, e2] at p; exact p.elim
        | some d =>
          simp only [e1, e3, e2] at p
          obtain ⟨v, h3, h4⟩ := atI_rd h2 e2
          exact .inr ⟨a, vs, i, v, rfl, rfl, h1, h3, pst.here p R v h4⟩
  | _ => exact p.elim
/-- the parts of a slice -/
def rdO (K : PySem.W.Frag) (W : XK) (f : F (Option Int)) : TO := fun σ H Q => rd K W f σ H fun _ _ H' o => Q o H'
abbrev MO (X : Cx) (W : XK) (e : Option Expr) (f : F (Option Int)) : Prop := PO X e (rdO X.K W f)
theorem PO.imp {X : Cx} {e : Option Expr} {t t' : TO} (h : PO X e t) (i : ∀ σ H Q, t' σ H Q → t σ H Q) : PO X e t' := ⟨fun pins s σ H Q I q => h.run pins s σ H Q I (i σ H Q q)⟩
def fO (f : FE) : F (Option Int) := fun ρ S => (f ρ S).bind fun d S1 => match d with
  | .int i => .ok (some i) S1
  | _ => .no
theorem mo_none : MO X W none (fC none) := PO.imp po_none fun σ H Q h => by
  obtain ⟨g, S, ρ, R, rs, p⟩ := h
  exact pst.here p R
theorem mo_some {e : Expr} {f : FE} (h : ME X W e f) : MO X W (some e) (fO f) := PO.imp (po_some h) fun σ H Q h => by
  obtain ⟨g, S, ρ, R, rs, p⟩ := h
  refine ⟨g, S, ρ, R, rs, (pst.bind p).mp fun g1 S1 H1 d x R1 q v r => ?_⟩
  cases r with
  | int i => exact ⟨i, rfl, pst.here q R1⟩
  | _ => exact q.elim
def cutD (xs : List D) (lo hi : Option Int) : List D := (xs.drop (HT.sIx xs.length 0 lo)).take (HT.sIx xs.length xs.length hi - HT.sIx xs.length 0 lo)
theorem RDs.cut {ds : List D} {vs : List V} (r : RDs K g ds vs) (lo hi : Option Int) : RDs K g (cutD ds lo hi) (cutV vs lo hi) := by
  unfold cutD cutV
  rw [r.length]
  exact (r.drop _).take _
def slD (x : D) (lo hi : Option Int) (S : Store) : Out D := match x.asL S with
  | some xs => .ok (.lst (cutD xs lo hi)) S
  | none => match x.asT with
    | some xs => .ok (.tup (cutD xs lo hi)) S
    | none => .no
def fSl (a : FE) (lo hi : F (Option Int)) : FE := fun ρ S => (a ρ S).bind fun x S1 => (lo ρ S1).bind fun l S2 => (hi ρ S2).bind fun u S3 => slD x l u S3
theorem cut_all {ds : List D} {lo hi : Option Int} (h : HT.sIx ds.length 0 lo = 0 ∧ HT.sIx ds.length ds.length hi = ds.length) : cutD ds lo hi = ds := by
  unfold cutD
  rw [h.1, h.2]
  simp
theorem me_slice {e : Expr} {lo hi : Option Expr} {p2 pos : Pos} {f : FE} {fl fh : F (Option Int)} (he : ME X W e f) (hl : MO X W lo fl) (hu : MO X W hi fh) : ME X W (.Subscript e (.Slice lo hi none p2) pos) (fSl f fl fh) :=
  PE.imp (pe_slice (sl_list.or sl_tupA) he hl hu) fun σ H Q h => by
    obtain ⟨g, S, ρ, R, rs, p⟩ := h
    refine ⟨g, S, ρ, R, rs, (pst.bind p).mp fun g1 S1 H1 dx x1 R1 p1 x rx => ?_⟩
    refine ⟨g1, S1, ρ, R1, rs.mono x1.toExtG, p1.bind.mp fun g2 S2 H2 l x2 R2 p2 => ?_⟩
    refine ⟨g2, S2, ρ, R2, (rs.mono x1.toExtG).mono x2.toExtG, p2.bind.mp fun g3 S3 H3 u x3 R3 p3 => ?_⟩
    have rx3 := (rx.mono x2.toExtG).mono x3.toExtG
    unfold slD at p3
    cases e1 : dx.asL S3 with
    | some xs =>
      rw [e1] at p3
      obtain ⟨a, vs, rfl, h1, h2⟩ := rx3.asL R3 e1
      refine .inl ⟨a, vs, rfl, h1, fun q hq => ?_⟩
      exact p3 _ _ (Gh.add_ext (R3.newG hq)) (R3.add hq) _ (.lst upd_same ((h2.cut l u).mono (Gh.add_ext (R3.newG hq)).toExtG))
    | none =>
      cases e3 : dx.asT with
      | none => simp only [e1, e3] at p3; exact p3.elim
      | some xs =>
        simp only [e1, e3] at p3
        obtain ⟨a, vs, rfl, h1, h2⟩ := rx3.asT R3 e3
        refine .inr ⟨a, vs, rfl, h1, fun w => ?_, fun w q hq => ?_⟩
        · rw [h2.length] at w
          rw [cut_all w] at p3
          cases rx3 with
          | tup q1 q2 =>
            cases e3
            exact pst.here p3 R3 _ (.tup q1 q2)
          | _ => cases e3
        · exact p3 _ _ (Gh.add_ext (R3.newG hq)) (R3.add hq) _ (.tup (.inl (.inl upd_same)) ((h2.cut l u).mono (Gh.add_ext (R3.newG hq)).toExtG))
/-- a store into a cell -/
def setD : B3
  | .cell k, .int i, v, S => match S[k]? with
    | some (.lst xs) => match ixN xs.length i with
      | some j => .ok () (S.set k (.lst (xs.set j v)))
      | none => .no
    | _ => .no
  | _, _, _, _ => .no
theorem o_set : Set3 K rSetL setD := by
  intro W g S H d1 d2 d3 o i v Q R r1 r2 r3 p
  cases r1 with
  | cell h1 h2 =>
    rename_i k a
    cases r2 with
    | int j =>
      unfold setD at p
      simp only at p
      cases e : S[k]? with
      | none => rw [e] at p; exact p.elim
      | some c =>
        cases c with
        | dead => rw [e] at p; exact p.elim
        | lst xs =>
          rw [e] at p
          simp only at p
          cases e2 : ixN xs.length j with
          | none => rw [e2] at p; exact p.elim
          | some n =>
            rw [e2] at p
            obtain ⟨_, vs, h3, h4⟩ := R.cel k _ e
            rw [h2] at h3
            refine ⟨a, vs, j, n, rfl, rfl, h3, by rw [h4.length]; exact e2, ?_⟩
            have R' := R.store (k := k) (by rw [e]; trivial) (h4.set r3 n)
            rw [h2] at R'
            exact p g _ (.refl g) R'
    | _ => exact p.elim
  | _ => exact p.elim
/-- o[i] by values, where an operator stores it back -/
theorem get_list : PGet X (rIxL X.K) := by
  intro pins s σ H o i ov iv Q I ro ri h
  obtain ⟨p, xs, k, z, rfl, rfl, hq, he, q⟩ := h
  cases ro
  obtain ⟨t, rfl⟩ := ri
  obtain ⟨its, r, pl, hz⟩ := I.list hq
  obtain ⟨j, h1, h2, h3, h4, h5⟩ := atI_get he
  obtain ⟨w, ew, rw'⟩ := r.get h2
  have hl := r.length
  have big := line63
  have fin : EP X pins σ Q w s := ⟨z, H, I, rw', q⟩
  by_cases h0 : 0 ≤ k
  · have hj : k.toNat = j := by
      rw [seqIndex_of h0 h5] at h1
      exact Option.some.inj h1
    exact wpAny_getItem_list pl.isList h0 (by omega) (by rw [hj]; simpa using ew) fin
  · have hj : (k + (its.toArray.size : Int)).toNat = j := by
      rw [seqIndex_neg (by omega) h4] at h1
      rw [List.size_toArray, ← hl]
      exact Option.some.inj h1
    exact wpAny_getItem_list_neg pl.isList (by omega) (by rw [List.size_toArray]; omega) (by omega) (by rw [hj]; simpa using ew) fin
def ixLD : B2 := fun x y S => match y with
  | .int i => match x.asL S with
    | some xs => match atI xs i with
      | some d => .ok d S
      | none => .no
    | none => .no
  | _ => .no
theorem o_ixL : Op2 K (rIxL K) ixLD := by
  intro W g S H dx dy x y Q R rx ry p
  cases ry with
  | int i =>
    unfold ixLD at p
    cases e1 : dx.asL S with
    | none => simp only [e1] at p; exact p.elim
    | some xs =>
      obtain ⟨a, vs, rfl, h1, h2⟩ := rx.asL R e1
      cases e2 : atI xs i with
      | none => simp only [e1, e2] at p; exact p.elim
      | some d =>
        simp only [e1, e2] at p
        obtain ⟨v, h3, h4⟩ := atI_rd h2 e2
        exact ⟨a, vs, i, v, rfl, rfl, h1, h3, pst.here p R v h4⟩
  | _ => exact p.elim
def addID : B2
  | .int i, .int j, S => .ok (.int (i + j)) S
  | _, _, _ => .no
theorem o_addI : Op2 K (ipI fun i j => i + j) addID := by
  intro W g S H dx dy x y Q R rx ry p
  cases rx with
  | int i =>
    cases ry with
    | int j => exact ⟨i, j, rfl, rfl, pst.here p R _ (.int _)⟩
    | _ => exact p.elim
  | _ => exact p.elim
end
end MK

namespace MK
open PySem PySem.Spec PyProof.Rows L2

theorem bb_len : bootBuiltins "len" = some (.builtin "len") := by decide +kernel
theorem bb_abs : bootBuiltins "abs" = some (.builtin "abs") := by decide +kernel
theorem bb_sum : bootBuiltins "sum" = some (.builtin "sum") := by decide +kernel
theorem bb_max : bootBuiltins "max" = some (.builtin "max") := by decide +kernel
theorem bb_min : bootBuiltins "min" = some (.builtin "min") := by decide +kernel
theorem bb_repr : bootBuiltins "repr" = some (.builtin "repr") := by decide +kernel
theorem bb_int : bootBuiltins "int" = some (.type "int") := by decide +kernel
theorem bb_tuple : bootBuiltins "tuple" = some (.type "tuple") := by decide +kernel
theorem bb_list : bootBuiltins "list" = some (.type "list") := by decide +kernel
theorem bb_str : bootBuiltins "str" = some (.type "str") := by decide +kernel

section
variable {X : Cx} {W : XK} {K : PySem.W.Frag}
theorem RDs.one {g : Gh} {d : D} {vs : List V} (h : RDs K g [d] vs) : ∃ v, vs = [v] ∧ RD K g d v := by
  cases h with
  | cons r rr => cases rr; exact ⟨_, rfl, r⟩
theorem RDs.two {g : Gh} {d e : D} {vs : List V} (h : RDs K g [d, e] vs) : ∃ v w, vs = [v, w] ∧ RD K g d v ∧ RD K g e w := by
  cases h with
  | cons r rr =>
    obtain ⟨w, h1, h2⟩ := rr.one
    subst h1
    exact ⟨_, _, rfl, r, h2⟩
abbrev BN := List D → Store → Out D
def absD : BN := fun ds S => match ds with
  | [d] => match d with
    | .int i => .ok (.int (if i < 0 then -i else i)) S
    | _ => .no
  | _ => .no
theorem c_abs : CallM K (fun xs H Q => ∃ i, xs = [.int i] ∧ Q (.int (if i < 0 then -i else i)) H) absD := by
  intro W g S H ds vs Q R r p
  match ds, r, p with
  | [], _, p => exact p.elim
  | _ :: _ :: _, _, p => exact p.elim
  | [d], r, p =>
    obtain ⟨v, rfl, r0⟩ := r.one
    cases r0 with
    | int i => exact ⟨i, rfl, pst.here (W := W) (a := D.int (if i < 0 then -i else i)) p R _ (.int _)⟩
    | _ => exact p.elim
def intD : BN := fun ds S => match ds with
  | [d] => match d with
    | .int i => .ok (.int i) S
    | .bl b => .ok (.int (if b then 1 else 0)) S
    | _ => .no
  | _ => .no
theorem c_int : CallM K (fun xs H Q => (∃ i, xs = [.int i] ∧ Q (.int i) H) ∨ ∃ k, xs = [.bl k] ∧ Q (.int (if k then 1 else 0)) H) intD := by
  intro W g S H ds vs Q R r p
  match ds, r, p with
  | [], _, p => exact p.elim
  | _ :: _ :: _, _, p => exact p.elim
  | [d], r, p =>
    obtain ⟨v, rfl, r0⟩ := r.one
    cases r0 with
    | int i => exact .inl ⟨i, rfl, pst.here (W := W) (a := D.int i) p R _ (.int _)⟩
    | bl b => exact .inr ⟨b, rfl, pst.here (W := W) (a := D.int (if b then 1 else 0)) p R _ (.int _)⟩
    | _ => exact p.elim
def lenD : BN := fun ds S => match ds with
  | [d] => match d.asL S with
    | some xs => .ok (.int xs.length) S
    | none => match d with
      | .tup xs => .ok (.int xs.length) S
      | .str x => if x.length ≤ line then .ok (.int x.length) S else .no
      | _ => .no
  | _ => .no
abbrev rLenA (K : PySem.W.Frag) : List V → Hp → VK → Prop := fun xs H Q => (fun xs H Q => ∃ p ys, xs = [.ref p] ∧ (SqL K H p ys ∨ SqT K H p ys) ∧ Q (.int ys.length) H) xs H Q ∨ (fun xs H Q => ∃ z, xs = [.str z] ∧ z.length ≤ sizeLine ∧ Q (.int z.length) H) xs H Q
theorem cr_lenA : CallR X (.builtin "len") (rLenA X.K) := call_len_seq.or call_len_str
theorem c_len : CallM K (rLenA K) lenD := by
  intro W g S H ds vs Q R r p
  match ds, r, p with
  | [], _, p => exact p.elim
  | _ :: _ :: _, _, p => exact p.elim
  | [d], r, p =>
    obtain ⟨v, rfl, r0⟩ := r.one
    unfold lenD at p
    simp only at p
    cases e : d.asL S with
    | some xs =>
      rw [e] at p
      obtain ⟨a, ws, rfl, h1, h2⟩ := r0.asL R e
      exact .inl ⟨a, ws, rfl, .inl h1, by rw [h2.length]; exact pst.here p R _ (.int _)⟩
    | none =>
      rw [e] at p
      cases r0 with
      | tup h1 h2 => exact .inl ⟨_, _, rfl, .inr (sameT R.sub h1), by rw [h2.length]; exact pst.here p R _ (.int _)⟩
      | str x =>
        simp only at p
        by_cases h : x.length ≤ line
        · rw [if_pos h] at p
          exact .inr ⟨x, rfl, by rw [← line_eq]; exact h, pst.here p R _ (.int _)⟩
        · rw [if_neg h] at p; exact p.elim
      | _ => exact p.elim
/-- sum of a tuple of ints -/
theorem cr_sumT (hc : X.calm = true) : CallR X (.builtin "sum") (fun vs H Q => ∃ (a : Addr) (ns : List Int), vs = [V.ref a] ∧ SqT X.K H a (ns.map V.int) ∧ Q (.int ns.sum) H) := by
  intro pins s σ H vs us Q I r h
  obtain ⟨a, ns, rfl, hs, q⟩ := h
  obtain ⟨its, rv, ht, _⟩ := I.tuple hs
  rw [Vals.ref1 r]
  obtain ⟨xs, e⟩ := rv.ints.allInts.items
  have hn : numsOf (intItems xs).toList = ns := by rw [← e]; exact rv.ints.numsOf
  rw [nums_intItems] at hn
  rw [e] at ht
  refine PySem.W.ktm_sumG (I.ok.hd hc) ht fun h' tk t' hk => ?_
  rw [preSum_eq, List.take_of_length_le (by simp), hn]
  exact ⟨.int _, H, I.kept hk, ⟨_, rfl⟩, q⟩
def sumD : BN := fun ds S => match ds with
  | [d] => match d.asL S with
    | some xs => match intsOf xs with
      | some ns => .ok (.int ns.sum) S
      | none => .no
    | none => match d.asT with
      | some xs => match intsOf xs with
        | some ns => .ok (.int ns.sum) S
        | none => .no
      | none => .no
  | _ => .no
abbrev rSumA (K : PySem.W.Frag) : List V → Hp → VK → Prop := fun xs H Q => rSum K xs H Q ∨ (fun vs H Q => ∃ (a : Addr) (ns : List Int), vs = [V.ref a] ∧ SqT K H a (ns.map V.int) ∧ Q (.int ns.sum) H) xs H Q
theorem cr_sumA (hc : X.calm = true) : CallR X (.builtin "sum") (rSumA X.K) := (cr_sum hc).or (cr_sumT hc)
theorem c_sum : CallM K (rSumA K) sumD := by
  intro W g S H ds vs Q R r p
  match ds, r, p with
  | [], _, p => exact p.elim
  | _ :: _ :: _, _, p => exact p.elim
  | [d], r, p =>
    obtain ⟨v, rfl, r0⟩ := r.one
    unfold sumD at p
    simp only at p
    cases e : d.asL S with
    | some xs =>
      obtain ⟨a, ws, rfl, h1, h2⟩ := r0.asL R e
      cases e2 : intsOf xs with
      | none => simp only [e, e2] at p; exact p.elim
      | some ns =>
        simp only [e, e2] at p
        exact .inl ⟨a, ns, rfl, by rw [← h2.ints e2]; exact h1, pst.here p R _ (.int _)⟩
    | none =>
      cases e3 : d.asT with
      | none => simp only [e, e3] at p; exact p.elim
      | some xs =>
        obtain ⟨a, ws, rfl, h1, h2⟩ := r0.asT R e3
        cases e2 : intsOf xs with
        | none => simp only [e, e3, e2] at p; exact p.elim
        | some ns =>
          simp only [e, e3, e2] at p
          exact .inr ⟨a, ns, rfl, by rw [← h2.ints e2]; exact h1, pst.here p R _ (.int _)⟩
def max2D : BN := fun ds S => match ds with
  | [.int i, .int j] => .ok (.int (if j > i then j else i)) S
  | _ => .no
def min2D : BN := fun ds S => match ds with
  | [.int i, .int j] => .ok (.int (if j < i then j else i)) S
  | _ => .no
theorem c_ii {f : Int → Int → Int} {op : BN} (h : ∀ i j S, op [.int i, .int j] S = .ok (.int (f i j)) S) (hn : ∀ ds S, (∀ i j, ds ≠ [.int i, .int j]) → op ds S = .no) : CallM K (fun xs H Q => ∃ i j, xs = [.int i, .int j] ∧ Q (.int (f i j)) H) op := by
  intro W g S H ds vs Q R r p
  by_cases e : ∃ i j, ds = [.int i, .int j]
  · obtain ⟨i, j, rfl⟩ := e
    obtain ⟨v, w, rfl, r1, r2⟩ := r.two
    rw [h] at p
    cases r1
    cases r2
    exact ⟨i, j, rfl, pst.here p R _ (.int _)⟩
  · rw [hn ds S fun i j z => e ⟨i, j, z⟩] at p; exact p.elim
theorem c_max2 : CallM K (fun xs H Q => ∃ i j, xs = [.int i, .int j] ∧ Q (.int (if j > i then j else i)) H) max2D := c_ii (fun _ _ _ => rfl) fun ds S h => by
  unfold max2D
  split
  · exact absurd rfl (h _ _)
  · rfl
theorem c_min2 : CallM K (fun xs H Q => ∃ i j, xs = [.int i, .int j] ∧ Q (.int (if j < i then j else i)) H) min2D := c_ii (fun _ _ _ => rfl) fun ds S h => by
  unfold min2D
  split
  · exact absurd rfl (h _ _)
  · rfl

/-! ### repr of data of any depth -/
def rRepr (K : PySem.W.Frag) : List V → Hp → VK → Prop := fun xs H Q => ∃ x d, xs = [x] ∧ Dp K H x d ∧ SeqAt.shaped d = true ∧ d.showable = true ∧ d.shown.length ≤ sizeLine ∧ Q (.str d.shown) H
theorem cr_repr {k : Nat} (gd : X.A.guards = some []) (hr : Room k X.A) : CallR X (.builtin "repr") (rRepr X.K) := by
  intro pins s σ H vs us Q I r h
  obtain ⟨x, d, rfl, hd, hsh, hs, hz, q⟩ := h
  obtain ⟨u, rfl, ru⟩ := vals1 r
  obtain ⟨as, rd⟩ := Dp.reads I d x u hd ru
  have sh : (d.canLay0 && decide (d.depth ≤ 64)) = true := hsh
  simp only [Bool.and_eq_true, decide_eq_true_eq] at sh
  have nd : d.hasDict = false := PyData.hasDict_of_canLay d sh.1
  have un := hr.un
  have big : ∀ a, u = .ref a → wpAny (model X.prog X.w) X.A (call (.builtin "repr") [u]) (EP X pins σ Q) X.xe s := fun a e => by
    subst e
    exact repr_of_reads' rd hs (PyData.noDict_hsm nd) gd (by omega) (fun _ _ e => e) (fun h' u tk hk => ⟨.str d.shown, H, I.kept hk, ⟨_, rfl⟩, q⟩) hz
  cases hd with
  | non =>
    cases ru
    exact PySem.P.repr_of_none ⟨.str _, H, I.tok _, ⟨_, rfl⟩, by simpa only [PyData.shown] using q⟩
  | bl b =>
    cases ru
    exact PySem.P.repr_of_bool ⟨.str _, H, I.tok _, ⟨_, rfl⟩, by simpa only [PyData.shown] using q⟩
  | int i =>
    obtain ⟨t, rfl⟩ := ru
    exact PySem.P.repr_of_int (by simpa [PyData.showable] using hs) ⟨.str _, H, I.tok _, ⟨_, rfl⟩, by simpa only [PyData.shown] using q⟩
  | str z =>
    obtain ⟨t, rfl⟩ := ru
    exact PySem.P.repr_of_str ⟨.str _, H, I.tok _, ⟨_, rfl⟩, by simpa only [PyData.shown] using q⟩ (by simpa only [PyData.shown] using hz)
  | lst _ _ => exact big _ ru
  | tup _ _ => exact big _ ru
def reprOk (p : PyData) : Prop := SeqAt.shaped p = true ∧ p.showable = true ∧ p.shown.length ≤ line
instance (p : PyData) : Decidable (reprOk p) := inferInstanceAs (Decidable (_ ∧ _))
def reprD : BN := fun ds S => match ds with
  | [d] => match d.pyS S with
    | some p => if reprOk p then .ok (.str p.shown) S else .no
    | none => .no
  | _ => .no
theorem c_repr : CallM K (rRepr K) reprD := by
  intro W g S H ds vs Q R r p
  match ds, r, p with
  | [], _, p => exact p.elim
  | _ :: _ :: _, _, p => exact p.elim
  | [d], r, p =>
    obtain ⟨v, rfl, r0⟩ := r.one
    unfold reprD at p
    simp only at p
    cases e : d.pyS S with
    | none => rw [e] at p; exact p.elim
    | some a =>
      rw [e] at p
      simp only at p
      by_cases h : reprOk a
      · rw [if_pos h] at p
        exact ⟨v, a, rfl, r0.pyS R e, h.1, h.2.1, by rw [← line_eq]; exact h.2.2, pst.here p R _ (.str _)⟩
      · rw [if_neg h] at p; exact p.elim

/-! ### tuple(..), list(..) -/
def tupleD : BN := fun ds S => match ds with
  | [d] => match d.asL S with
    | some xs => .ok (.tup xs) S
    | none => match d.asT with
      | some xs => .ok (.tup xs) S
      | none => .no
  | _ => .no
abbrev rTupA (K : PySem.W.Frag) : List V → Hp → VK → Prop := fun xs H Q => ∃ p ys, xs = [.ref p] ∧ ((SqL K H p ys ∧ ∀ l, H l = none → Q (.ref l) (upd H l (.tup ys))) ∨ (SqT K H p ys ∧ Q (.ref p) H))
theorem c_tuple : CallM K (rTupA K) tupleD := by
  intro W g S H ds vs Q R r p
  match ds, r, p with
  | [], _, p => exact p.elim
  | _ :: _ :: _, _, p => exact p.elim
  | [d], r, p =>
    obtain ⟨v, rfl, r0⟩ := r.one
    unfold tupleD at p
    simp only at p
    cases e : d.asL S with
    | some xs =>
      rw [e] at p
      obtain ⟨a, ws, rfl, h1, h2⟩ := r0.asL R e
      refine ⟨a, ws, rfl, .inl ⟨h1, fun l hl => ?_⟩⟩
      exact p _ _ (Gh.add_ext (R.newG hl)) (R.add hl) _ (.tup (.inl (.inl upd_same)) (h2.mono (Gh.add_ext (R.newG hl)).toExtG))
    | none =>
      rw [e] at p
      simp only at p
      cases e3 : d.asT with
      | none => rw [e3] at p; exact p.elim
      | some xs =>
        rw [e3] at p
        cases r0 with
        | tup h1 h2 =>
          cases e3
          exact ⟨_, _, rfl, .inr ⟨sameT R.sub h1, pst.here p R _ (.tup h1 h2)⟩⟩
        | _ => cases e3
/-- list(..) that nobody changes; one that may be changed -/
def listD : BN := fun ds S => match ds with
  | [d] => match d.asL S with
    | some xs => .ok (.lst xs) S
    | none => match d.asT with
      | some xs => .ok (.lst xs) S
      | none => .no
  | _ => .no
def listN : BN := fun ds S => match ds with
  | [d] => match d.asL S with
    | some xs => .ok (.cell S.length) (S ++ [.lst xs])
    | none => match d.asT with
      | some xs => .ok (.cell S.length) (S ++ [.lst xs])
      | none => .no
  | _ => .no
abbrev rLstA (K : PySem.W.Frag) : List V → Hp → VK → Prop := fun xs H Q => ∃ p ys, xs = [.ref p] ∧ (SqL K H p ys ∨ SqT K H p ys) ∧ ∀ l, H l = none → Q (.ref l) (upd H l (.lst ys))
theorem RD.seq {g : Gh} {S : Store} {H : Hp} (R : Rep K g S H) {d : D} {v : V} {xs : List D} (r : RD K g d v) (e : d.asL S = some xs ∨ d.asT = some xs) : ∃ a vs, v = .ref a ∧ (SqL K H a vs ∨ SqT K H a vs) ∧ RDs K g xs vs := by
  rcases e with e | e
  · obtain ⟨a, vs, h1, h2, h3⟩ := r.asL R e
    exact ⟨a, vs, h1, .inl h2, h3⟩
  · obtain ⟨a, vs, h1, h2, h3⟩ := r.asT R e
    exact ⟨a, vs, h1, .inr h2, h3⟩
theorem c_list : CallM K (rLstA K) listD := by
  intro W g S H ds vs Q R r p
  match ds, r, p with
  | [], _, p => exact p.elim
  | _ :: _ :: _, _, p => exact p.elim
  | [d], r, p =>
    obtain ⟨v, rfl, r0⟩ := r.one
    have go : ∀ xs, (d.asL S = some xs ∨ d.asT = some xs) → pst K W g (Out.ok (D.lst xs) S) (fun g' _ H' d => ∀ v, RD K g' d v → Q v H') → rLstA K [v] H Q := fun xs e p => by
      obtain ⟨a, ws, rfl, h1, h2⟩ := r0.seq R e
      refine ⟨a, ws, rfl, h1, fun l hl => ?_⟩
      exact p _ _ (Gh.add_ext (R.newG hl)) (R.add hl) _ (.lst upd_same (h2.mono (Gh.add_ext (R.newG hl)).toExtG))
    unfold listD at p
    simp only at p
    cases e : d.asL S with
    | some xs => rw [e] at p; exact go xs (.inl e) p
    | none =>
      rw [e] at p
      simp only at p
      cases e3 : d.asT with
      | none => rw [e3] at p; exact p.elim
      | some xs => rw [e3] at p; exact go xs (.inr e3) p
theorem c_listN : CallM K (rLstA K) listN := by
  intro W g S H ds vs Q R r p
  match ds, r, p with
  | [], _, p => exact p.elim
  | _ :: _ :: _, _, p => exact p.elim
  | [d], r, p =>
    obtain ⟨v, rfl, r0⟩ := r.one
    have go : ∀ xs, (d.asL S = some xs ∨ d.asT = some xs) → pst K W g (Out.ok (D.cell S.length) (S ++ [.lst xs])) (fun g' _ H' d => ∀ v, RD K g' d v → Q v H') → rLstA K [v] H Q := fun xs e p => by
      obtain ⟨a, ws, rfl, h1, h2⟩ := r0.seq R e
      refine ⟨a, ws, rfl, h1, fun l hl => ?_⟩
      refine p _ _ Gh.cell_ext (R.cell hl h2) _ (.cell (k := S.length) ?_ ?_)
      · show S.length < g.n + 1
        rw [R.len]; exact Nat.lt_succ_self _
      · show (if S.length = g.n then l else g.m S.length) = l
        rw [if_pos R.len]
    unfold listN at p
    simp only at p
    cases e : d.asL S with
    | some xs => rw [e] at p; exact go xs (.inl e) p
    | none =>
      rw [e] at p
      simp only at p
      cases e3 : d.asT with
      | none => rw [e3] at p; exact p.elim
      | some xs => rw [e3] at p; exact go xs (.inr e3) p

/-! ### what loops walk -/
/-- items that stand still -/
def D.still : D → Option (List D)
  | .lst xs => some xs
  | .flst xs => some xs
  | .tup xs => some xs
  | _ => none
def iSeq (f : FE) : F (List D) := fun ρ S => (f ρ S).bind fun d S1 => match d.still with
  | some xs => .ok xs S1
  | none => .no
def rSeqI (K : PySem.W.Frag) (tl : TE) : TI := fun σ H R => tl σ H fun x H1 => ∃ a, x = .ref a ∧ ((∃ xs, SqL K H1 a xs ∧ R (Itl K a) H1) ∨ ∃ xs, SqT K H1 a xs ∧ R (Itt K a) H1)
theorem pi_seq {tg l : Expr} {tl : TE} (hl : PE X l tl) : PI X tg l (rSeqI X.K tl) := by
  constructor
  intro pins s σ H R I h
  refine thn (hl.run pins s σ H _ I h) ?_
  rintro v s1 ⟨x, H1, I1, r1, a, e, way⟩
  subst e
  cases r1
  have fin : ∀ (o : Obj) (J : It) (tn : Nat → Heap → Prop), o.isFreed = false → Turn X.prog X.w X.K tg J [s1.heap.objs.size] s1.heap.objs.size tn → tn 0 (s1.heap.push o) → R J H1 →
      PIE X pins σ tg R (.ref s1.heap.objs.size) { s1 with heap := s1.heap.push o } := fun o J tn _ T st q =>
    ⟨s1.heap.objs.size, [s1.heap.objs.size], tn, J, H1, rfl, I1.kept (t' := s1.toks) fun b u e => Heap.get?_push_of_some _ e, T, st, fun b hb => by
      rw [List.mem_singleton.mp hb]
      exact I1.fpOk (Nat.le_refl _) (I1.hok.fresh (Nat.le_refl _)), q⟩
  rcases way with ⟨xs, hq, q⟩ | ⟨xs, hq, q⟩
  · obtain ⟨its, rv, p, hz⟩ := I1.list hq
    exact wpAny_pyIter_list p.isList (fin _ _ _ rfl (turn_list a _) ⟨_, Heap.get?_push_size _ rfl, rfl, rfl⟩ q)
  · obtain ⟨its, rv, p, hz⟩ := I1.tuple hq
    exact wpAny_pyIter_tuple (show s1.heap.IsTuple a its.toArray from p) (fin _ _ _ rfl (turn_tuple a _) ⟨_, Heap.get?_push_size _ rfl, rfl, rfl⟩ q)
theorem still_L {g : Gh} {d : D} {v : V} {xs : List D} (r : RD K g d v) (e : d.still = some xs) : ∃ a vs, v = .ref a ∧ (SqL K g.G a vs ∨ SqT K g.G a vs) ∧ RDs K g xs vs := by
  cases r with
  | lst h1 h2 => cases e; exact ⟨_, _, rfl, .inl (.inl (.inl h1)), h2⟩
  | flst h1 h2 => cases e; exact ⟨_, _, rfl, .inl h1, h2⟩
  | tup h1 h2 => cases e; exact ⟨_, _, rfl, .inr h1, h2⟩
  | _ => cases e
theorem it_list {g : Gh} {a : Addr} {vs : List V} {xs : List D} (h : SqL K g.G a vs) (r : RDs K g xs vs) : ItOk K g xs (Itl K a) := by
  intro g' S' H' x R
  have hq : SqL K H' a vs := R.sub.seq (x.G.seq h)
  refine ⟨⟨vs, hq, Nat.le_of_eq r.length⟩, fun i d e => ?_⟩
  obtain ⟨v, h1, h2⟩ := r.get e
  exact ⟨⟨vs, v, hq, h1⟩, fun y H'' z => by
    obtain ⟨rfl, z2⟩ := z
    rw [Option.some.inj ((z2 vs hq).symm.trans h1)]
    exact ⟨g', .refl g', R, h2.mono x⟩⟩
theorem it_tup {g : Gh} {a : Addr} {vs : List V} {xs : List D} (h : SqT K g.G a vs) (r : RDs K g xs vs) : ItOk K g xs (Itt K a) := by
  intro g' S' H' x R
  have hq : SqT K H' a vs := sameT R.sub (sameT x.G h)
  refine ⟨⟨vs, hq, Nat.le_of_eq r.length⟩, fun i d e => ?_⟩
  obtain ⟨v, h1, h2⟩ := r.get e
  exact ⟨⟨vs, v, hq, h1⟩, fun y H'' z => by
    obtain ⟨rfl, z2⟩ := z
    rw [Option.some.inj ((z2 vs hq).symm.trans h1)]
    exact ⟨g', .refl g', R, h2.mono x⟩⟩
theorem mi_seq {tg e : Expr} {f : FE} (h : ME X W e f) : MI X W tg e (iSeq f) := PI.imp (pi_seq h) fun σ H R h => by
  obtain ⟨g, S, ρ, Rp, rs, p⟩ := h
  refine ⟨g, S, ρ, Rp, rs, (pst.bind p).mp fun g1 S1 H1 d x R1 q v r => ?_⟩
  cases e1 : d.still with
  | none => simp only [e1] at q; exact q.elim
  | some xs =>
    simp only [e1] at q
    obtain ⟨a, vs, rfl, h1, h2⟩ := still_L r e1
    rcases h1 with h1 | h1
    · exact ⟨a, rfl, .inl ⟨vs, R1.sub.seq h1, pst.here q R1 _ (it_list h1 h2)⟩⟩
    · exact ⟨a, rfl, .inr ⟨vs, sameT R1.sub h1, pst.here q R1 _ (it_tup h1 h2)⟩⟩
/-- range(n), range(a, b) -/
def rngL (lo : Int) : Nat → List D
  | 0 => []
  | n + 1 => .int lo :: rngL (lo + 1) n
theorem rngL_length : ∀ (n : Nat) (lo : Int), (rngL lo n).length = n
  | 0, _ => rfl
  | n + 1, lo => by unfold rngL; rw [List.length_cons, rngL_length n]
theorem rngL_get : ∀ (n i : Nat) (lo : Int) (d : D), (rngL lo n)[i]? = some d → d = .int (lo + i) ∧ i < n
  | 0, _, _, _, h => by simp [rngL] at h
  | n + 1, 0, lo, d, h => by
    have h' : D.int lo = d := Option.some.inj h
    subst h'
    exact ⟨by simp, Nat.succ_pos _⟩
  | n + 1, i + 1, lo, d, h => by
    obtain ⟨h1, h2⟩ := rngL_get n i (lo + 1) d (by simpa [rngL] using h)
    refine ⟨?_, Nat.succ_lt_succ h2⟩
    rw [h1]
    congr 1
    omega
theorem it_rng {g : Gh} {lo : Int} {n : Nat} : ItOk K g (rngL lo n) (Itr lo n) := by
  intro g' S' H' x R
  refine ⟨by rw [rngL_length]; exact Nat.le_refl n, fun i d e => ?_⟩
  obtain ⟨h1, h2⟩ := rngL_get n i lo d e
  refine ⟨h2, fun y H'' z => ?_⟩
  obtain ⟨rfl, rfl⟩ := z
  subst h1
  exact ⟨g', .refl g', R, .int _⟩
def iRng (f : F (List D)) : F (List D) := fun ρ S => (f ρ S).bind fun ds S1 => match ds with
  | [.int j] => if -(2 ^ 62) ≤ j ∧ j < 2 ^ 62 then .ok (rngL 0 j.toNat) S1 else .no
  | [.int i, .int j] => if -(2 ^ 62) ≤ i ∧ i < 2 ^ 62 ∧ -(2 ^ 62) ≤ j ∧ j < 2 ^ 62 then .ok (rngL i (j - i).toNat) S1 else .no
  | _ => .no
theorem mi_range1 {tg a : Expr} {f : FE} {p pos : Pos} (hg : Gl X "range") (hm : X.mg "range" = none) (ha : ME X W a f) (hs : starEach [a] X.env = [(false, eval a X.env)] := by rfl) (hs2 : starEach [a] X.env = (false, eval a X.env) :: starEach [] X.env := by rfl) : MI X W tg (.Call (.Name "range" p) [a] [] pos) (iRng (fCons f fNil)) :=
  PI.imp (pi_range1 hg hm (ma_cons ha ma_nil hs2) hs) fun σ H R h => by
    obtain ⟨g, S, ρ, Rp, rs, p⟩ := h
    refine ⟨g, S, ρ, Rp, rs, (pst.bind p).same.mp fun g1 S1 H1 ds x R1 ⟨e, q⟩ vs r => ?_⟩
    have hl := many_cons many_nil ρ S ds S1 e
    match ds, hl with
    | [d], _ =>
      obtain ⟨v, rfl, r0⟩ := r.one
      cases r0 with
      | int j =>
        have q' : pst X.K W g1 (if -(2 ^ 62) ≤ j ∧ j < 2 ^ 62 then Out.ok (rngL 0 j.toNat) S1 else Out.no) _ := q
        by_cases c : -(2 ^ 62) ≤ j ∧ j < 2 ^ 62
        · rw [if_pos c] at q'
          exact ⟨j, rfl, c.1, c.2, pst.here q' R1 _ it_rng⟩
        · rw [if_neg c] at q'; exact q'.elim
      | _ => exact q.elim
theorem mi_range2 {tg a b : Expr} {f k : FE} {p pos : Pos} (hg : Gl X "range") (hm : X.mg "range" = none) (ha : ME X W a f) (hb : ME X W b k) (hs : starEach [a, b] X.env = [(false, eval a X.env), (false, eval b X.env)] := by rfl) (hs1 : starEach [b] X.env = [(false, eval b X.env)] := by rfl)
    (hs2 : starEach [a, b] X.env = (false, eval a X.env) :: starEach [b] X.env := by rfl) (hs3 : starEach [b] X.env = (false, eval b X.env) :: starEach [] X.env := by rfl) : MI X W tg (.Call (.Name "range" p) [a, b] [] pos) (iRng (fCons f (fCons k fNil))) :=
  PI.imp (pi_range2 hg hm (ma_cons ha (ma_cons hb ma_nil hs3) hs2) hs hs1) fun σ H R h => by
    obtain ⟨g, S, ρ, Rp, rs, p⟩ := h
    refine ⟨g, S, ρ, Rp, rs, (pst.bind p).same.mp fun g1 S1 H1 ds x R1 ⟨e, q⟩ vs r => ?_⟩
    have hl := many_cons (many_cons many_nil) ρ S ds S1 e
    match ds, hl with
    | [d, d'], _ =>
      obtain ⟨v, w, rfl, r, r'⟩ := r.two
      cases r with
      | int i =>
        cases r' with
        | int j =>
          have q' : pst X.K W g1 (if -(2 ^ 62) ≤ i ∧ i < 2 ^ 62 ∧ -(2 ^ 62) ≤ j ∧ j < 2 ^ 62 then Out.ok (rngL i (j - i).toNat) S1 else Out.no) _ := q
          by_cases c : -(2 ^ 62) ≤ i ∧ i < 2 ^ 62 ∧ -(2 ^ 62) ≤ j ∧ j < 2 ^ 62
          · rw [if_pos c] at q'
            exact ⟨i, j, rfl, c, pst.here q' R1 _ it_rng⟩
          · rw [if_neg c] at q'; exact q'.elim
        | _ => exact q.elim
      | _ => exact q.elim
/-- enumerate(seq) -/
def enumL (i : Int) : List D → List D
  | [] => []
  | d :: ds => .tup [.int i, d] :: enumL (i + 1) ds
theorem enumL_length : ∀ (ds : List D) (i : Int), (enumL i ds).length = ds.length
  | [], _ => rfl
  | d :: ds, i => by unfold enumL; rw [List.length_cons, List.length_cons, enumL_length ds]
theorem enumL_get : ∀ (ds : List D) (j : Nat) (i : Int) (e : D), (enumL i ds)[j]? = some e → ∃ d, ds[j]? = some d ∧ e = .tup [.int (i + j), d]
  | [], _, _, _, h => by simp [enumL] at h
  | d :: ds, 0, i, e, h => by
    have h' : D.tup [.int i, d] = e := Option.some.inj h
    subst h'
    exact ⟨d, rfl, by simp⟩
  | d :: ds, j + 1, i, e, h => by
    obtain ⟨d', h1, h2⟩ := enumL_get ds j (i + 1) e (by simpa [enumL] using h)
    refine ⟨d', by simpa using h1, ?_⟩
    rw [h2]
    congr 3
    omega
theorem pair_new {g' : Gh} {S' : Store} {H' : Hp} (R : Rep K g' S' H') {T : Addr} (hT : H' T = none) {a b : D} {x y : V} (ra : RD K g' a x) (rb : RD K g' b y) : ∃ g'', Ext g' g'' ∧ Rep K g'' S' (upd H' T (.tup [x, y])) ∧ RD K g'' (.tup [a, b]) (.ref T) := by
  have e := Gh.add_ext (g := g') (o := .tup [x, y]) (R.newG hT)
  exact ⟨_, e, R.add hT, .tup (.inl (.inl upd_same)) (.cons (ra.mono e.toExtG) (.cons (rb.mono e.toExtG) .nil))⟩
theorem it_enum {g : Gh} {a : Addr} {vs : List V} {xs : List D} (h : SqL K g.G a vs) (r : RDs K g xs vs) : ItOk K g (enumL 0 xs) (Ite K a) := by
  intro g' S' H' x R
  have hq : SqL K H' a vs := R.sub.seq (x.G.seq h)
  refine ⟨⟨vs, hq, by rw [enumL_length]; exact Nat.le_of_eq r.length⟩, fun i d e => ?_⟩
  obtain ⟨d', h0, rfl⟩ := enumL_get xs i 0 d e
  obtain ⟨v, h1, h2⟩ := r.get h0
  refine ⟨⟨vs, v, hq, h1⟩, fun y H'' z => ?_⟩
  obtain ⟨T, u, rfl, hT, rfl, z2⟩ := z
  rw [Option.some.inj ((z2 vs hq).symm.trans h1), Int.zero_add]
  exact pair_new R hT (.int _) (h2.mono x)
theorem it_enumT {g : Gh} {a : Addr} {vs : List V} {xs : List D} (h : SqT K g.G a vs) (r : RDs K g xs vs) : ItOk K g (enumL 0 xs) (ItE K a) := by
  intro g' S' H' x R
  have hq : SqT K H' a vs := sameT R.sub (sameT x.G h)
  refine ⟨⟨vs, hq, by rw [enumL_length]; exact Nat.le_of_eq r.length⟩, fun i d e => ?_⟩
  obtain ⟨d', h0, rfl⟩ := enumL_get xs i 0 d e
  obtain ⟨v, h1, h2⟩ := r.get h0
  refine ⟨⟨vs, v, hq, h1⟩, fun y H'' z => ?_⟩
  obtain ⟨T, u, rfl, hT, rfl, z2⟩ := z
  rw [Option.some.inj ((z2 vs hq).symm.trans h1), Int.zero_add]
  exact pair_new R hT (.int _) (h2.mono x)
def iEnumD (f : FE) : F (List D) := fun ρ S => (f ρ S).bind fun d S1 => match d.still with
  | some xs => .ok (enumL 0 xs) S1
  | none => .no
theorem mi_enum {e : Expr} {f : FE} {p pos tpos : Pos} {elts : List Expr} {kk : Nat} (hg : Gl X "enumerate") (hm : X.mg "enumerate" = none) (h : ME X W e f) (hs : starEach [e] X.env = [(false, eval e X.env)] := by rfl) (hs2 : starEach [e] X.env = (false, eval e X.env) :: starEach [] X.env := by rfl) :
    MI X W (.Tuple elts kk tpos) (.Call (.Name "enumerate" p) [e] [] pos) (iEnumD f) := PI.imp (pi_en hg hm (pa_cons h pa_nil hs2) hs) fun σ H R h => by
  obtain ⟨g, S, ρ, Rp, rs, p⟩ := h
  refine ⟨g, S, ρ, Rp, rs, (pst.bind p).mp fun g1 S1 H1 d x R1 q v r => ?_⟩
  cases e1 : d.still with
  | none => simp only [e1] at q; exact q.elim
  | some xs =>
    simp only [e1] at q
    obtain ⟨a, vs, rfl, h1, h2⟩ := still_L r e1
    rcases h1 with h1 | h1
    · exact ⟨a, rfl, .inl ⟨vs, R1.sub.seq h1, pst.here q R1 _ (it_enum h1 h2)⟩⟩
    · exact ⟨a, rfl, .inr ⟨vs, sameT R1.sub h1, pst.here q R1 _ (it_enumT h1 h2)⟩⟩
/-! ### a cell that changes no more -/
def fFrz (f : FE) : FE := fun ρ S => (f ρ S).bind fun d S1 => match d with
  | .cell k => match S1[k]? with
    | some (.lst xs) => .ok (.lst xs) (S1.set k .dead)
    | _ => .no
  | _ => .no
theorem me_frz {e : Expr} {f : FE} (h : ME X W e f) : ME X W e (fFrz f) := PE.imp h fun σ H Q h => by
  obtain ⟨g, S, ρ, R, rs, p⟩ := h
  refine ⟨g, S, ρ, R, rs, (pst.bind p).mp fun g1 S1 H1 d x R1 q v r => ?_⟩
  cases r with
  | cell h1 h2 =>
    rename_i k a
    simp only at q
    cases e : S1[k]? with
    | none => rw [e] at q; exact q.elim
    | some c =>
      cases c with
      | dead => rw [e] at q; exact q.elim
      | lst xs =>
        rw [e] at q
        obtain ⟨g2, x2, R2, r2⟩ := R1.freeze e
        rw [h2] at r2
        exact q g2 H1 x2 R2 _ r2
  | _ => exact q.elim
end

/-! ### the law's end -/
theorem ints_rd {K : PySem.W.Frag} {g : Gh} : ∀ ns : List Int, RDs K g (ns.map D.int) (ns.map V.int)
  | [] => .nil
  | n :: r => .cons (.int n) (ints_rd r)
theorem want_of {n : Nat} {F : List D → Store → Out D} (h : ∀ ns : List Int, ns.length ≤ n → (∀ z ∈ ns, Builtin.Int.intBits z ≤ 1048576) → ∃ S', F [.flst (ns.map D.int)] [] = .ok (.bl true) S')
    (K : PySem.W.Frag) (H : Hp) (a : Addr) (ns : List Int) (hl : ns.length ≤ n) (hb : ∀ z ∈ ns, Builtin.Int.intBits z ≤ 1048576) (ho : Only H) (hs : SqL K H a (ns.map V.int)) :
    spM K 1 F [.ref a] H (fun v _ => v = .bl true) fun _ _ _ => False := by
  obtain ⟨S', e⟩ := h ns hl hb
  refine ⟨rfl, ⟨H, fun _ => 0, 0, fun _ => none⟩, [], _, ⟨Same.refl _, rfl, fun k c z => by simp at z, fun k l z => by simp [Live] at z, fun a o z => nomatch z⟩, .cons (.flst hs (ints_rd ns)) .nil, ?_⟩
  rw [e]
  intro g' H' x R v r
  exact r.bl_inv
end MK

namespace MK
open PySem PySem.Spec PyProof.Rows L2

/-! ### zip(v, w), each a list or a tuple: in the model's words -/
abbrev zB1 (h : Heap) (o1 : Obj) : Heap := h.push o1
abbrev zB2 (h : Heap) (o1 o2 : Obj) : Heap := (zB1 h o1).push o2
abbrev zB3 (h : Heap) (o1 o2 : Obj) : Heap := (zB2 h o1 o2).push { cls := .type "tuple", data := .seq #[.ref h.objs.size, .ref (zB1 h o1).objs.size] }
abbrev zB4 (h : Heap) (o1 o2 : Obj) : Heap := (zB3 h o1 o2).push { cls := .type "tuple", data := .seq #[.none, .none] }
abbrev zB5 (h : Heap) (o1 o2 : Obj) : Heap := (zB4 h o1 o2).push { cls := .type "zip", data := .fields #[.none, .bool false, .bool false, .ref (zB2 h o1 o2).objs.size, .ref (zB3 h o1 o2).objs.size] }
theorem meets_zipB {v1 v2 : Value} {o1 o2 : Obj} {H1 H2 : Heap → Prop} (B1 : Begins v1 o1 H1) (B2 : Begins v2 o2 H2) :
    Meets (Builtin.«zip.__new__» ⟨[.type "zip", v1, v2], []⟩) (fun _ R s => H1 s.heap ∧ H2 s.heap ∧
      R (.ok (.ret (.ref (zB4 s.heap o1 o2).objs.size))) { s with heap := zB5 s.heap o1 o2 }) :=
  .of_wp fun prog w A R s h => by
    obtain ⟨hp, g, d, tk, os⟩ := s
    obtain ⟨h1, h2, h⟩ := h
    have hsub := sub_zip
    have h2' : H2 (hp.push o1) := B2.keeps _ _ h2 fun b o' e => Heap.get?_push_of_some _ e
    have b1 : ∀ {A' : Around} {E : Value → Shared → Prop} {Q : Value → Shared → Prop}, Q (.ref hp.objs.size) ⟨hp.push o1, g, d, tk, os⟩ →
        wpAny (model prog w) A' (pyIter v1) Q E ⟨hp, g, d, tk, os⟩ := fun q => B1.iter prog w _ _ ⟨hp, g, d, tk, os⟩ _ h1 q
    have b2 : ∀ {A' : Around} {E : Value → Shared → Prop} {Q : Value → Shared → Prop}, Q (.ref (hp.push o1).objs.size) ⟨(hp.push o1).push o2, g, d, tk, os⟩ →
        wpAny (model prog w) A' (pyIter v2) Q E ⟨hp.push o1, g, d, tk, os⟩ := fun q => B2.iter prog w _ _ ⟨hp.push o1, g, d, tk, os⟩ _ h2' q
    wp_walk using b1, b2
    exact ⟨_, rfl, h⟩
theorem call_zipB {prog : Program} {w : World} {A : Around} {E : Value → Shared → Prop} {s : Shared} {v1 v2 : Value} {o1 o2 : Obj} {H1 H2 : Heap → Prop} {Q : Value → Shared → Prop} (B1 : Begins v1 o1 H1) (B2 : Begins v2 o2 H2) (p1 : H1 s.heap) (p2 : H2 s.heap)
    (h : ∀ h', IsZip h' (s.heap.objs.size + 4) (s.heap.objs.size + 2) (s.heap.objs.size + 3) .none → IsPair h' (s.heap.objs.size + 2) (.ref s.heap.objs.size) (.ref (s.heap.objs.size + 1)) →
      IsPair h' (s.heap.objs.size + 3) .none .none → h'.get? s.heap.objs.size = some o1 → h'.get? (s.heap.objs.size + 1) = some o2 →
      (∀ c o, s.heap.get? c = some o → h'.get? c = some o) → Q (.ref (s.heap.objs.size + 4)) { s with heap := h' }) :
    wpAny (model prog w) A (call (.type "zip") [v1, v2]) Q E s := by
  refine callType_new F.called_zip (by decide) (F.typeCall_zip_2 _ _) (F.newCall_zip_2 _ _) (fun obj => F.args_object_init_3 obj _ _) F.entry_zip_new
    (meets_zipB B1 B2) ⟨p1, p2, ?_⟩
  have z1 : (zB1 s.heap o1).objs.size = s.heap.objs.size + 1 := Heap.size_push ..
  have z2 : (zB2 s.heap o1 o2).objs.size = s.heap.objs.size + 2 := by rw [Heap.size_push, z1]
  have z3 : (zB3 s.heap o1 o2).objs.size = s.heap.objs.size + 3 := by rw [Heap.size_push, z2]
  have z4 : (zB4 s.heap o1 o2).objs.size = s.heap.objs.size + 4 := by rw [Heap.size_push, z3]
  have g5 : (zB5 s.heap o1 o2).get? (zB4 s.heap o1 o2).objs.size = some _ := Heap.get?_push_size _ rfl
  have g4 : (zB5 s.heap o1 o2).get? (zB3 s.heap o1 o2).objs.size = some _ := Heap.get?_push_of_some _ (Heap.get?_push_size _ rfl)
  have g3 : (zB5 s.heap o1 o2).get? (zB2 s.heap o1 o2).objs.size = some _ := Heap.get?_push_of_some _ (Heap.get?_push_of_some _ (Heap.get?_push_size _ rfl))
  have g2 : (zB5 s.heap o1 o2).get? (zB1 s.heap o1).objs.size = some _ := Heap.get?_push_of_some _ (Heap.get?_push_of_some _ (Heap.get?_push_of_some _ (Heap.get?_push_size _ B2.free)))
  have g1 : (zB5 s.heap o1 o2).get? s.heap.objs.size = some _ := Heap.get?_push_of_some _ (Heap.get?_push_of_some _ (Heap.get?_push_of_some _ (Heap.get?_push_of_some _ (Heap.get?_push_size _ B1.free))))
  show _ ∧ _
  rw [z2, z3, z4] at g5
  rw [z1, z2] at g3
  rw [z3] at g4
  rw [z1] at g2
  rw [z4]
  exact ⟨⟨_, g5, rfl⟩, h _ g5 g3 g4 g1 g2 fun c o x =>
    Heap.get?_push_of_some _ (Heap.get?_push_of_some _ (Heap.get?_push_of_some _ (Heap.get?_push_of_some _ (Heap.get?_push_of_some _ x))))⟩

/-! a list (true) or a tuple (false) -/
def SqK (b : Bool) (K : PySem.W.Frag) (H : Hp) (a : Addr) (xs : List V) : Prop := match b with
  | true => SqL K H a xs
  | false => SqT K H a xs
def ArK (b : Bool) (h : Heap) (a : Addr) (items : Array Value) : Prop := match b with
  | true => h.IsList a items
  | false => h.IsTuple a items
def IrK (b : Bool) (h : Heap) (it a : Addr) (i : Nat) : Prop := match b with
  | true => h.IsListIter it a i
  | false => h.IsTupleIter it a i
def ioK (b : Bool) (a : Addr) : Obj := match b with
  | true => { cls := .type "list_iterator", data := .fields #[.ref a, .int 0 0] }
  | false => { cls := .type "tuple_iterator", data := .fields #[.ref a, .int 0 0] }
theorem begK (b : Bool) (a : Addr) (items : Array Value) : Begins (.ref a) (ioK b a) fun h => ArK b h a items := by
  cases b with
  | true => exact begins_list a items
  | false => exact begins_tuple a items
theorem ioK_ir {b : Bool} {a it : Addr} {h : Heap} (e : h.get? it = some (ioK b a)) : IrK b h it a 0 := by
  cases b with
  | true => exact ⟨_, e, rfl, rfl⟩
  | false => exact ⟨_, e, rfl, rfl⟩
theorem drawsK {prog : Program} {w : World} {A : Around} (hh : A.handled = none) (b : Bool) (it l : Addr) (hne : l ≠ it) (items : Array Value) :
    Draws prog w A it [it, l] items.size (fun i v => items[i]? = some v) (fun i h => IrK b h it l i ∧ ArK b h l items) := by
  cases b with
  | true => exact Draws.list hh it l hne items
  | false => exact Draws.tuple hh it l hne items
theorem IrK.at {b : Bool} {h h' : Heap} {it a : Addr} {i : Nat} (x : IrK b h it a i) (k : ∀ o, h.get? it = some o → h'.get? it = some o) : IrK b h' it a i := by
  cases b with
  | true => exact Heap.IsListIter.at x k
  | false => exact Heap.IsTupleIter.at x k
theorem IrK.obj {b : Bool} {h : Heap} {it a : Addr} {i : Nat} (x : IrK b h it a i) : ∃ o, h.get? it = some o ∧ ∀ v, o.data ≠ .cell v := by
  cases b with
  | true => obtain ⟨o, e, _, d⟩ := x; exact ⟨o, e, fun v q => by rw [d] at q; cases q⟩
  | false => obtain ⟨o, e, _, d⟩ := x; exact ⟨o, e, fun v q => by rw [d] at q; cases q⟩
theorem arK {X : Cx} {pins : List (Addr × Obj)} {s : Shared} {σ : L2.St} {H : Hp} (I : Inv X pins σ H s) {b : Bool} {a : Addr} {xs : List V} (h : SqK b X.K H a xs) : ∃ its : List Value, Vals xs its ∧ ArK b s.heap a its.toArray := by
  cases b with
  | true =>
    obtain ⟨its, rv, p, _⟩ := I.list h
    exact ⟨its, rv, p.isList⟩
  | false =>
    obtain ⟨its, rv, p, _⟩ := I.tuple h
    exact ⟨its, rv, p⟩
theorem sqK_inj {X : Cx} {pins : List (Addr × Obj)} {s : Shared} {σ : L2.St} {H : Hp} (I : Inv X pins σ H s) {b : Bool} {a : Addr} {xs ys : List V} (h : SqK b X.K H a xs) (h' : SqK b X.K H a ys) : xs = ys := by
  cases b with
  | true => exact I.list_inj h h'
  | false => exact I.tuple_inj h h'
theorem ArK.lt {b : Bool} {h : Heap} {a : Addr} {items : Array Value} (x : ArK b h a items) : a < h.objs.size := by
  cases b with
  | true => obtain ⟨o, e, _⟩ := x; exact Heap.lt_size e
  | false => obtain ⟨o, e, _⟩ := x; exact Heap.lt_size e
/-- what zip yields over a and b -/
def ItZ (b1 b2 : Bool) (K : PySem.W.Frag) (a b : Addr) : It :=
  ⟨fun i H => ∃ (xs ys : List V) (x y : V), SqK b1 K H a xs ∧ SqK b2 K H b ys ∧ xs[i]? = some x ∧ ys[i]? = some y,
    fun i H v H' => ∃ T x y, v = .ref T ∧ H T = none ∧ H' = upd H T (.tup [x, y]) ∧ (∀ xs, SqK b1 K H a xs → xs[i]? = some x) ∧ ∀ ys, SqK b2 K H b ys → ys[i]? = some y,
    fun i H => ∃ xs ys : List V, SqK b1 K H a xs ∧ SqK b2 K H b ys ∧ i ≤ xs.length ∧ i ≤ ys.length ∧ (xs.length ≤ i ∨ ys.length ≤ i)⟩
theorem sep_of {z TI TO i1 i2 a b : Addr} (D : ZipApart z TI TO i1 i2 a b) : ZipSep2 z TI TO i1 i2 [i1, a] [i2, b] where
  TIz := D.TIz
  TOz := D.TOz
  TITO := D.TITO
  TIi1 := D.TIi1
  mem1 := by simp
  zf1 := by simp [D.i1z.symm, D.l1z.symm]
  Tf1 := by simp [D.TOi1, D.l1TO.symm]
  TIi2 := D.TIi2
  mem2 := by simp
  zf2 := by simp [D.i2z.symm, D.l2z.symm]
  Tf2 := by simp [D.TOi2, D.l2TO.symm]
  sep1_2 := by simp [D.i12, D.l2i1.symm]
  sep2_1 := by simp [D.i12.symm, D.l1i2.symm]
theorem turnZ {P : Program} {w : World} {K : PySem.W.Frag} {elts : List Expr} {kk : Nat} {tpos : Pos} {b1 b2 : Bool} {a b z TI TO i1 i2 : Addr} (D : ZipApart z TI TO i1 i2 a b) :
    Turn P w K (.Tuple elts kk tpos) (ItZ b1 b2 K a b) [z, TI, TO, i1, i2] z (fun i h => IsZip h z TI TO .none ∧ IsPair h TI (.ref i1) (.ref i2) ∧ (∃ x y, IsPair h TO x y) ∧ IrK b1 h i1 a i ∧ IrK b2 h i2 b i) where
  mem := by simp
  obj := fun i h st c hc => by
    obtain ⟨hz, hTI, ⟨x, y, hTO⟩, h1, h2⟩ := st
    obtain ⟨o1, e1, d1⟩ := h1.obj
    obtain ⟨o2, e2, d2⟩ := h2.obj
    have e' : c = z ∨ c = TI ∨ c = TO ∨ c = i1 ∨ c = i2 := by simpa using hc
    rcases e' with q | q | q | q | q
    · rw [q]; exact ⟨_, hz, fun v q => nomatch q⟩
    · rw [q]; exact ⟨_, hTI, fun v q => nomatch q⟩
    · rw [q]; exact ⟨_, hTO, fun v q => nomatch q⟩
    · rw [q]; exact ⟨o1, e1, d1⟩
    · rw [q]; exact ⟨o2, e2, d2⟩
  keep := fun i h h' st k => by
    obtain ⟨hz, hTI, ⟨x, y, hTO⟩, h1, h2⟩ := st
    exact ⟨k z (by simp) _ hz, k TI (by simp) _ hTI, ⟨x, y, k TO (by simp) _ hTO⟩, h1.at fun o q => k i1 (by simp) o q, h2.at fun o q => k i2 (by simp) o q⟩
  item := by
    intro X hP hw hK hc i pins s σ H E I hf st hg
    subst hP hw hK
    obtain ⟨hz, hTI, ⟨x0, y0, hTO⟩, h1, h2⟩ := st
    obtain ⟨xs, ys, x, y, hqx, hqy, hx, hy⟩ := hg
    obtain ⟨its, rv, p⟩ := arK I hqx
    obtain ⟨its2, rv2, p2⟩ := arK I hqy
    obtain ⟨u, hu, ru⟩ := rv.get hx
    obtain ⟨u2, hu2, ru2⟩ := rv2.get hy
    have hzl : z < s.heap.objs.size := Heap.lt_size hz
    have il1 : i < its.toArray.size := by
      have := (List.getElem?_eq_some_iff.mp hu).1
      simpa using this
    have il2 : i < its2.toArray.size := by
      have := (List.getElem?_eq_some_iff.mp hu2).1
      simpa using this
    have D1 := drawsK (prog := X.prog) (w := X.w) (A := X.A.in1) (I.ok.hd hc) b1 i1 a D.l1i1 its.toArray
    have D2 := drawsK (prog := X.prog) (w := X.w) (A := X.A.in1) (I.ok.hd hc) b2 i2 b D.l2i2 its2.toArray
    refine wpAny_pyNext_zipD2_item (sep_of D) D1 D2 hz hTI hTO ⟨h1, p⟩ ⟨h2, p2⟩ il1 il2 fun y1 y2 h' tk hy1 hy2 z' TO' s1' s2' hT hsz hk => ?_
    have ey1 : y1 = u := by
      have hy' : its.toArray[i]? = some y1 := hy1
      simp only [List.getElem?_toArray] at hy'
      rw [hu] at hy'
      exact (Option.some.inj hy').symm
    have ey2 : y2 = u2 := by
      have hy' : its2.toArray[i]? = some y2 := hy2
      simp only [List.getElem?_toArray] at hy'
      rw [hu2] at hy'
      exact (Option.some.inj hy').symm
    subst ey1 ey2
    refine ⟨_, rfl, wpAny_letOwnedTupleGo_zip (s := { s with heap := h', toks := tk }) z' fun h'' z'' sb => ?_⟩
    have hT2 : h''.get? s.heap.objs.size = some { cls := .type "tuple", data := .seq #[y1, y2] } := (sb.2 _ (Nat.ne_of_gt hzl)).trans hT
    have new : ObjOk X.prog X.w (upd H s.heap.objs.size (.tup [x, y])) h'' s.heap.objs.size (.tup [x, y]) :=
      ⟨by show 2 ≤ sizeLine; decide, [y1, y2], .cons ru (.cons ru2 .nil), ⟨_, hT2, rfl, _, rfl⟩⟩
    have hkk : ∀ c o, c ∉ [z, TI, TO, i1, i2] → s.heap.get? c = some o → h''.get? c = some o := fun c o hb q =>
      (sb.2 c (fun q' => hb (by simp [q']))).trans (hk c o (fun q' => hb (by simp [q'])) (fun q' => hb (by simp [q'])) (fun q' => hb (by simp [q'])) (fun q' => hb (by simp [q'])) q)
    have I1 : Inv X pins σ (upd H s.heap.objs.size (.tup [x, y])) { s with heap := h'', toks := tk } := I.turnedNew hkk hf (Nat.le_refl _) new
    refine ⟨.ref s.heap.objs.size, _, I1, rfl, ⟨_, x, y, rfl, I.hok.fresh (Nat.le_refl _), rfl, fun l hl => by rw [sqK_inj I hl hqx]; exact hx, fun l hl => by rw [sqK_inj I hl hqy]; exact hy⟩, ⟨z'', ?_, ⟨y1, y2, ?_⟩, ?_, ?_⟩, fun c hcm => ?_⟩
    · exact (sb.2 _ D.TIz).trans (hk _ _ D.TIz D.TITO D.TIi1 D.TIi2 hTI)
    · exact (sb.2 _ D.TOz).trans TO'
    · exact s1'.1.at fun o q => (sb.2 _ D.i1z).trans q
    · exact s2'.1.at fun o q => (sb.2 _ D.i2z).trans q
    · have hlt : c < s.heap.objs.size := by
        have e' : c = z ∨ c = TI ∨ c = TO ∨ c = i1 ∨ c = i2 := by simpa using hcm
        rcases e' with q | q | q | q | q
        · rw [q]; exact hzl
        · rw [q]; exact Heap.lt_size hTI
        · rw [q]; exact Heap.lt_size hTO
        · rw [q]; obtain ⟨_, e1, _⟩ := h1.obj; exact Heap.lt_size e1
        · rw [q]; obtain ⟨_, e2, _⟩ := h2.obj; exact Heap.lt_size e2
      rw [upd_ne (Nat.ne_of_lt hlt)]
      exact (hf c hcm).1
  done := by
    intro X hP hw hK hc i pins s σ H E I hf st hg
    subst hP hw hK
    obtain ⟨hz, hTI, ⟨x0, y0, hTO⟩, h1, h2⟩ := st
    obtain ⟨xs, ys, hqx, hqy, hi1, hi2, hend⟩ := hg
    obtain ⟨its, rv, p⟩ := arK I hqx
    obtain ⟨its2, rv2, p2⟩ := arK I hqy
    have l1 := rv.length
    have l2 := rv2.length
    have D1 := drawsK (prog := X.prog) (w := X.w) (A := X.A.in1) (I.ok.hd hc) b1 i1 a D.l1i1 its.toArray
    have D2 := drawsK (prog := X.prog) (w := X.w) (A := X.A.in1) (I.ok.hd hc) b2 i2 b D.l2i2 its2.toArray
    exact wpAny_pyNext_zipD2_end (sep_of D) D1 D2 hz hTI hTO ⟨h1, p⟩ ⟨h2, p2⟩ (by simp; omega) (by simp; omega) (by simp; omega) fun h' tk hk => ⟨rfl, I.turnedL (t' := tk) (ch := [z, TI, TO, i1, i2]) (fun c o hb q =>
      hk c o (fun q' => hb (by simp [q'])) (fun q' => hb (by simp [q'])) (fun q' => hb (by simp [q'])) (fun q' => hb (by simp [q'])) q) hf⟩
  self := fun A i s Q E st h => wpAny_pyIter_zip st.1 h
def iZp (K : PySem.W.Frag) (ta : TA) : TI := fun σ H R => ta σ H fun vs H1 => ∃ b1 b2 a b xs ys, vs = [.ref a, .ref b] ∧ SqK b1 K H1 a xs ∧ SqK b2 K H1 b ys ∧ R (ItZ b1 b2 K a b) H1
theorem pi_zp {X : Cx} {e e2 : Expr} {ta : TA} {p pos tpos : Pos} {elts : List Expr} {kk : Nat} (hg : Gl X "zip") (hm : X.mg "zip" = none) (ha : PA X [e, e2] ta)
    (hs : starEach [e, e2] X.env = (false, eval e X.env) :: starEach [e2] X.env := by rfl) (hpl : (backTo pos (starEach [e2] X.env)).any (·.1) = false := by rfl) :
    PI X (.Tuple elts kk tpos) (.Call (.Name "zip" p) [e, e2] [] pos) (iZp X.K ta) := by
  refine ⟨fun pins s σ H R I h => ?_⟩
  refine Call_ (ld_blt I hg hm PyProof.Rows.boot_zip (PyProof.Rows.callWith_type1 (thn (ha.run pos pins s σ H _ I h) fun us s1 ⟨vs, H1, I1, r1, q1⟩ => ?_) hs hpl))
  obtain ⟨b1, b2, a, b, xs, ys, ex, hqx, hqy, q⟩ := q1
  subst ex
  cases r1 with
  | cons r rr =>
    cases rr with
    | cons r' rr =>
      cases rr
      cases r
      cases r'
      have fresh5 : ∀ c, c ∈ [s1.heap.objs.size + 4, s1.heap.objs.size + 2, s1.heap.objs.size + 3, s1.heap.objs.size, s1.heap.objs.size + 1] → FpOk X pins H1 c := fun c hcm => by
        have e' : c = s1.heap.objs.size + 4 ∨ c = s1.heap.objs.size + 2 ∨ c = s1.heap.objs.size + 3 ∨ c = s1.heap.objs.size ∨ c = s1.heap.objs.size + 1 := by simpa using hcm
        have hle : s1.heap.objs.size ≤ c := by omega
        exact I1.fpOk hle (I1.hok.fresh hle)
      obtain ⟨its, rv, p1⟩ := arK I1 hqx
      obtain ⟨its2, rv2, p2⟩ := arK I1 hqy
      refine call_zipB (begK b1 a its.toArray) (begK b2 b its2.toArray) p1 p2 fun h' hz hTI hTO h1 h2 hk => wpAny_pyIter_zip hz ?_
      have I2 : Inv X pins σ H1 { s1 with heap := h' } := I1.kept (t' := s1.toks) hk
      exact ⟨s1.heap.objs.size + 4, [s1.heap.objs.size + 4, s1.heap.objs.size + 2, s1.heap.objs.size + 3, s1.heap.objs.size, s1.heap.objs.size + 1], _, _, H1, rfl, I2, turnZ (PySem.W.ktu_apart s1.heap.objs.size a b p1.lt p2.lt), ⟨hz, hTI, ⟨_, _, hTO⟩, ioK_ir h1, ioK_ir h2⟩, fresh5, q⟩

/-! ### beside values -/
def zipL : List D → List D → List D
  | x :: xs, y :: ys => .tup [x, y] :: zipL xs ys
  | _, _ => []
theorem zipL_length : ∀ xs ys : List D, (zipL xs ys).length = min xs.length ys.length
  | [], _ => by simp [zipL]
  | _ :: _, [] => by simp [zipL]
  | x :: xs, y :: ys => by
    unfold zipL
    rw [List.length_cons, List.length_cons, List.length_cons, zipL_length xs ys]
    omega
theorem zipL_get : ∀ (xs ys : List D) (i : Nat) (d : D), (zipL xs ys)[i]? = some d → ∃ x y, xs[i]? = some x ∧ ys[i]? = some y ∧ d = .tup [x, y]
  | [], _, _, _, h => by simp [zipL] at h
  | _ :: _, [], _, _, h => by simp [zipL] at h
  | x :: xs, y :: ys, 0, d, h => ⟨x, y, rfl, rfl, (Option.some.inj (by simpa [zipL] using h)).symm⟩
  | x :: xs, y :: ys, i + 1, d, h => by
    obtain ⟨x', y', h1, h2, h3⟩ := zipL_get xs ys i d (by simpa [zipL] using h)
    exact ⟨x', y', by simpa using h1, by simpa using h2, h3⟩
variable {K : PySem.W.Frag}
theorem sqK_sub {b : Bool} {G : Hp} {H : Hp} {a : Addr} {vs : List V} (s : Same G H) (h : SqK b K G a vs) : SqK b K H a vs := by
  cases b with
  | true => exact s.seq h
  | false => exact sameT s h
theorem still_K {g : Gh} {d : D} {v : V} {xs : List D} (r : RD K g d v) (e : d.still = some xs) : ∃ a vs b, v = .ref a ∧ SqK b K g.G a vs ∧ RDs K g xs vs := by
  obtain ⟨a, vs, e1, h, r⟩ := still_L r e
  rcases h with h | h
  · exact ⟨a, vs, true, e1, h, r⟩
  · exact ⟨a, vs, false, e1, h, r⟩
theorem it_zip {g : Gh} {b1 b2 : Bool} {a b : Addr} {vs us : List V} {xs ys : List D} (h1 : SqK b1 K g.G a vs) (r1 : RDs K g xs vs) (h2 : SqK b2 K g.G b us) (r2 : RDs K g ys us) : ItOk K g (zipL xs ys) (ItZ b1 b2 K a b) := by
  intro g' S' H' x R
  have hq1 : SqK b1 K H' a vs := sqK_sub R.sub (sqK_sub x.G h1)
  have hq2 : SqK b2 K H' b us := sqK_sub R.sub (sqK_sub x.G h2)
  refine ⟨⟨vs, us, hq1, hq2, ?_⟩, fun i d e => ?_⟩
  · have l1 := r1.length
    have l2 := r2.length
    rw [zipL_length]
    omega
  · obtain ⟨x', y', e1, e2, rfl⟩ := zipL_get xs ys i d e
    obtain ⟨v, f1, q1⟩ := r1.get e1
    obtain ⟨u, f2, q2⟩ := r2.get e2
    refine ⟨⟨vs, us, v, u, hq1, hq2, f1, f2⟩, fun y H'' z => ?_⟩
    obtain ⟨T, v', u', rfl, hT, rfl, z1, z2⟩ := z
    rw [Option.some.inj ((z1 vs hq1).symm.trans f1), Option.some.inj ((z2 us hq2).symm.trans f2)]
    exact pair_new R hT (q1.mono x) (q2.mono x)
def iZip (f : F (List D)) : F (List D) := fun ρ S => (f ρ S).bind fun ds S1 => match ds with
  | [d, e] => match d.still, e.still with
    | some xs, some ys => .ok (zipL xs ys) S1
    | _, _ => .no
  | _ => .no
variable {X : Cx} {W : XK}
theorem mi_zip {a b : Expr} {f k : FE} {p pos tpos : Pos} {elts : List Expr} {kk : Nat} (hg : Gl X "zip") (hm : X.mg "zip" = none) (ha : ME X W a f) (hb : ME X W b k) (hs : starEach [a, b] X.env = (false, eval a X.env) :: starEach [b] X.env := by rfl) (hs3 : starEach [b] X.env = (false, eval b X.env) :: starEach [] X.env := by rfl)
    (hpl : (backTo pos (starEach [b] X.env)).any (·.1) = false := by rfl) : MI X W (.Tuple elts kk tpos) (.Call (.Name "zip" p) [a, b] [] pos) (iZip (fCons f (fCons k fNil))) :=
  PI.imp (pi_zp hg hm (ma_cons ha (ma_cons hb ma_nil hs3) hs) hs hpl) fun σ H R h => by
    obtain ⟨g, S, ρ, Rp, rs, p⟩ := h
    refine ⟨g, S, ρ, Rp, rs, (pst.bind p).same.mp fun g1 S1 H1 ds x R1 ⟨e, q⟩ vs r => ?_⟩
    have hl := many_cons (many_cons many_nil) ρ S ds S1 e
    match ds, hl with
    | [d, d'], _ =>
      obtain ⟨v, w, rfl, r, r'⟩ := r.two
      simp only at q
      cases e1 : d.still with
      | none => simp only [e1] at q; exact q.elim
      | some xs =>
        cases e2 : d'.still with
        | none => simp only [e1, e2] at q; exact q.elim
        | some ys =>
          simp only [e1, e2] at q
          obtain ⟨a, vs, b1, rfl, h1, r1⟩ := still_K r e1
          obtain ⟨b, us, b2, rfl, h2, r2⟩ := still_K r' e2
          exact ⟨b1, b2, a, b, vs, us, rfl, sqK_sub R1.sub h1, sqK_sub R1.sub h2, pst.here q R1 _ (it_zip h1 r1 h2 r2)⟩

/-! ### a op1 b op2 c -/
def fCh (o o' : B2) (a b c : FE) : FE := fun ρ S => (a ρ S).bind fun x S1 => (b ρ S1).bind fun y S2 => (o x y S2).bind fun z S3 => match z with
  | .bl t => if t = true then (c ρ S3).bind fun w S4 => o' y w S4 else .ok (.bl false) S3
  | _ => .no
theorem rdCh {a b c : FE} {r r' : R2} {o o' : B2} {σ : L2.St} {H : Hp} {Q : VK} (ho : Op2 K r o) (ho' : Op2 K r' o') (h : rdE K W (fCh o o' a b c) σ H Q) : tChain r r' (rdE K W a) (rdE K W b) (rdE K W c) σ H Q := by
  unfold tChain
  refine rd.then (k := fun x ρ S1 => (b ρ S1).bind fun y S2 => (o x y S2).bind fun z S3 => match z with
    | .bl t => if t = true then (c ρ S3).bind fun w S4 => o' y w S4 else .ok (.bl false) S3
    | _ => .no) h fun g S H' ρ d R rs p v rv => ?_
  refine ⟨g, S, ρ, R, rs, p.bind.mp fun g1 S1 H1 d1 x1 R1 q1 w rw1 => ho W g1 S1 H1 d d1 v w _ R1 (rv.mono x1.toExtG) rw1 (q1.bind.mp fun g2 S2 H2 z x2 R2 q2 u ru => ?_)⟩
  cases z with
  | bl t =>
    refine ⟨t, ru.bl_inv, ?_⟩
    cases t with
    | true => exact ⟨g2, S2, ρ, R2, (rs.mono x1.toExtG).mono x2.toExtG, q2.bind.mp fun g3 S3 H3 d3 x3 R3 q3 u3 ru3 => ho' W g3 S3 H3 d1 d3 w u3 Q R3 ((rw1.mono x2.toExtG).mono x3.toExtG) ru3 q3⟩
    | false => exact pst.here q2 R2 _ (.bl false)
  | _ => exact q2.elim
theorem me_chain {a b c : Expr} {pos : Pos} {fa fb fc : FE} {op op' : CmpOp} {r r' : R2} {o o' : B2} (ho : OpR X (compareOp op) r) (hf : Op2 X.K r o) (ho' : OpR X (compareOp op') r') (hf' : Op2 X.K r' o') (ha : ME X W a fa) (hb : ME X W b fb) (hc : ME X W c fc)
    (hm : lastMarks [op, op'] [b, c] = false := by with_unfolding_all rfl) : ME X W (.Compare a [op, op'] [b, c] pos) (fCh o o' fa fb fc) :=
  PE.imp (pe_chain ho ho' ha hb hc hm) fun σ H Q h => rdCh hf hf' h
theorem mt_chain {a b c : Expr} {pos : Pos} {fa fb fc : FE} {op op' : CmpOp} {r r' : R2} {o o' : B2} (ho : OpR X (compareOp op) r) (hf : Op2 X.K r o) (ho' : OpR X (compareOp op') r') (hf' : Op2 X.K r' o') (ha : ME X W a fa) (hb : ME X W b fb) (hc : ME X W c fc)
    (hm : lastMarks [op, op'] [b, c] = false := by with_unfolding_all rfl) : MT X W (.Compare a [op, op'] [b, c] pos) (fB (fCh o o' fa fb fc)) :=
  PT.imp (pt_chain ho ho' ha hb hc hm) fun σ H Q h => rdCh (Q := fun x H1 => ∃ c, x = .bl c ∧ Q c H1) hf hf' (rdB h)
end MK

namespace MK
open PySem PySem.Spec PyProof.Rows L2
section
variable {X : Cx} {W : XK} {K : PySem.W.Frag}

/-! ### x in l, x not in l -/
def inP (neg : Bool) (x y : D) (S : Store) : Out D := match x.pyS S, y.pyS S with
  | some a, some (.list bs) => if SeqAt.shaped a = true ∧ SeqAt.shaped (.list bs) = true then .ok (.bl (if neg = true then !bs.any fun z => PyData.eqv z a else bs.any fun z => PyData.eqv z a)) S else .no
  | _, _ => .no
def inD : B2 := inP false
def notinD : B2 := inP true
theorem or_in {k : Nat} (hr : Room k X.A) : OpR X (compareOp .In) (rInD X.K) := op_inD (by have := hr.un; omega)
theorem or_notin {k : Nat} (hr : Room k X.A) : OpR X (compareOp .NotIn) (rNotInD X.K) := op_notInD (by have := hr.un; omega)
theorem inP_of {neg : Bool} {x y : D} {S : Store} {g : Gh} {H : Hp} {vx vy : V} {C : Gh → Store → Hp → D → Prop} (R : Rep K g S H) (rx : RD K g x vx) (ry : RD K g y vy) (p : pst K W g (inP neg x y S) C) :
    ∃ d ds, Dp K H vx d ∧ Dp K H vy (.list ds) ∧ SeqAt.shaped d = true ∧ SeqAt.shaped (.list ds) = true ∧ pst K W g (.ok (.bl (if neg = true then !ds.any fun z => PyData.eqv z d else ds.any fun z => PyData.eqv z d)) S) C := by
  unfold inP at p
  cases e1 : x.pyS S with
  | none => simp only [e1] at p; exact p.elim
  | some a =>
    cases e2 : y.pyS S with
    | none => simp only [e1, e2] at p; exact p.elim
    | some b =>
      cases b with
      | list bs =>
        simp only [e1, e2] at p
        by_cases h : SeqAt.shaped a = true ∧ SeqAt.shaped (.list bs) = true
        · rw [if_pos h] at p
          exact ⟨a, bs, rx.pyS R e1, ry.pyS R e2, h.1, h.2, p⟩
        · rw [if_neg h] at p; exact p.elim
      | _ => simp only [e1, e2] at p; exact p.elim
theorem o_in : Op2 K (rInD K) inD := by
  intro W g S H dx dy x y Q R rx ry p
  obtain ⟨d, ds, h1, h2, h3, h4, q⟩ := inP_of R rx ry p
  exact ⟨d, ds, h1, h2, h3, h4, pst.here q R _ (.bl _)⟩
theorem o_notin : Op2 K (rNotInD K) notinD := by
  intro W g S H dx dy x y Q R rx ry p
  obtain ⟨d, ds, h1, h2, h3, h4, q⟩ := inP_of R rx ry p
  exact ⟨d, ds, h1, h2, h3, h4, pst.here q R _ (.bl _)⟩

/-! ### methods of lists -/
abbrev BM := D → List D → Store → Out D
def fBm (op : BM) (o : FE) (a : F (List D)) : FE := fun ρ S => (o ρ S).bind fun d S1 => if (d.asL S1).isSome = true then (a ρ S1).bind fun ds S2 => op d ds S2 else .no
def MethM (K : PySem.W.Frag) (r : V → List V → Hp → VK → Prop) (op : BM) : Prop := ∀ (W : XK) (g : Gh) (S : Store) (H : Hp) (d : D) (ds : List D) (v : V) (vs : List V) (Q : VK), Rep K g S H → RD K g d v → RDs K g ds vs → pst K W g (op d ds S) (fun g' _ H' d => ∀ v, RD K g' d v → Q v H') → r v vs H Q
theorem me_bmL {o e : Expr} {es : List Expr} {name : Str} {apos cpos : Pos} {id : String} {r : V → List V → Hp → VK → Prop} {op : BM} {fo : FE} {fa : F (List D)} (pa : PlainAttrs "list") (slot : Slot "list" name id) (hty : typeOf (.builtin id) = pure (.type "method_descriptor")) (hm : MtR X id r) (hf : MethM X.K r op)
    (ho : ME X W o fo) (ha : MA X W (e :: es) fa)
    (hbase : attributeBase o name X.env (eval o X.env) = eval o X.env := by rfl)
    (hfew : ((backTo cpos (starEach (e :: es) X.env)).all (fun x => !x.1) && (backToKw cpos (keywordEach [] X.env)).all (fun x => x.1.isSome)
      && decide ((e :: es).length + ([] : List Keyword).length + (if ([] : List Keyword).isEmpty then 0 else 1) < 30)) = true := by rfl)
    (hline : (apos.endLine == cpos.line) = true := by rfl) (hs : starEach (e :: es) X.env = (false, eval e X.env) :: starEach es X.env := by rfl) (hplain : (backTo cpos (starEach es X.env)).any (·.1) = false := by rfl) :
    ME X W (.Call (.Attribute o name apos) (e :: es) [] cpos) (fBm op fo fa) :=
  PE.imp (pe_bm pa slot hty hm ho ha hbase hfew hline hs hplain) fun σ H Q h => by
    refine rd.then (k := fun (d : D) ρ S1 => if (d.asL S1).isSome = true then (fa ρ S1).bind fun ds S2 => op d ds S2 else .no) h fun g S H' ρ d R rs p v rv => ?_
    cases e1 : d.asL S with
    | none => simp only [e1] at p; exact p.elim
    | some xs =>
      simp only [e1, Option.isSome_some, if_true] at p
      obtain ⟨a, ws, rfl, h1, h2⟩ := rv.asL R e1
      refine ⟨.inl ⟨rfl, ws, h1⟩, g, S, ρ, R, rs, p.bind.mp fun g' S' H'' ds x R' q vs rvs => ?_⟩
      exact hf W g' S' H'' d ds _ vs Q R' (rv.mono x.toExtG) rvs q
/-- xs.append(e) -/
def appD : BM
  | .cell k, [v], S => match S[k]? with
    | some (.lst xs) => if xs.length < line then .ok .non (S.set k (.lst (xs ++ [v]))) else .no
    | _ => .no
  | _, _, _ => .no
theorem m_app : MethM K rAppend appD := by
  intro W g S H d ds v vs Q R rd rds p
  cases rd with
  | cell h1 h2 =>
    rename_i k a
    match ds, rds, p with
    | [], _, p => exact p.elim
    | _ :: _ :: _, _, p => exact p.elim
    | [d1], rds, p =>
      obtain ⟨w, rfl, rw1⟩ := rds.one
      unfold appD at p
      simp only at p
      cases e : S[k]? with
      | none => rw [e] at p; exact p.elim
      | some c =>
        cases c with
        | dead => rw [e] at p; exact p.elim
        | lst xs =>
          rw [e] at p
          simp only at p
          by_cases hl : xs.length < line
          · rw [if_pos hl] at p
            obtain ⟨_, us, q1, q2⟩ := R.cel k _ e
            have lv : Live S[k]? := by rw [e]; trivial
            refine ⟨a, us, w, rfl, rfl, by rw [← h2]; exact q1, by rw [q2.length]; rw [line_eq] at hl; exact hl, ?_⟩
            rw [← h2]
            exact pst.here p (R.store lv (q2.append (.cons rw1 .nil))) _ .non
          · rw [if_neg hl] at p; exact p.elim
  | _ => exact p.elim
theorem me_append {o e : Expr} {apos cpos : Pos} {fo fe : FE} (ho : ME X W o fo) (he : ME X W e fe) (hs2 : starEach [e] X.env = (false, eval e X.env) :: starEach [] X.env := by rfl)
    (hbase : attributeBase o "append" X.env (eval o X.env) = eval o X.env := by rfl)
    (hfew : ((backTo cpos (starEach [e] X.env)).all (fun x => !x.1) && (backToKw cpos (keywordEach [] X.env)).all (fun x => x.1.isSome)
      && decide (([e] : List Expr).length + ([] : List Keyword).length + (if ([] : List Keyword).isEmpty then 0 else 1) < 30)) = true := by rfl)
    (hline : (apos.endLine == cpos.line) = true := by rfl) (hplain : (backTo cpos (starEach [] X.env)).any (·.1) = false := by rfl) : ME X W (.Call (.Attribute o "append" apos) [e] [] cpos) (fBm appD fo (fCons fe fNil)) :=
  me_bmL PySem.F.plainAttrs_list PySem.F.slot_list_append PySem.F.type_list_append mt_append m_app ho (ma_cons he ma_nil hs2) hbase hfew hline hs2 hplain

/-! ### xs[::-1] -/
def revD : B1 := fun d S => match d.asL S with
  | some xs => .ok (.lst xs.reverse) S
  | none => .no
theorem RDs.rev {g : Gh} : ∀ {ds : List D} {vs : List V}, RDs K g ds vs → RDs K g ds.reverse vs.reverse
  | _, _, .nil => .nil
  | _, _, .cons h r => by
    rw [List.reverse_cons, List.reverse_cons]
    exact (RDs.rev r).append (.cons h .nil)
theorem me_rev {e : Expr} {f : FE} {k : Nat} {p1 p2 p3 pos : Pos} (h : ME X W e f) : ME X W (.Subscript e (.Slice none none (some (.UnaryOp .USub (.Constant (.int 1) k p1) p2)) p3) pos) (f1 revD f) :=
  PE.imp (pe_revL h) fun σ H Q h => rd.then (k := fun x _ S1 => revD x S1) h fun g S H' ρ d R rs p v rv => by
    unfold revD at p
    cases e1 : d.asL S with
    | none => simp only [e1] at p; exact p.elim
    | some xs =>
      simp only [e1] at p
      obtain ⟨a, ws, rfl, h1, h2⟩ := rv.asL R e1
      refine ⟨a, ws, rfl, h1, fun q hq => ?_⟩
      exact p _ _ (Gh.add_ext (R.newG hq)) (R.add hq) _ (.lst upd_same (h2.rev.mono (Gh.add_ext (R.newG hq)).toExtG))

/-! ### *xs in a display -/
def fStar (a : FE) (r : F (List D)) : F (List D) := fun ρ S => (a ρ S).bind fun d S1 => match d.still with
  | some xs => (r ρ S1).bind fun ds S2 => .ok (xs ++ ds) S2
  | none => .no
theorem ma_star {e : Expr} {es : List Expr} {f : FE} {k : F (List D)} {p : Pos} (h : ME X W e f) (hr : MA X W es k) (hs : starEach (.Starred e p :: es) X.env = (true, eval e X.env) :: starEach es X.env := by rfl) : MA X W (.Starred e p :: es) (fStar f k) :=
  PA.imp (StX.pa_star h hr hs) fun σ H Q h => by
    refine rd.then (k := fun (d : D) ρ S1 => match d.still with
      | some xs => (k ρ S1).bind fun ds S2 => .ok (xs ++ ds) S2
      | none => .no) h fun g S H' ρ d R rs p v rv => ?_
    cases e1 : d.still with
    | none => simp only [e1] at p; exact p.elim
    | some xs =>
      simp only [e1] at p
      obtain ⟨a, vs, rfl, h1, h2⟩ := still_L rv e1
      refine ⟨a, vs, rfl, ?_, g, S, ρ, R, rs, p.bind.mp fun g' S' H'' ds x R' q us rus => pst.here q R' _ ((h2.mono x.toExtG).append rus)⟩
      rcases h1 with h1 | h1
      · exact .inr (R.sub.seq h1)
      · exact .inl (sameT R.sub h1)

/-! ### sorted(xs), xs alike data -/
def srtB (ps : List PyData) : Bool := ps.all (fun a => ps.all (PySem.W.alike a)) && (ps.all (fun d => match d with | .tuple (_ :: _) => true | _ => false) || ps.all (fun d => match d with | .none => false | .tuple _ => false | _ => true)) && ps.all (fun d => decide (d.depth ≤ 64))
theorem srtB_of {ps : List PyData} (h : srtB ps = true) : PySem.W.AllAlike ps ∧ PySem.W.Sortable ps ∧ ∀ d ∈ ps, d.depth ≤ 64 := by
  unfold srtB at h
  rw [Bool.and_eq_true, Bool.and_eq_true] at h
  obtain ⟨⟨h1, h2⟩, h3⟩ := h
  refine ⟨fun d hd d' hd' => List.all_eq_true.mp (List.all_eq_true.mp h1 d hd) d' hd', ?_, fun d hd => of_decide_eq_true (List.all_eq_true.mp h3 d hd)⟩
  rw [Bool.or_eq_true] at h2
  rcases h2 with h2 | h2
  · refine .inl fun d hd => ?_
    have q := List.all_eq_true.mp h2 d hd
    match d, q with
    | .tuple (x :: r), _ => exact ⟨x, r, rfl⟩
  · refine .inr fun d hd => ?_
    have q := List.all_eq_true.mp h2 d hd
    constructor
    · rintro rfl
      exact absurd q (by decide)
    · rintro xs rfl
      exact Bool.noConfusion q
def rSortD (K : PySem.W.Frag) : List V → Hp → VK → Prop := fun vs H Q => ∃ (a : Addr) (xs : List V) (ps : List PyData), vs = [V.ref a] ∧ SqL K H a xs ∧ DpAll K H xs ps ∧ srtB ps = true ∧
  ∀ p, H p = none → Q (.ref p) (upd H p (.lst (((xs.zip ps).mergeSort (PySem.W.dataLe false Prod.snd)).map Prod.fst)))
theorem each_dp {pins : List (Addr × Obj)} {s : Shared} {σ : L2.St} {H : Hp} (I : Inv X pins σ H s) {h' : Heap} (kp : ∀ b o, s.heap.get? b = some o → h'.get? b = some o) : ∀ {xs : List V} {ps : List PyData} {us : List Value}, DpAll X.K H xs ps → Vals xs us → PySem.W.EachIs (fun v d => ∃ as, Reads h' v d as) us ps
  | _, _, _, .nil, .nil => .nil
  | _, _, _, .cons h t, .cons r rs => by
    obtain ⟨as, q⟩ := Dp.reads I _ _ _ h r
    exact .cons ⟨as, Reads.keeps kp q⟩ (each_dp I kp t rs)
theorem each_zip {K : PySem.W.Frag} {H : Hp} : ∀ {xs : List V} {ps : List PyData} {us : List Value}, DpAll K H xs ps → Vals xs us → PySem.W.EachIs (fun (v : Value) (b : V × PyData) => RelV b.1 v) us (xs.zip ps)
  | _, _, _, .nil, .nil => .nil
  | _, _, _, .cons _ t, .cons r rs => .cons r (each_zip t rs)
theorem each_key {hp : Heap} {ds : List PyData} (hal : PySem.W.AllAlike ds) : ∀ {us : List Value} {xs : List V} {ps : List PyData}, (∀ p ∈ ps, p ∈ ds) → xs.length = ps.length → PySem.W.EachIs (fun v d => ∃ as, Reads hp v d as) us ps → PySem.W.EachIs (fun (v : Value) (b : V × PyData) => (PySem.W.dataKind hp ds).keyOf v = some (PySem.W.keyToks b.2)) us (xs.zip ps)
  | [], [], [], _, _, _ => .nil
  | [], _ :: _, [], _, hl, _ => absurd hl (by simp)
  | _ :: _, _, [], _, _, e => by cases e
  | [], _, _ :: _, _, _, e => by cases e
  | _ :: _, [], _ :: _, _, hl, _ => absurd hl (by simp)
  | u :: us, x :: xs, p :: ps, hm, hl, e => by
    cases e with
    | cons h t =>
      obtain ⟨as, q⟩ := h
      exact .cons (PySem.W.dataKind_some hal (hm _ List.mem_cons_self) q) (each_key hal (fun p hp => hm p (List.mem_cons_of_mem _ hp)) (by simpa using hl) t)
theorem each_vals : ∀ {us : List Value} {zs : List (V × PyData)}, PySem.W.EachIs (fun (v : Value) (b : V × PyData) => RelV b.1 v) us zs → Vals (zs.map Prod.fst) us
  | _, _, .nil => .nil
  | _, _, .cons h t => .cons h (each_vals t)
theorem dpAll_length {K : PySem.W.Frag} {H : Hp} : ∀ {xs : List V} {ps : List PyData}, DpAll K H xs ps → xs.length = ps.length
  | _, _, .nil => rfl
  | _, _, .cons _ t => by rw [List.length_cons, List.length_cons, dpAll_length t]
theorem cr_sortD {k : Nat} (hr : Room k X.A) : CallR X (.builtin "sorted") (rSortD X.K) := by
  intro pins s σ H vs us Q I r h
  obtain ⟨a, xs, ps, rfl, hs, hd, hok, q⟩ := h
  obtain ⟨hal, hsr, hdep⟩ := srtB_of hok
  obtain ⟨its, rv, hl, hz⟩ := I.list hs
  obtain ⟨u, rfl, ru⟩ := Vals.one r
  obtain rfl : u = Value.ref a := ru
  have hlen := rv.length
  have hold : ∀ b o, s.heap.get? b = some o → (PySem.W.sortingHeap (PySem.W.copyHeap s.heap its) (s.heap.objs.size + 1) its).get? b = some o := fun b o e => PySem.W.sorting_copy_old e
  have E := each_dp I hold hd rv
  have S : PySem.W.SortsAt X.prog X.w X.A.in1.in1 { s with heap := PySem.W.sortingHeap (PySem.W.copyHeap s.heap its) (s.heap.objs.size + 1) its } (PySem.W.dataKind (PySem.W.sortingHeap (PySem.W.copyHeap s.heap its) (s.heap.objs.size + 1) its) ps) its :=
    PySem.W.SortsAt.data (s := { s with heap := PySem.W.sortingHeap (PySem.W.copyHeap s.heap its) (s.heap.objs.size + 1) its }) E hal hsr fun d hm => by
      have h1 := hr.un
      have h2 := hdep d hm
      show X.A.units + 1 + 1 + d.depth < _
      omega
  refine PySem.W.sorted_vals hl.isList S (by rw [← hlen]; exact hz) ?_
  have out := PySem.W.sortVals_each (κ := PySem.W.dataKind (PySem.W.sortingHeap (PySem.W.copyHeap s.heap its) (s.heap.objs.size + 1) its) ps) (rev := false) (fun b : V × PyData => PySem.W.keyToks b.2) (each_zip hd rv) (each_key hal (fun p hp => hp) (dpAll_length hd) E)
  obtain ⟨n, hn⟩ := sortedAll_at s.heap its (PySem.W.sortVals (PySem.W.dataKind (PySem.W.sortingHeap (PySem.W.copyHeap s.heap its) (s.heap.objs.size + 1) its) ps) false its its).toArray
  have rv2 := each_vals out
  refine ⟨.ref (s.heap.objs.size + 1), upd H (s.heap.objs.size + 1) (.lst (((xs.zip ps).mergeSort (PySem.W.dataLe false Prod.snd)).map Prod.fst)), I.laid (t' := s.toks) (fun b o e => sortedAll_old e) (Nat.le_succ _) ⟨?_, _, n, rv2, hn⟩, rfl, q _ (I.hok.fresh (Nat.le_succ _))⟩
  rw [List.length_map, List.length_mergeSort, List.length_zip, dpAll_length hd, Nat.min_self, ← dpAll_length hd]
  exact hz
def srtL (xs : List D) (ps : List PyData) : List D := ((xs.zip ps).mergeSort (PySem.W.dataLe false Prod.snd)).map Prod.fst
def sortedD : List D → Store → Out D
  | [d], S => match d.asL S with
    | some xs => match D.pys xs with
      | some ps => if srtB ps = true then .ok (.lst (srtL xs ps)) S else .no
      | none => .no
    | none => .no
  | _, _ => .no
def tri : List D → List V → List PyData → List (D × V × PyData)
  | d :: ds, v :: vs, p :: ps => (d, v, p) :: tri ds vs ps
  | _, _, _ => []
theorem tri_dp : ∀ {ds : List D} {vs : List V} {ps : List PyData}, ds.length = ps.length → vs.length = ps.length → (tri ds vs ps).map (fun z => (z.1, z.2.2)) = ds.zip ps
  | [], [], [], _, _ => rfl
  | d :: ds, v :: vs, p :: ps, h1, h2 => by
    unfold tri
    rw [List.map_cons, List.zip_cons_cons, tri_dp (by simpa using h1) (by simpa using h2)]
  | [], _, _ :: _, h, _ => absurd h (by simp)
  | _ :: _, _, [], h, _ => absurd h (by simp)
  | _, [], _ :: _, _, h => absurd h (by simp)
  | _, _ :: _, [], _, h => absurd h (by simp)
theorem tri_vp : ∀ {ds : List D} {vs : List V} {ps : List PyData}, ds.length = ps.length → vs.length = ps.length → (tri ds vs ps).map (fun z => (z.2.1, z.2.2)) = vs.zip ps
  | [], [], [], _, _ => rfl
  | d :: ds, v :: vs, p :: ps, h1, h2 => by
    unfold tri
    rw [List.map_cons, List.zip_cons_cons, tri_vp (by simpa using h1) (by simpa using h2)]
  | [], _, _ :: _, h, _ => absurd h (by simp)
  | _ :: _, _, [], h, _ => absurd h (by simp)
  | _, [], _ :: _, _, h => absurd h (by simp)
  | _, _ :: _, [], _, h => absurd h (by simp)
theorem tri_rd {g : Gh} : ∀ {ds : List D} {vs : List V} {ps : List PyData}, RDs K g ds vs → ∀ z ∈ tri ds vs ps, RD K g z.1 z.2.1
  | _, _, [], .nil, _, h => by cases h
  | _, _, [], .cons _ _, _, h => by cases h
  | _, _, _ :: _, .nil, _, h => by cases h
  | _, _, p :: ps, .cons r t, z, h => by
    unfold tri at h
    rcases List.mem_cons.mp h with rfl | h
    · exact r
    · exact tri_rd t z h
theorem rds_tri {g : Gh} : ∀ {zs : List (D × V × PyData)}, (∀ z ∈ zs, RD K g z.1 z.2.1) → RDs K g (zs.map (·.1)) (zs.map (·.2.1))
  | [], _ => .nil
  | z :: zs, h => .cons (h z List.mem_cons_self) (rds_tri fun y hy => h y (List.mem_cons_of_mem _ hy))
theorem rds_sort {g : Gh} {ds : List D} {vs : List V} {ps : List PyData} (r : RDs K g ds vs) (hl : ds.length = ps.length) : RDs K g (srtL ds ps) (((vs.zip ps).mergeSort (PySem.W.dataLe false Prod.snd)).map Prod.fst) := by
  have hv : vs.length = ps.length := r.length.trans hl
  have e1 : srtL ds ps = ((tri ds vs ps).mergeSort (PySem.W.dataLe false fun z : D × V × PyData => z.2.2)).map (·.1) := by
    unfold srtL
    rw [← tri_dp hl hv, ← List.map_mergeSort (f := fun z : D × V × PyData => (z.1, z.2.2)) (r := PySem.W.dataLe false fun z : D × V × PyData => z.2.2) (s := PySem.W.dataLe false Prod.snd) (fun a _ b _ => rfl), List.map_map]
    rfl
  have e2 : ((vs.zip ps).mergeSort (PySem.W.dataLe false Prod.snd)).map Prod.fst = ((tri ds vs ps).mergeSort (PySem.W.dataLe false fun z : D × V × PyData => z.2.2)).map (·.2.1) := by
    rw [← tri_vp hl hv, ← List.map_mergeSort (f := fun z : D × V × PyData => (z.2.1, z.2.2)) (r := PySem.W.dataLe false fun z : D × V × PyData => z.2.2) (s := PySem.W.dataLe false Prod.snd) (fun a _ b _ => rfl), List.map_map]
    rfl
  rw [e1, e2]
  exact rds_tri fun z hz => tri_rd r z ((List.mergeSort_perm _ _).mem_iff.mp hz)
theorem pys_length : ∀ {xs : List D} {ps : List PyData}, D.pys xs = some ps → xs.length = ps.length
  | [], ps, h => by cases h; rfl
  | x :: xs, ps, h => by
    unfold D.pys at h
    cases e1 : x.py with
    | none => simp only [e1] at h; cases h
    | some p =>
      cases e2 : D.pys xs with
      | none => simp only [e1, e2] at h; cases h
      | some qs =>
        simp only [e1, e2] at h
        cases h
        rw [List.length_cons, List.length_cons, pys_length e2]
theorem c_sorted : CallM K (rSortD K) sortedD := by
  intro W g S H ds vs Q R r p
  match ds, r, p with
  | [], _, p => exact p.elim
  | _ :: _ :: _, _, p => exact p.elim
  | [d], r, p =>
    obtain ⟨v, rfl, r0⟩ := r.one
    unfold sortedD at p
    simp only at p
    cases e : d.asL S with
    | none => simp only [e] at p; exact p.elim
    | some xs =>
      cases e2 : D.pys xs with
      | none => simp only [e, e2] at p; exact p.elim
      | some ps =>
        simp only [e, e2] at p
        by_cases h : srtB ps = true
        · rw [if_pos h] at p
          obtain ⟨a, ws, rfl, h1, h2⟩ := r0.asL R e
          refine ⟨a, ws, ps, rfl, h1, RDs.py R.sub h2 e2, h, fun q hq => ?_⟩
          exact p _ _ (Gh.add_ext (R.newG hq)) (R.add hq) _ (.lst upd_same ((rds_sort h2 (pys_length e2)).mono (Gh.add_ext (R.newG hq)).toExtG))
        · rw [if_neg h] at p; exact p.elim

/-! ### a comprehension whose list is a cell -/
theorem Rep.unside {g : Gh} {S : Store} {H : Hp} (R : Rep K g S H) {p : Addr} {o : HO} {F : Hp} (hp : g.F p = some o) (hF : ∀ a u, F a = some u → g.F a = some u ∧ a ≠ p) : Rep K { g with F := F } S (fun b => if b = p then none else H b) := by
  obtain ⟨f1, f2, f3⟩ := R.frm p o hp
  have x : ExtG g { g with F := F } := ⟨Same.refl _, Nat.le_refl _, fun _ _ => rfl⟩
  refine ⟨fun b u e => ?_, R.len, fun k c e => ?_, R.inj, fun a u e => ?_⟩
  · have ne : b ≠ p := fun z => by
      have e' : g.G b = some u := e
      rw [z, f2] at e'; cases e'
    show (if b = p then none else H b) = some u
    rw [if_neg ne]
    exact R.sub b u e
  · cases c with
    | dead => trivial
    | lst ds =>
      obtain ⟨h1, vs, h2, h3⟩ := R.cel k _ e
      refine ⟨h1, vs, ?_, h3.mono x⟩
      show (if g.m k = p then none else H (g.m k)) = _
      rw [if_neg (f3 k (by rw [e]; trivial))]
      exact h2
  · obtain ⟨q1, q2⟩ := hF a u e
    obtain ⟨h1, h2, h3⟩ := R.frm a u q1
    refine ⟨?_, h2, h3⟩
    show (if a = p then none else H a) = some u
    rw [if_neg q2]
    exact h1
theorem Rep.settleCell {g : Gh} {S : Store} {H : Hp} (R : Rep K g S H) {p : Addr} {ds : List D} {vs : List V} {F : Hp} (hp : g.F p = some (.lst vs)) (hF : ∀ a u, F a = some u → g.F a = some u ∧ a ≠ p) (h : RDs K g ds vs) : Rep K (({ g with F := F } : Gh).cell p) (S ++ [.lst ds]) H ∧ ExtG g (({ g with F := F } : Gh).cell p) := by
  obtain ⟨f1, f2, f3⟩ := R.frm p _ hp
  have x : ExtG g { g with F := F } := ⟨Same.refl _, Nat.le_refl _, fun _ _ => rfl⟩
  have R1 := R.unside hp hF
  have R2 := R1.cell (p := p) (ds := ds) (vs := vs) (if_pos rfl) (h.mono x)
  have e : upd (fun b => if b = p then none else H b) p (.lst vs) = H := by
    funext b
    by_cases c : b = p
    · subst c; rw [upd_same]; exact f1.symm
    · rw [upd_ne c, if_neg c]
  rw [e] at R2
  exact ⟨R2, x.trans Gh.cell_ext.toExtG⟩
def fLcN (vs : List Nat) (it : F (List D)) (k : FG) (t : F Bool) (e : FE) : FE := fun ρ S => (it ρ S).bind fun ds S1 => if ds.length ≤ line then (compF k t e (wipeD ρ vs) ds S1).bind fun ys S2 => .ok (.cell S2.length) (S2 ++ [.lst ys]) else .no
theorem lc_readN {vs ws : List Nat} {fi : F (List D)} {k : FG} {ft : F Bool} {fe : FE} (hws : ∀ i ∈ ws, i ∈ vs) {σ : L2.St} {H : Hp} {C : Gh → Store → Hp → D → Prop} {Q : VK}
    (hC : ∀ g S H d, Rep K g S H → C g S H d → ∀ v, RD K g d v → Q v H)
    (h : rd K W (fLcN vs fi k ft fe) σ H C) : tLc (rdI K W fi) (rdG K E00 ws k) (rdT K E00 ft) (rdE K E00 fe) vs σ H Q := by
  obtain ⟨g0, S0, ρ0, R0, rs0, p0⟩ := h
  refine ⟨g0, S0, ρ0, R0, rs0, (pst.bind p0).mp fun g1 S1 H1 ds x1 R1 p1 J hJ A hA => ?_⟩
  have rs1 := (rs0.mono x1.toExtG).wipe vs
  by_cases hlen : ds.length ≤ line
  · rw [if_pos hlen] at p1
    rcases compF_noex (k := k) (t := ft) (e := fe) (ρ := wipeD ρ0 vs) ds S1 with ⟨zs, S9, e9⟩ | e9
    · rw [e9] at p1
      have p2 : ∀ g' H', Ext g1 g' → Rep K g' (S9 ++ [.lst zs]) H' → C g' (S9 ++ [.lst zs]) H' (.cell S9.length) := p1
      have hF1 : ∀ a u, g1.F a = some u → a ≠ A := fun a u e => by
        have := (R1.frm a u e).1
        exact ne_of_none this hA
      refine ⟨fun i m H => i + m = ds.length ∧ ∃ g S acc us ys, ExtG g1 g ∧ g.F = upd g1.F A (.lst us) ∧ Rep K g S H ∧ RDs K g acc us ∧ acc.length ≤ i ∧ compF k ft fe (wipeD ρ0 vs) (ds.drop i) S = .ok ys S9 ∧ zs = acc ++ ys,
        ⟨ds.length, by omega, g1.aside A (.lst []), S1, [], [], zs, ⟨Same.refl _, Nat.le_refl _, fun _ _ => rfl⟩, rfl, R1.aside hA, .nil, Nat.le_refl _, e9, rfl⟩, ?_⟩
      rintro i m H ⟨hm, g, S, acc, us, ys, x, hF, R, ra, hacc, ec, ez⟩
      obtain ⟨stop, item⟩ := hJ g S H x R
      by_cases hi : i < ds.length
      · have ed : ds[i]? = some ds[i] := List.getElem?_eq_getElem hi
        obtain ⟨go, yl⟩ := item i ds[i] ed
        rw [List.drop_eq_getElem_cons hi] at ec
        obtain ⟨ρa, Sa, ea, ec⟩ := Out.noex_ok ec
        obtain ⟨b, Sb, eb, ec⟩ := Out.noex_ok ec
        refine .inr ⟨go, fun H' => ∃ g S acc us ys, ExtG g1 g ∧ g.F = upd g1.F A (.lst us) ∧ Rep K g S H' ∧ RDs K g acc us ∧ acc.length ≤ i + 1 ∧ compF k ft fe (wipeD ρ0 vs) (ds.drop (i + 1)) S = .ok ys S9 ∧ zs = acc ++ ys, fun H' h => ⟨m - 1, by omega, by omega, h⟩, fun v H' y => ?_⟩
        obtain ⟨g2, x2, R2, r2⟩ := yl v H' y
        have xx := x.trans x2.toExtG
        refine ⟨g2, S, wipeD ρ0 vs, ds[i], R2, rs1.mono xx, r2, ?_⟩
        rw [ea]
        intro g3 H3 x3 R3 σ3 rs3 off
        obtain ⟨o1, o2⟩ := off_of_wipe off
        refine ⟨?_, ?_⟩
        · refine wipe_ext (o1.trans (wipe_length _ _)) fun j hj => ?_
          rw [o2 j fun z => hj (hws j z), wipe_keep hj]
        refine ⟨g3, Sa, ρa, R3, rs3, ?_⟩
        rw [eb]
        intro g4 H4 x4 R4
        have hF4 : g4.F = upd g1.F A (.lst us) := x4.F.trans (x3.F.trans (x2.F.trans hF))
        have xx4 := (xx.trans x3.toExtG).trans x4.toExtG
        cases b with
        | false => exact ⟨g4, Sb, acc, us, ys, xx4, hF4, R4, ra.mono ((x2.toExtG.trans x3.toExtG).trans x4.toExtG), by omega, ec, ez⟩
        | true =>
          obtain ⟨dy, Sc, ey, ec⟩ := Out.noex_ok ec
          obtain ⟨yt, Sd, ey2, ec⟩ := Out.bind_eq_ok ec
          cases ec
          refine ⟨g4, Sb, ρa, R4, rs3.mono x4.toExtG, ?_⟩
          rw [ey]
          intro g5 H5 x5 R5 vy ry
          have hF5 : g5.F = upd g1.F A (.lst us) := x5.F.trans hF4
          have hFA : g5.F A = some (.lst us) := by rw [hF5, upd_same]
          refine ⟨us, (R5.frm A _ hFA).1, ?_, ?_⟩
          · have := ra.length
            rw [line_eq] at hlen
            omega
          · have x6 : ExtG g5 (g5.aside A (.lst (us ++ [vy]))) := ⟨Same.refl _, Nat.le_refl _, fun _ _ => rfl⟩
            have x56 := x5.toExtG.trans x6
            refine ⟨g5.aside A (.lst (us ++ [vy])), Sc, acc ++ [dy], us ++ [vy], yt, xx4.trans x56, ?_, R5.again hFA, ?_, ?_, ey2, ?_⟩
            · show upd g5.F A _ = _
              rw [hF5, upd_upd]
            · exact (ra.mono (((x2.toExtG.trans x3.toExtG).trans x4.toExtG).trans x56)).append (.cons (ry.mono x6) .nil)
            · rw [List.length_append]
              exact Nat.succ_le_succ hacc
            · rw [ez, List.append_assoc]; rfl
      · have e : i = ds.length := by omega
        subst e
        rw [List.drop_length] at ec
        cases ec
        rw [List.append_nil] at ez
        subst ez
        have hFA : g.F A = some (.lst us) := by rw [hF, upd_same]
        obtain ⟨R', x'⟩ := R.settleCell (F := g1.F) hFA (fun a u e => ⟨by rw [hF, upd_ne (hF1 a u e)]; exact e, hF1 a u e⟩) ra
        refine .inl ⟨stop, hC _ _ _ _ R' (p2 _ H ⟨x.trans x', rfl⟩ R') _ ?_⟩
        exact .cell (by rw [R.len]; exact Nat.lt_succ_self _) (if_pos R.len)
    · rw [e9] at p1; exact p1.elim
  · rw [if_neg hlen] at p1; exact p1.elim
theorem me_lcN {elt tg iter : Expr} {ifs : List Expr} {scope : Scope} {own : List (Str × Nat)} {pos : Pos} {fi : F (List D)} {ws : List Nat} {k : FG} {ft : F Bool} {fe : FE} (hc : X.calm = true) (hN : X.N.Nodup) (ok : BlkOk X.N X.env.scope scope own) (hws : ∀ i ∈ ws, i ∈ own.map (·.2)) (hi : MI X W tg iter fi)
    (hg : ∀ (s : Shared) (H : Hp) (C : Addr) (cl : List (Str × Addr)) (fp : List Addr), MG (X.blk s H scope (compEnvC scope cl C X.env) fp) E00 tg ws k) (ht : ∀ (s : Shared) (H : Hp) (C : Addr) (cl : List (Str × Addr)) (fp : List Addr), PTs (X.blk s H scope (compEnvC scope cl C X.env) fp) ifs (rdT X.K E00 ft))
    (he : ∀ (s : Shared) (H : Hp) (C : Addr) (cl : List (Str × Addr)) (fp : List Addr), ME (X.blk s H scope (compEnvC scope cl C X.env) fp) E00 elt fe) (hs : ∀ x, foldedSetIterable iter X.env x = pure x := by intro _; rfl) :
    ME X W (.ListComp elt [⟨tg, iter, ifs, 0⟩] scope pos) (fLcN (own.map (·.2)) fi k ft fe) :=
  PE.imp (pe_lc hc hN hi ok hg ht he hs) fun σ H Q h => lc_readN hws (fun g S H d R c v r => c v r) h
theorem ms_setLcN {i : Nat} {y : Str} {py : Pos} {elt tg iter : Expr} {ifs : List Expr} {scope : Scope} {own : List (Str × Nat)} {pos spos : Pos} {fi : F (List D)} {ws : List Nat} {k : FG} {ft : F Bool} {fe : FE} (hc : X.calm = true) (hN : X.N.Nodup) (hy : X.N[i]? = some y) (hyl : X.env.scope.names.lookup y = some .local)
    (hsw : swapsWith (.ListComp elt [⟨tg, iter, ifs, 0⟩] scope pos) (some (.Name y py)) spos.line X.env = pure true) (ok : BlkOk X.N X.env.scope scope own) (hws : ∀ i ∈ ws, i ∈ own.map (·.2)) (hi : MI X W tg iter fi)
    (hg : ∀ (s : Shared) (H : Hp) (C : Addr) (cl : List (Str × Addr)) (fp : List Addr), MG (X.blk s H scope (compEnvC scope cl C X.env) fp) E00 tg ws k) (ht : ∀ (s : Shared) (H : Hp) (C : Addr) (cl : List (Str × Addr)) (fp : List Addr), PTs (X.blk s H scope (compEnvC scope cl C X.env) fp) ifs (rdT X.K E00 ft))
    (he : ∀ (s : Shared) (H : Hp) (C : Addr) (cl : List (Str × Addr)) (fp : List Addr), ME (X.blk s H scope (compEnvC scope cl C X.env) fp) E00 elt fe) (hs : ∀ x, foldedSetIterable iter X.env x = pure x := by intro _; rfl) :
    MS X W (.Assign [.Name y py] (.ListComp elt [⟨tg, iter, ifs, 0⟩] scope pos) spos) (fSet i (fLcN (own.map (·.2)) fi k ft fe)) :=
  PS.imp (ps_setLc hc hN hy hyl hsw hi ok hg ht he hs) fun D' σ H h => by
    obtain ⟨g, S, ρ, R, rs, p⟩ := h
    refine lc_readN (C := fun g _ H' d => ∀ v, RD X.K g d v → gName i v σ H' D'.nx) hws (fun g S H d R c v r => c v r) ⟨g, S, ρ, R, rs, (pst.bind p).mp fun g1 S1 H1 d x R1 q v r => ?_⟩
    exact pst.here q R1 _ ((rs.mono x.toExtG).set i r)


/-! ### a comprehension over a cell -/
def compC (c : Nat) (k : FG) (t : F Bool) (e : FE) (ρ : Sl) : Nat → Nat → Store → Out (List D)
  | 0, _, _ => .no
  | n + 1, i, S => match S[c]? with
    | some (.lst xs) => match xs[i]? with
      | none => .ok [] S
      | some d => (k d ρ S).noex.bind fun ρ1 S1 => (t ρ1 S1).noex.bind fun b S2 => if b = true then (e ρ1 S2).noex.bind fun y S3 => (compC c k t e ρ n (i + 1) S3).bind fun ys S4 => .ok (y :: ys) S4 else compC c k t e ρ n (i + 1) S2
    | _ => .no
theorem compC_notEx {c : Nat} {k : FG} {t : F Bool} {e : FE} {ρ : Sl} : ∀ (n i : Nat) (S : Store), NotEx (compC c k t e ρ n i S)
  | 0, _, _ => notEx_no
  | n + 1, i, S => by
    unfold compC
    split
    · split
      · exact notEx_ok
      · exact notEx_noex fun ρ1 S1 => notEx_noex fun b S2 => by
          cases b with
          | false => exact compC_notEx n _ _
          | true => exact notEx_noex fun y S3 => notEx_bind (compC_notEx n _ _) fun _ _ => notEx_ok
    · exact notEx_no
theorem compC_noex {c : Nat} {k : FG} {t : F Bool} {e : FE} {ρ : Sl} (n i : Nat) (S : Store) : (∃ ys S', compC c k t e ρ n i S = .ok ys S') ∨ compC c k t e ρ n i S = .no := by
  have h := compC_notEx (c := c) (k := k) (t := t) (e := e) (ρ := ρ) n i S
  cases q : compC c k t e ρ n i S with
  | ok a S' => exact .inl ⟨a, S', rfl⟩
  | ex e' S' => rw [q] at h; exact absurd rfl (h e' S')
  | no => exact .inr rfl
def fLcC (vs : List Nat) (o : FE) (k : FG) (t : F Bool) (e : FE) : FE := fun ρ S => (o ρ S).bind fun d S1 => match d with
  | .cell c => match S1[c]? with
    | some (.lst xs) => if xs.length < line then (compC c k t e (wipeD ρ vs) (xs.length + 1) 0 S1).bind fun ys S2 => .ok (.lst ys) S2 else .no
    | _ => .no
  | _ => .no
theorem lc_readC {vs ws : List Nat} {fo : FE} {k : FG} {ft : F Bool} {fe : FE} (hws : ∀ i ∈ ws, i ∈ vs) {σ : L2.St} {H : Hp} {C : Gh → Store → Hp → D → Prop} {Q : VK}
    (hC : ∀ g S H d, Rep K g S H → C g S H d → ∀ v, RD K g d v → Q v H)
    (h : rd K W (fLcC vs fo k ft fe) σ H C) : tLc (rSeqI K (rdE K W fo)) (rdG K E00 ws k) (rdT K E00 ft) (rdE K E00 fe) vs σ H Q := by
  obtain ⟨g0, S0, ρ0, R0, rs0, p0⟩ := h
  refine ⟨g0, S0, ρ0, R0, rs0, (pst.bind p0).mp fun g1 S1 H1 d x1 R1 p1 v rv => ?_⟩
  cases rv with
  | cell h1 h2 =>
    rename_i kc a
    simp only at p1
    cases ek : S1[kc]? with
    | none => rw [ek] at p1; exact p1.elim
    | some cc =>
      cases cc with
      | dead => rw [ek] at p1; exact p1.elim
      | lst ds =>
        rw [ek] at p1
        simp only at p1
        obtain ⟨_, us0, q1, q2⟩ := R1.cel kc _ ek
        refine ⟨a, rfl, .inl ⟨us0, by rw [← h2]; exact .inl (.inl q1), fun A hA => ?_⟩⟩
        have rs1 := (rs0.mono x1.toExtG).wipe vs
        by_cases hlen : ds.length < line
        · rw [if_pos hlen] at p1
          rcases compC_noex (c := kc) (k := k) (t := ft) (e := fe) (ρ := wipeD ρ0 vs) (ds.length + 1) 0 S1 with ⟨zs, S9, e9⟩ | e9
          · rw [e9] at p1
            have p2 : ∀ g' H', Ext g1 g' → Rep K g' S9 H' → C g' S9 H' (.lst zs) := p1
            have hF1 : ∀ a u, g1.F a = some u → a ≠ A := fun a u e => by
              have := (R1.frm a u e).1
              exact ne_of_none this hA
            refine ⟨fun i m H => i + m = ds.length + 1 ∧ ∃ g S acc us ys, ExtG g1 g ∧ g.F = upd g1.F A (.lst us) ∧ Rep K g S H ∧ RDs K g acc us ∧ acc.length ≤ i ∧ compC kc k ft fe (wipeD ρ0 vs) m i S = .ok ys S9 ∧ zs = acc ++ ys,
              ⟨ds.length + 1, by omega, g1.aside A (.lst []), S1, [], [], zs, ⟨Same.refl _, Nat.le_refl _, fun _ _ => rfl⟩, rfl, R1.aside hA, .nil, Nat.le_refl _, e9, rfl⟩, ?_⟩
            rintro i m H ⟨hm, g, S, acc, us, ys, x, hF, R, ra, hacc, ec, ez⟩
            cases m with
            | zero => cases ec
            | succ m =>
              unfold compC at ec
              cases ek2 : S[kc]? with
              | none => rw [ek2] at ec; cases ec
              | some cc2 =>
                cases cc2 with
                | dead => rw [ek2] at ec; cases ec
                | lst xs =>
                  rw [ek2] at ec
                  simp only at ec
                  obtain ⟨_, us2, w1, w2⟩ := R.cel kc _ ek2
                  have ha : g.m kc = a := (x.m kc h1).trans h2
                  rw [ha] at w1
                  have hq : SqL K H a us2 := .inl (.inl w1)
                  cases ei : xs[i]? with
                  | none =>
                    rw [ei] at ec
                    simp only at ec
                    cases ec
                    rw [List.append_nil] at ez
                    subst ez
                    have hFA : g.F A = some (.lst us) := by rw [hF, upd_same]
                    obtain ⟨R', x'⟩ := R.settle (F := g1.F) hFA fun a u e => ⟨by rw [hF, upd_ne (hF1 a u e)]; exact e, hF1 a u e⟩
                    have hi : xs.length ≤ i := List.getElem?_eq_none_iff.mp ei
                    refine .inl ⟨⟨us2, hq, by rw [w2.length]; exact hi⟩, hC _ _ _ _ R' (p2 _ H ⟨x.trans x', rfl⟩ R') _ ?_⟩
                    exact .lst upd_same (ra.mono x')
                  | some d =>
                    rw [ei] at ec
                    simp only at ec
                    obtain ⟨ρa, Sa, ea, ec⟩ := Out.noex_ok ec
                    obtain ⟨b, Sb, eb, ec⟩ := Out.noex_ok ec
                    obtain ⟨v, z1, z2⟩ := w2.get ei
                    refine .inr ⟨⟨us2, v, hq, z1⟩, fun H' => ∃ g S acc us ys, ExtG g1 g ∧ g.F = upd g1.F A (.lst us) ∧ Rep K g S H' ∧ RDs K g acc us ∧ acc.length ≤ i + 1 ∧ compC kc k ft fe (wipeD ρ0 vs) m (i + 1) S = .ok ys S9 ∧ zs = acc ++ ys, fun H' h => ⟨m, by omega, by omega, h⟩, fun v' H' y => ?_⟩
                    obtain ⟨rfl, y2⟩ := y
                    have ev : v' = v := Option.some.inj ((y2 us2 hq).symm.trans z1)
                    subst ev
                    refine ⟨g, S, wipeD ρ0 vs, d, R, rs1.mono x, z2, ?_⟩
                    rw [ea]
                    intro g3 H3 x3 R3 σ3 rs3 off
                    obtain ⟨o1, o2⟩ := off_of_wipe off
                    refine ⟨?_, ?_⟩
                    · refine wipe_ext (o1.trans (wipe_length _ _)) fun j hj => ?_
                      rw [o2 j fun z => hj (hws j z), wipe_keep hj]
                    refine ⟨g3, Sa, ρa, R3, rs3, ?_⟩
                    rw [eb]
                    intro g4 H4 x4 R4
                    have hF4 : g4.F = upd g1.F A (.lst us) := x4.F.trans (x3.F.trans hF)
                    have xx4 := (x.trans x3.toExtG).trans x4.toExtG
                    cases b with
                    | false => exact ⟨g4, Sb, acc, us, ys, xx4, hF4, R4, ra.mono (x3.toExtG.trans x4.toExtG), by omega, ec, ez⟩
                    | true =>
                      obtain ⟨dy, Sc, ey, ec⟩ := Out.noex_ok ec
                      obtain ⟨yt, Sd, ey2, ec⟩ := Out.bind_eq_ok ec
                      cases ec
                      refine ⟨g4, Sb, ρa, R4, rs3.mono x4.toExtG, ?_⟩
                      rw [ey]
                      intro g5 H5 x5 R5 vy ry
                      have hF5 : g5.F = upd g1.F A (.lst us) := x5.F.trans hF4
                      have hFA : g5.F A = some (.lst us) := by rw [hF5, upd_same]
                      refine ⟨us, (R5.frm A _ hFA).1, ?_, ?_⟩
                      · have := ra.length
                        rw [line_eq] at hlen
                        omega
                      · have x6 : ExtG g5 (g5.aside A (.lst (us ++ [vy]))) := ⟨Same.refl _, Nat.le_refl _, fun _ _ => rfl⟩
                        have x56 := x5.toExtG.trans x6
                        refine ⟨g5.aside A (.lst (us ++ [vy])), Sc, acc ++ [dy], us ++ [vy], yt, xx4.trans x56, ?_, R5.again hFA, ?_, ?_, ey2, ?_⟩
                        · show upd g5.F A _ = _
                          rw [hF5, upd_upd]
                        · exact (ra.mono ((x3.toExtG.trans x4.toExtG).trans x56)).append (.cons (ry.mono x6) .nil)
                        · rw [List.length_append]
                          exact Nat.succ_le_succ hacc
                        · rw [ez, List.append_assoc]; rfl
          · rw [e9] at p1; exact p1.elim
        · rw [if_neg hlen] at p1; exact p1.elim
  | _ => exact p1.elim
theorem me_lcC {elt tg iter : Expr} {ifs : List Expr} {scope : Scope} {own : List (Str × Nat)} {pos : Pos} {fo : FE} {ws : List Nat} {k : FG} {ft : F Bool} {fe : FE} (hc : X.calm = true) (hN : X.N.Nodup) (ok : BlkOk X.N X.env.scope scope own) (hws : ∀ i ∈ ws, i ∈ own.map (·.2)) (hi : ME X W iter fo)
    (hg : ∀ (s : Shared) (H : Hp) (C : Addr) (cl : List (Str × Addr)) (fp : List Addr), MG (X.blk s H scope (compEnvC scope cl C X.env) fp) E00 tg ws k) (ht : ∀ (s : Shared) (H : Hp) (C : Addr) (cl : List (Str × Addr)) (fp : List Addr), PTs (X.blk s H scope (compEnvC scope cl C X.env) fp) ifs (rdT X.K E00 ft))
    (he : ∀ (s : Shared) (H : Hp) (C : Addr) (cl : List (Str × Addr)) (fp : List Addr), ME (X.blk s H scope (compEnvC scope cl C X.env) fp) E00 elt fe) (hs : ∀ x, foldedSetIterable iter X.env x = pure x := by intro _; rfl) :
    ME X W (.ListComp elt [⟨tg, iter, ifs, 0⟩] scope pos) (fLcC (own.map (·.2)) fo k ft fe) :=
  PE.imp (pe_lc hc hN (pi_seq hi) ok hg ht he hs) fun σ H Q h => lc_readC hws (fun g S H d R c v r => c v r) h
theorem ms_setLcC {i : Nat} {y : Str} {py : Pos} {elt tg iter : Expr} {ifs : List Expr} {scope : Scope} {own : List (Str × Nat)} {pos spos : Pos} {fo : FE} {ws : List Nat} {k : FG} {ft : F Bool} {fe : FE} (hc : X.calm = true) (hN : X.N.Nodup) (hy : X.N[i]? = some y) (hyl : X.env.scope.names.lookup y = some .local)
    (hsw : swapsWith (.ListComp elt [⟨tg, iter, ifs, 0⟩] scope pos) (some (.Name y py)) spos.line X.env = pure true) (ok : BlkOk X.N X.env.scope scope own) (hws : ∀ i ∈ ws, i ∈ own.map (·.2)) (hi : ME X W iter fo)
    (hg : ∀ (s : Shared) (H : Hp) (C : Addr) (cl : List (Str × Addr)) (fp : List Addr), MG (X.blk s H scope (compEnvC scope cl C X.env) fp) E00 tg ws k) (ht : ∀ (s : Shared) (H : Hp) (C : Addr) (cl : List (Str × Addr)) (fp : List Addr), PTs (X.blk s H scope (compEnvC scope cl C X.env) fp) ifs (rdT X.K E00 ft))
    (he : ∀ (s : Shared) (H : Hp) (C : Addr) (cl : List (Str × Addr)) (fp : List Addr), ME (X.blk s H scope (compEnvC scope cl C X.env) fp) E00 elt fe) (hs : ∀ x, foldedSetIterable iter X.env x = pure x := by intro _; rfl) :
    MS X W (.Assign [.Name y py] (.ListComp elt [⟨tg, iter, ifs, 0⟩] scope pos) spos) (fSet i (fLcC (own.map (·.2)) fo k ft fe)) :=
  PS.imp (ps_setLc hc hN hy hyl hsw (pi_seq hi) ok hg ht he hs) fun D' σ H h => by
    obtain ⟨g, S, ρ, R, rs, p⟩ := h
    refine lc_readC (C := fun g _ H' d => ∀ v, RD X.K g d v → gName i v σ H' D'.nx) hws (fun g S H d R c v r => c v r) ⟨g, S, ρ, R, rs, (pst.bind p).mp fun g1 S1 H1 d x R1 q v r => ?_⟩
    exact pst.here q R1 _ ((rs.mono x.toExtG).set i r)

theorem bb_sorted : bootBuiltins "sorted" = some (.builtin "sorted") := by kernel_rfl
end
end MK

namespace MK
open PySem PySem.Spec PyProof.Rows L2
section
variable {X : Cx} {W : XK} {K : PySem.W.Frag}
/-! ### texts: *, slices, str(n) -/
theorem str_mul_ok {z : Str} {n : Int} (h : -(2 ^ 63) ≤ n ∧ n ≤ 1000000 ∧ z.length ≤ 10) : MulOk z n := by
  obtain ⟨h1, h2, h3⟩ := h
  refine ⟨?_, fun h4 _ => ?_, fun h4 _ => ?_⟩
  · rw [decide_eq_false (by omega), decide_eq_false (by omega)]
    rfl
  · have : (2 ^ 63 - 1) / n ≥ 10 := by
      refine (Int.le_ediv_iff_mul_le (by omega)).mpr ?_
      omega
    omega
  · unfold Builtin.Str.tooLong
    have : z.length * n.toNat ≤ 10 * 1000000 := Nat.mul_le_mul h3 (by omega)
    refine decide_eq_false ?_
    rw [sizeLine_eq]
    omega
def mulS : B2 := fun x y S => match x, y with
  | .str z, .int n => if -(2 ^ 63) ≤ n ∧ n ≤ 1000000 ∧ z.length ≤ 10 then .ok (.str (Txt.mul z n)) S else .no
  | _, _ => mulD x y S
def rMulS : R2 := fun x y H Q => ∃ z n, x = V.str z ∧ y = V.int n ∧ MulOk z n ∧ Q (.str (Txt.mul z n)) H
theorem op_mul_str : OpR X (binaryOp .Mult) rMulS := by
  intro pins s σ H x y v u Q I rx ry h
  obtain ⟨z, n, rfl, rfl, hok, q⟩ := h
  obtain ⟨t, rfl⟩ := rx
  obtain ⟨t', rfl⟩ := ry
  exact PySem.SB.mul hok fun t2 k => ⟨.str _, H, I.kept (t' := k) fun b o e => e, ⟨_, rfl⟩, q⟩
abbrev rMulSA : R2 := fun x y H Q => rMulA x y H Q ∨ rMulS x y H Q
theorem or_mulS : OpR X (binaryOp .Mult) rMulSA := or_mul.or op_mul_str
theorem mulS_cases (x y : D) (S : Store) : (∃ z n, x = .str z ∧ y = .int n ∧ mulS x y S = if -(2 ^ 63) ≤ n ∧ n ≤ 1000000 ∧ z.length ≤ 10 then .ok (.str (Txt.mul z n)) S else .no) ∨ mulS x y S = mulD x y S := by
  cases x <;> cases y <;> first | exact .inl ⟨_, _, rfl, rfl, rfl⟩ | exact .inr rfl
theorem o_mulS : Op2 K rMulSA mulS := by
  intro W g S H dx dy x y Q R rx ry p
  rcases mulS_cases dx dy S with ⟨z, n, rfl, rfl, e⟩ | e
  · rw [e] at p
    cases rx
    cases ry
    by_cases c : -(2 ^ 63) ≤ n ∧ n ≤ 1000000 ∧ z.length ≤ 10
    · rw [if_pos c] at p
      exact .inr ⟨z, n, rfl, rfl, str_mul_ok c, pst.here p R _ (.str _)⟩
    · rw [if_neg c] at p
      exact p.elim
  · rw [e] at p
    exact .inl (o_mul W g S H dx dy x y Q R rx ry p)
/-- slices of texts too -/
def slS (x : D) (lo hi : Option Int) (S : Store) : Out D := match x with
  | .str z => if z.length ≤ line then .ok (.str (cutS z lo hi)) S else .no
  | _ => slD x lo hi S
def fSlS (a : FE) (lo hi : F (Option Int)) : FE := fun ρ S => (a ρ S).bind fun x S1 => (lo ρ S1).bind fun l S2 => (hi ρ S2).bind fun u S3 => slS x l u S3
theorem slS_cases (x : D) (lo hi : Option Int) (S : Store) : (∃ z, x = .str z ∧ slS x lo hi S = if z.length ≤ line then .ok (.str (cutS z lo hi)) S else .no) ∨ slS x lo hi S = slD x lo hi S := by
  cases x <;> first | exact .inl ⟨_, rfl, rfl⟩ | exact .inr rfl
theorem me_sliceS {e : Expr} {lo hi : Option Expr} {p2 pos : Pos} {f : FE} {fl fh : F (Option Int)} (he : ME X W e f) (hl : MO X W lo fl) (hu : MO X W hi fh) : ME X W (.Subscript e (.Slice lo hi none p2) pos) (fSlS f fl fh) :=
  PE.imp (pe_slice ((sl_list.or sl_tupA).or sl_str) he hl hu) fun σ H Q h => by
    obtain ⟨g, S, ρ, R, rs, p⟩ := h
    refine ⟨g, S, ρ, R, rs, (pst.bind p).mp fun g1 S1 H1 dx x1 R1 p1 x rx => ?_⟩
    refine ⟨g1, S1, ρ, R1, rs.mono x1.toExtG, p1.bind.mp fun g2 S2 H2 l x2 R2 p2 => ?_⟩
    refine ⟨g2, S2, ρ, R2, (rs.mono x1.toExtG).mono x2.toExtG, p2.bind.mp fun g3 S3 H3 u x3 R3 p3 => ?_⟩
    have rx3 := (rx.mono x2.toExtG).mono x3.toExtG
    rcases slS_cases dx l u S3 with ⟨z, rfl, e⟩ | e
    · rw [e] at p3
      cases rx3
      by_cases c : z.length ≤ line
      · rw [if_pos c] at p3
        exact .inr ⟨z, rfl, by rw [← line_eq]; exact c, pst.here p3 R3 _ (.str _)⟩
      · rw [if_neg c] at p3; exact p3.elim
    · rw [e] at p3
      unfold slD at p3
      cases e1 : dx.asL S3 with
      | some xs =>
        rw [e1] at p3
        obtain ⟨a, vs, rfl, h1, h2⟩ := rx3.asL R3 e1
        refine .inl (.inl ⟨a, vs, rfl, h1, fun q hq => ?_⟩)
        exact p3 _ _ (Gh.add_ext (R3.newG hq)) (R3.add hq) _ (.lst upd_same ((h2.cut l u).mono (Gh.add_ext (R3.newG hq)).toExtG))
      | none =>
        cases e3 : dx.asT with
        | none => simp only [e1, e3] at p3; exact p3.elim
        | some xs =>
          simp only [e1, e3] at p3
          obtain ⟨a, vs, rfl, h1, h2⟩ := rx3.asT R3 e3
          refine .inl (.inr ⟨a, vs, rfl, h1, fun w => ?_, fun w q hq => ?_⟩)
          · rw [h2.length] at w
            rw [cut_all w] at p3
            cases rx3 with
            | tup q1 q2 =>
              cases e3
              exact pst.here p3 R3 _ (.tup q1 q2)
            | _ => cases e3
          · exact p3 _ _ (Gh.add_ext (R3.newG hq)) (R3.add hq) _ (.tup (.inl (.inl upd_same)) ((h2.cut l u).mono (Gh.add_ext (R3.newG hq)).toExtG))
/-- str(n) -/
def strD : List D → Store → Out D
  | [d], S => match d with
    | .int i => if i.natAbs.log2 < 1920 then .ok (.str (toString i)) S else .no
    | _ => .no
  | _, _ => .no
theorem c_str : CallM K (fun xs H Q => ∃ i, xs = [V.int i] ∧ i.natAbs.log2 < 1920 ∧ Q (.str (toString i)) H) strD := by
  intro W g S H ds vs Q R r p
  match ds, r, p with
  | [], _, p => exact p.elim
  | _ :: _ :: _, _, p => exact p.elim
  | [d], r, p =>
    obtain ⟨v, rfl, r0⟩ := r.one
    cases r0 with
    | int i =>
      have p' : pst K W g (if i.natAbs.log2 < 1920 then Out.ok (D.str (toString i)) S else Out.no) _ := p
      by_cases c : i.natAbs.log2 < 1920
      · rw [if_pos c] at p'
        exact ⟨i, rfl, c, pst.here p' R _ (.str _)⟩
      · rw [if_neg c] at p'; exact p'.elim
    | _ => exact p.elim
/-! n // d, d not 0 -/
def CDivB (_ j : Int) : Prop := j ≠ 0 ∧ j.natAbs.log2 < 9000
instance (i j : Int) : Decidable (CDivB i j) := inferInstanceAs (Decidable (_ ∧ _))
theorem op_fdivB : OpR X (binaryOp .FloorDiv) (rI CDivB fun i j => .int (i.fdiv j)) := opI fun _ _ _ _ _ _ _ hc q => floordiv_int hc.1 q (.inl (PyProof.noPylong_of_log2 hc.2))
def divB : B2
  | .int i, .int j, S => if CDivB i j then .ok (.int (i.fdiv j)) S else .no
  | _, _, _ => .no
theorem o_divB : Op2 K (rI CDivB fun i j => .int (i.fdiv j)) divB := o_int (fun i j S => by
    show (if CDivB i j then Out.ok (D.int (i.fdiv j)) S else Out.no) = .no ∨ (CDivB i j ∧ (if CDivB i j then Out.ok (D.int (i.fdiv j)) S else Out.no) = .ok _ S)
    by_cases h : CDivB i j
    · rw [if_pos h]; exact .inr ⟨h, rfl⟩
    · rw [if_neg h]; exact .inl rfl) fun x y S h => by
    cases x <;> first
      | rfl
      | (cases y <;> first | rfl | exact absurd ⟨rfl, rfl⟩ (h _ _))
end
end MK

namespace MK
open PySem PySem.Spec PyProof.Rows L2
/-! ### repr of ints of many digits -/
abbrev NoLim (K : PySem.W.Frag) : Prop := PySem.W.nsIn K cStatics "sys.int_max_str_digits" = some none
def wideI (a : Int) : Prop := a.natAbs.log2 < 12900
instance (a : Int) : Decidable (wideI a) := inferInstanceAs (Decidable (_ < _))
section
variable {K : PySem.W.Frag} {prog : Program} {w : World} {A : Around} {E : Value → Shared → Prop} {s : Shared}
theorem overDig {M : Model} {h₀ : Heap} {a : Int} {Q : Option Nat → Shared → Prop} (KX : K.In h₀) (hk : ∀ b o, h₀.get? b = some o → s.heap.get? b = some o) (nl : NoLim K) (h3 : wideI a) (h : Q none s) : wpAny M A (Builtin.overDigitLimit? a) Q E s := by
  unfold Builtin.overDigitLimit?
  by_cases hs : a.natAbs.log2 < 1920
  · rw [if_pos hs]
    exact wpAny_pure h
  · rw [if_neg hs]
    unfold Builtin.intMaxStrDigits
    refine wpAny_bind (wpAny_bind (PySem.W.looks_nsIn (M := M) KX nl _ _ _ _ hk (wpAny_pure ?_)))
    dsimp only
    have h3' : a.natAbs.log2 < 12900 := h3
    rw [if_neg (by omega), if_pos (by simp; omega)]
    exact wpAny_pure h
theorem wide_lt {a : Int} (h : wideI a) : a.natAbs < 10 ^ 4300 := Nat.lt_of_lt_of_le (lt_of_log2 h) pow_lo
theorem call_int_reprW {h₀ : Heap} {a : Int} {t : Tok} {Q : Value → Shared → Prop} (KX : K.In h₀) (hk : ∀ b o, h₀.get? b = some o → s.heap.get? b = some o) (nl : NoLim K) (h3 : wideI a)
    (h1 : Q (.str (toString a) s.toks) { s with toks := s.toks + 1 }) : wpAny (model prog w) A (call (.builtin "int.__repr__") [.int a t]) Q E s := by
  refine wpAny_call_entry PySem.F.slot_int_repr (typeIs_int s a t) PySem.F.entry_int_repr ?_ (PySem.F.args_int_repr_1 _)
  unfold Builtin.«int.__repr__»
  show wpAny _ _ (do let r ← Builtin.overDigitLimit? a; _) _ _ s
  refine wpAny_bind (overDig KX hk nl h3 ?_)
  exact wpAny_bind (wpAny_mkStr (wpAny_pure ⟨_, rfl, h1⟩) (int_text_fits10 (wide_lt h3)))
theorem reprK_wide {h₀ : Heap} {a : Int} {t : Tok} {d : Nat} (KX : K.In h₀) (nl : NoLim K) (h3 : wideI a) : ReprK prog w [] h₀ d (.int a t) (toString a) := by
  intro base hb A g E s Q hg hcl hu hk hQ
  have hn' : base ≤ sizeLine := by omega
  rw [pyReprUnder_leaf (v := .int a t) hn' (fun _ e => nomatch e)]
  unfold pyRepr
  refine wpAny_bind (wpAny_pyReprObj_slot (by omega) (typeIs_int s a t) PySem.F.slot_int_repr.toG ?_)
  exact call_int_reprW KX hk nl h3 ⟨_, _, rfl, wpAny_pure (hQ s.heap _ fun _ _ e => e)⟩
end
section
variable {X : Cx} {K : PySem.W.Frag}
def rReprP (K : PySem.W.Frag) : List V → Hp → VK → Prop := fun xs H Q => ∃ a i j, xs = [V.ref a] ∧ SqT K H a [V.int i, V.int j] ∧ wideI i ∧ wideI j ∧ Q (.str (tupleText [toString i, toString j])) H
theorem wide_text {a : Int} (h : wideI a) : (Str.ofString (toString a)).length ≤ 12901 := by
  rw [PySem.ofString_length]
  exact int_text_length_le (k := 12900) (by decide) h
theorem cr_reprP {k : Nat} (gd : X.A.guards = some []) (hr : Room k X.A) (nl : NoLim X.K) : CallR X (.builtin "repr") (rReprP X.K) := by
  intro pins s σ H vs us Q I r h
  obtain ⟨a, i, j, rfl, hs, hi, hj, q⟩ := h
  obtain ⟨its, rv, p, _⟩ := I.tuple hs
  obtain ⟨u, rfl, ru⟩ := vals1 r
  obtain rfl : u = Value.ref a := ru
  obtain ⟨u1, u2, rfl, r1, r2⟩ := vals2 rv
  obtain ⟨t1, rfl⟩ := r1
  obtain ⟨t2, rfl⟩ := r2
  obtain ⟨o, ho, hc, n, hd⟩ := p
  have un := hr.un
  have hT : ReprAllK X.prog X.w [] s.heap 0 [Value.int i t1, Value.int j t2] [Str.ofString (toString i), Str.ofString (toString j)] := .cons (reprK_wide I.kIn nl hi) (.cons (reprK_wide I.kIn nl hj) .nil)
  have hz : (tupleText [Str.ofString (toString i), Str.ofString (toString j)]).length ≤ sizeLine := by
    have h1 := tupleText_len_le [Str.ofString (toString i), Str.ofString (toString j)]
    have h2 := wide_text hi
    have h3 := wide_text hj
    simp only [List.map_cons, List.map_nil, List.sum_cons, List.sum_nil, List.length_cons, List.length_nil] at h1
    rw [sizeLine_eq]
    omega
  refine call_repr_slot (by omega) ⟨o, ho, hc⟩ PySem.F.slot_tuple_repr ?_
  refine call_tuple_reprK (as := []) (h₀ := s.heap) (d := 0) (A := X.A.in1) ho hc hd (by simp) hT gd (fun b _ => Clear.nil b) (by show X.A.units + 1 + (0 + 1) < cLine; omega) (fun _ _ e => e) (fun h' u tk hk => ⟨_, _, rfl, .str _, H, I.kept hk, ⟨_, rfl⟩, q⟩) hz
abbrev rReprW (K : PySem.W.Frag) : List V → Hp → VK → Prop := fun xs H Q => rReprP K xs H Q ∨ rRepr K xs H Q
theorem cr_reprW {k : Nat} (gd : X.A.guards = some []) (hr : Room k X.A) (nl : NoLim X.K) : CallR X (.builtin "repr") (rReprW X.K) := (cr_reprP gd hr nl).or (cr_repr gd hr)
def reprW : List D → Store → Out D := fun ds S => match ds with
  | [.tup [.int i, .int j]] => if wideI i ∧ wideI j then .ok (.str (tupleText [toString i, toString j])) S else .no
  | _ => reprD ds S
theorem reprW_cases (ds : List D) (S : Store) : (∃ i j, ds = [.tup [.int i, .int j]] ∧ reprW ds S = if wideI i ∧ wideI j then .ok (.str (tupleText [toString i, toString j])) S else .no) ∨ reprW ds S = reprD ds S := by
  unfold reprW
  split
  · exact .inl ⟨_, _, rfl, rfl⟩
  · exact .inr rfl
theorem c_reprW : CallM K (rReprW K) reprW := by
  intro W g S H ds vs Q R r p
  rcases reprW_cases ds S with ⟨i, j, rfl, e⟩ | e
  · rw [e] at p
    by_cases c : wideI i ∧ wideI j
    · rw [if_pos c] at p
      obtain ⟨v, rfl, r0⟩ := r.one
      cases r0 with
      | tup h1 h2 =>
        cases h2 with
        | cons a1 b1 =>
          cases b1 with
          | cons a2 b2 =>
            cases b2
            cases a1
            cases a2
            exact .inl ⟨_, i, j, rfl, sameT R.sub h1, c.1, c.2, pst.here p R _ (.str _)⟩
    · rw [if_neg c] at p
      exact p.elim
  · rw [e] at p
    exact .inr (c_repr W g S H ds vs Q R r p)
end
end MK

namespace MK
open PySem PySem.Spec PyProof.Rows L2

/-! ### plain laws of the mirrors -/
/-- it ends well, with C -/
def Post {α : Type} (o : Out α) (C : α → Store → Prop) : Prop := ∃ a S, o = .ok a S ∧ C a S
theorem Post.ok {α : Type} {a : α} {S : Store} {C : α → Store → Prop} (h : C a S) : Post (.ok a S) C := ⟨a, S, rfl, h⟩
theorem Post.of_eq {α : Type} {o : Out α} {a : α} {S : Store} {C : α → Store → Prop} (e : o = .ok a S) (h : C a S) : Post o C := ⟨a, S, e, h⟩
theorem Post.bind {α β : Type} {o : Out α} {f : α → Store → Out β} {C : β → Store → Prop} (h : Post o fun a S => Post (f a S) C) : Post (o.bind f) C := by
  obtain ⟨a, S1, e1, b, S, e2, h⟩ := h
  exact ⟨b, S, by rw [e1]; exact e2, h⟩
theorem Post.noex {α β : Type} {o : Out α} {f : α → Store → Out β} {C : β → Store → Prop} (h : Post o fun a S => Post (f a S) C) : Post (o.noex.bind f) C := by
  obtain ⟨a, S1, e1, b, S, e2, h⟩ := h
  exact ⟨b, S, by rw [e1]; exact e2, h⟩
theorem Post.mono {α : Type} {o : Out α} {C C' : α → Store → Prop} (h : Post o C) (hC : ∀ a S, C a S → C' a S) : Post o C' := let ⟨a, S, e, q⟩ := h; ⟨a, S, e, hC a S q⟩
theorem Post.guard {α : Type} {c : Prop} [Decidable c] {a : α} {S : Store} {C : α → Store → Prop} (h : c) (q : C a S) : Post (if c then .ok a S else .no) C := by rw [if_pos h]; exact .ok q
/-- when it is known what it is -/
theorem Post.eq {α : Type} {o : Out α} {a : α} {S : Store} (h : Post o fun b S' => b = a ∧ S' = S) : o = .ok a S := by
  obtain ⟨b, S', e, rfl, rfl⟩ := h
  exact e

section
variable {ρ : Sl} {S : Store}
theorem wp_var {i : Nat} {d : D} {C : D → Store → Prop} (e : ρ[i]? = some (some d)) (h : C d S) : Post (fVar i ρ S) C := by
  unfold fVar
  rw [e]
  exact .ok h
theorem wp_c {α : Type} {d : α} {C : α → Store → Prop} (h : C d S) : Post (fC d ρ S) C := .ok h
theorem wp_f2 {op : B2} {a b : FE} {C : D → Store → Prop} (h : Post (a ρ S) fun x S1 => Post (b ρ S1) fun y S2 => Post (op x y S2) C) : Post (f2 op a b ρ S) C := .bind (h.mono fun _ _ q => .bind q)
theorem wp_f1 {op : B1} {a : FE} {C : D → Store → Prop} (h : Post (a ρ S) fun x S1 => Post (op x S1) C) : Post (f1 op a ρ S) C := .bind h
theorem wp_fB {a : FE} {C : Bool → Store → Prop} (h : Post (a ρ S) fun x S1 => Post (dB x S1) C) : Post (fB a ρ S) C := .bind h
theorem wp_dB {b : Bool} {C : Bool → Store → Prop} (h : C b S) : Post (dB (.bl b) S) C := .ok h
theorem wp_not {a : F Bool} {C : Bool → Store → Prop} (h : Post (a ρ S) fun b S1 => C (!b) S1) : Post (fNot a ρ S) C := .bind (h.mono fun _ _ q => .ok q)
theorem wp_and {a k : F Bool} {C : Bool → Store → Prop} (h : Post (a ρ S) fun b S1 => (b = true → Post (k ρ S1) C) ∧ (b = false → C false S1)) : Post (fAnd a k ρ S) C := .bind (h.mono fun b S1 q => by
  cases b with
  | true => exact q.1 rfl
  | false => exact .ok (q.2 rfl))
theorem wp_or {a k : F Bool} {C : Bool → Store → Prop} (h : Post (a ρ S) fun b S1 => (b = true → C true S1) ∧ (b = false → Post (k ρ S1) C)) : Post (fOr a k ρ S) C := .bind (h.mono fun b S1 q => by
  cases b with
  | false => exact q.2 rfl
  | true => exact .ok (q.1 rfl))
theorem wp_andV {a k : FE} {C : D → Store → Prop} (h : Post (a ρ S) fun x S1 => ∃ b, x = .bl b ∧ (b = true → Post (k ρ S1) C) ∧ (b = false → C (.bl false) S1)) : Post (fAndV a k ρ S) C := .bind (h.mono fun x S1 q => by
  obtain ⟨b, rfl, q⟩ := q
  cases b with
  | true => exact q.1 rfl
  | false => exact .ok (q.2 rfl))
theorem wp_orV {a k : FE} {C : D → Store → Prop} (h : Post (a ρ S) fun x S1 => ∃ b, x = .bl b ∧ (b = true → C (.bl true) S1) ∧ (b = false → Post (k ρ S1) C)) : Post (fOrV a k ρ S) C := .bind (h.mono fun x S1 q => by
  obtain ⟨b, rfl, q⟩ := q
  cases b with
  | false => exact q.2 rfl
  | true => exact .ok (q.1 rfl))
theorem wp_notV {a : FE} {C : D → Store → Prop} (h : Post (a ρ S) fun x S1 => ∃ b, x = .bl b ∧ C (.bl (!b)) S1) : Post (fNotV a ρ S) C := .bind (h.mono fun x S1 q => by
  obtain ⟨b, rfl, q⟩ := q
  exact .ok q)
theorem wp_if {α : Type} {c : F Bool} {a b : F α} {C : α → Store → Prop} (h : Post (c ρ S) fun t S1 => (t = true → Post (a ρ S1) C) ∧ (t = false → Post (b ρ S1) C)) : Post (fIf c a b ρ S) C := .bind (h.mono fun t S1 q => by
  cases t with
  | true => exact q.1 rfl
  | false => exact q.2 rfl)
theorem wp_nil {C : List D → Store → Prop} (h : C [] S) : Post (fNil ρ S) C := .ok h
theorem wp_cons {a : FE} {r : F (List D)} {C : List D → Store → Prop} (h : Post (a ρ S) fun x S1 => Post (r ρ S1) fun xs S2 => C (x :: xs) S2) : Post (fCons a r ρ S) C := .bind (h.mono fun _ _ q => .bind (q.mono fun _ _ q => .ok q))
theorem wp_tup {r : F (List D)} {C : D → Store → Prop} (h : Post (r ρ S) fun xs S1 => xs.length ≤ line ∧ C (.tup xs) S1) : Post (fTup r ρ S) C := .bind (h.mono fun _ _ q => .guard q.1 q.2)
theorem wp_lst {r : F (List D)} {C : D → Store → Prop} (h : Post (r ρ S) fun xs S1 => xs.length ≤ line ∧ C (.lst xs) S1) : Post (fLst r ρ S) C := .bind (h.mono fun _ _ q => .guard q.1 q.2)
theorem wp_new {r : F (List D)} {C : D → Store → Prop} (h : Post (r ρ S) fun xs S1 => xs.length ≤ line ∧ C (.cell S1.length) (S1 ++ [.lst xs])) : Post (fNew r ρ S) C := .bind (h.mono fun _ _ q => .guard q.1 q.2)
theorem wp_call {f : List D → Store → Out D} {a : F (List D)} {C : D → Store → Prop} (h : Post (a ρ S) fun xs S1 => Post (f xs S1) C) : Post (fCall f a ρ S) C := .bind h
theorem wp_sl {a : FE} {lo hi : F (Option Int)} {C : D → Store → Prop} (h : Post (a ρ S) fun x S1 => Post (lo ρ S1) fun l S2 => Post (hi ρ S2) fun u S3 => Post (slD x l u S3) C) : Post (fSl a lo hi ρ S) C := .bind (h.mono fun _ _ q => .bind (q.mono fun _ _ q => .bind q))
theorem wp_O {a : FE} {C : Option Int → Store → Prop} (h : Post (a ρ S) fun x S1 => ∃ i, x = .int i ∧ C (some i) S1) : Post (fO a ρ S) C := .bind (h.mono fun x S1 q => by
  obtain ⟨i, rfl, q⟩ := q
  exact .ok q)
theorem wp_frz {a : FE} {C : D → Store → Prop} (h : Post (a ρ S) fun x S1 => ∃ k xs, x = .cell k ∧ S1[k]? = some (.lst xs) ∧ C (.lst xs) (S1.set k .dead)) : Post (fFrz a ρ S) C := .bind (h.mono fun x S1 q => by
  obtain ⟨k, xs, rfl, e, q⟩ := q
  simp only [e]
  exact .ok q)

/-! statements -/
theorem wp_next {C : Fl → Store → Prop} (h : C (.nx ρ) S) : Post (fNext ρ S) C := .ok h
/-- what follows a statement -/
def Seq (b : FS) (C : Fl → Store → Prop) : Fl → Store → Prop := fun fl S1 => match fl with
  | .nx ρ1 => Post (b ρ1 S1) C
  | .rt d => C (.rt d) S1
  | .bk ρ1 => C (.bk ρ1) S1
  | .ct ρ1 => C (.ct ρ1) S1
theorem wp_seq {a b : FS} {C : Fl → Store → Prop} (h : Post (a ρ S) (Seq b C)) : Post (fSeq a b ρ S) C := .bind (h.mono fun fl S1 q => by
  cases fl with
  | nx ρ1 => exact q
  | rt d => exact .ok q
  | bk ρ1 => exact .ok q
  | ct ρ1 => exact .ok q)
theorem wp_seqN {b : FS} {C : Fl → Store → Prop} (h : Post (b ρ S) C) : Seq b C (.nx ρ) S := h
theorem wp_seqR {b : FS} {d : D} {C : Fl → Store → Prop} (h : C (.rt d) S) : Seq b C (.rt d) S := h
theorem wp_ret {a : FE} {C : Fl → Store → Prop} (h : Post (a ρ S) fun d S1 => C (.rt d) S1) : Post (fRet a ρ S) C := .bind (h.mono fun _ _ q => .ok q)
theorem wp_set {i : Nat} {a : FE} {C : Fl → Store → Prop} (h : Post (a ρ S) fun d S1 => C (.nx (ρ.set i (some d))) S1) : Post (fSet i a ρ S) C := .bind (h.mono fun _ _ q => .ok q)
theorem wp_asg {a : FE} {k : FG} {C : Fl → Store → Prop} (h : Post (a ρ S) fun d S1 => Post (k d ρ S1) fun ρ1 S2 => C (.nx ρ1) S2) : Post (fAsg a k ρ S) C := .bind (h.mono fun _ _ q => .bind (q.mono fun _ _ q => .ok q))
theorem wp_drop {a : FE} {C : Fl → Store → Prop} (h : Post (a ρ S) fun _ S1 => C (.nx ρ) S1) : Post (fDrop a ρ S) C := .bind (h.mono fun _ _ q => .ok q)
theorem wp_par {i j : Nat} {a : F (List D)} {C : Fl → Store → Prop} (h : Post (a ρ S) fun ds S1 => ∃ x y, ds = [x, y] ∧ C (.nx ((ρ.set i (some x)).set j (some y))) S1) : Post (fPar i j a ρ S) C := .bind (h.mono fun ds S1 q => by
  obtain ⟨x, y, rfl, q⟩ := q
  exact .ok q)
theorem wp_par3 {i j l : Nat} {a : F (List D)} {C : Fl → Store → Prop} (h : Post (a ρ S) fun ds S1 => ∃ x y z, ds = [x, y, z] ∧ C (.nx (((ρ.set i (some x)).set j (some y)).set l (some z))) S1) : Post (fPar3 i j l a ρ S) C := .bind (h.mono fun ds S1 q => by
  obtain ⟨x, y, z, rfl, q⟩ := q
  exact .ok q)
theorem wp_aug {i : Nat} {op : B2} {a : FE} {C : Fl → Store → Prop} (h : Post (fVar i ρ S) fun x S0 => Post (a ρ S0) fun y S1 => Post (op x y S1) fun z S2 => C (.nx (ρ.set i (some z))) S2) : Post (fAug i op a ρ S) C := .bind (h.mono fun _ _ q => .bind (q.mono fun _ _ q => .bind (q.mono fun _ _ q => .ok q)))
theorem wp_augS {get op : B2} {st : B3} {fo fi f : FE} {C : Fl → Store → Prop} (h : Post (fo ρ S) fun o S1 => Post (fi ρ S1) fun i S2 => Post (get o i S2) fun x S3 => Post (f ρ S3) fun y S4 => Post (op x y S4) fun z S5 => Post (st o i z S5) fun _ S6 => C (.nx ρ) S6) : Post (fAugS get op st fo fi f ρ S) C :=
  .bind (h.mono fun _ _ q => .bind (q.mono fun _ _ q => .bind (q.mono fun _ _ q => .bind (q.mono fun _ _ q => .bind (q.mono fun _ _ q => .bind (q.mono fun _ _ q => .ok q))))))
theorem wp_gnm {i : Nat} {d : D} {C : Sl → Store → Prop} (h : C (ρ.set i (some d)) S) : Post (gNm i d ρ S) C := .ok h
theorem wp_gsb {op : B3} {fo fi : FE} {d : D} {C : Sl → Store → Prop} (h : Post (fo ρ S) fun o S1 => Post (fi ρ S1) fun i S2 => Post (op o i d S2) fun _ S3 => C ρ S3) : Post (gSb op fo fi d ρ S) C := .bind (h.mono fun _ _ q => .bind (q.mono fun _ _ q => .bind (q.mono fun _ _ q => .ok q)))
theorem wp_gtp {n : Nat} {f : FGs} {ds : List D} {C : Sl → Store → Prop} (hl : ds.length = n) (h : Post (f ds ρ S) C) : Post (gTp n f (.tup ds) ρ S) C := by
  show Post (if ds.length = n then f ds ρ S else .no) C
  rw [if_pos hl]
  exact h
theorem wp_gsn {C : Sl → Store → Prop} (h : C ρ S) : Post (gsNil [] ρ S) C := .ok h
theorem wp_gsc {f : FG} {k : FGs} {d : D} {r : List D} {C : Sl → Store → Prop} (h : Post (f d ρ S) fun ρ1 S1 => Post (k r ρ1 S1) C) : Post (gsCons f k (d :: r) ρ S) C := .bind h
def RunC (C : D → Store → Prop) : Fl → Store → Prop := fun fl S1 => match fl with
  | .nx _ => C .non S1
  | .rt d => C d S1
  | _ => False
theorem wp_runR {d : D} {C : D → Store → Prop} (h : C d S) : RunC C (.rt d) S := h
theorem wp_runN {C : D → Store → Prop} (h : C .non S) : RunC C (.nx ρ) S := h
theorem wp_run {N : Nat} {b : FS} {ds : List D} {C : D → Store → Prop} (h : Post (b (ds.map some ++ List.replicate (N - ds.length) none) S) (RunC C)) : Post (runB N b ds S) C := .noex (h.mono fun fl S1 q => by
  cases fl with
  | nx _ => exact .ok q
  | rt d => exact .ok q
  | bk _ => exact q.elim
  | ct _ => exact q.elim)

/-! operators at values -/
theorem wp_add {i j : Int} {C : D → Store → Prop} (h : C (.int (i + j)) S) : Post (addD (.int i) (.int j) S) C := .ok h
theorem wp_addL {xs ys : List D} {C : D → Store → Prop} (hl : xs.length + ys.length ≤ line) (h : C (.lst (xs ++ ys)) S) : Post (addD (.lst xs) (.lst ys) S) C := .guard hl h
theorem wp_addT {xs ys : List D} {C : D → Store → Prop} (hl : xs.length + ys.length ≤ line) (h : C (.tup (xs ++ ys)) S) : Post (addD (.tup xs) (.tup ys) S) C := .guard hl h
theorem wp_addI {i j : Int} {C : D → Store → Prop} (h : C (.int (i + j)) S) : Post (addID (.int i) (.int j) S) C := .ok h
theorem wp_sub {i j : Int} {C : D → Store → Prop} (h : C (.int (i - j)) S) : Post (subD (.int i) (.int j) S) C := .ok h
theorem wp_mul {i j : Int} {C : D → Store → Prop} (hl : mulOk i j) (h : C (.int (i * j)) S) : Post (mulD (.int i) (.int j) S) C := .guard hl h
theorem wp_mulL {xs : List D} {k : Int} {C : D → Store → Prop} (hl : -(2 ^ 63) ≤ k ∧ k < 2 ^ 63 ∧ xs.length * k.toNat ≤ line) (h : C (.lst (List.replicate k.toNat xs).flatten) S) : Post (mulD (.lst xs) (.int k) S) C := .guard hl h
theorem wp_div {i j : Int} {C : D → Store → Prop} (hl : divOk j) (h : C (.int (i / j)) S) : Post (divD (.int i) (.int j) S) C := .guard hl h
theorem wp_mod {i j : Int} {C : D → Store → Prop} (hl : 0 < j) (h : C (.int (i % j)) S) : Post (modD (.int i) (.int j) S) C := .guard hl h
theorem wp_pow {i j : Int} {C : D → Store → Prop} (hl : powOk i j) (h : C (.int (i ^ j.toNat)) S) : Post (powD (.int i) (.int j) S) C := .guard hl h
theorem wp_neg {i : Int} {C : D → Store → Prop} (h : C (.int (-i)) S) : Post (negD (.int i) S) C := .ok h
theorem wp_cmp {f : Int → Int → Bool} {i j : Int} {C : D → Store → Prop} (h : C (.bl (f i j)) S) : Post (cmpD f (.int i) (.int j) S) C := .ok h
theorem wp_is {d : D} {C : D → Store → Prop} (h : C (.bl (isNon d)) S) : Post (isD d .non S) C := by cases d <;> exact .ok h
theorem wp_isnot {d : D} {C : D → Store → Prop} (h : C (.bl (!isNon d)) S) : Post (isnotD d .non S) C := by cases d <;> exact .ok h
theorem wp_eqI {i j : Int} {C : D → Store → Prop} (h : C (.bl (i == j)) S) : Post (eqD (.int i) (.int j) S) C := .ok h
theorem wp_neI {i j : Int} {C : D → Store → Prop} (h : C (.bl (!(i == j))) S) : Post (neD (.int i) (.int j) S) C := .ok h
theorem wp_eqIN {i : Int} {C : D → Store → Prop} (h : C (.bl false) S) : Post (eqD (.int i) .non S) C := .ok h
theorem wp_eqNI {i : Int} {C : D → Store → Prop} (h : C (.bl false) S) : Post (eqD .non (.int i) S) C := .ok h
theorem wp_eqNN {C : D → Store → Prop} (h : C (.bl true) S) : Post (eqD .non .non S) C := .ok h
theorem wp_ixC {k : Nat} {xs : List D} {i : Int} {d : D} {C : D → Store → Prop} (hk : S[k]? = some (.lst xs)) (he : atI xs i = some d) (h : C d S) : Post (ixD (.cell k) (.int i) S) C := by
  unfold ixD D.asL
  simp only [hk, he]
  exact .ok h
theorem wp_ixL {xs : List D} {i : Int} {d : D} {C : D → Store → Prop} (he : atI xs i = some d) (h : C d S) : Post (ixD (.lst xs) (.int i) S) C := by
  unfold ixD D.asL
  simp only [he]
  exact .ok h
theorem wp_ixT {xs : List D} {i : Int} {d : D} {C : D → Store → Prop} (he : atI xs i = some d) (h : C d S) : Post (ixD (.tup xs) (.int i) S) C := by
  unfold ixD D.asL D.asT
  simp only [he]
  exact .ok h
theorem wp_ixLC {k : Nat} {xs : List D} {i : Int} {d : D} {C : D → Store → Prop} (hk : S[k]? = some (.lst xs)) (he : atI xs i = some d) (h : C d S) : Post (ixLD (.cell k) (.int i) S) C := by
  unfold ixLD D.asL
  simp only [hk, he]
  exact .ok h
theorem wp_setC {k : Nat} {xs : List D} {i : Int} {j : Nat} {v : D} {C : Unit → Store → Prop} (hk : S[k]? = some (.lst xs)) (hj : ixN xs.length i = some j) (h : C () (S.set k (.lst (xs.set j v)))) : Post (setD (.cell k) (.int i) v S) C := by
  unfold setD
  simp only [hk, hj]
  exact .ok h
theorem wp_setS {k : Nat} {xs : List D} {i : Int} {j : Nat} {v : D} {c : Cell} {C : Unit → Store → Prop} (hk : S[k]? = some c) (hj : ixN xs.length i = some j) (h : C () (S.set k (.lst (xs.set j v)))) : Post (setD (.cell k) (.int i) v (S.set k (.lst xs))) C := by
  have hk' : (S.set k (.lst xs))[k]? = some (.lst xs) := List.getElem?_set_self (List.getElem?_eq_some_iff.mp hk).1
  refine wp_setC hk' hj ?_
  rw [List.set_set]
  exact h
theorem wp_slL {xs : List D} {lo hi : Option Int} {C : D → Store → Prop} (h : C (.lst (cutD xs lo hi)) S) : Post (slD (.lst xs) lo hi S) C := .ok h
theorem wp_slF {xs : List D} {lo hi : Option Int} {C : D → Store → Prop} (h : C (.lst (cutD xs lo hi)) S) : Post (slD (.flst xs) lo hi S) C := .ok h
theorem wp_slT {xs : List D} {lo hi : Option Int} {C : D → Store → Prop} (h : C (.tup (cutD xs lo hi)) S) : Post (slD (.tup xs) lo hi S) C := .ok h
theorem wp_int {i : Int} {C : D → Store → Prop} (h : C (.int i) S) : Post (intD [.int i] S) C := .ok h
theorem wp_intB {b : Bool} {C : D → Store → Prop} (h : C (.int (if b then 1 else 0)) S) : Post (intD [.bl b] S) C := .ok h
theorem wp_abs {i : Int} {C : D → Store → Prop} (h : C (.int (if i < 0 then -i else i)) S) : Post (absD [.int i] S) C := .ok h
theorem wp_lenL {xs : List D} {C : D → Store → Prop} (h : C (.int xs.length) S) : Post (lenD [.lst xs] S) C := .ok h
theorem wp_lenT {xs : List D} {C : D → Store → Prop} (h : C (.int xs.length) S) : Post (lenD [.tup xs] S) C := .ok h
theorem wp_sumL {ns : List Int} {C : D → Store → Prop} (h : C (.int ns.sum) S) : Post (sumD [.lst (ns.map D.int)] S) C := by
  unfold sumD D.asL
  simp only [intsOf_map]
  exact .ok h
theorem wp_sumT {ns : List Int} {C : D → Store → Prop} (h : C (.int ns.sum) S) : Post (sumD [.tup (ns.map D.int)] S) C := by
  unfold sumD D.asL D.asT
  simp only [intsOf_map]
  exact .ok h
theorem wp_max2 {i j : Int} {C : D → Store → Prop} (h : C (.int (if j > i then j else i)) S) : Post (max2D [.int i, .int j] S) C := .ok h
theorem wp_min2 {i j : Int} {C : D → Store → Prop} (h : C (.int (if j < i then j else i)) S) : Post (min2D [.int i, .int j] S) C := .ok h
theorem wp_tupleL {xs : List D} {C : D → Store → Prop} (h : C (.tup xs) S) : Post (tupleD [.lst xs] S) C := .ok h
theorem wp_tupleT {xs : List D} {C : D → Store → Prop} (h : C (.tup xs) S) : Post (tupleD [.tup xs] S) C := .ok h
theorem wp_listT {xs : List D} {C : D → Store → Prop} (h : C (.lst xs) S) : Post (listD [.tup xs] S) C := .ok h
theorem wp_listL {xs : List D} {C : D → Store → Prop} (h : C (.lst xs) S) : Post (listD [.lst xs] S) C := .ok h
theorem wp_repr {d : D} {p : PyData} {C : D → Store → Prop} (e : d.pyS S = some p) (ok : reprOk p) (h : C (.str p.shown) S) : Post (reprD [d] S) C := by
  unfold reprD
  simp only [e]
  exact .guard ok h
theorem wp_eqS {a b : Str} {C : D → Store → Prop} (h : C (.bl (decide (a = b))) S) : Post (eqD (.str a) (.str b) S) C := .ok h
theorem wp_neS {a b : Str} {C : D → Store → Prop} (h : C (.bl (!decide (a = b))) S) : Post (neD (.str a) (.str b) S) C := .ok h
/-- == of data that are known -/
theorem wp_eqP {x y : D} {p q : PyData} {C : D → Store → Prop} (e1 : x.pyS S = some p) (e2 : y.pyS S = some q) (s1 : SeqAt.shaped p = true) (s2 : SeqAt.shaped q = true) (h : C (.bl (PyData.eqv p q)) S) : Post (eqD x y S) C := by
  rcases eqD_str x y S with ⟨a, b, rfl, rfl, e, _⟩ | ⟨e, _⟩
  · cases e1
    cases e2
    rw [e]
    have e3 : PyData.eqv (.str a) (.str b) = decide (a = b) := by
      unfold PyData.eqv
      exact Bool.beq_eq_decide_eq a b
    rw [e3] at h
    exact .ok h
  · rw [e]
    unfold eqP
    simp only [e1, e2]
    exact .guard ⟨s1, s2⟩ h
theorem wp_neP {x y : D} {p q : PyData} {C : D → Store → Prop} (e1 : x.pyS S = some p) (e2 : y.pyS S = some q) (s1 : SeqAt.shaped p = true) (s2 : SeqAt.shaped q = true) (h : C (.bl (!PyData.eqv p q)) S) : Post (neD x y S) C := by
  rcases eqD_str x y S with ⟨a, b, rfl, rfl, _, e⟩ | ⟨_, e⟩
  · cases e1
    cases e2
    rw [e]
    have e3 : PyData.eqv (.str a) (.str b) = decide (a = b) := by
      unfold PyData.eqv
      exact Bool.beq_eq_decide_eq a b
    rw [e3] at h
    exact .ok h
  · rw [e]
    unfold neP
    simp only [e1, e2]
    exact .guard ⟨s1, s2⟩ h

/-! what is walked -/
theorem wp_iseqL {a : FE} {C : List D → Store → Prop} (h : Post (a ρ S) fun d S1 => ∃ xs, d.still = some xs ∧ C xs S1) : Post (iSeq a ρ S) C := .bind (h.mono fun d S1 q => by
  obtain ⟨xs, e, q⟩ := q
  simp only [e]
  exact .ok q)
theorem wp_ienum {a : FE} {C : List D → Store → Prop} (h : Post (a ρ S) fun d S1 => ∃ xs, d.still = some xs ∧ C (enumL 0 xs) S1) : Post (iEnumD a ρ S) C := .bind (h.mono fun d S1 q => by
  obtain ⟨xs, e, q⟩ := q
  simp only [e]
  exact .ok q)
theorem wp_irng1 {a : FE} {C : List D → Store → Prop} (h : Post (a ρ S) fun d S1 => ∃ j, d = .int j ∧ (-(2 ^ 62) ≤ j ∧ j < 2 ^ 62) ∧ C (rngL 0 j.toNat) S1) : Post (iRng (fCons a fNil) ρ S) C := .bind (wp_cons (h.mono fun d S1 q => by
  obtain ⟨j, rfl, c, q⟩ := q
  exact .ok (.guard c q)))
theorem wp_irng2 {a b : FE} {C : List D → Store → Prop} (h : Post (a ρ S) fun d S1 => Post (b ρ S1) fun e S2 => ∃ i j, d = .int i ∧ e = .int j ∧ (-(2 ^ 62) ≤ i ∧ i < 2 ^ 62 ∧ -(2 ^ 62) ≤ j ∧ j < 2 ^ 62) ∧ C (rngL i (j - i).toNat) S2) : Post (iRng (fCons a (fCons b fNil)) ρ S) C := .bind (wp_cons (h.mono fun d S1 q => wp_cons (q.mono fun e S2 q => by
  obtain ⟨i, j, rfl, rfl, c, q⟩ := q
  exact .ok (.guard c q))))
theorem wp_for {it : F (List D)} {k : FG} {b : FS} {C : Fl → Store → Prop} (h : Post (it ρ S) fun ds S1 => Post (forF k b ds ρ S1) C) : Post (fFor it k b ρ S) C := .bind h
/-- what the turn of a for is to reach -/
def Turned (I : Sl → Store → Prop) (C : Fl → Store → Prop) : Fl → Store → Prop := fun fl S2 => match fl with
  | .nx ρ2 => I ρ2 S2
  | .ct ρ2 => I ρ2 S2
  | .bk ρ2 => C (.nx ρ2) S2
  | .rt d => C (.rt d) S2
theorem wp_turnN {I : Sl → Store → Prop} {C : Fl → Store → Prop} (h : I ρ S) : Turned I C (.nx ρ) S := h
theorem wp_turnC {I : Sl → Store → Prop} {C : Fl → Store → Prop} (h : I ρ S) : Turned I C (.ct ρ) S := h
theorem wp_turnR {I : Sl → Store → Prop} {C : Fl → Store → Prop} {d : D} (h : C (.rt d) S) : Turned I C (.rt d) S := h
theorem wp_turnB {I : Sl → Store → Prop} {C : Fl → Store → Prop} (h : C (.nx ρ) S) : Turned I C (.bk ρ) S := h
/-- by an invariant over the items gone through -/
theorem wp_forF {k : FG} {b : FS} {C : Fl → Store → Prop} {ds : List D} (I : Nat → Sl → Store → Prop) (h0 : I 0 ρ S)
    (hs : ∀ (i : Nat) (d : D) (ρ : Sl) (S : Store), ds[i]? = some d → I i ρ S → Post (k d ρ S) fun ρ1 S1 => Post (b ρ1 S1) (Turned (I (i + 1)) C))
    (hd : ∀ ρ S, I ds.length ρ S → C (.nx ρ) S) : Post (forF k b ds ρ S) C := by
  have go : ∀ (n : Nat) (i : Nat) (ρ : Sl) (S : Store), i + n = ds.length → I i ρ S → Post (forF k b (ds.drop i) ρ S) C := by
    intro n
    induction n with
    | zero =>
      intro i ρ S e h
      have e' : i = ds.length := by omega
      rw [e', List.drop_length]
      exact .ok (hd ρ S (e' ▸ h))
    | succ n ih =>
      intro i ρ S e h
      have hi : i < ds.length := by omega
      rw [List.drop_eq_getElem_cons hi]
      refine .bind ((hs i ds[i] ρ S (List.getElem?_eq_getElem hi) h).mono fun ρ1 S1 q => .bind (q.mono fun fl S2 q => ?_))
      cases fl with
      | nx ρ2 => exact ih (i + 1) ρ2 S2 (by omega) q
      | ct ρ2 => exact ih (i + 1) ρ2 S2 (by omega) q
      | bk ρ2 => exact .ok q
      | rt d => exact .ok q
  exact go ds.length 0 ρ S (by omega) h0
/-- while: by an invariant with the turns that are left -/
theorem wp_while {c : F Bool} {b : FS} {C : Fl → Store → Prop} {n : Nat} (I : Nat → Sl → Store → Prop) (m : Nat) (hm : m < n) (h0 : I m ρ S)
    (hs : ∀ (m : Nat) (ρ : Sl) (S : Store), I m ρ S → Post (c ρ S) fun t S1 => (t = true → Post (b ρ S1) (Turned (fun ρ2 S2 => ∃ m', m' < m ∧ I m' ρ2 S2) C)) ∧ (t = false → C (.nx ρ) S1)) : Post (whileF c b n ρ S) C := by
  have go : ∀ (n m : Nat) (ρ : Sl) (S : Store), m < n → I m ρ S → Post (whileF c b n ρ S) C := by
    intro n
    induction n with
    | zero => intro m ρ S h; exact absurd h (Nat.not_lt_zero _)
    | succ n ih =>
      intro m ρ S h i
      refine .bind ((hs m ρ S i).mono fun t S1 q => ?_)
      cases t with
      | false => exact .ok (q.2 rfl)
      | true =>
        refine .bind ((q.1 rfl).mono fun fl S2 q => ?_)
        cases fl with
        | nx ρ2 => obtain ⟨m', h1, h2⟩ := q; exact ih m' ρ2 S2 (by omega) h2
        | ct ρ2 => obtain ⟨m', h1, h2⟩ := q; exact ih m' ρ2 S2 (by omega) h2
        | bk ρ2 => exact .ok q
        | rt d => exact .ok q
  exact go n m ρ S hm h0
theorem wp_lc {vs : List Nat} {it : F (List D)} {k : FG} {t : F Bool} {e : FE} {C : D → Store → Prop} (h : Post (it ρ S) fun ds S1 => ds.length ≤ line ∧ Post (compF k t e (wipeD ρ vs) ds S1) fun ys S2 => C (.lst ys) S2) : Post (fLc vs it k t e ρ S) C := .bind (h.mono fun ds S1 q => by
  rw [if_pos q.1]
  exact .bind (q.2.mono fun _ _ q => .ok q))
theorem wp_yes {C : Bool → Store → Prop} (h : C true S) : Post (fYes ρ S) C := .ok h
/-- a comprehension without tests, by an invariant -/
theorem wp_compF {k : FG} {e : FE} {C : List D → Store → Prop} {ds : List D} (I : Nat → List D → Store → Prop) (h0 : I 0 [] S)
    (hs : ∀ (i : Nat) (d : D) (acc : List D) (S : Store), ds[i]? = some d → I i acc S → Post (k d ρ S) fun ρ1 S1 => Post (e ρ1 S1) fun y S2 => I (i + 1) (acc ++ [y]) S2)
    (hd : ∀ ys S, I ds.length ys S → C ys S) : Post (compF k fYes e ρ ds S) C := by
  have go : ∀ (n : Nat) (i : Nat) (acc : List D) (S : Store), i + n = ds.length → I i acc S → Post (compF k fYes e ρ (ds.drop i) S) fun ys S' => I ds.length (acc ++ ys) S' := by
    intro n
    induction n with
    | zero =>
      intro i acc S e h
      have e' : i = ds.length := by omega
      rw [e', List.drop_length]
      exact .ok (by rw [List.append_nil]; exact e' ▸ h)
    | succ n ih =>
      intro i acc S e h
      have hi : i < ds.length := by omega
      rw [List.drop_eq_getElem_cons hi]
      refine .noex ((hs i ds[i] acc S (List.getElem?_eq_getElem hi) h).mono fun ρ1 S1 q => .noex (wp_yes ?_))
      rw [if_pos rfl]
      refine .noex (q.mono fun y S2 q => .bind ((ih (i + 1) (acc ++ [y]) S2 (by omega) q).mono fun ys S3 q => .ok ?_))
      rw [List.append_assoc] at q
      exact q
  exact (go ds.length 0 [] S (by omega) h0).mono fun ys S' q => hd ys S' (by simpa using q)
/-- with a test, pure: what is kept -/
theorem compF_pure {k : FG} {t : F Bool} {e : FE} {p : D → Bool} {f : D → D} : ∀ {ds : List D}, (∀ d ∈ ds, ∃ ρ1, k d ρ S = .ok ρ1 S ∧ t ρ1 S = .ok (p d) S ∧ (p d = true → e ρ1 S = .ok (f d) S)) → compF k t e ρ ds S = .ok ((ds.filter p).map f) S
  | [], _ => rfl
  | d :: ds, h => by
    obtain ⟨ρ1, h1, h2, h3⟩ := h d List.mem_cons_self
    have ih := compF_pure (ds := ds) fun d' hd => h d' (List.mem_cons_of_mem _ hd)
    unfold compF
    rw [h1]
    show ((t ρ1 S).noex.bind _) = _
    rw [h2]
    show (if p d = true then _ else _) = _
    by_cases c : p d = true
    · rw [if_pos c, h3 c, List.filter_cons_of_pos c]
      show ((compF k t e ρ ds S).bind _) = _
      rw [ih]
      rfl
    · rw [if_neg c, List.filter_cons_of_neg c, ih]
end

/-! ### data: what can be shown -/
mutual
def D.okR : D → Bool
  | .non => true
  | .bl _ => true
  | .int i => decide (i.natAbs.log2 < 1920)
  | .str x => PyData.strOk x
  | .tup xs => D.okRs xs
  | .lst xs => D.okRs xs
  | .flst xs => D.okRs xs
  | _ => false
def D.okRs : List D → Bool
  | [] => true
  | x :: xs => x.okR && D.okRs xs
end
mutual
/-- a bound of the text's length -/
def D.size : D → Nat
  | .non => 4
  | .bl _ => 5
  | .int _ => 1921
  | .str x => (reprText x).length
  | .tup xs => D.sizes xs + 3
  | .lst xs => D.sizes xs + 3
  | .flst xs => D.sizes xs + 3
  | _ => 0
def D.sizes : List D → Nat
  | [] => 0
  | x :: xs => x.size + 2 + D.sizes xs
end
mutual
def D.dep : D → Nat
  | .tup xs => D.deps xs + 1
  | .lst xs => D.deps xs + 1
  | .flst xs => D.deps xs + 1
  | _ => 0
def D.deps : List D → Nat
  | [] => 0
  | x :: xs => max x.dep (D.deps xs)
end
structure Fine (p : PyData) (n d : Nat) : Prop where
  lay : p.canLay0 = true
  show_ : p.showable = true
  size : p.shown.length ≤ n
  dep : p.depth ≤ d
structure Fines (ps : List PyData) (n d : Nat) : Prop where
  lay : PyData.canLayAll0 ps = true
  show_ : PyData.showableAll ps = true
  size : ((PyData.shownAll ps).map (·.length)).sum + 2 * ps.length ≤ n
  dep : PyData.depthAll ps ≤ d
theorem shownAll_len : ∀ ps : List PyData, (PyData.shownAll ps).length = ps.length
  | [] => by simp only [PyData.shownAll, List.length_nil]
  | p :: ps => by simp only [PyData.shownAll, List.length_cons, shownAll_len ps]
theorem Fines.list {ps : List PyData} {n d : Nat} (h : Fines ps n d) : Fine (.list ps) (n + 3) (d + 1) := by
  refine ⟨by simpa only [PyData.canLay0] using h.lay, by simpa only [PyData.showable] using h.show_, ?_, ?_⟩
  · simp only [PyData.shown]
    have := listText_len_le (PyData.shownAll ps)
    rw [shownAll_len] at this
    have := h.size
    omega
  · simp only [PyData.depth]
    have := h.dep
    omega
theorem Fines.tuple {ps : List PyData} {n d : Nat} (h : Fines ps n d) : Fine (.tuple ps) (n + 3) (d + 1) := by
  refine ⟨by simpa only [PyData.canLay0] using h.lay, by simpa only [PyData.showable] using h.show_, ?_, ?_⟩
  · simp only [PyData.shown]
    have := tupleText_len_le (PyData.shownAll ps)
    rw [shownAll_len] at this
    have := h.size
    omega
  · simp only [PyData.depth]
    have := h.dep
    omega
mutual
theorem D.fine : ∀ d : D, d.okR = true → ∃ p, d.py = some p ∧ Fine p d.size d.dep
  | .non, _ => ⟨.none, rfl, rfl, rfl, by simp only [PyData.shown, D.size]; decide, by simp [PyData.depth]⟩
  | .bl b, _ => ⟨.bool b, rfl, rfl, rfl, by cases b <;> simp only [PyData.shown, D.size] <;> decide, by simp [PyData.depth]⟩
  | .int i, h => by
    have h' : i.natAbs.log2 < 1920 := by simpa [D.okR] using h
    refine ⟨.int i, rfl, rfl, by simpa [PyData.showable] using h', ?_, by simp [PyData.depth]⟩
    simp only [PyData.shown, D.size]
    exact int_text_len_1921 h'
  | .str x, h => ⟨.str x, rfl, by simpa only [PyData.canLay0, D.okR] using h, rfl, by simp only [PyData.shown, D.size]; exact Nat.le_refl _, by simp [PyData.depth]⟩
  | .tup xs, h => by
    obtain ⟨ps, e, f⟩ := D.fines xs (by simpa only [D.okR] using h)
    exact ⟨.tuple ps, by simp only [D.py, e, Option.map_some], by simpa only [D.size, D.dep] using f.tuple⟩
  | .lst xs, h => by
    obtain ⟨ps, e, f⟩ := D.fines xs (by simpa only [D.okR] using h)
    exact ⟨.list ps, by simp only [D.py, e, Option.map_some], by simpa only [D.size, D.dep] using f.list⟩
  | .flst xs, h => by
    obtain ⟨ps, e, f⟩ := D.fines xs (by simpa only [D.okR] using h)
    exact ⟨.list ps, by simp only [D.py, e, Option.map_some], by simpa only [D.size, D.dep] using f.list⟩
  | .cell _, h => by simp [D.okR] at h
  | .ref _, h => by simp [D.okR] at h
  | .ty _, h => by simp [D.okR] at h
theorem D.fines : ∀ xs : List D, D.okRs xs = true → ∃ ps, D.pys xs = some ps ∧ Fines ps (D.sizes xs) (D.deps xs)
  | [], _ => ⟨[], rfl, rfl, rfl, by simp [PyData.shownAll], by simp [PyData.depthAll]⟩
  | x :: xs, h => by
    have h' : x.okR = true ∧ D.okRs xs = true := by simpa only [D.okRs, Bool.and_eq_true] using h
    obtain ⟨p, e1, f1⟩ := D.fine x h'.1
    obtain ⟨ps, e2, f2⟩ := D.fines xs h'.2
    refine ⟨p :: ps, by simp only [D.pys, e1, e2], by simp only [PyData.canLayAll0, f1.lay, f2.lay, Bool.and_self], by simp only [PyData.showableAll, f1.show_, f2.show_, Bool.and_self], ?_, ?_⟩
    · simp only [PyData.shownAll, List.map_cons, List.sum_cons, List.length_cons, D.sizes]
      have := f1.size
      have := f2.size
      omega
    · simp only [PyData.depthAll, D.deps]
      have := f1.dep
      have := f2.dep
      omega
end
theorem Fine.ok {p : PyData} {n d : Nat} (h : Fine p n d) (hn : n ≤ line) (hd : d ≤ 64) : reprOk p ∧ SeqAt.shaped p = true ∧ PyData.eqv p p = true := by
  have sh : SeqAt.shaped p = true := by
    show (p.canLay0 && decide (p.depth ≤ 64)) = true
    have := h.dep
    rw [h.lay, decide_eq_true (by omega)]
    rfl
  exact ⟨⟨sh, h.show_, Nat.le_trans h.size hn⟩, sh, SeqAt.eqv_refl p h.lay⟩
theorem okRs_all {xs : List D} (h : ∀ x ∈ xs, x.okR = true) : D.okRs xs = true := by
  induction xs with
  | nil => rfl
  | cons x xs ih => simp only [D.okRs, h x List.mem_cons_self, ih fun y hy => h y (List.mem_cons_of_mem _ hy), Bool.and_self]
theorem sizes_le {xs : List D} {b : Nat} (h : ∀ x ∈ xs, x.size ≤ b) : D.sizes xs ≤ (b + 2) * xs.length := by
  induction xs with
  | nil => exact Nat.zero_le _
  | cons x xs ih =>
    have := h x List.mem_cons_self
    have := ih fun y hy => h y (List.mem_cons_of_mem _ hy)
    simp only [D.sizes, List.length_cons, Nat.mul_add, Nat.mul_one]
    omega
theorem deps_le {xs : List D} {b : Nat} (h : ∀ x ∈ xs, x.dep ≤ b) : D.deps xs ≤ b := by
  induction xs with
  | nil => exact Nat.zero_le _
  | cons x xs ih =>
    have := h x List.mem_cons_self
    have := ih fun y hy => h y (List.mem_cons_of_mem _ hy)
    simp only [D.deps]
    omega
theorem pyS_of {d : D} {S : Store} (h : ∀ k, d ≠ .cell k) : d.pyS S = d.py := by
  cases d <;> first | rfl | exact absurd rfl (h _)

/-! ### sizes -/
theorem mulOk_of {i j : Int} {a b : Nat} (hi : i.natAbs < 2 ^ a) (hj : j.natAbs < 2 ^ b) (h : a + b ≤ 134217728) : mulOk i j := mulx_ok hi hj h
theorem divOk_of {j : Int} (h0 : 0 < j) {b : Nat} (h : j.natAbs < 2 ^ b) (hb : b ≤ 9000) (h1 : 0 < b) : divOk j := ⟨h0, Nat.lt_of_lt_of_le (PySem.Flt.log2_lt_of h1 h) hb⟩
theorem get_set {S : Store} {k : Nat} {c c' : Cell} (h : S[k]? = some c) : (S.set k c')[k]? = some c' := List.getElem?_set_self (List.getElem?_eq_some_iff.mp h).1
theorem set_same {S : Store} {k : Nat} {c : Cell} (h : S[k]? = some c) : S.set k c = S := by
  obtain ⟨h1, h2⟩ := List.getElem?_eq_some_iff.mp h
  rw [← h2]
  exact List.set_getElem_self h1
theorem set_set {S : Store} {k : Nat} {c c' : Cell} : (S.set k c).set k c' = S.set k c' := List.set_set ..
/-! branches that are known -/
theorem wp_ff {X Y : Prop} (h : Y) : (false = true → X) ∧ (false = false → Y) := ⟨fun q => absurd q (by decide), fun _ => h⟩
theorem wp_tt {X Y : Prop} (h : X) : (true = true → X) ∧ (true = false → Y) := ⟨fun _ => h, fun q => absurd q (by decide)⟩
theorem wp_nf {X Y : Prop} (h : X) : ((!false) = true → X) ∧ ((!false) = false → Y) := ⟨fun _ => h, fun q => absurd q (by decide)⟩
theorem wp_nt {X Y : Prop} (h : Y) : ((!true) = true → X) ∧ ((!true) = false → Y) := ⟨fun q => absurd q (by decide), fun _ => h⟩
theorem wp_lenM {α : Type} {f : α → D} {xs : List α} {S : Store} {C : D → Store → Prop} (h : C (.int xs.length) S) : Post (lenD [.lst (xs.map f)] S) C := wp_lenL (by rw [List.length_map]; exact h)
theorem wp_lenMT {α : Type} {f : α → D} {xs : List α} {S : Store} {C : D → Store → Prop} (h : C (.int xs.length) S) : Post (lenD [.tup (xs.map f)] S) C := wp_lenT (by rw [List.length_map]; exact h)
theorem rngL_map : ∀ (n : Nat) (lo : Int), rngL lo n = (List.range n).map fun (j : Nat) => D.int (lo + j)
  | 0, _ => rfl
  | n + 1, lo => by
    rw [List.range_succ_eq_map, List.map_cons, List.map_map, rngL, rngL_map n]
    refine congr (congrArg List.cons (by simp)) (List.map_congr_left fun a _ => ?_)
    show D.int _ = D.int _
    congr 1
    simp only [Nat.succ_eq_add_one]
    push_cast
    omega
/-- a comprehension over a range, each item alone -/
theorem wp_crng {ρ : Sl} {S : Store} {k : FG} {e : FE} {n : Nat} {f : Nat → D} {C : List D → Store → Prop} (hs : ∀ j : Nat, j < n → Post (k (.int j) ρ S) fun ρ1 S1 => S1 = S ∧ Post (e ρ1 S1) fun y S2 => y = f j ∧ S2 = S)
    (h : C ((List.range n).map f) S) : Post (compF k fYes e ρ (rngL 0 n) S) C := by
  refine wp_compF (fun i acc S' => S' = S ∧ acc = (List.range i).map f) ⟨rfl, rfl⟩ ?_ ?_
  · rintro i d acc S' hd ⟨rfl, rfl⟩
    obtain ⟨rfl, hi⟩ := rngL_get n i 0 d hd
    rw [Int.zero_add]
    refine (hs i hi).mono fun ρ1 S1 q => ?_
    obtain ⟨rfl, q⟩ := q
    refine q.mono fun y S2 q => ?_
    obtain ⟨rfl, rfl⟩ := q
    exact ⟨rfl, by rw [List.range_succ, List.map_append]; rfl⟩
  · rintro ys S' ⟨rfl, rfl⟩
    rw [rngL_length]
    exact h
/-- with a test, each item alone -/
theorem wp_ctest {ρ : Sl} {S : Store} {k : FG} {t : F Bool} {e : FE} {ds : List D} (p : D → Bool) (f : D → D) {C : List D → Store → Prop} (hs : ∀ d ∈ ds, Post (k d ρ S) fun ρ1 S1 => S1 = S ∧ (Post (t ρ1 S1) fun b S2 => b = p d ∧ S2 = S) ∧ (p d = true → Post (e ρ1 S1) fun y S2 => y = f d ∧ S2 = S))
    (h : C ((ds.filter p).map f) S) : Post (compF k t e ρ ds S) C := by
  refine Post.of_eq (compF_pure (p := p) (f := f) fun d hd => ?_) h
  obtain ⟨ρ1, S1, e1, rfl, e2, e3⟩ := hs d hd
  exact ⟨ρ1, e1, e2.eq, fun c => (e3 c).eq⟩
theorem wp_izip {ρ : Sl} {S : Store} {a b : FE} {C : List D → Store → Prop} (h : Post (a ρ S) fun d S1 => Post (b ρ S1) fun e S2 => ∃ xs ys, d.still = some xs ∧ e.still = some ys ∧ C (zipL xs ys) S2) : Post (iZip (fCons a (fCons b fNil)) ρ S) C := .bind (wp_cons (h.mono fun d S1 q => wp_cons (q.mono fun e S2 q => by
  obtain ⟨xs, ys, e1, e2, q⟩ := q
  refine wp_nil ?_
  show Post (match d.still, e.still with
    | some xs, some ys => Out.ok (zipL xs ys) S2
    | _, _ => Out.no) C
  rw [e1, e2]
  exact .ok q)))
/-- what follows the first comparison of a chain -/
def ChK (o' : B2) (c : FE) (ρ : Sl) (y : D) (C : D → Store → Prop) : D → Store → Prop := fun z S3 => match z with
  | .bl t => (t = true → Post (c ρ S3) fun w S4 => Post (o' y w S4) C) ∧ (t = false → C (.bl false) S3)
  | _ => False
theorem wp_chk {ρ : Sl} {S : Store} {o' : B2} {c : FE} {y : D} {t : Bool} {C : D → Store → Prop} (h : (t = true → Post (c ρ S) fun w S4 => Post (o' y w S4) C) ∧ (t = false → C (.bl false) S)) : ChK o' c ρ y C (.bl t) S := h
theorem wp_ch {ρ : Sl} {S : Store} {o o' : B2} {a b c : FE} {C : D → Store → Prop} (h : Post (a ρ S) fun x S1 => Post (b ρ S1) fun y S2 => Post (o x y S2) (ChK o' c ρ y C)) : Post (fCh o o' a b c ρ S) C :=
  .bind (h.mono fun _ _ q => .bind (q.mono fun _ _ q => .bind (q.mono fun z S3 q => by
    cases z with
    | bl t =>
      cases t with
      | true => exact .bind (q.1 rfl)
      | false => exact .ok (q.2 rfl)
    | _ => exact q.elim)))

/-! lists that grow, sorted, in -/
theorem wp_star {ρ : Sl} {S : Store} {a : FE} {r : F (List D)} {C : List D → Store → Prop} (h : Post (a ρ S) fun d S1 => ∃ xs, d.still = some xs ∧ Post (r ρ S1) fun ds S2 => C (xs ++ ds) S2) : Post (fStar a r ρ S) C := .bind (h.mono fun d S1 q => by
  obtain ⟨xs, e, q⟩ := q
  simp only [e]
  exact .bind (q.mono fun _ _ q => .ok q))
theorem wp_bm {ρ : Sl} {S : Store} {op : BM} {o : FE} {a : F (List D)} {C : D → Store → Prop} (h : Post (o ρ S) fun d S1 => (d.asL S1).isSome = true ∧ Post (a ρ S1) fun ds S2 => Post (op d ds S2) C) : Post (fBm op o a ρ S) C := .bind (h.mono fun d S1 q => by
  rw [if_pos q.1]
  exact .bind q.2)
theorem cell_some {S : Store} {k : Nat} {xs : List D} (h : S[k]? = some (.lst xs)) : ((D.cell k).asL S).isSome = true := by
  unfold D.asL
  simp only [h]
  rfl
theorem wp_app {S : Store} {k : Nat} {xs : List D} {v : D} {C : D → Store → Prop} (hk : S[k]? = some (.lst xs)) (hl : xs.length < line) (h : C .non (S.set k (.lst (xs ++ [v])))) : Post (appD (.cell k) [v] S) C := by
  unfold appD
  simp only [hk]
  exact .guard hl h
theorem wp_revL {S : Store} {xs : List D} {C : D → Store → Prop} (h : C (.lst xs.reverse) S) : Post (revD (.lst xs) S) C := .ok h
theorem wp_revC {S : Store} {k : Nat} {xs : List D} {C : D → Store → Prop} (hk : S[k]? = some (.lst xs)) (h : C (.lst xs.reverse) S) : Post (revD (.cell k) S) C := by
  unfold revD D.asL
  simp only [hk]
  exact .ok h
theorem wp_lcN {ρ : Sl} {S : Store} {vs : List Nat} {it : F (List D)} {k : FG} {t : F Bool} {e : FE} {C : D → Store → Prop} (h : Post (it ρ S) fun ds S1 => ds.length ≤ line ∧ Post (compF k t e (wipeD ρ vs) ds S1) fun ys S2 => C (.cell S2.length) (S2 ++ [.lst ys])) : Post (fLcN vs it k t e ρ S) C := .bind (h.mono fun ds S1 q => by
  rw [if_pos q.1]
  exact .bind (q.2.mono fun _ _ q => .ok q))
theorem compC_pure {c : Nat} {k : FG} {e : FE} {ρ : Sl} {S : Store} {f : D → D} {xs : List D} (hk : S[c]? = some (.lst xs)) (h : ∀ d ∈ xs, ∃ ρ1, k d ρ S = .ok ρ1 S ∧ e ρ1 S = .ok (f d) S) : ∀ (n i : Nat), i + n = xs.length → compC c k fYes e ρ (n + 1) i S = .ok ((xs.drop i).map f) S
  | 0, i, hi => by
    unfold compC
    simp only [hk]
    have e1 : xs[i]? = none := List.getElem?_eq_none_iff.mpr (by omega)
    rw [e1, List.drop_eq_nil_of_le (by omega)]
    rfl
  | n + 1, i, hi => by
    have hlt : i < xs.length := by omega
    obtain ⟨ρ1, h1, h2⟩ := h xs[i] (List.getElem_mem hlt)
    have ih := compC_pure hk h n (i + 1) (by omega)
    unfold compC
    simp only [hk, List.getElem?_eq_getElem hlt, h1]
    show ((e ρ1 S).noex.bind fun y S3 => (compC c k fYes e ρ (n + 1) (i + 1) S3).bind fun ys S4 => Out.ok (y :: ys) S4) = _
    rw [h2, List.drop_eq_getElem_cons hlt, List.map_cons]
    show ((compC c k fYes e ρ (n + 1) (i + 1) S).bind fun ys S4 => Out.ok (f xs[i] :: ys) S4) = _
    rw [ih]
    rfl
theorem wp_lcC {ρ : Sl} {S : Store} {vs : List Nat} {o : FE} {k : FG} {e : FE} {c : Nat} {xs : List D} (f : D → D) {C : D → Store → Prop} (ho : o ρ S = .ok (.cell c) S) (hk : S[c]? = some (.lst xs)) (hl : xs.length < line)
    (hs : ∀ d ∈ xs, Post (k d (wipeD ρ vs) S) fun ρ1 S1 => S1 = S ∧ Post (e ρ1 S1) fun y S2 => y = f d ∧ S2 = S) (h : C (.lst (xs.map f)) S) : Post (fLcC vs o k fYes e ρ S) C := by
  unfold fLcC
  rw [ho]
  refine .bind (.ok ?_)
  simp only [hk]
  rw [if_pos hl]
  have q := compC_pure (k := k) (e := e) (ρ := wipeD ρ vs) (f := f) hk (fun d hd => by
    obtain ⟨ρ1, S1, e1, rfl, e2⟩ := hs d hd
    exact ⟨ρ1, e1, e2.eq⟩) xs.length 0 (by omega)
  rw [q]
  exact .bind (.ok (.ok (by simpa using h)))
theorem wp_sorted {S : Store} {d : D} {xs : List D} {ps : List PyData} {C : D → Store → Prop} (e1 : d.asL S = some xs) (e2 : D.pys xs = some ps) (e3 : srtB ps = true) (h : C (.lst (srtL xs ps)) S) : Post (sortedD [d] S) C := by
  unfold sortedD
  simp only [e1, e2]
  exact .guard e3 h
theorem srtL_mem {xs : List D} {ps : List PyData} {x : D} (h : x ∈ srtL xs ps) : x ∈ xs := by
  unfold srtL at h
  obtain ⟨z, hz, rfl⟩ := List.mem_map.mp h
  exact (List.of_mem_zip ((List.mergeSort_perm _ _).mem_iff.mp hz)).1
theorem srtL_length {xs : List D} {ps : List PyData} (h : D.pys xs = some ps) : (srtL xs ps).length = xs.length := by
  unfold srtL
  rw [List.length_map, List.length_mergeSort, List.length_zip, pys_length h, Nat.min_self]
theorem srtL_perm {xs : List D} {ps : List PyData} (h : D.pys xs = some ps) : (srtL xs ps).Perm xs := by
  unfold srtL
  have q := (List.mergeSort_perm (xs.zip ps) (PySem.W.dataLe false Prod.snd)).map Prod.fst
  rw [List.map_fst_zip (Nat.le_of_eq (pys_length h))] at q
  exact q
/-- in, not in: some truth -/
theorem wp_notin {S : Store} {x y : D} {a : PyData} {bs : List PyData} {C : D → Store → Prop} (e1 : x.pyS S = some a) (e2 : y.pyS S = some (.list bs)) (s1 : SeqAt.shaped a = true) (s2 : SeqAt.shaped (.list bs) = true) (h : C (.bl (!bs.any fun z => PyData.eqv z a)) S) : Post (notinD x y S) C := by
  unfold notinD inP
  simp only [e1, e2]
  exact .guard ⟨s1, s2⟩ h
theorem compF_pureM {α : Type} {ρ : Sl} {S : Store} {k : FG} {t : F Bool} {e : FE} {f g : α → D} {p : α → Bool} : ∀ {l : List α}, (∀ x ∈ l, ∃ ρ1, k (f x) ρ S = .ok ρ1 S ∧ t ρ1 S = .ok (p x) S ∧ (p x = true → e ρ1 S = .ok (g x) S)) → compF k t e ρ (l.map f) S = .ok ((l.filter p).map g) S
  | [], _ => rfl
  | d :: ds, h => by
    obtain ⟨ρ1, h1, h2, h3⟩ := h d List.mem_cons_self
    have ih := compF_pureM (l := ds) fun d' hd => h d' (List.mem_cons_of_mem _ hd)
    rw [List.map_cons]
    unfold compF
    rw [h1]
    show ((t ρ1 S).noex.bind _) = _
    rw [h2]
    show (if p d = true then _ else _) = _
    by_cases c : p d = true
    · rw [if_pos c, h3 c, List.filter_cons_of_pos c]
      show ((compF k t e ρ (ds.map f) S).bind _) = _
      rw [ih]
      rfl
    · rw [if_neg c, List.filter_cons_of_neg c, ih]
/-- over data that are told by other values -/
theorem wp_ctestM {α : Type} {ρ : Sl} {S : Store} {k : FG} {t : F Bool} {e : FE} {l : List α} {f : α → D} (p : α → Bool) (g : α → D) {C : List D → Store → Prop} (hs : ∀ x ∈ l, Post (k (f x) ρ S) fun ρ1 S1 => S1 = S ∧ (Post (t ρ1 S1) fun b S2 => b = p x ∧ S2 = S) ∧ (p x = true → Post (e ρ1 S1) fun y S2 => y = g x ∧ S2 = S))
    (h : C ((l.filter p).map g) S) : Post (compF k t e ρ (l.map f) S) C := by
  refine Post.of_eq (compF_pureM (p := p) (g := g) fun d hd => ?_) h
  obtain ⟨ρ1, S1, e1, rfl, e2, e3⟩ := hs d hd
  exact ⟨ρ1, e1, e2.eq, fun c => (e3 c).eq⟩
theorem wp_cmapM {α : Type} {ρ : Sl} {S : Store} {k : FG} {e : FE} {l : List α} {f : α → D} (g : α → D) {C : List D → Store → Prop} (hs : ∀ x ∈ l, Post (k (f x) ρ S) fun ρ1 S1 => S1 = S ∧ Post (e ρ1 S1) fun y S2 => y = g x ∧ S2 = S)
    (h : C (l.map g) S) : Post (compF k fYes e ρ (l.map f) S) C :=
  wp_ctestM (fun _ => true) g (fun x hx => (hs x hx).mono fun ρ1 S1 q => ⟨q.1, q.1 ▸ wp_yes ⟨rfl, rfl⟩, fun _ => q.2⟩) (by rw [List.filter_eq_self.mpr fun _ _ => rfl]; exact h)

/-! texts -/
theorem wp_mulSI {i j : Int} {S : Store} {C : D → Store → Prop} (hl : mulOk i j) (h : C (.int (i * j)) S) : Post (mulS (.int i) (.int j) S) C := .guard hl h
theorem wp_mulSS {z : Str} {n : Int} {S : Store} {C : D → Store → Prop} (hl : -(2 ^ 63) ≤ n ∧ n ≤ 1000000 ∧ z.length ≤ 10) (h : C (.str (Txt.mul z n)) S) : Post (mulS (.str z) (.int n) S) C := .guard hl h
theorem wp_mulSL {xs : List D} {k : Int} {S : Store} {C : D → Store → Prop} (hl : -(2 ^ 63) ≤ k ∧ k < 2 ^ 63 ∧ xs.length * k.toNat ≤ line) (h : C (.lst (List.replicate k.toNat xs).flatten) S) : Post (mulS (.lst xs) (.int k) S) C := .guard hl h
theorem wp_slS {ρ : Sl} {S : Store} {a : FE} {lo hi : F (Option Int)} {C : D → Store → Prop} (h : Post (a ρ S) fun x S1 => Post (lo ρ S1) fun l S2 => Post (hi ρ S2) fun u S3 => Post (slS x l u S3) C) : Post (fSlS a lo hi ρ S) C := .bind (h.mono fun _ _ q => .bind (q.mono fun _ _ q => .bind q))
theorem wp_slSS {z : Str} {lo hi : Option Int} {S : Store} {C : D → Store → Prop} (hl : z.length ≤ line) (h : C (.str (cutS z lo hi)) S) : Post (slS (.str z) lo hi S) C := .guard hl h
theorem wp_slSL {xs : List D} {lo hi : Option Int} {S : Store} {C : D → Store → Prop} (h : C (.lst (cutD xs lo hi)) S) : Post (slS (.lst xs) lo hi S) C := .ok h
theorem wp_slSF {xs : List D} {lo hi : Option Int} {S : Store} {C : D → Store → Prop} (h : C (.lst (cutD xs lo hi)) S) : Post (slS (.flst xs) lo hi S) C := .ok h
theorem wp_slST {xs : List D} {lo hi : Option Int} {S : Store} {C : D → Store → Prop} (h : C (.tup (cutD xs lo hi)) S) : Post (slS (.tup xs) lo hi S) C := .ok h
theorem wp_strI {i : Int} {S : Store} {C : D → Store → Prop} (hl : i.natAbs.log2 < 1920) (h : C (.str (toString i)) S) : Post (strD [.int i] S) C := .guard hl h
theorem wp_addSS {a b : Str} {S : Store} {C : D → Store → Prop} (hl : a.length + b.length ≤ line) (h : C (.str (a ++ b)) S) : Post (addD (.str a) (.str b) S) C := .guard hl h
theorem wp_lenS {a : Str} {S : Store} {C : D → Store → Prop} (hl : a.length ≤ line) (h : C (.int a.length) S) : Post (lenD [.str a] S) C := .guard hl h
theorem wp_divB {i j : Int} {S : Store} {C : D → Store → Prop} (hl : CDivB i j) (h : C (.int (i.fdiv j)) S) : Post (divB (.int i) (.int j) S) C := .guard hl h
theorem wp_reprP {i j : Int} {S : Store} {C : D → Store → Prop} (h1 : wideI i) (h2 : wideI j) (h : C (.str (tupleText [toString i, toString j])) S) : Post (reprW [.tup [.int i, .int j]] S) C := .guard ⟨h1, h2⟩ h
theorem wp_reprW {d : D} {p : PyData} {S : Store} {C : D → Store → Prop} (e : d.pyS S = some p) (ok : reprOk p) (h : C (.str p.shown) S) : Post (reprW [d] S) C := by
  rcases reprW_cases [d] S with ⟨i, j, e1, e2⟩ | e1
  · cases e1
    cases e
    have sh := ok.2.1
    simp only [PyData.showable, PyData.showableAll, Bool.and_true, Bool.and_eq_true, decide_eq_true_eq] at sh
    rw [e2]
    refine .guard ⟨Nat.lt_trans sh.1 (by decide), Nat.lt_trans sh.2 (by decide)⟩ ?_
    simpa only [PyData.shown, PyData.shownAll] using h
  · rw [e1]
    exact wp_repr e ok h
end MK

namespace Law
open PySem PySem.Spec PyProof.Rows L2 MK
def topS (i : Nat) : Stmt := PySem.Challenge.pw_unwrittenrow_k03_whole_fractions_by_inte.main.body.getD i (.Pass ⟨0, 0, 0, 0⟩)
/-! ### greatest_common -/
abbrev s_greatest_common : Stmt := topS 1
abbrev N_greatest_common : List Str := ["one", "other"]
def B_greatest_common : FS :=
    (fSeq (whileF (fB (f2 gtD (fVar 1) (fC (.int 0)))) (fPar 0 1 (fCons (fVar 1) (fCons (f2 modD (fVar 0) (fVar 1)) fNil))) 1000000)
    (fRet (fVar 0)))
def F_greatest_common : List D → Store → Out D := runB 2 B_greatest_common
/-! ### power -/
abbrev s_power : Stmt := topS 3
abbrev N_power : List Str := ["base", "n", "found"]
def B_power : FS :=
    (fSeq (fSet 2 (fC (.int 1)))
    (fSeq (whileF (fB (f2 gtD (fVar 1) (fC (.int 0)))) (fSeq (fIf (fB (f2 eqD (f2 modD (fVar 1) (fC (.int 2))) (fC (.int 1)))) (fSet 2 (f2 mulS (fVar 2) (fVar 0))) fNext)
    (fPar 0 1 (fCons (f2 mulS (fVar 0) (fVar 0)) (fCons (f2 divD (fVar 1) (fC (.int 2))) fNil)))) 1000000)
    (fRet (fVar 2))))
def F_power : List D → Store → Out D := runB 3 B_power
/-! ### reduced -/
abbrev s_reduced : Stmt := topS 4
abbrev N_reduced : List Str := ["n", "d", "shared"]
def B_reduced : FS :=
    (fSeq (fSet 2 (fCall F_greatest_common (fCons (fCall absD (fCons (fVar 0) fNil)) (fCons (fCall absD (fCons (fVar 1) fNil)) fNil))))
    (fSeq (fSet 2 (fIf (fB (f2 gtD (fVar 1) (fC (.int 0)))) (fVar 2) (f2 subD (fC (.int 0)) (fVar 2))))
    (fRet (fTup (fCons (f2 divB (fVar 0) (fVar 2)) (fCons (f2 divB (fVar 1) (fVar 2)) fNil))))))
def F_reduced : List D → Store → Out D := runB 3 B_reduced
/-! ### added -/
abbrev s_added : Stmt := topS 5
abbrev N_added : List Str := ["one", "other"]
def B_added : FS :=
    (fRet (fCall F_reduced (fCons (f2 addD (f2 mulS (f2 ixD (fVar 0) (fC (.int 0))) (f2 ixD (fVar 1) (fC (.int 1)))) (f2 mulS (f2 ixD (fVar 1) (fC (.int 0))) (f2 ixD (fVar 0) (fC (.int 1))))) (fCons (f2 mulS (f2 ixD (fVar 0) (fC (.int 1))) (f2 ixD (fVar 1) (fC (.int 1)))) fNil))))
def F_added : List D → Store → Out D := runB 2 B_added
/-! ### times -/
abbrev s_times : Stmt := topS 6
abbrev N_times : List Str := ["one", "other"]
def B_times : FS :=
    (fRet (fCall F_reduced (fCons (f2 mulS (f2 ixD (fVar 0) (fC (.int 0))) (f2 ixD (fVar 1) (fC (.int 0)))) (fCons (f2 mulS (f2 ixD (fVar 0) (fC (.int 1))) (f2 ixD (fVar 1) (fC (.int 1)))) fNil))))
def F_times : List D → Store → Out D := runB 2 B_times
/-! ### over -/
abbrev s_over : Stmt := topS 7
abbrev N_over : List Str := ["one", "other"]
def B_over : FS :=
    (fRet (fCall F_reduced (fCons (f2 mulS (f2 ixD (fVar 0) (fC (.int 0))) (f2 ixD (fVar 1) (fC (.int 1)))) (fCons (f2 mulS (f2 ixD (fVar 0) (fC (.int 1))) (f2 ixD (fVar 1) (fC (.int 0)))) fNil))))
def F_over : List D → Store → Out D := runB 2 B_over
/-! ### compared -/
abbrev s_compared : Stmt := topS 8
abbrev N_compared : List Str := ["one", "other", "mine", "its"]
def B_compared : FS :=
    (fSeq (fPar 2 3 (fCons (f2 mulS (f2 ixD (fVar 0) (fC (.int 0))) (f2 ixD (fVar 1) (fC (.int 1)))) (fCons (f2 mulS (f2 ixD (fVar 1) (fC (.int 0))) (f2 ixD (fVar 0) (fC (.int 1)))) fNil)))
    (fRet (f2 subD (fCall intD (fCons (f2 gtD (fVar 2) (fVar 3)) fNil)) (fCall intD (fCons (f2 ltD (fVar 2) (fVar 3)) fNil)))))
def F_compared : List D → Store → Out D := runB 4 B_compared
/-! ### half_to -/
abbrev s_half_to : Stmt := topS 9
abbrev N_half_to : List Str := ["e"]
def B_half_to : FS :=
    (fRet (fTup (fCons (fC (.int 1)) (fCons (fCall F_power (fCons (fC (.int 2)) (fCons (fVar 0) fNil))) fNil))))
def F_half_to : List D → Store → Out D := runB 1 B_half_to
/-! ### shown -/
abbrev s_shown : Stmt := topS 10
abbrev N_shown : List Str := ["number", "places", "digits"]
def B_shown : FS :=
    (fSeq (fSet 2 (fCall strD (fCons (fVar 0) fNil)))
    (fSeq (fSet 2 (f2 addD (f2 mulS (fC (.str "0")) (f2 subD (f2 addD (fVar 1) (fC (.int 1))) (fCall lenD (fCons (fVar 2) fNil)))) (fVar 2)))
    (fRet (fIf (fB (f2 gtD (fVar 1) (fC (.int 0)))) (f2 addD (f2 addD (fSlS (fVar 2) (fC none) (fO (f2 subD (fCall lenD (fCons (fVar 2) fNil)) (fVar 1)))) (fC (.str "."))) (fSlS (fVar 2) (fO (f2 subD (fCall lenD (fCons (fVar 2) fNil)) (fVar 1))) (fC none))) (fVar 2)))))
def F_shown : List D → Store → Out D := runB 3 B_shown
/-! ### decimal_below -/
abbrev s_decimal_below : Stmt := topS 11
abbrev N_decimal_below : List Str := ["one", "places"]
def B_decimal_below : FS :=
    (fRet (fCall F_shown (fCons (f2 divD (f2 mulS (f2 ixD (fVar 0) (fC (.int 0))) (fCall F_power (fCons (fC (.int 10)) (fCons (fVar 1) fNil)))) (f2 ixD (fVar 0) (fC (.int 1)))) (fCons (fVar 1) fNil))))
def F_decimal_below : List D → Store → Out D := runB 2 B_decimal_below
/-! ### decimal_above -/
abbrev s_decimal_above : Stmt := topS 12
abbrev N_decimal_above : List Str := ["one", "places"]
def B_decimal_above : FS :=
    (fRet (fCall F_shown (fCons (f2 divD (f2 subD (f2 addD (f2 mulS (f2 ixD (fVar 0) (fC (.int 0))) (fCall F_power (fCons (fC (.int 10)) (fCons (fVar 1) fNil)))) (f2 ixD (fVar 0) (fC (.int 1)))) (fC (.int 1))) (f2 ixD (fVar 0) (fC (.int 1)))) (fCons (fVar 1) fNil))))
def F_decimal_above : List D → Store → Out D := runB 2 B_decimal_above
/-! ### _law_bag -/
abbrev s__law_bag : Stmt := topS 14
abbrev N__law_bag : List Str := ["_law_script", "_law_cell"]
def B__law_bag : FS :=
    (fRet (fNew (fCons (fC (.int 0)) (fCons (fC (.int 1234567891)) (fCons (fC (.int 0)) (fCons (fLc [1] (iSeq (fSlS (fVar 0) (fC none) (fO (fC (.int 63))))) (gNm 1) fYes (fCall absD (fCons (fVar 1) fNil))) fNil))))))
def F__law_bag : List D → Store → Out D := runB 2 B__law_bag
/-! ### _law_take -/
abbrev s__law_take : Stmt := topS 15
abbrev N__law_take : List Str := ["_law_bag_here", "_law_many", "_law_cell", "_law_stirred", "_law_value", "_law_begin", "_law_second"]
def B__law_take : FS :=
    (fSeq (fIf (fB (f2 eqD (f2 ixD (fVar 0) (fC (.int 0))) (fC (.int 0)))) (fSeq (fSet 2 (f2 ixD (f2 addD (fSlS (f2 ixD (fVar 0) (fC (.int 3))) (fO (f2 ixD (fVar 0) (fC (.int 2)))) (fC none)) (fLst (fCons (fC (.int 0)) fNil))) (fC (.int 0))))
    (fSeq (fAugS ixLD addID setD (fVar 0) (fC (.int 2)) (fC (.int 1)))
    (fSeq (fIf (fB (f2 geD (fVar 2) (f2 powD (fC (.int 10)) (fC (.int 18))))) (fAsg (fVar 2) (gSb setD (fVar 0) (fC (.int 0)))) fNext)
    (fSeq (fSet 3 (f2 addD (f2 addD (f2 mulS (f2 ixD (fVar 0) (fC (.int 1))) (fC (.int 48271))) (f2 modD (fCall intD (fCons (fVar 2) fNil)) (fC (.int 2147483647)))) (f2 mulS (fC (.int 7919)) (f2 ixD (fVar 0) (fC (.int 2))))))
    (fAsg (f2 modD (fCall intD (fCons (fVar 3) fNil)) (fC (.int 2147483647))) (gSb setD (fVar 0) (fC (.int 1)))))))) fNext)
    (fSeq (fIf (fB (f2 gtD (f2 ixD (fVar 0) (fC (.int 0))) (fC (.int 0)))) (fSeq (fSet 4 (f2 modD (fCall intD (fCons (f2 ixD (fVar 0) (fC (.int 0))) fNil)) (fVar 1)))
    (fSeq (fAsg (f2 divD (fCall intD (fCons (f2 ixD (fVar 0) (fC (.int 0))) fNil)) (fVar 1)) (gSb setD (fVar 0) (fC (.int 0))))
    (fRet (fVar 4)))) fNext)
    (fSeq (fSet 5 (f2 modD (fCall intD (fCons (f2 mulS (f2 addD (f2 ixD (fVar 0) (fC (.int 1))) (fC (.int 1))) (fC (.int 39373))) fNil)) (fC (.int 1000000007))))
    (fSeq (fSet 6 (f2 modD (fCall intD (fCons (f2 mulS (f2 modD (fCall intD (fCons (f2 mulS (fVar 5) (fVar 5)) fNil)) (fC (.int 998244353))) (fC (.int 30011))) fNil)) (fC (.int 998244353))))
    (fRet (f2 modD (fCall intD (fCons (f2 divD (fVar 6) (fC (.int 7))) fNil)) (fVar 1)))))))
def F__law_take : List D → Store → Out D := runB 7 B__law_take
/-! ### _law_some -/
abbrev s__law_some : Stmt := topS 16
abbrev N__law_some : List Str := ["_law_bag_here", "_law_things"]
def B__law_some : FS :=
    (fRet (f2 ixD (fVar 1) (fCall F__law_take (fCons (fVar 0) (fCons (fCall lenD (fCons (fVar 1) fNil)) fNil)))))
def F__law_some : List D → Store → Out D := runB 2 B__law_some
/-! ### _law_alike -/
abbrev s__law_alike : Stmt := topS 17
abbrev N__law_alike : List Str := ["_law_found", "_law_due"]
def B__law_alike : FS :=
    (fRet (fAndV (f2 eqD (fVar 0) (fVar 1)) (f2 eqD (fCall reprW (fCons (fVar 0) fNil)) (fCall reprW (fCons (fVar 1) fNil)))))
def F__law_alike : List D → Store → Out D := runB 2 B__law_alike
/-! ### _law_common -/
abbrev s__law_common : Stmt := topS 18
abbrev N__law_common : List Str := ["_law_one", "_law_other"]
def B__law_common : FS :=
    (fSeq (fPar 0 1 (fCons (fCall absD (fCons (fVar 0) fNil)) (fCons (fCall absD (fCons (fVar 1) fNil)) fNil)))
    (fSeq (whileF (fB (f2 gtD (fVar 1) (fC (.int 0)))) (fPar 0 1 (fCons (fVar 1) (fCons (f2 modD (fCall intD (fCons (fVar 0) fNil)) (fVar 1)) fNil))) 1000000)
    (fRet (fVar 0))))
def F__law_common : List D → Store → Out D := runB 2 B__law_common
/-! ### _law_reduced -/
abbrev s__law_reduced : Stmt := topS 19
abbrev N__law_reduced : List Str := ["_law_n", "_law_d", "_law_shared"]
def B__law_reduced : FS :=
    (fSeq (fSet 2 (fCall F__law_common (fCons (fVar 0) (fCons (fVar 1) fNil))))
    (fSeq (fSet 2 (fIf (fB (f2 gtD (fVar 1) (fC (.int 0)))) (fVar 2) (f1 negD (fVar 2))))
    (fRet (fTup (fCons (f2 divB (fVar 0) (fVar 2)) (fCons (f2 divB (fVar 1) (fVar 2)) fNil))))))
def F__law_reduced : List D → Store → Out D := runB 3 B__law_reduced
/-! ### _law_pair -/
abbrev s__law_pair : Stmt := topS 20
abbrev N__law_pair : List Str := ["_law_bag_here", "_law_n", "_law_d"]
def B__law_pair : FS :=
    (fSeq (fSet 1 (fCall F__law_some (fCons (fVar 0) (fCons (fLst (fCons (fC (.int 0)) (fCons (fC (.int 1)) (fCons (f1 negD (fC (.int 1))) (fCons (fC (.int 7)) (fCons (fC (.int 12)) (fCons (fCall F__law_take (fCons (fVar 0) (fCons (f2 powD (fC (.int 10)) (fC (.int 9))) fNil))) (fCons (f1 negD (fCall F__law_take (fCons (fVar 0) (fCons (f2 powD (fC (.int 10)) (fC (.int 6))) fNil)))) (fCons (f2 addD (f2 powD (fC (.int 10)) (fC (.int 40))) (fCall F__law_take (fCons (fVar 0) (fCons (fC (.int 99)) fNil)))) fNil))))))))) fNil))))
    (fSeq (fSet 2 (fCall F__law_some (fCons (fVar 0) (fCons (fLst (fCons (fC (.int 1)) (fCons (fC (.int 2)) (fCons (fC (.int 3)) (fCons (fC (.int 10)) (fCons (fC (.int 12)) (fCons (f2 addD (fC (.int 1)) (fCall F__law_take (fCons (fVar 0) (fCons (f2 powD (fC (.int 10)) (fC (.int 6))) fNil)))) (fCons (f2 powD (fC (.int 10)) (fC (.int 40))) (fCons (fC (.int 1024)) fNil))))))))) fNil))))
    (fRet (fTup (fCons (fVar 1) (fCons (f2 mulS (fVar 2) (fCall F__law_some (fCons (fVar 0) (fCons (fLst (fCons (fC (.int 1)) (fCons (f1 negD (fC (.int 1))) fNil))) fNil)))) fNil))))))
def F__law_pair : List D → Store → Out D := runB 3 B__law_pair
/-! ### _law_ten -/
abbrev s__law_ten : Stmt := topS 21
abbrev N__law_ten : List Str := ["_law_places", "_law_found", "_law_turn"]
def B__law_ten : FS :=
    (fSeq (fSet 1 (fC (.int 1)))
    (fSeq (fFor (iRng (fCons (fVar 0) fNil)) (gNm 2) (fSet 1 (f2 mulS (fVar 1) (fC (.int 10)))))
    (fRet (fVar 1))))
def F__law_ten : List D → Store → Out D := runB 3 B__law_ten
/-! ### _law_decimal -/
abbrev s__law_decimal : Stmt := topS 22
abbrev N__law_decimal : List Str := ["_law_many", "_law_places", "_law_digits"]
def B__law_decimal : FS :=
    (fSeq (fSet 2 (fCall strD (fCons (fVar 0) fNil)))
    (fSeq (fSet 2 (f2 addD (f2 mulS (fC (.str "0")) (fCall max2D (fCons (fC (.int 0)) (fCons (f2 subD (f2 addD (fVar 1) (fC (.int 1))) (fCall lenD (fCons (fVar 2) fNil))) fNil)))) (fVar 2)))
    (fRet (fIf (fB (f2 eqD (fVar 1) (fC (.int 0)))) (fVar 2) (f2 addD (f2 addD (fSlS (fVar 2) (fC none) (fO (f1 negD (fVar 1)))) (fC (.str "."))) (fSlS (fVar 2) (fO (f1 negD (fVar 1))) (fC none)))))))
def F__law_decimal : List D → Store → Out D := runB 3 B__law_decimal
/-! ### law -/
abbrev s_law : Stmt := topS 23
abbrev N_law : List Str := ["_law_script", "_law_bag_here", "_law_turn", "_law_n", "_law_d", "_law_one", "_law_other", "_law_due", "_law_less", "_law_size", "_law_places", "_law_many", "_law_low", "_law_high", "_law_first", "_law_second", "_law_by", "_law_e", "_law_half"]
def B_law : FS :=
    (fSeq (fSet 1 (fCall F__law_bag (fCons (fVar 0) fNil)))
    (fSeq (fFor (iRng (fCons (fC (.int 6)) fNil)) (gNm 2) (fSeq (fAsg (fCall F__law_pair (fCons (fVar 1) fNil)) (gTp 2 (gsCons (gNm 3) (gsCons (gNm 4) gsNil))))
    (fSeq (fPar 5 6 (fCons (fCall F__law_reduced (fCons (fVar 3) (fCons (fVar 4) fNil))) (fCons (fCall F__law_reduced (fCons (f2 ixD (fCall F__law_pair (fCons (fVar 1) fNil)) (fC (.int 0))) (fCons (f2 ixD (fCall F__law_pair (fCons (fVar 1) fNil)) (fC (.int 1))) fNil))) fNil)))
    (fSeq (fSet 6 (fIf (fB (f2 eqD (fCall F__law_take (fCons (fVar 1) (fCons (fC (.int 4)) fNil))) (fC (.int 0)))) (fCall F__law_reduced (fCons (f2 addD (fVar 3) (fC (.int 1))) (fCons (fVar 4) fNil))) (fVar 6)))
    (fSeq (fSet 7 (fLst (fCons (fVar 5) (fCons (fCall F__law_reduced (fCons (f2 addD (f2 mulS (f2 ixD (fVar 5) (fC (.int 0))) (f2 ixD (fVar 6) (fC (.int 1)))) (f2 mulS (f2 ixD (fVar 6) (fC (.int 0))) (f2 ixD (fVar 5) (fC (.int 1))))) (fCons (f2 mulS (f2 ixD (fVar 5) (fC (.int 1))) (f2 ixD (fVar 6) (fC (.int 1)))) fNil))) (fCons (fCall F__law_reduced (fCons (f2 mulS (f2 ixD (fVar 5) (fC (.int 0))) (f2 ixD (fVar 6) (fC (.int 0)))) (fCons (f2 mulS (f2 ixD (fVar 5) (fC (.int 1))) (f2 ixD (fVar 6) (fC (.int 1)))) fNil))) fNil)))))
    (fSeq (fIf (fNot (fB (fCall F__law_alike (fCons (fLst (fCons (fCall F_reduced (fCons (fVar 3) (fCons (fVar 4) fNil))) (fCons (fCall F_added (fCons (fVar 5) (fCons (fVar 6) fNil))) (fCons (fCall F_times (fCons (fVar 5) (fCons (fVar 6) fNil))) fNil)))) (fCons (fVar 7) fNil))))) (fRet (fC (.bl false))) fNext)
    (fSeq (fSet 8 (f2 subD (f2 mulS (f2 ixD (fVar 5) (fC (.int 0))) (f2 ixD (fVar 6) (fC (.int 1)))) (f2 mulS (f2 ixD (fVar 6) (fC (.int 0))) (f2 ixD (fVar 5) (fC (.int 1))))))
    (fSeq (fIf (fNot (fB (fCall F__law_alike (fCons (fLst (fCons (fCall F_compared (fCons (fVar 5) (fCons (fVar 6) fNil))) (fCons (fCall F_compared (fCons (fVar 5) (fCons (fVar 5) fNil))) fNil))) (fCons (fLst (fCons (fIf (fB (f2 eqD (fVar 8) (fC (.int 0)))) (fC (.int 0)) (fIf (fB (f2 gtD (fVar 8) (fC (.int 0)))) (fC (.int 1)) (f1 negD (fC (.int 1))))) (fCons (fC (.int 0)) fNil))) fNil))))) (fRet (fC (.bl false))) fNext)
    (fSeq (fIf (fAnd (fB (f2 neD (f2 ixD (fVar 6) (fC (.int 0))) (fC (.int 0)))) (fNot (fB (fCall F__law_alike (fCons (fLst (fCons (fCall F_over (fCons (fVar 5) (fCons (fVar 6) fNil))) (fCons (fCall F_times (fCons (fCall F_over (fCons (fVar 5) (fCons (fVar 6) fNil))) (fCons (fVar 6) fNil))) fNil))) (fCons (fLst (fCons (fCall F__law_reduced (fCons (f2 mulS (f2 ixD (fVar 5) (fC (.int 0))) (f2 ixD (fVar 6) (fC (.int 1)))) (fCons (f2 mulS (f2 ixD (fVar 5) (fC (.int 1))) (f2 ixD (fVar 6) (fC (.int 0)))) fNil))) (fCons (fVar 5) fNil))) fNil)))))) (fRet (fC (.bl false))) fNext)
    (fSeq (fPar 9 10 (fCons (fTup (fCons (fCall absD (fCons (f2 ixD (fVar 5) (fC (.int 0))) fNil)) (fCons (f2 ixD (fVar 5) (fC (.int 1))) fNil))) (fCons (fCall F__law_some (fCons (fVar 1) (fCons (fLst (fCons (fC (.int 0)) (fCons (fC (.int 1)) (fCons (fC (.int 3)) (fCons (fC (.int 20)) fNil))))) fNil))) fNil)))
    (fSeq (fSet 11 (f2 mulS (f2 ixD (fVar 9) (fC (.int 0))) (fCall F__law_ten (fCons (fVar 10) fNil))))
    (fSeq (fPar 12 13 (fCons (f2 divD (fVar 11) (f2 ixD (fVar 9) (fC (.int 1)))) (fCons (f2 divD (f2 subD (f2 addD (fVar 11) (f2 ixD (fVar 9) (fC (.int 1)))) (fC (.int 1))) (f2 ixD (fVar 9) (fC (.int 1)))) fNil)))
    (fIf (fNot (fB (fCall F__law_alike (fCons (fLst (fCons (fCall F_decimal_below (fCons (fVar 9) (fCons (fVar 10) fNil))) (fCons (fCall F_decimal_above (fCons (fVar 9) (fCons (fVar 10) fNil))) fNil))) (fCons (fLst (fCons (fCall F__law_decimal (fCons (fVar 12) (fCons (fVar 10) fNil))) (fCons (fCall F__law_decimal (fCons (fVar 13) (fCons (fVar 10) fNil))) fNil))) fNil))))) (fRet (fC (.bl false))) fNext)))))))))))))
    (fSeq (fPar3 14 15 16 (fCons (fC (.int 1)) (fCons (fC (.int 1)) (fCons (fCall F__law_some (fCons (fVar 1) (fCons (fLst (fCons (fC (.int 1)) (fCons (fC (.int 2)) (fCons (fC (.int 7)) fNil)))) fNil))) fNil))))
    (fSeq (fFor (iRng (fCons (fCall F__law_some (fCons (fVar 1) (fCons (fLst (fCons (fC (.int 3000)) (fCons (fC (.int 200)) (fCons (fCall F__law_take (fCons (fVar 1) (fCons (fC (.int 900)) fNil))) fNil)))) fNil))) fNil)) (gNm 2) (fPar 14 15 (fCons (fVar 15) (fCons (f2 addD (fVar 14) (fVar 15)) fNil))))
    (fSeq (fIf (fNot (fB (fCall F__law_alike (fCons (fCall F_reduced (fCons (f2 mulS (fVar 14) (fVar 16)) (fCons (f2 mulS (f1 negD (fVar 15)) (fVar 16)) fNil))) (fCons (fTup (fCons (f1 negD (fVar 14)) (fCons (fVar 15) fNil))) fNil))))) (fRet (fC (.bl false))) fNext)
    (fSeq (fPar 17 18 (fCons (fCall F__law_some (fCons (fVar 1) (fCons (fLst (fCons (fC (.int 0)) (fCons (fC (.int 1)) (fCons (fC (.int 10)) (fCons (fC (.int 64)) (fCons (fC (.int 300)) fNil)))))) fNil))) (fCons (fC (.int 1)) fNil)))
    (fSeq (fFor (iRng (fCons (fVar 17) fNil)) (gNm 2) (fSet 18 (f2 mulS (fVar 18) (fC (.int 2)))))
    (fRet (fCall F__law_alike (fCons (fCall F_half_to (fCons (fVar 17) fNil)) (fCons (fTup (fCons (fC (.int 1)) (fCons (fVar 18) fNil))) fNil)))))))))))
def F_law : List D → Store → Out D := runB 19 B_law
end Law


namespace Law
open PySem PySem.Spec PyProof.Rows L2 MK
/-- what the top has left -/
structure Txt (K : PySem.W.Frag) (mg : Str → Option Value) where
  f_greatest_common : Addr
  d_greatest_common : FuncData
  F_greatest_common : Fun K "greatest_common" "greatest_common" s_greatest_common f_greatest_common d_greatest_common
  g_greatest_common : mg "greatest_common" = some (.ref f_greatest_common)
  b_greatest_common : Binds K d_greatest_common ["one", "other"] []
  f_power : Addr
  d_power : FuncData
  F_power : Fun K "power" "power" s_power f_power d_power
  g_power : mg "power" = some (.ref f_power)
  b_power : Binds K d_power ["base", "n"] []
  f_reduced : Addr
  d_reduced : FuncData
  F_reduced : Fun K "reduced" "reduced" s_reduced f_reduced d_reduced
  g_reduced : mg "reduced" = some (.ref f_reduced)
  b_reduced : Binds K d_reduced ["n", "d"] []
  f_added : Addr
  d_added : FuncData
  F_added : Fun K "added" "added" s_added f_added d_added
  g_added : mg "added" = some (.ref f_added)
  b_added : Binds K d_added ["one", "other"] []
  f_times : Addr
  d_times : FuncData
  F_times : Fun K "times" "times" s_times f_times d_times
  g_times : mg "times" = some (.ref f_times)
  b_times : Binds K d_times ["one", "other"] []
  f_over : Addr
  d_over : FuncData
  F_over : Fun K "over" "over" s_over f_over d_over
  g_over : mg "over" = some (.ref f_over)
  b_over : Binds K d_over ["one", "other"] []
  f_compared : Addr
  d_compared : FuncData
  F_compared : Fun K "compared" "compared" s_compared f_compared d_compared
  g_compared : mg "compared" = some (.ref f_compared)
  b_compared : Binds K d_compared ["one", "other"] []
  f_half_to : Addr
  d_half_to : FuncData
  F_half_to : Fun K "half_to" "half_to" s_half_to f_half_to d_half_to
  g_half_to : mg "half_to" = some (.ref f_half_to)
  b_half_to : Binds K d_half_to ["e"] []
  f_shown : Addr
  d_shown : FuncData
  F_shown : Fun K "shown" "shown" s_shown f_shown d_shown
  g_shown : mg "shown" = some (.ref f_shown)
  b_shown : Binds K d_shown ["number", "places"] []
  f_decimal_below : Addr
  d_decimal_below : FuncData
  F_decimal_below : Fun K "decimal_below" "decimal_below" s_decimal_below f_decimal_below d_decimal_below
  g_decimal_below : mg "decimal_below" = some (.ref f_decimal_below)
  b_decimal_below : Binds K d_decimal_below ["one", "places"] []
  f_decimal_above : Addr
  d_decimal_above : FuncData
  F_decimal_above : Fun K "decimal_above" "decimal_above" s_decimal_above f_decimal_above d_decimal_above
  g_decimal_above : mg "decimal_above" = some (.ref f_decimal_above)
  b_decimal_above : Binds K d_decimal_above ["one", "places"] []
  f__law_bag : Addr
  d__law_bag : FuncData
  F__law_bag : Fun K "_law_bag" "_law_bag" s__law_bag f__law_bag d__law_bag
  g__law_bag : mg "_law_bag" = some (.ref f__law_bag)
  b__law_bag : Binds K d__law_bag ["_law_script"] []
  f__law_take : Addr
  d__law_take : FuncData
  F__law_take : Fun K "_law_take" "_law_take" s__law_take f__law_take d__law_take
  g__law_take : mg "_law_take" = some (.ref f__law_take)
  b__law_take : Binds K d__law_take ["_law_bag_here", "_law_many"] []
  f__law_some : Addr
  d__law_some : FuncData
  F__law_some : Fun K "_law_some" "_law_some" s__law_some f__law_some d__law_some
  g__law_some : mg "_law_some" = some (.ref f__law_some)
  b__law_some : Binds K d__law_some ["_law_bag_here", "_law_things"] []
  f__law_alike : Addr
  d__law_alike : FuncData
  F__law_alike : Fun K "_law_alike" "_law_alike" s__law_alike f__law_alike d__law_alike
  g__law_alike : mg "_law_alike" = some (.ref f__law_alike)
  b__law_alike : Binds K d__law_alike ["_law_found", "_law_due"] []
  f__law_common : Addr
  d__law_common : FuncData
  F__law_common : Fun K "_law_common" "_law_common" s__law_common f__law_common d__law_common
  g__law_common : mg "_law_common" = some (.ref f__law_common)
  b__law_common : Binds K d__law_common ["_law_one", "_law_other"] []
  f__law_reduced : Addr
  d__law_reduced : FuncData
  F__law_reduced : Fun K "_law_reduced" "_law_reduced" s__law_reduced f__law_reduced d__law_reduced
  g__law_reduced : mg "_law_reduced" = some (.ref f__law_reduced)
  b__law_reduced : Binds K d__law_reduced ["_law_n", "_law_d"] []
  f__law_pair : Addr
  d__law_pair : FuncData
  F__law_pair : Fun K "_law_pair" "_law_pair" s__law_pair f__law_pair d__law_pair
  g__law_pair : mg "_law_pair" = some (.ref f__law_pair)
  b__law_pair : Binds K d__law_pair ["_law_bag_here"] []
  f__law_ten : Addr
  d__law_ten : FuncData
  F__law_ten : Fun K "_law_ten" "_law_ten" s__law_ten f__law_ten d__law_ten
  g__law_ten : mg "_law_ten" = some (.ref f__law_ten)
  b__law_ten : Binds K d__law_ten ["_law_places"] []
  f__law_decimal : Addr
  d__law_decimal : FuncData
  F__law_decimal : Fun K "_law_decimal" "_law_decimal" s__law_decimal f__law_decimal d__law_decimal
  g__law_decimal : mg "_law_decimal" = some (.ref f__law_decimal)
  b__law_decimal : Binds K d__law_decimal ["_law_many", "_law_places"] []
  f_law : Addr
  d_law : FuncData
  F_law : Fun K "law" "law" s_law f_law d_law
  g_law : mg "law" = some (.ref f_law)
  b_law : Binds K d_law ["_law_script"] []
  n_abs : mg "abs" = none
  n_int : mg "int" = none
  n_len : mg "len" = none
  n_max : mg "max" = none
  n_range : mg "range" = none
  n_repr : mg "repr" = none
  n_str : mg "str" = none
  nl : NoLim K
theorem sc_greatest_common : FnScope N_greatest_common ["one", "other"] (defScope s_greatest_common) := ⟨rfl, rfl, rfl, by decide +kernel, rfl, by decide +kernel, by decide +kernel⟩
theorem ok_greatest_common {P : Program} {w : World} {K : PySem.W.Frag} {mg : Str → Option Value} {base : Heap} (T : Txt K mg) : FnG P w K mg base CX0 1 T.f_greatest_common T.d_greatest_common ["one", "other"] (spM K 2 F_greatest_common) :=
  fn_mk (N := N_greatest_common) (k := 0) (fb := B_greatest_common) T.F_greatest_common sc_greatest_common fun cdv A outer s H E gd hr =>
    (mss_cons (ms_while 1000000 PassesOwn.never (mt_cmp op_gt o_cmp (me_var 1) me_int (nomark _)) (mss_one (ms_par (i := 0) (j := 1) rfl sc_greatest_common.nd rfl rfl (by decide) rfl rfl (ma_cons (me_var 1) (ma_cons (me_op op_mod o_mod (me_var 0) (me_var 1)) ma_nil)))))
    (mss_one (ms_ret (me_var 0))))
theorem sc_power : FnScope N_power ["base", "n"] (defScope s_power) := ⟨rfl, rfl, rfl, by decide +kernel, rfl, by decide +kernel, by decide +kernel⟩
theorem ok_power {P : Program} {w : World} {K : PySem.W.Frag} {mg : Str → Option Value} {base : Heap} (T : Txt K mg) : FnG P w K mg base CX0 1 T.f_power T.d_power ["base", "n"] (spM K 2 F_power) :=
  fn_mk (N := N_power) (k := 0) (fb := B_power) T.F_power sc_power fun cdv A outer s H E gd hr =>
    (mss_cons (ms_set (i := 2) sc_power.nd rfl (by first | exact .inl rfl | exact .inr rfl) me_int)
    (mss_cons (ms_while 1000000 PassesOwn.never (mt_cmp op_gt o_cmp (me_var 1) me_int (nomark _)) (mss_cons (ms_if (mt_cmp (or_eq hr) o_eq (me_op op_mod o_mod (me_var 1) me_int) me_int (nomark _)) (mss_one (ms_set (i := 2) sc_power.nd rfl (by first | exact .inl rfl | exact .inr rfl) (me_op or_mulS o_mulS (me_var 2) (me_var 0)))) mss_nil)
    (mss_one (ms_par (i := 0) (j := 1) rfl sc_power.nd rfl rfl (by decide) rfl rfl (ma_cons (me_op or_mulS o_mulS (me_var 0) (me_var 0)) (ma_cons (me_op op_fdivW o_div (me_var 1) me_int) ma_nil))))))
    (mss_one (ms_ret (me_var 2)))))
theorem sc_reduced : FnScope N_reduced ["n", "d"] (defScope s_reduced) := ⟨rfl, rfl, rfl, by decide +kernel, rfl, by decide +kernel, by decide +kernel⟩
theorem ok_reduced {P : Program} {w : World} {K : PySem.W.Frag} {mg : Str → Option Value} {base : Heap} (T : Txt K mg) : FnG P w K mg base CX0 2 T.f_reduced T.d_reduced ["n", "d"] (spM K 2 F_reduced) :=
  fn_mk (N := N_reduced) (k := 1) (fb := B_reduced) T.F_reduced sc_reduced fun cdv A outer s H E gd hr =>
    (mss_cons (ms_set (i := 2) sc_reduced.nd rfl (by first | exact .inl rfl | exact .inr rfl) (me_call gd (ok_greatest_common (P := P) (w := w) (base := base) T) (hr.mono (by decide)) rfl T.g_greatest_common T.F_greatest_common.kp T.b_greatest_common pass0 (ma_cons (me_callB call_abs c_abs rfl T.n_abs bb_abs (ma_cons (me_var 0) ma_nil)) (ma_cons (me_callB call_abs c_abs rfl T.n_abs bb_abs (ma_cons (me_var 1) ma_nil)) ma_nil)) (many_cons (many_cons many_nil))))
    (mss_cons (ms_set (i := 2) sc_reduced.nd rfl (by first | exact .inl rfl | exact .inr rfl) (me_if (mt_cmp op_gt o_cmp (me_var 1) me_int (nomark _)) (me_var 2) (me_op op_sub o_sub me_int (me_var 2))))
    (mss_one (ms_ret (me_tup (ma_cons (me_op op_fdivB o_divB (me_var 0) (me_var 2)) (ma_cons (me_op op_fdivB o_divB (me_var 1) (me_var 2)) ma_nil)))))))
theorem sc_added : FnScope N_added ["one", "other"] (defScope s_added) := ⟨rfl, rfl, rfl, by decide +kernel, rfl, by decide +kernel, by decide +kernel⟩
theorem ok_added {P : Program} {w : World} {K : PySem.W.Frag} {mg : Str → Option Value} {base : Heap} (T : Txt K mg) : FnG P w K mg base CX0 3 T.f_added T.d_added ["one", "other"] (spM K 2 F_added) :=
  fn_mk (N := N_added) (k := 2) (fb := B_added) T.F_added sc_added fun cdv A outer s H E gd hr =>
    (mss_one (ms_ret (me_call gd (ok_reduced (P := P) (w := w) (base := base) T) (hr.mono (by decide)) rfl T.g_reduced T.F_reduced.kp T.b_reduced pass0 (ma_cons (me_op or_add o_add (me_op or_mulS o_mulS (me_ix or_ix o_ix (me_var 0) me_int) (me_ix or_ix o_ix (me_var 1) me_int)) (me_op or_mulS o_mulS (me_ix or_ix o_ix (me_var 1) me_int) (me_ix or_ix o_ix (me_var 0) me_int))) (ma_cons (me_op or_mulS o_mulS (me_ix or_ix o_ix (me_var 0) me_int) (me_ix or_ix o_ix (me_var 1) me_int)) ma_nil)) (many_cons (many_cons many_nil)))))
theorem sc_times : FnScope N_times ["one", "other"] (defScope s_times) := ⟨rfl, rfl, rfl, by decide +kernel, rfl, by decide +kernel, by decide +kernel⟩
theorem ok_times {P : Program} {w : World} {K : PySem.W.Frag} {mg : Str → Option Value} {base : Heap} (T : Txt K mg) : FnG P w K mg base CX0 3 T.f_times T.d_times ["one", "other"] (spM K 2 F_times) :=
  fn_mk (N := N_times) (k := 2) (fb := B_times) T.F_times sc_times fun cdv A outer s H E gd hr =>
    (mss_one (ms_ret (me_call gd (ok_reduced (P := P) (w := w) (base := base) T) (hr.mono (by decide)) rfl T.g_reduced T.F_reduced.kp T.b_reduced pass0 (ma_cons (me_op or_mulS o_mulS (me_ix or_ix o_ix (me_var 0) me_int) (me_ix or_ix o_ix (me_var 1) me_int)) (ma_cons (me_op or_mulS o_mulS (me_ix or_ix o_ix (me_var 0) me_int) (me_ix or_ix o_ix (me_var 1) me_int)) ma_nil)) (many_cons (many_cons many_nil)))))
theorem sc_over : FnScope N_over ["one", "other"] (defScope s_over) := ⟨rfl, rfl, rfl, by decide +kernel, rfl, by decide +kernel, by decide +kernel⟩
theorem ok_over {P : Program} {w : World} {K : PySem.W.Frag} {mg : Str → Option Value} {base : Heap} (T : Txt K mg) : FnG P w K mg base CX0 3 T.f_over T.d_over ["one", "other"] (spM K 2 F_over) :=
  fn_mk (N := N_over) (k := 2) (fb := B_over) T.F_over sc_over fun cdv A outer s H E gd hr =>
    (mss_one (ms_ret (me_call gd (ok_reduced (P := P) (w := w) (base := base) T) (hr.mono (by decide)) rfl T.g_reduced T.F_reduced.kp T.b_reduced pass0 (ma_cons (me_op or_mulS o_mulS (me_ix or_ix o_ix (me_var 0) me_int) (me_ix or_ix o_ix (me_var 1) me_int)) (ma_cons (me_op or_mulS o_mulS (me_ix or_ix o_ix (me_var 0) me_int) (me_ix or_ix o_ix (me_var 1) me_int)) ma_nil)) (many_cons (many_cons many_nil)))))
theorem sc_compared : FnScope N_compared ["one", "other"] (defScope s_compared) := ⟨rfl, rfl, rfl, by decide +kernel, rfl, by decide +kernel, by decide +kernel⟩
theorem ok_compared {P : Program} {w : World} {K : PySem.W.Frag} {mg : Str → Option Value} {base : Heap} (T : Txt K mg) : FnG P w K mg base CX0 1 T.f_compared T.d_compared ["one", "other"] (spM K 2 F_compared) :=
  fn_mk (N := N_compared) (k := 0) (fb := B_compared) T.F_compared sc_compared fun cdv A outer s H E gd hr =>
    (mss_cons (ms_par (i := 2) (j := 3) rfl sc_compared.nd rfl rfl (by decide) rfl rfl (ma_cons (me_op or_mulS o_mulS (me_ix or_ix o_ix (me_var 0) me_int) (me_ix or_ix o_ix (me_var 1) me_int)) (ma_cons (me_op or_mulS o_mulS (me_ix or_ix o_ix (me_var 1) me_int) (me_ix or_ix o_ix (me_var 0) me_int)) ma_nil)))
    (mss_one (ms_ret (me_op op_sub o_sub (me_callT call_int1 c_int rfl T.n_int bb_int (ma_cons (me_cmp op_gt o_cmp (me_var 2) (me_var 3) (nomark _)) ma_nil)) (me_callT call_int1 c_int rfl T.n_int bb_int (ma_cons (me_cmp op_lt o_cmp (me_var 2) (me_var 3) (nomark _)) ma_nil))))))
theorem sc_half_to : FnScope N_half_to ["e"] (defScope s_half_to) := ⟨rfl, rfl, rfl, by decide +kernel, rfl, by decide +kernel, by decide +kernel⟩
theorem ok_half_to {P : Program} {w : World} {K : PySem.W.Frag} {mg : Str → Option Value} {base : Heap} (T : Txt K mg) : FnG P w K mg base CX0 2 T.f_half_to T.d_half_to ["e"] (spM K 1 F_half_to) :=
  fn_mk (N := N_half_to) (k := 1) (fb := B_half_to) T.F_half_to sc_half_to fun cdv A outer s H E gd hr =>
    (mss_one (ms_ret (me_tup (ma_cons me_int (ma_cons (me_call gd (ok_power (P := P) (w := w) (base := base) T) (hr.mono (by decide)) rfl T.g_power T.F_power.kp T.b_power pass0 (ma_cons me_int (ma_cons (me_var 0) ma_nil)) (many_cons (many_cons many_nil))) ma_nil)))))
theorem sc_shown : FnScope N_shown ["number", "places"] (defScope s_shown) := ⟨rfl, rfl, rfl, by decide +kernel, rfl, by decide +kernel, by decide +kernel⟩
theorem ok_shown {P : Program} {w : World} {K : PySem.W.Frag} {mg : Str → Option Value} {base : Heap} (T : Txt K mg) : FnG P w K mg base CX0 1 T.f_shown T.d_shown ["number", "places"] (spM K 2 F_shown) :=
  fn_mk (N := N_shown) (k := 0) (fb := B_shown) T.F_shown sc_shown fun cdv A outer s H E gd hr =>
    (mss_cons (ms_set (i := 2) sc_shown.nd rfl (by first | exact .inl rfl | exact .inr rfl) (me_callT call_str_int c_str rfl T.n_str bb_str (ma_cons (me_var 0) ma_nil)))
    (mss_cons (ms_set (i := 2) sc_shown.nd rfl (by first | exact .inl rfl | exact .inr rfl) (me_op or_add o_add (me_op or_mulS o_mulS me_str (me_op op_sub o_sub (me_op or_add o_add (me_var 1) me_int) (me_callB cr_lenA c_len rfl T.n_len bb_len (ma_cons (me_var 2) ma_nil)))) (me_var 2)))
    (mss_one (ms_ret (me_if (mt_cmp op_gt o_cmp (me_var 1) me_int (nomark _)) (me_op or_add o_add (me_op or_add o_add (me_sliceS (me_var 2) mo_none (mo_some (me_op op_sub o_sub (me_callB cr_lenA c_len rfl T.n_len bb_len (ma_cons (me_var 2) ma_nil)) (me_var 1)))) me_str) (me_sliceS (me_var 2) (mo_some (me_op op_sub o_sub (me_callB cr_lenA c_len rfl T.n_len bb_len (ma_cons (me_var 2) ma_nil)) (me_var 1))) mo_none)) (me_var 2))))))
theorem sc_decimal_below : FnScope N_decimal_below ["one", "places"] (defScope s_decimal_below) := ⟨rfl, rfl, rfl, by decide +kernel, rfl, by decide +kernel, by decide +kernel⟩
theorem ok_decimal_below {P : Program} {w : World} {K : PySem.W.Frag} {mg : Str → Option Value} {base : Heap} (T : Txt K mg) : FnG P w K mg base CX0 2 T.f_decimal_below T.d_decimal_below ["one", "places"] (spM K 2 F_decimal_below) :=
  fn_mk (N := N_decimal_below) (k := 1) (fb := B_decimal_below) T.F_decimal_below sc_decimal_below fun cdv A outer s H E gd hr =>
    (mss_one (ms_ret (me_call gd (ok_shown (P := P) (w := w) (base := base) T) (hr.mono (by decide)) rfl T.g_shown T.F_shown.kp T.b_shown pass0 (ma_cons (me_op op_fdivW o_div (me_op or_mulS o_mulS (me_ix or_ix o_ix (me_var 0) me_int) (me_call gd (ok_power (P := P) (w := w) (base := base) T) (hr.mono (by decide)) rfl T.g_power T.F_power.kp T.b_power pass0 (ma_cons me_int (ma_cons (me_var 1) ma_nil)) (many_cons (many_cons many_nil)))) (me_ix or_ix o_ix (me_var 0) me_int)) (ma_cons (me_var 1) ma_nil)) (many_cons (many_cons many_nil)))))
theorem sc_decimal_above : FnScope N_decimal_above ["one", "places"] (defScope s_decimal_above) := ⟨rfl, rfl, rfl, by decide +kernel, rfl, by decide +kernel, by decide +kernel⟩
theorem ok_decimal_above {P : Program} {w : World} {K : PySem.W.Frag} {mg : Str → Option Value} {base : Heap} (T : Txt K mg) : FnG P w K mg base CX0 2 T.f_decimal_above T.d_decimal_above ["one", "places"] (spM K 2 F_decimal_above) :=
  fn_mk (N := N_decimal_above) (k := 1) (fb := B_decimal_above) T.F_decimal_above sc_decimal_above fun cdv A outer s H E gd hr =>
    (mss_one (ms_ret (me_call gd (ok_shown (P := P) (w := w) (base := base) T) (hr.mono (by decide)) rfl T.g_shown T.F_shown.kp T.b_shown pass0 (ma_cons (me_op op_fdivW o_div (me_op op_sub o_sub (me_op or_add o_add (me_op or_mulS o_mulS (me_ix or_ix o_ix (me_var 0) me_int) (me_call gd (ok_power (P := P) (w := w) (base := base) T) (hr.mono (by decide)) rfl T.g_power T.F_power.kp T.b_power pass0 (ma_cons me_int (ma_cons (me_var 1) ma_nil)) (many_cons (many_cons many_nil)))) (me_ix or_ix o_ix (me_var 0) me_int)) me_int) (me_ix or_ix o_ix (me_var 0) me_int)) (ma_cons (me_var 1) ma_nil)) (many_cons (many_cons many_nil)))))
theorem sc__law_bag : FnScope N__law_bag ["_law_script"] (defScope s__law_bag) := ⟨rfl, rfl, rfl, by decide +kernel, rfl, by decide +kernel, by decide +kernel⟩
theorem ok__law_bag {P : Program} {w : World} {K : PySem.W.Frag} {mg : Str → Option Value} {base : Heap} (T : Txt K mg) : FnG P w K mg base CX0 1 T.f__law_bag T.d__law_bag ["_law_script"] (spM K 1 F__law_bag) :=
  fn_mk (N := N__law_bag) (k := 0) (fb := B__law_bag) T.F__law_bag sc__law_bag fun cdv A outer s H E gd hr =>
    (mss_one (ms_ret (me_new (ma_cons me_int (ma_cons me_int (ma_cons me_int (ma_cons (me_lc (own := [("_law_cell", 1)]) rfl sc__law_bag.nd (blkOk_by (own := [("_law_cell", 1)]) (N := N__law_bag) (sc := defScope s__law_bag) (by decide +kernel)) (by decide) (mi_seq (me_sliceS (me_var 0) mo_none (mo_some me_int))) (fun _ _ _ _ _ => (mg_name (i := 1) sc__law_bag.nd rfl (by first | exact .inl rfl | exact .inr rfl))) (fun _ _ _ _ _ => mts_nil) (fun _ _ _ _ _ => (me_callB call_abs c_abs rfl T.n_abs bb_abs (ma_cons (me_var 1) ma_nil)))) ma_nil)))))))
theorem sc__law_take : FnScope N__law_take ["_law_bag_here", "_law_many"] (defScope s__law_take) := ⟨rfl, rfl, rfl, by decide +kernel, rfl, by decide +kernel, by decide +kernel⟩
theorem ok__law_take {P : Program} {w : World} {K : PySem.W.Frag} {mg : Str → Option Value} {base : Heap} (T : Txt K mg) : FnG P w K mg base CX0 1 T.f__law_take T.d__law_take ["_law_bag_here", "_law_many"] (spM K 2 F__law_take) :=
  fn_mk (N := N__law_take) (k := 0) (fb := B__law_take) T.F__law_take sc__law_take fun cdv A outer s H E gd hr =>
    (mss_cons (ms_if (mt_cmp (or_eq hr) o_eq (me_ix or_ix o_ix (me_var 0) me_int) me_int (nomark _)) (mss_cons (ms_set (i := 2) sc__law_take.nd rfl (by first | exact .inl rfl | exact .inr rfl) (me_ix or_ix o_ix (me_op or_add o_add (me_sliceS (me_ix or_ix o_ix (me_var 0) me_int) (mo_some (me_ix or_ix o_ix (me_var 0) me_int)) mo_none) (me_lst (ma_cons me_int ma_nil))) me_int))
    (mss_cons (ms_augS get_list o_ixL ip_add o_addI set_list o_set (me_var 0) me_int me_int)
    (mss_cons (ms_if (mt_cmp op_ge o_cmp (me_var 2) (me_op op_pow o_pow me_int me_int) (nomark _)) (mss_one (ms_asg (me_var 2) (mg_sub set_list o_set (me_var 0) me_int))) mss_nil)
    (mss_cons (ms_set (i := 3) sc__law_take.nd rfl (by first | exact .inl rfl | exact .inr rfl) (me_op or_add o_add (me_op or_add o_add (me_op or_mulS o_mulS (me_ix or_ix o_ix (me_var 0) me_int) me_int) (me_op op_mod o_mod (me_callT call_int1 c_int rfl T.n_int bb_int (ma_cons (me_var 2) ma_nil)) me_int)) (me_op or_mulS o_mulS me_int (me_ix or_ix o_ix (me_var 0) me_int))))
    (mss_one (ms_asg (me_op op_mod o_mod (me_callT call_int1 c_int rfl T.n_int bb_int (ma_cons (me_var 3) ma_nil)) me_int) (mg_sub set_list o_set (me_var 0) me_int))))))) mss_nil)
    (mss_cons (ms_if (mt_cmp op_gt o_cmp (me_ix or_ix o_ix (me_var 0) me_int) me_int (nomark _)) (mss_cons (ms_set (i := 4) sc__law_take.nd rfl (by first | exact .inl rfl | exact .inr rfl) (me_op op_mod o_mod (me_callT call_int1 c_int rfl T.n_int bb_int (ma_cons (me_ix or_ix o_ix (me_var 0) me_int) ma_nil)) (me_var 1)))
    (mss_cons (ms_asg (me_op op_fdivW o_div (me_callT call_int1 c_int rfl T.n_int bb_int (ma_cons (me_ix or_ix o_ix (me_var 0) me_int) ma_nil)) (me_var 1)) (mg_sub set_list o_set (me_var 0) me_int))
    (mss_one (ms_ret (me_var 4))))) mss_nil)
    (mss_cons (ms_set (i := 5) sc__law_take.nd rfl (by first | exact .inl rfl | exact .inr rfl) (me_op op_mod o_mod (me_callT call_int1 c_int rfl T.n_int bb_int (ma_cons (me_op or_mulS o_mulS (me_op or_add o_add (me_ix or_ix o_ix (me_var 0) me_int) me_int) me_int) ma_nil)) me_int))
    (mss_cons (ms_set (i := 6) sc__law_take.nd rfl (by first | exact .inl rfl | exact .inr rfl) (me_op op_mod o_mod (me_callT call_int1 c_int rfl T.n_int bb_int (ma_cons (me_op or_mulS o_mulS (me_op op_mod o_mod (me_callT call_int1 c_int rfl T.n_int bb_int (ma_cons (me_op or_mulS o_mulS (me_var 5) (me_var 5)) ma_nil)) me_int) me_int) ma_nil)) me_int))
    (mss_one (ms_ret (me_op op_mod o_mod (me_callT call_int1 c_int rfl T.n_int bb_int (ma_cons (me_op op_fdivW o_div (me_var 6) me_int) ma_nil)) (me_var 1))))))))
theorem sc__law_some : FnScope N__law_some ["_law_bag_here", "_law_things"] (defScope s__law_some) := ⟨rfl, rfl, rfl, by decide +kernel, rfl, by decide +kernel, by decide +kernel⟩
theorem ok__law_some {P : Program} {w : World} {K : PySem.W.Frag} {mg : Str → Option Value} {base : Heap} (T : Txt K mg) : FnG P w K mg base CX0 2 T.f__law_some T.d__law_some ["_law_bag_here", "_law_things"] (spM K 2 F__law_some) :=
  fn_mk (N := N__law_some) (k := 1) (fb := B__law_some) T.F__law_some sc__law_some fun cdv A outer s H E gd hr =>
    (mss_one (ms_ret (me_ix or_ix o_ix (me_var 1) (me_call gd (ok__law_take (P := P) (w := w) (base := base) T) (hr.mono (by decide)) rfl T.g__law_take T.F__law_take.kp T.b__law_take pass0 (ma_cons (me_var 0) (ma_cons (me_callB cr_lenA c_len rfl T.n_len bb_len (ma_cons (me_var 1) ma_nil)) ma_nil)) (many_cons (many_cons many_nil))))))
theorem sc__law_alike : FnScope N__law_alike ["_law_found", "_law_due"] (defScope s__law_alike) := ⟨rfl, rfl, rfl, by decide +kernel, rfl, by decide +kernel, by decide +kernel⟩
theorem ok__law_alike {P : Program} {w : World} {K : PySem.W.Frag} {mg : Str → Option Value} {base : Heap} (T : Txt K mg) : FnG P w K mg base CX0 1 T.f__law_alike T.d__law_alike ["_law_found", "_law_due"] (spM K 2 F__law_alike) :=
  fn_mk (N := N__law_alike) (k := 0) (fb := B__law_alike) T.F__law_alike sc__law_alike fun cdv A outer s H E gd hr =>
    (mss_one (ms_ret (me_and (me_cmp (or_eq hr) o_eq (me_var 0) (me_var 1) (nomark _)) (me_one (me_cmp (or_eq hr) o_eq (me_callB (cr_reprW gd hr T.nl) c_reprW rfl T.n_repr bb_repr (ma_cons (me_var 0) ma_nil)) (me_callB (cr_reprW gd hr T.nl) c_reprW rfl T.n_repr bb_repr (ma_cons (me_var 1) ma_nil)) (nomark _))))))
theorem sc__law_common : FnScope N__law_common ["_law_one", "_law_other"] (defScope s__law_common) := ⟨rfl, rfl, rfl, by decide +kernel, rfl, by decide +kernel, by decide +kernel⟩
theorem ok__law_common {P : Program} {w : World} {K : PySem.W.Frag} {mg : Str → Option Value} {base : Heap} (T : Txt K mg) : FnG P w K mg base CX0 1 T.f__law_common T.d__law_common ["_law_one", "_law_other"] (spM K 2 F__law_common) :=
  fn_mk (N := N__law_common) (k := 0) (fb := B__law_common) T.F__law_common sc__law_common fun cdv A outer s H E gd hr =>
    (mss_cons (ms_par (i := 0) (j := 1) rfl sc__law_common.nd rfl rfl (by decide) rfl rfl (ma_cons (me_callB call_abs c_abs rfl T.n_abs bb_abs (ma_cons (me_var 0) ma_nil)) (ma_cons (me_callB call_abs c_abs rfl T.n_abs bb_abs (ma_cons (me_var 1) ma_nil)) ma_nil)))
    (mss_cons (ms_while 1000000 PassesOwn.never (mt_cmp op_gt o_cmp (me_var 1) me_int (nomark _)) (mss_one (ms_par (i := 0) (j := 1) rfl sc__law_common.nd rfl rfl (by decide) rfl rfl (ma_cons (me_var 1) (ma_cons (me_op op_mod o_mod (me_callT call_int1 c_int rfl T.n_int bb_int (ma_cons (me_var 0) ma_nil)) (me_var 1)) ma_nil)))))
    (mss_one (ms_ret (me_var 0)))))
theorem sc__law_reduced : FnScope N__law_reduced ["_law_n", "_law_d"] (defScope s__law_reduced) := ⟨rfl, rfl, rfl, by decide +kernel, rfl, by decide +kernel, by decide +kernel⟩
theorem ok__law_reduced {P : Program} {w : World} {K : PySem.W.Frag} {mg : Str → Option Value} {base : Heap} (T : Txt K mg) : FnG P w K mg base CX0 2 T.f__law_reduced T.d__law_reduced ["_law_n", "_law_d"] (spM K 2 F__law_reduced) :=
  fn_mk (N := N__law_reduced) (k := 1) (fb := B__law_reduced) T.F__law_reduced sc__law_reduced fun cdv A outer s H E gd hr =>
    (mss_cons (ms_set (i := 2) sc__law_reduced.nd rfl (by first | exact .inl rfl | exact .inr rfl) (me_call gd (ok__law_common (P := P) (w := w) (base := base) T) (hr.mono (by decide)) rfl T.g__law_common T.F__law_common.kp T.b__law_common pass0 (ma_cons (me_var 0) (ma_cons (me_var 1) ma_nil)) (many_cons (many_cons many_nil))))
    (mss_cons (ms_set (i := 2) sc__law_reduced.nd rfl (by first | exact .inl rfl | exact .inr rfl) (me_if (mt_cmp op_gt o_cmp (me_var 1) me_int (nomark _)) (me_var 2) (me_un un_neg o_neg (me_var 2))))
    (mss_one (ms_ret (me_tup (ma_cons (me_op op_fdivB o_divB (me_var 0) (me_var 2)) (ma_cons (me_op op_fdivB o_divB (me_var 1) (me_var 2)) ma_nil)))))))
theorem sc__law_pair : FnScope N__law_pair ["_law_bag_here"] (defScope s__law_pair) := ⟨rfl, rfl, rfl, by decide +kernel, rfl, by decide +kernel, by decide +kernel⟩
theorem ok__law_pair {P : Program} {w : World} {K : PySem.W.Frag} {mg : Str → Option Value} {base : Heap} (T : Txt K mg) : FnG P w K mg base CX0 3 T.f__law_pair T.d__law_pair ["_law_bag_here"] (spM K 1 F__law_pair) :=
  fn_mk (N := N__law_pair) (k := 2) (fb := B__law_pair) T.F__law_pair sc__law_pair fun cdv A outer s H E gd hr =>
    (mss_cons (ms_set (i := 1) sc__law_pair.nd rfl (by first | exact .inl rfl | exact .inr rfl) (me_call gd (ok__law_some (P := P) (w := w) (base := base) T) (hr.mono (by decide)) rfl T.g__law_some T.F__law_some.kp T.b__law_some pass0 (ma_cons (me_var 0) (ma_cons (me_lst (ma_cons me_int (ma_cons me_int (ma_cons (me_un un_neg o_neg me_int) (ma_cons me_int (ma_cons me_int (ma_cons (me_call gd (ok__law_take (P := P) (w := w) (base := base) T) (hr.mono (by decide)) rfl T.g__law_take T.F__law_take.kp T.b__law_take pass0 (ma_cons (me_var 0) (ma_cons (me_op op_pow o_pow me_int me_int) ma_nil)) (many_cons (many_cons many_nil))) (ma_cons (me_un un_neg o_neg (me_call gd (ok__law_take (P := P) (w := w) (base := base) T) (hr.mono (by decide)) rfl T.g__law_take T.F__law_take.kp T.b__law_take pass0 (ma_cons (me_var 0) (ma_cons (me_op op_pow o_pow me_int me_int) ma_nil)) (many_cons (many_cons many_nil)))) (ma_cons (me_op or_add o_add (me_op op_pow o_pow me_int me_int) (me_call gd (ok__law_take (P := P) (w := w) (base := base) T) (hr.mono (by decide)) rfl T.g__law_take T.F__law_take.kp T.b__law_take pass0 (ma_cons (me_var 0) (ma_cons me_int ma_nil)) (many_cons (many_cons many_nil)))) ma_nil))))))))) ma_nil)) (many_cons (many_cons many_nil))))
    (mss_cons (ms_set (i := 2) sc__law_pair.nd rfl (by first | exact .inl rfl | exact .inr rfl) (me_call gd (ok__law_some (P := P) (w := w) (base := base) T) (hr.mono (by decide)) rfl T.g__law_some T.F__law_some.kp T.b__law_some pass0 (ma_cons (me_var 0) (ma_cons (me_lst (ma_cons me_int (ma_cons me_int (ma_cons me_int (ma_cons me_int (ma_cons me_int (ma_cons (me_op or_add o_add me_int (me_call gd (ok__law_take (P := P) (w := w) (base := base) T) (hr.mono (by decide)) rfl T.g__law_take T.F__law_take.kp T.b__law_take pass0 (ma_cons (me_var 0) (ma_cons (me_op op_pow o_pow me_int me_int) ma_nil)) (many_cons (many_cons many_nil)))) (ma_cons (me_op op_pow o_pow me_int me_int) (ma_cons me_int ma_nil))))))))) ma_nil)) (many_cons (many_cons many_nil))))
    (mss_one (ms_ret (me_tup (ma_cons (me_var 1) (ma_cons (me_op or_mulS o_mulS (me_var 2) (me_call gd (ok__law_some (P := P) (w := w) (base := base) T) (hr.mono (by decide)) rfl T.g__law_some T.F__law_some.kp T.b__law_some pass0 (ma_cons (me_var 0) (ma_cons (me_lst (ma_cons me_int (ma_cons (me_un un_neg o_neg me_int) ma_nil))) ma_nil)) (many_cons (many_cons many_nil)))) ma_nil)))))))
theorem sc__law_ten : FnScope N__law_ten ["_law_places"] (defScope s__law_ten) := ⟨rfl, rfl, rfl, by decide +kernel, rfl, by decide +kernel, by decide +kernel⟩
theorem ok__law_ten {P : Program} {w : World} {K : PySem.W.Frag} {mg : Str → Option Value} {base : Heap} (T : Txt K mg) : FnG P w K mg base CX0 1 T.f__law_ten T.d__law_ten ["_law_places"] (spM K 1 F__law_ten) :=
  fn_mk (N := N__law_ten) (k := 0) (fb := B__law_ten) T.F__law_ten sc__law_ten fun cdv A outer s H E gd hr =>
    (mss_cons (ms_set (i := 1) sc__law_ten.nd rfl (by first | exact .inl rfl | exact .inr rfl) me_int)
    (mss_cons (ms_for PassesOwn.never rfl (mi_range1 rfl T.n_range (me_var 0)) (mg_name (i := 2) sc__law_ten.nd rfl (by first | exact .inl rfl | exact .inr rfl)) (mss_one (ms_set (i := 1) sc__law_ten.nd rfl (by first | exact .inl rfl | exact .inr rfl) (me_op or_mulS o_mulS (me_var 1) me_int))))
    (mss_one (ms_ret (me_var 1)))))
theorem sc__law_decimal : FnScope N__law_decimal ["_law_many", "_law_places"] (defScope s__law_decimal) := ⟨rfl, rfl, rfl, by decide +kernel, rfl, by decide +kernel, by decide +kernel⟩
theorem ok__law_decimal {P : Program} {w : World} {K : PySem.W.Frag} {mg : Str → Option Value} {base : Heap} (T : Txt K mg) : FnG P w K mg base CX0 1 T.f__law_decimal T.d__law_decimal ["_law_many", "_law_places"] (spM K 2 F__law_decimal) :=
  fn_mk (N := N__law_decimal) (k := 0) (fb := B__law_decimal) T.F__law_decimal sc__law_decimal fun cdv A outer s H E gd hr =>
    (mss_cons (ms_set (i := 2) sc__law_decimal.nd rfl (by first | exact .inl rfl | exact .inr rfl) (me_callT call_str_int c_str rfl T.n_str bb_str (ma_cons (me_var 0) ma_nil)))
    (mss_cons (ms_set (i := 2) sc__law_decimal.nd rfl (by first | exact .inl rfl | exact .inr rfl) (me_op or_add o_add (me_op or_mulS o_mulS me_str (me_callB (call_max2 rfl) c_max2 rfl T.n_max bb_max (ma_cons me_int (ma_cons (me_op op_sub o_sub (me_op or_add o_add (me_var 1) me_int) (me_callB cr_lenA c_len rfl T.n_len bb_len (ma_cons (me_var 2) ma_nil))) ma_nil)))) (me_var 2)))
    (mss_one (ms_ret (me_if (mt_cmp (or_eq hr) o_eq (me_var 1) me_int (nomark _)) (me_var 2) (me_op or_add o_add (me_op or_add o_add (me_sliceS (me_var 2) mo_none (mo_some (me_un un_neg o_neg (me_var 1)))) me_str) (me_sliceS (me_var 2) (mo_some (me_un un_neg o_neg (me_var 1))) mo_none)))))))
theorem sc_law : FnScope N_law ["_law_script"] (defScope s_law) := ⟨rfl, rfl, rfl, by decide +kernel, rfl, by decide +kernel, by decide +kernel⟩
theorem ok_law {P : Program} {w : World} {K : PySem.W.Frag} {mg : Str → Option Value} {base : Heap} (T : Txt K mg) : FnG P w K mg base CX0 4 T.f_law T.d_law ["_law_script"] (spM K 1 F_law) :=
  fn_mk (N := N_law) (k := 3) (fb := B_law) T.F_law sc_law fun cdv A outer s H E gd hr =>
    (mss_cons (ms_set (i := 1) sc_law.nd rfl (by first | exact .inl rfl | exact .inr rfl) (me_call gd (ok__law_bag (P := P) (w := w) (base := base) T) (hr.mono (by decide)) rfl T.g__law_bag T.F__law_bag.kp T.b__law_bag pass0 (ma_cons (me_var 0) ma_nil) (many_cons many_nil)))
    (mss_cons (ms_for PassesOwn.never rfl (mi_range1 rfl T.n_range me_int) (mg_name (i := 2) sc_law.nd rfl (by first | exact .inl rfl | exact .inr rfl)) (mss_cons (ms_asg (me_call gd (ok__law_pair (P := P) (w := w) (base := base) T) (hr.mono (by decide)) rfl T.g__law_pair T.F__law_pair.kp T.b__law_pair pass0 (ma_cons (me_var 1) ma_nil) (many_cons many_nil)) (mg_tup rfl (mgs_cons (mg_name (i := 3) sc_law.nd rfl (by first | exact .inl rfl | exact .inr rfl)) (mgs_cons (mg_name (i := 4) sc_law.nd rfl (by first | exact .inl rfl | exact .inr rfl)) mgs_nil))))
    (mss_cons (ms_par (i := 5) (j := 6) rfl sc_law.nd rfl rfl (by decide) rfl rfl (ma_cons (me_call gd (ok__law_reduced (P := P) (w := w) (base := base) T) (hr.mono (by decide)) rfl T.g__law_reduced T.F__law_reduced.kp T.b__law_reduced pass0 (ma_cons (me_var 3) (ma_cons (me_var 4) ma_nil)) (many_cons (many_cons many_nil))) (ma_cons (me_call gd (ok__law_reduced (P := P) (w := w) (base := base) T) (hr.mono (by decide)) rfl T.g__law_reduced T.F__law_reduced.kp T.b__law_reduced pass0 (ma_cons (me_ix or_ix o_ix (me_call gd (ok__law_pair (P := P) (w := w) (base := base) T) (hr.mono (by decide)) rfl T.g__law_pair T.F__law_pair.kp T.b__law_pair pass0 (ma_cons (me_var 1) ma_nil) (many_cons many_nil)) me_int) (ma_cons (me_ix or_ix o_ix (me_call gd (ok__law_pair (P := P) (w := w) (base := base) T) (hr.mono (by decide)) rfl T.g__law_pair T.F__law_pair.kp T.b__law_pair pass0 (ma_cons (me_var 1) ma_nil) (many_cons many_nil)) me_int) ma_nil)) (many_cons (many_cons many_nil))) ma_nil)))
    (mss_cons (ms_set (i := 6) sc_law.nd rfl (by first | exact .inl rfl | exact .inr rfl) (me_if (mt_cmp (or_eq hr) o_eq (me_call gd (ok__law_take (P := P) (w := w) (base := base) T) (hr.mono (by decide)) rfl T.g__law_take T.F__law_take.kp T.b__law_take pass0 (ma_cons (me_var 1) (ma_cons me_int ma_nil)) (many_cons (many_cons many_nil))) me_int (nomark _)) (me_call gd (ok__law_reduced (P := P) (w := w) (base := base) T) (hr.mono (by decide)) rfl T.g__law_reduced T.F__law_reduced.kp T.b__law_reduced pass0 (ma_cons (me_op or_add o_add (me_var 3) me_int) (ma_cons (me_var 4) ma_nil)) (many_cons (many_cons many_nil))) (me_var 6)))
    (mss_cons (ms_set (i := 7) sc_law.nd rfl (by first | exact .inl rfl | exact .inr rfl) (me_lst (ma_cons (me_var 5) (ma_cons (me_call gd (ok__law_reduced (P := P) (w := w) (base := base) T) (hr.mono (by decide)) rfl T.g__law_reduced T.F__law_reduced.kp T.b__law_reduced pass0 (ma_cons (me_op or_add o_add (me_op or_mulS o_mulS (me_ix or_ix o_ix (me_var 5) me_int) (me_ix or_ix o_ix (me_var 6) me_int)) (me_op or_mulS o_mulS (me_ix or_ix o_ix (me_var 6) me_int) (me_ix or_ix o_ix (me_var 5) me_int))) (ma_cons (me_op or_mulS o_mulS (me_ix or_ix o_ix (me_var 5) me_int) (me_ix or_ix o_ix (me_var 6) me_int)) ma_nil)) (many_cons (many_cons many_nil))) (ma_cons (me_call gd (ok__law_reduced (P := P) (w := w) (base := base) T) (hr.mono (by decide)) rfl T.g__law_reduced T.F__law_reduced.kp T.b__law_reduced pass0 (ma_cons (me_op or_mulS o_mulS (me_ix or_ix o_ix (me_var 5) me_int) (me_ix or_ix o_ix (me_var 6) me_int)) (ma_cons (me_op or_mulS o_mulS (me_ix or_ix o_ix (me_var 5) me_int) (me_ix or_ix o_ix (me_var 6) me_int)) ma_nil)) (many_cons (many_cons many_nil))) ma_nil)))))
    (mss_cons (ms_if (mt_not (mt_val (me_call gd (ok__law_alike (P := P) (w := w) (base := base) T) (hr.mono (by decide)) rfl T.g__law_alike T.F__law_alike.kp T.b__law_alike pass0 (ma_cons (me_lst (ma_cons (me_call gd (ok_reduced (P := P) (w := w) (base := base) T) (hr.mono (by decide)) rfl T.g_reduced T.F_reduced.kp T.b_reduced pass0 (ma_cons (me_var 3) (ma_cons (me_var 4) ma_nil)) (many_cons (many_cons many_nil))) (ma_cons (me_call gd (ok_added (P := P) (w := w) (base := base) T) (hr.mono (by decide)) rfl T.g_added T.F_added.kp T.b_added pass0 (ma_cons (me_var 5) (ma_cons (me_var 6) ma_nil)) (many_cons (many_cons many_nil))) (ma_cons (me_call gd (ok_times (P := P) (w := w) (base := base) T) (hr.mono (by decide)) rfl T.g_times T.F_times.kp T.b_times pass0 (ma_cons (me_var 5) (ma_cons (me_var 6) ma_nil)) (many_cons (many_cons many_nil))) ma_nil)))) (ma_cons (me_var 7) ma_nil)) (many_cons (many_cons many_nil))))) (mss_one (ms_ret me_bl)) mss_nil)
    (mss_cons (ms_set (i := 8) sc_law.nd rfl (by first | exact .inl rfl | exact .inr rfl) (me_op op_sub o_sub (me_op or_mulS o_mulS (me_ix or_ix o_ix (me_var 5) me_int) (me_ix or_ix o_ix (me_var 6) me_int)) (me_op or_mulS o_mulS (me_ix or_ix o_ix (me_var 6) me_int) (me_ix or_ix o_ix (me_var 5) me_int))))
    (mss_cons (ms_if (mt_not (mt_val (me_call gd (ok__law_alike (P := P) (w := w) (base := base) T) (hr.mono (by decide)) rfl T.g__law_alike T.F__law_alike.kp T.b__law_alike pass0 (ma_cons (me_lst (ma_cons (me_call gd (ok_compared (P := P) (w := w) (base := base) T) (hr.mono (by decide)) rfl T.g_compared T.F_compared.kp T.b_compared pass0 (ma_cons (me_var 5) (ma_cons (me_var 6) ma_nil)) (many_cons (many_cons many_nil))) (ma_cons (me_call gd (ok_compared (P := P) (w := w) (base := base) T) (hr.mono (by decide)) rfl T.g_compared T.F_compared.kp T.b_compared pass0 (ma_cons (me_var 5) (ma_cons (me_var 5) ma_nil)) (many_cons (many_cons many_nil))) ma_nil))) (ma_cons (me_lst (ma_cons (me_if (mt_cmp (or_eq hr) o_eq (me_var 8) me_int (nomark _)) me_int (me_if (mt_cmp op_gt o_cmp (me_var 8) me_int (nomark _)) me_int (me_un un_neg o_neg me_int))) (ma_cons me_int ma_nil))) ma_nil)) (many_cons (many_cons many_nil))))) (mss_one (ms_ret me_bl)) mss_nil)
    (mss_cons (ms_if (mt_w (mw_and (mt_cmp (or_ne hr) o_ne (me_ix or_ix o_ix (me_var 6) me_int) me_int (nomark _)) (mw_and1 (mt_not (mt_val (me_call gd (ok__law_alike (P := P) (w := w) (base := base) T) (hr.mono (by decide)) rfl T.g__law_alike T.F__law_alike.kp T.b__law_alike pass0 (ma_cons (me_lst (ma_cons (me_call gd (ok_over (P := P) (w := w) (base := base) T) (hr.mono (by decide)) rfl T.g_over T.F_over.kp T.b_over pass0 (ma_cons (me_var 5) (ma_cons (me_var 6) ma_nil)) (many_cons (many_cons many_nil))) (ma_cons (me_call gd (ok_times (P := P) (w := w) (base := base) T) (hr.mono (by decide)) rfl T.g_times T.F_times.kp T.b_times pass0 (ma_cons (me_call gd (ok_over (P := P) (w := w) (base := base) T) (hr.mono (by decide)) rfl T.g_over T.F_over.kp T.b_over pass0 (ma_cons (me_var 5) (ma_cons (me_var 6) ma_nil)) (many_cons (many_cons many_nil))) (ma_cons (me_var 6) ma_nil)) (many_cons (many_cons many_nil))) ma_nil))) (ma_cons (me_lst (ma_cons (me_call gd (ok__law_reduced (P := P) (w := w) (base := base) T) (hr.mono (by decide)) rfl T.g__law_reduced T.F__law_reduced.kp T.b__law_reduced pass0 (ma_cons (me_op or_mulS o_mulS (me_ix or_ix o_ix (me_var 5) me_int) (me_ix or_ix o_ix (me_var 6) me_int)) (ma_cons (me_op or_mulS o_mulS (me_ix or_ix o_ix (me_var 5) me_int) (me_ix or_ix o_ix (me_var 6) me_int)) ma_nil)) (many_cons (many_cons many_nil))) (ma_cons (me_var 5) ma_nil))) ma_nil)) (many_cons (many_cons many_nil)))))))) (mss_one (ms_ret me_bl)) mss_nil)
    (mss_cons (ms_par (i := 9) (j := 10) rfl sc_law.nd rfl rfl (by decide) rfl rfl (ma_cons (me_tup (ma_cons (me_callB call_abs c_abs rfl T.n_abs bb_abs (ma_cons (me_ix or_ix o_ix (me_var 5) me_int) ma_nil)) (ma_cons (me_ix or_ix o_ix (me_var 5) me_int) ma_nil))) (ma_cons (me_call gd (ok__law_some (P := P) (w := w) (base := base) T) (hr.mono (by decide)) rfl T.g__law_some T.F__law_some.kp T.b__law_some pass0 (ma_cons (me_var 1) (ma_cons (me_lst (ma_cons me_int (ma_cons me_int (ma_cons me_int (ma_cons me_int ma_nil))))) ma_nil)) (many_cons (many_cons many_nil))) ma_nil)))
    (mss_cons (ms_set (i := 11) sc_law.nd rfl (by first | exact .inl rfl | exact .inr rfl) (me_op or_mulS o_mulS (me_ix or_ix o_ix (me_var 9) me_int) (me_call gd (ok__law_ten (P := P) (w := w) (base := base) T) (hr.mono (by decide)) rfl T.g__law_ten T.F__law_ten.kp T.b__law_ten pass0 (ma_cons (me_var 10) ma_nil) (many_cons many_nil))))
    (mss_cons (ms_par (i := 12) (j := 13) rfl sc_law.nd rfl rfl (by decide) rfl rfl (ma_cons (me_op op_fdivW o_div (me_var 11) (me_ix or_ix o_ix (me_var 9) me_int)) (ma_cons (me_op op_fdivW o_div (me_op op_sub o_sub (me_op or_add o_add (me_var 11) (me_ix or_ix o_ix (me_var 9) me_int)) me_int) (me_ix or_ix o_ix (me_var 9) me_int)) ma_nil)))
    (mss_one (ms_if (mt_not (mt_val (me_call gd (ok__law_alike (P := P) (w := w) (base := base) T) (hr.mono (by decide)) rfl T.g__law_alike T.F__law_alike.kp T.b__law_alike pass0 (ma_cons (me_lst (ma_cons (me_call gd (ok_decimal_below (P := P) (w := w) (base := base) T) (hr.mono (by decide)) rfl T.g_decimal_below T.F_decimal_below.kp T.b_decimal_below pass0 (ma_cons (me_var 9) (ma_cons (me_var 10) ma_nil)) (many_cons (many_cons many_nil))) (ma_cons (me_call gd (ok_decimal_above (P := P) (w := w) (base := base) T) (hr.mono (by decide)) rfl T.g_decimal_above T.F_decimal_above.kp T.b_decimal_above pass0 (ma_cons (me_var 9) (ma_cons (me_var 10) ma_nil)) (many_cons (many_cons many_nil))) ma_nil))) (ma_cons (me_lst (ma_cons (me_call gd (ok__law_decimal (P := P) (w := w) (base := base) T) (hr.mono (by decide)) rfl T.g__law_decimal T.F__law_decimal.kp T.b__law_decimal pass0 (ma_cons (me_var 12) (ma_cons (me_var 10) ma_nil)) (many_cons (many_cons many_nil))) (ma_cons (me_call gd (ok__law_decimal (P := P) (w := w) (base := base) T) (hr.mono (by decide)) rfl T.g__law_decimal T.F__law_decimal.kp T.b__law_decimal pass0 (ma_cons (me_var 13) (ma_cons (me_var 10) ma_nil)) (many_cons (many_cons many_nil))) ma_nil))) ma_nil)) (many_cons (many_cons many_nil))))) (mss_one (ms_ret me_bl)) mss_nil))))))))))))))
    (mss_cons (ms_par3 (i := 14) (j := 15) (l := 16) rfl sc_law.nd rfl rfl rfl (by decide) (by decide) (by decide) rfl rfl rfl (ma_cons me_int (ma_cons me_int (ma_cons (me_call gd (ok__law_some (P := P) (w := w) (base := base) T) (hr.mono (by decide)) rfl T.g__law_some T.F__law_some.kp T.b__law_some pass0 (ma_cons (me_var 1) (ma_cons (me_lst (ma_cons me_int (ma_cons me_int (ma_cons me_int ma_nil)))) ma_nil)) (many_cons (many_cons many_nil))) ma_nil))))
    (mss_cons (ms_for PassesOwn.never rfl (mi_range1 rfl T.n_range (me_call gd (ok__law_some (P := P) (w := w) (base := base) T) (hr.mono (by decide)) rfl T.g__law_some T.F__law_some.kp T.b__law_some pass0 (ma_cons (me_var 1) (ma_cons (me_lst (ma_cons me_int (ma_cons me_int (ma_cons (me_call gd (ok__law_take (P := P) (w := w) (base := base) T) (hr.mono (by decide)) rfl T.g__law_take T.F__law_take.kp T.b__law_take pass0 (ma_cons (me_var 1) (ma_cons me_int ma_nil)) (many_cons (many_cons many_nil))) ma_nil)))) ma_nil)) (many_cons (many_cons many_nil)))) (mg_name (i := 2) sc_law.nd rfl (by first | exact .inl rfl | exact .inr rfl)) (mss_one (ms_par (i := 14) (j := 15) rfl sc_law.nd rfl rfl (by decide) rfl rfl (ma_cons (me_var 15) (ma_cons (me_op or_add o_add (me_var 14) (me_var 15)) ma_nil)))))
    (mss_cons (ms_if (mt_not (mt_val (me_call gd (ok__law_alike (P := P) (w := w) (base := base) T) (hr.mono (by decide)) rfl T.g__law_alike T.F__law_alike.kp T.b__law_alike pass0 (ma_cons (me_call gd (ok_reduced (P := P) (w := w) (base := base) T) (hr.mono (by decide)) rfl T.g_reduced T.F_reduced.kp T.b_reduced pass0 (ma_cons (me_op or_mulS o_mulS (me_var 14) (me_var 16)) (ma_cons (me_op or_mulS o_mulS (me_un un_neg o_neg (me_var 15)) (me_var 16)) ma_nil)) (many_cons (many_cons many_nil))) (ma_cons (me_tup (ma_cons (me_un un_neg o_neg (me_var 14)) (ma_cons (me_var 15) ma_nil))) ma_nil)) (many_cons (many_cons many_nil))))) (mss_one (ms_ret me_bl)) mss_nil)
    (mss_cons (ms_par (i := 17) (j := 18) rfl sc_law.nd rfl rfl (by decide) rfl rfl (ma_cons (me_call gd (ok__law_some (P := P) (w := w) (base := base) T) (hr.mono (by decide)) rfl T.g__law_some T.F__law_some.kp T.b__law_some pass0 (ma_cons (me_var 1) (ma_cons (me_lst (ma_cons me_int (ma_cons me_int (ma_cons me_int (ma_cons me_int (ma_cons me_int ma_nil)))))) ma_nil)) (many_cons (many_cons many_nil))) (ma_cons me_int ma_nil)))
    (mss_cons (ms_for PassesOwn.never rfl (mi_range1 rfl T.n_range (me_var 17)) (mg_name (i := 2) sc_law.nd rfl (by first | exact .inl rfl | exact .inr rfl)) (mss_one (ms_set (i := 18) sc_law.nd rfl (by first | exact .inl rfl | exact .inr rfl) (me_op or_mulS o_mulS (me_var 18) me_int))))
    (mss_one (ms_ret (me_call gd (ok__law_alike (P := P) (w := w) (base := base) T) (hr.mono (by decide)) rfl T.g__law_alike T.F__law_alike.kp T.b__law_alike pass0 (ma_cons (me_call gd (ok_half_to (P := P) (w := w) (base := base) T) (hr.mono (by decide)) rfl T.g_half_to T.F_half_to.kp T.b_half_to pass0 (ma_cons (me_var 17) ma_nil) (many_cons many_nil)) (ma_cons (me_tup (ma_cons me_int (ma_cons (me_var 18) ma_nil))) ma_nil)) (many_cons (many_cons many_nil))))))))))))
theorem all_mk {l : PySem.W.OpenLaw} {w : World} {K : PySem.W.Frag} {h : Heap} {mg : Str → Option Value} {fa : Addr} (X : K.In h) (G : h.Ns mainGlobals mg) (hfa : mg "law" = some (.ref fa))
    {f0 : Addr} {od0 an0 : Option Addr} {sl0 : Array (Option Value)} {oc0 kV0 dc0 pm0 cd0 ct0 : Value}
    {f1 : Addr} {od1 an1 : Option Addr} {sl1 : Array (Option Value)} {oc1 kV1 dc1 pm1 cd1 ct1 : Value}
    {f2 : Addr} {od2 an2 : Option Addr} {sl2 : Array (Option Value)} {oc2 kV2 dc2 pm2 cd2 ct2 : Value}
    {f3 : Addr} {od3 an3 : Option Addr} {sl3 : Array (Option Value)} {oc3 kV3 dc3 pm3 cd3 ct3 : Value}
    {f4 : Addr} {od4 an4 : Option Addr} {sl4 : Array (Option Value)} {oc4 kV4 dc4 pm4 cd4 ct4 : Value}
    {f5 : Addr} {od5 an5 : Option Addr} {sl5 : Array (Option Value)} {oc5 kV5 dc5 pm5 cd5 ct5 : Value}
    {f6 : Addr} {od6 an6 : Option Addr} {sl6 : Array (Option Value)} {oc6 kV6 dc6 pm6 cd6 ct6 : Value}
    {f7 : Addr} {od7 an7 : Option Addr} {sl7 : Array (Option Value)} {oc7 kV7 dc7 pm7 cd7 ct7 : Value}
    {f8 : Addr} {od8 an8 : Option Addr} {sl8 : Array (Option Value)} {oc8 kV8 dc8 pm8 cd8 ct8 : Value}
    {f9 : Addr} {od9 an9 : Option Addr} {sl9 : Array (Option Value)} {oc9 kV9 dc9 pm9 cd9 ct9 : Value}
    {f10 : Addr} {od10 an10 : Option Addr} {sl10 : Array (Option Value)} {oc10 kV10 dc10 pm10 cd10 ct10 : Value}
    {f11 : Addr} {od11 an11 : Option Addr} {sl11 : Array (Option Value)} {oc11 kV11 dc11 pm11 cd11 ct11 : Value}
    {f12 : Addr} {od12 an12 : Option Addr} {sl12 : Array (Option Value)} {oc12 kV12 dc12 pm12 cd12 ct12 : Value}
    {f13 : Addr} {od13 an13 : Option Addr} {sl13 : Array (Option Value)} {oc13 kV13 dc13 pm13 cd13 ct13 : Value}
    {f14 : Addr} {od14 an14 : Option Addr} {sl14 : Array (Option Value)} {oc14 kV14 dc14 pm14 cd14 ct14 : Value}
    {f15 : Addr} {od15 an15 : Option Addr} {sl15 : Array (Option Value)} {oc15 kV15 dc15 pm15 cd15 ct15 : Value}
    {f16 : Addr} {od16 an16 : Option Addr} {sl16 : Array (Option Value)} {oc16 kV16 dc16 pm16 cd16 ct16 : Value}
    {f17 : Addr} {od17 an17 : Option Addr} {sl17 : Array (Option Value)} {oc17 kV17 dc17 pm17 cd17 ct17 : Value}
    {f18 : Addr} {od18 an18 : Option Addr} {sl18 : Array (Option Value)} {oc18 kV18 dc18 pm18 cd18 ct18 : Value}
    {f19 : Addr} {od19 an19 : Option Addr} {sl19 : Array (Option Value)} {oc19 kV19 dc19 pm19 cd19 ct19 : Value}
    {f20 : Addr} {od20 an20 : Option Addr} {sl20 : Array (Option Value)} {oc20 kV20 dc20 pm20 cd20 ct20 : Value}
    (a0 : PySem.W.nsIn K mainGlobals "greatest_common" = some (some (.ref f0)))
    (l0 : K.lookup f0 = some ⟨oc0, od0, .func (PySem.W.fnOf "greatest_common" "greatest_common" (defArgs s_greatest_common) (defBody s_greatest_common) (defScope s_greatest_common) .none kV0 dc0 pm0 an0 cd0 ct0), sl0⟩)
    (c0 : PySem.W.codeIn K cd0 "greatest_common" = true) (k0 : PySem.W.keepIn K (.ref f0) = true)
    (a1 : PySem.W.nsIn K mainGlobals "power" = some (some (.ref f1)))
    (l1 : K.lookup f1 = some ⟨oc1, od1, .func (PySem.W.fnOf "power" "power" (defArgs s_power) (defBody s_power) (defScope s_power) .none kV1 dc1 pm1 an1 cd1 ct1), sl1⟩)
    (c1 : PySem.W.codeIn K cd1 "power" = true) (k1 : PySem.W.keepIn K (.ref f1) = true)
    (a2 : PySem.W.nsIn K mainGlobals "reduced" = some (some (.ref f2)))
    (l2 : K.lookup f2 = some ⟨oc2, od2, .func (PySem.W.fnOf "reduced" "reduced" (defArgs s_reduced) (defBody s_reduced) (defScope s_reduced) .none kV2 dc2 pm2 an2 cd2 ct2), sl2⟩)
    (c2 : PySem.W.codeIn K cd2 "reduced" = true) (k2 : PySem.W.keepIn K (.ref f2) = true)
    (a3 : PySem.W.nsIn K mainGlobals "added" = some (some (.ref f3)))
    (l3 : K.lookup f3 = some ⟨oc3, od3, .func (PySem.W.fnOf "added" "added" (defArgs s_added) (defBody s_added) (defScope s_added) .none kV3 dc3 pm3 an3 cd3 ct3), sl3⟩)
    (c3 : PySem.W.codeIn K cd3 "added" = true) (k3 : PySem.W.keepIn K (.ref f3) = true)
    (a4 : PySem.W.nsIn K mainGlobals "times" = some (some (.ref f4)))
    (l4 : K.lookup f4 = some ⟨oc4, od4, .func (PySem.W.fnOf "times" "times" (defArgs s_times) (defBody s_times) (defScope s_times) .none kV4 dc4 pm4 an4 cd4 ct4), sl4⟩)
    (c4 : PySem.W.codeIn K cd4 "times" = true) (k4 : PySem.W.keepIn K (.ref f4) = true)
    (a5 : PySem.W.nsIn K mainGlobals "over" = some (some (.ref f5)))
    (l5 : K.lookup f5 = some ⟨oc5, od5, .func (PySem.W.fnOf "over" "over" (defArgs s_over) (defBody s_over) (defScope s_over) .none kV5 dc5 pm5 an5 cd5 ct5), sl5⟩)
    (c5 : PySem.W.codeIn K cd5 "over" = true) (k5 : PySem.W.keepIn K (.ref f5) = true)
    (a6 : PySem.W.nsIn K mainGlobals "compared" = some (some (.ref f6)))
    (l6 : K.lookup f6 = some ⟨oc6, od6, .func (PySem.W.fnOf "compared" "compared" (defArgs s_compared) (defBody s_compared) (defScope s_compared) .none kV6 dc6 pm6 an6 cd6 ct6), sl6⟩)
    (c6 : PySem.W.codeIn K cd6 "compared" = true) (k6 : PySem.W.keepIn K (.ref f6) = true)
    (a7 : PySem.W.nsIn K mainGlobals "half_to" = some (some (.ref f7)))
    (l7 : K.lookup f7 = some ⟨oc7, od7, .func (PySem.W.fnOf "half_to" "half_to" (defArgs s_half_to) (defBody s_half_to) (defScope s_half_to) .none kV7 dc7 pm7 an7 cd7 ct7), sl7⟩)
    (c7 : PySem.W.codeIn K cd7 "half_to" = true) (k7 : PySem.W.keepIn K (.ref f7) = true)
    (a8 : PySem.W.nsIn K mainGlobals "shown" = some (some (.ref f8)))
    (l8 : K.lookup f8 = some ⟨oc8, od8, .func (PySem.W.fnOf "shown" "shown" (defArgs s_shown) (defBody s_shown) (defScope s_shown) .none kV8 dc8 pm8 an8 cd8 ct8), sl8⟩)
    (c8 : PySem.W.codeIn K cd8 "shown" = true) (k8 : PySem.W.keepIn K (.ref f8) = true)
    (a9 : PySem.W.nsIn K mainGlobals "decimal_below" = some (some (.ref f9)))
    (l9 : K.lookup f9 = some ⟨oc9, od9, .func (PySem.W.fnOf "decimal_below" "decimal_below" (defArgs s_decimal_below) (defBody s_decimal_below) (defScope s_decimal_below) .none kV9 dc9 pm9 an9 cd9 ct9), sl9⟩)
    (c9 : PySem.W.codeIn K cd9 "decimal_below" = true) (k9 : PySem.W.keepIn K (.ref f9) = true)
    (a10 : PySem.W.nsIn K mainGlobals "decimal_above" = some (some (.ref f10)))
    (l10 : K.lookup f10 = some ⟨oc10, od10, .func (PySem.W.fnOf "decimal_above" "decimal_above" (defArgs s_decimal_above) (defBody s_decimal_above) (defScope s_decimal_above) .none kV10 dc10 pm10 an10 cd10 ct10), sl10⟩)
    (c10 : PySem.W.codeIn K cd10 "decimal_above" = true) (k10 : PySem.W.keepIn K (.ref f10) = true)
    (a11 : PySem.W.nsIn K mainGlobals "_law_bag" = some (some (.ref f11)))
    (l11 : K.lookup f11 = some ⟨oc11, od11, .func (PySem.W.fnOf "_law_bag" "_law_bag" (defArgs s__law_bag) (defBody s__law_bag) (defScope s__law_bag) .none kV11 dc11 pm11 an11 cd11 ct11), sl11⟩)
    (c11 : PySem.W.codeIn K cd11 "_law_bag" = true) (k11 : PySem.W.keepIn K (.ref f11) = true)
    (a12 : PySem.W.nsIn K mainGlobals "_law_take" = some (some (.ref f12)))
    (l12 : K.lookup f12 = some ⟨oc12, od12, .func (PySem.W.fnOf "_law_take" "_law_take" (defArgs s__law_take) (defBody s__law_take) (defScope s__law_take) .none kV12 dc12 pm12 an12 cd12 ct12), sl12⟩)
    (c12 : PySem.W.codeIn K cd12 "_law_take" = true) (k12 : PySem.W.keepIn K (.ref f12) = true)
    (a13 : PySem.W.nsIn K mainGlobals "_law_some" = some (some (.ref f13)))
    (l13 : K.lookup f13 = some ⟨oc13, od13, .func (PySem.W.fnOf "_law_some" "_law_some" (defArgs s__law_some) (defBody s__law_some) (defScope s__law_some) .none kV13 dc13 pm13 an13 cd13 ct13), sl13⟩)
    (c13 : PySem.W.codeIn K cd13 "_law_some" = true) (k13 : PySem.W.keepIn K (.ref f13) = true)
    (a14 : PySem.W.nsIn K mainGlobals "_law_alike" = some (some (.ref f14)))
    (l14 : K.lookup f14 = some ⟨oc14, od14, .func (PySem.W.fnOf "_law_alike" "_law_alike" (defArgs s__law_alike) (defBody s__law_alike) (defScope s__law_alike) .none kV14 dc14 pm14 an14 cd14 ct14), sl14⟩)
    (c14 : PySem.W.codeIn K cd14 "_law_alike" = true) (k14 : PySem.W.keepIn K (.ref f14) = true)
    (a15 : PySem.W.nsIn K mainGlobals "_law_common" = some (some (.ref f15)))
    (l15 : K.lookup f15 = some ⟨oc15, od15, .func (PySem.W.fnOf "_law_common" "_law_common" (defArgs s__law_common) (defBody s__law_common) (defScope s__law_common) .none kV15 dc15 pm15 an15 cd15 ct15), sl15⟩)
    (c15 : PySem.W.codeIn K cd15 "_law_common" = true) (k15 : PySem.W.keepIn K (.ref f15) = true)
    (a16 : PySem.W.nsIn K mainGlobals "_law_reduced" = some (some (.ref f16)))
    (l16 : K.lookup f16 = some ⟨oc16, od16, .func (PySem.W.fnOf "_law_reduced" "_law_reduced" (defArgs s__law_reduced) (defBody s__law_reduced) (defScope s__law_reduced) .none kV16 dc16 pm16 an16 cd16 ct16), sl16⟩)
    (c16 : PySem.W.codeIn K cd16 "_law_reduced" = true) (k16 : PySem.W.keepIn K (.ref f16) = true)
    (a17 : PySem.W.nsIn K mainGlobals "_law_pair" = some (some (.ref f17)))
    (l17 : K.lookup f17 = some ⟨oc17, od17, .func (PySem.W.fnOf "_law_pair" "_law_pair" (defArgs s__law_pair) (defBody s__law_pair) (defScope s__law_pair) .none kV17 dc17 pm17 an17 cd17 ct17), sl17⟩)
    (c17 : PySem.W.codeIn K cd17 "_law_pair" = true) (k17 : PySem.W.keepIn K (.ref f17) = true)
    (a18 : PySem.W.nsIn K mainGlobals "_law_ten" = some (some (.ref f18)))
    (l18 : K.lookup f18 = some ⟨oc18, od18, .func (PySem.W.fnOf "_law_ten" "_law_ten" (defArgs s__law_ten) (defBody s__law_ten) (defScope s__law_ten) .none kV18 dc18 pm18 an18 cd18 ct18), sl18⟩)
    (c18 : PySem.W.codeIn K cd18 "_law_ten" = true) (k18 : PySem.W.keepIn K (.ref f18) = true)
    (a19 : PySem.W.nsIn K mainGlobals "_law_decimal" = some (some (.ref f19)))
    (l19 : K.lookup f19 = some ⟨oc19, od19, .func (PySem.W.fnOf "_law_decimal" "_law_decimal" (defArgs s__law_decimal) (defBody s__law_decimal) (defScope s__law_decimal) .none kV19 dc19 pm19 an19 cd19 ct19), sl19⟩)
    (c19 : PySem.W.codeIn K cd19 "_law_decimal" = true) (k19 : PySem.W.keepIn K (.ref f19) = true)
    (a20 : PySem.W.nsIn K mainGlobals "law" = some (some (.ref f20)))
    (l20 : K.lookup f20 = some ⟨oc20, od20, .func (PySem.W.fnOf "law" "law" (defArgs s_law) (defBody s_law) (defScope s_law) .none kV20 dc20 pm20 an20 cd20 ct20), sl20⟩)
    (c20 : PySem.W.codeIn K cd20 "law" = true) (k20 : PySem.W.keepIn K (.ref f20) = true)
    (z0 : PySem.W.nsIn K mainGlobals "abs" = some none)
    (z1 : PySem.W.nsIn K mainGlobals "int" = some none)
    (z2 : PySem.W.nsIn K mainGlobals "len" = some none)
    (z3 : PySem.W.nsIn K mainGlobals "max" = some none)
    (z4 : PySem.W.nsIn K mainGlobals "range" = some none)
    (z5 : PySem.W.nsIn K mainGlobals "repr" = some none)
    (z6 : PySem.W.nsIn K mainGlobals "str" = some none)
    (nl : NoLim K) :
    ∃ fd : FuncData, (∀ (s : Shared) (v : Value), BindsTo s fd ⟨[v], []⟩ [("_law_script", v)]) ∧ ∀ base : Heap, K.In base → base.Ns mainGlobals mg → FnG l.prog w K mg base CX0 4 fa fd ["_law_script"] (spM K 1 F_law) := by
  have e := hfa.symm.trans (PySem.W.mg_of X G a20)
  cases e
  let T : Txt K mg := {
    nl := nl,
    f_greatest_common := f0, d_greatest_common := _, F_greatest_common := fun_mk (st := s_greatest_common) l0 c0 k0, g_greatest_common := PySem.W.mg_of X G a0,
    b_greatest_common := (fun_mk (st := s_greatest_common) l0 c0 k0).binds (ps := ["one", "other"]) fun _ _ _ _ _ _ us hl => match us, hl with | [_, _], _ => rfl,
    f_power := f1, d_power := _, F_power := fun_mk (st := s_power) l1 c1 k1, g_power := PySem.W.mg_of X G a1,
    b_power := (fun_mk (st := s_power) l1 c1 k1).binds (ps := ["base", "n"]) fun _ _ _ _ _ _ us hl => match us, hl with | [_, _], _ => rfl,
    f_reduced := f2, d_reduced := _, F_reduced := fun_mk (st := s_reduced) l2 c2 k2, g_reduced := PySem.W.mg_of X G a2,
    b_reduced := (fun_mk (st := s_reduced) l2 c2 k2).binds (ps := ["n", "d"]) fun _ _ _ _ _ _ us hl => match us, hl with | [_, _], _ => rfl,
    f_added := f3, d_added := _, F_added := fun_mk (st := s_added) l3 c3 k3, g_added := PySem.W.mg_of X G a3,
    b_added := (fun_mk (st := s_added) l3 c3 k3).binds (ps := ["one", "other"]) fun _ _ _ _ _ _ us hl => match us, hl with | [_, _], _ => rfl,
    f_times := f4, d_times := _, F_times := fun_mk (st := s_times) l4 c4 k4, g_times := PySem.W.mg_of X G a4,
    b_times := (fun_mk (st := s_times) l4 c4 k4).binds (ps := ["one", "other"]) fun _ _ _ _ _ _ us hl => match us, hl with | [_, _], _ => rfl,
    f_over := f5, d_over := _, F_over := fun_mk (st := s_over) l5 c5 k5, g_over := PySem.W.mg_of X G a5,
    b_over := (fun_mk (st := s_over) l5 c5 k5).binds (ps := ["one", "other"]) fun _ _ _ _ _ _ us hl => match us, hl with | [_, _], _ => rfl,
    f_compared := f6, d_compared := _, F_compared := fun_mk (st := s_compared) l6 c6 k6, g_compared := PySem.W.mg_of X G a6,
    b_compared := (fun_mk (st := s_compared) l6 c6 k6).binds (ps := ["one", "other"]) fun _ _ _ _ _ _ us hl => match us, hl with | [_, _], _ => rfl,
    f_half_to := f7, d_half_to := _, F_half_to := fun_mk (st := s_half_to) l7 c7 k7, g_half_to := PySem.W.mg_of X G a7,
    b_half_to := (fun_mk (st := s_half_to) l7 c7 k7).binds (ps := ["e"]) fun _ _ _ _ _ _ us hl => match us, hl with | [_], _ => rfl,
    f_shown := f8, d_shown := _, F_shown := fun_mk (st := s_shown) l8 c8 k8, g_shown := PySem.W.mg_of X G a8,
    b_shown := (fun_mk (st := s_shown) l8 c8 k8).binds (ps := ["number", "places"]) fun _ _ _ _ _ _ us hl => match us, hl with | [_, _], _ => rfl,
    f_decimal_below := f9, d_decimal_below := _, F_decimal_below := fun_mk (st := s_decimal_below) l9 c9 k9, g_decimal_below := PySem.W.mg_of X G a9,
    b_decimal_below := (fun_mk (st := s_decimal_below) l9 c9 k9).binds (ps := ["one", "places"]) fun _ _ _ _ _ _ us hl => match us, hl with | [_, _], _ => rfl,
    f_decimal_above := f10, d_decimal_above := _, F_decimal_above := fun_mk (st := s_decimal_above) l10 c10 k10, g_decimal_above := PySem.W.mg_of X G a10,
    b_decimal_above := (fun_mk (st := s_decimal_above) l10 c10 k10).binds (ps := ["one", "places"]) fun _ _ _ _ _ _ us hl => match us, hl with | [_, _], _ => rfl,
    f__law_bag := f11, d__law_bag := _, F__law_bag := fun_mk (st := s__law_bag) l11 c11 k11, g__law_bag := PySem.W.mg_of X G a11,
    b__law_bag := (fun_mk (st := s__law_bag) l11 c11 k11).binds (ps := ["_law_script"]) fun _ _ _ _ _ _ us hl => match us, hl with | [_], _ => rfl,
    f__law_take := f12, d__law_take := _, F__law_take := fun_mk (st := s__law_take) l12 c12 k12, g__law_take := PySem.W.mg_of X G a12,
    b__law_take := (fun_mk (st := s__law_take) l12 c12 k12).binds (ps := ["_law_bag_here", "_law_many"]) fun _ _ _ _ _ _ us hl => match us, hl with | [_, _], _ => rfl,
    f__law_some := f13, d__law_some := _, F__law_some := fun_mk (st := s__law_some) l13 c13 k13, g__law_some := PySem.W.mg_of X G a13,
    b__law_some := (fun_mk (st := s__law_some) l13 c13 k13).binds (ps := ["_law_bag_here", "_law_things"]) fun _ _ _ _ _ _ us hl => match us, hl with | [_, _], _ => rfl,
    f__law_alike := f14, d__law_alike := _, F__law_alike := fun_mk (st := s__law_alike) l14 c14 k14, g__law_alike := PySem.W.mg_of X G a14,
    b__law_alike := (fun_mk (st := s__law_alike) l14 c14 k14).binds (ps := ["_law_found", "_law_due"]) fun _ _ _ _ _ _ us hl => match us, hl with | [_, _], _ => rfl,
    f__law_common := f15, d__law_common := _, F__law_common := fun_mk (st := s__law_common) l15 c15 k15, g__law_common := PySem.W.mg_of X G a15,
    b__law_common := (fun_mk (st := s__law_common) l15 c15 k15).binds (ps := ["_law_one", "_law_other"]) fun _ _ _ _ _ _ us hl => match us, hl with | [_, _], _ => rfl,
    f__law_reduced := f16, d__law_reduced := _, F__law_reduced := fun_mk (st := s__law_reduced) l16 c16 k16, g__law_reduced := PySem.W.mg_of X G a16,
    b__law_reduced := (fun_mk (st := s__law_reduced) l16 c16 k16).binds (ps := ["_law_n", "_law_d"]) fun _ _ _ _ _ _ us hl => match us, hl with | [_, _], _ => rfl,
    f__law_pair := f17, d__law_pair := _, F__law_pair := fun_mk (st := s__law_pair) l17 c17 k17, g__law_pair := PySem.W.mg_of X G a17,
    b__law_pair := (fun_mk (st := s__law_pair) l17 c17 k17).binds (ps := ["_law_bag_here"]) fun _ _ _ _ _ _ us hl => match us, hl with | [_], _ => rfl,
    f__law_ten := f18, d__law_ten := _, F__law_ten := fun_mk (st := s__law_ten) l18 c18 k18, g__law_ten := PySem.W.mg_of X G a18,
    b__law_ten := (fun_mk (st := s__law_ten) l18 c18 k18).binds (ps := ["_law_places"]) fun _ _ _ _ _ _ us hl => match us, hl with | [_], _ => rfl,
    f__law_decimal := f19, d__law_decimal := _, F__law_decimal := fun_mk (st := s__law_decimal) l19 c19 k19, g__law_decimal := PySem.W.mg_of X G a19,
    b__law_decimal := (fun_mk (st := s__law_decimal) l19 c19 k19).binds (ps := ["_law_many", "_law_places"]) fun _ _ _ _ _ _ us hl => match us, hl with | [_, _], _ => rfl,
    f_law := fa, d_law := _, F_law := fun_mk (st := s_law) l20 c20 k20, g_law := hfa,
    b_law := (fun_mk (st := s_law) l20 c20 k20).binds (ps := ["_law_script"]) fun _ _ _ _ _ _ us hl => match us, hl with | [_], _ => rfl,
    n_abs := PySem.W.mg_none_of X G z0,
    n_int := PySem.W.mg_none_of X G z1,
    n_len := PySem.W.mg_none_of X G z2,
    n_max := PySem.W.mg_none_of X G z3,
    n_range := PySem.W.mg_none_of X G z4,
    n_repr := PySem.W.mg_none_of X G z5,
    n_str := PySem.W.mg_none_of X G z6 }
  exact ⟨_, fun s v => .of_eq rfl, fun base _ _ => ok_law T⟩
end Law


namespace Law
open PySem PySem.Spec PyProof.Rows L2 MK
local macro_rules | `(tactic| walk_at "mk") => `(tactic| with_reducible first
  | refine wp_ff ?_ | refine wp_tt ?_ | refine wp_nf ?_ | refine wp_nt ?_ | refine wp_ch ?_ | refine wp_slS ?_ | refine wp_slSL ?_ | refine wp_slSF ?_ | refine wp_slST ?_ | refine wp_star ?_ | refine wp_bm ?_ | refine wp_lcN ?_ | refine wp_revL ?_ | refine wp_chk ?_ | refine wp_izip ?_ | refine wp_lenM ?_ | refine wp_lenMT ?_ | refine wp_seq ?_ | refine wp_f2 ?_ | (refine wp_var (d := ?_) ?e_ ?_; (case e_ => with_unfolding_all rfl)) | refine wp_c ?_ | refine wp_seqN ?_ | refine wp_seqR ?_ | refine wp_if ?_ | refine wp_fB ?_ | refine wp_dB ?_
  | refine wp_set ?_ | refine wp_asg ?_ | refine wp_ret ?_ | refine wp_call ?_ | refine wp_cons ?_ | refine wp_nil ?_ | refine wp_next ?_ | refine wp_runR ?_ | refine wp_runN ?_
  | refine wp_par ?_ | refine wp_par3 ?_ | refine wp_aug ?_ | refine wp_augS ?_ | refine wp_f1 ?_ | refine wp_not ?_ | refine wp_and ?_ | refine wp_or ?_ | refine wp_andV ?_ | refine wp_orV ?_ | refine wp_notV ?_
  | refine wp_lst ?_ | refine wp_tup ?_ | refine wp_new ?_ | refine wp_sl ?_ | refine wp_O ?_ | refine wp_frz ?_ | refine wp_drop ?_
  | refine wp_gnm ?_ | refine wp_gsb ?_ | refine wp_gtp rfl ?_ | refine wp_gsn ?_ | refine wp_gsc ?_ | refine wp_for ?_ | refine wp_lc ?_ | refine wp_irng1 ?_ | refine wp_irng2 ?_ | refine wp_ienum ?_ | refine wp_iseqL ?_
  | refine wp_turnN ?_ | refine wp_turnC ?_ | refine wp_turnR ?_ | refine wp_turnB ?_
  | refine wp_add ?_ | refine wp_sub ?_ | refine wp_addI ?_ | refine wp_neg ?_ | refine wp_cmp ?_ | refine wp_is ?_ | refine wp_isnot ?_ | refine wp_eqI ?_ | refine wp_neI ?_ | refine wp_eqS ?_ | refine wp_neS ?_ | refine wp_int ?_ | refine wp_abs ?_
  | refine wp_lenL ?_ | refine wp_lenT ?_ | refine wp_sumL ?_ | refine wp_sumT ?_ | refine wp_max2 ?_ | refine wp_min2 ?_ | refine wp_tupleL ?_ | refine wp_tupleT ?_ | refine wp_listT ?_ | refine wp_listL ?_
  | refine wp_slL ?_ | refine wp_slF ?_ | refine wp_slT ?_ | (refine wp_ixL (d := ?_) ?e_ ?_; (case e_ => with_unfolding_all rfl)) | (refine wp_ixT (d := ?_) ?e_ ?_; (case e_ => with_unfolding_all rfl))
  | (refine wp_app (by first | assumption | exact get_set (by assumption)) ?_ ?_; rotate_left) | refine ⟨cell_some (by first | assumption | exact get_set (by assumption)), ?_⟩
  | refine wp_mod (by (first | decide | assumption | omega)) ?_ | refine wp_pow (by decide) ?_
  | (refine wp_ixC (d := ?_) (by first | assumption | exact get_set (by assumption)) ?e_ ?_; (case e_ => with_unfolding_all rfl))
  | (refine wp_ixLC (d := ?_) (by first | assumption | exact get_set (by assumption)) ?e_ ?_; (case e_ => with_unfolding_all rfl))
  | (refine wp_setS (j := ?_) (by assumption) ?e_ ?_; (case e_ => with_unfolding_all rfl))
  | (refine wp_setC (j := ?_) (by first | assumption | exact get_set (by assumption)) ?e_ ?_; (case e_ => with_unfolding_all rfl))
  | (refine wp_divB ?_ ?_; rotate_left) | (refine wp_mulSI ?_ ?_; rotate_left) | (refine wp_mul ?_ ?_; rotate_left) | (refine wp_div ?_ ?_; rotate_left) | (refine wp_addL ?_ ?_; rotate_left)
  | refine ⟨_, _, rfl, rfl, ?_⟩ | refine ⟨_, _, rfl, ?_⟩ | refine ⟨_, _, _, rfl, ?_⟩ | refine ⟨_, rfl, ?_⟩ | refine ⟨Nat.le_of_ble_eq_true (by with_unfolding_all rfl), ?_⟩)
/-! ### the law's own bag -/
structure Bag where
  big : Int
  seed : Int
  pos : Int
  cells : List Int
abbrev bagL (b : Bag) : List D := [.int b.big, .int b.seed, .int b.pos, .lst (b.cells.map D.int)]
structure Wf (p : Nat) (b : Bag) : Prop where
  big : 0 ≤ b.big
  seed0 : 0 ≤ b.seed
  seed1 : b.seed < 2147483647
  pos0 : 0 ≤ b.pos
  pos1 : b.pos ≤ p
  cells : ∀ c ∈ b.cells, 0 ≤ c
  len : b.cells.length ≤ 1000
theorem Wf.mono {p q : Nat} {b : Bag} (w : Wf p b) (h : p ≤ q) : Wf q b := ⟨w.big, w.seed0, w.seed1, w.pos0, by have := w.pos1; omega, w.cells, w.len⟩
theorem cut_mem {xs : List D} {lo hi : Option Int} {d : D} (h : d ∈ MK.cutD xs lo hi) : d ∈ xs := List.mem_of_mem_drop (List.mem_of_mem_take h)
theorem first_cell {cells : List Int} (hc : ∀ c ∈ cells, 0 ≤ c) (lo : Option Int) : ∃ c : Int, 0 ≤ c ∧ atI (MK.cutD (cells.map D.int) lo none ++ [.int 0]) 0 = some (.int c) := by
  cases e : MK.cutD (cells.map D.int) lo none with
  | nil => exact ⟨0, by omega, rfl⟩
  | cons d r =>
    have hm : d ∈ cells.map D.int := cut_mem (lo := lo) (hi := none) (by rw [e]; exact List.mem_cons_self)
    obtain ⟨c, h1, h2⟩ := List.mem_map.mp hm
    refine ⟨c, hc c h1, ?_⟩
    rw [h2]
    exact atI_nat (j := 0) rfl
theorem cut_len (xs : List D) (lo hi : Option Int) : (MK.cutD xs lo hi).length ≤ xs.length := by
  unfold MK.cutD
  rw [List.length_take, List.length_drop]
  omega
theorem seed_ok (x : Int) : 0 ≤ x % 2147483647 ∧ x % 2147483647 < 2147483647 := ⟨Int.emod_nonneg _ (by decide), Int.emod_lt_of_pos _ (by decide)⟩
theorem take_wp {k : Nat} {S : Store} {b : Bag} {p : Nat} {m : Int} {C : D → Store → Prop} (hk : S[k]? = some (.lst (bagL b))) (wf : Wf p b) (hp : p ≤ 1000000000) (hm0 : 0 < m) (hm1 : m ≤ 18446744073709551616)
    (h : ∀ v b', 0 ≤ v → v < m → Wf (p + 1) b' → C (.int v) (S.set k (.lst (bagL b')))) : Post (F__law_take [.cell k, .int m] S) C := by
  obtain ⟨big, seed, pos, cells⟩ := b
  obtain ⟨w1, w2, w3, w4, w5, w6, w7⟩ := wf
  simp only at w1 w2 w3 w4 w5 w6 w7 h
  unfold F__law_take
  refine wp_run ?_
  unfold B__law_take
  simp only [List.map, List.length, List.replicate, List.cons_append, List.nil_append]
  refine wp_seq (Post.mono (C := fun fl S1 => ∃ x2 x3 b1, fl = .nx [some (.cell k), some (.int m), x2, x3, none, none, none] ∧ S1 = S.set k (.lst (bagL b1)) ∧ Wf (p + 1) b1) ?_ ?_)
  · repeat walk_at "mk"
    refine ⟨fun h0 => ?_, fun h0 => ?_⟩
    · repeat walk_at "mk"
      · obtain ⟨c, hc0, hc⟩ := first_cell w6 (some pos)
        refine wp_ixL hc ?_
        repeat walk_at "mk"
        have fin : ∀ (x : Int) (y : Int), 0 ≤ x → Wf (p + 1) ⟨x, y % 2147483647, pos + 1, cells⟩ := fun x y hx => ⟨hx, (seed_ok y).1, (seed_ok y).2, by dsimp only; omega, by show pos + 1 ≤ ((p + 1 : Nat) : Int); omega, w6, w7⟩
        have m1 : mulOk seed 48271 := mulOk_of (a := 40) (b := 40) (by omega) (by omega) (by decide)
        have m2 : mulOk 7919 (pos + 1) := mulOk_of (a := 40) (b := 40) (by omega) (by omega) (by decide)
        refine ⟨fun h1 => ?_, fun h1 => ?_⟩
        · repeat walk_at "mk"
          · exact ⟨_, _, ⟨c, _, pos + 1, cells⟩, rfl, rfl, fin c _ hc0⟩
          · exact m1
          · exact m2
        · repeat walk_at "mk"
          · exact ⟨_, _, ⟨big, _, pos + 1, cells⟩, rfl, rfl, fin big _ w1⟩
          · exact m1
          · exact m2
      · rw [line_eq, sizeLine_eq]
        refine Nat.le_trans (Nat.add_le_add_right (cut_len _ _ _) _) ?_
        simp only [List.length_map, List.length_cons, List.length_nil]
        omega
    · exact wp_next ⟨none, none, ⟨big, seed, pos, cells⟩, rfl, (set_same hk).symm, ⟨w1, w2, w3, w4, by show pos ≤ ((p + 1 : Nat) : Int); omega, w6, w7⟩⟩
  · rintro fl S1 ⟨x2, x3, b1, rfl, rfl, wf1⟩
    obtain ⟨big, seed, pos, cells⟩ := b1
    obtain ⟨w1, w2, w3, w4, w5, w6, w7⟩ := wf1
    simp only at w1 w2 w3 w4 w5 w6 w7
    have dm : divOk m := divOk_of hm0 (b := 70) (by omega) (by decide) (by decide)
    repeat walk_at "mk"
    refine ⟨fun h0 => ?_, fun h0 => ?_⟩
    · repeat walk_at "mk"
      · have e : ((bagL ⟨big, seed, pos, cells⟩).set (Int.toNat 0) (.int (big / m))) = bagL ⟨big / m, seed, pos, cells⟩ := rfl
        rw [e]
        exact h _ ⟨big / m, seed, pos, cells⟩ (Int.emod_nonneg _ (by omega)) (Int.emod_lt_of_pos _ hm0) ⟨Int.ediv_nonneg w1 (by omega), w2, w3, w4, w5, w6, w7⟩
      · exact dm
    · have b1 : 0 ≤ (seed + 1) * 39373 % 1000000007 ∧ (seed + 1) * 39373 % 1000000007 < 1000000007 := ⟨Int.emod_nonneg _ (by decide), Int.emod_lt_of_pos _ (by decide)⟩
      repeat walk_at "mk"
      · exact h _ ⟨big, seed, pos, cells⟩ (Int.emod_nonneg _ (by omega)) (Int.emod_lt_of_pos _ hm0) ⟨w1, w2, w3, w4, w5, w6, w7⟩
      · exact mulOk_of (a := 40) (b := 40) (by dsimp only; omega) (by omega) (by decide)
      · generalize (seed + 1) * 39373 % 1000000007 = x at b1
        exact mulOk_of (a := 40) (b := 40) (by omega) (by omega) (by decide)
      · generalize (seed + 1) * 39373 % 1000000007 = x at b1
        have b2 : 0 ≤ x * x % 998244353 ∧ x * x % 998244353 < 998244353 := ⟨Int.emod_nonneg _ (by decide), Int.emod_lt_of_pos _ (by decide)⟩
        generalize x * x % 998244353 = y at b2
        exact mulOk_of (a := 40) (b := 40) (by omega) (by omega) (by decide)
      · exact ⟨by decide, by decide⟩
/-! ### greatest common divisors -/
def meas (a b : Nat) : Nat := (if a * b = 0 then 0 else (a * b).log2 + 1) + if a < b then 1 else 0
theorem meas_step {a b : Nat} (hb : 0 < b) : meas b (a % b) < meas a b := by
  have hlt : a % b < b := Nat.mod_lt _ hb
  unfold meas
  rw [if_neg (show ¬ b < a % b by omega)]
  by_cases h : a < b
  · rw [if_pos h, Nat.mod_eq_of_lt h, Nat.mul_comm b a]
    omega
  · rw [if_neg h]
    have ha : 0 < a * b := Nat.mul_pos (by omega) hb
    rw [if_neg (show ¬ a * b = 0 by omega)]
    by_cases h2 : b * (a % b) = 0
    · rw [if_pos h2]; omega
    · rw [if_neg h2]
      have h3 : 2 * (a % b) < a := by
        have := Nat.div_add_mod a b
        have h4 : 1 ≤ a / b := Nat.div_pos (by omega) hb
        have h5 : b * 1 ≤ b * (a / b) := Nat.mul_le_mul_left b h4
        omega
      have h6 : 2 * (b * (a % b)) < a * b := by
        have := Nat.mul_lt_mul_of_pos_right h3 hb
        rw [Nat.mul_comm b, ← Nat.mul_assoc]
        exact this
      have h7 : (b * (a % b)).log2 + 1 ≤ (a * b).log2 := by
        refine (Nat.le_log2 (by omega)).mpr ?_
        rw [Nat.pow_succ]
        have := Nat.log2_self_le (n := b * (a % b)) (by omega)
        omega
      omega
theorem meas_lt {a b k : Nat} (ha : a < 2 ^ k) (hb : b < 2 ^ k) : meas a b ≤ 2 * k + 2 := by
  unfold meas
  have : a * b < 2 ^ (2 * k + 1) := by
    by_cases h : b = 0
    · subst h; rw [Nat.mul_zero]; exact Nat.pow_pos (by decide)
    · have h1 : a * b < 2 ^ k * 2 ^ k := Nat.mul_lt_mul'' ha hb
      rw [← Nat.pow_add] at h1
      exact Nat.lt_of_lt_of_le h1 (Nat.pow_le_pow_right (by decide) (by omega))
  have h2 : (if a * b = 0 then 0 else (a * b).log2 + 1) ≤ 2 * k + 1 := by
    split
    · omega
    · rename_i h
      exact (Nat.log2_lt h).mpr this
  have h3 : (if a < b then 1 else 0) ≤ 1 := by split <;> omega
  omega
theorem gcd_eq {a b k : Nat} (ha : a < 2 ^ k) (hb : b < 2 ^ k) (hk : k ≤ 100000) (S : Store) : F_greatest_common [.int a, .int b] S = .ok (.int (Nat.gcd a b)) S := by
  refine Post.eq ?_
  unfold F_greatest_common
  refine wp_run ?_
  unfold B_greatest_common
  simp only [List.map, List.length, List.replicate, List.cons_append, List.nil_append]
  have hm := meas_lt ha hb
  refine wp_seq ?_
  refine wp_while (fun m ρ S' => ∃ x y : Nat, S' = S ∧ ρ = [some (.int x), some (.int y)] ∧ m = meas x y ∧ Nat.gcd x y = Nat.gcd a b) (meas a b) (by omega) ⟨a, b, rfl, rfl, rfl, rfl⟩ ?_
  rintro m ρ S' ⟨x, y, rfl, rfl, rfl, hg⟩
  repeat walk_at "mk"
  refine ⟨fun c => ?_, fun c => ?_⟩
  · have hy : 0 < y := by have := of_decide_eq_true c; omega
    repeat walk_at "mk"
    refine ⟨meas y (x % y), meas_step hy, y, x % y, rfl, rfl, rfl, ?_⟩
    rw [← hg, Nat.gcd_comm x y, Nat.gcd_rec y x, Nat.gcd_comm]
  · have hy : y = 0 := by have := of_decide_eq_false c; omega
    subst hy
    repeat walk_at "mk"
    rw [Nat.gcd_zero_right] at hg
    rw [hg]
    exact ⟨rfl, rfl⟩
/-! ### lowest terms -/
def gg (n d : Int) : Nat := Nat.gcd n.natAbs d.natAbs
def rx (n d : Int) : Int := (if 0 < d then n else -n) / gg n d
def ry (n d : Int) : Int := (if 0 < d then d else -d) / gg n d
structure Red (n d x y : Int) : Prop where
  pos : 0 < y
  low : Nat.gcd x.natAbs y.natAbs = 1
  eq : n * y = x * d
theorem gg_pos {n d : Int} (h : d ≠ 0) : 0 < gg n d := Nat.gcd_pos_of_pos_right _ (by omega)
theorem gg_parts {n d : Int} (h : d ≠ 0) : ∃ p q : Int, n = gg n d * p ∧ d = gg n d * q ∧ Nat.gcd p.natAbs q.natAbs = 1 := by
  obtain ⟨p, hp⟩ : (gg n d : Int) ∣ n := Int.ofNat_dvd_left.mpr (Nat.gcd_dvd_left _ _)
  obtain ⟨q, hq⟩ : (gg n d : Int) ∣ d := Int.ofNat_dvd_left.mpr (Nat.gcd_dvd_right _ _)
  refine ⟨p, q, hp, hq, ?_⟩
  have g0 := gg_pos (n := n) h
  have e1 : n.natAbs = gg n d * p.natAbs := by
    have := congrArg Int.natAbs hp
    rw [Int.natAbs_mul, Int.natAbs_natCast] at this
    exact this
  have e2 : d.natAbs = gg n d * q.natAbs := by
    have := congrArg Int.natAbs hq
    rw [Int.natAbs_mul, Int.natAbs_natCast] at this
    exact this
  have e3 : gg n d = Nat.gcd (gg n d * p.natAbs) (gg n d * q.natAbs) := by
    rw [← e1, ← e2]
    rfl
  rw [Nat.gcd_mul_left] at e3
  exact Nat.eq_of_mul_eq_mul_left g0 (by rw [Nat.mul_one]; exact e3.symm)
theorem red_spec {n d : Int} (h : d ≠ 0) : Red n d (rx n d) (ry n d) := by
  obtain ⟨p, q, hn, hd, hg⟩ := gg_parts (n := n) h
  have g0 := gg_pos (n := n) h
  unfold rx ry
  generalize gg n d = g at *
  subst hn hd
  have gi : (g : Int) ≠ 0 := by omega
  have q0 : q ≠ 0 := fun z => h (by rw [z, Int.mul_zero])
  by_cases c : 0 < (g : Int) * q
  · rw [if_pos c, if_pos c, Int.mul_ediv_cancel_left _ gi, Int.mul_ediv_cancel_left _ gi]
    refine ⟨?_, hg, by rw [Int.mul_assoc, Int.mul_left_comm]⟩
    exact Int.pos_of_mul_pos_right c (by omega)
  · rw [if_neg c, if_neg c, ← Int.mul_neg, ← Int.mul_neg, Int.mul_ediv_cancel_left _ gi, Int.mul_ediv_cancel_left _ gi]
    refine ⟨?_, by rw [Int.natAbs_neg, Int.natAbs_neg]; exact hg, by rw [Int.mul_neg, Int.neg_mul, Int.mul_assoc, Int.mul_left_comm]⟩
    have : q < 0 := by
      rcases Int.lt_trichotomy q 0 with q1 | q1 | q1
      · exact q1
      · exact absurd q1 q0
      · exact absurd (Int.mul_pos (show (0 : Int) < g by omega) q1) c
    omega
theorem red_uniq {n d x y x' y' : Int} (hd : d ≠ 0) (h : Red n d x y) (h' : Red n d x' y') : x = x' ∧ y = y' := by
  have e : x * y' = x' * y := by
    have h1 : x * y' * d = x' * y * d := by
      calc x * y' * d = x * d * y' := by rw [Int.mul_assoc, Int.mul_comm y' d, ← Int.mul_assoc]
        _ = n * y * y' := by rw [h.eq]
        _ = n * y' * y := by rw [Int.mul_assoc, Int.mul_comm y y', ← Int.mul_assoc]
        _ = x' * d * y := by rw [h'.eq]
        _ = x' * y * d := by rw [Int.mul_assoc, Int.mul_comm d y, ← Int.mul_assoc]
    exact Int.eq_of_mul_eq_mul_right hd h1
  have en := congrArg Int.natAbs e
  rw [Int.natAbs_mul, Int.natAbs_mul] at en
  have d1 : y.natAbs ∣ y'.natAbs := by
    have c : Nat.Coprime y.natAbs x.natAbs := by rw [Nat.Coprime, Nat.gcd_comm]; exact h.low
    exact c.dvd_of_dvd_mul_left (by rw [en]; exact Nat.dvd_mul_left _ _)
  have d2 : y'.natAbs ∣ y.natAbs := by
    have c : Nat.Coprime y'.natAbs x'.natAbs := by rw [Nat.Coprime, Nat.gcd_comm]; exact h'.low
    exact c.dvd_of_dvd_mul_left (by rw [← en]; exact Nat.dvd_mul_left _ _)
  have ey := Nat.dvd_antisymm d1 d2
  have y0 := h.pos
  have y0' := h'.pos
  have ey' : y = y' := by omega
  subst ey'
  exact ⟨Int.eq_of_mul_eq_mul_right (by omega) e, rfl⟩
theorem red_is {n d x y : Int} (hd : d ≠ 0) (h : Red n d x y) : x = rx n d ∧ y = ry n d := red_uniq hd h (red_spec hd)
theorem fdiv_parts {n d : Int} (h : d ≠ 0) : n.fdiv (if 0 < d then (gg n d : Int) else 0 - gg n d) = rx n d ∧ d.fdiv (if 0 < d then (gg n d : Int) else 0 - gg n d) = ry n d := by
  obtain ⟨p, q, hn, hd, hg⟩ := gg_parts (n := n) h
  have g0 := gg_pos (n := n) h
  unfold rx ry
  generalize gg n d = g at *
  subst hn hd
  have gi : (g : Int) ≠ 0 := by omega
  have gn : -(g : Int) ≠ 0 := by omega
  by_cases c : 0 < (g : Int) * q
  · rw [if_pos c, if_pos c, if_pos c, Int.mul_ediv_cancel_left _ gi, Int.mul_ediv_cancel_left _ gi, Int.mul_fdiv_cancel_left _ gi, Int.mul_fdiv_cancel_left _ gi]
    exact ⟨rfl, rfl⟩
  · rw [if_neg c, if_neg c, if_neg c, ← Int.mul_neg, ← Int.mul_neg, Int.mul_ediv_cancel_left _ gi, Int.mul_ediv_cancel_left _ gi, Int.zero_sub]
    refine ⟨?_, ?_⟩
    · rw [show (g : Int) * p = -g * -p by rw [Int.neg_mul_neg], Int.mul_fdiv_cancel_left _ gn]
    · rw [show (g : Int) * q = -g * -q by rw [Int.neg_mul_neg], Int.mul_fdiv_cancel_left _ gn]
theorem abs_nat (n : Int) : (if n < 0 then -n else n) = (n.natAbs : Int) := by omega
theorem gg_small {n d : Int} (hd0 : d ≠ 0) {k : Nat} (hd : d.natAbs < 2 ^ k) : gg n d < 2 ^ k := Nat.lt_of_le_of_lt (Nat.le_of_dvd (by omega) (Nat.gcd_dvd_right _ _)) hd
theorem divB_ok {n d : Int} (hd0 : d ≠ 0) (hd : d.natAbs < 2 ^ 9000) (x : Int) : CDivB x (if 0 < d then (gg n d : Int) else 0 - gg n d) := by
  have g0 := gg_pos (n := n) hd0
  have gs := gg_small (n := n) hd0 hd
  have e : (if 0 < d then (gg n d : Int) else 0 - gg n d).natAbs = gg n d := by split <;> omega
  refine ⟨by split <;> omega, ?_⟩
  rw [e]
  exact (Nat.log2_lt (by omega)).mpr gs
theorem reduced_eq {n d : Int} (hd0 : d ≠ 0) (hn : n.natAbs < 2 ^ 9000) (hd : d.natAbs < 2 ^ 9000) (S : Store) : F_reduced [.int n, .int d] S = .ok (.tup [.int (rx n d), .int (ry n d)]) S := by
  refine Post.eq ?_
  unfold F_reduced
  refine wp_run ?_
  unfold B_reduced
  simp only [List.map, List.length, List.replicate, List.cons_append, List.nil_append]
  repeat walk_at "mk"
  rw [abs_nat, abs_nat]
  refine Post.of_eq (gcd_eq hn hd (by decide) _) ?_
  have go : Post (MK.fTup (MK.fCons (MK.f2 divB (fVar 0) (fVar 2)) (MK.fCons (MK.f2 divB (fVar 1) (fVar 2)) MK.fNil)) [some (.int n), some (.int d), some (.int (if 0 < d then (gg n d : Int) else 0 - gg n d))] S) fun v S' => v = .tup [.int (rx n d), .int (ry n d)] ∧ S' = S := by
    obtain ⟨e1, e2⟩ := fdiv_parts (n := n) hd0
    have o := divB_ok (n := n) hd0 hd
    obtain ⟨s, hs⟩ : ∃ s, (if 0 < d then (gg n d : Int) else 0 - gg n d) = s := ⟨_, rfl⟩
    rw [hs] at o e1 e2 ⊢
    repeat walk_at "mk"
    · rw [e1, e2]
      exact ⟨rfl, rfl⟩
    all_goals exact o _
  repeat walk_at "mk"
  refine ⟨fun c => ?_, fun c => ?_⟩
  · have c' := of_decide_eq_true c
    rw [if_pos c'] at go
    refine wp_var rfl ?_
    refine wp_seqN ?_
    refine wp_ret (go.mono ?_)
    rintro v S1 ⟨rfl, rfl⟩
    exact ⟨rfl, rfl⟩
  · have c' := of_decide_eq_false c
    rw [if_neg c'] at go
    refine wp_f2 ?_
    refine wp_c ?_
    refine wp_var rfl ?_
    refine wp_sub ?_
    refine wp_seqN ?_
    refine wp_ret (go.mono ?_)
    rintro v S1 ⟨rfl, rfl⟩
    exact ⟨rfl, rfl⟩
theorem law_common_eq {a b : Int} {k : Nat} (ha : a.natAbs < 2 ^ k) (hb : b.natAbs < 2 ^ k) (hk : k ≤ 100000) (S : Store) : F__law_common [.int a, .int b] S = .ok (.int (gg a b)) S := by
  refine Post.eq ?_
  unfold F__law_common
  refine wp_run ?_
  unfold B__law_common
  simp only [List.map, List.length, List.replicate, List.cons_append, List.nil_append]
  have hm := meas_lt ha hb
  repeat walk_at "mk"
  rw [abs_nat, abs_nat]
  refine wp_while (fun m ρ S' => ∃ x y : Nat, S' = S ∧ ρ = [some (.int x), some (.int y)] ∧ m = meas x y ∧ Nat.gcd x y = gg a b) (meas a.natAbs b.natAbs) (by omega) ⟨a.natAbs, b.natAbs, rfl, rfl, rfl, rfl⟩ ?_
  rintro m ρ S' ⟨x, y, rfl, rfl, rfl, hg⟩
  repeat walk_at "mk"
  refine ⟨fun c => ?_, fun c => ?_⟩
  · have hy : 0 < y := by have := of_decide_eq_true c; omega
    repeat walk_at "mk"
    refine ⟨meas y (x % y), meas_step hy, y, x % y, rfl, rfl, rfl, ?_⟩
    rw [← hg, Nat.gcd_comm x y, Nat.gcd_rec y x, Nat.gcd_comm]
  · have hy : y = 0 := by have := of_decide_eq_false c; omega
    subst hy
    repeat walk_at "mk"
    rw [Nat.gcd_zero_right] at hg
    rw [hg]
    exact ⟨rfl, rfl⟩
theorem law_reduced_eq {n d : Int} (hd0 : d ≠ 0) (hn : n.natAbs < 2 ^ 9000) (hd : d.natAbs < 2 ^ 9000) (S : Store) : F__law_reduced [.int n, .int d] S = .ok (.tup [.int (rx n d), .int (ry n d)]) S := by
  refine Post.eq ?_
  unfold F__law_reduced
  refine wp_run ?_
  unfold B__law_reduced
  simp only [List.map, List.length, List.replicate, List.cons_append, List.nil_append]
  repeat walk_at "mk"
  refine Post.of_eq (law_common_eq hn hd (by decide) _) ?_
  have go : Post (MK.fTup (MK.fCons (MK.f2 divB (fVar 0) (fVar 2)) (MK.fCons (MK.f2 divB (fVar 1) (fVar 2)) MK.fNil)) [some (.int n), some (.int d), some (.int (if 0 < d then (gg n d : Int) else 0 - gg n d))] S) fun v S' => v = .tup [.int (rx n d), .int (ry n d)] ∧ S' = S := by
    obtain ⟨e1, e2⟩ := fdiv_parts (n := n) hd0
    have o := divB_ok (n := n) hd0 hd
    obtain ⟨s, hs⟩ : ∃ s, (if 0 < d then (gg n d : Int) else 0 - gg n d) = s := ⟨_, rfl⟩
    rw [hs] at o e1 e2 ⊢
    repeat walk_at "mk"
    · rw [e1, e2]
      exact ⟨rfl, rfl⟩
    all_goals exact o _
  repeat walk_at "mk"
  refine ⟨fun c => ?_, fun c => ?_⟩
  · have c' := of_decide_eq_true c
    rw [if_pos c'] at go
    refine wp_var rfl ?_
    refine wp_seqN ?_
    refine wp_ret (go.mono ?_)
    rintro v S1 ⟨rfl, rfl⟩
    exact ⟨rfl, rfl⟩
  · have c' := of_decide_eq_false c
    rw [if_neg c', Int.zero_sub] at go
    refine wp_f1 ?_
    refine wp_var rfl ?_
    refine wp_neg ?_
    refine wp_seqN ?_
    refine wp_ret (go.mono ?_)
    rintro v S1 ⟨rfl, rfl⟩
    exact ⟨rfl, rfl⟩
/-- a fraction -/
abbrev fr (a b : Int) : D := .tup [.int a, .int b]
theorem added_eq {a b c d : Int} (hb : b * d ≠ 0) (h1 : a.natAbs < 2 ^ 4000) (h2 : b.natAbs < 2 ^ 4000) (h3 : c.natAbs < 2 ^ 4000) (h4 : d.natAbs < 2 ^ 4000) (hn : (a * d + c * b).natAbs < 2 ^ 9000) (hd : (b * d).natAbs < 2 ^ 9000) (S : Store) : F_added [fr a b, fr c d] S = .ok (fr (rx (a * d + c * b) (b * d)) (ry (a * d + c * b) (b * d))) S := by
  refine Post.eq ?_
  unfold F_added
  refine wp_run ?_
  unfold B_added
  simp only [List.map, List.length, List.replicate, List.cons_append, List.nil_append]
  repeat walk_at "mk"
  · refine Post.of_eq (reduced_eq hb hn hd _) ?_
    repeat walk_at "mk"
    exact ⟨rfl, rfl⟩
  all_goals exact MK.mulOk_of (by assumption) (by assumption) (by decide)
theorem times_eq {a b c d : Int} (hb : b * d ≠ 0) (h1 : a.natAbs < 2 ^ 4000) (h2 : b.natAbs < 2 ^ 4000) (h3 : c.natAbs < 2 ^ 4000) (h4 : d.natAbs < 2 ^ 4000) (hn : (a * c).natAbs < 2 ^ 9000) (hd : (b * d).natAbs < 2 ^ 9000) (S : Store) : F_times [fr a b, fr c d] S = .ok (fr (rx (a * c) (b * d)) (ry (a * c) (b * d))) S := by
  refine Post.eq ?_
  unfold F_times
  refine wp_run ?_
  unfold B_times
  simp only [List.map, List.length, List.replicate, List.cons_append, List.nil_append]
  repeat walk_at "mk"
  · refine Post.of_eq (reduced_eq hb hn hd _) ?_
    repeat walk_at "mk"
    exact ⟨rfl, rfl⟩
  all_goals exact MK.mulOk_of (by assumption) (by assumption) (by decide)
theorem over_eq {a b c d : Int} (hb : b * c ≠ 0) (h1 : a.natAbs < 2 ^ 4000) (h2 : b.natAbs < 2 ^ 4000) (h3 : c.natAbs < 2 ^ 4000) (h4 : d.natAbs < 2 ^ 4000) (hn : (a * d).natAbs < 2 ^ 9000) (hd : (b * c).natAbs < 2 ^ 9000) (S : Store) : F_over [fr a b, fr c d] S = .ok (fr (rx (a * d) (b * c)) (ry (a * d) (b * c))) S := by
  refine Post.eq ?_
  unfold F_over
  refine wp_run ?_
  unfold B_over
  simp only [List.map, List.length, List.replicate, List.cons_append, List.nil_append]
  repeat walk_at "mk"
  · refine Post.of_eq (reduced_eq hb hn hd _) ?_
    repeat walk_at "mk"
    exact ⟨rfl, rfl⟩
  all_goals exact MK.mulOk_of (by assumption) (by assumption) (by decide)
theorem compared_eq {a b c d : Int} (h1 : a.natAbs < 2 ^ 4000) (h2 : b.natAbs < 2 ^ 4000) (h3 : c.natAbs < 2 ^ 4000) (h4 : d.natAbs < 2 ^ 4000) (S : Store) : F_compared [fr a b, fr c d] S = .ok (.int (if a * d - c * b = 0 then 0 else if a * d - c * b > 0 then 1 else -1)) S := by
  refine Post.eq ?_
  unfold F_compared
  refine wp_run ?_
  unfold B_compared
  simp only [List.map, List.length, List.replicate, List.cons_append, List.nil_append]
  repeat walk_at "mk"
  · refine wp_intB ?_
    repeat walk_at "mk"
    refine wp_intB ?_
    repeat walk_at "mk"
    refine ⟨?_, rfl⟩
    generalize a * d = x
    generalize c * b = y
    simp only [decide_eq_true_eq]
    congr 1
    split <;> split <;> split <;> (try split) <;> omega
  all_goals exact MK.mulOk_of (by assumption) (by assumption) (by decide)
/-! ### powers of small bases -/
theorem pw_nat {b k : Nat} (hb : b ≤ 16) : ((b : Int) ^ k).natAbs < 2 ^ (4 * k + 1) := by
  rw [Int.natAbs_pow, Int.natAbs_natCast]
  have h1 : b ^ k ≤ 16 ^ k := Nat.pow_le_pow_left hb k
  have h2 : (16 : Nat) ^ k = 2 ^ (4 * k) := by rw [show (16 : Nat) = 2 ^ 4 from rfl, ← Nat.pow_mul]
  rw [h2] at h1
  exact Nat.lt_of_le_of_lt h1 (Nat.pow_lt_pow_right (by decide) (by omega))
theorem hv0 (a k m e : Nat) (h : a + k * m = e) (c : m % 2 = 0) : a + (k + k) * (m / 2) = e := by
  have : k * m = (k + k) * (m / 2) := by
    have : m = 2 * (m / 2) := by omega
    generalize m / 2 = q at *
    subst this
    rw [Nat.add_mul, ← Nat.mul_assoc, Nat.mul_comm k 2, Nat.mul_assoc, Nat.two_mul]
  omega
theorem hv1 (a k m e : Nat) (h : a + k * m = e) (c : m % 2 = 1) : a + k + (k + k) * (m / 2) = e := by
  have : k * m = k + (k + k) * (m / 2) := by
    have : m = 2 * (m / 2) + 1 := by omega
    generalize m / 2 = q at *
    subst this
    rw [Nat.mul_add, Nat.mul_one, Nat.add_mul, ← Nat.mul_assoc, Nat.mul_comm k 2, Nat.mul_assoc, Nat.two_mul]
    omega
  omega
theorem power_eq {b e : Nat} (hb : b ≤ 16) (he : e ≤ 1000) (S : Store) : F_power [.int b, .int e] S = .ok (.int ((b : Int) ^ e)) S := by
  refine Post.eq ?_
  unfold F_power
  refine wp_run ?_
  unfold B_power
  simp only [List.map, List.length, List.replicate, List.cons_append, List.nil_append]
  repeat walk_at "mk"
  refine wp_while (fun m ρ S' => ∃ a k d : Nat, S' = S ∧ ρ = [some (.int ((b : Int) ^ k)), some (.int d), some (.int ((b : Int) ^ a))] ∧ m = d ∧ d ≤ e ∧ a + k * d = e) e (by omega) ⟨0, 1, e, rfl, by rw [Int.pow_succ, Int.pow_zero, Int.one_mul]; rfl, rfl, Nat.le_refl _, by omega⟩ ?_
  rintro m ρ S' ⟨a, k, d, rfl, rfl, rfl, hm, h⟩
  repeat walk_at "mk"
  refine ⟨fun c => ?_, fun c => ?_⟩
  · have m0 : 0 < m := by have := of_decide_eq_true c; omega
    have hk : k ≤ e := by
      have : k * 1 ≤ k * m := Nat.mul_le_mul_left k m0
      omega
    have e2 : (b : Int) ^ k * (b : Int) ^ k = (b : Int) ^ (k + k) := (Int.pow_add ..).symm
    have d2 : divOk 2 := divOk_of (by decide) (b := 4) (by decide) (by decide) (by decide)
    have hh : ((m : Int) / 2) = ((m / 2 : Nat) : Int) := by omega
    have mk1 := pw_nat (k := k) hb
    have ma := pw_nat (k := a) hb
    repeat walk_at "mk"
    refine ⟨fun c1 => ?_, fun c1 => ?_⟩
    · have c2 : m % 2 = 1 := by
        have : ((m : Int) % 2 = 1) := by simpa using c1
        omega
      repeat walk_at "mk"
      · exact ⟨m / 2, by omega, a + k, k + k, m / 2, rfl, by rw [hh, e2, ← Int.pow_add]; rfl, rfl, by omega, hv1 a k m e h c2⟩
      all_goals first
        | with_reducible assumption
        | exact MK.mulOk_of mk1 mk1 (by omega)
        | exact MK.mulOk_of ma mk1 (by omega)
    · have c2 : m % 2 = 0 := by
        have : ¬ ((m : Int) % 2 = 1) := by simpa using c1
        omega
      repeat walk_at "mk"
      · exact ⟨m / 2, by omega, a, k + k, m / 2, rfl, by rw [hh, e2]; rfl, rfl, by omega, hv0 a k m e h c2⟩
      all_goals first
        | with_reducible assumption
        | exact MK.mulOk_of mk1 mk1 (by omega)
  · have m0 : m = 0 := by have := of_decide_eq_false c; omega
    subst m0
    repeat walk_at "mk"
    have : a = e := by omega
    exact ⟨by rw [this], rfl⟩
theorem ten_eq {e : Nat} (he : e ≤ 1000) (S : Store) : F__law_ten [.int e] S = .ok (.int ((10 : Nat) ^ e : Int)) S := by
  refine Post.eq ?_
  unfold F__law_ten
  refine wp_run ?_
  unfold B__law_ten
  simp only [List.map, List.length, List.replicate, List.cons_append, List.nil_append]
  repeat walk_at "mk"
  refine ⟨by omega, ?_⟩
  rw [Int.toNat_natCast]
  refine wp_forF (fun i ρ S' => S' = S ∧ ∃ o2, ρ = [some (.int e), some (.int ((10 : Nat) ^ i : Int)), o2]) ⟨rfl, _, rfl⟩ ?_ ?_
  · rintro i d ρ S' hd ⟨rfl, o2, rfl⟩
    have hi := (rngL_get _ _ _ _ hd).2
    have ma := pw_nat (b := 10) (k := i) (by decide)
    repeat walk_at "mk"
    · exact ⟨rfl, _, by rw [Int.pow_succ]; rfl⟩
    · exact MK.mulOk_of ma (b := 5) (by decide) (by omega)
  · rintro ρ S' ⟨rfl, o2, rfl⟩
    rw [rngL_length]
    repeat walk_at "mk"
    exact ⟨rfl, rfl⟩
theorem half_to_eq {e : Nat} (he : e ≤ 1000) (S : Store) : F_half_to [.int e] S = .ok (fr 1 ((2 : Nat) ^ e : Int)) S := by
  refine Post.eq ?_
  unfold F_half_to
  refine wp_run ?_
  unfold B_half_to
  simp only [List.map, List.length, List.replicate, List.cons_append, List.nil_append]
  repeat walk_at "mk"
  refine Post.of_eq (power_eq (b := 2) (by decide) he _) ?_
  repeat walk_at "mk"
  exact ⟨rfl, rfl⟩
/-! ### decimal texts -/
theorem zeros_len {n : Int} (h : 0 ≤ n) : (Txt.mul "0" n).length = n.toNat := by
  have e := PyProof.Rows.len_mul "0" n
  rw [decide_eq_false (show ¬ n < 0 by omega), if_neg (by decide), show (("0" : Str).length : Int) = 1 from rfl, Int.one_mul] at e
  omega
theorem zeros_max {n : Int} : Txt.mul "0" (if n > 0 then n else 0) = Txt.mul "0" n := by
  by_cases h : n > 0
  · rw [if_pos h]
  · rw [if_neg h]
    unfold Txt.mul
    rw [if_pos (by decide), if_pos (by omega)]
def dig (n : Int) : Str := (toString n : String)
def pad (n : Int) (p : Nat) : Str := Txt.mul "0" (p + 1 - (dig n).length) ++ dig n
def dec (n : Int) (p : Nat) : Str := if p = 0 then pad n p else cutS (pad n p) none (some (-(p : Int))) ++ "." ++ cutS (pad n p) (some (-(p : Int))) none
theorem dig_len {n : Int} (h : n.natAbs.log2 < 1920) : (dig n).length ≤ 1921 := int_text_len_1921 h
theorem pad_len {n : Int} {p : Nat} (h : n.natAbs.log2 < 1920) (hp : p ≤ 100) : p + 1 ≤ (pad n p).length ∧ (pad n p).length ≤ 3000 := by
  have h1 := dig_len h
  unfold pad
  rw [Str.length_append]
  by_cases c : (dig n).length ≤ p + 1
  · rw [zeros_len (by omega)]
    omega
  · have e : (Txt.mul "0" ((p : Int) + 1 - (dig n).length)).length = 0 := by
      unfold Txt.mul
      rw [if_pos (by omega)]
      rfl
    rw [e]
    omega
theorem cut_same {z : Str} {p : Nat} (h : p ≤ z.length) (hp : 0 < p) : cutS z none (some ((z.length : Int) - p)) = cutS z none (some (-(p : Int))) ∧ cutS z (some ((z.length : Int) - p)) none = cutS z (some (-(p : Int))) none := by
  have e : ∀ d, HT.sIx z.length d (some ((z.length : Int) - p)) = HT.sIx z.length d (some (-(p : Int))) := fun d => by
    show (if (z.length : Int) - p < 0 then _ else _) = (if -(p : Int) < 0 then _ else _)
    rw [if_neg (by omega), if_pos (by omega)]
    omega
  unfold cutS
  rw [e, e]
  exact ⟨rfl, rfl⟩
theorem shown_eq {n : Int} {p : Nat} (h : n.natAbs.log2 < 1920) (hp : p ≤ 100) (S : Store) : F_shown [.int n, .int p] S = .ok (.str (dec n p)) S := by
  refine Post.eq ?_
  unfold F_shown
  refine wp_run ?_
  unfold B_shown
  simp only [List.map, List.length, List.replicate, List.cons_append, List.nil_append]
  have hd := dig_len h
  obtain ⟨q1, q2⟩ := pad_len h hp
  have ln : ∀ k : Nat, k ≤ 10000 → k ≤ line := fun k hk => by rw [line_eq, sizeLine_eq]; omega
  repeat walk_at "mk"
  refine wp_strI h ?_
  show MK.Seq _ _ (.nx (List.set _ 2 (some (.str (dig n))))) _
  repeat walk_at "mk"
  refine wp_lenS (ln _ (by omega)) ?_
  repeat walk_at "mk"
  refine wp_mulSS ⟨by omega, by omega, by decide⟩ ?_
  repeat walk_at "mk"
  refine wp_addSS ?_ ?_
  · unfold pad at q2
    rw [Str.length_append] at q2
    exact ln _ (by omega)
  show MK.Seq _ _ (.nx (List.set _ 2 (some (.str (pad n p))))) _
  repeat walk_at "mk"
  refine ⟨fun c => ?_, fun c => ?_⟩
  · have hp0 : 0 < p := by have := of_decide_eq_true c; omega
    obtain ⟨e1, e2⟩ := cut_same (z := pad n p) (p := p) (by omega) hp0
    have c1 := cutS_length (pad n p) none (some (-(p : Int)))
    have c2 := cutS_length (pad n p) (some (-(p : Int))) none
    repeat walk_at "mk"
    refine wp_lenS (ln _ (by omega)) ?_
    repeat walk_at "mk"
    refine wp_slSS (ln _ (by omega)) ?_
    repeat walk_at "mk"
    rw [e1]
    refine wp_addSS (ln _ (by show _ + 1 ≤ _; omega)) ?_
    repeat walk_at "mk"
    refine wp_lenS (ln _ (by omega)) ?_
    repeat walk_at "mk"
    refine wp_slSS (ln _ (by omega)) ?_
    rw [e2]
    refine wp_addSS (ln _ (by rw [Str.length_append]; show _ + 1 + _ ≤ _; omega)) ?_
    repeat walk_at "mk"
    unfold dec
    rw [if_neg (by omega)]
    exact ⟨rfl, rfl⟩
  · have hp0 : p = 0 := by have := of_decide_eq_false c; omega
    repeat walk_at "mk"
    unfold dec
    rw [if_pos hp0]
    exact ⟨rfl, rfl⟩
theorem law_decimal_eq {n : Int} {p : Nat} (h : n.natAbs.log2 < 1920) (hp : p ≤ 100) (S : Store) : F__law_decimal [.int n, .int p] S = .ok (.str (dec n p)) S := by
  refine Post.eq ?_
  unfold F__law_decimal
  refine wp_run ?_
  unfold B__law_decimal
  simp only [List.map, List.length, List.replicate, List.cons_append, List.nil_append]
  have hd := dig_len h
  obtain ⟨q1, q2⟩ := pad_len h hp
  have ln : ∀ k : Nat, k ≤ 10000 → k ≤ line := fun k hk => by rw [line_eq, sizeLine_eq]; omega
  repeat walk_at "mk"
  refine wp_strI h ?_
  show MK.Seq _ _ (.nx (List.set _ 2 (some (.str (dig n))))) _
  repeat walk_at "mk"
  refine wp_lenS (ln _ (by omega)) ?_
  repeat walk_at "mk"
  refine wp_mulSS ⟨by split <;> omega, by split <;> omega, by decide⟩ ?_
  rw [zeros_max]
  repeat walk_at "mk"
  refine wp_addSS ?_ ?_
  · unfold pad at q2
    rw [Str.length_append] at q2
    exact ln _ (by omega)
  show MK.Seq _ _ (.nx (List.set _ 2 (some (.str (pad n p))))) _
  repeat walk_at "mk"
  refine ⟨fun c => ?_, fun c => ?_⟩
  · have hp0 : p = 0 := by
      have : (p : Int) = 0 := by simpa using c
      omega
    repeat walk_at "mk"
    unfold dec
    rw [if_pos hp0]
    exact ⟨rfl, rfl⟩
  · have hp0 : ¬ p = 0 := by
      have : ¬ (p : Int) = 0 := by simpa using c
      omega
    have c1 := cutS_length (pad n p) none (some (-(p : Int)))
    have c2 := cutS_length (pad n p) (some (-(p : Int))) none
    repeat walk_at "mk"
    refine wp_slSS (ln _ (by omega)) ?_
    repeat walk_at "mk"
    refine wp_addSS (ln _ (by show _ + 1 ≤ _; omega)) ?_
    repeat walk_at "mk"
    refine wp_slSS (ln _ (by omega)) ?_
    refine wp_addSS (ln _ (by rw [Str.length_append]; show _ + 1 + _ ≤ _; omega)) ?_
    repeat walk_at "mk"
    unfold dec
    rw [if_neg hp0]
    exact ⟨rfl, rfl⟩
/-! ### what is drawn; what is alike -/
theorem wp_takeS {S : Store} {b : Bag} {p : Nat} {m : Int} {C : D → Store → Prop} (hk : S[0]? = some (.lst (bagL b))) (wf : Wf p b) (hp : p ≤ 1000000000) (hm0 : 0 < m) (hm1 : m ≤ 18446744073709551616) (h : ∀ (v : Nat) b', (v : Int) < m → Wf (p + 1) b' → C (.int v) (S.set 0 (.lst (bagL b')))) : Post (F__law_take [.cell 0, .int m] S) C := by
  refine take_wp hk wf hp hm0 hm1 fun v b' h1 h2 h3 => ?_
  obtain ⟨n, rfl⟩ := Int.eq_ofNat_of_zero_le h1
  exact h n b' h2 h3
theorem wp_someS {S : Store} {xs : List D} {b : Bag} {p : Nat} {C : D → Store → Prop} (hk : S[0]? = some (.lst (bagL b))) (wf : Wf p b) (hp : p ≤ 1000000000) (h0 : 0 < xs.length) (h1 : xs.length < 1000000000) (h : ∀ x b', x ∈ xs → Wf (p + 1) b' → C x (S.set 0 (.lst (bagL b')))) : Post (F__law_some [.cell 0, .lst xs] S) C := by
  unfold F__law_some
  refine wp_run ?_
  unfold B__law_some
  simp only [List.map, List.length, List.replicate, List.cons_append, List.nil_append]
  repeat walk_at "mk"
  refine wp_takeS hk wf hp (by omega) (by omega) fun v b' hv wf' => ?_
  have hv' : v < xs.length := by omega
  refine wp_ixL (atI_nat (List.getElem?_eq_getElem hv')) ?_
  repeat walk_at "mk"
  exact h _ _ (List.getElem_mem hv') wf'
/-- two alike -/
theorem wp_alikeW {d : D} {S : Store} {C : D → Store → Prop} (h1 : d.okR = true) (h2 : d.size ≤ line) (h3 : d.dep ≤ 64) (h4 : ∀ k, d ≠ .cell k) (h : C (.bl true) S) : Post (F__law_alike [d, d] S) C := by
  obtain ⟨p, e, f⟩ := d.fine h1
  obtain ⟨f1, f2, f3⟩ := f.ok h2 h3
  have e' : ∀ S, d.pyS S = some p := fun S => (pyS_of h4).trans e
  unfold F__law_alike
  refine wp_run ?_
  unfold B__law_alike
  simp only [List.map, List.length, List.replicate, List.cons_append, List.nil_append]
  repeat walk_at "mk"
  refine wp_eqP (e' _) (e' _) f2 f2 ?_
  rw [f3]
  repeat walk_at "mk"
  refine wp_reprW (e' _) f1 ?_
  repeat walk_at "mk"
  refine wp_reprW (e' _) f1 ?_
  repeat walk_at "mk"
  rw [decide_eq_true rfl]
  exact h
/-- two wide fractions alike -/
theorem wp_alikeP {i j : Int} {S : Store} {C : D → Store → Prop} (h1 : wideI i) (h2 : wideI j) (h : C (.bl true) S) : Post (F__law_alike [fr i j, fr i j] S) C := by
  have f3 : PyData.eqv (.tuple [.int i, .int j]) (.tuple [.int i, .int j]) = true := SeqAt.eqv_refl _ rfl
  unfold F__law_alike
  refine wp_run ?_
  unfold B__law_alike
  simp only [List.map, List.length, List.replicate, List.cons_append, List.nil_append]
  repeat walk_at "mk"
  refine wp_eqP (p := .tuple [.int i, .int j]) (q := .tuple [.int i, .int j]) rfl rfl rfl rfl ?_
  rw [f3]
  repeat walk_at "mk"
  refine wp_reprP h1 h2 ?_
  repeat walk_at "mk"
  refine wp_reprP h1 h2 ?_
  repeat walk_at "mk"
  rw [decide_eq_true rfl]
  exact h
/-- neighbours of the row 1, 1, 2, 3, 5, .. -/
theorem fib_red {x y b : Int} (hy : 0 < y) (hb : 0 < b) (hg : Nat.gcd x.natAbs y.natAbs = 1) : rx (x * b) (-y * b) = -x ∧ ry (x * b) (-y * b) = y := by
  have hd : -y * b ≠ 0 := by
    have := Int.mul_pos hy hb
    rw [Int.neg_mul]
    omega
  have q := red_is (n := x * b) (x := -x) (y := y) hd ⟨hy, by rw [Int.natAbs_neg]; exact hg, by rw [Int.neg_mul, Int.neg_mul, Int.mul_neg, Int.neg_neg, Int.mul_assoc, Int.mul_comm b y]⟩
  exact ⟨q.1.symm, q.2.symm⟩
theorem over_back {a b c d : Int} (hb : 0 < b) (hd : 0 < d) (hc : c ≠ 0) (hg : Nat.gcd a.natAbs b.natAbs = 1) : rx (rx (a * d) (b * c) * c) (ry (a * d) (b * c) * d) = a ∧ ry (rx (a * d) (b * c) * c) (ry (a * d) (b * c) * d) = b := by
  have hbc : b * c ≠ 0 := Int.mul_ne_zero (by omega) hc
  have q := red_spec (n := a * d) hbc
  obtain ⟨x, hx⟩ : ∃ x, rx (a * d) (b * c) = x := ⟨_, rfl⟩
  obtain ⟨y, hy⟩ : ∃ y, ry (a * d) (b * c) = y := ⟨_, rfl⟩
  rw [hx, hy] at q ⊢
  have hyd : y * d ≠ 0 := Int.mul_ne_zero (by have := q.pos; omega) (by omega)
  have e := red_is (n := x * c) (x := a) (y := b) hyd ⟨hb, hg, by
    have := q.eq
    calc x * c * b = x * (b * c) := by rw [Int.mul_assoc, Int.mul_comm c b]
      _ = a * d * y := this.symm
      _ = a * (y * d) := by rw [Int.mul_assoc, Int.mul_comm d y]⟩
  exact ⟨e.1.symm, e.2.symm⟩
theorem e106 : ((10 : Int) ^ (6 : Int).toNat) = 1000000 := by decide
theorem e109 : ((10 : Int) ^ (9 : Int).toNat) = 1000000000 := by decide
theorem e1040 : ((10 : Int) ^ (40 : Int).toNat) = 10000000000000000000000000000000000000000 := by decide
theorem wp_pair {S : Store} {b : Bag} {p : Nat} {C : D → Store → Prop} (hk : S[0]? = some (.lst (bagL b))) (wf : Wf p b) (hp : p ≤ 100000000) (h : ∀ (n d : Int) b', n.natAbs < 2 ^ 140 → d ≠ 0 → d.natAbs < 2 ^ 140 → Wf (p + 10) b' → C (fr n d) (S.set 0 (.lst (bagL b')))) : Post (F__law_pair [.cell 0] S) C := by
  unfold F__law_pair
  refine wp_run ?_
  unfold B__law_pair
  simp only [List.map, List.length, List.replicate, List.cons_append, List.nil_append]
  repeat walk_at "mk"
  rw [e109]
  refine wp_takeS hk wf (by omega) (by decide) (by decide) fun v1 b1 hv1 w1 => ?_
  repeat walk_at "mk"
  rw [e106]
  refine wp_takeS (get_set hk) w1 (by omega) (by decide) (by decide) fun v2 b2 hv2 w2 => ?_
  rw [set_set]
  repeat walk_at "mk"
  rw [e1040]
  refine wp_takeS (get_set hk) w2 (by omega) (by decide) (by decide) fun v3 b3 hv3 w3 => ?_
  rw [set_set]
  repeat walk_at "mk"
  refine wp_someS (get_set hk) w3 (by omega) (by simp only [List.length_cons]; omega) (by simp only [List.length_cons, List.length_nil]; omega) fun x b4 hx w4 => ?_
  rw [set_set]
  obtain ⟨n, rfl, hn⟩ : ∃ n : Int, x = .int n ∧ n.natAbs < 2 ^ 140 := by
    simp only [List.mem_cons, List.not_mem_nil, or_false] at hx
    rcases hx with rfl | rfl | rfl | rfl | rfl | rfl | rfl | rfl
    all_goals exact ⟨_, rfl, by omega⟩
  clear hx
  repeat walk_at "mk"
  rw [e106]
  refine wp_takeS (get_set hk) w4 (by omega) (by decide) (by decide) fun v5 b5 hv5 w5 => ?_
  rw [set_set]
  repeat walk_at "mk"
  rw [e1040]
  refine wp_someS (get_set hk) w5 (by omega) (by simp only [List.length_cons]; omega) (by simp only [List.length_cons, List.length_nil]; omega) fun x b6 hx w6 => ?_
  rw [set_set]
  obtain ⟨d, rfl, hd0, hd⟩ : ∃ d : Int, x = .int d ∧ 0 < d ∧ d.natAbs < 2 ^ 140 := by
    simp only [List.mem_cons, List.not_mem_nil, or_false] at hx
    rcases hx with rfl | rfl | rfl | rfl | rfl | rfl | rfl | rfl
    all_goals exact ⟨_, rfl, by omega, by omega⟩
  clear hx
  repeat walk_at "mk"
  refine wp_someS (get_set hk) w6 (by omega) (by simp only [List.length_cons]; omega) (by simp only [List.length_cons, List.length_nil]; omega) fun x b7 hx w7 => ?_
  rw [set_set]
  obtain ⟨s, rfl, hs⟩ : ∃ s : Int, x = .int s ∧ (s = 1 ∨ s = -1) := by
    simp only [List.mem_cons, List.not_mem_nil, or_false] at hx
    rcases hx with rfl | rfl
    · exact ⟨1, rfl, .inl rfl⟩
    · exact ⟨-1, rfl, .inr rfl⟩
  clear hx
  repeat walk_at "mk"
  · refine h n (d * s) b7 hn ?_ ?_ (w7.mono (by omega))
    · rcases hs with rfl | rfl <;> omega
    · rcases hs with rfl | rfl <;> omega
  · rcases hs with rfl | rfl
    · exact MK.mulOk_of hd (b := 4) (by decide) (by decide)
    · exact MK.mulOk_of hd (b := 4) (by decide) (by decide)
/-- lowest terms are no greater -/
theorem r_small {n d : Int} (hd : d ≠ 0) : (rx n d).natAbs ≤ n.natAbs ∧ (ry n d).natAbs ≤ d.natAbs := by
  obtain ⟨p, q, hn, hdq, _⟩ := gg_parts (n := n) hd
  obtain ⟨e1, e2⟩ := fdiv_parts (n := n) hd
  have q1 := red_spec (n := n) hd
  have g0 := gg_pos (n := n) hd
  have a1 : (rx n d).natAbs = p.natAbs ∧ (ry n d).natAbs = q.natAbs := by
    unfold rx ry
    generalize gg n d = g at *
    have gi : (g : Int) ≠ 0 := by omega
    rw [hn, hdq]
    by_cases c : 0 < (g : Int) * q
    · rw [if_pos c, if_pos c, Int.mul_ediv_cancel_left _ gi, Int.mul_ediv_cancel_left _ gi]
      exact ⟨rfl, rfl⟩
    · rw [if_neg c, if_neg c, ← Int.mul_neg, ← Int.mul_neg, Int.mul_ediv_cancel_left _ gi, Int.mul_ediv_cancel_left _ gi, Int.natAbs_neg, Int.natAbs_neg]
      exact ⟨rfl, rfl⟩
  have a2 : n.natAbs = gg n d * p.natAbs := by
    have := congrArg Int.natAbs hn
    rw [Int.natAbs_mul, Int.natAbs_natCast] at this
    exact this
  have a3 : d.natAbs = gg n d * q.natAbs := by
    have := congrArg Int.natAbs hdq
    rw [Int.natAbs_mul, Int.natAbs_natCast] at this
    exact this
  rw [a1.1, a1.2, a2, a3]
  exact ⟨Nat.le_mul_of_pos_left _ g0, Nat.le_mul_of_pos_left _ g0⟩
/-! ### texts that can be shown -/
def okS (x : Str) : Prop := ∀ c ∈ x.cps.toList, c < 0x110000
theorem okS_ok {x : Str} (h : okS x) : PyData.strOk x = true := by
  unfold PyData.strOk
  rw [← Array.all_toList, List.all_eq_true]
  intro c hc
  exact decide_eq_true (h c hc)
theorem okS_string (s : String) : okS (Str.ofString s) := by
  intro c hc
  rw [Str.ofString_eq_toList] at hc
  obtain ⟨d, _, rfl⟩ := List.mem_map.mp hc
  have hv := d.valid
  show d.val.toNat < _
  rcases hv with hv | ⟨_, hv⟩
  · have : d.val.toNat < 0xd800 := hv
    omega
  · exact hv
theorem okS_append {x y : Str} (hx : okS x) (hy : okS y) : okS (x ++ y) := by
  intro c hc
  have e : (x ++ y).cps.toList = x.cps.toList ++ y.cps.toList := Array.toList_append
  rw [e] at hc
  rcases List.mem_append.mp hc with q | q
  · exact hx c q
  · exact hy c q
theorem okS_cut {z : Str} (h : okS z) (lo hi : Option Int) : okS (cutS z lo hi) := fun c hc => h c (List.mem_of_mem_drop (List.mem_of_mem_take hc))
theorem okS_zeros (n : Int) : okS (Txt.mul "0" n) := by
  unfold Txt.mul
  split
  · intro c hc; exact absurd hc (by simp [Str.empty])
  split
  · exact okS_string "0"
  · intro c hc
    have aux : ∀ (l : List (Array Nat)) (a : Array Nat), (∀ c ∈ a.toList, c < 0x110000) → (∀ b ∈ l, ∀ c ∈ b.toList, c < 0x110000) → ∀ c ∈ (l.foldl (· ++ ·) a).toList, c < 0x110000 := by
      intro l
      induction l with
      | nil => intro a ha _; exact ha
      | cons b l ih =>
        intro a ha hl
        refine ih (a ++ b) (fun c hc => ?_) fun b' hb' => hl b' (List.mem_cons_of_mem _ hb')
        rw [Array.toList_append] at hc
        rcases List.mem_append.mp hc with q | q
        · exact ha c q
        · exact hl b List.mem_cons_self c q
    refine aux _ #[] (fun c hc => absurd hc (by simp)) (fun b hb => ?_) c hc
    rw [List.eq_of_mem_replicate hb]
    exact okS_string "0"
theorem okS_dec {n : Int} {p : Nat} : okS (dec n p) := by
  have hp : okS (pad n p) := okS_append (okS_zeros _) (okS_string _)
  unfold dec
  split
  · exact hp
  · exact okS_append (okS_append (okS_cut hp _ _) (okS_string ".")) (okS_cut hp _ _)
theorem okS_len {x : Str} (h : okS x) : (reprText x).length ≤ 10 * x.length + 2 := PySem.StrLaws.reprText_len x fun c hc => Nat.lt_trans (h c hc) (by decide)
theorem dec_len {n : Int} {p : Nat} (h : n.natAbs.log2 < 1920) (hp : p ≤ 100) : (dec n p).length ≤ 6001 := by
  have h1 := (pad_len (n := n) h hp).2
  unfold dec
  split
  · omega
  · rw [Str.length_append, Str.length_append]
    have c1 := cutS_length (pad n p) none (some (-(p : Int)))
    have c2 := cutS_length (pad n p) (some (-(p : Int))) none
    show _ + 1 + _ ≤ _
    omega
theorem log_of {x : Int} {k : Nat} (h : x.natAbs < 2 ^ k) (hk : k ≤ 1900) : x.natAbs.log2 < 1920 := by
  by_cases c : x.natAbs = 0
  · rw [c]; decide
  · have := (Nat.log2_lt c).mpr h
    omega
theorem okI {x : Int} {k : Nat} (h : x.natAbs < 2 ^ k) (hk : k ≤ 1900) : (D.int x).okR = true := by
  show decide _ = true
  exact decide_eq_true (log_of h hk)
theorem below_eq {a b : Int} {p : Nat} (ha0 : 0 ≤ a) (ha : a.natAbs < 2 ^ 150) (hb0 : 0 < b) (hb : b.natAbs < 2 ^ 150) (hp : p ≤ 20) (S : Store) : F_decimal_below [fr a b, .int p] S = .ok (.str (dec (a * ((10 : Nat) : Int) ^ p / b) p)) S := by
  refine Post.eq ?_
  unfold F_decimal_below
  refine wp_run ?_
  unfold B_decimal_below
  simp only [List.map, List.length, List.replicate, List.cons_append, List.nil_append]
  have hq := pw_nat (b := 10) (k := p) (by decide)
  have hs : (a * ((10 : Nat) : Int) ^ p / b).natAbs < 2 ^ 300 := by
    have h1 : (a * ((10 : Nat) : Int) ^ p / b).natAbs ≤ (a * ((10 : Nat) : Int) ^ p).natAbs := by
      have h2 := Int.mul_nonneg ha0 (Int.le_of_lt (show (0 : Int) < ((10 : Nat) : Int) ^ p from Int.pow_pos (by decide)))
      have h3 := Int.ediv_le_self b h2
      have h4 := Int.ediv_nonneg h2 (Int.le_of_lt hb0)
      omega
    rw [Int.natAbs_mul] at h1
    refine Nat.lt_of_le_of_lt h1 (Nat.lt_of_lt_of_le (Nat.mul_lt_mul'' ha hq) ?_)
    rw [← Nat.pow_add]
    exact Nat.pow_le_pow_right (by decide) (by omega)
  repeat walk_at "mk"
  refine Post.of_eq (power_eq (b := 10) (by decide) (by omega) _) ?_
  repeat walk_at "mk"
  · refine Post.of_eq (shown_eq (log_of hs (by decide)) (by omega) _) ?_
    repeat walk_at "mk"
    exact ⟨rfl, rfl⟩
  all_goals first
    | exact divOk_of hb0 hb (by decide) (by decide)
    | exact MK.mulOk_of ha hq (by omega)
theorem above_eq {a b : Int} {p : Nat} (ha0 : 0 ≤ a) (ha : a.natAbs < 2 ^ 150) (hb0 : 0 < b) (hb : b.natAbs < 2 ^ 150) (hp : p ≤ 20) (S : Store) : F_decimal_above [fr a b, .int p] S = .ok (.str (dec ((a * ((10 : Nat) : Int) ^ p + b - 1) / b) p)) S := by
  refine Post.eq ?_
  unfold F_decimal_above
  refine wp_run ?_
  unfold B_decimal_above
  simp only [List.map, List.length, List.replicate, List.cons_append, List.nil_append]
  have hq := pw_nat (b := 10) (k := p) (by decide)
  have hm : (a * ((10 : Nat) : Int) ^ p).natAbs < 2 ^ 240 := by
    rw [Int.natAbs_mul]
    refine Nat.lt_of_lt_of_le (Nat.mul_lt_mul'' ha hq) ?_
    rw [← Nat.pow_add]
    exact Nat.pow_le_pow_right (by decide) (by omega)
  have hs : ((a * ((10 : Nat) : Int) ^ p + b - 1) / b).natAbs < 2 ^ 300 := by
    have h2 := Int.mul_nonneg ha0 (Int.le_of_lt (show (0 : Int) < ((10 : Nat) : Int) ^ p from Int.pow_pos (by decide)))
    generalize a * ((10 : Nat) : Int) ^ p = x at *
    have h3 := Int.ediv_le_self b (show 0 ≤ x + b - 1 by omega)
    have h4 := Int.ediv_nonneg (show 0 ≤ x + b - 1 by omega) (Int.le_of_lt hb0)
    omega
  repeat walk_at "mk"
  refine Post.of_eq (power_eq (b := 10) (by decide) (by omega) _) ?_
  repeat walk_at "mk"
  · refine Post.of_eq (shown_eq (log_of hs (by decide)) (by omega) _) ?_
    repeat walk_at "mk"
    exact ⟨rfl, rfl⟩
  all_goals first
    | exact divOk_of hb0 hb (by decide) (by decide)
    | exact MK.mulOk_of ha hq (by omega)
theorem wp_bag {ns : List Int} (hns : ns.length ≤ 63) {C : D → Store → Prop} (h : ∀ b, Wf 0 b → C (.cell 0) [.lst (bagL b)]) : Post (F__law_bag [.flst (ns.map D.int)] []) C := by
  unfold F__law_bag
  refine wp_run ?_
  unfold B__law_bag
  simp only [List.map, List.length, List.replicate, List.cons_append, List.nil_append]
  repeat walk_at "mk"
  all_goals try (refine wp_slSF ?_)
  repeat walk_at "mk"
  have hl : (MK.cutD (ns.map D.int) none (some 63)).length ≤ 63 := Nat.le_trans (cut_len _ _ _) (by rw [List.length_map]; exact hns)
  refine ⟨Nat.le_trans hl (by rw [line_eq, sizeLine_eq]; decide), ?_⟩
  refine wp_compF (fun i acc S' => S' = [] ∧ ∃ cs : List Int, acc = cs.map D.int ∧ cs.length = i ∧ ∀ c ∈ cs, 0 ≤ c) ⟨rfl, [], rfl, rfl, fun _ h => nomatch h⟩ ?_ ?_
  · rintro i d acc S' hd ⟨rfl, cs, rfl, rfl, hc⟩
    obtain ⟨n, _, rfl⟩ := List.mem_map.mp (cut_mem (List.mem_of_getElem? hd))
    repeat walk_at "mk"
    refine ⟨rfl, cs ++ [if n < 0 then -n else n], (List.map_append (l₁ := cs) (l₂ := [if n < 0 then -n else n]) (f := D.int)).symm, by rw [List.length_append]; rfl, fun c hc' => ?_⟩
    rcases List.mem_append.mp hc' with q | q
    · exact hc c q
    · rw [List.mem_singleton.mp q]
      split <;> omega
  · rintro ys S' ⟨rfl, cs, rfl, hcs, hc⟩
    repeat walk_at "mk"
    exact h ⟨0, 1234567891, 0, cs⟩ ⟨Int.le_refl _, by show (0 : Int) ≤ 1234567891; decide, by show (1234567891 : Int) < 2147483647; decide, Int.le_refl _, Int.le_refl _, hc, by show cs.length ≤ 1000; omega⟩
theorem frOk {a b : Int} (h1 : a.natAbs < 2 ^ 1000) (h2 : b.natAbs < 2 ^ 1000) : (fr a b).okR = true := by
  simp only [fr, D.okR, D.okRs, Bool.and_true, Bool.and_eq_true]
  exact ⟨okI h1 (by decide), okI h2 (by decide)⟩
/-- lists of few small things are alike -/
theorem wp_alikeL {xs : List D} {S : Store} {C : D → Store → Prop} (h1 : D.okRs xs = true) (h2 : D.sizes xs ≤ 1000000) (h3 : D.deps xs ≤ 60) (h : C (.bl true) S) : Post (F__law_alike [.lst xs, .lst xs] S) C := by
  refine wp_alikeW (by simpa only [D.okR] using h1) ?_ ?_ (fun k e => by cases e) h
  · simp only [D.size]; rw [line_eq, sizeLine_eq]; omega
  · simp only [D.dep]; omega
/-- what is drawn and brought to lowest terms -/
structure Low (k : Nat) (a b : Int) : Prop where
  pos : 0 < b
  red : Nat.gcd a.natAbs b.natAbs = 1
  sa : a.natAbs < 2 ^ k
  sb : b.natAbs < 2 ^ k
theorem low_of {n d : Int} {k : Nat} (hd : d ≠ 0) (h1 : n.natAbs < 2 ^ k) (h2 : d.natAbs < 2 ^ k) : Low k (rx n d) (ry n d) := by
  have q := red_spec (n := n) hd
  have s := r_small (n := n) hd
  exact ⟨q.pos, q.low, by omega, by omega⟩
theorem mulS_lt {a b : Int} {k l m : Nat} (h1 : a.natAbs < 2 ^ k) (h2 : b.natAbs < 2 ^ l) (h : k + l ≤ m) : (a * b).natAbs < 2 ^ m := by
  rw [Int.natAbs_mul]
  refine Nat.lt_of_lt_of_le (Nat.mul_lt_mul'' h1 h2) ?_
  rw [← Nat.pow_add]
  exact Nat.pow_le_pow_right (by decide) h
theorem add_lt {a b : Int} {k : Nat} (h1 : a.natAbs < 2 ^ k) (h2 : b.natAbs < 2 ^ k) : (a + b).natAbs < 2 ^ (k + 1) := by
  rw [Nat.pow_succ]
  omega
/-- the turn, once the two fractions are drawn -/
def B_rest : FS :=
    (fSeq (fSet 7 (fLst (fCons (fVar 5) (fCons (fCall F__law_reduced (fCons (f2 addD (f2 mulS (f2 ixD (fVar 5) (fC (.int 0))) (f2 ixD (fVar 6) (fC (.int 1)))) (f2 mulS (f2 ixD (fVar 6) (fC (.int 0))) (f2 ixD (fVar 5) (fC (.int 1))))) (fCons (f2 mulS (f2 ixD (fVar 5) (fC (.int 1))) (f2 ixD (fVar 6) (fC (.int 1)))) fNil))) (fCons (fCall F__law_reduced (fCons (f2 mulS (f2 ixD (fVar 5) (fC (.int 0))) (f2 ixD (fVar 6) (fC (.int 0)))) (fCons (f2 mulS (f2 ixD (fVar 5) (fC (.int 1))) (f2 ixD (fVar 6) (fC (.int 1)))) fNil))) fNil)))))
    (fSeq (fIf (fNot (fB (fCall F__law_alike (fCons (fLst (fCons (fCall F_reduced (fCons (fVar 3) (fCons (fVar 4) fNil))) (fCons (fCall F_added (fCons (fVar 5) (fCons (fVar 6) fNil))) (fCons (fCall F_times (fCons (fVar 5) (fCons (fVar 6) fNil))) fNil)))) (fCons (fVar 7) fNil))))) (fRet (fC (.bl false))) fNext)
    (fSeq (fSet 8 (f2 subD (f2 mulS (f2 ixD (fVar 5) (fC (.int 0))) (f2 ixD (fVar 6) (fC (.int 1)))) (f2 mulS (f2 ixD (fVar 6) (fC (.int 0))) (f2 ixD (fVar 5) (fC (.int 1))))))
    (fSeq (fIf (fNot (fB (fCall F__law_alike (fCons (fLst (fCons (fCall F_compared (fCons (fVar 5) (fCons (fVar 6) fNil))) (fCons (fCall F_compared (fCons (fVar 5) (fCons (fVar 5) fNil))) fNil))) (fCons (fLst (fCons (fIf (fB (f2 eqD (fVar 8) (fC (.int 0)))) (fC (.int 0)) (fIf (fB (f2 gtD (fVar 8) (fC (.int 0)))) (fC (.int 1)) (f1 negD (fC (.int 1))))) (fCons (fC (.int 0)) fNil))) fNil))))) (fRet (fC (.bl false))) fNext)
    (fSeq (fIf (fAnd (fB (f2 neD (f2 ixD (fVar 6) (fC (.int 0))) (fC (.int 0)))) (fNot (fB (fCall F__law_alike (fCons (fLst (fCons (fCall F_over (fCons (fVar 5) (fCons (fVar 6) fNil))) (fCons (fCall F_times (fCons (fCall F_over (fCons (fVar 5) (fCons (fVar 6) fNil))) (fCons (fVar 6) fNil))) fNil))) (fCons (fLst (fCons (fCall F__law_reduced (fCons (f2 mulS (f2 ixD (fVar 5) (fC (.int 0))) (f2 ixD (fVar 6) (fC (.int 1)))) (fCons (f2 mulS (f2 ixD (fVar 5) (fC (.int 1))) (f2 ixD (fVar 6) (fC (.int 0)))) fNil))) (fCons (fVar 5) fNil))) fNil)))))) (fRet (fC (.bl false))) fNext)
    (fSeq (fPar 9 10 (fCons (fTup (fCons (fCall absD (fCons (f2 ixD (fVar 5) (fC (.int 0))) fNil)) (fCons (f2 ixD (fVar 5) (fC (.int 1))) fNil))) (fCons (fCall F__law_some (fCons (fVar 1) (fCons (fLst (fCons (fC (.int 0)) (fCons (fC (.int 1)) (fCons (fC (.int 3)) (fCons (fC (.int 20)) fNil))))) fNil))) fNil)))
    (fSeq (fSet 11 (f2 mulS (f2 ixD (fVar 9) (fC (.int 0))) (fCall F__law_ten (fCons (fVar 10) fNil))))
    (fSeq (fPar 12 13 (fCons (f2 divD (fVar 11) (f2 ixD (fVar 9) (fC (.int 1)))) (fCons (f2 divD (f2 subD (f2 addD (fVar 11) (f2 ixD (fVar 9) (fC (.int 1)))) (fC (.int 1))) (f2 ixD (fVar 9) (fC (.int 1)))) fNil)))
    (fIf (fNot (fB (fCall F__law_alike (fCons (fLst (fCons (fCall F_decimal_below (fCons (fVar 9) (fCons (fVar 10) fNil))) (fCons (fCall F_decimal_above (fCons (fVar 9) (fCons (fVar 10) fNil))) fNil))) (fCons (fLst (fCons (fCall F__law_decimal (fCons (fVar 12) (fCons (fVar 10) fNil))) (fCons (fCall F__law_decimal (fCons (fVar 13) (fCons (fVar 10) fNil))) fNil))) fNil))))) (fRet (fC (.bl false))) fNext)))))))))
theorem low_wide {a : Int} {k l : Nat} (h : a.natAbs < 2 ^ k) (hk : k ≤ l) : a.natAbs < 2 ^ l := Nat.lt_of_lt_of_le h (Nat.pow_le_pow_right (by decide) hk)
theorem rest {S : Store} {b : Bag} {p : Nat} {n d x y u v : Int} {o0 o2 o7 o8 o9 o10 o11 o12 o13 o14 o15 o16 o17 o18 : Option D} {C : Fl → Store → Prop} (hk : S[0]? = some (.lst (bagL b))) (wf : Wf p b) (hp : p ≤ 100000000) (hd0 : d ≠ 0) (hn : n.natAbs < 2 ^ 140) (hd : d.natAbs < 2 ^ 140) (hx : x = rx n d) (hy : y = ry n d) (hu : Low 141 u v)
    (h : ∀ b' o7 o8 o9 o10 o11 o12 o13, Wf (p + 10) b' → C (.nx [o0, some (.cell 0), o2, some (.int n), some (.int d), some (fr x y), some (fr u v), o7, o8, o9, o10, o11, o12, o13, o14, o15, o16, o17, o18]) (S.set 0 (.lst (bagL b')))) :
    Post (B_rest [o0, some (.cell 0), o2, some (.int n), some (.int d), some (fr x y), some (fr u v), o7, o8, o9, o10, o11, o12, o13, o14, o15, o16, o17, o18] S) C := by
  have hl : Low 141 x y := by
    rw [hx, hy]
    have q := low_of hd0 hn hd
    exact ⟨q.pos, q.red, low_wide q.sa (by decide), low_wide q.sb (by decide)⟩
  obtain ⟨x0, x1, x2, x3⟩ := hl
  obtain ⟨u0, u1, u2, u3⟩ := hu
  have m1 := mulS_lt x2 u3 (m := 282) (by decide)
  have m2 := mulS_lt u2 x3 (m := 282) (by decide)
  have m3 := mulS_lt x3 u3 (m := 282) (by decide)
  have m4 := mulS_lt x2 u2 (m := 282) (by decide)
  have m5 := mulS_lt x3 u2 (m := 282) (by decide)
  have ma := add_lt m1 m2
  have yv0 : y * v ≠ 0 := Int.mul_ne_zero (by omega) (by omega)
  have mok : ∀ {a b : Int}, a.natAbs < 2 ^ 141 → b.natAbs < 2 ^ 141 → mulOk a b := fun h1 h2 => MK.mulOk_of h1 h2 (by decide)
  have W4 : ∀ {a : Int}, a.natAbs < 2 ^ 141 → a.natAbs < 2 ^ 4000 := fun h => low_wide h (by decide)
  have W9 : ∀ {a : Int}, a.natAbs < 2 ^ 283 → a.natAbs < 2 ^ 9000 := fun h => low_wide h (by decide)
  have W8 : ∀ {a : Int}, a.natAbs < 2 ^ 282 → a.natAbs < 2 ^ 9000 := fun h => low_wide h (by decide)
  have la := low_of (n := x * v + u * y) yv0 ma (low_wide m3 (by decide))
  have lt := low_of (n := x * u) yv0 m4 m3
  unfold B_rest
  repeat walk_at "mk"
  all_goals try exact mok (by assumption) (by assumption)
  refine Post.of_eq (law_reduced_eq yv0 (W9 ma) (W8 m3) _) ?_
  repeat walk_at "mk"
  all_goals try exact mok (by assumption) (by assumption)
  refine Post.of_eq (law_reduced_eq yv0 (W8 m4) (W8 m3) _) ?_
  repeat walk_at "mk"
  refine Post.of_eq (reduced_eq hd0 (low_wide hn (by decide)) (low_wide hd (by decide)) _) ?_
  repeat walk_at "mk"
  refine Post.of_eq (added_eq yv0 (W4 x2) (W4 x3) (W4 u2) (W4 u3) (W9 ma) (W8 m3) _) ?_
  repeat walk_at "mk"
  refine Post.of_eq (times_eq yv0 (W4 x2) (W4 x3) (W4 u2) (W4 u3) (W8 m4) (W8 m3) _) ?_
  repeat walk_at "mk"
  rw [← hx, ← hy]
  refine wp_alikeL ?_ (by simp [D.sizes, D.size]) (by simp [D.deps, D.dep]) ?_
  · simp only [D.okRs, Bool.and_true, Bool.and_eq_true]
    exact ⟨frOk (low_wide x2 (by decide)) (low_wide x3 (by decide)), frOk (low_wide la.sa (by decide)) (low_wide la.sb (by decide)), frOk (low_wide lt.sa (by decide)) (low_wide lt.sb (by decide))⟩
  repeat ((fail_if_success (with_reducible refine wp_seq ?_)); walk_at "mk")
  refine wp_seq (Post.mono (C := fun fl S1 => S = S1 ∧ fl = .nx [o0, some (.cell 0), o2, some (.int n), some (.int d), some (fr x y), some (fr u v), some (.lst [fr x y, fr (rx (x * v + u * y) (y * v)) (ry (x * v + u * y) (y * v)), fr (rx (x * u) (y * v)) (ry (x * u) (y * v))]), some (.int (x * v - u * y)), o9, o10, o11, o12, o13, o14, o15, o16, o17, o18]) ?_ ?_)
  · repeat walk_at "mk"
    all_goals try exact mok (by assumption) (by assumption)
    exact ⟨rfl, rfl⟩
  rintro _ _ ⟨rfl, rfl⟩
  refine wp_seqN ?_
  refine wp_seq (Post.mono (C := fun fl S1 => S = S1 ∧ fl = .nx [o0, some (.cell 0), o2, some (.int n), some (.int d), some (fr x y), some (fr u v), some (.lst [fr x y, fr (rx (x * v + u * y) (y * v)) (ry (x * v + u * y) (y * v)), fr (rx (x * u) (y * v)) (ry (x * u) (y * v))]), some (.int (x * v - u * y)), o9, o10, o11, o12, o13, o14, o15, o16, o17, o18]) ?_ ?_)
  · repeat walk_at "mk"
    refine Post.of_eq (compared_eq (W4 x2) (W4 x3) (W4 u2) (W4 u3) _) ?_
    repeat walk_at "mk"
    refine Post.of_eq (compared_eq (W4 x2) (W4 x3) (W4 x2) (W4 x3) _) ?_
    rw [Int.sub_self, if_pos rfl]
    repeat walk_at "mk"
    refine ⟨fun c => ?_, fun c => ?_⟩
    · have c' : x * v - u * y = 0 := by simpa using c
      rw [if_pos c']
      repeat walk_at "mk"
      refine wp_alikeL (by decide) (by simp [D.sizes, D.size]) (by simp [D.deps, D.dep]) ?_
      repeat walk_at "mk"
      exact ⟨rfl, rfl⟩
    · have c' : ¬ (x * v - u * y = 0) := by simpa using c
      rw [if_neg c']
      repeat walk_at "mk"
      refine ⟨fun c => ?_, fun c => ?_⟩
      · rw [if_pos (of_decide_eq_true c)]
        repeat walk_at "mk"
        refine wp_alikeL (by decide) (by simp [D.sizes, D.size]) (by simp [D.deps, D.dep]) ?_
        repeat walk_at "mk"
        exact ⟨rfl, rfl⟩
      · rw [if_neg (of_decide_eq_false c)]
        repeat walk_at "mk"
        refine wp_alikeL (by decide) (by simp [D.sizes, D.size]) (by simp [D.deps, D.dep]) ?_
        repeat walk_at "mk"
        exact ⟨rfl, rfl⟩
  rintro _ _ ⟨rfl, rfl⟩
  refine wp_seqN ?_
  refine wp_seq (Post.mono (C := fun fl S1 => S = S1 ∧ fl = .nx [o0, some (.cell 0), o2, some (.int n), some (.int d), some (fr x y), some (fr u v), some (.lst [fr x y, fr (rx (x * v + u * y) (y * v)) (ry (x * v + u * y) (y * v)), fr (rx (x * u) (y * v)) (ry (x * u) (y * v))]), some (.int (x * v - u * y)), o9, o10, o11, o12, o13, o14, o15, o16, o17, o18]) ?_ ?_)
  · repeat walk_at "mk"
    refine ⟨fun c => ?_, fun _ => ?_⟩
    · have u00 : u ≠ 0 := by simpa using c
      have yu0 : y * u ≠ 0 := Int.mul_ne_zero (by omega) u00
      have lo := low_of (n := x * v) yu0 m1 m5
      have n1 := mulS_lt lo.sa u2 (m := 423) (by decide)
      have n2 := mulS_lt lo.sb u3 (m := 423) (by decide)
      have lo0 := lo.pos
      have nv0 : ry (x * v) (y * u) * v ≠ 0 := Int.mul_ne_zero (by omega) (by omega)
      have bk := over_back (a := x) (b := y) (c := u) (d := v) x0 u0 u00 x1
      repeat walk_at "mk"
      refine Post.of_eq (over_eq yu0 (W4 x2) (W4 x3) (W4 u2) (W4 u3) (W8 m1) (W8 m5) _) ?_
      repeat walk_at "mk"
      refine Post.of_eq (over_eq yu0 (W4 x2) (W4 x3) (W4 u2) (W4 u3) (W8 m1) (W8 m5) _) ?_
      repeat walk_at "mk"
      refine Post.of_eq (times_eq nv0 (low_wide lo.sa (by decide)) (low_wide lo.sb (by decide)) (W4 u2) (W4 u3) (low_wide n1 (by decide)) (low_wide n2 (by decide)) _) ?_
      rw [bk.1, bk.2]
      repeat walk_at "mk"
      all_goals try exact mok (by assumption) (by assumption)
      refine Post.of_eq (law_reduced_eq yu0 (W8 m1) (W8 m5) _) ?_
      repeat walk_at "mk"
      refine wp_alikeL ?_ (by simp [D.sizes, D.size]) (by simp [D.deps, D.dep]) ?_
      · simp only [D.okRs, Bool.and_true, Bool.and_eq_true]
        exact ⟨frOk (low_wide lo.sa (by decide)) (low_wide lo.sb (by decide)), frOk (low_wide x2 (by decide)) (low_wide x3 (by decide))⟩
      repeat walk_at "mk"
      exact ⟨rfl, rfl⟩
    · repeat walk_at "mk"
      exact ⟨rfl, rfl⟩
  rintro _ _ ⟨rfl, rfl⟩
  refine wp_seqN ?_
  have ax : (if x < 0 then -x else x).natAbs < 2 ^ 141 := by split <;> omega
  have ax0 : 0 ≤ (if x < 0 then -x else x) := by split <;> omega
  obtain ⟨z, hz⟩ : ∃ z, (if x < 0 then -x else x) = z := ⟨_, rfl⟩
  repeat walk_at "mk"
  rw [hz] at ax ax0 ⊢
  refine wp_someS hk wf (by omega) (by simp only [List.length_cons]; omega) (by simp only [List.length_cons, List.length_nil]; omega) fun q b1 hq w1 => ?_
  obtain ⟨p', rfl, hp'⟩ : ∃ p' : Nat, q = .int p' ∧ p' ≤ 20 := by
    simp only [List.mem_cons, List.not_mem_nil, or_false] at hq
    rcases hq with rfl | rfl | rfl | rfl
    · exact ⟨0, rfl, by decide⟩
    · exact ⟨1, rfl, by decide⟩
    · exact ⟨3, rfl, by decide⟩
    · exact ⟨20, rfl, by decide⟩
  clear hq
  have hq := pw_nat (b := 10) (k := p') (by decide)
  have z2 := mulS_lt ax hq (m := 240) (by omega)
  have z0 : 0 ≤ z * ((10 : Nat) : Int) ^ p' := Int.mul_nonneg ax0 (Int.le_of_lt (show (0 : Int) < ((10 : Nat) : Int) ^ p' from Int.pow_pos (by decide)))
  repeat walk_at "mk"
  refine Post.of_eq (ten_eq (e := p') (by omega) _) ?_
  repeat walk_at "mk"
  all_goals try exact MK.mulOk_of ax hq (by omega)
  all_goals try exact divOk_of x0 x3 (by decide) (by decide)
  refine Post.of_eq (below_eq ax0 (low_wide ax (by decide)) x0 (low_wide x3 (by decide)) hp' _) ?_
  repeat walk_at "mk"
  refine Post.of_eq (above_eq ax0 (low_wide ax (by decide)) x0 (low_wide x3 (by decide)) hp' _) ?_
  have d1 : (z * ((10 : Nat) : Int) ^ p' / y).natAbs.log2 < 1920 := by
    generalize z * ((10 : Nat) : Int) ^ p' = t at *
    have h3 := Int.ediv_le_self y z0
    have h4 := Int.ediv_nonneg z0 (Int.le_of_lt x0)
    exact log_of (k := 240) (by omega) (by decide)
  have d2 : ((z * ((10 : Nat) : Int) ^ p' + y - 1) / y).natAbs.log2 < 1920 := by
    generalize z * ((10 : Nat) : Int) ^ p' = t at *
    have h3 := Int.ediv_le_self y (show 0 ≤ t + y - 1 by omega)
    have h4 := Int.ediv_nonneg (show 0 ≤ t + y - 1 by omega) (Int.le_of_lt x0)
    exact log_of (k := 242) (by omega) (by decide)
  repeat walk_at "mk"
  refine Post.of_eq (law_decimal_eq d1 (by omega) _) ?_
  repeat walk_at "mk"
  refine Post.of_eq (law_decimal_eq d2 (by omega) _) ?_
  repeat walk_at "mk"
  have l1 := dec_len (n := z * ((10 : Nat) : Int) ^ p' / y) (p := p') d1 (by omega)
  have l2 := dec_len (n := (z * ((10 : Nat) : Int) ^ p' + y - 1) / y) (p := p') d2 (by omega)
  have s1 := okS_dec (n := z * ((10 : Nat) : Int) ^ p' / y) (p := p')
  have s2 := okS_dec (n := (z * ((10 : Nat) : Int) ^ p' + y - 1) / y) (p := p')
  have t1 := okS_len s1
  have t2 := okS_len s2
  refine wp_alikeL ?_ ?_ (by simp [D.deps, D.dep]) ?_
  · simp only [D.okRs, D.okR, okS_ok s1, okS_ok s2]; rfl
  · simp only [D.sizes, D.size]; omega
  repeat walk_at "mk"
  exact h b1 _ _ _ _ _ _ _ (w1.mono (by omega))
theorem main {ns : List Int} (hns : ns.length ≤ 63) : ∃ S', F_law [.flst (ns.map D.int)] [] = .ok (.bl true) S' := by
  suffices Post (F_law [.flst (ns.map D.int)] []) fun d _ => d = .bl true by
    obtain ⟨d, S', e, rfl⟩ := this
    exact ⟨S', e⟩
  unfold F_law
  refine wp_run ?_
  unfold B_law
  simp only [List.map, List.length, List.replicate, List.cons_append, List.nil_append]
  repeat walk_at "mk"
  refine wp_bag hns fun b w => ?_
  repeat walk_at "mk"
  refine ⟨by decide, ?_⟩
  refine wp_forF (fun i ρ S' => ∃ b o2 o3 o4 o5 o6 o7 o8 o9 o10 o11 o12 o13, S' = [.lst (bagL b)] ∧ Wf (100 * i) b ∧ ρ = [some (.flst (ns.map D.int)), some (.cell 0), o2, o3, o4, o5, o6, o7, o8, o9, o10, o11, o12, o13, none, none, none, none, none]) ⟨b, _, _, _, _, _, _, _, _, _, _, _, _, rfl, w, rfl⟩ ?_ ?_
  · rintro i d ρ S0 hd ⟨b, o2, o3, o4, o5, o6, o7, o8, o9, o10, o11, o12, o13, rfl, w, rfl⟩
    obtain ⟨rfl, hi⟩ := rngL_get _ _ _ _ hd
    have hi' : i < 6 := hi
    repeat walk_at "mk"
    refine wp_pair rfl w (by omega) fun n d b1 hn hd0 hdd w1 => ?_
    repeat walk_at "mk"
    refine Post.of_eq (law_reduced_eq hd0 (low_wide hn (by decide)) (low_wide hdd (by decide)) _) ?_
    repeat walk_at "mk"
    refine wp_pair rfl w1 (by omega) fun n1 d1 b2 hn1 _ _ w2 => ?_
    repeat walk_at "mk"
    refine wp_pair rfl w2 (by omega) fun n2 d2 b3 _ hd20 hd2 w3 => ?_
    repeat walk_at "mk"
    refine Post.of_eq (law_reduced_eq hd20 (low_wide hn1 (by decide)) (low_wide hd2 (by decide)) _) ?_
    repeat walk_at "mk"
    refine wp_takeS rfl w3 (by omega) (by decide) (by decide) fun v b4 hv w4 => ?_
    have l1 := low_of (n := n1) hd20 (low_wide hn1 (by decide : 140 ≤ 141)) (low_wide hd2 (by decide))
    have l2 := low_of (n := n + 1) hd0 (k := 141) (by omega) (low_wide hdd (by decide))
    repeat walk_at "mk"
    refine ⟨fun c => ?_, fun c => ?_⟩
    · repeat walk_at "mk"
      refine Post.of_eq (law_reduced_eq hd0 (low_wide (k := 141) (by omega) (by decide)) (low_wide hdd (by decide)) _) ?_
      refine wp_seqN ?_
      refine rest rfl w4 (by omega) hd0 hn hdd rfl rfl l2 fun b' o7 o8 o9 o10 o11 o12 o13 w' => ?_
      exact ⟨b', _, _, _, _, _, _, _, _, _, _, _, _, rfl, w'.mono (by omega), rfl⟩
    · repeat ((fail_if_success (with_reducible refine wp_seq ?_)); walk_at "mk")
      refine rest rfl w4 (by omega) hd0 hn hdd rfl rfl l1 fun b' o7 o8 o9 o10 o11 o12 o13 w' => ?_
      exact ⟨b', _, _, _, _, _, _, _, _, _, _, _, _, rfl, w'.mono (by omega), rfl⟩
  · rintro ρ S' ⟨b, o2, o3, o4, o5, o6, o7, o8, o9, o10, o11, o12, o13, rfl, w, rfl⟩
    rw [rngL_length] at w
    have w0 : Wf 600 b := w
    clear w
    repeat walk_at "mk"
    refine wp_someS rfl w0 (by omega) (by simp only [List.length_cons]; omega) (by simp only [List.length_cons, List.length_nil]; omega) fun q b1 hq w1 => ?_
    obtain ⟨by_, rfl, hb0, hb1⟩ : ∃ z : Int, q = .int z ∧ 0 < z ∧ z ≤ 7 := by
      simp only [List.mem_cons, List.not_mem_nil, or_false] at hq
      rcases hq with rfl | rfl | rfl
      all_goals exact ⟨_, rfl, by decide, by decide⟩
    clear hq
    repeat walk_at "mk"
    refine wp_takeS rfl w1 (by omega) (by decide) (by decide) fun v b2 hv w2 => ?_
    repeat walk_at "mk"
    refine wp_someS rfl w2 (by omega) (by simp only [List.length_cons]; omega) (by simp only [List.length_cons, List.length_nil]; omega) fun q b3 hq w3 => ?_
    obtain ⟨m, rfl, hm⟩ : ∃ m : Nat, q = .int m ∧ m ≤ 3000 := by
      simp only [List.mem_cons, List.not_mem_nil, or_false] at hq
      rcases hq with rfl | rfl | rfl
      · exact ⟨3000, rfl, by decide⟩
      · exact ⟨200, rfl, by decide⟩
      · exact ⟨v, rfl, by omega⟩
    clear hq
    repeat walk_at "mk"
    refine ⟨by omega, ?_⟩
    rw [Int.toNat_natCast]
    refine wp_forF (fun i ρ S' => S' = [.lst (bagL b3)] ∧ ∃ (x y : Int) (o2 : Option D), 0 < x ∧ 0 < y ∧ Nat.gcd x.natAbs y.natAbs = 1 ∧ x.natAbs < 2 ^ (i + 1) ∧ y.natAbs < 2 ^ (i + 1) ∧ ρ = [some (.flst (ns.map D.int)), some (.cell 0), o2, o3, o4, o5, o6, o7, o8, o9, o10, o11, o12, o13, some (.int x), some (.int y), some (.int by_), none, none]) ⟨rfl, 1, 1, _, by decide, by decide, by decide, by decide, by decide, rfl⟩ ?_ ?_
    · rintro i d ρ S' hd ⟨rfl, x, y, o2, hx, hy, hg, sx, sy, rfl⟩
      repeat walk_at "mk"
      refine ⟨rfl, y, x + y, _, hy, by omega, ?_, Nat.lt_trans sy (Nat.pow_lt_pow_right (by decide) (by omega)), ?_, rfl⟩
      · have e : (x + y).natAbs = x.natAbs + y.natAbs := by omega
        rw [e, Nat.gcd_add_self_right, Nat.gcd_comm]
        exact hg
      · rw [Nat.pow_succ]
        omega
    · rintro ρ S' ⟨rfl, x, y, o2, hx, hy, hg, sx, sy, rfl⟩
      rw [rngL_length] at sx sy
      have sx' : x.natAbs < 2 ^ 3001 := low_wide sx (by omega)
      have sy' : y.natAbs < 2 ^ 3001 := low_wide sy (by omega)
      clear sx sy
      have sb : by_.natAbs < 2 ^ 4 := by omega
      have sny : (-y).natAbs < 2 ^ 3001 := by rw [Int.natAbs_neg]; exact sy'
      have m1 := mulS_lt sx' sb (m := 3005) (by decide)
      have m2 := mulS_lt sny sb (m := 3005) (by decide)
      have d0 : -y * by_ ≠ 0 := Int.mul_ne_zero (by omega) (by omega)
      have e := fib_red (x := x) (y := y) (b := by_) hy hb0 hg
      have W9 : ∀ {a : Int}, a.natAbs < 2 ^ 3005 → a.natAbs < 2 ^ 9000 := fun h => low_wide h (by decide)
      have wd : ∀ {a : Int}, a.natAbs < 2 ^ 3001 → wideI a := fun {a} h => by
        unfold wideI
        by_cases c : a.natAbs = 0
        · rw [c]; decide
        · have := (Nat.log2_lt c).mpr h
          omega
      repeat walk_at "mk"
      all_goals try exact MK.mulOk_of sx' sb (by decide)
      all_goals try exact MK.mulOk_of sny sb (by decide)
      refine Post.of_eq (reduced_eq d0 (W9 m1) (W9 m2) _) ?_
      rw [e.1, e.2]
      repeat walk_at "mk"
      refine wp_alikeP (wd (by rw [Int.natAbs_neg]; exact sx')) (wd sy') ?_
      repeat walk_at "mk"
      refine wp_someS rfl w3 (by omega) (by simp only [List.length_cons]; omega) (by simp only [List.length_cons, List.length_nil]; omega) fun q b4 hq w4 => ?_
      obtain ⟨ee, rfl, he⟩ : ∃ m : Nat, q = .int m ∧ m ≤ 300 := by
        simp only [List.mem_cons, List.not_mem_nil, or_false] at hq
        rcases hq with rfl | rfl | rfl | rfl | rfl
        · exact ⟨0, rfl, by decide⟩
        · exact ⟨1, rfl, by decide⟩
        · exact ⟨10, rfl, by decide⟩
        · exact ⟨64, rfl, by decide⟩
        · exact ⟨300, rfl, by decide⟩
      clear hq
      repeat walk_at "mk"
      refine ⟨by omega, ?_⟩
      rw [Int.toNat_natCast]
      refine wp_forF (fun i ρ S' => S' = [.lst (bagL b4)] ∧ ∃ (o2 : Option D), ρ = [some (.flst (ns.map D.int)), some (.cell 0), o2, o3, o4, o5, o6, o7, o8, o9, o10, o11, o12, o13, some (.int x), some (.int y), some (.int by_), some (.int ee), some (.int (((2 : Nat) : Int) ^ i))]) ⟨rfl, _, rfl⟩ ?_ ?_
      · rintro i d ρ S' hd ⟨rfl, o2, rfl⟩
        have hi := (rngL_get _ _ _ _ hd).2
        repeat walk_at "mk"
        · exact ⟨rfl, _, by rw [Int.pow_succ]; rfl⟩
        · exact MK.mulOk_of (pw_nat (b := 2) (k := i) (by decide)) (b := 4) (by decide) (by omega)
      · rintro ρ S' ⟨rfl, o2, rfl⟩
        rw [rngL_length]
        repeat walk_at "mk"
        refine Post.of_eq (half_to_eq (e := ee) (by omega) _) ?_
        repeat walk_at "mk"
        refine wp_alikeP ?_ ?_ ?_
        · show (1 : Int).natAbs.log2 < 12900; decide
        · unfold wideI
          have h1 := pw_nat (b := 2) (k := ee) (by decide)
          have h2 : (((2 : Nat) : Int) ^ ee).natAbs.log2 < 1920 := log_of h1 (by omega)
          omega
        repeat walk_at "mk"
        rfl
end Law

open PySem PySem.W PyProof.Rows
set_option maxRecDepth 100000 in
set_option maxHeartbeats 0 in
theorem PySem.Challenge.cw_unwrittenrow_k03_whole_fractions_by_inte_holds : PySem.Challenge.rw_unwrittenrow_k03_whole_fractions_by_inte.Holds := by
  w_on; o_law; k_head; (case hw => w_witness2)
  k_fill
  refine MK.walkG (l := PySem.Challenge.rw_unwrittenrow_k03_whole_fractions_by_inte) (n := 63) (k := 4) (x := "_law_script") (sp := fun K => MK.spM K 1 Law.F_law) rfl (by decide) rfl ⟨rfl, by decide, by decide⟩ (fun w h Y => PySem.W.kIn_of Y) ?F (MK.want_of fun ns h _ => Law.main h)
  case F =>
    intro w mg fa h KX G hmg
    refine' Law.all_mk KX G hmg ?a0 ?l0 ?c0 ?k0 ?a1 ?l1 ?c1 ?k1 ?a2 ?l2 ?c2 ?k2 ?a3 ?l3 ?c3 ?k3 ?a4 ?l4 ?c4 ?k4 ?a5 ?l5 ?c5 ?k5 ?a6 ?l6 ?c6 ?k6 ?a7 ?l7 ?c7 ?k7 ?a8 ?l8 ?c8 ?k8 ?a9 ?l9 ?c9 ?k9 ?a10 ?l10 ?c10 ?k10 ?a11 ?l11 ?c11 ?k11 ?a12 ?l12 ?c12 ?k12 ?a13 ?l13 ?c13 ?k13 ?a14 ?l14 ?c14 ?k14 ?a15 ?l15 ?c15 ?k15 ?a16 ?l16 ?c16 ?k16 ?a17 ?l17 ?c17 ?k17 ?a18 ?l18 ?c18 ?k18 ?a19 ?l19 ?c19 ?k19 ?a20 ?l20 ?c20 ?k20 ?z0 ?z1 ?z2 ?z3 ?z4 ?z5 ?z6 ?nl
    (case a0 => k_is); (case l0 => k_is); (case c0 => k_is); (case k0 => k_is); (case a1 => k_is); (case l1 => k_is); (case c1 => k_is); (case k1 => k_is); (case a2 => k_is); (case l2 => k_is); (case c2 => k_is); (case k2 => k_is); (case a3 => k_is); (case l3 => k_is); (case c3 => k_is); (case k3 => k_is); (case a4 => k_is); (case l4 => k_is); (case c4 => k_is); (case k4 => k_is); (case a5 => k_is); (case l5 => k_is); (case c5 => k_is); (case k5 => k_is); (case a6 => k_is); (case l6 => k_is); (case c6 => k_is); (case k6 => k_is); (case a7 => k_is); (case l7 => k_is); (case c7 => k_is); (case k7 => k_is); (case a8 => k_is); (case l8 => k_is); (case c8 => k_is); (case k8 => k_is); (case a9 => k_is); (case l9 => k_is); (case c9 => k_is); (case k9 => k_is); (case a10 => k_is); (case l10 => k_is); (case c10 => k_is); (case k10 => k_is); (case a11 => k_is); (case l11 => k_is); (case c11 => k_is); (case k11 => k_is); (case a12 => k_is); (case l12 => k_is); (case c12 => k_is); (case k12 => k_is); (case a13 => k_is); (case l13 => k_is); (case c13 => k_is); (case k13 => k_is); (case a14 => k_is); (case l14 => k_is); (case c14 => k_is); (case k14 => k_is); (case a15 => k_is); (case l15 => k_is); (case c15 => k_is); (case k15 => k_is); (case a16 => k_is); (case l16 => k_is); (case c16 => k_is); (case k16 => k_is); (case a17 => k_is); (case l17 => k_is); (case c17 => k_is); (case k17 => k_is); (case a18 => k_is); (case l18 => k_is); (case c18 => k_is); (case k18 => k_is); (case a19 => k_is); (case l19 => k_is); (case c19 => k_is); (case k19 => k_is); (case a20 => k_is); (case l20 => k_is); (case c20 => k_is); (case k20 => k_is); (case z0 => k_is); (case z1 => k_is); (case z2 => k_is); (case z3 => k_is); (case z4 => k_is); (case z5 => k_is); (case z6 => k_is); (case nl => unfold MK.NoLim; k_is)

