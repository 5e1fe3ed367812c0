import PyProof.Rows.All
import HandS.NoneIn
import HandS.ForMost
import HandS.Wide
import HandS.WideBits
import HandS.Walk
import HandS.RaiseMore
import HandS.Style
import HandS.Nested
import KE.KTupSum
import KE.KeyNested
import HandS.EndBits
import KE.GoesEnum
import HandS.TupAny
import HandS.Small
import KE.GoesZip
import HandS.Zip
import HandS.Deep
import HandS.Text
import HandS.Star
import KE.SortCalls
import KE.SortKeyed
import PyProof.StrBlock2
import PyProof.Rows.StrOr
import PyProof.ReprRoads
import HandS.EndTab
import HandS.Dict
import KE.KDictWalk
import KE.KDictCopyH
import KE.KDictSum
import KE.KDictPairs
import HandS.Conv
import HandS.Keys
import HandS.IsInst
import HandS.Iter
import HandS.SetFor
import HandS.Strs
import KE.SortKeyHeap
import HandS.SortKw
import KE.DataMinMax
import OpenK.KEqL
import PyProof.Rows.RuleB_bool
import PySem.Challenge.RW_unwrittenrow_k27_enclosures_reckoned
set_option Elab.async false
set_option linter.all false
set_option maxRecDepth 100000
set_option maxHeartbeats 8000000
/-! MK: a layer of own over HandS: each piece of syntax has a plain function (over values without addresses) beside it. Second make: dicts of any keys, made functions. -/
namespace MK
open PySem PySem.Spec PyProof.Rows L2

/-- what is written, the world -/
structure KR where
  K : PySem.W.Frag
  w : World
/-! ### values without addresses -/
inductive D where
  | non | bl (b : Bool) | int (i : Int) | str (x : Str) | tup (xs : List D) | lst (xs : List D) | flst (xs : List D) | dct (kvs : List (D × D)) | cell (k : Nat) | ref (a : Addr) | ty (n : String)

/-- what may change: a list, a dict, or nothing any more -/
inductive Cell where
  | dead | lst (xs : List D) | dct (kvs : List (D × D))
abbrev Store := List Cell
structure Exn where
  cls : Value
  fld : Option (Str × D)

inductive Out (α : Type) where
  | ok (a : α) (S : Store) | ex (e : Exn) (S : Store) | no
namespace Out
def bind {α β : Type} (o : Out α) (f : α → Store → Out β) : Out β := match o with
  | .ok a S => f a S
  | .ex e S => .ex e S
  | .no => .no
@[simp] theorem bind_ok {α β : Type} (a : α) (S : Store) (f : α → Store → Out β) : (Out.ok a S).bind f = f a S := rfl
@[simp] theorem bind_ex {α β : Type} (e : Exn) (S : Store) (f : α → Store → Out β) : (Out.ex e S).bind f = .ex e S := rfl
@[simp] theorem bind_no {α β : Type} (f : α → Store → Out β) : (Out.no).bind f = .no := rfl
theorem bind_assoc {α β γ : Type} (o : Out α) (f : α → Store → Out β) (g : β → Store → Out γ) : (o.bind f).bind g = o.bind fun a S => (f a S).bind g := by cases o <;> rfl
end Out

/-! ### keys of dicts -/
mutual
/-- the value as a key -/
def D.key : D → Option NestedKey
  | .non => some .none
  | .bl b => some (.num (if b = true then 1 else 0))
  | .int i => some (.num i)
  | .str x => some (.text x)
  | .tup xs => (D.keys xs).map .tup
  | _ => none
def D.keys : List D → Option (List NestedKey)
  | [] => some []
  | x :: xs => match x.key, D.keys xs with
    | some k, some ks => some (k :: ks)
    | _, _ => none
end
abbrev Ent := NestedKey × V × V
def EntryOk (w : World) (e : Ent) (x : DictEntry) : Prop := x.hash = e.1.hash w ∧ RelV e.2.1 x.key ∧ RelV e.2.2 x.val
/-- at a stands the dict of these entries -/
def DctP (w : World) (a : Addr) (es : List Ent) (h : Heap) : Prop := ∃ o ds ep, h.get? a = some o ∧ o.ExactDict ∧ o.data = .dict ds ep ∧ Paired (EntryOk w) es ds.toList
def DctO (w : World) (a : Addr) (es : List Ent) : HO := .ext (DctP w a es)
structure KeysOk (a : Addr) (es : List Ent) : Prop where
  nd : (es.map (·.1)).Nodup
  dep : ∀ e ∈ es, e.1.depth ≤ 8
  len : es.length ≤ sizeLine
  sm : (a == sysModules) = false
/-- at a stands just this object -/
def CellO (a : Addr) (o : Obj) : HO := .ext fun h => h.get? a = some o

/-- a function object that was made; the cells that it captured as they stand, what they hold -/
structure FRec where
  f : Addr
  o : Obj
  c : Addr
  q : Str
  cs : Addr → Option Obj
  caps : List D
  vs : List V
/-- further: the tables of code objects, the made functions that are handed about -/
structure KW extends KR where
  T : List NdefX.NTab
  L : List FRec
instance : Coe KW KR := ⟨KW.toKR⟩
instance : Coe KR PySem.W.Frag := ⟨KR.K⟩
instance : Coe KW PySem.W.Frag := ⟨fun K => K.K⟩

/-- a tuple that has no dict of its own: made here (its object is told), or of the module -/
def SqP (K : PySem.W.Frag) (H : Hp) (a : Addr) (xs : List V) : Prop :=
  (∃ o : Obj, o.dict = none ∧ H a = some (.frz o (.tup xs))) ∨
    ∃ (o : Obj) (its : Array Value) (n : Nat), o.dict = none ∧ K.lookup a = some o ∧ o.cls = .type "tuple" ∧ o.data = .seq its n ∧ its.size ≤ sizeLine ∧ Vals xs its.toList
theorem SqP.sq {K : PySem.W.Frag} {H : Hp} {a : Addr} {xs : List V} (h : SqP K H a xs) : SqT K H a xs := by
  rcases h with ⟨o, _, h⟩ | ⟨o, its, n, _, h⟩
  · exact .inl (.inr ⟨o, h⟩)
  · exact .inr ⟨o, its, n, h⟩
theorem SqP.mono {K : PySem.W.Frag} {H H' : Hp} {a : Addr} {xs : List V} (e : Same H H') (h : SqP K H a xs) : SqP K H' a xs := by
  rcases h with ⟨o, d, h⟩ | h
  · exact .inl ⟨o, d, e _ _ h⟩
  · exact .inr h
/-- the object of a new tuple -/
abbrev tupO (its : List Value) : Obj := { cls := .type "tuple", data := .seq its.toArray }
theorem SqP.new {K : PySem.W.Frag} {H : Hp} {a : Addr} {xs : List V} {o : Obj} (d : o.dict = none) : SqP K (upd H a (.frz o (.tup xs))) a xs := .inl ⟨o, d, if_pos rfl⟩
theorem frz_ok {P : PySem.Program} {w : World} {H : Hp} {h : Heap} {a : Addr} {xs : List V} {o : Obj} (e : h.get? a = some o) (k : ObjOk P w H h a (.tup xs)) : ObjOk P w H h a (.frz o (.tup xs)) := ⟨e, k⟩

/-- the ghost: what is frozen, where the cells stand, how many, what else stands untouched -/
structure Gh where
  G : Hp
  m : Nat → Addr
  n : Nat
  F : Hp

section
variable (K : KR)
mutual
inductive RD (g : Gh) : D → V → Prop
  | non : RD g .non .non
  | bl (b : Bool) : RD g (.bl b) (.bl b)
  | int (i : Int) : RD g (.int i) (.int i)
  | str (x : Str) : RD g (.str x) (.str x)
  | tup {a : Addr} {vs : List V} {ds : List D} : SqP K.K g.G a vs → RDs g ds vs → RD g (.tup ds) (.ref a)
  | lst {a : Addr} {vs : List V} {ds : List D} : g.G a = some (.lst vs) → RDs g ds vs → RD g (.lst ds) (.ref a)
  | flst {a : Addr} {vs : List V} {ds : List D} : SqL K.K g.G a vs → RDs g ds vs → RD g (.flst ds) (.ref a)
  | dct {a : Addr} {es : List Ent} {kvs : List (D × D)} : g.G a = some (DctO K.w a es) → KeysOk a es → RDk g kvs es → RD g (.dct kvs) (.ref a)
  | cell {k : Nat} {a : Addr} : k < g.n → g.m k = a → RD g (.cell k) (.ref a)
  | ref (a : Addr) : RD g (.ref a) (.ref a)
  | ty (n : String) : RD g (.ty n) (.ty n)
inductive RDs (g : Gh) : List D → List V → Prop
  | nil : RDs g [] []
  | cons {d : D} {v : V} {ds : List D} {vs : List V} : RD g d v → RDs g ds vs → RDs g (d :: ds) (v :: vs)
inductive RDk (g : Gh) : List (D × D) → List Ent → Prop
  | nil : RDk g [] []
  | cons {kd vd : D} {k : NestedKey} {kv vv : V} {kvs : List (D × D)} {es : List Ent} : kd.key = some k → RD g kd kv → RD g vd vv → RDk g kvs es → RDk g ((kd, vd) :: kvs) ((k, kv, vv) :: es)
end
end

structure ExtG (g g' : Gh) : Prop where
  G : Same g.G g'.G
  n : g.n ≤ g'.n
  m : ∀ k, k < g.n → g'.m k = g.m k
structure Ext (g g' : Gh) : Prop extends ExtG g g' where
  F : g'.F = g.F
theorem ExtG.refl (g : Gh) : ExtG g g := ⟨Same.refl _, Nat.le_refl _, fun _ _ => rfl⟩
theorem ExtG.trans {g g1 g2 : Gh} (a : ExtG g g1) (b : ExtG g1 g2) : ExtG g g2 :=
  ⟨a.G.trans b.G, Nat.le_trans a.n b.n, fun k h => (b.m k (Nat.lt_of_lt_of_le h a.n)).trans (a.m k h)⟩
theorem Ext.refl (g : Gh) : Ext g g := ⟨.refl g, rfl⟩
theorem Ext.trans {g g1 g2 : Gh} (a : Ext g g1) (b : Ext g1 g2) : Ext g g2 := ⟨a.toExtG.trans b.toExtG, b.F.trans a.F⟩

theorem sameT {K : PySem.W.Frag} {H H' : Hp} {a : Addr} {xs : List V} (e : Same H H') (h : SqT K H a xs) : SqT K H' a xs := by
  rcases h with (h | ⟨o, h⟩) | h
  · exact .inl (.inl (e _ _ h))
  · exact .inl (.inr ⟨o, e _ _ h⟩)
  · exact .inr h

section
variable {K : KR} {g g' : Gh}
mutual
theorem RD.mono (e : ExtG g g') : ∀ {d : D} {v : V}, RD K g d v → RD K g' d v
  | _, _, .non => .non
  | _, _, .bl b => .bl b
  | _, _, .int i => .int i
  | _, _, .str x => .str x
  | _, _, .tup h r => .tup (h.mono e.G) (RDs.mono e r)
  | _, _, .lst h r => .lst (e.G _ _ h) (RDs.mono e r)
  | _, _, .flst h r => .flst (e.G.seq h) (RDs.mono e r)
  | _, _, .dct h q r => .dct (e.G _ _ h) q (RDk.mono e r)
  | _, _, .cell h q => .cell (Nat.lt_of_lt_of_le h e.n) ((e.m _ h).trans q)
  | _, _, .ref a => .ref a
  | _, _, .ty n => .ty n
theorem RDs.mono (e : ExtG g g') : ∀ {ds : List D} {vs : List V}, RDs K g ds vs → RDs K g' ds vs
  | _, _, .nil => .nil
  | _, _, .cons h r => .cons (RD.mono e h) (RDs.mono e r)
theorem RDk.mono (e : ExtG g g') : ∀ {ds : List (D × D)} {vs : List Ent}, RDk K g ds vs → RDk K g' ds vs
  | _, _, .nil => .nil
  | _, _, .cons q h1 h2 r => .cons q (RD.mono e h1) (RD.mono e h2) (RDk.mono e r)
end
theorem RDs.length : ∀ {ds : List D} {vs : List V}, RDs K g ds vs → vs.length = ds.length
  | _, _, .nil => rfl
  | _, _, .cons _ r => by rw [List.length_cons, List.length_cons, RDs.length r]
theorem RDs.append : ∀ {ds es : List D} {vs ws : List V}, RDs K g ds vs → RDs K g es ws → RDs K g (ds ++ es) (vs ++ ws)
  | _, _, _, _, .nil, s => s
  | _, _, _, _, .cons h r, s => .cons h (RDs.append r s)
theorem RDs.get : ∀ {ds : List D} {vs : List V} {i : Nat} {d : D}, RDs K g ds vs → ds[i]? = some d → ∃ v, vs[i]? = some v ∧ RD K g d v
  | _, _, _, _, .nil, h => by simp at h
  | _, _, 0, _, .cons h _, e => by
    have e' := Option.some.inj e
    subst e'
    exact ⟨_, rfl, h⟩
  | _, _, i + 1, d, .cons _ r, e => by
    obtain ⟨v, h1, h2⟩ := RDs.get (i := i) (d := d) r (by simpa using e)
    exact ⟨v, by simpa using h1, h2⟩
theorem RDs.get' : ∀ {ds : List D} {vs : List V} {i : Nat} {v : V}, RDs K g ds vs → vs[i]? = some v → ∃ d, ds[i]? = some d ∧ RD K g d v
  | _, _, _, _, .nil, h => by simp at h
  | _, _, 0, _, .cons h _, e => by
    have e' := Option.some.inj e
    subst e'
    exact ⟨_, rfl, h⟩
  | _, _, i + 1, v, .cons _ r, e => by
    obtain ⟨d, h1, h2⟩ := RDs.get' (i := i) (v := v) r (by simpa using e)
    exact ⟨d, by simpa using h1, h2⟩
theorem RDs.take : ∀ {ds : List D} {vs : List V} (n : Nat), RDs K g ds vs → RDs K g (ds.take n) (vs.take n)
  | _, _, 0, _ => .nil
  | _, _, _ + 1, .nil => .nil
  | _, _, n + 1, .cons h r => .cons h (RDs.take n r)
theorem RDs.drop : ∀ {ds : List D} {vs : List V} (n : Nat), RDs K g ds vs → RDs K g (ds.drop n) (vs.drop n)
  | _, _, 0, r => r
  | _, _, _ + 1, .nil => .nil
  | _, _, n + 1, .cons _ r => RDs.drop n r
theorem RDs.set {d : D} {v : V} (h : RD K g d v) : ∀ {ds : List D} {vs : List V} (i : Nat), RDs K g ds vs → RDs K g (ds.set i d) (vs.set i v)
  | _, _, _, .nil => .nil
  | _, _, 0, .cons _ r => .cons h r
  | _, _, i + 1, .cons q r => .cons q (RDs.set h i r)
end

section
variable {K : KR} {g : Gh}
theorem RDk.length : ∀ {ds : List (D × D)} {vs : List Ent}, RDk K g ds vs → vs.length = ds.length
  | _, _, .nil => rfl
  | _, _, .cons _ _ _ r => by rw [List.length_cons, List.length_cons, RDk.length r]
theorem RDk.append : ∀ {ds es : List (D × D)} {vs ws : List Ent}, RDk K g ds vs → RDk K g es ws → RDk K g (ds ++ es) (vs ++ ws)
  | _, _, _, _, .nil, s => s
  | _, _, _, _, .cons q h1 h2 r, s => .cons q h1 h2 (RDk.append r s)
end

/-! ### the state behind it -/
def CObj (K : KR) (g : Gh) (a : Addr) : Cell → HO → Prop
  | .dead, _ => False
  | .lst ds, o => ∃ vs, o = .lst vs ∧ RDs K g ds vs
  | .dct kvs, o => ∃ es, o = DctO K.w a es ∧ KeysOk a es ∧ RDk K g kvs es
def CellOk (K : KR) (g : Gh) (H : Hp) (a : Addr) (c : Cell) : Prop := c = .dead ∨ (g.G a = none ∧ ∃ o, H a = some o ∧ CObj K g a c o)
def Live : Option Cell → Prop
  | some .dead => False
  | some _ => True
  | none => False
theorem CObj.mono {K : KR} {g g' : Gh} (e : ExtG g g') {a : Addr} {c : Cell} {o : HO} (h : CObj K g a c o) : CObj K g' a c o := by
  cases c with
  | dead => exact h.elim
  | lst ds => obtain ⟨vs, h1, h2⟩ := h; exact ⟨vs, h1, h2.mono e⟩
  | dct kvs => obtain ⟨es, h1, h2, h3⟩ := h; exact ⟨es, h1, h2, h3.mono e⟩
theorem CObj.live {K : KR} {g : Gh} {a : Addr} {c : Cell} {o : HO} (h : CObj K g a c o) : Live (some c) := by
  cases c with
  | dead => exact h.elim
  | lst _ => trivial
  | dct _ => trivial
theorem CObj.ntbl {K : KR} {g : Gh} {a : Addr} {c : Cell} {o : HO} (h : CObj K g a c o) : ∀ ps, o ≠ .tbl ps := fun ps z => by
  cases c with
  | dead => exact h.elim
  | lst ds => obtain ⟨vs, h1, _⟩ := h; rw [h1] at z; cases z
  | dct kvs => obtain ⟨es, h1, _⟩ := h; rw [h1] at z; unfold DctO at z; cases z
/-- a table of code objects -/
def TabG (g : Gh) (H : Hp) (p : NdefX.NTab) : Prop := g.G p.1 = none ∧ g.F p.1 = none ∧ ∃ ps : Array Value, H p.1 = some (.tbl ps) ∧ TriplesOk ps.toList ∧
  ∀ (pos : Pos) (cv : Value), codeAmong pos ps.toList = some cv → ∃ c, cv = .ref c ∧ g.G c = some (LamX.CodeO c (p.2 pos.line pos.col))
theorem TabG.move {g g' : Gh} {H H' : Hp} {p : NdefX.NTab} (t : TabG g H p) (s : Same g.G g'.G) (h : H' p.1 = H p.1) (h1 : g'.G p.1 = none) (h2 : g'.F p.1 = none) : TabG g' H' p := by
  obtain ⟨_, _, ps, a1, a2, a3⟩ := t
  refine ⟨h1, h2, ps, h.trans a1, a2, fun pos cv hc => ?_⟩
  obtain ⟨c, e1, e2⟩ := a3 pos cv hc
  exact ⟨c, e1, s _ _ e2⟩
theorem TabG.some {g : Gh} {H : Hp} {p : NdefX.NTab} (t : TabG g H p) : ∃ ps, H p.1 = some (.tbl ps) := let ⟨_, _, ps, a, _⟩ := t; ⟨ps, a⟩
def IsCellObj (o : Obj) : Prop := ∃ v, o.data = .cell v
/-- a cell is no dict -/
theorem cell_ne_dct {a : Addr} {o : Obj} {w : World} {es : List Ent} (h : IsCellObj o) : CellO a o ≠ DctO w a es := fun z => by
  obtain ⟨v, hv⟩ := h
  unfold CellO DctO at z
  have e : (fun h : Heap => h.get? a = some o) = DctP w a es := HO.ext.inj z
  let hp : Heap := { objs := Array.replicate (a + 1) o }
  have g : hp.get? a = some o := by
    have e1 : hp.objs[a]? = some o := by
      show (Array.replicate (a + 1) o)[a]? = some o
      rw [Array.getElem?_replicate, if_pos (Nat.lt_succ_self a)]
    unfold Heap.get?
    rw [e1]
    obtain ⟨c, d, dt, sl⟩ := o
    cases dt <;> first | rfl | cases hv
  have q : DctP w a es hp := by
    rw [← e]
    exact g
  obtain ⟨o', ds, ep, h1, _, h2, _⟩ := q
  rw [g] at h1
  cases h1
  rw [hv] at h2
  cases h2
theorem CObj.ncell {K : KR} {g : Gh} {a : Addr} {c : Cell} {u : HO} {o : Obj} (h : CObj K g a c u) (ho : IsCellObj o) : u ≠ CellO a o := fun z => by
  cases c with
  | dead => exact h.elim
  | lst ds => obtain ⟨vs, h1, _⟩ := h; rw [h1] at z; unfold CellO at z; cases z
  | dct kvs => obtain ⟨es, h1, _⟩ := h; rw [h1] at z; exact cell_ne_dct ho z.symm
/-- a made function that is handed about -/
structure FunOk (K : KR) (g : Gh) (H : Hp) (F : FRec) : Prop where
  f : g.G F.f = some (CellO F.f F.o)
  c : g.G F.c = some (LamX.CodeO F.c F.q)
  cs : ∀ b o, F.cs b = some o → H b = some (CellO b o) ∧ IsCellObj o ∧ g.G b = none ∧ g.F b = none
  caps : RDs K g F.caps F.vs
theorem FunOk.move {K : KR} {g g' : Gh} {H H' : Hp} {F : FRec} (t : FunOk K g H F) (x : ExtG g g') (h : ∀ b o, F.cs b = some o → H' b = H b ∧ g'.G b = none ∧ g'.F b = none) : FunOk K g' H' F :=
  ⟨x.G _ _ t.f, x.G _ _ t.c, fun b o hb => ⟨(h b o hb).1.trans (t.cs b o hb).1, (t.cs b o hb).2.1, (h b o hb).2⟩, t.caps.mono x⟩
structure Rep (K : KW) (g : Gh) (S : Store) (H : Hp) : Prop where
  sub : Same g.G H
  len : S.length = g.n
  cel : ∀ k c, S[k]? = some c → CellOk K g H (g.m k) c
  inj : ∀ k l, Live S[k]? → Live S[l]? → g.m k = g.m l → k = l
  frm : ∀ a o, g.F a = some o → H a = some o ∧ g.G a = none ∧ ∀ k, Live S[k]? → g.m k ≠ a
  tab : ∀ p ∈ K.T, TabG g H p
  fun_ : ∀ F ∈ K.L, FunOk K.toKR g H F
  dis : ∀ F ∈ K.L, ∀ F' ∈ K.L, F = F' ∨ ∀ b, F.cs b = none ∨ F'.cs b = none

section
variable {K : KW} {g g' : Gh} {S S' : Store} {H H' : Hp}
theorem live_lt {k : Nat} (hl : Live S[k]?) : k < S.length := by
  by_cases hk : k < S.length
  · exact hk
  · rw [List.getElem?_eq_none (by omega)] at hl; exact hl.elim
theorem Rep.liveC (R : Rep K g S H) {k : Nat} (h : Live S[k]?) : ∃ c o, S[k]? = some c ∧ g.G (g.m k) = none ∧ H (g.m k) = some o ∧ CObj K g (g.m k) c o := by
  cases e : S[k]? with
  | none => rw [e] at h; exact h.elim
  | some c =>
    rcases R.cel k _ e with z | ⟨h1, o, h2, h3⟩
    · rw [e, z] at h; exact h.elim
    · exact ⟨c, o, rfl, h1, h2, h3⟩
theorem Rep.lst (R : Rep K g S H) {k : Nat} {ds : List D} (e : S[k]? = some (.lst ds)) : g.G (g.m k) = none ∧ ∃ vs, H (g.m k) = some (.lst vs) ∧ RDs K g ds vs := by
  rcases R.cel k _ e with z | ⟨h1, o, h2, vs, h3, h4⟩
  · cases z
  · rw [h3] at h2; exact ⟨h1, vs, h2, h4⟩
theorem Rep.dct (R : Rep K g S H) {k : Nat} {kvs : List (D × D)} (e : S[k]? = some (.dct kvs)) : g.G (g.m k) = none ∧ ∃ es, H (g.m k) = some (DctO K.w (g.m k) es) ∧ KeysOk (g.m k) es ∧ RDk K g kvs es := by
  rcases R.cel k _ e with z | ⟨h1, o, h2, es, h3, h4, h5⟩
  · cases z
  · rw [h3] at h2; exact ⟨h1, es, h2, h4, h5⟩
theorem Rep.tabne (R : Rep K g S H) {k : Nat} (h : Live S[k]?) : ∀ p ∈ K.T, p.1 ≠ g.m k := fun p hp z => by
  obtain ⟨c, o, _, _, h2, h3⟩ := R.liveC h
  obtain ⟨ps, h4⟩ := (R.tab p hp).some
  rw [z, h2] at h4
  exact h3.ntbl ps (Option.some.inj h4)
theorem Rep.funne (R : Rep K g S H) {k : Nat} (h : Live S[k]?) {F : FRec} (hF : F ∈ K.L) : ∀ b o, F.cs b = some o → b ≠ g.m k := fun b o hb z => by
  obtain ⟨c, u, _, _, h2, h3⟩ := R.liveC h
  obtain ⟨q1, q2, _⟩ := (R.fun_ F hF).cs b o hb
  rw [z, h2] at q1
  exact h3.ncell q2 (Option.some.inj q1)
theorem Rep.funp (R : Rep K g S H) {p : Addr} (hp : H p = none) {F : FRec} (hF : F ∈ K.L) : ∀ b o, F.cs b = some o → b ≠ p := fun b o hb z => by
  have := ((R.fun_ F hF).cs b o hb).1
  rw [z, hp] at this; cases this
theorem Rep.funF (R : Rep K g S H) {p : Addr} {u : HO} (hp : g.F p = some u) {F : FRec} (hF : F ∈ K.L) : ∀ b o, F.cs b = some o → b ≠ p := fun b o hb z => by
  have := ((R.fun_ F hF).cs b o hb).2.2.2
  rw [z, hp] at this; cases this
/-- a new object that never changes -/
def Gh.add (g : Gh) (p : Addr) (o : HO) : Gh := { g with G := upd g.G p o }
theorem Rep.newG (R : Rep K g S H) {p : Addr} (hp : H p = none) : g.G p = none := by
  cases e : g.G p with
  | none => rfl
  | some o => rw [R.sub p o e] at hp; cases hp
theorem Rep.tabp (R : Rep K g S H) {p : Addr} (hp : H p = none) : ∀ q ∈ K.T, q.1 ≠ p := fun q hq z => by
  obtain ⟨ps, h⟩ := (R.tab q hq).some
  rw [z, hp] at h; cases h
theorem Gh.add_ext {p : Addr} {o : HO} (h : g.G p = none) : Ext g (g.add p o) :=
  ⟨⟨fun b x e => by
    show upd g.G p o b = some x
    rw [upd_ne (ne_of_none e h)]; exact e, Nat.le_refl _, fun _ _ => rfl⟩, rfl⟩
theorem Rep.add (R : Rep K g S H) {p : Addr} {o : HO} (hp : H p = none) : Rep K (g.add p o) S (upd H p o) := by
  have x := Gh.add_ext (g := g) (o := o) (R.newG hp)
  refine ⟨fun b u e => ?_, R.len, fun k c e => ?_, R.inj, fun a u e => ?_, fun q hq => ?_, fun F hF => ?_, R.dis⟩
  · by_cases hb : b = p
    · subst hb
      have e' : upd g.G b o b = some u := e
      rw [upd_same] at e' ⊢
      exact e'
    · have e' : upd g.G p o b = some u := e
      rw [upd_ne hb] at e' ⊢
      exact R.sub b u e'
  · rcases R.cel k _ e with z | ⟨h1, o', h2, h3⟩
    · exact .inl z
    · have ne : g.m k ≠ p := ne_of_none h2 hp
      refine .inr ⟨?_, o', ?_, h3.mono x.toExtG⟩
      · show upd g.G p o (g.m k) = none
        rw [upd_ne ne]; exact h1
      · show upd H p o (g.m k) = _
        rw [upd_ne ne]; exact h2
  · obtain ⟨h1, h2, h3⟩ := R.frm a u e
    have ne : a ≠ p := ne_of_none h1 hp
    refine ⟨?_, ?_, h3⟩
    · rw [upd_ne ne]; exact h1
    · show upd g.G p o a = none
      rw [upd_ne ne]; exact h2
  · have ne := R.tabp hp q hq
    exact (R.tab q hq).move x.G (upd_ne ne) ((upd_ne ne).trans (R.tab q hq).1) (R.tab q hq).2.1
  · refine (R.fun_ F hF).move x.toExtG fun b u hb => ?_
    have ne := R.funp hp hF b u hb
    obtain ⟨_, _, q3, q4⟩ := (R.fun_ F hF).cs b u hb
    exact ⟨upd_ne ne, (upd_ne ne).trans q3, q4⟩
/-- a new cell -/
def Gh.cell (g : Gh) (p : Addr) : Gh := { g with m := fun i => if i = g.n then p else g.m i, n := g.n + 1 }
theorem Gh.cell_ext {p : Addr} : Ext g (g.cell p) :=
  ⟨⟨Same.refl _, Nat.le_succ _, fun k h => by
    show (if k = g.n then p else g.m k) = g.m k
    rw [if_neg (Nat.ne_of_lt h)]⟩, rfl⟩
theorem Rep.cellC (R : Rep K g S H) {p : Addr} {c : Cell} {o : HO} (hp : H p = none) (h : CObj K g p c o) : Rep K (g.cell p) (S ++ [c]) (upd H p o) := by
  have x := Gh.cell_ext (g := g) (p := p)
  have mlt : ∀ k, k < g.n → (g.cell p).m k = g.m k := fun k hk => x.m k hk
  have mn : (g.cell p).m g.n = p := if_pos rfl
  have look : ∀ k, (S ++ [c])[k]? = if k < g.n then S[k]? else if k = g.n then some c else none := fun k => by
    rw [← R.len]
    by_cases hk : k < S.length
    · rw [if_pos hk, List.getElem?_append_left hk]
    · rw [if_neg hk, List.getElem?_append_right (by omega)]
      by_cases h2 : k = S.length
      · subst h2; simp
      · rw [if_neg h2, List.getElem?_eq_none (by simp; omega)]
  have mlive : ∀ k, k < g.n → Live S[k]? → g.m k ≠ p := fun k _ hl => by
    obtain ⟨_, _, _, _, h2, _⟩ := R.liveC hl
    exact ne_of_none h2 hp
  have ltn : ∀ k, Live S[k]? → k < g.n := fun k hl => by
    rw [← R.len]
    exact live_lt hl
  refine ⟨fun b u e => ?_, ?_, fun k c' e => ?_, fun k l hk hl e => ?_, fun a u e => ?_, fun q hq => ?_, fun F hF => ?_, R.dis⟩
  · have e' : g.G b = some u := e
    have q := R.sub b u e'
    rw [upd_ne (ne_of_none q hp)]; exact q
  · show (S ++ [c]).length = g.n + 1
    rw [List.length_append, R.len]; rfl
  · rw [look] at e
    by_cases hk : k < g.n
    · rw [if_pos hk] at e
      rcases R.cel k _ e with z | ⟨h1, o', h2, h3⟩
      · exact .inl z
      · rw [mlt k hk]
        refine .inr ⟨h1, o', ?_, h3.mono x.toExtG⟩
        rw [upd_ne (ne_of_none h2 hp)]; exact h2
    · rw [if_neg hk] at e
      by_cases h2 : k = g.n
      · rw [if_pos h2] at e
        cases e
        subst h2
        rw [mn]
        exact .inr ⟨R.newG hp, o, upd_same, h.mono x.toExtG⟩
      · rw [if_neg h2] at e; cases e
  · rw [look] at hk hl
    by_cases h1 : k < g.n
    · rw [if_pos h1] at hk
      by_cases h2 : l < g.n
      · rw [if_pos h2] at hl
        rw [mlt k h1, mlt l h2] at e
        exact R.inj k l hk hl e
      · rw [if_neg h2] at hl
        by_cases h3 : l = g.n
        · subst h3
          rw [mlt k h1, mn] at e
          exact absurd e (mlive k h1 hk)
        · rw [if_neg h3] at hl; exact hl.elim
    · rw [if_neg h1] at hk
      by_cases h4 : k = g.n
      · subst h4
        by_cases h2 : l < g.n
        · rw [if_pos h2] at hl
          rw [mlt l h2, mn] at e
          exact absurd e.symm (mlive l h2 hl)
        · rw [if_neg h2] at hl
          by_cases h3 : l = g.n
          · exact h3.symm
          · rw [if_neg h3] at hl; exact hl.elim
      · rw [if_neg h4] at hk; exact hk.elim
  · obtain ⟨h1, h2, h3⟩ := R.frm a u e
    refine ⟨?_, h2, fun k hk => ?_⟩
    · rw [upd_ne (ne_of_none h1 hp)]; exact h1
    · rw [look] at hk
      by_cases q1 : k < g.n
      · rw [if_pos q1] at hk
        rw [mlt k q1]
        exact h3 k hk
      · rw [if_neg q1] at hk
        by_cases q2 : k = g.n
        · subst q2
          rw [mn]
          exact fun z => by rw [z, h1] at hp; cases hp
        · rw [if_neg q2] at hk; exact hk.elim
  · have ne := R.tabp hp q hq
    exact (R.tab q hq).move (Same.refl _) (upd_ne ne) (R.tab q hq).1 (R.tab q hq).2.1
  · refine (R.fun_ F hF).move x.toExtG fun b u hb => ?_
    have ne := R.funp hp hF b u hb
    obtain ⟨_, _, q3, q4⟩ := (R.fun_ F hF).cs b u hb
    exact ⟨upd_ne ne, q3, q4⟩
theorem Rep.cell (R : Rep K g S H) {p : Addr} {ds : List D} {vs : List V} (hp : H p = none) (h : RDs K g ds vs) : Rep K (g.cell p) (S ++ [.lst ds]) (upd H p (.lst vs)) := R.cellC hp ⟨vs, rfl, h⟩
/-- a cell is stored into -/
theorem Rep.storeC (R : Rep K g S H) {k : Nat} {c : Cell} {o : HO} (hl : Live S[k]?) (h : CObj K g (g.m k) c o) : Rep K g (S.set k c) (upd H (g.m k) o) := by
  have hk := live_lt hl
  obtain ⟨_, _, _, hG, hH, _⟩ := R.liveC hl
  have look : ∀ l, l ≠ k → (S.set k c)[l]? = S[l]? := fun l h => List.getElem?_set_ne (Ne.symm h)
  have lk : (S.set k c)[k]? = some c := List.getElem?_set_self hk
  have lv : ∀ l, Live (S.set k c)[l]? → Live S[l]? := fun l q => by
    by_cases e : l = k
    · subst e; exact hl
    · rw [look l e] at q; exact q
  refine ⟨fun b u e => ?_, by rw [List.length_set]; exact R.len, fun l c' e => ?_, fun a b ha hb => R.inj a b (lv a ha) (lv b hb), fun a u e => ?_, fun q hq => ?_, fun F hF => ?_, R.dis⟩
  · have ne : b ≠ g.m k := fun z => by rw [z, hG] at e; cases e
    rw [upd_ne ne]; exact R.sub b u e
  · by_cases q : l = k
    · subst q
      rw [lk] at e; cases e
      exact .inr ⟨hG, o, upd_same, h⟩
    · rw [look l q] at e
      rcases R.cel l _ e with z | ⟨h1, o', h2, h3⟩
      · exact .inl z
      · have ne : g.m l ≠ g.m k := fun z => q (R.inj l k (by rw [e]; exact h3.live) hl z)
        exact .inr ⟨h1, o', by rw [upd_ne ne]; exact h2, h3⟩
  · obtain ⟨h1, h2, h3⟩ := R.frm a u e
    exact ⟨by rw [upd_ne (Ne.symm (h3 k hl))]; exact h1, h2, fun l q => h3 l (lv l q)⟩
  · exact (R.tab q hq).move (Same.refl _) (upd_ne (R.tabne hl q hq)) (R.tab q hq).1 (R.tab q hq).2.1
  · refine (R.fun_ F hF).move (ExtG.refl g) fun b u hb => ?_
    obtain ⟨_, _, q3, q4⟩ := (R.fun_ F hF).cs b u hb
    exact ⟨upd_ne (R.funne hl hF b u hb), q3, q4⟩
theorem Rep.store (R : Rep K g S H) {k : Nat} {ds : List D} {vs : List V} (hl : Live S[k]?) (h : RDs K g ds vs) : Rep K g (S.set k (.lst ds)) (upd H (g.m k) (.lst vs)) := R.storeC hl ⟨vs, rfl, h⟩
/-- a cell is frozen: no more stores -/
theorem Rep.freezeC (R : Rep K g S H) {k : Nat} {c : Cell} {o : HO} (e0 : S[k]? = some c) (hH : H (g.m k) = some o) (hC : CObj K g (g.m k) c o) : Ext g (g.add (g.m k) o) ∧ Rep K (g.add (g.m k) o) (S.set k .dead) H := by
  have hl : Live S[k]? := by rw [e0]; exact hC.live
  have hk := live_lt hl
  obtain ⟨_, _, _, h1, _, _⟩ := R.liveC hl
  have x : Ext g (g.add (g.m k) o) := Gh.add_ext h1
  have look : ∀ l, l ≠ k → (S.set k .dead)[l]? = S[l]? := fun l h => List.getElem?_set_ne (Ne.symm h)
  have lk : (S.set k .dead)[k]? = some .dead := List.getElem?_set_self hk
  have nk : ∀ l, Live (S.set k .dead)[l]? → l ≠ k := fun l q z => by subst z; rw [lk] at q; exact q
  have lv : ∀ l, Live (S.set k .dead)[l]? → Live S[l]? := fun l q => by rw [look l (nk l q)] at q; exact q
  refine ⟨x, ⟨fun b u e => ?_, by rw [List.length_set]; exact R.len, fun l c' e => ?_, fun a b ha hb => R.inj a b (lv a ha) (lv b hb), fun a u e => ?_, fun q hq => ?_, fun F hF => ?_, R.dis⟩⟩
  · have e' : upd g.G (g.m k) o b = some u := e
    by_cases hb : b = g.m k
    · subst hb
      rw [upd_same] at e'
      rw [← e']; exact hH
    · rw [upd_ne hb] at e'; exact R.sub b u e'
  · by_cases q : l = k
    · subst q
      rw [lk] at e; cases e
      exact .inl rfl
    · rw [look l q] at e
      rcases R.cel l _ e with z | ⟨q1, o', q2, q3⟩
      · exact .inl z
      · have ne : g.m l ≠ g.m k := fun z => q (R.inj l k (by rw [e]; exact q3.live) hl z)
        refine .inr ⟨?_, o', q2, q3.mono x.toExtG⟩
        show upd g.G (g.m k) o (g.m l) = none
        rw [upd_ne ne]; exact q1
  · obtain ⟨q1, q2, q3⟩ := R.frm a u e
    refine ⟨q1, ?_, fun l q => q3 l (lv l q)⟩
    show upd g.G (g.m k) o a = none
    rw [upd_ne (Ne.symm (q3 k hl))]; exact q2
  · exact (R.tab q hq).move x.G rfl ((upd_ne (R.tabne hl q hq)).trans (R.tab q hq).1) (R.tab q hq).2.1
  · refine (R.fun_ F hF).move x.toExtG fun b u hb => ?_
    obtain ⟨_, _, q3, q4⟩ := (R.fun_ F hF).cs b u hb
    exact ⟨rfl, (upd_ne (R.funne hl hF b u hb)).trans q3, q4⟩
theorem Rep.freeze (R : Rep K g S H) {k : Nat} {ds : List D} (e0 : S[k]? = some (.lst ds)) : ∃ g', Ext g g' ∧ Rep K g' (S.set k .dead) H ∧ RD K g' (.lst ds) (.ref (g.m k)) := by
  obtain ⟨h1, vs, h2, h3⟩ := R.lst e0
  obtain ⟨x, R'⟩ := R.freezeC e0 h2 ⟨vs, rfl, h3⟩
  exact ⟨_, x, R', .lst upd_same (h3.mono x.toExtG)⟩
theorem Rep.freezeD (R : Rep K g S H) {k : Nat} {ds : List (D × D)} (e0 : S[k]? = some (.dct ds)) : ∃ g', Ext g g' ∧ Rep K g' (S.set k .dead) H ∧ RD K g' (.dct ds) (.ref (g.m k)) := by
  obtain ⟨h1, es, h2, h3, h4⟩ := R.dct e0
  obtain ⟨x, R'⟩ := R.freezeC e0 h2 ⟨es, rfl, h3, h4⟩
  exact ⟨_, x, R', .dct upd_same h3 (h4.mono x.toExtG)⟩
/-- something that grows is set aside -/
def Gh.aside (g : Gh) (p : Addr) (o : HO) : Gh := { g with F := upd g.F p o }
theorem Rep.aside (R : Rep K g S H) {p : Addr} {o : HO} (hp : H p = none) : Rep K (g.aside p o) S (upd H p o) := by
  have x : ExtG g (g.aside p o) := ⟨Same.refl _, Nat.le_refl _, fun _ _ => rfl⟩
  refine ⟨fun b u e => ?_, R.len, fun k c e => ?_, R.inj, fun a u e => ?_, fun q hq => ?_, fun F hF => ?_, R.dis⟩
  · have q := R.sub b u e
    rw [upd_ne (ne_of_none q hp)]; exact q
  · rcases R.cel k _ e with z | ⟨h1, o', h2, h3⟩
    · exact .inl z
    · exact .inr ⟨h1, o', by show upd H p o (g.m k) = _; rw [upd_ne (ne_of_none h2 hp)]; exact h2, h3.mono x⟩
  · have e' : upd g.F p o a = some u := e
    by_cases ha : a = p
    · subst ha
      rw [upd_same] at e' ⊢
      refine ⟨e', R.newG hp, fun k hk z => ?_⟩
      obtain ⟨_, _, _, _, h2, _⟩ := R.liveC hk
      have z' : g.m k = a := z
      rw [z', hp] at h2; cases h2
    · rw [upd_ne ha] at e' ⊢
      exact R.frm a u e'
  · have ne := R.tabp hp q hq
    exact (R.tab q hq).move (Same.refl _) (upd_ne ne) (R.tab q hq).1 ((upd_ne ne).trans (R.tab q hq).2.1)
  · refine (R.fun_ F hF).move x fun b u hb => ?_
    have ne := R.funp hp hF b u hb
    obtain ⟨_, _, q3, q4⟩ := (R.fun_ F hF).cs b u hb
    exact ⟨upd_ne ne, q3, (upd_ne ne).trans q4⟩
theorem Rep.tabF (R : Rep K g S H) {p : Addr} {o : HO} (hp : g.F p = some o) : ∀ q ∈ K.T, q.1 ≠ p := fun q hq z => by
  have := (R.tab q hq).2.1
  rw [z, hp] at this; cases this
/-- what is set aside has changed -/
theorem Rep.again (R : Rep K g S H) {p : Addr} {o o' : HO} (hp : g.F p = some o) : Rep K (g.aside p o') S (upd H p o') := by
  have x : ExtG g (g.aside p o') := ⟨Same.refl _, Nat.le_refl _, fun _ _ => rfl⟩
  obtain ⟨f1, f2, f3⟩ := R.frm p o hp
  refine ⟨fun b u e => ?_, R.len, fun k c e => ?_, R.inj, fun a u e => ?_, fun q hq => ?_, fun F hF => ?_, R.dis⟩
  · have ne : b ≠ p := fun z => by
      have e' : g.G b = some u := e
      rw [z, f2] at e'; cases e'
    rw [upd_ne ne]; exact R.sub b u e
  · rcases R.cel k _ e with z | ⟨h1, u, h2, h3⟩
    · exact .inl z
    · exact .inr ⟨h1, u, by show upd H p o' (g.m k) = _; rw [upd_ne (f3 k (by rw [e]; exact h3.live))]; exact h2, h3.mono x⟩
  · have e' : upd g.F p o' a = some u := e
    by_cases ha : a = p
    · subst ha
      rw [upd_same] at e' ⊢
      exact ⟨e', f2, f3⟩
    · rw [upd_ne ha] at e' ⊢
      exact R.frm a u e'
  · have ne := R.tabF hp q hq
    exact (R.tab q hq).move (Same.refl _) (upd_ne ne) (R.tab q hq).1 ((upd_ne ne).trans (R.tab q hq).2.1)
  · refine (R.fun_ F hF).move x fun b u hb => ?_
    have ne := R.funF hp hF b u hb
    obtain ⟨_, _, q3, q4⟩ := (R.fun_ F hF).cs b u hb
    exact ⟨upd_ne ne, q3, (upd_ne ne).trans q4⟩
/-- what was set aside is frozen -/
theorem Rep.settle (R : Rep K g S H) {p : Addr} {o : HO} {F : Hp} (hp : g.F p = some o) (hF : ∀ a u, F a = some u → g.F a = some u ∧ a ≠ p) : Rep K { g with G := upd g.G p o, F := F } S H ∧ ExtG g { g with G := upd g.G p o, F := F } := by
  obtain ⟨f1, f2, f3⟩ := R.frm p o hp
  have x : ExtG g { g with G := upd g.G p o, F := F } := ⟨(Gh.add_ext (g := g) (o := o) f2).G, Nat.le_refl _, fun _ _ => rfl⟩
  refine ⟨⟨fun b u e => ?_, R.len, fun k c e => ?_, R.inj, fun a u e => ?_, fun q hq => ?_, fun F' hF' => ?_, R.dis⟩, x⟩
  · have e' : upd g.G p o b = some u := e
    by_cases hb : b = p
    · subst hb
      rw [upd_same] at e'
      rw [← e']; exact f1
    · rw [upd_ne hb] at e'; exact R.sub b u e'
  · rcases R.cel k _ e with z | ⟨h1, u, h2, h3⟩
    · exact .inl z
    · refine .inr ⟨?_, u, h2, h3.mono x⟩
      show upd g.G p o (g.m k) = none
      rw [upd_ne (f3 k (by rw [e]; exact h3.live))]; exact h1
  · obtain ⟨q1, q2⟩ := hF a u e
    obtain ⟨h1, h2, h3⟩ := R.frm a u q1
    refine ⟨h1, ?_, h3⟩
    show upd g.G p o a = none
    rw [upd_ne q2]; exact h2
  · refine (R.tab q hq).move x.G rfl ((upd_ne (R.tabF hp q hq)).trans (R.tab q hq).1) ?_
    cases e : F q.1 with
    | none => exact e
    | some u =>
      have := (hF _ _ e).1
      rw [(R.tab q hq).2.1] at this; cases this
  · refine (R.fun_ F' hF').move x fun b u hb => ?_
    have ne := R.funF hp hF' b u hb
    obtain ⟨_, _, q3, q4⟩ := (R.fun_ F' hF').cs b u hb
    refine ⟨rfl, (upd_ne ne).trans q3, ?_⟩
    cases e : F b with
    | none => exact e
    | some v =>
      have := (hF _ _ e).1
      rw [q4] at this; cases this
end
end MK

namespace MK
open PySem PySem.Spec PyProof.Rows L2

/-! ### what is wanted behind -/
def RX (K : KW) (g : Gh) (e : Exn) (cls : Value) (d : Option Addr) : Prop :=
  cls = e.cls ∧ match e.fld with
    | none => True
    | some (f, x) => ∃ a v, d = some a ∧ g.G a = some (.xd [(f, v)]) ∧ RD K g x v
def pst {α : Type} (K : KW) (W : XK) (g : Gh) (o : Out α) (C : Gh → Store → Hp → α → Prop) : Prop :=
  match o with
  | .ok a S => ∀ g' H', Ext g g' → Rep K g' S H' → C g' S H' a
  | .ex e S => ∀ g' H' cls d, Ext g g' → Rep K g' S H' → RX K g' e cls d → W cls d H'
  | .no => False
section
variable {α β : Type} {K : KW} {W : XK} {g g' : Gh} {o : Out α} {C C' : Gh → Store → Hp → α → Prop}
theorem pst.ext (x : Ext g g') (h : pst K W g o C) : pst K W g' o C := by
  cases o with
  | ok a S => exact fun g'' H' y R => h g'' H' (x.trans y) R
  | ex e S => exact fun g'' H' cls d y R q => h g'' H' cls d (x.trans y) R q
  | no => exact h
theorem pst.mp (h : pst K W g o C) (hC : ∀ g' S' H' a, Ext g g' → Rep K g' S' H' → C g' S' H' a → C' g' S' H' a) : pst K W g o C' := by
  cases o with
  | ok a S => exact fun g' H' x R => hC g' S H' a x R (h g' H' x R)
  | ex e S => exact h
  | no => exact h
theorem pst.bind {f : α → Store → Out β} {C : Gh → Store → Hp → β → Prop} (h : pst K W g (o.bind f) C) : pst K W g o (fun g' S' _ a => pst K W g' (f a S') C) := by
  cases o with
  | ok a S => exact fun g' H' x R => pst.ext x h
  | ex e S => exact h
  | no => exact h
/-- at once -/
theorem pst.here {a : α} {S : Store} {H : Hp} (h : pst K W g (.ok a S) C) (R : Rep K g S H) : C g S H a := h g H (.refl g) R
end

/-! ### slots -/
abbrev Sl := List (Option D)
structure RS (K : KW) (g : Gh) (ρ : Sl) (σ : L2.St) : Prop where
  len : ρ.length = σ.length
  at_ : ∀ (i : Nat) (d : D), ρ[i]? = some (some d) → ∃ v, σ[i]? = some (some v) ∧ RD K g d v
theorem RS.mono {K : KW} {g g' : Gh} {ρ : Sl} {σ : L2.St} (h : RS K g ρ σ) (e : ExtG g g') : RS K g' ρ σ :=
  ⟨h.len, fun i d q => let ⟨v, a, b⟩ := h.at_ i d q; ⟨v, a, b.mono e⟩⟩
theorem RS.set {K : KW} {g : Gh} {ρ : Sl} {σ : L2.St} {d : D} {v : V} (h : RS K g ρ σ) (i : Nat) (r : RD K g d v) : RS K g (ρ.set i (some d)) (σ.set i (some v)) := by
  refine ⟨by rw [List.length_set, List.length_set]; exact h.len, fun j x e => ?_⟩
  by_cases hj : i = j
  · subst hj
    by_cases hl : i < ρ.length
    · rw [List.getElem?_set_self hl] at e
      cases e
      exact ⟨v, List.getElem?_set_self (by rw [← h.len]; exact hl), r⟩
    · rw [List.getElem?_eq_none (by rw [List.length_set]; omega)] at e; cases e
  · rw [List.getElem?_set_ne hj] at e
    rw [List.getElem?_set_ne hj]
    exact h.at_ j x e
def wipeD (ρ : Sl) : List Nat → Sl
  | [] => ρ
  | v :: vs => (wipeD ρ vs).set v none
theorem wipeD_length (ρ : Sl) : ∀ vs : List Nat, (wipeD ρ vs).length = ρ.length
  | [] => rfl
  | v :: vs => by unfold wipeD; rw [List.length_set, wipeD_length ρ vs]
theorem wipeD_some {ρ : Sl} {i : Nat} {d : D} : ∀ {vs : List Nat}, (wipeD ρ vs)[i]? = some (some d) → ρ[i]? = some (some d) ∧ i ∉ vs
  | [], h => ⟨h, by simp⟩
  | v :: vs, h => by
    unfold wipeD at h
    by_cases hi : v = i
    · subst hi
      by_cases hv : v < (wipeD ρ vs).length
      · rw [List.getElem?_set_self hv] at h; cases h
      · rw [List.getElem?_eq_none (by rw [List.length_set]; omega)] at h; cases h
    · rw [List.getElem?_set_ne hi] at h
      obtain ⟨a, b⟩ := wipeD_some h
      exact ⟨a, by simp only [List.mem_cons, not_or]; exact ⟨Ne.symm hi, b⟩⟩
theorem wipe_keep {σ : L2.St} {i : Nat} : ∀ {vs : List Nat}, i ∉ vs → (wipe σ vs)[i]? = σ[i]?
  | [], _ => rfl
  | v :: vs, h => by
    unfold wipe
    rw [List.getElem?_set_ne (fun z => h (by rw [z]; exact List.mem_cons_self)), wipe_keep fun z => h (List.mem_cons_of_mem _ z)]
theorem RS.wipe {K : KW} {g : Gh} {ρ : Sl} {σ : L2.St} (h : RS K g ρ σ) (vs : List Nat) : RS K g (wipeD ρ vs) (L2.wipe σ vs) := by
  refine ⟨by rw [wipeD_length, wipe_length]; exact h.len, fun i d e => ?_⟩
  obtain ⟨a, b⟩ := wipeD_some e
  rw [wipe_keep b]
  exact h.at_ i d a
theorem wipe_set {σ : L2.St} {i : Nat} {x : Option V} : ∀ {vs : List Nat}, i ∈ vs → L2.wipe (σ.set i x) vs = L2.wipe σ vs
  | v :: vs, h => by
    unfold L2.wipe
    by_cases e : i = v
    · subst e
      by_cases h2 : i ∈ vs
      · rw [wipe_set h2]
      · have : ∀ (ws : List Nat), i ∉ ws → L2.wipe (σ.set i x) ws = (L2.wipe σ ws).set i x := by
          intro ws
          induction ws with
          | nil => intro _; rfl
          | cons w ws ih =>
            intro hw
            unfold L2.wipe
            rw [ih fun z => hw (List.mem_cons_of_mem _ z), List.set_comm _ _ (fun z => hw (by rw [z]; exact List.mem_cons_self))]
        rw [this vs h2, List.set_set]
    · rcases List.mem_cons.mp h with z | z
      · exact absurd z e
      · rw [wipe_set z]

/-! ### the judgements -/
abbrev F (α : Type) := Sl → Store → Out α
abbrev FE := F D
inductive Fl where
  | nx (ρ : Sl) | rt (d : D) | bk (ρ : Sl) | ct (ρ : Sl)
abbrev FS := F Fl
abbrev FG := D → F Sl

/-- from some ghost, store and slots that stand for the state -/
def rd {α : Type} (K : KW) (W : XK) (f : F α) (σ : L2.St) (H : Hp) (C : Gh → Store → Hp → α → Prop) : Prop := ∃ g S ρ, Rep K g S H ∧ RS K g ρ σ ∧ pst K W g (f ρ S) C
def rdE (K : KW) (W : XK) (f : FE) : TE := fun σ H Q => rd K W f σ H fun g _ H' d => ∀ v, RD K g d v → Q v H'
def rdT (K : KW) (W : XK) (f : F Bool) : TT := fun σ H Q => rd K W f σ H fun _ _ H' b => Q b H'
def rdA (K : KW) (W : XK) (f : F (List D)) : TA := fun σ H Q => rd K W f σ H fun g _ H' ds => ∀ vs, RDs K g ds vs → Q vs H'
def Fl.post (K : KW) (D' : Ends) (g : Gh) (H' : Hp) : Fl → Prop
  | .nx ρ => ∀ σ', RS K g ρ σ' → D'.nx σ' H'
  | .rt d => ∀ v, RD K g d v → D'.rt v H'
  | .bk ρ => ∀ σ', RS K g ρ σ' → D'.bk σ' H'
  | .ct ρ => ∀ σ', RS K g ρ σ' → D'.ct σ' H'
def rdS (K : KW) (W : XK) (f : FS) : TS := fun D' σ H => rd K W f σ H fun g _ H' fl => fl.post K D' g H'
def rdG (K : KW) (W : XK) (ws : List Nat) (f : FG) : TG := fun v σ H Q => ∃ g S ρ d, Rep K g S H ∧ RS K g ρ σ ∧ RD K g d v ∧ pst K W g (f d ρ S) fun g' _ H' ρ' => ∀ σ', RS K g' ρ' σ' → wipe σ' ws = wipe σ ws → Q σ' H'
/-- an iterator walks these items -/
def ItOk (K : KW) (g : Gh) (ds : List D) (J : It) : Prop := ∀ g' S' H', ExtG g g' → Rep K g' S' H' →
  J.stop ds.length H' ∧ ∀ i d, ds[i]? = some d → J.go i H' ∧ ∀ x H'', J.yld i H' x H'' → ∃ g'', Ext g' g'' ∧ Rep K g'' S' H'' ∧ RD K g'' d x
def rdI (K : KW) (W : XK) (f : F (List D)) : TI := fun σ H R => rd K W f σ H fun g _ H' ds => ∀ J, ItOk K g ds J → R J H'

theorem PE.imp {X : Cx} {e : Expr} {t t' : TE} (h : PE X e t) (i : ∀ σ H Q, t' σ H Q → t σ H Q) : PE X e t' := ⟨fun pins s σ H Q I q => h.run pins s σ H Q I (i σ H Q q)⟩
theorem PT.imp {X : Cx} {e : Expr} {t t' : TT} (h : PT X e t) (i : ∀ σ H Q, t' σ H Q → t σ H Q) : PT X e t' := ⟨fun pins s σ H Q I q => h.run pins s σ H Q I (i σ H Q q)⟩
theorem PW.imp {X : Cx} {e : Expr} {t t' : TT} (h : PW X e t) (i : ∀ σ H Q, t' σ H Q → t σ H Q) : PW X e t' := ⟨fun wh pins s σ H Q I q => h.run wh pins s σ H Q I (i σ H Q q)⟩
theorem PA.imp {X : Cx} {e : List Expr} {t t' : TA} (h : PA X e t) (i : ∀ σ H Q, t' σ H Q → t σ H Q) : PA X e t' := ⟨fun pos pins s σ H Q I q => h.run pos pins s σ H Q I (i σ H Q q)⟩
theorem PS.imp {X : Cx} {e : Stmt} {t t' : TS} (h : PS X e t) (i : ∀ D' σ H, t' D' σ H → t D' σ H) : PS X e t' := ⟨fun pins s σ H D' I q => h.run pins s σ H D' I (i D' σ H q)⟩
theorem PSs.imp {X : Cx} {e : List Stmt} {t t' : TS} (h : PSs X e t) (i : ∀ D' σ H, t' D' σ H → t D' σ H) : PSs X e t' := ⟨fun pins s σ H D' I q => h.run pins s σ H D' I (i D' σ H q)⟩
theorem PG.imp {X : Cx} {e : Expr} {t t' : TG} (h : PG X e t) (i : ∀ v σ H Q, t' v σ H Q → t v σ H Q) : PG X e t' := ⟨fun pins s σ H v u Q I r q => h.run pins s σ H v u Q I r (i v σ H Q q)⟩
theorem PI.imp {X : Cx} {tg e : Expr} {t t' : TI} (h : PI X tg e t) (i : ∀ σ H R, t' σ H R → t σ H R) : PI X tg e t' := ⟨fun pins s σ H R I q => h.run pins s σ H R I (i σ H R q)⟩
theorem PTs.imp {X : Cx} {e : List Expr} {t t' : TT} (h : PTs X e t) (i : ∀ σ H Q, t' σ H Q → t σ H Q) : PTs X e t' := ⟨fun pins s σ H Q I q => h.run pins s σ H Q I (i σ H Q q)⟩

/-- what is wanted where it raises; the tables -/
structure WT where
  E : XK
  T : List NdefX.NTab
  L : List FRec
instance : Coe WT XK := ⟨WT.E⟩
abbrev kwX (X : Cx) (W : WT) : KW := ⟨⟨X.K, X.w⟩, W.T, W.L⟩
abbrev ME (X : Cx) (W : WT) (e : Expr) (f : FE) : Prop := PE X e (rdE (kwX X W) W.E f)
abbrev MT (X : Cx) (W : WT) (e : Expr) (f : F Bool) : Prop := PT X e (rdT (kwX X W) W.E f)
abbrev MW (X : Cx) (W : WT) (e : Expr) (f : F Bool) : Prop := PW X e (rdT (kwX X W) W.E f)
abbrev MA (X : Cx) (W : WT) (e : List Expr) (f : F (List D)) : Prop := PA X e (rdA (kwX X W) W.E f)
abbrev MS (X : Cx) (W : WT) (e : Stmt) (f : FS) : Prop := PS X e (rdS (kwX X W) W.E f)
abbrev MSs (X : Cx) (W : WT) (e : List Stmt) (f : FS) : Prop := PSs X e (rdS (kwX X W) W.E f)
abbrev MG (X : Cx) (W : WT) (e : Expr) (ws : List Nat) (f : FG) : Prop := PG X e (rdG (kwX X W) W.E ws f)
abbrev MI (X : Cx) (W : WT) (tg e : Expr) (f : F (List D)) : Prop := PI X tg e (rdI (kwX X W) W.E f)

section
variable {X : Cx} {W : WT} {U : XK} {K : KW}
/-- one part, then the rest -/
theorem rd.then {α β : Type} {f : F α} {k : α → F β} {σ : L2.St} {H : Hp} {C : Gh → Store → Hp → β → Prop} {C' : Gh → Store → Hp → α → Prop} (h : rd K U (fun ρ S => (f ρ S).bind fun a S1 => k a ρ S1) σ H C)
    (hC : ∀ g S H' ρ a, Rep K g S H' → RS K g ρ σ → pst K U g (k a ρ S) C → C' g S H' a) : rd K U f σ H C' := by
  obtain ⟨g, S, ρ, R, rs, p⟩ := h
  exact ⟨g, S, ρ, R, rs, p.bind.mp fun g' S' H' a x R' q => hC g' S' H' ρ a R' (rs.mono x.toExtG) q⟩

/-! ### names, constants -/
def fVar (i : Nat) : FE := fun ρ S => match ρ[i]? with
  | some (some d) => .ok d S
  | _ => .no
def fC {α : Type} (d : α) : F α := fun _ S => .ok d S
theorem me_var (i : Nat) {x : Str} {pos : Pos} (hN : X.N[i]? = some x := by rfl) (hv : Vis X.env.scope x := by first | exact Or.inl rfl | exact Or.inr (Or.inl rfl) | exact Or.inr (Or.inr rfl)) (hd : (x == ("__debug__" : Str)) = false := by decide)
    (hcd : (x == ("__classdict__" : Str)) = false := by decide) : ME X W (.Name x pos) (fVar i) := PE.imp (pe_var hN hv hd hcd) fun σ H Q h => by
  obtain ⟨g, S, ρ, R, rs, p⟩ := h
  unfold fVar at p
  cases e : ρ[i]? with
  | none => rw [e] at p; exact p.elim
  | some o =>
    cases o with
    | none => rw [e] at p; exact p.elim
    | some d =>
      rw [e] at p
      obtain ⟨v, h1, h2⟩ := rs.at_ i d e
      exact ⟨v, h1, pst.here p R v h2⟩
theorem me_c {d : D} {v : V} {e : Expr} (h : PE X e (tC v)) (hd : ∀ g, RD (kwX X W) g d v) : ME X W e (fC d) := PE.imp h fun σ H Q h => by
  obtain ⟨g, S, ρ, R, rs, p⟩ := h
  exact pst.here p R v (hd g)
theorem me_int {i j pos} : ME X W (.Constant (.int i) j pos) (fC (.int i)) := me_c pe_int fun _ => .int i
theorem me_bl {b j pos} : ME X W (.Constant (.bool b) j pos) (fC (.bl b)) := me_c pe_bl fun _ => .bl b
theorem me_non {j pos} : ME X W (.Constant .none j pos) (fC .non) := me_c pe_non fun _ => .non
theorem me_str {x j pos} : ME X W (.Constant (.str x) j pos) (fC (.str x)) := me_c pe_str fun _ => .str x
theorem me_glI {x : Str} {i : Int} {t : Tok} {pos : Pos} (hg : Gl X x) (hm : X.mg x = some (.int i t)) (hd : (x == ("__debug__" : Str)) = false := by decide) : ME X W (.Name x pos) (fC (.int i)) := me_c (v := .int i) (pe_glob hg hm ⟨t, rfl⟩ hd) fun _ => .int i
theorem me_glS {x : Str} {i : Str} {t : Tok} {pos : Pos} (hg : Gl X x) (hm : X.mg x = some (.str i t)) (hd : (x == ("__debug__" : Str)) = false := by decide) : ME X W (.Name x pos) (fC (.str i)) := me_c (v := .str i) (pe_glob hg hm ⟨t, rfl⟩ hd) fun _ => .str i

/-! ### operators -/
abbrev B2 := D → D → Store → Out D
abbrev B1 := D → Store → Out D
def f2 (op : B2) (a b : FE) : FE := fun ρ S => (a ρ S).bind fun x S1 => (b ρ S1).bind fun y S2 => op x y S2
def f1 (op : B1) (a : FE) : FE := fun ρ S => (a ρ S).bind fun x S1 => op x S1
/-- a rule by values keeps a plain function -/
def Op2 (K : KW) (r : R2) (op : B2) : Prop := ∀ (W : XK) (g : Gh) (S : Store) (H : Hp) (dx dy : D) (x y : V) (Q : VK), Rep K g S H → RD K g dx x → RD K g dy y → pst K W g (op dx dy S) (fun g' _ H' d => ∀ v, RD K g' d v → Q v H') → r x y H Q
def Op1 (K : KW) (r : V → Hp → VK → Prop) (op : B1) : Prop := ∀ (W : XK) (g : Gh) (S : Store) (H : Hp) (dx : D) (x : V) (Q : VK), Rep K g S H → RD K g dx x → pst K W g (op dx S) (fun g' _ H' d => ∀ v, RD K g' d v → Q v H') → r x H Q
theorem rd2 {a b : FE} {r : R2} {op : B2} {σ : L2.St} {H : Hp} {Q : VK} (o : Op2 K r op) (h : rdE K U (f2 op a b) σ H Q) : rdE K U a σ H fun x H1 => rdE K U b σ H1 fun y H2 => r x y H2 Q := by
  refine rd.then (k := fun x ρ S1 => (b ρ S1).bind fun y S2 => op x y S2) h fun g S H' ρ d R rs p v rv => ?_
  exact ⟨g, S, ρ, R, rs, p.bind.mp fun g' S' H'' d' x R' q w rw' => o U g' S' H'' d d' v w Q R' (rv.mono x.toExtG) rw' q⟩
theorem me_op {a b : Expr} {pos : Pos} {fa fb : FE} {op : Operator} {r : R2} {o : B2} (ho : OpR X (binaryOp op) r) (hf : Op2 (kwX X W) r o) (ha : ME X W a fa) (hb : ME X W b fb) : ME X W (.BinOp a op b pos) (f2 o fa fb) :=
  PE.imp (pe_op ho ha hb) fun σ H Q h => rd2 hf h
theorem me_cmp {a b : Expr} {pos : Pos} {fa fb : FE} {op : CmpOp} {r : R2} {o : B2} (ho : OpR X (compareOp op) r) (hf : Op2 (kwX X W) r o) (ha : ME X W a fa) (hb : ME X W b fb) (hm : behindInMarks op b = false) : ME X W (.Compare a [op] [b] pos) (f2 o fa fb) :=
  PE.imp (pe_cmpR ho ha hb hm) fun σ H Q h => rd2 hf h
theorem me_un {a : Expr} {pos : Pos} {fa : FE} {op : UnaryOp} {r : V → Hp → VK → Prop} {o : B1} (ho : UnR X (unaryOp op) r) (hf : Op1 (kwX X W) r o) (ha : ME X W a fa) : ME X W (.UnaryOp op a pos) (f1 o fa) :=
  PE.imp (pe_un ho ha) fun σ H Q h => rd.then (k := fun x _ S1 => o x S1) h fun g S H' ρ d R rs p v rv => hf W g S H' d v Q R rv p
theorem me_ix {a b : Expr} {pos : Pos} {fa fb : FE} {r : R2} {o : B2} (ho : IxR X r) (hf : Op2 (kwX X W) r o) (ha : ME X W a fa) (hb : ME X W b fb) (hs : PlainIx b := by exact fun _ _ => rfl) : ME X W (.Subscript a b pos) (f2 o fa fb) :=
  PE.imp (pe_ix ho ha hb hs) fun σ H Q h => rd2 hf h

/-! ### tests -/
def dB : D → Store → Out Bool
  | .bl b, S => .ok b S
  | _, _ => .no
def fB (f : FE) : F Bool := fun ρ S => (f ρ S).bind dB
theorem RD.bl_inv {g : Gh} {b : Bool} {v : V} (h : RD K g (.bl b) v) : v = .bl b := by cases h; rfl
theorem RD.int_inv {g : Gh} {b : Int} {v : V} (h : RD K g (.int b) v) : v = .int b := by cases h; rfl
theorem RD.str_inv {g : Gh} {b : Str} {v : V} (h : RD K g (.str b) v) : v = .str b := by cases h; rfl
theorem RD.non_inv {g : Gh} {v : V} (h : RD K g .non v) : v = .non := by cases h; rfl
theorem rdB {f : FE} {σ : L2.St} {H : Hp} {Q : Bool → Hp → Prop} (h : rdT K U (fB f) σ H Q) : rdE K U f σ H fun x H1 => ∃ c, x = .bl c ∧ Q c H1 := by
  refine rd.then (k := fun (x : D) (_ : Sl) (S1 : Store) => dB x S1) h fun g S H' ρ d R rs p v rv => ?_
  cases d with
  | bl b => exact ⟨b, rv.bl_inv, pst.here p R⟩
  | _ => exact p.elim
theorem mt_cmp {a b : Expr} {pos : Pos} {fa fb : FE} {op : CmpOp} {r : R2} {o : B2} (ho : OpR X (compareOp op) r) (hf : Op2 (kwX X W) r o) (ha : ME X W a fa) (hb : ME X W b fb) (hm : behindInMarks op b = false) : MT X W (.Compare a [op] [b] pos) (fB (f2 o fa fb)) :=
  PT.imp (pt_cmpR ho ha hb hm) fun σ H Q h => rd2 (Q := fun x H1 => ∃ c, x = .bl c ∧ Q c H1) hf (rdB h)
theorem mt_val {e : Expr} {f : FE} (h : ME X W e f) (he : ∀ whole, isTrue e X.env whole = (do let v ← whole; standAt e.pos; holding [v] (truthy v)) := by intro _; rfl) : MT X W e (fB f) :=
  PT.imp (pt_val h he) fun σ H Q h => rdB h
def fNot (f : F Bool) : F Bool := fun ρ S => (f ρ S).bind fun b S1 => .ok (!b) S1
def fAnd (f k : F Bool) : F Bool := fun ρ S => (f ρ S).bind fun b S1 => if b = true then k ρ S1 else .ok false S1
def fOr (f k : F Bool) : F Bool := fun ρ S => (f ρ S).bind fun b S1 => if b = true then .ok true S1 else k ρ S1
theorem mt_not {a : Expr} {pos : Pos} {f : F Bool} (h : MT X W a f) : MT X W (.UnaryOp .Not a pos) (fNot f) :=
  PT.imp (pt_not h) fun σ H Q h => rd.then (k := fun (b : Bool) (_ : Sl) (S1 : Store) => Out.ok (!b) S1) h fun g S H' ρ d R rs p => pst.here p R
theorem mw_and1 {a : Expr} {pos : Pos} {f : F Bool} (h : MT X W a f) : MW X W (.BoolOp .And [a] pos) f := pw_and1 h
theorem mw_or1 {a : Expr} {pos : Pos} {f : F Bool} (h : MT X W a f) : MW X W (.BoolOp .Or [a] pos) f := pw_or1 h
theorem mw_and {a b : Expr} {rest : List Expr} {pos : Pos} {f k : F Bool} (h : MT X W a f) (hb : MW X W (.BoolOp .And (b :: rest) pos) k) : MW X W (.BoolOp .And (a :: b :: rest) pos) (fAnd f k) :=
  PW.imp (pw_and h hb) fun σ H Q h => rd.then (k := fun (b : Bool) ρ S1 => if b = true then k ρ S1 else Out.ok false S1) h fun g S H' ρ d R rs p => by
    cases d with
    | true => exact ⟨g, S, ρ, R, rs, p⟩
    | false => exact pst.here p R
theorem mw_or {a b : Expr} {rest : List Expr} {pos : Pos} {f k : F Bool} (h : MT X W a f) (hb : MW X W (.BoolOp .Or (b :: rest) pos) k) : MW X W (.BoolOp .Or (a :: b :: rest) pos) (fOr f k) :=
  PW.imp (pw_or h hb) fun σ H Q h => rd.then (k := fun (b : Bool) ρ S1 => if b = true then Out.ok true S1 else k ρ S1) h fun g S H' ρ d R rs p => by
    cases d with
    | false => exact ⟨g, S, ρ, R, rs, p⟩
    | true => exact pst.here p R
theorem mt_w {e : Expr} {f : F Bool} (h : MW X W e f) : MT X W e f := PW.pt h
/-- and, or as values (all but the last bools) -/
def fAndV (a b : FE) : FE := fun ρ S => (a ρ S).bind fun x S1 => match x with
  | .bl c => if c = true then b ρ S1 else .ok (.bl false) S1
  | _ => .no
def fOrV (a b : FE) : FE := fun ρ S => (a ρ S).bind fun x S1 => match x with
  | .bl c => if c = true then .ok (.bl true) S1 else b ρ S1
  | _ => .no
def fNotV (a : FE) : FE := fun ρ S => (a ρ S).bind fun x S1 => match x with
  | .bl c => .ok (.bl (!c)) S1
  | _ => .no
theorem me_one {op : BoolOp} {a : Expr} {pos : Pos} {f : FE} (h : ME X W a f) : ME X W (.BoolOp op [a] pos) f := pe_one h
theorem me_and {a b : Expr} {rest : List Expr} {pos : Pos} {f k : FE} (h : ME X W a f) (hb : ME X W (.BoolOp .And (b :: rest) pos) k) : ME X W (.BoolOp .And (a :: b :: rest) pos) (fAndV f k) :=
  PE.imp (pe_and h hb) fun σ H Q h => rd.then (k := fun (x : D) ρ S1 => match x with | .bl c => if c = true then k ρ S1 else Out.ok (D.bl false) S1 | _ => Out.no) h fun g S H' ρ d R rs p v rv => by
    cases d with
    | bl c =>
      refine ⟨c, rv.bl_inv, ?_⟩
      cases c with
      | true => exact ⟨g, S, ρ, R, rs, p⟩
      | false => exact pst.here p R _ (.bl false)
    | _ => exact p.elim
theorem me_or {a b : Expr} {rest : List Expr} {pos : Pos} {f k : FE} (h : ME X W a f) (hb : ME X W (.BoolOp .Or (b :: rest) pos) k) : ME X W (.BoolOp .Or (a :: b :: rest) pos) (fOrV f k) :=
  PE.imp (pe_or h hb) fun σ H Q h => rd.then (k := fun (x : D) ρ S1 => match x with | .bl c => if c = true then Out.ok (D.bl true) S1 else k ρ S1 | _ => Out.no) h fun g S H' ρ d R rs p v rv => by
    cases d with
    | bl c =>
      refine ⟨c, rv.bl_inv, ?_⟩
      cases c with
      | false => exact ⟨g, S, ρ, R, rs, p⟩
      | true => exact pst.here p R _ (.bl true)
    | _ => exact p.elim
theorem me_not {a : Expr} {pos : Pos} {f : FE} (h : ME X W a f) : ME X W (.UnaryOp .Not a pos) (fNotV f) :=
  PE.imp (pe_not h) fun σ H Q h => rd.then (k := fun (x : D) (_ : Sl) (S1 : Store) => match x with | .bl c => Out.ok (D.bl (!c)) S1 | _ => Out.no) h fun g S H' ρ d R rs p v rv => by
    cases d with
    | bl c => exact ⟨c, rv.bl_inv, pst.here p R _ (.bl _)⟩
    | _ => exact p.elim
def fIf {α : Type} (c : F Bool) (a b : F α) : F α := fun ρ S => (c ρ S).bind fun t S1 => if t = true then a ρ S1 else b ρ S1
theorem me_if {c a b : Expr} {pos : Pos} {fc : F Bool} {fa fb : FE} (hc : MT X W c fc) (ha : ME X W a fa) (hb : ME X W b fb) : ME X W (.IfExp c a b pos) (fIf fc fa fb) :=
  PE.imp (pe_ifExp hc ha hb) fun σ H Q h => rd.then (k := fun t ρ S1 => if t = true then fa ρ S1 else fb ρ S1) h fun g S H' ρ d R rs p => by
    cases d with
    | true => exact ⟨g, S, ρ, R, rs, p⟩
    | false => exact ⟨g, S, ρ, R, rs, p⟩

/-! ### argument lists, displays -/
def fNil : F (List D) := fC []
def fCons (a : FE) (r : F (List D)) : F (List D) := fun ρ S => (a ρ S).bind fun x S1 => (r ρ S1).bind fun xs S2 => .ok (x :: xs) S2
theorem ma_nil : MA X W [] fNil := PA.imp pa_nil fun σ H Q h => by
  obtain ⟨g, S, ρ, R, rs, p⟩ := h
  exact pst.here p R [] .nil
theorem ma_cons {e : Expr} {es : List Expr} {f : FE} {k : F (List D)} (h : ME X W e f) (hr : MA X W es k) (hs : starEach (e :: es) X.env = (false, eval e X.env) :: starEach es X.env := by rfl) : MA X W (e :: es) (fCons f k) :=
  PA.imp (pa_cons h hr hs) fun σ H Q h => by
    refine rd.then (k := fun (x : D) ρ S1 => (k ρ S1).bind fun xs S2 => Out.ok (x :: xs) S2) h fun g S H' ρ d R rs p v rv => ?_
    exact ⟨g, S, ρ, R, rs, p.bind.mp fun g' S' H'' ds x R' q vs rvs => pst.here q R' (v :: vs) (.cons (rv.mono x.toExtG) rvs)⟩
def line : Nat := 16777216
theorem line_eq : line = sizeLine := by rw [sizeLine_eq]; rfl
def fTup (r : F (List D)) : FE := fun ρ S => (r ρ S).bind fun xs S1 => if xs.length ≤ line then .ok (.tup xs) S1 else .no
def fLst (r : F (List D)) : FE := fun ρ S => (r ρ S).bind fun xs S1 => if xs.length ≤ line then .ok (.lst xs) S1 else .no
def fNew (r : F (List D)) : FE := fun ρ S => (r ρ S).bind fun xs S1 => if xs.length ≤ line then .ok (.cell S1.length) (S1 ++ [.lst xs]) else .no
/-- a tuple's display: the object is told -/
def tTupP (t : TA) : TE := fun σ H Q => t σ H fun xs H1 => xs.length ≤ sizeLine ∧ ∀ (p : Addr) (o : PySem.Obj), o.dict = none → H1 p = none → Q (.ref p) (upd H1 p (.frz o (.tup xs)))
theorem pe_tupP {es : List Expr} {x1} {pos : Pos} {t : TA} (ha : PA X es t) : PE X (.Tuple es x1 pos) (tTupP t) := ⟨fun pins s σ H Q I w => by
  refine wpAny_Tuple_spliced (thn (ha.run pos pins s σ H _ I w) fun us s2 ⟨ys, H2, J, rv, few, go⟩ => ⟨by rw [← rv.length]; exact few, ?_⟩)
  have at_ : (s2.heap.push (tupO us)).get? s2.heap.objs.size = some (tupO us) := Heap.get?_push_size _ rfl
  have new : ObjOk X.prog X.w (upd H2 s2.heap.objs.size (.frz (tupO us) (.tup ys))) (s2.heap.push (tupO us)) s2.heap.objs.size (.frz (tupO us) (.tup ys)) := frz_ok at_ ⟨few, us, rv, ⟨_, at_, rfl, _, rfl⟩⟩
  exact ⟨.ref s2.heap.objs.size, _, J.laid (t' := s2.toks) (fun b u e => Heap.get?_push_of_some _ e) (Nat.le_refl _) new, rfl, go _ _ rfl (J.hok.fresh (Nat.le_refl _))⟩⟩
theorem me_tup {es : List Expr} {x1} {pos : Pos} {f : F (List D)} (h : MA X W es f) : ME X W (.Tuple es x1 pos) (fTup f) :=
  PE.imp (pe_tupP h) fun σ H Q h => rd.then (k := fun (xs : List D) (_ : Sl) (S1 : Store) => if xs.length ≤ line then Out.ok (D.tup xs) S1 else Out.no) h fun g S H' ρ ds R rs p vs rvs => by
    by_cases hl : ds.length ≤ line
    · rw [if_pos hl] at p
      refine ⟨by rw [rvs.length, ← line_eq]; exact hl, fun a o ho ha => ?_⟩
      exact p _ _ (Gh.add_ext (R.newG ha)) (R.add ha) _ (.tup (.new ho) (rvs.mono (Gh.add_ext (R.newG ha)).toExtG))
    · rw [if_neg hl] at p; exact p.elim
theorem me_lst {es : List Expr} {pos : Pos} {f : F (List D)} (h : MA X W es f) : ME X W (.List es pos) (fLst f) :=
  PE.imp (pe_lst h) fun σ H Q h => rd.then (k := fun (xs : List D) (_ : Sl) (S1 : Store) => if xs.length ≤ line then Out.ok (D.lst xs) S1 else Out.no) h fun g S H' ρ ds R rs p vs rvs => by
    by_cases hl : ds.length ≤ line
    · rw [if_pos hl] at p
      refine ⟨by rw [rvs.length, ← line_eq]; exact hl, fun a ha => ?_⟩
      exact p _ _ (Gh.add_ext (R.newG ha)) (R.add ha) _ (.lst upd_same (rvs.mono (Gh.add_ext (R.newG ha)).toExtG))
    · rw [if_neg hl] at p; exact p.elim
theorem me_new {es : List Expr} {pos : Pos} {f : F (List D)} (h : MA X W es f) : ME X W (.List es pos) (fNew f) :=
  PE.imp (pe_lst h) fun σ H Q h => rd.then (k := fun (xs : List D) (_ : Sl) (S1 : Store) => if xs.length ≤ line then Out.ok (D.cell S1.length) (S1 ++ [Cell.lst xs]) else Out.no) h fun g S H' ρ ds R rs p vs rvs => by
    by_cases hl : ds.length ≤ line
    · rw [if_pos hl] at p
      refine ⟨by rw [rvs.length, ← line_eq]; exact hl, fun a ha => ?_⟩
      refine p _ _ Gh.cell_ext (R.cell ha rvs) _ (.cell (k := S.length) ?_ ?_)
      · show S.length < g.n + 1
        rw [R.len]; exact Nat.lt_succ_self _
      · show (if S.length = g.n then a else g.m S.length) = a
        rw [if_pos R.len]
    · rw [if_neg hl] at p; exact p.elim

/-! ### calls -/
def spM (K : KW) (n : Nat) (f : List D → Store → Out D) : Sp := fun vs H Q E => vs.length = n ∧ ∃ g S ds, Rep K g S H ∧ RDs K g ds vs ∧ pst K E g (f ds S) fun g' _ H' d => ∀ v, RD K g' d v → Q v H'
def fCall (f : List D → Store → Out D) (a : F (List D)) : FE := fun ρ S => (a ρ S).bind f
/-- the arguments are so many -/
def Many (n : Nat) (f : F (List D)) : Prop := ∀ ρ S ds S', f ρ S = .ok ds S' → ds.length = n
theorem many_nil : Many 0 fNil := fun ρ S ds S' h => by
  cases h; rfl
theorem many_cons {n : Nat} {a : FE} {r : F (List D)} (h : Many n r) : Many (n + 1) (fCons a r) := fun ρ S ds S' e => by
  unfold fCons at e
  cases e1 : a ρ S with
  | ok x S1 =>
    rw [e1] at e
    cases e2 : r ρ S1 with
    | ok xs S2 =>
      rw [Out.bind_ok, e2, Out.bind_ok] at e
      cases e
      rw [List.length_cons, h _ _ _ _ e2]
    | ex _ _ => rw [Out.bind_ok, e2] at e; cases e
    | no => rw [Out.bind_ok, e2] at e; cases e
  | ex _ _ => rw [e1] at e; cases e
  | no => rw [e1] at e; cases e
theorem pst.same {α : Type} {K : KW} {W : XK} {g : Gh} {o : Out α} {C : Gh → Store → Hp → α → Prop} (h : pst K W g o C) : pst K W g o (fun g' S' H' a => o = .ok a S' ∧ C g' S' H' a) := by
  cases o with
  | ok a S => exact fun g' H' x R => ⟨rfl, h g' H' x R⟩
  | ex e S => exact h
  | no => exact h
/-- a built-in by its name -/
def CallM (K : KW) (r : List V → Hp → VK → Prop) (op : List D → Store → Out D) : Prop := ∀ (W : XK) (g : Gh) (S : Store) (H : Hp) (ds : List D) (vs : List V) (Q : VK), Rep K g S H → RDs K g ds vs → pst K W g (op ds S) (fun g' _ H' d => ∀ v, RD K g' d v → Q v H') → r vs H Q
theorem me_callB {x : Str} {id : String} {r : List V → Hp → VK → Prop} {op : List D → Store → Out D} {p pos : Pos} {e : Expr} {es : List Expr} {a : MK.F (List D)} (hc : CallR X (.builtin id) r) (ho : CallM (kwX X W) r op) (hg : Gl X x) (hm : X.mg x = none) (hv : bootBuiltins x = some (.builtin id)) (ha : MA X W (e :: es) a)
    (hn : x ≠ "__name__" := by decide) (hdb : (x == ("__debug__" : Str)) = false := by decide) (he : starEach (e :: es) X.env = (false, eval e X.env) :: starEach es X.env := by rfl) (hpl : (backTo pos (starEach es X.env)).any (·.1) = false := by rfl) : ME X W (.Call (.Name x p) (e :: es) [] pos) (fCall op a) :=
  PE.imp (pe_callB hc hg hm hv ha hn hdb he hpl) fun σ H Q h => rd.then (k := fun xs _ S1 => op xs S1) h fun g S H' ρ ds R rs p vs rvs => ho W g S H' ds vs Q R rvs p
theorem me_callT {x : Str} {T : String} {r : List V → Hp → VK → Prop} {op : List D → Store → Out D} {p pos : Pos} {e : Expr} {es : List Expr} {a : MK.F (List D)} (hc : CallR X (.type T) r) (ho : CallM (kwX X W) r op) (hg : Gl X x) (hm : X.mg x = none) (hv : bootBuiltins x = some (.type T)) (ha : MA X W (e :: es) a)
    (hn : x ≠ "__name__" := by decide) (hdb : (x == ("__debug__" : Str)) = false := by decide) (he : starEach (e :: es) X.env = (false, eval e X.env) :: starEach es X.env := by rfl) (hpl : (backTo pos (starEach es X.env)).any (·.1) = false := by rfl) : ME X W (.Call (.Name x p) (e :: es) [] pos) (fCall op a) :=
  PE.imp (pe_callTy hc hg hm hv ha hn hdb he hpl) fun σ H Q h => rd.then (k := fun xs _ S1 => op xs S1) h fun g S H' ρ ds R rs p vs rvs => ho W g S H' ds vs Q R rvs p
end
end MK

namespace MK
open PySem PySem.Spec PyProof.Rows L2

/-- a def's promise where no repr is under way around the call -/
structure FnG (P : Program) (w : World) (K : PySem.W.Frag) (mg : Str → Option Value) (base : Heap) (CX : CXT)
    (k : Nat) (f : Addr) (fd : FuncData) (ps : List Str) (sp : Sp) : Prop where
  len : ∀ vs H Q E, sp vs H Q E → vs.length = ps.length
  run : ∀ (A : Around) (outer : List Env) (s : Shared) (H : Hp) (args : Args) (us : List Value) (vs : List V) (Q : VK) (E : XK),
    A.guards = some [] → Room k A → Env0 P w K mg base A outer s H → BindsTo s fd args (ps.zip us) → Vals vs us → sp vs H Q E →
      codeAny (model P w) A (.call (.ref f) args) (CR CX outer P w H s Q E) s
theorem FnG.mono {P : Program} {w : World} {K : PySem.W.Frag} {mg : Str → Option Value} {base : Heap} {CX : CXT} {j k : Nat}
    {f : Addr} {fd : FuncData} {ps : List Str} {sp : Sp} (G : FnG P w K mg base CX j f fd ps sp) (h : j ≤ k) : FnG P w K mg base CX k f fd ps sp where
  len := G.len
  run := fun A outer s H args us vs Q E hq hr => G.run A outer s H args us vs Q E hq (hr.mono h)

section
variable {P : Program} {w : World} {K : PySem.W.Frag} {mg : Str → Option Value} {base : Heap}
/-- from the body -/
theorem FnG.of {CX : CXT} {x qual : Str} {st : Stmt} {f : Addr} {fd : FuncData} {N ps : List Str} {k : Nat} {sp : Sp}
    (Fu : Fun K x qual st f fd) (Sc : FnScope N ps (defScope st)) (len : ∀ vs H Q E, sp vs H Q E → vs.length = ps.length)
    (body : ∀ (cdv : Value) (A : Around) (outer : List Env) (s : Shared) (H : Hp) (vs : List V) (Q : VK) (E : XK),
      fd.code = cdv → A.guards = some [] → Room k (A.deeper (envOfC qual (defScope st) s.heap.objs.size f cdv)) → sp vs H Q E →
        ∃ t, PSs (cxOf CX P w K mg base N qual (defScope st) f cdv A outer s H E) (defBody st) t ∧ t { nx := fun _ H' => Q .non H', rt := Q } (start N vs) H) :
    FnG P w K mg base CX (k + 1) f fd ps sp := by
  obtain ⟨oc, od, kV, doc, pm, an, cdv, ct, osl, e, look, code⟩ := Fu.ex
  subst e
  refine ⟨len, ?_⟩
  intro A outer s H args us vs Q E gd room env0 binds vals want
  have many := len vs H Q E want
  have inK : K.In s.heap := env0.mod.kin.keeps fun b o q => (env0.bs b o q).1
  have free : s.heap.NoLimit := env0.mod.nolimit.keeps fun b o q => (env0.bs b o q).1
  have kinds : ∀ y ∈ ps.zip us, (defScope st).names.lookup y.1 = some .local ∨
      ((defScope st).names.lookup y.1 = some .cell ∧ ((cellsFrom (s.heap.objs.size + 1) (defScope st).names []).lookup y.1).isSome = true) := by
    rintro ⟨n, v⟩ hy
    exact (Sc.par n (List.of_mem_zip hy).1).imp id fun c => ⟨c, PySem.W.cellsFrom_some _ _ _ (.inl c)⟩
  apply codeAny_call_function room.depth (inK _ _ look) rfl Sc.co Sc.gen rfl (PySem.W.codeRec_of inK code)
  refine binds _ _ _ _ (wpAny_newFunctionEnv_cells Sc.kind kinds fun env he s1 x => ?_)
  subst he
  refine ⟨free.keeps x.toInCall.keep, codeAny_func ?_⟩
  obtain ⟨t, ht, hq⟩ := body cdv A outer s H vs Q E rfl gd (room.deeper _) want
  have J := inv_start (CX := CX) (E := E) Sc room.hd env0 many vals x
  refine wpAny_mono (ht.run [] s1 (start N vs) H _ J hq) ?_ fun _ _ z => z
  intro fl s' done
  cases fl with
  | brk => obtain ⟨_, _, _, z⟩ := done; exact z.elim
  | cont => obtain ⟨_, _, _, z⟩ := done; exact z.elim
  | next =>
    obtain ⟨σ', H', I, q⟩ := done
    exact ⟨V.non, H', I.os, I.bare, I.base, I.hok, rfl, q⟩
  | ret u =>
    obtain ⟨v, σ', H', I, r, q⟩ := done
    exact ⟨v, H', I.os, I.bare, I.base, I.hok, r, q⟩
end

section
variable {X : Cx} {W : XK}
theorem peG_call {CX : CXT} {k : Nat} {f : Addr} {fd : FuncData} {ps : List Str} {sp : Sp} {x : Str} {p pos : Pos} {e : Expr} {es : List Expr} {t : TA}
    (G : FnG X.prog X.w X.K X.mg X.base CX k f fd ps sp) (gd : X.A.guards = some []) (hr : Room k X.A) (hg : Gl X x) (hm : X.mg x = some (.ref f))
    (hk : PySem.W.keepIn X.K (.ref f) = true) (hb : Binds X.K fd ps []) (hx : Passes CX X W) (ha : PA X (e :: es) t)
    (hdb : (x == ("__debug__" : Str)) = false := by decide) (he : starEach (e :: es) X.env = (false, eval e X.env) :: starEach es X.env := by rfl)
    (hpl : (backTo pos (starEach es X.env)).any (·.1) = false := by rfl) :
    PE X (.Call (.Name x p) (e :: es) [] pos) fun σ H Q => t σ H fun vs H1 => sp vs H1 Q W := by
  constructor
  intro pins s σ H Q I h
  apply wpAny_Call_Name_kw
  apply ld_glob I hg hm _ hdb
  refine PySem.W.callWith_K (h₀ := X.base) I.ok.mod.kin hk (thn (ha.run pos pins s σ H _ I h) ?_) he hpl
  rintro us s1 ⟨vs, H1, I1, r, q⟩
  refine ⟨I1.kIn, ?_⟩
  have hl : us.length = ps.length := r.length.symm.trans (G.len _ _ _ _ q)
  have hbind : BindsTo s1 fd ⟨us, []⟩ (ps.zip us) := by
    have z := hb s1 us I1.kIn (by rw [List.append_nil]; exact hl)
    rw [List.append_nil] at z
    exact z
  refine wpAny_call (codeAny_mono (G.run X.A X.stack s1 H1 ⟨us, []⟩ us vs Q W gd hr I1.env0 hbind r q) ?_)
  intro res s' hq
  cases res with
  | error e => exact hx pins σ H1 s1 e s' I1 hq
  | ok fl =>
    cases fl with
    | ret u => exact I1.after hq
    | next => exact hq.elim
    | brk => exact hq.elim
    | cont => exact hq.elim
theorem peG_call0 {CX : CXT} {k : Nat} {f : Addr} {fd : FuncData} {ps : List Str} {sp : Sp} {x : Str} {p pos : Pos}
    (G : FnG X.prog X.w X.K X.mg X.base CX k f fd ps sp) (gd : X.A.guards = some []) (hr : Room k X.A) (hg : Gl X x) (hm : X.mg x = some (.ref f))
    (hk : PySem.W.keepIn X.K (.ref f) = true) (hb : Binds X.K fd ps []) (hx : Passes CX X W)
    (hdb : (x == ("__debug__" : Str)) = false := by decide) :
    PE X (.Call (.Name x p) [] [] pos) fun _ H Q => sp [] H Q W := by
  constructor
  intro pins s σ H Q I q
  apply wpAny_Call_Name_kw
  apply ld_glob I hg hm _ hdb
  refine PySem.W.callWith_K0 I.kIn hk ?_
  have hl : ([] : List Value).length = ps.length := G.len _ _ _ _ q
  have hbind : BindsTo s fd ⟨[], []⟩ (ps.zip []) := hb s [] I.kIn hl
  refine wpAny_call (codeAny_mono (G.run X.A X.stack s H ⟨[], []⟩ [] [] Q W gd hr I.env0 hbind .nil q) ?_)
  intro res s' hq
  cases res with
  | error e => exact hx pins σ H s e s' I hq
  | ok fl =>
    cases fl with
    | ret u => exact I.after hq
    | next => exact hq.elim
    | brk => exact hq.elim
    | cont => exact hq.elim
end

/-! ### the end: the law called with the script -/
section
variable {P : Program} {w : World} {K : PySem.W.Frag} {mg mb : Str → Option Value} {CX : CXT} {k : Nat} {fa a : Addr} {fd : FuncData} {x : Str} {sp : Sp}
  {s₁ : Shared} {vs : List Value} {ns : List Int}
/-- the called law, from an abstract heap of which the script alone is told -/
theorem lawG_core (inK : K.In s₁.heap) (gl : s₁.heap.Ns mainGlobals mg) (bl : s₁.heap.Ns builtinsNs mb) (boot : ∀ y : Str, y ≠ "__name__" → mb y = bootBuiltins y)
    (lim : s₁.heap.NoLimit) (gens : s₁.gens = #[]) (obj : s₁.heap.get? a = some { cls := .type "list", data := .seq vs.toArray }) (room : Room k callerA)
    (G : ∀ base : Heap, K.In base → base.Ns mainGlobals mg → FnG P w K mg base CX k fa fd [x] sp) (binds : ∀ (s : Shared) (u : Value), BindsTo s fd ⟨[u], []⟩ [(x, u)])
    (noX : ∀ H e s', CX [] H s₁ (fun _ _ _ => False) e s' → False) {H : Hp} (only : Only H) (ok : HOk P w H s₁.heap) (hA : ∀ b, H b ≠ none → b = a ∧ K.lookup a = none)
    (want : sp [.ref a] H (fun v _ => v = .bl true) fun _ _ _ => False) :
    codeAny (model P w) callerA (.call (.ref fa) ⟨[.ref a], []⟩) (fun r s' => r = .ok (.ret (.bool true)) ∧ OldK s₁.heap s'.heap ∧ s'.os = s₁.os ∧ AllBare s'.gens) s₁ := by
  have plain : ∀ {b : Addr} {o : Obj}, s₁.heap.get? b = some o → (b = a → False) → (hidT s₁.heap H).get? b = some o := fun {b o} e n => by
    refine hidT_get e ?_
    cases q : H b with
    | none => rfl
    | some u => exact (n (hA b (by rw [q]; exact fun z => nomatch z)).1).elim
  have names : ∀ {b : Addr} {m : Str → Option Value}, s₁.heap.Ns b m → (hidT s₁.heap H).Ns b m := fun {b m} ns => by
    obtain ⟨o, es, ep, e, d, r⟩ := ns
    refine ⟨o, es, ep, plain e fun z => ?_, d, r⟩
    subst z
    rw [obj] at e
    cases e
    exact nomatch d
  have inB : K.In (hidT s₁.heap H) := fun b o e => by
    have e1 := inK b o e
    refine hidT_get e1 ?_
    cases q : H b with
    | none => rfl
    | some u =>
      obtain ⟨z1, z2⟩ := hA b (by rw [q]; exact fun z => nomatch z)
      rw [z1, z2] at e
      exact nomatch e
  have md : Mod K mg (hidT s₁.heap H) := ⟨inB, names gl, ⟨mb, names bl, boot⟩, by obtain ⟨mc, l1, l2⟩ := lim; exact ⟨mc, names l1, l2⟩⟩
  have env0 : Env0 P w K mg (hidT s₁.heap H) callerA [] s₁ H :=
    { frames := rfl, mod := md, bs := fun b o e => of_hidT e, bsz := Nat.le_of_eq (hidT_size _ _), funs := trivial,
      frf := fun b hb => (by simp [frs] at hb), hok := ok, bare := .of_eq gens }
  refine codeAny_mono ((G _ inB (names gl)).run callerA [] s₁ H ⟨[.ref a], []⟩ [.ref a] [.ref a] _ _ rfl room env0 (binds s₁ (.ref a)) (.cons rfl .nil) want) ?_
  intro r s' done
  cases r with
  | error e => exact (noX H e s' done).elim
  | ok fl =>
    cases fl with
    | next => exact done.elim
    | brk => exact done.elim
    | cont => exact done.elim
    | ret u =>
      obtain ⟨v, H', os, bare, un, ok', rv, q⟩ := done
      have q' : v = .bl true := q
      subst q'
      have eu : u = Value.bool true := rv
      subst eu
      refine ⟨rfl, OldK.of_keep fun b o e => ?_, os, bare⟩
      cases hb : H b with
      | none => exact un.keep b o e hb (by simp [frs]) (by simp)
      | some u =>
        rcases only b with z | ⟨ob, xs, z⟩
        · rw [hb] at z; exact nomatch z
        · have e1 := (ok b _ z).1
          have e2 := (ok' b _ (un.frzs b ob _ z)).1
          rw [e] at e1
          rw [Option.some.inj e1]
          exact e2
theorem lawG_call (inK : K.In s₁.heap) (gl : s₁.heap.Ns mainGlobals mg) (bl : s₁.heap.Ns builtinsNs mb) (boot : ∀ y : Str, y ≠ "__name__" → mb y = bootBuiltins y)
    (lim : s₁.heap.NoLimit) (gens : s₁.gens = #[]) (obj : s₁.heap.get? a = some { cls := .type "list", data := .seq vs.toArray }) (hi : IntsAre vs ns) (hl : ns.length ≤ sizeLine) (room : Room k callerA)
    (G : ∀ base : Heap, K.In base → base.Ns mainGlobals mg → FnG P w K mg base CX k fa fd [x] sp) (binds : ∀ (s : Shared) (u : Value), BindsTo s fd ⟨[u], []⟩ [(x, u)])
    (want : ∀ H : Hp, Only H → SqL K H a (ns.map V.int) → sp [.ref a] H (fun v _ => v = .bl true) fun _ _ _ => False)
    (noX : ∀ H e s', CX [] H s₁ (fun _ _ _ => False) e s' → False) :
    codeAny (model P w) callerA (.call (.ref fa) ⟨[.ref a], []⟩) (fun r s' => r = .ok (.ret (.bool true)) ∧ OldK s₁.heap s'.heap ∧ s'.os = s₁.os ∧ AllBare s'.gens) s₁ := by
  have rv := vals_ints hi
  have hlen : (ns.map V.int).length ≤ sizeLine := by rw [List.length_map]; exact hl
  cases hk : K.lookup a with
  | some o =>
    have e := inK a o hk
    rw [obj] at e
    have e' := Option.some.inj e
    subst e'
    have none_only : Only fun _ => none := fun _ => .inl rfl
    refine lawG_core inK gl bl boot lim gens obj room G binds noX none_only (fun b u z => nomatch z) (fun b z => absurd rfl z) (want _ none_only (.inr ⟨_, vs.toArray, _, hk, rfl, rfl, rfl, ?_, by simpa using rv⟩))
    rw [List.size_toArray, hi.length]
    exact hl
  | none =>
    have only1 : Only fun b => if b = a then some (.frz { cls := .type "list", data := .seq vs.toArray } (.lst (ns.map V.int))) else none := fun b => by
      by_cases q : b = a
      · exact .inr ⟨_, _, if_pos q⟩
      · exact .inl (if_neg q)
    refine lawG_core inK gl bl boot lim gens obj room G binds noX only1 (fun b u z => ?_) (fun b z => ?_) (want _ only1 (.inl (.inr ⟨_, if_pos rfl⟩)))
    · by_cases q : b = a
      · rw [if_pos q] at z
        have z' := Option.some.inj z
        subst z'
        subst q
        exact ⟨obj, hlen, vs, _, rv, obj⟩
      · rw [if_neg q] at z; exact nomatch z
    · by_cases q : b = a
      · exact ⟨q, hk⟩
      · exact absurd (if_neg q) z
end
/-- the goal behind k_head, the bits told -/
theorem walkG {l : PySem.W.OpenLaw} {n k : Nat} {q : Program} {loose : List Str} {XP : (Str → Option Value) → Heap → Prop} {YP : World → Heap → Prop} {d : DefRec} {K : Params → PySem.W.Frag} {sp : PySem.W.Frag → Sp} {x : Str}
    (hn : l.most = some n) (hn2 : n ≤ sizeLine) (hdf : d.params.defaults = []) (room : Room k callerA)
    (hY : ∀ (w : World) (h : Heap), YP w h → (K w.params).In h)
    (G : ∀ (w : World) (mg : Str → Option Value) (fa : Addr) (h : Heap), (K w.params).In h → h.Ns mainGlobals mg → mg d.name = some (.ref fa) →
      ∃ fd : FuncData, (∀ (s : Shared) (u : Value), BindsTo s fd ⟨[u], []⟩ [(x, u)]) ∧
        ∀ base : Heap, (K w.params).In base → base.Ns mainGlobals mg → FnG l.prog w (K w.params) mg base CX0 k fa fd [x] (sp (K w.params)))
    (want : ∀ (K : PySem.W.Frag) (H : Hp) (a : Addr) (ns : List Int), ns.length ≤ n → (∀ z ∈ ns, Builtin.Int.intBits z ≤ 1048576) → Only H → SqL K H a (ns.map V.int) →
      sp K [.ref a] H (fun v _ => v = .bl true) fun _ _ _ => False) :
    PySem.W.WalkO q loose XP YP l.row.toRowW d [] (fun f vs => PySem.call f vs) := by
  refine Att.attach_callB hn hdf ?_
  intro w s₀ s₁ mg mb fa o pm cd doc a vs ns Gr Y ho hd hcd hmg hobj hints hlen hbits hg
  obtain ⟨fd, hb, hF⟩ := G w mg fa _ (hY w _ Y) Gr.T.g hmg
  exact lawG_call (hY w _ Y) Gr.T.g Gr.T.b Gr.T.builtins Gr.T.nolimit hg hobj hints (Nat.le_trans hlen hn2) room hF hb
    (fun H hO hS => want _ H a ns hlen hbits hO hS) fun _ _ _ z => z
end MK

namespace MK
open PySem PySem.Spec PyProof.Rows L2

theorem wipe_at {σ : L2.St} {i : Nat} : ∀ {vs : List Nat}, (L2.wipe σ vs)[i]? = if i ∈ vs then (if i < σ.length then some none else none) else σ[i]?
  | [] => by simp [L2.wipe]
  | v :: vs => by
    unfold L2.wipe
    by_cases e : v = i
    · subst e
      rw [if_pos List.mem_cons_self]
      by_cases h : v < σ.length
      · rw [if_pos h, List.getElem?_set_self (by rw [wipe_length]; exact h)]
      · rw [if_neg h, List.getElem?_eq_none (by rw [List.length_set, wipe_length]; omega)]
    · rw [List.getElem?_set_ne e, wipe_at (vs := vs)]
      by_cases h : i ∈ vs
      · rw [if_pos h, if_pos (List.mem_cons_of_mem _ h)]
      · rw [if_neg h, if_neg fun z => (List.mem_cons.mp z).elim (fun q => e q.symm) h]
theorem wipe_ext {σ τ : L2.St} {vs : List Nat} (hl : σ.length = τ.length) (h : ∀ i, i ∉ vs → σ[i]? = τ[i]?) : L2.wipe σ vs = L2.wipe τ vs := by
  refine List.ext_getElem? fun i => ?_
  rw [wipe_at, wipe_at, hl]
  by_cases q : i ∈ vs
  · rw [if_pos q, if_pos q]
  · rw [if_neg q, if_neg q, h i q]
theorem off_of_wipe {σ τ : L2.St} {ws : List Nat} (h : L2.wipe σ ws = L2.wipe τ ws) : σ.length = τ.length ∧ ∀ i, i ∉ ws → σ[i]? = τ[i]? := by
  refine ⟨by rw [← wipe_length σ ws, h, wipe_length], fun i hi => ?_⟩
  have e := congrArg (fun l : L2.St => l[i]?) h
  simp only [wipe_at, if_neg hi] at e
  exact e

section
variable {X : Cx} {W : WT} {U : XK} {K : KW}

/-! ### targets -/
def gNm (i : Nat) : FG := fun d ρ S => .ok (ρ.set i (some d)) S
theorem mg_name {i : Nat} {x : Str} {pos : Pos} (hN : X.N.Nodup) (hi : X.N[i]? = some x) (hx : Loc X.env.scope x) (hf : X.fn x = true ∨ X.env.scope.names.lookup x = some .local := by first | exact .inl rfl | exact .inr rfl | assumption) : MG X W (.Name x pos) [i] (gNm i) :=
  PG.imp (pg_name hN hi hx hf) fun v σ H Q h => by
    obtain ⟨g, S, ρ, d, R, rs, r, p⟩ := h
    exact pst.here p R _ (rs.set i r) (wipe_set (List.mem_cons_self))
abbrev FGs := List D → F Sl
def rdGs (K : KW) (W : XK) (ws : List Nat) (f : FGs) : TGs := fun vs σ H Q => ∃ g S ρ ds, Rep K g S H ∧ RS K g ρ σ ∧ RDs K g ds vs ∧ pst K W g (f ds ρ S) fun g' _ H' ρ' => ∀ σ', RS K g' ρ' σ' → wipe σ' ws = wipe σ ws → Q σ' H'
abbrev MGs (X : Cx) (W : WT) (es : List Expr) (ws : List Nat) (f : FGs) : Prop := PGs X es (rdGs (kwX X W) W.E ws f)
theorem PGs.imp {X : Cx} {e : List Expr} {t t' : TGs} (h : PGs X e t) (i : ∀ vs σ H Q, t' vs σ H Q → t vs σ H Q) : PGs X e t' := ⟨fun pins s σ H vs us Q I r q => h.run pins s σ H vs us Q I r (i vs σ H Q q)⟩
def gsNil : FGs := fun ds ρ S => match ds with
  | [] => .ok ρ S
  | _ :: _ => .no
def gsCons (f : FG) (k : FGs) : FGs := fun ds ρ S => match ds with
  | d :: r => (f d ρ S).bind fun ρ1 S1 => k r ρ1 S1
  | [] => .no
theorem mgs_nil : MGs X W [] [] gsNil := PGs.imp pgs_nil fun vs σ H Q h => by
  obtain ⟨g, S, ρ, ds, R, rs, r, p⟩ := h
  cases r with
  | nil => exact ⟨rfl, pst.here p R σ rs rfl⟩
  | cons _ _ => exact p.elim
theorem mgs_cons {e : Expr} {es : List Expr} {w1 w2 : List Nat} {f : FG} {k : FGs} (h1 : MG X W e w1 f) (h2 : MGs X W es w2 k) (hs : (assignEach (e :: es) X.env).map (·.2) = assign e X.env :: (assignEach es X.env).map (·.2) := by rfl) : MGs X W (e :: es) (w1 ++ w2) (gsCons f k) :=
  PGs.imp (pgs_cons h1 h2 hs) fun vs σ H Q h => by
    obtain ⟨g, S, ρ, ds, R, rs, r, p⟩ := h
    cases r with
    | nil => exact p.elim
    | cons r rr =>
      refine ⟨_, _, rfl, g, S, ρ, _, R, rs, r, (pst.bind (f := fun ρ1 S1 => k _ ρ1 S1) p).mp fun g' S' H' ρ' x R' q σ' rs' off => ?_⟩
      refine ⟨g', S', ρ', _, R', rs', rr.mono x.toExtG, q.mp fun g'' S'' H'' ρ'' x' R'' q' σ'' rs'' off' => q' σ'' rs'' ?_⟩
      obtain ⟨a1, a2⟩ := off_of_wipe off
      obtain ⟨b1, b2⟩ := off_of_wipe off'
      exact wipe_ext (b1.trans a1) fun i hi => (b2 i fun z => hi (List.mem_append_right _ z)).trans (a2 i fun z => hi (List.mem_append_left _ z))
def gTp (n : Nat) (f : FGs) : FG := fun d ρ S => match d with
  | .tup ds => if ds.length = n then f ds ρ S else .no
  | .lst ds => if ds.length = n then f ds ρ S else .no
  | _ => .no
theorem pg_seqT {es : List Expr} {k : Nat} {t : TGs} {n : Nat} {pos : Pos} (hc : X.calm = true) (h : PGs X es t) (hn : (assignEach es X.env).length = n) (hst : (assignEach es X.env).findIdx? (·.1) = none) :
    PG X (.Tuple es k pos) (fun v σ H Q => gTup X.K n t v σ H Q ∨ gUnl X.K n t v σ H Q) :=
  ⟨fun pins s σ H v u Q I r hw => hw.elim (fun a => (pg_tup hc h hn hst).run pins s σ H v u Q I r a) fun a => (pg_unl hc h hn hst).run pins s σ H v u Q I r a⟩
theorem mg_tup {es : List Expr} {kk : Nat} {ws : List Nat} {f : FGs} {n : Nat} {pos : Pos} (hc : X.calm = true) (h : MGs X W es ws f) (hn : (assignEach es X.env).length = n := by rfl) (hst : (assignEach es X.env).findIdx? (·.1) = none := by rfl) : MG X W (.Tuple es kk pos) ws (gTp n f) :=
  PG.imp (pg_seqT hc h hn hst) fun v σ H Q h => by
    obtain ⟨g, S, ρ, d, R, rs, r, p⟩ := h
    cases r with
    | tup h1 h2 =>
      rename_i a vs ds
      have p' : pst (kwX X W) W g (if ds.length = n then f ds ρ S else Out.no) _ := p
      by_cases hl : ds.length = n
      · rw [if_pos hl] at p'
        exact .inl ⟨a, vs, rfl, sameT R.sub h1.sq, by rw [h2.length]; exact hl, g, S, ρ, ds, R, rs, h2, p'⟩
      · rw [if_neg hl] at p'; exact p'.elim
    | lst h1 h2 =>
      rename_i a vs ds
      have p' : pst (kwX X W) W g (if ds.length = n then f ds ρ S else Out.no) _ := p
      by_cases hl : ds.length = n
      · rw [if_pos hl] at p'
        exact .inr ⟨a, vs, rfl, .inl (.inl (R.sub _ _ h1)), by rw [h2.length]; exact hl, g, S, ρ, ds, R, rs, h2, p'⟩
      · rw [if_neg hl] at p'; exact p'.elim
    | _ => exact p.elim
/-- o[i] = v -/
abbrev B3 := D → D → D → Store → Out Unit
def Set3 (K : KW) (r : TSet) (op : B3) : Prop := ∀ (W : XK) (g : Gh) (S : Store) (H : Hp) (d1 d2 d3 : D) (o i v : V) (Q : Hp → Prop), Rep K g S H → RD K g d1 o → RD K g d2 i → RD K g d3 v → pst K W g (op d1 d2 d3 S) (fun _ _ H' _ => Q H') → r o i v H Q
def gSb (op : B3) (fo fi : FE) : FG := fun d ρ S => (fo ρ S).bind fun o S1 => (fi ρ S1).bind fun i S2 => (op o i d S2).bind fun _ S3 => .ok ρ S3
theorem mg_sub {o i : Expr} {pos : Pos} {fo fi : FE} {r : TSet} {op : B3} (hs : PSet X r) (hf : Set3 (kwX X W) r op) (ho : ME X W o fo) (hi : ME X W i fi)
    (ha : ∀ v, assign (.Subscript o i pos) X.env v = (do
      let ov ← holding [v] (eval o X.env)
      let iv ← holding [v, ov] (eval i X.env)
      standAt pos
      holding [v, ov, iv] (setItem ov iv v)
      release [v, ov, iv] []) := by intro _; rfl) : MG X W (.Subscript o i pos) [] (gSb op fo fi) :=
  PG.imp (pg_sub ho hi hs ha) fun v σ H Q h => by
    obtain ⟨g, S, ρ, d, R, rs, r, p⟩ := h
    refine ⟨g, S, ρ, R, rs, (pst.bind p).mp fun g1 S1 H1 o x1 R1 q1 ov ro => ?_⟩
    refine ⟨g1, S1, ρ, R1, rs.mono x1.toExtG, q1.bind.mp fun g2 S2 H2 i x2 R2 q2 iv ri => ?_⟩
    refine hf W g2 S2 H2 o i d ov iv v _ R2 (ro.mono x2.toExtG) ri ((r.mono x1.toExtG).mono x2.toExtG) (q2.bind.mp fun g3 S3 H3 _ x3 R3 q3 => ?_)
    exact pst.here q3 R3 σ (((rs.mono x1.toExtG).mono x2.toExtG).mono x3.toExtG) rfl

/-! ### statements -/
def fNext : FS := fun ρ S => .ok (.nx ρ) S
def fSeq (a b : FS) : FS := fun ρ S => (a ρ S).bind fun fl S1 => match fl with
  | .nx ρ1 => b ρ1 S1
  | .rt d => .ok (.rt d) S1
  | .bk ρ1 => .ok (.bk ρ1) S1
  | .ct ρ1 => .ok (.ct ρ1) S1
def fRet (f : FE) : FS := fun ρ S => (f ρ S).bind fun d S1 => .ok (.rt d) S1
def fSet (i : Nat) (f : FE) : FS := fun ρ S => (f ρ S).bind fun d S1 => .ok (.nx (ρ.set i (some d))) S1
def fAsg (f : FE) (k : FG) : FS := fun ρ S => (f ρ S).bind fun d S1 => (k d ρ S1).bind fun ρ1 S2 => .ok (.nx ρ1) S2
def fDrop (f : FE) : FS := fun ρ S => (f ρ S).bind fun _ S1 => .ok (.nx ρ) S1
def fBreak : FS := fun ρ S => .ok (.bk ρ) S
def fCont : FS := fun ρ S => .ok (.ct ρ) S
theorem mss_nil : MSs X W [] fNext := PSs.imp pss_nil fun D' σ H h => by
  obtain ⟨g, S, ρ, R, rs, p⟩ := h
  exact pst.here p R σ rs
theorem mss_one {st : Stmt} {f : FS} (h : MS X W st f) : MSs X W [st] f := pss_one h
theorem mss_cons {st : Stmt} {rest : List Stmt} {f k : FS} (h1 : MS X W st f) (h2 : MSs X W rest k) : MSs X W (st :: rest) (fSeq f k) := PSs.imp (pss_cons h1 h2) fun D' σ H h => by
  obtain ⟨g, S, ρ, R, rs, p⟩ := h
  refine ⟨g, S, ρ, R, rs, (pst.bind p).mp fun g1 S1 H1 fl x R1 q => ?_⟩
  cases fl with
  | nx ρ1 => exact fun σ' rs' => ⟨g1, S1, ρ1, R1, rs', q⟩
  | rt d => exact pst.here q R1
  | bk ρ1 => exact pst.here q R1
  | ct ρ1 => exact pst.here q R1
theorem ms_ret {e : Expr} {pos : Pos} {f : FE} (h : ME X W e f) : MS X W (.Return (some e) pos) (fRet f) := PS.imp (ps_ret h) fun D' σ H h => by
  obtain ⟨g, S, ρ, R, rs, p⟩ := h
  exact ⟨g, S, ρ, R, rs, (pst.bind p).mp fun g1 S1 H1 d x R1 q v r => pst.here q R1 v r⟩
theorem ms_retN {pos : Pos} : MS X W (.Return none pos) (fRet (fC .non)) := PS.imp ps_retN fun D' σ H h => by
  obtain ⟨g, S, ρ, R, rs, p⟩ := h
  exact pst.here p R _ .non
theorem ms_pass {pos : Pos} : MS X W (.Pass pos) fNext := PS.imp ps_pass fun D' σ H h => by
  obtain ⟨g, S, ρ, R, rs, p⟩ := h
  exact pst.here p R σ rs
theorem ms_break {pos : Pos} : MS X W (.Break pos) fBreak := PS.imp ps_break fun D' σ H h => by
  obtain ⟨g, S, ρ, R, rs, p⟩ := h
  exact pst.here p R σ rs
theorem ms_cont {pos : Pos} : MS X W (.Continue pos) fCont := PS.imp ps_continue fun D' σ H h => by
  obtain ⟨g, S, ρ, R, rs, p⟩ := h
  exact pst.here p R σ rs
theorem ms_doc {x j pos pos'} : MS X W (.Expr (.Constant (.str x) j pos) pos') fNext := PS.imp ps_doc fun D' σ H h => by
  obtain ⟨g, S, ρ, R, rs, p⟩ := h
  exact pst.here p R σ rs
theorem ms_expr {e : Expr} {pos : Pos} {f : FE} (h : ME X W e f) (hs : swapsWith e none pos.line X.env = pure false := by rfl) : MS X W (.Expr e pos) (fDrop f) := PS.imp (ps_expr h hs) fun D' σ H h => by
  obtain ⟨g, S, ρ, R, rs, p⟩ := h
  exact ⟨g, S, ρ, R, rs, (pst.bind p).mp fun g1 S1 H1 d x R1 q v r => pst.here q R1 σ (rs.mono x.toExtG)⟩
theorem ms_set {i : Nat} {x : Str} {e : Expr} {pos pos' : Pos} {f : FE} (hN : X.N.Nodup) (hi : X.N[i]? = some x) (hx : Loc X.env.scope x) (h : ME X W e f) (hs : swapsWith e (some (.Name x pos')) pos.line X.env = pure false := by rfl) (hf : X.fn x = true ∨ X.env.scope.names.lookup x = some .local := by first | exact .inl rfl | exact .inr rfl | assumption) :
    MS X W (.Assign [.Name x pos'] e pos) (fSet i f) := PS.imp (ps_set hN hi hx h hs hf) fun D' σ H h => by
  obtain ⟨g, S, ρ, R, rs, p⟩ := h
  exact ⟨g, S, ρ, R, rs, (pst.bind p).mp fun g1 S1 H1 d x R1 q v r => pst.here q R1 _ ((rs.mono x.toExtG).set i r)⟩
theorem ms_asg {tg e : Expr} {pos : Pos} {f : FE} {ws : List Nat} {k : FG} (he : ME X W e f) (hg : MG X W tg ws k) (hs : swapsWithSole [tg] e pos.line X.env = pure false := by rfl) (hw : swappedStores [tg] e X.env = pure none := by rfl)
    (h1 : (assignEach [tg] X.env).map (·.2) = [assign tg X.env] := by rfl) : MS X W (.Assign [tg] e pos) (fAsg f k) := PS.imp (ps_asg he hg hs hw h1) fun D' σ H h => by
  obtain ⟨g, S, ρ, R, rs, p⟩ := h
  refine ⟨g, S, ρ, R, rs, (pst.bind p).mp fun g1 S1 H1 d x R1 q v r => ?_⟩
  exact ⟨g1, S1, ρ, d, R1, rs.mono x.toExtG, r, q.bind.mp fun g2 S2 H2 ρ2 x2 R2 q2 σ' rs' _ => pst.here q2 R2 σ' rs'⟩
def fPar (i j : Nat) (a : F (List D)) : FS := fun ρ S => (a ρ S).bind fun ds S1 => match ds with
  | [x, y] => .ok (.nx ((ρ.set i (some x)).set j (some y))) S1
  | _ => .no
def fPar3 (i j l : Nat) (a : F (List D)) : FS := fun ρ S => (a ρ S).bind fun ds S1 => match ds with
  | [x, y, z] => .ok (.nx (((ρ.set i (some x)).set j (some y)).set l (some z))) S1
  | _ => .no
theorem ms_par {i j : Nat} {x y : Str} {a b : Expr} {f : F (List D)} {px py pt pos : Pos} {kt k2 pt2} (hc : X.calm = true) (hN : X.N.Nodup) (hi : X.N[i]? = some x) (hj : X.N[j]? = some y) (hij : i ≠ j)
    (hx : X.env.scope.names.lookup x = some .local) (hy : X.env.scope.names.lookup y = some .local) (ha : MA X W [a, b] f)
    (hw : swappedStores [.Tuple [.Name x px, .Name y py] kt pt] (.Tuple [a, b] k2 pt2) X.env = pure (some [x, y]) := by rfl)
    (hs : swapsWithSole [.Tuple [.Name x px, .Name y py] kt pt] (.Tuple [a, b] k2 pt2) pos.line X.env = pure false := by rfl) :
    MS X W (.Assign [.Tuple [.Name x px, .Name y py] kt pt] (.Tuple [a, b] k2 pt2) pos) (fPar i j f) := PS.imp (ps_par hc hN hi hj hij hx hy ha hw hs) fun D' σ H h => by
  obtain ⟨g, S, ρ, R, rs, p⟩ := h
  refine ⟨g, S, ρ, R, rs, (pst.bind p).mp fun g1 S1 H1 ds x R1 q vs r => ?_⟩
  cases r with
  | nil => exact q.elim
  | cons r1 r =>
    cases r with
    | nil => exact q.elim
    | cons r2 r =>
      cases r with
      | nil => exact ⟨_, _, rfl, pst.here q R1 _ (((rs.mono x.toExtG).set i r1).set j r2)⟩
      | cons _ _ => exact q.elim
theorem ms_par3 {i j l : Nat} {x y z : Str} {a b c : Expr} {f : F (List D)} {px py pz pt pos : Pos} {kt k2 pt2} (hc : X.calm = true) (hN : X.N.Nodup) (hi : X.N[i]? = some x) (hj : X.N[j]? = some y) (hl : X.N[l]? = some z) (hij : i ≠ j) (hil : i ≠ l) (hjl : j ≠ l)
    (hx : X.env.scope.names.lookup x = some .local) (hy : X.env.scope.names.lookup y = some .local) (hz : X.env.scope.names.lookup z = some .local) (ha : MA X W [a, b, c] f)
    (hw : swappedStores [.Tuple [.Name x px, .Name y py, .Name z pz] kt pt] (.Tuple [a, b, c] k2 pt2) X.env = pure (some [x, y, z]) := by rfl)
    (hs : swapsWithSole [.Tuple [.Name x px, .Name y py, .Name z pz] kt pt] (.Tuple [a, b, c] k2 pt2) pos.line X.env = pure false := by rfl) :
    MS X W (.Assign [.Tuple [.Name x px, .Name y py, .Name z pz] kt pt] (.Tuple [a, b, c] k2 pt2) pos) (fPar3 i j l f) := PS.imp (ps_par3 hc hN hi hj hl hij hil hjl hx hy hz ha hw hs) fun D' σ H h => by
  obtain ⟨g, S, ρ, R, rs, p⟩ := h
  refine ⟨g, S, ρ, R, rs, (pst.bind p).mp fun g1 S1 H1 ds x R1 q vs r => ?_⟩
  cases r with
  | nil => exact q.elim
  | cons r1 r =>
    cases r with
    | nil => exact q.elim
    | cons r2 r =>
      cases r with
      | nil => exact q.elim
      | cons r3 r =>
        cases r with
        | nil => exact ⟨_, _, _, rfl, pst.here q R1 _ ((((rs.mono x.toExtG).set i r1).set j r2).set l r3)⟩
        | cons _ _ => exact q.elim
def fAug (i : Nat) (op : B2) (f : FE) : FS := fun ρ S => (fVar i ρ S).bind fun x S0 => (f ρ S0).bind fun y S1 => (op x y S1).bind fun z S2 => .ok (.nx (ρ.set i (some z))) S2
theorem ms_aug {i : Nat} {x : Str} {e : Expr} {pos pos' : Pos} {op : Operator} {ti : TIp} {o : B2} {f : FE} (hN : X.N.Nodup) (hi : X.N[i]? = some x) (hx : Loc X.env.scope x) (ho : PIp X op ti) (hfo : Op2 (kwX X W) ti o) (h : ME X W e f) (hf : X.fn x = true ∨ X.env.scope.names.lookup x = some .local := by first | exact .inl rfl | exact .inr rfl | assumption) :
    MS X W (.AugAssign (.Name x pos') op e pos) (fAug i o f) := PS.imp (ps_aug hN hi hx h ho hf) fun D' σ H h => by
  obtain ⟨g, S, ρ, R, rs, p⟩ := h
  unfold fAug fVar at p
  cases e1 : ρ[i]? with
  | none => rw [e1] at p; exact p.elim
  | some od =>
    cases od with
    | none => rw [e1] at p; exact p.elim
    | some d =>
      rw [e1] at p
      obtain ⟨v, h1, h2⟩ := rs.at_ i d e1
      refine ⟨v, h1, g, S, ρ, R, rs, (pst.bind (o := f ρ S) p).mp fun g1 S1 H1 dy x1 R1 q1 y ry => ?_⟩
      refine hfo W g1 S1 H1 d dy v y _ R1 (h2.mono x1.toExtG) ry (q1.bind.mp fun g2 S2 H2 dz x2 R2 q2 z rz => ?_)
      exact pst.here q2 R2 _ (((rs.mono x1.toExtG).mono x2.toExtG).set i rz)
def fAugS (get : B2) (op : B2) (st : B3) (fo fi f : FE) : FS := fun ρ S => (fo ρ S).bind fun o S1 => (fi ρ S1).bind fun i S2 => (get o i S2).bind fun x S3 => (f ρ S3).bind fun y S4 => (op x y S4).bind fun z S5 => (st o i z S5).bind fun _ S6 => .ok (.nx ρ) S6
theorem ms_augS {o i e : Expr} {pos tpos : Pos} {op : Operator} {tget : V → V → Hp → VK → Prop} {tip : TIp} {tset : TSet} {bg bo : B2} {bs : B3} {fo fi f : FE} (hg : PGet X tget) (hgf : Op2 (kwX X W) tget bg) (hp : PIp X op tip) (hpf : Op2 (kwX X W) tip bo) (hs : PSet X tset) (hsf : Set3 (kwX X W) tset bs)
    (ho : ME X W o fo) (hi : ME X W i fi) (he : ME X W e f)
    (ha : ∀ ov iv new, augStore i ov iv new = (do holding [new, ov, iv] (setItem ov iv new); release [new, ov, iv] []; pure .next) := by intros; rfl) : MS X W (.AugAssign (.Subscript o i tpos) op e pos) (fAugS bg bo bs fo fi f) := PS.imp (ps_augS ho hi hg he hp hs ha) fun D' σ H h => by
  obtain ⟨g, S, ρ, R, rs, p⟩ := h
  refine ⟨g, S, ρ, R, rs, (pst.bind p).mp fun g1 S1 H1 d1 x1 R1 q1 v1 r1 => ?_⟩
  have rs1 := rs.mono x1.toExtG
  refine ⟨g1, S1, ρ, R1, rs1, q1.bind.mp fun g2 S2 H2 d2 x2 R2 q2 v2 r2 => ?_⟩
  have rs2 := rs1.mono x2.toExtG
  have r1 := r1.mono x2.toExtG
  refine hgf W g2 S2 H2 d1 d2 v1 v2 _ R2 r1 r2 (q2.bind.mp fun g3 S3 H3 d3 x3 R3 q3 v3 r3 => ?_)
  have rs3 := rs2.mono x3.toExtG
  have r1 := r1.mono x3.toExtG
  have r2 := r2.mono x3.toExtG
  refine ⟨g3, S3, ρ, R3, rs3, q3.bind.mp fun g4 S4 H4 d4 x4 R4 q4 v4 r4 => ?_⟩
  have rs4 := rs3.mono x4.toExtG
  have r1 := r1.mono x4.toExtG
  have r2 := r2.mono x4.toExtG
  have r3 := r3.mono x4.toExtG
  refine hpf W g4 S4 H4 d3 d4 v3 v4 _ R4 r3 r4 (q4.bind.mp fun g5 S5 H5 d5 x5 R5 q5 v5 r5 => ?_)
  have rs5 := rs4.mono x5.toExtG
  have r1 := r1.mono x5.toExtG
  have r2 := r2.mono x5.toExtG
  refine hsf W g5 S5 H5 d1 d2 d5 v1 v2 v5 _ R5 r1 r2 r5 (q5.bind.mp fun g6 S6 H6 _ x6 R6 q6 => ?_)
  exact pst.here q6 R6 _ (rs5.mono x6.toExtG)
theorem ms_if {c : Expr} {a b : List Stmt} {pos : Pos} {fc : F Bool} {fa fb : FS} (hc : MT X W c fc) (ha : MSs X W a fa) (hb : MSs X W b fb) : MS X W (.If c a b pos) (fIf fc fa fb) := PS.imp (ps_if hc ha hb) fun D' σ H h => by
  refine rd.then (k := fun t ρ S1 => if t = true then fa ρ S1 else fb ρ S1) h fun g S H' ρ d R rs p => ?_
  cases d with
  | true => exact ⟨g, S, ρ, R, rs, p⟩
  | false => exact ⟨g, S, ρ, R, rs, p⟩

/-! ### loops -/
def whileF (c : F Bool) (b : FS) : Nat → FS
  | 0 => fun _ _ => .no
  | n + 1 => fun ρ S => (c ρ S).bind fun t S1 => if t = true then (b ρ S1).bind fun fl S2 => match fl with
      | .nx ρ2 => whileF c b n ρ2 S2
      | .ct ρ2 => whileF c b n ρ2 S2
      | .bk ρ2 => .ok (.nx ρ2) S2
      | .rt d => .ok (.rt d) S2
    else .ok (.nx ρ) S1
theorem ms_while (n : Nat) {c : Expr} {body : List Stmt} {pos : Pos} {fc : F Bool} {fb : FS} (hp : PassesOwn (model X.prog X.w) X.A X.env X.xe) (hc : MT X W c fc) (hb : MSs X W body fb) : MS X W (.While c body [] pos) (whileF fc fb n) := PS.imp (ps_while hp hc hb) fun D' σ H h => by
  refine ⟨fun m σ H => rd (kwX X W) W (whileF fc fb m) σ H fun g _ H' fl => fl.post (kwX X W) D' g H', ⟨n, h⟩, fun m σ H h => ?_⟩
  cases m with
  | zero =>
    obtain ⟨g, S, ρ, R, rs, p⟩ := h
    exact p.elim
  | succ m =>
    obtain ⟨g, S, ρ, R, rs, p⟩ := h
    refine ⟨g, S, ρ, R, rs, (pst.bind p).mp fun g1 S1 H1 t x R1 q => ?_⟩
    have rs1 := rs.mono x.toExtG
    cases t with
    | false => exact pst.here q R1 σ rs1
    | true =>
      refine ⟨fun σ' H' => rd (kwX X W) W (whileF fc fb m) σ' H' fun g _ H' fl => fl.post (kwX X W) D' g H', fun σ' H' h => ⟨m, Nat.lt_succ_self m, h⟩, ?_⟩
      refine ⟨g1, S1, ρ, R1, rs1, (pst.bind (o := fb ρ S1) q).mp fun g2 S2 H2 fl x2 R2 q2 => ?_⟩
      cases fl with
      | nx ρ2 => exact fun σ' rs' => ⟨g2, S2, ρ2, R2, rs', q2⟩
      | ct ρ2 => exact fun σ' rs' => ⟨g2, S2, ρ2, R2, rs', q2⟩
      | bk ρ2 => exact fun σ' rs' => pst.here q2 R2 σ' rs'
      | rt d => exact pst.here q2 R2
def forF (k : FG) (b : FS) : List D → FS
  | [] => fun ρ S => .ok (.nx ρ) S
  | d :: ds => fun ρ S => (k d ρ S).bind fun ρ1 S1 => (b ρ1 S1).bind fun fl S2 => match fl with
      | .nx ρ2 => forF k b ds ρ2 S2
      | .ct ρ2 => forF k b ds ρ2 S2
      | .bk ρ2 => .ok (.nx ρ2) S2
      | .rt d => .ok (.rt d) S2
def fFor (it : F (List D)) (k : FG) (b : FS) : FS := fun ρ S => (it ρ S).bind fun ds S1 => forF k b ds ρ S1
theorem ms_for {tg iter : Expr} {body : List Stmt} {pos : Pos} {fi : F (List D)} {k : FG} {ws : List Nat} {fb : FS} (hp : PassesOwn (model X.prog X.w) X.A X.env X.xe) (hc : X.calm = true) (hi : MI X W tg iter fi) (hg : MG X W tg ws k) (hb : MSs X W body fb)
    (hs : ∀ x, foldedSetIterable iter X.env x = pure x := by intro _; rfl) : MS X W (.For tg iter body [] pos) (fFor fi k fb) := PS.imp (ps_for hp hc hi hg hb hs) fun D' σ H h => by
  obtain ⟨g0, S0, ρ0, R0, rs0, p0⟩ := h
  refine ⟨g0, S0, ρ0, R0, rs0, (pst.bind p0).mp fun g1 S1 H1 ds x1 R1 p1 J hJ => ?_⟩
  refine ⟨fun i m σ H => i + m = ds.length ∧ ∃ g S ρ, Ext g1 g ∧ Rep (kwX X W) g S H ∧ RS (kwX X W) g ρ σ ∧ pst (kwX X W) W g (forF k fb (ds.drop i) ρ S) fun g _ H' fl => fl.post (kwX X W) D' g H', ⟨ds.length, by omega, g1, S1, ρ0, .refl _, R1, rs0.mono x1.toExtG, p1⟩, ?_⟩
  rintro i m σ H ⟨hm, g, S, ρ, x, R, rs, p⟩
  obtain ⟨stop, item⟩ := hJ g S H x.toExtG R
  by_cases hi : i < ds.length
  · have ed : ds[i]? = some ds[i] := List.getElem?_eq_getElem hi
    obtain ⟨go, yl⟩ := item i ds[i] ed
    rw [List.drop_eq_getElem_cons hi] at p
    refine .inr ⟨go, fun σ' H' => ∃ g S ρ, Ext g1 g ∧ Rep (kwX X W) g S H' ∧ RS (kwX X W) g ρ σ' ∧ pst (kwX X W) W g (forF k fb (ds.drop (i + 1)) ρ S) fun g _ H' fl => fl.post (kwX X W) D' g H', fun σ' H' h => ⟨m - 1, by omega, by omega, h⟩, fun v H' y => ?_⟩
    obtain ⟨g2, x2, R2, r2⟩ := yl v H' y
    refine ⟨g2, S, ρ, ds[i], R2, rs.mono x2.toExtG, r2, (pst.bind (p.ext x2)).mp fun g3 S3 H3 ρ3 x3 R3 q3 σ3 rs3 _ => ?_⟩
    refine ⟨g3, S3, ρ3, R3, rs3, q3.bind.mp fun g4 S4 H4 fl x4 R4 q4 => ?_⟩
    cases fl with
    | nx ρ4 => exact fun σ' rs' => ⟨g4, S4, ρ4, ((x.trans x2).trans x3).trans x4, R4, rs', q4⟩
    | ct ρ4 => exact fun σ' rs' => ⟨g4, S4, ρ4, ((x.trans x2).trans x3).trans x4, R4, rs', q4⟩
    | bk ρ4 => exact fun σ' rs' => pst.here q4 R4 σ' rs'
    | rt d => exact pst.here q4 R4
  · have e : i = ds.length := by omega
    subst e
    rw [List.drop_length] at p
    exact .inl ⟨stop, pst.here p R σ rs⟩

/-! ### comprehensions -/
def Out.noex {α : Type} : Out α → Out α
  | .ok a S => .ok a S
  | _ => .no
abbrev E00 : XK := fun _ _ _ => False
abbrev WT.no (W : WT) : WT := ⟨E00, W.T, W.L⟩
abbrev W0 (K : KW) : WT := ⟨E00, K.T, K.L⟩
def compF (k : FG) (t : F Bool) (e : FE) (ρ : Sl) : List D → Store → Out (List D)
  | [], S => .ok [] S
  | d :: ds, S => (k d ρ S).noex.bind fun ρ1 S1 => (t ρ1 S1).noex.bind fun b S2 => if b = true then (e ρ1 S2).noex.bind fun y S3 => (compF k t e ρ ds S3).bind fun ys S4 => .ok (y :: ys) S4 else compF k t e ρ ds S2
theorem Out.noex_ok {α : Type} {o : Out α} {β : Type} {f : α → Store → Out β} {b : β} {S : Store} (h : o.noex.bind f = .ok b S) : ∃ a S1, o = .ok a S1 ∧ f a S1 = .ok b S := by
  cases o with
  | ok a S1 => exact ⟨a, S1, rfl, h⟩
  | ex _ _ => cases h
  | no => cases h
theorem Out.bind_eq_ok {α : Type} {o : Out α} {β : Type} {f : α → Store → Out β} {b : β} {S : Store} (h : o.bind f = .ok b S) : ∃ a S1, o = .ok a S1 ∧ f a S1 = .ok b S := by
  cases o with
  | ok a S1 => exact ⟨a, S1, rfl, h⟩
  | ex _ _ => cases h
  | no => cases h
def NotEx {α : Type} (o : Out α) : Prop := ∀ e S, o ≠ .ex e S
theorem notEx_noex {α β : Type} {o : Out α} {f : α → Store → Out β} (h : ∀ a S, NotEx (f a S)) : NotEx (o.noex.bind f) := by
  cases o with
  | ok a S => exact h a S
  | ex _ _ => exact fun _ _ z => nomatch z
  | no => exact fun _ _ z => nomatch z
theorem notEx_bind {α β : Type} {o : Out α} {f : α → Store → Out β} (ho : NotEx o) (h : ∀ a S, NotEx (f a S)) : NotEx (o.bind f) := by
  cases o with
  | ok a S => exact h a S
  | ex e S => exact absurd rfl (ho e S)
  | no => exact fun _ _ z => nomatch z
theorem notEx_ok {α : Type} {a : α} {S : Store} : NotEx (Out.ok a S) := fun _ _ z => nomatch z
theorem notEx_no {α : Type} : NotEx (Out.no : Out α) := fun _ _ z => nomatch z
theorem compF_notEx {k : FG} {t : F Bool} {e : FE} {ρ : Sl} : ∀ (ds : List D) (S : Store), NotEx (compF k t e ρ ds S)
  | [], S => notEx_ok
  | d :: ds, S => notEx_noex fun ρ1 S1 => notEx_noex fun b S2 => by
    cases b with
    | false => exact compF_notEx ds S2
    | true => exact notEx_noex fun y S3 => notEx_bind (compF_notEx ds S3) fun _ _ => notEx_ok
theorem compF_noex {k : FG} {t : F Bool} {e : FE} {ρ : Sl} (ds : List D) (S : Store) : (∃ ys S', compF k t e ρ ds S = .ok ys S') ∨ compF k t e ρ ds S = .no := by
  have h := compF_notEx (k := k) (t := t) (e := e) (ρ := ρ) ds S
  cases q : compF k t e ρ ds S with
  | ok a S' => exact .inl ⟨a, S', rfl⟩
  | ex e' S' => rw [q] at h; exact absurd rfl (h e' S')
  | no => exact .inr rfl
def fLc (vs : List Nat) (it : F (List D)) (k : FG) (t : F Bool) (e : FE) : FE := fun ρ S => (it ρ S).bind fun ds S1 => if ds.length ≤ line then (compF k t e (wipeD ρ vs) ds S1).bind fun ys S2 => .ok (.lst ys) S2 else .no
def fYes : F Bool := fC true
theorem mts_nil : PTs X [] (rdT (kwX X W) W fYes) := PTs.imp pts_nil fun σ H Q h => by
  obtain ⟨g, S, ρ, R, rs, p⟩ := h
  exact pst.here p R
theorem mts_one {c : Expr} {f : F Bool} (h : MT X W c f) : PTs X [c] (rdT (kwX X W) W f) := pts_one h
/-- the heart of it -/
theorem lc_read {vs ws : List Nat} {fi : F (List D)} {k : FG} {ft : F Bool} {fe : FE} (hws : ∀ i ∈ ws, i ∈ vs) {σ : L2.St} {H : Hp} {C : Gh → Store → Hp → D → Prop} {Q : VK}
    (hC : ∀ g S H d, Rep K g S H → C g S H d → ∀ v, RD K g d v → Q v H)
    (h : rd K W (fLc vs fi k ft fe) σ H C) : tLc (rdI K W fi) (rdG K E00 ws k) (rdT K E00 ft) (rdE K E00 fe) vs σ H Q := by
  obtain ⟨g0, S0, ρ0, R0, rs0, p0⟩ := h
  refine ⟨g0, S0, ρ0, R0, rs0, (pst.bind p0).mp fun g1 S1 H1 ds x1 R1 p1 J hJ A hA => ?_⟩
  have rs1 := (rs0.mono x1.toExtG).wipe vs
  by_cases hlen : ds.length ≤ line
  · rw [if_pos hlen] at p1
    rcases compF_noex (k := k) (t := ft) (e := fe) (ρ := wipeD ρ0 vs) ds S1 with ⟨zs, S9, e9⟩ | e9
    · rw [e9] at p1
      have p2 : ∀ g' H', Ext g1 g' → Rep K g' S9 H' → C g' S9 H' (.lst zs) := p1
      have hF1 : ∀ a u, g1.F a = some u → a ≠ A := fun a u e => by
        have := (R1.frm a u e).1
        exact ne_of_none this hA
      refine ⟨fun i m H => i + m = ds.length ∧ ∃ g S acc us ys, ExtG g1 g ∧ g.F = upd g1.F A (.lst us) ∧ Rep K g S H ∧ RDs K g acc us ∧ acc.length ≤ i ∧ compF k ft fe (wipeD ρ0 vs) (ds.drop i) S = .ok ys S9 ∧ zs = acc ++ ys,
        ⟨ds.length, by omega, g1.aside A (.lst []), S1, [], [], zs, ⟨Same.refl _, Nat.le_refl _, fun _ _ => rfl⟩, rfl, R1.aside hA, .nil, Nat.le_refl _, e9, rfl⟩, ?_⟩
      rintro i m H ⟨hm, g, S, acc, us, ys, x, hF, R, ra, hacc, ec, ez⟩
      obtain ⟨stop, item⟩ := hJ g S H x R
      by_cases hi : i < ds.length
      · have ed : ds[i]? = some ds[i] := List.getElem?_eq_getElem hi
        obtain ⟨go, yl⟩ := item i ds[i] ed
        rw [List.drop_eq_getElem_cons hi] at ec
        obtain ⟨ρa, Sa, ea, ec⟩ := Out.noex_ok ec
        obtain ⟨b, Sb, eb, ec⟩ := Out.noex_ok ec
        refine .inr ⟨go, fun H' => ∃ g S acc us ys, ExtG g1 g ∧ g.F = upd g1.F A (.lst us) ∧ Rep K g S H' ∧ RDs K g acc us ∧ acc.length ≤ i + 1 ∧ compF k ft fe (wipeD ρ0 vs) (ds.drop (i + 1)) S = .ok ys S9 ∧ zs = acc ++ ys, fun H' h => ⟨m - 1, by omega, by omega, h⟩, fun v H' y => ?_⟩
        obtain ⟨g2, x2, R2, r2⟩ := yl v H' y
        have xx := x.trans x2.toExtG
        refine ⟨g2, S, wipeD ρ0 vs, ds[i], R2, rs1.mono xx, r2, ?_⟩
        rw [ea]
        intro g3 H3 x3 R3 σ3 rs3 off
        obtain ⟨o1, o2⟩ := off_of_wipe off
        refine ⟨?_, ?_⟩
        · refine wipe_ext (o1.trans (wipe_length _ _)) fun j hj => ?_
          rw [o2 j fun z => hj (hws j z), wipe_keep hj]
        refine ⟨g3, Sa, ρa, R3, rs3, ?_⟩
        rw [eb]
        intro g4 H4 x4 R4
        have hF4 : g4.F = upd g1.F A (.lst us) := x4.F.trans (x3.F.trans (x2.F.trans hF))
        have xx4 := (xx.trans x3.toExtG).trans x4.toExtG
        cases b with
        | false => exact ⟨g4, Sb, acc, us, ys, xx4, hF4, R4, ra.mono ((x2.toExtG.trans x3.toExtG).trans x4.toExtG), by omega, ec, ez⟩
        | true =>
          obtain ⟨dy, Sc, ey, ec⟩ := Out.noex_ok ec
          obtain ⟨yt, Sd, ey2, ec⟩ := Out.bind_eq_ok ec
          cases ec
          refine ⟨g4, Sb, ρa, R4, rs3.mono x4.toExtG, ?_⟩
          rw [ey]
          intro g5 H5 x5 R5 vy ry
          have hF5 : g5.F = upd g1.F A (.lst us) := x5.F.trans hF4
          have hFA : g5.F A = some (.lst us) := by rw [hF5, upd_same]
          refine ⟨us, (R5.frm A _ hFA).1, ?_, ?_⟩
          · have := ra.length
            rw [line_eq] at hlen
            omega
          · have x6 : ExtG g5 (g5.aside A (.lst (us ++ [vy]))) := ⟨Same.refl _, Nat.le_refl _, fun _ _ => rfl⟩
            have x56 := x5.toExtG.trans x6
            refine ⟨g5.aside A (.lst (us ++ [vy])), Sc, acc ++ [dy], us ++ [vy], yt, xx4.trans x56, ?_, R5.again hFA, ?_, ?_, ey2, ?_⟩
            · show upd g5.F A _ = _
              rw [hF5, upd_upd]
            · exact (ra.mono (((x2.toExtG.trans x3.toExtG).trans x4.toExtG).trans x56)).append (.cons (ry.mono x6) .nil)
            · rw [List.length_append]
              exact Nat.succ_le_succ hacc
            · rw [ez, List.append_assoc]; rfl
      · have e : i = ds.length := by omega
        subst e
        rw [List.drop_length] at ec
        cases ec
        rw [List.append_nil] at ez
        subst ez
        have hFA : g.F A = some (.lst us) := by rw [hF, upd_same]
        obtain ⟨R', x'⟩ := R.settle (F := g1.F) hFA fun a u e => ⟨by rw [hF, upd_ne (hF1 a u e)]; exact e, hF1 a u e⟩
        refine .inl ⟨stop, hC _ _ _ _ R' (p2 _ H ⟨x.trans x', rfl⟩ R') _ ?_⟩
        exact .lst upd_same (ra.mono x')
    · rw [e9] at p1; exact p1.elim
  · rw [if_neg hlen] at p1; exact p1.elim
theorem me_lc {elt tg iter : Expr} {ifs : List Expr} {scope : Scope} {own : List (Str × Nat)} {pos : Pos} {fi : F (List D)} {ws : List Nat} {k : FG} {ft : F Bool} {fe : FE} (hc : X.calm = true) (hN : X.N.Nodup) (ok : BlkOk X.N X.env.scope scope own) (hws : ∀ i ∈ ws, i ∈ own.map (·.2)) (hi : MI X W tg iter fi)
    (hg : ∀ (s : Shared) (H : Hp) (C : Addr) (cl : List (Str × Addr)) (fp : List Addr), MG (X.blk s H scope (compEnvC scope cl C X.env) fp) W.no tg ws k) (ht : ∀ (s : Shared) (H : Hp) (C : Addr) (cl : List (Str × Addr)) (fp : List Addr), PTs (X.blk s H scope (compEnvC scope cl C X.env) fp) ifs (rdT (kwX X W) E00 ft))
    (he : ∀ (s : Shared) (H : Hp) (C : Addr) (cl : List (Str × Addr)) (fp : List Addr), ME (X.blk s H scope (compEnvC scope cl C X.env) fp) W.no elt fe) (hs : ∀ x, foldedSetIterable iter X.env x = pure x := by intro _; rfl) :
    ME X W (.ListComp elt [⟨tg, iter, ifs, 0⟩] scope pos) (fLc (own.map (·.2)) fi k ft fe) :=
  PE.imp (pe_lc hc hN hi ok hg ht he hs) fun σ H Q h => lc_read hws (fun g S H d R c v r => c v r) h
theorem ms_setLc {i : Nat} {y : Str} {py : Pos} {elt tg iter : Expr} {ifs : List Expr} {scope : Scope} {own : List (Str × Nat)} {pos spos : Pos} {fi : F (List D)} {ws : List Nat} {k : FG} {ft : F Bool} {fe : FE} (hc : X.calm = true) (hN : X.N.Nodup) (hy : X.N[i]? = some y) (hyl : X.env.scope.names.lookup y = some .local)
    (hsw : swapsWith (.ListComp elt [⟨tg, iter, ifs, 0⟩] scope pos) (some (.Name y py)) spos.line X.env = pure true) (ok : BlkOk X.N X.env.scope scope own) (hws : ∀ i ∈ ws, i ∈ own.map (·.2)) (hi : MI X W tg iter fi)
    (hg : ∀ (s : Shared) (H : Hp) (C : Addr) (cl : List (Str × Addr)) (fp : List Addr), MG (X.blk s H scope (compEnvC scope cl C X.env) fp) W.no tg ws k) (ht : ∀ (s : Shared) (H : Hp) (C : Addr) (cl : List (Str × Addr)) (fp : List Addr), PTs (X.blk s H scope (compEnvC scope cl C X.env) fp) ifs (rdT (kwX X W) E00 ft))
    (he : ∀ (s : Shared) (H : Hp) (C : Addr) (cl : List (Str × Addr)) (fp : List Addr), ME (X.blk s H scope (compEnvC scope cl C X.env) fp) W.no elt fe) (hs : ∀ x, foldedSetIterable iter X.env x = pure x := by intro _; rfl) :
    MS X W (.Assign [.Name y py] (.ListComp elt [⟨tg, iter, ifs, 0⟩] scope pos) spos) (fSet i (fLc (own.map (·.2)) fi k ft fe)) :=
  PS.imp (ps_setLc hc hN hy hyl hsw hi ok hg ht he hs) fun D' σ H h => by
    obtain ⟨g, S, ρ, R, rs, p⟩ := h
    refine lc_read (C := fun g _ H' d => ∀ v, RD (kwX X W) g d v → gName i v σ H' D'.nx) hws (fun g S H d R c v r => c v r) ⟨g, S, ρ, R, rs, (pst.bind p).mp fun g1 S1 H1 d x R1 q v r => ?_⟩
    exact pst.here q R1 _ ((rs.mono x.toExtG).set i r)

/-! ### calls of own defs -/
theorem me_call {CX : CXT} {k n : Nat} {f : Addr} {fd : FuncData} {ps : List Str} {F : List D → Store → Out D} {x : Str} {p pos : Pos} {e : Expr} {es : List Expr} {a : MK.F (List D)}
    (gd : X.A.guards = some []) (G : FnG X.prog X.w X.K X.mg X.base CX k f fd ps (spM (kwX X W) n F)) (hr : Room k X.A) (hg : Gl X x) (hm : X.mg x = some (.ref f)) (hk : PySem.W.keepIn X.K (.ref f) = true) (hb : Binds X.K fd ps []) (hx : Passes CX X W)
    (ha : MA X W (e :: es) a) (hn : Many n a) (hdb : (x == ("__debug__" : Str)) = false := by decide) (he : starEach (e :: es) X.env = (false, eval e X.env) :: starEach es X.env := by rfl) (hpl : (backTo pos (starEach es X.env)).any (·.1) = false := by rfl) : ME X W (.Call (.Name x p) (e :: es) [] pos) (fCall F a) :=
  PE.imp (peG_call G gd hr hg hm hk hb hx ha hdb he hpl) fun σ H Q h => by
    obtain ⟨g, S, ρ, R, rs, q⟩ := h
    refine ⟨g, S, ρ, R, rs, q.bind.same.mp fun g' S' H' ds x R' ⟨e1, q⟩ vs rvs => ?_⟩
    show spM (kwX X W) n F vs H' Q W
    exact ⟨by rw [rvs.length]; exact hn _ _ _ _ e1, g', S', ds, R', rvs, q⟩
theorem me_call0 {CX : CXT} {k : Nat} {f : Addr} {fd : FuncData} {ps : List Str} {F : List D → Store → Out D} {x : Str} {p pos : Pos}
    (gd : X.A.guards = some []) (G : FnG X.prog X.w X.K X.mg X.base CX k f fd ps (spM (kwX X W) 0 F)) (hr : Room k X.A) (hg : Gl X x) (hm : X.mg x = some (.ref f)) (hk : PySem.W.keepIn X.K (.ref f) = true) (hb : Binds X.K fd ps []) (hx : Passes CX X W)
    (hdb : (x == ("__debug__" : Str)) = false := by decide) : ME X W (.Call (.Name x p) [] [] pos) (fCall F fNil) :=
  PE.imp (peG_call0 G gd hr hg hm hk hb hx hdb) fun σ H Q h => by
    obtain ⟨g, S, ρ, R, rs, q⟩ := h
    exact ⟨rfl, g, S, [], R, .nil, q⟩

/-! ### a def -/
def runB (N : Nat) (f : FS) : List D → Store → Out D := fun ds S => (f (ds.map some ++ List.replicate (N - ds.length) none) S).noex.bind fun fl S1 => match fl with
  | .nx _ => .ok .non S1
  | .rt d => .ok d S1
  | _ => .no
theorem RS.start {g : Gh} {N : List Str} {ds : List D} {vs : List V} (h : RDs K g ds vs) : RS K g (ds.map some ++ List.replicate (N.length - ds.length) none) (L2.start N vs) := by
  have hl := h.length
  refine ⟨by unfold L2.start; simp [hl], fun i d e => ?_⟩
  unfold L2.start
  by_cases hi : i < ds.length
  · rw [List.getElem?_append_left (by simpa using hi), List.getElem?_map] at e
    cases e2 : ds[i]? with
    | none => rw [e2] at e; cases e
    | some d' =>
      rw [e2] at e
      cases e
      obtain ⟨v, h1, h2⟩ := h.get e2
      refine ⟨v, ?_, h2⟩
      rw [List.getElem?_append_left (by simp; omega), List.getElem?_map, h1]
      rfl
  · rw [List.getElem?_append_right (by simpa using hi)] at e
    rw [List.getElem?_replicate] at e
    split at e <;> cases e
theorem fn_mkC {P : Program} {K : KW} {mg : Str → Option Value} {base : Heap} {x qual : Str} {st : Stmt} {f : Addr} {fd : FuncData} {N ps : List Str} {k : Nat} {fb : FS} (Fu : Fun K.K x qual st f fd) (Sc : FnScope N ps (defScope st))
    (h : ∀ (cdv : Value) (A : Around) (outer : List Env) (s : Shared) (H : Hp) (E : XK), fd.code = cdv → A.guards = some [] → Room k (A.deeper (envOfC qual (defScope st) s.heap.objs.size f cdv)) → MSs (cxOf CX0 P K.w K.K mg base N qual (defScope st) f cdv A outer s H E).nox (W0 K) (defBody st) fb) :
    FnG P K.w K.K mg base CX0 (k + 1) f fd ps (spM K ps.length (runB N.length fb)) := by
  refine FnG.of Fu Sc (fun vs H Q E h => h.1) fun cdv A outer s H vs Q E hcd gd hr hsp => ?_
  obtain ⟨_, g, S, ds, R, r, p⟩ := hsp
  refine ⟨_, (h cdv A outer s H E hcd gd hr).nox, g, S, _, R, RS.start r, ?_⟩
  unfold runB at p
  cases e : fb (ds.map some ++ List.replicate (N.length - ds.length) none) S with
  | no => rw [e] at p; exact p.elim
  | ex e' S' => rw [e] at p; exact p.elim
  | ok fl S' =>
    rw [e] at p
    cases fl with
    | nx ρ => exact fun g' H' x R' σ' rs' => p g' H' x R' _ .non
    | rt d => exact fun g' H' x R' v rv => p g' H' x R' v rv
    | bk ρ => exact p.elim
    | ct ρ => exact p.elim
theorem fn_mk {P : Program} {K : KW} {mg : Str → Option Value} {base : Heap} {x qual : Str} {st : Stmt} {f : Addr} {fd : FuncData} {N ps : List Str} {k : Nat} {fb : FS} (Fu : Fun K.K x qual st f fd) (Sc : FnScope N ps (defScope st))
    (h : ∀ (cdv : Value) (A : Around) (outer : List Env) (s : Shared) (H : Hp) (E : XK), A.guards = some [] → Room k (A.deeper (envOfC qual (defScope st) s.heap.objs.size f cdv)) → MSs (cxOf CX0 P K.w K.K mg base N qual (defScope st) f cdv A outer s H E).nox (W0 K) (defBody st) fb) :
    FnG P K.w K.K mg base CX0 (k + 1) f fd ps (spM K ps.length (runB N.length fb)) := fn_mkC Fu Sc fun cdv A outer s H E _ gd hr => h cdv A outer s H E gd hr
end
end MK

namespace MK
open PySem PySem.Spec PyProof.Rows L2

/-! ### enumerate(v), v a tuple: in the model's words -/
theorem meets_enum_one {v : Value} {o : Obj} {H : Heap → Prop} (B : Begins v o H) :
    Meets (Builtin.«enumerate.__new__» ⟨[.type "enumerate", v], []⟩) fun _ R s => H s.heap ∧
      R (.ok (.ret (.ref (s.heap.push o).objs.size)))
        { s with heap := (s.heap.push o).push { cls := .type "enumerate", data := .fields #[.none, .bool false, .ref s.heap.objs.size, rawInt 0, .none, .none] } } :=
  .of_wp fun prog w A R s h => by
    obtain ⟨hp, g, d, tk, os⟩ := s
    obtain ⟨h1, h⟩ := h
    have sub := sub_enumerate
    have begin_ : ∀ {A' : Around} {E : Value → Shared → Prop} {Q : Value → Shared → Prop}, Q (.ref hp.objs.size) ⟨hp.push o, g, d, tk, os⟩ →
        wpAny (model prog w) A' (pyIter v) Q E ⟨hp, g, d, tk, os⟩ := fun q => B.iter prog w _ _ ⟨hp, g, d, tk, os⟩ _ h1 q
    wp_walk using begin_
    refine wpAny_stack_any fun st => wpAny_pure ?_
    split
    · rename_i c _ _ _ _ _
      cases (c == Value.type "enumerate")
      all_goals
        wp_walk using begin_
        exact ⟨_, rfl, h⟩
    · wp_walk using begin_
      exact ⟨_, rfl, h⟩
theorem call_enum_one {prog : Program} {w : World} {A : Around} {E : Value → Shared → Prop} {s : Shared} {v : Value} {o : Obj} {H : Heap → Prop} {Q : Value → Shared → Prop}
    (B : Begins v o H) (h1 : H s.heap)
    (h : ∀ h', IsEnum h' (s.heap.objs.size + 1) s.heap.objs.size 0 .none → h'.get? s.heap.objs.size = some o →
      (∀ b u, s.heap.get? b = some u → h'.get? b = some u) → Q (.ref (s.heap.objs.size + 1)) { s with heap := h' }) :
    wpAny (model prog w) A (call (.type "enumerate") [v]) Q E s := by
  have size1 : (s.heap.push o).objs.size = s.heap.objs.size + 1 := Heap.size_push ..
  refine callType_new F.called_enumerate (by decide) (F.typeCall_enumerate_1 _) (F.newCall_enumerate_1 _) (fun obj => F.args_object_init_2 obj _) F.entry_enumerate_new (meets_enum_one B) ⟨h1, ?_⟩
  show _ ∧ _
  rw [size1]
  have it : IsEnum ((s.heap.push o).push { cls := .type "enumerate", data := .fields #[.none, .bool false, .ref s.heap.objs.size, rawInt 0, .none, .none] })
      (s.heap.objs.size + 1) s.heap.objs.size 0 .none := by
    rw [← size1]
    exact Heap.get?_push_size _ rfl
  exact ⟨⟨_, it, rfl⟩, h _ it (Heap.get?_push_of_some _ (Heap.get?_push_size _ B.free)) fun b u x => Heap.get?_push_of_some _ (Heap.get?_push_of_some _ x)⟩

def SqK (b : Bool) (K : PySem.W.Frag) (H : Hp) (a : Addr) (xs : List V) : Prop := match b with
  | true => SqL K H a xs
  | false => SqT K H a xs
def ArK (b : Bool) (h : Heap) (a : Addr) (items : Array Value) : Prop := match b with
  | true => h.IsList a items
  | false => h.IsTuple a items
def IrK (b : Bool) (h : Heap) (it a : Addr) (i : Nat) : Prop := match b with
  | true => h.IsListIter it a i
  | false => h.IsTupleIter it a i
def ioK (b : Bool) (a : Addr) : Obj := match b with
  | true => { cls := .type "list_iterator", data := .fields #[.ref a, .int 0 0] }
  | false => { cls := .type "tuple_iterator", data := .fields #[.ref a, .int 0 0] }
theorem begK (b : Bool) (a : Addr) (items : Array Value) : Begins (.ref a) (ioK b a) fun h => ArK b h a items := by
  cases b with
  | true => exact begins_list a items
  | false => exact begins_tuple a items
theorem ioK_ir {b : Bool} {a it : Addr} {h : Heap} (e : h.get? it = some (ioK b a)) : IrK b h it a 0 := by
  cases b with
  | true => exact ⟨_, e, rfl, rfl⟩
  | false => exact ⟨_, e, rfl, rfl⟩
theorem drawsK {prog : Program} {w : World} {A : Around} (hh : A.handled = none) (b : Bool) (it l : Addr) (hne : l ≠ it) (items : Array Value) :
    Draws prog w A it [it, l] items.size (fun i v => items[i]? = some v) (fun i h => IrK b h it l i ∧ ArK b h l items) := by
  cases b with
  | true => exact Draws.list hh it l hne items
  | false => exact Draws.tuple hh it l hne items
theorem IrK.at {b : Bool} {h h' : Heap} {it a : Addr} {i : Nat} (x : IrK b h it a i) (k : ∀ o, h.get? it = some o → h'.get? it = some o) : IrK b h' it a i := by
  cases b with
  | true => exact Heap.IsListIter.at x k
  | false => exact Heap.IsTupleIter.at x k
theorem IrK.obj {b : Bool} {h : Heap} {it a : Addr} {i : Nat} (x : IrK b h it a i) : ∃ o, h.get? it = some o ∧ ∀ v, o.data ≠ .cell v := by
  cases b with
  | true => obtain ⟨o, e, _, d⟩ := x; exact ⟨o, e, fun v q => by rw [d] at q; cases q⟩
  | false => obtain ⟨o, e, _, d⟩ := x; exact ⟨o, e, fun v q => by rw [d] at q; cases q⟩
theorem arK {X : Cx} {pins : List (Addr × Obj)} {s : Shared} {σ : L2.St} {H : Hp} (I : Inv X pins σ H s) {b : Bool} {a : Addr} {xs : List V} (h : SqK b X.K H a xs) : ∃ its : List Value, Vals xs its ∧ ArK b s.heap a its.toArray := by
  cases b with
  | true =>
    obtain ⟨its, rv, p, _⟩ := I.list h
    exact ⟨its, rv, p.isList⟩
  | false =>
    obtain ⟨its, rv, p, _⟩ := I.tuple h
    exact ⟨its, rv, p⟩
theorem sqK_inj {X : Cx} {pins : List (Addr × Obj)} {s : Shared} {σ : L2.St} {H : Hp} (I : Inv X pins σ H s) {b : Bool} {a : Addr} {xs ys : List V} (h : SqK b X.K H a xs) (h' : SqK b X.K H a ys) : xs = ys := by
  cases b with
  | true => exact I.list_inj h h'
  | false => exact I.tuple_inj h h'
theorem ArK.lt {b : Bool} {h : Heap} {a : Addr} {items : Array Value} (x : ArK b h a items) : a < h.objs.size := by
  cases b with
  | true => obtain ⟨o, e, _⟩ := x; exact Heap.lt_size e
  | false => obtain ⟨o, e, _⟩ := x; exact Heap.lt_size e
/-- what enumerate yields over the list or tuple at a -/
def ItE (b : Bool) (K : PySem.W.Frag) (a : Addr) : It where
  go := fun i H => ∃ (xs : List V) (x : V), SqK b K H a xs ∧ xs[i]? = some x
  yld := fun i H v H' => ∃ (T : Addr) (x : V) (o : PySem.Obj), v = .ref T ∧ H T = none ∧ o.dict = none ∧ H' = upd H T (.frz o (.tup [.int (i : Nat), x])) ∧ ∀ xs, SqK b K H a xs → xs[i]? = some x
  stop := fun i H => ∃ xs : List V, SqK b K H a xs ∧ xs.length ≤ i
theorem ArK.cls {b : Bool} {h : Heap} {a : Addr} {items : Array Value} (x : ArK b h a items) : ∃ o, h.get? a = some o ∧ (o.cls = .type "list" ∨ o.cls = .type "tuple") := by
  cases b with
  | true => obtain ⟨o, e, c, _⟩ := x; exact ⟨o, e, .inl c⟩
  | false => obtain ⟨o, e, c, _⟩ := x; exact ⟨o, e, .inr c⟩
theorem turnE {P : Program} {w : World} {K : PySem.W.Frag} {elts : List Expr} {kk : Nat} {tpos : Pos} (b : Bool) (a e it : Addr) :
    Turn P w K (.Tuple elts kk tpos) (ItE b K a) [e, it] e fun i h => (∃ old, IsEnum h e it ((i : Nat) : Int) old) ∧ IrK b h it a i ∧ e ≠ it ∧ a ≠ it where
  mem := List.mem_cons_self
  obj := by
    rintro i h ⟨⟨old, he⟩, ir, _⟩ b hb
    rcases List.mem_cons.mp hb with z | z
    · rw [z]
      exact ⟨_, he, fun v q => nomatch q⟩
    · rw [List.mem_singleton.mp z]
      exact ir.obj
  keep := by
    rintro i h h' ⟨⟨old, he⟩, hi, n1, n2⟩ k
    exact ⟨⟨old, k e List.mem_cons_self _ he⟩, hi.at fun o q => k it (List.mem_cons_of_mem _ List.mem_cons_self) o q, n1, n2⟩
  item := by
    intro X hP hw hK hc i pins s σ H E I hf st go
    subst hP hw hK
    obtain ⟨⟨old, he⟩, hit, ne, na⟩ := st
    obtain ⟨xs, x, hq, hx⟩ := go
    obtain ⟨its, rv, p⟩ := arK I hq
    obtain ⟨u, hu, ru⟩ := rv.get hx
    have elt : e < s.heap.objs.size := Heap.lt_size he
    have ilt : it < s.heap.objs.size := by
      obtain ⟨_, q, _⟩ := hit.obj
      exact Heap.lt_size q
    have il : i < its.toArray.size := by
      have := (List.getElem?_eq_some_iff.mp hu).1
      simpa using this
    have D := drawsK (prog := X.prog) (w := X.w) (A := X.A.in1) (I.ok.hd hc) b it a na its.toArray
    have ea : e ≠ a := fun z => by
      obtain ⟨o, q1, q2⟩ := p.cls
      rw [← z, he] at q1
      rw [← Option.some.inj q1] at q2
      rcases q2 with q2 | q2
      · exact absurd (Value.type.inj q2) (by decide)
      · exact absurd (Value.type.inj q2) (by decide)
    refine wpAny_pyNext_enum_itemC D he ⟨hit, p⟩ il ne (fun z => ?_) fun y h' tk hy ho hst hT hsz hk => ?_
    · rcases List.mem_cons.mp z with z | z
      · exact ne z
      · exact ea (List.mem_singleton.mp z)
    have ey : y = u := by
      have hy' : its.toArray[i]? = some y := hy
      simp only [List.getElem?_toArray] at hy'
      rw [hu] at hy'
      exact (Option.some.inj hy').symm
    subst ey
    refine ⟨_, rfl, wpAny_letOwnedTupleGo_enum (s := { s with heap := h', toks := tk + 1 }) ho fun h'' he' sb => ?_⟩
    have hT2 := (sb.2 _ (Nat.ne_of_gt elt)).trans hT
    have J : Inv X pins σ (upd H s.heap.objs.size (.frz { cls := .type "tuple", data := .seq #[.int i tk, y] } (.tup [.int (i : Nat), x]))) { s with heap := h'', toks := tk + 1 } := by
      refine I.turnedNew (ch := [e, it]) (fun b ob hb q => ?_) hf (Nat.le_refl _) ?_
      · have b1 : b ≠ e := fun z => hb (by rw [z]; exact List.mem_cons_self)
        have b2 : b ≠ it := fun z => hb (by rw [z]; exact List.mem_cons_of_mem _ List.mem_cons_self)
        exact (sb.2 b b1).trans (hk b ob b1 b2 q)
      · exact frz_ok hT2 ⟨by show 2 ≤ sizeLine; decide, [.int i tk, y], .cons ⟨_, rfl⟩ (.cons ru .nil), ⟨_, hT2, rfl, _, rfl⟩⟩
    refine ⟨.ref s.heap.objs.size, _, J, rfl, ⟨_, x, _, rfl, I.hok.fresh (Nat.le_refl _), rfl, rfl, fun ys hy => ?_⟩, ⟨⟨y, ?_⟩, hst.1.at fun o q => (sb.2 it ne.symm).trans q, ne, na⟩, fun b hb => ?_⟩
    · rw [sqK_inj I hy hq]; exact hx
    · have up : ((i + 1 : Nat) : Int) = (i : Int) + 1 := by omega
      rw [up]
      exact he'
    · have blt : b < s.heap.objs.size := by
        rcases List.mem_cons.mp hb with z | z
        · rw [z]; exact elt
        · rw [List.mem_singleton.mp z]; exact ilt
      rw [upd_ne (Nat.ne_of_lt blt)]
      exact (hf b hb).1
  done := by
    intro X hP hw hK hc i pins s σ H E I hf st stop
    subst hP hw hK
    obtain ⟨⟨old, he⟩, hit, ne, na⟩ := st
    obtain ⟨xs, hq, hx⟩ := stop
    obtain ⟨its, rv, p⟩ := arK I hq
    obtain ⟨f0, f1, f2, f3, f4, f5⟩ := hf it (List.mem_cons_of_mem _ List.mem_cons_self)
    have hl := rv.length
    have hT : s.TypeIs (.ref e) "enumerate" := ⟨_, he, rfl⟩
    unfold pyNext
    refine wpAny_bind (wpAny_attempt (wpAny_callSpecial?_slot (name := Str.ofString "__next__") hT F.slot_enumerate_next (wpAny_call_entry F.slot_enumerate_next hT F.entry_enumerate_next ?_ (F.args_enumerate_next_1 _))))
    show wpAny _ _ (field (.ref e) 2 >>= _) _ _ _
    refine wpAny_bind (wpAny_field he rfl (x := .ref it) rfl ?_)
    cases b
    · refine wpAny_bind (wpAny_nextOf_tuple_end (I.ok.hd hc) hit p (by simp; omega) fun h' z eb ex => ?_)
      obtain ⟨o, ho, hcl⟩ := ex
      refine wpAny_bind (wpAny_isInstance (T := "StopIteration") (b := true) ⟨o, ho, hcl⟩ isSubtype_stop (wpAny_pure ?_))
      exact ⟨rfl, I.turned (t' := s.toks) (fun b o hb q => eb b o hb q) f0 f1 f3 f4 f5⟩
    · refine wpAny_bind (wpAny_nextOf_list_end (I.ok.hd hc) hit p (by simp; omega) fun h' z eb ex => ?_)
      obtain ⟨o, ho, hcl⟩ := ex
      refine wpAny_bind (wpAny_isInstance (T := "StopIteration") (b := true) ⟨o, ho, hcl⟩ isSubtype_stop (wpAny_pure ?_))
      exact ⟨rfl, I.turned (t' := s.toks) (fun b o hb q => eb b o hb q) f0 f1 f3 f4 f5⟩
  self := by
    rintro A i s Q E ⟨⟨_, he⟩, _⟩ h
    exact wpAny_pyIter_enum he h
/-- enumerate(e): a list or a tuple -/
def iEn (K : PySem.W.Frag) (ta : TA) : TI := fun σ H R => ta σ H fun vs H1 => ∃ a, vs = [.ref a] ∧ ∃ b xs, SqK b K H1 a xs ∧ R (ItE b K a) H1
theorem pi_en {X : Cx} {e : Expr} {ta : TA} {p pos tpos : Pos} {elts : List Expr} {kk : Nat} (hg : Gl X "enumerate") (hm : X.mg "enumerate" = none) (ha : PA X [e] ta)
    (hs : starEach [e] X.env = [(false, eval e X.env)] := by rfl) : PI X (.Tuple elts kk tpos) (.Call (.Name "enumerate" p) [e] [] pos) (iEn X.K ta) := by
  constructor
  intro pins s σ H R I h
  refine Call_ (ld_blt I hg hm boot_enumerate (PyProof.Rows.callWith_type1 (thn (ha.run pos pins s σ H _ I h) ?_) hs rfl))
  rintro us s1 ⟨vs, H1, I1, r1, a, ev, way⟩
  subst ev
  cases r1 with
  | cons r rr =>
    cases rr
    cases r
    have two : ∀ (h' : Heap) (J : It) (tn : Nat → Heap → Prop), (∀ b u, s1.heap.get? b = some u → h'.get? b = some u) → Turn X.prog X.w X.K (.Tuple elts kk tpos) J [s1.heap.objs.size + 1, s1.heap.objs.size] (s1.heap.objs.size + 1) tn → tn 0 h' → R J H1 →
        PIE X pins σ (.Tuple elts kk tpos) R (.ref (s1.heap.objs.size + 1)) { s1 with heap := h' } := fun h' J tn k T st q => by
      refine ⟨s1.heap.objs.size + 1, [s1.heap.objs.size + 1, s1.heap.objs.size], tn, J, H1, rfl, I1.kept (t' := s1.toks) k, T, st, fun b hb => ?_, q⟩
      rcases List.mem_cons.mp hb with z | z
      · rw [z]
        exact I1.fpOk (Nat.le_succ _) (I1.hok.fresh (Nat.le_succ _))
      · rw [List.mem_singleton.mp z]
        exact I1.fpOk (Nat.le_refl _) (I1.hok.fresh (Nat.le_refl _))
    obtain ⟨b, xs, hq, q⟩ := way
    obtain ⟨its, rv, pl⟩ := arK I1 hq
    exact call_enum_one (begK b a its.toArray) pl fun h' he hit hk => wpAny_pyIter_enum he (two h' _ _ hk (turnE b a _ _) ⟨⟨.none, he⟩, ioK_ir hit, Nat.succ_ne_self _, Nat.ne_of_lt pl.lt⟩ q)
end MK

namespace MK
open PySem PySem.Spec PyProof.Rows L2

section
variable {X : Cx} {W : WT} {U : XK} {K : KW} {g : Gh} {S : Store} {H : Hp}

/-! ### sequences read -/
def D.asL (S : Store) : D → Option (List D)
  | .lst xs => some xs
  | .flst xs => some xs
  | .cell k => match S[k]? with
    | some (.lst xs) => some xs
    | _ => none
  | _ => none
def D.asT : D → Option (List D)
  | .tup xs => some xs
  | _ => none
theorem RD.asL (R : Rep K g S H) {d : D} {v : V} {xs : List D} (r : RD K g d v) (e : d.asL S = some xs) : ∃ a vs, v = .ref a ∧ SqL K H a vs ∧ RDs K g xs vs := by
  cases r with
  | lst h1 h2 =>
    cases e
    exact ⟨_, _, rfl, .inl (.inl (R.sub _ _ h1)), h2⟩
  | flst h1 h2 =>
    cases e
    exact ⟨_, _, rfl, R.sub.seq h1, h2⟩
  | cell h1 h2 =>
    rename_i k a
    unfold D.asL at e
    simp only at e
    split at e
    · rename_i ds q
      cases e
      obtain ⟨_, vs, h3, h4⟩ := R.lst q
      exact ⟨_, vs, rfl, .inl (.inl (by rw [← h2]; exact h3)), h4⟩
    · cases e
  | _ => cases e
theorem RD.asT (R : Rep K g S H) {d : D} {v : V} {xs : List D} (r : RD K g d v) (e : d.asT = some xs) : ∃ a vs, v = .ref a ∧ SqT K H a vs ∧ RDs K g xs vs := by
  cases r with
  | tup h1 h2 =>
    cases e
    exact ⟨_, _, rfl, sameT R.sub h1.sq, h2⟩
  | _ => cases e
def intsOf : List D → Option (List Int)
  | [] => some []
  | .int i :: r => (intsOf r).map (i :: ·)
  | _ => none
theorem RDs.ints : ∀ {ds : List D} {vs : List V} {ns : List Int}, RDs K g ds vs → intsOf ds = some ns → vs = ns.map V.int
  | _, _, _, .nil, e => by cases e; rfl
  | _, _, _, .cons (d := d) h r, e => by
    cases h with
    | int i =>
      unfold intsOf at e
      cases q : intsOf _ with
      | none => rw [q] at e; cases e
      | some ms =>
        rw [q] at e
        cases e
        rw [RDs.ints r q]; rfl
    | _ => cases e
theorem intsOf_map (ns : List Int) : intsOf (ns.map D.int) = some ns := by
  induction ns with
  | nil => rfl
  | cons n r ih => rw [List.map_cons]; unfold intsOf; rw [ih]; rfl

/-! ### data -/
mutual
def D.py : D → Option PyData
  | .non => some .none
  | .bl b => some (.bool b)
  | .int i => some (.int i)
  | .str x => some (.str x)
  | .tup xs => (D.pys xs).map .tuple
  | .lst xs => (D.pys xs).map .list
  | .flst xs => (D.pys xs).map .list
  | _ => none
def D.pys : List D → Option (List PyData)
  | [] => some []
  | x :: xs => match x.py, D.pys xs with
    | some p, some ps => some (p :: ps)
    | _, _ => none
end
def D.pyS (S : Store) : D → Option PyData
  | .cell k => match S[k]? with
    | some (.lst xs) => (D.pys xs).map .list
    | _ => none
  | d => d.py
mutual
theorem RD.py (s : Same g.G H) : ∀ {d : D} {v : V} {p : PyData}, RD K g d v → d.py = some p → Dp K H v p
  | _, _, _, .non, e => by cases e; exact .non
  | _, _, _, .bl b, e => by cases e; exact .bl b
  | _, _, _, .int i, e => by cases e; exact .int i
  | _, _, _, .str x, e => by cases e; exact .str x
  | _, _, _, .tup (ds := ds) h1 h2, e => by
    unfold D.py at e
    cases q : D.pys ds with
    | none => rw [q] at e; cases e
    | some ps =>
      rw [q] at e
      cases e
      exact .tup (sameT s h1.sq) (RDs.py s h2 q)
  | _, _, _, .lst (ds := ds) h1 h2, e => by
    unfold D.py at e
    cases q : D.pys ds with
    | none => rw [q] at e; cases e
    | some ps =>
      rw [q] at e
      cases e
      exact .lst (.inl (.inl (s _ _ h1))) (RDs.py s h2 q)
  | _, _, _, .flst (ds := ds) h1 h2, e => by
    unfold D.py at e
    cases q : D.pys ds with
    | none => rw [q] at e; cases e
    | some ps =>
      rw [q] at e
      cases e
      exact .lst (s.seq h1) (RDs.py s h2 q)
  | _, _, _, .cell _ _, e => by cases e
  | _, _, _, .dct _ _ _, e => by cases e
  | _, _, _, .ref _, e => by cases e
  | _, _, _, .ty _, e => by cases e
theorem RDs.py (s : Same g.G H) : ∀ {ds : List D} {vs : List V} {ps : List PyData}, RDs K g ds vs → D.pys ds = some ps → DpAll K H vs ps
  | _, _, _, .nil, e => by cases e; exact .nil
  | _, _, _, .cons (d := d) (ds := ds) h r, e => by
    unfold D.pys at e
    cases q : d.py with
    | none => rw [q] at e; cases e
    | some p =>
      cases q2 : D.pys ds with
      | none => rw [q, q2] at e; cases e
      | some ps =>
        rw [q, q2] at e
        cases e
        exact .cons (RD.py s h q) (RDs.py s r q2)
end
theorem RD.pyS (R : Rep K g S H) {d : D} {v : V} {p : PyData} (r : RD K g d v) (e : d.pyS S = some p) : Dp K H v p := by
  cases r with
  | cell h1 h2 =>
    rename_i k a
    unfold D.pyS at e
    simp only at e
    split at e
    · rename_i xs q
      obtain ⟨_, vs, h3, h4⟩ := R.lst q
      cases q2 : D.pys xs with
      | none => rw [q2] at e; cases e
      | some ps =>
        rw [q2] at e
        cases e
        refine .lst (.inl (.inl ?_)) (RDs.py R.sub h4 q2)
        rw [← h2]; exact h3
    · cases e
  | non => exact RD.py R.sub .non e
  | bl b => exact RD.py R.sub (.bl b) e
  | int i => exact RD.py R.sub (.int i) e
  | str x => exact RD.py R.sub (.str x) e
  | tup h1 h2 => exact RD.py R.sub (.tup h1 h2) e
  | lst h1 h2 => exact RD.py R.sub (.lst h1 h2) e
  | flst h1 h2 => exact RD.py R.sub (.flst h1 h2) e
  | dct _ _ _ => cases e
  | ref a => cases e
  | ty n => cases e

/-! ### numbers, +, * -/
def mulOk (i j : Int) : Prop := Builtin.Int.intBits i ≤ 64 ∨ Builtin.Int.intBits j ≤ 64 ∨ (Builtin.Int.intBits i : Int) + (Builtin.Int.intBits j : Int) ≤ 134217728
instance (i j : Int) : Decidable (mulOk i j) := inferInstanceAs (Decidable (_ ∨ _ ∨ _))
theorem mulOk.ok {i j : Int} (h : mulOk i j) : IntMulOk i j := by
  rcases h with h | h | h
  · exact .of_left h
  · exact .of_right h
  · exact CMulX.ok h
theorem op_mulG : OpR X (binaryOp .Mult) (rI mulOk fun i j => .int (i * j)) := opI fun _ _ _ _ _ _ _ hc q => mul_int q hc.ok
def addD : B2
  | .int i, .int j, S => .ok (.int (i + j)) S
  | .str a, .str b, S => if a.length + b.length ≤ line then .ok (.str (a ++ b)) S else .no
  | .lst xs, .lst ys, S => if xs.length + ys.length ≤ line then .ok (.lst (xs ++ ys)) S else .no
  | .tup xs, .tup ys, S => if xs.length + ys.length ≤ line then .ok (.tup (xs ++ ys)) S else .no
  | _, _, _ => .no
/-- t + u: a new tuple's object is told -/
def rCatP (K : PySem.W.Frag) : R2 := fun x y H Q => ∃ a b xs ys, x = .ref a ∧ y = .ref b ∧ SqT K H a xs ∧ SqT K H b ys ∧ xs.length + ys.length ≤ sizeLine ∧
  (xs = [] → Q (.ref b) H) ∧ (ys = [] → Q (.ref a) H) ∧ ∀ (p : Addr) (o : PySem.Obj), o.dict = none → H p = none → Q (.ref p) (upd H p (.frz o (.tup (xs ++ ys))))
theorem op_catP {X : Cx} : OpR X (binaryOp .Add) (rCatP X.K) := by
  intro pins s σ H x y v u Q I rx ry ⟨a, b, xs, ys, e1, e2, ha, hb, few, q0, q1, q2⟩
  subst e1 e2
  by_cases hx : xs = []
  · exact op_catA pins s σ H _ _ v u Q I rx ry ⟨a, b, xs, ys, rfl, rfl, ha, hb, few, q0, fun n => absurd hx n, fun n => absurd hx n⟩
  · cases rx
    cases ry
    obtain ⟨its, r1, p1, _⟩ := I.tuple ha
    obtain ⟨its2, r2, p2, _⟩ := I.tuple hb
    refine HT.cat_tup p1 p2 (fun z => hx (r1.nil_iff.mp z)) (fun z => ⟨.ref a, H, I, rfl, q1 (r2.nil_iff.mp z)⟩) (fun z => ?_) (by rw [← r1.length, ← r2.length]; exact few)
    refine ⟨.ref s.heap.objs.size, _, I.laid (o := .frz _ (.tup (xs ++ ys))) (t' := s.toks) (fun b ob q => Heap.get?_push_of_some _ q) (Nat.le_refl _) (frz_ok (Heap.get?_push_size _ rfl) ⟨?_, _, r1.append r2, IsTup.new _ _⟩), rfl, q2 _ _ rfl (I.hok.fresh (Nat.le_refl _))⟩
    rw [List.length_append]
    exact few
/-- t[lo:hi]: a new tuple's object is told -/
def rSlP (K : PySem.W.Frag) : V → Option Int → Option Int → Hp → VK → Prop := fun x lo hi H Q => ∃ a xs, x = .ref a ∧ SqT K H a xs ∧
  (HT.sIx xs.length 0 lo = 0 ∧ HT.sIx xs.length xs.length hi = xs.length → Q (.ref a) H) ∧ ∀ (p : Addr) (o : PySem.Obj), o.dict = none → H p = none → Q (.ref p) (upd H p (.frz o (.tup (cutV xs lo hi))))
theorem sl_tupP {X : Cx} : SlR X (rSlP X.K) := by
  intro pins s σ H x v vl vu lo hi sl Q I rx hs pl pu ⟨a, xs, e, hx, q1, q2⟩
  subst e
  by_cases hw : HT.sIx xs.length 0 lo = 0 ∧ HT.sIx xs.length xs.length hi = xs.length
  · exact sl_tupA pins s σ H _ v vl vu lo hi sl Q I rx hs pl pu ⟨a, xs, rfl, hx, q1, fun n => absurd hw n⟩
  · cases rx
    obtain ⟨its, r, ht, hz⟩ := I.tuple hx
    have hlen : its.toArray.size = xs.length := by rw [List.size_toArray]; exact r.length.symm
    refine ⟨"tuple", _, PyProof.Rows.slot_tuple_getitem.lookup, ht.typeIs, HT.getItem_tuple_cut ht hs pl pu (by rw [hlen]; exact hw) ?_ (by rw [hlen]; exact hz)⟩
    rw [hlen]
    exact ⟨.ref s.heap.objs.size, _, I.laid (t' := s.toks) (o := .frz _ (.tup (cutV xs lo hi))) (fun b ob q => Heap.get?_push_of_some _ q) (Nat.le_refl _)
      (frz_ok (Heap.get?_push_size _ rfl) ⟨Nat.le_trans (cutV_length xs lo hi) hz, _, (r.drop (HT.sIx xs.length 0 lo)).take (HT.sIx xs.length xs.length hi - HT.sIx xs.length 0 lo), IsTup.new _ _⟩), rfl, q2 _ _ rfl (I.hok.fresh (Nat.le_refl _))⟩
abbrev rAddA (K : PySem.W.Frag) : R2 := fun x y H Q => rI0 (fun i j => .int (i + j)) x y H Q ∨ (fun x y H Q => (∃ i j, x = .str i ∧ y = .str j ∧ i.length + j.length ≤ sizeLine ∧ Q (.str (i ++ j)) H)) x y H Q ∨ rCat x y H Q ∨ rCatP K x y H Q
theorem or_add : OpR X (binaryOp .Add) (rAddA X.K) := op_add.or (op_add_str.or (op_cat.or op_catP))
theorem o_add : Op2 K (rAddA K) addD := by
  intro W g S H dx dy x y Q R rx ry p
  cases rx with
  | int i =>
    cases ry with
    | int j => exact .inl ⟨i, j, rfl, rfl, pst.here p R _ (.int _)⟩
    | _ => exact p.elim
  | str a =>
    cases ry with
    | str b =>
      have p' : pst K W g (if a.length + b.length ≤ line then Out.ok (D.str (a ++ b)) S else Out.no) _ := p
      by_cases h : a.length + b.length ≤ line
      · rw [if_pos h] at p'
        exact .inr (.inl ⟨a, b, rfl, rfl, by rw [← line_eq]; exact h, pst.here p' R _ (.str _)⟩)
      · rw [if_neg h] at p'; exact p'.elim
    | _ => exact p.elim
  | lst h1 h2 =>
    rename_i a vs ds
    cases ry with
    | lst h3 h4 =>
      rename_i b ws es
      have p' : pst K W g (if ds.length + es.length ≤ line then Out.ok (D.lst (ds ++ es)) S else Out.no) _ := p
      by_cases h : ds.length + es.length ≤ line
      · rw [if_pos h] at p'
        refine .inr (.inr (.inl ⟨a, b, vs, ws, rfl, rfl, R.sub _ _ h1, R.sub _ _ h3, by rw [h2.length, h4.length, ← line_eq]; exact h, fun q hq => ?_⟩))
        exact p' _ _ (Gh.add_ext (R.newG hq)) (R.add hq) _ (.lst upd_same ((h2.append h4).mono (Gh.add_ext (R.newG hq)).toExtG))
      · rw [if_neg h] at p'; exact p'.elim
    | _ => exact p.elim
  | tup h1 h2 =>
    rename_i a vs ds
    cases ry with
    | tup h3 h4 =>
      rename_i b ws es
      have p' : pst K W g (if ds.length + es.length ≤ line then Out.ok (D.tup (ds ++ es)) S else Out.no) _ := p
      by_cases h : ds.length + es.length ≤ line
      · rw [if_pos h] at p'
        refine .inr (.inr (.inr ⟨a, b, vs, ws, rfl, rfl, sameT R.sub h1.sq, sameT R.sub h3.sq, by rw [h2.length, h4.length, ← line_eq]; exact h, fun e => ?_, fun e => ?_, fun q o ho hq => ?_⟩))
        · subst e
          cases h2
          exact pst.here p' R _ (.tup h3 h4)
        · subst e
          cases h4
          rw [List.append_nil] at p'
          exact pst.here p' R _ (.tup h1 h2)
        · exact p' _ _ (Gh.add_ext (R.newG hq)) (R.add hq) _ (.tup (.new ho) ((h2.append h4).mono (Gh.add_ext (R.newG hq)).toExtG))
      · rw [if_neg h] at p'; exact p'.elim
    | _ => exact p.elim
  | _ => exact p.elim
def subD : B2
  | .int i, .int j, S => .ok (.int (i - j)) S
  | _, _, _ => .no
theorem o_sub : Op2 K (rI0 fun i j => .int (i - j)) subD := by
  intro W g S H dx dy x y Q R rx ry p
  cases rx with
  | int i =>
    cases ry with
    | int j => exact ⟨i, j, rfl, rfl, pst.here p R _ (.int _)⟩
    | _ => exact p.elim
  | _ => exact p.elim
/-- int op int under a condition -/
theorem o_int {C : Int → Int → Prop} {gV : Int → Int → Int} {op : B2} (h : ∀ i j S, op (.int i) (.int j) S = .no ∨ (C i j ∧ op (.int i) (.int j) S = .ok (.int (gV i j)) S)) (hn : ∀ x y S, (∀ i j, ¬ (x = .int i ∧ y = .int j)) → op x y S = .no) : Op2 K (rI C fun i j => .int (gV i j)) op := by
  intro W g S H dx dy x y Q R rx ry p
  by_cases e : ∃ i j, dx = .int i ∧ dy = .int j
  · obtain ⟨i, j, rfl, rfl⟩ := e
    rw [RD.int_inv rx, RD.int_inv ry]
    rcases h i j S with q | ⟨c, q⟩
    · rw [q] at p; exact p.elim
    · rw [q] at p
      exact ⟨i, j, rfl, rfl, c, pst.here p R _ (.int _)⟩
  · rw [hn dx dy S fun i j z => e ⟨i, j, z⟩] at p; exact p.elim
def mulD : B2
  | .int i, .int j, S => if mulOk i j then .ok (.int (i * j)) S else .no
  | .lst xs, .int k, S => if -(2 ^ 63) ≤ k ∧ k < 2 ^ 63 ∧ xs.length * k.toNat ≤ line then .ok (.lst (List.replicate k.toNat xs).flatten) S else .no
  | _, _, _ => .no
abbrev rMulA : R2 := fun x y H Q => rI mulOk (fun i j => .int (i * j)) x y H Q ∨ rRep x y H Q
theorem or_mul : OpR X (binaryOp .Mult) rMulA := op_mulG.or op_rep
theorem RDs.rep {ds : List D} {vs : List V} (h : RDs K g ds vs) : ∀ n : Nat, RDs K g (List.replicate n ds).flatten (List.replicate n vs).flatten
  | 0 => .nil
  | n + 1 => by
    rw [List.replicate_succ, List.replicate_succ, List.flatten_cons, List.flatten_cons]
    exact h.append (RDs.rep h n)
theorem o_mul : Op2 K rMulA mulD := by
  intro W g S H dx dy x y Q R rx ry p
  cases rx with
  | int i =>
    cases ry with
    | int j =>
      have p' : pst K W g (if mulOk i j then Out.ok (D.int (i * j)) S else Out.no) _ := p
      by_cases h : mulOk i j
      · rw [if_pos h] at p'
        exact .inl ⟨i, j, rfl, rfl, h, pst.here p' R _ (.int _)⟩
      · rw [if_neg h] at p'; exact p'.elim
    | _ => exact p.elim
  | lst h1 h2 =>
    rename_i a vs ds
    cases ry with
    | int k =>
      have p' : pst K W g (if -(2 ^ 63) ≤ k ∧ k < 2 ^ 63 ∧ ds.length * k.toNat ≤ line then Out.ok (D.lst (List.replicate k.toNat ds).flatten) S else Out.no) _ := p
      by_cases h : -(2 ^ 63) ≤ k ∧ k < 2 ^ 63 ∧ ds.length * k.toNat ≤ line
      · rw [if_pos h] at p'
        refine .inr ⟨a, k, vs, rfl, rfl, R.sub _ _ h1, h.1, h.2.1, by rw [h2.length, ← line_eq]; exact h.2.2, fun q hq => ?_⟩
        exact p' _ _ (Gh.add_ext (R.newG hq)) (R.add hq) _ (.lst upd_same ((h2.rep _).mono (Gh.add_ext (R.newG hq)).toExtG))
      · rw [if_neg h] at p'; exact p'.elim
    | _ => exact p.elim
  | _ => exact p.elim
def divOk (j : Int) : Prop := 0 < j ∧ j.natAbs.log2 < 9000
instance (j : Int) : Decidable (divOk j) := inferInstanceAs (Decidable (_ ∧ _))
def divD : B2
  | .int i, .int j, S => if divOk j then .ok (.int (i / j)) S else .no
  | _, _, _ => .no
theorem o_div : Op2 K (rI CDivW fun i j => .int (i / j)) divD := o_int (fun i j S => by
    show (if divOk j then Out.ok (D.int (i / j)) S else Out.no) = .no ∨ (CDivW i j ∧ (if divOk j then Out.ok (D.int (i / j)) S else Out.no) = .ok _ S)
    by_cases h : divOk j
    · rw [if_pos h]; exact .inr ⟨h, rfl⟩
    · rw [if_neg h]; exact .inl rfl) fun x y S h => by
    cases x <;> first
      | rfl
      | (cases y <;> first | rfl | exact absurd ⟨rfl, rfl⟩ (h _ _))
def modD : B2
  | .int i, .int j, S => if 0 < j then .ok (.int (i % j)) S else .no
  | _, _, _ => .no
theorem o_mod : Op2 K (rI (fun _ j => 0 < j) fun i j => .int (i % j)) modD := o_int (fun i j S => by
    show (if 0 < j then Out.ok (D.int (i % j)) S else Out.no) = .no ∨ (0 < j ∧ (if 0 < j then Out.ok (D.int (i % j)) S else Out.no) = .ok _ S)
    by_cases h : 0 < j
    · rw [if_pos h]; exact .inr ⟨h, rfl⟩
    · rw [if_neg h]; exact .inl rfl) fun x y S h => by
    cases x <;> first
      | rfl
      | (cases y <;> first | rfl | exact absurd ⟨rfl, rfl⟩ (h _ _))
def powOk (i j : Int) : Prop := 0 ≤ j ∧ j ≤ 1000000 ∧ i.natAbs < 2 ^ 64
instance (i j : Int) : Decidable (powOk i j) := inferInstanceAs (Decidable (_ ∧ _))
def powD : B2
  | .int i, .int j, S => if powOk i j then .ok (.int (i ^ j.toNat)) S else .no
  | _, _, _ => .no
theorem o_pow : Op2 K (rI CPow fun i j => .int (i ^ j.toNat)) powD := o_int (fun i j S => by
    show (if powOk i j then Out.ok (D.int (i ^ j.toNat)) S else Out.no) = .no ∨ (CPow i j ∧ (if powOk i j then Out.ok (D.int (i ^ j.toNat)) S else Out.no) = .ok _ S)
    by_cases h : powOk i j
    · rw [if_pos h]; exact .inr ⟨h, rfl⟩
    · rw [if_neg h]; exact .inl rfl) fun x y S h => by
    cases x <;> first
      | rfl
      | (cases y <;> first | rfl | exact absurd ⟨rfl, rfl⟩ (h _ _))
def negD : B1
  | .int i, S => .ok (.int (-i)) S
  | _, _ => .no
theorem o_neg : Op1 K (rU fun i => .int (-i)) negD := by
  intro W g S H dx x Q R rx p
  cases rx with
  | int i => exact ⟨i, rfl, pst.here p R _ (.int _)⟩
  | _ => exact p.elim

/-! ### comparisons -/
def eqP (x y : D) (S : Store) : Out D := match x.pyS S, y.pyS S with
  | some p, some q => if SeqAt.shaped p = true ∧ SeqAt.shaped q = true then .ok (.bl (PyData.eqv p q)) S else .no
  | _, _ => .no
def neP (x y : D) (S : Store) : Out D := match x.pyS S, y.pyS S with
  | some p, some q => if SeqAt.shaped p = true ∧ SeqAt.shaped q = true then .ok (.bl (!PyData.eqv p q)) S else .no
  | _, _ => .no
def eqD : B2
  | .str a, .str b, S => .ok (.bl (decide (a = b))) S
  | x, y, S => eqP x y S
def neD : B2
  | .str a, .str b, S => .ok (.bl (!decide (a = b))) S
  | x, y, S => neP x y S
theorem eqD_str (x y : D) (S : Store) : (∃ a b, x = .str a ∧ y = .str b ∧ eqD x y S = .ok (.bl (decide (a = b))) S ∧ neD x y S = .ok (.bl (!decide (a = b))) S) ∨ (eqD x y S = eqP x y S ∧ neD x y S = neP x y S) := by
  cases x <;> first
    | exact .inr ⟨rfl, rfl⟩
    | (cases y <;> first | exact .inr ⟨rfl, rfl⟩ | exact .inl ⟨_, _, rfl, rfl, rfl, rfl⟩)
abbrev rEqA (K : PySem.W.Frag) : R2 := fun x y H Q => rEq x y H Q ∨ rEqD K x y H Q
abbrev rNeA (K : PySem.W.Frag) : R2 := fun x y H Q => rNe x y H Q ∨ rNeD K x y H Q
theorem or_eq {k : Nat} (hr : Room k X.A) : OpR X (compareOp .Eq) (rEqA X.K) := op_eq.or (op_eqD hr.units)
theorem or_ne {k : Nat} (hr : Room k X.A) : OpR X (compareOp .NotEq) (rNeA X.K) := op_ne.or (op_neD hr.units)
theorem o_eq : Op2 K (rEqA K) eqD := by
  intro W g S H dx dy x y Q R rx ry p
  rcases eqD_str dx dy S with ⟨a, b, rfl, rfl, e, _⟩ | ⟨e, _⟩
  · rw [e] at p
    rw [rx.str_inv, ry.str_inv]
    have e2 : decide (V.str a = V.str b) = decide (a = b) := by
      by_cases q : a = b
      · subst q; simp
      · rw [decide_eq_false q, decide_eq_false fun z => q (V.str.inj z)]
    refine .inl ⟨rfl, ?_⟩
    rw [e2]
    exact pst.here p R _ (.bl _)
  rw [e] at p
  unfold eqP at p
  cases e1 : dx.pyS S with
  | none => rw [e1] at p; exact p.elim
  | some a =>
    cases e2 : dy.pyS S with
    | none => rw [e1, e2] at p; exact p.elim
    | some b =>
      rw [e1, e2] at p
      have p' : pst K W g (if SeqAt.shaped a = true ∧ SeqAt.shaped b = true then Out.ok (D.bl (PyData.eqv a b)) S else Out.no) _ := p
      by_cases h : SeqAt.shaped a = true ∧ SeqAt.shaped b = true
      · rw [if_pos h] at p'
        exact .inr ⟨a, b, rx.pyS R e1, ry.pyS R e2, h.1, h.2, pst.here p' R _ (.bl _)⟩
      · rw [if_neg h] at p'; exact p'.elim
theorem o_ne : Op2 K (rNeA K) neD := by
  intro W g S H dx dy x y Q R rx ry p
  rcases eqD_str dx dy S with ⟨a, b, rfl, rfl, _, e⟩ | ⟨_, e⟩
  · rw [e] at p
    rw [rx.str_inv, ry.str_inv]
    have e2 : decide (V.str a = V.str b) = decide (a = b) := by
      by_cases q : a = b
      · subst q; simp
      · rw [decide_eq_false q, decide_eq_false fun z => q (V.str.inj z)]
    refine .inl ⟨rfl, ?_⟩
    rw [e2]
    exact pst.here p R _ (.bl _)
  rw [e] at p
  unfold neP at p
  cases e1 : dx.pyS S with
  | none => rw [e1] at p; exact p.elim
  | some a =>
    cases e2 : dy.pyS S with
    | none => rw [e1, e2] at p; exact p.elim
    | some b =>
      rw [e1, e2] at p
      have p' : pst K W g (if SeqAt.shaped a = true ∧ SeqAt.shaped b = true then Out.ok (D.bl (!PyData.eqv a b)) S else Out.no) _ := p
      by_cases h : SeqAt.shaped a = true ∧ SeqAt.shaped b = true
      · rw [if_pos h] at p'
        exact .inr ⟨a, b, rx.pyS R e1, ry.pyS R e2, h.1, h.2, pst.here p' R _ (.bl _)⟩
      · rw [if_neg h] at p'; exact p'.elim
def cmpD (f : Int → Int → Bool) : B2
  | .int i, .int j, S => .ok (.bl (f i j)) S
  | _, _, _ => .no
theorem o_cmp {f : Int → Int → Bool} : Op2 K (rI0 fun i j => .bl (f i j)) (cmpD f) := by
  intro W g S H dx dy x y Q R rx ry p
  cases rx with
  | int i =>
    cases ry with
    | int j => exact ⟨i, j, rfl, rfl, pst.here p R _ (.bl _)⟩
    | _ => exact p.elim
  | _ => exact p.elim
abbrev ltD : B2 := cmpD fun i j => decide (i < j)
abbrev leD : B2 := cmpD fun i j => decide (i ≤ j)
abbrev gtD : B2 := cmpD fun i j => decide (j < i)
abbrev geD : B2 := cmpD fun i j => decide (j ≤ i)
def isNon : D → Bool
  | .non => true
  | _ => false
theorem RD.isNon {d : D} {v : V} (r : RD K g d v) : decide (v = .non) = isNon d := by cases r <;> rfl
def isD : B2
  | x, .non, S => .ok (.bl (isNon x)) S
  | _, _, _ => .no
def isnotD : B2
  | x, .non, S => .ok (.bl (!isNon x)) S
  | _, _, _ => .no
theorem o_is : Op2 K (fun x y H Q => y = .non ∧ Q (.bl (decide (x = .non))) H) isD := by
  intro W g S H dx dy x y Q R rx ry p
  cases ry with
  | non =>
    rw [rx.isNon]
    have p' : pst K W g (Out.ok (D.bl (isNon dx)) S) _ := p
    exact ⟨rfl, pst.here p' R _ (.bl _)⟩
  | _ => exact p.elim
theorem o_isnot : Op2 K (fun x y H Q => y = .non ∧ Q (.bl (!decide (x = .non))) H) isnotD := by
  intro W g S H dx dy x y Q R rx ry p
  cases ry with
  | non =>
    rw [rx.isNon]
    have p' : pst K W g (Out.ok (D.bl (!isNon dx)) S) _ := p
    exact ⟨rfl, pst.here p' R _ (.bl _)⟩
  | _ => exact p.elim

/-! ### subscripts, slices -/
theorem atI_rd {ds : List D} {vs : List V} {i : Int} {d : D} (r : RDs K g ds vs) (e : atI ds i = some d) : ∃ v, atI vs i = some v ∧ RD K g d v := by
  unfold atI at e ⊢
  rw [r.length]
  cases q : ixN ds.length i with
  | none => rw [q] at e; cases e
  | some j =>
    rw [q] at e
    exact r.get (show ds[j]? = some d from e)
def ixStr (x : D) (i : Int) (S : Store) : Out D := match x with
  | .str z => if z.length ≤ line then (match atI z.cps.toList i with
    | some c => .ok (.str ⟨#[c]⟩) S
    | none => .no) else .no
  | _ => .no
def ixD : B2 := fun x y S => match y with
  | .int i => match x.asL S with
    | some xs => match atI xs i with
      | some d => .ok d S
      | none => .no
    | none => match x.asT with
      | some xs => match atI xs i with
        | some d => .ok d S
        | none => .no
      | none => ixStr x i S
  | _ => .no
abbrev rIxA (K : PySem.W.Frag) : R2 := fun x y H Q => (rIxL K x y H Q ∨ rIxT K x y H Q) ∨ rIxS x y H Q
theorem or_ix : IxR X (rIxA X.K) := (ix_list.or ix_tup).or ix_str
theorem o_ix : Op2 K (rIxA K) ixD := by
  intro W g S H dx dy x y Q R rx ry p
  cases ry with
  | int i =>
    unfold ixD at p
    cases e1 : dx.asL S with
    | some xs =>
      obtain ⟨a, vs, rfl, h1, h2⟩ := rx.asL R e1
      cases e2 : atI xs i with
      | none => simp only [e1, e2] at p; exact p.elim
      | some d =>
        simp only [e1, e2] at p
        obtain ⟨v, h3, h4⟩ := atI_rd h2 e2
        exact .inl (.inl ⟨a, vs, i, v, rfl, rfl, h1, h3, pst.here p R v h4⟩)
    | none =>
      cases e3 : dx.asT with
      | none =>
        simp only [e1, e3] at p
        unfold ixStr at p
        cases rx with
        | str z =>
          simp only at p
          by_cases c : z.length ≤ line
          · rw [if_pos c] at p
            cases e4 : atI z.cps.toList i with
            | none => simp only [e4] at p; exact p.elim
            | some k =>
              simp only [e4] at p
              exact .inr ⟨z, i, k, rfl, rfl, by rw [← line_eq]; exact c, e4, pst.here p R _ (.str _)⟩
          · rw [if_neg c] at p; exact p.elim
        | _ => exact p.elim
      | some xs =>
        obtain ⟨a, vs, rfl, h1, h2⟩ := rx.asT R e3
        cases e2 : atI xs i with
        | none => simp only [e1, e3, e2] at p; exact p.elim
        | some d =>
          simp only [e1, e3, e2] at p
          obtain ⟨v, h3, h4⟩ := atI_rd h2 e2
          exact .inl (.inr ⟨a, vs, i, v, rfl, rfl, h1, h3, pst.here p R v h4⟩)
  | _ => exact p.elim
/-- the parts of a slice -/
def rdO (K : KW) (W : XK) (f : F (Option Int)) : TO := fun σ H Q => rd K W f σ H fun _ _ H' o => Q o H'
abbrev MO (X : Cx) (W : WT) (e : Option Expr) (f : F (Option Int)) : Prop := PO X e (rdO (kwX X W) W.E f)
theorem PO.imp {X : Cx} {e : Option Expr} {t t' : TO} (h : PO X e t) (i : ∀ σ H Q, t' σ H Q → t σ H Q) : PO X e t' := ⟨fun pins s σ H Q I q => h.run pins s σ H Q I (i σ H Q q)⟩
def fO (f : FE) : F (Option Int) := fun ρ S => (f ρ S).bind fun d S1 => match d with
  | .int i => .ok (some i) S1
  | _ => .no
theorem mo_none : MO X W none (fC none) := PO.imp po_none fun σ H Q h => by
  obtain ⟨g, S, ρ, R, rs, p⟩ := h
  exact pst.here p R
theorem mo_some {e : Expr} {f : FE} (h : ME X W e f) : MO X W (some e) (fO f) := PO.imp (po_some h) fun σ H Q h => by
  obtain ⟨g, S, ρ, R, rs, p⟩ := h
  refine ⟨g, S, ρ, R, rs, (pst.bind p).mp fun g1 S1 H1 d x R1 q v r => ?_⟩
  cases r with
  | int i => exact ⟨i, rfl, pst.here q R1⟩
  | _ => exact q.elim
def cutD (xs : List D) (lo hi : Option Int) : List D := (xs.drop (HT.sIx xs.length 0 lo)).take (HT.sIx xs.length xs.length hi - HT.sIx xs.length 0 lo)
theorem RDs.cut {ds : List D} {vs : List V} (r : RDs K g ds vs) (lo hi : Option Int) : RDs K g (cutD ds lo hi) (cutV vs lo hi) := by
  unfold cutD cutV
  rw [r.length]
  exact (r.drop _).take _
def slD (x : D) (lo hi : Option Int) (S : Store) : Out D := match x.asL S with
  | some xs => .ok (.lst (cutD xs lo hi)) S
  | none => match x.asT with
    | some xs => .ok (.tup (cutD xs lo hi)) S
    | none => .no
def fSl (a : FE) (lo hi : F (Option Int)) : FE := fun ρ S => (a ρ S).bind fun x S1 => (lo ρ S1).bind fun l S2 => (hi ρ S2).bind fun u S3 => slD x l u S3
theorem cut_all {ds : List D} {lo hi : Option Int} (h : HT.sIx ds.length 0 lo = 0 ∧ HT.sIx ds.length ds.length hi = ds.length) : cutD ds lo hi = ds := by
  unfold cutD
  rw [h.1, h.2]
  simp
theorem me_slice {e : Expr} {lo hi : Option Expr} {p2 pos : Pos} {f : FE} {fl fh : F (Option Int)} (he : ME X W e f) (hl : MO X W lo fl) (hu : MO X W hi fh) : ME X W (.Subscript e (.Slice lo hi none p2) pos) (fSl f fl fh) :=
  PE.imp (pe_slice (sl_list.or sl_tupP) he hl hu) fun σ H Q h => by
    obtain ⟨g, S, ρ, R, rs, p⟩ := h
    refine ⟨g, S, ρ, R, rs, (pst.bind p).mp fun g1 S1 H1 dx x1 R1 p1 x rx => ?_⟩
    refine ⟨g1, S1, ρ, R1, rs.mono x1.toExtG, p1.bind.mp fun g2 S2 H2 l x2 R2 p2 => ?_⟩
    refine ⟨g2, S2, ρ, R2, (rs.mono x1.toExtG).mono x2.toExtG, p2.bind.mp fun g3 S3 H3 u x3 R3 p3 => ?_⟩
    have rx3 := (rx.mono x2.toExtG).mono x3.toExtG
    unfold slD at p3
    cases e1 : dx.asL S3 with
    | some xs =>
      rw [e1] at p3
      obtain ⟨a, vs, rfl, h1, h2⟩ := rx3.asL R3 e1
      refine .inl ⟨a, vs, rfl, h1, fun q hq => ?_⟩
      exact p3 _ _ (Gh.add_ext (R3.newG hq)) (R3.add hq) _ (.lst upd_same ((h2.cut l u).mono (Gh.add_ext (R3.newG hq)).toExtG))
    | none =>
      cases e3 : dx.asT with
      | none => simp only [e1, e3] at p3; exact p3.elim
      | some xs =>
        simp only [e1, e3] at p3
        obtain ⟨a, vs, rfl, h1, h2⟩ := rx3.asT R3 e3
        refine .inr ⟨a, vs, rfl, h1, fun w => ?_, fun q o ho hq => ?_⟩
        · rw [h2.length] at w
          rw [cut_all w] at p3
          cases rx3 with
          | tup q1 q2 =>
            cases e3
            exact pst.here p3 R3 _ (.tup q1 q2)
          | _ => cases e3
        · exact p3 _ _ (Gh.add_ext (R3.newG hq)) (R3.add hq) _ (.tup (.new ho) ((h2.cut l u).mono (Gh.add_ext (R3.newG hq)).toExtG))
/-- a store into a cell -/
def setD : B3
  | .cell k, .int i, v, S => match S[k]? with
    | some (.lst xs) => match ixN xs.length i with
      | some j => .ok () (S.set k (.lst (xs.set j v)))
      | none => .no
    | _ => .no
  | _, _, _, _ => .no
theorem o_set : Set3 K rSetL setD := by
  intro W g S H d1 d2 d3 o i v Q R r1 r2 r3 p
  cases r1 with
  | cell h1 h2 =>
    rename_i k a
    cases r2 with
    | int j =>
      unfold setD at p
      simp only at p
      cases e : S[k]? with
      | none => rw [e] at p; exact p.elim
      | some c =>
        cases c with
        | dead => rw [e] at p; exact p.elim
        | dct _ => rw [e] at p; exact p.elim
        | lst xs =>
          rw [e] at p
          simp only at p
          cases e2 : ixN xs.length j with
          | none => rw [e2] at p; exact p.elim
          | some n =>
            rw [e2] at p
            obtain ⟨_, vs, h3, h4⟩ := R.lst e
            rw [h2] at h3
            refine ⟨a, vs, j, n, rfl, rfl, h3, by rw [h4.length]; exact e2, ?_⟩
            have R' := R.store (k := k) (by rw [e]; trivial) (h4.set r3 n)
            rw [h2] at R'
            exact p g _ (.refl g) R'
    | _ => exact p.elim
  | _ => exact p.elim
/-- o[i] by values, where an operator stores it back -/
theorem get_list : PGet X (rIxL X.K) := by
  intro pins s σ H o i ov iv Q I ro ri h
  obtain ⟨p, xs, k, z, rfl, rfl, hq, he, q⟩ := h
  cases ro
  obtain ⟨t, rfl⟩ := ri
  obtain ⟨its, r, pl, hz⟩ := I.list hq
  obtain ⟨j, h1, h2, h3, h4, h5⟩ := atI_get he
  obtain ⟨w, ew, rw'⟩ := r.get h2
  have hl := r.length
  have big := line63
  have fin : EP X pins σ Q w s := ⟨z, H, I, rw', q⟩
  by_cases h0 : 0 ≤ k
  · have hj : k.toNat = j := by
      rw [seqIndex_of h0 h5] at h1
      exact Option.some.inj h1
    exact wpAny_getItem_list pl.isList h0 (by omega) (by rw [hj]; simpa using ew) fin
  · have hj : (k + (its.toArray.size : Int)).toNat = j := by
      rw [seqIndex_neg (by omega) h4] at h1
      rw [List.size_toArray, ← hl]
      exact Option.some.inj h1
    exact wpAny_getItem_list_neg pl.isList (by omega) (by rw [List.size_toArray]; omega) (by omega) (by rw [hj]; simpa using ew) fin
def ixLD : B2 := fun x y S => match y with
  | .int i => match x.asL S with
    | some xs => match atI xs i with
      | some d => .ok d S
      | none => .no
    | none => .no
  | _ => .no
theorem o_ixL : Op2 K (rIxL K) ixLD := by
  intro W g S H dx dy x y Q R rx ry p
  cases ry with
  | int i =>
    unfold ixLD at p
    cases e1 : dx.asL S with
    | none => simp only [e1] at p; exact p.elim
    | some xs =>
      obtain ⟨a, vs, rfl, h1, h2⟩ := rx.asL R e1
      cases e2 : atI xs i with
      | none => simp only [e1, e2] at p; exact p.elim
      | some d =>
        simp only [e1, e2] at p
        obtain ⟨v, h3, h4⟩ := atI_rd h2 e2
        exact ⟨a, vs, i, v, rfl, rfl, h1, h3, pst.here p R v h4⟩
  | _ => exact p.elim
def addID : B2
  | .int i, .int j, S => .ok (.int (i + j)) S
  | _, _, _ => .no
theorem o_addI : Op2 K (ipI fun i j => i + j) addID := by
  intro W g S H dx dy x y Q R rx ry p
  cases rx with
  | int i =>
    cases ry with
    | int j => exact ⟨i, j, rfl, rfl, pst.here p R _ (.int _)⟩
    | _ => exact p.elim
  | _ => exact p.elim
end
end MK

namespace MK
open PySem PySem.Spec PyProof.Rows L2

theorem bb_len : bootBuiltins "len" = some (.builtin "len") := by decide +kernel
theorem bb_abs : bootBuiltins "abs" = some (.builtin "abs") := by decide +kernel
theorem bb_sum : bootBuiltins "sum" = some (.builtin "sum") := by decide +kernel
theorem bb_max : bootBuiltins "max" = some (.builtin "max") := by decide +kernel
theorem bb_min : bootBuiltins "min" = some (.builtin "min") := by decide +kernel
theorem bb_repr : bootBuiltins "repr" = some (.builtin "repr") := by decide +kernel
theorem bb_int : bootBuiltins "int" = some (.type "int") := by decide +kernel
theorem bb_tuple : bootBuiltins "tuple" = some (.type "tuple") := by decide +kernel
theorem bb_list : bootBuiltins "list" = some (.type "list") := by decide +kernel
theorem bb_str : bootBuiltins "str" = some (.type "str") := by decide +kernel

section
variable {X : Cx} {W : WT} {U : XK} {K : KW}
theorem RDs.one {g : Gh} {d : D} {vs : List V} (h : RDs K g [d] vs) : ∃ v, vs = [v] ∧ RD K g d v := by
  cases h with
  | cons r rr => cases rr; exact ⟨_, rfl, r⟩
theorem RDs.two {g : Gh} {d e : D} {vs : List V} (h : RDs K g [d, e] vs) : ∃ v w, vs = [v, w] ∧ RD K g d v ∧ RD K g e w := by
  cases h with
  | cons r rr =>
    obtain ⟨w, h1, h2⟩ := rr.one
    subst h1
    exact ⟨_, _, rfl, r, h2⟩
abbrev BN := List D → Store → Out D
def absD : BN := fun ds S => match ds with
  | [d] => match d with
    | .int i => .ok (.int (if i < 0 then -i else i)) S
    | _ => .no
  | _ => .no
theorem c_abs : CallM K (fun xs H Q => ∃ i, xs = [.int i] ∧ Q (.int (if i < 0 then -i else i)) H) absD := by
  intro W g S H ds vs Q R r p
  match ds, r, p with
  | [], _, p => exact p.elim
  | _ :: _ :: _, _, p => exact p.elim
  | [d], r, p =>
    obtain ⟨v, rfl, r0⟩ := r.one
    cases r0 with
    | int i => exact ⟨i, rfl, pst.here (W := W) (a := D.int (if i < 0 then -i else i)) p R _ (.int _)⟩
    | _ => exact p.elim
def intD : BN := fun ds S => match ds with
  | [d] => match d with
    | .int i => .ok (.int i) S
    | .bl b => .ok (.int (if b then 1 else 0)) S
    | _ => .no
  | _ => .no
theorem c_int : CallM K (fun xs H Q => (∃ i, xs = [.int i] ∧ Q (.int i) H) ∨ ∃ k, xs = [.bl k] ∧ Q (.int (if k then 1 else 0)) H) intD := by
  intro W g S H ds vs Q R r p
  match ds, r, p with
  | [], _, p => exact p.elim
  | _ :: _ :: _, _, p => exact p.elim
  | [d], r, p =>
    obtain ⟨v, rfl, r0⟩ := r.one
    cases r0 with
    | int i => exact .inl ⟨i, rfl, pst.here (W := W) (a := D.int i) p R _ (.int _)⟩
    | bl b => exact .inr ⟨b, rfl, pst.here (W := W) (a := D.int (if b then 1 else 0)) p R _ (.int _)⟩
    | _ => exact p.elim
def lenD : BN := fun ds S => match ds with
  | [d] => match d.asL S with
    | some xs => .ok (.int xs.length) S
    | none => match d with
      | .tup xs => .ok (.int xs.length) S
      | .str x => if x.length ≤ line then .ok (.int x.length) S else .no
      | _ => .no
  | _ => .no
abbrev rLenA (K : PySem.W.Frag) : List V → Hp → VK → Prop := fun xs H Q => (fun xs H Q => ∃ p ys, xs = [.ref p] ∧ (SqL K H p ys ∨ SqT K H p ys) ∧ Q (.int ys.length) H) xs H Q ∨ (fun xs H Q => ∃ z, xs = [.str z] ∧ z.length ≤ sizeLine ∧ Q (.int z.length) H) xs H Q
theorem cr_lenA : CallR X (.builtin "len") (rLenA X.K) := call_len_seq.or call_len_str
theorem c_len : CallM K (rLenA K) lenD := by
  intro W g S H ds vs Q R r p
  match ds, r, p with
  | [], _, p => exact p.elim
  | _ :: _ :: _, _, p => exact p.elim
  | [d], r, p =>
    obtain ⟨v, rfl, r0⟩ := r.one
    unfold lenD at p
    simp only at p
    cases e : d.asL S with
    | some xs =>
      rw [e] at p
      obtain ⟨a, ws, rfl, h1, h2⟩ := r0.asL R e
      exact .inl ⟨a, ws, rfl, .inl h1, by rw [h2.length]; exact pst.here p R _ (.int _)⟩
    | none =>
      rw [e] at p
      cases r0 with
      | tup h1 h2 => exact .inl ⟨_, _, rfl, .inr (sameT R.sub h1.sq), by rw [h2.length]; exact pst.here p R _ (.int _)⟩
      | str x =>
        simp only at p
        by_cases h : x.length ≤ line
        · rw [if_pos h] at p
          exact .inr ⟨x, rfl, by rw [← line_eq]; exact h, pst.here p R _ (.int _)⟩
        · rw [if_neg h] at p; exact p.elim
      | _ => exact p.elim
/-- sum of a tuple of ints -/
theorem cr_sumT (hc : X.calm = true) : CallR X (.builtin "sum") (fun vs H Q => ∃ (a : Addr) (ns : List Int), vs = [V.ref a] ∧ SqT X.K H a (ns.map V.int) ∧ Q (.int ns.sum) H) := by
  intro pins s σ H vs us Q I r h
  obtain ⟨a, ns, rfl, hs, q⟩ := h
  obtain ⟨its, rv, ht, _⟩ := I.tuple hs
  rw [Vals.ref1 r]
  obtain ⟨xs, e⟩ := rv.ints.allInts.items
  have hn : numsOf (intItems xs).toList = ns := by rw [← e]; exact rv.ints.numsOf
  rw [nums_intItems] at hn
  rw [e] at ht
  refine PySem.W.ktm_sumG (I.ok.hd hc) ht fun h' tk t' hk => ?_
  rw [preSum_eq, List.take_of_length_le (by simp), hn]
  exact ⟨.int _, H, I.kept hk, ⟨_, rfl⟩, q⟩
def sumD : BN := fun ds S => match ds with
  | [d] => match d.asL S with
    | some xs => match intsOf xs with
      | some ns => .ok (.int ns.sum) S
      | none => .no
    | none => match d.asT with
      | some xs => match intsOf xs with
        | some ns => .ok (.int ns.sum) S
        | none => .no
      | none => .no
  | _ => .no
abbrev rSumA (K : PySem.W.Frag) : List V → Hp → VK → Prop := fun xs H Q => rSum K xs H Q ∨ (fun vs H Q => ∃ (a : Addr) (ns : List Int), vs = [V.ref a] ∧ SqT K H a (ns.map V.int) ∧ Q (.int ns.sum) H) xs H Q
theorem cr_sumA (hc : X.calm = true) : CallR X (.builtin "sum") (rSumA X.K) := (cr_sum hc).or (cr_sumT hc)
theorem c_sum : CallM K (rSumA K) sumD := by
  intro W g S H ds vs Q R r p
  match ds, r, p with
  | [], _, p => exact p.elim
  | _ :: _ :: _, _, p => exact p.elim
  | [d], r, p =>
    obtain ⟨v, rfl, r0⟩ := r.one
    unfold sumD at p
    simp only at p
    cases e : d.asL S with
    | some xs =>
      obtain ⟨a, ws, rfl, h1, h2⟩ := r0.asL R e
      cases e2 : intsOf xs with
      | none => simp only [e, e2] at p; exact p.elim
      | some ns =>
        simp only [e, e2] at p
        exact .inl ⟨a, ns, rfl, by rw [← h2.ints e2]; exact h1, pst.here p R _ (.int _)⟩
    | none =>
      cases e3 : d.asT with
      | none => simp only [e, e3] at p; exact p.elim
      | some xs =>
        obtain ⟨a, ws, rfl, h1, h2⟩ := r0.asT R e3
        cases e2 : intsOf xs with
        | none => simp only [e, e3, e2] at p; exact p.elim
        | some ns =>
          simp only [e, e3, e2] at p
          exact .inr ⟨a, ns, rfl, by rw [← h2.ints e2]; exact h1, pst.here p R _ (.int _)⟩
def max2D : BN := fun ds S => match ds with
  | [.int i, .int j] => .ok (.int (if j > i then j else i)) S
  | _ => .no
def min2D : BN := fun ds S => match ds with
  | [.int i, .int j] => .ok (.int (if j < i then j else i)) S
  | _ => .no
theorem c_ii {f : Int → Int → Int} {op : BN} (h : ∀ i j S, op [.int i, .int j] S = .ok (.int (f i j)) S) (hn : ∀ ds S, (∀ i j, ds ≠ [.int i, .int j]) → op ds S = .no) : CallM K (fun xs H Q => ∃ i j, xs = [.int i, .int j] ∧ Q (.int (f i j)) H) op := by
  intro W g S H ds vs Q R r p
  by_cases e : ∃ i j, ds = [.int i, .int j]
  · obtain ⟨i, j, rfl⟩ := e
    obtain ⟨v, w, rfl, r1, r2⟩ := r.two
    rw [h] at p
    cases r1
    cases r2
    exact ⟨i, j, rfl, pst.here p R _ (.int _)⟩
  · rw [hn ds S fun i j z => e ⟨i, j, z⟩] at p; exact p.elim
theorem c_max2 : CallM K (fun xs H Q => ∃ i j, xs = [.int i, .int j] ∧ Q (.int (if j > i then j else i)) H) max2D := c_ii (fun _ _ _ => rfl) fun ds S h => by
  unfold max2D
  split
  · exact absurd rfl (h _ _)
  · rfl
theorem c_min2 : CallM K (fun xs H Q => ∃ i j, xs = [.int i, .int j] ∧ Q (.int (if j < i then j else i)) H) min2D := c_ii (fun _ _ _ => rfl) fun ds S h => by
  unfold min2D
  split
  · exact absurd rfl (h _ _)
  · rfl

/-! ### repr of data of any depth -/
def rRepr (K : PySem.W.Frag) : List V → Hp → VK → Prop := fun xs H Q => ∃ x d, xs = [x] ∧ Dp K H x d ∧ SeqAt.shaped d = true ∧ d.showable = true ∧ d.shown.length ≤ sizeLine ∧ Q (.str d.shown) H
theorem cr_repr {k : Nat} (gd : X.A.guards = some []) (hr : Room k X.A) : CallR X (.builtin "repr") (rRepr X.K) := by
  intro pins s σ H vs us Q I r h
  obtain ⟨x, d, rfl, hd, hsh, hs, hz, q⟩ := h
  obtain ⟨u, rfl, ru⟩ := vals1 r
  obtain ⟨as, rd⟩ := Dp.reads I d x u hd ru
  have sh : (d.canLay0 && decide (d.depth ≤ 64)) = true := hsh
  simp only [Bool.and_eq_true, decide_eq_true_eq] at sh
  have nd : d.hasDict = false := PyData.hasDict_of_canLay d sh.1
  have un := hr.un
  have big : ∀ a, u = .ref a → wpAny (model X.prog X.w) X.A (call (.builtin "repr") [u]) (EP X pins σ Q) X.xe s := fun a e => by
    subst e
    exact repr_of_reads' rd hs (PyData.noDict_hsm nd) gd (by omega) (fun _ _ e => e) (fun h' u tk hk => ⟨.str d.shown, H, I.kept hk, ⟨_, rfl⟩, q⟩) hz
  cases hd with
  | non =>
    cases ru
    exact PySem.P.repr_of_none ⟨.str _, H, I.tok _, ⟨_, rfl⟩, by simpa only [PyData.shown] using q⟩
  | bl b =>
    cases ru
    exact PySem.P.repr_of_bool ⟨.str _, H, I.tok _, ⟨_, rfl⟩, by simpa only [PyData.shown] using q⟩
  | int i =>
    obtain ⟨t, rfl⟩ := ru
    exact PySem.P.repr_of_int (by simpa [PyData.showable] using hs) ⟨.str _, H, I.tok _, ⟨_, rfl⟩, by simpa only [PyData.shown] using q⟩
  | str z =>
    obtain ⟨t, rfl⟩ := ru
    exact PySem.P.repr_of_str ⟨.str _, H, I.tok _, ⟨_, rfl⟩, by simpa only [PyData.shown] using q⟩ (by simpa only [PyData.shown] using hz)
  | lst _ _ => exact big _ ru
  | tup _ _ => exact big _ ru
def reprOk (p : PyData) : Prop := SeqAt.shaped p = true ∧ p.showable = true ∧ p.shown.length ≤ line
instance (p : PyData) : Decidable (reprOk p) := inferInstanceAs (Decidable (_ ∧ _))
def reprD : BN := fun ds S => match ds with
  | [d] => match d.pyS S with
    | some p => if reprOk p then .ok (.str p.shown) S else .no
    | none => .no
  | _ => .no
theorem c_repr : CallM K (rRepr K) reprD := by
  intro W g S H ds vs Q R r p
  match ds, r, p with
  | [], _, p => exact p.elim
  | _ :: _ :: _, _, p => exact p.elim
  | [d], r, p =>
    obtain ⟨v, rfl, r0⟩ := r.one
    unfold reprD at p
    simp only at p
    cases e : d.pyS S with
    | none => rw [e] at p; exact p.elim
    | some a =>
      rw [e] at p
      simp only at p
      by_cases h : reprOk a
      · rw [if_pos h] at p
        exact ⟨v, a, rfl, r0.pyS R e, h.1, h.2.1, by rw [← line_eq]; exact h.2.2, pst.here p R _ (.str _)⟩
      · rw [if_neg h] at p; exact p.elim

/-! ### tuple(..), list(..) -/
def tupleD : BN := fun ds S => match ds with
  | [d] => match d.asL S with
    | some xs => .ok (.tup xs) S
    | none => match d.asT with
      | some xs => .ok (.tup xs) S
      | none => .no
  | _ => .no
abbrev rTupA (K : PySem.W.Frag) : List V → Hp → VK → Prop := fun xs H Q => ∃ p ys, xs = [.ref p] ∧ ((SqL K H p ys ∧ ∀ (l : Addr) (o : PySem.Obj), o.dict = none → H l = none → Q (.ref l) (upd H l (.frz o (.tup ys)))) ∨ (SqT K H p ys ∧ Q (.ref p) H))
theorem call_tupleP {X : Cx} : CallR X (.type "tuple") (rTupA X.K) := by
  intro pins s σ H xs us Q I r ⟨p, ys, e, h⟩
  rcases h with ⟨hq, q⟩ | ⟨hq, q⟩
  · subst e
    obtain ⟨u, rfl, rx⟩ := r.one
    cases rx
    obtain ⟨its, rv, pl, few⟩ := I.list hq
    have hlen := rv.length
    refine PySem.call_tuple_list pl.isList (fun h' kp => ?_) (by simp only [List.size_toArray] <;> omega)
    have J : Inv X pins σ H { s with heap := h' } := I.kept (t' := s.toks) kp
    exact ⟨.ref h'.objs.size, _, J.laid (t' := s.toks) (o := .frz (tupO its) (.tup ys)) (fun b o e => Heap.get?_push_of_some _ e) (Nat.le_refl _) (frz_ok (Heap.get?_push_size _ rfl) ⟨few, its, rv, IsTup.new _ _⟩), rfl, q _ _ rfl (J.hok.fresh (Nat.le_refl _))⟩
  · exact call_tuple_of pins s σ H xs us Q I r ⟨p, ys, e, .inr ⟨hq, q⟩⟩
theorem c_tuple : CallM K (rTupA K) tupleD := by
  intro W g S H ds vs Q R r p
  match ds, r, p with
  | [], _, p => exact p.elim
  | _ :: _ :: _, _, p => exact p.elim
  | [d], r, p =>
    obtain ⟨v, rfl, r0⟩ := r.one
    unfold tupleD at p
    simp only at p
    cases e : d.asL S with
    | some xs =>
      rw [e] at p
      obtain ⟨a, ws, rfl, h1, h2⟩ := r0.asL R e
      refine ⟨a, ws, rfl, .inl ⟨h1, fun l o ho hl => ?_⟩⟩
      exact p _ _ (Gh.add_ext (R.newG hl)) (R.add hl) _ (.tup (.new ho) (h2.mono (Gh.add_ext (R.newG hl)).toExtG))
    | none =>
      rw [e] at p
      simp only at p
      cases e3 : d.asT with
      | none => rw [e3] at p; exact p.elim
      | some xs =>
        rw [e3] at p
        cases r0 with
        | tup h1 h2 =>
          cases e3
          exact ⟨_, _, rfl, .inr ⟨sameT R.sub h1.sq, pst.here p R _ (.tup h1 h2)⟩⟩
        | _ => cases e3
/-- list(..) that nobody changes; one that may be changed -/
def listD : BN := fun ds S => match ds with
  | [d] => match d.asL S with
    | some xs => .ok (.lst xs) S
    | none => match d.asT with
      | some xs => .ok (.lst xs) S
      | none => .no
  | _ => .no
def listN : BN := fun ds S => match ds with
  | [d] => match d.asL S with
    | some xs => .ok (.cell S.length) (S ++ [.lst xs])
    | none => match d.asT with
      | some xs => .ok (.cell S.length) (S ++ [.lst xs])
      | none => .no
  | _ => .no
abbrev rLstA (K : PySem.W.Frag) : List V → Hp → VK → Prop := fun xs H Q => ∃ p ys, xs = [.ref p] ∧ (SqL K H p ys ∨ SqT K H p ys) ∧ ∀ l, H l = none → Q (.ref l) (upd H l (.lst ys))
theorem RD.seq {g : Gh} {S : Store} {H : Hp} (R : Rep K g S H) {d : D} {v : V} {xs : List D} (r : RD K g d v) (e : d.asL S = some xs ∨ d.asT = some xs) : ∃ a vs, v = .ref a ∧ (SqL K H a vs ∨ SqT K H a vs) ∧ RDs K g xs vs := by
  rcases e with e | e
  · obtain ⟨a, vs, h1, h2, h3⟩ := r.asL R e
    exact ⟨a, vs, h1, .inl h2, h3⟩
  · obtain ⟨a, vs, h1, h2, h3⟩ := r.asT R e
    exact ⟨a, vs, h1, .inr h2, h3⟩
theorem c_list : CallM K (rLstA K) listD := by
  intro W g S H ds vs Q R r p
  match ds, r, p with
  | [], _, p => exact p.elim
  | _ :: _ :: _, _, p => exact p.elim
  | [d], r, p =>
    obtain ⟨v, rfl, r0⟩ := r.one
    have go : ∀ xs, (d.asL S = some xs ∨ d.asT = some xs) → pst K W g (Out.ok (D.lst xs) S) (fun g' _ H' d => ∀ v, RD K g' d v → Q v H') → rLstA K [v] H Q := fun xs e p => by
      obtain ⟨a, ws, rfl, h1, h2⟩ := r0.seq R e
      refine ⟨a, ws, rfl, h1, fun l hl => ?_⟩
      exact p _ _ (Gh.add_ext (R.newG hl)) (R.add hl) _ (.lst upd_same (h2.mono (Gh.add_ext (R.newG hl)).toExtG))
    unfold listD at p
    simp only at p
    cases e : d.asL S with
    | some xs => rw [e] at p; exact go xs (.inl e) p
    | none =>
      rw [e] at p
      simp only at p
      cases e3 : d.asT with
      | none => rw [e3] at p; exact p.elim
      | some xs => rw [e3] at p; exact go xs (.inr e3) p
theorem c_listN : CallM K (rLstA K) listN := by
  intro W g S H ds vs Q R r p
  match ds, r, p with
  | [], _, p => exact p.elim
  | _ :: _ :: _, _, p => exact p.elim
  | [d], r, p =>
    obtain ⟨v, rfl, r0⟩ := r.one
    have go : ∀ xs, (d.asL S = some xs ∨ d.asT = some xs) → pst K W g (Out.ok (D.cell S.length) (S ++ [.lst xs])) (fun g' _ H' d => ∀ v, RD K g' d v → Q v H') → rLstA K [v] H Q := fun xs e p => by
      obtain ⟨a, ws, rfl, h1, h2⟩ := r0.seq R e
      refine ⟨a, ws, rfl, h1, fun l hl => ?_⟩
      refine p _ _ Gh.cell_ext (R.cell hl h2) _ (.cell (k := S.length) ?_ ?_)
      · show S.length < g.n + 1
        rw [R.len]; exact Nat.lt_succ_self _
      · show (if S.length = g.n then l else g.m S.length) = l
        rw [if_pos R.len]
    unfold listN at p
    simp only at p
    cases e : d.asL S with
    | some xs => rw [e] at p; exact go xs (.inl e) p
    | none =>
      rw [e] at p
      simp only at p
      cases e3 : d.asT with
      | none => rw [e3] at p; exact p.elim
      | some xs => rw [e3] at p; exact go xs (.inr e3) p

/-! ### what loops walk -/
/-- items that stand still -/
def D.still : D → Option (List D)
  | .lst xs => some xs
  | .flst xs => some xs
  | .tup xs => some xs
  | _ => none
def iSeq (f : FE) : F (List D) := fun ρ S => (f ρ S).bind fun d S1 => match d.still with
  | some xs => .ok xs S1
  | none => .no
def rSeqI (K : PySem.W.Frag) (tl : TE) : TI := fun σ H R => tl σ H fun x H1 => ∃ a, x = .ref a ∧ ((∃ xs, SqL K H1 a xs ∧ R (Itl K a) H1) ∨ ∃ xs, SqT K H1 a xs ∧ R (Itt K a) H1)
theorem pi_seq {tg l : Expr} {tl : TE} (hl : PE X l tl) : PI X tg l (rSeqI X.K tl) := by
  constructor
  intro pins s σ H R I h
  refine thn (hl.run pins s σ H _ I h) ?_
  rintro v s1 ⟨x, H1, I1, r1, a, e, way⟩
  subst e
  cases r1
  have fin : ∀ (o : Obj) (J : It) (tn : Nat → Heap → Prop), o.isFreed = false → Turn X.prog X.w X.K tg J [s1.heap.objs.size] s1.heap.objs.size tn → tn 0 (s1.heap.push o) → R J H1 →
      PIE X pins σ tg R (.ref s1.heap.objs.size) { s1 with heap := s1.heap.push o } := fun o J tn _ T st q =>
    ⟨s1.heap.objs.size, [s1.heap.objs.size], tn, J, H1, rfl, I1.kept (t' := s1.toks) fun b u e => Heap.get?_push_of_some _ e, T, st, fun b hb => by
      rw [List.mem_singleton.mp hb]
      exact I1.fpOk (Nat.le_refl _) (I1.hok.fresh (Nat.le_refl _)), q⟩
  rcases way with ⟨xs, hq, q⟩ | ⟨xs, hq, q⟩
  · obtain ⟨its, rv, p, hz⟩ := I1.list hq
    exact wpAny_pyIter_list p.isList (fin _ _ _ rfl (turn_list a _) ⟨_, Heap.get?_push_size _ rfl, rfl, rfl⟩ q)
  · obtain ⟨its, rv, p, hz⟩ := I1.tuple hq
    exact wpAny_pyIter_tuple (show s1.heap.IsTuple a its.toArray from p) (fin _ _ _ rfl (turn_tuple a _) ⟨_, Heap.get?_push_size _ rfl, rfl, rfl⟩ q)
theorem still_L {g : Gh} {d : D} {v : V} {xs : List D} (r : RD K g d v) (e : d.still = some xs) : ∃ a vs, v = .ref a ∧ (SqL K g.G a vs ∨ SqT K g.G a vs) ∧ RDs K g xs vs := by
  cases r with
  | lst h1 h2 => cases e; exact ⟨_, _, rfl, .inl (.inl (.inl h1)), h2⟩
  | flst h1 h2 => cases e; exact ⟨_, _, rfl, .inl h1, h2⟩
  | tup h1 h2 => cases e; exact ⟨_, _, rfl, .inr h1.sq, h2⟩
  | _ => cases e
theorem it_list {g : Gh} {a : Addr} {vs : List V} {xs : List D} (h : SqL K g.G a vs) (r : RDs K g xs vs) : ItOk K g xs (Itl K a) := by
  intro g' S' H' x R
  have hq : SqL K H' a vs := R.sub.seq (x.G.seq h)
  refine ⟨⟨vs, hq, Nat.le_of_eq r.length⟩, fun i d e => ?_⟩
  obtain ⟨v, h1, h2⟩ := r.get e
  exact ⟨⟨vs, v, hq, h1⟩, fun y H'' z => by
    obtain ⟨rfl, z2⟩ := z
    rw [Option.some.inj ((z2 vs hq).symm.trans h1)]
    exact ⟨g', .refl g', R, h2.mono x⟩⟩
theorem it_tup {g : Gh} {a : Addr} {vs : List V} {xs : List D} (h : SqT K g.G a vs) (r : RDs K g xs vs) : ItOk K g xs (Itt K a) := by
  intro g' S' H' x R
  have hq : SqT K H' a vs := sameT R.sub (sameT x.G h)
  refine ⟨⟨vs, hq, Nat.le_of_eq r.length⟩, fun i d e => ?_⟩
  obtain ⟨v, h1, h2⟩ := r.get e
  exact ⟨⟨vs, v, hq, h1⟩, fun y H'' z => by
    obtain ⟨rfl, z2⟩ := z
    rw [Option.some.inj ((z2 vs hq).symm.trans h1)]
    exact ⟨g', .refl g', R, h2.mono x⟩⟩
theorem mi_seq {tg e : Expr} {f : FE} (h : ME X W e f) : MI X W tg e (iSeq f) := PI.imp (pi_seq h) fun σ H R h => by
  obtain ⟨g, S, ρ, Rp, rs, p⟩ := h
  refine ⟨g, S, ρ, Rp, rs, (pst.bind p).mp fun g1 S1 H1 d x R1 q v r => ?_⟩
  cases e1 : d.still with
  | none => simp only [e1] at q; exact q.elim
  | some xs =>
    simp only [e1] at q
    obtain ⟨a, vs, rfl, h1, h2⟩ := still_L r e1
    rcases h1 with h1 | h1
    · exact ⟨a, rfl, .inl ⟨vs, R1.sub.seq h1, pst.here q R1 _ (it_list h1 h2)⟩⟩
    · exact ⟨a, rfl, .inr ⟨vs, sameT R1.sub h1, pst.here q R1 _ (it_tup h1 h2)⟩⟩
/-- range(n), range(a, b) -/
def rngL (lo : Int) : Nat → List D
  | 0 => []
  | n + 1 => .int lo :: rngL (lo + 1) n
theorem rngL_length : ∀ (n : Nat) (lo : Int), (rngL lo n).length = n
  | 0, _ => rfl
  | n + 1, lo => by unfold rngL; rw [List.length_cons, rngL_length n]
theorem rngL_get : ∀ (n i : Nat) (lo : Int) (d : D), (rngL lo n)[i]? = some d → d = .int (lo + i) ∧ i < n
  | 0, _, _, _, h => by simp [rngL] at h
  | n + 1, 0, lo, d, h => by
    have h' : D.int lo = d := Option.some.inj h
    subst h'
    exact ⟨by simp, Nat.succ_pos _⟩
  | n + 1, i + 1, lo, d, h => by
    obtain ⟨h1, h2⟩ := rngL_get n i (lo + 1) d (by simpa [rngL] using h)
    refine ⟨?_, Nat.succ_lt_succ h2⟩
    rw [h1]
    congr 1
    omega
theorem it_rng {g : Gh} {lo : Int} {n : Nat} : ItOk K g (rngL lo n) (Itr lo n) := by
  intro g' S' H' x R
  refine ⟨by rw [rngL_length]; exact Nat.le_refl n, fun i d e => ?_⟩
  obtain ⟨h1, h2⟩ := rngL_get n i lo d e
  refine ⟨h2, fun y H'' z => ?_⟩
  obtain ⟨rfl, rfl⟩ := z
  subst h1
  exact ⟨g', .refl g', R, .int _⟩
def iRng (f : F (List D)) : F (List D) := fun ρ S => (f ρ S).bind fun ds S1 => match ds with
  | [.int j] => if -(2 ^ 62) ≤ j ∧ j < 2 ^ 62 then .ok (rngL 0 j.toNat) S1 else .no
  | [.int i, .int j] => if -(2 ^ 62) ≤ i ∧ i < 2 ^ 62 ∧ -(2 ^ 62) ≤ j ∧ j < 2 ^ 62 then .ok (rngL i (j - i).toNat) S1 else .no
  | _ => .no
theorem mi_range1 {tg a : Expr} {f : FE} {p pos : Pos} (hg : Gl X "range") (hm : X.mg "range" = none) (ha : ME X W a f) (hs : starEach [a] X.env = [(false, eval a X.env)] := by rfl) (hs2 : starEach [a] X.env = (false, eval a X.env) :: starEach [] X.env := by rfl) : MI X W tg (.Call (.Name "range" p) [a] [] pos) (iRng (fCons f fNil)) :=
  PI.imp (pi_range1 hg hm (ma_cons ha ma_nil hs2) hs) fun σ H R h => by
    obtain ⟨g, S, ρ, Rp, rs, p⟩ := h
    refine ⟨g, S, ρ, Rp, rs, (pst.bind p).same.mp fun g1 S1 H1 ds x R1 ⟨e, q⟩ vs r => ?_⟩
    have hl := many_cons many_nil ρ S ds S1 e
    match ds, hl with
    | [d], _ =>
      obtain ⟨v, rfl, r0⟩ := r.one
      cases r0 with
      | int j =>
        have q' : pst (kwX X W) W g1 (if -(2 ^ 62) ≤ j ∧ j < 2 ^ 62 then Out.ok (rngL 0 j.toNat) S1 else Out.no) _ := q
        by_cases c : -(2 ^ 62) ≤ j ∧ j < 2 ^ 62
        · rw [if_pos c] at q'
          exact ⟨j, rfl, c.1, c.2, pst.here q' R1 _ it_rng⟩
        · rw [if_neg c] at q'; exact q'.elim
      | _ => exact q.elim
theorem mi_range2 {tg a b : Expr} {f k : FE} {p pos : Pos} (hg : Gl X "range") (hm : X.mg "range" = none) (ha : ME X W a f) (hb : ME X W b k) (hs : starEach [a, b] X.env = [(false, eval a X.env), (false, eval b X.env)] := by rfl) (hs1 : starEach [b] X.env = [(false, eval b X.env)] := by rfl)
    (hs2 : starEach [a, b] X.env = (false, eval a X.env) :: starEach [b] X.env := by rfl) (hs3 : starEach [b] X.env = (false, eval b X.env) :: starEach [] X.env := by rfl) : MI X W tg (.Call (.Name "range" p) [a, b] [] pos) (iRng (fCons f (fCons k fNil))) :=
  PI.imp (pi_range2 hg hm (ma_cons ha (ma_cons hb ma_nil hs3) hs2) hs hs1) fun σ H R h => by
    obtain ⟨g, S, ρ, Rp, rs, p⟩ := h
    refine ⟨g, S, ρ, Rp, rs, (pst.bind p).same.mp fun g1 S1 H1 ds x R1 ⟨e, q⟩ vs r => ?_⟩
    have hl := many_cons (many_cons many_nil) ρ S ds S1 e
    match ds, hl with
    | [d, d'], _ =>
      obtain ⟨v, w, rfl, r, r'⟩ := r.two
      cases r with
      | int i =>
        cases r' with
        | int j =>
          have q' : pst (kwX X W) W g1 (if -(2 ^ 62) ≤ i ∧ i < 2 ^ 62 ∧ -(2 ^ 62) ≤ j ∧ j < 2 ^ 62 then Out.ok (rngL i (j - i).toNat) S1 else Out.no) _ := q
          by_cases c : -(2 ^ 62) ≤ i ∧ i < 2 ^ 62 ∧ -(2 ^ 62) ≤ j ∧ j < 2 ^ 62
          · rw [if_pos c] at q'
            exact ⟨i, j, rfl, c, pst.here q' R1 _ it_rng⟩
          · rw [if_neg c] at q'; exact q'.elim
        | _ => exact q.elim
      | _ => exact q.elim
/-- enumerate(seq) -/
def enumL (i : Int) : List D → List D
  | [] => []
  | d :: ds => .tup [.int i, d] :: enumL (i + 1) ds
theorem enumL_length : ∀ (ds : List D) (i : Int), (enumL i ds).length = ds.length
  | [], _ => rfl
  | d :: ds, i => by unfold enumL; rw [List.length_cons, List.length_cons, enumL_length ds]
theorem enumL_get : ∀ (ds : List D) (j : Nat) (i : Int) (e : D), (enumL i ds)[j]? = some e → ∃ d, ds[j]? = some d ∧ e = .tup [.int (i + j), d]
  | [], _, _, _, h => by simp [enumL] at h
  | d :: ds, 0, i, e, h => by
    have h' : D.tup [.int i, d] = e := Option.some.inj h
    subst h'
    exact ⟨d, rfl, by simp⟩
  | d :: ds, j + 1, i, e, h => by
    obtain ⟨d', h1, h2⟩ := enumL_get ds j (i + 1) e (by simpa [enumL] using h)
    refine ⟨d', by simpa using h1, ?_⟩
    rw [h2]
    congr 3
    omega
theorem pair_new {g' : Gh} {S' : Store} {H' : Hp} (R : Rep K g' S' H') {T : Addr} {o : PySem.Obj} (ho : o.dict = none) (hT : H' T = none) {a b : D} {x y : V} (ra : RD K g' a x) (rb : RD K g' b y) : ∃ g'', Ext g' g'' ∧ Rep K g'' S' (upd H' T (.frz o (.tup [x, y]))) ∧ RD K g'' (.tup [a, b]) (.ref T) := by
  have e := Gh.add_ext (g := g') (o := .frz o (.tup [x, y])) (R.newG hT)
  exact ⟨_, e, R.add hT, .tup (.new ho) (.cons (ra.mono e.toExtG) (.cons (rb.mono e.toExtG) .nil))⟩
theorem sqK_mono {K : PySem.W.Frag} {H H' : Hp} {b : Bool} {a : Addr} {xs : List V} (e : Same H H') (h : SqK b K H a xs) : SqK b K H' a xs := by
  cases b with
  | true => exact e.seq h
  | false => exact sameT e h
theorem it_enum {g : Gh} {b : Bool} {a : Addr} {vs : List V} {xs : List D} (h : SqK b K g.G a vs) (r : RDs K g xs vs) : ItOk K g (enumL 0 xs) (ItE b K a) := by
  intro g' S' H' x R
  have hq : SqK b K H' a vs := sqK_mono R.sub (sqK_mono x.G h)
  refine ⟨⟨vs, hq, by rw [enumL_length]; exact Nat.le_of_eq r.length⟩, fun i d e => ?_⟩
  obtain ⟨d', h0, rfl⟩ := enumL_get xs i 0 d e
  obtain ⟨v, h1, h2⟩ := r.get h0
  refine ⟨⟨vs, v, hq, h1⟩, fun y H'' z => ?_⟩
  obtain ⟨T, u, o, rfl, hT, ho, rfl, z2⟩ := z
  rw [Option.some.inj ((z2 vs hq).symm.trans h1), Int.zero_add]
  exact pair_new R ho hT (.int _) (h2.mono x)
def iEnumD (f : FE) : F (List D) := fun ρ S => (f ρ S).bind fun d S1 => match d.still with
  | some xs => .ok (enumL 0 xs) S1
  | none => .no
theorem mi_enum {e : Expr} {f : FE} {p pos tpos : Pos} {elts : List Expr} {kk : Nat} (hg : Gl X "enumerate") (hm : X.mg "enumerate" = none) (h : ME X W e f) (hs : starEach [e] X.env = [(false, eval e X.env)] := by rfl) (hs2 : starEach [e] X.env = (false, eval e X.env) :: starEach [] X.env := by rfl) :
    MI X W (.Tuple elts kk tpos) (.Call (.Name "enumerate" p) [e] [] pos) (iEnumD f) := PI.imp (pi_en hg hm (pa_cons h pa_nil hs2) hs) fun σ H R h => by
  obtain ⟨g, S, ρ, Rp, rs, p⟩ := h
  refine ⟨g, S, ρ, Rp, rs, (pst.bind p).mp fun g1 S1 H1 d x R1 q v r => ?_⟩
  cases e1 : d.still with
  | none => simp only [e1] at q; exact q.elim
  | some xs =>
    simp only [e1] at q
    obtain ⟨a, vs, rfl, h1, h2⟩ := still_L r e1
    rcases h1 with h1 | h1
    · exact ⟨a, rfl, true, vs, R1.sub.seq h1, pst.here q R1 _ (it_enum (b := true) h1 h2)⟩
    · exact ⟨a, rfl, false, vs, sameT R1.sub h1, pst.here q R1 _ (it_enum (b := false) h1 h2)⟩
/-! ### a cell that changes no more -/
def fFrz (f : FE) : FE := fun ρ S => (f ρ S).bind fun d S1 => match d with
  | .cell k => match S1[k]? with
    | some (.lst xs) => .ok (.lst xs) (S1.set k .dead)
    | some (.dct xs) => .ok (.dct xs) (S1.set k .dead)
    | _ => .no
  | _ => .no
theorem me_frz {e : Expr} {f : FE} (h : ME X W e f) : ME X W e (fFrz f) := PE.imp h fun σ H Q h => by
  obtain ⟨g, S, ρ, R, rs, p⟩ := h
  refine ⟨g, S, ρ, R, rs, (pst.bind p).mp fun g1 S1 H1 d x R1 q v r => ?_⟩
  cases r with
  | cell h1 h2 =>
    rename_i k a
    simp only at q
    cases e : S1[k]? with
    | none => rw [e] at q; exact q.elim
    | some c =>
      cases c with
      | dead => rw [e] at q; exact q.elim
      | lst xs =>
        rw [e] at q
        obtain ⟨g2, x2, R2, r2⟩ := R1.freeze e
        rw [h2] at r2
        exact q g2 H1 x2 R2 _ r2
      | dct xs =>
        rw [e] at q
        obtain ⟨g2, x2, R2, r2⟩ := R1.freezeD e
        rw [h2] at r2
        exact q g2 H1 x2 R2 _ r2
  | _ => exact q.elim
end

/-! ### the law's end -/
theorem ints_rd {K : KW} {g : Gh} : ∀ ns : List Int, RDs K g (ns.map D.int) (ns.map V.int)
  | [] => .nil
  | n :: r => .cons (.int n) (ints_rd r)
theorem want_of {n : Nat} {F : List D → Store → Out D} (h : ∀ ns : List Int, ns.length ≤ n → (∀ z ∈ ns, Builtin.Int.intBits z ≤ 1048576) → ∃ S', F [.flst (ns.map D.int)] [] = .ok (.bl true) S')
    (K : KW) (H : Hp) (a : Addr) (ns : List Int) (hl : ns.length ≤ n) (hb : ∀ z ∈ ns, Builtin.Int.intBits z ≤ 1048576) (hL : K.L = []) (hT : ∀ p ∈ K.T, H p.1 = some (.tbl #[])) (hs : SqL K H a (ns.map V.int)) :
    spM K 1 F [.ref a] H (fun v _ => v = .bl true) fun _ _ _ => False := by
  obtain ⟨S', e⟩ := h ns hl hb
  have nt : ∀ o, H a = some o → (∀ ps, o ≠ .tbl ps) → ¬ ∃ p ∈ K.T, p.1 = a := fun o ho no ⟨p, hp, z⟩ => by
    have := hT p hp
    rw [z, ho] at this
    exact no _ (Option.some.inj this)
  open Classical in
  let G : Hp := fun b => if ∃ p ∈ K.T, p.1 = b then none else H b
  have hG : ∀ b, (∃ p ∈ K.T, p.1 = b) → G b = none := fun b hb => if_pos hb
  have hG' : ∀ b, (¬ ∃ p ∈ K.T, p.1 = b) → G b = H b := fun b hb => if_neg hb
  have hs' : SqL K G a (ns.map V.int) := by
    rcases hs with (q | ⟨o, q⟩) | q
    · exact .inl (.inl ((hG' a (nt _ q fun ps z => by cases z)).trans q))
    · exact .inl (.inr ⟨o, (hG' a (nt _ q fun ps z => by cases z)).trans q⟩)
    · exact .inr q
  refine ⟨rfl, ⟨G, fun _ => 0, 0, fun _ => none⟩, [], _, ⟨fun b o q => ?_, rfl, fun k c z => by simp at z, fun k l z => by simp [Live] at z, fun a o z => (nomatch z), fun p hp => ?_, fun F hF => by (rw [hL] at hF; cases hF), fun F hF => by (rw [hL] at hF; cases hF)⟩, .cons (.flst hs' (ints_rd ns)) .nil, ?_⟩
  · by_cases c : ∃ p ∈ K.T, p.1 = b
    · have q' : G b = some o := q
      rw [hG b c] at q'; cases q'
    · have q' : G b = some o := q
      rw [hG' b c] at q'; exact q'
  · refine ⟨hG _ ⟨p, hp, rfl⟩, rfl, #[], hT p hp, trivial, fun pos cv hc => ?_⟩
    have z : codeAmong pos [] = some cv := hc
    simp [codeAmong] at z
  · rw [e]
    intro g' H' x R v r
    exact r.bl_inv
end MK

namespace MK
open PySem PySem.Spec PyProof.Rows L2

/-! ### zip(v, w), each a list or a tuple: in the model's words -/
abbrev zB1 (h : Heap) (o1 : Obj) : Heap := h.push o1
abbrev zB2 (h : Heap) (o1 o2 : Obj) : Heap := (zB1 h o1).push o2
abbrev zB3 (h : Heap) (o1 o2 : Obj) : Heap := (zB2 h o1 o2).push { cls := .type "tuple", data := .seq #[.ref h.objs.size, .ref (zB1 h o1).objs.size] }
abbrev zB4 (h : Heap) (o1 o2 : Obj) : Heap := (zB3 h o1 o2).push { cls := .type "tuple", data := .seq #[.none, .none] }
abbrev zB5 (h : Heap) (o1 o2 : Obj) : Heap := (zB4 h o1 o2).push { cls := .type "zip", data := .fields #[.none, .bool false, .bool false, .ref (zB2 h o1 o2).objs.size, .ref (zB3 h o1 o2).objs.size] }
theorem meets_zipB {v1 v2 : Value} {o1 o2 : Obj} {H1 H2 : Heap → Prop} (B1 : Begins v1 o1 H1) (B2 : Begins v2 o2 H2) :
    Meets (Builtin.«zip.__new__» ⟨[.type "zip", v1, v2], []⟩) (fun _ R s => H1 s.heap ∧ H2 s.heap ∧
      R (.ok (.ret (.ref (zB4 s.heap o1 o2).objs.size))) { s with heap := zB5 s.heap o1 o2 }) :=
  .of_wp fun prog w A R s h => by
    obtain ⟨hp, g, d, tk, os⟩ := s
    obtain ⟨h1, h2, h⟩ := h
    have hsub := sub_zip
    have h2' : H2 (hp.push o1) := B2.keeps _ _ h2 fun b o' e => Heap.get?_push_of_some _ e
    have b1 : ∀ {A' : Around} {E : Value → Shared → Prop} {Q : Value → Shared → Prop}, Q (.ref hp.objs.size) ⟨hp.push o1, g, d, tk, os⟩ →
        wpAny (model prog w) A' (pyIter v1) Q E ⟨hp, g, d, tk, os⟩ := fun q => B1.iter prog w _ _ ⟨hp, g, d, tk, os⟩ _ h1 q
    have b2 : ∀ {A' : Around} {E : Value → Shared → Prop} {Q : Value → Shared → Prop}, Q (.ref (hp.push o1).objs.size) ⟨(hp.push o1).push o2, g, d, tk, os⟩ →
        wpAny (model prog w) A' (pyIter v2) Q E ⟨hp.push o1, g, d, tk, os⟩ := fun q => B2.iter prog w _ _ ⟨hp.push o1, g, d, tk, os⟩ _ h2' q
    wp_walk using b1, b2
    exact ⟨_, rfl, h⟩
theorem call_zipB {prog : Program} {w : World} {A : Around} {E : Value → Shared → Prop} {s : Shared} {v1 v2 : Value} {o1 o2 : Obj} {H1 H2 : Heap → Prop} {Q : Value → Shared → Prop} (B1 : Begins v1 o1 H1) (B2 : Begins v2 o2 H2) (p1 : H1 s.heap) (p2 : H2 s.heap)
    (h : ∀ h', IsZip h' (s.heap.objs.size + 4) (s.heap.objs.size + 2) (s.heap.objs.size + 3) .none → IsPair h' (s.heap.objs.size + 2) (.ref s.heap.objs.size) (.ref (s.heap.objs.size + 1)) →
      IsPair h' (s.heap.objs.size + 3) .none .none → h'.get? s.heap.objs.size = some o1 → h'.get? (s.heap.objs.size + 1) = some o2 →
      (∀ c o, s.heap.get? c = some o → h'.get? c = some o) → Q (.ref (s.heap.objs.size + 4)) { s with heap := h' }) :
    wpAny (model prog w) A (call (.type "zip") [v1, v2]) Q E s := by
  refine callType_new F.called_zip (by decide) (F.typeCall_zip_2 _ _) (F.newCall_zip_2 _ _) (fun obj => F.args_object_init_3 obj _ _) F.entry_zip_new
    (meets_zipB B1 B2) ⟨p1, p2, ?_⟩
  have z1 : (zB1 s.heap o1).objs.size = s.heap.objs.size + 1 := Heap.size_push ..
  have z2 : (zB2 s.heap o1 o2).objs.size = s.heap.objs.size + 2 := by rw [Heap.size_push, z1]
  have z3 : (zB3 s.heap o1 o2).objs.size = s.heap.objs.size + 3 := by rw [Heap.size_push, z2]
  have z4 : (zB4 s.heap o1 o2).objs.size = s.heap.objs.size + 4 := by rw [Heap.size_push, z3]
  have g5 : (zB5 s.heap o1 o2).get? (zB4 s.heap o1 o2).objs.size = some _ := Heap.get?_push_size _ rfl
  have g4 : (zB5 s.heap o1 o2).get? (zB3 s.heap o1 o2).objs.size = some _ := Heap.get?_push_of_some _ (Heap.get?_push_size _ rfl)
  have g3 : (zB5 s.heap o1 o2).get? (zB2 s.heap o1 o2).objs.size = some _ := Heap.get?_push_of_some _ (Heap.get?_push_of_some _ (Heap.get?_push_size _ rfl))
  have g2 : (zB5 s.heap o1 o2).get? (zB1 s.heap o1).objs.size = some _ := Heap.get?_push_of_some _ (Heap.get?_push_of_some _ (Heap.get?_push_of_some _ (Heap.get?_push_size _ B2.free)))
  have g1 : (zB5 s.heap o1 o2).get? s.heap.objs.size = some _ := Heap.get?_push_of_some _ (Heap.get?_push_of_some _ (Heap.get?_push_of_some _ (Heap.get?_push_of_some _ (Heap.get?_push_size _ B1.free))))
  show _ ∧ _
  rw [z2, z3, z4] at g5
  rw [z1, z2] at g3
  rw [z3] at g4
  rw [z1] at g2
  rw [z4]
  exact ⟨⟨_, g5, rfl⟩, h _ g5 g3 g4 g1 g2 fun c o x =>
    Heap.get?_push_of_some _ (Heap.get?_push_of_some _ (Heap.get?_push_of_some _ (Heap.get?_push_of_some _ (Heap.get?_push_of_some _ x))))⟩

/-! a list (true) or a tuple (false) -/
/-- what zip yields over a and b -/
def ItZ (b1 b2 : Bool) (K : PySem.W.Frag) (a b : Addr) : It :=
  ⟨fun i H => ∃ (xs ys : List V) (x y : V), SqK b1 K H a xs ∧ SqK b2 K H b ys ∧ xs[i]? = some x ∧ ys[i]? = some y,
    fun i H v H' => ∃ T x y, ∃ o : PySem.Obj, v = .ref T ∧ H T = none ∧ o.dict = none ∧ H' = upd H T (.frz o (.tup [x, y])) ∧ (∀ xs, SqK b1 K H a xs → xs[i]? = some x) ∧ ∀ ys, SqK b2 K H b ys → ys[i]? = some y,
    fun i H => ∃ xs ys : List V, SqK b1 K H a xs ∧ SqK b2 K H b ys ∧ i ≤ xs.length ∧ i ≤ ys.length ∧ (xs.length ≤ i ∨ ys.length ≤ i)⟩
theorem sep_of {z TI TO i1 i2 a b : Addr} (D : ZipApart z TI TO i1 i2 a b) : ZipSep2 z TI TO i1 i2 [i1, a] [i2, b] where
  TIz := D.TIz
  TOz := D.TOz
  TITO := D.TITO
  TIi1 := D.TIi1
  mem1 := by simp
  zf1 := by simp [D.i1z.symm, D.l1z.symm]
  Tf1 := by simp [D.TOi1, D.l1TO.symm]
  TIi2 := D.TIi2
  mem2 := by simp
  zf2 := by simp [D.i2z.symm, D.l2z.symm]
  Tf2 := by simp [D.TOi2, D.l2TO.symm]
  sep1_2 := by simp [D.i12, D.l2i1.symm]
  sep2_1 := by simp [D.i12.symm, D.l1i2.symm]
theorem turnZ {P : Program} {w : World} {K : PySem.W.Frag} {elts : List Expr} {kk : Nat} {tpos : Pos} {b1 b2 : Bool} {a b z TI TO i1 i2 : Addr} (D : ZipApart z TI TO i1 i2 a b) :
    Turn P w K (.Tuple elts kk tpos) (ItZ b1 b2 K a b) [z, TI, TO, i1, i2] z (fun i h => IsZip h z TI TO .none ∧ IsPair h TI (.ref i1) (.ref i2) ∧ (∃ x y, IsPair h TO x y) ∧ IrK b1 h i1 a i ∧ IrK b2 h i2 b i) where
  mem := by simp
  obj := fun i h st c hc => by
    obtain ⟨hz, hTI, ⟨x, y, hTO⟩, h1, h2⟩ := st
    obtain ⟨o1, e1, d1⟩ := h1.obj
    obtain ⟨o2, e2, d2⟩ := h2.obj
    have e' : c = z ∨ c = TI ∨ c = TO ∨ c = i1 ∨ c = i2 := by simpa using hc
    rcases e' with q | q | q | q | q
    · rw [q]; exact ⟨_, hz, fun v q => nomatch q⟩
    · rw [q]; exact ⟨_, hTI, fun v q => nomatch q⟩
    · rw [q]; exact ⟨_, hTO, fun v q => nomatch q⟩
    · rw [q]; exact ⟨o1, e1, d1⟩
    · rw [q]; exact ⟨o2, e2, d2⟩
  keep := fun i h h' st k => by
    obtain ⟨hz, hTI, ⟨x, y, hTO⟩, h1, h2⟩ := st
    exact ⟨k z (by simp) _ hz, k TI (by simp) _ hTI, ⟨x, y, k TO (by simp) _ hTO⟩, h1.at fun o q => k i1 (by simp) o q, h2.at fun o q => k i2 (by simp) o q⟩
  item := by
    intro X hP hw hK hc i pins s σ H E I hf st hg
    subst hP hw hK
    obtain ⟨hz, hTI, ⟨x0, y0, hTO⟩, h1, h2⟩ := st
    obtain ⟨xs, ys, x, y, hqx, hqy, hx, hy⟩ := hg
    obtain ⟨its, rv, p⟩ := arK I hqx
    obtain ⟨its2, rv2, p2⟩ := arK I hqy
    obtain ⟨u, hu, ru⟩ := rv.get hx
    obtain ⟨u2, hu2, ru2⟩ := rv2.get hy
    have hzl : z < s.heap.objs.size := Heap.lt_size hz
    have il1 : i < its.toArray.size := by
      have := (List.getElem?_eq_some_iff.mp hu).1
      simpa using this
    have il2 : i < its2.toArray.size := by
      have := (List.getElem?_eq_some_iff.mp hu2).1
      simpa using this
    have D1 := drawsK (prog := X.prog) (w := X.w) (A := X.A.in1) (I.ok.hd hc) b1 i1 a D.l1i1 its.toArray
    have D2 := drawsK (prog := X.prog) (w := X.w) (A := X.A.in1) (I.ok.hd hc) b2 i2 b D.l2i2 its2.toArray
    refine wpAny_pyNext_zipD2_item (sep_of D) D1 D2 hz hTI hTO ⟨h1, p⟩ ⟨h2, p2⟩ il1 il2 fun y1 y2 h' tk hy1 hy2 z' TO' s1' s2' hT hsz hk => ?_
    have ey1 : y1 = u := by
      have hy' : its.toArray[i]? = some y1 := hy1
      simp only [List.getElem?_toArray] at hy'
      rw [hu] at hy'
      exact (Option.some.inj hy').symm
    have ey2 : y2 = u2 := by
      have hy' : its2.toArray[i]? = some y2 := hy2
      simp only [List.getElem?_toArray] at hy'
      rw [hu2] at hy'
      exact (Option.some.inj hy').symm
    subst ey1 ey2
    refine ⟨_, rfl, wpAny_letOwnedTupleGo_zip (s := { s with heap := h', toks := tk }) z' fun h'' z'' sb => ?_⟩
    have hT2 : h''.get? s.heap.objs.size = some { cls := .type "tuple", data := .seq #[y1, y2] } := (sb.2 _ (Nat.ne_of_gt hzl)).trans hT
    have new : ObjOk X.prog X.w (upd H s.heap.objs.size (.frz { cls := .type "tuple", data := .seq #[y1, y2] } (.tup [x, y]))) h'' s.heap.objs.size (.frz { cls := .type "tuple", data := .seq #[y1, y2] } (.tup [x, y])) := frz_ok hT2
      ⟨by show 2 ≤ sizeLine; decide, [y1, y2], .cons ru (.cons ru2 .nil), ⟨_, hT2, rfl, _, rfl⟩⟩
    have hkk : ∀ c o, c ∉ [z, TI, TO, i1, i2] → s.heap.get? c = some o → h''.get? c = some o := fun c o hb q =>
      (sb.2 c (fun q' => hb (by simp [q']))).trans (hk c o (fun q' => hb (by simp [q'])) (fun q' => hb (by simp [q'])) (fun q' => hb (by simp [q'])) (fun q' => hb (by simp [q'])) q)
    have I1 : Inv X pins σ (upd H s.heap.objs.size (.frz { cls := .type "tuple", data := .seq #[y1, y2] } (.tup [x, y]))) { s with heap := h'', toks := tk } := I.turnedNew hkk hf (Nat.le_refl _) new
    refine ⟨.ref s.heap.objs.size, _, I1, rfl, ⟨_, x, y, _, rfl, I.hok.fresh (Nat.le_refl _), rfl, rfl, fun l hl => by rw [sqK_inj I hl hqx]; exact hx, fun l hl => by rw [sqK_inj I hl hqy]; exact hy⟩, ⟨z'', ?_, ⟨y1, y2, ?_⟩, ?_, ?_⟩, fun c hcm => ?_⟩
    · exact (sb.2 _ D.TIz).trans (hk _ _ D.TIz D.TITO D.TIi1 D.TIi2 hTI)
    · exact (sb.2 _ D.TOz).trans TO'
    · exact s1'.1.at fun o q => (sb.2 _ D.i1z).trans q
    · exact s2'.1.at fun o q => (sb.2 _ D.i2z).trans q
    · have hlt : c < s.heap.objs.size := by
        have e' : c = z ∨ c = TI ∨ c = TO ∨ c = i1 ∨ c = i2 := by simpa using hcm
        rcases e' with q | q | q | q | q
        · rw [q]; exact hzl
        · rw [q]; exact Heap.lt_size hTI
        · rw [q]; exact Heap.lt_size hTO
        · rw [q]; obtain ⟨_, e1, _⟩ := h1.obj; exact Heap.lt_size e1
        · rw [q]; obtain ⟨_, e2, _⟩ := h2.obj; exact Heap.lt_size e2
      rw [upd_ne (Nat.ne_of_lt hlt)]
      exact (hf c hcm).1
  done := by
    intro X hP hw hK hc i pins s σ H E I hf st hg
    subst hP hw hK
    obtain ⟨hz, hTI, ⟨x0, y0, hTO⟩, h1, h2⟩ := st
    obtain ⟨xs, ys, hqx, hqy, hi1, hi2, hend⟩ := hg
    obtain ⟨its, rv, p⟩ := arK I hqx
    obtain ⟨its2, rv2, p2⟩ := arK I hqy
    have l1 := rv.length
    have l2 := rv2.length
    have D1 := drawsK (prog := X.prog) (w := X.w) (A := X.A.in1) (I.ok.hd hc) b1 i1 a D.l1i1 its.toArray
    have D2 := drawsK (prog := X.prog) (w := X.w) (A := X.A.in1) (I.ok.hd hc) b2 i2 b D.l2i2 its2.toArray
    exact wpAny_pyNext_zipD2_end (sep_of D) D1 D2 hz hTI hTO ⟨h1, p⟩ ⟨h2, p2⟩ (by simp; omega) (by simp; omega) (by simp; omega) fun h' tk hk => ⟨rfl, I.turnedL (t' := tk) (ch := [z, TI, TO, i1, i2]) (fun c o hb q =>
      hk c o (fun q' => hb (by simp [q'])) (fun q' => hb (by simp [q'])) (fun q' => hb (by simp [q'])) (fun q' => hb (by simp [q'])) q) hf⟩
  self := fun A i s Q E st h => wpAny_pyIter_zip st.1 h
def iZp (K : PySem.W.Frag) (ta : TA) : TI := fun σ H R => ta σ H fun vs H1 => ∃ b1 b2 a b xs ys, vs = [.ref a, .ref b] ∧ SqK b1 K H1 a xs ∧ SqK b2 K H1 b ys ∧ R (ItZ b1 b2 K a b) H1
theorem pi_zp {X : Cx} {e e2 : Expr} {ta : TA} {p pos tpos : Pos} {elts : List Expr} {kk : Nat} (hg : Gl X "zip") (hm : X.mg "zip" = none) (ha : PA X [e, e2] ta)
    (hs : starEach [e, e2] X.env = (false, eval e X.env) :: starEach [e2] X.env := by rfl) (hpl : (backTo pos (starEach [e2] X.env)).any (·.1) = false := by rfl) :
    PI X (.Tuple elts kk tpos) (.Call (.Name "zip" p) [e, e2] [] pos) (iZp X.K ta) := by
  refine ⟨fun pins s σ H R I h => ?_⟩
  refine Call_ (ld_blt I hg hm PyProof.Rows.boot_zip (PyProof.Rows.callWith_type1 (thn (ha.run pos pins s σ H _ I h) fun us s1 ⟨vs, H1, I1, r1, q1⟩ => ?_) hs hpl))
  obtain ⟨b1, b2, a, b, xs, ys, ex, hqx, hqy, q⟩ := q1
  subst ex
  cases r1 with
  | cons r rr =>
    cases rr with
    | cons r' rr =>
      cases rr
      cases r
      cases r'
      have fresh5 : ∀ c, c ∈ [s1.heap.objs.size + 4, s1.heap.objs.size + 2, s1.heap.objs.size + 3, s1.heap.objs.size, s1.heap.objs.size + 1] → FpOk X pins H1 c := fun c hcm => by
        have e' : c = s1.heap.objs.size + 4 ∨ c = s1.heap.objs.size + 2 ∨ c = s1.heap.objs.size + 3 ∨ c = s1.heap.objs.size ∨ c = s1.heap.objs.size + 1 := by simpa using hcm
        have hle : s1.heap.objs.size ≤ c := by omega
        exact I1.fpOk hle (I1.hok.fresh hle)
      obtain ⟨its, rv, p1⟩ := arK I1 hqx
      obtain ⟨its2, rv2, p2⟩ := arK I1 hqy
      refine call_zipB (begK b1 a its.toArray) (begK b2 b its2.toArray) p1 p2 fun h' hz hTI hTO h1 h2 hk => wpAny_pyIter_zip hz ?_
      have I2 : Inv X pins σ H1 { s1 with heap := h' } := I1.kept (t' := s1.toks) hk
      exact ⟨s1.heap.objs.size + 4, [s1.heap.objs.size + 4, s1.heap.objs.size + 2, s1.heap.objs.size + 3, s1.heap.objs.size, s1.heap.objs.size + 1], _, _, H1, rfl, I2, turnZ (PySem.W.ktu_apart s1.heap.objs.size a b p1.lt p2.lt), ⟨hz, hTI, ⟨_, _, hTO⟩, ioK_ir h1, ioK_ir h2⟩, fresh5, q⟩

/-! ### beside values -/
def zipL : List D → List D → List D
  | x :: xs, y :: ys => .tup [x, y] :: zipL xs ys
  | _, _ => []
theorem zipL_length : ∀ xs ys : List D, (zipL xs ys).length = min xs.length ys.length
  | [], _ => by simp [zipL]
  | _ :: _, [] => by simp [zipL]
  | x :: xs, y :: ys => by
    unfold zipL
    rw [List.length_cons, List.length_cons, List.length_cons, zipL_length xs ys]
    omega
theorem zipL_get : ∀ (xs ys : List D) (i : Nat) (d : D), (zipL xs ys)[i]? = some d → ∃ x y, xs[i]? = some x ∧ ys[i]? = some y ∧ d = .tup [x, y]
  | [], _, _, _, h => by simp [zipL] at h
  | _ :: _, [], _, _, h => by simp [zipL] at h
  | x :: xs, y :: ys, 0, d, h => ⟨x, y, rfl, rfl, (Option.some.inj (by simpa [zipL] using h)).symm⟩
  | x :: xs, y :: ys, i + 1, d, h => by
    obtain ⟨x', y', h1, h2, h3⟩ := zipL_get xs ys i d (by simpa [zipL] using h)
    exact ⟨x', y', by simpa using h1, by simpa using h2, h3⟩
variable {K : KW}
theorem sqK_sub {b : Bool} {G : Hp} {H : Hp} {a : Addr} {vs : List V} (s : Same G H) (h : SqK b K G a vs) : SqK b K H a vs := by
  cases b with
  | true => exact s.seq h
  | false => exact sameT s h
theorem still_K {g : Gh} {d : D} {v : V} {xs : List D} (r : RD K g d v) (e : d.still = some xs) : ∃ a vs b, v = .ref a ∧ SqK b K g.G a vs ∧ RDs K g xs vs := by
  obtain ⟨a, vs, e1, h, r⟩ := still_L r e
  rcases h with h | h
  · exact ⟨a, vs, true, e1, h, r⟩
  · exact ⟨a, vs, false, e1, h, r⟩
theorem it_zip {g : Gh} {b1 b2 : Bool} {a b : Addr} {vs us : List V} {xs ys : List D} (h1 : SqK b1 K g.G a vs) (r1 : RDs K g xs vs) (h2 : SqK b2 K g.G b us) (r2 : RDs K g ys us) : ItOk K g (zipL xs ys) (ItZ b1 b2 K a b) := by
  intro g' S' H' x R
  have hq1 : SqK b1 K H' a vs := sqK_sub R.sub (sqK_sub x.G h1)
  have hq2 : SqK b2 K H' b us := sqK_sub R.sub (sqK_sub x.G h2)
  refine ⟨⟨vs, us, hq1, hq2, ?_⟩, fun i d e => ?_⟩
  · have l1 := r1.length
    have l2 := r2.length
    rw [zipL_length]
    omega
  · obtain ⟨x', y', e1, e2, rfl⟩ := zipL_get xs ys i d e
    obtain ⟨v, f1, q1⟩ := r1.get e1
    obtain ⟨u, f2, q2⟩ := r2.get e2
    refine ⟨⟨vs, us, v, u, hq1, hq2, f1, f2⟩, fun y H'' z => ?_⟩
    obtain ⟨T, v', u', o, rfl, hT, ho, rfl, z1, z2⟩ := z
    rw [Option.some.inj ((z1 vs hq1).symm.trans f1), Option.some.inj ((z2 us hq2).symm.trans f2)]
    exact pair_new R ho hT (q1.mono x) (q2.mono x)
def iZip (f : F (List D)) : F (List D) := fun ρ S => (f ρ S).bind fun ds S1 => match ds with
  | [d, e] => match d.still, e.still with
    | some xs, some ys => .ok (zipL xs ys) S1
    | _, _ => .no
  | _ => .no
variable {X : Cx} {W : WT}
theorem mi_zip {a b : Expr} {f k : FE} {p pos tpos : Pos} {elts : List Expr} {kk : Nat} (hg : Gl X "zip") (hm : X.mg "zip" = none) (ha : ME X W a f) (hb : ME X W b k) (hs : starEach [a, b] X.env = (false, eval a X.env) :: starEach [b] X.env := by rfl) (hs3 : starEach [b] X.env = (false, eval b X.env) :: starEach [] X.env := by rfl)
    (hpl : (backTo pos (starEach [b] X.env)).any (·.1) = false := by rfl) : MI X W (.Tuple elts kk tpos) (.Call (.Name "zip" p) [a, b] [] pos) (iZip (fCons f (fCons k fNil))) :=
  PI.imp (pi_zp hg hm (ma_cons ha (ma_cons hb ma_nil hs3) hs) hs hpl) fun σ H R h => by
    obtain ⟨g, S, ρ, Rp, rs, p⟩ := h
    refine ⟨g, S, ρ, Rp, rs, (pst.bind p).same.mp fun g1 S1 H1 ds x R1 ⟨e, q⟩ vs r => ?_⟩
    have hl := many_cons (many_cons many_nil) ρ S ds S1 e
    match ds, hl with
    | [d, d'], _ =>
      obtain ⟨v, w, rfl, r, r'⟩ := r.two
      simp only at q
      cases e1 : d.still with
      | none => simp only [e1] at q; exact q.elim
      | some xs =>
        cases e2 : d'.still with
        | none => simp only [e1, e2] at q; exact q.elim
        | some ys =>
          simp only [e1, e2] at q
          obtain ⟨a, vs, b1, rfl, h1, r1⟩ := still_K r e1
          obtain ⟨b, us, b2, rfl, h2, r2⟩ := still_K r' e2
          exact ⟨b1, b2, a, b, vs, us, rfl, sqK_sub R1.sub h1, sqK_sub R1.sub h2, pst.here q R1 _ (it_zip h1 r1 h2 r2)⟩

/-! ### a op1 b op2 c -/
def fCh (o o' : B2) (a b c : FE) : FE := fun ρ S => (a ρ S).bind fun x S1 => (b ρ S1).bind fun y S2 => (o x y S2).bind fun z S3 => match z with
  | .bl t => if t = true then (c ρ S3).bind fun w S4 => o' y w S4 else .ok (.bl false) S3
  | _ => .no
theorem rdCh {a b c : FE} {r r' : R2} {o o' : B2} {σ : L2.St} {H : Hp} {Q : VK} (ho : Op2 K r o) (ho' : Op2 K r' o') (h : rdE K W (fCh o o' a b c) σ H Q) : tChain r r' (rdE K W a) (rdE K W b) (rdE K W c) σ H Q := by
  unfold tChain
  refine rd.then (k := fun x ρ S1 => (b ρ S1).bind fun y S2 => (o x y S2).bind fun z S3 => match z with
    | .bl t => if t = true then (c ρ S3).bind fun w S4 => o' y w S4 else .ok (.bl false) S3
    | _ => .no) h fun g S H' ρ d R rs p v rv => ?_
  refine ⟨g, S, ρ, R, rs, p.bind.mp fun g1 S1 H1 d1 x1 R1 q1 w rw1 => ho W g1 S1 H1 d d1 v w _ R1 (rv.mono x1.toExtG) rw1 (q1.bind.mp fun g2 S2 H2 z x2 R2 q2 u ru => ?_)⟩
  cases z with
  | bl t =>
    refine ⟨t, ru.bl_inv, ?_⟩
    cases t with
    | true => exact ⟨g2, S2, ρ, R2, (rs.mono x1.toExtG).mono x2.toExtG, q2.bind.mp fun g3 S3 H3 d3 x3 R3 q3 u3 ru3 => ho' W g3 S3 H3 d1 d3 w u3 Q R3 ((rw1.mono x2.toExtG).mono x3.toExtG) ru3 q3⟩
    | false => exact pst.here q2 R2 _ (.bl false)
  | _ => exact q2.elim
theorem me_chain {a b c : Expr} {pos : Pos} {fa fb fc : FE} {op op' : CmpOp} {r r' : R2} {o o' : B2} (ho : OpR X (compareOp op) r) (hf : Op2 (kwX X W) r o) (ho' : OpR X (compareOp op') r') (hf' : Op2 (kwX X W) r' o') (ha : ME X W a fa) (hb : ME X W b fb) (hc : ME X W c fc)
    (hm : lastMarks [op, op'] [b, c] = false := by with_unfolding_all rfl) : ME X W (.Compare a [op, op'] [b, c] pos) (fCh o o' fa fb fc) :=
  PE.imp (pe_chain ho ho' ha hb hc hm) fun σ H Q h => rdCh hf hf' h
theorem mt_chain {a b c : Expr} {pos : Pos} {fa fb fc : FE} {op op' : CmpOp} {r r' : R2} {o o' : B2} (ho : OpR X (compareOp op) r) (hf : Op2 (kwX X W) r o) (ho' : OpR X (compareOp op') r') (hf' : Op2 (kwX X W) r' o') (ha : ME X W a fa) (hb : ME X W b fb) (hc : ME X W c fc)
    (hm : lastMarks [op, op'] [b, c] = false := by with_unfolding_all rfl) : MT X W (.Compare a [op, op'] [b, c] pos) (fB (fCh o o' fa fb fc)) :=
  PT.imp (pt_chain ho ho' ha hb hc hm) fun σ H Q h => rdCh (Q := fun x H1 => ∃ c, x = .bl c ∧ Q c H1) hf hf' (rdB h)
end MK

namespace MK
open PySem PySem.Spec PyProof.Rows L2
section
variable {X : Cx} {W : WT} {U : XK} {K : KW}

/-! ### x in l, x not in l: of a list, a tuple; a sign in a text -/
def seqP : PyData → Option (List PyData)
  | .list bs => some bs
  | .tuple bs => some bs
  | _ => none
def inQ (neg : Bool) (x y : D) (S : Store) : Out D := match x.pyS S, y.pyS S with
  | some a, some b => match seqP b with
    | some bs => if SeqAt.shaped a = true ∧ SeqAt.shaped b = true then .ok (.bl (if neg = true then !bs.any fun z => PyData.eqv z a else bs.any fun z => PyData.eqv z a)) S else .no
    | none => .no
  | _, _ => .no
def inSg (neg : Bool) (x : D) (z : Str) (S : Store) : Out D := match x with
  | .str c => match c.cps.toList with
    | [k] => .ok (.bl (if neg = true then !decide (k ∈ z.cps.toList) else decide (k ∈ z.cps.toList))) S
    | _ => .no
  | _ => .no
def inP (neg : Bool) (x y : D) (S : Store) : Out D := match y with
  | .str z => inSg neg x z S
  | y => inQ neg x y S
def inD : B2 := inP false
def notinD : B2 := inP true
def rInT (K : PySem.W.Frag) (neg : Bool) : R2 := fun x y H Q => ∃ d ds, Dp K H x d ∧ Dp K H y (.tuple ds) ∧ SeqAt.shaped d = true ∧ SeqAt.shaped (.tuple ds) = true ∧ Q (.bl (if neg = true then !ds.any fun z => PyData.eqv z d else ds.any fun z => PyData.eqv z d)) H
theorem op_inT (hu : X.A.units + 65 < cLine) : OpR X (compareOp .In) (rInT X.K false) := by
  intro pins s σ H x y v u Q I rx ry h
  obtain ⟨d, ds, hd, he, sd, se, q⟩ := h
  obtain ⟨as, r1⟩ := Dp.reads I d x v hd rx
  obtain ⟨bs, r2⟩ := Dp.reads I (.tuple ds) y u he ry
  exact SeqAt.in_tuple_reads r2 r1 (SeqAt.canLay_of_shaped se) (SeqAt.canLay_of_shaped sd) (room_in_shaped sd hu) ⟨.bl _, H, I, rfl, q⟩
theorem op_notInT (hu : X.A.units + 65 < cLine) : OpR X (compareOp .NotIn) (rInT X.K true) := by
  intro pins s σ H x y v u Q I rx ry h
  obtain ⟨d, ds, hd, he, sd, se, q⟩ := h
  obtain ⟨as, r1⟩ := Dp.reads I d x v hd rx
  obtain ⟨bs, r2⟩ := Dp.reads I (.tuple ds) y u he ry
  exact SeqAt.notIn_tuple_reads r2 r1 (SeqAt.canLay_of_shaped se) (SeqAt.canLay_of_shaped sd) (room_in_shaped sd hu) ⟨.bl _, H, I, rfl, q⟩
def rInSg (neg : Bool) : R2 := fun x y H Q => ∃ (c : Nat) (z : Str), x = .str ⟨#[c]⟩ ∧ y = .str z ∧ Q (.bl (if neg = true then !decide (c ∈ z.cps.toList) else decide (c ∈ z.cps.toList))) H
abbrev rInA (K : PySem.W.Frag) : R2 := fun x y H Q => (rInD K x y H Q ∨ rInT K false x y H Q) ∨ rInSg false x y H Q
abbrev rNotInA (K : PySem.W.Frag) : R2 := fun x y H Q => (rNotInD K x y H Q ∨ rInT K true x y H Q) ∨ rInSg true x y H Q
theorem or_in {k : Nat} (hr : Room k X.A) : OpR X (compareOp .In) (rInA X.K) := ((op_inD (by have := hr.un; omega)).or (op_inT (by have := hr.un; omega))).or op_in_sign
theorem or_notin {k : Nat} (hr : Room k X.A) : OpR X (compareOp .NotIn) (rNotInA X.K) := ((op_notInD (by have := hr.un; omega)).or (op_notInT (by have := hr.un; omega))).or op_notIn_sign
theorem inQ_of {W : XK} {neg : Bool} {x y : D} {S : Store} {g : Gh} {H : Hp} {vx vy : V} {C : Gh → Store → Hp → D → Prop} (R : Rep K g S H) (rx : RD K g x vx) (ry : RD K g y vy) (p : pst K W g (inQ neg x y S) C) :
    ∃ d ds, Dp K H vx d ∧ SeqAt.shaped d = true ∧ ((Dp K H vy (.list ds) ∧ SeqAt.shaped (.list ds) = true) ∨ (Dp K H vy (.tuple ds) ∧ SeqAt.shaped (.tuple ds) = true)) ∧ pst K W g (.ok (.bl (if neg = true then !ds.any fun z => PyData.eqv z d else ds.any fun z => PyData.eqv z d)) S) C := by
  unfold inQ at p
  cases e1 : x.pyS S with
  | none => simp only [e1] at p; exact p.elim
  | some a =>
    cases e2 : y.pyS S with
    | none => simp only [e1, e2] at p; exact p.elim
    | some b =>
      simp only [e1, e2] at p
      cases b with
      | list bs =>
        simp only [seqP] at p
        by_cases h : SeqAt.shaped a = true ∧ SeqAt.shaped (.list bs) = true
        · rw [if_pos h] at p
          exact ⟨a, bs, rx.pyS R e1, h.1, .inl ⟨ry.pyS R e2, h.2⟩, p⟩
        · rw [if_neg h] at p; exact p.elim
      | tuple bs =>
        simp only [seqP] at p
        by_cases h : SeqAt.shaped a = true ∧ SeqAt.shaped (.tuple bs) = true
        · rw [if_pos h] at p
          exact ⟨a, bs, rx.pyS R e1, h.1, .inr ⟨ry.pyS R e2, h.2⟩, p⟩
        · rw [if_neg h] at p; exact p.elim
      | _ => simp only [seqP] at p; exact p.elim
theorem one_sign {c : Str} {k : Nat} (h : c.cps.toList = [k]) : c = ⟨#[k]⟩ := by
  obtain ⟨a⟩ := c
  obtain ⟨l⟩ := a
  have h : l = [k] := h
  subst h
  rfl
theorem inP_cases (neg : Bool) (x y : D) (S : Store) : (∃ c z, x = .str ⟨#[c]⟩ ∧ y = .str z ∧ inP neg x y S = .ok (.bl (if neg = true then !decide (c ∈ z.cps.toList) else decide (c ∈ z.cps.toList))) S) ∨ inP neg x y S = .no ∨ inP neg x y S = inQ neg x y S := by
  cases y with
  | str z =>
    show _ ∨ inSg neg x z S = .no ∨ _
    cases x with
    | str c =>
      cases e : c.cps.toList with
      | nil => exact .inr (.inl (by unfold inSg; simp only [e]))
      | cons k r =>
        cases r with
        | nil =>
          have e2 : inSg neg (.str c) z S = .ok (.bl (if neg = true then !decide (k ∈ z.cps.toList) else decide (k ∈ z.cps.toList))) S := by unfold inSg; simp only [e]
          exact .inl ⟨k, z, by rw [one_sign e], rfl, e2⟩
        | cons _ _ => exact .inr (.inl (by unfold inSg; simp only [e]))
    | _ => exact .inr (.inl rfl)
  | _ => exact .inr (.inr rfl)
theorem inP_data {neg : Bool} {x y : D} {S : Store} {p : PyData} {bs : List PyData} (e : y.pyS S = some p) (h : seqP p = some bs) : inP neg x y S = inQ neg x y S := by
  cases y with
  | str z => cases e; cases h
  | _ => rfl
theorem o_in : Op2 K (rInA K) inD := by
  intro W g S H dx dy x y Q R rx ry p
  rcases inP_cases false dx dy S with ⟨c, z, rfl, rfl, e⟩ | e | e
  · unfold inD at p
    rw [e] at p
    cases rx
    cases ry
    exact .inr ⟨c, z, rfl, rfl, pst.here p R _ (.bl _)⟩
  · unfold inD at p
    rw [e] at p
    exact p.elim
  · unfold inD at p
    rw [e] at p
    obtain ⟨d, ds, h1, h2, h3, q⟩ := inQ_of R rx ry p
    rcases h3 with ⟨h3, h4⟩ | ⟨h3, h4⟩
    · exact .inl (.inl ⟨d, ds, h1, h3, h2, h4, pst.here q R _ (.bl _)⟩)
    · exact .inl (.inr ⟨d, ds, h1, h3, h2, h4, pst.here q R _ (.bl _)⟩)
theorem o_notin : Op2 K (rNotInA K) notinD := by
  intro W g S H dx dy x y Q R rx ry p
  rcases inP_cases true dx dy S with ⟨c, z, rfl, rfl, e⟩ | e | e
  · unfold notinD at p
    rw [e] at p
    cases rx
    cases ry
    exact .inr ⟨c, z, rfl, rfl, pst.here p R _ (.bl _)⟩
  · unfold notinD at p
    rw [e] at p
    exact p.elim
  · unfold notinD at p
    rw [e] at p
    obtain ⟨d, ds, h1, h2, h3, q⟩ := inQ_of R rx ry p
    rcases h3 with ⟨h3, h4⟩ | ⟨h3, h4⟩
    · exact .inl (.inl ⟨d, ds, h1, h3, h2, h4, pst.here q R _ (.bl _)⟩)
    · exact .inl (.inr ⟨d, ds, h1, h3, h2, h4, pst.here q R _ (.bl _)⟩)

/-! ### methods of lists -/
abbrev BM := D → List D → Store → Out D
def fBm (op : BM) (o : FE) (a : F (List D)) : FE := fun ρ S => (o ρ S).bind fun d S1 => if (d.asL S1).isSome = true then (a ρ S1).bind fun ds S2 => op d ds S2 else .no
def MethM (K : KW) (r : V → List V → Hp → VK → Prop) (op : BM) : Prop := ∀ (W : XK) (g : Gh) (S : Store) (H : Hp) (d : D) (ds : List D) (v : V) (vs : List V) (Q : VK), Rep K g S H → RD K g d v → RDs K g ds vs → pst K W g (op d ds S) (fun g' _ H' d => ∀ v, RD K g' d v → Q v H') → r v vs H Q
theorem me_bmL {o e : Expr} {es : List Expr} {name : Str} {apos cpos : Pos} {id : String} {r : V → List V → Hp → VK → Prop} {op : BM} {fo : FE} {fa : F (List D)} (pa : PlainAttrs "list") (slot : Slot "list" name id) (hty : typeOf (.builtin id) = pure (.type "method_descriptor")) (hm : MtR X id r) (hf : MethM (kwX X W) r op)
    (ho : ME X W o fo) (ha : MA X W (e :: es) fa)
    (hbase : attributeBase o name X.env (eval o X.env) = eval o X.env := by rfl)
    (hfew : ((backTo cpos (starEach (e :: es) X.env)).all (fun x => !x.1) && (backToKw cpos (keywordEach [] X.env)).all (fun x => x.1.isSome)
      && decide ((e :: es).length + ([] : List Keyword).length + (if ([] : List Keyword).isEmpty then 0 else 1) < 30)) = true := by rfl)
    (hline : (apos.endLine == cpos.line) = true := by rfl) (hs : starEach (e :: es) X.env = (false, eval e X.env) :: starEach es X.env := by rfl) (hplain : (backTo cpos (starEach es X.env)).any (·.1) = false := by rfl) :
    ME X W (.Call (.Attribute o name apos) (e :: es) [] cpos) (fBm op fo fa) :=
  PE.imp (pe_bm pa slot hty hm ho ha hbase hfew hline hs hplain) fun σ H Q h => by
    refine rd.then (k := fun (d : D) ρ S1 => if (d.asL S1).isSome = true then (fa ρ S1).bind fun ds S2 => op d ds S2 else .no) h fun g S H' ρ d R rs p v rv => ?_
    cases e1 : d.asL S with
    | none => simp only [e1] at p; exact p.elim
    | some xs =>
      simp only [e1, Option.isSome_some, if_true] at p
      obtain ⟨a, ws, rfl, h1, h2⟩ := rv.asL R e1
      refine ⟨.inl ⟨rfl, ws, h1⟩, g, S, ρ, R, rs, p.bind.mp fun g' S' H'' ds x R' q vs rvs => ?_⟩
      exact hf W g' S' H'' d ds _ vs Q R' (rv.mono x.toExtG) rvs q
/-- xs.append(e) -/
def appD : BM
  | .cell k, [v], S => match S[k]? with
    | some (.lst xs) => if xs.length < line then .ok .non (S.set k (.lst (xs ++ [v]))) else .no
    | _ => .no
  | _, _, _ => .no
theorem m_app : MethM K rAppend appD := by
  intro W g S H d ds v vs Q R rd rds p
  cases rd with
  | cell h1 h2 =>
    rename_i k a
    match ds, rds, p with
    | [], _, p => exact p.elim
    | _ :: _ :: _, _, p => exact p.elim
    | [d1], rds, p =>
      obtain ⟨w, rfl, rw1⟩ := rds.one
      unfold appD at p
      simp only at p
      cases e : S[k]? with
      | none => rw [e] at p; exact p.elim
      | some c =>
        cases c with
        | dead => rw [e] at p; exact p.elim
        | dct _ => rw [e] at p; exact p.elim
        | lst xs =>
          rw [e] at p
          simp only at p
          by_cases hl : xs.length < line
          · rw [if_pos hl] at p
            obtain ⟨_, us, q1, q2⟩ := R.lst e
            have lv : Live S[k]? := by rw [e]; trivial
            refine ⟨a, us, w, rfl, rfl, by rw [← h2]; exact q1, by rw [q2.length]; rw [line_eq] at hl; exact hl, ?_⟩
            rw [← h2]
            exact pst.here p (R.store lv (q2.append (.cons rw1 .nil))) _ .non
          · rw [if_neg hl] at p; exact p.elim
  | _ => exact p.elim
theorem me_append {o e : Expr} {apos cpos : Pos} {fo fe : FE} (ho : ME X W o fo) (he : ME X W e fe) (hs2 : starEach [e] X.env = (false, eval e X.env) :: starEach [] X.env := by rfl)
    (hbase : attributeBase o "append" X.env (eval o X.env) = eval o X.env := by rfl)
    (hfew : ((backTo cpos (starEach [e] X.env)).all (fun x => !x.1) && (backToKw cpos (keywordEach [] X.env)).all (fun x => x.1.isSome)
      && decide (([e] : List Expr).length + ([] : List Keyword).length + (if ([] : List Keyword).isEmpty then 0 else 1) < 30)) = true := by rfl)
    (hline : (apos.endLine == cpos.line) = true := by rfl) (hplain : (backTo cpos (starEach [] X.env)).any (·.1) = false := by rfl) : ME X W (.Call (.Attribute o "append" apos) [e] [] cpos) (fBm appD fo (fCons fe fNil)) :=
  me_bmL PySem.F.plainAttrs_list PySem.F.slot_list_append PySem.F.type_list_append mt_append m_app ho (ma_cons he ma_nil hs2) hbase hfew hline hs2 hplain

/-! ### xs[::-1] -/
def revD : B1 := fun d S => match d.asL S with
  | some xs => .ok (.lst xs.reverse) S
  | none => .no
theorem RDs.rev {g : Gh} : ∀ {ds : List D} {vs : List V}, RDs K g ds vs → RDs K g ds.reverse vs.reverse
  | _, _, .nil => .nil
  | _, _, .cons h r => by
    rw [List.reverse_cons, List.reverse_cons]
    exact (RDs.rev r).append (.cons h .nil)
theorem me_rev {e : Expr} {f : FE} {k : Nat} {p1 p2 p3 pos : Pos} (h : ME X W e f) : ME X W (.Subscript e (.Slice none none (some (.UnaryOp .USub (.Constant (.int 1) k p1) p2)) p3) pos) (f1 revD f) :=
  PE.imp (pe_revL h) fun σ H Q h => rd.then (k := fun x _ S1 => revD x S1) h fun g S H' ρ d R rs p v rv => by
    unfold revD at p
    cases e1 : d.asL S with
    | none => simp only [e1] at p; exact p.elim
    | some xs =>
      simp only [e1] at p
      obtain ⟨a, ws, rfl, h1, h2⟩ := rv.asL R e1
      refine ⟨a, ws, rfl, h1, fun q hq => ?_⟩
      exact p _ _ (Gh.add_ext (R.newG hq)) (R.add hq) _ (.lst upd_same (h2.rev.mono (Gh.add_ext (R.newG hq)).toExtG))

/-! ### *xs in a display -/
def fStar (a : FE) (r : F (List D)) : F (List D) := fun ρ S => (a ρ S).bind fun d S1 => match d.still with
  | some xs => (r ρ S1).bind fun ds S2 => .ok (xs ++ ds) S2
  | none => .no
theorem ma_star {e : Expr} {es : List Expr} {f : FE} {k : F (List D)} {p : Pos} (h : ME X W e f) (hr : MA X W es k) (hs : starEach (.Starred e p :: es) X.env = (true, eval e X.env) :: starEach es X.env := by rfl) : MA X W (.Starred e p :: es) (fStar f k) :=
  PA.imp (StX.pa_star h hr hs) fun σ H Q h => by
    refine rd.then (k := fun (d : D) ρ S1 => match d.still with
      | some xs => (k ρ S1).bind fun ds S2 => .ok (xs ++ ds) S2
      | none => .no) h fun g S H' ρ d R rs p v rv => ?_
    cases e1 : d.still with
    | none => simp only [e1] at p; exact p.elim
    | some xs =>
      simp only [e1] at p
      obtain ⟨a, vs, rfl, h1, h2⟩ := still_L rv e1
      refine ⟨a, vs, rfl, ?_, g, S, ρ, R, rs, p.bind.mp fun g' S' H'' ds x R' q us rus => pst.here q R' _ ((h2.mono x.toExtG).append rus)⟩
      rcases h1 with h1 | h1
      · exact .inr (R.sub.seq h1)
      · exact .inl (sameT R.sub h1)

/-! ### sorted(xs), xs alike data -/
def srtB (ps : List PyData) : Bool := ps.all (fun a => ps.all (PySem.W.alike a)) && (ps.all (fun d => match d with | .tuple (_ :: _) => true | _ => false) || ps.all (fun d => match d with | .none => false | .tuple _ => false | _ => true)) && ps.all (fun d => decide (d.depth ≤ 64))
theorem srtB_of {ps : List PyData} (h : srtB ps = true) : PySem.W.AllAlike ps ∧ PySem.W.Sortable ps ∧ ∀ d ∈ ps, d.depth ≤ 64 := by
  unfold srtB at h
  rw [Bool.and_eq_true, Bool.and_eq_true] at h
  obtain ⟨⟨h1, h2⟩, h3⟩ := h
  refine ⟨fun d hd d' hd' => List.all_eq_true.mp (List.all_eq_true.mp h1 d hd) d' hd', ?_, fun d hd => of_decide_eq_true (List.all_eq_true.mp h3 d hd)⟩
  rw [Bool.or_eq_true] at h2
  rcases h2 with h2 | h2
  · refine .inl fun d hd => ?_
    have q := List.all_eq_true.mp h2 d hd
    match d, q with
    | .tuple (x :: r), _ => exact ⟨x, r, rfl⟩
  · refine .inr fun d hd => ?_
    have q := List.all_eq_true.mp h2 d hd
    constructor
    · rintro rfl
      exact absurd q (by decide)
    · rintro xs rfl
      exact Bool.noConfusion q
def rSortD (K : PySem.W.Frag) : List V → Hp → VK → Prop := fun vs H Q => ∃ (a : Addr) (xs : List V) (ps : List PyData), vs = [V.ref a] ∧ SqL K H a xs ∧ DpAll K H xs ps ∧ srtB ps = true ∧
  ∀ p, H p = none → Q (.ref p) (upd H p (.lst (((xs.zip ps).mergeSort (PySem.W.dataLe false Prod.snd)).map Prod.fst)))
theorem each_dp {pins : List (Addr × Obj)} {s : Shared} {σ : L2.St} {H : Hp} (I : Inv X pins σ H s) {h' : Heap} (kp : ∀ b o, s.heap.get? b = some o → h'.get? b = some o) : ∀ {xs : List V} {ps : List PyData} {us : List Value}, DpAll X.K H xs ps → Vals xs us → PySem.W.EachIs (fun v d => ∃ as, Reads h' v d as) us ps
  | _, _, _, .nil, .nil => .nil
  | _, _, _, .cons h t, .cons r rs => by
    obtain ⟨as, q⟩ := Dp.reads I _ _ _ h r
    exact .cons ⟨as, Reads.keeps kp q⟩ (each_dp I kp t rs)
theorem each_zip {K : PySem.W.Frag} {H : Hp} : ∀ {xs : List V} {ps : List PyData} {us : List Value}, DpAll K H xs ps → Vals xs us → PySem.W.EachIs (fun (v : Value) (b : V × PyData) => RelV b.1 v) us (xs.zip ps)
  | _, _, _, .nil, .nil => .nil
  | _, _, _, .cons _ t, .cons r rs => .cons r (each_zip t rs)
theorem each_key {hp : Heap} {ds : List PyData} (hal : PySem.W.AllAlike ds) : ∀ {us : List Value} {xs : List V} {ps : List PyData}, (∀ p ∈ ps, p ∈ ds) → xs.length = ps.length → PySem.W.EachIs (fun v d => ∃ as, Reads hp v d as) us ps → PySem.W.EachIs (fun (v : Value) (b : V × PyData) => (PySem.W.dataKind hp ds).keyOf v = some (PySem.W.keyToks b.2)) us (xs.zip ps)
  | [], [], [], _, _, _ => .nil
  | [], _ :: _, [], _, hl, _ => absurd hl (by simp)
  | _ :: _, _, [], _, _, e => by cases e
  | [], _, _ :: _, _, _, e => by cases e
  | _ :: _, [], _ :: _, _, hl, _ => absurd hl (by simp)
  | u :: us, x :: xs, p :: ps, hm, hl, e => by
    cases e with
    | cons h t =>
      obtain ⟨as, q⟩ := h
      exact .cons (PySem.W.dataKind_some hal (hm _ List.mem_cons_self) q) (each_key hal (fun p hp => hm p (List.mem_cons_of_mem _ hp)) (by simpa using hl) t)
theorem each_vals : ∀ {us : List Value} {zs : List (V × PyData)}, PySem.W.EachIs (fun (v : Value) (b : V × PyData) => RelV b.1 v) us zs → Vals (zs.map Prod.fst) us
  | _, _, .nil => .nil
  | _, _, .cons h t => .cons h (each_vals t)
theorem dpAll_length {K : PySem.W.Frag} {H : Hp} : ∀ {xs : List V} {ps : List PyData}, DpAll K H xs ps → xs.length = ps.length
  | _, _, .nil => rfl
  | _, _, .cons _ t => by rw [List.length_cons, List.length_cons, dpAll_length t]
theorem cr_sortD {k : Nat} (hr : Room k X.A) : CallR X (.builtin "sorted") (rSortD X.K) := by
  intro pins s σ H vs us Q I r h
  obtain ⟨a, xs, ps, rfl, hs, hd, hok, q⟩ := h
  obtain ⟨hal, hsr, hdep⟩ := srtB_of hok
  obtain ⟨its, rv, hl, hz⟩ := I.list hs
  obtain ⟨u, rfl, ru⟩ := Vals.one r
  obtain rfl : u = Value.ref a := ru
  have hlen := rv.length
  have hold : ∀ b o, s.heap.get? b = some o → (PySem.W.sortingHeap (PySem.W.copyHeap s.heap its) (s.heap.objs.size + 1) its).get? b = some o := fun b o e => PySem.W.sorting_copy_old e
  have E := each_dp I hold hd rv
  have S : PySem.W.SortsAt X.prog X.w X.A.in1.in1 { s with heap := PySem.W.sortingHeap (PySem.W.copyHeap s.heap its) (s.heap.objs.size + 1) its } (PySem.W.dataKind (PySem.W.sortingHeap (PySem.W.copyHeap s.heap its) (s.heap.objs.size + 1) its) ps) its :=
    PySem.W.SortsAt.data (s := { s with heap := PySem.W.sortingHeap (PySem.W.copyHeap s.heap its) (s.heap.objs.size + 1) its }) E hal hsr fun d hm => by
      have h1 := hr.un
      have h2 := hdep d hm
      show X.A.units + 1 + 1 + d.depth < _
      omega
  refine PySem.W.sorted_vals hl.isList S (by rw [← hlen]; exact hz) ?_
  have out := PySem.W.sortVals_each (κ := PySem.W.dataKind (PySem.W.sortingHeap (PySem.W.copyHeap s.heap its) (s.heap.objs.size + 1) its) ps) (rev := false) (fun b : V × PyData => PySem.W.keyToks b.2) (each_zip hd rv) (each_key hal (fun p hp => hp) (dpAll_length hd) E)
  obtain ⟨n, hn⟩ := sortedAll_at s.heap its (PySem.W.sortVals (PySem.W.dataKind (PySem.W.sortingHeap (PySem.W.copyHeap s.heap its) (s.heap.objs.size + 1) its) ps) false its its).toArray
  have rv2 := each_vals out
  refine ⟨.ref (s.heap.objs.size + 1), upd H (s.heap.objs.size + 1) (.lst (((xs.zip ps).mergeSort (PySem.W.dataLe false Prod.snd)).map Prod.fst)), I.laid (t' := s.toks) (fun b o e => sortedAll_old e) (Nat.le_succ _) ⟨?_, _, n, rv2, hn⟩, rfl, q _ (I.hok.fresh (Nat.le_succ _))⟩
  rw [List.length_map, List.length_mergeSort, List.length_zip, dpAll_length hd, Nat.min_self, ← dpAll_length hd]
  exact hz
def srtL (xs : List D) (ps : List PyData) : List D := ((xs.zip ps).mergeSort (PySem.W.dataLe false Prod.snd)).map Prod.fst
def sortedD : List D → Store → Out D
  | [d], S => match d.asL S with
    | some xs => match D.pys xs with
      | some ps => if srtB ps = true then .ok (.lst (srtL xs ps)) S else .no
      | none => .no
    | none => .no
  | _, _ => .no
def tri : List D → List V → List PyData → List (D × V × PyData)
  | d :: ds, v :: vs, p :: ps => (d, v, p) :: tri ds vs ps
  | _, _, _ => []
theorem tri_dp : ∀ {ds : List D} {vs : List V} {ps : List PyData}, ds.length = ps.length → vs.length = ps.length → (tri ds vs ps).map (fun z => (z.1, z.2.2)) = ds.zip ps
  | [], [], [], _, _ => rfl
  | d :: ds, v :: vs, p :: ps, h1, h2 => by
    unfold tri
    rw [List.map_cons, List.zip_cons_cons, tri_dp (by simpa using h1) (by simpa using h2)]
  | [], _, _ :: _, h, _ => absurd h (by simp)
  | _ :: _, _, [], h, _ => absurd h (by simp)
  | _, [], _ :: _, _, h => absurd h (by simp)
  | _, _ :: _, [], _, h => absurd h (by simp)
theorem tri_vp : ∀ {ds : List D} {vs : List V} {ps : List PyData}, ds.length = ps.length → vs.length = ps.length → (tri ds vs ps).map (fun z => (z.2.1, z.2.2)) = vs.zip ps
  | [], [], [], _, _ => rfl
  | d :: ds, v :: vs, p :: ps, h1, h2 => by
    unfold tri
    rw [List.map_cons, List.zip_cons_cons, tri_vp (by simpa using h1) (by simpa using h2)]
  | [], _, _ :: _, h, _ => absurd h (by simp)
  | _ :: _, _, [], h, _ => absurd h (by simp)
  | _, [], _ :: _, _, h => absurd h (by simp)
  | _, _ :: _, [], _, h => absurd h (by simp)
theorem tri_rd {g : Gh} : ∀ {ds : List D} {vs : List V} {ps : List PyData}, RDs K g ds vs → ∀ z ∈ tri ds vs ps, RD K g z.1 z.2.1
  | _, _, [], .nil, _, h => by cases h
  | _, _, [], .cons _ _, _, h => by cases h
  | _, _, _ :: _, .nil, _, h => by cases h
  | _, _, p :: ps, .cons r t, z, h => by
    unfold tri at h
    rcases List.mem_cons.mp h with rfl | h
    · exact r
    · exact tri_rd t z h
theorem rds_tri {g : Gh} : ∀ {zs : List (D × V × PyData)}, (∀ z ∈ zs, RD K g z.1 z.2.1) → RDs K g (zs.map (·.1)) (zs.map (·.2.1))
  | [], _ => .nil
  | z :: zs, h => .cons (h z List.mem_cons_self) (rds_tri fun y hy => h y (List.mem_cons_of_mem _ hy))
theorem rds_sort {g : Gh} {ds : List D} {vs : List V} {ps : List PyData} (r : RDs K g ds vs) (hl : ds.length = ps.length) : RDs K g (srtL ds ps) (((vs.zip ps).mergeSort (PySem.W.dataLe false Prod.snd)).map Prod.fst) := by
  have hv : vs.length = ps.length := r.length.trans hl
  have e1 : srtL ds ps = ((tri ds vs ps).mergeSort (PySem.W.dataLe false fun z : D × V × PyData => z.2.2)).map (·.1) := by
    unfold srtL
    rw [← tri_dp hl hv, ← List.map_mergeSort (f := fun z : D × V × PyData => (z.1, z.2.2)) (r := PySem.W.dataLe false fun z : D × V × PyData => z.2.2) (s := PySem.W.dataLe false Prod.snd) (fun a _ b _ => rfl), List.map_map]
    rfl
  have e2 : ((vs.zip ps).mergeSort (PySem.W.dataLe false Prod.snd)).map Prod.fst = ((tri ds vs ps).mergeSort (PySem.W.dataLe false fun z : D × V × PyData => z.2.2)).map (·.2.1) := by
    rw [← tri_vp hl hv, ← List.map_mergeSort (f := fun z : D × V × PyData => (z.2.1, z.2.2)) (r := PySem.W.dataLe false fun z : D × V × PyData => z.2.2) (s := PySem.W.dataLe false Prod.snd) (fun a _ b _ => rfl), List.map_map]
    rfl
  rw [e1, e2]
  exact rds_tri fun z hz => tri_rd r z ((List.mergeSort_perm _ _).mem_iff.mp hz)
theorem pys_length : ∀ {xs : List D} {ps : List PyData}, D.pys xs = some ps → xs.length = ps.length
  | [], ps, h => by cases h; rfl
  | x :: xs, ps, h => by
    unfold D.pys at h
    cases e1 : x.py with
    | none => simp only [e1] at h; cases h
    | some p =>
      cases e2 : D.pys xs with
      | none => simp only [e1, e2] at h; cases h
      | some qs =>
        simp only [e1, e2] at h
        cases h
        rw [List.length_cons, List.length_cons, pys_length e2]
theorem c_sorted : CallM K (rSortD K) sortedD := by
  intro W g S H ds vs Q R r p
  match ds, r, p with
  | [], _, p => exact p.elim
  | _ :: _ :: _, _, p => exact p.elim
  | [d], r, p =>
    obtain ⟨v, rfl, r0⟩ := r.one
    unfold sortedD at p
    simp only at p
    cases e : d.asL S with
    | none => simp only [e] at p; exact p.elim
    | some xs =>
      cases e2 : D.pys xs with
      | none => simp only [e, e2] at p; exact p.elim
      | some ps =>
        simp only [e, e2] at p
        by_cases h : srtB ps = true
        · rw [if_pos h] at p
          obtain ⟨a, ws, rfl, h1, h2⟩ := r0.asL R e
          refine ⟨a, ws, ps, rfl, h1, RDs.py R.sub h2 e2, h, fun q hq => ?_⟩
          exact p _ _ (Gh.add_ext (R.newG hq)) (R.add hq) _ (.lst upd_same ((rds_sort h2 (pys_length e2)).mono (Gh.add_ext (R.newG hq)).toExtG))
        · rw [if_neg h] at p; exact p.elim

/-! ### a comprehension whose list is a cell -/
theorem Rep.unside {g : Gh} {S : Store} {H : Hp} (R : Rep K g S H) {p : Addr} {o : HO} {F : Hp} (hp : g.F p = some o) (hF : ∀ a u, F a = some u → g.F a = some u ∧ a ≠ p) : Rep K { g with F := F } S (fun b => if b = p then none else H b) := by
  obtain ⟨f1, f2, f3⟩ := R.frm p o hp
  have x : ExtG g { g with F := F } := ⟨Same.refl _, Nat.le_refl _, fun _ _ => rfl⟩
  refine ⟨fun b u e => ?_, R.len, fun k c e => ?_, R.inj, fun a u e => ?_, fun q hq => ?_, fun F' hF' => ?_, R.dis⟩
  · have ne : b ≠ p := fun z => by
      have e' : g.G b = some u := e
      rw [z, f2] at e'; cases e'
    show (if b = p then none else H b) = some u
    rw [if_neg ne]
    exact R.sub b u e
  · rcases R.cel k _ e with z | ⟨h1, o', h2, h3⟩
    · exact .inl z
    · refine .inr ⟨h1, o', ?_, h3.mono x⟩
      show (if g.m k = p then none else H (g.m k)) = _
      rw [if_neg (f3 k (by rw [e]; exact h3.live))]
      exact h2
  · obtain ⟨q1, q2⟩ := hF a u e
    obtain ⟨h1, h2, h3⟩ := R.frm a u q1
    refine ⟨?_, h2, h3⟩
    show (if a = p then none else H a) = some u
    rw [if_neg q2]
    exact h1
  · refine (R.tab q hq).move x.G (if_neg (R.tabF hp q hq)) (R.tab q hq).1 ?_
    cases e : F q.1 with
    | none => exact e
    | some u =>
      have := (hF _ _ e).1
      rw [(R.tab q hq).2.1] at this; cases this
  · refine (R.fun_ F' hF').move x fun b u hb => ?_
    have ne := R.funF hp hF' b u hb
    obtain ⟨_, _, q3, q4⟩ := (R.fun_ F' hF').cs b u hb
    refine ⟨if_neg ne, q3, ?_⟩
    cases e : F b with
    | none => exact e
    | some v =>
      have := (hF _ _ e).1
      rw [q4] at this; cases this
theorem Rep.settleCell {g : Gh} {S : Store} {H : Hp} (R : Rep K g S H) {p : Addr} {ds : List D} {vs : List V} {F : Hp} (hp : g.F p = some (.lst vs)) (hF : ∀ a u, F a = some u → g.F a = some u ∧ a ≠ p) (h : RDs K g ds vs) : Rep K (({ g with F := F } : Gh).cell p) (S ++ [.lst ds]) H ∧ ExtG g (({ g with F := F } : Gh).cell p) := by
  obtain ⟨f1, f2, f3⟩ := R.frm p _ hp
  have x : ExtG g { g with F := F } := ⟨Same.refl _, Nat.le_refl _, fun _ _ => rfl⟩
  have R1 := R.unside hp hF
  have R2 := R1.cell (p := p) (ds := ds) (vs := vs) (if_pos rfl) (h.mono x)
  have e : upd (fun b => if b = p then none else H b) p (.lst vs) = H := by
    funext b
    by_cases c : b = p
    · subst c; rw [upd_same]; exact f1.symm
    · rw [upd_ne c, if_neg c]
  rw [e] at R2
  exact ⟨R2, x.trans Gh.cell_ext.toExtG⟩
def fLcN (vs : List Nat) (it : F (List D)) (k : FG) (t : F Bool) (e : FE) : FE := fun ρ S => (it ρ S).bind fun ds S1 => if ds.length ≤ line then (compF k t e (wipeD ρ vs) ds S1).bind fun ys S2 => .ok (.cell S2.length) (S2 ++ [.lst ys]) else .no
theorem lc_readN {vs ws : List Nat} {fi : F (List D)} {k : FG} {ft : F Bool} {fe : FE} (hws : ∀ i ∈ ws, i ∈ vs) {σ : L2.St} {H : Hp} {C : Gh → Store → Hp → D → Prop} {Q : VK}
    (hC : ∀ g S H d, Rep K g S H → C g S H d → ∀ v, RD K g d v → Q v H)
    (h : rd K W (fLcN vs fi k ft fe) σ H C) : tLc (rdI K W fi) (rdG K E00 ws k) (rdT K E00 ft) (rdE K E00 fe) vs σ H Q := by
  obtain ⟨g0, S0, ρ0, R0, rs0, p0⟩ := h
  refine ⟨g0, S0, ρ0, R0, rs0, (pst.bind p0).mp fun g1 S1 H1 ds x1 R1 p1 J hJ A hA => ?_⟩
  have rs1 := (rs0.mono x1.toExtG).wipe vs
  by_cases hlen : ds.length ≤ line
  · rw [if_pos hlen] at p1
    rcases compF_noex (k := k) (t := ft) (e := fe) (ρ := wipeD ρ0 vs) ds S1 with ⟨zs, S9, e9⟩ | e9
    · rw [e9] at p1
      have p2 : ∀ g' H', Ext g1 g' → Rep K g' (S9 ++ [.lst zs]) H' → C g' (S9 ++ [.lst zs]) H' (.cell S9.length) := p1
      have hF1 : ∀ a u, g1.F a = some u → a ≠ A := fun a u e => by
        have := (R1.frm a u e).1
        exact ne_of_none this hA
      refine ⟨fun i m H => i + m = ds.length ∧ ∃ g S acc us ys, ExtG g1 g ∧ g.F = upd g1.F A (.lst us) ∧ Rep K g S H ∧ RDs K g acc us ∧ acc.length ≤ i ∧ compF k ft fe (wipeD ρ0 vs) (ds.drop i) S = .ok ys S9 ∧ zs = acc ++ ys,
        ⟨ds.length, by omega, g1.aside A (.lst []), S1, [], [], zs, ⟨Same.refl _, Nat.le_refl _, fun _ _ => rfl⟩, rfl, R1.aside hA, .nil, Nat.le_refl _, e9, rfl⟩, ?_⟩
      rintro i m H ⟨hm, g, S, acc, us, ys, x, hF, R, ra, hacc, ec, ez⟩
      obtain ⟨stop, item⟩ := hJ g S H x R
      by_cases hi : i < ds.length
      · have ed : ds[i]? = some ds[i] := List.getElem?_eq_getElem hi
        obtain ⟨go, yl⟩ := item i ds[i] ed
        rw [List.drop_eq_getElem_cons hi] at ec
        obtain ⟨ρa, Sa, ea, ec⟩ := Out.noex_ok ec
        obtain ⟨b, Sb, eb, ec⟩ := Out.noex_ok ec
        refine .inr ⟨go, fun H' => ∃ g S acc us ys, ExtG g1 g ∧ g.F = upd g1.F A (.lst us) ∧ Rep K g S H' ∧ RDs K g acc us ∧ acc.length ≤ i + 1 ∧ compF k ft fe (wipeD ρ0 vs) (ds.drop (i + 1)) S = .ok ys S9 ∧ zs = acc ++ ys, fun H' h => ⟨m - 1, by omega, by omega, h⟩, fun v H' y => ?_⟩
        obtain ⟨g2, x2, R2, r2⟩ := yl v H' y
        have xx := x.trans x2.toExtG
        refine ⟨g2, S, wipeD ρ0 vs, ds[i], R2, rs1.mono xx, r2, ?_⟩
        rw [ea]
        intro g3 H3 x3 R3 σ3 rs3 off
        obtain ⟨o1, o2⟩ := off_of_wipe off
        refine ⟨?_, ?_⟩
        · refine wipe_ext (o1.trans (wipe_length _ _)) fun j hj => ?_
          rw [o2 j fun z => hj (hws j z), wipe_keep hj]
        refine ⟨g3, Sa, ρa, R3, rs3, ?_⟩
        rw [eb]
        intro g4 H4 x4 R4
        have hF4 : g4.F = upd g1.F A (.lst us) := x4.F.trans (x3.F.trans (x2.F.trans hF))
        have xx4 := (xx.trans x3.toExtG).trans x4.toExtG
        cases b with
        | false => exact ⟨g4, Sb, acc, us, ys, xx4, hF4, R4, ra.mono ((x2.toExtG.trans x3.toExtG).trans x4.toExtG), by omega, ec, ez⟩
        | true =>
          obtain ⟨dy, Sc, ey, ec⟩ := Out.noex_ok ec
          obtain ⟨yt, Sd, ey2, ec⟩ := Out.bind_eq_ok ec
          cases ec
          refine ⟨g4, Sb, ρa, R4, rs3.mono x4.toExtG, ?_⟩
          rw [ey]
          intro g5 H5 x5 R5 vy ry
          have hF5 : g5.F = upd g1.F A (.lst us) := x5.F.trans hF4
          have hFA : g5.F A = some (.lst us) := by rw [hF5, upd_same]
          refine ⟨us, (R5.frm A _ hFA).1, ?_, ?_⟩
          · have := ra.length
            rw [line_eq] at hlen
            omega
          · have x6 : ExtG g5 (g5.aside A (.lst (us ++ [vy]))) := ⟨Same.refl _, Nat.le_refl _, fun _ _ => rfl⟩
            have x56 := x5.toExtG.trans x6
            refine ⟨g5.aside A (.lst (us ++ [vy])), Sc, acc ++ [dy], us ++ [vy], yt, xx4.trans x56, ?_, R5.again hFA, ?_, ?_, ey2, ?_⟩
            · show upd g5.F A _ = _
              rw [hF5, upd_upd]
            · exact (ra.mono (((x2.toExtG.trans x3.toExtG).trans x4.toExtG).trans x56)).append (.cons (ry.mono x6) .nil)
            · rw [List.length_append]
              exact Nat.succ_le_succ hacc
            · rw [ez, List.append_assoc]; rfl
      · have e : i = ds.length := by omega
        subst e
        rw [List.drop_length] at ec
        cases ec
        rw [List.append_nil] at ez
        subst ez
        have hFA : g.F A = some (.lst us) := by rw [hF, upd_same]
        obtain ⟨R', x'⟩ := R.settleCell (F := g1.F) hFA (fun a u e => ⟨by rw [hF, upd_ne (hF1 a u e)]; exact e, hF1 a u e⟩) ra
        refine .inl ⟨stop, hC _ _ _ _ R' (p2 _ H ⟨x.trans x', rfl⟩ R') _ ?_⟩
        exact .cell (by rw [R.len]; exact Nat.lt_succ_self _) (if_pos R.len)
    · rw [e9] at p1; exact p1.elim
  · rw [if_neg hlen] at p1; exact p1.elim
theorem me_lcN {elt tg iter : Expr} {ifs : List Expr} {scope : Scope} {own : List (Str × Nat)} {pos : Pos} {fi : F (List D)} {ws : List Nat} {k : FG} {ft : F Bool} {fe : FE} (hc : X.calm = true) (hN : X.N.Nodup) (ok : BlkOk X.N X.env.scope scope own) (hws : ∀ i ∈ ws, i ∈ own.map (·.2)) (hi : MI X W tg iter fi)
    (hg : ∀ (s : Shared) (H : Hp) (C : Addr) (cl : List (Str × Addr)) (fp : List Addr), MG (X.blk s H scope (compEnvC scope cl C X.env) fp) W.no tg ws k) (ht : ∀ (s : Shared) (H : Hp) (C : Addr) (cl : List (Str × Addr)) (fp : List Addr), PTs (X.blk s H scope (compEnvC scope cl C X.env) fp) ifs (rdT (kwX X W) E00 ft))
    (he : ∀ (s : Shared) (H : Hp) (C : Addr) (cl : List (Str × Addr)) (fp : List Addr), ME (X.blk s H scope (compEnvC scope cl C X.env) fp) W.no elt fe) (hs : ∀ x, foldedSetIterable iter X.env x = pure x := by intro _; rfl) :
    ME X W (.ListComp elt [⟨tg, iter, ifs, 0⟩] scope pos) (fLcN (own.map (·.2)) fi k ft fe) :=
  PE.imp (pe_lc hc hN hi ok hg ht he hs) fun σ H Q h => lc_readN hws (fun g S H d R c v r => c v r) h
theorem ms_setLcN {i : Nat} {y : Str} {py : Pos} {elt tg iter : Expr} {ifs : List Expr} {scope : Scope} {own : List (Str × Nat)} {pos spos : Pos} {fi : F (List D)} {ws : List Nat} {k : FG} {ft : F Bool} {fe : FE} (hc : X.calm = true) (hN : X.N.Nodup) (hy : X.N[i]? = some y) (hyl : X.env.scope.names.lookup y = some .local)
    (hsw : swapsWith (.ListComp elt [⟨tg, iter, ifs, 0⟩] scope pos) (some (.Name y py)) spos.line X.env = pure true) (ok : BlkOk X.N X.env.scope scope own) (hws : ∀ i ∈ ws, i ∈ own.map (·.2)) (hi : MI X W tg iter fi)
    (hg : ∀ (s : Shared) (H : Hp) (C : Addr) (cl : List (Str × Addr)) (fp : List Addr), MG (X.blk s H scope (compEnvC scope cl C X.env) fp) W.no tg ws k) (ht : ∀ (s : Shared) (H : Hp) (C : Addr) (cl : List (Str × Addr)) (fp : List Addr), PTs (X.blk s H scope (compEnvC scope cl C X.env) fp) ifs (rdT (kwX X W) E00 ft))
    (he : ∀ (s : Shared) (H : Hp) (C : Addr) (cl : List (Str × Addr)) (fp : List Addr), ME (X.blk s H scope (compEnvC scope cl C X.env) fp) W.no elt fe) (hs : ∀ x, foldedSetIterable iter X.env x = pure x := by intro _; rfl) :
    MS X W (.Assign [.Name y py] (.ListComp elt [⟨tg, iter, ifs, 0⟩] scope pos) spos) (fSet i (fLcN (own.map (·.2)) fi k ft fe)) :=
  PS.imp (ps_setLc hc hN hy hyl hsw hi ok hg ht he hs) fun D' σ H h => by
    obtain ⟨g, S, ρ, R, rs, p⟩ := h
    refine lc_readN (C := fun g _ H' d => ∀ v, RD (kwX X W) g d v → gName i v σ H' D'.nx) hws (fun g S H d R c v r => c v r) ⟨g, S, ρ, R, rs, (pst.bind p).mp fun g1 S1 H1 d x R1 q v r => ?_⟩
    exact pst.here q R1 _ ((rs.mono x.toExtG).set i r)


/-! ### a comprehension over a cell -/
def compC (c : Nat) (k : FG) (t : F Bool) (e : FE) (ρ : Sl) : Nat → Nat → Store → Out (List D)
  | 0, _, _ => .no
  | n + 1, i, S => match S[c]? with
    | some (.lst xs) => match xs[i]? with
      | none => .ok [] S
      | some d => (k d ρ S).noex.bind fun ρ1 S1 => (t ρ1 S1).noex.bind fun b S2 => if b = true then (e ρ1 S2).noex.bind fun y S3 => (compC c k t e ρ n (i + 1) S3).bind fun ys S4 => .ok (y :: ys) S4 else compC c k t e ρ n (i + 1) S2
    | _ => .no
theorem compC_notEx {c : Nat} {k : FG} {t : F Bool} {e : FE} {ρ : Sl} : ∀ (n i : Nat) (S : Store), NotEx (compC c k t e ρ n i S)
  | 0, _, _ => notEx_no
  | n + 1, i, S => by
    unfold compC
    split
    · split
      · exact notEx_ok
      · exact notEx_noex fun ρ1 S1 => notEx_noex fun b S2 => by
          cases b with
          | false => exact compC_notEx n _ _
          | true => exact notEx_noex fun y S3 => notEx_bind (compC_notEx n _ _) fun _ _ => notEx_ok
    · exact notEx_no
theorem compC_noex {c : Nat} {k : FG} {t : F Bool} {e : FE} {ρ : Sl} (n i : Nat) (S : Store) : (∃ ys S', compC c k t e ρ n i S = .ok ys S') ∨ compC c k t e ρ n i S = .no := by
  have h := compC_notEx (c := c) (k := k) (t := t) (e := e) (ρ := ρ) n i S
  cases q : compC c k t e ρ n i S with
  | ok a S' => exact .inl ⟨a, S', rfl⟩
  | ex e' S' => rw [q] at h; exact absurd rfl (h e' S')
  | no => exact .inr rfl
def fLcC (vs : List Nat) (o : FE) (k : FG) (t : F Bool) (e : FE) : FE := fun ρ S => (o ρ S).bind fun d S1 => match d with
  | .cell c => match S1[c]? with
    | some (.lst xs) => if xs.length < line then (compC c k t e (wipeD ρ vs) (xs.length + 1) 0 S1).bind fun ys S2 => .ok (.lst ys) S2 else .no
    | _ => .no
  | _ => .no
theorem lc_readC {vs ws : List Nat} {fo : FE} {k : FG} {ft : F Bool} {fe : FE} (hws : ∀ i ∈ ws, i ∈ vs) {σ : L2.St} {H : Hp} {C : Gh → Store → Hp → D → Prop} {Q : VK}
    (hC : ∀ g S H d, Rep K g S H → C g S H d → ∀ v, RD K g d v → Q v H)
    (h : rd K W (fLcC vs fo k ft fe) σ H C) : tLc (rSeqI K (rdE K W fo)) (rdG K E00 ws k) (rdT K E00 ft) (rdE K E00 fe) vs σ H Q := by
  obtain ⟨g0, S0, ρ0, R0, rs0, p0⟩ := h
  refine ⟨g0, S0, ρ0, R0, rs0, (pst.bind p0).mp fun g1 S1 H1 d x1 R1 p1 v rv => ?_⟩
  cases rv with
  | cell h1 h2 =>
    rename_i kc a
    simp only at p1
    cases ek : S1[kc]? with
    | none => rw [ek] at p1; exact p1.elim
    | some cc =>
      cases cc with
      | dead => rw [ek] at p1; exact p1.elim
      | dct _ => rw [ek] at p1; exact p1.elim
      | lst ds =>
        rw [ek] at p1
        simp only at p1
        obtain ⟨_, us0, q1, q2⟩ := R1.lst ek
        refine ⟨a, rfl, .inl ⟨us0, by rw [← h2]; exact .inl (.inl q1), fun A hA => ?_⟩⟩
        have rs1 := (rs0.mono x1.toExtG).wipe vs
        by_cases hlen : ds.length < line
        · rw [if_pos hlen] at p1
          rcases compC_noex (c := kc) (k := k) (t := ft) (e := fe) (ρ := wipeD ρ0 vs) (ds.length + 1) 0 S1 with ⟨zs, S9, e9⟩ | e9
          · rw [e9] at p1
            have p2 : ∀ g' H', Ext g1 g' → Rep K g' S9 H' → C g' S9 H' (.lst zs) := p1
            have hF1 : ∀ a u, g1.F a = some u → a ≠ A := fun a u e => by
              have := (R1.frm a u e).1
              exact ne_of_none this hA
            refine ⟨fun i m H => i + m = ds.length + 1 ∧ ∃ g S acc us ys, ExtG g1 g ∧ g.F = upd g1.F A (.lst us) ∧ Rep K g S H ∧ RDs K g acc us ∧ acc.length ≤ i ∧ compC kc k ft fe (wipeD ρ0 vs) m i S = .ok ys S9 ∧ zs = acc ++ ys,
              ⟨ds.length + 1, by omega, g1.aside A (.lst []), S1, [], [], zs, ⟨Same.refl _, Nat.le_refl _, fun _ _ => rfl⟩, rfl, R1.aside hA, .nil, Nat.le_refl _, e9, rfl⟩, ?_⟩
            rintro i m H ⟨hm, g, S, acc, us, ys, x, hF, R, ra, hacc, ec, ez⟩
            cases m with
            | zero => cases ec
            | succ m =>
              unfold compC at ec
              cases ek2 : S[kc]? with
              | none => rw [ek2] at ec; cases ec
              | some cc2 =>
                cases cc2 with
                | dead => rw [ek2] at ec; cases ec
                | dct _ => rw [ek2] at ec; cases ec
                | lst xs =>
                  rw [ek2] at ec
                  simp only at ec
                  obtain ⟨_, us2, w1, w2⟩ := R.lst ek2
                  have ha : g.m kc = a := (x.m kc h1).trans h2
                  rw [ha] at w1
                  have hq : SqL K H a us2 := .inl (.inl w1)
                  cases ei : xs[i]? with
                  | none =>
                    rw [ei] at ec
                    simp only at ec
                    cases ec
                    rw [List.append_nil] at ez
                    subst ez
                    have hFA : g.F A = some (.lst us) := by rw [hF, upd_same]
                    obtain ⟨R', x'⟩ := R.settle (F := g1.F) hFA fun a u e => ⟨by rw [hF, upd_ne (hF1 a u e)]; exact e, hF1 a u e⟩
                    have hi : xs.length ≤ i := List.getElem?_eq_none_iff.mp ei
                    refine .inl ⟨⟨us2, hq, by rw [w2.length]; exact hi⟩, hC _ _ _ _ R' (p2 _ H ⟨x.trans x', rfl⟩ R') _ ?_⟩
                    exact .lst upd_same (ra.mono x')
                  | some d =>
                    rw [ei] at ec
                    simp only at ec
                    obtain ⟨ρa, Sa, ea, ec⟩ := Out.noex_ok ec
                    obtain ⟨b, Sb, eb, ec⟩ := Out.noex_ok ec
                    obtain ⟨v, z1, z2⟩ := w2.get ei
                    refine .inr ⟨⟨us2, v, hq, z1⟩, fun H' => ∃ g S acc us ys, ExtG g1 g ∧ g.F = upd g1.F A (.lst us) ∧ Rep K g S H' ∧ RDs K g acc us ∧ acc.length ≤ i + 1 ∧ compC kc k ft fe (wipeD ρ0 vs) m (i + 1) S = .ok ys S9 ∧ zs = acc ++ ys, fun H' h => ⟨m, by omega, by omega, h⟩, fun v' H' y => ?_⟩
                    obtain ⟨rfl, y2⟩ := y
                    have ev : v' = v := Option.some.inj ((y2 us2 hq).symm.trans z1)
                    subst ev
                    refine ⟨g, S, wipeD ρ0 vs, d, R, rs1.mono x, z2, ?_⟩
                    rw [ea]
                    intro g3 H3 x3 R3 σ3 rs3 off
                    obtain ⟨o1, o2⟩ := off_of_wipe off
                    refine ⟨?_, ?_⟩
                    · refine wipe_ext (o1.trans (wipe_length _ _)) fun j hj => ?_
                      rw [o2 j fun z => hj (hws j z), wipe_keep hj]
                    refine ⟨g3, Sa, ρa, R3, rs3, ?_⟩
                    rw [eb]
                    intro g4 H4 x4 R4
                    have hF4 : g4.F = upd g1.F A (.lst us) := x4.F.trans (x3.F.trans hF)
                    have xx4 := (x.trans x3.toExtG).trans x4.toExtG
                    cases b with
                    | false => exact ⟨g4, Sb, acc, us, ys, xx4, hF4, R4, ra.mono (x3.toExtG.trans x4.toExtG), by omega, ec, ez⟩
                    | true =>
                      obtain ⟨dy, Sc, ey, ec⟩ := Out.noex_ok ec
                      obtain ⟨yt, Sd, ey2, ec⟩ := Out.bind_eq_ok ec
                      cases ec
                      refine ⟨g4, Sb, ρa, R4, rs3.mono x4.toExtG, ?_⟩
                      rw [ey]
                      intro g5 H5 x5 R5 vy ry
                      have hF5 : g5.F = upd g1.F A (.lst us) := x5.F.trans hF4
                      have hFA : g5.F A = some (.lst us) := by rw [hF5, upd_same]
                      refine ⟨us, (R5.frm A _ hFA).1, ?_, ?_⟩
                      · have := ra.length
                        rw [line_eq] at hlen
                        omega
                      · have x6 : ExtG g5 (g5.aside A (.lst (us ++ [vy]))) := ⟨Same.refl _, Nat.le_refl _, fun _ _ => rfl⟩
                        have x56 := x5.toExtG.trans x6
                        refine ⟨g5.aside A (.lst (us ++ [vy])), Sc, acc ++ [dy], us ++ [vy], yt, xx4.trans x56, ?_, R5.again hFA, ?_, ?_, ey2, ?_⟩
                        · show upd g5.F A _ = _
                          rw [hF5, upd_upd]
                        · exact (ra.mono ((x3.toExtG.trans x4.toExtG).trans x56)).append (.cons (ry.mono x6) .nil)
                        · rw [List.length_append]
                          exact Nat.succ_le_succ hacc
                        · rw [ez, List.append_assoc]; rfl
          · rw [e9] at p1; exact p1.elim
        · rw [if_neg hlen] at p1; exact p1.elim
  | _ => exact p1.elim
theorem me_lcC {elt tg iter : Expr} {ifs : List Expr} {scope : Scope} {own : List (Str × Nat)} {pos : Pos} {fo : FE} {ws : List Nat} {k : FG} {ft : F Bool} {fe : FE} (hc : X.calm = true) (hN : X.N.Nodup) (ok : BlkOk X.N X.env.scope scope own) (hws : ∀ i ∈ ws, i ∈ own.map (·.2)) (hi : ME X W iter fo)
    (hg : ∀ (s : Shared) (H : Hp) (C : Addr) (cl : List (Str × Addr)) (fp : List Addr), MG (X.blk s H scope (compEnvC scope cl C X.env) fp) W.no tg ws k) (ht : ∀ (s : Shared) (H : Hp) (C : Addr) (cl : List (Str × Addr)) (fp : List Addr), PTs (X.blk s H scope (compEnvC scope cl C X.env) fp) ifs (rdT (kwX X W) E00 ft))
    (he : ∀ (s : Shared) (H : Hp) (C : Addr) (cl : List (Str × Addr)) (fp : List Addr), ME (X.blk s H scope (compEnvC scope cl C X.env) fp) W.no elt fe) (hs : ∀ x, foldedSetIterable iter X.env x = pure x := by intro _; rfl) :
    ME X W (.ListComp elt [⟨tg, iter, ifs, 0⟩] scope pos) (fLcC (own.map (·.2)) fo k ft fe) :=
  PE.imp (pe_lc hc hN (pi_seq hi) ok hg ht he hs) fun σ H Q h => lc_readC hws (fun g S H d R c v r => c v r) h
theorem ms_setLcC {i : Nat} {y : Str} {py : Pos} {elt tg iter : Expr} {ifs : List Expr} {scope : Scope} {own : List (Str × Nat)} {pos spos : Pos} {fo : FE} {ws : List Nat} {k : FG} {ft : F Bool} {fe : FE} (hc : X.calm = true) (hN : X.N.Nodup) (hy : X.N[i]? = some y) (hyl : X.env.scope.names.lookup y = some .local)
    (hsw : swapsWith (.ListComp elt [⟨tg, iter, ifs, 0⟩] scope pos) (some (.Name y py)) spos.line X.env = pure true) (ok : BlkOk X.N X.env.scope scope own) (hws : ∀ i ∈ ws, i ∈ own.map (·.2)) (hi : ME X W iter fo)
    (hg : ∀ (s : Shared) (H : Hp) (C : Addr) (cl : List (Str × Addr)) (fp : List Addr), MG (X.blk s H scope (compEnvC scope cl C X.env) fp) W.no tg ws k) (ht : ∀ (s : Shared) (H : Hp) (C : Addr) (cl : List (Str × Addr)) (fp : List Addr), PTs (X.blk s H scope (compEnvC scope cl C X.env) fp) ifs (rdT (kwX X W) E00 ft))
    (he : ∀ (s : Shared) (H : Hp) (C : Addr) (cl : List (Str × Addr)) (fp : List Addr), ME (X.blk s H scope (compEnvC scope cl C X.env) fp) W.no elt fe) (hs : ∀ x, foldedSetIterable iter X.env x = pure x := by intro _; rfl) :
    MS X W (.Assign [.Name y py] (.ListComp elt [⟨tg, iter, ifs, 0⟩] scope pos) spos) (fSet i (fLcC (own.map (·.2)) fo k ft fe)) :=
  PS.imp (ps_setLc hc hN hy hyl hsw (pi_seq hi) ok hg ht he hs) fun D' σ H h => by
    obtain ⟨g, S, ρ, R, rs, p⟩ := h
    refine lc_readC (C := fun g _ H' d => ∀ v, RD (kwX X W) g d v → gName i v σ H' D'.nx) hws (fun g S H d R c v r => c v r) ⟨g, S, ρ, R, rs, (pst.bind p).mp fun g1 S1 H1 d x R1 q v r => ?_⟩
    exact pst.here q R1 _ ((rs.mono x.toExtG).set i r)

theorem bb_sorted : bootBuiltins "sorted" = some (.builtin "sorted") := by kernel_rfl
end
end MK

namespace MK
open PySem PySem.Spec PyProof.Rows L2
section
variable {X : Cx} {W : WT} {U : XK} {K : KW}
/-! ### texts: *, slices, str(n) -/
theorem str_mul_ok {z : Str} {n : Int} (h : -(2 ^ 63) ≤ n ∧ n ≤ 1000000 ∧ z.length ≤ 10) : MulOk z n := by
  obtain ⟨h1, h2, h3⟩ := h
  refine ⟨?_, fun h4 _ => ?_, fun h4 _ => ?_⟩
  · rw [decide_eq_false (by omega), decide_eq_false (by omega)]
    rfl
  · have : (2 ^ 63 - 1) / n ≥ 10 := by
      refine (Int.le_ediv_iff_mul_le (by omega)).mpr ?_
      omega
    omega
  · unfold Builtin.Str.tooLong
    have : z.length * n.toNat ≤ 10 * 1000000 := Nat.mul_le_mul h3 (by omega)
    refine decide_eq_false ?_
    rw [sizeLine_eq]
    omega
def mulS : B2 := fun x y S => match x, y with
  | .str z, .int n => if -(2 ^ 63) ≤ n ∧ n ≤ 1000000 ∧ z.length ≤ 10 then .ok (.str (Txt.mul z n)) S else .no
  | _, _ => mulD x y S
def rMulS : R2 := fun x y H Q => ∃ z n, x = V.str z ∧ y = V.int n ∧ MulOk z n ∧ Q (.str (Txt.mul z n)) H
theorem op_mul_str : OpR X (binaryOp .Mult) rMulS := by
  intro pins s σ H x y v u Q I rx ry h
  obtain ⟨z, n, rfl, rfl, hok, q⟩ := h
  obtain ⟨t, rfl⟩ := rx
  obtain ⟨t', rfl⟩ := ry
  exact PySem.SB.mul hok fun t2 k => ⟨.str _, H, I.kept (t' := k) fun b o e => e, ⟨_, rfl⟩, q⟩
abbrev rMulSA : R2 := fun x y H Q => rMulA x y H Q ∨ rMulS x y H Q
theorem or_mulS : OpR X (binaryOp .Mult) rMulSA := or_mul.or op_mul_str
theorem mulS_cases (x y : D) (S : Store) : (∃ z n, x = .str z ∧ y = .int n ∧ mulS x y S = if -(2 ^ 63) ≤ n ∧ n ≤ 1000000 ∧ z.length ≤ 10 then .ok (.str (Txt.mul z n)) S else .no) ∨ mulS x y S = mulD x y S := by
  cases x <;> cases y <;> first | exact .inl ⟨_, _, rfl, rfl, rfl⟩ | exact .inr rfl
theorem o_mulS : Op2 K rMulSA mulS := by
  intro W g S H dx dy x y Q R rx ry p
  rcases mulS_cases dx dy S with ⟨z, n, rfl, rfl, e⟩ | e
  · rw [e] at p
    cases rx
    cases ry
    by_cases c : -(2 ^ 63) ≤ n ∧ n ≤ 1000000 ∧ z.length ≤ 10
    · rw [if_pos c] at p
      exact .inr ⟨z, n, rfl, rfl, str_mul_ok c, pst.here p R _ (.str _)⟩
    · rw [if_neg c] at p
      exact p.elim
  · rw [e] at p
    exact .inl (o_mul W g S H dx dy x y Q R rx ry p)
/-- slices of texts too -/
def slS (x : D) (lo hi : Option Int) (S : Store) : Out D := match x with
  | .str z => if z.length ≤ line then .ok (.str (cutS z lo hi)) S else .no
  | _ => slD x lo hi S
def fSlS (a : FE) (lo hi : F (Option Int)) : FE := fun ρ S => (a ρ S).bind fun x S1 => (lo ρ S1).bind fun l S2 => (hi ρ S2).bind fun u S3 => slS x l u S3
theorem slS_cases (x : D) (lo hi : Option Int) (S : Store) : (∃ z, x = .str z ∧ slS x lo hi S = if z.length ≤ line then .ok (.str (cutS z lo hi)) S else .no) ∨ slS x lo hi S = slD x lo hi S := by
  cases x <;> first | exact .inl ⟨_, rfl, rfl⟩ | exact .inr rfl
theorem me_sliceS {e : Expr} {lo hi : Option Expr} {p2 pos : Pos} {f : FE} {fl fh : F (Option Int)} (he : ME X W e f) (hl : MO X W lo fl) (hu : MO X W hi fh) : ME X W (.Subscript e (.Slice lo hi none p2) pos) (fSlS f fl fh) :=
  PE.imp (pe_slice ((sl_list.or sl_tupP).or sl_str) he hl hu) fun σ H Q h => by
    obtain ⟨g, S, ρ, R, rs, p⟩ := h
    refine ⟨g, S, ρ, R, rs, (pst.bind p).mp fun g1 S1 H1 dx x1 R1 p1 x rx => ?_⟩
    refine ⟨g1, S1, ρ, R1, rs.mono x1.toExtG, p1.bind.mp fun g2 S2 H2 l x2 R2 p2 => ?_⟩
    refine ⟨g2, S2, ρ, R2, (rs.mono x1.toExtG).mono x2.toExtG, p2.bind.mp fun g3 S3 H3 u x3 R3 p3 => ?_⟩
    have rx3 := (rx.mono x2.toExtG).mono x3.toExtG
    rcases slS_cases dx l u S3 with ⟨z, rfl, e⟩ | e
    · rw [e] at p3
      cases rx3
      by_cases c : z.length ≤ line
      · rw [if_pos c] at p3
        exact .inr ⟨z, rfl, by rw [← line_eq]; exact c, pst.here p3 R3 _ (.str _)⟩
      · rw [if_neg c] at p3; exact p3.elim
    · rw [e] at p3
      unfold slD at p3
      cases e1 : dx.asL S3 with
      | some xs =>
        rw [e1] at p3
        obtain ⟨a, vs, rfl, h1, h2⟩ := rx3.asL R3 e1
        refine .inl (.inl ⟨a, vs, rfl, h1, fun q hq => ?_⟩)
        exact p3 _ _ (Gh.add_ext (R3.newG hq)) (R3.add hq) _ (.lst upd_same ((h2.cut l u).mono (Gh.add_ext (R3.newG hq)).toExtG))
      | none =>
        cases e3 : dx.asT with
        | none => simp only [e1, e3] at p3; exact p3.elim
        | some xs =>
          simp only [e1, e3] at p3
          obtain ⟨a, vs, rfl, h1, h2⟩ := rx3.asT R3 e3
          refine .inl (.inr ⟨a, vs, rfl, h1, fun w => ?_, fun q o ho hq => ?_⟩)
          · rw [h2.length] at w
            rw [cut_all w] at p3
            cases rx3 with
            | tup q1 q2 =>
              cases e3
              exact pst.here p3 R3 _ (.tup q1 q2)
            | _ => cases e3
          · exact p3 _ _ (Gh.add_ext (R3.newG hq)) (R3.add hq) _ (.tup (.new ho) ((h2.cut l u).mono (Gh.add_ext (R3.newG hq)).toExtG))
/-- str(n) -/
def strD : List D → Store → Out D
  | [d], S => match d with
    | .int i => if i.natAbs.log2 < 1920 then .ok (.str (toString i)) S else .no
    | _ => .no
  | _, _ => .no
theorem c_str : CallM K (fun xs H Q => ∃ i, xs = [V.int i] ∧ i.natAbs.log2 < 1920 ∧ Q (.str (toString i)) H) strD := by
  intro W g S H ds vs Q R r p
  match ds, r, p with
  | [], _, p => exact p.elim
  | _ :: _ :: _, _, p => exact p.elim
  | [d], r, p =>
    obtain ⟨v, rfl, r0⟩ := r.one
    cases r0 with
    | int i =>
      have p' : pst K W g (if i.natAbs.log2 < 1920 then Out.ok (D.str (toString i)) S else Out.no) _ := p
      by_cases c : i.natAbs.log2 < 1920
      · rw [if_pos c] at p'
        exact ⟨i, rfl, c, pst.here p' R _ (.str _)⟩
      · rw [if_neg c] at p'; exact p'.elim
    | _ => exact p.elim
/-! n // d, d not 0 -/
def CDivB (_ j : Int) : Prop := j ≠ 0 ∧ j.natAbs.log2 < 9000
instance (i j : Int) : Decidable (CDivB i j) := inferInstanceAs (Decidable (_ ∧ _))
theorem op_fdivB : OpR X (binaryOp .FloorDiv) (rI CDivB fun i j => .int (i.fdiv j)) := opI fun _ _ _ _ _ _ _ hc q => floordiv_int hc.1 q (.inl (PyProof.noPylong_of_log2 hc.2))
def divB : B2
  | .int i, .int j, S => if CDivB i j then .ok (.int (i.fdiv j)) S else .no
  | _, _, _ => .no
theorem o_divB : Op2 K (rI CDivB fun i j => .int (i.fdiv j)) divB := o_int (fun i j S => by
    show (if CDivB i j then Out.ok (D.int (i.fdiv j)) S else Out.no) = .no ∨ (CDivB i j ∧ (if CDivB i j then Out.ok (D.int (i.fdiv j)) S else Out.no) = .ok _ S)
    by_cases h : CDivB i j
    · rw [if_pos h]; exact .inr ⟨h, rfl⟩
    · rw [if_neg h]; exact .inl rfl) fun x y S h => by
    cases x <;> first
      | rfl
      | (cases y <;> first | rfl | exact absurd ⟨rfl, rfl⟩ (h _ _))
end
end MK

namespace MK
open PySem PySem.Spec PyProof.Rows L2
/-! ### repr of ints of many digits -/
abbrev NoLim (K : PySem.W.Frag) : Prop := PySem.W.nsIn K cStatics "sys.int_max_str_digits" = some none
def wideI (a : Int) : Prop := a.natAbs.log2 < 12900
instance (a : Int) : Decidable (wideI a) := inferInstanceAs (Decidable (_ < _))
section
variable {K : PySem.W.Frag} {prog : Program} {w : World} {A : Around} {E : Value → Shared → Prop} {s : Shared}
theorem overDig {M : Model} {h₀ : Heap} {a : Int} {Q : Option Nat → Shared → Prop} (KX : K.In h₀) (hk : ∀ b o, h₀.get? b = some o → s.heap.get? b = some o) (nl : NoLim K) (h3 : wideI a) (h : Q none s) : wpAny M A (Builtin.overDigitLimit? a) Q E s := by
  unfold Builtin.overDigitLimit?
  by_cases hs : a.natAbs.log2 < 1920
  · rw [if_pos hs]
    exact wpAny_pure h
  · rw [if_neg hs]
    unfold Builtin.intMaxStrDigits
    refine wpAny_bind (wpAny_bind (PySem.W.looks_nsIn (M := M) KX nl _ _ _ _ hk (wpAny_pure ?_)))
    dsimp only
    have h3' : a.natAbs.log2 < 12900 := h3
    rw [if_neg (by omega), if_pos (by simp; omega)]
    exact wpAny_pure h
theorem wide_lt {a : Int} (h : wideI a) : a.natAbs < 10 ^ 4300 := Nat.lt_of_lt_of_le (lt_of_log2 h) pow_lo
theorem call_int_reprW {h₀ : Heap} {a : Int} {t : Tok} {Q : Value → Shared → Prop} (KX : K.In h₀) (hk : ∀ b o, h₀.get? b = some o → s.heap.get? b = some o) (nl : NoLim K) (h3 : wideI a)
    (h1 : Q (.str (toString a) s.toks) { s with toks := s.toks + 1 }) : wpAny (model prog w) A (call (.builtin "int.__repr__") [.int a t]) Q E s := by
  refine wpAny_call_entry PySem.F.slot_int_repr (typeIs_int s a t) PySem.F.entry_int_repr ?_ (PySem.F.args_int_repr_1 _)
  unfold Builtin.«int.__repr__»
  show wpAny _ _ (do let r ← Builtin.overDigitLimit? a; _) _ _ s
  refine wpAny_bind (overDig KX hk nl h3 ?_)
  exact wpAny_bind (wpAny_mkStr (wpAny_pure ⟨_, rfl, h1⟩) (int_text_fits10 (wide_lt h3)))
theorem reprK_wide {h₀ : Heap} {a : Int} {t : Tok} {d : Nat} (KX : K.In h₀) (nl : NoLim K) (h3 : wideI a) : ReprK prog w [] h₀ d (.int a t) (toString a) := by
  intro base hb A g E s Q hg hcl hu hk hQ
  have hn' : base ≤ sizeLine := by omega
  rw [pyReprUnder_leaf (v := .int a t) hn' (fun _ e => nomatch e)]
  unfold pyRepr
  refine wpAny_bind (wpAny_pyReprObj_slot (by omega) (typeIs_int s a t) PySem.F.slot_int_repr.toG ?_)
  exact call_int_reprW KX hk nl h3 ⟨_, _, rfl, wpAny_pure (hQ s.heap _ fun _ _ e => e)⟩
end
section
variable {X : Cx} {K : KW}
def rReprP (K : PySem.W.Frag) : List V → Hp → VK → Prop := fun xs H Q => ∃ a i j, xs = [V.ref a] ∧ SqT K H a [V.int i, V.int j] ∧ wideI i ∧ wideI j ∧ Q (.str (tupleText [toString i, toString j])) H
theorem wide_text {a : Int} (h : wideI a) : (Str.ofString (toString a)).length ≤ 12901 := by
  rw [PySem.ofString_length]
  exact int_text_length_le (k := 12900) (by decide) h
theorem cr_reprP {k : Nat} (gd : X.A.guards = some []) (hr : Room k X.A) (nl : NoLim X.K) : CallR X (.builtin "repr") (rReprP X.K) := by
  intro pins s σ H vs us Q I r h
  obtain ⟨a, i, j, rfl, hs, hi, hj, q⟩ := h
  obtain ⟨its, rv, p, _⟩ := I.tuple hs
  obtain ⟨u, rfl, ru⟩ := vals1 r
  obtain rfl : u = Value.ref a := ru
  obtain ⟨u1, u2, rfl, r1, r2⟩ := vals2 rv
  obtain ⟨t1, rfl⟩ := r1
  obtain ⟨t2, rfl⟩ := r2
  obtain ⟨o, ho, hc, n, hd⟩ := p
  have un := hr.un
  have hT : ReprAllK X.prog X.w [] s.heap 0 [Value.int i t1, Value.int j t2] [Str.ofString (toString i), Str.ofString (toString j)] := .cons (reprK_wide I.kIn nl hi) (.cons (reprK_wide I.kIn nl hj) .nil)
  have hz : (tupleText [Str.ofString (toString i), Str.ofString (toString j)]).length ≤ sizeLine := by
    have h1 := tupleText_len_le [Str.ofString (toString i), Str.ofString (toString j)]
    have h2 := wide_text hi
    have h3 := wide_text hj
    simp only [List.map_cons, List.map_nil, List.sum_cons, List.sum_nil, List.length_cons, List.length_nil] at h1
    rw [sizeLine_eq]
    omega
  refine call_repr_slot (by omega) ⟨o, ho, hc⟩ PySem.F.slot_tuple_repr ?_
  refine call_tuple_reprK (as := []) (h₀ := s.heap) (d := 0) (A := X.A.in1) ho hc hd (by simp) hT gd (fun b _ => Clear.nil b) (by show X.A.units + 1 + (0 + 1) < cLine; omega) (fun _ _ e => e) (fun h' u tk hk => ⟨_, _, rfl, .str _, H, I.kept hk, ⟨_, rfl⟩, q⟩) hz
abbrev rReprW (K : PySem.W.Frag) : List V → Hp → VK → Prop := fun xs H Q => rReprP K xs H Q ∨ rRepr K xs H Q
theorem cr_reprW {k : Nat} (gd : X.A.guards = some []) (hr : Room k X.A) (nl : NoLim X.K) : CallR X (.builtin "repr") (rReprW X.K) := (cr_reprP gd hr nl).or (cr_repr gd hr)
def reprW : List D → Store → Out D := fun ds S => match ds with
  | [.tup [.int i, .int j]] => if wideI i ∧ wideI j then .ok (.str (tupleText [toString i, toString j])) S else .no
  | _ => reprD ds S
theorem reprW_cases (ds : List D) (S : Store) : (∃ i j, ds = [.tup [.int i, .int j]] ∧ reprW ds S = if wideI i ∧ wideI j then .ok (.str (tupleText [toString i, toString j])) S else .no) ∨ reprW ds S = reprD ds S := by
  unfold reprW
  split
  · exact .inl ⟨_, _, rfl, rfl⟩
  · exact .inr rfl
theorem c_reprW : CallM K (rReprW K) reprW := by
  intro W g S H ds vs Q R r p
  rcases reprW_cases ds S with ⟨i, j, rfl, e⟩ | e
  · rw [e] at p
    by_cases c : wideI i ∧ wideI j
    · rw [if_pos c] at p
      obtain ⟨v, rfl, r0⟩ := r.one
      cases r0 with
      | tup h1 h2 =>
        cases h2 with
        | cons a1 b1 =>
          cases b1 with
          | cons a2 b2 =>
            cases b2
            cases a1
            cases a2
            exact .inl ⟨_, i, j, rfl, sameT R.sub h1.sq, c.1, c.2, pst.here p R _ (.str _)⟩
    · rw [if_neg c] at p
      exact p.elim
  · rw [e] at p
    exact .inr (c_repr W g S H ds vs Q R r p)
end
end MK

namespace MK
open PySem PySem.Spec PyProof.Rows L2

/-! ### plain laws of the mirrors -/
/-- it ends well, with C -/
def Post {α : Type} (o : Out α) (C : α → Store → Prop) : Prop := ∃ a S, o = .ok a S ∧ C a S
theorem Post.ok {α : Type} {a : α} {S : Store} {C : α → Store → Prop} (h : C a S) : Post (.ok a S) C := ⟨a, S, rfl, h⟩
theorem Post.of_eq {α : Type} {o : Out α} {a : α} {S : Store} {C : α → Store → Prop} (e : o = .ok a S) (h : C a S) : Post o C := ⟨a, S, e, h⟩
theorem Post.bind {α β : Type} {o : Out α} {f : α → Store → Out β} {C : β → Store → Prop} (h : Post o fun a S => Post (f a S) C) : Post (o.bind f) C := by
  obtain ⟨a, S1, e1, b, S, e2, h⟩ := h
  exact ⟨b, S, by rw [e1]; exact e2, h⟩
theorem Post.noex {α β : Type} {o : Out α} {f : α → Store → Out β} {C : β → Store → Prop} (h : Post o fun a S => Post (f a S) C) : Post (o.noex.bind f) C := by
  obtain ⟨a, S1, e1, b, S, e2, h⟩ := h
  exact ⟨b, S, by rw [e1]; exact e2, h⟩
theorem Post.mono {α : Type} {o : Out α} {C C' : α → Store → Prop} (h : Post o C) (hC : ∀ a S, C a S → C' a S) : Post o C' := let ⟨a, S, e, q⟩ := h; ⟨a, S, e, hC a S q⟩
theorem Post.guard {α : Type} {c : Prop} [Decidable c] {a : α} {S : Store} {C : α → Store → Prop} (h : c) (q : C a S) : Post (if c then .ok a S else .no) C := by rw [if_pos h]; exact .ok q
/-- when it is known what it is -/
theorem Post.eq {α : Type} {o : Out α} {a : α} {S : Store} (h : Post o fun b S' => b = a ∧ S' = S) : o = .ok a S := by
  obtain ⟨b, S', e, rfl, rfl⟩ := h
  exact e

section
variable {ρ : Sl} {S : Store}
theorem wp_var {i : Nat} {d : D} {C : D → Store → Prop} (e : ρ[i]? = some (some d)) (h : C d S) : Post (fVar i ρ S) C := by
  unfold fVar
  rw [e]
  exact .ok h
theorem wp_c {α : Type} {d : α} {C : α → Store → Prop} (h : C d S) : Post (fC d ρ S) C := .ok h
theorem wp_f2 {op : B2} {a b : FE} {C : D → Store → Prop} (h : Post (a ρ S) fun x S1 => Post (b ρ S1) fun y S2 => Post (op x y S2) C) : Post (f2 op a b ρ S) C := .bind (h.mono fun _ _ q => .bind q)
theorem wp_f1 {op : B1} {a : FE} {C : D → Store → Prop} (h : Post (a ρ S) fun x S1 => Post (op x S1) C) : Post (f1 op a ρ S) C := .bind h
theorem wp_fB {a : FE} {C : Bool → Store → Prop} (h : Post (a ρ S) fun x S1 => Post (dB x S1) C) : Post (fB a ρ S) C := .bind h
theorem wp_dB {b : Bool} {C : Bool → Store → Prop} (h : C b S) : Post (dB (.bl b) S) C := .ok h
theorem wp_not {a : F Bool} {C : Bool → Store → Prop} (h : Post (a ρ S) fun b S1 => C (!b) S1) : Post (fNot a ρ S) C := .bind (h.mono fun _ _ q => .ok q)
theorem wp_and {a k : F Bool} {C : Bool → Store → Prop} (h : Post (a ρ S) fun b S1 => (b = true → Post (k ρ S1) C) ∧ (b = false → C false S1)) : Post (fAnd a k ρ S) C := .bind (h.mono fun b S1 q => by
  cases b with
  | true => exact q.1 rfl
  | false => exact .ok (q.2 rfl))
theorem wp_or {a k : F Bool} {C : Bool → Store → Prop} (h : Post (a ρ S) fun b S1 => (b = true → C true S1) ∧ (b = false → Post (k ρ S1) C)) : Post (fOr a k ρ S) C := .bind (h.mono fun b S1 q => by
  cases b with
  | false => exact q.2 rfl
  | true => exact .ok (q.1 rfl))
theorem wp_andV {a k : FE} {C : D → Store → Prop} (h : Post (a ρ S) fun x S1 => ∃ b, x = .bl b ∧ (b = true → Post (k ρ S1) C) ∧ (b = false → C (.bl false) S1)) : Post (fAndV a k ρ S) C := .bind (h.mono fun x S1 q => by
  obtain ⟨b, rfl, q⟩ := q
  cases b with
  | true => exact q.1 rfl
  | false => exact .ok (q.2 rfl))
theorem wp_orV {a k : FE} {C : D → Store → Prop} (h : Post (a ρ S) fun x S1 => ∃ b, x = .bl b ∧ (b = true → C (.bl true) S1) ∧ (b = false → Post (k ρ S1) C)) : Post (fOrV a k ρ S) C := .bind (h.mono fun x S1 q => by
  obtain ⟨b, rfl, q⟩ := q
  cases b with
  | false => exact q.2 rfl
  | true => exact .ok (q.1 rfl))
theorem wp_notV {a : FE} {C : D → Store → Prop} (h : Post (a ρ S) fun x S1 => ∃ b, x = .bl b ∧ C (.bl (!b)) S1) : Post (fNotV a ρ S) C := .bind (h.mono fun x S1 q => by
  obtain ⟨b, rfl, q⟩ := q
  exact .ok q)
theorem wp_if {α : Type} {c : F Bool} {a b : F α} {C : α → Store → Prop} (h : Post (c ρ S) fun t S1 => (t = true → Post (a ρ S1) C) ∧ (t = false → Post (b ρ S1) C)) : Post (fIf c a b ρ S) C := .bind (h.mono fun t S1 q => by
  cases t with
  | true => exact q.1 rfl
  | false => exact q.2 rfl)
theorem wp_nil {C : List D → Store → Prop} (h : C [] S) : Post (fNil ρ S) C := .ok h
theorem wp_cons {a : FE} {r : F (List D)} {C : List D → Store → Prop} (h : Post (a ρ S) fun x S1 => Post (r ρ S1) fun xs S2 => C (x :: xs) S2) : Post (fCons a r ρ S) C := .bind (h.mono fun _ _ q => .bind (q.mono fun _ _ q => .ok q))
theorem wp_tup {r : F (List D)} {C : D → Store → Prop} (h : Post (r ρ S) fun xs S1 => xs.length ≤ line ∧ C (.tup xs) S1) : Post (fTup r ρ S) C := .bind (h.mono fun _ _ q => .guard q.1 q.2)
theorem wp_lst {r : F (List D)} {C : D → Store → Prop} (h : Post (r ρ S) fun xs S1 => xs.length ≤ line ∧ C (.lst xs) S1) : Post (fLst r ρ S) C := .bind (h.mono fun _ _ q => .guard q.1 q.2)
theorem wp_new {r : F (List D)} {C : D → Store → Prop} (h : Post (r ρ S) fun xs S1 => xs.length ≤ line ∧ C (.cell S1.length) (S1 ++ [.lst xs])) : Post (fNew r ρ S) C := .bind (h.mono fun _ _ q => .guard q.1 q.2)
theorem wp_call {f : List D → Store → Out D} {a : F (List D)} {C : D → Store → Prop} (h : Post (a ρ S) fun xs S1 => Post (f xs S1) C) : Post (fCall f a ρ S) C := .bind h
theorem wp_sl {a : FE} {lo hi : F (Option Int)} {C : D → Store → Prop} (h : Post (a ρ S) fun x S1 => Post (lo ρ S1) fun l S2 => Post (hi ρ S2) fun u S3 => Post (slD x l u S3) C) : Post (fSl a lo hi ρ S) C := .bind (h.mono fun _ _ q => .bind (q.mono fun _ _ q => .bind q))
theorem wp_O {a : FE} {C : Option Int → Store → Prop} (h : Post (a ρ S) fun x S1 => ∃ i, x = .int i ∧ C (some i) S1) : Post (fO a ρ S) C := .bind (h.mono fun x S1 q => by
  obtain ⟨i, rfl, q⟩ := q
  exact .ok q)
theorem wp_frz {a : FE} {C : D → Store → Prop} (h : Post (a ρ S) fun x S1 => ∃ k xs, x = .cell k ∧ S1[k]? = some (.lst xs) ∧ C (.lst xs) (S1.set k .dead)) : Post (fFrz a ρ S) C := .bind (h.mono fun x S1 q => by
  obtain ⟨k, xs, rfl, e, q⟩ := q
  simp only [e]
  exact .ok q)

/-! statements -/
theorem wp_next {C : Fl → Store → Prop} (h : C (.nx ρ) S) : Post (fNext ρ S) C := .ok h
/-- what follows a statement -/
def Seq (b : FS) (C : Fl → Store → Prop) : Fl → Store → Prop := fun fl S1 => match fl with
  | .nx ρ1 => Post (b ρ1 S1) C
  | .rt d => C (.rt d) S1
  | .bk ρ1 => C (.bk ρ1) S1
  | .ct ρ1 => C (.ct ρ1) S1
theorem wp_seq {a b : FS} {C : Fl → Store → Prop} (h : Post (a ρ S) (Seq b C)) : Post (fSeq a b ρ S) C := .bind (h.mono fun fl S1 q => by
  cases fl with
  | nx ρ1 => exact q
  | rt d => exact .ok q
  | bk ρ1 => exact .ok q
  | ct ρ1 => exact .ok q)
theorem wp_seqN {b : FS} {C : Fl → Store → Prop} (h : Post (b ρ S) C) : Seq b C (.nx ρ) S := h
theorem wp_seqR {b : FS} {d : D} {C : Fl → Store → Prop} (h : C (.rt d) S) : Seq b C (.rt d) S := h
theorem wp_ret {a : FE} {C : Fl → Store → Prop} (h : Post (a ρ S) fun d S1 => C (.rt d) S1) : Post (fRet a ρ S) C := .bind (h.mono fun _ _ q => .ok q)
theorem wp_set {i : Nat} {a : FE} {C : Fl → Store → Prop} (h : Post (a ρ S) fun d S1 => C (.nx (ρ.set i (some d))) S1) : Post (fSet i a ρ S) C := .bind (h.mono fun _ _ q => .ok q)
theorem wp_asg {a : FE} {k : FG} {C : Fl → Store → Prop} (h : Post (a ρ S) fun d S1 => Post (k d ρ S1) fun ρ1 S2 => C (.nx ρ1) S2) : Post (fAsg a k ρ S) C := .bind (h.mono fun _ _ q => .bind (q.mono fun _ _ q => .ok q))
theorem wp_drop {a : FE} {C : Fl → Store → Prop} (h : Post (a ρ S) fun _ S1 => C (.nx ρ) S1) : Post (fDrop a ρ S) C := .bind (h.mono fun _ _ q => .ok q)
theorem wp_par {i j : Nat} {a : F (List D)} {C : Fl → Store → Prop} (h : Post (a ρ S) fun ds S1 => ∃ x y, ds = [x, y] ∧ C (.nx ((ρ.set i (some x)).set j (some y))) S1) : Post (fPar i j a ρ S) C := .bind (h.mono fun ds S1 q => by
  obtain ⟨x, y, rfl, q⟩ := q
  exact .ok q)
theorem wp_par3 {i j l : Nat} {a : F (List D)} {C : Fl → Store → Prop} (h : Post (a ρ S) fun ds S1 => ∃ x y z, ds = [x, y, z] ∧ C (.nx (((ρ.set i (some x)).set j (some y)).set l (some z))) S1) : Post (fPar3 i j l a ρ S) C := .bind (h.mono fun ds S1 q => by
  obtain ⟨x, y, z, rfl, q⟩ := q
  exact .ok q)
theorem wp_aug {i : Nat} {op : B2} {a : FE} {C : Fl → Store → Prop} (h : Post (fVar i ρ S) fun x S0 => Post (a ρ S0) fun y S1 => Post (op x y S1) fun z S2 => C (.nx (ρ.set i (some z))) S2) : Post (fAug i op a ρ S) C := .bind (h.mono fun _ _ q => .bind (q.mono fun _ _ q => .bind (q.mono fun _ _ q => .ok q)))
theorem wp_augS {get op : B2} {st : B3} {fo fi f : FE} {C : Fl → Store → Prop} (h : Post (fo ρ S) fun o S1 => Post (fi ρ S1) fun i S2 => Post (get o i S2) fun x S3 => Post (f ρ S3) fun y S4 => Post (op x y S4) fun z S5 => Post (st o i z S5) fun _ S6 => C (.nx ρ) S6) : Post (fAugS get op st fo fi f ρ S) C :=
  .bind (h.mono fun _ _ q => .bind (q.mono fun _ _ q => .bind (q.mono fun _ _ q => .bind (q.mono fun _ _ q => .bind (q.mono fun _ _ q => .bind (q.mono fun _ _ q => .ok q))))))
theorem wp_gnm {i : Nat} {d : D} {C : Sl → Store → Prop} (h : C (ρ.set i (some d)) S) : Post (gNm i d ρ S) C := .ok h
theorem wp_gsb {op : B3} {fo fi : FE} {d : D} {C : Sl → Store → Prop} (h : Post (fo ρ S) fun o S1 => Post (fi ρ S1) fun i S2 => Post (op o i d S2) fun _ S3 => C ρ S3) : Post (gSb op fo fi d ρ S) C := .bind (h.mono fun _ _ q => .bind (q.mono fun _ _ q => .bind (q.mono fun _ _ q => .ok q)))
theorem wp_gtp {n : Nat} {f : FGs} {ds : List D} {C : Sl → Store → Prop} (hl : ds.length = n) (h : Post (f ds ρ S) C) : Post (gTp n f (.tup ds) ρ S) C := by
  show Post (if ds.length = n then f ds ρ S else .no) C
  rw [if_pos hl]
  exact h
theorem wp_gtpL {n : Nat} {f : FGs} {ds : List D} {C : Sl → Store → Prop} (hl : ds.length = n) (h : Post (f ds ρ S) C) : Post (gTp n f (.lst ds) ρ S) C := by
  show Post (if ds.length = n then f ds ρ S else .no) C
  rw [if_pos hl]
  exact h
theorem wp_gsn {C : Sl → Store → Prop} (h : C ρ S) : Post (gsNil [] ρ S) C := .ok h
theorem wp_gsc {f : FG} {k : FGs} {d : D} {r : List D} {C : Sl → Store → Prop} (h : Post (f d ρ S) fun ρ1 S1 => Post (k r ρ1 S1) C) : Post (gsCons f k (d :: r) ρ S) C := .bind h
def RunC (C : D → Store → Prop) : Fl → Store → Prop := fun fl S1 => match fl with
  | .nx _ => C .non S1
  | .rt d => C d S1
  | _ => False
theorem wp_runR {d : D} {C : D → Store → Prop} (h : C d S) : RunC C (.rt d) S := h
theorem wp_runN {C : D → Store → Prop} (h : C .non S) : RunC C (.nx ρ) S := h
theorem wp_run {N : Nat} {b : FS} {ds : List D} {C : D → Store → Prop} (h : Post (b (ds.map some ++ List.replicate (N - ds.length) none) S) (RunC C)) : Post (runB N b ds S) C := .noex (h.mono fun fl S1 q => by
  cases fl with
  | nx _ => exact .ok q
  | rt d => exact .ok q
  | bk _ => exact q.elim
  | ct _ => exact q.elim)

/-! operators at values -/
theorem wp_add {i j : Int} {C : D → Store → Prop} (h : C (.int (i + j)) S) : Post (addD (.int i) (.int j) S) C := .ok h
theorem wp_addL {xs ys : List D} {C : D → Store → Prop} (hl : xs.length + ys.length ≤ line) (h : C (.lst (xs ++ ys)) S) : Post (addD (.lst xs) (.lst ys) S) C := .guard hl h
theorem wp_addT {xs ys : List D} {C : D → Store → Prop} (hl : xs.length + ys.length ≤ line) (h : C (.tup (xs ++ ys)) S) : Post (addD (.tup xs) (.tup ys) S) C := .guard hl h
theorem wp_addI {i j : Int} {C : D → Store → Prop} (h : C (.int (i + j)) S) : Post (addID (.int i) (.int j) S) C := .ok h
theorem wp_sub {i j : Int} {C : D → Store → Prop} (h : C (.int (i - j)) S) : Post (subD (.int i) (.int j) S) C := .ok h
theorem wp_mul {i j : Int} {C : D → Store → Prop} (hl : mulOk i j) (h : C (.int (i * j)) S) : Post (mulD (.int i) (.int j) S) C := .guard hl h
theorem wp_mulL {xs : List D} {k : Int} {C : D → Store → Prop} (hl : -(2 ^ 63) ≤ k ∧ k < 2 ^ 63 ∧ xs.length * k.toNat ≤ line) (h : C (.lst (List.replicate k.toNat xs).flatten) S) : Post (mulD (.lst xs) (.int k) S) C := .guard hl h
theorem wp_div {i j : Int} {C : D → Store → Prop} (hl : divOk j) (h : C (.int (i / j)) S) : Post (divD (.int i) (.int j) S) C := .guard hl h
theorem wp_mod {i j : Int} {C : D → Store → Prop} (hl : 0 < j) (h : C (.int (i % j)) S) : Post (modD (.int i) (.int j) S) C := .guard hl h
theorem wp_pow {i j : Int} {C : D → Store → Prop} (hl : powOk i j) (h : C (.int (i ^ j.toNat)) S) : Post (powD (.int i) (.int j) S) C := .guard hl h
theorem wp_neg {i : Int} {C : D → Store → Prop} (h : C (.int (-i)) S) : Post (negD (.int i) S) C := .ok h
theorem wp_cmp {f : Int → Int → Bool} {i j : Int} {C : D → Store → Prop} (h : C (.bl (f i j)) S) : Post (cmpD f (.int i) (.int j) S) C := .ok h
theorem wp_is {d : D} {C : D → Store → Prop} (h : C (.bl (isNon d)) S) : Post (isD d .non S) C := by cases d <;> exact .ok h
theorem wp_isnot {d : D} {C : D → Store → Prop} (h : C (.bl (!isNon d)) S) : Post (isnotD d .non S) C := by cases d <;> exact .ok h
theorem wp_eqI {i j : Int} {C : D → Store → Prop} (h : C (.bl (i == j)) S) : Post (eqD (.int i) (.int j) S) C := .ok h
theorem wp_neI {i j : Int} {C : D → Store → Prop} (h : C (.bl (!(i == j))) S) : Post (neD (.int i) (.int j) S) C := .ok h
theorem wp_eqIN {i : Int} {C : D → Store → Prop} (h : C (.bl false) S) : Post (eqD (.int i) .non S) C := .ok h
theorem wp_eqNI {i : Int} {C : D → Store → Prop} (h : C (.bl false) S) : Post (eqD .non (.int i) S) C := .ok h
theorem wp_eqNN {C : D → Store → Prop} (h : C (.bl true) S) : Post (eqD .non .non S) C := .ok h
theorem wp_ixC {k : Nat} {xs : List D} {i : Int} {d : D} {C : D → Store → Prop} (hk : S[k]? = some (.lst xs)) (he : atI xs i = some d) (h : C d S) : Post (ixD (.cell k) (.int i) S) C := by
  unfold ixD D.asL
  simp only [hk, he]
  exact .ok h
theorem wp_ixL {xs : List D} {i : Int} {d : D} {C : D → Store → Prop} (he : atI xs i = some d) (h : C d S) : Post (ixD (.lst xs) (.int i) S) C := by
  unfold ixD D.asL
  simp only [he]
  exact .ok h
theorem wp_ixT {xs : List D} {i : Int} {d : D} {C : D → Store → Prop} (he : atI xs i = some d) (h : C d S) : Post (ixD (.tup xs) (.int i) S) C := by
  unfold ixD D.asL D.asT
  simp only [he]
  exact .ok h
theorem wp_ixSt {z : Str} {i : Int} {c : Nat} {C : D → Store → Prop} (hl : z.length ≤ line) (he : atI z.cps.toList i = some c) (h : C (.str ⟨#[c]⟩) S) : Post (ixD (.str z) (.int i) S) C := by
  unfold ixD D.asL D.asT ixStr
  simp only [if_pos hl, he]
  exact .ok h
theorem wp_ixLC {k : Nat} {xs : List D} {i : Int} {d : D} {C : D → Store → Prop} (hk : S[k]? = some (.lst xs)) (he : atI xs i = some d) (h : C d S) : Post (ixLD (.cell k) (.int i) S) C := by
  unfold ixLD D.asL
  simp only [hk, he]
  exact .ok h
theorem wp_setC {k : Nat} {xs : List D} {i : Int} {j : Nat} {v : D} {C : Unit → Store → Prop} (hk : S[k]? = some (.lst xs)) (hj : ixN xs.length i = some j) (h : C () (S.set k (.lst (xs.set j v)))) : Post (setD (.cell k) (.int i) v S) C := by
  unfold setD
  simp only [hk, hj]
  exact .ok h
theorem wp_setS {k : Nat} {xs : List D} {i : Int} {j : Nat} {v : D} {c : Cell} {C : Unit → Store → Prop} (hk : S[k]? = some c) (hj : ixN xs.length i = some j) (h : C () (S.set k (.lst (xs.set j v)))) : Post (setD (.cell k) (.int i) v (S.set k (.lst xs))) C := by
  have hk' : (S.set k (.lst xs))[k]? = some (.lst xs) := List.getElem?_set_self (List.getElem?_eq_some_iff.mp hk).1
  refine wp_setC hk' hj ?_
  rw [List.set_set]
  exact h
theorem wp_slL {xs : List D} {lo hi : Option Int} {C : D → Store → Prop} (h : C (.lst (cutD xs lo hi)) S) : Post (slD (.lst xs) lo hi S) C := .ok h
theorem wp_slF {xs : List D} {lo hi : Option Int} {C : D → Store → Prop} (h : C (.lst (cutD xs lo hi)) S) : Post (slD (.flst xs) lo hi S) C := .ok h
theorem wp_slT {xs : List D} {lo hi : Option Int} {C : D → Store → Prop} (h : C (.tup (cutD xs lo hi)) S) : Post (slD (.tup xs) lo hi S) C := .ok h
theorem wp_int {i : Int} {C : D → Store → Prop} (h : C (.int i) S) : Post (intD [.int i] S) C := .ok h
theorem wp_intB {b : Bool} {C : D → Store → Prop} (h : C (.int (if b then 1 else 0)) S) : Post (intD [.bl b] S) C := .ok h
theorem wp_abs {i : Int} {C : D → Store → Prop} (h : C (.int (if i < 0 then -i else i)) S) : Post (absD [.int i] S) C := .ok h
theorem wp_lenL {xs : List D} {C : D → Store → Prop} (h : C (.int xs.length) S) : Post (lenD [.lst xs] S) C := .ok h
theorem wp_lenT {xs : List D} {C : D → Store → Prop} (h : C (.int xs.length) S) : Post (lenD [.tup xs] S) C := .ok h
theorem wp_sumL {ns : List Int} {C : D → Store → Prop} (h : C (.int ns.sum) S) : Post (sumD [.lst (ns.map D.int)] S) C := by
  unfold sumD D.asL
  simp only [intsOf_map]
  exact .ok h
theorem wp_sumT {ns : List Int} {C : D → Store → Prop} (h : C (.int ns.sum) S) : Post (sumD [.tup (ns.map D.int)] S) C := by
  unfold sumD D.asL D.asT
  simp only [intsOf_map]
  exact .ok h
theorem wp_max2 {i j : Int} {C : D → Store → Prop} (h : C (.int (if j > i then j else i)) S) : Post (max2D [.int i, .int j] S) C := .ok h
theorem wp_min2 {i j : Int} {C : D → Store → Prop} (h : C (.int (if j < i then j else i)) S) : Post (min2D [.int i, .int j] S) C := .ok h
theorem wp_tupleL {xs : List D} {C : D → Store → Prop} (h : C (.tup xs) S) : Post (tupleD [.lst xs] S) C := .ok h
theorem wp_tupleT {xs : List D} {C : D → Store → Prop} (h : C (.tup xs) S) : Post (tupleD [.tup xs] S) C := .ok h
theorem wp_listT {xs : List D} {C : D → Store → Prop} (h : C (.lst xs) S) : Post (listD [.tup xs] S) C := .ok h
theorem wp_listL {xs : List D} {C : D → Store → Prop} (h : C (.lst xs) S) : Post (listD [.lst xs] S) C := .ok h
theorem wp_repr {d : D} {p : PyData} {C : D → Store → Prop} (e : d.pyS S = some p) (ok : reprOk p) (h : C (.str p.shown) S) : Post (reprD [d] S) C := by
  unfold reprD
  simp only [e]
  exact .guard ok h
theorem wp_eqS {a b : Str} {C : D → Store → Prop} (h : C (.bl (decide (a = b))) S) : Post (eqD (.str a) (.str b) S) C := .ok h
theorem wp_neS {a b : Str} {C : D → Store → Prop} (h : C (.bl (!decide (a = b))) S) : Post (neD (.str a) (.str b) S) C := .ok h
/-- == of data that are known -/
theorem wp_eqP {x y : D} {p q : PyData} {C : D → Store → Prop} (e1 : x.pyS S = some p) (e2 : y.pyS S = some q) (s1 : SeqAt.shaped p = true) (s2 : SeqAt.shaped q = true) (h : C (.bl (PyData.eqv p q)) S) : Post (eqD x y S) C := by
  rcases eqD_str x y S with ⟨a, b, rfl, rfl, e, _⟩ | ⟨e, _⟩
  · cases e1
    cases e2
    rw [e]
    have e3 : PyData.eqv (.str a) (.str b) = decide (a = b) := by
      unfold PyData.eqv
      exact Bool.beq_eq_decide_eq a b
    rw [e3] at h
    exact .ok h
  · rw [e]
    unfold eqP
    simp only [e1, e2]
    exact .guard ⟨s1, s2⟩ h
theorem wp_neP {x y : D} {p q : PyData} {C : D → Store → Prop} (e1 : x.pyS S = some p) (e2 : y.pyS S = some q) (s1 : SeqAt.shaped p = true) (s2 : SeqAt.shaped q = true) (h : C (.bl (!PyData.eqv p q)) S) : Post (neD x y S) C := by
  rcases eqD_str x y S with ⟨a, b, rfl, rfl, _, e⟩ | ⟨_, e⟩
  · cases e1
    cases e2
    rw [e]
    have e3 : PyData.eqv (.str a) (.str b) = decide (a = b) := by
      unfold PyData.eqv
      exact Bool.beq_eq_decide_eq a b
    rw [e3] at h
    exact .ok h
  · rw [e]
    unfold neP
    simp only [e1, e2]
    exact .guard ⟨s1, s2⟩ h

/-! what is walked -/
theorem wp_iseqL {a : FE} {C : List D → Store → Prop} (h : Post (a ρ S) fun d S1 => ∃ xs, d.still = some xs ∧ C xs S1) : Post (iSeq a ρ S) C := .bind (h.mono fun d S1 q => by
  obtain ⟨xs, e, q⟩ := q
  simp only [e]
  exact .ok q)
theorem wp_ienum {a : FE} {C : List D → Store → Prop} (h : Post (a ρ S) fun d S1 => ∃ xs, d.still = some xs ∧ C (enumL 0 xs) S1) : Post (iEnumD a ρ S) C := .bind (h.mono fun d S1 q => by
  obtain ⟨xs, e, q⟩ := q
  simp only [e]
  exact .ok q)
theorem wp_irng1 {a : FE} {C : List D → Store → Prop} (h : Post (a ρ S) fun d S1 => ∃ j, d = .int j ∧ (-(2 ^ 62) ≤ j ∧ j < 2 ^ 62) ∧ C (rngL 0 j.toNat) S1) : Post (iRng (fCons a fNil) ρ S) C := .bind (wp_cons (h.mono fun d S1 q => by
  obtain ⟨j, rfl, c, q⟩ := q
  exact .ok (.guard c q)))
theorem wp_irng2 {a b : FE} {C : List D → Store → Prop} (h : Post (a ρ S) fun d S1 => Post (b ρ S1) fun e S2 => ∃ i j, d = .int i ∧ e = .int j ∧ (-(2 ^ 62) ≤ i ∧ i < 2 ^ 62 ∧ -(2 ^ 62) ≤ j ∧ j < 2 ^ 62) ∧ C (rngL i (j - i).toNat) S2) : Post (iRng (fCons a (fCons b fNil)) ρ S) C := .bind (wp_cons (h.mono fun d S1 q => wp_cons (q.mono fun e S2 q => by
  obtain ⟨i, j, rfl, rfl, c, q⟩ := q
  exact .ok (.guard c q))))
theorem wp_for {it : F (List D)} {k : FG} {b : FS} {C : Fl → Store → Prop} (h : Post (it ρ S) fun ds S1 => Post (forF k b ds ρ S1) C) : Post (fFor it k b ρ S) C := .bind h
/-- what the turn of a for is to reach -/
def Turned (I : Sl → Store → Prop) (C : Fl → Store → Prop) : Fl → Store → Prop := fun fl S2 => match fl with
  | .nx ρ2 => I ρ2 S2
  | .ct ρ2 => I ρ2 S2
  | .bk ρ2 => C (.nx ρ2) S2
  | .rt d => C (.rt d) S2
theorem wp_turnN {I : Sl → Store → Prop} {C : Fl → Store → Prop} (h : I ρ S) : Turned I C (.nx ρ) S := h
theorem wp_turnC {I : Sl → Store → Prop} {C : Fl → Store → Prop} (h : I ρ S) : Turned I C (.ct ρ) S := h
theorem wp_turnR {I : Sl → Store → Prop} {C : Fl → Store → Prop} {d : D} (h : C (.rt d) S) : Turned I C (.rt d) S := h
theorem wp_turnB {I : Sl → Store → Prop} {C : Fl → Store → Prop} (h : C (.nx ρ) S) : Turned I C (.bk ρ) S := h
/-- by an invariant over the items gone through -/
theorem wp_forF {k : FG} {b : FS} {C : Fl → Store → Prop} {ds : List D} (I : Nat → Sl → Store → Prop) (h0 : I 0 ρ S)
    (hs : ∀ (i : Nat) (d : D) (ρ : Sl) (S : Store), ds[i]? = some d → I i ρ S → Post (k d ρ S) fun ρ1 S1 => Post (b ρ1 S1) (Turned (I (i + 1)) C))
    (hd : ∀ ρ S, I ds.length ρ S → C (.nx ρ) S) : Post (forF k b ds ρ S) C := by
  have go : ∀ (n : Nat) (i : Nat) (ρ : Sl) (S : Store), i + n = ds.length → I i ρ S → Post (forF k b (ds.drop i) ρ S) C := by
    intro n
    induction n with
    | zero =>
      intro i ρ S e h
      have e' : i = ds.length := by omega
      rw [e', List.drop_length]
      exact .ok (hd ρ S (e' ▸ h))
    | succ n ih =>
      intro i ρ S e h
      have hi : i < ds.length := by omega
      rw [List.drop_eq_getElem_cons hi]
      refine .bind ((hs i ds[i] ρ S (List.getElem?_eq_getElem hi) h).mono fun ρ1 S1 q => .bind (q.mono fun fl S2 q => ?_))
      cases fl with
      | nx ρ2 => exact ih (i + 1) ρ2 S2 (by omega) q
      | ct ρ2 => exact ih (i + 1) ρ2 S2 (by omega) q
      | bk ρ2 => exact .ok q
      | rt d => exact .ok q
  exact go ds.length 0 ρ S (by omega) h0
/-- while: by an invariant with the turns that are left -/
theorem wp_while {c : F Bool} {b : FS} {C : Fl → Store → Prop} {n : Nat} (I : Nat → Sl → Store → Prop) (m : Nat) (hm : m < n) (h0 : I m ρ S)
    (hs : ∀ (m : Nat) (ρ : Sl) (S : Store), I m ρ S → Post (c ρ S) fun t S1 => (t = true → Post (b ρ S1) (Turned (fun ρ2 S2 => ∃ m', m' < m ∧ I m' ρ2 S2) C)) ∧ (t = false → C (.nx ρ) S1)) : Post (whileF c b n ρ S) C := by
  have go : ∀ (n m : Nat) (ρ : Sl) (S : Store), m < n → I m ρ S → Post (whileF c b n ρ S) C := by
    intro n
    induction n with
    | zero => intro m ρ S h; exact absurd h (Nat.not_lt_zero _)
    | succ n ih =>
      intro m ρ S h i
      refine .bind ((hs m ρ S i).mono fun t S1 q => ?_)
      cases t with
      | false => exact .ok (q.2 rfl)
      | true =>
        refine .bind ((q.1 rfl).mono fun fl S2 q => ?_)
        cases fl with
        | nx ρ2 => obtain ⟨m', h1, h2⟩ := q; exact ih m' ρ2 S2 (by omega) h2
        | ct ρ2 => obtain ⟨m', h1, h2⟩ := q; exact ih m' ρ2 S2 (by omega) h2
        | bk ρ2 => exact .ok q
        | rt d => exact .ok q
  exact go n m ρ S hm h0
theorem wp_lc {vs : List Nat} {it : F (List D)} {k : FG} {t : F Bool} {e : FE} {C : D → Store → Prop} (h : Post (it ρ S) fun ds S1 => ds.length ≤ line ∧ Post (compF k t e (wipeD ρ vs) ds S1) fun ys S2 => C (.lst ys) S2) : Post (fLc vs it k t e ρ S) C := .bind (h.mono fun ds S1 q => by
  rw [if_pos q.1]
  exact .bind (q.2.mono fun _ _ q => .ok q))
theorem wp_yes {C : Bool → Store → Prop} (h : C true S) : Post (fYes ρ S) C := .ok h
/-- a comprehension without tests, by an invariant -/
theorem wp_compF {k : FG} {e : FE} {C : List D → Store → Prop} {ds : List D} (I : Nat → List D → Store → Prop) (h0 : I 0 [] S)
    (hs : ∀ (i : Nat) (d : D) (acc : List D) (S : Store), ds[i]? = some d → I i acc S → Post (k d ρ S) fun ρ1 S1 => Post (e ρ1 S1) fun y S2 => I (i + 1) (acc ++ [y]) S2)
    (hd : ∀ ys S, I ds.length ys S → C ys S) : Post (compF k fYes e ρ ds S) C := by
  have go : ∀ (n : Nat) (i : Nat) (acc : List D) (S : Store), i + n = ds.length → I i acc S → Post (compF k fYes e ρ (ds.drop i) S) fun ys S' => I ds.length (acc ++ ys) S' := by
    intro n
    induction n with
    | zero =>
      intro i acc S e h
      have e' : i = ds.length := by omega
      rw [e', List.drop_length]
      exact .ok (by rw [List.append_nil]; exact e' ▸ h)
    | succ n ih =>
      intro i acc S e h
      have hi : i < ds.length := by omega
      rw [List.drop_eq_getElem_cons hi]
      refine .noex ((hs i ds[i] acc S (List.getElem?_eq_getElem hi) h).mono fun ρ1 S1 q => .noex (wp_yes ?_))
      rw [if_pos rfl]
      refine .noex (q.mono fun y S2 q => .bind ((ih (i + 1) (acc ++ [y]) S2 (by omega) q).mono fun ys S3 q => .ok ?_))
      rw [List.append_assoc] at q
      exact q
  exact (go ds.length 0 [] S (by omega) h0).mono fun ys S' q => hd ys S' (by simpa using q)
/-- with a test, pure: what is kept -/
theorem compF_pure {k : FG} {t : F Bool} {e : FE} {p : D → Bool} {f : D → D} : ∀ {ds : List D}, (∀ d ∈ ds, ∃ ρ1, k d ρ S = .ok ρ1 S ∧ t ρ1 S = .ok (p d) S ∧ (p d = true → e ρ1 S = .ok (f d) S)) → compF k t e ρ ds S = .ok ((ds.filter p).map f) S
  | [], _ => rfl
  | d :: ds, h => by
    obtain ⟨ρ1, h1, h2, h3⟩ := h d List.mem_cons_self
    have ih := compF_pure (ds := ds) fun d' hd => h d' (List.mem_cons_of_mem _ hd)
    unfold compF
    rw [h1]
    show ((t ρ1 S).noex.bind _) = _
    rw [h2]
    show (if p d = true then _ else _) = _
    by_cases c : p d = true
    · rw [if_pos c, h3 c, List.filter_cons_of_pos c]
      show ((compF k t e ρ ds S).bind _) = _
      rw [ih]
      rfl
    · rw [if_neg c, List.filter_cons_of_neg c, ih]
end

/-! ### data: what can be shown -/
mutual
def D.okR : D → Bool
  | .non => true
  | .bl _ => true
  | .int i => decide (i.natAbs.log2 < 1920)
  | .str x => PyData.strOk x
  | .tup xs => D.okRs xs
  | .lst xs => D.okRs xs
  | .flst xs => D.okRs xs
  | _ => false
def D.okRs : List D → Bool
  | [] => true
  | x :: xs => x.okR && D.okRs xs
end
mutual
/-- a bound of the text's length -/
def D.size : D → Nat
  | .non => 4
  | .bl _ => 5
  | .int _ => 1921
  | .str x => (reprText x).length
  | .tup xs => D.sizes xs + 3
  | .lst xs => D.sizes xs + 3
  | .flst xs => D.sizes xs + 3
  | _ => 0
def D.sizes : List D → Nat
  | [] => 0
  | x :: xs => x.size + 2 + D.sizes xs
end
mutual
def D.dep : D → Nat
  | .tup xs => D.deps xs + 1
  | .lst xs => D.deps xs + 1
  | .flst xs => D.deps xs + 1
  | _ => 0
def D.deps : List D → Nat
  | [] => 0
  | x :: xs => max x.dep (D.deps xs)
end
structure Fine (p : PyData) (n d : Nat) : Prop where
  lay : p.canLay0 = true
  show_ : p.showable = true
  size : p.shown.length ≤ n
  dep : p.depth ≤ d
structure Fines (ps : List PyData) (n d : Nat) : Prop where
  lay : PyData.canLayAll0 ps = true
  show_ : PyData.showableAll ps = true
  size : ((PyData.shownAll ps).map (·.length)).sum + 2 * ps.length ≤ n
  dep : PyData.depthAll ps ≤ d
theorem shownAll_len : ∀ ps : List PyData, (PyData.shownAll ps).length = ps.length
  | [] => by simp only [PyData.shownAll, List.length_nil]
  | p :: ps => by simp only [PyData.shownAll, List.length_cons, shownAll_len ps]
theorem Fines.list {ps : List PyData} {n d : Nat} (h : Fines ps n d) : Fine (.list ps) (n + 3) (d + 1) := by
  refine ⟨by simpa only [PyData.canLay0] using h.lay, by simpa only [PyData.showable] using h.show_, ?_, ?_⟩
  · simp only [PyData.shown]
    have := listText_len_le (PyData.shownAll ps)
    rw [shownAll_len] at this
    have := h.size
    omega
  · simp only [PyData.depth]
    have := h.dep
    omega
theorem Fines.tuple {ps : List PyData} {n d : Nat} (h : Fines ps n d) : Fine (.tuple ps) (n + 3) (d + 1) := by
  refine ⟨by simpa only [PyData.canLay0] using h.lay, by simpa only [PyData.showable] using h.show_, ?_, ?_⟩
  · simp only [PyData.shown]
    have := tupleText_len_le (PyData.shownAll ps)
    rw [shownAll_len] at this
    have := h.size
    omega
  · simp only [PyData.depth]
    have := h.dep
    omega
mutual
theorem D.fine : ∀ d : D, d.okR = true → ∃ p, d.py = some p ∧ Fine p d.size d.dep
  | .non, _ => ⟨.none, rfl, rfl, rfl, by simp only [PyData.shown, D.size]; decide, by simp [PyData.depth]⟩
  | .bl b, _ => ⟨.bool b, rfl, rfl, rfl, by cases b <;> simp only [PyData.shown, D.size] <;> decide, by simp [PyData.depth]⟩
  | .int i, h => by
    have h' : i.natAbs.log2 < 1920 := by simpa [D.okR] using h
    refine ⟨.int i, rfl, rfl, by simpa [PyData.showable] using h', ?_, by simp [PyData.depth]⟩
    simp only [PyData.shown, D.size]
    exact int_text_len_1921 h'
  | .str x, h => ⟨.str x, rfl, by simpa only [PyData.canLay0, D.okR] using h, rfl, by simp only [PyData.shown, D.size]; exact Nat.le_refl _, by simp [PyData.depth]⟩
  | .tup xs, h => by
    obtain ⟨ps, e, f⟩ := D.fines xs (by simpa only [D.okR] using h)
    exact ⟨.tuple ps, by simp only [D.py, e, Option.map_some], by simpa only [D.size, D.dep] using f.tuple⟩
  | .lst xs, h => by
    obtain ⟨ps, e, f⟩ := D.fines xs (by simpa only [D.okR] using h)
    exact ⟨.list ps, by simp only [D.py, e, Option.map_some], by simpa only [D.size, D.dep] using f.list⟩
  | .flst xs, h => by
    obtain ⟨ps, e, f⟩ := D.fines xs (by simpa only [D.okR] using h)
    exact ⟨.list ps, by simp only [D.py, e, Option.map_some], by simpa only [D.size, D.dep] using f.list⟩
  | .dct _, h => by simp [D.okR] at h
  | .cell _, h => by simp [D.okR] at h
  | .ref _, h => by simp [D.okR] at h
  | .ty _, h => by simp [D.okR] at h
theorem D.fines : ∀ xs : List D, D.okRs xs = true → ∃ ps, D.pys xs = some ps ∧ Fines ps (D.sizes xs) (D.deps xs)
  | [], _ => ⟨[], rfl, rfl, rfl, by simp [PyData.shownAll], by simp [PyData.depthAll]⟩
  | x :: xs, h => by
    have h' : x.okR = true ∧ D.okRs xs = true := by simpa only [D.okRs, Bool.and_eq_true] using h
    obtain ⟨p, e1, f1⟩ := D.fine x h'.1
    obtain ⟨ps, e2, f2⟩ := D.fines xs h'.2
    refine ⟨p :: ps, by simp only [D.pys, e1, e2], by simp only [PyData.canLayAll0, f1.lay, f2.lay, Bool.and_self], by simp only [PyData.showableAll, f1.show_, f2.show_, Bool.and_self], ?_, ?_⟩
    · simp only [PyData.shownAll, List.map_cons, List.sum_cons, List.length_cons, D.sizes]
      have := f1.size
      have := f2.size
      omega
    · simp only [PyData.depthAll, D.deps]
      have := f1.dep
      have := f2.dep
      omega
end
theorem Fine.ok {p : PyData} {n d : Nat} (h : Fine p n d) (hn : n ≤ line) (hd : d ≤ 64) : reprOk p ∧ SeqAt.shaped p = true ∧ PyData.eqv p p = true := by
  have sh : SeqAt.shaped p = true := by
    show (p.canLay0 && decide (p.depth ≤ 64)) = true
    have := h.dep
    rw [h.lay, decide_eq_true (by omega)]
    rfl
  exact ⟨⟨sh, h.show_, Nat.le_trans h.size hn⟩, sh, SeqAt.eqv_refl p h.lay⟩
theorem okRs_all {xs : List D} (h : ∀ x ∈ xs, x.okR = true) : D.okRs xs = true := by
  induction xs with
  | nil => rfl
  | cons x xs ih => simp only [D.okRs, h x List.mem_cons_self, ih fun y hy => h y (List.mem_cons_of_mem _ hy), Bool.and_self]
theorem sizes_le {xs : List D} {b : Nat} (h : ∀ x ∈ xs, x.size ≤ b) : D.sizes xs ≤ (b + 2) * xs.length := by
  induction xs with
  | nil => exact Nat.zero_le _
  | cons x xs ih =>
    have := h x List.mem_cons_self
    have := ih fun y hy => h y (List.mem_cons_of_mem _ hy)
    simp only [D.sizes, List.length_cons, Nat.mul_add, Nat.mul_one]
    omega
theorem deps_le {xs : List D} {b : Nat} (h : ∀ x ∈ xs, x.dep ≤ b) : D.deps xs ≤ b := by
  induction xs with
  | nil => exact Nat.zero_le _
  | cons x xs ih =>
    have := h x List.mem_cons_self
    have := ih fun y hy => h y (List.mem_cons_of_mem _ hy)
    simp only [D.deps]
    omega
theorem pyS_of {d : D} {S : Store} (h : ∀ k, d ≠ .cell k) : d.pyS S = d.py := by
  cases d <;> first | rfl | exact absurd rfl (h _)

/-! ### sizes -/
theorem mulOk_of {i j : Int} {a b : Nat} (hi : i.natAbs < 2 ^ a) (hj : j.natAbs < 2 ^ b) (h : a + b ≤ 134217728) : mulOk i j := .inr (.inr (mulx_ok hi hj h))
theorem divOk_of {j : Int} (h0 : 0 < j) {b : Nat} (h : j.natAbs < 2 ^ b) (hb : b ≤ 9000) (h1 : 0 < b) : divOk j := ⟨h0, Nat.lt_of_lt_of_le (PySem.Flt.log2_lt_of h1 h) hb⟩
theorem get_set {S : Store} {k : Nat} {c c' : Cell} (h : S[k]? = some c) : (S.set k c')[k]? = some c' := List.getElem?_set_self (List.getElem?_eq_some_iff.mp h).1
theorem set_same {S : Store} {k : Nat} {c : Cell} (h : S[k]? = some c) : S.set k c = S := by
  obtain ⟨h1, h2⟩ := List.getElem?_eq_some_iff.mp h
  rw [← h2]
  exact List.set_getElem_self h1
theorem set_set {S : Store} {k : Nat} {c c' : Cell} : (S.set k c).set k c' = S.set k c' := List.set_set ..
/-! branches that are known -/
theorem wp_ff {X Y : Prop} (h : Y) : (false = true → X) ∧ (false = false → Y) := ⟨fun q => absurd q (by decide), fun _ => h⟩
theorem wp_tt {X Y : Prop} (h : X) : (true = true → X) ∧ (true = false → Y) := ⟨fun _ => h, fun q => absurd q (by decide)⟩
theorem wp_nf {X Y : Prop} (h : X) : ((!false) = true → X) ∧ ((!false) = false → Y) := ⟨fun _ => h, fun q => absurd q (by decide)⟩
theorem wp_nt {X Y : Prop} (h : Y) : ((!true) = true → X) ∧ ((!true) = false → Y) := ⟨fun q => absurd q (by decide), fun _ => h⟩
theorem wp_lenM {α : Type} {f : α → D} {xs : List α} {S : Store} {C : D → Store → Prop} (h : C (.int xs.length) S) : Post (lenD [.lst (xs.map f)] S) C := wp_lenL (by rw [List.length_map]; exact h)
theorem wp_lenMT {α : Type} {f : α → D} {xs : List α} {S : Store} {C : D → Store → Prop} (h : C (.int xs.length) S) : Post (lenD [.tup (xs.map f)] S) C := wp_lenT (by rw [List.length_map]; exact h)
theorem rngL_map : ∀ (n : Nat) (lo : Int), rngL lo n = (List.range n).map fun (j : Nat) => D.int (lo + j)
  | 0, _ => rfl
  | n + 1, lo => by
    rw [List.range_succ_eq_map, List.map_cons, List.map_map, rngL, rngL_map n]
    refine congr (congrArg List.cons (by simp)) (List.map_congr_left fun a _ => ?_)
    show D.int _ = D.int _
    congr 1
    simp only [Nat.succ_eq_add_one]
    push_cast
    omega
/-- a comprehension over a range, each item alone -/
theorem wp_crng {ρ : Sl} {S : Store} {k : FG} {e : FE} {n : Nat} {f : Nat → D} {C : List D → Store → Prop} (hs : ∀ j : Nat, j < n → Post (k (.int j) ρ S) fun ρ1 S1 => S1 = S ∧ Post (e ρ1 S1) fun y S2 => y = f j ∧ S2 = S)
    (h : C ((List.range n).map f) S) : Post (compF k fYes e ρ (rngL 0 n) S) C := by
  refine wp_compF (fun i acc S' => S' = S ∧ acc = (List.range i).map f) ⟨rfl, rfl⟩ ?_ ?_
  · rintro i d acc S' hd ⟨rfl, rfl⟩
    obtain ⟨rfl, hi⟩ := rngL_get n i 0 d hd
    rw [Int.zero_add]
    refine (hs i hi).mono fun ρ1 S1 q => ?_
    obtain ⟨rfl, q⟩ := q
    refine q.mono fun y S2 q => ?_
    obtain ⟨rfl, rfl⟩ := q
    exact ⟨rfl, by rw [List.range_succ, List.map_append]; rfl⟩
  · rintro ys S' ⟨rfl, rfl⟩
    rw [rngL_length]
    exact h
/-- with a test, each item alone -/
theorem wp_ctest {ρ : Sl} {S : Store} {k : FG} {t : F Bool} {e : FE} {ds : List D} (p : D → Bool) (f : D → D) {C : List D → Store → Prop} (hs : ∀ d ∈ ds, Post (k d ρ S) fun ρ1 S1 => S1 = S ∧ (Post (t ρ1 S1) fun b S2 => b = p d ∧ S2 = S) ∧ (p d = true → Post (e ρ1 S1) fun y S2 => y = f d ∧ S2 = S))
    (h : C ((ds.filter p).map f) S) : Post (compF k t e ρ ds S) C := by
  refine Post.of_eq (compF_pure (p := p) (f := f) fun d hd => ?_) h
  obtain ⟨ρ1, S1, e1, rfl, e2, e3⟩ := hs d hd
  exact ⟨ρ1, e1, e2.eq, fun c => (e3 c).eq⟩
theorem wp_izip {ρ : Sl} {S : Store} {a b : FE} {C : List D → Store → Prop} (h : Post (a ρ S) fun d S1 => Post (b ρ S1) fun e S2 => ∃ xs ys, d.still = some xs ∧ e.still = some ys ∧ C (zipL xs ys) S2) : Post (iZip (fCons a (fCons b fNil)) ρ S) C := .bind (wp_cons (h.mono fun d S1 q => wp_cons (q.mono fun e S2 q => by
  obtain ⟨xs, ys, e1, e2, q⟩ := q
  refine wp_nil ?_
  show Post (match d.still, e.still with
    | some xs, some ys => Out.ok (zipL xs ys) S2
    | _, _ => Out.no) C
  rw [e1, e2]
  exact .ok q)))
/-- what follows the first comparison of a chain -/
def ChK (o' : B2) (c : FE) (ρ : Sl) (y : D) (C : D → Store → Prop) : D → Store → Prop := fun z S3 => match z with
  | .bl t => (t = true → Post (c ρ S3) fun w S4 => Post (o' y w S4) C) ∧ (t = false → C (.bl false) S3)
  | _ => False
theorem wp_chk {ρ : Sl} {S : Store} {o' : B2} {c : FE} {y : D} {t : Bool} {C : D → Store → Prop} (h : (t = true → Post (c ρ S) fun w S4 => Post (o' y w S4) C) ∧ (t = false → C (.bl false) S)) : ChK o' c ρ y C (.bl t) S := h
theorem wp_ch {ρ : Sl} {S : Store} {o o' : B2} {a b c : FE} {C : D → Store → Prop} (h : Post (a ρ S) fun x S1 => Post (b ρ S1) fun y S2 => Post (o x y S2) (ChK o' c ρ y C)) : Post (fCh o o' a b c ρ S) C :=
  .bind (h.mono fun _ _ q => .bind (q.mono fun _ _ q => .bind (q.mono fun z S3 q => by
    cases z with
    | bl t =>
      cases t with
      | true => exact .bind (q.1 rfl)
      | false => exact .ok (q.2 rfl)
    | _ => exact q.elim)))

/-! lists that grow, sorted, in -/
theorem wp_star {ρ : Sl} {S : Store} {a : FE} {r : F (List D)} {C : List D → Store → Prop} (h : Post (a ρ S) fun d S1 => ∃ xs, d.still = some xs ∧ Post (r ρ S1) fun ds S2 => C (xs ++ ds) S2) : Post (fStar a r ρ S) C := .bind (h.mono fun d S1 q => by
  obtain ⟨xs, e, q⟩ := q
  simp only [e]
  exact .bind (q.mono fun _ _ q => .ok q))
theorem wp_bm {ρ : Sl} {S : Store} {op : BM} {o : FE} {a : F (List D)} {C : D → Store → Prop} (h : Post (o ρ S) fun d S1 => (d.asL S1).isSome = true ∧ Post (a ρ S1) fun ds S2 => Post (op d ds S2) C) : Post (fBm op o a ρ S) C := .bind (h.mono fun d S1 q => by
  rw [if_pos q.1]
  exact .bind q.2)
theorem cell_some {S : Store} {k : Nat} {xs : List D} (h : S[k]? = some (.lst xs)) : ((D.cell k).asL S).isSome = true := by
  unfold D.asL
  simp only [h]
  rfl
theorem wp_app {S : Store} {k : Nat} {xs : List D} {v : D} {C : D → Store → Prop} (hk : S[k]? = some (.lst xs)) (hl : xs.length < line) (h : C .non (S.set k (.lst (xs ++ [v])))) : Post (appD (.cell k) [v] S) C := by
  unfold appD
  simp only [hk]
  exact .guard hl h
theorem wp_revL {S : Store} {xs : List D} {C : D → Store → Prop} (h : C (.lst xs.reverse) S) : Post (revD (.lst xs) S) C := .ok h
theorem wp_revC {S : Store} {k : Nat} {xs : List D} {C : D → Store → Prop} (hk : S[k]? = some (.lst xs)) (h : C (.lst xs.reverse) S) : Post (revD (.cell k) S) C := by
  unfold revD D.asL
  simp only [hk]
  exact .ok h
theorem wp_lcN {ρ : Sl} {S : Store} {vs : List Nat} {it : F (List D)} {k : FG} {t : F Bool} {e : FE} {C : D → Store → Prop} (h : Post (it ρ S) fun ds S1 => ds.length ≤ line ∧ Post (compF k t e (wipeD ρ vs) ds S1) fun ys S2 => C (.cell S2.length) (S2 ++ [.lst ys])) : Post (fLcN vs it k t e ρ S) C := .bind (h.mono fun ds S1 q => by
  rw [if_pos q.1]
  exact .bind (q.2.mono fun _ _ q => .ok q))
theorem compC_pure {c : Nat} {k : FG} {e : FE} {ρ : Sl} {S : Store} {f : D → D} {xs : List D} (hk : S[c]? = some (.lst xs)) (h : ∀ d ∈ xs, ∃ ρ1, k d ρ S = .ok ρ1 S ∧ e ρ1 S = .ok (f d) S) : ∀ (n i : Nat), i + n = xs.length → compC c k fYes e ρ (n + 1) i S = .ok ((xs.drop i).map f) S
  | 0, i, hi => by
    unfold compC
    simp only [hk]
    have e1 : xs[i]? = none := List.getElem?_eq_none_iff.mpr (by omega)
    rw [e1, List.drop_eq_nil_of_le (by omega)]
    rfl
  | n + 1, i, hi => by
    have hlt : i < xs.length := by omega
    obtain ⟨ρ1, h1, h2⟩ := h xs[i] (List.getElem_mem hlt)
    have ih := compC_pure hk h n (i + 1) (by omega)
    unfold compC
    simp only [hk, List.getElem?_eq_getElem hlt, h1]
    show ((e ρ1 S).noex.bind fun y S3 => (compC c k fYes e ρ (n + 1) (i + 1) S3).bind fun ys S4 => Out.ok (y :: ys) S4) = _
    rw [h2, List.drop_eq_getElem_cons hlt, List.map_cons]
    show ((compC c k fYes e ρ (n + 1) (i + 1) S).bind fun ys S4 => Out.ok (f xs[i] :: ys) S4) = _
    rw [ih]
    rfl
theorem wp_lcC {ρ : Sl} {S : Store} {vs : List Nat} {o : FE} {k : FG} {e : FE} {c : Nat} {xs : List D} (f : D → D) {C : D → Store → Prop} (ho : o ρ S = .ok (.cell c) S) (hk : S[c]? = some (.lst xs)) (hl : xs.length < line)
    (hs : ∀ d ∈ xs, Post (k d (wipeD ρ vs) S) fun ρ1 S1 => S1 = S ∧ Post (e ρ1 S1) fun y S2 => y = f d ∧ S2 = S) (h : C (.lst (xs.map f)) S) : Post (fLcC vs o k fYes e ρ S) C := by
  unfold fLcC
  rw [ho]
  refine .bind (.ok ?_)
  simp only [hk]
  rw [if_pos hl]
  have q := compC_pure (k := k) (e := e) (ρ := wipeD ρ vs) (f := f) hk (fun d hd => by
    obtain ⟨ρ1, S1, e1, rfl, e2⟩ := hs d hd
    exact ⟨ρ1, e1, e2.eq⟩) xs.length 0 (by omega)
  rw [q]
  exact .bind (.ok (.ok (by simpa using h)))
theorem wp_sorted {S : Store} {d : D} {xs : List D} {ps : List PyData} {C : D → Store → Prop} (e1 : d.asL S = some xs) (e2 : D.pys xs = some ps) (e3 : srtB ps = true) (h : C (.lst (srtL xs ps)) S) : Post (sortedD [d] S) C := by
  unfold sortedD
  simp only [e1, e2]
  exact .guard e3 h
theorem srtL_mem {xs : List D} {ps : List PyData} {x : D} (h : x ∈ srtL xs ps) : x ∈ xs := by
  unfold srtL at h
  obtain ⟨z, hz, rfl⟩ := List.mem_map.mp h
  exact (List.of_mem_zip ((List.mergeSort_perm _ _).mem_iff.mp hz)).1
theorem srtL_length {xs : List D} {ps : List PyData} (h : D.pys xs = some ps) : (srtL xs ps).length = xs.length := by
  unfold srtL
  rw [List.length_map, List.length_mergeSort, List.length_zip, pys_length h, Nat.min_self]
theorem srtL_perm {xs : List D} {ps : List PyData} (h : D.pys xs = some ps) : (srtL xs ps).Perm xs := by
  unfold srtL
  have q := (List.mergeSort_perm (xs.zip ps) (PySem.W.dataLe false Prod.snd)).map Prod.fst
  rw [List.map_fst_zip (Nat.le_of_eq (pys_length h))] at q
  exact q
/-- in, not in: some truth -/
theorem wp_inQ {neg : Bool} {S : Store} {x y : D} {a b : PyData} {bs : List PyData} {C : D → Store → Prop} (e1 : x.pyS S = some a) (e2 : y.pyS S = some b) (e3 : seqP b = some bs) (s1 : SeqAt.shaped a = true) (s2 : SeqAt.shaped b = true) (h : C (.bl (if neg = true then !bs.any fun z => PyData.eqv z a else bs.any fun z => PyData.eqv z a)) S) : Post (inP neg x y S) C := by
  rw [inP_data e2 e3]
  unfold inQ
  simp only [e1, e2, e3]
  exact .guard ⟨s1, s2⟩ h
theorem wp_notin {S : Store} {x y : D} {a : PyData} {bs : List PyData} {C : D → Store → Prop} (e1 : x.pyS S = some a) (e2 : y.pyS S = some (.list bs)) (s1 : SeqAt.shaped a = true) (s2 : SeqAt.shaped (.list bs) = true) (h : C (.bl (!bs.any fun z => PyData.eqv z a)) S) : Post (notinD x y S) C :=
  wp_inQ e1 e2 rfl s1 s2 h
theorem wp_in {S : Store} {x y : D} {a : PyData} {bs : List PyData} {C : D → Store → Prop} (e1 : x.pyS S = some a) (e2 : y.pyS S = some (.list bs)) (s1 : SeqAt.shaped a = true) (s2 : SeqAt.shaped (.list bs) = true) (h : C (.bl (bs.any fun z => PyData.eqv z a)) S) : Post (inD x y S) C :=
  wp_inQ e1 e2 rfl s1 s2 h
theorem wp_notinT {S : Store} {x y : D} {a : PyData} {bs : List PyData} {C : D → Store → Prop} (e1 : x.pyS S = some a) (e2 : y.pyS S = some (.tuple bs)) (s1 : SeqAt.shaped a = true) (s2 : SeqAt.shaped (.tuple bs) = true) (h : C (.bl (!bs.any fun z => PyData.eqv z a)) S) : Post (notinD x y S) C :=
  wp_inQ e1 e2 rfl s1 s2 h
theorem wp_inT {S : Store} {x y : D} {a : PyData} {bs : List PyData} {C : D → Store → Prop} (e1 : x.pyS S = some a) (e2 : y.pyS S = some (.tuple bs)) (s1 : SeqAt.shaped a = true) (s2 : SeqAt.shaped (.tuple bs) = true) (h : C (.bl (bs.any fun z => PyData.eqv z a)) S) : Post (inD x y S) C :=
  wp_inQ e1 e2 rfl s1 s2 h
theorem wp_inSg {S : Store} {c : Nat} {z : Str} {C : D → Store → Prop} (h : C (.bl (decide (c ∈ z.cps.toList))) S) : Post (inD (.str ⟨#[c]⟩) (.str z) S) C := .ok h
theorem wp_notinSg {S : Store} {c : Nat} {z : Str} {C : D → Store → Prop} (h : C (.bl (!decide (c ∈ z.cps.toList))) S) : Post (notinD (.str ⟨#[c]⟩) (.str z) S) C := .ok h
theorem compF_pureM {α : Type} {ρ : Sl} {S : Store} {k : FG} {t : F Bool} {e : FE} {f g : α → D} {p : α → Bool} : ∀ {l : List α}, (∀ x ∈ l, ∃ ρ1, k (f x) ρ S = .ok ρ1 S ∧ t ρ1 S = .ok (p x) S ∧ (p x = true → e ρ1 S = .ok (g x) S)) → compF k t e ρ (l.map f) S = .ok ((l.filter p).map g) S
  | [], _ => rfl
  | d :: ds, h => by
    obtain ⟨ρ1, h1, h2, h3⟩ := h d List.mem_cons_self
    have ih := compF_pureM (l := ds) fun d' hd => h d' (List.mem_cons_of_mem _ hd)
    rw [List.map_cons]
    unfold compF
    rw [h1]
    show ((t ρ1 S).noex.bind _) = _
    rw [h2]
    show (if p d = true then _ else _) = _
    by_cases c : p d = true
    · rw [if_pos c, h3 c, List.filter_cons_of_pos c]
      show ((compF k t e ρ (ds.map f) S).bind _) = _
      rw [ih]
      rfl
    · rw [if_neg c, List.filter_cons_of_neg c, ih]
/-- over data that are told by other values -/
theorem wp_ctestM {α : Type} {ρ : Sl} {S : Store} {k : FG} {t : F Bool} {e : FE} {l : List α} {f : α → D} (p : α → Bool) (g : α → D) {C : List D → Store → Prop} (hs : ∀ x ∈ l, Post (k (f x) ρ S) fun ρ1 S1 => S1 = S ∧ (Post (t ρ1 S1) fun b S2 => b = p x ∧ S2 = S) ∧ (p x = true → Post (e ρ1 S1) fun y S2 => y = g x ∧ S2 = S))
    (h : C ((l.filter p).map g) S) : Post (compF k t e ρ (l.map f) S) C := by
  refine Post.of_eq (compF_pureM (p := p) (g := g) fun d hd => ?_) h
  obtain ⟨ρ1, S1, e1, rfl, e2, e3⟩ := hs d hd
  exact ⟨ρ1, e1, e2.eq, fun c => (e3 c).eq⟩
theorem wp_cmapM {α : Type} {ρ : Sl} {S : Store} {k : FG} {e : FE} {l : List α} {f : α → D} (g : α → D) {C : List D → Store → Prop} (hs : ∀ x ∈ l, Post (k (f x) ρ S) fun ρ1 S1 => S1 = S ∧ Post (e ρ1 S1) fun y S2 => y = g x ∧ S2 = S)
    (h : C (l.map g) S) : Post (compF k fYes e ρ (l.map f) S) C :=
  wp_ctestM (fun _ => true) g (fun x hx => (hs x hx).mono fun ρ1 S1 q => ⟨q.1, q.1 ▸ wp_yes ⟨rfl, rfl⟩, fun _ => q.2⟩) (by rw [List.filter_eq_self.mpr fun _ _ => rfl]; exact h)

/-! texts -/
theorem wp_mulSI {i j : Int} {S : Store} {C : D → Store → Prop} (hl : mulOk i j) (h : C (.int (i * j)) S) : Post (mulS (.int i) (.int j) S) C := .guard hl h
theorem wp_mulSS {z : Str} {n : Int} {S : Store} {C : D → Store → Prop} (hl : -(2 ^ 63) ≤ n ∧ n ≤ 1000000 ∧ z.length ≤ 10) (h : C (.str (Txt.mul z n)) S) : Post (mulS (.str z) (.int n) S) C := .guard hl h
theorem wp_mulSL {xs : List D} {k : Int} {S : Store} {C : D → Store → Prop} (hl : -(2 ^ 63) ≤ k ∧ k < 2 ^ 63 ∧ xs.length * k.toNat ≤ line) (h : C (.lst (List.replicate k.toNat xs).flatten) S) : Post (mulS (.lst xs) (.int k) S) C := .guard hl h
theorem wp_slS {ρ : Sl} {S : Store} {a : FE} {lo hi : F (Option Int)} {C : D → Store → Prop} (h : Post (a ρ S) fun x S1 => Post (lo ρ S1) fun l S2 => Post (hi ρ S2) fun u S3 => Post (slS x l u S3) C) : Post (fSlS a lo hi ρ S) C := .bind (h.mono fun _ _ q => .bind (q.mono fun _ _ q => .bind q))
theorem wp_slSS {z : Str} {lo hi : Option Int} {S : Store} {C : D → Store → Prop} (hl : z.length ≤ line) (h : C (.str (cutS z lo hi)) S) : Post (slS (.str z) lo hi S) C := .guard hl h
theorem wp_slSL {xs : List D} {lo hi : Option Int} {S : Store} {C : D → Store → Prop} (h : C (.lst (cutD xs lo hi)) S) : Post (slS (.lst xs) lo hi S) C := .ok h
theorem wp_slSF {xs : List D} {lo hi : Option Int} {S : Store} {C : D → Store → Prop} (h : C (.lst (cutD xs lo hi)) S) : Post (slS (.flst xs) lo hi S) C := .ok h
theorem wp_slST {xs : List D} {lo hi : Option Int} {S : Store} {C : D → Store → Prop} (h : C (.tup (cutD xs lo hi)) S) : Post (slS (.tup xs) lo hi S) C := .ok h
theorem wp_strI {i : Int} {S : Store} {C : D → Store → Prop} (hl : i.natAbs.log2 < 1920) (h : C (.str (toString i)) S) : Post (strD [.int i] S) C := .guard hl h
theorem wp_addSS {a b : Str} {S : Store} {C : D → Store → Prop} (hl : a.length + b.length ≤ line) (h : C (.str (a ++ b)) S) : Post (addD (.str a) (.str b) S) C := .guard hl h
theorem wp_lenS {a : Str} {S : Store} {C : D → Store → Prop} (hl : a.length ≤ line) (h : C (.int a.length) S) : Post (lenD [.str a] S) C := .guard hl h
theorem wp_divB {i j : Int} {S : Store} {C : D → Store → Prop} (hl : CDivB i j) (h : C (.int (i.fdiv j)) S) : Post (divB (.int i) (.int j) S) C := .guard hl h
theorem wp_reprP {i j : Int} {S : Store} {C : D → Store → Prop} (h1 : wideI i) (h2 : wideI j) (h : C (.str (tupleText [toString i, toString j])) S) : Post (reprW [.tup [.int i, .int j]] S) C := .guard ⟨h1, h2⟩ h
theorem wp_reprW {d : D} {p : PyData} {S : Store} {C : D → Store → Prop} (e : d.pyS S = some p) (ok : reprOk p) (h : C (.str p.shown) S) : Post (reprW [d] S) C := by
  rcases reprW_cases [d] S with ⟨i, j, e1, e2⟩ | e1
  · cases e1
    cases e
    have sh := ok.2.1
    simp only [PyData.showable, PyData.showableAll, Bool.and_true, Bool.and_eq_true, decide_eq_true_eq] at sh
    rw [e2]
    refine .guard ⟨Nat.lt_trans sh.1 (by decide), Nat.lt_trans sh.2 (by decide)⟩ ?_
    simpa only [PyData.shown, PyData.shownAll] using h
  · rw [e1]
    exact wp_repr e ok h
end MK

namespace MK
open PySem PySem.Spec PyProof.Rows L2

/-! ### what a made function captured, told for a while -/
def updC (H : Hp) (C : Addr → Option Obj) : Hp := fun b => match C b with
  | some o => some (CellO b o)
  | none => H b
def offC (H : Hp) (C : Addr → Option Obj) : Hp := fun b => match C b with
  | some _ => none
  | none => H b
theorem updC_some {H : Hp} {C : Addr → Option Obj} {b : Addr} {o : Obj} (h : C b = some o) : updC H C b = some (CellO b o) := by unfold updC; rw [h]
theorem updC_none {H : Hp} {C : Addr → Option Obj} {b : Addr} (h : C b = none) : updC H C b = H b := by unfold updC; rw [h]
theorem offC_some {H : Hp} {C : Addr → Option Obj} {b : Addr} {o : Obj} (h : C b = some o) : offC H C b = none := by unfold offC; rw [h]
theorem offC_none {H : Hp} {C : Addr → Option Obj} {b : Addr} (h : C b = none) : offC H C b = H b := by unfold offC; rw [h]
/-- nor a code object -/
theorem cell_ne_code {a : Addr} {o : Obj} {q : Str} (h : IsCellObj o) : CellO a o ≠ LamX.CodeO a q := fun z => by
  obtain ⟨v, hv⟩ := h
  unfold CellO LamX.CodeO at z
  have e := HO.ext.inj z
  let hp : Heap := { objs := Array.replicate (a + 1) o }
  have g : hp.get? a = some o := by
    have e1 : hp.objs[a]? = some o := by
      show (Array.replicate (a + 1) o)[a]? = some o
      rw [Array.getElem?_replicate, if_pos (Nat.lt_succ_self a)]
    unfold Heap.get?
    rw [e1]
    obtain ⟨c, d, dt, sl⟩ := o
    cases dt <;> first | rfl | cases hv
  have q := (congrFun e hp).mp g
  obtain ⟨o', vs, t, h1, h2, _⟩ := q
  rw [g] at h1
  cases h1
  rw [hv] at h2
  cases h2
/-- with one function more, with others -/
abbrev KW.more (K : KW) (F : FRec) : KW := ⟨K.toKR, K.T, F :: K.L⟩
abbrev KW.none_ (K : KW) : KW := ⟨K.toKR, K.T, []⟩
section
variable {K : KW} {g g' : Gh} {S S' : Store} {H H' : Hp} {F : FRec}
theorem Rep.tell (R : Rep K g S H) (h1 : g.G F.f = some (CellO F.f F.o)) (h2 : g.G F.c = some (LamX.CodeO F.c F.q)) (hc : RDs K g F.caps F.vs) (hC : ∀ b o, F.cs b = some o → H b = none ∧ IsCellObj o) : Rep (K.more F) g S (updC H F.cs) := by
  have at_ : ∀ b o, H b = some o → F.cs b = none := fun b o e => by
    cases c : F.cs b with
    | none => rfl
    | some u => rw [(hC b u c).1] at e; cases e
  have same : ∀ b o, H b = some o → updC H F.cs b = some o := fun b o e => (updC_none (at_ b o e)).trans e
  have apart : ∀ F' ∈ K.L, ∀ b, F.cs b = none ∨ F'.cs b = none := fun F' hF' b => by
    cases c : F.cs b with
    | none => exact .inl rfl
    | some u =>
      cases c' : F'.cs b with
      | none => exact .inr rfl
      | some u' =>
        have := ((R.fun_ F' hF').cs b u' c').1
        rw [(hC b u c).1] at this; cases this
  refine ⟨fun b u e => same _ _ (R.sub b u e), R.len, fun k c e => ?_, R.inj, fun a u e => ?_, fun q hq => ?_, fun F' hF' => ?_, fun F1 h1 F2 h2 => ?_⟩
  · rcases R.cel k _ e with z | ⟨q1, o', q2, q3⟩
    · exact .inl z
    · exact .inr ⟨q1, o', same _ _ q2, q3⟩
  · obtain ⟨q1, q2, q3⟩ := R.frm a u e
    exact ⟨same _ _ q1, q2, q3⟩
  · obtain ⟨ps, hp⟩ := (R.tab q hq).some
    exact (R.tab q hq).move (Same.refl _) ((same _ _ hp).trans hp.symm) (R.tab q hq).1 (R.tab q hq).2.1
  · rcases List.mem_cons.mp hF' with e | hF'
    · subst e
      refine ⟨h1, h2, fun b o hb => ⟨updC_some hb, (hC b o hb).2, R.newG (hC b o hb).1, ?_⟩, hc⟩
      cases e : g.F b with
      | none => rfl
      | some u => have := (R.frm b u e).1; rw [(hC b o hb).1] at this; cases this
    · refine (R.fun_ F' hF').move (ExtG.refl g) fun b u hb => ?_
      obtain ⟨q1, _, q3, q4⟩ := (R.fun_ F' hF').cs b u hb
      exact ⟨(same _ _ q1).trans q1.symm, q3, q4⟩
  · rcases List.mem_cons.mp h1 with e1 | h1
    · rcases List.mem_cons.mp h2 with e2 | h2
      · exact .inl (e1.trans e2.symm)
      · rw [e1]; exact .inr (apart F2 h2)
    · rcases List.mem_cons.mp h2 with e2 | h2
      · rw [e2]; exact .inr fun b => (apart F1 h1 b).symm
      · exact R.dis F1 h1 F2 h2
/-- fewer functions are told -/
theorem Rep.toL {K : KR} {T : List NdefX.NTab} {L L' : List FRec} (R : Rep ⟨K, T, L⟩ g S H) (h : ∀ F ∈ L', F ∈ L) : Rep ⟨K, T, L'⟩ g S H := ⟨R.sub, R.len, R.cel, R.inj, R.frm, R.tab, fun F hF => R.fun_ F (h F hF), fun F hF F' hF' => R.dis F (h F hF) F' (h F' hF')⟩
theorem Rep.offH (R : Rep K g S H) {C : Addr → Option Obj} (hC : ∀ b o, C b = some o → H b = some (CellO b o) ∧ IsCellObj o ∧ g.G b = none ∧ g.F b = none) (hL : ∀ F ∈ K.L, ∀ b o, F.cs b = some o → C b = none) : Rep K g S (offC H C) := by
  have same : ∀ b o, H b = some o → (∀ u, IsCellObj u → o ≠ CellO b u) → offC H C b = some o := fun b o e n => by
    cases c : C b with
    | none => rw [offC_none c]; exact e
    | some u =>
      obtain ⟨q1, q2, _⟩ := hC b u c
      rw [e] at q1
      exact absurd (Option.some.inj q1) (n u q2)
  refine ⟨fun b u e => ?_, R.len, fun k c e => ?_, R.inj, fun a u e => ?_, fun q hq => ?_, fun F' hF' => ?_, R.dis⟩
  · cases c : C b with
    | none => rw [offC_none c]; exact R.sub b u e
    | some v => rw [(hC b v c).2.2.1] at e; cases e
  · rcases R.cel k _ e with z | ⟨q1, o', q2, q3⟩
    · exact .inl z
    · exact .inr ⟨q1, o', same _ _ q2 fun u hu => q3.ncell hu, q3⟩
  · obtain ⟨q1, q2, q3⟩ := R.frm a u e
    refine ⟨?_, q2, q3⟩
    cases c : C a with
    | none => rw [offC_none c]; exact q1
    | some v => rw [(hC a v c).2.2.2] at e; cases e
  · obtain ⟨ps, hp⟩ := (R.tab q hq).some
    exact (R.tab q hq).move (Same.refl _) ((same _ _ hp fun u _ z => by unfold CellO at z; cases z).trans hp.symm) (R.tab q hq).1 (R.tab q hq).2.1
  · refine (R.fun_ F' hF').move (ExtG.refl g) fun b u hb => ?_
    obtain ⟨q1, _, q3, q4⟩ := (R.fun_ F' hF').cs b u hb
    exact ⟨offC_none (hL F' hF' b u hb), q3, q4⟩
end

/-! ### the heap, told more or less -/
section
variable {P : Program} {w : World} {H H' : Hp} {h h' : Heap} {C : Addr → Option Obj} {fs : List Addr}
theorem ObjOk.at_ {a : Addr} {o : HO} (x : ObjOk P w H h a o) (ho : ∀ b, H b = some (.own a) → H' b = some (.own a)) (ht : ∀ b xs, H b = some (.tup xs) → H' b = some (.tup xs)) : ObjOk P w H' h a o := x.stay (fun _ _ _ q => q) ho ht
theorem hok_off (x : HOk P w H h) (hC : ∀ b o, C b = some o → H b = some (CellO b o)) : HOk P w (offC H C) h := fun a o e => by
  cases c : C a with
  | some u => rw [offC_some c] at e; cases e
  | none =>
    rw [offC_none c] at e
    have keep : ∀ b u, H b = some u → (∀ φ, u ≠ .ext φ) → offC H C b = some u := fun b u q ne => by
      cases c2 : C b with
      | none => rw [offC_none c2]; exact q
      | some v =>
        rw [hC b v c2] at q
        exact absurd (Option.some.inj q).symm (ne _)
    exact ObjOk.at_ (x a o e) (fun b q => keep b _ q fun φ z => by cases z) (fun b xs q => keep b _ q fun φ z => by cases z)
theorem hok_add (x : HOk P w H h) (hC : ∀ b o, C b = some o → H b = none ∧ h.get? b = some o) : HOk P w (updC H C) h := fun a o e => by
  have keep : ∀ b u, H b = some u → updC H C b = some u := fun b u q => by
    cases c2 : C b with
    | none => rw [updC_none c2]; exact q
    | some v => rw [(hC b v c2).1] at q; cases q
  cases c : C a with
  | some u =>
    rw [updC_some c] at e
    cases e
    have g := (hC a u c).2
    exact ⟨g, ⟨_, g⟩, fun h1 h2 p k => k _ p⟩
  | none =>
    rw [updC_none c] at e
    exact ObjOk.at_ (x a o e) (fun b q => keep b _ q) (fun b xs q => keep b _ q)
/-- a body ran with the cells untold: from outside they were told all the while -/
theorem un_told (u : Un fs [] (offC H C) H' h h') (hC : ∀ b o, C b = some o → H b = some (CellO b o)) : Un fs [] H (updC H' C) h h' where
  keep := fun b o q n hb hx => by
    have c : C b = none := by
      cases c : C b with
      | none => rfl
      | some v => rw [hC b v c] at n; cases n
    exact u.keep b o q (by rw [offC_none c]; exact n) hb hx
  slot := fun b o q n hb hx => by
    have c : C b = none := by
      cases c : C b with
      | none => rfl
      | some v => rw [hC b v c] at n; cases n
    exact u.slot b o q (by rw [offC_none c]; exact n) hb hx
  free := fun b o q n hx => by
    have c : C b = none := by
      cases c : C b with
      | none => rfl
      | some v => rw [hC b v c] at n; cases n
    rw [updC_none c]
    exact u.free b o q (by rw [offC_none c]; exact n) hx
  there := u.there
  tups := fun b xs q => by
    have c : C b = none := by
      cases c : C b with
      | none => rfl
      | some v => rw [hC b v c] at q; unfold CellO at q; cases q
    rw [updC_none c]
    exact u.tups b xs (by rw [offC_none c]; exact q)
  frzs := fun b o v q => by
    have c : C b = none := by
      cases c : C b with
      | none => rfl
      | some v => rw [hC b v c] at q; unfold CellO at q; cases q
    rw [updC_none c]
    exact u.frzs b o v (by rw [offC_none c]; exact q)
  tbls := fun b ps q => by
    have c : C b = none := by
      cases c : C b with
      | none => rfl
      | some v => rw [hC b v c] at q; unfold CellO at q; cases q
    rw [updC_none c]
    exact u.tbls b ps (by rw [offC_none c]; exact q)
/-- a call ran with the cells told: from outside they were not -/
theorem un_untold (u : Un fs [] (updC H C) H' h h') (hC : ∀ b o, C b = some o → H b = none ∧ h.get? b = some o ∧ h'.get? b = some o) : Un fs [] H (offC H' C) h h' where
  keep := fun b o q n hb hx => by
    cases c : C b with
    | some v =>
      obtain ⟨_, q1, q2⟩ := hC b v c
      rw [q1] at q
      rw [← q]; exact q2
    | none => exact u.keep b o q (by rw [updC_none c]; exact n) hb hx
  slot := fun b o q n hb hx => by
    cases c : C b with
    | some v =>
      obtain ⟨_, q1, q2⟩ := hC b v c
      rw [q1] at q
      cases q
      exact ⟨o.slots, q2⟩
    | none => exact u.slot b o q (by rw [updC_none c]; exact n) hb hx
  free := fun b o q n hx => by
    cases c : C b with
    | some v => exact offC_some c
    | none =>
      rw [offC_none c]
      exact u.free b o q (by rw [updC_none c]; exact n) hx
  there := u.there
  tups := fun b xs q => by
    cases c : C b with
    | some v => rw [(hC b v c).1] at q; cases q
    | none => rw [offC_none c]; exact u.tups b xs (by rw [updC_none c]; exact q)
  frzs := fun b o v q => by
    cases c : C b with
    | some v => rw [(hC b v c).1] at q; cases q
    | none => rw [offC_none c]; exact u.frzs b o v (by rw [updC_none c]; exact q)
  tbls := fun b ps q => by
    cases c : C b with
    | some v => rw [(hC b v c).1] at q; cases q
    | none => rw [offC_none c]; exact u.tbls b ps (by rw [updC_none c]; exact q)
end

/-! ### a function that was made, called -/
structure LamOk (P : Program) (K : KR) (T : List NdefX.NTab) (mg : Str → Option Value) (base : Heap) (CX : CXT) (k : Nat) (F : FRec) (n : Nat) (R : BN) : Prop where
  fn : ∃ oc od fd sl, F.o = ⟨oc, od, .func fd, sl⟩
  run : ∀ (L : List FRec) (A : Around) (outer : List Env) (s : Shared) (H : Hp) (us : List Value) (vs : List V) (Q : VK) (E : XK), F ∈ L → A.guards = some [] → Room k A → Env0 P K.w K.K mg base A outer s H → Vals vs us → vs.length = n →
    (∃ g S ds, Rep ⟨K, T, L⟩ g S H ∧ RDs K g ds vs ∧ pst ⟨K, T, L⟩ E g (R ds S) fun g' _ H' d => ∀ v, RD K g' d v → Q v H') →
      codeAny (model P K.w) A (.call (.ref F.f) ⟨us, []⟩) (CR CX outer P K.w H s Q E) s
theorem LamOk.mono {P : Program} {K : KR} {T : List NdefX.NTab} {mg : Str → Option Value} {base : Heap} {CX : CXT} {j k : Nat} {F : FRec} {n : Nat} {R : BN} (L : LamOk P K T mg base CX j F n R) (h : j ≤ k) : LamOk P K T mg base CX k F n R :=
  ⟨L.fn, fun L' A outer s H us vs Q E hF gd hr => L.run L' A outer s H us vs Q E hF gd (hr.mono h)⟩
/-- the i-th slot holds the function at f, which does what R says -/
def fCallF (f : Addr) (R : BN) (i : Nat) (a : MK.F (List D)) : FE := fun ρ S => match ρ[i]? with
  | some (some (.ref b)) => if b = f then (a ρ S).bind R else .no
  | _ => .no
theorem fCallF_of {f : Addr} {R : BN} {i : Nat} {a : MK.F (List D)} {ρ : Sl} {S : Store} {K : KW} {U : XK} {g : Gh} {C : Gh → Store → Hp → D → Prop} (p : pst K U g (fCallF f R i a ρ S) C) :
    ρ[i]? = some (some (.ref f)) ∧ pst K U g ((a ρ S).bind R) C := by
  unfold fCallF at p
  split at p
  · rename_i b e
    by_cases c : b = f
    · rw [if_pos c] at p
      subst c
      exact ⟨e, p⟩
    · rw [if_neg c] at p; exact p.elim
  · exact p.elim
section
variable {X : Cx} {W : WT} {CX : CXT} {k n : Nat} {F : FRec} {R : BN} {i : Nat} {x : Str} {p pos : Pos}
theorem RD.ref_inv {K : KR} {g : Gh} {a : Addr} {v : V} (h : RD K g (.ref a) v) : v = .ref a := by cases h; rfl
theorem run_lam {pins : List (Addr × Obj)} {σ : L2.St} {H : Hp} {s : Shared} {us : List Value} {vs : List V} {Q : VK} (gd : X.A.guards = some []) (L : LamOk X.prog (kwX X W).toKR W.T X.mg X.base CX k F n R) (hF : F ∈ W.L) (hr : Room k X.A) (hx : Passes CX X W) (I : Inv X pins σ H s) (r : Vals vs us) (hl : vs.length = n)
    (h : ∃ g S ds, Rep (kwX X W) g S H ∧ RDs (kwX X W) g ds vs ∧ pst (kwX X W) W.E g (R ds S) fun g' _ H' d => ∀ v, RD (kwX X W) g' d v → Q v H') :
    wpAny (model X.prog X.w) X.A (call (.ref F.f) us) (EP X pins σ Q) X.xe s := by
  refine wpAny_call (codeAny_mono (L.run W.L X.A X.stack s H us vs Q W.E hF gd hr I.env0 r hl h) ?_)
  intro res s' hq
  cases res with
  | error e => exact hx pins σ H s e s' I hq
  | ok fl =>
    cases fl with
    | ret u => exact I.after hq
    | next => exact hq.elim
    | brk => exact hq.elim
    | cont => exact hq.elim
theorem fnAt_of (L : LamOk X.prog (kwX X W).toKR W.T X.mg X.base CX k F n R) {pins : List (Addr × Obj)} {σ : L2.St} {H : Hp} {s : Shared} (I : Inv X pins σ H s) (e : H F.f = some (CellO F.f F.o)) : PySem.W.FnAt F.f s.heap := by
  obtain ⟨g1, _, _⟩ := I.hok _ _ e
  obtain ⟨oc, od, fd, sl, ef⟩ := L.fn
  exact ⟨oc, od, fd, sl, by rw [← ef]; exact g1⟩
theorem me_callF {e : Expr} {es : List Expr} {a : MK.F (List D)} (gd : X.A.guards = some []) (L : LamOk X.prog (kwX X W).toKR W.T X.mg X.base CX k F n R) (hF : F ∈ W.L) (hr : Room k X.A) (hN : X.N[i]? = some x) (hv : Vis X.env.scope x) (hx : Passes CX X W) (ha : MA X W (e :: es) a) (hn : Many n a)
    (hdb : (x == ("__debug__" : Str)) = false := by decide) (hcd : (x == ("__classdict__" : Str)) = false := by decide) (he : starEach (e :: es) X.env = (false, eval e X.env) :: starEach es X.env := by rfl)
    (hpl : (backTo pos (starEach es X.env)).any (·.1) = false := by rfl) : ME X W (.Call (.Name x p) (e :: es) [] pos) (fCallF F.f R i a) := by
  refine ⟨fun pins s σ H Q I h => ?_⟩
  obtain ⟨g, S, ρ, Rp, rs, q⟩ := h
  obtain ⟨e1, q⟩ := fCallF_of q
  obtain ⟨v0, hs, rv⟩ := rs.at_ i _ e1
  have ev := rv.ref_inv
  subst ev
  refine wpAny_Call_Name_kw (thn ((pe_var (pos := p) (i := i) hN hv hdb hcd).run pins s σ H (fun v H1 => v = .ref F.f ∧ H1 = H) I ⟨.ref F.f, hs, rfl, rfl⟩) fun u s1 ⟨v, H1, I1, r1, q1⟩ => ?_)
  obtain ⟨ev, eH⟩ := q1
  subst ev
  subst eH
  obtain rfl : u = Value.ref F.f := r1
  refine PySem.W.callWith_F (fnAt_of L I1 (Rp.sub _ _ (Rp.fun_ F hF).f)) (thn (ha.run pos pins s1 σ H1 (fun vs H2 => ∃ g' S' ds, Rep (kwX X W) g' S' H2 ∧ RDs (kwX X W) g' ds vs ∧ vs.length = n ∧ pst (kwX X W) W.E g' (R ds S') fun g'' _ H' d => ∀ v, RD (kwX X W) g'' d v → Q v H') I1 ?_) ?_) he hpl
  · exact ⟨g, S, ρ, Rp, rs, q.bind.same.mp fun g' S' H' ds x' R' ⟨e2, q2⟩ vs rvs => ⟨g', S', ds, R', rvs, by rw [rvs.length]; exact hn _ _ _ _ e2, q2⟩⟩
  · rintro us s2 ⟨vs, H2, I2, r2, g', S', ds, R', rvs, hl, q'⟩
    exact ⟨fnAt_of L I2 (R'.sub _ _ (R'.fun_ F hF).f), run_lam gd L hF hr hx I2 r2 hl ⟨g', S', ds, R', rvs, q'⟩⟩
theorem me_callF0 (gd : X.A.guards = some []) (L : LamOk X.prog (kwX X W).toKR W.T X.mg X.base CX k F 0 R) (hF : F ∈ W.L) (hr : Room k X.A) (hN : X.N[i]? = some x) (hv : Vis X.env.scope x) (hx : Passes CX X W)
    (hdb : (x == ("__debug__" : Str)) = false := by decide) (hcd : (x == ("__classdict__" : Str)) = false := by decide) : ME X W (.Call (.Name x p) [] [] pos) (fCallF F.f R i fNil) := by
  refine ⟨fun pins s σ H Q I h => ?_⟩
  obtain ⟨g, S, ρ, Rp, rs, q⟩ := h
  obtain ⟨e1, q⟩ := fCallF_of q
  obtain ⟨v0, hs, rv⟩ := rs.at_ i _ e1
  have ev := rv.ref_inv
  subst ev
  refine wpAny_Call_Name_kw (thn ((pe_var (pos := p) (i := i) hN hv hdb hcd).run pins s σ H (fun v H1 => v = .ref F.f ∧ H1 = H) I ⟨.ref F.f, hs, rfl, rfl⟩) fun u s1 ⟨v, H1, I1, r1, q1⟩ => ?_)
  obtain ⟨ev, eH⟩ := q1
  subst ev
  subst eH
  obtain rfl : u = Value.ref F.f := r1
  obtain ⟨g1, _, _⟩ := I1.hok _ _ (Rp.sub _ _ (Rp.fun_ F hF).f)
  obtain ⟨oc, od, fd, sl, ef⟩ := L.fn
  refine PySem.W.callWith_F0 ⟨oc, od, fd, sl, by rw [← ef]; exact g1⟩ ?_
  exact run_lam gd L hF hr hx I1 .nil rfl ⟨g, S, [], Rp, .nil, q⟩
end
end MK

namespace MK
open PySem PySem.Spec PyProof.Rows L2

/-! ### a lambda's body -/
structure LamSc (sc scope : Scope) (N ps fr : List Str) : Prop where
  kind : scope.kind = .function
  co : scope.isCoroutine = false
  gen : scope.isGenerator = false
  hN : N = ps ++ fr
  nd : N.Nodup
  par : ∀ y ∈ ps, scope.names.lookup y = some .local
  loc : ∀ y ∈ scope.names, y.2 = .local → y.1 ∈ ps
  ncell : ∀ y ∈ scope.names, y.2 ≠ .cell
  free : ∀ y ∈ scope.names, y.2 = .free → y.1 ∈ fr ∧ (sc.names.lookup y.1 = some .cell ∨ sc.names.lookup y.1 = some .free)
  frl : ∀ y ∈ fr, scope.names.lookup y = some .free
def lamC (X : Cx) (A : Around) (outer : List Env) (s : Shared) (H : Hp) (E : XK) (scope : Scope) (N : List Str) (f c' : Addr) : Cx := { LamX.lamCx X A outer s H E scope f c' with N := N, xe := fun _ _ => False }
theorem zip_rev_lookup : ∀ {ps : List Str} {us : List Value} {i : Nat} {y : Str} {u : Value}, ps.Nodup → ps[i]? = some y → us[i]? = some u → ps.length = us.length → (ps.zip us).reverse.lookup y = some u := by
  have base : ∀ {l : List (Str × Value)} {y : Str} {u : Value}, (l.map (·.1)).Nodup → (y, u) ∈ l → l.lookup y = some u := by
    intro l
    induction l with
    | nil => intro y u _ h; cases h
    | cons a l ih =>
      obtain ⟨a1, a2⟩ := a
      intro y u nd h
      rw [List.map_cons, List.nodup_cons] at nd
      rw [List.lookup_cons]
      rcases List.mem_cons.mp h with e | h
      · cases e; simp
      · have ne : y ≠ a1 := fun z => nd.1 (by rw [← z]; exact List.mem_map.mpr ⟨_, h, rfl⟩)
        have : (y == a1) = false := by simp [ne]
        rw [this]
        exact ih nd.2 h
  intro ps us i y u nd h1 h2 hl
  refine base ?_ ?_
  · rw [List.map_reverse]
    have e : (ps.zip us).map (·.1) = ps := by
      rw [List.map_fst_zip]
      exact Nat.le_of_eq hl
    rw [e]
    exact (List.reverse_perm ps).nodup_iff.mpr nd
  · rw [List.mem_reverse]
    refine List.mem_of_getElem? (i := i) ?_
    rw [List.getElem?_zip_eq_some]
    exact ⟨h1, h2⟩
section
variable {X : Cx} {scope : Scope} {N ps fr : List Str}
theorem LamSc.has (L : LamSc X.env.scope scope N ps fr) (ok : X.Ok) : ∀ y ∈ scope.names, y.2 = .free → ∃ c, X.env.cells.lookup y.1 = some c := fun y hy e => by
  rcases (L.free y hy e).2 with k | k
  · exact ok.has _ (.inl k)
  · exact ok.has _ (.inr k)
abbrev cloX (X : Cx) (scope : Scope) : List (Str × Addr) := cloFrom X.env.cells scope.names []
theorem clo_cell (L : LamSc X.env.scope scope N ps fr) (ok : X.Ok) {y : Str} {c : Addr} (e : (cloX X scope).lookup y = some c) : X.env.cells.lookup y = some c := by
  rcases cloFrom_mem (PySem.mem_of_lookup e) with hm | ⟨h1, h2⟩
  · cases hm
  · obtain ⟨c1, hc⟩ := L.has ok _ h1 rfl
    have hc : X.env.cells.lookup y = some c1 := hc
    have e2 : c = c1 := by
      rw [h2, hc] <;> rfl
    rw [e2]
    exact hc
theorem clo_look {y : Str} (hl : scope.names.lookup y = some .free) : ∃ c, (cloX X scope).lookup y = some c :=
  mem_lookup (cloFrom_has (cells := X.env.cells) (acc := []) (PySem.mem_of_lookup hl))
/-- what the told cells hold -/
structure CsOk (X : Cx) (scope : Scope) (fr : List Str) (C : Addr → Option Obj) (vs : List V) : Prop where
  dom : ∀ b o, C b = some o → ∃ y, (cloX X scope).lookup y = some b
  cell : ∀ y c, (cloX X scope).lookup y = some c → ∃ o, C c = some o ∧ IsCellObj o
  len : vs.length = fr.length
  val : ∀ (j : Nat) (y : Str) (v : V), fr[j]? = some y → vs[j]? = some v → ∃ c o u, (cloX X scope).lookup y = some c ∧ C c = some o ∧ o.data = .cell (some u) ∧ RelV v u
theorem CsOk.isCell {C : Addr → Option Obj} {vs : List V} (h : CsOk X scope fr C vs) : ∀ b o, C b = some o → IsCellObj o := fun b o e => by
  obtain ⟨y, hy⟩ := h.dom b o e
  obtain ⟨o', h1, h2⟩ := h.cell y b hy
  rw [e] at h1
  cases h1
  exact h2
theorem lamC_start {A : Around} {outer : List Env} {E : XK} {f c' : Addr} {s : Shared} {H : Hp} {h₁ : Heap} {tk : Tok} {C : Addr → Option Obj} {vs vc : List V} {us : List Value} (ok : X.Ok) (L : LamSc X.env.scope scope N ps fr) (e0 : Env0 X.prog X.w X.K X.mg X.base A outer s H) (hd : A.handled = none)
    (hC : ∀ b o, C b = some o → H b = some (CellO b o)) (cs : CsOk X scope fr C vc) (r : Vals vs us) (hl : vs.length = ps.length)
    (hns : h₁.Ns s.heap.objs.size fun y => (ps.zip us).reverse.lookup y) (kp : ∀ b o, s.heap.get? b = some o → h₁.get? b = some o) :
    Inv (lamC X A outer s (offC H C) E scope N f c') [] ((vs ++ vc).map some) (offC H C) { s with heap := h₁, toks := tk } := by
  have hlu : ps.length = us.length := hl.symm.trans r.length
  have noA : ∀ b : Addr, b ∉ (lamC X A outer s (offC H C) E scope N f c').ex := fun b z => absurd (show b ∈ ([] : List Addr) from z) (by simp)
  have offN : ∀ b, H b = none → offC H C b = none := fun b n => by
    cases c : C b with
    | none => rw [offC_none c]; exact n
    | some u => exact offC_some c
  have cellAt : ∀ y c, (cloX X scope).lookup y = some c → ∃ o, C c = some o ∧ IsCellObj o ∧ h₁.get? c = some o := fun y c e => by
    obtain ⟨o, h1, h2⟩ := cs.cell y c e
    obtain ⟨g1, _, _⟩ := e0.hok c _ (hC c o h1)
    exact ⟨o, h1, h2, kp _ _ g1⟩
  have hok0 : HOk X.prog X.w (offC H C) s.heap := hok_off e0.hok hC
  refine ⟨⟨e0.mod, L.kind, rfl, rfl, Nat.le_refl _, fun y z c e1 e2 => ok.inj y z c (clo_cell L ok e1) (clo_cell L ok e2), fun y hy => ?_, fun y c z _ => ?_, fun _ => hd, Around.frames_deeper e0.frames, .inr ⟨rfl, rfl⟩, fun b z => absurd z (noA b), fun b o e => ⟨(e0.bs b o e).1, offN b (e0.bs b o e).2⟩, e0.bsz, fun b _ _ => noA b,
      fun b z => absurd z (noA b), e0.funs, fun b hb => offN b (e0.frf b hb)⟩,
    rfl, e0.bare, Un.kept kp, ⟨_, hns, fun i y v e1 e2 e3 => ?_⟩, fun y c e => ?_, hok0.fresh (Nat.le_refl _), fun y c e => ?_, fun q hq => absurd (show q ∈ ([] : List (Addr × Obj)) ++ [] from hq) (by simp), hok0.kept kp, ?_⟩
  · have hy : scope.names.lookup y = some .cell ∨ scope.names.lookup y = some .free := hy
    rcases hy with hy | hy
    · exact absurd rfl (L.ncell _ (PySem.mem_of_lookup hy))
    · exact clo_look hy
  · have z : false = true := z
    cases z
  · have e1 : N[i]? = some y := e1
    rw [L.hN] at e1
    have e2 : ((vs ++ vc).map some)[i]? = some (some v) := e2
    rw [List.getElem?_map] at e2
    have e2' : (vs ++ vc)[i]? = some v := by
      cases q : (vs ++ vc)[i]? with
      | none => rw [q] at e2; cases e2
      | some w => rw [q] at e2; cases e2; rfl
    by_cases hi : i < ps.length
    · rw [List.getElem?_append_left hi] at e1
      rw [List.getElem?_append_left (by omega)] at e2'
      obtain ⟨u, hu, rv⟩ := r.get e2'
      refine ⟨u, rv, .inl ⟨L.par y (List.mem_of_getElem? e1), ?_⟩⟩
      have nd : ps.Nodup := by
        have := L.nd
        rw [L.hN] at this
        exact (List.nodup_append.mp this).1
      exact zip_rev_lookup nd e1 hu hlu
    · rw [List.getElem?_append_right (by omega)] at e1
      rw [List.getElem?_append_right (by omega), hl] at e2'
      obtain ⟨c, o, u, h1, h2, h3, rv⟩ := cs.val _ y v e1 e2'
      refine ⟨u, rv, .inr ⟨.inr (L.frl y (List.mem_of_getElem? e1)), c, h1, o, ?_, h3⟩⟩
      obtain ⟨g1, _, _⟩ := e0.hok c _ (hC c o h2)
      exact kp _ _ g1
  · obtain ⟨o, _, ⟨v, hv⟩, h3⟩ := cellAt y c e
    exact ⟨v, o, h3, hv⟩
  · obtain ⟨o, h1, _, _⟩ := cellAt y c e
    exact offC_some h1
  · show ((vs ++ vc).map some).length = N.length
    rw [L.hN, List.length_map, List.length_append, List.length_append, hl, cs.len]
/-- what the lambda does: its parameters, then what it captured -/
def runL (fe : FE) (caps : List D) : BN := fun ds S => (fe ((ds ++ caps).map some) S).noex
theorem RS.args {K : KW} {g : Gh} {ds : List D} {vs : List V} (h : RDs K g ds vs) : RS K g (ds.map some) (vs.map some) := by
  refine ⟨by rw [List.length_map, List.length_map, h.length], fun i d e => ?_⟩
  rw [List.getElem?_map] at e
  cases q : ds[i]? with
  | none => rw [q] at e; cases e
  | some d' =>
    rw [q] at e
    cases e
    obtain ⟨v, h1, h2⟩ := h.get q
    exact ⟨v, by rw [List.getElem?_map, h1]; rfl, h2⟩
abbrev lamObj (X : Cx) (params : Arguments) (body : Expr) (scope : Scope) (pm : Value) (c' : Addr) (ctv : Value) : Obj :=
  PySem.W.kla_obj "<lambda>" (X.env.qual ++ "<lambda>") params body scope (cloX X scope) pm c' ctv
theorem lam_ok {W : WT} {k : Nat} {f c' : Addr} {params : Arguments} {body : Expr} {pm ctv : Value} {C : Addr → Option Obj} {caps : List D} {vc : List V} {fe : FE} (ok : X.Ok) (L : LamSc X.env.scope scope N ps fr) (cs : CsOk X scope fr C vc)
    (hbind : ∀ us : List Value, us.length = ps.length → bindArgs (PySem.W.kla_fn "<lambda>" (X.env.qual ++ "<lambda>") params body scope (cloX X scope) pm (.ref c') ctv) ⟨us, []⟩ = pure (ps.zip us))
    (hbody : ∀ (L0 : List FRec) (A : Around) (outer : List Env) (s : Shared) (H : Hp) (E : XK), A.guards = some [] → Room k (A.deeper (LamX.lamEnv X scope s.heap.objs.size f c')) → ME (lamC X A outer s H E scope N f c') ⟨E00, W.T, L0⟩ body fe) :
    LamOk X.prog (kwX X W).toKR W.T X.mg X.base CX0 (k + 1) ⟨f, lamObj X params body scope pm c' ctv, c', X.env.qual ++ "<lambda>", C, caps, vc⟩ ps.length (runL fe caps) := by
  refine ⟨⟨_, _, _, _, rfl⟩, ?_⟩
  intro Ls A outer s H us vs Q E hF gd hr e0 r hl ⟨g, S, ds, R, rds, p⟩
  have FO := R.fun_ _ hF
  have of1 : s.heap.get? f = some (lamObj X params body scope pm c' ctv) := (e0.hok f _ (R.sub _ _ FO.f)).1
  obtain ⟨⟨oc, ov, t, hoc, hdc, hvc⟩, _, _⟩ := e0.hok c' _ (R.sub _ _ FO.c)
  have hC : ∀ b o, C b = some o → H b = some (CellO b o) := fun b o e => (FO.cs b o e).1
  refine PySem.W.kla_callFunE hr.depth of1 rfl L.co L.gen rfl ⟨c', oc, ov, t, rfl, hoc, hdc, hvc⟩ ?_
  have hlu : us.length = ps.length := r.length.symm.trans hl
  rw [hbind us hlu]
  refine wpAny_pure (wpAny_newFunctionEnv (fun y hy => L.ncell y hy) (fun y hy => L.par y.1 (List.of_mem_zip hy).1) (fun h₁ hns hsb => ?_) L.kind)
  have lim : s.heap.NoLimit := e0.mod.nolimit.keeps fun b o e => (e0.bs b o e).1
  refine ⟨lim.fresh _ hsb, ?_⟩
  show codeAny _ _ (.expr body (LamX.lamEnv X scope s.heap.objs.size f c')) _ _
  have kp : ∀ b o, s.heap.get? b = some o → h₁.get? b = some o := fun b o e => hsb.extBut b o (Nat.ne_of_lt (Heap.lt_size e)) (Heap.get?_push_of_some _ e)
  have J := lamC_start (E := E) (f := f) (c' := c') (tk := s.toks + (ps.zip us).length) ok L e0 hr.hd hC cs r hl hns kp
  -- the cells are untold within
  open Classical in
  let L0 : List FRec := Ls.filter fun F' => decide (∀ b, C b = none ∨ F'.cs b = none)
  have hL0 : ∀ F', F' ∈ L0 ↔ F' ∈ Ls ∧ ∀ b, C b = none ∨ F'.cs b = none := fun F' => by
    show F' ∈ Ls.filter _ ↔ _
    rw [List.mem_filter, decide_eq_true_iff]
  have R0 : Rep ⟨(kwX X W).toKR, W.T, L0⟩ g S (offC H C) := (R.toL (L' := L0) fun F' h => ((hL0 F').mp h).1).offH (C := C) (fun b o e => FO.cs b o e) (fun F' hF' b o hb => by
    rcases ((hL0 F').mp hF').2 b with z | z
    · exact z
    · rw [hb] at z; cases z)
  have rcaps : RDs (kwX X W).toKR g (ds ++ caps) (vs ++ vc) := rds.append FO.caps
  have hb := hbody L0 A outer s (offC H C) E gd (hr.deeper _)
  refine PySem.W.kla_codeExpr (wpAny_mono (hb.run [] _ ((vs ++ vc).map some) (offC H C) (fun v H'' => (∀ b o, C b = some o → H'' b = none) → Q v (updC H'' C)) J ⟨g, S, (ds ++ caps).map some, R0, RS.args (K := ⟨(kwX X W).toKR, W.T, L0⟩) rcaps, ?_⟩) (fun v s' hq => ?_) fun e s' hq => (show False from hq).elim)
  · have p' : pst ⟨(kwX X W).toKR, W.T, Ls⟩ E g (fe ((ds ++ caps).map some) S).noex _ := p
    cases e : fe ((ds ++ caps).map some) S with
    | no => rw [e] at p'; exact p'.elim
    | ex e' S' => rw [e] at p'; exact p'.elim
    | ok d S' =>
      rw [e] at p'
      intro g0 H'' x R'' v rv hn
      have R1 : Rep (KW.more ⟨(kwX X W).toKR, W.T, L0⟩ ⟨f, lamObj X params body scope pm c' ctv, c', X.env.qual ++ "<lambda>", C, caps, vc⟩) g0 S' (updC H'' C) :=
        R''.tell (x.G _ _ FO.f) (x.G _ _ FO.c) (FO.caps.mono x.toExtG) fun b o e => ⟨hn b o e, (FO.cs b o e).2.1⟩
      have R2 : Rep ⟨(kwX X W).toKR, W.T, Ls⟩ g0 S' (updC H'' C) := ⟨R1.sub, R1.len, R1.cel, R1.inj, R1.frm, R1.tab, fun F' hF' => R1.fun_ F' ?_, R.dis⟩
      · exact p' g0 _ x R2 v rv
      · rcases R.dis _ hF F' hF' with z | z
        · rw [← z]; exact List.mem_cons_self
        · exact List.mem_cons_of_mem _ ((hL0 F').mpr ⟨hF', z⟩)
  · obtain ⟨w', H'', J', rv, q⟩ := hq
    have none_ : ∀ b o, C b = some o → H'' b = none := fun b o e => by
      obtain ⟨y, hy⟩ := cs.dom b o e
      exact J'.freeC y b hy
    have un1 : Un (frs outer) [] (offC H C) H'' s.heap s'.heap := J'.base
    refine ⟨w', updC H'' C, J'.os, J'.bare, un_told un1 hC, hok_add J'.hok fun b o e => ⟨none_ b o e, ?_⟩, rv, q none_⟩
    have g1 : s.heap.get? b = some o := (e0.hok b _ (hC b o e)).1
    refine un1.keep b o g1 (offC_some e) (fun hb => ?_) (by simp)
    have := e0.frf b hb
    rw [hC b o e] at this; cases this
end
end MK

namespace MK
open PySem PySem.Spec PyProof.Rows L2

/-! ### a lambda is made -/
section
variable {K : KW} {g : Gh} {S : Store} {H : Hp}
/-- a table has grown by a new code object -/
theorem Rep.grown (R : Rep K g S H) {P c : Addr} {nm : Nat → Nat → Str} {pos : Pos} {ps : Array Value} (hT : (P, nm) ∈ K.T) (hu : ∀ p ∈ K.T, p.1 = P → p.2 = nm) (hP : H P = some (.tbl ps)) (ht : TriplesOk ps.toList) (hc : H c = none) :
    Ext g (g.add c (LamX.CodeO c (nm pos.line pos.col))) ∧ Rep K (g.add c (LamX.CodeO c (nm pos.line pos.col))) S (upd (upd H P (.tbl (ps ++ #[rawInt pos.line, rawInt pos.col, .ref c]))) c (LamX.CodeO c (nm pos.line pos.col))) := by
  have x := Gh.add_ext (g := g) (o := LamX.CodeO c (nm pos.line pos.col)) (R.newG hc)
  have at_ : ∀ b u, H b = some u → b ≠ P → upd (upd H P (.tbl (ps ++ #[rawInt pos.line, rawInt pos.col, .ref c]))) c (LamX.CodeO c (nm pos.line pos.col)) b = some u := fun b u e ne => by
    rw [upd_ne (ne_of_none e hc), upd_ne ne]; exact e
  have gP : g.G P = none := (R.tab _ hT).1
  have nPc : P ≠ c := ne_of_none hP hc
  refine ⟨x, fun b u e => ?_, R.len, fun k c' e => ?_, R.inj, fun a u e => ?_, fun q hq => ?_, fun F hF => ?_, R.dis⟩
  · by_cases hb : b = c
    · subst hb
      have e' : upd g.G b _ b = some u := e
      rw [upd_same] at e' ⊢
      exact e'
    · have e' : upd g.G c _ b = some u := e
      rw [upd_ne hb] at e'
      exact at_ b u (R.sub b u e') fun z => by rw [z, gP] at e'; cases e'
  · rcases R.cel k _ e with z | ⟨h1, o', h2, h3⟩
    · exact .inl z
    · have ne : g.m k ≠ c := ne_of_none h2 hc
      refine .inr ⟨?_, o', at_ _ _ h2 fun z => ?_, h3.mono x.toExtG⟩
      · show upd g.G c _ (g.m k) = none
        rw [upd_ne ne]; exact h1
      · have z' : g.m k = P := z
        rw [z', hP] at h2
        exact h3.ntbl ps (Option.some.inj h2).symm
  · obtain ⟨h1, h2, h3⟩ := R.frm a u e
    refine ⟨at_ _ _ h1 fun z => ?_, ?_, h3⟩
    · have e' : g.F a = some u := e
      rw [z, show g.F P = none from (R.tab _ hT).2.1] at e'
      cases e'
    · show upd g.G c _ a = none
      rw [upd_ne (ne_of_none h1 hc)]; exact h2
  · by_cases hb : q.1 = P
    · have hn := hu q hq hb
      obtain ⟨t1, t2, ps', t3, t4, t5⟩ := R.tab q hq
      rw [hb, hP] at t3
      cases t3
      refine ⟨?_, t2, ps ++ #[rawInt pos.line, rawInt pos.col, .ref c], ?_, ?_, fun p' cv hcv => ?_⟩
      · show upd g.G c _ q.1 = none
        rw [hb, upd_ne nPc]; exact gP
      · rw [hb, upd_ne nPc, upd_same]
      · have e : (ps ++ #[rawInt pos.line, rawInt pos.col, .ref c]).toList = ps.toList ++ [rawInt pos.line, rawInt pos.col, .ref c] := by simp
        rw [e]
        exact PySem.TriplesOk_snoc _ _ _ _ ht
      · have e : (ps ++ #[rawInt pos.line, rawInt pos.col, .ref c]).toList = ps.toList ++ [rawInt pos.line, rawInt pos.col, .ref c] := by simp
        rw [e] at hcv
        rcases NdefX.among_app2 _ ht hcv with z | ⟨z, z1, z2⟩
        · obtain ⟨c0, e1, e2⟩ := t5 p' cv z
          exact ⟨c0, e1, x.G _ _ e2⟩
        · refine ⟨c, z, ?_⟩
          rw [hn, ← z1, ← z2]
          exact upd_same
    · obtain ⟨ps', hp'⟩ := (R.tab q hq).some
      have ne : q.1 ≠ c := ne_of_none hp' hc
      exact (R.tab q hq).move x.G (by rw [upd_ne ne, upd_ne hb]) ((upd_ne ne).trans (R.tab q hq).1) (R.tab q hq).2.1
  · refine (R.fun_ F hF).move x.toExtG fun b u hb => ?_
    obtain ⟨q1, _, q3, q4⟩ := (R.fun_ F hF).cs b u hb
    have ne := R.funp hc hF b u hb
    refine ⟨(at_ _ _ q1 fun z => ?_).trans q1.symm, (upd_ne ne).trans q3, q4⟩
    rw [z, hP] at q1
    unfold CellO at q1
    cases q1
end
section
variable {X : Cx} {W : WT}
def tLm (X : Cx) (W : WT) (params : Arguments) (body : Expr) (scope : Scope) : TE := fun _ H Q => ∃ g S, Rep (kwX X W) g S H ∧ ∀ (f c' : Addr) (pm ctv : Value) (g2 : Gh) (H2 : Hp), Ext g g2 → Rep (kwX X W) g2 S H2 →
  g2.G f = some (CellO f (lamObj X params body scope pm c' ctv)) → g2.G c' = some (LamX.CodeO c' (X.env.qual ++ "<lambda>")) → Q (.ref f) H2
theorem pe_lam {c P : Addr} {nm : Nat → Nat → Str} {params : Arguments} {body : Expr} {scope : Scope} {pos : Pos} {N ps fr : List Str} (TB : LamX.TabB X.base X.mg c P) (hcode : X.env.code = .ref c) (hm : (P, nm) ∈ W.T) (hu : ∀ p ∈ W.T, p.1 = P → p.2 = nm)
    (hn : nm pos.line pos.col = X.env.qual ++ "<lambda>") (L : LamSc X.env.scope scope N ps fr) (hdef : defaultsOf params X.env = ([], [])) : PE X (.Lambda params body scope pos) (tLm X W params body scope) := by
  refine ⟨fun pins s σ H Q I h => ?_⟩
  obtain ⟨g, S, R, h⟩ := h
  obtain ⟨gP, fP, qs, hP, ht, ha⟩ := R.tab _ hm
  refine PySem.W.kla_eval hdef ?_
  have bP : s.heap.BuiltinsAt X.mg P := TB.bm.keeps I.bk
  have hP' : s.heap.get? P = some { cls := .none, data := .fields qs } := I.hok P _ hP
  have hfree := closure_ok (L.has I.ok)
  have lay : ∀ {H1 : Hp} {s1 : Shared} {o : Obj} {tk : Nat}, Inv X pins σ H1 s1 → o.data ≠ .freed → (∃ oc od fd sl, o = ⟨oc, od, .func fd, sl⟩) →
      Inv X pins σ (upd H1 s1.heap.objs.size (CellO s1.heap.objs.size o)) { s1 with heap := s1.heap.push o, toks := tk } := fun {H1 s1 o tk} I1 nf ⟨oc, od, fd, sl, eo⟩ => by
    refine I1.laid (a := s1.heap.objs.size) (fun b u e => Heap.get?_push_of_some _ e) (Nat.le_refl _) ?_
    have e : (s1.heap.push o).get? s1.heap.objs.size = some o := Heap.get?_push_size _ (by rw [eo]; rfl)
    exact ⟨e, ⟨_, e⟩, fun h1 h2 p k => k _ p⟩
  cases hc : codeAmong pos qs.toList with
  | none =>
    refine PySem.W.kla_makeFunction (mg := X.mg) (c := c) (P := P) (ps := qs) hfree I.ok.glob (I.mod.glob.keeps I.bk) hcode (TB.code.keeps I.bk) hP' ht hc TB.gP bP fun c' ctv h' tk hx hge hlt hrec htb => ?_
    obtain ⟨c2, oc, vs, t, e2, hoc, hd, hv⟩ := hrec
    cases e2
    have nC : H c' = none := I.hok.fresh hge
    have I1 := LamX.inv_table (t' := tk) (more := #[rawInt pos.line, rawInt pos.col, .ref c']) (h' := h') I hP (fun b o hb e => hx b o hb e) htb hge ⟨oc, vs, t, hoc, hd, hv⟩
    obtain ⟨x1, R1⟩ := R.grown (pos := pos) hm hu hP ht nC
    rw [hn] at x1 R1
    have nF := I1.hok.fresh (Nat.le_refl _)
    have I2 := lay (o := lamObj X params body scope ((X.mg "__name__").getD .none) c' ctv) (tk := tk) I1 (by intro z; cases z) ⟨_, _, _, _, rfl⟩
    have x2 : Ext (g.add c' (LamX.CodeO c' (X.env.qual ++ "<lambda>"))) _ := Gh.add_ext (o := CellO h'.objs.size (lamObj X params body scope ((X.mg "__name__").getD .none) c' ctv)) (R1.newG nF)
    have R2 := R1.add (o := CellO h'.objs.size (lamObj X params body scope ((X.mg "__name__").getD .none) c' ctv)) nF
    exact ⟨.ref h'.objs.size, _, I2, rfl, h h'.objs.size c' _ ctv _ _ (x1.trans x2) R2 upd_same (x2.G _ _ upd_same)⟩
  | some cv =>
    obtain ⟨c', e, hco⟩ := ha pos cv hc
    subst e
    rw [show (P, nm).2 pos.line pos.col = X.env.qual ++ "<lambda>" from hn] at hco
    refine PySem.W.kla_makeFunctionHit (mg := X.mg) (c := c) (P := P) (ps := qs) hfree I.ok.glob (I.mod.glob.keeps I.bk) hcode (TB.code.keeps I.bk) hP' ht hc bP fun ctv h' tk hx hsz => ?_
    have I1 : Inv X pins σ H { s with heap := h', toks := tk } := I.kept hx
    have nF : H h'.objs.size = none := I1.hok.fresh (Nat.le_refl _)
    have I2 := lay (o := lamObj X params body scope ((X.mg "__name__").getD .none) c' ctv) (tk := tk) I1 (by intro z; cases z) ⟨_, _, _, _, rfl⟩
    have x2 : Ext g _ := Gh.add_ext (o := CellO h'.objs.size (lamObj X params body scope ((X.mg "__name__").getD .none) c' ctv)) (R.newG nF)
    have R2 := R.add (o := CellO h'.objs.size (lamObj X params body scope ((X.mg "__name__").getD .none) c' ctv)) nF
    exact ⟨.ref h'.objs.size, _, I2, rfl, h h'.objs.size c' _ ctv _ _ x2 R2 upd_same (x2.G _ _ hco)⟩
/-! arguments, the lambda behind them -/
def tAL (K : KW) (U : XK) (tl : TE) : List FE → TA
  | [] => fun σ H Q => tl σ H fun v H1 => Q [v] H1
  | f :: fs => fun σ H Q => rdE K U f σ H fun v H1 => tAL K U tl fs σ H1 fun vs H2 => Q (v :: vs) H2
theorem pal_nil {lam : Expr} {tl : TE} (h : PE X lam tl) (hs : starEach [lam] X.env = (false, eval lam X.env) :: starEach [] X.env := by rfl) : PA X [lam] (tAL (kwX X W) W.E tl []) := pa_cons h pa_nil hs
theorem pal_cons {e : Expr} {es : List Expr} {f : FE} {fs : List FE} {tl : TE} (h : ME X W e f) (hr : PA X es (tAL (kwX X W) W.E tl fs)) (hs : starEach (e :: es) X.env = (false, eval e X.env) :: starEach es X.env := by rfl) : PA X (e :: es) (tAL (kwX X W) W.E tl (f :: fs)) := pa_cons h hr hs
def fArgs : List FE → F (List D)
  | [] => fNil
  | f :: fs => fCons f (fArgs fs)
theorem rd_al {K : KW} {U : XK} {tl : TE} {α : Type} {C : Gh → Store → Hp → α → Prop} : ∀ {fs : List FE} {k : List D → F α} {g : Gh} {S : Store} {ρ : Sl} {σ : L2.St} {H : Hp} {Q : List V → Hp → Prop}, Rep K g S H → RS K g ρ σ → pst K U g ((fArgs fs ρ S).bind fun ds S1 => k ds ρ S1) C →
    (∀ g' S' H' ds vs, Ext g g' → Rep K g' S' H' → RDs K g' ds vs → ds.length = fs.length → pst K U g' (k ds ρ S') C → tl σ H' fun v H2 => Q (vs ++ [v]) H2) → tAL K U tl fs σ H Q
  | [], k, g, S, ρ, σ, H, Q, R, rs, p, h => h g S H [] [] (.refl g) R .nil rfl p
  | f :: fs, k, g, S, ρ, σ, H, Q, R, rs, p, h => by
    have p' : pst K U g ((f ρ S).bind fun d S1 => (fArgs fs ρ S1).bind fun ds S2 => k (d :: ds) ρ S2) C := by
      have e : ((fArgs (f :: fs) ρ S).bind fun ds S1 => k ds ρ S1) = ((f ρ S).bind fun d S1 => (fArgs fs ρ S1).bind fun ds S2 => k (d :: ds) ρ S2) := by
        show (((f ρ S).bind fun x S1 => (fArgs fs ρ S1).bind fun xs S2 => Out.ok (x :: xs) S2).bind _) = _
        rw [Out.bind_assoc]
        congr 1
        funext d S1
        rw [Out.bind_assoc]
        rfl
      rw [← e]; exact p
    refine ⟨g, S, ρ, R, rs, p'.bind.mp fun g1 S1 H1 d x R1 q v rv => ?_⟩
    refine rd_al (k := fun ds => k (d :: ds)) R1 (rs.mono x.toExtG) q fun g2 S2 H2 ds vs x2 R2 rds hdl q2 => ?_
    exact h g2 S2 H2 (d :: ds) (v :: vs) (x.trans x2) R2 (.cons (rv.mono x2.toExtG) rds) (by rw [List.length_cons, List.length_cons, hdl]) q2
/-! x(.., lambda ..: ..) -/
open Classical in
/-- what is the same for every address -/
noncomputable def uni (h : Addr → Out D) : Out D := if c : ∃ r, ∀ a, h a = r then c.choose else .no
theorem uni_eq {h : Addr → Out D} {r : Out D} (e : ∀ a, h a = r) : uni h = r := by
  have c : ∃ r, ∀ a, h a = r := ⟨r, e⟩
  unfold uni
  rw [dif_pos c]
  exact (c.choose_spec 0).symm.trans (e 0)
theorem uni_at {h : Addr → Out D} {K : KW} {U : XK} {g : Gh} {C : Gh → Store → Hp → D → Prop} (p : pst K U g (uni h) C) (a : Addr) : pst K U g (h a) C := by
  unfold uni at p
  by_cases c : ∃ r, ∀ a, h a = r
  · rw [dif_pos c] at p
    rw [c.choose_spec a]
    exact p
  · rw [dif_neg c] at p; exact p.elim
def capt (ρ : Sl) : List Nat → Option (List D)
  | [] => some []
  | i :: is => match ρ[i]?, capt ρ is with
    | some (some d), some ds => some (d :: ds)
    | _, _ => none
theorem capt_rd {K : KW} {g : Gh} {ρ : Sl} {σ : L2.St} (rs : RS K g ρ σ) : ∀ {ix : List Nat} {caps : List D}, capt ρ ix = some caps → ∃ vc, RDs K g caps vc ∧ vc.length = ix.length ∧ ∀ (j i : Nat) (v : V), ix[j]? = some i → vc[j]? = some v → σ[i]? = some (some v)
  | [], caps, e => by
    cases e
    exact ⟨[], .nil, rfl, fun j i v e => by simp at e⟩
  | i :: is, caps, e => by
    unfold capt at e
    split at e
    · rename_i d ds h1 h2
      cases e
      obtain ⟨vc, r, hl, hv⟩ := capt_rd rs h2
      obtain ⟨v, s1, s2⟩ := rs.at_ i d h1
      refine ⟨v :: vc, .cons s2 r, by rw [List.length_cons, hl, List.length_cons], fun j k w e1 e2 => ?_⟩
      cases j with
      | zero => simp only [List.getElem?_cons_zero, Option.some.injEq] at e1 e2; subst e1; subst e2; exact s1
      | succ j => simp only [List.getElem?_cons_succ] at e1 e2; exact hv j k w e1 e2
    · cases e
noncomputable def fCallH (GF : Addr → BN → BN) (fe : FE) (ix : List Nat) (fs : List FE) : FE := fun ρ S => (fArgs fs ρ S).bind fun ds S1 => match capt ρ ix with
  | some caps => uni fun a => GF a (runL fe caps) (ds ++ [.ref a]) S1
  | none => .no
theorem me_callH {k kl m : Nat} {f : Addr} {fd : FuncData} {pss N ps fr : List Str} {GF : Addr → BN → BN} {x : Str} {p pos : Pos} {e : Expr} {es : List Expr} {params : Arguments} {body : Expr} {scope : Scope} {fe : FE} {ix : List Nat} {fs : List FE}
    (gd : X.A.guards = some []) (G : ∀ (F : FRec) (R : BN), LamOk X.prog (kwX X W).toKR W.T X.mg X.base CX0 (kl + 1) F ps.length R → FnG X.prog X.w X.K X.mg X.base CX0 k f fd pss (spM ⟨(kwX X W).toKR, W.T, F :: W.L⟩ m (GF F.f R))) (hr : Room k X.A) (hg : Gl X x) (hm : X.mg x = some (.ref f)) (hk : PySem.W.keepIn X.K (.ref f) = true) (hb : Binds X.K fd pss [])
    (hfn : ∀ y, X.fn y = true) (L : LamSc X.env.scope scope N ps fr) (hix : ∀ (j : Nat) (y : Str), fr[j]? = some y → ∃ i, ix[j]? = some i ∧ X.N[i]? = some y) (hlx : ix.length = fr.length) (hms : fs.length + 1 = m)
    (hbind : ∀ (q : Str) (cl : List (Str × Addr)) (pm cv ctv : Value) (us : List Value), us.length = ps.length → bindArgs (PySem.W.kla_fn "<lambda>" q params body scope cl pm cv ctv) ⟨us, []⟩ = pure (ps.zip us))
    (hbody : ∀ (f c' : Addr) (L0 : List FRec) (A : Around) (outer : List Env) (s : Shared) (H : Hp) (E : XK), A.guards = some [] → Room kl (A.deeper (LamX.lamEnv X scope s.heap.objs.size f c')) → ME (lamC X A outer s H E scope N f c') ⟨E00, W.T, L0⟩ body fe)
    (ha : PA X (e :: es) (tAL (kwX X W) W.E (tLm X W params body scope) fs))
    (hdb : (x == ("__debug__" : Str)) = false := by decide) (he : starEach (e :: es) X.env = (false, eval e X.env) :: starEach es X.env := by rfl) (hpl : (backTo pos (starEach es X.env)).any (·.1) = false := by rfl) :
    ME X W (.Call (.Name x p) (e :: es) [] pos) (fCallH GF fe ix fs) := by
  refine ⟨fun pins s σ H Q I h => ?_⟩
  obtain ⟨g, S, ρ, R, rs, q⟩ := h
  refine wpAny_Call_Name_kw (ld_glob I hg hm ?_ hdb)
  let C : Gh → Store → Hp → D → Prop := fun g' _ H' d => ∀ v, RD (kwX X W) g' d v → Q v H'
  refine PySem.W.callWith_K (h₀ := X.base) I.ok.mod.kin hk (thn (ha.run pos pins s σ H (fun vs H1 => ∃ (g1 : Gh) (S1 : Store) (ds : List D) (vs0 : List V) (fa c' : Addr) (pm ctv : Value) (caps : List D), Rep (kwX X W) g1 S1 H1 ∧ RS (kwX X W) g1 ρ σ ∧ vs = vs0 ++ [.ref fa] ∧ RDs (kwX X W) g1 ds vs0 ∧ ds.length = fs.length ∧
      g1.G fa = some (CellO fa (lamObj X params body scope pm c' ctv)) ∧ g1.G c' = some (LamX.CodeO c' (X.env.qual ++ "<lambda>")) ∧ capt ρ ix = some caps ∧ pst (kwX X W) W.E g1 (GF fa (runL fe caps) (ds ++ [.ref fa]) S1) C) I ?_) ?_) he hpl
  · refine rd_al (k := fun ds ρ S1 => match capt ρ ix with
      | some caps => uni fun a => GF a (runL fe caps) (ds ++ [.ref a]) S1
      | none => .no) R rs q fun g1 S1 H1 ds vs x1 R1 rds hdl p1 => ?_
    refine ⟨g1, S1, R1, fun fa c' pm ctv g2 H2 x2 R2 q1 q2 => ?_⟩
    cases ec : capt ρ ix with
    | none => simp only [ec] at p1; exact p1.elim
    | some caps =>
      simp only [ec] at p1
      exact ⟨g2, S1, ds, vs, fa, c', pm, ctv, caps, R2, (rs.mono x1.toExtG).mono x2.toExtG, rfl, rds.mono x2.toExtG, hdl, q1, q2, rfl, (uni_at p1 fa).ext x2⟩
  · rintro us s1 ⟨vs, H1, I1, r1, g1, S1, ds, vs0, fa, c', pm, ctv, caps, R1, rs1, ev, rds, hdl, q1, q2, ec, p1⟩
    refine ⟨I1.kIn, ?_⟩
    obtain ⟨vc, rvc, hvl, hvv⟩ := capt_rd rs1 ec
    -- the cells as they stand
    open Classical in
    let C0 : Addr → Option Obj := fun b => if ∃ y, (cloX X scope).lookup y = some b then s1.heap.get? b else none
    have C0at : ∀ y b, (cloX X scope).lookup y = some b → C0 b = s1.heap.get? b := fun y b e => if_pos ⟨y, e⟩
    have C0in : ∀ b o, C0 b = some o → (∃ y, (cloX X scope).lookup y = some b) ∧ s1.heap.get? b = some o := fun b o e => by
      by_cases c : ∃ y, (cloX X scope).lookup y = some b
      · have e' := e
        rw [show C0 b = s1.heap.get? b from if_pos c] at e'
        exact ⟨c, e'⟩
      · rw [show C0 b = none from if_neg c] at e; cases e
    have cs : CsOk X scope fr C0 vc := by
      refine ⟨fun b o e => (C0in b o e).1, fun y c e => ?_, hvl.trans hlx, fun j y v e1 e2 => ?_⟩
      · obtain ⟨v, o, ho, hd⟩ := I1.cell y c (clo_cell L I1.ok e)
        exact ⟨o, (C0at y c e).trans ho, v, hd⟩
      · obtain ⟨i, h1, h2⟩ := hix j y e1
        have hs := hvv j i v h1 e2
        obtain ⟨m', hn', hl'⟩ := I1.loc
        have hfree : scope.names.lookup y = some .free := L.frl y (List.mem_of_getElem? e1)
        have hvis : Vis X.env.scope y := ((L.free _ (PySem.mem_of_lookup hfree) rfl).2).elim (fun k => .inr (.inl k)) (fun k => .inr (.inr k))
        obtain ⟨u, ru, lk⟩ := hl' i y v h2 hs hvis
        obtain ⟨c, hc⟩ := clo_look (X := X) hfree
        have hcx := clo_cell L I1.ok hc
        rcases lk with ⟨k', _⟩ | ⟨_, c3, e3, o, ho, hd⟩
        · have k' : X.env.scope.names.lookup y = some .local := k'
          rcases (L.free _ (PySem.mem_of_lookup hfree) rfl).2 with k2 | k2 <;> rw [show X.env.scope.names.lookup y = _ from k2] at k' <;> cases k'
        · have e3 : X.env.cells.lookup y = some c3 := e3
          rw [hcx] at e3
          cases e3
          exact ⟨c, o, u, hc, (C0at y c hc).trans ho, hd, ru⟩
    have hlam := lam_ok (W := W) (caps := caps) (pm := pm) (ctv := ctv) (fe := fe) I1.ok L cs (hbind _ _ pm (.ref c') ctv) (fun L0 A outer s H E gd hr => hbody fa c' L0 A outer s H E gd hr)
    have hG := G _ _ hlam
    have free : ∀ b o, C0 b = some o → H1 b = none := fun b o e => by
      obtain ⟨⟨y, hy⟩, _⟩ := C0in b o e
      exact I1.freeC y b (clo_cell L I1.ok hy)
    have above : ∀ b o, C0 b = some o → X.s_0.heap.objs.size ≤ b := fun b o e => by
      obtain ⟨⟨y, hy⟩, _⟩ := C0in b o e
      exact I1.ok.cab y b (hfn y) (clo_cell L I1.ok hy)
    have R2 := R1.tell (F := ⟨fa, lamObj X params body scope pm c' ctv, c', X.env.qual ++ "<lambda>", C0, caps, vc⟩) q1 q2 rvc fun b o e => ⟨free b o e, cs.isCell b o e⟩
    have E0 := I1.env0
    have none_of : ∀ b, H1 b = none → C0 b = none → updC H1 C0 b = none := fun b n c => by rw [updC_none c]; exact n
    have env1 : Env0 X.prog X.w X.K X.mg X.base X.A X.stack s1 (updC H1 C0) := by
      refine ⟨E0.frames, E0.mod, fun b o e => ⟨(E0.bs b o e).1, none_of b (E0.bs b o e).2 ?_⟩, E0.bsz, E0.funs, fun b hb => none_of b (E0.frf b hb) ?_, hok_add E0.hok fun b o e => ⟨free b o e, (C0in b o e).2⟩, E0.bare⟩
      · cases c : C0 b with
        | none => rfl
        | some u => exact absurd (Nat.lt_of_lt_of_le (Nat.lt_of_lt_of_le (Heap.lt_size e) I1.ok.bsz) (above b u c)) (Nat.lt_irrefl _)
      · cases c : C0 b with
        | none => rfl
        | some u =>
          obtain ⟨⟨y, hy⟩, _⟩ := C0in b u c
          rcases List.mem_cons.mp (I1.stkSub b hb) with z | z
          · exact absurd z (I1.cne y b (clo_cell L I1.ok hy))
          · obtain ⟨_, o, ho, _⟩ := I1.ok.funs.mem z
            exact absurd (Nat.lt_of_lt_of_le (Heap.lt_size ho) (above b u c)) (Nat.lt_irrefl _)
    have memF : (⟨fa, lamObj X params body scope pm c' ctv, c', X.env.qual ++ "<lambda>", C0, caps, vc⟩ : FRec) ∈ (⟨fa, lamObj X params body scope pm c' ctv, c', X.env.qual ++ "<lambda>", C0, caps, vc⟩ : FRec) :: W.L := List.mem_cons_self
    have hsp : spM ⟨(kwX X W).toKR, W.T, (⟨fa, lamObj X params body scope pm c' ctv, c', X.env.qual ++ "<lambda>", C0, caps, vc⟩ : FRec) :: W.L⟩ m (GF fa (runL fe caps)) vs (updC H1 C0) (fun v H' => (∀ b o, C0 b = some o → H' b = some (CellO b o)) ∧ Q v (offC H' C0)) (fun cls d H' => W.E cls d (offC H' C0)) := by
      refine ⟨by rw [ev, List.length_append, rds.length, hdl]; exact hms, g1, S1, ds ++ [.ref fa], R2, by rw [ev]; exact rds.append (.cons (.ref fa) .nil), ?_⟩
      have back : ∀ {g' : Gh} {S' : Store} {H' : Hp}, Rep ⟨(kwX X W).toKR, W.T, (⟨fa, lamObj X params body scope pm c' ctv, c', X.env.qual ++ "<lambda>", C0, caps, vc⟩ : FRec) :: W.L⟩ g' S' H' → Rep (kwX X W) g' S' (offC H' C0) ∧ ∀ b o, C0 b = some o → H' b = some (CellO b o) := fun R' => by
        have FO := R'.fun_ _ memF
        refine ⟨(R'.toL fun F' hF' => List.mem_cons_of_mem _ hF').offH (C := C0) (fun b o e => FO.cs b o e) fun F' hF' b o e => ?_, fun b o e => (FO.cs b o e).1⟩
        cases c : C0 b with
        | none => rfl
        | some u =>
          have := ((R1.fun_ F' hF').cs b o e).1
          rw [free b u c] at this; cases this
      generalize GF fa (runL fe caps) (ds ++ [.ref fa]) S1 = out at p1
      cases out with
      | no => exact p1.elim
      | ex e' S' =>
        intro g' H' cls d x R' rx
        obtain ⟨b1, _⟩ := back R'
        exact p1 g' _ cls d x b1 rx
      | ok d S' =>
        intro g' H' x R' v rv
        obtain ⟨b1, b2⟩ := back R'
        exact ⟨b2, p1 g' _ x b1 v rv⟩
    have hl : us.length = pss.length := r1.length.symm.trans (hG.len _ _ _ _ hsp)
    have hbd : BindsTo s1 fd ⟨us, []⟩ (pss.zip us) := by
      have z := hb s1 us I1.kIn (by rw [List.append_nil]; exact hl)
      rw [List.append_nil] at z
      exact z
    refine wpAny_call (codeAny_mono (hG.run X.A X.stack s1 (updC H1 C0) ⟨us, []⟩ us vs _ _ gd hr env1 hbd r1 hsp) ?_)
    intro res s' hq
    cases res with
    | error e => exact (show False from hq).elim
    | ok fl =>
      cases fl with
      | ret u =>
        obtain ⟨v, H', os, bare, un, hok, r, told, q⟩ := hq
        have at' : ∀ b o, C0 b = some o → s'.heap.get? b = some o := fun b o e => (hok b _ (told b o e)).1
        exact I1.after ⟨v, offC H' C0, os, bare, un_untold un fun b o e => ⟨free b o e, (C0in b o e).2, at' b o e⟩, hok_off hok told, r, q⟩
      | next => exact hq.elim
      | brk => exact hq.elim
      | cont => exact hq.elim
end
end MK

namespace MK
open PySem PySem.Spec PyProof.Rows L2

/-! ### the law's end, tables of code objects being told -/
abbrev tab0 : Obj := { cls := .none, data := .fields #[] }
structure Maker (K : PySem.W.Frag) (h : Heap) (p : Addr × Addr) : Prop where
  at_ : h.get? p.2 = some tab0
  out : K.lookup p.2 = none
  hd : PySem.W.CodeHd h p.1 p.2
section
variable {P : Program} {w : World} {K : PySem.W.Frag} {mg mb : Str → Option Value} {k : Nat} {fa a : Addr} {fd : FuncData} {x : Str} {sp : Sp} {s₁ : Shared} {vs : List Value} {ns : List Int} {cs : List (Addr × Addr)}
/-- what may be told at the begin: the script, the tables -/
structure Begin (K : PySem.W.Frag) (cs : List (Addr × Addr)) (a : Addr) (s₁ : Shared) (H : Hp) : Prop where
  tabs : ∀ p ∈ cs, H p.2 = some (.tbl #[])
  only : ∀ b o, H b = some o → (∃ p ∈ cs, p.2 = b) ∨ b = a ∧ K.lookup a = none ∧ ∃ ob xs, o = .frz ob (.lst xs)
theorem lawT_core (inK : K.In s₁.heap) (gl : s₁.heap.Ns mainGlobals mg) (bl : s₁.heap.Ns builtinsNs mb) (boot : ∀ y : Str, y ≠ "__name__" → mb y = bootBuiltins y) (lim : s₁.heap.NoLimit) (gens : s₁.gens = #[])
    (mk : ∀ p ∈ cs, Maker K s₁.heap p) (bm : ∃ (b : Addr) (ob : Obj), mg "__builtins__" = some (.ref b) ∧ b ≠ builtinsNs ∧ s₁.heap.get? b = some ob ∧ ob.cls = .type "module" ∧ ob.dict = some builtinsNs ∧ ob.data = .plain)
    (obj : s₁.heap.get? a = some { cls := .type "list", data := .seq vs.toArray }) (room : Room k callerA)
    (G : ∀ base : Heap, K.In base → base.Ns mainGlobals mg → (∀ p ∈ cs, LamX.TabB base mg p.1 p.2) → FnG P w K mg base CX0 k fa fd [x] sp) (binds : ∀ (s : Shared) (u : Value), BindsTo s fd ⟨[u], []⟩ [(x, u)])
    {H : Hp} (B : Begin K cs a s₁ H) (ok : HOk P w H s₁.heap) (want : sp [.ref a] H (fun v _ => v = .bl true) fun _ _ _ => False) :
    codeAny (model P w) callerA (.call (.ref fa) ⟨[.ref a], []⟩) (fun r s' => r = .ok (.ret (.bool true)) ∧ OldK s₁.heap s'.heap ∧ s'.os = s₁.os ∧ AllBare s'.gens) s₁ := by
  -- other objects are not told
  have plain : ∀ {b : Addr} {o : Obj}, s₁.heap.get? b = some o → (∀ us n, o.data ≠ .seq us n) → o ≠ tab0 → (hidT s₁.heap H).get? b = some o := fun {b o} e n1 n2 => by
    refine hidT_get e ?_
    cases q : H b with
    | none => rfl
    | some u =>
      exfalso
      rcases B.only b u q with ⟨p, hp, z⟩ | ⟨z, _⟩
      · have := (mk p hp).at_
        rw [z, e] at this
        exact n2 (Option.some.inj this)
      · rw [z, obj] at e
        cases e
        exact n1 _ _ rfl
  have names : ∀ {b : Addr} {m : Str → Option Value}, s₁.heap.Ns b m → (hidT s₁.heap H).Ns b m := fun {b m} h => by
    obtain ⟨o, es, ep, e, d, r⟩ := h
    exact ⟨o, es, ep, plain e (fun us n z => by rw [d] at z; cases z) (fun z => by rw [z] at d; cases d), d, r⟩
  have inB : K.In (hidT s₁.heap H) := fun b o e => by
    refine hidT_get (inK b o e) ?_
    cases q : H b with
    | none => rfl
    | some u =>
      exfalso
      rcases B.only b u q with ⟨p, hp, z⟩ | ⟨z, nk, _⟩
      · have := (mk p hp).out
        rw [z, e] at this
        cases this
      · rw [z, nk] at e
        cases e
  have tb : ∀ p ∈ cs, LamX.TabB (hidT s₁.heap H) mg p.1 p.2 := fun p hp => by
    obtain ⟨m1, _, m3⟩ := mk p hp
    refine ⟨?_, ?_, fun z => ?_⟩
    · obtain ⟨o, us, fl, tf, fg, tg, inF, tx, tt, e1, r1, r2, r3, rr⟩ := m3
      refine ⟨o, us, fl, tf, fg, tg, inF, tx, tt, plain e1 (fun us n z => ?_) (fun z => ?_), r1, r2, r3, rr⟩
      · rw [r2] at z; cases z
      · rw [z] at r1; cases r1
    · obtain ⟨b, ob, b1, b2, b3, b4, b5, b6⟩ := bm
      refine ⟨b, ob, b1, b2, fun q => ?_, fun q => ?_, plain b3 (fun us n z => ?_) (fun z => ?_), b4, b5, b6⟩
      · obtain ⟨o, es, ep, e, d, _⟩ := gl
        rw [q, e] at b3; cases b3
        rw [d] at b6; cases b6
      · rw [q, m1] at b3; cases b3
        cases b6
      · rw [b6] at z; cases z
      · rw [z] at b6; cases b6
    · obtain ⟨o, es, ep, e, d, _⟩ := gl
      rw [z, m1] at e
      cases e
      cases d
  have md : Mod K mg (hidT s₁.heap H) := ⟨inB, names gl, ⟨mb, names bl, boot⟩, by obtain ⟨mc, l1, l2⟩ := lim; exact ⟨mc, names l1, l2⟩⟩
  have env0 : Env0 P w K mg (hidT s₁.heap H) callerA [] s₁ H :=
    { frames := rfl, mod := md, bs := fun b o e => of_hidT e, bsz := Nat.le_of_eq (hidT_size _ _), funs := trivial,
      frf := fun b hb => (by simp [frs] at hb), hok := ok, bare := .of_eq gens }
  refine codeAny_mono ((G _ inB (names gl) tb).run callerA [] s₁ H ⟨[.ref a], []⟩ [.ref a] [.ref a] _ _ rfl room env0 (binds s₁ (.ref a)) (.cons rfl .nil) want) ?_
  intro r s' done
  cases r with
  | error e => exact (show False from done).elim
  | ok fl =>
    cases fl with
    | next => exact done.elim
    | brk => exact done.elim
    | cont => exact done.elim
    | ret u =>
      obtain ⟨v, H', os, bare, un, ok', rv, q⟩ := done
      have q' : v = .bl true := q
      subst q'
      have eu : u = Value.bool true := rv
      subst eu
      have grown : ∀ p ∈ cs, ∃ more : Array Value, s'.heap.get? p.2 = some { cls := .none, data := .fields more } := fun p hp => by
        obtain ⟨more, z⟩ := un.tbls p.2 #[] (B.tabs p hp)
        exact ⟨_, ok' p.2 _ z⟩
      have way : ∀ b o, s₁.heap.get? b = some o → (∃ p ∈ cs, p.2 = b) ∨ s'.heap.get? b = some o := fun b o e => by
        cases hb : H b with
        | none => exact .inr (un.keep b o e hb (by simp [frs]) (by simp))
        | some u =>
          rcases B.only b u hb with z | ⟨z, _, ob, xs, e2⟩
          · exact .inl z
          · rw [e2] at hb
            have e3 := (ok b _ hb).1
            have e4 := (ok' b _ (un.frzs b ob _ hb)).1
            rw [e] at e3
            rw [Option.some.inj e3]
            exact .inr e4
      refine ⟨rfl, ⟨fun b o e => ?_, fun b o e => ?_⟩, os, bare⟩
      · rcases way b o e with ⟨p, hp, z⟩ | z
        · subst z
          obtain ⟨more, hm⟩ := grown p hp
          have m1 := (mk p hp).at_
          rw [m1] at e
          cases e
          exact .inr (.inl ⟨((mk p hp).hd.tab m1).isCodeTable, rfl, #[], more, rfl, by rw [Array.empty_append]; exact hm⟩)
        · exact .inl z
      · rcases way b o e with ⟨p, hp, z⟩ | z
        · subst z
          obtain ⟨more, hm⟩ := grown p hp
          exact ⟨_, hm⟩
        · exact ⟨o, z⟩
theorem lawT_call (inK : K.In s₁.heap) (gl : s₁.heap.Ns mainGlobals mg) (bl : s₁.heap.Ns builtinsNs mb) (boot : ∀ y : Str, y ≠ "__name__" → mb y = bootBuiltins y) (lim : s₁.heap.NoLimit) (gens : s₁.gens = #[])
    (mk : ∀ p ∈ cs, Maker K s₁.heap p) (bm : ∃ (b : Addr) (ob : Obj), mg "__builtins__" = some (.ref b) ∧ b ≠ builtinsNs ∧ s₁.heap.get? b = some ob ∧ ob.cls = .type "module" ∧ ob.dict = some builtinsNs ∧ ob.data = .plain)
    (obj : s₁.heap.get? a = some { cls := .type "list", data := .seq vs.toArray }) (hi : IntsAre vs ns) (hl : ns.length ≤ sizeLine) (room : Room k callerA)
    (G : ∀ base : Heap, K.In base → base.Ns mainGlobals mg → (∀ p ∈ cs, LamX.TabB base mg p.1 p.2) → FnG P w K mg base CX0 k fa fd [x] sp) (binds : ∀ (s : Shared) (u : Value), BindsTo s fd ⟨[u], []⟩ [(x, u)])
    (want : ∀ H : Hp, (∀ p ∈ cs, H p.2 = some (.tbl #[])) → SqL K H a (ns.map V.int) → sp [.ref a] H (fun v _ => v = .bl true) fun _ _ _ => False) :
    codeAny (model P w) callerA (.call (.ref fa) ⟨[.ref a], []⟩) (fun r s' => r = .ok (.ret (.bool true)) ∧ OldK s₁.heap s'.heap ∧ s'.os = s₁.os ∧ AllBare s'.gens) s₁ := by
  have rv := vals_ints hi
  have na : ∀ p ∈ cs, p.2 ≠ a := fun p hp z => by
    have := (mk p hp).at_
    rw [z, obj] at this
    cases this
  open Classical in
  let HT : Hp := fun b => if ∃ p ∈ cs, p.2 = b then some (.tbl #[]) else none
  have t1 : ∀ p ∈ cs, HT p.2 = some (.tbl #[]) := fun p hp => if_pos ⟨p, hp, rfl⟩
  have t2 : ∀ b o, HT b = some o → (∃ p ∈ cs, p.2 = b) ∧ o = .tbl #[] := fun b o e => by
    by_cases c : ∃ p ∈ cs, p.2 = b
    · have e' : HT b = some (.tbl #[]) := if_pos c
      rw [e'] at e
      cases e
      exact ⟨c, rfl⟩
    · have e' : HT b = none := if_neg c
      rw [e'] at e; cases e
  have okT : ∀ b o, HT b = some o → ∀ H', ObjOk P w H' s₁.heap b o := fun b o e H' => by
    obtain ⟨⟨p, hp, z⟩, eo⟩ := t2 b o e
    subst eo
    subst z
    exact (mk p hp).at_
  cases hk : K.lookup a with
  | some o =>
    have e := inK a o hk
    rw [obj] at e
    have e' := Option.some.inj e
    subst e'
    refine lawT_core inK gl bl boot lim gens mk bm obj room G binds (H := HT) ⟨t1, fun b o e => .inl (t2 b o e).1⟩ (fun b u z => okT b u z _) (want _ t1 (.inr ⟨_, vs.toArray, _, hk, rfl, rfl, rfl, ?_, by simpa using rv⟩))
    rw [List.size_toArray, hi.length]
    exact hl
  | none =>
    have ha : upd HT a (.frz { cls := .type "list", data := .seq vs.toArray } (.lst (ns.map V.int))) a = _ := upd_same
    refine lawT_core inK gl bl boot lim gens mk bm obj room G binds (H := upd HT a (.frz { cls := .type "list", data := .seq vs.toArray } (.lst (ns.map V.int)))) ⟨fun p hp => by rw [upd_ne (na p hp)]; exact t1 p hp, fun b o e => ?_⟩ (fun b u z => ?_) (want _ (fun p hp => by rw [upd_ne (na p hp)]; exact t1 p hp) (.inl (.inr ⟨_, upd_same⟩)))
    · by_cases q : b = a
      · subst q
        rw [upd_same] at e
        exact .inr ⟨rfl, hk, _, _, (Option.some.inj e).symm⟩
      · rw [upd_ne q] at e
        exact .inl (t2 b o e).1
    · by_cases q : b = a
      · subst q
        rw [upd_same] at z
        have z' := Option.some.inj z
        subst z'
        exact ⟨obj, by rw [List.length_map]; exact hl, vs, _, rv, obj⟩
      · rw [upd_ne q] at z
        exact okT b u z _
end
/-- what the top tells of a def that makes functions -/
def Made (mg : Str → Option Value) (h : Heap) (y : Str) : Prop := ∃ (a : Addr) (o : Obj) (fd : FuncData) (c P : Addr), mg y = some (.ref a) ∧ h.get? a = some o ∧ o.data = .func fd ∧ fd.code = .ref c ∧ PySem.W.CodeHd h c P ∧ h.get? P = some tab0
theorem walkGT {l : PySem.W.OpenLaw} {n k : Nat} {q : Program} {loose : List Str} {XP : (Str → Option Value) → Heap → Prop} {YP : World → Heap → Prop} {d : DefRec} {K : Params → PySem.W.Frag} {x : Str} {F : List D → Store → Out D}
    (hn : l.most = some n) (hn2 : n ≤ sizeLine) (hdf : d.params.defaults = []) (room : Room k callerA)
    (hY : ∀ (w : World) (h : Heap), YP w h → (K w.params).In h) (names : List Str) (hrec : (names.all fun y => (recsOf q).any fun e => e.name == y) = true)
    (hF : ∀ ns : List Int, ns.length ≤ n → (∀ z ∈ ns, Builtin.Int.intBits z ≤ 1048576) → ∃ S', F [.flst (ns.map D.int)] [] = .ok (.bl true) S')
    (G : ∀ (w : World) (mg : Str → Option Value) (fa : Addr) (h : Heap), (K w.params).In h → h.Ns mainGlobals mg → mg d.name = some (.ref fa) → (∀ y ∈ names, Made mg h y) →
      ∃ (fd : FuncData) (cs : List (Addr × Addr)) (T : List NdefX.NTab), (∀ p ∈ T, ∃ c, (c, p.1) ∈ cs) ∧ (∀ p ∈ cs, Maker (K w.params) h p) ∧ (∀ (s : Shared) (u : Value), BindsTo s fd ⟨[u], []⟩ [(x, u)]) ∧
        ∀ base : Heap, (K w.params).In base → base.Ns mainGlobals mg → (∀ p ∈ cs, LamX.TabB base mg p.1 p.2) → FnG l.prog w (K w.params) mg base CX0 k fa fd [x] (spM ⟨⟨K w.params, w⟩, T, []⟩ 1 F)) :
    PySem.W.WalkO q loose XP YP l.row.toRowW d [] (fun f vs => PySem.call f vs) := by
  refine Att.attach_callB hn hdf ?_
  intro w s₀ s₁ mg mb fa o pm cd doc a vs ns Gr Y ho hd hcd hmg hobj hints hlen hbits hg
  have made : ∀ y ∈ names, Made mg s₁.heap y := fun y hy => by
    have h1 := List.all_eq_true.mp hrec y hy
    obtain ⟨e, he, hey⟩ := List.any_eq_true.mp h1
    obtain ⟨a', o', fd', c, P, q1, q2, q3, q4, q5, q6⟩ := Gr.T.tab e he
    rw [beq_iff_eq.mp hey] at q1
    refine ⟨a', o', fd', c, P, q1, q2, q3, q4, .of q5 q6, ?_⟩
    obtain ⟨_, q7⟩ := q6
    exact q7
  obtain ⟨fd, cs, T, hT, mk, hb, hFn⟩ := G w mg fa _ (hY w _ Y) Gr.T.g hmg made
  exact lawT_call (hY w _ Y) Gr.T.g Gr.T.b Gr.T.builtins Gr.T.nolimit hg mk Gr.T.bmain hobj hints (Nat.le_trans hlen hn2) room hFn hb
    (fun H hH hS => want_of hF ⟨⟨K w.params, w⟩, T, []⟩ H a ns hlen hbits rfl (fun p hp => let ⟨c, hc⟩ := hT p hp; hH _ hc) hS)
end MK

namespace MK
open PySem PySem.Spec PyProof.Rows L2

section
variable {X : Cx} {W : WT} {U : XK} {K : KW}
/-! ### more methods of lists -/
theorem me_bmL0 {o : Expr} {name : Str} {apos cpos : Pos} {id : String} {r : V → List V → Hp → VK → Prop} {op : BM} {fo : FE} (pa : PlainAttrs "list") (slot : Slot "list" name id) (hty : typeOf (.builtin id) = pure (.type "method_descriptor")) (hm : MtR X id r) (hf : MethM (kwX X W) r op)
    (ho : ME X W o fo) (hbase : attributeBase o name X.env (eval o X.env) = eval o X.env := by rfl) (hline : (apos.endLine == cpos.line) = true := by rfl) : ME X W (.Call (.Attribute o name apos) [] [] cpos) (fBm op fo fNil) :=
  PE.imp (pe_bm0 pa slot hty hm ho hbase hline) fun σ H Q h => by
    refine rd.then (k := fun (d : D) ρ S1 => if (d.asL S1).isSome = true then (fNil ρ S1).bind fun ds S2 => op d ds S2 else .no) h fun g S H' ρ d R rs p v rv => ?_
    cases e1 : d.asL S with
    | none => simp only [e1] at p; exact p.elim
    | some xs =>
      simp only [e1, Option.isSome_some, if_true] at p
      obtain ⟨a, ws, rfl, h1, h2⟩ := rv.asL R e1
      exact ⟨.inl ⟨rfl, ws, h1⟩, hf W g S H' d [] _ [] Q R rv .nil p⟩
/-- xs.pop() -/
def popD : BM
  | .cell k, [], S => match S[k]? with
    | some (.lst xs) => match xs[xs.length - 1]? with
      | some y => .ok y (S.set k (.lst xs.dropLast))
      | none => .no
    | _ => .no
  | _, _, _ => .no
theorem RDs.dropLast {g : Gh} : ∀ {ds : List D} {vs : List V}, RDs K g ds vs → RDs K g ds.dropLast vs.dropLast := fun {ds vs} r => by
  rw [List.dropLast_eq_take, List.dropLast_eq_take, r.length]
  exact r.take _
theorem m_pop : MethM K rPop popD := by
  intro W g S H d ds v vs Q R rd rds p
  cases rd with
  | cell h1 h2 =>
    rename_i k a
    cases rds with
    | cons _ _ => exact p.elim
    | nil =>
      unfold popD at p
      simp only at p
      cases e : S[k]? with
      | none => rw [e] at p; exact p.elim
      | some c =>
        cases c with
        | dead => rw [e] at p; exact p.elim
        | dct _ => rw [e] at p; exact p.elim
        | lst xs =>
          rw [e] at p
          simp only at p
          cases e2 : xs[xs.length - 1]? with
          | none => rw [e2] at p; exact p.elim
          | some y =>
            rw [e2] at p
            obtain ⟨_, us, q1, q2⟩ := R.lst e
            obtain ⟨w, w1, w2⟩ := q2.get e2
            have lv : Live S[k]? := by rw [e]; trivial
            refine ⟨a, us, w, rfl, rfl, by rw [← h2]; exact q1, by rw [q2.length]; exact w1, ?_⟩
            rw [← h2]
            exact pst.here p (R.store lv q2.dropLast) _ w2
  | _ => exact p.elim
theorem me_pop {o : Expr} {apos cpos : Pos} {fo : FE} (ho : ME X W o fo) (hbase : attributeBase o "pop" X.env (eval o X.env) = eval o X.env := by rfl) (hline : (apos.endLine == cpos.line) = true := by rfl) : ME X W (.Call (.Attribute o "pop" apos) [] [] cpos) (fBm popD fo fNil) :=
  me_bmL0 PySem.F.plainAttrs_list PySem.F.slot_list_pop PySem.F.type_list_pop mt_pop m_pop ho hbase hline
/-- xs.insert(i, y) -/
def insD : BM
  | .cell k, [di, y], S => match di with
    | .int i => match S[k]? with
      | some (.lst xs) => if xs.length < line ∧ 0 ≤ i ∧ i < 2 ^ 63 then .ok .non (S.set k (.lst (xs.take i.toNat ++ [y] ++ xs.drop i.toNat))) else .no
      | _ => .no
    | _ => .no
  | _, _, _ => .no
theorem m_ins : MethM K (fun x vs H Q => ∃ (l : Addr) (xs : List V) (i : Int) (y : V), x = .ref l ∧ vs = [.int i, y] ∧ H l = some (.lst xs) ∧ xs.length < sizeLine ∧ 0 ≤ i ∧ i < 2 ^ 63 ∧ Q .non (upd H l (.lst (xs.take i.toNat ++ [y] ++ xs.drop i.toNat)))) insD := by
  intro W g S H d ds v vs Q R rd rds p
  cases rd with
  | cell h1 h2 =>
    rename_i k a
    match ds, rds, p with
    | [], _, p => exact p.elim
    | [_], _, p => exact p.elim
    | _ :: _ :: _ :: _, _, p => exact p.elim
    | [di, y], rds, p =>
      obtain ⟨v1, v2, rfl, r1, r2⟩ := rds.two
      unfold insD at p
      cases r1 with
      | int i =>
        simp only at p
        cases e : S[k]? with
        | none => rw [e] at p; exact p.elim
        | some c =>
          cases c with
          | dead => rw [e] at p; exact p.elim
          | dct _ => rw [e] at p; exact p.elim
          | lst xs =>
            rw [e] at p
            simp only at p
            by_cases c : xs.length < line ∧ 0 ≤ i ∧ i < 2 ^ 63
            · rw [if_pos c] at p
              obtain ⟨_, us, q1, q2⟩ := R.lst e
              have lv : Live S[k]? := by rw [e]; trivial
              refine ⟨a, us, i, v2, rfl, rfl, by rw [← h2]; exact q1, by rw [q2.length, ← line_eq]; exact c.1, c.2.1, c.2.2, ?_⟩
              rw [← h2]
              exact pst.here p (R.store lv (((q2.take _).append (.cons r2 .nil)).append (q2.drop _))) _ .non
            · rw [if_neg c] at p; exact p.elim
      | _ => exact p.elim
  | _ => exact p.elim
theorem me_insert {o e1 e2 : Expr} {apos cpos : Pos} {fo f1 f2 : FE} (ho : ME X W o fo) (h1 : ME X W e1 f1) (h2 : ME X W e2 f2) (hs2 : starEach [e1, e2] X.env = (false, eval e1 X.env) :: starEach [e2] X.env := by rfl) (hs3 : starEach [e2] X.env = (false, eval e2 X.env) :: starEach [] X.env := by rfl)
    (hbase : attributeBase o "insert" X.env (eval o X.env) = eval o X.env := by rfl)
    (hfew : ((backTo cpos (starEach [e1, e2] X.env)).all (fun x => !x.1) && (backToKw cpos (keywordEach [] X.env)).all (fun x => x.1.isSome)
      && decide (([e1, e2] : List Expr).length + ([] : List Keyword).length + (if ([] : List Keyword).isEmpty then 0 else 1) < 30)) = true := by rfl)
    (hline : (apos.endLine == cpos.line) = true := by rfl) (hplain : (backTo cpos (starEach [e2] X.env)).any (·.1) = false := by rfl) : ME X W (.Call (.Attribute o "insert" apos) [e1, e2] [] cpos) (fBm insD fo (fCons f1 (fCons f2 fNil))) :=
  me_bmL PySem.F.plainAttrs_list PySem.F.slot_list_insert PySem.F.type_list_insert mt_insert m_ins ho (ma_cons h1 (ma_cons h2 ma_nil hs3) hs2) hbase hfew hline hs2 hplain
/-! xs.index(x) -/
def idxOf (d : PyData) : List PyData → Option Nat
  | [] => none
  | z :: zs => if PyData.eqv z d = true then some 0 else (idxOf d zs).map (· + 1)
theorem idxOf_some {d : PyData} : ∀ {ds : List PyData} {j : Nat}, idxOf d ds = some j → ∃ z, ds[j]? = some z ∧ PyData.eqv z d = true ∧ ∀ (m : Nat) (z' : PyData), m < j → ds[m]? = some z' → PyData.eqv z' d = false
  | [], j, h => by cases h
  | z :: zs, j, h => by
    unfold idxOf at h
    by_cases c : PyData.eqv z d = true
    · rw [if_pos c] at h
      cases h
      exact ⟨z, rfl, c, fun m z' hm => absurd hm (Nat.not_lt_zero _)⟩
    · rw [if_neg c] at h
      cases q : idxOf d zs with
      | none => rw [q] at h; cases h
      | some i =>
        rw [q] at h
        cases h
        obtain ⟨y, h1, h2, h3⟩ := idxOf_some q
        refine ⟨y, by simpa using h1, h2, fun m z' hm e => ?_⟩
        cases m with
        | zero => simp only [List.getElem?_cons_zero, Option.some.injEq] at e; rw [← e]; exact Bool.eq_false_iff.mpr c
        | succ m => exact h3 m z' (Nat.lt_of_succ_lt_succ hm) (by simpa using e)
def indexD : BM := fun d ds S => match ds with
  | [y] => match d.pyS S, y.pyS S with
    | some (.list ps), some p => if SeqAt.shaped (.list ps) = true ∧ SeqAt.shaped p = true then (match idxOf p ps with
        | some j => .ok (.int (j : Nat)) S
        | none => .no) else .no
    | _, _ => .no
  | _ => .no
theorem pyS_list {g : Gh} {S : Store} {H : Hp} (R : Rep K g S H) {d : D} {v : V} {ps : List PyData} (r : RD K g d v) (e : d.pyS S = some (.list ps)) : ∃ a, v = .ref a := by
  have := RD.pyS R r e
  cases this with
  | lst _ _ => exact ⟨_, rfl⟩
theorem m_index : MethM K (rIndexD K.K) indexD := by
  intro W g S H d ds v vs Q R rd rds p
  unfold indexD at p
  split at p
  · rename_i y
    obtain ⟨w, rfl, ry⟩ := rds.one
    split at p
    · rename_i ps q e1 e2
      by_cases c : SeqAt.shaped (.list ps) = true ∧ SeqAt.shaped q = true
      · rw [if_pos c] at p
        cases e3 : idxOf q ps with
        | none => rw [e3] at p; exact p.elim
        | some j =>
          rw [e3] at p
          obtain ⟨z, z1, z2, z3⟩ := idxOf_some e3
          obtain ⟨a, rfl⟩ := pyS_list R rd e1
          exact ⟨a, w, q, ps, j, z, rfl, rfl, RD.pyS R rd e1, RD.pyS R ry e2, c.1, c.2, z1, z2, z3, pst.here p R _ (.int _)⟩
      · rw [if_neg c] at p; exact p.elim
    · exact p.elim
  · exact p.elim
theorem me_index {o e : Expr} {apos cpos : Pos} {fo fe : FE} {k : Nat} (hr : Room k X.A) (ho : ME X W o fo) (he : ME X W e fe) (hs2 : starEach [e] X.env = (false, eval e X.env) :: starEach [] X.env := by rfl)
    (hbase : attributeBase o "index" X.env (eval o X.env) = eval o X.env := by rfl)
    (hfew : ((backTo cpos (starEach [e] X.env)).all (fun x => !x.1) && (backToKw cpos (keywordEach [] X.env)).all (fun x => x.1.isSome)
      && decide (([e] : List Expr).length + ([] : List Keyword).length + (if ([] : List Keyword).isEmpty then 0 else 1) < 30)) = true := by rfl)
    (hline : (apos.endLine == cpos.line) = true := by rfl) (hplain : (backTo cpos (starEach [] X.env)).any (·.1) = false := by rfl) : ME X W (.Call (.Attribute o "index" apos) [e] [] cpos) (fBm indexD fo (fCons fe fNil)) :=
  me_bmL PySem.F.plainAttrs_list PySem.F.slot_list_index PySem.F.type_list_index (mt_indexD (by have := hr.un; omega)) m_index ho (ma_cons he ma_nil hs2) hbase hfew hline hs2 hplain
/-! xs.extend(ys), a list or a tuple -/
theorem ext_tuple (l : Addr) (items : Array Value) (n : Nat) (b : Addr) (o : Obj) (items2 : Array Value) (n2 : Nat) (hc : o.cls = .type "tuple") (hd : o.data = .seq items2 n2) (hs0 : ¬(!items.isEmpty && Builtin.List.listTooLong (items.size + items2.size)) = true) (hs1 : items.size ≤ sizeLine) (hs2 : items.size + items2.size ≤ sizeLine + 1) :
    Meets (Builtin.«list.extend» ⟨[.ref l, .ref b], []⟩) (fun _ R s => s.heap.get? l = some { cls := .type "list", dict := none, data := .seq items n, slots := #[] } ∧ s.heap.get? b = some o ∧ R (.ok (.ret Value.none)) { s with heap := s.heap.update l (Obj.mapSeq fun x => x ++ items2), toks := s.toks }) :=
  .of_wp fun prog w A R s h => by
    obtain ⟨hp, g, d, tk, os⟩ := s
    obtain ⟨hl, hb, h⟩ := h
    obtain ⟨oc, od, dt, sl⟩ := o
    simp only at hc hd
    subst hc
    subst hd
    have f2 := sub_tuple_tuple
    have f3 := sub_list_list
    have f4 := sub_tuple_list
    have f5 := sub_list_tuple
    have hz' : (items ++ items2).size ≤ sizeLine + 1 := by rw [Array.size_append]; exact hs2
    wp_walk using (wpAny_updateSeq hl rfl (hz := hs1) (_hz' := hz')), wpAny_loadPart' hl, wpAny_loadPart' hb
    exact ⟨_, rfl, h⟩
theorem ext_list (l : Addr) (items : Array Value) (n : Nat) (b : Addr) (o : Obj) (items2 : Array Value) (n2 : Nat) (hc : o.cls = .type "list") (hd : o.data = .seq items2 n2) (hs0 : ¬(!items.isEmpty && Builtin.List.listTooLong (items.size + items2.size)) = true) (hs1 : items.size ≤ sizeLine) (hs2 : items.size + items2.size ≤ sizeLine + 1) :
    Meets (Builtin.«list.extend» ⟨[.ref l, .ref b], []⟩) (fun _ R s => s.heap.get? l = some { cls := .type "list", dict := none, data := .seq items n, slots := #[] } ∧ s.heap.get? b = some o ∧ R (.ok (.ret Value.none)) { s with heap := s.heap.update l (Obj.mapSeq fun x => x ++ items2), toks := s.toks }) :=
  .of_wp fun prog w A R s h => by
    obtain ⟨hp, g, d, tk, os⟩ := s
    obtain ⟨hl, hb, h⟩ := h
    obtain ⟨oc, od, dt, sl⟩ := o
    simp only at hc hd
    subst hc
    subst hd
    have f2 := sub_tuple_tuple
    have f3 := sub_list_list
    have f4 := sub_tuple_list
    have f5 := sub_list_tuple
    have hz' : (items ++ items2).size ≤ sizeLine + 1 := by rw [Array.size_append]; exact hs2
    wp_walk using (wpAny_updateSeq hl rfl (hz := hs1) (_hz' := hz')), wpAny_loadPart' hl, wpAny_loadPart' hb
    exact ⟨_, rfl, h⟩
def rExtA (K : PySem.W.Frag) : V → List V → Hp → VK → Prop := fun x vs H Q => ∃ l b xs zs, x = .ref l ∧ vs = [.ref b] ∧ H l = some (.lst xs) ∧ (SqL K H b zs ∨ SqT K H b zs) ∧ xs.length + zs.length ≤ sizeLine ∧ Q .non (upd H l (.lst (xs ++ zs)))
theorem mt_extA : MtR X "list.extend" (rExtA X.K) := by
  intro pins s σ H x vs v us Q I rx rv h
  obtain ⟨l, b, xs, zs, rfl, rfl, hH, hB, hz, q⟩ := h
  cases rx
  obtain ⟨u, rfl, ru⟩ := rv.one
  cases ru
  obtain ⟨z, its, n, r, hl, e⟩ := I.lstM hH
  have fin : ∀ {its2 : List Value} {s' : Shared}, Vals zs its2 → s' = { s with heap := s.heap.update l (Obj.mapSeq fun x => x ++ its2.toArray), toks := s.toks } → EP X pins σ Q .none s' := fun {its2 s'} r2 es => by
    subst es
    refine ⟨.non, _, I.lset (its' := its ++ its2) hH e (by simp) (r.append r2) ?_, rfl, q⟩
    rw [List.length_append]
    omega
  have door : ∀ {its2 : List Value}, Vals zs its2 → (its.toArray.size + its2.toArray.size ≤ sizeLine) ∧ ¬ (!its.toArray.isEmpty && Builtin.List.listTooLong (its.toArray.size + its2.toArray.size)) = true := fun {its2} r2 => by
    have hl2 := r2.length
    have hsz : its.toArray.size + its2.toArray.size ≤ sizeLine := by rw [List.size_toArray, List.size_toArray]; omega
    refine ⟨hsz, ?_⟩
    rw [notLongL hsz, Bool.and_false]
    exact Bool.false_ne_true
  rcases hB with hB | hB
  · obtain ⟨its2, r2, ⟨o, n2, e2, c1, _, c2⟩, hz2⟩ := I.list hB
    obtain ⟨d1, d2⟩ := door r2
    exact call_meets F.slot_list_extend ⟨_, e, rfl⟩ F.entry_list_extend (F.args_list_extend_2 _ _) (ext_list l its.toArray n b o its2.toArray n2 c1 c2 d2 (by rw [List.size_toArray]; omega) (by omega)) ⟨e, e2, fin r2 rfl⟩
  · obtain ⟨its2, r2, ⟨o, e2, c1, n2, c2⟩, hz2⟩ := I.tuple hB
    obtain ⟨d1, d2⟩ := door r2
    exact call_meets F.slot_list_extend ⟨_, e, rfl⟩ F.entry_list_extend (F.args_list_extend_2 _ _) (ext_tuple l its.toArray n b o its2.toArray n2 c1 c2 d2 (by rw [List.size_toArray]; omega) (by omega)) ⟨e, e2, fin r2 rfl⟩
def D.sq (S : Store) (d : D) : Option (List D) := match d.asL S with
  | some ys => some ys
  | none => d.asT
def extD : BM
  | .cell k, [y], S => match S[k]?, y.sq S with
    | some (.lst xs), some ys => if xs.length + ys.length ≤ line then .ok .non (S.set k (.lst (xs ++ ys))) else .no
    | _, _ => .no
  | _, _, _ => .no
theorem RD.sq {g : Gh} {S : Store} {H : Hp} (R : Rep K g S H) {d : D} {v : V} {ys : List D} (r : RD K g d v) (e : d.sq S = some ys) : ∃ b zs, v = .ref b ∧ (SqL K H b zs ∨ SqT K H b zs) ∧ RDs K g ys zs := by
  unfold D.sq at e
  split at e
  · rename_i zs e1
    cases e
    obtain ⟨a, vs, h1, h2, h3⟩ := r.asL R e1
    exact ⟨a, vs, h1, .inl h2, h3⟩
  · obtain ⟨a, vs, h1, h2, h3⟩ := r.asT R e
    exact ⟨a, vs, h1, .inr h2, h3⟩
theorem m_ext : MethM K (rExtA K.K) extD := by
  intro W g S H d ds v vs Q R rd rds p
  cases rd with
  | cell h1 h2 =>
    rename_i k a
    match ds, rds, p with
    | [], _, p => exact p.elim
    | _ :: _ :: _, _, p => exact p.elim
    | [y], rds, p =>
      obtain ⟨w, rfl, rw1⟩ := rds.one
      unfold extD at p
      simp only at p
      cases e : S[k]? with
      | none => simp only [e] at p; exact p.elim
      | some c =>
        cases c with
        | dead => simp only [e] at p; exact p.elim
        | dct _ => simp only [e] at p; exact p.elim
        | lst xs =>
          cases e2 : y.sq S with
          | none => simp only [e, e2] at p; exact p.elim
          | some ys =>
            simp only [e, e2] at p
            by_cases hl : xs.length + ys.length ≤ line
            · rw [if_pos hl] at p
              obtain ⟨_, us, q1, q2⟩ := R.lst e
              obtain ⟨b, zs, rfl, hb, rz⟩ := rw1.sq R e2
              have lv : Live S[k]? := by rw [e]; trivial
              refine ⟨a, b, us, zs, rfl, rfl, by rw [← h2]; exact q1, hb, by rw [q2.length, rz.length, ← line_eq]; exact hl, ?_⟩
              rw [← h2]
              exact pst.here p (R.store lv (q2.append rz)) _ .non
            · rw [if_neg hl] at p; exact p.elim
  | _ => exact p.elim
theorem me_extend {o e : Expr} {apos cpos : Pos} {fo fe : FE} (ho : ME X W o fo) (he : ME X W e fe) (hs2 : starEach [e] X.env = (false, eval e X.env) :: starEach [] X.env := by rfl)
    (hbase : attributeBase o "extend" X.env (eval o X.env) = eval o X.env := by rfl)
    (hfew : ((backTo cpos (starEach [e] X.env)).all (fun x => !x.1) && (backToKw cpos (keywordEach [] X.env)).all (fun x => x.1.isSome)
      && decide (([e] : List Expr).length + ([] : List Keyword).length + (if ([] : List Keyword).isEmpty then 0 else 1) < 30)) = true := by rfl)
    (hline : (apos.endLine == cpos.line) = true := by rfl) (hplain : (backTo cpos (starEach [] X.env)).any (·.1) = false := by rfl) : ME X W (.Call (.Attribute o "extend" apos) [e] [] cpos) (fBm extD fo (fCons fe fNil)) :=
  me_bmL PySem.F.plainAttrs_list PySem.F.slot_list_extend PySem.F.type_list_extend mt_extA m_ext ho (ma_cons he ma_nil hs2) hbase hfew hline hs2 hplain
end
end MK

namespace MK
open PySem PySem.Spec PyProof.Rows L2

/-! ### dicts whose keys are data of any depth, mixed: the search -/
/-- the entries es have the keys ks -/
structure Ents (w : World) (h : Heap) (es : Array DictEntry) (ks : List NestedKey) : Prop where
  len : es.size = ks.length
  at_ : ∀ (i : Nat) (k : NestedKey), ks[i]? = some k → ∃ e, es[i]? = some e ∧ e.hash = k.hash w ∧ NestedIs h k e.key
  dep : ∀ k ∈ ks, k.depth ≤ 8
  nd : ks.Nodup
/-- the loop over the places of one hash -/
def lookOver (d : Addr) (key : Value) (h : Int) (es : Array DictEntry) (tells : Bool) (stored : List Value) (places : List Nat) : Sem (Option Nat) := do
  let mut hit : Option Nat := none
  for i in places do
    if let some e := es[i]? then
      if e.hash == h then
        let before ← dictEpoch d (keyPart key)
        let same ← eqBool e.key key
        if (← dictEpoch d (keyPart key)) != before then unsupported "dict.changed-during-lookup"
        if same then
          if hit.isSome then unsupported "dict.find:order-among-keys-of-one-hash"
          rule "dict.find.hit"
          if stored.length < 2 then return some i
          hit := some i
        else
          rule "dict.find.same-hash-other-key"
          if tells && !(0 ≤ h && h < 32) then unsupported "dict.find:asked-again-or-not-hangs-on-the-table"
  return hit
section
variable {prog : Program} {w : World} {A : Around} {E : Value → Shared → Prop} {s : Shared} {es : Array DictEntry} {ep : Nat} {ks : List NestedKey} {k : NestedKey} {key : Value} {d : Addr} {o : Obj} {Q : Option Nat → Shared → Prop}
theorem Ents.get (X : Ents w s.heap es ks) {i : Nat} (hi : i < es.size) : ∃ k', ks[i]? = some k' ∧ es[i].hash = k'.hash w ∧ NestedIs s.heap k' es[i].key ∧ k'.depth ≤ 8 := by
  have hk : i < ks.length := by rw [← X.len]; exact hi
  obtain ⟨e, h1, h2, h3⟩ := X.at_ i ks[i] (List.getElem?_eq_getElem hk)
  rw [Array.getElem?_eq_getElem hi] at h1
  cases h1
  exact ⟨ks[i], List.getElem?_eq_getElem hk, h2, h3, X.dep _ (List.getElem_mem hk)⟩
theorem Ents.uniq (X : Ents w s.heap es ks) {i j : Nat} {k : NestedKey} (hi : ks[i]? = some k) (hj : ks[j]? = some k) : i = j :=
  (List.getElem?_inj (List.getElem?_eq_some_iff.mp hi).1 X.nd).mp (hi.trans hj.symm)
/-- what the search is to tell -/
structure Told (ks : List NestedKey) (k : NestedKey) (Q : Option Nat → Shared → Prop) (s : Shared) : Prop where
  no : (∀ j : Nat, ks[j]? ≠ some k) → Q none s
  yes : ∀ j : Nat, ks[j]? = some k → Q (some j) s
theorem eq_bool {x y : NestedKey} {a b : Value} {Q : Bool → Shared → Prop} (hu : A.units + 8 < cLine) (hx : NestedIs s.heap x a) (hy : NestedIs s.heap y b) (dx : x.depth ≤ 8) (h : Q (decide (x = y)) s) : wpAny (model prog w) A (PySem.eqBool a b) Q E s :=
  eqAt_key x y A s _ _ hx hy (by omega) _ _ _ _ (by rw [← NestedKey.decide_eq]; exact h)
theorem may_tell {stored : List Value} {Q : Bool → Shared → Prop} (hk : NestedIs s.heap k key) (dk : k.depth ≤ 8) (hst : ∀ v ∈ stored, ∃ k', NestedIs s.heap k' v ∧ k'.depth ≤ 8) (h : Q false s) : wpAny (model prog w) A (tableMayTell key stored) Q E s := by
  unfold tableMayTell
  split
  · exact wpAny_pure h
  · refine wpAny_bind (quiet_key k key 8 s hk dk A E _ ?_)
    simp only [Bool.not_true, Bool.false_eq_true, if_false]
    refine wpAny_bind ?_
    refine wpAny_forIn_list _ (fun rest r s' => s' = s ∧ r = (none, ()) ∧ ∀ v ∈ rest, ∃ k', NestedIs s.heap k' v ∧ k'.depth ≤ 8) _ ?_ ?_ _ _ ⟨rfl, rfl, hst⟩
    · rintro x rest r s' ⟨rfl, rfl, hr⟩
      obtain ⟨k', h1, h2⟩ := hr x List.mem_cons_self
      refine wpAny_bind (quiet_key k' x 8 _ h1 h2 A E _ ?_)
      simp only [Bool.not_true, Bool.false_eq_true, if_false]
      exact wpAny_pure ⟨rfl, rfl, fun v hv => hr v (List.mem_cons_of_mem _ hv)⟩
    · rintro r s' ⟨rfl, rfl, _⟩
      exact wpAny_pure h
abbrev plc (es : Array DictEntry) (hsh : Int) (i : Nat) : Bool := (es[i]?.map (·.hash)) == some hsh
theorem plc_of (X : Ents w s.heap es ks) {j : Nat} (hj : ks[j]? = some k) : plc es (k.hash w) j = true := by
  obtain ⟨e, h1, h2, _⟩ := X.at_ j k hj
  show ((es[j]?.map (·.hash)) == some (k.hash w)) = true
  rw [h1]
  simp [h2]
theorem walk_plain (hu : A.units + 8 < cLine) (ho : s.heap.get? d = some o) (hd : o.data = .dict es ep) (X : Ents w s.heap es ks) (hk : NestedIs s.heap k key) (dk : k.depth ≤ 8) (h : Told ks k Q s) :
    wpAny (model prog w) A (dictWalkPlain d key (k.hash w) es (placesWithHash es.size (fun i => es[i]?.map (·.hash)) (k.hash w))) Q E s := by
  unfold dictWalkPlain
  refine wpAny_bind ?_
  refine wpAny_forIn_list _
    (fun rest b s' => s' = s ∧ b = (none, ()) ∧ ∃ i, rest = (List.range' i (es.size - i)).filter (plc es (k.hash w)) ∧ i ≤ es.size ∧ ∀ j : Nat, j < i → ks[j]? ≠ some k) _ ?_ ?_ _ _
    ⟨rfl, rfl, 0, by rw [placesWithHash, List.range_eq_range', Nat.sub_zero], Nat.zero_le _, fun _ h => absurd h (Nat.not_lt_zero _)⟩
  · rintro x rest b s' ⟨rfl, rfl, i, hr, hi, hno⟩
    obtain ⟨hix, hxn, hpx, hskip, hrest⟩ := filter_range'_cons _ _ _ _ _ hr.symm
    have hlt : x < es.size := by omega
    obtain ⟨k', q1, q2, q3, q4⟩ := X.get hlt
    have hnox : ∀ j : Nat, j < x → ks[j]? ≠ some k := fun j hj e => by
      rcases Nat.lt_or_ge j i with h | h
      · exact hno j h e
      · have := hskip j h hj
        rw [plc_of X e] at this
        cases this
    have hnext : ¬ k' = k → ∃ i, rest = (List.range' i (es.size - i)).filter (plc es (k.hash w)) ∧ i ≤ es.size ∧ ∀ j : Nat, j < i → ks[j]? ≠ some k := fun hne =>
      ⟨x + 1, by rw [hrest]; congr 2; omega, hlt, fun j hj e => by
        rcases Nat.lt_or_ge j x with h | h
        · exact hnox j h e
        · have : j = x := by omega
          subst this
          rw [q1] at e
          exact hne (Option.some.inj e)⟩
    simp only [Array.getElem?_eq_getElem hlt]
    by_cases hh : (es[x].hash == k.hash w) = true
    · rw [if_pos hh]
      refine wpAny_bind (wpAny_dictEpoch ho hd (wpAny_bind (eq_bool hu q3 hk q4 (wpAny_bind (wpAny_dictEpoch ho hd ?_)))))
      show wpAny (model prog w) A (if (ep != ep) = true then _ else _) _ _ _
      rw [if_neg (by simp)]
      by_cases hkk : k' = k
      · rw [decide_eq_true hkk]
        subst hkk
        exact wpAny_bind (wpAny_rule (wpAny_pure (wpAny_pure (h.yes x q1))))
      · rw [decide_eq_false hkk]
        exact wpAny_bind (wpAny_rule (wpAny_pure ⟨rfl, rfl, hnext hkk⟩))
    · rw [if_neg hh]
      refine wpAny_pure ⟨rfl, rfl, hnext ?_⟩
      intro hkk
      rw [q2, hkk] at hh
      simp at hh
  · rintro b s' ⟨rfl, rfl, i, hr, hi, hno⟩
    refine wpAny_pure (h.no fun j e => ?_)
    rcases Nat.lt_or_ge j i with q | q
    · exact hno j q e
    · have hj : j < es.size := by rw [X.len]; exact (List.getElem?_eq_some_iff.mp e).1
      have := List.filter_eq_nil_iff.mp hr.symm j (List.mem_range'_1.mpr ⟨q, by omega⟩)
      rw [plc_of X e] at this
      exact this rfl
theorem wp_over (hu : A.units + 8 < cLine) (ho : s.heap.get? d = some o) (hd : o.data = .dict es ep) (X : Ents w s.heap es ks) (hk : NestedIs s.heap k key) (dk : k.depth ≤ 8) {stored : List Value} (h : Told ks k Q s) :
    wpAny (model prog w) A (lookOver d key (k.hash w) es false stored (placesWithHash es.size (fun i => es[i]?.map (·.hash)) (k.hash w))) Q E s := by
  unfold lookOver
  refine wpAny_bind ?_
  refine wpAny_forIn_list _
    (fun rest b s' => s' = s ∧ ∃ i hit, b = (none, hit) ∧ rest = (List.range' i (es.size - i)).filter (plc es (k.hash w)) ∧ i ≤ es.size ∧
      ((hit = none ∧ ∀ j : Nat, j < i → ks[j]? ≠ some k) ∨ ∃ j : Nat, hit = some j ∧ j < i ∧ ks[j]? = some k)) _ ?_ ?_ _ _
    ⟨rfl, 0, none, rfl, by rw [placesWithHash, List.range_eq_range', Nat.sub_zero], Nat.zero_le _, .inl ⟨rfl, fun _ h => absurd h (Nat.not_lt_zero _)⟩⟩
  · rintro x rest b s' ⟨rfl, i, hit, rfl, hr, hi, hH⟩
    obtain ⟨hix, hxn, hpx, hskip, hrest⟩ := filter_range'_cons _ _ _ _ _ hr.symm
    have hlt : x < es.size := by omega
    have hrest' : rest = (List.range' (x + 1) (es.size - (x + 1))).filter (plc es (k.hash w)) := by rw [hrest]; congr 2; omega
    obtain ⟨k', q1, q2, q3, q4⟩ := X.get hlt
    have hHx : (hit = none ∧ ∀ j : Nat, j < x → ks[j]? ≠ some k) ∨ ∃ j : Nat, hit = some j ∧ j < x ∧ ks[j]? = some k := by
      rcases hH with ⟨h0, hno⟩ | ⟨j, h1, hji, hj⟩
      · refine .inl ⟨h0, fun j hjx e => ?_⟩
        rcases Nat.lt_or_ge j i with h | h
        · exact hno j h e
        · have := hskip j h hjx
          rw [plc_of X e] at this
          cases this
      · exact .inr ⟨j, h1, by omega, hj⟩
    have hstay : ¬ k' = k → ((hit = none ∧ ∀ j : Nat, j < x + 1 → ks[j]? ≠ some k) ∨ ∃ j : Nat, hit = some j ∧ j < x + 1 ∧ ks[j]? = some k) := fun hne => by
      rcases hHx with ⟨h0, hno⟩ | ⟨j, h1, hjx, hj⟩
      · refine .inl ⟨h0, fun j hjx e => ?_⟩
        rcases Nat.lt_or_ge j x with h | h
        · exact hno j h e
        · have : j = x := by omega
          subst this
          rw [q1] at e
          exact hne (Option.some.inj e)
      · exact .inr ⟨j, h1, by omega, hj⟩
    rw [Array.getElem?_eq_getElem hlt]
    dsimp only
    by_cases hh : (es[x].hash == k.hash w) = true
    · rw [if_pos hh]
      refine wpAny_bind (wpAny_dictEpoch ho hd (wpAny_bind (eq_bool hu q3 hk q4 (wpAny_bind (wpAny_dictEpoch ho hd ?_)))))
      show wpAny _ _ (if (ep != ep) = true then _ else _) _ E _
      rw [if_neg (by simp)]
      by_cases hkk : k' = k
      · rw [decide_eq_true hkk]
        subst hkk
        rcases hHx with ⟨rfl, _⟩ | ⟨j, _, hjx, hj⟩
        · first | rw [if_pos rfl] | skip
          simp only [Option.isSome_none, Bool.false_eq_true, if_false]
          first | refine wpAny_bind (wpAny_pure ?_) | skip
          refine wpAny_bind (wpAny_rule ?_)
          split
          · exact wpAny_pure (wpAny_pure (h.yes x q1))
          · exact wpAny_pure ⟨rfl, x + 1, some x, rfl, hrest', hlt, .inr ⟨x, rfl, Nat.lt_succ_self x, q1⟩⟩
        · exact absurd (X.uniq hj q1) (by omega)
      · rw [decide_eq_false hkk]
        simp only [Bool.false_eq_true, if_false]
        refine wpAny_bind (wpAny_rule ?_)
        first | rw [if_neg (by simp)] | skip
        first
          | exact wpAny_pure ⟨rfl, x + 1, hit, rfl, hrest', hlt, hstay hkk⟩
          | exact wpAny_bind (wpAny_pure (wpAny_pure ⟨rfl, x + 1, hit, rfl, hrest', hlt, hstay hkk⟩))
    · rw [if_neg hh]
      refine wpAny_pure ⟨rfl, x + 1, hit, rfl, hrest', hlt, hstay ?_⟩
      intro hkk
      rw [q2, hkk] at hh
      simp at hh
  · rintro b s' ⟨rfl, i, hit, rfl, hr, hi, hH⟩
    rcases hH with ⟨rfl, hno⟩ | ⟨j, rfl, _, hj⟩
    · refine wpAny_pure (h.no fun j e => ?_)
      rcases Nat.lt_or_ge j i with q | q
      · exact hno j q e
      · have hj : j < es.size := by rw [X.len]; exact (List.getElem?_eq_some_iff.mp e).1
        have := List.filter_eq_nil_iff.mp hr.symm j (List.mem_range'_1.mpr ⟨q, by omega⟩)
        rw [plc_of X e] at this
        exact this rfl
    · exact wpAny_pure (h.yes j hj)
theorem mem_of (X : Ents w s.heap es ks) : ∀ v ∈ (placesWithHash es.size (fun i => es[i]?.map (·.hash)) (k.hash w)).filterMap (fun i => es[i]?.map (·.key)), ∃ k', NestedIs s.heap k' v ∧ k'.depth ≤ 8 := fun v hv => by
  obtain ⟨i, _, hi⟩ := List.mem_filterMap.mp hv
  cases hei : es[i]? with
  | none => rw [hei] at hi; cases hi
  | some e =>
    rw [hei] at hi
    obtain rfl : e.key = v := by simpa using hi
    have hlt := (Array.getElem?_eq_some_iff.mp hei).1
    obtain ⟨k', _, _, q3, q4⟩ := X.get hlt
    have ee : es[i] = e := (Array.getElem?_eq_some_iff.mp hei).2
    rw [ee] at q3
    exact ⟨k', q3, q4⟩
theorem rest_of (hu : A.units + 8 < cLine) (ho : s.heap.get? d = some o) (hd : o.data = .dict es ep) (X : Ents w s.heap es ks) (hk : NestedIs s.heap k key) (dk : k.depth ≤ 8) {stored : List Value} (hst : ∀ v ∈ stored, ∃ k', NestedIs s.heap k' v ∧ k'.depth ≤ 8) (h : Told ks k Q s) :
    wpAny (model prog w) A (do
      let tells ← if stored == [key] then pure false else tableMayTell key stored
      if tells && stored.length ≥ 2 then unsupported "dict.find:order-among-keys-of-one-hash"
      lookOver d key (k.hash w) es tells stored (placesWithHash es.size (fun i => es[i]?.map (·.hash)) (k.hash w))) Q E s := by
  by_cases hone : (stored == [key]) = true
  · rw [if_pos hone]
    refine wpAny_bind (wpAny_pure ?_)
    exact wp_over hu ho hd X hk dk h
  · rw [if_neg hone]
    refine wpAny_bind (may_tell hk dk hst ?_)
    exact wp_over hu ho hd X hk dk h
/-- the part of the search behind the short roads -/
def lookRest (d : Addr) (key : Value) (hs : Int) (es : Array DictEntry) : Sem (Option Nat) := do
  let tells ← if (placesWithHash es.size (fun i => es[i]?.map (·.hash)) hs).filterMap (fun i => es[i]?.map (·.key)) == [key] then pure false else tableMayTell key ((placesWithHash es.size (fun i => es[i]?.map (·.hash)) hs).filterMap (fun i => es[i]?.map (·.key)))
  if tells && ((placesWithHash es.size (fun i => es[i]?.map (·.hash)) hs).filterMap (fun i => es[i]?.map (·.key))).length ≥ 2 then unsupported "dict.find:order-among-keys-of-one-hash"
  lookOver d key hs es tells ((placesWithHash es.size (fun i => es[i]?.map (·.hash)) hs).filterMap (fun i => es[i]?.map (·.key))) (placesWithHash es.size (fun i => es[i]?.map (·.hash)) hs)
theorem find_ref {hs : Int} {a : Addr} (ho : s.heap.get? d = some o) (hd : o.data = .dict es ep) (hany : ¬ (es.any fun e => e.key == .ref a && e.hash != hs) = true) (h : wpAny (model prog w) A (lookRest d (.ref a) hs es) Q E s) :
    wpAny (model prog w) A (dictFind d (.ref a) hs) Q E s := by
  unfold dictFind
  try with_reducible refine wpAny_holding ?_
  refine wpAny_bind (wpAny_dictEntries ho hd ?_)
  dsimp only
  rw [if_neg (by simp [carriedByValue]), if_neg hany]
  exact h
theorem find_plain {hs : Int} {key : Value} (hr : ∀ a, key ≠ .ref a) (ht : ∀ x t, key ≠ .str x t) (ho : s.heap.get? d = some o) (hd : o.data = .dict es ep)
    (hp : wpAny (model prog w) A (dictWalkPlain d key hs es (placesWithHash es.size (fun i => es[i]?.map (·.hash)) hs)) Q E s) (h : wpAny (model prog w) A (lookRest d key hs es) Q E s) :
    wpAny (model prog w) A (dictFind d key hs) Q E s := by
  unfold dictFind
  try with_reducible refine wpAny_holding ?_
  refine wpAny_bind (wpAny_dictEntries ho hd ?_)
  by_cases hall : ((key :: (placesWithHash es.size (fun i => es[i]?.map (·.hash)) hs).filterMap (fun i => es[i]?.map (·.key))).all carriedByValue) = true
  · cases key with
    | ref a => exact absurd rfl (hr a)
    | str x t => exact absurd rfl (ht x t)
    | _ =>
      dsimp only
      rw [if_pos hall]
      exact hp
  · cases key with
    | ref a => exact absurd rfl (hr a)
    | str x t => exact absurd rfl (ht x t)
    | _ =>
      dsimp only
      rw [if_neg hall]
      exact h
theorem find_text {hs : Int} {y : Str} {t : Tok} (ho : s.heap.get? d = some o) (hd : o.data = .dict es ep) (hv : (es.all fun e => isExactStrKey e.key) = true → wpAny (model prog w) A (foundByValue d (.str y t) es y) Q E s)
    (hp : wpAny (model prog w) A (dictWalkPlain d (.str y t) hs es (placesWithHash es.size (fun i => es[i]?.map (·.hash)) hs)) Q E s) (h : wpAny (model prog w) A (lookRest d (.str y t) hs es) Q E s) :
    wpAny (model prog w) A (dictFind d (.str y t) hs) Q E s := by
  unfold dictFind
  try with_reducible refine wpAny_holding ?_
  refine wpAny_bind (wpAny_dictEntries ho hd ?_)
  dsimp only
  by_cases hx : (es.all fun e => isExactStrKey e.key) = true
  · rw [if_pos hx]
    exact hv hx
  · rw [if_neg hx]
    by_cases hall : ((.str y t :: (placesWithHash es.size (fun i => es[i]?.map (·.hash)) hs).filterMap (fun i => es[i]?.map (·.key))).all carriedByValue) = true
    · rw [if_pos hall]
      exact hp
    · rw [if_neg hall]
      exact h
theorem byVal {y : Str} {t : Tok} (hu : A.units + 8 < cLine) (ho : s.heap.get? d = some o) (hd : o.data = .dict es ep) (X : Ents w s.heap es ks) (hk : NestedIs s.heap (.text y) (.str y t)) (dk : (NestedKey.text y).depth ≤ 8) (h : Told ks (.text y) Q s) :
    wpAny (model prog w) A (foundByValue d (.str y t) es y) Q E s := by
  unfold foundByValue
  cases hf : es.findIdx? (fun e => e.key.isStr y) with
  | none =>
    refine wpAny_pure (h.no fun j e => ?_)
    obtain ⟨e', g1, g2, g3⟩ := X.at_ j _ e
    have := Array.findIdx?_eq_none_iff.mp hf e' (Array.mem_of_getElem? g1)
    generalize e'.key = kk at this g3
    cases g3
    simp [Value.isStr] at this
  | some i =>
    obtain ⟨hlt, hi, _⟩ := Array.findIdx?_eq_some_iff_getElem.mp hf
    obtain ⟨k', q1, q2, q3, q4⟩ := X.get hlt
    have hkk : k' = .text y := by
      have q3' := q3
      generalize es[i].key = kk at hi q3'
      cases q3' with
      | text z u => simp [Value.isStr] at hi; rw [hi]
      | _ => simp [Value.isStr] at hi
    subst hkk
    dsimp only
    rw [Array.getElem?_eq_getElem hlt]
    dsimp only
    refine wpAny_bind (wpAny_dictEpoch ho hd (wpAny_bind (eq_bool hu q3 hk q4 (wpAny_bind (wpAny_dictEpoch ho hd ?_)))))
    show wpAny (model prog w) A (if (ep != ep) = true then _ else _) _ _ _
    rw [if_neg (by simp), decide_eq_true rfl]
    exact wpAny_bind (wpAny_rule (wpAny_pure (h.yes i q1)))
theorem wp_find (hu : A.units + 8 < cLine) (ho : s.heap.get? d = some o) (hd : o.data = .dict es ep) (X : Ents w s.heap es ks) (hk : NestedIs s.heap k key) (dk : k.depth ≤ 8) (h : Told ks k Q s) :
    wpAny (model prog w) A (dictFind d key (k.hash w)) Q E s := by
  have hany : ¬ (es.any fun e => e.key == key && e.hash != k.hash w) = true := by
    rw [← Array.any_toList, List.any_eq_true]
    rintro ⟨e, hin, hc⟩
    obtain ⟨i, hlt, rfl⟩ := Array.mem_iff_getElem.mp (Array.mem_toList_iff.mp hin)
    obtain ⟨k', q1, q2, q3, q4⟩ := X.get hlt
    simp only [Bool.and_eq_true, beq_iff_eq, bne_iff_ne, ne_eq] at hc
    obtain ⟨c1, c2⟩ := hc
    rw [c1] at q3
    rw [NestedIs.inj k' k _ q3 hk] at q2
    exact c2 q2
  have hm := mem_of (k := k) X
  have hk0 := hk
  have hP : wpAny (model prog w) A (dictWalkPlain d key (k.hash w) es (placesWithHash es.size (fun i => es[i]?.map (·.hash)) (k.hash w))) Q E s := walk_plain hu ho hd X hk dk h
  have hR : wpAny (model prog w) A (lookRest d key (k.hash w) es) Q E s := rest_of hu ho hd X hk dk hm h
  cases hk with
  | tup h1 h2 h3 h4 => exact find_ref ho hd hany hR
  | text y t => exact find_text ho hd (fun _ => byVal hu ho hd X hk0 dk h) hP hR
  | _ => exact find_plain (fun _ h => by cases h) (fun _ _ h => by cases h) ho hd hP hR
end
end MK

namespace MK
open PySem PySem.Spec PyProof.Rows L2

/-! ### the value v is the key k -/
mutual
inductive NV (K : PySem.W.Frag) (H : Hp) : NestedKey → V → Prop
  | non : NV K H .none .non
  | bl (b : Bool) : NV K H (.num (if b = true then 1 else 0)) (.bl b)
  | int (i : Int) : NV K H (.num i) (.int i)
  | str (x : Str) : NV K H (.text x) (.str x)
  | tup {a : Addr} {vs : List V} {ks : List NestedKey} : SqT K H a vs → NVs K H ks vs → NV K H (.tup ks) (.ref a)
inductive NVs (K : PySem.W.Frag) (H : Hp) : List NestedKey → List V → Prop
  | nil : NVs K H [] []
  | cons {k : NestedKey} {v : V} {ks : List NestedKey} {vs : List V} : NV K H k v → NVs K H ks vs → NVs K H (k :: ks) (v :: vs)
end
section
variable {X : Cx} {pins : List (Addr × Obj)} {σ : L2.St} {H : Hp} {s : Shared}
mutual
theorem NV.is (I : Inv X pins σ H s) : ∀ {k : NestedKey} {v : V} {u : Value}, NV X.K H k v → RelV v u → NestedIs s.heap k u
  | _, _, _, .non, r => by cases r; exact .none
  | _, _, _, .bl b, r => by cases r; exact .bool rfl
  | _, _, _, .int i, r => by obtain ⟨t, rfl⟩ := r; exact .int i t
  | _, _, _, .str x, r => by obtain ⟨t, rfl⟩ := r; exact .text x t
  | _, _, _, .tup h1 h2, r => by
    cases r
    obtain ⟨its, q1, ⟨o, q2, q3, n, q4⟩, q5⟩ := I.tuple h1
    exact .tup q2 q3 q4 (NVs.is I h2 q1)
theorem NVs.is (I : Inv X pins σ H s) : ∀ {ks : List NestedKey} {vs : List V} {us : List Value}, NVs X.K H ks vs → Vals vs us → NestedAll s.heap ks us
  | _, _, _, .nil, r => by cases r; exact .nil
  | _, _, _, .cons h1 h2, r => by
    cases r with
    | cons r1 r2 => exact .cons (NV.is I h1 r1) (NVs.is I h2 r2)
end
end
section
variable {K : KR} {g : Gh} {H : Hp}
mutual
theorem RD.nv (e : Same g.G H) : ∀ {d : D} {v : V} {k : NestedKey}, RD K g d v → d.key = some k → NV K.K H k v
  | _, _, _, .non, q => by cases q; exact .non
  | _, _, _, .bl b, q => by cases q; exact .bl b
  | _, _, _, .int i, q => by cases q; exact .int i
  | _, _, _, .str x, q => by cases q; exact .str x
  | _, _, _, .tup (ds := ds) h1 h2, q => by
    unfold D.key at q
    cases e1 : D.keys ds with
    | none => rw [e1] at q; cases q
    | some ks =>
      rw [e1] at q
      cases q
      exact .tup (sameT e h1.sq) (RDs.nv e h2 e1)
  | _, _, _, .lst _ _, q => by cases q
  | _, _, _, .flst _ _, q => by cases q
  | _, _, _, .dct _ _ _, q => by cases q
  | _, _, _, .cell _ _, q => by cases q
  | _, _, _, .ref _, q => by cases q
  | _, _, _, .ty _, q => by cases q
theorem RDs.nv (e : Same g.G H) : ∀ {ds : List D} {vs : List V} {ks : List NestedKey}, RDs K g ds vs → D.keys ds = some ks → NVs K.K H ks vs
  | _, _, _, .nil, q => by cases q; exact .nil
  | _, _, _, .cons (d := d) (ds := ds) h1 h2, q => by
    unfold D.keys at q
    cases e1 : d.key with
    | none => simp only [e1] at q; cases q
    | some k =>
      cases e2 : D.keys ds with
      | none => simp only [e1, e2] at q; cases q
      | some ks =>
        simp only [e1, e2, Option.some.injEq] at q
        subst q
        exact .cons (RD.nv e h1 e1) (RDs.nv e h2 e2)
end
theorem RDk.nv (e : Same g.G H) : ∀ {kvs : List (D × D)} {es : List Ent}, RDk K g kvs es → ∀ x ∈ es, NV K.K H x.1 x.2.1
  | _, _, .nil, _, h => by cases h
  | _, _, .cons h1 h2 h3 h4, x, h => by
    rcases List.mem_cons.mp h with rfl | h
    · exact h2.nv e h1
    · exact h4.nv e x h
end
/-- at a stands the dict es, by values -/
structure DAt (K : PySem.W.Frag) (w : World) (H : Hp) (a : Addr) (es : List Ent) : Prop where
  rd : Rd H a (DctO w a es)
  ok : KeysOk a es
  nv : ∀ e ∈ es, NV K H e.1 e.2.1
def valE (es : List Ent) (k : NestedKey) : Option V := (es.find? fun e => decide (e.1 = k)).map (·.2.2)
theorem valE_no {k : NestedKey} : ∀ {es : List Ent}, (∀ j : Nat, (es.map (·.1))[j]? ≠ some k) → valE es k = none
  | [], _ => rfl
  | e :: es, h => by
    have h0 : ¬ e.1 = k := fun q => h 0 (by simp [q])
    have := valE_no (es := es) (k := k) fun j => by simpa using h (j + 1)
    unfold valE at this ⊢
    rw [List.find?_cons_of_neg (by simpa using h0)]
    exact this
theorem valE_yes {k : NestedKey} : ∀ {es : List Ent} {j : Nat} {e : Ent}, (es.map (·.1)).Nodup → es[j]? = some e → e.1 = k → valE es k = some e.2.2
  | [], j, e, _, h, _ => by simp at h
  | e0 :: es, j, e, nd, h, hk => by
    rw [List.map_cons, List.nodup_cons] at nd
    unfold valE
    cases j with
    | zero =>
      simp only [List.getElem?_cons_zero, Option.some.injEq] at h
      subst h
      rw [List.find?_cons_of_pos (by simpa using hk)]
      rfl
    | succ j =>
      simp only [List.getElem?_cons_succ] at h
      have hne : ¬ e0.1 = k := fun q => nd.1 (by rw [q, ← hk]; exact List.mem_map.mpr ⟨e, List.mem_of_getElem? h, rfl⟩)
      rw [List.find?_cons_of_neg (by simpa using hne)]
      exact valE_yes nd.2 h hk
theorem paired_get {α β : Type} {F : α → β → Prop} : ∀ {l₁ : List α} {l₂ : List β} {j : Nat} {x : α}, Paired F l₁ l₂ → l₁[j]? = some x → ∃ y, l₂[j]? = some y ∧ F x y
  | _, _, j, x, .nil, h => by simp at h
  | _, _, j, x, .cons a r, h => by
    cases j with
    | zero => simp only [List.getElem?_cons_zero, Option.some.injEq] at h; subst h; exact ⟨_, rfl, a⟩
    | succ j => simp only [List.getElem?_cons_succ] at h ⊢; exact paired_get r h
section
variable {X : Cx} {pins : List (Addr × Obj)} {σ : L2.St} {H : Hp} {s : Shared} {a : Addr} {es : List Ent}
/-- the dict's object and its entries in the heap -/
theorem DAt.raw (d : DAt X.K X.w H a es) (I : Inv X pins σ H s) : ∃ o ds ep, s.heap.get? a = some o ∧ o.ExactDict ∧ o.data = .dict ds ep ∧ Paired (EntryOk X.w) es ds.toList ∧ Ents X.w s.heap ds (es.map (·.1)) := by
  obtain ⟨⟨o, ds, ep, h1, h2, h3, h4⟩, _, _⟩ := d.rd.ok I.hok
  refine ⟨o, ds, ep, h1, h2, h3, h4, ?_, ?_, ?_, d.ok.nd⟩
  · have := Paired.length h4
    rw [List.length_map, this]
    simp
  · intro i k hk
    rw [List.getElem?_map] at hk
    obtain ⟨e, e1, rfl⟩ := Option.map_eq_some_iff.mp hk
    obtain ⟨y, y1, y2, y3, y4⟩ := paired_get h4 e1
    refine ⟨y, by simpa using y1, y2, ?_⟩
    exact (d.nv e (List.mem_of_getElem? e1)).is I y3
  · intro k hk
    obtain ⟨e, e1, rfl⟩ := List.mem_map.mp hk
    exact d.ok.dep e e1
end
section
variable {prog : Program} {w : World} {A : Around} {E : Value → Shared → Prop} {s : Shared} {d : Addr} {o : Obj} {ds : Array DictEntry} {ep : Nat} {ks : List NestedKey} {k : NestedKey} {key : Value}
theorem wp_get {Q : Option Value → Shared → Prop} (hu : A.units + 8 < cLine) (ho : s.heap.get? d = some o) (hd : o.data = .dict ds ep) (Y : Ents w s.heap ds ks) (hk : NestedIs s.heap k key) (dk : k.depth ≤ 8)
    (h : Told ks k (fun oi s' => Q (oi.bind fun i => (ds[i]?).map (·.val)) s') { s with toks := s.toks + k.draws }) : wpAny (model prog w) A (dictGet d key) Q E s := by
  unfold dictGet
  try with_reducible refine wpAny_holding ?_
  refine wpAny_bind (pyHash_key k key A s _ hk (by omega) ?_)
  refine wpAny_bind (wp_find (s := { s with toks := s.toks + k.draws }) hu ho hd Y hk dk (.mk (fun q => wpAny_pure (h.no q)) fun j q => ?_))
  exact wpAny_bind (wpAny_dictEntries (s := { s with toks := s.toks + k.draws }) ho hd (wpAny_pure (h.yes j q)))
end
end MK

namespace MK
open PySem PySem.Spec PyProof.Rows L2

section
variable {X : Cx} {pins : List (Addr × Obj)} {σ : L2.St} {H : Hp} {s : Shared} {a : Addr} {es : List Ent} {A : Around} {E : Value → Shared → Prop} {k : NestedKey} {y : V} {u : Value}
/-- the type's side -/
theorem exd_typeIs {o : Obj} (ho : s.heap.get? a = some o) (h : o.ExactDict) : s.TypeIs (.ref a) "dict" := ⟨o, ho, h.1⟩
/-- what dictGet tells, by values -/
theorem vget {Q : Option Value → Shared → Prop} (hu : A.units + 8 < cLine) (I : Inv X pins σ H s) (D : DAt X.K X.w H a es) (ky : NV X.K H k y) (ry : RelV y u) (dk : k.depth ≤ 8)
    (h : ∀ (s' : Shared) (r : Option Value), Inv X pins σ H s' → RelO (valE es k) r → Q r s') : wpAny (model X.prog X.w) A (dictGet a u) Q E s := by
  obtain ⟨o, ds, ep, h1, h2, h3, h4, h5⟩ := D.raw I
  refine wp_get hu h1 h3 h5 (ky.is I ry) dk (.mk (fun q => ?_) fun j q => ?_)
  · exact h _ _ (I.tok _) (by rw [valE_no q]; trivial)
  · rw [List.getElem?_map] at q
    obtain ⟨e, e1, e2⟩ := Option.map_eq_some_iff.mp q
    obtain ⟨z, z1, z2, z3, z4⟩ := paired_get h4 e1
    refine h _ _ (I.tok _) ?_
    rw [valE_yes D.ok.nd e1 e2]
    simp only [Option.bind_some, ← Array.getElem?_toList, z1, Option.map_some]
    exact z4
theorem vitem {v : V} {Q : Value → Shared → Prop} (hu : A.units + 9 < cLine) (I : Inv X pins σ H s) (D : DAt X.K X.w H a es) (ky : NV X.K H k y) (ry : RelV y u) (dk : k.depth ≤ 8) (hv : valE es k = some v)
    (h : ∀ (s' : Shared) (r : Value), Inv X pins σ H s' → RelV v r → Q r s') : wpAny (model X.prog X.w) A (getItem (.ref a) u) Q E s := by
  obtain ⟨o, ds, ep, h1, h2, h3, h4, h5⟩ := D.raw I
  have ht := exd_typeIs h1 h2
  unfold getItem
  try with_reducible refine wpAny_holding ?_
  refine wpAny_bind (wpAny_sequenceKey ht (by decide) ?_)
  refine wpAny_bind (wpAny_callSpecial?_slot (name := Str.ofString "__getitem__") ht slot_dict_getitem
    (wpAny_call_entry slot_dict_getitem ht entry_dict_getitem ?_ (args_dict_getitem _ _)))
  show wpAny _ _ (dictGet a u >>= _) _ _ s
  refine wpAny_bind (vget (A := A.in1) (by show A.units + 1 + 8 < cLine; omega) I D ky ry dk fun s' r I' rr => ?_)
  rw [hv] at rr
  cases r with
  | none => exact rr.elim
  | some r => exact wpAny_pure ⟨r, rfl, wpAny_pure (h s' r I' rr)⟩
theorem vcontains {Q : Bool → Shared → Prop} (hu : A.units + 9 < cLine) (I : Inv X pins σ H s) (D : DAt X.K X.w H a es) (ky : NV X.K H k y) (ry : RelV y u) (dk : k.depth ≤ 8)
    (h : ∀ (s' : Shared), Inv X pins σ H s' → Q (valE es k).isSome s') : wpAny (model X.prog X.w) A (contains (.ref a) u) Q E s := by
  obtain ⟨o, ds, ep, h1, h2, h3, h4, h5⟩ := D.raw I
  have ht := exd_typeIs h1 h2
  unfold contains
  try with_reducible refine wpAny_holding ?_
  refine wpAny_bind (wpAny_specialOf ht slot_dict_contains.lookup ?_)
  show wpAny _ _ (if (some (Value.builtin "dict.__contains__") == some Value.none) = true then _ else _) _ E s
  rw [if_neg (by rw [beq_builtin_none]; exact Bool.false_ne_true)]
  refine wpAny_bind (wpAny_callSpecialUnlessNone?_slot (name := Str.ofString "__contains__") ht slot_dict_contains
    (wpAny_call_entry slot_dict_contains ht entry_dict_contains ?_ (args_dict_contains _ _)))
  show wpAny _ _ (dictGet a u >>= _) _ _ s
  refine wpAny_bind (vget (A := A.in1) (by show A.units + 1 + 8 < cLine; omega) I D ky ry dk fun s' r I' rr => ?_)
  have hq := h s' I'
  cases hv : valE es k with
  | some v =>
    rw [hv] at rr hq
    cases r with
    | none => exact rr.elim
    | some r =>
      show wpAny _ _ (ret (.bool true)) _ _ _
      exact wpAny_pure ⟨_, rfl, wpAny_truthy_bool hq⟩
  | none =>
    rw [hv] at rr hq
    cases r with
    | some r => exact rr.elim
    | none =>
      show wpAny _ _ (Builtin.Dict.pendingKey? a u >>= _) _ _ _
      exact wpAny_bind (wpAny_pendingKey_other D.ok.sm (wpAny_pure ⟨_, rfl, wpAny_truthy_bool hq⟩))
end

/-! ### d[y], y in d, y not in d -/
def rDGet (K : PySem.W.Frag) (w : World) : R2 := fun x y H Q => ∃ a es k v, x = .ref a ∧ DAt K w H a es ∧ NV K H k y ∧ k.depth ≤ 8 ∧ valE es k = some v ∧ Q v H
def rDIn (neg : Bool) (K : PySem.W.Frag) (w : World) : R2 := fun y x H Q => ∃ a es k, x = .ref a ∧ DAt K w H a es ∧ NV K H k y ∧ k.depth ≤ 8 ∧ Q (.bl (if neg = true then !(valE es k).isSome else (valE es k).isSome)) H
section
variable {X : Cx} {W : WT} {U : XK} {K : KW}
theorem ix_dct {n : Nat} (hr : Room n X.A) : IxR X (rDGet X.K X.w) := by
  intro value slice pins s σ H x y v u Q I rx ry h hs
  obtain ⟨a, es, k, z, rfl, D, ky, dk, e, q⟩ := h
  cases rx
  obtain ⟨o, ds, ep, h1, h2, _⟩ := D.raw I
  exact tail_any (exd_typeIs h1 h2) slot_dict_getitem.lookup (vitem (by have := hr.un; omega) I D ky ry dk e fun s' r I' rr => ⟨z, H, I', rr, q⟩) hs
theorem or_dctIn {n : Nat} (hr : Room n X.A) : OpR X (compareOp .In) (rDIn false X.K X.w) := by
  intro pins s σ H y x u v Q I ry rx h
  obtain ⟨a, es, k, rfl, D, ky, dk, q⟩ := h
  cases rx
  show wpAny (model X.prog X.w) X.A (do return Value.bool (← contains (.ref a) u) : Sem Value) (EP X pins σ Q) X.xe s
  exact wpAny_bind (vcontains (by have := hr.un; omega) I D ky ry dk fun s' I' => wpAny_pure ⟨.bl (valE es k).isSome, H, I', rfl, q⟩)
theorem or_dctNot {n : Nat} (hr : Room n X.A) : OpR X (compareOp .NotIn) (rDIn true X.K X.w) := by
  intro pins s σ H y x u v Q I ry rx h
  obtain ⟨a, es, k, rfl, D, ky, dk, q⟩ := h
  cases rx
  show wpAny (model X.prog X.w) X.A (do return Value.bool (!(← contains (.ref a) u)) : Sem Value) (EP X pins σ Q) X.xe s
  exact wpAny_bind (vcontains (by have := hr.un; omega) I D ky ry dk fun s' I' => wpAny_pure ⟨.bl (!(valE es k).isSome), H, I', rfl, q⟩)
/-- the dict that d stands for -/
def D.asD (S : Store) : D → Option (List (D × D))
  | .dct kvs => some kvs
  | .cell k => match S[k]? with
    | some (.dct kvs) => some kvs
    | _ => none
  | _ => none
/-- the value at the key -/
def lookK (kvs : List (D × D)) (k : NestedKey) : Option D := (kvs.find? fun p => decide (p.1.key = some k)).map (·.2)
theorem RDk.look {g : Gh} {k : NestedKey} : ∀ {kvs : List (D × D)} {es : List Ent}, RDk K.toKR g kvs es → match lookK kvs k, valE es k with
    | some d, some v => RD K.toKR g d v
    | none, none => True
    | _, _ => False
  | _, _, .nil => trivial
  | _, _, .cons (kd := kd) (vd := vd) (k := k0) (kv := kv) (vv := vv) (kvs := kvs) (es := es) h1 h2 h3 h4 => by
    have := RDk.look (k := k) h4
    unfold lookK valE at this ⊢
    by_cases e : k0 = k
    · rw [List.find?_cons_of_pos (by rw [h1]; simp [e]), List.find?_cons_of_pos (by simpa using e)]
      exact h3
    · rw [List.find?_cons_of_neg (by rw [h1]; simpa using e), List.find?_cons_of_neg (by simpa using e)]
      exact this
theorem RD.asD {g : Gh} {S : Store} {H : Hp} (R : Rep K g S H) {d : D} {v : V} {kvs : List (D × D)} (r : RD K g d v) (e : d.asD S = some kvs) : ∃ a es, v = .ref a ∧ DAt K.K K.w H a es ∧ RDk K g kvs es := by
  cases r with
  | dct h1 h2 h3 =>
    cases e
    exact ⟨_, _, rfl, ⟨.inl (R.sub _ _ h1), h2, h3.nv R.sub⟩, h3⟩
  | cell h1 h2 =>
    rename_i k a
    unfold D.asD at e
    simp only at e
    split at e
    · rename_i ds q
      cases e
      obtain ⟨_, es, h3, h4, h5⟩ := R.dct q
      rw [h2] at h3 h4
      exact ⟨_, _, rfl, ⟨.inl h3, h4, h5.nv R.sub⟩, h5⟩
    · cases e
  | _ => cases e
/-- d[y], a dict -/
def ixK (x y : D) (S : Store) : Out D := match x.asD S with
  | some kvs => match y.key with
    | some k => if k.depth ≤ 8 then (match lookK kvs k with
      | some v => .ok v S
      | none => .no) else .no
    | none => .no
  | none => .no
theorem o_dget : Op2 K (rDGet K.K K.w) ixK := by
  intro W g S H dx dy x y Q R rx ry p
  unfold ixK at p
  cases e1 : dx.asD S with
  | none => simp only [e1] at p; exact p.elim
  | some kvs =>
    cases e2 : dy.key with
    | none => simp only [e1, e2] at p; exact p.elim
    | some k =>
      simp only [e1, e2] at p
      by_cases dk : k.depth ≤ 8
      · rw [if_pos dk] at p
        obtain ⟨a, es, rfl, D, rk⟩ := rx.asD R e1
        have := rk.look (k := k)
        cases e3 : lookK kvs k with
        | none => rw [e3] at p; exact p.elim
        | some d =>
          rw [e3] at p this
          cases e4 : valE es k with
          | none => rw [e4] at this; exact this.elim
          | some v =>
            rw [e4] at this
            exact ⟨a, es, k, v, rfl, D, ry.nv R.sub e2, dk, e4, pst.here p R _ this⟩
      · rw [if_neg dk] at p; exact p.elim
def inK (neg : Bool) (y x : D) (S : Store) : Out D := match x.asD S with
  | some kvs => match y.key with
    | some k => if k.depth ≤ 8 then .ok (.bl (if neg = true then !(lookK kvs k).isSome else (lookK kvs k).isSome)) S else .no
    | none => .no
  | none => .no
theorem o_din {neg : Bool} : Op2 K (rDIn neg K.K K.w) (inK neg) := by
  intro W g S H dy dx y x Q R ry rx p
  unfold inK at p
  cases e1 : dx.asD S with
  | none => simp only [e1] at p; exact p.elim
  | some kvs =>
    cases e2 : dy.key with
    | none => simp only [e1, e2] at p; exact p.elim
    | some k =>
      simp only [e1, e2] at p
      by_cases dk : k.depth ≤ 8
      · rw [if_pos dk] at p
        obtain ⟨a, es, rfl, D, rk⟩ := rx.asD R e1
        have := rk.look (k := k)
        have hs : (lookK kvs k).isSome = (valE es k).isSome := by
          cases e3 : lookK kvs k <;> cases e4 : valE es k <;> rw [e3, e4] at this <;> first | rfl | exact this.elim
        rw [hs] at p
        exact ⟨a, es, k, rfl, D, ry.nv R.sub e2, dk, pst.here p R _ (.bl _)⟩
      · rw [if_neg dk] at p; exact p.elim
end

/-! ### d[y] = v -/
def putE (es : List Ent) (k : NestedKey) (kv vv : V) : List Ent := if (valE es k).isSome = true then es.map (fun e => if e.1 = k then (e.1, e.2.1, vv) else e) else es ++ [(k, kv, vv)]
def putK (kvs : List (D × D)) (k : NestedKey) (kd vd : D) : List (D × D) := if (lookK kvs k).isSome = true then kvs.map (fun p => if p.1.key = some k then (p.1, vd) else p) else kvs ++ [(kd, vd)]
theorem map_same {k : NestedKey} {vv : V} : ∀ {es : List Ent}, k ∉ es.map (·.1) → es.map (fun e => if e.1 = k then (e.1, e.2.1, vv) else e) = es
  | [], _ => rfl
  | e :: es, h => by
    rw [List.map_cons, List.mem_cons, not_or] at h
    rw [List.map_cons, if_neg (fun q => h.1 q.symm), map_same h.2]
theorem map_keys {k : NestedKey} {vv : V} : ∀ es : List Ent, (es.map (fun e => if e.1 = k then (e.1, e.2.1, vv) else e)).map (·.1) = es.map (·.1)
  | [] => rfl
  | e :: es => by
    rw [List.map_cons, List.map_cons, List.map_cons, map_keys es]
    by_cases q : e.1 = k
    · rw [if_pos q]
    · rw [if_neg q]
theorem mem_of_valE {k : NestedKey} : ∀ {es : List Ent}, valE es k = none → k ∉ es.map (·.1)
  | [], _ => by simp
  | e :: es, h => by
    unfold valE at h
    by_cases q : e.1 = k
    · rw [List.find?_cons_of_pos (by simpa using q)] at h; cases h
    · rw [List.find?_cons_of_neg (by simpa using q)] at h
      rw [List.map_cons, List.mem_cons, not_or]
      exact ⟨fun z => q z.symm, mem_of_valE h⟩
theorem putE_length (es : List Ent) (k : NestedKey) (kv vv : V) : (putE es k kv vv).length ≤ es.length + 1 := by
  unfold putE
  split
  · rw [List.length_map]; omega
  · rw [List.length_append]; exact Nat.le_refl _
theorem KeysOk.put {a : Addr} {es : List Ent} {k : NestedKey} {kv vv : V} (h : KeysOk a es) (dk : k.depth ≤ 8) (hl : es.length < sizeLine) : KeysOk a (putE es k kv vv) := by
  refine ⟨?_, ?_, ?_, h.sm⟩
  · unfold putE
    split
    · rw [map_keys]; exact h.nd
    · rename_i q
      have hn : valE es k = none := by cases e : valE es k with
        | none => rfl
        | some _ => rw [e] at q; exact absurd rfl q
      rw [List.map_append, List.nodup_append]
      refine ⟨h.nd, by simp, fun x hx y hy => ?_⟩
      simp only [List.map_cons, List.map_nil, List.mem_singleton] at hy
      subst hy
      exact fun e => mem_of_valE hn (e ▸ hx)
  · intro e he
    unfold putE at he
    split at he
    · obtain ⟨e', h1, rfl⟩ := List.mem_map.mp he
      split
      · exact h.dep e' h1
      · exact h.dep e' h1
    · rcases List.mem_append.mp he with he | he
      · exact h.dep e he
      · simp only [List.mem_singleton] at he
        subst he
        exact dk
  · have := putE_length es k kv vv
    omega
theorem paired_put {w : World} {k : NestedKey} {vv : V} {u : Value} (ru : RelV vv u) : ∀ {es : List Ent} {ds : List DictEntry} {j : Nat} {e : Ent}, Paired (EntryOk w) es ds → (es.map (·.1)).Nodup → es[j]? = some e → e.1 = k →
    Paired (EntryOk w) (es.map (fun e => if e.1 = k then (e.1, e.2.1, vv) else e)) (ds.modify j fun x => { x with val := u })
  | _, _, j, e, .nil, _, h, _ => by simp at h
  | e0 :: es, d0 :: ds, j, e, .cons h1 h2, nd, h, hk => by
    rw [List.map_cons, List.nodup_cons] at nd
    cases j with
    | zero =>
      simp only [List.getElem?_cons_zero, Option.some.injEq] at h
      subst h
      rw [List.map_cons, if_pos hk, map_same (by rw [← hk]; exact nd.1)]
      exact .cons ⟨h1.1, h1.2.1, ru⟩ h2
    | succ j =>
      simp only [List.getElem?_cons_succ] at h
      have hne : ¬ e0.1 = k := fun q => nd.1 (by rw [q, ← hk]; exact List.mem_map.mpr ⟨e, List.mem_of_getElem? h, rfl⟩)
      rw [List.map_cons, if_neg hne]
      exact .cons h1 (paired_put ru h2 nd.2 h hk)
theorem paired_snoc {α β : Type} {F : α → β → Prop} {a : α} {b : β} : ∀ {l₁ : List α} {l₂ : List β}, Paired F l₁ l₂ → F a b → Paired F (l₁ ++ [a]) (l₂ ++ [b])
  | _, _, .nil, h => .cons h .nil
  | _, _, .cons h1 t, h => .cons h1 (paired_snoc t h)
section
variable {X : Cx} {pins : List (Addr × Obj)} {σ : L2.St} {H : Hp} {s : Shared} {a : Addr} {es : List Ent} {A : Around} {E : Value → Shared → Prop} {k : NestedKey} {y v : V} {u r : Value}
theorem dct_ok {P : Program} {w : World} {H : Hp} {h : Heap} {a : Addr} {es : List Ent} (z : DctP w a es h) : ObjOk P w H h a (DctO w a es) :=
  ⟨z, let ⟨o, _, _, e, _⟩ := z; ⟨o, e⟩, fun h1 h2 q k => let ⟨o, ds, ep, e, r⟩ := q; ⟨o, ds, ep, k o e, r⟩⟩
theorem vset {Q : Unit → Shared → Prop} (hu : A.units + 8 < cLine) (I : Inv X pins σ H s) (eH : H a = some (DctO X.w a es)) (D : DAt X.K X.w H a es) (ky : NV X.K H k y) (ry : RelV y u) (rv : RelV v r) (dk : k.depth ≤ 8)
    (h : ∀ (s' : Shared), Inv X pins σ (upd H a (DctO X.w a (putE es k y v))) s' → Q () s') : wpAny (model X.prog X.w) A (dictSet a u r) Q E s := by
  obtain ⟨o, ds, ep, h1, h2, h3, h4, h5⟩ := D.raw I
  have hk := ky.is I ry
  have hsz : ds.size = es.length := by rw [h5.len, List.length_map]
  have hz := D.ok.len
  unfold dictSet
  try with_reducible refine wpAny_holding ?_
  refine wpAny_bind (pyHash_key k u A s _ hk (by omega) ?_)
  unfold dictSetHashed
  try with_reducible refine wpAny_holding ?_
  refine wpAny_bind (wp_find (s := { s with toks := s.toks + k.draws }) hu h1 h3 h5 hk dk (.mk (fun q => ?_) fun j q => ?_))
  · have hn := valE_no q
    have he : putE es k y v = es ++ [(k, y, v)] := by unfold putE; rw [hn]; rfl
    refine wpAny_bind (wpAny_rule (wpAny_updateDictKeys (hz := by omega) (s := { s with toks := s.toks + k.draws }) h1 h3 (h _ ?_)))
    refine I.write (x := a) (e := a) (by rw [eH]; exact True.intro) (.inl rfl) (fun b q hb z => ((Heap.SameBut.update ..).2 b hb).trans z) ⟨_, Heap.get?_update_self _ h1 (Obj.isFreed_of_dict (Obj.data_mapDictKeys h3 _))⟩ (dct_ok ⟨_, _, ep + 1, Heap.get?_update_self _ h1 (Obj.isFreed_of_dict (Obj.data_mapDictKeys h3 _)), h2.mapDictKeys _, Obj.data_mapDictKeys h3 _, ?_⟩)
    rw [he, Array.toList_push]
    exact paired_snoc h4 ⟨rfl, ry, rv⟩
  · rw [List.getElem?_map] at q
    obtain ⟨e, e1, e2⟩ := Option.map_eq_some_iff.mp q
    have hy := valE_yes D.ok.nd e1 e2
    have he : putE es k y v = es.map (fun e => if e.1 = k then (e.1, e.2.1, v) else e) := by unfold putE; rw [hy]; rfl
    refine wpAny_bind (wpAny_rule (wpAny_bind (wpAny_updateDict (s := { s with toks := s.toks + k.draws }) h1 h3 (wpAny_point (h _ ?_)))))
    refine I.write (x := a) (e := a) (by rw [eH]; exact True.intro) (.inl rfl) (fun b q hb z => ((Heap.SameBut.update ..).2 b hb).trans z) ⟨_, Heap.get?_update_self _ h1 (Obj.isFreed_of_dict (Obj.data_mapDict h3 _))⟩ (dct_ok ⟨_, _, ep, Heap.get?_update_self _ h1 (Obj.isFreed_of_dict (Obj.data_mapDict h3 _)), h2.mapDict _, Obj.data_mapDict h3 _, ?_⟩)
    rw [he, Array.toList_modify]
    exact paired_put rv h4 D.ok.nd e1 e2
theorem vsetItem {Q : Unit → Shared → Prop} (hu : A.units + 9 < cLine) (I : Inv X pins σ H s) (eH : H a = some (DctO X.w a es)) (D : DAt X.K X.w H a es) (ky : NV X.K H k y) (ry : RelV y u) (rv : RelV v r) (dk : k.depth ≤ 8)
    (h : ∀ (s' : Shared), Inv X pins σ (upd H a (DctO X.w a (putE es k y v))) s' → Q () s') : wpAny (model X.prog X.w) A (setItem (.ref a) u r) Q E s := by
  obtain ⟨o, ds, ep, h1, h2, h3, h4, h5⟩ := D.raw I
  have ht := exd_typeIs h1 h2
  unfold setItem
  try with_reducible refine wpAny_holding ?_
  refine wpAny_bind (wpAny_sequenceKey ht (by decide) ?_)
  refine wpAny_bind (wpAny_callSpecial?_slot (name := Str.ofString "__setitem__") ht slot_dict_setitem
    (wpAny_call_entry slot_dict_setitem ht entry_dict_setitem ?_ (args_dict_setitem _ _ _)))
  show wpAny _ _ (Builtin.Dict.notOrdered "__setitem__" ⟨[.ref a, u, r], []⟩ >>= _) _ _ s
  refine wpAny_bind (wpAny_notOrdered_dict ht ?_)
  show wpAny _ _ (dictSet a u r >>= _) _ _ s
  exact wpAny_bind (vset (A := A.in1) (by show A.units + 1 + 8 < cLine; omega) I eH D ky ry rv dk fun s' I' => wpAny_pure ⟨.none, rfl, wpAny_pure (h s' I')⟩)
end
def rDPut (K : PySem.W.Frag) (w : World) : TSet := fun x y v H Q => ∃ a es k, x = .ref a ∧ H a = some (DctO w a es) ∧ DAt K w H a es ∧ NV K H k y ∧ k.depth ≤ 8 ∧ Q (upd H a (DctO w a (putE es k y v)))
section
variable {X : Cx} {W : WT} {U : XK} {K : KW}
theorem set_dct {n : Nat} (hr : Room n X.A) : PSet X (rDPut X.K X.w) := by
  intro pins s σ H x y v ov iv u Q I rx ry rv h
  obtain ⟨a, es, k, rfl, eH, D, ky, dk, q⟩ := h
  cases rx
  exact vsetItem (by have := hr.un; omega) I eH D ky ry rv dk fun s' I' => ⟨_, I', q⟩
theorem RDk.repl {g : Gh} {k : NestedKey} {vd : D} {vv : V} (rv : RD K.toKR g vd vv) : ∀ {kvs : List (D × D)} {es : List Ent}, RDk K.toKR g kvs es → RDk K.toKR g (kvs.map (fun p => if p.1.key = some k then (p.1, vd) else p)) (es.map (fun e => if e.1 = k then (e.1, e.2.1, vv) else e))
  | _, _, .nil => .nil
  | _, _, .cons (k := k0) h1 h2 h3 h4 => by
    rw [List.map_cons, List.map_cons]
    by_cases e : k0 = k
    · rw [if_pos (by rw [h1, e]), if_pos e]
      exact .cons h1 h2 rv (h4.repl rv)
    · rw [if_neg (by rw [h1]; simpa using e), if_neg e]
      exact .cons h1 h2 h3 (h4.repl rv)
theorem RDk.put {g : Gh} {k : NestedKey} {kd vd : D} {kv vv : V} (rk : RD K.toKR g kd kv) (rv : RD K.toKR g vd vv) (hk : kd.key = some k) {kvs : List (D × D)} {es : List Ent} (r : RDk K.toKR g kvs es) : RDk K.toKR g (putK kvs k kd vd) (putE es k kv vv) := by
  have hl := r.look (k := k)
  have hs : (lookK kvs k).isSome = (valE es k).isSome := by
    cases e3 : lookK kvs k <;> cases e4 : valE es k <;> rw [e3, e4] at hl <;> first | rfl | exact hl.elim
  unfold putK putE
  rw [hs]
  split
  · exact r.repl rv
  · exact r.append (.cons hk rk rv .nil)
/-- d[y] = v -/
def setK : B3 := fun x y v S => match x with
  | .cell c => match S[c]? with
    | some (.dct kvs) => match y.key with
      | some k => if k.depth ≤ 8 ∧ kvs.length < line then .ok () (S.set c (.dct (putK kvs k y v))) else .no
      | none => .no
    | _ => .no
  | _ => .no
theorem o_setK : Set3 K (rDPut K.K K.w) setK := by
  intro W g S H d1 d2 d3 o i v Q R r1 r2 r3 p
  cases r1 with
  | cell h1 h2 =>
    rename_i c a
    unfold setK at p
    simp only at p
    cases e : S[c]? with
    | none => simp only [e] at p; exact p.elim
    | some cl =>
      cases cl with
      | dead => simp only [e] at p; exact p.elim
      | lst _ => simp only [e] at p; exact p.elim
      | dct kvs =>
        cases e2 : d2.key with
        | none => simp only [e, e2] at p; exact p.elim
        | some k =>
          simp only [e, e2] at p
          by_cases hc : k.depth ≤ 8 ∧ kvs.length < line
          · rw [if_pos hc] at p
            obtain ⟨_, es, h3, h4, h5⟩ := R.dct e
            have hl : es.length < sizeLine := by rw [h5.length, ← line_eq]; exact hc.2
            have R' := R.storeC (k := c) (c := .dct (putK kvs k d2 d3)) (o := DctO K.w (g.m c) (putE es k i v)) (by rw [e]; trivial) ⟨_, rfl, h4.put hc.1 hl, h5.put r2 r3 e2⟩
            rw [h2] at h3 h4 R'
            exact ⟨a, es, k, rfl, h3, ⟨.inl h3, h4, h5.nv R.sub⟩, r2.nv R.sub e2, hc.1, p g _ (.refl g) R'⟩
          · rw [if_neg hc] at p; exact p.elim
  | _ => exact p.elim
/-! ### {} -/
def tDNew (w : World) : TE := fun _ H Q => ∀ p, H p = none → (p == sysModules) = false → Q (.ref p) (upd H p (DctO w p []))
theorem pe_dnew {pos : Pos} : PE X (.Dict [] [] pos) (tDNew X.w) := ⟨fun pins s σ H Q I h =>
  wpAny_Dict_empty ⟨.ref s.heap.objs.size, _, I.laid (a := s.heap.objs.size) (o := DctO X.w s.heap.objs.size []) (t' := s.toks) (fun _ _ q => Heap.get?_push_of_some _ q) (Nat.le_refl _)
    (dct_ok ⟨_, #[], 0, Heap.get?_push_size _ rfl, ⟨rfl, rfl, rfl⟩, rfl, .nil⟩), rfl, h _ (I.hok.fresh (Nat.le_refl _)) (beq_eq_false_iff_ne.mpr (Ne.symm (Nat.ne_of_lt I.big)))⟩⟩
def fDNew : FE := fun _ S => .ok (.cell S.length) (S ++ [.dct []])
theorem me_dnew {pos : Pos} : ME X W (.Dict [] [] pos) fDNew := PE.imp pe_dnew fun σ H Q h => by
  obtain ⟨g, S, ρ, R, rs, p⟩ := h
  intro a ha hs
  have R' := R.cellC (p := a) (c := .dct []) (o := DctO X.w a []) ha ⟨[], rfl, ⟨List.nodup_nil, (fun _ h => by cases h), Nat.zero_le _, hs⟩, .nil⟩
  exact p _ _ (Gh.cell_ext) R' _ (.cell (by rw [R.len]; exact Nat.lt_succ_self _) (if_pos R.len))
end
end MK

namespace MK
open PySem PySem.Spec PySem.Calls PyProof.Rows L2

/-! ### sorted(x), list(x) of what is walked -/
section
variable {X : Cx} {pins : List (Addr × Obj)} {σ : L2.St} {H : Hp} {s : Shared} {T : String} {r d : Addr} {n : Nat} {P : Nat → Value → Prop} {OK : Heap → Prop} {xs : List V} {ps : List PyData} {Q : VK}
theorem sort_src {k : Nat} (hr : Room k X.A) (hc : X.calm = true) (K : PySem.W.KdlSrc X.prog X.w T r d n P OK) (I : Inv X pins σ H s) (hok : OK s.heap) (hn : n ≤ sizeLine) (hd : DpAll X.K H xs ps) (hs : srtB ps = true)
    (hP : ∀ acc : Array Value, ItemsOf P acc n → Vals xs acc.toList)
    (q : ∀ p, H p = none → Q (.ref p) (upd H p (.lst (((xs.zip ps).mergeSort (PySem.W.dataLe false Prod.snd)).map Prod.fst)))) :
    wpAny (model X.prog X.w) X.A (call (.builtin "sorted") [.ref r]) (EP X pins σ Q) X.xe s := by
  obtain ⟨hal, hsr, hdep⟩ := srtB_of hs
  have hh : X.A.handled = none := I.ok.hd hc
  refine call_function_entry kind_sorted plain_sorted entry_sorted (args_sorted1 _) ?_
  unfold Builtin.«sorted»
  refine wpAny_bind (m := checkCount "sorted" 1 1 _) (wpAny_pure ?_)
  refine wpAny_bind (PySem.W.kdu_collect (A := X.A.in1) K hh hok hn fun h' tk acc hk hacc => ?_)
  have hl : acc.toList.length = n := by rw [Array.length_toList]; exact hacc.1
  have rv := hP acc hacc
  refine wpAny_bind (wpAny_newList ?_ (by rw [hl]; exact hn))
  have hob : (h'.push { cls := .type "list", data := .seq acc.toList.toArray }).get? h'.objs.size = some (seqObj "list" acc.toList.toArray 0) := Heap.get?_push_size _ rfl
  generalize hh2 : h'.push { cls := .type "list", data := .seq acc.toList.toArray } = h2 at hob ⊢
  have k2 : ∀ b o, h'.get? b = some o → h2.get? b = some o := fun b o e => by rw [← hh2]; exact Heap.get?_push_of_some _ e
  have ne0 : ∀ b o, h'.get? b = some o → b ≠ h'.objs.size := fun b o e => Nat.ne_of_lt (Heap.lt_size e)
  have hold : ∀ b o, s.heap.get? b = some o → (PySem.W.sortingHeap h2 h'.objs.size acc.toList).get? b = some o := fun b o e => PySem.W.sortingHeap_old (ne0 b o (hk b o e)) (k2 b o (hk b o e))
  have E := each_dp I hold hd rv
  have S : PySem.W.SortsAt X.prog X.w X.A.in1.in1 { s with heap := PySem.W.sortingHeap h2 h'.objs.size acc.toList, toks := tk } (PySem.W.dataKind (PySem.W.sortingHeap h2 h'.objs.size acc.toList) ps) acc.toList :=
    PySem.W.SortsAt.data (s := { s with heap := PySem.W.sortingHeap h2 h'.objs.size acc.toList, toks := tk }) E hal hsr fun d hm => by
      have h1 := hr.un
      have h2 := hdep d hm
      show X.A.units + 1 + 1 + d.depth < _
      omega
  have out := PySem.W.sortVals_each (κ := PySem.W.dataKind (PySem.W.sortingHeap h2 h'.objs.size acc.toList) ps) (rev := false) (fun b : V × PyData => PySem.W.keyToks b.2) (each_zip hd rv) (each_key hal (fun p hp => hp) (dpAll_length hd) E)
  have rv2 := each_vals out
  have I1 : Inv X pins σ H { s with heap := h', toks := tk } := I.kept hk
  obtain ⟨e2, he2⟩ := PyProof.Rows.sortedHeap_at (vs := acc.toList) (out := (PySem.W.sortVals (PySem.W.dataKind (PySem.W.sortingHeap h2 h'.objs.size acc.toList) ps) false acc.toList acc.toList).toArray) hob
  have fin : EP X pins σ Q (.ref h'.objs.size) { s with heap := PyProof.Rows.sortedHeap h2 h'.objs.size acc.toList (PySem.W.sortVals (PySem.W.dataKind (PySem.W.sortingHeap h2 h'.objs.size acc.toList) ps) false acc.toList acc.toList).toArray, toks := tk } := by
    refine ⟨.ref h'.objs.size, upd H h'.objs.size (.lst (((xs.zip ps).mergeSort (PySem.W.dataLe false Prod.snd)).map Prod.fst)), I1.laid (t' := tk) (fun b o e => (PyProof.Rows.sortedHeap_old (ne0 b o e) (Heap.lt_size (k2 b o e))).trans (k2 b o e)) (Nat.le_refl _) ⟨?_, _, e2, rv2, he2⟩, rfl, q _ (I1.hok.fresh (Nat.le_refl _))⟩
    rw [List.length_map, List.length_mergeSort, List.length_zip, dpAll_length hd, Nat.min_self, ← dpAll_length hd]
    have := rv.length
    omega
  have hg : wpAny (model X.prog X.w) X.A.in1 (call (.builtin "list.sort") [.ref h'.objs.size]) (fun _ s' => EP X pins σ Q (.ref h'.objs.size) s') X.xe { s with heap := h2, toks := tk } :=
    wpAny_call_entry PyProof.Rows.slot_list_sort ⟨_, hob, rfl⟩ PyProof.Rows.entry_list_sort (PySem.W.list_sort_vals (A := X.A.in1.in1) (s := { s with heap := h2, toks := tk }) hob S (by rw [hl]; exact hn) ⟨.none, rfl, fin⟩) (PyProof.Rows.args_list_sort _)
  refine wpAny_bind (wpAny_holding (wpAny_mono hg (fun _ s' x => ?_) fun _ _ e => e))
  exact wpAny_pure ⟨_, rfl, x⟩
theorem list_src (hc : X.calm = true) (K : PySem.W.KdlSrc X.prog X.w T r d n P OK) (I : Inv X pins σ H s) (hok : OK s.heap) (hn : n ≤ sizeLine)
    (hP : ∀ acc : Array Value, ItemsOf P acc n → Vals xs acc.toList) (q : ∀ p, H p = none → Q (.ref p) (upd H p (.lst xs))) :
    wpAny (model X.prog X.w) X.A (call (.type "list") [.ref r]) (EP X pins σ Q) X.xe s := by
  have hh : X.A.handled = none := I.ok.hd hc
  refine PySem.W.kdl_call K hh hok hn fun h' tk acc c' hk hD hacc => ?_
  have rv := hP acc hacc
  refine ⟨.ref s.heap.objs.size, upd H s.heap.objs.size (.lst xs), I.laid (t' := tk) hk (Nat.le_refl _) ⟨?_, acc.toList, c', rv, by rw [Array.toArray_toList]; exact hD⟩, rfl, q _ (I.hok.fresh (Nat.le_refl _))⟩
  have := rv.length
  have h2 := hacc.1
  have h3 : acc.toList.length = acc.size := Array.length_toList
  show xs.length ≤ sizeLine
  rw [h3, h2] at this
  first | (rw [← this]; exact hn) | (rw [this]; exact hn)
end
/-- the keys by values, the values -/
theorem keys_vals {w : World} : ∀ {es : List Ent} {ds : List DictEntry}, Paired (EntryOk w) es ds → Vals (es.map (·.2.1)) (ds.map (·.key))
  | _, _, .nil => .nil
  | _, _, .cons h t => .cons h.2.1 (keys_vals t)
theorem vals_vals {w : World} : ∀ {es : List Ent} {ds : List DictEntry}, Paired (EntryOk w) es ds → Vals (es.map (·.2.2)) (ds.map (·.val))
  | _, _, .nil => .nil
  | _, _, .cons h t => .cons h.2.2 (vals_vals t)
theorem items_keys {f : DictEntry → Value} {ds : Array DictEntry} {acc : Array Value} (h : ItemsOf (fun i v => ∃ hi : i < ds.size, v = f ds[i]) acc ds.size) : acc.toList = ds.toList.map f := by
  apply List.ext_getElem?
  intro i
  rw [List.getElem?_map]
  by_cases hi : i < ds.size
  · have ha : i < acc.size := by rw [h.1]; exact hi
    obtain ⟨_, e⟩ := h.2 i acc[i] (Array.getElem?_eq_getElem ha)
    rw [Array.getElem?_toList, Array.getElem?_toList, Array.getElem?_eq_getElem ha, Array.getElem?_eq_getElem hi, e]
    rfl
  · rw [Array.getElem?_toList, Array.getElem?_toList, Array.getElem?_eq_none (by rw [h.1]; omega), Array.getElem?_eq_none (by omega)]
    rfl
/-! sorted(d), list(d) -/
def rSortK (K : PySem.W.Frag) (w : World) : List V → Hp → VK → Prop := fun vs H Q => ∃ (a : Addr) (es : List Ent) (ps : List PyData), vs = [V.ref a] ∧ DAt K w H a es ∧ DpAll K H (es.map (·.2.1)) ps ∧ srtB ps = true ∧
  ∀ p, H p = none → Q (.ref p) (upd H p (.lst ((((es.map (·.2.1)).zip ps).mergeSort (PySem.W.dataLe false Prod.snd)).map Prod.fst)))
def rListK (K : PySem.W.Frag) (w : World) : List V → Hp → VK → Prop := fun vs H Q => ∃ (a : Addr) (es : List Ent), vs = [V.ref a] ∧ DAt K w H a es ∧ ∀ p, H p = none → Q (.ref p) (upd H p (.lst (es.map (·.2.1))))
section
variable {X : Cx} {W : WT} {U : XK} {K : KW}
theorem cr_sortK {k : Nat} (hr : Room k X.A) (hc : X.calm = true) : CallR X (.builtin "sorted") (rSortK X.K X.w) := by
  intro pins s σ H vs us Q I r h
  obtain ⟨a, es, ps, rfl, D, hd, hs, q⟩ := h
  obtain rfl := Vals.ref1 r
  obtain ⟨o, ds, ep, h1, h2, h3, h4, h5⟩ := D.raw I
  have hz : ds.size ≤ sizeLine := by rw [h5.len, List.length_map]; exact D.ok.len
  exact sort_src hr hc (PySem.KdlSrc.rawDict (es := ds) (ep := ep) D.ok.sm) I ⟨o, h1, h2, h3⟩ hz hd hs (fun acc ha => by rw [items_keys (f := (·.key)) ha]; exact keys_vals h4) q
theorem cr_listK (hc : X.calm = true) : CallR X (.type "list") (rListK X.K X.w) := by
  intro pins s σ H vs us Q I r h
  obtain ⟨a, es, rfl, D, q⟩ := h
  obtain rfl := Vals.ref1 r
  obtain ⟨o, ds, ep, h1, h2, h3, h4, h5⟩ := D.raw I
  have hz : ds.size ≤ sizeLine := by rw [h5.len, List.length_map]; exact D.ok.len
  exact list_src hc (PySem.KdlSrc.rawDict (es := ds) (ep := ep) D.ok.sm) I ⟨o, h1, h2, h3⟩ hz (fun acc ha => by rw [items_keys (f := (·.key)) ha]; exact keys_vals h4) q
theorem RDk.keys {g : Gh} : ∀ {kvs : List (D × D)} {es : List Ent}, RDk K.toKR g kvs es → RDs K.toKR g (kvs.map (·.1)) (es.map (·.2.1))
  | _, _, .nil => .nil
  | _, _, .cons _ h2 _ h4 => .cons h2 h4.keys
theorem RDk.values {g : Gh} : ∀ {kvs : List (D × D)} {es : List Ent}, RDk K.toKR g kvs es → RDs K.toKR g (kvs.map (·.2)) (es.map (·.2.2))
  | _, _, .nil => .nil
  | _, _, .cons _ _ h3 h4 => .cons h3 h4.values
def sortedK : List D → Store → Out D
  | [d], S => match d.asD S with
    | some kvs => match D.pys (kvs.map (·.1)) with
      | some ps => if srtB ps = true then .ok (.lst (srtL (kvs.map (·.1)) ps)) S else .no
      | none => .no
    | none => .no
  | _, _ => .no
theorem c_sortedK : CallM K (rSortK K.K K.w) sortedK := by
  intro W g S H ds vs Q R r p
  match ds, r, p with
  | [], _, p => exact p.elim
  | _ :: _ :: _, _, p => exact p.elim
  | [d], r, p =>
    obtain ⟨v, rfl, r0⟩ := r.one
    unfold sortedK at p
    simp only at p
    cases e : d.asD S with
    | none => simp only [e] at p; exact p.elim
    | some kvs =>
      cases e2 : D.pys (kvs.map (·.1)) with
      | none => simp only [e, e2] at p; exact p.elim
      | some ps =>
        simp only [e, e2] at p
        by_cases h : srtB ps = true
        · rw [if_pos h] at p
          obtain ⟨a, es, rfl, D, rk⟩ := r0.asD R e
          refine ⟨a, es, ps, rfl, D, RDs.py R.sub rk.keys e2, h, fun q hq => ?_⟩
          exact p _ _ (Gh.add_ext (R.newG hq)) (R.add hq) _ (.lst upd_same ((rds_sort rk.keys (pys_length e2)).mono (Gh.add_ext (R.newG hq)).toExtG))
        · rw [if_neg h] at p; exact p.elim
/-- sorted(x), a list or a dict -/
def sortedX (ds : List D) (S : Store) : Out D := match ds with
  | [d] => if (d.asD S).isSome = true then sortedK [d] S else sortedD [d] S
  | _ => .no
abbrev rSortX (K : PySem.W.Frag) (w : World) : List V → Hp → VK → Prop := fun vs H Q => rSortK K w vs H Q ∨ rSortD K vs H Q
theorem cr_sortX {k : Nat} (hr : Room k X.A) (hc : X.calm = true) : CallR X (.builtin "sorted") (rSortX X.K X.w) := (cr_sortK hr hc).or (cr_sortD hr)
theorem c_sortedX : CallM K (rSortX K.K K.w) sortedX := by
  intro W g S H ds vs Q R r p
  match ds, r, p with
  | [], _, p => exact p.elim
  | _ :: _ :: _, _, p => exact p.elim
  | [d], r, p =>
    unfold sortedX at p
    simp only at p
    by_cases c : (d.asD S).isSome = true
    · rw [if_pos c] at p
      exact .inl (c_sortedK W g S H [d] vs Q R r p)
    · rw [if_neg c] at p
      exact .inr (c_sorted W g S H [d] vs Q R r p)
end
end MK

namespace MK
open PySem PySem.Spec PySem.Calls PyProof.Rows L2

/-! ### dict(x): x a list or a tuple of pairs -/
def putAll (es more : List Ent) : List Ent := more.foldl (fun acc e => putE acc e.1 e.2.1 e.2.2) es
theorem putAll_len : ∀ (more es : List Ent), (putAll es more).length ≤ es.length + more.length
  | [], es => Nat.le_refl _
  | e :: more, es => by
    have h1 := putAll_len more (putE es e.1 e.2.1 e.2.2)
    have h2 := putE_length es e.1 e.2.1 e.2.2
    rw [List.length_cons]
    show (putAll (putE es e.1 e.2.1 e.2.2) more).length ≤ _
    omega
theorem putAll_ok {a : Addr} : ∀ {more es : List Ent}, KeysOk a es → (∀ e ∈ more, e.1.depth ≤ 8) → es.length + more.length ≤ sizeLine → KeysOk a (putAll es more)
  | [], es, h, _, _ => h
  | e :: more, es, h, hd, hl => by
    rw [List.length_cons] at hl
    have h2 := putE_length es e.1 e.2.1 e.2.2
    exact putAll_ok (more := more) (es := putE es e.1 e.2.1 e.2.2) (h.put (hd e List.mem_cons_self) (by omega)) (fun e' he => hd e' (List.mem_cons_of_mem _ he)) (by omega)
theorem putAll_take {es more : List Ent} {i : Nat} {e : Ent} (h : more[i]? = some e) : putAll es (more.take (i + 1)) = putE (putAll es (more.take i)) e.1 e.2.1 e.2.2 := by
  unfold putAll
  rw [List.take_add_one, h, List.foldl_append]
  rfl
theorem putE_mem {P : NestedKey → V → Prop} {es : List Ent} {k : NestedKey} {kv vv : V} (h : ∀ e ∈ es, P e.1 e.2.1) (hk : P k kv) : ∀ e ∈ putE es k kv vv, P e.1 e.2.1 := fun e he => by
  unfold putE at he
  split at he
  · obtain ⟨e', h1, rfl⟩ := List.mem_map.mp he
    split
    · exact h e' h1
    · exact h e' h1
  · rcases List.mem_append.mp he with he | he
    · exact h e he
    · simp only [List.mem_singleton] at he
      subst he
      exact hk
theorem putAll_mem {P : NestedKey → V → Prop} : ∀ {more es : List Ent}, (∀ e ∈ es, P e.1 e.2.1) → (∀ e ∈ more, P e.1 e.2.1) → ∀ e ∈ putAll es more, P e.1 e.2.1
  | [], _, h, _ => h
  | e :: more, es, h, hm => putAll_mem (more := more) (putE_mem h (hm e List.mem_cons_self)) fun e' he => hm e' (List.mem_cons_of_mem _ he)
/-- a dict's object in words of the heap -/
structure DRaw (w : World) (h : Heap) (d : Addr) (es : List Ent) (o : Obj) (ds : Array DictEntry) (ep : Nat) : Prop where
  at_ : h.get? d = some o
  ex : o.ExactDict
  dat : o.data = .dict ds ep
  pr : Paired (EntryOk w) es ds.toList
section
variable {prog : Program} {w : World} {A : Around} {E : Value → Shared → Prop} {s : Shared} {d : Addr} {o : Obj} {ds : Array DictEntry} {ep : Nat} {es : List Ent} {k : NestedKey} {key r : Value} {y v : V}
theorem DRaw.ents (x : DRaw w s.heap d es o ds ep) (ko : KeysOk d es) (hn : ∀ e ∈ es, ∀ u, RelV e.2.1 u → NestedIs s.heap e.1 u) : Ents w s.heap ds (es.map (·.1)) := by
  refine ⟨?_, ?_, ?_, ko.nd⟩
  · have := Paired.length x.pr
    rw [List.length_map, this]
    simp
  · intro i k hk
    rw [List.getElem?_map] at hk
    obtain ⟨e, e1, rfl⟩ := Option.map_eq_some_iff.mp hk
    obtain ⟨y, y1, y2, y3, y4⟩ := paired_get x.pr e1
    exact ⟨y, by simpa using y1, y2, hn e (List.mem_of_getElem? e1) _ y3⟩
  · intro k hk
    obtain ⟨e, e1, rfl⟩ := List.mem_map.mp hk
    exact ko.dep e e1
theorem wp_dset {Q : Unit → Shared → Prop} (hu : A.units + 8 < cLine) (x : DRaw w s.heap d es o ds ep) (ko : KeysOk d es) (hn : ∀ e ∈ es, ∀ u, RelV e.2.1 u → NestedIs s.heap e.1 u) (hk : NestedIs s.heap k key) (ry : RelV y key) (rv : RelV v r) (dk : k.depth ≤ 8)
    (h : ∀ h' o' ds' ep' tk, DRaw w h' d (putE es k y v) o' ds' ep' → Heap.SameBut d s.heap h' → Q () { s with heap := h', toks := tk }) : wpAny (model prog w) A (dictSet d key r) Q E s := by
  have h5 := x.ents ko hn
  obtain ⟨h1, h2, h3, h4⟩ := x
  have hsz : ds.size = es.length := by rw [h5.len, List.length_map]
  have hz := ko.len
  unfold dictSet
  try with_reducible refine wpAny_holding ?_
  refine wpAny_bind (pyHash_key k key A s _ hk (by omega) ?_)
  unfold dictSetHashed
  try with_reducible refine wpAny_holding ?_
  refine wpAny_bind (wp_find (s := { s with toks := s.toks + k.draws }) hu h1 h3 h5 hk dk (.mk (fun q => ?_) fun j q => ?_))
  · have hn := valE_no q
    have he : putE es k y v = es ++ [(k, y, v)] := by unfold putE; rw [hn]; rfl
    refine wpAny_bind (wpAny_rule (wpAny_updateDictKeys (hz := by omega) (s := { s with toks := s.toks + k.draws }) h1 h3 (h _ _ _ (ep + 1) _ ⟨Heap.get?_update_self _ h1 (Obj.isFreed_of_dict (Obj.data_mapDictKeys h3 _)), h2.mapDictKeys _, Obj.data_mapDictKeys h3 _, ?_⟩ (Heap.SameBut.update ..))))
    rw [he, Array.toList_push]
    exact paired_snoc h4 ⟨rfl, ry, rv⟩
  · rw [List.getElem?_map] at q
    obtain ⟨e, e1, e2⟩ := Option.map_eq_some_iff.mp q
    have hy := valE_yes ko.nd e1 e2
    have he : putE es k y v = es.map (fun e => if e.1 = k then (e.1, e.2.1, v) else e) := by unfold putE; rw [hy]; rfl
    refine wpAny_bind (wpAny_rule (wpAny_bind (wpAny_updateDict (s := { s with toks := s.toks + k.draws }) h1 h3 (wpAny_point (h _ _ _ ep _ ⟨Heap.get?_update_self _ h1 (Obj.isFreed_of_dict (Obj.data_mapDict h3 _)), h2.mapDict _, Obj.data_mapDict h3 _, ?_⟩ (Heap.SameBut.update ..))))))
    rw [he, Array.toList_modify]
    exact paired_put rv h4 ko.nd e1 e2
end
theorem nested_keeps {h h' : Heap} (hk : ∀ b o, h.get? b = some o → h'.get? b = some o) {k : NestedKey} {v : Value} (x : NestedIs h k v) : NestedIs h' k v := NestedIs.at (fun b o _ _ e _ => hk b o e) k v x
/-- the pairs by values -/
def PairsV (K : PySem.W.Frag) (H : Hp) : List V → List Ent → Prop := Paired fun x e => ∃ p, x = .ref p ∧ SqT K H p [e.2.1, e.2.2] ∧ NV K H e.1 e.2.1 ∧ e.1.depth ≤ 8
def rDictP (K : PySem.W.Frag) (w : World) : List V → Hp → VK → Prop := fun vs H Q => ∃ (a : Addr) (xs : List V) (es : List Ent), vs = [.ref a] ∧ (SqL K H a xs ∨ SqP K H a xs) ∧ PairsV K H xs es ∧
  ∀ p, H p = none → (p == sysModules) = false → es.length ≤ sizeLine → Q (.ref p) (upd H p (DctO w p (putAll [] es)))
section
variable {X : Cx} {pins : List (Addr × Obj)} {σ : L2.St} {H : Hp} {s : Shared}
/-- the pairs in the heap -/
theorem pairs_raw (I : Inv X pins σ H s) : ∀ {xs : List V} {es : List Ent} {us : List Value}, PairsV X.K H xs es → Vals xs us → ∃ (Ts : List Addr) (ps : List (Value × Value)), us = Ts.map Value.ref ∧ Ts.length = es.length ∧ ps.length = es.length ∧
    ∀ (i : Nat) (e : Ent), es[i]? = some e → ∃ T u r, Ts[i]? = some T ∧ ps[i]? = some (u, r) ∧ PairAt s.heap T u r ∧ RelV e.2.1 u ∧ RelV e.2.2 r
  | _, _, _, .nil, r => by
    cases r
    exact ⟨[], [], rfl, rfl, rfl, fun i e h => by simp at h⟩
  | _, _, _, .cons h t, r => by
    cases r with
    | cons r1 r2 =>
      obtain ⟨p, rfl, h1, h2, h3⟩ := h
      cases r1
      obtain ⟨Ts, ps, e1, e2, e3, e4⟩ := pairs_raw I t r2
      obtain ⟨its, rv, ht, _⟩ := I.tuple h1
      obtain ⟨u, z, rfl, ru, rz⟩ := rv.two
      refine ⟨p :: Ts, (u, z) :: ps, by rw [e1]; rfl, by rw [List.length_cons, List.length_cons, e2], by rw [List.length_cons, List.length_cons, e3], fun i e h => ?_⟩
      cases i with
      | zero =>
        simp only [List.getElem?_cons_zero, Option.some.injEq] at h
        subst h
        exact ⟨p, u, z, rfl, rfl, .inl ht, ru, rz⟩
      | succ i =>
        simp only [List.getElem?_cons_succ] at h
        obtain ⟨T, u', r', q1, q2, q3⟩ := e4 i e h
        exact ⟨T, u', r', by simpa using q1, by simpa using q2, q3⟩
/-- a tuple that has no dict, in the heap -/
theorem SqP.plain {a : Addr} {xs : List V} (I : Inv X pins σ H s) (h : SqP X.K H a xs) : ∃ its : List Value, Vals xs its ∧ PlainSeq "tuple" s.heap a its.toArray ∧ xs.length ≤ sizeLine := by
  obtain ⟨its, r, ⟨o, q1, q2, n, q3⟩, q4⟩ := I.tuple h.sq
  refine ⟨its, r, ⟨o, n, q1, q2, ?_, q3⟩, q4⟩
  rcases h with ⟨o', hd, h⟩ | ⟨o', its', n', hd, h, _⟩
  · obtain ⟨z, _⟩ := I.hok a _ h
    rw [q1] at z
    rw [Option.some.inj z]
    exact hd
  · have z := I.kIn a o' h
    rw [q1] at z
    rw [Option.some.inj z]
    exact hd
theorem vdict {k : Nat} {T : String} {a : Addr} {fp : List Addr} {OK : Heap → Prop} {es : List Ent} {ps : List (Value × Value)} {Q : VK} (hr : Room k X.A) (hc : X.calm = true) (I : Inv X pins σ H s) (P : PairArg X.prog X.w T a fp [] ps.length (PairRel ps) OK) (ok : OK s.heap)
    (hl : ps.length = es.length) (hps : ∀ (i : Nat) (e : Ent), es[i]? = some e → ∃ u r, ps[i]? = some (u, r) ∧ RelV e.2.1 u ∧ RelV e.2.2 r) (hes : ∀ e ∈ es, NV X.K H e.1 e.2.1 ∧ e.1.depth ≤ 8) (hz : es.length ≤ sizeLine)
    (q : ∀ p, H p = none → (p == sysModules) = false → Q (.ref p) (upd H p (DctO X.w p (putAll [] es)))) : wpAny (model X.prog X.w) X.A (call (.type "dict") [.ref a]) (EP X pins σ Q) X.xe s := by
  have hh : X.A.handled = none := I.ok.hd hc
  have hm : (s.heap.objs.size == sysModules) = false := beq_eq_false_iff_ne.mpr (Ne.symm (Nat.ne_of_lt I.big))
  refine call_dict_arg P ok fun s₁ hs₁ hdf ok₁ => ?_
  subst hs₁
  have k0 : ∀ b o, s.heap.get? b = some o → (s.heap.push { cls := .type "dict", data := .dict #[] }).get? b = some o := fun b o e => Heap.get?_push_of_some _ e
  have nb : ∀ b o, s.heap.get? b = some o → b ≠ s.heap.objs.size := fun b o e => Nat.ne_of_lt (Heap.lt_size e)
  have kok : ∀ i, KeysOk s.heap.objs.size (putAll [] (es.take i)) := fun i => putAll_ok ⟨List.nodup_nil, (fun _ h => by cases h), Nat.zero_le _, hm⟩ (fun e he => (hes e (List.mem_of_mem_take he)).2) (by rw [List.length_take, List.length_nil]; omega)
  have nest : ∀ (h : Heap) (i : Nat), (∀ b o, s.heap.get? b = some o → h.get? b = some o) → ∀ e ∈ putAll [] (es.take i), ∀ u, RelV e.2.1 u → NestedIs h e.1 u := fun h i hk =>
    putAll_mem (P := fun k y => ∀ u, RelV y u → NestedIs h k u) (fun e he => by cases he) fun e he u ru => nested_keeps hk ((hes e (List.mem_of_mem_take he)).1.is I ru)
  refine updateFrom_arg (A := X.A.in1) (Tab := fun i h => (∃ o ds ep, DRaw X.w h s.heap.objs.size (putAll [] (es.take i)) o ds ep) ∧ ∀ b o, s.heap.get? b = some o → h.get? b = some o) P .none hh ok₁ hdf ⟨⟨_, #[], 0, Heap.get?_push_size _ rfl, ⟨rfl, rfl, rfl⟩, rfl, .nil⟩, k0⟩ (fun i h tb => ?_) (fun i h h' wr' hd hw tb hk => ?_) (fun i u r s' Q' E' hi hrel tb _ hQ => ?_) fun h' tk tb hk => ?_
  · obtain ⟨⟨o, ds, ep, x⟩, _⟩ := tb
    exact Heap.lt_size x.at_
  · obtain ⟨⟨o, ds, ep, x⟩, k1⟩ := tb
    refine ⟨⟨o, ds, ep, hk _ _ hd x.at_, x.ex, x.dat, x.pr⟩, fun b o e => hk b o (fun hb => ?_) (k1 b o e)⟩
    rcases hw b hb with z | z
    · cases z
    · rw [k0 b o e] at z; cases z
  · obtain ⟨⟨o, ds, ep, x⟩, k1⟩ := tb
    obtain ⟨e, he⟩ : ∃ e, es[i]? = some e := ⟨es[i]'(by omega), List.getElem?_eq_getElem _⟩
    obtain ⟨u', r', p1, p2, p3⟩ := hps i e he
    have pe : (u', r') = (u, r) := Option.some.inj (p1.symm.trans hrel)
    cases pe
    have he' := hes e (List.mem_of_getElem? he)
    refine wp_dset (A := X.A.in1.in1) (by have := hr.un; show X.A.units + 1 + 1 + 8 < cLine; omega) x (kok i) (nest _ i k1) (nested_keeps k1 (he'.1.is I p2)) p2 p3 he'.2 fun h' o' ds' ep' tk x' sb => hQ h' tk ⟨⟨o', ds', ep', by rw [putAll_take he]; exact x'⟩, fun b ob e => sb.extBut b ob (nb b ob e) (k1 b ob e)⟩ sb
  · obtain ⟨⟨o, ds, ep, x⟩, k1⟩ := tb
    rw [hl, List.take_length] at x
    refine ⟨rfl, ⟨.ref s.heap.objs.size, upd H s.heap.objs.size (DctO X.w s.heap.objs.size (putAll [] es)), I.laid (t' := tk) k1 (Nat.le_refl _) (dct_ok ⟨o, ds, ep, x.at_, x.ex, x.dat, x.pr⟩), rfl, q _ (I.hok.fresh (Nat.le_refl _)) hm⟩⟩
theorem refs_us {Ts : List Addr} {i : Nat} {T : Addr} (h : Ts[i]? = some T) : ((Ts.map Value.ref).toArray)[i]? = some (.ref (Ts.getD i 0)) := by
  rw [List.getElem?_toArray, List.getElem?_map, h, List.getD_eq_getElem?_getD, h]
  rfl
theorem cr_dictP {k : Nat} (hr : Room k X.A) (hc : X.calm = true) : CallR X (.type "dict") (rDictP X.K X.w) := by
  intro pins s σ H vs us Q I r h
  obtain ⟨a, xs, es, rfl, hq, hp, q⟩ := h
  obtain rfl := Vals.ref1 r
  have hes : ∀ e ∈ es, NV X.K H e.1 e.2.1 ∧ e.1.depth ≤ 8 := fun e he => by
    obtain ⟨x, _, _, _, h⟩ := hp.right e he
    exact h
  have hlen := Paired.length hp
  rcases hq with hq | hq
  · obtain ⟨its, rv, pl, few⟩ := I.list hq
    obtain ⟨Ts, ps, rfl, e2, e3, e4⟩ := pairs_raw I hp rv
    obtain ⟨o, n, o1, o2, o3, o4⟩ := pl
    refine vdict hr hc I (PairArg.list a (Ts.map Value.ref).toArray (fun j => Ts.getD j 0) ps) ⟨⟨o, n, o1, o2, o3, o4⟩, by rw [List.size_toArray, List.length_map, e2, e3], fun j u z hj => ?_⟩ e3 (fun i e he => ?_) hes (by omega) (fun p h1 h2 => q p h1 h2 (by omega))
    · obtain ⟨e, he⟩ : ∃ e, es[j]? = some e := ⟨es[j]'(by have := (List.getElem?_eq_some_iff.mp hj).1; omega), List.getElem?_eq_getElem _⟩
      obtain ⟨T, u', r', q1, q2, q3, _⟩ := e4 j e he
      cases Option.some.inj (q2.symm.trans hj)
      refine ⟨refs_us q1, ?_⟩
      show PairAt s.heap (Ts.getD j 0) _ _
      rw [List.getD_eq_getElem?_getD, q1]
      exact q3
    · obtain ⟨T, u', r', _, q2, _, q4, q5⟩ := e4 i e he
      exact ⟨u', r', q2, q4, q5⟩
  · obtain ⟨its, rv, pl, few⟩ := SqP.plain I hq
    obtain ⟨Ts, ps, rfl, e2, e3, e4⟩ := pairs_raw I hp rv
    refine vdict hr hc I (PairArg.tuple a (Ts.map Value.ref).toArray (fun j => Ts.getD j 0) ps) ⟨pl, by rw [List.size_toArray, List.length_map, e2, e3], fun j u z hj => ?_⟩ e3 (fun i e he => ?_) hes (by omega) (fun p h1 h2 => q p h1 h2 (by omega))
    · obtain ⟨e, he⟩ : ∃ e, es[j]? = some e := ⟨es[j]'(by have := (List.getElem?_eq_some_iff.mp hj).1; omega), List.getElem?_eq_getElem _⟩
      obtain ⟨T, u', r', q1, q2, q3, _⟩ := e4 j e he
      cases Option.some.inj (q2.symm.trans hj)
      refine ⟨refs_us q1, ?_⟩
      show PairAt s.heap (Ts.getD j 0) _ _
      rw [List.getD_eq_getElem?_getD, q1]
      exact q3
    · obtain ⟨T, u', r', _, q2, _, q4, q5⟩ := e4 i e he
      exact ⟨u', r', q2, q4, q5⟩
end
/-! the mirror -/
def pairK : D → Option (NestedKey × D × D)
  | .tup [kd, vd] => match kd.key with
    | some k => if k.depth ≤ 8 then some (k, kd, vd) else none
    | none => none
  | _ => none
def pairsK : List D → Option (List (NestedKey × D × D))
  | [] => some []
  | x :: xs => match pairK x, pairsK xs with
    | some p, some ps => some (p :: ps)
    | _, _ => none
def putAllK (kvs : List (D × D)) (ps : List (NestedKey × D × D)) : List (D × D) := ps.foldl (fun acc p => putK acc p.1 p.2.1 p.2.2) kvs
section
variable {X : Cx} {W : WT} {U : XK} {K : KW} {g : Gh} {S : Store} {H : Hp}
/-- the pairs and their entries -/
def RDp (K : KR) (g : Gh) : List (NestedKey × D × D) → List Ent → Prop := Paired fun p e => p.1 = e.1 ∧ p.2.1.key = some e.1 ∧ RD K g p.2.1 e.2.1 ∧ RD K g p.2.2 e.2.2
theorem pairK_is {x : D} {p : NestedKey × D × D} (h : pairK x = some p) : x = .tup [p.2.1, p.2.2] ∧ p.2.1.key = some p.1 ∧ p.1.depth ≤ 8 := by
  unfold pairK at h
  split at h
  · rename_i kd vd
    cases e : kd.key with
    | none => rw [e] at h; cases h
    | some k =>
      rw [e] at h
      simp only at h
      by_cases c : k.depth ≤ 8
      · rw [if_pos c] at h
        cases h
        exact ⟨rfl, e, c⟩
      · rw [if_neg c] at h; cases h
  · cases h
theorem RDs.pairs (R : Rep K g S H) : ∀ {xs : List D} {vs : List V} {ps : List (NestedKey × D × D)}, RDs K g xs vs → pairsK xs = some ps → ∃ es, PairsV K.K H vs es ∧ RDp K g ps es
  | _, _, ps, .nil, h => by
    cases h
    exact ⟨[], .nil, .nil⟩
  | _, _, ps, .cons (d := x) (ds := xs) r t, h => by
    unfold pairsK at h
    cases e1 : pairK x with
    | none => simp only [e1] at h; cases h
    | some p =>
      cases e2 : pairsK xs with
      | none => simp only [e1, e2] at h; cases h
      | some qs =>
        simp only [e1, e2] at h
        cases h
        obtain ⟨es, h1, h2⟩ := RDs.pairs R t e2
        obtain ⟨rfl, h4, h5⟩ := pairK_is e1
        cases r with
        | tup q1 q2 =>
          cases q2 with
          | cons r1 q2 =>
            cases q2 with
            | cons r2 q2 =>
              cases q2
              exact ⟨(p.1, _, _) :: es, .cons ⟨_, rfl, sameT R.sub q1.sq, r1.nv R.sub h4, h5⟩ h1, .cons ⟨rfl, h4, r1, r2⟩ h2⟩
theorem RDp.all : ∀ {ps : List (NestedKey × D × D)} {es : List Ent} {kvs : List (D × D)} {es0 : List Ent}, RDp K.toKR g ps es → RDk K.toKR g kvs es0 → RDk K.toKR g (putAllK kvs ps) (putAll es0 es)
  | _, _, _, _, .nil, r => r
  | _, _, _, _, .cons (a := p) (b := e) h t, r => by
    obtain ⟨h1, h2, h3, h4⟩ := h
    have := RDp.all t (r.put h3 h4 h2)
    unfold putAllK putAll at this ⊢
    rw [List.foldl_cons, List.foldl_cons, h1]
    exact this
def dictD : List D → Store → Out D := fun ds S => match ds with
  | [d] => match d.sq S with
    | some xs => match pairsK xs with
      | some ps => .ok (.dct (putAllK [] ps)) S
      | none => .no
    | none => .no
  | _ => .no
/-- as a cell -/
def dictN : List D → Store → Out D := fun ds S => match ds with
  | [d] => match d.sq S with
    | some xs => match pairsK xs with
      | some ps => .ok (.cell S.length) (S ++ [.dct (putAllK [] ps)])
      | none => .no
    | none => .no
  | _ => .no
theorem RD.sqP (R : Rep K g S H) {d : D} {v : V} {ys : List D} (r : RD K g d v) (e : d.sq S = some ys) : ∃ b zs, v = .ref b ∧ (SqL K H b zs ∨ SqP K H b zs) ∧ RDs K g ys zs := by
  unfold D.sq at e
  split at e
  · rename_i zs e1
    cases e
    obtain ⟨a, vs, h1, h2, h3⟩ := r.asL R e1
    exact ⟨a, vs, h1, .inl h2, h3⟩
  · cases r with
    | tup h1 h2 =>
      cases e
      exact ⟨_, _, rfl, .inr (h1.mono R.sub), h2⟩
    | _ => cases e
theorem depth_of {xs : List V} {es : List Ent} (h : PairsV K.K H xs es) : ∀ e ∈ es, e.1.depth ≤ 8 := fun e he => by
  obtain ⟨x, _, _, _, _, h⟩ := h.right e he
  exact h
theorem c_dictD : CallM K (rDictP K.K K.w) dictD := by
  intro W g S H ds vs Q R r p
  match ds, r, p with
  | [], _, p => exact p.elim
  | _ :: _ :: _, _, p => exact p.elim
  | [d], r, p =>
    obtain ⟨v, rfl, r0⟩ := r.one
    unfold dictD at p
    simp only at p
    cases e : d.sq S with
    | none => simp only [e] at p; exact p.elim
    | some xs =>
      cases e2 : pairsK xs with
      | none => simp only [e, e2] at p; exact p.elim
      | some ps =>
        simp only [e, e2] at p
        obtain ⟨b, zs, rfl, hb, rz⟩ := r0.sqP R e
        obtain ⟨es, h1, h2⟩ := rz.pairs R e2
        refine ⟨b, zs, es, rfl, hb, h1, fun q hq hm hl => ?_⟩
        exact p _ _ (Gh.add_ext (R.newG hq)) (R.add hq) _ (.dct upd_same (putAll_ok ⟨List.nodup_nil, (fun _ h => by cases h), Nat.zero_le _, hm⟩ (depth_of h1) (by rw [List.length_nil]; omega)) ((h2.all .nil).mono (Gh.add_ext (R.newG hq)).toExtG))
theorem c_dictN : CallM K (rDictP K.K K.w) dictN := by
  intro W g S H ds vs Q R r p
  match ds, r, p with
  | [], _, p => exact p.elim
  | _ :: _ :: _, _, p => exact p.elim
  | [d], r, p =>
    obtain ⟨v, rfl, r0⟩ := r.one
    unfold dictN at p
    simp only at p
    cases e : d.sq S with
    | none => simp only [e] at p; exact p.elim
    | some xs =>
      cases e2 : pairsK xs with
      | none => simp only [e, e2] at p; exact p.elim
      | some ps =>
        simp only [e, e2] at p
        obtain ⟨b, zs, rfl, hb, rz⟩ := r0.sqP R e
        obtain ⟨es, h1, h2⟩ := rz.pairs R e2
        refine ⟨b, zs, es, rfl, hb, h1, fun q hq hm hl => ?_⟩
        have R' := R.cellC (p := q) (c := .dct (putAllK [] ps)) (o := DctO K.w q (putAll [] es)) hq ⟨_, rfl, putAll_ok ⟨List.nodup_nil, (fun _ h => by cases h), Nat.zero_le _, hm⟩ (depth_of h1) (by rw [List.length_nil]; omega), h2.all .nil⟩
        exact p _ _ (Gh.cell_ext) R' _ (.cell (by rw [R.len]; exact Nat.lt_succ_self _) (if_pos R.len))
theorem bb_dict : bootBuiltins "dict" = some (.type "dict") := by decide +kernel
end
end MK

namespace MK
open PySem PySem.Spec PySem.Calls PyProof.Rows L2
theorem tab_uniq {q : NdefX.NTab} : ∀ {l : List NdefX.NTab}, (l.map (·.1)).Nodup → q ∈ l → ∀ p ∈ l, p.1 = q.1 → p.2 = q.2
  | [], _, _, p, hp, _ => by cases hp
  | x :: l, nd, hq, p, hp, e => by
    rw [List.map_cons, List.nodup_cons] at nd
    rcases List.mem_cons.mp hq with h | h
    · rcases List.mem_cons.mp hp with h' | h'
      · rw [h, h']
      · exact absurd (by rw [← h, ← e]; exact List.mem_map.mpr ⟨p, h', rfl⟩) nd.1
    · rcases List.mem_cons.mp hp with h' | h'
      · exact absurd (by rw [← h', e]; exact List.mem_map.mpr ⟨q, h, rfl⟩) nd.1
      · exact tab_uniq nd.2 h p h' e
theorem memT {l l' : List NdefX.NTab} {q : NdefX.NTab} (e : l = l') (h : q ∈ l') : q ∈ l := by rw [e]; exact h
theorem uniT {l l' : List NdefX.NTab} {P : Addr} {nm : Nat → Nat → Str} (e : l = l') (h : ∀ p ∈ l', p.1 = P → p.2 = nm) : ∀ p ∈ l, p.1 = P → p.2 = nm := by rw [e]; exact h
theorem LamSc.of {sc sc' scope : Scope} {N ps fr : List Str} (e : sc = sc') (L : LamSc sc' scope N ps fr) : LamSc sc scope N ps fr := by rw [e]; exact L
section
variable {X : Cx} {W : WT}
/-- me_callH, the arguments first -/
theorem me_callL {k kl m : Nat} {f : Addr} {fd : FuncData} {pss N ps fr : List Str} {GF : Addr → BN → BN} {x : Str} {p pos : Pos} {e : Expr} {es : List Expr} {params : Arguments} {body : Expr} {scope : Scope} {fe : FE} {ix : List Nat} {fs : List FE}
    (ha : PA X (e :: es) (tAL (kwX X W) W.E (tLm X W params body scope) fs))
    (gd : X.A.guards = some []) (G : ∀ (F : FRec) (R : BN), LamOk X.prog (kwX X W).toKR W.T X.mg X.base CX0 (kl + 1) F ps.length R → FnG X.prog X.w X.K X.mg X.base CX0 k f fd pss (spM ⟨(kwX X W).toKR, W.T, F :: W.L⟩ m (GF F.f R))) (hr : Room k X.A) (hg : Gl X x) (hm : X.mg x = some (.ref f)) (hk : PySem.W.keepIn X.K (.ref f) = true) (hb : Binds X.K fd pss [])
    (hfn : ∀ y, X.fn y = true) (L : LamSc X.env.scope scope N ps fr) (hix : ∀ (j : Nat) (y : Str), fr[j]? = some y → ∃ i, ix[j]? = some i ∧ X.N[i]? = some y) (hlx : ix.length = fr.length) (hms : fs.length + 1 = m)
    (hbind : ∀ (q : Str) (cl : List (Str × Addr)) (pm cv ctv : Value) (us : List Value), us.length = ps.length → bindArgs (PySem.W.kla_fn "<lambda>" q params body scope cl pm cv ctv) ⟨us, []⟩ = pure (ps.zip us))
    (hbody : ∀ (f c' : Addr) (L0 : List FRec) (A : Around) (outer : List Env) (s : Shared) (H : Hp) (E : XK), A.guards = some [] → Room kl (A.deeper (LamX.lamEnv X scope s.heap.objs.size f c')) → ME (lamC X A outer s H E scope N f c') ⟨E00, W.T, L0⟩ body fe)
    (hdb : (x == ("__debug__" : Str)) = false := by decide) (he : starEach (e :: es) X.env = (false, eval e X.env) :: starEach es X.env := by rfl) (hpl : (backTo pos (starEach es X.env)).any (·.1) = false := by rfl) :
    ME X W (.Call (.Name x p) (e :: es) [] pos) (fCallH GF fe ix fs) := me_callH gd G hr hg hm hk hb hfn L hix hlx hms hbind hbody ha hdb he hpl
end
/-- what a maker's table is, where the program's own objects tell the code object -/
theorem made_is {K : PySem.W.Frag} {h : Heap} {mg : Str → Option Value} {y : Str} {f C P : Addr} {o ob : Obj} {fd : FuncData} {vs : Array Value} (X : K.In h) (M : Made mg h y) (hm : mg y = some (.ref f)) (l : K.lookup f = some o) (hd : o.data = .func fd) (hc : fd.code = .ref C)
    (q : K.lookup C = some ob) (hv : ob.data = .fields vs) (r : vs[11]? = some (.ref P)) (n : K.lookup P = none) : Maker K h (C, P) := by
  obtain ⟨a, o', fd', c, P', q1, q2, q3, q4, q5, q6⟩ := M
  rw [hm] at q1
  cases q1
  rw [X _ _ l] at q2
  cases q2
  rw [hd] at q3
  cases q3
  rw [hc] at q4
  cases q4
  have q5' := q5
  obtain ⟨ob', vs', _, _, _, _, _, _, _, e1, _, e2, e3, _⟩ := q5
  rw [X _ _ q] at e1
  cases e1
  rw [hv] at e2
  cases e2
  rw [r] at e3
  cases e3
  exact ⟨q6, n, q5'⟩
end MK

namespace MK
open PySem PySem.Spec PySem.Calls PyProof.Rows L2
section
variable {X : Cx} {W : WT} {U : XK} {K : KW} {g : Gh}
/-! ### for c in a text -/
def charsD (x : Str) : List D := x.cps.toList.map fun c => D.str ⟨#[c]⟩
theorem it_str {x : Str} : ItOk K g (charsD x) (Its x) := by
  intro g' S' H' e R
  refine ⟨?_, fun i d h => ?_⟩
  · show x.cps.size ≤ (charsD x).length
    unfold charsD
    rw [List.length_map, Array.length_toList]
    exact Nat.le_refl _
  · unfold charsD at h
    rw [List.getElem?_map] at h
    obtain ⟨c, h1, rfl⟩ := Option.map_eq_some_iff.mp h
    rw [Array.getElem?_toList] at h1
    refine ⟨(Array.getElem?_eq_some_iff.mp h1).1, fun y H'' z => ?_⟩
    obtain ⟨rfl, c', h2, rfl⟩ := z
    rw [h1] at h2
    cases h2
    exact ⟨g', .refl g', R, .str _⟩
def iStrD (f : FE) : F (List D) := fun ρ S => (f ρ S).bind fun d S1 => match d with
  | .str x => .ok (charsD x) S1
  | _ => .no
theorem mi_str {tg e : Expr} {f : FE} (h : ME X W e f) : MI X W tg e (iStrD f) := PI.imp (pi_str h) fun σ H R h => by
  obtain ⟨g, S, ρ, Rp, rs, p⟩ := h
  refine ⟨g, S, ρ, Rp, rs, (pst.bind p).mp fun g1 S1 H1 d x R1 q v r => ?_⟩
  cases r with
  | str x => exact ⟨x, rfl, pst.here q R1 _ it_str⟩
  | _ => exact q.elim
/-! ### sep.join(texts) -/
def strsOf : List D → Option (List Str)
  | [] => some []
  | .str x :: xs => (strsOf xs).map (x :: ·)
  | _ :: _ => none
theorem RDs.strs {K : KR} : ∀ {ds : List D} {vs : List V} {ys : List Str}, RDs K g ds vs → strsOf ds = some ys → vs = ys.map V.str
  | _, _, ys, .nil, h => by cases h; rfl
  | _, _, ys, .cons (d := d) (ds := ds) r t, h => by
    cases r with
    | str x =>
      unfold strsOf at h
      obtain ⟨zs, h1, rfl⟩ := Option.map_eq_some_iff.mp h
      rw [RDs.strs t h1]
      rfl
    | _ => exact absurd h (by simp [strsOf])
def joinD (z : Str) (b : D) (S : Store) : Out D := match b.sq S with
  | some xs => match strsOf xs with
    | some ys => if (ys.map (·.length)).sum + ys.length * z.length ≤ 16777216 then .ok (.str (Txt.join z ys)) S else .no
    | none => .no
  | none => .no
def fJoin (fo fe : FE) : FE := fun ρ S => (fo ρ S).bind fun d S1 => match d with
  | .str z => (fe ρ S1).bind fun b S2 => joinD z b S2
  | _ => .no
theorem me_join {o e : Expr} {apos pos : Pos} {fo fe : FE} (ho : ME X W o fo) (he : ME X W e fe) (hs : starEach [e] X.env = [(false, eval e X.env)] := by rfl) (hbase : attributeBase o "join" X.env (eval o X.env) = eval o X.env := by rfl) (hline : (apos.endLine == pos.line) = true := by rfl) :
    ME X W (.Call (.Attribute o "join" apos) [e] [] pos) (fJoin fo fe) := PE.imp (pe_join ho he hs hbase hline) fun σ H Q h => by
  obtain ⟨g, S, ρ, R, rs, p⟩ := h
  refine ⟨g, S, ρ, R, rs, (pst.bind p).mp fun g1 S1 H1 d1 x1 R1 q1 v1 r1 => ?_⟩
  cases r1 with
  | str z =>
    refine ⟨⟨z, rfl⟩, g1, S1, ρ, R1, rs.mono x1.toExtG, q1.bind.mp fun g2 S2 H2 d2 x2 R2 q2 v2 r2 => ?_⟩
    unfold joinD at q2
    cases e1 : d2.sq S2 with
    | none => simp only [e1] at q2; exact q2.elim
    | some xs =>
      cases e2 : strsOf xs with
      | none => simp only [e1, e2] at q2; exact q2.elim
      | some ys =>
        simp only [e1, e2] at q2
        by_cases c : (ys.map (·.length)).sum + ys.length * z.length ≤ 16777216
        · rw [if_pos c] at q2
          obtain ⟨b, zs, rfl, hb, rz⟩ := r2.sq R2 e1
          rw [rz.strs e2] at hb
          exact ⟨z, b, ys, rfl, rfl, hb, c, pst.here q2 R2 _ (.str _)⟩
        · rw [if_neg c] at q2; exact q2.elim
  | _ => exact q1.elim
/-! ### tuple(range(n)), list(range(n)) -/
def tTupRp (te : L2.St → Hp → (Int → Int → Hp → Prop) → Prop) : TE := fun σ H Q => te σ H fun a b H1 => RgOk a b ∧ ∀ (q : Addr) (o : PySem.Obj), o.dict = none → H1 q = none → Q (.ref q) (upd H1 q (.frz o (.tup (rgV a b))))
theorem pe_tupRp {e : Expr} {te : L2.St → Hp → (Int → Int → Hp → Prop) → Prop} {p pos : Pos} (hc : X.calm = true) (hg : Gl X "tuple") (hm : X.mg "tuple" = none) (he : PRg X e te) (na : starEach [e] X.env = (false, eval e X.env) :: starEach [] X.env := by rfl) : PE X (.Call (.Name "tuple" p) [e] [] pos) (tTupRp te) := ⟨fun pins s σ H Q I h => by
  refine Call_ (ld_blt I hg hm bb_tuple (PyProof.Rows.callWith_type1 (args_cons (thn (he pins s σ H _ I h) fun x s1 ⟨r, a, b, t, u, v, H1, ex, hr, I1, ok, q⟩ => args_nil ?_) na) na))
  subst ex
  obtain ⟨b1, b2, b3, b4, b5⟩ := ok
  refine call_tuple_range (n := (b - a).toNat) (I1.ok.hd hc) hr (small_one b1 b2 b3 b4) (rangeSize_nat a b) b5 fun h' tk acc hk hi => ?_
  have J : Inv X pins σ H1 { s1 with heap := h', toks := tk } := I1.kept hk
  have few : (rgV a b).length ≤ sizeLine := by rw [rgV_length, sizeLine_eq]; omega
  have new : ObjOk X.prog X.w (upd H1 h'.objs.size (.frz { cls := .type "tuple", data := .seq acc } (.tup (rgV a b)))) (h'.push { cls := .type "tuple", data := .seq acc }) h'.objs.size (.frz { cls := .type "tuple", data := .seq acc } (.tup (rgV a b))) :=
    frz_ok (Heap.get?_push_size _ rfl) ⟨few, acc.toList, vals_rg hi, by rw [Array.toArray_toList]; exact IsTup.new _ _⟩
  exact ⟨.ref h'.objs.size, _, J.laid (t' := tk) (fun c o e => Heap.get?_push_of_some _ e) (Nat.le_refl _) new, rfl, q _ _ rfl (J.hok.fresh (Nat.le_refl _))⟩⟩
theorem rng_map : ∀ (n : Nat) (a : Int), rngL a n = (List.range n).map fun i => D.int (a + (i : Nat))
  | 0, _ => rfl
  | n + 1, a => by
    rw [List.range_succ_eq_map, List.map_cons, List.map_map]
    unfold rngL
    rw [rng_map n (a + 1)]
    congr 1
    · simp
    · apply List.map_congr_left
      intro i _
      show D.int _ = D.int _
      congr 1
      rw [Int.add_assoc, Int.add_comm 1]
      rfl
theorem rng_rd {a b : Int} : RDs K.toKR g (rngL a (b - a).toNat) (rgV a b) := by
  rw [rng_map]
  unfold rgV
  generalize List.range (b - a).toNat = l
  induction l with
  | nil => exact .nil
  | cons x l ih => exact .cons (.int _) ih
def tupRng (d : D) (S : Store) : Out D := match d with
  | .int n => if -(2 ^ 62) ≤ n ∧ n ≤ 16777216 then .ok (.tup (rngL 0 n.toNat)) S else .no
  | _ => .no
def lstRng (d : D) (S : Store) : Out D := match d with
  | .int n => if -(2 ^ 62) ≤ n ∧ n ≤ 16777216 then .ok (.lst (rngL 0 n.toNat)) S else .no
  | _ => .no
theorem me_tupRng {e : Expr} {f : FE} {p p2 pos2 pos : Pos} (hg : Gl X "tuple") (hm : X.mg "tuple" = none) (hg2 : Gl X "range") (hm2 : X.mg "range" = none) (h : ME X W e f) (hc : X.calm = true := by rfl)
    (na : starEach [.Call (.Name "range" p2) [e] [] pos2] X.env = (false, eval (.Call (.Name "range" p2) [e] [] pos2) X.env) :: starEach [] X.env := by rfl) (nb : starEach [e] X.env = (false, eval e X.env) :: starEach [] X.env := by rfl) :
    ME X W (.Call (.Name "tuple" p) [.Call (.Name "range" p2) [e] [] pos2] [] pos) (f1 tupRng f) := PE.imp (pe_tupRp hc hg hm (prg_1 hg2 hm2 h nb) na) fun σ H Q h => by
  obtain ⟨g, S, ρ, R, rs, p⟩ := h
  refine ⟨g, S, ρ, R, rs, (pst.bind p).mp fun g1 S1 H1 d x R1 q v r => ?_⟩
  cases r with
  | int n =>
    unfold tupRng at q
    simp only at q
    by_cases c : -(2 ^ 62) ≤ n ∧ n ≤ 16777216
    · rw [if_pos c] at q
      refine ⟨n, rfl, ⟨by omega, by omega, c.1, by omega, by omega⟩, fun a o ho ha => ?_⟩
      have rr := rng_rd (K := kwX X W) (g := g1) (a := 0) (b := n)
      rw [Int.sub_zero] at rr
      exact q _ _ (Gh.add_ext (R1.newG ha)) (R1.add ha) _ (.tup (.new ho) (rr.mono (Gh.add_ext (R1.newG ha)).toExtG))
    · rw [if_neg c] at q; exact q.elim
  | _ => exact q.elim
theorem me_lstRng {e : Expr} {f : FE} {p p2 pos2 pos : Pos} (hg : Gl X "list") (hm : X.mg "list" = none) (hg2 : Gl X "range") (hm2 : X.mg "range" = none) (h : ME X W e f) (hc : X.calm = true := by rfl)
    (na : starEach [.Call (.Name "range" p2) [e] [] pos2] X.env = (false, eval (.Call (.Name "range" p2) [e] [] pos2) X.env) :: starEach [] X.env := by rfl) (nb : starEach [e] X.env = (false, eval e X.env) :: starEach [] X.env := by rfl) :
    ME X W (.Call (.Name "list" p) [.Call (.Name "range" p2) [e] [] pos2] [] pos) (f1 lstRng f) := PE.imp (pe_listRg hc hg hm (prg_1 hg2 hm2 h nb) na) fun σ H Q h => by
  obtain ⟨g, S, ρ, R, rs, p⟩ := h
  refine ⟨g, S, ρ, R, rs, (pst.bind p).mp fun g1 S1 H1 d x R1 q v r => ?_⟩
  cases r with
  | int n =>
    unfold lstRng at q
    simp only at q
    by_cases c : -(2 ^ 62) ≤ n ∧ n ≤ 16777216
    · rw [if_pos c] at q
      refine ⟨n, rfl, ⟨by omega, by omega, c.1, by omega, by omega⟩, fun a ha => ?_⟩
      have rr := rng_rd (K := kwX X W) (g := g1) (a := 0) (b := n)
      rw [Int.sub_zero] at rr
      exact q _ _ (Gh.add_ext (R1.newG ha)) (R1.add ha) _ (.lst upd_same (rr.mono (Gh.add_ext (R1.newG ha)).toExtG))
    · rw [if_neg c] at q; exact q.elim
  | _ => exact q.elim
end
end MK

namespace MK
open PySem PySem.Spec PySem.Calls PyProof.Rows L2

/-! ### a zip whose tuple is out -/
abbrev ZipO (h : Heap) (z TI TO a : Addr) (f : Bool) : Prop := h.get? z = some { cls := .type "zip", data := .fields #[rawInt a, .bool f, .bool false, .ref TI, .ref TO] }
section
variable {prog : Program} {w : World} {A : Around} {E : Value → Shared → Prop} {s : Shared} {z TI TO a i1 i2 : Addr} {f : Bool} {oa : Obj} {fp1 fp2 : List Addr} {n1 n2 i : Nat} {P1 P2 : Nat → Value → Prop} {St1 St2 : Nat → Heap → Prop}
theorem out_taken {Q : Bool → Shared → Prop} (hz : ZipO s.heap z TI TO a f) (ha : s.heap.get? a = some oa) (h : ∀ h', ZipO h' z TI TO a true → Heap.SameBut z s.heap h' → Q false { s with heap := h' }) :
    wpAny (model prog w) A (Builtin.SmallTypes.ownedTupleIsFree (.ref z)) Q E s := by
  unfold Builtin.SmallTypes.ownedTupleIsFree
  refine wpAny_bind (wpAny_field hz rfl (x := rawInt a) rfl ?_)
  show wpAny _ _ (loadIfAlive ((a : Int).toNat) >>= _) _ _ _
  rw [Int.toNat_natCast]
  refine wpAny_bind (PySem.W.kdx_alive ha ?_)
  simp only [Option.isNone_some, Bool.false_eq_true, if_false]
  refine wpAny_bind (wpAny_field hz rfl (x := .bool f) rfl ?_)
  cases f with
  | true =>
    rw [if_neg (show ¬ ((Value.bool true != Value.bool true) = true) from Bool.false_ne_true)]
    exact wpAny_pure (h s.heap hz (Heap.SameBut.refl _ _))
  | false =>
    rw [if_pos (show (Value.bool false != Value.bool true) = true from rfl)]
    exact wpAny_bind (wpAny_setField_rec hz (by simp) fun h' hz' hs' => wpAny_pure (h h' hz' hs'))
theorem zipO_item {Q : Value → Shared → Prop} (S : ZipSep2 z TI TO i1 i2 fp1 fp2) (D1 : Draws prog w A i1 fp1 n1 P1 St1) (D2 : Draws prog w A i2 fp2 n2 P2 St2)
    (hz : ZipO s.heap z TI TO a f) (ha : s.heap.get? a = some oa) (hTI : IsTupOf2 s.heap TI (.ref i1) (.ref i2)) (st1 : St1 i s.heap) (st2 : St2 i s.heap) (hlt1 : i < n1) (hlt2 : i < n2)
    (hQ : ∀ x1 x2 h' tk, P1 i x1 → P2 i x2 → ZipO h' z TI TO a true → St1 (i + 1) h' → St2 (i + 1) h' → IsTupOf2 h' s.heap.objs.size x1 x2 → h'.objs.size = s.heap.objs.size + 1 →
      (∀ c o, c ≠ z → c ≠ i1 → c ≠ i2 → s.heap.get? c = some o → h'.get? c = some o) → Q (.ref s.heap.objs.size) { s with heap := h', toks := tk }) :
    wpAny (model prog w) A (Builtin.«zip.__next__» ⟨[.ref z], []⟩) (fun fin s' => ∃ v, fin = .done (.ret v) ∧ Q v s') E s := by
  obtain ⟨hp, g, d, tk0, os⟩ := s
  show wpAny _ _ (field (.ref z) 2 >>= _) _ _ _
  refine wpAny_bind (wpAny_field hz rfl (x := .bool false) rfl ?_)
  show wpAny _ _ (field (.ref z) 3 >>= _) _ _ _
  refine wpAny_bind (wpAny_field hz rfl (x := .ref TI) rfl ?_)
  refine wpAny_bind (wpAny_seqItems hTI rfl ?_)
  show wpAny _ _ (Builtin.SmallTypes.ownedTupleIsFree (.ref z) >>= _) _ _ _
  refine wpAny_bind (out_taken hz ha fun g0 hz0 hs0 => ?_)
  replace hs0 : Heap.SameBut z hp g0 := hs0
  simp only [Bool.false_eq_true, if_false]
  refine wpAny_bind ?_
  simp only [List.forIn_toArray, List.forIn_cons, List.forIn_nil]
  refine wpAny_bind (wpAny_bind (wpAny_holding ?_))
  show wpAny _ _ (Builtin.SmallTypes.nextOf (.ref i1) >>= _) _ _ ⟨g0, g, d, tk0, os⟩
  refine wpAny_bind (D1.item i _ _ _ hlt1 (D1.over st1 hs0 S.zf1) fun x1 p1 tk1 hx1 sn1 hp1 => wpAny_pure ?_)
  replace hp1 : Heap.SameBut i1 g0 p1 := hp1
  refine wpAny_pure ?_
  show wpAny _ _ (_ >>= _) _ _ _
  refine wpAny_bind ?_
  refine wpAny_bind (wpAny_holding ?_)
  show wpAny _ _ (Builtin.SmallTypes.nextOf (.ref i2) >>= _) _ _ ⟨p1, g, d, tk1, os⟩
  refine wpAny_bind (D2.item i _ _ _ hlt2 (D2.over (D2.over st2 hs0 S.zf2) hp1 S.sep1_2) fun x2 p2 tk2 hx2 sn2 hp2 => wpAny_pure ?_)
  replace hp2 : Heap.SameBut i2 p1 p2 := hp2
  refine wpAny_pure ?_
  refine wpAny_pure ?_
  show wpAny (model prog w) A (newTuple [x1, x2] >>= fun v => ret v) _ _ ⟨p2, g, d, tk2, os⟩
  refine wpAny_bind (wpAny_newTuple ?_)
  have hsz : p2.objs.size = hp.objs.size := by rw [hp2.1, hp1.1, hs0.1]
  have hzz : ZipO p2 z TI TO a true := hp2.extBut _ _ S.zi2 (hp1.extBut _ _ S.zi1 hz0)
  have j1 : St1 (i + 1) p2 := D1.over sn1 hp2 S.sep2_1
  have up : ∀ c o, p2.get? c = some o → (p2.push { cls := .type "tuple", data := .seq #[x1, x2] }).get? c = some o := fun c o e => Heap.get?_push_of_some _ e
  have new : IsTupOf2 (p2.push { cls := .type "tuple", data := .seq #[x1, x2] }) p2.objs.size x1 x2 := Heap.get?_push_size _ rfl
  have big : (p2.push { cls := .type "tuple", data := .seq #[x1, x2] }).objs.size = p2.objs.size + 1 := Heap.size_push ..
  rw [hsz] at new big
  refine wpAny_pure ⟨_, rfl, ?_⟩
  show Q (.ref p2.objs.size) ⟨p2.push { cls := .type "tuple", data := .seq #[x1, x2] }, g, d, tk2, os⟩
  rw [hsz]
  exact hQ x1 x2 _ tk2 hx1 hx2 (up _ _ hzz) (D1.frame _ _ _ j1 fun b _ o e => up b o e) (D2.frame _ _ _ sn2 fun b _ o e => up b o e) new big fun c o c0 c1 c2 e => up c o (hp2.extBut _ _ c2 (hp1.extBut _ _ c1 (hs0.extBut _ _ c0 e)))
theorem zipO_end {Q : Fin → Shared → Prop} (S : ZipSep2 z TI TO i1 i2 fp1 fp2) (D1 : Draws prog w A i1 fp1 n1 P1 St1) (D2 : Draws prog w A i2 fp2 n2 P2 St2)
    (hz : ZipO s.heap z TI TO a f) (ha : s.heap.get? a = some oa) (hTI : IsTupOf2 s.heap TI (.ref i1) (.ref i2)) (st1 : St1 i s.heap) (st2 : St2 i s.heap) (hle1 : i ≤ n1) (hle2 : i ≤ n2) (hend : i = n1 ∨ i = n2)
    (hE : ∀ h' tk e, (∀ c o, c ≠ z → c ≠ i1 → c ≠ i2 → s.heap.get? c = some o → h'.get? c = some o) → (∃ o, h'.get? e = some o ∧ o.cls = .type "StopIteration") → E (.ref e) { s with heap := h', toks := tk }) :
    wpAny (model prog w) A (Builtin.«zip.__next__» ⟨[.ref z], []⟩) Q E s := by
  obtain ⟨hp, g, d, tk0, os⟩ := s
  show wpAny _ _ (field (.ref z) 2 >>= _) _ _ _
  refine wpAny_bind (wpAny_field hz rfl (x := .bool false) rfl ?_)
  show wpAny _ _ (field (.ref z) 3 >>= _) _ _ _
  refine wpAny_bind (wpAny_field hz rfl (x := .ref TI) rfl ?_)
  refine wpAny_bind (wpAny_seqItems hTI rfl ?_)
  show wpAny _ _ (Builtin.SmallTypes.ownedTupleIsFree (.ref z) >>= _) _ _ _
  refine wpAny_bind (out_taken hz ha fun g0 hz0 hs0 => ?_)
  replace hs0 : Heap.SameBut z hp g0 := hs0
  simp only [Bool.false_eq_true, if_false]
  refine wpAny_bind ?_
  simp only [List.forIn_toArray, List.forIn_cons, List.forIn_nil]
  refine wpAny_bind (wpAny_bind (wpAny_holding ?_))
  show wpAny _ _ (Builtin.SmallTypes.nextOf (.ref i1) >>= _) _ _ ⟨g0, g, d, tk0, os⟩
  by_cases hlt1 : i < n1
  · refine wpAny_bind (D1.item i _ _ _ hlt1 (D1.over st1 hs0 S.zf1) fun x1 p1 tk1 hx1 sn1 hp1 => wpAny_pure ?_)
    replace hp1 : Heap.SameBut i1 g0 p1 := hp1
    refine wpAny_pure ?_
    show wpAny _ _ (_ >>= _) _ _ _
    refine wpAny_bind ?_
    refine wpAny_bind (wpAny_holding ?_)
    show wpAny _ _ (Builtin.SmallTypes.nextOf (.ref i2) >>= _) _ _ ⟨p1, g, d, tk1, os⟩
    have hi2 : i = n2 := by omega
    refine wpAny_bind (D2.done ⟨p1, g, d, tk1, os⟩ _ _ (by rw [← hi2]; exact D2.over (D2.over st2 hs0 S.zf2) hp1 S.sep1_2) fun q e hq he => ?_)
    exact hE q tk1 e (fun c o c0 c1 c2 x => hq _ _ c2 (hp1.extBut _ _ c1 (hs0.extBut _ _ c0 x))) he
  · have hi1 : i = n1 := by omega
    refine wpAny_bind (D1.done ⟨g0, g, d, tk0, os⟩ _ _ (by rw [← hi1]; exact D1.over st1 hs0 S.zf1) fun q e hq he => ?_)
    exact hE q tk0 e (fun c o c0 c1 c2 x => hq _ _ c1 (hs0.extBut _ _ c0 x)) he
end
/-! ### a source of new pairs, to be collected -/
structure NewSrc (prog : Program) (w : World) (A : Around) (I S : Addr) (fp : List Addr) (n : Nat) (Pt : Nat → Value → Value → Prop) (St : Nat → Heap → Prop) : Prop where
  item : ∀ (i : Nat) (s : Shared) (Q : Option Value → Shared → Prop) (E : Value → Shared → Prop), i < n → St i s.heap → S < s.heap.objs.size →
    (∀ h' tk x y, Pt i x y → IsTupOf2 h' s.heap.objs.size x y → St (i + 1) h' → h'.objs.size = s.heap.objs.size + 1 → (∀ b o, b ∉ fp → s.heap.get? b = some o → h'.get? b = some o) → Q (some (.ref s.heap.objs.size)) { s with heap := h', toks := tk }) → wpAny (model prog w) A (pyNext (.ref I)) Q E s
  done : ∀ (s : Shared) (Q : Option Value → Shared → Prop) (E : Value → Shared → Prop), St n s.heap → (∀ h' tk, (∀ b o, b ∉ fp → s.heap.get? b = some o → h'.get? b = some o) → Q none { s with heap := h', toks := tk }) → wpAny (model prog w) A (pyNext (.ref I)) Q E s
  frame : ∀ (i : Nat) (h h' : Heap), St i h → (∀ b o, b ≠ S → h.get? b = some o → h'.get? b = some o) → St i h'
  sep : S ∉ fp
/-- the pairs that were made -/
structure MadeN (Pt : Nat → Value → Value → Prop) (lo : Addr) (h : Heap) (as : List Addr) : Prop where
  rise : as.Pairwise (· < ·)
  above : ∀ a ∈ as, lo ≤ a
  pairs : ∀ (j : Nat) (a : Addr), as[j]? = some a → ∃ x y, Pt j x y ∧ IsTupOf2 h a x y
theorem MadeN.there {Pt : Nat → Value → Value → Prop} {lo : Addr} {h : Heap} {as : List Addr} (g : MadeN Pt lo h as) {a : Addr} (ha : a ∈ as) : a < h.objs.size := by
  obtain ⟨j, hj⟩ := List.mem_iff_getElem?.mp ha
  obtain ⟨_, _, _, e⟩ := g.pairs j a hj
  exact Heap.lt_size e
section
variable {prog : Program} {w : World} {A : Around} {s : Shared} {R : Result → Shared → Prop} {Pt : Nat → Value → Value → Prop} {St : Nat → Heap → Prop} {I S lo : Addr} {fp : List Addr} {n : Nat}
theorem loopN (X : NewSrc prog w A.in1 I S fp n Pt St) (hn : n ≤ sizeLine) (hSl : S < lo) (hfp : ∀ b ∈ fp, b < lo) (res : Value) {h₁ : Heap}
    (hR : ∀ h' tk acc c as, (∀ b o, b ≠ S → b ∉ fp → h₁.get? b = some o → h'.get? b = some o) → h'.get? S = some { cls := .type "list", dict := none, data := .seq acc c, slots := #[] } → as.length = n → MadeN Pt lo h' as →
      acc.toList = as.map Value.ref → R (.ok (.ret res)) { s with heap := h', toks := tk }) :
    ∀ (k i : Nat) (h : Heap) (tk c : Nat) (acc : Array Value) (as : List Addr), n - i = k → i ≤ n → St i h → (∀ b o, b ≠ S → b ∉ fp → h₁.get? b = some o → h.get? b = some o) →
      h.get? S = some { cls := .type "list", dict := none, data := .seq acc c, slots := #[] } → acc.toList = as.map Value.ref → as.length = i → MadeN Pt lo h as → lo ≤ h.objs.size →
      codeAny (model prog w) A (.builtin "list.extend.loop" ⟨[.ref S, .ref I, res], []⟩) R { s with heap := h, toks := tk } := by
  intro k
  induction k with
  | zero =>
    intro i h tk c acc as hk hi hst hkeep hS hacc hal hG hlo
    have hin : i = n := by omega
    subst hin
    refine codeAny_builtin PySem.F.entry_extend_loop ?_
    rw [Around.under_plainId PySem.F.plain_extend_loop _]
    show wpAny _ A.in1 (pyNext (.ref I) >>= _) _ _ _
    refine wpAny_bind (X.done { s with heap := h, toks := tk } _ _ hst fun h' tk' he => ?_)
    refine wpAny_pure (hR h' tk' acc c as (fun b o h1 h2 e => he b o h2 (hkeep b o h1 h2 e)) (he S _ X.sep hS) hal ⟨hG.rise, hG.above, fun j a hj => ?_⟩ hacc)
    obtain ⟨x, y, e1, e3⟩ := hG.pairs j a hj
    exact ⟨x, y, e1, he a _ (fun hm => absurd (hfp a hm) (Nat.not_lt.mpr (hG.above a (List.mem_of_getElem? hj)))) e3⟩
  | succ k ih =>
    intro i h tk c acc as hk hi hst hkeep hS hacc hal hG hlo
    have hlt : i < n := by omega
    have hsz : acc.size = i := by rw [← Array.length_toList, hacc, List.length_map, hal]
    have hSh : S < h.objs.size := Heap.lt_size hS
    refine codeAny_builtin PySem.F.entry_extend_loop ?_
    rw [Around.under_plainId PySem.F.plain_extend_loop _]
    show wpAny _ A.in1 (pyNext (.ref I) >>= _) _ _ _
    refine wpAny_bind (X.item i { s with heap := h, toks := tk } _ _ hlt hst hSh fun h' tk' x y hxy ht hst' hz hkp => ?_)
    dsimp only at ht hz hkp ⊢
    have hS' := hkp S _ X.sep hS
    have up : ∀ b o, b ≠ S → h'.get? b = some o → (h'.update S (Obj.mapSeq (·.push (Value.ref h.objs.size)))).get? b = some o := fun b o hb e => (Heap.get?_update_other _ _ (Ne.symm hb)).trans e
    show wpAny _ A.in1 (updateSeq S (·.push (Value.ref h.objs.size)) >>= _) _ _ _
    refine wpAny_bind ?_
    refine wpAny_updateSeq hS' rfl (wpAny_pure ⟨plainId_quiet PySem.F.plain_extend_loop _, ih (i + 1) _ tk' _ (acc.push (Value.ref h.objs.size)) (as ++ [h.objs.size]) (by omega) hlt (X.frame _ _ _ hst' up)
      (fun b o h1 h2 e => up b o h1 (hkp b o h2 (hkeep b o h1 h2 e))) (Heap.get?_update_self _ hS' rfl) (by rw [Array.toList_push, hacc, List.map_append]; rfl) (by rw [List.length_append, hal]; rfl) ⟨?_, ?_, ?_⟩ ?_⟩) (by rw [hsz]; omega) (by show (acc.push (Value.ref h.objs.size)).size ≤ sizeLine + 1; rw [Array.size_push, hsz]; omega)
    · refine List.pairwise_append.mpr ⟨hG.rise, List.pairwise_singleton _ _, fun a ha b hb => ?_⟩
      rw [List.mem_singleton.mp hb]
      exact hG.there ha
    · intro a ha
      rcases List.mem_append.mp ha with ha | ha
      · exact hG.above a ha
      · rw [List.mem_singleton.mp ha]; exact hlo
    · intro j b hj
      rcases Nat.lt_trichotomy j as.length with h1 | h1 | h1
      · rw [List.getElem?_append_left h1] at hj
        obtain ⟨x', y', e1, e3⟩ := hG.pairs j b hj
        have hb := hG.above b (List.mem_of_getElem? hj)
        exact ⟨x', y', e1, up b _ (Nat.ne_of_gt (Nat.lt_of_lt_of_le hSl hb)) (hkp b _ (fun hm => absurd (hfp b hm) (Nat.not_lt.mpr hb)) e3)⟩
      · subst h1
        have hb : h.objs.size = b := by simpa using hj
        subst hb
        exact ⟨x, y, by rw [hal]; exact hxy, up _ _ (Nat.ne_of_gt hSh) ht⟩
      · have hnone : (as ++ [h.objs.size])[j]? = none := List.getElem?_eq_none (by rw [List.length_append, List.length_singleton]; omega)
        rw [hnone] at hj; cases hj
    · have e : (h'.update S (Obj.mapSeq (·.push (Value.ref h.objs.size)))).get? h.objs.size = _ := up _ _ (Nat.ne_of_gt hSh) ht
      exact Nat.le_of_lt (Nat.lt_of_le_of_lt hlo (Heap.lt_size e))
end
end MK

namespace MK
open PySem PySem.Spec PySem.Calls PyProof.Rows L2

theorem zip_no_len : typeLookup (.type "zip") "__len__" = pure none := am_miss_of_fast (by decide +kernel)
theorem zip_no_hint : typeLookup (.type "zip") "__length_hint__" = pure none := am_miss_of_fast (by decide +kernel)
section
variable {prog : Program} {w : World} {A : Around} {E : Value → Shared → Prop} {s : Shared} {Pt : Nat → Value → Value → Prop} {St : Nat → Heap → Prop} {z S TI TO : Addr} {fp : List Addr} {n : Nat} {f0 : Value}
theorem hintZ (hT : s.TypeIs (.ref z) "zip") {Q : Bool → Shared → Prop} (h : Q true s) : wpAny (model prog w) A (Builtin.List.listLengthHint (.ref z)) Q E s := by
  unfold Builtin.List.listLengthHint
  refine wpAny_bind (wpAny_specialOf hT zip_no_len ?_)
  show wpAny _ _ (specialOf (.ref z) "__length_hint__" >>= _) _ _ s
  exact wpAny_bind (wpAny_specialOf hT zip_no_hint (wpAny_pure h))
theorem extN {R : Result → Shared → Prop} (X : ∀ A' : Around, A'.handled = none → NewSrc prog w A' z S fp n Pt St) (hh : A.handled = none) (hn : n ≤ sizeLine) (hz : IsZip s.heap z TI TO f0) (st : St 0 s.heap) (hSz : S ≠ z) (hfp : ∀ b ∈ fp, b < s.heap.objs.size) (res : Value) (c₀ : Nat) (hS : s.heap.get? S = some { cls := .type "list", data := .seq #[] c₀ })
    (hR : ∀ h' tk acc c as, (∀ b o, b ≠ S → b ∉ fp → s.heap.get? b = some o → h'.get? b = some o) → h'.get? S = some { cls := .type "list", dict := none, data := .seq acc c, slots := #[] } → as.length = n → MadeN Pt s.heap.objs.size h' as →
      acc.toList = as.map Value.ref → R (.ok (.ret res)) { s with heap := h', toks := tk }) :
    wpAny (model prog w) A.in1 (Builtin.List.listExtendWith (.ref S) (.ref z) res)
      (fun fin s' => match fin with | .done f => R (.ok f) s' | .again c' => c'.quiet = true ∧ codeAny (model prog w) A c' R s') (fun e s' => R (.error e) s') s := by
  have X1 := X A.in1 hh
  have hT : s.TypeIs (.ref z) "zip" := ⟨_, hz, rfl⟩
  have key : ∀ (h : Heap) (c₁ tk : Nat), (∀ b o, b ≠ S → s.heap.get? b = some o → h.get? b = some o) → s.heap.objs.size ≤ h.objs.size → h.get? S = some { cls := .type "list", data := .seq #[] c₁ } →
      codeAny (model prog w) A (.builtin "list.extend.loop" ⟨[.ref S, .ref z, res], []⟩) R { s with heap := h, toks := tk } := fun h c₁ tk hk hz1 hS₁ =>
    loopN (s := s) (h₁ := s.heap) (lo := s.heap.objs.size) X1 hn (Heap.lt_size hS) hfp res hR n 0 h tk c₁ #[] [] (Nat.sub_zero _) (Nat.zero_le _) (X1.frame _ _ _ st hk) (fun b o hb _ e => hk b o hb e) hS₁ rfl rfl
      ⟨List.Pairwise.nil, (fun _ ha => nomatch ha), (fun j a hj => by simp at hj)⟩ hz1
  unfold Builtin.List.listExtendWith
  refine wpAny_bind (wpAny_typeOf hT ?_)
  have h1 : Builtin.List.listSameRef (.ref S) (.ref z) = false := by simp [Builtin.List.listSameRef, hSz]
  have h2 : (Value.type "zip" == Value.type "list") = false := by decide
  have h3 : (Value.type "zip" == Value.type "tuple") = false := by decide
  simp only [h1, h2, h3, Bool.or_false, Bool.false_eq_true, if_false]
  refine wpAny_bind (wpAny_pyIter_zip hz ?_)
  refine wpAny_bind (wpAny_holding (hintZ hT ?_))
  refine wpAny_ite_split (fun _ => ?_) (fun hab => absurd (by simp) hab)
  refine wpAny_bind (wpAny_rule ?_)
  refine wpAny_bind ?_
  show wpAny _ _ (updateSeq S (·.push .none) >>= fun _ => updateSeq S (·.pop)) _ _ _
  refine wpAny_bind (wpAny_updateSeq hS rfl ?_)
  have hS₂ := Heap.get?_update_self (Obj.mapSeq (·.push Value.none)) hS rfl
  refine wpAny_updateSeq (hz := by seq_fits) hS₂ rfl ?_
  have hS₃ := Heap.get?_update_self (Obj.mapSeq (·.pop)) hS₂ rfl
  refine wpAny_pure ⟨plainId_quiet PySem.F.plain_extend_loop _, key _ _ _ (fun b o hb e => ?_) ?_ hS₃⟩
  · exact (Heap.get?_update_other _ _ (Ne.symm hb)).trans ((Heap.get?_update_other _ _ (Ne.symm hb)).trans e)
  · rw [Heap.size_update, Heap.size_update]
    exact Nat.le_refl _
theorem collectN {R : List Value → Shared → Prop} (X : ∀ A' : Around, A'.handled = none → NewSrc prog w A' z s.heap.objs.size fp n Pt St) (hh : A.handled = none) (hn : n ≤ sizeLine) (hz : IsZip s.heap z TI TO f0) (st : ∀ h', (∀ b o, s.heap.get? b = some o → h'.get? b = some o) → St 0 h') (hfp : ∀ b ∈ fp, b < s.heap.objs.size)
    (h : ∀ (h' : Heap) (tk : Nat) (as : List Addr), (∀ b o, b ∉ fp → s.heap.get? b = some o → h'.get? b = some o) → as.length = n → MadeN Pt s.heap.objs.size h' as → R (as.map Value.ref) { s with heap := h', toks := tk }) :
    wpAny (model prog w) A (collect (.ref z)) R E s := by
  have hzl : z < s.heap.objs.size := Heap.lt_size hz
  unfold collect
  refine wpAny_bind (wpAny_runValue (codeAny_builtin entry_proto_collect' ?_))
  rw [Around.under_plainId PySem.F.plain_proto_collect _]
  show wpAny _ A.in1 (newList [] >>= fun l => again (.builtin "list.__iadd__" ⟨[l, .ref z], []⟩)) _ _ s
  refine wpAny_bind (wpAny_newObj_type ?_)
  refine wpAny_pure ⟨plainId_quiet PySem.F.plain_list_iadd _, codeAny_builtin entry_list_iadd' ?_⟩
  rw [Around.under_plainId PySem.F.plain_list_iadd _]
  have hS₁ : (s.heap.push { cls := .type "list", data := .seq ([] : List Value).toArray }).get? s.heap.objs.size = some { cls := .type "list", data := .seq #[] } := Heap.get?_push_size _ rfl
  have k0 : ∀ b o, s.heap.get? b = some o → (s.heap.push { cls := .type "list", data := .seq ([] : List Value).toArray }).get? b = some o := fun b o e => Heap.get?_push_of_some _ e
  show wpAny _ A.in1 (Builtin.List.listExtendWith (.ref s.heap.objs.size) (.ref z) (.ref s.heap.objs.size)) _ _ _
  have key := extN (prog := prog) (w := w) (A := A) (s := { s with heap := s.heap.push { cls := .type "list", data := .seq ([] : List Value).toArray } }) (f0 := f0) (TI := TI) (TO := TO)
    (R := fun (q : Result) (s' : Shared) => ∃ (h' : Heap) (tk : Nat) (acc' : Array Value) (c' : Nat) (as : List Addr), q = .ok (.ret (.ref s.heap.objs.size)) ∧ s' = { s with heap := h', toks := tk } ∧
      (∀ b o, b ∉ fp → s.heap.get? b = some o → h'.get? b = some o) ∧ h'.get? s.heap.objs.size = some { cls := .type "list", dict := none, data := .seq acc' c', slots := #[] } ∧ as.length = n ∧ MadeN Pt s.heap.objs.size h' as ∧ acc'.toList = as.map Value.ref)
    X hh hn (k0 _ _ hz) (st _ k0) (Nat.ne_of_gt hzl) (fun b hb => by show b < (s.heap.push _).objs.size; rw [Heap.size_push]; exact Nat.lt_succ_of_lt (hfp b hb)) (.ref s.heap.objs.size) 0 hS₁
    (fun h' tk acc' c' as hk hS' hl hG hacc => ⟨h', tk, acc', c', as, rfl, rfl, fun b o hb e => hk b o (Nat.ne_of_lt (Heap.lt_size e)) hb (k0 _ _ e), hS', hl, ⟨hG.rise, fun a ha => Nat.le_trans (by show s.heap.objs.size ≤ (s.heap.push _).objs.size; rw [Heap.size_push]; exact Nat.le_succ _) (hG.above a ha), hG.pairs⟩, hacc⟩)
  refine wpAny_mono key (fun fin s' x => ?_) fun e s' x => ?_
  · cases fin with
    | done f =>
      obtain ⟨h', tk, acc', c', as, e, rfl, hk, hS', hl, hG, hacc⟩ := x
      cases e
      show wpAny _ A (load s.heap.objs.size >>= _) _ _ _
      refine wpAny_bind (wpAny_load hS' ?_)
      refine wpAny_pure ?_
      show R acc'.toList _
      rw [hacc]
      exact h h' tk as hk hl hG
    | again c₁ =>
      refine ⟨x.1, codeAny_mono x.2 fun q s₂ y => ?_⟩
      obtain ⟨h', tk, acc', c', as, rfl, rfl, hk, hS', hl, hG, hacc⟩ := y
      show wpAny _ A (load s.heap.objs.size >>= _) _ _ _
      refine wpAny_bind (wpAny_load hS' ?_)
      refine wpAny_pure ?_
      show R acc'.toList _
      rw [hacc]
      exact h h' tk as hk hl hG
  · obtain ⟨_, _, _, _, _, e', _⟩ := x
    cases e'
end
end MK

namespace MK
open PySem PySem.Spec PySem.Calls PyProof.Rows L2

section
variable {prog : Program} {w : World} {A : Around} {E : Value → Shared → Prop} {s : Shared} {Pt : Nat → Value → Value → Prop} {St : Nat → Heap → Prop} {z TI TO : Addr} {fp : List Addr} {n : Nat} {f0 : Value}
theorem new_tupZ {Q₁ : Value → Shared → Prop} (X : ∀ A' : Around, A'.handled = none → NewSrc prog w A' z s.heap.objs.size fp n Pt St) (hh : A.handled = none) (hn : n ≤ sizeLine) (hz : IsZip s.heap z TI TO f0) (st : ∀ h', (∀ b o, s.heap.get? b = some o → h'.get? b = some o) → St 0 h') (hfp : ∀ b ∈ fp, b < s.heap.objs.size)
    (h : ∀ (h' : Heap) (tk : Nat) (as : List Addr), (∀ b o, b ∉ fp → s.heap.get? b = some o → h'.get? b = some o) → as.length = n → MadeN Pt s.heap.objs.size h' as → Q₁ (.ref h'.objs.size) { s with heap := h'.push (tupO (as.map Value.ref)), toks := tk }) :
    codeAny (model prog w) A (.call (.builtin "tuple.__new__") ⟨[.type "tuple", .ref z], []⟩) (wants Q₁ E) s := by
  refine codeAny_of_tree ?_
  show wpAny _ A.in1 (do checkBuiltinCall "tuple.__new__" ⟨[.type "tuple", .ref z], []⟩; again (.builtin "tuple.__new__" ⟨[.type "tuple", .ref z], []⟩)) _ _ s
  refine wpAny_bind (wpAny_of_eq (F.newCall_tuple_1 _) (wpAny_pure ⟨plainId_quiet F.plain_tuple_new _, codeAny_builtin F.entry_tuple_new ?_⟩))
  rw [Around.under_plainId F.plain_tuple_new _]
  have hsub := sub_tuple_self
  have hinit := init_tuple_lookup
  have hmh := madeHere_tuple
  have hTI : s.TypeIs (.ref z) "zip" := ⟨_, hz, rfl⟩
  have hh1 : A.in1.handled = none := hh
  have col : ∀ {R : List Value → Shared → Prop} {E' : Value → Shared → Prop}, (∀ (h' : Heap) (tk : Nat) (as : List Addr), (∀ b o, b ∉ fp → s.heap.get? b = some o → h'.get? b = some o) → as.length = n → MadeN Pt s.heap.objs.size h' as → R (as.map Value.ref) { s with heap := h', toks := tk }) → wpAny (model prog w) A.in1 (collect (.ref z)) R E' s :=
    fun hq => collectN X hh1 hn hz st hfp hq
  wp_walk using wpAny_typeOf hTI, col
  intro h' tk as hk hl hG
  show wpAny _ _ (Builtin.Tuple.tupleExact (as.map Value.ref).toArray >>= fun v => ret v) _ _ _
  unfold Builtin.Tuple.tupleExact
  refine wpAny_bind (wpAny_newObj_type ?_ (by show (as.map Value.ref).toArray.size ≤ sizeLine; rw [List.size_toArray, List.length_map, hl]; exact hn))
  refine wpAny_pure ?_
  exact h h' tk as hk hl hG
theorem call_tupZ {Q : Value → Shared → Prop} (X : ∀ A' : Around, A'.handled = none → NewSrc prog w A' z s.heap.objs.size fp n Pt St) (hh : A.handled = none) (hn : n ≤ sizeLine) (hz : IsZip s.heap z TI TO f0) (st : ∀ h', (∀ b o, s.heap.get? b = some o → h'.get? b = some o) → St 0 h') (hfp : ∀ b ∈ fp, b < s.heap.objs.size)
    (h : ∀ (h' : Heap) (tk : Nat) (as : List Addr), (∀ b o, b ∉ fp → s.heap.get? b = some o → h'.get? b = some o) → as.length = n → MadeN Pt s.heap.objs.size h' as → Q (.ref h'.objs.size) { s with heap := h'.push (tupO (as.map Value.ref)), toks := tk }) :
    wpAny (model prog w) A (call (.type "tuple") [.ref z]) Q E s := by
  refine callType_codes (Q₁ := fun obj s₁ => s₁.TypeIs obj "tuple" ∧ Q obj s₁) F.called_tuple (F.typeCall_tuple_1 _) F.entry_object_init
    (new_tupZ (A := A.in1) X hh hn hz st hfp fun h' tk as hk hl hG => ⟨⟨_, Heap.get?_push_size _ rfl, rfl⟩, h h' tk as hk hl hG⟩) fun obj s₁ h₁ => ?_
  exact ⟨h₁.1, F.args_object_init_2 obj _, object_init_meets F.called_tuple.init.lookup F.called_tuple.made (by decide) prog w A.in1 _ s₁ ⟨h₁.1, rfl, h₁.2⟩⟩
end
/-! ### the zip as a source -/
structure ZipS (b1 b2 : Bool) (z TI TO i1 i2 l1 l2 S : Addr) (xs ys : Array Value) (i : Nat) (h : Heap) : Prop where
  ti : IsTupOf2 h TI (.ref i1) (.ref i2)
  s1 : IrK b1 h i1 l1 i ∧ ArK b1 h l1 xs
  s2 : IrK b2 h i2 l2 i ∧ ArK b2 h l2 ys
  own : (IsZip h z TI TO .none ∧ ∃ a1 a2, IsTupOf2 h TO a1 a2) ∨ ∃ a f oa, ZipO h z TI TO a f ∧ h.get? a = some oa ∧ a ≠ z ∧ a ≠ i1 ∧ a ≠ i2 ∧ a ≠ S
theorem zipSrc {prog : Program} {w : World} {A : Around} (hh : A.handled = none) {b1 b2 : Bool} {z TI TO i1 i2 l1 l2 S : Addr} {xs ys : Array Value} {n : Nat} (D : ZipApart z TI TO i1 i2 l1 l2) (hS : S ≠ z ∧ S ≠ TI ∧ S ≠ TO ∧ S ≠ i1 ∧ S ≠ i2 ∧ S ≠ l1 ∧ S ≠ l2) (hn : n = min xs.size ys.size) :
    NewSrc prog w A z S [z, TO, i1, i2] n (fun i x y => xs[i]? = some x ∧ ys[i]? = some y) (ZipS b1 b2 z TI TO i1 i2 l1 l2 S xs ys) where
  sep := by
    obtain ⟨q1, q2, q3, q4, q5, q6, q7⟩ := hS
    simp [q1, q3, q4, q5]
  frame := fun i h h' st k => by
    obtain ⟨q1, q2, q3, q4, q5, q6, q7⟩ := hS
    obtain ⟨t, s1, s2, own⟩ := st
    have at_ : ∀ {b : Bool} {l : Addr} {items : Array Value}, l ≠ S → ArK b h l items → ArK b h' l items := fun {b l items} hl x => by
      cases b with
      | true => obtain ⟨o, e, r⟩ := x; exact ⟨o, k l o hl e, r⟩
      | false => obtain ⟨o, e, r⟩ := x; exact ⟨o, k l o hl e, r⟩
    refine ⟨k TI _ (Ne.symm q2) t, ⟨s1.1.at fun o e => k i1 o (Ne.symm q4) e, at_ (Ne.symm q6) s1.2⟩, ⟨s2.1.at fun o e => k i2 o (Ne.symm q5) e, at_ (Ne.symm q7) s2.2⟩, ?_⟩
    rcases own with ⟨e, a1, a2, o⟩ | ⟨a, f, oa, e, ea, n1, n2, n3, n4⟩
    · exact .inl ⟨k z _ (Ne.symm q1) e, a1, a2, k TO _ (Ne.symm q3) o⟩
    · exact .inr ⟨a, f, oa, k z _ (Ne.symm q1) e, k a _ n4 ea, n1, n2, n3, n4⟩
  item := fun i s Q E hi st hSl hQ => by
    obtain ⟨t, s1, s2, own⟩ := st
    have D1 := drawsK (prog := prog) (w := w) (A := A.in1) hh b1 i1 l1 D.l1i1 xs
    have D2 := drawsK (prog := prog) (w := w) (A := A.in1) hh b2 i2 l2 D.l2i2 ys
    have lt1 : i < xs.size := by omega
    have lt2 : i < ys.size := by omega
    rcases own with ⟨e, a1, a2, o⟩ | ⟨a, f, oa, e, ea, n1, n2, n3, n4⟩
    · have hzl : z < s.heap.objs.size := Heap.lt_size e
      have h1l : i1 < s.heap.objs.size := let ⟨_, q, _⟩ := s1.1.obj; Heap.lt_size q
      have h2l : i2 < s.heap.objs.size := let ⟨_, q, _⟩ := s2.1.obj; Heap.lt_size q
      refine wpAny_pyNext_zipD2_item (sep_of D) D1 D2 e t o s1 s2 lt1 lt2 fun y1 y2 h' tk hy1 hy2 z' TO' s1' s2' hT hsz hk => ?_
      have kp : ∀ b o, b ∉ [z, TO, i1, i2] → s.heap.get? b = some o → h'.get? b = some o := fun b o hb q => hk b o (fun q' => hb (by simp [q'])) (fun q' => hb (by simp [q'])) (fun q' => hb (by simp [q'])) (fun q' => hb (by simp [q'])) q
      exact hQ h' tk y1 y2 ⟨hy1, hy2⟩ hT ⟨hk TI _ D.TIz D.TITO D.TIi1 D.TIi2 t, s1', s2', .inr ⟨s.heap.objs.size, false, _, z', hT, Nat.ne_of_gt hzl, Nat.ne_of_gt h1l, Nat.ne_of_gt h2l, Nat.ne_of_gt hSl⟩⟩ hsz kp
    · have hT : s.TypeIs (.ref z) "zip" := ⟨_, e, rfl⟩
      unfold pyNext
      refine wpAny_bind (wpAny_attempt (wpAny_callSpecial?_slot (name := Str.ofString "__next__") hT F.slot_zip_next
        (wpAny_call_entry F.slot_zip_next hT F.entry_zip_next (zipO_item (sep_of D) D1 D2 e ea t s1 s2 lt1 lt2 fun y1 y2 h' tk hy1 hy2 z' s1' s2' hT hsz hk => wpAny_pure ?_) (F.args_zip_next_1 _))))
      have kp : ∀ b o, b ∉ [z, TO, i1, i2] → s.heap.get? b = some o → h'.get? b = some o := fun b o hb q => hk b o (fun q' => hb (by simp [q'])) (fun q' => hb (by simp [q'])) (fun q' => hb (by simp [q'])) q
      exact hQ h' tk y1 y2 ⟨hy1, hy2⟩ hT ⟨hk TI _ D.TIz D.TIi1 D.TIi2 t, s1', s2', .inr ⟨a, true, oa, z', hk a _ n1 n2 n3 ea, n1, n2, n3, n4⟩⟩ hsz kp
  done := fun s Q E st hQ => by
    obtain ⟨t, s1, s2, own⟩ := st
    have D1 := drawsK (prog := prog) (w := w) (A := A.in1) hh b1 i1 l1 D.l1i1 xs
    have D2 := drawsK (prog := prog) (w := w) (A := A.in1) hh b2 i2 l2 D.l2i2 ys
    rcases own with ⟨e, a1, a2, o⟩ | ⟨a, f, oa, e, ea, n1, n2, n3, n4⟩
    · exact wpAny_pyNext_zipD2_end (sep_of D) D1 D2 e t o s1 s2 (by omega) (by omega) (by omega) fun h' tk hk => hQ h' tk fun b o hb q => hk b o (fun q' => hb (by simp [q'])) (fun q' => hb (by simp [q'])) (fun q' => hb (by simp [q'])) (fun q' => hb (by simp [q'])) q
    · have hT : s.TypeIs (.ref z) "zip" := ⟨_, e, rfl⟩
      unfold pyNext
      refine wpAny_bind (wpAny_attempt (wpAny_callSpecial?_slot (name := Str.ofString "__next__") hT F.slot_zip_next
        (wpAny_call_entry F.slot_zip_next hT F.entry_zip_next (zipO_end (sep_of D) D1 D2 e ea t s1 s2 (by omega) (by omega) (by omega) fun h' tk ex hk he => ?_) (F.args_zip_next_1 _))))
      obtain ⟨o, ho, hc⟩ := he
      refine wpAny_bind (wpAny_isInstance (T := "StopIteration") (b := true) ⟨o, ho, hc⟩ isSubtype_stop ?_)
      exact wpAny_pure (hQ _ _ fun b o hb q => hk b o (fun q' => hb (by simp [q'])) (fun q' => hb (by simp [q'])) (fun q' => hb (by simp [q'])) q)
end MK

namespace MK
open PySem PySem.Spec PySem.Calls PyProof.Rows L2

/-! ### tuple(zip(a, b)) -/
abbrev NewP := Addr × Obj × V × V
def laidAll (H : Hp) : List NewP → Hp
  | [] => H
  | p :: ps => laidAll (upd H p.1 (.frz p.2.1 (.tup [p.2.2.1, p.2.2.2]))) ps
theorem laidAll_ne {b : Addr} : ∀ {ps : List NewP} {H : Hp}, b ∉ ps.map (·.1) → laidAll H ps b = H b
  | [], _, _ => rfl
  | p :: ps, H, h => by
    rw [List.map_cons, List.mem_cons, not_or] at h
    show laidAll _ ps b = _
    rw [laidAll_ne h.2, upd_ne h.1]
section
variable {X : Cx} {pins : List (Addr × Obj)} {σ : L2.St} {H : Hp} {s : Shared} {h' : Heap} {tk : Nat}
theorem laid_all (I0 : Inv X pins σ H s) : ∀ {ps : List NewP} {H1 : Hp}, Inv X pins σ H1 { s with heap := h', toks := tk } → (ps.map (·.1)).Nodup →
    (∀ p ∈ ps, s.heap.objs.size ≤ p.1 ∧ H1 p.1 = none ∧ ∀ H2, ObjOk X.prog X.w H2 h' p.1 (.frz p.2.1 (.tup [p.2.2.1, p.2.2.2]))) → Inv X pins σ (laidAll H1 ps) { s with heap := h', toks := tk }
  | [], H1, I1, _, _ => I1
  | p :: ps, H1, I1, nd, h => by
    rw [List.map_cons, List.nodup_cons] at nd
    obtain ⟨h1, h2, h3⟩ := h p List.mem_cons_self
    have I2 : Inv X pins σ (upd H1 p.1 (.frz p.2.1 (.tup [p.2.2.1, p.2.2.2]))) { s with heap := h', toks := tk } := I1.take (h' := h') (t' := tk) (fun b ob _ e => e) (I0.fpOk h1 h2) (h3 _)
    refine laid_all (ps := ps) (H1 := upd H1 p.1 (.frz p.2.1 (.tup [p.2.2.1, p.2.2.2]))) I0 I2 nd.2 fun q hq => ?_
    obtain ⟨q1, q2, q3⟩ := h q (List.mem_cons_of_mem _ hq)
    exact ⟨q1, by rw [upd_ne (fun e => nd.1 (by rw [← e]; exact List.mem_map.mpr ⟨q, hq, rfl⟩))]; exact q2, q3⟩
end
def tTupZ (K : PySem.W.Frag) (ta : TA) : TE := fun σ H Q => ta σ H fun vs H1 => ∃ b1 b2 a b xs ys, vs = [.ref a, .ref b] ∧ SqK b1 K H1 a xs ∧ SqK b2 K H1 b ys ∧ (min xs.length ys.length ≤ sizeLine → ∀ (ps : List NewP) (T : Addr) (oT : Obj), ps.map (·.2.2) = xs.zip ys →
  (∀ p ∈ ps, p.2.1.dict = none ∧ H1 p.1 = none) → (ps.map (·.1)).Nodup → T ∉ ps.map (·.1) → H1 T = none → oT.dict = none → Q (.ref T) (upd (laidAll H1 ps) T (.frz oT (.tup (ps.map fun p => V.ref p.1)))))
theorem few_of {X : Cx} {pins : List (Addr × Obj)} {s : Shared} {σ : L2.St} {H : Hp} (I : Inv X pins σ H s) {b : Bool} {a : Addr} {xs : List V} (h : SqK b X.K H a xs) : xs.length ≤ sizeLine := by
  cases b with
  | true => obtain ⟨_, _, _, z⟩ := I.list h; exact z
  | false => obtain ⟨_, _, _, z⟩ := I.tuple h; exact z
theorem refs_vals : ∀ as : List Addr, Vals (as.map V.ref) (as.map Value.ref)
  | [] => .nil
  | _ :: as => .cons rfl (refs_vals as)
theorem pe_tupZ {X : Cx} {e e2 : Expr} {ta : TA} {p p2 pos pos2 : Pos} (hc : X.calm = true) (hgt : Gl X "tuple") (hmt : X.mg "tuple" = none) (hg : Gl X "zip") (hm : X.mg "zip" = none) (ha : PA X [e, e2] ta)
    (na : starEach [.Call (.Name "zip" p2) [e, e2] [] pos2] X.env = (false, eval (.Call (.Name "zip" p2) [e, e2] [] pos2) X.env) :: starEach [] X.env := by rfl)
    (hs : starEach [e, e2] X.env = (false, eval e X.env) :: starEach [e2] X.env := by rfl) (hpl : (backTo pos2 (starEach [e2] X.env)).any (·.1) = false := by rfl) :
    PE X (.Call (.Name "tuple" p) [.Call (.Name "zip" p2) [e, e2] [] pos2] [] pos) (tTupZ X.K ta) := by
  refine ⟨fun pins s σ H Q I h => ?_⟩
  refine Call_ (ld_blt I hgt hmt bb_tuple (PyProof.Rows.callWith_type1 (args_cons (Call_ (ld_blt I hg hm PyProof.Rows.boot_zip (PyProof.Rows.callWith_type1 (thn (ha.run pos2 pins s σ H _ I h) fun us s1 ⟨vs, H1, I1, r1, q1⟩ => ?_) hs hpl))) na) na))
  obtain ⟨b1, b2, a, b, xs, ys, ex, hqx, hqy, q⟩ := q1
  subst ex
  cases r1 with
  | cons r rr =>
    cases rr with
    | cons r' rr =>
      cases rr
      cases r
      cases r'
      obtain ⟨its, rv, p1⟩ := arK I1 hqx
      obtain ⟨its2, rv2, p2⟩ := arK I1 hqy
      refine call_zipB (begK b1 a its.toArray) (begK b2 b its2.toArray) p1 p2 fun h' hz hTI hTO h1 h2 hk => args_nil ?_
      have D := PySem.W.ktu_apart s1.heap.objs.size a b p1.lt p2.lt
      have hh : X.A.handled = none := I1.ok.hd hc
      have lx := rv.length
      have ly := rv2.length
      have fx := few_of I1 hqx
      have fy := few_of I1 hqy
      have al : a < h'.objs.size := by
        obtain ⟨o, q1, _⟩ := p1.cls
        exact Heap.lt_size (hk _ _ q1)
      have bl : b < h'.objs.size := by
        obtain ⟨o, q1, _⟩ := p2.cls
        exact Heap.lt_size (hk _ _ q1)
      have at_ : ∀ {bb : Bool} {l : Addr} {items : Array Value} {g : Heap}, (∀ c o, s1.heap.get? c = some o → g.get? c = some o) → ArK bb s1.heap l items → ArK bb g l items := fun {bb l items g} k x => by
        cases bb with
        | true => obtain ⟨o, e, r⟩ := x; exact ⟨o, k l o e, r⟩
        | false => obtain ⟨o, e, r⟩ := x; exact ⟨o, k l o e, r⟩
      refine call_tupZ (s := { s1 with heap := h' }) (n := min its.toArray.size its2.toArray.size) (fp := [s1.heap.objs.size + 4, s1.heap.objs.size + 3, s1.heap.objs.size, s1.heap.objs.size + 1])
        (fun A' hA => zipSrc (b1 := b1) (b2 := b2) (TI := s1.heap.objs.size + 2) (xs := its.toArray) (ys := its2.toArray) hA D ⟨Nat.ne_of_gt (Heap.lt_size hz), Nat.ne_of_gt (Heap.lt_size hTI), Nat.ne_of_gt (Heap.lt_size hTO), Nat.ne_of_gt (Heap.lt_size h1), Nat.ne_of_gt (Heap.lt_size h2), Nat.ne_of_gt al, Nat.ne_of_gt bl⟩ rfl) hh
        (by simp only [List.size_toArray]; omega) hz (fun g k => ⟨k _ _ hTI, ⟨ioK_ir (k _ _ h1), at_ (fun c o e => k c o (hk c o e)) p1⟩, ⟨ioK_ir (k _ _ h2), at_ (fun c o e => k c o (hk c o e)) p2⟩, .inl ⟨k _ _ hz, _, _, k _ _ hTO⟩⟩)
        (fun c hcm => ?_) fun h2' tk as hk2 hl hG => ?_
      · have e' : c = s1.heap.objs.size + 4 ∨ c = s1.heap.objs.size + 3 ∨ c = s1.heap.objs.size ∨ c = s1.heap.objs.size + 1 := by simpa using hcm
        show c < h'.objs.size
        rcases e' with q | q | q | q
        · rw [q]; exact Heap.lt_size hz
        · rw [q]; exact Heap.lt_size hTO
        · rw [q]; exact Heap.lt_size h1
        · rw [q]; exact Heap.lt_size h2
      · have kk : ∀ c o, s1.heap.get? c = some o → h2'.get? c = some o := fun c o e => hk2 c o (fun hm => by
          have e' : c = s1.heap.objs.size + 4 ∨ c = s1.heap.objs.size + 3 ∨ c = s1.heap.objs.size ∨ c = s1.heap.objs.size + 1 := by simpa using hm
          have lt := Heap.lt_size e
          rcases e' with q | q | q | q
          · rw [q] at lt; exact absurd lt (Nat.not_lt.mpr (Nat.le_add_right _ _))
          · rw [q] at lt; exact absurd lt (Nat.not_lt.mpr (Nat.le_add_right _ _))
          · rw [q] at lt; exact absurd lt (Nat.lt_irrefl _)
          · rw [q] at lt; exact absurd lt (Nat.not_lt.mpr (Nat.le_add_right _ _))) (hk c o e)
        have hTI2 : h2'.get? (s1.heap.objs.size + 2) = _ := hk2 _ _ (by simp) hTI
        have big : s1.heap.objs.size ≤ h2'.objs.size := Nat.le_of_lt (Nat.lt_of_le_of_lt (Nat.le_add_right _ 2) (Heap.lt_size hTI2))
        have bigh : s1.heap.objs.size ≤ h'.objs.size := Nat.le_of_lt (Nat.lt_of_le_of_lt (Nat.le_add_right _ 2) (Heap.lt_size hTI))
        let ps : List NewP := (as.zip ((its.zip its2).zip (xs.zip ys))).map fun z => (z.1, tupO [z.2.1.1, z.2.1.2], z.2.2)
        have hn : min its.toArray.size its2.toArray.size = min its.length its2.length := by simp only [List.size_toArray]
        have l1 : (its.zip its2).length = as.length := by rw [List.length_zip, hl, hn]
        have l2 : (xs.zip ys).length = as.length := by rw [List.length_zip, hl, hn, lx, ly]
        have e1 : ps.map (·.1) = as := by
          show ((as.zip ((its.zip its2).zip (xs.zip ys))).map _).map _ = as
          rw [List.map_map]
          exact List.map_fst_zip (by rw [List.length_zip]; omega)
        have e2 : ps.map (·.2.2) = xs.zip ys := by
          show ((as.zip ((its.zip its2).zip (xs.zip ys))).map _).map _ = _
          rw [List.map_map]
          have : ((fun z : NewP => z.2.2) ∘ fun z : Addr × (Value × Value) × V × V => ((z.1, tupO [z.2.1.1, z.2.1.2], z.2.2) : NewP)) = (fun z : (Value × Value) × V × V => z.2) ∘ (fun z : Addr × (Value × Value) × V × V => z.2) := rfl
          rw [this, ← List.map_map, List.map_snd_zip (by rw [List.length_zip]; omega), List.map_snd_zip (by omega)]
        have nd : (ps.map (·.1)).Nodup := by
          rw [e1]
          exact List.Pairwise.imp (fun h => Nat.ne_of_lt h) hG.rise
        have up : ∀ c o, h2'.get? c = some o → (h2'.push (tupO (as.map Value.ref))).get? c = some o := fun c o e => Heap.get?_push_of_some _ e
        have each : ∀ p ∈ ps, p.1 ∈ as ∧ p.2.1.dict = none ∧ ∀ H2, ObjOk X.prog X.w H2 (h2'.push (tupO (as.map Value.ref))) p.1 (.frz p.2.1 (.tup [p.2.2.1, p.2.2.2])) := fun p hp => by
          obtain ⟨z, hzm, rfl⟩ := List.mem_map.mp hp
          obtain ⟨j, hj⟩ := List.mem_iff_getElem?.mp hzm
          obtain ⟨j1, j2⟩ := List.getElem?_zip_eq_some.mp hj
          obtain ⟨j3, j4⟩ := List.getElem?_zip_eq_some.mp j2
          obtain ⟨j5, j6⟩ := List.getElem?_zip_eq_some.mp j3
          obtain ⟨j7, j8⟩ := List.getElem?_zip_eq_some.mp j4
          obtain ⟨x, y, ⟨x1, y1⟩, hT⟩ := hG.pairs j z.1 j1
          have x1' : its[j]? = some x := by simpa using x1
          have y1' : its2[j]? = some y := by simpa using y1
          have ex : z.2.1.1 = x := Option.some.inj (j5.symm.trans x1')
          have ey : z.2.1.2 = y := Option.some.inj (j6.symm.trans y1')
          obtain ⟨u1, g1, g2⟩ := rv.get j7
          obtain ⟨u2, g3, g4⟩ := rv2.get j8
          have eu1 : u1 = x := Option.some.inj (g1.symm.trans x1')
          have eu2 : u2 = y := Option.some.inj (g3.symm.trans y1')
          refine ⟨List.mem_of_getElem? j1, rfl, fun H2 => ?_⟩
          show ObjOk _ _ _ _ z.1 (.frz (tupO [z.2.1.1, z.2.1.2]) (.tup [z.2.2.1, z.2.2.2]))
          rw [ex, ey]
          exact frz_ok (up _ _ hT) ⟨by show 2 ≤ sizeLine; decide, [x, y], .cons (by rw [← eu1]; exact g2) (.cons (by rw [← eu2]; exact g4) .nil), ⟨_, up _ _ hT, rfl, _, rfl⟩⟩
        have fresh : ∀ c, s1.heap.objs.size ≤ c → H1 c = none := fun c hcl => I1.hok.fresh hcl
        have J0 : Inv X pins σ H1 { s1 with heap := h2'.push (tupO (as.map Value.ref)), toks := tk } := I1.kept fun c o e => up c o (kk c o e)
        have J1 := laid_all I1 J0 nd fun p hp => by
          obtain ⟨q1, q2, q3⟩ := each p hp
          have := Nat.le_trans bigh (hG.above _ q1)
          exact ⟨this, fresh _ this, q3⟩
        have hTn : h2'.objs.size ∉ ps.map (·.1) := fun hm => by
          rw [e1] at hm
          exact absurd (hG.there hm) (Nat.lt_irrefl _)
        have hT0 : laidAll H1 ps h2'.objs.size = none := by rw [laidAll_ne hTn]; exact fresh _ big
        have hlv : (ps.map fun p => V.ref p.1) = as.map V.ref := by
          have z := congrArg (List.map V.ref) e1
          rw [List.map_map] at z
          exact z
        have new : ObjOk X.prog X.w (upd (laidAll H1 ps) h2'.objs.size (.frz (tupO (as.map Value.ref)) (.tup (ps.map fun p => V.ref p.1)))) (h2'.push (tupO (as.map Value.ref))) h2'.objs.size (.frz (tupO (as.map Value.ref)) (.tup (ps.map fun p => V.ref p.1))) := by
          refine frz_ok (Heap.get?_push_size _ rfl) ⟨?_, as.map Value.ref, ?_, IsTup.new _ _⟩
          · rw [hlv, List.length_map, hl, hn]; omega
          · rw [hlv]; exact refs_vals as
        have J2 : Inv X pins σ (upd (laidAll H1 ps) h2'.objs.size (.frz (tupO (as.map Value.ref)) (.tup (ps.map fun p => V.ref p.1)))) { s1 with heap := h2'.push (tupO (as.map Value.ref)), toks := tk } :=
          J1.take (h' := h2'.push (tupO (as.map Value.ref))) (t' := tk) (fun c ob _ e => e) (I1.fpOk big hT0) new
        exact ⟨.ref h2'.objs.size, _, J2, rfl, q (by omega) ps _ _ e2 (fun p hp => ⟨(each p hp).2.1, fresh _ (Nat.le_trans bigh (hG.above _ (each p hp).1))⟩) nd hTn (fresh _ big) rfl⟩
/-! the mirror -/
section
variable {X : Cx} {W : WT} {U : XK} {K : KW} {S : Store}
theorem rep_laid : ∀ {ps : List NewP} {xs ys : List D} {vs us : List V} {g : Gh} {H : Hp}, Rep K g S H → RDs K g xs vs → RDs K g ys us → ps.map (·.2.2) = vs.zip us → (∀ p ∈ ps, p.2.1.dict = none ∧ H p.1 = none) → (ps.map (·.1)).Nodup →
    ∃ g', Ext g g' ∧ Rep K g' S (laidAll H ps) ∧ RDs K g' (zipL xs ys) (ps.map fun p => V.ref p.1)
  | [], xs, ys, vs, us, g, H, R, rx, ry, e, _, _ => by
    refine ⟨g, .refl g, R, ?_⟩
    cases rx with
    | nil => unfold zipL; exact .nil
    | cons a b =>
      cases ry with
      | nil => unfold zipL; exact .nil
      | cons c d => cases e
  | p :: ps, xs, ys, vs, us, g, H, R, rx, ry, e, h, nd => by
    rw [List.map_cons, List.nodup_cons] at nd
    cases rx with
    | nil => cases e
    | cons a b =>
      cases ry with
      | nil => cases e
      | cons c d =>
        rw [List.map_cons, List.zip_cons_cons] at e
        injection e with e1 e2
        obtain ⟨pa, po, px, py⟩ := p
        obtain ⟨rfl, rfl⟩ := Prod.mk.inj e1
        obtain ⟨h1, h2⟩ := h _ List.mem_cons_self
        obtain ⟨g1, x1, R1, r1⟩ := pair_new R h1 h2 a c
        obtain ⟨g2, x2, R2, r2⟩ := rep_laid (ps := ps) R1 (b.mono x1.toExtG) (d.mono x1.toExtG) e2 (fun q hq => by
          obtain ⟨q1, q2⟩ := h q (List.mem_cons_of_mem _ hq)
          exact ⟨q1, by rw [upd_ne (fun z => nd.1 (by rw [← z]; exact List.mem_map.mpr ⟨q, hq, rfl⟩))]; exact q2⟩) nd.2
        refine ⟨g2, x1.trans x2, R2, ?_⟩
        unfold zipL
        exact .cons (r1.mono x2.toExtG) r2
def fTupZip (f : F (List D)) : FE := fun ρ S => (f ρ S).bind fun ds S1 => match ds with
  | [d, e] => match d.still, e.still with
    | some xs, some ys => .ok (.tup (zipL xs ys)) S1
    | _, _ => .no
  | _ => .no
theorem me_tupZip {e e2 : Expr} {f : F (List D)} {p p2 pos pos2 : Pos} (hgt : Gl X "tuple") (hmt : X.mg "tuple" = none) (hg : Gl X "zip") (hm : X.mg "zip" = none) (ha : MA X W [e, e2] f) (hc : X.calm = true := by rfl)
    (na : starEach [.Call (.Name "zip" p2) [e, e2] [] pos2] X.env = (false, eval (.Call (.Name "zip" p2) [e, e2] [] pos2) X.env) :: starEach [] X.env := by rfl)
    (hs : starEach [e, e2] X.env = (false, eval e X.env) :: starEach [e2] X.env := by rfl) (hpl : (backTo pos2 (starEach [e2] X.env)).any (·.1) = false := by rfl) :
    ME X W (.Call (.Name "tuple" p) [.Call (.Name "zip" p2) [e, e2] [] pos2] [] pos) (fTupZip f) := PE.imp (pe_tupZ hc hgt hmt hg hm ha na hs hpl) fun σ H Q h => by
  obtain ⟨g, S, ρ, R, rs, q0⟩ := h
  refine ⟨g, S, ρ, R, rs, (pst.bind q0).mp fun g1 S1 H1 ds x R1 q vs rvs => ?_⟩
  match ds, rvs, q with
  | [], _, q => exact q.elim
  | [_], _, q => exact q.elim
  | _ :: _ :: _ :: _, _, q => exact q.elim
  | [d, e], rvs, q =>
    obtain ⟨v1, v2, rfl, r1, r2⟩ := rvs.two
    simp only at q
    cases e1 : d.still with
    | none => simp only [e1] at q; exact q.elim
    | some xs =>
      cases e2 : e.still with
      | none => simp only [e1, e2] at q; exact q.elim
      | some ys =>
        simp only [e1, e2] at q
        obtain ⟨a, ws, b1, rfl, h1, h2⟩ := still_K r1 e1
        obtain ⟨b, us, b2, rfl, h3, h4⟩ := still_K r2 e2
        refine ⟨b1, b2, a, b, ws, us, rfl, sqK_sub R1.sub h1, sqK_sub R1.sub h3, fun _ ps T oT ep hp nd hT hT0 ho => ?_⟩
        obtain ⟨g2, x2, R2, r⟩ := rep_laid R1 h2 h4 ep hp nd
        have hT1 : laidAll H1 ps T = none := by rw [laidAll_ne hT]; exact hT0
        exact q _ _ (x2.trans (Gh.add_ext (R2.newG hT1))) (R2.add hT1) _ (.tup (.new ho) (r.mono (Gh.add_ext (R2.newG hT1)).toExtG))
end
end MK

namespace MK
open PySem PySem.Spec PyProof.Rows L2
section
variable {X : Cx} {W : WT} {U : XK} {K : KW} {g : Gh} {S : Store} {H : Hp}
/-! ### isinstance(x, T), T a built-in type -/
def kinds : List String := ["NoneType", "bool", "int", "str", "tuple", "list", "dict"]
def isiT (t T : String) : Option Bool := if t ∈ kinds ∧ T ∈ ["bool", "int", "str", "tuple", "list", "dict"] then some (t == T || (t == "bool" && T == "int")) else none
theorem isiT_is {K : PySem.W.Frag} {t T : String} {b : Bool} (h : isiT t T = some b) : PySem.W.kitOne K (.type t) (.type T) = some b := by
  unfold isiT at h
  split at h
  · rename_i c
    obtain ⟨c1, c2⟩ := c
    unfold kinds at c1
    simp only [List.mem_cons, List.not_mem_nil, or_false] at c1 c2
    rw [← h]
    rcases c1 with rfl | rfl | rfl | rfl | rfl | rfl | rfl <;> rcases c2 with rfl | rfl | rfl | rfl | rfl | rfl <;> rfl
  · cases h
def kindD (S : Store) : D → Option String
  | .non => some "NoneType"
  | .bl _ => some "bool"
  | .int _ => some "int"
  | .str _ => some "str"
  | .tup _ => some "tuple"
  | .lst _ => some "list"
  | .flst _ => some "list"
  | .dct _ => some "dict"
  | .cell k => match S[k]? with
    | some (.lst _) => some "list"
    | some (.dct _) => some "dict"
    | _ => none
  | _ => none
def KdV (K : PySem.W.Frag) (w : World) (H : Hp) (x : V) (t : String) : Prop := TyX K H x (.type t) ∨ (t = "dict" ∧ ∃ a es, x = .ref a ∧ DAt K w H a es)
def rIsiN (K : PySem.W.Frag) (w : World) : List V → Hp → VK → Prop := fun xs H Q => ∃ x t T b, xs = [x, .ty T] ∧ KdV K w H x t ∧ isiT t T = some b ∧ Q (.bl b) H
theorem call_isiN : CallR X (.builtin "isinstance") (rIsiN X.K X.w) := by
  intro pins s σ H xs us Q I r h
  obtain ⟨x, t, T, b, rfl, k, e, q⟩ := h
  rcases k with k | ⟨rfl, a, es, rfl, d⟩
  · exact call_isi pins s σ H _ us Q I r ⟨x, .ty T, .type t, .type T, b, rfl, .ty T, k, isiT_is e, q⟩
  · obtain ⟨u1, u2, rfl, r1, r2⟩ := vals2 r
    have e2 : u2 = .type T := (ClsV.ty T).eq r2
    subst e2
    cases (show u1 = Value.ref a from r1)
    obtain ⟨o, ds, ep, h1, h2, _⟩ := d.raw I
    exact PySem.W.kia_one (K := X.K) PySem.W.kitx_dict I.kIn ⟨o, h1, h2.1⟩ (isiT_is e) (fun z => nomatch z) fun tk => ⟨.bl b, H, I.tok tk, rfl, q⟩
theorem tyx_lst {K : PySem.W.Frag} {H : Hp} {a : Addr} {xs : List V} (h : SqL K H a xs) : TyX K H (.ref a) (.type "list") := by
  rcases h with (h | ⟨o, h⟩) | ⟨o, its, n, h1, h2, _⟩
  · exact .base (.lst h)
  · exact .base (.frz h)
  · exact .kList h1 h2
theorem tyx_tup {K : PySem.W.Frag} {H : Hp} {a : Addr} {xs : List V} (h : SqT K H a xs) : TyX K H (.ref a) (.type "tuple") := by
  rcases h with (h | ⟨o, h⟩) | ⟨o, its, n, h1, h2, _⟩
  · exact .base (.tup h)
  · exact .fTuple h
  · exact .kTuple h1 h2
theorem RD.kind (R : Rep K g S H) {d : D} {v : V} {t : String} (r : RD K.toKR g d v) (e : kindD S d = some t) : KdV K.K K.w H v t := by
  cases r with
  | non => cases e; exact .inl (.base .non)
  | bl b => cases e; exact .inl (.base (.bl b))
  | int i => cases e; exact .inl (.base (.int i))
  | str x => cases e; exact .inl (.base (.str x))
  | tup h1 h2 => cases e; exact .inl (tyx_tup (sameT R.sub h1.sq))
  | lst h1 h2 =>
    cases e
    obtain ⟨a, vs, e1, h3, _⟩ := (RD.lst (K := K.toKR) h1 h2).asL R rfl
    cases e1
    exact .inl (tyx_lst h3)
  | flst h1 h2 =>
    cases e
    obtain ⟨a, vs, e1, h3, _⟩ := (RD.flst (K := K.toKR) h1 h2).asL R rfl
    cases e1
    exact .inl (tyx_lst h3)
  | dct h1 h2 h3 =>
    cases e
    obtain ⟨a, es, e1, h4, _⟩ := (RD.dct (K := K.toKR) h1 h2 h3).asD R rfl
    cases e1
    exact .inr ⟨rfl, _, _, rfl, h4⟩
  | cell h1 h2 =>
    rename_i k a
    unfold kindD at e
    simp only at e
    split at e
    · rename_i ds q
      cases e
      obtain ⟨_, vs, h3, h4⟩ := R.lst q
      rw [h2] at h3
      exact .inl (.base (.lst h3))
    · rename_i kvs q
      cases e
      obtain ⟨_, es, h3, h4, h5⟩ := R.dct q
      rw [h2] at h3 h4
      exact .inr ⟨rfl, a, es, rfl, ⟨.inl h3, h4, h5.nv R.sub⟩⟩
    · cases e
  | ref a => cases e
  | ty n => cases e
def isiD : BN := fun ds S => match ds with
  | [d, .ty T] => match kindD S d with
    | some t => match isiT t T with
      | some b => .ok (.bl b) S
      | none => .no
    | none => .no
  | _ => .no
theorem c_isi : CallM K (rIsiN K.K K.w) isiD := by
  intro W g S H ds vs Q R r p
  unfold isiD at p
  split at p
  · rename_i d T
    obtain ⟨v1, v2, rfl, r1, r2⟩ := r.two
    cases r2
    cases e1 : kindD S d with
    | none => simp only [e1] at p; exact p.elim
    | some t =>
      cases e2 : isiT t T with
      | none => simp only [e1, e2] at p; exact p.elim
      | some b =>
        simp only [e1, e2] at p
        exact ⟨v1, t, T, b, rfl, r1.kind R e1, e2, pst.here p R _ (.bl _)⟩
  · exact p.elim
theorem me_ty {x : Str} {T : String} {pos : Pos} (hg : Gl X x) (hm : X.mg x = none) (hv : bootBuiltins x = some (.type T)) (hn : x ≠ "__name__" := by decide) (hd : (x == ("__debug__" : Str)) = false := by decide) : ME X W (.Name x pos) (fC (.ty T)) := me_c (v := .ty T) (pe_bltn hg hm hv rfl hn hd) fun _ => .ty T
/-! ### all, any of a list of truths; max, min of a list of ints -/
def blsOf : List D → Option (List Bool)
  | [] => some []
  | .bl b :: ds => (blsOf ds).map (b :: ·)
  | _ => none
theorem RDs.bls {K : KR} : ∀ {ds : List D} {vs : List V} {bs : List Bool}, RDs K g ds vs → blsOf ds = some bs → vs = bs.map V.bl
  | _, _, _, .nil, e => by cases e; rfl
  | _, _, _, .cons (d := d) h r, e => by
    cases h with
    | bl b =>
      unfold blsOf at e
      obtain ⟨cs, h1, rfl⟩ := Option.map_eq_some_iff.mp e
      rw [RDs.bls r h1]
      rfl
    | _ => cases e
theorem blsOf_map (bs : List Bool) : blsOf (bs.map D.bl) = some bs := by
  induction bs with
  | nil => rfl
  | cons b bs ih => rw [List.map_cons]; unfold blsOf; rw [ih]; rfl
def blsD (f : List Bool → Bool) : BN := fun ds S => match ds with
  | [d] => match d.asL S with
    | some xs => match blsOf xs with
      | some bs => .ok (.bl (f bs)) S
      | none => .no
    | none => .no
  | _ => .no
def allD : BN := blsD fun bs => bs.all id
def anyD : BN := blsD fun bs => bs.any id
theorem c_bls {f : List Bool → Bool} : CallM K (fun vs H Q => ∃ (a : Addr) (bs : List Bool), vs = [V.ref a] ∧ SqL K.K H a (bs.map V.bl) ∧ Q (.bl (f bs)) H) (blsD f) := by
  intro W g S H ds vs Q R r p
  match ds, r, p with
  | [], _, p => exact p.elim
  | _ :: _ :: _, _, p => exact p.elim
  | [d], r, p =>
    obtain ⟨v, rfl, r0⟩ := r.one
    unfold blsD at p
    simp only at p
    cases e : d.asL S with
    | some xs =>
      obtain ⟨a, ws, rfl, h1, h2⟩ := r0.asL R e
      cases e2 : blsOf xs with
      | none => simp only [e, e2] at p; exact p.elim
      | some bs =>
        simp only [e, e2] at p
        exact ⟨a, bs, rfl, by rw [← h2.bls e2]; exact h1, pst.here p R _ (.bl _)⟩
    | none => simp only [e] at p; exact p.elim
theorem c_all : CallM K (rAll K.K) allD := c_bls
theorem c_any : CallM K (rAny K.K) anyD := c_bls
def maxL : List Int → Int
  | [] => 0
  | [x] => x
  | x :: xs => max x (maxL xs)
def minL : List Int → Int
  | [] => 0
  | [x] => x
  | x :: xs => min x (minL xs)
theorem maxL_is : ∀ ns : List Int, 0 < ns.length → maxL ns ∈ ns ∧ ∀ y ∈ ns, y ≤ maxL ns
  | [], h => absurd h (Nat.lt_irrefl _)
  | [x], _ => ⟨List.mem_singleton.mpr rfl, fun y hy => by rw [List.mem_singleton.mp hy]; exact Int.le_refl _⟩
  | x :: y :: r, _ => by
    obtain ⟨h1, h2⟩ := maxL_is (y :: r) (Nat.succ_pos _)
    have e : maxL (x :: y :: r) = max x (maxL (y :: r)) := rfl
    rw [e]
    refine ⟨?_, fun z hz => ?_⟩
    · by_cases c : x ≤ maxL (y :: r)
      · rw [Int.max_eq_right c]; exact List.mem_cons_of_mem _ h1
      · rw [Int.max_eq_left (by omega)]; exact List.mem_cons_self
    · rcases List.mem_cons.mp hz with rfl | hz
      · exact Int.le_max_left _ _
      · exact Int.le_trans (h2 z hz) (Int.le_max_right _ _)
theorem minL_is : ∀ ns : List Int, 0 < ns.length → minL ns ∈ ns ∧ ∀ y ∈ ns, minL ns ≤ y
  | [], h => absurd h (Nat.lt_irrefl _)
  | [x], _ => ⟨List.mem_singleton.mpr rfl, fun y hy => by rw [List.mem_singleton.mp hy]; exact Int.le_refl _⟩
  | x :: y :: r, _ => by
    obtain ⟨h1, h2⟩ := minL_is (y :: r) (Nat.succ_pos _)
    have e : minL (x :: y :: r) = min x (minL (y :: r)) := rfl
    rw [e]
    refine ⟨?_, fun z hz => ?_⟩
    · by_cases c : x ≤ minL (y :: r)
      · rw [Int.min_eq_left c]; exact List.mem_cons_self
      · rw [Int.min_eq_right (by omega)]; exact List.mem_cons_of_mem _ h1
    · rcases List.mem_cons.mp hz with rfl | hz
      · exact Int.min_le_left _ _
      · exact Int.le_trans (Int.min_le_right _ _) (h2 z hz)
def max1D : BN := fun ds S => match ds with
  | [d] => match d.asL S with
    | some xs => match intsOf xs with
      | some ns => if 0 < ns.length then .ok (.int (maxL ns)) S else .no
      | none => .no
    | none => .no
  | _ => .no
def min1D : BN := fun ds S => match ds with
  | [d] => match d.asL S with
    | some xs => match intsOf xs with
      | some ns => if 0 < ns.length then .ok (.int (minL ns)) S else .no
      | none => .no
    | none => .no
  | _ => .no
theorem c_max1 : CallM K (rMax K.K) max1D := by
  intro W g S H ds vs Q R r p
  match ds, r, p with
  | [], _, p => exact p.elim
  | _ :: _ :: _, _, p => exact p.elim
  | [d], r, p =>
    obtain ⟨v, rfl, r0⟩ := r.one
    unfold max1D at p
    simp only at p
    cases e : d.asL S with
    | some xs =>
      obtain ⟨a, ws, rfl, h1, h2⟩ := r0.asL R e
      cases e2 : intsOf xs with
      | none => simp only [e, e2] at p; exact p.elim
      | some ns =>
        simp only [e, e2] at p
        by_cases c : 0 < ns.length
        · rw [if_pos c] at p
          obtain ⟨m1, m2⟩ := maxL_is ns c
          refine ⟨a, ns, rfl, by rw [← h2.ints e2]; exact h1, c, fun m hm hy => ?_⟩
          have : m = maxL ns := Int.le_antisymm (m2 m hm) (hy _ m1)
          rw [this]
          exact pst.here p R _ (.int _)
        · rw [if_neg c] at p; exact p.elim
    | none => simp only [e] at p; exact p.elim
theorem c_min1 : CallM K (rMin K.K) min1D := by
  intro W g S H ds vs Q R r p
  match ds, r, p with
  | [], _, p => exact p.elim
  | _ :: _ :: _, _, p => exact p.elim
  | [d], r, p =>
    obtain ⟨v, rfl, r0⟩ := r.one
    unfold min1D at p
    simp only at p
    cases e : d.asL S with
    | some xs =>
      obtain ⟨a, ws, rfl, h1, h2⟩ := r0.asL R e
      cases e2 : intsOf xs with
      | none => simp only [e, e2] at p; exact p.elim
      | some ns =>
        simp only [e, e2] at p
        by_cases c : 0 < ns.length
        · rw [if_pos c] at p
          obtain ⟨m1, m2⟩ := minL_is ns c
          refine ⟨a, ns, rfl, by rw [← h2.ints e2]; exact h1, c, fun m hm hy => ?_⟩
          have : m = minL ns := Int.le_antisymm (hy _ m1) (m2 m hm)
          rw [this]
          exact pst.here p R _ (.int _)
        · rw [if_neg c] at p; exact p.elim
    | none => simp only [e] at p; exact p.elim
/-! ### range(a, b, -1) -/
def rngDn (lo : Int) (n : Nat) : List D := (List.range n).map fun i => D.int (lo - (i : Nat))
theorem rngDn_length (lo : Int) (n : Nat) : (rngDn lo n).length = n := by unfold rngDn; rw [List.length_map, List.length_range]
theorem rngDn_get {n i : Nat} {lo : Int} {d : D} (h : (rngDn lo n)[i]? = some d) : d = .int (lo - (i : Nat)) ∧ i < n := by
  unfold rngDn at h
  rw [List.getElem?_map] at h
  obtain ⟨j, h1, rfl⟩ := Option.map_eq_some_iff.mp h
  obtain ⟨h2, h3⟩ := List.getElem?_eq_some_iff.mp h1
  rw [List.getElem_range] at h3
  subst h3
  exact ⟨rfl, by simpa using h2⟩
theorem it_dn {g : Gh} {lo : Int} {n : Nat} : ItOk K g (rngDn lo n) (Itc lo (-1) n) := by
  intro g' S' H' x R
  refine ⟨by rw [rngDn_length]; exact Nat.le_refl n, fun i d e => ?_⟩
  obtain ⟨h1, h2⟩ := rngDn_get e
  refine ⟨h2, fun y H'' z => ?_⟩
  obtain ⟨rfl, rfl⟩ := z
  subst h1
  have e : lo + ((i : Nat) : Int) * (-1) = lo - (i : Nat) := by omega
  exact ⟨g', .refl g', R, by rw [e]; exact .int _⟩
def iRngD (f : F (List D)) : F (List D) := fun ρ S => (f ρ S).bind fun ds S1 => match ds with
  | [.int i, .int j, .int k] => if (-(2 ^ 62) ≤ i ∧ i < 2 ^ 62 ∧ -(2 ^ 62) ≤ j ∧ j < 2 ^ 62) ∧ k = -1 then .ok (rngDn i (i - j).toNat) S1 else .no
  | _ => .no
theorem mi_range3 {tg a b c : Expr} {f k m : FE} {p pos : Pos} (hg : Gl X "range") (hm : X.mg "range" = none) (ha : ME X W a f) (hb : ME X W b k) (hc : ME X W c m)
    (h1 : starEach [a, b, c] X.env = (false, eval a X.env) :: starEach [b, c] X.env := by rfl) (h2 : starEach [b, c] X.env = (false, eval b X.env) :: starEach [c] X.env := by rfl) (h3 : starEach [c] X.env = (false, eval c X.env) :: starEach [] X.env := by rfl) (hpl : (backTo pos (starEach [b, c] X.env)).any (·.1) = false := by rfl) :
    MI X W tg (.Call (.Name "range" p) [a, b, c] [] pos) (iRngD (fCons f (fCons k (fCons m fNil)))) :=
  PI.imp (pi_range3 hg hm (ma_cons ha (ma_cons hb (ma_cons hc ma_nil h3) h2) h1) h1 hpl) fun σ H R h => by
    obtain ⟨g, S, ρ, Rp, rs, p⟩ := h
    refine ⟨g, S, ρ, Rp, rs, (pst.bind p).same.mp fun g1 S1 H1 ds x R1 ⟨e, q⟩ vs r => ?_⟩
    have hl := many_cons (many_cons (many_cons many_nil)) ρ S ds S1 e
    match ds, hl with
    | [d, d', d''], _ =>
      cases r with
      | cons r1 rr =>
        cases rr with
        | cons r2 rr =>
          cases rr with
          | cons r3 rr =>
            cases rr
            cases r1 with
            | int i =>
              cases r2 with
              | int j =>
                cases r3 with
                | int l =>
                  have q' : pst (kwX X W) W g1 (if (-(2 ^ 62) ≤ i ∧ i < 2 ^ 62 ∧ -(2 ^ 62) ≤ j ∧ j < 2 ^ 62) ∧ l = -1 then Out.ok (rngDn i (i - j).toNat) S1 else Out.no) _ := q
                  by_cases c : (-(2 ^ 62) ≤ i ∧ i < 2 ^ 62 ∧ -(2 ^ 62) ≤ j ∧ j < 2 ^ 62) ∧ l = -1
                  · rw [if_pos c] at q'
                    obtain ⟨⟨c1, c2, c3, c4⟩, rfl⟩ := c
                    exact ⟨i, j, -1, (i - j).toNat, rfl, RgC.neg c1 c2 c3 c4, pst.here q' R1 _ it_dn⟩
                  · rw [if_neg c] at q'; exact q'.elim
                | _ => exact q.elim
              | _ => exact q.elim
            | _ => exact q.elim
/-! ### a tuple of the module's top -/
def KTup (K : PySem.W.Frag) (a : Addr) (ds : List D) : Prop := ∃ (o : Obj) (its : Array Value) (n : Nat) (vs : List V), o.dict = none ∧ K.lookup a = some o ∧ o.cls = .type "tuple" ∧ o.data = .seq its n ∧ its.size ≤ sizeLine ∧ Vals vs its.toList ∧ ∀ (K' : KR) (g : Gh), RDs K' g ds vs
theorem me_glT {x : Str} {a : Addr} {ds : List D} {pos : Pos} (hg : Gl X x) (hm : X.mg x = some (.ref a)) (ht : KTup X.K a ds) (hd : (x == ("__debug__" : Str)) = false := by decide) : ME X W (.Name x pos) (fC (.tup ds)) := by
  obtain ⟨o, its, n, vs, h1, h2, h3, h4, h5, h6, h7⟩ := ht
  exact me_c (v := .ref a) (pe_glob hg hm rfl hd) fun g => .tup (.inr ⟨o, its, n, h1, h2, h3, h4, h5, h6⟩) (h7 _ g)
inductive Flat : List D → List V → List Value → Prop
  | nil : Flat [] [] []
  | int {i : Int} {t : Tok} {ds : List D} {vs : List V} {us : List Value} : Flat ds vs us → Flat (.int i :: ds) (.int i :: vs) (.int i t :: us)
  | str {x : Str} {t : Tok} {ds : List D} {vs : List V} {us : List Value} : Flat ds vs us → Flat (.str x :: ds) (.str x :: vs) (.str x t :: us)
theorem Flat.vals {ds : List D} {vs : List V} {us : List Value} (h : Flat ds vs us) : Vals vs us := by
  induction h with
  | nil => exact .nil
  | @int i t _ _ _ _ ih => exact .cons ⟨t, rfl⟩ ih
  | @str x t _ _ _ _ ih => exact .cons ⟨t, rfl⟩ ih
theorem Flat.rds {ds : List D} {vs : List V} {us : List Value} (h : Flat ds vs us) (K : KR) (g : Gh) : RDs K g ds vs := by
  induction h with
  | nil => exact .nil
  | int _ ih => exact .cons (.int _) ih
  | str _ ih => exact .cons (.str _) ih
theorem ktup_of {K : PySem.W.Frag} {a : Addr} {ds : List D} {vs : List V} {us : List Value} {n : Nat} {sl : Array (Option Value)} (h : K.lookup a = some ⟨.type "tuple", none, .seq us.toArray n, sl⟩) (f : Flat ds vs us) (hl : us.length ≤ 1000) : KTup K a ds :=
  ⟨_, _, _, vs, rfl, h, rfl, rfl, by rw [List.size_toArray, sizeLine_eq]; omega, f.vals, f.rds⟩
theorem bb_all : bootBuiltins "all" = some (.builtin "all") := by kernel_rfl
theorem bb_any : bootBuiltins "any" = some (.builtin "any") := by kernel_rfl
theorem bb_isinstance : bootBuiltins "isinstance" = some (.builtin "isinstance") := by kernel_rfl
theorem bb_bool : bootBuiltins "bool" = some (.type "bool") := by kernel_rfl
theorem bb_set : bootBuiltins "set" = some (.type "set") := by kernel_rfl
end
end MK

namespace MK
open PySem PySem.Spec PyProof.Rows L2
/-! ### set(l) of a list of ints, sorted of it -/
section
variable {P : Program} {w : World} {A : Around} {E : Value → Shared → Prop} {s : Shared}
abbrev nset (w : World) : Obj := { cls := .type "set", dict := none, data := .set #[] 0 (.fresh 0 0 (!w.params.followText "set-order")) }
set_option maxRecDepth 100000 in
set_option maxHeartbeats 3200000 in
theorem set_of_lst {b : Addr} {ys : Array Value} (ks : List Int) {Q : Value → Shared → Prop} (quiet : A.handled = none) (isl : s.heap.IsList b ys) (each : IntsAre ys.toList ks) (few : ks.length + 1 < scanBound)
    (q : ∀ (hp : Heap) (tk c : Nat), SetR w hp s.heap.objs.size (fun j => decide (j ∈ ks)) c → c ≤ ks.length → (∀ x o, s.heap.get? x = some o → hp.get? x = some o) → Q (.ref s.heap.objs.size) { s with heap := hp, toks := tk }) :
    wpAny (model P w) A (call (.type "set") [.ref b]) Q E s := by
  have size : ys.size = ks.length := (Array.length_toList (xs := ys)).symm.trans (IntsAre.length each)
  obtain ⟨m1, m2, m3⟩ := F.called_set.mro
  have f1 := F.called_set.made
  have f2 := F.called_set.sub
  have f3 := F.called_set.notType
  have f4 := F.called_set.canCreate
  have f5 := F.typeCall_set_1 (.ref b)
  refine wpAny_call (codeAny_of_tree (show wpAny _ _ (callAny (.type "set") _) _ _ _ from wpAny_pure ⟨Code.quiet_builtin _ (by decide +kernel), codeAny_builtin F.entry_type_call ?_⟩))
  rw [Around.under_plain (weight_type_call_type "set" [.ref b] []) rfl]
  repeat (any_goals (first | assumption | wp_step))
  refine codeAny_mono (code_set_led1 (.ref b) (E := E) (Q₁ := fun z s1 => z = .ref s.heap.objs.size ∧ s1 = { s with heap := s.heap.push { cls := .type "set", dict := none, data := .set #[] 0 (.fresh 0 0 (!w.params.followText "set-order")) } }) ⟨rfl, rfl⟩) fun z s1 hz => ?_
  match z, hz with
  | .error _, hz => exact hz
  | .ok (.ret z), hz =>
    obtain ⟨rfl, rfl⟩ := hz
    generalize hN : ({ cls := .type "set", dict := none, data := .set #[] 0 (.fresh 0 0 (!w.params.followText "set-order")) } : Obj) = N
    have at0 : (s.heap.push N).get? s.heap.objs.size = some N := Heap.get?_push_size _ (by subst hN; rfl)
    have ty : Shared.TypeIs { s with heap := s.heap.push N } (.ref s.heap.objs.size) "set" := ⟨N, at0, by rw [← hN]⟩
    have g1 := F.called_set.init.lookup
    have g2 := F.called_set.init.bind (.ref s.heap.objs.size)
    repeat (any_goals (first | assumption | wp_step))
    refine codeAny_mono (codeAny_call_builtin (R := wants (fun z s2 => z = .none ∧ ∃ hp tk c, s2 = { s with heap := hp, toks := tk } ∧ SetR w hp s.heap.objs.size (fun j => decide (j ∈ ks)) c ∧ c ≤ ks.length ∧
      (∀ x o, s.heap.get? x = some o → hp.get? x = some o)) E) F.called_set.init.plain F.entry_set_init (check_set_init_1 ty ?_)) fun z2 s2 hz2 => ?_
    · subst hN
      obtain ⟨⟨lc, ld, lx, lsl⟩, lo, lcls, lep, ldat⟩ := isl
      simp only at lcls ldat
      subst lcls ldat
      have lo2 : (s.heap.push (nset w)).get? b = some { cls := .type "list", dict := ld, data := .seq ys lep, slots := lsl } := Heap.get?_push_of_some _ lo
      have k1 := F.sub_list_set
      have k2 := F.sub_list_frozenset
      have k3 : (Value.type "list" == Value.type "dict") = false := by decide
      have isl2 : (s.heap.push (nset w)).IsList b ys := ⟨_, lo2, rfl, lep, rfl⟩
      unfold Builtin.«set.__init__» noKeywords Builtin.Frozenset.updateFrom
      generalize hIt : pyIter = IT
      wp_walk
      subst hIt
      refine wpAny_pyIter_list isl2 ?_
      refine wpAny_bind (wpAny_runValue ?_)
      have bl : b < s.heap.objs.size := Heap.lt_size lo
      have sz1 : (s.heap.push (nset w)).objs.size = s.heap.objs.size + 1 := Heap.size_push ..
      have q3 : A.in1.in1.in1.handled = none := by simp [quiet]
      have bne : b ≠ (s.heap.push (nset w)).objs.size := by rw [sz1]; exact Nat.ne_of_lt (Nat.lt_succ_of_lt bl)
      have out : s.heap.objs.size ∉ [(s.heap.push (nset w)).objs.size, b] := by
        rw [sz1]
        simp only [List.mem_cons, List.not_mem_nil, or_false, not_or]
        exact ⟨Nat.ne_of_lt (Nat.lt_succ_self _), Nat.ne_of_gt bl⟩
      refine set_update_ints ((Walks.list q3 _ b bne ys).toS) s.heap.objs.size out ks size few (fun i v hv => ?_) (ys.size - 0) 0 _ (by omega) (Nat.zero_le _) ⟨⟨_, Heap.get?_push_size _ rfl, rfl, rfl⟩, (isl2.push _)⟩ ⟨0, Nat.le_refl 0, ?_⟩ fun s3 c3 mv le3 R3 => ?_
      · have il : i < ks.length := by rw [← size]; exact (Array.getElem?_eq_some_iff.mp hv).1
        obtain ⟨t, e⟩ := IntsAre.int_at each i v (by rw [Array.getElem?_toList]; exact hv)
        exact ⟨ks[i], t, List.getElem?_eq_getElem il, by rw [e, List.getD_eq_getElem?_getD, List.getElem?_eq_getElem il]; rfl⟩
      · exact setR_new_at (Heap.get?_push_of_some _ at0)
      · have e3 : s3 = { s with heap := s3.heap, toks := s3.toks } := by
          have a1 := mv.gens
          have a2 := mv.drawn
          have a3 := mv.os
          cases s3
          simp only at a1 a2 a3
          rw [a1, a2, a3]
        show wpAny _ _ _ _ _ _
        refine wpAny_pure ?_
        show wpAny _ _ (ret Value.none) _ _ _
        refine wpAny_pure ⟨rfl, s3.heap, s3.toks, c3, e3, R3, by omega, fun x o e => ?_⟩
        have xl : x < s.heap.objs.size := Heap.lt_size e
        refine mv.heap x o ?_ (Heap.get?_push_of_some _ (Heap.get?_push_of_some _ e))
        simp only [List.mem_cons, List.not_mem_nil, or_false, not_or]
        rw [sz1]
        exact ⟨Nat.ne_of_lt xl, Nat.ne_of_lt (Nat.lt_succ_of_lt xl)⟩
    · match z2, hz2 with
      | .error _, hz2 => exact hz2
      | .ok (.ret _), hz2 =>
        obtain ⟨rfl, hp, tk, c, rfl, R3, le3, keep⟩ := hz2
        repeat (any_goals (first | assumption | wp_step))
        exact q _ _ _ R3 le3 keep
end
end MK

namespace MK
open PySem PySem.Spec PyProof.Rows L2
/-! the layer's rule -/
def sortU (ns : List Int) : List Int := ns.eraseDups.mergeSort fun a b => decide (a ≤ b)
theorem asc_int {xs ys : List Int} (hx : xs.Pairwise (· < ·)) (hy : ys.Pairwise (· < ·)) (h : ∀ a, a ∈ xs ↔ a ∈ ys) : xs = ys :=
  List.Perm.eq_of_pairwise (le := (· < ·)) (fun a b _ _ h1 h2 => by omega) hx hy ((List.perm_ext_iff_of_nodup (hx.imp fun h => Int.ne_of_lt h) (hy.imp fun h => Int.ne_of_lt h)).mpr h)
theorem nodup_dups : ∀ (n : Nat) (ns : List Int), ns.length ≤ n → ns.eraseDups.Nodup
  | _, [], _ => by simp
  | 0, _ :: _, h => by simp at h
  | n + 1, x :: xs, h => by
    rw [List.eraseDups_cons, List.nodup_cons]
    refine ⟨fun q => ?_, nodup_dups n _ (Nat.le_trans (List.length_filter_le _ _) (by simpa using h))⟩
    rw [List.mem_eraseDups, List.mem_filter] at q
    simp at q
theorem sortU_mem {ns : List Int} {a : Int} : a ∈ sortU ns ↔ a ∈ ns := by
  unfold sortU
  rw [List.mem_mergeSort, List.mem_eraseDups]
theorem sortU_asc (ns : List Int) : (sortU ns).Pairwise (· < ·) := by
  have h1 : (sortU ns).Pairwise (fun a b => decide (a ≤ b) = true) := List.pairwise_mergeSort (le := fun a b : Int => decide (a ≤ b)) (fun a b c h1 h2 => decide_eq_true (Int.le_trans (of_decide_eq_true h1) (of_decide_eq_true h2))) (fun a b => by simp only [Bool.or_eq_true, decide_eq_true_eq]; omega) _
  have h2 : (sortU ns).Nodup := (List.mergeSort_perm _ _).nodup_iff.mpr (nodup_dups _ ns (Nat.le_refl _))
  refine (h1.and h2).imp fun {a b} h => ?_
  have := of_decide_eq_true h.1
  have := h.2
  omega
section
variable {X : Cx} {W : WT} {U : XK} {K : KW} {g : Gh} {S : Store} {H : Hp}
def rSetI (K : PySem.W.Frag) (w : World) : List V → Hp → VK → Prop := fun xs H Q => ∃ (l : Addr) (ns : List Int), xs = [V.ref l] ∧ (SqL K H l (ns.map V.int) ∨ SqT K H l (ns.map V.int)) ∧ ns.length + 1 < scanBound ∧
  ∀ p n, H p = none → n = (sortU ns).length → Q (.ref p) (upd H p (SetO w p (fun k => decide (k ∈ ns)) n))
theorem set_many {w : World} {h : Heap} {a : Addr} {ns : List Int} {n : Nat} (R : SetR w h a (fun k => decide (k ∈ ns)) n) : n = (sortU ns).length := by
  obtain ⟨o, es, ep, t, _, _, _, _, nd, mem, _, _, hn, _⟩ := R
  rw [← hn, ← Array.length_toList, ← List.length_map (f := keyOf)]
  refine ((List.perm_ext_iff_of_nodup nd ((sortU_asc ns).imp fun h => Int.ne_of_lt h)).mpr fun k => ?_).length_eq
  rw [sortU_mem, ← mem k]
  simp
theorem cr_setI (hc : X.calm = true) : CallR X (.type "set") (rSetI X.K X.w) := by
  intro pins s σ H xs us Q I r h
  obtain ⟨l, ns, rfl, hl, few, q⟩ := h
  rw [Vals.ref1 r]
  have hn : H s.heap.objs.size = none := I.hok.fresh (Nat.le_refl _)
  rcases hl with hl | hl
  · obtain ⟨its, rv, pl, hz⟩ := I.list hl
    refine set_of_lst (P := X.prog) (w := X.w) ns (I.ok.hd hc) pl.isList (by simpa using ints_of_vals rv) few fun h' tk c R le k => ?_
    exact ⟨.ref s.heap.objs.size, _, I.laid (t' := tk) k (Nat.le_refl _) (setO_new R), rfl, q _ c hn (set_many R)⟩
  · obtain ⟨its, rv, pl, hz⟩ := I.tuple hl
    refine call_set_tupI (P := X.prog) (w := X.w) ns (I.ok.hd hc) pl (by simpa using ints_of_vals rv) few fun h' tk c R le k => ?_
    exact ⟨.ref s.heap.objs.size, _, I.laid (t' := tk) k (Nat.le_refl _) (setO_new R), rfl, q _ c hn (set_many R)⟩
def sortSetD (d : D) (S : Store) : Out D := match d.sq S with
  | some xs => match intsOf xs with
    | some ns => if (sortU ns).length < 64 ∧ ns.length ≤ 4000 then .ok (.lst ((sortU ns).map D.int)) S else .no
    | none => .no
  | none => .no
theorem rds_ints {K : KR} {g : Gh} : ∀ ns : List Int, RDs K g (ns.map D.int) (ns.map V.int)
  | [] => .nil
  | n :: ns => .cons (.int n) (rds_ints ns)
theorem me_sortSet {e : Expr} {f : FE} {p p2 pos2 pos : Pos} (hg : Gl X "sorted") (hm : X.mg "sorted" = none) (hg2 : Gl X "set") (hm2 : X.mg "set" = none) (bb1 : bootBuiltins "sorted" = some (.builtin "sorted")) (bb2 : bootBuiltins "set" = some (.type "set")) (h : ME X W e f) (hc : X.calm = true := by rfl)
    (na : starEach [.Call (.Name "set" p2) [e] [] pos2] X.env = (false, eval (.Call (.Name "set" p2) [e] [] pos2) X.env) :: starEach [] X.env := by rfl) (nb : starEach [e] X.env = (false, eval e X.env) :: starEach [] X.env := by rfl) :
    ME X W (.Call (.Name "sorted" p) [.Call (.Name "set" p2) [e] [] pos2] [] pos) (f1 sortSetD f) :=
  PE.imp (pe_callB (cr_sortedSet hc) hg hm bb1 (pa_cons (pe_callTy (cr_setI hc) hg2 hm2 bb2 (pa_cons h pa_nil (hs := nb)) (he := nb)) pa_nil (hs := na)) (he := na)) fun σ H Q h => by
  obtain ⟨g, S, ρ, R, rs, p⟩ := h
  refine ⟨g, S, ρ, R, rs, (pst.bind p).mp fun g1 S1 H1 d x R1 q v r => ?_⟩
  unfold sortSetD at q
  cases e1 : d.sq S1 with
  | none => simp only [e1] at q; exact q.elim
  | some xs =>
    cases e2 : intsOf xs with
    | none => simp only [e1, e2] at q; exact q.elim
    | some ns =>
      simp only [e1, e2] at q
      by_cases c : (sortU ns).length < 64 ∧ ns.length ≤ 4000
      · rw [if_pos c] at q
        obtain ⟨b, zs, rfl, hb, rz⟩ := r.sq R1 e1
        rw [rz.ints e2] at hb
        refine ⟨b, ns, rfl, hb, by unfold scanBound; omega, fun p n hp hn => ⟨p, _, n, rfl, upd_same, by omega, fun ms q2 ha hmm _ hq2 => ?_⟩⟩
        have ems : ms = sortU ns := asc_int ha (sortU_asc ns) fun a => by rw [hmm a, sortU_mem]; simp
        rw [ems]
        have R2 := R1.add (o := SetO X.w p (fun k => decide (k ∈ ns)) n) hp
        have x2 := Gh.add_ext (o := SetO X.w p (fun k => decide (k ∈ ns)) n) (R1.newG hp)
        exact q _ _ (x2.trans (Gh.add_ext (R2.newG hq2))) (R2.add hq2) _ (.lst upd_same (rds_ints _))
      · rw [if_neg c] at q; exact q.elim
/-- as a cell -/
def sortSetN (d : D) (S : Store) : Out D := match d.sq S with
  | some xs => match intsOf xs with
    | some ns => if (sortU ns).length < 64 ∧ ns.length ≤ 4000 then .ok (.cell S.length) (S ++ [.lst ((sortU ns).map D.int)]) else .no
    | none => .no
  | none => .no
theorem me_sortSetN {e : Expr} {f : FE} {p p2 pos2 pos : Pos} (hg : Gl X "sorted") (hm : X.mg "sorted" = none) (hg2 : Gl X "set") (hm2 : X.mg "set" = none) (bb1 : bootBuiltins "sorted" = some (.builtin "sorted")) (bb2 : bootBuiltins "set" = some (.type "set")) (h : ME X W e f) (hc : X.calm = true := by rfl)
    (na : starEach [.Call (.Name "set" p2) [e] [] pos2] X.env = (false, eval (.Call (.Name "set" p2) [e] [] pos2) X.env) :: starEach [] X.env := by rfl) (nb : starEach [e] X.env = (false, eval e X.env) :: starEach [] X.env := by rfl) :
    ME X W (.Call (.Name "sorted" p) [.Call (.Name "set" p2) [e] [] pos2] [] pos) (f1 sortSetN f) :=
  PE.imp (pe_callB (cr_sortedSet hc) hg hm bb1 (pa_cons (pe_callTy (cr_setI hc) hg2 hm2 bb2 (pa_cons h pa_nil (hs := nb)) (he := nb)) pa_nil (hs := na)) (he := na)) fun σ H Q h => by
  obtain ⟨g, S, ρ, R, rs, p⟩ := h
  refine ⟨g, S, ρ, R, rs, (pst.bind p).mp fun g1 S1 H1 d x R1 q v r => ?_⟩
  unfold sortSetN at q
  cases e1 : d.sq S1 with
  | none => simp only [e1] at q; exact q.elim
  | some xs =>
    cases e2 : intsOf xs with
    | none => simp only [e1, e2] at q; exact q.elim
    | some ns =>
      simp only [e1, e2] at q
      by_cases c : (sortU ns).length < 64 ∧ ns.length ≤ 4000
      · rw [if_pos c] at q
        obtain ⟨b, zs, rfl, hb, rz⟩ := r.sq R1 e1
        rw [rz.ints e2] at hb
        refine ⟨b, ns, rfl, hb, by unfold scanBound; omega, fun p n hp hn => ⟨p, _, n, rfl, upd_same, by omega, fun ms q2 ha hmm _ hq2 => ?_⟩⟩
        have ems : ms = sortU ns := asc_int ha (sortU_asc ns) fun a => by rw [hmm a, sortU_mem]; simp
        rw [ems]
        have R2 := R1.add (o := SetO X.w p (fun k => decide (k ∈ ns)) n) hp
        have x2 := Gh.add_ext (o := SetO X.w p (fun k => decide (k ∈ ns)) n) (R1.newG hp)
        have R3 := R2.cell hq2 (rds_ints (sortU ns))
        exact q _ _ (x2.trans Gh.cell_ext) R3 _ (.cell (by rw [R2.len]; exact Nat.lt_succ_self _) (if_pos R2.len))
      · rw [if_neg c] at q; exact q.elim
end
end MK

namespace MK
open PySem PySem.Spec PyProof.Rows L2
/-! ### sorted(l, key=lambda x: x[0]), the items tuples whose first is an int -/
section
variable {P : Program} {w : World} {A : Around} {s : Shared}
/-- the lambda that tells the first item of a tuple, called -/
theorem call_fst {f c : Addr} {x : Str} {params : Arguments} {scope : Scope} {q : Str} {pm ctv : Value} {p1 p2 p3 : Pos} {j : Nat} {t : Addr} {its : Array Value} {k : Int} {tk : Tok} {oc : Obj} {ov : Array Value} {tq : Tok}
    (deep : A.depth < recursionLimit) (hf : s.heap.get? f = some (PySem.W.kla_obj "<lambda>" q params (.Subscript (.Name x p1) (.Constant (.int 0) j p2) p3) scope [] pm c ctv)) (hc : s.heap.get? c = some oc) (hd : oc.data = .fields ov) (hq : ov[1]? = some (.str q tq)) (lim : s.heap.NoLimit)
    (co : scope.isCoroutine = false) (gen : scope.isGenerator = false) (kind : scope.kind = .function) (nc : ∀ y ∈ scope.names, y.2 ≠ .cell) (lo : scope.names.lookup x = some .local) (hx : (x == ("__debug__" : Str)) = false)
    (hbind : ∀ u : Value, bindArgs (PySem.W.kla_fn "<lambda>" q params (.Subscript (.Name x p1) (.Constant (.int 0) j p2) p3) scope [] pm (.ref c) ctv) ⟨[u], []⟩ = pure [(x, u)])
    (ht : IsTup s.heap t its) (hk : its[0]? = some (.int k tk)) (hz : its.size ≤ sizeLine) :
    wpAny (model P w) A (call (.ref f) [.ref t]) (PySem.W.KeyPure (.int k) s) (fun _ _ => False) s := by
  refine wpAny_call ?_
  refine PySem.W.kla_callFunE deep hf rfl co gen rfl ⟨c, oc, ov, tq, rfl, hc, hd, hq⟩ ?_
  rw [hbind]
  refine wpAny_pure (wpAny_newFunctionEnv (fun y hy => nc y hy) (fun y hy => by rw [List.mem_singleton.mp hy]; exact lo) (fun h₁ hns hsb => ?_) kind)
  refine ⟨lim.fresh _ hsb, ?_⟩
  have kp : ∀ b o, s.heap.get? b = some o → h₁.get? b = some o := fun b o e => hsb.extBut b o (Nat.ne_of_lt (Heap.lt_size e)) (Heap.get?_push_of_some _ e)
  refine PySem.W.kla_codeExpr ?_
  refine Subscript_ (wpAny_Name (wpAny_loadName_local (v := .ref t) kind lo hns (by simp) ?_) hx)
  refine wpAny_Constant_int ?_
  have h0 : 0 < its.size := (Array.getElem?_eq_some_iff.mp hk).1
  refine item_tuple (j := 0) (ht.keeps kp) (by decide) (by decide) ?_ hk ?_
  · unfold seqIndex?
    simp [h0]
  · exact ⟨_, _, rfl, kp, .int _ _⟩
end
def keyI : D → Option Int
  | .tup (.int k :: _) => some k
  | _ => none
def keysI : List D → Option (List Int)
  | [] => some []
  | x :: xs => match keyI x, keysI xs with
    | some k, some ks => some (k :: ks)
    | _, _ => none
def intP (ks : List Int) : List PyData := ks.map PyData.int
theorem srtB_intP (ks : List Int) : srtB (intP ks) = true := by
  unfold srtB intP
  simp only [Bool.and_eq_true, Bool.or_eq_true, List.all_eq_true]
  refine ⟨⟨fun a ha b hb => ?_, .inr fun a ha => ?_⟩, fun a ha => ?_⟩
  · obtain ⟨x, _, rfl⟩ := List.mem_map.mp ha
    obtain ⟨y, _, rfl⟩ := List.mem_map.mp hb
    rfl
  · obtain ⟨x, _, rfl⟩ := List.mem_map.mp ha
    rfl
  · obtain ⟨x, _, rfl⟩ := List.mem_map.mp ha
    rfl
def sortKeyD (d : D) (S : Store) : Out D := match d.asL S with
  | some xs => match keysI xs with
    | some ks => .ok (.lst (srtL xs (intP ks))) S
    | none => .no
  | none => .no
section
variable {X : Cx} {W : WT} {K : KW} {g : Gh} {S : Store} {H : Hp}
theorem keysI_length : ∀ {xs : List D} {ks : List Int}, keysI xs = some ks → ks.length = xs.length
  | [], ks, h => by cases h; rfl
  | x :: xs, ks, h => by
    unfold keysI at h
    split at h
    · rename_i k ks' h1 h2
      cases h
      rw [List.length_cons, List.length_cons, keysI_length h2]
    · cases h
/-- the items as they stand, with their keys -/
def ItK (X : Cx) (h : Heap) (v : Value) (z : V × PyData) : Prop := RelV z.1 v ∧ ∃ (t : Addr) (its : Array Value) (k : Int) (tk : Tok), v = .ref t ∧ z.2 = .int k ∧ IsTup h t its ∧ its[0]? = some (.int k tk) ∧ its.size ≤ sizeLine
theorem itk_of {pins : List (Addr × Obj)} {σ : L2.St} {s : Shared} (I : Inv X pins σ H s) (R : Rep (kwX X W) g S H) : ∀ {xs : List D} {ks : List Int} {vs : List V} {us : List Value}, keysI xs = some ks → RDs (kwX X W) g xs vs → Vals vs us → PySem.W.EachIs (ItK X s.heap) us (vs.zip (intP ks))
  | [], ks, _, _, h, .nil, .nil => by cases h; exact .nil
  | x :: xs, ks, v :: vs, u :: us, h, .cons r rs, .cons rv rvs => by
    unfold keysI at h
    split at h
    · rename_i k ks' h1 h2
      cases h
      refine .cons ⟨rv, ?_⟩ (itk_of I R h2 rs rvs)
      unfold keyI at h1
      split at h1
      · rename_i k' r'
        cases h1
        cases r with
        | tup q1 q2 =>
          rename_i a ws
          cases q2 with
          | cons e1 e2 =>
            cases e1
            obtain ⟨its, rw_, pl, hz⟩ := I.tuple (sameT R.sub q1.sq)
            cases (show u = Value.ref a from rv)
            have hl := rw_.length
            cases rw_ with
            | cons ru rt =>
              obtain ⟨tk, rfl⟩ := ru
              exact ⟨a, _, k, tk, rfl, rfl, pl, by simp, by rw [List.size_toArray, ← hl]; exact hz⟩
      · cases h1
    · cases h
theorem clo_nil {scope : Scope} {N ps : List Str} (L : LamSc X.env.scope scope N ps []) : cloX X scope = [] := by
  refine List.eq_nil_iff_forall_not_mem.mpr fun z hz => ?_
  rcases cloFrom_mem hz with hm | ⟨h1, _⟩
  · cases hm
  · exact absurd (L.free _ h1 rfl).1 (by simp)
theorem me_sortKey {k : Nat} {c P : Addr} {nm : Nat → Nat → Str} {x : Str} {params : Arguments} {scope : Scope} {lpos kpos p1 p2 p3 p pos : Pos} {j : Nat} {e : Expr} {f : FE} {N : List Str}
    (hr : Room k X.A) (hg : Gl X "sorted") (hm0 : X.mg "sorted" = none) (bb : bootBuiltins "sorted" = some (.builtin "sorted"))
    (TB : LamX.TabB X.base X.mg c P) (hcode : X.env.code = .ref c) (hm : (P, nm) ∈ W.T) (hu : ∀ p ∈ W.T, p.1 = P → p.2 = nm) (hn : nm lpos.line lpos.col = X.env.qual ++ "<lambda>") (L : LamSc X.env.scope scope N [x] []) (hdef : defaultsOf params X.env = ([], []))
    (hbind : ∀ (q : Str) (cl : List (Str × Addr)) (pm cv ctv : Value) (us : List Value), us.length = [x].length → bindArgs (PySem.W.kla_fn "<lambda>" q params (.Subscript (.Name x p1) (.Constant (.int 0) j p2) p3) scope cl pm cv ctv) ⟨us, []⟩ = pure ([x].zip us))
    (hx : (x == ("__debug__" : Str)) = false) (h : ME X W e f)
    (he : backTo pos (starEach [e] X.env) = (false, eval e X.env) :: backTo pos (starEach [] X.env) := by rfl) (nb : starEach [e] X.env = (false, eval e X.env) :: starEach [] X.env := by rfl) (hpl : (backTo pos (starEach [e] X.env)).any (·.1) = false := by rfl)
    (hall : (backToKw pos (keywordEach [⟨some "key", .Lambda params (.Subscript (.Name x p1) (.Constant (.int 0) j p2) p3) scope lpos, kpos⟩] X.env)).all (·.1.isSome) = true := by rfl)
    (hnone : (backToKw pos (keywordEach [⟨some "key", .Lambda params (.Subscript (.Name x p1) (.Constant (.int 0) j p2) p3) scope lpos, kpos⟩] X.env)).any (·.1.isNone) = false := by rfl)
    (hks : (backToKw pos (keywordEach [⟨some "key", .Lambda params (.Subscript (.Name x p1) (.Constant (.int 0) j p2) p3) scope lpos, kpos⟩] X.env)).filterMap (·.1) = [("key" : Str)] := by rfl) :
    ME X W (.Call (.Name "sorted" p) [e] [⟨some "key", .Lambda params (.Subscript (.Name x p1) (.Constant (.int 0) j p2) p3) scope lpos, kpos⟩] pos) (f1 sortKeyD f) := by
  refine ⟨fun pins s σ H Q I h0 => ?_⟩
  obtain ⟨g, S, ρ, R, rs, q⟩ := h0
  let C : Gh → Store → Hp → D → Prop := fun g' _ H' d => ∀ v, RD (kwX X W) g' d v → Q v H'
  refine wpAny_Call_Name_kw (ld_blt I hg hm0 bb ?_ (by decide) (by decide))
  refine PyProof.Rows.callWith_kw (thn ((pa_cons h pa_nil (hs := nb)).run pos pins s σ H (fun vs H1 => ∃ g1 S1 d v, vs = [v] ∧ Rep (kwX X W) g1 S1 H1 ∧ RD (kwX X W) g1 d v ∧ pst (kwX X W) W.E g1 (sortKeyD d S1) C) I ?_) ?_) he hpl hall hnone
  · exact ⟨g, S, ρ, R, rs, (pst.bind q).mp fun g1 S1 H1 d x1 R1 q1 v r => ⟨g1, S1, d, v, rfl, R1, r, q1⟩⟩
  rintro us s1 ⟨vs, H1, I1, r1, g1, S1, d, v, rfl, R1, rv, q1⟩
  refine thn ((pk_cons (pe_lam TB hcode hm hu hn L hdef) pk_nil).run pos pins s1 σ H1 (fun zs H2 => ∃ fa c' pm ctv g2, zs = [V.ref fa] ∧ Ext g1 g2 ∧ Rep (kwX X W) g2 S1 H2 ∧ g2.G fa = some (CellO fa (lamObj X params (.Subscript (.Name x p1) (.Constant (.int 0) j p2) p3) scope pm c' ctv)) ∧ g2.G c' = some (LamX.CodeO c' (X.env.qual ++ "<lambda>"))) I1
    ⟨g1, S1, R1, fun fa c' pm ctv g2 H2 x2 R2 qf qc => ⟨fa, c', pm, ctv, g2, rfl, x2, R2, qf, qc⟩⟩) ?_
  rintro ws s2 ⟨zs, H2, I2, r2, fa, c', pm, ctv, g2, rfl, x2, R2, qf, qc⟩
  rw [hks]
  obtain ⟨u, rfl, ru⟩ := Vals.one r1
  obtain ⟨u2, rfl, ru2⟩ := Vals.one r2
  cases (show u2 = Value.ref fa from ru2)
  have rv2 := rv.mono x2.toExtG
  have q2 := q1.ext x2
  unfold sortKeyD at q2
  cases e1 : d.asL S1 with
  | none => simp only [e1] at q2; exact q2.elim
  | some xs =>
    cases e2 : keysI xs with
    | none => simp only [e1, e2] at q2; exact q2.elim
    | some ks =>
      simp only [e1, e2] at q2
      obtain ⟨a, vs', rfl, h1, h2⟩ := rv2.asL R2 e1
      cases (show u = Value.ref a from ru)
      obtain ⟨its, rvv, pl, hz⟩ := I2.list h1
      have lks := keysI_length e2
      have lvs := h2.length
      have lip : (intP ks).length = ks.length := by unfold intP; rw [List.length_map]
      have hsnd : ((vs'.zip (intP ks)).map Prod.snd) = intP ks := List.map_snd_zip (by omega)
      obtain ⟨hal, hsr, _⟩ := srtB_of (srtB_intP ks)
      have hzl : (vs'.zip (intP ks)).length = vs'.length := by rw [List.length_zip]; omega
      have hf0 : s2.heap.get? fa = some (PySem.W.kla_obj "<lambda>" (X.env.qual ++ "<lambda>") params (.Subscript (.Name x p1) (.Constant (.int 0) j p2) p3) scope [] pm c' ctv) := by
        have := (I2.hok fa _ (R2.sub _ _ qf)).1
        unfold lamObj at this
        rw [clo_nil L] at this
        exact this
      obtain ⟨⟨oc, ov, tq, hoc, hdc, hvc⟩, _, _⟩ := I2.hok c' _ (R2.sub _ _ qc)
      have e0 := I2.env0
      refine PySem.W.sorted_key_data (k := Prod.snd) (bs := vs'.zip (intP ks)) (kw := [(Str.ofString "key", .ref fa)]) (b := false) pl.isList (itk_of I2 R2 e2 h2 rvv) (by rw [hsnd]; exact hal) (by rw [hsnd]; exact hsr) (by rw [hzl]; exact hz) (fun z hz2 => ?_) (ksk_s1 _ _) (fun _ => ksk_l1 _ _) (fun _ => ksk_t1 _ _)
        (fun v z hR hz2 hp tk kp => ?_) fun out c hp tk kp fr hD hlen eo => ?_
      · have : z.2 ∈ intP ks := by rw [← hsnd]; exact List.mem_map_of_mem hz2
        obtain ⟨i, _, hi⟩ := List.mem_map.mp this
        rw [← hi]
        have := hr.un
        show X.A.units + 2 + 0 < _
        omega
      · obtain ⟨_, t, items, k', tk', rfl, ek, pt, hi0, hsz⟩ := hR
        rw [ek]
        refine call_fst (s := { s2 with heap := hp, toks := tk }) ?_ (kp _ _ hf0) (kp _ _ hoc) hdc hvc (e0.mod.nolimit.keeps fun b o e => kp b o (e0.bs b o e).1) L.co L.gen L.kind L.ncell (L.par x List.mem_cons_self) hx (fun u => hbind _ [] pm (.ref c') ctv [u] rfl) (pt.keeps kp) hi0 hsz
        have := hr.dp
        show X.A.depth < _
        omega
      · refine ⟨.ref (s2.heap.objs.size + 1), upd H2 (s2.heap.objs.size + 1) (.lst (((vs'.zip (intP ks)).mergeSort (PySem.W.dataLe false Prod.snd)).map Prod.fst)), I2.laid (t' := tk) kp (Nat.le_succ _) ⟨?_, _, c, each_vals (eo.mono fun _ _ h => h.1), hD⟩, rfl, ?_⟩
        · rw [List.length_map, List.length_mergeSort, hzl]
          exact hz
        · have hq := I2.hok.fresh (Nat.le_succ s2.heap.objs.size)
          exact q2 _ _ (Gh.add_ext (R2.newG hq)) (R2.add hq) _ (.lst upd_same ((rds_sort h2 (by omega)).mono (Gh.add_ext (R2.newG hq)).toExtG))
end
end MK

namespace MK
open PySem PySem.Spec PyProof.Rows L2
/-! ### a test minus a test -/
def b2 (b : Bool) : Int := if b = true then 1 else 0
abbrev rSubB : R2 := fun x y H Q => ∃ a b : Bool, x = .bl a ∧ y = .bl b ∧ Q (.int (b2 a - b2 b)) H
def subBD : B2
  | .bl a, .bl b, S => .ok (.int (b2 a - b2 b)) S
  | _, _, _ => .no
section
variable {X : Cx} {K : KW}
theorem op_subB : OpR X (binaryOp .Sub) rSubB := by
  intro pins s σ H x y v u Q I rx ry h
  obtain ⟨a, b, rfl, rfl, q⟩ := h
  cases (show v = Value.bool a from rx)
  cases (show u = Value.bool b from ry)
  exact PyProof.Rows.sub_bool ⟨.int (b2 a - b2 b), H, I.tok _, ⟨_, rfl⟩, q⟩
theorem o_subB : Op2 K rSubB subBD := by
  intro W g S H dx dy x y Q R rx ry p
  cases rx with
  | bl a =>
    cases ry with
    | bl b => exact ⟨a, b, rfl, rfl, pst.here p R _ (.int _)⟩
    | _ => exact p.elim
  | _ => exact p.elim
end
/-! ### list(range(a, b)) -/
def lstRng2 : B2
  | .int a, .int b, S => if -(2 ^ 60) ≤ a ∧ a ≤ 2 ^ 60 ∧ -(2 ^ 60) ≤ b ∧ b ≤ 2 ^ 60 ∧ b - a ≤ 16777216 then .ok (.lst (rngL a (b - a).toNat)) S else .no
  | _, _, _ => .no
abbrev rLstRg : R2 := fun x y H Q => ∃ i j, x = .int i ∧ y = .int j ∧ (RgOk i j ∧ ∀ q, H q = none → Q (.ref q) (upd H q (.lst (rgV i j))))
section
variable {X : Cx} {W : WT} {K : KW}
theorem o_lstRng2 : Op2 K rLstRg lstRng2 := by
  intro W g S H dx dy x y Q R rx ry p
  cases rx with
  | int i =>
    cases ry with
    | int j =>
      unfold lstRng2 at p
      simp only at p
      by_cases c : -(2 ^ 60) ≤ i ∧ i ≤ 2 ^ 60 ∧ -(2 ^ 60) ≤ j ∧ j ≤ 2 ^ 60 ∧ j - i ≤ 16777216
      · rw [if_pos c] at p
        refine ⟨i, j, rfl, rfl, ⟨by omega, by omega, by omega, by omega, by omega⟩, fun a ha => ?_⟩
        have rr := rng_rd (K := K) (g := g) (a := i) (b := j)
        exact p _ _ (Gh.add_ext (R.newG ha)) (R.add ha) _ (.lst upd_same (rr.mono (Gh.add_ext (R.newG ha)).toExtG))
      · rw [if_neg c] at p; exact p.elim
    | _ => exact p.elim
  | _ => exact p.elim
theorem me_lstRng2 {a b : Expr} {f k : FE} {p p2 pos2 pos : Pos} (hg : Gl X "list") (hm : X.mg "list" = none) (hg2 : Gl X "range") (hm2 : X.mg "range" = none) (h : ME X W a f) (h2 : ME X W b k) (hc : X.calm = true := by rfl)
    (na : starEach [.Call (.Name "range" p2) [a, b] [] pos2] X.env = (false, eval (.Call (.Name "range" p2) [a, b] [] pos2) X.env) :: starEach [] X.env := by rfl)
    (nb : starEach [a, b] X.env = (false, eval a X.env) :: starEach [b] X.env := by rfl) (nc : starEach [b] X.env = (false, eval b X.env) :: starEach [] X.env := by rfl) (hp : (backTo pos2 (starEach [b] X.env)).any (·.1) = false := by rfl) :
    ME X W (.Call (.Name "list" p) [.Call (.Name "range" p2) [a, b] [] pos2] [] pos) (f2 lstRng2 f k) :=
  PE.imp (pe_listRg hc hg hm (prg_2 hg2 hm2 h h2 nb nc hp) na) fun σ H Q q => rd2 (r := rLstRg) o_lstRng2 q
end
/-! ### max of a tuple (or of a list) of ints -/
theorem foldl_max : ∀ (ns : List Int) (n : Int), ns.foldl max n ∈ n :: ns ∧ ∀ y ∈ n :: ns, y ≤ ns.foldl max n
  | [], n => ⟨List.mem_singleton.mpr rfl, fun y hy => by rw [List.mem_singleton.mp hy]; exact Int.le_refl _⟩
  | m :: ns, n => by
    obtain ⟨h1, h2⟩ := foldl_max ns (max n m)
    rw [List.foldl_cons]
    refine ⟨?_, fun y hy => ?_⟩
    · rcases List.mem_cons.mp h1 with e | e
      · by_cases c : n ≤ m
        · rw [e, Int.max_eq_right c]; exact List.mem_cons_of_mem _ List.mem_cons_self
        · rw [e, Int.max_eq_left (by omega)]; exact List.mem_cons_self
      · exact List.mem_cons_of_mem _ (List.mem_cons_of_mem _ e)
    · have t := h2 (max n m) List.mem_cons_self
      rcases List.mem_cons.mp hy with rfl | hy
      · exact Int.le_trans (Int.le_max_left _ _) t
      · rcases List.mem_cons.mp hy with rfl | hy
        · exact Int.le_trans (Int.le_max_right _ _) t
        · exact h2 y (List.mem_cons_of_mem _ hy)
section
variable {X : Cx} {W : WT} {K : KW}
abbrev rMaxT (K : PySem.W.Frag) : List V → Hp → VK → Prop := fun vs H Q => ∃ (a : Addr) (ns : List Int), vs = [V.ref a] ∧ SqT K H a (ns.map V.int) ∧ 0 < ns.length ∧ ∀ m, m ∈ ns → (∀ y, y ∈ ns → y ≤ m) → Q (.int m) H
theorem cr_maxT {k : Nat} (hr : Room k X.A) : CallR X (.builtin "max") (rMaxT X.K) := by
  intro pins s σ H vs us Q I r h
  obtain ⟨a, ns, rfl, hs, hne, q⟩ := h
  obtain ⟨its, rv, ht, _⟩ := I.tuple hs
  rw [Vals.ref1 r]
  match ns, hne with
  | n :: ns, _ =>
    have d0 : ∀ l : List Int, PyData.depthAll (l.map PyData.int) = 0 := fun l => by
      induction l with
      | nil => rfl
      | cons x l ih => rw [List.map_cons]; simp only [PyData.depthAll, PyData.depth, ih]; rfl
    refine PySem.W.max_tuple_data hr.hd ht (PySem.W.readsAll_of_ints rv.ints) ⟨fun x hx y hy => ?_, fun x hx => ?_⟩ ?_ fun i v h' tk bs hv rd hk => ?_
    · obtain ⟨x, _, rfl⟩ := List.mem_map.mp (show x ∈ (n :: ns).map PyData.int from hx)
      obtain ⟨y, _, rfl⟩ := List.mem_map.mp (show y ∈ (n :: ns).map PyData.int from hy)
      rfl
    · obtain ⟨x, _, rfl⟩ := List.mem_map.mp (show x ∈ (n :: ns).map PyData.int from hx)
      nofun
    · have h1 := hr.un
      have h2 := d0 (n :: ns)
      rw [List.map_cons] at h2
      rw [h2]
      omega
    · rw [PySem.W.maxD_ints] at rd
      obtain ⟨m1, m2⟩ := foldl_max ns n
      cases rd
      exact ⟨.int _, H, I.kept hk, ⟨_, rfl⟩, q _ m1 m2⟩
abbrev rMaxA (K : PySem.W.Frag) : List V → Hp → VK → Prop := fun xs H Q => rMax K xs H Q ∨ rMaxT K xs H Q
theorem cr_maxA {k : Nat} (hr : Room k X.A) (hc : X.calm = true) : CallR X (.builtin "max") (rMaxA X.K) := (cr_max hc).or (cr_maxT hr)
def maxAD : BN := fun ds S => match ds with
  | [d] => match d.asL S with
    | some xs => match intsOf xs with
      | some ns => if 0 < ns.length then .ok (.int (maxL ns)) S else .no
      | none => .no
    | none => match d.asT with
      | some xs => match intsOf xs with
        | some ns => if 0 < ns.length then .ok (.int (maxL ns)) S else .no
        | none => .no
      | none => .no
  | _ => .no
theorem c_maxA : CallM K (rMaxA K.K) maxAD := by
  intro W g S H ds vs Q R r p
  match ds, r, p with
  | [], _, p => exact p.elim
  | _ :: _ :: _, _, p => exact p.elim
  | [d], r, p =>
    obtain ⟨v, rfl, r0⟩ := r.one
    unfold maxAD at p
    simp only at p
    cases e : d.asL S with
    | some xs =>
      obtain ⟨a, ws, rfl, h1, h2⟩ := r0.asL R e
      cases e2 : intsOf xs with
      | none => simp only [e, e2] at p; exact p.elim
      | some ns =>
        simp only [e, e2] at p
        by_cases c : 0 < ns.length
        · rw [if_pos c] at p
          obtain ⟨m1, m2⟩ := maxL_is ns c
          refine .inl ⟨a, ns, rfl, by rw [← h2.ints e2]; exact h1, c, fun m hm hy => ?_⟩
          have : m = maxL ns := Int.le_antisymm (m2 m hm) (hy _ m1)
          rw [this]
          exact pst.here p R _ (.int _)
        · rw [if_neg c] at p; exact p.elim
    | none =>
      cases e3 : d.asT with
      | none => simp only [e, e3] at p; exact p.elim
      | some xs =>
        obtain ⟨a, ws, rfl, h1, h2⟩ := r0.asT R e3
        cases e2 : intsOf xs with
        | none => simp only [e, e3, e2] at p; exact p.elim
        | some ns =>
          simp only [e, e3, e2] at p
          by_cases c : 0 < ns.length
          · rw [if_pos c] at p
            obtain ⟨m1, m2⟩ := maxL_is ns c
            refine .inr ⟨a, ns, rfl, by rw [← h2.ints e2]; exact h1, c, fun m hm hy => ?_⟩
            have : m = maxL ns := Int.le_antisymm (m2 m hm) (hy _ m1)
            rw [this]
            exact pst.here p R _ (.int _)
          · rw [if_neg c] at p; exact p.elim
end
/-! ### sorted(a list), into a cell -/
def sortedN : BN := fun ds S => match ds with
  | [d] => match d.asL S with
    | some xs => match D.pys xs with
      | some ps => if srtB ps = true then .ok (.cell S.length) (S ++ [.lst (srtL xs ps)]) else .no
      | none => .no
    | none => .no
  | _ => .no
section
variable {X : Cx} {W : WT} {K : KW}
theorem c_sortedN : CallM K (rSortD K.K) sortedN := by
  intro W g S H ds vs Q R r p
  match ds, r, p with
  | [], _, p => exact p.elim
  | _ :: _ :: _, _, p => exact p.elim
  | [d], r, p =>
    obtain ⟨v, rfl, r0⟩ := r.one
    unfold sortedN at p
    simp only at p
    cases e : d.asL S with
    | none => simp only [e] at p; exact p.elim
    | some xs =>
      cases e2 : D.pys xs with
      | none => simp only [e, e2] at p; exact p.elim
      | some ps =>
        simp only [e, e2] at p
        by_cases h : srtB ps = true
        · rw [if_pos h] at p
          obtain ⟨a, ws, rfl, h1, h2⟩ := r0.asL R e
          refine ⟨a, ws, ps, rfl, h1, RDs.py R.sub h2 e2, h, fun q hq => ?_⟩
          refine p _ _ Gh.cell_ext (R.cell hq (rds_sort h2 (pys_length e2))) _ (.cell (k := S.length) ?_ ?_)
          · show S.length < g.n + 1
            rw [R.len]; exact Nat.lt_succ_self _
          · show (if S.length = g.n then q else g.m S.length) = q
            rw [if_pos R.len]
        · rw [if_neg h] at p; exact p.elim
end
/-! ### a def that calls itself: told by turns; no turn is left -/
theorem fn_no {P : Program} {K : KW} {mg : Str → Option Value} {base : Heap} {k : Nat} {f : Addr} {fd : FuncData} {ps : List Str} : FnG P K.w K.K mg base CX0 k f fd ps (spM K ps.length fun _ _ => .no) where
  len := fun vs H Q E h => h.1
  run := fun A outer s H args us vs Q E _ _ _ _ _ h => by
    obtain ⟨_, _, _, _, _, _, p⟩ := h
    exact p.elim
end MK

namespace MK
open PySem PySem.Spec PyProof.Rows L2
/-! ### rules to reason about the further mirrors -/
section
variable {ρ : Sl} {S : Store}
theorem wp_callH {GF : Addr → BN → BN} {fe : FE} {ix : List Nat} {fs : List FE} {C : D → Store → Prop} (h : Post (fArgs fs ρ S) fun ds S1 => ∃ caps r S2, capt ρ ix = some caps ∧ (∀ a, GF a (runL fe caps) (ds ++ [.ref a]) S1 = .ok r S2) ∧ C r S2) : Post (fCallH GF fe ix fs ρ S) C := .bind (h.mono fun ds S1 q => by
  obtain ⟨caps, r, S2, e, eq, q⟩ := q
  simp only [e]
  rw [uni_eq eq]
  exact .ok q)
theorem wp_callF {f : Addr} {R : BN} {i : Nat} {a : F (List D)} {C : D → Store → Prop} (hi : ρ[i]? = some (some (.ref f))) (h : Post (a ρ S) fun ds S1 => Post (R ds S1) C) : Post (fCallF f R i a ρ S) C := by
  unfold fCallF
  simp only [hi, if_true]
  exact .bind h
theorem wp_ixK {x y v : D} {kvs : List (D × D)} {k : NestedKey} {C : D → Store → Prop} (hd : x.asD S = some kvs) (hk : y.key = some k) (dk : k.depth ≤ 8) (hv : lookK kvs k = some v) (h : C v S) : Post (ixK x y S) C := by
  unfold ixK
  simp only [hd, hk, if_pos dk, hv]
  exact .ok h
theorem wp_inK {neg : Bool} {x y : D} {kvs : List (D × D)} {k : NestedKey} {C : D → Store → Prop} (hd : x.asD S = some kvs) (hk : y.key = some k) (dk : k.depth ≤ 8) (h : C (.bl (if neg = true then !(lookK kvs k).isSome else (lookK kvs k).isSome)) S) : Post (inK neg y x S) C := by
  unfold inK
  simp only [hd, hk, if_pos dk]
  exact .ok h
theorem wp_setK {c : Nat} {y v : D} {kvs : List (D × D)} {k : NestedKey} {C : Unit → Store → Prop} (hc : S[c]? = some (.dct kvs)) (hk : y.key = some k) (dk : k.depth ≤ 8) (hl : kvs.length < line) (h : C () (S.set c (.dct (putK kvs k y v)))) : Post (setK (.cell c) y v S) C := by
  unfold setK
  simp only [hc, hk]
  rw [if_pos ⟨dk, hl⟩]
  exact .ok h
theorem wp_dnew {C : D → Store → Prop} (h : C (.cell S.length) (S ++ [.dct []])) : Post (fDNew ρ S) C := .ok h
theorem wp_dictD {d : D} {xs : List D} {ps : List (NestedKey × D × D)} {C : D → Store → Prop} (hs : d.sq S = some xs) (hp : pairsK xs = some ps) (h : C (.dct (putAllK [] ps)) S) : Post (dictD [d] S) C := by
  unfold dictD
  simp only [hs, hp]
  exact .ok h
theorem wp_dictN {d : D} {xs : List D} {ps : List (NestedKey × D × D)} {C : D → Store → Prop} (hs : d.sq S = some xs) (hp : pairsK xs = some ps) (h : C (.cell S.length) (S ++ [.dct (putAllK [] ps)])) : Post (dictN [d] S) C := by
  unfold dictN
  simp only [hs, hp]
  exact .ok h
theorem wp_sortK {d : D} {kvs : List (D × D)} {ps : List PyData} {C : D → Store → Prop} (hd : d.asD S = some kvs) (hp : D.pys (kvs.map (·.1)) = some ps) (hs : srtB ps = true) (h : C (.lst (srtL (kvs.map (·.1)) ps)) S) : Post (sortedX [d] S) C := by
  unfold sortedX sortedK
  simp only [hd, Option.isSome_some, if_true, hp, if_pos hs]
  exact .ok h
theorem wp_sortX {d : D} {xs : List D} {ps : List PyData} {C : D → Store → Prop} (hd : d.asD S = none) (hl : d.asL S = some xs) (hp : D.pys xs = some ps) (hs : srtB ps = true) (h : C (.lst (srtL xs ps)) S) : Post (sortedX [d] S) C := by
  unfold sortedX sortedD
  simp only [hd, Option.isSome_none, Bool.false_eq_true, if_false, hl, hp, if_pos hs]
  exact .ok h
theorem wp_join {fo fe : FE} {C : D → Store → Prop} (h : Post (fo ρ S) fun d S1 => ∃ z, d = .str z ∧ Post (fe ρ S1) fun b S2 => Post (joinD z b S2) C) : Post (fJoin fo fe ρ S) C := .bind (h.mono fun d S1 q => by
  obtain ⟨z, rfl, q⟩ := q
  exact .bind q)
theorem wp_joinD {z : Str} {b : D} {xs : List D} {ys : List Str} {C : D → Store → Prop} (hs : b.sq S = some xs) (hy : strsOf xs = some ys) (hl : (ys.map (·.length)).sum + ys.length * z.length ≤ 16777216) (h : C (.str (Txt.join z ys)) S) : Post (joinD z b S) C := by
  unfold joinD
  simp only [hs, hy, if_pos hl]
  exact .ok h
theorem wp_istr {f : FE} {C : List D → Store → Prop} (h : Post (f ρ S) fun d S1 => ∃ x, d = .str x ∧ C (charsD x) S1) : Post (iStrD f ρ S) C := .bind (h.mono fun d S1 q => by
  obtain ⟨x, rfl, q⟩ := q
  exact .ok q)
theorem wp_tupRng {n : Nat} {C : D → Store → Prop} (hn : n ≤ 16777216) (h : C (.tup (rngL 0 n)) S) : Post (tupRng (.int n) S) C := by
  unfold tupRng
  simp only
  rw [if_pos (by omega)]
  exact .ok h
theorem wp_tupZip {f : F (List D)} {C : D → Store → Prop} (h : Post (f ρ S) fun ds S1 => ∃ d e xs ys, ds = [d, e] ∧ d.still = some xs ∧ e.still = some ys ∧ C (.tup (zipL xs ys)) S1) : Post (fTupZip f ρ S) C := .bind (h.mono fun ds S1 q => by
  obtain ⟨d, e, xs, ys, rfl, h1, h2, q⟩ := q
  simp only [h1, h2]
  exact .ok q)
theorem wp_pop {k : Nat} {xs : List D} {y : D} {C : D → Store → Prop} (hk : S[k]? = some (.lst xs)) (hy : xs[xs.length - 1]? = some y) (h : C y (S.set k (.lst xs.dropLast))) : Post (popD (.cell k) [] S) C := by
  unfold popD
  simp only [hk, hy]
  exact .ok h
theorem wp_ins {k i : Nat} {xs : List D} {y : D} {C : D → Store → Prop} (hk : S[k]? = some (.lst xs)) (hl : xs.length < line) (hi : i < 2 ^ 63) (h : C .non (S.set k (.lst (xs.take i ++ [y] ++ xs.drop i)))) : Post (insD (.cell k) [.int i, y] S) C := by
  unfold insD
  simp only [hk]
  rw [if_pos ⟨hl, by omega, by omega⟩]
  exact .ok h
theorem wp_index {d y : D} {ps : List PyData} {p : PyData} {j : Nat} {C : D → Store → Prop} (hd : d.pyS S = some (.list ps)) (hy : y.pyS S = some p) (hs : SeqAt.shaped (.list ps) = true ∧ SeqAt.shaped p = true) (hj : idxOf p ps = some j) (h : C (.int j) S) : Post (indexD d [y] S) C := by
  unfold indexD
  simp only [hd, hy, if_pos hs, hj]
  exact .ok h
theorem wp_ext {k : Nat} {xs ys : List D} {y : D} {C : D → Store → Prop} (hk : S[k]? = some (.lst xs)) (hy : y.sq S = some ys) (hl : xs.length + ys.length ≤ line) (h : C .non (S.set k (.lst (xs ++ ys)))) : Post (extD (.cell k) [y] S) C := by
  unfold extD
  simp only [hk, hy, if_pos hl]
  exact .ok h
theorem wp_frzD {a : FE} {C : D → Store → Prop} (h : Post (a ρ S) fun x S1 => ∃ k xs, x = .cell k ∧ S1[k]? = some (.dct xs) ∧ C (.dct xs) (S1.set k .dead)) : Post (fFrz a ρ S) C := .bind (h.mono fun x S1 q => by
  obtain ⟨k, xs, rfl, e, q⟩ := q
  simp only [e]
  exact .ok q)
/-! isinstance, all, any, max, min, sorted(set(..)) -/
theorem wp_isi {d : D} {T t : String} {b : Bool} {C : D → Store → Prop} (hk : kindD S d = some t) (hb : isiT t T = some b) (h : C (.bl b) S) : Post (isiD [d, .ty T] S) C := by
  unfold isiD
  simp only [hk, hb]
  exact .ok h
theorem wp_isiC {d : D} {T t : String} {b : Bool} {C : D → Store → Prop} (hk : ∀ S, kindD S d = some t) (hb : isiT t T = some b) (h : C (.bl b) S) : Post (isiD [d, .ty T] S) C := wp_isi (hk S) hb h
theorem wp_isiCt {d : D} {T t : String} {C : D → Store → Prop} (hk : ∀ S, kindD S d = some t) (hb : isiT t T = some true) (h : C (.bl true) S) : Post (isiD [d, .ty T] S) C := wp_isi (hk S) hb h
theorem wp_isiCf {d : D} {T t : String} {C : D → Store → Prop} (hk : ∀ S, kindD S d = some t) (hb : isiT t T = some false) (h : C (.bl false) S) : Post (isiD [d, .ty T] S) C := wp_isi (hk S) hb h
theorem wp_blsD {f : List Bool → Bool} {d : D} {bs : List Bool} {C : D → Store → Prop} (hd : d.asL S = some (bs.map D.bl)) (h : C (.bl (f bs)) S) : Post (blsD f [d] S) C := by
  unfold blsD
  simp only [hd, blsOf_map]
  exact .ok h
theorem wp_all {d : D} {bs : List Bool} {C : D → Store → Prop} (hd : d.asL S = some (bs.map D.bl)) (h : C (.bl (bs.all id)) S) : Post (allD [d] S) C := wp_blsD hd h
theorem wp_any {d : D} {bs : List Bool} {C : D → Store → Prop} (hd : d.asL S = some (bs.map D.bl)) (h : C (.bl (bs.any id)) S) : Post (anyD [d] S) C := wp_blsD hd h
/-- all of a list that is told by other values -/
theorem wp_allM {α : Type} {l : List α} {f : α → Bool} {C : D → Store → Prop} (h : C (.bl (l.all f)) S) : Post (allD [.lst (l.map fun x => D.bl (f x))] S) C :=
  wp_all (bs := l.map f) (by show some _ = some _; rw [List.map_map]; rfl) (by rw [List.all_map]; exact h)
theorem wp_anyM {α : Type} {l : List α} {f : α → Bool} {C : D → Store → Prop} (h : C (.bl (l.any f)) S) : Post (anyD [.lst (l.map fun x => D.bl (f x))] S) C :=
  wp_any (bs := l.map f) (by show some _ = some _; rw [List.map_map]; rfl) (by rw [List.any_map]; exact h)
theorem wp_max1 {d : D} {ns : List Int} {C : D → Store → Prop} (hd : d.asL S = some (ns.map D.int)) (hn : 0 < ns.length) (h : C (.int (maxL ns)) S) : Post (max1D [d] S) C := by
  unfold max1D
  simp only [hd, intsOf_map, if_pos hn]
  exact .ok h
theorem wp_min1 {d : D} {ns : List Int} {C : D → Store → Prop} (hd : d.asL S = some (ns.map D.int)) (hn : 0 < ns.length) (h : C (.int (minL ns)) S) : Post (min1D [d] S) C := by
  unfold min1D
  simp only [hd, intsOf_map, if_pos hn]
  exact .ok h
theorem wp_sortSet {d : D} {ns : List Int} {C : D → Store → Prop} (hd : d.sq S = some (ns.map D.int)) (hn : (sortU ns).length < 64 ∧ ns.length ≤ 4000) (h : C (.lst ((sortU ns).map D.int)) S) : Post (sortSetD d S) C := by
  unfold sortSetD
  simp only [hd, intsOf_map, if_pos hn]
  exact .ok h
theorem wp_sortSetN {d : D} {ns : List Int} {C : D → Store → Prop} (hd : d.sq S = some (ns.map D.int)) (hn : (sortU ns).length < 64 ∧ ns.length ≤ 4000) (h : C (.cell S.length) (S ++ [.lst ((sortU ns).map D.int)])) : Post (sortSetN d S) C := by
  unfold sortSetN
  simp only [hd, intsOf_map, if_pos hn]
  exact .ok h
theorem wp_irngD {a b c : FE} {C : List D → Store → Prop} (h : Post (a ρ S) fun d S1 => Post (b ρ S1) fun e S2 => Post (c ρ S2) fun m S3 => ∃ i j, d = .int i ∧ e = .int j ∧ m = .int (-1) ∧ (-(2 ^ 62) ≤ i ∧ i < 2 ^ 62 ∧ -(2 ^ 62) ≤ j ∧ j < 2 ^ 62) ∧ C (rngDn i (i - j).toNat) S3) : Post (iRngD (fCons a (fCons b (fCons c fNil))) ρ S) C := .bind (wp_cons (h.mono fun d S1 q => wp_cons (q.mono fun e S2 q => wp_cons (q.mono fun m S3 q => by
  obtain ⟨i, j, rfl, rfl, rfl, c, q⟩ := q
  exact .ok (.guard ⟨c, rfl⟩ q)))))
end
/-! keys that are ints and texts -/
theorem wp_maxAL {d : D} {ns : List Int} {C : D → Store → Prop} (hd : d.asL S = some (ns.map D.int)) (hn : 0 < ns.length) (h : C (.int (maxL ns)) S) : Post (maxAD [d] S) C := by
  unfold maxAD
  simp only [hd, intsOf_map]
  exact .guard hn h
theorem wp_maxAT {ns : List Int} {C : D → Store → Prop} (hn : 0 < ns.length) (h : C (.int (maxL ns)) S) : Post (maxAD [.tup (ns.map D.int)] S) C := by
  unfold maxAD
  simp only [show (D.tup (ns.map D.int)).asL S = none from rfl, show (D.tup (ns.map D.int)).asT = some (ns.map D.int) from rfl, intsOf_map]
  exact .guard hn h
theorem wp_lstRng2 {i j : Int} {C : D → Store → Prop} (hl : -(2 ^ 60) ≤ i ∧ i ≤ 2 ^ 60 ∧ -(2 ^ 60) ≤ j ∧ j ≤ 2 ^ 60 ∧ j - i ≤ 16777216) (h : C (.lst (rngL i (j - i).toNat)) S) : Post (lstRng2 (.int i) (.int j) S) C := .guard hl h
theorem wp_sortedN {d : D} {xs : List D} {ps : List PyData} {C : D → Store → Prop} (e1 : d.asL S = some xs) (e2 : D.pys xs = some ps) (e3 : srtB ps = true) (h : C (.cell S.length) (S ++ [.lst (srtL xs ps)])) : Post (sortedN [d] S) C := by
  unfold sortedN
  simp only [e1, e2, if_pos e3]
  exact .ok h
theorem wp_subB {a b : Bool} {C : D → Store → Prop} (h : C (.int (b2 a - b2 b)) S) : Post (subBD (.bl a) (.bl b) S) C := .ok h
theorem wp_sortKeyD {d : D} {xs : List D} {ks : List Int} {C : D → Store → Prop} (hd : d.asL S = some xs) (hk : keysI xs = some ks) (h : C (.lst (srtL xs (intP ks))) S) : Post (sortKeyD d S) C := by
  unfold sortKeyD
  rw [hd]
  simp only [hk]
  exact .ok h
theorem lookK_nil {k : NestedKey} : lookK [] k = none := rfl
theorem lookK_cons {kd v : D} {r : List (D × D)} {k : NestedKey} : lookK ((kd, v) :: r) k = if kd.key = some k then some v else lookK r k := by
  unfold lookK
  by_cases h : kd.key = some k
  · rw [List.find?_cons_of_pos (by simpa using h), if_pos h]; rfl
  · rw [List.find?_cons_of_neg (by simpa using h), if_neg h]
theorem lookK_snoc {kd v : D} {k : NestedKey} : ∀ {r : List (D × D)}, lookK (r ++ [(kd, v)]) k = match lookK r k with
    | some x => some x
    | none => if kd.key = some k then some v else none
  | [] => by rw [List.nil_append, lookK_cons, lookK_nil]
  | (a, b) :: r => by
    rw [List.cons_append, lookK_cons, lookK_cons]
    by_cases h : a.key = some k
    · rw [if_pos h, if_pos h]
    · rw [if_neg h, if_neg h]
      exact lookK_snoc
theorem putK_new {kvs : List (D × D)} {k : NestedKey} {kd vd : D} (h : lookK kvs k = none) : putK kvs k kd vd = kvs ++ [(kd, vd)] := by
  unfold putK
  rw [h]
  rfl
end MK

namespace Law
open PySem PySem.Spec PyProof.Rows L2 MK
def topS (i : Nat) : Stmt := PySem.Challenge.pw_unwrittenrow_k27_enclosures_reckoned.main.body.getD i (.Pass ⟨0, 0, 0, 0⟩)
/-! ### two_to -/
abbrev s_two_to : Stmt := topS 2
abbrev N_two_to : List Str := ["e", "found", "power"]
noncomputable def B_two_to : FS :=
    (fSeq (fAsg (fTup (fCons (fC (.int 1)) (fCons (fC (.int 2)) fNil))) (gTp 2 (gsCons (gNm 1) (gsCons (gNm 2) gsNil))))
    (fSeq (whileF (fB (f2 gtD (fVar 0) (fC (.int 0)))) (fSeq (fIf (fB (f2 neD (f2 mulS (f2 divD (fVar 0) (fC (.int 2))) (fC (.int 2))) (fVar 0))) (fSet 1 (f2 mulS (fVar 1) (fVar 2))) fNext)
    (fPar 2 0 (fCons (f2 mulS (fVar 2) (fVar 2)) (fCons (f2 divD (fVar 0) (fC (.int 2))) fNil)))) 1000000)
    (fRet (fVar 1))))
noncomputable def F_two_to : List D → Store → Out D := runB 3 (B_two_to)
/-! ### bits_of -/
abbrev s_bits_of : Stmt := topS 3
abbrev N_bits_of : List Str := ["x", "many"]
noncomputable def B_bits_of : FS :=
    (fSeq (fSet 1 (fC (.int 0)))
    (fSeq (whileF (fB (f2 geD (fVar 0) (fC (.int 18446744073709551616)))) (fPar 0 1 (fCons (f2 divD (fVar 0) (fC (.int 18446744073709551616))) (fCons (f2 addD (fVar 1) (fC (.int 64))) fNil))) 1000000)
    (fSeq (whileF (fB (f2 gtD (fVar 0) (fC (.int 0)))) (fPar 0 1 (fCons (f2 divD (fVar 0) (fC (.int 2))) (fCons (f2 addD (fVar 1) (fC (.int 1))) fNil))) 1000000)
    (fRet (fVar 1)))))
noncomputable def F_bits_of : List D → Store → Out D := runB 2 (B_bits_of)
/-! ### descending -/
abbrev s_descending : Stmt := topS 4
abbrev N_descending : List Str := ["pile", "c", "e"]
noncomputable def B_descending : FS :=
    (fRet (f1 revD (fCall sortedX (fCons (fLc [1, 2] (iSeq (fVar 0)) (gTp 2 (gsCons (gNm 1) (gsCons (gNm 2) gsNil))) (fB (f2 gtD (fVar 1) (fC (.int 0)))) (fTup (fCons (fVar 2) (fCons (fVar 1) fNil)))) fNil))))
noncomputable def F_descending : List D → Store → Out D := runB 3 (B_descending)
/-! ### compared -/
abbrev s_compared : Stmt := topS 5
abbrev N_compared : List Str := ["one", "other", "rows", "left", "gathered", "last", "e", "c"]
noncomputable def B_compared : FS :=
    (fSeq (fSet 2 (f2 addD (fCall F_descending (fCons (fVar 0) fNil)) (fLc [6, 7] (iSeq (fCall F_descending (fCons (fVar 1) fNil))) (gTp 2 (gsCons (gNm 6) (gsCons (gNm 7) gsNil))) fYes (fTup (fCons (fVar 6) (fCons (f2 subD (fC (.int 0)) (fVar 7)) fNil))))))
    (fSeq (fSet 2 (f1 revD (f1 sortKeyD (fVar 2))))
    (fSeq (fPar3 3 4 5 (fCons (fCall sumD (fCons (fLc [6, 7] (iSeq (fVar 2)) (gTp 2 (gsCons (gNm 6) (gsCons (gNm 7) gsNil))) fYes (fCall absD (fCons (fVar 7) fNil))) fNil)) (fCons (fC (.int 0)) (fCons (fC .non) fNil))))
    (fSeq (fFor (iSeq (fVar 2)) (gTp 2 (gsCons (gNm 6) (gsCons (gNm 7) gsNil))) (fSeq (fIf (fAnd (fB (f2 isnotD (fVar 5) (fC .non))) (fAnd (fB (f2 ltD (fVar 6) (fVar 5))) (fB (f2 neD (fVar 4) (fC (.int 0)))))) (fSeq (fIf (fB (f2 gtD (f2 subD (fVar 5) (fVar 6)) (fCall F_bits_of (fCons (fVar 3) fNil)))) (fRet (fIf (fB (f2 gtD (fVar 4) (fC (.int 0)))) (fC (.int 1)) (f1 negD (fC (.int 1))))) fNext)
    (fSet 4 (f2 mulS (fVar 4) (fCall F_two_to (fCons (f2 subD (fVar 5) (fVar 6)) fNil))))) fNext)
    (fPar3 4 5 3 (fCons (f2 addD (fVar 4) (fVar 7)) (fCons (fVar 6) (fCons (f2 subD (fVar 3) (fCall absD (fCons (fVar 7) fNil))) fNil))))))
    (fRet (f2 subBD (f2 gtD (fVar 4) (fC (.int 0))) (f2 ltD (fVar 4) (fC (.int 0)))))))))
noncomputable def F_compared : List D → Store → Out D := runB 8 (B_compared)
/-! ### below -/
abbrev s_below : Stmt := topS 6
abbrev N_below : List Str := ["pile", "e", "rows", "guard", "whole", "f", "c"]
noncomputable def B_below : FS :=
    (fSeq (fSet 2 (fCall F_descending (fCons (fVar 0) fNil)))
    (fSeq (fSet 3 (f2 addD (fCall F_bits_of (fCons (fCall sumD (fCons (fLc [5, 6] (iSeq (fVar 2)) (gTp 2 (gsCons (gNm 5) (gsCons (gNm 6) gsNil))) fYes (fVar 6)) fNil)) fNil)) (fC (.int 4))))
    (fSeq (fSet 4 (f2 divD (fCall sumD (fCons (fLc [5, 6] (iSeq (fVar 2)) (gTp 2 (gsCons (gNm 5) (gsCons (gNm 6) gsNil))) (fB (f2 geD (f2 addD (fVar 5) (fVar 3)) (fVar 1))) (f2 mulS (fVar 6) (fCall F_two_to (fCons (f2 subD (f2 addD (fVar 5) (fVar 3)) (fVar 1)) fNil)))) fNil)) (fCall F_two_to (fCons (fVar 3) fNil))))
    (fRet (fIf (fB (f2 geD (fCall F_compared (fCons (fVar 0) (fCons (fLst (fCons (fTup (fCons (f2 addD (fVar 4) (fC (.int 1))) (fCons (fVar 1) fNil))) fNil)) fNil))) (fC (.int 0)))) (f2 addD (fVar 4) (fC (.int 1))) (fVar 4))))))
noncomputable def F_below : List D → Store → Out D := runB 7 (B_below)
/-! ### above -/
abbrev s_above : Stmt := topS 7
abbrev N_above : List Str := ["pile", "e", "whole"]
noncomputable def B_above : FS :=
    (fSeq (fSet 2 (fCall F_below (fCons (fVar 0) (fCons (fVar 1) fNil))))
    (fRet (fIf (fB (f2 eqD (fCall F_compared (fCons (fVar 0) (fCons (fLst (fCons (fTup (fCons (fVar 2) (fCons (fVar 1) fNil))) fNil)) fNil))) (fC (.int 0)))) (fVar 2) (f2 addD (fVar 2) (fC (.int 1))))))
noncomputable def F_above : List D → Store → Out D := runB 3 (B_above)
/-! ### around -/
abbrev s_around : Stmt := topS 8
abbrev N_around : List Str := ["lows", "highs", "bits", "rows", "most", "e", "c"]
noncomputable def B_around : FS :=
    (fSeq (fSet 3 (fCall F_descending (fCons (fVar 1) fNil)))
    (fSeq (fIf (fB (f2 eqD (fVar 3) (fLst fNil))) (fRet (fTup (fCons (fC (.int 0)) (fCons (fC (.int 0)) (fCons (fC (.int 0)) fNil))))) fNext)
    (fSeq (fSet 4 (fCall maxAD (fCons (fLc [5, 6] (iSeq (fVar 3)) (gTp 2 (gsCons (gNm 5) (gsCons (gNm 6) gsNil))) fYes (f2 addD (fVar 5) (fCall F_bits_of (fCons (fVar 6) fNil)))) fNil)))
    (fSeq (fSet 5 (fCall max2D (fCons (fC (.int 0)) (fCons (f2 subD (fVar 4) (fVar 2)) fNil))))
    (fSeq (whileF (fB (f2 geD (fCall F_above (fCons (fVar 1) (fCons (fVar 5) fNil))) (fCall F_two_to (fCons (fVar 2) fNil)))) (fAug 5 addID (fC (.int 1))) 1000000)
    (fRet (fTup (fCons (fCall F_below (fCons (fVar 0) (fCons (fVar 5) fNil))) (fCons (fCall F_above (fCons (fVar 1) (fCons (fVar 5) fNil))) (fCons (fVar 5) fNil))))))))))
noncomputable def F_around : List D → Store → Out D := runB 7 (B_around)
/-! ### exact_one -/
abbrev s_exact_one : Stmt := topS 9
abbrev N_exact_one : List Str := ["x"]
noncomputable def B_exact_one : FS :=
    (fRet (fTup (fCons (fVar 0) (fCons (fVar 0) (fCons (fC (.int 0)) fNil)))))
noncomputable def F_exact_one : List D → Store → Out D := runB 1 (B_exact_one)
/-! ### lows_of -/
abbrev s_lows_of : Stmt := topS 10
abbrev N_lows_of : List Str := ["enclosures", "low", "high", "e"]
noncomputable def B_lows_of : FS :=
    (fRet (fLc [1, 2, 3] (iSeq (fVar 0)) (gTp 3 (gsCons (gNm 1) (gsCons (gNm 2) (gsCons (gNm 3) gsNil)))) fYes (fTup (fCons (fVar 1) (fCons (fVar 3) fNil)))))
noncomputable def F_lows_of : List D → Store → Out D := runB 4 (B_lows_of)
/-! ### highs_of -/
abbrev s_highs_of : Stmt := topS 11
abbrev N_highs_of : List Str := ["enclosures", "low", "high", "e"]
noncomputable def B_highs_of : FS :=
    (fRet (fLc [1, 2, 3] (iSeq (fVar 0)) (gTp 3 (gsCons (gNm 1) (gsCons (gNm 2) (gsCons (gNm 3) gsNil)))) fYes (fTup (fCons (fVar 2) (fCons (fVar 3) fNil)))))
noncomputable def F_highs_of : List D → Store → Out D := runB 4 (B_highs_of)
/-! ### sum_of -/
abbrev s_sum_of : Stmt := topS 12
abbrev N_sum_of : List Str := ["enclosures", "bits"]
noncomputable def B_sum_of : FS :=
    (fRet (fCall F_around (fCons (fCall F_lows_of (fCons (fVar 0) fNil)) (fCons (fCall F_highs_of (fCons (fVar 0) fNil)) (fCons (fVar 1) fNil)))))
noncomputable def F_sum_of : List D → Store → Out D := runB 2 (B_sum_of)
/-! ### product_of -/
abbrev s_product_of : Stmt := topS 13
abbrev N_product_of : List Str := ["one", "other"]
noncomputable def B_product_of : FS :=
    (fRet (fTup (fCons (f2 mulS (f2 ixD (fVar 0) (fC (.int 0))) (f2 ixD (fVar 1) (fC (.int 0)))) (fCons (f2 mulS (f2 ixD (fVar 0) (fC (.int 1))) (f2 ixD (fVar 1) (fC (.int 1)))) (fCons (f2 addD (f2 ixD (fVar 0) (fC (.int 2))) (f2 ixD (fVar 1) (fC (.int 2)))) fNil)))))
noncomputable def F_product_of : List D → Store → Out D := runB 2 (B_product_of)
/-! ### trimmed -/
abbrev s_trimmed : Stmt := topS 14
abbrev N_trimmed : List Str := ["enclosure", "bits"]
noncomputable def B_trimmed : FS :=
    (fRet (fCall F_sum_of (fCons (fLst (fCons (fVar 0) fNil)) (fCons (fVar 1) fNil))))
noncomputable def F_trimmed : List D → Store → Out D := runB 2 (B_trimmed)
/-! ### lies_in -/
abbrev s_lies_in : Stmt := topS 16
abbrev N_lies_in : List Str := ["one", "other", "is_low"]
noncomputable def B_lies_in : FS :=
    (fSeq (fSet 2 (f2 leD (fCall F_compared (fCons (fLst (fCons (fTup (fCons (f2 ixD (fVar 1) (fC (.int 0))) (fCons (f2 ixD (fVar 1) (fC (.int 2))) fNil))) fNil)) (fCons (fLst (fCons (fTup (fCons (f2 ixD (fVar 0) (fC (.int 0))) (fCons (f2 ixD (fVar 0) (fC (.int 2))) fNil))) fNil)) fNil))) (fC (.int 0))))
    (fRet (fAndV (fVar 2) (f2 leD (fCall F_compared (fCons (fLst (fCons (fTup (fCons (f2 ixD (fVar 0) (fC (.int 1))) (fCons (f2 ixD (fVar 0) (fC (.int 2))) fNil))) fNil)) (fCons (fLst (fCons (fTup (fCons (f2 ixD (fVar 1) (fC (.int 1))) (fCons (f2 ixD (fVar 1) (fC (.int 2))) fNil))) fNil)) fNil))) (fC (.int 0))))))
noncomputable def F_lies_in : List D → Store → Out D := runB 3 (B_lies_in)
/-! ### holds -/
abbrev s_holds : Stmt := topS 15
abbrev N_holds : List Str := ["enclosure", "x"]
noncomputable def B_holds : FS :=
    (fRet (fCall F_lies_in (fCons (fCall F_exact_one (fCons (fVar 1) fNil)) (fCons (fVar 0) fNil))))
noncomputable def F_holds : List D → Store → Out D := runB 2 (B_holds)
/-! ### _law_bag -/
abbrev s__law_bag : Stmt := topS 18
abbrev N__law_bag : List Str := ["_law_script", "_law_cell"]
noncomputable def B__law_bag : FS :=
    (fRet (fNew (fCons (fC (.int 0)) (fCons (fC (.int 1234567891)) (fCons (fC (.int 0)) (fCons (fLc [1] (iSeq (fSlS (fVar 0) (fC none) (fO (fC (.int 63))))) (gNm 1) fYes (fCall absD (fCons (fVar 1) fNil))) fNil))))))
noncomputable def F__law_bag : List D → Store → Out D := runB 2 (B__law_bag)
/-! ### _law_take -/
abbrev s__law_take : Stmt := topS 19
abbrev N__law_take : List Str := ["_law_bag_here", "_law_many", "_law_cell", "_law_stirred", "_law_value", "_law_begin", "_law_second"]
noncomputable def B__law_take : FS :=
    (fSeq (fIf (fB (f2 eqD (f2 ixD (fVar 0) (fC (.int 0))) (fC (.int 0)))) (fSeq (fSet 2 (f2 ixD (f2 addD (fSlS (f2 ixD (fVar 0) (fC (.int 3))) (fO (f2 ixD (fVar 0) (fC (.int 2)))) (fC none)) (fLst (fCons (fC (.int 0)) fNil))) (fC (.int 0))))
    (fSeq (fAugS ixLD addID setD (fVar 0) (fC (.int 2)) (fC (.int 1)))
    (fSeq (fIf (fB (f2 geD (fVar 2) (f2 powD (fC (.int 10)) (fC (.int 18))))) (fAsg (fVar 2) (gSb setD (fVar 0) (fC (.int 0)))) fNext)
    (fSeq (fSet 3 (f2 addD (f2 addD (f2 mulS (f2 ixD (fVar 0) (fC (.int 1))) (fC (.int 48271))) (f2 modD (fCall intD (fCons (fVar 2) fNil)) (fC (.int 2147483647)))) (f2 mulS (fC (.int 7919)) (f2 ixD (fVar 0) (fC (.int 2))))))
    (fAsg (f2 modD (fCall intD (fCons (fVar 3) fNil)) (fC (.int 2147483647))) (gSb setD (fVar 0) (fC (.int 1)))))))) fNext)
    (fSeq (fIf (fB (f2 gtD (f2 ixD (fVar 0) (fC (.int 0))) (fC (.int 0)))) (fSeq (fSet 4 (f2 modD (fCall intD (fCons (f2 ixD (fVar 0) (fC (.int 0))) fNil)) (fVar 1)))
    (fSeq (fAsg (f2 divD (fCall intD (fCons (f2 ixD (fVar 0) (fC (.int 0))) fNil)) (fVar 1)) (gSb setD (fVar 0) (fC (.int 0))))
    (fRet (fVar 4)))) fNext)
    (fSeq (fSet 5 (f2 modD (fCall intD (fCons (f2 mulS (f2 addD (f2 ixD (fVar 0) (fC (.int 1))) (fC (.int 1))) (fC (.int 39373))) fNil)) (fC (.int 1000000007))))
    (fSeq (fSet 6 (f2 modD (fCall intD (fCons (f2 mulS (f2 modD (fCall intD (fCons (f2 mulS (fVar 5) (fVar 5)) fNil)) (fC (.int 998244353))) (fC (.int 30011))) fNil)) (fC (.int 998244353))))
    (fRet (f2 modD (fCall intD (fCons (f2 divD (fVar 6) (fC (.int 7))) fNil)) (fVar 1)))))))
noncomputable def F__law_take : List D → Store → Out D := runB 7 (B__law_take)
/-! ### _law_some -/
abbrev s__law_some : Stmt := topS 20
abbrev N__law_some : List Str := ["_law_bag_here", "_law_things"]
noncomputable def B__law_some : FS :=
    (fRet (f2 ixD (fVar 1) (fCall F__law_take (fCons (fVar 0) (fCons (fCall lenD (fCons (fVar 1) fNil)) fNil)))))
noncomputable def F__law_some : List D → Store → Out D := runB 2 (B__law_some)
/-! ### _law_pile -/
abbrev s__law_pile : Stmt := topS 21
abbrev N__law_pile : List Str := ["_law_bag_here", "_law_found", "_law_turn", "_law_c"]
noncomputable def B__law_pile : FS :=
    (fSeq (fSet 1 (fNew fNil))
    (fSeq (fFor (iRng (fCons (fCall F__law_some (fCons (fVar 0) (fCons (fLst (fCons (fC (.int 0)) (fCons (fC (.int 1)) (fCons (fC (.int 2)) (fCons (fC (.int 3)) (fCons (fC (.int 6)) fNil)))))) fNil))) fNil)) (gNm 2) (fSeq (fSet 3 (fCall F__law_some (fCons (fVar 0) (fCons (fLst (fCons (fC (.int 0)) (fCons (fC (.int 1)) (fCons (fC (.int 2)) (fCons (fC (.int 3)) (fCons (fC (.int 7)) (fCons (fCall F__law_take (fCons (fVar 0) (fCons (f2 powD (fC (.int 10)) (fC (.int 6))) fNil))) (fCons (f2 addD (f2 mulS (fCall F__law_take (fCons (fVar 0) (fCons (f2 powD (fC (.int 10)) (fC (.int 9))) fNil))) (f2 powD (fC (.int 10)) (fC (.int 12)))) (fC (.int 1))) fNil)))))))) fNil))))
    (fDrop (fBm appD (fVar 1) (fCons (fTup (fCons (fVar 3) (fCons (fCall F__law_some (fCons (fVar 0) (fCons (fLst (fCons (fC (.int 0)) (fCons (fC (.int 1)) (fCons (fC (.int 5)) (fCons (fC (.int 40)) (fCons (fC (.int 41)) (fCons (fC (.int 200)) (fCons (fCall F__law_take (fCons (fVar 0) (fCons (fC (.int 600)) fNil))) fNil)))))))) fNil))) fNil))) fNil)))))
    (fRet (fFrz (fVar 1)))))
noncomputable def F__law_pile : List D → Store → Out D := runB 4 (B__law_pile)
/-! ### _law_far -/
abbrev s__law_far : Stmt := topS 22
abbrev N__law_far : List Str := ["_law_bag_here", "_law_some_here", "_law_great", "_law_way", "_law_far_here", "_law_one"]
noncomputable def B__law_far : FS :=
    (fSeq (fAsg (fTup (fCons (f2 mulS (f2 mulS (f2 mulS (f2 powD (fC (.int 2)) (fC (.int 50))) (f2 powD (fC (.int 2)) (fC (.int 50)))) (f2 powD (fC (.int 2)) (fC (.int 50)))) (f2 powD (fC (.int 2)) (fC (.int 50)))) (fCons (fCall F__law_take (fCons (fVar 0) (fCons (fC (.int 4)) fNil))) fNil))) (gTp 2 (gsCons (gNm 2) (gsCons (gNm 3) gsNil))))
    (fSeq (fIf (fB (f2 eqD (fVar 3) (fC (.int 0)))) (fRet (fLc [5] (iSeq (fVar 1)) (gNm 5) fYes (f2 addD (fSlS (fVar 5) (fC none) (fO (f1 negD (fC (.int 1))))) (fTup (fCons (f2 addD (f2 ixD (fVar 5) (f1 negD (fC (.int 1)))) (fCall F__law_some (fCons (fVar 0) (fCons (fLst (fCons (fC (.int 0)) (fCons (fVar 2) (fCons (f2 addD (fVar 2) (fC (.int 3))) (fCons (f2 powD (fC (.int 10)) (fC (.int 60))) fNil))))) fNil)))) fNil))))) fNext)
    (fSeq (fSet 4 (f2 ixD (fLst (fCons (fC (.int 0)) (fCons (fC (.int 0)) (fCons (fVar 2) (fCons (f2 powD (fC (.int 10)) (fC (.int 60))) fNil))))) (fVar 3)))
    (fRet (fLc [5] (iSeq (fVar 1)) (gNm 5) fYes (f2 addD (fSlS (fVar 5) (fC none) (fO (f1 negD (fC (.int 1))))) (fTup (fCons (f2 addD (f2 ixD (fVar 5) (f1 negD (fC (.int 1)))) (fVar 4)) fNil))))))))
noncomputable def F__law_far : List D → Store → Out D := runB 6 (B__law_far)
/-! ### _law_mixed -/
abbrev s__law_mixed : Stmt := topS 23
abbrev N__law_mixed : List Str := ["_law_bag_here", "_law_things", "_law_found", "_law_thing"]
noncomputable def B__law_mixed : FS :=
    (fSeq (fSet 2 (fNew fNil))
    (fSeq (fFor (iSeq (fVar 1)) (gNm 3) (fDrop (fBm insD (fVar 2) (fCons (fCall F__law_take (fCons (fVar 0) (fCons (f2 addD (fCall lenD (fCons (fVar 2) fNil)) (fC (.int 1))) fNil))) (fCons (fVar 3) fNil)))))
    (fRet (fFrz (fVar 2)))))
noncomputable def F__law_mixed : List D → Store → Out D := runB 4 (B__law_mixed)
/-! ### _law_alike -/
abbrev s__law_alike : Stmt := topS 24
abbrev N__law_alike : List Str := ["_law_found", "_law_due"]
noncomputable def B__law_alike : FS :=
    (fRet (fAndV (f2 eqD (fVar 0) (fVar 1)) (f2 eqD (fCall reprD (fCons (fVar 0) fNil)) (fCall reprD (fCons (fVar 1) fNil)))))
noncomputable def F__law_alike : List D → Store → Out D := runB 2 (B__law_alike)
/-! ### _law_two -/
abbrev s__law_two : Stmt := topS 25
abbrev N__law_two : List Str := ["_law_e", "_law_found", "_law_power"]
noncomputable def B__law_two : FS :=
    (fSeq (fAsg (fTup (fCons (fC (.int 1)) (fCons (fC (.int 2)) fNil))) (gTp 2 (gsCons (gNm 1) (gsCons (gNm 2) gsNil))))
    (fSeq (whileF (fB (f2 gtD (fVar 0) (fC (.int 0)))) (fSeq (fIf (fB (f2 eqD (f2 modD (fCall intD (fCons (fVar 0) fNil)) (fC (.int 2))) (fC (.int 1)))) (fSet 1 (f2 mulS (fVar 1) (fVar 2))) fNext)
    (fPar 2 0 (fCons (f2 mulS (fVar 2) (fVar 2)) (fCons (f2 divD (fCall intD (fCons (fVar 0) fNil)) (fC (.int 2))) fNil)))) 1000000)
    (fRet (fVar 1))))
noncomputable def F__law_two : List D → Store → Out D := runB 3 (B__law_two)
/-! ### _law_order -/
abbrev s__law_order : Stmt := topS 26
abbrev N__law_order : List Str := ["_law_one", "_law_other", "_law_ends", "_law_line", "_law_number", "_law_e", "_law_lower", "_law_c"]
noncomputable def B__law_order : FS :=
    (fSeq (fSet 2 (f2 addD (fLc [7, 5] (iSeq (fVar 0)) (gTp 2 (gsCons (gNm 7) (gsCons (gNm 5) gsNil))) (fB (f2 gtD (fVar 7) (fC (.int 0)))) (fTup (fCons (fVar 5) (fCons (fVar 7) fNil)))) (fLc [7, 5] (iSeq (fVar 1)) (gTp 2 (gsCons (gNm 7) (gsCons (gNm 5) gsNil))) (fB (f2 gtD (fVar 7) (fC (.int 0)))) (fTup (fCons (fVar 5) (fCons (f2 subD (fC (.int 0)) (fVar 7)) fNil))))))
    (fSeq (fPar3 3 4 5 (fCons (fCall sortedN (fCons (fVar 2) fNil)) (fCons (fC (.int 0)) (fCons (fC (.int 0)) fNil))))
    (fSeq (whileF (fB (f2 neD (fVar 3) (fLst fNil))) (fSeq (fAsg (fBm popD (fVar 3) fNil) (gTp 2 (gsCons (gNm 6) (gsCons (gNm 7) gsNil))))
    (fSeq (fIf (fAnd (fB (f2 neD (fVar 4) (fC (.int 0)))) (fB (f2 gtD (f2 subD (fVar 5) (fVar 6)) (fC (.int 4000))))) (fRet (fIf (fB (f2 gtD (fVar 4) (fC (.int 0)))) (fC (.int 1)) (f1 negD (fC (.int 1))))) fNext)
    (fSeq (fSet 4 (fIf (fB (f2 neD (fVar 4) (fC (.int 0)))) (f2 addD (f2 mulS (fVar 4) (fCall F__law_two (fCons (f2 subD (fVar 5) (fVar 6)) fNil))) (fVar 7)) (fVar 7)))
    (fSet 5 (fVar 6))))) 1000000)
    (fRet (f2 subBD (f2 gtD (fVar 4) (fC (.int 0))) (f2 ltD (fVar 4) (fC (.int 0))))))))
noncomputable def F__law_order : List D → Store → Out D := runB 8 (B__law_order)
/-! ### _law_long -/
abbrev s__law_long : Stmt := topS 27
abbrev N__law_long : List Str := ["_law_x", "_law_found"]
noncomputable def B__law_long : FS :=
    (fSeq (fSet 1 (fC (.int 0)))
    (fSeq (whileF (fB (f2 geD (fVar 0) (f2 powD (fC (.int 2)) (fC (.int 60))))) (fPar 0 1 (fCons (f2 divD (fCall intD (fCons (fVar 0) fNil)) (f2 powD (fC (.int 2)) (fC (.int 60)))) (fCons (f2 addD (fVar 1) (fC (.int 60))) fNil))) 1000000)
    (fSeq (whileF (fB (f2 gtD (fVar 0) (fC (.int 0)))) (fPar 0 1 (fCons (f2 divD (fCall intD (fCons (fVar 0) fNil)) (fC (.int 2))) (fCons (f2 addD (fVar 1) (fC (.int 1))) fNil))) 1000000)
    (fRet (fVar 1)))))
noncomputable def F__law_long : List D → Store → Out D := runB 2 (B__law_long)
/-! ### _law_top -/
abbrev s__law_top : Stmt := topS 28
abbrev N__law_top : List Str := ["_law_pile_here", "_law_bound", "_law_line", "_law_number", "_law_e", "_law_top_here", "_law_lower", "_law_c"]
noncomputable def B__law_top : FS :=
    (fSeq (fSet 2 (fCall sortedN (fCons (fLc [7, 4] (iSeq (fVar 0)) (gTp 2 (gsCons (gNm 7) (gsCons (gNm 4) gsNil))) (fB (f2 gtD (fVar 7) (fC (.int 0)))) (fTup (fCons (f2 addD (fVar 4) (fCall F__law_long (fCons (fVar 7) fNil))) (fCons (fVar 4) (fCons (fVar 7) fNil))))) fNil)))
    (fSeq (fIf (fB (f2 eqD (fVar 2) (fLst fNil))) (fRet (fTup (fCons (fC (.int 0)) (fCons (fVar 1) (fCons (fC (.bl false)) fNil))))) fNext)
    (fSeq (fPar 3 4 (fCons (fC (.int 0)) (fCons (f2 ixD (f2 ixD (fVar 2) (f1 negD (fC (.int 1)))) (fC (.int 1))) fNil)))
    (fSeq (whileF (fAnd (fB (f2 neD (fVar 2) (fLst fNil))) (fB (f2 geD (f2 addD (f2 ixD (f2 ixD (fVar 2) (f1 negD (fC (.int 1)))) (fC (.int 0))) (fC (.int 12))) (fCall min2D (fCons (fVar 4) (fCons (fVar 1) fNil)))))) (fSeq (fAsg (fBm popD (fVar 2) fNil) (gTp 3 (gsCons (gNm 5) (gsCons (gNm 6) (gsCons (gNm 7) gsNil)))))
    (fIf (fB (f2 ltD (fVar 6) (fVar 4))) (fPar 3 4 (fCons (f2 addD (f2 mulS (fVar 3) (fCall F__law_two (fCons (f2 subD (fVar 4) (fVar 6)) fNil))) (fVar 7)) (fCons (fVar 6) fNil))) (fSet 3 (f2 addD (fVar 3) (f2 mulS (fVar 7) (fCall F__law_two (fCons (f2 subD (fVar 6) (fVar 4)) fNil))))))) 1000000)
    (fRet (fTup (fCons (fVar 3) (fCons (fVar 4) (fCons (f2 neD (fVar 2) (fLst fNil)) fNil)))))))))
noncomputable def F__law_top : List D → Store → Out D := runB 8 (B__law_top)
/-! ### _law_by_two -/
abbrev s__law_by_two : Stmt := topS 29
abbrev N__law_by_two : List Str := ["_law_pile_here", "_law_e", "_law_is_up", "_law_number", "_law_its", "_law_has_rest", "_law_power", "_law_found"]
noncomputable def B__law_by_two : FS :=
    (fSeq (fAsg (fCall F__law_top (fCons (fVar 0) (fCons (fVar 1) fNil))) (gTp 3 (gsCons (gNm 3) (gsCons (gNm 4) (gsCons (gNm 5) gsNil)))))
    (fSeq (fIf (fB (f2 geD (fVar 4) (fVar 1))) (fRet (f2 addD (f2 mulS (fVar 3) (fCall F__law_two (fCons (f2 subD (fVar 4) (fVar 1)) fNil))) (fCall intD (fCons (fAndV (fVar 2) (fVar 5)) fNil)))) fNext)
    (fSeq (fIf (fB (f2 gtD (f2 subD (fVar 1) (fVar 4)) (f2 addD (fCall F__law_long (fCons (fVar 3) fNil)) (fC (.int 1))))) (fRet (fCall intD (fCons (fAndV (fVar 2) (fOrV (f2 gtD (fVar 3) (fC (.int 0))) (fVar 5))) fNil))) fNext)
    (fSeq (fSet 6 (fCall F__law_two (fCons (f2 subD (fVar 1) (fVar 4)) fNil)))
    (fSeq (fSet 7 (f2 divD (fCall intD (fCons (fVar 3) fNil)) (fVar 6)))
    (fRet (f2 addD (fVar 7) (fCall intD (fCons (fAndV (fVar 2) (fOrV (f2 neD (f2 mulS (fVar 7) (fVar 6)) (fVar 3)) (fVar 5))) fNil)))))))))
noncomputable def F__law_by_two : List D → Store → Out D := runB 8 (B__law_by_two)
/-! ### _law_around -/
abbrev s__law_around : Stmt := topS 30
abbrev N__law_around : List Str := ["_law_lows", "_law_highs", "_law_bits", "_law_tops", "_law_e", "_law_most", "_law_c", "_law_top_here"]
noncomputable def B__law_around : FS :=
    (fSeq (fSet 3 (fLc [6, 4] (iSeq (fVar 1)) (gTp 2 (gsCons (gNm 6) (gsCons (gNm 4) gsNil))) (fB (f2 gtD (fVar 6) (fC (.int 0)))) (f2 addD (fVar 4) (fCall F__law_long (fCons (fVar 6) fNil)))))
    (fSeq (fPar 4 5 (fCons (fCall maxAD (fCons (f2 addD (fLst (fCons (fC (.int 0)) fNil)) (fLc [7] (iSeq (fVar 3)) (gNm 7) fYes (f2 subD (fVar 7) (fVar 2)))) fNil)) (fCons (fCall F__law_two (fCons (fVar 2) fNil)) fNil)))
    (fSeq (whileF (fB (f2 geD (fCall F__law_by_two (fCons (fVar 1) (fCons (fVar 4) (fCons (fC (.bl true)) fNil)))) (fVar 5))) (fAug 4 addID (fC (.int 1))) 1000000)
    (fRet (fTup (fCons (fCall F__law_by_two (fCons (fVar 0) (fCons (fVar 4) (fCons (fC (.bl false)) fNil)))) (fCons (fCall F__law_by_two (fCons (fVar 1) (fCons (fVar 4) (fCons (fC (.bl true)) fNil)))) (fCons (fVar 4) fNil))))))))
noncomputable def F__law_around : List D → Store → Out D := runB 8 (B__law_around)
/-! ### _law_enclosure -/
abbrev s__law_enclosure : Stmt := topS 31
abbrev N__law_enclosure : List Str := ["_law_bag_here", "_law_low"]
noncomputable def B__law_enclosure : FS :=
    (fSeq (fSet 1 (fCall F__law_some (fCons (fVar 0) (fCons (fLst (fCons (fC (.int 0)) (fCons (fC (.int 1)) (fCons (fC (.int 5)) (fCons (fC (.int 255)) (fCons (fC (.int 256)) (fCons (fCall F__law_take (fCons (fVar 0) (fCons (f2 powD (fC (.int 10)) (fC (.int 6))) fNil))) fNil))))))) fNil))))
    (fRet (fTup (fCons (fVar 1) (fCons (f2 addD (fVar 1) (fCall F__law_some (fCons (fVar 0) (fCons (fLst (fCons (fC (.int 0)) (fCons (fC (.int 1)) (fCons (fC (.int 2)) (fCons (fC (.int 100)) (fCons (fC (.int 0)) fNil)))))) fNil)))) (fCons (fCall F__law_some (fCons (fVar 0) (fCons (fLst (fCons (fC (.int 0)) (fCons (fC (.int 1)) (fCons (fC (.int 2)) (fCons (fC (.int 9)) (fCons (fC (.int 64)) (fCons (fC (.int 300)) fNil))))))) fNil))) fNil))))))
noncomputable def F__law_enclosure : List D → Store → Out D := runB 2 (B__law_enclosure)
/-! ### _law_is_within -/
abbrev s__law_is_within : Stmt := topS 32
abbrev N__law_is_within : List Str := ["_law_one", "_law_other"]
noncomputable def B__law_is_within : FS :=
    (fSeq (fIf (fB (f2 gtD (fCall F__law_order (fCons (fLst (fCons (fTup (fCons (f2 ixD (fVar 1) (fC (.int 0))) (fCons (f2 ixD (fVar 1) (fC (.int 2))) fNil))) fNil)) (fCons (fLst (fCons (fTup (fCons (f2 ixD (fVar 0) (fC (.int 0))) (fCons (f2 ixD (fVar 0) (fC (.int 2))) fNil))) fNil)) fNil))) (fC (.int 0)))) (fRet (fC (.bl false))) fNext)
    (fRet (f2 leD (fCall F__law_order (fCons (fLst (fCons (fTup (fCons (f2 ixD (fVar 0) (fC (.int 1))) (fCons (f2 ixD (fVar 0) (fC (.int 2))) fNil))) fNil)) (fCons (fLst (fCons (fTup (fCons (f2 ixD (fVar 1) (fC (.int 1))) (fCons (f2 ixD (fVar 1) (fC (.int 2))) fNil))) fNil)) fNil))) (fC (.int 0)))))
noncomputable def F__law_is_within : List D → Store → Out D := runB 2 (B__law_is_within)
/-! ### _law_dusty -/
abbrev s__law_dusty : Stmt := topS 33
abbrev N__law_dusty : List Str := ["_law_bag_here", "_law_great", "_law_far_here", "_law_heads", "_law_dust", "_law_one", "_law_other", "_law_turn", "_law_c", "_law_e"]
noncomputable def B__law_dusty : FS :=
    (fSeq (fAsg (fTup (fCons (f2 mulS (f2 mulS (f2 mulS (f2 powD (fC (.int 2)) (fC (.int 50))) (f2 powD (fC (.int 2)) (fC (.int 50)))) (f2 powD (fC (.int 2)) (fC (.int 50)))) (f2 powD (fC (.int 2)) (fC (.int 50)))) (fCons (fCall F__law_some (fCons (fVar 0) (fCons (fLst (fCons (fC (.int 0)) (fCons (fC (.int 1)) (fCons (fC (.int 3000)) (fCons (fC (.int 9000)) fNil))))) fNil))) fNil))) (gTp 2 (gsCons (gNm 1) (gsCons (gNm 2) gsNil))))
    (fSeq (fSet 3 (fLc [7] (iRng (fCons (f2 addD (fC (.int 1)) (fCall F__law_take (fCons (fVar 0) (fCons (fC (.int 3)) fNil)))) fNil)) (gNm 7) fYes (fTup (fCons (f2 addD (fC (.int 1)) (fCall F__law_take (fCons (fVar 0) (fCons (fC (.int 9)) fNil)))) (fCons (f2 addD (f2 addD (fVar 1) (fVar 2)) (fCall F__law_take (fCons (fVar 0) (fCons (fC (.int 70)) fNil)))) fNil)))))
    (fSeq (fSet 4 (fLst (fCons (fLst fNil) (fCons (fLst (fCons (fTup (fCons (fC (.int 1)) (fCons (fC (.int 0)) fNil))) fNil)) (fCons (fLst (fCons (fTup (fCons (fC (.int 1)) (fCons (fVar 2) fNil))) fNil)) (fCons (fLst (fCons (fTup (fCons (fC (.int 3)) (fCons (fC (.int 40)) fNil))) fNil)) (fCons (fLst (fCons (fTup (fCons (fC (.int 1)) (fCons (f2 subD (fVar 1) (fC (.int 5000))) fNil))) fNil)) (fCons (fLst (fCons (fTup (fCons (fC (.int 1)) (fCons (f2 subD (fVar 1) (fC (.int 900))) fNil))) fNil)) (fCons (fLst (fCons (fTup (fCons (fC (.int 2)) (fCons (fC (.int 0)) fNil))) (fCons (fTup (fCons (fC (.int 1)) (fCons (fC (.int 9)) fNil))) fNil))) fNil)))))))))
    (fSeq (fPar 5 6 (fCons (f2 addD (fVar 3) (fCall F__law_some (fCons (fVar 0) (fCons (fVar 4) fNil)))) (fCons (f2 addD (fCall F__law_mixed (fCons (fVar 0) (fCons (fVar 3) fNil))) (fCall F__law_some (fCons (fVar 0) (fCons (fVar 4) fNil)))) fNil)))
    (fSeq (fIf (fB (f2 eqD (fCall F__law_take (fCons (fVar 0) (fCons (fC (.int 3)) fNil))) (fC (.int 0)))) (fSet 6 (f2 addD (fLc [8, 9] (iSeq (fVar 3)) (gTp 2 (gsCons (gNm 8) (gsCons (gNm 9) gsNil))) fYes (fTup (fCons (f2 mulS (fC (.int 2)) (fVar 8)) (fCons (f2 subD (fVar 9) (fC (.int 1))) fNil)))) (fCall F__law_some (fCons (fVar 0) (fCons (fVar 4) fNil))))) fNext)
    (fRet (fTup (fCons (fVar 5) (fCons (fVar 6) fNil)))))))))
noncomputable def F__law_dusty : List D → Store → Out D := runB 10 (B__law_dusty)
/-! ### _law_does_hold -/
abbrev s__law_does_hold : Stmt := topS 34
abbrev N__law_does_hold : List Str := ["_law_enclosure_here", "_law_x", "_law_power"]
noncomputable def B__law_does_hold : FS :=
    (fSeq (fSet 2 (fCall F__law_two (fCons (f2 ixD (fVar 0) (fC (.int 2))) fNil)))
    (fRet (fCh leD leD (f2 mulS (f2 ixD (fVar 0) (fC (.int 0))) (fVar 2)) (fVar 1) (f2 mulS (f2 ixD (fVar 0) (fC (.int 1))) (fVar 2)))))
noncomputable def F__law_does_hold : List D → Store → Out D := runB 3 (B__law_does_hold)
/-! ### law -/
abbrev s_law : Stmt := topS 35
abbrev N_law : List Str := ["_law_script", "_law_bag_here", "_law_turn", "_law_one", "_law_other", "_law_bits", "_law_both", "_law_mixed_here", "_law_shown", "_law_less", "_law_more", "_law_some_here", "_law_lows", "_law_highs", "_law_said", "_law_first", "_law_second", "_law_due", "_law_told", "_law_near", "_law_x", "_law_power", "_law_ends", "_law_again", "_law_its"]
noncomputable def B_law : FS :=
    (fSeq (fSet 1 (fCall F__law_bag (fCons (fVar 0) fNil)))
    (fSeq (fFor (iRng (fCons (fC (.int 6)) fNil)) (gNm 2) (fSeq (fPar3 3 4 5 (fCons (fCall F__law_pile (fCons (fVar 1) fNil)) (fCons (fCall F__law_pile (fCons (fVar 1) fNil)) (fCons (fCall F__law_some (fCons (fVar 1) (fCons (fLst (fCons (fC (.int 1)) (fCons (fC (.int 2)) (fCons (fC (.int 3)) (fCons (fC (.int 8)) (fCons (fC (.int 60)) (fCons (fC (.int 300)) fNil))))))) fNil))) fNil))))
    (fSeq (fSet 6 (fCall F__law_far (fCons (fVar 1) (fCons (f2 addD (fVar 3) (fVar 4)) fNil))))
    (fSeq (fPar 3 4 (fCons (fSlS (fVar 6) (fC none) (fO (fCall lenD (fCons (fVar 3) fNil)))) (fCons (fSlS (fVar 6) (fO (fCall lenD (fCons (fVar 3) fNil))) (fC none)) fNil)))
    (fSeq (fPar 7 8 (fCons (fCall tupleD (fCons (fCall F__law_mixed (fCons (fVar 1) (fCons (fVar 3) fNil))) fNil)) (fCons (fCall reprD (fCons (fLst (fCons (fVar 3) (fCons (fVar 4) fNil))) fNil)) fNil)))
    (fSeq (fIf (fNot (fB (fCall F__law_alike (fCons (fLst (fCons (fCall F_compared (fCons (fVar 3) (fCons (fVar 4) fNil))) (fCons (fCall F_compared (fCons (fVar 7) (fCons (fVar 3) fNil))) fNil))) (fCons (fLst (fCons (fCall F__law_order (fCons (fVar 3) (fCons (fVar 4) fNil))) (fCons (fC (.int 0)) fNil))) fNil))))) (fRet (fC (.bl false))) fNext)
    (fSeq (fAsg (fIf (fB (f2 leD (fCall F__law_order (fCons (fVar 3) (fCons (fVar 4) fNil))) (fC (.int 0)))) (fTup (fCons (fVar 3) (fCons (fVar 4) fNil))) (fTup (fCons (fVar 4) (fCons (fVar 3) fNil)))) (gTp 2 (gsCons (gNm 9) (gsCons (gNm 10) gsNil))))
    (fSeq (fIf (fNot (fB (fCall F__law_alike (fCons (fCall F_around (fCons (fVar 9) (fCons (fCall tupleD (fCons (fCall F__law_mixed (fCons (fVar 1) (fCons (fVar 10) fNil))) fNil)) (fCons (fVar 5) fNil)))) (fCons (fCall F__law_around (fCons (fVar 9) (fCons (fVar 10) (fCons (fVar 5) fNil)))) fNil))))) (fRet (fC (.bl false))) fNext)
    (fSeq (fSet 11 (fCall F__law_far (fCons (fVar 1) (fCons (fLc [23] (iRng (fCons (fCall F__law_some (fCons (fVar 1) (fCons (fLst (fCons (fC (.int 2)) (fCons (fC (.int 0)) (fCons (fC (.int 1)) (fCons (fC (.int 5)) fNil))))) fNil))) fNil)) (gNm 23) fYes (fCall F__law_enclosure (fCons (fVar 1) fNil))) fNil))))
    (fSeq (fPar3 12 13 14 (fCons (fLc [24] (iSeq (fVar 11)) (gNm 24) fYes (fTup (fCons (f2 ixD (fVar 24) (fC (.int 0))) (fCons (f2 ixD (fVar 24) (fC (.int 2))) fNil)))) (fCons (fLc [24] (iSeq (fVar 11)) (gNm 24) fYes (fTup (fCons (f2 ixD (fVar 24) (fC (.int 1))) (fCons (f2 ixD (fVar 24) (fC (.int 2))) fNil)))) (fCons (fCall reprD (fCons (fVar 11) fNil)) fNil))))
    (fSeq (fIf (fOr (fNot (fB (fCall F__law_alike (fCons (fCall F_sum_of (fCons (fVar 11) (fCons (fVar 5) fNil))) (fCons (fCall F__law_around (fCons (fVar 12) (fCons (fVar 13) (fCons (fVar 5) fNil)))) fNil))))) (fB (f2 neD (fCall reprD (fCons (fVar 11) fNil)) (fVar 14)))) (fRet (fC (.bl false))) fNext)
    (fSeq (fIf (fB (f2 neD (fCall reprD (fCons (fLst (fCons (fVar 3) (fCons (fVar 4) fNil))) fNil)) (fVar 8))) (fRet (fC (.bl false))) fNext)
    (fSeq (fAsg (fCall F__law_far (fCons (fVar 1) (fCons (fLst (fCons (fCall F__law_enclosure (fCons (fVar 1) fNil)) (fCons (fCall F__law_enclosure (fCons (fVar 1) fNil)) fNil))) fNil))) (gTp 2 (gsCons (gNm 15) (gsCons (gNm 16) gsNil))))
    (fSeq (fSet 17 (fNew (fCons (fTup (fCons (f2 mulS (f2 ixD (fVar 15) (fC (.int 0))) (f2 ixD (fVar 16) (fC (.int 0)))) (fCons (f2 mulS (f2 ixD (fVar 15) (fC (.int 1))) (f2 ixD (fVar 16) (fC (.int 1)))) (fCons (f2 addD (f2 ixD (fVar 15) (fC (.int 2))) (f2 ixD (fVar 16) (fC (.int 2)))) fNil)))) fNil)))
    (fSeq (fDrop (fBm appD (fVar 17) (fCons (fCall F__law_around (fCons (fLst (fCons (fTup (fCons (f2 ixD (fVar 15) (fC (.int 0))) (fCons (f2 ixD (fVar 15) (fC (.int 2))) fNil))) fNil)) (fCons (fLst (fCons (fTup (fCons (f2 ixD (fVar 15) (fC (.int 1))) (fCons (f2 ixD (fVar 15) (fC (.int 2))) fNil))) fNil)) (fCons (fVar 5) fNil)))) fNil)))
    (fSeq (fDrop (fBm extD (fVar 17) (fCons (fLst (fCons (fCall F__law_is_within (fCons (fVar 15) (fCons (fVar 16) fNil))) (fCons (fCall F__law_is_within (fCons (fVar 15) (fCons (f2 ixD (fVar 17) (fC (.int 1))) fNil))) (fCons (fTup (fCons (fVar 5) (fCons (fVar 5) (fCons (fC (.int 0)) fNil)))) fNil)))) fNil)))
    (fSeq (fSet 18 (fNew (fCons (fCall F_product_of (fCons (fVar 15) (fCons (fVar 16) fNil))) (fCons (fCall F_trimmed (fCons (fVar 15) (fCons (fVar 5) fNil))) (fCons (fCall F_lies_in (fCons (fVar 15) (fCons (fVar 16) fNil))) (fCons (fCall F_lies_in (fCons (fVar 15) (fCons (f2 ixD (fVar 17) (fC (.int 1))) fNil))) fNil))))))
    (fSeq (fDrop (fBm appD (fVar 18) (fCons (fCall F_exact_one (fCons (fVar 5) fNil)) fNil)))
    (fSeq (fIf (fNot (fB (fCall F__law_alike (fCons (fVar 18) (fCons (fVar 17) fNil))))) (fRet (fC (.bl false))) fNext)
    (fSeq (fAsg (fCall F__law_dusty (fCons (fVar 1) fNil)) (gTp 2 (gsCons (gNm 3) (gsCons (gNm 4) gsNil))))
    (fSeq (fSet 17 (fNew (fCons (fCall F__law_order (fCons (fVar 3) (fCons (fVar 4) fNil))) (fCons (fCall F__law_order (fCons (fVar 4) (fCons (fVar 3) fNil))) fNil))))
    (fSeq (fIf (fNot (fB (fCall F__law_alike (fCons (fLst (fCons (fCall F_compared (fCons (fVar 3) (fCons (fVar 4) fNil))) (fCons (fCall F_compared (fCons (fVar 4) (fCons (fVar 3) fNil))) fNil))) (fCons (fVar 17) fNil))))) (fRet (fC (.bl false))) fNext)
    (fSeq (fAsg (fIf (fB (f2 leD (fCall F__law_order (fCons (fVar 3) (fCons (fVar 4) fNil))) (fC (.int 0)))) (fTup (fCons (fVar 3) (fCons (fVar 4) fNil))) (fTup (fCons (fVar 4) (fCons (fVar 3) fNil)))) (gTp 2 (gsCons (gNm 9) (gsCons (gNm 10) gsNil))))
    (fSeq (fIf (fNot (fB (fCall F__law_alike (fCons (fCall F_around (fCons (fVar 9) (fCons (fVar 10) (fCons (fVar 5) fNil)))) (fCons (fCall F__law_around (fCons (fVar 9) (fCons (fVar 10) (fCons (fVar 5) fNil)))) fNil))))) (fRet (fC (.bl false))) fNext)
    (fSeq (fSet 19 (f2 ixD (fCall F__law_far (fCons (fVar 1) (fCons (fLst (fCons (fCall F__law_enclosure (fCons (fVar 1) fNil)) fNil)) fNil))) (fC (.int 0))))
    (fSeq (fFor (iSeq (fTup (fCons (fC (.int 0)) (fCons (fC (.int 5)) (fCons (f2 ixD (fVar 19) (fC (.int 0))) (fCons (f2 ixD (fVar 19) (fC (.int 1))) (fCons (f2 powD (fC (.int 10)) (fC (.int 60))) fNil))))))) (gNm 20) (fSeq (fSet 17 (fCh leD leD (fCall F__law_order (fCons (fLst (fCons (fTup (fCons (f2 ixD (fVar 19) (fC (.int 0))) (fCons (f2 ixD (fVar 19) (fC (.int 2))) fNil))) fNil)) (fCons (fLst (fCons (fTup (fCons (fVar 20) (fCons (fC (.int 0)) fNil))) fNil)) fNil))) (fC (.int 0)) (fCall F__law_order (fCons (fLst (fCons (fTup (fCons (f2 ixD (fVar 19) (fC (.int 1))) (fCons (f2 ixD (fVar 19) (fC (.int 2))) fNil))) fNil)) (fCons (fLst (fCons (fTup (fCons (fVar 20) (fCons (fC (.int 0)) fNil))) fNil)) fNil)))))
    (fIf (fNot (fB (fCall F__law_alike (fCons (fCall F_holds (fCons (fVar 19) (fCons (fVar 20) fNil))) (fCons (fVar 17) fNil))))) (fRet (fC (.bl false))) fNext)))
    (fSeq (fSet 19 (fCall F__law_enclosure (fCons (fVar 1) fNil)))
    (fSeq (fSet 21 (fCall F__law_two (fCons (f2 ixD (fVar 19) (fC (.int 2))) fNil)))
    (fSeq (fSet 22 (fLst (fCons (f2 mulS (f2 ixD (fVar 19) (fC (.int 0))) (fVar 21)) (fCons (f2 mulS (f2 ixD (fVar 19) (fC (.int 1))) (fVar 21)) (fCons (f2 addD (f2 mulS (f2 ixD (fVar 19) (fC (.int 0))) (fVar 21)) (fC (.int 1))) (fCons (f2 addD (f2 mulS (f2 ixD (fVar 19) (fC (.int 1))) (fVar 21)) (fC (.int 1))) fNil))))))
    (fFor (iSeq (f2 addD (fVar 22) (fLst (fCons (fCall max2D (fCons (fC (.int 0)) (fCons (f2 subD (f2 ixD (fVar 22) (fC (.int 0))) (fC (.int 1))) fNil))) (fCons (fC (.int 0)) fNil))))) (gNm 20) (fIf (fNot (fB (fCall F__law_alike (fCons (fCall F_holds (fCons (fVar 19) (fCons (fVar 20) fNil))) (fCons (fCall F__law_does_hold (fCons (fVar 19) (fCons (fVar 20) fNil))) fNil))))) (fRet (fC (.bl false))) fNext)))))))))))))))))))))))))))))))
    (fRet (fC (.bl true)))))
noncomputable def F_law : List D → Store → Out D := runB 25 (B_law)
end Law


namespace Law
open PySem PySem.Spec PyProof.Rows L2 MK
/-- what the top has left -/
structure Txt (K : PySem.W.Frag) (mg : Str → Option Value) (base : Heap) where
  f_two_to : Addr
  d_two_to : FuncData
  F_two_to : Fun K "two_to" "two_to" s_two_to f_two_to d_two_to
  g_two_to : mg "two_to" = some (.ref f_two_to)
  b_two_to : Binds K d_two_to ["e"] []
  f_bits_of : Addr
  d_bits_of : FuncData
  F_bits_of : Fun K "bits_of" "bits_of" s_bits_of f_bits_of d_bits_of
  g_bits_of : mg "bits_of" = some (.ref f_bits_of)
  b_bits_of : Binds K d_bits_of ["x"] []
  f_descending : Addr
  d_descending : FuncData
  F_descending : Fun K "descending" "descending" s_descending f_descending d_descending
  g_descending : mg "descending" = some (.ref f_descending)
  b_descending : Binds K d_descending ["pile"] []
  f_compared : Addr
  d_compared : FuncData
  F_compared : Fun K "compared" "compared" s_compared f_compared d_compared
  g_compared : mg "compared" = some (.ref f_compared)
  b_compared : Binds K d_compared ["one", "other"] []
  f_below : Addr
  d_below : FuncData
  F_below : Fun K "below" "below" s_below f_below d_below
  g_below : mg "below" = some (.ref f_below)
  b_below : Binds K d_below ["pile", "e"] []
  f_above : Addr
  d_above : FuncData
  F_above : Fun K "above" "above" s_above f_above d_above
  g_above : mg "above" = some (.ref f_above)
  b_above : Binds K d_above ["pile", "e"] []
  f_around : Addr
  d_around : FuncData
  F_around : Fun K "around" "around" s_around f_around d_around
  g_around : mg "around" = some (.ref f_around)
  b_around : Binds K d_around ["lows", "highs", "bits"] []
  f_exact_one : Addr
  d_exact_one : FuncData
  F_exact_one : Fun K "exact_one" "exact_one" s_exact_one f_exact_one d_exact_one
  g_exact_one : mg "exact_one" = some (.ref f_exact_one)
  b_exact_one : Binds K d_exact_one ["x"] []
  f_lows_of : Addr
  d_lows_of : FuncData
  F_lows_of : Fun K "lows_of" "lows_of" s_lows_of f_lows_of d_lows_of
  g_lows_of : mg "lows_of" = some (.ref f_lows_of)
  b_lows_of : Binds K d_lows_of ["enclosures"] []
  f_highs_of : Addr
  d_highs_of : FuncData
  F_highs_of : Fun K "highs_of" "highs_of" s_highs_of f_highs_of d_highs_of
  g_highs_of : mg "highs_of" = some (.ref f_highs_of)
  b_highs_of : Binds K d_highs_of ["enclosures"] []
  f_sum_of : Addr
  d_sum_of : FuncData
  F_sum_of : Fun K "sum_of" "sum_of" s_sum_of f_sum_of d_sum_of
  g_sum_of : mg "sum_of" = some (.ref f_sum_of)
  b_sum_of : Binds K d_sum_of ["enclosures", "bits"] []
  f_product_of : Addr
  d_product_of : FuncData
  F_product_of : Fun K "product_of" "product_of" s_product_of f_product_of d_product_of
  g_product_of : mg "product_of" = some (.ref f_product_of)
  b_product_of : Binds K d_product_of ["one", "other"] []
  f_trimmed : Addr
  d_trimmed : FuncData
  F_trimmed : Fun K "trimmed" "trimmed" s_trimmed f_trimmed d_trimmed
  g_trimmed : mg "trimmed" = some (.ref f_trimmed)
  b_trimmed : Binds K d_trimmed ["enclosure", "bits"] []
  f_holds : Addr
  d_holds : FuncData
  F_holds : Fun K "holds" "holds" s_holds f_holds d_holds
  g_holds : mg "holds" = some (.ref f_holds)
  b_holds : Binds K d_holds ["enclosure", "x"] []
  f_lies_in : Addr
  d_lies_in : FuncData
  F_lies_in : Fun K "lies_in" "lies_in" s_lies_in f_lies_in d_lies_in
  g_lies_in : mg "lies_in" = some (.ref f_lies_in)
  b_lies_in : Binds K d_lies_in ["one", "other"] []
  f__law_bag : Addr
  d__law_bag : FuncData
  F__law_bag : Fun K "_law_bag" "_law_bag" s__law_bag f__law_bag d__law_bag
  g__law_bag : mg "_law_bag" = some (.ref f__law_bag)
  b__law_bag : Binds K d__law_bag ["_law_script"] []
  f__law_take : Addr
  d__law_take : FuncData
  F__law_take : Fun K "_law_take" "_law_take" s__law_take f__law_take d__law_take
  g__law_take : mg "_law_take" = some (.ref f__law_take)
  b__law_take : Binds K d__law_take ["_law_bag_here", "_law_many"] []
  f__law_some : Addr
  d__law_some : FuncData
  F__law_some : Fun K "_law_some" "_law_some" s__law_some f__law_some d__law_some
  g__law_some : mg "_law_some" = some (.ref f__law_some)
  b__law_some : Binds K d__law_some ["_law_bag_here", "_law_things"] []
  f__law_pile : Addr
  d__law_pile : FuncData
  F__law_pile : Fun K "_law_pile" "_law_pile" s__law_pile f__law_pile d__law_pile
  g__law_pile : mg "_law_pile" = some (.ref f__law_pile)
  b__law_pile : Binds K d__law_pile ["_law_bag_here"] []
  f__law_far : Addr
  d__law_far : FuncData
  F__law_far : Fun K "_law_far" "_law_far" s__law_far f__law_far d__law_far
  g__law_far : mg "_law_far" = some (.ref f__law_far)
  b__law_far : Binds K d__law_far ["_law_bag_here", "_law_some_here"] []
  f__law_mixed : Addr
  d__law_mixed : FuncData
  F__law_mixed : Fun K "_law_mixed" "_law_mixed" s__law_mixed f__law_mixed d__law_mixed
  g__law_mixed : mg "_law_mixed" = some (.ref f__law_mixed)
  b__law_mixed : Binds K d__law_mixed ["_law_bag_here", "_law_things"] []
  f__law_alike : Addr
  d__law_alike : FuncData
  F__law_alike : Fun K "_law_alike" "_law_alike" s__law_alike f__law_alike d__law_alike
  g__law_alike : mg "_law_alike" = some (.ref f__law_alike)
  b__law_alike : Binds K d__law_alike ["_law_found", "_law_due"] []
  f__law_two : Addr
  d__law_two : FuncData
  F__law_two : Fun K "_law_two" "_law_two" s__law_two f__law_two d__law_two
  g__law_two : mg "_law_two" = some (.ref f__law_two)
  b__law_two : Binds K d__law_two ["_law_e"] []
  f__law_order : Addr
  d__law_order : FuncData
  F__law_order : Fun K "_law_order" "_law_order" s__law_order f__law_order d__law_order
  g__law_order : mg "_law_order" = some (.ref f__law_order)
  b__law_order : Binds K d__law_order ["_law_one", "_law_other"] []
  f__law_long : Addr
  d__law_long : FuncData
  F__law_long : Fun K "_law_long" "_law_long" s__law_long f__law_long d__law_long
  g__law_long : mg "_law_long" = some (.ref f__law_long)
  b__law_long : Binds K d__law_long ["_law_x"] []
  f__law_top : Addr
  d__law_top : FuncData
  F__law_top : Fun K "_law_top" "_law_top" s__law_top f__law_top d__law_top
  g__law_top : mg "_law_top" = some (.ref f__law_top)
  b__law_top : Binds K d__law_top ["_law_pile_here", "_law_bound"] []
  f__law_by_two : Addr
  d__law_by_two : FuncData
  F__law_by_two : Fun K "_law_by_two" "_law_by_two" s__law_by_two f__law_by_two d__law_by_two
  g__law_by_two : mg "_law_by_two" = some (.ref f__law_by_two)
  b__law_by_two : Binds K d__law_by_two ["_law_pile_here", "_law_e", "_law_is_up"] []
  f__law_around : Addr
  d__law_around : FuncData
  F__law_around : Fun K "_law_around" "_law_around" s__law_around f__law_around d__law_around
  g__law_around : mg "_law_around" = some (.ref f__law_around)
  b__law_around : Binds K d__law_around ["_law_lows", "_law_highs", "_law_bits"] []
  f__law_enclosure : Addr
  d__law_enclosure : FuncData
  F__law_enclosure : Fun K "_law_enclosure" "_law_enclosure" s__law_enclosure f__law_enclosure d__law_enclosure
  g__law_enclosure : mg "_law_enclosure" = some (.ref f__law_enclosure)
  b__law_enclosure : Binds K d__law_enclosure ["_law_bag_here"] []
  f__law_is_within : Addr
  d__law_is_within : FuncData
  F__law_is_within : Fun K "_law_is_within" "_law_is_within" s__law_is_within f__law_is_within d__law_is_within
  g__law_is_within : mg "_law_is_within" = some (.ref f__law_is_within)
  b__law_is_within : Binds K d__law_is_within ["_law_one", "_law_other"] []
  f__law_dusty : Addr
  d__law_dusty : FuncData
  F__law_dusty : Fun K "_law_dusty" "_law_dusty" s__law_dusty f__law_dusty d__law_dusty
  g__law_dusty : mg "_law_dusty" = some (.ref f__law_dusty)
  b__law_dusty : Binds K d__law_dusty ["_law_bag_here"] []
  f__law_does_hold : Addr
  d__law_does_hold : FuncData
  F__law_does_hold : Fun K "_law_does_hold" "_law_does_hold" s__law_does_hold f__law_does_hold d__law_does_hold
  g__law_does_hold : mg "_law_does_hold" = some (.ref f__law_does_hold)
  b__law_does_hold : Binds K d__law_does_hold ["_law_enclosure_here", "_law_x"] []
  f_law : Addr
  d_law : FuncData
  F_law : Fun K "law" "law" s_law f_law d_law
  g_law : mg "law" = some (.ref f_law)
  b_law : Binds K d_law ["_law_script"] []
  t_LIMB : Tok
  g_LIMB : mg "LIMB" = some (.int 18446744073709551616 t_LIMB)
  n_abs : mg "abs" = none
  n_int : mg "int" = none
  n_len : mg "len" = none
  n_max : mg "max" = none
  n_min : mg "min" = none
  n_range : mg "range" = none
  n_repr : mg "repr" = none
  n_sorted : mg "sorted" = none
  n_sum : mg "sum" = none
  n_tuple : mg "tuple" = none
  c_compared : Addr
  P_compared : Addr
  co_compared : d_compared.code = .ref c_compared
  tb_compared : LamX.TabB base mg c_compared P_compared
  nd : ([P_compared] : List Addr).Nodup
def Txt.tabs {K : PySem.W.Frag} {mg : Str → Option Value} {base : Heap} (T : Txt K mg base) : List NdefX.NTab := [(T.P_compared, (fun (_ _ : Nat) => ("compared.<locals>.<lambda>" : Str)))]
theorem Txt.m_compared {K : PySem.W.Frag} {mg : Str → Option Value} {base : Heap} (T : Txt K mg base) : ((T.P_compared, (fun (_ _ : Nat) => ("compared.<locals>.<lambda>" : Str))) : NdefX.NTab) ∈ T.tabs := (.head _)
theorem Txt.u_compared {K : PySem.W.Frag} {mg : Str → Option Value} {base : Heap} (T : Txt K mg base) : ∀ p ∈ T.tabs, p.1 = T.P_compared → p.2 = (fun (_ _ : Nat) => ("compared.<locals>.<lambda>" : Str)) := fun p hp e => tab_uniq (l := T.tabs) (q := (T.P_compared, (fun (_ _ : Nat) => ("compared.<locals>.<lambda>" : Str)))) T.nd T.m_compared p hp e
theorem sc_two_to : FnScope N_two_to ["e"] (defScope s_two_to) := ⟨rfl, rfl, rfl, by decide +kernel, rfl, by decide +kernel, by decide +kernel⟩
theorem ok_two_to {P : Program} {K : KW} {mg : Str → Option Value} {base : Heap} (T : Txt K.K mg base) (hT : K.T = T.tabs) : FnG P K.w K.K mg base CX0 1 T.f_two_to T.d_two_to ["e"] (spM K 1 F_two_to) :=
  fn_mkC (N := N_two_to) (k := 0) (fb := B_two_to) T.F_two_to sc_two_to fun cdv A outer s H E hcd gd hr =>
    (mss_cons (ms_asg (me_tup (ma_cons me_int (ma_cons me_int ma_nil))) (mg_tup rfl (mgs_cons (mg_name (i := 1) sc_two_to.nd rfl (by first | exact .inl rfl | exact .inr rfl)) (mgs_cons (mg_name (i := 2) sc_two_to.nd rfl (by first | exact .inl rfl | exact .inr rfl)) mgs_nil))))
    (mss_cons (ms_while 1000000 PassesOwn.never (mt_cmp op_gt o_cmp (me_var 0) me_int (nomark _)) (mss_cons (ms_if (mt_cmp (or_ne hr) o_ne (me_op or_mulS o_mulS (me_op op_fdivW o_div (me_var 0) me_int) me_int) (me_var 0) (nomark _)) (mss_one (ms_set (i := 1) sc_two_to.nd rfl (by first | exact .inl rfl | exact .inr rfl) (me_op or_mulS o_mulS (me_var 1) (me_var 2)))) mss_nil)
    (mss_one (ms_par (i := 2) (j := 0) rfl sc_two_to.nd rfl rfl (by decide) rfl rfl (ma_cons (me_op or_mulS o_mulS (me_var 2) (me_var 2)) (ma_cons (me_op op_fdivW o_div (me_var 0) me_int) ma_nil))))))
    (mss_one (ms_ret (me_var 1)))))
theorem sc_bits_of : FnScope N_bits_of ["x"] (defScope s_bits_of) := ⟨rfl, rfl, rfl, by decide +kernel, rfl, by decide +kernel, by decide +kernel⟩
theorem ok_bits_of {P : Program} {K : KW} {mg : Str → Option Value} {base : Heap} (T : Txt K.K mg base) (hT : K.T = T.tabs) : FnG P K.w K.K mg base CX0 1 T.f_bits_of T.d_bits_of ["x"] (spM K 1 F_bits_of) :=
  fn_mkC (N := N_bits_of) (k := 0) (fb := B_bits_of) T.F_bits_of sc_bits_of fun cdv A outer s H E hcd gd hr =>
    (mss_cons (ms_set (i := 1) sc_bits_of.nd rfl (by first | exact .inl rfl | exact .inr rfl) me_int)
    (mss_cons (ms_while 1000000 PassesOwn.never (mt_cmp op_ge o_cmp (me_var 0) (me_glI rfl T.g_LIMB) (nomark _)) (mss_one (ms_par (i := 0) (j := 1) rfl sc_bits_of.nd rfl rfl (by decide) rfl rfl (ma_cons (me_op op_fdivW o_div (me_var 0) (me_glI rfl T.g_LIMB)) (ma_cons (me_op or_add o_add (me_var 1) me_int) ma_nil)))))
    (mss_cons (ms_while 1000000 PassesOwn.never (mt_cmp op_gt o_cmp (me_var 0) me_int (nomark _)) (mss_one (ms_par (i := 0) (j := 1) rfl sc_bits_of.nd rfl rfl (by decide) rfl rfl (ma_cons (me_op op_fdivW o_div (me_var 0) me_int) (ma_cons (me_op or_add o_add (me_var 1) me_int) ma_nil)))))
    (mss_one (ms_ret (me_var 1))))))
theorem sc_descending : FnScope N_descending ["pile"] (defScope s_descending) := ⟨rfl, rfl, rfl, by decide +kernel, rfl, by decide +kernel, by decide +kernel⟩
theorem ok_descending {P : Program} {K : KW} {mg : Str → Option Value} {base : Heap} (T : Txt K.K mg base) (hT : K.T = T.tabs) : FnG P K.w K.K mg base CX0 1 T.f_descending T.d_descending ["pile"] (spM K 1 F_descending) :=
  fn_mkC (N := N_descending) (k := 0) (fb := B_descending) T.F_descending sc_descending fun cdv A outer s H E hcd gd hr =>
    (mss_one (ms_ret (me_rev (me_callB (cr_sortX hr rfl) c_sortedX rfl T.n_sorted bb_sorted (ma_cons (me_lc (own := [("c", 1), ("e", 2)]) rfl sc_descending.nd (blkOk_by (own := [("c", 1), ("e", 2)]) (N := N_descending) (sc := defScope s_descending) (by decide +kernel)) (by decide) (mi_seq (me_var 0)) (fun _ _ _ _ _ => (mg_tup rfl (mgs_cons (mg_name (i := 1) sc_descending.nd rfl (by first | exact .inl rfl | exact .inr rfl)) (mgs_cons (mg_name (i := 2) sc_descending.nd rfl (by first | exact .inl rfl | exact .inr rfl)) mgs_nil)))) (fun _ _ _ _ _ => (mts_one (mt_cmp op_gt o_cmp (me_var 1) me_int (nomark _)))) (fun _ _ _ _ _ => (me_tup (ma_cons (me_var 2) (ma_cons (me_var 1) ma_nil))))) ma_nil)))))
theorem sc_compared : FnScope N_compared ["one", "other"] (defScope s_compared) := ⟨rfl, rfl, rfl, by decide +kernel, rfl, by decide +kernel, by decide +kernel⟩
theorem ok_compared {P : Program} {K : KW} {mg : Str → Option Value} {base : Heap} (T : Txt K.K mg base) (hT : K.T = T.tabs) : FnG P K.w K.K mg base CX0 2 T.f_compared T.d_compared ["one", "other"] (spM K 2 F_compared) :=
  fn_mkC (N := N_compared) (k := 1) (fb := B_compared) T.F_compared sc_compared fun cdv A outer s H E hcd gd hr =>
    (mss_cons (ms_set (i := 2) sc_compared.nd rfl (by first | exact .inl rfl | exact .inr rfl) (me_op or_add o_add (me_call gd (ok_descending (P := P) (K := K) (base := base) T hT) (hr.mono (by decide)) rfl T.g_descending T.F_descending.kp T.b_descending pass0 (ma_cons (me_var 0) ma_nil) (many_cons many_nil)) (me_lc (own := [("e", 6), ("c", 7)]) rfl sc_compared.nd (blkOk_by (own := [("e", 6), ("c", 7)]) (N := N_compared) (sc := defScope s_compared) (by decide +kernel)) (by decide) (mi_seq (me_call gd (ok_descending (P := P) (K := K) (base := base) T hT) (hr.mono (by decide)) rfl T.g_descending T.F_descending.kp T.b_descending pass0 (ma_cons (me_var 1) ma_nil) (many_cons many_nil))) (fun _ _ _ _ _ => (mg_tup rfl (mgs_cons (mg_name (i := 6) sc_compared.nd rfl (by first | exact .inl rfl | exact .inr rfl)) (mgs_cons (mg_name (i := 7) sc_compared.nd rfl (by first | exact .inl rfl | exact .inr rfl)) mgs_nil)))) (fun _ _ _ _ _ => mts_nil) (fun _ _ _ _ _ => (me_tup (ma_cons (me_var 6) (ma_cons (me_op op_sub o_sub me_int (me_var 7)) ma_nil)))))))
    (mss_cons (ms_set (i := 2) sc_compared.nd rfl (by first | exact .inl rfl | exact .inr rfl) (me_rev (me_sortKey (x := "row") (N := ["row"]) hr rfl T.n_sorted bb_sorted T.tb_compared (hcd.symm.trans T.co_compared) (memT hT T.m_compared) (uniT hT T.u_compared) rfl (LamSc.of (sc' := defScope s_compared) rfl ⟨rfl, rfl, rfl, rfl, by decide, by decide +kernel, by decide +kernel, by decide +kernel, by decide +kernel, by decide +kernel⟩) rfl (fun _ _ _ _ _ us hl => match us, hl with | [_], _ => rfl) rfl (me_var 2))))
    (mss_cons (ms_par3 (i := 3) (j := 4) (l := 5) rfl sc_compared.nd rfl rfl rfl (by decide) (by decide) (by decide) rfl rfl rfl (ma_cons (me_callB (cr_sumA rfl) c_sum rfl T.n_sum bb_sum (ma_cons (me_lc (own := [("e", 6), ("c", 7)]) rfl sc_compared.nd (blkOk_by (own := [("e", 6), ("c", 7)]) (N := N_compared) (sc := defScope s_compared) (by decide +kernel)) (by decide) (mi_seq (me_var 2)) (fun _ _ _ _ _ => (mg_tup rfl (mgs_cons (mg_name (i := 6) sc_compared.nd rfl (by first | exact .inl rfl | exact .inr rfl)) (mgs_cons (mg_name (i := 7) sc_compared.nd rfl (by first | exact .inl rfl | exact .inr rfl)) mgs_nil)))) (fun _ _ _ _ _ => mts_nil) (fun _ _ _ _ _ => (me_callB call_abs c_abs rfl T.n_abs bb_abs (ma_cons (me_var 7) ma_nil)))) ma_nil)) (ma_cons me_int (ma_cons me_non ma_nil))))
    (mss_cons (ms_for PassesOwn.never rfl (mi_seq (me_var 2)) (mg_tup rfl (mgs_cons (mg_name (i := 6) sc_compared.nd rfl (by first | exact .inl rfl | exact .inr rfl)) (mgs_cons (mg_name (i := 7) sc_compared.nd rfl (by first | exact .inl rfl | exact .inr rfl)) mgs_nil))) (mss_cons (ms_if (mt_w (mw_and (mt_cmp op_notN o_isnot (me_var 5) me_non (nomark _)) (mw_and (mt_cmp op_lt o_cmp (me_var 6) (me_var 5) (nomark _)) (mw_and1 (mt_cmp (or_ne hr) o_ne (me_var 4) me_int (nomark _)))))) (mss_cons (ms_if (mt_cmp op_gt o_cmp (me_op op_sub o_sub (me_var 5) (me_var 6)) (me_call gd (ok_bits_of (P := P) (K := K) (base := base) T hT) (hr.mono (by decide)) rfl T.g_bits_of T.F_bits_of.kp T.b_bits_of pass0 (ma_cons (me_var 3) ma_nil) (many_cons many_nil)) (nomark _)) (mss_one (ms_ret (me_if (mt_cmp op_gt o_cmp (me_var 4) me_int (nomark _)) me_int (me_un un_neg o_neg me_int)))) mss_nil)
    (mss_one (ms_set (i := 4) sc_compared.nd rfl (by first | exact .inl rfl | exact .inr rfl) (me_op or_mulS o_mulS (me_var 4) (me_call gd (ok_two_to (P := P) (K := K) (base := base) T hT) (hr.mono (by decide)) rfl T.g_two_to T.F_two_to.kp T.b_two_to pass0 (ma_cons (me_op op_sub o_sub (me_var 5) (me_var 6)) ma_nil) (many_cons many_nil)))))) mss_nil)
    (mss_one (ms_par3 (i := 4) (j := 5) (l := 3) rfl sc_compared.nd rfl rfl rfl (by decide) (by decide) (by decide) rfl rfl rfl (ma_cons (me_op or_add o_add (me_var 4) (me_var 7)) (ma_cons (me_var 6) (ma_cons (me_op op_sub o_sub (me_var 3) (me_callB call_abs c_abs rfl T.n_abs bb_abs (ma_cons (me_var 7) ma_nil))) ma_nil)))))))
    (mss_one (ms_ret (me_op op_subB o_subB (me_cmp op_gt o_cmp (me_var 4) me_int (nomark _)) (me_cmp op_lt o_cmp (me_var 4) me_int (nomark _)))))))))
theorem sc_below : FnScope N_below ["pile", "e"] (defScope s_below) := ⟨rfl, rfl, rfl, by decide +kernel, rfl, by decide +kernel, by decide +kernel⟩
theorem ok_below {P : Program} {K : KW} {mg : Str → Option Value} {base : Heap} (T : Txt K.K mg base) (hT : K.T = T.tabs) : FnG P K.w K.K mg base CX0 3 T.f_below T.d_below ["pile", "e"] (spM K 2 F_below) :=
  fn_mkC (N := N_below) (k := 2) (fb := B_below) T.F_below sc_below fun cdv A outer s H E hcd gd hr =>
    (mss_cons (ms_set (i := 2) sc_below.nd rfl (by first | exact .inl rfl | exact .inr rfl) (me_call gd (ok_descending (P := P) (K := K) (base := base) T hT) (hr.mono (by decide)) rfl T.g_descending T.F_descending.kp T.b_descending pass0 (ma_cons (me_var 0) ma_nil) (many_cons many_nil)))
    (mss_cons (ms_set (i := 3) sc_below.nd rfl (by first | exact .inl rfl | exact .inr rfl) (me_op or_add o_add (me_call gd (ok_bits_of (P := P) (K := K) (base := base) T hT) (hr.mono (by decide)) rfl T.g_bits_of T.F_bits_of.kp T.b_bits_of pass0 (ma_cons (me_callB (cr_sumA rfl) c_sum rfl T.n_sum bb_sum (ma_cons (me_lc (own := [("f", 5), ("c", 6)]) rfl sc_below.nd (blkOk_by (own := [("f", 5), ("c", 6)]) (N := N_below) (sc := defScope s_below) (by decide +kernel)) (by decide) (mi_seq (me_var 2)) (fun _ _ _ _ _ => (mg_tup rfl (mgs_cons (mg_name (i := 5) sc_below.nd rfl (by first | exact .inl rfl | exact .inr rfl)) (mgs_cons (mg_name (i := 6) sc_below.nd rfl (by first | exact .inl rfl | exact .inr rfl)) mgs_nil)))) (fun _ _ _ _ _ => mts_nil) (fun _ _ _ _ _ => (me_var 6))) ma_nil)) ma_nil) (many_cons many_nil)) me_int))
    (mss_cons (ms_set (i := 4) sc_below.nd rfl (by first | exact .inl rfl | exact .inr rfl) (me_op op_fdivW o_div (me_callB (cr_sumA rfl) c_sum rfl T.n_sum bb_sum (ma_cons (me_lc (own := [("f", 5), ("c", 6)]) rfl sc_below.nd (blkOk_by (own := [("f", 5), ("c", 6)]) (N := N_below) (sc := defScope s_below) (by decide +kernel)) (by decide) (mi_seq (me_var 2)) (fun _ _ _ _ _ => (mg_tup rfl (mgs_cons (mg_name (i := 5) sc_below.nd rfl (by first | exact .inl rfl | exact .inr rfl)) (mgs_cons (mg_name (i := 6) sc_below.nd rfl (by first | exact .inl rfl | exact .inr rfl)) mgs_nil)))) (fun _ _ _ _ _ => (mts_one (mt_cmp op_ge o_cmp (me_op or_add o_add (me_var 5) (me_var 3)) (me_var 1) (nomark _)))) (fun _ _ _ _ _ => (me_op or_mulS o_mulS (me_var 6) (me_call gd (ok_two_to (P := P) (K := K) (base := base) T hT) (hr.mono (by decide)) rfl T.g_two_to T.F_two_to.kp T.b_two_to pass0 (ma_cons (me_op op_sub o_sub (me_op or_add o_add (me_var 5) (me_var 3)) (me_var 1)) ma_nil) (many_cons many_nil))))) ma_nil)) (me_call gd (ok_two_to (P := P) (K := K) (base := base) T hT) (hr.mono (by decide)) rfl T.g_two_to T.F_two_to.kp T.b_two_to pass0 (ma_cons (me_var 3) ma_nil) (many_cons many_nil))))
    (mss_one (ms_ret (me_if (mt_cmp op_ge o_cmp (me_call gd (ok_compared (P := P) (K := K) (base := base) T hT) (hr.mono (by decide)) rfl T.g_compared T.F_compared.kp T.b_compared pass0 (ma_cons (me_var 0) (ma_cons (me_lst (ma_cons (me_tup (ma_cons (me_op or_add o_add (me_var 4) me_int) (ma_cons (me_var 1) ma_nil))) ma_nil)) ma_nil)) (many_cons (many_cons many_nil))) me_int (nomark _)) (me_op or_add o_add (me_var 4) me_int) (me_var 4)))))))
theorem sc_above : FnScope N_above ["pile", "e"] (defScope s_above) := ⟨rfl, rfl, rfl, by decide +kernel, rfl, by decide +kernel, by decide +kernel⟩
theorem ok_above {P : Program} {K : KW} {mg : Str → Option Value} {base : Heap} (T : Txt K.K mg base) (hT : K.T = T.tabs) : FnG P K.w K.K mg base CX0 4 T.f_above T.d_above ["pile", "e"] (spM K 2 F_above) :=
  fn_mkC (N := N_above) (k := 3) (fb := B_above) T.F_above sc_above fun cdv A outer s H E hcd gd hr =>
    (mss_cons (ms_set (i := 2) sc_above.nd rfl (by first | exact .inl rfl | exact .inr rfl) (me_call gd (ok_below (P := P) (K := K) (base := base) T hT) (hr.mono (by decide)) rfl T.g_below T.F_below.kp T.b_below pass0 (ma_cons (me_var 0) (ma_cons (me_var 1) ma_nil)) (many_cons (many_cons many_nil))))
    (mss_one (ms_ret (me_if (mt_cmp (or_eq hr) o_eq (me_call gd (ok_compared (P := P) (K := K) (base := base) T hT) (hr.mono (by decide)) rfl T.g_compared T.F_compared.kp T.b_compared pass0 (ma_cons (me_var 0) (ma_cons (me_lst (ma_cons (me_tup (ma_cons (me_var 2) (ma_cons (me_var 1) ma_nil))) ma_nil)) ma_nil)) (many_cons (many_cons many_nil))) me_int (nomark _)) (me_var 2) (me_op or_add o_add (me_var 2) me_int)))))
theorem sc_around : FnScope N_around ["lows", "highs", "bits"] (defScope s_around) := ⟨rfl, rfl, rfl, by decide +kernel, rfl, by decide +kernel, by decide +kernel⟩
theorem ok_around {P : Program} {K : KW} {mg : Str → Option Value} {base : Heap} (T : Txt K.K mg base) (hT : K.T = T.tabs) : FnG P K.w K.K mg base CX0 5 T.f_around T.d_around ["lows", "highs", "bits"] (spM K 3 F_around) :=
  fn_mkC (N := N_around) (k := 4) (fb := B_around) T.F_around sc_around fun cdv A outer s H E hcd gd hr =>
    (mss_cons (ms_set (i := 3) sc_around.nd rfl (by first | exact .inl rfl | exact .inr rfl) (me_call gd (ok_descending (P := P) (K := K) (base := base) T hT) (hr.mono (by decide)) rfl T.g_descending T.F_descending.kp T.b_descending pass0 (ma_cons (me_var 1) ma_nil) (many_cons many_nil)))
    (mss_cons (ms_if (mt_cmp (or_eq hr) o_eq (me_var 3) (me_lst ma_nil) (nomark _)) (mss_one (ms_ret (me_tup (ma_cons me_int (ma_cons me_int (ma_cons me_int ma_nil)))))) mss_nil)
    (mss_cons (ms_set (i := 4) sc_around.nd rfl (by first | exact .inl rfl | exact .inr rfl) (me_callB (cr_maxA hr rfl) c_maxA rfl T.n_max bb_max (ma_cons (me_lc (own := [("e", 5), ("c", 6)]) rfl sc_around.nd (blkOk_by (own := [("e", 5), ("c", 6)]) (N := N_around) (sc := defScope s_around) (by decide +kernel)) (by decide) (mi_seq (me_var 3)) (fun _ _ _ _ _ => (mg_tup rfl (mgs_cons (mg_name (i := 5) sc_around.nd rfl (by first | exact .inl rfl | exact .inr rfl)) (mgs_cons (mg_name (i := 6) sc_around.nd rfl (by first | exact .inl rfl | exact .inr rfl)) mgs_nil)))) (fun _ _ _ _ _ => mts_nil) (fun _ _ _ _ _ => (me_op or_add o_add (me_var 5) (me_call gd (ok_bits_of (P := P) (K := K) (base := base) T hT) (hr.mono (by decide)) rfl T.g_bits_of T.F_bits_of.kp T.b_bits_of pass0 (ma_cons (me_var 6) ma_nil) (many_cons many_nil))))) ma_nil)))
    (mss_cons (ms_set (i := 5) sc_around.nd rfl (by first | exact .inl rfl | exact .inr rfl) (me_callB (call_max2 rfl) c_max2 rfl T.n_max bb_max (ma_cons me_int (ma_cons (me_op op_sub o_sub (me_var 4) (me_var 2)) ma_nil))))
    (mss_cons (ms_while 1000000 PassesOwn.never (mt_cmp op_ge o_cmp (me_call gd (ok_above (P := P) (K := K) (base := base) T hT) (hr.mono (by decide)) rfl T.g_above T.F_above.kp T.b_above pass0 (ma_cons (me_var 1) (ma_cons (me_var 5) ma_nil)) (many_cons (many_cons many_nil))) (me_call gd (ok_two_to (P := P) (K := K) (base := base) T hT) (hr.mono (by decide)) rfl T.g_two_to T.F_two_to.kp T.b_two_to pass0 (ma_cons (me_var 2) ma_nil) (many_cons many_nil)) (nomark _)) (mss_one (ms_aug (i := 5) sc_around.nd rfl (by first | exact .inl rfl | exact .inr rfl) ip_add o_addI me_int)))
    (mss_one (ms_ret (me_tup (ma_cons (me_call gd (ok_below (P := P) (K := K) (base := base) T hT) (hr.mono (by decide)) rfl T.g_below T.F_below.kp T.b_below pass0 (ma_cons (me_var 0) (ma_cons (me_var 5) ma_nil)) (many_cons (many_cons many_nil))) (ma_cons (me_call gd (ok_above (P := P) (K := K) (base := base) T hT) (hr.mono (by decide)) rfl T.g_above T.F_above.kp T.b_above pass0 (ma_cons (me_var 1) (ma_cons (me_var 5) ma_nil)) (many_cons (many_cons many_nil))) (ma_cons (me_var 5) ma_nil)))))))))))
theorem sc_exact_one : FnScope N_exact_one ["x"] (defScope s_exact_one) := ⟨rfl, rfl, rfl, by decide +kernel, rfl, by decide +kernel, by decide +kernel⟩
theorem ok_exact_one {P : Program} {K : KW} {mg : Str → Option Value} {base : Heap} (T : Txt K.K mg base) (hT : K.T = T.tabs) : FnG P K.w K.K mg base CX0 1 T.f_exact_one T.d_exact_one ["x"] (spM K 1 F_exact_one) :=
  fn_mkC (N := N_exact_one) (k := 0) (fb := B_exact_one) T.F_exact_one sc_exact_one fun cdv A outer s H E hcd gd hr =>
    (mss_one (ms_ret (me_tup (ma_cons (me_var 0) (ma_cons (me_var 0) (ma_cons me_int ma_nil))))))
theorem sc_lows_of : FnScope N_lows_of ["enclosures"] (defScope s_lows_of) := ⟨rfl, rfl, rfl, by decide +kernel, rfl, by decide +kernel, by decide +kernel⟩
theorem ok_lows_of {P : Program} {K : KW} {mg : Str → Option Value} {base : Heap} (T : Txt K.K mg base) (hT : K.T = T.tabs) : FnG P K.w K.K mg base CX0 1 T.f_lows_of T.d_lows_of ["enclosures"] (spM K 1 F_lows_of) :=
  fn_mkC (N := N_lows_of) (k := 0) (fb := B_lows_of) T.F_lows_of sc_lows_of fun cdv A outer s H E hcd gd hr =>
    (mss_one (ms_ret (me_lc (own := [("low", 1), ("high", 2), ("e", 3)]) rfl sc_lows_of.nd (blkOk_by (own := [("low", 1), ("high", 2), ("e", 3)]) (N := N_lows_of) (sc := defScope s_lows_of) (by decide +kernel)) (by decide) (mi_seq (me_var 0)) (fun _ _ _ _ _ => (mg_tup rfl (mgs_cons (mg_name (i := 1) sc_lows_of.nd rfl (by first | exact .inl rfl | exact .inr rfl)) (mgs_cons (mg_name (i := 2) sc_lows_of.nd rfl (by first | exact .inl rfl | exact .inr rfl)) (mgs_cons (mg_name (i := 3) sc_lows_of.nd rfl (by first | exact .inl rfl | exact .inr rfl)) mgs_nil))))) (fun _ _ _ _ _ => mts_nil) (fun _ _ _ _ _ => (me_tup (ma_cons (me_var 1) (ma_cons (me_var 3) ma_nil)))))))
theorem sc_highs_of : FnScope N_highs_of ["enclosures"] (defScope s_highs_of) := ⟨rfl, rfl, rfl, by decide +kernel, rfl, by decide +kernel, by decide +kernel⟩
theorem ok_highs_of {P : Program} {K : KW} {mg : Str → Option Value} {base : Heap} (T : Txt K.K mg base) (hT : K.T = T.tabs) : FnG P K.w K.K mg base CX0 1 T.f_highs_of T.d_highs_of ["enclosures"] (spM K 1 F_highs_of) :=
  fn_mkC (N := N_highs_of) (k := 0) (fb := B_highs_of) T.F_highs_of sc_highs_of fun cdv A outer s H E hcd gd hr =>
    (mss_one (ms_ret (me_lc (own := [("low", 1), ("high", 2), ("e", 3)]) rfl sc_highs_of.nd (blkOk_by (own := [("low", 1), ("high", 2), ("e", 3)]) (N := N_highs_of) (sc := defScope s_highs_of) (by decide +kernel)) (by decide) (mi_seq (me_var 0)) (fun _ _ _ _ _ => (mg_tup rfl (mgs_cons (mg_name (i := 1) sc_highs_of.nd rfl (by first | exact .inl rfl | exact .inr rfl)) (mgs_cons (mg_name (i := 2) sc_highs_of.nd rfl (by first | exact .inl rfl | exact .inr rfl)) (mgs_cons (mg_name (i := 3) sc_highs_of.nd rfl (by first | exact .inl rfl | exact .inr rfl)) mgs_nil))))) (fun _ _ _ _ _ => mts_nil) (fun _ _ _ _ _ => (me_tup (ma_cons (me_var 2) (ma_cons (me_var 3) ma_nil)))))))
theorem sc_sum_of : FnScope N_sum_of ["enclosures", "bits"] (defScope s_sum_of) := ⟨rfl, rfl, rfl, by decide +kernel, rfl, by decide +kernel, by decide +kernel⟩
theorem ok_sum_of {P : Program} {K : KW} {mg : Str → Option Value} {base : Heap} (T : Txt K.K mg base) (hT : K.T = T.tabs) : FnG P K.w K.K mg base CX0 6 T.f_sum_of T.d_sum_of ["enclosures", "bits"] (spM K 2 F_sum_of) :=
  fn_mkC (N := N_sum_of) (k := 5) (fb := B_sum_of) T.F_sum_of sc_sum_of fun cdv A outer s H E hcd gd hr =>
    (mss_one (ms_ret (me_call gd (ok_around (P := P) (K := K) (base := base) T hT) (hr.mono (by decide)) rfl T.g_around T.F_around.kp T.b_around pass0 (ma_cons (me_call gd (ok_lows_of (P := P) (K := K) (base := base) T hT) (hr.mono (by decide)) rfl T.g_lows_of T.F_lows_of.kp T.b_lows_of pass0 (ma_cons (me_var 0) ma_nil) (many_cons many_nil)) (ma_cons (me_call gd (ok_highs_of (P := P) (K := K) (base := base) T hT) (hr.mono (by decide)) rfl T.g_highs_of T.F_highs_of.kp T.b_highs_of pass0 (ma_cons (me_var 0) ma_nil) (many_cons many_nil)) (ma_cons (me_var 1) ma_nil))) (many_cons (many_cons (many_cons many_nil))))))
theorem sc_product_of : FnScope N_product_of ["one", "other"] (defScope s_product_of) := ⟨rfl, rfl, rfl, by decide +kernel, rfl, by decide +kernel, by decide +kernel⟩
theorem ok_product_of {P : Program} {K : KW} {mg : Str → Option Value} {base : Heap} (T : Txt K.K mg base) (hT : K.T = T.tabs) : FnG P K.w K.K mg base CX0 1 T.f_product_of T.d_product_of ["one", "other"] (spM K 2 F_product_of) :=
  fn_mkC (N := N_product_of) (k := 0) (fb := B_product_of) T.F_product_of sc_product_of fun cdv A outer s H E hcd gd hr =>
    (mss_one (ms_ret (me_tup (ma_cons (me_op or_mulS o_mulS (me_ix or_ix o_ix (me_var 0) me_int) (me_ix or_ix o_ix (me_var 1) me_int)) (ma_cons (me_op or_mulS o_mulS (me_ix or_ix o_ix (me_var 0) me_int) (me_ix or_ix o_ix (me_var 1) me_int)) (ma_cons (me_op or_add o_add (me_ix or_ix o_ix (me_var 0) me_int) (me_ix or_ix o_ix (me_var 1) me_int)) ma_nil))))))
theorem sc_trimmed : FnScope N_trimmed ["enclosure", "bits"] (defScope s_trimmed) := ⟨rfl, rfl, rfl, by decide +kernel, rfl, by decide +kernel, by decide +kernel⟩
theorem ok_trimmed {P : Program} {K : KW} {mg : Str → Option Value} {base : Heap} (T : Txt K.K mg base) (hT : K.T = T.tabs) : FnG P K.w K.K mg base CX0 7 T.f_trimmed T.d_trimmed ["enclosure", "bits"] (spM K 2 F_trimmed) :=
  fn_mkC (N := N_trimmed) (k := 6) (fb := B_trimmed) T.F_trimmed sc_trimmed fun cdv A outer s H E hcd gd hr =>
    (mss_one (ms_ret (me_call gd (ok_sum_of (P := P) (K := K) (base := base) T hT) (hr.mono (by decide)) rfl T.g_sum_of T.F_sum_of.kp T.b_sum_of pass0 (ma_cons (me_lst (ma_cons (me_var 0) ma_nil)) (ma_cons (me_var 1) ma_nil)) (many_cons (many_cons many_nil)))))
theorem sc_lies_in : FnScope N_lies_in ["one", "other"] (defScope s_lies_in) := ⟨rfl, rfl, rfl, by decide +kernel, rfl, by decide +kernel, by decide +kernel⟩
theorem ok_lies_in {P : Program} {K : KW} {mg : Str → Option Value} {base : Heap} (T : Txt K.K mg base) (hT : K.T = T.tabs) : FnG P K.w K.K mg base CX0 3 T.f_lies_in T.d_lies_in ["one", "other"] (spM K 2 F_lies_in) :=
  fn_mkC (N := N_lies_in) (k := 2) (fb := B_lies_in) T.F_lies_in sc_lies_in fun cdv A outer s H E hcd gd hr =>
    (mss_cons (ms_set (i := 2) sc_lies_in.nd rfl (by first | exact .inl rfl | exact .inr rfl) (me_cmp op_le o_cmp (me_call gd (ok_compared (P := P) (K := K) (base := base) T hT) (hr.mono (by decide)) rfl T.g_compared T.F_compared.kp T.b_compared pass0 (ma_cons (me_lst (ma_cons (me_tup (ma_cons (me_ix or_ix o_ix (me_var 1) me_int) (ma_cons (me_ix or_ix o_ix (me_var 1) me_int) ma_nil))) ma_nil)) (ma_cons (me_lst (ma_cons (me_tup (ma_cons (me_ix or_ix o_ix (me_var 0) me_int) (ma_cons (me_ix or_ix o_ix (me_var 0) me_int) ma_nil))) ma_nil)) ma_nil)) (many_cons (many_cons many_nil))) me_int (nomark _)))
    (mss_one (ms_ret (me_and (me_var 2) (me_one (me_cmp op_le o_cmp (me_call gd (ok_compared (P := P) (K := K) (base := base) T hT) (hr.mono (by decide)) rfl T.g_compared T.F_compared.kp T.b_compared pass0 (ma_cons (me_lst (ma_cons (me_tup (ma_cons (me_ix or_ix o_ix (me_var 0) me_int) (ma_cons (me_ix or_ix o_ix (me_var 0) me_int) ma_nil))) ma_nil)) (ma_cons (me_lst (ma_cons (me_tup (ma_cons (me_ix or_ix o_ix (me_var 1) me_int) (ma_cons (me_ix or_ix o_ix (me_var 1) me_int) ma_nil))) ma_nil)) ma_nil)) (many_cons (many_cons many_nil))) me_int (nomark _)))))))
theorem sc_holds : FnScope N_holds ["enclosure", "x"] (defScope s_holds) := ⟨rfl, rfl, rfl, by decide +kernel, rfl, by decide +kernel, by decide +kernel⟩
theorem ok_holds {P : Program} {K : KW} {mg : Str → Option Value} {base : Heap} (T : Txt K.K mg base) (hT : K.T = T.tabs) : FnG P K.w K.K mg base CX0 4 T.f_holds T.d_holds ["enclosure", "x"] (spM K 2 F_holds) :=
  fn_mkC (N := N_holds) (k := 3) (fb := B_holds) T.F_holds sc_holds fun cdv A outer s H E hcd gd hr =>
    (mss_one (ms_ret (me_call gd (ok_lies_in (P := P) (K := K) (base := base) T hT) (hr.mono (by decide)) rfl T.g_lies_in T.F_lies_in.kp T.b_lies_in pass0 (ma_cons (me_call gd (ok_exact_one (P := P) (K := K) (base := base) T hT) (hr.mono (by decide)) rfl T.g_exact_one T.F_exact_one.kp T.b_exact_one pass0 (ma_cons (me_var 1) ma_nil) (many_cons many_nil)) (ma_cons (me_var 0) ma_nil)) (many_cons (many_cons many_nil)))))
theorem sc__law_bag : FnScope N__law_bag ["_law_script"] (defScope s__law_bag) := ⟨rfl, rfl, rfl, by decide +kernel, rfl, by decide +kernel, by decide +kernel⟩
theorem ok__law_bag {P : Program} {K : KW} {mg : Str → Option Value} {base : Heap} (T : Txt K.K mg base) (hT : K.T = T.tabs) : FnG P K.w K.K mg base CX0 1 T.f__law_bag T.d__law_bag ["_law_script"] (spM K 1 F__law_bag) :=
  fn_mkC (N := N__law_bag) (k := 0) (fb := B__law_bag) T.F__law_bag sc__law_bag fun cdv A outer s H E hcd gd hr =>
    (mss_one (ms_ret (me_new (ma_cons me_int (ma_cons me_int (ma_cons me_int (ma_cons (me_lc (own := [("_law_cell", 1)]) rfl sc__law_bag.nd (blkOk_by (own := [("_law_cell", 1)]) (N := N__law_bag) (sc := defScope s__law_bag) (by decide +kernel)) (by decide) (mi_seq (me_sliceS (me_var 0) mo_none (mo_some me_int))) (fun _ _ _ _ _ => (mg_name (i := 1) sc__law_bag.nd rfl (by first | exact .inl rfl | exact .inr rfl))) (fun _ _ _ _ _ => mts_nil) (fun _ _ _ _ _ => (me_callB call_abs c_abs rfl T.n_abs bb_abs (ma_cons (me_var 1) ma_nil)))) ma_nil)))))))
theorem sc__law_take : FnScope N__law_take ["_law_bag_here", "_law_many"] (defScope s__law_take) := ⟨rfl, rfl, rfl, by decide +kernel, rfl, by decide +kernel, by decide +kernel⟩
theorem ok__law_take {P : Program} {K : KW} {mg : Str → Option Value} {base : Heap} (T : Txt K.K mg base) (hT : K.T = T.tabs) : FnG P K.w K.K mg base CX0 1 T.f__law_take T.d__law_take ["_law_bag_here", "_law_many"] (spM K 2 F__law_take) :=
  fn_mkC (N := N__law_take) (k := 0) (fb := B__law_take) T.F__law_take sc__law_take fun cdv A outer s H E hcd gd hr =>
    (mss_cons (ms_if (mt_cmp (or_eq hr) o_eq (me_ix or_ix o_ix (me_var 0) me_int) me_int (nomark _)) (mss_cons (ms_set (i := 2) sc__law_take.nd rfl (by first | exact .inl rfl | exact .inr rfl) (me_ix or_ix o_ix (me_op or_add o_add (me_sliceS (me_ix or_ix o_ix (me_var 0) me_int) (mo_some (me_ix or_ix o_ix (me_var 0) me_int)) mo_none) (me_lst (ma_cons me_int ma_nil))) me_int))
    (mss_cons (ms_augS get_list o_ixL ip_add o_addI set_list o_set (me_var 0) me_int me_int)
    (mss_cons (ms_if (mt_cmp op_ge o_cmp (me_var 2) (me_op op_pow o_pow me_int me_int) (nomark _)) (mss_one (ms_asg (me_var 2) (mg_sub set_list o_set (me_var 0) me_int))) mss_nil)
    (mss_cons (ms_set (i := 3) sc__law_take.nd rfl (by first | exact .inl rfl | exact .inr rfl) (me_op or_add o_add (me_op or_add o_add (me_op or_mulS o_mulS (me_ix or_ix o_ix (me_var 0) me_int) me_int) (me_op op_mod o_mod (me_callT call_int1 c_int rfl T.n_int bb_int (ma_cons (me_var 2) ma_nil)) me_int)) (me_op or_mulS o_mulS me_int (me_ix or_ix o_ix (me_var 0) me_int))))
    (mss_one (ms_asg (me_op op_mod o_mod (me_callT call_int1 c_int rfl T.n_int bb_int (ma_cons (me_var 3) ma_nil)) me_int) (mg_sub set_list o_set (me_var 0) me_int))))))) mss_nil)
    (mss_cons (ms_if (mt_cmp op_gt o_cmp (me_ix or_ix o_ix (me_var 0) me_int) me_int (nomark _)) (mss_cons (ms_set (i := 4) sc__law_take.nd rfl (by first | exact .inl rfl | exact .inr rfl) (me_op op_mod o_mod (me_callT call_int1 c_int rfl T.n_int bb_int (ma_cons (me_ix or_ix o_ix (me_var 0) me_int) ma_nil)) (me_var 1)))
    (mss_cons (ms_asg (me_op op_fdivW o_div (me_callT call_int1 c_int rfl T.n_int bb_int (ma_cons (me_ix or_ix o_ix (me_var 0) me_int) ma_nil)) (me_var 1)) (mg_sub set_list o_set (me_var 0) me_int))
    (mss_one (ms_ret (me_var 4))))) mss_nil)
    (mss_cons (ms_set (i := 5) sc__law_take.nd rfl (by first | exact .inl rfl | exact .inr rfl) (me_op op_mod o_mod (me_callT call_int1 c_int rfl T.n_int bb_int (ma_cons (me_op or_mulS o_mulS (me_op or_add o_add (me_ix or_ix o_ix (me_var 0) me_int) me_int) me_int) ma_nil)) me_int))
    (mss_cons (ms_set (i := 6) sc__law_take.nd rfl (by first | exact .inl rfl | exact .inr rfl) (me_op op_mod o_mod (me_callT call_int1 c_int rfl T.n_int bb_int (ma_cons (me_op or_mulS o_mulS (me_op op_mod o_mod (me_callT call_int1 c_int rfl T.n_int bb_int (ma_cons (me_op or_mulS o_mulS (me_var 5) (me_var 5)) ma_nil)) me_int) me_int) ma_nil)) me_int))
    (mss_one (ms_ret (me_op op_mod o_mod (me_callT call_int1 c_int rfl T.n_int bb_int (ma_cons (me_op op_fdivW o_div (me_var 6) me_int) ma_nil)) (me_var 1))))))))
theorem sc__law_some : FnScope N__law_some ["_law_bag_here", "_law_things"] (defScope s__law_some) := ⟨rfl, rfl, rfl, by decide +kernel, rfl, by decide +kernel, by decide +kernel⟩
theorem ok__law_some {P : Program} {K : KW} {mg : Str → Option Value} {base : Heap} (T : Txt K.K mg base) (hT : K.T = T.tabs) : FnG P K.w K.K mg base CX0 2 T.f__law_some T.d__law_some ["_law_bag_here", "_law_things"] (spM K 2 F__law_some) :=
  fn_mkC (N := N__law_some) (k := 1) (fb := B__law_some) T.F__law_some sc__law_some fun cdv A outer s H E hcd gd hr =>
    (mss_one (ms_ret (me_ix or_ix o_ix (me_var 1) (me_call gd (ok__law_take (P := P) (K := K) (base := base) T hT) (hr.mono (by decide)) rfl T.g__law_take T.F__law_take.kp T.b__law_take pass0 (ma_cons (me_var 0) (ma_cons (me_callB cr_lenA c_len rfl T.n_len bb_len (ma_cons (me_var 1) ma_nil)) ma_nil)) (many_cons (many_cons many_nil))))))
theorem sc__law_pile : FnScope N__law_pile ["_law_bag_here"] (defScope s__law_pile) := ⟨rfl, rfl, rfl, by decide +kernel, rfl, by decide +kernel, by decide +kernel⟩
theorem ok__law_pile {P : Program} {K : KW} {mg : Str → Option Value} {base : Heap} (T : Txt K.K mg base) (hT : K.T = T.tabs) : FnG P K.w K.K mg base CX0 3 T.f__law_pile T.d__law_pile ["_law_bag_here"] (spM K 1 F__law_pile) :=
  fn_mkC (N := N__law_pile) (k := 2) (fb := B__law_pile) T.F__law_pile sc__law_pile fun cdv A outer s H E hcd gd hr =>
    (mss_cons (ms_set (i := 1) sc__law_pile.nd rfl (by first | exact .inl rfl | exact .inr rfl) (me_new ma_nil))
    (mss_cons (ms_for PassesOwn.never rfl (mi_range1 rfl T.n_range (me_call gd (ok__law_some (P := P) (K := K) (base := base) T hT) (hr.mono (by decide)) rfl T.g__law_some T.F__law_some.kp T.b__law_some pass0 (ma_cons (me_var 0) (ma_cons (me_lst (ma_cons me_int (ma_cons me_int (ma_cons me_int (ma_cons me_int (ma_cons me_int ma_nil)))))) ma_nil)) (many_cons (many_cons many_nil)))) (mg_name (i := 2) sc__law_pile.nd rfl (by first | exact .inl rfl | exact .inr rfl)) (mss_cons (ms_set (i := 3) sc__law_pile.nd rfl (by first | exact .inl rfl | exact .inr rfl) (me_call gd (ok__law_some (P := P) (K := K) (base := base) T hT) (hr.mono (by decide)) rfl T.g__law_some T.F__law_some.kp T.b__law_some pass0 (ma_cons (me_var 0) (ma_cons (me_lst (ma_cons me_int (ma_cons me_int (ma_cons me_int (ma_cons me_int (ma_cons me_int (ma_cons (me_call gd (ok__law_take (P := P) (K := K) (base := base) T hT) (hr.mono (by decide)) rfl T.g__law_take T.F__law_take.kp T.b__law_take pass0 (ma_cons (me_var 0) (ma_cons (me_op op_pow o_pow me_int me_int) ma_nil)) (many_cons (many_cons many_nil))) (ma_cons (me_op or_add o_add (me_op or_mulS o_mulS (me_call gd (ok__law_take (P := P) (K := K) (base := base) T hT) (hr.mono (by decide)) rfl T.g__law_take T.F__law_take.kp T.b__law_take pass0 (ma_cons (me_var 0) (ma_cons (me_op op_pow o_pow me_int me_int) ma_nil)) (many_cons (many_cons many_nil))) (me_op op_pow o_pow me_int me_int)) me_int) ma_nil)))))))) ma_nil)) (many_cons (many_cons many_nil))))
    (mss_one (ms_expr (me_append (me_var 1) (me_tup (ma_cons (me_var 3) (ma_cons (me_call gd (ok__law_some (P := P) (K := K) (base := base) T hT) (hr.mono (by decide)) rfl T.g__law_some T.F__law_some.kp T.b__law_some pass0 (ma_cons (me_var 0) (ma_cons (me_lst (ma_cons me_int (ma_cons me_int (ma_cons me_int (ma_cons me_int (ma_cons me_int (ma_cons me_int (ma_cons (me_call gd (ok__law_take (P := P) (K := K) (base := base) T hT) (hr.mono (by decide)) rfl T.g__law_take T.F__law_take.kp T.b__law_take pass0 (ma_cons (me_var 0) (ma_cons me_int ma_nil)) (many_cons (many_cons many_nil))) ma_nil)))))))) ma_nil)) (many_cons (many_cons many_nil))) ma_nil))))))))
    (mss_one (ms_ret (me_frz (me_var 1))))))
theorem sc__law_far : FnScope N__law_far ["_law_bag_here", "_law_some_here"] (defScope s__law_far) := ⟨rfl, rfl, rfl, by decide +kernel, rfl, by decide +kernel, by decide +kernel⟩
theorem ok__law_far {P : Program} {K : KW} {mg : Str → Option Value} {base : Heap} (T : Txt K.K mg base) (hT : K.T = T.tabs) : FnG P K.w K.K mg base CX0 3 T.f__law_far T.d__law_far ["_law_bag_here", "_law_some_here"] (spM K 2 F__law_far) :=
  fn_mkC (N := N__law_far) (k := 2) (fb := B__law_far) T.F__law_far sc__law_far fun cdv A outer s H E hcd gd hr =>
    (mss_cons (ms_asg (me_tup (ma_cons (me_op or_mulS o_mulS (me_op or_mulS o_mulS (me_op or_mulS o_mulS (me_op op_pow o_pow me_int me_int) (me_op op_pow o_pow me_int me_int)) (me_op op_pow o_pow me_int me_int)) (me_op op_pow o_pow me_int me_int)) (ma_cons (me_call gd (ok__law_take (P := P) (K := K) (base := base) T hT) (hr.mono (by decide)) rfl T.g__law_take T.F__law_take.kp T.b__law_take pass0 (ma_cons (me_var 0) (ma_cons me_int ma_nil)) (many_cons (many_cons many_nil))) ma_nil))) (mg_tup rfl (mgs_cons (mg_name (i := 2) sc__law_far.nd rfl (by first | exact .inl rfl | exact .inr rfl)) (mgs_cons (mg_name (i := 3) sc__law_far.nd rfl (by first | exact .inl rfl | exact .inr rfl)) mgs_nil))))
    (mss_cons (ms_if (mt_cmp (or_eq hr) o_eq (me_var 3) me_int (nomark _)) (mss_one (ms_ret (me_lc (own := [("_law_one", 5)]) rfl sc__law_far.nd (blkOk_by (own := [("_law_one", 5)]) (N := N__law_far) (sc := defScope s__law_far) (by decide +kernel)) (by decide) (mi_seq (me_var 1)) (fun _ _ _ _ _ => (mg_name (i := 5) sc__law_far.nd rfl (by first | exact .inl rfl | exact .inr rfl))) (fun _ _ _ _ _ => mts_nil) (fun _ _ _ _ _ => (me_op or_add o_add (me_sliceS (me_var 5) mo_none (mo_some (me_un un_neg o_neg me_int))) (me_tup (ma_cons (me_op or_add o_add (me_ix or_ix o_ix (me_var 5) (me_un un_neg o_neg me_int)) (me_call gd (ok__law_some (P := P) (K := K) (base := base) T hT) (hr.mono (by decide)) rfl T.g__law_some T.F__law_some.kp T.b__law_some pass0 (ma_cons (me_var 0) (ma_cons (me_lst (ma_cons me_int (ma_cons (me_var 2) (ma_cons (me_op or_add o_add (me_var 2) me_int) (ma_cons (me_op op_pow o_pow me_int me_int) ma_nil))))) ma_nil)) (many_cons (many_cons many_nil)))) ma_nil))))))) mss_nil)
    (mss_cons (ms_set (i := 4) sc__law_far.nd rfl (by first | exact .inl rfl | exact .inr rfl) (me_ix or_ix o_ix (me_lst (ma_cons me_int (ma_cons me_int (ma_cons (me_var 2) (ma_cons (me_op op_pow o_pow me_int me_int) ma_nil))))) (me_var 3)))
    (mss_one (ms_ret (me_lc (own := [("_law_one", 5)]) rfl sc__law_far.nd (blkOk_by (own := [("_law_one", 5)]) (N := N__law_far) (sc := defScope s__law_far) (by decide +kernel)) (by decide) (mi_seq (me_var 1)) (fun _ _ _ _ _ => (mg_name (i := 5) sc__law_far.nd rfl (by first | exact .inl rfl | exact .inr rfl))) (fun _ _ _ _ _ => mts_nil) (fun _ _ _ _ _ => (me_op or_add o_add (me_sliceS (me_var 5) mo_none (mo_some (me_un un_neg o_neg me_int))) (me_tup (ma_cons (me_op or_add o_add (me_ix or_ix o_ix (me_var 5) (me_un un_neg o_neg me_int)) (me_var 4)) ma_nil))))))))))
theorem sc__law_mixed : FnScope N__law_mixed ["_law_bag_here", "_law_things"] (defScope s__law_mixed) := ⟨rfl, rfl, rfl, by decide +kernel, rfl, by decide +kernel, by decide +kernel⟩
theorem ok__law_mixed {P : Program} {K : KW} {mg : Str → Option Value} {base : Heap} (T : Txt K.K mg base) (hT : K.T = T.tabs) : FnG P K.w K.K mg base CX0 2 T.f__law_mixed T.d__law_mixed ["_law_bag_here", "_law_things"] (spM K 2 F__law_mixed) :=
  fn_mkC (N := N__law_mixed) (k := 1) (fb := B__law_mixed) T.F__law_mixed sc__law_mixed fun cdv A outer s H E hcd gd hr =>
    (mss_cons (ms_set (i := 2) sc__law_mixed.nd rfl (by first | exact .inl rfl | exact .inr rfl) (me_new ma_nil))
    (mss_cons (ms_for PassesOwn.never rfl (mi_seq (me_var 1)) (mg_name (i := 3) sc__law_mixed.nd rfl (by first | exact .inl rfl | exact .inr rfl)) (mss_one (ms_expr (me_insert (me_var 2) (me_call gd (ok__law_take (P := P) (K := K) (base := base) T hT) (hr.mono (by decide)) rfl T.g__law_take T.F__law_take.kp T.b__law_take pass0 (ma_cons (me_var 0) (ma_cons (me_op or_add o_add (me_callB cr_lenA c_len rfl T.n_len bb_len (ma_cons (me_var 2) ma_nil)) me_int) ma_nil)) (many_cons (many_cons many_nil))) (me_var 3)))))
    (mss_one (ms_ret (me_frz (me_var 2))))))
theorem sc__law_alike : FnScope N__law_alike ["_law_found", "_law_due"] (defScope s__law_alike) := ⟨rfl, rfl, rfl, by decide +kernel, rfl, by decide +kernel, by decide +kernel⟩
theorem ok__law_alike {P : Program} {K : KW} {mg : Str → Option Value} {base : Heap} (T : Txt K.K mg base) (hT : K.T = T.tabs) : FnG P K.w K.K mg base CX0 1 T.f__law_alike T.d__law_alike ["_law_found", "_law_due"] (spM K 2 F__law_alike) :=
  fn_mkC (N := N__law_alike) (k := 0) (fb := B__law_alike) T.F__law_alike sc__law_alike fun cdv A outer s H E hcd gd hr =>
    (mss_one (ms_ret (me_and (me_cmp (or_eq hr) o_eq (me_var 0) (me_var 1) (nomark _)) (me_one (me_cmp (or_eq hr) o_eq (me_callB (cr_repr gd hr) c_repr rfl T.n_repr bb_repr (ma_cons (me_var 0) ma_nil)) (me_callB (cr_repr gd hr) c_repr rfl T.n_repr bb_repr (ma_cons (me_var 1) ma_nil)) (nomark _))))))
theorem sc__law_two : FnScope N__law_two ["_law_e"] (defScope s__law_two) := ⟨rfl, rfl, rfl, by decide +kernel, rfl, by decide +kernel, by decide +kernel⟩
theorem ok__law_two {P : Program} {K : KW} {mg : Str → Option Value} {base : Heap} (T : Txt K.K mg base) (hT : K.T = T.tabs) : FnG P K.w K.K mg base CX0 1 T.f__law_two T.d__law_two ["_law_e"] (spM K 1 F__law_two) :=
  fn_mkC (N := N__law_two) (k := 0) (fb := B__law_two) T.F__law_two sc__law_two fun cdv A outer s H E hcd gd hr =>
    (mss_cons (ms_asg (me_tup (ma_cons me_int (ma_cons me_int ma_nil))) (mg_tup rfl (mgs_cons (mg_name (i := 1) sc__law_two.nd rfl (by first | exact .inl rfl | exact .inr rfl)) (mgs_cons (mg_name (i := 2) sc__law_two.nd rfl (by first | exact .inl rfl | exact .inr rfl)) mgs_nil))))
    (mss_cons (ms_while 1000000 PassesOwn.never (mt_cmp op_gt o_cmp (me_var 0) me_int (nomark _)) (mss_cons (ms_if (mt_cmp (or_eq hr) o_eq (me_op op_mod o_mod (me_callT call_int1 c_int rfl T.n_int bb_int (ma_cons (me_var 0) ma_nil)) me_int) me_int (nomark _)) (mss_one (ms_set (i := 1) sc__law_two.nd rfl (by first | exact .inl rfl | exact .inr rfl) (me_op or_mulS o_mulS (me_var 1) (me_var 2)))) mss_nil)
    (mss_one (ms_par (i := 2) (j := 0) rfl sc__law_two.nd rfl rfl (by decide) rfl rfl (ma_cons (me_op or_mulS o_mulS (me_var 2) (me_var 2)) (ma_cons (me_op op_fdivW o_div (me_callT call_int1 c_int rfl T.n_int bb_int (ma_cons (me_var 0) ma_nil)) me_int) ma_nil))))))
    (mss_one (ms_ret (me_var 1)))))
theorem sc__law_order : FnScope N__law_order ["_law_one", "_law_other"] (defScope s__law_order) := ⟨rfl, rfl, rfl, by decide +kernel, rfl, by decide +kernel, by decide +kernel⟩
theorem ok__law_order {P : Program} {K : KW} {mg : Str → Option Value} {base : Heap} (T : Txt K.K mg base) (hT : K.T = T.tabs) : FnG P K.w K.K mg base CX0 2 T.f__law_order T.d__law_order ["_law_one", "_law_other"] (spM K 2 F__law_order) :=
  fn_mkC (N := N__law_order) (k := 1) (fb := B__law_order) T.F__law_order sc__law_order fun cdv A outer s H E hcd gd hr =>
    (mss_cons (ms_set (i := 2) sc__law_order.nd rfl (by first | exact .inl rfl | exact .inr rfl) (me_op or_add o_add (me_lc (own := [("_law_c", 7), ("_law_e", 5)]) rfl sc__law_order.nd (blkOk_by (own := [("_law_c", 7), ("_law_e", 5)]) (N := N__law_order) (sc := defScope s__law_order) (by decide +kernel)) (by decide) (mi_seq (me_var 0)) (fun _ _ _ _ _ => (mg_tup rfl (mgs_cons (mg_name (i := 7) sc__law_order.nd rfl (by first | exact .inl rfl | exact .inr rfl)) (mgs_cons (mg_name (i := 5) sc__law_order.nd rfl (by first | exact .inl rfl | exact .inr rfl)) mgs_nil)))) (fun _ _ _ _ _ => (mts_one (mt_cmp op_gt o_cmp (me_var 7) me_int (nomark _)))) (fun _ _ _ _ _ => (me_tup (ma_cons (me_var 5) (ma_cons (me_var 7) ma_nil))))) (me_lc (own := [("_law_c", 7), ("_law_e", 5)]) rfl sc__law_order.nd (blkOk_by (own := [("_law_c", 7), ("_law_e", 5)]) (N := N__law_order) (sc := defScope s__law_order) (by decide +kernel)) (by decide) (mi_seq (me_var 1)) (fun _ _ _ _ _ => (mg_tup rfl (mgs_cons (mg_name (i := 7) sc__law_order.nd rfl (by first | exact .inl rfl | exact .inr rfl)) (mgs_cons (mg_name (i := 5) sc__law_order.nd rfl (by first | exact .inl rfl | exact .inr rfl)) mgs_nil)))) (fun _ _ _ _ _ => (mts_one (mt_cmp op_gt o_cmp (me_var 7) me_int (nomark _)))) (fun _ _ _ _ _ => (me_tup (ma_cons (me_var 5) (ma_cons (me_op op_sub o_sub me_int (me_var 7)) ma_nil)))))))
    (mss_cons (ms_par3 (i := 3) (j := 4) (l := 5) rfl sc__law_order.nd rfl rfl rfl (by decide) (by decide) (by decide) rfl rfl rfl (ma_cons (me_callB (cr_sortD hr) c_sortedN rfl T.n_sorted bb_sorted (ma_cons (me_var 2) ma_nil)) (ma_cons me_int (ma_cons me_int ma_nil))))
    (mss_cons (ms_while 1000000 PassesOwn.never (mt_cmp (or_ne hr) o_ne (me_var 3) (me_lst ma_nil) (nomark _)) (mss_cons (ms_asg (me_pop (me_var 3)) (mg_tup rfl (mgs_cons (mg_name (i := 6) sc__law_order.nd rfl (by first | exact .inl rfl | exact .inr rfl)) (mgs_cons (mg_name (i := 7) sc__law_order.nd rfl (by first | exact .inl rfl | exact .inr rfl)) mgs_nil))))
    (mss_cons (ms_if (mt_w (mw_and (mt_cmp (or_ne hr) o_ne (me_var 4) me_int (nomark _)) (mw_and1 (mt_cmp op_gt o_cmp (me_op op_sub o_sub (me_var 5) (me_var 6)) me_int (nomark _))))) (mss_one (ms_ret (me_if (mt_cmp op_gt o_cmp (me_var 4) me_int (nomark _)) me_int (me_un un_neg o_neg me_int)))) mss_nil)
    (mss_cons (ms_set (i := 4) sc__law_order.nd rfl (by first | exact .inl rfl | exact .inr rfl) (me_if (mt_cmp (or_ne hr) o_ne (me_var 4) me_int (nomark _)) (me_op or_add o_add (me_op or_mulS o_mulS (me_var 4) (me_call gd (ok__law_two (P := P) (K := K) (base := base) T hT) (hr.mono (by decide)) rfl T.g__law_two T.F__law_two.kp T.b__law_two pass0 (ma_cons (me_op op_sub o_sub (me_var 5) (me_var 6)) ma_nil) (many_cons many_nil))) (me_var 7)) (me_var 7)))
    (mss_one (ms_set (i := 5) sc__law_order.nd rfl (by first | exact .inl rfl | exact .inr rfl) (me_var 6)))))))
    (mss_one (ms_ret (me_op op_subB o_subB (me_cmp op_gt o_cmp (me_var 4) me_int (nomark _)) (me_cmp op_lt o_cmp (me_var 4) me_int (nomark _))))))))
theorem sc__law_long : FnScope N__law_long ["_law_x"] (defScope s__law_long) := ⟨rfl, rfl, rfl, by decide +kernel, rfl, by decide +kernel, by decide +kernel⟩
theorem ok__law_long {P : Program} {K : KW} {mg : Str → Option Value} {base : Heap} (T : Txt K.K mg base) (hT : K.T = T.tabs) : FnG P K.w K.K mg base CX0 1 T.f__law_long T.d__law_long ["_law_x"] (spM K 1 F__law_long) :=
  fn_mkC (N := N__law_long) (k := 0) (fb := B__law_long) T.F__law_long sc__law_long fun cdv A outer s H E hcd gd hr =>
    (mss_cons (ms_set (i := 1) sc__law_long.nd rfl (by first | exact .inl rfl | exact .inr rfl) me_int)
    (mss_cons (ms_while 1000000 PassesOwn.never (mt_cmp op_ge o_cmp (me_var 0) (me_op op_pow o_pow me_int me_int) (nomark _)) (mss_one (ms_par (i := 0) (j := 1) rfl sc__law_long.nd rfl rfl (by decide) rfl rfl (ma_cons (me_op op_fdivW o_div (me_callT call_int1 c_int rfl T.n_int bb_int (ma_cons (me_var 0) ma_nil)) (me_op op_pow o_pow me_int me_int)) (ma_cons (me_op or_add o_add (me_var 1) me_int) ma_nil)))))
    (mss_cons (ms_while 1000000 PassesOwn.never (mt_cmp op_gt o_cmp (me_var 0) me_int (nomark _)) (mss_one (ms_par (i := 0) (j := 1) rfl sc__law_long.nd rfl rfl (by decide) rfl rfl (ma_cons (me_op op_fdivW o_div (me_callT call_int1 c_int rfl T.n_int bb_int (ma_cons (me_var 0) ma_nil)) me_int) (ma_cons (me_op or_add o_add (me_var 1) me_int) ma_nil)))))
    (mss_one (ms_ret (me_var 1))))))
theorem sc__law_top : FnScope N__law_top ["_law_pile_here", "_law_bound"] (defScope s__law_top) := ⟨rfl, rfl, rfl, by decide +kernel, rfl, by decide +kernel, by decide +kernel⟩
theorem ok__law_top {P : Program} {K : KW} {mg : Str → Option Value} {base : Heap} (T : Txt K.K mg base) (hT : K.T = T.tabs) : FnG P K.w K.K mg base CX0 2 T.f__law_top T.d__law_top ["_law_pile_here", "_law_bound"] (spM K 2 F__law_top) :=
  fn_mkC (N := N__law_top) (k := 1) (fb := B__law_top) T.F__law_top sc__law_top fun cdv A outer s H E hcd gd hr =>
    (mss_cons (ms_set (i := 2) sc__law_top.nd rfl (by first | exact .inl rfl | exact .inr rfl) (me_callB (cr_sortD hr) c_sortedN rfl T.n_sorted bb_sorted (ma_cons (me_lc (own := [("_law_c", 7), ("_law_e", 4)]) rfl sc__law_top.nd (blkOk_by (own := [("_law_c", 7), ("_law_e", 4)]) (N := N__law_top) (sc := defScope s__law_top) (by decide +kernel)) (by decide) (mi_seq (me_var 0)) (fun _ _ _ _ _ => (mg_tup rfl (mgs_cons (mg_name (i := 7) sc__law_top.nd rfl (by first | exact .inl rfl | exact .inr rfl)) (mgs_cons (mg_name (i := 4) sc__law_top.nd rfl (by first | exact .inl rfl | exact .inr rfl)) mgs_nil)))) (fun _ _ _ _ _ => (mts_one (mt_cmp op_gt o_cmp (me_var 7) me_int (nomark _)))) (fun _ _ _ _ _ => (me_tup (ma_cons (me_op or_add o_add (me_var 4) (me_call gd (ok__law_long (P := P) (K := K) (base := base) T hT) (hr.mono (by decide)) rfl T.g__law_long T.F__law_long.kp T.b__law_long pass0 (ma_cons (me_var 7) ma_nil) (many_cons many_nil))) (ma_cons (me_var 4) (ma_cons (me_var 7) ma_nil)))))) ma_nil)))
    (mss_cons (ms_if (mt_cmp (or_eq hr) o_eq (me_var 2) (me_lst ma_nil) (nomark _)) (mss_one (ms_ret (me_tup (ma_cons me_int (ma_cons (me_var 1) (ma_cons me_bl ma_nil)))))) mss_nil)
    (mss_cons (ms_par (i := 3) (j := 4) rfl sc__law_top.nd rfl rfl (by decide) rfl rfl (ma_cons me_int (ma_cons (me_ix or_ix o_ix (me_ix or_ix o_ix (me_var 2) (me_un un_neg o_neg me_int)) me_int) ma_nil)))
    (mss_cons (ms_while 1000000 PassesOwn.never (mt_w (mw_and (mt_cmp (or_ne hr) o_ne (me_var 2) (me_lst ma_nil) (nomark _)) (mw_and1 (mt_cmp op_ge o_cmp (me_op or_add o_add (me_ix or_ix o_ix (me_ix or_ix o_ix (me_var 2) (me_un un_neg o_neg me_int)) me_int) me_int) (me_callB (call_min2 rfl) c_min2 rfl T.n_min bb_min (ma_cons (me_var 4) (ma_cons (me_var 1) ma_nil))) (nomark _))))) (mss_cons (ms_asg (me_pop (me_var 2)) (mg_tup rfl (mgs_cons (mg_name (i := 5) sc__law_top.nd rfl (by first | exact .inl rfl | exact .inr rfl)) (mgs_cons (mg_name (i := 6) sc__law_top.nd rfl (by first | exact .inl rfl | exact .inr rfl)) (mgs_cons (mg_name (i := 7) sc__law_top.nd rfl (by first | exact .inl rfl | exact .inr rfl)) mgs_nil)))))
    (mss_one (ms_if (mt_cmp op_lt o_cmp (me_var 6) (me_var 4) (nomark _)) (mss_one (ms_par (i := 3) (j := 4) rfl sc__law_top.nd rfl rfl (by decide) rfl rfl (ma_cons (me_op or_add o_add (me_op or_mulS o_mulS (me_var 3) (me_call gd (ok__law_two (P := P) (K := K) (base := base) T hT) (hr.mono (by decide)) rfl T.g__law_two T.F__law_two.kp T.b__law_two pass0 (ma_cons (me_op op_sub o_sub (me_var 4) (me_var 6)) ma_nil) (many_cons many_nil))) (me_var 7)) (ma_cons (me_var 6) ma_nil)))) (mss_one (ms_set (i := 3) sc__law_top.nd rfl (by first | exact .inl rfl | exact .inr rfl) (me_op or_add o_add (me_var 3) (me_op or_mulS o_mulS (me_var 7) (me_call gd (ok__law_two (P := P) (K := K) (base := base) T hT) (hr.mono (by decide)) rfl T.g__law_two T.F__law_two.kp T.b__law_two pass0 (ma_cons (me_op op_sub o_sub (me_var 6) (me_var 4)) ma_nil) (many_cons many_nil))))))))))
    (mss_one (ms_ret (me_tup (ma_cons (me_var 3) (ma_cons (me_var 4) (ma_cons (me_cmp (or_ne hr) o_ne (me_var 2) (me_lst ma_nil) (nomark _)) ma_nil))))))))))
theorem sc__law_by_two : FnScope N__law_by_two ["_law_pile_here", "_law_e", "_law_is_up"] (defScope s__law_by_two) := ⟨rfl, rfl, rfl, by decide +kernel, rfl, by decide +kernel, by decide +kernel⟩
theorem ok__law_by_two {P : Program} {K : KW} {mg : Str → Option Value} {base : Heap} (T : Txt K.K mg base) (hT : K.T = T.tabs) : FnG P K.w K.K mg base CX0 3 T.f__law_by_two T.d__law_by_two ["_law_pile_here", "_law_e", "_law_is_up"] (spM K 3 F__law_by_two) :=
  fn_mkC (N := N__law_by_two) (k := 2) (fb := B__law_by_two) T.F__law_by_two sc__law_by_two fun cdv A outer s H E hcd gd hr =>
    (mss_cons (ms_asg (me_call gd (ok__law_top (P := P) (K := K) (base := base) T hT) (hr.mono (by decide)) rfl T.g__law_top T.F__law_top.kp T.b__law_top pass0 (ma_cons (me_var 0) (ma_cons (me_var 1) ma_nil)) (many_cons (many_cons many_nil))) (mg_tup rfl (mgs_cons (mg_name (i := 3) sc__law_by_two.nd rfl (by first | exact .inl rfl | exact .inr rfl)) (mgs_cons (mg_name (i := 4) sc__law_by_two.nd rfl (by first | exact .inl rfl | exact .inr rfl)) (mgs_cons (mg_name (i := 5) sc__law_by_two.nd rfl (by first | exact .inl rfl | exact .inr rfl)) mgs_nil)))))
    (mss_cons (ms_if (mt_cmp op_ge o_cmp (me_var 4) (me_var 1) (nomark _)) (mss_one (ms_ret (me_op or_add o_add (me_op or_mulS o_mulS (me_var 3) (me_call gd (ok__law_two (P := P) (K := K) (base := base) T hT) (hr.mono (by decide)) rfl T.g__law_two T.F__law_two.kp T.b__law_two pass0 (ma_cons (me_op op_sub o_sub (me_var 4) (me_var 1)) ma_nil) (many_cons many_nil))) (me_callT call_int1 c_int rfl T.n_int bb_int (ma_cons (me_and (me_var 2) (me_one (me_var 5))) ma_nil))))) mss_nil)
    (mss_cons (ms_if (mt_cmp op_gt o_cmp (me_op op_sub o_sub (me_var 1) (me_var 4)) (me_op or_add o_add (me_call gd (ok__law_long (P := P) (K := K) (base := base) T hT) (hr.mono (by decide)) rfl T.g__law_long T.F__law_long.kp T.b__law_long pass0 (ma_cons (me_var 3) ma_nil) (many_cons many_nil)) me_int) (nomark _)) (mss_one (ms_ret (me_callT call_int1 c_int rfl T.n_int bb_int (ma_cons (me_and (me_var 2) (me_one (me_or (me_cmp op_gt o_cmp (me_var 3) me_int (nomark _)) (me_one (me_var 5))))) ma_nil)))) mss_nil)
    (mss_cons (ms_set (i := 6) sc__law_by_two.nd rfl (by first | exact .inl rfl | exact .inr rfl) (me_call gd (ok__law_two (P := P) (K := K) (base := base) T hT) (hr.mono (by decide)) rfl T.g__law_two T.F__law_two.kp T.b__law_two pass0 (ma_cons (me_op op_sub o_sub (me_var 1) (me_var 4)) ma_nil) (many_cons many_nil)))
    (mss_cons (ms_set (i := 7) sc__law_by_two.nd rfl (by first | exact .inl rfl | exact .inr rfl) (me_op op_fdivW o_div (me_callT call_int1 c_int rfl T.n_int bb_int (ma_cons (me_var 3) ma_nil)) (me_var 6)))
    (mss_one (ms_ret (me_op or_add o_add (me_var 7) (me_callT call_int1 c_int rfl T.n_int bb_int (ma_cons (me_and (me_var 2) (me_one (me_or (me_cmp (or_ne hr) o_ne (me_op or_mulS o_mulS (me_var 7) (me_var 6)) (me_var 3) (nomark _)) (me_one (me_var 5))))) ma_nil))))))))))
theorem sc__law_around : FnScope N__law_around ["_law_lows", "_law_highs", "_law_bits"] (defScope s__law_around) := ⟨rfl, rfl, rfl, by decide +kernel, rfl, by decide +kernel, by decide +kernel⟩
theorem ok__law_around {P : Program} {K : KW} {mg : Str → Option Value} {base : Heap} (T : Txt K.K mg base) (hT : K.T = T.tabs) : FnG P K.w K.K mg base CX0 4 T.f__law_around T.d__law_around ["_law_lows", "_law_highs", "_law_bits"] (spM K 3 F__law_around) :=
  fn_mkC (N := N__law_around) (k := 3) (fb := B__law_around) T.F__law_around sc__law_around fun cdv A outer s H E hcd gd hr =>
    (mss_cons (ms_setLc (i := 3) (own := [("_law_c", 6), ("_law_e", 4)]) rfl sc__law_around.nd rfl rfl (sw_true rfl rfl rfl (by decide +kernel)) (blkOk_by (own := [("_law_c", 6), ("_law_e", 4)]) (N := N__law_around) (sc := defScope s__law_around) (by decide +kernel)) (by decide) (mi_seq (me_var 1)) (fun _ _ _ _ _ => (mg_tup rfl (mgs_cons (mg_name (i := 6) sc__law_around.nd rfl (by first | exact .inl rfl | exact .inr rfl)) (mgs_cons (mg_name (i := 4) sc__law_around.nd rfl (by first | exact .inl rfl | exact .inr rfl)) mgs_nil)))) (fun _ _ _ _ _ => (mts_one (mt_cmp op_gt o_cmp (me_var 6) me_int (nomark _)))) (fun _ _ _ _ _ => (me_op or_add o_add (me_var 4) (me_call gd (ok__law_long (P := P) (K := K) (base := base) T hT) (hr.mono (by decide)) rfl T.g__law_long T.F__law_long.kp T.b__law_long pass0 (ma_cons (me_var 6) ma_nil) (many_cons many_nil)))))
    (mss_cons (ms_par (i := 4) (j := 5) rfl sc__law_around.nd rfl rfl (by decide) rfl rfl (ma_cons (me_callB (cr_maxA hr rfl) c_maxA rfl T.n_max bb_max (ma_cons (me_op or_add o_add (me_lst (ma_cons me_int ma_nil)) (me_lc (own := [("_law_top_here", 7)]) rfl sc__law_around.nd (blkOk_by (own := [("_law_top_here", 7)]) (N := N__law_around) (sc := defScope s__law_around) (by decide +kernel)) (by decide) (mi_seq (me_var 3)) (fun _ _ _ _ _ => (mg_name (i := 7) sc__law_around.nd rfl (by first | exact .inl rfl | exact .inr rfl))) (fun _ _ _ _ _ => mts_nil) (fun _ _ _ _ _ => (me_op op_sub o_sub (me_var 7) (me_var 2))))) ma_nil)) (ma_cons (me_call gd (ok__law_two (P := P) (K := K) (base := base) T hT) (hr.mono (by decide)) rfl T.g__law_two T.F__law_two.kp T.b__law_two pass0 (ma_cons (me_var 2) ma_nil) (many_cons many_nil)) ma_nil)))
    (mss_cons (ms_while 1000000 PassesOwn.never (mt_cmp op_ge o_cmp (me_call gd (ok__law_by_two (P := P) (K := K) (base := base) T hT) (hr.mono (by decide)) rfl T.g__law_by_two T.F__law_by_two.kp T.b__law_by_two pass0 (ma_cons (me_var 1) (ma_cons (me_var 4) (ma_cons me_bl ma_nil))) (many_cons (many_cons (many_cons many_nil)))) (me_var 5) (nomark _)) (mss_one (ms_aug (i := 4) sc__law_around.nd rfl (by first | exact .inl rfl | exact .inr rfl) ip_add o_addI me_int)))
    (mss_one (ms_ret (me_tup (ma_cons (me_call gd (ok__law_by_two (P := P) (K := K) (base := base) T hT) (hr.mono (by decide)) rfl T.g__law_by_two T.F__law_by_two.kp T.b__law_by_two pass0 (ma_cons (me_var 0) (ma_cons (me_var 4) (ma_cons me_bl ma_nil))) (many_cons (many_cons (many_cons many_nil)))) (ma_cons (me_call gd (ok__law_by_two (P := P) (K := K) (base := base) T hT) (hr.mono (by decide)) rfl T.g__law_by_two T.F__law_by_two.kp T.b__law_by_two pass0 (ma_cons (me_var 1) (ma_cons (me_var 4) (ma_cons me_bl ma_nil))) (many_cons (many_cons (many_cons many_nil)))) (ma_cons (me_var 4) ma_nil)))))))))
theorem sc__law_enclosure : FnScope N__law_enclosure ["_law_bag_here"] (defScope s__law_enclosure) := ⟨rfl, rfl, rfl, by decide +kernel, rfl, by decide +kernel, by decide +kernel⟩
theorem ok__law_enclosure {P : Program} {K : KW} {mg : Str → Option Value} {base : Heap} (T : Txt K.K mg base) (hT : K.T = T.tabs) : FnG P K.w K.K mg base CX0 3 T.f__law_enclosure T.d__law_enclosure ["_law_bag_here"] (spM K 1 F__law_enclosure) :=
  fn_mkC (N := N__law_enclosure) (k := 2) (fb := B__law_enclosure) T.F__law_enclosure sc__law_enclosure fun cdv A outer s H E hcd gd hr =>
    (mss_cons (ms_set (i := 1) sc__law_enclosure.nd rfl (by first | exact .inl rfl | exact .inr rfl) (me_call gd (ok__law_some (P := P) (K := K) (base := base) T hT) (hr.mono (by decide)) rfl T.g__law_some T.F__law_some.kp T.b__law_some pass0 (ma_cons (me_var 0) (ma_cons (me_lst (ma_cons me_int (ma_cons me_int (ma_cons me_int (ma_cons me_int (ma_cons me_int (ma_cons (me_call gd (ok__law_take (P := P) (K := K) (base := base) T hT) (hr.mono (by decide)) rfl T.g__law_take T.F__law_take.kp T.b__law_take pass0 (ma_cons (me_var 0) (ma_cons (me_op op_pow o_pow me_int me_int) ma_nil)) (many_cons (many_cons many_nil))) ma_nil))))))) ma_nil)) (many_cons (many_cons many_nil))))
    (mss_one (ms_ret (me_tup (ma_cons (me_var 1) (ma_cons (me_op or_add o_add (me_var 1) (me_call gd (ok__law_some (P := P) (K := K) (base := base) T hT) (hr.mono (by decide)) rfl T.g__law_some T.F__law_some.kp T.b__law_some pass0 (ma_cons (me_var 0) (ma_cons (me_lst (ma_cons me_int (ma_cons me_int (ma_cons me_int (ma_cons me_int (ma_cons me_int ma_nil)))))) ma_nil)) (many_cons (many_cons many_nil)))) (ma_cons (me_call gd (ok__law_some (P := P) (K := K) (base := base) T hT) (hr.mono (by decide)) rfl T.g__law_some T.F__law_some.kp T.b__law_some pass0 (ma_cons (me_var 0) (ma_cons (me_lst (ma_cons me_int (ma_cons me_int (ma_cons me_int (ma_cons me_int (ma_cons me_int (ma_cons me_int ma_nil))))))) ma_nil)) (many_cons (many_cons many_nil))) ma_nil)))))))
theorem sc__law_is_within : FnScope N__law_is_within ["_law_one", "_law_other"] (defScope s__law_is_within) := ⟨rfl, rfl, rfl, by decide +kernel, rfl, by decide +kernel, by decide +kernel⟩
theorem ok__law_is_within {P : Program} {K : KW} {mg : Str → Option Value} {base : Heap} (T : Txt K.K mg base) (hT : K.T = T.tabs) : FnG P K.w K.K mg base CX0 3 T.f__law_is_within T.d__law_is_within ["_law_one", "_law_other"] (spM K 2 F__law_is_within) :=
  fn_mkC (N := N__law_is_within) (k := 2) (fb := B__law_is_within) T.F__law_is_within sc__law_is_within fun cdv A outer s H E hcd gd hr =>
    (mss_cons (ms_if (mt_cmp op_gt o_cmp (me_call gd (ok__law_order (P := P) (K := K) (base := base) T hT) (hr.mono (by decide)) rfl T.g__law_order T.F__law_order.kp T.b__law_order pass0 (ma_cons (me_lst (ma_cons (me_tup (ma_cons (me_ix or_ix o_ix (me_var 1) me_int) (ma_cons (me_ix or_ix o_ix (me_var 1) me_int) ma_nil))) ma_nil)) (ma_cons (me_lst (ma_cons (me_tup (ma_cons (me_ix or_ix o_ix (me_var 0) me_int) (ma_cons (me_ix or_ix o_ix (me_var 0) me_int) ma_nil))) ma_nil)) ma_nil)) (many_cons (many_cons many_nil))) me_int (nomark _)) (mss_one (ms_ret me_bl)) mss_nil)
    (mss_one (ms_ret (me_cmp op_le o_cmp (me_call gd (ok__law_order (P := P) (K := K) (base := base) T hT) (hr.mono (by decide)) rfl T.g__law_order T.F__law_order.kp T.b__law_order pass0 (ma_cons (me_lst (ma_cons (me_tup (ma_cons (me_ix or_ix o_ix (me_var 0) me_int) (ma_cons (me_ix or_ix o_ix (me_var 0) me_int) ma_nil))) ma_nil)) (ma_cons (me_lst (ma_cons (me_tup (ma_cons (me_ix or_ix o_ix (me_var 1) me_int) (ma_cons (me_ix or_ix o_ix (me_var 1) me_int) ma_nil))) ma_nil)) ma_nil)) (many_cons (many_cons many_nil))) me_int (nomark _)))))
theorem sc__law_dusty : FnScope N__law_dusty ["_law_bag_here"] (defScope s__law_dusty) := ⟨rfl, rfl, rfl, by decide +kernel, rfl, by decide +kernel, by decide +kernel⟩
theorem ok__law_dusty {P : Program} {K : KW} {mg : Str → Option Value} {base : Heap} (T : Txt K.K mg base) (hT : K.T = T.tabs) : FnG P K.w K.K mg base CX0 3 T.f__law_dusty T.d__law_dusty ["_law_bag_here"] (spM K 1 F__law_dusty) :=
  fn_mkC (N := N__law_dusty) (k := 2) (fb := B__law_dusty) T.F__law_dusty sc__law_dusty fun cdv A outer s H E hcd gd hr =>
    (mss_cons (ms_asg (me_tup (ma_cons (me_op or_mulS o_mulS (me_op or_mulS o_mulS (me_op or_mulS o_mulS (me_op op_pow o_pow me_int me_int) (me_op op_pow o_pow me_int me_int)) (me_op op_pow o_pow me_int me_int)) (me_op op_pow o_pow me_int me_int)) (ma_cons (me_call gd (ok__law_some (P := P) (K := K) (base := base) T hT) (hr.mono (by decide)) rfl T.g__law_some T.F__law_some.kp T.b__law_some pass0 (ma_cons (me_var 0) (ma_cons (me_lst (ma_cons me_int (ma_cons me_int (ma_cons me_int (ma_cons me_int ma_nil))))) ma_nil)) (many_cons (many_cons many_nil))) ma_nil))) (mg_tup rfl (mgs_cons (mg_name (i := 1) sc__law_dusty.nd rfl (by first | exact .inl rfl | exact .inr rfl)) (mgs_cons (mg_name (i := 2) sc__law_dusty.nd rfl (by first | exact .inl rfl | exact .inr rfl)) mgs_nil))))
    (mss_cons (ms_setLc (i := 3) (own := [("_law_turn", 7)]) rfl sc__law_dusty.nd rfl rfl (sw_true rfl rfl rfl (by decide +kernel)) (blkOk_by (own := [("_law_turn", 7)]) (N := N__law_dusty) (sc := defScope s__law_dusty) (by decide +kernel)) (by decide) (mi_range1 rfl T.n_range (me_op or_add o_add me_int (me_call gd (ok__law_take (P := P) (K := K) (base := base) T hT) (hr.mono (by decide)) rfl T.g__law_take T.F__law_take.kp T.b__law_take pass0 (ma_cons (me_var 0) (ma_cons me_int ma_nil)) (many_cons (many_cons many_nil))))) (fun _ _ _ _ _ => (mg_name (i := 7) sc__law_dusty.nd rfl (by first | exact .inl rfl | exact .inr rfl))) (fun _ _ _ _ _ => mts_nil) (fun _ _ _ _ _ => (me_tup (ma_cons (me_op or_add o_add me_int (me_call gd (ok__law_take (P := P) (K := K) (base := base) T hT) (hr.mono (by decide)) rfl T.g__law_take T.F__law_take.kp T.b__law_take pass0 (ma_cons (me_var 0) (ma_cons me_int ma_nil)) (many_cons (many_cons many_nil)))) (ma_cons (me_op or_add o_add (me_op or_add o_add (me_var 1) (me_var 2)) (me_call gd (ok__law_take (P := P) (K := K) (base := base) T hT) (hr.mono (by decide)) rfl T.g__law_take T.F__law_take.kp T.b__law_take pass0 (ma_cons (me_var 0) (ma_cons me_int ma_nil)) (many_cons (many_cons many_nil)))) ma_nil)))))
    (mss_cons (ms_set (i := 4) sc__law_dusty.nd rfl (by first | exact .inl rfl | exact .inr rfl) (me_lst (ma_cons (me_lst ma_nil) (ma_cons (me_lst (ma_cons (me_tup (ma_cons me_int (ma_cons me_int ma_nil))) ma_nil)) (ma_cons (me_lst (ma_cons (me_tup (ma_cons me_int (ma_cons (me_var 2) ma_nil))) ma_nil)) (ma_cons (me_lst (ma_cons (me_tup (ma_cons me_int (ma_cons me_int ma_nil))) ma_nil)) (ma_cons (me_lst (ma_cons (me_tup (ma_cons me_int (ma_cons (me_op op_sub o_sub (me_var 1) me_int) ma_nil))) ma_nil)) (ma_cons (me_lst (ma_cons (me_tup (ma_cons me_int (ma_cons (me_op op_sub o_sub (me_var 1) me_int) ma_nil))) ma_nil)) (ma_cons (me_lst (ma_cons (me_tup (ma_cons me_int (ma_cons me_int ma_nil))) (ma_cons (me_tup (ma_cons me_int (ma_cons me_int ma_nil))) ma_nil))) ma_nil)))))))))
    (mss_cons (ms_par (i := 5) (j := 6) rfl sc__law_dusty.nd rfl rfl (by decide) rfl rfl (ma_cons (me_op or_add o_add (me_var 3) (me_call gd (ok__law_some (P := P) (K := K) (base := base) T hT) (hr.mono (by decide)) rfl T.g__law_some T.F__law_some.kp T.b__law_some pass0 (ma_cons (me_var 0) (ma_cons (me_var 4) ma_nil)) (many_cons (many_cons many_nil)))) (ma_cons (me_op or_add o_add (me_call gd (ok__law_mixed (P := P) (K := K) (base := base) T hT) (hr.mono (by decide)) rfl T.g__law_mixed T.F__law_mixed.kp T.b__law_mixed pass0 (ma_cons (me_var 0) (ma_cons (me_var 3) ma_nil)) (many_cons (many_cons many_nil))) (me_call gd (ok__law_some (P := P) (K := K) (base := base) T hT) (hr.mono (by decide)) rfl T.g__law_some T.F__law_some.kp T.b__law_some pass0 (ma_cons (me_var 0) (ma_cons (me_var 4) ma_nil)) (many_cons (many_cons many_nil)))) ma_nil)))
    (mss_cons (ms_if (mt_cmp (or_eq hr) o_eq (me_call gd (ok__law_take (P := P) (K := K) (base := base) T hT) (hr.mono (by decide)) rfl T.g__law_take T.F__law_take.kp T.b__law_take pass0 (ma_cons (me_var 0) (ma_cons me_int ma_nil)) (many_cons (many_cons many_nil))) me_int (nomark _)) (mss_one (ms_set (i := 6) sc__law_dusty.nd rfl (by first | exact .inl rfl | exact .inr rfl) (me_op or_add o_add (me_lc (own := [("_law_c", 8), ("_law_e", 9)]) rfl sc__law_dusty.nd (blkOk_by (own := [("_law_c", 8), ("_law_e", 9)]) (N := N__law_dusty) (sc := defScope s__law_dusty) (by decide +kernel)) (by decide) (mi_seq (me_var 3)) (fun _ _ _ _ _ => (mg_tup rfl (mgs_cons (mg_name (i := 8) sc__law_dusty.nd rfl (by first | exact .inl rfl | exact .inr rfl)) (mgs_cons (mg_name (i := 9) sc__law_dusty.nd rfl (by first | exact .inl rfl | exact .inr rfl)) mgs_nil)))) (fun _ _ _ _ _ => mts_nil) (fun _ _ _ _ _ => (me_tup (ma_cons (me_op or_mulS o_mulS me_int (me_var 8)) (ma_cons (me_op op_sub o_sub (me_var 9) me_int) ma_nil))))) (me_call gd (ok__law_some (P := P) (K := K) (base := base) T hT) (hr.mono (by decide)) rfl T.g__law_some T.F__law_some.kp T.b__law_some pass0 (ma_cons (me_var 0) (ma_cons (me_var 4) ma_nil)) (many_cons (many_cons many_nil)))))) mss_nil)
    (mss_one (ms_ret (me_tup (ma_cons (me_var 5) (ma_cons (me_var 6) ma_nil))))))))))
theorem sc__law_does_hold : FnScope N__law_does_hold ["_law_enclosure_here", "_law_x"] (defScope s__law_does_hold) := ⟨rfl, rfl, rfl, by decide +kernel, rfl, by decide +kernel, by decide +kernel⟩
theorem ok__law_does_hold {P : Program} {K : KW} {mg : Str → Option Value} {base : Heap} (T : Txt K.K mg base) (hT : K.T = T.tabs) : FnG P K.w K.K mg base CX0 2 T.f__law_does_hold T.d__law_does_hold ["_law_enclosure_here", "_law_x"] (spM K 2 F__law_does_hold) :=
  fn_mkC (N := N__law_does_hold) (k := 1) (fb := B__law_does_hold) T.F__law_does_hold sc__law_does_hold fun cdv A outer s H E hcd gd hr =>
    (mss_cons (ms_set (i := 2) sc__law_does_hold.nd rfl (by first | exact .inl rfl | exact .inr rfl) (me_call gd (ok__law_two (P := P) (K := K) (base := base) T hT) (hr.mono (by decide)) rfl T.g__law_two T.F__law_two.kp T.b__law_two pass0 (ma_cons (me_ix or_ix o_ix (me_var 0) me_int) ma_nil) (many_cons many_nil)))
    (mss_one (ms_ret (me_chain op_le o_cmp op_le o_cmp (me_op or_mulS o_mulS (me_ix or_ix o_ix (me_var 0) me_int) (me_var 2)) (me_var 1) (me_op or_mulS o_mulS (me_ix or_ix o_ix (me_var 0) me_int) (me_var 2))))))
theorem sc_law : FnScope N_law ["_law_script"] (defScope s_law) := ⟨rfl, rfl, rfl, by decide +kernel, rfl, by decide +kernel, by decide +kernel⟩
theorem ok_law {P : Program} {K : KW} {mg : Str → Option Value} {base : Heap} (T : Txt K.K mg base) (hT : K.T = T.tabs) : FnG P K.w K.K mg base CX0 8 T.f_law T.d_law ["_law_script"] (spM K 1 F_law) :=
  fn_mkC (N := N_law) (k := 7) (fb := B_law) T.F_law sc_law fun cdv A outer s H E hcd gd hr =>
    (mss_cons (ms_set (i := 1) sc_law.nd rfl (by first | exact .inl rfl | exact .inr rfl) (me_call gd (ok__law_bag (P := P) (K := K) (base := base) T hT) (hr.mono (by decide)) rfl T.g__law_bag T.F__law_bag.kp T.b__law_bag pass0 (ma_cons (me_var 0) ma_nil) (many_cons many_nil)))
    (mss_cons (ms_for PassesOwn.never rfl (mi_range1 rfl T.n_range me_int) (mg_name (i := 2) sc_law.nd rfl (by first | exact .inl rfl | exact .inr rfl)) (mss_cons (ms_par3 (i := 3) (j := 4) (l := 5) rfl sc_law.nd rfl rfl rfl (by decide) (by decide) (by decide) rfl rfl rfl (ma_cons (me_call gd (ok__law_pile (P := P) (K := K) (base := base) T hT) (hr.mono (by decide)) rfl T.g__law_pile T.F__law_pile.kp T.b__law_pile pass0 (ma_cons (me_var 1) ma_nil) (many_cons many_nil)) (ma_cons (me_call gd (ok__law_pile (P := P) (K := K) (base := base) T hT) (hr.mono (by decide)) rfl T.g__law_pile T.F__law_pile.kp T.b__law_pile pass0 (ma_cons (me_var 1) ma_nil) (many_cons many_nil)) (ma_cons (me_call gd (ok__law_some (P := P) (K := K) (base := base) T hT) (hr.mono (by decide)) rfl T.g__law_some T.F__law_some.kp T.b__law_some pass0 (ma_cons (me_var 1) (ma_cons (me_lst (ma_cons me_int (ma_cons me_int (ma_cons me_int (ma_cons me_int (ma_cons me_int (ma_cons me_int ma_nil))))))) ma_nil)) (many_cons (many_cons many_nil))) ma_nil))))
    (mss_cons (ms_set (i := 6) sc_law.nd rfl (by first | exact .inl rfl | exact .inr rfl) (me_call gd (ok__law_far (P := P) (K := K) (base := base) T hT) (hr.mono (by decide)) rfl T.g__law_far T.F__law_far.kp T.b__law_far pass0 (ma_cons (me_var 1) (ma_cons (me_op or_add o_add (me_var 3) (me_var 4)) ma_nil)) (many_cons (many_cons many_nil))))
    (mss_cons (ms_par (i := 3) (j := 4) rfl sc_law.nd rfl rfl (by decide) rfl rfl (ma_cons (me_sliceS (me_var 6) mo_none (mo_some (me_callB cr_lenA c_len rfl T.n_len bb_len (ma_cons (me_var 3) ma_nil)))) (ma_cons (me_sliceS (me_var 6) (mo_some (me_callB cr_lenA c_len rfl T.n_len bb_len (ma_cons (me_var 3) ma_nil))) mo_none) ma_nil)))
    (mss_cons (ms_par (i := 7) (j := 8) rfl sc_law.nd rfl rfl (by decide) rfl rfl (ma_cons (me_callT call_tupleP c_tuple rfl T.n_tuple bb_tuple (ma_cons (me_call gd (ok__law_mixed (P := P) (K := K) (base := base) T hT) (hr.mono (by decide)) rfl T.g__law_mixed T.F__law_mixed.kp T.b__law_mixed pass0 (ma_cons (me_var 1) (ma_cons (me_var 3) ma_nil)) (many_cons (many_cons many_nil))) ma_nil)) (ma_cons (me_callB (cr_repr gd hr) c_repr rfl T.n_repr bb_repr (ma_cons (me_lst (ma_cons (me_var 3) (ma_cons (me_var 4) ma_nil))) ma_nil)) ma_nil)))
    (mss_cons (ms_if (mt_not (mt_val (me_call gd (ok__law_alike (P := P) (K := K) (base := base) T hT) (hr.mono (by decide)) rfl T.g__law_alike T.F__law_alike.kp T.b__law_alike pass0 (ma_cons (me_lst (ma_cons (me_call gd (ok_compared (P := P) (K := K) (base := base) T hT) (hr.mono (by decide)) rfl T.g_compared T.F_compared.kp T.b_compared pass0 (ma_cons (me_var 3) (ma_cons (me_var 4) ma_nil)) (many_cons (many_cons many_nil))) (ma_cons (me_call gd (ok_compared (P := P) (K := K) (base := base) T hT) (hr.mono (by decide)) rfl T.g_compared T.F_compared.kp T.b_compared pass0 (ma_cons (me_var 7) (ma_cons (me_var 3) ma_nil)) (many_cons (many_cons many_nil))) ma_nil))) (ma_cons (me_lst (ma_cons (me_call gd (ok__law_order (P := P) (K := K) (base := base) T hT) (hr.mono (by decide)) rfl T.g__law_order T.F__law_order.kp T.b__law_order pass0 (ma_cons (me_var 3) (ma_cons (me_var 4) ma_nil)) (many_cons (many_cons many_nil))) (ma_cons me_int ma_nil))) ma_nil)) (many_cons (many_cons many_nil))))) (mss_one (ms_ret me_bl)) mss_nil)
    (mss_cons (ms_asg (me_if (mt_cmp op_le o_cmp (me_call gd (ok__law_order (P := P) (K := K) (base := base) T hT) (hr.mono (by decide)) rfl T.g__law_order T.F__law_order.kp T.b__law_order pass0 (ma_cons (me_var 3) (ma_cons (me_var 4) ma_nil)) (many_cons (many_cons many_nil))) me_int (nomark _)) (me_tup (ma_cons (me_var 3) (ma_cons (me_var 4) ma_nil))) (me_tup (ma_cons (me_var 4) (ma_cons (me_var 3) ma_nil)))) (mg_tup rfl (mgs_cons (mg_name (i := 9) sc_law.nd rfl (by first | exact .inl rfl | exact .inr rfl)) (mgs_cons (mg_name (i := 10) sc_law.nd rfl (by first | exact .inl rfl | exact .inr rfl)) mgs_nil))))
    (mss_cons (ms_if (mt_not (mt_val (me_call gd (ok__law_alike (P := P) (K := K) (base := base) T hT) (hr.mono (by decide)) rfl T.g__law_alike T.F__law_alike.kp T.b__law_alike pass0 (ma_cons (me_call gd (ok_around (P := P) (K := K) (base := base) T hT) (hr.mono (by decide)) rfl T.g_around T.F_around.kp T.b_around pass0 (ma_cons (me_var 9) (ma_cons (me_callT call_tupleP c_tuple rfl T.n_tuple bb_tuple (ma_cons (me_call gd (ok__law_mixed (P := P) (K := K) (base := base) T hT) (hr.mono (by decide)) rfl T.g__law_mixed T.F__law_mixed.kp T.b__law_mixed pass0 (ma_cons (me_var 1) (ma_cons (me_var 10) ma_nil)) (many_cons (many_cons many_nil))) ma_nil)) (ma_cons (me_var 5) ma_nil))) (many_cons (many_cons (many_cons many_nil)))) (ma_cons (me_call gd (ok__law_around (P := P) (K := K) (base := base) T hT) (hr.mono (by decide)) rfl T.g__law_around T.F__law_around.kp T.b__law_around pass0 (ma_cons (me_var 9) (ma_cons (me_var 10) (ma_cons (me_var 5) ma_nil))) (many_cons (many_cons (many_cons many_nil)))) ma_nil)) (many_cons (many_cons many_nil))))) (mss_one (ms_ret me_bl)) mss_nil)
    (mss_cons (ms_set (i := 11) sc_law.nd rfl (by first | exact .inl rfl | exact .inr rfl) (me_call gd (ok__law_far (P := P) (K := K) (base := base) T hT) (hr.mono (by decide)) rfl T.g__law_far T.F__law_far.kp T.b__law_far pass0 (ma_cons (me_var 1) (ma_cons (me_lc (own := [("_law_again", 23)]) rfl sc_law.nd (blkOk_by (own := [("_law_again", 23)]) (N := N_law) (sc := defScope s_law) (by decide +kernel)) (by decide) (mi_range1 rfl T.n_range (me_call gd (ok__law_some (P := P) (K := K) (base := base) T hT) (hr.mono (by decide)) rfl T.g__law_some T.F__law_some.kp T.b__law_some pass0 (ma_cons (me_var 1) (ma_cons (me_lst (ma_cons me_int (ma_cons me_int (ma_cons me_int (ma_cons me_int ma_nil))))) ma_nil)) (many_cons (many_cons many_nil)))) (fun _ _ _ _ _ => (mg_name (i := 23) sc_law.nd rfl (by first | exact .inl rfl | exact .inr rfl))) (fun _ _ _ _ _ => mts_nil) (fun _ _ _ _ _ => (me_call gd (ok__law_enclosure (P := P) (K := K) (base := base) T hT) (hr.mono (by decide)) rfl T.g__law_enclosure T.F__law_enclosure.kp T.b__law_enclosure pass0 (ma_cons (me_var 1) ma_nil) (many_cons many_nil)))) ma_nil)) (many_cons (many_cons many_nil))))
    (mss_cons (ms_par3 (i := 12) (j := 13) (l := 14) rfl sc_law.nd rfl rfl rfl (by decide) (by decide) (by decide) rfl rfl rfl (ma_cons (me_lc (own := [("_law_its", 24)]) rfl sc_law.nd (blkOk_by (own := [("_law_its", 24)]) (N := N_law) (sc := defScope s_law) (by decide +kernel)) (by decide) (mi_seq (me_var 11)) (fun _ _ _ _ _ => (mg_name (i := 24) sc_law.nd rfl (by first | exact .inl rfl | exact .inr rfl))) (fun _ _ _ _ _ => mts_nil) (fun _ _ _ _ _ => (me_tup (ma_cons (me_ix or_ix o_ix (me_var 24) me_int) (ma_cons (me_ix or_ix o_ix (me_var 24) me_int) ma_nil))))) (ma_cons (me_lc (own := [("_law_its", 24)]) rfl sc_law.nd (blkOk_by (own := [("_law_its", 24)]) (N := N_law) (sc := defScope s_law) (by decide +kernel)) (by decide) (mi_seq (me_var 11)) (fun _ _ _ _ _ => (mg_name (i := 24) sc_law.nd rfl (by first | exact .inl rfl | exact .inr rfl))) (fun _ _ _ _ _ => mts_nil) (fun _ _ _ _ _ => (me_tup (ma_cons (me_ix or_ix o_ix (me_var 24) me_int) (ma_cons (me_ix or_ix o_ix (me_var 24) me_int) ma_nil))))) (ma_cons (me_callB (cr_repr gd hr) c_repr rfl T.n_repr bb_repr (ma_cons (me_var 11) ma_nil)) ma_nil))))
    (mss_cons (ms_if (mt_w (mw_or (mt_not (mt_val (me_call gd (ok__law_alike (P := P) (K := K) (base := base) T hT) (hr.mono (by decide)) rfl T.g__law_alike T.F__law_alike.kp T.b__law_alike pass0 (ma_cons (me_call gd (ok_sum_of (P := P) (K := K) (base := base) T hT) (hr.mono (by decide)) rfl T.g_sum_of T.F_sum_of.kp T.b_sum_of pass0 (ma_cons (me_var 11) (ma_cons (me_var 5) ma_nil)) (many_cons (many_cons many_nil))) (ma_cons (me_call gd (ok__law_around (P := P) (K := K) (base := base) T hT) (hr.mono (by decide)) rfl T.g__law_around T.F__law_around.kp T.b__law_around pass0 (ma_cons (me_var 12) (ma_cons (me_var 13) (ma_cons (me_var 5) ma_nil))) (many_cons (many_cons (many_cons many_nil)))) ma_nil)) (many_cons (many_cons many_nil))))) (mw_or1 (mt_cmp (or_ne hr) o_ne (me_callB (cr_repr gd hr) c_repr rfl T.n_repr bb_repr (ma_cons (me_var 11) ma_nil)) (me_var 14) (nomark _))))) (mss_one (ms_ret me_bl)) mss_nil)
    (mss_cons (ms_if (mt_cmp (or_ne hr) o_ne (me_callB (cr_repr gd hr) c_repr rfl T.n_repr bb_repr (ma_cons (me_lst (ma_cons (me_var 3) (ma_cons (me_var 4) ma_nil))) ma_nil)) (me_var 8) (nomark _)) (mss_one (ms_ret me_bl)) mss_nil)
    (mss_cons (ms_asg (me_call gd (ok__law_far (P := P) (K := K) (base := base) T hT) (hr.mono (by decide)) rfl T.g__law_far T.F__law_far.kp T.b__law_far pass0 (ma_cons (me_var 1) (ma_cons (me_lst (ma_cons (me_call gd (ok__law_enclosure (P := P) (K := K) (base := base) T hT) (hr.mono (by decide)) rfl T.g__law_enclosure T.F__law_enclosure.kp T.b__law_enclosure pass0 (ma_cons (me_var 1) ma_nil) (many_cons many_nil)) (ma_cons (me_call gd (ok__law_enclosure (P := P) (K := K) (base := base) T hT) (hr.mono (by decide)) rfl T.g__law_enclosure T.F__law_enclosure.kp T.b__law_enclosure pass0 (ma_cons (me_var 1) ma_nil) (many_cons many_nil)) ma_nil))) ma_nil)) (many_cons (many_cons many_nil))) (mg_tup rfl (mgs_cons (mg_name (i := 15) sc_law.nd rfl (by first | exact .inl rfl | exact .inr rfl)) (mgs_cons (mg_name (i := 16) sc_law.nd rfl (by first | exact .inl rfl | exact .inr rfl)) mgs_nil))))
    (mss_cons (ms_set (i := 17) sc_law.nd rfl (by first | exact .inl rfl | exact .inr rfl) (me_new (ma_cons (me_tup (ma_cons (me_op or_mulS o_mulS (me_ix or_ix o_ix (me_var 15) me_int) (me_ix or_ix o_ix (me_var 16) me_int)) (ma_cons (me_op or_mulS o_mulS (me_ix or_ix o_ix (me_var 15) me_int) (me_ix or_ix o_ix (me_var 16) me_int)) (ma_cons (me_op or_add o_add (me_ix or_ix o_ix (me_var 15) me_int) (me_ix or_ix o_ix (me_var 16) me_int)) ma_nil)))) ma_nil)))
    (mss_cons (ms_expr (me_append (me_var 17) (me_call gd (ok__law_around (P := P) (K := K) (base := base) T hT) (hr.mono (by decide)) rfl T.g__law_around T.F__law_around.kp T.b__law_around pass0 (ma_cons (me_lst (ma_cons (me_tup (ma_cons (me_ix or_ix o_ix (me_var 15) me_int) (ma_cons (me_ix or_ix o_ix (me_var 15) me_int) ma_nil))) ma_nil)) (ma_cons (me_lst (ma_cons (me_tup (ma_cons (me_ix or_ix o_ix (me_var 15) me_int) (ma_cons (me_ix or_ix o_ix (me_var 15) me_int) ma_nil))) ma_nil)) (ma_cons (me_var 5) ma_nil))) (many_cons (many_cons (many_cons many_nil))))))
    (mss_cons (ms_expr (me_extend (me_var 17) (me_lst (ma_cons (me_call gd (ok__law_is_within (P := P) (K := K) (base := base) T hT) (hr.mono (by decide)) rfl T.g__law_is_within T.F__law_is_within.kp T.b__law_is_within pass0 (ma_cons (me_var 15) (ma_cons (me_var 16) ma_nil)) (many_cons (many_cons many_nil))) (ma_cons (me_call gd (ok__law_is_within (P := P) (K := K) (base := base) T hT) (hr.mono (by decide)) rfl T.g__law_is_within T.F__law_is_within.kp T.b__law_is_within pass0 (ma_cons (me_var 15) (ma_cons (me_ix or_ix o_ix (me_var 17) me_int) ma_nil)) (many_cons (many_cons many_nil))) (ma_cons (me_tup (ma_cons (me_var 5) (ma_cons (me_var 5) (ma_cons me_int ma_nil)))) ma_nil))))))
    (mss_cons (ms_set (i := 18) sc_law.nd rfl (by first | exact .inl rfl | exact .inr rfl) (me_new (ma_cons (me_call gd (ok_product_of (P := P) (K := K) (base := base) T hT) (hr.mono (by decide)) rfl T.g_product_of T.F_product_of.kp T.b_product_of pass0 (ma_cons (me_var 15) (ma_cons (me_var 16) ma_nil)) (many_cons (many_cons many_nil))) (ma_cons (me_call gd (ok_trimmed (P := P) (K := K) (base := base) T hT) (hr.mono (by decide)) rfl T.g_trimmed T.F_trimmed.kp T.b_trimmed pass0 (ma_cons (me_var 15) (ma_cons (me_var 5) ma_nil)) (many_cons (many_cons many_nil))) (ma_cons (me_call gd (ok_lies_in (P := P) (K := K) (base := base) T hT) (hr.mono (by decide)) rfl T.g_lies_in T.F_lies_in.kp T.b_lies_in pass0 (ma_cons (me_var 15) (ma_cons (me_var 16) ma_nil)) (many_cons (many_cons many_nil))) (ma_cons (me_call gd (ok_lies_in (P := P) (K := K) (base := base) T hT) (hr.mono (by decide)) rfl T.g_lies_in T.F_lies_in.kp T.b_lies_in pass0 (ma_cons (me_var 15) (ma_cons (me_ix or_ix o_ix (me_var 17) me_int) ma_nil)) (many_cons (many_cons many_nil))) ma_nil))))))
    (mss_cons (ms_expr (me_append (me_var 18) (me_call gd (ok_exact_one (P := P) (K := K) (base := base) T hT) (hr.mono (by decide)) rfl T.g_exact_one T.F_exact_one.kp T.b_exact_one pass0 (ma_cons (me_var 5) ma_nil) (many_cons many_nil))))
    (mss_cons (ms_if (mt_not (mt_val (me_call gd (ok__law_alike (P := P) (K := K) (base := base) T hT) (hr.mono (by decide)) rfl T.g__law_alike T.F__law_alike.kp T.b__law_alike pass0 (ma_cons (me_var 18) (ma_cons (me_var 17) ma_nil)) (many_cons (many_cons many_nil))))) (mss_one (ms_ret me_bl)) mss_nil)
    (mss_cons (ms_asg (me_call gd (ok__law_dusty (P := P) (K := K) (base := base) T hT) (hr.mono (by decide)) rfl T.g__law_dusty T.F__law_dusty.kp T.b__law_dusty pass0 (ma_cons (me_var 1) ma_nil) (many_cons many_nil)) (mg_tup rfl (mgs_cons (mg_name (i := 3) sc_law.nd rfl (by first | exact .inl rfl | exact .inr rfl)) (mgs_cons (mg_name (i := 4) sc_law.nd rfl (by first | exact .inl rfl | exact .inr rfl)) mgs_nil))))
    (mss_cons (ms_set (i := 17) sc_law.nd rfl (by first | exact .inl rfl | exact .inr rfl) (me_new (ma_cons (me_call gd (ok__law_order (P := P) (K := K) (base := base) T hT) (hr.mono (by decide)) rfl T.g__law_order T.F__law_order.kp T.b__law_order pass0 (ma_cons (me_var 3) (ma_cons (me_var 4) ma_nil)) (many_cons (many_cons many_nil))) (ma_cons (me_call gd (ok__law_order (P := P) (K := K) (base := base) T hT) (hr.mono (by decide)) rfl T.g__law_order T.F__law_order.kp T.b__law_order pass0 (ma_cons (me_var 4) (ma_cons (me_var 3) ma_nil)) (many_cons (many_cons many_nil))) ma_nil))))
    (mss_cons (ms_if (mt_not (mt_val (me_call gd (ok__law_alike (P := P) (K := K) (base := base) T hT) (hr.mono (by decide)) rfl T.g__law_alike T.F__law_alike.kp T.b__law_alike pass0 (ma_cons (me_lst (ma_cons (me_call gd (ok_compared (P := P) (K := K) (base := base) T hT) (hr.mono (by decide)) rfl T.g_compared T.F_compared.kp T.b_compared pass0 (ma_cons (me_var 3) (ma_cons (me_var 4) ma_nil)) (many_cons (many_cons many_nil))) (ma_cons (me_call gd (ok_compared (P := P) (K := K) (base := base) T hT) (hr.mono (by decide)) rfl T.g_compared T.F_compared.kp T.b_compared pass0 (ma_cons (me_var 4) (ma_cons (me_var 3) ma_nil)) (many_cons (many_cons many_nil))) ma_nil))) (ma_cons (me_var 17) ma_nil)) (many_cons (many_cons many_nil))))) (mss_one (ms_ret me_bl)) mss_nil)
    (mss_cons (ms_asg (me_if (mt_cmp op_le o_cmp (me_call gd (ok__law_order (P := P) (K := K) (base := base) T hT) (hr.mono (by decide)) rfl T.g__law_order T.F__law_order.kp T.b__law_order pass0 (ma_cons (me_var 3) (ma_cons (me_var 4) ma_nil)) (many_cons (many_cons many_nil))) me_int (nomark _)) (me_tup (ma_cons (me_var 3) (ma_cons (me_var 4) ma_nil))) (me_tup (ma_cons (me_var 4) (ma_cons (me_var 3) ma_nil)))) (mg_tup rfl (mgs_cons (mg_name (i := 9) sc_law.nd rfl (by first | exact .inl rfl | exact .inr rfl)) (mgs_cons (mg_name (i := 10) sc_law.nd rfl (by first | exact .inl rfl | exact .inr rfl)) mgs_nil))))
    (mss_cons (ms_if (mt_not (mt_val (me_call gd (ok__law_alike (P := P) (K := K) (base := base) T hT) (hr.mono (by decide)) rfl T.g__law_alike T.F__law_alike.kp T.b__law_alike pass0 (ma_cons (me_call gd (ok_around (P := P) (K := K) (base := base) T hT) (hr.mono (by decide)) rfl T.g_around T.F_around.kp T.b_around pass0 (ma_cons (me_var 9) (ma_cons (me_var 10) (ma_cons (me_var 5) ma_nil))) (many_cons (many_cons (many_cons many_nil)))) (ma_cons (me_call gd (ok__law_around (P := P) (K := K) (base := base) T hT) (hr.mono (by decide)) rfl T.g__law_around T.F__law_around.kp T.b__law_around pass0 (ma_cons (me_var 9) (ma_cons (me_var 10) (ma_cons (me_var 5) ma_nil))) (many_cons (many_cons (many_cons many_nil)))) ma_nil)) (many_cons (many_cons many_nil))))) (mss_one (ms_ret me_bl)) mss_nil)
    (mss_cons (ms_set (i := 19) sc_law.nd rfl (by first | exact .inl rfl | exact .inr rfl) (me_ix or_ix o_ix (me_call gd (ok__law_far (P := P) (K := K) (base := base) T hT) (hr.mono (by decide)) rfl T.g__law_far T.F__law_far.kp T.b__law_far pass0 (ma_cons (me_var 1) (ma_cons (me_lst (ma_cons (me_call gd (ok__law_enclosure (P := P) (K := K) (base := base) T hT) (hr.mono (by decide)) rfl T.g__law_enclosure T.F__law_enclosure.kp T.b__law_enclosure pass0 (ma_cons (me_var 1) ma_nil) (many_cons many_nil)) ma_nil)) ma_nil)) (many_cons (many_cons many_nil))) me_int))
    (mss_cons (ms_for PassesOwn.never rfl (mi_seq (me_tup (ma_cons me_int (ma_cons me_int (ma_cons (me_ix or_ix o_ix (me_var 19) me_int) (ma_cons (me_ix or_ix o_ix (me_var 19) me_int) (ma_cons (me_op op_pow o_pow me_int me_int) ma_nil))))))) (mg_name (i := 20) sc_law.nd rfl (by first | exact .inl rfl | exact .inr rfl)) (mss_cons (ms_set (i := 17) sc_law.nd rfl (by first | exact .inl rfl | exact .inr rfl) (me_chain op_le o_cmp op_le o_cmp (me_call gd (ok__law_order (P := P) (K := K) (base := base) T hT) (hr.mono (by decide)) rfl T.g__law_order T.F__law_order.kp T.b__law_order pass0 (ma_cons (me_lst (ma_cons (me_tup (ma_cons (me_ix or_ix o_ix (me_var 19) me_int) (ma_cons (me_ix or_ix o_ix (me_var 19) me_int) ma_nil))) ma_nil)) (ma_cons (me_lst (ma_cons (me_tup (ma_cons (me_var 20) (ma_cons me_int ma_nil))) ma_nil)) ma_nil)) (many_cons (many_cons many_nil))) me_int (me_call gd (ok__law_order (P := P) (K := K) (base := base) T hT) (hr.mono (by decide)) rfl T.g__law_order T.F__law_order.kp T.b__law_order pass0 (ma_cons (me_lst (ma_cons (me_tup (ma_cons (me_ix or_ix o_ix (me_var 19) me_int) (ma_cons (me_ix or_ix o_ix (me_var 19) me_int) ma_nil))) ma_nil)) (ma_cons (me_lst (ma_cons (me_tup (ma_cons (me_var 20) (ma_cons me_int ma_nil))) ma_nil)) ma_nil)) (many_cons (many_cons many_nil)))))
    (mss_one (ms_if (mt_not (mt_val (me_call gd (ok__law_alike (P := P) (K := K) (base := base) T hT) (hr.mono (by decide)) rfl T.g__law_alike T.F__law_alike.kp T.b__law_alike pass0 (ma_cons (me_call gd (ok_holds (P := P) (K := K) (base := base) T hT) (hr.mono (by decide)) rfl T.g_holds T.F_holds.kp T.b_holds pass0 (ma_cons (me_var 19) (ma_cons (me_var 20) ma_nil)) (many_cons (many_cons many_nil))) (ma_cons (me_var 17) ma_nil)) (many_cons (many_cons many_nil))))) (mss_one (ms_ret me_bl)) mss_nil))))
    (mss_cons (ms_set (i := 19) sc_law.nd rfl (by first | exact .inl rfl | exact .inr rfl) (me_call gd (ok__law_enclosure (P := P) (K := K) (base := base) T hT) (hr.mono (by decide)) rfl T.g__law_enclosure T.F__law_enclosure.kp T.b__law_enclosure pass0 (ma_cons (me_var 1) ma_nil) (many_cons many_nil)))
    (mss_cons (ms_set (i := 21) sc_law.nd rfl (by first | exact .inl rfl | exact .inr rfl) (me_call gd (ok__law_two (P := P) (K := K) (base := base) T hT) (hr.mono (by decide)) rfl T.g__law_two T.F__law_two.kp T.b__law_two pass0 (ma_cons (me_ix or_ix o_ix (me_var 19) me_int) ma_nil) (many_cons many_nil)))
    (mss_cons (ms_set (i := 22) sc_law.nd rfl (by first | exact .inl rfl | exact .inr rfl) (me_lst (ma_cons (me_op or_mulS o_mulS (me_ix or_ix o_ix (me_var 19) me_int) (me_var 21)) (ma_cons (me_op or_mulS o_mulS (me_ix or_ix o_ix (me_var 19) me_int) (me_var 21)) (ma_cons (me_op or_add o_add (me_op or_mulS o_mulS (me_ix or_ix o_ix (me_var 19) me_int) (me_var 21)) me_int) (ma_cons (me_op or_add o_add (me_op or_mulS o_mulS (me_ix or_ix o_ix (me_var 19) me_int) (me_var 21)) me_int) ma_nil))))))
    (mss_one (ms_for PassesOwn.never rfl (mi_seq (me_op or_add o_add (me_var 22) (me_lst (ma_cons (me_callB (call_max2 rfl) c_max2 rfl T.n_max bb_max (ma_cons me_int (ma_cons (me_op op_sub o_sub (me_ix or_ix o_ix (me_var 22) me_int) me_int) ma_nil))) (ma_cons me_int ma_nil))))) (mg_name (i := 20) sc_law.nd rfl (by first | exact .inl rfl | exact .inr rfl)) (mss_one (ms_if (mt_not (mt_val (me_call gd (ok__law_alike (P := P) (K := K) (base := base) T hT) (hr.mono (by decide)) rfl T.g__law_alike T.F__law_alike.kp T.b__law_alike pass0 (ma_cons (me_call gd (ok_holds (P := P) (K := K) (base := base) T hT) (hr.mono (by decide)) rfl T.g_holds T.F_holds.kp T.b_holds pass0 (ma_cons (me_var 19) (ma_cons (me_var 20) ma_nil)) (many_cons (many_cons many_nil))) (ma_cons (me_call gd (ok__law_does_hold (P := P) (K := K) (base := base) T hT) (hr.mono (by decide)) rfl T.g__law_does_hold T.F__law_does_hold.kp T.b__law_does_hold pass0 (ma_cons (me_var 19) (ma_cons (me_var 20) ma_nil)) (many_cons (many_cons many_nil))) ma_nil)) (many_cons (many_cons many_nil))))) (mss_one (ms_ret me_bl)) mss_nil)))))))))))))))))))))))))))))))))
    (mss_one (ms_ret me_bl))))
theorem all_mk {l : PySem.W.OpenLaw} {w : World} {K : PySem.W.Frag} {h : Heap} {mg : Str → Option Value} {fa : Addr} (X : K.In h) (G : h.Ns mainGlobals mg) (hfa : mg "law" = some (.ref fa)) (M3 : Made mg h "compared")
    {f0 : Addr} {od0 an0 : Option Addr} {sl0 : Array (Option Value)} {oc0 kV0 dc0 pm0 ct0 : Value} {cd0 : Value}
    {f1 : Addr} {od1 an1 : Option Addr} {sl1 : Array (Option Value)} {oc1 kV1 dc1 pm1 ct1 : Value} {cd1 : Value}
    {f2 : Addr} {od2 an2 : Option Addr} {sl2 : Array (Option Value)} {oc2 kV2 dc2 pm2 ct2 : Value} {cd2 : Value}
    {f3 : Addr} {od3 an3 : Option Addr} {sl3 : Array (Option Value)} {oc3 kV3 dc3 pm3 ct3 : Value}
    {C3 P3 : Addr} {xo3 : Value} {xd3 : Option Addr} {xv3 : Array Value} {xs3 : Array (Option Value)}
    {f4 : Addr} {od4 an4 : Option Addr} {sl4 : Array (Option Value)} {oc4 kV4 dc4 pm4 ct4 : Value} {cd4 : Value}
    {f5 : Addr} {od5 an5 : Option Addr} {sl5 : Array (Option Value)} {oc5 kV5 dc5 pm5 ct5 : Value} {cd5 : Value}
    {f6 : Addr} {od6 an6 : Option Addr} {sl6 : Array (Option Value)} {oc6 kV6 dc6 pm6 ct6 : Value} {cd6 : Value}
    {f7 : Addr} {od7 an7 : Option Addr} {sl7 : Array (Option Value)} {oc7 kV7 dc7 pm7 ct7 : Value} {cd7 : Value}
    {f8 : Addr} {od8 an8 : Option Addr} {sl8 : Array (Option Value)} {oc8 kV8 dc8 pm8 ct8 : Value} {cd8 : Value}
    {f9 : Addr} {od9 an9 : Option Addr} {sl9 : Array (Option Value)} {oc9 kV9 dc9 pm9 ct9 : Value} {cd9 : Value}
    {f10 : Addr} {od10 an10 : Option Addr} {sl10 : Array (Option Value)} {oc10 kV10 dc10 pm10 ct10 : Value} {cd10 : Value}
    {f11 : Addr} {od11 an11 : Option Addr} {sl11 : Array (Option Value)} {oc11 kV11 dc11 pm11 ct11 : Value} {cd11 : Value}
    {f12 : Addr} {od12 an12 : Option Addr} {sl12 : Array (Option Value)} {oc12 kV12 dc12 pm12 ct12 : Value} {cd12 : Value}
    {f13 : Addr} {od13 an13 : Option Addr} {sl13 : Array (Option Value)} {oc13 kV13 dc13 pm13 ct13 : Value} {cd13 : Value}
    {f14 : Addr} {od14 an14 : Option Addr} {sl14 : Array (Option Value)} {oc14 kV14 dc14 pm14 ct14 : Value} {cd14 : Value}
    {f15 : Addr} {od15 an15 : Option Addr} {sl15 : Array (Option Value)} {oc15 kV15 dc15 pm15 ct15 : Value} {cd15 : Value}
    {f16 : Addr} {od16 an16 : Option Addr} {sl16 : Array (Option Value)} {oc16 kV16 dc16 pm16 ct16 : Value} {cd16 : Value}
    {f17 : Addr} {od17 an17 : Option Addr} {sl17 : Array (Option Value)} {oc17 kV17 dc17 pm17 ct17 : Value} {cd17 : Value}
    {f18 : Addr} {od18 an18 : Option Addr} {sl18 : Array (Option Value)} {oc18 kV18 dc18 pm18 ct18 : Value} {cd18 : Value}
    {f19 : Addr} {od19 an19 : Option Addr} {sl19 : Array (Option Value)} {oc19 kV19 dc19 pm19 ct19 : Value} {cd19 : Value}
    {f20 : Addr} {od20 an20 : Option Addr} {sl20 : Array (Option Value)} {oc20 kV20 dc20 pm20 ct20 : Value} {cd20 : Value}
    {f21 : Addr} {od21 an21 : Option Addr} {sl21 : Array (Option Value)} {oc21 kV21 dc21 pm21 ct21 : Value} {cd21 : Value}
    {f22 : Addr} {od22 an22 : Option Addr} {sl22 : Array (Option Value)} {oc22 kV22 dc22 pm22 ct22 : Value} {cd22 : Value}
    {f23 : Addr} {od23 an23 : Option Addr} {sl23 : Array (Option Value)} {oc23 kV23 dc23 pm23 ct23 : Value} {cd23 : Value}
    {f24 : Addr} {od24 an24 : Option Addr} {sl24 : Array (Option Value)} {oc24 kV24 dc24 pm24 ct24 : Value} {cd24 : Value}
    {f25 : Addr} {od25 an25 : Option Addr} {sl25 : Array (Option Value)} {oc25 kV25 dc25 pm25 ct25 : Value} {cd25 : Value}
    {f26 : Addr} {od26 an26 : Option Addr} {sl26 : Array (Option Value)} {oc26 kV26 dc26 pm26 ct26 : Value} {cd26 : Value}
    {f27 : Addr} {od27 an27 : Option Addr} {sl27 : Array (Option Value)} {oc27 kV27 dc27 pm27 ct27 : Value} {cd27 : Value}
    {f28 : Addr} {od28 an28 : Option Addr} {sl28 : Array (Option Value)} {oc28 kV28 dc28 pm28 ct28 : Value} {cd28 : Value}
    {f29 : Addr} {od29 an29 : Option Addr} {sl29 : Array (Option Value)} {oc29 kV29 dc29 pm29 ct29 : Value} {cd29 : Value}
    {f30 : Addr} {od30 an30 : Option Addr} {sl30 : Array (Option Value)} {oc30 kV30 dc30 pm30 ct30 : Value} {cd30 : Value}
    {f31 : Addr} {od31 an31 : Option Addr} {sl31 : Array (Option Value)} {oc31 kV31 dc31 pm31 ct31 : Value} {cd31 : Value}
    {f32 : Addr} {od32 an32 : Option Addr} {sl32 : Array (Option Value)} {oc32 kV32 dc32 pm32 ct32 : Value} {cd32 : Value}
    {u0 : Tok}
    (a0 : PySem.W.nsIn K mainGlobals "two_to" = some (some (.ref f0)))
    (l0 : K.lookup f0 = some ⟨oc0, od0, .func (PySem.W.fnOf "two_to" "two_to" (defArgs s_two_to) (defBody s_two_to) (defScope s_two_to) .none kV0 dc0 pm0 an0 cd0 ct0), sl0⟩)
    (c0 : PySem.W.codeIn K cd0 "two_to" = true) (k0 : PySem.W.keepIn K (.ref f0) = true)
    (a1 : PySem.W.nsIn K mainGlobals "bits_of" = some (some (.ref f1)))
    (l1 : K.lookup f1 = some ⟨oc1, od1, .func (PySem.W.fnOf "bits_of" "bits_of" (defArgs s_bits_of) (defBody s_bits_of) (defScope s_bits_of) .none kV1 dc1 pm1 an1 cd1 ct1), sl1⟩)
    (c1 : PySem.W.codeIn K cd1 "bits_of" = true) (k1 : PySem.W.keepIn K (.ref f1) = true)
    (a2 : PySem.W.nsIn K mainGlobals "descending" = some (some (.ref f2)))
    (l2 : K.lookup f2 = some ⟨oc2, od2, .func (PySem.W.fnOf "descending" "descending" (defArgs s_descending) (defBody s_descending) (defScope s_descending) .none kV2 dc2 pm2 an2 cd2 ct2), sl2⟩)
    (c2 : PySem.W.codeIn K cd2 "descending" = true) (k2 : PySem.W.keepIn K (.ref f2) = true)
    (a3 : PySem.W.nsIn K mainGlobals "compared" = some (some (.ref f3)))
    (l3 : K.lookup f3 = some ⟨oc3, od3, .func (PySem.W.fnOf "compared" "compared" (defArgs s_compared) (defBody s_compared) (defScope s_compared) .none kV3 dc3 pm3 an3 (.ref C3) ct3), sl3⟩)
    (c3 : PySem.W.codeIn K (.ref C3) "compared" = true) (k3 : PySem.W.keepIn K (.ref f3) = true)
    (q3 : K.lookup C3 = some ⟨xo3, xd3, .fields xv3, xs3⟩) (r3 : xv3[11]? = some (.ref P3)) (n3 : K.lookup P3 = none)
    (a4 : PySem.W.nsIn K mainGlobals "below" = some (some (.ref f4)))
    (l4 : K.lookup f4 = some ⟨oc4, od4, .func (PySem.W.fnOf "below" "below" (defArgs s_below) (defBody s_below) (defScope s_below) .none kV4 dc4 pm4 an4 cd4 ct4), sl4⟩)
    (c4 : PySem.W.codeIn K cd4 "below" = true) (k4 : PySem.W.keepIn K (.ref f4) = true)
    (a5 : PySem.W.nsIn K mainGlobals "above" = some (some (.ref f5)))
    (l5 : K.lookup f5 = some ⟨oc5, od5, .func (PySem.W.fnOf "above" "above" (defArgs s_above) (defBody s_above) (defScope s_above) .none kV5 dc5 pm5 an5 cd5 ct5), sl5⟩)
    (c5 : PySem.W.codeIn K cd5 "above" = true) (k5 : PySem.W.keepIn K (.ref f5) = true)
    (a6 : PySem.W.nsIn K mainGlobals "around" = some (some (.ref f6)))
    (l6 : K.lookup f6 = some ⟨oc6, od6, .func (PySem.W.fnOf "around" "around" (defArgs s_around) (defBody s_around) (defScope s_around) .none kV6 dc6 pm6 an6 cd6 ct6), sl6⟩)
    (c6 : PySem.W.codeIn K cd6 "around" = true) (k6 : PySem.W.keepIn K (.ref f6) = true)
    (a7 : PySem.W.nsIn K mainGlobals "exact_one" = some (some (.ref f7)))
    (l7 : K.lookup f7 = some ⟨oc7, od7, .func (PySem.W.fnOf "exact_one" "exact_one" (defArgs s_exact_one) (defBody s_exact_one) (defScope s_exact_one) .none kV7 dc7 pm7 an7 cd7 ct7), sl7⟩)
    (c7 : PySem.W.codeIn K cd7 "exact_one" = true) (k7 : PySem.W.keepIn K (.ref f7) = true)
    (a8 : PySem.W.nsIn K mainGlobals "lows_of" = some (some (.ref f8)))
    (l8 : K.lookup f8 = some ⟨oc8, od8, .func (PySem.W.fnOf "lows_of" "lows_of" (defArgs s_lows_of) (defBody s_lows_of) (defScope s_lows_of) .none kV8 dc8 pm8 an8 cd8 ct8), sl8⟩)
    (c8 : PySem.W.codeIn K cd8 "lows_of" = true) (k8 : PySem.W.keepIn K (.ref f8) = true)
    (a9 : PySem.W.nsIn K mainGlobals "highs_of" = some (some (.ref f9)))
    (l9 : K.lookup f9 = some ⟨oc9, od9, .func (PySem.W.fnOf "highs_of" "highs_of" (defArgs s_highs_of) (defBody s_highs_of) (defScope s_highs_of) .none kV9 dc9 pm9 an9 cd9 ct9), sl9⟩)
    (c9 : PySem.W.codeIn K cd9 "highs_of" = true) (k9 : PySem.W.keepIn K (.ref f9) = true)
    (a10 : PySem.W.nsIn K mainGlobals "sum_of" = some (some (.ref f10)))
    (l10 : K.lookup f10 = some ⟨oc10, od10, .func (PySem.W.fnOf "sum_of" "sum_of" (defArgs s_sum_of) (defBody s_sum_of) (defScope s_sum_of) .none kV10 dc10 pm10 an10 cd10 ct10), sl10⟩)
    (c10 : PySem.W.codeIn K cd10 "sum_of" = true) (k10 : PySem.W.keepIn K (.ref f10) = true)
    (a11 : PySem.W.nsIn K mainGlobals "product_of" = some (some (.ref f11)))
    (l11 : K.lookup f11 = some ⟨oc11, od11, .func (PySem.W.fnOf "product_of" "product_of" (defArgs s_product_of) (defBody s_product_of) (defScope s_product_of) .none kV11 dc11 pm11 an11 cd11 ct11), sl11⟩)
    (c11 : PySem.W.codeIn K cd11 "product_of" = true) (k11 : PySem.W.keepIn K (.ref f11) = true)
    (a12 : PySem.W.nsIn K mainGlobals "trimmed" = some (some (.ref f12)))
    (l12 : K.lookup f12 = some ⟨oc12, od12, .func (PySem.W.fnOf "trimmed" "trimmed" (defArgs s_trimmed) (defBody s_trimmed) (defScope s_trimmed) .none kV12 dc12 pm12 an12 cd12 ct12), sl12⟩)
    (c12 : PySem.W.codeIn K cd12 "trimmed" = true) (k12 : PySem.W.keepIn K (.ref f12) = true)
    (a13 : PySem.W.nsIn K mainGlobals "holds" = some (some (.ref f13)))
    (l13 : K.lookup f13 = some ⟨oc13, od13, .func (PySem.W.fnOf "holds" "holds" (defArgs s_holds) (defBody s_holds) (defScope s_holds) .none kV13 dc13 pm13 an13 cd13 ct13), sl13⟩)
    (c13 : PySem.W.codeIn K cd13 "holds" = true) (k13 : PySem.W.keepIn K (.ref f13) = true)
    (a14 : PySem.W.nsIn K mainGlobals "lies_in" = some (some (.ref f14)))
    (l14 : K.lookup f14 = some ⟨oc14, od14, .func (PySem.W.fnOf "lies_in" "lies_in" (defArgs s_lies_in) (defBody s_lies_in) (defScope s_lies_in) .none kV14 dc14 pm14 an14 cd14 ct14), sl14⟩)
    (c14 : PySem.W.codeIn K cd14 "lies_in" = true) (k14 : PySem.W.keepIn K (.ref f14) = true)
    (a15 : PySem.W.nsIn K mainGlobals "_law_bag" = some (some (.ref f15)))
    (l15 : K.lookup f15 = some ⟨oc15, od15, .func (PySem.W.fnOf "_law_bag" "_law_bag" (defArgs s__law_bag) (defBody s__law_bag) (defScope s__law_bag) .none kV15 dc15 pm15 an15 cd15 ct15), sl15⟩)
    (c15 : PySem.W.codeIn K cd15 "_law_bag" = true) (k15 : PySem.W.keepIn K (.ref f15) = true)
    (a16 : PySem.W.nsIn K mainGlobals "_law_take" = some (some (.ref f16)))
    (l16 : K.lookup f16 = some ⟨oc16, od16, .func (PySem.W.fnOf "_law_take" "_law_take" (defArgs s__law_take) (defBody s__law_take) (defScope s__law_take) .none kV16 dc16 pm16 an16 cd16 ct16), sl16⟩)
    (c16 : PySem.W.codeIn K cd16 "_law_take" = true) (k16 : PySem.W.keepIn K (.ref f16) = true)
    (a17 : PySem.W.nsIn K mainGlobals "_law_some" = some (some (.ref f17)))
    (l17 : K.lookup f17 = some ⟨oc17, od17, .func (PySem.W.fnOf "_law_some" "_law_some" (defArgs s__law_some) (defBody s__law_some) (defScope s__law_some) .none kV17 dc17 pm17 an17 cd17 ct17), sl17⟩)
    (c17 : PySem.W.codeIn K cd17 "_law_some" = true) (k17 : PySem.W.keepIn K (.ref f17) = true)
    (a18 : PySem.W.nsIn K mainGlobals "_law_pile" = some (some (.ref f18)))
    (l18 : K.lookup f18 = some ⟨oc18, od18, .func (PySem.W.fnOf "_law_pile" "_law_pile" (defArgs s__law_pile) (defBody s__law_pile) (defScope s__law_pile) .none kV18 dc18 pm18 an18 cd18 ct18), sl18⟩)
    (c18 : PySem.W.codeIn K cd18 "_law_pile" = true) (k18 : PySem.W.keepIn K (.ref f18) = true)
    (a19 : PySem.W.nsIn K mainGlobals "_law_far" = some (some (.ref f19)))
    (l19 : K.lookup f19 = some ⟨oc19, od19, .func (PySem.W.fnOf "_law_far" "_law_far" (defArgs s__law_far) (defBody s__law_far) (defScope s__law_far) .none kV19 dc19 pm19 an19 cd19 ct19), sl19⟩)
    (c19 : PySem.W.codeIn K cd19 "_law_far" = true) (k19 : PySem.W.keepIn K (.ref f19) = true)
    (a20 : PySem.W.nsIn K mainGlobals "_law_mixed" = some (some (.ref f20)))
    (l20 : K.lookup f20 = some ⟨oc20, od20, .func (PySem.W.fnOf "_law_mixed" "_law_mixed" (defArgs s__law_mixed) (defBody s__law_mixed) (defScope s__law_mixed) .none kV20 dc20 pm20 an20 cd20 ct20), sl20⟩)
    (c20 : PySem.W.codeIn K cd20 "_law_mixed" = true) (k20 : PySem.W.keepIn K (.ref f20) = true)
    (a21 : PySem.W.nsIn K mainGlobals "_law_alike" = some (some (.ref f21)))
    (l21 : K.lookup f21 = some ⟨oc21, od21, .func (PySem.W.fnOf "_law_alike" "_law_alike" (defArgs s__law_alike) (defBody s__law_alike) (defScope s__law_alike) .none kV21 dc21 pm21 an21 cd21 ct21), sl21⟩)
    (c21 : PySem.W.codeIn K cd21 "_law_alike" = true) (k21 : PySem.W.keepIn K (.ref f21) = true)
    (a22 : PySem.W.nsIn K mainGlobals "_law_two" = some (some (.ref f22)))
    (l22 : K.lookup f22 = some ⟨oc22, od22, .func (PySem.W.fnOf "_law_two" "_law_two" (defArgs s__law_two) (defBody s__law_two) (defScope s__law_two) .none kV22 dc22 pm22 an22 cd22 ct22), sl22⟩)
    (c22 : PySem.W.codeIn K cd22 "_law_two" = true) (k22 : PySem.W.keepIn K (.ref f22) = true)
    (a23 : PySem.W.nsIn K mainGlobals "_law_order" = some (some (.ref f23)))
    (l23 : K.lookup f23 = some ⟨oc23, od23, .func (PySem.W.fnOf "_law_order" "_law_order" (defArgs s__law_order) (defBody s__law_order) (defScope s__law_order) .none kV23 dc23 pm23 an23 cd23 ct23), sl23⟩)
    (c23 : PySem.W.codeIn K cd23 "_law_order" = true) (k23 : PySem.W.keepIn K (.ref f23) = true)
    (a24 : PySem.W.nsIn K mainGlobals "_law_long" = some (some (.ref f24)))
    (l24 : K.lookup f24 = some ⟨oc24, od24, .func (PySem.W.fnOf "_law_long" "_law_long" (defArgs s__law_long) (defBody s__law_long) (defScope s__law_long) .none kV24 dc24 pm24 an24 cd24 ct24), sl24⟩)
    (c24 : PySem.W.codeIn K cd24 "_law_long" = true) (k24 : PySem.W.keepIn K (.ref f24) = true)
    (a25 : PySem.W.nsIn K mainGlobals "_law_top" = some (some (.ref f25)))
    (l25 : K.lookup f25 = some ⟨oc25, od25, .func (PySem.W.fnOf "_law_top" "_law_top" (defArgs s__law_top) (defBody s__law_top) (defScope s__law_top) .none kV25 dc25 pm25 an25 cd25 ct25), sl25⟩)
    (c25 : PySem.W.codeIn K cd25 "_law_top" = true) (k25 : PySem.W.keepIn K (.ref f25) = true)
    (a26 : PySem.W.nsIn K mainGlobals "_law_by_two" = some (some (.ref f26)))
    (l26 : K.lookup f26 = some ⟨oc26, od26, .func (PySem.W.fnOf "_law_by_two" "_law_by_two" (defArgs s__law_by_two) (defBody s__law_by_two) (defScope s__law_by_two) .none kV26 dc26 pm26 an26 cd26 ct26), sl26⟩)
    (c26 : PySem.W.codeIn K cd26 "_law_by_two" = true) (k26 : PySem.W.keepIn K (.ref f26) = true)
    (a27 : PySem.W.nsIn K mainGlobals "_law_around" = some (some (.ref f27)))
    (l27 : K.lookup f27 = some ⟨oc27, od27, .func (PySem.W.fnOf "_law_around" "_law_around" (defArgs s__law_around) (defBody s__law_around) (defScope s__law_around) .none kV27 dc27 pm27 an27 cd27 ct27), sl27⟩)
    (c27 : PySem.W.codeIn K cd27 "_law_around" = true) (k27 : PySem.W.keepIn K (.ref f27) = true)
    (a28 : PySem.W.nsIn K mainGlobals "_law_enclosure" = some (some (.ref f28)))
    (l28 : K.lookup f28 = some ⟨oc28, od28, .func (PySem.W.fnOf "_law_enclosure" "_law_enclosure" (defArgs s__law_enclosure) (defBody s__law_enclosure) (defScope s__law_enclosure) .none kV28 dc28 pm28 an28 cd28 ct28), sl28⟩)
    (c28 : PySem.W.codeIn K cd28 "_law_enclosure" = true) (k28 : PySem.W.keepIn K (.ref f28) = true)
    (a29 : PySem.W.nsIn K mainGlobals "_law_is_within" = some (some (.ref f29)))
    (l29 : K.lookup f29 = some ⟨oc29, od29, .func (PySem.W.fnOf "_law_is_within" "_law_is_within" (defArgs s__law_is_within) (defBody s__law_is_within) (defScope s__law_is_within) .none kV29 dc29 pm29 an29 cd29 ct29), sl29⟩)
    (c29 : PySem.W.codeIn K cd29 "_law_is_within" = true) (k29 : PySem.W.keepIn K (.ref f29) = true)
    (a30 : PySem.W.nsIn K mainGlobals "_law_dusty" = some (some (.ref f30)))
    (l30 : K.lookup f30 = some ⟨oc30, od30, .func (PySem.W.fnOf "_law_dusty" "_law_dusty" (defArgs s__law_dusty) (defBody s__law_dusty) (defScope s__law_dusty) .none kV30 dc30 pm30 an30 cd30 ct30), sl30⟩)
    (c30 : PySem.W.codeIn K cd30 "_law_dusty" = true) (k30 : PySem.W.keepIn K (.ref f30) = true)
    (a31 : PySem.W.nsIn K mainGlobals "_law_does_hold" = some (some (.ref f31)))
    (l31 : K.lookup f31 = some ⟨oc31, od31, .func (PySem.W.fnOf "_law_does_hold" "_law_does_hold" (defArgs s__law_does_hold) (defBody s__law_does_hold) (defScope s__law_does_hold) .none kV31 dc31 pm31 an31 cd31 ct31), sl31⟩)
    (c31 : PySem.W.codeIn K cd31 "_law_does_hold" = true) (k31 : PySem.W.keepIn K (.ref f31) = true)
    (a32 : PySem.W.nsIn K mainGlobals "law" = some (some (.ref f32)))
    (l32 : K.lookup f32 = some ⟨oc32, od32, .func (PySem.W.fnOf "law" "law" (defArgs s_law) (defBody s_law) (defScope s_law) .none kV32 dc32 pm32 an32 cd32 ct32), sl32⟩)
    (c32 : PySem.W.codeIn K cd32 "law" = true) (k32 : PySem.W.keepIn K (.ref f32) = true)
    (v0 : PySem.W.nsIn K mainGlobals "LIMB" = some (some (.int 18446744073709551616 u0)))
    (z0 : PySem.W.nsIn K mainGlobals "abs" = some none)
    (z1 : PySem.W.nsIn K mainGlobals "int" = some none)
    (z2 : PySem.W.nsIn K mainGlobals "len" = some none)
    (z3 : PySem.W.nsIn K mainGlobals "max" = some none)
    (z4 : PySem.W.nsIn K mainGlobals "min" = some none)
    (z5 : PySem.W.nsIn K mainGlobals "range" = some none)
    (z6 : PySem.W.nsIn K mainGlobals "repr" = some none)
    (z7 : PySem.W.nsIn K mainGlobals "sorted" = some none)
    (z8 : PySem.W.nsIn K mainGlobals "sum" = some none)
    (z9 : PySem.W.nsIn K mainGlobals "tuple" = some none)
    (nd : ([P3] : List Addr).Nodup) :
    ∃ (fd : FuncData) (cs : List (Addr × Addr)) (T : List NdefX.NTab), (∀ p ∈ T, ∃ c, (c, p.1) ∈ cs) ∧ (∀ p ∈ cs, Maker K h p) ∧ (∀ (s : Shared) (v : Value), BindsTo s fd ⟨[v], []⟩ [("_law_script", v)]) ∧ ∀ base : Heap, K.In base → base.Ns mainGlobals mg → (∀ p ∈ cs, LamX.TabB base mg p.1 p.2) → FnG l.prog w K mg base CX0 8 fa fd ["_law_script"] (spM ⟨⟨K, w⟩, T, []⟩ 1 F_law) := by
  have e := hfa.symm.trans (PySem.W.mg_of X G a32)
  cases e
  refine ⟨(PySem.W.fnOf "law" "law" (defArgs s_law) (defBody s_law) (defScope s_law) .none kV32 dc32 pm32 an32 cd32 ct32), [(C3, P3)], [(P3, (fun (_ _ : Nat) => ("compared.<locals>.<lambda>" : Str)))], fun p hp => ?_, fun p hp => ?_, fun s v => .of_eq rfl, fun base _ _ tb => ?_⟩
  · rcases List.mem_cons.mp hp with rfl | hp
    · exact ⟨C3, (.head _)⟩
    cases hp
  · rcases List.mem_cons.mp hp with rfl | hp
    · exact made_is X M3 (PySem.W.mg_of X G a3) l3 rfl rfl q3 rfl r3 n3
    cases hp
  · let T : Txt K mg base := {
      nd := nd,
      f_two_to := f0, d_two_to := _, F_two_to := fun_mk (st := s_two_to) l0 c0 k0, g_two_to := PySem.W.mg_of X G a0,
      b_two_to := (fun_mk (st := s_two_to) l0 c0 k0).binds (ps := ["e"]) fun _ _ _ _ _ _ us hl => match us, hl with | [_], _ => rfl,
      f_bits_of := f1, d_bits_of := _, F_bits_of := fun_mk (st := s_bits_of) l1 c1 k1, g_bits_of := PySem.W.mg_of X G a1,
      b_bits_of := (fun_mk (st := s_bits_of) l1 c1 k1).binds (ps := ["x"]) fun _ _ _ _ _ _ us hl => match us, hl with | [_], _ => rfl,
      f_descending := f2, d_descending := _, F_descending := fun_mk (st := s_descending) l2 c2 k2, g_descending := PySem.W.mg_of X G a2,
      b_descending := (fun_mk (st := s_descending) l2 c2 k2).binds (ps := ["pile"]) fun _ _ _ _ _ _ us hl => match us, hl with | [_], _ => rfl,
      f_compared := f3, d_compared := _, F_compared := fun_mk (st := s_compared) l3 c3 k3, g_compared := PySem.W.mg_of X G a3,
      b_compared := (fun_mk (st := s_compared) l3 c3 k3).binds (ps := ["one", "other"]) fun _ _ _ _ _ _ us hl => match us, hl with | [_, _], _ => rfl,
      c_compared := C3, P_compared := P3, co_compared := rfl, tb_compared := tb (C3, P3) (.head _),
      f_below := f4, d_below := _, F_below := fun_mk (st := s_below) l4 c4 k4, g_below := PySem.W.mg_of X G a4,
      b_below := (fun_mk (st := s_below) l4 c4 k4).binds (ps := ["pile", "e"]) fun _ _ _ _ _ _ us hl => match us, hl with | [_, _], _ => rfl,
      f_above := f5, d_above := _, F_above := fun_mk (st := s_above) l5 c5 k5, g_above := PySem.W.mg_of X G a5,
      b_above := (fun_mk (st := s_above) l5 c5 k5).binds (ps := ["pile", "e"]) fun _ _ _ _ _ _ us hl => match us, hl with | [_, _], _ => rfl,
      f_around := f6, d_around := _, F_around := fun_mk (st := s_around) l6 c6 k6, g_around := PySem.W.mg_of X G a6,
      b_around := (fun_mk (st := s_around) l6 c6 k6).binds (ps := ["lows", "highs", "bits"]) fun _ _ _ _ _ _ us hl => match us, hl with | [_, _, _], _ => rfl,
      f_exact_one := f7, d_exact_one := _, F_exact_one := fun_mk (st := s_exact_one) l7 c7 k7, g_exact_one := PySem.W.mg_of X G a7,
      b_exact_one := (fun_mk (st := s_exact_one) l7 c7 k7).binds (ps := ["x"]) fun _ _ _ _ _ _ us hl => match us, hl with | [_], _ => rfl,
      f_lows_of := f8, d_lows_of := _, F_lows_of := fun_mk (st := s_lows_of) l8 c8 k8, g_lows_of := PySem.W.mg_of X G a8,
      b_lows_of := (fun_mk (st := s_lows_of) l8 c8 k8).binds (ps := ["enclosures"]) fun _ _ _ _ _ _ us hl => match us, hl with | [_], _ => rfl,
      f_highs_of := f9, d_highs_of := _, F_highs_of := fun_mk (st := s_highs_of) l9 c9 k9, g_highs_of := PySem.W.mg_of X G a9,
      b_highs_of := (fun_mk (st := s_highs_of) l9 c9 k9).binds (ps := ["enclosures"]) fun _ _ _ _ _ _ us hl => match us, hl with | [_], _ => rfl,
      f_sum_of := f10, d_sum_of := _, F_sum_of := fun_mk (st := s_sum_of) l10 c10 k10, g_sum_of := PySem.W.mg_of X G a10,
      b_sum_of := (fun_mk (st := s_sum_of) l10 c10 k10).binds (ps := ["enclosures", "bits"]) fun _ _ _ _ _ _ us hl => match us, hl with | [_, _], _ => rfl,
      f_product_of := f11, d_product_of := _, F_product_of := fun_mk (st := s_product_of) l11 c11 k11, g_product_of := PySem.W.mg_of X G a11,
      b_product_of := (fun_mk (st := s_product_of) l11 c11 k11).binds (ps := ["one", "other"]) fun _ _ _ _ _ _ us hl => match us, hl with | [_, _], _ => rfl,
      f_trimmed := f12, d_trimmed := _, F_trimmed := fun_mk (st := s_trimmed) l12 c12 k12, g_trimmed := PySem.W.mg_of X G a12,
      b_trimmed := (fun_mk (st := s_trimmed) l12 c12 k12).binds (ps := ["enclosure", "bits"]) fun _ _ _ _ _ _ us hl => match us, hl with | [_, _], _ => rfl,
      f_holds := f13, d_holds := _, F_holds := fun_mk (st := s_holds) l13 c13 k13, g_holds := PySem.W.mg_of X G a13,
      b_holds := (fun_mk (st := s_holds) l13 c13 k13).binds (ps := ["enclosure", "x"]) fun _ _ _ _ _ _ us hl => match us, hl with | [_, _], _ => rfl,
      f_lies_in := f14, d_lies_in := _, F_lies_in := fun_mk (st := s_lies_in) l14 c14 k14, g_lies_in := PySem.W.mg_of X G a14,
      b_lies_in := (fun_mk (st := s_lies_in) l14 c14 k14).binds (ps := ["one", "other"]) fun _ _ _ _ _ _ us hl => match us, hl with | [_, _], _ => rfl,
      f__law_bag := f15, d__law_bag := _, F__law_bag := fun_mk (st := s__law_bag) l15 c15 k15, g__law_bag := PySem.W.mg_of X G a15,
      b__law_bag := (fun_mk (st := s__law_bag) l15 c15 k15).binds (ps := ["_law_script"]) fun _ _ _ _ _ _ us hl => match us, hl with | [_], _ => rfl,
      f__law_take := f16, d__law_take := _, F__law_take := fun_mk (st := s__law_take) l16 c16 k16, g__law_take := PySem.W.mg_of X G a16,
      b__law_take := (fun_mk (st := s__law_take) l16 c16 k16).binds (ps := ["_law_bag_here", "_law_many"]) fun _ _ _ _ _ _ us hl => match us, hl with | [_, _], _ => rfl,
      f__law_some := f17, d__law_some := _, F__law_some := fun_mk (st := s__law_some) l17 c17 k17, g__law_some := PySem.W.mg_of X G a17,
      b__law_some := (fun_mk (st := s__law_some) l17 c17 k17).binds (ps := ["_law_bag_here", "_law_things"]) fun _ _ _ _ _ _ us hl => match us, hl with | [_, _], _ => rfl,
      f__law_pile := f18, d__law_pile := _, F__law_pile := fun_mk (st := s__law_pile) l18 c18 k18, g__law_pile := PySem.W.mg_of X G a18,
      b__law_pile := (fun_mk (st := s__law_pile) l18 c18 k18).binds (ps := ["_law_bag_here"]) fun _ _ _ _ _ _ us hl => match us, hl with | [_], _ => rfl,
      f__law_far := f19, d__law_far := _, F__law_far := fun_mk (st := s__law_far) l19 c19 k19, g__law_far := PySem.W.mg_of X G a19,
      b__law_far := (fun_mk (st := s__law_far) l19 c19 k19).binds (ps := ["_law_bag_here", "_law_some_here"]) fun _ _ _ _ _ _ us hl => match us, hl with | [_, _], _ => rfl,
      f__law_mixed := f20, d__law_mixed := _, F__law_mixed := fun_mk (st := s__law_mixed) l20 c20 k20, g__law_mixed := PySem.W.mg_of X G a20,
      b__law_mixed := (fun_mk (st := s__law_mixed) l20 c20 k20).binds (ps := ["_law_bag_here", "_law_things"]) fun _ _ _ _ _ _ us hl => match us, hl with | [_, _], _ => rfl,
      f__law_alike := f21, d__law_alike := _, F__law_alike := fun_mk (st := s__law_alike) l21 c21 k21, g__law_alike := PySem.W.mg_of X G a21,
      b__law_alike := (fun_mk (st := s__law_alike) l21 c21 k21).binds (ps := ["_law_found", "_law_due"]) fun _ _ _ _ _ _ us hl => match us, hl with | [_, _], _ => rfl,
      f__law_two := f22, d__law_two := _, F__law_two := fun_mk (st := s__law_two) l22 c22 k22, g__law_two := PySem.W.mg_of X G a22,
      b__law_two := (fun_mk (st := s__law_two) l22 c22 k22).binds (ps := ["_law_e"]) fun _ _ _ _ _ _ us hl => match us, hl with | [_], _ => rfl,
      f__law_order := f23, d__law_order := _, F__law_order := fun_mk (st := s__law_order) l23 c23 k23, g__law_order := PySem.W.mg_of X G a23,
      b__law_order := (fun_mk (st := s__law_order) l23 c23 k23).binds (ps := ["_law_one", "_law_other"]) fun _ _ _ _ _ _ us hl => match us, hl with | [_, _], _ => rfl,
      f__law_long := f24, d__law_long := _, F__law_long := fun_mk (st := s__law_long) l24 c24 k24, g__law_long := PySem.W.mg_of X G a24,
      b__law_long := (fun_mk (st := s__law_long) l24 c24 k24).binds (ps := ["_law_x"]) fun _ _ _ _ _ _ us hl => match us, hl with | [_], _ => rfl,
      f__law_top := f25, d__law_top := _, F__law_top := fun_mk (st := s__law_top) l25 c25 k25, g__law_top := PySem.W.mg_of X G a25,
      b__law_top := (fun_mk (st := s__law_top) l25 c25 k25).binds (ps := ["_law_pile_here", "_law_bound"]) fun _ _ _ _ _ _ us hl => match us, hl with | [_, _], _ => rfl,
      f__law_by_two := f26, d__law_by_two := _, F__law_by_two := fun_mk (st := s__law_by_two) l26 c26 k26, g__law_by_two := PySem.W.mg_of X G a26,
      b__law_by_two := (fun_mk (st := s__law_by_two) l26 c26 k26).binds (ps := ["_law_pile_here", "_law_e", "_law_is_up"]) fun _ _ _ _ _ _ us hl => match us, hl with | [_, _, _], _ => rfl,
      f__law_around := f27, d__law_around := _, F__law_around := fun_mk (st := s__law_around) l27 c27 k27, g__law_around := PySem.W.mg_of X G a27,
      b__law_around := (fun_mk (st := s__law_around) l27 c27 k27).binds (ps := ["_law_lows", "_law_highs", "_law_bits"]) fun _ _ _ _ _ _ us hl => match us, hl with | [_, _, _], _ => rfl,
      f__law_enclosure := f28, d__law_enclosure := _, F__law_enclosure := fun_mk (st := s__law_enclosure) l28 c28 k28, g__law_enclosure := PySem.W.mg_of X G a28,
      b__law_enclosure := (fun_mk (st := s__law_enclosure) l28 c28 k28).binds (ps := ["_law_bag_here"]) fun _ _ _ _ _ _ us hl => match us, hl with | [_], _ => rfl,
      f__law_is_within := f29, d__law_is_within := _, F__law_is_within := fun_mk (st := s__law_is_within) l29 c29 k29, g__law_is_within := PySem.W.mg_of X G a29,
      b__law_is_within := (fun_mk (st := s__law_is_within) l29 c29 k29).binds (ps := ["_law_one", "_law_other"]) fun _ _ _ _ _ _ us hl => match us, hl with | [_, _], _ => rfl,
      f__law_dusty := f30, d__law_dusty := _, F__law_dusty := fun_mk (st := s__law_dusty) l30 c30 k30, g__law_dusty := PySem.W.mg_of X G a30,
      b__law_dusty := (fun_mk (st := s__law_dusty) l30 c30 k30).binds (ps := ["_law_bag_here"]) fun _ _ _ _ _ _ us hl => match us, hl with | [_], _ => rfl,
      f__law_does_hold := f31, d__law_does_hold := _, F__law_does_hold := fun_mk (st := s__law_does_hold) l31 c31 k31, g__law_does_hold := PySem.W.mg_of X G a31,
      b__law_does_hold := (fun_mk (st := s__law_does_hold) l31 c31 k31).binds (ps := ["_law_enclosure_here", "_law_x"]) fun _ _ _ _ _ _ us hl => match us, hl with | [_, _], _ => rfl,
      f_law := fa, d_law := _, F_law := fun_mk (st := s_law) l32 c32 k32, g_law := hfa,
      b_law := (fun_mk (st := s_law) l32 c32 k32).binds (ps := ["_law_script"]) fun _ _ _ _ _ _ us hl => match us, hl with | [_], _ => rfl,
      t_LIMB := u0, g_LIMB := PySem.W.mg_of X G v0,
      n_abs := PySem.W.mg_none_of X G z0,
      n_int := PySem.W.mg_none_of X G z1,
      n_len := PySem.W.mg_none_of X G z2,
      n_max := PySem.W.mg_none_of X G z3,
      n_min := PySem.W.mg_none_of X G z4,
      n_range := PySem.W.mg_none_of X G z5,
      n_repr := PySem.W.mg_none_of X G z6,
      n_sorted := PySem.W.mg_none_of X G z7,
      n_sum := PySem.W.mg_none_of X G z8,
      n_tuple := PySem.W.mg_none_of X G z9 }
    exact ok_law (K := ⟨⟨K, w⟩, [(P3, (fun (_ _ : Nat) => ("compared.<locals>.<lambda>" : Str)))], []⟩) T rfl
end Law


namespace Law
open PySem PySem.Spec PyProof.Rows L2 MK
local macro_rules | `(tactic| walk_at "mk") => `(tactic| with_reducible first
  | refine wp_ff ?_ | refine wp_tt ?_ | refine wp_nf ?_ | refine wp_nt ?_ | refine wp_ch ?_ | refine wp_slS ?_ | refine wp_irngD ?_ | (refine wp_isiCt (t := ?_) (fun _ => ?e1_) ?e2_ ?_; (case e1_ => with_unfolding_all rfl); (case e2_ => with_unfolding_all rfl)) | (refine wp_isiCf (t := ?_) (fun _ => ?e1_) ?e2_ ?_; (case e1_ => with_unfolding_all rfl); (case e2_ => with_unfolding_all rfl)) | refine wp_slSL ?_ | refine wp_slSF ?_ | refine wp_slST ?_ | refine wp_star ?_ | refine wp_bm ?_ | refine wp_lcN ?_ | refine wp_revL ?_ | refine wp_chk ?_ | refine wp_izip ?_ | refine wp_lenM ?_ | refine wp_lenMT ?_ | refine wp_seq ?_ | refine wp_f2 ?_ | (refine wp_var (d := ?_) ?e_ ?_; (case e_ => with_unfolding_all rfl)) | refine wp_c ?_ | refine wp_seqN ?_ | refine wp_seqR ?_ | refine wp_if ?_ | refine wp_fB ?_ | refine wp_dB ?_
  | refine wp_set ?_ | refine wp_asg ?_ | refine wp_ret ?_ | refine wp_call ?_ | refine wp_cons ?_ | refine wp_nil ?_ | refine wp_next ?_ | refine wp_runR ?_ | refine wp_runN ?_
  | refine wp_par ?_ | refine wp_par3 ?_ | refine wp_aug ?_ | refine wp_augS ?_ | refine wp_f1 ?_ | refine wp_not ?_ | refine wp_and ?_ | refine wp_or ?_ | refine wp_andV ?_ | refine wp_orV ?_ | refine wp_notV ?_
  | refine wp_lst ?_ | refine wp_tup ?_ | refine wp_new ?_ | refine wp_sl ?_ | refine wp_O ?_ | refine wp_frz ?_ | refine wp_drop ?_
  | refine wp_gnm ?_ | refine wp_gsb ?_ | refine wp_gtp rfl ?_ | refine wp_gtpL rfl ?_ | refine wp_gsn ?_ | refine wp_gsc ?_ | refine wp_for ?_ | refine wp_lc ?_ | refine wp_irng1 ?_ | refine wp_irng2 ?_ | refine wp_ienum ?_ | refine wp_iseqL ?_
  | refine wp_turnN ?_ | refine wp_turnC ?_ | refine wp_turnR ?_ | refine wp_turnB ?_
  | refine wp_add ?_ | refine wp_sub ?_ | refine wp_addI ?_ | refine wp_neg ?_ | refine wp_cmp ?_ | refine wp_is ?_ | refine wp_isnot ?_ | refine wp_eqI ?_ | refine wp_neI ?_ | refine wp_eqS ?_ | refine wp_neS ?_ | refine wp_int ?_ | refine wp_abs ?_
  | refine wp_lenL ?_ | refine wp_lenT ?_ | refine wp_sumL ?_ | refine wp_sumT ?_ | refine wp_max2 ?_ | refine wp_min2 ?_ | refine wp_tupleL ?_ | refine wp_tupleT ?_ | refine wp_listT ?_ | refine wp_listL ?_
  | refine wp_slL ?_ | refine wp_slF ?_ | refine wp_slT ?_ | (refine wp_ixL (d := ?_) ?e_ ?_; (case e_ => with_unfolding_all rfl)) | (refine wp_ixT (d := ?_) ?e_ ?_; (case e_ => with_unfolding_all rfl))
  | (refine wp_app (by first | assumption | exact get_set (by assumption)) ?_ ?_; rotate_left) | refine ⟨cell_some (by first | assumption | exact get_set (by assumption)), ?_⟩
  | refine wp_mod (by (first | decide | assumption | omega)) ?_ | refine wp_pow (by decide) ?_
  | (refine wp_ixC (d := ?_) (by first | assumption | exact get_set (by assumption)) ?e_ ?_; (case e_ => with_unfolding_all rfl))
  | (refine wp_ixLC (d := ?_) (by first | assumption | exact get_set (by assumption)) ?e_ ?_; (case e_ => with_unfolding_all rfl))
  | (refine wp_setS (j := ?_) (by assumption) ?e_ ?_; (case e_ => with_unfolding_all rfl))
  | (refine wp_setC (j := ?_) (by first | assumption | exact get_set (by assumption)) ?e_ ?_; (case e_ => with_unfolding_all rfl))
  | (refine wp_divB ?_ ?_; rotate_left) | (refine wp_mulSI ?_ ?_; rotate_left) | (refine wp_mul ?_ ?_; rotate_left) | (refine wp_div ?_ ?_; rotate_left) | (refine wp_addL ?_ ?_; rotate_left)
  | refine ⟨_, _, rfl, rfl, ?_⟩ | refine ⟨_, _, rfl, ?_⟩ | refine ⟨_, _, _, rfl, ?_⟩ | refine ⟨_, rfl, ?_⟩ | refine ⟨Nat.le_of_ble_eq_true (by with_unfolding_all rfl), ?_⟩)
/-! ### the law's own bag -/
structure Bag where
  big : Int
  seed : Int
  pos : Int
  cells : List Int
abbrev bagL (b : Bag) : List D := [.int b.big, .int b.seed, .int b.pos, .lst (b.cells.map D.int)]
structure Bg (b : Bag) : Prop where
  big : 0 ≤ b.big
  seed0 : 0 ≤ b.seed
  seed1 : b.seed < 2147483647
  pos0 : 0 ≤ b.pos
  cells : ∀ c ∈ b.cells, 0 ≤ c
  len : b.cells.length ≤ 1000
theorem cut_mem {xs : List D} {lo hi : Option Int} {d : D} (h : d ∈ MK.cutD xs lo hi) : d ∈ xs := List.mem_of_mem_drop (List.mem_of_mem_take h)
theorem first_cell {cells : List Int} (hc : ∀ c ∈ cells, 0 ≤ c) (lo : Option Int) : ∃ c : Int, 0 ≤ c ∧ atI (MK.cutD (cells.map D.int) lo none ++ [.int 0]) 0 = some (.int c) := by
  cases e : MK.cutD (cells.map D.int) lo none with
  | nil => exact ⟨0, by omega, rfl⟩
  | cons d r =>
    have hm : d ∈ cells.map D.int := cut_mem (lo := lo) (hi := none) (by rw [e]; exact List.mem_cons_self)
    obtain ⟨c, h1, h2⟩ := List.mem_map.mp hm
    refine ⟨c, hc c h1, ?_⟩
    rw [h2]
    exact atI_nat (j := 0) rfl
theorem cut_len (xs : List D) (lo hi : Option Int) : (MK.cutD xs lo hi).length ≤ xs.length := by
  unfold MK.cutD
  rw [List.length_take, List.length_drop]
  omega
theorem seed_ok (x : Int) : 0 ≤ x % 2147483647 ∧ x % 2147483647 < 2147483647 := ⟨Int.emod_nonneg _ (by decide), Int.emod_lt_of_pos _ (by decide)⟩
theorem takeW {k : Nat} {S : Store} {b : Bag} {m : Int} {C : D → Store → Prop} (hk : S[k]? = some (.lst (bagL b))) (wf : Bg b) (hm0 : 0 < m) (hm1 : m < 2 ^ 400)
    (h : ∀ v b', 0 ≤ v → v < m → Bg b' → C (.int v) (S.set k (.lst (bagL b')))) : Post (F__law_take [.cell k, .int m] S) C := by
  obtain ⟨big, seed, pos, cells⟩ := b
  obtain ⟨w1, w2, w3, w4, w6, w7⟩ := wf
  simp only at w1 w2 w3 w4 w6 w7 h
  unfold F__law_take
  refine wp_run ?_
  unfold B__law_take
  simp only [List.map, List.length, List.replicate, List.cons_append, List.nil_append]
  refine wp_seq (Post.mono (C := fun fl S1 => ∃ x2 x3 b1, fl = .nx [some (.cell k), some (.int m), x2, x3, none, none, none] ∧ S1 = S.set k (.lst (bagL b1)) ∧ Bg b1) ?_ ?_)
  · repeat walk_at "mk"
    refine ⟨fun h0 => ?_, fun h0 => ?_⟩
    · repeat walk_at "mk"
      · obtain ⟨c, hc0, hc⟩ := first_cell w6 (some pos)
        refine wp_ixL hc ?_
        repeat walk_at "mk"
        have fin : ∀ (x : Int) (y : Int), 0 ≤ x → Bg ⟨x, y % 2147483647, pos + 1, cells⟩ := fun x y hx => ⟨hx, (seed_ok y).1, (seed_ok y).2, by dsimp only; omega, w6, w7⟩
        have m1 : mulOk seed 48271 := mulOk_of (a := 40) (b := 40) (by omega) (by omega) (by decide)
        have m2 : mulOk 7919 (pos + 1) := .inl (by decide)
        refine ⟨fun h1 => ?_, fun h1 => ?_⟩
        · repeat walk_at "mk"
          · exact ⟨_, _, ⟨c, _, pos + 1, cells⟩, rfl, rfl, fin c _ hc0⟩
          · exact m1
          · exact m2
        · repeat walk_at "mk"
          · exact ⟨_, _, ⟨big, _, pos + 1, cells⟩, rfl, rfl, fin big _ w1⟩
          · exact m1
          · exact m2
      · rw [line_eq, sizeLine_eq]
        refine Nat.le_trans (Nat.add_le_add_right (cut_len _ _ _) _) ?_
        simp only [List.length_map, List.length_cons, List.length_nil]
        omega
    · exact wp_next ⟨none, none, ⟨big, seed, pos, cells⟩, rfl, (set_same hk).symm, ⟨w1, w2, w3, w4, w6, w7⟩⟩
  · rintro fl S1 ⟨x2, x3, b1, rfl, rfl, wf1⟩
    obtain ⟨big, seed, pos, cells⟩ := b1
    obtain ⟨w1, w2, w3, w4, w6, w7⟩ := wf1
    simp only at w1 w2 w3 w4 w6 w7
    have dm : divOk m := divOk_of hm0 (b := 400) (by omega) (by decide) (by decide)
    repeat walk_at "mk"
    refine ⟨fun h0 => ?_, fun h0 => ?_⟩
    · repeat walk_at "mk"
      · have e : ((bagL ⟨big, seed, pos, cells⟩).set (Int.toNat 0) (.int (big / m))) = bagL ⟨big / m, seed, pos, cells⟩ := rfl
        rw [e]
        exact h _ ⟨big / m, seed, pos, cells⟩ (Int.emod_nonneg _ (by omega)) (Int.emod_lt_of_pos _ hm0) ⟨Int.ediv_nonneg w1 (by omega), w2, w3, w4, w6, w7⟩
      · exact dm
    · have b1 : 0 ≤ (seed + 1) * 39373 % 1000000007 ∧ (seed + 1) * 39373 % 1000000007 < 1000000007 := ⟨Int.emod_nonneg _ (by decide), Int.emod_lt_of_pos _ (by decide)⟩
      repeat walk_at "mk"
      · exact h _ ⟨big, seed, pos, cells⟩ (Int.emod_nonneg _ (by omega)) (Int.emod_lt_of_pos _ hm0) ⟨w1, w2, w3, w4, w6, w7⟩
      · exact mulOk_of (a := 40) (b := 40) (by dsimp only; omega) (by omega) (by decide)
      · generalize (seed + 1) * 39373 % 1000000007 = x at b1
        exact mulOk_of (a := 40) (b := 40) (by omega) (by omega) (by decide)
      · generalize (seed + 1) * 39373 % 1000000007 = x at b1
        have b2 : 0 ≤ x * x % 998244353 ∧ x * x % 998244353 < 998244353 := ⟨Int.emod_nonneg _ (by decide), Int.emod_lt_of_pos _ (by decide)⟩
        generalize x * x % 998244353 = y at b2
        exact mulOk_of (a := 40) (b := 40) (by omega) (by omega) (by decide)
      · exact ⟨by decide, by decide⟩
theorem takeB {k : Nat} {S : Store} {b : Bag} {m : Int} {C : D → Store → Prop} (hk : S[k]? = some (.lst (bagL b))) (wf : Bg b) (hm0 : 0 < m) (hm1 : m ≤ 18446744073709551616)
    (h : ∀ v b', 0 ≤ v → v < m → Bg b' → C (.int v) (S.set k (.lst (bagL b')))) : Post (F__law_take [.cell k, .int m] S) C := takeW hk wf hm0 (by omega) h

/-! drawing, with the bag at any place -/
theorem takeN {k : Nat} {S : Store} {b : Bag} {m : Nat} {C : D → Store → Prop} (hk : S[k]? = some (.lst (bagL b))) (wf : Bg b) (hm0 : 0 < m) (hm1 : m ≤ 18446744073709551616)
    (h : ∀ (v : Nat) b', v < m → Bg b' → C (.int v) (S.set k (.lst (bagL b')))) : Post (F__law_take [.cell k, .int m] S) C :=
  takeB hk wf (by omega) (by omega) fun v b' h0 h1 wf' => by
    obtain ⟨n, rfl⟩ := Int.eq_ofNat_of_zero_le h0
    exact h n b' (by omega) wf'
theorem someB {S : Store} {k : Nat} {xs : List D} {b : Bag} {C : D → Store → Prop} (hk : S[k]? = some (.lst (bagL b))) (wf : Bg b) (h0 : 0 < xs.length) (h1 : xs.length ≤ 1000000)
    (h : ∀ (i : Nat) x b', xs[i]? = some x → Bg b' → C x (S.set k (.lst (bagL b')))) : Post (F__law_some [.cell k, .lst xs] S) C := by
  unfold F__law_some
  refine wp_run ?_
  unfold B__law_some
  simp only [List.map, List.length, List.replicate, List.cons_append, List.nil_append]
  repeat walk_at "mk"
  refine takeN hk wf h0 (by omega) fun v b' hv wf' => ?_
  refine wp_ixL (atI_nat (List.getElem?_eq_getElem hv)) ?_
  repeat walk_at "mk"
  exact h v _ _ (List.getElem?_eq_getElem hv) wf'
theorem bagB {ns : List Int} (hns : ns.length ≤ 63) {C : D → Store → Prop} (h : ∀ b, Bg b → C (.cell 0) [.lst (bagL b)]) : Post (F__law_bag [.flst (ns.map D.int)] []) C := by
  unfold F__law_bag
  refine wp_run ?_
  unfold B__law_bag
  simp only [List.map, List.length, List.replicate, List.cons_append, List.nil_append]
  repeat walk_at "mk"
  have hl : (MK.cutD (ns.map D.int) none (some 63)).length ≤ 63 := Nat.le_trans (cut_len _ _ _) (by rw [List.length_map]; exact hns)
  refine ⟨Nat.le_trans hl (by rw [line_eq, sizeLine_eq]; decide), ?_⟩
  refine wp_compF (fun i acc S' => S' = [] ∧ ∃ cs : List Int, acc = cs.map D.int ∧ cs.length = i ∧ ∀ c ∈ cs, 0 ≤ c) ⟨rfl, [], rfl, rfl, fun _ h => nomatch h⟩ ?_ ?_
  · rintro i d acc S' hd ⟨rfl, cs, rfl, rfl, hc⟩
    obtain ⟨n, _, rfl⟩ := List.mem_map.mp (cut_mem (List.mem_of_getElem? hd))
    repeat walk_at "mk"
    refine ⟨rfl, cs ++ [if n < 0 then -n else n], (List.map_append (l₁ := cs) (l₂ := [if n < 0 then -n else n]) (f := D.int)).symm, by rw [List.length_append]; rfl, fun c hc' => ?_⟩
    rcases List.mem_append.mp hc' with q | q
    · exact hc c q
    · rw [List.mem_singleton.mp q]
      split <;> omega
  · rintro ys S' ⟨rfl, cs, rfl, hcs, hc⟩
    repeat walk_at "mk"
    exact h ⟨0, 1234567891, 0, cs⟩ ⟨Int.le_refl _, by show (0 : Int) ≤ 1234567891; decide, by show (1234567891 : Int) < 2147483647; decide, Int.le_refl _, hc, by show cs.length ≤ 1000; omega⟩
/-! tables -/
/-- a table of nats -/
def rowD (r : List Nat) : D := .tup (r.map fun x : Nat => D.int x)
def tabD (t : List (List Nat)) : D := .tup (t.map rowD)
def tabOf (n : Nat) (g : Nat → Nat → Nat) : List (List Nat) := (List.range n).map fun x => (List.range n).map fun y => g x y
theorem rng0 (n : Nat) : rngL 0 n = (List.range n).map fun i => D.int (i : Nat) := by
  rw [rng_map]
  apply List.map_congr_left
  intro i _
  rw [Int.zero_add]
/-! the old names of the bag's rules (no budget is needed any more) -/
def Wf (_ : Nat) (b : Bag) : Prop := Bg b
theorem Wf.mono {p q : Nat} {b : Bag} (h : Wf p b) (_ : p ≤ q) : Wf q b := h
theorem wp_takeS {S : Store} {b : Bag} {p : Nat} {m : Int} {C : D → Store → Prop} (hk : S[0]? = some (.lst (bagL b))) (wf : Wf p b) (_ : p ≤ 1000000000) (hm0 : 0 < m) (hm1 : m ≤ 18446744073709551616) (h : ∀ (v : Nat) b', (v : Int) < m → Wf (p + 1) b' → C (.int v) (S.set 0 (.lst (bagL b')))) : Post (F__law_take [.cell 0, .int m] S) C := by
  refine takeB hk wf hm0 hm1 fun v b' h1 h2 h3 => ?_
  obtain ⟨n, rfl⟩ := Int.eq_ofNat_of_zero_le h1
  exact h n b' h2 h3
theorem wp_bag {ns : List Int} (hns : ns.length ≤ 63) {C : D → Store → Prop} (h : ∀ b, Wf 0 b → C (.cell 0) [.lst (bagL b)]) : Post (F__law_bag [.flst (ns.map D.int)] []) C := bagB hns h

/-! ### powers -/
theorem pow_nat (k : Nat) : ((2 : Int) ^ k).natAbs < 2 ^ (k + 1) := by
  rw [Int.natAbs_pow]
  exact Nat.pow_lt_pow_right (by decide) (Nat.lt_succ_self k)
theorem half_eq (m : Nat) : ((m : Int) / 2) = ((m / 2 : Nat) : Int) := by omega
theorem halves (a k m e : Nat) (h : a + k * m = e) (c : m % 2 = 0) : a + (k + k) * (m / 2) = e := by
  have : k * m = (k + k) * (m / 2) := by
    have : m = 2 * (m / 2) := by omega
    generalize m / 2 = q at *
    subst this
    rw [Nat.add_mul, ← Nat.mul_assoc, Nat.mul_comm k 2, Nat.mul_assoc, Nat.two_mul]
  omega
theorem halves1 (a k m e : Nat) (h : a + k * m = e) (c : m % 2 = 1) : a + k + (k + k) * (m / 2) = e := by
  have : k * m = k + (k + k) * (m / 2) := by
    have : m = 2 * (m / 2) + 1 := by omega
    generalize m / 2 = q at *
    subst this
    rw [Nat.mul_add, Nat.mul_one, Nat.add_mul, ← Nat.mul_assoc, Nat.mul_comm k 2, Nat.mul_assoc, Nat.two_mul]
    omega
  omega
theorem k_le (a k m e : Nat) (h : a + k * m = e) (h0 : 0 < m) : k ≤ e := by
  have : k * 1 ≤ k * m := Nat.mul_le_mul_left k h0
  omega
theorem dv2 : divOk 2 := divOk_of (by decide) (b := 4) (by decide) (by decide) (by decide)
local macro_rules | `(tactic| walk_at "side") => `(tactic| (first | exact dv2 | exact MK.mulOk_of (pow_nat _) (pow_nat _) (by omega) | exact MK.mulOk_of (a := 40) (b := 40) (by omega) (by omega) (by decide)))
theorem two_to_eq {e : Nat} (he : e ≤ 1000) (S : Store) : F_two_to [.int e] S = .ok (.int (2 ^ e)) S := by
  refine Post.eq ?_
  unfold F_two_to
  refine wp_run ?_
  unfold B_two_to
  simp only [List.map, List.length, List.replicate, List.cons_append, List.nil_append]
  repeat walk_at "mk"
  refine wp_while (fun m ρ S' => ∃ a k d : Nat, S' = S ∧ ρ = [some (.int d), some (.int (2 ^ a)), some (.int (2 ^ k))] ∧ m = d ∧ d ≤ e ∧ a + k * d = e) e (by omega) ⟨0, 1, e, rfl, rfl, rfl, Nat.le_refl _, by omega⟩ ?_
  rintro m ρ S' ⟨a, k, d, rfl, rfl, rfl, hm, h⟩
  repeat walk_at "mk"
  refine ⟨fun c => ?_, fun c => ?_⟩
  · have m0 : 0 < m := by simpa using c
    have hk := k_le a k m e h m0
    have e2 : (2 : Int) ^ k * 2 ^ k = 2 ^ (k + k) := (Int.pow_add ..).symm
    repeat walk_at "mk"
    all_goals try walk_at "side"
    refine ⟨fun c1 => ?_, fun c1 => ?_⟩
    · have c2 : m % 2 = 1 := by
        have : ¬ ((m : Int) / 2 * 2 = m) := by simpa using c1
        omega
      repeat walk_at "mk"
      all_goals try walk_at "side"
      · refine ⟨m / 2, by omega, a + k, k + k, m / 2, rfl, ?_, rfl, by omega, halves1 a k m e h c2⟩
        rw [half_eq, e2, ← Int.pow_add]
        rfl
    · have c2 : m % 2 = 0 := by
        have : ((m : Int) / 2 * 2 = m) := by simpa using c1
        omega
      repeat walk_at "mk"
      all_goals try walk_at "side"
      · refine ⟨m / 2, by omega, a, k + k, m / 2, rfl, ?_, rfl, by omega, halves a k m e h c2⟩
        rw [half_eq, e2]
        rfl
  · have m0 : m = 0 := by
      have : ¬ (0 < m) := by simpa using c
      omega
    subst m0
    repeat walk_at "mk"
    have : a = e := by omega
    exact ⟨by rw [this], rfl⟩
/-! ### values that are shown in few signs -/
def Easy (x : D) : Prop := x = .non ∨ (∃ b, x = .bl b) ∨ ∃ n : Int, x = .int n ∧ n.natAbs < 2 ^ 1000
theorem Easy.fine {x : D} (h : Easy x) : x.okR = true ∧ x.size ≤ 1921 ∧ x.dep ≤ 0 := by
  rcases h with rfl | ⟨b, rfl⟩ | ⟨n, rfl, hn⟩
  · exact ⟨rfl, by decide, by decide⟩
  · exact ⟨rfl, by simp only [D.size]; omega, by simp only [D.dep]; omega⟩
  · refine ⟨?_, by simp only [D.size]; omega, by simp only [D.dep]; omega⟩
    unfold D.okR
    refine decide_eq_true ?_
    by_cases c : n.natAbs = 0
    · rw [c]; decide
    · exact Nat.lt_of_lt_of_le ((Nat.log2_lt c).mpr hn) (by decide)
theorem easy_int {n : Int} (h : n.natAbs < 2 ^ 1000) : Easy (.int n) := .inr (.inr ⟨n, rfl, h⟩)
theorem easy_bl {b : Bool} : Easy (.bl b) := .inr (.inl ⟨b, rfl⟩)
theorem easyL {xs : List D} (h : ∀ x ∈ xs, Easy x) (hl : xs.length ≤ 400) : D.okRs xs = true ∧ D.sizes xs + 3 ≤ line ∧ D.deps xs ≤ 0 := by
  refine ⟨okRs_all fun x hx => (h x hx).fine.1, ?_, deps_le fun x hx => (h x hx).fine.2.2⟩
  have := sizes_le (b := 1921) fun x hx => (h x hx).fine.2.1
  have : (1921 + 2) * xs.length ≤ (1921 + 2) * 400 := Nat.mul_le_mul_left _ hl
  rw [line_eq, sizeLine_eq]
  omega
/-- two alike -/
theorem wp_alike {d : D} {S : Store} {C : D → Store → Prop} (h1 : d.okR = true) (h2 : d.size ≤ line) (h3 : d.dep ≤ 64) (h4 : ∀ k, d ≠ .cell k) (h : C (.bl true) S) : Post (F__law_alike [d, d] S) C := by
  obtain ⟨p, e, f⟩ := d.fine h1
  obtain ⟨f1, f2, f3⟩ := f.ok h2 h3
  have e' : ∀ S, d.pyS S = some p := fun S => (pyS_of h4).trans e
  unfold F__law_alike
  refine wp_run ?_
  unfold B__law_alike
  simp only [List.map, List.length, List.replicate, List.cons_append, List.nil_append]
  repeat walk_at "mk"
  refine wp_eqP (e' _) (e' _) f2 f2 ?_
  rw [f3]
  repeat walk_at "mk"
  refine wp_repr (e' _) f1 ?_
  repeat walk_at "mk"
  refine wp_repr (e' _) f1 ?_
  repeat walk_at "mk"
  rw [decide_eq_true rfl]
  exact h
theorem wp_alikeL {xs ys : List D} (e : ys = xs) (h : ∀ x ∈ xs, Easy x) (hl : xs.length ≤ 400) {S : Store} {C : D → Store → Prop} (q : C (.bl true) S) : Post (F__law_alike [.lst ys, .lst xs] S) C := by
  obtain ⟨h1, h2, h3⟩ := easyL h hl
  rw [e]
  exact wp_alike (by unfold D.okR; exact h1) (by unfold D.size; exact h2) (by unfold D.dep; omega) (fun k => nofun) q
theorem wp_alikeE {x y : D} (e : y = x) (h : Easy x) {S : Store} {C : D → Store → Prop} (q : C (.bl true) S) : Post (F__law_alike [y, x] S) C := by
  obtain ⟨h1, h2, h3⟩ := h.fine
  rw [e]
  exact wp_alike h1 (Nat.le_trans h2 (by rw [line_eq, sizeLine_eq]; decide)) (by omega) (fun k => by rcases h with rfl | ⟨b, rfl⟩ | ⟨n, rfl, _⟩ <;> exact nofun) q

/-! ### values and tuples of such that are shown in few signs -/
def EasyT (x : D) : Prop := Easy x ∨ ∃ ys : List D, x = .tup ys ∧ ys.length ≤ 20 ∧ ∀ y ∈ ys, Easy y
theorem EasyT.fine {x : D} (h : EasyT x) : x.okR = true ∧ x.size ≤ 40000 ∧ x.dep ≤ 1 := by
  rcases h with h | ⟨ys, rfl, hl, h⟩
  · obtain ⟨h1, h2, h3⟩ := h.fine
    exact ⟨h1, by omega, by omega⟩
  · refine ⟨?_, ?_, ?_⟩
    · unfold D.okR
      exact okRs_all fun x hx => (h x hx).fine.1
    · have := sizes_le (b := 1921) fun x hx => (h x hx).fine.2.1
      have : (1921 + 2) * ys.length ≤ (1921 + 2) * 20 := Nat.mul_le_mul_left _ hl
      unfold D.size
      omega
    · have := deps_le (b := 0) fun x hx => (h x hx).fine.2.2
      unfold D.dep
      omega
theorem wp_alikeTs {xs ys : List D} (e : ys = xs) (h : ∀ x ∈ xs, EasyT x) (hl : xs.length ≤ 100) {S : Store} {C : D → Store → Prop} (q : C (.bl true) S) : Post (F__law_alike [.lst ys, .lst xs] S) C := by
  rw [e]
  refine wp_alike ?_ ?_ ?_ (fun k => nofun) q
  · unfold D.okR
    exact okRs_all fun x hx => (h x hx).fine.1
  · have := sizes_le (b := 40000) fun x hx => (h x hx).fine.2.1
    have : (40000 + 2) * xs.length ≤ (40000 + 2) * 100 := Nat.mul_le_mul_left _ hl
    unfold D.size
    rw [line_eq, sizeLine_eq]
    omega
  · have := deps_le (b := 1) fun x hx => (h x hx).fine.2.2
    unfold D.dep
    omega

/-! ### piles of c * 2 ^ e, and how two are compared -/
def ab (x : Int) : Int := if x < 0 then -x else x
theorem ab_nn (x : Int) : 0 ≤ ab x ∧ -(ab x) ≤ x ∧ x ≤ ab x := by unfold ab; split <;> omega
theorem ab_neg (x : Int) : ab (0 - x) = ab x := by unfold ab; split <;> split <;> omega
theorem ab_add (x y : Int) : ab (x + y) ≤ ab x + ab y := by unfold ab; split <;> split <;> split <;> omega
theorem ab_mul {x y : Int} (h : 0 ≤ y) : ab (x * y) = ab x * y := by
  unfold ab
  by_cases c : x < 0
  · rw [if_pos c]
    by_cases d : x * y < 0
    · rw [if_pos d, Int.neg_mul]
    · rw [if_neg d, Int.neg_mul]
      have : x * y ≤ 0 := Int.mul_nonpos_of_nonpos_of_nonneg (by omega) h
      omega
  · rw [if_neg c, if_neg]
    have : 0 ≤ x * y := Int.mul_nonneg (by omega) h
    omega
theorem p2 (e : Nat) : (0 : Int) < 2 ^ e := Int.pow_pos (by decide)
abbrev Pile := List (Int × Nat)
def vl (l : Pile) : Int := (l.map fun p => p.1 * 2 ^ p.2).sum
def av (l : Pile) : Int := (l.map fun p => ab p.1 * 2 ^ p.2).sum
def lf (l : Pile) : Int := (l.map fun p => ab p.1).sum
theorem vl_cons (p : Int × Nat) (l : Pile) : vl (p :: l) = p.1 * 2 ^ p.2 + vl l := rfl
theorem av_cons (p : Int × Nat) (l : Pile) : av (p :: l) = ab p.1 * 2 ^ p.2 + av l := rfl
theorem lf_cons (p : Int × Nat) (l : Pile) : lf (p :: l) = ab p.1 + lf l := rfl
theorem vl_append (l r : Pile) : vl (l ++ r) = vl l + vl r := by unfold vl; rw [List.map_append, List.sum_append]
theorem av_append (l r : Pile) : av (l ++ r) = av l + av r := by unfold av; rw [List.map_append, List.sum_append]
theorem sum_perm {l r : List Int} (h : l.Perm r) : l.sum = r.sum := by
  induction h with
  | nil => rfl
  | cons x _ ih => rw [List.sum_cons, List.sum_cons, ih]
  | swap x y l => rw [List.sum_cons, List.sum_cons, List.sum_cons, List.sum_cons]; omega
  | trans _ _ h1 h2 => rw [h1, h2]
theorem vl_perm {l r : Pile} (h : l.Perm r) : vl l = vl r := sum_perm (h.map _)
theorem av_perm {l r : Pile} (h : l.Perm r) : av l = av r := sum_perm (h.map _)
theorem av_nn : ∀ l : Pile, 0 ≤ av l
  | [] => Int.le_refl _
  | p :: l => by
    have := av_nn l
    have := Int.mul_nonneg (ab_nn p.1).1 (Int.le_of_lt (p2 p.2))
    rw [av_cons]
    omega
theorem lf_nn : ∀ l : Pile, 0 ≤ lf l
  | [] => Int.le_refl _
  | p :: l => by
    have := lf_nn l
    have := (ab_nn p.1).1
    rw [lf_cons]
    omega
theorem lf_le_av : ∀ l : Pile, lf l ≤ av l
  | [] => Int.le_refl _
  | p :: l => by
    have := lf_le_av l
    have h := (ab_nn p.1).1
    have : ab p.1 * 1 ≤ ab p.1 * 2 ^ p.2 := Int.mul_le_mul_of_nonneg_left (by have := p2 p.2; omega) h
    rw [lf_cons, av_cons]
    omega
theorem vl_ab : ∀ l : Pile, -(av l) ≤ vl l ∧ vl l ≤ av l
  | [] => ⟨Int.le_refl _, Int.le_refl _⟩
  | p :: l => by
    have := vl_ab l
    obtain ⟨h1, h2, h3⟩ := ab_nn p.1
    have h4 : p.1 * 2 ^ p.2 ≤ ab p.1 * 2 ^ p.2 := Int.mul_le_mul_of_nonneg_right h3 (Int.le_of_lt (p2 p.2))
    have h5 : -(ab p.1) * 2 ^ p.2 ≤ p.1 * 2 ^ p.2 := Int.mul_le_mul_of_nonneg_right h2 (Int.le_of_lt (p2 p.2))
    rw [Int.neg_mul] at h5
    rw [vl_cons, av_cons]
    omega
theorem av_le : ∀ {l : Pile} {e : Nat}, (∀ p ∈ l, p.2 ≤ e) → av l ≤ lf l * 2 ^ e
  | [], e, _ => by show (0 : Int) ≤ 0 * 2 ^ e; rw [Int.zero_mul]; decide
  | p :: l, e, h => by
    have h1 := av_le fun q hq => h q (List.mem_cons_of_mem _ hq)
    have h2 : (2 : Int) ^ p.2 ≤ 2 ^ e := by
      have := Nat.pow_le_pow_right (n := 2) (by decide) (h p List.mem_cons_self)
      have a1 : (2 : Int) ^ p.2 = ((2 ^ p.2 : Nat) : Int) := by push_cast; rfl
      have a2 : (2 : Int) ^ e = ((2 ^ e : Nat) : Int) := by push_cast; rfl
      rw [a1, a2]
      exact Int.ofNat_le.mpr this
    have h3 : ab p.1 * 2 ^ p.2 ≤ ab p.1 * 2 ^ e := Int.mul_le_mul_of_nonneg_left h2 (ab_nn p.1).1
    rw [av_cons, lf_cons, Int.add_mul]
    omega
/-- the sign -/
def sg (x : Int) : Int := if 0 < x then 1 else if x < 0 then -1 else 0
theorem sg_le {x : Int} : sg x ≤ 0 ↔ x ≤ 0 := by
  unfold sg
  by_cases c : 0 < x
  · rw [if_pos c]; omega
  · rw [if_neg c]
    split <;> omega
theorem sg_mul {g : Int} (e : Nat) : sg (g * 2 ^ e) = sg g := by
  have h := p2 e
  unfold sg
  rcases Int.lt_trichotomy g 0 with c | c | c
  · have : g * 2 ^ e < 0 := Int.mul_neg_of_neg_of_pos c h
    rw [if_neg (by omega), if_pos this, if_neg (by omega), if_pos c]
  · subst c
    rw [Int.zero_mul]
  · have : 0 < g * 2 ^ e := Int.mul_pos c h
    rw [if_pos this, if_pos c]
/-- what is left is too little to turn the sign -/
theorem early {g lft w : Int} {t e m : Nat} (hg : g ≠ 0) (hl : lft < 2 ^ m) (hm : m + e < t) (h1 : -(lft * 2 ^ e) ≤ w) (h2 : w ≤ lft * 2 ^ e) : sg (g * 2 ^ t + w) = if 0 < g then 1 else -1 := by
  have a : lft * 2 ^ e < 2 ^ m * 2 ^ e := Int.mul_lt_mul_of_pos_right hl (p2 e)
  rw [← Int.pow_add] at a
  have b : (2 : Int) ^ (m + e) ≤ 2 ^ t := by
    have := Nat.pow_le_pow_right (n := 2) (by decide) (Nat.le_of_lt hm)
    have a1 : (2 : Int) ^ (m + e) = ((2 ^ (m + e) : Nat) : Int) := by push_cast; rfl
    have a2 : (2 : Int) ^ t = ((2 ^ t : Nat) : Int) := by push_cast; rfl
    rw [a1, a2]
    exact Int.ofNat_le.mpr this
  have ht := p2 t
  by_cases c : 0 < g
  · have : 1 * 2 ^ t ≤ g * 2 ^ t := Int.mul_le_mul_of_nonneg_right (by omega) (Int.le_of_lt ht)
    rw [if_pos c]
    unfold sg
    rw [if_pos (by omega)]
  · have : g * 2 ^ t ≤ -1 * 2 ^ t := Int.mul_le_mul_of_nonneg_right (by omega) (Int.le_of_lt ht)
    rw [if_neg c]
    unfold sg
    rw [if_neg (by omega), if_pos (by omega)]
/-! ### bits_of -/
theorem two_lt {x : Int} {k N : Nat} (h0 : 0 ≤ x) (h : x < 2 ^ N) (hk : k ≤ N) : x / 2 ^ k < 2 ^ (N - k) := by
  refine Int.ediv_lt_of_lt_mul (p2 k) ?_
  rw [← Int.pow_add, Nat.sub_add_cancel hk]
  exact h
theorem bits_of_eq {x : Int} {N : Nat} (h0 : 0 ≤ x) (h : x < 2 ^ N) (hN : N ≤ 100000) (S : Store) : ∃ m : Nat, F_bits_of [.int x] S = .ok (.int m) S ∧ x < 2 ^ m ∧ m ≤ N := by
  have dL : divOk 18446744073709551616 := divOk_of (by decide) (b := 66) (by decide) (by decide) (by decide)
  have main : Post (F_bits_of [.int x] S) fun d S' => S' = S ∧ ∃ m : Nat, d = .int m ∧ x < 2 ^ m ∧ m ≤ N := by
    unfold F_bits_of
    refine wp_run ?_
    unfold B_bits_of
    simp only [List.map, List.length, List.replicate, List.cons_append, List.nil_append]
    repeat walk_at "mk"
    refine wp_while (fun m ρ S' => S' = S ∧ ∃ (y : Int) (k : Nat), ρ = [some (.int y), some (.int k)] ∧ m + k = N ∧ 0 ≤ y ∧ y < 2 ^ m ∧ x < (y + 1) * 2 ^ k) N (by omega) ⟨rfl, x, 0, rfl, by omega, h0, h, by rw [Int.pow_zero]; omega⟩ ?_
    rintro m ρ S' ⟨rfl, y, k, rfl, hmk, hy0, hy, hx⟩
    repeat walk_at "mk"
    refine ⟨fun c => ?_, fun c => ?_⟩
    · have c' : (18446744073709551616 : Int) ≤ y := by simpa using c
      have hm : 64 ≤ m := by
        by_cases q : 64 ≤ m
        · exact q
        · have := Nat.pow_le_pow_right (n := 2) (by decide) (show m ≤ 64 by omega)
          have a1 : (2 : Int) ^ m = ((2 ^ m : Nat) : Int) := by push_cast; rfl
          omega
      repeat walk_at "mk"
      · refine ⟨m - 64, by omega, rfl, y / 18446744073709551616, k + 64, ?_, by omega, Int.ediv_nonneg hy0 (by decide), two_lt (k := 64) hy0 hy hm, ?_⟩
        · push_cast; rfl
        · have e : (2 : Int) ^ (k + 64) = 18446744073709551616 * 2 ^ k := by rw [Int.pow_add, Int.mul_comm]; rfl
          rw [e, ← Int.mul_assoc]
          have : (y + 1) * 2 ^ k ≤ (y / 18446744073709551616 + 1) * 18446744073709551616 * 2 ^ k := Int.mul_le_mul_of_nonneg_right (by omega) (Int.le_of_lt (p2 k))
          omega
      · exact dL
    · repeat walk_at "mk"
      refine wp_while (fun m ρ S1 => S1 = S' ∧ ∃ (y : Int) (k : Nat), ρ = [some (.int y), some (.int k)] ∧ m + k = N ∧ 0 ≤ y ∧ y < 2 ^ m ∧ x < (y + 1) * 2 ^ k) m (by omega) ⟨rfl, y, k, rfl, hmk, hy0, hy, hx⟩ ?_
      rintro m ρ S' ⟨rfl, y, k, rfl, hmk, hy0, hy, hx⟩
      repeat walk_at "mk"
      refine ⟨fun c => ?_, fun c => ?_⟩
      · have c' : (0 : Int) < y := by simpa using c
        have hm : 1 ≤ m := by
          by_cases q : 1 ≤ m
          · exact q
          · have e : m = 0 := by omega
            subst e
            rw [Int.pow_zero] at hy
            omega
        repeat walk_at "mk"
        · refine ⟨m - 1, by omega, rfl, y / 2, k + 1, ?_, by omega, Int.ediv_nonneg hy0 (by decide), two_lt (k := 1) hy0 hy hm, ?_⟩
          · push_cast; rfl
          · have e : (2 : Int) ^ (k + 1) = 2 * 2 ^ k := by rw [Int.pow_succ, Int.mul_comm]
            rw [e, ← Int.mul_assoc]
            have : (y + 1) * 2 ^ k ≤ (y / 2 + 1) * 2 * 2 ^ k := Int.mul_le_mul_of_nonneg_right (by omega) (Int.le_of_lt (p2 k))
            omega
        · exact dv2
      · have c' : ¬ (0 : Int) < y := by simpa using c
        have e : y = 0 := by omega
        subst e
        repeat walk_at "mk"
        refine ⟨rfl, k, rfl, ?_, by omega⟩
        rw [Int.zero_add, Int.one_mul] at hx
        exact hx
  obtain ⟨d, S', e, rfl, m, rfl, hm⟩ := main
  exact ⟨m, e, hm⟩
/-! ### sorting of data of any kind; comprehensions whose tests draw -/
theorem sort_gen {α : Type} (f : α → D) (p : α → PyData) (l : List α) : ∃ ys : List α, srtL (l.map f) (l.map p) = ys.map f ∧ ys.Perm l ∧ ys.Pairwise (fun a b => PySem.W.dataLt (p b) (p a) = false) := by
  have hz : (l.map f).zip (l.map p) = l.map fun x => (f x, p x) := by
    induction l with
    | nil => rfl
    | cons x xs ih => rw [List.map_cons, List.map_cons, List.zip_cons_cons, ih]; rfl
  refine ⟨l.mergeSort (PySem.W.dataLe false p), ?_, List.mergeSort_perm _ _, ?_⟩
  · unfold srtL
    rw [hz, ← List.map_mergeSort (f := fun x => (f x, p x)) (r := PySem.W.dataLe false p) (fun a _ b _ => rfl), List.map_map]
    rfl
  · refine (PySem.W.sort_pairwise (le := PySem.W.dataLe false p) (PySem.W.sortLe_total _ _ _) l).imp fun {a b} h => ?_
    have h' : (!PySem.W.dataLt (p b) (p a)) = true := h
    simpa using h'
theorem dataLt_first {a b : Int} {r s : List PyData} (h : PySem.W.dataLt (.tuple (.int b :: r)) (.tuple (.int a :: s)) = false) : a ≤ b := by
  by_cases q : b < a
  · rw [PySem.W.dataLt_tuple, PySem.W.dataLt_all_no (by rfl) (by unfold PyData.eqv; simp; omega), PySem.W.dataLt_int] at h
    simp at h
    omega
  · omega
theorem wp_compT {ρ : Sl} {S : Store} {k : FG} {t : F Bool} {e : FE} {C : List D → Store → Prop} {ds : List D} (I : Nat → List D → Store → Prop) (h0 : I 0 [] S)
    (hs : ∀ (i : Nat) (d : D) (acc : List D) (S : Store), ds[i]? = some d → I i acc S → Post (k d ρ S) fun ρ1 S1 => Post (t ρ1 S1) fun b S2 => (b = true → Post (e ρ1 S2) fun y S3 => I (i + 1) (acc ++ [y]) S3) ∧ (b = false → I (i + 1) acc S2))
    (hd : ∀ ys S, I ds.length ys S → C ys S) : Post (compF k t e ρ ds S) C := by
  have go : ∀ (n : Nat) (i : Nat) (acc : List D) (S : Store), i + n = ds.length → I i acc S → Post (compF k t e ρ (ds.drop i) S) fun ys S' => I ds.length (acc ++ ys) S' := by
    intro n
    induction n with
    | zero =>
      intro i acc S e h
      have e' : i = ds.length := by omega
      rw [e', List.drop_length]
      exact .ok (by rw [List.append_nil]; exact e' ▸ h)
    | succ n ih =>
      intro i acc S e h
      have hi : i < ds.length := by omega
      rw [List.drop_eq_getElem_cons hi]
      refine .noex ((hs i ds[i] acc S (List.getElem?_eq_getElem hi) h).mono fun ρ1 S1 q => .noex (q.mono fun b S2 q => ?_))
      cases b with
      | true =>
        rw [if_pos rfl]
        refine .noex ((q.1 rfl).mono fun y S2 q => .bind ((ih (i + 1) (acc ++ [y]) S2 (by omega) q).mono fun ys S3 q => .ok ?_))
        rw [List.append_assoc] at q
        exact q
      | false =>
        rw [if_neg (by decide)]
        exact ih (i + 1) acc S2 (by omega) (q.2 rfl)
  exact (go ds.length 0 [] S (by omega) h0).mono fun ys S' q => hd ys S' (by simpa using q)
theorem wp_cfilM {α : Type} {ρ : Sl} {S : Store} {k : FG} {t : F Bool} {e : FE} {l : List α} {f : α → D} (p : α → Bool) (g : α → D) {C : List D → Store → Prop}
    (hs : ∀ x ∈ l, Post (k (f x) ρ S) fun ρ1 S1 => S1 = S ∧ Post (t ρ1 S1) fun b S2 => S2 = S ∧ b = p x ∧ (p x = true → Post (e ρ1 S2) fun y S3 => y = g x ∧ S3 = S))
    (h : C ((l.filter p).map g) S) : Post (compF k t e ρ (l.map f) S) C := by
  refine wp_compT (fun i acc S' => S' = S ∧ acc = ((l.take i).filter p).map g) ⟨rfl, rfl⟩ ?_ ?_
  · rintro i d acc S' hd ⟨rfl, rfl⟩
    rw [List.getElem?_map] at hd
    cases hx : l[i]? with
    | none => rw [hx] at hd; cases hd
    | some x =>
      rw [hx] at hd
      cases hd
      obtain ⟨hi, hx'⟩ := List.getElem?_eq_some_iff.mp hx
      refine (hs x (List.mem_of_getElem? hx)).mono ?_
      rintro ρ1 S1 ⟨rfl, q⟩
      refine q.mono ?_
      rintro b S2 ⟨rfl, rfl, q⟩
      rw [List.take_succ_eq_append_getElem hi, hx', List.filter_append, List.map_append]
      refine ⟨fun c => (q c).mono ?_, fun c => ⟨rfl, ?_⟩⟩
      · rintro y S3 ⟨rfl, rfl⟩
        refine ⟨rfl, ?_⟩
        rw [List.filter_cons_of_pos c]
        rfl
      · rw [List.filter_cons_of_neg (by rw [c]; decide)]
        show _ = _ ++ []
        rw [List.append_nil]
  · rintro ys S' ⟨rfl, rfl⟩
    rw [List.length_map, List.take_length]
    exact h
/-! ### compared -/
abbrev pr (p : Int × Nat) : D := .tup [.int p.1, .int p.2]
abbrev row (p : Int × Nat) : D := .tup [.int p.2, .int p.1]
abbrev prow (p : Int × Nat) : PyData := .tuple [.int p.2, .int p.1]
theorem pys_row : ∀ l : Pile, D.pys (l.map row) = some (l.map prow)
  | [] => rfl
  | p :: l => by
    rw [List.map_cons, List.map_cons]
    unfold D.pys
    rw [show (row p).py = some (prow p) from rfl, pys_row l]
theorem srtB_row (l : Pile) : srtB (l.map prow) = true := by
  unfold srtB
  rw [Bool.and_eq_true, Bool.and_eq_true]
  refine ⟨⟨?_, ?_⟩, ?_⟩
  · refine List.all_eq_true.mpr fun x hx => List.all_eq_true.mpr fun y hy => ?_
    obtain ⟨a, _, rfl⟩ := List.mem_map.mp hx
    obtain ⟨b, _, rfl⟩ := List.mem_map.mp hy
    rfl
  · rw [Bool.or_eq_true]
    refine .inl (List.all_eq_true.mpr fun x hx => ?_)
    obtain ⟨a, _, rfl⟩ := List.mem_map.mp hx
    rfl
  · refine List.all_eq_true.mpr fun x hx => ?_
    obtain ⟨p, _, rfl⟩ := List.mem_map.mp hx
    exact decide_eq_true (by simp [PyData.depth, PyData.depthAll])
def posv (l : Pile) : Pile := l.filter fun p => decide (p.1 > 0)
theorem vl_posv : ∀ {l : Pile}, (∀ p ∈ l, 0 ≤ p.1) → vl (posv l) = vl l ∧ av (posv l) = av l
  | [], _ => ⟨rfl, rfl⟩
  | p :: l, h => by
    have ih := vl_posv fun q hq => h q (List.mem_cons_of_mem _ hq)
    have h0 := h p List.mem_cons_self
    unfold posv at ih ⊢
    by_cases c : p.1 > 0
    · rw [List.filter_cons_of_pos (by exact decide_eq_true c), vl_cons, vl_cons, av_cons, av_cons, ih.1, ih.2]
      exact ⟨rfl, rfl⟩
    · have e : p.1 = 0 := by omega
      rw [List.filter_cons_of_neg (by simpa using c), vl_cons, av_cons, e, ih.1, ih.2]
      have : ab 0 = 0 := rfl
      rw [this, Int.zero_mul]
      omega
theorem descending_eq (l : Pile) {x : D} (hx : x.still = some (l.map pr)) (hl : l.length ≤ 10000) (S : Store) : ∃ ys : Pile, F_descending [x] S = .ok (.lst (ys.map row)) S ∧ ys.Perm (posv l) := by
  obtain ⟨zs, e, hp, _⟩ := sort_gen row prow (posv l)
  refine ⟨zs.reverse, Post.eq ?_, (List.reverse_perm zs).trans hp⟩
  unfold F_descending
  refine wp_run ?_
  unfold B_descending
  simp only [List.map, List.length, List.replicate, List.cons_append, List.nil_append]
  repeat walk_at "mk"
  refine ⟨_, hx, ?_⟩
  refine ⟨by rw [List.length_map, line_eq, sizeLine_eq]; omega, ?_⟩
  refine wp_cfilM (fun p => decide (p.1 > 0)) row (fun p hp => ?_) ?_
  · unfold pr
    repeat walk_at "mk"
    refine ⟨rfl, ?_⟩
    repeat walk_at "mk"
    refine ⟨rfl, rfl, fun c => ?_⟩
    repeat walk_at "mk"
    exact ⟨rfl, rfl⟩
  · repeat walk_at "mk"
    refine wp_sortX (ps := (posv l).map prow) rfl rfl (pys_row _) (srtB_row _) ?_
    show Post (revD (.lst (srtL ((posv l).map row) ((posv l).map prow))) S) _
    rw [e]
    repeat walk_at "mk"
    rw [← List.map_reverse]
    exact ⟨rfl, rfl⟩
def neg (l : Pile) : Pile := l.map fun p => (0 - p.1, p.2)
theorem vl_neg : ∀ l : Pile, vl (neg l) = -(vl l) ∧ av (neg l) = av l
  | [] => ⟨rfl, rfl⟩
  | p :: l => by
    have ih := vl_neg l
    unfold neg at ih ⊢
    rw [List.map_cons, vl_cons, av_cons, vl_cons, av_cons, ih.1, ih.2, ab_neg, Int.zero_sub, Int.neg_mul, Int.neg_add]
    exact ⟨rfl, rfl⟩
theorem keys_row : ∀ l : Pile, keysI (l.map row) = some (l.map fun p => (p.2 : Int))
  | [] => rfl
  | p :: l => by
    rw [List.map_cons]
    unfold keysI
    rw [keys_row l]
    rfl
theorem drop_pile {l : Pile} {i : Nat} {p : Int × Nat} (h : l[i]? = some p) : l.drop i = p :: l.drop (i + 1) := by
  obtain ⟨hi, hs'⟩ := List.getElem?_eq_some_iff.mp h
  rw [List.drop_eq_getElem_cons hi, hs']
theorem small_of {x : Int} {N : Nat} (h : ab x < 2 ^ N) : x.natAbs < 2 ^ N := by
  have e : ((x.natAbs : Nat) : Int) < ((2 ^ N : Nat) : Int) := by
    push_cast
    unfold ab at h
    split at h <;> omega
  exact Int.ofNat_lt.mp e
theorem sg_bool (x : Int) : b2 (decide (x > 0)) - b2 (decide (x < 0)) = sg x := by
  unfold b2 sg
  rcases Int.lt_trichotomy x 0 with c | c | c
  · rw [decide_eq_false (show ¬ x > 0 by omega), decide_eq_true (show x < 0 from c), if_neg (show ¬ 0 < x by omega), if_pos c]; rfl
  · subst c; rfl
  · rw [decide_eq_true (show x > 0 by omega), decide_eq_false (show ¬ x < 0 by omega), if_pos c]; rfl
theorem pw_mono {a b : Nat} (h : a ≤ b) : (2 : Int) ^ a ≤ 2 ^ b := by
  have := Nat.pow_le_pow_right (n := 2) (by decide) h
  have a1 : (2 : Int) ^ a = ((2 ^ a : Nat) : Int) := by push_cast; rfl
  have a2 : (2 : Int) ^ b = ((2 ^ b : Nat) : Int) := by push_cast; rfl
  rw [a1, a2]
  exact Int.ofNat_le.mpr this
/-- the loop of compared: what is gathered times 2 ^ last and what is left stay the whole -/
structure CInv (zs : Pile) (T : Int) (N : Nat) (i : Nat) (g : Int) (la : D) : Prop where
  none : la = .non → i = 0 ∧ g = 0
  some : ∀ t : Nat, la = .int t → (∀ p ∈ zs.drop i, p.2 ≤ t) ∧ ab g ≤ 2 ^ ((N + 1) * i) ∧ T = g * 2 ^ t + vl (zs.drop i)
  la : la = .non ∨ ∃ t : Nat, la = .int t
theorem compared_loop {zs : Pile} (hl : zs.length ≤ 2000) (hs : zs.Pairwise fun a b => b.2 ≤ a.2) {N : Nat} (hN : N ≤ 1000) (hb : lf zs < 2 ^ N) {x y : D} {S : Store} {C : D → Store → Prop} (h : C (.int (sg (vl zs))) S) :
    Post (fSeq (fFor (iSeq (fVar 2)) (gTp 2 (gsCons (gNm 6) (gsCons (gNm 7) gsNil))) (fSeq (fIf (fAnd (fB (f2 isnotD (fVar 5) (fC .non))) (fAnd (fB (f2 ltD (fVar 6) (fVar 5))) (fB (f2 neD (fVar 4) (fC (.int 0)))))) (fSeq (fIf (fB (f2 gtD (f2 subD (fVar 5) (fVar 6)) (fCall F_bits_of (fCons (fVar 3) fNil)))) (fRet (fIf (fB (f2 gtD (fVar 4) (fC (.int 0)))) (fC (.int 1)) (f1 negD (fC (.int 1))))) fNext)
    (fSet 4 (f2 mulS (fVar 4) (fCall F_two_to (fCons (f2 subD (fVar 5) (fVar 6)) fNil))))) fNext)
    (fPar3 4 5 3 (fCons (f2 addD (fVar 4) (fVar 7)) (fCons (fVar 6) (fCons (f2 subD (fVar 3) (fCall absD (fCons (fVar 7) fNil))) fNil))))))
    (fRet (f2 subBD (f2 gtD (fVar 4) (fC (.int 0))) (f2 ltD (fVar 4) (fC (.int 0))))) [some x, some y, some (.lst (zs.map row)), some (.int (lf zs)), some (.int 0), some .non, none, none] S) fun fl S' => RunC C fl S' := by
  repeat walk_at "mk"
  refine wp_forF (fun i ρ S' => S' = S ∧ ∃ g la o6 o7, ρ = [some x, some y, some (.lst (zs.map row)), some (.int (lf (zs.drop i))), some (.int g), some la, o6, o7] ∧ CInv zs (vl zs) N i g la) ⟨rfl, 0, .non, _, _, rfl, fun _ => ⟨rfl, rfl⟩, fun _ q => (by cases q), .inl rfl⟩ ?_ ?_
  · rintro i d ρ S' hd ⟨rfl, g, la, o6, o7, rfl, inv⟩
    rw [List.getElem?_map] at hd
    cases hp : zs[i]? with
    | none => rw [hp] at hd; cases hd
    | some p =>
      rw [hp] at hd
      cases hd
      have hpm := List.mem_of_getElem? hp
      have ed := drop_pile hp
      have hil : i < zs.length := (List.getElem?_eq_some_iff.mp hp).1
      have htail : ∀ q ∈ zs.drop (i + 1), q.2 ≤ p.2 := by
        have := hs.drop (i := i)
        rw [ed] at this
        exact fun q hq => (List.pairwise_cons.mp this).1 q hq
      have hlf : lf (zs.drop i) - ab p.1 = lf (zs.drop (i + 1)) := by rw [ed, lf_cons]; omega
      have hab : (if p.1 < 0 then -p.1 else p.1) = ab p.1 := rfl
      have hlb : lf (zs.drop i) ≤ lf zs := by
        have e : lf zs = lf (zs.take i) + lf (zs.drop i) := by unfold lf; rw [← List.sum_append, ← List.map_append, List.take_append_drop]
        have := lf_nn (zs.take i)
        omega
      have hcb : ab p.1 < 2 ^ N := by
        have := lf_nn (zs.drop (i + 1))
        omega
      have step : ∀ g1 : Int, ab g1 ≤ 2 ^ ((N + 1) * i + N) → vl zs = g1 * 2 ^ p.2 + vl (zs.drop i) → CInv zs (vl zs) N (i + 1) (g1 + p.1) (.int p.2) := by
        intro g1 h1 h2
        rw [ed, vl_cons] at h2
        refine ⟨fun q => (by cases q), fun t ht => ?_, .inr ⟨_, rfl⟩⟩
        cases ht
        have h3 := ab_add g1 p.1
        have h4 : (2 : Int) ^ N ≤ 2 ^ ((N + 1) * i + N) := pw_mono (by omega)
        have h5 : (2 : Int) ^ ((N + 1) * (i + 1)) = 2 ^ ((N + 1) * i + N) * 2 := by rw [← Int.pow_succ, Nat.mul_succ]; rfl
        refine ⟨htail, by rw [h5]; omega, ?_⟩
        rw [Int.add_mul]
        omega
      have fin : ∀ (g1 : Int), ab g1 ≤ 2 ^ ((N + 1) * i + N) → vl zs = g1 * 2 ^ p.2 + vl (zs.drop i) →
          (S' = S' ∧ ∃ g la o6 o7, [some x, some y, some (.lst (zs.map row)), some (.int (lf (zs.drop i) - ab p.1)), some (.int (g1 + p.1)), some (.int p.2), some (D.int p.2), some (D.int p.1)] = [some x, some y, some (.lst (zs.map row)), some (.int (lf (zs.drop (i + 1)))), some (.int g), some la, o6, o7] ∧ CInv zs (vl zs) N (i + 1) g la) := by
        intro g1 h1 h2
        rw [hlf]
        exact ⟨rfl, _, _, _, _, rfl, step g1 h1 h2⟩
      unfold row
      repeat walk_at "mk"
      rcases inv.la with rfl | ⟨t, rfl⟩
      · obtain ⟨rfl, rfl⟩ := inv.none rfl
        refine ⟨fun c => (by cases c), fun _ => ?_⟩
        repeat walk_at "mk"
        exact fin 0 (by rw [show ab 0 = 0 from rfl]; exact Int.le_of_lt (p2 _)) (by rw [Int.zero_mul, List.drop_zero]; omega)
      · obtain ⟨hall, hbd, hT⟩ := inv.some t rfl
        have hpt : p.2 ≤ t := hall p (by rw [ed]; exact List.mem_cons_self)
        have same : ∀ g1 : Int, g1 * 2 ^ p.2 = g * 2 ^ t → vl zs = g1 * 2 ^ p.2 + vl (zs.drop i) := by
          intro g1 e
          rw [e]
          exact hT
        have hbd' : ab g ≤ 2 ^ ((N + 1) * i + N) := Int.le_trans hbd (pw_mono (by omega))
        refine ⟨fun _ => ?_, fun c => (by cases c)⟩
        repeat walk_at "mk"
        refine ⟨fun c1 => ?_, fun c1 => ?_⟩
        · have c1' : (p.2 : Int) < t := by simpa using c1
          repeat walk_at "mk"
          refine ⟨fun c2 => ?_, fun c2 => ?_⟩
          · have hg : g ≠ 0 := by simpa using c2
            repeat walk_at "mk"
            have l0 := lf_nn (zs.drop i)
            obtain ⟨m, em, hm, hmN⟩ := bits_of_eq (N := N) l0 (by omega) (by omega) S'
            refine Post.of_eq em ?_
            repeat walk_at "mk"
            refine ⟨fun c3 => ?_, fun c3 => ?_⟩
            · have c3' : (m : Int) < (t : Int) - p.2 := by simpa using c3
              have hle := av_le (l := zs.drop i) (e := p.2) (by rw [ed]; intro q hq; rcases List.mem_cons.mp hq with rfl | hq; exact Nat.le_refl _; exact htail q hq)
              have hv := vl_ab (zs.drop i)
              have he := early (g := g) (lft := lf (zs.drop i)) (w := vl (zs.drop i)) (t := t) (e := p.2) (m := m) hg hm (by omega) (by omega) (by omega)
              rw [← hT] at he
              repeat walk_at "mk"
              refine ⟨fun c4 => ?_, fun c4 => ?_⟩
              · rw [if_pos (by simpa using c4)] at he
                repeat walk_at "mk"
                rw [he] at h
                exact h
              · rw [if_neg (by simpa using c4)] at he
                repeat walk_at "mk"
                rw [he] at h
                exact h
            · repeat walk_at "mk"
              have c3' : ¬ ((m : Int) < (t : Int) - p.2) := by simpa using c3
              rw [show (t : Int) - p.2 = ((t - p.2 : Nat) : Int) by omega]
              refine Post.of_eq (two_to_eq (by omega) _) ?_
              have e1 : g * 2 ^ (t - p.2) * 2 ^ p.2 = g * 2 ^ t := by rw [Int.mul_assoc, ← Int.pow_add, Nat.sub_add_cancel hpt]
              have h1 : ab (g * 2 ^ (t - p.2)) ≤ 2 ^ ((N + 1) * i + N) := by
                rw [ab_mul (Int.le_of_lt (p2 _)), Int.pow_add]
                exact Int.mul_le_mul hbd (pw_mono (by omega)) (Int.le_of_lt (p2 _)) (Int.le_of_lt (p2 _))
              have hbits : (N + 1) * i ≤ 1001 * 2000 := Nat.mul_le_mul (by omega) (by omega)
              repeat walk_at "mk"
              · exact fin _ h1 (same _ e1)
              · exact MK.mulOk_of (a := (N + 1) * i + 1) (small_of (by have := p2 ((N + 1) * i); rw [Int.pow_succ]; omega)) (pow_nat _) (by omega)
          · have hg : g = 0 := by simpa using c2
            subst hg
            repeat walk_at "mk"
            exact fin 0 hbd' (same 0 (by rw [Int.zero_mul, Int.zero_mul]))
        · have c1' : ¬ (p.2 : Int) < t := by simpa using c1
          have e : p.2 = t := by omega
          repeat walk_at "mk"
          exact fin g hbd' (same g (by rw [e]))
  · rintro ρ S' ⟨rfl, g, la, o6, o7, rfl, inv⟩
    repeat walk_at "mk"
    refine wp_subB ?_
    repeat walk_at "mk"
    rw [sg_bool]
    have e : sg (vl zs) = sg g := by
      rcases inv.la with rfl | ⟨t, rfl⟩
      · obtain ⟨h1, rfl⟩ := inv.none rfl
        rw [List.length_map] at h1
        rw [List.length_eq_zero_iff.mp h1]
        rfl
      · obtain ⟨_, _, hT⟩ := inv.some t rfl
        rw [List.length_map, List.drop_length] at hT
        rw [hT, show vl [] = 0 from rfl, Int.add_zero, sg_mul]
    rw [← e]
    exact h
theorem lf_perm {l r : Pile} (h : l.Perm r) : lf l = lf r := sum_perm (h.map _)
theorem lf_append (l r : Pile) : lf (l ++ r) = lf l + lf r := by unfold lf; rw [List.map_append, List.sum_append]
theorem lf_neg : ∀ l : Pile, lf (neg l) = lf l
  | [] => rfl
  | p :: l => by
    have ih := lf_neg l
    unfold neg at ih ⊢
    rw [List.map_cons, lf_cons, lf_cons, ih, ab_neg]
theorem lf_posv : ∀ {l : Pile}, (∀ p ∈ l, 0 ≤ p.1) → lf (posv l) = lf l
  | [], _ => rfl
  | p :: l, h => by
    have ih := lf_posv fun q hq => h q (List.mem_cons_of_mem _ hq)
    have h0 := h p List.mem_cons_self
    unfold posv at ih ⊢
    by_cases c : p.1 > 0
    · rw [List.filter_cons_of_pos (by exact decide_eq_true c), lf_cons, lf_cons, ih]
    · have e : p.1 = 0 := by omega
      rw [List.filter_cons_of_neg (by simpa using c), lf_cons, e, ih]
      have : ab 0 = 0 := rfl
      omega
theorem posv_mem {l : Pile} {p : Int × Nat} (h : p ∈ posv l) : p ∈ l := (List.mem_filter.mp h).1
theorem posv_len (l : Pile) : (posv l).length ≤ l.length := List.length_filter_le _ _
theorem abs_row (l : Pile) : (l.map fun p => D.int (if p.1 < 0 then -p.1 else p.1)) = (l.map fun p => ab p.1).map D.int := by
  rw [List.map_map]
  rfl
theorem compared_eq {l1 l2 : Pile} {x y : D} (hx : x.still = some (l1.map pr)) (hy : y.still = some (l2.map pr)) (h1 : ∀ p ∈ l1, 0 ≤ p.1) (h2 : ∀ p ∈ l2, 0 ≤ p.1) (n1 : l1.length ≤ 1000) (n2 : l2.length ≤ 1000) {N : Nat} (hN : N ≤ 1000) (hb : lf l1 + lf l2 < 2 ^ N) (S : Store) :
    F_compared [x, y] S = .ok (.int (sg (vl l1 - vl l2))) S := by
  refine Post.eq ?_
  obtain ⟨ys1, e1, q1⟩ := descending_eq l1 hx (by omega) S
  obtain ⟨ys2, e2, q2⟩ := descending_eq l2 hy (by omega) S
  have k1 : ys1.length ≤ 1000 := by rw [q1.length_eq]; exact Nat.le_trans (posv_len _) n1
  have k2 : ys2.length ≤ 1000 := by rw [q2.length_eq]; exact Nat.le_trans (posv_len _) n2
  obtain ⟨zs, ez, qz, sz⟩ := sort_gen row (fun p : Int × Nat => PyData.int p.2) (ys1 ++ neg ys2)
  have v1 := vl_posv h1
  have v2 := vl_posv h2
  have hv : vl zs.reverse = vl l1 - vl l2 := by
    rw [vl_perm ((List.reverse_perm zs).trans qz), vl_append, (vl_neg ys2).1, vl_perm q1, vl_perm q2, v1.1, v2.1]
    omega
  have ha : lf zs.reverse = lf l1 + lf l2 := by
    rw [lf_perm ((List.reverse_perm zs).trans qz), lf_append, lf_neg ys2, lf_perm q1, lf_perm q2, lf_posv h1, lf_posv h2]
  have hs : zs.reverse.Pairwise fun a b => b.2 ≤ a.2 := by
    refine List.pairwise_reverse.mpr (sz.imp fun {a b} h => ?_)
    rw [PySem.W.dataLt_int] at h
    simp at h
    omega
  unfold F_compared
  refine wp_run ?_
  unfold B_compared
  simp only [List.map, List.length, List.replicate, List.cons_append, List.nil_append]
  refine wp_seq (Post.mono (C := fun fl S1 => S1 = S ∧ fl = .nx [some x, some y, some (.lst ((ys1 ++ neg ys2).map row)), none, none, none, none, none]) ?_ ?_)
  · repeat walk_at "mk"
    refine Post.of_eq e1 ?_
    repeat walk_at "mk"
    refine Post.of_eq e2 ?_
    repeat walk_at "mk"
    refine ⟨by rw [List.length_map, line_eq, sizeLine_eq]; omega, ?_⟩
    refine wp_cmapM (fun p : Int × Nat => row (0 - p.1, p.2)) (fun p hp => ?_) ?_
    · unfold row
      repeat walk_at "mk"
      refine ⟨rfl, ?_⟩
      repeat walk_at "mk"
      exact ⟨rfl, rfl⟩
    · repeat walk_at "mk"
      · refine ⟨rfl, ?_⟩
        unfold neg
        rw [List.map_append, List.map_map]
        rfl
      · rw [List.length_map, List.length_map, line_eq, sizeLine_eq]; omega
  rintro fl S1 ⟨rfl, rfl⟩
  refine wp_seq (Post.mono (C := fun fl S2 => S2 = S1 ∧ fl = .nx [some x, some y, some (.lst (zs.reverse.map row)), none, none, none, none, none]) ?_ ?_)
  · repeat walk_at "mk"
    refine wp_sortKeyD rfl (keys_row _) ?_
    have e3 : intP ((ys1 ++ neg ys2).map fun p => (p.2 : Int)) = (ys1 ++ neg ys2).map fun p => PyData.int p.2 := by
      unfold intP
      rw [List.map_map]
      rfl
    rw [e3, ez]
    repeat walk_at "mk"
    rw [← List.map_reverse]
    exact ⟨rfl, rfl⟩
  rintro fl S2 ⟨rfl, rfl⟩
  obtain ⟨rs, hrs⟩ : ∃ rs, zs.reverse = rs := ⟨_, rfl⟩
  rw [hrs] at hv ha hs ⊢
  have hl : rs.length ≤ 2000 := by
    rw [← hrs, List.length_reverse, qz.length_eq, List.length_append]
    unfold neg
    rw [List.length_map]
    omega
  refine wp_seq (Post.mono (C := fun fl S3 => S3 = S2 ∧ fl = .nx [some x, some y, some (.lst (rs.map row)), some (.int (lf rs)), some (.int 0), some .non, none, none]) ?_ ?_)
  · repeat walk_at "mk"
    refine ⟨by rw [List.length_map, line_eq, sizeLine_eq]; omega, ?_⟩
    refine wp_cmapM (fun p : Int × Nat => D.int (if p.1 < 0 then -p.1 else p.1)) (fun p hp => ?_) ?_
    · unfold row
      repeat walk_at "mk"
      refine ⟨rfl, ?_⟩
      repeat walk_at "mk"
      exact ⟨rfl, rfl⟩
    · rw [abs_row]
      repeat walk_at "mk"
      exact ⟨rfl, rfl⟩
  rintro fl S3 ⟨rfl, rfl⟩
  refine compared_loop hl hs hN (by rw [ha]; exact hb) ?_
  rw [hv]
  exact ⟨rfl, rfl⟩
theorem nn_of {l : Pile} (h : ∀ p ∈ l, 0 ≤ p.1) : av l = vl l := by
  induction l with
  | nil => rfl
  | cons p l ih =>
    have := h p List.mem_cons_self
    rw [av_cons, vl_cons, ih fun q hq => h q (List.mem_cons_of_mem _ hq)]
    unfold ab
    rw [if_neg (by omega)]
/-! ### the bits of a number, exactly -/
def IsBits (x : Int) (m : Nat) : Prop := x < 2 ^ m ∧ ((x = 0 ∧ m = 0) ∨ (0 < m ∧ 2 ^ (m - 1) ≤ x))
theorem pw_lt_of {a b : Nat} (h : (2 : Int) ^ a < 2 ^ b) : a < b := by
  by_cases q : a < b
  · exact q
  · have := pw_mono (show b ≤ a by omega)
    omega
theorem IsBits.uniq {x : Int} {m k : Nat} (h : IsBits x m) (g : IsBits x k) : m = k := by
  obtain ⟨h1, h2⟩ := h
  obtain ⟨g1, g2⟩ := g
  rcases h2 with ⟨rfl, rfl⟩ | ⟨hm, h2⟩
  · rcases g2 with ⟨_, rfl⟩ | ⟨hk, g2⟩
    · rfl
    · have := p2 (k - 1)
      omega
  · rcases g2 with ⟨rfl, rfl⟩ | ⟨hk, g2⟩
    · have := p2 (m - 1)
      omega
    · have a := pw_lt_of (Int.lt_of_le_of_lt h2 g1)
      have b := pw_lt_of (Int.lt_of_le_of_lt g2 h1)
      omega
/-- a step down by 2 ^ j -/
def BInv (x y : Int) (k : Nat) : Prop := 0 ≤ y ∧ y * 2 ^ k ≤ x ∧ x < (y + 1) * 2 ^ k ∧ (y = 0 → (x = 0 ∧ k = 0) ∨ (0 < k ∧ 2 ^ (k - 1) ≤ x))
theorem BInv.start {x : Int} (h : 0 ≤ x) : BInv x x 0 := ⟨h, by rw [Int.pow_zero, Int.mul_one]; exact Int.le_refl _, by rw [Int.pow_zero]; omega, fun q => .inl ⟨q, rfl⟩⟩
theorem BInv.done {x : Int} {k : Nat} (h : BInv x 0 k) : IsBits x k := by
  obtain ⟨_, _, h1, h2⟩ := h
  rw [Int.zero_add, Int.one_mul] at h1
  exact ⟨h1, h2 rfl⟩
theorem BInv.half {x y : Int} {k : Nat} (h : BInv x y k) (hy : 0 < y) : BInv x (y / 2) (k + 1) := by
  obtain ⟨h0, h1, h2, h3⟩ := h
  have e : (2 : Int) ^ (k + 1) = 2 * 2 ^ k := by rw [Int.pow_succ, Int.mul_comm]
  have P := p2 k
  refine ⟨by omega, ?_, ?_, fun q => .inr ⟨Nat.succ_pos _, ?_⟩⟩
  · rw [e, ← Int.mul_assoc]
    have : y / 2 * 2 * 2 ^ k ≤ y * 2 ^ k := Int.mul_le_mul_of_nonneg_right (by omega) (Int.le_of_lt P)
    omega
  · rw [e, ← Int.mul_assoc]
    have : (y + 1) * 2 ^ k ≤ (y / 2 + 1) * 2 * 2 ^ k := Int.mul_le_mul_of_nonneg_right (by omega) (Int.le_of_lt P)
    omega
  · have : y = 1 := by omega
    subst this
    rw [Int.one_mul] at h1
    exact h1
theorem BInv.big {x y : Int} {k j : Nat} {L : Int} (hL : (2 : Int) ^ j = L) (h : BInv x y k) (hy : L ≤ y) : BInv x (y / L) (k + j) := by
  obtain ⟨h0, h1, h2, h3⟩ := h
  have L0 : 0 < L := by rw [← hL]; exact p2 j
  have e : (2 : Int) ^ (k + j) = L * 2 ^ k := by rw [Int.pow_add, Int.mul_comm, hL]
  have P := p2 k
  have d1 : y / L * L ≤ y := Int.ediv_mul_le _ (by omega)
  have d2 : y < (y / L + 1) * L := Int.lt_ediv_add_one_mul_self _ L0
  have d3 : 1 ≤ y / L := (Int.le_ediv_iff_mul_le L0).mpr (by omega)
  refine ⟨by omega, ?_, ?_, fun q => by omega⟩
  · rw [e, ← Int.mul_assoc]
    have : y / L * L * 2 ^ k ≤ y * 2 ^ k := Int.mul_le_mul_of_nonneg_right d1 (Int.le_of_lt P)
    omega
  · rw [e, ← Int.mul_assoc]
    have : (y + 1) * 2 ^ k ≤ (y / L + 1) * L * 2 ^ k := Int.mul_le_mul_of_nonneg_right (by omega) (Int.le_of_lt P)
    omega
theorem bits_exact {x : Int} {N : Nat} (h0 : 0 ≤ x) (h : x < 2 ^ N) (hN : N ≤ 100000) (S : Store) : ∃ m : Nat, F_bits_of [.int x] S = .ok (.int m) S ∧ IsBits x m ∧ m ≤ N := by
  have dL : divOk 18446744073709551616 := divOk_of (by decide) (b := 66) (by decide) (by decide) (by decide)
  have main : Post (F_bits_of [.int x] S) fun d S' => S' = S ∧ ∃ m : Nat, d = .int m ∧ IsBits x m ∧ m ≤ N := by
    unfold F_bits_of
    refine wp_run ?_
    unfold B_bits_of
    simp only [List.map, List.length, List.replicate, List.cons_append, List.nil_append]
    repeat walk_at "mk"
    refine wp_while (fun m ρ S' => S' = S ∧ ∃ (y : Int) (k : Nat), ρ = [some (.int y), some (.int k)] ∧ m + k = N ∧ y < 2 ^ m ∧ BInv x y k) N (by omega) ⟨rfl, x, 0, rfl, by omega, h, BInv.start h0⟩ ?_
    rintro m ρ S' ⟨rfl, y, k, rfl, hmk, hy, inv⟩
    repeat walk_at "mk"
    refine ⟨fun c => ?_, fun c => ?_⟩
    · have c' : (18446744073709551616 : Int) ≤ y := by simpa using c
      have hm : 64 ≤ m := by
        by_cases q : 64 ≤ m
        · exact q
        · have := Nat.pow_le_pow_right (n := 2) (by decide) (show m ≤ 64 by omega)
          have a1 : (2 : Int) ^ m = ((2 ^ m : Nat) : Int) := by push_cast; rfl
          omega
      repeat walk_at "mk"
      · exact ⟨m - 64, by omega, rfl, y / 18446744073709551616, k + 64, by push_cast; rfl, by omega, two_lt (k := 64) inv.1 hy hm, inv.big (j := 64) rfl c'⟩
      · exact dL
    · repeat walk_at "mk"
      refine wp_while (fun m ρ S1 => S1 = S' ∧ ∃ (y : Int) (k : Nat), ρ = [some (.int y), some (.int k)] ∧ m + k = N ∧ y < 2 ^ m ∧ BInv x y k) m (by omega) ⟨rfl, y, k, rfl, hmk, hy, inv⟩ ?_
      rintro m ρ S' ⟨rfl, y, k, rfl, hmk, hy, inv⟩
      repeat walk_at "mk"
      refine ⟨fun c => ?_, fun c => ?_⟩
      · have c' : (0 : Int) < y := by simpa using c
        have hm : 1 ≤ m := by
          by_cases q : 1 ≤ m
          · exact q
          · have e : m = 0 := by omega
            subst e
            rw [Int.pow_zero] at hy
            omega
        repeat walk_at "mk"
        · exact ⟨m - 1, by omega, rfl, y / 2, k + 1, by push_cast; rfl, by omega, two_lt (k := 1) inv.1 hy hm, inv.half c'⟩
        · exact dv2
      · have c' : ¬ (0 : Int) < y := by simpa using c
        have e : y = 0 := by have := inv.1; omega
        subst e
        repeat walk_at "mk"
        exact ⟨rfl, k, rfl, inv.done, by omega⟩
  obtain ⟨d, S', e, rfl, m, rfl, hm⟩ := main
  exact ⟨m, e, hm⟩
/-! ### below, above: the floor and the ceiling of a pile over 2 ^ e -/
def flo (l : Pile) (e : Nat) : Int := vl l / 2 ^ e
def cei (l : Pile) (e : Nat) : Int := -(-(vl l) / 2 ^ e)
def kpt (g e : Nat) (l : Pile) : Pile := l.filter fun p => decide (((p.2 : Int) + g) ≥ e)
def drp (g e : Nat) (l : Pile) : Pile := l.filter fun p => !decide (((p.2 : Int) + g) ≥ e)
def kM (g e : Nat) (l : Pile) : Int := ((kpt g e l).map fun p => p.1 * 2 ^ (p.2 + g - e)).sum
theorem kept_split (g e : Nat) : ∀ l : Pile, (∀ p ∈ l, 0 ≤ p.1) → vl l * 2 ^ g = kM g e l * 2 ^ e + vl (drp g e l) * 2 ^ g ∧ 0 ≤ vl (drp g e l) ∧ vl (drp g e l) * 2 ^ g ≤ lf l * 2 ^ e
  | [], _ => by
    show (0 : Int) * 2 ^ g = 0 * 2 ^ e + 0 * 2 ^ g ∧ (0 : Int) ≤ 0 ∧ (0 : Int) * 2 ^ g ≤ 0 * 2 ^ e
    rw [Int.zero_mul, Int.zero_mul]
    decide
  | p :: l, h => by
    obtain ⟨h1, h2, h3⟩ := kept_split g e l fun q hq => h q (List.mem_cons_of_mem _ hq)
    have h0 := h p List.mem_cons_self
    have hab : ab p.1 = p.1 := by unfold ab; rw [if_neg (by omega)]
    unfold kM kpt drp at h1 ⊢
    unfold drp at h2 h3
    by_cases c : ((p.2 : Int) + g) ≥ e
    · rw [List.filter_cons_of_pos (by exact decide_eq_true c), List.filter_cons_of_neg (by rw [decide_eq_true c]; decide), List.map_cons, List.sum_cons, vl_cons, lf_cons, hab, Int.add_mul, Int.add_mul, Int.add_mul]
      have e1 : p.1 * 2 ^ (p.2 + g - e) * 2 ^ e = p.1 * 2 ^ p.2 * 2 ^ g := by
        rw [Int.mul_assoc, Int.mul_assoc, ← Int.pow_add, ← Int.pow_add]
        congr 2
        omega
      have e2 : 0 ≤ p.1 * 2 ^ e := Int.mul_nonneg h0 (Int.le_of_lt (p2 e))
      refine ⟨by omega, h2, by omega⟩
    · rw [List.filter_cons_of_neg (by simpa using c), List.filter_cons_of_pos (by rw [decide_eq_false c]; decide), vl_cons, vl_cons, lf_cons, hab, Int.add_mul, Int.add_mul, Int.add_mul]
      have e1 : p.1 * 2 ^ p.2 * 2 ^ g ≤ p.1 * 2 ^ e := by
        rw [Int.mul_assoc, ← Int.pow_add]
        exact Int.mul_le_mul_of_nonneg_left (pw_mono (by omega)) h0
      have e2 : 0 ≤ p.1 * 2 ^ p.2 := Int.mul_nonneg h0 (Int.le_of_lt (p2 _))
      refine ⟨by omega, by omega, by omega⟩
/-- the floor is whole or the next one -/
theorem near_floor {l : Pile} (h : ∀ p ∈ l, 0 ≤ p.1) {g e : Nat} (hg : lf l < 2 ^ g) : kM g e l / 2 ^ g * 2 ^ e ≤ vl l ∧ vl l < (kM g e l / 2 ^ g + 2) * 2 ^ e := by
  obtain ⟨h1, h2, h3⟩ := kept_split g e l h
  obtain ⟨w, hw⟩ : ∃ w, kM g e l / 2 ^ g = w := ⟨_, rfl⟩
  have G := p2 g
  have E := p2 e
  have d1 : w * 2 ^ g ≤ kM g e l := by rw [← hw]; exact Int.ediv_mul_le _ (by omega)
  have d2 : kM g e l < (w + 1) * 2 ^ g := by rw [← hw]; exact Int.lt_ediv_add_one_mul_self _ G
  rw [hw]
  have a1 : w * 2 ^ g * 2 ^ e ≤ kM g e l * 2 ^ e := Int.mul_le_mul_of_nonneg_right d1 (Int.le_of_lt E)
  have a2 : kM g e l * 2 ^ e < (w + 1) * 2 ^ g * 2 ^ e := Int.mul_lt_mul_of_pos_right d2 E
  have a3 : lf l * 2 ^ e < 2 ^ g * 2 ^ e := Int.mul_lt_mul_of_pos_right hg E
  have a4 : 0 ≤ vl (drp g e l) * 2 ^ g := Int.mul_nonneg h2 (Int.le_of_lt G)
  have c1 : w * 2 ^ g * 2 ^ e = w * 2 ^ e * 2 ^ g := by rw [Int.mul_assoc, Int.mul_comm (2 ^ g), ← Int.mul_assoc]
  have c2 : (w + 1) * 2 ^ g * 2 ^ e = (w + 1) * 2 ^ e * 2 ^ g := by rw [Int.mul_assoc, Int.mul_comm (2 ^ g), ← Int.mul_assoc]
  have c3 : (2 : Int) ^ g * 2 ^ e = 2 ^ e * 2 ^ g := Int.mul_comm _ _
  have c4 : (w + 2) * 2 ^ e * 2 ^ g = (w + 1) * 2 ^ e * 2 ^ g + 2 ^ e * 2 ^ g := by
    rw [show w + 2 = w + 1 + 1 by omega, Int.add_mul (w + 1), Int.one_mul, Int.add_mul]
  have k1 : w * 2 ^ e * 2 ^ g ≤ vl l * 2 ^ g := by omega
  have k2 : vl l * 2 ^ g < (w + 2) * 2 ^ e * 2 ^ g := by omega
  exact ⟨Int.le_of_mul_le_mul_right k1 G, Int.lt_of_mul_lt_mul_right k2 (Int.le_of_lt G)⟩
theorem flo_of {l : Pile} {e : Nat} {w : Int} (h1 : w * 2 ^ e ≤ vl l) (h2 : vl l < (w + 1) * 2 ^ e) : flo l e = w := by
  have E := p2 e
  unfold flo
  refine Int.le_antisymm ?_ ((Int.le_ediv_iff_mul_le E).mpr h1)
  have := Int.ediv_lt_of_lt_mul E h2
  omega
theorem flo_bounds (l : Pile) (e : Nat) : flo l e * 2 ^ e ≤ vl l ∧ vl l < (flo l e + 1) * 2 ^ e := ⟨Int.ediv_mul_le _ (by have := p2 e; omega), Int.lt_ediv_add_one_mul_self _ (p2 e)⟩
theorem cei_of (l : Pile) (e : Nat) : cei l e = if vl l = flo l e * 2 ^ e then flo l e else flo l e + 1 := by
  obtain ⟨h1, h2⟩ := flo_bounds l e
  obtain ⟨w, hw⟩ : ∃ w, flo l e = w := ⟨_, rfl⟩
  rw [hw] at h1 h2 ⊢
  have E := p2 e
  unfold cei
  by_cases c : vl l = w * 2 ^ e
  · rw [if_pos c, c, ← Int.neg_mul, Int.mul_ediv_cancel _ (by omega), Int.neg_neg]
  · rw [if_neg c]
    have a1 : -(w + 1) * 2 ^ e ≤ -(vl l) := by rw [Int.neg_mul]; omega
    have a2 : -(vl l) < (-(w + 1) + 1) * 2 ^ e := by rw [show -(w + 1) + 1 = -w by omega, Int.neg_mul]; omega
    have : -(vl l) / 2 ^ e = -(w + 1) := by
      refine Int.le_antisymm ?_ ((Int.le_ediv_iff_mul_le E).mpr a1)
      have := Int.ediv_lt_of_lt_mul E a2
      omega
    rw [this, Int.neg_neg]
structure Low (l : Pile) (e : Nat) : Prop where
  nn : ∀ p ∈ l, 0 ≤ p.1
  len : l.length ≤ 900
  sum : lf l < 2 ^ 300
  near : ∀ p ∈ l, 0 < p.1 → p.2 ≤ e + 500
theorem Low.flo {l : Pile} {e : Nat} (h : Low l e) : 0 ≤ flo l e ∧ Law.flo l e < 2 ^ 800 := by
  have E := p2 e
  have v := nn_of h.nn
  have v0 := av_nn l
  refine ⟨Int.ediv_nonneg (by omega) (by omega), ?_⟩
  have hp := vl_posv h.nn
  have a := av_le (l := posv l) (e := e + 500) fun p hp => h.near p (posv_mem hp) (by have := (List.mem_filter.mp hp).2; simpa using this)
  rw [hp.2, lf_posv h.nn] at a
  have b : lf l * 2 ^ (e + 500) < 2 ^ 300 * 2 ^ (e + 500) := Int.mul_lt_mul_of_pos_right h.sum (p2 _)
  have c : (2 : Int) ^ 300 * 2 ^ (e + 500) = 2 ^ 800 * 2 ^ e := by rw [← Int.pow_add, ← Int.pow_add]; congr 1; omega
  unfold Law.flo
  refine Int.ediv_lt_of_lt_mul E ?_
  omega
theorem nn_pos {l : Pile} {ys : Pile} (q : ys.Perm (posv l)) : ∀ p ∈ ys, p ∈ l ∧ 0 < p.1 := fun p hp => by
  have hm := q.mem_iff.mp hp
  have := (List.mem_filter.mp hm).2
  exact ⟨posv_mem hm, by simpa using this⟩
theorem sum_lf {l : Pile} (h : ∀ p ∈ l, 0 ≤ p.1) : (l.map fun p => p.1).sum = lf l := by
  unfold lf
  congr 1
  exact List.map_congr_left fun p hp => by unfold ab; rw [if_neg (by have := h p hp; omega)]
theorem kM_perm {g e : Nat} {l r : Pile} (h : l.Perm r) : kM g e l = kM g e r := sum_perm ((h.filter _).map _)
theorem mem_le_sum : ∀ {l : List Int}, (∀ x ∈ l, 0 ≤ x) → ∀ {a : Int}, a ∈ l → a ≤ l.sum
  | [], _, a, h => by cases h
  | x :: l, h, a, ha => by
    have h0 := h x List.mem_cons_self
    have ht := fun y hy => h y (List.mem_cons_of_mem x hy)
    rw [List.sum_cons]
    rcases List.mem_cons.mp ha with rfl | ha
    · have : 0 ≤ l.sum := by
        clear ha h
        induction l with
        | nil => exact Int.le_refl _
        | cons y l ih =>
          have := ht y List.mem_cons_self
          have := ih fun z hz => ht z (List.mem_cons_of_mem _ hz)
          rw [List.sum_cons]; omega
      omega
    · have := mem_le_sum ht ha
      omega
theorem sg_nn_iff {x : Int} : sg x ≥ 0 ↔ 0 ≤ x := by
  unfold sg
  by_cases c : 0 < x
  · rw [if_pos c]; omega
  · rw [if_neg c]
    split <;> omega
/-! ### below, above: the walks -/
theorem below_eq {l : Pile} {e : Nat} (h : Low l e) {x : D} (hx : x.still = some (l.map pr)) (S : Store) : F_below [x, .int e] S = .ok (.int (flo l e)) S := by
  refine Post.eq ?_
  obtain ⟨ys, e1, q1⟩ := descending_eq l hx (by have := h.len; omega) S
  have hyl : ys.length ≤ 900 := by rw [q1.length_eq]; exact Nat.le_trans (posv_len _) h.len
  have hyp := nn_pos q1
  have hynn : ∀ p ∈ ys, 0 ≤ p.1 := fun p hp => Int.le_of_lt (hyp p hp).2
  have hlf : lf ys = lf l := by rw [lf_perm q1, lf_posv h.nn]
  have hvl : vl ys = vl l := by rw [vl_perm q1, (vl_posv h.nn).1]
  have hs := h.sum
  obtain ⟨m, em, hm, hm300⟩ := bits_exact (x := lf ys) (N := 300) (lf_nn ys) (by rw [hlf]; exact hs) (by decide) S
  obtain ⟨hm1, _⟩ := hm
  have cb : ∀ p ∈ ys, p.1 < 2 ^ 300 := fun p hp => by
    have a : p.1 ≤ lf ys := by
      rw [← sum_lf hynn]
      exact mem_le_sum (fun z hz => by obtain ⟨y, hy, rfl⟩ := List.mem_map.mp hz; exact hynn y hy) (List.mem_map.mpr ⟨p, hp, rfl⟩)
    rw [hlf] at a
    omega
  obtain ⟨f0, f1⟩ := h.flo
  have hne := near_floor (l := ys) hynn (g := m + 4) (e := e) (Int.lt_trans hm1 (by
    have : (2 : Int) ^ (m + 4) = 2 ^ m * 16 := by rw [Int.pow_add]; rfl
    have := p2 m
    omega))
  rw [hvl] at hne
  obtain ⟨w, hw⟩ : ∃ w, kM (m + 4) e ys / 2 ^ (m + 4) = w := ⟨_, rfl⟩
  rw [hw] at hne
  obtain ⟨n1, n2⟩ := hne
  have hfw : flo l e = if (w + 1) * 2 ^ e ≤ vl l then w + 1 else w := by
    by_cases c : (w + 1) * 2 ^ e ≤ vl l
    · rw [if_pos c]
      exact flo_of c (by rw [show w + 1 + 1 = w + 2 by omega]; exact n2)
    · rw [if_neg c]
      exact flo_of n1 (by omega)
  have hw0 : 0 ≤ w + 1 ∧ w + 1 < 2 ^ 801 := by
    rw [hfw] at f0 f1
    have : (2 : Int) ^ 801 = 2 ^ 800 * 2 := Int.pow_succ _ _
    have := p2 800
    generalize (2 : Int) ^ 800 = Z at *
    split at f0 <;> split at f1 <;> omega
  unfold F_below
  refine wp_run ?_
  unfold B_below
  simp only [List.map, List.length, List.replicate, List.cons_append, List.nil_append]
  refine wp_seq (Post.mono (C := fun fl S1 => S1 = S ∧ fl = .nx [some x, some (.int e), some (.lst (ys.map row)), none, none, none, none]) ?_ ?_)
  · repeat walk_at "mk"
    refine Post.of_eq e1 ?_
    repeat walk_at "mk"
    exact ⟨rfl, rfl⟩
  rintro fl S1 ⟨rfl, rfl⟩
  refine wp_seqN ?_
  refine wp_seq (Post.mono (C := fun fl S2 => S2 = S1 ∧ fl = .nx [some x, some (.int e), some (.lst (ys.map row)), some (.int (m + 4 : Nat)), none, none, none]) ?_ ?_)
  · repeat walk_at "mk"
    refine ⟨by rw [List.length_map, line_eq, sizeLine_eq]; omega, ?_⟩
    refine wp_cmapM (fun p : Int × Nat => D.int p.1) (fun p hp => ?_) ?_
    · unfold row
      repeat walk_at "mk"
      refine ⟨rfl, ?_⟩
      repeat walk_at "mk"
      exact ⟨rfl, rfl⟩
    · rw [show (ys.map fun p : Int × Nat => D.int p.1) = (ys.map fun p => p.1).map D.int by rw [List.map_map]; rfl]
      repeat walk_at "mk"
      rw [sum_lf hynn]
      refine Post.of_eq em ?_
      repeat walk_at "mk"
      exact ⟨rfl, by push_cast; rfl⟩
  rintro fl S2 ⟨rfl, rfl⟩
  obtain ⟨g, hg⟩ : ∃ g, m + 4 = g := ⟨_, rfl⟩
  rw [hg] at hw ⊢
  refine wp_seqN ?_
  refine wp_seq (Post.mono (C := fun fl S3 => S3 = S2 ∧ fl = .nx [some x, some (.int e), some (.lst (ys.map row)), some (.int g), some (.int w), none, none]) ?_ ?_)
  · repeat walk_at "mk"
    refine ⟨by rw [List.length_map, line_eq, sizeLine_eq]; omega, ?_⟩
    refine wp_cfilM (fun p => decide (((p.2 : Int) + g) ≥ e)) (fun p : Int × Nat => D.int (p.1 * 2 ^ (p.2 + g - e))) (fun p hp => ?_) ?_
    · obtain ⟨p1, p0⟩ := hyp p hp
      have hnear := h.near p p1 p0
      have hc := cb p hp
      unfold row
      repeat walk_at "mk"
      refine ⟨rfl, ?_⟩
      repeat walk_at "mk"
      refine ⟨rfl, rfl, fun c => ?_⟩
      have c' := of_decide_eq_true c
      repeat walk_at "mk"
      rw [show ((p.2 : Int) + g - e) = ((p.2 + g - e : Nat) : Int) by omega]
      refine Post.of_eq (two_to_eq (by omega) _) ?_
      repeat walk_at "mk"
      · exact ⟨rfl, rfl⟩
      · exact MK.mulOk_of (a := 300) (b := 1002) (by omega) (Nat.lt_of_lt_of_le (pow_nat _) (Nat.pow_le_pow_right (by decide) (by omega))) (by decide)
    · rw [show ((ys.filter fun p => decide (((p.2 : Int) + g) ≥ e)).map fun p : Int × Nat => D.int (p.1 * 2 ^ (p.2 + g - e))) = ((kpt g e ys).map fun p => p.1 * 2 ^ (p.2 + g - e)).map D.int by rw [List.map_map]; rfl]
      repeat walk_at "mk"
      refine Post.of_eq (two_to_eq (by omega) _) ?_
      repeat walk_at "mk"
      · refine ⟨rfl, ?_⟩
        rw [← hw]
        rfl
      · exact divOk_of (p2 g) (b := g + 1) (pow_nat g) (by omega) (by omega)
  rintro fl S3 ⟨rfl, rfl⟩
  repeat walk_at "mk"
  have ec := compared_eq (x := x) (y := .lst [.tup [.int (w + 1), .int e]]) (l1 := l) (l2 := [(w + 1, e)]) hx rfl h.nn (fun p hp => by rw [List.mem_singleton.mp hp]; exact hw0.1) (by have := h.len; omega) (by show 1 ≤ 1000; decide) (N := 900) (by decide) (by
    have e2 : lf [(w + 1, e)] = w + 1 := by
      show ab (w + 1) + 0 = _
      unfold ab
      rw [if_neg (by omega)]
      omega
    rw [e2]
    have b1 : (2 : Int) ^ 300 ≤ 2 ^ 801 := pw_mono (by decide)
    have b2 : (2 : Int) ^ 801 * 2 = 2 ^ 802 := (Int.pow_succ _ _).symm
    have b3 : (2 : Int) ^ 802 ≤ 2 ^ 900 := pw_mono (by decide)
    generalize (2 : Int) ^ 801 = A at *
    generalize (2 : Int) ^ 802 = B at *
    generalize (2 : Int) ^ 900 = Z at *
    omega) S3
  refine Post.of_eq ec ?_
  repeat walk_at "mk"
  have e3 : vl [(w + 1, e)] = (w + 1) * 2 ^ e := by show (w + 1) * 2 ^ e + 0 = _; omega
  rw [e3]
  by_cases c : (w + 1) * 2 ^ e ≤ vl l
  · rw [if_pos c] at hfw
    refine ⟨fun _ => ?_, fun z => absurd (sg_nn_iff.mpr (by omega)) (of_decide_eq_false z)⟩
    repeat walk_at "mk"
    rw [hfw]
    exact ⟨rfl, rfl⟩
  · rw [if_neg c] at hfw
    refine ⟨fun z => absurd (sg_nn_iff.mp (of_decide_eq_true z)) (by omega), fun _ => ?_⟩
    repeat walk_at "mk"
    rw [hfw]
    exact ⟨rfl, rfl⟩
theorem sg_zero_iff {x : Int} : sg x = 0 ↔ x = 0 := by
  unfold sg
  by_cases c : 0 < x
  · rw [if_pos c]; omega
  · rw [if_neg c]
    split <;> omega
theorem above_eq {l : Pile} {e : Nat} (h : Low l e) {x : D} (hx : x.still = some (l.map pr)) (S : Store) : F_above [x, .int e] S = .ok (.int (cei l e)) S := by
  refine Post.eq ?_
  obtain ⟨f0, f1⟩ := h.flo
  have hc := cei_of l e
  obtain ⟨w, hw⟩ : ∃ w, flo l e = w := ⟨_, rfl⟩
  have hb := below_eq h hx S
  rw [hw] at f0 f1 hc hb
  unfold F_above
  refine wp_run ?_
  unfold B_above
  simp only [List.map, List.length, List.replicate, List.cons_append, List.nil_append]
  repeat walk_at "mk"
  refine Post.of_eq hb ?_
  repeat walk_at "mk"
  have hs := h.sum
  have ec := compared_eq (x := x) (y := .lst [.tup [.int w, .int e]]) (l1 := l) (l2 := [(w, e)]) hx rfl h.nn (fun p hp => by rw [List.mem_singleton.mp hp]; exact f0) (by have := h.len; omega) (by show 1 ≤ 1000; decide) (N := 900) (by decide) (by
    have e2 : lf [(w, e)] = w := by
      show ab w + 0 = _
      unfold ab
      rw [if_neg (by omega)]
      omega
    rw [e2]
    have b1 : (2 : Int) ^ 300 ≤ 2 ^ 800 := pw_mono (by decide)
    have b2 : (2 : Int) ^ 800 * 2 = 2 ^ 801 := (Int.pow_succ _ _).symm
    have b3 : (2 : Int) ^ 801 ≤ 2 ^ 900 := pw_mono (by decide)
    generalize (2 : Int) ^ 800 = A at *
    generalize (2 : Int) ^ 801 = B at *
    generalize (2 : Int) ^ 900 = Z at *
    omega) S
  refine Post.of_eq ec ?_
  repeat walk_at "mk"
  have e3 : vl [(w, e)] = w * 2 ^ e := by show w * 2 ^ e + 0 = _; omega
  rw [e3]
  by_cases c : vl l = w * 2 ^ e
  · rw [if_pos c] at hc
    have z0 : sg (vl l - w * 2 ^ e) = 0 := sg_zero_iff.mpr (by omega)
    rw [z0]
    refine ⟨fun _ => ?_, fun z => absurd z (by decide)⟩
    repeat walk_at "mk"
    rw [hc]
    exact ⟨rfl, rfl⟩
  · rw [if_neg c] at hc
    have z0 : ¬ sg (vl l - w * 2 ^ e) = 0 := fun q => c (by have := sg_zero_iff.mp q; omega)
    refine ⟨fun z => absurd (by simpa using z) z0, fun _ => ?_⟩
    repeat walk_at "mk"
    rw [hc]
    exact ⟨rfl, rfl⟩
/-! ### around -/
def IsMost (l : Pile) (most : Nat) : Prop := (∀ p ∈ posv l, ∃ m, IsBits p.1 m ∧ p.2 + m ≤ most) ∧ ∃ p ∈ posv l, ∃ m, IsBits p.1 m ∧ p.2 + m = most
theorem IsMost.uniq {l : Pile} {a b : Nat} (h : IsMost l a) (g : IsMost l b) : a = b := by
  obtain ⟨h1, p, hp, m, hm, e⟩ := h
  obtain ⟨g1, q, hq, k, hk, e2⟩ := g
  obtain ⟨m2, hm2, l1⟩ := g1 p hp
  obtain ⟨k2, hk2, l2⟩ := h1 q hq
  rw [hm.uniq hm2] at e
  rw [hk.uniq hk2] at e2
  omega
/-- where the rounding stands -/
def Stands (highs : Pile) (bits e : Nat) : Prop := ∃ most, IsMost highs most ∧ most - bits ≤ e ∧ cei highs e < 2 ^ bits ∧ ∀ e', most - bits ≤ e' → e' < e → 2 ^ bits ≤ cei highs e'
theorem Stands.uniq {highs : Pile} {bits a b : Nat} (h : Stands highs bits a) (g : Stands highs bits b) : a = b := by
  obtain ⟨m, h1, h2, h3, h4⟩ := h
  obtain ⟨k, g1, g2, g3, g4⟩ := g
  have e := h1.uniq g1
  subst e
  rcases Nat.lt_trichotomy a b with q | q | q
  · have := g4 a h2 q; omega
  · exact q
  · have := h4 b g2 q; omega
structure HiOk (l : Pile) : Prop where
  nn : ∀ p ∈ l, 0 ≤ p.1
  len : l.length ≤ 900
  sum : lf l < 2 ^ 300
theorem most_lt {l : Pile} {most : Nat} (h : HiOk l) (hm : IsMost l most) : vl l ≤ 2 ^ (most + 10) := by
  have hp := vl_posv h.nn
  have b : ∀ (k : Pile), (∀ p ∈ k, p ∈ posv l) → vl k ≤ 2 ^ most * (k.length : Int) := by
    intro k
    induction k with
    | nil => intro _; simp [vl]
    | cons p k ih =>
      intro hk
      have i := ih fun q hq => hk q (List.mem_cons_of_mem _ hq)
      obtain ⟨m, hb, hle⟩ := hm.1 p (hk p List.mem_cons_self)
      have h1 : p.1 * 2 ^ p.2 ≤ 2 ^ m * 2 ^ p.2 := Int.mul_le_mul_of_nonneg_right (Int.le_of_lt hb.1) (Int.le_of_lt (p2 _))
      rw [← Int.pow_add] at h1
      have h2 : (2 : Int) ^ (m + p.2) ≤ 2 ^ most := pw_mono (by omega)
      rw [vl_cons, List.length_cons]
      push_cast
      rw [Int.mul_add, Int.mul_one]
      omega
  have q := b (posv l) fun p hp => hp
  rw [hp.1] at q
  have hl : (posv l).length ≤ 900 := Nat.le_trans (posv_len l) h.len
  have r : (2 : Int) ^ most * ((posv l).length : Int) ≤ 2 ^ most * 1024 := Int.mul_le_mul_of_nonneg_left (by omega) (Int.le_of_lt (p2 _))
  have e : (2 : Int) ^ (most + 10) = 2 ^ most * 1024 := by rw [Int.pow_add]; rfl
  omega
theorem cei_le {l : Pile} {e k : Nat} (h : vl l ≤ 2 ^ (e + k)) : cei l e ≤ 2 ^ k := by
  unfold cei
  have : -(2 ^ k) ≤ -(vl l) / 2 ^ e := (Int.le_ediv_iff_mul_le (p2 e)).mpr (by
    rw [Int.neg_mul, ← Int.pow_add, Nat.add_comm k e]
    omega)
  omega
theorem near_of {l : Pile} {most bits e : Nat} (hm : IsMost l most) (hb : bits ≤ 300) (he : most - bits ≤ e) : ∀ p ∈ l, 0 < p.1 → p.2 ≤ e + 500 := fun p hp h0 => by
  obtain ⟨m, _, hle⟩ := hm.1 p (List.mem_filter.mpr ⟨hp, decide_eq_true h0⟩)
  omega
theorem HiOk.low {l : Pile} (h : HiOk l) {most bits e : Nat} (hm : IsMost l most) (hb : bits ≤ 300) (he : most - bits ≤ e) : Low l e := ⟨h.nn, h.len, h.sum, near_of hm hb he⟩
/-- lows that are no more than highs stand near enough -/
theorem lows_low {lo hi : Pile} (hl : HiOk lo) (hv : vl lo ≤ vl hi) {bits e : Nat} (hb : bits ≤ 300) (hc : cei hi e < 2 ^ bits) : Low lo e := by
  refine ⟨hl.nn, hl.len, hl.sum, fun p hp h0 => ?_⟩
  have h1 : vl hi ≤ cei hi e * 2 ^ e := by
    rw [cei_of]
    obtain ⟨_, q⟩ := flo_bounds hi e
    split
    · rename_i z; omega
    · omega
  have h2 : cei hi e * 2 ^ e ≤ 2 ^ bits * 2 ^ e := Int.mul_le_mul_of_nonneg_right (Int.le_of_lt hc) (Int.le_of_lt (p2 _))
  rw [← Int.pow_add] at h2
  have h3 : p.1 * 2 ^ p.2 ≤ vl lo := by
    unfold vl
    exact mem_le_sum (fun z hz => by obtain ⟨y, hy, rfl⟩ := List.mem_map.mp hz; exact Int.mul_nonneg (hl.nn y hy) (Int.le_of_lt (p2 _))) (List.mem_map.mpr ⟨p, hp, rfl⟩)
  have h4 : 1 * 2 ^ p.2 ≤ p.1 * 2 ^ p.2 := Int.mul_le_mul_of_nonneg_right (by omega) (Int.le_of_lt (p2 _))
  by_cases q : p.2 ≤ e + 500
  · exact q
  · have : (2 : Int) ^ (bits + e) < 2 ^ p.2 := by
      have a1 : (2 : Int) ^ (bits + e + 1) ≤ 2 ^ p.2 := pw_mono (by omega)
      have a2 := p2 (bits + e)
      rw [Int.pow_succ] at a1
      omega
    omega
theorem row_eq_nil {l : Pile} {S : Store} {C : D → Store → Prop} (h : C (.bl (decide (l = []))) S) : Post (eqD (.lst (l.map row)) (.lst []) S) C := by
  refine wp_eqP (p := .list (l.map prow)) (q := .list []) (by show (D.lst (l.map row)).py = _; simp only [D.py, pys_row, Option.map_some]) rfl ?_ rfl ?_
  · have lay : ∀ l : Pile, PyData.canLayAll0 (l.map prow) = true ∧ PyData.depthAll (l.map prow) ≤ 1 := fun l => by
      induction l with
      | nil => exact ⟨rfl, by simp [PyData.depthAll]⟩
      | cons x l ih =>
        rw [List.map_cons]
        refine ⟨by simp only [PyData.canLayAll0, PyData.canLay0, ih.1, Bool.and_self], ?_⟩
        have := ih.2
        simp only [PyData.depthAll, PyData.depth] at *
        omega
    have h := lay l
    show ((PyData.list (l.map prow)).canLay0 && decide ((PyData.list (l.map prow)).depth ≤ 64)) = true
    have e1 : (PyData.list (l.map prow)).canLay0 = true := by simp only [PyData.canLay0]; exact h.1
    have e2 : (PyData.list (l.map prow)).depth ≤ 64 := by
      have := h.2
      simp only [PyData.depth]
      omega
    rw [e1, decide_eq_true e2]
    rfl
  · cases l with
    | nil => exact h
    | cons a b => exact h
theorem around_eq {lo hi : Pile} (hl : HiOk lo) (hh : HiOk hi) (hv : vl lo ≤ vl hi) {bits : Nat} (b0 : 0 < bits) (b1 : bits ≤ 300) {x y : D} (hx : x.still = some (lo.map pr)) (hy : y.still = some (hi.map pr)) (S : Store) :
    ∃ r : D, F_around [x, y, .int bits] S = .ok r S ∧ ((posv hi = [] ∧ r = .tup [.int 0, .int 0, .int 0]) ∨ ∃ e : Nat, Stands hi bits e ∧ r = .tup [.int (flo lo e), .int (cei hi e), .int e]) := by
  have main : Post (F_around [x, y, .int bits] S) fun r S' => S' = S ∧ ((posv hi = [] ∧ r = .tup [.int 0, .int 0, .int 0]) ∨ ∃ e : Nat, Stands hi bits e ∧ r = .tup [.int (flo lo e), .int (cei hi e), .int e]) := by
    obtain ⟨ys, e1, q1⟩ := descending_eq hi hy (by have := hh.len; omega) S
    have hyl : ys.length ≤ 900 := by rw [q1.length_eq]; exact Nat.le_trans (posv_len _) hh.len
    have hyp := nn_pos q1
    have cb : ∀ p ∈ ys, p.1 < 2 ^ 300 := fun p hp => by
      have a : p.1 ≤ lf hi := by
        rw [← sum_lf hh.nn]
        exact mem_le_sum (fun z hz => by obtain ⟨y, hy, rfl⟩ := List.mem_map.mp hz; exact hh.nn y hy) (List.mem_map.mpr ⟨p, (hyp p hp).1, rfl⟩)
      have := hh.sum
      omega
    unfold F_around
    refine wp_run ?_
    unfold B_around
    simp only [List.map, List.length, List.replicate, List.cons_append, List.nil_append]
    refine wp_seq (Post.mono (C := fun fl S1 => S1 = S ∧ fl = .nx [some x, some y, some (.int bits), some (.lst (ys.map row)), none, none, none]) ?_ ?_)
    · repeat walk_at "mk"
      refine Post.of_eq e1 ?_
      repeat walk_at "mk"
      exact ⟨rfl, rfl⟩
    rintro fl S1 ⟨rfl, rfl⟩
    refine wp_seqN ?_
    by_cases h0 : ys = []
    · subst h0
      repeat walk_at "mk"
      refine row_eq_nil (l := []) ?_
      repeat walk_at "mk"
      rw [decide_eq_true rfl]
      repeat walk_at "mk"
      exact ⟨rfl, .inl ⟨List.nil_perm.mp q1, rfl⟩⟩
    refine wp_seq (Post.mono (C := fun fl S2 => S2 = S1 ∧ fl = .nx [some x, some y, some (.int bits), some (.lst (ys.map row)), none, none, none]) ?_ ?_)
    · repeat walk_at "mk"
      refine row_eq_nil ?_
      rw [decide_eq_false h0]
      repeat walk_at "mk"
      exact ⟨rfl, rfl⟩
    rintro fl S2 ⟨rfl, rfl⟩
    refine wp_seqN ?_
    -- the bits of every row
    have hbits : ∀ p ∈ ys, ∃ m, F_bits_of [.int p.1] S2 = .ok (.int (m : Nat)) S2 ∧ IsBits p.1 m ∧ m ≤ 300 := fun p hp => bits_exact (Int.le_of_lt (hyp p hp).2) (cb p hp) (by decide) S2
    obtain ⟨bf, hbf⟩ : ∃ bf : Int × Nat → Nat, ∀ p ∈ ys, F_bits_of [.int p.1] S2 = .ok (.int (bf p : Nat)) S2 ∧ IsBits p.1 (bf p) ∧ bf p ≤ 300 := by
      refine ⟨fun p => if h : p ∈ ys then (hbits p h).choose else 0, fun p hp => ?_⟩
      simp only [dif_pos hp]
      exact (hbits p hp).choose_spec
    have hne : 0 < (ys.map fun p => (p.2 : Int) + (bf p : Nat)).length := by rw [List.length_map]; exact List.length_pos_iff.mpr h0
    obtain ⟨most, hmost, hM⟩ : ∃ most : Nat, maxL (ys.map fun p => (p.2 : Int) + (bf p : Nat)) = most ∧ IsMost hi most := by
      obtain ⟨m1, m2⟩ := maxL_is _ hne
      obtain ⟨p, hp, e⟩ := List.mem_map.mp m1
      refine ⟨p.2 + bf p, by rw [← e]; push_cast; rfl, fun q hq => ?_, p, q1.mem_iff.mp hp, bf p, (hbf p hp).2.1, rfl⟩
      have hq' := q1.mem_iff.mpr hq
      have := m2 _ (List.mem_map.mpr ⟨q, hq', rfl⟩)
      rw [← e] at this
      exact ⟨bf q, (hbf q hq').2.1, by omega⟩
    refine wp_seq (Post.mono (C := fun fl S1 => S1 = S2 ∧ fl = .nx [some x, some y, some (.int bits), some (.lst (ys.map row)), some (.int most), none, none]) ?_ ?_)
    · repeat walk_at "mk"
      refine ⟨by rw [List.length_map, line_eq, sizeLine_eq]; omega, ?_⟩
      refine wp_cmapM (fun p : Int × Nat => D.int ((p.2 : Int) + (bf p : Nat))) (fun p hp => ?_) ?_
      · unfold row
        repeat walk_at "mk"
        refine ⟨rfl, ?_⟩
        repeat walk_at "mk"
        refine Post.of_eq (hbf p hp).1 ?_
        repeat walk_at "mk"
        exact ⟨rfl, rfl⟩
      · repeat walk_at "mk"
        refine wp_maxAL (ns := ys.map fun p => (p.2 : Int) + (bf p : Nat)) (by show some _ = some _; rw [List.map_map]; rfl) hne ?_
        rw [hmost]
        repeat walk_at "mk"
        exact ⟨rfl, rfl⟩
    rintro fl S3 ⟨rfl, rfl⟩
    refine wp_seqN ?_
    refine wp_seq (Post.mono (C := fun fl S1 => S1 = S3 ∧ fl = .nx [some x, some y, some (.int bits), some (.lst (ys.map row)), some (.int most), some (.int (most - bits : Nat)), none]) ?_ ?_)
    · repeat walk_at "mk"
      refine ⟨rfl, ?_⟩
      have : (if (most : Int) - bits > 0 then (most : Int) - bits else 0) = ((most - bits : Nat) : Int) := by split <;> omega
      rw [this]
      rfl
    rintro fl S4 ⟨rfl, rfl⟩
    repeat walk_at "mk"
    refine wp_while (fun m ρ S' => S' = S4 ∧ ∃ e : Nat, ρ = [some x, some y, some (.int bits), some (.lst (ys.map row)), some (.int most), some (.int e), none] ∧ m = most + 12 - (e + bits) ∧ most - bits ≤ e ∧ ∀ e', most - bits ≤ e' → e' < e → 2 ^ bits ≤ cei hi e') (most + 12 - (most - bits + bits)) (by omega) ⟨rfl, most - bits, rfl, rfl, Nat.le_refl _, fun e' h1 h2 => by omega⟩ ?_
    rintro m ρ S' ⟨rfl, e, rfl, rfl, he, hbe⟩
    have lh := hh.low hM b1 he
    repeat walk_at "mk"
    refine Post.of_eq (above_eq lh hy _) ?_
    repeat walk_at "mk"
    refine Post.of_eq (two_to_eq (by omega) _) ?_
    repeat walk_at "mk"
    refine ⟨fun c => ?_, fun c => ?_⟩
    · have c' : (2 : Int) ^ bits ≤ cei hi e := of_decide_eq_true c
      have hlt : e + bits < most + 11 := by
        by_cases q : e + bits < most + 11
        · exact q
        · have v := most_lt hh hM
          have v2 : (2 : Int) ^ (most + 10) ≤ 2 ^ (e + (bits - 1)) := pw_mono (by omega)
          have v3 := cei_le (l := hi) (e := e) (k := bits - 1) (by omega)
          have v4 : (2 : Int) ^ bits = 2 ^ (bits - 1) * 2 := by rw [← Int.pow_succ]; congr 1; omega
          have := p2 (bits - 1)
          omega
      repeat walk_at "mk"
      refine ⟨most + 12 - (e + 1 + bits), by omega, rfl, e + 1, by push_cast; rfl, rfl, by omega, fun e' h1 h2 => ?_⟩
      by_cases q : e' = e
      · rw [q]; exact c'
      · exact hbe e' h1 (by omega)
    · have c' : cei hi e < 2 ^ bits := by
        have : ¬ (cei hi e ≥ 2 ^ bits) := of_decide_eq_false c
        omega
      repeat walk_at "mk"
      refine Post.of_eq (below_eq (lows_low hl hv b1 c') hx _) ?_
      repeat walk_at "mk"
      refine Post.of_eq (above_eq lh hy _) ?_
      repeat walk_at "mk"
      exact ⟨rfl, .inr ⟨e, ⟨most, hM, he, c', hbe⟩, rfl⟩⟩
  obtain ⟨r, S', e, rfl, q⟩ := main
  exact ⟨r, e, q⟩
/-! ### the law's own powers and lengths -/
local macro_rules | `(tactic| walk_at "side") => `(tactic| (first | exact dv2 | exact MK.mulOk_of (pow_nat _) (pow_nat _) (by omega) | exact MK.mulOk_of (a := 40) (b := 40) (by omega) (by omega) (by decide)))
theorem law_two_eq {e : Nat} (he : e ≤ 100000) (S : Store) : F__law_two [.int e] S = .ok (.int (2 ^ e)) S := by
  refine Post.eq ?_
  unfold F__law_two
  refine wp_run ?_
  unfold B__law_two
  simp only [List.map, List.length, List.replicate, List.cons_append, List.nil_append]
  repeat walk_at "mk"
  refine wp_while (fun m ρ S' => ∃ a k d : Nat, S' = S ∧ ρ = [some (.int d), some (.int (2 ^ a)), some (.int (2 ^ k))] ∧ m = d ∧ d ≤ e ∧ a + k * d = e) e (by omega) ⟨0, 1, e, rfl, rfl, rfl, Nat.le_refl _, by omega⟩ ?_
  rintro m ρ S' ⟨a, k, d, rfl, rfl, rfl, hm, h⟩
  repeat walk_at "mk"
  refine ⟨fun c => ?_, fun c => ?_⟩
  · have m0 : 0 < m := by simpa using c
    have hk := k_le a k m e h m0
    have e2 : (2 : Int) ^ k * 2 ^ k = 2 ^ (k + k) := (Int.pow_add ..).symm
    repeat walk_at "mk"
    all_goals try walk_at "side"
    refine ⟨fun c1 => ?_, fun c1 => ?_⟩
    · have c2 : m % 2 = 1 := by
        have : ((m : Int) % 2 = 1) := by simpa using c1
        omega
      repeat walk_at "mk"
      all_goals try walk_at "side"
      · refine ⟨m / 2, by omega, a + k, k + k, m / 2, rfl, ?_, rfl, by omega, halves1 a k m e h c2⟩
        rw [half_eq, e2, ← Int.pow_add]
        rfl
    · have c2 : m % 2 = 0 := by
        have : ¬ ((m : Int) % 2 = 1) := by simpa using c1
        omega
      repeat walk_at "mk"
      all_goals try walk_at "side"
      · refine ⟨m / 2, by omega, a, k + k, m / 2, rfl, ?_, rfl, by omega, halves a k m e h c2⟩
        rw [half_eq, e2]
        rfl
  · have m0 : m = 0 := by
      have : ¬ (0 < m) := by simpa using c
      omega
    subst m0
    repeat walk_at "mk"
    have : a = e := by omega
    exact ⟨by rw [this], rfl⟩
theorem long_exact {x : Int} {N : Nat} (h0 : 0 ≤ x) (h : x < 2 ^ N) (hN : N ≤ 100000) (S : Store) : ∃ m : Nat, F__law_long [.int x] S = .ok (.int m) S ∧ IsBits x m ∧ m ≤ N := by
  have dL : divOk 1152921504606846976 := divOk_of (by decide) (b := 62) (by decide) (by decide) (by decide)
  have main : Post (F__law_long [.int x] S) fun d S' => S' = S ∧ ∃ m : Nat, d = .int m ∧ IsBits x m ∧ m ≤ N := by
    unfold F__law_long
    refine wp_run ?_
    unfold B__law_long
    simp only [List.map, List.length, List.replicate, List.cons_append, List.nil_append]
    repeat walk_at "mk"
    refine wp_while (fun m ρ S' => S' = S ∧ ∃ (y : Int) (k : Nat), ρ = [some (.int y), some (.int k)] ∧ m + k = N ∧ y < 2 ^ m ∧ BInv x y k) N (by omega) ⟨rfl, x, 0, rfl, by omega, h, BInv.start h0⟩ ?_
    rintro m ρ S' ⟨rfl, y, k, rfl, hmk, hy, inv⟩
    repeat walk_at "mk"
    refine ⟨fun c => ?_, fun c => ?_⟩
    · have c' : (1152921504606846976 : Int) ≤ y := by simpa using c
      have hm : 60 ≤ m := by
        by_cases q : 60 ≤ m
        · exact q
        · have := Nat.pow_le_pow_right (n := 2) (by decide) (show m ≤ 60 by omega)
          have a1 : (2 : Int) ^ m = ((2 ^ m : Nat) : Int) := by push_cast; rfl
          omega
      repeat walk_at "mk"
      · exact ⟨m - 60, by omega, rfl, y / 1152921504606846976, k + 60, by push_cast; rfl, by omega, two_lt (k := 60) inv.1 hy hm, inv.big (j := 60) rfl c'⟩
      · exact dL
    · repeat walk_at "mk"
      refine wp_while (fun m ρ S1 => S1 = S' ∧ ∃ (y : Int) (k : Nat), ρ = [some (.int y), some (.int k)] ∧ m + k = N ∧ y < 2 ^ m ∧ BInv x y k) m (by omega) ⟨rfl, y, k, rfl, hmk, hy, inv⟩ ?_
      rintro m ρ S' ⟨rfl, y, k, rfl, hmk, hy, inv⟩
      repeat walk_at "mk"
      refine ⟨fun c => ?_, fun c => ?_⟩
      · have c' : (0 : Int) < y := by simpa using c
        have hm : 1 ≤ m := by
          by_cases q : 1 ≤ m
          · exact q
          · have e : m = 0 := by omega
            subst e
            rw [Int.pow_zero] at hy
            omega
        repeat walk_at "mk"
        · exact ⟨m - 1, by omega, rfl, y / 2, k + 1, by push_cast; rfl, by omega, two_lt (k := 1) inv.1 hy hm, inv.half c'⟩
        · exact dv2
      · have c' : ¬ (0 : Int) < y := by simpa using c
        have e : y = 0 := by have := inv.1; omega
        subst e
        repeat walk_at "mk"
        exact ⟨rfl, k, rfl, inv.done, by omega⟩
  obtain ⟨d, S', e, rfl, m, rfl, hm⟩ := main
  exact ⟨m, e, hm⟩
/-! ### the law's own order -/
theorem row_shaped (l : Pile) : SeqAt.shaped (.list (l.map prow)) = true := by
  have lay : ∀ l : Pile, PyData.canLayAll0 (l.map prow) = true ∧ PyData.depthAll (l.map prow) ≤ 1 := fun l => by
    induction l with
    | nil => exact ⟨rfl, by simp [PyData.depthAll]⟩
    | cons x l ih =>
      rw [List.map_cons]
      refine ⟨by simp only [PyData.canLayAll0, PyData.canLay0, ih.1, Bool.and_self], ?_⟩
      have := ih.2
      simp only [PyData.depthAll, PyData.depth] at *
      omega
  have h := lay l
  show ((PyData.list (l.map prow)).canLay0 && decide ((PyData.list (l.map prow)).depth ≤ 64)) = true
  have e1 : (PyData.list (l.map prow)).canLay0 = true := by simp only [PyData.canLay0]; exact h.1
  have e2 : (PyData.list (l.map prow)).depth ≤ 64 := by
    have := h.2
    simp only [PyData.depth]
    omega
  rw [e1, decide_eq_true e2]
  rfl
theorem cell_ne_nil {l : Pile} {k : Nat} {S : Store} (hk : S[k]? = some (.lst (l.map row))) {C : D → Store → Prop} (h : C (.bl (!decide (l = []))) S) : Post (neD (.cell k) (.lst []) S) C := by
  refine wp_neP (p := .list (l.map prow)) (q := .list []) (by simp only [D.pyS, hk, pys_row, Option.map_some]) rfl (row_shaped l) rfl ?_
  cases l with
  | nil => exact h
  | cons a b => exact h
theorem lf_snoc (l : Pile) (p : Int × Nat) : lf (l ++ [p]) = lf l + ab p.1 := by rw [lf_append]; show lf l + (ab p.1 + 0) = _; omega
theorem vl_snoc (l : Pile) (p : Int × Nat) : vl (l ++ [p]) = vl l + p.1 * 2 ^ p.2 := by rw [vl_append]; show vl l + (p.1 * 2 ^ p.2 + 0) = _; omega
theorem order_eq {l1 l2 : Pile} {x y : D} (hx : x.still = some (l1.map pr)) (hy : y.still = some (l2.map pr)) (h1 : ∀ p ∈ l1, 0 ≤ p.1) (h2 : ∀ p ∈ l2, 0 ≤ p.1) (n1 : l1.length ≤ 1000) (n2 : l2.length ≤ 1000) {N : Nat} (hN : N ≤ 1000) (hb : lf l1 + lf l2 < 2 ^ N) {S : Store} {C : D → Store → Prop}
    (q : ∀ S', (∀ (k : Nat) (c : Cell), S[k]? = some c → S'[k]? = some c) → C (.int (sg (vl l1 - vl l2))) S') : Post (F__law_order [x, y] S) C := by
  obtain ⟨zs, ez, qz, sz⟩ := sort_gen row prow (posv l1 ++ neg (posv l2))
  have asc : zs.Pairwise fun a b => a.2 ≤ b.2 := sz.imp fun {a b} h => by
    have := dataLt_first h
    omega
  have hv : vl zs = vl l1 - vl l2 := by
    rw [vl_perm qz, vl_append, (vl_neg _).1, (vl_posv h1).1, (vl_posv h2).1]
    omega
  have hlf : lf zs = lf l1 + lf l2 := by rw [lf_perm qz, lf_append, lf_neg, lf_posv h1, lf_posv h2]
  have hlen : zs.length ≤ 2000 := by
    rw [qz.length_eq, List.length_append]
    unfold neg
    rw [List.length_map]
    have := posv_len l1
    have := posv_len l2
    omega
  have hb' : lf zs < 2 ^ N := by rw [hlf]; exact hb
  rw [← hv] at q
  unfold F__law_order
  refine wp_run ?_
  unfold B__law_order
  simp only [List.map, List.length, List.replicate, List.cons_append, List.nil_append]
  refine wp_seq (Post.mono (C := fun fl S1 => S1 = S ∧ fl = .nx [some x, some y, some (.lst ((posv l1 ++ neg (posv l2)).map row)), none, none, none, none, none]) ?_ ?_)
  · repeat walk_at "mk"
    refine ⟨_, hx, ?_⟩
    refine ⟨by rw [List.length_map, line_eq, sizeLine_eq]; omega, ?_⟩
    refine wp_cfilM (fun p => decide (p.1 > 0)) row (fun p hp => ?_) ?_
    · unfold pr
      repeat walk_at "mk"
      refine ⟨rfl, ?_⟩
      repeat walk_at "mk"
      refine ⟨rfl, rfl, fun c => ?_⟩
      repeat walk_at "mk"
      exact ⟨rfl, rfl⟩
    repeat walk_at "mk"
    refine ⟨_, hy, ?_⟩
    refine ⟨by rw [List.length_map, line_eq, sizeLine_eq]; omega, ?_⟩
    refine wp_cfilM (fun p => decide (p.1 > 0)) (fun p : Int × Nat => row (0 - p.1, p.2)) (fun p hp => ?_) ?_
    · unfold pr
      repeat walk_at "mk"
      refine ⟨rfl, ?_⟩
      repeat walk_at "mk"
      refine ⟨rfl, rfl, fun c => ?_⟩
      repeat walk_at "mk"
      exact ⟨rfl, rfl⟩
    repeat walk_at "mk"
    · refine ⟨rfl, ?_⟩
      unfold neg posv
      rw [List.map_append, List.map_map]
      rfl
    · rw [List.length_map, List.length_map, line_eq, sizeLine_eq]
      have a1 := List.length_filter_le (fun p : Int × Nat => decide (p.1 > 0)) l1
      have a2 := List.length_filter_le (fun p : Int × Nat => decide (p.1 > 0)) l2
      omega
  rintro fl S1 ⟨rfl, rfl⟩
  refine wp_seqN ?_
  have get3 : ∀ c : Cell, (S1 ++ [c])[S1.length]? = some c := fun c => by rw [List.getElem?_append_right (Nat.le_refl _), Nat.sub_self]; rfl
  have set3 : ∀ c c' : Cell, (S1 ++ [c]).set S1.length c' = S1 ++ [c'] := fun c c' => by rw [List.set_append_right _ _ (Nat.le_refl _), Nat.sub_self]; rfl
  have keep3 : ∀ c : Cell, ∀ (k : Nat) (c' : Cell), S1[k]? = some c' → (S1 ++ [c])[k]? = some c' := fun c k c' e => by rw [List.getElem?_append_left (List.getElem?_eq_some_iff.mp e).1]; exact e
  refine wp_seq (Post.mono (C := fun fl S2 => S2 = S1 ++ [.lst (zs.map row)] ∧ fl = .nx [some x, some y, some (.lst ((posv l1 ++ neg (posv l2)).map row)), some (.cell S1.length), some (.int 0), some (.int 0), none, none]) ?_ ?_)
  · repeat walk_at "mk"
    refine wp_sortedN rfl (pys_row _) (srtB_row _) ?_
    rw [ez]
    repeat walk_at "mk"
    exact ⟨rfl, rfl⟩
  rintro fl S2 ⟨rfl, rfl⟩
  repeat walk_at "mk"
  refine wp_while (fun m ρ S' => ∃ (r d : Pile) (g : Int) (t : Nat) (o6 o7 : Option D), S' = S1 ++ [.lst (r.map row)] ∧ ρ = [some x, some y, some (.lst ((posv l1 ++ neg (posv l2)).map row)), some (.cell S1.length), some (.int g), some (.int t), o6, o7] ∧ m = r.length ∧ zs = r ++ d ∧ vl zs = g * 2 ^ t + vl r ∧ (g ≠ 0 → ∀ p ∈ r, p.2 ≤ t) ∧ ab g ≤ 2 ^ (4001 * d.length + N)) zs.length (by omega)
    ⟨zs, [], 0, 0, none, none, rfl, rfl, rfl, (List.append_nil _).symm, by rw [Int.zero_mul, Int.zero_add], fun h => absurd rfl h, by rw [show ab 0 = 0 from rfl]; exact Int.le_of_lt (p2 _)⟩ ?_
  rintro m ρ S' ⟨r, d, g, t, o6, o7, rfl, rfl, rfl, hzs, hT, ht, hg⟩
  repeat walk_at "mk"
  refine cell_ne_nil (l := r) (get3 _) ?_
  repeat walk_at "mk"
  rcases List.eq_nil_or_concat r with rfl | ⟨r', p, er⟩
  · refine ⟨fun c => absurd c (by rw [decide_eq_true rfl]; decide), fun _ => ?_⟩
    repeat walk_at "mk"
    refine wp_subB ?_
    repeat walk_at "mk"
    have e : vl zs = g * 2 ^ t := by rw [hT, show vl [] = 0 from rfl, Int.add_zero]
    rw [sg_bool, ← sg_mul (g := g) t, ← e]
    exact q _ (keep3 _)
  · rw [List.concat_eq_append] at er
    subst er
    have hrl : (r' ++ [p]).length ≤ 2000 := by
      have := congrArg List.length hzs
      rw [List.length_append] at this
      omega
    have hdl : d.length ≤ 2000 := by
      have := congrArg List.length hzs
      rw [List.length_append] at this
      omega
    rw [List.length_append, List.length_singleton] at hrl
    have hle : ∀ z ∈ r', z.2 ≤ p.2 := by
      rw [hzs, List.append_assoc] at asc
      have a := (List.pairwise_append.mp asc).2.2
      exact fun z hz => a z hz p (by simp)
    have hlr : lf (r' ++ [p]) ≤ lf zs := by
      have e : lf zs = lf (r' ++ [p]) + lf d := by rw [hzs]; exact lf_append (r' ++ [p]) d
      have := lf_nn d
      omega
    have hab : ab p.1 < 2 ^ N := by
      have := lf_nn r'
      rw [lf_snoc] at hlr
      omega
    have hzs' : zs = r' ++ (p :: d) := by rw [hzs, List.append_assoc]; rfl
    have ebound : (4001 * (p :: d).length + N) = 4001 * d.length + N + 4001 := by rw [List.length_cons]; omega
    have hk : (S1 ++ [Cell.lst ((r' ++ [p]).map row)])[S1.length]? = some (.lst (r'.map row ++ [row p])) := by rw [get3, List.map_append]; rfl
    refine ⟨fun _ => ?_, fun c => absurd c (by rw [decide_eq_false (by simp)]; decide)⟩
    repeat walk_at "mk"
    refine wp_pop hk (y := row p) (by rw [List.length_append]; show (r'.map row ++ [row p])[(r'.map row).length + 1 - 1]? = _; rw [Nat.add_sub_cancel, List.getElem?_append_right (Nat.le_refl _), Nat.sub_self]; rfl) ?_
    rw [set3, List.dropLast_concat]
    unfold row
    repeat walk_at "mk"
    have fin : ∀ (g1 : Int), vl zs = g1 * 2 ^ p.2 + p.1 * 2 ^ p.2 + vl r' → ab g1 ≤ 2 ^ (4001 * d.length + N + 4000) → vl zs = (g1 + p.1) * 2 ^ p.2 + vl r' ∧ ab (g1 + p.1) ≤ 2 ^ (4001 * (p :: d).length + N) := fun g1 e1 e2 => by
      refine ⟨by rw [Int.add_mul]; omega, ?_⟩
      have a1 := ab_add g1 p.1
      have a2 : (2 : Int) ^ N ≤ 2 ^ (4001 * d.length + N + 4000) := pw_mono (by omega)
      have a3 : (2 : Int) ^ (4001 * d.length + N + 4001) = 2 ^ (4001 * d.length + N + 4000) * 2 := Int.pow_succ _ _
      rw [ebound, a3]
      omega
    refine ⟨fun c => ?_, fun c => ?_⟩
    · have hg0 : g ≠ 0 := by simpa using c
      have htp := ht hg0 p (by simp)
      repeat walk_at "mk"
      refine ⟨fun c2 => ?_, fun c2 => ?_⟩
      · have c2' : (4000 : Int) < (t : Int) - p.2 := of_decide_eq_true c2
        have hall : ∀ z ∈ r' ++ [p], z.2 ≤ p.2 := fun z hz => by
          rcases List.mem_append.mp hz with w | w
          · exact hle z w
          · rw [List.mem_singleton.mp w]; exact Nat.le_refl _
        have a := av_le hall
        have b := vl_ab (r' ++ [p])
        have he := early (g := g) (lft := lf (r' ++ [p])) (w := vl (r' ++ [p])) (t := t) (e := p.2) (m := N) hg0 (by omega) (by omega) (by omega) (by omega)
        rw [← hT] at he
        repeat walk_at "mk"
        refine ⟨fun c4 => ?_, fun c4 => ?_⟩
        · rw [if_pos (of_decide_eq_true c4)] at he
          repeat walk_at "mk"
          rw [he] at q
          exact q _ (keep3 _)
        · rw [if_neg (by have := of_decide_eq_false c4; omega)] at he
          repeat walk_at "mk"
          rw [he] at q
          exact q _ (keep3 _)
      · have c2' : ¬ ((4000 : Int) < (t : Int) - p.2) := of_decide_eq_false c2
        repeat walk_at "mk"
        refine ⟨fun _ => ?_, fun c3 => absurd c3 (by simpa using hg0)⟩
        repeat walk_at "mk"
        rw [show ((t : Int) - p.2) = ((t - p.2 : Nat) : Int) by omega]
        refine Post.of_eq (law_two_eq (by omega) _) ?_
        have e1 : g * 2 ^ (t - p.2) * 2 ^ p.2 = g * 2 ^ t := by rw [Int.mul_assoc, ← Int.pow_add, Nat.sub_add_cancel htp]
        rw [vl_snoc] at hT
        obtain ⟨f1, f2⟩ := fin (g * 2 ^ (t - p.2)) (by rw [e1]; omega) (by
          rw [ab_mul (Int.le_of_lt (p2 _)), Int.pow_add]
          exact Int.mul_le_mul hg (pw_mono (by omega)) (Int.le_of_lt (p2 _)) (Int.le_of_lt (p2 _)))
        repeat walk_at "mk"
        · exact ⟨r'.length, by rw [List.length_append, List.length_singleton]; omega, r', p :: d, _, p.2, _, _, rfl, rfl, rfl, hzs', f1, fun _ => hle, f2⟩
        · exact MK.mulOk_of (a := 4001 * d.length + N + 1) (small_of (by have := p2 (4001 * d.length + N); rw [Int.pow_succ]; omega)) (pow_nat _) (by omega)
    · have hg0 : g = 0 := by simpa using c
      subst hg0
      rw [vl_snoc, Int.zero_mul] at hT
      obtain ⟨f1, f2⟩ := fin 0 (by rw [Int.zero_mul]; omega) (by rw [show ab 0 = 0 from rfl]; exact Int.le_of_lt (p2 _))
      rw [Int.zero_add] at f1 f2
      repeat walk_at "mk"
      refine ⟨fun c3 => absurd c3 (by decide), fun _ => ?_⟩
      repeat walk_at "mk"
      exact ⟨r'.length, by rw [List.length_append, List.length_singleton]; omega, r', p :: d, _, p.2, _, _, rfl, rfl, rfl, hzs', f1, fun _ => hle, f2⟩
/-! ### one enclosure in another -/
structure E3 where
  lo : Int
  hi : Int
  e : Nat
abbrev e3D (x : E3) : D := .tup [.int x.lo, .int x.hi, .int x.e]
structure E3Ok (x : E3) : Prop where
  lo : 0 ≤ x.lo
  hi : 0 ≤ x.hi
  lo1 : x.lo < 2 ^ 400
  hi1 : x.hi < 2 ^ 400
def Within (a b : E3) : Prop := b.lo * 2 ^ b.e ≤ a.lo * 2 ^ a.e ∧ a.hi * 2 ^ a.e ≤ b.hi * 2 ^ b.e
instance (a b : E3) : Decidable (Within a b) := inferInstanceAs (Decidable (_ ∧ _))
theorem lf_one {c : Int} {e : Nat} (h : 0 ≤ c) : lf [(c, e)] = c := by
  show ab c + 0 = _
  unfold ab
  rw [if_neg (by omega)]
  omega
theorem vl_one (c : Int) (e : Nat) : vl [(c, e)] = c * 2 ^ e := by show c * 2 ^ e + 0 = _; omega
theorem one_one {a b : Int} {e f : Nat} (ha : 0 ≤ a) (hb : 0 ≤ b) (ha1 : a < 2 ^ 400) (hb1 : b < 2 ^ 400) (S : Store) : F_compared [.lst [.tup [.int a, .int e]], .lst [.tup [.int b, .int f]]] S = .ok (.int (sg (a * 2 ^ e - b * 2 ^ f))) S := by
  have h := compared_eq (x := .lst [.tup [.int a, .int e]]) (y := .lst [.tup [.int b, .int f]]) (l1 := [(a, e)]) (l2 := [(b, f)]) rfl rfl (fun p hp => by rw [List.mem_singleton.mp hp]; exact ha) (fun p hp => by rw [List.mem_singleton.mp hp]; exact hb) (by show 1 ≤ 1000; decide) (by show 1 ≤ 1000; decide) (N := 401) (by decide) (by
    rw [lf_one ha, lf_one hb]
    have : (2 : Int) ^ 401 = 2 ^ 400 * 2 := Int.pow_succ _ _
    generalize (2 : Int) ^ 400 = Z at *
    omega) S
  rw [vl_one, vl_one] at h
  exact h
theorem sg_le_dec {a b : Int} : decide (sg (a - b) ≤ 0) = decide (a ≤ b) := by
  refine decide_eq_decide.mpr (sg_le.trans ?_)
  omega
theorem lies_in_eq {a b : E3} (ha : E3Ok a) (hb : E3Ok b) (S : Store) : F_lies_in [e3D a, e3D b] S = .ok (.bl (decide (Within a b))) S := by
  refine Post.eq ?_
  unfold F_lies_in
  refine wp_run ?_
  unfold B_lies_in
  simp only [List.map, List.length, List.replicate, List.cons_append, List.nil_append]
  unfold e3D
  repeat walk_at "mk"
  refine Post.of_eq (one_one hb.lo ha.lo hb.lo1 ha.lo1 _) ?_
  repeat walk_at "mk"
  rw [sg_le_dec]
  by_cases q : b.lo * 2 ^ b.e ≤ a.lo * 2 ^ a.e
  · rw [decide_eq_true q]
    repeat walk_at "mk"
    refine Post.of_eq (one_one ha.hi hb.hi ha.hi1 hb.hi1 _) ?_
    repeat walk_at "mk"
    rw [sg_le_dec]
    refine ⟨?_, rfl⟩
    rw [decide_eq_decide.mpr (show a.hi * 2 ^ a.e ≤ b.hi * 2 ^ b.e ↔ Within a b from ⟨fun z => ⟨q, z⟩, fun z => z.2⟩)]
  · rw [decide_eq_false q]
    repeat walk_at "mk"
    refine ⟨?_, rfl⟩
    rw [show decide (Within a b) = false from decide_eq_false fun z => q z.1]
theorem order_one {a b : Int} {e f : Nat} (ha : 0 ≤ a) (hb : 0 ≤ b) (ha1 : a < 2 ^ 400) (hb1 : b < 2 ^ 400) {S : Store} {C : D → Store → Prop}
    (q : ∀ S', (∀ (k : Nat) (c : Cell), S[k]? = some c → S'[k]? = some c) → C (.int (sg (a * 2 ^ e - b * 2 ^ f))) S') : Post (F__law_order [.lst [.tup [.int a, .int e]], .lst [.tup [.int b, .int f]]] S) C :=
  order_eq (x := .lst [.tup [.int a, .int e]]) (y := .lst [.tup [.int b, .int f]]) (l1 := [(a, e)]) (l2 := [(b, f)]) rfl rfl (fun p hp => by rw [List.mem_singleton.mp hp]; exact ha) (fun p hp => by rw [List.mem_singleton.mp hp]; exact hb) (by show 1 ≤ 1000; decide) (by show 1 ≤ 1000; decide) (N := 401) (by decide) (by
    rw [lf_one ha, lf_one hb]
    have : (2 : Int) ^ 401 = 2 ^ 400 * 2 := Int.pow_succ _ _
    generalize (2 : Int) ^ 400 = Z at *
    omega) fun S' k => by rw [vl_one, vl_one]; exact q S' k
theorem sg_gt_iff {x : Int} : sg x > 0 ↔ 0 < x := by
  unfold sg
  by_cases c : 0 < x
  · rw [if_pos c]; omega
  · rw [if_neg c]
    split <;> omega
theorem law_within_eq {a b : E3} (ha : E3Ok a) (hb : E3Ok b) {S : Store} {C : D → Store → Prop} (q : ∀ S', (∀ (k : Nat) (c : Cell), S[k]? = some c → S'[k]? = some c) → C (.bl (decide (Within a b))) S') : Post (F__law_is_within [e3D a, e3D b] S) C := by
  unfold F__law_is_within
  refine wp_run ?_
  unfold B__law_is_within
  simp only [List.map, List.length, List.replicate, List.cons_append, List.nil_append]
  unfold e3D
  repeat walk_at "mk"
  refine order_one hb.lo ha.lo hb.lo1 ha.lo1 fun S1 k1 => ?_
  repeat walk_at "mk"
  refine ⟨fun c => ?_, fun c => ?_⟩
  · have c' := sg_gt_iff.mp (of_decide_eq_true c)
    repeat walk_at "mk"
    rw [show decide (Within a b) = false from decide_eq_false fun z => by have := z.1; omega] at q
    exact q _ k1
  · have c' : ¬ (sg (b.lo * 2 ^ b.e - a.lo * 2 ^ a.e) > 0) := of_decide_eq_false c
    rw [sg_gt_iff] at c'
    repeat walk_at "mk"
    refine order_one ha.hi hb.hi ha.hi1 hb.hi1 fun S2 k2 => ?_
    repeat walk_at "mk"
    rw [sg_le_dec, decide_eq_decide.mpr (show a.hi * 2 ^ a.e ≤ b.hi * 2 ^ b.e ↔ Within a b from ⟨fun z => ⟨by omega, z⟩, fun z => z.2⟩)]
    exact q _ fun k c e => k2 k c (k1 k c e)
theorem exact_one_eq (x : D) (S : Store) : F_exact_one [x] S = .ok (.tup [x, x, .int 0]) S := by
  refine Post.eq ?_
  unfold F_exact_one
  refine wp_run ?_
  unfold B_exact_one
  simp only [List.map, List.length, List.replicate, List.cons_append, List.nil_append]
  repeat walk_at "mk"
  exact ⟨rfl, rfl⟩
theorem holds_eq {a : E3} (ha : E3Ok a) {x : Int} (x0 : 0 ≤ x) (x1 : x < 2 ^ 400) (S : Store) : F_holds [e3D a, .int x] S = .ok (.bl (decide (Within ⟨x, x, 0⟩ a))) S := by
  refine Post.eq ?_
  unfold F_holds
  refine wp_run ?_
  unfold B_holds
  simp only [List.map, List.length, List.replicate, List.cons_append, List.nil_append]
  repeat walk_at "mk"
  refine Post.of_eq (exact_one_eq _ _) ?_
  repeat walk_at "mk"
  refine Post.of_eq (lies_in_eq (a := ⟨x, x, 0⟩) ⟨x0, x0, x1, x1⟩ ha _) ?_
  repeat walk_at "mk"
  exact ⟨rfl, rfl⟩
def lowsP (xs : List E3) : Pile := xs.map fun x => (x.lo, x.e)
def highsP (xs : List E3) : Pile := xs.map fun x => (x.hi, x.e)
theorem lows_of_eq {xs : List E3} (hl : xs.length ≤ 1000) (S : Store) : F_lows_of [.lst (xs.map e3D)] S = .ok (.lst ((lowsP xs).map pr)) S := by
  refine Post.eq ?_
  unfold F_lows_of
  refine wp_run ?_
  unfold B_lows_of
  simp only [List.map, List.length, List.replicate, List.cons_append, List.nil_append]
  repeat walk_at "mk"
  refine ⟨by rw [List.length_map, line_eq, sizeLine_eq]; omega, ?_⟩
  refine wp_cmapM (fun x : E3 => pr (x.lo, x.e)) (fun x hx => ?_) ?_
  · unfold e3D
    repeat walk_at "mk"
    refine ⟨rfl, ?_⟩
    repeat walk_at "mk"
    exact ⟨rfl, rfl⟩
  · repeat walk_at "mk"
    refine ⟨?_, rfl⟩
    unfold lowsP
    rw [List.map_map]
    rfl
theorem highs_of_eq {xs : List E3} (hl : xs.length ≤ 1000) (S : Store) : F_highs_of [.lst (xs.map e3D)] S = .ok (.lst ((highsP xs).map pr)) S := by
  refine Post.eq ?_
  unfold F_highs_of
  refine wp_run ?_
  unfold B_highs_of
  simp only [List.map, List.length, List.replicate, List.cons_append, List.nil_append]
  repeat walk_at "mk"
  refine ⟨by rw [List.length_map, line_eq, sizeLine_eq]; omega, ?_⟩
  refine wp_cmapM (fun x : E3 => pr (x.hi, x.e)) (fun x hx => ?_) ?_
  · unfold e3D
    repeat walk_at "mk"
    refine ⟨rfl, ?_⟩
    repeat walk_at "mk"
    exact ⟨rfl, rfl⟩
  · repeat walk_at "mk"
    refine ⟨?_, rfl⟩
    unfold highsP
    rw [List.map_map]
    rfl
theorem product_eq {a b : E3} (h1 : mulOk a.lo b.lo) (h2 : mulOk a.hi b.hi) (S : Store) : F_product_of [e3D a, e3D b] S = .ok (e3D ⟨a.lo * b.lo, a.hi * b.hi, a.e + b.e⟩) S := by
  refine Post.eq ?_
  unfold F_product_of
  refine wp_run ?_
  unfold B_product_of
  simp only [List.map, List.length, List.replicate, List.cons_append, List.nil_append]
  unfold e3D
  repeat walk_at "mk"
  · refine ⟨?_, rfl⟩
    push_cast
    rfl
  · exact h1
  · exact h2
theorem low_high {xs : List E3} (h : ∀ x ∈ xs, x.lo ≤ x.hi) : vl (lowsP xs) ≤ vl (highsP xs) := by
  induction xs with
  | nil => exact Int.le_refl _
  | cons x xs ih =>
    have i := ih fun y hy => h y (List.mem_cons_of_mem _ hy)
    have a : x.lo * 2 ^ x.e ≤ x.hi * 2 ^ x.e := Int.mul_le_mul_of_nonneg_right (h x List.mem_cons_self) (Int.le_of_lt (p2 _))
    unfold lowsP highsP at i ⊢
    rw [List.map_cons, List.map_cons, vl_cons, vl_cons]
    show x.lo * 2 ^ x.e + _ ≤ x.hi * 2 ^ x.e + _
    omega
theorem sum_of_eq {xs : List E3} (hl : HiOk (lowsP xs)) (hh : HiOk (highsP xs)) (hv : ∀ x ∈ xs, x.lo ≤ x.hi) {bits : Nat} (b0 : 0 < bits) (b1 : bits ≤ 300) (S : Store) :
    ∃ r : D, F_sum_of [.lst (xs.map e3D), .int bits] S = .ok r S ∧ ((posv (highsP xs) = [] ∧ r = .tup [.int 0, .int 0, .int 0]) ∨ ∃ e : Nat, Stands (highsP xs) bits e ∧ r = .tup [.int (flo (lowsP xs) e), .int (cei (highsP xs) e), .int e]) := by
  have hlen : xs.length ≤ 1000 := by
    have := hl.len
    unfold lowsP at this
    rw [List.length_map] at this
    omega
  obtain ⟨r, e, q⟩ := around_eq hl hh (low_high hv) b0 b1 (x := .lst ((lowsP xs).map pr)) (y := .lst ((highsP xs).map pr)) rfl rfl S
  refine ⟨r, Post.eq ?_, q⟩
  unfold F_sum_of
  refine wp_run ?_
  unfold B_sum_of
  simp only [List.map, List.length, List.replicate, List.cons_append, List.nil_append]
  repeat walk_at "mk"
  refine Post.of_eq (lows_of_eq hlen _) ?_
  repeat walk_at "mk"
  refine Post.of_eq (highs_of_eq hlen _) ?_
  repeat walk_at "mk"
  refine Post.of_eq e ?_
  repeat walk_at "mk"
  exact ⟨rfl, rfl⟩
theorem trimmed_eq {x : E3} (hl : HiOk (lowsP [x])) (hh : HiOk (highsP [x])) (hv : x.lo ≤ x.hi) {bits : Nat} (b0 : 0 < bits) (b1 : bits ≤ 300) (S : Store) :
    ∃ r : D, F_trimmed [e3D x, .int bits] S = .ok r S ∧ ((posv (highsP [x]) = [] ∧ r = .tup [.int 0, .int 0, .int 0]) ∨ ∃ e : Nat, Stands (highsP [x]) bits e ∧ r = .tup [.int (flo (lowsP [x]) e), .int (cei (highsP [x]) e), .int e]) := by
  obtain ⟨r, e, q⟩ := sum_of_eq hl hh (fun y hy => by rw [List.mem_singleton.mp hy]; exact hv) b0 b1 S
  refine ⟨r, Post.eq ?_, q⟩
  unfold F_trimmed
  refine wp_run ?_
  unfold B_trimmed
  simp only [List.map, List.length, List.replicate, List.cons_append, List.nil_append]
  repeat walk_at "mk"
  refine Post.of_eq e ?_
  repeat walk_at "mk"
  exact ⟨rfl, rfl⟩
/-! ### the floor and the ceiling by a number at its place and a rest -/
theorem two_a {l : Pile} {n r : Int} {its b : Nat} (hv : vl l = n * 2 ^ its + r) (hr0 : 0 ≤ r) (hr : r < 2 ^ b) (h : b ≤ its) : flo l b = n * 2 ^ (its - b) ∧ cei l b = n * 2 ^ (its - b) + if 0 < r then 1 else 0 := by
  have e : n * 2 ^ (its - b) * 2 ^ b = n * 2 ^ its := by rw [Int.mul_assoc, ← Int.pow_add, Nat.sub_add_cancel h]
  have f : flo l b = n * 2 ^ (its - b) := flo_of (by rw [e]; omega) (by rw [Int.add_mul, e, Int.one_mul]; omega)
  refine ⟨f, ?_⟩
  rw [cei_of, f, e]
  by_cases c : 0 < r
  · rw [if_pos c, if_neg (by omega)]
  · rw [if_neg c, if_pos (by omega), Int.add_zero]
theorem two_b {l : Pile} {n r : Int} {its b : Nat} (hv : vl l = n * 2 ^ its + r) (hr0 : 0 ≤ r) (hr : r < 2 ^ its) (h : its < b) : flo l b = n / 2 ^ (b - its) ∧ cei l b = n / 2 ^ (b - its) + if n / 2 ^ (b - its) * 2 ^ (b - its) ≠ n ∨ 0 < r then 1 else 0 := by
  obtain ⟨w, hw⟩ : ∃ w, n / 2 ^ (b - its) = w := ⟨_, rfl⟩
  have P := p2 (b - its)
  have I := p2 its
  have d1 : w * 2 ^ (b - its) ≤ n := by rw [← hw]; exact Int.ediv_mul_le _ (by omega)
  have d2 : n < (w + 1) * 2 ^ (b - its) := by rw [← hw]; exact Int.lt_ediv_add_one_mul_self _ P
  have e : ∀ z : Int, z * 2 ^ (b - its) * 2 ^ its = z * 2 ^ b := fun z => by rw [Int.mul_assoc, ← Int.pow_add, Nat.sub_add_cancel (Nat.le_of_lt h)]
  have a1 : w * 2 ^ (b - its) * 2 ^ its ≤ n * 2 ^ its := Int.mul_le_mul_of_nonneg_right d1 (Int.le_of_lt I)
  have a2 : (n + 1) * 2 ^ its ≤ (w + 1) * 2 ^ (b - its) * 2 ^ its := Int.mul_le_mul_of_nonneg_right (by omega) (Int.le_of_lt I)
  rw [e] at a1 a2
  rw [Int.add_mul, Int.one_mul] at a2
  rw [hw]
  have f : flo l b = w := flo_of (by omega) (by omega)
  refine ⟨f, ?_⟩
  rw [cei_of, f]
  by_cases c : w * 2 ^ (b - its) ≠ n ∨ 0 < r
  · rw [if_pos c, if_neg]
    intro z
    rcases c with c | c
    · have g : (w * 2 ^ (b - its) + 1) * 2 ^ its ≤ n * 2 ^ its := Int.mul_le_mul_of_nonneg_right (by omega) (Int.le_of_lt I)
      rw [Int.add_mul, Int.one_mul, e] at g
      omega
    · omega
  · have c1 : w * 2 ^ (b - its) = n := by
      by_cases q : w * 2 ^ (b - its) = n
      · exact q
      · exact absurd (Or.inl q) c
    have c2 : ¬ 0 < r := fun q => c (Or.inr q)
    rw [if_neg c, if_pos, Int.add_zero]
    rw [← e, c1]
    omega
/-! ### the law's top: the greatest terms in one number, and what is left -/
structure T3 where
  c : Int
  e : Nat
  m : Nat
abbrev row3 (x : T3) : D := .tup [.int ((x.e : Int) + x.m), .int x.e, .int x.c]
abbrev prow3 (x : T3) : PyData := .tuple [.int ((x.e : Int) + x.m), .int x.e, .int x.c]
theorem pys_row3 : ∀ l : List T3, D.pys (l.map row3) = some (l.map prow3)
  | [] => rfl
  | p :: l => by
    rw [List.map_cons, List.map_cons]
    unfold D.pys
    rw [show (row3 p).py = some (prow3 p) from rfl, pys_row3 l]
theorem srtB_row3 (l : List T3) : srtB (l.map prow3) = true := by
  unfold srtB
  rw [Bool.and_eq_true, Bool.and_eq_true]
  refine ⟨⟨?_, ?_⟩, ?_⟩
  · refine List.all_eq_true.mpr fun x hx => List.all_eq_true.mpr fun y hy => ?_
    obtain ⟨a, _, rfl⟩ := List.mem_map.mp hx
    obtain ⟨b, _, rfl⟩ := List.mem_map.mp hy
    rfl
  · rw [Bool.or_eq_true]
    refine .inl (List.all_eq_true.mpr fun x hx => ?_)
    obtain ⟨a, _, rfl⟩ := List.mem_map.mp hx
    rfl
  · refine List.all_eq_true.mpr fun x hx => ?_
    obtain ⟨p, _, rfl⟩ := List.mem_map.mp hx
    exact decide_eq_true (by simp [PyData.depth, PyData.depthAll])
theorem row3_shaped (l : List T3) : SeqAt.shaped (.list (l.map prow3)) = true := by
  have lay : ∀ l : List T3, PyData.canLayAll0 (l.map prow3) = true ∧ PyData.depthAll (l.map prow3) ≤ 1 := fun l => by
    induction l with
    | nil => exact ⟨rfl, by simp [PyData.depthAll]⟩
    | cons x l ih =>
      rw [List.map_cons]
      refine ⟨by simp only [PyData.canLayAll0, PyData.canLay0, ih.1, Bool.and_self], ?_⟩
      have := ih.2
      simp only [PyData.depthAll, PyData.depth] at *
      omega
  have h := lay l
  show ((PyData.list (l.map prow3)).canLay0 && decide ((PyData.list (l.map prow3)).depth ≤ 64)) = true
  have e1 : (PyData.list (l.map prow3)).canLay0 = true := by simp only [PyData.canLay0]; exact h.1
  have e2 : (PyData.list (l.map prow3)).depth ≤ 64 := by
    have := h.2
    simp only [PyData.depth]
    omega
  rw [e1, decide_eq_true e2]
  rfl
theorem cell3_ne_nil {l : List T3} {k : Nat} {S : Store} (hk : S[k]? = some (.lst (l.map row3))) {C : D → Store → Prop} (h : C (.bl (!decide (l = []))) S) : Post (neD (.cell k) (.lst []) S) C := by
  refine wp_neP (p := .list (l.map prow3)) (q := .list []) (by simp only [D.pyS, hk, pys_row3, Option.map_some]) rfl (row3_shaped l) rfl ?_
  cases l with
  | nil => exact h
  | cons a b => exact h
theorem cell3_eq_nil {l : List T3} {k : Nat} {S : Store} (hk : S[k]? = some (.lst (l.map row3))) {C : D → Store → Prop} (h : C (.bl (decide (l = []))) S) : Post (eqD (.cell k) (.lst []) S) C := by
  refine wp_eqP (p := .list (l.map prow3)) (q := .list []) (by simp only [D.pyS, hk, pys_row3, Option.map_some]) rfl (row3_shaped l) rfl ?_
  cases l with
  | nil => exact h
  | cons a b => exact h
def v3 (l : List T3) : Int := (l.map fun x => x.c * 2 ^ x.e).sum
theorem v3_append (l r : List T3) : v3 (l ++ r) = v3 l + v3 r := by unfold v3; rw [List.map_append, List.sum_append]
theorem v3_nn {l : List T3} (h : ∀ x ∈ l, 0 < x.c) : 0 ≤ v3 l ∧ (l ≠ [] → 0 < v3 l) := by
  induction l with
  | nil => exact ⟨Int.le_refl _, fun z => absurd rfl z⟩
  | cons x l ih =>
    obtain ⟨i, _⟩ := ih fun y hy => h y (List.mem_cons_of_mem _ hy)
    have := Int.mul_pos (h x List.mem_cons_self) (p2 x.e)
    have e : v3 (x :: l) = x.c * 2 ^ x.e + v3 l := rfl
    rw [e]
    exact ⟨by omega, fun _ => by omega⟩
/-- what is left is little -/
theorem rest_lt {l : List T3} {k : Nat} (hl : l.length ≤ 1000) (h : ∀ x ∈ l, x.c < 2 ^ x.m ∧ x.e + x.m + 12 < k) : v3 l < 2 ^ k := by
  have b : v3 l * 2 ^ 12 ≤ 2 ^ k * (l.length : Int) := by
    clear hl
    induction l with
    | nil => simp [v3]
    | cons x l ih =>
      have i := ih fun y hy => h y (List.mem_cons_of_mem _ hy)
      obtain ⟨h1, h2⟩ := h x List.mem_cons_self
      have e : v3 (x :: l) = x.c * 2 ^ x.e + v3 l := rfl
      have a1 : x.c * 2 ^ x.e ≤ 2 ^ x.m * 2 ^ x.e := Int.mul_le_mul_of_nonneg_right (Int.le_of_lt h1) (Int.le_of_lt (p2 _))
      have a2 : x.c * 2 ^ x.e * 2 ^ 12 ≤ 2 ^ x.m * 2 ^ x.e * 2 ^ 12 := Int.mul_le_mul_of_nonneg_right a1 (by decide)
      rw [← Int.pow_add, ← Int.pow_add] at a2
      have a3 : (2 : Int) ^ (x.m + x.e + 12) ≤ 2 ^ k := pw_mono (by omega)
      rw [e, Int.add_mul, List.length_cons]
      push_cast
      rw [Int.mul_add, Int.mul_one]
      omega
  have c : (2 : Int) ^ k * (l.length : Int) ≤ 2 ^ k * 1000 := Int.mul_le_mul_of_nonneg_left (by omega) (Int.le_of_lt (p2 _))
  have d := p2 k
  have e12 : (2 : Int) ^ 12 = 4096 := rfl
  rw [e12] at b
  omega
theorem atI_last (r : List T3) (p : T3) : atI ((r ++ [p]).map row3) (-1) = some (row3 p) := by
  rw [List.map_append]
  unfold atI ixN
  rw [if_neg (by decide), List.length_append, if_pos (by show -(((r.map row3).length + 1 : Nat) : Int) ≤ -1; omega)]
  show ((r.map row3) ++ [row3 p])[((-1 : Int) + (((r.map row3).length + 1 : Nat) : Int)).toNat]? = _
  rw [show ((-1 : Int) + (((r.map row3).length + 1 : Nat) : Int)).toNat = (r.map row3).length by omega, List.getElem?_append_right (Nat.le_refl _), Nat.sub_self]
  rfl
theorem v3_perm {l r : List T3} (h : l.Perm r) : v3 l = v3 r := sum_perm (h.map _)
structure TInv (zs : List T3) (b : Nat) (r d : List T3) (n : Int) (its : Nat) : Prop where
  split : zs = r ++ d
  val : v3 zs = n * 2 ^ its + v3 r
  n0 : 0 ≤ n
  nb : n ≤ 2 ^ (813 * d.length + 600)
  tops : ∀ x ∈ r, x.e ≤ its + 300
  itsb : its ≤ b + 500
theorem top_eq {l : Pile} {x : D} {b : Nat} (hx : x.still = some (l.map pr)) (h : HiOk l) (h100 : l.length ≤ 8) (near : ∀ p ∈ l, 0 < p.1 → p.2 ≤ b + 500) {S : Store} {C : D → Store → Prop}
    (q0 : posv l = [] → ∀ S', (∀ (k : Nat) (c : Cell), S[k]? = some c → S'[k]? = some c) → C (.tup [.int 0, .int b, .bl false]) S')
    (q : ∀ (S' : Store) (n r : Int) (its : Nat), (∀ (k : Nat) (c : Cell), S[k]? = some c → S'[k]? = some c) → vl l = n * 2 ^ its + r → 0 ≤ n → 0 ≤ r → r < 2 ^ its → r < 2 ^ b → n ≤ 2 ^ 8000 → its ≤ b + 500 → C (.tup [.int n, .int its, .bl (decide (0 < r))]) S') : Post (F__law_top [x, .int b] S) C := by
  have hs := h.sum
  have cb : ∀ p ∈ l, p.1 < 2 ^ 300 := fun p hp => by
    have a : p.1 ≤ lf l := by
      rw [← sum_lf h.nn]
      exact mem_le_sum (fun z hz => by obtain ⟨y, hy, rfl⟩ := List.mem_map.mp hz; exact h.nn y hy) (List.mem_map.mpr ⟨p, hp, rfl⟩)
    omega
  have hbits : ∀ p ∈ l, ∃ m, F__law_long [.int p.1] S = .ok (.int (m : Nat)) S ∧ IsBits p.1 m ∧ m ≤ 300 := fun p hp => long_exact (h.nn p hp) (cb p hp) (by decide) S
  obtain ⟨bf, hbf⟩ : ∃ bf : Int × Nat → Nat, ∀ p ∈ l, F__law_long [.int p.1] S = .ok (.int (bf p : Nat)) S ∧ IsBits p.1 (bf p) ∧ bf p ≤ 300 := by
    refine ⟨fun p => if h : p ∈ l then (hbits p h).choose else 0, fun p hp => ?_⟩
    simp only [dif_pos hp]
    exact (hbits p hp).choose_spec
  obtain ⟨ts, hts⟩ : ∃ ts : List T3, ((posv l).map fun p => (⟨p.1, p.2, bf p⟩ : T3)) = ts := ⟨_, rfl⟩
  have htl : ts.length ≤ 8 := by
    rw [← hts, List.length_map]
    exact Nat.le_trans (posv_len l) h100
  have hv : v3 ts = vl l := by
    rw [← (vl_posv h.nn).1, ← hts]
    unfold v3 vl
    rw [List.map_map]
    rfl
  have hall : ∀ t ∈ ts, 0 < t.c ∧ t.c < 2 ^ 300 ∧ t.c < 2 ^ t.m ∧ t.m ≤ 300 ∧ t.e ≤ b + 500 := fun t ht => by
    rw [← hts] at ht
    obtain ⟨p, hp, rfl⟩ := List.mem_map.mp ht
    have hp0 : 0 < p.1 := by simpa using (List.mem_filter.mp hp).2
    have hpl := posv_mem hp
    exact ⟨hp0, cb p hpl, (hbf p hpl).2.1.1, (hbf p hpl).2.2, near p hpl hp0⟩
  obtain ⟨zs, ez, qz, sz⟩ := sort_gen row3 prow3 ts
  have asc : zs.Pairwise fun a b => a.e + a.m ≤ b.e + b.m := sz.imp fun {a b} h => by
    have := dataLt_first h
    omega
  have hall' : ∀ t ∈ zs, 0 < t.c ∧ t.c < 2 ^ 300 ∧ t.c < 2 ^ t.m ∧ t.m ≤ 300 ∧ t.e ≤ b + 500 := fun t ht => hall t (qz.mem_iff.mp ht)
  have hzl : zs.length ≤ 8 := by rw [qz.length_eq]; exact htl
  have hzv : v3 zs = vl l := by rw [v3_perm qz, hv]
  have get3 : ∀ c : Cell, (S ++ [c])[S.length]? = some c := fun c => by rw [List.getElem?_append_right (Nat.le_refl _), Nat.sub_self]; rfl
  have set3 : ∀ c c' : Cell, (S ++ [c]).set S.length c' = S ++ [c'] := fun c c' => by rw [List.set_append_right _ _ (Nat.le_refl _), Nat.sub_self]; rfl
  have keep3 : ∀ c : Cell, ∀ (k : Nat) (c' : Cell), S[k]? = some c' → (S ++ [c])[k]? = some c' := fun c k c' e => by rw [List.getElem?_append_left (List.getElem?_eq_some_iff.mp e).1]; exact e
  unfold F__law_top
  refine wp_run ?_
  unfold B__law_top
  simp only [List.map, List.length, List.replicate, List.cons_append, List.nil_append]
  refine wp_seq (Post.mono (C := fun fl S1 => S1 = S ++ [.lst (zs.map row3)] ∧ fl = .nx [some x, some (.int b), some (.cell S.length), none, none, none, none, none]) ?_ ?_)
  · repeat walk_at "mk"
    refine ⟨_, hx, ?_⟩
    refine ⟨by rw [List.length_map, line_eq, sizeLine_eq]; have := h.len; omega, ?_⟩
    refine wp_cfilM (fun p => decide (p.1 > 0)) (fun p : Int × Nat => row3 ⟨p.1, p.2, bf p⟩) (fun p hp => ?_) ?_
    · unfold pr
      repeat walk_at "mk"
      refine ⟨rfl, ?_⟩
      repeat walk_at "mk"
      refine ⟨rfl, rfl, fun c => ?_⟩
      repeat walk_at "mk"
      refine Post.of_eq (hbf p hp).1 ?_
      repeat walk_at "mk"
      exact ⟨rfl, rfl⟩
    repeat walk_at "mk"
    have e4 : ((l.filter fun p => decide (p.1 > 0)).map fun p : Int × Nat => row3 ⟨p.1, p.2, bf p⟩) = ts.map row3 := by
      rw [← hts, List.map_map]
      rfl
    rw [e4]
    refine wp_sortedN rfl (pys_row3 _) (srtB_row3 _) ?_
    rw [ez]
    repeat walk_at "mk"
    exact ⟨rfl, rfl⟩
  rintro fl S1 ⟨rfl, rfl⟩
  refine wp_seqN ?_
  by_cases hz0 : zs = []
  · have hp0 : posv l = [] := by
      have : ts = [] := List.Perm.eq_nil (by rw [← hz0]; exact qz.symm)
      rw [← hts] at this
      exact List.map_eq_nil_iff.mp this
    repeat walk_at "mk"
    refine cell3_eq_nil (get3 _) ?_
    rw [decide_eq_true hz0]
    repeat walk_at "mk"
    exact q0 hp0 _ (keep3 _)
  refine wp_seq (Post.mono (C := fun fl S1 => S1 = S ++ [.lst (zs.map row3)] ∧ fl = .nx [some x, some (.int b), some (.cell S.length), none, none, none, none, none]) ?_ ?_)
  · repeat walk_at "mk"
    refine cell3_eq_nil (get3 _) ?_
    rw [decide_eq_false hz0]
    repeat walk_at "mk"
    exact ⟨rfl, rfl⟩
  rintro fl S1 ⟨rfl, rfl⟩
  refine wp_seqN ?_
  obtain ⟨zq, z0, ez0⟩ : ∃ zq z0, zs = zq ++ [z0] := by
    rcases List.eq_nil_or_concat zs with e | ⟨a, c, e⟩
    · exact absurd e hz0
    · exact ⟨a, c, by rw [e, List.concat_eq_append]⟩
  have hlast : ∀ (r : List T3) (p : T3), atI ((r ++ [p]).map row3) (-1) = some (row3 p) := fun r p => atI_last r p
  refine wp_seq (Post.mono (C := fun fl S1 => S1 = S ++ [.lst (zs.map row3)] ∧ fl = .nx [some x, some (.int b), some (.cell S.length), some (.int 0), some (.int z0.e), none, none, none]) ?_ ?_)
  · repeat walk_at "mk"
    refine wp_ixC (d := row3 z0) (get3 _) (by rw [ez0]; exact hlast _ _) ?_
    unfold row3
    repeat walk_at "mk"
    first | rfl | exact ⟨rfl, rfl⟩
  rintro fl S1 ⟨rfl, rfl⟩
  repeat walk_at "mk"
  refine wp_while (fun m ρ S' => ∃ (r d : List T3) (n : Int) (its : Nat) (o5 o6 o7 : Option D), S' = S ++ [.lst (r.map row3)] ∧ ρ = [some x, some (.int b), some (.cell S.length), some (.int n), some (.int its), o5, o6, o7] ∧ m = r.length ∧ TInv zs b r d n its) zs.length (by omega)
    ⟨zs, [], 0, z0.e, none, none, none, rfl, rfl, rfl, (List.append_nil _).symm, by rw [Int.zero_mul, Int.zero_add], Int.le_refl _, Int.le_of_lt (p2 _), fun t ht => ?_, (hall' z0 (by rw [ez0]; simp)).2.2.2.2⟩ ?_
  · have h1 := hall' t ht
    have h2 := hall' z0 (by rw [ez0]; simp)
    have h3 : t.e + t.m ≤ z0.e + z0.m := by
      rw [ez0] at asc ht
      rcases List.mem_append.mp ht with w | w
      · exact (List.pairwise_append.mp asc).2.2 t w z0 (by simp)
      · rw [List.mem_singleton.mp w]; exact Nat.le_refl _
    omega
  rintro m ρ S' ⟨r, d, n, its, o5, o6, o7, rfl, rfl, rfl, inv⟩
  repeat walk_at "mk"
  obtain ⟨isp, ival, in0, inb, itops, iitsb⟩ := inv
  have hrd : r.length + d.length ≤ 8 := by
    have := congrArg List.length isp
    rw [List.length_append] at this
    omega
  have hrall : ∀ t ∈ r, 0 < t.c ∧ t.c < 2 ^ 300 ∧ t.c < 2 ^ t.m ∧ t.m ≤ 300 ∧ t.e ≤ b + 500 := fun t ht => hall' t (by rw [isp]; exact List.mem_append_left _ ht)
  have hnb : n ≤ 2 ^ 8000 := Int.le_trans inb (pw_mono (by have : 813 * d.length ≤ 813 * 8 := Nat.mul_le_mul_left _ (by omega); omega))
  refine cell3_ne_nil (l := r) (get3 _) ?_
  repeat walk_at "mk"
  rcases List.eq_nil_or_concat r with er | ⟨r', p, er⟩
  · subst er
    refine ⟨fun c => absurd c (by rw [decide_eq_true rfl]; decide), fun _ => ?_⟩
    repeat walk_at "mk"
    refine cell3_ne_nil (l := []) (get3 _) ?_
    repeat walk_at "mk"
    have := q _ n 0 its (keep3 (.lst (([] : List T3).map row3))) (by rw [← hzv, ival]; rfl) in0 (Int.le_refl _) (p2 _) (p2 _) hnb iitsb
    exact this
  · rw [List.concat_eq_append] at er
    subst er
    have hp := hrall p (by simp)
    have htop : ∀ t ∈ r' ++ [p], t.e + t.m ≤ p.e + p.m := fun t ht => by
      rw [isp] at asc
      have a := (List.pairwise_append.mp asc).1
      rcases List.mem_append.mp ht with w | w
      · exact (List.pairwise_append.mp a).2.2 t w p (by simp)
      · rw [List.mem_singleton.mp w]; exact Nat.le_refl _
    have hk : (S ++ [Cell.lst ((r' ++ [p]).map row3)])[S.length]? = some (.lst (r'.map row3 ++ [row3 p])) := by rw [get3, List.map_append]; rfl
    refine ⟨fun _ => ?_, fun c => absurd c (by rw [decide_eq_false (by simp)]; decide)⟩
    repeat walk_at "mk"
    refine wp_ixC (d := row3 p) (get3 _) (hlast _ _) ?_
    repeat walk_at "mk"
    refine ⟨fun c => ?_, fun c => ?_⟩
    · have c' : (p.e : Int) + p.m + 12 ≥ (if (b : Int) < its then (b : Int) else its) := of_decide_eq_true c
      have hgap : its ≤ p.e + 812 := by
        have := hp.2.2.2.1
        split at c' <;> omega
      repeat walk_at "mk"
      refine wp_pop hk (y := row3 p) (by rw [List.length_append]; show (r'.map row3 ++ [row3 p])[(r'.map row3).length + 1 - 1]? = _; rw [Nat.add_sub_cancel, List.getElem?_append_right (Nat.le_refl _), Nat.sub_self]; rfl) ?_
      rw [set3, List.dropLast_concat]
      unfold row3
      repeat walk_at "mk"
      have hsp : zs = r' ++ (p :: d) := by rw [isp, List.append_assoc]; rfl
      have hv1 : v3 (r' ++ [p]) = v3 r' + p.c * 2 ^ p.e := by
        rw [v3_append]
        show v3 r' + (p.c * 2 ^ p.e + 0) = _
        omega
      rw [hv1] at ival
      have hpc := (hrall p (by simp)).1
      have hpb := (hrall p (by simp)).2.1
      have hpm := (hrall p (by simp)).2.2.2.1
      have lenE : 813 * (p :: d).length + 600 = 813 * d.length + 600 + 813 := by rw [List.length_cons]; omega
      have hB : (2 : Int) ^ (813 * d.length + 600 + 813) = 2 ^ (813 * d.length + 600 + 812) * 2 := Int.pow_succ _ _
      have hB6 : (2 : Int) ^ 600 ≤ 2 ^ (813 * d.length + 600 + 812) := pw_mono (by omega)
      have hB3 : (2 : Int) ^ 300 ≤ 2 ^ 600 := pw_mono (by decide)
      refine ⟨fun c2 => ?_, fun c2 => ?_⟩
      · have c2' : (p.e : Int) < its := of_decide_eq_true c2
        repeat walk_at "mk"
        rw [show ((its : Int) - p.e) = ((its - p.e : Nat) : Int) by omega]
        refine Post.of_eq (law_two_eq (by omega) _) ?_
        have e1 : n * 2 ^ (its - p.e) * 2 ^ p.e = n * 2 ^ its := by rw [Int.mul_assoc, ← Int.pow_add, Nat.sub_add_cancel (by omega)]
        have g1 : n * 2 ^ (its - p.e) ≤ 2 ^ (813 * d.length + 600 + 812) := by
          rw [Int.pow_add _ (813 * d.length + 600)]
          exact Int.mul_le_mul inb (pw_mono (by omega)) (Int.le_of_lt (p2 _)) (Int.le_of_lt (p2 _))
        have g0 : 0 ≤ n * 2 ^ (its - p.e) := Int.mul_nonneg in0 (Int.le_of_lt (p2 _))
        repeat walk_at "mk"
        · exact ⟨r'.length, by rw [List.length_append, List.length_singleton]; omega, r', p :: d, _, p.e, _, _, _, rfl, rfl, rfl, hsp, by rw [Int.add_mul, e1]; omega, by omega, by rw [lenE, hB]; omega, fun t ht => by have := htop t (by simp [ht]); omega, by omega⟩
        · exact MK.mulOk_of (a := 813 * d.length + 600 + 1) (small_of (by have := p2 (813 * d.length + 600); rw [Int.pow_succ]; unfold ab; rw [if_neg (by omega)]; omega)) (pow_nat _) (by omega)
      · have c2' : ¬ ((p.e : Int) < its) := of_decide_eq_false c2
        have hpt := itops p (by simp)
        repeat walk_at "mk"
        rw [show ((p.e : Int) - its) = ((p.e - its : Nat) : Int) by omega]
        refine Post.of_eq (law_two_eq (by omega) _) ?_
        have e1 : p.c * 2 ^ (p.e - its) * 2 ^ its = p.c * 2 ^ p.e := by rw [Int.mul_assoc, ← Int.pow_add, Nat.sub_add_cancel (by omega)]
        have g1 : p.c * 2 ^ (p.e - its) ≤ 2 ^ 600 := by
          rw [show (600 : Nat) = 300 + 300 from rfl, Int.pow_add _ 300]
          exact Int.mul_le_mul (Int.le_of_lt hpb) (pw_mono (by omega)) (Int.le_of_lt (p2 _)) (Int.le_of_lt (p2 _))
        have g0 : 0 ≤ p.c * 2 ^ (p.e - its) := Int.mul_nonneg (Int.le_of_lt hpc) (Int.le_of_lt (p2 _))
        have hB7 : (2 : Int) ^ (813 * d.length + 600) ≤ 2 ^ (813 * d.length + 600 + 812) := pw_mono (by omega)
        repeat walk_at "mk"
        · exact ⟨r'.length, by rw [List.length_append, List.length_singleton]; omega, r', p :: d, _, its, _, _, _, rfl, rfl, rfl, hsp, by rw [Int.add_mul, e1]; omega, by omega, by rw [lenE, hB]; omega, fun t ht => itops t (by simp [ht]), iitsb⟩
        · exact MK.mulOk_of (a := 300) (small_of (by unfold ab; rw [if_neg (by omega)]; omega)) (pow_nat _) (by omega)
    · have c' : ¬ ((p.e : Int) + p.m + 12 ≥ (if (b : Int) < its then (b : Int) else its)) := of_decide_eq_false c
      have r1 : v3 (r' ++ [p]) < 2 ^ its := rest_lt (by omega) fun t ht => ⟨(hrall t ht).2.2.1, by have := htop t ht; split at c' <;> omega⟩
      have r2 : v3 (r' ++ [p]) < 2 ^ b := rest_lt (by omega) fun t ht => ⟨(hrall t ht).2.2.1, by have := htop t ht; split at c' <;> omega⟩
      have r3 := v3_nn fun t ht => (hrall t ht).1
      repeat walk_at "mk"
      refine cell3_ne_nil (l := r' ++ [p]) (get3 _) ?_
      repeat walk_at "mk"
      have e5 : (!decide (r' ++ [p] = [])) = decide (0 < v3 (r' ++ [p])) := by
        rw [decide_eq_false (by simp), decide_eq_true (r3.2 (by simp))]
        rfl
      rw [e5]
      exact q _ n _ its (keep3 _) (by rw [← hzv, ival]) in0 r3.1 r1 r2 hnb iitsb
local macro_rules | `(tactic| walk_at "mk") => `(tactic| with_reducible refine wp_intB ?_)
/-! ### a pile rounded down, or up, by the law's own reading -/
abbrev Keeps (S S' : Store) : Prop := ∀ (k : Nat) (c : Cell), S[k]? = some c → S'[k]? = some c
theorem flo_zero {l : Pile} {e : Nat} (h : vl l = 0) : flo l e = 0 ∧ cei l e = 0 := by
  unfold flo cei
  rw [h]
  refine ⟨Int.zero_ediv _, ?_⟩
  show -(-0 / _) = 0
  rw [Int.neg_zero, Int.zero_ediv]
  rfl
def upd (l : Pile) (e : Nat) (up : Bool) : Int := if up = true then cei l e else flo l e
theorem by_two_eq {l : Pile} {x : D} {b : Nat} {up : Bool} (hx : x.still = some (l.map pr)) (h : HiOk l) (h100 : l.length ≤ 8) (near : ∀ p ∈ l, 0 < p.1 → p.2 ≤ b + 500) {S : Store} {C : D → Store → Prop}
    (q : ∀ S', Keeps S S' → C (.int (upd l b up)) S') : Post (F__law_by_two [x, .int b, .bl up] S) C := by
  unfold F__law_by_two
  refine wp_run ?_
  unfold B__law_by_two
  simp only [List.map, List.length, List.replicate, List.cons_append, List.nil_append]
  repeat walk_at "mk"
  refine top_eq hx h h100 near (fun hz S' k => ?_) (fun S' n r its k hv n0 r0 r1 r2 nb ib => ?_)
  · have hv0 : vl l = 0 := by rw [← (vl_posv h.nn).1, hz]; rfl
    obtain ⟨f0, c0⟩ := flo_zero (e := b) hv0
    have q' := q S' k
    unfold upd at q'
    rw [f0, c0, ite_self] at q'
    repeat walk_at "mk"
    refine ⟨fun _ => ?_, fun c => absurd (of_decide_eq_false c) (by omega)⟩
    repeat walk_at "mk"
    rw [show ((b : Int) - b) = ((0 : Nat) : Int) by omega]
    refine Post.of_eq (law_two_eq (by omega) _) ?_
    repeat walk_at "mk"
    · cases up
      · repeat walk_at "mk"
        exact q'
      · repeat walk_at "mk"
        exact q'
    · exact MK.mulOk_of (a := 4) (b := 4) (by decide) (by decide) (by decide)
  · have q' := q S' k
    have hbig : ∀ m : Int, 0 ≤ m → m ≤ 2 ^ 8000 → m.natAbs < 2 ^ 8001 := fun m m0 m1 => by
      have a1 : (2 : Int) ^ 8001 = 2 ^ 8000 * 2 := Int.pow_succ _ _
      exact small_of (by unfold ab; rw [if_neg (by omega)]; have := p2 8000; omega)
    have er : (if r > 0 then (1 : Int) else 0) = if 0 < r then 1 else 0 := rfl
    repeat walk_at "mk"
    refine ⟨fun c => ?_, fun c => ?_⟩
    · have c' : b ≤ its := by have := of_decide_eq_true c; omega
      obtain ⟨t1, t2⟩ := two_a hv r0 r2 c'
      repeat walk_at "mk"
      rw [show ((its : Int) - b) = ((its - b : Nat) : Int) by omega]
      refine Post.of_eq (law_two_eq (by omega) _) ?_
      repeat walk_at "mk"
      · cases up
        · repeat walk_at "mk"
          unfold upd at q'
          rw [if_neg (by decide), t1] at q'
          simpa using q'
        · repeat walk_at "mk"
          unfold upd at q'
          rw [if_pos rfl, t2] at q'
          simpa using q'
      · exact MK.mulOk_of (a := 8001) (hbig n n0 nb) (pow_nat _) (by omega)
    · have c' : its < b := by have := of_decide_eq_false c; omega
      obtain ⟨t1, t2⟩ := two_b hv r0 r1 c'
      obtain ⟨m, em, hm, hm1⟩ := long_exact (x := n) (N := 8001) n0 (by
        have a1 : (2 : Int) ^ 8001 = 2 ^ 8000 * 2 := Int.pow_succ _ _
        have := p2 8000
        omega) (by decide) S'
      repeat walk_at "mk"
      refine Post.of_eq em ?_
      repeat walk_at "mk"
      refine ⟨fun c2 => ?_, fun c2 => ?_⟩
      · have c2' : m + 1 < b - its := by have := of_decide_eq_true c2; omega
        have z0 : n / 2 ^ (b - its) = 0 := by
          refine Int.ediv_eq_zero_of_lt n0 ?_
          have := hm.1
          have : (2 : Int) ^ m ≤ 2 ^ (b - its) := pw_mono (by omega)
          omega
        rw [z0, Int.zero_mul, Int.zero_add] at t2
        rw [z0] at t1
        cases up
        · repeat walk_at "mk"
          unfold upd at q'
          rw [if_neg (by decide), t1] at q'
          simpa using q'
        · unfold upd at q'
          rw [if_pos rfl, t2] at q'
          repeat walk_at "mk"
          refine ⟨fun c3 => ?_, fun c3 => ?_⟩
          · rw [if_pos (.inl (by have := of_decide_eq_true c3; omega))] at q'
            repeat walk_at "mk"
            exact q'
          · have : n = 0 := by have := of_decide_eq_false c3; omega
            subst this
            repeat walk_at "mk"
            simpa using q'
      · have c2' : b - its ≤ m + 1 := by have := of_decide_eq_false c2; omega
        repeat walk_at "mk"
        rw [show ((b : Int) - its) = ((b - its : Nat) : Int) by omega]
        refine Post.of_eq (law_two_eq (by omega) _) ?_
        obtain ⟨w, hw⟩ : ∃ w, n / 2 ^ (b - its) = w := ⟨_, rfl⟩
        rw [hw] at t1 t2
        have P := p2 (b - its)
        have w0 : 0 ≤ w := by rw [← hw]; exact Int.ediv_nonneg n0 (Int.le_of_lt P)
        have w1 : w ≤ n := by
          rw [← hw]
          exact Int.ediv_le_self _ n0
        repeat walk_at "mk"
        · rw [hw]
          cases up
          · repeat walk_at "mk"
            unfold upd at q'
            rw [if_neg (by decide), t1] at q'
            simpa using q'
          · unfold upd at q'
            rw [if_pos rfl, t2] at q'
            repeat walk_at "mk"
            · refine ⟨fun c3 => ?_, fun c3 => ?_⟩
              · rw [if_pos (.inl (by simpa using c3))] at q'
                repeat walk_at "mk"
                exact q'
              · have c3' : w * 2 ^ (b - its) = n := by simpa using c3
                repeat walk_at "mk"
                simpa [c3'] using q'
            · exact MK.mulOk_of (a := 8001) (hbig w w0 (by omega)) (pow_nat _) (by omega)
        · exact divOk_of P (b := b - its + 1) (pow_nat _) (by omega) (by omega)
/-! ### the law's own enclosure -/
theorem empty_vl {l : Pile} (h : HiOk l) (hz : posv l = []) : vl l = 0 := by rw [← (vl_posv h.nn).1, hz]; rfl
theorem nn_vl {l : Pile} (h : ∀ p ∈ l, 0 ≤ p.1) : 0 ≤ vl l := by
  have := nn_of h
  have := av_nn l
  omega
theorem zero_lows {lo : Pile} (hl : HiOk lo) (h : vl lo = 0) : ∀ p ∈ lo, ¬ 0 < p.1 := fun p hp c => by
  have h3 : p.1 * 2 ^ p.2 ≤ vl lo := by
    unfold vl
    exact mem_le_sum (fun z hz => by obtain ⟨y, hy, rfl⟩ := List.mem_map.mp hz; exact Int.mul_nonneg (hl.nn y hy) (Int.le_of_lt (p2 _))) (List.mem_map.mpr ⟨p, hp, rfl⟩)
  have := Int.mul_pos c (p2 p.2)
  omega
theorem law_around_eq {lo hi : Pile} (hl : HiOk lo) (hh : HiOk hi) (hl1 : lo.length ≤ 8) (hh1 : hi.length ≤ 8) (hv : vl lo ≤ vl hi) {bits : Nat} (b0 : 0 < bits) (b1 : bits ≤ 300) {x y : D} (hx : x.still = some (lo.map pr)) (hy : y.still = some (hi.map pr)) {S : Store} {C : D → Store → Prop}
    (q0 : ∀ S', Keeps S S' → posv hi = [] → C (.tup [.int 0, .int 0, .int 0]) S') (q1 : ∀ S' (e : Nat), Keeps S S' → Stands hi bits e → C (.tup [.int (flo lo e), .int (cei hi e), .int e]) S') : Post (F__law_around [x, y, .int bits] S) C := by
  have cb : ∀ p ∈ hi, p.1 < 2 ^ 300 := fun p hp => by
    have a : p.1 ≤ lf hi := by
      rw [← sum_lf hh.nn]
      exact mem_le_sum (fun z hz => by obtain ⟨y, hy, rfl⟩ := List.mem_map.mp hz; exact hh.nn y hy) (List.mem_map.mpr ⟨p, hp, rfl⟩)
    have := hh.sum
    omega
  have hbits : ∀ p ∈ hi, ∃ m, F__law_long [.int p.1] S = .ok (.int (m : Nat)) S ∧ IsBits p.1 m ∧ m ≤ 300 := fun p hp => long_exact (hh.nn p hp) (cb p hp) (by decide) S
  obtain ⟨bf, hbf⟩ : ∃ bf : Int × Nat → Nat, ∀ p ∈ hi, F__law_long [.int p.1] S = .ok (.int (bf p : Nat)) S ∧ IsBits p.1 (bf p) ∧ bf p ≤ 300 := by
    refine ⟨fun p => if h : p ∈ hi then (hbits p h).choose else 0, fun p hp => ?_⟩
    simp only [dif_pos hp]
    exact (hbits p hp).choose_spec
  obtain ⟨e0, he0, hE⟩ : ∃ e0 : Nat, maxL ((0 : Int) :: (posv hi).map fun p => (p.2 : Int) + (bf p : Nat) - bits) = e0 ∧ ((posv hi = [] ∧ e0 = 0) ∨ ∃ most : Nat, IsMost hi most ∧ e0 = most - bits) := by
    obtain ⟨m1, m2⟩ := maxL_is ((0 : Int) :: (posv hi).map fun p => (p.2 : Int) + (bf p : Nat) - bits) (by rw [List.length_cons]; omega)
    have m3 := m2 0 List.mem_cons_self
    obtain ⟨M, hM⟩ : ∃ M, maxL ((0 : Int) :: (posv hi).map fun p => (p.2 : Int) + (bf p : Nat) - bits) = M := ⟨_, rfl⟩
    rw [hM] at m1 m2 m3 ⊢
    refine ⟨M.toNat, by omega, ?_⟩
    by_cases hz : posv hi = []
    · rw [hz] at m1
      refine .inl ⟨hz, ?_⟩
      have := List.mem_singleton.mp m1
      omega
    · refine .inr ?_
      have hne : 0 < ((posv hi).map fun p => (p.2 : Int) + (bf p : Nat)).length := by rw [List.length_map]; exact List.length_pos_iff.mpr hz
      obtain ⟨k1, k2⟩ := maxL_is _ hne
      obtain ⟨p, hp, e⟩ := List.mem_map.mp k1
      have hpb := hbf p (posv_mem hp)
      refine ⟨p.2 + bf p, ⟨fun r hr => ?_, p, hp, bf p, hpb.2.1, rfl⟩, ?_⟩
      · have := k2 _ (List.mem_map.mpr ⟨r, hr, rfl⟩)
        rw [← e] at this
        exact ⟨bf r, (hbf r (posv_mem hr)).2.1, by omega⟩
      · have u1 := m2 _ (List.mem_cons_of_mem _ (List.mem_map.mpr ⟨p, hp, rfl⟩))
        rcases List.mem_cons.mp m1 with w | w
        · omega
        · obtain ⟨r, hr, er⟩ := List.mem_map.mp w
          have := k2 _ (List.mem_map.mpr ⟨r, hr, rfl⟩)
          rw [← e] at this
          omega
  unfold F__law_around
  refine wp_run ?_
  unfold B__law_around
  simp only [List.map, List.length, List.replicate, List.cons_append, List.nil_append]
  refine wp_seq (Post.mono (C := fun fl S1 => S1 = S ∧ fl = .nx [some x, some y, some (.int bits), some (.lst ((posv hi).map fun p => .int ((p.2 : Int) + (bf p : Nat)))), none, none, none, none]) ?_ ?_)
  · repeat walk_at "mk"
    refine ⟨_, hy, ?_⟩
    refine ⟨by rw [List.length_map, line_eq, sizeLine_eq]; omega, ?_⟩
    refine wp_cfilM (fun p => decide (p.1 > 0)) (fun p : Int × Nat => D.int ((p.2 : Int) + (bf p : Nat))) (fun p hp => ?_) ?_
    · unfold pr
      repeat walk_at "mk"
      refine ⟨rfl, ?_⟩
      repeat walk_at "mk"
      refine ⟨rfl, rfl, fun c => ?_⟩
      repeat walk_at "mk"
      refine Post.of_eq (hbf p hp).1 ?_
      repeat walk_at "mk"
      exact ⟨rfl, rfl⟩
    repeat walk_at "mk"
    exact ⟨rfl, rfl⟩
  rintro fl S1 ⟨rfl, rfl⟩
  refine wp_seqN ?_
  have hpl : (posv hi).length ≤ 8 := Nat.le_trans (posv_len hi) hh1
  refine wp_seq (Post.mono (C := fun fl S2 => S2 = S1 ∧ fl = .nx [some x, some y, some (.int bits), some (.lst ((posv hi).map fun p => .int ((p.2 : Int) + (bf p : Nat)))), some (.int e0), some (.int (2 ^ bits)), none, none]) ?_ ?_)
  · repeat walk_at "mk"
    refine ⟨by rw [List.length_map, line_eq, sizeLine_eq]; omega, ?_⟩
    refine wp_cmapM (fun p : Int × Nat => D.int ((p.2 : Int) + (bf p : Nat) - bits)) (fun p hp => ?_) ?_
    · repeat walk_at "mk"
      refine ⟨rfl, ?_⟩
      repeat walk_at "mk"
      exact ⟨rfl, rfl⟩
    · repeat walk_at "mk"
      · refine wp_maxAL (ns := (0 : Int) :: (posv hi).map fun p => (p.2 : Int) + (bf p : Nat) - bits) (by show some _ = some _; rw [List.map_cons, List.map_map]; rfl) (by rw [List.length_cons]; omega) ?_
        rw [he0]
        repeat walk_at "mk"
        refine Post.of_eq (law_two_eq (by omega) _) ?_
        repeat walk_at "mk"
        first | rfl | exact ⟨rfl, rfl⟩
      · rw [List.length_map, line_eq, sizeLine_eq]
        show 1 + _ ≤ _
        omega
  rintro fl S2 ⟨rfl, rfl⟩
  clear hbf hbits he0
  rcases hE with ⟨hz, rfl⟩ | ⟨most, hM, rfl⟩
  · have hv0 := empty_vl hh hz
    have hl0 : vl lo = 0 := by have := nn_vl hl.nn; omega
    have nl := zero_lows hl hl0
    have nh := zero_lows hh hv0
    repeat walk_at "mk"
    refine wp_while (fun m ρ S' => m = 0 ∧ Keeps S2 S' ∧ ρ = [some x, some y, some (.int bits), some (.lst ((posv hi).map fun p => .int ((p.2 : Int) + (bf p : Nat)))), some (.int (0 : Nat)), some (.int (2 ^ bits)), none, none]) 0 (by decide) ⟨rfl, fun k c e => e, rfl⟩ ?_
    rintro m ρ S' ⟨rfl, k1, rfl⟩
    repeat walk_at "mk"
    refine by_two_eq (up := true) hy hh hh1 (fun p hp c => absurd c (nh p hp)) fun S3 k2 => ?_
    have e1 : upd hi 0 true = 0 := (flo_zero hv0).2
    rw [e1]
    repeat walk_at "mk"
    refine ⟨fun c => absurd (of_decide_eq_true c) (by have := p2 bits; omega), fun _ => ?_⟩
    repeat walk_at "mk"
    refine by_two_eq (up := false) hx hl hl1 (fun p hp c => absurd c (nl p hp)) fun S4 k3 => ?_
    have e2 : upd lo 0 false = 0 := (flo_zero hl0).1
    rw [e2]
    repeat walk_at "mk"
    refine by_two_eq (up := true) hy hh hh1 (fun p hp c => absurd c (nh p hp)) fun S5 k4 => ?_
    rw [e1]
    repeat walk_at "mk"
    exact q0 _ (fun k c e => k4 k c (k3 k c (k2 k c (k1 k c e)))) hz
  · repeat walk_at "mk"
    refine wp_while (fun m ρ S' => ∃ e : Nat, Keeps S2 S' ∧ ρ = [some x, some y, some (.int bits), some (.lst ((posv hi).map fun p => .int ((p.2 : Int) + (bf p : Nat)))), some (.int e), some (.int (2 ^ bits)), none, none] ∧ m = most + 12 - (e + bits) ∧ most - bits ≤ e ∧ ∀ e', most - bits ≤ e' → e' < e → 2 ^ bits ≤ cei hi e') (most + 12 - (most - bits + bits)) (by omega) ⟨most - bits, fun k c e => e, rfl, rfl, Nat.le_refl _, fun e' h1 h2 => by omega⟩ ?_
    rintro m ρ S' ⟨e, k1, rfl, rfl, he, hbe⟩
    have lh := hh.low hM b1 he
    repeat walk_at "mk"
    refine by_two_eq (up := true) hy hh hh1 lh.near fun S3 k2 => ?_
    have e1 : upd hi e true = cei hi e := rfl
    rw [e1]
    repeat walk_at "mk"
    refine ⟨fun c => ?_, fun c => ?_⟩
    · have c' : (2 : Int) ^ bits ≤ cei hi e := of_decide_eq_true c
      have hlt : e + bits < most + 11 := by
        by_cases q : e + bits < most + 11
        · exact q
        · have v := most_lt hh hM
          have v2 : (2 : Int) ^ (most + 10) ≤ 2 ^ (e + (bits - 1)) := pw_mono (by omega)
          have v3 := cei_le (l := hi) (e := e) (k := bits - 1) (by omega)
          have v4 : (2 : Int) ^ bits = 2 ^ (bits - 1) * 2 := by rw [← Int.pow_succ]; congr 1; omega
          have := p2 (bits - 1)
          omega
      repeat walk_at "mk"
      refine ⟨most + 12 - (e + 1 + bits), by omega, e + 1, fun k c z => k2 k c (k1 k c z), by push_cast; rfl, rfl, by omega, fun e' h1 h2 => ?_⟩
      by_cases q : e' = e
      · rw [q]; exact c'
      · exact hbe e' h1 (by omega)
    · have c' : cei hi e < 2 ^ bits := by
        have : ¬ (cei hi e ≥ 2 ^ bits) := of_decide_eq_false c
        omega
      repeat walk_at "mk"
      refine by_two_eq (up := false) hx hl hl1 (lows_low hl hv b1 c').near fun S4 k3 => ?_
      repeat walk_at "mk"
      refine by_two_eq (up := true) hy hh hh1 lh.near fun S5 k4 => ?_
      rw [e1]
      repeat walk_at "mk"
      exact q1 _ e (fun k c z => k4 k c (k3 k c (k2 k c (k1 k c z)))) ⟨most, hM, he, c', hbe⟩
/-! ### the bag at the first place, whatever was drawn; the other cells stay -/
def BagIn (S : Store) : Prop := ∃ b, S[0]? = some (.lst (bagL b)) ∧ Bg b
structure Gr (S S' : Store) : Prop where
  bag : BagIn S'
  keep : ∀ (k : Nat) (c : Cell), 0 < k → S[k]? = some c → S'[k]? = some c
theorem Gr.rfl' {S : Store} (h : BagIn S) : Gr S S := ⟨h, fun _ _ _ e => e⟩
theorem Gr.trans {S S1 S2 : Store} (h : Gr S S1) (g : Gr S1 S2) : Gr S S2 := ⟨g.bag, fun k c k0 e => g.keep k c k0 (h.keep k c k0 e)⟩
theorem Gr.of_keeps {S S' : Store} (h : BagIn S) (k : ∀ (k : Nat) (c : Cell), S[k]? = some c → S'[k]? = some c) : Gr S S' := by
  obtain ⟨b, hb, w⟩ := h
  exact ⟨⟨b, k 0 _ hb, w⟩, fun j c _ e => k j c e⟩
theorem BagIn.pos {S : Store} (h : BagIn S) : 0 < S.length := by
  obtain ⟨b, hb, _⟩ := h
  exact (List.getElem?_eq_some_iff.mp hb).1
theorem Gr.len {S S' : Store} (h : Gr S S') : S.length ≤ S'.length := by
  by_cases q : S.length ≤ S'.length
  · exact q
  · by_cases z : S'.length = 0
    · have := h.bag.pos
      omega
    · have := h.keep S'.length S[S'.length] (by omega) (List.getElem?_eq_getElem _)
      rw [List.getElem?_eq_none (Nat.le_refl _)] at this
      cases this
theorem Gr.new {S S1 : Store} (h : Gr S S1) (c : Cell) : Gr S (S1 ++ [c]) := h.trans (Gr.of_keeps h.bag fun k c' e => by rw [List.getElem?_append_left (List.getElem?_eq_some_iff.mp e).1]; exact e)
theorem Gr.setN {S S1 : Store} (h : Gr S S1) {k : Nat} (hk : S.length ≤ k) (k0 : 0 < k) (c : Cell) : Gr S (S1.set k c) := by
  obtain ⟨⟨b, hb, w⟩, q⟩ := h
  refine ⟨⟨b, by rw [List.getElem?_set_ne (by omega)]; exact hb, w⟩, fun j c' j0 e => ?_⟩
  have := (List.getElem?_eq_some_iff.mp e).1
  rw [List.getElem?_set_ne (by omega)]
  exact q j c' j0 e
theorem new_get (S : Store) (c : Cell) : (S ++ [c])[S.length]? = some c := by rw [List.getElem?_append_right (Nat.le_refl _), Nat.sub_self]; rfl
theorem takeG {S : Store} {m : Int} {C : D → Store → Prop} (h : BagIn S) (hm0 : 0 < m) (hm1 : m < 2 ^ 400) (q : ∀ v S', 0 ≤ v → v < m → Gr S S' → C (.int v) S') : Post (F__law_take [.cell 0, .int m] S) C := by
  obtain ⟨b, hb, w⟩ := h
  exact takeW hb w hm0 hm1 fun v b' v0 v1 w' => q v _ v0 v1 ⟨⟨b', get_set hb, w'⟩, fun k c k0 e => by rw [List.getElem?_set_ne (by omega)]; exact e⟩
theorem takeGN {S : Store} {m : Int} {C : D → Store → Prop} (h : BagIn S) (hm0 : 0 < m) (hm1 : m < 2 ^ 400) (q : ∀ (v : Nat) S', (v : Int) < m → Gr S S' → C (.int v) S') : Post (F__law_take [.cell 0, .int m] S) C :=
  takeG h hm0 hm1 fun v S' v0 v1 g => by
    obtain ⟨n, rfl⟩ := Int.eq_ofNat_of_zero_le v0
    exact q n S' v1 g
theorem someG {S : Store} {xs : List D} {C : D → Store → Prop} (h : BagIn S) (h0 : 0 < xs.length) (h1 : xs.length ≤ 1000000) (q : ∀ x S', x ∈ xs → Gr S S' → C x S') : Post (F__law_some [.cell 0, .lst xs] S) C := by
  obtain ⟨b, hb, w⟩ := h
  exact someB hb w h0 h1 fun i x b' hx w' => q x _ (List.mem_of_getElem? hx) ⟨⟨b', get_set hb, w'⟩, fun k c k0 e => by rw [List.getElem?_set_ne (by omega)]; exact e⟩
theorem bagG {ns : List Int} (hns : ns.length ≤ 63) {C : D → Store → Prop} (h : ∀ S, BagIn S → C (.cell 0) S) : Post (F__law_bag [.flst (ns.map D.int)] []) C := bagB hns fun b w => h _ ⟨b, rfl, w⟩
theorem m_snoc {α β : Type} (f : α → β) (l : List α) (x : α) : l.map f ++ [f x] = (l ++ [x]).map f := (List.map_append (l₁ := l) (l₂ := [x]) (f := f)).symm
theorem cut_toM {α : Type} (f : α → D) (l : List α) (n : Nat) : MK.cutD (l.map f) none (some n) = (l.take n).map f := by
  unfold MK.cutD
  rw [HT.sIx_none, HT.sIx_nat, List.drop_zero, Nat.sub_zero, List.length_map, List.map_take]
  rcases Nat.le_total n l.length with h | h
  · rw [Nat.min_eq_left h]
  · rw [Nat.min_eq_right h, List.take_of_length_le (by rw [List.length_map]; exact Nat.le_refl _), List.take_of_length_le (by rw [List.length_map]; exact h)]
theorem cut_fromM {α : Type} (f : α → D) (l : List α) (n : Nat) : MK.cutD (l.map f) (some n) none = (l.drop n).map f := by
  unfold MK.cutD
  rw [HT.sIx_none, HT.sIx_nat, List.length_map, List.map_drop]
  rcases Nat.le_total n l.length with h | h
  · rw [Nat.min_eq_left h, List.take_of_length_le (by rw [List.length_drop, List.length_map]; exact Nat.le_refl _)]
  · rw [Nat.min_eq_right h, List.drop_eq_nil_of_le (by rw [List.length_map]; exact Nat.le_refl _), List.drop_eq_nil_of_le (by rw [List.length_map]; exact h)]
    simp
theorem wp_lenCell {S : Store} {k : Nat} {xs : List D} {C : D → Store → Prop} (hk : S[k]? = some (.lst xs)) (h : C (.int xs.length) S) : Post (lenD [.cell k] S) C := by
  unfold lenD D.asL
  simp only [hk]
  exact .ok h
/-! a list mixed -/
theorem mixedG {α : Type} {f : α → D} {l : List α} (hl : l.length ≤ 1000) {S : Store} {C : D → Store → Prop} (h : BagIn S) (q : ∀ (r : List α) S', r.Perm l → Gr S S' → C (.lst (r.map f)) S') : Post (F__law_mixed [.cell 0, .lst (l.map f)] S) C := by
  have p0 := h.pos
  unfold F__law_mixed
  refine wp_run ?_
  unfold B__law_mixed
  simp only [List.map, List.length, List.replicate, List.cons_append, List.nil_append]
  repeat walk_at "mk"
  refine wp_forF (fun i ρ S' => ∃ (r : List α) (o : Option D), r.Perm (l.take i) ∧ Gr S S' ∧ S'[S.length]? = some (.lst (r.map f)) ∧ ρ = [some (.cell 0), some (.lst (l.map f)), some (.cell S.length), o]) ⟨[], _, List.Perm.refl _, (Gr.rfl' h).new _, new_get _ _, rfl⟩ ?_ ?_
  · rintro i d ρ S1 hd ⟨r, o, hp, g, hk, rfl⟩
    obtain ⟨x, hx, rfl⟩ : ∃ x, l[i]? = some x ∧ d = f x := by
      rw [List.getElem?_map] at hd
      cases e : l[i]? with
      | none => rw [e] at hd; cases hd
      | some x => rw [e] at hd; exact ⟨x, rfl, (Option.some.inj hd).symm⟩
    have hi := (List.getElem?_eq_some_iff.mp hx).1
    have hrl : r.length = i := by rw [hp.length_eq, List.length_take]; omega
    repeat walk_at "mk"
    refine wp_lenCell hk ?_
    repeat walk_at "mk"
    rw [List.length_map]
    refine takeGN g.bag (by omega) (by omega) fun v S2 hv g2 => ?_
    repeat walk_at "mk"
    refine wp_ins (g2.keep _ _ p0 hk) (by rw [List.length_map, line_eq, sizeLine_eq]; omega) (by omega) ?_
    repeat walk_at "mk"
    refine ⟨r.take v ++ [x] ++ r.drop v, _, ?_, (g.trans g2).setN (Nat.le_refl _) p0 _, ?_, rfl⟩
    · have e2 : l.take (i + 1) = l.take i ++ [x] := by
        obtain ⟨h1, h2⟩ := List.getElem?_eq_some_iff.mp hx
        rw [List.take_succ_eq_append_getElem h1, h2]
      rw [e2]
      have e3 : (r.take v ++ [x] ++ r.drop v).Perm (r ++ [x]) := by
        rw [List.append_assoc]
        refine (List.Perm.append_left _ List.perm_append_comm).trans ?_
        rw [← List.append_assoc, List.take_append_drop]
      exact e3.trans (hp.append_right _)
    · rw [get_set (g2.keep _ _ p0 hk), List.map_append, List.map_append, List.map_take, List.map_drop]
      rfl
  · rintro ρ S1 ⟨r, o, hp, g, hk, rfl⟩
    rw [List.length_map, List.take_length] at hp
    repeat walk_at "mk"
    refine ⟨_, _, rfl, hk, ?_⟩
    repeat walk_at "mk"
    exact q r _ hp (g.setN (Nat.le_refl _) p0 _)
/-! ### what is drawn -/
structure POk (l : Pile) : Prop where
  nn : ∀ p ∈ l, 0 ≤ p.1 ∧ p.1 < 2 ^ 80
  ex : ∀ p ∈ l, p.2 < 2 ^ 300
  len : l.length ≤ 6
theorem pileG {S : Store} {C : D → Store → Prop} (h : BagIn S) (q : ∀ (l : Pile) S', (∀ p ∈ l, 0 ≤ p.1 ∧ p.1 < 2 ^ 80 ∧ p.2 ≤ 600) → l.length ≤ 6 → Gr S S' → C (.lst (l.map pr)) S') : Post (F__law_pile [.cell 0] S) C := by
  have p0 := h.pos
  unfold F__law_pile
  refine wp_run ?_
  unfold B__law_pile
  simp only [List.map, List.length, List.replicate, List.cons_append, List.nil_append]
  repeat walk_at "mk"
  refine someG ((Gr.rfl' h).new _).bag (by simp only [List.length_cons]; omega) (by simp only [List.length_cons, List.length_nil]; omega) fun z S1 hz g1 => ?_
  obtain ⟨n, rfl, hn⟩ : ∃ n : Nat, z = .int n ∧ n ≤ 6 := by
    simp only [List.mem_cons, List.not_mem_nil, or_false] at hz
    rcases hz with rfl | rfl | rfl | rfl | rfl
    · exact ⟨0, rfl, by decide⟩
    · exact ⟨1, rfl, by decide⟩
    · exact ⟨2, rfl, by decide⟩
    · exact ⟨3, rfl, by decide⟩
    · exact ⟨6, rfl, by decide⟩
  have g1' : Gr S S1 := ((Gr.rfl' h).new _).trans g1
  have hk1 := g1.keep _ _ p0 (new_get S _)
  repeat walk_at "mk"
  refine ⟨by omega, ?_⟩
  rw [Int.toNat_natCast]
  refine wp_forF (fun i ρ S' => ∃ (l : Pile) (o o' : Option D), Gr S S' ∧ S'[S.length]? = some (.lst (l.map pr)) ∧ (∀ p ∈ l, 0 ≤ p.1 ∧ p.1 < 2 ^ 80 ∧ p.2 ≤ 600) ∧ l.length = i ∧ ρ = [some (.cell 0), some (.cell S.length), o, o']) ⟨[], _, _, g1', hk1, fun _ h => (by cases h), rfl, rfl⟩ ?_ ?_
  · rintro i d ρ S1 hd ⟨l, o, o', g, hk, hl, hlen, rfl⟩
    obtain ⟨rfl, hi⟩ := rngL_get _ _ _ _ hd
    repeat walk_at "mk"
    refine takeG g.bag (by decide) (by decide) fun v1 S2 a1 a2 g2 => ?_
    repeat walk_at "mk"
    refine takeG (g.trans g2).bag (by decide) (by decide) fun v2 S3 b1 b2 g3 => ?_
    repeat walk_at "mk"
    · refine someG ((g.trans g2).trans g3).bag (by simp only [List.length_cons]; omega) (by simp only [List.length_cons, List.length_nil]; omega) fun z S4 hz g4 => ?_
      obtain ⟨c, rfl, c0, c1⟩ : ∃ c : Int, z = .int c ∧ 0 ≤ c ∧ c < 2 ^ 80 := by
        simp only [List.mem_cons, List.not_mem_nil, or_false] at hz
        have e6 : (10 : Int) ^ (6 : Int).toNat = 1000000 := by decide
        have e9 : (10 : Int) ^ (9 : Int).toNat = 1000000000 := by decide
        have e12 : (10 : Int) ^ (12 : Int).toNat = 1000000000000 := by decide
        rw [e6] at a2
        rw [e9] at b2
        rw [e12] at hz
        rcases hz with rfl | rfl | rfl | rfl | rfl | rfl | rfl
        · exact ⟨_, rfl, by omega, by omega⟩
        · exact ⟨_, rfl, by omega, by omega⟩
        · exact ⟨_, rfl, by omega, by omega⟩
        · exact ⟨_, rfl, by omega, by omega⟩
        · exact ⟨_, rfl, by omega, by omega⟩
        · exact ⟨_, rfl, by omega, by omega⟩
        · exact ⟨_, rfl, by omega, by omega⟩
      have hk4 := ((g2.trans g3).trans g4).keep _ _ p0 hk
      repeat walk_at "mk"
      refine takeG (((g.trans g2).trans g3).trans g4).bag (by decide) (by decide) fun v3 S5 d1 d2 g5 => ?_
      repeat walk_at "mk"
      refine someG ((((g.trans g2).trans g3).trans g4).trans g5).bag (by simp only [List.length_cons]; omega) (by simp only [List.length_cons, List.length_nil]; omega) fun z S6 hz g6 => ?_
      obtain ⟨e, rfl, he⟩ : ∃ e : Nat, z = .int e ∧ e ≤ 600 := by
        simp only [List.mem_cons, List.not_mem_nil, or_false] at hz
        rcases hz with rfl | rfl | rfl | rfl | rfl | rfl | rfl
        · exact ⟨0, rfl, by omega⟩
        · exact ⟨1, rfl, by omega⟩
        · exact ⟨5, rfl, by omega⟩
        · exact ⟨40, rfl, by omega⟩
        · exact ⟨41, rfl, by omega⟩
        · exact ⟨200, rfl, by omega⟩
        · exact ⟨v3.toNat, by rw [Int.toNat_of_nonneg d1], by omega⟩
      have gg := ((((g.trans g2).trans g3).trans g4).trans g5).trans g6
      have hk6 := (((((g2.trans g3).trans g4).trans g5).trans g6).keep _ _ p0 hk)
      repeat walk_at "mk"
      · refine ⟨l ++ [(c, e)], _, _, gg.setN (Nat.le_refl _) p0 _, ?_, fun p hp => ?_, by rw [List.length_append, hlen]; rfl, rfl⟩
        · rw [get_set hk6, ← m_snoc]
        · rcases List.mem_append.mp hp with w | w
          · exact hl p w
          · rw [List.mem_singleton.mp w]; exact ⟨c0, c1, he⟩
      · rw [List.length_map, line_eq, sizeLine_eq]; omega
    · exact MK.mulOk_of (a := 400) (b := 64) (by
        have e9 : (10 : Int) ^ (9 : Int).toNat = 1000000000 := by decide
        rw [e9] at b2
        exact Nat.lt_of_lt_of_le (show v2.natAbs < 2 ^ 30 by omega) (Nat.pow_le_pow_right (by decide) (by decide))) (by decide) (by decide)
  · rintro ρ S1 ⟨l, o, o', g, hk, hl, hlen, rfl⟩
    rw [rngL_length] at hlen
    repeat walk_at "mk"
    refine ⟨_, _, rfl, hk, ?_⟩
    repeat walk_at "mk"
    exact q l _ hl (by omega) (g.setN (Nat.le_refl _) p0 _)
/-! all shifted, or each by itself -/
structure Shf (α : Type) where
  f : α → D
  ini : α → List D
  ex : α → Nat
  g : α → Nat → α
  eq : ∀ x, f x = .tup (ini x ++ [.int (ex x)])
  eg : ∀ x k, f (g x k) = .tup (ini x ++ [.int ((ex x : Int) + (k : Nat))])
  len : ∀ x, (ini x).length ≤ 5
def Moved {α : Type} (s : Shf α) (l r : List α) : Prop := r.length = l.length ∧ ∀ (i : Nat) (x : α), l[i]? = some x → ∃ k, k ≤ 2 ^ 201 ∧ r[i]? = some (s.g x k)
theorem lastI (xs : List D) (d : D) : atI (xs ++ [d]) (-1) = some d := by
  unfold atI ixN
  rw [if_neg (by decide), List.length_append, if_pos (by show -((xs.length + 1 : Nat) : Int) ≤ -1; omega)]
  show (xs ++ [d])[((-1 : Int) + ((xs.length + 1 : Nat) : Int)).toNat]? = _
  rw [show ((-1 : Int) + ((xs.length + 1 : Nat) : Int)).toNat = xs.length by omega, List.getElem?_append_right (Nat.le_refl _), Nat.sub_self]
  rfl
theorem cut_m1 (xs : List D) (d : D) : MK.cutD (xs ++ [d]) none (some (-1)) = xs := by
  unfold MK.cutD
  rw [HT.sIx_none, List.drop_zero, Nat.sub_zero, List.length_append]
  have : HT.sIx (xs.length + [d].length) (xs.length + [d].length) (some (-1)) = xs.length := by
    unfold HT.sIx
    simp
    omega
  rw [this, List.take_left]
theorem farG {α : Type} (s : Shf α) {l : List α} (hl : l.length ≤ 1000) {S : Store} {C : D → Store → Prop} (h : BagIn S) (q : ∀ (r : List α) S', Moved s l r → Gr S S' → C (.lst (r.map s.f)) S') : Post (F__law_far [.cell 0, .lst (l.map s.f)] S) C := by
  have p50 : (2 : Int) ^ (50 : Int).toNat = 1125899906842624 := by decide
  have p10 : (10 : Int) ^ (60 : Int).toNat = ((10 ^ 60 : Nat) : Int) := by decide
  unfold F__law_far
  refine wp_run ?_
  unfold B__law_far
  simp only [List.map, List.length, List.replicate, List.cons_append, List.nil_append]
  refine wp_seq (Post.mono (C := fun fl S1 => ∃ (G w : Nat), Gr S S1 ∧ w < 4 ∧ G ≤ 2 ^ 200 ∧ fl = .nx [some (.cell 0), some (.lst (l.map s.f)), some (.int G), some (.int w), none, none]) ?_ ?_)
  · repeat walk_at "mk"
    · rw [p50]
      refine takeGN h (by decide) (by decide) fun v S1 hv g1 => ?_
      repeat walk_at "mk"
      exact ⟨1125899906842624 * 1125899906842624 * 1125899906842624 * 1125899906842624, v, g1, by omega, by decide, rfl⟩
    · rw [p50]; decide
    · rw [p50]; decide
    · rw [p50]; decide
  rintro fl S1 ⟨G, w, g1, hw, hG, rfl⟩
  refine wp_seqN ?_
  have snoc : ∀ {j : Nat} {x : α} {r : List α} {k : Nat}, l[j]? = some x → k ≤ 2 ^ 201 → Moved s (l.take j) r → Moved s (l.take (j + 1)) (r ++ [s.g x k]) := fun {j x r k} hx hk0 hm => by
    obtain ⟨h1, h2⟩ := List.getElem?_eq_some_iff.mp hx
    obtain ⟨m1, m2⟩ := hm
    refine ⟨by rw [List.length_append, m1, List.length_take, List.length_take, List.length_singleton]; omega, fun i y hy => ?_⟩
    rw [List.length_take] at m1
    by_cases c : i < j
    · rw [List.getElem?_take_of_lt (by omega)] at hy
      obtain ⟨k', z, e⟩ := m2 i y (by rw [List.getElem?_take_of_lt c]; exact hy)
      exact ⟨k', z, by rw [List.getElem?_append_left (by omega)]; exact e⟩
    · have : i = j := by
        have := (List.getElem?_eq_some_iff.mp hy).1
        rw [List.length_take] at this
        omega
      subst this
      rw [List.getElem?_take_of_lt (by omega), hx] at hy
      cases hy
      exact ⟨k, hk0, by rw [List.getElem?_append_right (by omega), show i - r.length = 0 by omega]; rfl⟩
  have getx : ∀ {j : Nat} {d : D}, (l.map s.f)[j]? = some d → ∃ x, l[j]? = some x ∧ d = s.f x := fun {j d} hd => by
    rw [List.getElem?_map] at hd
    cases e : l[j]? with
    | none => rw [e] at hd; cases hd
    | some x => rw [e] at hd; exact ⟨x, rfl, (Option.some.inj hd).symm⟩
  by_cases c0 : w = 0
  · subst c0
    repeat walk_at "mk"
    refine ⟨fun _ => ?_, fun c => absurd c (by decide)⟩
    repeat walk_at "mk"
    refine ⟨by rw [List.length_map, line_eq, sizeLine_eq]; omega, ?_⟩
    refine wp_compF (fun j acc S' => ∃ r : List α, acc = r.map s.f ∧ Moved s (l.take j) r ∧ Gr S S') ⟨[], rfl, ⟨rfl, fun i x h => by rw [List.take_zero] at h; cases h⟩, g1⟩ ?_ ?_
    · rintro j d acc S2 hd ⟨r, rfl, hm, g2⟩
      obtain ⟨x, hx, rfl⟩ := getx hd
      have hlen := s.len x
      rw [s.eq x]
      repeat walk_at "mk"
      rw [cut_m1]
      refine wp_ixT (lastI _ _) ?_
      repeat walk_at "mk"
      refine someG g2.bag (by simp only [List.length_cons]; omega) (by simp only [List.length_cons, List.length_nil]; omega) fun z S3 hz g3 => ?_
      obtain ⟨k, rfl, hk0⟩ : ∃ k : Nat, z = .int k ∧ k ≤ 2 ^ 201 := by
        simp only [List.mem_cons, List.not_mem_nil, or_false] at hz
        rcases hz with rfl | rfl | rfl | rfl
        · exact ⟨0, rfl, by decide⟩
        · exact ⟨G, rfl, by omega⟩
        · exact ⟨G + 3, rfl, by omega⟩
        · exact ⟨10 ^ 60, by rw [p10], by decide⟩
      repeat walk_at "mk"
      refine wp_addT (by rw [line_eq, sizeLine_eq]; show _ + 1 ≤ _; omega) ?_
      exact ⟨r ++ [s.g x k], by rw [← m_snoc, s.eg], snoc hx hk0 hm, g2.trans g3⟩
    · rintro ys S2 ⟨r, rfl, hm, g2⟩
      rw [List.length_map, List.take_length] at hm
      repeat walk_at "mk"
      exact q r _ hm g2
  · have hwn : ((w : Int) == 0) = false := by
      rw [beq_eq_false_iff_ne]
      omega
    repeat walk_at "mk"
    rw [hwn]
    repeat walk_at "mk"
    obtain ⟨k, hk, hk0⟩ : ∃ k : Nat, atI [D.int 0, D.int 0, D.int G, D.int ((10 : Int) ^ (60 : Int).toNat)] (w : Int) = some (.int k) ∧ k ≤ 2 ^ 201 := by
      rw [p10]
      rcases (show w = 1 ∨ w = 2 ∨ w = 3 by omega) with rfl | rfl | rfl
      · exact ⟨0, rfl, by decide⟩
      · exact ⟨G, rfl, by omega⟩
      · exact ⟨10 ^ 60, rfl, by decide⟩
    refine wp_ixL hk ?_
    repeat walk_at "mk"
    refine ⟨by rw [List.length_map, line_eq, sizeLine_eq]; omega, ?_⟩
    refine wp_compF (fun j acc S' => ∃ r : List α, acc = r.map s.f ∧ Moved s (l.take j) r ∧ Gr S S') ⟨[], rfl, ⟨rfl, fun i x h => by rw [List.take_zero] at h; cases h⟩, g1⟩ ?_ ?_
    · rintro j d acc S2 hd ⟨r, rfl, hm, g2⟩
      obtain ⟨x, hx, rfl⟩ := getx hd
      have hlen := s.len x
      rw [s.eq x]
      repeat walk_at "mk"
      rw [cut_m1]
      refine wp_ixT (lastI _ _) ?_
      repeat walk_at "mk"
      refine wp_addT (by rw [line_eq, sizeLine_eq]; show _ + 1 ≤ _; omega) ?_
      exact ⟨r ++ [s.g x k], by rw [← m_snoc, s.eg], snoc hx hk0 hm, g2⟩
    · rintro ys S2 ⟨r, rfl, hm, g2⟩
      rw [List.length_map, List.take_length] at hm
      repeat walk_at "mk"
      exact q r _ hm g2
def shP : Shf (Int × Nat) := ⟨pr, fun x => [.int x.1], fun x => x.2, fun x k => (x.1, x.2 + k), fun _ => rfl, fun x k => by unfold pr; simp, fun _ => by simp⟩
def shE : Shf E3 := ⟨e3D, fun x => [.int x.lo, .int x.hi], fun x => x.e, fun x k => ⟨x.lo, x.hi, x.e + k⟩, fun _ => rfl, fun x k => by unfold e3D; simp, fun _ => by simp⟩
theorem Moved.all {α : Type} {s : Shf α} {l r : List α} (h : Moved s l r) {P : α → Prop} (hp : ∀ x ∈ l, ∀ k, k ≤ 2 ^ 201 → P (s.g x k)) : ∀ x ∈ r, P x := fun x hx => by
  obtain ⟨i, hi, e⟩ := List.getElem_of_mem hx
  have hil : i < l.length := by rw [← h.1]; exact hi
  obtain ⟨k, hk, ek⟩ := h.2 i l[i] (List.getElem?_eq_getElem hil)
  rw [List.getElem?_eq_getElem hi] at ek
  rw [← e, Option.some.inj ek]
  exact hp _ (List.getElem_mem hil) k hk
/-- an enclosure that is drawn, moved or not -/
structure EnOk (x : E3) : Prop where
  lo : 0 ≤ x.lo
  le : x.lo ≤ x.hi
  top : x.hi < 2 ^ 30
theorem enclosureG {S : Store} {C : D → Store → Prop} (h : BagIn S) (q : ∀ (x : E3) S', EnOk x → x.e ≤ 300 → Gr S S' → C (e3D x) S') : Post (F__law_enclosure [.cell 0] S) C := by
  unfold F__law_enclosure
  refine wp_run ?_
  unfold B__law_enclosure
  simp only [List.map, List.length, List.replicate, List.cons_append, List.nil_append]
  repeat walk_at "mk"
  refine takeG h (by decide) (by decide) fun v1 S1 a1 a2 g1 => ?_
  repeat walk_at "mk"
  refine someG g1.bag (by simp only [List.length_cons]; omega) (by simp only [List.length_cons, List.length_nil]; omega) fun z S2 hz g2 => ?_
  obtain ⟨c, rfl, c0, c1⟩ : ∃ c : Int, z = .int c ∧ 0 ≤ c ∧ c ≤ 1000000 := by
    simp only [List.mem_cons, List.not_mem_nil, or_false] at hz
    have e6 : (10 : Int) ^ (6 : Int).toNat = 1000000 := by decide
    rw [e6] at a2
    rcases hz with rfl | rfl | rfl | rfl | rfl | rfl
    · exact ⟨_, rfl, by omega, by omega⟩
    · exact ⟨_, rfl, by omega, by omega⟩
    · exact ⟨_, rfl, by omega, by omega⟩
    · exact ⟨_, rfl, by omega, by omega⟩
    · exact ⟨_, rfl, by omega, by omega⟩
    · exact ⟨_, rfl, by omega, by omega⟩
  repeat walk_at "mk"
  refine someG (g1.trans g2).bag (by simp only [List.length_cons]; omega) (by simp only [List.length_cons, List.length_nil]; omega) fun z S3 hz g3 => ?_
  obtain ⟨t, rfl, t0, t1⟩ : ∃ c : Int, z = .int c ∧ 0 ≤ c ∧ c ≤ 100 := by
    simp only [List.mem_cons, List.not_mem_nil, or_false] at hz
    rcases hz with rfl | rfl | rfl | rfl | rfl
    · exact ⟨_, rfl, by omega, by omega⟩
    · exact ⟨_, rfl, by omega, by omega⟩
    · exact ⟨_, rfl, by omega, by omega⟩
    · exact ⟨_, rfl, by omega, by omega⟩
    · exact ⟨_, rfl, by omega, by omega⟩
  repeat walk_at "mk"
  refine someG ((g1.trans g2).trans g3).bag (by simp only [List.length_cons]; omega) (by simp only [List.length_cons, List.length_nil]; omega) fun z S4 hz g4 => ?_
  obtain ⟨e, rfl, e1⟩ : ∃ c : Nat, z = .int c ∧ c ≤ 300 := by
    simp only [List.mem_cons, List.not_mem_nil, or_false] at hz
    rcases hz with rfl | rfl | rfl | rfl | rfl | rfl
    · exact ⟨0, rfl, by omega⟩
    · exact ⟨1, rfl, by omega⟩
    · exact ⟨2, rfl, by omega⟩
    · exact ⟨9, rfl, by omega⟩
    · exact ⟨64, rfl, by omega⟩
    · exact ⟨300, rfl, by omega⟩
  repeat walk_at "mk"
  exact q ⟨c, c + t, e⟩ _ ⟨c0, by show c ≤ c + t; omega, by show c + t < _; omega⟩ e1 (((g1.trans g2).trans g3).trans g4)
/-! two piles with the same heads -/
theorem dustyG {S : Store} {C : D → Store → Prop} (h : BagIn S) (q : ∀ (l r : Pile) S', POk l → POk r → Gr S S' → C (.tup [.lst (l.map pr), .lst (r.map pr)]) S') : Post (F__law_dusty [.cell 0] S) C := by
  have p50 : (2 : Int) ^ (50 : Int).toNat = 1125899906842624 := by decide
  unfold F__law_dusty
  refine wp_run ?_
  unfold B__law_dusty
  simp only [List.map, List.length, List.replicate, List.cons_append, List.nil_append]
  refine wp_seq (Post.mono (C := fun fl S1 => ∃ (G w : Nat), Gr S S1 ∧ 5000 ≤ G ∧ G ≤ 2 ^ 200 ∧ w ≤ 9000 ∧ fl = .nx [some (.cell 0), some (.int G), some (.int w), none, none, none, none, none, none, none]) ?_ ?_)
  · repeat walk_at "mk"
    · rw [p50]
      refine someG h (by simp only [List.length_cons]; omega) (by simp only [List.length_cons, List.length_nil]; omega) fun z S1 hz g1 => ?_
      obtain ⟨t, rfl, ht⟩ : ∃ c : Nat, z = .int c ∧ c ≤ 9000 := by
        simp only [List.mem_cons, List.not_mem_nil, or_false] at hz
        rcases hz with rfl | rfl | rfl | rfl
        · exact ⟨0, rfl, by omega⟩
        · exact ⟨1, rfl, by omega⟩
        · exact ⟨3000, rfl, by omega⟩
        · exact ⟨9000, rfl, by omega⟩
      repeat walk_at "mk"
      exact ⟨1125899906842624 * 1125899906842624 * 1125899906842624 * 1125899906842624, t, g1, by decide, by decide, ht, rfl⟩
    · rw [p50]; decide
    · rw [p50]; decide
    · rw [p50]; decide
  rintro fl S1 ⟨G, w, g1, hG, hG1, hw, rfl⟩
  refine wp_seqN ?_
  refine wp_seq (Post.mono (C := fun fl S2 => ∃ (l : Pile), Gr S S2 ∧ (∀ p ∈ l, 0 ≤ p.1 ∧ p.1 ≤ 18 ∧ G ≤ p.2 ∧ p.2 ≤ G + 10000) ∧ l.length ≤ 3 ∧ fl = .nx [some (.cell 0), some (.int G), some (.int w), some (.lst (l.map pr)), none, none, none, none, none, none]) ?_ ?_)
  · repeat walk_at "mk"
    refine takeGN g1.bag (by decide) (by decide) fun n S2 hn g2 => ?_
    repeat walk_at "mk"
    refine ⟨by omega, by rw [rngL_length, line_eq, sizeLine_eq]; omega, ?_⟩
    refine wp_compF (fun j acc S' => ∃ r : Pile, acc = r.map pr ∧ (∀ p ∈ r, 0 ≤ p.1 ∧ p.1 ≤ 18 ∧ G ≤ p.2 ∧ p.2 ≤ G + 10000) ∧ r.length = j ∧ Gr S S') ⟨[], rfl, fun _ h => (by cases h), rfl, g1.trans g2⟩ ?_ ?_
    · rintro j d acc S3 hd ⟨r, rfl, hr, hrl, g3⟩
      repeat walk_at "mk"
      refine takeGN g3.bag (by decide) (by decide) fun a S4 ha g4 => ?_
      repeat walk_at "mk"
      refine takeGN (g3.trans g4).bag (by decide) (by decide) fun b S5 hb g5 => ?_
      repeat walk_at "mk"
      refine ⟨r ++ [(1 + (a : Int), G + w + b)], ?_, fun p hp => ?_, by rw [List.length_append, hrl]; rfl, (g3.trans g4).trans g5⟩
      · rw [← m_snoc]
        unfold pr
        push_cast
        rfl
      · rcases List.mem_append.mp hp with z | z
        · exact hr p z
        · rw [List.mem_singleton.mp z]
          exact ⟨by show 0 ≤ 1 + (a : Int); omega, by show 1 + (a : Int) ≤ 18; omega, by show G ≤ G + w + b; omega, by show G + w + b ≤ G + 10000; omega⟩
    · rintro ys S3 ⟨r, rfl, hr, hrl, g3⟩
      rw [rngL_length] at hrl
      repeat walk_at "mk"
      exact ⟨r, g3, hr, by omega, rfl⟩
  rintro fl S2 ⟨l, g2, hl, hll, rfl⟩
  refine wp_seqN ?_
  refine wp_seq (Post.mono (C := fun fl S3 => ∃ (ds : List Pile), Gr S S3 ∧ (∀ d ∈ ds, d.length ≤ 2 ∧ ∀ p ∈ d, 0 ≤ p.1 ∧ p.1 ≤ 18 ∧ p.2 ≤ G + 10000) ∧ 0 < ds.length ∧ ds.length ≤ 10 ∧ fl = .nx [some (.cell 0), some (.int G), some (.int w), some (.lst (l.map pr)), some (.lst (ds.map fun d => .lst (d.map pr))), none, none, none, none, none]) ?_ ?_)
  · repeat walk_at "mk"
    refine ⟨[[], [(1, 0)], [(1, w)], [(3, 40)], [(1, G - 5000)], [(1, G - 900)], [(2, 0), (1, 9)]], g2, ?_, by simp, by simp, ?_⟩
    · intro d hd
      simp only [List.mem_cons, List.not_mem_nil, or_false] at hd
      rcases hd with rfl | rfl | rfl | rfl | rfl | rfl | rfl <;> refine ⟨by simp, fun p hp => ?_⟩ <;> simp only [List.mem_cons, List.not_mem_nil, or_false] at hp
      all_goals first | (subst hp; simp; try omega) | (rcases hp with rfl | rfl <;> simp <;> omega)
    · simp only [List.map_cons, List.map_nil]
      unfold pr
      rw [show ((G - 5000 : Nat) : Int) = (G : Int) - 5000 by omega, show ((G - 900 : Nat) : Int) = (G : Int) - 900 by omega]
      rfl
  rintro fl S3 ⟨ds, g3, hds, hds0, hds1, rfl⟩
  refine wp_seqN ?_
  have dust : ∀ {S4 : Store} {C : D → Store → Prop}, BagIn S4 → (∀ (d : Pile) S5, d.length ≤ 2 → (∀ p ∈ d, 0 ≤ p.1 ∧ p.1 ≤ 18 ∧ p.2 ≤ G + 10000) → Gr S4 S5 → C (.lst (d.map pr)) S5) → Post (F__law_some [.cell 0, .lst (ds.map fun d => .lst (d.map pr))] S4) C := fun {S4 C} hb q => by
    refine someG hb (by rw [List.length_map]; exact hds0) (by rw [List.length_map]; omega) fun z S5 hz g5 => ?_
    obtain ⟨d, hd, rfl⟩ := List.mem_map.mp hz
    exact q d S5 (hds d hd).1 (hds d hd).2 g5
  have pok : ∀ {a b : Pile}, (∀ p ∈ a, 0 ≤ p.1 ∧ p.1 ≤ 36 ∧ p.2 ≤ G + 10000) → a.length ≤ 3 → b.length ≤ 2 → (∀ p ∈ b, 0 ≤ p.1 ∧ p.1 ≤ 18 ∧ p.2 ≤ G + 10000) → POk (a ++ b) := fun {a b} h1 h2 h3 h4 => by
    refine ⟨fun p hp => ?_, fun p hp => ?_, by rw [List.length_append]; omega⟩
    · rcases List.mem_append.mp hp with z | z
      · have := h1 p z; omega
      · have := h4 p z; omega
    · rcases List.mem_append.mp hp with z | z
      · have := h1 p z; omega
      · have := h4 p z; omega
  have hl36 : ∀ p ∈ l, 0 ≤ p.1 ∧ p.1 ≤ 36 ∧ p.2 ≤ G + 10000 := fun p hp => by have := hl p hp; omega
  refine wp_seq (Post.mono (C := fun fl S4 => ∃ (a b : Pile), Gr S S4 ∧ POk a ∧ POk b ∧ fl = .nx [some (.cell 0), some (.int G), some (.int w), some (.lst (l.map pr)), some (.lst (ds.map fun d => .lst (d.map pr))), some (.lst (a.map pr)), some (.lst (b.map pr)), none, none, none]) ?_ ?_)
  · repeat walk_at "mk"
    refine dust g3.bag fun d S4 hd1 hd2 g4 => ?_
    repeat walk_at "mk"
    · refine mixedG (by omega) (g3.trans g4).bag fun r S5 hr g5 => ?_
      repeat walk_at "mk"
      refine dust ((g3.trans g4).trans g5).bag fun d' S6 hd3 hd4 g6 => ?_
      repeat walk_at "mk"
      · exact ⟨l ++ d, r ++ d', ((g3.trans g4).trans g5).trans g6, pok hl36 hll hd1 hd2, pok (fun p hp => hl36 p (hr.mem_iff.mp hp)) (by rw [hr.length_eq]; exact hll) hd3 hd4, by rw [List.map_append, List.map_append]; rfl⟩
      · rw [List.length_map, List.length_map, hr.length_eq, line_eq, sizeLine_eq]; omega
    · rw [List.length_map, List.length_map, line_eq, sizeLine_eq]; omega
  rintro fl S4 ⟨a, b, g4, ha, hb, rfl⟩
  refine wp_seqN ?_
  refine wp_seq (Post.mono (C := fun fl S5 => ∃ (b : Pile), Gr S S5 ∧ POk b ∧ fl = .nx [some (.cell 0), some (.int G), some (.int w), some (.lst (l.map pr)), some (.lst (ds.map fun d => .lst (d.map pr))), some (.lst (a.map pr)), some (.lst (b.map pr)), none, none, none]) ?_ ?_)
  · repeat walk_at "mk"
    refine takeGN g4.bag (by decide) (by decide) fun v S5 hv g5 => ?_
    repeat walk_at "mk"
    refine ⟨fun _ => ?_, fun _ => ?_⟩
    · repeat walk_at "mk"
      refine ⟨by rw [List.length_map, line_eq, sizeLine_eq]; omega, ?_⟩
      refine wp_cmapM (fun p : Int × Nat => pr (2 * p.1, p.2 - 1)) (fun p hp => ?_) ?_
      · have hp' := hl p hp
        unfold pr
        repeat walk_at "mk"
        refine ⟨rfl, ?_⟩
        repeat walk_at "mk"
        · refine ⟨?_, rfl⟩
          show D.tup [.int (2 * p.1), .int ((p.2 : Int) - 1)] = .tup [.int (2 * p.1), .int ((p.2 - 1 : Nat) : Int)]
          rw [show ((p.2 - 1 : Nat) : Int) = (p.2 : Int) - 1 by omega]
        · exact MK.mulOk_of (a := 4) (b := 8) (by decide) (by omega) (by decide)
      · repeat walk_at "mk"
        refine dust (g4.trans g5).bag fun d S6 hd1 hd2 g6 => ?_
        repeat walk_at "mk"
        · refine ⟨(l.map fun p => (2 * p.1, p.2 - 1)) ++ d, (g4.trans g5).trans g6, pok (fun p hp => ?_) (by rw [List.length_map]; exact hll) hd1 hd2, ?_⟩
          · obtain ⟨x, hx, rfl⟩ := List.mem_map.mp hp
            have := hl x hx
            exact ⟨by show 0 ≤ 2 * x.1; omega, by show 2 * x.1 ≤ 36; omega, by show x.2 - 1 ≤ G + 10000; omega⟩
          · rw [List.map_append, List.map_map]; rfl
        · rw [List.length_map, List.length_map, line_eq, sizeLine_eq]; omega
    · repeat walk_at "mk"
      exact ⟨b, g4.trans g5, hb, rfl⟩
  rintro fl S5 ⟨b', g5, hb', rfl⟩
  repeat walk_at "mk"
  exact q a b' _ ha hb' g5
theorem POk.hi {l : Pile} (h : POk l) : HiOk l ∧ l.length ≤ 8 ∧ (∀ p ∈ l, 0 ≤ p.1) ∧ lf l < 2 ^ 100 := by
  have h0 : ∀ p ∈ l, 0 ≤ p.1 := fun p hp => (h.nn p hp).1
  have b : ∀ k : Pile, (∀ p ∈ k, p ∈ l) → lf k ≤ 2 ^ 80 * (k.length : Int) := by
    intro k
    induction k with
    | nil => intro _; simp [lf]
    | cons p k ih =>
      intro hk
      have i := ih fun x hx => hk x (List.mem_cons_of_mem _ hx)
      obtain ⟨c0, c1⟩ := h.nn p (hk p List.mem_cons_self)
      rw [lf_cons, List.length_cons]
      have : ab p.1 = p.1 := by unfold ab; rw [if_neg (by omega)]
      rw [this]
      push_cast
      omega
  have q := b l fun p hp => hp
  have hl := h.len
  have q2 : lf l < 2 ^ 100 := by omega
  exact ⟨⟨h0, by omega, by have : (2 : Int) ^ 100 < 2 ^ 300 := by decide
                           omega⟩, by omega, h0, q2⟩
/-! ### enclosures told in any order -/
def Enc (lo hi : Pile) (bits : Nat) (r : D) : Prop := (posv hi = [] ∧ r = .tup [.int 0, .int 0, .int 0]) ∨ ∃ e : Nat, Stands hi bits e ∧ r = .tup [.int (flo lo e), .int (cei hi e), .int e]
theorem posv_perm {l r : Pile} (h : l.Perm r) : (posv l).Perm (posv r) := h.filter _
theorem cei_perm {l r : Pile} (h : l.Perm r) (e : Nat) : cei l e = cei r e := by unfold cei; rw [vl_perm h]
theorem IsMost.perm {l r : Pile} (h : l.Perm r) {m : Nat} (q : IsMost l m) : IsMost r m := by
  obtain ⟨q1, p, hp, q2⟩ := q
  have z := posv_perm h
  exact ⟨fun x hx => q1 x (z.mem_iff.mpr hx), p, z.mem_iff.mp hp, q2⟩
theorem Stands.perm {l r : Pile} (h : l.Perm r) {b e : Nat} (q : Stands l b e) : Stands r b e := by
  obtain ⟨m, h1, h2, h3, h4⟩ := q
  exact ⟨m, h1.perm h, h2, by rw [← cei_perm h]; exact h3, fun e' a b => by rw [← cei_perm h]; exact h4 e' a b⟩
theorem Enc.perm {lo hi hi' : Pile} (h : hi.Perm hi') {b : Nat} {r : D} (q : Enc lo hi b r) : Enc lo hi' b r := by
  rcases q with ⟨q1, q2⟩ | ⟨e, q1, q2⟩
  · exact .inl ⟨by have := posv_perm h; rw [q1] at this; exact List.nil_perm.mp this, q2⟩
  · exact .inr ⟨e, q1.perm h, by rw [q2, cei_perm h]⟩
theorem Enc.uniq {lo hi : Pile} {b : Nat} {r s : D} (h : Enc lo hi b r) (g : Enc lo hi b s) : r = s := by
  rcases h with ⟨h1, rfl⟩ | ⟨e, h1, rfl⟩
  · rcases g with ⟨g1, rfl⟩ | ⟨e, g1, rfl⟩
    · rfl
    · obtain ⟨m, ⟨_, p, hp, _⟩, _⟩ := g1
      rw [h1] at hp
      cases hp
  · rcases g with ⟨g1, rfl⟩ | ⟨f, g1, rfl⟩
    · obtain ⟨m, ⟨_, p, hp, _⟩, _⟩ := h1
      rw [g1] at hp
      cases hp
    · rw [h1.uniq g1]
theorem stands_e {hi : Pile} (h : POk hi) {bits e : Nat} (b0 : 0 < bits) (q : Stands hi bits e) : e ≤ 2 ^ 302 := by
  obtain ⟨most, hM, h2, h3, h4⟩ := q
  obtain ⟨p, hp, m, hm, em⟩ := hM.2
  have hpl := posv_mem hp
  have he := h.ex p hpl
  have hc := (h.nn p hpl).2
  have hm80 : m ≤ 81 := by
    rcases hm.2 with ⟨_, rfl⟩ | ⟨m0, g⟩
    · exact Nat.zero_le _
    · have := pw_lt_of (Int.lt_of_le_of_lt g hc)
      omega
  by_cases c : e ≤ most + 20
  · have : (2 : Nat) ^ 300 + 200 ≤ 2 ^ 302 := by decide
    omega
  · have v := most_lt h.hi.1 hM
    have v2 : (2 : Int) ^ (most + 10) ≤ 2 ^ (most + 11 + (bits - 1)) := pw_mono (by omega)
    have v3 := cei_le (l := hi) (e := most + 11) (k := bits - 1) (by omega)
    have v4 := h4 (most + 11) (by omega) (by omega)
    have v5 : (2 : Int) ^ bits = 2 ^ (bits - 1) * 2 := by rw [← Int.pow_succ]; congr 1; omega
    have := p2 (bits - 1)
    omega
theorem Enc.tell {lo hi : Pile} (hl : POk lo) (hh : POk hi) (hv : vl lo ≤ vl hi) {bits : Nat} (b0 : 0 < bits) (b1 : bits ≤ 300) {r : D} (q : Enc lo hi bits r) : ∃ x : E3, r = e3D x ∧ E3Ok x ∧ x.e ≤ 2 ^ 302 := by
  rcases q with ⟨q1, rfl⟩ | ⟨e, q1, rfl⟩
  · exact ⟨⟨0, 0, 0⟩, rfl, ⟨Int.le_refl _, Int.le_refl _, p2 400, p2 400⟩, Nat.zero_le _⟩
  · have he := stands_e hh b0 q1
    obtain ⟨_, _, _, hc, _⟩ := q1
    have P := p2 e
    have f0 : 0 ≤ flo lo e := Int.ediv_nonneg (nn_vl hl.hi.2.2.1) (Int.le_of_lt P)
    obtain ⟨g1, g2⟩ := flo_bounds lo e
    have c0 : vl hi ≤ cei hi e * 2 ^ e := by
      rw [cei_of]
      obtain ⟨_, z⟩ := flo_bounds hi e
      split
      · rename_i w; omega
      · omega
    have le : flo lo e ≤ cei hi e := Int.le_of_mul_le_mul_right (a := 2 ^ e) (by omega) P
    have z : (2 : Int) ^ bits ≤ 2 ^ 300 := pw_mono b1
    have z2 : (2 : Int) ^ 300 ≤ 2 ^ 400 := pw_mono (by decide)
    exact ⟨⟨flo lo e, cei hi e, e⟩, rfl, ⟨f0, by show 0 ≤ cei hi e; omega, by show flo lo e < 2 ^ 400; omega, by show cei hi e < 2 ^ 400; omega⟩, he⟩
theorem nat_small {e k : Nat} (h : e ≤ 2 ^ k) (hk : k < 1000) : (e : Int).natAbs < 2 ^ 1000 := by
  have : (2 : Nat) ^ k < 2 ^ 1000 := Nat.pow_lt_pow_right (by decide) hk
  omega
theorem e3_easy {x : E3} (h : E3Ok x) (he : x.e ≤ 2 ^ 302) : EasyT (e3D x) := by
  have z : (2 : Nat) ^ 400 < 2 ^ 1000 := Nat.pow_lt_pow_right (by decide) (by decide)
  have zi : (2 : Int) ^ 400 = ((2 ^ 400 : Nat) : Int) := by push_cast; rfl
  obtain ⟨h1, h2, h3, h4⟩ := h
  refine .inr ⟨_, rfl, by simp only [List.length_cons, List.length_nil]; omega, fun y hy => ?_⟩
  simp only [List.mem_cons, List.not_mem_nil, or_false] at hy
  rw [zi] at h3 h4
  rcases hy with rfl | rfl | rfl
  · exact easy_int (by omega)
  · exact easy_int (by omega)
  · exact easy_int (nat_small he (by decide))
theorem wp_alikeT {x y : D} (e : y = x) (h : EasyT x) {S : Store} {C : D → Store → Prop} (q : C (.bl true) S) : Post (F__law_alike [y, x] S) C := by
  obtain ⟨h1, h2, h3⟩ := h.fine
  rw [e]
  refine wp_alike h1 (Nat.le_trans h2 (by rw [line_eq, sizeLine_eq]; decide)) (by omega) (fun k => ?_) q
  rcases h with h | ⟨ys, rfl, _⟩
  · rcases h with rfl | ⟨b, rfl⟩ | ⟨n, rfl, _⟩ <;> exact nofun
  · exact nofun
/-- two lists that are changed no more, or cells of such, with the same items -/
theorem wp_alikeS {x y : D} {xs : List D} {S : Store} (hx : x.pyS S = (D.lst xs).py) (hy : y.pyS S = (D.lst xs).py) (h : ∀ z ∈ xs, EasyT z) (hl : xs.length ≤ 100) {C : D → Store → Prop} (q : C (.bl true) S) : Post (F__law_alike [x, y] S) C := by
  have h1 : (D.lst xs).okR = true := by unfold D.okR; exact okRs_all fun x hx => (h x hx).fine.1
  have h2 : (D.lst xs).size ≤ line := by
    have := sizes_le (b := 40000) fun x hx => (h x hx).fine.2.1
    have : (40000 + 2) * xs.length ≤ (40000 + 2) * 100 := Nat.mul_le_mul_left _ hl
    unfold D.size
    rw [line_eq, sizeLine_eq]
    omega
  have h3 : (D.lst xs).dep ≤ 64 := by
    have := deps_le (b := 1) fun x hx => (h x hx).fine.2.2
    unfold D.dep
    omega
  obtain ⟨p, e, f⟩ := (D.lst xs).fine h1
  obtain ⟨f1, f2, f3⟩ := f.ok h2 h3
  rw [e] at hx hy
  unfold F__law_alike
  refine wp_run ?_
  unfold B__law_alike
  simp only [List.map, List.length, List.replicate, List.cons_append, List.nil_append]
  repeat walk_at "mk"
  refine wp_eqP hx hy f2 f2 ?_
  rw [f3]
  repeat walk_at "mk"
  refine wp_repr hx f1 ?_
  repeat walk_at "mk"
  refine wp_repr hy f1 ?_
  repeat walk_at "mk"
  rw [decide_eq_true rfl]
  exact q
theorem pyS_cell {S : Store} {k : Nat} {xs : List D} (h : S[k]? = some (.lst xs)) : (D.cell k).pyS S = (D.lst xs).py := by
  simp only [D.pyS, h, D.py]
/-- what is told of it, whatever the store -/
theorem shown_of {d : D} (h1 : d.okR = true) (h2 : d.size ≤ line) (h3 : d.dep ≤ 64) (h4 : ∀ k, d ≠ .cell k) : ∃ z : Str, ∀ {S : Store} {C : D → Store → Prop}, C (.str z) S → Post (reprD [d] S) C := by
  obtain ⟨p, e, f⟩ := d.fine h1
  obtain ⟨f1, f2, f3⟩ := f.ok h2 h3
  exact ⟨p.shown, fun {S C} q => wp_repr ((pyS_of h4).trans e) f1 q⟩
theorem pr_easy {l : Pile} (h : POk l) : ∀ z ∈ l.map pr, EasyT z := fun z hz => by
  obtain ⟨p, hp, rfl⟩ := List.mem_map.mp hz
  have h1 := h.nn p hp
  have h2 := h.ex p hp
  have z : (2 : Nat) ^ 300 < 2 ^ 1000 := Nat.pow_lt_pow_right (by decide) (by decide)
  have z2 : (2 : Nat) ^ 80 < 2 ^ 1000 := Nat.pow_lt_pow_right (by decide) (by decide)
  refine .inr ⟨_, rfl, by simp only [List.length_cons, List.length_nil]; omega, fun y hy => ?_⟩
  simp only [List.mem_cons, List.not_mem_nil, or_false] at hy
  have zi : (2 : Int) ^ 80 = ((2 ^ 80 : Nat) : Int) := (fun k : Nat => (by push_cast; rfl : (2 : Int) ^ k = ((2 ^ k : Nat) : Int))) 80
  rw [zi] at h1
  rcases hy with rfl | rfl
  · exact easy_int (by omega)
  · exact easy_int (by omega)
theorem lst_fine {xs : List D} (h : ∀ z ∈ xs, EasyT z) (hl : xs.length ≤ 100) : (D.lst xs).okR = true ∧ (D.lst xs).size ≤ 5000000 ∧ (D.lst xs).dep ≤ 2 := by
  refine ⟨by unfold D.okR; exact okRs_all fun x hx => (h x hx).fine.1, ?_, ?_⟩
  · have := sizes_le (b := 40000) fun x hx => (h x hx).fine.2.1
    have : (40000 + 2) * xs.length ≤ (40000 + 2) * 100 := Nat.mul_le_mul_left _ hl
    unfold D.size
    omega
  · have := deps_le (b := 1) fun x hx => (h x hx).fine.2.2
    unfold D.dep
    omega
theorem shown_lst {xs : List D} (h : ∀ z ∈ xs, EasyT z) (hl : xs.length ≤ 100) : ∃ z : Str, ∀ {S : Store} {C : D → Store → Prop}, C (.str z) S → Post (reprD [.lst xs] S) C := by
  obtain ⟨h1, h2, h3⟩ := lst_fine h hl
  exact shown_of h1 (by rw [line_eq, sizeLine_eq]; omega) (by omega) (fun k => nofun)
theorem shown_two {xs ys : List D} (h : ∀ z ∈ xs, EasyT z) (hl : xs.length ≤ 100) (g : ∀ z ∈ ys, EasyT z) (gl : ys.length ≤ 100) : ∃ z : Str, ∀ {S : Store} {C : D → Store → Prop}, C (.str z) S → Post (reprD [.lst [.lst xs, .lst ys]] S) C := by
  obtain ⟨h1, h2, h3⟩ := lst_fine h hl
  obtain ⟨g1, g2, g3⟩ := lst_fine g gl
  refine shown_of ?_ ?_ ?_ (fun k => nofun)
  · unfold D.okR D.okRs D.okRs D.okRs
    rw [h1, g1]
    rfl
  · unfold D.size D.sizes D.sizes D.sizes
    rw [line_eq, sizeLine_eq]
    omega
  · unfold D.dep D.deps D.deps D.deps
    omega
theorem Gr.kept {S0 S S' : Store} (h : Gr S0 S) (k : Keeps S S') : Gr S0 S' := h.trans (Gr.of_keeps h.bag k)
theorem aroundE {lo hi hi' : Pile} (hl : POk lo) (hh : POk hi) (pp : hi'.Perm hi) (hv : vl lo ≤ vl hi) {bits : Nat} (b0 : 0 < bits) (b1 : bits ≤ 300) {x y : D} (hx : x.still = some (lo.map pr)) (hy : y.still = some (hi'.map pr)) {S : Store} {C : D → Store → Prop}
    (q : ∀ r, Enc lo hi bits r → C r S) : Post (F_around [x, y, .int bits] S) C := by
  have hh' : POk hi' := ⟨fun p hp => hh.nn p (pp.mem_iff.mp hp), fun p hp => hh.ex p (pp.mem_iff.mp hp), by rw [pp.length_eq]; exact hh.len⟩
  obtain ⟨r, e, w⟩ := around_eq hl.hi.1 hh'.hi.1 (by rw [vl_perm pp]; exact hv) b0 b1 hx hy S
  exact Post.of_eq e (q r (Enc.perm (lo := lo) pp w))
theorem lawAroundE {lo hi : Pile} (hl : POk lo) (hh : POk hi) (hv : vl lo ≤ vl hi) {bits : Nat} (b0 : 0 < bits) (b1 : bits ≤ 300) {x y : D} (hx : x.still = some (lo.map pr)) (hy : y.still = some (hi.map pr)) {S : Store} {C : D → Store → Prop}
    (q : ∀ r S', Keeps S S' → Enc lo hi bits r → C r S') : Post (F__law_around [x, y, .int bits] S) C :=
  law_around_eq hl.hi.1 hh.hi.1 hl.hi.2.1 hh.hi.2.1 hv b0 b1 hx hy (fun S' k z => q _ S' k (.inl ⟨z, rfl⟩)) (fun S' e k z => q _ S' k (.inr ⟨e, z, rfl⟩))
theorem comparedE {l1 l2 : Pile} {x y : D} (hx : x.still = some (l1.map pr)) (hy : y.still = some (l2.map pr)) (h1 : POk l1) (h2 : POk l2) {S : Store} {C : D → Store → Prop} (q : C (.int (sg (vl l1 - vl l2))) S) : Post (F_compared [x, y] S) C :=
  Post.of_eq (compared_eq hx hy h1.hi.2.2.1 h2.hi.2.2.1 (by have := h1.len; omega) (by have := h2.len; omega) (N := 101) (by decide) (by
    have := h1.hi.2.2.2
    have := h2.hi.2.2.2
    omega) S) q
theorem orderE {l1 l2 : Pile} {x y : D} (hx : x.still = some (l1.map pr)) (hy : y.still = some (l2.map pr)) (h1 : POk l1) (h2 : POk l2) {S : Store} {C : D → Store → Prop} (q : ∀ S', Keeps S S' → C (.int (sg (vl l1 - vl l2))) S') : Post (F__law_order [x, y] S) C :=
  order_eq hx hy h1.hi.2.2.1 h2.hi.2.2.1 (by have := h1.len; omega) (by have := h2.len; omega) (N := 101) (by decide) (by
    have := h1.hi.2.2.2
    have := h2.hi.2.2.2
    omega) q
structure EnP (xs : List E3) : Prop where
  all : ∀ x ∈ xs, EnOk x ∧ x.e ≤ 2 ^ 202
  len : xs.length ≤ 5
theorem EnP.lows {xs : List E3} (h : EnP xs) : POk (lowsP xs) := by
  refine ⟨fun p hp => ?_, fun p hp => ?_, by unfold lowsP; rw [List.length_map]; have := h.len; omega⟩
  · obtain ⟨x, hx, rfl⟩ := List.mem_map.mp hp
    obtain ⟨⟨h1, h2, h3⟩, _⟩ := h.all x hx
    exact ⟨h1, by show x.lo < 2 ^ 80; omega⟩
  · obtain ⟨x, hx, rfl⟩ := List.mem_map.mp hp
    obtain ⟨_, h4⟩ := h.all x hx
    show x.e < 2 ^ 300
    omega
theorem EnP.highs {xs : List E3} (h : EnP xs) : POk (highsP xs) := by
  refine ⟨fun p hp => ?_, fun p hp => ?_, by unfold highsP; rw [List.length_map]; have := h.len; omega⟩
  · obtain ⟨x, hx, rfl⟩ := List.mem_map.mp hp
    obtain ⟨⟨h1, h2, h3⟩, _⟩ := h.all x hx
    exact ⟨by show 0 ≤ x.hi; omega, by show x.hi < 2 ^ 80; omega⟩
  · obtain ⟨x, hx, rfl⟩ := List.mem_map.mp hp
    obtain ⟨_, h4⟩ := h.all x hx
    show x.e < 2 ^ 300
    omega
theorem EnP.le {xs : List E3} (h : EnP xs) : vl (lowsP xs) ≤ vl (highsP xs) := low_high fun x hx => (h.all x hx).1.le
theorem EnP.one {x : E3} (h : EnOk x) (he : x.e ≤ 2 ^ 202) : EnP [x] := ⟨fun y hy => by rw [List.mem_singleton.mp hy]; exact ⟨h, he⟩, by simp⟩
theorem EnOk.e3 {x : E3} (h : EnOk x) : E3Ok x := by
  obtain ⟨h1, h2, h3⟩ := h
  have z : (2 : Int) ^ 30 ≤ 2 ^ 400 := pw_mono (by decide)
  exact ⟨h1, by omega, by omega, by omega⟩
theorem EnP.easy {xs : List E3} (h : EnP xs) : ∀ z ∈ xs.map e3D, EasyT z := fun z hz => by
  obtain ⟨x, hx, rfl⟩ := List.mem_map.mp hz
  obtain ⟨h1, h2⟩ := h.all x hx
  exact e3_easy h1.e3 (by omega)
theorem sumE {xs : List E3} (h : EnP xs) {bits : Nat} (b0 : 0 < bits) (b1 : bits ≤ 300) {S : Store} {C : D → Store → Prop} (q : ∀ r, Enc (lowsP xs) (highsP xs) bits r → C r S) : Post (F_sum_of [.lst (xs.map e3D), .int bits] S) C := by
  obtain ⟨r, e, w⟩ := sum_of_eq h.lows.hi.1 h.highs.hi.1 (fun x hx => (h.all x hx).1.le) b0 b1 S
  exact Post.of_eq e (q r w)
theorem trimmedE {x : E3} (h : EnOk x) (he : x.e ≤ 2 ^ 202) {bits : Nat} (b0 : 0 < bits) (b1 : bits ≤ 300) {S : Store} {C : D → Store → Prop} (q : ∀ r, Enc (lowsP [x]) (highsP [x]) bits r → C r S) : Post (F_trimmed [e3D x, .int bits] S) C := by
  have p := EnP.one h he
  obtain ⟨r, e, w⟩ := trimmed_eq p.lows.hi.1 p.highs.hi.1 h.le b0 b1 S
  exact Post.of_eq e (q r w)
theorem sg_abs (x : Int) : (sg x).natAbs ≤ 1 := by
  unfold sg
  by_cases c : 0 < x
  · rw [if_pos c]; decide
  · rw [if_neg c]
    split <;> decide
theorem sg_easy (x : Int) : Easy (.int (sg x)) := easy_int (by have := sg_abs x; have : (1 : Nat) < 2 ^ 1000 := Nat.one_lt_two_pow (by decide); omega)
theorem main {ns : List Int} (hns : ns.length ≤ 63) : ∃ S', F_law [.flst (ns.map D.int)] [] = .ok (.bl true) S' := by
  suffices Post (F_law [.flst (ns.map D.int)] []) fun d _ => d = .bl true by
    obtain ⟨d, S', e, rfl⟩ := this
    exact ⟨S', e⟩
  unfold F_law
  refine wp_run ?_
  unfold B_law
  simp only [List.map, List.length, List.replicate, List.cons_append, List.nil_append]
  repeat walk_at "mk"
  refine bagG hns fun S hb => ?_
  repeat walk_at "mk"
  refine ⟨by decide, ?_⟩
  refine wp_forF (fun i ρ S' => ∃ (o2 o3 o4 o5 o6 o7 o8 o9 o10 o11 o12 o13 o14 o15 o16 o17 o18 o19 o20 o21 o22 o23 o24 : Option D), BagIn S' ∧ ρ = [some (.flst (ns.map D.int)), some (.cell 0), o2, o3, o4, o5, o6, o7, o8, o9, o10, o11, o12, o13, o14, o15, o16, o17, o18, o19, o20, o21, o22, o23, o24]) ⟨_, _, _, _, _, _, _, _, _, _, _, _, _, _, _, _, _, _, _, _, _, _, _, hb, rfl⟩ ?_ ?_
  · rintro i d ρ S0 hd ⟨o2, o3, o4, o5, o6, o7, o8, o9, o10, o11, o12, o13, o14, o15, o16, o17, o18, o19, o20, o21, o22, o23, o24, hb, rfl⟩
    obtain ⟨rfl, hi⟩ := rngL_get _ _ _ _ hd
    clear hd
    refine wp_gnm ?_
    obtain ⟨scr, hscr⟩ : ∃ scr, some (D.flst (ns.map D.int)) = scr := ⟨_, rfl⟩
    rw [hscr]
    refine wp_seq (Post.mono (C := fun fl S1 => ∃ (l1 l2 : Pile) (bits : Nat), BagIn S1 ∧ (∀ p ∈ l1 ++ l2, 0 ≤ p.1 ∧ p.1 < 2 ^ 80 ∧ p.2 ≤ 600) ∧ l1.length ≤ 6 ∧ l2.length ≤ 6 ∧ 0 < bits ∧ bits ≤ 300 ∧ fl = .nx [scr, some (.cell 0), some (.int (0 + i)), some (.lst (l1.map pr)), some (.lst (l2.map pr)), some (.int bits), o6, o7, o8, o9, o10, o11, o12, o13, o14, o15, o16, o17, o18, o19, o20, o21, o22, o23, o24]) ?_ ?_)
    · repeat walk_at "mk"
      refine pileG hb fun l1 S1 h1 n1 g1 => ?_
      repeat walk_at "mk"
      refine pileG g1.bag fun l2 S2 h2 n2 g2 => ?_
      repeat walk_at "mk"
      refine someG g2.bag (by simp only [List.length_cons]; omega) (by simp only [List.length_cons, List.length_nil]; omega) fun z S3 hz g3 => ?_
      obtain ⟨bits, rfl, b0, b1⟩ : ∃ c : Nat, z = .int c ∧ 0 < c ∧ c ≤ 300 := by
        simp only [List.mem_cons, List.not_mem_nil, or_false] at hz
        rcases hz with rfl | rfl | rfl | rfl | rfl | rfl
        · exact ⟨1, rfl, by omega, by omega⟩
        · exact ⟨2, rfl, by omega, by omega⟩
        · exact ⟨3, rfl, by omega, by omega⟩
        · exact ⟨8, rfl, by omega, by omega⟩
        · exact ⟨60, rfl, by omega, by omega⟩
        · exact ⟨300, rfl, by omega, by omega⟩
      repeat walk_at "mk"
      refine ⟨l1, l2, bits, g3.bag, fun p hp => ?_, n1, n2, b0, b1, rfl⟩
      rcases List.mem_append.mp hp with z | z
      · exact h1 p z
      · exact h2 p z
    clear hb
    rintro fl S ⟨l1, l2, bits, hb, hl, n1, n2, b0, b1, rfl⟩
    refine wp_seqN ?_
    refine wp_seq (Post.mono (C := fun fl S1 => ∃ (r : Pile), BagIn S1 ∧ Moved shP (l1 ++ l2) r ∧ fl = .nx [scr, some (.cell 0), some (.int (0 + i)), some (.lst (l1.map pr)), some (.lst (l2.map pr)), some (.int bits), some (.lst (r.map pr)), o7, o8, o9, o10, o11, o12, o13, o14, o15, o16, o17, o18, o19, o20, o21, o22, o23, o24]) ?_ ?_)
    · repeat walk_at "mk"
      · rw [← List.map_append]
        refine farG shP (l := l1 ++ l2) (by rw [List.length_append]; omega) hb fun r S1 hm g => ?_
        repeat walk_at "mk"
        exact ⟨r, g.bag, hm, rfl⟩
      · rw [List.length_map, List.length_map, line_eq, sizeLine_eq]; omega
    clear hb
    rintro fl S ⟨r, hb, hm, rfl⟩
    refine wp_seqN ?_
    obtain ⟨k1, k2, p1, p2', hk1, hk2⟩ : ∃ k1 k2 : Pile, POk k1 ∧ POk k2 ∧ r.take l1.length = k1 ∧ r.drop l1.length = k2 := by
      have hall : ∀ p ∈ r, 0 ≤ p.1 ∧ p.1 < 2 ^ 80 ∧ p.2 < 2 ^ 300 := hm.all (P := fun p => 0 ≤ p.1 ∧ p.1 < 2 ^ 80 ∧ p.2 < 2 ^ 300) fun p hp k hk => by
        obtain ⟨h1, h2, h3⟩ := hl p hp
        exact ⟨h1, h2, by show p.2 + k < 2 ^ 300; omega⟩
      have hrl : r.length = l1.length + l2.length := by rw [hm.1, List.length_append]
      exact ⟨_, _, ⟨fun p hp => ⟨(hall p (List.mem_of_mem_take hp)).1, (hall p (List.mem_of_mem_take hp)).2.1⟩, fun p hp => (hall p (List.mem_of_mem_take hp)).2.2, by rw [List.length_take]; omega⟩,
        ⟨fun p hp => ⟨(hall p (List.mem_of_mem_drop hp)).1, (hall p (List.mem_of_mem_drop hp)).2.1⟩, fun p hp => (hall p (List.mem_of_mem_drop hp)).2.2, by rw [List.length_drop]; omega⟩, rfl, rfl⟩
    refine wp_seq (Post.mono (C := fun fl S1 => ∃ (o6 : Option D), BagIn S1 ∧ fl = .nx [scr, some (.cell 0), some (.int (0 + i)), some (.lst (k1.map pr)), some (.lst (k2.map pr)), some (.int bits), o6, o7, o8, o9, o10, o11, o12, o13, o14, o15, o16, o17, o18, o19, o20, o21, o22, o23, o24]) ?_ ?_)
    · repeat walk_at "mk"
      rw [cut_toM]
      repeat walk_at "mk"
      rw [cut_fromM, hk1, hk2]
      repeat walk_at "mk"
      exact ⟨_, hb, rfl⟩
    clear hb
    rintro fl S ⟨o6, hb, rfl⟩
    refine wp_seqN ?_
    clear hk1 hk2 hm hl n1 n2
    obtain ⟨sh, hsh⟩ := shown_two (pr_easy p1) (by rw [List.length_map]; have := p1.len; omega) (pr_easy p2') (by rw [List.length_map]; have := p2'.len; omega)
    refine wp_seq (Post.mono (C := fun fl S1 => ∃ (m : Pile), BagIn S1 ∧ m.Perm k1 ∧ fl = .nx [scr, some (.cell 0), some (.int (0 + i)), some (.lst (k1.map pr)), some (.lst (k2.map pr)), some (.int bits), o6, some (.tup (m.map pr)), some (.str sh), o9, o10, o11, o12, o13, o14, o15, o16, o17, o18, o19, o20, o21, o22, o23, o24]) ?_ ?_)
    · repeat walk_at "mk"
      refine mixedG (by have := p1.len; omega) hb fun m S1 hm g => ?_
      repeat walk_at "mk"
      refine hsh ?_
      repeat walk_at "mk"
      exact ⟨m, g.bag, hm, rfl⟩
    clear hb
    rintro fl S ⟨m, hb, hm, rfl⟩
    refine wp_seqN ?_
    have pm : POk m := ⟨fun p hp => p1.nn p (hm.mem_iff.mp hp), fun p hp => p1.ex p (hm.mem_iff.mp hp), by rw [hm.length_eq]; exact p1.len⟩
    have hm0 : sg (vl m - vl k1) = 0 := by rw [vl_perm hm]; exact sg_zero_iff.mpr (by omega)
    refine wp_seq (Post.mono (C := fun fl S1 => BagIn S1 ∧ fl = .nx [scr, some (.cell 0), some (.int (0 + i)), some (.lst (k1.map pr)), some (.lst (k2.map pr)), some (.int bits), o6, some (.tup (m.map pr)), some (.str sh), o9, o10, o11, o12, o13, o14, o15, o16, o17, o18, o19, o20, o21, o22, o23, o24]) ?_ ?_)
    · repeat walk_at "mk"
      refine comparedE (l1 := k1) (l2 := k2) rfl rfl p1 p2' ?_
      repeat walk_at "mk"
      refine comparedE (l1 := m) (l2 := k1) rfl rfl pm p1 ?_
      rw [hm0]
      repeat walk_at "mk"
      refine orderE (l1 := k1) (l2 := k2) rfl rfl p1 p2' fun S1 kp => ?_
      repeat walk_at "mk"
      refine wp_alikeL rfl (fun z hz => ?_) (by simp) ?_
      · simp only [List.mem_cons, List.not_mem_nil, or_false] at hz
        rcases hz with rfl | rfl
        · exact sg_easy _
        · exact easy_int (by decide)
      repeat walk_at "mk"
      exact ⟨((Gr.rfl' hb).kept kp).bag, rfl⟩
    clear hb
    rintro fl S ⟨hb, rfl⟩
    refine wp_seqN ?_
    refine wp_seq (Post.mono (C := fun fl S1 => ∃ (a c : Pile), BagIn S1 ∧ POk a ∧ POk c ∧ vl a ≤ vl c ∧ fl = .nx [scr, some (.cell 0), some (.int (0 + i)), some (.lst (k1.map pr)), some (.lst (k2.map pr)), some (.int bits), o6, some (.tup (m.map pr)), some (.str sh), some (.lst (a.map pr)), some (.lst (c.map pr)), o11, o12, o13, o14, o15, o16, o17, o18, o19, o20, o21, o22, o23, o24]) ?_ ?_)
    · repeat walk_at "mk"
      refine orderE (l1 := k1) (l2 := k2) rfl rfl p1 p2' fun S1 kp => ?_
      have hb1 := ((Gr.rfl' hb).kept kp).bag
      repeat walk_at "mk"
      refine ⟨fun c => ?_, fun c => ?_⟩
      · have c' := sg_le.mp (of_decide_eq_true c)
        repeat walk_at "mk"
        exact ⟨k1, k2, hb1, p1, p2', by omega, rfl⟩
      · have c' : ¬ (sg (vl k1 - vl k2) ≤ 0) := of_decide_eq_false c
        rw [sg_le] at c'
        repeat walk_at "mk"
        exact ⟨k2, k1, hb1, p2', p1, by omega, rfl⟩
    clear hb
    rintro fl S ⟨a, c, hb, pa, pc, hv, rfl⟩
    refine wp_seqN ?_
    refine wp_seq (Post.mono (C := fun fl S1 => BagIn S1 ∧ fl = .nx [scr, some (.cell 0), some (.int (0 + i)), some (.lst (k1.map pr)), some (.lst (k2.map pr)), some (.int bits), o6, some (.tup (m.map pr)), some (.str sh), some (.lst (a.map pr)), some (.lst (c.map pr)), o11, o12, o13, o14, o15, o16, o17, o18, o19, o20, o21, o22, o23, o24]) ?_ ?_)
    · repeat walk_at "mk"
      refine mixedG (by have := pc.len; omega) hb fun cm S1 hcm g => ?_
      repeat walk_at "mk"
      refine aroundE (lo := a) (hi := c) (hi' := cm) pa pc hcm hv b0 b1 rfl rfl fun r1 e1 => ?_
      repeat walk_at "mk"
      refine lawAroundE (lo := a) (hi := c) pa pc hv b0 b1 rfl rfl fun r2 S2 kp e2 => ?_
      have := e1.uniq e2
      subst this
      obtain ⟨x, rfl, hx, he⟩ := e1.tell pa pc hv b0 b1
      repeat walk_at "mk"
      refine wp_alikeT rfl (e3_easy hx he) ?_
      repeat walk_at "mk"
      exact ⟨(g.kept kp).bag, rfl⟩
    clear hb
    rintro fl S ⟨hb, rfl⟩
    refine wp_seqN ?_
    obtain ⟨o9, ho9⟩ : ∃ o, some (D.lst (a.map pr)) = o := ⟨_, rfl⟩
    obtain ⟨o10, ho10⟩ : ∃ o, some (D.lst (c.map pr)) = o := ⟨_, rfl⟩
    rw [ho9, ho10]
    clear ho9 ho10 hv pa pc
    refine wp_seq (Post.mono (C := fun fl S1 => ∃ (xs : List E3), BagIn S1 ∧ EnP xs ∧ fl = .nx [scr, some (.cell 0), some (.int (0 + i)), some (.lst (k1.map pr)), some (.lst (k2.map pr)), some (.int bits), o6, some (.tup (m.map pr)), some (.str sh), o9, o10, some (.lst (xs.map e3D)), o12, o13, o14, o15, o16, o17, o18, o19, o20, o21, o22, o23, o24]) ?_ ?_)
    · repeat walk_at "mk"
      refine someG hb (by simp only [List.length_cons]; omega) (by simp only [List.length_cons, List.length_nil]; omega) fun z S1 hz g1 => ?_
      obtain ⟨n, rfl, hn⟩ : ∃ n : Nat, z = .int n ∧ n ≤ 5 := by
        simp only [List.mem_cons, List.not_mem_nil, or_false] at hz
        rcases hz with rfl | rfl | rfl | rfl
        · exact ⟨2, rfl, by decide⟩
        · exact ⟨0, rfl, by decide⟩
        · exact ⟨1, rfl, by decide⟩
        · exact ⟨5, rfl, by decide⟩
      repeat walk_at "mk"
      refine ⟨by omega, by rw [rngL_length, line_eq, sizeLine_eq]; omega, ?_⟩
      refine wp_compF (fun j acc S' => ∃ xs : List E3, acc = xs.map e3D ∧ (∀ x ∈ xs, EnOk x ∧ x.e ≤ 300) ∧ xs.length = j ∧ BagIn S') ⟨[], rfl, fun _ h => (by cases h), rfl, g1.bag⟩ ?_ ?_
      · rintro j d acc S2 hd ⟨xs, rfl, hx, hxl, hb2⟩
        repeat walk_at "mk"
        refine enclosureG hb2 fun x S3 hx1 hx2 g3 => ?_
        refine ⟨xs ++ [x], m_snoc _ _ _, fun y hy => ?_, by rw [List.length_append, hxl]; rfl, g3.bag⟩
        rcases List.mem_append.mp hy with z | z
        · exact hx y z
        · rw [List.mem_singleton.mp z]; exact ⟨hx1, hx2⟩
      · rintro ys S2 ⟨xs, rfl, hx, hxl, hb2⟩
        rw [rngL_length] at hxl
        repeat walk_at "mk"
        refine farG shE (l := xs) (by omega) hb2 fun r S3 hm g3 => ?_
        repeat walk_at "mk"
        refine ⟨r, g3.bag, ⟨hm.all (P := fun x => EnOk x ∧ x.e ≤ 2 ^ 202) fun x hx' k hk => ?_, by rw [hm.1]; omega⟩, rfl⟩
        obtain ⟨⟨h1, h2, h3⟩, h4⟩ := hx x hx'
        exact ⟨⟨h1, h2, h3⟩, by show x.e + k ≤ 2 ^ 202; omega⟩
    clear hb
    rintro fl S ⟨xs, hb, hxs, rfl⟩
    refine wp_seqN ?_
    obtain ⟨sd, hsd⟩ := shown_lst hxs.easy (by rw [List.length_map]; have := hxs.len; omega)
    refine wp_seq (Post.mono (C := fun fl S1 => BagIn S1 ∧ fl = .nx [scr, some (.cell 0), some (.int (0 + i)), some (.lst (k1.map pr)), some (.lst (k2.map pr)), some (.int bits), o6, some (.tup (m.map pr)), some (.str sh), o9, o10, some (.lst (xs.map e3D)), some (.lst ((lowsP xs).map pr)), some (.lst ((highsP xs).map pr)), some (.str sd), o15, o16, o17, o18, o19, o20, o21, o22, o23, o24]) ?_ ?_)
    · have hxl := hxs.len
      repeat walk_at "mk"
      refine ⟨by rw [List.length_map, line_eq, sizeLine_eq]; omega, ?_⟩
      refine wp_cmapM (fun x : E3 => pr (x.lo, x.e)) (fun x hx => ?_) ?_
      · unfold e3D
        repeat walk_at "mk"
        refine ⟨rfl, ?_⟩
        repeat walk_at "mk"
        exact ⟨rfl, rfl⟩
      repeat walk_at "mk"
      refine ⟨by rw [List.length_map, line_eq, sizeLine_eq]; omega, ?_⟩
      refine wp_cmapM (fun x : E3 => pr (x.hi, x.e)) (fun x hx => ?_) ?_
      · unfold e3D
        repeat walk_at "mk"
        refine ⟨rfl, ?_⟩
        repeat walk_at "mk"
        exact ⟨rfl, rfl⟩
      repeat walk_at "mk"
      refine hsd ?_
      repeat walk_at "mk"
      refine ⟨hb, ?_⟩
      unfold lowsP highsP
      rw [List.map_map, List.map_map]
      rfl
    clear hb
    rintro fl S ⟨hb, rfl⟩
    refine wp_seqN ?_
    refine wp_seq (Post.mono (C := fun fl S1 => BagIn S1 ∧ fl = .nx [scr, some (.cell 0), some (.int (0 + i)), some (.lst (k1.map pr)), some (.lst (k2.map pr)), some (.int bits), o6, some (.tup (m.map pr)), some (.str sh), o9, o10, some (.lst (xs.map e3D)), some (.lst ((lowsP xs).map pr)), some (.lst ((highsP xs).map pr)), some (.str sd), o15, o16, o17, o18, o19, o20, o21, o22, o23, o24]) ?_ ?_)
    · repeat walk_at "mk"
      refine sumE hxs b0 b1 fun r1 e1 => ?_
      repeat walk_at "mk"
      refine lawAroundE (lo := lowsP xs) (hi := highsP xs) hxs.lows hxs.highs hxs.le b0 b1 rfl rfl fun r2 S2 kp e2 => ?_
      have := e1.uniq e2
      subst this
      obtain ⟨x, rfl, hx, he⟩ := e1.tell hxs.lows hxs.highs hxs.le b0 b1
      repeat walk_at "mk"
      refine wp_alikeT rfl (e3_easy hx he) ?_
      repeat walk_at "mk"
      refine hsd ?_
      repeat walk_at "mk"
      rw [decide_eq_true rfl]
      repeat walk_at "mk"
      exact ⟨((Gr.rfl' hb).kept kp).bag, rfl⟩
    clear hb
    rintro fl S ⟨hb, rfl⟩
    refine wp_seqN ?_
    refine wp_seq (Post.mono (C := fun fl S1 => BagIn S1 ∧ fl = .nx [scr, some (.cell 0), some (.int (0 + i)), some (.lst (k1.map pr)), some (.lst (k2.map pr)), some (.int bits), o6, some (.tup (m.map pr)), some (.str sh), o9, o10, some (.lst (xs.map e3D)), some (.lst ((lowsP xs).map pr)), some (.lst ((highsP xs).map pr)), some (.str sd), o15, o16, o17, o18, o19, o20, o21, o22, o23, o24]) ?_ ?_)
    · repeat walk_at "mk"
      refine hsh ?_
      repeat walk_at "mk"
      rw [decide_eq_true rfl]
      repeat walk_at "mk"
      exact ⟨hb, rfl⟩
    clear hb
    rintro fl S ⟨hb, rfl⟩
    refine wp_seqN ?_
    clear hsd hsh hm0 hm pm p1 p2'
    obtain ⟨o3, ho3⟩ : ∃ o, some (D.lst (k1.map pr)) = o := ⟨_, rfl⟩
    obtain ⟨o4, ho4⟩ : ∃ o, some (D.lst (k2.map pr)) = o := ⟨_, rfl⟩
    obtain ⟨o7, ho7⟩ : ∃ o, some (D.tup (m.map pr)) = o := ⟨_, rfl⟩
    obtain ⟨o8, ho8⟩ : ∃ o, some (D.str sh) = o := ⟨_, rfl⟩
    obtain ⟨o11, ho11⟩ : ∃ o, some (D.lst (xs.map e3D)) = o := ⟨_, rfl⟩
    obtain ⟨o12, ho12⟩ : ∃ o, some (D.lst ((lowsP xs).map pr)) = o := ⟨_, rfl⟩
    obtain ⟨o13, ho13⟩ : ∃ o, some (D.lst ((highsP xs).map pr)) = o := ⟨_, rfl⟩
    obtain ⟨o14, ho14⟩ : ∃ o, some (D.str sd) = o := ⟨_, rfl⟩
    rw [ho3, ho4, ho7, ho8, ho11, ho12, ho13, ho14]
    clear ho3 ho4 ho7 ho8 ho11 ho12 ho13 ho14 hxs
    refine wp_seq (Post.mono (C := fun fl S1 => ∃ (x y : E3), BagIn S1 ∧ EnOk x ∧ x.e ≤ 2 ^ 202 ∧ EnOk y ∧ y.e ≤ 2 ^ 202 ∧ fl = .nx [scr, some (.cell 0), some (.int (0 + i)), o3, o4, some (.int bits), o6, o7, o8, o9, o10, o11, o12, o13, o14, some (e3D x), some (e3D y), o17, o18, o19, o20, o21, o22, o23, o24]) ?_ ?_)
    · repeat walk_at "mk"
      refine enclosureG hb fun x S1 hx hx1 g1 => ?_
      repeat walk_at "mk"
      refine enclosureG g1.bag fun y S2 hy hy1 g2 => ?_
      repeat walk_at "mk"
      refine farG shE (l := [x, y]) (by simp) g2.bag fun r S3 hm g3 => ?_
      have hall : ∀ z ∈ r, EnOk z ∧ z.e ≤ 2 ^ 202 := hm.all (P := fun x => EnOk x ∧ x.e ≤ 2 ^ 202) fun z hz k hk => by
        simp only [List.mem_cons, List.not_mem_nil, or_false] at hz
        rcases hz with rfl | rfl
        · exact ⟨⟨hx.lo, hx.le, hx.top⟩, by show z.e + k ≤ 2 ^ 202; omega⟩
        · exact ⟨⟨hy.lo, hy.le, hy.top⟩, by show z.e + k ≤ 2 ^ 202; omega⟩
      obtain ⟨u, v, rfl⟩ : ∃ u v, r = [u, v] := by
        match r, hm.1 with
        | [u, v], _ => exact ⟨u, v, rfl⟩
      refine wp_gtpL (ds := [e3D u, e3D v]) rfl ?_
      repeat walk_at "mk"
      exact ⟨u, v, g3.bag, (hall u (by simp)).1, (hall u (by simp)).2, (hall v (by simp)).1, (hall v (by simp)).2, rfl⟩
    clear hb
    rintro fl S ⟨x, y, hb, hx, hxe, hy, hye, rfl⟩
    refine wp_seqN ?_
    have px := EnP.one hx hxe
    have xlo : x.lo.natAbs < 2 ^ 30 := by have := hx.lo; have := hx.le; have := hx.top; omega
    have xhi : x.hi.natAbs < 2 ^ 30 := by have := hx.lo; have := hx.le; have := hx.top; omega
    have ylo : y.lo.natAbs < 2 ^ 30 := by have := hy.lo; have := hy.le; have := hy.top; omega
    have yhi : y.hi.natAbs < 2 ^ 30 := by have := hy.lo; have := hy.le; have := hy.top; omega
    have m1 : mulOk x.lo y.lo := MK.mulOk_of xlo ylo (by decide)
    have m2 : mulOk x.hi y.hi := MK.mulOk_of xhi yhi (by decide)
    obtain ⟨pd, hpd⟩ : ∃ pd : E3, pd = ⟨x.lo * y.lo, x.hi * y.hi, x.e + y.e⟩ := ⟨_, rfl⟩
    have hpde : EasyT (e3D pd) := by
      subst hpd
      have a1 : (x.lo * y.lo).natAbs < 2 ^ 60 := by
        rw [Int.natAbs_mul]
        exact Nat.lt_of_lt_of_le (Nat.mul_lt_mul'' xlo ylo) (by decide)
      have a2 : (x.hi * y.hi).natAbs < 2 ^ 60 := by
        rw [Int.natAbs_mul]
        exact Nat.lt_of_lt_of_le (Nat.mul_lt_mul'' xhi yhi) (by decide)
      have z : (2 : Nat) ^ 60 ≤ 2 ^ 1000 := Nat.pow_le_pow_right (by decide) (by decide)
      refine .inr ⟨_, rfl, by simp only [List.length_cons, List.length_nil]; omega, fun y' hy' => ?_⟩
      simp only [List.mem_cons, List.not_mem_nil, or_false] at hy'
      rcases hy' with rfl | rfl | rfl
      · exact easy_int (Nat.lt_of_lt_of_le a1 z)
      · exact easy_int (Nat.lt_of_lt_of_le a2 z)
      · exact easy_int (nat_small (k := 203) (by omega) (by decide))
    have hbp := hb.pos
    refine wp_seq (Post.mono (C := fun fl S1 => ∃ (k : Nat), BagIn S1 ∧ 0 < k ∧ S1[k]? = some (.lst [e3D pd]) ∧ fl = .nx [scr, some (.cell 0), some (.int (0 + i)), o3, o4, some (.int bits), o6, o7, o8, o9, o10, o11, o12, o13, o14, some (e3D x), some (e3D y), some (.cell k), o18, o19, o20, o21, o22, o23, o24]) ?_ ?_)
    · unfold e3D
      repeat walk_at "mk"
      · refine ⟨S.length, ((Gr.rfl' hb).new _).bag, hbp, ?_, rfl⟩
        rw [new_get, hpd]
        push_cast
        rfl
      · exact m1
      · exact m2
    clear hb
    rintro fl S ⟨k, hb, hk0, hk, rfl⟩
    refine wp_seqN ?_
    refine wp_seq (Post.mono (C := fun fl S1 => ∃ (x1 : E3), BagIn S1 ∧ S1[k]? = some (.lst [e3D pd, e3D x1]) ∧ E3Ok x1 ∧ x1.e ≤ 2 ^ 302 ∧ Enc (lowsP [x]) (highsP [x]) bits (e3D x1) ∧ fl = .nx [scr, some (.cell 0), some (.int (0 + i)), o3, o4, some (.int bits), o6, o7, o8, o9, o10, o11, o12, o13, o14, some (e3D x), some (e3D y), some (.cell k), o18, o19, o20, o21, o22, o23, o24]) ?_ ?_)
    · unfold e3D
      repeat walk_at "mk"
      refine lawAroundE (lo := lowsP [x]) (hi := highsP [x]) px.lows px.highs px.le b0 b1 rfl rfl fun r2 S2 kp e2 => ?_
      have hk2 := kp _ _ hk
      obtain ⟨x1, rfl, h1, he1⟩ := e2.tell px.lows px.highs px.le b0 b1
      have hb2 := ((Gr.rfl' hb).kept kp)
      repeat walk_at "mk"
      · refine ⟨x1, ?_, get_set hk2, h1, he1, e2, rfl⟩
        obtain ⟨b, q1, q2⟩ := hb2.bag
        exact ⟨b, by rw [List.getElem?_set_ne (by omega)]; exact q1, q2⟩
      · rw [line_eq, sizeLine_eq]; simp only [List.length_cons, List.length_nil]; omega
    clear hb
    rintro fl S ⟨x1, hb, hk, hx1, hxe1, henc, rfl⟩
    refine wp_seqN ?_
    have bagset : ∀ {S' : Store} {c : Cell}, BagIn S' → BagIn (S'.set k c) := fun {S' c} h => by
      obtain ⟨b, q1, q2⟩ := h
      exact ⟨b, by rw [List.getElem?_set_ne (by omega)]; exact q1, q2⟩
    obtain ⟨due, hdue⟩ : ∃ due : List D, due = [e3D pd, e3D x1, .bl (decide (Within x y)), .bl (decide (Within x x1)), .tup [.int bits, .int bits, .int 0]] := ⟨_, rfl⟩
    refine wp_seq (Post.mono (C := fun fl S1 => BagIn S1 ∧ S1[k]? = some (.lst due) ∧ fl = .nx [scr, some (.cell 0), some (.int (0 + i)), o3, o4, some (.int bits), o6, o7, o8, o9, o10, o11, o12, o13, o14, some (e3D x), some (e3D y), some (.cell k), o18, o19, o20, o21, o22, o23, o24]) ?_ ?_)
    · repeat walk_at "mk"
      refine law_within_eq hx.e3 hy.e3 fun S1 kp => ?_
      have hk1 := kp _ _ hk
      repeat walk_at "mk"
      refine law_within_eq hx.e3 hx1 fun S2 kp2 => ?_
      have hk2 := kp2 _ _ hk1
      repeat walk_at "mk"
      refine wp_ext hk2 rfl (by rw [line_eq, sizeLine_eq]; simp only [List.length_cons, List.length_nil]; omega) ?_
      repeat walk_at "mk"
      exact ⟨bagset (((Gr.rfl' hb).kept kp).kept kp2).bag, by rw [get_set hk2, hdue]; rfl, rfl⟩
    clear hb
    rintro fl S ⟨hb, hk, rfl⟩
    refine wp_seqN ?_
    refine wp_seq (Post.mono (C := fun fl S1 => ∃ (j : Nat), BagIn S1 ∧ S1[k]? = some (.lst due) ∧ 0 < j ∧ j ≠ k ∧ S1[j]? = some (.lst [e3D pd, e3D x1, .bl (decide (Within x y)), .bl (decide (Within x x1))]) ∧ fl = .nx [scr, some (.cell 0), some (.int (0 + i)), o3, o4, some (.int bits), o6, o7, o8, o9, o10, o11, o12, o13, o14, some (e3D x), some (e3D y), some (.cell k), some (.cell j), o19, o20, o21, o22, o23, o24]) ?_ ?_)
    · have ep : ∀ T, F_product_of [e3D x, e3D y] T = .ok (e3D pd) T := fun T => by rw [hpd]; exact product_eq m1 m2 T
      have hk' : S[k]? = some (.lst [e3D pd, e3D x1, .bl (decide (Within x y)), .bl (decide (Within x x1)), .tup [.int bits, .int bits, .int 0]]) := by rw [hk, hdue]
      repeat walk_at "mk"
      refine Post.of_eq (ep _) ?_
      repeat walk_at "mk"
      refine trimmedE hx hxe b0 b1 fun r1 e1 => ?_
      have := e1.uniq henc
      subst this
      repeat walk_at "mk"
      refine Post.of_eq (lies_in_eq hx.e3 hy.e3 _) ?_
      repeat walk_at "mk"
      refine Post.of_eq (lies_in_eq hx.e3 hx1 _) ?_
      repeat walk_at "mk"
      have hkl := (List.getElem?_eq_some_iff.mp hk).1
      refine ⟨S.length, ((Gr.rfl' hb).new _).bag, ?_, hb.pos, by omega, new_get _ _, rfl⟩
      rw [List.getElem?_append_left hkl]
      exact hk
    clear hb
    rintro fl S ⟨j, hb, hk, hj0, hjk, hj, rfl⟩
    refine wp_seqN ?_
    refine wp_seq (Post.mono (C := fun fl S1 => BagIn S1 ∧ S1[k]? = some (.lst due) ∧ S1[j]? = some (.lst due) ∧ fl = .nx [scr, some (.cell 0), some (.int (0 + i)), o3, o4, some (.int bits), o6, o7, o8, o9, o10, o11, o12, o13, o14, some (e3D x), some (e3D y), some (.cell k), some (.cell j), o19, o20, o21, o22, o23, o24]) ?_ ?_)
    · repeat walk_at "mk"
      refine Post.of_eq (exact_one_eq _ _) ?_
      repeat walk_at "mk"
      · refine ⟨?_, ?_, ?_, rfl⟩
        · obtain ⟨b, q1, q2⟩ := hb
          exact ⟨b, by rw [List.getElem?_set_ne (by omega)]; exact q1, q2⟩
        · rw [List.getElem?_set_ne (by omega)]; exact hk
        · rw [get_set hj, hdue]; rfl
      · rw [line_eq, sizeLine_eq]; simp only [List.length_cons, List.length_nil]; omega
    clear hb
    rintro fl S ⟨hb, hk, hj, rfl⟩
    refine wp_seqN ?_
    refine wp_seq (Post.mono (C := fun fl S1 => BagIn S1 ∧ fl = .nx [scr, some (.cell 0), some (.int (0 + i)), o3, o4, some (.int bits), o6, o7, o8, o9, o10, o11, o12, o13, o14, some (e3D x), some (e3D y), some (.cell k), some (.cell j), o19, o20, o21, o22, o23, o24]) ?_ ?_)
    · repeat walk_at "mk"
      refine wp_alikeS (xs := due) (pyS_cell hj) (pyS_cell hk) (fun z hz => ?_) (by rw [hdue]; simp) ?_
      · rw [hdue] at hz
        simp only [List.mem_cons, List.not_mem_nil, or_false] at hz
        rcases hz with rfl | rfl | rfl | rfl | rfl
        · exact hpde
        · exact e3_easy hx1 hxe1
        · exact .inl easy_bl
        · exact .inl easy_bl
        · have hbe : (bits : Int).natAbs < 2 ^ 1000 := nat_small (k := 9) (by omega) (by decide)
          refine .inr ⟨_, rfl, by simp only [List.length_cons, List.length_nil]; omega, fun y' hy' => ?_⟩
          simp only [List.mem_cons, List.not_mem_nil, or_false] at hy'
          rcases hy' with rfl | rfl | rfl
          · exact easy_int hbe
          · exact easy_int hbe
          · exact easy_int (by decide)
      repeat walk_at "mk"
      exact ⟨hb, rfl⟩
    clear hb
    rintro fl S ⟨hb, rfl⟩
    refine wp_seqN ?_
    obtain ⟨o15, ho15⟩ : ∃ o, some (e3D x) = o := ⟨_, rfl⟩
    obtain ⟨o16, ho16⟩ : ∃ o, some (e3D y) = o := ⟨_, rfl⟩
    obtain ⟨o17, ho17⟩ : ∃ o, some (D.cell k) = o := ⟨_, rfl⟩
    obtain ⟨o18, ho18⟩ : ∃ o, some (D.cell j) = o := ⟨_, rfl⟩
    rw [ho15, ho16, ho17, ho18]
    clear ho15 ho16 ho17 ho18 hk hj hx hy px xlo xhi ylo yhi m1 m2 hpde hpd henc bagset hdue hx1 hbp
    refine wp_seq (Post.mono (C := fun fl S1 => ∃ (k1 k2 : Pile), BagIn S1 ∧ POk k1 ∧ POk k2 ∧ fl = .nx [scr, some (.cell 0), some (.int (0 + i)), some (.lst (k1.map pr)), some (.lst (k2.map pr)), some (.int bits), o6, o7, o8, o9, o10, o11, o12, o13, o14, o15, o16, o17, o18, o19, o20, o21, o22, o23, o24]) ?_ ?_)
    · repeat walk_at "mk"
      refine dustyG hb fun a c S1 ha hc g => ?_
      repeat walk_at "mk"
      exact ⟨a, c, g.bag, ha, hc, rfl⟩
    clear hb
    rintro fl S ⟨k1, k2, hb, p1, p2', rfl⟩
    refine wp_seqN ?_
    have hbp := hb.pos
    refine wp_seq (Post.mono (C := fun fl S1 => ∃ (k : Nat), BagIn S1 ∧ S1[k]? = some (.lst [.int (sg (vl k1 - vl k2)), .int (sg (vl k2 - vl k1))]) ∧ fl = .nx [scr, some (.cell 0), some (.int (0 + i)), some (.lst (k1.map pr)), some (.lst (k2.map pr)), some (.int bits), o6, o7, o8, o9, o10, o11, o12, o13, o14, o15, o16, some (.cell k), o18, o19, o20, o21, o22, o23, o24]) ?_ ?_)
    · repeat walk_at "mk"
      refine orderE (l1 := k1) (l2 := k2) rfl rfl p1 p2' fun S1 kp => ?_
      repeat walk_at "mk"
      refine orderE (l1 := k2) (l2 := k1) rfl rfl p2' p1 fun S2 kp2 => ?_
      repeat walk_at "mk"
      exact ⟨S2.length, ((((Gr.rfl' hb).kept kp).kept kp2).new _).bag, new_get _ _, rfl⟩
    clear hb
    rintro fl S ⟨k, hb, hk, rfl⟩
    refine wp_seqN ?_
    refine wp_seq (Post.mono (C := fun fl S1 => BagIn S1 ∧ fl = .nx [scr, some (.cell 0), some (.int (0 + i)), some (.lst (k1.map pr)), some (.lst (k2.map pr)), some (.int bits), o6, o7, o8, o9, o10, o11, o12, o13, o14, o15, o16, some (.cell k), o18, o19, o20, o21, o22, o23, o24]) ?_ ?_)
    · repeat walk_at "mk"
      refine comparedE (l1 := k1) (l2 := k2) rfl rfl p1 p2' ?_
      repeat walk_at "mk"
      refine comparedE (l1 := k2) (l2 := k1) rfl rfl p2' p1 ?_
      repeat walk_at "mk"
      refine wp_alikeS (xs := [.int (sg (vl k1 - vl k2)), .int (sg (vl k2 - vl k1))]) rfl (pyS_cell hk) (fun z hz => ?_) (by simp) ?_
      · simp only [List.mem_cons, List.not_mem_nil, or_false] at hz
        rcases hz with rfl | rfl
        · exact .inl (sg_easy _)
        · exact .inl (sg_easy _)
      repeat walk_at "mk"
      exact ⟨hb, rfl⟩
    clear hb
    rintro fl S ⟨hb, rfl⟩
    refine wp_seqN ?_
    refine wp_seq (Post.mono (C := fun fl S1 => ∃ (a c : Pile), BagIn S1 ∧ POk a ∧ POk c ∧ vl a ≤ vl c ∧ fl = .nx [scr, some (.cell 0), some (.int (0 + i)), some (.lst (k1.map pr)), some (.lst (k2.map pr)), some (.int bits), o6, o7, o8, some (.lst (a.map pr)), some (.lst (c.map pr)), o11, o12, o13, o14, o15, o16, some (.cell k), o18, o19, o20, o21, o22, o23, o24]) ?_ ?_)
    · repeat walk_at "mk"
      refine orderE (l1 := k1) (l2 := k2) rfl rfl p1 p2' fun S1 kp => ?_
      have hb1 := ((Gr.rfl' hb).kept kp).bag
      repeat walk_at "mk"
      refine ⟨fun c => ?_, fun c => ?_⟩
      · have c' := sg_le.mp (of_decide_eq_true c)
        repeat walk_at "mk"
        exact ⟨k1, k2, hb1, p1, p2', by omega, rfl⟩
      · have c' : ¬ (sg (vl k1 - vl k2) ≤ 0) := of_decide_eq_false c
        rw [sg_le] at c'
        repeat walk_at "mk"
        exact ⟨k2, k1, hb1, p2', p1, by omega, rfl⟩
    clear hb
    rintro fl S ⟨a, c, hb, pa, pc, hv, rfl⟩
    refine wp_seqN ?_
    refine wp_seq (Post.mono (C := fun fl S1 => BagIn S1 ∧ fl = .nx [scr, some (.cell 0), some (.int (0 + i)), some (.lst (k1.map pr)), some (.lst (k2.map pr)), some (.int bits), o6, o7, o8, some (.lst (a.map pr)), some (.lst (c.map pr)), o11, o12, o13, o14, o15, o16, some (.cell k), o18, o19, o20, o21, o22, o23, o24]) ?_ ?_)
    · repeat walk_at "mk"
      refine aroundE (lo := a) (hi := c) (hi' := c) pa pc (List.Perm.refl _) hv b0 b1 rfl rfl fun r1 e1 => ?_
      repeat walk_at "mk"
      refine lawAroundE (lo := a) (hi := c) pa pc hv b0 b1 rfl rfl fun r2 S2 kp e2 => ?_
      have := e1.uniq e2
      subst this
      obtain ⟨x, rfl, hx, he⟩ := e1.tell pa pc hv b0 b1
      repeat walk_at "mk"
      refine wp_alikeT rfl (e3_easy hx he) ?_
      repeat walk_at "mk"
      exact ⟨((Gr.rfl' hb).kept kp).bag, rfl⟩
    clear hb
    rintro fl S ⟨hb, rfl⟩
    refine wp_seqN ?_
    refine wp_seq (Post.mono (C := fun fl S1 => ∃ (x : E3), BagIn S1 ∧ EnOk x ∧ fl = .nx [scr, some (.cell 0), some (.int (0 + i)), some (.lst (k1.map pr)), some (.lst (k2.map pr)), some (.int bits), o6, o7, o8, some (.lst (a.map pr)), some (.lst (c.map pr)), o11, o12, o13, o14, o15, o16, some (.cell k), o18, some (e3D x), o20, o21, o22, o23, o24]) ?_ ?_)
    · repeat walk_at "mk"
      refine enclosureG hb fun x S1 hx hx1 g1 => ?_
      repeat walk_at "mk"
      refine farG shE (l := [x]) (by simp) g1.bag fun r S3 hm g3 => ?_
      have hall : ∀ z ∈ r, EnOk z := hm.all (P := fun x => EnOk x) fun z hz k hk => by
        rw [List.mem_singleton.mp hz]
        exact ⟨hx.lo, hx.le, hx.top⟩
      obtain ⟨u, rfl⟩ : ∃ u, r = [u] := by
        match r, hm.1 with
        | [u], _ => exact ⟨u, rfl⟩
      repeat walk_at "mk"
      exact ⟨u, g3.bag, hall u (by simp), rfl⟩
    clear hb
    rintro fl S ⟨x, hb, hx, rfl⟩
    refine wp_seqN ?_
    obtain ⟨o3, ho3⟩ : ∃ o, some (D.lst (k1.map pr)) = o := ⟨_, rfl⟩
    obtain ⟨o4, ho4⟩ : ∃ o, some (D.lst (k2.map pr)) = o := ⟨_, rfl⟩
    obtain ⟨o9, ho9⟩ : ∃ o, some (D.lst (a.map pr)) = o := ⟨_, rfl⟩
    obtain ⟨o10, ho10⟩ : ∃ o, some (D.lst (c.map pr)) = o := ⟨_, rfl⟩
    obtain ⟨o17, ho17⟩ : ∃ o, some (D.cell k) = o := ⟨_, rfl⟩
    rw [ho3, ho4, ho9, ho10, ho17]
    clear ho3 ho4 ho9 ho10 ho17 hv pa pc p1 p2' hbp hk
    refine wp_seq (Post.mono (C := fun fl S1 => ∃ (o17 o20 : Option D), BagIn S1 ∧ fl = .nx [scr, some (.cell 0), some (.int (0 + i)), o3, o4, some (.int bits), o6, o7, o8, o9, o10, o11, o12, o13, o14, o15, o16, o17, o18, some (e3D x), o20, o21, o22, o23, o24]) ?_ ?_)
    · have p60 : (10 : Int) ^ (60 : Int).toNat = ((10 ^ 60 : Nat) : Int) := by decide
      unfold e3D
      repeat walk_at "mk"
      rw [p60]
      refine wp_forF (fun n ρ S' => ∃ (o17 o20 : Option D), BagIn S' ∧ ρ = [scr, some (.cell 0), some (.int (0 + i)), o3, o4, some (.int bits), o6, o7, o8, o9, o10, o11, o12, o13, o14, o15, o16, o17, o18, some (e3D x), o20, o21, o22, o23, o24]) ⟨_, _, hb, rfl⟩ ?_ ?_
      · rintro n d ρ S2 hd ⟨o17, o20, hb2, rfl⟩
        obtain ⟨t, rfl, t0, t1⟩ : ∃ t : Int, d = .int t ∧ 0 ≤ t ∧ t < 2 ^ 400 := by
          have := List.mem_of_getElem? hd
          have h3 := hx.e3
          simp only [List.mem_cons, List.not_mem_nil, or_false] at this
          rcases this with rfl | rfl | rfl | rfl | rfl
          · exact ⟨_, rfl, by decide, p2 400⟩
          · exact ⟨5, rfl, by decide, Int.lt_of_lt_of_le (show (5 : Int) < 2 ^ 3 by decide) (pw_mono (by decide))⟩
          · exact ⟨_, rfl, h3.lo, h3.lo1⟩
          · exact ⟨_, rfl, h3.hi, h3.hi1⟩
          · exact ⟨_, rfl, by omega, Int.lt_of_lt_of_le (show ((10 ^ 60 : Nat) : Int) < 2 ^ 200 by decide) (pw_mono (by decide))⟩
        have h3 := hx.e3
        repeat walk_at "mk"
        refine order_one h3.lo t0 h3.lo1 t1 fun S3 kp => ?_
        repeat walk_at "mk"
        have ew : decide (Within ⟨t, t, 0⟩ x) = (decide (x.lo * 2 ^ x.e ≤ t * 2 ^ 0) && decide (t * 2 ^ 0 ≤ x.hi * 2 ^ x.e)) := by
          rw [← Bool.decide_and]
          rfl
        have hq := holds_eq hx.e3 t0 t1
        rw [ew] at hq
        rw [sg_le_dec]
        by_cases q1 : x.lo * 2 ^ x.e ≤ t * 2 ^ 0
        · rw [decide_eq_true q1] at hq ⊢
          rw [Bool.true_and] at hq
          repeat walk_at "mk"
          refine order_one h3.hi t0 h3.hi1 t1 fun S4 kp2 => ?_
          repeat walk_at "mk"
          have e0 : decide ((0 : Int) ≤ sg (x.hi * 2 ^ x.e - t * 2 ^ 0)) = decide (t * 2 ^ 0 ≤ x.hi * 2 ^ x.e) := decide_eq_decide.mpr (sg_nn_iff.trans (by omega))
          rw [e0]
          refine Post.of_eq (hq _) ?_
          repeat walk_at "mk"
          refine wp_alikeT rfl (.inl easy_bl) ?_
          repeat walk_at "mk"
          exact ⟨_, _, (((Gr.rfl' hb2).kept kp).kept kp2).bag, rfl⟩
        · rw [decide_eq_false q1] at hq ⊢
          rw [Bool.false_and] at hq
          repeat walk_at "mk"
          refine Post.of_eq (hq _) ?_
          repeat walk_at "mk"
          refine wp_alikeT rfl (.inl easy_bl) ?_
          repeat walk_at "mk"
          exact ⟨_, _, ((Gr.rfl' hb2).kept kp).bag, rfl⟩
      · rintro ρ S2 ⟨o17, o20, hb2, rfl⟩
        exact ⟨_, _, hb2, rfl⟩
    clear hb
    rintro fl S ⟨o17, o20, hb, rfl⟩
    refine wp_seqN ?_
    clear hx
    obtain ⟨o19, ho19⟩ : ∃ o, some (e3D x) = o := ⟨_, rfl⟩
    rw [ho19]
    clear ho19
    refine wp_seq (Post.mono (C := fun fl S1 => ∃ (x : E3), BagIn S1 ∧ EnOk x ∧ x.e ≤ 300 ∧ fl = .nx [scr, some (.cell 0), some (.int (0 + i)), o3, o4, some (.int bits), o6, o7, o8, o9, o10, o11, o12, o13, o14, o15, o16, o17, o18, some (e3D x), o20, o21, o22, o23, o24]) ?_ ?_)
    · repeat walk_at "mk"
      refine enclosureG hb fun x S1 hx hx1 g1 => ?_
      repeat walk_at "mk"
      exact ⟨x, g1.bag, hx, hx1, rfl⟩
    clear hb
    rintro fl S ⟨x, hb, hx, hxe, rfl⟩
    refine wp_seqN ?_
    refine wp_seq (Post.mono (C := fun fl S1 => BagIn S1 ∧ fl = .nx [scr, some (.cell 0), some (.int (0 + i)), o3, o4, some (.int bits), o6, o7, o8, o9, o10, o11, o12, o13, o14, o15, o16, o17, o18, some (e3D x), o20, some (.int (2 ^ x.e)), o22, o23, o24]) ?_ ?_)
    · unfold e3D
      repeat walk_at "mk"
      refine Post.of_eq (law_two_eq (by omega) _) ?_
      repeat walk_at "mk"
      exact ⟨hb, rfl⟩
    clear hb
    rintro fl S ⟨hb, rfl⟩
    refine wp_seqN ?_
    have ml : mulOk x.lo (2 ^ x.e) := MK.mulOk_of (a := 400) (by have := hx.lo; have := hx.le; have := hx.top; exact Nat.lt_of_lt_of_le (show x.lo.natAbs < 2 ^ 30 by omega) (Nat.pow_le_pow_right (by decide) (by decide))) (pow_nat _) (by omega)
    have mh : mulOk x.hi (2 ^ x.e) := MK.mulOk_of (a := 400) (by have := hx.lo; have := hx.le; have := hx.top; exact Nat.lt_of_lt_of_le (show x.hi.natAbs < 2 ^ 30 by omega) (Nat.pow_le_pow_right (by decide) (by decide))) (pow_nat _) (by omega)
    obtain ⟨A, hA⟩ : ∃ A, x.lo * 2 ^ x.e = A := ⟨_, rfl⟩
    obtain ⟨B, hB⟩ : ∃ B, x.hi * 2 ^ x.e = B := ⟨_, rfl⟩
    have hA0 : 0 ≤ A := by rw [← hA]; exact Int.mul_nonneg hx.lo (Int.le_of_lt (p2 _))
    have hAB : A ≤ B := by rw [← hA, ← hB]; exact Int.mul_le_mul_of_nonneg_right hx.le (Int.le_of_lt (p2 _))
    have hB1 : B + 1 < 2 ^ 400 := by
      have a1 : x.hi * 2 ^ x.e ≤ 2 ^ 30 * 2 ^ 300 := Int.mul_le_mul (Int.le_of_lt hx.top) (pw_mono hxe) (Int.le_of_lt (p2 _)) (Int.le_of_lt (p2 _))
      rw [← Int.pow_add, hB] at a1
      have a2 : (2 : Int) ^ (30 + 300) * 2 = 2 ^ 331 := (Int.pow_succ _ _).symm
      have a3 : (2 : Int) ^ 331 ≤ 2 ^ 400 := pw_mono (by decide)
      have a4 : (2 : Int) ^ 1 ≤ 2 ^ (30 + 300) := pw_mono (by decide)
      omega
    refine wp_seq (Post.mono (C := fun fl S1 => BagIn S1 ∧ fl = .nx [scr, some (.cell 0), some (.int (0 + i)), o3, o4, some (.int bits), o6, o7, o8, o9, o10, o11, o12, o13, o14, o15, o16, o17, o18, some (e3D x), o20, some (.int (2 ^ x.e)), some (.lst [.int A, .int B, .int (A + 1), .int (B + 1)]), o23, o24]) ?_ ?_)
    · unfold e3D
      repeat walk_at "mk"
      · exact ⟨hb, by rw [hA, hB]; rfl⟩
      · exact ml
      · exact mh
      · exact ml
      · exact mh
    clear hb
    rintro fl S ⟨hb, rfl⟩
    refine wp_seqN ?_
    repeat walk_at "mk"
    · refine wp_forF (fun n ρ S' => ∃ (o20 : Option D), BagIn S' ∧ ρ = [scr, some (.cell 0), some (.int (0 + i)), o3, o4, some (.int bits), o6, o7, o8, o9, o10, o11, o12, o13, o14, o15, o16, o17, o18, some (e3D x), o20, some (.int (2 ^ x.e)), some (.lst [.int A, .int B, .int (A + 1), .int (B + 1)]), o23, o24]) ⟨_, hb, rfl⟩ ?_ ?_
      · rintro n d ρ S2 hd ⟨o20, hb2, rfl⟩
        obtain ⟨t, rfl, t0, t1⟩ : ∃ t : Int, d = .int t ∧ 0 ≤ t ∧ t < 2 ^ 400 := by
          have := List.mem_of_getElem? hd
          simp only [List.mem_append, List.mem_cons, List.not_mem_nil, or_false] at this
          rcases this with (rfl | rfl | rfl | rfl) | rfl | rfl
          · exact ⟨_, rfl, by omega, by omega⟩
          · exact ⟨_, rfl, by omega, by omega⟩
          · exact ⟨_, rfl, by omega, by omega⟩
          · exact ⟨_, rfl, by omega, by omega⟩
          · exact ⟨_, rfl, by split <;> omega, by split <;> omega⟩
          · exact ⟨_, rfl, by omega, by omega⟩
        repeat walk_at "mk"
        refine Post.of_eq (holds_eq hx.e3 t0 t1 _) ?_
        repeat walk_at "mk"
        have ed : ∀ T, F__law_does_hold [e3D x, .int t] T = .ok (.bl (decide (Within ⟨t, t, 0⟩ x))) T := fun T => by
          refine Post.eq ?_
          have ew : decide (Within ⟨t, t, 0⟩ x) = (decide (x.lo * 2 ^ x.e ≤ t) && decide (t ≤ x.hi * 2 ^ x.e)) := by
            rw [← Bool.decide_and]
            refine decide_eq_decide.mpr ?_
            unfold Within
            rw [Int.pow_zero, Int.mul_one]
          rw [ew]
          unfold F__law_does_hold
          refine wp_run ?_
          unfold B__law_does_hold
          simp only [List.map, List.length, List.replicate, List.cons_append, List.nil_append]
          unfold e3D
          repeat walk_at "mk"
          refine Post.of_eq (law_two_eq (by omega) _) ?_
          repeat walk_at "mk"
          · by_cases q1 : x.lo * 2 ^ x.e ≤ t
            · rw [decide_eq_true q1]
              repeat walk_at "mk"
              · exact ⟨by rw [Bool.true_and], rfl⟩
              · exact mh
            · rw [decide_eq_false q1]
              repeat walk_at "mk"
              exact ⟨by rw [Bool.false_and], rfl⟩
          · exact ml
        refine Post.of_eq (ed _) ?_
        repeat walk_at "mk"
        refine wp_alikeT rfl (.inl easy_bl) ?_
        repeat walk_at "mk"
        exact ⟨_, hb2, rfl⟩
      · rintro ρ S2 ⟨o20, hb2, rfl⟩
        rw [← hscr]
        exact ⟨_, _, _, _, _, _, _, _, _, _, _, _, _, _, _, _, _, _, _, _, _, _, _, hb2, rfl⟩
    · rw [line_eq, sizeLine_eq]; simp only [List.length_cons, List.length_nil]; omega
  · rintro ρ S' ⟨o2, o3, o4, o5, o6, o7, o8, o9, o10, o11, o12, o13, o14, o15, o16, o17, o18, o19, o20, o21, o22, o23, o24, hb, rfl⟩
    repeat walk_at "mk"
    rfl
end Law

open PySem PySem.W PyProof.Rows
set_option maxRecDepth 100000 in
set_option maxHeartbeats 0 in
theorem PySem.Challenge.cw_unwrittenrow_k27_enclosures_reckoned_holds : PySem.Challenge.rw_unwrittenrow_k27_enclosures_reckoned.Holds := by
  w_on; o_law; k_head; (case hw => w_witness2)
  k_fill
  refine MK.walkGT (l := PySem.Challenge.rw_unwrittenrow_k27_enclosures_reckoned) (n := 63) (k := 8) (x := "_law_script") (F := Law.F_law) rfl (by decide) rfl ⟨rfl, by decide, by decide⟩ (fun w h Y => PySem.W.km_in_of Y) ["compared"] (by decide +kernel) (fun ns h _ => Law.main h) ?F
  case F =>
    intro w mg fa h KX G hmg M
    refine' Law.all_mk KX G hmg (M _ (.head _)) ?a0 ?l0 ?c0 ?k0 ?a1 ?l1 ?c1 ?k1 ?a2 ?l2 ?c2 ?k2 ?a3 ?l3 ?c3 ?k3 ?q3 ?r3 ?n3 ?a4 ?l4 ?c4 ?k4 ?a5 ?l5 ?c5 ?k5 ?a6 ?l6 ?c6 ?k6 ?a7 ?l7 ?c7 ?k7 ?a8 ?l8 ?c8 ?k8 ?a9 ?l9 ?c9 ?k9 ?a10 ?l10 ?c10 ?k10 ?a11 ?l11 ?c11 ?k11 ?a12 ?l12 ?c12 ?k12 ?a13 ?l13 ?c13 ?k13 ?a14 ?l14 ?c14 ?k14 ?a15 ?l15 ?c15 ?k15 ?a16 ?l16 ?c16 ?k16 ?a17 ?l17 ?c17 ?k17 ?a18 ?l18 ?c18 ?k18 ?a19 ?l19 ?c19 ?k19 ?a20 ?l20 ?c20 ?k20 ?a21 ?l21 ?c21 ?k21 ?a22 ?l22 ?c22 ?k22 ?a23 ?l23 ?c23 ?k23 ?a24 ?l24 ?c24 ?k24 ?a25 ?l25 ?c25 ?k25 ?a26 ?l26 ?c26 ?k26 ?a27 ?l27 ?c27 ?k27 ?a28 ?l28 ?c28 ?k28 ?a29 ?l29 ?c29 ?k29 ?a30 ?l30 ?c30 ?k30 ?a31 ?l31 ?c31 ?k31 ?a32 ?l32 ?c32 ?k32 ?v0 ?z0 ?z1 ?z2 ?z3 ?z4 ?z5 ?z6 ?z7 ?z8 ?z9 ?nd
    (case a0 => k_is); (case l0 => k_is); (case c0 => k_is); (case k0 => k_is); (case a1 => k_is); (case l1 => k_is); (case c1 => k_is); (case k1 => k_is); (case a2 => k_is); (case l2 => k_is); (case c2 => k_is); (case k2 => k_is); (case a3 => k_is); (case l3 => k_is); (case c3 => k_is); (case k3 => k_is); (case q3 => k_is); (case r3 => rfl); (case n3 => kernel_rfl); (case a4 => k_is); (case l4 => k_is); (case c4 => k_is); (case k4 => k_is); (case a5 => k_is); (case l5 => k_is); (case c5 => k_is); (case k5 => k_is); (case a6 => k_is); (case l6 => k_is); (case c6 => k_is); (case k6 => k_is); (case a7 => k_is); (case l7 => k_is); (case c7 => k_is); (case k7 => k_is); (case a8 => k_is); (case l8 => k_is); (case c8 => k_is); (case k8 => k_is); (case a9 => k_is); (case l9 => k_is); (case c9 => k_is); (case k9 => k_is); (case a10 => k_is); (case l10 => k_is); (case c10 => k_is); (case k10 => k_is); (case a11 => k_is); (case l11 => k_is); (case c11 => k_is); (case k11 => k_is); (case a12 => k_is); (case l12 => k_is); (case c12 => k_is); (case k12 => k_is); (case a13 => k_is); (case l13 => k_is); (case c13 => k_is); (case k13 => k_is); (case a14 => k_is); (case l14 => k_is); (case c14 => k_is); (case k14 => k_is); (case a15 => k_is); (case l15 => k_is); (case c15 => k_is); (case k15 => k_is); (case a16 => k_is); (case l16 => k_is); (case c16 => k_is); (case k16 => k_is); (case a17 => k_is); (case l17 => k_is); (case c17 => k_is); (case k17 => k_is); (case a18 => k_is); (case l18 => k_is); (case c18 => k_is); (case k18 => k_is); (case a19 => k_is); (case l19 => k_is); (case c19 => k_is); (case k19 => k_is); (case a20 => k_is); (case l20 => k_is); (case c20 => k_is); (case k20 => k_is); (case a21 => k_is); (case l21 => k_is); (case c21 => k_is); (case k21 => k_is); (case a22 => k_is); (case l22 => k_is); (case c22 => k_is); (case k22 => k_is); (case a23 => k_is); (case l23 => k_is); (case c23 => k_is); (case k23 => k_is); (case a24 => k_is); (case l24 => k_is); (case c24 => k_is); (case k24 => k_is); (case a25 => k_is); (case l25 => k_is); (case c25 => k_is); (case k25 => k_is); (case a26 => k_is); (case l26 => k_is); (case c26 => k_is); (case k26 => k_is); (case a27 => k_is); (case l27 => k_is); (case c27 => k_is); (case k27 => k_is); (case a28 => k_is); (case l28 => k_is); (case c28 => k_is); (case k28 => k_is); (case a29 => k_is); (case l29 => k_is); (case c29 => k_is); (case k29 => k_is); (case a30 => k_is); (case l30 => k_is); (case c30 => k_is); (case k30 => k_is); (case a31 => k_is); (case l31 => k_is); (case c31 => k_is); (case k31 => k_is); (case a32 => k_is); (case l32 => k_is); (case c32 => k_is); (case k32 => k_is); (case v0 => k_is); (case z0 => k_is); (case z1 => k_is); (case z2 => k_is); (case z3 => k_is); (case z4 => k_is); (case z5 => k_is); (case z6 => k_is); (case z7 => k_is); (case z8 => k_is); (case z9 => k_is); (case nd => decide)

