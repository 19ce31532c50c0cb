import PyProof.Rows.All
import Wide.All
import OpenK.AllK
import Wide.FinOn
import PyProof.EqAt
import PyProof.EqKinds
import PyProof.TupleCall
import HandS.ForMost
import HandS.Exc
import HandS.TryOnly
import HandS.ExcOwn
import HandS.WordsExc
import HandS.CallSlots
import HandS.TupAny
import HandS.Defaults
import HandS.HeadHook2
import HandS.Deep
import HandS.IsInst
import HandS.Wide
import HandS.Zip
import HandS.Small
import HandS.TupLe
import HandS.Rev
import HandS.More
import HandS.StrMore
import HandS.SetKeys
import HandS.Strs
import HandS.SortInts
import KE.GoesEnum
import KE.IntTextLaws
import HandS.RevTup
import HandS.New
import HandS.New0
import KE.KStateDown
import Lean
import HandS.Ends
import HandS.Words
import HandS.Head0
import HandS.Head1
import HandS.Head2
import HandS.HeadHook1
import HandS.HeadHook4
import HandS.HeadEnd
import HandS.HeadWalk
import PySem.Challenge.RW_bundlehouse_k26_walks
set_option Elab.async false
set_option linter.all false
set_option maxRecDepth 100000
set_option maxHeartbeats 2000000
/-! MW1: abstract values and heaps, what it is that they stand for values of the layer, and how a result of the functional reading meets a wish. -/
namespace MW
open PySem L2

/-- values without addresses: tuples and unchanging lists, dicts, instances as trees; what may change is named by its number in the abstract heap -/
inductive D where
  | non | bl (b : Bool) | int (i : Int) | str (s : List Nat)
  | tup (ds : List D) | lst (ds : List D) | dct (k : Bool) (kvs : List (D × D)) | obj (c : String) (L : List PySem.Str) (ds : List D)
  | loc (n : Nat)
  /-- a list of the module's entry (the script): read, never written -/
  | scr (ds : List D)
  /-- a built-in class; a class of the module, by its name -/
  | ty (n : String) | cls (c : String)
/-- what may change: a list, a dict (k: its keys are tuples), a dict that a loop walks, an instance -/
inductive Cell where
  | lst (ds : List D) | dct (k : Bool) (kvs : List (D × D)) | dlk (k : Bool) (kvs : List (D × D)) | ins (c : String) (L : List PySem.Str) (ds : List D)
abbrev AH := List Cell
abbrev SL := List (Option D)

inductive R (α : Type) where
  | ok (a : α) (h : AH) | exc (c : String) (L : List PySem.Str) (ds : List D) (h : AH) | bad
@[reducible] def R.bind {α β : Type} (r : R α) (k : α → AH → R β) : R β := match r with
  | .ok a h => k a h
  | .exc c L ds h => .exc c L ds h
  | .bad => .bad
inductive RS where
  | nx (σ : SL) (h : AH) | rt (d : D) (h : AH) | bk (σ : SL) (h : AH) | ct (σ : SL) (h : AH) | exc (c : String) (L : List PySem.Str) (ds : List D) (σ : SL) (h : AH) | bad
abbrev ME := SL → AH → R D
abbrev MA := SL → AH → R (List D)
abbrev MT := SL → AH → R Bool
abbrev MS := SL → AH → RS

/-! ### standing for -/
/-- texts of code points alone -/
def vS (x : PySem.Str) : Prop := x.cps.all (· < 0x110000) = true
def kD : Key → D
  | .inl i => .int i
  | .inr x => .str x.cps.toList
/-- where and how abstract numbers lie: the written part, addresses that are another's, the cells' addresses, how many they are, the layer's heap -/
structure RC where
  K : PySem.W.Frag
  B : Addr → Prop
  ι : Nat → Addr
  n : Nat
  H : Hp
/-- a list that stands in the frozen part, or in the written part -/
def ScrA (K : PySem.W.Frag) (H : Hp) (a : Addr) (vs : List V) : Prop := (∃ o, H a = some (.frz o (.lst vs))) ∨ ∃ (o : Obj) (its : Array Value) (n : Nat), K.lookup a = some o ∧ o.cls = .type "list" ∧ o.dict = none ∧ o.data = .seq its n ∧ its.size ≤ sizeLine ∧ Vals vs its.toList
theorem ScrA.sql {K : PySem.W.Frag} {H : Hp} {a : Addr} {vs : List V} (e : ScrA K H a vs) : SqL K H a vs := e.elim (fun ⟨o, q⟩ => .inl (.inr ⟨o, q⟩)) .inr
def RC.Fz (r : RC) (a : Addr) : Prop := ¬ r.B a ∧ ∀ i, i < r.n → r.ι i ≠ a
mutual
inductive Rep (r : RC) : V → D → Prop
  | non : Rep r .non .non
  | bl (b : Bool) : Rep r (.bl b) (.bl b)
  | int (i : Int) : Rep r (.int i) (.int i)
  | str (x : PySem.Str) : vS x → Rep r (.str x) (.str x.cps.toList)
  | tup {a : Addr} {vs : List V} {ds : List D} : r.H a = some (.tup vs) → RepL r vs ds → Rep r (.ref a) (.tup ds)
  | lst {a : Addr} {vs : List V} {ds : List D} : r.H a = some (.lst vs) → RepL r vs ds → r.Fz a → Rep r (.ref a) (.lst ds)
  | scr {a : Addr} {vs : List V} {ds : List D} : ScrA r.K r.H a vs → RepL r vs ds → Rep r (.ref a) (.scr ds)
  | dk {a : Addr} {ps : List (Key × V)} {kvs : List (D × D)} : Rd r.H a (.dK ps) → RepK r ps kvs → r.Fz a → Rep r (.ref a) (.dct false kvs)
  | dt {a : Addr} {ps : List (List Key × V)} {kvs : List (D × D)} : Rd r.H a (.dT ps) → RepT r ps kvs → r.Fz a → Rep r (.ref a) (.dct true kvs)
  | obj {a dx : Addr} {c : String} {L : List PySem.Str} {vs : List V} {ds : List D} : r.H a = some (.ins (He.ga r.K c) dx (L.zip vs)) → L.length = ds.length → RepL r vs ds → r.Fz a → Rep r (.ref a) (.obj c L ds)
  | loc {i : Nat} : i < r.n → Rep r (.ref (r.ι i)) (.loc i)
  | ty (n : String) : Rep r (.ty n) (.ty n)
  | cls (c : String) : Rep r (.ref (He.ga r.K c)) (.cls c)
inductive RepL (r : RC) : List V → List D → Prop
  | nil : RepL r [] []
  | cons {v : V} {vs : List V} {d : D} {ds : List D} : Rep r v d → RepL r vs ds → RepL r (v :: vs) (d :: ds)
inductive RepK (r : RC) : List (Key × V) → List (D × D) → Prop
  | nil : RepK r [] []
  | cons {k : Key} {v : V} {ps : List (Key × V)} {d : D} {kvs : List (D × D)} : Rep r v d → RepK r ps kvs → RepK r ((k, v) :: ps) ((kD k, d) :: kvs)
inductive RepT (r : RC) : List (List Key × V) → List (D × D) → Prop
  | nil : RepT r [] []
  | cons {k : List Key} {v : V} {ps : List (List Key × V)} {d : D} {kvs : List (D × D)} : Rep r v d → RepT r ps kvs → RepT r ((k, v) :: ps) ((.tup (k.map kD), d) :: kvs)
end
inductive CellR (r : RC) (a : Addr) : Cell → Prop
  | lst {vs : List V} {ds : List D} : r.H a = some (.lst vs) → RepL r vs ds → CellR r a (.lst ds)
  | dk {ps : List (Key × V)} {kvs : List (D × D)} : r.H a = some (.dK ps) → RepK r ps kvs → CellR r a (.dct false kvs)
  | dt {ps : List (List Key × V)} {kvs : List (D × D)} : r.H a = some (.dT ps) → RepT r ps kvs → CellR r a (.dct true kvs)
  | dkl {o : Obj} {ps : List (Key × V)} {kvs : List (D × D)} : r.H a = some (.frz o (.dK ps)) → RepK r ps kvs → CellR r a (.dlk false kvs)
  | dtl {o : Obj} {ps : List (List Key × V)} {kvs : List (D × D)} : r.H a = some (.frz o (.dT ps)) → RepT r ps kvs → CellR r a (.dlk true kvs)
  | ins {dx : Addr} {c : String} {L : List PySem.Str} {vs : List V} {ds : List D} : r.H a = some (.ins (He.ga r.K c) dx ((L.take ds.length).zip vs)) → ds.length ≤ L.length → RepL r vs ds → CellR r a (.ins c L ds)
/-- the abstract heap lies in the layer's -/
structure Rel (K : PySem.W.Frag) (B : Addr → Prop) (ι : Nat → Addr) (h : AH) (H : Hp) : Prop where
  inj : ∀ i j, i < h.length → j < h.length → ι i = ι j → i = j
  cell : ∀ i c, h[i]? = some c → CellR ⟨K, B, ι, h.length, H⟩ (ι i) c
  nb : ∀ i, i < h.length → ¬ B (ι i)
  bt : ∀ a, B a → ∃ o, H a = some o
/-- the state ahead goes on into the state behind -/
structure Ext (K : PySem.W.Frag) (B : Addr → Prop) (ι : Nat → Addr) (n : Nat) (H : Hp) (ι' : Nat → Addr) (h' : AH) (H' : Hp) : Prop where
  le : n ≤ h'.length
  agr : ∀ i, i < n → ι' i = ι i
  keep : ∀ a o, H a = some o → (∀ i, i < n → ι i ≠ a) → H' a = some o
  new : ∀ i, n ≤ i → i < h'.length → H (ι' i) = none
  rel : Rel K B ι' h' H'

section
variable {K : PySem.W.Frag} {B : Addr → Prop} {ι ι' : Nat → Addr} {n : Nat} {h h' : AH} {H H' : Hp} {a : Addr}
/-- what a cell's address holds -/
theorem CellR.ob {r : RC} {c : Cell} (x : CellR r a c) : ∃ o, r.H a = some o ∧ (∀ vs, o ≠ .tup vs) ∧ (∀ u vs, o ≠ .frz u (.tup vs)) ∧ (∀ u vs, o ≠ .frz u (.lst vs)) := by
  cases x with
  | lst e _ => exact ⟨_, e, (fun _ z => nomatch z), (fun _ _ z => nomatch z), (fun _ _ z => nomatch z)⟩
  | dk e _ => exact ⟨_, e, (fun _ z => nomatch z), (fun _ _ z => nomatch z), (fun _ _ z => nomatch z)⟩
  | dt e _ => exact ⟨_, e, (fun _ z => nomatch z), (fun _ _ z => nomatch z), (fun _ _ z => nomatch z)⟩
  | dkl e _ => exact ⟨_, e, (fun _ z => nomatch z), (fun _ _ z => nomatch z), (fun _ _ z => nomatch z)⟩
  | dtl e _ => exact ⟨_, e, (fun _ z => nomatch z), (fun _ _ z => nomatch z), (fun _ _ z => nomatch z)⟩
  | ins e _ _ => exact ⟨_, e, (fun _ z => nomatch z), (fun _ _ z => nomatch z), (fun _ _ z => nomatch z)⟩
theorem Rel.at (R : Rel K B ι h H) {i : Nat} (hi : i < h.length) : ∃ o, H (ι i) = some o ∧ (∀ vs, o ≠ .tup vs) ∧ (∀ u vs, o ≠ .frz u (.tup vs)) ∧ (∀ u vs, o ≠ .frz u (.lst vs)) := (R.cell i h[i] (by simp [hi])).ob
theorem Rel.ne_new (R : Rel K B ι h H) {p : Addr} (hp : H p = none) : ∀ i, i < h.length → ι i ≠ p := fun i hi e => by
  obtain ⟨o, q, _⟩ := R.at hi
  rw [e, hp] at q; cases q
theorem Rel.nb_new (R : Rel K B ι h H) {p : Addr} (hp : H p = none) : ¬ B p := fun b => by
  obtain ⟨o, q⟩ := R.bt p b
  rw [hp] at q; cases q
theorem Rel.fz_new (R : Rel K B ι h H) {p : Addr} (hp : H p = none) {H' : Hp} : RC.Fz ⟨K, B, ι, h.length, H'⟩ p := ⟨R.nb_new hp, R.ne_new hp⟩
theorem Rel.ne_tup (R : Rel K B ι h H) {vs : List V} (e : Rd H a (.tup vs)) : ∀ i, i < h.length → ι i ≠ a := fun i hi z => by
  obtain ⟨o, q, h1, h2, _⟩ := R.at hi
  rw [z] at q
  rcases e with e | ⟨u, e⟩
  · rw [e] at q; cases q; exact h1 _ rfl
  · rw [e] at q; cases q; exact h2 _ _ rfl
theorem Rel.rel0 (K : PySem.W.Frag) (ι : Nat → Addr) (H : Hp) (bt : ∀ a, B a → ∃ o, H a = some o) : Rel K B ι [] H := ⟨fun i _ z => absurd z (Nat.not_lt_zero i), fun i c z => by simp at z, fun i z => absurd z (Nat.not_lt_zero i), bt⟩
theorem Ext.refl (R : Rel K B ι h H) : Ext K B ι h.length H ι h H := ⟨Nat.le_refl _, fun _ _ => rfl, fun _ _ e _ => e, fun i h1 h2 => absurd h2 (Nat.not_lt.mpr h1), R⟩
theorem Ext.trans {ι'' : Nat → Addr} {h'' : AH} {H'' : Hp} (x : Ext K B ι n H ι' h' H') (y : Ext K B ι' h'.length H' ι'' h'' H'') : Ext K B ι n H ι'' h'' H'' where
  le := Nat.le_trans x.le y.le
  agr := fun i hi => (y.agr i (Nat.lt_of_lt_of_le hi x.le)).trans (x.agr i hi)
  keep := fun a o e z => y.keep a o (x.keep a o e z) fun i hi q => by
    by_cases hn : i < n
    · exact z i hn ((x.agr i hn).symm.trans q)
    · have := x.new i (Nat.not_lt.mp hn) hi
      rw [q, e] at this; cases this
  new := fun i h1 h2 => by
    by_cases hi : i < h'.length
    · rw [y.agr i hi]; exact x.new i h1 hi
    · have q := y.new i (Nat.not_lt.mp hi) h2
      cases e : H (ι'' i) with
      | none => rfl
      | some o =>
        by_cases z : ∀ j, j < n → ι j ≠ ι'' i
        · rw [x.keep _ _ e z] at q; cases q
        · have z' : ∃ j, j < n ∧ ι j = ι'' i := Classical.byContradiction fun w => z fun j hj r => w ⟨j, hj, r⟩
          obtain ⟨j, hj, r⟩ := z'
          obtain ⟨o', e', _⟩ := x.rel.at (Nat.lt_of_lt_of_le hj x.le)
          rw [x.agr j hj, r, q] at e'; cases e'
  rel := y.rel
theorem Ext.fz (x : Ext K B ι n H ι' h' H') {o : HO} (e : H a = some o) (f : RC.Fz ⟨K, B, ι, n, H⟩ a) : RC.Fz ⟨K, B, ι', h'.length, H'⟩ a := ⟨f.1, fun i hi z => by
  by_cases hn : i < n
  · exact f.2 i hn ((x.agr i hn).symm.trans z)
  · have q : H (ι' i) = none := x.new i (Nat.not_lt.mp hn) hi
    have z' : ι' i = a := z
    rw [z', e] at q; cases q⟩
theorem Ext.rd (x : Ext K B ι n H ι' h' H') {u : HO} (e : Rd H a u) (f : ∀ i, i < n → ι i ≠ a) : Rd H' a u := by
  rcases e with e | ⟨o, e⟩
  · exact .inl (x.keep _ _ e f)
  · exact .inr ⟨o, x.keep _ _ e f⟩
theorem rd_ob {H : Hp} {u : HO} (e : Rd H a u) : ∃ o, H a = some o := by
  rcases e with e | ⟨o, e⟩
  · exact ⟨_, e⟩
  · exact ⟨_, e⟩
theorem Rel.ne_scr (R : Rel K B ι h H) {vs : List V} {o : Obj} (e : H a = some (.frz o (.lst vs))) : ∀ i, i < h.length → ι i ≠ a := fun i hi z => by
  obtain ⟨u, q, _, _, h3⟩ := R.at hi
  rw [z, e] at q
  cases q
  exact h3 _ _ rfl
theorem Ext.sqt (R : Rel K B ι h H) (x : Ext K B ι h.length H ι' h' H') {vs : List V} (e : SqT K H a vs) : SqT K H' a vs := by
  rcases e with e | e
  · exact .inl (x.rd e (R.ne_tup e))
  · exact .inr e
end
/-- all that stands for something goes on doing so -/
structure Up (r r' : RC) : Prop where
  kk : r'.K = r.K
  sq : ∀ a vs, r.H a = some (.tup vs) → r'.H a = some (.tup vs)
  sc : ∀ a o vs, r.H a = some (.frz o (.lst vs)) → r'.H a = some (.frz o (.lst vs))
  rd : ∀ a u, r.Fz a → Rd r.H a u → Rd r'.H a u
  at_ : ∀ a o, r.Fz a → r.H a = some o → r'.H a = some o
  fz : ∀ a o, r.H a = some o → r.Fz a → r'.Fz a
  lt : ∀ i, i < r.n → i < r'.n
  io : ∀ i, i < r.n → r'.ι i = r.ι i
section
variable {r r' : RC}
theorem Up.fzr (u : Up r r') {a : Addr} {o : HO} (f : r.Fz a) (e : Rd r.H a o) : r'.Fz a := let ⟨_, q⟩ := rd_ob e; u.fz _ _ q f
theorem Up.scA (u : Up r r') {a : Addr} {vs : List V} (e : ScrA r.K r.H a vs) : ScrA r'.K r'.H a vs := e.elim (fun ⟨o, q⟩ => .inl ⟨o, u.sc _ _ _ q⟩) (fun q => .inr (by rw [u.kk]; exact q))
mutual
theorem Rep.up (u : Up r r') : ∀ {v : V} {d : D}, Rep r v d → Rep r' v d
  | _, _, .non => .non
  | _, _, .bl b => .bl b
  | _, _, .int i => .int i
  | _, _, .str s g => .str s g
  | _, _, .tup e l => .tup (u.sq _ _ e) (RepL.up u l)
  | _, _, .lst e l f => .lst (u.at_ _ _ f e) (RepL.up u l) (u.fz _ _ e f)
  | _, _, .scr e l => .scr (u.scA e) (RepL.up u l)
  | _, _, .dk e l f => .dk (u.rd _ _ f e) (RepK.up u l) (u.fzr f e)
  | _, _, .dt e l f => .dt (u.rd _ _ f e) (RepT.up u l) (u.fzr f e)
  | _, _, .obj e q l f => .obj (by rw [u.kk]; exact u.at_ _ _ f e) q (RepL.up u l) (u.fz _ _ e f)
  | _, _, @Rep.loc _ i hi => by
    rw [← u.io i hi]
    exact Rep.loc (u.lt i hi)
  | _, _, .ty n => .ty n
  | _, _, .cls c => by rw [← u.kk]; exact .cls c
theorem RepL.up (u : Up r r') : ∀ {vs : List V} {ds : List D}, RepL r vs ds → RepL r' vs ds
  | _, _, .nil => .nil
  | _, _, .cons q l => .cons (Rep.up u q) (RepL.up u l)
theorem RepK.up (u : Up r r') : ∀ {vs : List (Key × V)} {ds : List (D × D)}, RepK r vs ds → RepK r' vs ds
  | _, _, .nil => .nil
  | _, _, .cons q l => .cons (Rep.up u q) (RepK.up u l)
theorem RepT.up (u : Up r r') : ∀ {vs : List (List Key × V)} {ds : List (D × D)}, RepT r vs ds → RepT r' vs ds
  | _, _, .nil => .nil
  | _, _, .cons q l => .cons (Rep.up u q) (RepT.up u l)
end
theorem CellR.up (u : Up r r') {a : Addr} (k : ∀ o, r.H a = some o → r'.H a = some o) {c : Cell} (x : CellR r a c) : CellR r' a c := by
  cases x with
  | lst q l => exact .lst (k _ q) (l.up u)
  | dk q l => exact .dk (k _ q) (l.up u)
  | dt q l => exact .dt (k _ q) (l.up u)
  | dkl q l => exact .dkl (k _ q) (l.up u)
  | dtl q l => exact .dtl (k _ q) (l.up u)
  | ins q g l => exact .ins (by rw [u.kk]; exact k _ q) g (l.up u)
end
section
variable {K : PySem.W.Frag} {B : Addr → Prop} {ι ι' : Nat → Addr} {h h' : AH} {H H' : Hp}
theorem Ext.up (R : Rel K B ι h H) (x : Ext K B ι h.length H ι' h' H') : Up ⟨K, B, ι, h.length, H⟩ ⟨K, B, ι', h'.length, H'⟩ where
  kk := rfl
  sq := fun _ _ e => x.keep _ _ e (R.ne_tup (.inl e))
  sc := fun _ _ _ e => x.keep _ _ e (R.ne_scr e)
  rd := fun _ _ f e => x.rd e f.2
  at_ := fun _ _ f e => x.keep _ _ e f.2
  fz := fun _ _ e f => x.fz e f
  lt := fun _ hi => Nat.lt_of_lt_of_le hi x.le
  io := fun _ hi => x.agr _ hi
theorem Rep.mono (R : Rel K B ι h H) (x : Ext K B ι h.length H ι' h' H') {v : V} {d : D} (q : Rep ⟨K, B, ι, h.length, H⟩ v d) : Rep ⟨K, B, ι', h'.length, H'⟩ v d := q.up (x.up R)
theorem RepL.mono (R : Rel K B ι h H) (x : Ext K B ι h.length H ι' h' H') {v : List V} {d : List D} (q : RepL ⟨K, B, ι, h.length, H⟩ v d) : RepL ⟨K, B, ι', h'.length, H'⟩ v d := q.up (x.up R)
theorem RepL.length {r : RC} : ∀ {vs : List V} {ds : List D}, RepL r vs ds → vs.length = ds.length
  | _, _, .nil => rfl
  | _, _, .cons _ l => by simp [RepL.length l]
theorem RepL.get {r : RC} : ∀ {vs : List V} {ds : List D}, RepL r vs ds → ∀ {i : Nat} {d : D}, ds[i]? = some d → ∃ v, vs[i]? = some v ∧ Rep r v d
  | _, _, .nil, i, d, e => by simp at e
  | _, _, .cons q l, 0, d, e => by
    simp at e; subst e; exact ⟨_, rfl, q⟩
  | _, _, .cons q l, i + 1, d, e => by
    obtain ⟨v, h1, h2⟩ := RepL.get l (i := i) (d := d) (by simpa using e)
    exact ⟨v, by simpa using h1, h2⟩
theorem RepL.append {r : RC} : ∀ {vs ws : List V} {ds es : List D}, RepL r vs ds → RepL r ws es → RepL r (vs ++ ws) (ds ++ es)
  | _, _, _, _, .nil, l => l
  | _, _, _, _, .cons q l, m => .cons q (RepL.append l m)
theorem RepL.one {r : RC} {v : V} {d : D} (q : Rep r v d) : RepL r [v] [d] := .cons q .nil
theorem RepL.set {r : RC} {v : V} {d : D} (q : Rep r v d) : ∀ {vs : List V} {ds : List D} (i : Nat), RepL r vs ds → RepL r (vs.set i v) (ds.set i d)
  | _, _, _, .nil => .nil
  | _, _, 0, .cons _ l => .cons q l
  | _, _, i + 1, .cons p l => .cons p (RepL.set q i l)
theorem RepL.drop {r : RC} : ∀ {vs : List V} {ds : List D} (n : Nat), RepL r vs ds → RepL r (vs.drop n) (ds.drop n)
  | _, _, 0, l => l
  | _, _, _ + 1, .nil => .nil
  | _, _, n + 1, .cons _ l => by simpa using RepL.drop n l
theorem RepL.take {r : RC} : ∀ {vs : List V} {ds : List D} (n : Nat), RepL r vs ds → RepL r (vs.take n) (ds.take n)
  | _, _, 0, _ => by simpa using RepL.nil
  | _, _, _ + 1, .nil => by simpa using RepL.nil
  | _, _, n + 1, .cons q l => by simpa using RepL.cons q (RepL.take n l)
/-- a fresh object beside -/
theorem Up.fresh (R : Rel K B ι h H) {p : Addr} (hp : H p = none) (o : HO) : Up ⟨K, B, ι, h.length, H⟩ ⟨K, B, ι, h.length, upd H p o⟩ := by
  have k : ∀ a o', H a = some o' → (upd H p o) a = some o' := fun a o' e => by rw [upd_ne (ne_of_none e hp)]; exact e
  have rd : ∀ {a : Addr} {u : HO}, Rd H a u → Rd (upd H p o) a u := fun e => by
    rcases e with e | ⟨q, e⟩
    · exact .inl (k _ _ e)
    · exact .inr ⟨q, k _ _ e⟩
  exact ⟨rfl, fun a vs e => k _ _ e, fun a o' vs e => k _ _ e, fun a u _ e => rd e, fun a o' _ e => k _ _ e, fun a o' _ f => f, fun _ q => q, fun _ _ => rfl⟩
theorem Ext.fresh (R : Rel K B ι h H) {p : Addr} (hp : H p = none) (o : HO) : Ext K B ι h.length H ι h (upd H p o) := by
  have k : ∀ a o', H a = some o' → (upd H p o) a = some o' := fun a o' e => by rw [upd_ne (ne_of_none e hp)]; exact e
  exact ⟨Nat.le_refl _, fun _ _ => rfl, fun a o' q _ => k _ _ q, fun i h1 h2 => absurd h2 (Nat.not_lt.mpr h1), R.inj, fun i c e => (R.cell i c e).up (Up.fresh R hp o) (k _), R.nb, fun a b => let ⟨o', q⟩ := R.bt a b; ⟨o', k _ _ q⟩⟩
/-- the i-th cell is written -/
theorem Up.write (R : Rel K B ι h H) {i : Nat} (hi : i < h.length) (c : Cell) (o : HO) : Up ⟨K, B, ι, h.length, H⟩ ⟨K, B, ι, (h.set i c).length, upd H (ι i) o⟩ := by
  have k : ∀ a o', ι i ≠ a → H a = some o' → (upd H (ι i) o) a = some o' := fun a o' n e => by rw [upd_ne n.symm]; exact e
  refine ⟨rfl, fun a vs e => k _ _ (R.ne_tup (.inl e) i hi) e, fun a o' vs e => k _ _ (R.ne_scr e i hi) e, fun a u f e => ?_, fun a o' f e => k _ _ (f.2 i hi) e, fun a o' _ f => ⟨f.1, fun j hj => f.2 j (by simpa using hj)⟩, fun j q => by simpa using q, fun _ _ => rfl⟩
  · rcases e with e | ⟨q, e⟩
    · exact .inl (k _ _ (f.2 i hi) e)
    · exact .inr ⟨q, k _ _ (f.2 i hi) e⟩
theorem Ext.write (R : Rel K B ι h H) {i : Nat} (hi : i < h.length) {c : Cell} {o : HO} (x : CellR ⟨K, B, ι, (h.set i c).length, upd H (ι i) o⟩ (ι i) c) : Ext K B ι h.length H ι (h.set i c) (upd H (ι i) o) := by
  refine ⟨by simp, fun _ _ => rfl, fun a o' q z => by rw [upd_ne (z i hi).symm]; exact q, fun j h1 h2 => absurd (by simpa using h2) (Nat.not_lt.mpr h1), fun a b ha hb => R.inj a b (by simpa using ha) (by simpa using hb), fun j c' e => ?_, fun j hj => R.nb j (by simpa using hj), fun a b => ?_⟩
  · by_cases hj : i = j
    · subst hj
      rw [List.getElem?_set_self hi] at e
      cases e
      exact x
    · rw [List.getElem?_set_ne hj] at e
      refine (R.cell j c' e).up (Up.write R hi c o) fun o' q => ?_
      have hj' : j < h.length := (List.getElem?_eq_some_iff.mp e).1
      show (upd H (ι i) o) (ι j) = some o'
      rw [upd_ne fun z => hj (R.inj _ _ hj' hi z).symm]
      exact q
  · obtain ⟨o', q⟩ := R.bt a b
    exact ⟨o', by rw [upd_ne (fun z => R.nb i hi (by rw [← z]; exact b))]; exact q⟩
theorem Up.grow (R : Rel K B ι h H) {p : Addr} (hp : H p = none) (o : HO) : Up ⟨K, B, ι, h.length, H⟩ ⟨K, B, (fun j => if j = h.length then p else ι j), h.length + 1, upd H p o⟩ := by
  have k : ∀ a o', H a = some o' → (upd H p o) a = some o' := fun a o' e => by rw [upd_ne (ne_of_none e hp)]; exact e
  have rd : ∀ {a : Addr} {u : HO}, Rd H a u → Rd (upd H p o) a u := fun e => by
    rcases e with e | ⟨q, e⟩
    · exact .inl (k _ _ e)
    · exact .inr ⟨q, k _ _ e⟩
  refine ⟨rfl, fun a vs e => k _ _ e, fun a o' vs e => k _ _ e, fun a u _ e => rd e, fun a o' _ e => k _ _ e, fun a o' e f => ⟨f.1, fun j hj => ?_⟩, fun _ q => Nat.lt_succ_of_lt q, fun j hj => if_neg (Nat.ne_of_lt hj)⟩
  show (if j = h.length then p else ι j) ≠ a
  by_cases hj' : j = h.length
  · rw [if_pos hj']; exact fun z => absurd e (by show ¬ H a = some o'; rw [← z, hp]; exact fun q => nomatch q)
  · rw [if_neg hj']; exact f.2 j (by have hj2 : j < h.length + 1 := hj; show j < h.length; omega)
/-- one more cell, a new object -/
theorem Ext.grow (R : Rel K B ι h H) {p : Addr} (hp : H p = none) {c : Cell} {o : HO} (x : CellR ⟨K, B, (fun j => if j = h.length then p else ι j), h.length + 1, upd H p o⟩ p c) :
    Ext K B ι h.length H (fun j => if j = h.length then p else ι j) (h ++ [c]) (upd H p o) := by
  have k : ∀ a o', H a = some o' → (upd H p o) a = some o' := fun a o' e => by rw [upd_ne (ne_of_none e hp)]; exact e
  have io : ∀ j, j < h.length → (if j = h.length then p else ι j) = ι j := fun j hj => if_neg (Nat.ne_of_lt hj)
  have ll : (h ++ [c]).length = h.length + 1 := by simp
  have u := Up.grow R hp o
  refine ⟨by simp, io, fun a o' q _ => k _ _ q, fun i h1 h2 => ?_, fun i j hi hj e => ?_, fun i c' e => ?_, fun i hi b => ?_, fun a b => let ⟨o', q⟩ := R.bt a b; ⟨o', k _ _ q⟩⟩
  · have e : i = h.length := by simp at h2; omega
    show H (if i = h.length then p else ι i) = none
    rw [if_pos e]; exact hp
  · simp at hi hj
    by_cases h1 : i = h.length
    · by_cases h2 : j = h.length
      · omega
      · rw [if_pos h1, if_neg h2] at e
        exact absurd e.symm (R.ne_new hp j (by omega))
    · by_cases h2 : j = h.length
      · rw [if_neg h1, if_pos h2] at e
        exact absurd e (R.ne_new hp i (by omega))
      · rw [if_neg h1, if_neg h2] at e
        exact R.inj i j (by omega) (by omega) e
  · show CellR ⟨K, B, _, (h ++ [c]).length, upd H p o⟩ (if i = h.length then p else ι i) c'
    rw [ll]
    by_cases h1 : i < h.length
    · rw [List.getElem?_append_left h1] at e
      rw [if_neg (Nat.ne_of_lt h1)]
      exact (R.cell i c' e).up u fun o' q => k _ _ q
    · have e' : i = h.length := by
        have := (List.getElem?_eq_some_iff.mp e).1
        simp at this; omega
      subst e'
      rw [List.getElem?_append_right (Nat.le_refl _)] at e
      simp at e; subst e
      rw [if_pos rfl]; exact x
  · by_cases h1 : i = h.length
    · have b' : B p := by have := b; simp only [if_pos h1] at this; exact this
      exact R.nb_new hp b'
    · have b' : B (ι i) := by have := b; simp only [if_neg h1] at this; exact this
      exact R.nb i (by simp at hi; omega) b'
end

/-! ### exceptions, wishes -/
def ExcR (r : RC) (c : String) (L : List PySem.Str) (ds : List D) (cls : Value) (dd : Option Addr) : Prop :=
  cls = .ref (He.ga r.K c) ∧ ((L = [] ∧ ds = [] ∧ dd = none) ∨ ∃ d vs, dd = some d ∧ r.H d = some (.xd (L.zip vs)) ∧ L.length = ds.length ∧ RepL r vs ds)
/-- slots -/
def RepS (r : RC) (σ : L2.St) (σa : SL) : Prop := σ.length = σa.length ∧ ∀ (i : Nat) (d : D), σa[i]? = some (some d) → ∃ v, σ[i]? = some (some v) ∧ Rep r v d
theorem RepS.up {r r' : RC} (u : Up r r') {σ : L2.St} {σa : SL} (q : RepS r σ σa) : RepS r' σ σa := ⟨q.1, fun i d e => let ⟨v, h1, h2⟩ := q.2 i d e; ⟨v, h1, h2.up u⟩⟩
theorem RepS.set {r : RC} {σ : L2.St} {σa : SL} (q : RepS r σ σa) {v : V} {d : D} (x : Rep r v d) (i : Nat) : RepS r (σ.set i (some v)) (σa.set i (some d)) := by
  refine ⟨by simp [q.1], fun j e h => ?_⟩
  by_cases hj : i = j
  · subst hj
    by_cases hl : i < σa.length
    · rw [List.getElem?_set_self hl] at h
      cases h
      exact ⟨v, by rw [List.getElem?_set_self (by rw [q.1]; exact hl)], x⟩
    · rw [List.getElem?_eq_none (by simpa using hl)] at h; cases h
  · rw [List.getElem?_set_ne hj] at h
    obtain ⟨w, h1, h2⟩ := q.2 j e h
    exact ⟨w, by rw [List.getElem?_set_ne hj]; exact h1, h2⟩
theorem RepS.clear {r : RC} {σ : L2.St} {σa : SL} (q : RepS r σ σa) (i : Nat) : RepS r (σ.set i none) (σa.set i none) := by
  refine ⟨by simp [q.1], fun j e h => ?_⟩
  by_cases hj : i = j
  · subst hj
    by_cases hl : i < σa.length
    · rw [List.getElem?_set_self hl] at h; cases h
    · rw [List.getElem?_eq_none (by simpa using hl)] at h; cases h
  · rw [List.getElem?_set_ne hj] at h
    obtain ⟨w, h1, h2⟩ := q.2 j e h
    exact ⟨w, by rw [List.getElem?_set_ne hj]; exact h1, h2⟩

section
variable {α β γ δ : Type}
/-- a result meets a wish -/
def Post (rel : RC → β → α → Prop) (K : PySem.W.Frag) (B : Addr → Prop) (ι : Nat → Addr) (n : Nat) (H : Hp) (W : WX) (σ : L2.St) (r : R α) (Q : β → Hp → Prop) : Prop := match r with
  | .ok a h' => ∀ ι' H' v, Ext K B ι n H ι' h' H' → rel ⟨K, B, ι', h'.length, H'⟩ v a → Q v H'
  | .exc c L ds h' => ∀ ι' H' cls dd, Ext K B ι n H ι' h' H' → ExcR ⟨K, B, ι', h'.length, H'⟩ c L ds cls dd → W cls dd σ H'
  | .bad => False
def PostS (K : PySem.W.Frag) (B : Addr → Prop) (ι : Nat → Addr) (n : Nat) (H : Hp) (W : WX) (r : RS) (D : Ends) : Prop := match r with
  | .nx σa h' => ∀ ι' H' σ', Ext K B ι n H ι' h' H' → RepS ⟨K, B, ι', h'.length, H'⟩ σ' σa → D.nx σ' H'
  | .bk σa h' => ∀ ι' H' σ', Ext K B ι n H ι' h' H' → RepS ⟨K, B, ι', h'.length, H'⟩ σ' σa → D.bk σ' H'
  | .ct σa h' => ∀ ι' H' σ', Ext K B ι n H ι' h' H' → RepS ⟨K, B, ι', h'.length, H'⟩ σ' σa → D.ct σ' H'
  | .rt d h' => ∀ ι' H' v, Ext K B ι n H ι' h' H' → Rep ⟨K, B, ι', h'.length, H'⟩ v d → D.rt v H'
  | .exc c L ds σa h' => ∀ ι' H' σ' cls dd, Ext K B ι n H ι' h' H' → RepS ⟨K, B, ι', h'.length, H'⟩ σ' σa → ExcR ⟨K, B, ι', h'.length, H'⟩ c L ds cls dd → W cls dd σ' H'
  | .bad => False
variable {K : PySem.W.Frag} {B : Addr → Prop} {ι ι1 : Nat → Addr} {n : Nat} {h h1 : AH} {H H1 : Hp} {W : WX} {σ : L2.St}
theorem Post.rebase {rel : RC → β → α → Prop} {r : R α} {Q : β → Hp → Prop} (x : Ext K B ι n H ι1 h1 H1) (p : Post rel K B ι n H W σ r Q) : Post rel K B ι1 h1.length H1 W σ r Q := by
  cases r with
  | ok a h' => exact fun ι' H' v y q => p ι' H' v (x.trans y) q
  | exc c L ds h' => exact fun ι' H' cls dd y q => p ι' H' cls dd (x.trans y) q
  | bad => exact p
theorem PostS.rebase {r : RS} {D : Ends} (x : Ext K B ι n H ι1 h1 H1) (p : PostS K B ι n H W r D) : PostS K B ι1 h1.length H1 W r D := by
  cases r with
  | nx a h' => exact fun ι' H' v y q => p ι' H' v (x.trans y) q
  | bk a h' => exact fun ι' H' v y q => p ι' H' v (x.trans y) q
  | ct a h' => exact fun ι' H' v y q => p ι' H' v (x.trans y) q
  | rt a h' => exact fun ι' H' v y q => p ι' H' v (x.trans y) q
  | exc c L ds σa h' => exact fun ι' H' σ' cls dd y q1 q2 => p ι' H' σ' cls dd (x.trans y) q1 q2
  | bad => exact p
theorem Post.bind {rel : RC → β → α → Prop} {rel' : RC → δ → γ → Prop} {r : R α} {k : α → AH → R γ} {Q : δ → Hp → Prop} (p : Post rel' K B ι n H W σ (r.bind k) Q) :
    Post rel K B ι n H W σ r (fun v H1 => ∃ (ι1 : Nat → Addr) (h1 : AH) (a : α), r = .ok a h1 ∧ Ext K B ι n H ι1 h1 H1 ∧ rel ⟨K, B, ι1, h1.length, H1⟩ v a ∧ Post rel' K B ι1 h1.length H1 W σ (k a h1) Q) := by
  cases r with
  | ok a h' => exact fun ι' H' v y q => ⟨ι', h', a, rfl, y, q, Post.rebase y p⟩
  | exc c L ds h' => exact p
  | bad => exact p
theorem Post.imp {rel : RC → β → α → Prop} {r : R α} {Q Q' : β → Hp → Prop} (p : Post rel K B ι n H W σ r Q) (hq : ∀ v H, Q v H → Q' v H) : Post rel K B ι n H W σ r Q' := by
  cases r with
  | ok a h' => exact fun ι' H' v y q => hq _ _ (p ι' H' v y q)
  | exc c L ds h' => exact p
  | bad => exact p
/-- the reading of what is told by a function -/
def tG (rel : RC → β → α → Prop) (K : PySem.W.Frag) (W : WX) (m : SL → AH → R α) : L2.St → Hp → (β → Hp → Prop) → Prop := fun σ H Q =>
  ∃ (B : Addr → Prop) (ι : Nat → Addr) (h : AH) (σa : SL), Rel K B ι h H ∧ RepS ⟨K, B, ι, h.length, H⟩ σ σa ∧ Post rel K B ι h.length H W σ (m σa h) Q
abbrev bEq : RC → Bool → Bool → Prop := fun _ b c => b = c
abbrev tE (K : PySem.W.Frag) (W : WX) (m : ME) : TE := tG Rep K W m
abbrev tA (K : PySem.W.Frag) (W : WX) (m : MA) : TA := tG RepL K W m
abbrev tT (K : PySem.W.Frag) (W : WX) (m : MT) : TT := tG bEq K W m
def tS (K : PySem.W.Frag) (W : WX) (m : MS) : TS := fun D σ H =>
  ∃ (B : Addr → Prop) (ι : Nat → Addr) (h : AH) (σa : SL), Rel K B ι h H ∧ RepS ⟨K, B, ι, h.length, H⟩ σ σa ∧ PostS K B ι h.length H W (m σa h) D
/-- the four judgements -/
abbrev SE (X : Cx) (W : WX) (e : Expr) (m : ME) : Prop := PE X e (tE X.K W m)
abbrev SA (X : Cx) (W : WX) (es : List Expr) (m : MA) : Prop := PA X es (tA X.K W m)
abbrev ST (X : Cx) (W : WX) (e : Expr) (m : MT) : Prop := PT X e (tT X.K W m)
abbrev SSs (X : Cx) (W : WX) (st : List Stmt) (m : MS) : Prop := PSs X st (tS X.K W m)
abbrev SS (X : Cx) (W : WX) (st : Stmt) (m : MS) : Prop := PS X st (tS X.K W m)
end
section
variable {X : Cx}
theorem _root_.L2.PE.imp {e : Expr} {t t' : TE} (h : PE X e t) (i : ∀ σ H Q, t' σ H Q → t σ H Q) : PE X e t' := ⟨fun pins s σ H Q I q => h.run pins s σ H Q I (i σ H Q q)⟩
theorem _root_.L2.PE.or {e : Expr} {t t' : TE} (h : PE X e t) (h' : PE X e t') : PE X e (fun σ H Q => t σ H Q ∨ t' σ H Q) := ⟨fun pins s σ H Q I q => q.elim (h.run pins s σ H Q I) (h'.run pins s σ H Q I)⟩
theorem _root_.L2.PT.imp {e : Expr} {t t' : TT} (h : PT X e t) (i : ∀ σ H Q, t' σ H Q → t σ H Q) : PT X e t' := ⟨fun pins s σ H Q I q => h.run pins s σ H Q I (i σ H Q q)⟩
theorem _root_.L2.PA.imp {e : List Expr} {t t' : TA} (h : PA X e t) (i : ∀ σ H Q, t' σ H Q → t σ H Q) : PA X e t' := ⟨fun pos pins s σ H Q I q => h.run pos pins s σ H Q I (i σ H Q q)⟩
theorem _root_.L2.PS.imp {e : Stmt} {t t' : TS} (h : PS X e t) (i : ∀ D σ H, t' D σ H → t D σ H) : PS X e t' := ⟨fun pins s σ H D I q => h.run pins s σ H D I (i D σ H q)⟩
theorem _root_.L2.PSs.imp {e : List Stmt} {t t' : TS} (h : PSs X e t) (i : ∀ D σ H, t' D σ H → t D σ H) : PSs X e t' := ⟨fun pins s σ H D I q => h.run pins s σ H D I (i D σ H q)⟩
end
end MW

set_option maxHeartbeats 2000000
/-! MW2: equality of abstract values; Python's ==; freezing. -/
namespace MW
open PySem L2

/-! ### equality -/
mutual
def D.beq : D → D → Bool
  | .non, .non => true
  | .bl a, .bl b => a == b
  | .int a, .int b => a == b
  | .str a, .str b => a == b
  | .tup a, .tup b => D.beqL a b
  | .lst a, .lst b => D.beqL a b
  | .scr a, .scr b => D.beqL a b
  | .dct k a, .dct l b => k == l && D.beqP a b
  | .obj c L a, .obj d M b => c == d && (L == M && D.beqL a b)
  | .loc a, .loc b => a == b
  | .ty a, .ty b => a == b
  | .cls a, .cls b => a == b
  | _, _ => false
def D.beqL : List D → List D → Bool
  | [], [] => true
  | x :: xs, y :: ys => D.beq x y && D.beqL xs ys
  | _, _ => false
def D.beqP : List (D × D) → List (D × D) → Bool
  | [], [] => true
  | (a, b) :: xs, (c, d) :: ys => D.beq a c && (D.beq b d && D.beqP xs ys)
  | _, _ => false
end
mutual
theorem D.beq_refl : ∀ a : D, D.beq a a = true
  | .non => by simp only [D.beq]
  | .bl a => by simp only [D.beq, beq_self_eq_true]
  | .int a => by simp only [D.beq, beq_self_eq_true]
  | .str a => by simp only [D.beq, beq_self_eq_true]
  | .tup a => by simp only [D.beq]; exact D.beqL_refl a
  | .lst a => by simp only [D.beq]; exact D.beqL_refl a
  | .scr a => by simp only [D.beq]; exact D.beqL_refl a
  | .dct k a => by simp only [D.beq, beq_self_eq_true, Bool.true_and]; exact D.beqP_refl a
  | .obj c L a => by simp only [D.beq, beq_self_eq_true, Bool.true_and]; exact D.beqL_refl a
  | .loc a => by simp only [D.beq, beq_self_eq_true]
  | .ty a => by simp only [D.beq, beq_self_eq_true]
  | .cls a => by simp only [D.beq, beq_self_eq_true]
theorem D.beqL_refl : ∀ a : List D, D.beqL a a = true
  | [] => by simp only [D.beqL]
  | x :: xs => by simp only [D.beqL, D.beq_refl x, D.beqL_refl xs, Bool.and_self]
theorem D.beqP_refl : ∀ a : List (D × D), D.beqP a a = true
  | [] => by simp only [D.beqP]
  | (x, y) :: xs => by simp only [D.beqP, D.beq_refl x, D.beq_refl y, D.beqP_refl xs, Bool.and_self]
end
mutual
theorem D.eq_of_beq : ∀ {a b : D}, D.beq a b = true → a = b
  | .non, b, h => by cases b <;> simp [D.beq] at h ⊢
  | .bl a, b, h => by cases b <;> simp [D.beq] at h ⊢; exact h
  | .int a, b, h => by cases b <;> simp [D.beq] at h ⊢; exact h
  | .str a, b, h => by cases b <;> simp [D.beq] at h ⊢; exact h
  | .tup a, b, h => by cases b <;> simp [D.beq] at h ⊢; exact D.eqL_of_beq h
  | .lst a, b, h => by cases b <;> simp [D.beq] at h ⊢; exact D.eqL_of_beq h
  | .scr a, b, h => by cases b <;> simp [D.beq] at h ⊢; exact D.eqL_of_beq h
  | .dct k a, b, h => by cases b <;> simp [D.beq] at h ⊢; exact ⟨h.1, D.eqP_of_beq h.2⟩
  | .obj c L a, b, h => by cases b <;> simp [D.beq] at h ⊢; exact ⟨h.1, h.2.1, D.eqL_of_beq h.2.2⟩
  | .loc a, b, h => by cases b <;> simp [D.beq] at h ⊢; exact h
  | .ty a, b, h => by cases b <;> simp [D.beq] at h ⊢; exact h
  | .cls a, b, h => by cases b <;> simp [D.beq] at h ⊢; exact h
theorem D.eqL_of_beq : ∀ {a b : List D}, D.beqL a b = true → a = b
  | [], b, h => by cases b <;> simp [D.beqL] at h ⊢
  | x :: xs, b, h => by
    cases b with
    | nil => simp [D.beqL] at h
    | cons y ys =>
      simp only [D.beqL, Bool.and_eq_true] at h
      rw [D.eq_of_beq h.1, D.eqL_of_beq h.2]
theorem D.eqP_of_beq : ∀ {a b : List (D × D)}, D.beqP a b = true → a = b
  | [], b, h => by cases b <;> simp [D.beqP] at h ⊢
  | (x, y) :: xs, b, h => by
    cases b with
    | nil => simp [D.beqP] at h
    | cons p ys =>
      obtain ⟨u, v⟩ := p
      simp only [D.beqP, Bool.and_eq_true] at h
      rw [D.eq_of_beq h.1, D.eq_of_beq h.2.1, D.eqP_of_beq h.2.2]
end
instance : DecidableEq D := fun a b => if h : D.beq a b = true then isTrue (D.eq_of_beq h) else isFalse fun e => h (by rw [e]; exact D.beq_refl b)

/-! ### Python's == over data -/
mutual
def D.toP : D → PyData
  | .bl b => .bool b
  | .int i => .int i
  | .str s => .str ⟨s.toArray⟩
  | .tup ds => .tuple (D.toPL ds)
  | .lst ds => .list (D.toPL ds)
  | _ => .none
def D.toPL : List D → List PyData
  | [] => []
  | d :: ds => D.toP d :: D.toPL ds
end
mutual
/-- data whose depth is at most so much -/
def D.dat : Nat → D → Bool
  | _, .non | _, .bl _ | _, .int _ | _, .str _ => true
  | n, .tup ds => D.datL n ds
  | n, .lst ds => D.datL n ds
  | _, _ => false
def D.datL : Nat → List D → Bool
  | 0, _ => false
  | _ + 1, [] => true
  | n + 1, d :: ds => D.dat n d && D.datL (n + 1) ds
end
mutual
def D.eqv : D → D → Bool
  | .non, .non => true
  | .bl a, .bl b => a == b
  | .bl a, .int j => (if a then 1 else 0) == j
  | .int i, .bl b => i == (if b then 1 else 0)
  | .int i, .int j => i == j
  | .str x, .str y => x == y
  | .lst xs, .lst ys => D.eqvL xs ys
  | .tup xs, .tup ys => D.eqvL xs ys
  | _, _ => false
def D.eqvL : List D → List D → Bool
  | [], [] => true
  | x :: xs, y :: ys => D.eqv x y && D.eqvL xs ys
  | _, _ => false
end
theorem str_beq (x y : List Nat) : ((⟨x.toArray⟩ : PySem.Str) == ⟨y.toArray⟩) = (x == y) := by
  rw [Bool.eq_iff_iff, beq_iff_eq, beq_iff_eq]
  constructor
  · intro e
    have := congrArg (fun z : PySem.Str => z.cps.toList) e
    simpa using this
  · intro e; rw [e]
mutual
theorem D.eqv_toP : ∀ (n m : Nat) (a b : D), D.dat n a = true → D.dat m b = true → PyData.eqv a.toP b.toP = D.eqv a b
  | n, m, .non, b, ha, hb => by cases b <;> simp [D.dat] at hb <;> simp only [D.toP, PyData.eqv, D.eqv]
  | n, m, .bl a, b, ha, hb => by cases b <;> simp [D.dat] at hb <;> simp only [D.toP, PyData.eqv, D.eqv]
  | n, m, .int a, b, ha, hb => by cases b <;> simp [D.dat] at hb <;> simp only [D.toP, PyData.eqv, D.eqv]
  | n, m, .str a, b, ha, hb => by cases b <;> simp [D.dat] at hb <;> simp only [D.toP, PyData.eqv, D.eqv, str_beq]
  | n, m, .tup a, b, ha, hb => by
    cases b <;> simp [D.dat] at hb <;> simp only [D.toP, PyData.eqv, D.eqv]
    exact D.eqvL_toP n m a _ (by simpa [D.dat] using ha) hb
  | n, m, .lst a, b, ha, hb => by
    cases b <;> simp [D.dat] at hb <;> simp only [D.toP, PyData.eqv, D.eqv]
    exact D.eqvL_toP n m a _ (by simpa [D.dat] using ha) hb
  | n, m, .scr a, b, ha, hb => by simp [D.dat] at ha
  | n, m, .dct _ a, b, ha, hb => by simp [D.dat] at ha
  | n, m, .obj _ _ a, b, ha, hb => by simp [D.dat] at ha
  | n, m, .loc a, b, ha, hb => by simp [D.dat] at ha
  | n, m, .ty a, b, ha, hb => by simp [D.dat] at ha
  | n, m, .cls a, b, ha, hb => by simp [D.dat] at ha
theorem D.eqvL_toP : ∀ (n m : Nat) (a b : List D), D.datL n a = true → D.datL m b = true → PyData.eqvAll (D.toPL a) (D.toPL b) = D.eqvL a b
  | n, m, [], b, ha, hb => by cases b <;> simp only [D.toPL, PyData.eqvAll, D.eqvL]
  | 0, m, x :: xs, b, ha, hb => by simp [D.datL] at ha
  | n + 1, m, x :: xs, b, ha, hb => by
    cases b with
    | nil => simp only [D.toPL, PyData.eqvAll, D.eqvL]
    | cons y ys =>
      cases m with
      | zero => simp [D.datL] at hb
      | succ m =>
        simp only [D.datL, Bool.and_eq_true] at ha hb
        simp only [D.toPL, PyData.eqvAll, D.eqvL, D.eqv_toP n m x y ha.1 hb.1, D.eqvL_toP (n + 1) (m + 1) xs ys ha.2 hb.2]
end
mutual
theorem D.depth_toP : ∀ (n : Nat) (a : D), D.dat n a = true → a.toP.depth ≤ n
  | n, .non, h => by simp [D.toP, PyData.depth]
  | n, .bl _, h => by simp [D.toP, PyData.depth]
  | n, .int _, h => by simp [D.toP, PyData.depth]
  | n, .str _, h => by simp [D.toP, PyData.depth]
  | n, .tup ds, h => by
    simp only [D.toP, PyData.depth]
    exact D.depthL_toP n ds (by simpa [D.dat] using h)
  | n, .lst ds, h => by
    simp only [D.toP, PyData.depth]
    exact D.depthL_toP n ds (by simpa [D.dat] using h)
  | n, .scr _, h => by simp [D.dat] at h
  | n, .dct _ _, h => by simp [D.dat] at h
  | n, .obj _ _ _, h => by simp [D.dat] at h
  | n, .loc _, h => by simp [D.dat] at h
  | n, .ty _, h => by simp [D.dat] at h
  | n, .cls _, h => by simp [D.dat] at h
theorem D.depthL_toP : ∀ (n : Nat) (a : List D), D.datL n a = true → PyData.depthAll (D.toPL a) + 1 ≤ n
  | 0, a, h => by simp [D.datL] at h
  | n + 1, [], h => by simp [D.toPL, PyData.depthAll]
  | n + 1, d :: ds, h => by
    simp only [D.datL, Bool.and_eq_true] at h
    simp only [D.toPL, PyData.depthAll]
    have h1 := D.depth_toP n d h.1
    have h2 := D.depthL_toP (n + 1) ds h.2
    omega
end
section
variable {r : RC} {K : PySem.W.Frag}
mutual
theorem Rep.dp : ∀ (n : Nat) {v : V} {d : D}, Rep r v d → D.dat n d = true → Dp r.K r.H v d.toP ∧ d.toP.canLay0 = true
  | n, _, _, .non, h => ⟨by simp only [D.toP]; exact .non, by simp only [D.toP, PyData.canLay0]⟩
  | n, _, _, .bl b, h => ⟨by simp only [D.toP]; exact .bl b, by simp only [D.toP, PyData.canLay0]⟩
  | n, _, _, .int i, h => ⟨by simp only [D.toP]; exact .int i, by simp only [D.toP, PyData.canLay0]⟩
  | n, _, _, .str x g, h => ⟨by simp only [D.toP]; exact .str x, by simp only [D.toP, PyData.canLay0]; simpa [PyData.strOk, vS] using g⟩
  | n, _, _, .tup e l, h => by
    simp only [D.toP, PyData.canLay0]
    obtain ⟨h1, h2⟩ := RepL.dp n l (by simpa [D.dat] using h)
    exact ⟨.tup (.inl (.inl e)) h1, h2⟩
  | n, _, _, .lst e l _, h => by
    simp only [D.toP, PyData.canLay0]
    obtain ⟨h1, h2⟩ := RepL.dp n l (by simpa [D.dat] using h)
    exact ⟨.lst (.inl (.inl e)) h1, h2⟩
  | n, _, _, .scr _ _, h => by simp [D.dat] at h
  | n, _, _, .dk _ _ _, h => by simp [D.dat] at h
  | n, _, _, .dt _ _ _, h => by simp [D.dat] at h
  | n, _, _, .obj _ _ _ _, h => by simp [D.dat] at h
  | n, _, _, .loc _, h => by simp [D.dat] at h
  | n, _, _, .ty _, h => by simp [D.dat] at h
  | n, _, _, .cls _, h => by simp [D.dat] at h
theorem RepL.dp : ∀ (n : Nat) {v : List V} {d : List D}, RepL r v d → D.datL n d = true → DpAll r.K r.H v (D.toPL d) ∧ PyData.canLayAll0 (D.toPL d) = true
  | 0, _, _, _, h => by simp [D.datL] at h
  | n + 1, _, _, .nil, h => ⟨by simp only [D.toPL]; exact .nil, by simp only [D.toPL, PyData.canLayAll0]⟩
  | n + 1, _, _, .cons q l, h => by
    simp only [D.datL, Bool.and_eq_true] at h
    obtain ⟨h1, h2⟩ := Rep.dp n q h.1
    obtain ⟨h3, h4⟩ := RepL.dp (n + 1) l h.2
    simp only [D.toPL, PyData.canLayAll0, h2, h4, Bool.and_self]
    exact ⟨.cons h1 h3, trivial⟩
end
theorem Rep.shaped {v : V} {d : D} (h : D.dat 60 d = true) (q : Rep r v d) : Dp r.K r.H v d.toP ∧ SeqAt.shaped d.toP = true := by
  obtain ⟨h1, h2⟩ := Rep.dp 60 q h
  refine ⟨h1, ?_⟩
  unfold SeqAt.shaped
  rw [h2, Bool.true_and]
  exact decide_eq_true (Nat.le_trans (D.depth_toP 60 d h) (by decide))
end

/-! ### freezing -/
mutual
/-- nothing that may change stands in it -/
def D.pur : D → Bool
  | .tup ds => D.purL ds
  | .lst ds => D.purL ds
  | .scr ds => D.purL ds
  | .dct _ kvs => D.purP kvs
  | .obj _ _ ds => D.purL ds
  | .loc _ => false
  | _ => true
def D.purL : List D → Bool
  | [] => true
  | d :: ds => D.pur d && D.purL ds
def D.purP : List (D × D) → Bool
  | [] => true
  | (_, d) :: ds => D.pur d && D.purP ds
end
def optL (f : D → Option D) : List D → Option (List D)
  | [] => some []
  | d :: ds => match f d, optL f ds with
    | some x, some xs => some (x :: xs)
    | _, _ => none
def optP (f : D → Option D) : List (D × D) → Option (List (D × D))
  | [] => some []
  | (k, d) :: ds => match f d, optP f ds with
    | some x, some xs => some ((k, x) :: xs)
    | _, _ => none
/-- what stands in the cells put in their place -/
def frz : Nat → AH → D → Option D
  | 0, _, d => if d.pur then some d else none
  | n + 1, h, d => if d.pur then some d else match d with
    | .loc i => match h[i]? with
      | some (.lst ds) => (optL (frz n h) ds).map .lst
      | some (.dct k kvs) => (optP (frz n h) kvs).map (.dct k)
      | some (.ins c L ds) => if L.length = ds.length then (optL (frz n h) ds).map (.obj c L) else none
      | _ => none
    | .tup ds => (optL (frz n h) ds).map .tup
    | .lst ds => (optL (frz n h) ds).map .lst
    | _ => none
theorem optL_length {f : D → Option D} : ∀ {ds es : List D}, optL f ds = some es → es.length = ds.length
  | [], es, h => by simp [optL] at h; subst h; rfl
  | d :: ds, es, h => by
    simp only [optL] at h
    split at h
    · rename_i x xs e1 e2
      cases h
      simp [optL_length e2]
    · cases h
section
variable {K : PySem.W.Frag} {B : Addr → Prop} {ι : Nat → Addr} {H : Hp} {r : RC} {h : AH}
mutual
/-- what is pure stands for the same beside other cells, where no address of the others is theirs -/
theorem Rep.pure (r' : RC) (hK : r'.K = r.K) (hH : r'.H = r.H) (hf : ∀ a, r.Fz a → r'.Fz a) : ∀ {v : V} {d : D}, Rep r v d → d.pur = true → Rep r' v d
  | _, _, .non, _ => .non
  | _, _, .bl b, _ => .bl b
  | _, _, .int i, _ => .int i
  | _, _, .str s g, _ => .str s g
  | _, _, .tup e l, p => .tup (by rw [hH]; exact e) (RepL.pure r' hK hH hf l (by simpa [D.pur] using p))
  | _, _, .lst e l f, p => .lst (by rw [hH]; exact e) (RepL.pure r' hK hH hf l (by simpa [D.pur] using p)) (hf _ f)
  | _, _, .scr e l, p => .scr (by rw [hH, hK]; exact e) (RepL.pure r' hK hH hf l (by simpa [D.pur] using p))
  | _, _, .dk e l f, p => .dk (by rw [hH]; exact e) (RepK.pure r' hK hH hf l (by simpa [D.pur] using p)) (hf _ f)
  | _, _, .dt e l f, p => .dt (by rw [hH]; exact e) (RepT.pure r' hK hH hf l (by simpa [D.pur] using p)) (hf _ f)
  | _, _, .obj e q l f, p => .obj (by rw [hH, hK]; exact e) q (RepL.pure r' hK hH hf l (by simpa [D.pur] using p)) (hf _ f)
  | _, _, .loc _, p => by simp [D.pur] at p
  | _, _, .ty n, _ => .ty n
  | _, _, .cls c, _ => by rw [← hK]; exact .cls c
theorem RepL.pure (r' : RC) (hK : r'.K = r.K) (hH : r'.H = r.H) (hf : ∀ a, r.Fz a → r'.Fz a) : ∀ {v : List V} {d : List D}, RepL r v d → D.purL d = true → RepL r' v d
  | _, _, .nil, _ => .nil
  | _, _, .cons q l, p => by
    simp only [D.purL, Bool.and_eq_true] at p
    exact .cons (Rep.pure r' hK hH hf q p.1) (RepL.pure r' hK hH hf l p.2)
theorem RepK.pure (r' : RC) (hK : r'.K = r.K) (hH : r'.H = r.H) (hf : ∀ a, r.Fz a → r'.Fz a) : ∀ {v : List (Key × V)} {d : List (D × D)}, RepK r v d → D.purP d = true → RepK r' v d
  | _, _, .nil, _ => .nil
  | _, _, .cons q l, p => by
    simp only [D.purP, Bool.and_eq_true] at p
    exact .cons (Rep.pure r' hK hH hf q p.1) (RepK.pure r' hK hH hf l p.2)
theorem RepT.pure (r' : RC) (hK : r'.K = r.K) (hH : r'.H = r.H) (hf : ∀ a, r.Fz a → r'.Fz a) : ∀ {v : List (List Key × V)} {d : List (D × D)}, RepT r v d → D.purP d = true → RepT r' v d
  | _, _, .nil, _ => .nil
  | _, _, .cons q l, p => by
    simp only [D.purP, Bool.and_eq_true] at p
    exact .cons (Rep.pure r' hK hH hf q p.1) (RepT.pure r' hK hH hf l p.2)
end
theorem optL_rep {f : D → Option D} (r' : RC) (hf : ∀ {v : V} {d e : D}, Rep r v d → f d = some e → Rep r' v e) : ∀ {vs : List V} {ds es : List D}, RepL r vs ds → optL f ds = some es → RepL r' vs es
  | _, _, _, .nil, e => by simp [optL] at e; subst e; exact .nil
  | _, _, _, .cons q l, e => by
    simp only [optL] at e
    split at e
    · rename_i x xs e1 e2
      cases e
      exact .cons (hf q e1) (optL_rep r' hf l e2)
    · cases e
theorem optK_rep {f : D → Option D} (r' : RC) (hf : ∀ {v : V} {d e : D}, Rep r v d → f d = some e → Rep r' v e) : ∀ {vs : List (Key × V)} {ds es : List (D × D)}, RepK r vs ds → optP f ds = some es → RepK r' vs es
  | _, _, _, .nil, e => by simp [optP] at e; subst e; exact .nil
  | _, _, _, .cons q l, e => by
    simp only [optP] at e
    split at e
    · rename_i x xs e1 e2
      cases e
      exact .cons (hf q e1) (optK_rep r' hf l e2)
    · cases e
theorem optT_rep {f : D → Option D} (r' : RC) (hf : ∀ {v : V} {d e : D}, Rep r v d → f d = some e → Rep r' v e) : ∀ {vs : List (List Key × V)} {ds es : List (D × D)}, RepT r vs ds → optP f ds = some es → RepT r' vs es
  | _, _, _, .nil, e => by simp [optP] at e; subst e; exact .nil
  | _, _, _, .cons q l, e => by
    simp only [optP] at e
    split at e
    · rename_i x xs e1 e2
      cases e
      exact .cons (hf q e1) (optT_rep r' hf l e2)
    · cases e
/-- frozen: seen from where none of these addresses is a cell's -/
theorem frz_rep (R : Rel K B ι h H) {r' : RC} (hK : r'.K = K) (hH : r'.H = H) (hf : ∀ a, ¬ B a → r'.Fz a) : ∀ (n : Nat) {v : V} {d e : D}, Rep ⟨K, B, ι, h.length, H⟩ v d → frz n h d = some e → Rep r' v e
  | 0, v, d, e, q, z => by
    simp only [frz] at z
    split at z
    · rename_i p
      cases z
      exact q.pure r' hK hH (fun a f => hf a f.1) p
    · cases z
  | n + 1, v, d, e, q, z => by
    have ih : ∀ {v : V} {d e : D}, Rep ⟨K, B, ι, h.length, H⟩ v d → frz n h d = some e → Rep r' v e := fun q z => frz_rep R hK hH hf n q z
    simp only [frz] at z
    split at z
    · rename_i p
      cases z
      exact q.pure r' hK hH (fun a f => hf a f.1) p
    · cases q with
      | non => cases z
      | bl _ => cases z
      | int _ => cases z
      | str _ _ => cases z
      | scr _ _ => cases z
      | dk _ _ _ => cases z
      | dt _ _ _ => cases z
      | obj _ _ _ _ => cases z
      | ty _ => cases z
      | cls _ => cases z
      | tup ea l =>
        obtain ⟨es, z1, rfl⟩ := Option.map_eq_some_iff.mp z
        exact .tup (by rw [hH]; exact ea) (optL_rep r' ih l z1)
      | lst ea l f =>
        obtain ⟨es, z1, rfl⟩ := Option.map_eq_some_iff.mp z
        exact .lst (by rw [hH]; exact ea) (optL_rep r' ih l z1) (hf _ f.1)
      | @loc i hi =>
        have nb : r'.Fz (ι i) := hf _ (R.nb i hi)
        simp only at z
        split at z
        · rename_i ds hc
          obtain ⟨es, z1, rfl⟩ := Option.map_eq_some_iff.mp z
          cases R.cell i _ hc with
          | lst ea l => exact .lst (by rw [hH]; exact ea) (optL_rep r' ih l z1) nb
        · rename_i k kvs hc
          obtain ⟨es, z1, rfl⟩ := Option.map_eq_some_iff.mp z
          cases R.cell i _ hc with
          | dk ea l => exact .dk (.inl (by rw [hH]; exact ea)) (optK_rep r' ih l z1) nb
          | dt ea l => exact .dt (.inl (by rw [hH]; exact ea)) (optT_rep r' ih l z1) nb
        · rename_i c L ds hc
          split at z
          · rename_i hl
            obtain ⟨es, z1, rfl⟩ := Option.map_eq_some_iff.mp z
            cases R.cell i _ hc with
            | ins ea _ l =>
              rw [← hl, List.take_length] at ea
              exact .obj (by rw [hH, hK]; exact ea) (by rw [optL_length z1]; exact hl) (optL_rep r' ih l z1) nb
          · cases z
        · cases z
end
end MW

set_option maxHeartbeats 2000000
/-! MW3: expressions. -/
namespace MW
open PySem L2

abbrev W0 : WX := fun _ _ _ _ => False
@[reducible] def lift {α : Type} (o : Option α) (h : AH) : R α := match o with
  | some z => .ok z h
  | none => .bad
@[reducible] def lift2 {α : Type} (o : Option (α × AH)) : R α := match o with
  | some z => .ok z.1 z.2
  | none => .bad
theorem Post.lift {α β : Type} {rel : RC → β → α → Prop} {K : PySem.W.Frag} {B : Addr → Prop} {ι : Nat → Addr} {n : Nat} {H : Hp} {W : WX} {σ : L2.St} {o : Option α} {h : AH} {Q : β → Hp → Prop} (p : Post rel K B ι n H W σ (MW.lift o h) Q) :
    ∃ z, o = some z ∧ ∀ ι' H' v, Ext K B ι n H ι' h H' → rel ⟨K, B, ι', h.length, H'⟩ v z → Q v H' := by
  cases o with
  | none => exact p.elim
  | some z => exact ⟨z, rfl, p⟩
theorem Post.lift2 {α β : Type} {rel : RC → β → α → Prop} {K : PySem.W.Frag} {B : Addr → Prop} {ι : Nat → Addr} {n : Nat} {H : Hp} {W : WX} {σ : L2.St} {o : Option (α × AH)} {Q : β → Hp → Prop} (p : Post rel K B ι n H W σ (MW.lift2 o) Q) :
    ∃ z h, o = some (z, h) ∧ ∀ ι' H' v, Ext K B ι n H ι' h H' → rel ⟨K, B, ι', h.length, H'⟩ v z → Q v H' := by
  cases o with
  | none => exact p.elim
  | some z => exact ⟨z.1, z.2, rfl, p⟩
theorem Rep.str' {r : RC} {x : PySem.Str} {s : List Nat} (e : x.cps.toList = s) (g : vS x) : Rep r (.str x) (.str s) := by subst e; exact .str x g

/-! ### names, constants -/
def mVar (i : Nat) : ME := fun σ h => match σ[i]? with
  | some (some d) => .ok d h
  | _ => .bad
def mC (d : D) : ME := fun _ h => .ok d h
section
variable {X : Cx} {W : WX} {pos : Pos}
theorem se_var (i : Nat) {x : PySem.Str} (hN : X.N[i]? = some x := by rfl) (hv : Vis X.env.scope x := by first | exact Or.inl rfl | exact Or.inr (Or.inl rfl) | exact Or.inr (Or.inr rfl)) (hd : (x == ("__debug__" : PySem.Str)) = false := by decide)
    (hcd : (x == ("__classdict__" : PySem.Str)) = false := by decide) : SE X W (.Name x pos) (mVar i) := (pe_var hN hv hd hcd).imp fun σ H Q ⟨B, ι, h, σa, R, S, p⟩ => by
  unfold mVar at p
  split at p
  · rename_i d e
    obtain ⟨v, hv, r⟩ := S.2 i d e
    exact ⟨v, hv, p ι H v (Ext.refl R) r⟩
  · exact p.elim
theorem se_c {e : Expr} {v : V} {d : D} (h : PE X e (tC v)) (r : ∀ r, Rep r v d) : SE X W e (mC d) := h.imp fun σ H Q ⟨B, ι, h, σa, R, S, p⟩ => p ι H v (Ext.refl R) (r _)
theorem se_int {i : Int} {j} : SE X W (.Constant (.int i) j pos) (mC (.int i)) := se_c pe_int fun _ => .int i
theorem se_bl {b : Bool} {j} : SE X W (.Constant (.bool b) j pos) (mC (.bl b)) := se_c pe_bl fun _ => .bl b
theorem se_non {j} : SE X W (.Constant .none j pos) (mC .non) := se_c pe_non fun _ => .non
theorem se_str {x : PySem.Str} {s : List Nat} {j} (e : x.cps.toList = s := by decide +kernel) (g : s.all (· < 0x110000) = true := by decide) : SE X W (.Constant (.str x) j pos) (mC (.str s)) :=
  se_c pe_str fun _ => Rep.str' e (by unfold vS; rw [← Array.all_toList, e]; exact g)
/-- a text of the module -/
theorem se_gstr {x z : PySem.Str} {s : List Nat} (hg : Gl X x) (hm : ∃ t, X.mg x = some (.str z t)) (e : z.cps.toList = s := by decide +kernel) (g : s.all (· < 0x110000) = true := by decide) (hd : (x == ("__debug__" : PySem.Str)) = false := by decide) : SE X W (.Name x pos) (mC (.str s)) := by
  obtain ⟨t, hm⟩ := hm
  exact se_c (pe_glob hg hm (show RelV (.str z) _ from ⟨t, rfl⟩) hd) fun _ => Rep.str' e (by unfold vS; rw [← Array.all_toList, e]; exact g)
theorem se_gint {x : PySem.Str} {i : Int} (hg : Gl X x) (hm : ∃ t, X.mg x = some (.int i t)) (hd : (x == ("__debug__" : PySem.Str)) = false := by decide) : SE X W (.Name x pos) (mC (.int i)) := by
  obtain ⟨t, hm⟩ := hm
  exact se_c (pe_glob hg hm (show RelV (.int i) _ from ⟨t, rfl⟩) hd) fun _ => .int i
end

/-! ### argument lists, displays -/
def mArgs : List ME → MA
  | [] => fun _ h => .ok [] h
  | m :: ms => fun σ h => (m σ h).bind fun x h => (mArgs ms σ h).bind fun xs h => .ok (x :: xs) h
theorem mArgs_length : ∀ {ms : List ME} {σ : SL} {h h' : AH} {ds : List D}, mArgs ms σ h = .ok ds h' → ds.length = ms.length
  | [], _, _, _, _, e => by simp [mArgs] at e; simp [e.1]
  | m :: ms, σ, h, h', ds, e => by
    simp only [mArgs] at e
    cases e1 : m σ h with
    | ok x h1 =>
      rw [e1] at e; simp only [R.bind] at e
      cases e2 : mArgs ms σ h1 with
      | ok xs h2 =>
        rw [e2] at e; simp only [R.ok.injEq] at e
        rw [← e.1, List.length_cons, List.length_cons, mArgs_length e2]
      | exc c L d h2 => rw [e2] at e; cases e
      | bad => rw [e2] at e; cases e
    | exc c L d h1 => rw [e1] at e; cases e
    | bad => rw [e1] at e; cases e
def mTup (ms : List ME) : ME := fun σ h => (mArgs ms σ h).bind fun ds h => .ok (.tup ds) h
def mLst (ms : List ME) : ME := fun σ h => (mArgs ms σ h).bind fun ds h => .ok (.lst ds) h
/-- a new list that may change -/
def mLstN (ms : List ME) : ME := fun σ h => (mArgs ms σ h).bind fun ds h => .ok (.loc h.length) (h ++ [.lst ds])
section
variable {X : Cx} {W : WX} {pos : Pos} {e : Expr} {es : List Expr} {m : ME} {ms : List ME}
theorem sa_nil : SA X W [] (mArgs []) := pa_nil.imp fun σ H Q ⟨B, ι, h, σa, R, S, p⟩ => p ι H [] (Ext.refl R) .nil
theorem sa_cons (ha : SE X W e m) (hr : SA X W es (mArgs ms)) (hs : starEach (e :: es) X.env = (false, eval e X.env) :: starEach es X.env := by rfl) : SA X W (e :: es) (mArgs (m :: ms)) :=
  (pa_cons ha hr hs).imp fun σ H Q ⟨B, ι, h, σa, R, S, p⟩ => by
    refine ⟨B, ι, h, σa, R, S, (Post.bind (rel := Rep) p).imp ?_⟩
    rintro v H1 ⟨ι1, h1, d, _, x1, r1, p1⟩
    refine ⟨B, ι1, h1, σa, x1.rel, S.up (x1.up R), (Post.bind (rel := RepL) p1).imp ?_⟩
    rintro vs H2 ⟨ι2, h2, ds, _, x2, r2, p2⟩
    exact p2 ι2 H2 (v :: vs) (Ext.refl x2.rel) (.cons (r1.mono x1.rel x2) r2)
theorem size1000 {n : Nat} (h : n ≤ 1000) : n ≤ sizeLine := Nat.le_trans h (by decide)
theorem se_tup {x1} (h : SA X W es (mArgs ms)) (hl : ms.length ≤ 1000 := by decide) : SE X W (.Tuple es x1 pos) (mTup ms) := (pe_tup h).imp fun σ H Q ⟨B, ι, h, σa, R, S, p⟩ => by
  refine ⟨B, ι, h, σa, R, S, (Post.bind (rel := RepL) p).imp ?_⟩
  rintro vs H1 ⟨ι1, h1, ds, e, x1, r1, p1⟩
  refine ⟨by rw [r1.length, mArgs_length e]; exact size1000 hl, fun q hq => ?_⟩
  exact p1 ι1 _ _ (Ext.fresh x1.rel hq _) (.tup upd_same (r1.up (Up.fresh x1.rel hq _)))
theorem se_lst (h : SA X W es (mArgs ms)) (hl : ms.length ≤ 1000 := by decide) : SE X W (.List es pos) (mLst ms) := (pe_lst h).imp fun σ H Q ⟨B, ι, h, σa, R, S, p⟩ => by
  refine ⟨B, ι, h, σa, R, S, (Post.bind (rel := RepL) p).imp ?_⟩
  rintro vs H1 ⟨ι1, h1, ds, e, x1, r1, p1⟩
  refine ⟨by rw [r1.length, mArgs_length e]; exact size1000 hl, fun q hq => ?_⟩
  exact p1 ι1 _ _ (Ext.fresh x1.rel hq _) (.lst upd_same (r1.up (Up.fresh x1.rel hq _)) (x1.rel.fz_new hq))
theorem se_lstN (h : SA X W es (mArgs ms)) (hl : ms.length ≤ 1000 := by decide) : SE X W (.List es pos) (mLstN ms) := (pe_lst h).imp fun σ H Q ⟨B, ι, h, σa, R, S, p⟩ => by
  refine ⟨B, ι, h, σa, R, S, (Post.bind (rel := RepL) p).imp ?_⟩
  rintro vs H1 ⟨ι1, h1, ds, e, x1, r1, p1⟩
  refine ⟨by rw [r1.length, mArgs_length e]; exact size1000 hl, fun q hq => ?_⟩
  have x2 := Ext.grow x1.rel hq (c := .lst ds) (.lst upd_same (r1.up (Up.grow x1.rel hq _)))
  have y := p1 _ _ (.ref ((fun j => if j = h1.length then q else ι1 j) h1.length)) x2 (Rep.loc (r := ⟨X.K, B, _, (h1 ++ [Cell.lst ds]).length, _⟩) (by simp))
  simpa using y
end

/-! ### operators -/
theorem _root_.L2.OpR.imp {X : Cx} {f : Value → Value → Sem Value} {r r' : R2} (h : OpR X f r) (i : ∀ x y H Q, r' x y H Q → r x y H Q) : OpR X f r' := fun pins s σ H x y v u Q I rx ry q => h pins s σ H x y v u Q I rx ry (i x y H Q q)
def rB (K : PySem.W.Frag) (o : D → D → AH → Option D) : R2 := fun x y H Q => ∃ (B : Addr → Prop) (ι : Nat → Addr) (h : AH) (d e z : D), Rel K B ι h H ∧ Rep ⟨K, B, ι, h.length, H⟩ x d ∧ Rep ⟨K, B, ι, h.length, H⟩ y e ∧ o d e h = some z ∧
  ∀ H' v, Ext K B ι h.length H ι h H' → Rep ⟨K, B, ι, h.length, H'⟩ v z → Q v H'
def mBin (o : D → D → AH → Option D) (a b : ME) : ME := fun σ h => (a σ h).bind fun x h => (b σ h).bind fun y h => lift (o x y h) h
theorem tB_of {K : PySem.W.Frag} {W : WX} {o : D → D → AH → Option D} {ma mb : ME} {σ : L2.St} {H : Hp} {Q : VK} (q : tE K W (mBin o ma mb) σ H Q) : tOp (rB K o) (tE K W ma) (tE K W mb) σ H Q := by
  obtain ⟨B, ι, h, σa, R, S, p⟩ := q
  refine ⟨B, ι, h, σa, R, S, (Post.bind (rel := Rep) p).imp ?_⟩
  rintro x H1 ⟨ι1, h1, d, _, x1, r1, p1⟩
  refine ⟨B, ι1, h1, σa, x1.rel, S.up (x1.up R), (Post.bind (rel := Rep) p1).imp ?_⟩
  rintro y H2 ⟨ι2, h2, e, _, x2, r2, p2⟩
  obtain ⟨z, ez, k⟩ := p2.lift
  exact ⟨B, ι2, h2, d, e, z, x2.rel, r1.mono x1.rel x2, r2, ez, fun H' v x q => k ι2 H' v x q⟩
section
variable {X : Cx} {W : WX} {pos : Pos} {a b : Expr} {ma mb : ME}
theorem se_op {op : Operator} {o : D → D → AH → Option D} (ho : OpR X (binaryOp op) (rB X.K o)) (ha : SE X W a ma) (hb : SE X W b mb) : SE X W (.BinOp a op b pos) (mBin o ma mb) := (pe_op ho ha hb).imp fun _ _ _ => tB_of
theorem se_cmp {op : CmpOp} {o : D → D → AH → Option D} (ho : OpR X (compareOp op) (rB X.K o)) (ha : SE X W a ma) (hb : SE X W b mb) (hm : behindInMarks op b = false := by first | exact nomark _ | rfl) : SE X W (.Compare a [op] [b] pos) (mBin o ma mb) := (pe_cmpR ho ha hb hm).imp fun _ _ _ => tB_of
end

/-- the list that a value is -/
def lsOf (h : AH) : D → Option (List D)
  | .lst ds => some ds
  | .loc i => match h[i]? with
    | some (.lst ds) => some ds
    | _ => none
  | _ => none
section
variable {K : PySem.W.Frag} {B : Addr → Prop} {ι : Nat → Addr} {h : AH} {H : Hp}
theorem lsOf_rep (R : Rel K B ι h H) {x : V} {d : D} {ds : List D} (q : Rep ⟨K, B, ι, h.length, H⟩ x d) (e : lsOf h d = some ds) : ∃ a vs, x = .ref a ∧ H a = some (.lst vs) ∧ RepL ⟨K, B, ι, h.length, H⟩ vs ds := by
  cases q with
  | lst ea l f => simp [lsOf] at e; subst e; exact ⟨_, _, rfl, ea, l⟩
  | @loc i hi =>
    simp only [lsOf] at e
    split at e
    · rename_i ds' hc
      cases e
      cases R.cell i _ hc with
      | lst ea l => exact ⟨_, _, rfl, ea, l⟩
    · cases e
  | _ => simp [lsOf] at e
end

def oAdd : D → D → AH → Option D
  | .int i, .int j, _ => some (.int (i + j))
  | .str a, .str b, _ => if a.length + b.length ≤ sizeLine then some (.str (a ++ b)) else none
  | .tup a, .tup b, _ => if a.length + b.length ≤ sizeLine then some (.tup (a ++ b)) else none
  | d, e, h => match lsOf h d, lsOf h e with
    | some a, some b => if a.length + b.length ≤ sizeLine then some (.lst (a ++ b)) else none
    | _, _ => none
def oSub : D → D → AH → Option D
  | .int i, .int j, _ => some (.int (i - j))
  | _, _, _ => none
/-- one factor is not too great, or both together -/
def okMul (i j : Int) : Prop := ((-(2 ^ 64) < i ∧ i < 2 ^ 64) ∨ (-(2 ^ 64) < j ∧ j < 2 ^ 64)) ∨ i.natAbs.log2 + j.natAbs.log2 < 1000000
instance (i j : Int) : Decidable (okMul i j) := by unfold okMul; exact inferInstance
def oMul : D → D → AH → Option D
  | .int i, .int j, _ => if okMul i j then some (.int (i * j)) else none
  | .str a, .int j, _ => if 0 ≤ j ∧ j < 1000 ∧ a.length ≤ 1000 then some (.str (List.replicate j.toNat a).flatten) else none
  | _, _, _ => none
def oDiv : D → D → AH → Option D
  | .int i, .int j, _ => if 0 < j ∧ (j < 1073741824 ∨ j.natAbs.log2 < 9000) then some (.int (i / j)) else none
  | _, _, _ => none
def oMod : D → D → AH → Option D
  | .int i, .int j, _ => if 0 < j then some (.int (i % j)) else none
  | _, _, _ => none
def oPow : D → D → AH → Option D
  | .int i, .int j, _ => if 0 ≤ j ∧ j ≤ 1000000 ∧ i.natAbs < 2 ^ 64 then some (.int (i ^ j.toNat)) else none
  | _, _, _ => none
def oShl : D → D → AH → Option D
  | .int i, .int j, _ => if 0 ≤ j ∧ j ≤ 1000000 ∧ i.natAbs < 2 ^ 64 then some (.int (i * 2 ^ j.toNat)) else none
  | _, _, _ => none
def oBit (f : Int → Int → Int) : D → D → AH → Option D
  | .int i, .int j, _ => some (.int (f i j))
  | _, _, _ => none
def oRel (f : Int → Int → Bool) : D → D → AH → Option D
  | .int i, .int j, _ => some (.bl (f i j))
  | _, _, _ => none
def oIsN : D → D → AH → Option D
  | d, .non, _ => some (.bl (match d with | .non => true | _ => false))
  | _, _, _ => none
def oNotN : D → D → AH → Option D
  | d, .non, _ => some (.bl (match d with | .non => false | _ => true))
  | _, _, _ => none
/-- True is True -/
def oIsB : D → D → AH → Option D
  | .bl a, .bl b, _ => some (.bl (decide (a = b)))
  | _, _, _ => none
def oEq : D → D → AH → Option D := fun x y h => match frz 8 h x, frz 8 h y with
  | some a, some b => if a.dat 60 && b.dat 60 then some (.bl (a.eqv b)) else none
  | _, _ => none
def oNe : D → D → AH → Option D := fun x y h => match frz 8 h x, frz 8 h y with
  | some a, some b => if a.dat 60 && b.dat 60 then some (.bl (!a.eqv b)) else none
  | _, _ => none
/-- x in y: a sign in a text, a thing in a list or a tuple -/
def inD (x y : D) (h : AH) : Option Bool := match x, y with
  | .str [c], .str s => some (decide (c ∈ s))
  | _, .tup ds => match frz 8 h x, optL (frz 7 h) ds with
    | some a, some bs => if a.dat 59 && D.datL 60 bs then some (bs.any fun z => z.eqv a) else none
    | _, _ => none
  | _, _ => match frz 8 h x, frz 8 h y with
    | some a, some (.lst bs) => if a.dat 59 && D.datL 60 bs then some (bs.any fun z => z.eqv a) else none
    | _, _ => none
def oIn : D → D → AH → Option D := fun x y h => (inD x y h).map fun b => .bl b
def oNin : D → D → AH → Option D := fun x y h => (inD x y h).map fun b => .bl (!b)

section
variable {X : Cx} {k : Nat}
theorem Str.app_list (x y : PySem.Str) : (x ++ y).cps.toList = x.cps.toList ++ y.cps.toList := by
  show (x.cps ++ y.cps).toList = _
  simp
theorem vS.app {x y : PySem.Str} (a : vS x) (b : vS y) : vS (x ++ y) := by
  unfold vS at *
  rw [← Array.all_toList, Str.app_list, List.all_append, Array.all_toList, Array.all_toList, a, b]
  rfl
theorem Str.len (x : PySem.Str) : x.length = x.cps.toList.length := by simp [PySem.Str.length]
theorem bin_add : OpR X (binaryOp .Add) (rB X.K oAdd) := by
  refine ((op_add.or op_add_str).or (op_catA.or op_cat)).imp ?_
  rintro x y H Q ⟨B, ι, h, d, e, z, R, r1, r2, ho, k⟩
  unfold oAdd at ho
  split at ho
  · cases ho
    cases r1; cases r2
    exact .inl (.inl ⟨_, _, rfl, rfl, k H _ (Ext.refl R) (.int _)⟩)
  · split at ho
    · rename_i hz
      cases ho
      cases r1; cases r2
      refine .inl (.inr ⟨_, _, rfl, rfl, by rw [Str.len, Str.len]; exact hz, k H _ (Ext.refl R) (Rep.str' (Str.app_list _ _) (vS.app (by assumption) (by assumption)))⟩)
    · cases ho
  · split at ho
    · rename_i hz
      cases ho
      cases r1 with
      | tup ea la =>
        cases r2 with
        | tup eb lb =>
          refine .inr (.inl ⟨_, _, _, _, rfl, rfl, .inl (.inl ea), .inl (.inl eb), by rw [la.length, lb.length]; exact hz, fun hx => ?_, fun hx hy => ?_, fun hx hy p hp => ?_⟩)
          · subst hx
            cases la
            exact k H _ (Ext.refl R) (.tup eb lb)
          · subst hy
            cases lb
            rw [List.append_nil] at k
            exact k H _ (Ext.refl R) (.tup ea la)
          · exact k _ _ (Ext.fresh R hp _) (.tup upd_same ((la.append lb).up (Up.fresh R hp _)))
    · cases ho
  · split at ho
    · rename_i a b e1 e2
      split at ho
      · rename_i hz
        cases ho
        obtain ⟨p, vs, rfl, ea, la⟩ := lsOf_rep R r1 e1
        obtain ⟨q, ws, rfl, eb, lb⟩ := lsOf_rep R r2 e2
        refine .inr (.inr ⟨_, _, _, _, rfl, rfl, ea, eb, by rw [la.length, lb.length]; exact hz, fun p hp => ?_⟩)
        exact k _ _ (Ext.fresh R hp _) (.lst upd_same ((la.append lb).up (Up.fresh R hp _)) (R.fz_new hp))
      · cases ho
    · cases ho
theorem bin_sub : OpR X (binaryOp .Sub) (rB X.K oSub) := by
  refine op_sub.imp ?_
  rintro x y H Q ⟨B, ι, h, d, e, z, R, r1, r2, ho, k⟩
  unfold oSub at ho
  split at ho
  · cases ho; cases r1; cases r2
    exact ⟨_, _, rfl, rfl, k H _ (Ext.refl R) (.int _)⟩
  · cases ho
def rRepS : R2 := fun x y H Q => ∃ (z : PySem.Str) (j : Int), x = .str z ∧ y = .int j ∧ 0 ≤ j ∧ j < 1000 ∧ z.length ≤ 1000 ∧ Q (.str ⟨(List.replicate j.toNat z.cps.toList).flatten.toArray⟩) H
theorem foldl_app : ∀ (l : List (Array Nat)) (a : Array Nat), (l.foldl (· ++ ·) a).toList = a.toList ++ (l.map (·.toList)).flatten
  | [], a => by simp
  | x :: l, a => by simp [foldl_app l, List.append_assoc]
theorem bin_repS : OpR X (binaryOp .Mult) rRepS := by
  intro pins s σ H x y v u Q I rx ry h
  obtain ⟨z, j, rfl, rfl, h0, h1, h2, q⟩ := h
  obtain ⟨t, rfl⟩ := rx
  obtain ⟨t', rfl⟩ := ry
  have hz : z.length * j.toNat ≤ 1000 * 1000 := Nat.mul_le_mul h2 (by omega)
  have fin : ∀ (y : PySem.Str) (t : Tok) (s' : Shared), Inv X pins σ H s' → y = ⟨(List.replicate j.toNat z.cps.toList).flatten.toArray⟩ → EP X pins σ Q (.str y t) s' := fun y t s' I' e => ⟨.str y, H, I', ⟨_, rfl⟩, by rw [e]; exact q⟩
  have ext : ∀ {a b : PySem.Str}, a.cps.toList = b.cps.toList → a = b := fun {a b} e => by
    cases a; cases b; simp at e; rw [e]
  refine PySem.P.mul_str ?_ (fun _ _ => ?_) (fun _ _ => ?_) ?_
  · rw [decide_eq_false (by omega), decide_eq_false (by omega)]; rfl
  · intro hgt
    have : (z.length : Int) > (2 ^ 63 - 1) / j := hgt
    have h3 : (2 ^ 63 - 1 : Int) / j ≥ (2 ^ 63 - 1) / 1000 := by
      refine Int.le_ediv_of_mul_le (by omega) ?_
      have a1 : (2 ^ 63 - 1 : Int) / 1000 * j ≤ (2 ^ 63 - 1 : Int) / 1000 * 1000 := Int.mul_le_mul_of_nonneg_left (by omega) (by decide)
      have a2 : (2 ^ 63 - 1 : Int) / 1000 * 1000 ≤ 2 ^ 63 - 1 := by decide
      omega
    have : ((2 ^ 63 - 1 : Int) / 1000) > 1000 := by decide
    omega
  · unfold PySem.Builtin.Str.tooLong
    have := sizeLine_eq
    exact decide_eq_false (by omega)
  · by_cases hn : j < 1
    · rw [if_pos hn]
      have e : j = 0 := by omega
      subst e
      exact ⟨by decide, fin _ _ _ (I.tok _) (ext (by simp [PySem.Str.empty]))⟩
    · rw [if_neg hn]
      by_cases hc : (j == 1 || z.length == 0) = true
      · rw [if_pos hc]
        refine fin _ _ _ I (ext ?_)
        simp only [Bool.or_eq_true, beq_iff_eq] at hc
        rcases hc with rfl | hc
        · simp
        · have e : z.cps.toList = [] := by
            have := Str.len z
            rw [hc] at this
            exact List.length_eq_zero_iff.mp this.symm
          rw [e]; simp
      · rw [if_neg hc]
        refine ⟨?_, fin _ _ _ (I.tok _) (ext ?_)⟩
        · have e : (⟨(List.replicate j.toNat z.cps).foldl (· ++ ·) #[]⟩ : PySem.Str).length = z.length * j.toNat := by
            rw [Str.len, Str.len]
            show ((List.replicate j.toNat z.cps).foldl (· ++ ·) #[]).toList.length = _
            rw [foldl_app]
            simp [List.length_flatten, Nat.mul_comm]
          have := sizeLine_eq
          first
            | (unfold PySem.Builtin.Str.tooLong; rw [e]; exact decide_eq_false (by omega))
            | (rw [e]; omega)
            | (show PySem.Builtin.Str.tooLong _ = false; unfold PySem.Builtin.Str.tooLong; rw [e]; exact decide_eq_false (by omega))
        · show ((List.replicate j.toNat z.cps).foldl (· ++ ·) #[]).toList = _
          rw [foldl_app]
          simp
end
end MW

set_option maxHeartbeats 2000000
/-! MW4: further operators, subscripts, slices, tests. -/
namespace MW
open PySem L2
section
variable {X : Cx} {k : Nat}
theorem rB_int {o : D → D → AH → Option D} {C : Int → Int → Prop} {g : Int → Int → V} {gd : Int → Int → D} (hg : ∀ i j r, Rep r (g i j) (gd i j)) (ho : ∀ d e h z, o d e h = some z → ∃ i j, d = .int i ∧ e = .int j ∧ C i j ∧ z = gd i j) :
    ∀ x y H Q, rB X.K o x y H Q → rI C g x y H Q := by
  rintro x y H Q ⟨B, ι, h, d, e, z, R, r1, r2, hz, k⟩
  obtain ⟨i, j, rfl, rfl, hc, rfl⟩ := ho _ _ _ _ hz
  cases r1; cases r2
  exact ⟨i, j, rfl, rfl, hc, k H _ (Ext.refl R) (hg _ _ _)⟩
theorem bin_mul : OpR X (binaryOp .Mult) (rB X.K oMul) := by
  refine ((op_mul.or op_mulW).or bin_repS).imp ?_
  rintro x y H Q ⟨B, ι, h, d, e, z, R, r1, r2, hz, k⟩
  unfold oMul at hz
  split at hz
  · split at hz
    · rename_i hc
      cases hz; cases r1; cases r2
      rcases hc with hc | hc
      · exact .inl (.inl ⟨_, _, rfl, rfl, hc, k H _ (Ext.refl R) (.int _)⟩)
      · exact .inl (.inr ⟨_, _, rfl, rfl, hc, k H _ (Ext.refl R) (.int _)⟩)
    · cases hz
  · split at hz
    · rename_i hc
      cases hz; cases r1; cases r2
      rename_i x g
      refine .inr ⟨_, _, rfl, rfl, hc.1, hc.2.1, by rw [Str.len]; exact hc.2.2, k H _ (Ext.refl R) (Rep.str' (by simp) ?_)⟩
      unfold vS at *
      rw [← Array.all_toList] at g ⊢
      rw [List.all_eq_true] at g ⊢
      intro c hc
      simp only [List.mem_flatten, List.mem_replicate] at hc
      obtain ⟨l, ⟨_, rfl⟩, hc⟩ := hc
      exact g c hc
    · cases hz
  · cases hz
theorem bin_div : OpR X (binaryOp .FloorDiv) (rB X.K oDiv) := by
  refine (op_fdiv.or op_fdivW).imp ?_
  rintro x y H Q ⟨B, ι, h, d, e, z, R, r1, r2, hz, k⟩
  unfold oDiv at hz
  split at hz
  · split at hz
    · rename_i hc
      cases hz; cases r1; cases r2
      rcases hc.2 with h2 | h2
      · exact .inl ⟨_, _, rfl, rfl, ⟨hc.1, h2⟩, k H _ (Ext.refl R) (.int _)⟩
      · exact .inr ⟨_, _, rfl, rfl, ⟨hc.1, h2⟩, k H _ (Ext.refl R) (.int _)⟩
    · cases hz
  · cases hz
theorem bin_mod : OpR X (binaryOp .Mod) (rB X.K oMod) := op_mod.imp (rB_int (gd := fun i j => .int (i % j)) (fun _ _ _ => .int _) fun d e h z q => by
  unfold oMod at q
  split at q
  · split at q
    · cases q; exact ⟨_, _, rfl, rfl, by assumption, rfl⟩
    · cases q
  · cases q)
theorem bin_pow : OpR X (binaryOp .Pow) (rB X.K oPow) := op_pow.imp (rB_int (gd := fun i j => .int (i ^ j.toNat)) (fun _ _ _ => .int _) fun d e h z q => by
  unfold oPow at q
  split at q
  · split at q
    · cases q; exact ⟨_, _, rfl, rfl, by assumption, rfl⟩
    · cases q
  · cases q)
theorem bin_shl : OpR X (binaryOp .LShift) (rB X.K oShl) := op_shl.imp (rB_int (gd := fun i j => .int (i * 2 ^ j.toNat)) (fun _ _ _ => .int _) fun d e h z q => by
  unfold oShl at q
  split at q
  · split at q
    · cases q; exact ⟨_, _, rfl, rfl, by assumption, rfl⟩
    · cases q
  · cases q)
theorem rB_int0 {o : D → D → AH → Option D} {g : Int → Int → V} {gd : Int → Int → D} (hg : ∀ i j r, Rep r (g i j) (gd i j)) (ho : ∀ d e h z, o d e h = some z → ∃ i j, d = .int i ∧ e = .int j ∧ z = gd i j) :
    ∀ x y H Q, rB X.K o x y H Q → rI0 g x y H Q := by
  rintro x y H Q ⟨B, ι, h, d, e, z, R, r1, r2, hz, k⟩
  obtain ⟨i, j, rfl, rfl, rfl⟩ := ho _ _ _ _ hz
  cases r1; cases r2
  exact ⟨i, j, rfl, rfl, k H _ (Ext.refl R) (hg _ _ _)⟩
theorem oBit_ok {f : Int → Int → Int} (d e : D) (h : AH) (z : D) (q : oBit f d e h = some z) : ∃ i j, d = .int i ∧ e = .int j ∧ z = .int (f i j) := by
  unfold oBit at q
  split at q
  · cases q; exact ⟨_, _, rfl, rfl, rfl⟩
  · cases q
theorem oRel_ok {f : Int → Int → Bool} (d e : D) (h : AH) (z : D) (q : oRel f d e h = some z) : ∃ i j, d = .int i ∧ e = .int j ∧ z = .bl (f i j) := by
  unfold oRel at q
  split at q
  · cases q; exact ⟨_, _, rfl, rfl, rfl⟩
  · cases q
theorem bin_and : OpR X (binaryOp .BitAnd) (rB X.K (oBit PySem.Builtin.bitAnd)) := op_and.imp (rB_int0 (gd := fun i j => .int (PySem.Builtin.bitAnd i j)) (fun _ _ _ => .int _) oBit_ok)
theorem bin_or : OpR X (binaryOp .BitOr) (rB X.K (oBit PySem.Builtin.bitOr)) := op_or.imp (rB_int0 (gd := fun i j => .int (PySem.Builtin.bitOr i j)) (fun _ _ _ => .int _) oBit_ok)
theorem bin_xor : OpR X (binaryOp .BitXor) (rB X.K (oBit PySem.Builtin.bitXor)) := op_xor.imp (rB_int0 (gd := fun i j => .int (PySem.Builtin.bitXor i j)) (fun _ _ _ => .int _) oBit_ok)
abbrev oLt := oRel fun i j => decide (i < j)
abbrev oLe := oRel fun i j => decide (i ≤ j)
abbrev oGt := oRel fun i j => decide (j < i)
abbrev oGe := oRel fun i j => decide (j ≤ i)
theorem cmp_lt : OpR X (compareOp .Lt) (rB X.K oLt) := op_lt.imp (rB_int0 (gd := fun i j => .bl (decide (i < j))) (fun _ _ _ => .bl _) oRel_ok)
theorem cmp_le : OpR X (compareOp .LtE) (rB X.K oLe) := op_le.imp (rB_int0 (gd := fun i j => .bl (decide (i ≤ j))) (fun _ _ _ => .bl _) oRel_ok)
theorem cmp_gt : OpR X (compareOp .Gt) (rB X.K oGt) := op_gt.imp (rB_int0 (gd := fun i j => .bl (decide (j < i))) (fun _ _ _ => .bl _) oRel_ok)
theorem cmp_ge : OpR X (compareOp .GtE) (rB X.K oGe) := op_ge.imp (rB_int0 (gd := fun i j => .bl (decide (j ≤ i))) (fun _ _ _ => .bl _) oRel_ok)
theorem cmp_isN : OpR X (compareOp .Is) (rB X.K oIsN) := by
  refine op_isN.imp ?_
  rintro x y H Q ⟨B, ι, h, d, e, z, R, r1, r2, hz, k⟩
  unfold oIsN at hz
  split at hz
  · cases hz; cases r2
    refine ⟨rfl, k H _ (Ext.refl R) ?_⟩
    cases r1 <;> exact .bl _
  · cases hz
theorem cmp_notN : OpR X (compareOp .IsNot) (rB X.K oNotN) := by
  refine op_notN.imp ?_
  rintro x y H Q ⟨B, ι, h, d, e, z, R, r1, r2, hz, k⟩
  unfold oNotN at hz
  split at hz
  · cases hz; cases r2
    refine ⟨rfl, k H _ (Ext.refl R) ?_⟩
    cases r1 <;> exact .bl _
  · cases hz
theorem cmp_isB : OpR X (compareOp .Is) (rB X.K oIsB) := by
  refine op_is_bl.imp ?_
  rintro x y H Q ⟨B, ι, h, d, e, z, R, r1, r2, hz, k⟩
  unfold oIsB at hz
  split at hz
  · cases hz; cases r1; cases r2
    exact ⟨_, _, rfl, rfl, k H _ (Ext.refl R) (.bl _)⟩
  · cases hz
theorem frz_dp {K : PySem.W.Frag} {B : Addr → Prop} {ι : Nat → Addr} {h : AH} {H : Hp} (R : Rel K B ι h H) {n : Nat} {x : V} {d a : D} (q : Rep ⟨K, B, ι, h.length, H⟩ x d) (e : frz n h d = some a) : Rep ⟨K, fun _ => False, ι, 0, H⟩ x a :=
  frz_rep (r' := ⟨K, fun _ => False, ι, 0, H⟩) R rfl rfl (fun a _ => ⟨id, fun i hi => absurd hi (Nat.not_lt_zero i)⟩) n q e
theorem cmp_eq (hr : Room k X.A) : OpR X (compareOp .Eq) (rB X.K oEq) := by
  refine (op_eqD hr.units).imp ?_
  rintro x y H Q ⟨B, ι, h, d, e, z, R, r1, r2, hz, k⟩
  unfold oEq at hz
  split at hz
  · rename_i a b e1 e2
    split at hz
    · rename_i hc
      rw [Bool.and_eq_true] at hc
      cases hz
      obtain ⟨p1, s1⟩ := Rep.shaped hc.1 (frz_dp R r1 e1)
      obtain ⟨p2, s2⟩ := Rep.shaped hc.2 (frz_dp R r2 e2)
      refine ⟨_, _, p1, p2, s1, s2, ?_⟩
      rw [D.eqv_toP 60 60 a b hc.1 hc.2]
      exact k H _ (Ext.refl R) (.bl _)
    · cases hz
  · cases hz
theorem cmp_ne (hr : Room k X.A) : OpR X (compareOp .NotEq) (rB X.K oNe) := by
  refine (op_neD hr.units).imp ?_
  rintro x y H Q ⟨B, ι, h, d, e, z, R, r1, r2, hz, k⟩
  unfold oNe at hz
  split at hz
  · rename_i a b e1 e2
    split at hz
    · rename_i hc
      rw [Bool.and_eq_true] at hc
      cases hz
      obtain ⟨p1, s1⟩ := Rep.shaped hc.1 (frz_dp R r1 e1)
      obtain ⟨p2, s2⟩ := Rep.shaped hc.2 (frz_dp R r2 e2)
      refine ⟨_, _, p1, p2, s1, s2, ?_⟩
      rw [D.eqv_toP 60 60 a b hc.1 hc.2]
      exact k H _ (Ext.refl R) (.bl _)
    · cases hz
  · cases hz
/-! ### in, not in -/
def rInT (K : PySem.W.Frag) (neg : Bool) : R2 := fun x y H Q => ∃ d ds, Dp K H x d ∧ Dp K H y (.tuple ds) ∧ SeqAt.shaped d = true ∧ SeqAt.shaped (.tuple ds) = true ∧ Q (.bl (if neg then !(ds.any fun z => PyData.eqv z d) else ds.any fun z => PyData.eqv z d)) H
theorem room_in_t {A : Around} {d : PyData} {ds : List PyData} (hd : SeqAt.shaped d = true) (hu : A.units + 65 < cLine) : A.units + 1 + min (PyData.depthAll ds) d.depth < cLine := by
  have h1 := SeqAt.depth_of_shaped hd
  have h2 : min (PyData.depthAll ds) d.depth ≤ d.depth := Nat.min_le_right _ _
  omega
theorem op_inT (hu : X.A.units + 65 < cLine) : OpR X (compareOp .In) (rInT X.K false) := by
  intro pins s σ H x y v u Q I rx ry h
  obtain ⟨d, ds, hd, he, sd, se, q⟩ := h
  obtain ⟨as, r1⟩ := Dp.reads I d x v hd rx
  obtain ⟨bs, r2⟩ := Dp.reads I (.tuple ds) y u he ry
  exact SeqAt.in_tuple_reads r2 r1 (SeqAt.canLay_of_shaped se) (SeqAt.canLay_of_shaped sd) (room_in_t sd hu) ⟨.bl _, H, I, rfl, q⟩
theorem op_notInT (hu : X.A.units + 65 < cLine) : OpR X (compareOp .NotIn) (rInT X.K true) := by
  intro pins s σ H x y v u Q I rx ry h
  obtain ⟨d, ds, hd, he, sd, se, q⟩ := h
  obtain ⟨as, r1⟩ := Dp.reads I d x v hd rx
  obtain ⟨bs, r2⟩ := Dp.reads I (.tuple ds) y u he ry
  exact SeqAt.notIn_tuple_reads r2 r1 (SeqAt.canLay_of_shaped se) (SeqAt.canLay_of_shaped sd) (room_in_t sd hu) ⟨.bl _, H, I, rfl, q⟩
theorem any_eqv {a : D} (ha : a.dat 59 = true) : ∀ {bs : List D} (n : Nat), D.datL n bs = true → ((D.toPL bs).any fun z => PyData.eqv z a.toP) = bs.any fun z => z.eqv a
  | [], n, h => by simp only [D.toPL, List.any_nil]
  | b :: bs, 0, h => by simp [D.datL] at h
  | b :: bs, n + 1, h => by
    simp only [D.datL, Bool.and_eq_true] at h
    simp only [D.toPL, List.any_cons, D.eqv_toP n 59 b a h.1 ha, any_eqv ha (n + 1) h.2]
mutual
theorem D.dat_mono : ∀ (n m : Nat) (d : D), n ≤ m → D.dat n d = true → D.dat m d = true
  | n, m, .non, _, _ => by simp only [D.dat]
  | n, m, .bl _, _, _ => by simp only [D.dat]
  | n, m, .int _, _, _ => by simp only [D.dat]
  | n, m, .str _, _, _ => by simp only [D.dat]
  | n, m, .tup ds, h, q => by simp only [D.dat] at q ⊢; exact D.datL_mono n m ds h q
  | n, m, .lst ds, h, q => by simp only [D.dat] at q ⊢; exact D.datL_mono n m ds h q
  | n, m, .scr _, _, q => by simp [D.dat] at q
  | n, m, .dct _ _, _, q => by simp [D.dat] at q
  | n, m, .obj _ _ _, _, q => by simp [D.dat] at q
  | n, m, .loc _, _, q => by simp [D.dat] at q
  | n, m, .ty _, _, q => by simp [D.dat] at q
  | n, m, .cls _, _, q => by simp [D.dat] at q
theorem D.datL_mono : ∀ (n m : Nat) (d : List D), n ≤ m → D.datL n d = true → D.datL m d = true
  | 0, m, d, _, q => by simp [D.datL] at q
  | n + 1, 0, d, h, q => by omega
  | n + 1, m + 1, [], _, _ => by simp only [D.datL]
  | n + 1, m + 1, d :: ds, h, q => by
    simp only [D.datL, Bool.and_eq_true] at q ⊢
    exact ⟨D.dat_mono n m d (by omega) q.1, D.datL_mono (n + 1) (m + 1) ds h q.2⟩
end
/-- the three roads of in -/
theorem inD_ok {K : PySem.W.Frag} {B : Addr → Prop} {ι : Nat → Addr} {h : AH} {H : Hp} (R : Rel K B ι h H) {x y : V} {d e : D} {b : Bool} (r1 : Rep ⟨K, B, ι, h.length, H⟩ x d) (r2 : Rep ⟨K, B, ι, h.length, H⟩ y e) (hz : inD d e h = some b) :
    (∃ (c : Nat) (z : PySem.Str), x = .str ⟨#[c]⟩ ∧ y = .str z ∧ b = decide (c ∈ z.cps.toList)) ∨
    (∃ d' ds', Dp K H x d' ∧ Dp K H y (.list ds') ∧ SeqAt.shaped d' = true ∧ SeqAt.shaped (.list ds') = true ∧ b = ds'.any fun z => PyData.eqv z d') ∨
    (∃ d' ds', Dp K H x d' ∧ Dp K H y (.tuple ds') ∧ SeqAt.shaped d' = true ∧ SeqAt.shaped (.tuple ds') = true ∧ b = ds'.any fun z => PyData.eqv z d') := by
  unfold inD at hz
  split at hz
  · rename_i c s
    cases hz
    generalize ed : D.str [c] = d0 at r1
    cases r1 with
    | str z g =>
      injection ed with ed
      cases r2 with
      | str z2 g2 =>
        refine .inl ⟨c, z2, ?_, rfl, rfl⟩
        cases z with
        | mk cps =>
          have : cps = #[c] := by
            cases cps
            simp at ed
            simp [ed]
          rw [this]
    | _ => cases ed
  · split at hz
    · rename_i a bs e1 e2
      split at hz
      · rename_i hc
        rw [Bool.and_eq_true] at hc
        cases hz
        obtain ⟨p1, s1⟩ := Rep.shaped (D.dat_mono 59 60 a (by decide) hc.1) (frz_dp R r1 e1)
        have r2' : Rep ⟨K, fun _ => False, ι, 0, H⟩ y (.tup bs) := by
          cases r2 with
          | tup ea l => exact .tup ea (optL_rep _ (fun q z => frz_dp R q z) l e2)
        obtain ⟨p2, s2⟩ := Rep.shaped (d := .tup bs) (by simp only [D.dat]; exact hc.2) r2'
        refine .inr (.inr ⟨_, D.toPL bs, p1, by simpa only [D.toP] using p2, s1, by simpa only [D.toP] using s2, ?_⟩)
        exact (any_eqv hc.1 60 hc.2).symm
      · cases hz
    · cases hz
  · split at hz
    · rename_i a bs e1 e2
      split at hz
      · rename_i hc
        rw [Bool.and_eq_true] at hc
        cases hz
        obtain ⟨p1, s1⟩ := Rep.shaped (D.dat_mono 59 60 a (by decide) hc.1) (frz_dp R r1 e1)
        obtain ⟨p2, s2⟩ := Rep.shaped (d := .lst bs) (by simp only [D.dat]; exact hc.2) (frz_dp R r2 e2)
        refine .inr (.inl ⟨_, D.toPL bs, p1, by simpa only [D.toP] using p2, s1, by simpa only [D.toP] using s2, ?_⟩)
        exact (any_eqv hc.1 60 hc.2).symm
      · cases hz
    · cases hz
theorem cmp_in (hr : Room k X.A) : OpR X (compareOp .In) (rB X.K oIn) := by
  have hu : X.A.units + 65 < cLine := by have := hr.un; omega
  refine (op_in_sign.or ((op_inD hu).or (op_inT hu))).imp ?_
  rintro x y H Q ⟨B, ι, h, d, e, z, R, r1, r2, hz, k⟩
  obtain ⟨b, hb, rfl⟩ := Option.map_eq_some_iff.mp hz
  rcases inD_ok R r1 r2 hb with ⟨c, s, rfl, rfl, rfl⟩ | ⟨d', ds', h1, h2, h3, h4, rfl⟩ | ⟨d', ds', h1, h2, h3, h4, rfl⟩
  · exact .inl ⟨c, s, rfl, rfl, k H _ (Ext.refl R) (.bl _)⟩
  · exact .inr (.inl ⟨d', ds', h1, h2, h3, h4, k H _ (Ext.refl R) (.bl _)⟩)
  · exact .inr (.inr ⟨d', ds', h1, h2, h3, h4, k H _ (Ext.refl R) (.bl _)⟩)
theorem cmp_nin (hr : Room k X.A) : OpR X (compareOp .NotIn) (rB X.K oNin) := by
  have hu : X.A.units + 65 < cLine := by have := hr.un; omega
  refine (op_notIn_sign.or ((op_notInD hu).or (op_notInT hu))).imp ?_
  rintro x y H Q ⟨B, ι, h, d, e, z, R, r1, r2, hz, k⟩
  obtain ⟨b, hb, rfl⟩ := Option.map_eq_some_iff.mp hz
  rcases inD_ok R r1 r2 hb with ⟨c, s, rfl, rfl, rfl⟩ | ⟨d', ds', h1, h2, h3, h4, rfl⟩ | ⟨d', ds', h1, h2, h3, h4, rfl⟩
  · exact .inl ⟨c, s, rfl, rfl, k H _ (Ext.refl R) (.bl _)⟩
  · exact .inr (.inl ⟨d', ds', h1, h2, h3, h4, k H _ (Ext.refl R) (.bl _)⟩)
  · exact .inr (.inr ⟨d', ds', h1, h2, h3, h4, k H _ (Ext.refl R) (.bl _)⟩)

/-! ### subscripts -/
/-- dicts -/
def dLook (kvs : List (D × D)) (k : D) : Option D := (kvs.find? fun p => decide (p.1 = k)).map (·.2)
def dPut (kvs : List (D × D)) (k v : D) : List (D × D) := if kvs.any (fun p => decide (p.1 = k)) then kvs.map (fun p => if p.1 = k then (p.1, v) else p) else kvs ++ [(k, v)]
/-- a key: an int or a text; k: a tuple of these -/
def keyOk : Bool → D → Bool
  | false, .int _ => true
  | false, .str _ => true
  | true, .tup ds => ds.all fun d => match d with
    | .int _ => true
    | .str _ => true
    | _ => false
  | _, _ => false
def dcOf (h : AH) : D → Option (Bool × List (D × D))
  | .dct k kvs => some (k, kvs)
  | .loc i => match h[i]? with
    | some (.dct k kvs) => some (k, kvs)
    | some (.dlk k kvs) => some (k, kvs)
    | _ => none
  | _ => none
/-- d[k], where d is a dict: the key is one, what it holds -/
def dGet (d k : D) (h : AH) : Option (Option D) := match dcOf h d with
  | some (b, kvs) => if keyOk b k then some (dLook kvs k) else none
  | none => none
theorem kD_inj {a b : Key} (e : kD a = kD b) : a = b := by
  cases a with
  | inl i => cases b with
    | inl j => injection e with e; rw [e]
    | inr y => cases e
  | inr x => cases b with
    | inl j => cases e
    | inr y =>
      injection e with e
      cases x; cases y
      simp at e
      rw [e]
theorem mapkD_inj {a b : List Key} (e : a.map kD = b.map kD) : a = b := by
  induction a generalizing b with
  | nil => cases b with
    | nil => rfl
    | cons _ _ => simp at e
  | cons x xs ih => cases b with
    | nil => simp at e
    | cons y ys =>
      simp at e
      rw [kD_inj e.1, ih (by simpa using e.2)]
theorem RepK.look {r : RC} (k : Key) : ∀ {ps : List (Key × V)} {kvs : List (D × D)}, RepK r ps kvs → (dLook kvs (kD k) = none ∧ valV ps k = none) ∨ ∃ d v, dLook kvs (kD k) = some d ∧ valV ps k = some v ∧ Rep r v d
  | _, _, .nil => .inl ⟨rfl, rfl⟩
  | _, _, @RepK.cons _ k' v ps d kvs q l => by
    by_cases e : k' = k
    · subst e
      exact .inr ⟨d, v, by simp [dLook], by simp [valV], q⟩
    · have e' : ¬ kD k' = kD k := fun z => e (kD_inj z)
      have h1 : dLook ((kD k', d) :: kvs) (kD k) = dLook kvs (kD k) := by simp [dLook, e']
      have h2 : valV ((k', v) :: ps) k = valV ps k := by simp [valV, e]
      rw [h1, h2]
      exact RepK.look k l
theorem RepT.look {r : RC} (k : List Key) : ∀ {ps : List (List Key × V)} {kvs : List (D × D)}, RepT r ps kvs → (dLook kvs (.tup (k.map kD)) = none ∧ valV ps k = none) ∨ ∃ d v, dLook kvs (.tup (k.map kD)) = some d ∧ valV ps k = some v ∧ Rep r v d
  | _, _, .nil => .inl ⟨rfl, rfl⟩
  | _, _, @RepT.cons _ k' v ps d kvs q l => by
    by_cases e : k' = k
    · subst e
      exact .inr ⟨d, v, by simp [dLook], by simp [valV], q⟩
    · have e' : ¬ D.tup (k'.map kD) = D.tup (k.map kD) := fun z => e (by injection z with z; exact mapkD_inj z)
      have h1 : dLook ((.tup (k'.map kD), d) :: kvs) (.tup (k.map kD)) = dLook kvs (.tup (k.map kD)) := by simp [dLook, e']
      have h2 : valV ((k', v) :: ps) k = valV ps k := by simp [valV, e]
      rw [h1, h2]
      exact RepT.look k l
theorem key_rep {r : RC} {x : V} {d : D} (q : Rep r x d) (h : keyOk false d = true) : ∃ k : Key, x = kV k ∧ d = kD k := by
  cases q with
  | int i => exact ⟨.inl i, rfl, rfl⟩
  | str s g => exact ⟨.inr s, rfl, rfl⟩
  | _ => simp [keyOk] at h
theorem keys_rep {r : RC} : ∀ {vs : List V} {ds : List D}, RepL r vs ds → (ds.all fun d => match d with | .int _ => true | .str _ => true | _ => false) = true → ∃ ks : List Key, vs = ks.map kV ∧ ds = ks.map kD
  | _, _, .nil, _ => ⟨[], rfl, rfl⟩
  | _, _, .cons (d := d) q l, h => by
    simp only [List.all_cons, Bool.and_eq_true] at h
    have h1 : keyOk false d = true := by
      cases d <;> simp [keyOk] at h ⊢
    obtain ⟨k, e1, e2⟩ := key_rep q h1
    obtain ⟨ks, e3, e4⟩ := keys_rep l h.2
    exact ⟨k :: ks, by rw [List.map_cons, e1, e3], by rw [List.map_cons, e2, e4]⟩
theorem keyT_rep {r : RC} {x : V} {d : D} (q : Rep r x d) (h : keyOk true d = true) : ∃ (b : Addr) (k : List Key), x = .ref b ∧ r.H b = some (.tup (k.map kV)) ∧ d = .tup (k.map kD) := by
  cases q with
  | tup ea l =>
    obtain ⟨ks, e1, e2⟩ := keys_rep l (by simpa [keyOk] using h)
    subst e1 e2
    exact ⟨_, ks, rfl, ea, rfl⟩
  | _ => simp [keyOk] at h
theorem dGet_ok {K : PySem.W.Frag} {B : Addr → Prop} {ι : Nat → Addr} {h : AH} {H : Hp} (R : Rel K B ι h H) {x y : V} {d e : D} {o : Option D} (r1 : Rep ⟨K, B, ι, h.length, H⟩ x d) (r2 : Rep ⟨K, B, ι, h.length, H⟩ y e) (hz : dGet d e h = some o) :
    ∃ a ov, x = .ref a ∧ DGet H a y ov ∧ ((o = none ∧ ov = none) ∨ ∃ z v, o = some z ∧ ov = some v ∧ Rep ⟨K, B, ι, h.length, H⟩ v z) := by
  have key : ∃ a, x = .ref a ∧ ((∃ ps kvs, Rd H a (.dK ps) ∧ RepK ⟨K, B, ι, h.length, H⟩ ps kvs ∧ dcOf h d = some (false, kvs)) ∨ ∃ ps kvs, Rd H a (.dT ps) ∧ RepT ⟨K, B, ι, h.length, H⟩ ps kvs ∧ dcOf h d = some (true, kvs)) := by
    unfold dGet at hz
    cases r1 with
    | dk ea l f => exact ⟨_, rfl, .inl ⟨_, _, ea, l, rfl⟩⟩
    | dt ea l f => exact ⟨_, rfl, .inr ⟨_, _, ea, l, rfl⟩⟩
    | @loc i hi =>
      refine ⟨_, rfl, ?_⟩
      cases hc : h[i]? with
      | none => simp [dcOf, hc] at hz
      | some c =>
        have x := R.cell i c hc
        cases x with
        | lst ea l => simp [dcOf, hc] at hz
        | dk ea l => exact .inl ⟨_, _, .inl ea, l, by simp [dcOf, hc]⟩
        | dt ea l => exact .inr ⟨_, _, .inl ea, l, by simp [dcOf, hc]⟩
        | dkl ea l => exact .inl ⟨_, _, .inr ⟨_, ea⟩, l, by simp [dcOf, hc]⟩
        | dtl ea l => exact .inr ⟨_, _, .inr ⟨_, ea⟩, l, by simp [dcOf, hc]⟩
        | ins ea _ l => simp [dcOf, hc] at hz
    | _ => simp [dcOf] at hz
  obtain ⟨a, rfl, key⟩ := key
  unfold dGet at hz
  rcases key with ⟨ps, kvs, ea, l, e0⟩ | ⟨ps, kvs, ea, l, e0⟩
  · rw [e0] at hz
    simp only at hz
    split at hz
    · rename_i hk
      cases hz
      obtain ⟨k, rfl, rfl⟩ := key_rep r2 hk
      refine ⟨a, valV ps k, rfl, .inl ⟨ps, k, ea, rfl, rfl⟩, ?_⟩
      rcases RepK.look k l with ⟨q1, q2⟩ | ⟨z, v, q1, q2, q3⟩
      · exact .inl ⟨q1, q2⟩
      · exact .inr ⟨z, v, q1, q2, q3⟩
    · cases hz
  · rw [e0] at hz
    simp only at hz
    split at hz
    · rename_i hk
      cases hz
      obtain ⟨b, k, rfl, hb, rfl⟩ := keyT_rep r2 hk
      refine ⟨a, valV ps k, rfl, .inr ⟨ps, k, b, ea, rfl, hb, rfl⟩, ?_⟩
      rcases RepT.look k l with ⟨q1, q2⟩ | ⟨z, v, q1, q2, q3⟩
      · exact .inl ⟨q1, q2⟩
      · exact .inr ⟨z, v, q1, q2, q3⟩
    · cases hz
/-- x[i]: a list, a tuple, a text -/
def oIxS (x i : D) (h : AH) : Option D := match x, i with
  | .str s, .int k => if s.length ≤ sizeLine then (atI s k).map fun c => .str [c] else none
  | .tup ds, .int k => atI ds k
  | .scr ds, .int k => atI ds k
  | x, .int k => match lsOf h x with
    | some ds => atI ds k
    | none => none
  | _, _ => none
/-- d[k], there -/
def oIxD (x i : D) (h : AH) : Option D := (dGet x i h).join
def oIx (x i : D) (h : AH) : Option D := (oIxS x i h).or (oIxD x i h)
def oInK (x y : D) (h : AH) : Option D := (dGet y x h).map fun o => .bl o.isSome
def oNinK (x y : D) (h : AH) : Option D := (dGet y x h).map fun o => .bl (!o.isSome)
def oInA (x y : D) (h : AH) : Option D := (oIn x y h).or (oInK x y h)
def oNinA (x y : D) (h : AH) : Option D := (oNin x y h).or (oNinK x y h)
end
theorem _root_.MW.RepL.atI {r : RC} {vs : List V} {ds : List D} (l : RepL r vs ds) {k : Int} {d : D} (e : L2.atI ds k = some d) : ∃ v, L2.atI vs k = some v ∧ Rep r v d := by
  unfold L2.atI at *
  rw [l.length]
  cases hx : ixN ds.length k with
  | none => rw [hx] at e; cases e
  | some j =>
    rw [hx] at e
    obtain ⟨v, h1, h2⟩ := l.get (i := j) (d := d) (by simpa using e)
    exact ⟨v, by simpa using h1, h2⟩
theorem atI_mem {α : Type} {xs : List α} {k : Int} {d : α} (e : L2.atI xs k = some d) : d ∈ xs := by
  unfold L2.atI at e
  cases hx : ixN xs.length k with
  | none => rw [hx] at e; cases e
  | some j =>
    rw [hx] at e
    exact List.mem_of_getElem? (by simpa using e)
/-- either of two operators -/
theorem mBin_or {o1 o2 : D → D → AH → Option D} {ma mb : ME} (σ : SL) (h : AH) : mBin (fun x y h => (o1 x y h).or (o2 x y h)) ma mb σ h = match mBin o1 ma mb σ h with
    | .bad => mBin o2 ma mb σ h
    | r => r := by
  simp only [mBin]
  cases ma σ h with
  | ok x h1 =>
    simp only [R.bind]
    cases mb σ h1 with
    | ok y h2 =>
      simp only [R.bind]
      cases o1 x y h2 with
      | none => simp [lift]
      | some z => simp [lift]
    | exc c L d h2 => rfl
    | bad => rfl
  | exc c L d h1 => rfl
  | bad => rfl
section
variable {X : Cx} {W : WX} {pos : Pos} {a b : Expr} {ma mb : ME} {k : Nat}
theorem se_or {e : Expr} {o1 o2 : D → D → AH → Option D} (h1 : SE X W e (mBin o1 ma mb)) (h2 : SE X W e (mBin o2 ma mb)) : SE X W e (mBin (fun x y h => (o1 x y h).or (o2 x y h)) ma mb) := (PE.or h1 h2).imp fun σ H Q ⟨B, ι, h, σa, R, S, p⟩ => by
  rw [mBin_or] at p
  cases e1 : mBin o1 ma mb σa h with
  | ok z h' => rw [e1] at p; exact .inl ⟨B, ι, h, σa, R, S, by rw [e1]; exact p⟩
  | exc c L d h' => rw [e1] at p; exact .inl ⟨B, ι, h, σa, R, S, by rw [e1]; exact p⟩
  | bad => rw [e1] at p; exact .inr ⟨B, ι, h, σa, R, S, p⟩
theorem se_ixS (ha : SE X W a ma) (hb : SE X W b mb) (hs : PlainIx b := by intro _ _; rfl) : SE X W (.Subscript a b pos) (mBin oIxS ma mb) := (pe_ix (ix_seq (X := X)) ha hb hs).imp fun σ H Q q => by
  have q' := tB_of q
  obtain ⟨B, ι, h, σa, R, S, p⟩ := q'
  refine ⟨B, ι, h, σa, R, S, p.imp fun x H1 p1 => ?_⟩
  obtain ⟨B1, ι1, h1, σ1, R1, S1, p1⟩ := p1
  refine ⟨B1, ι1, h1, σ1, R1, S1, p1.imp fun y H2 p2 => ?_⟩
  obtain ⟨B2, ι2, h2, d, e, z, R2, r1, r2, hz, k⟩ := p2
  unfold oIxS at hz
  split at hz
  · split at hz
    · rename_i hl
      obtain ⟨c, hc, rfl⟩ := Option.map_eq_some_iff.mp hz
      cases r1; cases r2
      rename_i s g
      refine .inr (.inr ⟨_, _, c, rfl, rfl, by rw [Str.len]; exact hl, hc, k _ _ (Ext.refl R2) (Rep.str' rfl ?_)⟩)
      have hm := atI_mem hc
      unfold vS at *
      rw [← Array.all_toList] at g ⊢
      rw [List.all_eq_true] at g
      simpa using g c hm
    · cases hz
  · cases r2
    cases r1 with
    | tup ea l =>
      obtain ⟨v, hv, rv⟩ := l.atI hz
      exact .inr (.inl ⟨_, _, _, v, rfl, rfl, .inl (.inl ea), hv, k _ _ (Ext.refl R2) rv⟩)
  · cases r2
    cases r1 with
    | scr ea l =>
      obtain ⟨v, hv, rv⟩ := l.atI hz
      exact .inl ⟨_, _, _, v, rfl, rfl, ea.sql, hv, k _ _ (Ext.refl R2) rv⟩
  · cases r2
    split at hz
    · rename_i ds hl
      obtain ⟨p, vs, rfl, ea, l⟩ := lsOf_rep R2 r1 hl
      obtain ⟨v, hv, rv⟩ := l.atI hz
      exact .inl ⟨_, _, _, v, rfl, rfl, SqL.of ea, hv, k _ _ (Ext.refl R2) rv⟩
    · cases hz
  · cases hz
theorem se_ixD (hr : Room k X.A) (ha : SE X W a ma) (hb : SE X W b mb) (hs' : NoSl b := by intro _ _; rfl) : SE X W (.Subscript a b pos) (mBin oIxD ma mb) := (pe_dget (hu_of hr) ha hb hs').imp fun σ H Q q => by
  have q' := tB_of q
  obtain ⟨B, ι, h, σa, R, S, p⟩ := q'
  refine ⟨B, ι, h, σa, R, S, p.imp fun x H1 p1 => ?_⟩
  obtain ⟨B1, ι1, h1, σ1, R1, S1, p1⟩ := p1
  refine ⟨B1, ι1, h1, σ1, R1, S1, p1.imp fun y H2 p2 => ?_⟩
  obtain ⟨B2, ι2, h2, d, e, z, R2, r1, r2, hz, k⟩ := p2
  unfold oIxD at hz
  cases hg : dGet d e h2 with
  | none => rw [hg] at hz; cases hz
  | some o =>
    rw [hg] at hz
    obtain ⟨a, ov, rfl, g, ⟨rfl, rfl⟩ | ⟨z', v, rfl, rfl, rv⟩⟩ := dGet_ok R2 r1 r2 hg
    · cases hz
    · cases hz
      exact ⟨a, v, rfl, g, k _ _ (Ext.refl R2) rv⟩
theorem se_ix (hr : Room k X.A) (ha : SE X W a ma) (hb : SE X W b mb) (hs : PlainIx b := by intro _ _; rfl) (hs' : NoSl b := by intro _ _; rfl) : SE X W (.Subscript a b pos) (mBin oIx ma mb) := se_or (se_ixS ha hb hs) (se_ixD hr ha hb hs')
theorem se_inK (hr : Room k X.A) (ha : SE X W a ma) (hb : SE X W b mb) (hm : behindInMarks .In b = false := by rfl) : SE X W (.Compare a [.In] [b] pos) (mBin oInK ma mb) := (pe_cmp (pc_din (hu_of hr) ha hb) hm).imp fun σ H Q q => by
  have q' := tB_of q
  obtain ⟨B, ι, h, σa, R, S, p⟩ := q'
  refine ⟨B, ι, h, σa, R, S, p.imp fun x H1 p1 => ?_⟩
  obtain ⟨B1, ι1, h1, σ1, R1, S1, p1⟩ := p1
  refine ⟨B1, ι1, h1, σ1, R1, S1, p1.imp fun y H2 p2 => ?_⟩
  obtain ⟨B2, ι2, h2, d, e, z, R2, r1, r2, hz, k⟩ := p2
  obtain ⟨o, hg, rfl⟩ := Option.map_eq_some_iff.mp hz
  obtain ⟨a, ov, rfl, g, ⟨rfl, rfl⟩ | ⟨z', v, rfl, rfl, rv⟩⟩ := dGet_ok R2 r2 r1 hg
  · exact ⟨a, _, rfl, g, k _ _ (Ext.refl R2) (.bl _)⟩
  · exact ⟨a, _, rfl, g, k _ _ (Ext.refl R2) (.bl _)⟩
theorem se_ninK (hr : Room k X.A) (ha : SE X W a ma) (hb : SE X W b mb) (hm : behindInMarks .NotIn b = false := by rfl) : SE X W (.Compare a [.NotIn] [b] pos) (mBin oNinK ma mb) := (pe_cmp (pc_dnotin (hu_of hr) ha hb) hm).imp fun σ H Q q => by
  have q' := tB_of q
  obtain ⟨B, ι, h, σa, R, S, p⟩ := q'
  refine ⟨B, ι, h, σa, R, S, p.imp fun x H1 p1 => ?_⟩
  obtain ⟨B1, ι1, h1, σ1, R1, S1, p1⟩ := p1
  refine ⟨B1, ι1, h1, σ1, R1, S1, p1.imp fun y H2 p2 => ?_⟩
  obtain ⟨B2, ι2, h2, d, e, z, R2, r1, r2, hz, k⟩ := p2
  obtain ⟨o, hg, rfl⟩ := Option.map_eq_some_iff.mp hz
  obtain ⟨a, ov, rfl, g, ⟨rfl, rfl⟩ | ⟨z', v, rfl, rfl, rv⟩⟩ := dGet_ok R2 r2 r1 hg
  · exact ⟨a, _, rfl, g, k _ _ (Ext.refl R2) (.bl _)⟩
  · exact ⟨a, _, rfl, g, k _ _ (Ext.refl R2) (.bl _)⟩
theorem se_in (hr : Room k X.A) (ha : SE X W a ma) (hb : SE X W b mb) (hm : behindInMarks .In b = false := by rfl) : SE X W (.Compare a [.In] [b] pos) (mBin oInA ma mb) := se_or (se_cmp (cmp_in hr) ha hb hm) (se_inK hr ha hb hm)
theorem se_nin (hr : Room k X.A) (ha : SE X W a ma) (hb : SE X W b mb) (hm : behindInMarks .NotIn b = false := by rfl) : SE X W (.Compare a [.NotIn] [b] pos) (mBin oNinA ma mb) := se_or (se_cmp (cmp_nin hr) ha hb hm) (se_ninK hr ha hb hm)

/-! ### slices -/
def cut {α : Type} (xs : List α) (lo hi : Option Int) : List α := (xs.drop (HT.sIx xs.length 0 lo)).take (HT.sIx xs.length xs.length hi - HT.sIx xs.length 0 lo)
theorem RepL.cut {r : RC} {vs : List V} {ds : List D} (l : RepL r vs ds) (lo hi : Option Int) : RepL r (cutV vs lo hi) (MW.cut ds lo hi) := by
  unfold cutV MW.cut
  rw [l.length]
  exact (l.drop _).take _
theorem cutV_all {vs : List V} {lo hi : Option Int} (hw : HT.sIx vs.length 0 lo = 0 ∧ HT.sIx vs.length vs.length hi = vs.length) : cutV vs lo hi = vs := by
  unfold cutV
  rw [hw.1, hw.2]
  simp
def mPart : Option ME → SL → AH → R (Option Int)
  | none => fun _ h => .ok none h
  | some m => fun σ h => (m σ h).bind fun d h => match d with
    | .int i => .ok (some i) h
    | _ => .bad
abbrev SPo (X : Cx) (W : WX) (e : Option Expr) (m : Option ME) : Prop := PO X e (tG (fun _ a b => a = b) X.K W (mPart m))
theorem PO.imp {X : Cx} {e : Option Expr} {t t' : TO} (h : PO X e t) (i : ∀ σ H Q, t' σ H Q → t σ H Q) : PO X e t' := ⟨fun pins s σ H Q I q => h.run pins s σ H Q I (i σ H Q q)⟩
theorem spo_none : SPo X W none none := PO.imp po_none fun σ H Q ⟨B, ι, h, σa, R, S, p⟩ => p ι H none (Ext.refl R) rfl
theorem spo_some {e : Expr} {m : ME} (he : SE X W e m) : SPo X W (some e) (some m) := PO.imp (po_some he) fun σ H Q ⟨B, ι, h, σa, R, S, p⟩ => by
  refine ⟨B, ι, h, σa, R, S, (Post.bind (rel := Rep) p).imp ?_⟩
  rintro v H1 ⟨ι1, h1, d, _, x1, r1, p1⟩
  cases d with
  | int i => cases r1; exact ⟨i, rfl, p1 ι1 H1 (some i) (Ext.refl x1.rel) rfl⟩
  | _ => exact p1.elim
def oSl (x : D) (lo hi : Option Int) (h : AH) : Option D := match x with
  | .str s => if s.length ≤ sizeLine then some (.str (cut s lo hi)) else none
  | .tup ds => some (.tup (cut ds lo hi))
  | .scr ds => some (.lst (cut ds lo hi))
  | x => match lsOf h x with
    | some ds => some (.lst (cut ds lo hi))
    | none => none
def mSl (m : ME) (lo hi : Option ME) : ME := fun σ h => (m σ h).bind fun x h => (mPart lo σ h).bind fun l h => (mPart hi σ h).bind fun u h => lift (oSl x l u h) h
theorem se_sl {lo hi : Option Expr} {ml mu : Option ME} {p2} (ha : SE X W a ma) (hl : SPo X W lo ml) (hu : SPo X W hi mu) : SE X W (.Subscript a (.Slice lo hi none p2) pos) (mSl ma ml mu) :=
  (pe_slice (sl_list.or (sl_tupA.or sl_str)) ha hl hu).imp fun σ H Q ⟨B, ι, h, σa, R, S, p⟩ => by
    refine ⟨B, ι, h, σa, R, S, (Post.bind (rel := Rep) p).imp ?_⟩
    rintro x H1 ⟨ι1, h1, d, _, x1, r1, p1⟩
    refine ⟨B, ι1, h1, σa, x1.rel, S.up (x1.up R), (Post.bind (rel := fun _ a b => a = b) p1).imp ?_⟩
    rintro l H2 ⟨ι2, h2, l', _, x2, rfl, p2⟩
    refine ⟨B, ι2, h2, σa, x2.rel, S.up ((x1.trans x2).up R), (Post.bind (rel := fun _ a b => a = b) p2).imp ?_⟩
    rintro u H3 ⟨ι3, h3, u', _, x3, rfl, p3⟩
    obtain ⟨z, hz, k⟩ := p3.lift
    have r1 := (r1.mono x1.rel x2).mono x2.rel x3
    unfold oSl at hz
    split at hz
    · split at hz
      · rename_i hl
        cases hz; cases r1
        rename_i s g _
        refine .inr (.inr ⟨s, rfl, by rw [Str.len]; exact hl, k _ _ _ (Ext.refl x3.rel) (Rep.str' (by simp [cutS, cut, Str.len]) ?_)⟩)
        unfold vS at *
        rw [← Array.all_toList] at g ⊢
        rw [List.all_eq_true] at g ⊢
        intro c hc
        refine g c ?_
        simp only [cutS] at hc
        exact List.mem_of_mem_drop (List.mem_of_mem_take hc)
      · cases hz
    · cases hz
      cases r1 with
      | tup ea la =>
        refine .inr (.inl ⟨_, _, rfl, .inl (.inl ea), fun hw => ?_, fun hw p hp => ?_⟩)
        · refine k _ _ _ (Ext.refl x3.rel) (.tup ea ?_)
          have q := la.cut l u
          rw [cutV_all hw] at q
          exact q
        · exact k _ _ _ (Ext.fresh x3.rel hp _) (.tup upd_same ((la.cut l u).up (Up.fresh x3.rel hp _)))
    · cases hz
      cases r1 with
      | scr ea la =>
        exact .inl ⟨_, _, rfl, ea.sql, fun p hp => k _ _ _ (Ext.fresh x3.rel hp _) (.lst upd_same ((la.cut l u).up (Up.fresh x3.rel hp _)) (x3.rel.fz_new hp))⟩
    · split at hz
      · rename_i ds hl
        cases hz
        obtain ⟨p, vs, rfl, ea, la⟩ := lsOf_rep x3.rel r1 hl
        exact .inl ⟨_, _, rfl, SqL.of ea, fun p hp => k _ _ _ (Ext.fresh x3.rel hp _) (.lst upd_same ((la.cut l u).up (Up.fresh x3.rel hp _)) (x3.rel.fz_new hp))⟩
      · cases hz

/-! ### tests -/
theorem pt_or {e : Expr} {t t' : TT} (h : PT X e t) (h' : PT X e t') : PT X e (fun σ H Q => t σ H Q ∨ t' σ H Q) := ⟨fun pins s σ H Q I q => q.elim (h.run pins s σ H Q I) (h'.run pins s σ H Q I)⟩
def mTest (m : ME) : MT := fun σ h => (m σ h).bind fun d h => match d with
  | .bl b => .ok b h
  | _ => .bad
def mAndT (a b : MT) : MT := fun σ h => (a σ h).bind fun c h => if c = true then b σ h else .ok false h
def mOrT (a b : MT) : MT := fun σ h => (a σ h).bind fun c h => if c = true then .ok true h else b σ h
def mNotT (a : MT) : MT := fun σ h => (a σ h).bind fun c h => .ok (!c) h
def mAnd (a b : ME) : ME := fun σ h => (a σ h).bind fun d h => match d with
  | .bl true => b σ h
  | .bl false => .ok (.bl false) h
  | _ => .bad
def mOr (a b : ME) : ME := fun σ h => (a σ h).bind fun d h => match d with
  | .bl true => .ok (.bl true) h
  | .bl false => b σ h
  | _ => .bad
def mNot (a : ME) : ME := fun σ h => (a σ h).bind fun d h => match d with
  | .bl c => .ok (.bl (!c)) h
  | _ => .bad
def mIf (c : MT) (a b : ME) : ME := fun σ h => (c σ h).bind fun k h => if k = true then a σ h else b σ h
def mNeg (a : ME) : ME := fun σ h => (a σ h).bind fun d h => match d with
  | .int i => .ok (.int (-i)) h
  | _ => .bad
theorem tT_of {K : PySem.W.Frag} {m : ME} {σ : L2.St} {H : Hp} {Q : Bool → Hp → Prop} (q : tT K W (mTest m) σ H Q) : tE K W m σ H fun x H1 => ∃ c, x = .bl c ∧ Q c H1 := by
  obtain ⟨B, ι, h, σa, R, S, p⟩ := q
  refine ⟨B, ι, h, σa, R, S, (Post.bind (rel := Rep) p).imp ?_⟩
  rintro v H1 ⟨ι1, h1, d, _, x1, r1, p1⟩
  cases d with
  | bl c => cases r1; exact ⟨c, rfl, p1 ι1 H1 c (Ext.refl x1.rel) rfl⟩
  | _ => exact p1.elim
theorem st_val (h : SE X W a ma) (he : ∀ whole, isTrue a X.env whole = (do let v ← whole; standAt a.pos; holding [v] (truthy v)) := by intro _; rfl) : ST X W a (mTest ma) := (pt_val h he).imp fun _ _ _ => tT_of
theorem st_cmp {op : CmpOp} {o : D → D → AH → Option D} (ho : OpR X (compareOp op) (rB X.K o)) (ha : SE X W a ma) (hb : SE X W b mb) (hm : behindInMarks op b = false := by first | exact nomark _ | rfl) : ST X W (.Compare a [op] [b] pos) (mTest (mBin o ma mb)) :=
  (pt_cmpR ho ha hb hm).imp fun _ _ _ q => tB_of (tT_of q)
theorem st_or {e : Expr} {o1 o2 : D → D → AH → Option D} (h1 : ST X W e (mTest (mBin o1 ma mb))) (h2 : ST X W e (mTest (mBin o2 ma mb))) : ST X W e (mTest (mBin (fun x y h => (o1 x y h).or (o2 x y h)) ma mb)) := (pt_or h1 h2).imp fun σ H Q ⟨B, ι, h, σa, R, S, p⟩ => by
  unfold mTest at p
  rw [mBin_or] at p
  cases e1 : mBin o1 ma mb σa h with
  | ok z h' => rw [e1] at p; exact .inl ⟨B, ι, h, σa, R, S, by unfold mTest; rw [e1]; exact p⟩
  | exc c L d h' => rw [e1] at p; exact .inl ⟨B, ι, h, σa, R, S, by unfold mTest; rw [e1]; exact p⟩
  | bad => rw [e1] at p; exact .inr ⟨B, ι, h, σa, R, S, p⟩
theorem st_inK (hr : Room k X.A) (ha : SE X W a ma) (hb : SE X W b mb) (hm : behindInMarks .In b = false := by rfl) : ST X W (.Compare a [.In] [b] pos) (mTest (mBin oInK ma mb)) := (pt_cmp (pc_din (hu_of hr) ha hb) hm).imp fun σ H Q q => by
  obtain ⟨B, ι, h, σa, R, S, p⟩ := tB_of (tT_of q)
  refine ⟨B, ι, h, σa, R, S, p.imp fun x H1 p1 => ?_⟩
  obtain ⟨B1, ι1, h1, σ1, R1, S1, p1⟩ := p1
  refine ⟨B1, ι1, h1, σ1, R1, S1, p1.imp fun y H2 p2 => ?_⟩
  obtain ⟨B2, ι2, h2, d, e, z, R2, r1, r2, hz, k⟩ := p2
  obtain ⟨o, hg, rfl⟩ := Option.map_eq_some_iff.mp hz
  obtain ⟨a, ov, rfl, g, ⟨rfl, rfl⟩ | ⟨z', v, rfl, rfl, rv⟩⟩ := dGet_ok R2 r2 r1 hg
  · exact ⟨a, _, rfl, g, k _ _ (Ext.refl R2) (.bl _)⟩
  · exact ⟨a, _, rfl, g, k _ _ (Ext.refl R2) (.bl _)⟩
theorem st_ninK (hr : Room k X.A) (ha : SE X W a ma) (hb : SE X W b mb) (hm : behindInMarks .NotIn b = false := by rfl) : ST X W (.Compare a [.NotIn] [b] pos) (mTest (mBin oNinK ma mb)) := (pt_cmp (pc_dnotin (hu_of hr) ha hb) hm).imp fun σ H Q q => by
  obtain ⟨B, ι, h, σa, R, S, p⟩ := tB_of (tT_of q)
  refine ⟨B, ι, h, σa, R, S, p.imp fun x H1 p1 => ?_⟩
  obtain ⟨B1, ι1, h1, σ1, R1, S1, p1⟩ := p1
  refine ⟨B1, ι1, h1, σ1, R1, S1, p1.imp fun y H2 p2 => ?_⟩
  obtain ⟨B2, ι2, h2, d, e, z, R2, r1, r2, hz, k⟩ := p2
  obtain ⟨o, hg, rfl⟩ := Option.map_eq_some_iff.mp hz
  obtain ⟨a, ov, rfl, g, ⟨rfl, rfl⟩ | ⟨z', v, rfl, rfl, rv⟩⟩ := dGet_ok R2 r2 r1 hg
  · exact ⟨a, _, rfl, g, k _ _ (Ext.refl R2) (.bl _)⟩
  · exact ⟨a, _, rfl, g, k _ _ (Ext.refl R2) (.bl _)⟩
theorem st_in (hr : Room k X.A) (ha : SE X W a ma) (hb : SE X W b mb) (hm : behindInMarks .In b = false := by rfl) : ST X W (.Compare a [.In] [b] pos) (mTest (mBin oInA ma mb)) := st_or (st_cmp (cmp_in hr) ha hb hm) (st_inK hr ha hb hm)
theorem st_nin (hr : Room k X.A) (ha : SE X W a ma) (hb : SE X W b mb) (hm : behindInMarks .NotIn b = false := by rfl) : ST X W (.Compare a [.NotIn] [b] pos) (mTest (mBin oNinA ma mb)) := st_or (st_cmp (cmp_nin hr) ha hb hm) (st_ninK hr ha hb hm)
/-- a test whatever its whole is -/
abbrev SW (X : Cx) (W : WX) (e : Expr) (m : MT) : Prop := PW X e (tT X.K W m)
theorem pw_imp {e : Expr} {t t' : TT} (h : PW X e t) (i : ∀ σ H Q, t' σ H Q → t σ H Q) : PW X e t' := ⟨fun w pins s σ H Q I q => h.run w pins s σ H Q I (i σ H Q q)⟩
variable {ta tb : MT} {rest : List Expr}
theorem sw_and1 (ha : ST X W a ta) : SW X W (.BoolOp .And [a] pos) ta := pw_and1 ha
theorem sw_or1 (ha : ST X W a ta) : SW X W (.BoolOp .Or [a] pos) ta := pw_or1 ha
theorem sw_and (ha : ST X W a ta) (hb : SW X W (.BoolOp .And (b :: rest) pos) tb) : SW X W (.BoolOp .And (a :: b :: rest) pos) (mAndT ta tb) := pw_imp (pw_and ha hb) fun σ H Q ⟨B, ι, h, σa, R, S, p⟩ => by
  refine ⟨B, ι, h, σa, R, S, (Post.bind (rel := bEq) p).imp ?_⟩
  rintro v H1 ⟨ι1, h1, c, _, x1, rfl, p1⟩
  cases v with
  | true => exact (if_pos rfl).mpr ⟨B, ι1, h1, σa, x1.rel, S.up (x1.up R), p1⟩
  | false => exact (if_neg Bool.false_ne_true).mpr (p1 ι1 H1 false (Ext.refl x1.rel) rfl)
theorem sw_or (ha : ST X W a ta) (hb : SW X W (.BoolOp .Or (b :: rest) pos) tb) : SW X W (.BoolOp .Or (a :: b :: rest) pos) (mOrT ta tb) := pw_imp (pw_or ha hb) fun σ H Q ⟨B, ι, h, σa, R, S, p⟩ => by
  refine ⟨B, ι, h, σa, R, S, (Post.bind (rel := bEq) p).imp ?_⟩
  rintro v H1 ⟨ι1, h1, c, _, x1, rfl, p1⟩
  cases v with
  | true => exact (if_pos rfl).mpr (p1 ι1 H1 true (Ext.refl x1.rel) rfl)
  | false => exact (if_neg Bool.false_ne_true).mpr ⟨B, ι1, h1, σa, x1.rel, S.up (x1.up R), p1⟩
theorem st_w (h : SW X W a ta) : ST X W a ta := h.pt
theorem st_not (ha : ST X W a ta) : ST X W (.UnaryOp .Not a pos) (mNotT ta) := (pt_not ha).imp fun σ H Q ⟨B, ι, h, σa, R, S, p⟩ => by
  refine ⟨B, ι, h, σa, R, S, (Post.bind (rel := bEq) p).imp ?_⟩
  rintro v H1 ⟨ι1, h1, c, _, x1, rfl, p1⟩
  exact p1 ι1 H1 _ (Ext.refl x1.rel) rfl
theorem se_one {op} (ha : SE X W a ma) : SE X W (.BoolOp op [a] pos) ma := pe_one ha
theorem se_and (ha : SE X W a ma) (hb : SE X W (.BoolOp .And (b :: rest) pos) mb) : SE X W (.BoolOp .And (a :: b :: rest) pos) (mAnd ma mb) := (pe_and ha hb).imp fun σ H Q ⟨B, ι, h, σa, R, S, p⟩ => by
  refine ⟨B, ι, h, σa, R, S, (Post.bind (rel := Rep) p).imp ?_⟩
  rintro v H1 ⟨ι1, h1, d, _, x1, r1, p1⟩
  cases d with
  | bl c =>
    cases r1
    refine ⟨c, rfl, ?_⟩
    cases c with
    | true => exact (if_pos rfl).mpr ⟨B, ι1, h1, σa, x1.rel, S.up (x1.up R), p1⟩
    | false => exact (if_neg Bool.false_ne_true).mpr (p1 ι1 H1 _ (Ext.refl x1.rel) (.bl _))
  | _ => exact p1.elim
theorem se_orv (ha : SE X W a ma) (hb : SE X W (.BoolOp .Or (b :: rest) pos) mb) : SE X W (.BoolOp .Or (a :: b :: rest) pos) (mOr ma mb) := (pe_or ha hb).imp fun σ H Q ⟨B, ι, h, σa, R, S, p⟩ => by
  refine ⟨B, ι, h, σa, R, S, (Post.bind (rel := Rep) p).imp ?_⟩
  rintro v H1 ⟨ι1, h1, d, _, x1, r1, p1⟩
  cases d with
  | bl c =>
    cases r1
    refine ⟨c, rfl, ?_⟩
    cases c with
    | true => exact (if_pos rfl).mpr (p1 ι1 H1 _ (Ext.refl x1.rel) (.bl _))
    | false => exact (if_neg Bool.false_ne_true).mpr ⟨B, ι1, h1, σa, x1.rel, S.up (x1.up R), p1⟩
  | _ => exact p1.elim
theorem se_not (ha : SE X W a ma) : SE X W (.UnaryOp .Not a pos) (mNot ma) := (pe_not ha).imp fun σ H Q ⟨B, ι, h, σa, R, S, p⟩ => by
  refine ⟨B, ι, h, σa, R, S, (Post.bind (rel := Rep) p).imp ?_⟩
  rintro v H1 ⟨ι1, h1, d, _, x1, r1, p1⟩
  cases d with
  | bl c => cases r1; exact ⟨c, rfl, p1 ι1 H1 _ (Ext.refl x1.rel) (.bl _)⟩
  | _ => exact p1.elim
theorem se_neg (ha : SE X W a ma) : SE X W (.UnaryOp .USub a pos) (mNeg ma) := (pe_un un_neg ha).imp fun σ H Q ⟨B, ι, h, σa, R, S, p⟩ => by
  refine ⟨B, ι, h, σa, R, S, (Post.bind (rel := Rep) p).imp ?_⟩
  rintro v H1 ⟨ι1, h1, d, _, x1, r1, p1⟩
  cases d with
  | int i => cases r1; exact ⟨i, rfl, p1 ι1 H1 _ (Ext.refl x1.rel) (.int _)⟩
  | _ => exact p1.elim
theorem se_if {c : Expr} {tc : MT} (hc : ST X W c tc) (ha : SE X W a ma) (hb : SE X W b mb) : SE X W (.IfExp c a b pos) (mIf tc ma mb) := (pe_ifExp hc ha hb).imp fun σ H Q ⟨B, ι, h, σa, R, S, p⟩ => by
  refine ⟨B, ι, h, σa, R, S, (Post.bind (rel := bEq) p).imp ?_⟩
  rintro v H1 ⟨ι1, h1, c, _, x1, rfl, p1⟩
  cases v with
  | true => exact (if_pos rfl).mpr ⟨B, ι1, h1, σa, x1.rel, S.up (x1.up R), p1⟩
  | false => exact (if_neg Bool.false_ne_true).mpr ⟨B, ι1, h1, σa, x1.rel, S.up (x1.up R), p1⟩
end
end MW

set_option maxHeartbeats 2000000
/-! MW5: defs, their calls; instances. -/
namespace MW
open PySem PySem.Spec PyProof.Rows L2

/-- a def's answer, without a heap -/
inductive P (α : Type) where
  | ok (a : α) | exc (c : String) (L : List PySem.Str) (ds : List D) | bad
/-- a def: what it makes of its arguments and a heap -/
abbrev Fn := List D → AH → R D
/-- a body, run from the arguments in the first slots -/
def mFn (N : Nat) (body : MS) : Fn := fun ds h => match body (ds.map some ++ List.replicate (N - ds.length) none) h with
  | .nx _ h => .ok .non h
  | .rt d h => .ok d h
  | .exc c L es _ h => .exc c L es h
  | _ => .bad
/-- called upon what is pure: alone, its answer frozen -/
def pc (m : Fn) (ds : List D) : P D := match m ds [] with
  | .ok d h => match frz 8 h d with
    | some e => .ok e
    | none => .bad
  | .exc c L es h => match optL (frz 8 h) es with
    | some fs => .exc c L fs
    | none => .bad
  | .bad => .bad
mutual
/-- tuples of plain things -/
def D.flat : D → Bool
  | .non | .bl _ | .int _ | .str _ | .ty _ => true
  | .tup ds => D.flatL ds
  | _ => false
def D.flatL : List D → Bool
  | [] => true
  | d :: ds => D.flat d && D.flatL ds
end
@[reducible] def P.up (r : P D) (h : AH) : R D := match r with
  | .ok d => .ok d h
  | .exc c L ds => .exc c L ds h
  | .bad => .bad
@[reducible] def P.upF (r : P D) (h : AH) : R D := match r with
  | .ok d => if d.flat = true then .ok d h else .bad
  | .exc c L ds => if D.flatL ds = true then .exc c L ds h else .bad
  | .bad => .bad
/-- a call that leaves the caller's heap alone -/
def mP (m : Fn) (as : List ME) (dd : List D) : ME := fun σ h => (mArgs as σ h).bind fun ds h => if D.purL ds = true then (pc m (ds ++ dd)).up h else match optL (frz 8 h) ds with
  | some es => (pc m (es ++ dd)).upF h
  | none => .bad
/-- a call upon the caller's heap -/
def mG (m : Fn) (as : List ME) (dd : List D) : ME := fun σ h => (mArgs as σ h).bind fun ds h => m (ds ++ dd) h
/-- the promise -/
def spA (K : PySem.W.Frag) (m : Fn) (n : Nat) : Sp := fun vs H Q E => vs.length = n ∧ ∃ (B : Addr → Prop) (ι : Nat → Addr) (h : AH) (ds : List D), Rel K B ι h H ∧ RepL ⟨K, B, ι, h.length, H⟩ vs ds ∧
  Post Rep K B ι h.length H (fun cls d _ H => E cls d H) [] (m ds h) Q

section
variable {K : PySem.W.Frag} {B : Addr → Prop} {ι : Nat → Addr} {h : AH} {H : Hp} {W : WX}
theorem start_rep {r : RC} {vs : List V} {ds : List D} (l : RepL r vs ds) (N : List PySem.Str) : RepS r (L2.start N vs) (ds.map some ++ List.replicate (N.length - ds.length) none) := by
  unfold L2.start
  refine ⟨by simp [l.length], fun i d e => ?_⟩
  by_cases hi : i < ds.length
  · rw [List.getElem?_append_left (by simpa using hi), List.getElem?_map] at e
    obtain ⟨d', e1, e2⟩ := Option.map_eq_some_iff.mp e
    cases e2
    obtain ⟨v, h1, h2⟩ := l.get e1
    have hv : i < vs.length := by rw [l.length]; exact hi
    exact ⟨v, by rw [List.getElem?_append_left (by simpa using hv), List.getElem?_map, h1]; rfl, h2⟩
  · rw [List.getElem?_append_right (by simpa using hi)] at e
    have := List.getElem?_eq_some_iff.mp e
    obtain ⟨hl, e⟩ := this
    simp at e
/-- a def keeps the promise of its mirror -/
theorem fn_ok {P : Program} {w : World} {mg : PySem.Str → Option Value} {base : Heap} {x qual : PySem.Str} {params : Arguments} {body : List Stmt} {scope : Scope} {dvs : List V} {kws : List (PySem.Str × V)} {f : Addr} {fd : FuncData} {N ps : List PySem.Str} {k : Nat} {m : MS}
    (F : FunD K x qual params body scope dvs kws f fd) (S : FnScope N ps scope)
    (hb : ∀ (cdv : Value) (A : Around) (outer : List Env) (s : Shared) (H : Hp) (E : XK), Room k (A.deeper (envOfC qual scope s.heap.objs.size f cdv)) → Takes (cxOf (L2.CX P w) P w K mg base N qual scope f cdv A outer s H E) (fun cls d _ H => E cls d H) →
      PassesOwn (model P w) (A.deeper (envOfC qual scope s.heap.objs.size f cdv)) (envOfC qual scope s.heap.objs.size f cdv) (cxOf (L2.CX P w) P w K mg base N qual scope f cdv A outer s H E).xe →
      SSs (cxOf (L2.CX P w) P w K mg base N qual scope f cdv A outer s H E) (fun cls d _ H => E cls d H) body m) :
    FnOk P w K mg base (L2.CX P w) (k + 1) f fd ps (spA K (mFn N.length m) ps.length) := by
  refine F.ok S (fun vs H Q E q => q.1) (fun cdv A outer s H vs Q E hr q => ⟨_, hb cdv A outer s H E hr (takes_of rfl rfl rfl rfl) (passes_of rfl), ?_⟩)
  obtain ⟨_, B, ι, h, ds, R, l, p⟩ := q
  refine ⟨B, ι, h, _, R, start_rep l N, ?_⟩
  unfold mFn at p
  split at p
  · rename_i σ h' e
    rw [e]
    exact fun ι' H' σ' x _ => p ι' H' .non x .non
  · rename_i d h' e
    rw [e]
    exact p
  · rename_i c L es σ h' e
    rw [e]
    exact fun ι' H' σ' cls dd x _ q => p ι' H' cls dd x q
  · exact p.elim
theorem frzL_rep (R : Rel K B ι h H) {r' : RC} (hK : r'.K = K) (hH : r'.H = H) (hf : ∀ a, ¬ B a → r'.Fz a) (n : Nat) {vs : List V} {ds es : List D} (q : RepL ⟨K, B, ι, h.length, H⟩ vs ds) (e : optL (frz n h) ds = some es) : RepL r' vs es :=
  optL_rep r' (fun q z => frz_rep R hK hH hf n q z) q e
mutual
theorem Rep.flat' {r r' : RC} (hH : r'.H = r.H) : ∀ {v : V} {d : D}, Rep r v d → d.flat = true → Rep r' v d
  | _, _, .non, _ => .non
  | _, _, .bl b, _ => .bl b
  | _, _, .int i, _ => .int i
  | _, _, .str s g, _ => .str s g
  | _, _, .tup e l, p => .tup (by rw [hH]; exact e) (RepL.flat' hH l (by simpa [D.flat] using p))
  | _, _, .lst _ _ _, p => by simp [D.flat] at p
  | _, _, .scr _ _, p => by simp [D.flat] at p
  | _, _, .dk _ _ _, p => by simp [D.flat] at p
  | _, _, .dt _ _ _, p => by simp [D.flat] at p
  | _, _, .obj _ _ _ _, p => by simp [D.flat] at p
  | _, _, .loc _, p => by simp [D.flat] at p
  | _, _, .ty n, _ => .ty n
  | _, _, .cls c, p => by simp [D.flat] at p
theorem RepL.flat' {r r' : RC} (hH : r'.H = r.H) : ∀ {v : List V} {d : List D}, RepL r v d → D.flatL d = true → RepL r' v d
  | _, _, .nil, _ => .nil
  | _, _, .cons q l, p => by
    simp only [D.flatL, Bool.and_eq_true] at p
    exact .cons (Rep.flat' hH q p.1) (RepL.flat' hH l p.2)
end
theorem ExcR.to {r r' : RC} {c : String} {L : List PySem.Str} {ds es : List D} {cls : Value} {dd : Option Addr} (hK : r'.K = r.K) (hH : r'.H = r.H) (q : ExcR r c L ds cls dd) (hl : es.length = ds.length) (hd : ∀ vs, RepL r vs ds → RepL r' vs es) : ExcR r' c L es cls dd := by
  obtain ⟨h1, h2⟩ := q
  refine ⟨by rw [hK]; exact h1, ?_⟩
  rcases h2 with ⟨h3, h4, h5⟩ | ⟨d, vs, h3, h4, h5, h6⟩
  · exact .inl ⟨h3, by rw [h4] at hl; exact List.length_eq_zero_iff.mp hl, h5⟩
  · exact .inr ⟨d, vs, h3, by rw [hH]; exact h4, by rw [hl]; exact h5, hd vs h6⟩
/-- no cell of one's own is shown: the state goes on -/
theorem Ext.aside {B0 : Addr → Prop} {ι0 ι' : Nat → Addr} {h' : AH} {H' : Hp} (R : Rel K B ι h H) (x : Ext K B0 ι0 0 H ι' h' H') : Ext K B ι h.length H ι h H' := by
  have k : ∀ a o, H a = some o → H' a = some o := fun a o e => x.keep a o e fun i hi => absurd hi (Nat.not_lt_zero i)
  have u : Up ⟨K, B, ι, h.length, H⟩ ⟨K, B, ι, h.length, H'⟩ := ⟨rfl, fun a vs e => k _ _ e, fun a o vs e => k _ _ e, fun a u _ e => by
    rcases e with e | ⟨q, e⟩
    · exact .inl (k _ _ e)
    · exact .inr ⟨q, k _ _ e⟩, fun a o _ e => k _ _ e, fun _ _ _ f => f, fun _ q => q, fun _ _ => rfl⟩
  exact ⟨Nat.le_refl _, fun _ _ => rfl, fun a o q _ => k _ _ q, fun i h1 h2 => absurd h2 (Nat.not_lt.mpr h1), R.inj, fun i c e => (R.cell i c e).up u (k _), R.nb, fun a b => let ⟨o', q⟩ := R.bt a b; ⟨o', k _ _ q⟩⟩
end

section
variable {X : Cx} {W : WX} {k : Nat} {f : Addr} {fd : FuncData} {ps : List PySem.Str} {x : PySem.Str} {p pos : Pos} {e : Expr} {es : List Expr} {ms : List ME} {m : Fn} {dvs : List V} {dd : List D} {ds : List Value}
/-- the call's reading: upon the caller's heap -/
theorem g_of {n : Nat} {σ : L2.St} {H : Hp} {Q : VK} (hd : ∀ r, RepL r dvs dd) (hn : ms.length + dd.length = n) (q : tE X.K W (mG m ms dd) σ H Q) : tA X.K W (mArgs ms) σ H fun vs H1 => spA X.K m n (vs ++ dvs) H1 Q (WE W σ) := by
  obtain ⟨B, ι, h, σa, R, S, p⟩ := q
  refine ⟨B, ι, h, σa, R, S, (Post.bind (rel := RepL) p).imp ?_⟩
  rintro vs H1 ⟨ι1, h1, ds, e1, x1, r1, p1⟩
  refine ⟨?_, B, ι1, h1, ds ++ dd, x1.rel, r1.append (hd _), ?_⟩
  · rw [List.length_append, r1.length, (hd ⟨X.K, B, ι1, h1.length, H1⟩).length, mArgs_length e1, hn]
  · cases q : m (ds ++ dd) h1 with
    | ok d h2 => rw [q] at p1; exact p1
    | exc c L es h2 => rw [q] at p1; exact p1
    | bad => rw [q] at p1; exact p1
/-- .. without showing it -/
theorem p_of {n : Nat} {σ : L2.St} {H : Hp} {Q : VK} (hd : ∀ r, RepL r dvs dd) (hn : ms.length + dd.length = n) (q : tE X.K W (mP m ms dd) σ H Q) : tA X.K W (mArgs ms) σ H fun vs H1 => spA X.K m n (vs ++ dvs) H1 Q (WE W σ) := by
  obtain ⟨B, ι, h, σa, R, S, p⟩ := q
  refine ⟨B, ι, h, σa, R, S, (Post.bind (rel := RepL) p).imp ?_⟩
  rintro vs H1 ⟨ι1, h1, ds, e1, x1, r1, p1⟩
  have R1 := x1.rel
  have len : (vs ++ dvs).length = n := by rw [List.length_append, r1.length, (hd ⟨X.K, B, ι1, h1.length, H1⟩).length, mArgs_length e1, hn]
  split at p1
  · rename_i hp
    -- the caller's cells are another's
    let B0 : Addr → Prop := fun a => B a ∨ ∃ i, i < h1.length ∧ ι1 i = a
    have fz : ∀ (H2 : Hp) a, ¬ B0 a → RC.Fz ⟨X.K, B, ι1, h1.length, H2⟩ a := fun H2 a hb => ⟨fun b => hb (.inl b), fun i hi e => hb (.inr ⟨i, hi, e⟩)⟩
    have R0 : Rel X.K B0 ι1 [] H1 := Rel.rel0 _ _ _ fun a hb => by
      rcases hb with hb | ⟨i, hi, rfl⟩
      · exact R1.bt a hb
      · obtain ⟨o, q, _⟩ := R1.at hi
        exact ⟨o, q⟩
    have l0 : RepL ⟨X.K, B0, ι1, ([] : AH).length, H1⟩ vs ds := r1.pure (r := ⟨X.K, B, ι1, h1.length, H1⟩) ⟨X.K, B0, ι1, 0, H1⟩ rfl rfl (fun a f => ⟨fun b => by
      rcases b with b | ⟨i, hi, e⟩
      · exact f.1 b
      · exact f.2 i hi e, fun i hi => absurd hi (Nat.not_lt_zero i)⟩) hp
    refine ⟨len, B0, ι1, [], ds ++ dd, R0, l0.append (hd _), ?_⟩
    unfold pc at p1
    cases q : m (ds ++ dd) [] with
    | ok d h2 =>
      rw [q] at p1
      simp only at p1
      intro ι' H' v y rv
      cases hq : frz 8 h2 d with
      | none => rw [hq] at p1; exact p1.elim
      | some e =>
        rw [hq] at p1
        exact p1 ι1 H' v (Ext.aside R1 y) (frz_rep y.rel (r' := ⟨X.K, B, ι1, h1.length, H'⟩) rfl rfl (fz H') 8 rv hq)
    | exc c L es h2 =>
      rw [q] at p1
      simp only at p1
      intro ι' H' cls dd' y rv
      cases hq : optL (frz 8 h2) es with
      | none => rw [hq] at p1; exact p1.elim
      | some e =>
        rw [hq] at p1
        exact p1 ι1 H' cls dd' (Ext.aside R1 y) (ExcR.to (r := ⟨X.K, B0, ι', h2.length, H'⟩) (r' := ⟨X.K, B, ι1, h1.length, H'⟩) rfl rfl rv (optL_length hq) fun vs l => frzL_rep y.rel (r' := ⟨X.K, B, ι1, h1.length, H'⟩) rfl rfl (fz H') 8 l hq)
    | bad =>
      rw [q] at p1
      exact p1.elim
  · split at p1
    · rename_i es he
      let B0 : Addr → Prop := fun _ => False
      have R0 : Rel X.K B0 ι1 [] H1 := Rel.rel0 _ _ _ fun a hb => hb.elim
      have l0 : RepL ⟨X.K, B0, ι1, ([] : AH).length, H1⟩ vs es := frzL_rep R1 (r' := ⟨X.K, B0, ι1, 0, H1⟩) rfl rfl (fun a _ => ⟨id, fun i hi => absurd hi (Nat.not_lt_zero i)⟩) 8 r1 he
      refine ⟨len, B0, ι1, [], es ++ dd, R0, l0.append (hd _), ?_⟩
      unfold pc at p1
      cases q : m (es ++ dd) [] with
      | ok d h2 =>
        rw [q] at p1
        simp only at p1
        intro ι' H' v y rv
        cases hq : frz 8 h2 d with
        | none => rw [hq] at p1; exact p1.elim
        | some e =>
          rw [hq] at p1
          simp only [P.upF] at p1
          split at p1
          · rename_i hf
            have rf : Rep ⟨X.K, fun _ => False, ι', 0, H'⟩ v e := frz_dp y.rel rv hq
            exact p1 ι1 H' v (Ext.aside R1 y) (Rep.flat' (r := ⟨X.K, fun _ => False, ι', 0, H'⟩) (r' := ⟨X.K, B, ι1, h1.length, H'⟩) rfl rf hf)
          · exact p1.elim
      | exc c L fs h2 =>
        rw [q] at p1
        simp only at p1
        intro ι' H' cls dd' y rv
        cases hq : optL (frz 8 h2) fs with
        | none => rw [hq] at p1; exact p1.elim
        | some e =>
          rw [hq] at p1
          simp only [P.upF] at p1
          split at p1
          · rename_i hf
            refine p1 ι1 H' cls dd' (Ext.aside R1 y) (ExcR.to (r := ⟨X.K, B0, ι', h2.length, H'⟩) (r' := ⟨X.K, B, ι1, h1.length, H'⟩) rfl rfl rv (optL_length hq) fun vs l => ?_)
            exact RepL.flat' (r := ⟨X.K, fun _ => False, ι', 0, H'⟩) (r' := ⟨X.K, B, ι1, h1.length, H'⟩) rfl (frzL_rep y.rel (r' := ⟨X.K, fun _ => False, ι', 0, H'⟩) rfl rfl (fun a _ => ⟨id, fun i hi => absurd hi (Nat.not_lt_zero i)⟩) 8 l hq) hf
          · exact p1.elim
      | bad =>
        rw [q] at p1
        exact p1.elim
    · exact p1.elim
theorem se_g {n : Nat} (F : FnOk X.prog X.w X.K X.mg X.base (L2.CX X.prog X.w) k f fd ps (spA X.K m n)) (hr : Room k X.A) (tk : Takes X W) (hm : X.mg x = some (.ref f)) (hk : PySem.W.keepIn X.K (.ref f) = true) (hb : Binds X.K fd ps ds) (hd : Vals dvs ds) (hD : ∀ r, RepL r dvs dd)
    (ha : SA X W (e :: es) (mArgs ms)) (hg : Gl X x := by rfl) (hn : ms.length + dd.length = n := by rfl) (hdb : (x == ("__debug__" : PySem.Str)) = false := by decide) (he : starEach (e :: es) X.env = (false, eval e X.env) :: starEach es X.env := by rfl) (hpl : (backTo pos (starEach es X.env)).any (·.1) = false := by rfl) :
    SE X W (.Call (.Name x p) (e :: es) [] pos) (mG m ms dd) :=
  (pe_callSD (E := WE W) F hr hg hm hk hb hd (fun σ => passAt tk σ) ha hdb he hpl).imp fun σ H Q q => g_of hD hn q
theorem se_p {n : Nat} (F : FnOk X.prog X.w X.K X.mg X.base (L2.CX X.prog X.w) k f fd ps (spA X.K m n)) (hr : Room k X.A) (tk : Takes X W) (hm : X.mg x = some (.ref f)) (hk : PySem.W.keepIn X.K (.ref f) = true) (hb : Binds X.K fd ps ds) (hd : Vals dvs ds) (hD : ∀ r, RepL r dvs dd)
    (ha : SA X W (e :: es) (mArgs ms)) (hg : Gl X x := by rfl) (hn : ms.length + dd.length = n := by rfl) (hdb : (x == ("__debug__" : PySem.Str)) = false := by decide) (he : starEach (e :: es) X.env = (false, eval e X.env) :: starEach es X.env := by rfl) (hpl : (backTo pos (starEach es X.env)).any (·.1) = false := by rfl) :
    SE X W (.Call (.Name x p) (e :: es) [] pos) (mP m ms dd) :=
  (pe_callSD (E := WE W) F hr hg hm hk hb hd (fun σ => passAt tk σ) ha hdb he hpl).imp fun σ H Q q => p_of hD hn q
end
end MW

set_option maxHeartbeats 2000000
/-! MW6: statements, loops. -/
namespace MW
open PySem PySem.Spec PyProof.Rows L2

/-! ### blocks -/
def mSkip : MS := fun σ h => .nx σ h
def mSeq (a b : MS) : MS := fun σ h => match a σ h with
  | .nx σ h => b σ h
  | r => r
def mBrk : MS := fun σ h => .bk σ h
def mCnt : MS := fun σ h => .ct σ h
/-- what an expression's value is used for -/
@[reducible] def R.use {α : Type} (r : R α) (σ : SL) (k : α → AH → RS) : RS := match r with
  | .ok a h => k a h
  | .exc c L ds h => .exc c L ds σ h
  | .bad => .bad
def mExpr (e : ME) : MS := fun σ h => (e σ h).use σ fun _ h => .nx σ h
def mRet (e : ME) : MS := fun σ h => (e σ h).use σ fun d h => .rt d h
def mRetN : MS := fun _ h => .rt .non h
def mIfS (c : MT) (a b : MS) : MS := fun σ h => (c σ h).use σ fun k h => if k = true then a σ h else b σ h
section
variable {α β : Type} {K : PySem.W.Frag} {B : Addr → Prop} {ι : Nat → Addr} {n : Nat} {H : Hp} {W : WX} {σ : L2.St} {σa : SL}
theorem PostS.use {rel : RC → β → α → Prop} {r : R α} {k : α → AH → RS} {D : Ends} (hS : ∀ (ι' : Nat → Addr) (h' : AH) (H' : Hp), Ext K B ι n H ι' h' H' → RepS ⟨K, B, ι', h'.length, H'⟩ σ σa) (p : PostS K B ι n H W (r.use σa k) D) :
    Post rel K B ι n H W σ r (fun v H1 => ∃ (ι1 : Nat → Addr) (h1 : AH) (a : α), r = .ok a h1 ∧ Ext K B ι n H ι1 h1 H1 ∧ rel ⟨K, B, ι1, h1.length, H1⟩ v a ∧ PostS K B ι1 h1.length H1 W (k a h1) D) := by
  cases r with
  | ok a h' => exact fun ι' H' v y q => ⟨ι', h', a, rfl, y, q, PostS.rebase y p⟩
  | exc c L ds h' => exact fun ι' H' cls dd y q => p ι' H' σ cls dd y (hS _ _ _ y) q
  | bad => exact p
end
section
variable {X : Cx} {W : WX} {pos : Pos} {st : Stmt} {sts : List Stmt} {e : Expr} {me : ME} {ma mb : MS}
theorem sss_nil : SSs X W [] mSkip := pss_nil.imp fun D σ H ⟨B, ι, h, σa, R, S, p⟩ => p ι H σ (Ext.refl R) S
theorem sss_cons (h1 : SS X W st ma) (h2 : SSs X W sts mb) : SSs X W (st :: sts) (mSeq ma mb) := (pss_cons h1 h2).imp fun D σ H ⟨B, ι, h, σa, R, S, p⟩ => by
  refine ⟨B, ι, h, σa, R, S, ?_⟩
  unfold mSeq at p
  cases e : ma σa h with
  | nx σ1 h1 => rw [e] at p; exact fun ι' H' σ' x s => ⟨B, ι', h1, σ1, x.rel, s, PostS.rebase x p⟩
  | rt d h1 => rw [e] at p; exact p
  | bk σ1 h1 => rw [e] at p; exact p
  | ct σ1 h1 => rw [e] at p; exact p
  | exc c L ds σ1 h1 => rw [e] at p; exact p
  | bad => rw [e] at p; exact p
theorem sss_one (h1 : SS X W st ma) : SSs X W [st] ma := pss_one h1
theorem ss_pass : SS X W (.Pass pos) mSkip := ps_pass.imp fun D σ H ⟨B, ι, h, σa, R, S, p⟩ => p ι H σ (Ext.refl R) S
theorem ss_break : SS X W (.Break pos) mBrk := ps_break.imp fun D σ H ⟨B, ι, h, σa, R, S, p⟩ => p ι H σ (Ext.refl R) S
theorem ss_continue : SS X W (.Continue pos) mCnt := ps_continue.imp fun D σ H ⟨B, ι, h, σa, R, S, p⟩ => p ι H σ (Ext.refl R) S
/-- slots stand beside any growth -/
theorem keepS {K : PySem.W.Frag} {B : Addr → Prop} {ι : Nat → Addr} {h : AH} {H : Hp} {σ : L2.St} {σa : SL} (R : Rel K B ι h H) (S : RepS ⟨K, B, ι, h.length, H⟩ σ σa) (ι' : Nat → Addr) (h' : AH) (H' : Hp) (x : Ext K B ι h.length H ι' h' H') : RepS ⟨K, B, ι', h'.length, H'⟩ σ σa := S.up (x.up R)
theorem ss_expr (he : SE X W e me) (hs : swapsWith e none pos.line X.env = pure false := by rfl) : SS X W (.Expr e pos) (mExpr me) := (ps_expr he hs).imp fun D σ H ⟨B, ι, h, σa, R, S, p⟩ => by
  refine ⟨B, ι, h, σa, R, S, (PostS.use (rel := Rep) (keepS R S) p).imp ?_⟩
  rintro v H1 ⟨ι1, h1, d, _, x1, r1, p1⟩
  exact p1 ι1 H1 σ (Ext.refl x1.rel) (S.up (x1.up R))
theorem ss_ret (he : SE X W e me) : SS X W (.Return (some e) pos) (mRet me) := (ps_ret he).imp fun D σ H ⟨B, ι, h, σa, R, S, p⟩ => by
  refine ⟨B, ι, h, σa, R, S, (PostS.use (rel := Rep) (keepS R S) p).imp ?_⟩
  rintro v H1 ⟨ι1, h1, d, _, x1, r1, p1⟩
  exact p1 ι1 H1 v (Ext.refl x1.rel) r1
theorem ss_retN : SS X W (.Return none pos) mRetN := ps_retN.imp fun D σ H ⟨B, ι, h, σa, R, S, p⟩ => p ι H .non (Ext.refl R) .non
theorem ss_if {c : Expr} {a b : List Stmt} {mc : MT} (hc : ST X W c mc) (ha : SSs X W a ma) (hb : SSs X W b mb) : SS X W (.If c a b pos) (mIfS mc ma mb) := (ps_if hc ha hb).imp fun D σ H ⟨B, ι, h, σa, R, S, p⟩ => by
  refine ⟨B, ι, h, σa, R, S, (PostS.use (rel := bEq) (keepS R S) p).imp ?_⟩
  rintro v H1 ⟨ι1, h1, c, _, x1, rfl, p1⟩
  cases v with
  | true => exact (if_pos rfl).mpr ⟨B, ι1, h1, σa, x1.rel, S.up (x1.up R), p1⟩
  | false => exact (if_neg Bool.false_ne_true).mpr ⟨B, ι1, h1, σa, x1.rel, S.up (x1.up R), p1⟩
end

/-! ### targets -/
abbrev MG := D → SL → AH → Option SL
def gN (i : Nat) : MG := fun d σ _ => some (σ.set i (some d))
def gAll : List MG → List D → SL → AH → Option SL
  | [], [], σ, _ => some σ
  | g :: gs, d :: ds, σ, h => (g d σ h).bind fun σ => gAll gs ds σ h
  | _, _, _, _ => none
/-- a, b = a tuple; a list -/
def gT (gs : List MG) : MG := fun d σ h => match d with
  | .tup ds => gAll gs ds σ h
  | d => match lsOf h d with
    | some ds => gAll gs ds σ h
    | none => none
def tGt (K : PySem.W.Frag) (g : MG) : TG := fun v σ H Q => ∃ (B : Addr → Prop) (ι : Nat → Addr) (h : AH) (σa σ' : SL) (d : D), Rel K B ι h H ∧ RepS ⟨K, B, ι, h.length, H⟩ σ σa ∧ Rep ⟨K, B, ι, h.length, H⟩ v d ∧ g d σa h = some σ' ∧
  ∀ σ2, RepS ⟨K, B, ι, h.length, H⟩ σ2 σ' → Q σ2 H
def tGs (K : PySem.W.Frag) (gs : List MG) : TGs := fun vs σ H Q => ∃ (B : Addr → Prop) (ι : Nat → Addr) (h : AH) (σa σ' : SL) (ds : List D), Rel K B ι h H ∧ RepS ⟨K, B, ι, h.length, H⟩ σ σa ∧ RepL ⟨K, B, ι, h.length, H⟩ vs ds ∧ gAll gs ds σa h = some σ' ∧
  ∀ σ2, RepS ⟨K, B, ι, h.length, H⟩ σ2 σ' → Q σ2 H
abbrev SG (X : Cx) (e : Expr) (g : MG) : Prop := PG X e (tGt X.K g)
abbrev SGs (X : Cx) (es : List Expr) (gs : List MG) : Prop := PGs X es (tGs X.K gs)
section
variable {X : Cx} {pos : Pos} {e : Expr} {es : List Expr} {g : MG} {gs : List MG}
theorem pg_imp {t t' : TG} (h : PG X e t) (i : ∀ v σ H Q, t' v σ H Q → t v σ H Q) : PG X e t' := ⟨fun pins s σ H v u Q I r q => h.run pins s σ H v u Q I r (i v σ H Q q)⟩
theorem pg_or {t t' : TG} (h : PG X e t) (h' : PG X e t') : PG X e (fun v σ H Q => t v σ H Q ∨ t' v σ H Q) := ⟨fun pins s σ H v u Q I r q => q.elim (h.run pins s σ H v u Q I r) (h'.run pins s σ H v u Q I r)⟩
theorem pgs_imp {t t' : TGs} (h : PGs X es t) (i : ∀ v σ H Q, t' v σ H Q → t v σ H Q) : PGs X es t' := ⟨fun pins s σ H v u Q I r q => h.run pins s σ H v u Q I r (i v σ H Q q)⟩
theorem sg_name (i : Nat) {x : PySem.Str} (hN : X.N.Nodup) (hi : X.N[i]? = some x := by rfl) (hx : Loc X.env.scope x := by first | exact .inl rfl | exact .inr rfl) (hf : X.fn x = true ∨ X.env.scope.names.lookup x = some .local := by first | exact .inl rfl | exact .inr rfl | assumption) : SG X (.Name x pos) (gN i) :=
  pg_imp (pg_name hN hi hx hf) fun v σ H Q ⟨B, ι, h, σa, σ', d, R, S, r, q, k⟩ => by
    cases q
    exact k _ (S.set r i)
theorem sgs_nil : SGs X [] [] := pgs_imp pgs_nil fun vs σ H Q ⟨B, ι, h, σa, σ', ds, R, S, r, q, k⟩ => by
  cases ds with
  | nil => cases r; cases q; exact ⟨rfl, k _ S⟩
  | cons _ _ => simp [gAll] at q
theorem sgs_cons (h1 : SG X e g) (h2 : SGs X es gs) (hs : (assignEach (e :: es) X.env).map (·.2) = assign e X.env :: (assignEach es X.env).map (·.2) := by rfl) : SGs X (e :: es) (g :: gs) := pgs_imp (pgs_cons h1 h2 hs) fun vs σ H Q ⟨B, ι, h, σa, σ', ds, R, S, r, q, k⟩ => by
  cases r with
  | nil => simp [gAll] at q
  | cons r l =>
    simp only [gAll] at q
    obtain ⟨σ1, q1, q2⟩ := Option.bind_eq_some_iff.mp q
    exact ⟨_, _, rfl, B, ι, h, σa, σ1, _, R, S, r, q1, fun σ2 S2 => ⟨B, ι, h, σ1, σ', _, R, S2, l, q2, k⟩⟩
theorem gAll_length : ∀ {gs : List MG} {ds : List D} {σ σ' : SL} {h : AH}, gAll gs ds σ h = some σ' → ds.length = gs.length
  | [], [], _, _, _, _ => rfl
  | [], _ :: _, _, _, _, e => by simp [gAll] at e
  | _ :: _, [], _, _, _, e => by simp [gAll] at e
  | g :: gs, d :: ds, σ, σ', h, e => by
    simp only [gAll] at e
    obtain ⟨σ1, q1, q2⟩ := Option.bind_eq_some_iff.mp e
    simp [gAll_length q2]
theorem sg_tup {k : Nat} (hc : X.calm = true) (hg : SGs X es gs) (hn : (assignEach es X.env).length = gs.length := by rfl) (hst : (assignEach es X.env).findIdx? (·.1) = none := by rfl) : SG X (.Tuple es k pos) (gT gs) :=
  pg_imp (pg_or (pg_tup (n := gs.length) hc hg hn hst) (pg_lst (n := gs.length) hc hg hn hst)) fun v σ H Q ⟨B, ι, h, σa, σ', d, R, S, r, q, k⟩ => by
    unfold gT at q
    split at q
    · cases r with
      | tup ea l => exact .inl ⟨_, _, rfl, .inl (.inl ea), by rw [l.length, gAll_length q], B, ι, h, σa, σ', _, R, S, l, q, k⟩
    · split at q
      · rename_i ds hl
        obtain ⟨p, vs, rfl, ea, l⟩ := lsOf_rep R r hl
        exact .inr ⟨_, _, rfl, SqL.of ea, by rw [l.length, gAll_length q], B, ι, h, σa, σ', _, R, S, l, q, k⟩
      · cases q
end
/-- target = e -/
def mAsg (g : MG) (e : ME) : MS := fun σ h => (e σ h).use σ fun d h => match g d σ h with
  | some σ' => .nx σ' h
  | none => .bad
/-- o[i] = e -/
def putD (x y v : D) (h : AH) : Option AH := match x with
  | .loc n => match h[n]? with
    | some (.lst ds) => match y with
      | .int k => (ixN ds.length k).map fun j => h.set n (.lst (ds.set j v))
      | _ => none
    | some (.dct b kvs) => if keyOk b y = true ∧ kvs.length < sizeLine then some (h.set n (.dct b (dPut kvs y v))) else none
    | _ => none
  | _ => none
def mPut (o i e : ME) : MS := fun σ h => (e σ h).use σ fun v h => (o σ h).use σ fun x h => (i σ h).use σ fun y h => match putD x y v h with
  | some h' => .nx σ h'
  | none => .bad
section
variable {X : Cx} {W : WX} {pos : Pos} {e tg o i : Expr} {me mo mi : ME} {g : MG} {k : Nat}
theorem ss_asg (he : SE X W e me) (hg : SG X tg g) (hs : swapsWithSole [tg] e pos.line X.env = pure false := by rfl) (hw : swappedStores [tg] e X.env = pure none := by rfl)
    (h1 : (assignEach [tg] X.env).map (·.2) = [assign tg X.env] := by rfl) : SS X W (.Assign [tg] e pos) (mAsg g me) := (ps_asg he hg hs hw h1).imp fun D σ H ⟨B, ι, h, σa, R, S, p⟩ => by
  refine ⟨B, ι, h, σa, R, S, (PostS.use (rel := Rep) (keepS R S) p).imp ?_⟩
  rintro v H1 ⟨ι1, h1, d, _, x1, r1, p1⟩
  split at p1
  · rename_i σ' hq
    exact ⟨B, ι1, h1, σa, σ', d, x1.rel, S.up (x1.up R), r1, hq, fun σ2 S2 => p1 ι1 H1 σ2 (Ext.refl x1.rel) S2⟩
  · exact p1.elim
theorem ss_set (j : Nat) {x : PySem.Str} {pos' : Pos} (hN : X.N.Nodup) (he : SE X W e me) (hi : X.N[j]? = some x := by rfl) (hx : Loc X.env.scope x := by first | exact .inl rfl | exact .inr rfl) (hs : swapsWith e (some (.Name x pos')) pos.line X.env = pure false := by rfl)
    (hf : X.fn x = true ∨ X.env.scope.names.lookup x = some .local := by first | exact .inl rfl | exact .inr rfl | assumption) : SS X W (.Assign [.Name x pos'] e pos) (mAsg (gN j) me) := (ps_set hN hi hx he hs hf).imp fun D σ H ⟨B, ι, h, σa, R, S, p⟩ => by
  refine ⟨B, ι, h, σa, R, S, (PostS.use (rel := Rep) (keepS R S) p).imp ?_⟩
  rintro v H1 ⟨ι1, h1, d, _, x1, r1, p1⟩
  exact p1 ι1 H1 _ (Ext.refl x1.rel) ((S.up (x1.up R)).set r1 j)
/-- two rules for a store -/
theorem PSet.or {t t' : TSet} (h : PSet X t) (h' : PSet X t') : PSet X (fun o i v H Q => t o i v H Q ∨ t' o i v H Q) := fun pins s σ H o i v ov iv u Q I a b c q => q.elim (h pins s σ H o i v ov iv u Q I a b c) (h' pins s σ H o i v ov iv u Q I a b c)
theorem RepK.put {r : RC} (k : Key) {v : V} {d : D} (q : Rep r v d) : ∀ {ps : List (Key × V)} {kvs : List (D × D)}, RepK r ps kvs → RepK r (putK ps k v) (dPut kvs (kD k) d) := by
  intro ps kvs l
  have any : ∀ {ps : List (Key × V)} {kvs : List (D × D)}, RepK r ps kvs → (kvs.any fun p => decide (p.1 = kD k)) = ps.any fun p => decide (p.1 = k) := by
    intro ps kvs l
    induction ps generalizing kvs with
    | nil => cases l; rfl
    | cons a ps ih =>
      cases l with
      | cons q l =>
        rename_i k' v' d' kvs
        simp only [List.any_cons, ih l]
        congr 1
        by_cases e : k' = k
        · subst e; simp
        · have e' : ¬ kD k' = kD k := fun z => e (kD_inj z)
          simp [e, e']
  have mp : ∀ {ps : List (Key × V)} {kvs : List (D × D)}, RepK r ps kvs → RepK r (ps.map fun p => if p.1 = k then (p.1, v) else p) (kvs.map fun p => if p.1 = kD k then (p.1, d) else p) := by
    intro ps kvs l
    induction ps generalizing kvs with
    | nil => cases l; exact .nil
    | cons a ps ih =>
      cases l with
      | cons q' l =>
        rename_i k' v' d' kvs
        simp only [List.map_cons]
        by_cases e : k' = k
        · subst e
          rw [if_pos rfl, if_pos rfl]
          exact .cons q (ih l)
        · have e' : ¬ kD k' = kD k := fun z => e (kD_inj z)
          rw [if_neg e, if_neg e']
          exact .cons q' (ih l)
  have app : ∀ {ps : List (Key × V)} {kvs : List (D × D)}, RepK r ps kvs → RepK r (ps ++ [(k, v)]) (kvs ++ [(kD k, d)]) := by
    intro ps kvs l
    induction ps generalizing kvs with
    | nil => cases l; exact .cons q .nil
    | cons a ps ih => cases l with
      | cons q' l => exact .cons q' (ih l)
  unfold putK dPut
  rw [any l]
  split
  · exact mp l
  · exact app l
theorem RepT.put {r : RC} (k : List Key) {v : V} {d : D} (q : Rep r v d) : ∀ {ps : List (List Key × V)} {kvs : List (D × D)}, RepT r ps kvs → RepT r (putK ps k v) (dPut kvs (.tup (k.map kD)) d) := by
  intro ps kvs l
  have inj : ∀ {k' : List Key}, D.tup (k'.map kD) = D.tup (k.map kD) → k' = k := fun z => by injection z with z; exact mapkD_inj z
  have any : ∀ {ps : List (List Key × V)} {kvs : List (D × D)}, RepT r ps kvs → (kvs.any fun p => decide (p.1 = .tup (k.map kD))) = ps.any fun p => decide (p.1 = k) := by
    intro ps kvs l
    induction ps generalizing kvs with
    | nil => cases l; rfl
    | cons a ps ih =>
      cases l with
      | cons q l =>
        rename_i k' v' d' kvs
        simp only [List.any_cons, ih l]
        congr 1
        by_cases e : k' = k
        · subst e; simp
        · have e' : ¬ D.tup (k'.map kD) = D.tup (k.map kD) := fun z => e (inj z)
          rw [decide_eq_false e, decide_eq_false e']
  have mp : ∀ {ps : List (List Key × V)} {kvs : List (D × D)}, RepT r ps kvs → RepT r (ps.map fun p => if p.1 = k then (p.1, v) else p) (kvs.map fun p => if p.1 = .tup (k.map kD) then (p.1, d) else p) := by
    intro ps kvs l
    induction ps generalizing kvs with
    | nil => cases l; exact .nil
    | cons a ps ih =>
      cases l with
      | cons q' l =>
        rename_i k' v' d' kvs
        simp only [List.map_cons]
        by_cases e : k' = k
        · subst e
          rw [if_pos rfl, if_pos rfl]
          exact .cons q (ih l)
        · have e' : ¬ D.tup (k'.map kD) = D.tup (k.map kD) := fun z => e (inj z)
          rw [if_neg e, if_neg e']
          exact .cons q' (ih l)
  have app : ∀ {ps : List (List Key × V)} {kvs : List (D × D)}, RepT r ps kvs → RepT r (ps ++ [(k, v)]) (kvs ++ [(.tup (k.map kD), d)]) := by
    intro ps kvs l
    induction ps generalizing kvs with
    | nil => cases l; exact .cons q .nil
    | cons a ps ih => cases l with
      | cons q' l => exact .cons q' (ih l)
  unfold putK dPut
  rw [any l]
  split
  · exact mp l
  · exact app l
theorem RepK.length {r : RC} : ∀ {ps : List (Key × V)} {kvs : List (D × D)}, RepK r ps kvs → ps.length = kvs.length
  | _, _, .nil => rfl
  | _, _, .cons _ l => by simp [RepK.length l]
theorem RepT.length {r : RC} : ∀ {ps : List (List Key × V)} {kvs : List (D × D)}, RepT r ps kvs → ps.length = kvs.length
  | _, _, .nil => rfl
  | _, _, .cons _ l => by simp [RepT.length l]
theorem ss_put (hr : Room k X.A) (ho : SE X W o mo) (hi : SE X W i mi) (he : SE X W e me) {pos' : Pos} (hs : swapsWithSole [.Subscript o i pos'] e pos.line X.env = pure false := by rfl) (hw : swappedStores [.Subscript o i pos'] e X.env = pure none := by rfl)
    (h1 : (assignEach [.Subscript o i pos'] X.env).map (·.2) = [assign (.Subscript o i pos') X.env] := by rfl)
    (ha : ∀ v, assign (.Subscript o i pos') X.env v = (do
      let ov ← holding [v] (eval o X.env)
      let iv ← holding [v, ov] (eval i X.env)
      standAt pos'
      holding [v, ov, iv] (setItem ov iv v)
      release [v, ov, iv] []) := by intro _; rfl) : SS X W (.Assign [.Subscript o i pos'] e pos) (mPut mo mi me) :=
  (ps_asg he (pg_sub ho hi (PSet.or set_list (set_dict (hu_of hr))) ha) hs hw h1).imp fun D σ H ⟨B, ι, h, σa, R, S, p⟩ => by
    refine ⟨B, ι, h, σa, R, S, (PostS.use (rel := Rep) (keepS R S) p).imp ?_⟩
    rintro v H1 ⟨ι1, h1, d, _, x1, r1, p1⟩
    have S1 := S.up (x1.up R)
    refine ⟨B, ι1, h1, σa, x1.rel, S1, (PostS.use (rel := Rep) (keepS x1.rel S1) p1).imp ?_⟩
    rintro x H2 ⟨ι2, h2, dx, _, x2, r2, p2⟩
    have S2 := S1.up (x2.up x1.rel)
    refine ⟨B, ι2, h2, σa, x2.rel, S2, (PostS.use (rel := Rep) (keepS x2.rel S2) p2).imp ?_⟩
    rintro y H3 ⟨ι3, h3, dy, _, x3, r3, p3⟩
    have S3 := S2.up (x3.up x2.rel)
    have rv := (r1.mono x1.rel x2).mono x2.rel x3
    have rx := r2.mono x2.rel x3
    split at p3
    · rename_i h' hq
      unfold putD at hq
      split at hq
      · rename_i n _
        cases rx with
        | loc hn =>
          split at hq
          · rename_i ds hc
            split at hq
            · rename_i kk
              obtain ⟨j, hj, rfl⟩ := Option.map_eq_some_iff.mp hq
              cases r3
              cases x3.rel.cell _ _ hc with
              | @lst vs _ ea l =>
                refine .inl ⟨_, _, _, j, rfl, rfl, ea, by rw [l.length]; exact hj, ?_⟩
                have u := Up.write x3.rel hn (.lst (ds.set j d)) (.lst (vs.set j v))
                exact p3 ι3 _ σ (Ext.write x3.rel hn (.lst upd_same (RepL.set (rv.up u) j (l.up u)))) (S3.up u)
            · cases hq
          · rename_i b kvs hc
            split at hq
            · rename_i hk
              cases hq
              cases x3.rel.cell _ _ hc with
              | @dk ps _ ea l =>
                obtain ⟨key, rfl, rfl⟩ := key_rep r3 hk.1
                have u := Up.write x3.rel hn (.dct false (dPut kvs (kD key) d)) (.dK (putK ps key v))
                exact .inr ⟨_, _, rfl, .inl ⟨_, key, ea, rfl, by rw [l.length]; exact hk.2, rfl⟩, p3 ι3 _ σ (Ext.write x3.rel hn (.dk upd_same (RepK.put key (rv.up u) (l.up u)))) (S3.up u)⟩
              | @dt ps _ ea l =>
                obtain ⟨b, key, rfl, hb, rfl⟩ := keyT_rep r3 hk.1
                have u := Up.write x3.rel hn (.dct true (dPut kvs (.tup (key.map kD)) d)) (.dT (putK ps key v))
                exact .inr ⟨_, _, rfl, .inr ⟨_, key, b, ea, rfl, hb, by rw [l.length]; exact hk.2, rfl⟩, p3 ι3 _ σ (Ext.write x3.rel hn (.dt upd_same (RepT.put key (rv.up u) (l.up u)))) (S3.up u)⟩
            · cases hq
          · cases hq
      · cases hq
    · exact p3.elim
/-- x += e -/
def mAug (f : Int → Int → Int) (j : Nat) (e : ME) : MS := fun σ h => match σ[j]? with
  | some (some (.int a)) => (e σ h).use σ fun d h => match d with
    | .int b => .nx (σ.set j (some (.int (f a b)))) h
    | _ => .bad
  | _ => .bad
theorem ss_aug {op : Operator} {f : Int → Int → Int} (ho : PIp X op (ipI f)) (j : Nat) {x : PySem.Str} {pos' : Pos} (hN : X.N.Nodup) (he : SE X W e me) (hi : X.N[j]? = some x := by rfl) (hx : Loc X.env.scope x := by first | exact .inl rfl | exact .inr rfl)
    (hf : X.fn x = true ∨ X.env.scope.names.lookup x = some .local := by first | exact .inl rfl | exact .inr rfl | assumption) : SS X W (.AugAssign (.Name x pos') op e pos) (mAug f j me) := (ps_aug hN hi hx he ho hf).imp fun D σ H ⟨B, ι, h, σa, R, S, p⟩ => by
  unfold mAug at p
  split at p
  · rename_i a ha
    obtain ⟨v, hv, rv⟩ := S.2 j _ ha
    cases rv
    refine ⟨_, hv, B, ι, h, σa, R, S, (PostS.use (rel := Rep) (keepS R S) p).imp ?_⟩
    rintro v H1 ⟨ι1, h1, d, _, x1, r1, p1⟩
    split at p1
    · cases r1
      exact ⟨_, _, rfl, rfl, p1 ι1 H1 _ (Ext.refl x1.rel) ((S.up (x1.up R)).set (.int _) j)⟩
    · exact p1.elim
  · exact p.elim
end

/-! ### while -/
def mWhile : Nat → MT → MS → MS
  | 0, _, _ => fun _ _ => .bad
  | n + 1, c, b => fun σ h => (c σ h).use σ fun k h => if k = true then match b σ h with
      | .nx σ h => mWhile n c b σ h
      | .ct σ h => mWhile n c b σ h
      | .bk σ h => .nx σ h
      | r => r
    else .nx σ h
section
variable {X : Cx} {W : WX} {pos : Pos}
theorem ss_while (n : Nat) {c : Expr} {body : List Stmt} {mc : MT} {mb : MS} (hp : PassesOwn (model X.prog X.w) X.A X.env X.xe) (hc : ST X W c mc) (hb : SSs X W body mb) : SS X W (.While c body [] pos) (mWhile n mc mb) := (ps_while hp hc hb).imp fun D σ H ⟨B, ι, h, σa, R, S, p⟩ => by
  refine ⟨fun m σ H => ∃ (B : Addr → Prop) (ι : Nat → Addr) (h : AH) (σa : SL), Rel X.K B ι h H ∧ RepS ⟨X.K, B, ι, h.length, H⟩ σ σa ∧ PostS X.K B ι h.length H W (mWhile m mc mb σa h) D, ⟨n, B, ι, h, σa, R, S, p⟩, ?_⟩
  rintro m σ H ⟨B, ι, h, σa, R, S, p⟩
  cases m with
  | zero => exact p.elim
  | succ m =>
    refine ⟨B, ι, h, σa, R, S, (PostS.use (rel := bEq) (keepS R S) p).imp ?_⟩
    rintro v H1 ⟨ι1, h1, c, _, x1, rfl, p1⟩
    have S1 := S.up (x1.up R)
    cases v with
    | true =>
      refine (if_pos rfl).mpr ⟨_, fun σ' H' q => ⟨m, Nat.lt_succ_self m, q⟩, B, ι1, h1, σa, x1.rel, S1, ?_⟩
      rw [if_pos rfl] at p1
      cases e : mb σa h1 with
      | nx σ2 h2 => rw [e] at p1; exact fun ι' H' σ' x s => ⟨B, ι', h2, σ2, x.rel, s, PostS.rebase x p1⟩
      | ct σ2 h2 => rw [e] at p1; exact fun ι' H' σ' x s => ⟨B, ι', h2, σ2, x.rel, s, PostS.rebase x p1⟩
      | bk σ2 h2 => rw [e] at p1; exact p1
      | rt d h2 => rw [e] at p1; exact p1
      | exc c L ds σ2 h2 => rw [e] at p1; exact p1
      | bad => rw [e] at p1; exact p1
    | false =>
      rw [if_neg Bool.false_ne_true] at p1
      exact (if_neg Bool.false_ne_true).mpr (p1 ι1 H1 σ (Ext.refl x1.rel) S1)
end

/-! ### for -/
/-- what is walked: the items, and what must stay so that they are these -/
abbrev MI := SL → AH → R (List D × (AH → Bool))
def ItOk (K : PySem.W.Frag) (B : Addr → Prop) (ι : Nat → Addr) (n : Nat) (H : Hp) (J : It) (items : List D) (G : AH → Bool) : Prop :=
  ∀ (i : Nat) (B' : Addr → Prop) (ι' : Nat → Addr) (h' : AH) (H' : Hp), Rel K B' ι' h' H' → Up ⟨K, B, ι, n, H⟩ ⟨K, B', ι', h'.length, H'⟩ → G h' = true → (i = items.length → J.stop i H') ∧
    ∀ d, items[i]? = some d → J.go i H' ∧ ∀ x H2, J.yld i H' x H2 → Ext K B' ι' h'.length H' ι' h' H2 ∧ Rep ⟨K, B', ι', h'.length, H2⟩ x d
def iS (K : PySem.W.Frag) (W : WX) (m : MI) : TI := fun σ H Rr => ∃ (B : Addr → Prop) (ι : Nat → Addr) (h : AH) (σa : SL), Rel K B ι h H ∧ RepS ⟨K, B, ι, h.length, H⟩ σ σa ∧
  Post (fun r J a => ItOk r.K r.B r.ι r.n r.H J a.1 a.2) K B ι h.length H W σ (m σa h) Rr
abbrev SI (X : Cx) (W : WX) (tg iter : Expr) (m : MI) : Prop := PI X tg iter (iS X.K W m)
def forL (G : AH → Bool) (g : MG) (b : MS) : List D → MS
  | [] => fun σ h => if G h = true then .nx σ h else .bad
  | d :: ds => fun σ h => if G h = true then match g d σ h with
      | some σ => match b σ h with
        | .nx σ h => forL G g b ds σ h
        | .ct σ h => forL G g b ds σ h
        | .bk σ h => .nx σ h
        | r => r
      | none => .bad
    else .bad
def mFor (m : MI) (g : MG) (b : MS) : MS := fun σ h => (m σ h).use σ fun a h => forL a.2 g b a.1 σ h
section
variable {X : Cx} {W : WX} {pos : Pos}
theorem pi_imp {tg iter : Expr} {t t' : TI} (h : PI X tg iter t) (i : ∀ σ H Q, t' σ H Q → t σ H Q) : PI X tg iter t' := ⟨fun pins s σ H Q I q => h.run pins s σ H Q I (i σ H Q q)⟩
theorem pi_or {tg iter : Expr} {t t' : TI} (h : PI X tg iter t) (h' : PI X tg iter t') : PI X tg iter (fun σ H Q => t σ H Q ∨ t' σ H Q) := ⟨fun pins s σ H Q I q => q.elim (h.run pins s σ H Q I) (h'.run pins s σ H Q I)⟩
theorem ss_for {tg iter : Expr} {body : List Stmt} {mi : MI} {g : MG} {mb : MS} (hp : PassesOwn (model X.prog X.w) X.A X.env X.xe) (hc : X.calm = true) (hi : SI X W tg iter mi) (hg : SG X tg g) (hb : SSs X W body mb)
    (hs : ∀ x, foldedSetIterable iter X.env x = pure x := by intro _; rfl) : SS X W (.For tg iter body [] pos) (mFor mi g mb) := (ps_for hp hc hi hg hb hs).imp fun D σ H ⟨B, ι, h, σa, R, S, p⟩ => by
  refine ⟨B, ι, h, σa, R, S, (PostS.use (rel := fun r J a => ItOk r.K r.B r.ι r.n r.H J a.1 a.2) (keepS R S) p).imp ?_⟩
  rintro J H1 ⟨ι1, h1, ⟨items, G⟩, _, x1, ok, p1⟩
  have ok : ItOk X.K B ι1 h1.length H1 J items G := ok
  have p1 : PostS X.K B ι1 h1.length H1 W (forL G g mb items σa h1) D := p1
  refine ⟨fun i m σ H => m = items.length - i ∧ i ≤ items.length ∧ ∃ (ι : Nat → Addr) (h : AH) (σa : SL), Ext X.K B ι1 h1.length H1 ι h H ∧ RepS ⟨X.K, B, ι, h.length, H⟩ σ σa ∧ PostS X.K B ι h.length H W (forL G g mb (items.drop i) σa h) D,
    ⟨_, rfl, Nat.zero_le _, ι1, h1, σa, Ext.refl x1.rel, S.up (x1.up R), p1⟩, ?_⟩
  rintro i m σ H ⟨rfl, hi, ι, h, σa, x, S, p⟩
  by_cases hlt : i < items.length
  · rw [List.drop_eq_getElem_cons hlt] at p
    unfold forL at p
    by_cases hG : G h = true
    · rw [if_pos hG] at p
      obtain ⟨_, o2⟩ := ok i B ι h H x.rel (x.up x1.rel) hG
      obtain ⟨o3, o4⟩ := o2 items[i] (by simp [hlt])
      refine .inr ⟨o3, fun σ' H' => ∃ (ι : Nat → Addr) (h : AH) (σa : SL), Ext X.K B ι1 h1.length H1 ι h H' ∧ RepS ⟨X.K, B, ι, h.length, H'⟩ σ' σa ∧ PostS X.K B ι h.length H' W (forL G g mb (items.drop (i + 1)) σa h) D, fun σ' H' q => ⟨items.length - (i + 1), by omega, rfl, hlt, q⟩, fun xv H2 y => ?_⟩
      obtain ⟨y1, y2⟩ := o4 xv H2 y
      split at p
      · rename_i σ1 hg1
        refine ⟨B, ι, h, σa, σ1, _, y1.rel, S.up (y1.up x.rel), y2, hg1, fun σ2 S2 => ⟨B, ι, h, σ1, y1.rel, S2, ?_⟩⟩
        have xx := x.trans y1
        cases e : mb σ1 h with
        | nx σ3 h3 => rw [e] at p; exact fun ι' H' σ' z s => ⟨ι', h3, σ3, xx.trans z, s, PostS.rebase (y1.trans z) p⟩
        | ct σ3 h3 => rw [e] at p; exact fun ι' H' σ' z s => ⟨ι', h3, σ3, xx.trans z, s, PostS.rebase (y1.trans z) p⟩
        | bk σ3 h3 => rw [e] at p; exact fun ι' H' σ' z s => p ι' H' σ' (y1.trans z) s
        | rt d h3 => rw [e] at p; exact fun ι' H' v z s => p ι' H' v (y1.trans z) s
        | exc c L ds σ3 h3 => rw [e] at p; exact fun ι' H' σ' cls dd z s q => p ι' H' σ' cls dd (y1.trans z) s q
        | bad => rw [e] at p; exact p
      · exact p.elim
    · rw [if_neg hG] at p
      exact p.elim
  · have e : i = items.length := by omega
    rw [List.drop_eq_nil_of_le (by omega)] at p
    unfold forL at p
    by_cases hG : G h = true
    · rw [if_pos hG] at p
      exact .inl ⟨(ok i B ι h H x.rel (x.up x1.rel) hG).1 e, p ι H σ (Ext.refl x.rel) S⟩
    · rw [if_neg hG] at p
      exact p.elim
/-! what is walked -/
def mIt (f : D → AH → Option (List D × (AH → Bool))) (e : ME) : MI := fun σ h => (e σ h).bind fun d h => lift (f d h) h
theorem mIt_or {f1 f2 : D → AH → Option (List D × (AH → Bool))} {me : ME} (σ : SL) (h : AH) : mIt (fun d h => (f1 d h).or (f2 d h)) me σ h = match mIt f1 me σ h with
    | .bad => mIt f2 me σ h
    | r => r := by
  simp only [mIt]
  cases me σ h with
  | ok x h1 =>
    simp only [R.bind]
    cases f1 x h1 with
    | none => simp [lift]
    | some z => simp [lift]
  | exc c L d h1 => rfl
  | bad => rfl
theorem si_or {tg e : Expr} {f1 f2 : D → AH → Option (List D × (AH → Bool))} {me : ME} (h1 : SI X W tg e (mIt f1 me)) (h2 : SI X W tg e (mIt f2 me)) : SI X W tg e (mIt (fun d h => (f1 d h).or (f2 d h)) me) := pi_imp (pi_or h1 h2) fun σ H Q ⟨B, ι, h, σa, R, S, p⟩ => by
  rw [mIt_or] at p
  cases e1 : mIt f1 me σa h with
  | ok z h' => rw [e1] at p; exact .inl ⟨B, ι, h, σa, R, S, by rw [e1]; exact p⟩
  | exc c L d h' => rw [e1] at p; exact .inl ⟨B, ι, h, σa, R, S, by rw [e1]; exact p⟩
  | bad => rw [e1] at p; exact .inr ⟨B, ι, h, σa, R, S, p⟩
theorem it_of {K : PySem.W.Frag} {W : WX} {f : D → AH → Option (List D × (AH → Bool))} {me : ME} {σ : L2.St} {H : Hp} {Q : It → Hp → Prop} {Q' : V → Hp → Prop} (q : iS K W (mIt f me) σ H Q)
    (hq : ∀ B ι h H1 v d items G, Rel K B ι h H1 → Rep ⟨K, B, ι, h.length, H1⟩ v d → f d h = some (items, G) → (∀ J, ItOk K B ι h.length H1 J items G → Q J H1) → Q' v H1) : tE K W me σ H Q' := by
  obtain ⟨B, ι, h, σa, R, S, p⟩ := q
  refine ⟨B, ι, h, σa, R, S, (Post.bind (rel := Rep) p).imp ?_⟩
  rintro v H1 ⟨ι1, h1, d, e, x1, r1, p1⟩
  obtain ⟨⟨items, G⟩, ez, k⟩ := p1.lift
  exact hq B ι1 h1 H1 v d items G x1.rel r1 ez fun J o => k ι1 H1 J (Ext.refl x1.rel) o
abbrev noG : AH → Bool := fun _ => true
def Cell.dec : (a b : Cell) → Decidable (a = b)
  | .lst a, .lst b => if h : a = b then isTrue (by rw [h]) else isFalse fun e => h (Cell.lst.inj e)
  | .dct k a, .dct l b => if h : k = l ∧ a = b then isTrue (by rw [h.1, h.2]) else isFalse fun e => h (Cell.dct.inj e)
  | .dlk k a, .dlk l b => if h : k = l ∧ a = b then isTrue (by rw [h.1, h.2]) else isFalse fun e => h (Cell.dlk.inj e)
  | .ins c L a, .ins d M b => if h : c = d ∧ L = M ∧ a = b then isTrue (by rw [h.1, h.2.1, h.2.2]) else isFalse fun e => h (Cell.ins.inj e)
  | .lst _, .dct _ _ | .lst _, .dlk _ _ | .lst _, .ins _ _ _ | .dct _ _, .lst _ | .dct _ _, .dlk _ _ | .dct _ _, .ins _ _ _ | .dlk _ _, .lst _ | .dlk _ _, .dct _ _ | .dlk _ _, .ins _ _ _ | .ins _ _ _, .lst _ | .ins _ _ _, .dct _ _ | .ins _ _ _, .dlk _ _ => isFalse fun e => nomatch e
instance : DecidableEq Cell := Cell.dec
def fTup : D → AH → Option (List D × (AH → Bool)) := fun d _ => match d with
  | .tup ds => some (ds, noG)
  | _ => none
def fLst : D → AH → Option (List D × (AH → Bool)) := fun d h => match d with
  | .lst ds => some (ds, noG)
  | .scr ds => some (ds, noG)
  | .loc n => match h[n]? with
    | some (.lst ds) => some (ds, fun h' => decide (h'[n]? = some (.lst ds)))
    | _ => none
  | _ => none
def fStr : D → AH → Option (List D × (AH → Bool)) := fun d _ => match d with
  | .str s => some (s.map fun c => .str [c], noG)
  | _ => none
def fSeq : D → AH → Option (List D × (AH → Bool)) := fun d h => (fLst d h).or ((fTup d h).or (fStr d h))
/-- a list at an address, as long as the guard stands -/
def LsAt (K : PySem.W.Frag) (B : Addr → Prop) (ι : Nat → Addr) (n : Nat) (H : Hp) (a : Addr) (items : List D) (G : AH → Bool) : Prop :=
  ∀ (B' : Addr → Prop) (ι' : Nat → Addr) (h' : AH) (H' : Hp), Rel K B' ι' h' H' → Up ⟨K, B, ι, n, H⟩ ⟨K, B', ι', h'.length, H'⟩ → G h' = true → ∃ vs, SqL K H' a vs ∧ RepL ⟨K, B', ι', h'.length, H'⟩ vs items
theorem fLst_ok {K : PySem.W.Frag} {B : Addr → Prop} {ι : Nat → Addr} {h : AH} {H : Hp} (R : Rel K B ι h H) {v : V} {d : D} {items : List D} {G : AH → Bool} (r : Rep ⟨K, B, ι, h.length, H⟩ v d) (e : fLst d h = some (items, G)) :
    ∃ a, v = .ref a ∧ (∃ vs, SqL K H a vs ∧ vs.length = items.length) ∧ LsAt K B ι h.length H a items G := by
  unfold fLst at e
  split at e
  · cases e
    cases r with
    | lst ea l f => exact ⟨_, rfl, ⟨_, SqL.of ea, l.length⟩, fun B' ι' h' H' x u _ => ⟨_, SqL.of (u.at_ _ _ f ea), l.up u⟩⟩
  · cases e
    cases r with
    | scr ea l => exact ⟨_, rfl, ⟨_, ea.sql, l.length⟩, fun B' ι' h' H' x u _ => ⟨_, (u.scA ea).sql, l.up u⟩⟩
  · rename_i n
    cases r with
    | loc hn =>
      split at e
      · rename_i ds hc
        cases e
        cases R.cell _ _ hc with
        | lst ea l =>
          refine ⟨_, rfl, ⟨_, SqL.of ea, l.length⟩, fun B' ι' h' H' x u hG => ?_⟩
          have hc2 : h'[n]? = some (.lst items) := of_decide_eq_true hG
          have e2 := x.cell _ _ hc2
          rw [show ι' n = ι n from u.io n hn] at e2
          cases e2 with
          | lst e2 l2 => exact ⟨_, SqL.of e2, l2⟩
      · cases e
  · cases e
theorem si_lst {tg e : Expr} {me : ME} (he : SE X W e me) : SI X W tg e (mIt fLst me) := pi_imp (pi_list (tg := tg) he) fun σ H Q q => it_of q fun B ι h H1 v d items G R r hf k => by
  obtain ⟨a, rfl, ⟨vs, hs, _⟩, ls⟩ := fLst_ok R r hf
  refine ⟨a, rfl, ⟨vs, hs⟩, k _ fun i B2 ι2 h2 H2 x2 u2 hG => ?_⟩
  obtain ⟨ws, hw, lw⟩ := ls B2 ι2 h2 H2 x2 u2 hG
  refine ⟨fun e => ⟨ws, hw, by rw [lw.length, e]; exact Nat.le_refl _⟩, fun d hd => ?_⟩
  obtain ⟨v, hv, rv⟩ := lw.get hd
  refine ⟨⟨ws, v, hw, hv⟩, fun x H3 ⟨e3, y⟩ => ?_⟩
  subst e3
  have := y _ hw
  rw [hv] at this
  cases this
  exact ⟨Ext.refl x2, rv⟩
theorem si_tup {tg e : Expr} {me : ME} (he : SE X W e me) : SI X W tg e (mIt fTup me) := pi_imp (pi_tup (tg := tg) he) fun σ H Q q => it_of q fun B ι h H1 v d items G R r hf k => by
  unfold fTup at hf
  split at hf
  · cases hf
    cases r with
    | tup ea l =>
      refine ⟨_, rfl, ⟨_, .inl (.inl ea)⟩, k _ fun i B2 ι2 h2 H2 x2 u2 _ => ?_⟩
      have e2 := u2.sq _ _ ea
      have l2 := l.up u2
      refine ⟨fun e => ⟨_, .inl (.inl e2), by rw [l.length, e]; exact Nat.le_refl _⟩, fun d hd => ?_⟩
      obtain ⟨v, hv, rv⟩ := l2.get hd
      refine ⟨⟨_, v, .inl (.inl e2), hv⟩, fun x H3 ⟨e3, y⟩ => ?_⟩
      subst e3
      have := y _ (.inl (.inl e2))
      rw [hv] at this
      cases this
      exact ⟨Ext.refl x2, rv⟩
  · cases hf
theorem si_str {tg e : Expr} {me : ME} (he : SE X W e me) : SI X W tg e (mIt fStr me) := pi_imp (pi_str (tg := tg) he) fun σ H Q q => it_of q fun B ι h H1 v d items G R r hf k => by
  unfold fStr at hf
  split at hf
  · cases hf
    cases r with
    | str z g =>
      refine ⟨_, rfl, k _ fun i B2 ι2 h2 H2 x2 u2 _ => ⟨fun e => ?_, fun d hd => ?_⟩⟩
      · show z.cps.size ≤ i
        simp at e; omega
      · rw [List.getElem?_map] at hd
        obtain ⟨c, hc, rfl⟩ := Option.map_eq_some_iff.mp hd
        have hlt := (List.getElem?_eq_some_iff.mp hc).1
        refine ⟨by show i < z.cps.size; simpa using hlt, fun x H3 ⟨e3, c', hc', ex⟩ => ?_⟩
        subst e3 ex
        have : c' = c := by
          rw [Array.getElem?_toList] at hc
          rw [hc] at hc'
          exact (Option.some.inj hc').symm
        subst this
        refine ⟨Ext.refl x2, Rep.str' rfl ?_⟩
        unfold vS at *
        rw [← Array.all_toList, List.all_eq_true] at g
        have := g c' (List.mem_of_getElem? hc)
        simpa using this
  · cases hf
theorem si_seq {tg e : Expr} {me : ME} (he : SE X W e me) : SI X W tg e (mIt fSeq me) := si_or (si_lst he) (si_or (si_tup he) (si_str he))
/-- range(n), range(a, b) -/
def intsFrom (a : Int) : Nat → List D
  | 0 => []
  | n + 1 => .int a :: intsFrom (a + 1) n
theorem intsFrom_get : ∀ (n : Nat) (a : Int) (i : Nat), (intsFrom a n)[i]? = if i < n then some (.int (a + i)) else none
  | 0, a, i => by simp [intsFrom]
  | n + 1, a, 0 => by simp [intsFrom]
  | n + 1, a, i + 1 => by
    simp only [intsFrom, List.getElem?_cons_succ, intsFrom_get n (a + 1) i, Nat.add_lt_add_iff_right]
    split
    · congr 2
      omega
    · rfl
theorem intsFrom_length : ∀ (n : Nat) (a : Int), (intsFrom a n).length = n
  | 0, a => rfl
  | n + 1, a => by simp [intsFrom, intsFrom_length n]
def okR (i : Int) : Bool := decide (-(2 ^ 62) ≤ i ∧ i < 2 ^ 62)
def mRange : List ME → MI := fun as σ h => (mArgs as σ h).bind fun ds h => match ds with
  | [.int j] => if okR j = true then .ok (intsFrom 0 j.toNat, noG) h else .bad
  | [.int i, .int j] => if (okR i && okR j) = true then .ok (intsFrom i (j - i).toNat, noG) h else .bad
  | _ => .bad
theorem itr_ok {K : PySem.W.Frag} {B : Addr → Prop} {ι : Nat → Addr} {n : Nat} {H : Hp} (lo : Int) (m : Nat) : ItOk K B ι n H (Itr lo m) (intsFrom lo m) noG := by
  intro i B' ι' h' H' x u _
  refine ⟨fun e => by rw [intsFrom_length] at e; exact Nat.le_of_eq e.symm, fun d hd => ?_⟩
  rw [intsFrom_get] at hd
  split at hd
  · cases hd
    refine ⟨by assumption, fun x2 H2 ⟨e, y⟩ => ?_⟩
    subst e y
    exact ⟨Ext.refl x, .int _⟩
  · cases hd
theorem si_range1 {tg a : Expr} {ma : ME} {p : Pos} (hm : X.mg "range" = none) (ha : SA X W [a] (mArgs [ma])) (hg : Gl X "range" := by rfl) (hs : starEach [a] X.env = [(false, eval a X.env)] := by rfl) : SI X W tg (.Call (.Name "range" p) [a] [] pos) (mRange [ma]) :=
  pi_imp (pi_range1 hg hm ha hs) fun σ H Q ⟨B, ι, h, σa, R, S, p⟩ => by
    refine ⟨B, ι, h, σa, R, S, (Post.bind (rel := RepL) p).imp ?_⟩
    rintro vs H1 ⟨ι1, h1, ds, e, x1, r1, p1⟩
    split at p1
    · split at p1
      · rename_i j hk
        cases r1 with
        | cons r l =>
          cases l; cases r
          obtain ⟨h1', h2'⟩ := of_decide_eq_true hk
          exact ⟨_, rfl, h1', h2', p1 ι1 H1 _ (Ext.refl x1.rel) (itr_ok 0 _)⟩
      · exact p1.elim
    · have := mArgs_length e
      simp at this
    · exact p1.elim
theorem si_range2 {tg a b : Expr} {ma mb : ME} {p : Pos} (hm : X.mg "range" = none) (ha : SA X W [a, b] (mArgs [ma, mb])) (hg : Gl X "range" := by rfl) (hs : starEach [a, b] X.env = [(false, eval a X.env), (false, eval b X.env)] := by rfl) (hs2 : starEach [b] X.env = [(false, eval b X.env)] := by rfl) : SI X W tg (.Call (.Name "range" p) [a, b] [] pos) (mRange [ma, mb]) :=
  pi_imp (pi_range2 hg hm ha hs hs2) fun σ H Q ⟨B, ι, h, σa, R, S, p⟩ => by
    refine ⟨B, ι, h, σa, R, S, (Post.bind (rel := RepL) p).imp ?_⟩
    rintro vs H1 ⟨ι1, h1, ds, e, x1, r1, p1⟩
    split at p1
    · have := mArgs_length e
      simp at this
    · split at p1
      · rename_i i j hk
        cases r1 with
        | cons r l =>
          cases l with
          | cons r' l =>
            cases l; cases r; cases r'
            rw [Bool.and_eq_true] at hk
            obtain ⟨h1', h2'⟩ := of_decide_eq_true hk.1
            obtain ⟨h3', h4'⟩ := of_decide_eq_true hk.2
            exact ⟨_, _, rfl, ⟨h1', h2', h3', h4'⟩, p1 ι1 H1 _ (Ext.refl x1.rel) (itr_ok _ _)⟩
      · exact p1.elim
    · exact p1.elim
end
end MW

set_option maxHeartbeats 2000000
/-! MW7: built-in functions, types, methods. -/
namespace MW
open PySem PySem.Spec PyProof.Rows L2

/-! ### built-in functions by values -/
def rC (K : PySem.W.Frag) (o : List D → AH → Option D) : List V → Hp → VK → Prop := fun xs H Q => ∃ (B : Addr → Prop) (ι : Nat → Addr) (h : AH) (ds : List D) (z : D), Rel K B ι h H ∧ RepL ⟨K, B, ι, h.length, H⟩ xs ds ∧ o ds h = some z ∧
  ∀ H' v, Ext K B ι h.length H ι h H' → Rep ⟨K, B, ι, h.length, H'⟩ v z → Q v H'
def mB (o : List D → AH → Option D) (as : List ME) : ME := fun σ h => (mArgs as σ h).bind fun ds h => lift (o ds h) h
section
variable {X : Cx} {W : WX} {x : PySem.Str} {p pos : Pos} {e : Expr} {es : List Expr} {ms : List ME} {o : List D → AH → Option D} {id T : String}
theorem _root_.L2.CallR.imp {f : Value} {r r' : List V → Hp → VK → Prop} (h : CallR X f r) (i : ∀ xs H Q, r' xs H Q → r xs H Q) : CallR X f r' := fun pins s σ H xs us Q I rx q => h pins s σ H xs us Q I rx (i xs H Q q)
theorem tC_of {K : PySem.W.Frag} {σ : L2.St} {H : Hp} {Q : VK} (q : tE K W (mB o ms) σ H Q) : tCB (rC K o) (tA K W (mArgs ms)) σ H Q := by
  obtain ⟨B, ι, h, σa, R, S, p⟩ := q
  refine ⟨B, ι, h, σa, R, S, (Post.bind (rel := RepL) p).imp ?_⟩
  rintro vs H1 ⟨ι1, h1, ds, _, x1, r1, p1⟩
  obtain ⟨z, ez, k⟩ := p1.lift
  exact ⟨B, ι1, h1, ds, z, x1.rel, r1, ez, fun H' v x q => k ι1 H' v x q⟩
theorem se_B (hc : CallR X (.builtin id) (rC X.K o)) (hm : X.mg x = none) (ha : SA X W (e :: es) (mArgs ms)) (hg : Gl X x := by rfl) (hv : bootBuiltins x = some (.builtin id) := by decide +kernel) (hn : x ≠ "__name__" := by decide) (hdb : (x == ("__debug__" : PySem.Str)) = false := by decide)
    (he : starEach (e :: es) X.env = (false, eval e X.env) :: starEach es X.env := by rfl) (hpl : (backTo pos (starEach es X.env)).any (·.1) = false := by rfl) : SE X W (.Call (.Name x p) (e :: es) [] pos) (mB o ms) := (pe_callB hc hg hm hv ha hn hdb he hpl).imp fun _ _ _ => tC_of
theorem se_T (hc : CallR X (.type T) (rC X.K o)) (hm : X.mg x = none) (ha : SA X W (e :: es) (mArgs ms)) (hg : Gl X x := by rfl) (hv : bootBuiltins x = some (.type T) := by decide +kernel) (hn : x ≠ "__name__" := by decide) (hdb : (x == ("__debug__" : PySem.Str)) = false := by decide)
    (he : starEach (e :: es) X.env = (false, eval e X.env) :: starEach es X.env := by rfl) (hpl : (backTo pos (starEach es X.env)).any (·.1) = false := by rfl) : SE X W (.Call (.Name x p) (e :: es) [] pos) (mB o ms) := (pe_callTy hc hg hm hv ha hn hdb he hpl).imp fun _ _ _ => tC_of
/-- a class's name as a value -/
theorem se_ty (n : String) (hm : X.mg x = none) (hg : Gl X x := by rfl) (hv : bootBuiltins x = some (.type n) := by decide +kernel) (hn : x ≠ "__name__" := by decide) (hdb : (x == ("__debug__" : PySem.Str)) = false := by decide) : SE X W (.Name x pos) (mC (.ty n)) :=
  se_c (v := .ty n) (pe_bltn hg hm hv (show RelV (.ty n) (.type n) from rfl) hn hdb) fun r => .ty n
theorem se_cls (c : String) (hm : X.mg (PySem.Str.ofString c) = some (.ref (He.ga X.K c))) (hg : Gl X (PySem.Str.ofString c) := by rfl) (hdb : (PySem.Str.ofString c == ("__debug__" : PySem.Str)) = false := by decide) : SE X W (.Name (PySem.Str.ofString c) pos) (mC (.cls c)) :=
  (pe_glob hg hm (show RelV (.ref (He.ga X.K c)) _ from rfl) hdb).imp fun σ H Q ⟨B, ι, h, σa, R, S, p⟩ => p ι H _ (Ext.refl R) (Rep.cls (r := ⟨X.K, B, ι, h.length, H⟩) c)

/-- the items of a list or a tuple -/
def sqOf (h : AH) : D → Option (List D)
  | .tup ds => some ds
  | .scr ds => some ds
  | d => lsOf h d
theorem sqOf_rep {K : PySem.W.Frag} {B : Addr → Prop} {ι : Nat → Addr} {h : AH} {H : Hp} (R : Rel K B ι h H) {x : V} {d : D} {ds : List D} (q : Rep ⟨K, B, ι, h.length, H⟩ x d) (e : sqOf h d = some ds) :
    ∃ a vs, x = .ref a ∧ (SqL K H a vs ∨ SqT K H a vs) ∧ RepL ⟨K, B, ι, h.length, H⟩ vs ds := by
  unfold sqOf at e
  split at e
  · cases e
    cases q with
    | tup ea l => exact ⟨_, _, rfl, .inr (.inl (.inl ea)), l⟩
  · cases e
    cases q with
    | scr ea l => exact ⟨_, _, rfl, .inl ea.sql, l⟩
  · obtain ⟨a, vs, rfl, ea, l⟩ := lsOf_rep R q e
    exact ⟨a, vs, rfl, .inl (SqL.of ea), l⟩
/-- len -/
def oLen : List D → AH → Option D
  | [.str s], _ => if s.length ≤ sizeLine then some (.int s.length) else none
  | [d], h => match sqOf h d with
    | some ds => some (.int ds.length)
    | none => none
  | _, _ => none
theorem one_rep {r : RC} {xs : List V} {d : D} (l : RepL r xs [d]) : ∃ x, xs = [x] ∧ Rep r x d := by
  cases l with
  | cons q l => cases l; exact ⟨_, rfl, q⟩
theorem two_rep {r : RC} {xs : List V} {d e : D} (l : RepL r xs [d, e]) : ∃ x y, xs = [x, y] ∧ Rep r x d ∧ Rep r y e := by
  cases l with
  | cons q l =>
    obtain ⟨y, rfl, q2⟩ := one_rep l
    exact ⟨_, y, rfl, q, q2⟩
theorem b_len : CallR X (.builtin "len") (rC X.K oLen) := by
  refine (call_len_str.or call_len_seq).imp ?_
  rintro xs H Q ⟨B, ι, h, ds, z, R, l, ho, k⟩
  unfold oLen at ho
  split at ho
  · split at ho
    · rename_i hz
      cases ho
      obtain ⟨x, rfl, q⟩ := one_rep l
      cases q
      refine .inl ⟨_, rfl, by rw [Str.len]; exact hz, ?_⟩
      rw [Str.len]
      exact k H _ (Ext.refl R) (.int _)
    · cases ho
  · split at ho
    · rename_i es he
      cases ho
      obtain ⟨x, rfl, q⟩ := one_rep l
      obtain ⟨a, vs, rfl, hs, lv⟩ := sqOf_rep R q he
      refine .inr ⟨a, vs, rfl, hs, ?_⟩
      rw [lv.length]
      exact k H _ (Ext.refl R) (.int _)
    · cases ho
  · cases ho
/-- tuple(xs), list(xs) -/
def oTuple : List D → AH → Option D
  | [.tup ds], _ => some (.tup ds)
  | [.scr ds], _ => some (.tup ds)
  | [d], h => (lsOf h d).map .tup
  | _, _ => none
theorem b_tuple : CallR X (.type "tuple") (rC X.K oTuple) := by
  refine call_tuple_of.imp ?_
  rintro xs H Q ⟨B, ι, h, ds, z, R, l, ho, k⟩
  unfold oTuple at ho
  split at ho
  · cases ho
    obtain ⟨x, rfl, q⟩ := one_rep l
    cases q with
    | tup ea lv => exact ⟨_, _, rfl, .inr ⟨.inl (.inl ea), k H _ (Ext.refl R) (.tup ea lv)⟩⟩
  · cases ho
    obtain ⟨x, rfl, q⟩ := one_rep l
    cases q with
    | scr ea lv => exact ⟨_, _, rfl, .inl ⟨ea.sql, fun p hp => k _ _ (Ext.fresh R hp _) (.tup upd_same (lv.up (Up.fresh R hp _)))⟩⟩
  · obtain ⟨es, he, rfl⟩ := Option.map_eq_some_iff.mp ho
    obtain ⟨x, rfl, q⟩ := one_rep l
    obtain ⟨a, vs, rfl, ea, lv⟩ := lsOf_rep R q he
    exact ⟨_, _, rfl, .inl ⟨SqL.of ea, fun p hp => k _ _ (Ext.fresh R hp _) (.tup upd_same (lv.up (Up.fresh R hp _)))⟩⟩
  · cases ho
def oList : List D → AH → Option D
  | [d], h => (sqOf h d).map .lst
  | _, _ => none
theorem b_list : CallR X (.type "list") (rC X.K oList) := by
  refine call_list_of.imp ?_
  rintro xs H Q ⟨B, ι, h, ds, z, R, l, ho, k⟩
  unfold oList at ho
  split at ho
  · obtain ⟨es, he, rfl⟩ := Option.map_eq_some_iff.mp ho
    obtain ⟨x, rfl, q⟩ := one_rep l
    obtain ⟨a, vs, rfl, hs, lv⟩ := sqOf_rep R q he
    exact ⟨_, _, rfl, hs, fun p hp => k _ _ (Ext.fresh R hp _) (.lst upd_same (lv.up (Up.fresh R hp _)) (R.fz_new hp))⟩
  · cases ho
/-- str(n), str(s) -/
def showN (i : Int) : List Nat := (PySem.Str.ofString (toString i)).cps.toList
def oStr : List D → AH → Option D
  | [.int i], _ => if i.natAbs < 10 ^ 500 then some (.str (showN i)) else none
  | [.str s], _ => some (.str s)
  | _, _ => none
/-- int(b), int(n), int(text) of figures -/
def figs (s : List Nat) : Bool := s.all fun c => decide (48 ≤ c ∧ c ≤ 57)
def valF (s : List Nat) : Nat := s.foldl (fun a c => a * 10 + (c - 48)) 0
def oInt : List D → AH → Option D
  | [.bl b], _ => some (.int (if b then 1 else 0))
  | [.int i], _ => some (.int i)
  | [.str s], _ => if figs s = true ∧ s ≠ [] ∧ s.length ≤ 640 then some (.int (valF s)) else none
  | _, _ => none
def oMin2 : List D → AH → Option D
  | [.int i, .int j], _ => some (.int (if j < i then j else i))
  | _, _ => none
def oMax2 : List D → AH → Option D
  | [.int i, .int j], _ => some (.int (if j > i then j else i))
  | _, _ => none
theorem b_min2 (hc : X.calm = true) : CallR X (.builtin "min") (rC X.K oMin2) := by
  refine (call_min2 hc).imp ?_
  rintro xs H Q ⟨B, ι, h, ds, z, R, l, ho, k⟩
  unfold oMin2 at ho
  split at ho
  · cases ho
    obtain ⟨x, y, rfl, q, q2⟩ := two_rep l
    cases q; cases q2
    exact ⟨_, _, rfl, k H _ (Ext.refl R) (.int _)⟩
  · cases ho
theorem b_max2 (hc : X.calm = true) : CallR X (.builtin "max") (rC X.K oMax2) := by
  refine (call_max2 hc).imp ?_
  rintro xs H Q ⟨B, ι, h, ds, z, R, l, ho, k⟩
  unfold oMax2 at ho
  split at ho
  · cases ho
    obtain ⟨x, y, rfl, q, q2⟩ := two_rep l
    cases q; cases q2
    exact ⟨_, _, rfl, k H _ (Ext.refl R) (.int _)⟩
  · cases ho
/-! ### isinstance -/
def tyOf : D → Option String
  | .non => some "NoneType"
  | .bl _ => some "bool"
  | .int _ => some "int"
  | .str _ => some "str"
  | .tup _ => some "tuple"
  | .lst _ => some "list"
  | .scr _ => some "list"
  | _ => none
def tyH (h : AH) : D → Option String
  | .loc i => match h[i]? with
    | some (.lst _) => some "list"
    | some (.dct _ _) => some "dict"
    | _ => none
  | d => tyOf d
def subTy (a b : String) : Bool := a == b || (a == "bool" && b == "int")
def tyNames : List String := ["NoneType", "bool", "int", "str", "tuple", "list", "dict"]
theorem kitB_all : (tyNames.all fun a => (["int", "bool", "str", "tuple", "list", "dict"] : List String).all fun b => kitB a b == some (subTy a b)) = true := by decide +kernel
/-- instances of the module's classes: its class's name -/
def insOf (h : AH) : D → Option String
  | .obj c _ _ => some c
  | .loc i => match h[i]? with
    | some (.ins c _ _) => some c
    | _ => none
  | _ => none
def oIsi : List D → AH → Option D
  | [d, .ty b], h => match tyH h d with
    | some a => if (["int", "bool", "str", "tuple", "list", "dict"] : List String).contains b = true then some (.bl (subTy a b)) else none
    | none => none
  | _, _ => none
theorem tyH_rep {K : PySem.W.Frag} {B : Addr → Prop} {ι : Nat → Addr} {h : AH} {H : Hp} (R : Rel K B ι h H) {x : V} {d : D} {a : String} (q : Rep ⟨K, B, ι, h.length, H⟩ x d) (e : tyH h d = some a) : TyX K H x (.type a) ∧ a ∈ tyNames := by
  unfold tyH at e
  split at e
  · cases q with
    | loc hi =>
      split at e
      · rename_i c
        cases e
        cases R.cell _ _ c with
        | lst ea _ => exact ⟨.base (.lst ea), by decide⟩
      · rename_i c
        cases e
        cases R.cell _ _ c with
        | dk ea _ => exact ⟨.base (.dK ea), by decide⟩
        | dt ea _ => exact ⟨.base (.dT ea), by decide⟩
      · cases e
  · cases q with
    | non => cases e; exact ⟨.base .non, by decide⟩
    | bl b => cases e; exact ⟨.base (.bl b), by decide⟩
    | int i => cases e; exact ⟨.base (.int i), by decide⟩
    | str s g => cases e; exact ⟨.base (.str s), by decide⟩
    | tup ea _ => cases e; exact ⟨.base (.tup ea), by decide⟩
    | lst ea _ _ => cases e; exact ⟨.base (.lst ea), by decide⟩
    | scr ea _ => cases e; exact ⟨ea.elim (fun ⟨o, q⟩ => .base (.frz q)) (fun ⟨o, its, n, k, c, _⟩ => .kList k c), by decide⟩
    | _ => cases e
theorem b_isi : CallR X (.builtin "isinstance") (rC X.K oIsi) := by
  refine call_isi.imp ?_
  rintro xs H Q ⟨B, ι, h, ds, z, R, l, ho, k⟩
  unfold oIsi at ho
  split at ho
  · rename_i d b
    split at ho
    · rename_i a ha
      split at ho
      · rename_i hb
        cases ho
        obtain ⟨x, y, rfl, q, q2⟩ := two_rep l
        cases q2
        obtain ⟨t1, t2⟩ := tyH_rep R q ha
        refine ⟨x, .ty b, _, _, _, rfl, .ty b, t1, ?_, k H _ (Ext.refl R) (.bl _)⟩
        refine kit_ty ?_
        have h1 := List.all_eq_true.mp kitB_all a t2
        have h2 := List.all_eq_true.mp h1 b (by simpa using hb)
        simpa using h2
      · cases ho
    · cases ho
  · cases ho
/-- isinstance of an instance, by a table of the classes -/
def oIsiC (sub : String → String → Option Bool) : List D → AH → Option D
  | [d, .cls b], h => match insOf h d with
    | some a => (sub a b).map .bl
    | none => none
  | _, _ => none
/-- what is to be known of an instance's class -/
structure InsC (K : PySem.W.Frag) (c : String) : Prop where
  cl : Cls K (He.ga K c)
  ha : PySem.W.findIn K (.ref (He.ga K c)) "__class__" = some (some (.builtin "object.__class__"))
  hn : PySem.W.specialIn K (.builtin "object.__class__") "__get__" = some (some (.builtin "getset_descriptor.__get__"))
  ht : PySem.W.takesIn K (.builtin "object.__class__") = some true
  hm : PySem.W.mroIn K (He.ga K c) (.type "object") = some true
theorem insOf_rep {K : PySem.W.Frag} {B : Addr → Prop} {ι : Nat → Addr} {h : AH} {H : Hp} (R : Rel K B ι h H) {x : V} {d : D} {c : String} (q : Rep ⟨K, B, ι, h.length, H⟩ x d) (e : insOf h d = some c) : ∃ a dx fs, x = .ref a ∧ H a = some (.ins (He.ga K c) dx fs) := by
  unfold insOf at e
  split at e
  · cases e
    cases q with
    | obj ea _ _ _ => exact ⟨_, _, _, rfl, ea⟩
  · cases q with
    | loc hi =>
      split at e
      · rename_i hc
        cases e
        cases R.cell _ _ hc with
        | ins ea _ _ => exact ⟨_, _, _, rfl, ea⟩
      · cases e
  · cases e
theorem b_isiC {sub : String → String → Option Bool} (hs : ∀ a b r, sub a b = some r → InsC X.K a ∧ PySem.W.kitOne X.K (.ref (He.ga X.K a)) (.ref (He.ga X.K b)) = some r) : CallR X (.builtin "isinstance") (rC X.K (oIsiC sub)) := by
  refine call_isi.imp ?_
  rintro xs H Q ⟨B, ι, h, ds, z, R, l, ho, k⟩
  unfold oIsiC at ho
  split at ho
  · rename_i d b
    split at ho
    · rename_i a ha
      obtain ⟨r, hr, rfl⟩ := Option.map_eq_some_iff.mp ho
      obtain ⟨x, y, rfl, q, q2⟩ := two_rep l
      cases q2
      obtain ⟨p, dx, fs, rfl, ea⟩ := insOf_rep R q ha
      obtain ⟨I, hk⟩ := hs a b r hr
      exact ⟨_, .ref _, _, _, _, rfl, .own _, .base (.ins ea I.cl I.ha I.hn I.ht I.hm), hk, k H _ (Ext.refl R) (.bl _)⟩
    · cases ho
  · cases ho
end

/-! ### methods of lists and texts -/
def rM (K : PySem.W.Frag) (o : D → List D → AH → Option (D × AH)) : V → List V → Hp → VK → Prop := fun x xs H Q => ∃ (B : Addr → Prop) (ι : Nat → Addr) (h h' : AH) (d : D) (ds : List D) (z : D), Rel K B ι h H ∧ Rep ⟨K, B, ι, h.length, H⟩ x d ∧ RepL ⟨K, B, ι, h.length, H⟩ xs ds ∧
  o d ds h = some (z, h') ∧ ∀ ι' H' v, Ext K B ι h.length H ι' h' H' → Rep ⟨K, B, ι', h'.length, H'⟩ v z → Q v H'
/-- ck: of the receiver's type -/
def mM (ck : D → AH → Bool) (o : D → List D → AH → Option (D × AH)) (r : ME) (as : List ME) : ME := fun σ h => (r σ h).bind fun x h => if ck x h = true then (mArgs as σ h).bind fun ds h => lift2 (o x ds h) else .bad
def isL (d : D) (h : AH) : Bool := (lsOf h d).isSome
def isS (d : D) (_ : AH) : Bool := match d with
  | .str _ => true
  | _ => false
section
variable {X : Cx} {W : WX} {p pos apos : Pos} {r e : Expr} {es : List Expr} {mr : ME} {ms : List ME} {o : D → List D → AH → Option (D × AH)} {id T : String} {ck : D → AH → Bool}
theorem MtR_imp {r r' : V → List V → Hp → VK → Prop} (h : MtR X id r) (i : ∀ x xs H Q, r' x xs H Q → r x xs H Q) : MtR X id r' := fun pins s σ H x xs v us Q I rx rxs q => h pins s σ H x xs v us Q I rx rxs (i x xs H Q q)
/-- what the receiver's check tells -/
def CkOk (K : PySem.W.Frag) (T : String) (ck : D → AH → Bool) : Prop := ∀ (B : Addr → Prop) (ι : Nat → Addr) (h : AH) (H : Hp) (x : V) (d : D), Rel K B ι h H → Rep ⟨K, B, ι, h.length, H⟩ x d → ck d h = true → tyV K T x H
theorem ck_list (K : PySem.W.Frag) : CkOk K "list" isL := fun B ι h H x d R q c => by
  obtain ⟨ds, hd⟩ := Option.isSome_iff_exists.mp (show (lsOf h d).isSome = true from c)
  obtain ⟨a, vs, rfl, ea, _⟩ := lsOf_rep R q hd
  exact .inl ⟨rfl, _, SqL.of ea⟩
theorem ck_str (K : PySem.W.Frag) : CkOk K "str" isS := fun B ι h H x d R q c => by
  unfold isS at c
  split at c
  · cases q; exact rfl
  · cases c
theorem m_of {K : PySem.W.Frag} {T : String} {σ : L2.St} {H : Hp} {Q : VK} (hk : CkOk K T ck) (q : tE K W (mM ck o mr ms) σ H Q) : tBM K T (rM K o) (tE K W mr) (tA K W (mArgs ms)) σ H Q := by
  obtain ⟨B, ι, h, σa, R, S, p⟩ := q
  refine ⟨B, ι, h, σa, R, S, (Post.bind (rel := Rep) p).imp ?_⟩
  rintro x H1 ⟨ι1, h1, d, _, x1, r1, p1⟩
  by_cases hc : ck d h1 = true
  · simp only [hc, if_true] at p1
    refine ⟨hk _ _ _ _ _ _ x1.rel r1 hc, B, ι1, h1, σa, x1.rel, S.up (x1.up R), (Post.bind (rel := RepL) p1).imp ?_⟩
    rintro xs H2 ⟨ι2, h2, ds, _, x2, r2, p2⟩
    obtain ⟨z, h3, ez, k⟩ := p2.lift2
    exact ⟨B, ι2, h2, h3, d, ds, z, x2.rel, r1.mono x1.rel x2, r2, ez, k⟩
  · simp only [hc, if_false] at p1
    exact p1.elim
theorem m_of0 {K : PySem.W.Frag} {T : String} {σ : L2.St} {H : Hp} {Q : VK} (hk : CkOk K T ck) (q : tE K W (mM ck o mr []) σ H Q) : tBM0 K T (rM K o) (tE K W mr) σ H Q := by
  obtain ⟨B, ι, h, σa, R, S, p⟩ := q
  refine ⟨B, ι, h, σa, R, S, (Post.bind (rel := Rep) p).imp ?_⟩
  rintro x H1 ⟨ι1, h1, d, _, x1, r1, p1⟩
  by_cases hc : ck d h1 = true
  · simp only [hc, if_true] at p1
    refine ⟨hk _ _ _ _ _ _ x1.rel r1 hc, ?_⟩
    have p2 : Post Rep K B ι1 h1.length H1 W σ (lift2 (o d [] h1)) Q := p1
    obtain ⟨z, h3, ez, k⟩ := p2.lift2
    exact ⟨B, ι1, h1, h3, d, [], z, x1.rel, r1, .nil, ez, k⟩
  · simp only [hc, if_false] at p1
    exact p1.elim
theorem se_M {name : PySem.Str} (pa : PlainAttrs T) (slot : Slot T name id) (hty : typeOf (.builtin id) = pure (.type "method_descriptor")) (hk : CkOk X.K T ck) (hm : MtR X id (rM X.K o)) (hr : SE X W r mr) (ha : SA X W (e :: es) (mArgs ms))
    (hbase : attributeBase r name X.env (eval r X.env) = eval r X.env := by rfl)
    (hfew : ((backTo pos (starEach (e :: es) X.env)).all (fun x => !x.1) && (backToKw pos (keywordEach [] X.env)).all (fun x => x.1.isSome) && decide ((e :: es).length + ([] : List Keyword).length + (if ([] : List Keyword).isEmpty then 0 else 1) < 30)) = true := by rfl)
    (hline : (apos.endLine == pos.line) = true := by rfl) (he : starEach (e :: es) X.env = (false, eval e X.env) :: starEach es X.env := by rfl) (hpl : (backTo pos (starEach es X.env)).any (·.1) = false := by rfl) :
    SE X W (.Call (.Attribute r name apos) (e :: es) [] pos) (mM ck o mr ms) := PE.imp (by first | exact pe_bm pa slot hty hm hr ha hbase hfew hline he hpl | exact pe_bm pa slot hty hm hr ha hbase hfew hline | exact pe_bm pa slot hty hm hr ha) fun _ _ _ => m_of hk
theorem se_M0 {name : PySem.Str} (pa : PlainAttrs T) (slot : Slot T name id) (hty : typeOf (.builtin id) = pure (.type "method_descriptor")) (hk : CkOk X.K T ck) (hm : MtR X id (rM X.K o)) (hr : SE X W r mr)
    (hbase : attributeBase r name X.env (eval r X.env) = eval r X.env := by rfl) (hline : (apos.endLine == pos.line) = true := by rfl) :
    SE X W (.Call (.Attribute r name apos) [] [] pos) (mM ck o mr []) := (pe_bm0 pa slot hty hm hr hbase hline).imp fun _ _ _ => m_of0 hk
/-- a list's cell changed -/
def oL (f : List D → List D → Option (D × List D)) : D → List D → AH → Option (D × AH) := fun d ds h => match d with
  | .loc n => match h[n]? with
    | some (.lst es) => (f es ds).map fun q => (q.1, h.set n (.lst q.2))
    | _ => none
  | _ => none
theorem oL_ok {K : PySem.W.Frag} {B : Addr → Prop} {ι : Nat → Addr} {h h' : AH} {H : Hp} (R : Rel K B ι h H) {f : List D → List D → Option (D × List D)} {x : V} {d z : D} {ds : List D} (q : Rep ⟨K, B, ι, h.length, H⟩ x d) (e : oL f d ds h = some (z, h')) :
    ∃ n es es' vs, d = .loc n ∧ n < h.length ∧ x = .ref (ι n) ∧ H (ι n) = some (.lst vs) ∧ RepL ⟨K, B, ι, h.length, H⟩ vs es ∧ f es ds = some (z, es') ∧ h' = h.set n (.lst es') := by
  unfold oL at e
  split at e
  · split at e
    · rename_i n _ es hc
      obtain ⟨⟨z', es'⟩, hf, e⟩ := Option.map_eq_some_iff.mp e
      cases e
      cases q with
      | loc hn =>
        cases R.cell _ _ hc with
        | lst ea l => exact ⟨n, es, es', _, rfl, hn, rfl, ea, l, hf, rfl⟩
    · cases e
  · cases e
/-- behind the change: the cell's new items stand for the new values -/
theorem oL_end {K : PySem.W.Frag} {B : Addr → Prop} {ι : Nat → Addr} {h : AH} {H : Hp} (R : Rel K B ι h H) {n : Nat} (hn : n < h.length) {es' : List D} {vs' : List V} (l : RepL ⟨K, B, ι, h.length, H⟩ vs' es') :
    Ext K B ι h.length H ι (h.set n (.lst es')) (upd H (ι n) (.lst vs')) ∧ Up ⟨K, B, ι, h.length, H⟩ ⟨K, B, ι, (h.set n (.lst es')).length, upd H (ι n) (.lst vs')⟩ := by
  have u := Up.write R hn (.lst es') (.lst vs')
  exact ⟨Ext.write R hn (.lst upd_same (l.up u)), u⟩
def fAppend : List D → List D → Option (D × List D) := fun es ds => match ds with
  | [v] => if es.length < sizeLine then some (.non, es ++ [v]) else none
  | _ => none
theorem m_append : MtR X "list.append" (rM X.K (oL fAppend)) := MtR_imp mt_append fun x xs H Q ⟨B, ι, h, h', d, ds, z, R, rx, rs, e, k⟩ => by
  obtain ⟨n, es, es', vs, rfl, hn, rfl, ea, l, hf, rfl⟩ := oL_ok R rx e
  unfold fAppend at hf
  split at hf
  · split at hf
    · rename_i hz
      cases hf
      obtain ⟨y, rfl, ry⟩ := one_rep rs
      obtain ⟨xx, u⟩ := oL_end R hn (l.append (RepL.one ry))
      exact ⟨_, _, y, rfl, rfl, ea, by rw [l.length]; exact hz, k ι _ _ xx .non⟩
    · cases hf
  · cases hf
def fPop : List D → List D → Option (D × List D) := fun es ds => match ds with
  | [] => (es[es.length - 1]?).map fun y => (y, es.dropLast)
  | _ => none
theorem RepL.dropLast {r : RC} {vs : List V} {ds : List D} (l : RepL r vs ds) : RepL r vs.dropLast ds.dropLast := by
  rw [List.dropLast_eq_take, List.dropLast_eq_take, l.length]
  exact l.take _
theorem m_pop : MtR X "list.pop" (rM X.K (oL fPop)) := MtR_imp mt_pop fun x xs H Q ⟨B, ι, h, h', d, ds, z, R, rx, rs, e, k⟩ => by
  obtain ⟨n, es, es', vs, rfl, hn, rfl, ea, l, hf, rfl⟩ := oL_ok R rx e
  unfold fPop at hf
  split at hf
  · obtain ⟨y, hy, hf⟩ := Option.map_eq_some_iff.mp hf
    cases hf
    cases rs
    obtain ⟨v, hv, rv⟩ := l.get hy
    obtain ⟨xx, u⟩ := oL_end R hn l.dropLast
    exact ⟨_, _, v, rfl, rfl, ea, by rw [l.length]; exact hv, k ι _ _ xx (rv.up u)⟩
  · cases hf
theorem RepL.eraseIdx {r : RC} : ∀ {vs : List V} {ds : List D} (n : Nat), RepL r vs ds → RepL r (vs.eraseIdx n) (ds.eraseIdx n)
  | _, _, _, .nil => by simpa using RepL.nil
  | _, _, 0, .cons _ l => l
  | _, _, n + 1, .cons q l => .cons q (RepL.eraseIdx n l)
def fPopAt : List D → List D → Option (D × List D) := fun es ds => match ds with
  | [.int i] => if -(2 ^ 63) ≤ i ∧ i < 2 ^ 63 then (ixN es.length i).bind fun k => (es[k]?).map fun y => (y, es.eraseIdx k) else none
  | _ => none
theorem m_popAt : MtR X "list.pop" (rM X.K (oL fPopAt)) := MtR_imp mt_popAt fun x xs H Q ⟨B, ι, h, h', d, ds, z, R, rx, rs, e, k⟩ => by
  obtain ⟨n, es, es', vs, rfl, hn, rfl, ea, l, hf, rfl⟩ := oL_ok R rx e
  unfold fPopAt at hf
  split at hf
  · split at hf
    · rename_i hi
      obtain ⟨j, hj, hf⟩ := Option.bind_eq_some_iff.mp hf
      obtain ⟨y, hy, hf⟩ := Option.map_eq_some_iff.mp hf
      cases hf
      obtain ⟨y', rfl, ry⟩ := one_rep rs
      cases ry
      obtain ⟨v, hv, rv⟩ := l.get hy
      obtain ⟨xx, u⟩ := oL_end R hn (l.eraseIdx j)
      exact ⟨_, _, _, j, v, rfl, rfl, ea, hi.1, hi.2, by rw [l.length]; exact (ixN_seq hj).1, hv, k ι _ _ xx (rv.up u)⟩
    · cases hf
  · cases hf
def fInsert : List D → List D → Option (D × List D) := fun es ds => match ds with
  | [.int i, y] => if es.length < sizeLine ∧ 0 ≤ i ∧ i < 2 ^ 63 then some (.non, es.take i.toNat ++ [y] ++ es.drop i.toNat) else none
  | _ => none
theorem m_insert : MtR X "list.insert" (rM X.K (oL fInsert)) := MtR_imp mt_insert fun x xs H Q ⟨B, ι, h, h', d, ds, z, R, rx, rs, e, k⟩ => by
  obtain ⟨n, es, es', vs, rfl, hn, rfl, ea, l, hf, rfl⟩ := oL_ok R rx e
  unfold fInsert at hf
  split at hf
  · split at hf
    · rename_i hi
      cases hf
      obtain ⟨y, y', rfl, ry, ry'⟩ := two_rep rs
      cases ry
      obtain ⟨xx, u⟩ := oL_end R hn (((l.take _).append (RepL.one ry')).append (l.drop _))
      exact ⟨_, _, _, y', rfl, rfl, ea, by rw [l.length]; exact hi.1, hi.2.1, hi.2.2, k ι _ _ xx .non⟩
    · cases hf
  · cases hf
end
end MW

set_option maxHeartbeats 2000000
/-! MW8: enumerate. -/
namespace L2
open PySem PySem.Spec PyProof.Rows
open PySem.Sem (wp)
open PySem.Builtin PySem.Builtin.Str
set_option maxHeartbeats 1000000 in
theorem meets_enum1 {v : Value} {o : Obj} {H : Heap → Prop} (B : Begins v o H) :
    Meets (Builtin.«enumerate.__new__» ⟨[.type "enumerate", v], []⟩) (fun _ R s => H s.heap ∧
      R (.ok (.ret (.ref (s.heap.push o).objs.size))) { s with heap := (s.heap.push o).push { cls := .type "enumerate", data := .fields #[.none, .bool false, .ref s.heap.objs.size, rawInt 0, .none, .none] } }) :=
  .of_wp fun prog w A R s h => by
    obtain ⟨hp, g, d, tk, os⟩ := s; obtain ⟨h1, h⟩ := h
    have hsub := sub_enumerate
    have q1 : ∀ {A' : Around} {E : Value → Shared → Prop} {Q : Value → Shared → Prop}, Q (.ref hp.objs.size) ⟨hp.push o, g, d, tk, os⟩ → wpAny (model prog w) A' (pyIter v) Q E ⟨hp, g, d, tk, os⟩ :=
      fun q => B.iter prog w _ _ ⟨hp, g, d, tk, os⟩ _ h1 q
    wp_walk using q1
    refine wpAny_stack_any fun st => wpAny_pure ?_
    split
    · rename_i c _ _ _ _ _
      cases (c == Value.type "enumerate")
      · wp_walk using q1
        exact ⟨_, rfl, h⟩
      · wp_walk using q1
        exact ⟨_, rfl, h⟩
    · wp_walk using q1
      exact ⟨_, rfl, h⟩
theorem enum_begins1 {prog : Program} {w : World} {A : Around} {E : Value → Shared → Prop} {s : Shared} {v : Value} {o : Obj} {H : Heap → Prop} {Q : Value → Shared → Prop} (B : Begins v o H) (h1 : H s.heap)
    (h : ∀ h', IsEnum h' (s.heap.objs.size + 1) s.heap.objs.size 0 .none → h'.get? s.heap.objs.size = some o → h'.objs.size = s.heap.objs.size + 2 →
      (∀ b o, s.heap.get? b = some o → h'.get? b = some o) → Q (.ref (s.heap.objs.size + 1)) { s with heap := h' }) :
    wpAny (model prog w) A (call (.type "enumerate") [v]) Q E s := by
  refine callType_new F.called_enumerate (by decide) (F.typeCall_enumerate_1 _) (F.newCall_enumerate_1 _) (fun obj => F.args_object_init_2 obj _) F.entry_enumerate_new
    (meets_enum1 B) ⟨h1, ?_⟩
  have hz : (s.heap.push o).objs.size = s.heap.objs.size + 1 := Heap.size_push ..
  show _ ∧ _
  rw [hz]
  have he : IsEnum ((s.heap.push o).push { cls := .type "enumerate", data := .fields #[.none, .bool false, .ref s.heap.objs.size, rawInt 0, .none, .none] }) (s.heap.objs.size + 1) s.heap.objs.size 0 .none := by
    have := Heap.get?_push_size (s.heap.push o) (o := { cls := .type "enumerate", data := .fields #[.none, .bool false, .ref s.heap.objs.size, rawInt 0, .none, .none] }) rfl
    rw [hz] at this; exact this
  exact ⟨⟨_, he, rfl⟩, h _ he (Heap.get?_push_of_some _ (Heap.get?_push_size _ B.free)) (by rw [Heap.size_push, hz]) fun b o x => Heap.get?_push_of_some _ (Heap.get?_push_of_some _ x)⟩
/-- enumerate(tuple) -/
def IteT (K : PySem.W.Frag) (a : Addr) : It :=
  ⟨fun i H => ∃ (xs : List V) (x : V), SqT K H a xs ∧ xs[i]? = some x, fun i H v H' => ∃ T x, v = .ref T ∧ H T = none ∧ H' = upd H T (.tup [.int (i : Nat), x]) ∧ ∀ xs, SqT K H a xs → xs[i]? = some x, fun i H => ∃ xs : List V, SqT K H a xs ∧ xs.length ≤ i⟩
theorem turn_enumT {P : Program} {w : World} {K : PySem.W.Frag} {elts : List Expr} {kk : Nat} {tpos : Pos} (a e it : Addr) (hat : a ≠ it) :
    Turn P w K (.Tuple elts kk tpos) (IteT K a) [e, it] e (fun i h => (∃ old, IsEnum h e it ((i : Nat) : Int) old) ∧ h.IsTupleIter it a i ∧ e ≠ it) where
  mem := by simp
  obj := fun i h st b hb => by
    obtain ⟨⟨old, he⟩, ⟨o, ho, hc, hd⟩, _⟩ := st
    have e' : b = e ∨ b = it := by simpa using hb
    rcases e' with z | z
    · rw [z]; exact ⟨_, he, fun v q => nomatch q⟩
    · rw [z]; exact ⟨o, ho, fun v q => by rw [hd] at q; cases q⟩
  keep := fun i h h' st k => let ⟨⟨old, he⟩, hi, hne⟩ := st; ⟨⟨old, k e (by simp) _ he⟩, hi.at fun o q => k it (by simp) o q, hne⟩
  item := by
    intro X hP hw hK hc i pins s σ H E I hf st hg
    subst hP hw hK
    obtain ⟨⟨old, he⟩, hit, hne⟩ := st
    obtain ⟨xs, x, hq, hx⟩ := hg
    obtain ⟨its, rv, p, hz⟩ := I.tuple hq
    obtain ⟨u, hu, ru⟩ := rv.get hx
    have hel : e < s.heap.objs.size := Heap.lt_size he
    have hil : it < s.heap.objs.size := by obtain ⟨_, q, _⟩ := hit; exact Heap.lt_size q
    have hT0 : s.heap.IsTuple a its.toArray := p
    have hA : X.A.in1.handled = none := I.ok.hd hc
    have hea : e ≠ a := fun z => by
      obtain ⟨o, ho, hco, _⟩ := hT0
      rw [← z, he] at ho
      cases ho
      exact absurd (show Value.type "enumerate" = Value.type "tuple" from hco) (fun q => by injection q with q; exact absurd q (by decide))
    refine wpAny_pyNext_enum_itemD (Draws.tuple hA it a hat its.toArray) he ⟨hit, hT0⟩ (show i < its.toArray.size by have := (List.getElem?_eq_some_iff.mp hu).1; simpa using this) hne (by simp [hne, hea]) fun x' h' tk hPx ho hst hT hsz hk => ?_
    have hxe : x' = u := by
      have : its[i]? = some x' := by simpa using hPx
      rw [hu] at this
      exact (Option.some.inj this).symm
    subst hxe
    obtain ⟨hit', _⟩ := hst
    refine ⟨_, rfl, wpAny_letOwnedTupleGo_enum (s := { s with heap := h', toks := tk + 1 }) ho fun h'' he' sb => ?_⟩
    have hT2 : h''.get? s.heap.objs.size = some { cls := .type "tuple", data := .seq #[.int i tk, x'] } := (sb.2 _ (Nat.ne_of_gt hel)).trans hT
    have new : ObjOk X.prog X.w (upd H s.heap.objs.size (.tup [.int (i : Nat), x])) h'' s.heap.objs.size (.tup [.int (i : Nat), x]) :=
      ⟨by show 2 ≤ sizeLine; decide, [.int i tk, x'], .cons ⟨_, rfl⟩ (.cons ru .nil), ⟨_, hT2, rfl, _, rfl⟩⟩
    have I1 : Inv X pins σ (upd H s.heap.objs.size (.tup [.int (i : Nat), x])) { s with heap := h'', toks := tk + 1 } :=
      I.turnedNew (ch := [e, it]) (fun b ob hb q => (sb.2 b (fun z => hb (by simp [z]))).trans (hk b ob (fun z => hb (by simp [z])) (fun z => hb (by simp [z])) q)) hf (Nat.le_refl _) new
    refine ⟨.ref s.heap.objs.size, _, I1, rfl, ⟨_, x, rfl, I.hok.fresh (Nat.le_refl _), rfl, fun ys hy => by rw [I.tuple_inj hy hq]; exact hx⟩, ⟨⟨x', ?_⟩, hit'.at fun o q => (sb.2 it (Ne.symm hne)).trans q, hne⟩, fun b hb => ?_⟩
    · have e1 : ((i + 1 : Nat) : Int) = (i : Int) + 1 := by omega
      rw [e1]; exact he'
    · have hb' : b < s.heap.objs.size := by
        have e' : b = e ∨ b = it := by simpa using hb
        rcases e' with z | z
        · rw [z]; exact hel
        · rw [z]; exact hil
      rw [upd_ne (Nat.ne_of_lt hb')]
      exact (hf b hb).1
  done := by
    intro X hP hw hK hc i pins s σ H E I hf st hg
    subst hP hw hK
    obtain ⟨⟨old, he⟩, hit, hne⟩ := st
    obtain ⟨xs, hq, hx⟩ := hg
    obtain ⟨its, rv, p, hz⟩ := I.tuple hq
    obtain ⟨f0, f1, f2, f3, f4, f5⟩ := hf it (by simp)
    have hl := rv.length
    have hT0 : s.heap.IsTuple a its.toArray := p
    have hA : X.A.in1.handled = none := I.ok.hd hc
    have hT : s.TypeIs (.ref e) "enumerate" := ⟨_, he, rfl⟩
    unfold pyNext
    refine wpAny_bind (wpAny_attempt (wpAny_callSpecial?_slot (name := Str.ofString "__next__") hT F.slot_enumerate_next
      (wpAny_call_entry F.slot_enumerate_next hT F.entry_enumerate_next ?_ (F.args_enumerate_next_1 _))))
    show wpAny _ _ (field (.ref e) 2 >>= _) _ _ _
    refine wpAny_bind (wpAny_field he rfl (x := .ref it) rfl ?_)
    refine wpAny_bind (wpAny_nextOf_tuple_end hA hit hT0 (i := i) (by simp; omega) fun h' x he' hx' => ?_)
    obtain ⟨o, ho, hcc⟩ := hx'
    refine wpAny_bind (wpAny_isInstance (T := "StopIteration") (b := true) ⟨o, ho, hcc⟩ isSubtype_stop ?_)
    exact wpAny_pure ⟨rfl, I.turned (t' := s.toks) (fun b o hb q => he' b o hb q) f0 f1 f3 f4 f5⟩
  self := fun A i s Q E st h => let ⟨⟨_, he⟩, _⟩ := st; wpAny_pyIter_enum he h
def iEnumT (K : PySem.W.Frag) (ta : TA) : TI := fun σ H R => ta σ H fun vs H1 => ∃ a xs, vs = [.ref a] ∧ SqT K H1 a xs ∧ R (IteT K a) H1
theorem pi_enumT {X : Cx} {e : Expr} {ta : TA} {p pos tpos : Pos} {elts : List Expr} {kk : Nat} (hg : Gl X "enumerate") (hm : X.mg "enumerate" = none) (ha : PA X [e] ta) (hs : starEach [e] X.env = [(false, eval e X.env)] := by rfl) :
    PI X (.Tuple elts kk tpos) (.Call (.Name "enumerate" p) [e] [] pos) (iEnumT X.K ta) := by
  refine ⟨fun pins s σ H R I h => ?_⟩
  refine Call_ (ld_blt I hg hm boot_enumerate (PyProof.Rows.callWith_type1 (thn (ha.run pos pins s σ H _ I h) fun us s1 ⟨vs, H1, I1, r1, q1⟩ => ?_) hs rfl))
  obtain ⟨a, xs, ex, hq, q⟩ := q1
  subst ex
  cases r1 with
  | cons r rr =>
    cases rr
    cases r
    obtain ⟨its, rv, p', hz⟩ := I1.tuple hq
    have hT0 : s1.heap.IsTuple a its.toArray := p'
    have hlt : a < s1.heap.objs.size := by obtain ⟨o, ho, _⟩ := hT0; exact Heap.lt_size ho
    refine enum_begins1 (begins_tuple a its.toArray) hT0 fun h' he hit hsz hk => wpAny_pyIter_enum he ?_
    have I2 : Inv X pins σ H1 { s1 with heap := h' } := I1.kept (t' := s1.toks) hk
    refine ⟨s1.heap.objs.size + 1, [s1.heap.objs.size + 1, s1.heap.objs.size], _, _, H1, rfl, I2, turn_enumT a (s1.heap.objs.size + 1) s1.heap.objs.size (Nat.ne_of_lt hlt), ⟨⟨.none, he⟩, ⟨_, hit, rfl, rfl⟩, Nat.succ_ne_self _⟩, fun b hb => ?_, q⟩
    have e' : b = s1.heap.objs.size + 1 ∨ b = s1.heap.objs.size := by simpa using hb
    have hle : s1.heap.objs.size ≤ b := by
      rcases e' with z | z
      · rw [z]; exact Nat.le_add_right _ _
      · rw [z]; exact Nat.le_refl _
    exact I1.fpOk hle (I1.hok.fresh hle)
end L2
namespace MW
open PySem PySem.Spec PyProof.Rows L2
/-! ### enumerate -/
def enumFrom : Nat → List D → List D
  | _, [] => []
  | i, d :: ds => .tup [.int (i : Nat), d] :: enumFrom (i + 1) ds
theorem enumFrom_length : ∀ (ds : List D) (i : Nat), (enumFrom i ds).length = ds.length
  | [], _ => rfl
  | _ :: ds, i => by simp [enumFrom, enumFrom_length ds]
theorem enumFrom_get : ∀ (ds : List D) (i j : Nat), (enumFrom i ds)[j]? = (ds[j]?).map fun d => .tup [.int ((i + j : Nat) : Int), d]
  | [], _, _ => by simp [enumFrom]
  | d :: ds, i, 0 => by simp [enumFrom]
  | d :: ds, i, j + 1 => by
    simp only [enumFrom, List.getElem?_cons_succ, enumFrom_get ds (i + 1) j]
    rw [show i + 1 + j = i + (j + 1) by omega]
def fEnumL : D → AH → Option (List D × (AH → Bool)) := fun d h => (fLst d h).map fun q => (enumFrom 0 q.1, q.2)
def fEnumT : D → AH → Option (List D × (AH → Bool)) := fun d h => (fTup d h).map fun q => (enumFrom 0 q.1, q.2)
def fEnum : D → AH → Option (List D × (AH → Bool)) := fun d h => (fEnumL d h).or (fEnumT d h)
section
variable {X : Cx} {W : WX} {e : Expr} {me : ME} {p pos tpos : Pos} {elts : List Expr} {kk : Nat}
theorem tG_imp' {α β : Type} {rel : RC → β → α → Prop} {K : PySem.W.Frag} {m : SL → AH → R α} {σ : L2.St} {H : Hp} {Q Q' : β → Hp → Prop} (q : tG rel K W m σ H Q) (i : ∀ v H, Q v H → Q' v H) : tG rel K W m σ H Q' :=
  let ⟨B, ι, h, σa, R, S, p⟩ := q; ⟨B, ι, h, σa, R, S, p.imp i⟩
theorem sa_one' {σ : L2.St} {H : Hp} {Q : V → Hp → Prop} (q : tE X.K W me σ H Q) : tA X.K W (mArgs [me]) σ H fun vs H1 => ∃ v, vs = [v] ∧ Q v H1 := by
  obtain ⟨B, ι, h, σa, R, S, p⟩ := q
  refine ⟨B, ι, h, σa, R, S, ?_⟩
  simp only [mArgs]
  cases e : me σa h with
  | ok d h1 =>
    rw [e] at p
    intro ι' H' v x r
    cases r with
    | cons r l => cases l; exact ⟨_, rfl, p ι' H' _ x r⟩
  | exc c L ds h1 => rw [e] at p; exact p
  | bad => rw [e] at p; exact p
theorem si_enumL (he : SE X W e me) (hm : X.mg "enumerate" = none) (hg : Gl X "enumerate" := by rfl) (hs : starEach [e] X.env = [(false, eval e X.env)] := by rfl) :
    SI X W (.Tuple elts kk tpos) (.Call (.Name "enumerate" p) [e] [] pos) (mIt fEnumL me) :=
  pi_imp (pi_enum hg hm (sa_cons (W := W) (ms := []) he sa_nil hs) hs) fun σ H Q q => by
    have q2 := it_of (Q' := fun v H1 => ∃ a xs, v = .ref a ∧ SqL X.K H1 a xs ∧ Q (Ite X.K a) H1) q fun B ι h H1 v d items G R r hf k => by
      unfold fEnumL at hf
      obtain ⟨⟨its, G'⟩, hf2, e⟩ := Option.map_eq_some_iff.mp hf
      clear hf
      cases e
      have hf := hf2
      obtain ⟨a, rfl, ⟨vs, hs, _⟩, ls⟩ := fLst_ok R r hf
      refine ⟨a, vs, rfl, hs, k _ fun i B2 ι2 h2 H2 x2 u2 hG => ?_⟩
      obtain ⟨ws, hw, lw⟩ := ls B2 ι2 h2 H2 x2 u2 hG
      refine ⟨fun e => ⟨ws, hw, by rw [lw.length, e]; simp [enumFrom_length]⟩, fun d hd => ?_⟩
      rw [enumFrom_get] at hd
      obtain ⟨d', hd', rfl⟩ := Option.map_eq_some_iff.mp hd
      obtain ⟨v, hv, rv⟩ := lw.get hd'
      refine ⟨⟨ws, v, hw, hv⟩, fun x H3 ⟨T, y, e1, e2, e3, e4⟩ => ?_⟩
      subst e1 e3
      have := e4 _ hw
      rw [hv] at this
      cases this
      have u := Up.fresh x2 e2 (.tup [.int (i : Nat), v])
      exact ⟨Ext.fresh x2 e2 _, .tup upd_same (.cons (by rw [Nat.zero_add]; exact .int _) (RepL.one (rv.up u)))⟩
    exact tG_imp' (sa_one' q2) fun vs H1 ⟨v, ev, a, xs, e1, e2, e3⟩ => ⟨a, xs, by rw [ev, e1], e2, e3⟩
theorem si_enumT (he : SE X W e me) (hm : X.mg "enumerate" = none) (hg : Gl X "enumerate" := by rfl) (hs : starEach [e] X.env = [(false, eval e X.env)] := by rfl) :
    SI X W (.Tuple elts kk tpos) (.Call (.Name "enumerate" p) [e] [] pos) (mIt fEnumT me) :=
  pi_imp (pi_enumT hg hm (sa_cons (W := W) (ms := []) he sa_nil hs) hs) fun σ H Q q => by
    have q2 := it_of (Q' := fun v H1 => ∃ a xs, v = .ref a ∧ SqT X.K H1 a xs ∧ Q (IteT X.K a) H1) q fun B ι h H1 v d items G R r hf k => by
      unfold fEnumT fTup at hf
      obtain ⟨⟨its, G'⟩, hf2, e⟩ := Option.map_eq_some_iff.mp hf
      clear hf
      have hf := hf2
      clear hf2
      cases e
      split at hf
      · cases hf
        cases r with
        | tup ea l =>
          refine ⟨_, _, rfl, .inl (.inl ea), k _ fun i B2 ι2 h2 H2 x2 u2 hG => ?_⟩
          have hw : SqT X.K H2 _ _ := .inl (.inl (u2.sq _ _ ea))
          have lw := l.up u2
          refine ⟨fun e => ⟨_, hw, by rw [lw.length, e]; simp [enumFrom_length]⟩, fun d hd => ?_⟩
          rw [enumFrom_get] at hd
          obtain ⟨d', hd', rfl⟩ := Option.map_eq_some_iff.mp hd
          obtain ⟨v, hv, rv⟩ := lw.get hd'
          refine ⟨⟨_, v, hw, hv⟩, fun x H3 ⟨T, y, e1, e2, e3, e4⟩ => ?_⟩
          subst e1 e3
          have := e4 _ hw
          rw [hv] at this
          cases this
          have u := Up.fresh x2 e2 (.tup [.int (i : Nat), v])
          exact ⟨Ext.fresh x2 e2 _, .tup upd_same (.cons (by rw [Nat.zero_add]; exact .int _) (RepL.one (rv.up u)))⟩
      · cases hf
    exact tG_imp' (sa_one' q2) fun vs H1 ⟨v, ev, a, xs, e1, e2, e3⟩ => ⟨a, xs, by rw [ev, e1], e2, e3⟩
theorem si_enum (he : SE X W e me) (hm : X.mg "enumerate" = none) (hg : Gl X "enumerate" := by rfl) (hs : starEach [e] X.env = [(false, eval e X.env)] := by rfl) :
    SI X W (.Tuple elts kk tpos) (.Call (.Name "enumerate" p) [e] [] pos) (mIt fEnum me) := pi_imp (pi_or (si_enumL he hm hg hs) (si_enumT he hm hg hs)) fun σ H Q ⟨B, ι, h, σa, R, S, p⟩ => by
  unfold fEnum at p
  rw [mIt_or] at p
  cases e1 : mIt fEnumL me σa h with
  | ok z h' => rw [e1] at p; exact .inl ⟨B, ι, h, σa, R, S, by rw [e1]; exact p⟩
  | exc c L d h' => rw [e1] at p; exact .inl ⟨B, ι, h, σa, R, S, by rw [e1]; exact p⟩
  | bad => rw [e1] at p; exact .inr ⟨B, ι, h, σa, R, S, p⟩
end
end MW

set_option maxHeartbeats 2000000
/-! MW9: comprehensions. -/
namespace MW
open PySem PySem.Spec PyProof.Rows L2

/-! ### an object that is another's, besides -/
section
variable {K : PySem.W.Frag} {B B' : Addr → Prop} {ι ι' : Nat → Addr} {n : Nat} {h h' : AH} {H H' : Hp}
/-- fewer addresses are another's -/
theorem Up.less (hB : ∀ a, B a → B' a) : Up ⟨K, B', ι, n, H⟩ ⟨K, B, ι, n, H⟩ := ⟨rfl, fun _ _ e => e, fun _ _ _ e => e, fun _ _ _ e => e, fun _ _ _ e => e, fun _ _ _ f => ⟨fun b => f.1 (hB _ b), f.2⟩, fun _ q => q, fun _ _ => rfl⟩
theorem Rel.less (hB : ∀ a, B a → B' a) (R : Rel K B' ι h H) : Rel K B ι h H := ⟨R.inj, fun i c e => (R.cell i c e).up (Up.less hB) fun _ q => q, fun i hi b => R.nb i hi (hB _ b), fun a b => R.bt a (hB _ b)⟩
theorem Ext.less (hB : ∀ a, B a → B' a) (x : Ext K B' ι n H ι' h' H') : Ext K B ι n H ι' h' H' := ⟨x.le, x.agr, x.keep, x.new, x.rel.less hB⟩
abbrev plusB (B : Addr → Prop) (D : Addr) : Addr → Prop := fun a => B a ∨ a = D
theorem Up.plus {D : Addr} {o : HO} (hD : H D = none) : Up ⟨K, B, ι, n, H⟩ ⟨K, plusB B D, ι, n, upd H D o⟩ := by
  have k : ∀ a o', H a = some o' → (upd H D o) a = some o' := fun a o' e => by rw [upd_ne (ne_of_none e hD)]; exact e
  have rd : ∀ {a : Addr} {u : HO}, Rd H a u → Rd (upd H D o) a u := fun e => by
    rcases e with e | ⟨q, e⟩
    · exact .inl (k _ _ e)
    · exact .inr ⟨q, k _ _ e⟩
  exact ⟨rfl, fun a vs e => k _ _ e, fun a o' vs e => k _ _ e, fun a u _ e => rd e, fun a o' _ e => k _ _ e, fun a o' e f => ⟨fun b => (show B a ∨ a = D from b).elim f.1 (fun z => by
    have e : H a = some o' := e
    rw [z, hD] at e; cases e), f.2⟩, fun _ q => q, fun _ _ => rfl⟩
theorem Rel.plus (R : Rel K B ι h H) {D : Addr} {o : HO} (hD : H D = none) : Rel K (plusB B D) ι h (upd H D o) := by
  have k : ∀ a o', H a = some o' → (upd H D o) a = some o' := fun a o' e => by rw [upd_ne (ne_of_none e hD)]; exact e
  refine ⟨R.inj, fun i c e => (R.cell i c e).up (Up.plus hD) (k _), fun i hi b => b.elim (R.nb i hi) fun z => R.ne_new hD i hi z, fun a b => ?_⟩
  rcases b with b | b
  · obtain ⟨o', q⟩ := R.bt a b
    exact ⟨o', k _ _ q⟩
  · exact ⟨o, by rw [b]; exact upd_same⟩
/-- what is written there is nobody's -/
theorem Up.beside (R : Rel K B' ι h H) {D : Addr} {xs : List V} {o : HO} (hD : B' D) (e : H D = some (.lst xs)) : Up ⟨K, B', ι, h.length, H⟩ ⟨K, B', ι, h.length, upd H D o⟩ := by
  have k : ∀ a o', a ≠ D → H a = some o' → (upd H D o) a = some o' := fun a o' z e => by rw [upd_ne z]; exact e
  refine ⟨rfl, fun a vs q => k _ _ (fun z => by
    have q : H a = some (.tup vs) := q
    rw [z, e] at q; cases q) q, fun a o' vs q => k _ _ (fun z => by
    have q : H a = some (.frz o' (.lst vs)) := q
    rw [z, e] at q; cases q) q, fun a u f q => ?_, fun a o' f q => k _ _ (fun z => f.1 (by rw [z]; exact hD)) q, fun _ _ _ f => f, fun _ q => q, fun _ _ => rfl⟩
  have ne : a ≠ D := fun z => f.1 (by rw [z]; exact hD)
  rcases q with q | ⟨w, q⟩
  · exact .inl (k _ _ ne q)
  · exact .inr ⟨w, k _ _ ne q⟩
theorem Rel.beside (R : Rel K B' ι h H) {D : Addr} {xs : List V} {o : HO} (hD : B' D) (e : H D = some (.lst xs)) : Rel K B' ι h (upd H D o) := by
  refine ⟨R.inj, fun i c q => (R.cell i c q).up (Up.beside R hD e) fun o' q' => ?_, R.nb, fun a b => ?_⟩
  · show (upd H D o) (ι i) = some o'
    rw [upd_ne fun z => R.nb i (List.getElem?_eq_some_iff.mp q).1 (by rw [z]; exact hD)]
    exact q'
  · obtain ⟨o', q⟩ := R.bt a b
    by_cases z : a = D
    · exact ⟨o, by rw [z]; exact upd_same⟩
    · exact ⟨o', by rw [upd_ne z]; exact q⟩
theorem Ext.beside {H0 : Hp} {ι0 : Nat → Addr} (x : Ext K B ι0 n H0 ι h H) (hB : ∀ a, B a → B' a) (R : Rel K B' ι h H) {D : Addr} {xs : List V} {o : HO} (hD : B' D) (e : H D = some (.lst xs)) (h0 : H0 D = none) : Ext K B ι0 n H0 ι h (upd H D o) :=
  ⟨x.le, x.agr, fun a o' q z => by rw [upd_ne (ne_of_none q h0)]; exact x.keep _ _ q z, x.new, (R.beside hD e).less hB⟩
theorem Ext.at_other (R : Rel K B ι h H) (x : Ext K B ι h.length H ι' h' H') {D : Addr} {o : HO} (hD : B D) (e : H D = some o) : H' D = some o := x.keep _ _ e fun i hi z => R.nb i hi (by rw [z]; exact hD)
/-- .. taken as a cell -/
theorem Ext.adopt {H0 : Hp} {ι0 : Nat → Addr} {D : Addr} (x : Ext K B ι0 n H0 ι h H) (R : Rel K (plusB B D) ι h H) {xs : List V} {ds : List MW.D} (e : H D = some (.lst xs)) (h0 : H0 D = none) (nB : ¬ B D) (l : RepL ⟨K, plusB B D, ι, h.length, H⟩ xs ds) :
    Ext K B ι0 n H0 (fun j => if j = h.length then D else ι j) (h ++ [.lst ds]) H := by
  have nd : ∀ i, i < h.length → ι i ≠ D := fun i hi z => R.nb i hi (.inr z)
  have u : Up ⟨K, plusB B D, ι, h.length, H⟩ ⟨K, B, (fun j => if j = h.length then D else ι j), h.length + 1, H⟩ := by
    refine ⟨rfl, fun _ _ q => q, fun _ _ _ q => q, fun _ _ _ q => q, fun _ _ _ q => q, fun a o q f => ⟨fun b => f.1 (.inl b), fun i hi => ?_⟩, fun i hi => Nat.lt_succ_of_lt hi, fun i hi => if_neg (Nat.ne_of_lt hi)⟩
    show (if i = h.length then D else ι i) ≠ a
    by_cases z : i = h.length
    · rw [if_pos z]; exact fun w => f.1 (.inr w.symm)
    · rw [if_neg z]; exact f.2 i (by have hi2 : i < h.length + 1 := hi; show i < h.length; omega)
  have ll : (h ++ [Cell.lst ds]).length = h.length + 1 := by simp
  refine ⟨by rw [ll]; exact Nat.le_succ_of_le x.le, fun i hi => ?_, x.keep, fun i h1 h2 => ?_, ⟨fun i j hi hj q => ?_, fun i c q => ?_, fun i hi b => ?_, fun a b => R.bt a (.inl b)⟩⟩
  · show (if i = h.length then D else ι i) = ι0 i
    rw [if_neg (Nat.ne_of_lt (Nat.lt_of_lt_of_le hi x.le))]
    exact x.agr i hi
  · show H0 (if i = h.length then D else ι i) = none
    by_cases z : i = h.length
    · rw [if_pos z]; exact h0
    · rw [if_neg z]; exact x.new i h1 (by rw [ll] at h2; omega)
  · rw [ll] at hi hj
    have q : (if i = h.length then D else ι i) = (if j = h.length then D else ι j) := q
    by_cases z : i = h.length
    · by_cases w : j = h.length
      · omega
      · rw [if_pos z, if_neg w] at q
        exact absurd q.symm (nd j (by omega))
    · by_cases w : j = h.length
      · rw [if_neg z, if_pos w] at q
        exact absurd q (nd i (by omega))
      · rw [if_neg z, if_neg w] at q
        exact R.inj i j (by omega) (by omega) q
  · show CellR ⟨K, B, _, (h ++ [Cell.lst ds]).length, H⟩ (if i = h.length then D else ι i) c
    rw [ll]
    by_cases h1 : i < h.length
    · rw [List.getElem?_append_left h1] at q
      rw [if_neg (Nat.ne_of_lt h1)]
      exact (R.cell i c q).up u fun o' q => q
    · have e' : i = h.length := by
        have := (List.getElem?_eq_some_iff.mp q).1
        rw [ll] at this; omega
      subst e'
      rw [List.getElem?_append_right (Nat.le_refl _)] at q
      simp at q; subst q
      rw [if_pos rfl]; exact .lst e (l.up u)
  · have b : B (if i = h.length then D else ι i) := b
    by_cases z : i = h.length
    · rw [if_pos z] at b; exact nB b
    · rw [if_neg z] at b; exact R.nb i (by rw [ll] at hi; omega) (.inl b)
end

/-! ### targets that write the given slots alone -/
def tGc (K : PySem.W.Frag) (g : MG) (vs : List Nat) : TG := fun v σ H Q => ∃ (B : Addr → Prop) (ι : Nat → Addr) (h : AH) (σa σ' : SL) (d : D), Rel K B ι h H ∧ RepS ⟨K, B, ι, h.length, H⟩ σ σa ∧ Rep ⟨K, B, ι, h.length, H⟩ v d ∧ g d σa h = some σ' ∧
  ∀ σ2, RepS ⟨K, B, ι, h.length, H⟩ σ2 σ' → wipe σ2 vs = wipe σ vs → Q σ2 H
def tGcs (K : PySem.W.Frag) (gs : List MG) (vs : List Nat) : TGs := fun xs σ H Q => ∃ (B : Addr → Prop) (ι : Nat → Addr) (h : AH) (σa σ' : SL) (ds : List D), Rel K B ι h H ∧ RepS ⟨K, B, ι, h.length, H⟩ σ σa ∧ RepL ⟨K, B, ι, h.length, H⟩ xs ds ∧ gAll gs ds σa h = some σ' ∧
  ∀ σ2, RepS ⟨K, B, ι, h.length, H⟩ σ2 σ' → wipe σ2 vs = wipe σ vs → Q σ2 H
abbrev SGc (X : Cx) (vs : List Nat) (e : Expr) (g : MG) : Prop := PG X e (tGc X.K g vs)
abbrev SGcs (X : Cx) (vs : List Nat) (es : List Expr) (gs : List MG) : Prop := PGs X es (tGcs X.K gs vs)
theorem wipe_get (σ : L2.St) (j : Nat) : ∀ (vs : List Nat), (wipe σ vs)[j]? = if j ∈ vs then (if j < σ.length then some none else none) else σ[j]?
  | [] => by simp [wipe]
  | v :: vs => by
    unfold wipe
    by_cases e : v = j
    · subst e
      by_cases hl : v < σ.length
      · rw [List.getElem?_set_self (by rw [wipe_length]; exact hl)]
        simp [hl]
      · rw [List.getElem?_eq_none (by rw [List.length_set, wipe_length]; omega)]
        simp [hl]
    · rw [List.getElem?_set_ne e, wipe_get σ j vs]
      have : j ∈ v :: vs ↔ j ∈ vs := by
        rw [List.mem_cons]
        exact ⟨fun q => q.elim (fun z => absurd z.symm e) id, .inr⟩
      simp only [this]
theorem wipe_set {σ : L2.St} {i : Nat} {vs : List Nat} {x : Option V} (hi : i ∈ vs) : wipe (σ.set i x) vs = wipe σ vs := by
  apply List.ext_getElem?
  intro j
  rw [wipe_get, wipe_get]
  by_cases hj : j ∈ vs
  · simp [hj]
  · simp only [hj, if_false]
    exact List.getElem?_set_ne fun z => hj (by rw [← z]; exact hi)
theorem wipe_wipe (σ : L2.St) (vs : List Nat) : wipe (wipe σ vs) vs = wipe σ vs := by
  apply List.ext_getElem?
  intro j
  rw [wipe_get, wipe_get, wipe_length]
  by_cases hj : j ∈ vs
  · simp [hj]
  · simp [hj]
def wipeA (σ : SL) : List Nat → SL
  | [] => σ
  | v :: vs => (wipeA σ vs).set v none
theorem RepS.wipe {r : RC} {σ : L2.St} {σa : SL} (q : RepS r σ σa) : ∀ vs : List Nat, RepS r (L2.wipe σ vs) (wipeA σa vs)
  | [] => q
  | v :: vs => (RepS.wipe q vs).clear v
section
variable {X : Cx} {pos : Pos} {e : Expr} {es : List Expr} {g : MG} {gs : List MG} {vs : List Nat}
theorem sgc_name (i : Nat) {x : PySem.Str} (hN : X.N.Nodup) (hv : i ∈ vs := by decide) (hi : X.N[i]? = some x := by rfl) (hx : Loc X.env.scope x := by first | exact .inl rfl | exact .inr rfl) (hf : X.fn x = true ∨ X.env.scope.names.lookup x = some .local := by first | exact .inl rfl | exact .inr rfl | assumption) : SGc X vs (.Name x pos) (gN i) :=
  pg_imp (pg_name hN hi hx hf) fun v σ H Q ⟨B, ι, h, σa, σ', d, R, S, r, q, k⟩ => by
    cases q
    exact k _ (S.set r i) (wipe_set hv)
theorem sgcs_nil : SGcs X vs [] [] := pgs_imp pgs_nil fun xs σ H Q ⟨B, ι, h, σa, σ', ds, R, S, r, q, k⟩ => by
  cases ds with
  | nil => cases r; cases q; exact ⟨rfl, k _ S rfl⟩
  | cons _ _ => simp [gAll] at q
theorem sgcs_cons (h1 : SGc X vs e g) (h2 : SGcs X vs es gs) (hs : (assignEach (e :: es) X.env).map (·.2) = assign e X.env :: (assignEach es X.env).map (·.2) := by rfl) : SGcs X vs (e :: es) (g :: gs) := pgs_imp (pgs_cons h1 h2 hs) fun xs σ H Q ⟨B, ι, h, σa, σ', ds, R, S, r, q, k⟩ => by
  cases r with
  | nil => simp [gAll] at q
  | cons r l =>
    simp only [gAll] at q
    obtain ⟨σ1, q1, q2⟩ := Option.bind_eq_some_iff.mp q
    exact ⟨_, _, rfl, B, ι, h, σa, σ1, _, R, S, r, q1, fun σ2 S2 w => ⟨B, ι, h, σ1, σ', _, R, S2, l, q2, fun σ3 S3 w3 => k σ3 S3 (w3.trans w)⟩⟩
theorem sgc_tup {k : Nat} (hc : X.calm = true) (hg : SGcs X vs es gs) (hn : (assignEach es X.env).length = gs.length := by rfl) (hst : (assignEach es X.env).findIdx? (·.1) = none := by rfl) : SGc X vs (.Tuple es k pos) (gT gs) :=
  pg_imp (pg_or (pg_tup (n := gs.length) hc hg hn hst) (pg_lst (n := gs.length) hc hg hn hst)) fun v σ H Q ⟨B, ι, h, σa, σ', d, R, S, r, q, k⟩ => by
    unfold gT at q
    split at q
    · cases r with
      | tup ea l => exact .inl ⟨_, _, rfl, .inl (.inl ea), by rw [l.length, gAll_length q], B, ι, h, σa, σ', _, R, S, l, q, k⟩
    · split at q
      · rename_i ds hl
        obtain ⟨p, vs, rfl, ea, l⟩ := lsOf_rep R r hl
        exact .inr ⟨_, _, rfl, SqL.of ea, by rw [l.length, gAll_length q], B, ι, h, σa, σ', _, R, S, l, q, k⟩
      · cases q
end

/-! ### the loop -/
def compL (G : AH → Bool) (g : MG) (vs : List Nat) (c : MT) (e : ME) : List D → SL → AH → R (List D)
  | [] => fun _ h => if G h = true then .ok [] h else .bad
  | d :: ds => fun σ h => if G h = true then match g d (wipeA σ vs) h with
      | some σ' => (c σ' h).bind fun b h => if b = true then (e σ' h).bind fun y h => (compL G g vs c e ds σ h).bind fun ys h => .ok (y :: ys) h else compL G g vs c e ds σ h
      | none => .bad
    else .bad
def mComp (mi : MI) (g : MG) (vs : List Nat) (c : MT) (e : ME) : ME := fun σ h => (mi σ h).bind fun a h => if a.1.length ≤ sizeLine then match compL a.2 g vs c e a.1 σ h with
    | .ok zs h => .ok (.lst zs) h
    | _ => .bad
  else .bad
def mCompN (mi : MI) (g : MG) (vs : List Nat) (c : MT) (e : ME) : ME := fun σ h => (mi σ h).bind fun a h => if a.1.length ≤ sizeLine then match compL a.2 g vs c e a.1 σ h with
    | .ok zs h => .ok (.loc h.length) (h ++ [.lst zs])
    | _ => .bad
  else .bad
def mYes : MT := fun _ h => .ok true h
abbrev STs (X : Cx) (ifs : List Expr) (m : MT) : Prop := PTs X ifs (tT X.K W0 m)
theorem sts_nil {X : Cx} : STs X [] mYes := ⟨fun pins s σ H Q I ⟨B, ι, h, σa, R, S, p⟩ => pts_nil.run pins s σ H Q I (p ι H true (Ext.refl R) rfl)⟩
theorem sts_one {X : Cx} {c : Expr} {m : MT} (h : ST X W0 c m) : STs X [c] m := pts_one h
theorem comp_run {K : PySem.W.Frag} {B : Addr → Prop} {ι1 : Nat → Addr} {h1 : AH} {H1 : Hp} {σ : L2.St} {σa : SL} {J : It} {items : List D} {G : AH → Bool} {g : MG} {vs : List Nat} {c : MT} {e : ME} {Q : V → Hp → Prop}
    (R1 : Rel K B ι1 h1 H1) (S1 : RepS ⟨K, B, ι1, h1.length, H1⟩ σ σa) (ok : ItOk K B ι1 h1.length H1 J items G) (hz : items.length ≤ sizeLine) {zs : List D} {hE : AH} (run : compL G g vs c e items σa h1 = .ok zs hE) {D : Addr} (hD : H1 D = none)
    (fin : ∀ (ι' : Nat → Addr) (H' : Hp) (acc : List V), Ext K B ι1 h1.length H1 ι' hE H' → Rel K (plusB B D) ι' hE H' → H' D = some (.lst acc) → RepL ⟨K, plusB B D, ι', hE.length, H'⟩ acc zs → Q (.ref D) H') :
    ∃ Wv : Nat → Nat → Hp → Prop, (∃ m, Wv 0 m (upd H1 D (.lst []))) ∧ ∀ i m H, Wv i m H →
      (J.stop i H ∧ Q (.ref D) H) ∨ (J.go i H ∧ ∃ Nx : Hp → Prop, (∀ H', Nx H' → ∃ m', m' < m ∧ Wv (i + 1) m' H') ∧ ∀ x H', J.yld i H x H' → tGc K g vs x (wipe σ vs) H' fun σ2 H2 => wipe σ2 vs = wipe σ vs ∧ tT K W0 c σ2 H2 fun b H3 =>
        if b = true then tE K W0 e σ2 H3 fun y H4 => ∃ acc, H4 D = some (.lst acc) ∧ acc.length < sizeLine ∧ Nx (upd H4 D (.lst (acc ++ [y]))) else Nx H3) := by
  have hB : ∀ a, B a → plusB B D a := fun a b => .inl b
  let T : Nat → Hp → Prop := fun i H => ∃ (ι : Nat → Addr) (h : AH) (acc : List V) (ys rest : List MW.D), Ext K B ι1 h1.length H1 ι h H ∧ Rel K (plusB B D) ι h H ∧ Up ⟨K, B, ι1, h1.length, H1⟩ ⟨K, plusB B D, ι, h.length, H⟩ ∧ H D = some (.lst acc) ∧ RepL ⟨K, plusB B D, ι, h.length, H⟩ acc ys ∧ acc.length ≤ i ∧
    compL G g vs c e (items.drop i) σa h = .ok rest hE ∧ zs = ys ++ rest
  have t0 : T 0 (upd H1 D (.lst [])) := ⟨ι1, h1, [], [], zs, (Ext.fresh R1 hD _), R1.plus hD, Up.plus hD, upd_same, .nil, Nat.le_refl _, run, rfl⟩
  refine ⟨fun i m H => m = items.length - i ∧ i ≤ items.length ∧ T i H, ⟨_, rfl, Nat.zero_le _, t0⟩, ?_⟩
  rintro i m H ⟨rfl, hi, ι, h, acc, ys, rest, x, R, u, eD, l, la, rn, ez⟩
  by_cases hlt : i < items.length
  · rw [List.drop_eq_getElem_cons hlt] at rn
    unfold compL at rn
    by_cases hG : G h = true
    · rw [if_pos hG] at rn
      obtain ⟨o3, o4⟩ := (ok i _ ι h H R u hG).2 items[i] (by simp [hlt])
      refine .inr ⟨o3, T (i + 1), fun H' q => ⟨items.length - (i + 1), by omega, rfl, hlt, q⟩, fun xv H2 y => ?_⟩
      obtain ⟨y1, y2⟩ := o4 xv H2 y
      have Sw : RepS ⟨K, plusB B D, ι, h.length, H2⟩ (wipe σ vs) (wipeA σa vs) := ((S1.up u).up (y1.up R)).wipe vs
      have x2 : Ext K B ι1 h1.length H1 ι h H2 := x.trans (y1.less hB)
      have eD2 : H2 D = some (.lst acc) := y1.at_other R (.inr rfl) eD
      have l2 := l.up (y1.up R)
      have u2 : Up ⟨K, B, ι1, h1.length, H1⟩ ⟨K, plusB B D, ι, h.length, H2⟩ := by
        have a := u; have b := y1.up R
        exact ⟨rfl, fun a vs q => b.sq _ _ (u.sq _ _ q), fun a o vs q => b.sc _ _ _ (u.sc _ _ _ q), fun a' w f q => b.rd _ _ (u.fzr f q) (u.rd _ _ f q), fun a' o f q => b.at_ _ _ (u.fz _ _ q f) (u.at_ _ _ f q), fun a' o q f => b.fz _ _ (u.at_ _ _ f q) (u.fz _ _ q f), fun i q => b.lt _ (u.lt _ q), fun i q => (b.io _ (u.lt _ q)).trans (u.io _ q)⟩
      have uu : ∀ {r1 r2 r3 : RC}, Up r1 r2 → Up r2 r3 → Up r1 r3 := fun {r1 r2 r3} u b => ⟨b.kk.trans u.kk, fun a vs q => b.sq _ _ (u.sq _ _ q), fun a o vs q => b.sc _ _ _ (u.sc _ _ _ q), fun a' w f q => b.rd _ _ (u.fzr f q) (u.rd _ _ f q), fun a' o f q => b.at_ _ _ (u.fz _ _ q f) (u.at_ _ _ f q), fun a' o q f => b.fz _ _ (u.at_ _ _ f q) (u.fz _ _ q f), fun i q => b.lt _ (u.lt _ q), fun i q => (b.io _ (u.lt _ q)).trans (u.io _ q)⟩
      split at rn
      · rename_i σ1 hg1
        refine ⟨_, ι, h, _, σ1, _, y1.rel, Sw, y2, hg1, fun σ2 S2 w2 => ⟨w2.trans (wipe_wipe σ vs), _, ι, h, σ1, y1.rel, S2, ?_⟩⟩
        cases ec : c σ1 h with
        | ok b h3 =>
          rw [ec] at rn
          simp only [MW.R.bind] at rn
          intro ι3 H3 b' x3 eb
          subst eb
          have x13 := x2.trans (x3.less hB)
          have eD3 := x3.at_other y1.rel (.inr rfl) eD2
          have l3 := l2.up (x3.up y1.rel)
          have u3 := uu u2 (x3.up y1.rel)
          cases b' with
          | false =>
            rw [if_neg Bool.false_ne_true] at rn
            exact (if_neg Bool.false_ne_true).mpr ⟨ι3, h3, acc, ys, rest, x13, x3.rel, u3, eD3, l3, Nat.le_succ_of_le la, rn, ez⟩
          | true =>
            rw [if_pos rfl] at rn
            refine (if_pos rfl).mpr ⟨_, ι3, h3, σ1, x3.rel, S2.up (x3.up y1.rel), ?_⟩
            cases ee : e σ1 h3 with
            | ok z h4 =>
              rw [ee] at rn
              simp only [MW.R.bind] at rn
              intro ι4 H4 y4 x4 r4
              have x14 := x13.trans (x4.less hB)
              have eD4 := x4.at_other x3.rel (.inr rfl) eD3
              have l4 := l3.up (x4.up x3.rel)
              have u4 := uu u3 (x4.up x3.rel)
              cases er : compL G g vs c e (items.drop (i + 1)) σa h4 with
              | ok zs' h5 =>
                rw [er] at rn
                simp only [MW.R.bind] at rn
                injection rn with e1 e2
                subst e1 e2
                have ub := Up.beside x4.rel (o := HO.lst (acc ++ [y4])) (D := D) (.inr rfl) eD4
                refine ⟨acc, eD4, by omega, ι4, h4, acc ++ [y4], ys ++ [z], zs', x14.beside hB x4.rel (.inr rfl) eD4 hD, x4.rel.beside (.inr rfl) eD4, uu u4 ub, upd_same, (l4.append (RepL.one r4)).up ub, by simp; omega, er, by rw [ez]; simp⟩
              | exc c' L ds h5 => rw [er] at rn; cases rn
              | bad => rw [er] at rn; cases rn
            | exc c' L ds h4 => rw [ee] at rn; cases rn
            | bad => rw [ee] at rn; cases rn
        | exc c' L ds h3 => rw [ec] at rn; cases rn
        | bad => rw [ec] at rn; cases rn
      · cases rn
    · rw [if_neg hG] at rn
      cases rn
  · have e' : i = items.length := by omega
    rw [List.drop_eq_nil_of_le (by omega)] at rn
    unfold compL at rn
    by_cases hG : G h = true
    · rw [if_pos hG] at rn
      injection rn with e1 e2
      subst e1 e2
      rw [List.append_nil] at ez
      subst ez
      exact .inl ⟨(ok i _ ι h H R u hG).1 e', fin ι H acc x R eD l⟩
    · rw [if_neg hG] at rn
      cases rn
section
variable {X : Cx} {W : WX} {elt tg iter : Expr} {ifs : List Expr} {scope : Scope} {own : List (PySem.Str × Nat)} {pos spos : Pos} {mi : MI} {g : MG} {mc : MT} {me : ME}
theorem comp_of {σ : L2.St} {H : Hp} {Q : VK} {vs : List Nat} (q : tE X.K W (mComp mi g vs mc me) σ H Q) : tLc (iS X.K W mi) (tGc X.K g vs) (tT X.K W0 mc) (tE X.K W0 me) vs σ H Q := by
  obtain ⟨B, ι, h, σa, R, S, p⟩ := q
  refine ⟨B, ι, h, σa, R, S, (Post.bind (rel := fun r J a => ItOk r.K r.B r.ι r.n r.H J a.1 a.2) p).imp ?_⟩
  rintro J H1 ⟨ι1, h1, ⟨items, G⟩, _, x1, ok, p1⟩
  intro D hD
  split at p1
  · rename_i hz
    split at p1
    · rename_i zs hE run
      refine comp_run x1.rel (S.up (x1.up R)) ok hz run hD fun ι' H' acc x R' eD l => ?_
      refine p1 ι' H' _ x (.lst eD (l.up (Up.less fun a b => .inl b)) ⟨x1.rel.nb_new hD, fun i hi z => R'.nb i hi (.inr z)⟩)
    · exact p1.elim
  · exact p1.elim
theorem compN_of {σ : L2.St} {H : Hp} {Q : VK} {vs : List Nat} (q : tE X.K W (mCompN mi g vs mc me) σ H Q) : tLc (iS X.K W mi) (tGc X.K g vs) (tT X.K W0 mc) (tE X.K W0 me) vs σ H Q := by
  obtain ⟨B, ι, h, σa, R, S, p⟩ := q
  refine ⟨B, ι, h, σa, R, S, (Post.bind (rel := fun r J a => ItOk r.K r.B r.ι r.n r.H J a.1 a.2) p).imp ?_⟩
  rintro J H1 ⟨ι1, h1, ⟨items, G⟩, _, x1, ok, p1⟩
  intro D hD
  split at p1
  · rename_i hz
    split at p1
    · rename_i zs hE run
      refine comp_run x1.rel (S.up (x1.up R)) ok hz run hD fun ι' H' acc x R' eD l => ?_
      have y := p1 _ _ (.ref ((fun j => if j = hE.length then D else ι' j) hE.length)) (x.adopt R' eD hD (x1.rel.nb_new hD) l) (Rep.loc (r := ⟨X.K, B, _, (hE ++ [Cell.lst zs]).length, _⟩) (by simp))
      simpa using y
    · exact p1.elim
  · exact p1.elim
theorem se_lc (hc : X.calm = true) (hN : X.N.Nodup) (hi : SI X W tg iter mi) (ok : blkC X.N X.env.scope scope own = true)
    (hg : ∀ (s : Shared) (H : Hp) (C : Addr) (cl : List (PySem.Str × Addr)) (fp : List Addr), SGc (X.blk s H scope (compEnvC scope cl C X.env) fp) (own.map (·.2)) tg g) (ht : ∀ (s : Shared) (H : Hp) (C : Addr) (cl : List (PySem.Str × Addr)) (fp : List Addr), STs (X.blk s H scope (compEnvC scope cl C X.env) fp) ifs mc)
    (he : ∀ (s : Shared) (H : Hp) (C : Addr) (cl : List (PySem.Str × Addr)) (fp : List Addr), SE (X.blk s H scope (compEnvC scope cl C X.env) fp) W0 elt me) (hs : ∀ x, foldedSetIterable iter X.env x = pure x := by intro _; rfl) :
    SE X W (.ListComp elt [⟨tg, iter, ifs, 0⟩] scope pos) (mComp mi g (own.map (·.2)) mc me) := (pe_lc hc hN hi (blkOk_by ok) hg ht he hs).imp fun _ _ _ => comp_of
theorem se_lcN (hc : X.calm = true) (hN : X.N.Nodup) (hi : SI X W tg iter mi) (ok : blkC X.N X.env.scope scope own = true)
    (hg : ∀ (s : Shared) (H : Hp) (C : Addr) (cl : List (PySem.Str × Addr)) (fp : List Addr), SGc (X.blk s H scope (compEnvC scope cl C X.env) fp) (own.map (·.2)) tg g) (ht : ∀ (s : Shared) (H : Hp) (C : Addr) (cl : List (PySem.Str × Addr)) (fp : List Addr), STs (X.blk s H scope (compEnvC scope cl C X.env) fp) ifs mc)
    (he : ∀ (s : Shared) (H : Hp) (C : Addr) (cl : List (PySem.Str × Addr)) (fp : List Addr), SE (X.blk s H scope (compEnvC scope cl C X.env) fp) W0 elt me) (hs : ∀ x, foldedSetIterable iter X.env x = pure x := by intro _; rfl) :
    SE X W (.ListComp elt [⟨tg, iter, ifs, 0⟩] scope pos) (mCompN mi g (own.map (·.2)) mc me) := (pe_lc hc hN hi (blkOk_by ok) hg ht he hs).imp fun _ _ _ => compN_of
theorem asg_of {σ : L2.St} {H : Hp} {D : Ends} {j : Nat} {m : ME} {t : TE} (ht : ∀ σ H Q, tE X.K W m σ H Q → t σ H Q) (q : tS X.K W (mAsg (gN j) m) D σ H) : tAsg t (gName j) D σ H := by
  obtain ⟨B, ι, h, σa, R, S, p⟩ := q
  refine ht σ H _ ⟨B, ι, h, σa, R, S, (PostS.use (rel := Rep) (keepS R S) p).imp ?_⟩
  rintro v H1 ⟨ι1, h1, d, _, x1, r1, p1⟩
  exact p1 ι1 H1 _ (Ext.refl x1.rel) ((S.up (x1.up R)).set r1 j)
theorem ss_setLc (i : Nat) {y : PySem.Str} {py : Pos} (hc : X.calm = true) (hN : X.N.Nodup) (hi : SI X W tg iter mi) (ok : blkC X.N X.env.scope scope own = true)
    (hg : ∀ (s : Shared) (H : Hp) (C : Addr) (cl : List (PySem.Str × Addr)) (fp : List Addr), SGc (X.blk s H scope (compEnvC scope cl C X.env) fp) (own.map (·.2)) tg g) (ht : ∀ (s : Shared) (H : Hp) (C : Addr) (cl : List (PySem.Str × Addr)) (fp : List Addr), STs (X.blk s H scope (compEnvC scope cl C X.env) fp) ifs mc)
    (he : ∀ (s : Shared) (H : Hp) (C : Addr) (cl : List (PySem.Str × Addr)) (fp : List Addr), SE (X.blk s H scope (compEnvC scope cl C X.env) fp) W0 elt me) (hsw : swapsWith (.ListComp elt [⟨tg, iter, ifs, 0⟩] scope pos) (some (.Name y py)) spos.line X.env = pure true := by exact sw_true rfl rfl rfl (by decide +kernel))
    (hy : X.N[i]? = some y := by rfl) (hyl : X.env.scope.names.lookup y = some .local := by rfl) (hs : ∀ x, foldedSetIterable iter X.env x = pure x := by intro _; rfl) :
    SS X W (.Assign [.Name y py] (.ListComp elt [⟨tg, iter, ifs, 0⟩] scope pos) spos) (mAsg (gN i) (mComp mi g (own.map (·.2)) mc me)) := (ps_setLc hc hN hy hyl hsw hi (blkOk_by ok) hg ht he hs).imp fun _ _ _ => asg_of fun _ _ _ => comp_of
theorem ss_setLcN (i : Nat) {y : PySem.Str} {py : Pos} (hc : X.calm = true) (hN : X.N.Nodup) (hi : SI X W tg iter mi) (ok : blkC X.N X.env.scope scope own = true)
    (hg : ∀ (s : Shared) (H : Hp) (C : Addr) (cl : List (PySem.Str × Addr)) (fp : List Addr), SGc (X.blk s H scope (compEnvC scope cl C X.env) fp) (own.map (·.2)) tg g) (ht : ∀ (s : Shared) (H : Hp) (C : Addr) (cl : List (PySem.Str × Addr)) (fp : List Addr), STs (X.blk s H scope (compEnvC scope cl C X.env) fp) ifs mc)
    (he : ∀ (s : Shared) (H : Hp) (C : Addr) (cl : List (PySem.Str × Addr)) (fp : List Addr), SE (X.blk s H scope (compEnvC scope cl C X.env) fp) W0 elt me) (hsw : swapsWith (.ListComp elt [⟨tg, iter, ifs, 0⟩] scope pos) (some (.Name y py)) spos.line X.env = pure true := by exact sw_true rfl rfl rfl (by decide +kernel))
    (hy : X.N[i]? = some y := by rfl) (hyl : X.env.scope.names.lookup y = some .local := by rfl) (hs : ∀ x, foldedSetIterable iter X.env x = pure x := by intro _; rfl) :
    SS X W (.Assign [.Name y py] (.ListComp elt [⟨tg, iter, ifs, 0⟩] scope pos) spos) (mAsg (gN i) (mCompN mi g (own.map (·.2)) mc me)) := (ps_setLc hc hN hy hyl hsw hi (blkOk_by ok) hg ht he hs).imp fun _ _ _ => asg_of fun _ _ _ => compN_of
end
end MW

set_option maxHeartbeats 2000000
/-! MW10: instances: attributes, methods, making. -/
namespace MW
open PySem PySem.Spec PyProof.Rows L2

/-! ### attributes -/
theorem zip_lookup {α : Type} (f : PySem.Str) : ∀ (L : List PySem.Str) (vs : List α), vs.length ≤ L.length → (L.zip vs).lookup f = vs[L.idxOf f]?
  | [], vs, h => by
    cases vs with
    | nil => rfl
    | cons _ _ => simp at h
  | x :: L, [], h => by simp
  | x :: L, v :: vs, h => by
    simp only [List.zip_cons_cons, List.lookup_cons, List.idxOf_cons]
    by_cases e : x = f
    · subst e; simp
    · have e1 : (f == x) = false := beq_eq_false_iff_ne.mpr fun z => e z.symm
      have e2 : (x == f) = false := beq_eq_false_iff_ne.mpr e
      simp only [e1, e2, cond_false, List.getElem?_cons_succ]
      exact zip_lookup f L vs (by simpa using h)
theorem take_zip {α : Type} : ∀ (L : List PySem.Str) (vs : List α), (L.take vs.length).zip vs = L.zip vs
  | [], vs => by simp
  | x :: L, [] => by simp
  | x :: L, v :: vs => by simp [take_zip L vs]
theorem put_zip (f : PySem.Str) (v : V) : ∀ (L : List PySem.Str) (vs : List V), vs.length ≤ L.length → L.idxOf f < vs.length → putF f v (L.zip vs) = L.zip (vs.set (L.idxOf f) v)
  | [], vs, h, hi => by
    cases vs with
    | nil => simp at hi
    | cons _ _ => simp at h
  | x :: L, [], h, hi => by simp at hi
  | x :: L, w :: vs, h, hi => by
    simp only [List.idxOf_cons] at hi ⊢
    simp only [List.zip_cons_cons, putF]
    by_cases e : x = f
    · subst e; simp
    · have e2 : (x == f) = false := beq_eq_false_iff_ne.mpr e
      rw [e2] at hi
      simp only [e2, cond_false, List.set_cons_succ, List.zip_cons_cons, if_neg e]
      rw [put_zip f v L vs (by simpa using h) (by simpa using hi)]
theorem put_zip_new (f : PySem.Str) (v : V) : ∀ (L : List PySem.Str) (vs : List V), vs.length < L.length → L.idxOf f = vs.length → putF f v (L.zip vs) = L.zip (vs ++ [v])
  | [], vs, h, hi => by simp at h
  | x :: L, [], h, hi => by
    simp only [List.idxOf_cons, List.length_nil] at hi
    by_cases e : x = f
    · subst e; simp [putF]
    · have e2 : (x == f) = false := beq_eq_false_iff_ne.mpr e
      rw [e2] at hi
      simp at hi
  | x :: L, w :: vs, h, hi => by
    simp only [List.idxOf_cons] at hi
    simp only [List.zip_cons_cons, putF, List.cons_append]
    by_cases e : x = f
    · subst e; simp at hi
    · have e2 : (x == f) = false := beq_eq_false_iff_ne.mpr e
      rw [e2] at hi
      rw [if_neg e, put_zip_new f v L vs (by simpa using h) (by simpa using hi)]
/-- what is known of an instance: its class, its names, its values -/
def insAt (h : AH) : D → Option (String × List PySem.Str × List D)
  | .obj c L ds => some (c, L, ds)
  | .loc n => match h[n]? with
    | some (.ins c L ds) => some (c, L, ds)
    | _ => none
  | _ => none
def getF (cs : List String) (f : PySem.Str) (x : D) (h : AH) : Option D := (insAt h x).bind fun q => if q.1 ∈ cs then q.2.2[q.2.1.idxOf f]? else none
/-- a value put into a field -/
def setF (L : List PySem.Str) (ds : List D) (f : PySem.Str) (v : D) : Option (List D) := if L.length < 1000 then (if L.idxOf f < ds.length then some (ds.set (L.idxOf f) v) else if L.idxOf f = ds.length ∧ ds.length < L.length then some (ds ++ [v]) else none) else none
def putFD (cs : List String) (f : PySem.Str) (x v : D) (h : AH) : Option AH := match x with
  | .loc n => match h[n]? with
    | some (.ins c L ds) => if c ∈ cs then (setF L ds f v).map fun ds' => h.set n (.ins c L ds') else none
    | _ => none
  | _ => none
def mFld (cs : List String) (f : PySem.Str) (o : ME) : ME := fun σ h => (o σ h).bind fun x h => lift (getF cs f x h) h
def mSetF (cs : List String) (f : PySem.Str) (o e : ME) : MS := fun σ h => (e σ h).use σ fun v h => (o σ h).use σ fun x h => match putFD cs f x v h with
  | some h' => .nx σ h'
  | none => .bad
def mAugF (cs : List String) (g : Int → Int → Int) (f : PySem.Str) (o e : ME) : MS := fun σ h => (o σ h).use σ fun x h => match getF cs f x h with
  | some (.int a) => (e σ h).use σ fun y h => match y with
    | .int b => match putFD cs f x (.int (g a b)) h with
      | some h' => .nx σ h'
      | none => .bad
    | _ => .bad
  | _ => .bad
def FldC (K : PySem.W.Frag) (cs : List String) (f : PySem.Str) : Prop := ∀ c ∈ cs, Cls K (He.ga K c) ∧ NoAttr K (He.ga K c) f
section
variable {K : PySem.W.Frag} {B : Addr → Prop} {ι : Nat → Addr} {h : AH} {H : Hp}
theorem insAt_rep (R : Rel K B ι h H) {x : V} {d : D} {c : String} {L : List PySem.Str} {ds : List D} (q : Rep ⟨K, B, ι, h.length, H⟩ x d) (e : insAt h d = some (c, L, ds)) :
    ∃ a dx vs, x = .ref a ∧ H a = some (.ins (He.ga K c) dx (L.zip vs)) ∧ vs.length ≤ L.length ∧ RepL ⟨K, B, ι, h.length, H⟩ vs ds := by
  unfold insAt at e
  split at e
  · cases e
    cases q with
    | obj ea hl l f => exact ⟨_, _, _, rfl, ea, by rw [l.length, hl]; exact Nat.le_refl _, l⟩
  · split at e
    · rename_i n _ _ _ _ hc
      cases e
      cases q with
      | loc hn =>
        cases R.cell _ _ hc with
        | ins ea hl l => exact ⟨_, _, _, rfl, by rw [← take_zip, l.length]; exact ea, by rw [l.length]; exact hl, l⟩
    · cases e
  · cases e
theorem getF_rep (R : Rel K B ι h H) {cs : List String} {f : PySem.Str} (C : FldC K cs f) {x : V} {d z : D} (q : Rep ⟨K, B, ι, h.length, H⟩ x d) (e : getF cs f d h = some z) :
    ∃ a c dx fs v, x = .ref a ∧ c ∈ cs ∧ H a = some (.ins (He.ga K c) dx fs) ∧ fs.lookup f = some v ∧ Rep ⟨K, B, ι, h.length, H⟩ v z := by
  unfold getF at e
  obtain ⟨⟨c, L, ds⟩, e1, e2⟩ := Option.bind_eq_some_iff.mp e
  split at e2
  · rename_i hc
    obtain ⟨a, dx, vs, rfl, ea, hl, l⟩ := insAt_rep R q e1
    obtain ⟨v, hv, rv⟩ := l.get e2
    exact ⟨a, c, dx, _, v, rfl, hc, ea, by rw [zip_lookup f L vs hl]; exact hv, rv⟩
  · cases e2
theorem putFD_rep (R : Rel K B ι h H) {cs : List String} {f : PySem.Str} {x y : V} {d z : D} {h' : AH} (q : Rep ⟨K, B, ι, h.length, H⟩ x d) (ry : Rep ⟨K, B, ι, h.length, H⟩ y z) (e : putFD cs f d z h = some h') :
    ∃ a c dx fs, x = .ref a ∧ c ∈ cs ∧ H a = some (.ins (He.ga K c) dx fs) ∧ fs.length < 1000 ∧ Ext K B ι h.length H ι h' (upd H a (.ins (He.ga K c) dx (putF f y fs))) := by
  unfold putFD at e
  split at e
  · rename_i n
    split at e
    · rename_i c L ds hc
      split at e
      · rename_i hm
        obtain ⟨ds', hs, rfl⟩ := Option.map_eq_some_iff.mp e
        cases q with
        | loc hn =>
          cases R.cell _ _ hc with
          | @ins dx _ _ vs _ ea hl l =>
            have ll := l.length
            refine ⟨_, c, dx, L.zip vs, rfl, hm, by rw [← take_zip, ll]; exact ea, ?_, ?_⟩
            · unfold setF at hs
              split at hs
              · rename_i h1
                rw [List.length_zip]
                exact Nat.lt_of_le_of_lt (Nat.min_le_left _ _) h1
              · cases hs
            · unfold setF at hs
              split at hs
              · split at hs
                · rename_i hi
                  cases hs
                  have u := Up.write R hn (.ins c L (ds.set (L.idxOf f) z)) (.ins (He.ga K c) dx (putF f y (L.zip vs)))
                  have eq : putF f y (L.zip vs) = (L.take (ds.set (L.idxOf f) z).length).zip (vs.set (L.idxOf f) y) := by
                    rw [put_zip f y L vs (by rw [ll]; exact hl) (by rw [ll]; exact hi), ← take_zip L (vs.set _ _), List.length_set, List.length_set, ll]
                  exact Ext.write R hn (.ins (by rw [eq]; exact upd_same) (by rw [List.length_set]; exact hl) (RepL.set (ry.up u) _ (l.up u)))
                · split at hs
                  · rename_i hi
                    cases hs
                    have u := Up.write R hn (.ins c L (ds ++ [z])) (.ins (He.ga K c) dx (putF f y (L.zip vs)))
                    have eq : putF f y (L.zip vs) = (L.take (ds ++ [z]).length).zip (vs ++ [y]) := by
                      rw [put_zip_new f y L vs (by rw [ll]; exact hi.2) (by rw [ll]; exact hi.1), ← take_zip L (vs ++ [y]), List.length_append, List.length_append, ll]
                      rfl
                    exact Ext.write R hn (.ins (by rw [eq]; exact upd_same) (by simp; exact hi.2) ((l.up u).append (RepL.one (ry.up u))))
                  · cases hs
              · cases hs
      · cases e
    · cases e
  · cases e
end
section
variable {X : Cx} {W : WX} {o e : Expr} {f : PySem.Str} {pos pos' : Pos} {mo me : ME} {cs : List String}
theorem se_fld (C : FldC X.K cs f) (ho : SE X W o mo) (hb : attributeBase o f X.env (eval o X.env) = eval o X.env := by rfl) : SE X W (.Attribute o f pos) (mFld cs f mo) := (pe_fld ho hb).imp fun σ H Q ⟨B, ι, h, σa, R, S, p⟩ => by
  refine ⟨B, ι, h, σa, R, S, (Post.bind (rel := Rep) p).imp ?_⟩
  rintro x H1 ⟨ι1, h1, d, _, x1, r1, p1⟩
  obtain ⟨z, ez, k⟩ := p1.lift
  obtain ⟨a, c, dx, fs, v, rfl, hc, ea, hl, rv⟩ := getF_rep x1.rel C r1 ez
  exact ⟨a, _, dx, fs, v, rfl, ea, (C c hc).1, (C c hc).2, hl, k ι1 H1 v (Ext.refl x1.rel) rv⟩
theorem ss_fld (C : FldC X.K cs f) (ho : SE X W o mo) (he : SE X W e me) (hs : swapsWith e (some (.Attribute o f pos')) pos.line X.env = pure false := by rfl) : SS X W (.Assign [.Attribute o f pos'] e pos) (mSetF cs f mo me) := (ps_fld ho he hs).imp fun D σ H ⟨B, ι, h, σa, R, S, p⟩ => by
  refine ⟨B, ι, h, σa, R, S, (PostS.use (rel := Rep) (keepS R S) p).imp ?_⟩
  rintro y H1 ⟨ι1, h1, dy, _, x1, r1, p1⟩
  have S1 := S.up (x1.up R)
  refine ⟨B, ι1, h1, σa, x1.rel, S1, (PostS.use (rel := Rep) (keepS x1.rel S1) p1).imp ?_⟩
  rintro x H2 ⟨ι2, h2, dx, _, x2, r2, p2⟩
  have S2 := S1.up (x2.up x1.rel)
  split at p2
  · rename_i h' hq
    obtain ⟨a, c, dx, fs, rfl, hc, ea, hz, xx⟩ := putFD_rep x2.rel r2 (r1.mono x1.rel x2) hq
    exact ⟨a, _, dx, fs, rfl, ea, (C c hc).1, (C c hc).2, hz, p2 ι2 _ σ xx (S2.up (xx.up x2.rel))⟩
  · exact p2.elim
def rI (g : Int → Int → Int) : V → V → Hp → VK → Prop := fun x y H Q => ∃ i j, x = .int i ∧ y = .int j ∧ Q (.int (g i j)) H
theorem ss_fldaug {c : String} {op : Operator} {g : Int → Int → Int} (hop : InOp X op (rI g)) (C : FldC X.K [c] f) (ho : SE X W o mo) (he : SE X W e me) : SS X W (.AugAssign (.Attribute o f pos') op e pos) (mAugF [c] g f mo me) := (ps_fldaug ho he hop).imp fun D σ H ⟨B, ι, h, σa, R, S, p⟩ => by
  refine ⟨B, ι, h, σa, R, S, (PostS.use (rel := Rep) (keepS R S) p).imp ?_⟩
  rintro x H1 ⟨ι1, h1, dx, _, x1, r1, p1⟩
  have S1 := S.up (x1.up R)
  split at p1
  · rename_i i hg
    obtain ⟨a, c0, dX, fs, v, rfl, hc, ea, hl, rv⟩ := getF_rep x1.rel C r1 hg
    cases rv
    refine ⟨a, _, dX, fs, .int i, rfl, ea, (C c0 hc).1, (C c0 hc).2, hl, B, ι1, h1, σa, x1.rel, S1, (PostS.use (rel := Rep) (keepS x1.rel S1) p1).imp ?_⟩
    rintro y H2 ⟨ι2, h2, dy, _, x2, r2, p2⟩
    have S2 := S1.up (x2.up x1.rel)
    split at p2
    · rename_i j _
      cases r2
      split at p2
      · rename_i h' hq
        obtain ⟨a', c', dX', fs', e1, hc', ea', hz, xx⟩ := putFD_rep x2.rel (r1.mono x1.rel x2) (.int (g i j)) hq
        cases e1
        have e0 : c0 = c := by simpa using hc
        have e2 : c' = c := by simpa using hc'
        subst e0 e2
        exact ⟨i, j, rfl, rfl, dX', fs', ea', hz, p2 ι2 _ σ xx (S2.up (xx.up x2.rel))⟩
      · exact p2.elim
    · exact p2.elim
  · exact p1.elim
theorem in_add' : InOp X .Add (rI (· + ·)) := in_add
theorem in_sub' : InOp X .Sub (rI (· - ·)) := in_sub
end

/-! ### methods -/
def R.noX {α : Type} (r : R α) : R α := match r with
  | .exc _ _ _ _ => .bad
  | r => r
def mthOk (c : String) (name : PySem.Str) (x : D) (h : AH) : Bool := match insAt h x with
  | some (c', L, _) => decide (c' = c) && !decide (name ∈ L)
  | none => false
/-- a method of instances of c -/
def mMeth (c : String) (name : PySem.Str) (m : Fn) (o : ME) (as : List ME) (dd : List D) : ME := fun σ h => (o σ h).bind fun x h => if mthOk c name x h = true then (mArgs as σ h).bind fun ds h => (m (x :: (ds ++ dd)) h).noX else .bad
/-- the one or the other -/
def mAlt (a b : ME) : ME := fun σ h => match a σ h with
  | .bad => b σ h
  | r => r
def mMake (c : String) (L : List PySem.Str) (m : Fn) (as : List ME) (dd : List D) : ME := fun σ h => (mArgs as σ h).bind fun ds h => match m (.loc h.length :: (ds ++ dd)) (h ++ [.ins c L []]) with
  | .ok .non h' => .ok (.loc h.length) h'
  | _ => .bad
theorem zip_none (f : PySem.Str) : ∀ (L : List PySem.Str) (vs : List V), f ∉ L → (L.zip vs).lookup f = none
  | [], _, _ => by simp
  | x :: L, [], _ => by simp
  | x :: L, v :: vs, h => by
    have e1 : (f == x) = false := beq_eq_false_iff_ne.mpr fun z => h (by simp [z])
    simp only [List.zip_cons_cons, List.lookup_cons, e1]
    exact zip_none f L vs fun z => h (by simp [z])
theorem passE0 {X : Cx} : Passes (L2.CX X.prog X.w) X E0 := fun _ _ _ _ _ _ _ ⟨_, _, _, _, _, _, _, _, _, _, _, _, hE⟩ => hE.elim
section
variable {X : Cx} {W : WX} {k j : Nat} {f : Addr} {fd : FuncData} {ps : List PySem.Str} {x name : PySem.Str} {p pos apos : Pos} {o e : Expr} {es : List Expr} {ms : List ME} {mo a b : ME} {m : Fn} {dvs : List V} {dd : List D} {ds : List Value} {c : String} {L : List PySem.Str}
theorem se_alt (ha : SE X W e a) (hb : SE X W e b) : SE X W e (mAlt a b) := (ha.or hb).imp fun σ H Q ⟨B, ι, h, σa, R, S, p⟩ => by
  unfold mAlt at p
  cases e1 : a σa h with
  | ok d h1 => rw [e1] at p; exact .inl ⟨B, ι, h, σa, R, S, by rw [e1]; exact p⟩
  | exc c L d h1 => rw [e1] at p; exact .inl ⟨B, ι, h, σa, R, S, by rw [e1]; exact p⟩
  | bad => rw [e1] at p; exact .inr ⟨B, ι, h, σa, R, S, p⟩
theorem meth_of {n : Nat} {σ : L2.St} {H : Hp} {Q : VK} (hd : ∀ r, RepL r dvs dd) (hn : ms.length + dd.length + 1 = n) (q : tE X.K W (mMeth c name m mo ms dd) σ H Q) : tMeth (He.ga X.K c) name (spA X.K m n) dvs E0 (tE X.K W mo) (tA X.K W (mArgs ms)) σ H Q := by
  obtain ⟨B, ι, h, σa, R, S, p⟩ := q
  refine ⟨B, ι, h, σa, R, S, (Post.bind (rel := Rep) p).imp ?_⟩
  rintro x H1 ⟨ι1, h1, d, e1, x1, r1, p1⟩
  split at p1
  · rename_i hk
    unfold mthOk at hk
    split at hk
    · rename_i c' L' ds' hi
      rw [Bool.and_eq_true] at hk
      have e2 : c' = c := of_decide_eq_true hk.1
      subst e2
      obtain ⟨a, dx, vs, rfl, ea, hl, l⟩ := insAt_rep x1.rel r1 hi
      refine ⟨a, dx, _, rfl, ea, zip_none name L' vs (by simpa using hk.2), B, ι1, h1, σa, x1.rel, S.up (x1.up R), (Post.bind (rel := RepL) p1).imp ?_⟩
      rintro ws H2 ⟨ι2, h2, es, e3, x2, r2, p2⟩
      refine ⟨?_, B, ι2, h2, d :: (es ++ dd), x2.rel, .cons (r1.mono x1.rel x2) (r2.append (hd _)), ?_⟩
      · rw [List.length_cons, List.length_append, r2.length, (hd ⟨X.K, B, ι2, h2.length, H2⟩).length, mArgs_length e3, hn]
      · cases q : m (d :: (es ++ dd)) h2 with
        | ok z h3 => rw [q] at p2; exact p2
        | exc c L fs h3 => rw [q] at p2; exact p2.elim
        | bad => rw [q] at p2; exact p2.elim
    · cases hk
  · exact p1.elim
theorem se_meth {pl : Sem Bool} (ho : SE X W o mo) (hc : Cls X.K (He.ga X.K c)) (hm : Meth X.K (He.ga X.K c) name f) {n : Nat} (F : FnOk X.prog X.w X.K X.mg X.base (L2.CX X.prog X.w) k f fd ps (spA X.K m n)) (hr : Room k X.A) (hb : Binds X.K fd ps ds) (hd : Vals dvs ds) (hD : ∀ r, RepL r dvs dd) (ha : SA X W (e :: es) (mArgs ms))
    (hn : ms.length + dd.length + 1 = n := by rfl) (hst : starEach (e :: es) X.env = (false, eval e X.env) :: starEach es X.env := by rfl) (hpl : (backTo pos (starEach es X.env)).any (·.1) = false := by rfl)
    (ht : eval (.Call (.Attribute o name apos) (e :: es) [] pos) X.env = (do
      let ov ← eval o X.env
      standAt apos.atName
      let (f, first) ← holding [ov] (getMethod ov name pl)
      callWith pos f first (backTo pos (starEach (e :: es) X.env)) (backToKw pos (keywordEach [] X.env))) := by rfl) :
    SE X W (.Call (.Attribute o name apos) (e :: es) [] pos) (mMeth c name m mo ms dd) := (pe_meth (pl := pl) (E := E0) ho hc hm F hr hb hd passE0 ha hst hpl ht).imp fun σ H Q q => meth_of hD hn q
theorem se_meth0 {pl : Sem Bool} (ho : SE X W o mo) (hc : Cls X.K (He.ga X.K c)) (hm : Meth X.K (He.ga X.K c) name f) {n : Nat} (F : FnOk X.prog X.w X.K X.mg X.base (L2.CX X.prog X.w) k f fd ps (spA X.K m n)) (hr : Room k X.A) (hb : Binds X.K fd ps ds) (hd : Vals dvs ds) (hD : ∀ r, RepL r dvs dd)
    (hn : dd.length + 1 = n := by rfl)
    (ht : eval (.Call (.Attribute o name apos) [] [] pos) X.env = (do
      let ov ← eval o X.env
      standAt apos.atName
      let (f, first) ← holding [ov] (getMethod ov name pl)
      callWith pos f first (backTo pos (starEach [] X.env)) (backToKw pos (keywordEach [] X.env))) := by rfl) :
    SE X W (.Call (.Attribute o name apos) [] [] pos) (mMeth c name m mo [] dd) := (pe_meth0 (pl := pl) (E := E0) ho hc hm F hr hb hd passE0 ht).imp fun σ H Q q => by
  have q2 : tMeth (He.ga X.K c) name (spA X.K m n) dvs E0 (tE X.K W mo) (tA X.K W (mArgs [])) σ H Q := meth_of (ms := []) hD (by simpa using hn) q
  obtain ⟨B, ι, h, σa, R, S, p⟩ := q2
  refine ⟨B, ι, h, σa, R, S, p.imp ?_⟩
  rintro x H1 ⟨a, dx, fs, e1, e2, e3, B', ι', h', σ', R', S', p'⟩
  exact ⟨a, dx, fs, e1, e2, e3, p' ι' H1 [] (Ext.refl R') .nil⟩
/-! ### making -/
theorem make_of {n : Nat} {σ : L2.St} {H : Hp} {Q : VK} (hd : ∀ r, RepL r dvs dd) (hn : ms.length + dd.length + 1 = n) (q : tE X.K W (mMake c L m ms dd) σ H Q) : tA X.K W (mArgs ms) σ H fun vs H1 => ∀ x dx, H1 x = none → H1 dx = none → dx ≠ x →
    spA X.K m n (.ref x :: (vs ++ dvs)) (upd (upd H1 dx (.own x)) x (.ins (He.ga X.K c) dx [])) (fun v H2 => v = .non ∧ Q (.ref x) H2) E0 := by
  obtain ⟨B, ι, h, σa, R, S, p⟩ := q
  refine ⟨B, ι, h, σa, R, S, (Post.bind (rel := RepL) p).imp ?_⟩
  rintro vs H1 ⟨ι1, h1, es, e1, x1, r1, p1⟩ x dx hx hdx ne
  have x2 := Ext.fresh x1.rel hdx (.own x)
  have hx2 : (upd H1 dx (.own x)) x = none := by rw [upd_ne ne.symm]; exact hx
  have x3 := Ext.grow x2.rel hx2 (c := .ins c L []) (o := .ins (He.ga X.K c) dx []) (.ins (by simpa using upd_same) (Nat.zero_le _) .nil)
  have x13 := x2.trans x3
  have l : (h1 ++ [Cell.ins c L []]).length = h1.length + 1 := by simp
  refine ⟨?_, B, _, _, .loc h1.length :: (es ++ dd), x3.rel, .cons ?_ ((r1.up (x13.up x1.rel)).append (hd _)), ?_⟩
  · rw [List.length_cons, List.length_append, r1.length, (hd ⟨X.K, B, ι1, h1.length, H1⟩).length, mArgs_length e1, hn]
  · have y := Rep.loc (r := ⟨X.K, B, (fun j => if j = h1.length then x else ι1 j), (h1 ++ [Cell.ins c L []]).length, upd (upd H1 dx (.own x)) x (.ins (He.ga X.K c) dx [])⟩) (i := h1.length) (by simp)
    simpa using y
  · cases q : m (.loc h1.length :: (es ++ dd)) (h1 ++ [Cell.ins c L []]) with
    | ok z h3 =>
      rw [q] at p1
      cases z with
      | non =>
        intro ι' H' v x4 rv
        cases rv
        have x14 := x13.trans x4
        refine ⟨rfl, p1 ι' H' _ x14 ?_⟩
        have y := Rep.loc (r := ⟨X.K, B, ι', h3.length, H'⟩) (i := h1.length) (Nat.lt_of_lt_of_le (by rw [l]; exact Nat.lt_succ_self _) x4.le)
        have e : ι' h1.length = x := by rw [x4.agr h1.length (by rw [l]; exact Nat.lt_succ_self _)]; exact if_pos rfl
        rw [show (⟨X.K, B, ι', h3.length, H'⟩ : RC).ι h1.length = x from e] at y
        exact y
      | _ => exact p1.elim
    | exc c' L' fs h3 => rw [q] at p1; exact p1.elim
    | bad => rw [q] at p1; exact p1.elim
theorem se_make {n : Nat} (M : Mk X.K (He.ga X.K c) f) (F : FnOk X.prog X.w X.K X.mg X.base (L2.CX X.prog X.w) k f fd ps (spA X.K m n)) (hr : Room (k + 1) X.A) (hm : X.mg x = some (.ref (He.ga X.K c))) (hb : Binds X.K fd ps ds) (hd : Vals dvs ds) (hD : ∀ r, RepL r dvs dd) (ha : SA X W (e :: es) (mArgs ms)) (hg : Gl X x := by rfl)
    (hn : ms.length + dd.length + 1 = n := by rfl) (hdb : (x == ("__debug__" : PySem.Str)) = false := by decide) (he : starEach (e :: es) X.env = (false, eval e X.env) :: starEach es X.env := by rfl) (hpl : (backTo pos (starEach es X.env)).any (·.1) = false := by rfl) :
    SE X W (.Call (.Name x p) (e :: es) [] pos) (mMake c L m ms dd) := (pe_make (E := E0) M F hr hg hm hb hd passE0 ha hdb he hpl).imp fun σ H Q q => make_of hD hn q
/-- what a class without an __init__ of its own must have to be made -/
structure Mk0 (K : PySem.W.Frag) (C : Addr) : Prop where
  makes : PySem.W.makesIn K C = true
  init : PySem.W.findIn K (.ref C) "__init__" = some (some (.builtin "object.__init__"))
  top : PySem.W.mroIn K C (.type "object") = some true
  self : PySem.W.mroIn K C (.ref C) = some true
  kp : PySem.W.keepIn K (.ref C) = true
def mMake0 (c : String) (L : List PySem.Str) : ME := fun _ h => .ok (.loc h.length) (h ++ [.ins c L []])
end
end MW

set_option maxHeartbeats 2000000
/-! MW11: C() without an own __init__. -/
namespace MW
open PySem PySem.Spec PyProof.Rows L2
section
variable {X : Cx} {W : WX} {x : PySem.Str} {p pos : Pos} {c : String} {L : List PySem.Str}
theorem run_make0 {pins : List (Addr × Obj)} {σ : L2.St} {H : Hp} {s : Shared} {Q : VK} {C : Addr} (M : Mk0 X.K C) (I : Inv X pins σ H s)
    (h : ∀ x dx, H x = none → H dx = none → dx ≠ x → Q (.ref x) (upd (upd H dx (.own x)) x (.ins C dx []))) : wpAny (model X.prog X.w) X.A (call (.ref C) []) (EP X pins σ Q) X.xe s := by
  have hq := h (s.heap.objs.size + 1) s.heap.objs.size (I.hok.fresh (Nat.le_succ _)) (I.hok.fresh (Nat.le_refl _)) (Nat.ne_of_lt (Nat.lt_succ_self _))
  have I2 := Inv.made (C := C) I
  refine wpAny_call (make_map0 I.kIn M.makes M.init (fun self => PySem.W.Looks.of_pure (PySem.W.oi_bind self)) ?_)
  have ho : ((s.heap.push PySem.W.emptyDict).push (PySem.W.instObj C s.heap.objs.size)).get? (s.heap.objs.size + 1) = some (PySem.W.instObj C s.heap.objs.size) := by
    have := Heap.get?_push_size (s.heap.push PySem.W.emptyDict) (o := PySem.W.instObj C s.heap.objs.size) rfl
    rwa [Heap.size_push] at this
  have t1 : PySem.W.Looks (model X.prog X.w) ((s.heap.push PySem.W.emptyDict).push (PySem.W.instObj C s.heap.objs.size)) (typeOf (.ref (s.heap.objs.size + 1))) (.ref C) := (PySem.W.Looks.ld ho).andThen .now
  have X2 : X.K.In ((s.heap.push PySem.W.emptyDict).push (PySem.W.instObj C s.heap.objs.size)) := I2.kIn
  have t2 : PySem.W.Looks (model X.prog X.w) ((s.heap.push PySem.W.emptyDict).push (PySem.W.instObj C s.heap.objs.size)) (isInstance (.ref (s.heap.objs.size + 1)) (.type "object")) true := t1.andThen (PySem.W.looks_mroIn X2 M.top)
  refine codeAny_call_builtin PySem.W.oi_plain PySem.W.entry_oi (@PySem.W.check_slot (model X.prog X.w) _ _ _ "object.__init__" "object" "__init__" (.ref (s.heap.objs.size + 1)) [] [] _ PySem.W.oi_kind PySem.W.oi_split t2 (PySem.W.oi_args _) ?_)
  rw [PySem.W.oi_run]
  exact wpAny_pure ⟨rfl, ⟨V.ref (s.heap.objs.size + 1), _, I2, rfl, hq⟩⟩
theorem se_make0 (M : Mk0 X.K (He.ga X.K c)) (hm : X.mg x = some (.ref (He.ga X.K c))) (hg : Gl X x := by rfl) (hdb : (x == ("__debug__" : PySem.Str)) = false := by decide) : SE X W (.Call (.Name x p) [] [] pos) (mMake0 c L) := by
  refine ⟨fun pins s σ H Q I q => ?_⟩
  obtain ⟨B, ι, h, σa, R, S, k⟩ := q
  refine wpAny_Call_Name_kw (ld_glob I hg hm ?_ hdb)
  refine PySem.W.callWith_K0 I.kIn M.kp (run_make0 M I fun y dx hy hdx ne => ?_)
  have x2 := Ext.fresh R hdx (.own y)
  have hx2 : (upd H dx (.own y)) y = none := by rw [upd_ne ne.symm]; exact hy
  have x3 := Ext.grow x2.rel hx2 (c := .ins c L []) (o := .ins (He.ga X.K c) dx []) (.ins (by simpa using upd_same) (Nat.zero_le _) .nil)
  have z := k _ _ (.ref ((fun j => if j = h.length then y else ι j) h.length)) (x2.trans x3) (Rep.loc (r := ⟨X.K, B, _, (h ++ [Cell.ins c L []]).length, _⟩) (by simp))
  simpa using z
end
end MW

set_option maxHeartbeats 2000000
/-! MW12: list(reversed(list)); reversed; new dicts. -/
namespace MW
open PySem PySem.Spec PyProof.Rows L2 RT
theorem call_list_revl {prog : Program} {w : World} {A : Around} {E : Value → Shared → Prop} {s : Shared} {it l : Addr} {items : Array Value} {Q : Value → Shared → Prop} (hh : A.handled = none) (hit : s.heap.IsRevIter it l ((items.size : Int) - 1)) (hl : s.heap.IsList l items) (hne : l ≠ it) (hn : items.size ≤ sizeLine)
    (hQ : ∀ (h' : Heap) (tk : Nat) (acc : Array Value) (c : Nat), (∀ b o, b ≠ it → s.heap.get? b = some o → h'.get? b = some o) → h'.get? s.heap.objs.size = some { cls := .type "list", dict := none, data := .seq acc c, slots := #[] } → ItemsOf (fun i v => items[items.size - 1 - i]? = some v) acc items.size → Q (.ref s.heap.objs.size) { s with heap := h', toks := tk }) :
    wpAny (model prog w) A (call (.type "list") [.ref it]) Q E s := by
  obtain ⟨oi, hoi, _⟩ := id hit
  obtain ⟨ol, hol, _⟩ := id hl
  have hSi : s.heap.objs.size ≠ it := Nat.ne_of_gt (Heap.lt_size hoi)
  have hSl : s.heap.objs.size ≠ l := Nat.ne_of_gt (Heap.lt_size hol)
  have hSf : s.heap.objs.size ∉ [it, l] := by simp only [List.mem_cons, List.not_mem_nil, or_false, not_or]; exact ⟨hSi, hSl⟩
  refine callType_codes (Q₁ := fun obj s₁ => obj = .ref s.heap.objs.size ∧ s₁ = { s with heap := s.heap.push { cls := .type "list", data := .seq #[] } }) F.called_list (F.typeCall_list_1 _) F.entry_list_init
    (code_list_new _ ⟨rfl, rfl⟩) fun obj s₁ h₁ => ?_
  obtain ⟨rfl, rfl⟩ := h₁
  have hS : (s.heap.push { cls := .type "list", data := .seq #[] }).get? s.heap.objs.size = some { cls := .type "list", data := .seq #[] } := Heap.get?_push_size _ rfl
  refine ⟨⟨_, hS, rfl⟩, F.args_list_init_2 _ _, ?_⟩
  have W := (Walks.listRev (prog := prog) (w := w) (A := A.in1.in1) hh it l hne items).toS
  show wpAny _ A.in1.in1 (do let old ← Builtin.List.listItems (.ref s.heap.objs.size); Builtin.List.listUpdate (.ref s.heap.objs.size) (fun _ => #[]); letGo old.toList.reverse; Builtin.List.listExtendWith (.ref s.heap.objs.size) (.ref it) .none) _ _ _
  refine wpAny_bind ?_
  unfold Builtin.List.listItems
  refine wpAny_bind (wpAny_seqItems hS rfl (wpAny_pure ?_))
  show wpAny _ A.in1.in1 (updateSeq s.heap.objs.size (fun _ => #[]) >>= fun _ => letGo (#[] : Array Value).toList.reverse >>= fun _ => Builtin.List.listExtendWith (.ref s.heap.objs.size) (.ref it) .none) _ _ _
  refine wpAny_bind (wpAny_updateSeq hS rfl ?_)
  have hS₂ := Heap.get?_update_self (Obj.mapSeq (fun _ => (#[] : Array Value))) hS rfl
  generalize hh2 : (s.heap.push { cls := .type "list", data := .seq #[] }).update s.heap.objs.size (Obj.mapSeq (fun _ => (#[] : Array Value))) = h2 at hS₂ ⊢
  have oth : ∀ b o, s.heap.get? b = some o → h2.get? b = some o := fun b o e => by
    rw [← hh2, Heap.get?_update_other _ _ (fun z => absurd (Heap.lt_size e) (by rw [← z]; exact Nat.lt_irrefl _))]
    exact Heap.get?_push_of_some _ e
  refine wpAny_bind (wpAny_letGo ?_)
  have hit1 : h2.IsRevIter it l ((items.size : Int) - 1) := hit.at fun o e => oth _ _ e
  have hl1 : h2.IsList l items := hl.at fun o e => oth _ _ e
  have hT : ({ s with heap := h2 } : Shared).TypeIs (.ref it) "list_reverseiterator" := Heap.IsRevIter.typeIs (s := { s with heap := h2 }) hit1
  have h1 : Builtin.List.listSameRef (.ref s.heap.objs.size) (.ref it) = false := by simp [Builtin.List.listSameRef, hSi]
  unfold Builtin.List.listExtendWith
  refine wpAny_bind (wpAny_typeOf hT ?_)
  rw [if_neg (by rw [h1]; decide)]
  refine wpAny_bind (wpAny_pyIter_revIter (s := { s with heap := h2 }) hit1 ?_)
  refine wpAny_bind (wpAny_holding ?_)
  unfold Builtin.List.listLengthHint
  refine wpAny_bind (wpAny_specialOf hT nolen_lri ?_)
  show wpAny _ A.in1.in1 (specialOf (Value.ref it) (Str.ofString "__length_hint__") >>= _) _ _ _
  refine wpAny_bind (wpAny_specialOf hT hint_lri ?_)
  generalize hid : ("list_reverseiterator.__length_hint__" : String) = id0
  wp_delta
  rw [show splitId id0 = some ("list_reverseiterator", "__length_hint__") from by subst hid; decide +kernel]
  subst hid
  refine wpAny_bind (wpAny_isInstance (b := true) hT (by rw [isSubtype_type]; kernel_rfl) ?_)
  refine wpAny_pure ?_
  rw [if_neg (by decide)]
  have e0 : ((items.size : Nat) : Int) - 1 - ((0 : Nat) : Int) = (items.size : Int) - 1 := by omega
  obtain ⟨o2, ho2, hc2, n2, hd2⟩ : ∃ o2, h2.get? s.heap.objs.size = some o2 ∧ True ∧ ∃ n2 : Nat, True := ⟨_, hS₂, trivial, 0, trivial⟩
  refine wpAny_pure ⟨plainId_quiet F.plain_extend_loop _, codeAny_extend_loopS W hn _ hSf _ items.size 0 _ _ _ rfl (Nat.zero_le _) ⟨Nat.zero_le _, by rw [e0]; exact hit1, hl1⟩ hS₂ (ItemsOf.nil _) fun s' acc' c' hm hS' hacc => ?_⟩
  refine ⟨rfl, ?_⟩
  rw [Moved.eq_with hm]
  refine hQ s'.heap s'.toks acc' c' (fun b o hb e => hm.heap b o (fun hmem => ?_) (oth b o e)) hS' hacc
  rcases List.mem_cons.mp hmem with e' | hmem
  · exact absurd (Heap.lt_size e) (by rw [e']; exact Nat.lt_irrefl _)
  · exact hb (List.mem_singleton.mp hmem)
def tListRev (K : PySem.W.Frag) (te : TE) : TE := fun σ H Q => te σ H fun v H1 => ∃ (a : Addr) (xs : List V), v = .ref a ∧ SqL K H1 a xs ∧ ∀ q, H1 q = none → Q (.ref q) (upd H1 q (.lst xs.reverse))
theorem pe_listRev {X : Cx} {e : Expr} {te : TE} {p p2 pos pos2 : Pos} (hc : X.calm = true) (hg : Gl X "list") (hm : X.mg "list" = none) (hg2 : Gl X "reversed") (hm2 : X.mg "reversed" = none) (he : PE X e te)
    (hs : starEach [e] X.env = (false, eval e X.env) :: starEach [] X.env := by rfl)
    (hs2 : starEach [.Call (.Name "reversed" p2) [e] [] pos2] X.env = (false, eval (.Call (.Name "reversed" p2) [e] [] pos2) X.env) :: starEach [] X.env := by rfl) :
    PE X (.Call (.Name "list" p) [.Call (.Name "reversed" p2) [e] [] pos2] [] pos) (tListRev X.K te) := by
  refine ⟨fun pins s σ H Q I h => ?_⟩
  refine Call_ (ld_blt I hg hm boot_list (PyProof.Rows.callWith_type1 (args_cons (Call_ (ld_blt I hg2 hm2 PyProof.Rows.boot_reversed (PyProof.Rows.callWith_type1 (args_cons (thn (he.run pins s σ H _ I h) fun u s1 ⟨v, H1, I1, r1, q1⟩ => args_nil ?_) hs) hs rfl))) hs2) hs2 rfl))
  obtain ⟨a, xs, ev, hq, q⟩ := q1
  subst ev
  obtain rfl : u = Value.ref a := r1
  obtain ⟨its, rv, p', hz⟩ := I1.list hq
  refine call_reversed_list p'.isList (args_nil ?_)
  have k0 : ∀ b o, s1.heap.get? b = some o → (s1.heap.push (revObj a ((its.toArray.size : Int) - 1))).get? b = some o := fun b o e => Heap.get?_push_of_some _ e
  have I2 : Inv X pins σ H1 { s1 with heap := s1.heap.push (revObj a ((its.toArray.size : Int) - 1)) } := I1.kept (t' := s1.toks) k0
  obtain ⟨f0, f1, f2, f3, f4, f5⟩ := I1.fpOk (H' := H1) (b := s1.heap.objs.size) (Nat.le_refl _) (I1.hok.fresh (Nat.le_refl _))
  have hl := p'.isList
  obtain ⟨ol, hol, _⟩ := id hl
  have hne : a ≠ s1.heap.objs.size := Nat.ne_of_lt (Heap.lt_size hol)
  have hn : its.toArray.size ≤ sizeLine := by rw [List.size_toArray, ← rv.length]; exact hz
  have hsz : (s1.heap.push (revObj a ((its.toArray.size : Int) - 1))).objs.size = s1.heap.objs.size + 1 := Heap.size_push ..
  refine call_list_revl (s := { s1 with heap := s1.heap.push (revObj a ((its.toArray.size : Int) - 1)) }) (I1.ok.hd hc) ⟨_, Heap.get?_push_size _ rfl, rfl, rfl⟩ (hl.push _) hne hn fun h' tk acc c hk hS hi => ?_
  have hS' : h'.get? (s1.heap.objs.size + 1) = some { cls := .type "list", dict := none, data := .seq acc c, slots := #[] } := by rw [← hsz]; exact hS
  have new : ObjOk X.prog X.w (upd H1 (s1.heap.objs.size + 1) (.lst xs.reverse)) h' (s1.heap.objs.size + 1) (.lst xs.reverse) :=
    ⟨by rw [List.length_reverse]; exact hz, acc.toList, c, vals_rev rv hi, by rw [Array.toArray_toList]; exact hS'⟩
  have I3 : Inv X pins σ (upd H1 (s1.heap.objs.size + 1) (.lst xs.reverse)) { s1 with heap := h', toks := tk } :=
    I2.turnedNew (ch := [s1.heap.objs.size]) (fun b ob hb e => hk b ob (by simpa using hb) e) (fun b hb => by
      have e : b = s1.heap.objs.size := by simpa using hb
      subst e
      exact ⟨f0, f1, f2, f3, f4, f5⟩) (by rw [hsz]; exact Nat.le_refl _) new
  refine ⟨.ref (s1.heap.objs.size + 1), _, I3, ?_, q _ (I1.hok.fresh (Nat.le_succ _))⟩
  show Value.ref _ = Value.ref _
  rw [hsz]
/-- list(reversed(xs)) -/
def mListRev (e : ME) : ME := fun σ h => (e σ h).bind fun x h => match lsOf h x with
  | some ds => .ok (.lst ds.reverse) h
  | none => .bad
theorem RepL.reverse {r : RC} : ∀ {vs : List V} {ds : List D}, RepL r vs ds → RepL r vs.reverse ds.reverse
  | _, _, .nil => .nil
  | _, _, .cons q l => by
    rw [List.reverse_cons, List.reverse_cons]
    exact (RepL.reverse l).append (RepL.one q)
theorem se_listRev {X : Cx} {W : WX} {e : Expr} {me : ME} {p p2 pos pos2 : Pos} (hc : X.calm = true) (hm : X.mg "list" = none) (hm2 : X.mg "reversed" = none) (he : SE X W e me) (hg : Gl X "list" := by rfl) (hg2 : Gl X "reversed" := by rfl)
    (hs : starEach [e] X.env = (false, eval e X.env) :: starEach [] X.env := by rfl)
    (hs2 : starEach [.Call (.Name "reversed" p2) [e] [] pos2] X.env = (false, eval (.Call (.Name "reversed" p2) [e] [] pos2) X.env) :: starEach [] X.env := by rfl) :
    SE X W (.Call (.Name "list" p) [.Call (.Name "reversed" p2) [e] [] pos2] [] pos) (mListRev me) := (pe_listRev hc hg hm hg2 hm2 he hs hs2).imp fun σ H Q ⟨B, ι, h, σa, R, S, p⟩ => by
  refine ⟨B, ι, h, σa, R, S, (Post.bind (rel := Rep) p).imp ?_⟩
  rintro v H1 ⟨ι1, h1, d, _, x1, r1, p1⟩
  split at p1
  · rename_i ds hl
    obtain ⟨a, vs, rfl, ea, l⟩ := lsOf_rep x1.rel r1 hl
    refine ⟨a, vs, rfl, SqL.of ea, fun q hq => ?_⟩
    exact p1 ι1 _ _ (Ext.fresh x1.rel hq _) (.lst upd_same (l.reverse.up (Up.fresh x1.rel hq _)) (x1.rel.fz_new hq))
  · exact p1.elim
/-! ### {} -/
def mDicN (b : Bool) : ME := fun _ h => .ok (.loc h.length) (h ++ [.dct b []])
theorem se_dicK {X : Cx} {W : WX} {pos : Pos} : SE X W (.Dict [] [] pos) (mDicN false) := pe_dnewK.imp fun σ H Q ⟨B, ι, h, σa, R, S, p⟩ => by
  intro a ha
  have x := Ext.grow R ha (c := .dct false []) (o := .dK []) (.dk upd_same .nil)
  have y := p _ _ (.ref ((fun j => if j = h.length then a else ι j) h.length)) x (Rep.loc (r := ⟨X.K, B, _, (h ++ [Cell.dct false []]).length, _⟩) (by simp))
  simpa using y
theorem se_dicT {X : Cx} {W : WX} {pos : Pos} : SE X W (.Dict [] [] pos) (mDicN true) := pe_dnewT.imp fun σ H Q ⟨B, ι, h, σa, R, S, p⟩ => by
  intro a ha
  have x := Ext.grow R ha (c := .dct true []) (o := .dT []) (.dt upd_same .nil)
  have y := p _ _ (.ref ((fun j => if j = h.length then a else ι j) h.length)) x (Rep.loc (r := ⟨X.K, B, _, (h ++ [Cell.dct true []]).length, _⟩) (by simp))
  simpa using y
end MW

set_option maxHeartbeats 2000000
/-! MW13: callees as facts; the law's end. -/
namespace MW
open PySem PySem.Spec PyProof.Rows L2
section
variable (P : Program) (w : World) (K : PySem.W.Frag) (mg : PySem.Str → Option Value) (base : Heap)
/-- a def of the module that may be called by its name -/
structure CalF (k : Nat) (x : PySem.Str) (m : Fn) (n : Nat) (dd : List D) : Prop where
  ex : ∃ (f : Addr) (fd : FuncData) (ps : List PySem.Str) (ds : List Value) (dvs : List V), FnOk P w K mg base (L2.CX P w) k f fd ps (spA K m n) ∧ mg x = some (.ref f) ∧ PySem.W.keepIn K (.ref f) = true ∧ Binds K fd ps ds ∧ Vals dvs ds ∧ ∀ r, RepL r dvs dd
structure MthF (k : Nat) (c : String) (name : PySem.Str) (m : Fn) (n : Nat) (dd : List D) : Prop where
  ex : ∃ (f : Addr) (fd : FuncData) (ps : List PySem.Str) (ds : List Value) (dvs : List V), FnOk P w K mg base (L2.CX P w) k f fd ps (spA K m n) ∧ Cls K (He.ga K c) ∧ Meth K (He.ga K c) name f ∧ Binds K fd ps ds ∧ Vals dvs ds ∧ ∀ r, RepL r dvs dd
structure MakF (k : Nat) (x : PySem.Str) (c : String) (m : Fn) (n : Nat) (dd : List D) : Prop where
  ex : ∃ (f : Addr) (fd : FuncData) (ps : List PySem.Str) (ds : List Value) (dvs : List V), FnOk P w K mg base (L2.CX P w) k f fd ps (spA K m n) ∧ Mk K (He.ga K c) f ∧ mg x = some (.ref (He.ga K c)) ∧ Binds K fd ps ds ∧ Vals dvs ds ∧ ∀ r, RepL r dvs dd
end
def fnBad : Fn := fun _ _ => .bad
theorem spA_bad {K : PySem.W.Frag} {n : Nat} {vs : List V} {H : Hp} {Q : VK} {E : XK} (q : spA K fnBad n vs H Q E) : False := let ⟨_, _, _, _, _, _, _, p⟩ := q; p
theorem fnok_bad {P : Program} {w : World} {K : PySem.W.Frag} {mg : PySem.Str → Option Value} {base : Heap} {CX : CXT} {k : Nat} {f : Addr} {fd : FuncData} {ps : List PySem.Str} {n : Nat} : FnOk P w K mg base CX k f fd ps (spA K fnBad n) :=
  ⟨fun _ _ _ _ q => (spA_bad q).elim, fun _ _ _ _ _ _ _ _ _ _ _ _ _ q => (spA_bad q).elim⟩
theorem takes0 {X : Cx} : Takes X W0 := fun _ _ ⟨_, _, _, _, _, _, _, _, _, _, _, _, _, _, _, _, w⟩ => w.elim
section
variable {X : Cx} {W : WX} {j k : Nat} {x name : PySem.Str} {p pos apos : Pos} {o e : Expr} {es : List Expr} {ms : List ME} {mo : ME} {m : Fn} {n : Nat} {dd : List D} {c : String}
theorem se_cp (C : CalF X.prog X.w X.K X.mg X.base j x m n dd) (hr : Room k X.A) (tk : Takes X W) (ha : SA X W (e :: es) (mArgs ms)) (hj : j ≤ k := by decide) (hg : Gl X x := by rfl) (hn : ms.length + dd.length = n := by rfl) (hdb : (x == ("__debug__" : PySem.Str)) = false := by decide) (he : starEach (e :: es) X.env = (false, eval e X.env) :: starEach es X.env := by rfl) (hpl : (backTo pos (starEach es X.env)).any (·.1) = false := by rfl) :
    SE X W (.Call (.Name x p) (e :: es) [] pos) (mP m ms dd) := by
  obtain ⟨f, fd, ps, ds, dvs, F, hm, hk, hb, hd, hD⟩ := C.ex
  exact se_p F (hr.mono hj) tk hm hk hb hd hD ha hg hn hdb he hpl
theorem se_cg (C : CalF X.prog X.w X.K X.mg X.base j x m n dd) (hr : Room k X.A) (tk : Takes X W) (ha : SA X W (e :: es) (mArgs ms)) (hj : j ≤ k := by decide) (hg : Gl X x := by rfl) (hn : ms.length + dd.length = n := by rfl) (hdb : (x == ("__debug__" : PySem.Str)) = false := by decide) (he : starEach (e :: es) X.env = (false, eval e X.env) :: starEach es X.env := by rfl) (hpl : (backTo pos (starEach es X.env)).any (·.1) = false := by rfl) :
    SE X W (.Call (.Name x p) (e :: es) [] pos) (mG m ms dd) := by
  obtain ⟨f, fd, ps, ds, dvs, F, hm, hk, hb, hd, hD⟩ := C.ex
  exact se_g F (hr.mono hj) tk hm hk hb hd hD ha hg hn hdb he hpl
theorem se_cm {pl : Sem Bool} (C : MthF X.prog X.w X.K X.mg X.base j c name m n dd) (hr : Room k X.A) (ho : SE X W o mo) (ha : SA X W (e :: es) (mArgs ms)) (hj : j ≤ k := by decide) (hn : ms.length + dd.length + 1 = n := by rfl) (hst : starEach (e :: es) X.env = (false, eval e X.env) :: starEach es X.env := by rfl) (hpl : (backTo pos (starEach es X.env)).any (·.1) = false := by rfl)
    (ht : eval (.Call (.Attribute o name apos) (e :: es) [] pos) X.env = (do
      let ov ← eval o X.env
      standAt apos.atName
      let (f, first) ← holding [ov] (getMethod ov name pl)
      callWith pos f first (backTo pos (starEach (e :: es) X.env)) (backToKw pos (keywordEach [] X.env))) := by rfl) :
    SE X W (.Call (.Attribute o name apos) (e :: es) [] pos) (mMeth c name m mo ms dd) := by
  obtain ⟨f, fd, ps, ds, dvs, F, hc, hm, hb, hd, hD⟩ := C.ex
  exact se_meth (pl := pl) ho hc hm F (hr.mono hj) hb hd hD ha hn hst hpl ht
theorem se_cm0 {pl : Sem Bool} (C : MthF X.prog X.w X.K X.mg X.base j c name m n dd) (hr : Room k X.A) (ho : SE X W o mo) (hj : j ≤ k := by decide) (hn : dd.length + 1 = n := by rfl)
    (ht : eval (.Call (.Attribute o name apos) [] [] pos) X.env = (do
      let ov ← eval o X.env
      standAt apos.atName
      let (f, first) ← holding [ov] (getMethod ov name pl)
      callWith pos f first (backTo pos (starEach [] X.env)) (backToKw pos (keywordEach [] X.env))) := by rfl) :
    SE X W (.Call (.Attribute o name apos) [] [] pos) (mMeth c name m mo [] dd) := by
  obtain ⟨f, fd, ps, ds, dvs, F, hc, hm, hb, hd, hD⟩ := C.ex
  exact se_meth0 (pl := pl) ho hc hm F (hr.mono hj) hb hd hD hn ht
theorem se_ck {L : List PySem.Str} (C : MakF X.prog X.w X.K X.mg X.base j x c m n dd) (hr : Room k X.A) (ha : SA X W (e :: es) (mArgs ms)) (hj : j + 1 ≤ k := by decide) (hg : Gl X x := by rfl)
    (hn : ms.length + dd.length + 1 = n := by rfl) (hdb : (x == ("__debug__" : PySem.Str)) = false := by decide) (he : starEach (e :: es) X.env = (false, eval e X.env) :: starEach es X.env := by rfl) (hpl : (backTo pos (starEach es X.env)).any (·.1) = false := by rfl) :
    SE X W (.Call (.Name x p) (e :: es) [] pos) (mMake c L m ms dd) := by
  obtain ⟨f, fd, ps, ds, dvs, F, M, hm, hb, hd, hD⟩ := C.ex
  exact se_make M F (hr.mono hj) hm hb hd hD ha hg hn hdb he hpl
end
theorem intsL (r : RC) : ∀ ns : List Int, RepL r (ns.map V.int) (ns.map D.int)
  | [] => .nil
  | i :: ns => .cons (.int i) (intsL r ns)
/-- the law's end: what the mirror answers upon any script -/
theorem law_sp {K : PySem.W.Frag} {m : Fn} (hm : ∀ ns : List Int, ns.length ≤ 63 → ∃ h, m [.scr (ns.map D.int)] [] = .ok (.bl true) h) (H : Hp) (a : Addr) (ns : List Int) (hl : ns.length ≤ 63) (hO : Only H) (hS : SqL K H a (ns.map V.int)) : spA K m 1 [.ref a] H (fun v _ => v = .bl true) fun _ _ _ => False := by
  obtain ⟨h, e⟩ := hm ns hl
  have ea : ScrA K H a (ns.map V.int) := by
    rcases hS with (q | ⟨o', q⟩) | q
    · rcases hO a with z | ⟨o, xs, z⟩
      · rw [z] at q; cases q
      · rw [z] at q; cases q
    · exact .inl ⟨o', q⟩
    · exact .inr q
  refine ⟨rfl, fun _ => False, fun _ => 0, [], [.scr (ns.map D.int)], Rel.rel0 _ _ _ (fun _ b => b.elim), .cons (.scr ea (intsL _ ns)) .nil, ?_⟩
  rw [e]
  intro ι' H' v x r
  cases r
  rfl
end MW

set_option maxHeartbeats 2000000
/-! MW14: further facts of the head, as Bools. -/
namespace MW
open PySem PySem.Spec PyProof.Rows L2
section
variable {K : PySem.W.Frag} {c a b : String} {r : Bool}
def mk0B (K : PySem.W.Frag) (c : String) : Bool := PySem.W.makesIn K (He.ga K c) && (He.eqO (PySem.W.findIn K (.ref (He.ga K c)) "__init__") (some (some (.builtin "object.__init__"))) && (decide (PySem.W.mroIn K (He.ga K c) (.type "object") = some true) && (decide (PySem.W.mroIn K (He.ga K c) (.ref (He.ga K c)) = some true) && PySem.W.keepIn K (.ref (He.ga K c)))))
theorem mk0B_ok (h : mk0B K c = true) : Mk0 K (He.ga K c) := by
  obtain ⟨h1, h⟩ := He.ba h
  obtain ⟨h2, h⟩ := He.ba h
  obtain ⟨h3, h⟩ := He.ba h
  obtain ⟨h4, h⟩ := He.ba h
  exact ⟨h1, He.eqO_ok h2, of_decide_eq_true h3, of_decide_eq_true h4, h⟩
def insB (K : PySem.W.Frag) (c : String) : Bool := He.eqO (PySem.W.findIn K (.ref (He.ga K c)) "__class__") (some (some (.builtin "object.__class__"))) && (He.eqO (PySem.W.specialIn K (.builtin "object.__class__") "__get__") (some (some (.builtin "getset_descriptor.__get__"))) &&
  (decide (PySem.W.takesIn K (.builtin "object.__class__") = some true) && decide (PySem.W.mroIn K (He.ga K c) (.type "object") = some true)))
theorem insB_ok (k : Cls K (He.ga K c)) (h : insB K c = true) : InsC K c := by
  obtain ⟨h1, h⟩ := He.ba h
  obtain ⟨h2, h⟩ := He.ba h
  obtain ⟨h3, h⟩ := He.ba h
  exact ⟨k, He.eqO_ok h1, He.eqO_ok h2, of_decide_eq_true h3, of_decide_eq_true h⟩
def subB (K : PySem.W.Frag) (a b : String) (r : Bool) : Bool := decide (PySem.W.kitOne K (.ref (He.ga K a)) (.ref (He.ga K b)) = some r)
theorem subB_ok (h : subB K a b r = true) : PySem.W.kitOne K (.ref (He.ga K a)) (.ref (He.ga K b)) = some r := of_decide_eq_true h
end
/-- the end: the head's facts give the law's def, its mirror answers True -/
theorem law_end {l : PySem.W.OpenLaw} {k : Nat} {q : Program} {loose : List PySem.Str} {XP : (PySem.Str → Option Value) → Heap → Prop} {YP : World → Heap → Prop} {d : DefRec} {x : PySem.Str} {m : Fn} (h63 : l.most = some 63) (nodef : d.params.defaults = []) (room : Room k callerA)
    (G : ∀ (w : World) (mg : PySem.Str → Option Value) (fa : Addr) (h : Heap), YP w h → h.Ns mainGlobals mg → mg d.name = some (.ref fa) → ∃ (K : PySem.W.Frag) (fd : FuncData), K.In h ∧ (∀ (s : Shared) (u : Value), BindsTo s fd ⟨[u], []⟩ [(x, u)]) ∧
      ∀ base : Heap, K.In base → base.Ns mainGlobals mg → FnOk l.prog w K mg base (L2.CX l.prog w) k fa fd [x] (spA K m 1))
    (law : ∀ ns : List Int, ns.length ≤ 63 → ∃ h, m [.scr (ns.map D.int)] [] = .ok (.bl true) h) :
    PySem.W.WalkO q loose XP YP l.row.toRowW d [] (fun f vs => PySem.call f vs) := by
  have hz : (63 : Nat) ≤ sizeLine := Nat.le_trans (by decide) (size1000 (n := 1000) (Nat.le_refl _))
  refine Att.attach_call (n := 63) h63 nodef fun w s₀ s₁ mg mb fa o pm cd doc a vs ns T Y _ _ _ hmg hobj hints hlen hg => ?_
  obtain ⟨K, fd, hK, hb, hF⟩ := G w mg fa _ Y T.T.g hmg
  refine law_call (CX := L2.CX l.prog w) (sp := spA K m 1) hK T.T.g T.T.b T.T.builtins T.T.nolimit hg hobj hints (Nat.le_trans hlen hz) room hF hb (fun H only at_ => law_sp law H a ns hlen only at_) ?_
  rintro H e s' ⟨_, _, _, _, _, _, _, _, _, _, _, _, no⟩
  exact no
end MW

set_option maxHeartbeats 2000000
/-! MW15: mirrors worked out by simp: the first thing first, the rest is not looked at. -/
namespace MW
open PySem L2

def R.bd {α β : Type} (r : R α) (k : α → AH → R β) : R β := match r with
  | .ok a h => k a h
  | .exc c L ds h => .exc c L ds h
  | .bad => .bad
def R.us {α : Type} (r : R α) (σ : SL) (k : α → AH → RS) : RS := match r with
  | .ok a h => k a h
  | .exc c L ds h => .exc c L ds σ h
  | .bad => .bad
def P.u (r : P D) (h : AH) : R D := match r with
  | .ok d => .ok d h
  | .exc c L ds => .exc c L ds h
  | .bad => .bad
section
variable {α β : Type} {σ σ' : SL} {h h' : AH}
/-! ### results -/
@[simp] theorem R.bd_ok {a : α} {k : α → AH → R β} : R.bd (.ok a h) k = k a h := (rfl)
@[simp] theorem R.bd_exc {c L ds} {k : α → AH → R β} : R.bd (.exc c L ds h) k = .exc c L ds h := (rfl)
@[simp] theorem R.bd_bad {k : α → AH → R β} : R.bd .bad k = .bad := (rfl)
@[simp] theorem R.us_ok {a : α} {k : α → AH → RS} : R.us (.ok a h) σ k = k a h := (rfl)
@[simp] theorem R.us_exc {c L ds} {k : α → AH → RS} : R.us (.exc c L ds h) σ k = .exc c L ds σ h := (rfl)
@[simp] theorem R.us_bad {k : α → AH → RS} : R.us .bad σ k = .bad := (rfl)
@[simp] theorem R.noX_ok {a : α} : R.noX (.ok a h) = .ok a h := (rfl)
@[simp] theorem R.noX_bad : R.noX (.bad : R α) = .bad := (rfl)
@[simp] theorem lift_some {z : α} : lift (some z) h = .ok z h := (rfl)
@[simp] theorem lift_none : lift (none : Option α) h = .bad := (rfl)
@[simp] theorem lift2_some {z : α} : lift2 (some (z, h)) = .ok z h := (rfl)
@[simp] theorem lift2_none : lift2 (none : Option (α × AH)) = .bad := (rfl)
def RS.seq (r : RS) (b : MS) : RS := match r with
  | .nx σ h => b σ h
  | r => r
def RS.loop (r : RS) (b : MS) : RS := match r with
  | .nx σ h => b σ h
  | .ct σ h => b σ h
  | .bk σ h => .nx σ h
  | r => r
def RS.fin (r : RS) : R D := match r with
  | .nx _ h => .ok .non h
  | .rt d h => .ok d h
  | .exc c L es _ h => .exc c L es h
  | _ => .bad
@[simp] theorem RS.seq_nx {b : MS} : RS.seq (.nx σ h) b = b σ h := (rfl)
@[simp] theorem RS.seq_rt {d} {b : MS} : RS.seq (.rt d h) b = .rt d h := (rfl)
@[simp] theorem RS.seq_bk {b : MS} : RS.seq (.bk σ h) b = .bk σ h := (rfl)
@[simp] theorem RS.seq_ct {b : MS} : RS.seq (.ct σ h) b = .ct σ h := (rfl)
@[simp] theorem RS.seq_exc {c L ds} {b : MS} : RS.seq (.exc c L ds σ h) b = .exc c L ds σ h := (rfl)
@[simp] theorem RS.seq_bad {b : MS} : RS.seq .bad b = .bad := (rfl)
@[simp] theorem RS.loop_nx {b : MS} : RS.loop (.nx σ h) b = b σ h := (rfl)
@[simp] theorem RS.loop_rt {d} {b : MS} : RS.loop (.rt d h) b = .rt d h := (rfl)
@[simp] theorem RS.loop_bk {b : MS} : RS.loop (.bk σ h) b = .nx σ h := (rfl)
@[simp] theorem RS.loop_ct {b : MS} : RS.loop (.ct σ h) b = b σ h := (rfl)
@[simp] theorem RS.loop_exc {c L ds} {b : MS} : RS.loop (.exc c L ds σ h) b = .exc c L ds σ h := (rfl)
@[simp] theorem RS.loop_bad {b : MS} : RS.loop .bad b = .bad := (rfl)
@[simp] theorem RS.fin_nx : RS.fin (.nx σ h) = .ok .non h := (rfl)
@[simp] theorem RS.fin_rt {d} : RS.fin (.rt d h) = .ok d h := (rfl)
@[simp] theorem RS.fin_exc {c L ds} : RS.fin (.exc c L ds σ h) = .exc c L ds h := (rfl)
@[simp] theorem RS.fin_bad : RS.fin .bad = .bad := (rfl)
/-! ### expressions -/
@[simp] theorem mVar_ev {i : Nat} : mVar i σ h = (match σ[i]? with | some (some d) => .ok d h | _ => .bad) := (rfl)
@[simp] theorem mC_ev {d : D} : mC d σ h = .ok d h := (rfl)
@[simp] theorem mArgs_nil : mArgs [] σ h = .ok [] h := (rfl)
def kA1 (ms : List ME) (σ : SL) : D → AH → R (List D) := fun x h => (mArgs ms σ h).bd fun xs h => .ok (x :: xs) h
def kA2 (x : D) : List D → AH → R (List D) := fun xs h => .ok (x :: xs) h
@[simp] theorem mArgs_cons {m : ME} {ms : List ME} : mArgs (m :: ms) σ h = (m σ h).bd (kA1 ms σ) := (rfl)
@[simp] theorem kA1_ev {ms : List ME} {x : D} : kA1 ms σ x h = (mArgs ms σ h).bd (kA2 x) := (rfl)
@[simp] theorem kA2_ev {xs : List D} {x : D} : kA2 x xs h = .ok (x :: xs) h := (rfl)
def kTup : List D → AH → R D := fun ds h => .ok (.tup ds) h
def kLst : List D → AH → R D := fun ds h => .ok (.lst ds) h
def kLstN : List D → AH → R D := fun ds h => .ok (.loc h.length) (h ++ [.lst ds])
@[simp] theorem mTup_ev {ms : List ME} : mTup ms σ h = (mArgs ms σ h).bd kTup := (rfl)
@[simp] theorem mLst_ev {ms : List ME} : mLst ms σ h = (mArgs ms σ h).bd kLst := (rfl)
@[simp] theorem mLstN_ev {ms : List ME} : mLstN ms σ h = (mArgs ms σ h).bd kLstN := (rfl)
@[simp] theorem kTup_ev {ds : List D} : kTup ds h = .ok (.tup ds) h := (rfl)
@[simp] theorem kLst_ev {ds : List D} : kLst ds h = .ok (.lst ds) h := (rfl)
@[simp] theorem kLstN_ev {ds : List D} : kLstN ds h = .ok (.loc h.length) (h ++ [.lst ds]) := (rfl)
def kB1 (o : D → D → AH → Option D) (b : ME) (σ : SL) : D → AH → R D := fun x h => (b σ h).bd fun y h => lift (o x y h) h
def kB2 (o : D → D → AH → Option D) (x : D) : D → AH → R D := fun y h => lift (o x y h) h
@[simp] theorem mBin_ev {o : D → D → AH → Option D} {a b : ME} : mBin o a b σ h = (a σ h).bd (kB1 o b σ) := (rfl)
@[simp] theorem kB1_ev {o : D → D → AH → Option D} {b : ME} {x : D} : kB1 o b σ x h = (b σ h).bd (kB2 o x) := (rfl)
@[simp] theorem kB2_ev {o : D → D → AH → Option D} {x y : D} : kB2 o x y h = lift (o x y h) h := (rfl)
def kC (o : List D → AH → Option D) : List D → AH → R D := fun ds h => lift (o ds h) h
@[simp] theorem mB_ev {o : List D → AH → Option D} {ms : List ME} : mB o ms σ h = (mArgs ms σ h).bd (kC o) := (rfl)
@[simp] theorem kC_ev {o : List D → AH → Option D} {ds : List D} : kC o ds h = lift (o ds h) h := (rfl)
def kS1 (lo hi : Option ME) (σ : SL) : D → AH → R D := fun x h => (mPart lo σ h).bd fun l h => (mPart hi σ h).bd fun u h => lift (oSl x l u h) h
def kS2 (hi : Option ME) (σ : SL) (x : D) : Option Int → AH → R D := fun l h => (mPart hi σ h).bd fun u h => lift (oSl x l u h) h
def kS3 (x : D) (l : Option Int) : Option Int → AH → R D := fun u h => lift (oSl x l u h) h
@[simp] theorem mSl_ev {m : ME} {lo hi : Option ME} : mSl m lo hi σ h = (m σ h).bd (kS1 lo hi σ) := (rfl)
@[simp] theorem kS1_ev {lo hi : Option ME} {x : D} : kS1 lo hi σ x h = (mPart lo σ h).bd (kS2 hi σ x) := (rfl)
@[simp] theorem kS2_ev {hi : Option ME} {x : D} {l : Option Int} : kS2 hi σ x l h = (mPart hi σ h).bd (kS3 x l) := (rfl)
@[simp] theorem kS3_ev {x : D} {l u : Option Int} : kS3 x l u h = lift (oSl x l u h) h := (rfl)
@[simp] theorem mPart_none : mPart none σ h = .ok none h := (rfl)
def asI (d : D) (h : AH) : R (Option Int) := match d with
  | .int i => .ok (some i) h
  | _ => .bad
@[simp] theorem asI_int {i : Int} : asI (.int i) h = .ok (some i) h := (rfl)
@[simp] theorem mPart_some {m : ME} : mPart (some m) σ h = (m σ h).bd asI := (rfl)
def asB (d : D) (h : AH) : R Bool := match d with
  | .bl b => .ok b h
  | _ => .bad
@[simp] theorem asB_bl {b : Bool} : asB (.bl b) h = .ok b h := (rfl)
@[simp] theorem mTest_ev {m : ME} : mTest m σ h = (m σ h).bd asB := (rfl)
def kAndT (b : MT) (σ : SL) : Bool → AH → R Bool := fun c h => if c = true then b σ h else .ok false h
def kOrT (b : MT) (σ : SL) : Bool → AH → R Bool := fun c h => if c = true then .ok true h else b σ h
def kNotT : Bool → AH → R Bool := fun c h => .ok (!c) h
@[simp] theorem mAndT_ev {a b : MT} : mAndT a b σ h = (a σ h).bd (kAndT b σ) := (rfl)
@[simp] theorem mOrT_ev {a b : MT} : mOrT a b σ h = (a σ h).bd (kOrT b σ) := (rfl)
@[simp] theorem mNotT_ev {a : MT} : mNotT a σ h = (a σ h).bd kNotT := (rfl)
@[simp] theorem kAndT_t {b : MT} : kAndT b σ true h = b σ h := (rfl)
@[simp] theorem kAndT_f {b : MT} : kAndT b σ false h = .ok false h := (rfl)
@[simp] theorem kOrT_t {b : MT} : kOrT b σ true h = .ok true h := (rfl)
@[simp] theorem kOrT_f {b : MT} : kOrT b σ false h = b σ h := (rfl)
@[simp] theorem kNotT_ev {c : Bool} : kNotT c h = .ok (!c) h := (rfl)
def kAnd (b : ME) (σ : SL) : Bool → AH → R D := fun c h => if c = true then b σ h else .ok (.bl false) h
def kOr (b : ME) (σ : SL) : Bool → AH → R D := fun c h => if c = true then .ok (.bl true) h else b σ h
def kNot : Bool → AH → R D := fun c h => .ok (.bl (!c)) h
def kIf (a b : ME) (σ : SL) : Bool → AH → R D := fun c h => if c = true then a σ h else b σ h
@[simp] theorem kAnd_t {b : ME} : kAnd b σ true h = b σ h := (rfl)
@[simp] theorem kAnd_f {b : ME} : kAnd b σ false h = .ok (.bl false) h := (rfl)
@[simp] theorem kOr_t {b : ME} : kOr b σ true h = .ok (.bl true) h := (rfl)
@[simp] theorem kOr_f {b : ME} : kOr b σ false h = b σ h := (rfl)
@[simp] theorem kNot_ev {c : Bool} : kNot c h = .ok (.bl (!c)) h := (rfl)
@[simp] theorem kIf_t {a b : ME} : kIf a b σ true h = a σ h := (rfl)
@[simp] theorem kIf_f {a b : ME} : kIf a b σ false h = b σ h := (rfl)
@[simp] theorem mAnd_ev {a b : ME} : mAnd a b σ h = ((a σ h).bd asB).bd (kAnd b σ) := by
  unfold mAnd
  cases a σ h with
  | ok d h' => cases d with
    | bl c => cases c <;> rfl
    | _ => rfl
  | _ => rfl
@[simp] theorem mOr_ev {a b : ME} : mOr a b σ h = ((a σ h).bd asB).bd (kOr b σ) := by
  unfold mOr
  cases a σ h with
  | ok d h' => cases d with
    | bl c => cases c <;> rfl
    | _ => rfl
  | _ => rfl
@[simp] theorem mNot_ev {a : ME} : mNot a σ h = ((a σ h).bd asB).bd kNot := by
  unfold mNot
  cases a σ h with
  | ok d h' => cases d <;> rfl
  | _ => rfl
@[simp] theorem mIf_ev {c : MT} {a b : ME} : mIf c a b σ h = (c σ h).bd (kIf a b σ) := (rfl)
def negD (d : D) (h : AH) : R D := match d with
  | .int i => .ok (.int (-i)) h
  | _ => .bad
@[simp] theorem negD_int {i : Int} : negD (.int i) h = .ok (.int (-i)) h := (rfl)
@[simp] theorem mNeg_ev {a : ME} : mNeg a σ h = (a σ h).bd negD := by
  unfold mNeg
  cases a σ h with
  | ok d h' => cases d <;> rfl
  | _ => rfl
def kFld (cs : List String) (f : PySem.Str) : D → AH → R D := fun x h => lift (getF cs f x h) h
@[simp] theorem mFld_ev {cs : List String} {f : PySem.Str} {o : ME} : mFld cs f o σ h = (o σ h).bd (kFld cs f) := (rfl)
@[simp] theorem kFld_ev {cs : List String} {f : PySem.Str} {x : D} : kFld cs f x h = lift (getF cs f x h) h := (rfl)
def kM2 (o : D → List D → AH → Option (D × AH)) (x : D) : List D → AH → R D := fun ds h => lift2 (o x ds h)
def kM1 (o : D → List D → AH → Option (D × AH)) (ms : List ME) (σ : SL) (x : D) (h : AH) (c : Bool) : R D := if c = true then (mArgs ms σ h).bd (kM2 o x) else .bad
def kM0 (ck : D → AH → Bool) (o : D → List D → AH → Option (D × AH)) (ms : List ME) (σ : SL) : D → AH → R D := fun x h => kM1 o ms σ x h (ck x h)
@[simp] theorem mM_ev {ck : D → AH → Bool} {o : D → List D → AH → Option (D × AH)} {r : ME} {ms : List ME} : mM ck o r ms σ h = (r σ h).bd (kM0 ck o ms σ) := (rfl)
@[simp] theorem kM0_ev {ck : D → AH → Bool} {o : D → List D → AH → Option (D × AH)} {ms : List ME} {x : D} : kM0 ck o ms σ x h = kM1 o ms σ x h (ck x h) := (rfl)
@[simp] theorem kM1_t {o : D → List D → AH → Option (D × AH)} {ms : List ME} {x : D} : kM1 o ms σ x h true = (mArgs ms σ h).bd (kM2 o x) := (rfl)
@[simp] theorem kM2_ev {o : D → List D → AH → Option (D × AH)} {x : D} {ds : List D} : kM2 o x ds h = lift2 (o x ds h) := (rfl)
/-- a call told by its arguments -/
def callP (m : Fn) (dd ds : List D) (h : AH) : R D := if D.purL ds = true then (pc m (ds ++ dd)).u h else match optL (frz 8 h) ds with
  | some es => (pc m (es ++ dd)).upF h
  | none => .bad
@[simp] theorem mP_ev {m : Fn} {ms : List ME} {dd : List D} : mP m ms dd σ h = (mArgs ms σ h).bd (callP m dd) := (rfl)
def kG (m : Fn) (dd : List D) : List D → AH → R D := fun ds h => m (ds ++ dd) h
@[simp] theorem kG_ev {m : Fn} {dd ds : List D} : kG m dd ds h = m (ds ++ dd) h := (rfl)
@[simp] theorem mG_ev {m : Fn} {ms : List ME} {dd : List D} : mG m ms dd σ h = (mArgs ms σ h).bd (kG m dd) := (rfl)
theorem callP_ok {m : Fn} {dd ds : List D} {z : D} (hp : D.purL ds = true) (e : pc m (ds ++ dd) = .ok z) : callP m dd ds h = .ok z h := by
  unfold callP
  rw [if_pos hp, e]
  rfl
theorem callP_pur {m : Fn} {dd ds : List D} (hp : D.purL ds = true) : callP m dd ds h = (pc m (ds ++ dd)).u h := by
  unfold callP
  rw [if_pos hp]
theorem callP_frz {m : Fn} {dd ds es : List D} {z : D} (hf : optL (frz 8 h) ds = some es) (hn : D.purL ds = false) (e : pc m (es ++ dd) = .ok z) (hz : z.flat = true) : callP m dd ds h = .ok z h := by
  unfold callP
  rw [if_neg (by rw [hn]; exact Bool.false_ne_true), hf]
  simp only
  rw [e]
  simp only [P.upF, hz, if_true]
@[simp] theorem P.u_ok {z : D} : P.u (.ok z) h = .ok z h := (rfl)
@[simp] theorem P.u_bad : P.u .bad h = .bad := (rfl)
@[simp] theorem P.u_exc {c L ds} : P.u (.exc c L ds) h = .exc c L ds h := (rfl)
def kMe (m : Fn) (x : D) (dd : List D) : List D → AH → R D := fun ds h => (m (x :: (ds ++ dd)) h).noX
@[simp] theorem kMe_ev {m : Fn} {x : D} {dd ds : List D} : kMe m x dd ds h = (m (x :: (ds ++ dd)) h).noX := (rfl)
def callM (c : String) (name : PySem.Str) (m : Fn) (dd : List D) (ms : List ME) (σ : SL) (x : D) (h : AH) : R D := if mthOk c name x h = true then (mArgs ms σ h).bd fun ds h => (m (x :: (ds ++ dd)) h).noX else .bad
@[simp] theorem mMeth_ev {c : String} {name : PySem.Str} {m : Fn} {o : ME} {ms : List ME} {dd : List D} : mMeth c name m o ms dd σ h = (o σ h).bd (callM c name m dd ms σ) := (rfl)
theorem callM_bad {c : String} {name : PySem.Str} {m : Fn} {dd : List D} {ms : List ME} {x : D} (e : mthOk c name x h = false) : callM c name m dd ms σ x h = .bad := by
  unfold callM
  rw [if_neg (by rw [e]; exact Bool.false_ne_true)]
theorem callM_ok {c : String} {name : PySem.Str} {m : Fn} {dd : List D} {ms : List ME} {x : D} (e : mthOk c name x h = true) : callM c name m dd ms σ x h = (mArgs ms σ h).bd (kMe m x dd) := by
  unfold callM
  rw [if_pos e]
  rfl
def R.alt {α : Type} (r s : R α) : R α := match r with
  | .bad => s
  | r => r
@[simp] theorem R.alt_bad {s : R α} : R.alt .bad s = s := (rfl)
@[simp] theorem R.alt_ok {a : α} {s : R α} : R.alt (.ok a h) s = .ok a h := (rfl)
@[simp] theorem R.alt_exc {c L ds} {s : R α} : R.alt (.exc c L ds h) s = .exc c L ds h := (rfl)
@[simp] theorem mAlt_ev {a b : ME} : mAlt a b σ h = R.alt (a σ h) (b σ h) := by
  unfold mAlt
  cases a σ h <;> rfl
def madeR (l : Nat) (r : R D) : R D := match r with
  | .ok .non h' => .ok (.loc l) h'
  | _ => .bad
@[simp] theorem madeR_ok {l : Nat} : madeR l (.ok .non h) = .ok (.loc l) h := (rfl)
def kMk (c : String) (L : List PySem.Str) (m : Fn) (dd : List D) : List D → AH → R D := fun ds h => madeR h.length (m (.loc h.length :: (ds ++ dd)) (h ++ [.ins c L []]))
@[simp] theorem mMake_ev {c : String} {L : List PySem.Str} {m : Fn} {ms : List ME} {dd : List D} : mMake c L m ms dd σ h = (mArgs ms σ h).bd (kMk c L m dd) := (rfl)
@[simp] theorem kMk_ev {c : String} {L : List PySem.Str} {m : Fn} {dd ds : List D} : kMk c L m dd ds h = madeR h.length (m (.loc h.length :: (ds ++ dd)) (h ++ [.ins c L []])) := (rfl)
@[simp] theorem mMake0_ev {c : String} {L : List PySem.Str} : mMake0 c L σ h = .ok (.loc h.length) (h ++ [.ins c L []]) := (rfl)
@[simp] theorem mDicN_ev {b : Bool} : mDicN b σ h = .ok (.loc h.length) (h ++ [.dct b []]) := (rfl)
def revD (x : D) (h : AH) : R D := match lsOf h x with
  | some ds => .ok (.lst ds.reverse) h
  | none => .bad
@[simp] theorem mListRev_ev {e : ME} : mListRev e σ h = (e σ h).bd revD := (rfl)
/-! ### statements -/
@[simp] theorem mSkip_ev : mSkip σ h = .nx σ h := (rfl)
@[simp] theorem mBrk_ev : mBrk σ h = .bk σ h := (rfl)
@[simp] theorem mCnt_ev : mCnt σ h = .ct σ h := (rfl)
@[simp] theorem mSeq_ev {a b : MS} : mSeq a b σ h = (a σ h).seq b := (rfl)
def uX (σ : SL) : D → AH → RS := fun _ h => .nx σ h
@[simp] theorem mExpr_ev {e : ME} : mExpr e σ h = (e σ h).us σ (uX σ) := (rfl)
@[simp] theorem uX_ev {d : D} : uX σ d h = .nx σ h := (rfl)
def uR : D → AH → RS := fun d h => .rt d h
@[simp] theorem mRet_ev {e : ME} : mRet e σ h = (e σ h).us σ uR := (rfl)
@[simp] theorem uR_ev {d : D} : uR d h = .rt d h := (rfl)
def uIf (a b : MS) (σ : SL) : Bool → AH → RS := fun k h => if k = true then a σ h else b σ h
@[simp] theorem uIf_t {a b : MS} : uIf a b σ true h = a σ h := (rfl)
@[simp] theorem uIf_f {a b : MS} : uIf a b σ false h = b σ h := (rfl)
@[simp] theorem mRetN_ev : mRetN σ h = .rt .non h := (rfl)
@[simp] theorem mIfS_ev {c : MT} {a b : MS} : mIfS c a b σ h = (c σ h).us σ (uIf a b σ) := (rfl)
def setG (o : Option SL) (h : AH) : RS := match o with
  | some σ => .nx σ h
  | none => .bad
@[simp] theorem setG_some : setG (some σ) h = .nx σ h := (rfl)
@[simp] theorem setG_none : setG none h = .bad := (rfl)
def uG (g : MG) (σ : SL) : D → AH → RS := fun d h => setG (g d σ h) h
@[simp] theorem mAsg_ev {g : MG} {e : ME} : mAsg g e σ h = (e σ h).us σ (uG g σ) := (rfl)
@[simp] theorem uG_ev {g : MG} {d : D} : uG g σ d h = setG (g d σ h) h := (rfl)
@[simp] theorem gN_ev {i : Nat} {d : D} : gN i d σ h = some (σ.set i (some d)) := (rfl)
@[simp] theorem gT_tup {gs : List MG} {ds : List D} : gT gs (.tup ds) σ h = gAll gs ds σ h := (rfl)
@[simp] theorem gAll_nil : gAll [] [] σ h = some σ := (rfl)
def oG (gs : List MG) (ds : List D) (h : AH) (o : Option SL) : Option SL := o.bind fun σ => gAll gs ds σ h
@[simp] theorem oG_some {gs : List MG} {ds : List D} : oG gs ds h (some σ) = gAll gs ds σ h := (rfl)
@[simp] theorem gAll_cons {g : MG} {gs : List MG} {d : D} {ds : List D} : gAll (g :: gs) (d :: ds) σ h = oG gs ds h (g d σ h) := (rfl)
def setH (o : Option AH) (σ : SL) : RS := match o with
  | some h => .nx σ h
  | none => .bad
@[simp] theorem setH_some : setH (some h) σ = .nx σ h := (rfl)
@[simp] theorem setH_none : setH none σ = .bad := (rfl)
def uP3 (σ : SL) (v x : D) : D → AH → RS := fun y h => setH (putD x y v h) σ
def uP2 (i : ME) (σ : SL) (v : D) : D → AH → RS := fun x h => (i σ h).us σ (uP3 σ v x)
def uP1 (o i : ME) (σ : SL) : D → AH → RS := fun v h => (o σ h).us σ (uP2 i σ v)
@[simp] theorem mPut_ev {o i e : ME} : mPut o i e σ h = (e σ h).us σ (uP1 o i σ) := (rfl)
@[simp] theorem uP1_ev {o i : ME} {v : D} : uP1 o i σ v h = (o σ h).us σ (uP2 i σ v) := (rfl)
@[simp] theorem uP2_ev {i : ME} {v x : D} : uP2 i σ v x h = (i σ h).us σ (uP3 σ v x) := (rfl)
@[simp] theorem uP3_ev {v x y : D} : uP3 σ v x y h = setH (putD x y v h) σ := (rfl)
def uF2 (cs : List String) (f : PySem.Str) (σ : SL) (v : D) : D → AH → RS := fun x h => setH (putFD cs f x v h) σ
def uF1 (cs : List String) (f : PySem.Str) (o : ME) (σ : SL) : D → AH → RS := fun v h => (o σ h).us σ (uF2 cs f σ v)
@[simp] theorem mSetF_ev {cs : List String} {f : PySem.Str} {o e : ME} : mSetF cs f o e σ h = (e σ h).us σ (uF1 cs f o σ) := (rfl)
@[simp] theorem uF1_ev {cs : List String} {f : PySem.Str} {o : ME} {v : D} : uF1 cs f o σ v h = (o σ h).us σ (uF2 cs f σ v) := (rfl)
@[simp] theorem uF2_ev {cs : List String} {f : PySem.Str} {v x : D} : uF2 cs f σ v x h = setH (putFD cs f x v h) σ := (rfl)
def augK (g : Int → Int → Int) (j : Nat) (a : Int) (σ : SL) (d : D) (h : AH) : RS := match d with
  | .int b => .nx (σ.set j (some (.int (g a b)))) h
  | _ => .bad
@[simp] theorem augK_int {g : Int → Int → Int} {j : Nat} {a b : Int} : augK g j a σ (.int b) h = .nx (σ.set j (some (.int (g a b)))) h := (rfl)
theorem mAug_ev {f : Int → Int → Int} {j : Nat} {e : ME} {a : Int} (q : σ[j]? = some (some (.int a))) : mAug f j e σ h = (e σ h).us σ (augK f j a σ) := by
  unfold mAug
  rw [q]
  rfl
def augFK (cs : List String) (g : Int → Int → Int) (f : PySem.Str) (x : D) (a : Int) (σ : SL) (y : D) (h : AH) : RS := match y with
  | .int b => setH (putFD cs f x (.int (g a b)) h) σ
  | _ => .bad
@[simp] theorem augFK_int {cs : List String} {g : Int → Int → Int} {f : PySem.Str} {x : D} {a b : Int} : augFK cs g f x a σ (.int b) h = setH (putFD cs f x (.int (g a b)) h) σ := (rfl)
def augFX (cs : List String) (g : Int → Int → Int) (f : PySem.Str) (e : ME) (x : D) (σ : SL) (o : Option D) (h : AH) : RS := match o with
  | some (.int a) => (e σ h).us σ (augFK cs g f x a σ)
  | _ => .bad
@[simp] theorem augFX_int {cs : List String} {g : Int → Int → Int} {f : PySem.Str} {e : ME} {x : D} {a : Int} : augFX cs g f e x σ (some (.int a)) h = (e σ h).us σ (augFK cs g f x a σ) := (rfl)
def uA1 (cs : List String) (g : Int → Int → Int) (f : PySem.Str) (e : ME) (σ : SL) : D → AH → RS := fun x h => augFX cs g f e x σ (getF cs f x h) h
@[simp] theorem uA1_ev {cs : List String} {g : Int → Int → Int} {f : PySem.Str} {e : ME} {x : D} : uA1 cs g f e σ x h = augFX cs g f e x σ (getF cs f x h) h := (rfl)
@[simp] theorem mAugF_ev {cs : List String} {g : Int → Int → Int} {f : PySem.Str} {o e : ME} : mAugF cs g f o e σ h = (o σ h).us σ (uA1 cs g f e σ) := (rfl)
def uW (n : Nat) (c : MT) (b : MS) (σ : SL) : Bool → AH → RS := fun k h => if k = true then (b σ h).loop (mWhile n c b) else .nx σ h
@[simp] theorem uW_t {n : Nat} {c : MT} {b : MS} : uW n c b σ true h = (b σ h).loop (mWhile n c b) := (rfl)
@[simp] theorem uW_f {n : Nat} {c : MT} {b : MS} : uW n c b σ false h = .nx σ h := (rfl)
@[simp] theorem mWhile_ev {n : Nat} {c : MT} {b : MS} : mWhile (n + 1) c b σ h = (c σ h).us σ (uW n c b σ) := by
  unfold mWhile
  cases c σ h with
  | ok k h' =>
    cases k with
    | true =>
      show (if true = true then (match b σ h' with
        | .nx σ h => mWhile n c b σ h
        | .ct σ h => mWhile n c b σ h
        | .bk σ h => .nx σ h
        | r => r) else RS.nx σ h') = (b σ h').loop (mWhile n c b)
      rw [if_pos rfl]
      cases b σ h' <;> rfl
    | false => rfl
  | _ => rfl
def uFor (g : MG) (b : MS) (σ : SL) : List D × (AH → Bool) → AH → RS := fun a h => forL a.2 g b a.1 σ h
@[simp] theorem uFor_ev {g : MG} {b : MS} {ds : List D} {G : AH → Bool} : uFor g b σ (ds, G) h = forL G g b ds σ h := (rfl)
@[simp] theorem mFor_ev {m : MI} {g : MG} {b : MS} : mFor m g b σ h = (m σ h).us σ (uFor g b σ) := (rfl)
def forG (o : Option SL) (k : SL → RS) : RS := match o with
  | some σ => k σ
  | none => .bad
@[simp] theorem forG_some {k : SL → RS} : forG (some σ) k = k σ := (rfl)
@[simp] theorem forG_none {k : SL → RS} : forG none k = .bad := (rfl)
theorem forL_nil {G : AH → Bool} {g : MG} {b : MS} : forL G g b [] σ h = if G h = true then .nx σ h else .bad := (rfl)
def kF2 (G : AH → Bool) (g : MG) (b : MS) (ds : List D) (h : AH) : SL → RS := fun σ' => (b σ' h).loop (forL G g b ds)
@[simp] theorem kF2_ev {G : AH → Bool} {g : MG} {b : MS} {ds : List D} : kF2 G g b ds h σ = (b σ h).loop (forL G g b ds) := (rfl)
def kF1 (G : AH → Bool) (g : MG) (b : MS) (d : D) (ds : List D) (σ : SL) (h : AH) (c : Bool) : RS := if c = true then forG (g d σ h) (kF2 G g b ds h) else .bad
@[simp] theorem kF1_t {G : AH → Bool} {g : MG} {b : MS} {d : D} {ds : List D} : kF1 G g b d ds σ h true = forG (g d σ h) (kF2 G g b ds h) := (rfl)
theorem forL_cons {G : AH → Bool} {g : MG} {b : MS} {d : D} {ds : List D} : forL G g b (d :: ds) σ h = kF1 G g b d ds σ h (G h) := by
  simp only [forL, kF1]
  split
  · cases g d σ h with
    | some σ1 =>
      simp only [forG_some, kF2]
      cases b σ1 h <;> rfl
    | none => rfl
  · rfl
@[simp] theorem forL_consN {g : MG} {b : MS} {d : D} {ds : List D} : forL noG g b (d :: ds) σ h = forG (g d σ h) (kF2 noG g b ds h) := forL_cons
@[simp] theorem forL_nilN {g : MG} {b : MS} : forL noG g b [] σ h = .nx σ h := (rfl)
def kIt (f : D → AH → Option (List D × (AH → Bool))) : D → AH → R (List D × (AH → Bool)) := fun d h => lift (f d h) h
@[simp] theorem kIt_ev {f : D → AH → Option (List D × (AH → Bool))} {d : D} : kIt f d h = lift (f d h) h := (rfl)
@[simp] theorem mIt_ev {f : D → AH → Option (List D × (AH → Bool))} {e : ME} : mIt f e σ h = (e σ h).bd (kIt f) := (rfl)
@[simp] theorem fSeq_tup {ds : List D} : fSeq (.tup ds) h = some (ds, noG) := (rfl)
@[simp] theorem fSeq_lst {ds : List D} : fSeq (.lst ds) h = some (ds, noG) := (rfl)
@[simp] theorem fSeq_scr {ds : List D} : fSeq (.scr ds) h = some (ds, noG) := (rfl)
@[simp] theorem fSeq_str {s : List Nat} : fSeq (.str s) h = some (s.map fun c => .str [c], noG) := (rfl)
@[simp] theorem fEnum_tup {ds : List D} : fEnum (.tup ds) h = some (enumFrom 0 ds, noG) := (rfl)
@[simp] theorem fEnum_lst {ds : List D} : fEnum (.lst ds) h = some (enumFrom 0 ds, noG) := (rfl)
def rangeK (ds : List D) (h : AH) : R (List D × (AH → Bool)) := match ds with
  | [.int j] => if okR j = true then .ok (intsFrom 0 j.toNat, noG) h else .bad
  | [.int i, .int j] => if (okR i && okR j) = true then .ok (intsFrom i (j - i).toNat, noG) h else .bad
  | _ => .bad
@[simp] theorem mRange_ev {ms : List ME} : mRange ms σ h = (mArgs ms σ h).bd rangeK := (rfl)
theorem rangeK_1 {j : Int} (e : okR j = true) : rangeK [.int j] h = .ok (intsFrom 0 j.toNat, noG) h := by
  simp [rangeK, e]
theorem rangeK_2 {i j : Int} (e : okR i = true) (e' : okR j = true) : rangeK [.int i, .int j] h = .ok (intsFrom i (j - i).toNat, noG) h := by
  simp [rangeK, e, e']
/-! ### comprehensions -/
def endC (r : R (List D)) : R D := match r with
  | .ok zs h => .ok (.lst zs) h
  | _ => .bad
@[simp] theorem endC_ok {zs : List D} : endC (.ok zs h) = .ok (.lst zs) h := (rfl)
def endN (r : R (List D)) : R D := match r with
  | .ok zs h => .ok (.loc h.length) (h ++ [.lst zs])
  | _ => .bad
@[simp] theorem endN_ok {zs : List D} : endN (.ok zs h) = .ok (.loc h.length) (h ++ [.lst zs]) := (rfl)
def kL (f : R (List D) → R D) (g : MG) (vs : List Nat) (c : MT) (e : ME) (σ : SL) : List D × (AH → Bool) → AH → R D := fun a h => if a.1.length ≤ sizeLine then f (compL a.2 g vs c e a.1 σ h) else .bad
theorem kL_ev {f : R (List D) → R D} {g : MG} {vs : List Nat} {c : MT} {e : ME} {ds : List D} {G : AH → Bool} (hz : ds.length ≤ sizeLine) : kL f g vs c e σ (ds, G) h = f (compL G g vs c e ds σ h) := by
  unfold kL
  rw [if_pos hz]
@[simp] theorem mComp_ev {mi : MI} {g : MG} {vs : List Nat} {c : MT} {e : ME} : mComp mi g vs c e σ h = (mi σ h).bd (kL endC g vs c e σ) := (rfl)
@[simp] theorem mCompN_ev {mi : MI} {g : MG} {vs : List Nat} {c : MT} {e : ME} : mCompN mi g vs c e σ h = (mi σ h).bd (kL endN g vs c e σ) := (rfl)
/-- a comprehension whose turns change nothing: filter and map -/
theorem compL_pure {g : MG} {vs : List Nat} {c : MT} {e : ME} (p : D → Bool) (f : D → D) : ∀ (ds : List D) (σ : SL) (h : AH) (st : ∀ d ∈ ds, ∃ σ', g d (wipeA σ vs) h = some σ' ∧ c σ' h = .ok (p d) h ∧ (p d = true → e σ' h = .ok (f d) h)), compL noG g vs c e ds σ h = .ok ((ds.filter p).map f) h
  | [], σ, h, _ => rfl
  | d :: ds, σ, h, st => by
    obtain ⟨σ', e1, e2, e3⟩ := st d (by simp)
    have ih := compL_pure p f ds σ h fun d hd => st d (by simp [hd])
    have e0 : compL noG g vs c e (d :: ds) σ h = (match g d (wipeA σ vs) h with
      | some σ' => (c σ' h).bd fun b h => if b = true then (e σ' h).bd fun y h => (compL noG g vs c e ds σ h).bd fun ys h => .ok (y :: ys) h else compL noG g vs c e ds σ h
      | none => .bad) := (rfl)
    rw [e0, e1]
    simp only [e2, R.bd_ok]
    cases hp : p d with
    | true => simp [hp, e3 hp, ih]
    | false => simp [hp, ih]
def cG (o : Option SL) (k : SL → R (List D)) : R (List D) := match o with
  | some σ => k σ
  | none => .bad
@[simp] theorem cG_some {k : SL → R (List D)} : cG (some σ) k = k σ := (rfl)
def kc4 (y : D) : List D → AH → R (List D) := fun ys h => .ok (y :: ys) h
@[simp] theorem kc4_ev {y : D} {ys : List D} : kc4 y ys h = .ok (y :: ys) h := (rfl)
def kc3 (g : MG) (vs : List Nat) (c : MT) (e : ME) (ds : List D) (σ : SL) : D → AH → R (List D) := fun y h => (compL noG g vs c e ds σ h).bd (kc4 y)
@[simp] theorem kc3_ev {g : MG} {vs : List Nat} {c : MT} {e : ME} {ds : List D} {y : D} : kc3 g vs c e ds σ y h = (compL noG g vs c e ds σ h).bd (kc4 y) := (rfl)
def kc2 (g : MG) (vs : List Nat) (c : MT) (e : ME) (ds : List D) (σ σ' : SL) : Bool → AH → R (List D) := fun b h => if b = true then (e σ' h).bd (kc3 g vs c e ds σ) else compL noG g vs c e ds σ h
@[simp] theorem kc2_t {g : MG} {vs : List Nat} {c : MT} {e : ME} {ds : List D} : kc2 g vs c e ds σ σ' true h = (e σ' h).bd (kc3 g vs c e ds σ) := (rfl)
@[simp] theorem kc2_f {g : MG} {vs : List Nat} {c : MT} {e : ME} {ds : List D} : kc2 g vs c e ds σ σ' false h = compL noG g vs c e ds σ h := (rfl)
def kc1 (g : MG) (vs : List Nat) (c : MT) (e : ME) (ds : List D) (σ : SL) (h : AH) : SL → R (List D) := fun σ' => (c σ' h).bd (kc2 g vs c e ds σ σ')
@[simp] theorem kc1_ev {g : MG} {vs : List Nat} {c : MT} {e : ME} {ds : List D} : kc1 g vs c e ds σ h σ' = (c σ' h).bd (kc2 g vs c e ds σ σ') := (rfl)
@[simp] theorem compL_consN {g : MG} {vs : List Nat} {c : MT} {e : ME} {d : D} {ds : List D} : compL noG g vs c e (d :: ds) σ h = cG (g d (wipeA σ vs) h) (kc1 g vs c e ds σ h) := by
  have e0 : compL noG g vs c e (d :: ds) σ h = (match g d (wipeA σ vs) h with
    | some σ' => (c σ' h).bd fun b h => if b = true then (e σ' h).bd fun y h => (compL noG g vs c e ds σ h).bd fun ys h => .ok (y :: ys) h else compL noG g vs c e ds σ h
    | none => .bad) := (rfl)
  rw [e0]
  cases g d (wipeA σ vs) h <;> rfl
@[simp] theorem wipeA_nil : wipeA σ [] = σ := (rfl)
@[simp] theorem wipeA_cons {v : Nat} {vs : List Nat} : wipeA σ (v :: vs) = (wipeA σ vs).set v none := (rfl)
@[simp] theorem intsFrom_0 {a : Int} : intsFrom a 0 = [] := (rfl)
@[simp] theorem intsFrom_s {a : Int} {n : Nat} : intsFrom a (n + 1) = .int a :: intsFrom (a + 1) n := (rfl)
@[simp] theorem compL_nilN {g : MG} {vs : List Nat} {c : MT} {e : ME} : compL noG g vs c e [] σ h = .ok [] h := (rfl)
@[simp] theorem mYes_ev : mYes σ h = .ok true h := (rfl)
/-! ### defs -/
theorem mFn_ev {N : Nat} {b : MS} {ds : List D} : mFn N b ds h = (b (ds.map some ++ List.replicate (N - ds.length) none) h).fin := (rfl)
end

/-! ### plain things -/
theorem frz_pur {n : Nat} {h : AH} {d : D} (hp : d.pur = true) : frz n h d = some d := by
  cases n with
  | zero => simp [frz, hp]
  | succ n => simp [frz, hp]
theorem optL_pur {n : Nat} {h : AH} : ∀ {ds : List D}, D.purL ds = true → optL (frz n h) ds = some ds
  | [], _ => rfl
  | d :: ds, hp => by
    simp only [D.purL, Bool.and_eq_true] at hp
    simp [optL, frz_pur hp.1, optL_pur hp.2]
theorem frz_lst {n i : Nat} {h : AH} {ds : List D} (e : h[i]? = some (.lst ds)) : frz (n + 1) h (.loc i) = (optL (frz n h) ds).map .lst := by
  simp [frz, D.pur, e]
theorem frz_dct {n i : Nat} {h : AH} {b : Bool} {kvs : List (D × D)} (e : h[i]? = some (.dct b kvs)) : frz (n + 1) h (.loc i) = (optP (frz n h) kvs).map (.dct b) := by
  simp [frz, D.pur, e]
theorem frz_ins {n i : Nat} {h : AH} {c : String} {L : List PySem.Str} {ds : List D} (e : h[i]? = some (.ins c L ds)) (hl : L.length = ds.length) : frz (n + 1) h (.loc i) = (optL (frz n h) ds).map (.obj c L) := by
  simp [frz, D.pur, e, hl]
theorem pc_ok {m : Fn} {ds : List D} {d : D} {h : AH} (e : m ds [] = .ok d h) (hp : d.pur = true) : pc m ds = .ok d := by
  unfold pc
  rw [e]
  simp only
  rw [frz_pur hp]
theorem pc_frz {m : Fn} {ds : List D} {d z : D} {h : AH} (e : m ds [] = .ok d h) (hz : frz 8 h d = some z) : pc m ds = .ok z := by
  unfold pc
  rw [e]
  simp only
  rw [hz]
@[simp] theorem pur_non : D.pur .non = true := by simp [D.pur]
@[simp] theorem pur_bl {b} : D.pur (.bl b) = true := by simp [D.pur]
@[simp] theorem pur_int {i} : D.pur (.int i) = true := by simp [D.pur]
@[simp] theorem pur_str {s} : D.pur (.str s) = true := by simp [D.pur]
@[simp] theorem pur_ty {s} : D.pur (.ty s) = true := by simp [D.pur]
@[simp] theorem pur_cls {s} : D.pur (.cls s) = true := by simp [D.pur]
@[simp] theorem pur_tup {ds} : D.pur (.tup ds) = D.purL ds := by simp [D.pur]
@[simp] theorem pur_lst {ds} : D.pur (.lst ds) = D.purL ds := by simp [D.pur]
@[simp] theorem pur_scr {ds} : D.pur (.scr ds) = D.purL ds := by simp [D.pur]
@[simp] theorem pur_obj {c L ds} : D.pur (.obj c L ds) = D.purL ds := by simp [D.pur]
@[simp] theorem pur_loc {n} : D.pur (.loc n) = false := by simp [D.pur]
@[simp] theorem purL_nil : D.purL [] = true := by simp [D.purL]
@[simp] theorem purL_cons {d ds} : D.purL (d :: ds) = (D.pur d && D.purL ds) := by simp [D.purL]
theorem purL_iff : ∀ {ds : List D}, D.purL ds = true ↔ ∀ d ∈ ds, D.pur d = true
  | [] => by simp
  | d :: ds => by simp [purL_iff (ds := ds)]
theorem purL_app {a b : List D} : D.purL (a ++ b) = (D.purL a && D.purL b) := by
  rw [Bool.eq_iff_iff, Bool.and_eq_true, purL_iff, purL_iff, purL_iff]
  simp [or_imp, forall_and]
theorem purL_map {α : Type} {f : α → D} (hf : ∀ a, (f a).pur = true) (xs : List α) : D.purL (xs.map f) = true := purL_iff.mpr fun d hd => by
  obtain ⟨a, _, rfl⟩ := List.mem_map.mp hd
  exact hf a
/-! ### data, ==, without bools -/
mutual
/-- data of at most that depth without bools: == is = -/
def D.nob : Nat → D → Bool
  | _, .non | _, .int _ | _, .str _ => true
  | n, .tup ds => D.nobL n ds
  | n, .lst ds => D.nobL n ds
  | _, _ => false
def D.nobL : Nat → List D → Bool
  | 0, _ => false
  | _ + 1, [] => true
  | n + 1, d :: ds => D.nob n d && D.nobL (n + 1) ds
end
@[simp] theorem nob_non {n} : D.nob n .non = true := by simp [D.nob]
@[simp] theorem nob_int {n i} : D.nob n (.int i) = true := by simp [D.nob]
@[simp] theorem nob_str {n s} : D.nob n (.str s) = true := by simp [D.nob]
@[simp] theorem nob_tup {n ds} : D.nob n (.tup ds) = D.nobL n ds := by simp [D.nob]
@[simp] theorem nob_lst {n ds} : D.nob n (.lst ds) = D.nobL n ds := by simp [D.nob]
@[simp] theorem nobL_nil {n} : D.nobL (n + 1) [] = true := by simp [D.nobL]
@[simp] theorem nobL_cons {n d ds} : D.nobL (n + 1) (d :: ds) = (D.nob n d && D.nobL (n + 1) ds) := by simp [D.nobL]
theorem nobL_iff {n : Nat} : ∀ {ds : List D}, D.nobL (n + 1) ds = true ↔ ∀ d ∈ ds, D.nob n d = true
  | [] => by simp
  | d :: ds => by simp [nobL_iff (ds := ds)]
mutual
theorem nob_dat : ∀ (n : Nat) (d : D), D.nob n d = true → D.dat n d = true ∧ D.pur d = true
  | n, .non, _ => by simp [D.dat]
  | n, .int _, _ => by simp [D.dat]
  | n, .str _, _ => by simp [D.dat]
  | n, .tup ds, h => by
    have := nobL_dat n ds (by simpa using h)
    simp [D.dat, this]
  | n, .lst ds, h => by
    have := nobL_dat n ds (by simpa using h)
    simp [D.dat, this]
  | n, .bl _, h => by simp [D.nob] at h
  | n, .scr _, h => by simp [D.nob] at h
  | n, .dct _ _, h => by simp [D.nob] at h
  | n, .obj _ _ _, h => by simp [D.nob] at h
  | n, .loc _, h => by simp [D.nob] at h
  | n, .ty _, h => by simp [D.nob] at h
  | n, .cls _, h => by simp [D.nob] at h
theorem nobL_dat : ∀ (n : Nat) (ds : List D), D.nobL n ds = true → D.datL n ds = true ∧ D.purL ds = true
  | 0, ds, h => by simp [D.nobL] at h
  | n + 1, [], _ => by simp [D.datL]
  | n + 1, d :: ds, h => by
    simp only [nobL_cons, Bool.and_eq_true] at h
    have h1 := nob_dat n d h.1
    have h2 := nobL_dat (n + 1) ds h.2
    simp [D.datL, h1, h2]
end
mutual
theorem nob_eqv : ∀ (n m : Nat) (a b : D), D.nob n a = true → D.nob m b = true → (D.eqv a b = true ↔ a = b)
  | n, m, .non, b, _, hb => by cases b <;> simp [D.nob] at hb <;> simp [D.eqv]
  | n, m, .int i, b, _, hb => by cases b <;> simp [D.nob] at hb <;> simp [D.eqv]
  | n, m, .str i, b, _, hb => by cases b <;> simp [D.nob] at hb <;> simp [D.eqv]
  | n, m, .tup ds, b, ha, hb => by
    cases b <;> simp [D.nob] at hb <;> simp [D.eqv]
    exact nobL_eqv n m ds _ (by simpa using ha) hb
  | n, m, .lst ds, b, ha, hb => by
    cases b <;> simp [D.nob] at hb <;> simp [D.eqv]
    exact nobL_eqv n m ds _ (by simpa using ha) hb
  | n, m, .bl _, b, ha, _ => by simp [D.nob] at ha
  | n, m, .scr _, b, ha, _ => by simp [D.nob] at ha
  | n, m, .dct _ _, b, ha, _ => by simp [D.nob] at ha
  | n, m, .obj _ _ _, b, ha, _ => by simp [D.nob] at ha
  | n, m, .loc _, b, ha, _ => by simp [D.nob] at ha
  | n, m, .ty _, b, ha, _ => by simp [D.nob] at ha
  | n, m, .cls _, b, ha, _ => by simp [D.nob] at ha
theorem nobL_eqv : ∀ (n m : Nat) (a b : List D), D.nobL n a = true → D.nobL m b = true → (D.eqvL a b = true ↔ a = b)
  | n, m, [], b, _, hb => by cases b <;> simp [D.eqvL]
  | 0, m, x :: xs, b, ha, _ => by simp [D.nobL] at ha
  | n + 1, m, x :: xs, [], _, _ => by simp [D.eqvL]
  | n + 1, 0, x :: xs, y :: ys, _, hb => by simp [D.nobL] at hb
  | n + 1, m + 1, x :: xs, y :: ys, ha, hb => by
    simp only [nobL_cons, Bool.and_eq_true] at ha hb
    have h1 := nob_eqv n m x y ha.1 hb.1
    have h2 := nobL_eqv (n + 1) (m + 1) xs ys ha.2 hb.2
    simp [D.eqvL, h1, h2]
end
mutual
theorem nob_mono : ∀ (n m : Nat) (_ : n ≤ m) (d : D), D.nob n d = true → D.nob m d = true
  | n, m, _, .non, _ => by simp
  | n, m, _, .int _, _ => by simp
  | n, m, _, .str _, _ => by simp
  | n, m, e, .tup ds, h => by
    simp only [nob_tup] at *
    exact nobL_mono n m e ds h
  | n, m, e, .lst ds, h => by
    simp only [nob_lst] at *
    exact nobL_mono n m e ds h
  | n, m, _, .bl _, h => by simp [D.nob] at h
  | n, m, _, .scr _, h => by simp [D.nob] at h
  | n, m, _, .dct _ _, h => by simp [D.nob] at h
  | n, m, _, .obj _ _ _, h => by simp [D.nob] at h
  | n, m, _, .loc _, h => by simp [D.nob] at h
  | n, m, _, .ty _, h => by simp [D.nob] at h
  | n, m, _, .cls _, h => by simp [D.nob] at h
theorem nobL_mono : ∀ (n m : Nat) (_ : n ≤ m) (ds : List D), D.nobL n ds = true → D.nobL m ds = true
  | 0, _, _, ds, h => by simp [D.nobL] at h
  | n + 1, 0, e, _, _ => absurd e (by omega)
  | n + 1, m + 1, _, [], _ => by simp
  | n + 1, m + 1, e, d :: ds, h => by
    simp only [nobL_cons, Bool.and_eq_true] at *
    exact ⟨nob_mono n m (by omega) d h.1, nobL_mono (n + 1) (m + 1) e ds h.2⟩
end
/-! ### operators upon plain things -/
section
variable {h : AH}
@[simp] theorem oAdd_int {i j : Int} : oAdd (.int i) (.int j) h = some (.int (i + j)) := (rfl)
theorem oAdd_str {a b : List Nat} (e : a.length + b.length ≤ sizeLine) : oAdd (.str a) (.str b) h = some (.str (a ++ b)) := by simp [oAdd, e]
theorem oAdd_tup {a b : List D} (e : a.length + b.length ≤ sizeLine) : oAdd (.tup a) (.tup b) h = some (.tup (a ++ b)) := by simp [oAdd, e]
theorem oAdd_lst {a b : List D} (e : a.length + b.length ≤ sizeLine) : oAdd (.lst a) (.lst b) h = some (.lst (a ++ b)) := by simp [oAdd, lsOf, e]
@[simp] theorem oSub_int {i j : Int} : oSub (.int i) (.int j) h = some (.int (i - j)) := (rfl)
theorem oMul_int {i j : Int} (e : okMul i j) : oMul (.int i) (.int j) h = some (.int (i * j)) := by simp [oMul, e]
theorem oDiv_int {i j : Int} (e : 0 < j) (e' : j < 1073741824) : oDiv (.int i) (.int j) h = some (.int (i / j)) := by simp [oDiv, e, e']
theorem oMod_int {i j : Int} (e : 0 < j) : oMod (.int i) (.int j) h = some (.int (i % j)) := by simp [oMod, e]
@[simp] theorem oLt_int {i j : Int} : oLt (.int i) (.int j) h = some (.bl (decide (i < j))) := (rfl)
@[simp] theorem oLe_int {i j : Int} : oLe (.int i) (.int j) h = some (.bl (decide (i ≤ j))) := (rfl)
@[simp] theorem oGt_int {i j : Int} : oGt (.int i) (.int j) h = some (.bl (decide (j < i))) := (rfl)
@[simp] theorem oGe_int {i j : Int} : oGe (.int i) (.int j) h = some (.bl (decide (j ≤ i))) := (rfl)
@[simp] theorem oIsN_non : oIsN .non .non h = some (.bl true) := (rfl)
@[simp] theorem oIsN_str {s} : oIsN (.str s) .non h = some (.bl false) := (rfl)
@[simp] theorem oIsN_int {s} : oIsN (.int s) .non h = some (.bl false) := (rfl)
@[simp] theorem oIsN_tup {s} : oIsN (.tup s) .non h = some (.bl false) := (rfl)
@[simp] theorem oIsN_loc {s} : oIsN (.loc s) .non h = some (.bl false) := (rfl)
@[simp] theorem oNotN_non : oNotN .non .non h = some (.bl false) := (rfl)
@[simp] theorem oNotN_str {s} : oNotN (.str s) .non h = some (.bl true) := (rfl)
@[simp] theorem oNotN_int {s} : oNotN (.int s) .non h = some (.bl true) := (rfl)
@[simp] theorem oNotN_tup {s} : oNotN (.tup s) .non h = some (.bl true) := (rfl)
@[simp] theorem oNotN_loc {s} : oNotN (.loc s) .non h = some (.bl true) := (rfl)
@[simp] theorem oEq_str {a b : List Nat} : oEq (.str a) (.str b) h = some (.bl (decide (a = b))) := by
  simp [oEq, frz, D.dat, D.eqv]
  rw [Bool.eq_iff_iff]; simp
@[simp] theorem oEq_int {a b : Int} : oEq (.int a) (.int b) h = some (.bl (decide (a = b))) := by
  simp [oEq, frz, D.dat, D.eqv]
  rfl
@[simp] theorem oNe_str {a b : List Nat} : oNe (.str a) (.str b) h = some (.bl (!decide (a = b))) := by
  simp [oNe, frz, D.dat, D.eqv]
  rw [Bool.eq_iff_iff]; simp
@[simp] theorem oNe_int {a b : Int} : oNe (.int a) (.int b) h = some (.bl (!decide (a = b))) := by
  simp [oNe, frz, D.dat, D.eqv]
  rfl
theorem oEq_nob {a b : D} (n m : Nat) (hn : n ≤ 60 := by decide) (ha : D.nob 60 a = true) (hb : D.nob 60 b = true) : oEq a b h = some (.bl (decide (a = b))) := by
  obtain ⟨d1, p1⟩ := nob_dat 60 a ha
  obtain ⟨d2, p2⟩ := nob_dat 60 b hb
  unfold oEq
  rw [frz_pur p1, frz_pur p2]
  simp only [d1, d2, Bool.and_self, if_true]
  congr 2
  rw [Bool.eq_iff_iff, nob_eqv 60 60 a b ha hb, decide_eq_true_iff]
theorem oNe_nob {a b : D} (ha : D.nob 60 a = true) (hb : D.nob 60 b = true) : oNe a b h = some (.bl (!decide (a = b))) := by
  obtain ⟨d1, p1⟩ := nob_dat 60 a ha
  obtain ⟨d2, p2⟩ := nob_dat 60 b hb
  unfold oNe
  rw [frz_pur p1, frz_pur p2]
  simp only [d1, d2, Bool.and_self, if_true]
  congr 3
  rw [Bool.eq_iff_iff, nob_eqv 60 60 a b ha hb, decide_eq_true_iff]
/-! ### dicts in cells -/
theorem keyOk_pur {b : Bool} {k : D} (hk : keyOk b k = true) : k.pur = true := by
  unfold keyOk at hk
  split at hk
  · rfl
  · rfl
  · rename_i ds
    rw [pur_tup, purL_iff]
    intro d hd
    have := List.all_eq_true.mp hk d hd
    split at this
    · rfl
    · rfl
    · cases this
  · cases hk
theorem inD_dct {i : Nat} {b : Bool} {kvs : List (D × D)} {k : D} (e : h[i]? = some (.dct b kvs)) : inD k (.loc i) h = none := by
  have key : (match frz 8 h k, frz 8 h (.loc i) with
    | some a, some (.lst bs) => if a.dat 59 && D.datL 60 bs then some (bs.any fun z => z.eqv a) else none
    | _, _ => none) = (none : Option Bool) := by
    cases frz 8 h k with
    | none => rfl
    | some a =>
      have e2 : frz 8 h (.loc i) = (optP (frz 7 h) kvs).map (.dct b) := by simp [frz, e]
      rw [e2]
      cases optP (frz 7 h) kvs <;> rfl
  unfold inD
  split
  · rename_i h2; cases h2
  · rename_i h2; cases h2
  · exact key
theorem dict_get {i : Nat} {b : Bool} {kvs : List (D × D)} {k : D} (e : h[i]? = some (.dct b kvs)) (hk : keyOk b k = true) : dGet (.loc i) k h = some (dLook kvs k) := by
  simp [dGet, dcOf, e, hk]
theorem dict_ix {i : Nat} {b : Bool} {kvs : List (D × D)} {k : D} (e : h[i]? = some (.dct b kvs)) (hk : keyOk b k = true) : oIx (.loc i) k h = dLook kvs k := by
  have h1 : oIxS (.loc i) k h = none := by
    unfold oIxS
    split
    · rename_i h2; cases h2
    · rename_i h2; cases h2
    · rename_i h2; cases h2
    · simp [lsOf, e]
    · rfl
  simp [oIx, h1, oIxD, dict_get e hk]
theorem dict_in {i : Nat} {b : Bool} {kvs : List (D × D)} {k : D} (e : h[i]? = some (.dct b kvs)) (hk : keyOk b k = true) : oInA k (.loc i) h = some (.bl (dLook kvs k).isSome) := by
  simp [oInA, oIn, inD_dct e, oInK, dict_get e hk]
theorem dict_nin {i : Nat} {b : Bool} {kvs : List (D × D)} {k : D} (e : h[i]? = some (.dct b kvs)) (hk : keyOk b k = true) : oNinA k (.loc i) h = some (.bl (!(dLook kvs k).isSome)) := by
  simp [oNinA, oNin, inD_dct e, oNinK, dict_get e hk]
theorem dict_put {i : Nat} {b : Bool} {kvs : List (D × D)} {k v : D} (e : h[i]? = some (.dct b kvs)) (hk : keyOk b k = true) (hz : kvs.length < sizeLine) : putD (.loc i) k v h = some (h.set i (.dct b (dPut kvs k v))) := by
  simp [putD, e, hk, hz]
theorem lst_app {i : Nat} {es : List D} {v : D} (e : h[i]? = some (.lst es)) (hz : es.length < sizeLine) : oL fAppend (.loc i) [v] h = some (.non, h.set i (.lst (es ++ [v]))) := by
  simp [oL, e, fAppend, hz]
theorem isL_loc {i : Nat} {es : List D} (e : h[i]? = some (.lst es)) : isL (.loc i) h = true := by
  simp [isL, lsOf, e]
@[simp] theorem keyOk_str {s : List Nat} : keyOk false (.str s) = true := by simp [keyOk]
@[simp] theorem keyOk_int {s : Int} : keyOk false (.int s) = true := by simp [keyOk]
@[simp] theorem dLook_nil {k : D} : dLook [] k = none := (rfl)
theorem dLook_one {k v : D} : dLook [(k, v)] k = some v := by simp [dLook]
@[simp] theorem dPut_nil {k v : D} : dPut [] k v = [(k, v)] := (rfl)
theorem small {n : Nat} (e : n < 1000) : n < sizeLine := Nat.lt_of_lt_of_le e (size1000 (Nat.le_refl _))
/-! ### built-ins -/
@[simp] theorem sqOf_tup {ds : List D} : sqOf h (.tup ds) = some ds := (rfl)
@[simp] theorem sqOf_lst {ds : List D} : sqOf h (.lst ds) = some ds := (rfl)
@[simp] theorem sqOf_scr {ds : List D} : sqOf h (.scr ds) = some ds := (rfl)
@[simp] theorem oLen_tup {ds : List D} : oLen [.tup ds] h = some (.int ds.length) := by simp [oLen]
@[simp] theorem oLen_lst {ds : List D} : oLen [.lst ds] h = some (.int ds.length) := by simp [oLen]
@[simp] theorem oLen_scr {ds : List D} : oLen [.scr ds] h = some (.int ds.length) := by simp [oLen]
theorem oLen_str {s : List Nat} (e : s.length ≤ sizeLine) : oLen [.str s] h = some (.int s.length) := by simp [oLen, e]
@[simp] theorem oTuple_tup {ds : List D} : oTuple [.tup ds] h = some (.tup ds) := by simp [oTuple]
@[simp] theorem oTuple_lst {ds : List D} : oTuple [.lst ds] h = some (.tup ds) := by simp [oTuple, lsOf]
@[simp] theorem oTuple_scr {ds : List D} : oTuple [.scr ds] h = some (.tup ds) := by simp [oTuple]
@[simp] theorem oList_tup {ds : List D} : oList [.tup ds] h = some (.lst ds) := by simp [oList]
@[simp] theorem oList_lst {ds : List D} : oList [.lst ds] h = some (.lst ds) := by simp [oList]
theorem oTuple_loc {i : Nat} {ds : List D} (e : h[i]? = some (.lst ds)) : oTuple [.loc i] h = some (.tup ds) := by simp [oTuple, lsOf, e]
theorem oList_loc {i : Nat} {ds : List D} (e : h[i]? = some (.lst ds)) : oList [.loc i] h = some (.lst ds) := by simp [oList, sqOf, lsOf, e]
theorem oLen_loc {i : Nat} {ds : List D} (e : h[i]? = some (.lst ds)) : oLen [.loc i] h = some (.int ds.length) := by simp [oLen, sqOf, lsOf, e]
/-! ### subscripts -/
theorem atI_nat {α : Type} {xs : List α} {k : Nat} : L2.atI xs (k : Int) = xs[k]? := by
  unfold L2.atI L2.ixN
  rw [if_pos (Int.natCast_nonneg k)]
  by_cases e : k < xs.length
  · rw [if_pos (by omega)]; simp
  · rw [if_neg (by omega), List.getElem?_eq_none (by omega)]; rfl
theorem atI_int {α : Type} {xs : List α} {i : Int} (e : 0 ≤ i) : L2.atI xs i = xs[i.toNat]? := by
  obtain ⟨k, rfl⟩ := Int.eq_ofNat_of_zero_le e
  rw [atI_nat]; simp
theorem ix_tup {ds : List D} {k : Int} {d : D} (e : L2.atI ds k = some d) : oIx (.tup ds) (.int k) h = some d := by simp [oIx, oIxS, e]
theorem ix_lst {ds : List D} {k : Int} {d : D} (e : L2.atI ds k = some d) : oIx (.lst ds) (.int k) h = some d := by simp [oIx, oIxS, lsOf, e]
theorem ix_scr {ds : List D} {k : Int} {d : D} (e : L2.atI ds k = some d) : oIx (.scr ds) (.int k) h = some d := by simp [oIx, oIxS, e]
theorem ix_str {s : List Nat} {k : Int} {c : Nat} (hz : s.length ≤ sizeLine) (e : L2.atI s k = some c) : oIx (.str s) (.int k) h = some (.str [c]) := by simp [oIx, oIxS, e, hz]
theorem ix_loc {i : Nat} {ds : List D} {k : Int} {d : D} (e : h[i]? = some (.lst ds)) (q : L2.atI ds k = some d) : oIx (.loc i) (.int k) h = some d := by simp [oIx, oIxS, lsOf, e, q]
@[simp] theorem ix_t0 {a : D} {ds : List D} : oIx (.tup (a :: ds)) (.int 0) h = some a := ix_tup (by rw [show (0 : Int) = ((0 : Nat) : Int) from rfl, atI_nat]; rfl)
@[simp] theorem ix_t1 {a b : D} {ds : List D} : oIx (.tup (a :: b :: ds)) (.int 1) h = some b := ix_tup (by rw [show (1 : Int) = ((1 : Nat) : Int) from rfl, atI_nat]; rfl)
@[simp] theorem ix_t2 {a b c : D} {ds : List D} : oIx (.tup (a :: b :: c :: ds)) (.int 2) h = some c := ix_tup (by rw [show (2 : Int) = ((2 : Nat) : Int) from rfl, atI_nat]; rfl)
@[simp] theorem ix_t3 {a b c d : D} {ds : List D} : oIx (.tup (a :: b :: c :: d :: ds)) (.int 3) h = some d := ix_tup (by rw [show (3 : Int) = ((3 : Nat) : Int) from rfl, atI_nat]; rfl)
@[simp] theorem ix_l0 {a : D} {ds : List D} : oIx (.lst (a :: ds)) (.int 0) h = some a := ix_lst (by rw [show (0 : Int) = ((0 : Nat) : Int) from rfl, atI_nat]; rfl)
@[simp] theorem ix_l1 {a b : D} {ds : List D} : oIx (.lst (a :: b :: ds)) (.int 1) h = some b := ix_lst (by rw [show (1 : Int) = ((1 : Nat) : Int) from rfl, atI_nat]; rfl)
@[simp] theorem ix_l2 {a b c : D} {ds : List D} : oIx (.lst (a :: b :: c :: ds)) (.int 2) h = some c := ix_lst (by rw [show (2 : Int) = ((2 : Nat) : Int) from rfl, atI_nat]; rfl)
/-! ### isinstance -/
@[simp] theorem isi_str_str {s : List Nat} : oIsi [.str s, .ty "str"] h = some (.bl true) := by simp [oIsi, tyH, tyOf, subTy]
@[simp] theorem isi_int_str {i : Int} : oIsi [.int i, .ty "str"] h = some (.bl false) := by simp [oIsi, tyH, tyOf, subTy]
@[simp] theorem isi_int_int {i : Int} : oIsi [.int i, .ty "int"] h = some (.bl true) := by simp [oIsi, tyH, tyOf, subTy]
@[simp] theorem isi_int_bool {i : Int} : oIsi [.int i, .ty "bool"] h = some (.bl false) := by simp [oIsi, tyH, tyOf, subTy]
@[simp] theorem isi_tup_tuple {ds : List D} : oIsi [.tup ds, .ty "tuple"] h = some (.bl true) := by simp [oIsi, tyH, tyOf, subTy]
@[simp] theorem isi_str_int {s : List Nat} : oIsi [.str s, .ty "int"] h = some (.bl false) := by simp [oIsi, tyH, tyOf, subTy]
@[simp] theorem isi_non_str : oIsi [.non, .ty "str"] h = some (.bl false) := by simp [oIsi, tyH, tyOf, subTy]
@[simp] theorem dctF_get {b : Bool} {kvs : List (D × D)} {k : D} (hk : keyOk b k = true) : oIx (.dct b kvs) k h = dLook kvs k := by
  have h1 : oIxS (.dct b kvs) k h = none := by
    unfold oIxS
    split
    · rename_i h2; cases h2
    · rename_i h2; cases h2
    · rename_i h2; cases h2
    · simp [lsOf]
    · rfl
  simp [oIx, h1, oIxD, dGet, dcOf, hk]
end
end MW

set_option maxHeartbeats 2000000
/-! The mirror of the defs that the law law_k26_walks runs; printed by gen.py. -/
namespace Bh
open PySem MW
def L_Trail : List PySem.Str := ["numbers", "taken", "known", "begun", "loaded", "trace", "fault"]
@[simp] theorem len_Trail : L_Trail.length = 7 := (rfl)
@[simp] theorem ix_Trail_numbers : L_Trail.idxOf ("numbers" : PySem.Str) = 0 := by decide +kernel
@[simp] theorem ix_Trail_taken : L_Trail.idxOf ("taken" : PySem.Str) = 1 := by decide +kernel
@[simp] theorem ix_Trail_known : L_Trail.idxOf ("known" : PySem.Str) = 2 := by decide +kernel
@[simp] theorem ix_Trail_begun : L_Trail.idxOf ("begun" : PySem.Str) = 3 := by decide +kernel
@[simp] theorem ix_Trail_loaded : L_Trail.idxOf ("loaded" : PySem.Str) = 4 := by decide +kernel
@[simp] theorem ix_Trail_trace : L_Trail.idxOf ("trace" : PySem.Str) = 5 := by decide +kernel
@[simp] theorem ix_Trail_fault : L_Trail.idxOf ("fault" : PySem.Str) = 6 := by decide +kernel
@[simp] theorem no_Trail_take : decide (("take" : PySem.Str) ∈ L_Trail) = false := by decide +kernel
@[simp] theorem no_Trail_load : decide (("load" : PySem.Str) ∈ L_Trail) = false := by decide +kernel
def L_Walk : List PySem.Str := []
@[simp] theorem len_Walk : L_Walk.length = 0 := (rfl)
@[simp] theorem no_Walk_rows_of : decide (("rows_of" : PySem.Str) ∈ L_Walk) = false := by decide +kernel
@[simp] theorem no_Walk_key_of : decide (("key_of" : PySem.Str) ∈ L_Walk) = false := by decide +kernel
@[simp] theorem no_Walk_loads_of : decide (("loads_of" : PySem.Str) ∈ L_Walk) = false := by decide +kernel
@[simp] theorem no_Walk_ahead_of : decide (("ahead_of" : PySem.Str) ∈ L_Walk) = false := by decide +kernel
@[simp] theorem no_Walk_go : decide (("go" : PySem.Str) ∈ L_Walk) = false := by decide +kernel
@[simp] theorem no_Walk_begin : decide (("begin" : PySem.Str) ∈ L_Walk) = false := by decide +kernel
@[simp] theorem no_Walk_found_by : decide (("found_by" : PySem.Str) ∈ L_Walk) = false := by decide +kernel
@[simp] theorem no_Walk_done : decide (("done" : PySem.Str) ∈ L_Walk) = false := by decide +kernel
def L_PartsWalk : List PySem.Str := ["parts"]
@[simp] theorem len_PartsWalk : L_PartsWalk.length = 1 := (rfl)
@[simp] theorem ix_PartsWalk_parts : L_PartsWalk.idxOf ("parts" : PySem.Str) = 0 := by decide +kernel
@[simp] theorem no_PartsWalk_rows_of : decide (("rows_of" : PySem.Str) ∈ L_PartsWalk) = false := by decide +kernel
@[simp] theorem no_PartsWalk_key_of : decide (("key_of" : PySem.Str) ∈ L_PartsWalk) = false := by decide +kernel
@[simp] theorem no_PartsWalk_loads_of : decide (("loads_of" : PySem.Str) ∈ L_PartsWalk) = false := by decide +kernel
@[simp] theorem no_PartsWalk_ahead_of : decide (("ahead_of" : PySem.Str) ∈ L_PartsWalk) = false := by decide +kernel
@[simp] theorem no_PartsWalk_go : decide (("go" : PySem.Str) ∈ L_PartsWalk) = false := by decide +kernel
@[simp] theorem no_PartsWalk_begin : decide (("begin" : PySem.Str) ∈ L_PartsWalk) = false := by decide +kernel
@[simp] theorem no_PartsWalk_found_by : decide (("found_by" : PySem.Str) ∈ L_PartsWalk) = false := by decide +kernel
@[simp] theorem no_PartsWalk_done : decide (("done" : PySem.Str) ∈ L_PartsWalk) = false := by decide +kernel
def subC : String → String → Option Bool := fun a b => match a, b with
  | "Trail", "Trail" => some true
  | "Trail", "Walk" => some false
  | "Trail", "PartsWalk" => some false
  | "Walk", "Trail" => some false
  | "Walk", "Walk" => some true
  | "Walk", "PartsWalk" => some false
  | "PartsWalk", "Trail" => some false
  | "PartsWalk", "Walk" => some true
  | "PartsWalk", "PartsWalk" => some true
  | _, _ => none
def b__law_cell_at : MS := (mSeq (mIfS (mTest (mBin oLt (mVar 1) (mB oLen [(mVar 0)]))) (mRet (mBin oIx (mVar 0) (mVar 1))) mSkip)
  (mRet (mC (.int 0))))
def m__law_cell_at : Fn := mFn 2 b__law_cell_at
@[simp] theorem b__law_cell_at_ev {σ : SL} {h : AH} : b__law_cell_at σ h = (mSeq (mIfS (mTest (mBin oLt (mVar 1) (mB oLen [(mVar 0)]))) (mRet (mBin oIx (mVar 0) (mVar 1))) mSkip)
  (mRet (mC (.int 0)))) σ h := (rfl)
theorem m__law_cell_at_ev {ds : List D} {h : AH} : m__law_cell_at ds h = (b__law_cell_at (ds.map some ++ List.replicate (2 - ds.length) none) h).fin := (rfl)
def b__law_name : MS := (mSeq (mAsg (gN 2) (mBin oIx (mLst [(mC (.str [])), (mC (.str [119])), (mC (.str [116, 97, 107, 101])), (mC (.str [103, 111, 55])), (mC (.str [119, 97, 108, 107, 115]))]) (mBin oMod (mVar 0) (mC (.int 5)))))
  (mSeq (mAsg (gN 3) (mBin oMod (mBin oDiv (mVar 0) (mC (.int 5))) (mBin oAdd (mB oLen [(mVar 2)]) (mC (.int 1)))))
  (mRet (mBin oAdd (mBin oAdd (mSl (mVar 2) none (some (mVar 3))) (mBin oIx (mC (.str [97, 98, 99, 100, 101, 102, 103, 104])) (mVar 1))) (mSl (mVar 2) (some (mVar 3)) none)))))
def m__law_name : Fn := mFn 4 b__law_name
@[simp] theorem b__law_name_ev {σ : SL} {h : AH} : b__law_name σ h = (mSeq (mAsg (gN 2) (mBin oIx (mLst [(mC (.str [])), (mC (.str [119])), (mC (.str [116, 97, 107, 101])), (mC (.str [103, 111, 55])), (mC (.str [119, 97, 108, 107, 115]))]) (mBin oMod (mVar 0) (mC (.int 5)))))
  (mSeq (mAsg (gN 3) (mBin oMod (mBin oDiv (mVar 0) (mC (.int 5))) (mBin oAdd (mB oLen [(mVar 2)]) (mC (.int 1)))))
  (mRet (mBin oAdd (mBin oAdd (mSl (mVar 2) none (some (mVar 3))) (mBin oIx (mC (.str [97, 98, 99, 100, 101, 102, 103, 104])) (mVar 1))) (mSl (mVar 2) (some (mVar 3)) none))))) σ h := (rfl)
theorem m__law_name_ev {ds : List D} {h : AH} : m__law_name ds h = (b__law_name (ds.map some ++ List.replicate (4 - ds.length) none) h).fin := (rfl)
def b__law_parts : MS := (mSeq (mAsg (gN 1) (mP m__law_cell_at [(mVar 0), (mC (.int 0))] []))
  (mSeq (mAsg (gN 2) (mP m__law_name [(mBin oDiv (mVar 1) (mC (.int 7))), (mBin oMod (mP m__law_cell_at [(mVar 0), (mC (.int 1))] []) (mC (.int 8)))] []))
  (mSeq (mAsg (gN 3) (mP m__law_name [(mBin oDiv (mVar 1) (mC (.int 7))), (mBin oMod (mBin oDiv (mP m__law_cell_at [(mVar 0), (mC (.int 1))] []) (mC (.int 8))) (mC (.int 8)))] []))
  (mSeq (mAsg (gN 4) (mP m__law_name [(mBin oDiv (mVar 1) (mC (.int 7))), (mBin oMod (mBin oDiv (mP m__law_cell_at [(mVar 0), (mC (.int 1))] []) (mC (.int 64))) (mC (.int 8)))] []))
  (mSeq (mAsg (gN 5) (mLst [(mTup [(mC (.str [98, 114, 105, 110, 103])), (mP m__law_name [(mVar 1), (mC (.int 1))] []), (mTup [(mTup [(mVar 4), (mVar 2)])])]), (mTup [(mC (.str [115, 97, 121])), (mTup [(mTup [(mC (.int 1)), (mVar 2)]), (mTup [(mC (.int 1)), (mC (.int 4))])]), (mC .non)])]))
  (mSeq (mAsg (gN 5) (mBin oAdd (mVar 5) (mLst [(mTup [(mC (.str [110, 101, 101, 100])), (mTup [(mTup [(mC (.int 1)), (mVar 2)]), (mTup [(mC (.int 1)), (mC (.int 2))])])]), (mTup [(mC (.str [97, 115, 107])), (mP m__law_name [(mVar 1), (mC (.int 2))] []), (mVar 2)]), (mTup [(mC (.str [115, 97, 121])), (mTup [(mTup [(mC (.int 1)), (mVar 2)])]), (mC .non)])])))
  (mSeq (mAsg (gN 6) (mLst [(mTup [(mC (.str [116, 97, 107, 101])), (mVar 3)]), (mTup [(mC (.str [115, 97, 121])), (mTup [(mTup [(mC (.int 1)), (mC (.int 8))])]), (mC .non)]), (mTup [(mC (.str [103, 105, 118, 101])), (mVar 3), (mVar 4)])]))
  (mSeq (mIfS (mTest (mBin oEq (mBin oMod (mP m__law_cell_at [(mVar 0), (mC (.int 2))] []) (mC (.int 2))) (mC (.int 1)))) (mAsg (gN 6) (mLst [(mBin oIx (mVar 6) (mC (.int 1))), (mBin oIx (mVar 6) (mC (.int 0))), (mBin oIx (mVar 6) (mC (.int 2)))])) mSkip)
  (mSeq (mAsg (gN 7) (mComp (mIt fSeq (mSl (mVar 0) (some (mC (.int 5))) (some (mC (.int 45))))) (gN 8) [8] mYes (mTup [(mC (.str [115, 97, 121])), (mTup [(mTup [(mC (.int 1)), (mBin oMod (mVar 8) (mBin oPow (mC (.int 10)) (mC (.int 60))))])]), (mC .non)])))
  (mRet (mLst [(mTup [(mP m__law_name [(mVar 1), (mC (.int 0))] []), (mB oTuple [(mVar 5)])]), (mTup [(mP m__law_name [(mVar 1), (mC (.int 1))] []), (mB oTuple [(mVar 6)])]), (mTup [(mP m__law_name [(mVar 1), (mC (.int 2))] []), (mB oTuple [(mVar 7)])])])))))))))))
def m__law_parts : Fn := mFn 9 b__law_parts
@[simp] theorem b__law_parts_ev {σ : SL} {h : AH} : b__law_parts σ h = (mSeq (mAsg (gN 1) (mP m__law_cell_at [(mVar 0), (mC (.int 0))] []))
  (mSeq (mAsg (gN 2) (mP m__law_name [(mBin oDiv (mVar 1) (mC (.int 7))), (mBin oMod (mP m__law_cell_at [(mVar 0), (mC (.int 1))] []) (mC (.int 8)))] []))
  (mSeq (mAsg (gN 3) (mP m__law_name [(mBin oDiv (mVar 1) (mC (.int 7))), (mBin oMod (mBin oDiv (mP m__law_cell_at [(mVar 0), (mC (.int 1))] []) (mC (.int 8))) (mC (.int 8)))] []))
  (mSeq (mAsg (gN 4) (mP m__law_name [(mBin oDiv (mVar 1) (mC (.int 7))), (mBin oMod (mBin oDiv (mP m__law_cell_at [(mVar 0), (mC (.int 1))] []) (mC (.int 64))) (mC (.int 8)))] []))
  (mSeq (mAsg (gN 5) (mLst [(mTup [(mC (.str [98, 114, 105, 110, 103])), (mP m__law_name [(mVar 1), (mC (.int 1))] []), (mTup [(mTup [(mVar 4), (mVar 2)])])]), (mTup [(mC (.str [115, 97, 121])), (mTup [(mTup [(mC (.int 1)), (mVar 2)]), (mTup [(mC (.int 1)), (mC (.int 4))])]), (mC .non)])]))
  (mSeq (mAsg (gN 5) (mBin oAdd (mVar 5) (mLst [(mTup [(mC (.str [110, 101, 101, 100])), (mTup [(mTup [(mC (.int 1)), (mVar 2)]), (mTup [(mC (.int 1)), (mC (.int 2))])])]), (mTup [(mC (.str [97, 115, 107])), (mP m__law_name [(mVar 1), (mC (.int 2))] []), (mVar 2)]), (mTup [(mC (.str [115, 97, 121])), (mTup [(mTup [(mC (.int 1)), (mVar 2)])]), (mC .non)])])))
  (mSeq (mAsg (gN 6) (mLst [(mTup [(mC (.str [116, 97, 107, 101])), (mVar 3)]), (mTup [(mC (.str [115, 97, 121])), (mTup [(mTup [(mC (.int 1)), (mC (.int 8))])]), (mC .non)]), (mTup [(mC (.str [103, 105, 118, 101])), (mVar 3), (mVar 4)])]))
  (mSeq (mIfS (mTest (mBin oEq (mBin oMod (mP m__law_cell_at [(mVar 0), (mC (.int 2))] []) (mC (.int 2))) (mC (.int 1)))) (mAsg (gN 6) (mLst [(mBin oIx (mVar 6) (mC (.int 1))), (mBin oIx (mVar 6) (mC (.int 0))), (mBin oIx (mVar 6) (mC (.int 2)))])) mSkip)
  (mSeq (mAsg (gN 7) (mComp (mIt fSeq (mSl (mVar 0) (some (mC (.int 5))) (some (mC (.int 45))))) (gN 8) [8] mYes (mTup [(mC (.str [115, 97, 121])), (mTup [(mTup [(mC (.int 1)), (mBin oMod (mVar 8) (mBin oPow (mC (.int 10)) (mC (.int 60))))])]), (mC .non)])))
  (mRet (mLst [(mTup [(mP m__law_name [(mVar 1), (mC (.int 0))] []), (mB oTuple [(mVar 5)])]), (mTup [(mP m__law_name [(mVar 1), (mC (.int 1))] []), (mB oTuple [(mVar 6)])]), (mTup [(mP m__law_name [(mVar 1), (mC (.int 2))] []), (mB oTuple [(mVar 7)])])]))))))))))) σ h := (rfl)
theorem m__law_parts_ev {ds : List D} {h : AH} : m__law_parts ds h = (b__law_parts (ds.map some ++ List.replicate (9 - ds.length) none) h).fin := (rfl)
def b_PartsWalk___init__ : MS := (mSetF ["PartsWalk"] "parts" (mVar 0) (mVar 1))
def m_PartsWalk___init__ : Fn := mFn 2 b_PartsWalk___init__
@[simp] theorem b_PartsWalk___init___ev {σ : SL} {h : AH} : b_PartsWalk___init__ σ h = (mSetF ["PartsWalk"] "parts" (mVar 0) (mVar 1)) σ h := (rfl)
theorem m_PartsWalk___init___ev {ds : List D} {h : AH} : m_PartsWalk___init__ ds h = (b_PartsWalk___init__ (ds.map some ++ List.replicate (2 - ds.length) none) h).fin := (rfl)
def b__law_number : MS := (mSeq (mIfS (mTest (mBin oEq (mBin oMod (mVar 0) (mC (.int 2))) (mC (.int 0)))) (mRet (mBin oSub (mBin oMod (mBin oDiv (mVar 0) (mC (.int 2))) (mC (.int 5))) (mC (.int 2)))) mSkip)
  (mRet (mBin oAdd (mBin oSub (mBin oMod (mBin oDiv (mVar 0) (mC (.int 2))) (mBin oSub (mBin oMul (mC (.int 2)) (mBin oPow (mC (.int 10)) (mC (.int 60)))) (mC (.int 1)))) (mBin oPow (mC (.int 10)) (mC (.int 60)))) (mC (.int 1)))))
def m__law_number : Fn := mFn 1 b__law_number
@[simp] theorem b__law_number_ev {σ : SL} {h : AH} : b__law_number σ h = (mSeq (mIfS (mTest (mBin oEq (mBin oMod (mVar 0) (mC (.int 2))) (mC (.int 0)))) (mRet (mBin oSub (mBin oMod (mBin oDiv (mVar 0) (mC (.int 2))) (mC (.int 5))) (mC (.int 2)))) mSkip)
  (mRet (mBin oAdd (mBin oSub (mBin oMod (mBin oDiv (mVar 0) (mC (.int 2))) (mBin oSub (mBin oMul (mC (.int 2)) (mBin oPow (mC (.int 10)) (mC (.int 60)))) (mC (.int 1)))) (mBin oPow (mC (.int 10)) (mC (.int 60)))) (mC (.int 1))))) σ h := (rfl)
theorem m__law_number_ev {ds : List D} {h : AH} : m__law_number ds h = (b__law_number (ds.map some ++ List.replicate (1 - ds.length) none) h).fin := (rfl)
def b_Walk_rows_of : MS := (mRet (mTup []))
def m_Walk_rows_of : Fn := mFn 2 b_Walk_rows_of
@[simp] theorem b_Walk_rows_of_ev {σ : SL} {h : AH} : b_Walk_rows_of σ h = (mRet (mTup [])) σ h := (rfl)
theorem m_Walk_rows_of_ev {ds : List D} {h : AH} : m_Walk_rows_of ds h = (b_Walk_rows_of (ds.map some ++ List.replicate (2 - ds.length) none) h).fin := (rfl)
def f1_PartsWalk_rows_of : MS := (mIfS (mTest (mBin oEq (mVar 2) (mVar 1))) (mRet (mB oTuple [(mComp (mRange [(mB oLen [(mVar 3)])]) (gN 4) [4] mYes (mTup [(mVar 1), (mVar 4), (mBin oIx (mVar 3) (mVar 4))]))])) mSkip)
@[simp] theorem f1_PartsWalk_rows_of_ev {σ : SL} {h : AH} : f1_PartsWalk_rows_of σ h = (mIfS (mTest (mBin oEq (mVar 2) (mVar 1))) (mRet (mB oTuple [(mComp (mRange [(mB oLen [(mVar 3)])]) (gN 4) [4] mYes (mTup [(mVar 1), (mVar 4), (mBin oIx (mVar 3) (mVar 4))]))])) mSkip) σ h := (rfl)
def b_PartsWalk_rows_of : MS := (mSeq (mFor (mIt fSeq (mFld ["PartsWalk"] "parts" (mVar 0))) (gT [(gN 2), (gN 3)]) f1_PartsWalk_rows_of)
  (mRet (mTup [])))
def m_PartsWalk_rows_of : Fn := mFn 5 b_PartsWalk_rows_of
@[simp] theorem b_PartsWalk_rows_of_ev {σ : SL} {h : AH} : b_PartsWalk_rows_of σ h = (mSeq (mFor (mIt fSeq (mFld ["PartsWalk"] "parts" (mVar 0))) (gT [(gN 2), (gN 3)]) f1_PartsWalk_rows_of)
  (mRet (mTup []))) σ h := (rfl)
theorem m_PartsWalk_rows_of_ev {ds : List D} {h : AH} : m_PartsWalk_rows_of ds h = (b_PartsWalk_rows_of (ds.map some ++ List.replicate (5 - ds.length) none) h).fin := (rfl)
def b_Walk_key_of : MS := (mRet (mVar 2))
def m_Walk_key_of : Fn := mFn 3 b_Walk_key_of
@[simp] theorem b_Walk_key_of_ev {σ : SL} {h : AH} : b_Walk_key_of σ h = (mRet (mVar 2)) σ h := (rfl)
theorem m_Walk_key_of_ev {ds : List D} {h : AH} : m_Walk_key_of ds h = (b_Walk_key_of (ds.map some ++ List.replicate (3 - ds.length) none) h).fin := (rfl)
def f1_rows_of : MS := (mIfS (mTest (mBin oEq (mVar 2) (mVar 1))) (mRet (mVar 3)) mSkip)
@[simp] theorem f1_rows_of_ev {σ : SL} {h : AH} : f1_rows_of σ h = (mIfS (mTest (mBin oEq (mVar 2) (mVar 1))) (mRet (mVar 3)) mSkip) σ h := (rfl)
def b_rows_of : MS := (mSeq (mFor (mIt fSeq (mVar 0)) (gT [(gN 2), (gN 3)]) f1_rows_of)
  (mRet (mTup [])))
def m_rows_of : Fn := mFn 4 b_rows_of
@[simp] theorem b_rows_of_ev {σ : SL} {h : AH} : b_rows_of σ h = (mSeq (mFor (mIt fSeq (mVar 0)) (gT [(gN 2), (gN 3)]) f1_rows_of)
  (mRet (mTup []))) σ h := (rfl)
theorem m_rows_of_ev {ds : List D} {h : AH} : m_rows_of ds h = (b_rows_of (ds.map some ++ List.replicate (4 - ds.length) none) h).fin := (rfl)
def b_made_by : MS := (mSeq (mIfS (mOrT (mTest (mBin oEq (mBin oIx (mVar 0) (mC (.int 0))) (mC (.str [115, 101, 116])))) (mTest (mBin oEq (mBin oIx (mVar 0) (mC (.int 0))) (mC (.str [116, 97, 107, 101]))))) (mRet (mBin oIx (mVar 0) (mC (.int 1)))) mSkip)
  (mRet (mC .non)))
def m_made_by : Fn := mFn 1 b_made_by
@[simp] theorem b_made_by_ev {σ : SL} {h : AH} : b_made_by σ h = (mSeq (mIfS (mOrT (mTest (mBin oEq (mBin oIx (mVar 0) (mC (.int 0))) (mC (.str [115, 101, 116])))) (mTest (mBin oEq (mBin oIx (mVar 0) (mC (.int 0))) (mC (.str [116, 97, 107, 101]))))) (mRet (mBin oIx (mVar 0) (mC (.int 1)))) mSkip)
  (mRet (mC .non))) σ h := (rfl)
theorem m_made_by_ev {ds : List D} {h : AH} : m_made_by ds h = (b_made_by (ds.map some ++ List.replicate (1 - ds.length) none) h).fin := (rfl)
def f1_made_in : MS := (mIfS (mTest (mBin oEq (mP m_made_by [(mVar 4)] []) (mVar 2))) (mRet (mVar 3)) mSkip)
@[simp] theorem f1_made_in_ev {σ : SL} {h : AH} : f1_made_in σ h = (mIfS (mTest (mBin oEq (mP m_made_by [(mVar 4)] []) (mVar 2))) (mRet (mVar 3)) mSkip) σ h := (rfl)
def b_made_in : MS := (mSeq (mFor (mIt fEnum (mP m_rows_of [(mVar 0), (mVar 1)] [])) (gT [(gN 3), (gN 4)]) f1_made_in)
  (mRet (mC .non)))
def m_made_in : Fn := mFn 5 b_made_in
@[simp] theorem b_made_in_ev {σ : SL} {h : AH} : b_made_in σ h = (mSeq (mFor (mIt fEnum (mP m_rows_of [(mVar 0), (mVar 1)] [])) (gT [(gN 3), (gN 4)]) f1_made_in)
  (mRet (mC .non))) σ h := (rfl)
theorem m_made_in_ev {ds : List D} {h : AH} : m_made_in ds h = (b_made_in (ds.map some ++ List.replicate (5 - ds.length) none) h).fin := (rfl)
def f1_brought_from : MS := (mIfS (mTest (mBin oEq (mVar 5) (mVar 2))) (mRet (mTup [(mBin oIx (mVar 3) (mC (.int 1))), (mVar 4)])) mSkip)
@[simp] theorem f1_brought_from_ev {σ : SL} {h : AH} : f1_brought_from σ h = (mIfS (mTest (mBin oEq (mVar 5) (mVar 2))) (mRet (mTup [(mBin oIx (mVar 3) (mC (.int 1))), (mVar 4)])) mSkip) σ h := (rfl)
def f2_brought_from : MS := (mIfS (mTest (mBin oEq (mBin oIx (mVar 3) (mC (.int 0))) (mC (.str [98, 114, 105, 110, 103])))) (mFor (mIt fSeq (mBin oIx (mVar 3) (mC (.int 2)))) (gT [(gN 4), (gN 5)]) f1_brought_from) mSkip)
@[simp] theorem f2_brought_from_ev {σ : SL} {h : AH} : f2_brought_from σ h = (mIfS (mTest (mBin oEq (mBin oIx (mVar 3) (mC (.int 0))) (mC (.str [98, 114, 105, 110, 103])))) (mFor (mIt fSeq (mBin oIx (mVar 3) (mC (.int 2)))) (gT [(gN 4), (gN 5)]) f1_brought_from) mSkip) σ h := (rfl)
def b_brought_from : MS := (mSeq (mFor (mIt fSeq (mP m_rows_of [(mVar 0), (mVar 1)] [])) (gN 3) f2_brought_from)
  (mRet (mC .non)))
def m_brought_from : Fn := mFn 6 b_brought_from
@[simp] theorem b_brought_from_ev {σ : SL} {h : AH} : b_brought_from σ h = (mSeq (mFor (mIt fSeq (mP m_rows_of [(mVar 0), (mVar 1)] [])) (gN 3) f2_brought_from)
  (mRet (mC .non))) σ h := (rfl)
theorem m_brought_from_ev {ds : List D} {h : AH} : m_brought_from ds h = (b_brought_from (ds.map some ++ List.replicate (6 - ds.length) none) h).fin := (rfl)
def f1_given_as : MS := (mIfS (mAndT (mTest (mBin oEq (mBin oIx (mVar 3) (mC (.int 0))) (mC (.str [103, 105, 118, 101])))) (mTest (mBin oEq (mBin oIx (mVar 3) (mC (.int 2))) (mVar 2)))) (mRet (mBin oIx (mVar 3) (mC (.int 1)))) mSkip)
@[simp] theorem f1_given_as_ev {σ : SL} {h : AH} : f1_given_as σ h = (mIfS (mAndT (mTest (mBin oEq (mBin oIx (mVar 3) (mC (.int 0))) (mC (.str [103, 105, 118, 101])))) (mTest (mBin oEq (mBin oIx (mVar 3) (mC (.int 2))) (mVar 2)))) (mRet (mBin oIx (mVar 3) (mC (.int 1)))) mSkip) σ h := (rfl)
def b_given_as : MS := (mSeq (mFor (mIt fSeq (mP m_rows_of [(mVar 0), (mVar 1)] [])) (gN 3) f1_given_as)
  (mRet (mC .non)))
def m_given_as : Fn := mFn 4 b_given_as
@[simp] theorem b_given_as_ev {σ : SL} {h : AH} : b_given_as σ h = (mSeq (mFor (mIt fSeq (mP m_rows_of [(mVar 0), (mVar 1)] [])) (gN 3) f1_given_as)
  (mRet (mC .non))) σ h := (rfl)
theorem m_given_as_ev {ds : List D} {h : AH} : m_given_as ds h = (b_given_as (ds.map some ++ List.replicate (4 - ds.length) none) h).fin := (rfl)
def b_onward : MS := (mSeq (mIfS (mTest (mBin oNotN (mP m_made_in [(mVar 0), (mVar 1), (mVar 2)] []) (mC .non))) (mRet (mC .non)) mSkip)
  (mSeq (mAsg (gT [(gN 3), (gN 4)]) (mP m_brought_from [(mVar 0), (mVar 1), (mVar 2)] []))
  (mRet (mTup [(mVar 3), (mP m_given_as [(mVar 0), (mVar 3), (mVar 4)] [])]))))
def m_onward : Fn := mFn 5 b_onward
@[simp] theorem b_onward_ev {σ : SL} {h : AH} : b_onward σ h = (mSeq (mIfS (mTest (mBin oNotN (mP m_made_in [(mVar 0), (mVar 1), (mVar 2)] []) (mC .non))) (mRet (mC .non)) mSkip)
  (mSeq (mAsg (gT [(gN 3), (gN 4)]) (mP m_brought_from [(mVar 0), (mVar 1), (mVar 2)] []))
  (mRet (mTup [(mVar 3), (mP m_given_as [(mVar 0), (mVar 3), (mVar 4)] [])])))) σ h := (rfl)
theorem m_onward_ev {ds : List D} {h : AH} : m_onward ds h = (b_onward (ds.map some ++ List.replicate (5 - ds.length) none) h).fin := (rfl)
def w1_maker : MS := (mAsg (gT [(gN 1), (gN 2)]) (mP m_onward [(mVar 0), (mVar 1), (mVar 2)] []))
@[simp] theorem w1_maker_ev {σ : SL} {h : AH} : w1_maker σ h = (mAsg (gT [(gN 1), (gN 2)]) (mP m_onward [(mVar 0), (mVar 1), (mVar 2)] [])) σ h := (rfl)
def b_maker : MS := (mSeq (mWhile 100 (mTest (mBin oIsN (mP m_made_in [(mVar 0), (mVar 1), (mVar 2)] []) (mC .non))) w1_maker)
  (mRet (mTup [(mVar 1), (mP m_made_in [(mVar 0), (mVar 1), (mVar 2)] [])])))
def m_maker : Fn := mFn 3 b_maker
@[simp] theorem b_maker_ev {σ : SL} {h : AH} : b_maker σ h = (mSeq (mWhile 100 (mTest (mBin oIsN (mP m_made_in [(mVar 0), (mVar 1), (mVar 2)] []) (mC .non))) w1_maker)
  (mRet (mTup [(mVar 1), (mP m_made_in [(mVar 0), (mVar 1), (mVar 2)] [])]))) σ h := (rfl)
theorem m_maker_ev {ds : List D} {h : AH} : m_maker ds h = (b_maker (ds.map some ++ List.replicate (3 - ds.length) none) h).fin := (rfl)
def b_PartsWalk_key_of : MS := (mRet (mP m_maker [(mFld ["PartsWalk"] "parts" (mVar 0)), (mVar 1), (mVar 2)] []))
def m_PartsWalk_key_of : Fn := mFn 3 b_PartsWalk_key_of
@[simp] theorem b_PartsWalk_key_of_ev {σ : SL} {h : AH} : b_PartsWalk_key_of σ h = (mRet (mP m_maker [(mFld ["PartsWalk"] "parts" (mVar 0)), (mVar 1), (mVar 2)] [])) σ h := (rfl)
theorem m_PartsWalk_key_of_ev {ds : List D} {h : AH} : m_PartsWalk_key_of ds h = (b_PartsWalk_key_of (ds.map some ++ List.replicate (3 - ds.length) none) h).fin := (rfl)
def b__law_whole : MS := (mRet (mAnd (mB oIsi [(mVar 0), (mC (.ty "int"))]) (mNot (mB oIsi [(mVar 0), (mC (.ty "bool"))]))))
def m__law_whole : Fn := mFn 1 b__law_whole
@[simp] theorem b__law_whole_ev {σ : SL} {h : AH} : b__law_whole σ h = (mRet (mAnd (mB oIsi [(mVar 0), (mC (.ty "int"))]) (mNot (mB oIsi [(mVar 0), (mC (.ty "bool"))])))) σ h := (rfl)
theorem m__law_whole_ev {ds : List D} {h : AH} : m__law_whole ds h = (b__law_whole (ds.map some ++ List.replicate (1 - ds.length) none) h).fin := (rfl)
def b_Walk_loads_of : MS := (mRet (mTup []))
def m_Walk_loads_of : Fn := mFn 2 b_Walk_loads_of
@[simp] theorem b_Walk_loads_of_ev {σ : SL} {h : AH} : b_Walk_loads_of σ h = (mRet (mTup [])) σ h := (rfl)
theorem m_Walk_loads_of_ev {ds : List D} {h : AH} : m_Walk_loads_of ds h = (b_Walk_loads_of (ds.map some ++ List.replicate (2 - ds.length) none) h).fin := (rfl)
def b_Walk_ahead_of : MS := (mRet (mTup []))
def m_Walk_ahead_of : Fn := mFn 2 b_Walk_ahead_of
@[simp] theorem b_Walk_ahead_of_ev {σ : SL} {h : AH} : b_Walk_ahead_of σ h = (mRet (mTup [])) σ h := (rfl)
theorem m_Walk_ahead_of_ev {ds : List D} {h : AH} : m_Walk_ahead_of ds h = (b_Walk_ahead_of (ds.map some ++ List.replicate (2 - ds.length) none) h).fin := (rfl)
def f1__law_told : MS := (mIfS (mNotT (mTest (mP m__law_whole [(mBin oIx (mVar 8) (mC (.int 1)))] []))) (mRet (mC (.bl false))) mSkip)
@[simp] theorem f1__law_told_ev {σ : SL} {h : AH} : f1__law_told σ h = (mIfS (mNotT (mTest (mP m__law_whole [(mBin oIx (mVar 8) (mC (.int 1)))] []))) (mRet (mC (.bl false))) mSkip) σ h := (rfl)
def f2__law_told : MS := (mSeq (mAsg (gN 6) (mAlt (mMeth "Walk" "rows_of" m_Walk_rows_of (mVar 0) [(mVar 4)] []) (mMeth "PartsWalk" "rows_of" m_PartsWalk_rows_of (mVar 0) [(mVar 4)] [])))
  (mSeq (mAsg (gN 7) (mComp (mRange [(mB oLen [(mVar 5)])]) (gN 10) [10] mYes (mTup [(mVar 4), (mVar 10), (mBin oIx (mVar 5) (mVar 10))])))
  (mSeq (mIfS (mOrT (mNotT (mTest (mB oIsi [(mVar 6), (mC (.ty "tuple"))]))) (mTest (mBin oNe (mB oList [(mVar 6)]) (mVar 7)))) (mRet (mC (.bl false))) mSkip)
  (mSeq (mFor (mIt fSeq (mVar 6)) (gN 8) f1__law_told)
  (mIfS (mOrT (mTest (mBin oNe (mAlt (mMeth "Walk" "loads_of" m_Walk_loads_of (mVar 0) [(mVar 4)] []) (mMeth "PartsWalk" "loads_of" m_Walk_loads_of (mVar 0) [(mVar 4)] [])) (mTup []))) (mTest (mBin oNe (mAlt (mMeth "Walk" "ahead_of" m_Walk_ahead_of (mVar 0) [(mVar 4)] []) (mMeth "PartsWalk" "ahead_of" m_Walk_ahead_of (mVar 0) [(mVar 4)] [])) (mTup [])))) (mRet (mC (.bl false))) mSkip)))))
@[simp] theorem f2__law_told_ev {σ : SL} {h : AH} : f2__law_told σ h = (mSeq (mAsg (gN 6) (mAlt (mMeth "Walk" "rows_of" m_Walk_rows_of (mVar 0) [(mVar 4)] []) (mMeth "PartsWalk" "rows_of" m_PartsWalk_rows_of (mVar 0) [(mVar 4)] [])))
  (mSeq (mAsg (gN 7) (mComp (mRange [(mB oLen [(mVar 5)])]) (gN 10) [10] mYes (mTup [(mVar 4), (mVar 10), (mBin oIx (mVar 5) (mVar 10))])))
  (mSeq (mIfS (mOrT (mNotT (mTest (mB oIsi [(mVar 6), (mC (.ty "tuple"))]))) (mTest (mBin oNe (mB oList [(mVar 6)]) (mVar 7)))) (mRet (mC (.bl false))) mSkip)
  (mSeq (mFor (mIt fSeq (mVar 6)) (gN 8) f1__law_told)
  (mIfS (mOrT (mTest (mBin oNe (mAlt (mMeth "Walk" "loads_of" m_Walk_loads_of (mVar 0) [(mVar 4)] []) (mMeth "PartsWalk" "loads_of" m_Walk_loads_of (mVar 0) [(mVar 4)] [])) (mTup []))) (mTest (mBin oNe (mAlt (mMeth "Walk" "ahead_of" m_Walk_ahead_of (mVar 0) [(mVar 4)] []) (mMeth "PartsWalk" "ahead_of" m_Walk_ahead_of (mVar 0) [(mVar 4)] [])) (mTup [])))) (mRet (mC (.bl false))) mSkip))))) σ h := (rfl)
def f3__law_told : MS := (mSeq (mAsg (gN 6) (mAlt (mMeth "Walk" "key_of" m_Walk_key_of (mVar 0) [(mVar 9), (mVar 4)] []) (mMeth "PartsWalk" "key_of" m_PartsWalk_key_of (mVar 0) [(mVar 9), (mVar 4)] [])))
  (mIfS (mOrT (mNotT (mTest (mB oIsi [(mVar 6), (mC (.ty "tuple"))]))) (mOrT (mTest (mBin oNe (mVar 6) (mTup [(mBin oIx (mBin oIx (mVar 1) (mC (.int 1))) (mC (.int 0))), (mVar 2)]))) (mNotT (mTest (mP m__law_whole [(mBin oIx (mVar 6) (mC (.int 1)))] []))))) (mRet (mC (.bl false))) mSkip))
@[simp] theorem f3__law_told_ev {σ : SL} {h : AH} : f3__law_told σ h = (mSeq (mAsg (gN 6) (mAlt (mMeth "Walk" "key_of" m_Walk_key_of (mVar 0) [(mVar 9), (mVar 4)] []) (mMeth "PartsWalk" "key_of" m_PartsWalk_key_of (mVar 0) [(mVar 9), (mVar 4)] [])))
  (mIfS (mOrT (mNotT (mTest (mB oIsi [(mVar 6), (mC (.ty "tuple"))]))) (mOrT (mTest (mBin oNe (mVar 6) (mTup [(mBin oIx (mBin oIx (mVar 1) (mC (.int 1))) (mC (.int 0))), (mVar 2)]))) (mNotT (mTest (mP m__law_whole [(mBin oIx (mVar 6) (mC (.int 1)))] []))))) (mRet (mC (.bl false))) mSkip)) σ h := (rfl)
def b__law_told : MS := (mSeq (mFor (mIt fSeq (mVar 1)) (gT [(gN 4), (gN 5)]) f2__law_told)
  (mSeq (mAsg (gN 2) (mBin oIx (mComp (mRange [(mC (.int 3))]) (gN 10) [10] (mTest (mBin oEq (mBin oIx (mBin oIx (mBin oIx (mBin oIx (mVar 1) (mC (.int 1))) (mC (.int 1))) (mVar 10)) (mC (.int 0))) (mC (.str [116, 97, 107, 101])))) (mVar 10)) (mC (.int 0))))
  (mSeq (mAsg (gN 3) (mBin oIx (mBin oIx (mBin oIx (mBin oIx (mBin oIx (mBin oIx (mVar 1) (mC (.int 0))) (mC (.int 1))) (mC (.int 0))) (mC (.int 2))) (mC (.int 0))) (mC (.int 1))))
  (mSeq (mFor (mIt fSeq (mLst [(mTup [(mBin oIx (mBin oIx (mVar 1) (mC (.int 0))) (mC (.int 0))), (mVar 3)]), (mTup [(mBin oIx (mBin oIx (mVar 1) (mC (.int 1))) (mC (.int 0))), (mBin oIx (mBin oIx (mBin oIx (mBin oIx (mVar 1) (mC (.int 1))) (mC (.int 1))) (mVar 2)) (mC (.int 1)))])])) (gT [(gN 9), (gN 4)]) f3__law_told)
  (mRet (mB (oIsiC subC) [(mVar 0), (mC (.cls "Walk"))]))))))
def m__law_told : Fn := mFn 11 b__law_told
@[simp] theorem b__law_told_ev {σ : SL} {h : AH} : b__law_told σ h = (mSeq (mFor (mIt fSeq (mVar 1)) (gT [(gN 4), (gN 5)]) f2__law_told)
  (mSeq (mAsg (gN 2) (mBin oIx (mComp (mRange [(mC (.int 3))]) (gN 10) [10] (mTest (mBin oEq (mBin oIx (mBin oIx (mBin oIx (mBin oIx (mVar 1) (mC (.int 1))) (mC (.int 1))) (mVar 10)) (mC (.int 0))) (mC (.str [116, 97, 107, 101])))) (mVar 10)) (mC (.int 0))))
  (mSeq (mAsg (gN 3) (mBin oIx (mBin oIx (mBin oIx (mBin oIx (mBin oIx (mBin oIx (mVar 1) (mC (.int 0))) (mC (.int 1))) (mC (.int 0))) (mC (.int 2))) (mC (.int 0))) (mC (.int 1))))
  (mSeq (mFor (mIt fSeq (mLst [(mTup [(mBin oIx (mBin oIx (mVar 1) (mC (.int 0))) (mC (.int 0))), (mVar 3)]), (mTup [(mBin oIx (mBin oIx (mVar 1) (mC (.int 1))) (mC (.int 0))), (mBin oIx (mBin oIx (mBin oIx (mBin oIx (mVar 1) (mC (.int 1))) (mC (.int 1))) (mVar 2)) (mC (.int 1)))])])) (gT [(gN 9), (gN 4)]) f3__law_told)
  (mRet (mB (oIsiC subC) [(mVar 0), (mC (.cls "Walk"))])))))) σ h := (rfl)
theorem m__law_told_ev {ds : List D} {h : AH} : m__law_told ds h = (b__law_told (ds.map some ++ List.replicate (11 - ds.length) none) h).fin := (rfl)
def b_Trail___init__ : MS := (mSeq (mSetF ["Trail"] "numbers" (mVar 0) (mVar 1))
  (mSeq (mSetF ["Trail"] "taken" (mVar 0) (mC (.int 0)))
  (mSeq (mSetF ["Trail"] "known" (mVar 0) (mDicN true))
  (mSeq (mSetF ["Trail"] "begun" (mVar 0) (mDicN false))
  (mSeq (mSetF ["Trail"] "loaded" (mVar 0) (mDicN false))
  (mSeq (mSetF ["Trail"] "trace" (mVar 0) (mLstN []))
  (mSetF ["Trail"] "fault" (mVar 0) (mC .non))))))))
def m_Trail___init__ : Fn := mFn 2 b_Trail___init__
@[simp] theorem b_Trail___init___ev {σ : SL} {h : AH} : b_Trail___init__ σ h = (mSeq (mSetF ["Trail"] "numbers" (mVar 0) (mVar 1))
  (mSeq (mSetF ["Trail"] "taken" (mVar 0) (mC (.int 0)))
  (mSeq (mSetF ["Trail"] "known" (mVar 0) (mDicN true))
  (mSeq (mSetF ["Trail"] "begun" (mVar 0) (mDicN false))
  (mSeq (mSetF ["Trail"] "loaded" (mVar 0) (mDicN false))
  (mSeq (mSetF ["Trail"] "trace" (mVar 0) (mLstN []))
  (mSetF ["Trail"] "fault" (mVar 0) (mC .non)))))))) σ h := (rfl)
theorem m_Trail___init___ev {ds : List D} {h : AH} : m_Trail___init__ ds h = (b_Trail___init__ (ds.map some ++ List.replicate (2 - ds.length) none) h).fin := (rfl)
def f1_Trail_load : MS := (mIfS (mTest (mBin oNinA (mVar 2) (mFld ["Trail"] "loaded" (mVar 0)))) (mSeq (mPut (mFld ["Trail"] "loaded" (mVar 0)) (mVar 2) (mC (.bl true)))
  (mExpr (mM isL (oL fAppend) (mFld ["Trail"] "trace" (mVar 0)) [(mTup [(mC (.str [108, 111, 97, 100])), (mVar 2)])]))) mSkip)
@[simp] theorem f1_Trail_load_ev {σ : SL} {h : AH} : f1_Trail_load σ h = (mIfS (mTest (mBin oNinA (mVar 2) (mFld ["Trail"] "loaded" (mVar 0)))) (mSeq (mPut (mFld ["Trail"] "loaded" (mVar 0)) (mVar 2) (mC (.bl true)))
  (mExpr (mM isL (oL fAppend) (mFld ["Trail"] "trace" (mVar 0)) [(mTup [(mC (.str [108, 111, 97, 100])), (mVar 2)])]))) mSkip) σ h := (rfl)
def b_Trail_load : MS := (mFor (mIt fSeq (mVar 1)) (gN 2) f1_Trail_load)
def m_Trail_load : Fn := mFn 3 b_Trail_load
@[simp] theorem b_Trail_load_ev {σ : SL} {h : AH} : b_Trail_load σ h = (mFor (mIt fSeq (mVar 1)) (gN 2) f1_Trail_load) σ h := (rfl)
theorem m_Trail_load_ev {ds : List D} {h : AH} : m_Trail_load ds h = (b_Trail_load (ds.map some ++ List.replicate (3 - ds.length) none) h).fin := (rfl)
def b_when_of : MS := (mSeq (mIfS (mOrT (mTest (mBin oEq (mBin oIx (mVar 0) (mC (.int 0))) (mC (.str [115, 97, 121])))) (mTest (mBin oEq (mBin oIx (mVar 0) (mC (.int 0))) (mC (.str [97, 115, 107]))))) (mRet (mBin oIx (mVar 0) (mC (.int 2)))) mSkip)
  (mRet (mC .non)))
def m_when_of : Fn := mFn 1 b_when_of
@[simp] theorem b_when_of_ev {σ : SL} {h : AH} : b_when_of σ h = (mSeq (mIfS (mOrT (mTest (mBin oEq (mBin oIx (mVar 0) (mC (.int 0))) (mC (.str [115, 97, 121])))) (mTest (mBin oEq (mBin oIx (mVar 0) (mC (.int 0))) (mC (.str [97, 115, 107]))))) (mRet (mBin oIx (mVar 0) (mC (.int 2)))) mSkip)
  (mRet (mC .non))) σ h := (rfl)
theorem m_when_of_ev {ds : List D} {h : AH} : m_when_of ds h = (b_when_of (ds.map some ++ List.replicate (1 - ds.length) none) h).fin := (rfl)
def f1_sum_names : MS := (mSeq (mIfS (mTest (mB oIsi [(mVar 4), (mC (.ty "str"))])) (mExpr (mM isL (oL fAppend) (mVar 2) [(mTup [(mVar 1), (mVar 4)])])) mSkip)
  (mAsg (gN 1) (mBin oAdd (mVar 1) (mC (.int 2)))))
@[simp] theorem f1_sum_names_ev {σ : SL} {h : AH} : f1_sum_names σ h = (mSeq (mIfS (mTest (mB oIsi [(mVar 4), (mC (.ty "str"))])) (mExpr (mM isL (oL fAppend) (mVar 2) [(mTup [(mVar 1), (mVar 4)])])) mSkip)
  (mAsg (gN 1) (mBin oAdd (mVar 1) (mC (.int 2))))) σ h := (rfl)
def b_sum_names : MS := (mSeq (mAsg (gN 2) (mLstN []))
  (mSeq (mFor (mIt fSeq (mVar 0)) (gT [(gN 3), (gN 4)]) f1_sum_names)
  (mRet (mVar 2))))
def m_sum_names : Fn := mFn 5 b_sum_names
@[simp] theorem b_sum_names_ev {σ : SL} {h : AH} : b_sum_names σ h = (mSeq (mAsg (gN 2) (mLstN []))
  (mSeq (mFor (mIt fSeq (mVar 0)) (gT [(gN 3), (gN 4)]) f1_sum_names)
  (mRet (mVar 2)))) σ h := (rfl)
theorem m_sum_names_ev {ds : List D} {h : AH} : m_sum_names ds h = (b_sum_names (ds.map some ++ List.replicate (5 - ds.length) none) h).fin := (rfl)
def b_read_names : MS := (mSeq (mIfS (mTest (mBin oEq (mBin oIx (mVar 0) (mC (.int 0))) (mC (.str [115, 101, 116])))) (mRet (mB oTuple [(mP m_sum_names [(mBin oIx (mVar 0) (mC (.int 2))), (mC (.int 3))] [])])) mSkip)
  (mSeq (mIfS (mTest (mBin oEq (mBin oIx (mVar 0) (mC (.int 0))) (mC (.str [110, 101, 101, 100])))) (mRet (mB oTuple [(mP m_sum_names [(mBin oIx (mVar 0) (mC (.int 1))), (mC (.int 1))] [])])) mSkip)
  (mSeq (mIfS (mTest (mBin oEq (mBin oIx (mVar 0) (mC (.int 0))) (mC (.str [115, 97, 121])))) (mSeq (mAsg (gN 1) (mP m_sum_names [(mBin oIx (mVar 0) (mC (.int 1))), (mC (.int 1))] []))
  (mSeq (mIfS (mTest (mBin oNotN (mBin oIx (mVar 0) (mC (.int 2))) (mC .non))) (mAsg (gN 1) (mBin oAdd (mLst [(mTup [(mBin oAdd (mBin oMul (mC (.int 2)) (mB oLen [(mBin oIx (mVar 0) (mC (.int 1)))])) (mC (.int 1))), (mBin oIx (mVar 0) (mC (.int 2)))])]) (mVar 1))) mSkip)
  (mRet (mB oTuple [(mVar 1)])))) mSkip)
  (mSeq (mIfS (mAndT (mTest (mBin oEq (mBin oIx (mVar 0) (mC (.int 0))) (mC (.str [97, 115, 107])))) (mTest (mBin oNotN (mBin oIx (mVar 0) (mC (.int 2))) (mC .non)))) (mRet (mTup [(mTup [(mC (.int 3)), (mBin oIx (mVar 0) (mC (.int 2)))])])) mSkip)
  (mRet (mTup []))))))
def m_read_names : Fn := mFn 2 b_read_names
@[simp] theorem b_read_names_ev {σ : SL} {h : AH} : b_read_names σ h = (mSeq (mIfS (mTest (mBin oEq (mBin oIx (mVar 0) (mC (.int 0))) (mC (.str [115, 101, 116])))) (mRet (mB oTuple [(mP m_sum_names [(mBin oIx (mVar 0) (mC (.int 2))), (mC (.int 3))] [])])) mSkip)
  (mSeq (mIfS (mTest (mBin oEq (mBin oIx (mVar 0) (mC (.int 0))) (mC (.str [110, 101, 101, 100])))) (mRet (mB oTuple [(mP m_sum_names [(mBin oIx (mVar 0) (mC (.int 1))), (mC (.int 1))] [])])) mSkip)
  (mSeq (mIfS (mTest (mBin oEq (mBin oIx (mVar 0) (mC (.int 0))) (mC (.str [115, 97, 121])))) (mSeq (mAsg (gN 1) (mP m_sum_names [(mBin oIx (mVar 0) (mC (.int 1))), (mC (.int 1))] []))
  (mSeq (mIfS (mTest (mBin oNotN (mBin oIx (mVar 0) (mC (.int 2))) (mC .non))) (mAsg (gN 1) (mBin oAdd (mLst [(mTup [(mBin oAdd (mBin oMul (mC (.int 2)) (mB oLen [(mBin oIx (mVar 0) (mC (.int 1)))])) (mC (.int 1))), (mBin oIx (mVar 0) (mC (.int 2)))])]) (mVar 1))) mSkip)
  (mRet (mB oTuple [(mVar 1)])))) mSkip)
  (mSeq (mIfS (mAndT (mTest (mBin oEq (mBin oIx (mVar 0) (mC (.int 0))) (mC (.str [97, 115, 107])))) (mTest (mBin oNotN (mBin oIx (mVar 0) (mC (.int 2))) (mC .non)))) (mRet (mTup [(mTup [(mC (.int 3)), (mBin oIx (mVar 0) (mC (.int 2)))])])) mSkip)
  (mRet (mTup [])))))) σ h := (rfl)
theorem m_read_names_ev {ds : List D} {h : AH} : m_read_names ds h = (b_read_names (ds.map some ++ List.replicate (2 - ds.length) none) h).fin := (rfl)
def f1_Walk_found_by : MS := (mSeq (mAsg (gN 9) (mAlt (mMeth "Walk" "key_of" m_Walk_key_of (mVar 0) [(mVar 2), (mVar 8)] []) (mMeth "PartsWalk" "key_of" m_PartsWalk_key_of (mVar 0) [(mVar 2), (mVar 8)] [])))
  (mSeq (mIfS (mTest (mBin oNinA (mVar 9) (mFld ["Trail"] "known" (mVar 1)))) (mSeq (mSetF ["Trail"] "fault" (mVar 1) (mTup [(mC (.str [101, 97, 114, 108, 121])), (mBin oIx (mVar 3) (mC (.int 0))), (mBin oIx (mVar 3) (mC (.int 1))), (mVar 7)]))
  (mRet (mC .non))) mSkip)
  (mSeq (mPut (mVar 5) (mVar 8) (mBin oIx (mFld ["Trail"] "known" (mVar 1)) (mVar 9)))
  (mIfS (mAndT (mTest (mBin oEq (mVar 8) (mVar 6))) (mTest (mBin oLe (mBin oIx (mVar 5) (mVar 8)) (mC (.int 0))))) (mRet (mC .non)) mSkip))))
@[simp] theorem f1_Walk_found_by_ev {σ : SL} {h : AH} : f1_Walk_found_by σ h = (mSeq (mAsg (gN 9) (mAlt (mMeth "Walk" "key_of" m_Walk_key_of (mVar 0) [(mVar 2), (mVar 8)] []) (mMeth "PartsWalk" "key_of" m_PartsWalk_key_of (mVar 0) [(mVar 2), (mVar 8)] [])))
  (mSeq (mIfS (mTest (mBin oNinA (mVar 9) (mFld ["Trail"] "known" (mVar 1)))) (mSeq (mSetF ["Trail"] "fault" (mVar 1) (mTup [(mC (.str [101, 97, 114, 108, 121])), (mBin oIx (mVar 3) (mC (.int 0))), (mBin oIx (mVar 3) (mC (.int 1))), (mVar 7)]))
  (mRet (mC .non))) mSkip)
  (mSeq (mPut (mVar 5) (mVar 8) (mBin oIx (mFld ["Trail"] "known" (mVar 1)) (mVar 9)))
  (mIfS (mAndT (mTest (mBin oEq (mVar 8) (mVar 6))) (mTest (mBin oLe (mBin oIx (mVar 5) (mVar 8)) (mC (.int 0))))) (mRet (mC .non)) mSkip)))) σ h := (rfl)
def b_Walk_found_by : MS := (mSeq (mAsg (gN 5) (mDicN false))
  (mSeq (mAsg (gN 6) (mP m_when_of [(mVar 4)] []))
  (mSeq (mFor (mIt fSeq (mP m_read_names [(mVar 4)] [])) (gT [(gN 7), (gN 8)]) f1_Walk_found_by)
  (mRet (mVar 5)))))
def m_Walk_found_by : Fn := mFn 10 b_Walk_found_by
@[simp] theorem b_Walk_found_by_ev {σ : SL} {h : AH} : b_Walk_found_by σ h = (mSeq (mAsg (gN 5) (mDicN false))
  (mSeq (mAsg (gN 6) (mP m_when_of [(mVar 4)] []))
  (mSeq (mFor (mIt fSeq (mP m_read_names [(mVar 4)] [])) (gT [(gN 7), (gN 8)]) f1_Walk_found_by)
  (mRet (mVar 5))))) σ h := (rfl)
theorem m_Walk_found_by_ev {ds : List D} {h : AH} : m_Walk_found_by ds h = (b_Walk_found_by (ds.map some ++ List.replicate (10 - ds.length) none) h).fin := (rfl)
def f1_value_of : MS := (mIfS (mTest (mB oIsi [(mVar 4), (mC (.ty "str"))])) (mAug (· + ·) 2 (mBin oMul (mVar 3) (mBin oIx (mVar 1) (mVar 4)))) (mAug (· + ·) 2 (mBin oMul (mVar 3) (mVar 4))))
@[simp] theorem f1_value_of_ev {σ : SL} {h : AH} : f1_value_of σ h = (mIfS (mTest (mB oIsi [(mVar 4), (mC (.ty "str"))])) (mAug (· + ·) 2 (mBin oMul (mVar 3) (mBin oIx (mVar 1) (mVar 4)))) (mAug (· + ·) 2 (mBin oMul (mVar 3) (mVar 4)))) σ h := (rfl)
def b_value_of : MS := (mSeq (mAsg (gN 2) (mC (.int 0)))
  (mSeq (mFor (mIt fSeq (mVar 0)) (gT [(gN 3), (gN 4)]) f1_value_of)
  (mRet (mVar 2))))
def m_value_of : Fn := mFn 5 b_value_of
@[simp] theorem b_value_of_ev {σ : SL} {h : AH} : b_value_of σ h = (mSeq (mAsg (gN 2) (mC (.int 0)))
  (mSeq (mFor (mIt fSeq (mVar 0)) (gT [(gN 3), (gN 4)]) f1_value_of)
  (mRet (mVar 2)))) σ h := (rfl)
theorem m_value_of_ev {ds : List D} {h : AH} : m_value_of ds h = (b_value_of (ds.map some ++ List.replicate (5 - ds.length) none) h).fin := (rfl)
def b_Trail_take : MS := (mSeq (mIfS (mTest (mBin oGe (mFld ["Trail"] "taken" (mVar 0)) (mB oLen [(mFld ["Trail"] "numbers" (mVar 0))]))) (mRet (mC (.int 0))) mSkip)
  (mSeq (mAugF ["Trail"] (· + ·) "taken" (mVar 0) (mC (.int 1)))
  (mRet (mBin oIx (mFld ["Trail"] "numbers" (mVar 0)) (mBin oSub (mFld ["Trail"] "taken" (mVar 0)) (mC (.int 1)))))))
def m_Trail_take : Fn := mFn 1 b_Trail_take
@[simp] theorem b_Trail_take_ev {σ : SL} {h : AH} : b_Trail_take σ h = (mSeq (mIfS (mTest (mBin oGe (mFld ["Trail"] "taken" (mVar 0)) (mB oLen [(mFld ["Trail"] "numbers" (mVar 0))]))) (mRet (mC (.int 0))) mSkip)
  (mSeq (mAugF ["Trail"] (· + ·) "taken" (mVar 0) (mC (.int 1)))
  (mRet (mBin oIx (mFld ["Trail"] "numbers" (mVar 0)) (mBin oSub (mFld ["Trail"] "taken" (mVar 0)) (mC (.int 1))))))) σ h := (rfl)
theorem m_Trail_take_ev {ds : List D} {h : AH} : m_Trail_take ds h = (b_Trail_take (ds.map some ++ List.replicate (1 - ds.length) none) h).fin := (rfl)
structure R_Walk_done where
  f_Walk_done : Fn
  f_Walk_begin : Fn
def b_Walk_done (n : R_Walk_done) : MS := (mSeq (mAsg (gN 6) (mBin oIx (mVar 4) (mC (.int 0))))
  (mIfS (mTest (mBin oEq (mVar 6) (mC (.str [115, 101, 116])))) (mPut (mFld ["Trail"] "known" (mVar 1)) (mAlt (mMeth "Walk" "key_of" m_Walk_key_of (mVar 0) [(mVar 2), (mBin oIx (mVar 4) (mC (.int 1)))] []) (mMeth "PartsWalk" "key_of" m_PartsWalk_key_of (mVar 0) [(mVar 2), (mBin oIx (mVar 4) (mC (.int 1)))] [])) (mP m_value_of [(mBin oIx (mVar 4) (mC (.int 2))), (mVar 5)] [])) (mIfS (mTest (mBin oEq (mVar 6) (mC (.str [116, 97, 107, 101])))) (mSeq (mAsg (gN 7) (mMeth "Trail" "take" m_Trail_take (mVar 1) [] []))
  (mSeq (mPut (mFld ["Trail"] "known" (mVar 1)) (mAlt (mMeth "Walk" "key_of" m_Walk_key_of (mVar 0) [(mVar 2), (mBin oIx (mVar 4) (mC (.int 1)))] []) (mMeth "PartsWalk" "key_of" m_PartsWalk_key_of (mVar 0) [(mVar 2), (mBin oIx (mVar 4) (mC (.int 1)))] [])) (mVar 7))
  (mExpr (mM isL (oL fAppend) (mFld ["Trail"] "trace" (mVar 1)) [(mTup [(mC (.str [116, 97, 107, 101])), (mVar 7), (mBin oIx (mVar 3) (mC (.int 0))), (mBin oIx (mVar 3) (mC (.int 1)))])])))) (mIfS (mTest (mBin oEq (mVar 6) (mC (.str [115, 97, 121])))) (mExpr (mM isL (oL fAppend) (mFld ["Trail"] "trace" (mVar 1)) [(mTup [(mC (.str [115, 97, 121])), (mP m_value_of [(mBin oIx (mVar 4) (mC (.int 1))), (mVar 5)] []), (mBin oIx (mVar 3) (mC (.int 0))), (mBin oIx (mVar 3) (mC (.int 1)))])])) (mIfS (mTest (mBin oEq (mVar 6) (mC (.str [110, 101, 101, 100])))) (mIfS (mTest (mBin oLe (mP m_value_of [(mBin oIx (mVar 4) (mC (.int 1))), (mVar 5)] []) (mC (.int 0)))) (mSetF ["Trail"] "fault" (mVar 1) (mTup [(mC (.str [110, 101, 101, 100])), (mBin oIx (mVar 3) (mC (.int 0))), (mBin oIx (mVar 3) (mC (.int 1))), (mC (.int 0))])) mSkip) (mIfS (mTest (mBin oEq (mVar 6) (mC (.str [97, 115, 107])))) (mSeq (mIfS (mTest (mBin oNinA (mBin oIx (mVar 4) (mC (.int 1))) (mFld ["Trail"] "begun" (mVar 1)))) (mExpr (mMeth "Trail" "load" m_Trail_load (mVar 1) [(mAlt (mMeth "Walk" "loads_of" m_Walk_loads_of (mVar 0) [(mBin oIx (mVar 4) (mC (.int 1)))] []) (mMeth "PartsWalk" "loads_of" m_Walk_loads_of (mVar 0) [(mBin oIx (mVar 4) (mC (.int 1)))] []))] [])) mSkip)
  (mExpr (mAlt (mMeth "Walk" "begin" n.f_Walk_begin (mVar 0) [(mVar 1), (mBin oIx (mVar 4) (mC (.int 1)))] []) (mMeth "PartsWalk" "begin" n.f_Walk_begin (mVar 0) [(mVar 1), (mBin oIx (mVar 4) (mC (.int 1)))] [])))) (mIfS (mTest (mBin oInA (mVar 6) (mTup [(mC (.str [98, 114, 105, 110, 103])), (mC (.str [100, 111]))]))) (mExpr (mAlt (mMeth "Walk" "begin" n.f_Walk_begin (mVar 0) [(mVar 1), (mBin oIx (mVar 4) (mC (.int 1)))] []) (mMeth "PartsWalk" "begin" n.f_Walk_begin (mVar 0) [(mVar 1), (mBin oIx (mVar 4) (mC (.int 1)))] []))) mSkip)))))))
@[simp] theorem b_Walk_done_ev {n : R_Walk_done} {σ : SL} {h : AH} : b_Walk_done n σ h = (mSeq (mAsg (gN 6) (mBin oIx (mVar 4) (mC (.int 0))))
  (mIfS (mTest (mBin oEq (mVar 6) (mC (.str [115, 101, 116])))) (mPut (mFld ["Trail"] "known" (mVar 1)) (mAlt (mMeth "Walk" "key_of" m_Walk_key_of (mVar 0) [(mVar 2), (mBin oIx (mVar 4) (mC (.int 1)))] []) (mMeth "PartsWalk" "key_of" m_PartsWalk_key_of (mVar 0) [(mVar 2), (mBin oIx (mVar 4) (mC (.int 1)))] [])) (mP m_value_of [(mBin oIx (mVar 4) (mC (.int 2))), (mVar 5)] [])) (mIfS (mTest (mBin oEq (mVar 6) (mC (.str [116, 97, 107, 101])))) (mSeq (mAsg (gN 7) (mMeth "Trail" "take" m_Trail_take (mVar 1) [] []))
  (mSeq (mPut (mFld ["Trail"] "known" (mVar 1)) (mAlt (mMeth "Walk" "key_of" m_Walk_key_of (mVar 0) [(mVar 2), (mBin oIx (mVar 4) (mC (.int 1)))] []) (mMeth "PartsWalk" "key_of" m_PartsWalk_key_of (mVar 0) [(mVar 2), (mBin oIx (mVar 4) (mC (.int 1)))] [])) (mVar 7))
  (mExpr (mM isL (oL fAppend) (mFld ["Trail"] "trace" (mVar 1)) [(mTup [(mC (.str [116, 97, 107, 101])), (mVar 7), (mBin oIx (mVar 3) (mC (.int 0))), (mBin oIx (mVar 3) (mC (.int 1)))])])))) (mIfS (mTest (mBin oEq (mVar 6) (mC (.str [115, 97, 121])))) (mExpr (mM isL (oL fAppend) (mFld ["Trail"] "trace" (mVar 1)) [(mTup [(mC (.str [115, 97, 121])), (mP m_value_of [(mBin oIx (mVar 4) (mC (.int 1))), (mVar 5)] []), (mBin oIx (mVar 3) (mC (.int 0))), (mBin oIx (mVar 3) (mC (.int 1)))])])) (mIfS (mTest (mBin oEq (mVar 6) (mC (.str [110, 101, 101, 100])))) (mIfS (mTest (mBin oLe (mP m_value_of [(mBin oIx (mVar 4) (mC (.int 1))), (mVar 5)] []) (mC (.int 0)))) (mSetF ["Trail"] "fault" (mVar 1) (mTup [(mC (.str [110, 101, 101, 100])), (mBin oIx (mVar 3) (mC (.int 0))), (mBin oIx (mVar 3) (mC (.int 1))), (mC (.int 0))])) mSkip) (mIfS (mTest (mBin oEq (mVar 6) (mC (.str [97, 115, 107])))) (mSeq (mIfS (mTest (mBin oNinA (mBin oIx (mVar 4) (mC (.int 1))) (mFld ["Trail"] "begun" (mVar 1)))) (mExpr (mMeth "Trail" "load" m_Trail_load (mVar 1) [(mAlt (mMeth "Walk" "loads_of" m_Walk_loads_of (mVar 0) [(mBin oIx (mVar 4) (mC (.int 1)))] []) (mMeth "PartsWalk" "loads_of" m_Walk_loads_of (mVar 0) [(mBin oIx (mVar 4) (mC (.int 1)))] []))] [])) mSkip)
  (mExpr (mAlt (mMeth "Walk" "begin" n.f_Walk_begin (mVar 0) [(mVar 1), (mBin oIx (mVar 4) (mC (.int 1)))] []) (mMeth "PartsWalk" "begin" n.f_Walk_begin (mVar 0) [(mVar 1), (mBin oIx (mVar 4) (mC (.int 1)))] [])))) (mIfS (mTest (mBin oInA (mVar 6) (mTup [(mC (.str [98, 114, 105, 110, 103])), (mC (.str [100, 111]))]))) (mExpr (mAlt (mMeth "Walk" "begin" n.f_Walk_begin (mVar 0) [(mVar 1), (mBin oIx (mVar 4) (mC (.int 1)))] []) (mMeth "PartsWalk" "begin" n.f_Walk_begin (mVar 0) [(mVar 1), (mBin oIx (mVar 4) (mC (.int 1)))] []))) mSkip))))))) σ h := (rfl)
def f1_Walk_begin (n : R_Walk_done) : MS := (mSeq (mAsg (gN 6) (mAlt (mMeth "Walk" "found_by" m_Walk_found_by (mVar 0) [(mVar 1), (mVar 2), (mTup [(mVar 3), (mVar 4)]), (mVar 5)] []) (mMeth "PartsWalk" "found_by" m_Walk_found_by (mVar 0) [(mVar 1), (mVar 2), (mTup [(mVar 3), (mVar 4)]), (mVar 5)] [])))
  (mSeq (mIfS (mTest (mBin oNotN (mVar 6) (mC .non))) (mExpr (mAlt (mMeth "Walk" "done" n.f_Walk_done (mVar 0) [(mVar 1), (mVar 2), (mTup [(mVar 3), (mVar 4)]), (mVar 5), (mVar 6)] []) (mMeth "PartsWalk" "done" n.f_Walk_done (mVar 0) [(mVar 1), (mVar 2), (mTup [(mVar 3), (mVar 4)]), (mVar 5), (mVar 6)] []))) mSkip)
  (mIfS (mTest (mBin oNotN (mFld ["Trail"] "fault" (mVar 1)) (mC .non))) mRetN mSkip)))
@[simp] theorem f1_Walk_begin_ev {n : R_Walk_done} {σ : SL} {h : AH} : f1_Walk_begin n σ h = (mSeq (mAsg (gN 6) (mAlt (mMeth "Walk" "found_by" m_Walk_found_by (mVar 0) [(mVar 1), (mVar 2), (mTup [(mVar 3), (mVar 4)]), (mVar 5)] []) (mMeth "PartsWalk" "found_by" m_Walk_found_by (mVar 0) [(mVar 1), (mVar 2), (mTup [(mVar 3), (mVar 4)]), (mVar 5)] [])))
  (mSeq (mIfS (mTest (mBin oNotN (mVar 6) (mC .non))) (mExpr (mAlt (mMeth "Walk" "done" n.f_Walk_done (mVar 0) [(mVar 1), (mVar 2), (mTup [(mVar 3), (mVar 4)]), (mVar 5), (mVar 6)] []) (mMeth "PartsWalk" "done" n.f_Walk_done (mVar 0) [(mVar 1), (mVar 2), (mTup [(mVar 3), (mVar 4)]), (mVar 5), (mVar 6)] []))) mSkip)
  (mIfS (mTest (mBin oNotN (mFld ["Trail"] "fault" (mVar 1)) (mC .non))) mRetN mSkip))) σ h := (rfl)
def b_Walk_begin (n : R_Walk_done) : MS := (mSeq (mIfS (mTest (mBin oInA (mVar 2) (mFld ["Trail"] "begun" (mVar 1)))) mRetN mSkip)
  (mSeq (mPut (mFld ["Trail"] "begun" (mVar 1)) (mVar 2) (mC (.bl true)))
  (mFor (mIt fSeq (mAlt (mMeth "Walk" "rows_of" m_Walk_rows_of (mVar 0) [(mVar 2)] []) (mMeth "PartsWalk" "rows_of" m_PartsWalk_rows_of (mVar 0) [(mVar 2)] []))) (gT [(gN 3), (gN 4), (gN 5)]) (f1_Walk_begin n))))
@[simp] theorem b_Walk_begin_ev {n : R_Walk_done} {σ : SL} {h : AH} : b_Walk_begin n σ h = (mSeq (mIfS (mTest (mBin oInA (mVar 2) (mFld ["Trail"] "begun" (mVar 1)))) mRetN mSkip)
  (mSeq (mPut (mFld ["Trail"] "begun" (mVar 1)) (mVar 2) (mC (.bl true)))
  (mFor (mIt fSeq (mAlt (mMeth "Walk" "rows_of" m_Walk_rows_of (mVar 0) [(mVar 2)] []) (mMeth "PartsWalk" "rows_of" m_PartsWalk_rows_of (mVar 0) [(mVar 2)] []))) (gT [(gN 3), (gN 4), (gN 5)]) (f1_Walk_begin n)))) σ h := (rfl)
def r_walk_done : Nat → R_Walk_done
  | 0 => ⟨fnBad, fnBad⟩
  | n + 1 => ⟨mFn 8 (b_Walk_done (r_walk_done n)), mFn 7 (b_Walk_begin (r_walk_done n))⟩
def m_Walk_done (n : Nat) : Fn := (r_walk_done n).f_Walk_done
@[simp] theorem fold_Walk_done {n : Nat} : (r_walk_done n).f_Walk_done = m_Walk_done n := (rfl)
theorem m_Walk_done_ev {n : Nat} {ds : List D} {h : AH} : m_Walk_done (n + 1) ds h = (b_Walk_done (r_walk_done n) (ds.map some ++ List.replicate (8 - ds.length) none) h).fin := (rfl)
def m_Walk_begin (n : Nat) : Fn := (r_walk_done n).f_Walk_begin
@[simp] theorem fold_Walk_begin {n : Nat} : (r_walk_done n).f_Walk_begin = m_Walk_begin n := (rfl)
theorem m_Walk_begin_ev {n : Nat} {ds : List D} {h : AH} : m_Walk_begin (n + 1) ds h = (b_Walk_begin (r_walk_done n) (ds.map some ++ List.replicate (7 - ds.length) none) h).fin := (rfl)
def b_Walk_go : MS := (mSeq (mAsg (gN 3) (mMake "Trail" L_Trail m_Trail___init__ [(mVar 2)] []))
  (mSeq (mExpr (mMeth "Trail" "load" m_Trail_load (mVar 3) [(mAlt (mMeth "Walk" "loads_of" m_Walk_loads_of (mVar 0) [(mVar 1)] []) (mMeth "PartsWalk" "loads_of" m_Walk_loads_of (mVar 0) [(mVar 1)] []))] []))
  (mSeq (mExpr (mMeth "Trail" "load" m_Trail_load (mVar 3) [(mAlt (mMeth "Walk" "ahead_of" m_Walk_ahead_of (mVar 0) [(mVar 1)] []) (mMeth "PartsWalk" "ahead_of" m_Walk_ahead_of (mVar 0) [(mVar 1)] []))] []))
  (mSeq (mExpr (mAlt (mMeth "Walk" "begin" (m_Walk_begin 8) (mVar 0) [(mVar 3), (mVar 1)] []) (mMeth "PartsWalk" "begin" (m_Walk_begin 8) (mVar 0) [(mVar 3), (mVar 1)] [])))
  (mRet (mTup [(mB oTuple [(mFld ["Trail"] "trace" (mVar 3))]), (mFld ["Trail"] "fault" (mVar 3))]))))))
def m_Walk_go : Fn := mFn 4 b_Walk_go
@[simp] theorem b_Walk_go_ev {σ : SL} {h : AH} : b_Walk_go σ h = (mSeq (mAsg (gN 3) (mMake "Trail" L_Trail m_Trail___init__ [(mVar 2)] []))
  (mSeq (mExpr (mMeth "Trail" "load" m_Trail_load (mVar 3) [(mAlt (mMeth "Walk" "loads_of" m_Walk_loads_of (mVar 0) [(mVar 1)] []) (mMeth "PartsWalk" "loads_of" m_Walk_loads_of (mVar 0) [(mVar 1)] []))] []))
  (mSeq (mExpr (mMeth "Trail" "load" m_Trail_load (mVar 3) [(mAlt (mMeth "Walk" "ahead_of" m_Walk_ahead_of (mVar 0) [(mVar 1)] []) (mMeth "PartsWalk" "ahead_of" m_Walk_ahead_of (mVar 0) [(mVar 1)] []))] []))
  (mSeq (mExpr (mAlt (mMeth "Walk" "begin" (m_Walk_begin 8) (mVar 0) [(mVar 3), (mVar 1)] []) (mMeth "PartsWalk" "begin" (m_Walk_begin 8) (mVar 0) [(mVar 3), (mVar 1)] [])))
  (mRet (mTup [(mB oTuple [(mFld ["Trail"] "trace" (mVar 3))]), (mFld ["Trail"] "fault" (mVar 3))])))))) σ h := (rfl)
theorem m_Walk_go_ev {ds : List D} {h : AH} : m_Walk_go ds h = (b_Walk_go (ds.map some ++ List.replicate (4 - ds.length) none) h).fin := (rfl)
def f1__law_bare : MS := (mSeq (mIfS (mOrT (mTest (mBin oNe (mAlt (mMeth "Walk" "rows_of" m_Walk_rows_of (mVar 2) [(mVar 3)] []) (mMeth "PartsWalk" "rows_of" m_PartsWalk_rows_of (mVar 2) [(mVar 3)] [])) (mTup []))) (mTest (mBin oNe (mAlt (mMeth "Walk" "key_of" m_Walk_key_of (mVar 2) [(mVar 3), (mC (.str [120]))] []) (mMeth "PartsWalk" "key_of" m_PartsWalk_key_of (mVar 2) [(mVar 3), (mC (.str [120]))] [])) (mC (.str [120]))))) (mRet (mC (.bl false))) mSkip)
  (mIfS (mOrT (mTest (mBin oNe (mAlt (mMeth "Walk" "loads_of" m_Walk_loads_of (mVar 2) [(mVar 3)] []) (mMeth "PartsWalk" "loads_of" m_Walk_loads_of (mVar 2) [(mVar 3)] [])) (mTup []))) (mOrT (mTest (mBin oNe (mAlt (mMeth "Walk" "ahead_of" m_Walk_ahead_of (mVar 2) [(mVar 3)] []) (mMeth "PartsWalk" "ahead_of" m_Walk_ahead_of (mVar 2) [(mVar 3)] [])) (mTup []))) (mTest (mBin oNe (mAlt (mMeth "Walk" "go" m_Walk_go (mVar 2) [(mVar 3), (mB oTuple [(mVar 1)])] []) (mMeth "PartsWalk" "go" m_Walk_go (mVar 2) [(mVar 3), (mB oTuple [(mVar 1)])] [])) (mTup [(mTup []), (mC .non)]))))) (mRet (mC (.bl false))) mSkip))
@[simp] theorem f1__law_bare_ev {σ : SL} {h : AH} : f1__law_bare σ h = (mSeq (mIfS (mOrT (mTest (mBin oNe (mAlt (mMeth "Walk" "rows_of" m_Walk_rows_of (mVar 2) [(mVar 3)] []) (mMeth "PartsWalk" "rows_of" m_PartsWalk_rows_of (mVar 2) [(mVar 3)] [])) (mTup []))) (mTest (mBin oNe (mAlt (mMeth "Walk" "key_of" m_Walk_key_of (mVar 2) [(mVar 3), (mC (.str [120]))] []) (mMeth "PartsWalk" "key_of" m_PartsWalk_key_of (mVar 2) [(mVar 3), (mC (.str [120]))] [])) (mC (.str [120]))))) (mRet (mC (.bl false))) mSkip)
  (mIfS (mOrT (mTest (mBin oNe (mAlt (mMeth "Walk" "loads_of" m_Walk_loads_of (mVar 2) [(mVar 3)] []) (mMeth "PartsWalk" "loads_of" m_Walk_loads_of (mVar 2) [(mVar 3)] [])) (mTup []))) (mOrT (mTest (mBin oNe (mAlt (mMeth "Walk" "ahead_of" m_Walk_ahead_of (mVar 2) [(mVar 3)] []) (mMeth "PartsWalk" "ahead_of" m_Walk_ahead_of (mVar 2) [(mVar 3)] [])) (mTup []))) (mTest (mBin oNe (mAlt (mMeth "Walk" "go" m_Walk_go (mVar 2) [(mVar 3), (mB oTuple [(mVar 1)])] []) (mMeth "PartsWalk" "go" m_Walk_go (mVar 2) [(mVar 3), (mB oTuple [(mVar 1)])] [])) (mTup [(mTup []), (mC .non)]))))) (mRet (mC (.bl false))) mSkip)) σ h := (rfl)
def b__law_bare : MS := (mSeq (mAsg (gN 2) (mMake0 "Walk" L_Walk))
  (mSeq (mFor (mIt fSeq (mVar 0)) (gT [(gN 3), (gN 4)]) f1__law_bare)
  (mRet (mC (.bl true)))))
def m__law_bare : Fn := mFn 5 b__law_bare
@[simp] theorem b__law_bare_ev {σ : SL} {h : AH} : b__law_bare σ h = (mSeq (mAsg (gN 2) (mMake0 "Walk" L_Walk))
  (mSeq (mFor (mIt fSeq (mVar 0)) (gT [(gN 3), (gN 4)]) f1__law_bare)
  (mRet (mC (.bl true))))) σ h := (rfl)
theorem m__law_bare_ev {ds : List D} {h : AH} : m__law_bare ds h = (b__law_bare (ds.map some ++ List.replicate (5 - ds.length) none) h).fin := (rfl)
def b__law_due : MS := (mSeq (mAsg (gN 3) (mComp (mIt fSeq (mVar 0)) (gT [(gN 7), (gN 8)]) [7, 8] mYes (mVar 7)))
  (mSeq (mAsg (gN 4) (mLst []))
  (mSeq (mIfS (mTest (mBin oEq (mB oLen [(mVar 0)]) (mC (.int 3)))) (mAsg (gN 4) (mComp (mRange [(mB oLen [(mBin oIx (mBin oIx (mVar 0) (mC (.int 2))) (mC (.int 1)))])]) (gN 9) [9] mYes (mTup [(mC (.str [115, 97, 121])), (mBin oIx (mBin oIx (mBin oIx (mBin oIx (mBin oIx (mBin oIx (mVar 0) (mC (.int 2))) (mC (.int 1))) (mVar 9)) (mC (.int 1))) (mC (.int 0))) (mC (.int 1))), (mBin oIx (mVar 3) (mC (.int 2))), (mVar 9)]))) mSkip)
  (mSeq (mIfS (mTest (mBin oEq (mVar 1) (mC (.int 2)))) (mRet (mTup [(mB oTuple [(mVar 4)]), (mC .non)])) mSkip)
  (mSeq (mAsg (gN 5) (mLst [(mTup [(mC (.str [116, 97, 107, 101])), (mVar 2), (mBin oIx (mVar 3) (mC (.int 1))), (mC (.int 0))]), (mTup [(mC (.str [115, 97, 121])), (mC (.int 8)), (mBin oIx (mVar 3) (mC (.int 1))), (mC (.int 1))])]))
  (mSeq (mIfS (mTest (mBin oEq (mBin oIx (mBin oIx (mBin oIx (mBin oIx (mVar 0) (mC (.int 1))) (mC (.int 1))) (mC (.int 0))) (mC (.int 0))) (mC (.str [115, 97, 121])))) (mAsg (gN 5) (mLst [(mTup [(mC (.str [115, 97, 121])), (mC (.int 8)), (mBin oIx (mVar 3) (mC (.int 1))), (mC (.int 0))]), (mTup [(mC (.str [116, 97, 107, 101])), (mVar 2), (mBin oIx (mVar 3) (mC (.int 1))), (mC (.int 1))])])) mSkip)
  (mSeq (mIfS (mTest (mBin oEq (mVar 1) (mC (.int 1)))) (mRet (mTup [(mB oTuple [(mVar 5)]), (mC .non)])) mSkip)
  (mSeq (mAsg (gN 6) (mBin oAdd (mVar 5) (mLst [(mTup [(mC (.str [115, 97, 121])), (mBin oAdd (mVar 2) (mC (.int 4))), (mBin oIx (mVar 3) (mC (.int 0))), (mC (.int 1))])])))
  (mSeq (mIfS (mTest (mBin oLe (mBin oAdd (mVar 2) (mC (.int 2))) (mC (.int 0)))) (mRet (mTup [(mB oTuple [(mVar 6)]), (mTup [(mC (.str [110, 101, 101, 100])), (mBin oIx (mVar 3) (mC (.int 0))), (mC (.int 2)), (mC (.int 0))])])) mSkip)
  (mSeq (mIfS (mTest (mBin oGt (mVar 2) (mC (.int 0)))) (mAsg (gN 6) (mBin oAdd (mVar 6) (mVar 4))) mSkip)
  (mRet (mTup [(mB oTuple [(mBin oAdd (mVar 6) (mLst [(mTup [(mC (.str [115, 97, 121])), (mVar 2), (mBin oIx (mVar 3) (mC (.int 0))), (mBin oSub (mB oLen [(mBin oIx (mBin oIx (mVar 0) (mC (.int 0))) (mC (.int 1)))]) (mC (.int 1)))])]))]), (mC .non)]))))))))))))
def m__law_due : Fn := mFn 10 b__law_due
@[simp] theorem b__law_due_ev {σ : SL} {h : AH} : b__law_due σ h = (mSeq (mAsg (gN 3) (mComp (mIt fSeq (mVar 0)) (gT [(gN 7), (gN 8)]) [7, 8] mYes (mVar 7)))
  (mSeq (mAsg (gN 4) (mLst []))
  (mSeq (mIfS (mTest (mBin oEq (mB oLen [(mVar 0)]) (mC (.int 3)))) (mAsg (gN 4) (mComp (mRange [(mB oLen [(mBin oIx (mBin oIx (mVar 0) (mC (.int 2))) (mC (.int 1)))])]) (gN 9) [9] mYes (mTup [(mC (.str [115, 97, 121])), (mBin oIx (mBin oIx (mBin oIx (mBin oIx (mBin oIx (mBin oIx (mVar 0) (mC (.int 2))) (mC (.int 1))) (mVar 9)) (mC (.int 1))) (mC (.int 0))) (mC (.int 1))), (mBin oIx (mVar 3) (mC (.int 2))), (mVar 9)]))) mSkip)
  (mSeq (mIfS (mTest (mBin oEq (mVar 1) (mC (.int 2)))) (mRet (mTup [(mB oTuple [(mVar 4)]), (mC .non)])) mSkip)
  (mSeq (mAsg (gN 5) (mLst [(mTup [(mC (.str [116, 97, 107, 101])), (mVar 2), (mBin oIx (mVar 3) (mC (.int 1))), (mC (.int 0))]), (mTup [(mC (.str [115, 97, 121])), (mC (.int 8)), (mBin oIx (mVar 3) (mC (.int 1))), (mC (.int 1))])]))
  (mSeq (mIfS (mTest (mBin oEq (mBin oIx (mBin oIx (mBin oIx (mBin oIx (mVar 0) (mC (.int 1))) (mC (.int 1))) (mC (.int 0))) (mC (.int 0))) (mC (.str [115, 97, 121])))) (mAsg (gN 5) (mLst [(mTup [(mC (.str [115, 97, 121])), (mC (.int 8)), (mBin oIx (mVar 3) (mC (.int 1))), (mC (.int 0))]), (mTup [(mC (.str [116, 97, 107, 101])), (mVar 2), (mBin oIx (mVar 3) (mC (.int 1))), (mC (.int 1))])])) mSkip)
  (mSeq (mIfS (mTest (mBin oEq (mVar 1) (mC (.int 1)))) (mRet (mTup [(mB oTuple [(mVar 5)]), (mC .non)])) mSkip)
  (mSeq (mAsg (gN 6) (mBin oAdd (mVar 5) (mLst [(mTup [(mC (.str [115, 97, 121])), (mBin oAdd (mVar 2) (mC (.int 4))), (mBin oIx (mVar 3) (mC (.int 0))), (mC (.int 1))])])))
  (mSeq (mIfS (mTest (mBin oLe (mBin oAdd (mVar 2) (mC (.int 2))) (mC (.int 0)))) (mRet (mTup [(mB oTuple [(mVar 6)]), (mTup [(mC (.str [110, 101, 101, 100])), (mBin oIx (mVar 3) (mC (.int 0))), (mC (.int 2)), (mC (.int 0))])])) mSkip)
  (mSeq (mIfS (mTest (mBin oGt (mVar 2) (mC (.int 0)))) (mAsg (gN 6) (mBin oAdd (mVar 6) (mVar 4))) mSkip)
  (mRet (mTup [(mB oTuple [(mBin oAdd (mVar 6) (mLst [(mTup [(mC (.str [115, 97, 121])), (mVar 2), (mBin oIx (mVar 3) (mC (.int 0))), (mBin oSub (mB oLen [(mBin oIx (mBin oIx (mVar 0) (mC (.int 0))) (mC (.int 1)))]) (mC (.int 1)))])]))]), (mC .non)])))))))))))) σ h := (rfl)
theorem m__law_due_ev {ds : List D} {h : AH} : m__law_due ds h = (b__law_due (ds.map some ++ List.replicate (10 - ds.length) none) h).fin := (rfl)
def f1__law_gone : MS := (mIfS (mOrT (mNotT (mTest (mB oIsi [(mVar 6), (mC (.ty "tuple"))]))) (mOrT (mTest (mBin oNe (mB oLen [(mVar 6)]) (mC (.int 4)))) (mOrT (mNotT (mTest (mP m__law_whole [(mBin oIx (mVar 6) (mC (.int 1)))] []))) (mNotT (mTest (mP m__law_whole [(mBin oIx (mVar 6) (mC (.int 3)))] [])))))) (mRet (mC (.bl false))) mSkip)
@[simp] theorem f1__law_gone_ev {σ : SL} {h : AH} : f1__law_gone σ h = (mIfS (mOrT (mNotT (mTest (mB oIsi [(mVar 6), (mC (.ty "tuple"))]))) (mOrT (mTest (mBin oNe (mB oLen [(mVar 6)]) (mC (.int 4)))) (mOrT (mNotT (mTest (mP m__law_whole [(mBin oIx (mVar 6) (mC (.int 1)))] []))) (mNotT (mTest (mP m__law_whole [(mBin oIx (mVar 6) (mC (.int 3)))] [])))))) (mRet (mC (.bl false))) mSkip) σ h := (rfl)
def b__law_gone : MS := (mSeq (mAsg (gN 4) (mAlt (mMeth "Walk" "go" m_Walk_go (mVar 0) [(mBin oIx (mBin oIx (mVar 1) (mVar 2)) (mC (.int 0))), (mB oTuple [(mVar 3)])] []) (mMeth "PartsWalk" "go" m_Walk_go (mVar 0) [(mBin oIx (mBin oIx (mVar 1) (mVar 2)) (mC (.int 0))), (mB oTuple [(mVar 3)])] [])))
  (mSeq (mAsg (gN 5) (mBin oIx (mBin oAdd (mVar 3) (mLst [(mC (.int 0))])) (mC (.int 0))))
  (mSeq (mIfS (mOrT (mNotT (mTest (mB oIsi [(mVar 4), (mC (.ty "tuple"))]))) (mOrT (mTest (mBin oNe (mB oLen [(mVar 4)]) (mC (.int 2)))) (mNotT (mTest (mB oIsi [(mBin oIx (mVar 4) (mC (.int 0))), (mC (.ty "tuple"))]))))) (mRet (mC (.bl false))) mSkip)
  (mSeq (mFor (mIt fSeq (mBin oIx (mVar 4) (mC (.int 0)))) (gN 6) f1__law_gone)
  (mSeq (mIfS (mAndT (mTest (mBin oNotN (mBin oIx (mVar 4) (mC (.int 1))) (mC .non))) (mOrT (mNotT (mTest (mB oIsi [(mBin oIx (mVar 4) (mC (.int 1))), (mC (.ty "tuple"))]))) (mNotT (mTest (mP m__law_whole [(mBin oIx (mBin oIx (mVar 4) (mC (.int 1))) (mC (.int 2)))] []))))) (mRet (mC (.bl false))) mSkip)
  (mRet (mBin oEq (mVar 4) (mP m__law_due [(mVar 1), (mVar 2), (mVar 5)] []))))))))
def m__law_gone : Fn := mFn 7 b__law_gone
@[simp] theorem b__law_gone_ev {σ : SL} {h : AH} : b__law_gone σ h = (mSeq (mAsg (gN 4) (mAlt (mMeth "Walk" "go" m_Walk_go (mVar 0) [(mBin oIx (mBin oIx (mVar 1) (mVar 2)) (mC (.int 0))), (mB oTuple [(mVar 3)])] []) (mMeth "PartsWalk" "go" m_Walk_go (mVar 0) [(mBin oIx (mBin oIx (mVar 1) (mVar 2)) (mC (.int 0))), (mB oTuple [(mVar 3)])] [])))
  (mSeq (mAsg (gN 5) (mBin oIx (mBin oAdd (mVar 3) (mLst [(mC (.int 0))])) (mC (.int 0))))
  (mSeq (mIfS (mOrT (mNotT (mTest (mB oIsi [(mVar 4), (mC (.ty "tuple"))]))) (mOrT (mTest (mBin oNe (mB oLen [(mVar 4)]) (mC (.int 2)))) (mNotT (mTest (mB oIsi [(mBin oIx (mVar 4) (mC (.int 0))), (mC (.ty "tuple"))]))))) (mRet (mC (.bl false))) mSkip)
  (mSeq (mFor (mIt fSeq (mBin oIx (mVar 4) (mC (.int 0)))) (gN 6) f1__law_gone)
  (mSeq (mIfS (mAndT (mTest (mBin oNotN (mBin oIx (mVar 4) (mC (.int 1))) (mC .non))) (mOrT (mNotT (mTest (mB oIsi [(mBin oIx (mVar 4) (mC (.int 1))), (mC (.ty "tuple"))]))) (mNotT (mTest (mP m__law_whole [(mBin oIx (mBin oIx (mVar 4) (mC (.int 1))) (mC (.int 2)))] []))))) (mRet (mC (.bl false))) mSkip)
  (mRet (mBin oEq (mVar 4) (mP m__law_due [(mVar 1), (mVar 2), (mVar 5)] [])))))))) σ h := (rfl)
theorem m__law_gone_ev {ds : List D} {h : AH} : m__law_gone ds h = (b__law_gone (ds.map some ++ List.replicate (7 - ds.length) none) h).fin := (rfl)
def f1_law : MS := (mSeq (mIfS (mOrT (mNotT (mTest (mP m__law_gone [(mVar 4), (mVar 1), (mVar 6), (mVar 7)] []))) (mNotT (mTest (mP m__law_gone [(mVar 5), (mVar 2), (mBin oMod (mVar 6) (mC (.int 2))), (mVar 7)] [])))) (mRet (mC (.bl false))) mSkip)
  (mIfS (mOrT (mNotT (mTest (mP m__law_gone [(mVar 4), (mVar 1), (mC (.int 0)), (mVar 7)] []))) (mNotT (mTest (mP m__law_told [(mVar 5), (mVar 2)] [])))) (mRet (mC (.bl false))) mSkip))
@[simp] theorem f1_law_ev {σ : SL} {h : AH} : f1_law σ h = (mSeq (mIfS (mOrT (mNotT (mTest (mP m__law_gone [(mVar 4), (mVar 1), (mVar 6), (mVar 7)] []))) (mNotT (mTest (mP m__law_gone [(mVar 5), (mVar 2), (mBin oMod (mVar 6) (mC (.int 2))), (mVar 7)] [])))) (mRet (mC (.bl false))) mSkip)
  (mIfS (mOrT (mNotT (mTest (mP m__law_gone [(mVar 4), (mVar 1), (mC (.int 0)), (mVar 7)] []))) (mNotT (mTest (mP m__law_told [(mVar 5), (mVar 2)] [])))) (mRet (mC (.bl false))) mSkip)) σ h := (rfl)
def b_law : MS := (mSeq (mAsg (gN 1) (mP m__law_parts [(mVar 0)] []))
  (mSeq (mAsg (gN 2) (mLst [(mTup [(mBin oIx (mBin oIx (mVar 1) (mC (.int 0))) (mC (.int 0))), (mBin oAdd (mSl (mBin oIx (mBin oIx (mVar 1) (mC (.int 0))) (mC (.int 1))) none (some (mC (.int 3)))) (mSl (mBin oIx (mBin oIx (mVar 1) (mC (.int 0))) (mC (.int 1))) (some (mC (.int 4))) none))]), (mBin oIx (mVar 1) (mC (.int 1)))]))
  (mSeq (mAsg (gN 3) (mLst [(mP m__law_number [(mP m__law_cell_at [(mVar 0), (mC (.int 3))] [])] []), (mP m__law_number [(mP m__law_cell_at [(mVar 0), (mC (.int 4))] [])] [])]))
  (mSeq (mAsg (gN 4) (mMake "PartsWalk" L_PartsWalk m_PartsWalk___init__ [(mB oTuple [(mVar 1)])] []))
  (mSeq (mAsg (gN 5) (mMake "PartsWalk" L_PartsWalk m_PartsWalk___init__ [(mB oTuple [(mVar 2)])] []))
  (mSeq (mAsg (gN 6) (mBin oMod (mBin oDiv (mP m__law_cell_at [(mVar 0), (mC (.int 2))] []) (mC (.int 2))) (mC (.int 3))))
  (mSeq (mFor (mIt fSeq (mLst [(mVar 3), (mLst []), (mListRev (mVar 3)), (mVar 3)])) (gN 7) f1_law)
  (mRet (mAnd (mP m__law_told [(mVar 4), (mVar 1)] []) (mP m__law_bare [(mVar 1), (mVar 3)] []))))))))))
def m_law : Fn := mFn 8 b_law
@[simp] theorem b_law_ev {σ : SL} {h : AH} : b_law σ h = (mSeq (mAsg (gN 1) (mP m__law_parts [(mVar 0)] []))
  (mSeq (mAsg (gN 2) (mLst [(mTup [(mBin oIx (mBin oIx (mVar 1) (mC (.int 0))) (mC (.int 0))), (mBin oAdd (mSl (mBin oIx (mBin oIx (mVar 1) (mC (.int 0))) (mC (.int 1))) none (some (mC (.int 3)))) (mSl (mBin oIx (mBin oIx (mVar 1) (mC (.int 0))) (mC (.int 1))) (some (mC (.int 4))) none))]), (mBin oIx (mVar 1) (mC (.int 1)))]))
  (mSeq (mAsg (gN 3) (mLst [(mP m__law_number [(mP m__law_cell_at [(mVar 0), (mC (.int 3))] [])] []), (mP m__law_number [(mP m__law_cell_at [(mVar 0), (mC (.int 4))] [])] [])]))
  (mSeq (mAsg (gN 4) (mMake "PartsWalk" L_PartsWalk m_PartsWalk___init__ [(mB oTuple [(mVar 1)])] []))
  (mSeq (mAsg (gN 5) (mMake "PartsWalk" L_PartsWalk m_PartsWalk___init__ [(mB oTuple [(mVar 2)])] []))
  (mSeq (mAsg (gN 6) (mBin oMod (mBin oDiv (mP m__law_cell_at [(mVar 0), (mC (.int 2))] []) (mC (.int 2))) (mC (.int 3))))
  (mSeq (mFor (mIt fSeq (mLst [(mVar 3), (mLst []), (mListRev (mVar 3)), (mVar 3)])) (gN 7) f1_law)
  (mRet (mAnd (mP m__law_told [(mVar 4), (mVar 1)] []) (mP m__law_bare [(mVar 1), (mVar 3)] [])))))))))) σ h := (rfl)
theorem m_law_ev {ds : List D} {h : AH} : m_law ds h = (b_law (ds.map some ++ List.replicate (8 - ds.length) none) h).fin := (rfl)
end Bh

set_option maxHeartbeats 4000000
namespace Bh
open PySem MW
abbrev Nm := List Nat
/-! ### the heap of a walk -/
def HP (ns : List D) (tk : Int) (kn bg : List (D × D)) (tr : List D) (fl : D) (g : AH) : AH :=
  .ins "Trail" L_Trail [.tup ns, .int tk, .loc 1, .loc 2, .loc 3, .loc 4, fl] :: .dct true kn :: .dct false bg :: .dct false [] :: .lst tr :: g
@[simp] theorem HP_0 {ns tk kn bg tr fl g} : (HP ns tk kn bg tr fl g)[0]? = some (.ins "Trail" L_Trail [.tup ns, .int tk, .loc 1, .loc 2, .loc 3, .loc 4, fl]) := rfl
@[simp] theorem HP_1 {ns tk kn bg tr fl g} : (HP ns tk kn bg tr fl g)[1]? = some (.dct true kn) := rfl
@[simp] theorem HP_2 {ns tk kn bg tr fl g} : (HP ns tk kn bg tr fl g)[2]? = some (.dct false bg) := rfl
@[simp] theorem HP_3 {ns tk kn bg tr fl g} : (HP ns tk kn bg tr fl g)[3]? = some (.dct false []) := rfl
@[simp] theorem HP_4 {ns tk kn bg tr fl g} : (HP ns tk kn bg tr fl g)[4]? = some (.lst tr) := rfl
@[simp] theorem HP_len {ns tk kn bg tr fl g} : (HP ns tk kn bg tr fl g).length = g.length + 5 := rfl
@[simp] theorem HP_app {ns tk kn bg tr fl g c} : HP ns tk kn bg tr fl g ++ [c] = HP ns tk kn bg tr fl (g ++ [c]) := rfl
@[simp] theorem HP_last {ns tk kn bg tr fl g c} : (HP ns tk kn bg tr fl (g ++ [c]))[g.length + 5]? = some c := by
  show (g ++ [c])[g.length]? = some c
  simp
@[simp] theorem HP_set_last {ns tk kn bg tr fl g c c'} : (HP ns tk kn bg tr fl (g ++ [c])).set (g.length + 5) c' = HP ns tk kn bg tr fl (g ++ [c']) := by
  show _ :: _ :: _ :: _ :: _ :: ((g ++ [c]).set g.length c') = _
  rw [List.set_append_right _ _ (Nat.le_refl _)]
  simp [HP]
@[simp] theorem HP_set1 {ns tk kn bg tr fl g kn'} : (HP ns tk kn bg tr fl g).set 1 (.dct true kn') = HP ns tk kn' bg tr fl g := rfl
@[simp] theorem HP_set2 {ns tk kn bg tr fl g bg'} : (HP ns tk kn bg tr fl g).set 2 (.dct false bg') = HP ns tk kn bg' tr fl g := rfl
@[simp] theorem HP_set4 {ns tk kn bg tr fl g tr'} : (HP ns tk kn bg tr fl g).set 4 (.lst tr') = HP ns tk kn bg tr' fl g := rfl
@[simp] theorem HP_set0 {ns tk kn bg tr fl g tk' fl'} : (HP ns tk kn bg tr fl g).set 0 (.ins "Trail" L_Trail [.tup ns, .int tk', .loc 1, .loc 2, .loc 3, .loc 4, fl']) = HP ns tk' kn bg tr fl' g := rfl
section
variable {ns : List D} {tk : Int} {kn bg : List (D × D)} {tr : List D} {fl : D} {g : AH}
@[simp] theorem g_known : getF ["Trail"] "known" (.loc 0) (HP ns tk kn bg tr fl g) = some (.loc 1) := by simp [getF, insAt]
@[simp] theorem g_begun : getF ["Trail"] "begun" (.loc 0) (HP ns tk kn bg tr fl g) = some (.loc 2) := by simp [getF, insAt]
@[simp] theorem g_loaded : getF ["Trail"] "loaded" (.loc 0) (HP ns tk kn bg tr fl g) = some (.loc 3) := by simp [getF, insAt]
@[simp] theorem g_trace : getF ["Trail"] "trace" (.loc 0) (HP ns tk kn bg tr fl g) = some (.loc 4) := by simp [getF, insAt]
@[simp] theorem g_fault : getF ["Trail"] "fault" (.loc 0) (HP ns tk kn bg tr fl g) = some fl := by simp [getF, insAt]
@[simp] theorem g_numbers : getF ["Trail"] "numbers" (.loc 0) (HP ns tk kn bg tr fl g) = some (.tup ns) := by simp [getF, insAt]
@[simp] theorem g_taken : getF ["Trail"] "taken" (.loc 0) (HP ns tk kn bg tr fl g) = some (.int tk) := by simp [getF, insAt]
end
/-! ### the walk's object -/
abbrev WK (P : D) : D := .obj "PartsWalk" L_PartsWalk [P]
@[simp] theorem g_parts {P : D} {h : AH} : getF ["PartsWalk"] "parts" (WK P) h = some P := by simp [getF, insAt]
@[simp] theorem no_W {name : PySem.Str} {P : D} {h : AH} : mthOk "Walk" name (WK P) h = false := by simp [mthOk, insAt]
theorem ok_P {name : PySem.Str} {P : D} {h : AH} (e : decide (name ∈ L_PartsWalk) = false) : mthOk "PartsWalk" name (WK P) h = true := by
  simp only [mthOk, insAt, e]; decide
def encP (q : Nm × D) : D := .tup [.str q.1, q.2]
def rowsOf : List (Nm × D) → Nm → D
  | [], _ => .tup []
  | (n, r) :: ps, p => if n = p then r else rowsOf ps p
theorem rows_of_loop {P : D} {p : Nm} : ∀ (ps : List (Nm × D)) (a b : Option D) (h : AH), (forL noG (gT [gN 2, gN 3]) f1_rows_of (ps.map encP) [some P, some (.str p), a, b] h).seq (mRet (mTup [])) = .rt (rowsOf ps p) h
  | [], a, b, h => by simp [rowsOf]
  | (n, r) :: ps, a, b, h => by
    by_cases e : n = p
    · subst e
      simp [rowsOf, encP]
    · simp [rowsOf, encP, e, rows_of_loop ps]
theorem rowsOf_pur {p : Nm} : ∀ {ps : List (Nm × D)}, D.purL (ps.map encP) = true → (rowsOf ps p).pur = true
  | [], _ => by simp [rowsOf]
  | (n, r) :: ps, h => by
    simp [encP] at h
    unfold rowsOf
    split
    · exact h.1
    · exact rowsOf_pur h.2
theorem rows_of_ev {ps : List (Nm × D)} {p : Nm} (hp : D.purL (ps.map encP) = true) : pc m_rows_of [.tup (ps.map encP), .str p] = .ok (rowsOf ps p) := by
  refine pc_ok (h := []) ?_ (rowsOf_pur hp)
  simp [m_rows_of_ev, rows_of_loop]
/-! ### found_by -/
theorem found0 {P : D} {p : D} {sp row w : D} {ns tk kn bg tr fl} {g : AH} (hrow : row.pur = true) (hw : pc m_when_of [row] = .ok w) (hr : pc m_read_names [row] = .ok (.tup [])) :
    m_Walk_found_by [WK P, .loc 0, p, sp, row] (HP ns tk kn bg tr fl g) = .ok (.loc (g.length + 5)) (HP ns tk kn bg tr fl (g ++ [.dct false []])) := by
  simp [m_Walk_found_by_ev, callP_pur, hrow, hw, hr]
theorem found1 {P : D} {p : Nm} {sp row w kd : D} {wd v : Int} {nm : Nm} {ns tk kn bg tr fl} {g : AH} (hrow : row.pur = true) (hP : P.pur = true) (hw : pc m_when_of [row] = .ok w) (hr : pc m_read_names [row] = .ok (.tup [.tup [.int wd, .str nm]]))
    (hm : pc m_maker [P, .str p, .str nm] = .ok kd) (hko : keyOk true kd = true) (hk : dLook kn kd = some (.int v)) (hw2 : w = .non ∨ w = .str nm) :
    m_Walk_found_by [WK P, .loc 0, .str p, sp, row] (HP ns tk kn bg tr fl g) = .ok (if w = .str nm ∧ v ≤ 0 then .non else .loc (g.length + 5)) (HP ns tk kn bg tr fl (g ++ [.dct false [(.str nm, .int v)]])) := by
  have e1 := dict_nin (h := HP ns tk kn bg tr fl (g ++ [.dct false []])) (i := 1) (k := kd) HP_1 hko
  have e2 := dict_ix (h := HP ns tk kn bg tr fl (g ++ [.dct false []])) (i := 1) (k := kd) HP_1 hko
  have e3 := dict_put (h := HP ns tk kn bg tr fl (g ++ [.dct false []])) (i := g.length + 5) (k := .str nm) (v := .int v) HP_last keyOk_str (small (by decide))
  have e4 := dict_ix (h := HP ns tk kn bg tr fl (g ++ [.dct false [(.str nm, .int v)]])) (i := g.length + 5) (k := .str nm) HP_last keyOk_str
  rw [hk] at e1 e2
  rw [dLook_one] at e4
  have e5 : ∀ h : AH, oEq (.str nm) .non h = some (.bl false) := fun h => by simp [oEq, frz, D.dat, D.eqv]
  rcases hw2 with rfl | rfl
  · simp [m_Walk_found_by_ev, callP_pur, hrow, hw, hr, callM_bad, callM_ok, ok_P, m_PartsWalk_key_of_ev, hP, hm, e1, e2, e3, e4, e5]
  · by_cases hv : v ≤ 0
    · simp [m_Walk_found_by_ev, callP_pur, hrow, hw, hr, callM_bad, callM_ok, ok_P, m_PartsWalk_key_of_ev, hP, hm, e1, e2, e3, e4, hv]
    · simp [m_Walk_found_by_ev, callP_pur, hrow, hw, hr, callM_bad, callM_ok, ok_P, m_PartsWalk_key_of_ev, hP, hm, e1, e2, e3, e4, hv]
/-! ### rows -/
abbrev sSay : D := .str [115, 97, 121]
abbrev sBring : D := .str [98, 114, 105, 110, 103]
abbrev sNeed : D := .str [110, 101, 101, 100]
abbrev sAsk : D := .str [97, 115, 107]
abbrev sTake : D := .str [116, 97, 107, 101]
abbrev sGive : D := .str [103, 105, 118, 101]
abbrev rBring (q gn own : Nm) : D := .tup [sBring, .str q, .tup [.tup [.str gn, .str own]]]
abbrev rSay2 (own : Nm) (c : Int) : D := .tup [sSay, .tup [.tup [.int 1, .str own], .tup [.int 1, .int c]], .non]
abbrev rSay1 (own : Nm) : D := .tup [sSay, .tup [.tup [.int 1, .str own]], .non]
abbrev rSayI (c : Int) : D := .tup [sSay, .tup [.tup [.int 1, .int c]], .non]
abbrev rNeed (own : Nm) (c : Int) : D := .tup [sNeed, .tup [.tup [.int 1, .str own], .tup [.int 1, .int c]]]
abbrev rAsk (q own : Nm) : D := .tup [sAsk, .str q, .str own]
abbrev rTake (th : Nm) : D := .tup [sTake, .str th]
abbrev rGive (th gn : Nm) : D := .tup [sGive, .str th, .str gn]
theorem okMul1 (j : Int) : okMul 1 j := .inl (.inl (by decide))
/-! sum_names -/
theorem sn_1 (at_ : Int) (own : Nm) : pc m_sum_names [.tup [.tup [.int 1, .str own]], .int at_] = .ok (.lst [.tup [.int at_, .str own]]) := by
  refine pc_frz (h := [.lst [.tup [.int at_, .str own]]]) (d := .loc 0) ?_ (by simp [frz, optL])
  simp [m_sum_names_ev, isL_loc, oL, fAppend, small]
theorem sn_2 (at_ : Int) (own : Nm) (c : Int) : pc m_sum_names [.tup [.tup [.int 1, .str own], .tup [.int 1, .int c]], .int at_] = .ok (.lst [.tup [.int at_, .str own]]) := by
  refine pc_frz (h := [.lst [.tup [.int at_, .str own]]]) (d := .loc 0) ?_ (by simp [frz, optL])
  simp [m_sum_names_ev, isL_loc, oL, fAppend, small]
theorem sn_I (at_ : Int) (c : Int) : pc m_sum_names [.tup [.tup [.int 1, .int c]], .int at_] = .ok (.lst []) := by
  refine pc_frz (h := [.lst []]) (d := .loc 0) ?_ (by simp [frz, optL])
  simp [m_sum_names_ev]
section
variable (q gn own th : Nm) (c : Int)
theorem w_bring : pc m_when_of [rBring q gn own] = .ok .non := pc_ok (h := []) (by simp [m_when_of_ev]) (by simp)
theorem w_say2 : pc m_when_of [rSay2 own c] = .ok .non := pc_ok (h := []) (by simp [m_when_of_ev]) (by simp)
theorem w_say1 : pc m_when_of [rSay1 own] = .ok .non := pc_ok (h := []) (by simp [m_when_of_ev]) (by simp)
theorem w_sayI : pc m_when_of [rSayI c] = .ok .non := pc_ok (h := []) (by simp [m_when_of_ev]) (by simp)
theorem w_need : pc m_when_of [rNeed own c] = .ok .non := pc_ok (h := []) (by simp [m_when_of_ev]) (by simp)
theorem w_ask : pc m_when_of [rAsk q own] = .ok (.str own) := pc_ok (h := []) (by simp [m_when_of_ev]) (by simp)
theorem w_take : pc m_when_of [rTake th] = .ok .non := pc_ok (h := []) (by simp [m_when_of_ev]) (by simp)
theorem w_give : pc m_when_of [rGive th gn] = .ok .non := pc_ok (h := []) (by simp [m_when_of_ev]) (by simp)
theorem n_bring : pc m_read_names [rBring q gn own] = .ok (.tup []) := pc_ok (h := []) (by simp [m_read_names_ev]) (by simp)
theorem n_say2 : pc m_read_names [rSay2 own c] = .ok (.tup [.tup [.int 1, .str own]]) := pc_ok (h := []) (by simp [m_read_names_ev, callP_pur, sn_2]) (by simp)
theorem n_say1 : pc m_read_names [rSay1 own] = .ok (.tup [.tup [.int 1, .str own]]) := pc_ok (h := []) (by simp [m_read_names_ev, callP_pur, sn_1]) (by simp)
theorem n_sayI : pc m_read_names [rSayI c] = .ok (.tup []) := pc_ok (h := []) (by simp [m_read_names_ev, callP_pur, sn_I]) (by simp)
theorem n_need : pc m_read_names [rNeed own c] = .ok (.tup [.tup [.int 1, .str own]]) := pc_ok (h := []) (by simp [m_read_names_ev, callP_pur, sn_2]) (by simp)
theorem n_ask : pc m_read_names [rAsk q own] = .ok (.tup [.tup [.int 3, .str own]]) := pc_ok (h := []) (by simp [m_read_names_ev]) (by simp)
theorem n_take : pc m_read_names [rTake th] = .ok (.tup []) := pc_ok (h := []) (by simp [m_read_names_ev]) (by simp)
theorem n_give : pc m_read_names [rGive th gn] = .ok (.tup []) := pc_ok (h := []) (by simp [m_read_names_ev]) (by simp)
end
/-! value_of -/
theorem v_2 (own : Nm) (v c : Int) : pc m_value_of [.tup [.tup [.int 1, .str own], .tup [.int 1, .int c]], .dct false [(.str own, .int v)]] = .ok (.int (v + c)) := by
  refine pc_ok (h := []) ?_ (by simp)
  simp [m_value_of_ev, dLook_one, oMul_int, okMul1, mAug_ev]
theorem v_1 (own : Nm) (v : Int) : pc m_value_of [.tup [.tup [.int 1, .str own]], .dct false [(.str own, .int v)]] = .ok (.int v) := by
  refine pc_ok (h := []) ?_ (by simp)
  simp [m_value_of_ev, dLook_one, oMul_int, okMul1, mAug_ev]
theorem v_I (c : Int) : pc m_value_of [.tup [.tup [.int 1, .int c]], .dct false []] = .ok (.int c) := by
  refine pc_ok (h := []) ?_ (by simp)
  simp [m_value_of_ev, oMul_int, okMul1, mAug_ev]
/-! ### done, row by row -/
theorem done_bring {n : Nat} {P p pl nr : D} {q : Nm} {x th : D} {h h' : AH} {d : D} (hb : m_Walk_begin n [WK P, .loc 0, .str q] h = .ok d h') :
    m_Walk_done (n + 1) [WK P, .loc 0, p, .tup [pl, nr], .tup [.str [98, 114, 105, 110, 103], .str q, x], th] h = .ok .non h' := by
  have e : ∀ h : AH, oInA (.str [98, 114, 105, 110, 103]) (.tup [.str [98, 114, 105, 110, 103], .str [100, 111]]) h = some (.bl true) := fun h => by
    simp [oInA, oIn, inD, frz, optL, D.dat, D.datL, D.eqv]
  simp [m_Walk_done_ev, callM_bad, callM_ok, ok_P, hb, e]
end Bh

set_option maxHeartbeats 4000000
namespace Bh
open PySem MW
theorem callP_loc {m : Fn} {t : D} {i : Nat} {h : AH} {b : Bool} {kvs : List (D × D)} {z : Int} (ht : t.pur = true) (e : h[i]? = some (.dct b kvs)) (hk : optP (frz 7 h) kvs = some kvs) (hz : pc m [t, .dct b kvs] = .ok (.int z)) : callP m [] [t, .loc i] h = .ok (.int z) h := by
  refine callP_frz (es := [t, .dct b kvs]) ?_ (by simp) (by simpa using hz) (by simp [D.flat])
  have e2 : frz 8 h (.loc i) = some (.dct b kvs) := by rw [frz_dct e, hk]; rfl
  simp [optL, frz_pur ht, e2]
@[simp] theorem optP_nil {f : D → Option D} : optP f [] = some [] := (rfl)
theorem optP_one {h : AH} {k : D} {v : Int} : optP (frz 7 h) [(k, .int v)] = some [(k, .int v)] := by simp [optP, frz_pur]
section
variable {P : D} {p : Nm} {pl nr : D} {ns : List D} {tk : Int} {kn bg : List (D × D)} {tr : List D} {fl : D} {g : AH} {own : Nm} {v c : Int} {n : Nat}
theorem done_say2 (hz : tr.length < 1000) : m_Walk_done (n + 1) [WK P, .loc 0, .str p, .tup [pl, nr], rSay2 own c, .loc (g.length + 5)] (HP ns tk kn bg tr fl (g ++ [.dct false [(.str own, .int v)]])) =
    .ok .non (HP ns tk kn bg (tr ++ [.tup [sSay, .int (v + c), pl, nr]]) fl (g ++ [.dct false [(.str own, .int v)]])) := by
  have e1 := callP_loc (m := m_value_of) (t := .tup [.tup [.int 1, .str own], .tup [.int 1, .int c]]) (i := g.length + 5) (h := HP ns tk kn bg tr fl (g ++ [.dct false [(.str own, .int v)]])) (by simp) HP_last optP_one (v_2 own v c)
  have e2 := lst_app (i := 4) (h := HP ns tk kn bg tr fl (g ++ [.dct false [(.str own, .int v)]])) (v := .tup [sSay, .int (v + c), pl, nr]) HP_4 (small hz)
  simp [m_Walk_done_ev, e1, e2, isL_loc HP_4]
theorem done_say1 (hz : tr.length < 1000) : m_Walk_done (n + 1) [WK P, .loc 0, .str p, .tup [pl, nr], rSay1 own, .loc (g.length + 5)] (HP ns tk kn bg tr fl (g ++ [.dct false [(.str own, .int v)]])) =
    .ok .non (HP ns tk kn bg (tr ++ [.tup [sSay, .int v, pl, nr]]) fl (g ++ [.dct false [(.str own, .int v)]])) := by
  have e1 := callP_loc (m := m_value_of) (t := .tup [.tup [.int 1, .str own]]) (i := g.length + 5) (h := HP ns tk kn bg tr fl (g ++ [.dct false [(.str own, .int v)]])) (by simp) HP_last optP_one (v_1 own v)
  have e2 := lst_app (i := 4) (h := HP ns tk kn bg tr fl (g ++ [.dct false [(.str own, .int v)]])) (v := .tup [sSay, .int v, pl, nr]) HP_4 (small hz)
  simp [m_Walk_done_ev, e1, e2, isL_loc HP_4]
theorem done_sayI (hz : tr.length < 1000) : m_Walk_done (n + 1) [WK P, .loc 0, .str p, .tup [pl, nr], rSayI c, .loc (g.length + 5)] (HP ns tk kn bg tr fl (g ++ [.dct false []])) =
    .ok .non (HP ns tk kn bg (tr ++ [.tup [sSay, .int c, pl, nr]]) fl (g ++ [.dct false []])) := by
  have e1 := callP_loc (m := m_value_of) (t := .tup [.tup [.int 1, .int c]]) (i := g.length + 5) (h := HP ns tk kn bg tr fl (g ++ [.dct false []])) (by simp) HP_last optP_nil (v_I c)
  have e2 := lst_app (i := 4) (h := HP ns tk kn bg tr fl (g ++ [.dct false []])) (v := .tup [sSay, .int c, pl, nr]) HP_4 (small hz)
  simp [m_Walk_done_ev, e1, e2, isL_loc HP_4]
theorem put_fault {h : AH} {z : D} (e : h = HP ns tk kn bg tr fl g) : putFD ["Trail"] "fault" (.loc 0) z h = some (HP ns tk kn bg tr z g) := by
  subst e
  simp [putFD, setF]
theorem done_need : m_Walk_done (n + 1) [WK P, .loc 0, .str p, .tup [pl, nr], rNeed own c, .loc (g.length + 5)] (HP ns tk kn bg tr .non (g ++ [.dct false [(.str own, .int v)]])) =
    .ok .non (HP ns tk kn bg tr (if v + c ≤ 0 then .tup [sNeed, pl, nr, .int 0] else .non) (g ++ [.dct false [(.str own, .int v)]])) := by
  have e1 := callP_loc (m := m_value_of) (t := .tup [.tup [.int 1, .str own], .tup [.int 1, .int c]]) (i := g.length + 5) (h := HP ns tk kn bg tr .non (g ++ [.dct false [(.str own, .int v)]])) (by simp) HP_last optP_one (v_2 own v c)
  by_cases hv : v + c ≤ 0
  · simp [m_Walk_done_ev, e1, hv, put_fault rfl]
  · simp [m_Walk_done_ev, e1, hv]
theorem done_give {th gn : Nm} {x : D} : m_Walk_done (n + 1) [WK P, .loc 0, .str p, .tup [pl, nr], rGive th gn, x] (HP ns tk kn bg tr fl g) = .ok .non (HP ns tk kn bg tr fl g) := by
  have e : ∀ h : AH, oInA (.str [103, 105, 118, 101]) (.tup [.str [98, 114, 105, 110, 103], .str [100, 111]]) h = some (.bl false) := fun h => by
    simp [oInA, oIn, inD, frz, optL, D.dat, D.datL, D.eqv]
  simp [m_Walk_done_ev, e]
def nextOf (ns : List D) (tk : Int) : Int := if tk ≥ ns.length then 0 else match ns[tk.toNat]? with
  | some (.int i) => i
  | _ => 0
theorem done_take {th : Nm} {x kd : D} {v : Int} {tk' : Int} (hP : P.pur = true) (ht : m_Trail_take [.loc 0] (HP ns tk kn bg tr fl g) = .ok (.int v) (HP ns tk' kn bg tr fl g)) (hm : pc m_maker [P, .str p, .str th] = .ok kd) (hko : keyOk true kd = true) (hz : kn.length < 1000) (hz2 : tr.length < 1000) :
    m_Walk_done (n + 1) [WK P, .loc 0, .str p, .tup [pl, nr], rTake th, x] (HP ns tk kn bg tr fl g) = .ok .non (HP ns tk' (dPut kn kd (.int v)) bg (tr ++ [.tup [sTake, .int v, pl, nr]]) fl g) := by
  have e1 := dict_put (h := HP ns tk' kn bg tr fl g) (i := 1) (k := kd) (v := .int v) HP_1 hko (small hz)
  have e2 := lst_app (i := 4) (h := HP ns tk' (dPut kn kd (.int v)) bg tr fl g) (v := .tup [sTake, .int v, pl, nr]) HP_4 (small hz2)
  have e3 : mthOk "Trail" "take" (.loc 0) (HP ns tk kn bg tr fl g) = true := by
    simp only [mthOk, insAt, HP_0, no_Trail_take]; decide
  simp [m_Walk_done_ev, callM_bad, callM_ok, ok_P, m_PartsWalk_key_of_ev, callP_pur, hP, hm, ht, e1, e2, e3, isL_loc HP_4]
theorem take_0 {ns : List Int} : m_Trail_take [.loc 0] (HP (ns.map D.int) 0 kn bg tr fl g) = .ok (.int (ns.headD 0)) (HP (ns.map D.int) (if ns = [] then 0 else 1) kn bg tr fl g) := by
  have e : ∀ z : Int, putFD ["Trail"] "taken" (.loc 0) (.int z) (HP (ns.map D.int) 0 kn bg tr fl g) = some (HP (ns.map D.int) z kn bg tr fl g) := fun z => by
    simp [putFD, setF]
  cases ns with
  | nil => simp [m_Trail_take_ev]
  | cons i ns =>
    have e2 : ¬ ((ns.length : Int) + 1 ≤ 0) := by omega
    simp at e
    simp [m_Trail_take_ev, e2, e]
theorem done_ask {q : Nm} {x : D} {h' : AH} {d : D} (hq : (dLook bg (.str q)).isSome = false) (hb : m_Walk_begin n [WK P, .loc 0, .str q] (HP ns tk kn bg tr fl g) = .ok d h') :
    m_Walk_done (n + 1) [WK P, .loc 0, .str p, .tup [pl, nr], rAsk q own, x] (HP ns tk kn bg tr fl g) = .ok .non h' := by
  have e1 := dict_nin (h := HP ns tk kn bg tr fl g) (i := 2) (k := .str q) HP_2 keyOk_str
  rw [hq] at e1
  have e3 : mthOk "Trail" "load" (.loc 0) (HP ns tk kn bg tr fl g) = true := by
    simp only [mthOk, insAt, HP_0, no_Trail_load]; decide
  have e4 : m_Trail_load [.loc 0, .tup []] (HP ns tk kn bg tr fl g) = .ok .non (HP ns tk kn bg tr fl g) := by simp [m_Trail_load_ev]
  simp [m_Walk_done_ev, callM_bad, callM_ok, ok_P, e1, e3, e4, m_Walk_loads_of_ev, hb]
end
end Bh

set_option maxHeartbeats 4000000
namespace Bh
open PySem MW
@[simp] theorem eq_non_str {s : List Nat} {h : AH} : oEq .non (.str s) h = some (.bl false) := by simp [oEq, frz, D.dat, D.eqv]
theorem rows_in {q : Nm} (ps : List (Nm × D)) {r : D} (hp : D.purL (ps.map encP) = true) (e : rowsOf ps q = r) : pc m_rows_of [.tup (ps.map encP), .str q] = .ok r := by rw [rows_of_ev hp, e]
def rowsOne (a : Bool) (n1 n2 gn own : Nm) : List D := rBring n1 gn own :: rSay2 own 4 :: rNeed own 2 :: ((if a then [rAsk n2 own] else []) ++ [rSay1 own])
def rowsTwo (sw : Bool) (th gn : Nm) : List D := if sw then [rSayI 8, rTake th, rGive th gn] else [rTake th, rSayI 8, rGive th gn]
section
variable (q gn own th : Nm) (c : Int)
theorem mb_bring : pc m_made_by [rBring q gn own] = .ok .non := pc_ok (h := []) (by simp [m_made_by_ev]) (by simp)
theorem mb_say2 : pc m_made_by [rSay2 own c] = .ok .non := pc_ok (h := []) (by simp [m_made_by_ev]) (by simp)
theorem mb_say1 : pc m_made_by [rSay1 own] = .ok .non := pc_ok (h := []) (by simp [m_made_by_ev]) (by simp)
theorem mb_sayI : pc m_made_by [rSayI c] = .ok .non := pc_ok (h := []) (by simp [m_made_by_ev]) (by simp)
theorem mb_need : pc m_made_by [rNeed own c] = .ok .non := pc_ok (h := []) (by simp [m_made_by_ev]) (by simp)
theorem mb_ask : pc m_made_by [rAsk q own] = .ok .non := pc_ok (h := []) (by simp [m_made_by_ev]) (by simp)
theorem mb_take : pc m_made_by [rTake th] = .ok (.str th) := pc_ok (h := []) (by simp [m_made_by_ev]) (by simp)
theorem mb_give : pc m_made_by [rGive th gn] = .ok .non := pc_ok (h := []) (by simp [m_made_by_ev]) (by simp)
end
section
variable {P : D} {n0 n1 n2 gn own th : Nm} {a sw : Bool} (hP : P.pur = true) (h0 : pc m_rows_of [P, .str n0] = .ok (.tup (rowsOne a n1 n2 gn own))) (h1 : pc m_rows_of [P, .str n1] = .ok (.tup (rowsTwo sw th gn)))
include hP
theorem in_0 (h0 : pc m_rows_of [P, .str n0] = .ok (.tup (rowsOne a n1 n2 gn own))) : pc m_made_in [P, .str n0, .str own] = .ok .non := by
  refine pc_ok (h := []) ?_ (by simp)
  cases a <;> simp [m_made_in_ev, callP_pur, hP, h0, rowsOne, enumFrom, mb_bring, mb_say2, mb_say1, mb_need, mb_ask]
theorem in_1 (h1 : pc m_rows_of [P, .str n1] = .ok (.tup (rowsTwo sw th gn))) : pc m_made_in [P, .str n1, .str th] = .ok (.int (if sw then 1 else 0)) := by
  refine pc_ok (h := []) ?_ (by simp)
  cases sw <;> simp [m_made_in_ev, callP_pur, hP, h1, rowsTwo, enumFrom, mb_sayI, mb_take, mb_give]
theorem br_0 (h0 : pc m_rows_of [P, .str n0] = .ok (.tup (rowsOne a n1 n2 gn own))) : pc m_brought_from [P, .str n0, .str own] = .ok (.tup [.str n1, .str gn]) := by
  refine pc_ok (h := []) ?_ (by simp)
  simp [m_brought_from_ev, callP_pur, hP, h0, rowsOne]
theorem ga_1 (h1 : pc m_rows_of [P, .str n1] = .ok (.tup (rowsTwo sw th gn))) : pc m_given_as [P, .str n1, .str gn] = .ok (.str th) := by
  refine pc_ok (h := []) ?_ (by simp)
  cases sw <;> simp [m_given_as_ev, callP_pur, hP, h1, rowsTwo]
include h0 h1
theorem on_0 : pc m_onward [P, .str n0, .str own] = .ok (.tup [.str n1, .str th]) := by
  refine pc_ok (h := []) ?_ (by simp)
  simp [m_onward_ev, callP_pur, hP, in_0 hP h0, br_0 hP h0, ga_1 hP h1]
theorem mk_0 : pc m_maker [P, .str n0, .str own] = .ok (.tup [.str n1, .int (if sw then 1 else 0)]) := by
  refine pc_ok (h := []) ?_ (by simp)
  simp [m_maker_ev, callP_pur, hP, in_0 hP h0, in_1 hP h1, on_0 hP h0 h1]
omit h0 in
theorem mk_1 : pc m_maker [P, .str n1, .str th] = .ok (.tup [.str n1, .int (if sw then 1 else 0)]) := by
  refine pc_ok (h := []) ?_ (by simp)
  simp [m_maker_ev, callP_pur, hP, in_1 hP h1]
end
end Bh

set_option maxHeartbeats 4000000
namespace Bh
open PySem MW
/-! ### PartsWalk.rows_of -/
def trip (q : Nm) : Nat → List D → List D
  | _, [] => []
  | i, r :: rs => .tup [.str q, .int (i : Nat), r] :: trip q (i + 1) rs
theorem comp_trip {W nm : D} {q : Nm} {c : Option D} {h : AH} : ∀ (rs pre : List D), compL noG (gN 4) [4] mYes (mTup [(mVar 1), (mVar 4), (mBin oIx (mVar 3) (mVar 4))]) (intsFrom (pre.length : Nat) rs.length) [some W, some (.str q), some nm, some (.tup (pre ++ rs)), c] h = .ok (trip q pre.length rs) h
  | [], pre => by simp [trip]
  | r :: rs, pre => by
    have ih := comp_trip (W := W) (nm := nm) (q := q) (c := c) (h := h) rs (pre ++ [r])
    have e : oIx (.tup (pre ++ r :: rs)) (.int (pre.length : Nat)) h = some r := ix_tup (by rw [atI_nat]; simp)
    have e2 : ((pre.length : Nat) : Int) + 1 = ((pre ++ [r]).length : Nat) := by simp
    simp only [List.append_assoc, List.singleton_append] at ih
    rw [List.length_cons, intsFrom_s, e2]
    simp only [compL_consN, wipeA_cons, wipeA_nil, gN_ev, cG_some, kc1_ev, mYes_ev, R.bd_ok, kc2_t]
    simp [e, trip]
    simp at ih
    simp [ih]
theorem okR_len {n : Nat} (e : n ≤ 1000) : okR (n : Nat) = true := by
  unfold okR
  exact decide_eq_true ⟨by omega, by omega⟩
theorem comp_rows {W nm : D} {q : Nm} {c : Option D} {h : AH} {rs : List D} (hz : rs.length ≤ 1000) : mComp (mRange [(mB oLen [(mVar 3)])]) (gN 4) [4] mYes (mTup [(mVar 1), (mVar 4), (mBin oIx (mVar 3) (mVar 4))]) [some W, some (.str q), some nm, some (.tup rs), c] h = .ok (.lst (trip q 0 rs)) h := by
  have e1 := comp_trip (W := W) (nm := nm) (q := q) (c := c) (h := h) rs []
  have e3 : (intsFrom 0 rs.length).length ≤ sizeLine := by rw [intsFrom_length]; exact size1000 hz
  have e4 : mRange [(mB oLen [(mVar 3)])] [some W, some (.str q), some nm, some (.tup rs), c] h = .ok (intsFrom 0 rs.length, noG) h := by
    have e5 : mArgs [(mB oLen [(mVar 3)])] [some W, some (.str q), some nm, some (.tup rs), c] h = .ok [.int rs.length] h := by simp
    rw [mRange_ev, e5, R.bd_ok, rangeK_1 (okR_len hz)]
    rfl
  rw [mComp_ev, e4, R.bd_ok, kL_ev e3]
  simp only [List.length_nil, List.nil_append] at e1
  rw [show ((0 : Nat) : Int) = 0 from rfl] at e1
  rw [e1]
  rfl
theorem prow_loop {W : D} {q : Nm} {rs : List D} (hz : rs.length ≤ 1000) (ps : List (Nm × D)) (hr : rowsOf ps q = .tup rs) (a b c : Option D) (h : AH) :
    (forL noG (gT [gN 2, gN 3]) f1_PartsWalk_rows_of (ps.map encP) [some W, some (.str q), a, b, c] h).seq (mRet (mTup [])) = .rt (.tup (trip q 0 rs)) h := by
  induction ps generalizing a b with
  | nil =>
    simp [rowsOf] at hr
    subst hr
    simp [trip]
  | cons x ps ih =>
    obtain ⟨n, r⟩ := x
    by_cases e : n = q
    · subst e
      simp [rowsOf] at hr
      subst hr
      simp [-mComp_ev, encP, comp_rows hz]
    · simp [rowsOf, e] at hr
      simp [encP, e, ih hr]
theorem prows {ps : List (Nm × D)} {q : Nm} {rs : List D} (hz : rs.length ≤ 1000) (hr : rowsOf ps q = .tup rs) {h : AH} : m_PartsWalk_rows_of [WK (.tup (ps.map encP)), .str q] h = .ok (.tup (trip q 0 rs)) h := by
  simp [m_PartsWalk_rows_of_ev, prow_loop hz ps hr]
/-! ### begin -/
section
variable {P : D} {q : Nm} {ns : List D} {tk : Int} {kn bg : List (D × D)} {tr : List D} {fl : D} {g : AH} {n : Nat} {rs : List D}
/-- begin is its rows' loop -/
theorem begin_ev (hb : (dLook bg (.str q)).isSome = false) (hz : bg.length < 1000) (hr : ∀ h, m_PartsWalk_rows_of [WK P, .str q] h = .ok (.tup (trip q 0 rs)) h) :
    m_Walk_begin (n + 1) [WK P, .loc 0, .str q] (HP ns tk kn bg tr fl g) = (forL noG (gT [gN 3, gN 4, gN 5]) (f1_Walk_begin (r_walk_done n)) (trip q 0 rs) [some (WK P), some (.loc 0), some (.str q), none, none, none, none] (HP ns tk kn (dPut bg (.str q) (.bl true)) tr fl g)).fin := by
  have e1 := dict_in (h := HP ns tk kn bg tr fl g) (i := 2) (k := .str q) HP_2 keyOk_str
  rw [hb] at e1
  have e2 := dict_put (h := HP ns tk kn bg tr fl g) (i := 2) (k := .str q) (v := .bl true) HP_2 keyOk_str (small hz)
  simp [m_Walk_begin_ev, e1, e2, callM_bad, callM_ok, ok_P, hr]
end
end Bh

set_option maxHeartbeats 4000000
namespace Bh
open PySem MW
section
variable {P p sp : D} {q n0 n1 n2 gn own th : Nm} {ns : List D} {tk : Int} {kn bg : List (D × D)} {tr : List D} {fl : D} {g : AH} {v c : Int} {n : Nat} {a sw : Bool}
theorem f_bring : m_Walk_found_by [WK P, .loc 0, p, sp, rBring q gn own] (HP ns tk kn bg tr fl g) = .ok (.loc (g.length + 5)) (HP ns tk kn bg tr fl (g ++ [.dct false []])) := found0 (by simp) (w_bring q gn own) (n_bring q gn own)
theorem f_sayI : m_Walk_found_by [WK P, .loc 0, p, sp, rSayI c] (HP ns tk kn bg tr fl g) = .ok (.loc (g.length + 5)) (HP ns tk kn bg tr fl (g ++ [.dct false []])) := found0 (by simp) (w_sayI c) (n_sayI c)
theorem f_take : m_Walk_found_by [WK P, .loc 0, p, sp, rTake th] (HP ns tk kn bg tr fl g) = .ok (.loc (g.length + 5)) (HP ns tk kn bg tr fl (g ++ [.dct false []])) := found0 (by simp) (w_take th) (n_take th)
theorem f_give : m_Walk_found_by [WK P, .loc 0, p, sp, rGive th gn] (HP ns tk kn bg tr fl g) = .ok (.loc (g.length + 5)) (HP ns tk kn bg tr fl (g ++ [.dct false []])) := found0 (by simp) (w_give gn th) (n_give gn th)
abbrev keyAt (n1 : Nm) (sw : Bool) : D := .tup [.str n1, .int (if sw then 1 else 0)]
theorem key_ok : keyOk true (keyAt n1 sw) = true := by simp [keyOk]
abbrev kn1 (n1 : Nm) (sw : Bool) (v : Int) : List (D × D) := [(keyAt n1 sw, .int v)]
theorem f_say2 (hP : P.pur = true) (hm : pc m_maker [P, .str n0, .str own] = .ok (keyAt n1 sw)) : m_Walk_found_by [WK P, .loc 0, .str n0, sp, rSay2 own c] (HP ns tk (kn1 n1 sw v) bg tr fl g) = .ok (.loc (g.length + 5)) (HP ns tk (kn1 n1 sw v) bg tr fl (g ++ [.dct false [(.str own, .int v)]])) := by
  have := found1 (P := P) (p := n0) (sp := sp) (ns := ns) (tk := tk) (bg := bg) (tr := tr) (fl := fl) (g := g) (by simp) hP (w_say2 own c) (n_say2 own c) hm key_ok (dLook_one (v := .int v)) (.inl rfl)
  simpa using this
theorem f_say1 (hP : P.pur = true) (hm : pc m_maker [P, .str n0, .str own] = .ok (keyAt n1 sw)) : m_Walk_found_by [WK P, .loc 0, .str n0, sp, rSay1 own] (HP ns tk (kn1 n1 sw v) bg tr fl g) = .ok (.loc (g.length + 5)) (HP ns tk (kn1 n1 sw v) bg tr fl (g ++ [.dct false [(.str own, .int v)]])) := by
  have := found1 (P := P) (p := n0) (sp := sp) (ns := ns) (tk := tk) (bg := bg) (tr := tr) (fl := fl) (g := g) (by simp) hP (w_say1 own) (n_say1 own) hm key_ok (dLook_one (v := .int v)) (.inl rfl)
  simpa using this
theorem f_need (hP : P.pur = true) (hm : pc m_maker [P, .str n0, .str own] = .ok (keyAt n1 sw)) : m_Walk_found_by [WK P, .loc 0, .str n0, sp, rNeed own c] (HP ns tk (kn1 n1 sw v) bg tr fl g) = .ok (.loc (g.length + 5)) (HP ns tk (kn1 n1 sw v) bg tr fl (g ++ [.dct false [(.str own, .int v)]])) := by
  have := found1 (P := P) (p := n0) (sp := sp) (ns := ns) (tk := tk) (bg := bg) (tr := tr) (fl := fl) (g := g) (by simp) hP (w_need own c) (n_need own c) hm key_ok (dLook_one (v := .int v)) (.inl rfl)
  simpa using this
theorem f_ask (hP : P.pur = true) (hm : pc m_maker [P, .str n0, .str own] = .ok (keyAt n1 sw)) : m_Walk_found_by [WK P, .loc 0, .str n0, sp, rAsk q own] (HP ns tk (kn1 n1 sw v) bg tr fl g) = .ok (if v ≤ 0 then .non else .loc (g.length + 5)) (HP ns tk (kn1 n1 sw v) bg tr fl (g ++ [.dct false [(.str own, .int v)]])) := by
  have := found1 (P := P) (p := n0) (sp := sp) (ns := ns) (tk := tk) (bg := bg) (tr := tr) (fl := fl) (g := g) (by simp) hP (w_ask q own) (n_ask q own) hm key_ok (dLook_one (v := .int v)) (.inr rfl)
  simpa using this
/-! the third part -/
def thirdAt (q : Nm) : Nat → List Int → List D
  | _, [] => []
  | i, c :: cs => .tup [sSay, .int c, .str q, .int (i : Nat)] :: thirdAt q (i + 1) cs
theorem thirdAt_length : ∀ (cs : List Int) (i : Nat), (thirdAt q i cs).length = cs.length
  | [], _ => rfl
  | _ :: cs, i => by simp [thirdAt, thirdAt_length cs]
theorem loop_three (cs : List Int) : ∀ (i : Nat) (tr : List D) (g : AH) (x y z w : Option D) (hz : tr.length + cs.length < 1000), ∃ (σ : SL) (g' : AH),
    forL noG (gT [gN 3, gN 4, gN 5]) (f1_Walk_begin (r_walk_done (n + 1))) (trip q i (cs.map rSayI)) [some (WK P), some (.loc 0), some (.str q), x, y, z, w] (HP ns tk kn bg tr .non g) = .nx σ (HP ns tk kn bg (tr ++ thirdAt q i cs) .non g') := by
  induction cs with
  | nil => exact fun i tr g x y z w hz => ⟨_, _, by simp [trip, thirdAt]; exact ⟨rfl, rfl⟩⟩
  | cons c cs ih =>
    intro i tr g x y z w hz
    simp only [List.length_cons] at hz
    obtain ⟨σ, g', e⟩ := ih (i + 1) (tr ++ [.tup [sSay, .int c, .str q, .int (i : Nat)]]) (g ++ [.dct false []]) (some (.str q)) (some (.int (i : Nat))) (some (rSayI c)) (some (.loc (g.length + 5))) (by simp; omega)
    refine ⟨σ, g', ?_⟩
    have e1 := done_sayI (P := P) (p := q) (pl := .str q) (nr := .int (i : Nat)) (ns := ns) (tk := tk) (kn := kn) (bg := bg) (tr := tr) (fl := .non) (g := g) (c := c) (n := n) (by omega)
    simp [trip, thirdAt, callM_bad, callM_ok, ok_P, f_sayI, e1]
    simp at e
    simp [e]
theorem beg_three {cs : List Int} (hb : (dLook bg (.str n2)).isSome = false) (hz : bg.length < 1000) (hr : ∀ h, m_PartsWalk_rows_of [WK P, .str n2] h = .ok (.tup (trip n2 0 (cs.map rSayI))) h) (ht : tr.length + cs.length < 1000) : ∃ g' : AH,
    m_Walk_begin (n + 2) [WK P, .loc 0, .str n2] (HP ns tk kn bg tr .non g) = .ok .non (HP ns tk kn (dPut bg (.str n2) (.bl true)) (tr ++ thirdAt n2 0 cs) .non g') := by
  obtain ⟨σ, g', e⟩ := loop_three (n := n) (P := P) (q := n2) (ns := ns) (tk := tk) (kn := kn) (bg := dPut bg (.str n2) (.bl true)) cs 0 tr g none none none none ht
  exact ⟨g', by rw [begin_ev hb hz hr, e]; rfl⟩
/-! the second -/
def second (n1 : Nm) (sw : Bool) (v : Int) : List D := if sw then [.tup [sSay, .int 8, .str n1, .int 0], .tup [sTake, .int v, .str n1, .int 1]] else [.tup [sTake, .int v, .str n1, .int 0], .tup [sSay, .int 8, .str n1, .int 1]]
theorem beg_two {nums : List Int} (hP : P.pur = true) (hm : pc m_maker [P, .str n1, .str th] = .ok (keyAt n1 sw)) (hb : (dLook bg (.str n1)).isSome = false) (hz : bg.length < 1000) (hr : ∀ h, m_PartsWalk_rows_of [WK P, .str n1] h = .ok (.tup (trip n1 0 (rowsTwo sw th gn))) h) (ht : tr.length < 900) : ∃ (g' : AH) (tk' : Int),
    m_Walk_begin (n + 2) [WK P, .loc 0, .str n1] (HP (nums.map D.int) 0 [] bg tr .non g) = .ok .non (HP (nums.map D.int) tk' (kn1 n1 sw (nums.headD 0)) (dPut bg (.str n1) (.bl true)) (tr ++ second n1 sw (nums.headD 0)) .non g') := by
  refine ⟨g ++ [.dct false []] ++ [.dct false []] ++ [.dct false []], if nums = [] then 0 else 1, ?_⟩
  rw [begin_ev hb hz hr]
  cases sw with
  | false =>
    have e1 := done_take (P := P) (p := n1) (pl := .str n1) (nr := .int 0) (n := n) (x := .loc (g.length + 5)) hP (take_0 (kn := []) (bg := dPut bg (.str n1) (.bl true)) (tr := tr) (fl := .non) (g := g ++ [.dct false []]) (ns := nums)) hm key_ok (by decide) (by omega)
    have e2 := done_sayI (P := P) (p := n1) (pl := .str n1) (nr := .int 1) (ns := nums.map D.int) (tk := if nums = [] then 0 else 1) (kn := kn1 n1 false (nums.headD 0)) (bg := dPut bg (.str n1) (.bl true)) (tr := tr ++ [.tup [sTake, .int (nums.headD 0), .str n1, .int 0]]) (fl := .non) (g := g ++ [.dct false []]) (c := 8) (n := n) (by simp; omega)
    simp at e1 e2
    simp [trip, rowsTwo, second, callM_bad, callM_ok, ok_P, f_sayI, f_take, f_give, e1, e2, done_give]
  | true =>
    have e2 := done_sayI (P := P) (p := n1) (pl := .str n1) (nr := .int 0) (ns := nums.map D.int) (tk := 0) (kn := []) (bg := dPut bg (.str n1) (.bl true)) (tr := tr) (fl := .non) (g := g) (c := 8) (n := n) (by omega)
    have e1 := done_take (P := P) (p := n1) (pl := .str n1) (nr := .int 1) (n := n) (x := .loc (g.length + 6)) hP (take_0 (kn := []) (bg := dPut bg (.str n1) (.bl true)) (tr := tr ++ [.tup [sSay, .int 8, .str n1, .int 0]]) (fl := .non) (g := g ++ [.dct false []] ++ [.dct false []]) (ns := nums)) hm key_ok (by decide) (by simp; omega)
    simp at e1 e2
    simp [trip, rowsTwo, second, callM_bad, callM_ok, ok_P, f_sayI, f_take, f_give, e1, e2, done_give]
end
end Bh

set_option maxHeartbeats 4000000
namespace Bh
open PySem MW
section
variable {P p sp : D} {n0 n1 n2 gn own th : Nm} {v c : Int} {n : Nat} {a sw : Bool} {nums cs : List Int}
/-- the first part's deeds, its fault -/
def first (n0 : Nm) (own2 : List D) (a : Bool) (n2 : Nm) (cs : List Int) (v : Int) : List D × D :=
  if v + 2 ≤ 0 then (own2 ++ [.tup [sSay, .int (v + 4), .str n0, .int 1]], .tup [sNeed, .str n0, .int 2, .int 0])
  else (own2 ++ [.tup [sSay, .int (v + 4), .str n0, .int 1]] ++ (if a = true ∧ 0 < v then thirdAt n2 0 cs else []) ++ [.tup [sSay, .int v, .str n0, .int (if a then 4 else 3)]], .non)
theorem beg_one (hP : P.pur = true) (hm0 : pc m_maker [P, .str n0, .str own] = .ok (keyAt n1 sw)) (hm1 : pc m_maker [P, .str n1, .str th] = .ok (keyAt n1 sw)) (h01 : n0 ≠ n1) (h02 : n0 ≠ n2) (h12 : n1 ≠ n2)
    (hr0 : ∀ h, m_PartsWalk_rows_of [WK P, .str n0] h = .ok (.tup (trip n0 0 (rowsOne a n1 n2 gn own))) h) (hr1 : ∀ h, m_PartsWalk_rows_of [WK P, .str n1] h = .ok (.tup (trip n1 0 (rowsTwo sw th gn))) h)
    (hr2 : a = true → ∀ h, m_PartsWalk_rows_of [WK P, .str n2] h = .ok (.tup (trip n2 0 (cs.map rSayI))) h) (hcs : cs.length ≤ 60) : ∃ (g' : AH) (tk' : Int) (bg' : List (D × D)),
    m_Walk_begin (n + 4) [WK P, .loc 0, .str n0] (HP (nums.map D.int) 0 [] [] [] .non []) = .ok .non (HP (nums.map D.int) tk' (kn1 n1 sw (nums.headD 0)) bg' (first n0 (second n1 sw (nums.headD 0)) a n2 cs (nums.headD 0)).1 (first n0 (second n1 sw (nums.headD 0)) a n2 cs (nums.headD 0)).2 g') := by
  have hl2 : (second n1 sw (nums.headD 0)).length = 2 := by cases sw <;> rfl
  obtain ⟨g1, tk1, e1⟩ := beg_two (n := n) (P := P) (bg := [(.str n0, .bl true)]) (tr := []) (g := [.dct false []]) (nums := nums) hP hm1 (by simp [dLook, h01]) (by simp) hr1 (by simp)
  have eb : dPut [(D.str n0, D.bl true)] (.str n1) (.bl true) = [(.str n0, .bl true), (.str n1, .bl true)] := by simp [dPut, h01]
  rw [eb] at e1
  rw [begin_ev (by rfl) (by decide) hr0]
  generalize hv : nums.headD 0 = v at *
  generalize hs : second n1 sw v = sec at *
  simp only [List.nil_append] at e1
  have d1 := done_bring (P := P) (p := .str n0) (pl := .str n0) (nr := .int 0) (x := .tup [.tup [.str gn, .str own]]) (th := .loc 5) e1
  have d2 := done_say2 (P := P) (p := n0) (pl := .str n0) (nr := .int 1) (ns := nums.map D.int) (tk := tk1) (kn := kn1 n1 sw v) (bg := [(.str n0, .bl true), (.str n1, .bl true)]) (tr := sec) (fl := .non) (g := g1) (own := own) (v := v) (c := 4) (n := n + 2) (by omega)
  have d3 := done_need (P := P) (p := n0) (pl := .str n0) (nr := .int 2) (ns := nums.map D.int) (tk := tk1) (kn := kn1 n1 sw v) (bg := [(.str n0, .bl true), (.str n1, .bl true)]) (tr := sec ++ [.tup [sSay, .int (v + 4), .str n0, .int 1]]) (g := g1 ++ [.dct false [(.str own, .int v)]]) (own := own) (v := v) (c := 2) (n := n + 2)
  simp at d1 d2 d3
  by_cases hf : v + 2 ≤ 0
  · refine ⟨g1 ++ [.dct false [(.str own, .int v)], .dct false [(.str own, .int v)]], tk1, [(.str n0, .bl true), (.str n1, .bl true)], ?_⟩
    simp [hf] at d3
    simp [trip, rowsOne, first, callM_bad, callM_ok, ok_P, f_bring, d1, f_say2 hP hm0, d2, f_need hP hm0, d3, hf]
  · simp [hf] at d3
    cases a with
    | false =>
      have d5 := done_say1 (P := P) (p := n0) (pl := .str n0) (nr := .int 3) (ns := nums.map D.int) (tk := tk1) (kn := kn1 n1 sw v) (bg := [(.str n0, .bl true), (.str n1, .bl true)]) (tr := sec ++ [.tup [sSay, .int (v + 4), .str n0, .int 1]]) (fl := .non) (g := g1 ++ [.dct false [(.str own, .int v)]] ++ [.dct false [(.str own, .int v)]]) (own := own) (v := v) (n := n + 2) (by simp; omega)
      simp at d5
      refine ⟨g1 ++ [.dct false [(.str own, .int v)], .dct false [(.str own, .int v)], .dct false [(.str own, .int v)]], tk1, [(.str n0, .bl true), (.str n1, .bl true)], ?_⟩
      simp [trip, rowsOne, first, callM_bad, callM_ok, ok_P, f_bring, d1, f_say2 hP hm0, d2, f_need hP hm0, d3, hf, f_say1 hP hm0, d5]
    | true =>
      by_cases h0 : v ≤ 0
      · have d5 := done_say1 (P := P) (p := n0) (pl := .str n0) (nr := .int 4) (ns := nums.map D.int) (tk := tk1) (kn := kn1 n1 sw v) (bg := [(.str n0, .bl true), (.str n1, .bl true)]) (tr := sec ++ [.tup [sSay, .int (v + 4), .str n0, .int 1]]) (fl := .non) (g := g1 ++ [.dct false [(.str own, .int v)]] ++ [.dct false [(.str own, .int v)]] ++ [.dct false [(.str own, .int v)]]) (own := own) (v := v) (n := n + 2) (by simp; omega)
        simp at d5
        have h0' : ¬ 0 < v := by omega
        refine ⟨g1 ++ [.dct false [(.str own, .int v)], .dct false [(.str own, .int v)], .dct false [(.str own, .int v)], .dct false [(.str own, .int v)]], tk1, [(.str n0, .bl true), (.str n1, .bl true)], ?_⟩
        simp [trip, rowsOne, first, callM_bad, callM_ok, ok_P, f_bring, d1, f_say2 hP hm0, d2, f_need hP hm0, d3, hf, f_ask hP hm0, h0, h0', f_say1 hP hm0, d5]
      · obtain ⟨g3, e3⟩ := beg_three (n := n) (P := P) (n2 := n2) (ns := nums.map D.int) (tk := tk1) (kn := kn1 n1 sw v) (bg := [(.str n0, .bl true), (.str n1, .bl true)]) (tr := sec ++ [.tup [sSay, .int (v + 4), .str n0, .int 1]]) (g := g1 ++ [.dct false [(.str own, .int v)]] ++ [.dct false [(.str own, .int v)]] ++ [.dct false [(.str own, .int v)]]) (cs := cs) (by simp [dLook, h02, h12]) (by simp) (hr2 rfl) (by simp; omega)
        have d4 := done_ask (p := n0) (pl := .str n0) (nr := .int 3) (own := own) (x := .loc (g1.length + 7)) (by simp [dLook, h02, h12]) e3
        have d5 := done_say1 (P := P) (p := n0) (pl := .str n0) (nr := .int 4) (ns := nums.map D.int) (tk := tk1) (kn := kn1 n1 sw v) (bg := dPut [(.str n0, .bl true), (.str n1, .bl true)] (.str n2) (.bl true)) (tr := sec ++ [.tup [sSay, .int (v + 4), .str n0, .int 1]] ++ thirdAt n2 0 cs) (fl := .non) (g := g3) (own := own) (v := v) (n := n + 2) (by simp [thirdAt_length]; omega)
        simp at d4 d5
        have h0' : 0 < v := by omega
        refine ⟨g3 ++ [.dct false [(.str own, .int v)]], tk1, dPut [(.str n0, .bl true), (.str n1, .bl true)] (.str n2) (.bl true), ?_⟩
        simp [trip, rowsOne, first, callM_bad, callM_ok, ok_P, f_bring, d1, f_say2 hP hm0, d2, f_need hP hm0, d3, hf, f_ask hP hm0, h0, h0', d4, f_say1 hP hm0, d5]
end
end Bh

set_option maxHeartbeats 4000000
namespace Bh
open PySem MW
/-! ### go -/
theorem go_ev {P : D} {q : Nm} {nums : List Int} {kn bg : List (D × D)} {tr : List D} {fl : D} {g : AH} {tk : Int} (hb : m_Walk_begin 8 [WK P, .loc 0, .str q] (HP (nums.map D.int) 0 [] [] [] .non []) = .ok .non (HP (nums.map D.int) tk kn bg tr fl g)) :
    m_Walk_go [WK P, .str q, .tup (nums.map D.int)] [] = .ok (.tup [.tup tr, fl]) (HP (nums.map D.int) tk kn bg tr fl g) := by
  have e0 : m_Trail___init__ [.loc 0, .tup (nums.map D.int)] [.ins "Trail" L_Trail []] = .ok .non (HP (nums.map D.int) 0 [] [] [] .non []) := by
    simp [m_Trail___init___ev, putFD, setF, HP]
  have e3 : mthOk "Trail" "load" (.loc 0) (HP (nums.map D.int) 0 [] [] [] .non []) = true := by
    simp only [mthOk, insAt, HP_0, no_Trail_load]; decide
  have e4 : m_Trail_load [.loc 0, .tup []] (HP (nums.map D.int) 0 [] [] [] .non []) = .ok .non (HP (nums.map D.int) 0 [] [] [] .non []) := by simp [m_Trail_load_ev]
  have e5 : oTuple [.loc 4] (HP (nums.map D.int) tk kn bg tr fl g) = some (.tup tr) := oTuple_loc HP_4
  simp [m_Walk_go_ev, callM_bad, callM_ok, ok_P, e0, e3, e4, m_Walk_loads_of_ev, m_Walk_ahead_of_ev, hb, e5]
/-! ### what is due -/
structure Sh where
  n0 : Nm
  n1 : Nm
  n2 : Nm
  gn : Nm
  own : Nm
  th : Nm
  sw : Bool
  cs : List Int
structure Sh.Ok (s : Sh) : Prop where
  h01 : s.n0 ≠ s.n1
  h02 : s.n0 ≠ s.n2
  h12 : s.n1 ≠ s.n2
  hcs : s.cs.length ≤ 60
/-- three parts, or two and no ask -/
def Sh.ps (s : Sh) : Bool → List (Nm × D)
  | true => [(s.n0, .tup (rowsOne true s.n1 s.n2 s.gn s.own)), (s.n1, .tup (rowsTwo s.sw s.th s.gn)), (s.n2, .tup (s.cs.map rSayI))]
  | false => [(s.n0, .tup (rowsOne false s.n1 s.n2 s.gn s.own)), (s.n1, .tup (rowsTwo s.sw s.th s.gn))]
def Sh.P (s : Sh) (a : Bool) : D := .tup ((s.ps a).map encP)
def Sh.Q (s : Sh) (a : Bool) : D := .lst ((s.ps a).map encP)
def Sh.nm (s : Sh) : Nat → Nm
  | 0 => s.n0
  | 1 => s.n1
  | _ => s.n2
def Sh.due (s : Sh) (a : Bool) (v : Int) : Nat → List D × D
  | 0 => first s.n0 (second s.n1 s.sw v) a s.n2 s.cs v
  | 1 => (second s.n1 s.sw v, .non)
  | _ => (thirdAt s.n2 0 s.cs, .non)
section
variable {s : Sh} (ok : s.Ok) {a : Bool} {nums : List Int}
theorem rowsTwo_pur {sw : Bool} {th gn : Nm} : D.purL (rowsTwo sw th gn) = true := by cases sw <;> simp [rowsTwo]
theorem rowsOne_pur {n1 n2 gn own : Nm} : D.purL (rowsOne a n1 n2 gn own) = true := by cases a <;> simp [rowsOne]
theorem three_pur {cs : List Int} : D.purL (cs.map rSayI) = true := purL_map (by simp) cs
theorem ps_pur : D.purL ((s.ps a).map encP) = true := by cases a <;> simp [Sh.ps, encP, rowsOne_pur, rowsTwo_pur, three_pur]
theorem P_pur : (s.P a).pur = true := by simp [Sh.P, ps_pur]
include ok
theorem r_0 : rowsOf (s.ps a) s.n0 = .tup (rowsOne a s.n1 s.n2 s.gn s.own) := by cases a <;> simp [Sh.ps, rowsOf]
theorem r_1 : rowsOf (s.ps a) s.n1 = .tup (rowsTwo s.sw s.th s.gn) := by cases a <;> simp [Sh.ps, rowsOf, ok.h01]
theorem r_2 : rowsOf (s.ps true) s.n2 = .tup (s.cs.map rSayI) := by simp [Sh.ps, rowsOf, ok.h02, ok.h12]
theorem m_0 : pc m_maker [s.P a, .str s.n0, .str s.own] = .ok (keyAt s.n1 s.sw) := mk_0 P_pur (by rw [Sh.P, rows_of_ev ps_pur, r_0 ok]) (by rw [Sh.P, rows_of_ev ps_pur, r_1 ok])
theorem m_1 : pc m_maker [s.P a, .str s.n1, .str s.th] = .ok (keyAt s.n1 s.sw) := mk_1 P_pur (by rw [Sh.P, rows_of_ev ps_pur, r_1 ok])
theorem pr_0 (h : AH) : m_PartsWalk_rows_of [WK (s.P a), .str s.n0] h = .ok (.tup (trip s.n0 0 (rowsOne a s.n1 s.n2 s.gn s.own))) h := prows (by cases a <;> simp [rowsOne]) (r_0 ok)
theorem pr_1 (h : AH) : m_PartsWalk_rows_of [WK (s.P a), .str s.n1] h = .ok (.tup (trip s.n1 0 (rowsTwo s.sw s.th s.gn))) h := prows (by cases s.sw <;> simp [rowsTwo]) (r_1 ok)
theorem pr_2 (h : AH) : m_PartsWalk_rows_of [WK (s.P true), .str s.n2] h = .ok (.tup (trip s.n2 0 (s.cs.map rSayI))) h := prows (by have := ok.hcs; simp; omega) (r_2 ok)
theorem go_all (r : Nat) (hr : r < 3) (ha : a = false → r < 2) : ∃ h', m_Walk_go [WK (s.P a), .str (s.nm r), .tup (nums.map D.int)] [] = .ok (.tup [.tup (s.due a (nums.headD 0) r).1, (s.due a (nums.headD 0) r).2]) h' := by
  match r, hr with
  | 0, _ =>
    obtain ⟨g', tk', bg', e⟩ := beg_one (n := 4) (nums := nums) P_pur (m_0 ok) (m_1 ok) ok.h01 ok.h02 ok.h12 (pr_0 ok) (pr_1 ok) (a := a) (cs := s.cs) (fun e => by subst e; exact pr_2 ok) ok.hcs
    exact ⟨_, go_ev e⟩
  | 1, _ =>
    obtain ⟨g', tk', e⟩ := beg_two (n := 6) (nums := nums) (bg := []) (tr := []) (g := []) (P_pur (s := s) (a := a)) (m_1 ok) rfl (by simp) (pr_1 ok) (by simp)
    simp only [List.nil_append] at e
    exact ⟨_, go_ev e⟩
  | 2, _ =>
    cases a with
    | false => exact absurd (ha rfl) (by decide)
    | true =>
      obtain ⟨g', e⟩ := beg_three (n := 6) (P := s.P true) (n2 := s.n2) (ns := nums.map D.int) (tk := 0) (kn := []) (bg := []) (tr := []) (g := []) (cs := s.cs) rfl (by simp) (pr_2 ok) (by have := ok.hcs; simp; omega)
      simp only [List.nil_append] at e
      exact ⟨_, go_ev e⟩
end
end Bh

set_option maxHeartbeats 4000000
namespace Bh
open PySem MW
/-! ### deeds -/
def isDeed (d : D) : Prop := ∃ (s t : Nm) (i j : Int), d = .tup [.str s, .int i, .str t, .int j]
theorem deed_third {q : Nm} : ∀ (cs : List Int) (i : Nat), ∀ d ∈ thirdAt q i cs, isDeed d
  | [], _, d, h => by simp [thirdAt] at h
  | c :: cs, i, d, h => by
    simp only [thirdAt, List.mem_cons] at h
    rcases h with rfl | h
    · exact ⟨_, _, _, _, rfl⟩
    · exact deed_third cs (i + 1) d h
theorem deed_second {n1 : Nm} {sw : Bool} {v : Int} : ∀ d ∈ second n1 sw v, isDeed d := by
  intro d h
  cases sw <;> simp [second] at h <;> rcases h with rfl | rfl <;> exact ⟨_, _, _, _, rfl⟩
theorem deed_first {n0 n2 : Nm} {own2 : List D} {a : Bool} {cs : List Int} {v : Int} (h2 : ∀ d ∈ own2, isDeed d) : ∀ d ∈ (first n0 own2 a n2 cs v).1, isDeed d := by
  intro d h
  unfold first at h
  split at h
  · simp at h
    rcases h with h | rfl
    · exact h2 d h
    · exact ⟨_, _, _, _, rfl⟩
  · simp at h
    rcases h with h | rfl | h | rfl
    · exact h2 d h
    · exact ⟨_, _, _, _, rfl⟩
    · exact deed_third cs 0 d h.2
    · exact ⟨_, _, _, _, rfl⟩
theorem deed_due {s : Sh} {a : Bool} {v : Int} (r : Nat) : ∀ d ∈ (s.due a v r).1, isDeed d := by
  match r with
  | 0 => exact deed_first deed_second
  | 1 => exact deed_second
  | _ + 2 => exact deed_third s.cs 0
/-- no fault, or a need's -/
theorem fault_due {s : Sh} {a : Bool} {v : Int} (r : Nat) : (s.due a v r).2 = .non ∨ (s.due a v r).2 = .tup [sNeed, .str s.n0, .int 2, .int 0] := by
  match r with
  | 0 =>
    by_cases hv : v + 2 ≤ 0
    · exact .inr (by simp [Sh.due, first, hv])
    · exact .inl (by simp [Sh.due, first, hv])
  | 1 => exact .inl rfl
  | _ + 2 => exact .inl (by simp [Sh.due])
theorem deeds_nob {n : Nat} {ds : List D} (h : ∀ d ∈ ds, isDeed d) : D.nobL (n + 3) ds = true := by
  rw [nobL_iff]
  intro d hd
  obtain ⟨_, _, _, _, rfl⟩ := h d hd
  simp
theorem ans_nob {ds : List D} {f : D} {n0 : Nm} (h : ∀ d ∈ ds, isDeed d) (hf : f = .non ∨ f = .tup [sNeed, .str n0, .int 2, .int 0]) : D.nob 60 (.tup [.tup ds, f]) = true := by
  have e := deeds_nob (n := 56) h
  rcases hf with rfl | rfl <;> simp [e]
theorem deeds_pur {ds : List D} (h : ∀ d ∈ ds, isDeed d) : D.purL ds = true := by
  rw [purL_iff]
  intro d hd
  obtain ⟨_, _, _, _, rfl⟩ := h d hd
  simp
theorem whole_int (i : Int) : pc m__law_whole [.int i] = .ok (.bl true) := pc_ok (h := []) (by simp [m__law_whole_ev]) (by simp)
theorem loop_gone {W Q r nums f v : D} {h : AH} : ∀ (ds : List D) (x : Option D) (hd : ∀ d ∈ ds, isDeed d), ∃ x', forL noG (gN 6) f1__law_gone ds [some W, some Q, some r, some nums, some f, some v, x] h = .nx [some W, some Q, some r, some nums, some f, some v, x'] h := by
  intro ds
  induction ds with
  | nil => exact fun x _ => ⟨x, rfl⟩
  | cons d ds ih =>
    intro x hd
    obtain ⟨x', e⟩ := ih (some d) fun d hd' => hd d (by simp [hd'])
    obtain ⟨s, t, i, j, rfl⟩ := hd d (by simp)
    exact ⟨x', by simp [callP_pur, whole_int, e]⟩
/-! ### _law_due -/
theorem comp_third {Q names r v : D} {n2 : Nm} {x4 x5 x6 x7 x8 x9 : Option D} {h : AH} {all : List Int} (hq : ∀ h, oIx Q (.int 2) h = some (.tup [.str n2, .tup (all.map rSayI)])) (hn : ∀ h, oIx names (.int 2) h = some (.str n2)) : ∀ (cs pre : List Int) (e : all = pre ++ cs),
    compL noG (gN 9) [9] mYes (mTup [(mC (.str [115, 97, 121])), (mBin oIx (mBin oIx (mBin oIx (mBin oIx (mBin oIx (mBin oIx (mVar 0) (mC (.int 2))) (mC (.int 1))) (mVar 9)) (mC (.int 1))) (mC (.int 0))) (mC (.int 1))), (mBin oIx (mVar 3) (mC (.int 2))), (mVar 9)])
      (intsFrom (pre.length : Nat) cs.length) [some Q, some r, some v, some names, x4, x5, x6, x7, x8, x9] h = .ok (thirdAt n2 pre.length cs) h
  | [], pre, e => by simp [thirdAt]
  | c :: cs, pre, e => by
    have ih := comp_third (r := r) (v := v) (x4 := x4) (x5 := x5) (x6 := x6) (x7 := x7) (x8 := x8) (x9 := x9) (h := h) hq hn cs (pre ++ [c]) (by rw [e]; simp)
    have e1 : oIx (.tup (all.map rSayI)) (.int (pre.length : Nat)) h = some (rSayI c) := ix_tup (by rw [atI_nat, e]; simp)
    have e2 : ((pre.length : Nat) : Int) + 1 = ((pre ++ [c]).length : Nat) := by simp
    rw [List.length_cons, intsFrom_s, e2]
    simp only [compL_consN, wipeA_cons, wipeA_nil, gN_ev, cG_some, kc1_ev, mYes_ev, R.bd_ok, kc2_t]
    simp at ih
    simp [hq, hn, e1, thirdAt, ih]
theorem eq3 {ds : List D} {h : AH} (e : ds.length = 3) : oEq (.int (ds.length : Nat)) (.int 3) h = some (.bl true) := by simp [e]
section
variable {s : Sh} (ok : s.Ok) {a : Bool} {v : Int}
include ok
theorem comp_names {r x3 x4 x5 x6 x7 x8 x9 : Option D} {h : AH} : mComp (mIt fSeq (mVar 0)) (gT [(gN 7), (gN 8)]) [7, 8] mYes (mVar 7) [some (s.Q a), r, some (.int v), x3, x4, x5, x6, x7, x8, x9] h = .ok (.lst (.str s.n0 :: .str s.n1 :: (if a then [.str s.n2] else []))) h := by
  have ez : ∀ n : Nat, n ≤ 1000 → n ≤ sizeLine := fun n => size1000
  cases a <;> simp [Sh.Q, Sh.ps, encP, kL_ev, ez]
theorem due_ev (r : Nat) (hr : r < 3) (ha : a = false → r < 2) : pc m__law_due [s.Q a, .int (r : Nat), .int v] = .ok (.tup [.tup (s.due a v r).1, (s.due a v r).2]) := by
  refine pc_ok (h := []) ?_ (by
    rcases fault_due (s := s) (a := a) (v := v) r with e | e <;> simp [e, deeds_pur (deed_due r)])
  have ez : ∀ n : Nat, n ≤ 1000 → n ≤ sizeLine := fun n => size1000
  cases a with
  | true =>
    have e1 : ∀ (r0 : D) (x4 x5 x6 x7 x8 x9 : Option D) (h : AH), mComp (mRange [(mB oLen [(mBin oIx (mBin oIx (mVar 0) (mC (.int 2))) (mC (.int 1)))])]) (gN 9) [9] mYes (mTup [(mC (.str [115, 97, 121])), (mBin oIx (mBin oIx (mBin oIx (mBin oIx (mBin oIx (mBin oIx (mVar 0) (mC (.int 2))) (mC (.int 1))) (mVar 9)) (mC (.int 1))) (mC (.int 0))) (mC (.int 1))), (mBin oIx (mVar 3) (mC (.int 2))), (mVar 9)])
        [some (s.Q true), some r0, some (.int v), some (.lst [.str s.n0, .str s.n1, .str s.n2]), x4, x5, x6, x7, x8, x9] h = .ok (.lst (thirdAt s.n2 0 s.cs)) h := by
      intro r0 x4 x5 x6 x7 x8 x9 h
      have hq : ∀ h, oIx (s.Q true) (.int 2) h = some (.tup [.str s.n2, .tup (s.cs.map rSayI)]) := fun h => by simp [Sh.Q, Sh.ps, encP]
      have e2 := comp_third (r := r0) (v := .int v) (x4 := x4) (x5 := x5) (x6 := x6) (x7 := x7) (x8 := x8) (x9 := x9) (h := h) (names := .lst [.str s.n0, .str s.n1, .str s.n2]) hq (fun h => by simp) s.cs [] rfl
      have e3 : (intsFrom 0 s.cs.length).length ≤ sizeLine := by rw [intsFrom_length]; exact size1000 (by have := ok.hcs; omega)
      have e4 : mRange [(mB oLen [(mBin oIx (mBin oIx (mVar 0) (mC (.int 2))) (mC (.int 1)))])] [some (s.Q true), some r0, some (.int v), some (.lst [.str s.n0, .str s.n1, .str s.n2]), x4, x5, x6, x7, x8, x9] h = .ok (intsFrom 0 s.cs.length, noG) h := by
        have e5 : mArgs [(mB oLen [(mBin oIx (mBin oIx (mVar 0) (mC (.int 2))) (mC (.int 1)))])] [some (s.Q true), some r0, some (.int v), some (.lst [.str s.n0, .str s.n1, .str s.n2]), x4, x5, x6, x7, x8, x9] h = .ok [.int s.cs.length] h := by simp [hq]
        rw [mRange_ev, e5, R.bd_ok, rangeK_1 (okR_len (by have := ok.hcs; omega))]
        rfl
      rw [mComp_ev, e4, R.bd_ok, kL_ev e3]
      simp only [List.length_nil, List.nil_append] at e2
      rw [show ((0 : Nat) : Int) = 0 from rfl] at e2
      rw [e2]
      rfl
    have en : ∀ (r x3 x4 x5 x6 x7 x8 x9 : Option D) (h : AH), mComp (mIt fSeq (mVar 0)) (gT [(gN 7), (gN 8)]) [7, 8] mYes (mVar 7) [some (s.Q true), r, some (.int v), x3, x4, x5, x6, x7, x8, x9] h = .ok (.lst [.str s.n0, .str s.n1, .str s.n2]) h := fun r x3 x4 x5 x6 x7 x8 x9 h => comp_names ok (a := true)
    have hl : ∀ h, oLen [s.Q true] h = some (.int 3) := fun h => by simp [Sh.Q, Sh.ps]
    have hq1 : ∀ h, oIx (s.Q true) (.int 1) h = some (.tup [.str s.n1, .tup (rowsTwo s.sw s.th s.gn)]) := fun h => by simp [Sh.Q, Sh.ps, encP]
    have hq0 : ∀ h, oIx (s.Q true) (.int 0) h = some (.tup [.str s.n0, .tup (rowsOne true s.n1 s.n2 s.gn s.own)]) := fun h => by simp [Sh.Q, Sh.ps, encP]
    have ht : (thirdAt s.n2 0 s.cs).length ≤ 60 := by rw [thirdAt_length]; exact ok.hcs
    have hadd : ∀ (x y : List D) h, x.length + y.length ≤ 1000 → oAdd (.lst x) (.lst y) h = some (.lst (x ++ y)) := fun x y h q => oAdd_lst (ez _ q)
    have hx1 : ∀ (x y z : D) h, oAdd (.lst [x, y, z]) (.lst (thirdAt s.n2 0 s.cs)) h = some (.lst ([x, y, z] ++ thirdAt s.n2 0 s.cs)) := fun x y z h => hadd _ _ h (by simp; omega)
    have hx2 : ∀ (x y z u : D) h, oAdd (.lst (x :: y :: z :: thirdAt s.n2 0 s.cs)) (.lst [u]) h = some (.lst (x :: y :: z :: thirdAt s.n2 0 s.cs ++ [u])) := fun x y z u h => hadd _ _ h (by simp; omega)
    have r3 : r = 2 ∨ r = 1 ∨ r = 0 := by omega
    rcases r3 with rfl | rfl | rfl
    · simp [-mComp_ev, m__law_due_ev, en, e1, hl, Sh.due]
    ·
      cases hsw : s.sw <;> simp [-mComp_ev, m__law_due_ev, en, e1, hl, hq1, rowsTwo, hsw, Sh.due, second]
    ·
      by_cases h2 : v + 2 ≤ 0
      · cases hsw : s.sw <;> simp [-mComp_ev, m__law_due_ev, en, e1, hl, hq1, rowsTwo, hsw, Sh.due, second, first, h2, hadd]
      · by_cases h0 : 0 < v
        · cases hsw : s.sw <;> simp [-mComp_ev, m__law_due_ev, en, e1, hl, hq1, hq0, rowsTwo, rowsOne, hsw, Sh.due, second, first, h2, h0, hadd, hx1, hx2]
        · cases hsw : s.sw <;> simp [-mComp_ev, m__law_due_ev, en, e1, hl, hq1, hq0, rowsTwo, rowsOne, hsw, Sh.due, second, first, h2, h0, hadd]
  | false =>
    have en : ∀ (r x3 x4 x5 x6 x7 x8 x9 : Option D) (h : AH), mComp (mIt fSeq (mVar 0)) (gT [(gN 7), (gN 8)]) [7, 8] mYes (mVar 7) [some (s.Q false), r, some (.int v), x3, x4, x5, x6, x7, x8, x9] h = .ok (.lst [.str s.n0, .str s.n1]) h := fun r x3 x4 x5 x6 x7 x8 x9 h => comp_names ok (a := false)
    have hl : ∀ h, oLen [s.Q false] h = some (.int 2) := fun h => by simp [Sh.Q, Sh.ps]
    have hq1 : ∀ h, oIx (s.Q false) (.int 1) h = some (.tup [.str s.n1, .tup (rowsTwo s.sw s.th s.gn)]) := fun h => by simp [Sh.Q, Sh.ps, encP]
    have hq0 : ∀ h, oIx (s.Q false) (.int 0) h = some (.tup [.str s.n0, .tup (rowsOne false s.n1 s.n2 s.gn s.own)]) := fun h => by simp [Sh.Q, Sh.ps, encP]
    have hadd : ∀ (x y : List D) h, x.length + y.length ≤ 1000 → oAdd (.lst x) (.lst y) h = some (.lst (x ++ y)) := fun x y h q => oAdd_lst (ez _ q)
    have hr2 := ha rfl
    match r, hr2 with
    | 1, _ =>
      cases hsw : s.sw <;> simp [-mComp_ev, m__law_due_ev, en, hl, hq1, rowsTwo, hsw, Sh.due, second]
    | 0, _ =>
      by_cases h2 : v + 2 ≤ 0
      · cases hsw : s.sw <;> simp [-mComp_ev, m__law_due_ev, en, hl, hq1, rowsTwo, hsw, Sh.due, second, first, h2, hadd]
      · by_cases h0 : 0 < v
        · cases hsw : s.sw <;> simp [-mComp_ev, m__law_due_ev, en, hl, hq1, hq0, rowsTwo, rowsOne, hsw, Sh.due, second, first, h2, h0, hadd]
        · cases hsw : s.sw <;> simp [-mComp_ev, m__law_due_ev, en, hl, hq1, hq0, rowsTwo, rowsOne, hsw, Sh.due, second, first, h2, h0, hadd]
end
end Bh

set_option maxHeartbeats 4000000
namespace Bh
open PySem MW
section
variable {s : Sh} (ok : s.Ok) {a : Bool} {nums : List Int}
include ok
omit ok in
theorem ints_head {nums : List Int} {h : AH} (hn : nums.length ≤ 100) : oAdd (.lst (nums.map D.int)) (.lst [.int 0]) h = some (.lst (nums.map D.int ++ [.int 0])) := oAdd_lst (size1000 (by simp; omega))
omit ok in
theorem head_0 {h : AH} : oIx (.lst (nums.map D.int ++ [.int 0])) (.int 0) h = some (.int (nums.headD 0)) := by cases nums <;> simp
theorem ix_nm (r : Nat) (hr : r < 3) (ha : a = false → r < 2) : ∃ x, ∀ h, oIx (s.Q a) (.int (r : Nat)) h = some (.tup [.str (s.nm r), x]) := by
  cases a with
  | true =>
    have r3 : r = 2 ∨ r = 1 ∨ r = 0 := by omega
    rcases r3 with rfl | rfl | rfl
    · exact ⟨_, fun h => by simp [Sh.Q, Sh.ps, encP, Sh.nm]; rfl⟩
    · exact ⟨_, fun h => by simp [Sh.Q, Sh.ps, encP, Sh.nm]; rfl⟩
    · exact ⟨_, fun h => by simp [Sh.Q, Sh.ps, encP, Sh.nm]; rfl⟩
  | false =>
    have := ha rfl
    have r3 : r = 1 ∨ r = 0 := by omega
    rcases r3 with rfl | rfl
    · exact ⟨_, fun h => by simp [Sh.Q, Sh.ps, encP, Sh.nm]; rfl⟩
    · exact ⟨_, fun h => by simp [Sh.Q, Sh.ps, encP, Sh.nm]; rfl⟩
omit ok in
theorem Q_pur : (s.Q a).pur = true := by simp [Sh.Q, ps_pur]
theorem gone (r : Nat) (hr : r < 3) (ha : a = false → r < 2) (hn : nums.length ≤ 100) : pc m__law_gone [WK (s.P a), s.Q a, .int (r : Nat), .lst (nums.map D.int)] = .ok (.bl true) := by
  obtain ⟨h', eg⟩ := go_all ok (a := a) (nums := nums) r hr ha
  obtain ⟨x, ex⟩ := ix_nm ok (a := a) r hr ha
  have hdd := deed_due (s := s) (a := a) (v := nums.headD 0) r
  have hdf := fault_due (s := s) (a := a) (v := nums.headD 0) r
  have ed := due_ev ok (a := a) (v := nums.headD 0) r hr ha
  generalize (s.due a (nums.headD 0) r).1 = ds at *
  generalize (s.due a (nums.headD 0) r).2 = f at *
  have en := ans_nob hdd hdf
  have e2 : ∀ h, oEq (.tup [.tup ds, f]) (.tup [.tup ds, f]) h = some (.bl true) := fun h => by rw [oEq_nob 0 0 (by decide) en en]; simp
  obtain ⟨x', el⟩ := loop_gone (W := WK (s.P a)) (Q := s.Q a) (r := .int (r : Nat)) (nums := .lst (nums.map D.int)) (f := .tup [.tup ds, f]) (v := .int (nums.headD 0)) (h := h') ds none hdd
  have ef : ∀ h, oNotN f .non h = some (.bl (decide (f ≠ .non))) ∧ (f ≠ .non → oIsi [f, .ty "tuple"] h = some (.bl true) ∧ oIx f (.int 2) h = some (.int 2)) := fun h => by rcases hdf with rfl | rfl <;> simp
  have ep : f.pur = true := by rcases hdf with rfl | rfl <;> simp
  refine pc_ok (h := h') ?_ (by simp)
  rcases hdf with rfl | rfl
  · simp at eg el e2 ed
    simp [m__law_gone_ev, callM_bad, callM_ok, ok_P, ex, eg, ints_head hn, head_0, el, callP_pur, Q_pur, ed, e2]
  · simp at eg el e2 ed
    simp [m__law_gone_ev, callM_bad, callM_ok, ok_P, ex, eg, ints_head hn, head_0, el, callP_pur, Q_pur, ed, e2, whole_int]
end
/-! ### told -/
theorem trip_nob {q : Nm} {n : Nat} : ∀ (rs : List D) (i : Nat) (h : ∀ d ∈ rs, D.nob (n + 1) d = true), D.nobL (n + 3) (trip q i rs) = true
  | [], _, _ => by simp [trip]
  | r :: rs, i, h => by
    have := trip_nob (q := q) (n := n) rs (i + 1) fun d hd => h d (by simp [hd])
    simp [trip, h r (by simp), this]
theorem loop_told {W Q nm rows f dl : D} {x2 x3 y9 y10 : Option D} {q : Nm} {h : AH} : ∀ (rs : List D) (i : Nat) (x : Option D), ∃ x', forL noG (gN 8) f1__law_told (trip q i rs) [some W, some Q, x2, x3, some nm, some rows, some f, some dl, x, y9, y10] h = .nx [some W, some Q, x2, x3, some nm, some rows, some f, some dl, x', y9, y10] h
  | [], _, x => ⟨x, rfl⟩
  | r :: rs, i, x => by
    obtain ⟨x', e⟩ := loop_told (W := W) (Q := Q) (nm := nm) (rows := rows) (f := f) (dl := dl) (x2 := x2) (x3 := x3) (y9 := y9) (y10 := y10) (q := q) (h := h) rs (i + 1) (some (.tup [.str q, .int (i : Nat), r]))
    exact ⟨x', by simp [trip, callP_pur, whole_int, e]⟩
theorem comp_told {W Q : D} {q : Nm} {x2 x3 x6 x7 x8 x9 c : Option D} {h : AH} : ∀ (rs pre : List D), compL noG (gN 10) [10] mYes (mTup [(mVar 4), (mVar 10), (mBin oIx (mVar 5) (mVar 10))]) (intsFrom (pre.length : Nat) rs.length) [some W, some Q, x2, x3, some (.str q), some (.tup (pre ++ rs)), x6, x7, x8, x9, c] h = .ok (trip q pre.length rs) h
  | [], pre => by simp [trip]
  | r :: rs, pre => by
    have ih := comp_told (W := W) (Q := Q) (q := q) (x2 := x2) (x3 := x3) (x6 := x6) (x7 := x7) (x8 := x8) (x9 := x9) (c := c) (h := h) rs (pre ++ [r])
    have e : oIx (.tup (pre ++ r :: rs)) (.int (pre.length : Nat)) h = some r := ix_tup (by rw [atI_nat]; simp)
    have e2 : ((pre.length : Nat) : Int) + 1 = ((pre ++ [r]).length : Nat) := by simp
    simp only [List.append_assoc, List.singleton_append] at ih
    rw [List.length_cons, intsFrom_s, e2]
    simp only [compL_consN, wipeA_cons, wipeA_nil, gN_ev, cG_some, kc1_ev, mYes_ev, R.bd_ok, kc2_t]
    simp [e, trip]
    simp at ih
    simp [ih]
theorem comp_rows2 {W Q : D} {q : Nm} {x2 x3 x6 x7 x8 x9 c : Option D} {h : AH} {rs : List D} (hz : rs.length ≤ 1000) : mComp (mRange [(mB oLen [(mVar 5)])]) (gN 10) [10] mYes (mTup [(mVar 4), (mVar 10), (mBin oIx (mVar 5) (mVar 10))]) [some W, some Q, x2, x3, some (.str q), some (.tup rs), x6, x7, x8, x9, c] h = .ok (.lst (trip q 0 rs)) h := by
  have e1 := comp_told (W := W) (Q := Q) (q := q) (x2 := x2) (x3 := x3) (x6 := x6) (x7 := x7) (x8 := x8) (x9 := x9) (c := c) (h := h) rs []
  have e3 : (intsFrom 0 rs.length).length ≤ sizeLine := by rw [intsFrom_length]; exact size1000 hz
  have e4 : mRange [(mB oLen [(mVar 5)])] [some W, some Q, x2, x3, some (.str q), some (.tup rs), x6, x7, x8, x9, c] h = .ok (intsFrom 0 rs.length, noG) h := by
    have e5 : mArgs [(mB oLen [(mVar 5)])] [some W, some Q, x2, x3, some (.str q), some (.tup rs), x6, x7, x8, x9, c] h = .ok [.int rs.length] h := by simp
    rw [mRange_ev, e5, R.bd_ok, rangeK_1 (okR_len hz)]
    rfl
  rw [mComp_ev, e4, R.bd_ok, kL_ev e3]
  simp only [List.length_nil, List.nil_append] at e1
  rw [show ((0 : Nat) : Int) = 0 from rfl] at e1
  rw [e1]
  rfl
/-- one part told -/
theorem told_one {P Q : D} {q : Nm} {x2 x3 x6 x7 x8 x9 x10 : Option D} {h : AH} {rs : List D} (hz : rs.length ≤ 1000) (hr : ∀ h, m_PartsWalk_rows_of [WK P, .str q] h = .ok (.tup (trip q 0 rs)) h) (hn : ∀ d ∈ rs, D.nob 57 d = true) :
    ∃ y6 y7 y8, f2__law_told [some (WK P), some Q, x2, x3, some (.str q), some (.tup rs), x6, x7, x8, x9, x10] h = .nx [some (WK P), some Q, x2, x3, some (.str q), some (.tup rs), y6, y7, y8, x9, x10] h := by
  obtain ⟨y8, el⟩ := loop_told (W := WK P) (Q := Q) (nm := .str q) (rows := .tup rs) (f := .tup (trip q 0 rs)) (dl := .lst (trip q 0 rs)) (x2 := x2) (x3 := x3) (y9 := x9) (y10 := x10) (q := q) (h := h) rs 0 x8
  refine ⟨some (.tup (trip q 0 rs)), some (.lst (trip q 0 rs)), y8, ?_⟩
  have en : D.nobL 60 (trip q 0 rs) = true := by
    have := trip_nob (q := q) (n := 57) rs 0 fun d hd => by
      have h1 := hn d hd
      exact nob_mono 57 58 (by decide) d h1
    exact this
  have e2 : oNe (.lst (trip q 0 rs)) (.lst (trip q 0 rs)) h = some (.bl false) := by
    rw [oNe_nob (by simpa using en) (by simpa using en)]; simp
  have e3 : oNe (.tup []) (.tup []) h = some (.bl false) := by rw [oNe_nob (by simp [D.nob]) (by simp [D.nob])]; simp
  simp [-mComp_ev, callM_bad, callM_ok, ok_P, hr, comp_rows2 hz, e2, el, m_Walk_loads_of_ev, m_Walk_ahead_of_ev, e3]
end Bh

set_option maxHeartbeats 4000000
namespace Bh
open PySem MW
theorem rowsOne_nob {a : Bool} {n1 n2 gn own : Nm} : ∀ d ∈ rowsOne a n1 n2 gn own, D.nob 57 d = true := by
  intro d h
  cases a
  · simp [rowsOne] at h
    rcases h with rfl | rfl | rfl | rfl <;> simp
  · simp [rowsOne] at h
    rcases h with rfl | rfl | rfl | rfl | rfl <;> simp
theorem rowsTwo_nob {sw : Bool} {th gn : Nm} : ∀ d ∈ rowsTwo sw th gn, D.nob 57 d = true := by
  intro d h
  cases sw
  · simp [rowsTwo] at h
    rcases h with rfl | rfl | rfl <;> simp
  · simp [rowsTwo] at h
    rcases h with rfl | rfl | rfl <;> simp
theorem three_nob {cs : List Int} : ∀ d ∈ cs.map rSayI, D.nob 57 d = true := by
  intro d h
  obtain ⟨c, _, rfl⟩ := List.mem_map.mp h
  simp
theorem isiC_walk {P : D} {h : AH} : oIsiC subC [WK P, .cls "Walk"] h = some (.bl true) := by
  simp [oIsiC, insOf, subC]
section
variable {s : Sh} (ok : s.Ok) {a : Bool}
include ok
theorem told : pc m__law_told [WK (s.P a), s.Q a] = .ok (.bl true) := by
  have ez : ∀ n : Nat, n ≤ 1000 → n ≤ sizeLine := fun n => size1000
  obtain ⟨a6, a7, a8, ea⟩ := told_one (Q := s.Q a) (x2 := none) (x3 := none) (x6 := none) (x7 := none) (x8 := none) (x9 := none) (x10 := none) (h := []) (by cases a <;> simp [rowsOne]) (pr_0 ok (a := a)) rowsOne_nob
  obtain ⟨b6, b7, b8, eb⟩ := told_one (Q := s.Q a) (x2 := none) (x3 := none) (x6 := a6) (x7 := a7) (x8 := a8) (x9 := none) (x10 := none) (h := []) (by cases s.sw <;> simp [rowsTwo]) (pr_1 ok (a := a)) rowsTwo_nob
  have ek : ∀ h, oNe (keyAt s.n1 s.sw) (keyAt s.n1 s.sw) h = some (.bl false) := fun h => by rw [oNe_nob (by simp) (by simp)]; simp
  have hq1 : ∀ h, oIx (s.Q a) (.int 1) h = some (.tup [.str s.n1, .tup (rowsTwo s.sw s.th s.gn)]) := fun h => by cases a <;> simp [Sh.Q, Sh.ps, encP]
  have hq0 : ∀ h, oIx (s.Q a) (.int 0) h = some (.tup [.str s.n0, .tup (rowsOne a s.n1 s.n2 s.gn s.own)]) := fun h => by cases a <;> simp [Sh.Q, Sh.ps, encP]
  have h00 : ∀ h, oIx (.tup (rowsOne a s.n1 s.n2 s.gn s.own)) (.int 0) h = some (rBring s.n1 s.gn s.own) := fun h => by simp [rowsOne]
  have hm0 := m_0 ok (a := a)
  have hm1 := m_1 ok (a := a)
  have hr3 : ∀ h, rangeK [.int 3] h = .ok (intsFrom 0 3, noG) h := fun h => rangeK_1 (by decide)
  have h3 : intsFrom 0 3 = [.int 0, .int 1, .int 2] := rfl
  have tail : ∀ y4 y5 y6 y7 y8, ((((mSeq (mAsg (gN 2) (mBin oIx (mComp (mRange [(mC (.int 3))]) (gN 10) [10] (mTest (mBin oEq (mBin oIx (mBin oIx (mBin oIx (mBin oIx (mVar 1) (mC (.int 1))) (mC (.int 1))) (mVar 10)) (mC (.int 0))) (mC (.str [116, 97, 107, 101])))) (mVar 10)) (mC (.int 0))))
      (mSeq (mAsg (gN 3) (mBin oIx (mBin oIx (mBin oIx (mBin oIx (mBin oIx (mBin oIx (mVar 1) (mC (.int 0))) (mC (.int 1))) (mC (.int 0))) (mC (.int 2))) (mC (.int 0))) (mC (.int 1))))
      (mSeq (mFor (mIt fSeq (mLst [(mTup [(mBin oIx (mBin oIx (mVar 1) (mC (.int 0))) (mC (.int 0))), (mVar 3)]), (mTup [(mBin oIx (mBin oIx (mVar 1) (mC (.int 1))) (mC (.int 0))), (mBin oIx (mBin oIx (mBin oIx (mBin oIx (mVar 1) (mC (.int 1))) (mC (.int 1))) (mVar 2)) (mC (.int 1)))])])) (gT [(gN 9), (gN 4)]) f3__law_told)
      (mRet (mB (oIsiC subC) [(mVar 0), (mC (.cls "Walk"))]))))) [some (WK (s.P a)), some (s.Q a), none, none, y4, y5, y6, y7, y8, none, none] []))).fin = .ok (.bl true) [] := by
    intro y4 y5 y6 y7 y8
    have ek' : ∀ (i : Int) h, oNe (.tup [.str s.n1, .int i]) (.tup [.str s.n1, .int i]) h = some (.bl false) := fun i h => by rw [oNe_nob (by simp) (by simp)]; simp
    cases hsw : s.sw
    · rw [hsw] at hm0 hm1
      have hm0 : pc m_maker [s.P a, .str s.n0, .str s.own] = .ok (.tup [.str s.n1, .int 0]) := hm0
      have hm1 : pc m_maker [s.P a, .str s.n1, .str s.th] = .ok (.tup [.str s.n1, .int 0]) := hm1
      simp [hr3, h3, kL_ev, ez, hq1, hq0, h00, rowsTwo, hsw, callM_bad, callM_ok, ok_P, m_PartsWalk_key_of_ev, callP_pur, P_pur, hm0, hm1, ek', whole_int, isiC_walk]
    · rw [hsw] at hm0 hm1
      have hm0 : pc m_maker [s.P a, .str s.n0, .str s.own] = .ok (.tup [.str s.n1, .int 1]) := hm0
      have hm1 : pc m_maker [s.P a, .str s.n1, .str s.th] = .ok (.tup [.str s.n1, .int 1]) := hm1
      simp [hr3, h3, kL_ev, ez, hq1, hq0, h00, rowsTwo, hsw, callM_bad, callM_ok, ok_P, m_PartsWalk_key_of_ev, callP_pur, P_pur, hm0, hm1, ek', whole_int, isiC_walk]
  refine pc_ok (h := []) ?_ (by simp)
  cases a with
  | false =>
    have e0 : (s.ps false).map encP = [.tup [.str s.n0, .tup (rowsOne false s.n1 s.n2 s.gn s.own)], .tup [.str s.n1, .tup (rowsTwo s.sw s.th s.gn)]] := rfl
    have eq : fSeq (s.Q false) [] = some ([.tup [.str s.n0, .tup (rowsOne false s.n1 s.n2 s.gn s.own)], .tup [.str s.n1, .tup (rowsTwo s.sw s.th s.gn)]], noG) := by simp [Sh.Q, e0]
    have t := tail (some (.str s.n1)) (some (.tup (rowsTwo s.sw s.th s.gn))) b6 b7 b8
    rw [m__law_told_ev, b__law_told_ev, mSeq_ev, mFor_ev]
    simp only [List.map_cons, List.map_nil, List.length_cons, List.length_nil, mIt_ev, mVar_ev, List.cons_append, List.nil_append]
    simp [-f2__law_told_ev, -mSeq_ev, eq, ea, eb]
    exact t
  | true =>
    obtain ⟨c6, c7, c8, ec⟩ := told_one (Q := s.Q true) (x2 := none) (x3 := none) (x6 := b6) (x7 := b7) (x8 := b8) (x9 := none) (x10 := none) (h := []) (by have := ok.hcs; simp; omega) (pr_2 ok) three_nob
    have e0 : (s.ps true).map encP = [.tup [.str s.n0, .tup (rowsOne true s.n1 s.n2 s.gn s.own)], .tup [.str s.n1, .tup (rowsTwo s.sw s.th s.gn)], .tup [.str s.n2, .tup (s.cs.map rSayI)]] := rfl
    have eq : fSeq (s.Q true) [] = some ([.tup [.str s.n0, .tup (rowsOne true s.n1 s.n2 s.gn s.own)], .tup [.str s.n1, .tup (rowsTwo s.sw s.th s.gn)], .tup [.str s.n2, .tup (s.cs.map rSayI)]], noG) := by simp [Sh.Q, e0]
    have t := tail (some (.str s.n2)) (some (.tup (s.cs.map rSayI))) c6 c7 c8
    rw [m__law_told_ev, b__law_told_ev, mSeq_ev, mFor_ev]
    simp only [List.map_cons, List.map_nil, List.length_cons, List.length_nil, mIt_ev, mVar_ev, List.cons_append, List.nil_append]
    simp [-f2__law_told_ev, -mSeq_ev, eq, ea, eb, ec]
    exact t
end
/-! ### the bare walk -/
section
variable {H l : AH} {i : Nat} {x : Cell}
theorem app_at : (H ++ l)[H.length + i]? = l[i]? := by rw [List.getElem?_append_right (by omega)]; congr 1; omega
theorem app_at0 : (H ++ l)[H.length]? = l[0]? := app_at (i := 0)
theorem app_set : (H ++ l).set (H.length + i) x = H ++ l.set i x := by rw [List.set_append_right _ _ (by omega)]; congr 2; omega
theorem app_set0 : (H ++ l).set H.length x = H ++ l.set 0 x := app_set (i := 0)
theorem app_first {y : Cell} (h0 : H[0]? = some y) : (H ++ l)[0]? = some y := by
  cases H with
  | nil => simp at h0
  | cons a H => simpa using h0
theorem go_bare {q : Nm} {ns : List D} (h0 : H[0]? = some (.ins "Walk" L_Walk [])) : ∃ H', m_Walk_go [.loc 0, .str q, .tup ns] H = .ok (.tup [.tup [], .non]) H' ∧ H'[0]? = some (.ins "Walk" L_Walk []) := by
  let T : AH := [.ins "Trail" L_Trail [.tup ns, .int 0, .loc (H.length + 1), .loc (H.length + 2), .loc (H.length + 3), .loc (H.length + 4), .non], .dct true [], .dct false [], .dct false [], .lst []]
  let T2 : AH := [.ins "Trail" L_Trail [.tup ns, .int 0, .loc (H.length + 1), .loc (H.length + 2), .loc (H.length + 3), .loc (H.length + 4), .non], .dct true [], .dct false [(.str q, .bl true)], .dct false [], .lst []]
  refine ⟨H ++ T2, ?_, app_first h0⟩
  have e0 : m_Trail___init__ [.loc H.length, .tup ns] (H ++ [.ins "Trail" L_Trail []]) = .ok .non (H ++ T) := by
    simp [m_Trail___init___ev, putFD, setF, app_at, app_at0, app_set, app_set0, T]
  have w0 : ∀ (l : AH) (name : PySem.Str), mthOk "Walk" name (.loc 0) (H ++ l) = true := fun l name => by
    simp [mthOk, insAt, app_first h0, L_Walk]
  have e3 : mthOk "Trail" "load" (.loc H.length) (H ++ T) = true := by
    simp only [mthOk, insAt, app_at0, T, List.getElem?_cons_zero, no_Trail_load]; decide
  have e4 : m_Trail_load [.loc H.length, .tup []] (H ++ T) = .ok .non (H ++ T) := by simp [m_Trail_load_ev]
  have g1 : getF ["Trail"] "begun" (.loc H.length) (H ++ T) = some (.loc (H.length + 2)) := by simp [getF, insAt, app_at0, T]
  have d1 := dict_in (h := H ++ T) (i := H.length + 2) (k := .str q) (by rw [app_at]; rfl) keyOk_str
  have d2 := dict_put (h := H ++ T) (i := H.length + 2) (k := .str q) (v := .bl true) (by rw [app_at]; rfl) keyOk_str (small (by simp))
  rw [app_set] at d2
  have e5 : m_Walk_begin 8 [.loc 0, .loc H.length, .str q] (H ++ T) = .ok .non (H ++ T2) := by
    rw [show (8 : Nat) = 7 + 1 from rfl, m_Walk_begin_ev]
    simp [g1, d1, d2, T, callM_ok, w0, m_Walk_rows_of_ev]
    simp [T2]
  have g2 : getF ["Trail"] "trace" (.loc H.length) (H ++ T2) = some (.loc (H.length + 4)) := by simp [getF, insAt, app_at0, T2]
  have g3 : getF ["Trail"] "fault" (.loc H.length) (H ++ T2) = some .non := by simp [getF, insAt, app_at0, T2]
  have e6 : oTuple [.loc (H.length + 4)] (H ++ T2) = some (.tup []) := oTuple_loc (by rw [app_at]; rfl)
  simp [m_Walk_go_ev, e0, callM_ok, w0, e3, e4, m_Walk_loads_of_ev, m_Walk_ahead_of_ev, e5, g2, g3, e6]
end
theorem bare_loop {Q : D} {nums : List D} : ∀ (ps : List (Nm × D)) (H : AH) (x y : Option D) (h0 : H[0]? = some (.ins "Walk" L_Walk [])), ∃ x' y' H', forL noG (gT [gN 3, gN 4]) f1__law_bare (ps.map encP) [some Q, some (.lst nums), some (.loc 0), x, y] H = .nx [some Q, some (.lst nums), some (.loc 0), x', y'] H' := by
  intro ps
  induction ps with
  | nil => exact fun H x y _ => ⟨x, y, H, rfl⟩
  | cons p ps ih =>
    intro H x y h0
    obtain ⟨q, r⟩ := p
    obtain ⟨H1, e1, h1⟩ := go_bare (q := q) (ns := nums) h0
    obtain ⟨x', y', H', e⟩ := ih H1 (some (.str q)) (some r) h1
    refine ⟨x', y', H', ?_⟩
    have w0 : ∀ (name : PySem.Str), mthOk "Walk" name (.loc 0) H = true := fun name => by simp [mthOk, insAt, h0, L_Walk]
    have e3 : ∀ h, oNe (.tup []) (.tup []) h = some (.bl false) := fun h => by rw [oNe_nob (by simp [D.nob]) (by simp [D.nob])]; simp
    have e4 : ∀ h, oNe (.tup [.tup [], .non]) (.tup [.tup [], .non]) h = some (.bl false) := fun h => by rw [oNe_nob (by simp [D.nob, D.nobL]) (by simp [D.nob, D.nobL])]; simp
    simp [encP, callM_ok, w0, m_Walk_rows_of_ev, m_Walk_key_of_ev, m_Walk_loads_of_ev, m_Walk_ahead_of_ev, e3, e4, e1, e]
theorem bare {s : Sh} {a : Bool} {nums : List D} : pc m__law_bare [s.Q a, .lst nums] = .ok (.bl true) := by
  obtain ⟨x', y', H', e⟩ := bare_loop (Q := s.Q a) (nums := nums) (s.ps a) [.ins "Walk" L_Walk []] none none rfl
  refine pc_ok (h := H') ?_ (by simp)
  have eq : ∀ h, fSeq (s.Q a) h = some ((s.ps a).map encP, noG) := fun h => rfl
  simp [m__law_bare_ev, eq, e]
end Bh

set_option maxHeartbeats 4000000
namespace Bh
open PySem MW
/-! ### the script's cells -/
def scrD (ns : List Int) : D := .scr (ns.map D.int)
theorem scr_pur {ns : List Int} : (scrD ns).pur = true := by simp [scrD, purL_map]
theorem cell_at {ns : List Int} (k : Nat) : pc m__law_cell_at [scrD ns, .int (k : Nat)] = .ok (.int (ns.getD k 0)) := by
  refine pc_ok (h := []) ?_ (by simp)
  by_cases e : k < ns.length
  · have e1 : oIx (scrD ns) (.int (k : Nat)) [] = some (.int (ns.getD k 0)) := ix_scr (by rw [atI_nat]; simp [e])
    have e2 : (k : Int) < (ns.length : Nat) := by omega
    simp [m__law_cell_at_ev, scrD, e2]
    simp [scrD] at e1
    simp [e1]
  · have e2 : ¬ (k : Int) < (ns.length : Nat) := by omega
    have e3 : ns[k]? = none := List.getElem?_eq_none (by omega)
    simp [m__law_cell_at_ev, scrD, e2, e3]
theorem cell_at' {ns : List Int} (k : Nat) {i : Int} (e : i = (k : Nat)) : pc m__law_cell_at [scrD ns, .int i] = .ok (.int (ns.getD k 0)) := by rw [e, cell_at]
/-! ### names -/
theorem bases (f : Int) : ∃ b : Nm, b.length ≤ 5 ∧ ∀ h, oIx (.lst [.str [], .str [119], .str [116, 97, 107, 101], .str [103, 111, 55], .str [119, 97, 108, 107, 115]]) (.int (f % 5)) h = some (.str b) := by
  have h1 := Int.emod_nonneg f (show (5 : Int) ≠ 0 by decide)
  have h2 := Int.emod_lt_of_pos f (show (0 : Int) < 5 by decide)
  have h3 : f % 5 = 0 ∨ f % 5 = 1 ∨ f % 5 = 2 ∨ f % 5 = 3 ∨ f % 5 = 4 := by omega
  rcases h3 with e | e | e | e | e <;> rw [e]
  · exact ⟨[], by decide, fun h => ix_lst rfl⟩
  · exact ⟨[119], by decide, fun h => ix_lst rfl⟩
  · exact ⟨[116, 97, 107, 101], by decide, fun h => ix_lst rfl⟩
  · exact ⟨[103, 111, 55], by decide, fun h => ix_lst rfl⟩
  · exact ⟨[119, 97, 108, 107, 115], by decide, fun h => ix_lst rfl⟩
def letter (k : Int) : Nm := [97 + k.toNat]
theorem letters (k : Int) (h0 : 0 ≤ k) (h8 : k < 8) {h : AH} : oIx (.str [97, 98, 99, 100, 101, 102, 103, 104]) (.int k) h = some (.str (letter k)) := by
  have h3 : k = 0 ∨ k = 1 ∨ k = 2 ∨ k = 3 ∨ k = 4 ∨ k = 5 ∨ k = 6 ∨ k = 7 := by omega
  have hz : [97, 98, 99, 100, 101, 102, 103, 104].length ≤ sizeLine := size1000 (by decide)
  rcases h3 with rfl | rfl | rfl | rfl | rfl | rfl | rfl | rfl <;> exact ix_str hz rfl
theorem cut_le {α : Type} (xs : List α) (lo hi : Option Int) : (cut xs lo hi).length ≤ xs.length := by
  unfold cut
  rw [List.length_take, List.length_drop]
  omega
theorem sl_str {b : Nm} {lo hi : Option Int} {h : AH} (e : b.length ≤ 1000) : oSl (.str b) lo hi h = some (.str (cut b lo hi)) := by
  unfold oSl
  simp only
  rw [if_pos (size1000 e)]
theorem names (f : Int) : ∃ u w : Nm, u.length ≤ 5 ∧ w.length ≤ 5 ∧ ∀ k : Int, 0 ≤ k → k < 8 → pc m__law_name [.int f, .int k] = .ok (.str (u ++ letter k ++ w)) := by
  obtain ⟨b, hb, eb⟩ := bases f
  refine ⟨cut b none (some (f / 5 % (b.length + 1))), cut b (some (f / 5 % (b.length + 1))) none, Nat.le_trans (cut_le _ _ _) hb, Nat.le_trans (cut_le _ _ _) hb, fun k h0 h8 => ?_⟩
  refine pc_ok (h := []) ?_ (by simp)
  have e1 : (0 : Int) < (b.length : Nat) + 1 := by omega
  have e2 := cut_le b none (some (f / 5 % (b.length + 1)))
  have e3 := cut_le b (some (f / 5 % (b.length + 1))) none
  have ea : ∀ (x y : Nm) h, x.length + y.length ≤ 1000 → oAdd (.str x) (.str y) h = some (.str (x ++ y)) := fun x y h q => oAdd_str (size1000 q)
  have ea1 := ea (cut b none (some (f / 5 % (b.length + 1)))) (letter k) [] (by simp [letter]; omega)
  have ea2 := ea (cut b none (some (f / 5 % (b.length + 1))) ++ letter k) (cut b (some (f / 5 % (b.length + 1))) none) [] (by simp [letter]; omega)
  have el : oLen [.str b] [] = some (.int b.length) := oLen_str (size1000 (by omega))
  simp at ea2
  simp [m__law_name_ev, eb, oMod_int, oDiv_int, el, e1, sl_str (b := b) (by omega), letters k h0 h8, ea1, ea2]
/-! ### the parts -/
def thirdCells (ns : List Int) : List Int := (cut ns (some 5) (some 45)).map (· % 10 ^ 60)
theorem cut_map {α β : Type} (f : α → β) (xs : List α) (lo hi : Option Int) : cut (xs.map f) lo hi = (cut xs lo hi).map f := by
  unfold cut
  simp [List.map_drop, List.map_take]
theorem comp_cells {x0 x1 x2 x3 x4 x5 x6 x7 x8 : Option D} {h : AH} : ∀ (cs : List Int), compL noG (gN 8) [8] mYes (mTup [(mC (.str [115, 97, 121])), (mTup [(mTup [(mC (.int 1)), (mBin oMod (mVar 8) (mBin oPow (mC (.int 10)) (mC (.int 60))))])]), (mC .non)]) (cs.map D.int) [x0, x1, x2, x3, x4, x5, x6, x7, x8] h = .ok ((cs.map (· % 10 ^ 60)).map rSayI) h
  | [] => by simp
  | c :: cs => by
    have ih := comp_cells (x0 := x0) (x1 := x1) (x2 := x2) (x3 := x3) (x4 := x4) (x5 := x5) (x6 := x6) (x7 := x7) (x8 := x8) (h := h) cs
    have e : ∀ h, oPow (.int 10) (.int 60) h = some (.int (10 ^ 60)) := fun h => by simp [oPow]
    simp only [List.map_cons, compL_consN, wipeA_cons, wipeA_nil, gN_ev, cG_some, kc1_ev, mYes_ev, R.bd_ok, kc2_t]
    simp at ih
    simp [e, oMod_int, ih]
theorem len_third {ns : List Int} (hn : ns.length ≤ 63) : (thirdCells ns).length ≤ 60 := by
  unfold thirdCells
  rw [List.length_map]
  unfold cut
  rw [List.length_take, List.length_drop]
  have : HT.sIx ns.length 0 (some 5) = 5 ∨ HT.sIx ns.length 0 (some 5) = ns.length := by unfold HT.sIx; simp; omega
  omega
theorem emod8 (x : Int) : 0 ≤ x % 8 ∧ x % 8 < 8 := ⟨Int.emod_nonneg x (by decide), Int.emod_lt_of_pos x (by decide)⟩
theorem parts_ev {ns : List Int} (hn : ns.length ≤ 63) : ∃ s : Sh, s.Ok ∧ pc m__law_parts [scrD ns] = .ok (s.Q true) := by
  have c0 := cell_at' (ns := ns) 0 (i := 0) rfl
  have c1 := cell_at' (ns := ns) 1 (i := 1) rfl
  have c2 := cell_at' (ns := ns) 2 (i := 2) rfl
  generalize ns.getD 0 0 = f at c0
  generalize ns.getD 1 0 = g at c1
  generalize ns.getD 2 0 = e at c2
  obtain ⟨u, w, hu, hw, en⟩ := names f
  obtain ⟨u', w', hu', hw', en'⟩ := names (f / 7)
  let s : Sh := ⟨u ++ letter 0 ++ w, u ++ letter 1 ++ w, u ++ letter 2 ++ w, u' ++ letter (g / 64 % 8) ++ w', u' ++ letter (g % 8) ++ w', u' ++ letter (g / 8 % 8) ++ w', decide (e % 2 = 1), thirdCells ns⟩
  have ne : ∀ i j : Int, letter i ≠ letter j → u ++ letter i ++ w ≠ u ++ letter j ++ w := fun i j h q => by
    rw [List.append_assoc, List.append_assoc] at q
    have := List.append_cancel_left q
    exact h (List.append_cancel_right this)
  refine ⟨s, ⟨ne 0 1 (by decide), ne 0 2 (by decide), ne 1 2 (by decide), len_third hn⟩, ?_⟩
  refine pc_ok (h := []) ?_ Q_pur
  have n0 := en 0 (by decide) (by decide)
  have n1 := en 1 (by decide) (by decide)
  have n2 := en 2 (by decide) (by decide)
  have o1 := en' _ (emod8 (g)).1 (emod8 (g)).2
  have o2 := en' _ (emod8 (g / 8)).1 (emod8 (g / 8)).2
  have o3 := en' _ (emod8 (g / 64)).1 (emod8 (g / 64)).2
  have hS : ∀ h, oSl (scrD ns) (some 5) (some 45) h = some (.lst ((cut ns (some 5) (some 45)).map D.int)) := fun h => by simp [scrD, oSl, cut_map]
  have hk : ((cut ns (some 5) (some 45)).map D.int).length ≤ sizeLine := size1000 (by
    rw [List.length_map]
    exact Nat.le_trans (cut_le _ _ _) (by omega))
  have hC : ∀ x1 x2 x3 x4 x5 x6 x7 x8 h, mComp (mIt fSeq (mSl (mVar 0) (some (mC (.int 5))) (some (mC (.int 45))))) (gN 8) [8] mYes (mTup [(mC (.str [115, 97, 121])), (mTup [(mTup [(mC (.int 1)), (mBin oMod (mVar 8) (mBin oPow (mC (.int 10)) (mC (.int 60))))])]), (mC .non)]) [some (scrD ns), x1, x2, x3, x4, x5, x6, x7, x8] h = .ok (.lst ((thirdCells ns).map rSayI)) h := by
    intro x1 x2 x3 x4 x5 x6 x7 x8 h
    have e4 : mIt fSeq (mSl (mVar 0) (some (mC (.int 5))) (some (mC (.int 45)))) [some (scrD ns), x1, x2, x3, x4, x5, x6, x7, x8] h = .ok ((cut ns (some 5) (some 45)).map D.int, noG) h := by simp [hS]
    rw [mComp_ev, e4, R.bd_ok, kL_ev hk, comp_cells]
    rfl
  have ea : ∀ (x y : List D) h, x.length + y.length ≤ 1000 → oAdd (.lst x) (.lst y) h = some (.lst (x ++ y)) := fun x y h q => oAdd_lst (size1000 q)
  by_cases h2 : e % 2 = 1
  · have e2 : s.sw = true := by simp [s, h2]
    simp [-mComp_ev, m__law_parts_ev, callP_pur, scr_pur, c0, c1, c2, n0, n1, n2, o1, o2, o3, oMod_int, oDiv_int, ea, h2, hC, Sh.Q, Sh.ps, encP, rowsOne, rowsTwo, e2]
    simp [s]
  · have e2 : s.sw = false := by simp [s, h2]
    simp [-mComp_ev, m__law_parts_ev, callP_pur, scr_pur, c0, c1, c2, n0, n1, n2, o1, o2, o3, oMod_int, oDiv_int, ea, h2, hC, Sh.Q, Sh.ps, encP, rowsOne, rowsTwo, e2]
    simp [s]
end Bh

set_option maxHeartbeats 4000000
namespace Bh
open PySem MW
theorem callP_walk {m : Fn} {h : AH} {i : Nat} {P : D} {ds : List D} (e : h[i]? = some (.ins "PartsWalk" L_PartsWalk [P])) (hP : P.pur = true) (hd : D.purL ds = true) (hm : pc m (WK P :: ds) = .ok (.bl true)) : callP m [] (.loc i :: ds) h = .ok (.bl true) h := by
  refine callP_frz (es := WK P :: ds) ?_ (by simp) (by simpa using hm) (by simp [D.flat])
  have e2 : frz 8 h (.loc i) = some (WK P) := by
    rw [frz_ins e rfl]
    simp [optL, frz_pur hP]
  simp only [optL, e2, optL_pur hd]
theorem number_ev (c : Int) : ∃ i : Int, pc m__law_number [.int c] = .ok (.int i) := by
  have e : ∀ h, oPow (.int 10) (.int 60) h = some (.int (10 ^ 60)) := fun h => by simp [oPow]
  have e2 : okMul 2 (10 ^ 60) := .inl (.inl (by decide))
  by_cases hc : c % 2 = 0
  · exact ⟨c / 2 % 5 - 2, pc_ok (h := []) (by simp [m__law_number_ev, oMod_int, oDiv_int, hc]) (by simp)⟩
  · refine ⟨c / 2 % (2 * 10 ^ 60 - 1) - 10 ^ 60 + 1, pc_ok (h := []) ?_ (by simp)⟩
    have e3 := oMul_int (h := []) e2
    simp at e e3
    simp [m__law_number_ev, oMod_int, oDiv_int, hc, e, e3]
theorem less_rows {n1 n2 gn own : Nm} : cut (rowsOne true n1 n2 gn own) none (some 3) ++ cut (rowsOne true n1 n2 gn own) (some 4) none = rowsOne false n1 n2 gn own := by
  simp [rowsOne, cut, HT.sIx]
def H0 (s : Sh) : AH := [.ins "PartsWalk" L_PartsWalk [s.P true], .ins "PartsWalk" L_PartsWalk [s.P false]]
theorem law_true : ∀ ns : List Int, ns.length ≤ 63 → ∃ h, m_law [.scr (ns.map D.int)] [] = .ok (.bl true) h := by
  intro ns hn
  obtain ⟨s, ok, ep⟩ := parts_ev hn
  have c2 := cell_at' (ns := ns) 2 (i := 2) rfl
  have c3 := cell_at' (ns := ns) 3 (i := 3) rfl
  have c4 := cell_at' (ns := ns) 4 (i := 4) rfl
  generalize ns.getD 2 0 = e2 at c2
  generalize ns.getD 3 0 = e3 at c3
  generalize ns.getD 4 0 = e4 at c4
  obtain ⟨i3, q3⟩ := number_ev e3
  obtain ⟨i4, q4⟩ := number_ev e4
  obtain ⟨r, hr, er⟩ : ∃ r : Nat, r < 3 ∧ e2 / 2 % 3 = (r : Int) := ⟨(e2 / 2 % 3).toNat, by omega, by omega⟩
  obtain ⟨r2, hr2, er2⟩ : ∃ r2 : Nat, r2 < 2 ∧ (r : Int) % 2 = (r2 : Int) := ⟨((r : Int) % 2).toNat, by omega, by omega⟩
  have hw0 : (H0 s)[0]? = some (.ins "PartsWalk" L_PartsWalk [s.P true]) := rfl
  have hw1 : (H0 s)[1]? = some (.ins "PartsWalk" L_PartsWalk [s.P false]) := rfl
  have hq0 : ∀ h, oIx (s.Q true) (.int 0) h = some (.tup [.str s.n0, .tup (rowsOne true s.n1 s.n2 s.gn s.own)]) := fun h => by simp [Sh.Q, Sh.ps, encP]
  have hq1 : ∀ h, oIx (s.Q true) (.int 1) h = some (encP (s.n1, .tup (rowsTwo s.sw s.th s.gn))) := fun h => by simp [Sh.Q, Sh.ps, encP]
  have hl1 : ∀ h, oSl (.tup (rowsOne true s.n1 s.n2 s.gn s.own)) none (some 3) h = some (.tup (cut (rowsOne true s.n1 s.n2 s.gn s.own) none (some 3))) := fun h => by simp [oSl]
  have hl2 : ∀ h, oSl (.tup (rowsOne true s.n1 s.n2 s.gn s.own)) (some 4) none h = some (.tup (cut (rowsOne true s.n1 s.n2 s.gn s.own) (some 4) none)) := fun h => by simp [oSl]
  have hl3 : ∀ h, oAdd (.tup (cut (rowsOne true s.n1 s.n2 s.gn s.own) none (some 3))) (.tup (cut (rowsOne true s.n1 s.n2 s.gn s.own) (some 4) none)) h = some (.tup (rowsOne false s.n1 s.n2 s.gn s.own)) := fun h => by
    rw [oAdd_tup (size1000 ?_), less_rows]
    rw [← List.length_append, less_rows]
    simp [rowsOne]
  have hQ2 : (.lst [.tup [.str s.n0, .tup (rowsOne false s.n1 s.n2 s.gn s.own)], encP (s.n1, .tup (rowsTwo s.sw s.th s.gn))] : D) = s.Q false := rfl
  have G1 : ∀ (nums : List Int), nums.length ≤ 100 → callP m__law_gone [] [.loc 0, s.Q true, .int (r : Nat), .lst (nums.map D.int)] (H0 s) = .ok (.bl true) (H0 s) := fun nums hz => callP_walk hw0 P_pur (by simp [Q_pur, purL_map]) (gone ok r hr (by simp) hz)
  have G2 : ∀ (nums : List Int), nums.length ≤ 100 → callP m__law_gone [] [.loc 1, s.Q false, .int (r2 : Nat), .lst (nums.map D.int)] (H0 s) = .ok (.bl true) (H0 s) := fun nums hz => callP_walk hw1 P_pur (by simp [Q_pur, purL_map]) (gone ok r2 (by omega) (fun _ => hr2) hz)
  have G3 : ∀ (nums : List Int), nums.length ≤ 100 → callP m__law_gone [] [.loc 0, s.Q true, .int 0, .lst (nums.map D.int)] (H0 s) = .ok (.bl true) (H0 s) := fun nums hz => callP_walk hw0 P_pur (by simp [Q_pur, purL_map]) (gone ok 0 (by decide) (by simp) hz)
  have T1 : callP m__law_told [] [.loc 0, s.Q true] (H0 s) = .ok (.bl true) (H0 s) := callP_walk hw0 P_pur (by simp [Q_pur]) (told ok)
  have T2 : callP m__law_told [] [.loc 1, s.Q false] (H0 s) = .ok (.bl true) (H0 s) := callP_walk hw1 P_pur (by simp [Q_pur]) (told ok)
  have B1 : callP m__law_bare [] [s.Q true, .lst [.int i3, .int i4]] (H0 s) = .ok (.bl true) (H0 s) := callP_ok (by simp [Q_pur]) bare
  have turn : ∀ (nums : List Int) (x : Option D), nums.length ≤ 100 → f1_law [some (scrD ns), some (s.Q true), some (s.Q false), some (.lst [.int i3, .int i4]), some (.loc 0), some (.loc 1), some (.int (r : Nat)), some (.lst (nums.map D.int))] (H0 s) = .nx [some (scrD ns), some (s.Q true), some (s.Q false), some (.lst [.int i3, .int i4]), some (.loc 0), some (.loc 1), some (.int (r : Nat)), some (.lst (nums.map D.int))] (H0 s) := fun nums x hz => by
    simp [G1 nums hz, G2 nums hz, G3 nums hz, T2, oMod_int, er2]
  have t1 := turn [i3, i4] none (by simp)
  have t2 := turn [] none (by simp)
  have t3 := turn [i4, i3] none (by simp)
  simp only [List.map_cons, List.map_nil] at t1 t2 t3
  refine ⟨H0 s, ?_⟩
  have mk0 : m_PartsWalk___init__ [.loc 0, s.P true] [.ins "PartsWalk" L_PartsWalk []] = .ok .non [.ins "PartsWalk" L_PartsWalk [s.P true]] := by
    simp [m_PartsWalk___init___ev, putFD, setF]
  have mk1 : m_PartsWalk___init__ [.loc 1, s.P false] [.ins "PartsWalk" L_PartsWalk [s.P true], .ins "PartsWalk" L_PartsWalk []] = .ok .non (H0 s) := by
    simp [m_PartsWalk___init___ev, putFD, setF, H0]
  have tp : ∀ a h, oTuple [s.Q a] h = some (s.P a) := fun a h => by simp [Sh.Q, Sh.P]
  have rv : ∀ h, revD (.lst [.int i3, .int i4]) h = .ok (.lst [.int i4, .int i3]) h := fun h => rfl
  show m_law [scrD ns] [] = _
  simp [-f1_law_ev, m_law_ev, callP_pur, scr_pur, ep, hq0, hq1, hl1, hl2, hl3, hQ2, c2, c3, c4, q3, q4, mk0, mk1, tp, oMod_int, oDiv_int, er, rv, t1, t2, t3, T1, B1]
end Bh

set_option maxHeartbeats 4000000
/-! Each def that the law law_k26_walks runs keeps the promise of its mirror; printed by gen.py. -/
namespace Bh
open PySem PySem.Spec PyProof.Rows L2 MW
abbrev R0 : PySem.W.OpenRow := PySem.W.OpenLaw.row PySem.Challenge.rw_bundlehouse_k26_walks
def top (i : Nat) : Stmt := PySem.Challenge.pw_bundlehouse_k26_walks.main.body.getD i (.Pass ⟨0, 0, 0, 0⟩)
def clsBody : Stmt → List Stmt
  | .ClassDef (body := b) .. => b
  | _ => []
def mth (i j : Nat) : Stmt := (clsBody (top i)).getD j (.Pass ⟨0, 0, 0, 0⟩)
abbrev s__law_cell_at : Stmt := top 18
def d__law_cell_at : He.DefD := ⟨("_law_cell_at", none), "_law_cell_at", "_law_cell_at", defArgs s__law_cell_at, defBody s__law_cell_at, defScope s__law_cell_at, [], []⟩
abbrev s__law_name : Stmt := top 20
def d__law_name : He.DefD := ⟨("_law_name", none), "_law_name", "_law_name", defArgs s__law_name, defBody s__law_name, defScope s__law_name, [], []⟩
abbrev s__law_parts : Stmt := top 22
def d__law_parts : He.DefD := ⟨("_law_parts", none), "_law_parts", "_law_parts", defArgs s__law_parts, defBody s__law_parts, defScope s__law_parts, [], []⟩
abbrev s_PartsWalk___init__ : Stmt := mth 16 0
def d_PartsWalk___init__ : He.DefD := ⟨("PartsWalk", some "__init__"), "__init__", "PartsWalk.__init__", defArgs s_PartsWalk___init__, defBody s_PartsWalk___init__, defScope s_PartsWalk___init__, [], []⟩
abbrev s__law_number : Stmt := top 21
def d__law_number : He.DefD := ⟨("_law_number", none), "_law_number", "_law_number", defArgs s__law_number, defBody s__law_number, defScope s__law_number, [], []⟩
abbrev s_Walk_rows_of : Stmt := mth 15 0
def d_Walk_rows_of : He.DefD := ⟨("Walk", some "rows_of"), "rows_of", "Walk.rows_of", defArgs s_Walk_rows_of, defBody s_Walk_rows_of, defScope s_Walk_rows_of, [], []⟩
abbrev s_PartsWalk_rows_of : Stmt := mth 16 1
def d_PartsWalk_rows_of : He.DefD := ⟨("PartsWalk", some "rows_of"), "rows_of", "PartsWalk.rows_of", defArgs s_PartsWalk_rows_of, defBody s_PartsWalk_rows_of, defScope s_PartsWalk_rows_of, [], []⟩
abbrev s_Walk_key_of : Stmt := mth 15 1
def d_Walk_key_of : He.DefD := ⟨("Walk", some "key_of"), "key_of", "Walk.key_of", defArgs s_Walk_key_of, defBody s_Walk_key_of, defScope s_Walk_key_of, [], []⟩
abbrev s_rows_of : Stmt := top 4
def d_rows_of : He.DefD := ⟨("rows_of", none), "rows_of", "rows_of", defArgs s_rows_of, defBody s_rows_of, defScope s_rows_of, [], []⟩
abbrev s_made_by : Stmt := top 5
def d_made_by : He.DefD := ⟨("made_by", none), "made_by", "made_by", defArgs s_made_by, defBody s_made_by, defScope s_made_by, [], []⟩
abbrev s_made_in : Stmt := top 6
def d_made_in : He.DefD := ⟨("made_in", none), "made_in", "made_in", defArgs s_made_in, defBody s_made_in, defScope s_made_in, [], []⟩
abbrev s_brought_from : Stmt := top 7
def d_brought_from : He.DefD := ⟨("brought_from", none), "brought_from", "brought_from", defArgs s_brought_from, defBody s_brought_from, defScope s_brought_from, [], []⟩
abbrev s_given_as : Stmt := top 8
def d_given_as : He.DefD := ⟨("given_as", none), "given_as", "given_as", defArgs s_given_as, defBody s_given_as, defScope s_given_as, [], []⟩
abbrev s_onward : Stmt := top 9
def d_onward : He.DefD := ⟨("onward", none), "onward", "onward", defArgs s_onward, defBody s_onward, defScope s_onward, [], []⟩
abbrev s_maker : Stmt := top 10
def d_maker : He.DefD := ⟨("maker", none), "maker", "maker", defArgs s_maker, defBody s_maker, defScope s_maker, [], []⟩
abbrev s_PartsWalk_key_of : Stmt := mth 16 2
def d_PartsWalk_key_of : He.DefD := ⟨("PartsWalk", some "key_of"), "key_of", "PartsWalk.key_of", defArgs s_PartsWalk_key_of, defBody s_PartsWalk_key_of, defScope s_PartsWalk_key_of, [], []⟩
abbrev s__law_whole : Stmt := top 19
def d__law_whole : He.DefD := ⟨("_law_whole", none), "_law_whole", "_law_whole", defArgs s__law_whole, defBody s__law_whole, defScope s__law_whole, [], []⟩
abbrev s_Walk_loads_of : Stmt := mth 15 2
def d_Walk_loads_of : He.DefD := ⟨("Walk", some "loads_of"), "loads_of", "Walk.loads_of", defArgs s_Walk_loads_of, defBody s_Walk_loads_of, defScope s_Walk_loads_of, [], []⟩
abbrev s_PartsWalk_loads_of : Stmt := mth 15 2
def d_PartsWalk_loads_of : He.DefD := ⟨("PartsWalk", some "loads_of"), "loads_of", "Walk.loads_of", defArgs s_PartsWalk_loads_of, defBody s_PartsWalk_loads_of, defScope s_PartsWalk_loads_of, [], []⟩
abbrev s_Walk_ahead_of : Stmt := mth 15 3
def d_Walk_ahead_of : He.DefD := ⟨("Walk", some "ahead_of"), "ahead_of", "Walk.ahead_of", defArgs s_Walk_ahead_of, defBody s_Walk_ahead_of, defScope s_Walk_ahead_of, [], []⟩
abbrev s_PartsWalk_ahead_of : Stmt := mth 15 3
def d_PartsWalk_ahead_of : He.DefD := ⟨("PartsWalk", some "ahead_of"), "ahead_of", "Walk.ahead_of", defArgs s_PartsWalk_ahead_of, defBody s_PartsWalk_ahead_of, defScope s_PartsWalk_ahead_of, [], []⟩
abbrev s__law_told : Stmt := top 25
def d__law_told : He.DefD := ⟨("_law_told", none), "_law_told", "_law_told", defArgs s__law_told, defBody s__law_told, defScope s__law_told, [], []⟩
abbrev s_Trail___init__ : Stmt := mth 12 0
def d_Trail___init__ : He.DefD := ⟨("Trail", some "__init__"), "__init__", "Trail.__init__", defArgs s_Trail___init__, defBody s_Trail___init__, defScope s_Trail___init__, [], []⟩
abbrev s_Trail_load : Stmt := mth 12 2
def d_Trail_load : He.DefD := ⟨("Trail", some "load"), "load", "Trail.load", defArgs s_Trail_load, defBody s_Trail_load, defScope s_Trail_load, [], []⟩
abbrev s_when_of : Stmt := top 14
def d_when_of : He.DefD := ⟨("when_of", none), "when_of", "when_of", defArgs s_when_of, defBody s_when_of, defScope s_when_of, [], []⟩
abbrev s_sum_names : Stmt := top 1
def d_sum_names : He.DefD := ⟨("sum_names", none), "sum_names", "sum_names", defArgs s_sum_names, defBody s_sum_names, defScope s_sum_names, [], []⟩
abbrev s_read_names : Stmt := top 2
def d_read_names : He.DefD := ⟨("read_names", none), "read_names", "read_names", defArgs s_read_names, defBody s_read_names, defScope s_read_names, [], []⟩
abbrev s_Walk_found_by : Stmt := mth 15 6
def d_Walk_found_by : He.DefD := ⟨("Walk", some "found_by"), "found_by", "Walk.found_by", defArgs s_Walk_found_by, defBody s_Walk_found_by, defScope s_Walk_found_by, [], []⟩
abbrev s_PartsWalk_found_by : Stmt := mth 15 6
def d_PartsWalk_found_by : He.DefD := ⟨("PartsWalk", some "found_by"), "found_by", "Walk.found_by", defArgs s_PartsWalk_found_by, defBody s_PartsWalk_found_by, defScope s_PartsWalk_found_by, [], []⟩
abbrev s_value_of : Stmt := top 13
def d_value_of : He.DefD := ⟨("value_of", none), "value_of", "value_of", defArgs s_value_of, defBody s_value_of, defScope s_value_of, [], []⟩
abbrev s_Trail_take : Stmt := mth 12 1
def d_Trail_take : He.DefD := ⟨("Trail", some "take"), "take", "Trail.take", defArgs s_Trail_take, defBody s_Trail_take, defScope s_Trail_take, [], []⟩
abbrev s_PartsWalk_done : Stmt := mth 15 7
def d_PartsWalk_done : He.DefD := ⟨("PartsWalk", some "done"), "done", "Walk.done", defArgs s_PartsWalk_done, defBody s_PartsWalk_done, defScope s_PartsWalk_done, [], []⟩
abbrev s_PartsWalk_begin : Stmt := mth 15 5
def d_PartsWalk_begin : He.DefD := ⟨("PartsWalk", some "begin"), "begin", "Walk.begin", defArgs s_PartsWalk_begin, defBody s_PartsWalk_begin, defScope s_PartsWalk_begin, [], []⟩
abbrev s_Walk_done : Stmt := mth 15 7
def d_Walk_done : He.DefD := ⟨("Walk", some "done"), "done", "Walk.done", defArgs s_Walk_done, defBody s_Walk_done, defScope s_Walk_done, [], []⟩
abbrev s_Walk_begin : Stmt := mth 15 5
def d_Walk_begin : He.DefD := ⟨("Walk", some "begin"), "begin", "Walk.begin", defArgs s_Walk_begin, defBody s_Walk_begin, defScope s_Walk_begin, [], []⟩
abbrev s_Walk_go : Stmt := mth 15 4
def d_Walk_go : He.DefD := ⟨("Walk", some "go"), "go", "Walk.go", defArgs s_Walk_go, defBody s_Walk_go, defScope s_Walk_go, [], []⟩
abbrev s_PartsWalk_go : Stmt := mth 15 4
def d_PartsWalk_go : He.DefD := ⟨("PartsWalk", some "go"), "go", "Walk.go", defArgs s_PartsWalk_go, defBody s_PartsWalk_go, defScope s_PartsWalk_go, [], []⟩
abbrev s__law_bare : Stmt := top 26
def d__law_bare : He.DefD := ⟨("_law_bare", none), "_law_bare", "_law_bare", defArgs s__law_bare, defBody s__law_bare, defScope s__law_bare, [], []⟩
abbrev s__law_due : Stmt := top 23
def d__law_due : He.DefD := ⟨("_law_due", none), "_law_due", "_law_due", defArgs s__law_due, defBody s__law_due, defScope s__law_due, [], []⟩
abbrev s__law_gone : Stmt := top 24
def d__law_gone : He.DefD := ⟨("_law_gone", none), "_law_gone", "_law_gone", defArgs s__law_gone, defBody s__law_gone, defScope s__law_gone, [], []⟩
abbrev s_law : Stmt := top 27
def d_law : He.DefD := ⟨("law", none), "law", "law", defArgs s_law, defBody s_law, defScope s_law, [], []⟩
def fnL : List He.DefD := [d__law_cell_at, d__law_name, d__law_parts, d_PartsWalk___init__, d__law_number, d_Walk_rows_of, d_PartsWalk_rows_of, d_Walk_key_of, d_rows_of, d_made_by, d_made_in, d_brought_from, d_given_as, d_onward, d_maker, d_PartsWalk_key_of, d__law_whole, d_Walk_loads_of, d_PartsWalk_loads_of, d_Walk_ahead_of, d_PartsWalk_ahead_of, d__law_told, d_Trail___init__, d_Trail_load, d_when_of, d_sum_names, d_read_names, d_Walk_found_by, d_PartsWalk_found_by, d_value_of, d_Trail_take, d_PartsWalk_done, d_PartsWalk_begin, d_Walk_done, d_Walk_begin, d_Walk_go, d_PartsWalk_go, d__law_bare, d__law_due, d__law_gone, d_law]
def exB (K : PySem.W.Frag) : Bool := ([mk0B K "Walk", insB K "PartsWalk", insB K "Trail", insB K "Walk", subB K "PartsWalk" "PartsWalk" true, subB K "PartsWalk" "Trail" false, subB K "PartsWalk" "Walk" true, subB K "Trail" "PartsWalk" false, subB K "Trail" "Trail" true, subB K "Trail" "Walk" false, subB K "Walk" "PartsWalk" false, subB K "Walk" "Trail" false, subB K "Walk" "Walk" true] : List Bool).all id
def faL : List He.Fa := [.glo "PartsWalk", .glo "Trail", .glo "Walk", .glo "_law_bare", .glo "_law_cell_at", .glo "_law_due", .glo "_law_gone", .glo "_law_name", .glo "_law_number", .glo "_law_parts", .glo "_law_told", .glo "_law_whole", .glo "brought_from", .glo "given_as", .glo "law", .glo "made_by", .glo "made_in", .glo "maker", .glo "onward", .glo "read_names", .glo "rows_of", .glo "sum_names", .glo "value_of", .glo "when_of", .free "bool", .free "enumerate", .free "int", .free "isinstance", .free "len", .free "list", .free "range", .free "reversed", .free "str", .free "tuple", .cls "PartsWalk", .cls "Trail", .cls "Walk", .noat "Trail" "begun", .noat "Trail" "fault", .noat "Trail" "known", .noat "Trail" "loaded", .noat "Trail" "numbers", .noat "PartsWalk" "parts", .noat "Trail" "taken", .noat "Trail" "trace", .mkr "PartsWalk", .meth "Walk" "rows_of", .meth "PartsWalk" "rows_of", .meth "Walk" "key_of", .meth "PartsWalk" "key_of", .meth "Walk" "loads_of", .meth "PartsWalk" "loads_of", .meth "Walk" "ahead_of", .meth "PartsWalk" "ahead_of", .mkr "Trail", .meth "Trail" "load", .meth "Walk" "found_by", .meth "PartsWalk" "found_by", .meth "Trail" "take", .meth "PartsWalk" "done", .meth "PartsWalk" "begin", .meth "Walk" "done", .meth "Walk" "begin", .meth "Walk" "go", .meth "PartsWalk" "go"]
structure Ctx (w : World) (K : PySem.W.Frag) (mg : PySem.Str → Option Value) (h : Heap) : Prop where
  X : K.In h
  G : h.Ns mainGlobals mg
  c : He.SaysX faL fnL [] [] exB w h K
section
variable {P : Program} {w : World} {K : PySem.W.Frag} {mg : PySem.Str → Option Value} {h base : Heap}
theorem g_PartsWalk (Y : Ctx w K mg h) : mg "PartsWalk" = some (.ref (He.ga K "PartsWalk")) := He.glo_ok Y.X Y.G (Y.c.t.d.fact 0 (f := .glo "PartsWalk") rfl)
theorem g_Trail (Y : Ctx w K mg h) : mg "Trail" = some (.ref (He.ga K "Trail")) := He.glo_ok Y.X Y.G (Y.c.t.d.fact 1 (f := .glo "Trail") rfl)
theorem g_Walk (Y : Ctx w K mg h) : mg "Walk" = some (.ref (He.ga K "Walk")) := He.glo_ok Y.X Y.G (Y.c.t.d.fact 2 (f := .glo "Walk") rfl)
theorem g__law_bare (Y : Ctx w K mg h) : mg "_law_bare" = some (.ref (He.ga K "_law_bare")) := He.glo_ok Y.X Y.G (Y.c.t.d.fact 3 (f := .glo "_law_bare") rfl)
theorem g__law_cell_at (Y : Ctx w K mg h) : mg "_law_cell_at" = some (.ref (He.ga K "_law_cell_at")) := He.glo_ok Y.X Y.G (Y.c.t.d.fact 4 (f := .glo "_law_cell_at") rfl)
theorem g__law_due (Y : Ctx w K mg h) : mg "_law_due" = some (.ref (He.ga K "_law_due")) := He.glo_ok Y.X Y.G (Y.c.t.d.fact 5 (f := .glo "_law_due") rfl)
theorem g__law_gone (Y : Ctx w K mg h) : mg "_law_gone" = some (.ref (He.ga K "_law_gone")) := He.glo_ok Y.X Y.G (Y.c.t.d.fact 6 (f := .glo "_law_gone") rfl)
theorem g__law_name (Y : Ctx w K mg h) : mg "_law_name" = some (.ref (He.ga K "_law_name")) := He.glo_ok Y.X Y.G (Y.c.t.d.fact 7 (f := .glo "_law_name") rfl)
theorem g__law_number (Y : Ctx w K mg h) : mg "_law_number" = some (.ref (He.ga K "_law_number")) := He.glo_ok Y.X Y.G (Y.c.t.d.fact 8 (f := .glo "_law_number") rfl)
theorem g__law_parts (Y : Ctx w K mg h) : mg "_law_parts" = some (.ref (He.ga K "_law_parts")) := He.glo_ok Y.X Y.G (Y.c.t.d.fact 9 (f := .glo "_law_parts") rfl)
theorem g__law_told (Y : Ctx w K mg h) : mg "_law_told" = some (.ref (He.ga K "_law_told")) := He.glo_ok Y.X Y.G (Y.c.t.d.fact 10 (f := .glo "_law_told") rfl)
theorem g__law_whole (Y : Ctx w K mg h) : mg "_law_whole" = some (.ref (He.ga K "_law_whole")) := He.glo_ok Y.X Y.G (Y.c.t.d.fact 11 (f := .glo "_law_whole") rfl)
theorem g_brought_from (Y : Ctx w K mg h) : mg "brought_from" = some (.ref (He.ga K "brought_from")) := He.glo_ok Y.X Y.G (Y.c.t.d.fact 12 (f := .glo "brought_from") rfl)
theorem g_given_as (Y : Ctx w K mg h) : mg "given_as" = some (.ref (He.ga K "given_as")) := He.glo_ok Y.X Y.G (Y.c.t.d.fact 13 (f := .glo "given_as") rfl)
theorem g_law (Y : Ctx w K mg h) : mg "law" = some (.ref (He.ga K "law")) := He.glo_ok Y.X Y.G (Y.c.t.d.fact 14 (f := .glo "law") rfl)
theorem g_made_by (Y : Ctx w K mg h) : mg "made_by" = some (.ref (He.ga K "made_by")) := He.glo_ok Y.X Y.G (Y.c.t.d.fact 15 (f := .glo "made_by") rfl)
theorem g_made_in (Y : Ctx w K mg h) : mg "made_in" = some (.ref (He.ga K "made_in")) := He.glo_ok Y.X Y.G (Y.c.t.d.fact 16 (f := .glo "made_in") rfl)
theorem g_maker (Y : Ctx w K mg h) : mg "maker" = some (.ref (He.ga K "maker")) := He.glo_ok Y.X Y.G (Y.c.t.d.fact 17 (f := .glo "maker") rfl)
theorem g_onward (Y : Ctx w K mg h) : mg "onward" = some (.ref (He.ga K "onward")) := He.glo_ok Y.X Y.G (Y.c.t.d.fact 18 (f := .glo "onward") rfl)
theorem g_read_names (Y : Ctx w K mg h) : mg "read_names" = some (.ref (He.ga K "read_names")) := He.glo_ok Y.X Y.G (Y.c.t.d.fact 19 (f := .glo "read_names") rfl)
theorem g_rows_of (Y : Ctx w K mg h) : mg "rows_of" = some (.ref (He.ga K "rows_of")) := He.glo_ok Y.X Y.G (Y.c.t.d.fact 20 (f := .glo "rows_of") rfl)
theorem g_sum_names (Y : Ctx w K mg h) : mg "sum_names" = some (.ref (He.ga K "sum_names")) := He.glo_ok Y.X Y.G (Y.c.t.d.fact 21 (f := .glo "sum_names") rfl)
theorem g_value_of (Y : Ctx w K mg h) : mg "value_of" = some (.ref (He.ga K "value_of")) := He.glo_ok Y.X Y.G (Y.c.t.d.fact 22 (f := .glo "value_of") rfl)
theorem g_when_of (Y : Ctx w K mg h) : mg "when_of" = some (.ref (He.ga K "when_of")) := He.glo_ok Y.X Y.G (Y.c.t.d.fact 23 (f := .glo "when_of") rfl)
theorem fr_bool (Y : Ctx w K mg h) : mg "bool" = none := He.free_ok Y.X Y.G (Y.c.t.d.fact 24 (f := .free "bool") rfl)
theorem fr_enumerate (Y : Ctx w K mg h) : mg "enumerate" = none := He.free_ok Y.X Y.G (Y.c.t.d.fact 25 (f := .free "enumerate") rfl)
theorem fr_int (Y : Ctx w K mg h) : mg "int" = none := He.free_ok Y.X Y.G (Y.c.t.d.fact 26 (f := .free "int") rfl)
theorem fr_isinstance (Y : Ctx w K mg h) : mg "isinstance" = none := He.free_ok Y.X Y.G (Y.c.t.d.fact 27 (f := .free "isinstance") rfl)
theorem fr_len (Y : Ctx w K mg h) : mg "len" = none := He.free_ok Y.X Y.G (Y.c.t.d.fact 28 (f := .free "len") rfl)
theorem fr_list (Y : Ctx w K mg h) : mg "list" = none := He.free_ok Y.X Y.G (Y.c.t.d.fact 29 (f := .free "list") rfl)
theorem fr_range (Y : Ctx w K mg h) : mg "range" = none := He.free_ok Y.X Y.G (Y.c.t.d.fact 30 (f := .free "range") rfl)
theorem fr_reversed (Y : Ctx w K mg h) : mg "reversed" = none := He.free_ok Y.X Y.G (Y.c.t.d.fact 31 (f := .free "reversed") rfl)
theorem fr_str (Y : Ctx w K mg h) : mg "str" = none := He.free_ok Y.X Y.G (Y.c.t.d.fact 32 (f := .free "str") rfl)
theorem fr_tuple (Y : Ctx w K mg h) : mg "tuple" = none := He.free_ok Y.X Y.G (Y.c.t.d.fact 33 (f := .free "tuple") rfl)
theorem cl_PartsWalk (Y : Ctx w K mg h) : Cls K (He.ga K "PartsWalk") := He.cls_ok (Y.c.t.d.fact 34 (f := .cls "PartsWalk") rfl)
theorem cl_Trail (Y : Ctx w K mg h) : Cls K (He.ga K "Trail") := He.cls_ok (Y.c.t.d.fact 35 (f := .cls "Trail") rfl)
theorem cl_Walk (Y : Ctx w K mg h) : Cls K (He.ga K "Walk") := He.cls_ok (Y.c.t.d.fact 36 (f := .cls "Walk") rfl)
theorem fl_begun (Y : Ctx w K mg h) : FldC K ["Trail"] "begun" := by
  intro c hc
  simp only [List.mem_cons, List.not_mem_nil, or_false] at hc
  rcases hc with rfl
  · exact ⟨cl_Trail Y, He.noat_ok (Y.c.t.d.fact 37 (f := .noat "Trail" "begun") rfl)⟩
theorem fl_fault (Y : Ctx w K mg h) : FldC K ["Trail"] "fault" := by
  intro c hc
  simp only [List.mem_cons, List.not_mem_nil, or_false] at hc
  rcases hc with rfl
  · exact ⟨cl_Trail Y, He.noat_ok (Y.c.t.d.fact 38 (f := .noat "Trail" "fault") rfl)⟩
theorem fl_known (Y : Ctx w K mg h) : FldC K ["Trail"] "known" := by
  intro c hc
  simp only [List.mem_cons, List.not_mem_nil, or_false] at hc
  rcases hc with rfl
  · exact ⟨cl_Trail Y, He.noat_ok (Y.c.t.d.fact 39 (f := .noat "Trail" "known") rfl)⟩
theorem fl_loaded (Y : Ctx w K mg h) : FldC K ["Trail"] "loaded" := by
  intro c hc
  simp only [List.mem_cons, List.not_mem_nil, or_false] at hc
  rcases hc with rfl
  · exact ⟨cl_Trail Y, He.noat_ok (Y.c.t.d.fact 40 (f := .noat "Trail" "loaded") rfl)⟩
theorem fl_numbers (Y : Ctx w K mg h) : FldC K ["Trail"] "numbers" := by
  intro c hc
  simp only [List.mem_cons, List.not_mem_nil, or_false] at hc
  rcases hc with rfl
  · exact ⟨cl_Trail Y, He.noat_ok (Y.c.t.d.fact 41 (f := .noat "Trail" "numbers") rfl)⟩
theorem fl_parts (Y : Ctx w K mg h) : FldC K ["PartsWalk"] "parts" := by
  intro c hc
  simp only [List.mem_cons, List.not_mem_nil, or_false] at hc
  rcases hc with rfl
  · exact ⟨cl_PartsWalk Y, He.noat_ok (Y.c.t.d.fact 42 (f := .noat "PartsWalk" "parts") rfl)⟩
theorem fl_taken (Y : Ctx w K mg h) : FldC K ["Trail"] "taken" := by
  intro c hc
  simp only [List.mem_cons, List.not_mem_nil, or_false] at hc
  rcases hc with rfl
  · exact ⟨cl_Trail Y, He.noat_ok (Y.c.t.d.fact 43 (f := .noat "Trail" "taken") rfl)⟩
theorem fl_trace (Y : Ctx w K mg h) : FldC K ["Trail"] "trace" := by
  intro c hc
  simp only [List.mem_cons, List.not_mem_nil, or_false] at hc
  rcases hc with rfl
  · exact ⟨cl_Trail Y, He.noat_ok (Y.c.t.d.fact 44 (f := .noat "Trail" "trace") rfl)⟩
theorem mr_PartsWalk (Y : Ctx w K mg h) : Mk K (He.ga K "PartsWalk") (He.ma K (He.ga K "PartsWalk") "__init__") := He.mkr_ok (Y.c.t.d.fact 45 (f := .mkr "PartsWalk") rfl)
theorem me_Walk_rows_of (Y : Ctx w K mg h) : Meth K (He.ga K "Walk") "rows_of" (He.ma K (He.ga K "Walk") "rows_of") := He.meth_ok (Y.c.t.d.fact 46 (f := .meth "Walk" "rows_of") rfl)
theorem me_PartsWalk_rows_of (Y : Ctx w K mg h) : Meth K (He.ga K "PartsWalk") "rows_of" (He.ma K (He.ga K "PartsWalk") "rows_of") := He.meth_ok (Y.c.t.d.fact 47 (f := .meth "PartsWalk" "rows_of") rfl)
theorem me_Walk_key_of (Y : Ctx w K mg h) : Meth K (He.ga K "Walk") "key_of" (He.ma K (He.ga K "Walk") "key_of") := He.meth_ok (Y.c.t.d.fact 48 (f := .meth "Walk" "key_of") rfl)
theorem me_PartsWalk_key_of (Y : Ctx w K mg h) : Meth K (He.ga K "PartsWalk") "key_of" (He.ma K (He.ga K "PartsWalk") "key_of") := He.meth_ok (Y.c.t.d.fact 49 (f := .meth "PartsWalk" "key_of") rfl)
theorem me_Walk_loads_of (Y : Ctx w K mg h) : Meth K (He.ga K "Walk") "loads_of" (He.ma K (He.ga K "Walk") "loads_of") := He.meth_ok (Y.c.t.d.fact 50 (f := .meth "Walk" "loads_of") rfl)
theorem me_PartsWalk_loads_of (Y : Ctx w K mg h) : Meth K (He.ga K "PartsWalk") "loads_of" (He.ma K (He.ga K "PartsWalk") "loads_of") := He.meth_ok (Y.c.t.d.fact 51 (f := .meth "PartsWalk" "loads_of") rfl)
theorem me_Walk_ahead_of (Y : Ctx w K mg h) : Meth K (He.ga K "Walk") "ahead_of" (He.ma K (He.ga K "Walk") "ahead_of") := He.meth_ok (Y.c.t.d.fact 52 (f := .meth "Walk" "ahead_of") rfl)
theorem me_PartsWalk_ahead_of (Y : Ctx w K mg h) : Meth K (He.ga K "PartsWalk") "ahead_of" (He.ma K (He.ga K "PartsWalk") "ahead_of") := He.meth_ok (Y.c.t.d.fact 53 (f := .meth "PartsWalk" "ahead_of") rfl)
theorem mr_Trail (Y : Ctx w K mg h) : Mk K (He.ga K "Trail") (He.ma K (He.ga K "Trail") "__init__") := He.mkr_ok (Y.c.t.d.fact 54 (f := .mkr "Trail") rfl)
theorem me_Trail_load (Y : Ctx w K mg h) : Meth K (He.ga K "Trail") "load" (He.ma K (He.ga K "Trail") "load") := He.meth_ok (Y.c.t.d.fact 55 (f := .meth "Trail" "load") rfl)
theorem me_Walk_found_by (Y : Ctx w K mg h) : Meth K (He.ga K "Walk") "found_by" (He.ma K (He.ga K "Walk") "found_by") := He.meth_ok (Y.c.t.d.fact 56 (f := .meth "Walk" "found_by") rfl)
theorem me_PartsWalk_found_by (Y : Ctx w K mg h) : Meth K (He.ga K "PartsWalk") "found_by" (He.ma K (He.ga K "PartsWalk") "found_by") := He.meth_ok (Y.c.t.d.fact 57 (f := .meth "PartsWalk" "found_by") rfl)
theorem me_Trail_take (Y : Ctx w K mg h) : Meth K (He.ga K "Trail") "take" (He.ma K (He.ga K "Trail") "take") := He.meth_ok (Y.c.t.d.fact 58 (f := .meth "Trail" "take") rfl)
theorem me_PartsWalk_done (Y : Ctx w K mg h) : Meth K (He.ga K "PartsWalk") "done" (He.ma K (He.ga K "PartsWalk") "done") := He.meth_ok (Y.c.t.d.fact 59 (f := .meth "PartsWalk" "done") rfl)
theorem me_PartsWalk_begin (Y : Ctx w K mg h) : Meth K (He.ga K "PartsWalk") "begin" (He.ma K (He.ga K "PartsWalk") "begin") := He.meth_ok (Y.c.t.d.fact 60 (f := .meth "PartsWalk" "begin") rfl)
theorem me_Walk_done (Y : Ctx w K mg h) : Meth K (He.ga K "Walk") "done" (He.ma K (He.ga K "Walk") "done") := He.meth_ok (Y.c.t.d.fact 61 (f := .meth "Walk" "done") rfl)
theorem me_Walk_begin (Y : Ctx w K mg h) : Meth K (He.ga K "Walk") "begin" (He.ma K (He.ga K "Walk") "begin") := He.meth_ok (Y.c.t.d.fact 62 (f := .meth "Walk" "begin") rfl)
theorem me_Walk_go (Y : Ctx w K mg h) : Meth K (He.ga K "Walk") "go" (He.ma K (He.ga K "Walk") "go") := He.meth_ok (Y.c.t.d.fact 63 (f := .meth "Walk" "go") rfl)
theorem me_PartsWalk_go (Y : Ctx w K mg h) : Meth K (He.ga K "PartsWalk") "go" (He.ma K (He.ga K "PartsWalk") "go") := He.meth_ok (Y.c.t.d.fact 64 (f := .meth "PartsWalk" "go") rfl)
theorem exAt (Y : Ctx w K mg h) (i : Nat) {b : Bool} (e : ([mk0B K "Walk", insB K "PartsWalk", insB K "Trail", insB K "Walk", subB K "PartsWalk" "PartsWalk" true, subB K "PartsWalk" "Trail" false, subB K "PartsWalk" "Walk" true, subB K "Trail" "PartsWalk" false, subB K "Trail" "Trail" true, subB K "Trail" "Walk" false, subB K "Walk" "PartsWalk" false, subB K "Walk" "Trail" false, subB K "Walk" "Walk" true] : List Bool)[i]? = some b) : b = true := by
  have q := List.all_eq_true.mp (show ([mk0B K "Walk", insB K "PartsWalk", insB K "Trail", insB K "Walk", subB K "PartsWalk" "PartsWalk" true, subB K "PartsWalk" "Trail" false, subB K "PartsWalk" "Walk" true, subB K "Trail" "PartsWalk" false, subB K "Trail" "Trail" true, subB K "Trail" "Walk" false, subB K "Walk" "PartsWalk" false, subB K "Walk" "Trail" false, subB K "Walk" "Walk" true] : List Bool).all id = true from Y.c.more) b (List.mem_of_getElem? e)
  exact q
theorem mk_Walk (Y : Ctx w K mg h) : Mk0 K (He.ga K "Walk") := mk0B_ok (exAt Y 0 rfl)
theorem in_PartsWalk (Y : Ctx w K mg h) : InsC K "PartsWalk" := insB_ok (cl_PartsWalk Y) (exAt Y 1 rfl)
theorem in_Trail (Y : Ctx w K mg h) : InsC K "Trail" := insB_ok (cl_Trail Y) (exAt Y 2 rfl)
theorem in_Walk (Y : Ctx w K mg h) : InsC K "Walk" := insB_ok (cl_Walk Y) (exAt Y 3 rfl)
theorem sb_PartsWalk_PartsWalk (Y : Ctx w K mg h) : PySem.W.kitOne K (.ref (He.ga K "PartsWalk")) (.ref (He.ga K "PartsWalk")) = some true := subB_ok (exAt Y 4 rfl)
theorem sb_PartsWalk_Trail (Y : Ctx w K mg h) : PySem.W.kitOne K (.ref (He.ga K "PartsWalk")) (.ref (He.ga K "Trail")) = some false := subB_ok (exAt Y 5 rfl)
theorem sb_PartsWalk_Walk (Y : Ctx w K mg h) : PySem.W.kitOne K (.ref (He.ga K "PartsWalk")) (.ref (He.ga K "Walk")) = some true := subB_ok (exAt Y 6 rfl)
theorem sb_Trail_PartsWalk (Y : Ctx w K mg h) : PySem.W.kitOne K (.ref (He.ga K "Trail")) (.ref (He.ga K "PartsWalk")) = some false := subB_ok (exAt Y 7 rfl)
theorem sb_Trail_Trail (Y : Ctx w K mg h) : PySem.W.kitOne K (.ref (He.ga K "Trail")) (.ref (He.ga K "Trail")) = some true := subB_ok (exAt Y 8 rfl)
theorem sb_Trail_Walk (Y : Ctx w K mg h) : PySem.W.kitOne K (.ref (He.ga K "Trail")) (.ref (He.ga K "Walk")) = some false := subB_ok (exAt Y 9 rfl)
theorem sb_Walk_PartsWalk (Y : Ctx w K mg h) : PySem.W.kitOne K (.ref (He.ga K "Walk")) (.ref (He.ga K "PartsWalk")) = some false := subB_ok (exAt Y 10 rfl)
theorem sb_Walk_Trail (Y : Ctx w K mg h) : PySem.W.kitOne K (.ref (He.ga K "Walk")) (.ref (He.ga K "Trail")) = some false := subB_ok (exAt Y 11 rfl)
theorem sb_Walk_Walk (Y : Ctx w K mg h) : PySem.W.kitOne K (.ref (He.ga K "Walk")) (.ref (He.ga K "Walk")) = some true := subB_ok (exAt Y 12 rfl)
theorem subC_ok (Y : Ctx w K mg h) : ∀ a b r, subC a b = some r → InsC K a ∧ PySem.W.kitOne K (.ref (He.ga K a)) (.ref (He.ga K b)) = some r := by
  intro a b r e
  unfold subC at e
  split at e
  · cases e; exact ⟨in_Trail Y, sb_Trail_Trail Y⟩
  · cases e; exact ⟨in_Trail Y, sb_Trail_Walk Y⟩
  · cases e; exact ⟨in_Trail Y, sb_Trail_PartsWalk Y⟩
  · cases e; exact ⟨in_Walk Y, sb_Walk_Trail Y⟩
  · cases e; exact ⟨in_Walk Y, sb_Walk_Walk Y⟩
  · cases e; exact ⟨in_Walk Y, sb_Walk_PartsWalk Y⟩
  · cases e; exact ⟨in_PartsWalk Y, sb_PartsWalk_Trail Y⟩
  · cases e; exact ⟨in_PartsWalk Y, sb_PartsWalk_Walk Y⟩
  · cases e; exact ⟨in_PartsWalk Y, sb_PartsWalk_PartsWalk Y⟩
  · cases e
theorem sc__law_cell_at : FnScope ["_law_script", "_law_k"] ["_law_script", "_law_k"] (defScope s__law_cell_at) := ⟨rfl, rfl, rfl, by decide +kernel, rfl, by decide +kernel, by decide +kernel⟩
theorem by__law_cell_at (Y : Ctx w K mg h) {f : Addr} {cdv : Value} {A : Around} {outer : List Env} {s : Shared} {H : Hp} {E : XK} (hr : Room 0 (A.deeper (envOfC "_law_cell_at" (defScope s__law_cell_at) s.heap.objs.size f cdv)))
    (tk : Takes (cxOf (L2.CX P w) P w K mg base ["_law_script", "_law_k"] "_law_cell_at" (defScope s__law_cell_at) f cdv A outer s H E) (fun cls d _ H => E cls d H)) (hp : PassesOwn (model P w) (A.deeper (envOfC "_law_cell_at" (defScope s__law_cell_at) s.heap.objs.size f cdv)) (envOfC "_law_cell_at" (defScope s__law_cell_at) s.heap.objs.size f cdv) (cxOf (L2.CX P w) P w K mg base ["_law_script", "_law_k"] "_law_cell_at" (defScope s__law_cell_at) f cdv A outer s H E).xe) :
    SSs (cxOf (L2.CX P w) P w K mg base ["_law_script", "_law_k"] "_law_cell_at" (defScope s__law_cell_at) f cdv A outer s H E) (fun cls d _ H => E cls d H) (defBody s__law_cell_at) b__law_cell_at :=
  have hN : (["_law_script", "_law_k"] : List PySem.Str).Nodup := sc__law_cell_at.nd
  (sss_cons (ss_if (st_cmp cmp_lt (se_var 1) (se_B b_len (fr_len Y) (sa_cons (se_var 0) sa_nil))) (sss_one (ss_ret (se_ix hr (se_var 0) (se_var 1)))) sss_nil)
  (sss_one (ss_ret se_int)))
theorem ok__law_cell_at (Y : Ctx w K mg h) : CalF P w K mg base 1 "_law_cell_at" m__law_cell_at 2 [] := by
  obtain ⟨fd, F⟩ := Y.c.t.d.def_ 0 (d := d__law_cell_at) rfl
  exact ⟨_, fd, ["_law_script", "_law_k"], [], [], fn_ok F sc__law_cell_at (fun cdv A outer s H E hr tk hp => by__law_cell_at Y hr tk hp), g__law_cell_at Y, F.kp, F.bindsN (fun _ _ _ _ _ _ us hl => match us, hl with | [_, _], _ => rfl), .nil, fun _ => .nil⟩
theorem sc__law_name : FnScope ["_law_form", "_law_k", "_law_base", "_law_at"] ["_law_form", "_law_k"] (defScope s__law_name) := ⟨rfl, rfl, rfl, by decide +kernel, rfl, by decide +kernel, by decide +kernel⟩
theorem by__law_name (Y : Ctx w K mg h) {f : Addr} {cdv : Value} {A : Around} {outer : List Env} {s : Shared} {H : Hp} {E : XK} (hr : Room 0 (A.deeper (envOfC "_law_name" (defScope s__law_name) s.heap.objs.size f cdv)))
    (tk : Takes (cxOf (L2.CX P w) P w K mg base ["_law_form", "_law_k", "_law_base", "_law_at"] "_law_name" (defScope s__law_name) f cdv A outer s H E) (fun cls d _ H => E cls d H)) (hp : PassesOwn (model P w) (A.deeper (envOfC "_law_name" (defScope s__law_name) s.heap.objs.size f cdv)) (envOfC "_law_name" (defScope s__law_name) s.heap.objs.size f cdv) (cxOf (L2.CX P w) P w K mg base ["_law_form", "_law_k", "_law_base", "_law_at"] "_law_name" (defScope s__law_name) f cdv A outer s H E).xe) :
    SSs (cxOf (L2.CX P w) P w K mg base ["_law_form", "_law_k", "_law_base", "_law_at"] "_law_name" (defScope s__law_name) f cdv A outer s H E) (fun cls d _ H => E cls d H) (defBody s__law_name) b__law_name :=
  have hN : (["_law_form", "_law_k", "_law_base", "_law_at"] : List PySem.Str).Nodup := sc__law_name.nd
  (sss_cons (ss_set 2 hN (se_ix hr (se_lst (sa_cons (se_str (s := [])) (sa_cons (se_str (s := [119])) (sa_cons (se_str (s := [116, 97, 107, 101])) (sa_cons (se_str (s := [103, 111, 55])) (sa_cons (se_str (s := [119, 97, 108, 107, 115])) sa_nil)))))) (se_op bin_mod (se_var 0) se_int)))
  (sss_cons (ss_set 3 hN (se_op bin_mod (se_op bin_div (se_var 0) se_int) (se_op bin_add (se_B b_len (fr_len Y) (sa_cons (se_var 2) sa_nil)) se_int)))
  (sss_one (ss_ret (se_op bin_add (se_op bin_add (se_sl (se_var 2) spo_none (spo_some (se_var 3))) (se_ix hr (se_str (s := [97, 98, 99, 100, 101, 102, 103, 104])) (se_var 1))) (se_sl (se_var 2) (spo_some (se_var 3)) spo_none))))))
theorem ok__law_name (Y : Ctx w K mg h) : CalF P w K mg base 1 "_law_name" m__law_name 2 [] := by
  obtain ⟨fd, F⟩ := Y.c.t.d.def_ 1 (d := d__law_name) rfl
  exact ⟨_, fd, ["_law_form", "_law_k"], [], [], fn_ok F sc__law_name (fun cdv A outer s H E hr tk hp => by__law_name Y hr tk hp), g__law_name Y, F.kp, F.bindsN (fun _ _ _ _ _ _ us hl => match us, hl with | [_, _], _ => rfl), .nil, fun _ => .nil⟩
theorem sc__law_parts : FnScope ["_law_script", "_law_form", "_law_own", "_law_there", "_law_given", "_law_one", "_law_two", "_law_three", "_law_cell"] ["_law_script"] (defScope s__law_parts) := ⟨rfl, rfl, rfl, by decide +kernel, rfl, by decide +kernel, by decide +kernel⟩
theorem by__law_parts (Y : Ctx w K mg h) {f : Addr} {cdv : Value} {A : Around} {outer : List Env} {s : Shared} {H : Hp} {E : XK} (hr : Room 1 (A.deeper (envOfC "_law_parts" (defScope s__law_parts) s.heap.objs.size f cdv)))
    (tk : Takes (cxOf (L2.CX P w) P w K mg base ["_law_script", "_law_form", "_law_own", "_law_there", "_law_given", "_law_one", "_law_two", "_law_three", "_law_cell"] "_law_parts" (defScope s__law_parts) f cdv A outer s H E) (fun cls d _ H => E cls d H)) (hp : PassesOwn (model P w) (A.deeper (envOfC "_law_parts" (defScope s__law_parts) s.heap.objs.size f cdv)) (envOfC "_law_parts" (defScope s__law_parts) s.heap.objs.size f cdv) (cxOf (L2.CX P w) P w K mg base ["_law_script", "_law_form", "_law_own", "_law_there", "_law_given", "_law_one", "_law_two", "_law_three", "_law_cell"] "_law_parts" (defScope s__law_parts) f cdv A outer s H E).xe) :
    SSs (cxOf (L2.CX P w) P w K mg base ["_law_script", "_law_form", "_law_own", "_law_there", "_law_given", "_law_one", "_law_two", "_law_three", "_law_cell"] "_law_parts" (defScope s__law_parts) f cdv A outer s H E) (fun cls d _ H => E cls d H) (defBody s__law_parts) b__law_parts :=
  have hN : (["_law_script", "_law_form", "_law_own", "_law_there", "_law_given", "_law_one", "_law_two", "_law_three", "_law_cell"] : List PySem.Str).Nodup := sc__law_parts.nd
  (sss_cons (ss_set 1 hN (se_cp (ok__law_cell_at Y) hr tk (sa_cons (se_var 0) (sa_cons se_int sa_nil)) ))
  (sss_cons (ss_set 2 hN (se_cp (ok__law_name Y) hr tk (sa_cons (se_op bin_div (se_var 1) se_int) (sa_cons (se_op bin_mod (se_cp (ok__law_cell_at Y) hr tk (sa_cons (se_var 0) (sa_cons se_int sa_nil)) ) se_int) sa_nil)) ))
  (sss_cons (ss_set 3 hN (se_cp (ok__law_name Y) hr tk (sa_cons (se_op bin_div (se_var 1) se_int) (sa_cons (se_op bin_mod (se_op bin_div (se_cp (ok__law_cell_at Y) hr tk (sa_cons (se_var 0) (sa_cons se_int sa_nil)) ) se_int) se_int) sa_nil)) ))
  (sss_cons (ss_set 4 hN (se_cp (ok__law_name Y) hr tk (sa_cons (se_op bin_div (se_var 1) se_int) (sa_cons (se_op bin_mod (se_op bin_div (se_cp (ok__law_cell_at Y) hr tk (sa_cons (se_var 0) (sa_cons se_int sa_nil)) ) se_int) se_int) sa_nil)) ))
  (sss_cons (ss_set 5 hN (se_lst (sa_cons (se_tup (sa_cons (se_str (s := [98, 114, 105, 110, 103])) (sa_cons (se_cp (ok__law_name Y) hr tk (sa_cons (se_var 1) (sa_cons se_int sa_nil)) ) (sa_cons (se_tup (sa_cons (se_tup (sa_cons (se_var 4) (sa_cons (se_var 2) sa_nil))) sa_nil)) sa_nil)))) (sa_cons (se_tup (sa_cons (se_str (s := [115, 97, 121])) (sa_cons (se_tup (sa_cons (se_tup (sa_cons se_int (sa_cons (se_var 2) sa_nil))) (sa_cons (se_tup (sa_cons se_int (sa_cons se_int sa_nil))) sa_nil))) (sa_cons se_non sa_nil)))) sa_nil))))
  (sss_cons (ss_set 5 hN (se_op bin_add (se_var 5) (se_lst (sa_cons (se_tup (sa_cons (se_str (s := [110, 101, 101, 100])) (sa_cons (se_tup (sa_cons (se_tup (sa_cons se_int (sa_cons (se_var 2) sa_nil))) (sa_cons (se_tup (sa_cons se_int (sa_cons se_int sa_nil))) sa_nil))) sa_nil))) (sa_cons (se_tup (sa_cons (se_str (s := [97, 115, 107])) (sa_cons (se_cp (ok__law_name Y) hr tk (sa_cons (se_var 1) (sa_cons se_int sa_nil)) ) (sa_cons (se_var 2) sa_nil)))) (sa_cons (se_tup (sa_cons (se_str (s := [115, 97, 121])) (sa_cons (se_tup (sa_cons (se_tup (sa_cons se_int (sa_cons (se_var 2) sa_nil))) sa_nil)) (sa_cons se_non sa_nil)))) sa_nil))))))
  (sss_cons (ss_set 6 hN (se_lst (sa_cons (se_tup (sa_cons (se_str (s := [116, 97, 107, 101])) (sa_cons (se_var 3) sa_nil))) (sa_cons (se_tup (sa_cons (se_str (s := [115, 97, 121])) (sa_cons (se_tup (sa_cons (se_tup (sa_cons se_int (sa_cons se_int sa_nil))) sa_nil)) (sa_cons se_non sa_nil)))) (sa_cons (se_tup (sa_cons (se_str (s := [103, 105, 118, 101])) (sa_cons (se_var 3) (sa_cons (se_var 4) sa_nil)))) sa_nil)))))
  (sss_cons (ss_if (st_cmp (cmp_eq hr) (se_op bin_mod (se_cp (ok__law_cell_at Y) hr tk (sa_cons (se_var 0) (sa_cons se_int sa_nil)) ) se_int) se_int) (sss_one (ss_set 6 hN (se_lst (sa_cons (se_ix hr (se_var 6) se_int) (sa_cons (se_ix hr (se_var 6) se_int) (sa_cons (se_ix hr (se_var 6) se_int) sa_nil)))))) sss_nil)
  (sss_cons (ss_setLc 7 (own := [("_law_cell", 8)]) rfl hN (si_seq (se_sl (se_var 0) (spo_some se_int) (spo_some se_int))) (by change blkC ["_law_script", "_law_form", "_law_own", "_law_there", "_law_given", "_law_one", "_law_two", "_law_three", "_law_cell"] (defScope s__law_parts) _ _ = true; decide +kernel) (fun _ _ _ _ _ => (sgc_name 8 hN)) (fun _ _ _ _ _ => sts_nil) (fun _ _ _ _ _ => (se_tup (sa_cons (se_str (s := [115, 97, 121])) (sa_cons (se_tup (sa_cons (se_tup (sa_cons se_int (sa_cons (se_op bin_mod (se_var 8) (se_op bin_pow se_int se_int)) sa_nil))) sa_nil)) (sa_cons se_non sa_nil))))))
  (sss_one (ss_ret (se_lst (sa_cons (se_tup (sa_cons (se_cp (ok__law_name Y) hr tk (sa_cons (se_var 1) (sa_cons se_int sa_nil)) ) (sa_cons (se_T b_tuple (fr_tuple Y) (sa_cons (se_var 5) sa_nil)) sa_nil))) (sa_cons (se_tup (sa_cons (se_cp (ok__law_name Y) hr tk (sa_cons (se_var 1) (sa_cons se_int sa_nil)) ) (sa_cons (se_T b_tuple (fr_tuple Y) (sa_cons (se_var 6) sa_nil)) sa_nil))) (sa_cons (se_tup (sa_cons (se_cp (ok__law_name Y) hr tk (sa_cons (se_var 1) (sa_cons se_int sa_nil)) ) (sa_cons (se_T b_tuple (fr_tuple Y) (sa_cons (se_var 7) sa_nil)) sa_nil))) sa_nil)))))))))))))))
theorem ok__law_parts (Y : Ctx w K mg h) : CalF P w K mg base 2 "_law_parts" m__law_parts 1 [] := by
  obtain ⟨fd, F⟩ := Y.c.t.d.def_ 2 (d := d__law_parts) rfl
  exact ⟨_, fd, ["_law_script"], [], [], fn_ok F sc__law_parts (fun cdv A outer s H E hr tk hp => by__law_parts Y hr tk hp), g__law_parts Y, F.kp, F.bindsN (fun _ _ _ _ _ _ us hl => match us, hl with | [_], _ => rfl), .nil, fun _ => .nil⟩
theorem sc_PartsWalk___init__ : FnScope ["self", "parts"] ["self", "parts"] (defScope s_PartsWalk___init__) := ⟨rfl, rfl, rfl, by decide +kernel, rfl, by decide +kernel, by decide +kernel⟩
theorem by_PartsWalk___init__ (Y : Ctx w K mg h) {f : Addr} {cdv : Value} {A : Around} {outer : List Env} {s : Shared} {H : Hp} {E : XK} (hr : Room 0 (A.deeper (envOfC "PartsWalk.__init__" (defScope s_PartsWalk___init__) s.heap.objs.size f cdv)))
    (tk : Takes (cxOf (L2.CX P w) P w K mg base ["self", "parts"] "PartsWalk.__init__" (defScope s_PartsWalk___init__) f cdv A outer s H E) (fun cls d _ H => E cls d H)) (hp : PassesOwn (model P w) (A.deeper (envOfC "PartsWalk.__init__" (defScope s_PartsWalk___init__) s.heap.objs.size f cdv)) (envOfC "PartsWalk.__init__" (defScope s_PartsWalk___init__) s.heap.objs.size f cdv) (cxOf (L2.CX P w) P w K mg base ["self", "parts"] "PartsWalk.__init__" (defScope s_PartsWalk___init__) f cdv A outer s H E).xe) :
    SSs (cxOf (L2.CX P w) P w K mg base ["self", "parts"] "PartsWalk.__init__" (defScope s_PartsWalk___init__) f cdv A outer s H E) (fun cls d _ H => E cls d H) (defBody s_PartsWalk___init__) b_PartsWalk___init__ :=
  have hN : (["self", "parts"] : List PySem.Str).Nodup := sc_PartsWalk___init__.nd
  (sss_one (ss_fld (fl_parts Y) (se_var 0) (se_var 1)))
theorem mak_PartsWalk (Y : Ctx w K mg h) : MakF P w K mg base 1 "PartsWalk" "PartsWalk" m_PartsWalk___init__ 2 [] := by
  obtain ⟨fd, F⟩ := Y.c.t.d.def_ 3 (d := d_PartsWalk___init__) rfl
  exact ⟨_, fd, ["self", "parts"], [], [], fn_ok F sc_PartsWalk___init__ (fun cdv A outer s H E hr tk hp => by_PartsWalk___init__ Y hr tk hp), mr_PartsWalk Y, g_PartsWalk Y, F.bindsN (fun _ _ _ _ _ _ us hl => match us, hl with | [_, _], _ => rfl), .nil, fun _ => .nil⟩
theorem sc__law_number : FnScope ["_law_cell"] ["_law_cell"] (defScope s__law_number) := ⟨rfl, rfl, rfl, by decide +kernel, rfl, by decide +kernel, by decide +kernel⟩
theorem by__law_number (Y : Ctx w K mg h) {f : Addr} {cdv : Value} {A : Around} {outer : List Env} {s : Shared} {H : Hp} {E : XK} (hr : Room 0 (A.deeper (envOfC "_law_number" (defScope s__law_number) s.heap.objs.size f cdv)))
    (tk : Takes (cxOf (L2.CX P w) P w K mg base ["_law_cell"] "_law_number" (defScope s__law_number) f cdv A outer s H E) (fun cls d _ H => E cls d H)) (hp : PassesOwn (model P w) (A.deeper (envOfC "_law_number" (defScope s__law_number) s.heap.objs.size f cdv)) (envOfC "_law_number" (defScope s__law_number) s.heap.objs.size f cdv) (cxOf (L2.CX P w) P w K mg base ["_law_cell"] "_law_number" (defScope s__law_number) f cdv A outer s H E).xe) :
    SSs (cxOf (L2.CX P w) P w K mg base ["_law_cell"] "_law_number" (defScope s__law_number) f cdv A outer s H E) (fun cls d _ H => E cls d H) (defBody s__law_number) b__law_number :=
  have hN : (["_law_cell"] : List PySem.Str).Nodup := sc__law_number.nd
  (sss_cons (ss_if (st_cmp (cmp_eq hr) (se_op bin_mod (se_var 0) se_int) se_int) (sss_one (ss_ret (se_op bin_sub (se_op bin_mod (se_op bin_div (se_var 0) se_int) se_int) se_int))) sss_nil)
  (sss_one (ss_ret (se_op bin_add (se_op bin_sub (se_op bin_mod (se_op bin_div (se_var 0) se_int) (se_op bin_sub (se_op bin_mul se_int (se_op bin_pow se_int se_int)) se_int)) (se_op bin_pow se_int se_int)) se_int))))
theorem ok__law_number (Y : Ctx w K mg h) : CalF P w K mg base 1 "_law_number" m__law_number 1 [] := by
  obtain ⟨fd, F⟩ := Y.c.t.d.def_ 4 (d := d__law_number) rfl
  exact ⟨_, fd, ["_law_cell"], [], [], fn_ok F sc__law_number (fun cdv A outer s H E hr tk hp => by__law_number Y hr tk hp), g__law_number Y, F.kp, F.bindsN (fun _ _ _ _ _ _ us hl => match us, hl with | [_], _ => rfl), .nil, fun _ => .nil⟩
theorem sc_Walk_rows_of : FnScope ["self", "part"] ["self", "part"] (defScope s_Walk_rows_of) := ⟨rfl, rfl, rfl, by decide +kernel, rfl, by decide +kernel, by decide +kernel⟩
theorem by_Walk_rows_of (Y : Ctx w K mg h) {f : Addr} {cdv : Value} {A : Around} {outer : List Env} {s : Shared} {H : Hp} {E : XK} (hr : Room 0 (A.deeper (envOfC "Walk.rows_of" (defScope s_Walk_rows_of) s.heap.objs.size f cdv)))
    (tk : Takes (cxOf (L2.CX P w) P w K mg base ["self", "part"] "Walk.rows_of" (defScope s_Walk_rows_of) f cdv A outer s H E) (fun cls d _ H => E cls d H)) (hp : PassesOwn (model P w) (A.deeper (envOfC "Walk.rows_of" (defScope s_Walk_rows_of) s.heap.objs.size f cdv)) (envOfC "Walk.rows_of" (defScope s_Walk_rows_of) s.heap.objs.size f cdv) (cxOf (L2.CX P w) P w K mg base ["self", "part"] "Walk.rows_of" (defScope s_Walk_rows_of) f cdv A outer s H E).xe) :
    SSs (cxOf (L2.CX P w) P w K mg base ["self", "part"] "Walk.rows_of" (defScope s_Walk_rows_of) f cdv A outer s H E) (fun cls d _ H => E cls d H) (defBody s_Walk_rows_of) b_Walk_rows_of :=
  have hN : (["self", "part"] : List PySem.Str).Nodup := sc_Walk_rows_of.nd
  (sss_one (ss_ret (se_tup sa_nil)))
theorem ok_Walk_rows_of (Y : Ctx w K mg h) : MthF P w K mg base 1 "Walk" "rows_of" m_Walk_rows_of 2 [] := by
  obtain ⟨fd, F⟩ := Y.c.t.d.def_ 5 (d := d_Walk_rows_of) rfl
  exact ⟨_, fd, ["self", "part"], [], [], fn_ok F sc_Walk_rows_of (fun cdv A outer s H E hr tk hp => by_Walk_rows_of Y hr tk hp), cl_Walk Y, me_Walk_rows_of Y, F.bindsN (fun _ _ _ _ _ _ us hl => match us, hl with | [_, _], _ => rfl), .nil, fun _ => .nil⟩
theorem sc_PartsWalk_rows_of : FnScope ["self", "part", "name", "rows", "number"] ["self", "part"] (defScope s_PartsWalk_rows_of) := ⟨rfl, rfl, rfl, by decide +kernel, rfl, by decide +kernel, by decide +kernel⟩
theorem by_PartsWalk_rows_of (Y : Ctx w K mg h) {f : Addr} {cdv : Value} {A : Around} {outer : List Env} {s : Shared} {H : Hp} {E : XK} (hr : Room 0 (A.deeper (envOfC "PartsWalk.rows_of" (defScope s_PartsWalk_rows_of) s.heap.objs.size f cdv)))
    (tk : Takes (cxOf (L2.CX P w) P w K mg base ["self", "part", "name", "rows", "number"] "PartsWalk.rows_of" (defScope s_PartsWalk_rows_of) f cdv A outer s H E) (fun cls d _ H => E cls d H)) (hp : PassesOwn (model P w) (A.deeper (envOfC "PartsWalk.rows_of" (defScope s_PartsWalk_rows_of) s.heap.objs.size f cdv)) (envOfC "PartsWalk.rows_of" (defScope s_PartsWalk_rows_of) s.heap.objs.size f cdv) (cxOf (L2.CX P w) P w K mg base ["self", "part", "name", "rows", "number"] "PartsWalk.rows_of" (defScope s_PartsWalk_rows_of) f cdv A outer s H E).xe) :
    SSs (cxOf (L2.CX P w) P w K mg base ["self", "part", "name", "rows", "number"] "PartsWalk.rows_of" (defScope s_PartsWalk_rows_of) f cdv A outer s H E) (fun cls d _ H => E cls d H) (defBody s_PartsWalk_rows_of) b_PartsWalk_rows_of :=
  have hN : (["self", "part", "name", "rows", "number"] : List PySem.Str).Nodup := sc_PartsWalk_rows_of.nd
  (sss_cons (ss_for hp rfl (si_seq (se_fld (fl_parts Y) (se_var 0))) (sg_tup rfl (sgs_cons (sg_name 2 hN) (sgs_cons (sg_name 3 hN) sgs_nil))) (sss_one (ss_if (st_cmp (cmp_eq hr) (se_var 2) (se_var 1)) (sss_one (ss_ret (se_T b_tuple (fr_tuple Y) (sa_cons (se_lc (own := [("number", 4)]) rfl hN (si_range1 (fr_range Y) (sa_cons (se_B b_len (fr_len Y) (sa_cons (se_var 3) sa_nil)) sa_nil)) (by change blkC ["self", "part", "name", "rows", "number"] (defScope s_PartsWalk_rows_of) _ _ = true; decide +kernel) (fun _ _ _ _ _ => (sgc_name 4 hN)) (fun _ _ _ _ _ => sts_nil) (fun _ _ _ _ _ => (se_tup (sa_cons (se_var 1) (sa_cons (se_var 4) (sa_cons (se_ix hr (se_var 3) (se_var 4)) sa_nil)))))) sa_nil)))) sss_nil)))
  (sss_one (ss_ret (se_tup sa_nil))))
theorem ok_PartsWalk_rows_of (Y : Ctx w K mg h) : MthF P w K mg base 1 "PartsWalk" "rows_of" m_PartsWalk_rows_of 2 [] := by
  obtain ⟨fd, F⟩ := Y.c.t.d.def_ 6 (d := d_PartsWalk_rows_of) rfl
  exact ⟨_, fd, ["self", "part"], [], [], fn_ok F sc_PartsWalk_rows_of (fun cdv A outer s H E hr tk hp => by_PartsWalk_rows_of Y hr tk hp), cl_PartsWalk Y, me_PartsWalk_rows_of Y, F.bindsN (fun _ _ _ _ _ _ us hl => match us, hl with | [_, _], _ => rfl), .nil, fun _ => .nil⟩
theorem sc_Walk_key_of : FnScope ["self", "part", "name"] ["self", "part", "name"] (defScope s_Walk_key_of) := ⟨rfl, rfl, rfl, by decide +kernel, rfl, by decide +kernel, by decide +kernel⟩
theorem by_Walk_key_of (Y : Ctx w K mg h) {f : Addr} {cdv : Value} {A : Around} {outer : List Env} {s : Shared} {H : Hp} {E : XK} (hr : Room 0 (A.deeper (envOfC "Walk.key_of" (defScope s_Walk_key_of) s.heap.objs.size f cdv)))
    (tk : Takes (cxOf (L2.CX P w) P w K mg base ["self", "part", "name"] "Walk.key_of" (defScope s_Walk_key_of) f cdv A outer s H E) (fun cls d _ H => E cls d H)) (hp : PassesOwn (model P w) (A.deeper (envOfC "Walk.key_of" (defScope s_Walk_key_of) s.heap.objs.size f cdv)) (envOfC "Walk.key_of" (defScope s_Walk_key_of) s.heap.objs.size f cdv) (cxOf (L2.CX P w) P w K mg base ["self", "part", "name"] "Walk.key_of" (defScope s_Walk_key_of) f cdv A outer s H E).xe) :
    SSs (cxOf (L2.CX P w) P w K mg base ["self", "part", "name"] "Walk.key_of" (defScope s_Walk_key_of) f cdv A outer s H E) (fun cls d _ H => E cls d H) (defBody s_Walk_key_of) b_Walk_key_of :=
  have hN : (["self", "part", "name"] : List PySem.Str).Nodup := sc_Walk_key_of.nd
  (sss_one (ss_ret (se_var 2)))
theorem ok_Walk_key_of (Y : Ctx w K mg h) : MthF P w K mg base 1 "Walk" "key_of" m_Walk_key_of 3 [] := by
  obtain ⟨fd, F⟩ := Y.c.t.d.def_ 7 (d := d_Walk_key_of) rfl
  exact ⟨_, fd, ["self", "part", "name"], [], [], fn_ok F sc_Walk_key_of (fun cdv A outer s H E hr tk hp => by_Walk_key_of Y hr tk hp), cl_Walk Y, me_Walk_key_of Y, F.bindsN (fun _ _ _ _ _ _ us hl => match us, hl with | [_, _, _], _ => rfl), .nil, fun _ => .nil⟩
theorem sc_rows_of : FnScope ["parts", "part", "name", "rows"] ["parts", "part"] (defScope s_rows_of) := ⟨rfl, rfl, rfl, by decide +kernel, rfl, by decide +kernel, by decide +kernel⟩
theorem by_rows_of (Y : Ctx w K mg h) {f : Addr} {cdv : Value} {A : Around} {outer : List Env} {s : Shared} {H : Hp} {E : XK} (hr : Room 0 (A.deeper (envOfC "rows_of" (defScope s_rows_of) s.heap.objs.size f cdv)))
    (tk : Takes (cxOf (L2.CX P w) P w K mg base ["parts", "part", "name", "rows"] "rows_of" (defScope s_rows_of) f cdv A outer s H E) (fun cls d _ H => E cls d H)) (hp : PassesOwn (model P w) (A.deeper (envOfC "rows_of" (defScope s_rows_of) s.heap.objs.size f cdv)) (envOfC "rows_of" (defScope s_rows_of) s.heap.objs.size f cdv) (cxOf (L2.CX P w) P w K mg base ["parts", "part", "name", "rows"] "rows_of" (defScope s_rows_of) f cdv A outer s H E).xe) :
    SSs (cxOf (L2.CX P w) P w K mg base ["parts", "part", "name", "rows"] "rows_of" (defScope s_rows_of) f cdv A outer s H E) (fun cls d _ H => E cls d H) (defBody s_rows_of) b_rows_of :=
  have hN : (["parts", "part", "name", "rows"] : List PySem.Str).Nodup := sc_rows_of.nd
  (sss_cons (ss_for hp rfl (si_seq (se_var 0)) (sg_tup rfl (sgs_cons (sg_name 2 hN) (sgs_cons (sg_name 3 hN) sgs_nil))) (sss_one (ss_if (st_cmp (cmp_eq hr) (se_var 2) (se_var 1)) (sss_one (ss_ret (se_var 3))) sss_nil)))
  (sss_one (ss_ret (se_tup sa_nil))))
theorem ok_rows_of (Y : Ctx w K mg h) : CalF P w K mg base 1 "rows_of" m_rows_of 2 [] := by
  obtain ⟨fd, F⟩ := Y.c.t.d.def_ 8 (d := d_rows_of) rfl
  exact ⟨_, fd, ["parts", "part"], [], [], fn_ok F sc_rows_of (fun cdv A outer s H E hr tk hp => by_rows_of Y hr tk hp), g_rows_of Y, F.kp, F.bindsN (fun _ _ _ _ _ _ us hl => match us, hl with | [_, _], _ => rfl), .nil, fun _ => .nil⟩
theorem sc_made_by : FnScope ["row"] ["row"] (defScope s_made_by) := ⟨rfl, rfl, rfl, by decide +kernel, rfl, by decide +kernel, by decide +kernel⟩
theorem by_made_by (Y : Ctx w K mg h) {f : Addr} {cdv : Value} {A : Around} {outer : List Env} {s : Shared} {H : Hp} {E : XK} (hr : Room 0 (A.deeper (envOfC "made_by" (defScope s_made_by) s.heap.objs.size f cdv)))
    (tk : Takes (cxOf (L2.CX P w) P w K mg base ["row"] "made_by" (defScope s_made_by) f cdv A outer s H E) (fun cls d _ H => E cls d H)) (hp : PassesOwn (model P w) (A.deeper (envOfC "made_by" (defScope s_made_by) s.heap.objs.size f cdv)) (envOfC "made_by" (defScope s_made_by) s.heap.objs.size f cdv) (cxOf (L2.CX P w) P w K mg base ["row"] "made_by" (defScope s_made_by) f cdv A outer s H E).xe) :
    SSs (cxOf (L2.CX P w) P w K mg base ["row"] "made_by" (defScope s_made_by) f cdv A outer s H E) (fun cls d _ H => E cls d H) (defBody s_made_by) b_made_by :=
  have hN : (["row"] : List PySem.Str).Nodup := sc_made_by.nd
  (sss_cons (ss_if (st_w (sw_or (st_cmp (cmp_eq hr) (se_ix hr (se_var 0) se_int) (se_str (s := [115, 101, 116]))) (sw_or1 (st_cmp (cmp_eq hr) (se_ix hr (se_var 0) se_int) (se_str (s := [116, 97, 107, 101])))))) (sss_one (ss_ret (se_ix hr (se_var 0) se_int))) sss_nil)
  (sss_one (ss_ret se_non)))
theorem ok_made_by (Y : Ctx w K mg h) : CalF P w K mg base 1 "made_by" m_made_by 1 [] := by
  obtain ⟨fd, F⟩ := Y.c.t.d.def_ 9 (d := d_made_by) rfl
  exact ⟨_, fd, ["row"], [], [], fn_ok F sc_made_by (fun cdv A outer s H E hr tk hp => by_made_by Y hr tk hp), g_made_by Y, F.kp, F.bindsN (fun _ _ _ _ _ _ us hl => match us, hl with | [_], _ => rfl), .nil, fun _ => .nil⟩
theorem sc_made_in : FnScope ["parts", "part", "own", "number", "row"] ["parts", "part", "own"] (defScope s_made_in) := ⟨rfl, rfl, rfl, by decide +kernel, rfl, by decide +kernel, by decide +kernel⟩
theorem by_made_in (Y : Ctx w K mg h) {f : Addr} {cdv : Value} {A : Around} {outer : List Env} {s : Shared} {H : Hp} {E : XK} (hr : Room 1 (A.deeper (envOfC "made_in" (defScope s_made_in) s.heap.objs.size f cdv)))
    (tk : Takes (cxOf (L2.CX P w) P w K mg base ["parts", "part", "own", "number", "row"] "made_in" (defScope s_made_in) f cdv A outer s H E) (fun cls d _ H => E cls d H)) (hp : PassesOwn (model P w) (A.deeper (envOfC "made_in" (defScope s_made_in) s.heap.objs.size f cdv)) (envOfC "made_in" (defScope s_made_in) s.heap.objs.size f cdv) (cxOf (L2.CX P w) P w K mg base ["parts", "part", "own", "number", "row"] "made_in" (defScope s_made_in) f cdv A outer s H E).xe) :
    SSs (cxOf (L2.CX P w) P w K mg base ["parts", "part", "own", "number", "row"] "made_in" (defScope s_made_in) f cdv A outer s H E) (fun cls d _ H => E cls d H) (defBody s_made_in) b_made_in :=
  have hN : (["parts", "part", "own", "number", "row"] : List PySem.Str).Nodup := sc_made_in.nd
  (sss_cons (ss_for hp rfl (si_enum (se_cp (ok_rows_of Y) hr tk (sa_cons (se_var 0) (sa_cons (se_var 1) sa_nil)) ) (fr_enumerate Y)) (sg_tup rfl (sgs_cons (sg_name 3 hN) (sgs_cons (sg_name 4 hN) sgs_nil))) (sss_one (ss_if (st_cmp (cmp_eq hr) (se_cp (ok_made_by Y) hr tk (sa_cons (se_var 4) sa_nil) ) (se_var 2)) (sss_one (ss_ret (se_var 3))) sss_nil)))
  (sss_one (ss_ret se_non)))
theorem ok_made_in (Y : Ctx w K mg h) : CalF P w K mg base 2 "made_in" m_made_in 3 [] := by
  obtain ⟨fd, F⟩ := Y.c.t.d.def_ 10 (d := d_made_in) rfl
  exact ⟨_, fd, ["parts", "part", "own"], [], [], fn_ok F sc_made_in (fun cdv A outer s H E hr tk hp => by_made_in Y hr tk hp), g_made_in Y, F.kp, F.bindsN (fun _ _ _ _ _ _ us hl => match us, hl with | [_, _, _], _ => rfl), .nil, fun _ => .nil⟩
theorem sc_brought_from : FnScope ["parts", "part", "own", "row", "given", "name"] ["parts", "part", "own"] (defScope s_brought_from) := ⟨rfl, rfl, rfl, by decide +kernel, rfl, by decide +kernel, by decide +kernel⟩
theorem by_brought_from (Y : Ctx w K mg h) {f : Addr} {cdv : Value} {A : Around} {outer : List Env} {s : Shared} {H : Hp} {E : XK} (hr : Room 1 (A.deeper (envOfC "brought_from" (defScope s_brought_from) s.heap.objs.size f cdv)))
    (tk : Takes (cxOf (L2.CX P w) P w K mg base ["parts", "part", "own", "row", "given", "name"] "brought_from" (defScope s_brought_from) f cdv A outer s H E) (fun cls d _ H => E cls d H)) (hp : PassesOwn (model P w) (A.deeper (envOfC "brought_from" (defScope s_brought_from) s.heap.objs.size f cdv)) (envOfC "brought_from" (defScope s_brought_from) s.heap.objs.size f cdv) (cxOf (L2.CX P w) P w K mg base ["parts", "part", "own", "row", "given", "name"] "brought_from" (defScope s_brought_from) f cdv A outer s H E).xe) :
    SSs (cxOf (L2.CX P w) P w K mg base ["parts", "part", "own", "row", "given", "name"] "brought_from" (defScope s_brought_from) f cdv A outer s H E) (fun cls d _ H => E cls d H) (defBody s_brought_from) b_brought_from :=
  have hN : (["parts", "part", "own", "row", "given", "name"] : List PySem.Str).Nodup := sc_brought_from.nd
  (sss_cons (ss_for hp rfl (si_seq (se_cp (ok_rows_of Y) hr tk (sa_cons (se_var 0) (sa_cons (se_var 1) sa_nil)) )) (sg_name 3 hN) (sss_one (ss_if (st_cmp (cmp_eq hr) (se_ix hr (se_var 3) se_int) (se_str (s := [98, 114, 105, 110, 103]))) (sss_one (ss_for hp rfl (si_seq (se_ix hr (se_var 3) se_int)) (sg_tup rfl (sgs_cons (sg_name 4 hN) (sgs_cons (sg_name 5 hN) sgs_nil))) (sss_one (ss_if (st_cmp (cmp_eq hr) (se_var 5) (se_var 2)) (sss_one (ss_ret (se_tup (sa_cons (se_ix hr (se_var 3) se_int) (sa_cons (se_var 4) sa_nil))))) sss_nil)))) sss_nil)))
  (sss_one (ss_ret se_non)))
theorem ok_brought_from (Y : Ctx w K mg h) : CalF P w K mg base 2 "brought_from" m_brought_from 3 [] := by
  obtain ⟨fd, F⟩ := Y.c.t.d.def_ 11 (d := d_brought_from) rfl
  exact ⟨_, fd, ["parts", "part", "own"], [], [], fn_ok F sc_brought_from (fun cdv A outer s H E hr tk hp => by_brought_from Y hr tk hp), g_brought_from Y, F.kp, F.bindsN (fun _ _ _ _ _ _ us hl => match us, hl with | [_, _, _], _ => rfl), .nil, fun _ => .nil⟩
theorem sc_given_as : FnScope ["parts", "part", "given", "row"] ["parts", "part", "given"] (defScope s_given_as) := ⟨rfl, rfl, rfl, by decide +kernel, rfl, by decide +kernel, by decide +kernel⟩
theorem by_given_as (Y : Ctx w K mg h) {f : Addr} {cdv : Value} {A : Around} {outer : List Env} {s : Shared} {H : Hp} {E : XK} (hr : Room 1 (A.deeper (envOfC "given_as" (defScope s_given_as) s.heap.objs.size f cdv)))
    (tk : Takes (cxOf (L2.CX P w) P w K mg base ["parts", "part", "given", "row"] "given_as" (defScope s_given_as) f cdv A outer s H E) (fun cls d _ H => E cls d H)) (hp : PassesOwn (model P w) (A.deeper (envOfC "given_as" (defScope s_given_as) s.heap.objs.size f cdv)) (envOfC "given_as" (defScope s_given_as) s.heap.objs.size f cdv) (cxOf (L2.CX P w) P w K mg base ["parts", "part", "given", "row"] "given_as" (defScope s_given_as) f cdv A outer s H E).xe) :
    SSs (cxOf (L2.CX P w) P w K mg base ["parts", "part", "given", "row"] "given_as" (defScope s_given_as) f cdv A outer s H E) (fun cls d _ H => E cls d H) (defBody s_given_as) b_given_as :=
  have hN : (["parts", "part", "given", "row"] : List PySem.Str).Nodup := sc_given_as.nd
  (sss_cons (ss_for hp rfl (si_seq (se_cp (ok_rows_of Y) hr tk (sa_cons (se_var 0) (sa_cons (se_var 1) sa_nil)) )) (sg_name 3 hN) (sss_one (ss_if (st_w (sw_and (st_cmp (cmp_eq hr) (se_ix hr (se_var 3) se_int) (se_str (s := [103, 105, 118, 101]))) (sw_and1 (st_cmp (cmp_eq hr) (se_ix hr (se_var 3) se_int) (se_var 2))))) (sss_one (ss_ret (se_ix hr (se_var 3) se_int))) sss_nil)))
  (sss_one (ss_ret se_non)))
theorem ok_given_as (Y : Ctx w K mg h) : CalF P w K mg base 2 "given_as" m_given_as 3 [] := by
  obtain ⟨fd, F⟩ := Y.c.t.d.def_ 12 (d := d_given_as) rfl
  exact ⟨_, fd, ["parts", "part", "given"], [], [], fn_ok F sc_given_as (fun cdv A outer s H E hr tk hp => by_given_as Y hr tk hp), g_given_as Y, F.kp, F.bindsN (fun _ _ _ _ _ _ us hl => match us, hl with | [_, _, _], _ => rfl), .nil, fun _ => .nil⟩
theorem sc_onward : FnScope ["parts", "part", "own", "other", "given"] ["parts", "part", "own"] (defScope s_onward) := ⟨rfl, rfl, rfl, by decide +kernel, rfl, by decide +kernel, by decide +kernel⟩
theorem by_onward (Y : Ctx w K mg h) {f : Addr} {cdv : Value} {A : Around} {outer : List Env} {s : Shared} {H : Hp} {E : XK} (hr : Room 2 (A.deeper (envOfC "onward" (defScope s_onward) s.heap.objs.size f cdv)))
    (tk : Takes (cxOf (L2.CX P w) P w K mg base ["parts", "part", "own", "other", "given"] "onward" (defScope s_onward) f cdv A outer s H E) (fun cls d _ H => E cls d H)) (hp : PassesOwn (model P w) (A.deeper (envOfC "onward" (defScope s_onward) s.heap.objs.size f cdv)) (envOfC "onward" (defScope s_onward) s.heap.objs.size f cdv) (cxOf (L2.CX P w) P w K mg base ["parts", "part", "own", "other", "given"] "onward" (defScope s_onward) f cdv A outer s H E).xe) :
    SSs (cxOf (L2.CX P w) P w K mg base ["parts", "part", "own", "other", "given"] "onward" (defScope s_onward) f cdv A outer s H E) (fun cls d _ H => E cls d H) (defBody s_onward) b_onward :=
  have hN : (["parts", "part", "own", "other", "given"] : List PySem.Str).Nodup := sc_onward.nd
  (sss_cons (ss_if (st_cmp cmp_notN (se_cp (ok_made_in Y) hr tk (sa_cons (se_var 0) (sa_cons (se_var 1) (sa_cons (se_var 2) sa_nil))) ) se_non) (sss_one (ss_ret se_non)) sss_nil)
  (sss_cons (ss_asg (se_cp (ok_brought_from Y) hr tk (sa_cons (se_var 0) (sa_cons (se_var 1) (sa_cons (se_var 2) sa_nil))) ) (sg_tup rfl (sgs_cons (sg_name 3 hN) (sgs_cons (sg_name 4 hN) sgs_nil))))
  (sss_one (ss_ret (se_tup (sa_cons (se_var 3) (sa_cons (se_cp (ok_given_as Y) hr tk (sa_cons (se_var 0) (sa_cons (se_var 3) (sa_cons (se_var 4) sa_nil))) ) sa_nil)))))))
theorem ok_onward (Y : Ctx w K mg h) : CalF P w K mg base 3 "onward" m_onward 3 [] := by
  obtain ⟨fd, F⟩ := Y.c.t.d.def_ 13 (d := d_onward) rfl
  exact ⟨_, fd, ["parts", "part", "own"], [], [], fn_ok F sc_onward (fun cdv A outer s H E hr tk hp => by_onward Y hr tk hp), g_onward Y, F.kp, F.bindsN (fun _ _ _ _ _ _ us hl => match us, hl with | [_, _, _], _ => rfl), .nil, fun _ => .nil⟩
theorem sc_maker : FnScope ["parts", "part", "name"] ["parts", "part", "name"] (defScope s_maker) := ⟨rfl, rfl, rfl, by decide +kernel, rfl, by decide +kernel, by decide +kernel⟩
theorem by_maker (Y : Ctx w K mg h) {f : Addr} {cdv : Value} {A : Around} {outer : List Env} {s : Shared} {H : Hp} {E : XK} (hr : Room 3 (A.deeper (envOfC "maker" (defScope s_maker) s.heap.objs.size f cdv)))
    (tk : Takes (cxOf (L2.CX P w) P w K mg base ["parts", "part", "name"] "maker" (defScope s_maker) f cdv A outer s H E) (fun cls d _ H => E cls d H)) (hp : PassesOwn (model P w) (A.deeper (envOfC "maker" (defScope s_maker) s.heap.objs.size f cdv)) (envOfC "maker" (defScope s_maker) s.heap.objs.size f cdv) (cxOf (L2.CX P w) P w K mg base ["parts", "part", "name"] "maker" (defScope s_maker) f cdv A outer s H E).xe) :
    SSs (cxOf (L2.CX P w) P w K mg base ["parts", "part", "name"] "maker" (defScope s_maker) f cdv A outer s H E) (fun cls d _ H => E cls d H) (defBody s_maker) b_maker :=
  have hN : (["parts", "part", "name"] : List PySem.Str).Nodup := sc_maker.nd
  (sss_cons (ss_while 100 hp (st_cmp cmp_isN (se_cp (ok_made_in Y) hr tk (sa_cons (se_var 0) (sa_cons (se_var 1) (sa_cons (se_var 2) sa_nil))) ) se_non) (sss_one (ss_asg (se_cp (ok_onward Y) hr tk (sa_cons (se_var 0) (sa_cons (se_var 1) (sa_cons (se_var 2) sa_nil))) ) (sg_tup rfl (sgs_cons (sg_name 1 hN) (sgs_cons (sg_name 2 hN) sgs_nil))))))
  (sss_one (ss_ret (se_tup (sa_cons (se_var 1) (sa_cons (se_cp (ok_made_in Y) hr tk (sa_cons (se_var 0) (sa_cons (se_var 1) (sa_cons (se_var 2) sa_nil))) ) sa_nil))))))
theorem ok_maker (Y : Ctx w K mg h) : CalF P w K mg base 4 "maker" m_maker 3 [] := by
  obtain ⟨fd, F⟩ := Y.c.t.d.def_ 14 (d := d_maker) rfl
  exact ⟨_, fd, ["parts", "part", "name"], [], [], fn_ok F sc_maker (fun cdv A outer s H E hr tk hp => by_maker Y hr tk hp), g_maker Y, F.kp, F.bindsN (fun _ _ _ _ _ _ us hl => match us, hl with | [_, _, _], _ => rfl), .nil, fun _ => .nil⟩
theorem sc_PartsWalk_key_of : FnScope ["self", "part", "name"] ["self", "part", "name"] (defScope s_PartsWalk_key_of) := ⟨rfl, rfl, rfl, by decide +kernel, rfl, by decide +kernel, by decide +kernel⟩
theorem by_PartsWalk_key_of (Y : Ctx w K mg h) {f : Addr} {cdv : Value} {A : Around} {outer : List Env} {s : Shared} {H : Hp} {E : XK} (hr : Room 4 (A.deeper (envOfC "PartsWalk.key_of" (defScope s_PartsWalk_key_of) s.heap.objs.size f cdv)))
    (tk : Takes (cxOf (L2.CX P w) P w K mg base ["self", "part", "name"] "PartsWalk.key_of" (defScope s_PartsWalk_key_of) f cdv A outer s H E) (fun cls d _ H => E cls d H)) (hp : PassesOwn (model P w) (A.deeper (envOfC "PartsWalk.key_of" (defScope s_PartsWalk_key_of) s.heap.objs.size f cdv)) (envOfC "PartsWalk.key_of" (defScope s_PartsWalk_key_of) s.heap.objs.size f cdv) (cxOf (L2.CX P w) P w K mg base ["self", "part", "name"] "PartsWalk.key_of" (defScope s_PartsWalk_key_of) f cdv A outer s H E).xe) :
    SSs (cxOf (L2.CX P w) P w K mg base ["self", "part", "name"] "PartsWalk.key_of" (defScope s_PartsWalk_key_of) f cdv A outer s H E) (fun cls d _ H => E cls d H) (defBody s_PartsWalk_key_of) b_PartsWalk_key_of :=
  have hN : (["self", "part", "name"] : List PySem.Str).Nodup := sc_PartsWalk_key_of.nd
  (sss_one (ss_ret (se_cp (ok_maker Y) hr tk (sa_cons (se_fld (fl_parts Y) (se_var 0)) (sa_cons (se_var 1) (sa_cons (se_var 2) sa_nil))) )))
theorem ok_PartsWalk_key_of (Y : Ctx w K mg h) : MthF P w K mg base 5 "PartsWalk" "key_of" m_PartsWalk_key_of 3 [] := by
  obtain ⟨fd, F⟩ := Y.c.t.d.def_ 15 (d := d_PartsWalk_key_of) rfl
  exact ⟨_, fd, ["self", "part", "name"], [], [], fn_ok F sc_PartsWalk_key_of (fun cdv A outer s H E hr tk hp => by_PartsWalk_key_of Y hr tk hp), cl_PartsWalk Y, me_PartsWalk_key_of Y, F.bindsN (fun _ _ _ _ _ _ us hl => match us, hl with | [_, _, _], _ => rfl), .nil, fun _ => .nil⟩
theorem sc__law_whole : FnScope ["_law_found"] ["_law_found"] (defScope s__law_whole) := ⟨rfl, rfl, rfl, by decide +kernel, rfl, by decide +kernel, by decide +kernel⟩
theorem by__law_whole (Y : Ctx w K mg h) {f : Addr} {cdv : Value} {A : Around} {outer : List Env} {s : Shared} {H : Hp} {E : XK} (hr : Room 0 (A.deeper (envOfC "_law_whole" (defScope s__law_whole) s.heap.objs.size f cdv)))
    (tk : Takes (cxOf (L2.CX P w) P w K mg base ["_law_found"] "_law_whole" (defScope s__law_whole) f cdv A outer s H E) (fun cls d _ H => E cls d H)) (hp : PassesOwn (model P w) (A.deeper (envOfC "_law_whole" (defScope s__law_whole) s.heap.objs.size f cdv)) (envOfC "_law_whole" (defScope s__law_whole) s.heap.objs.size f cdv) (cxOf (L2.CX P w) P w K mg base ["_law_found"] "_law_whole" (defScope s__law_whole) f cdv A outer s H E).xe) :
    SSs (cxOf (L2.CX P w) P w K mg base ["_law_found"] "_law_whole" (defScope s__law_whole) f cdv A outer s H E) (fun cls d _ H => E cls d H) (defBody s__law_whole) b__law_whole :=
  have hN : (["_law_found"] : List PySem.Str).Nodup := sc__law_whole.nd
  (sss_one (ss_ret (se_and (se_B b_isi (fr_isinstance Y) (sa_cons (se_var 0) (sa_cons (se_ty "int" (fr_int Y)) sa_nil))) (se_one (se_not (se_B b_isi (fr_isinstance Y) (sa_cons (se_var 0) (sa_cons (se_ty "bool" (fr_bool Y)) sa_nil))))))))
theorem ok__law_whole (Y : Ctx w K mg h) : CalF P w K mg base 1 "_law_whole" m__law_whole 1 [] := by
  obtain ⟨fd, F⟩ := Y.c.t.d.def_ 16 (d := d__law_whole) rfl
  exact ⟨_, fd, ["_law_found"], [], [], fn_ok F sc__law_whole (fun cdv A outer s H E hr tk hp => by__law_whole Y hr tk hp), g__law_whole Y, F.kp, F.bindsN (fun _ _ _ _ _ _ us hl => match us, hl with | [_], _ => rfl), .nil, fun _ => .nil⟩
theorem sc_Walk_loads_of : FnScope ["self", "part"] ["self", "part"] (defScope s_Walk_loads_of) := ⟨rfl, rfl, rfl, by decide +kernel, rfl, by decide +kernel, by decide +kernel⟩
theorem by_Walk_loads_of (Y : Ctx w K mg h) {f : Addr} {cdv : Value} {A : Around} {outer : List Env} {s : Shared} {H : Hp} {E : XK} (hr : Room 0 (A.deeper (envOfC "Walk.loads_of" (defScope s_Walk_loads_of) s.heap.objs.size f cdv)))
    (tk : Takes (cxOf (L2.CX P w) P w K mg base ["self", "part"] "Walk.loads_of" (defScope s_Walk_loads_of) f cdv A outer s H E) (fun cls d _ H => E cls d H)) (hp : PassesOwn (model P w) (A.deeper (envOfC "Walk.loads_of" (defScope s_Walk_loads_of) s.heap.objs.size f cdv)) (envOfC "Walk.loads_of" (defScope s_Walk_loads_of) s.heap.objs.size f cdv) (cxOf (L2.CX P w) P w K mg base ["self", "part"] "Walk.loads_of" (defScope s_Walk_loads_of) f cdv A outer s H E).xe) :
    SSs (cxOf (L2.CX P w) P w K mg base ["self", "part"] "Walk.loads_of" (defScope s_Walk_loads_of) f cdv A outer s H E) (fun cls d _ H => E cls d H) (defBody s_Walk_loads_of) b_Walk_loads_of :=
  have hN : (["self", "part"] : List PySem.Str).Nodup := sc_Walk_loads_of.nd
  (sss_one (ss_ret (se_tup sa_nil)))
theorem ok_Walk_loads_of (Y : Ctx w K mg h) : MthF P w K mg base 1 "Walk" "loads_of" m_Walk_loads_of 2 [] := by
  obtain ⟨fd, F⟩ := Y.c.t.d.def_ 17 (d := d_Walk_loads_of) rfl
  exact ⟨_, fd, ["self", "part"], [], [], fn_ok F sc_Walk_loads_of (fun cdv A outer s H E hr tk hp => by_Walk_loads_of Y hr tk hp), cl_Walk Y, me_Walk_loads_of Y, F.bindsN (fun _ _ _ _ _ _ us hl => match us, hl with | [_, _], _ => rfl), .nil, fun _ => .nil⟩
theorem sc_PartsWalk_loads_of : FnScope ["self", "part"] ["self", "part"] (defScope s_PartsWalk_loads_of) := ⟨rfl, rfl, rfl, by decide +kernel, rfl, by decide +kernel, by decide +kernel⟩
theorem by_PartsWalk_loads_of (Y : Ctx w K mg h) {f : Addr} {cdv : Value} {A : Around} {outer : List Env} {s : Shared} {H : Hp} {E : XK} (hr : Room 0 (A.deeper (envOfC "Walk.loads_of" (defScope s_PartsWalk_loads_of) s.heap.objs.size f cdv)))
    (tk : Takes (cxOf (L2.CX P w) P w K mg base ["self", "part"] "Walk.loads_of" (defScope s_PartsWalk_loads_of) f cdv A outer s H E) (fun cls d _ H => E cls d H)) (hp : PassesOwn (model P w) (A.deeper (envOfC "Walk.loads_of" (defScope s_PartsWalk_loads_of) s.heap.objs.size f cdv)) (envOfC "Walk.loads_of" (defScope s_PartsWalk_loads_of) s.heap.objs.size f cdv) (cxOf (L2.CX P w) P w K mg base ["self", "part"] "Walk.loads_of" (defScope s_PartsWalk_loads_of) f cdv A outer s H E).xe) :
    SSs (cxOf (L2.CX P w) P w K mg base ["self", "part"] "Walk.loads_of" (defScope s_PartsWalk_loads_of) f cdv A outer s H E) (fun cls d _ H => E cls d H) (defBody s_PartsWalk_loads_of) b_Walk_loads_of :=
  have hN : (["self", "part"] : List PySem.Str).Nodup := sc_PartsWalk_loads_of.nd
  (sss_one (ss_ret (se_tup sa_nil)))
theorem ok_PartsWalk_loads_of (Y : Ctx w K mg h) : MthF P w K mg base 1 "PartsWalk" "loads_of" m_Walk_loads_of 2 [] := by
  obtain ⟨fd, F⟩ := Y.c.t.d.def_ 18 (d := d_PartsWalk_loads_of) rfl
  exact ⟨_, fd, ["self", "part"], [], [], fn_ok F sc_PartsWalk_loads_of (fun cdv A outer s H E hr tk hp => by_PartsWalk_loads_of Y hr tk hp), cl_PartsWalk Y, me_PartsWalk_loads_of Y, F.bindsN (fun _ _ _ _ _ _ us hl => match us, hl with | [_, _], _ => rfl), .nil, fun _ => .nil⟩
theorem sc_Walk_ahead_of : FnScope ["self", "root"] ["self", "root"] (defScope s_Walk_ahead_of) := ⟨rfl, rfl, rfl, by decide +kernel, rfl, by decide +kernel, by decide +kernel⟩
theorem by_Walk_ahead_of (Y : Ctx w K mg h) {f : Addr} {cdv : Value} {A : Around} {outer : List Env} {s : Shared} {H : Hp} {E : XK} (hr : Room 0 (A.deeper (envOfC "Walk.ahead_of" (defScope s_Walk_ahead_of) s.heap.objs.size f cdv)))
    (tk : Takes (cxOf (L2.CX P w) P w K mg base ["self", "root"] "Walk.ahead_of" (defScope s_Walk_ahead_of) f cdv A outer s H E) (fun cls d _ H => E cls d H)) (hp : PassesOwn (model P w) (A.deeper (envOfC "Walk.ahead_of" (defScope s_Walk_ahead_of) s.heap.objs.size f cdv)) (envOfC "Walk.ahead_of" (defScope s_Walk_ahead_of) s.heap.objs.size f cdv) (cxOf (L2.CX P w) P w K mg base ["self", "root"] "Walk.ahead_of" (defScope s_Walk_ahead_of) f cdv A outer s H E).xe) :
    SSs (cxOf (L2.CX P w) P w K mg base ["self", "root"] "Walk.ahead_of" (defScope s_Walk_ahead_of) f cdv A outer s H E) (fun cls d _ H => E cls d H) (defBody s_Walk_ahead_of) b_Walk_ahead_of :=
  have hN : (["self", "root"] : List PySem.Str).Nodup := sc_Walk_ahead_of.nd
  (sss_one (ss_ret (se_tup sa_nil)))
theorem ok_Walk_ahead_of (Y : Ctx w K mg h) : MthF P w K mg base 1 "Walk" "ahead_of" m_Walk_ahead_of 2 [] := by
  obtain ⟨fd, F⟩ := Y.c.t.d.def_ 19 (d := d_Walk_ahead_of) rfl
  exact ⟨_, fd, ["self", "root"], [], [], fn_ok F sc_Walk_ahead_of (fun cdv A outer s H E hr tk hp => by_Walk_ahead_of Y hr tk hp), cl_Walk Y, me_Walk_ahead_of Y, F.bindsN (fun _ _ _ _ _ _ us hl => match us, hl with | [_, _], _ => rfl), .nil, fun _ => .nil⟩
theorem sc_PartsWalk_ahead_of : FnScope ["self", "root"] ["self", "root"] (defScope s_PartsWalk_ahead_of) := ⟨rfl, rfl, rfl, by decide +kernel, rfl, by decide +kernel, by decide +kernel⟩
theorem by_PartsWalk_ahead_of (Y : Ctx w K mg h) {f : Addr} {cdv : Value} {A : Around} {outer : List Env} {s : Shared} {H : Hp} {E : XK} (hr : Room 0 (A.deeper (envOfC "Walk.ahead_of" (defScope s_PartsWalk_ahead_of) s.heap.objs.size f cdv)))
    (tk : Takes (cxOf (L2.CX P w) P w K mg base ["self", "root"] "Walk.ahead_of" (defScope s_PartsWalk_ahead_of) f cdv A outer s H E) (fun cls d _ H => E cls d H)) (hp : PassesOwn (model P w) (A.deeper (envOfC "Walk.ahead_of" (defScope s_PartsWalk_ahead_of) s.heap.objs.size f cdv)) (envOfC "Walk.ahead_of" (defScope s_PartsWalk_ahead_of) s.heap.objs.size f cdv) (cxOf (L2.CX P w) P w K mg base ["self", "root"] "Walk.ahead_of" (defScope s_PartsWalk_ahead_of) f cdv A outer s H E).xe) :
    SSs (cxOf (L2.CX P w) P w K mg base ["self", "root"] "Walk.ahead_of" (defScope s_PartsWalk_ahead_of) f cdv A outer s H E) (fun cls d _ H => E cls d H) (defBody s_PartsWalk_ahead_of) b_Walk_ahead_of :=
  have hN : (["self", "root"] : List PySem.Str).Nodup := sc_PartsWalk_ahead_of.nd
  (sss_one (ss_ret (se_tup sa_nil)))
theorem ok_PartsWalk_ahead_of (Y : Ctx w K mg h) : MthF P w K mg base 1 "PartsWalk" "ahead_of" m_Walk_ahead_of 2 [] := by
  obtain ⟨fd, F⟩ := Y.c.t.d.def_ 20 (d := d_PartsWalk_ahead_of) rfl
  exact ⟨_, fd, ["self", "root"], [], [], fn_ok F sc_PartsWalk_ahead_of (fun cdv A outer s H E hr tk hp => by_PartsWalk_ahead_of Y hr tk hp), cl_PartsWalk Y, me_PartsWalk_ahead_of Y, F.bindsN (fun _ _ _ _ _ _ us hl => match us, hl with | [_, _], _ => rfl), .nil, fun _ => .nil⟩
theorem sc__law_told : FnScope ["_law_walk", "_law_parts_here", "_law_at", "_law_brought", "_law_name_here", "_law_rows", "_law_found", "_law_due_here", "_law_spot", "_law_part", "_law_k"] ["_law_walk", "_law_parts_here"] (defScope s__law_told) := ⟨rfl, rfl, rfl, by decide +kernel, rfl, by decide +kernel, by decide +kernel⟩
theorem by__law_told (Y : Ctx w K mg h) {f : Addr} {cdv : Value} {A : Around} {outer : List Env} {s : Shared} {H : Hp} {E : XK} (hr : Room 5 (A.deeper (envOfC "_law_told" (defScope s__law_told) s.heap.objs.size f cdv)))
    (tk : Takes (cxOf (L2.CX P w) P w K mg base ["_law_walk", "_law_parts_here", "_law_at", "_law_brought", "_law_name_here", "_law_rows", "_law_found", "_law_due_here", "_law_spot", "_law_part", "_law_k"] "_law_told" (defScope s__law_told) f cdv A outer s H E) (fun cls d _ H => E cls d H)) (hp : PassesOwn (model P w) (A.deeper (envOfC "_law_told" (defScope s__law_told) s.heap.objs.size f cdv)) (envOfC "_law_told" (defScope s__law_told) s.heap.objs.size f cdv) (cxOf (L2.CX P w) P w K mg base ["_law_walk", "_law_parts_here", "_law_at", "_law_brought", "_law_name_here", "_law_rows", "_law_found", "_law_due_here", "_law_spot", "_law_part", "_law_k"] "_law_told" (defScope s__law_told) f cdv A outer s H E).xe) :
    SSs (cxOf (L2.CX P w) P w K mg base ["_law_walk", "_law_parts_here", "_law_at", "_law_brought", "_law_name_here", "_law_rows", "_law_found", "_law_due_here", "_law_spot", "_law_part", "_law_k"] "_law_told" (defScope s__law_told) f cdv A outer s H E) (fun cls d _ H => E cls d H) (defBody s__law_told) b__law_told :=
  have hN : (["_law_walk", "_law_parts_here", "_law_at", "_law_brought", "_law_name_here", "_law_rows", "_law_found", "_law_due_here", "_law_spot", "_law_part", "_law_k"] : List PySem.Str).Nodup := sc__law_told.nd
  (sss_cons (ss_for hp rfl (si_seq (se_var 1)) (sg_tup rfl (sgs_cons (sg_name 4 hN) (sgs_cons (sg_name 5 hN) sgs_nil))) (sss_cons (ss_set 6 hN (se_alt (se_cm (ok_Walk_rows_of Y) hr (se_var 0) (sa_cons (se_var 4) sa_nil) ) (se_cm (ok_PartsWalk_rows_of Y) hr (se_var 0) (sa_cons (se_var 4) sa_nil) )))
  (sss_cons (ss_setLc 7 (own := [("_law_k", 10)]) rfl hN (si_range1 (fr_range Y) (sa_cons (se_B b_len (fr_len Y) (sa_cons (se_var 5) sa_nil)) sa_nil)) (by change blkC ["_law_walk", "_law_parts_here", "_law_at", "_law_brought", "_law_name_here", "_law_rows", "_law_found", "_law_due_here", "_law_spot", "_law_part", "_law_k"] (defScope s__law_told) _ _ = true; decide +kernel) (fun _ _ _ _ _ => (sgc_name 10 hN)) (fun _ _ _ _ _ => sts_nil) (fun _ _ _ _ _ => (se_tup (sa_cons (se_var 4) (sa_cons (se_var 10) (sa_cons (se_ix hr (se_var 5) (se_var 10)) sa_nil))))))
  (sss_cons (ss_if (st_w (sw_or (st_not (st_val (se_B b_isi (fr_isinstance Y) (sa_cons (se_var 6) (sa_cons (se_ty "tuple" (fr_tuple Y)) sa_nil))))) (sw_or1 (st_cmp (cmp_ne hr) (se_T b_list (fr_list Y) (sa_cons (se_var 6) sa_nil)) (se_var 7))))) (sss_one (ss_ret se_bl)) sss_nil)
  (sss_cons (ss_for hp rfl (si_seq (se_var 6)) (sg_name 8 hN) (sss_one (ss_if (st_not (st_val (se_cp (ok__law_whole Y) hr tk (sa_cons (se_ix hr (se_var 8) se_int) sa_nil) ))) (sss_one (ss_ret se_bl)) sss_nil)))
  (sss_one (ss_if (st_w (sw_or (st_cmp (cmp_ne hr) (se_alt (se_cm (ok_Walk_loads_of Y) hr (se_var 0) (sa_cons (se_var 4) sa_nil) ) (se_cm (ok_PartsWalk_loads_of Y) hr (se_var 0) (sa_cons (se_var 4) sa_nil) )) (se_tup sa_nil)) (sw_or1 (st_cmp (cmp_ne hr) (se_alt (se_cm (ok_Walk_ahead_of Y) hr (se_var 0) (sa_cons (se_var 4) sa_nil) ) (se_cm (ok_PartsWalk_ahead_of Y) hr (se_var 0) (sa_cons (se_var 4) sa_nil) )) (se_tup sa_nil))))) (sss_one (ss_ret se_bl)) sss_nil)))))))
  (sss_cons (ss_set 2 hN (se_ix hr (se_lc (own := [("_law_k", 10)]) rfl hN (si_range1 (fr_range Y) (sa_cons se_int sa_nil)) (by change blkC ["_law_walk", "_law_parts_here", "_law_at", "_law_brought", "_law_name_here", "_law_rows", "_law_found", "_law_due_here", "_law_spot", "_law_part", "_law_k"] (defScope s__law_told) _ _ = true; decide +kernel) (fun _ _ _ _ _ => (sgc_name 10 hN)) (fun _ _ _ _ _ => (sts_one (st_cmp (cmp_eq hr) (se_ix hr (se_ix hr (se_ix hr (se_ix hr (se_var 1) se_int) se_int) (se_var 10)) se_int) (se_str (s := [116, 97, 107, 101]))))) (fun _ _ _ _ _ => (se_var 10))) se_int))
  (sss_cons (ss_set 3 hN (se_ix hr (se_ix hr (se_ix hr (se_ix hr (se_ix hr (se_ix hr (se_var 1) se_int) se_int) se_int) se_int) se_int) se_int))
  (sss_cons (ss_for hp rfl (si_seq (se_lst (sa_cons (se_tup (sa_cons (se_ix hr (se_ix hr (se_var 1) se_int) se_int) (sa_cons (se_var 3) sa_nil))) (sa_cons (se_tup (sa_cons (se_ix hr (se_ix hr (se_var 1) se_int) se_int) (sa_cons (se_ix hr (se_ix hr (se_ix hr (se_ix hr (se_var 1) se_int) se_int) (se_var 2)) se_int) sa_nil))) sa_nil)))) (sg_tup rfl (sgs_cons (sg_name 9 hN) (sgs_cons (sg_name 4 hN) sgs_nil))) (sss_cons (ss_set 6 hN (se_alt (se_cm (ok_Walk_key_of Y) hr (se_var 0) (sa_cons (se_var 9) (sa_cons (se_var 4) sa_nil)) ) (se_cm (ok_PartsWalk_key_of Y) hr (se_var 0) (sa_cons (se_var 9) (sa_cons (se_var 4) sa_nil)) )))
  (sss_one (ss_if (st_w (sw_or (st_not (st_val (se_B b_isi (fr_isinstance Y) (sa_cons (se_var 6) (sa_cons (se_ty "tuple" (fr_tuple Y)) sa_nil))))) (sw_or (st_cmp (cmp_ne hr) (se_var 6) (se_tup (sa_cons (se_ix hr (se_ix hr (se_var 1) se_int) se_int) (sa_cons (se_var 2) sa_nil)))) (sw_or1 (st_not (st_val (se_cp (ok__law_whole Y) hr tk (sa_cons (se_ix hr (se_var 6) se_int) sa_nil) ))))))) (sss_one (ss_ret se_bl)) sss_nil))))
  (sss_one (ss_ret (se_B (b_isiC (subC_ok Y)) (fr_isinstance Y) (sa_cons (se_var 0) (sa_cons (se_cls "Walk" (g_Walk Y)) sa_nil)))))))))
theorem ok__law_told (Y : Ctx w K mg h) : CalF P w K mg base 6 "_law_told" m__law_told 2 [] := by
  obtain ⟨fd, F⟩ := Y.c.t.d.def_ 21 (d := d__law_told) rfl
  exact ⟨_, fd, ["_law_walk", "_law_parts_here"], [], [], fn_ok F sc__law_told (fun cdv A outer s H E hr tk hp => by__law_told Y hr tk hp), g__law_told Y, F.kp, F.bindsN (fun _ _ _ _ _ _ us hl => match us, hl with | [_, _], _ => rfl), .nil, fun _ => .nil⟩
theorem sc_Trail___init__ : FnScope ["self", "numbers"] ["self", "numbers"] (defScope s_Trail___init__) := ⟨rfl, rfl, rfl, by decide +kernel, rfl, by decide +kernel, by decide +kernel⟩
theorem by_Trail___init__ (Y : Ctx w K mg h) {f : Addr} {cdv : Value} {A : Around} {outer : List Env} {s : Shared} {H : Hp} {E : XK} (hr : Room 0 (A.deeper (envOfC "Trail.__init__" (defScope s_Trail___init__) s.heap.objs.size f cdv)))
    (tk : Takes (cxOf (L2.CX P w) P w K mg base ["self", "numbers"] "Trail.__init__" (defScope s_Trail___init__) f cdv A outer s H E) (fun cls d _ H => E cls d H)) (hp : PassesOwn (model P w) (A.deeper (envOfC "Trail.__init__" (defScope s_Trail___init__) s.heap.objs.size f cdv)) (envOfC "Trail.__init__" (defScope s_Trail___init__) s.heap.objs.size f cdv) (cxOf (L2.CX P w) P w K mg base ["self", "numbers"] "Trail.__init__" (defScope s_Trail___init__) f cdv A outer s H E).xe) :
    SSs (cxOf (L2.CX P w) P w K mg base ["self", "numbers"] "Trail.__init__" (defScope s_Trail___init__) f cdv A outer s H E) (fun cls d _ H => E cls d H) (defBody s_Trail___init__) b_Trail___init__ :=
  have hN : (["self", "numbers"] : List PySem.Str).Nodup := sc_Trail___init__.nd
  (sss_cons (ss_fld (fl_numbers Y) (se_var 0) (se_var 1))
  (sss_cons (ss_fld (fl_taken Y) (se_var 0) se_int)
  (sss_cons (ss_fld (fl_known Y) (se_var 0) se_dicT)
  (sss_cons (ss_fld (fl_begun Y) (se_var 0) se_dicK)
  (sss_cons (ss_fld (fl_loaded Y) (se_var 0) se_dicK)
  (sss_cons (ss_fld (fl_trace Y) (se_var 0) (se_lstN sa_nil))
  (sss_one (ss_fld (fl_fault Y) (se_var 0) se_non))))))))
theorem mak_Trail (Y : Ctx w K mg h) : MakF P w K mg base 1 "Trail" "Trail" m_Trail___init__ 2 [] := by
  obtain ⟨fd, F⟩ := Y.c.t.d.def_ 22 (d := d_Trail___init__) rfl
  exact ⟨_, fd, ["self", "numbers"], [], [], fn_ok F sc_Trail___init__ (fun cdv A outer s H E hr tk hp => by_Trail___init__ Y hr tk hp), mr_Trail Y, g_Trail Y, F.bindsN (fun _ _ _ _ _ _ us hl => match us, hl with | [_, _], _ => rfl), .nil, fun _ => .nil⟩
theorem sc_Trail_load : FnScope ["self", "packs", "pack"] ["self", "packs"] (defScope s_Trail_load) := ⟨rfl, rfl, rfl, by decide +kernel, rfl, by decide +kernel, by decide +kernel⟩
theorem by_Trail_load (Y : Ctx w K mg h) {f : Addr} {cdv : Value} {A : Around} {outer : List Env} {s : Shared} {H : Hp} {E : XK} (hr : Room 0 (A.deeper (envOfC "Trail.load" (defScope s_Trail_load) s.heap.objs.size f cdv)))
    (tk : Takes (cxOf (L2.CX P w) P w K mg base ["self", "packs", "pack"] "Trail.load" (defScope s_Trail_load) f cdv A outer s H E) (fun cls d _ H => E cls d H)) (hp : PassesOwn (model P w) (A.deeper (envOfC "Trail.load" (defScope s_Trail_load) s.heap.objs.size f cdv)) (envOfC "Trail.load" (defScope s_Trail_load) s.heap.objs.size f cdv) (cxOf (L2.CX P w) P w K mg base ["self", "packs", "pack"] "Trail.load" (defScope s_Trail_load) f cdv A outer s H E).xe) :
    SSs (cxOf (L2.CX P w) P w K mg base ["self", "packs", "pack"] "Trail.load" (defScope s_Trail_load) f cdv A outer s H E) (fun cls d _ H => E cls d H) (defBody s_Trail_load) b_Trail_load :=
  have hN : (["self", "packs", "pack"] : List PySem.Str).Nodup := sc_Trail_load.nd
  (sss_one (ss_for hp rfl (si_seq (se_var 1)) (sg_name 2 hN) (sss_one (ss_if (st_nin hr (se_var 2) (se_fld (fl_loaded Y) (se_var 0))) (sss_cons (ss_put hr (se_fld (fl_loaded Y) (se_var 0)) (se_var 2) se_bl)
  (sss_one (ss_expr (se_M PySem.F.plainAttrs_list PySem.F.slot_list_append PySem.F.type_list_append (ck_list _) m_append (se_fld (fl_trace Y) (se_var 0)) (sa_cons (se_tup (sa_cons (se_str (s := [108, 111, 97, 100])) (sa_cons (se_var 2) sa_nil))) sa_nil))))) sss_nil))))
theorem ok_Trail_load (Y : Ctx w K mg h) : MthF P w K mg base 1 "Trail" "load" m_Trail_load 2 [] := by
  obtain ⟨fd, F⟩ := Y.c.t.d.def_ 23 (d := d_Trail_load) rfl
  exact ⟨_, fd, ["self", "packs"], [], [], fn_ok F sc_Trail_load (fun cdv A outer s H E hr tk hp => by_Trail_load Y hr tk hp), cl_Trail Y, me_Trail_load Y, F.bindsN (fun _ _ _ _ _ _ us hl => match us, hl with | [_, _], _ => rfl), .nil, fun _ => .nil⟩
theorem sc_when_of : FnScope ["row"] ["row"] (defScope s_when_of) := ⟨rfl, rfl, rfl, by decide +kernel, rfl, by decide +kernel, by decide +kernel⟩
theorem by_when_of (Y : Ctx w K mg h) {f : Addr} {cdv : Value} {A : Around} {outer : List Env} {s : Shared} {H : Hp} {E : XK} (hr : Room 0 (A.deeper (envOfC "when_of" (defScope s_when_of) s.heap.objs.size f cdv)))
    (tk : Takes (cxOf (L2.CX P w) P w K mg base ["row"] "when_of" (defScope s_when_of) f cdv A outer s H E) (fun cls d _ H => E cls d H)) (hp : PassesOwn (model P w) (A.deeper (envOfC "when_of" (defScope s_when_of) s.heap.objs.size f cdv)) (envOfC "when_of" (defScope s_when_of) s.heap.objs.size f cdv) (cxOf (L2.CX P w) P w K mg base ["row"] "when_of" (defScope s_when_of) f cdv A outer s H E).xe) :
    SSs (cxOf (L2.CX P w) P w K mg base ["row"] "when_of" (defScope s_when_of) f cdv A outer s H E) (fun cls d _ H => E cls d H) (defBody s_when_of) b_when_of :=
  have hN : (["row"] : List PySem.Str).Nodup := sc_when_of.nd
  (sss_cons (ss_if (st_w (sw_or (st_cmp (cmp_eq hr) (se_ix hr (se_var 0) se_int) (se_str (s := [115, 97, 121]))) (sw_or1 (st_cmp (cmp_eq hr) (se_ix hr (se_var 0) se_int) (se_str (s := [97, 115, 107])))))) (sss_one (ss_ret (se_ix hr (se_var 0) se_int))) sss_nil)
  (sss_one (ss_ret se_non)))
theorem ok_when_of (Y : Ctx w K mg h) : CalF P w K mg base 1 "when_of" m_when_of 1 [] := by
  obtain ⟨fd, F⟩ := Y.c.t.d.def_ 24 (d := d_when_of) rfl
  exact ⟨_, fd, ["row"], [], [], fn_ok F sc_when_of (fun cdv A outer s H E hr tk hp => by_when_of Y hr tk hp), g_when_of Y, F.kp, F.bindsN (fun _ _ _ _ _ _ us hl => match us, hl with | [_], _ => rfl), .nil, fun _ => .nil⟩
theorem sc_sum_names : FnScope ["terms", "at", "found", "sign", "thing"] ["terms", "at"] (defScope s_sum_names) := ⟨rfl, rfl, rfl, by decide +kernel, rfl, by decide +kernel, by decide +kernel⟩
theorem by_sum_names (Y : Ctx w K mg h) {f : Addr} {cdv : Value} {A : Around} {outer : List Env} {s : Shared} {H : Hp} {E : XK} (hr : Room 0 (A.deeper (envOfC "sum_names" (defScope s_sum_names) s.heap.objs.size f cdv)))
    (tk : Takes (cxOf (L2.CX P w) P w K mg base ["terms", "at", "found", "sign", "thing"] "sum_names" (defScope s_sum_names) f cdv A outer s H E) (fun cls d _ H => E cls d H)) (hp : PassesOwn (model P w) (A.deeper (envOfC "sum_names" (defScope s_sum_names) s.heap.objs.size f cdv)) (envOfC "sum_names" (defScope s_sum_names) s.heap.objs.size f cdv) (cxOf (L2.CX P w) P w K mg base ["terms", "at", "found", "sign", "thing"] "sum_names" (defScope s_sum_names) f cdv A outer s H E).xe) :
    SSs (cxOf (L2.CX P w) P w K mg base ["terms", "at", "found", "sign", "thing"] "sum_names" (defScope s_sum_names) f cdv A outer s H E) (fun cls d _ H => E cls d H) (defBody s_sum_names) b_sum_names :=
  have hN : (["terms", "at", "found", "sign", "thing"] : List PySem.Str).Nodup := sc_sum_names.nd
  (sss_cons (ss_set 2 hN (se_lstN sa_nil))
  (sss_cons (ss_for hp rfl (si_seq (se_var 0)) (sg_tup rfl (sgs_cons (sg_name 3 hN) (sgs_cons (sg_name 4 hN) sgs_nil))) (sss_cons (ss_if (st_val (se_B b_isi (fr_isinstance Y) (sa_cons (se_var 4) (sa_cons (se_ty "str" (fr_str Y)) sa_nil)))) (sss_one (ss_expr (se_M PySem.F.plainAttrs_list PySem.F.slot_list_append PySem.F.type_list_append (ck_list _) m_append (se_var 2) (sa_cons (se_tup (sa_cons (se_var 1) (sa_cons (se_var 4) sa_nil))) sa_nil)))) sss_nil)
  (sss_one (ss_set 1 hN (se_op bin_add (se_var 1) se_int)))))
  (sss_one (ss_ret (se_var 2)))))
theorem ok_sum_names (Y : Ctx w K mg h) : CalF P w K mg base 1 "sum_names" m_sum_names 2 [] := by
  obtain ⟨fd, F⟩ := Y.c.t.d.def_ 25 (d := d_sum_names) rfl
  exact ⟨_, fd, ["terms", "at"], [], [], fn_ok F sc_sum_names (fun cdv A outer s H E hr tk hp => by_sum_names Y hr tk hp), g_sum_names Y, F.kp, F.bindsN (fun _ _ _ _ _ _ us hl => match us, hl with | [_, _], _ => rfl), .nil, fun _ => .nil⟩
theorem sc_read_names : FnScope ["row", "found"] ["row"] (defScope s_read_names) := ⟨rfl, rfl, rfl, by decide +kernel, rfl, by decide +kernel, by decide +kernel⟩
theorem by_read_names (Y : Ctx w K mg h) {f : Addr} {cdv : Value} {A : Around} {outer : List Env} {s : Shared} {H : Hp} {E : XK} (hr : Room 1 (A.deeper (envOfC "read_names" (defScope s_read_names) s.heap.objs.size f cdv)))
    (tk : Takes (cxOf (L2.CX P w) P w K mg base ["row", "found"] "read_names" (defScope s_read_names) f cdv A outer s H E) (fun cls d _ H => E cls d H)) (hp : PassesOwn (model P w) (A.deeper (envOfC "read_names" (defScope s_read_names) s.heap.objs.size f cdv)) (envOfC "read_names" (defScope s_read_names) s.heap.objs.size f cdv) (cxOf (L2.CX P w) P w K mg base ["row", "found"] "read_names" (defScope s_read_names) f cdv A outer s H E).xe) :
    SSs (cxOf (L2.CX P w) P w K mg base ["row", "found"] "read_names" (defScope s_read_names) f cdv A outer s H E) (fun cls d _ H => E cls d H) (defBody s_read_names) b_read_names :=
  have hN : (["row", "found"] : List PySem.Str).Nodup := sc_read_names.nd
  (sss_cons (ss_if (st_cmp (cmp_eq hr) (se_ix hr (se_var 0) se_int) (se_str (s := [115, 101, 116]))) (sss_one (ss_ret (se_T b_tuple (fr_tuple Y) (sa_cons (se_cp (ok_sum_names Y) hr tk (sa_cons (se_ix hr (se_var 0) se_int) (sa_cons se_int sa_nil)) ) sa_nil)))) sss_nil)
  (sss_cons (ss_if (st_cmp (cmp_eq hr) (se_ix hr (se_var 0) se_int) (se_str (s := [110, 101, 101, 100]))) (sss_one (ss_ret (se_T b_tuple (fr_tuple Y) (sa_cons (se_cp (ok_sum_names Y) hr tk (sa_cons (se_ix hr (se_var 0) se_int) (sa_cons se_int sa_nil)) ) sa_nil)))) sss_nil)
  (sss_cons (ss_if (st_cmp (cmp_eq hr) (se_ix hr (se_var 0) se_int) (se_str (s := [115, 97, 121]))) (sss_cons (ss_set 1 hN (se_cp (ok_sum_names Y) hr tk (sa_cons (se_ix hr (se_var 0) se_int) (sa_cons se_int sa_nil)) ))
  (sss_cons (ss_if (st_cmp cmp_notN (se_ix hr (se_var 0) se_int) se_non) (sss_one (ss_set 1 hN (se_op bin_add (se_lst (sa_cons (se_tup (sa_cons (se_op bin_add (se_op bin_mul se_int (se_B b_len (fr_len Y) (sa_cons (se_ix hr (se_var 0) se_int) sa_nil))) se_int) (sa_cons (se_ix hr (se_var 0) se_int) sa_nil))) sa_nil)) (se_var 1)))) sss_nil)
  (sss_one (ss_ret (se_T b_tuple (fr_tuple Y) (sa_cons (se_var 1) sa_nil)))))) sss_nil)
  (sss_cons (ss_if (st_w (sw_and (st_cmp (cmp_eq hr) (se_ix hr (se_var 0) se_int) (se_str (s := [97, 115, 107]))) (sw_and1 (st_cmp cmp_notN (se_ix hr (se_var 0) se_int) se_non)))) (sss_one (ss_ret (se_tup (sa_cons (se_tup (sa_cons se_int (sa_cons (se_ix hr (se_var 0) se_int) sa_nil))) sa_nil)))) sss_nil)
  (sss_one (ss_ret (se_tup sa_nil)))))))
theorem ok_read_names (Y : Ctx w K mg h) : CalF P w K mg base 2 "read_names" m_read_names 1 [] := by
  obtain ⟨fd, F⟩ := Y.c.t.d.def_ 26 (d := d_read_names) rfl
  exact ⟨_, fd, ["row"], [], [], fn_ok F sc_read_names (fun cdv A outer s H E hr tk hp => by_read_names Y hr tk hp), g_read_names Y, F.kp, F.bindsN (fun _ _ _ _ _ _ us hl => match us, hl with | [_], _ => rfl), .nil, fun _ => .nil⟩
theorem sc_Walk_found_by : FnScope ["self", "trail", "part", "spot", "row", "there", "when", "word", "name", "key"] ["self", "trail", "part", "spot", "row"] (defScope s_Walk_found_by) := ⟨rfl, rfl, rfl, by decide +kernel, rfl, by decide +kernel, by decide +kernel⟩
theorem by_Walk_found_by (Y : Ctx w K mg h) {f : Addr} {cdv : Value} {A : Around} {outer : List Env} {s : Shared} {H : Hp} {E : XK} (hr : Room 5 (A.deeper (envOfC "Walk.found_by" (defScope s_Walk_found_by) s.heap.objs.size f cdv)))
    (tk : Takes (cxOf (L2.CX P w) P w K mg base ["self", "trail", "part", "spot", "row", "there", "when", "word", "name", "key"] "Walk.found_by" (defScope s_Walk_found_by) f cdv A outer s H E) (fun cls d _ H => E cls d H)) (hp : PassesOwn (model P w) (A.deeper (envOfC "Walk.found_by" (defScope s_Walk_found_by) s.heap.objs.size f cdv)) (envOfC "Walk.found_by" (defScope s_Walk_found_by) s.heap.objs.size f cdv) (cxOf (L2.CX P w) P w K mg base ["self", "trail", "part", "spot", "row", "there", "when", "word", "name", "key"] "Walk.found_by" (defScope s_Walk_found_by) f cdv A outer s H E).xe) :
    SSs (cxOf (L2.CX P w) P w K mg base ["self", "trail", "part", "spot", "row", "there", "when", "word", "name", "key"] "Walk.found_by" (defScope s_Walk_found_by) f cdv A outer s H E) (fun cls d _ H => E cls d H) (defBody s_Walk_found_by) b_Walk_found_by :=
  have hN : (["self", "trail", "part", "spot", "row", "there", "when", "word", "name", "key"] : List PySem.Str).Nodup := sc_Walk_found_by.nd
  (sss_cons (ss_set 5 hN se_dicK)
  (sss_cons (ss_set 6 hN (se_cp (ok_when_of Y) hr tk (sa_cons (se_var 4) sa_nil) ))
  (sss_cons (ss_for hp rfl (si_seq (se_cp (ok_read_names Y) hr tk (sa_cons (se_var 4) sa_nil) )) (sg_tup rfl (sgs_cons (sg_name 7 hN) (sgs_cons (sg_name 8 hN) sgs_nil))) (sss_cons (ss_set 9 hN (se_alt (se_cm (ok_Walk_key_of Y) hr (se_var 0) (sa_cons (se_var 2) (sa_cons (se_var 8) sa_nil)) ) (se_cm (ok_PartsWalk_key_of Y) hr (se_var 0) (sa_cons (se_var 2) (sa_cons (se_var 8) sa_nil)) )))
  (sss_cons (ss_if (st_nin hr (se_var 9) (se_fld (fl_known Y) (se_var 1))) (sss_cons (ss_fld (fl_fault Y) (se_var 1) (se_tup (sa_cons (se_str (s := [101, 97, 114, 108, 121])) (sa_cons (se_ix hr (se_var 3) se_int) (sa_cons (se_ix hr (se_var 3) se_int) (sa_cons (se_var 7) sa_nil))))))
  (sss_one (ss_ret se_non))) sss_nil)
  (sss_cons (ss_put hr (se_var 5) (se_var 8) (se_ix hr (se_fld (fl_known Y) (se_var 1)) (se_var 9)))
  (sss_one (ss_if (st_w (sw_and (st_cmp (cmp_eq hr) (se_var 8) (se_var 6)) (sw_and1 (st_cmp cmp_le (se_ix hr (se_var 5) (se_var 8)) se_int)))) (sss_one (ss_ret se_non)) sss_nil))))))
  (sss_one (ss_ret (se_var 5))))))
theorem ok_Walk_found_by (Y : Ctx w K mg h) : MthF P w K mg base 6 "Walk" "found_by" m_Walk_found_by 5 [] := by
  obtain ⟨fd, F⟩ := Y.c.t.d.def_ 27 (d := d_Walk_found_by) rfl
  exact ⟨_, fd, ["self", "trail", "part", "spot", "row"], [], [], fn_ok F sc_Walk_found_by (fun cdv A outer s H E hr tk hp => by_Walk_found_by Y hr tk hp), cl_Walk Y, me_Walk_found_by Y, F.bindsN (fun _ _ _ _ _ _ us hl => match us, hl with | [_, _, _, _, _], _ => rfl), .nil, fun _ => .nil⟩
theorem sc_PartsWalk_found_by : FnScope ["self", "trail", "part", "spot", "row", "there", "when", "word", "name", "key"] ["self", "trail", "part", "spot", "row"] (defScope s_PartsWalk_found_by) := ⟨rfl, rfl, rfl, by decide +kernel, rfl, by decide +kernel, by decide +kernel⟩
theorem by_PartsWalk_found_by (Y : Ctx w K mg h) {f : Addr} {cdv : Value} {A : Around} {outer : List Env} {s : Shared} {H : Hp} {E : XK} (hr : Room 5 (A.deeper (envOfC "Walk.found_by" (defScope s_PartsWalk_found_by) s.heap.objs.size f cdv)))
    (tk : Takes (cxOf (L2.CX P w) P w K mg base ["self", "trail", "part", "spot", "row", "there", "when", "word", "name", "key"] "Walk.found_by" (defScope s_PartsWalk_found_by) f cdv A outer s H E) (fun cls d _ H => E cls d H)) (hp : PassesOwn (model P w) (A.deeper (envOfC "Walk.found_by" (defScope s_PartsWalk_found_by) s.heap.objs.size f cdv)) (envOfC "Walk.found_by" (defScope s_PartsWalk_found_by) s.heap.objs.size f cdv) (cxOf (L2.CX P w) P w K mg base ["self", "trail", "part", "spot", "row", "there", "when", "word", "name", "key"] "Walk.found_by" (defScope s_PartsWalk_found_by) f cdv A outer s H E).xe) :
    SSs (cxOf (L2.CX P w) P w K mg base ["self", "trail", "part", "spot", "row", "there", "when", "word", "name", "key"] "Walk.found_by" (defScope s_PartsWalk_found_by) f cdv A outer s H E) (fun cls d _ H => E cls d H) (defBody s_PartsWalk_found_by) b_Walk_found_by :=
  have hN : (["self", "trail", "part", "spot", "row", "there", "when", "word", "name", "key"] : List PySem.Str).Nodup := sc_PartsWalk_found_by.nd
  (sss_cons (ss_set 5 hN se_dicK)
  (sss_cons (ss_set 6 hN (se_cp (ok_when_of Y) hr tk (sa_cons (se_var 4) sa_nil) ))
  (sss_cons (ss_for hp rfl (si_seq (se_cp (ok_read_names Y) hr tk (sa_cons (se_var 4) sa_nil) )) (sg_tup rfl (sgs_cons (sg_name 7 hN) (sgs_cons (sg_name 8 hN) sgs_nil))) (sss_cons (ss_set 9 hN (se_alt (se_cm (ok_Walk_key_of Y) hr (se_var 0) (sa_cons (se_var 2) (sa_cons (se_var 8) sa_nil)) ) (se_cm (ok_PartsWalk_key_of Y) hr (se_var 0) (sa_cons (se_var 2) (sa_cons (se_var 8) sa_nil)) )))
  (sss_cons (ss_if (st_nin hr (se_var 9) (se_fld (fl_known Y) (se_var 1))) (sss_cons (ss_fld (fl_fault Y) (se_var 1) (se_tup (sa_cons (se_str (s := [101, 97, 114, 108, 121])) (sa_cons (se_ix hr (se_var 3) se_int) (sa_cons (se_ix hr (se_var 3) se_int) (sa_cons (se_var 7) sa_nil))))))
  (sss_one (ss_ret se_non))) sss_nil)
  (sss_cons (ss_put hr (se_var 5) (se_var 8) (se_ix hr (se_fld (fl_known Y) (se_var 1)) (se_var 9)))
  (sss_one (ss_if (st_w (sw_and (st_cmp (cmp_eq hr) (se_var 8) (se_var 6)) (sw_and1 (st_cmp cmp_le (se_ix hr (se_var 5) (se_var 8)) se_int)))) (sss_one (ss_ret se_non)) sss_nil))))))
  (sss_one (ss_ret (se_var 5))))))
theorem ok_PartsWalk_found_by (Y : Ctx w K mg h) : MthF P w K mg base 6 "PartsWalk" "found_by" m_Walk_found_by 5 [] := by
  obtain ⟨fd, F⟩ := Y.c.t.d.def_ 28 (d := d_PartsWalk_found_by) rfl
  exact ⟨_, fd, ["self", "trail", "part", "spot", "row"], [], [], fn_ok F sc_PartsWalk_found_by (fun cdv A outer s H E hr tk hp => by_PartsWalk_found_by Y hr tk hp), cl_PartsWalk Y, me_PartsWalk_found_by Y, F.bindsN (fun _ _ _ _ _ _ us hl => match us, hl with | [_, _, _, _, _], _ => rfl), .nil, fun _ => .nil⟩
theorem sc_value_of : FnScope ["terms", "there", "found", "sign", "thing"] ["terms", "there"] (defScope s_value_of) := ⟨rfl, rfl, rfl, by decide +kernel, rfl, by decide +kernel, by decide +kernel⟩
theorem by_value_of (Y : Ctx w K mg h) {f : Addr} {cdv : Value} {A : Around} {outer : List Env} {s : Shared} {H : Hp} {E : XK} (hr : Room 0 (A.deeper (envOfC "value_of" (defScope s_value_of) s.heap.objs.size f cdv)))
    (tk : Takes (cxOf (L2.CX P w) P w K mg base ["terms", "there", "found", "sign", "thing"] "value_of" (defScope s_value_of) f cdv A outer s H E) (fun cls d _ H => E cls d H)) (hp : PassesOwn (model P w) (A.deeper (envOfC "value_of" (defScope s_value_of) s.heap.objs.size f cdv)) (envOfC "value_of" (defScope s_value_of) s.heap.objs.size f cdv) (cxOf (L2.CX P w) P w K mg base ["terms", "there", "found", "sign", "thing"] "value_of" (defScope s_value_of) f cdv A outer s H E).xe) :
    SSs (cxOf (L2.CX P w) P w K mg base ["terms", "there", "found", "sign", "thing"] "value_of" (defScope s_value_of) f cdv A outer s H E) (fun cls d _ H => E cls d H) (defBody s_value_of) b_value_of :=
  have hN : (["terms", "there", "found", "sign", "thing"] : List PySem.Str).Nodup := sc_value_of.nd
  (sss_cons (ss_set 2 hN se_int)
  (sss_cons (ss_for hp rfl (si_seq (se_var 0)) (sg_tup rfl (sgs_cons (sg_name 3 hN) (sgs_cons (sg_name 4 hN) sgs_nil))) (sss_one (ss_if (st_val (se_B b_isi (fr_isinstance Y) (sa_cons (se_var 4) (sa_cons (se_ty "str" (fr_str Y)) sa_nil)))) (sss_one (ss_aug ip_add 2 hN (se_op bin_mul (se_var 3) (se_ix hr (se_var 1) (se_var 4))))) (sss_one (ss_aug ip_add 2 hN (se_op bin_mul (se_var 3) (se_var 4)))))))
  (sss_one (ss_ret (se_var 2)))))
theorem ok_value_of (Y : Ctx w K mg h) : CalF P w K mg base 1 "value_of" m_value_of 2 [] := by
  obtain ⟨fd, F⟩ := Y.c.t.d.def_ 29 (d := d_value_of) rfl
  exact ⟨_, fd, ["terms", "there"], [], [], fn_ok F sc_value_of (fun cdv A outer s H E hr tk hp => by_value_of Y hr tk hp), g_value_of Y, F.kp, F.bindsN (fun _ _ _ _ _ _ us hl => match us, hl with | [_, _], _ => rfl), .nil, fun _ => .nil⟩
theorem sc_Trail_take : FnScope ["self"] ["self"] (defScope s_Trail_take) := ⟨rfl, rfl, rfl, by decide +kernel, rfl, by decide +kernel, by decide +kernel⟩
theorem by_Trail_take (Y : Ctx w K mg h) {f : Addr} {cdv : Value} {A : Around} {outer : List Env} {s : Shared} {H : Hp} {E : XK} (hr : Room 0 (A.deeper (envOfC "Trail.take" (defScope s_Trail_take) s.heap.objs.size f cdv)))
    (tk : Takes (cxOf (L2.CX P w) P w K mg base ["self"] "Trail.take" (defScope s_Trail_take) f cdv A outer s H E) (fun cls d _ H => E cls d H)) (hp : PassesOwn (model P w) (A.deeper (envOfC "Trail.take" (defScope s_Trail_take) s.heap.objs.size f cdv)) (envOfC "Trail.take" (defScope s_Trail_take) s.heap.objs.size f cdv) (cxOf (L2.CX P w) P w K mg base ["self"] "Trail.take" (defScope s_Trail_take) f cdv A outer s H E).xe) :
    SSs (cxOf (L2.CX P w) P w K mg base ["self"] "Trail.take" (defScope s_Trail_take) f cdv A outer s H E) (fun cls d _ H => E cls d H) (defBody s_Trail_take) b_Trail_take :=
  have hN : (["self"] : List PySem.Str).Nodup := sc_Trail_take.nd
  (sss_cons (ss_if (st_cmp cmp_ge (se_fld (fl_taken Y) (se_var 0)) (se_B b_len (fr_len Y) (sa_cons (se_fld (fl_numbers Y) (se_var 0)) sa_nil))) (sss_one (ss_ret se_int)) sss_nil)
  (sss_cons (ss_fldaug in_add' (fl_taken Y) (se_var 0) se_int)
  (sss_one (ss_ret (se_ix hr (se_fld (fl_numbers Y) (se_var 0)) (se_op bin_sub (se_fld (fl_taken Y) (se_var 0)) se_int))))))
theorem ok_Trail_take (Y : Ctx w K mg h) : MthF P w K mg base 1 "Trail" "take" m_Trail_take 1 [] := by
  obtain ⟨fd, F⟩ := Y.c.t.d.def_ 30 (d := d_Trail_take) rfl
  exact ⟨_, fd, ["self"], [], [], fn_ok F sc_Trail_take (fun cdv A outer s H E hr tk hp => by_Trail_take Y hr tk hp), cl_Trail Y, me_Trail_take Y, F.bindsN (fun _ _ _ _ _ _ us hl => match us, hl with | [_], _ => rfl), .nil, fun _ => .nil⟩
theorem sc_PartsWalk_done : FnScope ["self", "trail", "part", "spot", "row", "there", "head", "value"] ["self", "trail", "part", "spot", "row", "there"] (defScope s_PartsWalk_done) := ⟨rfl, rfl, rfl, by decide +kernel, rfl, by decide +kernel, by decide +kernel⟩
theorem sc_PartsWalk_begin : FnScope ["self", "trail", "part", "place", "number", "row", "there"] ["self", "trail", "part"] (defScope s_PartsWalk_begin) := ⟨rfl, rfl, rfl, by decide +kernel, rfl, by decide +kernel, by decide +kernel⟩
theorem sc_Walk_done : FnScope ["self", "trail", "part", "spot", "row", "there", "head", "value"] ["self", "trail", "part", "spot", "row", "there"] (defScope s_Walk_done) := ⟨rfl, rfl, rfl, by decide +kernel, rfl, by decide +kernel, by decide +kernel⟩
theorem sc_Walk_begin : FnScope ["self", "trail", "part", "place", "number", "row", "there"] ["self", "trail", "part"] (defScope s_Walk_begin) := ⟨rfl, rfl, rfl, by decide +kernel, rfl, by decide +kernel, by decide +kernel⟩
structure All_Walk_done (P : Program) (w : World) (K : PySem.W.Frag) (mg : PySem.Str → Option Value) (base : Heap) (k : Nat) (n : R_Walk_done) : Prop where
  PartsWalk_done : MthF P w K mg base k "PartsWalk" "done" n.f_Walk_done 6 []
  PartsWalk_begin : MthF P w K mg base k "PartsWalk" "begin" n.f_Walk_begin 3 []
  Walk_done : MthF P w K mg base k "Walk" "done" n.f_Walk_done 6 []
  Walk_begin : MthF P w K mg base k "Walk" "begin" n.f_Walk_begin 3 []
theorem by_PartsWalk_done (Y : Ctx w K mg h) {n : R_Walk_done} {k : Nat} (hk : 7 ≤ k + 1) (ih : All_Walk_done P w K mg base k n) {f : Addr} {cdv : Value} {A : Around} {outer : List Env} {s : Shared} {H : Hp} {E : XK} (hr : Room (k + 3) (A.deeper (envOfC "Walk.done" (defScope s_PartsWalk_done) s.heap.objs.size f cdv)))
    (tk : Takes (cxOf (L2.CX P w) P w K mg base ["self", "trail", "part", "spot", "row", "there", "head", "value"] "Walk.done" (defScope s_PartsWalk_done) f cdv A outer s H E) (fun cls d _ H => E cls d H)) (hp : PassesOwn (model P w) (A.deeper (envOfC "Walk.done" (defScope s_PartsWalk_done) s.heap.objs.size f cdv)) (envOfC "Walk.done" (defScope s_PartsWalk_done) s.heap.objs.size f cdv) (cxOf (L2.CX P w) P w K mg base ["self", "trail", "part", "spot", "row", "there", "head", "value"] "Walk.done" (defScope s_PartsWalk_done) f cdv A outer s H E).xe) :
    SSs (cxOf (L2.CX P w) P w K mg base ["self", "trail", "part", "spot", "row", "there", "head", "value"] "Walk.done" (defScope s_PartsWalk_done) f cdv A outer s H E) (fun cls d _ H => E cls d H) (defBody s_PartsWalk_done) (b_Walk_done n) :=
  have hN : (["self", "trail", "part", "spot", "row", "there", "head", "value"] : List PySem.Str).Nodup := sc_PartsWalk_done.nd
  (sss_cons (ss_set 6 hN (se_ix hr (se_var 4) se_int))
  (sss_one (ss_if (st_cmp (cmp_eq hr) (se_var 6) (se_str (s := [115, 101, 116]))) (sss_one (ss_put hr (se_fld (fl_known Y) (se_var 1)) (se_alt (se_cm (ok_Walk_key_of Y) hr (se_var 0) (sa_cons (se_var 2) (sa_cons (se_ix hr (se_var 4) se_int) sa_nil)) (hj := by omega)) (se_cm (ok_PartsWalk_key_of Y) hr (se_var 0) (sa_cons (se_var 2) (sa_cons (se_ix hr (se_var 4) se_int) sa_nil)) (hj := by omega))) (se_cp (ok_value_of Y) hr tk (sa_cons (se_ix hr (se_var 4) se_int) (sa_cons (se_var 5) sa_nil)) (hj := by omega)))) (sss_one (ss_if (st_cmp (cmp_eq hr) (se_var 6) (se_str (s := [116, 97, 107, 101]))) (sss_cons (ss_set 7 hN (se_cm0 (ok_Trail_take Y) hr (se_var 1) (hj := by omega)))
  (sss_cons (ss_put hr (se_fld (fl_known Y) (se_var 1)) (se_alt (se_cm (ok_Walk_key_of Y) hr (se_var 0) (sa_cons (se_var 2) (sa_cons (se_ix hr (se_var 4) se_int) sa_nil)) (hj := by omega)) (se_cm (ok_PartsWalk_key_of Y) hr (se_var 0) (sa_cons (se_var 2) (sa_cons (se_ix hr (se_var 4) se_int) sa_nil)) (hj := by omega))) (se_var 7))
  (sss_one (ss_expr (se_M PySem.F.plainAttrs_list PySem.F.slot_list_append PySem.F.type_list_append (ck_list _) m_append (se_fld (fl_trace Y) (se_var 1)) (sa_cons (se_tup (sa_cons (se_str (s := [116, 97, 107, 101])) (sa_cons (se_var 7) (sa_cons (se_ix hr (se_var 3) se_int) (sa_cons (se_ix hr (se_var 3) se_int) sa_nil))))) sa_nil)))))) (sss_one (ss_if (st_cmp (cmp_eq hr) (se_var 6) (se_str (s := [115, 97, 121]))) (sss_one (ss_expr (se_M PySem.F.plainAttrs_list PySem.F.slot_list_append PySem.F.type_list_append (ck_list _) m_append (se_fld (fl_trace Y) (se_var 1)) (sa_cons (se_tup (sa_cons (se_str (s := [115, 97, 121])) (sa_cons (se_cp (ok_value_of Y) hr tk (sa_cons (se_ix hr (se_var 4) se_int) (sa_cons (se_var 5) sa_nil)) (hj := by omega)) (sa_cons (se_ix hr (se_var 3) se_int) (sa_cons (se_ix hr (se_var 3) se_int) sa_nil))))) sa_nil)))) (sss_one (ss_if (st_cmp (cmp_eq hr) (se_var 6) (se_str (s := [110, 101, 101, 100]))) (sss_one (ss_if (st_cmp cmp_le (se_cp (ok_value_of Y) hr tk (sa_cons (se_ix hr (se_var 4) se_int) (sa_cons (se_var 5) sa_nil)) (hj := by omega)) se_int) (sss_one (ss_fld (fl_fault Y) (se_var 1) (se_tup (sa_cons (se_str (s := [110, 101, 101, 100])) (sa_cons (se_ix hr (se_var 3) se_int) (sa_cons (se_ix hr (se_var 3) se_int) (sa_cons se_int sa_nil))))))) sss_nil)) (sss_one (ss_if (st_cmp (cmp_eq hr) (se_var 6) (se_str (s := [97, 115, 107]))) (sss_cons (ss_if (st_nin hr (se_ix hr (se_var 4) se_int) (se_fld (fl_begun Y) (se_var 1))) (sss_one (ss_expr (se_cm (ok_Trail_load Y) hr (se_var 1) (sa_cons (se_alt (se_cm (ok_Walk_loads_of Y) hr (se_var 0) (sa_cons (se_ix hr (se_var 4) se_int) sa_nil) (hj := by omega)) (se_cm (ok_PartsWalk_loads_of Y) hr (se_var 0) (sa_cons (se_ix hr (se_var 4) se_int) sa_nil) (hj := by omega))) sa_nil) (hj := by omega)))) sss_nil)
  (sss_one (ss_expr (se_alt (se_cm (ih.Walk_begin) hr (se_var 0) (sa_cons (se_var 1) (sa_cons (se_ix hr (se_var 4) se_int) sa_nil)) (hj := by omega)) (se_cm (ih.PartsWalk_begin) hr (se_var 0) (sa_cons (se_var 1) (sa_cons (se_ix hr (se_var 4) se_int) sa_nil)) (hj := by omega)))))) (sss_one (ss_if (st_in hr (se_var 6) (se_tup (sa_cons (se_str (s := [98, 114, 105, 110, 103])) (sa_cons (se_str (s := [100, 111])) sa_nil)))) (sss_one (ss_expr (se_alt (se_cm (ih.Walk_begin) hr (se_var 0) (sa_cons (se_var 1) (sa_cons (se_ix hr (se_var 4) se_int) sa_nil)) (hj := by omega)) (se_cm (ih.PartsWalk_begin) hr (se_var 0) (sa_cons (se_var 1) (sa_cons (se_ix hr (se_var 4) se_int) sa_nil)) (hj := by omega))))) sss_nil)))))))))))))
theorem by_PartsWalk_begin (Y : Ctx w K mg h) {n : R_Walk_done} {k : Nat} (hk : 7 ≤ k + 1) (ih : All_Walk_done P w K mg base k n) {f : Addr} {cdv : Value} {A : Around} {outer : List Env} {s : Shared} {H : Hp} {E : XK} (hr : Room (k + 3) (A.deeper (envOfC "Walk.begin" (defScope s_PartsWalk_begin) s.heap.objs.size f cdv)))
    (tk : Takes (cxOf (L2.CX P w) P w K mg base ["self", "trail", "part", "place", "number", "row", "there"] "Walk.begin" (defScope s_PartsWalk_begin) f cdv A outer s H E) (fun cls d _ H => E cls d H)) (hp : PassesOwn (model P w) (A.deeper (envOfC "Walk.begin" (defScope s_PartsWalk_begin) s.heap.objs.size f cdv)) (envOfC "Walk.begin" (defScope s_PartsWalk_begin) s.heap.objs.size f cdv) (cxOf (L2.CX P w) P w K mg base ["self", "trail", "part", "place", "number", "row", "there"] "Walk.begin" (defScope s_PartsWalk_begin) f cdv A outer s H E).xe) :
    SSs (cxOf (L2.CX P w) P w K mg base ["self", "trail", "part", "place", "number", "row", "there"] "Walk.begin" (defScope s_PartsWalk_begin) f cdv A outer s H E) (fun cls d _ H => E cls d H) (defBody s_PartsWalk_begin) (b_Walk_begin n) :=
  have hN : (["self", "trail", "part", "place", "number", "row", "there"] : List PySem.Str).Nodup := sc_PartsWalk_begin.nd
  (sss_cons (ss_if (st_in hr (se_var 2) (se_fld (fl_begun Y) (se_var 1))) (sss_one ss_retN) sss_nil)
  (sss_cons (ss_put hr (se_fld (fl_begun Y) (se_var 1)) (se_var 2) se_bl)
  (sss_one (ss_for hp rfl (si_seq (se_alt (se_cm (ok_Walk_rows_of Y) hr (se_var 0) (sa_cons (se_var 2) sa_nil) (hj := by omega)) (se_cm (ok_PartsWalk_rows_of Y) hr (se_var 0) (sa_cons (se_var 2) sa_nil) (hj := by omega)))) (sg_tup rfl (sgs_cons (sg_name 3 hN) (sgs_cons (sg_name 4 hN) (sgs_cons (sg_name 5 hN) sgs_nil)))) (sss_cons (ss_set 6 hN (se_alt (se_cm (ok_Walk_found_by Y) hr (se_var 0) (sa_cons (se_var 1) (sa_cons (se_var 2) (sa_cons (se_tup (sa_cons (se_var 3) (sa_cons (se_var 4) sa_nil))) (sa_cons (se_var 5) sa_nil)))) (hj := by omega)) (se_cm (ok_PartsWalk_found_by Y) hr (se_var 0) (sa_cons (se_var 1) (sa_cons (se_var 2) (sa_cons (se_tup (sa_cons (se_var 3) (sa_cons (se_var 4) sa_nil))) (sa_cons (se_var 5) sa_nil)))) (hj := by omega))))
  (sss_cons (ss_if (st_cmp cmp_notN (se_var 6) se_non) (sss_one (ss_expr (se_alt (se_cm (ih.Walk_done) hr (se_var 0) (sa_cons (se_var 1) (sa_cons (se_var 2) (sa_cons (se_tup (sa_cons (se_var 3) (sa_cons (se_var 4) sa_nil))) (sa_cons (se_var 5) (sa_cons (se_var 6) sa_nil))))) (hj := by omega)) (se_cm (ih.PartsWalk_done) hr (se_var 0) (sa_cons (se_var 1) (sa_cons (se_var 2) (sa_cons (se_tup (sa_cons (se_var 3) (sa_cons (se_var 4) sa_nil))) (sa_cons (se_var 5) (sa_cons (se_var 6) sa_nil))))) (hj := by omega))))) sss_nil)
  (sss_one (ss_if (st_cmp cmp_notN (se_fld (fl_fault Y) (se_var 1)) se_non) (sss_one ss_retN) sss_nil))))))))
theorem by_Walk_done (Y : Ctx w K mg h) {n : R_Walk_done} {k : Nat} (hk : 7 ≤ k + 1) (ih : All_Walk_done P w K mg base k n) {f : Addr} {cdv : Value} {A : Around} {outer : List Env} {s : Shared} {H : Hp} {E : XK} (hr : Room (k + 3) (A.deeper (envOfC "Walk.done" (defScope s_Walk_done) s.heap.objs.size f cdv)))
    (tk : Takes (cxOf (L2.CX P w) P w K mg base ["self", "trail", "part", "spot", "row", "there", "head", "value"] "Walk.done" (defScope s_Walk_done) f cdv A outer s H E) (fun cls d _ H => E cls d H)) (hp : PassesOwn (model P w) (A.deeper (envOfC "Walk.done" (defScope s_Walk_done) s.heap.objs.size f cdv)) (envOfC "Walk.done" (defScope s_Walk_done) s.heap.objs.size f cdv) (cxOf (L2.CX P w) P w K mg base ["self", "trail", "part", "spot", "row", "there", "head", "value"] "Walk.done" (defScope s_Walk_done) f cdv A outer s H E).xe) :
    SSs (cxOf (L2.CX P w) P w K mg base ["self", "trail", "part", "spot", "row", "there", "head", "value"] "Walk.done" (defScope s_Walk_done) f cdv A outer s H E) (fun cls d _ H => E cls d H) (defBody s_Walk_done) (b_Walk_done n) :=
  have hN : (["self", "trail", "part", "spot", "row", "there", "head", "value"] : List PySem.Str).Nodup := sc_Walk_done.nd
  (sss_cons (ss_set 6 hN (se_ix hr (se_var 4) se_int))
  (sss_one (ss_if (st_cmp (cmp_eq hr) (se_var 6) (se_str (s := [115, 101, 116]))) (sss_one (ss_put hr (se_fld (fl_known Y) (se_var 1)) (se_alt (se_cm (ok_Walk_key_of Y) hr (se_var 0) (sa_cons (se_var 2) (sa_cons (se_ix hr (se_var 4) se_int) sa_nil)) (hj := by omega)) (se_cm (ok_PartsWalk_key_of Y) hr (se_var 0) (sa_cons (se_var 2) (sa_cons (se_ix hr (se_var 4) se_int) sa_nil)) (hj := by omega))) (se_cp (ok_value_of Y) hr tk (sa_cons (se_ix hr (se_var 4) se_int) (sa_cons (se_var 5) sa_nil)) (hj := by omega)))) (sss_one (ss_if (st_cmp (cmp_eq hr) (se_var 6) (se_str (s := [116, 97, 107, 101]))) (sss_cons (ss_set 7 hN (se_cm0 (ok_Trail_take Y) hr (se_var 1) (hj := by omega)))
  (sss_cons (ss_put hr (se_fld (fl_known Y) (se_var 1)) (se_alt (se_cm (ok_Walk_key_of Y) hr (se_var 0) (sa_cons (se_var 2) (sa_cons (se_ix hr (se_var 4) se_int) sa_nil)) (hj := by omega)) (se_cm (ok_PartsWalk_key_of Y) hr (se_var 0) (sa_cons (se_var 2) (sa_cons (se_ix hr (se_var 4) se_int) sa_nil)) (hj := by omega))) (se_var 7))
  (sss_one (ss_expr (se_M PySem.F.plainAttrs_list PySem.F.slot_list_append PySem.F.type_list_append (ck_list _) m_append (se_fld (fl_trace Y) (se_var 1)) (sa_cons (se_tup (sa_cons (se_str (s := [116, 97, 107, 101])) (sa_cons (se_var 7) (sa_cons (se_ix hr (se_var 3) se_int) (sa_cons (se_ix hr (se_var 3) se_int) sa_nil))))) sa_nil)))))) (sss_one (ss_if (st_cmp (cmp_eq hr) (se_var 6) (se_str (s := [115, 97, 121]))) (sss_one (ss_expr (se_M PySem.F.plainAttrs_list PySem.F.slot_list_append PySem.F.type_list_append (ck_list _) m_append (se_fld (fl_trace Y) (se_var 1)) (sa_cons (se_tup (sa_cons (se_str (s := [115, 97, 121])) (sa_cons (se_cp (ok_value_of Y) hr tk (sa_cons (se_ix hr (se_var 4) se_int) (sa_cons (se_var 5) sa_nil)) (hj := by omega)) (sa_cons (se_ix hr (se_var 3) se_int) (sa_cons (se_ix hr (se_var 3) se_int) sa_nil))))) sa_nil)))) (sss_one (ss_if (st_cmp (cmp_eq hr) (se_var 6) (se_str (s := [110, 101, 101, 100]))) (sss_one (ss_if (st_cmp cmp_le (se_cp (ok_value_of Y) hr tk (sa_cons (se_ix hr (se_var 4) se_int) (sa_cons (se_var 5) sa_nil)) (hj := by omega)) se_int) (sss_one (ss_fld (fl_fault Y) (se_var 1) (se_tup (sa_cons (se_str (s := [110, 101, 101, 100])) (sa_cons (se_ix hr (se_var 3) se_int) (sa_cons (se_ix hr (se_var 3) se_int) (sa_cons se_int sa_nil))))))) sss_nil)) (sss_one (ss_if (st_cmp (cmp_eq hr) (se_var 6) (se_str (s := [97, 115, 107]))) (sss_cons (ss_if (st_nin hr (se_ix hr (se_var 4) se_int) (se_fld (fl_begun Y) (se_var 1))) (sss_one (ss_expr (se_cm (ok_Trail_load Y) hr (se_var 1) (sa_cons (se_alt (se_cm (ok_Walk_loads_of Y) hr (se_var 0) (sa_cons (se_ix hr (se_var 4) se_int) sa_nil) (hj := by omega)) (se_cm (ok_PartsWalk_loads_of Y) hr (se_var 0) (sa_cons (se_ix hr (se_var 4) se_int) sa_nil) (hj := by omega))) sa_nil) (hj := by omega)))) sss_nil)
  (sss_one (ss_expr (se_alt (se_cm (ih.Walk_begin) hr (se_var 0) (sa_cons (se_var 1) (sa_cons (se_ix hr (se_var 4) se_int) sa_nil)) (hj := by omega)) (se_cm (ih.PartsWalk_begin) hr (se_var 0) (sa_cons (se_var 1) (sa_cons (se_ix hr (se_var 4) se_int) sa_nil)) (hj := by omega)))))) (sss_one (ss_if (st_in hr (se_var 6) (se_tup (sa_cons (se_str (s := [98, 114, 105, 110, 103])) (sa_cons (se_str (s := [100, 111])) sa_nil)))) (sss_one (ss_expr (se_alt (se_cm (ih.Walk_begin) hr (se_var 0) (sa_cons (se_var 1) (sa_cons (se_ix hr (se_var 4) se_int) sa_nil)) (hj := by omega)) (se_cm (ih.PartsWalk_begin) hr (se_var 0) (sa_cons (se_var 1) (sa_cons (se_ix hr (se_var 4) se_int) sa_nil)) (hj := by omega))))) sss_nil)))))))))))))
theorem by_Walk_begin (Y : Ctx w K mg h) {n : R_Walk_done} {k : Nat} (hk : 7 ≤ k + 1) (ih : All_Walk_done P w K mg base k n) {f : Addr} {cdv : Value} {A : Around} {outer : List Env} {s : Shared} {H : Hp} {E : XK} (hr : Room (k + 3) (A.deeper (envOfC "Walk.begin" (defScope s_Walk_begin) s.heap.objs.size f cdv)))
    (tk : Takes (cxOf (L2.CX P w) P w K mg base ["self", "trail", "part", "place", "number", "row", "there"] "Walk.begin" (defScope s_Walk_begin) f cdv A outer s H E) (fun cls d _ H => E cls d H)) (hp : PassesOwn (model P w) (A.deeper (envOfC "Walk.begin" (defScope s_Walk_begin) s.heap.objs.size f cdv)) (envOfC "Walk.begin" (defScope s_Walk_begin) s.heap.objs.size f cdv) (cxOf (L2.CX P w) P w K mg base ["self", "trail", "part", "place", "number", "row", "there"] "Walk.begin" (defScope s_Walk_begin) f cdv A outer s H E).xe) :
    SSs (cxOf (L2.CX P w) P w K mg base ["self", "trail", "part", "place", "number", "row", "there"] "Walk.begin" (defScope s_Walk_begin) f cdv A outer s H E) (fun cls d _ H => E cls d H) (defBody s_Walk_begin) (b_Walk_begin n) :=
  have hN : (["self", "trail", "part", "place", "number", "row", "there"] : List PySem.Str).Nodup := sc_Walk_begin.nd
  (sss_cons (ss_if (st_in hr (se_var 2) (se_fld (fl_begun Y) (se_var 1))) (sss_one ss_retN) sss_nil)
  (sss_cons (ss_put hr (se_fld (fl_begun Y) (se_var 1)) (se_var 2) se_bl)
  (sss_one (ss_for hp rfl (si_seq (se_alt (se_cm (ok_Walk_rows_of Y) hr (se_var 0) (sa_cons (se_var 2) sa_nil) (hj := by omega)) (se_cm (ok_PartsWalk_rows_of Y) hr (se_var 0) (sa_cons (se_var 2) sa_nil) (hj := by omega)))) (sg_tup rfl (sgs_cons (sg_name 3 hN) (sgs_cons (sg_name 4 hN) (sgs_cons (sg_name 5 hN) sgs_nil)))) (sss_cons (ss_set 6 hN (se_alt (se_cm (ok_Walk_found_by Y) hr (se_var 0) (sa_cons (se_var 1) (sa_cons (se_var 2) (sa_cons (se_tup (sa_cons (se_var 3) (sa_cons (se_var 4) sa_nil))) (sa_cons (se_var 5) sa_nil)))) (hj := by omega)) (se_cm (ok_PartsWalk_found_by Y) hr (se_var 0) (sa_cons (se_var 1) (sa_cons (se_var 2) (sa_cons (se_tup (sa_cons (se_var 3) (sa_cons (se_var 4) sa_nil))) (sa_cons (se_var 5) sa_nil)))) (hj := by omega))))
  (sss_cons (ss_if (st_cmp cmp_notN (se_var 6) se_non) (sss_one (ss_expr (se_alt (se_cm (ih.Walk_done) hr (se_var 0) (sa_cons (se_var 1) (sa_cons (se_var 2) (sa_cons (se_tup (sa_cons (se_var 3) (sa_cons (se_var 4) sa_nil))) (sa_cons (se_var 5) (sa_cons (se_var 6) sa_nil))))) (hj := by omega)) (se_cm (ih.PartsWalk_done) hr (se_var 0) (sa_cons (se_var 1) (sa_cons (se_var 2) (sa_cons (se_tup (sa_cons (se_var 3) (sa_cons (se_var 4) sa_nil))) (sa_cons (se_var 5) (sa_cons (se_var 6) sa_nil))))) (hj := by omega))))) sss_nil)
  (sss_one (ss_if (st_cmp cmp_notN (se_fld (fl_fault Y) (se_var 1)) se_non) (sss_one ss_retN) sss_nil))))))))
theorem all_Walk_done (Y : Ctx w K mg h) : ∀ n : Nat, All_Walk_done P w K mg base (7 + 4 * n) (r_walk_done n)
  | 0 => ⟨⟨by
      obtain ⟨fd, F⟩ := Y.c.t.d.def_ 31 (d := d_PartsWalk_done) rfl
      exact ⟨_, fd, ["self", "trail", "part", "spot", "row", "there"], [], [], fnok_bad, cl_PartsWalk Y, me_PartsWalk_done Y, F.bindsN (fun _ _ _ _ _ _ us hl => match us, hl with | [_, _, _, _, _, _], _ => rfl), .nil, fun _ => .nil⟩⟩, ⟨by
      obtain ⟨fd, F⟩ := Y.c.t.d.def_ 32 (d := d_PartsWalk_begin) rfl
      exact ⟨_, fd, ["self", "trail", "part"], [], [], fnok_bad, cl_PartsWalk Y, me_PartsWalk_begin Y, F.bindsN (fun _ _ _ _ _ _ us hl => match us, hl with | [_, _, _], _ => rfl), .nil, fun _ => .nil⟩⟩, ⟨by
      obtain ⟨fd, F⟩ := Y.c.t.d.def_ 33 (d := d_Walk_done) rfl
      exact ⟨_, fd, ["self", "trail", "part", "spot", "row", "there"], [], [], fnok_bad, cl_Walk Y, me_Walk_done Y, F.bindsN (fun _ _ _ _ _ _ us hl => match us, hl with | [_, _, _, _, _, _], _ => rfl), .nil, fun _ => .nil⟩⟩, ⟨by
      obtain ⟨fd, F⟩ := Y.c.t.d.def_ 34 (d := d_Walk_begin) rfl
      exact ⟨_, fd, ["self", "trail", "part"], [], [], fnok_bad, cl_Walk Y, me_Walk_begin Y, F.bindsN (fun _ _ _ _ _ _ us hl => match us, hl with | [_, _, _], _ => rfl), .nil, fun _ => .nil⟩⟩⟩
  | n + 1 =>
    have ih := all_Walk_done Y n
    ⟨⟨by
      obtain ⟨fd, F⟩ := Y.c.t.d.def_ 31 (d := d_PartsWalk_done) rfl
      exact ⟨_, fd, ["self", "trail", "part", "spot", "row", "there"], [], [], fn_ok (k := 7 + 4 * n + 3) F sc_PartsWalk_done (fun cdv A outer s H E hr tk hp => by_PartsWalk_done Y (by omega) ih hr tk hp), cl_PartsWalk Y, me_PartsWalk_done Y, F.bindsN (fun _ _ _ _ _ _ us hl => match us, hl with | [_, _, _, _, _, _], _ => rfl), .nil, fun _ => .nil⟩⟩, ⟨by
      obtain ⟨fd, F⟩ := Y.c.t.d.def_ 32 (d := d_PartsWalk_begin) rfl
      exact ⟨_, fd, ["self", "trail", "part"], [], [], fn_ok (k := 7 + 4 * n + 3) F sc_PartsWalk_begin (fun cdv A outer s H E hr tk hp => by_PartsWalk_begin Y (by omega) ih hr tk hp), cl_PartsWalk Y, me_PartsWalk_begin Y, F.bindsN (fun _ _ _ _ _ _ us hl => match us, hl with | [_, _, _], _ => rfl), .nil, fun _ => .nil⟩⟩, ⟨by
      obtain ⟨fd, F⟩ := Y.c.t.d.def_ 33 (d := d_Walk_done) rfl
      exact ⟨_, fd, ["self", "trail", "part", "spot", "row", "there"], [], [], fn_ok (k := 7 + 4 * n + 3) F sc_Walk_done (fun cdv A outer s H E hr tk hp => by_Walk_done Y (by omega) ih hr tk hp), cl_Walk Y, me_Walk_done Y, F.bindsN (fun _ _ _ _ _ _ us hl => match us, hl with | [_, _, _, _, _, _], _ => rfl), .nil, fun _ => .nil⟩⟩, ⟨by
      obtain ⟨fd, F⟩ := Y.c.t.d.def_ 34 (d := d_Walk_begin) rfl
      exact ⟨_, fd, ["self", "trail", "part"], [], [], fn_ok (k := 7 + 4 * n + 3) F sc_Walk_begin (fun cdv A outer s H E hr tk hp => by_Walk_begin Y (by omega) ih hr tk hp), cl_Walk Y, me_Walk_begin Y, F.bindsN (fun _ _ _ _ _ _ us hl => match us, hl with | [_, _, _], _ => rfl), .nil, fun _ => .nil⟩⟩⟩
theorem sc_Walk_go : FnScope ["self", "root", "numbers", "trail"] ["self", "root", "numbers"] (defScope s_Walk_go) := ⟨rfl, rfl, rfl, by decide +kernel, rfl, by decide +kernel, by decide +kernel⟩
theorem by_Walk_go (Y : Ctx w K mg h) {f : Addr} {cdv : Value} {A : Around} {outer : List Env} {s : Shared} {H : Hp} {E : XK} (hr : Room 39 (A.deeper (envOfC "Walk.go" (defScope s_Walk_go) s.heap.objs.size f cdv)))
    (tk : Takes (cxOf (L2.CX P w) P w K mg base ["self", "root", "numbers", "trail"] "Walk.go" (defScope s_Walk_go) f cdv A outer s H E) (fun cls d _ H => E cls d H)) (hp : PassesOwn (model P w) (A.deeper (envOfC "Walk.go" (defScope s_Walk_go) s.heap.objs.size f cdv)) (envOfC "Walk.go" (defScope s_Walk_go) s.heap.objs.size f cdv) (cxOf (L2.CX P w) P w K mg base ["self", "root", "numbers", "trail"] "Walk.go" (defScope s_Walk_go) f cdv A outer s H E).xe) :
    SSs (cxOf (L2.CX P w) P w K mg base ["self", "root", "numbers", "trail"] "Walk.go" (defScope s_Walk_go) f cdv A outer s H E) (fun cls d _ H => E cls d H) (defBody s_Walk_go) b_Walk_go :=
  have hN : (["self", "root", "numbers", "trail"] : List PySem.Str).Nodup := sc_Walk_go.nd
  (sss_cons (ss_set 3 hN (se_ck (L := L_Trail) (mak_Trail Y) hr (sa_cons (se_var 2) sa_nil) ))
  (sss_cons (ss_expr (se_cm (ok_Trail_load Y) hr (se_var 3) (sa_cons (se_alt (se_cm (ok_Walk_loads_of Y) hr (se_var 0) (sa_cons (se_var 1) sa_nil) ) (se_cm (ok_PartsWalk_loads_of Y) hr (se_var 0) (sa_cons (se_var 1) sa_nil) )) sa_nil) ))
  (sss_cons (ss_expr (se_cm (ok_Trail_load Y) hr (se_var 3) (sa_cons (se_alt (se_cm (ok_Walk_ahead_of Y) hr (se_var 0) (sa_cons (se_var 1) sa_nil) ) (se_cm (ok_PartsWalk_ahead_of Y) hr (se_var 0) (sa_cons (se_var 1) sa_nil) )) sa_nil) ))
  (sss_cons (ss_expr (se_alt (se_cm ((all_Walk_done Y 8).Walk_begin) hr (se_var 0) (sa_cons (se_var 3) (sa_cons (se_var 1) sa_nil)) ) (se_cm ((all_Walk_done Y 8).PartsWalk_begin) hr (se_var 0) (sa_cons (se_var 3) (sa_cons (se_var 1) sa_nil)) )))
  (sss_one (ss_ret (se_tup (sa_cons (se_T b_tuple (fr_tuple Y) (sa_cons (se_fld (fl_trace Y) (se_var 3)) sa_nil)) (sa_cons (se_fld (fl_fault Y) (se_var 3)) sa_nil)))))))))
theorem ok_Walk_go (Y : Ctx w K mg h) : MthF P w K mg base 40 "Walk" "go" m_Walk_go 3 [] := by
  obtain ⟨fd, F⟩ := Y.c.t.d.def_ 35 (d := d_Walk_go) rfl
  exact ⟨_, fd, ["self", "root", "numbers"], [], [], fn_ok F sc_Walk_go (fun cdv A outer s H E hr tk hp => by_Walk_go Y hr tk hp), cl_Walk Y, me_Walk_go Y, F.bindsN (fun _ _ _ _ _ _ us hl => match us, hl with | [_, _, _], _ => rfl), .nil, fun _ => .nil⟩
theorem sc_PartsWalk_go : FnScope ["self", "root", "numbers", "trail"] ["self", "root", "numbers"] (defScope s_PartsWalk_go) := ⟨rfl, rfl, rfl, by decide +kernel, rfl, by decide +kernel, by decide +kernel⟩
theorem by_PartsWalk_go (Y : Ctx w K mg h) {f : Addr} {cdv : Value} {A : Around} {outer : List Env} {s : Shared} {H : Hp} {E : XK} (hr : Room 39 (A.deeper (envOfC "Walk.go" (defScope s_PartsWalk_go) s.heap.objs.size f cdv)))
    (tk : Takes (cxOf (L2.CX P w) P w K mg base ["self", "root", "numbers", "trail"] "Walk.go" (defScope s_PartsWalk_go) f cdv A outer s H E) (fun cls d _ H => E cls d H)) (hp : PassesOwn (model P w) (A.deeper (envOfC "Walk.go" (defScope s_PartsWalk_go) s.heap.objs.size f cdv)) (envOfC "Walk.go" (defScope s_PartsWalk_go) s.heap.objs.size f cdv) (cxOf (L2.CX P w) P w K mg base ["self", "root", "numbers", "trail"] "Walk.go" (defScope s_PartsWalk_go) f cdv A outer s H E).xe) :
    SSs (cxOf (L2.CX P w) P w K mg base ["self", "root", "numbers", "trail"] "Walk.go" (defScope s_PartsWalk_go) f cdv A outer s H E) (fun cls d _ H => E cls d H) (defBody s_PartsWalk_go) b_Walk_go :=
  have hN : (["self", "root", "numbers", "trail"] : List PySem.Str).Nodup := sc_PartsWalk_go.nd
  (sss_cons (ss_set 3 hN (se_ck (L := L_Trail) (mak_Trail Y) hr (sa_cons (se_var 2) sa_nil) ))
  (sss_cons (ss_expr (se_cm (ok_Trail_load Y) hr (se_var 3) (sa_cons (se_alt (se_cm (ok_Walk_loads_of Y) hr (se_var 0) (sa_cons (se_var 1) sa_nil) ) (se_cm (ok_PartsWalk_loads_of Y) hr (se_var 0) (sa_cons (se_var 1) sa_nil) )) sa_nil) ))
  (sss_cons (ss_expr (se_cm (ok_Trail_load Y) hr (se_var 3) (sa_cons (se_alt (se_cm (ok_Walk_ahead_of Y) hr (se_var 0) (sa_cons (se_var 1) sa_nil) ) (se_cm (ok_PartsWalk_ahead_of Y) hr (se_var 0) (sa_cons (se_var 1) sa_nil) )) sa_nil) ))
  (sss_cons (ss_expr (se_alt (se_cm ((all_Walk_done Y 8).Walk_begin) hr (se_var 0) (sa_cons (se_var 3) (sa_cons (se_var 1) sa_nil)) ) (se_cm ((all_Walk_done Y 8).PartsWalk_begin) hr (se_var 0) (sa_cons (se_var 3) (sa_cons (se_var 1) sa_nil)) )))
  (sss_one (ss_ret (se_tup (sa_cons (se_T b_tuple (fr_tuple Y) (sa_cons (se_fld (fl_trace Y) (se_var 3)) sa_nil)) (sa_cons (se_fld (fl_fault Y) (se_var 3)) sa_nil)))))))))
theorem ok_PartsWalk_go (Y : Ctx w K mg h) : MthF P w K mg base 40 "PartsWalk" "go" m_Walk_go 3 [] := by
  obtain ⟨fd, F⟩ := Y.c.t.d.def_ 36 (d := d_PartsWalk_go) rfl
  exact ⟨_, fd, ["self", "root", "numbers"], [], [], fn_ok F sc_PartsWalk_go (fun cdv A outer s H E hr tk hp => by_PartsWalk_go Y hr tk hp), cl_PartsWalk Y, me_PartsWalk_go Y, F.bindsN (fun _ _ _ _ _ _ us hl => match us, hl with | [_, _, _], _ => rfl), .nil, fun _ => .nil⟩
theorem sc__law_bare : FnScope ["_law_parts_here", "_law_numbers", "_law_walk", "_law_name_here", "_law_rows"] ["_law_parts_here", "_law_numbers"] (defScope s__law_bare) := ⟨rfl, rfl, rfl, by decide +kernel, rfl, by decide +kernel, by decide +kernel⟩
theorem by__law_bare (Y : Ctx w K mg h) {f : Addr} {cdv : Value} {A : Around} {outer : List Env} {s : Shared} {H : Hp} {E : XK} (hr : Room 40 (A.deeper (envOfC "_law_bare" (defScope s__law_bare) s.heap.objs.size f cdv)))
    (tk : Takes (cxOf (L2.CX P w) P w K mg base ["_law_parts_here", "_law_numbers", "_law_walk", "_law_name_here", "_law_rows"] "_law_bare" (defScope s__law_bare) f cdv A outer s H E) (fun cls d _ H => E cls d H)) (hp : PassesOwn (model P w) (A.deeper (envOfC "_law_bare" (defScope s__law_bare) s.heap.objs.size f cdv)) (envOfC "_law_bare" (defScope s__law_bare) s.heap.objs.size f cdv) (cxOf (L2.CX P w) P w K mg base ["_law_parts_here", "_law_numbers", "_law_walk", "_law_name_here", "_law_rows"] "_law_bare" (defScope s__law_bare) f cdv A outer s H E).xe) :
    SSs (cxOf (L2.CX P w) P w K mg base ["_law_parts_here", "_law_numbers", "_law_walk", "_law_name_here", "_law_rows"] "_law_bare" (defScope s__law_bare) f cdv A outer s H E) (fun cls d _ H => E cls d H) (defBody s__law_bare) b__law_bare :=
  have hN : (["_law_parts_here", "_law_numbers", "_law_walk", "_law_name_here", "_law_rows"] : List PySem.Str).Nodup := sc__law_bare.nd
  (sss_cons (ss_set 2 hN (se_make0 (mk_Walk Y) (g_Walk Y)))
  (sss_cons (ss_for hp rfl (si_seq (se_var 0)) (sg_tup rfl (sgs_cons (sg_name 3 hN) (sgs_cons (sg_name 4 hN) sgs_nil))) (sss_cons (ss_if (st_w (sw_or (st_cmp (cmp_ne hr) (se_alt (se_cm (ok_Walk_rows_of Y) hr (se_var 2) (sa_cons (se_var 3) sa_nil) ) (se_cm (ok_PartsWalk_rows_of Y) hr (se_var 2) (sa_cons (se_var 3) sa_nil) )) (se_tup sa_nil)) (sw_or1 (st_cmp (cmp_ne hr) (se_alt (se_cm (ok_Walk_key_of Y) hr (se_var 2) (sa_cons (se_var 3) (sa_cons (se_str (s := [120])) sa_nil)) ) (se_cm (ok_PartsWalk_key_of Y) hr (se_var 2) (sa_cons (se_var 3) (sa_cons (se_str (s := [120])) sa_nil)) )) (se_str (s := [120])))))) (sss_one (ss_ret se_bl)) sss_nil)
  (sss_one (ss_if (st_w (sw_or (st_cmp (cmp_ne hr) (se_alt (se_cm (ok_Walk_loads_of Y) hr (se_var 2) (sa_cons (se_var 3) sa_nil) ) (se_cm (ok_PartsWalk_loads_of Y) hr (se_var 2) (sa_cons (se_var 3) sa_nil) )) (se_tup sa_nil)) (sw_or (st_cmp (cmp_ne hr) (se_alt (se_cm (ok_Walk_ahead_of Y) hr (se_var 2) (sa_cons (se_var 3) sa_nil) ) (se_cm (ok_PartsWalk_ahead_of Y) hr (se_var 2) (sa_cons (se_var 3) sa_nil) )) (se_tup sa_nil)) (sw_or1 (st_cmp (cmp_ne hr) (se_alt (se_cm (ok_Walk_go Y) hr (se_var 2) (sa_cons (se_var 3) (sa_cons (se_T b_tuple (fr_tuple Y) (sa_cons (se_var 1) sa_nil)) sa_nil)) ) (se_cm (ok_PartsWalk_go Y) hr (se_var 2) (sa_cons (se_var 3) (sa_cons (se_T b_tuple (fr_tuple Y) (sa_cons (se_var 1) sa_nil)) sa_nil)) )) (se_tup (sa_cons (se_tup sa_nil) (sa_cons se_non sa_nil)))))))) (sss_one (ss_ret se_bl)) sss_nil))))
  (sss_one (ss_ret se_bl))))
theorem ok__law_bare (Y : Ctx w K mg h) : CalF P w K mg base 41 "_law_bare" m__law_bare 2 [] := by
  obtain ⟨fd, F⟩ := Y.c.t.d.def_ 37 (d := d__law_bare) rfl
  exact ⟨_, fd, ["_law_parts_here", "_law_numbers"], [], [], fn_ok F sc__law_bare (fun cdv A outer s H E hr tk hp => by__law_bare Y hr tk hp), g__law_bare Y, F.kp, F.bindsN (fun _ _ _ _ _ _ us hl => match us, hl with | [_, _], _ => rfl), .nil, fun _ => .nil⟩
theorem sc__law_due : FnScope ["_law_parts_here", "_law_root", "_law_value", "_law_names", "_law_third", "_law_second", "_law_found", "_law_name_here", "_law_rows", "_law_k"] ["_law_parts_here", "_law_root", "_law_value"] (defScope s__law_due) := ⟨rfl, rfl, rfl, by decide +kernel, rfl, by decide +kernel, by decide +kernel⟩
theorem by__law_due (Y : Ctx w K mg h) {f : Addr} {cdv : Value} {A : Around} {outer : List Env} {s : Shared} {H : Hp} {E : XK} (hr : Room 0 (A.deeper (envOfC "_law_due" (defScope s__law_due) s.heap.objs.size f cdv)))
    (tk : Takes (cxOf (L2.CX P w) P w K mg base ["_law_parts_here", "_law_root", "_law_value", "_law_names", "_law_third", "_law_second", "_law_found", "_law_name_here", "_law_rows", "_law_k"] "_law_due" (defScope s__law_due) f cdv A outer s H E) (fun cls d _ H => E cls d H)) (hp : PassesOwn (model P w) (A.deeper (envOfC "_law_due" (defScope s__law_due) s.heap.objs.size f cdv)) (envOfC "_law_due" (defScope s__law_due) s.heap.objs.size f cdv) (cxOf (L2.CX P w) P w K mg base ["_law_parts_here", "_law_root", "_law_value", "_law_names", "_law_third", "_law_second", "_law_found", "_law_name_here", "_law_rows", "_law_k"] "_law_due" (defScope s__law_due) f cdv A outer s H E).xe) :
    SSs (cxOf (L2.CX P w) P w K mg base ["_law_parts_here", "_law_root", "_law_value", "_law_names", "_law_third", "_law_second", "_law_found", "_law_name_here", "_law_rows", "_law_k"] "_law_due" (defScope s__law_due) f cdv A outer s H E) (fun cls d _ H => E cls d H) (defBody s__law_due) b__law_due :=
  have hN : (["_law_parts_here", "_law_root", "_law_value", "_law_names", "_law_third", "_law_second", "_law_found", "_law_name_here", "_law_rows", "_law_k"] : List PySem.Str).Nodup := sc__law_due.nd
  (sss_cons (ss_set 3 hN (se_lc (own := [("_law_name_here", 7), ("_law_rows", 8)]) rfl hN (si_seq (se_var 0)) (by change blkC ["_law_parts_here", "_law_root", "_law_value", "_law_names", "_law_third", "_law_second", "_law_found", "_law_name_here", "_law_rows", "_law_k"] (defScope s__law_due) _ _ = true; decide +kernel) (fun _ _ _ _ _ => (sgc_tup rfl (sgcs_cons (sgc_name 7 hN) (sgcs_cons (sgc_name 8 hN) sgcs_nil)))) (fun _ _ _ _ _ => sts_nil) (fun _ _ _ _ _ => (se_var 7))))
  (sss_cons (ss_set 4 hN (se_lst sa_nil))
  (sss_cons (ss_if (st_cmp (cmp_eq hr) (se_B b_len (fr_len Y) (sa_cons (se_var 0) sa_nil)) se_int) (sss_one (ss_setLc 4 (own := [("_law_k", 9)]) rfl hN (si_range1 (fr_range Y) (sa_cons (se_B b_len (fr_len Y) (sa_cons (se_ix hr (se_ix hr (se_var 0) se_int) se_int) sa_nil)) sa_nil)) (by change blkC ["_law_parts_here", "_law_root", "_law_value", "_law_names", "_law_third", "_law_second", "_law_found", "_law_name_here", "_law_rows", "_law_k"] (defScope s__law_due) _ _ = true; decide +kernel) (fun _ _ _ _ _ => (sgc_name 9 hN)) (fun _ _ _ _ _ => sts_nil) (fun _ _ _ _ _ => (se_tup (sa_cons (se_str (s := [115, 97, 121])) (sa_cons (se_ix hr (se_ix hr (se_ix hr (se_ix hr (se_ix hr (se_ix hr (se_var 0) se_int) se_int) (se_var 9)) se_int) se_int) se_int) (sa_cons (se_ix hr (se_var 3) se_int) (sa_cons (se_var 9) sa_nil)))))))) sss_nil)
  (sss_cons (ss_if (st_cmp (cmp_eq hr) (se_var 1) se_int) (sss_one (ss_ret (se_tup (sa_cons (se_T b_tuple (fr_tuple Y) (sa_cons (se_var 4) sa_nil)) (sa_cons se_non sa_nil))))) sss_nil)
  (sss_cons (ss_set 5 hN (se_lst (sa_cons (se_tup (sa_cons (se_str (s := [116, 97, 107, 101])) (sa_cons (se_var 2) (sa_cons (se_ix hr (se_var 3) se_int) (sa_cons se_int sa_nil))))) (sa_cons (se_tup (sa_cons (se_str (s := [115, 97, 121])) (sa_cons se_int (sa_cons (se_ix hr (se_var 3) se_int) (sa_cons se_int sa_nil))))) sa_nil))))
  (sss_cons (ss_if (st_cmp (cmp_eq hr) (se_ix hr (se_ix hr (se_ix hr (se_ix hr (se_var 0) se_int) se_int) se_int) se_int) (se_str (s := [115, 97, 121]))) (sss_one (ss_set 5 hN (se_lst (sa_cons (se_tup (sa_cons (se_str (s := [115, 97, 121])) (sa_cons se_int (sa_cons (se_ix hr (se_var 3) se_int) (sa_cons se_int sa_nil))))) (sa_cons (se_tup (sa_cons (se_str (s := [116, 97, 107, 101])) (sa_cons (se_var 2) (sa_cons (se_ix hr (se_var 3) se_int) (sa_cons se_int sa_nil))))) sa_nil))))) sss_nil)
  (sss_cons (ss_if (st_cmp (cmp_eq hr) (se_var 1) se_int) (sss_one (ss_ret (se_tup (sa_cons (se_T b_tuple (fr_tuple Y) (sa_cons (se_var 5) sa_nil)) (sa_cons se_non sa_nil))))) sss_nil)
  (sss_cons (ss_set 6 hN (se_op bin_add (se_var 5) (se_lst (sa_cons (se_tup (sa_cons (se_str (s := [115, 97, 121])) (sa_cons (se_op bin_add (se_var 2) se_int) (sa_cons (se_ix hr (se_var 3) se_int) (sa_cons se_int sa_nil))))) sa_nil))))
  (sss_cons (ss_if (st_cmp cmp_le (se_op bin_add (se_var 2) se_int) se_int) (sss_one (ss_ret (se_tup (sa_cons (se_T b_tuple (fr_tuple Y) (sa_cons (se_var 6) sa_nil)) (sa_cons (se_tup (sa_cons (se_str (s := [110, 101, 101, 100])) (sa_cons (se_ix hr (se_var 3) se_int) (sa_cons se_int (sa_cons se_int sa_nil))))) sa_nil))))) sss_nil)
  (sss_cons (ss_if (st_cmp cmp_gt (se_var 2) se_int) (sss_one (ss_set 6 hN (se_op bin_add (se_var 6) (se_var 4)))) sss_nil)
  (sss_one (ss_ret (se_tup (sa_cons (se_T b_tuple (fr_tuple Y) (sa_cons (se_op bin_add (se_var 6) (se_lst (sa_cons (se_tup (sa_cons (se_str (s := [115, 97, 121])) (sa_cons (se_var 2) (sa_cons (se_ix hr (se_var 3) se_int) (sa_cons (se_op bin_sub (se_B b_len (fr_len Y) (sa_cons (se_ix hr (se_ix hr (se_var 0) se_int) se_int) sa_nil)) se_int) sa_nil))))) sa_nil))) sa_nil)) (sa_cons se_non sa_nil)))))))))))))))
theorem ok__law_due (Y : Ctx w K mg h) : CalF P w K mg base 1 "_law_due" m__law_due 3 [] := by
  obtain ⟨fd, F⟩ := Y.c.t.d.def_ 38 (d := d__law_due) rfl
  exact ⟨_, fd, ["_law_parts_here", "_law_root", "_law_value"], [], [], fn_ok F sc__law_due (fun cdv A outer s H E hr tk hp => by__law_due Y hr tk hp), g__law_due Y, F.kp, F.bindsN (fun _ _ _ _ _ _ us hl => match us, hl with | [_, _, _], _ => rfl), .nil, fun _ => .nil⟩
theorem sc__law_gone : FnScope ["_law_walk", "_law_parts_here", "_law_root", "_law_numbers", "_law_found", "_law_value", "_law_deed"] ["_law_walk", "_law_parts_here", "_law_root", "_law_numbers"] (defScope s__law_gone) := ⟨rfl, rfl, rfl, by decide +kernel, rfl, by decide +kernel, by decide +kernel⟩
theorem by__law_gone (Y : Ctx w K mg h) {f : Addr} {cdv : Value} {A : Around} {outer : List Env} {s : Shared} {H : Hp} {E : XK} (hr : Room 40 (A.deeper (envOfC "_law_gone" (defScope s__law_gone) s.heap.objs.size f cdv)))
    (tk : Takes (cxOf (L2.CX P w) P w K mg base ["_law_walk", "_law_parts_here", "_law_root", "_law_numbers", "_law_found", "_law_value", "_law_deed"] "_law_gone" (defScope s__law_gone) f cdv A outer s H E) (fun cls d _ H => E cls d H)) (hp : PassesOwn (model P w) (A.deeper (envOfC "_law_gone" (defScope s__law_gone) s.heap.objs.size f cdv)) (envOfC "_law_gone" (defScope s__law_gone) s.heap.objs.size f cdv) (cxOf (L2.CX P w) P w K mg base ["_law_walk", "_law_parts_here", "_law_root", "_law_numbers", "_law_found", "_law_value", "_law_deed"] "_law_gone" (defScope s__law_gone) f cdv A outer s H E).xe) :
    SSs (cxOf (L2.CX P w) P w K mg base ["_law_walk", "_law_parts_here", "_law_root", "_law_numbers", "_law_found", "_law_value", "_law_deed"] "_law_gone" (defScope s__law_gone) f cdv A outer s H E) (fun cls d _ H => E cls d H) (defBody s__law_gone) b__law_gone :=
  have hN : (["_law_walk", "_law_parts_here", "_law_root", "_law_numbers", "_law_found", "_law_value", "_law_deed"] : List PySem.Str).Nodup := sc__law_gone.nd
  (sss_cons (ss_set 4 hN (se_alt (se_cm (ok_Walk_go Y) hr (se_var 0) (sa_cons (se_ix hr (se_ix hr (se_var 1) (se_var 2)) se_int) (sa_cons (se_T b_tuple (fr_tuple Y) (sa_cons (se_var 3) sa_nil)) sa_nil)) ) (se_cm (ok_PartsWalk_go Y) hr (se_var 0) (sa_cons (se_ix hr (se_ix hr (se_var 1) (se_var 2)) se_int) (sa_cons (se_T b_tuple (fr_tuple Y) (sa_cons (se_var 3) sa_nil)) sa_nil)) )))
  (sss_cons (ss_set 5 hN (se_ix hr (se_op bin_add (se_var 3) (se_lst (sa_cons se_int sa_nil))) se_int))
  (sss_cons (ss_if (st_w (sw_or (st_not (st_val (se_B b_isi (fr_isinstance Y) (sa_cons (se_var 4) (sa_cons (se_ty "tuple" (fr_tuple Y)) sa_nil))))) (sw_or (st_cmp (cmp_ne hr) (se_B b_len (fr_len Y) (sa_cons (se_var 4) sa_nil)) se_int) (sw_or1 (st_not (st_val (se_B b_isi (fr_isinstance Y) (sa_cons (se_ix hr (se_var 4) se_int) (sa_cons (se_ty "tuple" (fr_tuple Y)) sa_nil))))))))) (sss_one (ss_ret se_bl)) sss_nil)
  (sss_cons (ss_for hp rfl (si_seq (se_ix hr (se_var 4) se_int)) (sg_name 6 hN) (sss_one (ss_if (st_w (sw_or (st_not (st_val (se_B b_isi (fr_isinstance Y) (sa_cons (se_var 6) (sa_cons (se_ty "tuple" (fr_tuple Y)) sa_nil))))) (sw_or (st_cmp (cmp_ne hr) (se_B b_len (fr_len Y) (sa_cons (se_var 6) sa_nil)) se_int) (sw_or (st_not (st_val (se_cp (ok__law_whole Y) hr tk (sa_cons (se_ix hr (se_var 6) se_int) sa_nil) ))) (sw_or1 (st_not (st_val (se_cp (ok__law_whole Y) hr tk (sa_cons (se_ix hr (se_var 6) se_int) sa_nil) )))))))) (sss_one (ss_ret se_bl)) sss_nil)))
  (sss_cons (ss_if (st_w (sw_and (st_cmp cmp_notN (se_ix hr (se_var 4) se_int) se_non) (sw_and1 (st_w (sw_or (st_not (st_val (se_B b_isi (fr_isinstance Y) (sa_cons (se_ix hr (se_var 4) se_int) (sa_cons (se_ty "tuple" (fr_tuple Y)) sa_nil))))) (sw_or1 (st_not (st_val (se_cp (ok__law_whole Y) hr tk (sa_cons (se_ix hr (se_ix hr (se_var 4) se_int) se_int) sa_nil) ))))))))) (sss_one (ss_ret se_bl)) sss_nil)
  (sss_one (ss_ret (se_cmp (cmp_eq hr) (se_var 4) (se_cp (ok__law_due Y) hr tk (sa_cons (se_var 1) (sa_cons (se_var 2) (sa_cons (se_var 5) sa_nil))) )))))))))
theorem ok__law_gone (Y : Ctx w K mg h) : CalF P w K mg base 41 "_law_gone" m__law_gone 4 [] := by
  obtain ⟨fd, F⟩ := Y.c.t.d.def_ 39 (d := d__law_gone) rfl
  exact ⟨_, fd, ["_law_walk", "_law_parts_here", "_law_root", "_law_numbers"], [], [], fn_ok F sc__law_gone (fun cdv A outer s H E hr tk hp => by__law_gone Y hr tk hp), g__law_gone Y, F.kp, F.bindsN (fun _ _ _ _ _ _ us hl => match us, hl with | [_, _, _, _], _ => rfl), .nil, fun _ => .nil⟩
theorem sc_law : FnScope ["_law_script", "_law_parts_here", "_law_less", "_law_numbers", "_law_walk", "_law_other", "_law_root", "_law_some"] ["_law_script"] (defScope s_law) := ⟨rfl, rfl, rfl, by decide +kernel, rfl, by decide +kernel, by decide +kernel⟩
theorem by_law (Y : Ctx w K mg h) {f : Addr} {cdv : Value} {A : Around} {outer : List Env} {s : Shared} {H : Hp} {E : XK} (hr : Room 41 (A.deeper (envOfC "law" (defScope s_law) s.heap.objs.size f cdv)))
    (tk : Takes (cxOf (L2.CX P w) P w K mg base ["_law_script", "_law_parts_here", "_law_less", "_law_numbers", "_law_walk", "_law_other", "_law_root", "_law_some"] "law" (defScope s_law) f cdv A outer s H E) (fun cls d _ H => E cls d H)) (hp : PassesOwn (model P w) (A.deeper (envOfC "law" (defScope s_law) s.heap.objs.size f cdv)) (envOfC "law" (defScope s_law) s.heap.objs.size f cdv) (cxOf (L2.CX P w) P w K mg base ["_law_script", "_law_parts_here", "_law_less", "_law_numbers", "_law_walk", "_law_other", "_law_root", "_law_some"] "law" (defScope s_law) f cdv A outer s H E).xe) :
    SSs (cxOf (L2.CX P w) P w K mg base ["_law_script", "_law_parts_here", "_law_less", "_law_numbers", "_law_walk", "_law_other", "_law_root", "_law_some"] "law" (defScope s_law) f cdv A outer s H E) (fun cls d _ H => E cls d H) (defBody s_law) b_law :=
  have hN : (["_law_script", "_law_parts_here", "_law_less", "_law_numbers", "_law_walk", "_law_other", "_law_root", "_law_some"] : List PySem.Str).Nodup := sc_law.nd
  (sss_cons (ss_set 1 hN (se_cp (ok__law_parts Y) hr tk (sa_cons (se_var 0) sa_nil) ))
  (sss_cons (ss_set 2 hN (se_lst (sa_cons (se_tup (sa_cons (se_ix hr (se_ix hr (se_var 1) se_int) se_int) (sa_cons (se_op bin_add (se_sl (se_ix hr (se_ix hr (se_var 1) se_int) se_int) spo_none (spo_some se_int)) (se_sl (se_ix hr (se_ix hr (se_var 1) se_int) se_int) (spo_some se_int) spo_none)) sa_nil))) (sa_cons (se_ix hr (se_var 1) se_int) sa_nil))))
  (sss_cons (ss_set 3 hN (se_lst (sa_cons (se_cp (ok__law_number Y) hr tk (sa_cons (se_cp (ok__law_cell_at Y) hr tk (sa_cons (se_var 0) (sa_cons se_int sa_nil)) ) sa_nil) ) (sa_cons (se_cp (ok__law_number Y) hr tk (sa_cons (se_cp (ok__law_cell_at Y) hr tk (sa_cons (se_var 0) (sa_cons se_int sa_nil)) ) sa_nil) ) sa_nil))))
  (sss_cons (ss_set 4 hN (se_ck (L := L_PartsWalk) (mak_PartsWalk Y) hr (sa_cons (se_T b_tuple (fr_tuple Y) (sa_cons (se_var 1) sa_nil)) sa_nil) ))
  (sss_cons (ss_set 5 hN (se_ck (L := L_PartsWalk) (mak_PartsWalk Y) hr (sa_cons (se_T b_tuple (fr_tuple Y) (sa_cons (se_var 2) sa_nil)) sa_nil) ))
  (sss_cons (ss_set 6 hN (se_op bin_mod (se_op bin_div (se_cp (ok__law_cell_at Y) hr tk (sa_cons (se_var 0) (sa_cons se_int sa_nil)) ) se_int) se_int))
  (sss_cons (ss_for hp rfl (si_seq (se_lst (sa_cons (se_var 3) (sa_cons (se_lst sa_nil) (sa_cons (se_listRev rfl (fr_list Y) (fr_reversed Y) (se_var 3)) (sa_cons (se_var 3) sa_nil)))))) (sg_name 7 hN) (sss_cons (ss_if (st_w (sw_or (st_not (st_val (se_cp (ok__law_gone Y) hr tk (sa_cons (se_var 4) (sa_cons (se_var 1) (sa_cons (se_var 6) (sa_cons (se_var 7) sa_nil)))) ))) (sw_or1 (st_not (st_val (se_cp (ok__law_gone Y) hr tk (sa_cons (se_var 5) (sa_cons (se_var 2) (sa_cons (se_op bin_mod (se_var 6) se_int) (sa_cons (se_var 7) sa_nil)))) )))))) (sss_one (ss_ret se_bl)) sss_nil)
  (sss_one (ss_if (st_w (sw_or (st_not (st_val (se_cp (ok__law_gone Y) hr tk (sa_cons (se_var 4) (sa_cons (se_var 1) (sa_cons se_int (sa_cons (se_var 7) sa_nil)))) ))) (sw_or1 (st_not (st_val (se_cp (ok__law_told Y) hr tk (sa_cons (se_var 5) (sa_cons (se_var 2) sa_nil)) )))))) (sss_one (ss_ret se_bl)) sss_nil))))
  (sss_one (ss_ret (se_and (se_cp (ok__law_told Y) hr tk (sa_cons (se_var 4) (sa_cons (se_var 1) sa_nil)) ) (se_one (se_cp (ok__law_bare Y) hr tk (sa_cons (se_var 1) (sa_cons (se_var 3) sa_nil)) ))))))))))))
theorem ok_law (Y : Ctx w K mg h) : CalF P w K mg base 42 "law" m_law 1 [] := by
  obtain ⟨fd, F⟩ := Y.c.t.d.def_ 40 (d := d_law) rfl
  exact ⟨_, fd, ["_law_script"], [], [], fn_ok F sc_law (fun cdv A outer s H E hr tk hp => by_law Y hr tk hp), g_law Y, F.kp, F.bindsN (fun _ _ _ _ _ _ us hl => match us, hl with | [_], _ => rfl), .nil, fun _ => .nil⟩
end
end Bh

set_option maxHeartbeats 0
namespace Bh
open PySem PySem.Spec PyProof.Rows L2 MW
abbrev hk : PySem.W.Hook := He.hookX 5 faL fnL [] [] exB
def ob (s : PySem.W.SharedT) : He.AlX := He.obsX 5 faL fnL [] [] exB (HandSHeadRun.getT s)
theorem ob_eq (s : PySem.W.SharedT) : ob s = hk.obs s.abs := He.obsX_eq (HandSHeadRun.getT_eq s)
def loose : List PySem.Str := ["sum_names", "read_names", "rows_of", "made_by", "made_in", "brought_from", "given_as", "onward", "maker", "Trail", "value_of", "when_of", "Walk", "PartsWalk", "_law_cell_at", "_law_whole", "_law_name", "_law_number", "_law_parts", "_law_due", "_law_gone", "_law_told", "_law_bare"]
theorem run (w : World) : HandSHeadRun.RunEq R0 (PySem.W.view R0.prog [27]) hk ob 2400 loose w := by
  intro os
  kernel_rfl
theorem fin {w : World} {K : PySem.W.Frag} {h : Heap} {mg : PySem.Str → Option Value} {f : Addr} (Y : Ctx w K mg h) (hfa : mg ("law" : PySem.Str) = some (.ref f)) : ∃ fd : FuncData, (∀ (s : Shared) (u : Value), BindsTo s fd ⟨[u], []⟩ [("_law_script", u)]) ∧ ∀ base : Heap, K.In base → base.Ns mainGlobals mg → FnOk (PySem.Challenge.rw_bundlehouse_k26_walks).prog w K mg base (L2.CX (PySem.Challenge.rw_bundlehouse_k26_walks).prog w) 42 f fd ["_law_script"] (spA K m_law 1) := by
  obtain ⟨fd, F⟩ := Y.c.t.d.def_ 40 (d := d_law) rfl
  have e := hfa.symm.trans (g_law Y)
  cases e
  have b := FunD.bindsA (ps := ["_law_script"]) F fun _ _ _ _ _ _ us hl => match us, hl with | [_], _ => rfl
  exact ⟨fd, fun s v => b s [v] rfl, fun base _ _ => fn_ok F sc_law (fun cdv A outer s H E hr tk hp => by_law Y hr tk hp)⟩
end Bh
open PySem PySem.W PySem.Calls PyProof.Rows
theorem PySem.Challenge.cw_bundlehouse_k26_walks_holds : PySem.Challenge.rw_bundlehouse_k26_walks.Holds := by
  w_on; o_law
  refine HandSHeadRun.head_any (r := OpenLaw.row PySem.Challenge.rw_bundlehouse_k26_walks) (q := view (OpenLaw.row PySem.Challenge.rw_bundlehouse_k26_walks).prog [27]) (H := Bh.hk) (ob := Bh.ob) (M := 2400) (loose := Bh.loose) (d := HandSHeadRun.topDef (OpenLaw.row PySem.Challenge.rw_bundlehouse_k26_walks).prog 27) (kwd := []) Bh.ob_eq
    (by kernel_rfl) (fun s => by kernel_rfl) Bh.run (by kernel_rfl) (by kernel_rfl) (by kernel_rfl) (by rfl) (by first | assumption | decide +kernel) (by decide +kernel) ⟨rfl, rfl, rfl, rfl, rfl, by decide +kernel⟩ ?hw ?hc
  case hw => w_witness2
  case hc =>
    refine MW.law_end (l := PySem.Challenge.rw_bundlehouse_k26_walks) (k := 42) (x := "_law_script") (m := Bh.m_law) rfl (by kernel_rfl) ⟨rfl, by decide, by decide⟩ ?_ Bh.law_true
    intro w mg fa h Y G hmg0
    obtain ⟨K, KX, c⟩ := Y
    have hmg : mg ("law" : PySem.Str) = some (.ref fa) := by
      have e : (HandSHeadRun.topDef (OpenLaw.row PySem.Challenge.rw_bundlehouse_k26_walks).prog 27).name = ("law" : PySem.Str) := by kernel_rfl
      rw [← e]
      exact hmg0
    obtain ⟨fd, hb, hF⟩ := Bh.fin ⟨KX, G, c⟩ hmg
    exact ⟨K, fd, KX, hb, hF⟩
