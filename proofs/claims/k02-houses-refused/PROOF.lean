import PyProof.Rows.All
import Wide.All
import OpenK.AllK
import Wide.FinOn
import HandS.ForMost
import HandS.Exc
import HandS.ExcInit
import HandS.WordsExc
import HandS.Lambda
import HandS.Zip
import HandS.NoneIn
import HandS.Wide
import HandS.TupAny
import HandS.Deep
import HandS.Style
import HandS.IsInst
import KE.GoesMore
import PyProof.InstEq
import HandS.SlotsOwn
import HandS.Conv
import HandS.MakeKwOnly
import KE.KDictZip
import HandS.ListItems
import HandS.Defaults
import HandS.Head0
import HandS.Head1
import HandS.Head2
import HandS.HeadEnd
import HandS.HeadHook1
import HandS.HeadHook2
import HandS.HeadHook3
import HandS.HeadHook4
import HandS.EndTab
import HandS.HeadWalk
import HandS.ExcField
import HandS.TryMany
import PySem.Challenge.RW_lastbell_k02_houses_refused
set_option Elab.async false
set_option linter.all false
set_option maxRecDepth 100000
/-! DL0: data trees, cells, the representation of both in the abstract heap -/
namespace DL
open PySem PySem.Spec PyProof.Rows L2

inductive T where
  | v (x : V)
  | lst (ts : List T)
  | tup (ts : List T)
  | dct (kvs : List (Key × T))
  | ins (C : Addr) (fs : List (Str × T))
inductive D where
  | t (x : T)
  | m (i : Nat)
inductive Cell where
  | lst (ds : List D)
  | dct (kvs : List (Key × D))
  | ins (C : Addr) (fs : List (Str × D))
  | tup (ds : List D)
  | strmI
  | strm (b : Nat)
  | fz (t : T)
abbrev Store := List Cell
abbrev Env := List (Option D)
def Cell.lives : Cell → Prop
  | .fz _ => False
  | .tup _ => False
  | _ => True

/-! ### trees in the heap; L: the live cells' addresses -/
mutual
def Rep (L : Addr → Prop) (H : Hp) : T → V → Prop
  | .v x, y => y = x
  | .lst ts, y => ∃ a xs, y = .ref a ∧ ¬ L a ∧ H a = some (.lst xs) ∧ RepL L H ts xs
  | .tup ts, y => ∃ a xs, y = .ref a ∧ ¬ L a ∧ H a = some (.tup xs) ∧ RepL L H ts xs
  | .dct kvs, y => ∃ a xs, y = .ref a ∧ ¬ L a ∧ H a = some (.dK xs) ∧ RepK L H kvs xs
  | .ins C fs, y => ∃ a dx xs, y = .ref a ∧ ¬ L a ∧ H a = some (.ins C dx xs) ∧ RepF L H fs xs
def RepL (L : Addr → Prop) (H : Hp) : List T → List V → Prop
  | [], xs => xs = []
  | t :: ts, xs => ∃ y ys, xs = y :: ys ∧ Rep L H t y ∧ RepL L H ts ys
def RepK (L : Addr → Prop) (H : Hp) : List (Key × T) → List (Key × V) → Prop
  | [], xs => xs = []
  | (k, t) :: ts, xs => ∃ y ys, xs = (k, y) :: ys ∧ Rep L H t y ∧ RepK L H ts ys
def RepF (L : Addr → Prop) (H : Hp) : List (Str × T) → List (Str × V) → Prop
  | [], xs => xs = []
  | (k, t) :: ts, xs => ∃ y ys, xs = (k, y) :: ys ∧ Rep L H t y ∧ RepF L H ts ys
end

/-- nothing is tracked there, or a table of code -/
def Fr (H : Hp) (b : Addr) : Prop := H b = none ∨ ∃ ps, H b = some (.tbl ps)
theorem Fr.not {H : Hp} {b : Addr} {o : HO} (f : Fr H b) (h : H b = some o) (t : ∀ ps, o ≠ .tbl ps) : False := by
  rcases f with f | ⟨ps, f⟩
  · rw [h] at f; cases f
  · rw [h] at f; cases f; exact t ps rfl
theorem Fr.upd {H : Hp} {p b : Addr} {o : HO} (h : Fr H p ∨ ∀ ps, o ≠ .tbl ps) (f : Fr (L2.upd H p o) b) : Fr H b := by
  by_cases hb : b = p
  · rcases h with h | h
    · rw [hb]; exact h
    · rw [hb] at f; exact (f.not upd_same h).elim
  · unfold Fr at f ⊢; rw [upd_ne hb] at f; exact f
/-- from (L, H) on to (L', H'): what is tracked and no live cell stays, but tables of code; new live cells are new -/
structure Ext (L : Addr → Prop) (H : Hp) (L' : Addr → Prop) (H' : Hp) : Prop where
  keep : ∀ b o, H b = some o → ¬ L b → (∀ ps, o ≠ .tbl ps) → H' b = some o
  live : ∀ b, L' b → L b ∨ Fr H b
  dom : ∀ b, Fr H' b → Fr H b
theorem Ext.refl (L : Addr → Prop) (H : Hp) : Ext L H L H := ⟨fun _ _ h _ _ => h, fun _ h => .inl h, fun _ h => h⟩
theorem Ext.trans {L L1 L2 : Addr → Prop} {H H1 H2 : Hp} (a : Ext L H L1 H1) (b : Ext L1 H1 L2 H2) : Ext L H L2 H2 where
  keep := fun c o h n t => b.keep c o (a.keep c o h n t) (fun l => by
    rcases a.live c l with l | l
    · exact n l
    · exact l.not h t) t
  live := fun c h => by
    rcases b.live c h with l | l
    · exact a.live c l
    · exact .inr (a.dom c l)
  dom := fun c h => a.dom c (b.dom c h)
/-- a new object, no cell -/
theorem Ext.new {L : Addr → Prop} {H : Hp} {p : Addr} {o : HO} (h : H p = none) : Ext L H L (upd H p o) where
  keep := fun b u e _ _ => by rw [upd_ne (ne_of_none e h)]; exact e
  live := fun b l => .inl l
  dom := fun b e => e.upd (.inl (.inl h))
/-- a live cell is written -/
theorem Ext.write {L : Addr → Prop} {H : Hp} {p : Addr} {o : HO} (h : L p) (hp : ∀ ps, o ≠ .tbl ps) : Ext L H L (upd H p o) where
  keep := fun b u e n _ => by rw [upd_ne (fun z => n (by rw [z]; exact h))]; exact e
  live := fun b l => .inl l
  dom := fun b e => e.upd (.inr hp)
theorem Ext.at {L L' : Addr → Prop} {H H' : Hp} {a : Addr} {u : HO} (e : Ext L H L' H') (n : ¬ L a) (hu : ∀ ps, u ≠ .tbl ps) (h : H a = some u) : H' a = some u ∧ ¬ L' a := by
  refine ⟨e.keep a _ h n hu, fun l => ?_⟩
  rcases e.live a l with z | z
  · exact n z
  · exact z.not h hu
mutual
theorem Rep.ext {L L' : Addr → Prop} {H H' : Hp} (e : Ext L H L' H') : ∀ (t : T) (y : V), Rep L H t y → Rep L' H' t y
  | .v x, y, h => h
  | .lst ts, y, ⟨a, xs, e1, n, r, q⟩ => by
    obtain ⟨r2, n2⟩ := e.at n (fun ps z => by cases z) r
    exact ⟨a, xs, e1, n2, r2, RepL.ext e ts xs q⟩
  | .tup ts, y, ⟨a, xs, e1, n, r, q⟩ => by
    obtain ⟨r2, n2⟩ := e.at n (fun ps z => by cases z) r
    exact ⟨a, xs, e1, n2, r2, RepL.ext e ts xs q⟩
  | .dct kvs, y, ⟨a, xs, e1, n, r, q⟩ => by
    obtain ⟨r2, n2⟩ := e.at n (fun ps z => by cases z) r
    exact ⟨a, xs, e1, n2, r2, RepK.ext e kvs xs q⟩
  | .ins C fs, y, ⟨a, dx, xs, e1, n, r, q⟩ => by
    obtain ⟨r2, n2⟩ := e.at n (fun ps z => by cases z) r
    exact ⟨a, dx, xs, e1, n2, r2, RepF.ext e fs xs q⟩
theorem RepL.ext {L L' : Addr → Prop} {H H' : Hp} (e : Ext L H L' H') : ∀ (ts : List T) (xs : List V), RepL L H ts xs → RepL L' H' ts xs
  | [], xs, h => h
  | t :: ts, xs, ⟨y, ys, e1, h1, h2⟩ => ⟨y, ys, e1, Rep.ext e t y h1, RepL.ext e ts ys h2⟩
theorem RepK.ext {L L' : Addr → Prop} {H H' : Hp} (e : Ext L H L' H') : ∀ (ts : List (Key × T)) (xs : List (Key × V)), RepK L H ts xs → RepK L' H' ts xs
  | [], xs, h => h
  | (k, t) :: ts, xs, ⟨y, ys, e1, h1, h2⟩ => ⟨y, ys, e1, Rep.ext e t y h1, RepK.ext e ts ys h2⟩
theorem RepF.ext {L L' : Addr → Prop} {H H' : Hp} (e : Ext L H L' H') : ∀ (ts : List (Str × T)) (xs : List (Str × V)), RepF L H ts xs → RepF L' H' ts xs
  | [], xs, h => h
  | (k, t) :: ts, xs, ⟨y, ys, e1, h1, h2⟩ => ⟨y, ys, e1, Rep.ext e t y h1, RepF.ext e ts ys h2⟩
end

/-! ### cells -/
abbrev Live (as : List Addr) (S : Store) (a : Addr) : Prop := ∃ (i : Nat) (c : Cell), as[i]? = some a ∧ S[i]? = some c ∧ c.lives
def RepD (as : List Addr) (L : Addr → Prop) (H : Hp) : D → V → Prop
  | .t x, y => Rep L H x y
  | .m i, y => ∃ a, as[i]? = some a ∧ y = .ref a
abbrev RepDs (as : List Addr) (L : Addr → Prop) (H : Hp) : List D → List V → Prop := Paired (RepD as L H)
def CellOk (as : List Addr) (L : Addr → Prop) (H : Hp) (a : Addr) : Cell → Prop
  | .lst ds => ∃ xs, H a = some (.lst xs) ∧ RepDs as L H ds xs
  | .dct kvs => ∃ xs, H a = some (.dK xs) ∧ Paired (fun (p : Key × D) (q : Key × V) => p.1 = q.1 ∧ RepD as L H p.2 q.2) kvs xs
  | .ins C fs => ∃ dx xs, H a = some (.ins C dx xs) ∧ Paired (fun (p : Str × D) (q : Str × V) => p.1 = q.1 ∧ RepD as L H p.2 q.2) fs xs
  | .tup ds => ∃ xs, H a = some (.tup xs) ∧ RepDs as L H ds xs
  | .strmI => ∃ ns : List Int, H a = some (.lst (ns.map V.int)) ∧ ∀ n ∈ ns, n.natAbs < 2 ^ 1048576
  | .strm b => ∃ (c : Addr) (x y z : Int), as[0]? = some c ∧ H a = some (.lst [.ref c, .int x, .int y, .int z]) ∧ 0 ≤ x ∧ x.natAbs < 2 ^ 1048576 ∧ 0 ≤ y ∧ y + b ≤ 2 ^ 40 ∧ 0 ≤ z ∧ z < 2 ^ 31
  | .fz t => (∀ x, t ≠ .v x) ∧ Rep L H t (.ref a)
/-- code tables, by where and the name in them -/
abbrev TTs := List (Addr × Str)
/-- the store is held -/
structure StOk (CT : TTs) (as : List Addr) (S : Store) (H : Hp) : Prop where
  tab : LamX.Tabs CT H
  len : as.length = S.length
  nd : as.Nodup
  there : ∀ (i : Nat) a, as[i]? = some a → H a ≠ none
  cell : ∀ (i : Nat) a c, as[i]? = some a → S[i]? = some c → CellOk as (Live as S) H a c
def EnvOk (as : List Addr) (L : Addr → Prop) (H : Hp) (σ : L2.St) (ρ : Env) : Prop :=
  σ.length = ρ.length ∧ ∀ (i : Nat) d, ρ[i]? = some (some d) → ∃ y, σ[i]? = some (some y) ∧ RepD as L H d y

theorem RepD.ext {as as' : List Addr} {L L' : Addr → Prop} {H H' : Hp} (e : Ext L H L' H') (ha : ∀ (i : Nat) a, as[i]? = some a → as'[i]? = some a) : ∀ (d : D) (y : V), RepD as L H d y → RepD as' L' H' d y
  | .t x, y, h => Rep.ext e x y h
  | .m i, y, ⟨a, e1, e2⟩ => ⟨a, ha i a e1, e2⟩
theorem RepDs.ext {as as' : List Addr} {L L' : Addr → Prop} {H H' : Hp} (e : Ext L H L' H') (ha : ∀ (i : Nat) a, as[i]? = some a → as'[i]? = some a) {ds : List D} {ys : List V} (h : RepDs as L H ds ys) : RepDs as' L' H' ds ys :=
  Paired.mapP h fun d y q => RepD.ext e ha d y q
theorem EnvOk.ext {as as' : List Addr} {L L' : Addr → Prop} {H H' : Hp} {σ : L2.St} {ρ : Env} (e : Ext L H L' H') (ha : ∀ (i : Nat) a, as[i]? = some a → as'[i]? = some a) (h : EnvOk as L H σ ρ) : EnvOk as' L' H' σ ρ :=
  ⟨h.1, fun i d hd => let ⟨y, h1, h2⟩ := h.2 i d hd; ⟨y, h1, RepD.ext e ha d y h2⟩⟩
theorem EnvOk.set {as : List Addr} {L : Addr → Prop} {H : Hp} {σ : L2.St} {ρ : Env} {i : Nat} {d : D} {y : V} (h : EnvOk as L H σ ρ) (r : RepD as L H d y) : EnvOk as L H (σ.set i (some y)) (ρ.set i (some d)) := by
  refine ⟨by rw [List.length_set, List.length_set]; exact h.1, fun j e he => ?_⟩
  by_cases hj : i = j
  · subst hj
    by_cases hl : i < ρ.length
    · rw [List.getElem?_set_self hl] at he
      cases he
      exact ⟨y, by rw [List.getElem?_set_self (by rw [h.1]; exact hl)], r⟩
    · rw [List.getElem?_eq_none (by rw [List.length_set]; omega)] at he
      cases he
  · rw [List.getElem?_set_ne hj] at he
    obtain ⟨z, h1, h2⟩ := h.2 j e he
    exact ⟨z, by rw [List.getElem?_set_ne hj]; exact h1, h2⟩

/-- on to a further state: Ext of the live cells, the cells keep their numbers -/
structure On (as : List Addr) (S : Store) (H : Hp) (as' : List Addr) (S' : Store) (H' : Hp) : Prop where
  ext : Ext (Live as S) H (Live as' S') H'
  pre : ∀ (i : Nat) a, as[i]? = some a → as'[i]? = some a
theorem On.refl (as : List Addr) (S : Store) (H : Hp) : On as S H as S H := ⟨Ext.refl _ _, fun _ _ h => h⟩
theorem On.trans {as as1 as2 : List Addr} {S S1 S2 : Store} {H H1 H2 : Hp} (a : On as S H as1 S1 H1) (b : On as1 S1 H1 as2 S2 H2) : On as S H as2 S2 H2 :=
  ⟨a.ext.trans b.ext, fun i x h => b.pre i x (a.pre i x h)⟩
theorem On.rep {as as' : List Addr} {S S' : Store} {H H' : Hp} (o : On as S H as' S' H') {d : D} {y : V} (h : RepD as (Live as S) H d y) : RepD as' (Live as' S') H' d y := RepD.ext o.ext o.pre d y h
theorem On.reps {as as' : List Addr} {S S' : Store} {H H' : Hp} (o : On as S H as' S' H') {d : List D} {y : List V} (h : RepDs as (Live as S) H d y) : RepDs as' (Live as' S') H' d y := RepDs.ext o.ext o.pre h
theorem On.tree {as as' : List Addr} {S S' : Store} {H H' : Hp} (o : On as S H as' S' H') {x : T} {y : V} (h : Rep (Live as S) H x y) : Rep (Live as' S') H' x y := Rep.ext o.ext x y h
theorem On.env {as as' : List Addr} {S S' : Store} {H H' : Hp} {σ : L2.St} {ρ : Env} (o : On as S H as' S' H') (h : EnvOk as (Live as S) H σ ρ) : EnvOk as' (Live as' S') H' σ ρ := h.ext o.ext o.pre

/-! ### what a cell's content needs -/
theorem CellOk.ext {as as' : List Addr} {L L' : Addr → Prop} {H H' : Hp} {a : Addr} (e : Ext L H L' H') (ha : ∀ (i : Nat) b, as[i]? = some b → as'[i]? = some b) : ∀ (c : Cell), (∀ o, H a = some o → (∀ t, c ≠ .fz t) → H' a = some o) → CellOk as L H a c → CellOk as' L' H' a c
  | .lst ds, k, ⟨xs, h1, h2⟩ => ⟨xs, k _ h1 (fun _ z => by cases z), RepDs.ext e ha h2⟩
  | .dct kvs, k, ⟨xs, h1, h2⟩ => ⟨xs, k _ h1 (fun _ z => by cases z), Paired.mapP h2 fun p q z => ⟨z.1, RepD.ext e ha _ _ z.2⟩⟩
  | .ins C fs, k, ⟨dx, xs, h1, h2⟩ => ⟨dx, xs, k _ h1 (fun _ z => by cases z), Paired.mapP h2 fun p q z => ⟨z.1, RepD.ext e ha _ _ z.2⟩⟩
  | .tup ds, k, ⟨xs, h1, h2⟩ => ⟨xs, k _ h1 (fun _ z => by cases z), RepDs.ext e ha h2⟩
  | .strmI, k, ⟨ns, h1, h2⟩ => ⟨ns, k _ h1 (fun _ z => by cases z), h2⟩
  | .strm b, k, ⟨c, x, y, z, h0, h1, h2⟩ => ⟨c, x, y, z, ha _ _ h0, k _ h1 (fun _ z => by cases z), h2⟩
  | .fz t, k, h => ⟨h.1, Rep.ext e t _ h.2⟩

theorem CellOk.kind {as : List Addr} {L : Addr → Prop} {H : Hp} {a : Addr} : ∀ {c : Cell}, c.lives → CellOk as L H a c → ∃ o, H a = some o ∧ (∀ ps, o ≠ .tbl ps) ∧ ∀ φ, o ≠ .ext φ
  | .lst ds, _, ⟨xs, h1, h2⟩ => ⟨_, h1, (fun _ z => by cases z), (fun _ z => by cases z)⟩
  | .dct kvs, _, ⟨xs, h1, h2⟩ => ⟨_, h1, (fun _ z => by cases z), (fun _ z => by cases z)⟩
  | .ins C fs, _, ⟨dx, xs, h1, h2⟩ => ⟨_, h1, (fun _ z => by cases z), (fun _ z => by cases z)⟩
  | .strmI, _, ⟨ns, h1, h2⟩ => ⟨_, h1, (fun _ z => by cases z), (fun _ z => by cases z)⟩
  | .strm b, _, ⟨c, x, y, z, h0, h1, h2⟩ => ⟨_, h1, (fun _ z => by cases z), (fun _ z => by cases z)⟩
  | .fz t, l, _ => l.elim
  | .tup t, l, _ => l.elim
theorem tabs_upd {CT : TTs} {H : Hp} {a : Addr} {o : HO} (t : LamX.Tabs CT H) (ha : ∀ u, H a = some u → (∀ ps, u ≠ .tbl ps) ∧ ∀ φ, u ≠ .ext φ) : LamX.Tabs CT (upd H a o) := fun p hp => by
  obtain ⟨ps, h1, h2, h3⟩ := t p hp
  refine ⟨ps, ?_, h2, fun pos cv hc => ?_⟩
  · rw [upd_ne (fun z => (ha (.tbl ps) (by rw [← z]; exact h1)).1 ps rfl)]; exact h1
  · obtain ⟨c, e1, e2⟩ := h3 pos cv hc
    refine ⟨c, e1, ?_⟩
    rw [upd_ne (fun z => (ha _ (by rw [← z]; exact e2)).2 _ rfl)]; exact e2
section
variable {CT : TTs} {as : List Addr} {S : Store} {H : Hp}
theorem StOk.mem (h : StOk CT as S H) {i : Nat} {a : Addr} (e : as[i]? = some a) : ∃ c, S[i]? = some c ∧ CellOk as (Live as S) H a c := by
  have hl : i < as.length := (List.getElem?_eq_some_iff.mp e).1
  have : i < S.length := by rw [← h.len]; exact hl
  exact ⟨S[i], List.getElem?_eq_getElem this, h.cell i a _ e (List.getElem?_eq_getElem this)⟩
theorem StOk.addr (h : StOk CT as S H) {i : Nat} {c : Cell} (e : S[i]? = some c) : ∃ a, as[i]? = some a ∧ CellOk as (Live as S) H a c := by
  have hl : i < S.length := (List.getElem?_eq_some_iff.mp e).1
  have : i < as.length := by rw [h.len]; exact hl
  exact ⟨as[i], List.getElem?_eq_getElem this, h.cell i _ _ (List.getElem?_eq_getElem this) e⟩
theorem StOk.live_there (h : StOk CT as S H) {a : Addr} (l : Live as S a) : H a ≠ none := by
  obtain ⟨i, c, h1, _⟩ := l
  exact h.there i a h1
theorem nodup_ix {as : List Addr} (nd : as.Nodup) {i j : Nat} {a : Addr} (h1 : as[i]? = some a) (h2 : as[j]? = some a) : i = j := by
  obtain ⟨l1, e1⟩ := List.getElem?_eq_some_iff.mp h1
  obtain ⟨l2, e2⟩ := List.getElem?_eq_some_iff.mp h2
  exact (List.getElem_inj nd).mp (e1.trans e2.symm)
theorem StOk.live_iff (h : StOk CT as S H) {i : Nat} {a : Addr} {c : Cell} (e1 : as[i]? = some a) (e2 : S[i]? = some c) : Live as S a ↔ c.lives := by
  constructor
  · rintro ⟨j, d, h1, h2, h3⟩
    have : i = j := nodup_ix h.nd e1 h1
    subst this
    rw [e2] at h2
    cases h2
    exact h3
  · exact fun l => ⟨i, c, e1, e2, l⟩

/-- a new object that is no cell -/
theorem StOk.new (h : StOk CT as S H) {p : Addr} {o : HO} (hp : H p = none) : StOk CT as S (upd H p o) ∧ On as S H as S (upd H p o) := by
  have ne : ∀ (i : Nat) a, as[i]? = some a → a ≠ p := fun i a e z => h.there i a e (by rw [z]; exact hp)
  refine ⟨⟨tabs_upd h.tab (fun u hu => by rw [hp] at hu; cases hu), h.len, h.nd, fun i a e => by rw [upd_ne (ne i a e)]; exact h.there i a e, fun i a c e1 e2 => ?_⟩, ⟨Ext.new hp, fun _ _ e => e⟩⟩
  exact CellOk.ext (Ext.new hp) (fun _ _ e => e) c (fun o' ho _ => by rw [upd_ne (ne i a e1)]; exact ho) (h.cell i a c e1 e2)
theorem get_app {α : Type} {l : List α} {x : α} {i : Nat} {a : α} (h : (l ++ [x])[i]? = some a) : l[i]? = some a ∨ (i = l.length ∧ a = x) := by
  by_cases hi : i < l.length
  · left; rw [List.getElem?_append_left hi] at h; exact h
  · right
    rw [List.getElem?_append_right (by omega)] at h
    cases hk : i - l.length with
    | zero => rw [hk] at h; exact ⟨by omega, by simpa using h.symm⟩
    | succ n => rw [hk] at h; simp at h
theorem get_app_l {α : Type} {l : List α} {x : α} {i : Nat} {a : α} (h : l[i]? = some a) : (l ++ [x])[i]? = some a := by
  have hi : i < l.length := (List.getElem?_eq_some_iff.mp h).1
  rw [List.getElem?_append_left hi]; exact h
theorem live_app {p : Addr} {c : Cell} (h : StOk CT as S H) {a : Addr} (l : Live (as ++ [p]) (S ++ [c]) a) : Live as S a ∨ a = p := by
  obtain ⟨i, d, h1, h2, h3⟩ := l
  rcases get_app h1 with h1 | ⟨e, h1⟩
  · left
    rcases get_app h2 with h2 | ⟨e2, h2⟩
    · exact ⟨i, d, h1, h2, h3⟩
    · have := (List.getElem?_eq_some_iff.mp h1).1
      have := h.len
      omega
  · exact .inr h1
/-- a new cell -/
theorem StOk.cellNew (h : StOk CT as S H) {p : Addr} {o : HO} {c : Cell} (hp : H p = none)
    (hc : On as S H (as ++ [p]) (S ++ [c]) (upd H p o) → CellOk (as ++ [p]) (Live (as ++ [p]) (S ++ [c])) (upd H p o) p c) :
    StOk CT (as ++ [p]) (S ++ [c]) (upd H p o) ∧ On as S H (as ++ [p]) (S ++ [c]) (upd H p o) := by
  have ne : ∀ (i : Nat) a, as[i]? = some a → a ≠ p := fun i a e z => h.there i a e (by rw [z]; exact hp)
  have on : On as S H (as ++ [p]) (S ++ [c]) (upd H p o) := by
    refine ⟨⟨fun b u e n t => ?_, fun b l => ?_, fun b e => ?_⟩, fun i a e => get_app_l e⟩
    · rw [upd_ne (ne_of_none e hp)]; exact e
    · rcases live_app h l with l | l
      · exact .inl l
      · exact .inr (.inl (by rw [l]; exact hp))
    · exact e.upd (.inl (.inl hp))
  refine ⟨⟨tabs_upd h.tab (fun u hu => by rw [hp] at hu; cases hu), by simp [h.len], ?_, fun i a e => ?_, fun i a d e1 e2 => ?_⟩, on⟩
  · rw [List.nodup_append]
    refine ⟨h.nd, by simp, fun a ha b hb => ?_⟩
    have hb : b = p := by simpa using hb
    obtain ⟨i, hi⟩ := List.getElem?_of_mem ha
    rw [hb]
    exact ne i a hi
  · rcases get_app e with e | ⟨_, e⟩
    · rw [upd_ne (ne i a e)]; exact h.there i a e
    · rw [e, upd_same]; exact fun z => by cases z
  · rcases get_app e1 with e1 | ⟨ei, e1⟩
    · rcases get_app e2 with e2 | ⟨ei, e2⟩
      · exact CellOk.ext on.ext on.pre d (fun o' ho _ => by rw [upd_ne (ne i a e1)]; exact ho) (h.cell i a d e1 e2)
      · have := (List.getElem?_eq_some_iff.mp e1).1
        have := h.len
        omega
    · rcases get_app e2 with e2 | ⟨ei2, e2⟩
      · have := (List.getElem?_eq_some_iff.mp e2).1
        have := h.len
        omega
      · rw [e1, e2]; exact hc on
theorem live_set {i : Nat} {c c' : Cell} (h : StOk CT as S H) (e : S[i]? = some c) (hl : c'.lives → c.lives) {a : Addr} (l : Live as (S.set i c') a) : Live as S a := by
  obtain ⟨j, d, h1, h2, h3⟩ := l
  by_cases hj : i = j
  · subst hj
    rw [List.getElem?_set_self (List.getElem?_eq_some_iff.mp e).1] at h2
    cases h2
    exact ⟨i, c, h1, e, hl h3⟩
  · rw [List.getElem?_set_ne hj] at h2
    exact ⟨j, d, h1, h2, h3⟩
/-- a live cell is written -/
theorem StOk.cellSet (h : StOk CT as S H) {i : Nat} {a : Addr} {c c' : Cell} {o : HO} (ea : as[i]? = some a) (ec : S[i]? = some c) (lc : c.lives)
    (hc : On as S H as (S.set i c') (upd H a o) → CellOk as (Live as (S.set i c')) (upd H a o) a c') (ho : ∀ ps, o ≠ .tbl ps := by intro ps h; cases h) :
    StOk CT as (S.set i c') (upd H a o) ∧ On as S H as (S.set i c') (upd H a o) := by
  have la : Live as S a := ⟨i, c, ea, ec, lc⟩
  have on : On as S H as (S.set i c') (upd H a o) := by
    refine ⟨⟨fun b u e n t => ?_, fun b l => .inl (live_set h ec (fun _ => lc) l), fun b e => ?_⟩, fun _ _ e => e⟩
    · rw [upd_ne (fun z => n (by rw [z]; exact la))]; exact e
    · exact e.upd (.inr ho)
  have tb : LamX.Tabs CT (upd H a o) := tabs_upd h.tab fun u hu => by
    obtain ⟨u', h1, h2⟩ := CellOk.kind lc (h.cell i a c ea ec)
    rw [h1] at hu; cases hu; exact h2
  refine ⟨⟨tb, by rw [List.length_set]; exact h.len, h.nd, fun j b e => ?_, fun j b d e1 e2 => ?_⟩, on⟩
  · by_cases hb : b = a
    · rw [hb, upd_same]; exact fun z => by cases z
    · rw [upd_ne hb]; exact h.there j b e
  · by_cases hj : i = j
    · subst hj
      rw [List.getElem?_set_self (List.getElem?_eq_some_iff.mp ec).1] at e2
      cases e2
      rw [ea] at e1
      cases e1
      exact hc on
    · rw [List.getElem?_set_ne hj] at e2
      have hb : b ≠ a := fun z => hj (nodup_ix h.nd ea (by rw [z] at e1; exact e1))
      exact CellOk.ext on.ext on.pre d (fun o' ho _ => by rw [upd_ne hb]; exact ho) (h.cell j b d e1 e2)
/-- a cell is frozen, or its word changed while the heap stands -/
theorem StOk.cellFz (h : StOk CT as S H) {i : Nat} {a : Addr} {c c' : Cell} (ea : as[i]? = some a) (ec : S[i]? = some c) (lc : c'.lives → c.lives)
    (hc : On as S H as (S.set i c') H → CellOk as (Live as (S.set i c')) H a c') :
    StOk CT as (S.set i c') H ∧ On as S H as (S.set i c') H := by
  have on : On as S H as (S.set i c') H := ⟨⟨fun b u e n t => e, fun b l => .inl (live_set h ec lc l), fun b e => e⟩, fun _ _ e => e⟩
  refine ⟨⟨h.tab, by rw [List.length_set]; exact h.len, h.nd, h.there, fun j b d e1 e2 => ?_⟩, on⟩
  by_cases hj : i = j
  · subst hj
    rw [List.getElem?_set_self (List.getElem?_eq_some_iff.mp ec).1] at e2
    cases e2
    rw [ea] at e1
    cases e1
    exact hc on
  · rw [List.getElem?_set_ne hj] at e2
    exact CellOk.ext on.ext on.pre d (fun o' ho _ => ho) (h.cell j b d e1 e2)
end
end DL
set_option Elab.async false
set_option linter.all false
set_option maxRecDepth 100000
/-! DL1: readings over data (Env, Store) and the rules of expressions and statements -/
namespace DL
open PySem PySem.Spec PyProof.Rows L2

abbrev Ex := Addr × List (Str × D)
abbrev RepFs (as : List Addr) (L : Addr → Prop) (H : Hp) : List (Str × D) → List (Str × V) → Prop := Paired fun (p : Str × D) (q : Str × V) => p.1 = q.1 ∧ RepD as L H p.2 q.2
abbrev XQ := Ex → Store → Prop
structure DEnds where
  nx : Env → Store → Prop
  rt : D → Store → Prop
  bk : Env → Store → Prop
  ct : Env → Store → Prop
  ex : XQ
abbrev Rdg (α : Type) := XQ → Env → Store → (α → Store → Prop) → Prop
abbrev TED := Rdg D
abbrev TTD := Rdg Bool
abbrev TAD := Rdg (List D)
abbrev TSD := DEnds → Env → Store → Prop
abbrev TGD := D → XQ → Env → Store → (Env → Store → Prop) → Prop

def ExOk (CT : TTs) (E : XK) (as : List Addr) (S : Store) (H : Hp) (X : XQ) : Prop :=
  ∀ as' S' H' C dx fs ts, On as S H as' S' H' → StOk CT as' S' H' → H' dx = some (.xd fs) → RepFs as' (Live as' S') H' ts fs → X (C, ts) S' → E (.ref C) (some dx) H'
theorem ExOk.on {CT : TTs} {E : XK} {as as1 : List Addr} {S S1 : Store} {H H1 : Hp} {X : XQ} (h : ExOk CT E as S H X) (o : On as S H as1 S1 H1) : ExOk CT E as1 S1 H1 X :=
  fun as' S' H' C dx fs ts o2 => h as' S' H' C dx fs ts (o.trans o2)
/-- the state as data -/
structure Zt (CT : TTs) (E : XK) (σ : L2.St) (H : Hp) (as : List Addr) (S : Store) (ρ : Env) (X : XQ) : Prop where
  st : StOk CT as S H
  en : EnvOk as (Live as S) H σ ρ
  ex : ExOk CT E as S H X
theorem Zt.on {CT : TTs} {E : XK} {σ : L2.St} {H H1 : Hp} {as as1 : List Addr} {S S1 : Store} {ρ : Env} {X : XQ} (z : Zt CT E σ H as S ρ X) (o : On as S H as1 S1 H1) (st : StOk CT as1 S1 H1) : Zt CT E σ H1 as1 S1 ρ X :=
  ⟨st, o.env z.en, z.ex.on o⟩
/-- what follows, over data -/
def KE (CT : TTs) (as : List Addr) (S : Store) (H : Hp) (Qd : D → Store → Prop) (Q : VK) : Prop :=
  ∀ as' S' H' d y, On as S H as' S' H' → StOk CT as' S' H' → RepD as' (Live as' S') H' d y → Qd d S' → Q y H'
def KT (CT : TTs) (as : List Addr) (S : Store) (H : Hp) (Qd : Bool → Store → Prop) (Q : Bool → Hp → Prop) : Prop :=
  ∀ as' S' H' b, On as S H as' S' H' → StOk CT as' S' H' → Qd b S' → Q b H'
def KA (CT : TTs) (as : List Addr) (S : Store) (H : Hp) (Qd : List D → Store → Prop) (Q : List V → Hp → Prop) : Prop :=
  ∀ as' S' H' ds ys, On as S H as' S' H' → StOk CT as' S' H' → RepDs as' (Live as' S') H' ds ys → Qd ds S' → Q ys H'
theorem KE.on {CT : TTs} {as as1 : List Addr} {S S1 : Store} {H H1 : Hp} {Qd : D → Store → Prop} {Q : VK} (k : KE CT as S H Qd Q) (o : On as S H as1 S1 H1) : KE CT as1 S1 H1 Qd Q :=
  fun as' S' H' d y o2 => k as' S' H' d y (o.trans o2)
theorem KT.on {CT : TTs} {as as1 : List Addr} {S S1 : Store} {H H1 : Hp} {Qd : Bool → Store → Prop} {Q : Bool → Hp → Prop} (k : KT CT as S H Qd Q) (o : On as S H as1 S1 H1) : KT CT as1 S1 H1 Qd Q :=
  fun as' S' H' b o2 => k as' S' H' b (o.trans o2)
theorem KA.on {CT : TTs} {as as1 : List Addr} {S S1 : Store} {H H1 : Hp} {Qd : List D → Store → Prop} {Q : List V → Hp → Prop} (k : KA CT as S H Qd Q) (o : On as S H as1 S1 H1) : KA CT as1 S1 H1 Qd Q :=
  fun as' S' H' d y o2 => k as' S' H' d y (o.trans o2)
theorem KE.here {CT : TTs} {as : List Addr} {S : Store} {H : Hp} {Qd : D → Store → Prop} {Q : VK} (k : KE CT as S H Qd Q) (st : StOk CT as S H) {d : D} {y : V} (r : RepD as (Live as S) H d y) (q : Qd d S) : Q y H := k as S H d y (On.refl _ _ _) st r q
/-- a scalar -/
theorem KE.sc {CT : TTs} {as : List Addr} {S : Store} {H : Hp} {Qd : D → Store → Prop} {Q : VK} (k : KE CT as S H Qd Q) (st : StOk CT as S H) {y : V} (q : Qd (.t (.v y)) S) : Q y H := k as S H (.t (.v y)) y (On.refl _ _ _) st (by show y = y; rfl) q

def lift (CT : TTs) (E : XK) (t : TED) : TE := fun σ H Q => ∃ as S ρ X Qd, Zt CT E σ H as S ρ X ∧ t X ρ S Qd ∧ KE CT as S H Qd Q
def liftT (CT : TTs) (E : XK) (t : TTD) : L2.TT := fun σ H Q => ∃ as S ρ X Qd, Zt CT E σ H as S ρ X ∧ t X ρ S Qd ∧ KT CT as S H Qd Q
def liftA (CT : TTs) (E : XK) (t : TAD) : TA := fun σ H Q => ∃ as S ρ X Qd, Zt CT E σ H as S ρ X ∧ t X ρ S Qd ∧ KA CT as S H Qd Q
structure KS (CT : TTs) (as : List Addr) (S : Store) (H : Hp) (De : DEnds) (D : Ends) : Prop where
  nx : ∀ as' S' H' σ' ρ', On as S H as' S' H' → StOk CT as' S' H' → EnvOk as' (Live as' S') H' σ' ρ' → De.nx ρ' S' → D.nx σ' H'
  rt : ∀ as' S' H' d y, On as S H as' S' H' → StOk CT as' S' H' → RepD as' (Live as' S') H' d y → De.rt d S' → D.rt y H'
  bk : ∀ as' S' H' σ' ρ', On as S H as' S' H' → StOk CT as' S' H' → EnvOk as' (Live as' S') H' σ' ρ' → De.bk ρ' S' → D.bk σ' H'
  ct : ∀ as' S' H' σ' ρ', On as S H as' S' H' → StOk CT as' S' H' → EnvOk as' (Live as' S') H' σ' ρ' → De.ct ρ' S' → D.ct σ' H'
theorem KS.on {CT : TTs} {as as1 : List Addr} {S S1 : Store} {H H1 : Hp} {De : DEnds} {D : Ends} (k : KS CT as S H De D) (o : On as S H as1 S1 H1) : KS CT as1 S1 H1 De D :=
  ⟨fun as' S' H' σ' ρ' o2 => k.nx as' S' H' σ' ρ' (o.trans o2), fun as' S' H' d y o2 => k.rt as' S' H' d y (o.trans o2), fun as' S' H' σ' ρ' o2 => k.bk as' S' H' σ' ρ' (o.trans o2), fun as' S' H' σ' ρ' o2 => k.ct as' S' H' σ' ρ' (o.trans o2)⟩
def liftS (CT : TTs) (E : XK) (t : TSD) : TS := fun D σ H => ∃ as S ρ De, Zt CT E σ H as S ρ De.ex ∧ t De ρ S ∧ KS CT as S H De D
/-- a target: the environment is new -/
def liftG (CT : TTs) (E : XK) (t : TGD) : TG := fun v σ H Q => ∃ as S ρ X d Qd, Zt CT E σ H as S ρ X ∧ RepD as (Live as S) H d v ∧ t d X ρ S Qd ∧
  ∀ as' S' H' σ' ρ', On as S H as' S' H' → StOk CT as' S' H' → EnvOk as' (Live as' S') H' σ' ρ' → Qd ρ' S' → Q σ' H'

structure DE (CT : TTs) (E : XK) (X : Cx) (e : Expr) (t : TED) : Prop where
  pe : PE X e (lift CT E t)
structure DT (CT : TTs) (E : XK) (X : Cx) (e : Expr) (t : TTD) : Prop where
  pt : PT X e (liftT CT E t)
structure DW (CT : TTs) (E : XK) (X : Cx) (e : Expr) (t : TTD) : Prop where
  pw : PW X e (liftT CT E t)
structure DA (CT : TTs) (E : XK) (X : Cx) (es : List Expr) (t : TAD) : Prop where
  pa : PA X es (liftA CT E t)
structure DS (CT : TTs) (E : XK) (X : Cx) (st : Stmt) (t : TSD) : Prop where
  ps : PS X st (liftS CT E t)
structure DSs (CT : TTs) (E : XK) (X : Cx) (st : List Stmt) (t : TSD) : Prop where
  ps : PSs X st (liftS CT E t)
structure DG (CT : TTs) (E : XK) (X : Cx) (e : Expr) (t : TGD) : Prop where
  pg : PG X e (liftG CT E t)

section
variable {CT : TTs} {E : XK} {X : Cx}
theorem _root_.L2.PE.imp {e : Expr} {t t' : TE} (h : PE X e t) (i : ∀ σ H Q, t' σ H Q → t σ H Q) : PE X e t' := ⟨fun pins s σ H Q I q => h.run pins s σ H Q I (i σ H Q q)⟩
theorem _root_.L2.PT.imp {e : Expr} {t t' : L2.TT} (h : PT X e t) (i : ∀ σ H Q, t' σ H Q → t σ H Q) : PT X e t' := ⟨fun pins s σ H Q I q => h.run pins s σ H Q I (i σ H Q q)⟩
theorem _root_.L2.PW.imp {e : Expr} {t t' : L2.TT} (h : PW X e t) (i : ∀ σ H Q, t' σ H Q → t σ H Q) : PW X e t' := ⟨fun wh pins s σ H Q I q => h.run wh pins s σ H Q I (i σ H Q q)⟩
theorem _root_.L2.PA.imp {e : List Expr} {t t' : TA} (h : PA X e t) (i : ∀ σ H Q, t' σ H Q → t σ H Q) : PA X e t' := ⟨fun p pins s σ H Q I q => h.run p pins s σ H Q I (i σ H Q q)⟩
theorem _root_.L2.PS.imp {e : Stmt} {t t' : TS} (h : PS X e t) (i : ∀ D σ H, t' D σ H → t D σ H) : PS X e t' := ⟨fun pins s σ H D I q => h.run pins s σ H D I (i D σ H q)⟩
theorem _root_.L2.PSs.imp {e : List Stmt} {t t' : TS} (h : PSs X e t) (i : ∀ D σ H, t' D σ H → t D σ H) : PSs X e t' := ⟨fun pins s σ H D I q => h.run pins s σ H D I (i D σ H q)⟩
theorem _root_.L2.PG.imp {e : Expr} {t t' : TG} (h : PG X e t) (i : ∀ v σ H Q, t' v σ H Q → t v σ H Q) : PG X e t' := ⟨fun pins s σ H v u Q I r q => h.run pins s σ H v u Q I r (i v σ H Q q)⟩
theorem DE.of {e : Expr} {te : TE} {t : TED} (h : PE X e te) (i : ∀ σ H as S ρ Xq Qd Q, Zt CT E σ H as S ρ Xq → t Xq ρ S Qd → KE CT as S H Qd Q → te σ H Q) : DE CT E X e t :=
  ⟨h.imp fun σ H Q ⟨as, S, ρ, Xq, Qd, z, q, k⟩ => i σ H as S ρ Xq Qd Q z q k⟩
theorem DT.of {e : Expr} {te : L2.TT} {t : TTD} (h : PT X e te) (i : ∀ σ H as S ρ Xq Qd Q, Zt CT E σ H as S ρ Xq → t Xq ρ S Qd → KT CT as S H Qd Q → te σ H Q) : DT CT E X e t :=
  ⟨h.imp fun σ H Q ⟨as, S, ρ, Xq, Qd, z, q, k⟩ => i σ H as S ρ Xq Qd Q z q k⟩
theorem DW.of {e : Expr} {te : L2.TT} {t : TTD} (h : PW X e te) (i : ∀ σ H as S ρ Xq Qd Q, Zt CT E σ H as S ρ Xq → t Xq ρ S Qd → KT CT as S H Qd Q → te σ H Q) : DW CT E X e t :=
  ⟨h.imp fun σ H Q ⟨as, S, ρ, Xq, Qd, z, q, k⟩ => i σ H as S ρ Xq Qd Q z q k⟩
theorem DA.of {e : List Expr} {te : TA} {t : TAD} (h : PA X e te) (i : ∀ σ H as S ρ Xq Qd Q, Zt CT E σ H as S ρ Xq → t Xq ρ S Qd → KA CT as S H Qd Q → te σ H Q) : DA CT E X e t :=
  ⟨h.imp fun σ H Q ⟨as, S, ρ, Xq, Qd, z, q, k⟩ => i σ H as S ρ Xq Qd Q z q k⟩
theorem DS.of {e : Stmt} {ts : TS} {t : TSD} (h : PS X e ts) (i : ∀ σ H as S ρ De D, Zt CT E σ H as S ρ De.ex → t De ρ S → KS CT as S H De D → ts D σ H) : DS CT E X e t :=
  ⟨h.imp fun D σ H ⟨as, S, ρ, De, z, q, k⟩ => i σ H as S ρ De D z q k⟩
theorem DSs.of {e : List Stmt} {ts : TS} {t : TSD} (h : PSs X e ts) (i : ∀ σ H as S ρ De D, Zt CT E σ H as S ρ De.ex → t De ρ S → KS CT as S H De D → ts D σ H) : DSs CT E X e t :=
  ⟨h.imp fun D σ H ⟨as, S, ρ, De, z, q, k⟩ => i σ H as S ρ De D z q k⟩

/-! ### names, constants -/
def dVar (i : Nat) : TED := fun _ ρ S Q => ∃ d, ρ[i]? = some (some d) ∧ Q d S
def dC (x : V) : TED := fun _ _ S Q => Q (.t (.v x)) S
theorem de_var {e : Expr} {i : Nat} (h : PE X e (tVar i)) : DE CT E X e (dVar i) := .of h fun σ H as S ρ Xq Qd Q z ⟨d, e1, q⟩ k => by
  obtain ⟨y, h1, h2⟩ := z.en.2 i d e1
  exact ⟨y, h1, k.here z.st h2 q⟩
theorem de_c {e : Expr} {x : V} (h : PE X e (tC x)) : DE CT E X e (dC x) := .of h fun σ H as S ρ Xq Qd Q z q k => k.sc z.st q

/-! ### operators on values -/
abbrev R2D := D → D → Store → (D → Store → Prop) → Prop
abbrev R1D := D → Store → (D → Store → Prop) → Prop
abbrev RAD := List D → Store → (D → Store → Prop) → Prop
def Br2 (CT : TTs) (rh : R2) (r : R2D) : Prop := ∀ as S H x y dx dy Qd Q, StOk CT as S H → RepD as (Live as S) H dx x → RepD as (Live as S) H dy y → r dx dy S Qd → KE CT as S H Qd Q → rh x y H Q
def Br1 (CT : TTs) (rh : V → Hp → VK → Prop) (r : R1D) : Prop := ∀ as S H x dx Qd Q, StOk CT as S H → RepD as (Live as S) H dx x → r dx S Qd → KE CT as S H Qd Q → rh x H Q
def BrA (CT : TTs) (rh : List V → Hp → VK → Prop) (r : RAD) : Prop := ∀ as S H xs ds Qd Q, StOk CT as S H → RepDs as (Live as S) H ds xs → r ds S Qd → KE CT as S H Qd Q → rh xs H Q
def dOp (r : R2D) (a b : TED) : TED := fun X ρ S Q => a X ρ S fun x S1 => b X ρ S1 fun y S2 => r x y S2 Q
def dUn (r : R1D) (a : TED) : TED := fun X ρ S Q => a X ρ S fun x S1 => r x S1 Q
theorem tOp_of {rh : R2} {r : R2D} {ta tb : TED} (br : Br2 CT rh r) {σ H as S ρ Xq Qd Q} (z : Zt CT E σ H as S ρ Xq) (q : dOp r ta tb Xq ρ S Qd) (k : KE CT as S H Qd Q) : tOp rh (lift CT E ta) (lift CT E tb) σ H Q :=
  ⟨as, S, ρ, Xq, _, z, q, fun as1 S1 H1 dx x o1 s1 rx q1 => ⟨as1, S1, ρ, Xq, _, z.on o1 s1, q1, fun as2 S2 H2 dy y o2 s2 ry q2 => br as2 S2 H2 x y dx dy Qd Q s2 (o2.rep rx) ry q2 (k.on (o1.trans o2))⟩⟩
theorem de_op {a b : Expr} {ta tb : TED} {op : Operator} {pos : Pos} {rh : R2} {r : R2D} (ho : OpR X (binaryOp op) rh) (br : Br2 CT rh r) (ha : DE CT E X a ta) (hb : DE CT E X b tb) : DE CT E X (.BinOp a op b pos) (dOp r ta tb) :=
  .of (pe_op ho ha.pe hb.pe) fun σ H as S ρ Xq Qd Q z q k => tOp_of br z q k
theorem de_cmp {a b : Expr} {ta tb : TED} {op : CmpOp} {pos : Pos} {rh : R2} {r : R2D} (ho : OpR X (compareOp op) rh) (br : Br2 CT rh r) (ha : DE CT E X a ta) (hb : DE CT E X b tb) (hm : behindInMarks op b = false) : DE CT E X (.Compare a [op] [b] pos) (dOp r ta tb) :=
  .of (pe_cmpR ho ha.pe hb.pe hm) fun σ H as S ρ Xq Qd Q z q k => tOp_of br z q k
theorem de_un {a : Expr} {ta : TED} {op : UnaryOp} {pos : Pos} {rh : V → Hp → VK → Prop} {r : R1D} (ho : UnR X (unaryOp op) rh) (br : Br1 CT rh r) (ha : DE CT E X a ta) : DE CT E X (.UnaryOp op a pos) (dUn r ta) :=
  .of (pe_un ho ha.pe) fun σ H as S ρ Xq Qd Q z q k => ⟨as, S, ρ, Xq, _, z, q, fun as1 S1 H1 dx x o1 s1 rx q1 => br as1 S1 H1 x dx Qd Q s1 rx q1 (k.on o1)⟩

/-! ### tests -/
/-- an expression that gives a bool, as a test -/
def dB (t : TED) : TTD := fun X ρ S Q => t X ρ S fun d S1 => ∃ c, d = .t (.v (.bl c)) ∧ Q c S1
theorem dt_val {e : Expr} {t : TED} (h : DE CT E X e t) (he : ∀ whole, isTrue e X.env whole = (do let v ← whole; standAt e.pos; holding [v] (truthy v)) := by intro _; rfl) : DT CT E X e (dB t) :=
  .of (pt_val h.pe he) fun σ H as S ρ Xq Qd Q z q k => ⟨as, S, ρ, Xq, _, z, q, fun as1 S1 H1 d y o1 s1 r ⟨c, e1, q1⟩ => by
    subst e1
    exact ⟨c, r, k as1 S1 H1 c o1 s1 q1⟩⟩
theorem dt_cmp {a b : Expr} {ta tb : TED} {op : CmpOp} {pos : Pos} {rh : R2} {r : R2D} (ho : OpR X (compareOp op) rh) (br : Br2 CT rh r) (ha : DE CT E X a ta) (hb : DE CT E X b tb) (hm : behindInMarks op b = false) : DT CT E X (.Compare a [op] [b] pos) (dB (dOp r ta tb)) :=
  .of (pt_cmpR ho ha.pe hb.pe hm) fun σ H as S ρ Xq Qd Q z q k => tOp_of br z q fun as1 S1 H1 d y o1 s1 r ⟨c, e1, q1⟩ => by
    subst e1
    exact ⟨c, r, k as1 S1 H1 c o1 s1 q1⟩
def dAndT (t u : TTD) : TTD := fun X ρ S Q => t X ρ S fun c S1 => if c = true then u X ρ S1 Q else Q false S1
def dOrT (t u : TTD) : TTD := fun X ρ S Q => t X ρ S fun c S1 => if c = true then Q true S1 else u X ρ S1 Q
def dNotT (t : TTD) : TTD := fun X ρ S Q => t X ρ S fun c S1 => Q (!c) S1
theorem dw_and1 {a : Expr} {pos : Pos} {t : TTD} (h : DT CT E X a t) : DW CT E X (.BoolOp .And [a] pos) t := ⟨pw_and1 h.pt⟩
theorem dw_or1 {a : Expr} {pos : Pos} {t : TTD} (h : DT CT E X a t) : DW CT E X (.BoolOp .Or [a] pos) t := ⟨pw_or1 h.pt⟩
theorem dw_and {a b : Expr} {rest : List Expr} {pos : Pos} {t u : TTD} (ha : DT CT E X a t) (hb : DW CT E X (.BoolOp .And (b :: rest) pos) u) : DW CT E X (.BoolOp .And (a :: b :: rest) pos) (dAndT t u) :=
  .of (pw_and ha.pt hb.pw) fun σ H as S ρ Xq Qd Q z q k => ⟨as, S, ρ, Xq, _, z, q, fun as1 S1 H1 c o1 s1 q1 => by
    cases c with
    | true => exact ⟨as1, S1, ρ, Xq, Qd, z.on o1 s1, q1, k.on o1⟩
    | false => exact k as1 S1 H1 false o1 s1 q1⟩
theorem dw_or {a b : Expr} {rest : List Expr} {pos : Pos} {t u : TTD} (ha : DT CT E X a t) (hb : DW CT E X (.BoolOp .Or (b :: rest) pos) u) : DW CT E X (.BoolOp .Or (a :: b :: rest) pos) (dOrT t u) :=
  .of (pw_or ha.pt hb.pw) fun σ H as S ρ Xq Qd Q z q k => ⟨as, S, ρ, Xq, _, z, q, fun as1 S1 H1 c o1 s1 q1 => by
    cases c with
    | false => exact ⟨as1, S1, ρ, Xq, Qd, z.on o1 s1, q1, k.on o1⟩
    | true => exact k as1 S1 H1 true o1 s1 q1⟩
theorem DW.dt {e : Expr} {t : TTD} (h : DW CT E X e t) : DT CT E X e t := ⟨h.pw.pt⟩
theorem dt_not {a : Expr} {pos : Pos} {t : TTD} (h : DT CT E X a t) : DT CT E X (.UnaryOp .Not a pos) (dNotT t) :=
  .of (pt_not h.pt) fun σ H as S ρ Xq Qd Q z q k => ⟨as, S, ρ, Xq, _, z, q, fun as1 S1 H1 c o1 s1 q1 => k as1 S1 H1 (!c) o1 s1 q1⟩
/-! .. as values, bools -/
def dAndV (a b : TED) : TED := fun X ρ S Q => a X ρ S fun x S1 => ∃ c, x = .t (.v (.bl c)) ∧ if c = true then b X ρ S1 Q else Q (.t (.v (.bl false))) S1
def dOrV (a b : TED) : TED := fun X ρ S Q => a X ρ S fun x S1 => ∃ c, x = .t (.v (.bl c)) ∧ if c = true then Q (.t (.v (.bl true))) S1 else b X ρ S1 Q
def dNotV (a : TED) : TED := fun X ρ S Q => a X ρ S fun x S1 => ∃ c, x = .t (.v (.bl c)) ∧ Q (.t (.v (.bl (!c)))) S1
theorem de_one {op} {a : Expr} {pos : Pos} {t : TED} (h : DE CT E X a t) : DE CT E X (.BoolOp op [a] pos) t := ⟨pe_one h.pe⟩
theorem de_and {a b : Expr} {rest : List Expr} {pos : Pos} {ta tb : TED} (ha : DE CT E X a ta) (hb : DE CT E X (.BoolOp .And (b :: rest) pos) tb) : DE CT E X (.BoolOp .And (a :: b :: rest) pos) (dAndV ta tb) :=
  .of (pe_and ha.pe hb.pe) fun σ H as S ρ Xq Qd Q z q k => ⟨as, S, ρ, Xq, _, z, q, fun as1 S1 H1 d y o1 s1 r ⟨c, e1, q1⟩ => by
    subst e1
    refine ⟨c, r, ?_⟩
    cases c with
    | true => exact ⟨as1, S1, ρ, Xq, Qd, z.on o1 s1, q1, k.on o1⟩
    | false => exact (k.on o1).sc s1 q1⟩
theorem de_or {a b : Expr} {rest : List Expr} {pos : Pos} {ta tb : TED} (ha : DE CT E X a ta) (hb : DE CT E X (.BoolOp .Or (b :: rest) pos) tb) : DE CT E X (.BoolOp .Or (a :: b :: rest) pos) (dOrV ta tb) :=
  .of (pe_or ha.pe hb.pe) fun σ H as S ρ Xq Qd Q z q k => ⟨as, S, ρ, Xq, _, z, q, fun as1 S1 H1 d y o1 s1 r ⟨c, e1, q1⟩ => by
    subst e1
    refine ⟨c, r, ?_⟩
    cases c with
    | false => exact ⟨as1, S1, ρ, Xq, Qd, z.on o1 s1, q1, k.on o1⟩
    | true => exact (k.on o1).sc s1 q1⟩
theorem de_not {a : Expr} {pos : Pos} {ta : TED} (ha : DE CT E X a ta) : DE CT E X (.UnaryOp .Not a pos) (dNotV ta) :=
  .of (pe_not ha.pe) fun σ H as S ρ Xq Qd Q z q k => ⟨as, S, ρ, Xq, _, z, q, fun as1 S1 H1 d y o1 s1 r ⟨c, e1, q1⟩ => by
    subst e1
    exact ⟨c, r, (k.on o1).sc s1 q1⟩⟩
def dIf (t : TTD) (a b : TED) : TED := fun X ρ S Q => t X ρ S fun c S1 => if c = true then a X ρ S1 Q else b X ρ S1 Q
theorem de_if {c a b : Expr} {pos : Pos} {t : TTD} {ta tb : TED} (hc : DT CT E X c t) (ha : DE CT E X a ta) (hb : DE CT E X b tb) : DE CT E X (.IfExp c a b pos) (dIf t ta tb) :=
  .of (pe_ifExp hc.pt ha.pe hb.pe) fun σ H as S ρ Xq Qd Q z q k => ⟨as, S, ρ, Xq, _, z, q, fun as1 S1 H1 c o1 s1 q1 => by
    cases c with
    | true => exact ⟨as1, S1, ρ, Xq, Qd, z.on o1 s1, q1, k.on o1⟩
    | false => exact ⟨as1, S1, ρ, Xq, Qd, z.on o1 s1, q1, k.on o1⟩⟩

/-! ### argument lists, displays -/
def dNil : TAD := fun _ _ S Q => Q [] S
def dCons (a : TED) (r : TAD) : TAD := fun X ρ S Q => a X ρ S fun x S1 => r X ρ S1 fun xs S2 => Q (x :: xs) S2
theorem da_nil : DA CT E X [] dNil := .of pa_nil fun σ H as S ρ Xq Qd Q z q k => k as S H [] [] (On.refl _ _ _) z.st .nil q
theorem da_cons {e : Expr} {es : List Expr} {t : TED} {r : TAD} (h : DE CT E X e t) (hr : DA CT E X es r) (hs : starEach (e :: es) X.env = (false, eval e X.env) :: starEach es X.env := by rfl) : DA CT E X (e :: es) (dCons t r) :=
  .of (pa_cons h.pe hr.pa hs) fun σ H as S ρ Xq Qd Q z q k => ⟨as, S, ρ, Xq, _, z, q, fun as1 S1 H1 dx x o1 s1 rx q1 => ⟨as1, S1, ρ, Xq, _, z.on o1 s1, q1, fun as2 S2 H2 ds ys o2 s2 rs q2 =>
    k as2 S2 H2 _ _ (o1.trans o2) s2 (.cons (o2.rep rx) rs) q2⟩⟩
/-- trees out of data -/
def asTs : List D → Option (List T)
  | [] => some []
  | .t x :: r => (asTs r).map (x :: ·)
  | .m _ :: _ => none
theorem repL_of {as : List Addr} {L : Addr → Prop} {H : Hp} : ∀ {ds : List D} {ts : List T} {xs : List V}, asTs ds = some ts → RepDs as L H ds xs → RepL L H ts xs
  | [], ts, xs, e, h => by cases e; cases h; rfl
  | .t x :: r, ts, xs, e, h => by
    unfold asTs at e
    cases q : asTs r with
    | none => rw [q] at e; cases e
    | some us =>
      rw [q] at e; cases e
      cases h with
      | cons h1 h2 => exact ⟨_, _, rfl, h1, repL_of q h2⟩
  | .m i :: r, ts, xs, e, h => by cases e
theorem repDs_of {as : List Addr} {L : Addr → Prop} {H : Hp} : ∀ {ts : List T} {xs : List V}, RepL L H ts xs → RepDs as L H (ts.map .t) xs
  | [], xs, h => by
    have h : xs = [] := h
    subst h; exact .nil
  | t :: ts, xs, h => by
    obtain ⟨y, ys, e, h1, h2⟩ := h
    subst e
    exact .cons h1 (repDs_of h2)
theorem asTs_map (ts : List T) : asTs (ts.map .t) = some ts := by
  induction ts with
  | nil => rfl
  | cons t ts ih => simp [asTs, ih]
theorem repL_len {L : Addr → Prop} {H : Hp} : ∀ {ts : List T} {xs : List V}, RepL L H ts xs → xs.length = ts.length
  | [], xs, h => by
    have h : xs = [] := h
    subst h; rfl
  | t :: ts, xs, h => by
    obtain ⟨y, ys, e, h1, h2⟩ := h
    subst e
    simp [repL_len h2]
/-- a new tree at a fresh address -/
theorem new_lst {as : List Addr} {S : Store} {H : Hp} {ts : List T} {xs : List V} {p : Addr} {Qd : D → Store → Prop} {Q : VK} (st : StOk CT as S H) (r : RepL (Live as S) H ts xs) (k : KE CT as S H Qd Q) (hp : H p = none) (q : Qd (.t (.lst ts)) S) : Q (.ref p) (upd H p (.lst xs)) := by
  obtain ⟨s1, o1⟩ := st.new (o := .lst xs) hp
  refine k as S _ (.t (.lst ts)) _ o1 s1 ⟨p, xs, rfl, fun l => st.live_there l hp, upd_same, RepL.ext o1.ext ts xs r⟩ q
theorem new_tup {as : List Addr} {S : Store} {H : Hp} {ts : List T} {xs : List V} {p : Addr} {Qd : D → Store → Prop} {Q : VK} (st : StOk CT as S H) (r : RepL (Live as S) H ts xs) (k : KE CT as S H Qd Q) (hp : H p = none) (q : Qd (.t (.tup ts)) S) : Q (.ref p) (upd H p (.tup xs)) := by
  obtain ⟨s1, o1⟩ := st.new (o := .tup xs) hp
  refine k as S _ (.t (.tup ts)) _ o1 s1 ⟨p, xs, rfl, fun l => st.live_there l hp, upd_same, RepL.ext o1.ext ts xs r⟩ q
theorem new_cell {as : List Addr} {S : Store} {H : Hp} {ds : List D} {xs : List V} {p : Addr} {Qd : D → Store → Prop} {Q : VK} (st : StOk CT as S H) (r : RepDs as (Live as S) H ds xs) (k : KE CT as S H Qd Q) (hp : H p = none) (q : Qd (.m S.length) (S ++ [.lst ds])) : Q (.ref p) (upd H p (.lst xs)) := by
  obtain ⟨s1, o1⟩ := st.cellNew (c := .lst ds) (o := .lst xs) hp fun o => ⟨xs, upd_same, o.reps r⟩
  exact k _ _ _ (.m S.length) _ o1 s1 ⟨p, by rw [← st.len, List.getElem?_append_right (Nat.le_refl _)]; simp, rfl⟩ q
def dTup (t : TAD) : TED := fun X ρ S Q => t X ρ S fun ds S1 => ds.length ≤ sizeLine ∧ ∃ ts, asTs ds = some ts ∧ Q (.t (.tup ts)) S1
def dLst (t : TAD) : TED := fun X ρ S Q => t X ρ S fun ds S1 => ds.length ≤ sizeLine ∧ ∃ ts, asTs ds = some ts ∧ Q (.t (.lst ts)) S1
/-- a list display that is to be changed: a new cell -/
def dLstM (t : TAD) : TED := fun X ρ S Q => t X ρ S fun ds S1 => ds.length ≤ sizeLine ∧ Q (.m S1.length) (S1 ++ [.lst ds])
theorem de_tup {es : List Expr} {x1} {pos : Pos} {t : TAD} (h : DA CT E X es t) : DE CT E X (.Tuple es x1 pos) (dTup t) :=
  .of (pe_tup h.pa) fun σ H as S ρ Xq Qd Q z q k => ⟨as, S, ρ, Xq, _, z, q, fun as1 S1 H1 ds ys o1 s1 r ⟨hl, ts, ht, q1⟩ => ⟨by rw [← Paired.length r]; exact hl, fun p hp => new_tup s1 (repL_of ht r) (k.on o1) hp q1⟩⟩
theorem de_lst {es : List Expr} {pos : Pos} {t : TAD} (h : DA CT E X es t) : DE CT E X (.List es pos) (dLst t) :=
  .of (pe_lst h.pa) fun σ H as S ρ Xq Qd Q z q k => ⟨as, S, ρ, Xq, _, z, q, fun as1 S1 H1 ds ys o1 s1 r ⟨hl, ts, ht, q1⟩ => ⟨by rw [← Paired.length r]; exact hl, fun p hp => new_lst s1 (repL_of ht r) (k.on o1) hp q1⟩⟩
theorem de_lstM {es : List Expr} {pos : Pos} {t : TAD} (h : DA CT E X es t) : DE CT E X (.List es pos) (dLstM t) :=
  .of (pe_lst h.pa) fun σ H as S ρ Xq Qd Q z q k => ⟨as, S, ρ, Xq, _, z, q, fun as1 S1 H1 ds ys o1 s1 r ⟨hl, q1⟩ => ⟨by rw [← Paired.length r]; exact hl, fun p hp => new_cell s1 r (k.on o1) hp q1⟩⟩

/-! ### calls of built-ins, their methods -/
def dCB (r : RAD) (t : TAD) : TED := fun X ρ S Q => t X ρ S fun ds S1 => r ds S1 Q
theorem de_cb {e : Expr} {rh : List V → Hp → VK → Prop} {r : RAD} {t : TAD} (h : PE X e (tCB rh (liftA CT E t))) (br : BrA CT rh r) : DE CT E X e (dCB r t) :=
  .of h fun σ H as S ρ Xq Qd Q z q k => ⟨as, S, ρ, Xq, _, z, q, fun as1 S1 H1 ds ys o1 s1 r q1 => br as1 S1 H1 ys ds Qd Q s1 r q1 (k.on o1)⟩
/-- ty: of which built-in type the object is -/
def BrTy (CT : TTs) (K : PySem.W.Frag) (T : String) (ty : D → Store → Prop) : Prop := ∀ as S H d x, StOk CT as S H → RepD as (Live as S) H d x → ty d S → tyV K T x H
def BrM (CT : TTs) (rh : V → List V → Hp → VK → Prop) (r : D → RAD) : Prop := ∀ as S H x d xs ds Qd Q, StOk CT as S H → RepD as (Live as S) H d x → RepDs as (Live as S) H ds xs → r d ds S Qd → KE CT as S H Qd Q → rh x xs H Q
def dBM (ty : D → Store → Prop) (r : D → RAD) (o : TED) (t : TAD) : TED := fun X ρ S Q => o X ρ S fun d S1 => ty d S1 ∧ t X ρ S1 fun ds S2 => r d ds S2 Q
theorem de_bm {e : Expr} {Ty : String} {rh : V → List V → Hp → VK → Prop} {ty : D → Store → Prop} {r : D → RAD} {o : TED} {t : TAD} (h : PE X e (tBM X.K Ty rh (lift CT E o) (liftA CT E t))) (bt : BrTy CT X.K Ty ty) (br : BrM CT rh r) : DE CT E X e (dBM ty r o t) :=
  .of h fun σ H as S ρ Xq Qd Q z q k => ⟨as, S, ρ, Xq, _, z, q, fun as1 S1 H1 d x o1 s1 rx ⟨ht, q1⟩ => ⟨bt as1 S1 H1 d x s1 rx ht, as1, S1, ρ, Xq, _, z.on o1 s1, q1, fun as2 S2 H2 ds ys o2 s2 r2 q2 =>
    br as2 S2 H2 x d ys ds Qd Q s2 (o2.rep rx) r2 q2 (k.on (o1.trans o2))⟩⟩
theorem de_bm0 {e : Expr} {Ty : String} {rh : V → List V → Hp → VK → Prop} {ty : D → Store → Prop} {r : D → RAD} {o : TED} (h : PE X e (tBM0 X.K Ty rh (lift CT E o))) (bt : BrTy CT X.K Ty ty) (br : BrM CT rh r) : DE CT E X e (dBM ty r o dNil) :=
  .of h fun σ H as S ρ Xq Qd Q z q k => ⟨as, S, ρ, Xq, _, z, q, fun as1 S1 H1 d x o1 s1 rx ⟨ht, q1⟩ => ⟨bt as1 S1 H1 d x s1 rx ht, br as1 S1 H1 x d [] [] Qd Q s1 rx .nil q1 (k.on o1)⟩⟩

/-! ### statements -/
def sNext : TSD := fun De ρ S => De.nx ρ S
def sSeq (t u : TSD) : TSD := fun De ρ S => t { De with nx := u De } ρ S
theorem dss_nil : DSs CT E X [] sNext := .of pss_nil fun σ H as S ρ De D z q k => k.nx as S H σ ρ (On.refl _ _ _) z.st z.en q
theorem dss_cons {st : Stmt} {rest : List Stmt} {t u : TSD} (h1 : DS CT E X st t) (h2 : DSs CT E X rest u) : DSs CT E X (st :: rest) (sSeq t u) :=
  .of (pss_cons h1.ps h2.ps) fun σ H as S ρ De D z q k => ⟨as, S, ρ, { De with nx := u De }, z, q,
    { nx := fun as' S' H' σ' ρ' o s en q => ⟨as', S', ρ', De, ⟨s, en, z.ex.on o⟩, q, k.on o⟩, rt := k.rt, bk := k.bk, ct := k.ct }⟩
theorem dss_one {st : Stmt} {t : TSD} (h1 : DS CT E X st t) : DSs CT E X [st] t := ⟨pss_one h1.ps⟩
def sBreak : TSD := fun De ρ S => De.bk ρ S
def sCont : TSD := fun De ρ S => De.ct ρ S
theorem ds_pass {pos : Pos} : DS CT E X (.Pass pos) sNext := .of ps_pass fun σ H as S ρ De D z q k => k.nx as S H σ ρ (On.refl _ _ _) z.st z.en q
theorem ds_break {pos : Pos} : DS CT E X (.Break pos) sBreak := .of ps_break fun σ H as S ρ De D z q k => k.bk as S H σ ρ (On.refl _ _ _) z.st z.en q
theorem ds_continue {pos : Pos} : DS CT E X (.Continue pos) sCont := .of ps_continue fun σ H as S ρ De D z q k => k.ct as S H σ ρ (On.refl _ _ _) z.st z.en q
def sDrop (t : TED) : TSD := fun De ρ S => t De.ex ρ S fun _ S1 => De.nx ρ S1
theorem ds_expr {e : Expr} {t : TED} {pos : Pos} (h : DE CT E X e t) (hs : swapsWith e none pos.line X.env = pure false := by rfl) : DS CT E X (.Expr e pos) (sDrop t) :=
  .of (ps_expr h.pe hs) fun σ H as S ρ De D z q k => ⟨as, S, ρ, De.ex, _, z, q, fun as1 S1 H1 d y o1 s1 r q1 => k.nx as1 S1 H1 σ ρ o1 s1 (o1.env z.en) q1⟩
def sRet (t : TED) : TSD := fun De ρ S => t De.ex ρ S De.rt
theorem ds_ret {e : Expr} {t : TED} {pos : Pos} (h : DE CT E X e t) : DS CT E X (.Return (some e) pos) (sRet t) :=
  .of (ps_ret h.pe) fun σ H as S ρ De D z q k => ⟨as, S, ρ, De.ex, _, z, q, fun as1 S1 H1 d y o1 s1 r q1 => k.rt as1 S1 H1 d y o1 s1 r q1⟩
def sRetN : TSD := fun De ρ S => De.rt (.t (.v .non)) S
theorem ds_retN {pos : Pos} : DS CT E X (.Return none pos) sRetN := .of ps_retN fun σ H as S ρ De D z q k => k.rt as S H (.t (.v .non)) .non (On.refl _ _ _) z.st (by show V.non = V.non; rfl) q
def sIf (c : TTD) (t u : TSD) : TSD := fun De ρ S => c De.ex ρ S fun b S1 => if b = true then t De ρ S1 else u De ρ S1
theorem ds_if {c : Expr} {a b : List Stmt} {tc : TTD} {t u : TSD} {pos : Pos} (hc : DT CT E X c tc) (ha : DSs CT E X a t) (hb : DSs CT E X b u) : DS CT E X (.If c a b pos) (sIf tc t u) :=
  .of (ps_if hc.pt ha.ps hb.ps) fun σ H as S ρ De D z q k => ⟨as, S, ρ, De.ex, _, z, q, fun as1 S1 H1 c o1 s1 q1 => by
    cases c with
    | true => exact ⟨as1, S1, ρ, De, z.on o1 s1, q1, k.on o1⟩
    | false => exact ⟨as1, S1, ρ, De, z.on o1 s1, q1, k.on o1⟩⟩
def sNever : TSD := fun _ _ _ => False
theorem ds_never {st : Stmt} : DS CT E X st sNever := .of ps_never fun σ H as S ρ De D z q k => q.elim
theorem dss_never {st : List Stmt} : DSs CT E X st sNever := .of pss_never fun σ H as S ρ De D z q k => q.elim
/-! ### targets -/
def gVar (i : Nat) : TGD := fun d _ ρ S Q => Q (ρ.set i (some d)) S
theorem dg_name {e : Expr} {i : Nat} (h : PG X e (gName i)) : DG CT E X e (gVar i) := ⟨h.imp fun v σ H Q ⟨as, S, ρ, Xq, d, Qd, z, r, q, k⟩ => k as S H _ _ (On.refl _ _ _) z.st (z.en.set r) q⟩
def sAsg (t : TED) (g : TGD) : TSD := fun De ρ S => t De.ex ρ S fun d S1 => g d De.ex ρ S1 De.nx
theorem ds_asg {tg e : Expr} {pos : Pos} {t : TED} {g : TGD} (h : PS X (.Assign [tg] e pos) (tAsg (lift CT E t) (liftG CT E g))) : DS CT E X (.Assign [tg] e pos) (sAsg t g) :=
  .of h fun σ H as S ρ De D z q k => ⟨as, S, ρ, De.ex, _, z, q, fun as1 S1 H1 d y o1 s1 r q1 => ⟨as1, S1, ρ, De.ex, d, De.nx, z.on o1 s1, r, q1, fun as2 S2 H2 σ2 ρ2 o2 s2 en q2 => k.nx as2 S2 H2 σ2 ρ2 (o1.trans o2) s2 en q2⟩⟩
theorem ds_set {e : Expr} {x : Str} {p pos : Pos} {i : Nat} {t : TED} (h : PS X (.Assign [.Name x p] e pos) (tAsg (lift CT E t) (gName i))) : DS CT E X (.Assign [.Name x p] e pos) (sAsg t (gVar i)) :=
  .of h fun σ H as S ρ De D z q k => ⟨as, S, ρ, De.ex, _, z, q, fun as1 S1 H1 d y o1 s1 r q1 => k.nx as1 S1 H1 _ _ o1 s1 ((o1.env z.en).set r) q1⟩
/-! ### while -/
def sWhile (c : TTD) (tb : TSD) : TSD := fun De ρ S => ∃ W : Nat → Env → Store → Prop, (∃ m, W m ρ S) ∧ ∀ m ρ S, W m ρ S →
  c De.ex ρ S fun b S1 => if b = true then ∃ N : Env → Store → Prop, (∀ ρ' S', N ρ' S' → ∃ m', m' < m ∧ W m' ρ' S') ∧ tb { De with nx := N, ct := N, bk := De.nx } ρ S1 else De.nx ρ S1
theorem ds_while {c : Expr} {body : List Stmt} {tc : TTD} {tb : TSD} {pos : Pos} (hp : PassesOwn (model X.prog X.w) X.A X.env X.xe) (hc : DT CT E X c tc) (hb : DSs CT E X body tb) : DS CT E X (.While c body [] pos) (sWhile tc tb) :=
  .of (ps_while hp hc.pt hb.ps) fun σ H as S ρ De D z ⟨W, ⟨m0, w0⟩, turn⟩ k => by
    refine ⟨fun m σ' H' => ∃ as' S' ρ', On as S H as' S' H' ∧ Zt CT E σ' H' as' S' ρ' De.ex ∧ W m ρ' S', ⟨m0, as, S, ρ, On.refl _ _ _, z, w0⟩, ?_⟩
    rintro m σ1 H1 ⟨as1, S1, ρ1, o1, z1, w1⟩
    refine ⟨as1, S1, ρ1, De.ex, _, z1, turn m ρ1 S1 w1, fun as2 S2 H2 b o2 s2 q2 => ?_⟩
    cases b with
    | false => exact k.nx as2 S2 H2 σ1 ρ1 (o1.trans o2) s2 (o2.env z1.en) q2
    | true =>
      obtain ⟨N, hN, q2⟩ := q2
      refine ⟨fun σ' H' => ∃ as' S' ρ', On as S H as' S' H' ∧ Zt CT E σ' H' as' S' ρ' De.ex ∧ N ρ' S', ?_, ?_⟩
      · rintro σ' H' ⟨as', S', ρ', o', z', n'⟩
        obtain ⟨m', hm, w'⟩ := hN ρ' S' n'
        exact ⟨m', hm, as', S', ρ', o', z', w'⟩
      · refine ⟨as2, S2, ρ1, { De with nx := N, ct := N, bk := De.nx }, z1.on o2 s2, q2, ?_⟩
        have o12 := o1.trans o2
        exact { nx := fun as' S' H' σ' ρ' o s en q => ⟨as', S', ρ', o12.trans o, ⟨s, en, z1.ex.on (o2.trans o)⟩, q⟩, rt := (k.on o12).rt, bk := (k.on o12).nx, ct := fun as' S' H' σ' ρ' o s en q => ⟨as', S', ρ', o12.trans o, ⟨s, en, z1.ex.on (o2.trans o)⟩, q⟩ }
end
end DL
set_option Elab.async false
set_option linter.all false
set_option maxRecDepth 100000
/-! DL2: what a def promises over data; calls -/
namespace DL
open PySem PySem.Spec PyProof.Rows L2

/-- the arguments, the store; what follows; what is raised -/
abbrev FT := List D → Store → (D → Store → Prop) → (Ex → Prop) → Prop
def KX (CT : TTs) (E : XK) (as : List Addr) (S : Store) (H : Hp) (Ed : Ex → Prop) : Prop :=
  ∀ H' C dx fs ts, On as S H as S H' → StOk CT as S H' → H' dx = some (.xd fs) → RepFs as (Live as S) H' ts fs → Ed (C, ts) → E (.ref C) (some dx) H'
def spD (CT : TTs) (n : Nat) (ft : FT) : Sp := fun vs H Q E => ∃ as S ds Qd Ed, StOk CT as S H ∧ RepDs as (Live as S) H ds vs ∧ ds.length = n ∧ ft ds S Qd Ed ∧ KE CT as S H Qd Q ∧ KX CT E as S H Ed

/-! ### references -/
def refD (n : Nat) : D → Prop
  | .t _ => True
  | .m i => i < n
def refC (n : Nat) : Cell → Prop
  | .lst ds => ∀ d ∈ ds, refD n d
  | .dct kvs => ∀ p ∈ kvs, refD n p.2
  | .ins _ fs => ∀ p ∈ fs, refD n p.2
  | .tup ds => ∀ d ∈ ds, refD n d
  | .strmI => True
  | .strm _ => 0 < n
  | .fz _ => True
def ClosedS (n : Nat) (S : Store) : Prop := ∀ c ∈ S, refC n c
theorem refD_of {as : List Addr} {L : Addr → Prop} {H : Hp} : ∀ {d : D} {y : V}, RepD as L H d y → refD as.length d
  | .t _, _, _ => True.intro
  | .m i, _, ⟨a, h, _⟩ => (List.getElem?_eq_some_iff.mp h).1
theorem Paired.left {α β : Type} {F : α → β → Prop} : ∀ {l₁ : List α} {l₂ : List β}, Paired F l₁ l₂ → ∀ a ∈ l₁, ∃ b, F a b
  | _, _, .nil, a, h => by cases h
  | _, _, .cons r t, a, h => by
    rcases List.mem_cons.mp h with h | h
    · rw [h]; exact ⟨_, r⟩
    · exact Paired.left t a h
theorem StOk.closed {CT : TTs} {as : List Addr} {S : Store} {H : Hp} (st : StOk CT as S H) : ClosedS S.length S := fun c hc => by
  obtain ⟨i, hi⟩ := List.getElem?_of_mem hc
  obtain ⟨a, ha, ok⟩ := st.addr hi
  rw [← st.len]
  cases c with
  | lst ds => obtain ⟨xs, _, r⟩ := ok; exact fun d hd => let ⟨y, h⟩ := Paired.left r d hd; refD_of h
  | dct kvs => obtain ⟨xs, _, r⟩ := ok; exact fun d hd => let ⟨y, h⟩ := Paired.left r d hd; refD_of h.2
  | ins C fs => obtain ⟨dx, xs, _, r⟩ := ok; exact fun d hd => let ⟨y, h⟩ := Paired.left r d hd; refD_of h.2
  | tup ds => obtain ⟨xs, _, r⟩ := ok; exact fun d hd => let ⟨y, h⟩ := Paired.left r d hd; refD_of h
  | strmI => exact True.intro
  | strm b => obtain ⟨c, x, y, z, h0, _⟩ := ok; exact (List.getElem?_eq_some_iff.mp h0).1
  | fz t => exact True.intro
/-- fewer cells live -/
theorem Rep.weak {L L' : Addr → Prop} {H : Hp} (h : ∀ a, L' a → L a) {t : T} {y : V} (r : Rep L H t y) : Rep L' H t y := Rep.ext ⟨fun _ _ e _ _ => e, fun b l => .inl (h b l), fun _ e => e⟩ t y r
/-- the cells below n alone -/
theorem take_get {α : Type} {l : List α} {n i : Nat} {a : α} (h : (l.take n)[i]? = some a) : i < n ∧ l[i]? = some a := by
  have hi : i < (l.take n).length := (List.getElem?_eq_some_iff.mp h).1
  rw [List.length_take] at hi
  rw [List.getElem?_take_of_lt (by omega)] at h
  exact ⟨by omega, h⟩
theorem live_take {as : List Addr} {S : Store} {n : Nat} {a : Addr} (l : Live (as.take n) (S.take n) a) : Live as S a := by
  obtain ⟨i, c, h1, h2, h3⟩ := l
  exact ⟨i, c, (take_get h1).2, (take_get h2).2, h3⟩
theorem RepD.take {as : List Addr} {S : Store} {H : Hp} {n : Nat} : ∀ {d : D} {y : V}, refD n d → RepD as (Live as S) H d y → RepD (as.take n) (Live (as.take n) (S.take n)) H d y
  | .t _, _, _, r => Rep.weak (fun _ l => live_take l) r
  | .m i, _, h, ⟨a, e, q⟩ => ⟨a, by rw [List.getElem?_take_of_lt h]; exact e, q⟩
theorem Paired.both {α β : Type} {F G : α → β → Prop} : ∀ {l₁ : List α} {l₂ : List β}, Paired F l₁ l₂ → (∀ a ∈ l₁, ∀ b, F a b → G a b) → Paired G l₁ l₂
  | _, _, .nil, _ => .nil
  | _, _, .cons r t, h => .cons (h _ List.mem_cons_self _ r) (Paired.both t fun a ha => h a (List.mem_cons_of_mem _ ha))
theorem CellOk.take {as : List Addr} {S : Store} {H : Hp} {n : Nat} {a : Addr} : ∀ {c : Cell}, refC n c → CellOk as (Live as S) H a c → CellOk (as.take n) (Live (as.take n) (S.take n)) H a c
  | .lst ds, h, ⟨xs, e, r⟩ => ⟨xs, e, Paired.both r fun d hd y q => RepD.take (h d hd) q⟩
  | .dct kvs, h, ⟨xs, e, r⟩ => ⟨xs, e, Paired.both r fun d hd y q => ⟨q.1, RepD.take (h d hd) q.2⟩⟩
  | .ins C fs, h, ⟨dx, xs, e, r⟩ => ⟨dx, xs, e, Paired.both r fun d hd y q => ⟨q.1, RepD.take (h d hd) q.2⟩⟩
  | .tup ds, h, ⟨xs, e, r⟩ => ⟨xs, e, Paired.both r fun d hd y q => RepD.take (h d hd) q⟩
  | .strmI, _, h => h
  | .strm b, h, ⟨c, x, y, z, e, r⟩ => ⟨c, x, y, z, by rw [List.getElem?_take_of_lt h]; exact e, r⟩
  | .fz t, _, r => ⟨r.1, Rep.weak (fun _ l => live_take l) r.2⟩
theorem StOk.take {CT : TTs} {as : List Addr} {S : Store} {H : Hp} {n : Nat} (st : StOk CT as S H) (h : ClosedS n (S.take n)) : StOk CT (as.take n) (S.take n) H where
  tab := st.tab
  len := by rw [List.length_take, List.length_take, st.len]
  nd := st.nd.sublist (List.take_sublist _ _)
  there := fun i a e => st.there i a (take_get e).2
  cell := fun i a c e1 e2 => CellOk.take (h c (List.mem_of_getElem? e2)) (st.cell i a c (take_get e1).2 (take_get e2).2)
/-- back to n cells -/
theorem On.take {as as' : List Addr} {S S' : Store} {H H' : Hp} (o : On as S H as' S' H') {n : Nat} (hn : as.length = n) : as'.take n = as ∧ On as S H as (S'.take n) H' := by
  have e : as'.take n = as := by
    apply List.ext_getElem?
    intro i
    by_cases hi : i < n
    · rw [List.getElem?_take_of_lt hi]
      have : i < as.length := by omega
      rw [List.getElem?_eq_getElem this]
      exact o.pre i _ (List.getElem?_eq_getElem this)
    · rw [List.getElem?_eq_none (by rw [List.length_take]; omega), List.getElem?_eq_none (by omega)]
  refine ⟨e, ⟨⟨o.ext.keep, fun b l => o.ext.live b (live_take (n := n) (by rw [e]; exact l)), o.ext.dom⟩, fun _ _ h => h⟩⟩

/-! ### cells read as trees; only cells from n on may be in it -/
mutual
def frz (n : Nat) (S : Store) : Nat → D → Option T
  | _, .t x => some x
  | 0, .m _ => none
  | f + 1, .m i => match S[i]? with
    | some (.fz t) => some t
    | some (.lst ds) => if n ≤ i then (frzL n S f ds).map .lst else none
    | some (.dct kvs) => if n ≤ i then (frzK n S f kvs).map .dct else none
    | some (.ins C fs) => if n ≤ i then (frzF n S f fs).map (.ins C) else none
    | some (.tup ds) => if n ≤ i then (frzL n S f ds).map .tup else none
    | _ => none
def frzL (n : Nat) (S : Store) : Nat → List D → Option (List T)
  | _, [] => some []
  | f, d :: r => match frz n S f d, frzL n S f r with
    | some t, some ts => some (t :: ts)
    | _, _ => none
def frzK (n : Nat) (S : Store) : Nat → List (Key × D) → Option (List (Key × T))
  | _, [] => some []
  | f, (k, d) :: r => match frz n S f d, frzK n S f r with
    | some t, some ts => some ((k, t) :: ts)
    | _, _ => none
def frzF (n : Nat) (S : Store) : Nat → List (Str × D) → Option (List (Str × T))
  | _, [] => some []
  | f, (k, d) :: r => match frz n S f d, frzF n S f r with
    | some t, some ts => some ((k, t) :: ts)
    | _, _ => none
end
section
variable {CT : TTs} {as : List Addr} {S : Store} {H : Hp} {n : Nat}
theorem notLive {i : Nat} {a : Addr} (nd : as.Nodup) (h : n ≤ i) (e : as[i]? = some a) : ¬ Live (as.take n) (S.take n) a := fun ⟨j, c, h1, _⟩ => by
  obtain ⟨hj, h1⟩ := take_get h1
  have := nodup_ix nd e h1
  omega
mutual
theorem frz_ok (st : StOk CT as S H) : ∀ (f : Nat) (d : D) (t : T) (y : V), frz n S f d = some t → RepD as (Live as S) H d y → Rep (Live (as.take n) (S.take n)) H t y
  | f, .t x, t, y, e, r => by
    have e : x = t := by
      unfold frz at e
      exact Option.some.inj e
    subst e
    exact Rep.weak (fun _ l => live_take l) r
  | 0, .m i, t, y, e, r => by
    unfold frz at e
    cases e
  | f + 1, .m i, t, y, e, ⟨a, ha, ey⟩ => by
    subst ey
    obtain ⟨c, hc, ok⟩ := st.mem ha
    unfold frz at e
    rw [hc] at e
    cases c with
    | fz u =>
      cases e
      exact Rep.weak (fun _ l => live_take l) ok.2
    | lst ds =>
      have e : (if n ≤ i then (frzL n S f ds).map T.lst else none) = some t := e
      by_cases hi : n ≤ i
      · rw [if_pos hi] at e
        cases q : frzL n S f ds with
        | none => rw [q] at e; cases e
        | some ts =>
          rw [q] at e; cases e
          obtain ⟨xs, h1, h2⟩ := ok
          exact ⟨a, xs, rfl, notLive st.nd hi ha, h1, frzL_ok st f ds ts xs q h2⟩
      · rw [if_neg hi] at e; cases e
    | dct ds =>
      have e : (if n ≤ i then (frzK n S f ds).map T.dct else none) = some t := e
      by_cases hi : n ≤ i
      · rw [if_pos hi] at e
        cases q : frzK n S f ds with
        | none => rw [q] at e; cases e
        | some ts =>
          rw [q] at e; cases e
          obtain ⟨xs, h1, h2⟩ := ok
          exact ⟨a, xs, rfl, notLive st.nd hi ha, h1, frzK_ok st f ds ts xs q h2⟩
      · rw [if_neg hi] at e; cases e
    | ins C ds =>
      have e : (if n ≤ i then (frzF n S f ds).map (T.ins C) else none) = some t := e
      by_cases hi : n ≤ i
      · rw [if_pos hi] at e
        cases q : frzF n S f ds with
        | none => rw [q] at e; cases e
        | some ts =>
          rw [q] at e; cases e
          obtain ⟨dx, xs, h1, h2⟩ := ok
          exact ⟨a, dx, xs, rfl, notLive st.nd hi ha, h1, frzF_ok st f ds ts xs q h2⟩
      · rw [if_neg hi] at e; cases e
    | tup ds =>
      have e : (if n ≤ i then (frzL n S f ds).map T.tup else none) = some t := e
      by_cases hi : n ≤ i
      · rw [if_pos hi] at e
        cases q : frzL n S f ds with
        | none => rw [q] at e; cases e
        | some ts =>
          rw [q] at e; cases e
          obtain ⟨xs, h1, h2⟩ := ok
          exact ⟨a, xs, rfl, notLive st.nd hi ha, h1, frzL_ok st f ds ts xs q h2⟩
      · rw [if_neg hi] at e; cases e
    | strmI => cases e
    | strm b => cases e
theorem frzL_ok (st : StOk CT as S H) : ∀ (f : Nat) (ds : List D) (ts : List T) (xs : List V), frzL n S f ds = some ts → RepDs as (Live as S) H ds xs → RepL (Live (as.take n) (S.take n)) H ts xs
  | f, [], ts, xs, e, r => by
    have e : [] = ts := by
      unfold frzL at e
      exact Option.some.inj e
    subst e
    cases r
    rfl
  | f, d :: ds, ts, xs, e, r => by
    unfold frzL at e
    cases q1 : frz n S f d with
    | none => rw [q1] at e; cases e
    | some t =>
      cases q2 : frzL n S f ds with
      | none => rw [q1, q2] at e; cases e
      | some us =>
        rw [q1, q2] at e
        cases e
        cases r with
        | cons r1 r2 => exact ⟨_, _, rfl, frz_ok st f d t _ q1 r1, frzL_ok st f ds us _ q2 r2⟩
theorem frzK_ok (st : StOk CT as S H) : ∀ (f : Nat) (ds : List (Key × D)) (ts : List (Key × T)) (xs : List (Key × V)), frzK n S f ds = some ts → Paired (fun (p : Key × D) (q : Key × V) => p.1 = q.1 ∧ RepD as (Live as S) H p.2 q.2) ds xs → RepK (Live (as.take n) (S.take n)) H ts xs
  | f, [], ts, xs, e, r => by
    have e : [] = ts := by
      unfold frzK at e
      exact Option.some.inj e
    subst e
    cases r
    rfl
  | f, (k, d) :: ds, ts, xs, e, r => by
    unfold frzK at e
    cases q1 : frz n S f d with
    | none => rw [q1] at e; cases e
    | some t =>
      cases q2 : frzK n S f ds with
      | none => rw [q1, q2] at e; cases e
      | some us =>
        rw [q1, q2] at e
        cases e
        cases r with
        | @cons _ b _ _ r1 r2 =>
          obtain ⟨k', y⟩ := b
          obtain ⟨rk, r1⟩ := r1
          have rk : k = k' := rk
          subst rk
          exact ⟨_, _, rfl, frz_ok st f d t _ q1 r1, frzK_ok st f ds us _ q2 r2⟩
theorem frzF_ok (st : StOk CT as S H) : ∀ (f : Nat) (ds : List (Str × D)) (ts : List (Str × T)) (xs : List (Str × V)), frzF n S f ds = some ts → Paired (fun (p : Str × D) (q : Str × V) => p.1 = q.1 ∧ RepD as (Live as S) H p.2 q.2) ds xs → RepF (Live (as.take n) (S.take n)) H ts xs
  | f, [], ts, xs, e, r => by
    have e : [] = ts := by
      unfold frzF at e
      exact Option.some.inj e
    subst e
    cases r
    rfl
  | f, (k, d) :: ds, ts, xs, e, r => by
    unfold frzF at e
    cases q1 : frz n S f d with
    | none => rw [q1] at e; cases e
    | some t =>
      cases q2 : frzF n S f ds with
      | none => rw [q1, q2] at e; cases e
      | some us =>
        rw [q1, q2] at e
        cases e
        cases r with
        | @cons _ b _ _ r1 r2 =>
          obtain ⟨k', y⟩ := b
          obtain ⟨rk, r1⟩ := r1
          have rk : k = k' := rk
          subst rk
          exact ⟨_, _, rfl, frz_ok st f d t _ q1 r1, frzF_ok st f ds us _ q2 r2⟩
end
end

/-! ### how a def ends; n: the caller's cells -/
/-- the cells made stay -/
def rRaw (Q : D → Store → Prop) : D → Store → Prop := Q
/-- a tree is told, the cells made are given up -/
def rTree (n : Nat) (Q : D → Store → Prop) : D → Store → Prop := fun d S => ∃ t, frz n S (S.length + 1) d = some t ∧ ClosedS n (S.take n) ∧ Q (.t t) (S.take n)
/-- one cell is told, the other ones made are given up -/
def rTop (n : Nat) (Q : D → Store → Prop) : D → Store → Prop := fun d S => ∃ i c, d = .m i ∧ n ≤ i ∧ S[i]? = some c ∧ refC n c ∧ ClosedS n (S.take n) ∧ Q (.m n) (S.take n ++ [c])
inductive Mode | raw | tree | top
def Mode.rt (m : Mode) (n : Nat) (Q : D → Store → Prop) : D → Store → Prop := match m with
  | .raw => rRaw Q
  | .tree => rTree n Q
  | .top => rTop n Q
section
variable {CT : TTs} {as as' : List Addr} {S S' : Store} {H H' : Hp}
theorem refC_mono {n m : Nat} (h : n ≤ m) {c : Cell} (r : refC n c) : refC m c := by
  have rd : ∀ d, refD n d → refD m d := fun d q => by
    cases d with
    | t _ => exact True.intro
    | m i => exact Nat.lt_of_lt_of_le q h
  cases c with
  | lst ds => exact fun d hd => rd _ (r d hd)
  | dct kvs => exact fun d hd => rd _ (r d hd)
  | ins C fs => exact fun d hd => rd _ (r d hd)
  | tup ds => exact fun d hd => rd _ (r d hd)
  | strmI => exact True.intro
  | strm b => exact Nat.lt_of_lt_of_le (show 0 < n from r) h
  | fz t => exact True.intro
theorem mode_ok {m : Mode} {Qd : D → Store → Prop} {Q : VK} (k : KE CT as S H Qd Q) (hn : as.length = S.length) (o : On as S H as' S' H') (st : StOk CT as' S' H') {d : D} {y : V} (r : RepD as' (Live as' S') H' d y) (q : m.rt S.length Qd d S') : Q y H' := by
  cases m with
  | raw => exact k as' S' H' d y o st r q
  | tree =>
    obtain ⟨t, e, cl, q⟩ := q
    obtain ⟨e1, o1⟩ := o.take hn
    have st1 := st.take cl
    have rr := frz_ok st _ d t y e r
    rw [e1] at st1 rr
    exact k as _ H' (.t t) y o1 st1 rr q
  | top =>
    obtain ⟨i, c, rfl, hi, hc, rc, cl, q⟩ := q
    obtain ⟨e1, o1⟩ := o.take hn
    obtain ⟨a, ha, ok⟩ := st.addr hc
    obtain ⟨a', ha', ey⟩ := r
    rw [ha] at ha'
    cases ha'
    subst ey
    have st1 := st.take cl
    rw [e1] at st1
    have na : a ∉ as := fun hm => by
      obtain ⟨j, hj⟩ := List.getElem?_of_mem hm
      have := nodup_ix st.nd ha (o.pre j a hj)
      have := (List.getElem?_eq_some_iff.mp hj).1
      omega
    have hlen : (S'.take S.length).length = S.length := by rw [← st1.len, hn]
    -- the live ones of as ++ [a]
    have lv : ∀ b, Live (as ++ [a]) (S'.take S.length ++ [c]) b → Live as' S' b := fun b ⟨j, d, h1, h2, h3⟩ => by
      rcases get_app h1 with h1 | ⟨ej, eb⟩
      · rcases get_app h2 with h2 | ⟨ej, _⟩
        · exact live_take (n := S.length) ⟨j, d, by rw [e1]; exact h1, h2, h3⟩
        · have := (List.getElem?_eq_some_iff.mp h1).1
          omega
      · rcases get_app h2 with h2 | ⟨_, ed⟩
        · have := (List.getElem?_eq_some_iff.mp h2).1
          omega
        · rw [eb]; exact ⟨i, c, ha, hc, by rw [← ed]; exact h3⟩
    have wk : Ext (Live as' S') H' (Live (as ++ [a]) (S'.take S.length ++ [c])) H' := ⟨fun _ _ e _ _ => e, fun b l => .inl (lv b l), fun _ e => e⟩
    have fo : Ext (Live as S) H (Live (as ++ [a]) (S'.take S.length ++ [c])) H' := o.ext.trans wk
    -- references below n
    have rd : ∀ d y, refD S.length d → RepD as' (Live as' S') H' d y → RepD (as ++ [a]) (Live (as ++ [a]) (S'.take S.length ++ [c])) H' d y := fun d y hd r => by
      cases d with
      | t x => exact Rep.ext wk x y r
      | m j =>
        obtain ⟨b, hb, e⟩ := r
        have hj : j < as.length := by rw [hn]; exact hd
        refine ⟨b, ?_, e⟩
        rw [List.getElem?_append_left hj, ← e1, List.getElem?_take_of_lt hd]
        exact hb
    have ck : ∀ b c', refC S.length c' → CellOk as' (Live as' S') H' b c' → CellOk (as ++ [a]) (Live (as ++ [a]) (S'.take S.length ++ [c])) H' b c' := fun b c' hc' ok => by
      cases c' with
      | lst ds => obtain ⟨xs, e, r⟩ := ok; exact ⟨xs, e, Paired.both r fun d hd y q => rd d y (hc' d hd) q⟩
      | dct kvs => obtain ⟨xs, e, r⟩ := ok; exact ⟨xs, e, Paired.both r fun d hd y q => ⟨q.1, rd _ _ (hc' d hd) q.2⟩⟩
      | ins C fs => obtain ⟨dx, xs, e, r⟩ := ok; exact ⟨dx, xs, e, Paired.both r fun d hd y q => ⟨q.1, rd _ _ (hc' d hd) q.2⟩⟩
      | tup ds => obtain ⟨xs, e, r⟩ := ok; exact ⟨xs, e, Paired.both r fun d hd y q => rd d y (hc' d hd) q⟩
      | strmI => exact ok
      | strm b =>
        obtain ⟨c, x, y, z, e, r⟩ := ok
        refine ⟨c, x, y, z, ?_, r⟩
        have h0 : 0 < S.length := hc'
        rw [List.getElem?_append_left (by rw [hn]; exact h0), ← e1, List.getElem?_take_of_lt h0]
        exact e
      | fz t => exact ⟨ok.1, Rep.ext wk t _ ok.2⟩
    have pre : ∀ (j : Nat) b, as[j]? = some b → (as ++ [a])[j]? = some b := fun j b e => get_app_l e
    have onF : On as S H (as ++ [a]) (S'.take S.length ++ [c]) H' := ⟨fo, pre⟩
    refine k (as ++ [a]) _ H' (.m S.length) _ onF ⟨st.tab, by simp [hlen, hn], ?_, fun j b e => ?_, fun j b d e2 e3 => ?_⟩ ⟨a, by rw [← hn, List.getElem?_append_right (Nat.le_refl _)]; simp, rfl⟩ q
    · rw [List.nodup_append]
      refine ⟨st1.nd, by simp, fun x hx z hz => ?_⟩
      have hz : z = a := by simpa using hz
      rw [hz]
      exact fun h => na (by rw [← h]; exact hx)
    · rcases get_app e with e | ⟨_, e⟩
      · exact st1.there j b e
      · rw [e]; exact st.there i a ha
    · rcases get_app e2 with e2 | ⟨ej, eb⟩
      · rcases get_app e3 with e3 | ⟨ej, _⟩
        · refine ck b d (cl d (List.mem_of_getElem? e3)) (st.cell j b d (o.pre j b e2) (take_get e3).2)
        · have := (List.getElem?_eq_some_iff.mp e2).1
          omega
      · rcases get_app e3 with e3 | ⟨_, ed⟩
        · have := (List.getElem?_eq_some_iff.mp e3).1
          omega
        · rw [eb, ed]; exact ck a c rc ok
end

/-! ### a def keeps its promise by its body -/
def endsOf (m : Mode) (S : Store) (Q : D → Store → Prop) (Ed : Ex → Prop) : DEnds where
  nx := fun _ S' => m.rt S.length Q (.t (.v .non)) S'
  rt := m.rt S.length Q
  bk := fun _ _ => False
  ct := fun _ _ => False
  ex := fun e S' => S'.take S.length = S ∧ (∀ p ∈ e.2, refD S.length p.2) ∧ Ed e
def startD (n : Nat) (ds : List D) : Env := ds.map some ++ List.replicate (n - ds.length) none
theorem env_start {as : List Addr} {L : Addr → Prop} {H : Hp} {N : List Str} {ds : List D} {vs : List V} (r : RepDs as L H ds vs) : EnvOk as L H (L2.start N vs) (startD N.length ds) := by
  have hl : ds.length = vs.length := Paired.length r
  refine ⟨by unfold L2.start startD; simp [hl], fun i d h => ?_⟩
  unfold startD at h
  unfold L2.start
  by_cases hi : i < ds.length
  · rw [List.getElem?_append_left (by simpa using hi), List.getElem?_map] at h
    rw [List.getElem?_append_left (by simp; omega), List.getElem?_map]
    have : ∀ {l₁ : List D} {l₂ : List V} {i : Nat} {d : D}, RepDs as L H l₁ l₂ → l₁[i]? = some d → ∃ y, l₂[i]? = some y ∧ RepD as L H d y := by
      intro l₁ l₂ i d r
      induction r generalizing i with
      | nil => intro e; simp at e
      | cons r1 r2 ih =>
        intro e
        cases i with
        | zero => simp at e; subst e; exact ⟨_, rfl, r1⟩
        | succ j => simp at e; simpa using ih e
    cases e : ds[i]? with
    | none => rw [e] at h; cases h
    | some d' =>
      rw [e] at h
      have h : some d' = some d := Option.some.inj h
      cases h
      obtain ⟨y, h1, h2⟩ := this r e
      exact ⟨y, by rw [h1]; rfl, h2⟩
  · rw [List.getElem?_append_right (by simpa using hi), List.getElem?_replicate] at h
    split at h <;> cases h
section
variable {CT : TTs} {P : Program} {w : World} {K : PySem.W.Frag} {mg : Str → Option Value} {base : Heap}
theorem okD_pure {E : XK} {Q : VK} {as : List Addr} {S0 : Store} {H : Hp} {ds : List D} {vs : List V} {Qd : D → Store → Prop} {Ed : Ex → Prop} {N ps : List Str} {ft : FT} {tb : TSD} {m : Mode} (hft : ∀ ds S Q E, ClosedS S.length S → ds.length = ps.length → ft ds S Q E → tb (endsOf m S Q E) (startD N.length ds) S)
    (st0 : StOk CT as S0 H) (r : RepDs as (Live as S0) H ds vs) (hl : ds.length = ps.length) (q : ft ds S0 Qd Ed) (kq : KE CT as S0 H Qd Q) (kx : KX CT E as S0 H Ed) : liftS CT E tb { nx := fun _ H' => Q .non H', rt := Q } (start N vs) H := by
  refine ⟨as, S0, _, endsOf m S0 Qd Ed, ⟨st0, env_start r, ?_⟩, hft ds S0 Qd Ed st0.closed hl q, ?_⟩
  · intro as' S' H' C dx fs ts o st' hx rf ⟨e, hrf, q⟩
    obtain ⟨e1, o1⟩ := o.take st0.len
    have cl : ClosedS S0.length (S'.take S0.length) := by rw [e]; exact st0.closed
    have st1 := st'.take cl
    rw [e1, e] at st1
    rw [e] at o1
    refine kx H' C dx fs ts o1 st1 hx (Paired.both rf fun p hp y z => ⟨z.1, ?_⟩) q
    have := RepD.take (n := S0.length) (hrf p hp) z.2
    rw [e1, e] at this
    exact this
  · exact { nx := fun as' S' H' σ' ρ' o st' en q => mode_ok (m := m) kq st0.len o st' (d := .t (.v .non)) (y := .non) (by show V.non = V.non; rfl) q
            rt := fun as' S' H' d y o st' r q => mode_ok (m := m) kq st0.len o st' r q
            bk := fun as' S' H' σ' ρ' o st' en q => q.elim
            ct := fun as' S' H' σ' ρ' o st' en q => q.elim }

/-- a def: its body's reading tb, how it ends -/
theorem Fun.okD {x qual : Str} {st : Stmt} {f : Addr} {fd : FuncData} {N ps : List Str} {k : Nat} {ft : FT} {tb : TSD} {m : Mode} (F : L2.Fun K x qual st f fd) (S : FnScope N ps (defScope st))
    (hft : ∀ ds S Q E, ClosedS S.length S → ds.length = ps.length → ft ds S Q E → tb (endsOf m S Q E) (startD N.length ds) S)
    (hbody : ∀ (cdv : Value) (A : Around) (outer : List PySem.Env) (s : Shared) (H : Hp) (E : XK), Room k (A.deeper (envOfC qual (defScope st) s.heap.objs.size f cdv)) →
      DSs CT E (cxOf (L2.CX P w) P w K mg base N qual (defScope st) f cdv A outer s H E) (defBody st) tb) : FnOk P w K mg base (L2.CX P w) (k + 1) f fd ps (spD CT ps.length ft) := by
  refine F.okX S (fun vs H Q E ⟨as, S, ds, Qd, Ed, _, r, hl, _⟩ => by rw [← Paired.length r]; exact hl) (fun cdv A outer s H vs Q E hr h => ?_)
  obtain ⟨as, S0, ds, Qd, Ed, st0, r, hl, q, kq, kx⟩ := h
  exact ⟨_, (hbody cdv A outer s H E hr).ps, okD_pure (m := m) hft st0 r hl q kq kx⟩

/-! ### calls -/
def dCall (n : Nat) (ft : FT) (t : TAD) : TED := fun X ρ S Q => t X ρ S fun ds S1 => ds.length = n ∧ ft ds S1 Q fun e => X e S1
theorem spD_of {n : Nat} {ft : FT} {E : XK} {as : List Addr} {S : Store} {H : Hp} {ds : List D} {vs : List V} {X : XQ} {Qd : D → Store → Prop} {Q : VK} (st : StOk CT as S H) (r : RepDs as (Live as S) H ds vs) (hl : ds.length = n) (q : ft ds S Qd fun e => X e S) (k : KE CT as S H Qd Q) (ex : ExOk CT E as S H X) :
    spD CT n ft vs H Q E := ⟨as, S, ds, Qd, _, st, r, hl, q, k, fun H' C dx fs ts o st' hx rf q => ex as S H' C dx fs ts o st' hx rf q⟩
theorem de_call {E : XK} {X : Cx} {e : Expr} {n : Nat} {ft : FT} {t : TAD} (h : PE X e (tCall (spD CT n ft) [] E (liftA CT E t))) : DE CT E X e (dCall n ft t) :=
  .of h fun σ H as S ρ Xq Qd Q z q k => ⟨as, S, ρ, Xq, _, z, q, fun as1 S1 H1 ds ys o1 s1 r ⟨hl, q1⟩ => by
    show spD CT n ft (ys ++ []) H1 Q E
    rw [List.append_nil]
    exact spD_of s1 r hl q1 (k.on o1) (z.ex.on o1)⟩
/-- the arguments' cells as trees, while the callee runs; what is told is a scalar -/
def dCallRO (n : Nat) (ft : FT) (t : TAD) : TED := dCall n ft t
end
end DL
set_option Elab.async false
set_option linter.all false
set_option maxRecDepth 100000
/-! DL3: sequences read, targets, loops, comprehensions -/
namespace DL
open PySem PySem.Spec PyProof.Rows L2

/-! ### sequences -/
def cellL : Cell → Option (List D)
  | .lst ds => some ds
  | .fz (.lst ts) => some (ts.map .t)
  | _ => none
def cellT : Cell → Option (List D)
  | .fz (.tup ts) => some (ts.map .t)
  | .tup ds => some ds
  | _ => none
def seqL (S : Store) : D → Option (List D)
  | .t (.lst ts) => some (ts.map .t)
  | .t _ => none
  | .m i => (S[i]?).bind cellL
def seqT (S : Store) : D → Option (List D)
  | .t (.tup ts) => some (ts.map .t)
  | .t _ => none
  | .m i => (S[i]?).bind cellT
section
variable {CT : TTs} {as : List Addr} {S : Store} {H : Hp}
theorem seqL_ok (st : StOk CT as S H) {d : D} {x : V} {ds : List D} (r : RepD as (Live as S) H d x) (e : seqL S d = some ds) : ∃ a xs, x = .ref a ∧ H a = some (.lst xs) ∧ RepDs as (Live as S) H ds xs := by
  cases d with
  | t u =>
    cases u with
    | lst ts =>
      cases e
      obtain ⟨a, xs, e, _, h, q⟩ := r
      exact ⟨a, xs, e, h, repDs_of q⟩
    | _ => cases e
  | m i =>
    obtain ⟨a, ha, e1⟩ := r
    obtain ⟨c, hc, ok⟩ := st.mem ha
    have e : (S[i]?).bind cellL = some ds := e
    rw [hc] at e
    have e : cellL c = some ds := e
    cases c with
    | lst es => cases e; obtain ⟨xs, h1, h2⟩ := ok; exact ⟨a, xs, e1, h1, h2⟩
    | fz t =>
      cases t with
      | lst ts =>
        cases e
        obtain ⟨_, b, xs, e2, _, h, q⟩ := ok
        cases e2
        exact ⟨a, xs, e1, h, repDs_of q⟩
      | _ => cases e
    | _ => cases e
theorem seqT_ok (st : StOk CT as S H) {d : D} {x : V} {ds : List D} (r : RepD as (Live as S) H d x) (e : seqT S d = some ds) : ∃ a xs, x = .ref a ∧ H a = some (.tup xs) ∧ RepDs as (Live as S) H ds xs := by
  cases d with
  | t u =>
    cases u with
    | tup ts =>
      cases e
      obtain ⟨a, xs, e, _, h, q⟩ := r
      exact ⟨a, xs, e, h, repDs_of q⟩
    | _ => cases e
  | m i =>
    obtain ⟨a, ha, e1⟩ := r
    obtain ⟨c, hc, ok⟩ := st.mem ha
    have e : (S[i]?).bind cellT = some ds := e
    rw [hc] at e
    have e : cellT c = some ds := e
    cases c with
    | tup es => cases e; obtain ⟨xs, h1, h2⟩ := ok; exact ⟨a, xs, e1, h1, h2⟩
    | fz t =>
      cases t with
      | tup ts =>
        cases e
        obtain ⟨_, b, xs, e2, _, h, q⟩ := ok
        cases e2
        exact ⟨a, xs, e1, h, repDs_of q⟩
      | _ => cases e
    | _ => cases e
theorem repDs_get {as : List Addr} {L : Addr → Prop} {H : Hp} {l₁ : List D} {l₂ : List V} (r : RepDs as L H l₁ l₂) : ∀ {i : Nat} {d : D}, l₁[i]? = some d → ∃ y, l₂[i]? = some y ∧ RepD as L H d y := by
  induction r with
  | nil => intro i d e; simp at e
  | cons r1 r2 ih =>
    intro i d e
    cases i with
    | zero => simp at e; subst e; exact ⟨_, rfl, r1⟩
    | succ j => simp at e; simpa using ih e
theorem repDs_getV {as : List Addr} {L : Addr → Prop} {H : Hp} {l₁ : List D} {l₂ : List V} (r : RepDs as L H l₁ l₂) {i : Nat} {d : D} {y : V} (h1 : l₁[i]? = some d) (h2 : l₂[i]? = some y) : RepD as L H d y := by
  obtain ⟨z, h3, h4⟩ := repDs_get r h1
  rw [h2] at h3
  cases h3
  exact h4
end
theorem sq_inj {K : PySem.W.Frag} {H : Hp} {a : Addr} {xs : List V} {i : Nat} {x : V} (h : H a = some (.lst xs)) (f : ∀ ys, SqL K H a ys → ys[i]? = some x) : xs[i]? = some x := f xs (SqL.of h)
theorem st_inj {K : PySem.W.Frag} {H : Hp} {a : Addr} {xs : List V} {i : Nat} {x : V} (h : H a = some (.tup xs)) (f : ∀ ys, SqT K H a ys → ys[i]? = some x) : xs[i]? = some x := f xs (SqT.of h)

/-! ### targets -/
theorem PG.or {X : Cx} {e : Expr} {t t' : TG} (h : PG X e t) (h' : PG X e t') : PG X e (fun v σ H Q => t v σ H Q ∨ t' v σ H Q) :=
  ⟨fun pins s σ H v u Q I r q => q.elim (fun q => h.run pins s σ H v u Q I r q) fun q => h'.run pins s σ H v u Q I r q⟩
abbrev TGsD := List D → XQ → Env → Store → (Env → Store → Prop) → Prop
def liftGs (CT : TTs) (E : XK) (t : TGsD) : TGs := fun vs σ H Q => ∃ as S ρ X ds Qd, Zt CT E σ H as S ρ X ∧ RepDs as (Live as S) H ds vs ∧ t ds X ρ S Qd ∧
  ∀ as' S' H' σ' ρ', On as S H as' S' H' → StOk CT as' S' H' → EnvOk as' (Live as' S') H' σ' ρ' → Qd ρ' S' → Q σ' H'
theorem _root_.L2.PGs.imp {X : Cx} {e : List Expr} {t t' : TGs} (h : PGs X e t) (i : ∀ v σ H Q, t' v σ H Q → t v σ H Q) : PGs X e t' := ⟨fun pins s σ H v u Q I r q => h.run pins s σ H v u Q I r (i v σ H Q q)⟩
structure DGs (CT : TTs) (E : XK) (X : Cx) (es : List Expr) (t : TGsD) : Prop where
  pgs : PGs X es (liftGs CT E t)
section
variable {CT : TTs} {E : XK} {X : Cx}
def gNilD : TGsD := fun ds _ ρ S Q => ds = [] ∧ Q ρ S
def gConsD (t : TGD) (u : TGsD) : TGsD := fun ds X ρ S Q => ∃ d r, ds = d :: r ∧ t d X ρ S fun ρ' S' => u r X ρ' S' Q
theorem dgs_nil : DGs CT E X [] gNilD := ⟨pgs_nil.imp fun v σ H Q ⟨as, S, ρ, Xq, ds, Qd, z, r, ⟨e, q⟩, k⟩ => by
  subst e
  cases r
  exact ⟨rfl, k as S H σ ρ (On.refl _ _ _) z.st z.en q⟩⟩
theorem dgs_cons {e : Expr} {es : List Expr} {t : TGD} {u : TGsD} (h1 : DG CT E X e t) (h2 : DGs CT E X es u)
    (hs : (assignEach (e :: es) X.env).map (·.2) = assign e X.env :: (assignEach es X.env).map (·.2) := by rfl) : DGs CT E X (e :: es) (gConsD t u) :=
  ⟨(pgs_cons h1.pg h2.pgs hs).imp fun v σ H Q ⟨as, S, ρ, Xq, ds, Qd, z, r, ⟨d, rest, e, q⟩, k⟩ => by
    subst e
    cases r with
    | @cons _ y _ ys r1 r2 =>
      exact ⟨y, ys, rfl, as, S, ρ, Xq, d, _, z, r1, q, fun as1 S1 H1 σ1 ρ1 o1 s1 en q1 => ⟨as1, S1, ρ1, Xq, rest, Qd, ⟨s1, en, z.ex.on o1⟩, o1.reps r2, q1, fun as2 S2 H2 σ2 ρ2 o2 s2 en2 q2 => k as2 S2 H2 σ2 ρ2 (o1.trans o2) s2 en2 q2⟩⟩⟩
/-- a, b, .. = a tuple or a list -/
def gTupD (n : Nat) (t : TGsD) : TGD := fun d X ρ S Q => ∃ ds, (seqT S d = some ds ∨ seqL S d = some ds) ∧ ds.length = n ∧ t ds X ρ S Q
theorem dg_tup {es : List Expr} {k : Nat} {pos : Pos} {t : TGsD} {n : Nat} (hc : X.calm = true) (h : DGs CT E X es t)
    (hn : (assignEach es X.env).length = n := by rfl) (hst : (assignEach es X.env).findIdx? (·.1) = none := by rfl) : DG CT E X (.Tuple es k pos) (gTupD n t) :=
  ⟨(PG.or (pg_tup hc h.pgs hn hst) (pg_unl hc h.pgs hn hst)).imp fun v σ H Q ⟨as, S, ρ, Xq, d, Qd, z, r, ⟨ds, hd, hl, q⟩, k⟩ => by
    rcases hd with hd | hd
    · obtain ⟨a, xs, e, h1, h2⟩ := seqT_ok z.st r hd
      exact .inl ⟨a, xs, e, .of h1, by rw [← Paired.length h2]; exact hl, as, S, ρ, Xq, ds, Qd, z, h2, q, k⟩
    · obtain ⟨a, xs, e, h1, h2⟩ := seqL_ok z.st r hd
      exact .inr ⟨a, xs, e, .of h1, by rw [← Paired.length h2]; exact hl, as, S, ρ, Xq, ds, Qd, z, h2, q, k⟩⟩
end

/-! ### what is walked -/
structure ItD where
  items : List D
  g : Store → Prop
def Fol (CT : TTs) (as : List Addr) (S : Store) (H : Hp) (J : It) (it : ItD) : Prop := ∀ (i : Nat) as' S' H', On as S H as' S' H' → StOk CT as' S' H' → it.g S' →
  (∀ d, it.items[i]? = some d → J.go i H' ∧ ∀ x H'', J.yld i H' x H'' → On as' S' H' as' S' H'' ∧ StOk CT as' S' H'' ∧ RepD as' (Live as' S') H'' d x) ∧ (it.items.length ≤ i → J.stop i H')
abbrev TID := XQ → Env → Store → (ItD → Store → Prop) → Prop
def liftI (CT : TTs) (E : XK) (t : TID) : TI := fun σ H R => ∃ as S ρ X Rd, Zt CT E σ H as S ρ X ∧ t X ρ S Rd ∧
  ∀ as' S' H' it J, On as S H as' S' H' → StOk CT as' S' H' → Fol CT as' S' H' J it → Rd it S' → R J H'
structure DI (CT : TTs) (E : XK) (X : Cx) (tg iter : Expr) (t : TID) : Prop where
  pi : PI X tg iter (liftI CT E t)
theorem _root_.L2.PI.imp {X : Cx} {tg e : Expr} {t t' : TI} (h : PI X tg e t) (i : ∀ σ H Q, t' σ H Q → t σ H Q) : PI X tg e t' := ⟨fun pins s σ H Q I q => h.run pins s σ H Q I (i σ H Q q)⟩
section
variable {CT : TTs} {E : XK} {X : Cx} {tg : Expr}
/-- a list or a tuple -/
def iSeqV (K : PySem.W.Frag) (tl : TE) : TI := fun σ H R => tl σ H fun x H1 => (∃ a, x = .ref a ∧ (∃ xs, SqL K H1 a xs) ∧ R (Itl K a) H1) ∨ ∃ a, x = .ref a ∧ (∃ xs, SqT K H1 a xs) ∧ R (Itt K a) H1
theorem pi_seqV {l : Expr} {tl : TE} (hl : PE X l tl) : PI X tg l (iSeqV X.K tl) := by
  refine ⟨fun pins s σ H R I h => ?_⟩
  refine thn (hl.run pins s σ H _ I h) fun v s1 ⟨x, H1, I1, r1, q1⟩ => ?_
  rcases q1 with ⟨a, e, ⟨xs, hq⟩, q⟩ | ⟨a, e, ⟨xs, hq⟩, q⟩
  · subst e
    cases r1
    obtain ⟨its, rv, p, hz⟩ := I1.list hq
    refine wpAny_pyIter_list p.isList ?_
    refine ⟨s1.heap.objs.size, [s1.heap.objs.size], _, _, H1, rfl, I1.kept (t' := s1.toks) fun b o e => Heap.get?_push_of_some _ e, turn_list a _, ⟨_, Heap.get?_push_size _ rfl, rfl, rfl⟩, fun b hb => ?_, q⟩
    have e : b = s1.heap.objs.size := by simpa using hb
    subst e
    exact I1.fpOk (Nat.le_refl _) (I1.hok.fresh (Nat.le_refl _))
  · subst e
    cases r1
    obtain ⟨its, rv, p, hz⟩ := I1.tuple hq
    refine wpAny_pyIter_tuple (show s1.heap.IsTuple a its.toArray from p) ?_
    refine ⟨s1.heap.objs.size, [s1.heap.objs.size], _, _, H1, rfl, I1.kept (t' := s1.toks) fun b o e => Heap.get?_push_of_some _ e, turn_tuple a _, ⟨_, Heap.get?_push_size _ rfl, rfl, rfl⟩, fun b hb => ?_, q⟩
    have e : b = s1.heap.objs.size := by simpa using hb
    subst e
    exact I1.fpOk (Nat.le_refl _) (I1.hok.fresh (Nat.le_refl _))
/-- it stays to be read as ds -/
def Stays (ds : List D) (rd : Store → D → Option (List D)) (d : D) : Store → Prop := fun S' => rd S' d = some ds
def iSeq (t : TED) : TID := fun X ρ S R => t X ρ S fun d S1 => ∃ ds, (seqL S1 d = some ds ∧ R ⟨ds, Stays ds seqL d⟩ S1) ∨ (seqT S1 d = some ds ∧ R ⟨ds, Stays ds seqT d⟩ S1)
theorem di_seq {l : Expr} {t : TED} (hl : DE CT E X l t) : DI CT E X tg l (iSeq t) :=
  ⟨(pi_seqV hl.pe).imp fun σ H R ⟨as, S, ρ, Xq, Rd, z, q, k⟩ => ⟨as, S, ρ, Xq, _, z, q, fun as1 S1 H1 d x o1 s1 r ⟨ds, q1⟩ => by
    rcases q1 with ⟨hd, q1⟩ | ⟨hd, q1⟩
    · obtain ⟨a, xs, e, h1, h2⟩ := seqL_ok s1 r hd
      refine .inl ⟨a, e, ⟨xs, .of h1⟩, k as1 S1 H1 _ _ o1 s1 (fun i as' S' H' o s hg => ?_) q1⟩
      obtain ⟨a', xs', e', h1', h2'⟩ := seqL_ok s (o.rep r) hg
      rw [e] at e'; cases e'
      refine ⟨fun d' hd' => ?_, fun hi => ⟨xs', .of h1', by rw [← Paired.length h2']; exact hi⟩⟩
      obtain ⟨y, hy, _⟩ := repDs_get h2' hd'
      refine ⟨⟨xs', y, .of h1', hy⟩, fun x' H'' ⟨e1, e2⟩ => ?_⟩
      subst e1
      exact ⟨On.refl _ _ _, s, repDs_getV h2' hd' (e2 xs' (.of h1'))⟩
    · obtain ⟨a, xs, e, h1, h2⟩ := seqT_ok s1 r hd
      refine .inr ⟨a, e, ⟨xs, .of h1⟩, k as1 S1 H1 _ _ o1 s1 (fun i as' S' H' o s hg => ?_) q1⟩
      obtain ⟨a', xs', e', h1', h2'⟩ := seqT_ok s (o.rep r) hg
      rw [e] at e'; cases e'
      refine ⟨fun d' hd' => ?_, fun hi => ⟨xs', .of h1', by rw [← Paired.length h2']; exact hi⟩⟩
      obtain ⟨y, hy, _⟩ := repDs_get h2' hd'
      refine ⟨⟨xs', y, .of h1', hy⟩, fun x' H'' ⟨e1, e2⟩ => ?_⟩
      subst e1
      exact ⟨On.refl _ _ _, s, repDs_getV h2' hd' (e2 xs' (.of h1'))⟩⟩⟩
def dInts (lo : Int) (n : Nat) : List D := (List.range n).map fun i : Nat => .t (.v (.int (lo + i)))
theorem dInts_get {lo : Int} {n i : Nat} : (dInts lo n)[i]? = if i < n then some (.t (.v (.int (lo + i)))) else none := by
  unfold dInts
  by_cases h : i < n
  · rw [if_pos h, List.getElem?_map, List.getElem?_range h]; rfl
  · rw [if_neg h, List.getElem?_eq_none]; simp; omega
theorem fol_range {as S H lo n} : Fol CT as S H (Itr lo n) ⟨dInts lo n, fun _ => True⟩ := fun i as' S' H' o s _ => by
  refine ⟨fun d hd => ?_, fun hi => by
    have : (dInts lo n).length = n := by simp [dInts]
    have hi : (dInts lo n).length ≤ i := hi
    show n ≤ i
    omega⟩
  have hd : (dInts lo n)[i]? = some d := hd
  rw [dInts_get] at hd
  by_cases h : i < n
  · rw [if_pos h] at hd
    cases hd
    refine ⟨h, fun x H'' ⟨e1, e2⟩ => ?_⟩
    subst e1 e2
    exact ⟨On.refl _ _ _, s, rfl⟩
  · rw [if_neg h] at hd; cases hd
def iRange1 (t : TAD) : TID := fun X ρ S R => t X ρ S fun ds S1 => ∃ j : Int, ds = [.t (.v (.int j))] ∧ -(2 ^ 62) ≤ j ∧ j < 2 ^ 62 ∧ R ⟨dInts 0 j.toNat, fun _ => True⟩ S1
def iRange2 (t : TAD) : TID := fun X ρ S R => t X ρ S fun ds S1 => ∃ i j : Int, ds = [.t (.v (.int i)), .t (.v (.int j))] ∧ (-(2 ^ 62) ≤ i ∧ i < 2 ^ 62 ∧ -(2 ^ 62) ≤ j ∧ j < 2 ^ 62) ∧ R ⟨dInts i (j - i).toNat, fun _ => True⟩ S1
theorem di_range1 {e : Expr} {t : TAD} (h : PI X tg e (iRng1 (liftA CT E t))) : DI CT E X tg e (iRange1 t) :=
  ⟨h.imp fun σ H R ⟨as, S, ρ, Xq, Rd, z, q, k⟩ => ⟨as, S, ρ, Xq, _, z, q, fun as1 S1 H1 ds ys o1 s1 r ⟨j, e, h1, h2, q1⟩ => by
    subst e
    cases r with
    | @cons _ y _ _ r1 r2 =>
      cases r2
      obtain rfl : y = .int j := r1
      exact ⟨j, rfl, h1, h2, k as1 S1 H1 _ _ o1 s1 fol_range q1⟩⟩⟩
theorem di_range2 {e : Expr} {t : TAD} (h : PI X tg e (iRng2 (liftA CT E t))) : DI CT E X tg e (iRange2 t) :=
  ⟨h.imp fun σ H R ⟨as, S, ρ, Xq, Rd, z, q, k⟩ => ⟨as, S, ρ, Xq, _, z, q, fun as1 S1 H1 ds ys o1 s1 r ⟨i, j, e, h1, q1⟩ => by
    subst e
    cases r with
    | @cons _ y _ _ r1 r2 =>
      cases r2 with
      | @cons _ y2 _ _ r3 r4 =>
        cases r4
        obtain rfl : y = .int i := r1
        obtain rfl : y2 = .int j := r3
        exact ⟨i, j, rfl, h1, k as1 S1 H1 _ _ o1 s1 fol_range q1⟩⟩⟩
/-- pairs of trees -/
def zips : List D → List D → List D
  | .t x :: xs, .t y :: ys => .t (.tup [x, y]) :: zips xs ys
  | _, _ => []
def allT : List D → Prop
  | [] => True
  | .t _ :: r => allT r
  | .m _ :: _ => False
theorem allT_map : ∀ ts : List T, allT (ts.map .t)
  | [] => True.intro
  | _ :: r => allT_map r
theorem zips_get : ∀ {xs ys : List D} {i : Nat} {d : D}, (zips xs ys)[i]? = some d → ∃ x y, xs[i]? = some (.t x) ∧ ys[i]? = some (.t y) ∧ d = .t (.tup [x, y])
  | .t x :: xs, .t y :: ys, 0, d, h => by
    unfold zips at h
    exact ⟨x, y, rfl, rfl, (Option.some.inj h).symm⟩
  | .t x :: xs, .t y :: ys, i + 1, d, h => by
    unfold zips at h
    exact zips_get (xs := xs) (ys := ys) (i := i) h
  | [], _, _, d, h => by unfold zips at h; simp at h
  | .m _ :: _, _, _, d, h => by unfold zips at h; simp at h
  | .t _ :: _, [], _, d, h => by unfold zips at h; simp at h
  | .t _ :: _, .m _ :: _, _, d, h => by unfold zips at h; simp at h
theorem zips_len : ∀ {xs ys : List D}, allT xs → allT ys → (zips xs ys).length = min xs.length ys.length
  | .t x :: xs, .t y :: ys, h1, h2 => by
    unfold zips
    have := zips_len (xs := xs) (ys := ys) h1 h2
    rw [List.length_cons, List.length_cons, List.length_cons, this]
    omega
  | [], _, _, _ => by unfold zips; simp
  | .m _ :: _, _, h, _ => h.elim
  | .t _ :: _, [], _, _ => by unfold zips; simp
  | .t _ :: _, .m _ :: _, _, h => h.elim
def pairT (x y : T) : T := .tup [x, y]
theorem pair_new {as : List Addr} {S : Store} {H : Hp} {x y : T} {u v : V} {p : Addr} (st : StOk CT as S H) (h1 : Rep (Live as S) H x u) (h2 : Rep (Live as S) H y v) (hp : H p = none) :
    On as S H as S (upd H p (.tup [u, v])) ∧ StOk CT as S (upd H p (.tup [u, v])) ∧ RepD as (Live as S) (upd H p (.tup [u, v])) (.t (.tup [x, y])) (.ref p) := by
  obtain ⟨s1, o1⟩ := st.new (o := .tup [u, v]) hp
  exact ⟨o1, s1, p, [u, v], rfl, fun l => st.live_there l hp, upd_same, u, [v], rfl, o1.tree h1, v, [], rfl, o1.tree h2, rfl⟩
def iZipD (t : TAD) : TID := fun X ρ S R => t X ρ S fun ds S1 => ∃ x y xs ys, ds = [x, y] ∧ allT xs ∧ allT ys ∧
  ((seqL S1 x = some xs ∧ seqL S1 y = some ys ∧ R ⟨zips xs ys, fun S' => seqL S' x = some xs ∧ seqL S' y = some ys⟩ S1) ∨ (seqT S1 x = some xs ∧ seqT S1 y = some ys ∧ R ⟨zips xs ys, fun S' => seqT S' x = some xs ∧ seqT S' y = some ys⟩ S1))
theorem di_zip {e : Expr} {t : TAD} (h : PI X tg e (RZ.iZipA X.K (liftA CT E t))) : DI CT E X tg e (iZipD t) :=
  ⟨h.imp fun σ H R ⟨as, S, ρ, Xq, Rd, z, q, k⟩ => ⟨as, S, ρ, Xq, _, z, q, fun as1 S1 H1 ds vs o1 s1 r ⟨dx, dy, xs, ys, e, ax, ay, q1⟩ => by
    subst e
    cases r with
    | @cons _ u _ _ rx r2 =>
      cases r2 with
      | @cons _ v _ _ ry r4 =>
        cases r4
        rcases q1 with ⟨hx, hy, q1⟩ | ⟨hx, hy, q1⟩
        · obtain ⟨a, us, e1, h1, h2⟩ := seqL_ok s1 rx hx
          obtain ⟨b, ws, e2, h3, h4⟩ := seqL_ok s1 ry hy
          subst e1 e2
          refine ⟨a, b, us, ws, rfl, .inl ⟨.of h1, .of h3, k as1 S1 H1 _ _ o1 s1 (fun i as' S' H' o s hg => ?_) q1⟩⟩
          obtain ⟨a', us', e1', h1', h2'⟩ := seqL_ok s (o.rep rx) hg.1
          obtain ⟨b', ws', e2', h3', h4'⟩ := seqL_ok s (o.rep ry) hg.2
          cases e1'
          cases e2'
          refine ⟨fun d hd => ?_, fun hi => ⟨us', ws', .of h1', .of h3', ?_⟩⟩
          · obtain ⟨x, y, g1, g2, e⟩ := zips_get hd
            subst e
            obtain ⟨x', gx, rx'⟩ := repDs_get h2' g1
            obtain ⟨y', gy, ry'⟩ := repDs_get h4' g2
            refine ⟨⟨us', ws', x', y', .of h1', .of h3', gx, gy⟩, fun w H'' ⟨p, x2, y2, e1, hp, e2, f1, f2⟩ => ?_⟩
            subst e1 e2
            exact pair_new s (repDs_getV h2' g1 (f1 us' (.of h1'))) (repDs_getV h4' g2 (f2 ws' (.of h3'))) hp
          · have hi : (zips xs ys).length ≤ i := hi
            rw [zips_len ax ay, Paired.length h2', Paired.length h4'] at hi
            omega
        · obtain ⟨a, us, e1, h1, h2⟩ := seqT_ok s1 rx hx
          obtain ⟨b, ws, e2, h3, h4⟩ := seqT_ok s1 ry hy
          subst e1 e2
          refine ⟨a, b, us, ws, rfl, .inr ⟨.of h1, .of h3, k as1 S1 H1 _ _ o1 s1 (fun i as' S' H' o s hg => ?_) q1⟩⟩
          obtain ⟨a', us', e1', h1', h2'⟩ := seqT_ok s (o.rep rx) hg.1
          obtain ⟨b', ws', e2', h3', h4'⟩ := seqT_ok s (o.rep ry) hg.2
          cases e1'
          cases e2'
          refine ⟨fun d hd => ?_, fun hi => ⟨us', ws', .of h1', .of h3', ?_⟩⟩
          · obtain ⟨x, y, g1, g2, e⟩ := zips_get hd
            subst e
            obtain ⟨x', gx, rx'⟩ := repDs_get h2' g1
            obtain ⟨y', gy, ry'⟩ := repDs_get h4' g2
            refine ⟨⟨us', ws', x', y', .of h1', .of h3', gx, gy⟩, fun w H'' ⟨p, x2, y2, e1, hp, e2, f1, f2⟩ => ?_⟩
            subst e1 e2
            exact pair_new s (repDs_getV h2' g1 (f1 us' (.of h1'))) (repDs_getV h4' g2 (f2 ws' (.of h3'))) hp
          · have hi : (zips xs ys).length ≤ i := hi
            rw [zips_len ax ay, Paired.length h2', Paired.length h4'] at hi
            omega⟩⟩

/-! ### for -/
def sFor (wi : TID) (g : TGD) (tb : TSD) : TSD := fun De ρ S => wi De.ex ρ S fun it S1 => ∃ Pv : Nat → Env → Store → Prop, Pv 0 ρ S1 ∧ (∀ i ρ S, Pv i ρ S → it.g S) ∧
  (∀ i d ρ S, it.items[i]? = some d → Pv i ρ S → g d De.ex ρ S fun ρ2 S2 => tb { De with nx := Pv (i + 1), ct := Pv (i + 1), bk := De.nx } ρ2 S2) ∧ (∀ ρ S, Pv it.items.length ρ S → De.nx ρ S)
theorem ds_for {iter : Expr} {body : List Stmt} {wi : TID} {g : TGD} {tb : TSD} {pos : Pos} (hp : PassesOwn (model X.prog X.w) X.A X.env X.xe) (hc : X.calm = true) (hi : DI CT E X tg iter wi) (hg : DG CT E X tg g) (hb : DSs CT E X body tb)
    (hs : ∀ x, foldedSetIterable iter X.env x = pure x := by intro _; rfl) : DS CT E X (.For tg iter body [] pos) (sFor wi g tb) :=
  .of (ps_for hp hc hi.pi hg.pg hb.ps hs) fun σ H as S ρ De D z q k => ⟨as, S, ρ, De.ex, _, z, q, fun as1 S1 H1 it J o1 s1 fol ⟨Pv, p0, pg, ph, pn⟩ => by
    refine ⟨fun i m σ' H' => m = it.items.length - i ∧ i ≤ it.items.length ∧ ∃ as' S' ρ', On as1 S1 H1 as' S' H' ∧ Zt CT E σ' H' as' S' ρ' De.ex ∧ Pv i ρ' S', ⟨_, rfl, Nat.zero_le _, as1, S1, ρ, On.refl _ _ _, z.on o1 s1, p0⟩, ?_⟩
    rintro i m σ2 H2 ⟨rfl, hi, as2, S2, ρ2, o2, z2, p2⟩
    obtain ⟨f1, f2⟩ := fol i as2 S2 H2 o2 z2.st (pg i ρ2 S2 p2)
    by_cases hlt : i < it.items.length
    · obtain ⟨hgo, hy⟩ := f1 _ (List.getElem?_eq_getElem hlt)
      refine .inr ⟨hgo, fun σ' H' => ∃ as' S' ρ', On as1 S1 H1 as' S' H' ∧ Zt CT E σ' H' as' S' ρ' De.ex ∧ Pv (i + 1) ρ' S', fun σ' H' ⟨as', S', ρ', o', z', p'⟩ => ⟨_, by omega, rfl, hlt, as', S', ρ', o', z', p'⟩, fun x H3 hyx => ?_⟩
      obtain ⟨o3, s3, r3⟩ := hy x H3 hyx
      refine ⟨as2, S2, ρ2, De.ex, _, _, z2.on o3 s3, r3, ph i _ ρ2 S2 (List.getElem?_eq_getElem hlt) p2, fun as4 S4 H4 σ4 ρ4 o4 s4 en4 q4 => ?_⟩
      have o34 := o3.trans o4
      have o24 := o2.trans o34
      refine ⟨as4, S4, ρ4, { De with nx := Pv (i + 1), ct := Pv (i + 1), bk := De.nx }, ⟨s4, en4, z2.ex.on o34⟩, q4, ?_⟩
      exact { nx := fun as' S' H' σ' ρ' o s en q => ⟨as', S', ρ', o24.trans o, ⟨s, en, z2.ex.on (o34.trans o)⟩, q⟩
              rt := (k.on (o1.trans o24)).rt
              bk := (k.on (o1.trans o24)).nx
              ct := fun as' S' H' σ' ρ' o s en q => ⟨as', S', ρ', o24.trans o, ⟨s, en, z2.ex.on (o34.trans o)⟩, q⟩ }
    · have e : i = it.items.length := by omega
      subst e
      exact .inl ⟨f2 (Nat.le_refl _), k.nx as2 S2 H2 σ2 ρ2 (o1.trans o2) z2.st z2.en (pn ρ2 S2 p2)⟩⟩
end
end DL
set_option Elab.async false
set_option linter.all false
set_option maxRecDepth 100000
/-! DL4: comprehensions -/
namespace DL
open PySem PySem.Spec PyProof.Rows L2

def wipeD (ρ : Env) : List Nat → Env
  | [] => ρ
  | v :: vs => (wipeD ρ vs).set v none
theorem EnvOk.unset {as : List Addr} {L : Addr → Prop} {H : Hp} {σ : L2.St} {ρ : Env} {i : Nat} (h : EnvOk as L H σ ρ) : EnvOk as L H (σ.set i none) (ρ.set i none) := by
  refine ⟨by rw [List.length_set, List.length_set]; exact h.1, fun j e he => ?_⟩
  by_cases hj : i = j
  · subst hj
    by_cases hl : i < ρ.length
    · rw [List.getElem?_set_self hl] at he
      cases he
    · rw [List.getElem?_eq_none (by rw [List.length_set]; omega)] at he
      cases he
  · rw [List.getElem?_set_ne hj] at he
    obtain ⟨z, h1, h2⟩ := h.2 j e he
    exact ⟨z, by rw [List.getElem?_set_ne hj]; exact h1, h2⟩
theorem EnvOk.wipe {as : List Addr} {L : Addr → Prop} {H : Hp} {σ : L2.St} {ρ : Env} (h : EnvOk as L H σ ρ) : ∀ vs, EnvOk as L H (L2.wipe σ vs) (wipeD ρ vs)
  | [] => h
  | v :: vs => (EnvOk.wipe h vs).unset

/-! ### targets that change the names at vs alone -/
def liftGw (CT : TTs) (E : XK) (vs : List Nat) (t : TGD) : TG := fun v σ H Q => ∃ as S ρ X d Qd, Zt CT E σ H as S ρ X ∧ RepD as (Live as S) H d v ∧ t d X ρ S Qd ∧
  ∀ as' S' H' σ' ρ', On as S H as' S' H' → StOk CT as' S' H' → EnvOk as' (Live as' S') H' σ' ρ' → L2.wipe σ' vs = L2.wipe σ vs → Qd ρ' S' → Q σ' H'
def liftGsw (CT : TTs) (E : XK) (ws : List Nat) (t : TGsD) : TGs := fun vs σ H Q => ∃ as S ρ X ds Qd, Zt CT E σ H as S ρ X ∧ RepDs as (Live as S) H ds vs ∧ t ds X ρ S Qd ∧
  ∀ as' S' H' σ' ρ', On as S H as' S' H' → StOk CT as' S' H' → EnvOk as' (Live as' S') H' σ' ρ' → L2.wipe σ' ws = L2.wipe σ ws → Qd ρ' S' → Q σ' H'
structure DGw (CT : TTs) (E : XK) (X : Cx) (vs : List Nat) (e : Expr) (t : TGD) : Prop where
  pg : PG X e (liftGw CT E vs t)
structure DGsw (CT : TTs) (E : XK) (X : Cx) (vs : List Nat) (es : List Expr) (t : TGsD) : Prop where
  pgs : PGs X es (liftGsw CT E vs t)
theorem DGw.dg {CT : TTs} {E : XK} {X : Cx} {vs : List Nat} {e : Expr} {t : TGD} (h : DGw CT E X vs e t) : DG CT E X e t :=
  ⟨h.pg.imp fun v σ H Q ⟨as, S, ρ, Xq, d, Qd, z, r, q, k⟩ => ⟨as, S, ρ, Xq, d, Qd, z, r, q, fun as' S' H' σ' ρ' o s en _ q => k as' S' H' σ' ρ' o s en q⟩⟩
theorem wipe_set (σ : L2.St) (i : Nat) (x : Option V) : ∀ vs : List Nat, i ∈ vs → L2.wipe (σ.set i x) vs = L2.wipe σ vs := by
  have comm : ∀ (vs : List Nat) (σ : L2.St) (i : Nat) (x : Option V), i ∉ vs → L2.wipe (σ.set i x) vs = (L2.wipe σ vs).set i x := by
    intro vs
    induction vs with
    | nil => intro σ i x _; rfl
    | cons v vs ih =>
      intro σ i x h
      have h1 : i ≠ v := fun z => h (by simp [z])
      have h2 : i ∉ vs := fun z => h (by simp [z])
      show (L2.wipe (σ.set i x) vs).set v none = ((L2.wipe σ vs).set v none).set i x
      rw [ih σ i x h2, List.set_comm _ _ h1]
  intro vs
  induction vs with
  | nil => intro h; cases h
  | cons v vs ih =>
    intro h
    show (L2.wipe (σ.set i x) vs).set v none = (L2.wipe σ vs).set v none
    by_cases hm : i ∈ vs
    · rw [ih hm]
    · have hv : i = v := by
        rcases List.mem_cons.mp h with h | h
        · exact h
        · exact absurd h hm
      subst hv
      rw [comm vs σ i x hm, List.set_set]
section
variable {CT : TTs} {E : XK} {X : Cx} {vs : List Nat}
theorem dgw_name {e : Expr} {i : Nat} (h : PG X e (gName i)) (hi : i ∈ vs := by decide) : DGw CT E X vs e (gVar i) :=
  ⟨h.imp fun v σ H Q ⟨as, S, ρ, Xq, d, Qd, z, r, q, k⟩ => k as S H _ _ (On.refl _ _ _) z.st (z.en.set r) (wipe_set σ i _ vs hi) q⟩
theorem dgsw_nil : DGsw CT E X vs [] gNilD := ⟨pgs_nil.imp fun v σ H Q ⟨as, S, ρ, Xq, ds, Qd, z, r, ⟨e, q⟩, k⟩ => by
  subst e
  cases r
  exact ⟨rfl, k as S H σ ρ (On.refl _ _ _) z.st z.en rfl q⟩⟩
theorem dgsw_cons {e : Expr} {es : List Expr} {t : TGD} {u : TGsD} (h1 : DGw CT E X vs e t) (h2 : DGsw CT E X vs es u)
    (hs : (assignEach (e :: es) X.env).map (·.2) = assign e X.env :: (assignEach es X.env).map (·.2) := by rfl) : DGsw CT E X vs (e :: es) (gConsD t u) :=
  ⟨(pgs_cons h1.pg h2.pgs hs).imp fun v σ H Q ⟨as, S, ρ, Xq, ds, Qd, z, r, ⟨d, rest, e, q⟩, k⟩ => by
    subst e
    cases r with
    | @cons _ y _ ys r1 r2 =>
      exact ⟨y, ys, rfl, as, S, ρ, Xq, d, _, z, r1, q, fun as1 S1 H1 σ1 ρ1 o1 s1 en w1 q1 => ⟨as1, S1, ρ1, Xq, rest, Qd, ⟨s1, en, z.ex.on o1⟩, o1.reps r2, q1, fun as2 S2 H2 σ2 ρ2 o2 s2 en2 w2 q2 => k as2 S2 H2 σ2 ρ2 (o1.trans o2) s2 en2 (w2.trans w1) q2⟩⟩⟩
theorem dgw_tup {es : List Expr} {k : Nat} {pos : Pos} {t : TGsD} {n : Nat} (hc : X.calm = true) (h : DGsw CT E X vs es t)
    (hn : (assignEach es X.env).length = n := by rfl) (hst : (assignEach es X.env).findIdx? (·.1) = none := by rfl) : DGw CT E X vs (.Tuple es k pos) (gTupD n t) :=
  ⟨(PG.or (pg_tup hc h.pgs hn hst) (pg_unl hc h.pgs hn hst)).imp fun v σ H Q ⟨as, S, ρ, Xq, d, Qd, z, r, ⟨ds, hd, hl, q⟩, k⟩ => by
    rcases hd with hd | hd
    · obtain ⟨a, xs, e, h1, h2⟩ := seqT_ok z.st r hd
      exact .inl ⟨a, xs, e, .of h1, by rw [← Paired.length h2]; exact hl, as, S, ρ, Xq, ds, Qd, z, h2, q, k⟩
    · obtain ⟨a, xs, e, h1, h2⟩ := seqL_ok z.st r hd
      exact .inr ⟨a, xs, e, .of h1, by rw [← Paired.length h2]; exact hl, as, S, ρ, Xq, ds, Qd, z, h2, q, k⟩⟩
/-! ### tests -/
structure DTs (CT : TTs) (E : XK) (X : Cx) (es : List Expr) (t : TTD) : Prop where
  pts : PTs X es (liftT CT E t)
def dYes : TTD := fun _ _ S Q => Q true S
theorem dts_nil : DTs CT E X [] dYes := ⟨⟨fun pins s σ H Q I ⟨as, S, ρ, Xq, Qd, z, q, k⟩ => (pts_nil (X := X)).run pins s σ H Q I (k as S H true (On.refl _ _ _) z.st q)⟩⟩
theorem dts_one {c : Expr} {t : TTD} (h : DT CT E X c t) : DTs CT E X [c] t := ⟨pts_one h.pt⟩
end

/-! ### [elt for target in iter if ..] -/
abbrev noX : XQ := fun _ _ => False
theorem exOk_no {CT : TTs} {as : List Addr} {S : Store} {H : Hp} : ExOk CT E0 as S H noX := fun _ _ _ _ _ _ _ _ _ _ _ h => h
/-- the new list is a cell: number S1.length -/
def lcIn (g : TGD) (tt : TTD) (te : TED) (vs : List Nat) (ρ : Env) (it : ItD) (S1 : Store) (Q : D → Store → Prop) : Prop := ∃ Pv : Nat → Store → Prop, Pv 0 (S1 ++ [.lst []]) ∧ (∀ i S, Pv i S → it.g S) ∧
  (∀ i d S, it.items[i]? = some d → Pv i S → g d noX (wipeD ρ vs) S fun ρ2 S2 => tt noX ρ2 S2 fun b S3 =>
    if b = true then te noX ρ2 S3 fun y S4 => ∃ acc, S4[S1.length]? = some (.lst acc) ∧ acc.length < sizeLine ∧ Pv (i + 1) (S4.set S1.length (.lst (acc ++ [y]))) else Pv (i + 1) S3) ∧
  ∀ S, Pv it.items.length S → Q (.m S1.length) S
theorem lc_core {CT : TTs} {g : TGD} {tt : TTD} {te : TED} {vs : List Nat} {σ : L2.St} {ρ : Env} {as1 : List Addr} {S1 : Store} {H1 : Hp} {it : ItD} {J : It} {Qd : D → Store → Prop} {Q : VK} (s1 : StOk CT as1 S1 H1) (en1 : EnvOk as1 (Live as1 S1) H1 σ ρ) (fol : Fol CT as1 S1 H1 J it)
    (q : lcIn g tt te vs ρ it S1 Qd) (k : KE CT as1 S1 H1 Qd Q) (D : Addr) (hD : H1 D = none) :
    ∃ W : Nat → Nat → Hp → Prop, (∃ m, W 0 m (upd H1 D (.lst []))) ∧ ∀ i m H, W i m H →
      (J.stop i H ∧ Q (.ref D) H) ∨ (J.go i H ∧ ∃ Nx : Hp → Prop, (∀ H', Nx H' → ∃ m', m' < m ∧ W (i + 1) m' H') ∧ ∀ x H', J.yld i H x H' → liftGw CT E0 vs g x (L2.wipe σ vs) H' fun σ2 H2 => L2.wipe σ2 vs = L2.wipe σ vs ∧ liftT CT E0 tt σ2 H2 fun b H3 =>
        if b = true then lift CT E0 te σ2 H3 fun y H4 => ∃ acc, H4 D = some (.lst acc) ∧ acc.length < sizeLine ∧ Nx (upd H4 D (.lst (acc ++ [y]))) else Nx H3) := by
  obtain ⟨Pv, p0, pg, ph, pn⟩ := q
  obtain ⟨s2, o2⟩ := s1.cellNew (o := .lst []) (c := .lst []) hD fun _ => ⟨[], upd_same, .nil⟩
  have hDn : (as1 ++ [D])[S1.length]? = some D := by rw [← s1.len, List.getElem?_append_right (Nat.le_refl _)]; simp
  have en2 : EnvOk (as1 ++ [D]) (Live (as1 ++ [D]) (S1 ++ [.lst []])) (upd H1 D (.lst [])) σ ρ := o2.env en1
  refine ⟨fun i m H' => m = it.items.length - i ∧ i ≤ it.items.length ∧ ∃ as' S', On (as1 ++ [D]) (S1 ++ [.lst []]) (upd H1 D (.lst [])) as' S' H' ∧ StOk CT as' S' H' ∧ Pv i S',
    ⟨_, rfl, Nat.zero_le _, _, _, On.refl _ _ _, s2, p0⟩, ?_⟩
  rintro i m H3 ⟨rfl, hi, as3, S3, o3, s3, p3⟩
  obtain ⟨f1, f2⟩ := fol i as3 S3 H3 (o2.trans o3) s3 (pg i S3 p3)
  by_cases hlt : i < it.items.length
  · obtain ⟨hgo, hy⟩ := f1 _ (List.getElem?_eq_getElem hlt)
    refine .inr ⟨hgo, fun H' => ∃ as' S', On (as1 ++ [D]) (S1 ++ [.lst []]) (upd H1 D (.lst [])) as' S' H' ∧ StOk CT as' S' H' ∧ Pv (i + 1) S', fun H' ⟨as', S', o', s', p'⟩ => ⟨_, by omega, rfl, hlt, as', S', o', s', p'⟩, fun x H4 hyx => ?_⟩
    obtain ⟨o4, s4, r4⟩ := hy x H4 hyx
    have o34 := o3.trans o4
    refine ⟨as3, S3, wipeD ρ vs, noX, _, _, ⟨s4, (o34.env en2).wipe vs, exOk_no⟩, r4, ph i _ S3 (List.getElem?_eq_getElem hlt) p3, fun as5 S5 H5 σ5 ρ5 o5 s5 en5 w5 q5 => ?_⟩
    have w5' : L2.wipe σ5 vs = L2.wipe σ vs := by
      rw [w5]
      have : ∀ (us ws : List Nat) (σ : L2.St), (∀ u ∈ us, u ∈ ws) → L2.wipe (L2.wipe σ us) ws = L2.wipe σ ws := by
        intro us
        induction us with
        | nil => intro ws σ _; rfl
        | cons u us ih =>
          intro ws σ h
          show L2.wipe ((L2.wipe σ us).set u none) ws = L2.wipe σ ws
          rw [wipe_set _ _ _ ws (h u (by simp)), ih ws σ fun v hv => h v (by simp [hv])]
      exact this vs vs σ fun _ h => h
    refine ⟨w5', as5, S5, ρ5, noX, _, ⟨s5, en5, exOk_no⟩, q5, fun as6 S6 H6 b o6 s6 q6 => ?_⟩
    have o36 := (o34.trans o5).trans o6
    cases b with
    | false => exact ⟨as6, S6, o36, s6, q6⟩
    | true =>
      refine ⟨as6, S6, ρ5, noX, _, ⟨s6, o6.env en5, exOk_no⟩, q6, fun as7 S7 H7 d y o7 s7 r7 ⟨acc, hacc, hz, q7⟩ => ?_⟩
      have o37 := o36.trans o7
      have hD7 := o37.pre _ _ hDn
      obtain ⟨xs, h1, h2⟩ := s7.cell _ _ _ hD7 hacc
      have hx : xs.length < sizeLine := by rw [← Paired.length h2]; exact hz
      refine ⟨xs, h1, hx, ?_⟩
      obtain ⟨s8, o8⟩ := s7.cellSet (o := .lst (xs ++ [y])) (c' := .lst (acc ++ [d])) hD7 hacc True.intro fun o => ⟨_, upd_same, Paired.snoc (o.reps h2) (o.rep r7)⟩
      exact ⟨as7, _, o37.trans o8, s8, q7⟩
  · have e : i = it.items.length := by omega
    subst e
    have o13 := o2.trans o3
    exact .inl ⟨f2 (Nat.le_refl _), k as3 S3 H3 (.m S1.length) (.ref D) o13 s3 ⟨D, o3.pre _ _ hDn, rfl⟩ (pn S3 p3)⟩


def dLcM (wi : TID) (g : TGD) (tt : TTD) (te : TED) (vs : List Nat) : TED := fun X ρ S Q => wi X ρ S fun it S1 => lcIn g tt te vs ρ it S1 Q
theorem tLcM_of {CT : TTs} {E : XK} {wi : TID} {g : TGD} {tt : TTD} {te : TED} {vs : List Nat} {σ H as S ρ Xq Qd Q} (z : Zt CT E σ H as S ρ Xq) (q : dLcM wi g tt te vs Xq ρ S Qd) (k : KE CT as S H Qd Q) :
    tLc (liftI CT E wi) (liftGw CT E0 vs g) (liftT CT E0 tt) (lift CT E0 te) vs σ H Q :=
  ⟨as, S, ρ, Xq, _, z, q, fun as1 S1 H1 it J o1 s1 fol q1 D hD => lc_core s1 (o1.env z.en) fol q1 (k.on o1) D hD⟩
/-- a tree: the new list is given up as a cell -/
def lcTr (g : TGD) (tt : TTD) (te : TED) (vs : List Nat) (ρ : Env) (it : ItD) (S1 : Store) (Q : D → Store → Prop) : Prop := ∃ Pv : Nat → List T → Store → Prop, Pv 0 [] S1 ∧
  (∀ i acc S, Pv i acc S → S.length = S1.length ∧ ClosedS S1.length S ∧ it.g (S ++ [.lst (acc.map .t)])) ∧
  (∀ i d acc S, it.items[i]? = some d → Pv i acc S → g d noX (wipeD ρ vs) (S ++ [.lst (acc.map .t)]) fun ρ2 S2 => tt noX ρ2 S2 fun b S3 =>
    if b = true then te noX ρ2 S3 fun y S4 => ∃ t S', y = .t t ∧ S4 = S' ++ [.lst (acc.map .t)] ∧ acc.length < sizeLine ∧ Pv (i + 1) (acc ++ [t]) S' else ∃ S', S3 = S' ++ [.lst (acc.map .t)] ∧ Pv (i + 1) acc S') ∧
  ∀ acc S, Pv it.items.length acc S → Q (.t (.lst acc)) S
def dLc (wi : TID) (g : TGD) (tt : TTD) (te : TED) (vs : List Nat) : TED := fun X ρ S Q => wi X ρ S fun it S1 => lcTr g tt te vs ρ it S1 Q
theorem On.takeGe {as as' : List Addr} {S S' : Store} {H H' : Hp} (o : On as S H as' S' H') {n : Nat} (hn : as.length ≤ n) : On as S H (as'.take n) (S'.take n) H' :=
  ⟨⟨o.ext.keep, fun b l => o.ext.live b (live_take l), o.ext.dom⟩, fun i a e => by
    have hi : i < as.length := (List.getElem?_eq_some_iff.mp e).1
    rw [List.getElem?_take_of_lt (by omega)]
    exact o.pre i a e⟩
theorem frzL_map {n : Nat} {S : Store} {f : Nat} : ∀ ts : List T, frzL n S f (ts.map .t) = some ts
  | [] => by unfold frzL; rfl
  | t :: r => by
    show frzL n S f (.t t :: r.map .t) = _
    unfold frzL
    rw [frzL_map r]
    unfold frz
    rfl
theorem get_last {α : Type} {l : List α} {x : α} {n : Nat} (h : l.length = n) : (l ++ [x])[n]? = some x := by
  rw [← h, List.getElem?_append_right (Nat.le_refl _)]; simp
theorem set_last {α : Type} {l : List α} {x y : α} {n : Nat} (h : l.length = n) : (l ++ [x]).set n y = l ++ [y] := by
  rw [← h, List.set_append_right _ _ (Nat.le_refl _)]; simp
theorem lc_coreT {CT : TTs} {g : TGD} {tt : TTD} {te : TED} {vs : List Nat} {σ : L2.St} {ρ : Env} {as1 : List Addr} {S1 : Store} {H1 : Hp} {it : ItD} {J : It} {Qd : D → Store → Prop} {Q : VK} (s1 : StOk CT as1 S1 H1) (en1 : EnvOk as1 (Live as1 S1) H1 σ ρ) (fol : Fol CT as1 S1 H1 J it)
    (q : lcTr g tt te vs ρ it S1 Qd) (k : KE CT as1 S1 H1 Qd Q) (D : Addr) (hD : H1 D = none) :
    ∃ W : Nat → Nat → Hp → Prop, (∃ m, W 0 m (upd H1 D (.lst []))) ∧ ∀ i m H, W i m H →
      (J.stop i H ∧ Q (.ref D) H) ∨ (J.go i H ∧ ∃ Nx : Hp → Prop, (∀ H', Nx H' → ∃ m', m' < m ∧ W (i + 1) m' H') ∧ ∀ x H', J.yld i H x H' → liftGw CT E0 vs g x (L2.wipe σ vs) H' fun σ2 H2 => L2.wipe σ2 vs = L2.wipe σ vs ∧ liftT CT E0 tt σ2 H2 fun b H3 =>
        if b = true then lift CT E0 te σ2 H3 fun y H4 => ∃ acc, H4 D = some (.lst acc) ∧ acc.length < sizeLine ∧ Nx (upd H4 D (.lst (acc ++ [y]))) else Nx H3) := by
  obtain ⟨Pv, p0, pg, ph, pn⟩ := q
  obtain ⟨s2, o2⟩ := s1.cellNew (o := .lst []) (c := .lst []) hD fun _ => ⟨[], upd_same, .nil⟩
  have hDn : (as1 ++ [D])[S1.length]? = some D := by rw [← s1.len, List.getElem?_append_right (Nat.le_refl _)]; simp
  have en2 : EnvOk (as1 ++ [D]) (Live (as1 ++ [D]) (S1 ++ [.lst []])) (upd H1 D (.lst [])) σ ρ := o2.env en1
  refine ⟨fun i m H' => m = it.items.length - i ∧ i ≤ it.items.length ∧ ∃ as' S' acc, On (as1 ++ [D]) (S1 ++ [.lst []]) (upd H1 D (.lst [])) as' (S' ++ [.lst (acc.map .t)]) H' ∧ StOk CT as' (S' ++ [.lst (acc.map .t)]) H' ∧ Pv i acc S',
    ⟨_, rfl, Nat.zero_le _, _, S1, [], On.refl _ _ _, s2, p0⟩, ?_⟩
  rintro i m H3 ⟨rfl, hi, as3, S3, acc, o3, s3, p3⟩
  obtain ⟨hl3, cl3, g3⟩ := pg i acc S3 p3
  obtain ⟨f1, f2⟩ := fol i as3 _ H3 (o2.trans o3) s3 g3
  by_cases hlt : i < it.items.length
  · obtain ⟨hgo, hy⟩ := f1 _ (List.getElem?_eq_getElem hlt)
    refine .inr ⟨hgo, fun H' => ∃ as' S' acc, On (as1 ++ [D]) (S1 ++ [.lst []]) (upd H1 D (.lst [])) as' (S' ++ [.lst (acc.map .t)]) H' ∧ StOk CT as' (S' ++ [.lst (acc.map .t)]) H' ∧ Pv (i + 1) acc S', fun H' ⟨as', S', acc', o', s', p'⟩ => ⟨_, by omega, rfl, hlt, as', S', acc', o', s', p'⟩, fun x H4 hyx => ?_⟩
    obtain ⟨o4, s4, r4⟩ := hy x H4 hyx
    have o34 := o3.trans o4
    refine ⟨as3, _, wipeD ρ vs, noX, _, _, ⟨s4, (o34.env en2).wipe vs, exOk_no⟩, r4, ph i _ acc S3 (List.getElem?_eq_getElem hlt) p3, fun as5 S5 H5 σ5 ρ5 o5 s5 en5 w5 q5 => ?_⟩
    have w5' : L2.wipe σ5 vs = L2.wipe σ vs := by
      rw [w5]
      have : ∀ (us ws : List Nat) (σ : L2.St), (∀ u ∈ us, u ∈ ws) → L2.wipe (L2.wipe σ us) ws = L2.wipe σ ws := by
        intro us
        induction us with
        | nil => intro ws σ _; rfl
        | cons u us ih =>
          intro ws σ h
          show L2.wipe ((L2.wipe σ us).set u none) ws = L2.wipe σ ws
          rw [wipe_set _ _ _ ws (h u (by simp)), ih ws σ fun v hv => h v (by simp [hv])]
      exact this vs vs σ fun _ h => h
    refine ⟨w5', as5, S5, ρ5, noX, _, ⟨s5, en5, exOk_no⟩, q5, fun as6 S6 H6 b o6 s6 q6 => ?_⟩
    have o36 := (o34.trans o5).trans o6
    cases b with
    | false =>
      obtain ⟨S', e, p⟩ := q6
      subst e
      exact ⟨as6, S', acc, o36, s6, p⟩
    | true =>
      refine ⟨as6, S6, ρ5, noX, _, ⟨s6, o6.env en5, exOk_no⟩, q6, fun as7 S7 H7 d y o7 s7 r7 ⟨t, S', ed, e7, hz, q7⟩ => ?_⟩
      subst ed e7
      have o37 := o36.trans o7
      have hD7 := o37.pre _ _ hDn
      obtain ⟨hl7, _, _⟩ := pg _ _ _ q7
      have hacc : (S' ++ [Cell.lst (acc.map .t)])[S1.length]? = some (.lst (acc.map .t)) := get_last hl7
      obtain ⟨xs, h1, h2⟩ := s7.cell _ _ _ hD7 hacc
      have hx : xs.length < sizeLine := by rw [← Paired.length h2, List.length_map]; exact hz
      refine ⟨xs, h1, hx, ?_⟩
      obtain ⟨s8, o8⟩ := s7.cellSet (o := .lst (xs ++ [y])) (c' := .lst (acc.map .t ++ [.t t])) hD7 hacc True.intro fun o => ⟨_, upd_same, Paired.snoc (o.reps h2) (o.rep r7)⟩
      rw [set_last hl7, show acc.map DL.D.t ++ [DL.D.t t] = (acc ++ [t]).map DL.D.t by simp] at s8 o8
      exact ⟨as7, _, _, o37.trans o8, s8, q7⟩
  · have e : i = it.items.length := by omega
    subst e
    have o13 := o2.trans o3
    refine .inl ⟨f2 (Nat.le_refl _), ?_⟩
    have ot := o13.takeGe (n := S1.length) (by rw [s1.len]; exact Nat.le_refl _)
    have et : (S3 ++ [Cell.lst (acc.map .t)]).take S1.length = S3 := by rw [← hl3]; simp
    have cl : ClosedS S1.length ((S3 ++ [Cell.lst (acc.map .t)]).take S1.length) := by rw [et]; exact cl3
    have st := s3.take cl
    have hD3 := o3.pre _ _ hDn
    have rr := frz_ok (n := S1.length) s3 1 (.m S1.length) (.lst acc) (.ref D) (by
      unfold frz
      rw [get_last hl3]
      show (if S1.length ≤ S1.length then (frzL S1.length (S3 ++ [Cell.lst (acc.map .t)]) 0 (acc.map .t)).map T.lst else none) = some (T.lst acc)
      rw [if_pos (Nat.le_refl _), frzL_map]
      rfl) ⟨D, hD3, rfl⟩
    rw [et] at ot st rr
    exact k _ S3 H3 (.t (.lst acc)) (.ref D) ot st rr (pn acc S3 p3)
theorem tLc_of {CT : TTs} {E : XK} {wi : TID} {g : TGD} {tt : TTD} {te : TED} {vs : List Nat} {σ H as S ρ Xq Qd Q} (z : Zt CT E σ H as S ρ Xq) (q : dLc wi g tt te vs Xq ρ S Qd) (k : KE CT as S H Qd Q) :
    tLc (liftI CT E wi) (liftGw CT E0 vs g) (liftT CT E0 tt) (lift CT E0 te) vs σ H Q :=
  ⟨as, S, ρ, Xq, _, z, q, fun as1 S1 H1 it J o1 s1 fol q1 D hD => lc_coreT s1 (o1.env z.en) fol q1 (k.on o1) D hD⟩
section
variable {CT : TTs} {E : XK} {X : Cx}
theorem de_lc {e : Expr} {wi : TID} {g : TGD} {tt : TTD} {te : TED} {vs : List Nat} (h : PE X e (tLc (liftI CT E wi) (liftGw CT E0 vs g) (liftT CT E0 tt) (lift CT E0 te) vs)) : DE CT E X e (dLc wi g tt te vs) :=
  .of h fun σ H as S ρ Xq Qd Q z q k => tLc_of z q k
theorem de_lcM {e : Expr} {wi : TID} {g : TGD} {tt : TTD} {te : TED} {vs : List Nat} (h : PE X e (tLc (liftI CT E wi) (liftGw CT E0 vs g) (liftT CT E0 tt) (lift CT E0 te) vs)) : DE CT E X e (dLcM wi g tt te vs) :=
  .of h fun σ H as S ρ Xq Qd Q z q k => tLcM_of z q k
theorem ds_setLc {st : Stmt} {wi : TID} {g : TGD} {tt : TTD} {te : TED} {vs : List Nat} {i : Nat} (h : PS X st (tAsg (tLc (liftI CT E wi) (liftGw CT E0 vs g) (liftT CT E0 tt) (lift CT E0 te) vs) (gName i))) : DS CT E X st (sAsg (dLc wi g tt te vs) (gVar i)) :=
  .of h fun σ H as S ρ De D z q k => tLc_of (Qd := fun d S1 => gVar i d De.ex ρ S1 De.nx) z q fun as1 S1 H1 d y o1 s1 r q1 => k.nx as1 S1 H1 _ _ o1 s1 ((o1.env z.en).set r) q1
theorem ds_setLcM {st : Stmt} {wi : TID} {g : TGD} {tt : TTD} {te : TED} {vs : List Nat} {i : Nat} (h : PS X st (tAsg (tLc (liftI CT E wi) (liftGw CT E0 vs g) (liftT CT E0 tt) (lift CT E0 te) vs) (gName i))) : DS CT E X st (sAsg (dLcM wi g tt te vs) (gVar i)) :=
  .of h fun σ H as S ρ De D z q k => tLcM_of (Qd := fun d S1 => gVar i d De.ex ρ S1 De.nx) z q fun as1 S1 H1 d y o1 s1 r q1 => k.nx as1 S1 H1 _ _ o1 s1 ((o1.env z.en).set r) q1
end
end DL
set_option Elab.async false
set_option linter.all false
set_option maxRecDepth 100000
/-! DL5: operators, built-ins over data -/
namespace DL
open PySem PySem.Spec PyProof.Rows L2

abbrev D.int (i : Int) : D := .t (.v (.int i))
abbrev D.bl (b : Bool) : D := .t (.v (.bl b))
abbrev D.str (x : Str) : D := .t (.v (.str x))
abbrev D.non : D := .t (.v .non)
abbrev T.int (i : Int) : T := .v (.int i)
abbrev T.bl (b : Bool) : T := .v (.bl b)
abbrev T.str (x : Str) : T := .v (.str x)
abbrev T.non : T := .v .non
theorem Paired.app {α β : Type} {F : α → β → Prop} {l₁ : List α} {l₂ : List β} {m₁ : List α} {m₂ : List β} (a : Paired F l₁ l₂) (b : Paired F m₁ m₂) : Paired F (l₁ ++ m₁) (l₂ ++ m₂) := by
  induction a with
  | nil => exact b
  | cons r t ih => exact .cons r ih
section
variable {CT : TTs} {E : XK} {X : Cx}
/-! ### ints -/
def oI (C : Int → Int → Prop) (g : Int → Int → V) : R2D := fun x y S Q => ∃ i j, x = .int i ∧ y = .int j ∧ C i j ∧ Q (.t (.v (g i j))) S
def oI0 (g : Int → Int → V) : R2D := fun x y S Q => ∃ i j, x = .int i ∧ y = .int j ∧ Q (.t (.v (g i j))) S
theorem br_I {C : Int → Int → Prop} {g : Int → Int → V} : Br2 CT (rI C g) (oI C g) := fun as S H x y dx dy Qd Q st rx ry ⟨i, j, e1, e2, c, q⟩ k => by
  subst e1 e2
  exact ⟨i, j, rx, ry, c, k.sc st q⟩
theorem br_I0 {g : Int → Int → V} : Br2 CT (rI0 g) (oI0 g) := fun as S H x y dx dy Qd Q st rx ry ⟨i, j, e1, e2, q⟩ k => by
  subst e1 e2
  exact ⟨i, j, rx, ry, k.sc st q⟩
theorem br_or {r r' : R2} {o o' : R2D} (h : Br2 CT r o) (h' : Br2 CT r' o') : Br2 CT (fun x y H Q => r x y H Q ∨ r' x y H Q) (fun x y S Q => o x y S Q ∨ o' x y S Q) := fun as S H x y dx dy Qd Q st rx ry q k =>
  q.elim (fun q => .inl (h as S H x y dx dy Qd Q st rx ry q k)) fun q => .inr (h' as S H x y dx dy Qd Q st rx ry q k)
def CPowW (i j : Int) : Prop := 0 ≤ j ∧ (Builtin.Int.intBits i : Int) * j ≤ 2 ^ 27
theorem op_powW : OpR X (binaryOp .Pow) (rI CPowW fun i j => .int (i ^ j.toNat)) := opI fun _ _ _ _ _ _ _ hc q => pow_int hc.1 hc.2 q
def uI (g : Int → V) : R1D := fun x S Q => ∃ i, x = .int i ∧ Q (.t (.v (g i))) S
theorem br_U {g : Int → V} : Br1 CT (rU g) (uI g) := fun as S H x dx Qd Q st rx ⟨i, e1, q⟩ k => by
  subst e1
  exact ⟨i, rx, k.sc st q⟩
/-! ### lists -/
/-- xs + ys: a tree -/
def oCat : R2D := fun x y S Q => ∃ xs ys ts, seqL S x = some xs ∧ seqL S y = some ys ∧ xs.length + ys.length ≤ sizeLine ∧ asTs (xs ++ ys) = some ts ∧ Q (.t (.lst ts)) S
theorem br_cat : Br2 CT rCat oCat := fun as S H x y dx dy Qd Q st rx ry ⟨xs, ys, ts, e1, e2, hl, ht, q⟩ k => by
  obtain ⟨a, us, rfl, h1, h2⟩ := seqL_ok st rx e1
  obtain ⟨b, ws, rfl, h3, h4⟩ := seqL_ok st ry e2
  exact ⟨a, b, us, ws, rfl, rfl, h1, h3, by rw [← Paired.length h2, ← Paired.length h4]; exact hl, fun p hp => new_lst st (repL_of ht (Paired.app h2 h4)) k hp q⟩
/-- .. a cell -/
def oCatM : R2D := fun x y S Q => ∃ xs ys, seqL S x = some xs ∧ seqL S y = some ys ∧ xs.length + ys.length ≤ sizeLine ∧ Q (.m S.length) (S ++ [.lst (xs ++ ys)])
theorem br_catM : Br2 CT rCat oCatM := fun as S H x y dx dy Qd Q st rx ry ⟨xs, ys, e1, e2, hl, q⟩ k => by
  obtain ⟨a, us, rfl, h1, h2⟩ := seqL_ok st rx e1
  obtain ⟨b, ws, rfl, h3, h4⟩ := seqL_ok st ry e2
  exact ⟨a, b, us, ws, rfl, rfl, h1, h3, by rw [← Paired.length h2, ← Paired.length h4]; exact hl, fun p hp => new_cell st (Paired.app h2 h4) k hp q⟩
/-- xs * k -/
def oRep : R2D := fun x y S Q => ∃ xs j ts, seqL S x = some xs ∧ y = .int j ∧ -(2 ^ 63) ≤ j ∧ j < 2 ^ 63 ∧ xs.length * j.toNat ≤ sizeLine ∧ asTs (List.replicate j.toNat xs).flatten = some ts ∧ Q (.t (.lst ts)) S
/-- + of ints, of lists -/
def oAdd : R2D := fun x y S Q => oI0 (fun i j => .int (i + j)) x y S Q ∨ oCat x y S Q
theorem br_add : Br2 CT (fun x y H Q => rI0 (fun i j => .int (i + j)) x y H Q ∨ rCat x y H Q) oAdd := br_or br_I0 br_cat
theorem op_addA : OpR X (binaryOp .Add) (fun x y H Q => rI0 (fun i j => .int (i + j)) x y H Q ∨ rCat x y H Q) := op_add.or op_cat
theorem op_mulA : OpR X (binaryOp .Mult) (fun x y H Q => rI CMulW (fun i j => .int (i * j)) x y H Q ∨ rRep x y H Q) := op_mulW.or op_rep
def oMul : R2D := fun x y S Q => oI CMulW (fun i j => .int (i * j)) x y S Q ∨ oRep x y S Q
theorem Paired.flat {α β : Type} {F : α → β → Prop} {xs : List α} {ys : List β} (h : Paired F xs ys) : ∀ n : Nat, Paired F (List.replicate n xs).flatten (List.replicate n ys).flatten
  | 0 => .nil
  | n + 1 => by
    rw [List.replicate_succ, List.replicate_succ, List.flatten_cons, List.flatten_cons]
    exact Paired.app h (Paired.flat h n)
theorem br_rep : Br2 CT rRep oRep := fun as S H x y dx dy Qd Q st rx ry ⟨xs, j, ts, e1, e2, h0, h1, hl, ht, q⟩ k => by
  subst e2
  obtain ⟨a, us, rfl, h2, h3⟩ := seqL_ok st rx e1
  exact ⟨a, j, us, rfl, ry, h2, h0, h1, by rw [← Paired.length h3]; exact hl, fun p hp => new_lst st (repL_of ht (Paired.flat h3 j.toNat)) k hp q⟩
theorem br_mul : Br2 CT (fun x y H Q => rI CMulW (fun i j => .int (i * j)) x y H Q ∨ rRep x y H Q) oMul := br_or br_I br_rep
/-! ### index, slices -/
def seqA (S : Store) (d : D) : Option (List D) := match seqL S d with
  | some ds => some ds
  | none => seqT S d
theorem seqA_ok {as S H d x ds} (st : StOk CT as S H) (r : RepD as (Live as S) H d x) (e : seqA S d = some ds) : (∃ a xs, x = .ref a ∧ H a = some (.lst xs) ∧ RepDs as (Live as S) H ds xs) ∨ (∃ a xs, x = .ref a ∧ H a = some (.tup xs) ∧ RepDs as (Live as S) H ds xs) := by
  unfold seqA at e
  cases q : seqL S d with
  | some es => rw [q] at e; cases e; exact .inl (seqL_ok st r q)
  | none => rw [q] at e; exact .inr (seqT_ok st r e)
def oIx : R2D := fun x y S Q => ∃ ds i d, seqA S x = some ds ∧ y = .int i ∧ atI ds i = some d ∧ Q d S
theorem atI_rep {as : List Addr} {L : Addr → Prop} {H : Hp} {ds : List D} {xs : List V} {i : Int} {d : D} (r : RepDs as L H ds xs) (e : atI ds i = some d) : ∃ y, atI xs i = some y ∧ RepD as L H d y := by
  unfold atI at e ⊢
  rw [← Paired.length r]
  cases q : ixN ds.length i with
  | none => rw [q] at e; cases e
  | some j =>
    rw [q] at e
    have e : ds[j]? = some d := e
    obtain ⟨y, h1, h2⟩ := repDs_get r e
    exact ⟨y, h1, h2⟩
theorem br_ix {K : PySem.W.Frag} : Br2 CT (rIx K) oIx := fun as S H x y dx dy Qd Q st rx ry ⟨ds, i, d, e1, e2, e3, q⟩ k => by
  subst e2
  obtain rfl : y = .int i := ry
  rcases seqA_ok st rx e1 with ⟨a, xs, rfl, h1, h2⟩ | ⟨a, xs, rfl, h1, h2⟩
  · obtain ⟨v, e4, r⟩ := atI_rep h2 e3
    exact .inl ⟨a, xs, i, v, rfl, rfl, .of h1, e4, k.here st r q⟩
  · obtain ⟨v, e4, r⟩ := atI_rep h2 e3
    exact .inr (.inl ⟨a, xs, i, v, rfl, rfl, .of h1, e4, k.here st r q⟩)
theorem de_ix {a b : Expr} {ta tb : TED} {pos : Pos} (ha : DE CT E X a ta) (hb : DE CT E X b tb) (hs : PlainIx b := by exact fun _ _ => rfl) : DE CT E X (.Subscript a b pos) (dOp oIx ta tb) :=
  .of (pe_ix ix_seq ha.pe hb.pe hs) fun σ H as S ρ Xq Qd Q z q k => tOp_of br_ix z q k
def cutG {α : Type} (xs : List α) (lo hi : Option Int) : List α := (xs.drop (HT.sIx xs.length 0 lo)).take (HT.sIx xs.length xs.length hi - HT.sIx xs.length 0 lo)
theorem Paired.drop' {α β : Type} {F : α → β → Prop} : ∀ {l₁ : List α} {l₂ : List β} (n : Nat), Paired F l₁ l₂ → Paired F (l₁.drop n) (l₂.drop n)
  | _, _, 0, h => h
  | _, _, n + 1, .nil => .nil
  | _, _, n + 1, .cons _ t => Paired.drop' n t
theorem Paired.take' {α β : Type} {F : α → β → Prop} : ∀ {l₁ : List α} {l₂ : List β} (n : Nat), Paired F l₁ l₂ → Paired F (l₁.take n) (l₂.take n)
  | _, _, 0, h => .nil
  | _, _, n + 1, .nil => .nil
  | _, _, n + 1, .cons r t => .cons r (Paired.take' n t)
theorem cut_rep {as : List Addr} {L : Addr → Prop} {H : Hp} {ds : List D} {xs : List V} (r : RepDs as L H ds xs) (lo hi : Option Int) : RepDs as L H (cutG ds lo hi) (cutV xs lo hi) := by
  unfold cutG cutV
  rw [Paired.length r]
  exact Paired.take' _ (Paired.drop' _ r)
abbrev TOD := XQ → Env → Store → (Option Int → Store → Prop) → Prop
def dNoPart : TOD := fun _ _ S Q => Q none S
def dPart (t : TED) : TOD := fun X ρ S Q => t X ρ S fun d S1 => ∃ i, d = .int i ∧ Q (some i) S1
def liftO (CT : TTs) (E : XK) (t : TOD) : TO := fun σ H Q => ∃ as S ρ X Qd, Zt CT E σ H as S ρ X ∧ t X ρ S Qd ∧ ∀ as' S' H' o, On as S H as' S' H' → StOk CT as' S' H' → Qd o S' → Q o H'
structure DO (CT : TTs) (E : XK) (X : Cx) (e : Option Expr) (t : TOD) : Prop where
  po : PO X e (liftO CT E t)
theorem do_none : DO CT E X none dNoPart := ⟨⟨fun pins s σ H Q I ⟨as, S, ρ, Xq, Qd, z, q, k⟩ => (po_none (X := X)).run pins s σ H Q I (k as S H none (On.refl _ _ _) z.st q)⟩⟩
theorem do_some {e : Expr} {t : TED} (h : DE CT E X e t) : DO CT E X (some e) (dPart t) := ⟨⟨fun pins s σ H Q I ⟨as, S, ρ, Xq, Qd, z, q, k⟩ => (po_some h.pe).run pins s σ H Q I
  ⟨as, S, ρ, Xq, _, z, q, fun as1 S1 H1 d y o1 s1 r ⟨i, e, q1⟩ => by
    subst e
    exact ⟨i, r, k as1 S1 H1 _ o1 s1 q1⟩⟩⟩⟩
/-- xs[lo:hi]: a tree -/
def dSl (te : TED) (tl th : TOD) : TED := fun X ρ S Q => te X ρ S fun d S1 => tl X ρ S1 fun lo S2 => th X ρ S2 fun hi S3 => ∃ ds ts, asTs (cutG ds lo hi) = some ts ∧ ((seqL S3 d = some ds ∧ Q (.t (.lst ts)) S3) ∨ (seqT S3 d = some ds ∧ Q (.t (.tup ts)) S3))
/-- .. a cell, of a list -/
def dSlM (te : TED) (tl th : TOD) : TED := fun X ρ S Q => te X ρ S fun d S1 => tl X ρ S1 fun lo S2 => th X ρ S2 fun hi S3 => ∃ ds, seqL S3 d = some ds ∧ Q (.m S3.length) (S3 ++ [.lst (cutG ds lo hi)])
def rSlB (K : PySem.W.Frag) : V → Option Int → Option Int → Hp → VK → Prop := fun x lo hi H Q => rSlL K x lo hi H Q ∨ rSlA K x lo hi H Q
theorem sl_both : SlR X (rSlB X.K) := sl_list.or sl_tupA
theorem tSl_of {t : TED} {tl th : TOD} {rd : D → Option Int → Option Int → Store → (D → Store → Prop) → Prop} {rh : V → Option Int → Option Int → Hp → VK → Prop}
    (br : ∀ as S H x d lo hi Qd Q, StOk CT as S H → RepD as (Live as S) H d x → rd d lo hi S Qd → KE CT as S H Qd Q → rh x lo hi H Q) {σ H as S ρ Xq Qd Q} (z : Zt CT E σ H as S ρ Xq)
    (q : t Xq ρ S fun d S1 => tl Xq ρ S1 fun lo S2 => th Xq ρ S2 fun hi S3 => rd d lo hi S3 Qd) (k : KE CT as S H Qd Q) : tSl rh (lift CT E t) (liftO CT E tl) (liftO CT E th) σ H Q :=
  ⟨as, S, ρ, Xq, _, z, q, fun as1 S1 H1 d x o1 s1 r q1 => ⟨as1, S1, ρ, Xq, _, z.on o1 s1, q1, fun as2 S2 H2 lo o2 s2 q2 => ⟨as2, S2, ρ, Xq, _, z.on (o1.trans o2) s2, q2, fun as3 S3 H3 hi o3 s3 q3 =>
    br as3 S3 H3 x d lo hi Qd Q s3 ((o2.trans o3).rep r) q3 (k.on ((o1.trans o2).trans o3))⟩⟩⟩
theorem de_sl {e : Expr} {lo hi : Option Expr} {p2 pos : Pos} {t : TED} {tl th : TOD} (he : DE CT E X e t) (hl : DO CT E X lo tl) (hh : DO CT E X hi th) : DE CT E X (.Subscript e (.Slice lo hi none p2) pos) (dSl t tl th) :=
  .of (pe_slice sl_both he.pe hl.po hh.po) fun σ H as S ρ Xq Qd Q z q k => tSl_of (rd := fun d lo hi S3 Qd => ∃ ds ts, asTs (cutG ds lo hi) = some ts ∧ ((seqL S3 d = some ds ∧ Qd (.t (.lst ts)) S3) ∨ (seqT S3 d = some ds ∧ Qd (.t (.tup ts)) S3)))
    (fun as S H x d lo hi Qd Q st r ⟨ds, ts, ht, q⟩ k => by
      rcases q with ⟨hd, q⟩ | ⟨hd, q⟩
      · obtain ⟨a, xs, rfl, h1, h2⟩ := seqL_ok st r hd
        exact .inl ⟨a, xs, rfl, .of h1, fun p hp => new_lst st (repL_of ht (cut_rep h2 lo hi)) k hp q⟩
      · obtain ⟨a, xs, rfl, h1, h2⟩ := seqT_ok st r hd
        refine .inr ⟨a, xs, rfl, .of h1, fun ⟨w1, w2⟩ => ?_, fun _ p hp => new_tup st (repL_of ht (cut_rep h2 lo hi)) k hp q⟩
        -- the whole of it
        have e : cutG ds lo hi = ds := by
          unfold cutG
          rw [Paired.length h2, w1, w2, List.drop_zero, Nat.sub_zero, ← Paired.length h2]
          exact List.take_length
        rw [e] at ht
        cases d with
        | t u =>
          cases u with
          | tup us =>
            have hd : some (us.map D.t) = some ds := hd
            cases hd
            rw [asTs_map] at ht
            cases ht
            exact k.here st r q
          | _ => cases hd
        | m i =>
          have hd : (S[i]?).bind cellT = some ds := hd
          cases hc : S[i]? with
          | none => rw [hc] at hd; cases hd
          | some c =>
            rw [hc] at hd
            have hd : cellT c = some ds := hd
            cases c with
            | tup es =>
              cases hd
              obtain ⟨b, hb, e2⟩ := r
              obtain ⟨ys, h3, h4⟩ := st.cell i b _ hb hc
              cases e2
              rw [h1] at h3
              cases h3
              refine k as S H (.t (.tup ts)) (.ref a) (On.refl _ _ _) st ⟨a, xs, rfl, fun l => ?_, h1, repL_of ht h4⟩ q
              exact (st.live_iff hb hc).mp l
            | fz u =>
              cases u with
              | tup us =>
                cases hd
                rw [asTs_map] at ht
                have ht := Option.some.inj ht
                subst ht
                obtain ⟨b, hb, e2⟩ := r
                have ok := st.cell i b _ hb hc
                rw [e2]
                exact k as S H (.t (.tup us)) (.ref b) (On.refl _ _ _) st ok.2 q
              | _ => cases hd
            | _ => cases hd) z q k
theorem de_slM {e : Expr} {lo hi : Option Expr} {p2 pos : Pos} {t : TED} {tl th : TOD} (he : DE CT E X e t) (hl : DO CT E X lo tl) (hh : DO CT E X hi th) : DE CT E X (.Subscript e (.Slice lo hi none p2) pos) (dSlM t tl th) :=
  .of (pe_slice sl_both he.pe hl.po hh.po) fun σ H as S ρ Xq Qd Q z q k => tSl_of (rd := fun (d : D) (lo hi : Option Int) (S3 : Store) (Qd : D → Store → Prop) => ∃ ds : List D, seqL S3 d = some ds ∧ Qd (D.m S3.length) (S3 ++ [Cell.lst (cutG ds lo hi)]))
    (fun as S H x d lo hi Qd Q st r ⟨ds, hd, q⟩ k => by
      obtain ⟨a, xs, rfl, h1, h2⟩ := seqL_ok st r hd
      exact .inl ⟨a, xs, rfl, .of h1, fun p hp => new_cell st (cut_rep h2 lo hi) k hp q⟩) z q k
/-- xs[::-1] -/
def dRev (te : TED) : TED := fun X ρ S Q => te X ρ S fun d S1 => ∃ ds ts, seqL S1 d = some ds ∧ asTs ds.reverse = some ts ∧ Q (.t (.lst ts)) S1
theorem Paired.rev {α β : Type} {F : α → β → Prop} {l₁ : List α} {l₂ : List β} (h : Paired F l₁ l₂) : Paired F l₁.reverse l₂.reverse := by
  induction h with
  | nil => exact .nil
  | cons r t ih => rw [List.reverse_cons, List.reverse_cons]; exact Paired.snoc ih r
theorem de_rev {e : Expr} {t : TED} {k : Nat} {p1 p2 p3 pos : Pos} (he : DE CT E X e t) : DE CT E X (.Subscript e (.Slice none none (some (.UnaryOp .USub (.Constant (.int 1) k p1) p2)) p3) pos) (dRev t) :=
  .of (pe_revL he.pe) fun σ H as S ρ Xq Qd Q z q k => ⟨as, S, ρ, Xq, _, z, q, fun as1 S1 H1 d x o1 s1 r ⟨ds, ts, hd, ht, q1⟩ => by
    obtain ⟨a, xs, rfl, h1, h2⟩ := seqL_ok s1 r hd
    exact ⟨a, xs, rfl, .of h1, fun p hp => new_lst s1 (repL_of ht (Paired.rev h2)) (k.on o1) hp q1⟩⟩
/-! ### equality of data -/
mutual
def T.py : T → Option PyData
  | .v .non => some .none
  | .v (.bl b) => some (.bool b)
  | .v (.int i) => some (.int i)
  | .v (.str x) => some (.str x)
  | .v _ => none
  | .lst ts => (T.pys ts).map .list
  | .tup ts => (T.pys ts).map .tuple
  | _ => none
def T.pys : List T → Option (List PyData)
  | [] => some []
  | t :: r => match T.py t, T.pys r with
    | some p, some ps => some (p :: ps)
    | _, _ => none
end
mutual
theorem py_dp {K : PySem.W.Frag} {L : Addr → Prop} {H : Hp} : ∀ (t : T) (y : V) (p : PyData), t.py = some p → Rep L H t y → Dp K H y p
  | .v x, y, p, e, r => by
    obtain rfl : y = x := r
    unfold T.py at e
    cases y <;> cases e
    · exact .non
    · exact .bl _
    · exact .int _
    · exact .str _
  | .lst ts, y, p, e, ⟨a, xs, e1, _, h, r⟩ => by
    subst e1
    unfold T.py at e
    cases q : T.pys ts with
    | none => rw [q] at e; cases e
    | some ps => rw [q] at e; cases e; exact .lst (.of h) (pys_dp ts xs ps q r)
  | .tup ts, y, p, e, ⟨a, xs, e1, _, h, r⟩ => by
    subst e1
    unfold T.py at e
    cases q : T.pys ts with
    | none => rw [q] at e; cases e
    | some ps => rw [q] at e; cases e; exact .tup (.of h) (pys_dp ts xs ps q r)
  | .dct _, y, p, e, r => by unfold T.py at e; cases e
  | .ins _ _, y, p, e, r => by unfold T.py at e; cases e
theorem pys_dp {K : PySem.W.Frag} {L : Addr → Prop} {H : Hp} : ∀ (ts : List T) (ys : List V) (ps : List PyData), T.pys ts = some ps → RepL L H ts ys → DpAll K H ys ps
  | [], ys, ps, e, r => by
    obtain rfl : ys = [] := r
    unfold T.pys at e
    cases e
    exact .nil
  | t :: ts, ys, ps, e, ⟨y, zs, e1, h1, h2⟩ => by
    subst e1
    unfold T.pys at e
    cases q1 : T.py t with
    | none => rw [q1] at e; cases e
    | some p =>
      cases q2 : T.pys ts with
      | none => rw [q1, q2] at e; cases e
      | some qs => rw [q1, q2] at e; cases e; exact .cons (py_dp t y p q1 h1) (pys_dp ts zs qs q2 h2)
end
/-- a value as it can be read now -/
def D.tree (S : Store) (d : D) : Option T := frz 0 S (S.length + 1) d
def D.py (S : Store) (d : D) : Option PyData := (d.tree S).bind T.py
theorem D.tree_ok {as S H d y t} (st : StOk CT as S H) (r : RepD as (Live as S) H d y) (e : d.tree S = some t) : Rep (fun _ => False) H t y :=
  Rep.weak (fun _ h => h.elim) (frz_ok st _ d t y e r)
theorem D.py_ok {K : PySem.W.Frag} {as S H d y p} (st : StOk CT as S H) (r : RepD as (Live as S) H d y) (e : d.py S = some p) : Dp K H y p := by
  unfold D.py at e
  cases q : d.tree S with
  | none => rw [q] at e; cases e
  | some t => rw [q] at e; exact py_dp t y p e (D.tree_ok st r q)
def oEq : R2D := fun x y S Q => ∃ p q, x.py S = some p ∧ y.py S = some q ∧ SeqAt.shaped p = true ∧ SeqAt.shaped q = true ∧ Q (.bl (PyData.eqv p q)) S
def oNe : R2D := fun x y S Q => ∃ p q, x.py S = some p ∧ y.py S = some q ∧ SeqAt.shaped p = true ∧ SeqAt.shaped q = true ∧ Q (.bl (!PyData.eqv p q)) S
theorem br_eq {K : PySem.W.Frag} : Br2 CT (rEqD K) oEq := fun as S H x y dx dy Qd Q st rx ry ⟨p, q, e1, e2, h1, h2, g⟩ k => ⟨p, q, D.py_ok st rx e1, D.py_ok st ry e2, h1, h2, k.sc st g⟩
theorem br_ne {K : PySem.W.Frag} : Br2 CT (rNeD K) oNe := fun as S H x y dx dy Qd Q st rx ry ⟨p, q, e1, e2, h1, h2, g⟩ k => ⟨p, q, D.py_ok st rx e1, D.py_ok st ry e2, h1, h2, k.sc st g⟩
/-- x in a list of data; x in a tuple of scalars -/
def oIn (neg : Bool) : R2D := fun x y S Q => (∃ p ps, x.py S = some p ∧ y.py S = some (.list ps) ∧ SeqAt.shaped p = true ∧ SeqAt.shaped (.list ps) = true ∧ Q (.bl (if neg then !(ps.any fun z => PyData.eqv z p) else ps.any fun z => PyData.eqv z p)) S) ∨
  ∃ v vs, x = .t (.v v) ∧ seqT S y = some (vs.map fun u => .t (.v u)) ∧ flatV v = true ∧ vs.all flatV = true ∧ Q (.bl (if neg then !inV v vs else inV v vs)) S
theorem repDs_sc {as : List Addr} {L : Addr → Prop} {H : Hp} : ∀ {vs xs : List V}, RepDs as L H (vs.map fun u => .t (.v u)) xs → xs = vs
  | [], _, .nil => rfl
  | v :: vs, _, .cons r t => by rw [repDs_sc t, show _ = v from r]
theorem br_in {K : PySem.W.Frag} : Br2 CT (fun x y H Q => rInD K x y H Q ∨ rIn K false x y H Q) (oIn false) := fun as S H x y dx dy Qd Q st rx ry q k => by
  rcases q with ⟨p, ps, e1, e2, h1, h2, g⟩ | ⟨v, vs, e1, e2, h1, h2, g⟩
  · exact .inl ⟨p, ps, D.py_ok st rx e1, D.py_ok st ry e2, h1, h2, k.sc st g⟩
  · subst e1
    obtain rfl : x = v := rx
    obtain ⟨a, xs, rfl, h3, h4⟩ := seqT_ok st ry e2
    obtain rfl := repDs_sc h4
    exact .inr ⟨a, xs, rfl, .inr (.of h3), h1, h2, k.sc st g⟩
theorem br_notIn {K : PySem.W.Frag} : Br2 CT (fun x y H Q => rNotInD K x y H Q ∨ rIn K true x y H Q) (oIn true) := fun as S H x y dx dy Qd Q st rx ry q k => by
  rcases q with ⟨p, ps, e1, e2, h1, h2, g⟩ | ⟨v, vs, e1, e2, h1, h2, g⟩
  · exact .inl ⟨p, ps, D.py_ok st rx e1, D.py_ok st ry e2, h1, h2, k.sc st g⟩
  · subst e1
    obtain rfl : x = v := rx
    obtain ⟨a, xs, rfl, h3, h4⟩ := seqT_ok st ry e2
    obtain rfl := repDs_sc h4
    exact .inr ⟨a, xs, rfl, .inr (.of h3), h1, h2, k.sc st g⟩
theorem op_inA (hu : X.A.units + 65 < cLine) : OpR X (compareOp .In) (fun x y H Q => rInD X.K x y H Q ∨ rIn X.K false x y H Q) := (op_inD hu).or op_in_seq
theorem op_notInA (hu : X.A.units + 65 < cLine) : OpR X (compareOp .NotIn) (fun x y H Q => rNotInD X.K x y H Q ∨ rIn X.K true x y H Q) := (op_notInD hu).or op_notIn_seq
/-! ### is None, is True -/
def oIsN (neg : Bool) : R2D := fun x y S Q => y = .non ∧ ((∃ v, x = .t (.v v) ∧ Q (.bl (if neg then !decide (v = .non) else decide (v = .non))) S) ∨ (∃ t, x = .t t ∧ (∀ v, t ≠ .v v) ∧ Q (.bl neg) S) ∨ ∃ i, x = .m i ∧ Q (.bl neg) S)
theorem rep_ref {L : Addr → Prop} {H : Hp} {t : T} {y : V} (r : Rep L H t y) (h : ∀ v, t ≠ .v v) : ∃ a, y = .ref a := by
  cases t with
  | v x => exact absurd rfl (h x)
  | lst ts => obtain ⟨a, _, e, _⟩ := r; exact ⟨a, e⟩
  | tup ts => obtain ⟨a, _, e, _⟩ := r; exact ⟨a, e⟩
  | dct ts => obtain ⟨a, _, e, _⟩ := r; exact ⟨a, e⟩
  | ins C ts => obtain ⟨a, _, _, e, _⟩ := r; exact ⟨a, e⟩
theorem br_isN : Br2 CT (fun x y H Q => y = .non ∧ Q (.bl (decide (x = .non))) H) (oIsN false) := fun as S H x y dx dy Qd Q st rx ry ⟨e, q⟩ k => by
  subst e
  refine ⟨ry, ?_⟩
  rcases q with ⟨v, rfl, q⟩ | ⟨t, rfl, ht, q⟩ | ⟨i, rfl, q⟩
  · obtain rfl : x = v := rx
    exact k.sc st q
  · obtain ⟨a, rfl⟩ := rep_ref rx ht
    exact k.sc st q
  · obtain ⟨a, _, rfl⟩ := rx
    exact k.sc st q
theorem br_notN : Br2 CT (fun x y H Q => y = .non ∧ Q (.bl (!decide (x = .non))) H) (oIsN true) := fun as S H x y dx dy Qd Q st rx ry ⟨e, q⟩ k => by
  subst e
  refine ⟨ry, ?_⟩
  rcases q with ⟨v, rfl, q⟩ | ⟨t, rfl, ht, q⟩ | ⟨i, rfl, q⟩
  · obtain rfl : x = v := rx
    exact k.sc st q
  · obtain ⟨a, rfl⟩ := rep_ref rx ht
    exact k.sc st q
  · obtain ⟨a, _, rfl⟩ := rx
    exact k.sc st q
def oIsB (neg : Bool) : R2D := fun x y S Q => ∃ a b, x = .bl a ∧ y = .bl b ∧ Q (.bl (if neg then !decide (a = b) else decide (a = b))) S
theorem br_isB : Br2 CT rIsB (oIsB false) := fun as S H x y dx dy Qd Q st rx ry ⟨a, b, e1, e2, q⟩ k => by
  subst e1 e2
  exact ⟨a, b, rx, ry, k.sc st q⟩
theorem br_notB : Br2 CT rNotB (oIsB true) := fun as S H x y dx dy Qd Q st rx ry ⟨a, b, e1, e2, q⟩ k => by
  subst e1 e2
  exact ⟨a, b, rx, ry, k.sc st q⟩
end
end DL
set_option Elab.async false
set_option linter.all false
set_option maxRecDepth 100000
/-! DL6: built-in functions, methods, stores over data -/
namespace DL
open PySem PySem.Spec PyProof.Rows L2

section
variable {CT : TTs} {E : XK} {X : Cx}
theorem repDs1 {as : List Addr} {L : Addr → Prop} {H : Hp} {d : D} {xs : List V} (r : RepDs as L H [d] xs) : ∃ y, xs = [y] ∧ RepD as L H d y := by
  cases r with
  | cons r1 r2 => cases r2; exact ⟨_, rfl, r1⟩
theorem repDs2 {as : List Addr} {L : Addr → Prop} {H : Hp} {d e : D} {xs : List V} (r : RepDs as L H [d, e] xs) : ∃ y z, xs = [y, z] ∧ RepD as L H d y ∧ RepD as L H e z := by
  cases r with
  | cons r1 r2 =>
    cases r2 with
    | cons r3 r4 => cases r4; exact ⟨_, _, rfl, r1, r3⟩
/-! ### len -/
def cLen : RAD := fun ds S Q => ∃ d, ds = [d] ∧ ((∃ xs, seqA S d = some xs ∧ Q (.int xs.length) S) ∨ ∃ x : Str, d = .str x ∧ x.length ≤ sizeLine ∧ Q (.int x.length) S)
theorem br_len {K : PySem.W.Frag} : BrA CT (fun xs H Q => ∃ x n, xs = [x] ∧ LenV K x H n ∧ Q (.int n) H) cLen := fun as S H xs ds Qd Q st r ⟨d, e, q⟩ k => by
  subst e
  obtain ⟨y, rfl, ry⟩ := repDs1 r
  rcases q with ⟨zs, e, q⟩ | ⟨x, rfl, hx, q⟩
  · rcases seqA_ok st ry e with ⟨a, us, rfl, h1, h2⟩ | ⟨a, us, rfl, h1, h2⟩
    · exact ⟨.ref a, us.length, rfl, .inl ⟨us, .of h1, rfl⟩, by rw [← Paired.length h2]; exact k.sc st q⟩
    · exact ⟨.ref a, us.length, rfl, .inr ⟨us, .of h1, rfl⟩, by rw [← Paired.length h2]; exact k.sc st q⟩
  · obtain rfl : y = .str x := ry
    exact ⟨.str x, x.length, rfl, ⟨hx, rfl⟩, k.sc st q⟩
/-! ### list(..), tuple(..) -/
def cList : RAD := fun ds S Q => ∃ d xs ts, ds = [d] ∧ seqA S d = some xs ∧ asTs xs = some ts ∧ Q (.t (.lst ts)) S
def cListM : RAD := fun ds S Q => ∃ d xs, ds = [d] ∧ seqA S d = some xs ∧ Q (.m S.length) (S ++ [.lst xs])
def cTuple : RAD := fun ds S Q => ∃ d xs ts, ds = [d] ∧ ((seqL S d = some xs ∧ asTs xs = some ts ∧ Q (.t (.tup ts)) S) ∨ (d = .t (.tup ts) ∧ Q d S))
theorem br_list {K : PySem.W.Frag} : BrA CT (fun xs H Q => ∃ p ys, xs = [.ref p] ∧ (SqL K H p ys ∨ SqT K H p ys) ∧ ∀ l, H l = none → Q (.ref l) (upd H l (.lst ys))) cList := fun as S H xs ds Qd Q st r ⟨d, zs, ts, e, e2, ht, q⟩ k => by
  subst e
  obtain ⟨y, rfl, ry⟩ := repDs1 r
  rcases seqA_ok st ry e2 with ⟨a, us, rfl, h1, h2⟩ | ⟨a, us, rfl, h1, h2⟩
  · exact ⟨a, us, rfl, .inl (.of h1), fun p hp => new_lst st (repL_of ht h2) k hp q⟩
  · exact ⟨a, us, rfl, .inr (.of h1), fun p hp => new_lst st (repL_of ht h2) k hp q⟩
theorem br_listM {K : PySem.W.Frag} : BrA CT (fun xs H Q => ∃ p ys, xs = [.ref p] ∧ (SqL K H p ys ∨ SqT K H p ys) ∧ ∀ l, H l = none → Q (.ref l) (upd H l (.lst ys))) cListM := fun as S H xs ds Qd Q st r ⟨d, zs, e, e2, q⟩ k => by
  subst e
  obtain ⟨y, rfl, ry⟩ := repDs1 r
  rcases seqA_ok st ry e2 with ⟨a, us, rfl, h1, h2⟩ | ⟨a, us, rfl, h1, h2⟩
  · exact ⟨a, us, rfl, .inl (.of h1), fun p hp => new_cell st h2 k hp q⟩
  · exact ⟨a, us, rfl, .inr (.of h1), fun p hp => new_cell st h2 k hp q⟩
theorem br_tuple {K : PySem.W.Frag} : BrA CT (fun xs H Q => ∃ p ys, xs = [.ref p] ∧ ((SqL K H p ys ∧ ∀ l, H l = none → Q (.ref l) (upd H l (.tup ys))) ∨ (SqT K H p ys ∧ Q (.ref p) H))) cTuple := fun as S H xs ds Qd Q st r ⟨d, zs, ts, e, q⟩ k => by
  subst e
  obtain ⟨y, rfl, ry⟩ := repDs1 r
  rcases q with ⟨e2, ht, q⟩ | ⟨rfl, q⟩
  · obtain ⟨a, us, rfl, h1, h2⟩ := seqL_ok st ry e2
    exact ⟨a, us, rfl, .inl ⟨.of h1, fun p hp => new_tup st (repL_of ht h2) k hp q⟩⟩
  · have ry' := ry
    obtain ⟨a, us, rfl, _, h1, h2⟩ := ry
    exact ⟨a, us, rfl, .inr ⟨.of h1, k.here st ry' q⟩⟩
/-! ### all, any, sum, max, min -/
def cAll : RAD := fun ds S Q => ∃ (d : D) (bs : List Bool), ds = [d] ∧ seqL S d = some (bs.map .bl) ∧ Q (.bl (bs.all id)) S
def cAny : RAD := fun ds S Q => ∃ (d : D) (bs : List Bool), ds = [d] ∧ seqL S d = some (bs.map .bl) ∧ Q (.bl (bs.any id)) S
theorem repDs_bl {as : List Addr} {L : Addr → Prop} {H : Hp} : ∀ {bs : List Bool} {xs : List V}, RepDs as L H (bs.map .bl) xs → xs = bs.map V.bl
  | [], _, .nil => rfl
  | b :: bs, _, .cons r t => by rw [repDs_bl t, show _ = V.bl b from r]; rfl
theorem repDs_int {as : List Addr} {L : Addr → Prop} {H : Hp} : ∀ {bs : List Int} {xs : List V}, RepDs as L H (bs.map .int) xs → xs = bs.map V.int
  | [], _, .nil => rfl
  | b :: bs, _, .cons r t => by rw [repDs_int t, show _ = V.int b from r]; rfl
theorem br_all {K : PySem.W.Frag} : BrA CT (rAll K) cAll := fun as S H xs ds Qd Q st r ⟨d, bs, e, e2, q⟩ k => by
  subst e
  obtain ⟨y, rfl, ry⟩ := repDs1 r
  obtain ⟨a, us, rfl, h1, h2⟩ := seqL_ok st ry e2
  rw [repDs_bl h2] at h1
  exact ⟨a, bs, rfl, .of h1, k.sc st q⟩
theorem br_any {K : PySem.W.Frag} : BrA CT (rAny K) cAny := fun as S H xs ds Qd Q st r ⟨d, bs, e, e2, q⟩ k => by
  subst e
  obtain ⟨y, rfl, ry⟩ := repDs1 r
  obtain ⟨a, us, rfl, h1, h2⟩ := seqL_ok st ry e2
  rw [repDs_bl h2] at h1
  exact ⟨a, bs, rfl, .of h1, k.sc st q⟩
def cSum : RAD := fun ds S Q => ∃ (d : D) (ns : List Int), ds = [d] ∧ seqL S d = some (ns.map .int) ∧ Q (.int ns.sum) S
theorem br_sum {K : PySem.W.Frag} : BrA CT (rSum K) cSum := fun as S H xs ds Qd Q st r ⟨d, bs, e, e2, q⟩ k => by
  subst e
  obtain ⟨y, rfl, ry⟩ := repDs1 r
  obtain ⟨a, us, rfl, h1, h2⟩ := seqL_ok st ry e2
  rw [repDs_int h2] at h1
  exact ⟨a, bs, rfl, .of h1, k.sc st q⟩
def cMax : RAD := fun ds S Q => ∃ (d : D) (ns : List Int), ds = [d] ∧ seqL S d = some (ns.map .int) ∧ 0 < ns.length ∧ ∀ m, m ∈ ns → (∀ y, y ∈ ns → y ≤ m) → Q (.int m) S
def cMin : RAD := fun ds S Q => ∃ (d : D) (ns : List Int), ds = [d] ∧ seqL S d = some (ns.map .int) ∧ 0 < ns.length ∧ ∀ m, m ∈ ns → (∀ y, y ∈ ns → m ≤ y) → Q (.int m) S
theorem br_max {K : PySem.W.Frag} : BrA CT (rMax K) cMax := fun as S H xs ds Qd Q st r ⟨d, bs, e, e2, h0, q⟩ k => by
  subst e
  obtain ⟨y, rfl, ry⟩ := repDs1 r
  obtain ⟨a, us, rfl, h1, h2⟩ := seqL_ok st ry e2
  rw [repDs_int h2] at h1
  exact ⟨a, bs, rfl, .of h1, h0, fun m hm hy => k.sc st (q m hm hy)⟩
theorem br_min {K : PySem.W.Frag} : BrA CT (rMin K) cMin := fun as S H xs ds Qd Q st r ⟨d, bs, e, e2, h0, q⟩ k => by
  subst e
  obtain ⟨y, rfl, ry⟩ := repDs1 r
  obtain ⟨a, us, rfl, h1, h2⟩ := seqL_ok st ry e2
  rw [repDs_int h2] at h1
  exact ⟨a, bs, rfl, .of h1, h0, fun m hm hy => k.sc st (q m hm hy)⟩
def cInt2 (g : Int → Int → Int) : RAD := fun ds S Q => ∃ i j, ds = [.int i, .int j] ∧ Q (.int (g i j)) S
theorem br_int2 {g : Int → Int → Int} : BrA CT (fun xs H Q => ∃ i j, xs = [.int i, .int j] ∧ Q (.int (g i j)) H) (cInt2 g) := fun as S H xs ds Qd Q st r ⟨i, j, e, q⟩ k => by
  subst e
  obtain ⟨y, z, rfl, ry, rz⟩ := repDs2 r
  obtain rfl : y = .int i := ry
  obtain rfl : z = .int j := rz
  exact ⟨i, j, rfl, k.sc st q⟩
def cAbs : RAD := fun ds S Q => ∃ i : Int, ds = [.int i] ∧ Q (.int (if i < 0 then -i else i)) S
theorem br_abs : BrA CT (fun xs H Q => ∃ i, xs = [.int i] ∧ Q (.int (if i < 0 then -i else i)) H) cAbs := fun as S H xs ds Qd Q st r ⟨i, e, q⟩ k => by
  subst e
  obtain ⟨y, rfl, ry⟩ := repDs1 r
  obtain rfl : y = .int i := ry
  exact ⟨i, rfl, k.sc st q⟩
def cInt : RAD := fun ds S Q => ∃ i : Int, ds = [.int i] ∧ Q (.int i) S
theorem br_int : BrA CT (fun xs H Q => (∃ i, xs = [.int i] ∧ Q (.int i) H) ∨ ∃ k, xs = [.bl k] ∧ Q (.int (if k then 1 else 0)) H) cInt := fun as S H xs ds Qd Q st r ⟨i, e, q⟩ k => by
  subst e
  obtain ⟨y, rfl, ry⟩ := repDs1 r
  obtain rfl : y = .int i := ry
  exact .inl ⟨i, rfl, k.sc st q⟩
/-! ### isinstance -/
inductive Ty | non | bool | int | str | list | tuple | dict | own (C : Addr)
def Ty.nm : Ty → String
  | .non => "NoneType" | .bool => "bool" | .int => "int" | .str => "str" | .list => "list" | .tuple => "tuple" | .dict => "dict" | .own _ => "object"
def Ty.val : Ty → Value
  | .own C => .ref C
  | t => .type t.nm
def tyT : T → Option Ty
  | .v .non => some .non
  | .v (.bl _) => some .bool
  | .v (.int _) => some .int
  | .v (.str _) => some .str
  | .v _ => none
  | .lst _ => some .list
  | .tup _ => some .tuple
  | .dct _ => some .dict
  | .ins C _ => some (.own C)
def tyC : Cell → Option Ty
  | .lst _ => some .list
  | .dct _ => some .dict
  | .ins C _ => some (.own C)
  | .tup _ => some .tuple
  | .strmI => some .list
  | .strm _ => some .list
  | .fz t => tyT t
def tyD (S : Store) : D → Option Ty
  | .t x => tyT x
  | .m i => (S[i]?).bind tyC
/-- what is asked of an own class: its facts as an instance's type, against built-in types -/
structure OwnC (K : PySem.W.Frag) (C : Addr) : Prop where
  cl : Cls K C
  ha : PySem.W.findIn K (.ref C) "__class__" = some (some (.builtin "object.__class__"))
  hn : PySem.W.specialIn K (.builtin "object.__class__") "__get__" = some (some (.builtin "getset_descriptor.__get__"))
  htk : PySem.W.takesIn K (.builtin "object.__class__") = some true
  hm : PySem.W.mroIn K C (.type "object") = some true
  no : ∀ n ∈ (["int", "bool", "str", "list", "tuple", "dict"] : List String), PySem.W.kitOne K (.ref C) (.type n) = some false
  on : ∀ n ∈ (["NoneType", "int", "bool", "str", "list", "tuple", "dict"] : List String), PySem.W.kitOne K (.type n) (.ref C) = some false
def OwnOk (K : PySem.W.Frag) (Cs : List Addr) : Prop := ∀ C ∈ Cs, OwnC K C
theorem tyOf_T {K : PySem.W.Frag} {Cs : List Addr} (hk : OwnOk K Cs) {L : Addr → Prop} {H : Hp} {t : T} {y : V} {ty : Ty} (r : Rep L H t y) (e : tyT t = some ty) (hC : ∀ C, ty = .own C → C ∈ Cs) : TyX K H y ty.val := by
  cases t with
  | v x =>
    obtain rfl : y = x := r
    cases y <;> cases e
    · exact .base .non
    · exact .base (.bl _)
    · exact .base (.int _)
    · exact .base (.str _)
  | lst ts => cases e; obtain ⟨a, xs, rfl, _, h, _⟩ := r; exact .base (.lst h)
  | tup ts => cases e; obtain ⟨a, xs, rfl, _, h, _⟩ := r; exact .base (.tup h)
  | dct ts => cases e; obtain ⟨a, xs, rfl, _, h, _⟩ := r; exact .base (.dK h)
  | ins C ts =>
    cases e
    obtain ⟨a, dx, xs, rfl, _, h, _⟩ := r
    have o := hk C (hC C rfl)
    exact .base (.ins h o.cl o.ha o.hn o.htk o.hm)
theorem tyOf_D {K : PySem.W.Frag} {Cs : List Addr} (hk : OwnOk K Cs) {as S H d y} {ty : Ty} (st : StOk CT as S H) (r : RepD as (Live as S) H d y) (e : tyD S d = some ty) (hC : ∀ C, ty = .own C → C ∈ Cs) : TyX K H y ty.val := by
  cases d with
  | t x => exact tyOf_T hk r e hC
  | m i =>
    obtain ⟨a, ha, rfl⟩ := r
    obtain ⟨c, hc, ok⟩ := st.mem ha
    have e : (S[i]?).bind tyC = some ty := e
    rw [hc] at e
    have e : tyC c = some ty := e
    cases c with
    | lst ds => cases e; obtain ⟨xs, h, _⟩ := ok; exact .base (.lst h)
    | dct ds => cases e; obtain ⟨xs, h, _⟩ := ok; exact .base (.dK h)
    | ins C ds =>
      cases e
      obtain ⟨dx, xs, h, _⟩ := ok
      have o := hk C (hC C rfl)
      exact .base (.ins h o.cl o.ha o.hn o.htk o.hm)
    | tup ds => cases e; obtain ⟨xs, h, _⟩ := ok; exact .base (.tup h)
    | strmI => cases e; obtain ⟨ns, h, _⟩ := ok; exact .base (.lst h)
    | strm b => cases e; obtain ⟨c, x, y, z, _, h, _⟩ := ok; exact .base (.lst h)
    | fz t => exact tyOf_T hk ok.2 (show tyT t = some ty from e) hC
/-- the answer of isinstance for one class -/
def isa (Cs : List Addr) : Ty → V → Option Bool
  | .own C, .ref C' => if C ∈ Cs ∧ C = C' then some true else none
  | .own C, .ty n => if C ∈ Cs ∧ n ∈ (["int", "bool", "str", "list", "tuple", "dict"] : List String) then some false else none
  | t, .ref C' => if C' ∈ Cs then some false else none
  | t, .ty n => kitB t.nm n
  | _, _ => none
theorem isa_ok {K : PySem.W.Frag} {Cs : List Addr} (hk : OwnOk K Cs) {t : Ty} {c : V} {b : Bool} (e : isa Cs t c = some b) : ∃ u, ClsV c u ∧ PySem.W.kitOne K t.val u = some b := by
  have bt : ∀ (t : Ty), (∀ C, t ≠ .own C) → isa Cs t c = some b → ∃ u, ClsV c u ∧ PySem.W.kitOne K t.val u = some b := by
    intro t ht e
    have hv : t.val = .type t.nm := by cases t <;> first | rfl | exact absurd rfl (ht _)
    have hn : t.nm ∈ (["NoneType", "int", "bool", "str", "list", "tuple", "dict"] : List String) := by cases t <;> first | exact absurd rfl (ht _) | simp [Ty.nm]
    rw [hv]
    cases c with
    | ty n =>
      refine ⟨_, .ty n, kit_ty ?_⟩
      cases t <;> first | exact e | exact absurd rfl (ht _)
    | ref C' =>
      refine ⟨_, .own C', ?_⟩
      have e : (if C' ∈ Cs then some false else none) = some b := by cases t <;> first | exact e | exact absurd rfl (ht _)
      by_cases h : C' ∈ Cs
      · rw [if_pos h] at e
        cases e
        exact (hk C' h).on _ hn
      · rw [if_neg h] at e; cases e
    | _ => cases t <;> first | cases e | exact absurd rfl (ht _)
  cases t with
  | own C =>
    cases c with
    | ref C' =>
      have e : (if C ∈ Cs ∧ C = C' then some true else none) = some b := e
      by_cases h : C ∈ Cs ∧ C = C'
      · rw [if_pos h] at e
        cases e
        obtain ⟨_, rfl⟩ := h
        refine ⟨_, .own C, ?_⟩
        show PySem.W.kitOne K (.ref C) (.ref C) = some true
        unfold PySem.W.kitOne
        rw [if_pos (by simp)]
      · rw [if_neg h] at e; cases e
    | ty n =>
      have e : (if C ∈ Cs ∧ n ∈ (["int", "bool", "str", "list", "tuple", "dict"] : List String) then some false else none) = some b := e
      by_cases h : C ∈ Cs ∧ n ∈ (["int", "bool", "str", "list", "tuple", "dict"] : List String)
      · rw [if_pos h] at e
        cases e
        exact ⟨_, .ty n, (hk C h.1).no n h.2⟩
      · rw [if_neg h] at e; cases e
    | _ => cases e
  | _ => exact bt _ (fun C z => by cases z) e
def isaL (Cs : List Addr) (t : Ty) : List V → Option Bool
  | [] => some false
  | c :: cs => match isa Cs t c, isaL Cs t cs with
    | some b, some r => some (b || r)
    | _, _ => none
theorem isaL_ok {K : PySem.W.Frag} {Cs : List Addr} (hk : OwnOk K Cs) {t : Ty} : ∀ {cs : List V} {b : Bool}, isaL Cs t cs = some b → ∃ us, Paired ClsV cs us ∧ PySem.W.kitAny K t.val us = some b
  | [], b, e => by cases e; exact ⟨[], .nil, kitAny_nil⟩
  | c :: cs, b, e => by
    unfold isaL at e
    cases q1 : isa Cs t c with
    | none => rw [q1] at e; cases e
    | some b1 =>
      cases q2 : isaL Cs t cs with
      | none => rw [q1, q2] at e; cases e
      | some b2 =>
        rw [q1, q2] at e
        cases e
        obtain ⟨u, h1, h2⟩ := isa_ok hk q1
        obtain ⟨us, h3, h4⟩ := isaL_ok hk q2
        exact ⟨u :: us, .cons h1 h3, kitAny_cons h2 (fun hb => by rw [hb]; exact h4) fun hb => by rw [hb]; rfl⟩
theorem isa_own {Cs : List Addr} {t : Ty} {c : V} {b : Bool} (e : isa Cs t c = some b) : ∀ C, t = .own C → C ∈ Cs := fun C h => by
  subst h
  cases c with
  | ref C' =>
    have e : (if C ∈ Cs ∧ C = C' then some true else none) = some b := e
    by_cases h : C ∈ Cs ∧ C = C'
    · exact h.1
    · rw [if_neg h] at e; cases e
  | ty n =>
    have e : (if C ∈ Cs ∧ n ∈ (["int", "bool", "str", "list", "tuple", "dict"] : List String) then some false else none) = some b := e
    by_cases h : C ∈ Cs ∧ n ∈ (["int", "bool", "str", "list", "tuple", "dict"] : List String)
    · exact h.1
    · rw [if_neg h] at e; cases e
  | _ => cases e
def cIsi (Cs : List Addr) : RAD := fun ds S Q => ∃ (d : D) (ty : Ty), tyD S d = some ty ∧ ((∃ (c : V) (b : Bool), ds = [d, .t (.v c)] ∧ isa Cs ty c = some b ∧ Q (.bl b) S) ∨ ∃ (cs : List V) (b : Bool), cs ≠ [] ∧ ds = [d, .t (.tup (cs.map .v))] ∧ isaL Cs ty cs = some b ∧ Q (.bl b) S)
theorem repL_v {L : Addr → Prop} {H : Hp} : ∀ {cs xs : List V}, RepL L H (cs.map .v) xs → xs = cs
  | [], xs, h => h
  | c :: cs, xs, ⟨y, ys, e, h1, h2⟩ => by rw [e, show y = c from h1, repL_v h2]
theorem br_isi {K : PySem.W.Frag} {Cs : List Addr} (hk : OwnOk K Cs) : BrA CT (fun xs H Q => rIsi K xs H Q ∨ rIsiT K xs H Q) (cIsi Cs) := fun as S H xs ds Qd Q st r ⟨d, ty, e, q⟩ k => by
  rcases q with ⟨c, b, rfl, h, q⟩ | ⟨cs, b, hne, rfl, h, q⟩
  · obtain ⟨y, z, rfl, ry, rz⟩ := repDs2 r
    obtain rfl : z = c := rz
    obtain ⟨u, h1, h2⟩ := isa_ok hk h
    exact .inl ⟨y, z, _, u, b, rfl, h1, tyOf_D hk st ry e (isa_own h), h2, k.sc st q⟩
  · obtain ⟨y, z, rfl, ry, rz⟩ := repDs2 r
    obtain ⟨a, us, rfl, _, h1, h2⟩ := rz
    obtain rfl := repL_v h2
    obtain ⟨ws, h3, h4⟩ := isaL_ok hk h
    refine .inr ⟨y, a, us, _, ws, b, rfl, h1, h3, tyOf_D hk st ry e ?_, h4, k.sc st q⟩
    cases us with
    | nil => exact absurd rfl hne
    | cons c cs' =>
      unfold isaL at h
      cases q1 : isa Cs ty c with
      | none => rw [q1] at h; cases h
      | some b1 => exact isa_own q1
/-! ### methods of lists that are cells -/
def tyLst : D → Store → Prop := fun d S => ∃ ds, seqL S d = some ds
theorem bt_lst {K : PySem.W.Frag} : BrTy CT K "list" tyLst := fun as S H d x st r ⟨ds, e⟩ => by
  obtain ⟨a, xs, rfl, h, _⟩ := seqL_ok st r e
  exact .inl ⟨rfl, xs, .of h⟩
def mAppend : D → RAD := fun d ds S Q => ∃ i xs y, d = .m i ∧ ds = [y] ∧ S[i]? = some (.lst xs) ∧ xs.length < sizeLine ∧ Q .non (S.set i (.lst (xs ++ [y])))
theorem br_append : BrM CT rAppend mAppend := fun as S H x d xs ds Qd Q st rx r ⟨i, zs, y, e1, e2, hc, hl, q⟩ k => by
  subst e1 e2
  obtain ⟨v, rfl, rv⟩ := repDs1 r
  obtain ⟨a, ha, rfl⟩ := rx
  obtain ⟨us, h1, h2⟩ := st.cell i a _ ha hc
  refine ⟨a, us, v, rfl, rfl, h1, by rw [← Paired.length h2]; exact hl, ?_⟩
  obtain ⟨s1, o1⟩ := st.cellSet (o := .lst (us ++ [v])) (c' := .lst (zs ++ [y])) ha hc True.intro fun o => ⟨_, upd_same, Paired.snoc (o.reps h2) (o.rep rv)⟩
  exact (k.on o1).sc s1 q
def mExtend : D → RAD := fun d ds S Q => ∃ i xs y ys, d = .m i ∧ ds = [y] ∧ S[i]? = some (.lst xs) ∧ seqL S y = some ys ∧ xs.length + ys.length ≤ sizeLine ∧ Q .non (S.set i (.lst (xs ++ ys)))
theorem br_extend : BrM CT rExtend mExtend := fun as S H x d xs ds Qd Q st rx r ⟨i, zs, y, ys, e1, e2, hc, hy, hl, q⟩ k => by
  subst e1 e2
  obtain ⟨v, rfl, rv⟩ := repDs1 r
  obtain ⟨a, ha, rfl⟩ := rx
  obtain ⟨us, h1, h2⟩ := st.cell i a _ ha hc
  obtain ⟨b, ws, rfl, h3, h4⟩ := seqL_ok st rv hy
  refine ⟨a, b, us, ws, rfl, rfl, h1, h3, by rw [← Paired.length h2, ← Paired.length h4]; exact hl, ?_⟩
  obtain ⟨s1, o1⟩ := st.cellSet (o := .lst (us ++ ws)) (c' := .lst (zs ++ ys)) ha hc True.intro fun o => ⟨_, upd_same, Paired.app (o.reps h2) (o.reps h4)⟩
  exact (k.on o1).sc s1 q
theorem paired_get {as : List Addr} {L : Addr → Prop} {H : Hp} {ds : List D} {xs : List V} (r : RepDs as L H ds xs) {i : Nat} {d : D} (e : ds[i]? = some d) : ∃ y, xs[i]? = some y ∧ RepD as L H d y := repDs_get r e
theorem Paired.erase {α β : Type} {F : α → β → Prop} : ∀ {l₁ : List α} {l₂ : List β} (i : Nat), Paired F l₁ l₂ → Paired F (l₁.eraseIdx i) (l₂.eraseIdx i)
  | _, _, _, .nil => .nil
  | _, _, 0, .cons _ t => t
  | _, _, i + 1, .cons r t => .cons r (Paired.erase i t)
theorem Paired.set' {α β : Type} {F : α → β → Prop} {x : α} {y : β} (r : F x y) : ∀ {l₁ : List α} {l₂ : List β} (i : Nat), Paired F l₁ l₂ → Paired F (l₁.set i x) (l₂.set i y)
  | _, _, _, .nil => .nil
  | _, _, 0, .cons _ t => .cons r t
  | _, _, i + 1, .cons q t => .cons q (Paired.set' r i t)
def mPopAt : D → RAD := fun d ds S Q => ∃ i xs j k y, d = .m i ∧ ds = [.int j] ∧ S[i]? = some (.lst xs) ∧ -(2 ^ 63) ≤ j ∧ j < 2 ^ 63 ∧ seqIndex? j xs.length = some k ∧ xs[k]? = some y ∧ Q y (S.set i (.lst (xs.eraseIdx k)))
theorem br_popAt : BrM CT rPopAt mPopAt := fun as S H x d xs ds Qd Q st rx r ⟨i, zs, j, n, y, e1, e2, hc, h0, h1, hn, hy, q⟩ k => by
  subst e1 e2
  obtain ⟨v, rfl, rv⟩ := repDs1 r
  obtain rfl : v = .int j := rv
  obtain ⟨a, ha, rfl⟩ := rx
  obtain ⟨us, h2, h3⟩ := st.cell i a _ ha hc
  obtain ⟨w, hw, rw'⟩ := repDs_get h3 hy
  refine ⟨a, us, j, n, w, rfl, rfl, h2, h0, h1, by rw [← Paired.length h3]; exact hn, hw, ?_⟩
  obtain ⟨s1, o1⟩ := st.cellSet (o := .lst (us.eraseIdx n)) (c' := .lst (zs.eraseIdx n)) ha hc True.intro fun o => ⟨_, upd_same, Paired.erase n (o.reps h3)⟩
  exact (k.on o1).here s1 (o1.rep rw') q
def mReverse : D → RAD := fun d ds S Q => ∃ i xs, d = .m i ∧ ds = [] ∧ S[i]? = some (.lst xs) ∧ Q .non (S.set i (.lst xs.reverse))
theorem br_reverse : BrM CT rReverse mReverse := fun as S H x d xs ds Qd Q st rx r ⟨i, zs, e1, e2, hc, q⟩ k => by
  subst e1 e2
  cases r
  obtain ⟨a, ha, rfl⟩ := rx
  obtain ⟨us, h1, h2⟩ := st.cell i a _ ha hc
  refine ⟨a, us, rfl, rfl, h1, ?_⟩
  obtain ⟨s1, o1⟩ := st.cellSet (o := .lst us.reverse) (c' := .lst zs.reverse) ha hc True.intro fun o => ⟨_, upd_same, Paired.rev (o.reps h2)⟩
  exact (k.on o1).sc s1 q
/-- xs.index(x) of flat things -/
def mIndex : D → RAD := fun d ds S Q => ∃ (vs : List V) (v : V) (j : Nat) (u : V), seqL S d = some (vs.map fun u => .t (.v u)) ∧ ds = [.t (.v v)] ∧ flatV v = true ∧ vs.all flatV = true ∧ vs[j]? = some u ∧ eqV u v = true ∧ (∀ (m : Nat) w, m < j → vs[m]? = some w → eqV w v = false) ∧ Q (.int (j : Nat)) S
/-! ### xs[i] = v -/
def gSubD (to ti : TED) : TGD := fun d X ρ S Q => to X ρ S fun o S1 => ti X ρ S1 fun x S2 => ∃ i ds k j, o = .m i ∧ x = .int k ∧ S2[i]? = some (.lst ds) ∧ ixN ds.length k = some j ∧ Q ρ (S2.set i (.lst (ds.set j d)))
theorem dg_sub {e : Expr} {to ti : TED} (h : PG X e (gSub (lift CT E to) (lift CT E ti) rSetL)) : DG CT E X e (gSubD to ti) :=
  ⟨h.imp fun v σ H Q ⟨as, S, ρ, Xq, d, Qd, z, r, q, k⟩ => ⟨as, S, ρ, Xq, _, z, q, fun as1 S1 H1 o x o1 s1 ro q1 => ⟨as1, S1, ρ, Xq, _, z.on o1 s1, q1, fun as2 S2 H2 dx y o2 s2 ry ⟨i, ds, kk, j, e1, e2, hc, hj, q2⟩ => by
    subst e1 e2
    obtain rfl : y = .int kk := ry
    obtain ⟨a, ha, rfl⟩ := o2.rep ro
    obtain ⟨xs, h1, h2⟩ := s2.cell i a _ ha hc
    refine ⟨a, xs, kk, j, rfl, rfl, h1, by rw [← Paired.length h2]; exact hj, ?_⟩
    have o12 := o1.trans o2
    obtain ⟨s3, o3⟩ := s2.cellSet (o := .lst (xs.set j v)) (c' := .lst (ds.set j d)) ha hc True.intro fun o => ⟨_, upd_same, Paired.set' (o.rep (o12.rep r)) j (o.reps h2)⟩
    exact k as2 _ _ σ ρ (o12.trans o3) s3 ((o12.trans o3).env z.en) q2⟩⟩⟩
end
end DL
set_option Elab.async false
set_option linter.all false
set_option maxRecDepth 100000
/-! DL7: instances of own classes, pairs assigned, tuples of cells -/
namespace DL
open PySem PySem.Spec PyProof.Rows L2

section
variable {CT : TTs} {E : XK} {X : Cx}
/-! ### a tuple that holds cells -/
def dTupM (t : TAD) : TED := fun X ρ S Q => t X ρ S fun ds S1 => ds.length ≤ sizeLine ∧ Q (.m S1.length) (S1 ++ [.tup ds])
theorem de_tupM {es : List Expr} {x1} {pos : Pos} {t : TAD} (h : DA CT E X es t) : DE CT E X (.Tuple es x1 pos) (dTupM t) :=
  .of (pe_tup h.pa) fun σ H as S ρ Xq Qd Q z q k => ⟨as, S, ρ, Xq, _, z, q, fun as1 S1 H1 ds ys o1 s1 r ⟨hl, q1⟩ => ⟨by rw [← Paired.length r]; exact hl, fun p hp => by
    obtain ⟨s2, o2⟩ := s1.cellNew (c := .tup ds) (o := .tup ys) hp fun o => ⟨ys, upd_same, o.reps r⟩
    exact k _ _ _ (.m S1.length) _ (o1.trans o2) s2 ⟨p, by rw [← s1.len, List.getElem?_append_right (Nat.le_refl _)]; simp, rfl⟩ q1⟩⟩
/-! ### a, b = x, y -/
def sPar (i j : Nat) (t : TAD) : TSD := fun De ρ S => t De.ex ρ S fun ds S1 => ∃ d e, ds = [d, e] ∧ De.nx ((ρ.set i (some d)).set j (some e)) S1
theorem ds_par {st : Stmt} {i j : Nat} {t : TAD} (h : PS X st (tPar i j (liftA CT E t))) : DS CT E X st (sPar i j t) :=
  .of h fun σ H as S ρ De D z q k => ⟨as, S, ρ, De.ex, _, z, q, fun as1 S1 H1 ds ys o1 s1 r ⟨d, e, ed, q1⟩ => by
    subst ed
    obtain ⟨y, w, rfl, ry, rw'⟩ := repDs2 r
    exact ⟨y, w, rfl, k.nx as1 S1 H1 _ _ o1 s1 (((o1.env z.en).set ry).set rw') q1⟩⟩
def sPar3 (i j l : Nat) (t : TAD) : TSD := fun De ρ S => t De.ex ρ S fun ds S1 => ∃ d e f, ds = [d, e, f] ∧ De.nx (((ρ.set i (some d)).set j (some e)).set l (some f)) S1
theorem ds_par3 {st : Stmt} {i j l : Nat} {t : TAD} (h : PS X st (tPar3 i j l (liftA CT E t))) : DS CT E X st (sPar3 i j l t) :=
  .of h fun σ H as S ρ De D z q k => ⟨as, S, ρ, De.ex, _, z, q, fun as1 S1 H1 ds ys o1 s1 r ⟨d, e, f, ed, q1⟩ => by
    subst ed
    cases r with
    | cons r1 r2 =>
      cases r2 with
      | cons r3 r4 =>
        cases r4 with
        | cons r5 r6 =>
          cases r6
          exact ⟨_, _, _, rfl, k.nx as1 S1 H1 _ _ o1 s1 ((((o1.env z.en).set r1).set r3).set r5) q1⟩⟩
/-! ### instances -/
def cellI : Cell → Option (Addr × List (Str × D))
  | .ins C fs => some (C, fs)
  | .fz (.ins C fs) => some (C, fs.map fun p => (p.1, .t p.2))
  | _ => none
def insOf (S : Store) : D → Option (Addr × List (Str × D))
  | .t (.ins C fs) => some (C, fs.map fun p => (p.1, .t p.2))
  | .t _ => none
  | .m i => (S[i]?).bind cellI
theorem repFs_of {as : List Addr} {L : Addr → Prop} {H : Hp} : ∀ {fs : List (Str × T)} {xs : List (Str × V)}, RepF L H fs xs → RepFs as L H (fs.map fun p => (p.1, .t p.2)) xs
  | [], xs, h => by
    have h : xs = [] := h
    subst h; exact .nil
  | (k, t) :: ts, xs, ⟨y, ys, e, h1, h2⟩ => by
    subst e
    exact .cons ⟨rfl, h1⟩ (repFs_of h2)
theorem insOf_ok {as S H d x C fs} (st : StOk CT as S H) (r : RepD as (Live as S) H d x) (e : insOf S d = some (C, fs)) : ∃ a dx xs, x = .ref a ∧ H a = some (.ins C dx xs) ∧ RepFs as (Live as S) H fs xs := by
  cases d with
  | t u =>
    cases u with
    | ins C' gs =>
      cases e
      obtain ⟨a, dx, xs, e, _, h, q⟩ := r
      exact ⟨a, dx, xs, e, h, repFs_of q⟩
    | _ => cases e
  | m i =>
    obtain ⟨a, ha, e1⟩ := r
    obtain ⟨c, hc, ok⟩ := st.mem ha
    have e : (S[i]?).bind cellI = some (C, fs) := e
    rw [hc] at e
    have e : cellI c = some (C, fs) := e
    cases c with
    | ins C' es => cases e; obtain ⟨dx, xs, h1, h2⟩ := ok; exact ⟨a, dx, xs, e1, h1, h2⟩
    | fz t =>
      cases t with
      | ins C' ts =>
        cases e
        obtain ⟨_, b, dx, xs, e2, _, h, q⟩ := ok
        cases e2
        exact ⟨a, dx, xs, e1, h, repFs_of q⟩
      | _ => cases e
    | _ => cases e
theorem lookup_cons {α : Type} (f g : Str) (y : α) (fs : List (Str × α)) : ((f, y) :: fs).lookup g = if g = f then some y else fs.lookup g := by
  by_cases h : g = f
  · subst h
    simp [List.lookup]
  · have e : (g == f) = false := by simpa using h
    rw [if_neg h]
    simp [List.lookup, e]
theorem lookup_rep {as : List Addr} {L : Addr → Prop} {H : Hp} {f : Str} {fs : List (Str × D)} {xs : List (Str × V)} (r : RepFs as L H fs xs) : (∀ d, fs.lookup f = some d → ∃ y, xs.lookup f = some y ∧ RepD as L H d y) ∧ (fs.lookup f = none → xs.lookup f = none) := by
  induction r with
  | nil => exact ⟨fun d h => (nomatch h), fun _ => rfl⟩
  | @cons p q l1 l2 r1 r2 ih =>
    obtain ⟨k, d0⟩ := p
    obtain ⟨k', y0⟩ := q
    obtain ⟨rk, rd⟩ := r1
    have rk : k = k' := rk
    subst rk
    rw [lookup_cons, lookup_cons]
    by_cases h : f = k
    · rw [if_pos h, if_pos h]
      exact ⟨fun d e => by cases e; exact ⟨_, rfl, rd⟩, fun e => by cases e⟩
    · rw [if_neg h, if_neg h]
      exact ih
def putD (f : Str) (v : D) : List (Str × D) → List (Str × D)
  | [] => [(f, v)]
  | (g, x) :: r => if g = f then (g, v) :: r else (g, x) :: putD f v r
theorem put_rep {as : List Addr} {L : Addr → Prop} {H : Hp} {f : Str} {d : D} {y : V} (rd : RepD as L H d y) {fs : List (Str × D)} {xs : List (Str × V)} (r : RepFs as L H fs xs) : RepFs as L H (putD f d fs) (putF f y xs) := by
  induction r with
  | nil => exact .cons ⟨rfl, rd⟩ .nil
  | @cons p q l1 l2 r1 r2 ih =>
    obtain ⟨k, d0⟩ := p
    obtain ⟨k', y0⟩ := q
    obtain ⟨rk, rd0⟩ := r1
    have rk : k = k' := rk
    subst rk
    unfold putD putF
    by_cases h : k = f
    · rw [if_pos h, if_pos h]; exact .cons ⟨rfl, rd⟩ r2
    · rw [if_neg h, if_neg h]; exact .cons ⟨rfl, rd0⟩ ih
/-- e.f: of an instance of a class among Cs -/
def dFld (Cs : List Addr) (f : Str) (t : TED) : TED := fun X ρ S Q => t X ρ S fun d S1 => ∃ C fs v, insOf S1 d = some (C, fs) ∧ C ∈ Cs ∧ fs.lookup f = some v ∧ Q v S1
theorem de_fld {e : Expr} {f : Str} {pos : Pos} {t : TED} {Cs : List Addr} (hk : ∀ C ∈ Cs, Cls X.K C ∧ NoAttr X.K C f) (he : DE CT E X e t) (hb : attributeBase e f X.env (eval e X.env) = eval e X.env := by rfl) : DE CT E X (.Attribute e f pos) (dFld Cs f t) :=
  .of (pe_fld he.pe hb) fun σ H as S ρ Xq Qd Q z q k => ⟨as, S, ρ, Xq, _, z, q, fun as1 S1 H1 d x o1 s1 r ⟨C, fs, v, e1, hC, hl, q1⟩ => by
    obtain ⟨a, dx, xs, rfl, h1, h2⟩ := insOf_ok s1 r e1
    obtain ⟨y, h3, h4⟩ := (lookup_rep (f := f) h2).1 v hl
    exact ⟨a, C, dx, xs, y, rfl, h1, (hk C hC).1, (hk C hC).2, h3, (k.on o1).here s1 h4 q1⟩⟩
/-- o.f = e -/
def sFldD (Cs : List Addr) (f : Str) (to te : TED) : TSD := fun De ρ S => te De.ex ρ S fun y S1 => to De.ex ρ S1 fun x S2 => ∃ i C fs, x = .m i ∧ S2[i]? = some (.ins C fs) ∧ C ∈ Cs ∧ fs.length < 1000 ∧ De.nx ρ (S2.set i (.ins C (putD f y fs)))
theorem ds_fld {o e : Expr} {f : Str} {p pos : Pos} {to te : TED} {Cs : List Addr} (hk : ∀ C ∈ Cs, Cls X.K C ∧ NoAttr X.K C f) (ho : DE CT E X o to) (he : DE CT E X e te) (hs : swapsWith e (some (.Attribute o f p)) pos.line X.env = pure false := by rfl) :
    DS CT E X (.Assign [.Attribute o f p] e pos) (sFldD Cs f to te) :=
  .of (ps_fld ho.pe he.pe hs) fun σ H as S ρ De D z q k => ⟨as, S, ρ, De.ex, _, z, q, fun as1 S1 H1 d y o1 s1 r1 q1 => ⟨as1, S1, ρ, De.ex, _, z.on o1 s1, q1, fun as2 S2 H2 dx x o2 s2 r2 ⟨i, C, fs, e1, hc, hC, hl, q2⟩ => by
    subst e1
    obtain ⟨a, ha, rfl⟩ := r2
    obtain ⟨dd, xs, h1, h2⟩ := s2.cell i a _ ha hc
    refine ⟨a, C, dd, xs, rfl, h1, (hk C hC).1, (hk C hC).2, by rw [← Paired.length h2]; exact hl, ?_⟩
    obtain ⟨s3, o3⟩ := s2.cellSet (o := .ins C dd (putF f y xs)) (c' := .ins C (putD f d fs)) ha hc True.intro fun o => ⟨dd, _, upd_same, put_rep (o.rep (o2.rep r1)) (Paired.mapP h2 fun p q z => ⟨z.1, o.rep z.2⟩)⟩
    have o := (o1.trans o2).trans o3
    exact k.nx as2 _ _ σ ρ o s3 (o.env z.en) q2⟩⟩
/-- o.m(..) -/
def dMeth (C : Addr) (m : Str) (n : Nat) (ft : FT) (o : TED) (t : TAD) : TED := fun X ρ S Q => o X ρ S fun d S1 => ∃ fs, insOf S1 d = some (C, fs) ∧ fs.lookup m = none ∧ t X ρ S1 fun ds S2 => ds.length + 1 = n ∧ ft (d :: ds) S2 Q fun e => X e S2
theorem de_meth {e : Expr} {C : Addr} {m : Str} {n : Nat} {ft : FT} {o : TED} {t : TAD} (h : PE X e (tMeth C m (spD CT n ft) [] E (lift CT E o) (liftA CT E t))) : DE CT E X e (dMeth C m n ft o t) :=
  .of h fun σ H as S ρ Xq Qd Q z q k => ⟨as, S, ρ, Xq, _, z, q, fun as1 S1 H1 d x o1 s1 r ⟨fs, e1, hm, q1⟩ => by
    obtain ⟨a, dx, xs, rfl, h1, h2⟩ := insOf_ok s1 r e1
    refine ⟨a, dx, xs, rfl, h1, (lookup_rep (f := m) h2).2 hm, as1, S1, ρ, Xq, _, z.on o1 s1, q1, fun as2 S2 H2 ds ys o2 s2 r2 ⟨hl, q2⟩ => ?_⟩
    show spD CT n ft (V.ref a :: (ys ++ [])) H2 Q E
    rw [List.append_nil]
    have o12 := o1.trans o2
    exact spD_of (ds := d :: ds) s2 (.cons (o2.rep r) r2) hl q2 (k.on o12) (z.ex.on o12)⟩
theorem de_meth0 {e : Expr} {C : Addr} {m : Str} {n : Nat} {ft : FT} {o : TED} (h : PE X e (tMeth C m (spD CT n ft) [] E (lift CT E o) tNil)) : DE CT E X e (dMeth C m n ft o dNil) :=
  .of h fun σ H as S ρ Xq Qd Q z q k => ⟨as, S, ρ, Xq, _, z, q, fun as1 S1 H1 d x o1 s1 r ⟨fs, e1, hm, hl, q1⟩ => by
    obtain ⟨a, dx, xs, rfl, h1, h2⟩ := insOf_ok s1 r e1
    refine ⟨a, dx, xs, rfl, h1, (lookup_rep (f := m) h2).2 hm, ?_⟩
    show spD CT n ft [V.ref a] H1 Q E
    exact spD_of (ds := [d]) s1 (.cons r .nil) hl q1 (k.on o1) (z.ex.on o1)⟩
/-- C(..) -/
def mkD (C : Addr) (n : Nat) (ft : FT) (ds : List D) (X : XQ) (S : Store) (Q : D → Store → Prop) : Prop :=
  ds.length + 1 = n ∧ ft (.m S.length :: ds) (S ++ [.ins C []]) (fun d S2 => d = .non ∧ Q (.m S.length) S2) fun e => X e (S ++ [.ins C []])
def dMake (C : Addr) (n : Nat) (ft : FT) (t : TAD) : TED := fun X ρ S Q => t X ρ S fun ds S1 => mkD C n ft ds X S1 Q
theorem mk_of' {C : Addr} {n : Nat} {ft : FT} {ds : List D} {ys : List V} {Xq : XQ} {as S H Qd Q} (st : StOk CT as S H) (r : RepDs as (Live as S) H ds ys) (q : mkD C n ft ds Xq S Qd) (k : KE CT as S H Qd Q) (ex : ExOk CT E as S H Xq) {x dx : Addr} (hx : H x = none) (hd : H dx = none) (ne : dx ≠ x) :
    spD CT n ft (V.ref x :: ys) (upd (upd H dx (.own x)) x (.ins C dx [])) (fun v H2 => v = .non ∧ Q (.ref x) H2) E := by
  obtain ⟨hl, q⟩ := q
  obtain ⟨s1, o1⟩ := st.new (o := .own x) hd
  have hx1 : upd H dx (.own x) x = none := by rw [upd_ne (Ne.symm ne)]; exact hx
  obtain ⟨s2, o2⟩ := s1.cellNew (o := .ins C dx []) (c := .ins C []) hx1 fun _ => ⟨dx, [], upd_same, .nil⟩
  have o := o1.trans o2
  have hxn : (as ++ [x])[S.length]? = some x := by rw [← st.len, List.getElem?_append_right (Nat.le_refl _)]; simp
  exact spD_of (ds := .m S.length :: ds) (X := fun e S' => Xq e S') s2 (.cons ⟨x, hxn, rfl⟩ (o.reps r)) hl q (fun as' S' H' d y o' s' r' ⟨e1, q'⟩ => by
    subst e1
    exact ⟨r', k as' S' H' (.m S.length) (.ref x) (o.trans o') s' ⟨x, o'.pre _ _ hxn, rfl⟩ q'⟩) (ex.on o)
theorem de_make {e : Expr} {C : Addr} {n : Nat} {ft : FT} {t : TAD} (h : PE X e (tMake C (spD CT n ft) [] E (liftA CT E t))) : DE CT E X e (dMake C n ft t) :=
  .of h fun σ H as S ρ Xq Qd Q z q k => ⟨as, S, ρ, Xq, _, z, q, fun as1 S1 H1 ds ys o1 s1 r q1 => fun x dx hx hd ne => by
    show spD CT n ft (V.ref x :: (ys ++ [])) _ _ E
    rw [List.append_nil]
    exact mk_of' s1 r q1 (k.on o1) (z.ex.on o1) hx hd ne⟩
end
end DL
set_option Elab.async false
set_option linter.all false
set_option maxRecDepth 100000
/-! DL8: short words for the derivations that gen.py prints; promises by names -/
namespace DL
open PySem PySem.Spec PyProof.Rows L2

/-- no name of the module hides these -/
structure Bs (mg : Str → Option Value) : Prop where
  len : mg "len" = none
  isinstance : mg "isinstance" = none
  int : mg "int" = none
  bool : mg "bool" = none
  str : mg "str" = none
  list : mg "list" = none
  tuple : mg "tuple" = none
  dict : mg "dict" = none
  range : mg "range" = none
  enumerate : mg "enumerate" = none
  zip : mg "zip" = none
  any : mg "any" = none
  all : mg "all" = none
  abs : mg "abs" = none
  max : mg "max" = none
  min : mg "min" = none
  sum : mg "sum" = none
  sorted : mg "sorted" = none
  repr : mg "repr" = none
theorem bo_len : bootBuiltins "len" = some (.builtin "len") := by decide +kernel
theorem bo_isinstance : bootBuiltins "isinstance" = some (.builtin "isinstance") := by decide +kernel
theorem bo_int : bootBuiltins "int" = some (.type "int") := by decide +kernel
theorem bo_bool : bootBuiltins "bool" = some (.type "bool") := by decide +kernel
theorem bo_str : bootBuiltins "str" = some (.type "str") := by decide +kernel
theorem bo_list : bootBuiltins "list" = some (.type "list") := by decide +kernel
theorem bo_tuple : bootBuiltins "tuple" = some (.type "tuple") := by decide +kernel
theorem bo_dict : bootBuiltins "dict" = some (.type "dict") := by decide +kernel
theorem bo_any : bootBuiltins "any" = some (.builtin "any") := by decide +kernel
theorem bo_all : bootBuiltins "all" = some (.builtin "all") := by decide +kernel
theorem bo_abs : bootBuiltins "abs" = some (.builtin "abs") := by decide +kernel
theorem bo_max : bootBuiltins "max" = some (.builtin "max") := by decide +kernel
theorem bo_min : bootBuiltins "min" = some (.builtin "min") := by decide +kernel
theorem bo_sum : bootBuiltins "sum" = some (.builtin "sum") := by decide +kernel
theorem bo_sorted : bootBuiltins "sorted" = some (.builtin "sorted") := by decide +kernel
theorem bo_repr : bootBuiltins "repr" = some (.builtin "repr") := by decide +kernel

/-- a def of the module, by name -/
structure FnG (CT : TTs) (P : Program) (w : World) (K : PySem.W.Frag) (mg : Str → Option Value) (base : Heap) (k : Nat) (x : Str) (ps : List Str) (ft : FT) : Prop where
  ex : ∃ f fd, FnOk P w K mg base (L2.CX P w) k f fd ps (spD CT ps.length ft) ∧ Binds K fd ps [] ∧ mg x = some (.ref f) ∧ PySem.W.keepIn K (.ref f) = true
/-- a class's method -/
structure MtG (CT : TTs) (P : Program) (w : World) (K : PySem.W.Frag) (mg : Str → Option Value) (base : Heap) (k : Nat) (C : Addr) (m : Str) (ps : List Str) (ft : FT) : Prop where
  ex : ∃ f fd, FnOk P w K mg base (L2.CX P w) k f fd ps (spD CT ps.length ft) ∧ Binds K fd ps [] ∧ Cls K C ∧ Meth K C m f
/-- how a class is called -/
structure MkG (CT : TTs) (P : Program) (w : World) (K : PySem.W.Frag) (mg : Str → Option Value) (base : Heap) (k : Nat) (x : Str) (C : Addr) (ps : List Str) (ft : FT) : Prop where
  ex : ∃ f fd, FnOk P w K mg base (L2.CX P w) k f fd ps (spD CT ps.length ft) ∧ Binds K fd ps [] ∧ Mk K C f ∧ mg x = some (.ref C)

section
variable {CT : TTs} {E : XK} {X : Cx} {x : Str} {p pos apos : Pos}
theorem passM {P w K mg base N qual scope f cd A outer s H E} : Passes (L2.CX P w) (cxOf (L2.CX P w) P w K mg base N qual scope f cd A outer s H E) E := passes_call (takes_of rfl rfl rfl rfl) fun _ _ _ _ h => h
/-! ### names, constants -/
theorem de_v (i : Nat) (hN : X.N[i]? = some x := by rfl) (hv : Vis X.env.scope x := by first | exact Or.inl rfl | exact Or.inr (Or.inl rfl) | exact Or.inr (Or.inr rfl)) (hd : (x == ("__debug__" : Str)) = false := by decide)
    (hcd : (x == ("__classdict__" : Str)) = false := by decide) : DE CT E X (.Name x pos) (dVar i) := de_var (pe_var hN hv hd hcd)
theorem de_int {i : Int} {j : Nat} : DE CT E X (.Constant (.int i) j pos) (dC (.int i)) := de_c pe_int
theorem de_bool {b : Bool} {j : Nat} : DE CT E X (.Constant (.bool b) j pos) (dC (.bl b)) := de_c pe_bl
theorem de_none {j : Nat} : DE CT E X (.Constant .none j pos) (dC .non) := de_c pe_non
theorem de_str {s : Str} {j : Nat} : DE CT E X (.Constant (.str s) j pos) (dC (.str s)) := de_c pe_str
theorem de_ty {T : String} (hm : X.mg x = none) (hv : bootBuiltins x = some (.type T)) (hg : Gl X x := by rfl) (hn : x ≠ "__name__" := by decide) (hd : (x == ("__debug__" : Str)) = false := by decide) : DE CT E X (.Name x pos) (dC (.ty T)) :=
  de_c (pe_bltn hg hm hv rfl hn hd)
theorem de_cls {C : Addr} (hm : X.mg x = some (.ref C)) (hg : Gl X x := by rfl) (hd : (x == ("__debug__" : Str)) = false := by decide) : DE CT E X (.Name x pos) (dC (.ref C)) := de_c (pe_glob hg hm rfl hd)
/-! ### operators -/
theorem de_neg {a : Expr} {ta : TED} (ha : DE CT E X a ta) : DE CT E X (.UnaryOp .USub a pos) (dUn (uI fun i => .int (-i)) ta) := de_un un_neg br_U ha
theorem hu65 {k : Nat} {A : Around} (r : Room k A) : A.units + 65 < cLine := by have := r.un; omega
/-! ### calls -/
section
variable {e : Expr} {es : List Expr} {t : TAD}
theorem de_B {id : String} {rh : List V → Hp → VK → Prop} {r : RAD} (hc : CallR X (.builtin id) rh) (br : BrA CT rh r) (hm : X.mg x = none) (hv : bootBuiltins x = some (.builtin id)) (ha : DA CT E X (e :: es) t) (hg : Gl X x := by rfl) (hn : x ≠ "__name__" := by decide)
    (hdb : (x == ("__debug__" : Str)) = false := by decide) (he : starEach (e :: es) X.env = (false, eval e X.env) :: starEach es X.env := by rfl) (hpl : (backTo pos (starEach es X.env)).any (·.1) = false := by rfl) : DE CT E X (.Call (.Name x p) (e :: es) [] pos) (dCB r t) :=
  de_cb (pe_callB hc hg hm hv ha.pa hn hdb he hpl) br
theorem de_T {id : String} {rh : List V → Hp → VK → Prop} {r : RAD} (hc : CallR X (.type id) rh) (br : BrA CT rh r) (hm : X.mg x = none) (hv : bootBuiltins x = some (.type id)) (ha : DA CT E X (e :: es) t) (hg : Gl X x := by rfl) (hn : x ≠ "__name__" := by decide)
    (hdb : (x == ("__debug__" : Str)) = false := by decide) (he : starEach (e :: es) X.env = (false, eval e X.env) :: starEach es X.env := by rfl) (hpl : (backTo pos (starEach es X.env)).any (·.1) = false := by rfl) : DE CT E X (.Call (.Name x p) (e :: es) [] pos) (dCB r t) :=
  de_cb (pe_callTy hc hg hm hv ha.pa hn hdb he hpl) br
theorem de_G {k : Nat} {ps : List Str} {ft : FT} (G : FnG CT X.prog X.w X.K X.mg X.base k x ps ft) (hr : Room k X.A) (hx : Passes (L2.CX X.prog X.w) X E) (ha : DA CT E X (e :: es) t) (hg : Gl X x := by rfl)
    (hdb : (x == ("__debug__" : Str)) = false := by decide) (he : starEach (e :: es) X.env = (false, eval e X.env) :: starEach es X.env := by rfl) (hpl : (backTo pos (starEach es X.env)).any (·.1) = false := by rfl) : DE CT E X (.Call (.Name x p) (e :: es) [] pos) (dCall ps.length ft t) := by
  obtain ⟨f, fd, F, hb, hm, hk⟩ := G.ex
  exact de_call (pe_call F hr hg hm hk hb .nil hx ha.pa hdb he hpl)
theorem de_K {k : Nat} {ps : List Str} {ft : FT} {C : Addr} (G : MkG CT X.prog X.w X.K X.mg X.base k x C ps ft) (hr : Room (k + 1) X.A) (hx : Passes (L2.CX X.prog X.w) X E) (ha : DA CT E X (e :: es) t) (hg : Gl X x := by rfl)
    (hdb : (x == ("__debug__" : Str)) = false := by decide) (he : starEach (e :: es) X.env = (false, eval e X.env) :: starEach es X.env := by rfl) (hpl : (backTo pos (starEach es X.env)).any (·.1) = false := by rfl) : DE CT E X (.Call (.Name x p) (e :: es) [] pos) (dMake C ps.length ft t) := by
  obtain ⟨f, fd, F, hb, M, hm⟩ := G.ex
  exact de_make (pe_make M F hr hg hm hb .nil hx ha.pa hdb he hpl)
end
/-! ### methods of own classes -/
theorem de_M {e o : Expr} {es : List Expr} {t : TAD} {to : TED} {k : Nat} {C : Addr} {m : Str} {ps : List Str} {ft : FT} (G : MtG CT X.prog X.w X.K X.mg X.base k C m ps ft) (hr : Room k X.A) (hx : Passes (L2.CX X.prog X.w) X E) (ho : DE CT E X o to)
    (h : ∀ f fd, FnOk X.prog X.w X.K X.mg X.base (L2.CX X.prog X.w) k f fd ps (spD CT ps.length ft) → Binds X.K fd ps [] → Cls X.K C → Meth X.K C m f → PE X (.Call (.Attribute o m apos) (e :: es) [] pos) (L2.tMeth C m (spD CT ps.length ft) [] E (lift CT E to) (liftA CT E t))) :
    DE CT E X (.Call (.Attribute o m apos) (e :: es) [] pos) (dMeth C m ps.length ft to t) := by
  obtain ⟨f, fd, F, hb, c, hm⟩ := G.ex
  exact de_meth (h f fd F hb c hm)
theorem de_M0 {o : Expr} {to : TED} {k : Nat} {C : Addr} {m : Str} {ps : List Str} {ft : FT} (G : MtG CT X.prog X.w X.K X.mg X.base k C m ps ft)
    (h : ∀ f fd, FnOk X.prog X.w X.K X.mg X.base (L2.CX X.prog X.w) k f fd ps (spD CT ps.length ft) → Binds X.K fd ps [] → Cls X.K C → Meth X.K C m f → PE X (.Call (.Attribute o m apos) [] [] pos) (L2.tMeth C m (spD CT ps.length ft) [] E (lift CT E to) tNil)) :
    DE CT E X (.Call (.Attribute o m apos) [] [] pos) (dMeth C m ps.length ft to dNil) := by
  obtain ⟨f, fd, F, hb, c, hm⟩ := G.ex
  exact de_meth0 (h f fd F hb c hm)
end
end DL
set_option Elab.async false
set_option linter.all false
set_option maxRecDepth 100000
/-! DL9: more rules: enumerate -/
namespace PySem
open Sem (wp)
open AutoSeq1 (wpAny_loadPart')
theorem dl_enum_newT (l : Addr) (items : Array Value) (n : Nat) (dct : Option Addr) (sl : Array (Option Value)) :
    Meets (Builtin.«enumerate.__new__» ⟨[.type "enumerate", .ref l], []⟩) (fun _ R s => s.heap.get? l = some { cls := .type "tuple", dict := dct, data := .seq items n, slots := sl } ∧
      R (.ok (.ret (.ref (s.heap.push { cls := .type "tuple_iterator", data := .fields #[.ref l, .int 0 0] }).objs.size)))
        { s with heap := (s.heap.push { cls := .type "tuple_iterator", data := .fields #[.ref l, .int 0 0] }).push { cls := .type "enumerate", data := .fields #[.none, .bool false, .ref s.heap.objs.size, rawInt 0, .none, .none] } }) :=
  .of_wp fun prog w A R s h => by
    obtain ⟨hp, g, d, tk, os⟩ := s; obtain ⟨hl, h⟩ := h
    have hsub := sub_enumerate
    have hL : Heap.IsTuple (Shared.heap ⟨hp, g, d, tk, os⟩) l items := ⟨_, hl, rfl, n, rfl⟩
    wp_walk using wpAny_loadPart' hl
    refine wpAny_stack_any fun st => wpAny_pure ?_
    split
    · rename_i c _ _ _ _ _
      cases (c == Value.type "enumerate")
      · wp_walk using wpAny_loadPart' hl, wpAny_pyIter_tuple hL
        exact ⟨_, rfl, h⟩
      · wp_walk using wpAny_loadPart' hl, wpAny_pyIter_tuple hL
        exact ⟨_, rfl, h⟩
    · wp_walk using wpAny_loadPart' hl, wpAny_pyIter_tuple hL
      exact ⟨_, rfl, h⟩
section
variable {prog : Program} {w : World} {A : Around} {E : Value → Shared → Prop} {s : Shared}
theorem dl_call_enumT {l : Addr} {items : Array Value} {Q : Value → Shared → Prop} (hL : s.heap.IsTuple l items)
    (h : ∀ h', IsEnum h' (s.heap.objs.size + 1) s.heap.objs.size 0 .none → h'.IsTupleIter s.heap.objs.size l 0 → h'.objs.size = s.heap.objs.size + 2 →
      (∀ b o, s.heap.get? b = some o → h'.get? b = some o) → Q (.ref (s.heap.objs.size + 1)) { s with heap := h' }) :
    wpAny (model prog w) A (call (.type "enumerate") [.ref l]) Q E s := by
  obtain ⟨⟨c, dct, dt, sl⟩, hl, hc, n, hd⟩ := hL
  replace hc : c = .type "tuple" := hc
  replace hd : dt = .seq items n := hd
  subst hc hd
  refine callType_new F.called_enumerate (by decide) (F.typeCall_enumerate_1 _) (F.newCall_enumerate_1 _) (fun obj => F.args_object_init_2 obj _) F.entry_enumerate_new
    (dl_enum_newT l items n dct sl) ⟨hl, ?_⟩
  have hz : (s.heap.push { cls := .type "tuple_iterator", data := .fields #[.ref l, .int 0 0] }).objs.size = s.heap.objs.size + 1 := Heap.size_push ..
  show _ ∧ _
  rw [hz]
  have he : IsEnum ((s.heap.push { cls := .type "tuple_iterator", data := .fields #[.ref l, .int 0 0] }).push
      { cls := .type "enumerate", data := .fields #[.none, .bool false, .ref s.heap.objs.size, rawInt 0, .none, .none] }) (s.heap.objs.size + 1) s.heap.objs.size 0 .none := by
    have := Heap.get?_push_size (s.heap.push { cls := .type "tuple_iterator", data := .fields #[.ref l, .int 0 0] })
      (o := { cls := .type "enumerate", data := .fields #[.none, .bool false, .ref s.heap.objs.size, rawInt 0, .none, .none] }) rfl
    rw [hz] at this; exact this
  refine ⟨⟨_, he, rfl⟩, h _ he ⟨_, Heap.get?_push_of_some _ (Heap.get?_push_size _ rfl), rfl, rfl⟩ (by rw [Heap.size_push, hz]) fun b o x => Heap.get?_push_of_some _ (Heap.get?_push_of_some _ x)⟩
end
end PySem
namespace DL
open PySem PySem.Spec PyProof.Rows L2
/-! ### enumerate(tuple) -/
def IteT (K : PySem.W.Frag) (a : Addr) : It :=
  ⟨fun i H => ∃ (xs : List V) (x : V), SqT K H a xs ∧ xs[i]? = some x, fun i H v H' => ∃ T x, v = .ref T ∧ H T = none ∧ H' = upd H T (.tup [.int (i : Nat), x]) ∧ ∀ xs, SqT K H a xs → xs[i]? = some x, fun i H => ∃ xs : List V, SqT K H a xs ∧ xs.length ≤ i⟩
theorem turn_enumT {P : Program} {w : World} {K : PySem.W.Frag} {elts : List Expr} {kk : Nat} {tpos : Pos} (a e it : Addr) (hai : a ≠ it) (hae : a ≠ e) :
    Turn P w K (.Tuple elts kk tpos) (IteT K a) [e, it] e (fun i h => (∃ old, IsEnum h e it ((i : Nat) : Int) old) ∧ h.IsTupleIter it a i ∧ e ≠ it) where
  mem := by simp
  obj := fun i h st b hb => by
    obtain ⟨⟨old, he⟩, ⟨o, ho, hc, hd⟩, _⟩ := st
    have e' : b = e ∨ b = it := by simpa using hb
    rcases e' with z | z
    · rw [z]; exact ⟨_, he, fun v q => nomatch q⟩
    · rw [z]; exact ⟨o, ho, fun v q => by rw [hd] at q; cases q⟩
  keep := fun i h h' st k => let ⟨⟨old, he⟩, hi, hne⟩ := st; ⟨⟨old, k e (by simp) _ he⟩, hi.at fun o q => k it (by simp) o q, hne⟩
  item := by
    intro X hP hw hK hc i pins s σ H E I hf st hg
    subst hP hw hK
    obtain ⟨⟨old, he⟩, hit, hne⟩ := st
    obtain ⟨xs, x, hq, hx⟩ := hg
    obtain ⟨its, rv, p, hz⟩ := I.tuple hq
    obtain ⟨u, hu, ru⟩ := rv.get hx
    have hel : e < s.heap.objs.size := Heap.lt_size he
    have hil : it < s.heap.objs.size := by obtain ⟨_, q, _⟩ := hit; exact Heap.lt_size q
    have hlt : i < its.toArray.size := by
      have := (List.getElem?_eq_some_iff.mp hu).1
      simpa using this
    refine wpAny_pyNext_enum_itemD (Draws.tuple (A := X.A.in1) (I.ok.hd hc) it a hai its.toArray) he ⟨hit, p⟩ hlt hne (by simp [hne, Ne.symm hae]) fun x' h' tk hPx ho hst' hT hsz hk => ?_
    obtain ⟨hit', _⟩ := hst'
    have ex : x' = u := by
      have : its[i]? = some x' := by simpa using hPx
      rw [hu] at this; exact (Option.some.inj this).symm
    subst ex
    refine ⟨_, rfl, wpAny_letOwnedTupleGo_enum (s := { s with heap := h', toks := tk + 1 }) ho fun h'' he' sb => ?_⟩
    have hT2 : h''.get? s.heap.objs.size = some { cls := .type "tuple", data := .seq #[.int i tk, x'] } := (sb.2 _ (Nat.ne_of_gt hel)).trans hT
    have new : ObjOk X.prog X.w (upd H s.heap.objs.size (.tup [.int (i : Nat), x])) h'' s.heap.objs.size (.tup [.int (i : Nat), x]) :=
      ⟨by show 2 ≤ sizeLine; decide, [.int i tk, x'], .cons ⟨_, rfl⟩ (.cons ru .nil), ⟨_, hT2, rfl, _, rfl⟩⟩
    have I1 : Inv X pins σ (upd H s.heap.objs.size (.tup [.int (i : Nat), x])) { s with heap := h'', toks := tk + 1 } :=
      I.turnedNew (ch := [e, it]) (fun b ob hb q => (sb.2 b (fun z => hb (by simp [z]))).trans (hk b ob (fun z => hb (by simp [z])) (fun z => hb (by simp [z])) q)) hf (Nat.le_refl _) new
    refine ⟨.ref s.heap.objs.size, _, I1, rfl, ⟨_, x, rfl, I.hok.fresh (Nat.le_refl _), rfl, fun ys hy => by rw [I.tuple_inj hy hq]; exact hx⟩, ⟨⟨x', ?_⟩, hit'.at fun o q => (sb.2 it (Ne.symm hne)).trans q, hne⟩, fun b hb => ?_⟩
    · have e1 : ((i + 1 : Nat) : Int) = (i : Int) + 1 := by omega
      rw [e1]; exact he'
    · have hb' : b < s.heap.objs.size := by
        have e' : b = e ∨ b = it := by simpa using hb
        rcases e' with z | z
        · rw [z]; exact hel
        · rw [z]; exact hil
      rw [upd_ne (Nat.ne_of_lt hb')]
      exact (hf b hb).1
  done := by
    intro X hP hw hK hc i pins s σ H E I hf st hg
    subst hP hw hK
    obtain ⟨⟨old, he⟩, hit, hne⟩ := st
    obtain ⟨xs, hq, hx⟩ := hg
    obtain ⟨its, rv, p, hz⟩ := I.tuple hq
    obtain ⟨f0, f1, f2, f3, f4, f5⟩ := hf it (by simp)
    have hl := rv.length
    have D0 := Draws.tuple (prog := X.prog) (w := X.w) (A := X.A.in1) (I.ok.hd hc) it a hai its.toArray
    have hT : s.TypeIs (.ref e) "enumerate" := ⟨_, he, rfl⟩
    unfold pyNext
    refine wpAny_bind (wpAny_attempt (wpAny_callSpecial?_slot (name := Str.ofString "__next__") hT F.slot_enumerate_next
      (wpAny_call_entry F.slot_enumerate_next hT F.entry_enumerate_next ?_ (F.args_enumerate_next_1 _))))
    show wpAny _ _ (field (.ref e) 2 >>= _) _ _ _
    refine wpAny_bind (wpAny_field he rfl (x := .ref it) rfl ?_)
    refine wpAny_bind (wpAny_nextOf_tuple_end (A := X.A.in1) (I.ok.hd hc) hit p (by simp; omega) fun h' x eb hx' => ?_)
    obtain ⟨o, ho, hc⟩ := hx'
    refine wpAny_bind (wpAny_isInstance (T := "StopIteration") (b := true) ⟨o, ho, hc⟩ isSubtype_stop ?_)
    exact wpAny_pure ⟨rfl, I.turned (t' := s.toks) (fun b o hb q => eb b o hb q) f0 f1 f3 f4 f5⟩
  self := fun A i s Q E st h => let ⟨⟨_, he⟩, _⟩ := st; wpAny_pyIter_enum he h
def iEnumB (K : PySem.W.Frag) (te : TE) : TI := fun σ H R => te σ H fun x H1 => (∃ a xs, x = .ref a ∧ SqL K H1 a xs ∧ R (Ite K a) H1) ∨ ∃ a xs, x = .ref a ∧ SqT K H1 a xs ∧ R (IteT K a) H1
theorem pi_enumB {X : Cx} {e : Expr} {te : TE} {p pos tpos : Pos} {elts : List Expr} {kk : Nat} (hg : Gl X "enumerate") (hm : X.mg "enumerate" = none) (he : PE X e te) (hs : starEach [e] X.env = [(false, eval e X.env)] := by rfl) (hs2 : starEach [e] X.env = (false, eval e X.env) :: starEach [] X.env := by rfl) :
    PI X (.Tuple elts kk tpos) (.Call (.Name "enumerate" p) [e] [] pos) (iEnumB X.K te) := by
  refine ⟨fun pins s σ H R I h => ?_⟩
  refine Call_ (ld_blt I hg hm boot_enumerate (PyProof.Rows.callWith_type1 (thn ((pa_cons he pa_nil hs2).run pos pins s σ H (fun vs H1 => match vs with
    | [x] => (∃ a xs, x = .ref a ∧ SqL X.K H1 a xs ∧ R (Ite X.K a) H1) ∨ ∃ a xs, x = .ref a ∧ SqT X.K H1 a xs ∧ R (IteT X.K a) H1
    | _ => False) I h) fun us s1 ⟨vs, H1, I1, r1, q1⟩ => ?_) hs rfl))
  match vs, q1, r1 with
  | [x], q1, .cons r .nil =>
    rcases q1 with ⟨a, xs, rfl, hq, q⟩ | ⟨a, xs, rfl, hq, q⟩
    · cases r
      obtain ⟨its, rv, p', hz⟩ := I1.list hq
      refine call_enumerate_list p'.isList fun h' he hit hsz hk => wpAny_pyIter_enum he ?_
      have I2 : Inv X pins σ H1 { s1 with heap := h' } := I1.kept (t' := s1.toks) hk
      refine ⟨s1.heap.objs.size + 1, [s1.heap.objs.size + 1, s1.heap.objs.size], _, _, H1, rfl, I2, turn_enum a (s1.heap.objs.size + 1) s1.heap.objs.size, ⟨⟨.none, he⟩, hit, Nat.succ_ne_self _⟩, fun b hb => ?_, q⟩
      have e' : b = s1.heap.objs.size + 1 ∨ b = s1.heap.objs.size := by simpa using hb
      have hle : s1.heap.objs.size ≤ b := by
        rcases e' with z | z
        · rw [z]; exact Nat.le_add_right _ _
        · rw [z]; exact Nat.le_refl _
      exact I1.fpOk hle (I1.hok.fresh hle)
    · cases r
      obtain ⟨its, rv, p', hz⟩ := I1.tuple hq
      have hlt : a < s1.heap.objs.size := by obtain ⟨o, q, _⟩ := p'; exact Heap.lt_size q
      refine dl_call_enumT p' fun h' he hit hsz hk => wpAny_pyIter_enum he ?_
      have I2 : Inv X pins σ H1 { s1 with heap := h' } := I1.kept (t' := s1.toks) hk
      refine ⟨s1.heap.objs.size + 1, [s1.heap.objs.size + 1, s1.heap.objs.size], _, _, H1, rfl, I2, turn_enumT a (s1.heap.objs.size + 1) s1.heap.objs.size (Nat.ne_of_lt hlt) (Nat.ne_of_lt (Nat.lt_succ_of_lt hlt)), ⟨⟨.none, he⟩, hit, Nat.succ_ne_self _⟩, fun b hb => ?_, q⟩
      have e' : b = s1.heap.objs.size + 1 ∨ b = s1.heap.objs.size := by simpa using hb
      have hle : s1.heap.objs.size ≤ b := by
        rcases e' with z | z
        · rw [z]; exact Nat.le_add_right _ _
        · rw [z]; exact Nat.le_refl _
      exact I1.fpOk hle (I1.hok.fresh hle)
/-- the items with their numbers; trees -/
def enums (k : Nat) : List D → List D
  | .t x :: xs => .t (.tup [.int (k : Nat), x]) :: enums (k + 1) xs
  | _ => []
theorem enums_get : ∀ {xs : List D} {k i : Nat} {d : D}, (enums k xs)[i]? = some d → ∃ x, xs[i]? = some (.t x) ∧ d = .t (.tup [.int ((k + i : Nat) : Int), x])
  | .t x :: xs, k, 0, d, h => by
    unfold enums at h
    exact ⟨x, rfl, (Option.some.inj h).symm⟩
  | .t x :: xs, k, i + 1, d, h => by
    unfold enums at h
    obtain ⟨y, e1, e2⟩ := enums_get (xs := xs) (k := k + 1) (i := i) h
    exact ⟨y, e1, by rw [e2]; congr 4; omega⟩
  | [], _, _, d, h => by unfold enums at h; simp at h
  | .m _ :: _, _, _, d, h => by unfold enums at h; simp at h
theorem enums_len : ∀ {xs : List D} {k : Nat}, allT xs → (enums k xs).length = xs.length
  | .t x :: xs, k, h => by
    unfold enums
    have := enums_len (xs := xs) (k := k + 1) h
    rw [List.length_cons, List.length_cons, this]
  | [], _, _ => by unfold enums; rfl
  | .m _ :: _, _, h => h.elim
section
variable {CT : TTs} {E : XK} {X : Cx} {tg : Expr}
def iEnumD (t : TED) : TID := fun X ρ S R => t X ρ S fun d S1 => ∃ ds, allT ds ∧ ((seqL S1 d = some ds ∧ R ⟨enums 0 ds, Stays ds seqL d⟩ S1) ∨ (seqT S1 d = some ds ∧ R ⟨enums 0 ds, Stays ds seqT d⟩ S1))
theorem enum_fol {as : List Addr} {S : Store} {H : Hp} {i : Nat} {d : D} {ds : List D} {xs : List V} {x : V} {p : Addr} (s : StOk CT as S H) (r : RepDs as (Live as S) H ds xs) (hd : (enums 0 ds)[i]? = some d) (hx : xs[i]? = some x) (hp : H p = none) :
    On as S H as S (upd H p (.tup [.int (i : Nat), x])) ∧ StOk CT as S (upd H p (.tup [.int (i : Nat), x])) ∧ RepD as (Live as S) (upd H p (.tup [.int (i : Nat), x])) d (.ref p) := by
  obtain ⟨y, e1, e2⟩ := enums_get hd
  subst e2
  have ry := repDs_getV r e1 hx
  rw [Nat.zero_add]
  exact pair_new s (show Rep (Live as S) H (.int (i : Nat)) (.int (i : Nat)) from rfl) ry hp
theorem di_enum {e : Expr} {t : TED} {p pos tpos : Pos} {elts : List Expr} {kk : Nat} (hm : X.mg "enumerate" = none) (he : DE CT E X e t) (hg : Gl X "enumerate" := by rfl) (hs : starEach [e] X.env = [(false, eval e X.env)] := by rfl) (hs2 : starEach [e] X.env = (false, eval e X.env) :: starEach [] X.env := by rfl) :
    DI CT E X (.Tuple elts kk tpos) (.Call (.Name "enumerate" p) [e] [] pos) (iEnumD t) :=
  ⟨(pi_enumB hg hm he.pe hs hs2).imp fun σ H R ⟨as, S, ρ, Xq, Rd, z, q, k⟩ => ⟨as, S, ρ, Xq, _, z, q, fun as1 S1 H1 d x o1 s1 r ⟨ds, al, q1⟩ => by
    rcases q1 with ⟨hd, q1⟩ | ⟨hd, q1⟩
    · obtain ⟨a, xs, e, h1, h2⟩ := seqL_ok s1 r hd
      refine .inl ⟨a, xs, e, .of h1, k as1 S1 H1 _ _ o1 s1 (fun i as' S' H' o s hg => ?_) q1⟩
      obtain ⟨a', xs', e', h1', h2'⟩ := seqL_ok s (o.rep r) hg
      rw [e] at e'; cases e'
      refine ⟨fun d' hd' => ?_, fun hi => ⟨xs', .of h1', by rw [← Paired.length h2', ← enums_len (k := 0) al]; exact hi⟩⟩
      obtain ⟨y, e1, e2⟩ := enums_get hd'
      obtain ⟨x1, hx1, _⟩ := repDs_get h2' e1
      refine ⟨⟨xs', x1, .of h1', hx1⟩, fun x' H'' ⟨p', x2, ep, hp, eh, f1⟩ => ?_⟩
      subst ep eh
      exact enum_fol s h2' hd' (f1 xs' (.of h1')) hp
    · obtain ⟨a, xs, e, h1, h2⟩ := seqT_ok s1 r hd
      refine .inr ⟨a, xs, e, .of h1, k as1 S1 H1 _ _ o1 s1 (fun i as' S' H' o s hg => ?_) q1⟩
      obtain ⟨a', xs', e', h1', h2'⟩ := seqT_ok s (o.rep r) hg
      rw [e] at e'; cases e'
      refine ⟨fun d' hd' => ?_, fun hi => ⟨xs', .of h1', by rw [← Paired.length h2', ← enums_len (k := 0) al]; exact hi⟩⟩
      obtain ⟨y, e1, e2⟩ := enums_get hd'
      obtain ⟨x1, hx1, _⟩ := repDs_get h2' e1
      refine ⟨⟨xs', x1, .of h1', hx1⟩, fun x' H'' ⟨p', x2, ep, hp, eh, f1⟩ => ?_⟩
      subst ep eh
      exact enum_fol s h2' hd' (f1 xs' (.of h1')) hp⟩⟩
/-! ### xs.index(x) -/
end
end DL
set_option Elab.async false
set_option linter.all false
set_option maxRecDepth 100000
/-! DL10: the readings, run by simp -/
namespace DL
open PySem PySem.Spec PyProof.Rows L2

@[simp] theorem dl_and_assoc {a b c : Prop} : (a ∧ b) ∧ c ↔ a ∧ b ∧ c := and_assoc
section
variable {X : XQ} {ρ : Env} {S : Store} {De : DEnds}
@[simp] theorem sSeq_e {t u : TSD} : sSeq t u De ρ S = t { De with nx := u De } ρ S := rfl
@[simp] theorem sNext_e : sNext De ρ S = De.nx ρ S := rfl
@[simp] theorem sRet_e {t : TED} : sRet t De ρ S = t De.ex ρ S De.rt := rfl
@[simp] theorem sRetN_e : sRetN De ρ S = De.rt .non S := rfl
@[simp] theorem sDrop_e {t : TED} : sDrop t De ρ S = t De.ex ρ S fun _ S1 => De.nx ρ S1 := rfl
@[simp] theorem sNever_e : sNever De ρ S = False := rfl
@[simp] theorem sBreak_e : sBreak De ρ S = De.bk ρ S := rfl
@[simp] theorem sCont_e : sCont De ρ S = De.ct ρ S := rfl
@[simp] theorem sIf_e {c : TTD} {t u : TSD} : sIf c t u De ρ S = c De.ex ρ S fun b S1 => if b = true then t De ρ S1 else u De ρ S1 := rfl
@[simp] theorem sAsg_e {t : TED} {g : TGD} : sAsg t g De ρ S = t De.ex ρ S fun d S1 => g d De.ex ρ S1 De.nx := rfl
@[simp] theorem gVar_e {i d Q} : gVar i d X ρ S Q = Q (ρ.set i (some d)) S := rfl
@[simp] theorem dVar_e {i Q} : dVar i X ρ S Q = ∃ d, ρ[i]? = some (some d) ∧ Q d S := rfl
@[simp] theorem dC_e {x Q} : dC x X ρ S Q = Q (.t (.v x)) S := rfl
@[simp] theorem dOp_e {r : R2D} {a b : TED} {Q} : dOp r a b X ρ S Q = a X ρ S fun x S1 => b X ρ S1 fun y S2 => r x y S2 Q := rfl
@[simp] theorem dUn_e {r : R1D} {a : TED} {Q} : dUn r a X ρ S Q = a X ρ S fun x S1 => r x S1 Q := rfl
def boolI (d : D) (S : Store) (Q : Bool → Store → Prop) : Prop := ∃ c, d = .t (.v (.bl c)) ∧ Q c S
@[simp] theorem boolI_b {c : Bool} {Q : Bool → Store → Prop} : boolI (.t (.v (.bl c))) S Q = Q c S := by
  apply propext
  constructor
  · rintro ⟨c', h, q⟩; cases h; exact q
  · exact fun q => ⟨c, rfl, q⟩
def intI (d : D) (S : Store) (Q : Int → Store → Prop) : Prop := ∃ c, d = .t (.v (.int c)) ∧ Q c S
@[simp] theorem intI_i {c : Int} {Q : Int → Store → Prop} : intI (.t (.v (.int c))) S Q = Q c S := by
  apply propext
  constructor
  · rintro ⟨c', h, q⟩; cases h; exact q
  · exact fun q => ⟨c, rfl, q⟩
@[simp] theorem dB_e {t : TED} {Q} : dB t X ρ S Q = t X ρ S fun d S1 => boolI d S1 Q := rfl
@[simp] theorem dAndT_e {t u : TTD} {Q} : dAndT t u X ρ S Q = t X ρ S fun c S1 => if c = true then u X ρ S1 Q else Q false S1 := rfl
@[simp] theorem dOrT_e {t u : TTD} {Q} : dOrT t u X ρ S Q = t X ρ S fun c S1 => if c = true then Q true S1 else u X ρ S1 Q := rfl
@[simp] theorem dNotT_e {t : TTD} {Q} : dNotT t X ρ S Q = t X ρ S fun c S1 => Q (!c) S1 := rfl
@[simp] theorem dAndV_e {a b : TED} {Q} : dAndV a b X ρ S Q = a X ρ S fun x S1 => boolI x S1 fun c S1 => if c = true then b X ρ S1 Q else Q (.t (.v (.bl false))) S1 := rfl
@[simp] theorem dOrV_e {a b : TED} {Q} : dOrV a b X ρ S Q = a X ρ S fun x S1 => boolI x S1 fun c S1 => if c = true then Q (.t (.v (.bl true))) S1 else b X ρ S1 Q := rfl
@[simp] theorem dNotV_e {a : TED} {Q} : dNotV a X ρ S Q = a X ρ S fun x S1 => boolI x S1 fun c S1 => Q (.t (.v (.bl (!c)))) S1 := rfl
@[simp] theorem dIf_e {t : TTD} {a b : TED} {Q} : dIf t a b X ρ S Q = t X ρ S fun c S1 => if c = true then a X ρ S1 Q else b X ρ S1 Q := rfl
@[simp] theorem dNil_e {Q} : dNil X ρ S Q = Q [] S := rfl
@[simp] theorem dCons_e {a : TED} {r : TAD} {Q} : dCons a r X ρ S Q = a X ρ S fun x S1 => r X ρ S1 fun xs S2 => Q (x :: xs) S2 := rfl
@[simp] theorem dTup_e {t : TAD} {Q} : dTup t X ρ S Q = t X ρ S fun ds S1 => ds.length ≤ sizeLine ∧ ∃ ts, asTs ds = some ts ∧ Q (.t (.tup ts)) S1 := rfl
@[simp] theorem dLst_e {t : TAD} {Q} : dLst t X ρ S Q = t X ρ S fun ds S1 => ds.length ≤ sizeLine ∧ ∃ ts, asTs ds = some ts ∧ Q (.t (.lst ts)) S1 := rfl
@[simp] theorem dLstM_e {t : TAD} {Q} : dLstM t X ρ S Q = t X ρ S fun ds S1 => ds.length ≤ sizeLine ∧ Q (.m S1.length) (S1 ++ [.lst ds]) := rfl
@[simp] theorem dTupM_e {t : TAD} {Q} : dTupM t X ρ S Q = t X ρ S fun ds S1 => ds.length ≤ sizeLine ∧ Q (.m S1.length) (S1 ++ [.tup ds]) := rfl
@[simp] theorem dCB_e {r : RAD} {t : TAD} {Q} : dCB r t X ρ S Q = t X ρ S fun ds S1 => r ds S1 Q := rfl
@[simp] theorem dBM_e {ty : D → Store → Prop} {r : D → RAD} {o : TED} {t : TAD} {Q} : dBM ty r o t X ρ S Q = o X ρ S fun d S1 => ty d S1 ∧ t X ρ S1 fun ds S2 => r d ds S2 Q := rfl
@[simp] theorem dCall_e {n : Nat} {ft : FT} {t : TAD} {Q} : dCall n ft t X ρ S Q = t X ρ S fun ds S1 => ds.length = n ∧ ft ds S1 Q fun e => X e S1 := rfl
@[simp] theorem dNoPart_e {Q} : dNoPart X ρ S Q = Q none S := rfl
@[simp] theorem dPart_e {t : TED} {Q} : dPart t X ρ S Q = t X ρ S fun d S1 => intI d S1 fun i S1 => Q (some i) S1 := rfl
@[simp] theorem sPar_e {i j : Nat} {t : TAD} : sPar i j t De ρ S = t De.ex ρ S fun ds S1 => ∃ d e, ds = [d, e] ∧ De.nx ((ρ.set i (some d)).set j (some e)) S1 := rfl
@[simp] theorem sPar3_e {i j l : Nat} {t : TAD} : sPar3 i j l t De ρ S = t De.ex ρ S fun ds S1 => ∃ d e f, ds = [d, e, f] ∧ De.nx (((ρ.set i (some d)).set j (some e)).set l (some f)) S1 := rfl
@[simp] theorem gNilD_e {ds Q} : gNilD ds X ρ S Q = (ds = [] ∧ Q ρ S) := rfl
@[simp] theorem gConsD_e {t : TGD} {u : TGsD} {ds Q} : gConsD t u ds X ρ S Q = ∃ d rest, ds = d :: rest ∧ t d X ρ S fun ρ' S' => u rest X ρ' S' Q := rfl
@[simp] theorem asTs_nil : asTs [] = some [] := rfl
@[simp] theorem asTs_cons {x : T} {r : List D} : asTs (.t x :: r) = (asTs r).map (x :: ·) := rfl
@[simp] theorem endsOf_rt {m : Mode} {Q E} : (endsOf m S Q E).rt = m.rt S.length Q := rfl
@[simp] theorem endsOf_nx {m : Mode} {Q E} : (endsOf m S Q E).nx = fun _ S' => m.rt S.length Q .non S' := rfl
@[simp] theorem rt_raw {n Q} : Mode.raw.rt n Q = Q := rfl
@[simp] theorem startD_e {n ds} : startD n ds = ds.map some ++ List.replicate (n - ds.length) none := rfl
@[simp] theorem dYes_e {Q} : dYes X ρ S Q = Q true S := rfl
end
/-! ### scalars told apart -/
def isInt : T → Bool
  | .v (.int _) => true
  | _ => false
def isBl : T → Bool
  | .v (.bl _) => true
  | _ => false
def isStr : T → Bool
  | .v (.str _) => true
  | _ => false
def isLst : T → Bool
  | .lst _ => true
  | _ => false
def isTup : T → Bool
  | .tup _ => true
  | _ => false
def isDct : T → Bool
  | .dct _ => true
  | _ => false
def isSeq : T → Bool
  | .lst _ => true
  | .tup _ => true
  | _ => false
/-- a thing that isinstance is asked of -/
def ok1 (Cs : List Addr) (x : T) : Prop := ∃ ty, tyT x = some ty ∧ ∀ C, ty = .own C → C ∈ Cs
section
variable {Cs : List Addr} {x : T} {S : Store} {Q : D → Store → Prop}
theorem isi_ty {n : String} {b : Bool} (hn : n ∈ (["int", "bool", "str", "list", "tuple", "dict"] : List String)) (h : ok1 Cs x) (hb : ∀ ty, tyT x = some ty → (∀ C, ty = .own C → C ∈ Cs) → isa Cs ty (.ty n) = some b) : cIsi Cs [.t x, .t (.v (.ty n))] S Q ↔ Q (.bl b) S := by
  obtain ⟨ty, e, hC⟩ := h
  constructor
  · rintro ⟨d, ty', e', h⟩
    rcases h with ⟨c, b', h1, h2, q⟩ | ⟨cs, b', _, h1, _⟩
    · have h1 : D.t x = d ∧ V.ty n = c := by simpa using h1
      obtain ⟨rfl, rfl⟩ := h1
      have e' : tyT x = some ty' := e'
      rw [e] at e'
      cases e'
      have := hb ty e hC
      rw [h2] at this
      cases this
      exact q
    · simp at h1
  · exact fun q => ⟨.t x, ty, e, .inl ⟨.ty n, b, rfl, hb ty e hC, q⟩⟩
theorem isa_own_ty {C : Addr} {n : String} (hC : C ∈ Cs) (hn : n ∈ (["int", "bool", "str", "list", "tuple", "dict"] : List String)) : isa Cs (.own C) (.ty n) = some false := if_pos ⟨hC, hn⟩
@[simp] theorem isi_int (h : ok1 Cs x) : cIsi Cs [.t x, .t (.v (.ty "int"))] S Q ↔ Q (.bl (isInt x || isBl x)) S := isi_ty (by simp) h fun ty e hC => by
  cases x with
  | v y => cases y <;> cases e <;> rfl
  | ins C fs => cases e; exact isa_own_ty (hC C rfl) (by simp)
  | _ => cases e; rfl
@[simp] theorem isi_bool (h : ok1 Cs x) : cIsi Cs [.t x, .t (.v (.ty "bool"))] S Q ↔ Q (.bl (isBl x)) S := isi_ty (by simp) h fun ty e hC => by
  cases x with
  | v y => cases y <;> cases e <;> rfl
  | ins C fs => cases e; exact isa_own_ty (hC C rfl) (by simp)
  | _ => cases e; rfl
@[simp] theorem isi_str (h : ok1 Cs x) : cIsi Cs [.t x, .t (.v (.ty "str"))] S Q ↔ Q (.bl (isStr x)) S := isi_ty (by simp) h fun ty e hC => by
  cases x with
  | v y => cases y <;> cases e <;> rfl
  | ins C fs => cases e; exact isa_own_ty (hC C rfl) (by simp)
  | _ => cases e; rfl
@[simp] theorem isi_list (h : ok1 Cs x) : cIsi Cs [.t x, .t (.v (.ty "list"))] S Q ↔ Q (.bl (isLst x)) S := isi_ty (by simp) h fun ty e hC => by
  cases x with
  | v y => cases y <;> cases e <;> rfl
  | ins C fs => cases e; exact isa_own_ty (hC C rfl) (by simp)
  | _ => cases e; rfl
@[simp] theorem isi_tuple (h : ok1 Cs x) : cIsi Cs [.t x, .t (.v (.ty "tuple"))] S Q ↔ Q (.bl (isTup x)) S := isi_ty (by simp) h fun ty e hC => by
  cases x with
  | v y => cases y <;> cases e <;> rfl
  | ins C fs => cases e; exact isa_own_ty (hC C rfl) (by simp)
  | _ => cases e; rfl
@[simp] theorem isi_dict (h : ok1 Cs x) : cIsi Cs [.t x, .t (.v (.ty "dict"))] S Q ↔ Q (.bl (isDct x)) S := isi_ty (by simp) h fun ty e hC => by
  cases x with
  | v y => cases y <;> cases e <;> rfl
  | ins C fs => cases e; exact isa_own_ty (hC C rfl) (by simp)
  | _ => cases e; rfl
@[simp] theorem isi_seq (h : ok1 Cs x) : cIsi Cs [.t x, .t (.tup [.v (.ty "list"), .v (.ty "tuple")])] S Q ↔ Q (.bl (isSeq x)) S := by
  obtain ⟨ty, e, hC⟩ := h
  have key : isaL Cs ty [.ty "list", .ty "tuple"] = some (isSeq x) := by
    cases x with
    | v y => cases y <;> cases e <;> rfl
    | ins C fs =>
      cases e
      have h1 := isa_own_ty (Cs := Cs) (n := "list") (hC C rfl) (by simp)
      have h2 := isa_own_ty (Cs := Cs) (n := "tuple") (hC C rfl) (by simp)
      simp only [isaL, h1, h2]
      rfl
    | _ => cases e; rfl
  constructor
  · rintro ⟨d, ty', e', h⟩
    rcases h with ⟨c, b', h1, h2, q⟩ | ⟨cs, b', _, h1, h2, q⟩
    · simp at h1
    · have h1 : D.t x = d ∧ [T.v (.ty "list"), T.v (.ty "tuple")] = cs.map T.v := by simpa using h1
      obtain ⟨rfl, h3⟩ := h1
      have e' : tyT x = some ty' := e'
      rw [e] at e'
      cases e'
      have : cs = [.ty "list", .ty "tuple"] := by
        match cs, h3 with
        | [a, b], h3 => simp at h3; rw [← h3.1, ← h3.2]
      subst this
      rw [key] at h2
      cases h2
      exact q
  · exact fun q => ⟨.t x, ty, e, .inr ⟨[.ty "list", .ty "tuple"], isSeq x, by simp, rfl, key, q⟩⟩
end
theorem int_em (x : T) : (∃ i : Int, x = .v (.int i)) ∨ isInt x = false := by
  cases x with
  | v y => cases y <;> simp [isInt]
  | _ => exact .inr rfl
theorem bl_em (x : T) : (∃ b : Bool, x = .v (.bl b)) ∨ isBl x = false := by
  cases x with
  | v y => cases y <;> simp [isBl]
  | _ => exact .inr rfl
theorem str_em (x : T) : (∃ b : Str, x = .v (.str b)) ∨ isStr x = false := by
  cases x with
  | v y => cases y <;> simp [isStr]
  | _ => exact .inr rfl
theorem seq_em (x : T) : (∃ ts, x = .lst ts) ∨ (∃ ts, x = .tup ts) ∨ isSeq x = false := by
  cases x with
  | lst ts => exact .inl ⟨ts, rfl⟩
  | tup ts => exact .inr (.inl ⟨ts, rfl⟩)
  | _ => exact .inr (.inr rfl)
@[simp] theorem isInt_i {i : Int} : isInt (.v (.int i)) = true := rfl
@[simp] theorem isBl_i {i : Int} : isBl (.v (.int i)) = false := rfl
@[simp] theorem isSeq_l {ts} : isSeq (.lst ts) = true := rfl
@[simp] theorem isSeq_t {ts} : isSeq (.tup ts) = true := rfl
@[simp] theorem isStr_s {x} : isStr (.v (.str x)) = true := rfl
@[simp] theorem ok1_int {Cs : List Addr} {i : Int} : ok1 Cs (.v (.int i)) := ⟨_, rfl, fun _ h => nomatch h⟩
@[simp] theorem ok1_bl {Cs : List Addr} {i : Bool} : ok1 Cs (.v (.bl i)) := ⟨_, rfl, fun _ h => nomatch h⟩
@[simp] theorem ok1_non {Cs : List Addr} : ok1 Cs (.v .non) := ⟨_, rfl, fun _ h => nomatch h⟩
@[simp] theorem ok1_str {Cs : List Addr} {i : Str} : ok1 Cs (.v (.str i)) := ⟨_, rfl, fun _ h => nomatch h⟩
@[simp] theorem ok1_lst {Cs : List Addr} {ts : List T} : ok1 Cs (.lst ts) := ⟨_, rfl, fun _ h => nomatch h⟩
@[simp] theorem ok1_tup {Cs : List Addr} {ts : List T} : ok1 Cs (.tup ts) := ⟨_, rfl, fun _ h => nomatch h⟩
@[simp] theorem ok1_dct {Cs : List Addr} {ts} : ok1 Cs (.dct ts) := ⟨_, rfl, fun _ h => nomatch h⟩
@[simp] theorem ok1_ins {Cs : List Addr} {C fs} : ok1 Cs (.ins C fs) ↔ C ∈ Cs := ⟨fun ⟨ty, e, h⟩ => by cases e; exact h C rfl, fun h => ⟨_, rfl, fun _ e => by cases e; exact h⟩⟩
/-! ### operators -/
section
variable {S : Store} {Q : D → Store → Prop}
@[simp] theorem oI0_e {g : Int → Int → V} {i j : Int} : oI0 g (.t (.v (.int i))) (.t (.v (.int j))) S Q = Q (.t (.v (g i j))) S := by
  apply propext
  constructor
  · rintro ⟨i', j', h1, h2, q⟩; cases h1; cases h2; exact q
  · exact fun q => ⟨i, j, rfl, rfl, q⟩
@[simp] theorem oI_e {C : Int → Int → Prop} {g : Int → Int → V} {i j : Int} : oI C g (.t (.v (.int i))) (.t (.v (.int j))) S Q = (C i j ∧ Q (.t (.v (g i j))) S) := by
  apply propext
  constructor
  · rintro ⟨i', j', h1, h2, c, q⟩; cases h1; cases h2; exact ⟨c, q⟩
  · exact fun ⟨c, q⟩ => ⟨i, j, rfl, rfl, c, q⟩
@[simp] theorem oAdd_ii {i j : Int} : oAdd (.t (.v (.int i))) (.t (.v (.int j))) S Q = Q (.int (i + j)) S := by
  apply propext
  constructor
  · rintro (h | ⟨xs, ys, ts, h, _⟩)
    · rwa [oI0_e] at h
    · cases h
  · exact fun q => .inl (by rwa [oI0_e])
@[simp] theorem oAdd_ll {xs ys : List T} : oAdd (.t (.lst xs)) (.t (.lst ys)) S Q = (xs.length + ys.length ≤ sizeLine ∧ Q (.t (.lst (xs ++ ys))) S) := by
  apply propext
  constructor
  · rintro (⟨i, j, h, _⟩ | ⟨us, ws, ts, h1, h2, h3, h4, q⟩)
    · cases h
    · cases h1; cases h2
      rw [← List.map_append, asTs_map] at h4
      cases h4
      simp at h3
      exact ⟨h3, q⟩
  · exact fun ⟨h, q⟩ => .inr ⟨_, _, xs ++ ys, rfl, rfl, by simpa using h, by rw [← List.map_append, asTs_map], q⟩
@[simp] theorem seqL_l {ts : List T} : seqL S (.t (.lst ts)) = some (ts.map .t) := rfl
@[simp] theorem seqT_t {ts : List T} : seqT S (.t (.tup ts)) = some (ts.map .t) := rfl
@[simp] theorem seqL_t {ts : List T} : seqL S (.t (.tup ts)) = none := rfl
@[simp] theorem seqT_l {ts : List T} : seqT S (.t (.lst ts)) = none := rfl
@[simp] theorem seqA_l {ts : List T} : seqA S (.t (.lst ts)) = some (ts.map .t) := rfl
@[simp] theorem seqA_t {ts : List T} : seqA S (.t (.tup ts)) = some (ts.map .t) := rfl
@[simp] theorem tyLst_l {ts : List T} : tyLst (.t (.lst ts)) S := ⟨_, rfl⟩
@[simp] theorem cLen_l {ts : List T} : cLen [.t (.lst ts)] S Q = Q (.int ts.length) S := by
  apply propext
  constructor
  · rintro ⟨d, h, ⟨xs, h1, q⟩ | ⟨x, h1, _⟩⟩
    · cases h; cases h1; simpa using q
    · cases h; cases h1
  · exact fun q => ⟨_, rfl, .inl ⟨_, rfl, by simpa using q⟩⟩
@[simp] theorem cLen_t {ts : List T} : cLen [.t (.tup ts)] S Q = Q (.int ts.length) S := by
  apply propext
  constructor
  · rintro ⟨d, h, ⟨xs, h1, q⟩ | ⟨x, h1, _⟩⟩
    · cases h; cases h1; simpa using q
    · cases h; cases h1
  · exact fun q => ⟨_, rfl, .inl ⟨_, rfl, by simpa using q⟩⟩
theorem atI_map {ts : List T} {i : Int} : atI (ts.map D.t) i = (atI ts i).map .t := by
  unfold atI
  rw [List.length_map]
  cases ixN ts.length i <;> simp
theorem oIx_s {x : D} {ts : List T} {i : Int} (h : seqA S x = some (ts.map .t)) : oIx x (.t (.v (.int i))) S Q = ∃ t, atI ts i = some t ∧ Q (.t t) S := by
  apply propext
  constructor
  · rintro ⟨ds, i', d, h1, h2, h3, q⟩
    cases h2
    rw [h] at h1
    cases h1
    rw [atI_map] at h3
    cases h4 : atI ts i with
    | none => rw [h4] at h3; cases h3
    | some t => rw [h4] at h3; cases h3; exact ⟨t, rfl, q⟩
  · rintro ⟨t, h1, q⟩
    exact ⟨_, i, .t t, h, rfl, by rw [atI_map, h1]; rfl, q⟩
@[simp] theorem oIx_l {ts : List T} {i : Int} : oIx (.t (.lst ts)) (.t (.v (.int i))) S Q = ∃ t, atI ts i = some t ∧ Q (.t t) S := oIx_s rfl
@[simp] theorem oIx_t {ts : List T} {i : Int} : oIx (.t (.tup ts)) (.t (.v (.int i))) S Q = ∃ t, atI ts i = some t ∧ Q (.t t) S := oIx_s rfl
end
end DL
set_option Elab.async false
set_option linter.all false
set_option maxRecDepth 100000
/-! DL11: equality of trees, membership; data of a depth -/
namespace DL
open PySem PySem.Spec PyProof.Rows L2

mutual
def eqT : T → T → Bool
  | .v a, .v b => eqV a b
  | .lst xs, .lst ys => eqTs xs ys
  | .tup xs, .tup ys => eqTs xs ys
  | _, _ => false
def eqTs : List T → List T → Bool
  | [], [] => true
  | x :: xs, y :: ys => eqT x y && eqTs xs ys
  | _, _ => false
end
mutual
/-- data of none, bools, ints, texts, lists, tuples; how deep -/
def dat : Nat → T → Bool
  | _, .v .non => true
  | _, .v (.bl _) => true
  | _, .v (.int _) => true
  | _, .v (.str x) => PyData.strOk x
  | n + 1, .lst ts => dats n ts
  | n + 1, .tup ts => dats n ts
  | _, _ => false
def dats : Nat → List T → Bool
  | _, [] => true
  | n, t :: ts => dat n t && dats n ts
end
theorem dats_all {n : Nat} : ∀ {ts : List T}, dats n ts = true ↔ ∀ t ∈ ts, dat n t = true
  | [] => by simp [dats]
  | t :: ts => by simp [dats, dats_all (ts := ts)]
@[simp] theorem dat_int {n i} : dat n (.v (.int i)) = true := by cases n <;> simp [dat]
@[simp] theorem dat_bl {n i} : dat n (.v (.bl i)) = true := by cases n <;> simp [dat]
@[simp] theorem dat_non {n} : dat n (.v .non) = true := by cases n <;> simp [dat]
@[simp] theorem dat_str {n x} : dat n (.v (.str x)) = PyData.strOk x := by cases n <;> simp [dat]
@[simp] theorem dat_lst {n ts} : dat (n + 1) (.lst ts) = true ↔ ∀ t ∈ ts, dat n t = true := by rw [dat]; exact dats_all
@[simp] theorem dat_tup {n ts} : dat (n + 1) (.tup ts) = true ↔ ∀ t ∈ ts, dat n t = true := by rw [dat]; exact dats_all
mutual
theorem dat_py : ∀ (n : Nat) (x : T), dat n x = true → ∃ p, x.py = some p ∧ p.canLay0 = true ∧ p.depth ≤ n
  | n, .v y, h => by
    cases y with
    | non => exact ⟨_, by unfold T.py; rfl, by simp [PyData.canLay0], by simp [PyData.depth]⟩
    | bl b => exact ⟨_, by unfold T.py; rfl, by simp [PyData.canLay0], by simp [PyData.depth]⟩
    | int b => exact ⟨_, by unfold T.py; rfl, by simp [PyData.canLay0], by simp [PyData.depth]⟩
    | str b => exact ⟨_, by unfold T.py; rfl, by simpa [PyData.canLay0] using h, by simp [PyData.depth]⟩
    | _ => cases n <;> simp [dat] at h
  | 0, .lst ts, h => by simp [dat] at h
  | 0, .tup ts, h => by simp [dat] at h
  | n + 1, .lst ts, h => by
    obtain ⟨ps, e, h1, h2⟩ := dats_py n ts (by simpa [dat] using h)
    exact ⟨.list ps, by unfold T.py; rw [e]; rfl, by simpa [PyData.canLay0] using h1, by simp [PyData.depth]; exact h2⟩
  | n + 1, .tup ts, h => by
    obtain ⟨ps, e, h1, h2⟩ := dats_py n ts (by simpa [dat] using h)
    exact ⟨.tuple ps, by unfold T.py; rw [e]; rfl, by simpa [PyData.canLay0] using h1, by simp [PyData.depth]; exact h2⟩
  | n, .dct _, h => by cases n <;> simp [dat] at h
  | n, .ins _ _, h => by cases n <;> simp [dat] at h
theorem dats_py : ∀ (n : Nat) (xs : List T), dats n xs = true → ∃ ps, T.pys xs = some ps ∧ PyData.canLayAll0 ps = true ∧ PyData.depthAll ps ≤ n
  | n, [], _ => ⟨[], by unfold T.pys; rfl, by simp [PyData.canLayAll0], by simp [PyData.depthAll]⟩
  | n, x :: xs, h => by
    have h : dat n x = true ∧ dats n xs = true := by simpa [dats] using h
    obtain ⟨p, e1, h1, h2⟩ := dat_py n x h.1
    obtain ⟨ps, e2, h3, h4⟩ := dats_py n xs h.2
    exact ⟨p :: ps, by unfold T.pys; rw [e1, e2], by simp [PyData.canLayAll0, h1, h3], by simp [PyData.depthAll]; omega⟩
end
mutual
theorem eqT_py : ∀ (x y : T) (p q : PyData), x.py = some p → y.py = some q → PyData.eqv p q = eqT x y
  | .v a, .v b, p, q, h1, h2 => by
    unfold T.py at h1 h2
    cases a <;> cases h1 <;> cases b <;> cases h2 <;> simp [PyData.eqv, eqT, eqV]
  | .v a, .lst ys, p, q, h1, h2 => by
    unfold T.py at h1 h2
    cases e : T.pys ys with
    | none => rw [e] at h2; cases h2
    | some qs => rw [e] at h2; cases h2; cases a <;> cases h1 <;> simp [PyData.eqv, eqT]
  | .v a, .tup ys, p, q, h1, h2 => by
    unfold T.py at h1 h2
    cases e : T.pys ys with
    | none => rw [e] at h2; cases h2
    | some qs => rw [e] at h2; cases h2; cases a <;> cases h1 <;> simp [PyData.eqv, eqT]
  | .lst xs, .v b, p, q, h1, h2 => by
    unfold T.py at h1 h2
    cases e : T.pys xs with
    | none => rw [e] at h1; cases h1
    | some qs => rw [e] at h1; cases h1; cases b <;> cases h2 <;> simp [PyData.eqv, eqT]
  | .tup xs, .v b, p, q, h1, h2 => by
    unfold T.py at h1 h2
    cases e : T.pys xs with
    | none => rw [e] at h1; cases h1
    | some qs => rw [e] at h1; cases h1; cases b <;> cases h2 <;> simp [PyData.eqv, eqT]
  | .lst xs, .lst ys, p, q, h1, h2 => by
    unfold T.py at h1 h2
    cases e1 : T.pys xs with
    | none => rw [e1] at h1; cases h1
    | some ps =>
      cases e2 : T.pys ys with
      | none => rw [e2] at h2; cases h2
      | some qs =>
        rw [e1] at h1; rw [e2] at h2; cases h1; cases h2
        simp only [PyData.eqv, eqT]
        exact eqTs_py xs ys ps qs e1 e2
  | .tup xs, .tup ys, p, q, h1, h2 => by
    unfold T.py at h1 h2
    cases e1 : T.pys xs with
    | none => rw [e1] at h1; cases h1
    | some ps =>
      cases e2 : T.pys ys with
      | none => rw [e2] at h2; cases h2
      | some qs =>
        rw [e1] at h1; rw [e2] at h2; cases h1; cases h2
        simp only [PyData.eqv, eqT]
        exact eqTs_py xs ys ps qs e1 e2
  | .lst xs, .tup ys, p, q, h1, h2 => by
    unfold T.py at h1 h2
    cases e1 : T.pys xs with
    | none => rw [e1] at h1; cases h1
    | some ps =>
      cases e2 : T.pys ys with
      | none => rw [e2] at h2; cases h2
      | some qs => rw [e1] at h1; rw [e2] at h2; cases h1; cases h2; simp [PyData.eqv, eqT]
  | .tup xs, .lst ys, p, q, h1, h2 => by
    unfold T.py at h1 h2
    cases e1 : T.pys xs with
    | none => rw [e1] at h1; cases h1
    | some ps =>
      cases e2 : T.pys ys with
      | none => rw [e2] at h2; cases h2
      | some qs => rw [e1] at h1; rw [e2] at h2; cases h1; cases h2; simp [PyData.eqv, eqT]
  | .dct _, _, p, q, h1, h2 => by unfold T.py at h1; cases h1
  | .ins _ _, _, p, q, h1, h2 => by unfold T.py at h1; cases h1
  | .v _, .dct _, p, q, h1, h2 => by unfold T.py at h2; cases h2
  | .v _, .ins _ _, p, q, h1, h2 => by unfold T.py at h2; cases h2
  | .lst _, .dct _, p, q, h1, h2 => by unfold T.py at h2; cases h2
  | .lst _, .ins _ _, p, q, h1, h2 => by unfold T.py at h2; cases h2
  | .tup _, .dct _, p, q, h1, h2 => by unfold T.py at h2; cases h2
  | .tup _, .ins _ _, p, q, h1, h2 => by unfold T.py at h2; cases h2
theorem eqTs_py : ∀ (xs ys : List T) (ps qs : List PyData), T.pys xs = some ps → T.pys ys = some qs → PyData.eqvAll ps qs = eqTs xs ys
  | [], [], ps, qs, h1, h2 => by unfold T.pys at h1 h2; cases h1; cases h2; simp [PyData.eqvAll, eqTs]
  | [], y :: ys, ps, qs, h1, h2 => by
    unfold T.pys at h1 h2; cases h1
    cases e1 : T.py y with
    | none => rw [e1] at h2; cases h2
    | some p =>
      cases e2 : T.pys ys with
      | none => rw [e1, e2] at h2; cases h2
      | some rs => rw [e1, e2] at h2; cases h2; simp [PyData.eqvAll, eqTs]
  | x :: xs, [], ps, qs, h1, h2 => by
    unfold T.pys at h1 h2; cases h2
    cases e1 : T.py x with
    | none => rw [e1] at h1; cases h1
    | some p =>
      cases e2 : T.pys xs with
      | none => rw [e1, e2] at h1; cases h1
      | some rs => rw [e1, e2] at h1; cases h1; simp [PyData.eqvAll, eqTs]
  | x :: xs, y :: ys, ps, qs, h1, h2 => by
    unfold T.pys at h1 h2
    cases e1 : T.py x with
    | none => rw [e1] at h1; cases h1
    | some p =>
      cases e2 : T.pys xs with
      | none => rw [e1, e2] at h1; cases h1
      | some rs =>
        cases e3 : T.py y with
        | none => rw [e3] at h2; cases h2
        | some q =>
          cases e4 : T.pys ys with
          | none => rw [e3, e4] at h2; cases h2
          | some ss =>
            rw [e1, e2] at h1; rw [e3, e4] at h2; cases h1; cases h2
            simp only [PyData.eqvAll, eqTs]
            rw [eqT_py x y p q e1 e3, eqTs_py xs ys rs ss e2 e4]
end
theorem dat_shaped {x : T} (h : dat 64 x = true) : ∃ p, x.py = some p ∧ SeqAt.shaped p = true := by
  obtain ⟨p, e, h1, h2⟩ := dat_py 64 x h
  exact ⟨p, e, by unfold SeqAt.shaped; simp [h1, h2]⟩
theorem tree_t {S : Store} {x : T} : D.tree S (.t x) = some x := by unfold D.tree frz; rfl
theorem py_t {S : Store} {x : T} : D.py S (.t x) = x.py := by unfold D.py; rw [tree_t]; rfl
theorem py_of {S : Store} {d : D} {x : T} (h : d.tree S = some x) : D.py S d = x.py := by unfold D.py; rw [h]; rfl
section
variable {S : Store} {Q : D → Store → Prop} {x y : T}
theorem oEq_of {d e : D} (hd : d.tree S = some x) (he : e.tree S = some y) (hx : dat 64 x = true) (hy : dat 64 y = true) : oEq d e S Q = Q (.bl (eqT x y)) S := by
  obtain ⟨p, e1, h1⟩ := dat_shaped hx
  obtain ⟨q, e2, h2⟩ := dat_shaped hy
  apply propext
  constructor
  · rintro ⟨p', q', e3, e4, _, _, g⟩
    rw [py_of hd, e1] at e3; rw [py_of he, e2] at e4
    cases e3; cases e4
    rwa [eqT_py x y p q e1 e2] at g
  · intro g
    exact ⟨p, q, by rw [py_of hd, e1], by rw [py_of he, e2], h1, h2, by rwa [eqT_py x y p q e1 e2]⟩
theorem oNe_of {d e : D} (hd : d.tree S = some x) (he : e.tree S = some y) (hx : dat 64 x = true) (hy : dat 64 y = true) : oNe d e S Q = Q (.bl (!eqT x y)) S := by
  obtain ⟨p, e1, h1⟩ := dat_shaped hx
  obtain ⟨q, e2, h2⟩ := dat_shaped hy
  apply propext
  constructor
  · rintro ⟨p', q', e3, e4, _, _, g⟩
    rw [py_of hd, e1] at e3; rw [py_of he, e2] at e4
    cases e3; cases e4
    rwa [eqT_py x y p q e1 e2] at g
  · intro g
    exact ⟨p, q, by rw [py_of hd, e1], by rw [py_of he, e2], h1, h2, by rwa [eqT_py x y p q e1 e2]⟩
@[simp] theorem oEq_t (hx : dat 64 x = true) (hy : dat 64 y = true) : oEq (.t x) (.t y) S Q = Q (.bl (eqT x y)) S := oEq_of tree_t tree_t hx hy
@[simp] theorem oNe_t (hx : dat 64 x = true) (hy : dat 64 y = true) : oNe (.t x) (.t y) S Q = Q (.bl (!eqT x y)) S := oNe_of tree_t tree_t hx hy
@[simp] theorem eqT_ii {i j : Int} : eqT (.v (.int i)) (.v (.int j)) = (i == j) := by simp [eqT, eqV]
@[simp] theorem eqT_ss {i j : Str} : eqT (.v (.str i)) (.v (.str j)) = (i == j) := by simp [eqT, eqV]
@[simp] theorem eqT_bb {i j : Bool} : eqT (.v (.bl i)) (.v (.bl j)) = (i == j) := by simp [eqT, eqV]
@[simp] theorem eqT_ll {xs ys : List T} : eqT (.lst xs) (.lst ys) = eqTs xs ys := by simp [eqT]
@[simp] theorem eqT_tt {xs ys : List T} : eqT (.tup xs) (.tup ys) = eqTs xs ys := by simp [eqT]
@[simp] theorem eqTs_nn : eqTs [] [] = true := by simp [eqTs]
@[simp] theorem eqTs_nc {y : T} {ys : List T} : eqTs [] (y :: ys) = false := by simp [eqTs]
@[simp] theorem eqTs_cn {y : T} {ys : List T} : eqTs (y :: ys) [] = false := by simp [eqTs]
@[simp] theorem eqTs_cc {x y : T} {xs ys : List T} : eqTs (x :: xs) (y :: ys) = (eqT x y && eqTs xs ys) := by simp [eqTs]
mutual
theorem eqT_refl : ∀ (n : Nat) (x : T), dat n x = true → eqT x x = true
  | n, .v y, h => by cases y <;> first | (simp [eqT, eqV]; done) | (cases n <;> simp [dat] at h)
  | 0, .lst ts, h => by simp [dat] at h
  | 0, .tup ts, h => by simp [dat] at h
  | n + 1, .lst ts, h => by rw [eqT_ll]; exact eqTs_refl n ts (by simpa [dat] using h)
  | n + 1, .tup ts, h => by rw [eqT_tt]; exact eqTs_refl n ts (by simpa [dat] using h)
  | n, .dct _, h => by cases n <;> simp [dat] at h
  | n, .ins _ _, h => by cases n <;> simp [dat] at h
theorem eqTs_refl : ∀ (n : Nat) (xs : List T), dats n xs = true → eqTs xs xs = true
  | n, [], _ => by simp
  | n, x :: xs, h => by
    have h : dat n x = true ∧ dats n xs = true := by simpa [dats] using h
    simp [eqT_refl n x h.1, eqTs_refl n xs h.2]
end
/-! ### in -/
theorem pys_any {x : T} {p : PyData} (hx : x.py = some p) : ∀ {ts : List T} {ps : List PyData}, T.pys ts = some ps → (ps.any fun z => PyData.eqv z p) = ts.any fun z => eqT z x
  | [], ps, h => by unfold T.pys at h; cases h; rfl
  | t :: ts, ps, h => by
    unfold T.pys at h
    cases e1 : T.py t with
    | none => rw [e1] at h; cases h
    | some q =>
      cases e2 : T.pys ts with
      | none => rw [e1, e2] at h; cases h
      | some qs =>
        rw [e1, e2] at h; cases h
        rw [List.any_cons, List.any_cons, eqT_py t x q p e1 hx, pys_any hx e2]
theorem oIn_of {d : D} {ts : List T} {neg : Bool} (hd : d.tree S = some (.lst ts)) (hx : dat 64 x = true) (hy : dat 64 (.lst ts) = true) (q : Q (.bl (if neg then !(ts.any fun z => eqT z x) else ts.any fun z => eqT z x)) S) : oIn neg (.t x) d S Q := by
  obtain ⟨p, e1, h1⟩ := dat_shaped hx
  obtain ⟨r, e2, h2⟩ := dat_shaped hy
  unfold T.py at e2
  cases e3 : T.pys ts with
  | none => rw [e3] at e2; cases e2
  | some ps =>
    rw [e3] at e2; cases e2
    refine .inl ⟨p, ps, by rw [py_t, e1], by rw [py_of hd]; unfold T.py; rw [e3]; rfl, h1, h2, ?_⟩
    rwa [pys_any e1 e3]
theorem oIn_l {ts : List T} {neg : Bool} (hx : dat 64 x = true) (hy : dat 64 (.lst ts) = true) (q : Q (.bl (if neg then !(ts.any fun z => eqT z x) else ts.any fun z => eqT z x)) S) : oIn neg (.t x) (.t (.lst ts)) S Q := oIn_of tree_t hx hy q
theorem oIn_tv {v : V} {vs : List V} {neg : Bool} (hx : flatV v = true) (hy : vs.all flatV = true) (q : Q (.bl (if neg then !inV v vs else inV v vs)) S) : oIn neg (.t (.v v)) (.t (.tup (vs.map .v))) S Q :=
  .inr ⟨v, vs, rfl, by simp [seqT], hx, hy, q⟩
end
/-! ### a thing and all in it are ones that isinstance may be asked of -/
mutual
def okT (Cs : List Addr) : T → Bool
  | .v y => (tyT (.v y)).isSome
  | .lst ts => okTs Cs ts
  | .tup ts => okTs Cs ts
  | .dct kvs => okKs Cs kvs
  | .ins C _ => decide (C ∈ Cs)
def okTs (Cs : List Addr) : List T → Bool
  | [] => true
  | t :: ts => okT Cs t && okTs Cs ts
def okKs (Cs : List Addr) : List (Key × T) → Bool
  | [] => true
  | (_, t) :: ts => okT Cs t && okKs Cs ts
end
section
variable {Cs : List Addr}
theorem okTs_all : ∀ {ts : List T}, okTs Cs ts = true ↔ ∀ t ∈ ts, okT Cs t = true
  | [] => by simp [okTs]
  | t :: ts => by simp [okTs, okTs_all (ts := ts)]
theorem okT_ok1 {x : T} (h : okT Cs x = true) : ok1 Cs x := by
  cases x with
  | v y =>
    cases y <;> first | exact ⟨_, rfl, fun _ e => nomatch e⟩ | simp [okT, tyT] at h
  | ins C fs => exact ⟨_, rfl, fun _ e => by cases e; simpa [okT] using h⟩
  | _ => exact ⟨_, rfl, fun _ e => nomatch e⟩
theorem okT_lst {ts : List T} : okT Cs (.lst ts) = true ↔ ∀ t ∈ ts, okT Cs t = true := by rw [okT]; exact okTs_all
theorem okT_tup {ts : List T} : okT Cs (.tup ts) = true ↔ ∀ t ∈ ts, okT Cs t = true := by rw [okT]; exact okTs_all
mutual
theorem dat_ok : ∀ (n : Nat) (x : T), dat n x = true → okT Cs x = true
  | n, .v y, h => by cases y <;> first | (simp [okT, tyT]; done) | (cases n <;> simp [dat] at h)
  | 0, .lst ts, h => by simp [dat] at h
  | 0, .tup ts, h => by simp [dat] at h
  | n + 1, .lst ts, h => by rw [okT]; exact dats_ok n ts (by simpa [dat] using h)
  | n + 1, .tup ts, h => by rw [okT]; exact dats_ok n ts (by simpa [dat] using h)
  | n, .dct _, h => by cases n <;> simp [dat] at h
  | n, .ins _ _, h => by cases n <;> simp [dat] at h
theorem dats_ok : ∀ (n : Nat) (xs : List T), dats n xs = true → okTs Cs xs = true
  | n, [], _ => by simp [okTs]
  | n, x :: xs, h => by
    have h : dat n x = true ∧ dats n xs = true := by simpa [dats] using h
    simp [okTs, dat_ok n x h.1, dats_ok n xs h.2]
end
end
end DL
set_option Elab.async false
set_option linter.all false
set_option maxRecDepth 100000
/-! DL12: targets, slices, comprehensions run by simp -/
namespace DL
open PySem PySem.Spec PyProof.Rows L2

def seqOf : T → Option (List T)
  | .lst ts => some ts
  | .tup ts => some ts
  | _ => none
@[simp] theorem seqOf_l {ts} : seqOf (.lst ts) = some ts := rfl
@[simp] theorem seqOf_t {ts} : seqOf (.tup ts) = some ts := rfl
theorem isSeq_of {x : T} {ts} (h : seqOf x = some ts) : isSeq x = true := by unfold seqOf at h; split at h <;> first | rfl | cases h
theorem seqOf_no {x : T} (h : isSeq x = false) : seqOf x = none := by cases x <;> simp_all [isSeq, seqOf]
theorem seqA_of {S : Store} {x : T} {ts} (h : seqOf x = some ts) : seqA S (.t x) = some (ts.map .t) := by
  unfold seqOf at h; split at h <;> first | (cases h; rfl) | cases h
theorem seqOf_em (x : T) : (∃ ts, seqOf x = some ts ∧ isSeq x = true) ∨ (isSeq x = false ∧ seqOf x = none) := by
  cases x with
  | lst ts => exact .inl ⟨ts, rfl, rfl⟩
  | tup ts => exact .inl ⟨ts, rfl, rfl⟩
  | _ => exact .inr ⟨rfl, rfl⟩
theorem okT_seq {Cs : List Addr} {x : T} {ts : List T} (h : okT Cs x = true) (e : seqOf x = some ts) : ∀ t ∈ ts, okT Cs t = true := by
  cases x with
  | lst us => cases e; exact okT_lst.mp h
  | tup us => cases e; exact okT_tup.mp h
  | _ => cases e
section
variable {X : XQ} {ρ : Env} {S : Store} {De : DEnds} {Q : D → Store → Prop}
theorem gTupD_s {n : Nat} {t : TGsD} {d : D} {ds : List D} {Q : Env → Store → Prop} (h : seqA S d = some ds) : gTupD n t d X ρ S Q = (ds.length = n ∧ t ds X ρ S Q) := by
  apply propext
  have hd : ∀ es, (seqT S d = some es ∨ seqL S d = some es) → es = ds := by
    intro es he
    cases d with
    | t x =>
      cases x with
      | lst ts => rcases he with he | he <;> cases he; cases h; rfl
      | tup ts => rcases he with he | he <;> cases he; cases h; rfl
      | _ => rcases he with he | he <;> cases he
    | m i =>
      unfold seqA at h
      unfold seqT seqL at he
      unfold seqL seqT at h
      cases c : S[i]? with
      | none => simp [c] at he
      | some c' =>
        simp only [c, Option.bind_some] at h he
        cases c' with
        | lst us => simp [cellL, cellT] at he h; rw [← he, h]
        | tup us => simp [cellL, cellT] at he h; rw [← he, h]
        | fz u => cases u <;> simp [cellL, cellT] at he h <;> rw [← he, h]
        | _ => simp [cellL, cellT] at he
  constructor
  · rintro ⟨es, he, hl, q⟩
    rw [hd es he] at hl q
    exact ⟨hl, q⟩
  · rintro ⟨hl, q⟩
    unfold seqA at h
    cases e : seqL S d with
    | some es => rw [e] at h; cases h; exact ⟨ds, .inr e, hl, q⟩
    | none => rw [e] at h; exact ⟨ds, .inl h, hl, q⟩
@[simp] theorem gTupD_t {n : Nat} {t : TGsD} {ts : List T} {Q : Env → Store → Prop} : gTupD n t (.t (.tup ts)) X ρ S Q = (ts.length = n ∧ t (ts.map .t) X ρ S Q) := by rw [gTupD_s rfl, List.length_map]
@[simp] theorem gTupD_l {n : Nat} {t : TGsD} {ts : List T} {Q : Env → Store → Prop} : gTupD n t (.t (.lst ts)) X ρ S Q = (ts.length = n ∧ t (ts.map .t) X ρ S Q) := by rw [gTupD_s rfl, List.length_map]
/-! ### slices -/
def slD (d : D) (lo hi : Option Int) (S : Store) (Q : D → Store → Prop) : Prop := ∃ ds ts, asTs (cutG ds lo hi) = some ts ∧ ((seqL S d = some ds ∧ Q (.t (.lst ts)) S) ∨ (seqT S d = some ds ∧ Q (.t (.tup ts)) S))
@[simp] theorem dSl_e {te : TED} {tl th : TOD} : dSl te tl th X ρ S Q = te X ρ S fun d S1 => tl X ρ S1 fun lo S2 => th X ρ S2 fun hi S3 => slD d lo hi S3 Q := rfl
theorem cutG_map {ts : List T} {lo hi : Option Int} : cutG (ts.map D.t) lo hi = (cutG ts lo hi).map .t := by unfold cutG; simp
@[simp] theorem slD_l {ts : List T} {lo hi : Option Int} : slD (.t (.lst ts)) lo hi S Q = Q (.t (.lst (cutG ts lo hi))) S := by
  apply propext
  constructor
  · rintro ⟨ds, us, h, ⟨h1, q⟩ | ⟨h1, q⟩⟩
    · cases h1; rw [cutG_map, asTs_map] at h; cases h; exact q
    · cases h1
  · exact fun q => ⟨_, _, by rw [cutG_map, asTs_map], .inl ⟨rfl, q⟩⟩
@[simp] theorem slD_t {ts : List T} {lo hi : Option Int} : slD (.t (.tup ts)) lo hi S Q = Q (.t (.tup (cutG ts lo hi))) S := by
  apply propext
  constructor
  · rintro ⟨ds, us, h, ⟨h1, q⟩ | ⟨h1, q⟩⟩
    · cases h1
    · cases h1; rw [cutG_map, asTs_map] at h; cases h; exact q
  · exact fun q => ⟨_, _, by rw [cutG_map, asTs_map], .inr ⟨rfl, q⟩⟩
def cutT (x : T) (lo hi : Option Int) : T := match x with
  | .lst ts => .lst (cutG ts lo hi)
  | .tup ts => .tup (cutG ts lo hi)
  | x => x
theorem slD_x {x : T} {ts : List T} {lo hi : Option Int} (h : seqOf x = some ts) : slD (.t x) lo hi S Q = Q (.t (cutT x lo hi)) S := by
  cases x with
  | lst us => cases h; exact slD_l
  | tup us => cases h; exact slD_t
  | _ => cases h
theorem seqOf_cutT {x : T} {ts : List T} {lo hi : Option Int} (h : seqOf x = some ts) : seqOf (cutT x lo hi) = some (cutG ts lo hi) := by
  cases x with
  | lst us => cases h; rfl
  | tup us => cases h; rfl
  | _ => cases h
@[simp] theorem cutG_nn {α : Type} {xs : List α} : cutG xs none none = xs := by unfold cutG HT.sIx; simp
theorem sIx_nat' (n d k : Nat) : HT.sIx n d (some (k : Int)) = min k n := by
  show (if (k : Int) < 0 then ((k : Int) + (n : Int)).toNat else min (k : Int).toNat n) = min k n
  rw [if_neg (by omega), Int.toNat_natCast]
@[simp] theorem cutG_to {α : Type} {xs : List α} {k : Nat} : cutG xs none (some (k : Int)) = xs.take k := by
  unfold cutG
  rw [sIx_nat', show HT.sIx xs.length 0 none = 0 from rfl, List.drop_zero, Nat.sub_zero]
  by_cases h : k ≤ xs.length
  · rw [Nat.min_eq_left h]
  · rw [Nat.min_eq_right (by omega), List.take_of_length_le (Nat.le_refl _), List.take_of_length_le (by omega)]
@[simp] theorem cutG_from {α : Type} {xs : List α} {k : Nat} : cutG xs (some (k : Int)) none = xs.drop k := by
  unfold cutG
  rw [sIx_nat', show HT.sIx xs.length xs.length none = xs.length from rfl]
  by_cases h : k ≤ xs.length
  · rw [Nat.min_eq_left h, List.take_of_length_le (by simp)]
  · rw [Nat.min_eq_right (by omega), List.drop_of_length_le (Nat.le_refl _), List.drop_of_length_le (by omega)]; simp
@[simp] theorem dRev_e {te : TED} : dRev te X ρ S Q = te X ρ S fun d S1 => ∃ ds ts, seqL S1 d = some ds ∧ asTs ds.reverse = some ts ∧ Q (.t (.lst ts)) S1 := rfl
theorem asTs_iff {ds : List D} {ts : List T} : asTs ds = some ts ↔ ds = ts.map .t := by
  constructor
  · intro h
    induction ds generalizing ts with
    | nil => cases h; rfl
    | cons d ds ih =>
      cases d with
      | t x =>
        unfold asTs at h
        cases e : asTs ds with
        | none => rw [e] at h; cases h
        | some us => rw [e] at h; cases h; rw [ih e]; rfl
      | m i => unfold asTs at h; cases h
  · rintro rfl; exact asTs_map ts
@[simp] theorem asTs_mapt {ts : List T} : asTs (ts.map D.t) = some ts := asTs_map ts
/-! ### index -/
theorem oIx_x {x : T} {ts : List T} {i : Int} (h : seqOf x = some ts) : oIx (.t x) (.t (.v (.int i))) S Q = ∃ t, atI ts i = some t ∧ Q (.t t) S := oIx_s (seqA_of h)
theorem cLen_x {x : T} {ts : List T} (h : seqOf x = some ts) : cLen [.t x] S Q = Q (.int ts.length) S := by
  cases x with
  | lst us => cases h; exact cLen_l
  | tup us => cases h; exact cLen_t
  | _ => cases h
theorem atI_nat {α : Type} {xs : List α} {k : Nat} : atI xs (k : Int) = xs[k]? := by
  unfold atI ixN
  rw [if_pos (by omega)]
  by_cases h : k < xs.length
  · rw [if_pos (by omega)]; simp
  · rw [if_neg (by omega), List.getElem?_eq_none (by omega)]; rfl
@[simp] theorem atI_0 {α : Type} {xs : List α} : atI xs 0 = xs[0]? := atI_nat (k := 0)
@[simp] theorem atI_1 {α : Type} {xs : List α} : atI xs 1 = xs[1]? := atI_nat (k := 1)
@[simp] theorem atI_2 {α : Type} {xs : List α} : atI xs 2 = xs[2]? := atI_nat (k := 2)
@[simp] theorem atI_3 {α : Type} {xs : List α} : atI xs 3 = xs[3]? := atI_nat (k := 3)
@[simp] theorem atI_4 {α : Type} {xs : List α} : atI xs 4 = xs[4]? := atI_nat (k := 4)
@[simp] theorem atI_5 {α : Type} {xs : List α} : atI xs 5 = xs[5]? := atI_nat (k := 5)
@[simp] theorem atI_n {α : Type} {xs : List α} {k : Nat} : atI xs (k : Int) = xs[k]? := atI_nat
/-! ### any, all, list, tuple -/
theorem map_inj {α β : Type} {f : α → β} (hf : ∀ a b, f a = f b → a = b) {xs ys : List α} (h : xs.map f = ys.map f) : xs = ys := (List.map_inj_right (fun a b => hf a b)).mp h
theorem cAll_map {α : Type} {ts : List α} {p : α → Bool} : cAll [.t (.lst (ts.map fun x => T.v (V.bl (p x))))] S Q = Q (.bl (ts.all p)) S := by
  have e : seqL S (.t (.lst (ts.map fun x => T.v (V.bl (p x))))) = some ((ts.map p).map .bl) := by simp [seqL]
  apply propext
  constructor
  · rintro ⟨d, bs, h, h1, q⟩
    cases h
    rw [e] at h1
    have := map_inj (f := D.bl) (fun a b h => by cases h; rfl) (Option.some.inj h1)
    rw [← this] at q
    simpa using q
  · exact fun q => ⟨_, ts.map p, rfl, e, by simpa using q⟩
theorem cAny_map {α : Type} {ts : List α} {p : α → Bool} : cAny [.t (.lst (ts.map fun x => T.v (V.bl (p x))))] S Q = Q (.bl (ts.any p)) S := by
  have e : seqL S (.t (.lst (ts.map fun x => T.v (V.bl (p x))))) = some ((ts.map p).map .bl) := by simp [seqL]
  apply propext
  constructor
  · rintro ⟨d, bs, h, h1, q⟩
    cases h
    rw [e] at h1
    have := map_inj (f := D.bl) (fun a b h => by cases h; rfl) (Option.some.inj h1)
    rw [← this] at q
    simpa using q
  · exact fun q => ⟨_, ts.map p, rfl, e, by simpa using q⟩
theorem cList_x {x : T} {ts : List T} (h : seqOf x = some ts) : cList [.t x] S Q = Q (.t (.lst ts)) S := by
  apply propext
  constructor
  · rintro ⟨d, xs, us, h1, h2, h3, q⟩
    cases h1
    rw [seqA_of h] at h2
    cases h2
    rw [asTs_map] at h3
    cases h3
    exact q
  · exact fun q => ⟨_, _, ts, rfl, seqA_of h, asTs_map ts, q⟩
theorem cListM_x {x : T} {ts : List T} (h : seqOf x = some ts) : cListM [.t x] S Q = Q (.m S.length) (S ++ [.lst (ts.map .t)]) := by
  apply propext
  constructor
  · rintro ⟨d, xs, h1, h2, q⟩
    cases h1
    rw [seqA_of h] at h2
    cases h2
    exact q
  · exact fun q => ⟨_, _, rfl, seqA_of h, q⟩
theorem cTuple_x {x : T} {ts : List T} (h : seqOf x = some ts) : cTuple [.t x] S Q = Q (.t (.tup ts)) S := by
  apply propext
  constructor
  · rintro ⟨d, xs, us, h1, ⟨h2, h3, q⟩ | ⟨h2, q⟩⟩
    · cases h1
      cases x with
      | lst vs => cases h2; cases h; rw [asTs_map] at h3; cases h3; exact q
      | _ => cases h2
    · cases h1; cases h2; cases h; exact q
  · intro q
    cases x with
    | lst vs => cases h; exact ⟨_, _, ts, rfl, .inl ⟨rfl, asTs_map ts, q⟩⟩
    | tup vs => cases h; exact ⟨_, [], ts, rfl, .inr ⟨rfl, q⟩⟩
    | _ => cases h
/-! ### what is walked -/
def seqI (d : D) (S : Store) (R : ItD → Store → Prop) : Prop := ∃ ds, (seqL S d = some ds ∧ R ⟨ds, Stays ds seqL d⟩ S) ∨ (seqT S d = some ds ∧ R ⟨ds, Stays ds seqT d⟩ S)
def enumI (d : D) (S : Store) (R : ItD → Store → Prop) : Prop := ∃ ds, allT ds ∧ ((seqL S d = some ds ∧ R ⟨enums 0 ds, Stays ds seqL d⟩ S) ∨ (seqT S d = some ds ∧ R ⟨enums 0 ds, Stays ds seqT d⟩ S))
def rng1I (ds : List D) (S : Store) (R : ItD → Store → Prop) : Prop := ∃ j : Int, ds = [.t (.v (.int j))] ∧ -(2 ^ 62) ≤ j ∧ j < 2 ^ 62 ∧ R ⟨dInts 0 j.toNat, fun _ => True⟩ S
def rng2I (ds : List D) (S : Store) (R : ItD → Store → Prop) : Prop := ∃ i j : Int, ds = [.t (.v (.int i)), .t (.v (.int j))] ∧ (-(2 ^ 62) ≤ i ∧ i < 2 ^ 62 ∧ -(2 ^ 62) ≤ j ∧ j < 2 ^ 62) ∧ R ⟨dInts i (j - i).toNat, fun _ => True⟩ S
def zipI (ds : List D) (S1 : Store) (R : ItD → Store → Prop) : Prop := ∃ x y xs ys, ds = [x, y] ∧ allT xs ∧ allT ys ∧
  ((seqL S1 x = some xs ∧ seqL S1 y = some ys ∧ R ⟨zips xs ys, fun S' => seqL S' x = some xs ∧ seqL S' y = some ys⟩ S1) ∨ (seqT S1 x = some xs ∧ seqT S1 y = some ys ∧ R ⟨zips xs ys, fun S' => seqT S' x = some xs ∧ seqT S' y = some ys⟩ S1))
@[simp] theorem iSeq_e {t : TED} {R} : iSeq t X ρ S R = t X ρ S fun d S1 => seqI d S1 R := rfl
@[simp] theorem iEnumD_e {t : TED} {R} : iEnumD t X ρ S R = t X ρ S fun d S1 => enumI d S1 R := rfl
@[simp] theorem iRange1_e {t : TAD} {R} : iRange1 t X ρ S R = t X ρ S fun ds S1 => rng1I ds S1 R := rfl
@[simp] theorem iRange2_e {t : TAD} {R} : iRange2 t X ρ S R = t X ρ S fun ds S1 => rng2I ds S1 R := rfl
@[simp] theorem iZipD_e {t : TAD} {R} : iZipD t X ρ S R = t X ρ S fun ds S1 => zipI ds S1 R := rfl
/-- trees to be walked: the guard is always kept -/
structure ItT (it : ItD) (ts : List T) : Prop where
  items : it.items = ts.map .t
  g : ∀ S, it.g S
theorem itT_x {x : T} {ts : List T} (h : seqOf x = some ts) {R : ItD → Store → Prop} (q : ∀ it, ItT it ts → R it S) : seqI (.t x) S R := by
  cases x with
  | lst us => cases h; exact ⟨_, .inl ⟨rfl, q _ ⟨rfl, fun _ => rfl⟩⟩⟩
  | tup us => cases h; exact ⟨_, .inr ⟨rfl, q _ ⟨rfl, fun _ => rfl⟩⟩⟩
  | _ => cases h
def numbered (k : Nat) : List T → List T
  | [] => []
  | x :: xs => .tup [.int (k : Nat), x] :: numbered (k + 1) xs
theorem enums_map : ∀ {ts : List T} {k : Nat}, enums k (ts.map .t) = (numbered k ts).map .t
  | [], _ => by simp [enums, numbered]
  | x :: xs, k => by
    simp only [List.map_cons, numbered]
    rw [enums, enums_map]
theorem numbered_get {ts : List T} {k i : Nat} : (numbered k ts)[i]? = (ts[i]?).map fun x => .tup [.int ((k + i : Nat) : Int), x] := by
  induction ts generalizing k i with
  | nil => simp [numbered]
  | cons x xs ih =>
    cases i with
    | zero => simp [numbered]
    | succ j => simp only [numbered, List.getElem?_cons_succ]; rw [ih]; congr 1; funext y; congr 4; omega
@[simp] theorem numbered_len {ts : List T} {k : Nat} : (numbered k ts).length = ts.length := by
  induction ts generalizing k with
  | nil => rfl
  | cons x xs ih => simp [numbered, ih]
theorem itT_enum {x : T} {ts : List T} (h : seqOf x = some ts) {R : ItD → Store → Prop} (q : ∀ it, ItT it (numbered 0 ts) → R it S) : enumI (.t x) S R := by
  cases x with
  | lst us => cases h; exact ⟨_, allT_map _, .inl ⟨rfl, q _ ⟨enums_map, fun _ => rfl⟩⟩⟩
  | tup us => cases h; exact ⟨_, allT_map _, .inr ⟨rfl, q _ ⟨enums_map, fun _ => rfl⟩⟩⟩
  | _ => cases h
theorem dInts_T {lo : Int} {n : Nat} : ItT ⟨dInts lo n, fun _ => True⟩ ((List.range n).map fun i : Nat => .int (lo + i)) := ⟨by simp [dInts], fun _ => True.intro⟩
/-! ### [.. for ..], nothing changes -/
@[simp] theorem dLc_e {wi : TID} {g : TGD} {tt : TTD} {te : TED} {vs : List Nat} : dLc wi g tt te vs X ρ S Q = wi X ρ S fun it S1 => lcTr g tt te vs ρ it S1 Q := rfl
@[simp] theorem dLcM_e {wi : TID} {g : TGD} {tt : TTD} {te : TED} {vs : List Nat} : dLcM wi g tt te vs X ρ S Q = wi X ρ S fun it S1 => lcIn g tt te vs ρ it S1 Q := rfl
theorem lc_fm {g : TGD} {tt : TTD} {te : TED} {vs : List Nat} {it : ItD} {ts : List T} (p : T → Bool) (e : T → T) (hi : ItT it ts) (hc : ClosedS S.length S) (hl : ts.length ≤ sizeLine)
    (h : ∀ x ∈ ts, ∀ (S2 : Store) (Ky : D → Store → Prop) (Kn : Store → Prop), (p x = true → Ky (.t (e x)) S2) → (p x = false → Kn S2) → g (.t x) noX (wipeD ρ vs) S2 fun ρ2 S3 => tt noX ρ2 S3 fun b S4 => if b = true then te noX ρ2 S4 Ky else Kn S4)
    (q : Q (.t (.lst ((ts.filter p).map e))) S) : lcTr g tt te vs ρ it S Q := by
  refine ⟨fun i acc S' => S' = S ∧ i ≤ ts.length ∧ acc = ((ts.take i).filter p).map e, ⟨rfl, Nat.zero_le _, by simp⟩, fun i acc S' ⟨e, _, _⟩ => by subst e; exact ⟨rfl, hc, hi.g _⟩, ?_, ?_⟩
  · rintro i d acc S' hd ⟨rfl, hle, rfl⟩
    rw [hi.items, List.getElem?_map] at hd
    cases hx : ts[i]? with
    | none => rw [hx] at hd; cases hd
    | some x =>
      rw [hx] at hd
      have hd : D.t x = d := Option.some.inj hd
      subst hd
      obtain ⟨hlt, hx'⟩ := List.getElem?_eq_some_iff.mp hx
      have tk : ts.take (i + 1) = ts.take i ++ [x] := by rw [List.take_succ, hx]; rfl
      have tl : ((ts.take i).filter p).length ≤ i := Nat.le_trans (List.length_filter_le _ _) (by simp; omega)
      refine h x (hx' ▸ List.getElem_mem _) _ _ _ (fun hp => ⟨e x, S', rfl, rfl, by simp; omega, rfl, hlt, ?_⟩) (fun hp => ⟨S', rfl, rfl, hlt, ?_⟩)
      · rw [tk, List.filter_append]; simp [hp]
      · rw [tk, List.filter_append]; simp [hp]
  · rintro acc S' ⟨rfl, _, rfl⟩
    rw [hi.items]
    simpa using q
theorem lc_map {g : TGD} {te : TED} {vs : List Nat} {it : ItD} {ts : List T} (e : T → T) (hi : ItT it ts) (hc : ClosedS S.length S) (hl : ts.length ≤ sizeLine)
    (h : ∀ x ∈ ts, ∀ (S2 : Store) (Ky : D → Store → Prop), Ky (.t (e x)) S2 → g (.t x) noX (wipeD ρ vs) S2 fun ρ2 S3 => te noX ρ2 S3 Ky)
    (q : Q (.t (.lst (ts.map e))) S) : lcTr g dYes te vs ρ it S Q :=
  lc_fm (fun _ => true) e hi hc hl (fun x hx S2 Ky Kn h1 _ => by simpa using h x hx S2 Ky (h1 rfl)) (by rw [List.filter_eq_self.mpr (fun _ _ => rfl)]; exact q)
/-- for, by an invariant; trees are walked -/
def forI (g : TGD) (tb : TSD) (De : DEnds) (ρ : Env) (it : ItD) (S1 : Store) : Prop := ∃ Pv : Nat → Env → Store → Prop, Pv 0 ρ S1 ∧ (∀ i ρ S, Pv i ρ S → it.g S) ∧
  (∀ i d ρ S, it.items[i]? = some d → Pv i ρ S → g d De.ex ρ S fun ρ2 S2 => tb { De with nx := Pv (i + 1), ct := Pv (i + 1), bk := De.nx } ρ2 S2) ∧ (∀ ρ S, Pv it.items.length ρ S → De.nx ρ S)
@[simp] theorem sFor_e {wi : TID} {g : TGD} {tb : TSD} : sFor wi g tb De ρ S = wi De.ex ρ S fun it S1 => forI g tb De ρ it S1 := rfl
theorem for_T {g : TGD} {tb : TSD} {it : ItD} {ts : List T} (hi : ItT it ts) (Pv : Nat → Env → Store → Prop) (p0 : Pv 0 ρ S)
    (ph : ∀ i x ρ S, ts[i]? = some x → Pv i ρ S → g (.t x) De.ex ρ S fun ρ2 S2 => tb { De with nx := Pv (i + 1), ct := Pv (i + 1), bk := De.nx } ρ2 S2) (pn : ∀ ρ S, Pv ts.length ρ S → De.nx ρ S) : forI g tb De ρ it S := by
  refine ⟨Pv, p0, fun _ _ _ _ => hi.g _, fun i d ρ S hd p => ?_, fun ρ S p => pn ρ S (by rw [hi.items, List.length_map] at p; exact p)⟩
  rw [hi.items, List.getElem?_map] at hd
  cases hx : ts[i]? with
  | none => rw [hx] at hd; cases hd
  | some x =>
    rw [hx] at hd
    have hd : D.t x = d := Option.some.inj hd
    subst hd
    exact ph i x ρ S hx p
def loopI (W : Nat → Env → Store → Prop) (m : Nat) (tb : TSD) (De : DEnds) (ρ : Env) (S1 : Store) : Prop := ∃ N : Env → Store → Prop, (∀ ρ' S', N ρ' S' → ∃ m', m' < m ∧ W m' ρ' S') ∧ tb { De with nx := N, ct := N, bk := De.nx } ρ S1
def whileI (c : TTD) (tb : TSD) (De : DEnds) (ρ : Env) (S : Store) : Prop := ∃ W : Nat → Env → Store → Prop, (∃ m, W m ρ S) ∧ ∀ m ρ S, W m ρ S →
  c De.ex ρ S fun b S1 => if b = true then loopI W m tb De ρ S1 else De.nx ρ S1
@[simp] theorem sWhile_e {c : TTD} {tb : TSD} : sWhile c tb De ρ S = whileI c tb De ρ S := rfl
/-- on to a turn with less left -/
def Less (W : Nat → Env → Store → Prop) (m : Nat) : Env → Store → Prop := fun ρ' S' => ∃ m', m' < m ∧ W m' ρ' S'
theorem loop_I {W : Nat → Env → Store → Prop} {m : Nat} {tb : TSD} (h : tb { De with nx := Less W m, ct := Less W m, bk := De.nx } ρ S) : loopI W m tb De ρ S := ⟨_, fun _ _ h => h, h⟩
theorem while_I {c : TTD} {tb : TSD} (W : Nat → Env → Store → Prop) (m : Nat) (w0 : W m ρ S) (h : ∀ m ρ S, W m ρ S → c De.ex ρ S fun b S1 => if b = true then loopI W m tb De ρ S1 else De.nx ρ S1) : whileI c tb De ρ S := ⟨W, ⟨m, w0⟩, h⟩
end
end DL
set_option Elab.async false
set_option linter.all false
set_option maxRecDepth 100000
/-! DL13: calls that only read: the callee sees trees -/
namespace DL
open PySem PySem.Spec PyProof.Rows L2

mutual
theorem frz_mono {n : Nat} {S : Store} : ∀ (f : Nat) (d : D) (t : T), frz n S f d = some t → frz n S (f + 1) d = some t
  | f, .t x, t, h => by unfold frz at h ⊢; exact h
  | 0, .m i, t, h => by unfold frz at h; cases h
  | f + 1, .m i, t, h => by
    unfold frz at h
    unfold frz
    cases hc : S[i]? with
    | none => rw [hc] at h; cases h
    | some c =>
      rw [hc] at h
      cases c with
      | fz u => exact h
      | lst ds =>
        have h : (if n ≤ i then (frzL n S f ds).map T.lst else none) = some t := h
        show (if n ≤ i then (frzL n S (f + 1) ds).map T.lst else none) = some t
        by_cases hi : n ≤ i
        · rw [if_pos hi] at h ⊢
          cases q : frzL n S f ds with
          | none => rw [q] at h; cases h
          | some ts => rw [q] at h; rw [frzL_mono f ds ts q]; exact h
        · rw [if_neg hi] at h; cases h
      | dct ds =>
        have h : (if n ≤ i then (frzK n S f ds).map T.dct else none) = some t := h
        show (if n ≤ i then (frzK n S (f + 1) ds).map T.dct else none) = some t
        by_cases hi : n ≤ i
        · rw [if_pos hi] at h ⊢
          cases q : frzK n S f ds with
          | none => rw [q] at h; cases h
          | some ts => rw [q] at h; rw [frzK_mono f ds ts q]; exact h
        · rw [if_neg hi] at h; cases h
      | ins C ds =>
        have h : (if n ≤ i then (frzF n S f ds).map (T.ins C) else none) = some t := h
        show (if n ≤ i then (frzF n S (f + 1) ds).map (T.ins C) else none) = some t
        by_cases hi : n ≤ i
        · rw [if_pos hi] at h ⊢
          cases q : frzF n S f ds with
          | none => rw [q] at h; cases h
          | some ts => rw [q] at h; rw [frzF_mono f ds ts q]; exact h
        · rw [if_neg hi] at h; cases h
      | tup ds =>
        have h : (if n ≤ i then (frzL n S f ds).map T.tup else none) = some t := h
        show (if n ≤ i then (frzL n S (f + 1) ds).map T.tup else none) = some t
        by_cases hi : n ≤ i
        · rw [if_pos hi] at h ⊢
          cases q : frzL n S f ds with
          | none => rw [q] at h; cases h
          | some ts => rw [q] at h; rw [frzL_mono f ds ts q]; exact h
        · rw [if_neg hi] at h; cases h
      | strmI => cases h
      | strm b => cases h
theorem frzL_mono {n : Nat} {S : Store} : ∀ (f : Nat) (ds : List D) (ts : List T), frzL n S f ds = some ts → frzL n S (f + 1) ds = some ts
  | f, [], ts, h => by unfold frzL at h ⊢; exact h
  | f, d :: ds, ts, h => by
    unfold frzL at h ⊢
    cases q1 : frz n S f d with
    | none => rw [q1] at h; cases h
    | some t =>
      cases q2 : frzL n S f ds with
      | none => rw [q1, q2] at h; cases h
      | some us => rw [q1, q2] at h; rw [frz_mono f d t q1, frzL_mono f ds us q2]; exact h
theorem frzK_mono {n : Nat} {S : Store} : ∀ (f : Nat) (ds : List (Key × D)) (ts : List (Key × T)), frzK n S f ds = some ts → frzK n S (f + 1) ds = some ts
  | f, [], ts, h => by unfold frzK at h ⊢; exact h
  | f, (k, d) :: ds, ts, h => by
    unfold frzK at h ⊢
    cases q1 : frz n S f d with
    | none => rw [q1] at h; cases h
    | some t =>
      cases q2 : frzK n S f ds with
      | none => rw [q1, q2] at h; cases h
      | some us => rw [q1, q2] at h; rw [frz_mono f d t q1, frzK_mono f ds us q2]; exact h
theorem frzF_mono {n : Nat} {S : Store} : ∀ (f : Nat) (ds : List (Str × D)) (ts : List (Str × T)), frzF n S f ds = some ts → frzF n S (f + 1) ds = some ts
  | f, [], ts, h => by unfold frzF at h ⊢; exact h
  | f, (k, d) :: ds, ts, h => by
    unfold frzF at h ⊢
    cases q1 : frz n S f d with
    | none => rw [q1] at h; cases h
    | some t =>
      cases q2 : frzF n S f ds with
      | none => rw [q1, q2] at h; cases h
      | some us => rw [q1, q2] at h; rw [frz_mono f d t q1, frzF_mono f ds us q2]; exact h
end
theorem frz_le {n : Nat} {S : Store} {f g : Nat} {d : D} {t : T} (h : frz n S f d = some t) (hle : f ≤ g) : frz n S g d = some t := by
  induction hle with
  | refl => exact h
  | step _ ih => exact frz_mono _ d t ih
section
variable {CT : TTs} {as : List Addr} {S : Store} {H : Hp} {L' : Addr → Prop} {N : Nat}
mutual
theorem frz_rep (st : StOk CT as S H) (hL : ∀ a, L' a → Live as S a) (hF : ∀ (i : Nat) a t, as[i]? = some a → frz 0 S N (.m i) = some t → ¬ L' a) : ∀ (f : Nat) (d : D) (t : T) (y : V), f ≤ N → frz 0 S f d = some t → RepD as (Live as S) H d y → Rep L' H t y
  | f, .t x, t, y, _, e, r => by
    have e : x = t := by unfold frz at e; exact Option.some.inj e
    subst e
    exact Rep.weak hL r
  | 0, .m i, t, y, _, e, r => by unfold frz at e; cases e
  | f + 1, .m i, t, y, hf, e0, ⟨a, ha, ey⟩ => by
    subst ey
    have nl := hF i a t ha (frz_le e0 hf)
    obtain ⟨c, hc, ok⟩ := st.mem ha
    have e := e0
    unfold frz at e
    rw [hc] at e
    cases c with
    | fz u => cases e; exact Rep.weak hL ok.2
    | lst ds =>
      have e : (if 0 ≤ i then (frzL 0 S f ds).map T.lst else none) = some t := e
      rw [if_pos (Nat.zero_le _)] at e
      cases q : frzL 0 S f ds with
      | none => rw [q] at e; cases e
      | some ts =>
        rw [q] at e; cases e
        obtain ⟨xs, h1, h2⟩ := ok
        exact ⟨a, xs, rfl, nl, h1, frzL_rep st hL hF f ds ts xs (by omega) q h2⟩
    | dct ds =>
      have e : (if 0 ≤ i then (frzK 0 S f ds).map T.dct else none) = some t := e
      rw [if_pos (Nat.zero_le _)] at e
      cases q : frzK 0 S f ds with
      | none => rw [q] at e; cases e
      | some ts =>
        rw [q] at e; cases e
        obtain ⟨xs, h1, h2⟩ := ok
        exact ⟨a, xs, rfl, nl, h1, frzK_rep st hL hF f ds ts xs (by omega) q h2⟩
    | ins C ds =>
      have e : (if 0 ≤ i then (frzF 0 S f ds).map (T.ins C) else none) = some t := e
      rw [if_pos (Nat.zero_le _)] at e
      cases q : frzF 0 S f ds with
      | none => rw [q] at e; cases e
      | some ts =>
        rw [q] at e; cases e
        obtain ⟨dx, xs, h1, h2⟩ := ok
        exact ⟨a, dx, xs, rfl, nl, h1, frzF_rep st hL hF f ds ts xs (by omega) q h2⟩
    | tup ds =>
      have e : (if 0 ≤ i then (frzL 0 S f ds).map T.tup else none) = some t := e
      rw [if_pos (Nat.zero_le _)] at e
      cases q : frzL 0 S f ds with
      | none => rw [q] at e; cases e
      | some ts =>
        rw [q] at e; cases e
        obtain ⟨xs, h1, h2⟩ := ok
        exact ⟨a, xs, rfl, nl, h1, frzL_rep st hL hF f ds ts xs (by omega) q h2⟩
    | strmI => cases e
    | strm b => cases e
theorem frzL_rep (st : StOk CT as S H) (hL : ∀ a, L' a → Live as S a) (hF : ∀ (i : Nat) a t, as[i]? = some a → frz 0 S N (.m i) = some t → ¬ L' a) : ∀ (f : Nat) (ds : List D) (ts : List T) (xs : List V), f ≤ N → frzL 0 S f ds = some ts → RepDs as (Live as S) H ds xs → RepL L' H ts xs
  | f, [], ts, xs, _, e, r => by
    have e : [] = ts := by unfold frzL at e; exact Option.some.inj e
    subst e
    cases r
    rfl
  | f, d :: ds, ts, xs, hf, e, r => by
    unfold frzL at e
    cases q1 : frz 0 S f d with
    | none => rw [q1] at e; cases e
    | some t =>
      cases q2 : frzL 0 S f ds with
      | none => rw [q1, q2] at e; cases e
      | some us =>
        rw [q1, q2] at e
        cases e
        cases r with
        | cons r1 r2 => exact ⟨_, _, rfl, frz_rep st hL hF f d t _ hf q1 r1, frzL_rep st hL hF f ds us _ hf q2 r2⟩
theorem frzK_rep (st : StOk CT as S H) (hL : ∀ a, L' a → Live as S a) (hF : ∀ (i : Nat) a t, as[i]? = some a → frz 0 S N (.m i) = some t → ¬ L' a) : ∀ (f : Nat) (ds : List (Key × D)) (ts : List (Key × T)) (xs : List (Key × V)), f ≤ N → frzK 0 S f ds = some ts → Paired (fun (p : Key × D) (q : Key × V) => p.1 = q.1 ∧ RepD as (Live as S) H p.2 q.2) ds xs → RepK L' H ts xs
  | f, [], ts, xs, _, e, r => by
    have e : [] = ts := by unfold frzK at e; exact Option.some.inj e
    subst e
    cases r
    rfl
  | f, (k, d) :: ds, ts, xs, hf, e, r => by
    unfold frzK at e
    cases q1 : frz 0 S f d with
    | none => rw [q1] at e; cases e
    | some t =>
      cases q2 : frzK 0 S f ds with
      | none => rw [q1, q2] at e; cases e
      | some us =>
        rw [q1, q2] at e
        cases e
        cases r with
        | @cons _ b _ _ r1 r2 =>
          obtain ⟨k', y⟩ := b
          obtain ⟨rk, r1⟩ := r1
          have rk : k = k' := rk
          subst rk
          exact ⟨_, _, rfl, frz_rep st hL hF f d t _ hf q1 r1, frzK_rep st hL hF f ds us _ hf q2 r2⟩
theorem frzF_rep (st : StOk CT as S H) (hL : ∀ a, L' a → Live as S a) (hF : ∀ (i : Nat) a t, as[i]? = some a → frz 0 S N (.m i) = some t → ¬ L' a) : ∀ (f : Nat) (ds : List (Str × D)) (ts : List (Str × T)) (xs : List (Str × V)), f ≤ N → frzF 0 S f ds = some ts → Paired (fun (p : Str × D) (q : Str × V) => p.1 = q.1 ∧ RepD as (Live as S) H p.2 q.2) ds xs → RepF L' H ts xs
  | f, [], ts, xs, _, e, r => by
    have e : [] = ts := by unfold frzF at e; exact Option.some.inj e
    subst e
    cases r
    rfl
  | f, (k, d) :: ds, ts, xs, hf, e, r => by
    unfold frzF at e
    cases q1 : frz 0 S f d with
    | none => rw [q1] at e; cases e
    | some t =>
      cases q2 : frzF 0 S f ds with
      | none => rw [q1, q2] at e; cases e
      | some us =>
        rw [q1, q2] at e
        cases e
        cases r with
        | @cons _ b _ _ r1 r2 =>
          obtain ⟨k', y⟩ := b
          obtain ⟨rk, r1⟩ := r1
          have rk : k = k' := rk
          subst rk
          exact ⟨_, _, rfl, frz_rep st hL hF f d t _ hf q1 r1, frzF_rep st hL hF f ds us _ hf q2 r2⟩
end
end
def Cell.isS : Cell → Bool
  | .strmI => true
  | .strm _ => true
  | _ => false
/-- cell i as a tree, if it is one -/
def frzAt (S : Store) (i : Nat) (c : Cell) : Cell := match frz 0 S (S.length + 1) (.m i) with
  | some t => .fz t
  | none => c
def frzS (S : Store) : Store := S.mapIdx fun i c => frzAt S i c
theorem frzS_get {S : Store} {i : Nat} : (frzS S)[i]? = (S[i]?).map (frzAt S i) := by unfold frzS; rw [List.getElem?_mapIdx]
@[simp] theorem frzS_len {S : Store} : (frzS S).length = S.length := by unfold frzS; simp
def trees (S : Store) : List D → Option (List T)
  | [] => some []
  | d :: ds => match d.tree S, trees S ds with
    | some t, some ts => some (t :: ts)
    | _, _ => none
/-- all but the stream can be read as trees -/
def AllFz (S : Store) : Prop := ∀ (i : Nat) c, S[i]? = some c → c.isS = true ∨ ∃ t, frz 0 S (S.length + 1) (.m i) = some t
def dRO (n : Nat) (ft : FT) (t : TAD) : TED := fun X ρ S Q => t X ρ S fun ds S1 => ds.length = n ∧ AllFz S1 ∧ ∃ ts, trees S1 ds = some ts ∧ ft (ts.map .t) (frzS S1) (fun d S2 => S2 = frzS S1 ∧ ∃ v, d = .t (.v v) ∧ Q d S1) fun _ => False
section
variable {CT : TTs} {as : List Addr} {S : Store} {H : Hp}
theorem frzAt_live {i : Nat} {c : Cell} (h : (frzAt S i c).lives) : c.lives ∧ frz 0 S (S.length + 1) (.m i) = none := by
  unfold frzAt at h
  cases e : frz 0 S (S.length + 1) (.m i) with
  | none => rw [e] at h; exact ⟨h, rfl⟩
  | some t => rw [e] at h; exact h.elim
theorem live_frz {a : Addr} (l : Live as (frzS S) a) : Live as S a := by
  obtain ⟨i, c, h1, h2, h3⟩ := l
  rw [frzS_get] at h2
  cases e : S[i]? with
  | none => rw [e] at h2; cases h2
  | some c' =>
    rw [e] at h2
    have h2 : frzAt S i c' = c := Option.some.inj h2
    subst h2
    exact ⟨i, c', h1, e, (frzAt_live h3).1⟩
theorem notLive_frz (nd : as.Nodup) {i : Nat} {a : Addr} {t : T} (h : as[i]? = some a) (e : frz 0 S (S.length + 1) (.m i) = some t) : ¬ Live as (frzS S) a := fun ⟨j, c, h1, h2, h3⟩ => by
  have := nodup_ix nd h h1
  subst this
  rw [frzS_get] at h2
  cases e2 : S[i]? with
  | none => rw [e2] at h2; cases h2
  | some c' =>
    rw [e2] at h2
    have h2 : frzAt S i c' = c := Option.some.inj h2
    subst h2
    rw [(frzAt_live h3).2] at e
    cases e
theorem weakE {L L' : Addr → Prop} {H : Hp} (h : ∀ a, L' a → L a) : Ext L H L' H := ⟨fun _ _ e _ _ => e, fun b l => .inl (h b l), fun _ e => e⟩
theorem frz_nv {as : List Addr} {L : Addr → Prop} {H : Hp} {n f i : Nat} {S : Store} {a : Addr} {c : Cell} {t : T} (ok : CellOk as L H a c) (e : S[i]? = some c) (h : DL.frz n S f (.m i) = some t) (x : V) : t ≠ .v x := by
  cases f with
  | zero => unfold DL.frz at h; cases h
  | succ f =>
    unfold DL.frz at h
    rw [e] at h
    have key : ∀ {α : Type} {o : Option α} {g : α → T} {b : Prop} [Decidable b], (∀ z, g z ≠ .v x) → (if b then o.map g else none) = some t → t ≠ .v x := by
      intro α o g b _ hg h
      split at h
      · cases o with
        | none => cases h
        | some z => cases h; exact hg z
      · cases h
    cases c with
    | fz u => cases h; exact ok.1 x
    | lst ds => exact key (fun z q => by cases q) h
    | tup ds => exact key (fun z q => by cases q) h
    | dct ds => exact key (fun z q => by cases q) h
    | ins C ds => exact key (fun z q => by cases q) h
    | strmI => cases h
    | strm b => cases h
theorem StOk.frz (st : StOk CT as S H) : StOk CT as (frzS S) H where
  tab := st.tab
  len := by rw [frzS_len]; exact st.len
  nd := st.nd
  there := st.there
  cell := fun i a c e1 e2 => by
    rw [frzS_get] at e2
    cases e : S[i]? with
    | none => rw [e] at e2; cases e2
    | some c' =>
      rw [e] at e2
      have e2 : frzAt S i c' = c := Option.some.inj e2
      subst e2
      unfold frzAt
      cases q : DL.frz 0 S (S.length + 1) (.m i) with
      | some t =>
        refine ⟨frz_nv (st.cell i a c' e1 e) e q, ?_⟩
        exact frz_rep (N := S.length + 1) st (fun a l => live_frz l) (fun i a t h e => notLive_frz st.nd h e) _ (.m i) t (.ref a) (Nat.le_refl _) q ⟨a, e1, rfl⟩
      | none => exact CellOk.ext (weakE fun a l => live_frz l) (fun _ _ h => h) c' (fun o h _ => h) (st.cell i a c' e1 e)
theorem trees_rep (st : StOk CT as S H) : ∀ {ds : List D} {ts : List T} {xs : List V}, trees S ds = some ts → RepDs as (Live as S) H ds xs → RepDs as (Live as (frzS S)) H (ts.map .t) xs
  | [], ts, xs, e, r => by cases e; cases r; exact .nil
  | d :: ds, ts, xs, e, r => by
    unfold trees at e
    cases q1 : d.tree S with
    | none => rw [q1] at e; cases e
    | some t =>
      cases q2 : trees S ds with
      | none => rw [q1, q2] at e; cases e
      | some us =>
        rw [q1, q2] at e; cases e
        cases r with
        | cons r1 r2 => exact .cons (frz_rep (N := S.length + 1) st (fun a l => live_frz l) (fun i a t h e => notLive_frz st.nd h e) _ d t _ (Nat.le_refl _) q1 r1) (trees_rep st q2 r2)
theorem trees_len : ∀ {ds : List D} {ts : List T}, trees S ds = some ts → ts.length = ds.length
  | [], ts, e => by cases e; rfl
  | d :: ds, ts, e => by
    unfold trees at e
    cases q1 : d.tree S with
    | none => rw [q1] at e; cases e
    | some t =>
      cases q2 : trees S ds with
      | none => rw [q1, q2] at e; cases e
      | some us => rw [q1, q2] at e; cases e; simp [trees_len q2]
/-- back from the callee: nothing has been changed -/
theorem StOk.unfrz {as' : List Addr} {H' : Hp} (st : StOk CT as S H) (al : AllFz S) (o : On as (frzS S) H as' (frzS S) H') (st' : StOk CT as' (frzS S) H') : On as S H as S H' ∧ StOk CT as S H' := by
  have ea : as' = as := by
    apply List.ext_getElem?
    intro i
    by_cases hi : i < as.length
    · rw [List.getElem?_eq_getElem hi]; exact o.pre i _ (List.getElem?_eq_getElem hi)
    · have h1 : as'.length = as.length := by rw [st'.len, frzS_len, st.len]
      rw [List.getElem?_eq_none (by omega), List.getElem?_eq_none (by omega)]
  subst ea
  have e1 : Ext (Live as' S) H (Live as' S) H' := ⟨fun b u e n t => o.ext.keep b u e (fun l => n (live_frz l)) t, fun b l => .inl l, o.ext.dom⟩
  refine ⟨⟨e1, fun _ _ h => h⟩, ⟨st'.tab, st.len, st.nd, st'.there, fun i a c e2 e3 => ?_⟩⟩
  have ok := st.cell i a c e2 e3
  rcases al i c e3 with hs | ⟨t, ht⟩
  · -- the stream
    have ok' := st'.cell i a (frzAt S i c) e2 (by rw [frzS_get, e3]; rfl)
    have ec : frzAt S i c = c := by
      unfold frzAt
      cases q : DL.frz 0 S (S.length + 1) (.m i) with
      | none => rfl
      | some t =>
        unfold DL.frz at q
        rw [e3] at q
        cases c with
        | strmI => cases q
        | strm b => cases q
        | _ => cases hs
    rw [ec] at ok'
    cases c with
    | strmI => exact ok'
    | strm b => exact ok'
    | _ => cases hs
  · have nl := notLive_frz st.nd e2 ht
    refine CellOk.ext e1 (fun _ _ h => h) c (fun u hu hc => ?_) ok
    refine o.ext.keep a u hu nl fun ps hp => ?_
    subst hp
    cases c with
    | lst ds => obtain ⟨xs, h, _⟩ := ok; rw [h] at hu; cases hu
    | dct ds => obtain ⟨xs, h, _⟩ := ok; rw [h] at hu; cases hu
    | ins C ds => obtain ⟨dx, xs, h, _⟩ := ok; rw [h] at hu; cases hu
    | tup ds => obtain ⟨xs, h, _⟩ := ok; rw [h] at hu; cases hu
    | strmI => obtain ⟨ns, h, _⟩ := ok; rw [h] at hu; cases hu
    | strm b => obtain ⟨c, x, y, z, _, h, _⟩ := ok; rw [h] at hu; cases hu
    | fz t => exact hc t rfl
theorem de_callRO {E : XK} {X : Cx} {e : Expr} {n : Nat} {ft : FT} {t : TAD} (h : PE X e (tCall (spD CT n ft) [] E (liftA CT E t))) : DE CT E X e (dRO n ft t) :=
  .of h fun σ H as S ρ Xq Qd Q z q k => ⟨as, S, ρ, Xq, _, z, q, fun as1 S1 H1 ds ys o1 s1 r ⟨hl, al, ts, ht, q1⟩ => by
    show spD CT n ft (ys ++ []) H1 Q E
    rw [List.append_nil]
    refine ⟨as1, frzS S1, ts.map .t, _, _, s1.frz, trees_rep s1 ht r, by rw [List.length_map, trees_len ht]; exact hl, q1, ?_, fun H' C dx fs ts o st' hx rf q => q.elim⟩
    rintro as' S' H' d y o st' rd ⟨rfl, v, rfl, q2⟩
    obtain ⟨o2, st2⟩ := s1.unfrz al o st'
    obtain rfl : y = v := rd
    exact (k.on (o1.trans o2)).sc st2 q2⟩
end
section
variable {CT : TTs} {E : XK} {X : Cx} {x : Str} {p pos : Pos} {e : Expr} {es : List Expr} {t : TAD}
theorem de_GR {k : Nat} {ps : List Str} {ft : FT} (G : FnG CT X.prog X.w X.K X.mg X.base k x ps ft) (hr : Room k X.A) (hx : Passes (L2.CX X.prog X.w) X E) (ha : DA CT E X (e :: es) t) (hg : Gl X x := by rfl)
    (hdb : (x == ("__debug__" : Str)) = false := by decide) (he : starEach (e :: es) X.env = (false, eval e X.env) :: starEach es X.env := by rfl) (hpl : (backTo pos (starEach es X.env)).any (·.1) = false := by rfl) : DE CT E X (.Call (.Name x p) (e :: es) [] pos) (dRO ps.length ft t) := by
  obtain ⟨f, fd, F, hb, hm, hk⟩ := G.ex
  exact de_callRO (pe_call F hr hg hm hk hb .nil hx ha.pa hdb he hpl)
end
@[simp] theorem dRO_e {n : Nat} {ft : FT} {t : TAD} {X : XQ} {ρ : Env} {S : Store} {Q} : dRO n ft t X ρ S Q = t X ρ S fun ds S1 => ds.length = n ∧ AllFz S1 ∧ ∃ ts, trees S1 ds = some ts ∧ ft (ts.map .t) (frzS S1) (fun d S2 => S2 = frzS S1 ∧ ∃ v, d = .t (.v v) ∧ Q d S1) fun _ => False := rfl
theorem trees_cons {S : Store} {d : D} {ds : List D} {t : T} {ts : List T} (h : d.tree S = some t) (h2 : trees S ds = some ts) : trees S (d :: ds) = some (t :: ts) := by unfold trees; rw [h, h2]
end DL
set_option Elab.async false
set_option linter.all false
set_option maxRecDepth 100000
/-! DL14: the stream of draws, opened and shut -/
namespace DL
open PySem PySem.Spec PyProof.Rows L2

def bigI : Nat := 2 ^ 1048576
structure StrmB (ns : List Int) (x y z : Int) (b : Nat) : Prop where
  ns : ∀ n ∈ ns, n.natAbs < 2 ^ 1048576
  x0 : 0 ≤ x
  x1 : x.natAbs < 2 ^ 1048576
  y0 : 0 ≤ y
  y1 : y + b ≤ 2 ^ 40
  z0 : 0 ≤ z
  z1 : z < 2 ^ 31
/-- the stream as two lists -/
def openS (S : Store) (ns : List Int) (x y z : Int) : Store := (S.set 0 (.lst (ns.map .int))).set 1 (.lst [.m 0, .int x, .int y, .int z])
section
variable {CT : TTs} {as : List Addr} {S S' : Store} {H : Hp}
theorem live_eq (h1 : S'.length = S.length) (h2 : ∀ (i : Nat) c c', S[i]? = some c → S'[i]? = some c' → (c.lives ↔ c'.lives)) (a : Addr) : Live as S' a ↔ Live as S a := by
  constructor
  · rintro ⟨i, c, e1, e2, l⟩
    have hi : i < S.length := by rw [← h1]; exact (List.getElem?_eq_some_iff.mp e2).1
    exact ⟨i, S[i], e1, List.getElem?_eq_getElem hi, (h2 i _ _ (List.getElem?_eq_getElem hi) e2).mpr l⟩
  · rintro ⟨i, c, e1, e2, l⟩
    have hi : i < S'.length := by rw [h1]; exact (List.getElem?_eq_some_iff.mp e2).1
    exact ⟨i, S'[i], e1, List.getElem?_eq_getElem hi, (h2 i _ _ e2 (List.getElem?_eq_getElem hi)).mp l⟩
/-- the same heap, other words for it -/
theorem StOk.recell (st : StOk CT as S H) (h1 : S'.length = S.length) (h2 : ∀ (i : Nat) c c', S[i]? = some c → S'[i]? = some c' → (c.lives ↔ c'.lives))
    (h3 : ∀ (i : Nat) a c', as[i]? = some a → S'[i]? = some c' → (∃ c, S[i]? = some c ∧ c = c') ∨ CellOk as (Live as S') H a c') : StOk CT as S' H where
  tab := st.tab
  len := by rw [h1]; exact st.len
  nd := st.nd
  there := st.there
  cell := fun i a c' e1 e2 => by
    rcases h3 i a c' e1 e2 with ⟨c, e3, e4⟩ | h
    · subst e4
      have ok := st.cell i a c e1 e3
      exact CellOk.ext (weakE fun a l => (live_eq h1 h2 a).mp l) (fun _ _ h => h) c (fun o h _ => h) ok
    · exact h
theorem on_eq {as' : List Addr} {S1 S1' S2 S2' : Store} {H' : Hp} (o : On as S1 H as' S2 H') (h1 : ∀ a, Live as S1' a ↔ Live as S1 a) (h2 : ∀ a, Live as' S2' a ↔ Live as' S2 a) : On as S1' H as' S2' H' :=
  ⟨⟨fun b u e n t => o.ext.keep b u e (fun l => n ((h1 b).mpr l)) t, fun b l => (o.ext.live b ((h2 b).mp l)).imp (fun l => (h1 b).mpr l) id, o.ext.dom⟩, o.pre⟩
theorem openS_get {ns : List Int} {x y z : Int} {i : Nat} (h0 : 2 ≤ S.length) : (openS S ns x y z)[i]? = if i = 0 then some (.lst (ns.map .int)) else if i = 1 then some (.lst [.m 0, .int x, .int y, .int z]) else S[i]? := by
  unfold openS
  by_cases e0 : i = 0
  · subst e0
    rw [if_pos rfl, List.getElem?_set_ne (by omega), List.getElem?_set_self (by omega)]
  · rw [if_neg e0]
    by_cases e1 : i = 1
    · subst e1
      rw [if_pos rfl, List.getElem?_set_self (by simp; omega)]
    · rw [if_neg e1, List.getElem?_set_ne (by omega), List.getElem?_set_ne (by omega)]
theorem openS_len {ns : List Int} {x y z : Int} : (openS S ns x y z).length = S.length := by unfold openS; simp
theorem strm_len {b : Nat} (e1 : S[1]? = some (.strm b)) : 2 ≤ S.length := by
  have := (List.getElem?_eq_some_iff.mp e1).1
  omega
theorem open_lives {b : Nat} (e0 : S[0]? = some .strmI) (e1 : S[1]? = some (.strm b)) {ns : List Int} {x y z : Int} (i : Nat) (c c' : Cell) (h1 : S[i]? = some c) (h2 : (openS S ns x y z)[i]? = some c') : c.lives ↔ c'.lives := by
  rw [openS_get (strm_len e1)] at h2
  by_cases hi0 : i = 0
  · rw [if_pos hi0] at h2
    subst hi0
    rw [e0] at h1
    cases h1; cases h2
    exact ⟨fun _ => True.intro, fun _ => True.intro⟩
  · rw [if_neg hi0] at h2
    by_cases hi1 : i = 1
    · rw [if_pos hi1] at h2
      subst hi1
      rw [e1] at h1
      cases h1; cases h2
      exact ⟨fun _ => True.intro, fun _ => True.intro⟩
    · rw [if_neg hi1] at h2
      rw [h1] at h2
      cases h2
      exact Iff.rfl
theorem repDs_ints {L : Addr → Prop} : ∀ {ns : List Int}, RepDs as L H (ns.map D.int) (ns.map V.int)
  | [] => .nil
  | n :: ns => .cons rfl repDs_ints
theorem strm_open {b : Nat} (st : StOk CT as S H) (e0 : S[0]? = some .strmI) (e1 : S[1]? = some (.strm b)) : ∃ ns x y z, StrmB ns x y z b ∧ StOk CT as (openS S ns x y z) H := by
  obtain ⟨a0, ha0, ok0⟩ := st.addr e0
  obtain ⟨a1, ha1, ok1⟩ := st.addr e1
  obtain ⟨ns, h1, h2⟩ := ok0
  obtain ⟨c, x, y, z, h3, h4, h5, h6, h7, h8, h9, h10⟩ := ok1
  rw [ha0] at h3
  cases h3
  refine ⟨ns, x, y, z, ⟨h2, h5, h6, h7, h8, h9, h10⟩, ?_⟩
  refine StOk.recell st openS_len (open_lives e0 e1) fun i a c' ha hc => ?_
  rw [openS_get (strm_len e1)] at hc
  by_cases hi0 : i = 0
  · rw [if_pos hi0] at hc
    subst hi0
    rw [ha0] at ha
    cases ha; cases hc
    exact .inr ⟨_, h1, repDs_ints⟩
  · rw [if_neg hi0] at hc
    by_cases hi1 : i = 1
    · rw [if_pos hi1] at hc
      subst hi1
      rw [ha1] at ha
      cases ha; cases hc
      exact .inr ⟨_, h4, .cons ⟨_, ha0, rfl⟩ (.cons rfl (.cons rfl (.cons rfl .nil)))⟩
    · rw [if_neg hi1] at hc
      exact .inl ⟨c', hc, rfl⟩
theorem repDs_ints' {L : Addr → Prop} {ns : List Int} {xs : List V} (r : RepDs as L H (ns.map D.int) xs) : xs = ns.map V.int := repDs_int r
theorem strm_shut {b b' : Nat} {ns : List Int} {x y z : Int} (e0 : S[0]? = some .strmI) (e1 : S[1]? = some (.strm b)) (st : StOk CT as (openS S ns x y z) H) (sb : StrmB ns x y z b') : StOk CT as (S.set 1 (.strm b')) H := by
  have hl := strm_len e1
  have g0 : (openS S ns x y z)[0]? = some (.lst (ns.map .int)) := by rw [openS_get hl, if_pos rfl]
  have g1 : (openS S ns x y z)[1]? = some (.lst [.m 0, .int x, .int y, .int z]) := by rw [openS_get hl, if_neg (by omega), if_pos rfl]
  obtain ⟨a0, ha0, xs, h1, h2⟩ := st.addr g0
  obtain ⟨a1, ha1, ys, h3, h4⟩ := st.addr g1
  refine StOk.recell st (by rw [openS_len]; simp) (fun i c c' hc hc' => ?_) fun i a c' ha hc => ?_
  · by_cases hi1 : i = 1
    · subst hi1
      rw [List.getElem?_set_self (by omega)] at hc'
      rw [g1] at hc
      cases hc; cases hc'
      exact ⟨fun _ => True.intro, fun _ => True.intro⟩
    · rw [List.getElem?_set_ne (by omega)] at hc'
      exact (open_lives e0 e1 i c' c hc' hc).symm
  · by_cases hi1 : i = 1
    · subst hi1
      rw [List.getElem?_set_self (by omega)] at hc
      rw [ha1] at ha
      cases ha; cases hc
      refine .inr ?_
      cases h4 with
      | cons r1 h5 =>
        cases h5 with
        | cons r2 h6 =>
          cases h6 with
          | cons r3 h7 =>
            cases h7 with
            | cons r4 h8 =>
              cases h8
              obtain ⟨a0', h9, e⟩ := r1
              rw [ha0] at h9
              cases h9
              obtain rfl := e
              obtain rfl := (show _ = V.int x from r2)
              obtain rfl := (show _ = V.int y from r3)
              obtain rfl := (show _ = V.int z from r4)
              exact ⟨_, x, y, z, ha0, h3, sb.x0, sb.x1, sb.y0, sb.y1, sb.z0, sb.z1⟩
    · rw [List.getElem?_set_ne (by omega)] at hc
      by_cases hi0 : i = 0
      · subst hi0
        rw [e0] at hc
        cases hc
        rw [ha0] at ha
        cases ha
        rw [repDs_ints' h2] at h1
        exact .inr ⟨ns, h1, sb.ns⟩
      · refine .inl ⟨c', ?_, rfl⟩
        rw [openS_get hl, if_neg hi0, if_neg hi1]
        exact hc
/-- a draw, the stream open -/
def ftDrawO : FT := fun ds S Q _ => ∃ (S0 : Store) (ns : List Int) (x y z many : Int) (b : Nat), ds = [.m 1, .int many] ∧ 1 ≤ many ∧ many < 2 ^ 62 ∧ S = openS S0 ns x y z ∧ S0[0]? = some .strmI ∧ S0[1]? = some (.strm (b + 1)) ∧ StrmB ns x y z (b + 1) ∧
  ∀ (k : Int) ns' x' y' z', 0 ≤ k → k < many → StrmB ns' x' y' z' b → Q (.int k) (openS S0 ns' x' y' z')
/-- a draw -/
def ftDraw : FT := fun ds S Q _ => ∃ (many : Int) (b : Nat), ds = [.m 1, .int many] ∧ 1 ≤ many ∧ many < 2 ^ 62 ∧ S[0]? = some .strmI ∧ S[1]? = some (.strm (b + 1)) ∧ ∀ k : Int, 0 ≤ k → k < many → Q (.int k) (S.set 1 (.strm b))
theorem draw_imp {vs : List V} {Q : VK} {E : XK} (h : spD CT 2 ftDraw vs H Q E) : spD CT 2 ftDrawO vs H Q E := by
  obtain ⟨as, S, ds, Qd, Ed, st, r, hl, ⟨many, b, rfl, h1, h2, e0, e1, hq⟩, kq, kx⟩ := h
  obtain ⟨ns, x, y, z, sb, st2⟩ := strm_open st e0 e1
  have lv : ∀ {as : List Addr} {ns x y z} (a : Addr), Live as (openS S ns x y z) a ↔ Live as S a := fun {as ns x y z} a => live_eq openS_len (open_lives e0 e1) a
  have lv2 : ∀ {as : List Addr} (a : Addr), Live as (S.set 1 (.strm b)) a ↔ Live as S a := fun {as} a => live_eq (by simp) (fun i c c' hc hc' => by
    by_cases hi1 : i = 1
    · subst hi1
      rw [List.getElem?_set_self (by have := strm_len e1; omega)] at hc'
      rw [e1] at hc
      cases hc; cases hc'
      exact ⟨fun _ => True.intro, fun _ => True.intro⟩
    · rw [List.getElem?_set_ne (by omega), hc] at hc'
      cases hc'
      exact Iff.rfl) a
  have rr : RepDs as (Live as (openS S ns x y z)) H [.m 1, .int many] vs := by
    cases r with
    | cons r1 r2 => cases r2 with
      | cons r3 r4 => cases r4; exact .cons r1 (.cons r3 .nil)
  refine ⟨as, openS S ns x y z, _, fun d S' => ∃ (k : Int) (ns' : List Int) (x' y' z' : Int), d = .int k ∧ 0 ≤ k ∧ k < many ∧ S' = openS S ns' x' y' z' ∧ StrmB ns' x' y' z' b, fun _ => False, st2, rr, rfl, ⟨S, ns, x, y, z, many, b, rfl, h1, h2, rfl, e0, e1, sb, fun k ns' x' y' z' hk hk2 sb' => ⟨k, ns', x', y', z', rfl, hk, hk2, rfl, sb'⟩⟩, ?_, fun H' C dx fs ts o st' hx rf q => q.elim⟩
  rintro as' S' H' d v o st' rd ⟨k, ns', x', y', z', rfl, hk, hk2, rfl, sb'⟩
  have o2 : On as S H as' (S.set 1 (.strm b)) H' := on_eq o (fun a => (lv a).symm) (fun a => (lv2 a).trans (lv a).symm)
  obtain rfl : v = .int k := rd
  exact kq as' _ H' (.int k) (.int k) o2 (strm_shut e0 e1 st' sb') rfl (hq k hk hk2)
end
end DL
set_option Elab.async false
set_option linter.all false
set_option maxRecDepth 100000
/-! DL15: more words run by simp; cells -/
namespace DL
open PySem PySem.Spec PyProof.Rows L2

section
variable {X : XQ} {ρ : Env} {S : Store} {De : DEnds} {Q : D → Store → Prop}
@[simp] theorem cInt_i {i : Int} : cInt [.t (.v (.int i))] S Q = Q (.int i) S := by
  apply propext
  constructor
  · rintro ⟨j, h, q⟩; cases h; exact q
  · exact fun q => ⟨i, rfl, q⟩
@[simp] theorem cAbs_i {i : Int} : cAbs [.t (.v (.int i))] S Q = Q (.int (if i < 0 then -i else i)) S := by
  apply propext
  constructor
  · rintro ⟨j, h, q⟩; cases h; exact q
  · exact fun q => ⟨i, rfl, q⟩
@[simp] theorem cInt2_i {g : Int → Int → Int} {i j : Int} : cInt2 g [.t (.v (.int i)), .t (.v (.int j))] S Q = Q (.int (g i j)) S := by
  apply propext
  constructor
  · rintro ⟨a, b, h, q⟩; cases h; exact q
  · exact fun q => ⟨i, j, rfl, q⟩
@[simp] theorem uI_i {g : Int → V} {i : Int} : uI g (.t (.v (.int i))) S Q = Q (.t (.v (g i))) S := by
  apply propext
  constructor
  · rintro ⟨j, h, q⟩; cases h; exact q
  · exact fun q => ⟨i, rfl, q⟩
@[simp] theorem oMul_ii {i j : Int} : oMul (.t (.v (.int i))) (.t (.v (.int j))) S Q = (CMulW i j ∧ Q (.int (i * j)) S) := by
  apply propext
  constructor
  · rintro (h | ⟨xs, k, ts, h, _⟩)
    · rwa [oI_e] at h
    · cases h
  · exact fun q => .inl (by rwa [oI_e])
@[simp] theorem oIsN_v {neg : Bool} {v : V} : oIsN neg (.t (.v v)) (.t (.v .non)) S Q = Q (.bl (if neg then !decide (v = .non) else decide (v = .non))) S := by
  apply propext
  constructor
  · rintro ⟨_, ⟨w, h, q⟩ | ⟨t, h, h2, q⟩ | ⟨i, h, q⟩⟩
    · cases h; exact q
    · cases h; exact absurd rfl (h2 v)
    · cases h
  · exact fun q => ⟨rfl, .inl ⟨v, rfl, q⟩⟩
theorem oIsN_t {neg : Bool} {t : T} (h : ∀ v, t ≠ .v v) : oIsN neg (.t t) (.t (.v .non)) S Q = Q (.bl neg) S := by
  apply propext
  constructor
  · rintro ⟨_, ⟨w, h', q⟩ | ⟨t, h', h2, q⟩ | ⟨i, h', q⟩⟩
    · cases h'; exact absurd rfl (h w)
    · cases h'; exact q
    · cases h'
  · exact fun q => ⟨rfl, .inr (.inl ⟨t, rfl, h, q⟩)⟩
@[simp] theorem oIsN_l {neg : Bool} {ts : List T} : oIsN neg (.t (.lst ts)) (.t (.v .non)) S Q = Q (.bl neg) S := oIsN_t (fun _ h => nomatch h)
@[simp] theorem oIsN_tp {neg : Bool} {ts : List T} : oIsN neg (.t (.tup ts)) (.t (.v .non)) S Q = Q (.bl neg) S := oIsN_t (fun _ h => nomatch h)
/-! ### cells -/
def subI (o x d : D) (S : Store) (Q : Store → Prop) : Prop := ∃ i ds k j, o = .m i ∧ x = .int k ∧ S[i]? = some (.lst ds) ∧ ixN ds.length k = some j ∧ Q (S.set i (.lst (ds.set j d)))
@[simp] theorem gSubD_e {to ti : TED} {d : D} {Q : Env → Store → Prop} : gSubD to ti d X ρ S Q = to X ρ S fun o S1 => ti X ρ S1 fun x S2 => subI o x d S2 fun S3 => Q ρ S3 := by
  rfl
theorem subI_of {i : Nat} {ds : List D} {k : Int} {j : Nat} {d : D} {Q : Store → Prop} (h : S[i]? = some (.lst ds)) (hk : ixN ds.length k = some j) (q : Q (S.set i (.lst (ds.set j d)))) : subI (.m i) (.t (.v (.int k))) d S Q := ⟨i, ds, k, j, rfl, rfl, h, hk, q⟩
theorem seqL_m {i : Nat} {ds : List D} (h : S[i]? = some (.lst ds)) : seqL S (.m i) = some ds := by show (S[i]?).bind cellL = some ds; rw [h]; rfl
theorem seqA_m {i : Nat} {ds : List D} (h : S[i]? = some (.lst ds)) : seqA S (.m i) = some ds := by unfold seqA; rw [seqL_m h]
theorem oIx_m {x : D} {ds : List D} {k : Int} {d : D} (h : seqA S x = some ds) (hk : atI ds k = some d) (q : Q d S) : oIx x (.t (.v (.int k))) S Q := ⟨ds, k, d, h, rfl, hk, q⟩
theorem oIx_me {x : D} {ds : List D} {k : Int} {d : D} (h : seqA S x = some ds) (hk : atI ds k = some d) : oIx x (.t (.v (.int k))) S Q = Q d S := by
  apply propext
  constructor
  · rintro ⟨ds', k', d', h1, h2, h3, q⟩
    cases h2
    rw [h] at h1; cases h1
    rw [hk] at h3; cases h3
    exact q
  · exact fun q => oIx_m h hk q
theorem tyLst_m {i : Nat} {ds : List D} (h : S[i]? = some (.lst ds)) : tyLst (.m i) S := ⟨ds, seqL_m h⟩
theorem append_of {i : Nat} {xs : List D} {y : D} (h : S[i]? = some (.lst xs)) (hl : xs.length < sizeLine) (q : Q .non (S.set i (.lst (xs ++ [y])))) : mAppend (.m i) [y] S Q := ⟨i, xs, y, rfl, rfl, h, hl, q⟩
theorem append_e {i : Nat} {xs : List D} {y : D} (h : S[i]? = some (.lst xs)) : mAppend (.m i) [y] S Q = (xs.length < sizeLine ∧ Q .non (S.set i (.lst (xs ++ [y])))) := by
  apply propext
  constructor
  · rintro ⟨i', xs', y', h1, h2, h3, h4, q⟩
    cases h1; cases h2
    rw [h] at h3; cases h3
    exact ⟨h4, q⟩
  · exact fun ⟨h1, q⟩ => append_of h h1 q
theorem popAt_of {i : Nat} {xs : List D} {k : Nat} {y : D} (h : S[i]? = some (.lst xs)) (hk : (k : Int) < 2 ^ 63) (hy : xs[k]? = some y) (q : Q y (S.set i (.lst (xs.eraseIdx k)))) : mPopAt (.m i) [.t (.v (.int (k : Int)))] S Q :=
  ⟨i, xs, k, k, y, rfl, rfl, h, by omega, hk, (ixN_seq (by
    have := (List.getElem?_eq_some_iff.mp hy).1
    unfold ixN
    rw [if_pos (by omega), if_pos (by omega)]; simp)).1, hy, q⟩
theorem cLen_m {i : Nat} {ds : List D} (h : S[i]? = some (.lst ds)) : cLen [.m i] S Q = Q (.int ds.length) S := by
  apply propext
  constructor
  · rintro ⟨d, h1, ⟨xs, h2, q⟩ | ⟨x, h2, _⟩⟩
    · cases h1
      rw [seqA_m h] at h2
      cases h2
      exact q
    · cases h1; cases h2
  · exact fun q => ⟨_, rfl, .inl ⟨_, seqA_m h, q⟩⟩
theorem get_end {c : Cell} {n : Nat} (h : n = S.length) : (S ++ [c])[n]? = some c := by subst h; rw [List.getElem?_append_right (Nat.le_refl _)]; simp
end
end DL
set_option Elab.async false
set_option linter.all false
set_option maxRecDepth 100000
/-! DL16: == and != of instances whose class has an __eq__ of its own -/
namespace DL
open PySem PySem.Spec PyProof.Rows L2

section
variable {prog : Program} {w : World} {A : Around} {E : Value → Shared → Prop} {s : Shared} {K : PySem.W.Frag} {x C f : Addr} {ox : Obj} {od : Option Obj} {name : Str} {b tb : Value}
/-- a special name that the class has of object's -/
theorem ifBound_B {id : String} {args : List Value} {Q : Option Value → Shared → Prop} (S : PySem.Slot "object" name id) (X : K.In s.heap) (I : PySem.W.InstAt s.heap x ox C od) (hs : PySem.W.findIn K (.ref C) name = some (some (.builtin id)))
    (h : wpAny (model prog w) A (call (.builtin id) (.ref x :: args)) (fun v => Q (some v)) E s) : wpAny (model prog w) A (callSpecialIfBound? (.ref x) name args) Q E s := by
  simp only [callSpecialIfBound?, bindSpecialIfBound?]
  refine wpAny_holding (wpAny_bind (wpAny_bind (wpAny_bind (I.type.here ((PySem.W.looks_findIn X hs).here ?_)))))
  simp only [S.bind]
  refine wpAny_bind (wpAny_askSetting (wpAny_ite ?_))
  have fin : wpAny (model prog w) A (call (.builtin id) ([.ref x] ++ args) >>= fun v => pure (some v)) Q E s := wpAny_bind (wpAny_mono h (fun v s' h' => wpAny_pure h') fun _ _ h' => h')
  split
  · exact wpAny_bind (wpAny_pure (wpAny_pure fin))
  · exact wpAny_tryCatch (wpAny_bind (wpAny_pure (wpAny_pure fin)))
theorem check_ne {Q : Unit → Shared → Prop} (X : K.In s.heap) (I : PySem.W.InstAt s.heap x ox C od) (ho : PySem.W.subIn K (.ref C) (.type "object") = some true) (h : Q () s) : wpAny (model prog w) A (checkBuiltinCall "object.__ne__" ⟨[.ref x, b], []⟩) Q E s := by
  simp only [checkBuiltinCall, F.cmpKind_ne, F.cmpSplit_ne]
  refine wpAny_bind ?_
  unfold isInstance
  refine wpAny_bind (I.type.here ((PySem.W.looks_subIn X ho).here ?_))
  have ha := F.cmpArgs_ne (.ref x) b
  cases hsig : Manifest.signature? "object.__ne__" with
  | none => exact wpAny_pure h
  | some sig =>
    simp only [argsOk, hsig] at ha
    have h2 : Bind.checkArgs "object.__ne__" sig ⟨[.ref x, b], []⟩ = pure () := ha
    show wpAny _ A (Bind.checkArgs "object.__ne__" sig ⟨[.ref x, b], []⟩) Q E s
    rw [h2]; exact wpAny_pure h
theorem call_ne {Q : Value → Shared → Prop} (hu : A.units + 1 < cLine) (X : K.In s.heap) (I : PySem.W.InstAt s.heap x ox C od) (ho : PySem.W.subIn K (.ref C) (.type "object") = some true) (he : PySem.W.findIn K (.ref C) "__eq__" = some (some (.ref f))) (hf : PySem.W.isFn K (.ref f) = true)
    (h : wpAny (model prog w) A.in1 (call (.ref f) [.ref x, b]) (fun v s' => ∃ c, v = .bool c ∧ Q (.bool (!c)) s') E s) : wpAny (model prog w) A (call (.builtin "object.__ne__") [.ref x, b]) Q E s := by
  refine wpAny_call (codeAny_call_builtin F.cmp_object.ne.plain F.cmpEntry_ne (check_ne X I ho ?_))
  unfold Builtin.«object.__ne__»
  refine wpAny_bind (wpAny_of_eq (a := ((.ref x : Value), [b])) rfl ?_)
  refine wpAny_bind (wpAny_cRoomFor hu ?_)
  refine wpAny_bind (PySem.W.ifBound_K X I he hf (wpAny_mono h (fun v s' z => ?_) fun _ _ x => x))
  obtain ⟨c, rfl, q⟩ := z
  exact wpAny_bind (wpAny_truthy_bool (wpAny_pure q))
theorem cmp_ne {Q : Value → Shared → Prop} (hu : A.units + 1 < cLine) (X : K.In s.heap) (I : PySem.W.InstAt s.heap x ox C od) (hb : PySem.W.Looks (model prog w) s.heap (typeOf b) tb) (hn : PySem.W.notFirst K C tb = true) (ho : PySem.W.subIn K (.ref C) (.type "object") = some true)
    (he : PySem.W.findIn K (.ref C) "__eq__" = some (some (.ref f))) (hne : PySem.W.findIn K (.ref C) "__ne__" = some (some (.builtin "object.__ne__"))) (hf : PySem.W.isFn K (.ref f) = true)
    (h : wpAny (model prog w) A.in1 (call (.ref f) [.ref x, b]) (fun v s' => ∃ c, v = .bool c ∧ Q (.bool (!c)) s') E s) : wpAny (model prog w) A (richCompare .NotEq (.ref x) b) Q E s := by
  have one : wpAny (model prog w) A (tryCompare (.ref x) (cmpInfo .NotEq).2.1 b) (fun r s' => ∃ v, r = some v ∧ Q v s') E s := by
    unfold tryCompare
    refine wpAny_bind (ifBound_B F.cmp_object.ne X I hne (wpAny_mono (call_ne (Q := fun v s' => ∃ c, v = .bool c ∧ Q v s') hu X I ho he hf (wpAny_mono h (fun v s' z => ?_) fun _ _ x => x)) (fun v s' z => ?_) fun _ _ x => x))
    · obtain ⟨c, rfl, q⟩ := z
      exact ⟨c, rfl, !c, rfl, q⟩
    · obtain ⟨c, rfl, q⟩ := z
      exact wpAny_pure ⟨_, rfl, q⟩
  unfold richCompare
  simp only [oneThing_ref]
  refine wpAny_holding (wpAny_bind (wpAny_cRoomFor (Nat.lt_of_succ_lt hu) ?_))
  refine wpAny_bind (I.type.here (wpAny_bind (hb.here ?_)))
  split
  · rename_i q
    have e : PySem.W.subIn K tb (.ref C) = some false := by
      rcases Bool.or_eq_true_iff.mp hn with e | e
      · rw [beq_iff_eq.mp e] at q; simp at q
      · exact beq_iff_eq.mp e
    refine wpAny_bind ((PySem.W.looks_subIn X e).here ?_)
    simp only [Bool.false_eq_true, if_false]
    refine wpAny_bind (wpAny_mono one (fun r s' z => ?_) fun _ _ e => e)
    obtain ⟨v, rfl, hq⟩ := z
    exact wpAny_pure hq
  · refine wpAny_bind (wpAny_pure ?_)
    simp only [Bool.false_eq_true, if_false]
    refine wpAny_bind (wpAny_mono one (fun r s' z => ?_) fun _ _ e => e)
    obtain ⟨v, rfl, hq⟩ := z
    exact wpAny_pure hq
end
/-- what the text gives of a class with an __eq__ of its own -/
structure EqC (K : PySem.W.Frag) (C : Addr) : Prop where
  ob : PySem.W.subIn K (.ref C) (.type "object") = some true
  ne : PySem.W.findIn K (.ref C) "__ne__" = some (some (.builtin "object.__ne__"))
  nf : ∀ n ∈ (["NoneType", "int", "bool", "str", "list", "tuple", "dict"] : List String), PySem.W.subIn K (.type n) (.ref C) = some false
theorem EqC.first {K : PySem.W.Frag} {C : Addr} (h : EqC K C) {ty : Ty} (ht : ∀ D, ty = .own D → D = C) : PySem.W.notFirst K C ty.val = true := by
  unfold PySem.W.notFirst
  cases ty with
  | own D => rw [ht D rfl]; simp [Ty.val]
  | non => exact Bool.or_eq_true_iff.mpr (.inr (beq_iff_eq.mpr (h.nf "NoneType" (by simp))))
  | bool => exact Bool.or_eq_true_iff.mpr (.inr (beq_iff_eq.mpr (h.nf "bool" (by simp))))
  | int => exact Bool.or_eq_true_iff.mpr (.inr (beq_iff_eq.mpr (h.nf "int" (by simp))))
  | str => exact Bool.or_eq_true_iff.mpr (.inr (beq_iff_eq.mpr (h.nf "str" (by simp))))
  | list => exact Bool.or_eq_true_iff.mpr (.inr (beq_iff_eq.mpr (h.nf "list" (by simp))))
  | tuple => exact Bool.or_eq_true_iff.mpr (.inr (beq_iff_eq.mpr (h.nf "tuple" (by simp))))
  | dict => exact Bool.or_eq_true_iff.mpr (.inr (beq_iff_eq.mpr (h.nf "dict" (by simp))))
section
variable {X : Cx} {C f : Addr} {k : Nat} {fd : FuncData} {ps : List Str} {sp : Sp} {E : XK}
def rOwnEq (K : PySem.W.Frag) (C : Addr) (sp : Sp) (E : XK) : R2 := fun x y H Q => ∃ a dx fs t, x = .ref a ∧ H a = some (.ins C dx fs) ∧ TyX K H y t ∧ PySem.W.notFirst K C t = true ∧ sp [x, y] H (fun v H' => ∃ c, v = .bl c ∧ Q (.bl c) H') E
def rOwnNe (K : PySem.W.Frag) (C : Addr) (sp : Sp) (E : XK) : R2 := fun x y H Q => ∃ a dx fs t, x = .ref a ∧ H a = some (.ins C dx fs) ∧ TyX K H y t ∧ PySem.W.notFirst K C t = true ∧ sp [x, y] H (fun v H' => ∃ c, v = .bl c ∧ Q (.bl (!c)) H') E
theorem op_ownEq (F : FnOk X.prog X.w X.K X.mg X.base (L2.CX X.prog X.w) k f fd ps sp) (hr : Room k X.A) (hb : Binds X.K fd ps []) (hx : Passes (L2.CX X.prog X.w) X E) (hm : Meth X.K C "__eq__" f) : OpR X (compareOp .Eq) (rOwnEq X.K C sp E) := by
  intro pins s σ H x y v u Q I rx ry h
  obtain ⟨a, dx, fs, t, rfl, ha, ty, hn, q⟩ := h
  cases (show v = Value.ref a from rx)
  obtain ⟨mA, O, _⟩ := ins_get I.hok ha
  obtain ⟨od, J, _⟩ := O.look
  obtain ⟨P, Z, p, _⟩ := kit_of I ry ty
  obtain ⟨m, hF⟩ := I.fr
  show wpAny _ _ (richCompare .Eq (.ref a) u) _ _ _
  refine PySem.W.cmp_K (op := .Eq) (tb := t) hr.units0 hF I.ok.mod.kin J (Z.ty _ _ I.kIn p) hn hm.at_ hm.fn ?_
  refine wpAny_mono (run_fn (us := [.ref a, u]) (vs := [.ref a, y]) F hr hb .nil hx I (.cons rfl (.cons ry .nil)) q) (fun w s' z => ?_) fun _ _ x => x
  obtain ⟨z', H', I', rz, c, rfl, qz⟩ := z
  cases (show w = Value.bool c from rz)
  exact ⟨.bl c, H', I', rfl, qz⟩
theorem op_ownNe (F : FnOk X.prog X.w X.K X.mg X.base (L2.CX X.prog X.w) k f fd ps sp) (hr : Room (k + 1) X.A) (hb : Binds X.K fd ps []) (hx : Passes (L2.CX X.prog X.w) X E) (hm : Meth X.K C "__eq__" f) (hC : EqC X.K C) : OpR X (compareOp .NotEq) (rOwnNe X.K C sp E) := by
  intro pins s σ H x y v u Q I rx ry h
  obtain ⟨a, dx, fs, t, rfl, ha, ty, hn, q⟩ := h
  cases (show v = Value.ref a from rx)
  obtain ⟨mA, O, _⟩ := ins_get I.hok ha
  obtain ⟨od, J, _⟩ := O.look
  obtain ⟨P, Z, p, _⟩ := kit_of I ry ty
  show wpAny _ _ (richCompare .NotEq (.ref a) u) _ _ _
  refine cmp_ne (tb := t) (by have := hr.un; omega) I.kIn J (Z.ty _ _ I.kIn p) hn hC.ob hm.at_ hC.ne hm.fn ?_
  have r2 : Vals [V.ref a, y] [Value.ref a, u] := .cons rfl (.cons ry .nil)
  have hl : ([Value.ref a, u] ++ ([] : List Value)).length = ps.length := by
    have := F.len _ _ _ _ q
    simpa using this
  refine wpAny_call (codeAny_mono (F.run X.A.in1 X.stack s H ⟨[.ref a, u], []⟩ ([.ref a, u] ++ []) [.ref a, y] _ E hr.in1 I.env0.in1 (hb s [.ref a, u] I.kIn hl) r2 q) fun r s' hq => ?_)
  cases r with
  | error e => exact hx pins σ H s e s' I hq
  | ok fl =>
    cases fl with
    | ret w =>
      obtain ⟨z', H', I', rz, c, rfl, qz⟩ := I.after hq
      cases (show w = Value.bool c from rz)
      exact ⟨c, rfl, .bl (!c), H', I', rfl, qz⟩
    | next => exact False.elim hq
    | brk => exact False.elim hq
    | cont => exact False.elim hq
end
/-- x == y by the class's own __eq__ -/
def oEqO (neg : Bool) (C : Addr) (ft : FT) : R2D := fun x y S Q => ∃ fs ty, insOf S x = some (C, fs) ∧ tyD S y = some ty ∧ (∀ D, ty = .own D → D = C) ∧ ft [x, y] S (fun d S' => ∃ c, d = .bl c ∧ Q (.bl (if neg then !c else c)) S') fun _ => False
section
variable {CT : TTs} {K : PySem.W.Frag} {C : Addr} {Cs : List Addr} {ft : FT} {E : XK}
theorem br_ownEq (hk : OwnOk K Cs) (hC : C ∈ Cs) (hE : EqC K C) : Br2 CT (rOwnEq K C (spD CT 2 ft) E) (oEqO false C ft) := fun as S H x y dx dy Qd Q st rx ry ⟨fs, ty, e1, e2, e3, q⟩ k => by
  obtain ⟨a, dd, xs, rfl, h1, h2⟩ := insOf_ok st rx e1
  refine ⟨a, dd, xs, ty.val, rfl, h1, tyOf_D hk st ry e2 (fun D h => by rw [e3 D h]; exact hC), hE.first e3, as, S, [dx, dy], _, _, st, .cons rx (.cons ry .nil), rfl, q, fun as' S' H' d y' o st' r ⟨c, e, q'⟩ => ?_, fun H' C' dx' fs' ts o st' hx rf q => q.elim⟩
  subst e
  obtain rfl : y' = .bl c := r
  exact ⟨c, rfl, (k.on o).sc st' q'⟩
theorem br_ownNe (hk : OwnOk K Cs) (hC : C ∈ Cs) (hE : EqC K C) : Br2 CT (rOwnNe K C (spD CT 2 ft) E) (oEqO true C ft) := fun as S H x y dx dy Qd Q st rx ry ⟨fs, ty, e1, e2, e3, q⟩ k => by
  obtain ⟨a, dd, xs, rfl, h1, h2⟩ := insOf_ok st rx e1
  refine ⟨a, dd, xs, ty.val, rfl, h1, tyOf_D hk st ry e2 (fun D h => by rw [e3 D h]; exact hC), hE.first e3, as, S, [dx, dy], _, _, st, .cons rx (.cons ry .nil), rfl, q, fun as' S' H' d y' o st' r ⟨c, e, q'⟩ => ?_, fun H' C' dx' fs' ts o st' hx rf q => q.elim⟩
  subst e
  obtain rfl : y' = .bl c := r
  exact ⟨c, rfl, (k.on o).sc st' q'⟩
end
section
variable {CT : TTs} {E : XK} {X : Cx} {a b : Expr} {ta tb : TED} {pos : Pos} {k : Nat} {C : Addr} {ps : List Str} {ft : FT} {Cs : List Addr}
theorem de_eqO (G : MtG CT X.prog X.w X.K X.mg X.base k C "__eq__" ps ft) (hr : Room (k + 1) X.A) (hx : Passes (L2.CX X.prog X.w) X E) (hk : OwnOk X.K Cs) (hC : C ∈ Cs) (hE : EqC X.K C) (ha : DE CT E X a ta) (hb : DE CT E X b tb) (h2 : ps.length = 2 := by rfl) : DE CT E X (.Compare a [.Eq] [b] pos) (dOp (oEqO false C ft) ta tb) := by
  obtain ⟨f, fd, F, hb2, c, hm⟩ := G.ex
  rw [h2] at F
  exact de_cmp (op_ownEq F (hr.mono (Nat.le_succ _)) hb2 hx hm) (br_ownEq hk hC hE) ha hb (nomark _)
theorem de_neO (G : MtG CT X.prog X.w X.K X.mg X.base k C "__eq__" ps ft) (hr : Room (k + 1) X.A) (hx : Passes (L2.CX X.prog X.w) X E) (hk : OwnOk X.K Cs) (hC : C ∈ Cs) (hE : EqC X.K C) (ha : DE CT E X a ta) (hb : DE CT E X b tb) (h2 : ps.length = 2 := by rfl) : DE CT E X (.Compare a [.NotEq] [b] pos) (dOp (oEqO true C ft) ta tb) := by
  obtain ⟨f, fd, F, hb2, c, hm⟩ := G.ex
  rw [h2] at F
  exact de_cmp (op_ownNe F hr hb2 hx hm hE) (br_ownNe hk hC hE) ha hb (nomark _)
theorem dt_eqO (G : MtG CT X.prog X.w X.K X.mg X.base k C "__eq__" ps ft) (hr : Room (k + 1) X.A) (hx : Passes (L2.CX X.prog X.w) X E) (hk : OwnOk X.K Cs) (hC : C ∈ Cs) (hE : EqC X.K C) (ha : DE CT E X a ta) (hb : DE CT E X b tb) (h2 : ps.length = 2 := by rfl) : DT CT E X (.Compare a [.Eq] [b] pos) (dB (dOp (oEqO false C ft) ta tb)) := by
  obtain ⟨f, fd, F, hb2, c, hm⟩ := G.ex
  rw [h2] at F
  exact dt_cmp (op_ownEq F (hr.mono (Nat.le_succ _)) hb2 hx hm) (br_ownEq hk hC hE) ha hb (nomark _)
theorem dt_neO (G : MtG CT X.prog X.w X.K X.mg X.base k C "__eq__" ps ft) (hr : Room (k + 1) X.A) (hx : Passes (L2.CX X.prog X.w) X E) (hk : OwnOk X.K Cs) (hC : C ∈ Cs) (hE : EqC X.K C) (ha : DE CT E X a ta) (hb : DE CT E X b tb) (h2 : ps.length = 2 := by rfl) : DT CT E X (.Compare a [.NotEq] [b] pos) (dB (dOp (oEqO true C ft) ta tb)) := by
  obtain ⟨f, fd, F, hb2, c, hm⟩ := G.ex
  rw [h2] at F
  exact dt_cmp (op_ownNe F hr hb2 hx hm hE) (br_ownNe hk hC hE) ha hb (nomark _)
end
end DL
set_option Elab.async false
set_option linter.all false
set_option maxRecDepth 100000
/-! DL17: list(range(..)), {}, classes called by keywords -/
namespace DL
open PySem PySem.Spec PyProof.Rows L2

section
variable {CT : TTs} {E : XK} {X : Cx} {p pos pos2 : Pos}
theorem rgV_rep {as : List Addr} {L : Addr → Prop} {H : Hp} {a b : Int} : RepDs as L H (dInts a (b - a).toNat) (rgV a b) := by
  unfold dInts rgV
  generalize List.range (b - a).toNat = l
  induction l with
  | nil => exact .nil
  | cons x l ih => exact .cons rfl ih
/-- list(range(n)): a cell -/
def dListRgM (t : TED) : TED := fun X ρ S Q => t X ρ S fun d S1 => ∃ n : Int, d = .int n ∧ 0 ≤ n ∧ n ≤ 16777216 ∧ Q (.m S1.length) (S1 ++ [.lst (dInts 0 n.toNat)])
def dListRg (t : TED) : TED := fun X ρ S Q => t X ρ S fun d S1 => ∃ n : Int, d = .int n ∧ 0 ≤ n ∧ n ≤ 16777216 ∧ Q (.t (.lst ((List.range n.toNat).map fun i : Nat => .int i))) S1
theorem dInts_as {n : Nat} : asTs (dInts 0 n) = some ((List.range n).map fun i : Nat => T.int i) := by
  rw [asTs_iff]
  simp [dInts]
theorem de_listRgM {a : Expr} {t : TED} (hc : X.calm = true) (hm : X.mg "list" = none) (hm2 : X.mg "range" = none) (ha : DE CT E X a t) (hg : Gl X "list" := by rfl) (hg2 : Gl X "range" := by rfl) (na : starEach [a] X.env = (false, eval a X.env) :: starEach [] X.env := by rfl)
    (nb : starEach [.Call (.Name "range" p) [a] [] pos] X.env = (false, eval (.Call (.Name "range" p) [a] [] pos) X.env) :: starEach [] X.env := by rfl) {p2 pos2 : Pos} : DE CT E X (.Call (.Name "list" p2) [.Call (.Name "range" p) [a] [] pos] [] pos2) (dListRgM t) :=
  .of (pe_listRg hc hg hm (prg_1 hg2 hm2 ha.pe na) nb) fun σ H as S ρ Xq Qd Q z q k => ⟨as, S, ρ, Xq, _, z, q, fun as1 S1 H1 d y o1 s1 r ⟨n, e, h0, h1, q1⟩ => by
    subst e
    obtain rfl : y = .int n := r
    refine ⟨n, rfl, RgOk.of_le (by omega) h1 (by omega) h0, fun l hl => ?_⟩
    have := rgV_rep (as := as1) (L := Live as1 S1) (H := H1) (a := 0) (b := n)
    rw [Int.sub_zero] at this
    exact new_cell s1 this (k.on o1) hl q1⟩
theorem de_listRg {a : Expr} {t : TED} (hc : X.calm = true) (hm : X.mg "list" = none) (hm2 : X.mg "range" = none) (ha : DE CT E X a t) (hg : Gl X "list" := by rfl) (hg2 : Gl X "range" := by rfl) (na : starEach [a] X.env = (false, eval a X.env) :: starEach [] X.env := by rfl)
    (nb : starEach [.Call (.Name "range" p) [a] [] pos] X.env = (false, eval (.Call (.Name "range" p) [a] [] pos) X.env) :: starEach [] X.env := by rfl) {p2 pos2 : Pos} : DE CT E X (.Call (.Name "list" p2) [.Call (.Name "range" p) [a] [] pos] [] pos2) (dListRg t) :=
  .of (pe_listRg hc hg hm (prg_1 hg2 hm2 ha.pe na) nb) fun σ H as S ρ Xq Qd Q z q k => ⟨as, S, ρ, Xq, _, z, q, fun as1 S1 H1 d y o1 s1 r ⟨n, e, h0, h1, q1⟩ => by
    subst e
    obtain rfl : y = .int n := r
    refine ⟨n, rfl, RgOk.of_le (by omega) h1 (by omega) h0, fun l hl => ?_⟩
    have := rgV_rep (as := as1) (L := Live as1 S1) (H := H1) (a := 0) (b := n)
    rw [Int.sub_zero] at this
    exact new_lst s1 (repL_of dInts_as this) (k.on o1) hl q1⟩
/-! ### {} -/
def dDct0 : TED := fun _ _ S Q => Q (.t (.dct [])) S
def dDct0M : TED := fun _ _ S Q => Q (.m S.length) (S ++ [.dct []])
theorem de_dct0 : DE CT E X (.Dict [] [] pos) dDct0 := .of pe_dnewK fun σ H as S ρ Xq Qd Q z q k => fun l hl => by
  obtain ⟨s1, o1⟩ := z.st.new (o := .dK []) hl
  exact k as S _ (.t (.dct [])) _ o1 s1 ⟨l, [], rfl, fun h => z.st.live_there h hl, upd_same, rfl⟩ q
theorem de_dct0M : DE CT E X (.Dict [] [] pos) dDct0M := .of pe_dnewK fun σ H as S ρ Xq Qd Q z q k => fun l hl => by
  obtain ⟨s1, o1⟩ := z.st.cellNew (c := .dct []) (o := .dK []) hl fun o => ⟨[], upd_same, .nil⟩
  exact k _ _ _ (.m S.length) _ o1 s1 ⟨l, by rw [← z.st.len, List.getElem?_append_right (Nat.le_refl _)]; simp, rfl⟩ q
end
@[simp] theorem dDct0_e {X : XQ} {ρ : Env} {S : Store} {Q} : dDct0 X ρ S Q = Q (.t (.dct [])) S := rfl
@[simp] theorem dDct0M_e {X : XQ} {ρ : Env} {S : Store} {Q} : dDct0M X ρ S Q = Q (.m S.length) (S ++ [.dct []]) := rfl
@[simp] theorem dListRgM_e {t : TED} {X : XQ} {ρ : Env} {S : Store} {Q} : dListRgM t X ρ S Q = t X ρ S fun d S1 => intI d S1 fun n S1 => 0 ≤ n ∧ n ≤ 16777216 ∧ Q (.m S1.length) (S1 ++ [.lst (dInts 0 n.toNat)]) := rfl
@[simp] theorem dListRg_e {t : TED} {X : XQ} {ρ : Env} {S : Store} {Q} : dListRg t X ρ S Q = t X ρ S fun d S1 => intI d S1 fun n S1 => 0 ≤ n ∧ n ≤ 16777216 ∧ Q (.t (.lst ((List.range n.toNat).map fun i : Nat => .int i))) S1 := rfl
/-! ### C(k = v, ..) -/
def permL {α : Type} : List Nat → List α → List α
  | [], _ => []
  | i :: p, ws => match ws[i]? with
    | some w => w :: permL p ws
    | none => permL p ws
theorem permL_vals {zs : List V} {ws : List Value} (r : Vals zs ws) : ∀ p, Vals (permL p zs) (permL p ws)
  | [] => .nil
  | i :: p => by
    have ih := permL_vals r p
    unfold permL
    cases h : zs[i]? with
    | none =>
      have : ws[i]? = none := by
        rw [List.getElem?_eq_none_iff] at h ⊢
        rw [← r.length]; exact h
      rw [this]; exact ih
    | some z =>
      obtain ⟨u, hu, ru⟩ := r.get h
      rw [hu]
      exact .cons ru ih
theorem vals_app {a c : List V} {b d : List Value} (h : Vals a b) (h2 : Vals c d) : Vals (a ++ c) (b ++ d) := h.append h2
theorem permL_rep {as : List Addr} {L : Addr → Prop} {H : Hp} {ds : List D} {xs : List V} (r : RepDs as L H ds xs) : ∀ p, RepDs as L H (permL p ds) (permL p xs)
  | [] => .nil
  | i :: p => by
    have ih := permL_rep r p
    unfold permL
    cases h : ds[i]? with
    | none =>
      have : xs[i]? = none := by
        rw [List.getElem?_eq_none_iff] at h ⊢
        rw [← Paired.length r]; exact h
      rw [this]; exact ih
    | some z =>
      obtain ⟨u, hu, ru⟩ := repDs_get r h
      rw [hu]
      exact .cons ru ih
/-- a class called by keywords alone: their names as they are written, the places of the parameters -/
structure MkKG (CT : TTs) (P : Program) (w : World) (K : PySem.W.Frag) (mg : Str → Option Value) (base : Heap) (k : Nat) (x : Str) (C : Addr) (ps : List Str) (ft : FT) (ks : List Str) (pm : List Nat) : Prop where
  ex : ∃ f fd, FnOk P w K mg base (L2.CX P w) k f fd ps (spD CT ps.length ft) ∧ KBn K fd ps 1 ks (fun us ws => us ++ permL pm ws) (fun vs zs => vs ++ permL pm zs) ∧ Mk K C f ∧ mg x = some (.ref C)
theorem kbn_of {K : PySem.W.Frag} {x qual : Str} {st : Stmt} {f : Addr} {fd : FuncData} {ps : List Str} (F : L2.Fun K x qual st f fd) {n : Nat} {ks : List Str} {pm : List Nat}
    (h : ∀ (kV doc pm' : Value) (an : Option Addr) (cdv ct : Value) (us ws : List Value), us.length = n → ws.length = ks.length → bindArgs (PySem.W.fnOf x qual (defArgs st) (defBody st) (defScope st) .none kV doc pm' an cdv ct) ⟨us, ks.zip ws⟩ = pure (ps.zip (us ++ permL pm ws))) :
    KBn K fd ps n ks (fun us ws => us ++ permL pm ws) (fun vs zs => vs ++ permL pm zs) := by
  obtain ⟨oc, od, kV, doc, pm', an, cdv, ct, osl, rfl, lk, hcd⟩ := F.ex
  exact ⟨fun s us ws _ l1 l2 => BindsTo.of_eq (h kV doc pm' an cdv ct us ws l1 l2), fun r1 r2 => r1.append (permL_vals r2 pm)⟩
structure DK (CT : TTs) (E : XK) (X : Cx) (kws : List Keyword) (t : TAD) : Prop where
  pk : PK X kws (liftA CT E t)
section
variable {CT : TTs} {E : XK} {X : Cx} {p pos kpos : Pos} {x : Str}
theorem _root_.L2.PK.imp {X : Cx} {e : List Keyword} {t t' : TA} (h : PK X e t) (i : ∀ σ H Q, t' σ H Q → t σ H Q) : PK X e t' := ⟨fun p pins s σ H Q I q => h.run p pins s σ H Q I (i σ H Q q)⟩
theorem dk_nil : DK CT E X [] dNil := ⟨pk_nil.imp fun σ H Q ⟨as, S, ρ, Xq, Qd, z, q, k⟩ => k as S H [] [] (On.refl _ _ _) z.st .nil q⟩
theorem dk_cons {e : Expr} {nm : Option Str} {kws : List Keyword} {t : TED} {r : TAD} (h : DE CT E X e t) (hr : DK CT E X kws r) : DK CT E X (⟨nm, e, kpos⟩ :: kws) (dCons t r) :=
  ⟨(pk_cons h.pe hr.pk).imp fun σ H Q ⟨as, S, ρ, Xq, Qd, z, q, k⟩ => ⟨as, S, ρ, Xq, _, z, q, fun as1 S1 H1 dx x o1 s1 rx q1 => ⟨as1, S1, ρ, Xq, _, z.on o1 s1, q1, fun as2 S2 H2 ds ys o2 s2 rs q2 =>
    k as2 S2 H2 _ _ (o1.trans o2) s2 (.cons (o2.rep rx) rs) q2⟩⟩⟩
def dMakeK (C : Addr) (n m : Nat) (ft : FT) (pm : List Nat) (t : TAD) : TED := fun X ρ S Q => t X ρ S fun ds S1 => ds.length = m ∧ mkD C n ft (permL pm ds) X S1 Q
theorem de_KK {k : Nat} {ps ks : List Str} {ft : FT} {C : Addr} {pm : List Nat} {kws : List Keyword} {t : TAD} (G : MkKG CT X.prog X.w X.K X.mg X.base k x C ps ft ks pm) (hr : Room (k + 1) X.A) (hx : Passes (L2.CX X.prog X.w) X E) (ha : DK CT E X kws t) (hg : Gl X x := by rfl)
    (hall : (backToKw pos (keywordEach kws X.env)).all (·.1.isSome) = true := by rfl) (hks : (backToKw pos (keywordEach kws X.env)).filterMap (·.1) = ks := by rfl) (hdb : (x == ("__debug__" : Str)) = false := by decide)
    (hpl : ((backTo pos (starEach [] X.env)).any (·.1) || (backToKw pos (keywordEach kws X.env)).any (·.1.isNone)) = false := by rfl) : DE CT E X (.Call (.Name x p) [] kws pos) (dMakeK C ps.length ks.length ft pm t) := by
  obtain ⟨f, fd, F, hb, M, hm⟩ := G.ex
  refine .of (pe_makeK0 M F hr hg hm hb hx ha.pk hall hks hdb hpl) fun σ H as S ρ Xq Qd Q z q k => ?_
  refine (⟨as, S, ρ, Xq, _, z, q, fun as1 S1 H1 ds ys o1 s1 r ⟨hl, q1⟩ => ?_⟩ : liftA CT E t σ H _)
  refine ⟨rfl, by rw [← Paired.length r]; exact hl, fun a dx ha' hd ne => ?_⟩
  show spD CT ps.length ft ([V.ref a] ++ permL pm ys) _ _ E
  exact mk_of' s1 (permL_rep r pm) q1 (k.on o1) (z.ex.on o1) ha' hd ne
end
@[simp] theorem dMakeK_e {C : Addr} {n m : Nat} {ft : FT} {pm : List Nat} {t : TAD} {X : XQ} {ρ : Env} {S : Store} {Q} : dMakeK C n m ft pm t X ρ S Q = t X ρ S fun ds S1 => ds.length = m ∧ mkD C n ft (permL pm ds) X S1 Q := rfl
@[simp] theorem dMake_e {C : Addr} {n : Nat} {ft : FT} {t : TAD} {X : XQ} {ρ : Env} {S : Store} {Q} : dMake C n ft t X ρ S Q = t X ρ S fun ds S1 => mkD C n ft ds X S1 Q := rfl
/-! ### xs.index(x) -/
def mIndexT : D → RAD := fun d ds S Q => ∃ (ts : List T) (e : D) (x t : T) (j : Nat), ds = [e] ∧ d.tree S = some (.lst ts) ∧ e.tree S = some x ∧ dat 64 (.lst ts) = true ∧ dat 64 x = true ∧ ts[j]? = some t ∧ eqT t x = true ∧ (∀ (m : Nat) u, m < j → ts[m]? = some u → eqT u x = false) ∧ Q (.int (j : Nat)) S
theorem pys_get : ∀ {ts : List T} {ps : List PyData} {i : Nat}, T.pys ts = some ps → (∀ t, ts[i]? = some t → ∃ p, ps[i]? = some p ∧ t.py = some p) ∧ ∀ p, ps[i]? = some p → ∃ t, ts[i]? = some t ∧ t.py = some p
  | [], ps, i, h => by unfold T.pys at h; cases h; simp
  | t :: ts, ps, i, h => by
    unfold T.pys at h
    cases e1 : T.py t with
    | none => rw [e1] at h; cases h
    | some q =>
      cases e2 : T.pys ts with
      | none => rw [e1, e2] at h; cases h
      | some qs =>
        rw [e1, e2] at h; cases h
        cases i with
        | zero => simp [e1]
        | succ j => simpa using pys_get (i := j) e2
theorem br_indexD {CT : TTs} {K : PySem.W.Frag} : BrM CT (rIndexD K) mIndexT := fun as S H x d xs ds Qd Q st rx r ⟨ts, e, y, t, j, e1, e2, e3, d1, d2, hj, ht, hno, q⟩ k => by
  subst e1
  obtain ⟨v, rfl, rv⟩ := repDs1 r
  obtain ⟨p, p1, p2⟩ := dat_shaped d1
  obtain ⟨py, p3, p4⟩ := dat_shaped d2
  have dp : Dp K H x p := D.py_ok st rx (by rw [py_of e2, p1])
  unfold T.py at p1
  cases e4 : T.pys ts with
  | none => rw [e4] at p1; cases p1
  | some ps =>
    rw [e4] at p1; cases p1
    obtain ⟨z, hz, hz2⟩ := (pys_get (i := j) e4).1 t hj
    have hx : ∃ a, x = V.ref a := by
      cases dp with
      | lst h _ => exact ⟨_, rfl⟩
    obtain ⟨a, rfl⟩ := hx
    refine ⟨a, v, py, ps, j, z, rfl, rfl, dp, D.py_ok st rv (by rw [py_of e3, p3]), p2, p4, hz, by rw [eqT_py t y z py hz2 p3]; exact ht, fun m z' hm hz' => ?_, k.sc st q⟩
    obtain ⟨u, hu, hu2⟩ := (pys_get (i := m) e4).2 z' hz'
    rw [eqT_py u y z' py hu2 p3]
    exact hno m u hm hu
end DL
set_option Elab.async false
set_option linter.all false
set_option maxRecDepth 100000
/-! DL18: list(enumerate(xs)) -/
namespace DL
open PySem PySem.W PySem.Spec PyProof.Rows L2
open PySem.Calls
/-! ### list.extend over an enumerate of a list -/
theorem en_no_len : typeLookup (.type "enumerate") "__len__" = pure none := am_miss_of_fast (by decide +kernel)
theorem en_no_hint : typeLookup (.type "enumerate") "__length_hint__" = pure none := am_miss_of_fast (by decide +kernel)
def nums {α : Type} (k : Nat) : List α → List (Key × α)
  | [] => []
  | x :: xs => (Sum.inl (k : Int), x) :: nums (k + 1) xs
theorem nums_get {α : Type} : ∀ {xs : List α} {k i : Nat}, (nums k xs)[i]? = (xs[i]?).map fun x => (Sum.inl ((k + i : Nat) : Int), x)
  | [], k, i => by simp [nums]
  | x :: xs, k, 0 => by simp [nums]
  | x :: xs, k, i + 1 => by
    show (nums (k + 1) xs)[i]? = _
    rw [nums_get]
    simp [Nat.add_comm, Nat.add_left_comm]
theorem nums_len {α : Type} : ∀ {xs : List α} {k : Nat}, (nums k xs).length = xs.length
  | [], k => rfl
  | x :: xs, k => by simp [nums, nums_len]
def EnSt (h : Heap) (e it S : Addr) (i : Nat) : Prop := (i = 0 ∧ IsEnum h e it ((0 : Nat) : Int) .none) ∨ ∃ old T f oT, IsEnumHeld h e it (i : Int) old T f ∧ h.get? T = some oT ∧ T ≠ e ∧ T ≠ it ∧ T ≠ S
theorem EnSt.keep {h h' : Heap} {e it S : Addr} {i : Nat} (x : EnSt h e it S i) (hk : ∀ b o, b ≠ S → h.get? b = some o → h'.get? b = some o) (hI : e ≠ S) : EnSt h' e it S i := by
  rcases x with ⟨e0, he⟩ | ⟨old, T, f, oT, he, hT, h1, h2, h3⟩
  · exact .inl ⟨e0, hk _ _ hI he⟩
  · exact .inr ⟨old, T, f, oT, hk _ _ hI he, hk _ _ h3 hT, h1, h2, h3⟩
section
variable {prog : Program} {w : World} {A : Around} {E : Value → Shared → Prop} {s : Shared}
theorem en_item {e it l S : Addr} {i : Nat} {items : Array Value} {x : Value} {Q : Option Value → Shared → Prop} (hst : EnSt s.heap e it S i) (hS : S < s.heap.objs.size) (hit : s.heap.IsListIter it l i) (hl : s.heap.IsList l items) (hx : items[i]? = some x) (hne : e ≠ it)
    (hQ : ∀ h', EnSt h' e it S (i + 1) → h'.IsListIter it l (i + 1) → h'.get? s.heap.objs.size = some { cls := .type "tuple", data := .seq #[.int i s.toks, x] } → h'.objs.size = s.heap.objs.size + 1 →
      (∀ b o, b ≠ e → b ≠ it → s.heap.get? b = some o → h'.get? b = some o) → Q (some (.ref s.heap.objs.size)) { s with heap := h', toks := s.toks + 1 }) :
    wpAny (model prog w) A (pyNext (.ref e)) Q E s := by
  have hil : it < s.heap.objs.size := let ⟨_, ho, _⟩ := hit; Heap.lt_size ho
  rcases hst with ⟨rfl, he⟩ | ⟨old, T, f, oT, he, hT, h1, h2, h3⟩
  · refine wpAny_pyNext_enum_item he hit hl hx hne fun h' a1 a2 a3 a4 a5 => hQ h' (.inr ⟨x, s.heap.objs.size, false, _, ?_, a3, Nat.ne_of_gt (Heap.lt_size he), Nat.ne_of_gt hil, Nat.ne_of_gt hS⟩) a2 a3 a4 a5
    exact a1
  · refine wpAny_pyNext_enum_item_held he hT h1 h2 hit hl hx hne fun h' a1 a2 a3 a4 a5 => hQ h' (.inr ⟨old, T, true, oT, ?_, a5 T oT h1 h2 hT, h1, h2, h3⟩) a2 a3 a4 a5
    exact a1
theorem en_done {e it l S : Addr} {i : Nat} {items : Array Value} {Q : Option Value → Shared → Prop} (hh : A.handled = none) (hst : EnSt s.heap e it S i) (hit : s.heap.IsListIter it l i) (hl : s.heap.IsList l items) (hx : items[i]? = none)
    (hQ : ∀ h', Heap.ExtBut it s.heap h' → Q none { s with heap := h' }) : wpAny (model prog w) A (pyNext (.ref e)) Q E s := by
  rcases hst with ⟨rfl, he⟩ | ⟨old, T, f, oT, he, _, _, _, _⟩
  · exact wpAny_pyNext_enum_end hh he hit hl hx hQ
  · exact wpAny_pyNext_enum_end_held hh he hit hl hx hQ
variable {R : Result → Shared → Prop} {items : Array Value}
theorem en_loop {S e it l : Addr} (hh : A.handled = none) (heS : e < S) (hiS : it < S) (hei : e ≠ it) (hlS : l ≠ S) (hle : l ≠ e) (hli : l ≠ it) (hn : items.size ≤ sizeLine) (res : Value) {h₁ : Heap}
    (hR : ∀ h' tk acc c as, (∀ b o, b ≠ S → b ≠ e → b ≠ it → h₁.get? b = some o → h'.get? b = some o) → h'.get? S = some { cls := .type "list", dict := none, data := .seq acc c, slots := #[] } → as.length = items.size → KdxG (mixKind prog w) (nums 0 items.toList) S h' as →
      acc.toList = as.map Value.ref → R (.ok (.ret res)) { s with heap := h', toks := tk }) :
    ∀ (k i : Nat) (h : Heap) (tk : Tok) (c : Nat) (acc : Array Value) (as : List Addr), items.size - i = k → i ≤ items.size → EnSt h e it S i → h.IsListIter it l i → h.IsList l items → (∀ b o, b ≠ S → b ≠ e → b ≠ it → h₁.get? b = some o → h.get? b = some o) →
      h.get? S = some { cls := .type "list", dict := none, data := .seq acc c, slots := #[] } → acc.toList = as.map Value.ref → as.length = i → KdxG (mixKind prog w) (nums 0 items.toList) S h as →
      codeAny (model prog w) A (.builtin "list.extend.loop" ⟨[.ref S, .ref e, res], []⟩) R { s with heap := h, toks := tk } := by
  have heS' : e ≠ S := Nat.ne_of_lt heS
  have hiS' : it ≠ S := Nat.ne_of_lt hiS
  intro k
  induction k with
  | zero =>
    intro i h tk c acc as hk hi hst hit hl hkeep hS hacc hal hG
    have hin : i = items.size := by omega
    refine codeAny_builtin PySem.F.entry_extend_loop ?_
    rw [Around.under_plainId PySem.F.plain_extend_loop _]
    show wpAny _ A.in1 (pyNext (.ref e) >>= _) _ _ _
    refine wpAny_bind (en_done (s := { s with heap := h, toks := tk }) (A := A.in1) hh hst hit hl (Array.getElem?_eq_none (by omega)) fun h' he => ?_)
    refine wpAny_pure (hR h' tk acc c as (fun b o h1 h2 h3 e => he b o h3 (hkeep b o h1 h2 h3 e)) (he S _ (Ne.symm hiS') hS) (by omega) ⟨hG.rise, hG.above, fun j a hj => ?_⟩ hacc)
    obtain ⟨key, kk, x, e1, e2, e3⟩ := hG.pairs j a hj
    exact ⟨key, kk, x, e1, e2, he a _ (Nat.ne_of_gt (Nat.lt_trans hiS (hG.above a (List.mem_of_getElem? hj)))) e3⟩
  | succ k ih =>
    intro i h tk c acc as hk hi hst hit hl hkeep hS hacc hal hG
    have hlt : i < items.size := by omega
    obtain ⟨x, hx⟩ : ∃ x, items[i]? = some x := ⟨items[i], Array.getElem?_eq_getElem hlt⟩
    have hsz : acc.size = i := by rw [← Array.length_toList, hacc, List.length_map, hal]
    refine codeAny_builtin PySem.F.entry_extend_loop ?_
    rw [Around.under_plainId PySem.F.plain_extend_loop _]
    show wpAny _ A.in1 (pyNext (.ref e) >>= _) _ _ _
    refine wpAny_bind (en_item (s := { s with heap := h, toks := tk }) (S := S) hst (Heap.lt_size hS) hit hl hx hei fun h' hst' hit' ht hz hkp => ?_)
    dsimp only at ht hz hkp ⊢
    have hS' := hkp S _ (Ne.symm heS') (Ne.symm hiS') hS
    have up : ∀ b o, b ≠ S → h'.get? b = some o → (h'.update S (Obj.mapSeq (·.push (Value.ref h.objs.size)))).get? b = some o := fun b o hb e => (Heap.get?_update_other _ _ (Ne.symm hb)).trans e
    have hSl : S < h.objs.size := Heap.lt_size hS
    show wpAny _ A.in1 (updateSeq S (·.push (Value.ref h.objs.size)) >>= _) _ _ _
    refine wpAny_bind ?_
    refine wpAny_updateSeq hS' rfl (wpAny_pure ⟨plainId_quiet PySem.F.plain_extend_loop _, ih (i + 1) _ (tk + 1) _ (acc.push (Value.ref h.objs.size)) (as ++ [h.objs.size]) (by omega) hlt (hst'.keep up heS') (hit'.at fun o e => up it o hiS' e) (hl.at fun o e => up l o hlS (hkp l o hle hli e))
      (fun b o h1 h2 h3 e => up b o h1 (hkp b o h2 h3 (hkeep b o h1 h2 h3 e))) (Heap.get?_update_self _ hS' rfl) (by rw [Array.toList_push, hacc, List.map_append]; rfl) (by rw [List.length_append, hal]; rfl) ⟨?_, ?_, ?_⟩⟩) (by rw [hsz]; omega) (by show (acc.push (Value.ref h.objs.size)).size ≤ sizeLine + 1; rw [Array.size_push, hsz]; omega)
    · refine List.pairwise_append.mpr ⟨hG.rise, List.pairwise_singleton _ _, fun a ha b hb => ?_⟩
      rw [List.mem_singleton.mp hb]
      exact hG.there ha
    · intro a ha
      rcases List.mem_append.mp ha with ha | ha
      · exact hG.above a ha
      · rw [List.mem_singleton.mp ha]; exact hSl
    · intro j b hj
      rcases Nat.lt_trichotomy j as.length with h1 | h1 | h1
      · rw [List.getElem?_append_left h1] at hj
        obtain ⟨key', k', x', e1, e2, e3⟩ := hG.pairs j b hj
        have hb := hG.above b (List.mem_of_getElem? hj)
        exact ⟨key', k', x', e1, e2, up b _ (Nat.ne_of_gt hb) (hkp b _ (Nat.ne_of_gt (Nat.lt_trans heS hb)) (Nat.ne_of_gt (Nat.lt_trans hiS hb)) e3)⟩
      · subst h1
        have hb : h.objs.size = b := by simpa using hj
        subst hb
        refine ⟨.int (as.length : Int) tk, Sum.inl ((as.length : Nat) : Int), x, ?_, ?_, up _ _ (Nat.ne_of_gt hSl) (by rw [hal]; exact ht)⟩
        · rw [nums_get, hal, show items.toList[i]? = some x from by rw [Array.getElem?_toList]; exact hx]
          simp
        · show keyIs (Sum.inl ((as.length : Nat) : Int)) (.int (as.length : Int) tk) = true
          simp [keyIs, Value.isInt]
      · have hnone : (as ++ [h.objs.size])[j]? = none := List.getElem?_eq_none (by rw [List.length_append, List.length_singleton]; omega)
        rw [hnone] at hj; cases hj
/-- list(e), e an enumerate not yet begun -/
theorem en_call {e it l : Addr} {Q : Value → Shared → Prop} (hh : A.handled = none) (he : IsEnum s.heap e it ((0 : Nat) : Int) .none) (hit : s.heap.IsListIter it l 0) (hl : s.heap.IsList l items) (hei : e ≠ it) (hle : l ≠ e) (hli : l ≠ it) (hn : items.size ≤ sizeLine)
    (hQ : ∀ h' tk acc c as, (∀ b o, b ≠ e → b ≠ it → s.heap.get? b = some o → h'.get? b = some o) → h'.get? s.heap.objs.size = some { cls := .type "list", dict := none, data := .seq acc c, slots := #[] } → as.length = items.size → KdxG (mixKind prog w) (nums 0 items.toList) s.heap.objs.size h' as →
      acc.toList = as.map Value.ref → Q (.ref s.heap.objs.size) { s with heap := h', toks := tk }) :
    wpAny (model prog w) A (call (.type "list") [.ref e]) Q E s := by
  have hel : e < s.heap.objs.size := Heap.lt_size he
  have hil : it < s.heap.objs.size := let ⟨_, ho, _⟩ := hit; Heap.lt_size ho
  have hll : l < s.heap.objs.size := let ⟨_, ho, _⟩ := hl; Heap.lt_size ho
  refine callType_codes (Q₁ := fun obj s₁ => obj = .ref s.heap.objs.size ∧ s₁ = { s with heap := s.heap.push { cls := .type "list", data := .seq #[] } }) PySem.F.called_list (PySem.F.typeCall_list_1 _) PySem.F.entry_list_init
    (code_list_new _ ⟨rfl, rfl⟩) fun obj s₁ h₁ => ?_
  obtain ⟨rfl, rfl⟩ := h₁
  have hS : (s.heap.push { cls := .type "list", data := .seq #[] }).get? s.heap.objs.size = some { cls := .type "list", data := .seq #[] } := Heap.get?_push_size _ rfl
  refine ⟨⟨_, hS, rfl⟩, PySem.F.args_list_init_2 _ _, ?_⟩
  show wpAny _ A.in1.in1 (do let old ← Builtin.List.listItems (.ref s.heap.objs.size); Builtin.List.listUpdate (.ref s.heap.objs.size) (fun _ => #[]); letGo old.toList.reverse; Builtin.List.listExtendWith (.ref s.heap.objs.size) (.ref e) .none) _ _ _
  refine wpAny_bind ?_
  unfold Builtin.List.listItems
  refine wpAny_bind (wpAny_seqItems hS rfl (wpAny_pure ?_))
  show wpAny _ A.in1.in1 (updateSeq s.heap.objs.size (fun _ => #[]) >>= fun _ => letGo (#[] : Array Value).toList.reverse >>= fun _ => Builtin.List.listExtendWith (.ref s.heap.objs.size) (.ref e) .none) _ _ _
  refine wpAny_bind (wpAny_updateSeq hS rfl ?_)
  have hS2 := Heap.get?_update_self (Obj.mapSeq (fun _ => (#[] : Array Value))) hS rfl
  refine wpAny_bind (wpAny_letGo ?_)
  unfold Builtin.List.listExtendWith
  have up : ∀ (h : Heap) (f : Obj → Obj), (∀ b o, s.heap.get? b = some o → h.get? b = some o) → ∀ b o, s.heap.get? b = some o → (h.update s.heap.objs.size f).get? b = some o := fun h f q b o e =>
    (Heap.get?_update_other _ _ (Ne.symm (Nat.ne_of_lt (Heap.lt_size e)))).trans (q b o e)
  have k1 : ∀ b o, s.heap.get? b = some o → (s.heap.push { cls := .type "list", data := .seq #[] }).get? b = some o := fun b o e => Heap.get?_push_of_some _ e
  have k2 := up _ (Obj.mapSeq (fun _ => (#[] : Array Value))) k1
  have he2 := k2 e _ he
  have hT2 : ∀ {h : Heap}, h.get? e = some { cls := .type "enumerate", dict := none, data := .fields #[.none, .bool false, .ref it, rawInt ((0 : Nat) : Int), .none, .none], slots := #[] } → Shared.TypeIs { s with heap := h } (.ref e) "enumerate" := fun q => ⟨_, q, rfl⟩
  refine wpAny_bind (wpAny_typeOf (hT2 he2) ?_)
  have h1 : Builtin.List.listSameRef (.ref s.heap.objs.size) (.ref e) = false := by simp [Builtin.List.listSameRef, Nat.ne_of_gt hel]
  have h2 : (Value.type "enumerate" == Value.type "list") = false := by decide
  have h3 : (Value.type "enumerate" == Value.type "tuple") = false := by decide
  simp only [h1, h2, h3, Bool.or_false, Bool.false_eq_true, if_false]
  refine wpAny_bind (wpAny_pyIter_enum (s := { s with heap := _ }) he2 ?_)
  refine wpAny_bind (wpAny_holding ?_)
  unfold Builtin.List.listLengthHint
  refine wpAny_bind (wpAny_specialOf (hT2 he2) en_no_len ?_)
  show wpAny _ A.in1.in1 (specialOf (Value.ref e) (Str.ofString "__length_hint__") >>= _) _ _ _
  refine wpAny_bind (wpAny_specialOf (hT2 he2) en_no_hint ?_)
  refine wpAny_pure ?_
  show wpAny _ A.in1.in1 (rule "list.extend.makes-room" >>= fun _ => Builtin.List.listTouch (.ref s.heap.objs.size) >>= fun _ =>
    again (.builtin "list.extend.loop" ⟨[.ref s.heap.objs.size, .ref e, .none], []⟩)) _ _ _
  refine wpAny_bind (wpAny_rule ?_)
  refine wpAny_bind ?_
  show wpAny _ A.in1.in1 (updateSeq s.heap.objs.size (·.push .none) >>= fun _ => updateSeq s.heap.objs.size (·.pop)) _ _ _
  refine wpAny_bind (wpAny_updateSeq hS2 rfl ?_)
  have hS3 := Heap.get?_update_self (Obj.mapSeq (·.push Value.none)) hS2 rfl
  refine wpAny_updateSeq (hz := by seq_fits) hS3 rfl ?_
  have hS4 := Heap.get?_update_self (Obj.mapSeq (·.pop)) hS3 rfl
  have k4 := up _ (Obj.mapSeq (·.pop)) (up _ (Obj.mapSeq (·.push Value.none)) k2)
  refine wpAny_pure ⟨plainId_quiet F.plain_extend_loop _, ?_⟩
  refine en_loop (A := A.in1) (s := s) (items := items) (h₁ := s.heap) hh hel hil hei (Nat.ne_of_lt hll) hle hli hn .none (fun h' tk acc c as hk hS' hl' hG hacc => ⟨rfl, hQ h' tk acc c as (fun b o h2 h3 e => hk b o (Nat.ne_of_lt (Heap.lt_size e)) h2 h3 e) hS' hl' hG hacc⟩)
    items.size 0 _ _ _ #[] [] (Nat.sub_zero _) (Nat.zero_le _) (.inl ⟨rfl, k4 e _ he⟩) (hit.at fun o q => k4 it o q) (hl.at fun o q => k4 l o q) (fun b o _ _ _ q => k4 b o q) hS4 rfl rfl ⟨List.Pairwise.nil, (fun _ ha => nomatch ha), (fun j a hj => by simp at hj)⟩
end
/-! ### the expression -/
def rEnL (K : PySem.W.Frag) : V → Hp → VK → Prop := fun x H Q => ∃ (a : Addr) (xs : List V), x = .ref a ∧ SqL K H a xs ∧
  ∀ (H' : Hp) (p : Addr) (ts : List Addr), (∀ b o, H b = some o → H' b = some o) → H p = none → (∀ t ∈ ts, H t = none) → p ∉ ts → H' p = some (.lst (ts.map V.ref)) → Paired (fun (t : Addr) (q : Key × V) => H' t = some (.tup [kV q.1, q.2])) ts (nums 0 xs) → Q (.ref p) H'
def tListEn (K : PySem.W.Frag) (te : TE) : TE := fun σ H Q => te σ H fun x H1 => rEnL K x H1 Q
theorem kv_nums {xs : List V} {us : List Value} (h : Vals xs us) : ∀ {k : Nat}, KV (nums k xs) (nums k us) := by
  induction h with
  | nil => intro k; exact .nil
  | cons r _ ih => intro k; exact .cons ⟨rfl, r⟩ ih
section
variable {X : Cx} {a : Expr} {te : TE} {p p2 pos pos2 : Pos}
/-- the list at S, the pairs at as: laid into the abstract heap -/
theorem laid_at {pins : List (Addr × Obj)} {σ : L2.St} {H : Hp} {s : Shared} {h' : Heap} {tk : Nat} {kvs : List (Key × V)} {vs : List (Key × Value)} {acc : Array Value} {c : Nat} {S : Addr} {as : List Addr} (I : Inv X pins σ H s) (hz : kvs.length ≤ sizeLine) (kv : KV kvs vs) (hge : s.heap.objs.size ≤ S)
    (hk : ∀ b o, s.heap.get? b = some o → h'.get? b = some o) (hS : h'.get? S = some { cls := .type "list", dict := none, data := .seq acc c, slots := #[] }) (hl : as.length = vs.length) (hG : PySem.W.KdxG (mixKind X.prog X.w) vs S h' as) (hacc : acc.toList = as.map Value.ref) :
    ∃ H' : Hp, (∀ b o, H b = some o → H' b = some o) ∧ H S = none ∧ (∀ t ∈ as, H t = none) ∧ S ∉ as ∧ H' S = some (.lst (as.map V.ref)) ∧ Paired (fun (t : Addr) (q : Key × V) => H' t = some (.tup [kV q.1, q.2])) as kvs ∧ Inv X pins σ H' { s with heap := h', toks := tk } := by
  have lk := Paired.length kv
  have nS : S ∉ as := fun z => Nat.lt_irrefl _ (hG.above _ z)
  have nd : as.Nodup := hG.rise.imp Nat.ne_of_lt
  have big : ∀ t ∈ as, s.heap.objs.size ≤ t := fun t ht => Nat.le_trans hge (Nat.le_of_lt (hG.above t ht))
  have nw : ∀ t ∈ as, H t = none := fun t ht => I.hok.fresh (big t ht)
  have nwS : H S = none := I.hok.fresh hge
  generalize hH : LiI.putT (upd H S (.lst (as.map V.ref))) as kvs = H'
  have at_ := LiI.putT_at as kvs (upd H S (.lst (as.map V.ref))) (hl.trans lk.symm) nd
  rw [hH] at at_
  have off : ∀ b, b ∉ as → b ≠ S → H' b = H b := fun b h1 h2 => by rw [← hH, LiI.putT_off as kvs _ h1, upd_ne h2]
  have low : ∀ b o, s.heap.get? b = some o → b ∉ as ∧ b ≠ S := fun b o e => by
    have := Heap.lt_size e
    exact ⟨fun z => absurd this (Nat.not_lt.mpr (big b z)), fun z => absurd this (Nat.not_lt.mpr (by rw [z]; exact hge))⟩
  have kp : ∀ b u, H b = some u → H' b = some u := fun b u e => by
    rw [off b (fun z => by simp [nw b z] at e) (fun z => by simp [z, nwS] at e)]; exact e
  have eS : H' S = some (.lst (as.map V.ref)) := by rw [← hH, LiI.putT_off as kvs _ nS, upd_same]
  refine ⟨H', kp, nwS, nw, nS, eS, at_, I.call' (ch := []) rfl ⟨fun b o q _ _ _ => hk b o q, fun b o q _ _ _ => ⟨o.slots, hk b o q⟩, fun b o q n _ => ?_, fun b o q _ => ⟨o, hk b o q⟩, fun b xs q => kp b _ q, fun b o u q => kp b _ q, fun b ps q => ⟨#[], by simp [kp b _ q]⟩⟩ (fun b u q => ?_) I.bare fun b z => by simp at z⟩
  · rw [off b (low b o q).1 (low b o q).2]; exact n
  · by_cases h1 : b ∈ as
    · obtain ⟨j, pk, e1, e2, e3⟩ := LiI.paired_ix at_ h1
      obtain ⟨key, k, x, f1, f2, f3⟩ := hG.pairs j b e1
      obtain ⟨qv, g1, g2, g3⟩ := LiI.paired_get kv e2
      rw [e3] at q; cases q
      rw [f1] at g1; cases g1
      refine ⟨by show 2 ≤ sizeLine; decide, [key, x], .cons ?_ (.cons g3 .nil), ⟨_, f3, rfl, _, rfl⟩⟩
      rw [g2]; exact relV_key (show keyIs k key = true from f2)
    · by_cases h2 : b = S
      · subst h2
        rw [eS] at q; cases q
        exact ⟨by simp [hl, ← lk, hz], acc.toList, c, by rw [hacc]; exact LiI.vals_refs as, by simpa using hS⟩
      · rw [off b h1 h2] at q
        exact (I.hok b u q).stay (fun d v _ y => hk d v y) (fun d y => kp d _ y) fun d xs y => kp d _ y
theorem pe_listEn (hc : X.calm = true) (he : PE X a te) (hg : Gl X "list") (hm : X.mg "list" = none) (hg2 : Gl X "enumerate") (hm2 : X.mg "enumerate" = none)
    (na : starEach [a] X.env = [(false, eval a X.env)] := by rfl) (na2 : starEach [a] X.env = (false, eval a X.env) :: starEach [] X.env := by rfl)
    (nb : starEach [.Call (.Name "enumerate" p) [a] [] pos] X.env = (false, eval (.Call (.Name "enumerate" p) [a] [] pos) X.env) :: starEach [] X.env := by rfl) :
    PE X (.Call (.Name "list" p2) [.Call (.Name "enumerate" p) [a] [] pos] [] pos2) (tListEn X.K te) := by
  refine ⟨fun pins s σ H Q I hq => ?_⟩
  refine wpAny_Call_Name_kw (ld_blt I hg hm boot_list ?_)
  refine PyProof.Rows.callWith_type1 ?_ nb rfl
  rw [nb]
  show wpAny _ _ (spliced ((false, eval (.Call (.Name "enumerate" p) [a] [] pos) X.env) :: backTo pos2 (starEach [] X.env))) _ _ s
  refine Calls.spliced_cons ?_
  refine Call_ (ld_blt I hg2 hm2 boot_enumerate (PyProof.Rows.callWith_type1 (thn ((pa_cons he pa_nil na2).run pos pins s σ H (fun vs H1 => match vs with
    | [x] => rEnL X.K x H1 Q
    | _ => False) I hq) fun us s1 ⟨vs, H1, I1, r1, q1⟩ => ?_) na rfl))
  match vs, q1, r1 with
  | [x], q1, .cons r .nil =>
    obtain ⟨l, xs, rfl, hsq, q⟩ := q1
    cases r
    obtain ⟨its, rv, p', hz⟩ := I1.list hsq
    have hll : l < s1.heap.objs.size := let ⟨_, ho, _⟩ := p'.isList; Heap.lt_size ho
    refine call_enumerate_list p'.isList fun h' hen hit hsz hk => ?_
    refine Calls.spliced_nil ?_
    have hlen : xs.length = its.length := Paired.length rv
    refine en_call (s := { s1 with heap := h' }) (items := its.toArray) (I1.ok.hd hc) hen hit (p'.isList.at fun o y => hk l o y) (Nat.succ_ne_self _) (Nat.ne_of_lt (Nat.lt_succ_of_lt hll)) (Nat.ne_of_lt hll) (by rw [List.size_toArray, ← hlen]; exact hz) fun h2 tk acc c as hk2 hS hl hG hacc => ?_
    dsimp only at hk2 hS hG ⊢
    obtain ⟨H', k1, k2, k3, k4, k5, k6, J⟩ := laid_at (tk := tk) (h' := h2) (kvs := nums 0 xs) (vs := nums 0 its) (S := h'.objs.size) I1 (by rw [nums_len]; exact hz) (kv_nums rv) (by rw [hsz]; exact Nat.le_add_right _ _)
      (fun b o y => hk2 b o (Nat.ne_of_lt (Nat.lt_succ_of_lt (Heap.lt_size y))) (Nat.ne_of_lt (Heap.lt_size y)) (hk b o y)) hS (by rw [hl, nums_len]; simp) hG hacc
    exact ⟨.ref _, H', J, rfl, q H' _ as k1 k2 k3 k4 k5 k6⟩
end
/-! ### over data -/
theorem Ext.grow {L : Addr → Prop} {H H' : Hp} (k : ∀ b o, H b = some o → H' b = some o) : Ext L H L H' where
  keep := fun b o e _ _ => k b o e
  live := fun b l => .inl l
  dom := fun b e => by
    cases q : H b with
    | none => exact .inl q
    | some o =>
      rcases e with e | ⟨ps, e⟩
      · rw [k b o q] at e; cases e
      · rw [k b o q] at e; cases e; exact .inr ⟨ps, q⟩
theorem StOk.grow {CT : TTs} {as : List Addr} {S : Store} {H H' : Hp} (st : StOk CT as S H) (k : ∀ b o, H b = some o → H' b = some o) : StOk CT as S H' ∧ On as S H as S H' := by
  have on : On as S H as S H' := ⟨Ext.grow k, fun _ _ e => e⟩
  refine ⟨⟨fun p hp => ?_, st.len, st.nd, fun i a e z => st.there i a e (by
    cases q : H a with
    | none => rfl
    | some o => rw [k a o q] at z; cases z), fun i a c e1 e2 => CellOk.ext on.ext on.pre c (fun o ho _ => k a o ho) (st.cell i a c e1 e2)⟩, on⟩
  obtain ⟨ps, h1, h2, h3⟩ := st.tab p hp
  exact ⟨ps, k _ _ h1, h2, fun pos cv hc => let ⟨c, e1, e2⟩ := h3 pos cv hc; ⟨c, e1, k _ _ e2⟩⟩
def dListEn (t : TED) : TED := fun X ρ S Q => t X ρ S fun d S1 => ∃ ds ts, seqL S1 d = some ds ∧ asTs (enums 0 ds) = some ts ∧ ts.length = ds.length ∧ Q (.t (.lst ts)) S1
theorem repL_enums {as : List Addr} {L : Addr → Prop} {H' : Hp} : ∀ {ds : List D} {k : Nat} {ts : List T} {xs : List V} {us : List Addr}, (∀ t ∈ us, ¬ L t) → asTs (enums k ds) = some ts → ts.length = ds.length → RepDs as L H' ds xs →
    Paired (fun (t : Addr) (q : Key × V) => H' t = some (.tup [kV q.1, q.2])) us (nums k xs) → RepL L H' ts (us.map V.ref)
  | [], k, ts, xs, us, hn, ht, hl, r, p => by
    cases r
    cases p
    cases List.length_eq_zero_iff.mp hl
    rfl
  | .m i :: ds, k, ts, xs, us, hn, ht, hl, r, p => by
    unfold enums at ht
    cases ht
    cases hl
  | .t x :: ds, k, ts, xs, us, hn, ht, hl, r, p => by
    unfold enums at ht
    unfold asTs at ht
    cases e : asTs (enums (k + 1) ds) with
    | none => rw [e] at ht; cases ht
    | some ts' =>
      rw [e] at ht; cases ht
      cases r with
      | cons r1 r2 =>
        cases p with
        | cons p1 p2 =>
          refine ⟨_, _, rfl, ⟨_, _, rfl, hn _ List.mem_cons_self, p1, ⟨_, _, rfl, rfl, ⟨_, _, rfl, r1, rfl⟩⟩⟩, repL_enums (fun t ht => hn t (List.mem_cons_of_mem _ ht)) e (by simpa using hl) r2 p2⟩
section
variable {CT : TTs} {E : XK} {X : Cx} {p pos p2 pos2 : Pos}
theorem de_listEn {a : Expr} {t : TED} (hc : X.calm = true) (hm : X.mg "list" = none) (hm2 : X.mg "enumerate" = none) (ha : DE CT E X a t) (hg : Gl X "list" := by rfl) (hg2 : Gl X "enumerate" := by rfl) (na : starEach [a] X.env = [(false, eval a X.env)] := by rfl) (na2 : starEach [a] X.env = (false, eval a X.env) :: starEach [] X.env := by rfl)
    (nb : starEach [.Call (.Name "enumerate" p) [a] [] pos] X.env = (false, eval (.Call (.Name "enumerate" p) [a] [] pos) X.env) :: starEach [] X.env := by rfl) : DE CT E X (.Call (.Name "list" p2) [.Call (.Name "enumerate" p) [a] [] pos] [] pos2) (dListEn t) :=
  .of (pe_listEn hc ha.pe hg hm hg2 hm2 na na2 nb) fun σ H as S ρ Xq Qd Q z q k => ⟨as, S, ρ, Xq, _, z, q, fun as1 S1 H1 d x o1 s1 r ⟨ds, ts, hd, ht, hl, q1⟩ => by
    obtain ⟨a, xs, rfl, h1, h2⟩ := seqL_ok s1 r hd
    refine ⟨a, xs, rfl, .of h1, fun H' p us k1 k2 k3 k4 k5 k6 => ?_⟩
    obtain ⟨st', on'⟩ := s1.grow k1
    refine k as1 S1 H' (.t (.lst ts)) (.ref p) (o1.trans on') st' ?_ q1
    exact ⟨p, us.map V.ref, rfl, fun l => s1.live_there l k2, k5, repL_enums (fun t ht l => s1.live_there l (k3 t ht)) ht hl (On.reps on' h2) k6⟩⟩
end
@[simp] theorem dListEn_e {t : TED} {X : XQ} {ρ : Env} {S : Store} {Q} : dListEn t X ρ S Q = t X ρ S fun d S1 => ∃ ds ts, seqL S1 d = some ds ∧ asTs (enums 0 ds) = some ts ∧ ts.length = ds.length ∧ Q (.t (.lst ts)) S1 := rfl
end DL
set_option Elab.async false
set_option linter.all false
set_option maxRecDepth 100000
/-! DL19: stores that grow; comprehensions over cells -/
namespace DL
open PySem PySem.Spec PyProof.Rows L2

mutual
theorem frz_app {n : Nat} {S R : Store} : ∀ (f : Nat) (d : D) (t : T), frz n S f d = some t → frz n (S ++ R) f d = some t
  | f, .t x, t, h => by unfold frz at h ⊢; exact h
  | 0, .m i, t, h => by unfold frz at h; cases h
  | f + 1, .m i, t, h => by
    unfold frz at h
    unfold frz
    cases hc : S[i]? with
    | none => rw [hc] at h; cases h
    | some c =>
      rw [hc] at h
      rw [List.getElem?_append_left (List.getElem?_eq_some_iff.mp hc).1, hc]
      cases c with
      | fz u => exact h
      | lst ds =>
        have h : (if n ≤ i then (frzL n S f ds).map T.lst else none) = some t := h
        show (if n ≤ i then (frzL n (S ++ R) f ds).map T.lst else none) = some t
        by_cases hi : n ≤ i
        · rw [if_pos hi] at h ⊢
          cases q : frzL n S f ds with
          | none => rw [q] at h; cases h
          | some ts => rw [q] at h; rw [frzL_app f ds ts q]; exact h
        · rw [if_neg hi] at h; cases h
      | dct ds =>
        have h : (if n ≤ i then (frzK n S f ds).map T.dct else none) = some t := h
        show (if n ≤ i then (frzK n (S ++ R) f ds).map T.dct else none) = some t
        by_cases hi : n ≤ i
        · rw [if_pos hi] at h ⊢
          cases q : frzK n S f ds with
          | none => rw [q] at h; cases h
          | some ts => rw [q] at h; rw [frzK_app f ds ts q]; exact h
        · rw [if_neg hi] at h; cases h
      | ins C ds =>
        have h : (if n ≤ i then (frzF n S f ds).map (T.ins C) else none) = some t := h
        show (if n ≤ i then (frzF n (S ++ R) f ds).map (T.ins C) else none) = some t
        by_cases hi : n ≤ i
        · rw [if_pos hi] at h ⊢
          cases q : frzF n S f ds with
          | none => rw [q] at h; cases h
          | some ts => rw [q] at h; rw [frzF_app f ds ts q]; exact h
        · rw [if_neg hi] at h; cases h
      | tup ds =>
        have h : (if n ≤ i then (frzL n S f ds).map T.tup else none) = some t := h
        show (if n ≤ i then (frzL n (S ++ R) f ds).map T.tup else none) = some t
        by_cases hi : n ≤ i
        · rw [if_pos hi] at h ⊢
          cases q : frzL n S f ds with
          | none => rw [q] at h; cases h
          | some ts => rw [q] at h; rw [frzL_app f ds ts q]; exact h
        · rw [if_neg hi] at h; cases h
      | strmI => cases h
      | strm b => cases h
theorem frzL_app {n : Nat} {S R : Store} : ∀ (f : Nat) (ds : List D) (ts : List T), frzL n S f ds = some ts → frzL n (S ++ R) f ds = some ts
  | f, [], ts, h => by unfold frzL at h ⊢; exact h
  | f, d :: ds, ts, h => by
    unfold frzL at h ⊢
    cases q1 : frz n S f d with
    | none => rw [q1] at h; cases h
    | some t =>
      cases q2 : frzL n S f ds with
      | none => rw [q1, q2] at h; cases h
      | some us => rw [q1, q2] at h; rw [frz_app f d t q1, frzL_app f ds us q2]; exact h
theorem frzK_app {n : Nat} {S R : Store} : ∀ (f : Nat) (ds : List (Key × D)) (ts : List (Key × T)), frzK n S f ds = some ts → frzK n (S ++ R) f ds = some ts
  | f, [], ts, h => by unfold frzK at h ⊢; exact h
  | f, (k, d) :: ds, ts, h => by
    unfold frzK at h ⊢
    cases q1 : frz n S f d with
    | none => rw [q1] at h; cases h
    | some t =>
      cases q2 : frzK n S f ds with
      | none => rw [q1, q2] at h; cases h
      | some us => rw [q1, q2] at h; rw [frz_app f d t q1, frzK_app f ds us q2]; exact h
theorem frzF_app {n : Nat} {S R : Store} : ∀ (f : Nat) (ds : List (Str × D)) (ts : List (Str × T)), frzF n S f ds = some ts → frzF n (S ++ R) f ds = some ts
  | f, [], ts, h => by unfold frzF at h ⊢; exact h
  | f, (k, d) :: ds, ts, h => by
    unfold frzF at h ⊢
    cases q1 : frz n S f d with
    | none => rw [q1] at h; cases h
    | some t =>
      cases q2 : frzF n S f ds with
      | none => rw [q1, q2] at h; cases h
      | some us => rw [q1, q2] at h; rw [frz_app f d t q1, frzF_app f ds us q2]; exact h
end
theorem tree_app {S R : Store} {d : D} {t : T} (h : d.tree S = some t) : d.tree (S ++ R) = some t := by
  unfold D.tree at h ⊢
  exact frz_le (frz_app _ d t h) (by simp)
/-- cell i holds trees alone -/
def FlatC : Cell → Prop
  | .lst ds => ∃ ts, asTs ds = some ts
  | .tup ds => ∃ ts, asTs ds = some ts
  | .dct _ => False
  | .ins _ fs => ∀ p ∈ fs, ∃ t, p.2 = .t t
  | _ => True
theorem frzL_t {n : Nat} {S : Store} {f : Nat} {ds : List D} {ts : List T} (h : asTs ds = some ts) : frzL n S f ds = some ts := by
  rw [asTs_iff] at h
  subst h
  exact frzL_map ts
theorem tree_lst {S : Store} {i : Nat} {ds : List D} {ts : List T} (h : S[i]? = some (.lst ds)) (e : asTs ds = some ts) : D.tree S (.m i) = some (.lst ts) := by
  unfold D.tree frz
  rw [h]
  show (if 0 ≤ i then (frzL 0 S S.length ds).map T.lst else none) = _
  rw [if_pos (Nat.zero_le _), frzL_t e]
  rfl
theorem AllFz.app {S : Store} {c : Cell} (h : AllFz S) (hc : c.isS = true ∨ ∃ t, frz 0 (S ++ [c]) (S.length + 2) (.m S.length) = some t) : AllFz (S ++ [c]) := fun i c' e => by
  rcases get_app e with e | ⟨rfl, rfl⟩
  · rcases h i c' e with h | ⟨t, h⟩
    · exact .inl h
    · exact .inr ⟨t, frz_le (frz_app _ _ _ h) (by simp)⟩
  · rcases hc with h | ⟨t, h⟩
    · exact .inl h
    · exact .inr ⟨t, by rw [List.length_append]; exact h⟩
theorem AllFz.lst {S : Store} {ts : List T} (h : AllFz S) : AllFz (S ++ [.lst (ts.map .t)]) := h.app (.inr ⟨.lst ts, by
  unfold frz
  rw [get_last rfl]
  show (if 0 ≤ S.length then (frzL 0 _ _ _).map T.lst else none) = _
  rw [if_pos (Nat.zero_le _), frzL_map]; rfl⟩)
theorem frzF_t {n : Nat} {S : Store} {f : Nat} : ∀ {fs : List (Str × T)}, frzF n S f (fs.map fun p => (p.1, .t p.2)) = some fs
  | [] => by unfold frzF; rfl
  | (k, t) :: fs => by
    show frzF n S f ((k, .t t) :: fs.map fun p => (p.1, .t p.2)) = _
    unfold frzF
    rw [frzF_t (fs := fs)]
    unfold frz
    rfl
theorem AllFz.ins {S : Store} {C : Addr} {fs : List (Str × T)} (h : AllFz S) : AllFz (S ++ [.ins C (fs.map fun p => (p.1, .t p.2))]) := h.app (.inr ⟨.ins C fs, by
  unfold frz
  rw [get_last rfl]
  show (if 0 ≤ S.length then (frzF 0 _ _ _).map (T.ins C) else none) = _
  rw [if_pos (Nat.zero_le _), frzF_t]; rfl⟩)
theorem frz_lst {n i : Nat} {S : Store} {f : Nat} {ts : List T} (h : S[i]? = some (.lst (ts.map .t))) (hi : n ≤ i) : frz n S (f + 1) (.m i) = some (.lst ts) := by
  unfold frz
  rw [h]
  show (if n ≤ i then (frzL n S f _).map T.lst else none) = _
  rw [if_pos hi, frzL_map]; rfl
theorem frz_ins {n i : Nat} {S : Store} {f : Nat} {C : Addr} {fs : List (Str × T)} (h : S[i]? = some (.ins C (fs.map fun p => (p.1, .t p.2)))) (hi : n ≤ i) : frz n S (f + 1) (.m i) = some (.ins C fs) := by
  unfold frz
  rw [h]
  show (if n ≤ i then (frzF n S f _).map (T.ins C) else none) = _
  rw [if_pos hi, frzF_t]; rfl
theorem seqA_app {S R : Store} {d : D} {ds : List D} (h : seqA S d = some ds) : seqA (S ++ R) d = some ds := by
  cases d with
  | t x => cases x <;> first | exact h | cases h
  | m i =>
    unfold seqA seqL seqT at h ⊢
    cases e : S[i]? with
    | none => simp [e] at h
    | some c =>
      have e2 : (S ++ R)[i]? = some c := by rw [List.getElem?_append_left (List.getElem?_eq_some_iff.mp e).1, e]
      simp only [e] at h
      simp only [e2]
      exact h
theorem seqL_app {S R : Store} {d : D} {ds : List D} (h : seqL S d = some ds) : seqL (S ++ R) d = some ds := by
  cases d with
  | t x => cases x <;> first | exact h | cases h
  | m i =>
    unfold seqL at h ⊢
    cases e : S[i]? with
    | none => simp [e] at h
    | some c =>
      have e2 : (S ++ R)[i]? = some c := by rw [List.getElem?_append_left (List.getElem?_eq_some_iff.mp e).1, e]
      simp only [e] at h
      simp only [e2]
      exact h
theorem seqT_app {S R : Store} {d : D} {ds : List D} (h : seqT S d = some ds) : seqT (S ++ R) d = some ds := by
  cases d with
  | t x => cases x <;> first | exact h | cases h
  | m i =>
    unfold seqT at h ⊢
    cases e : S[i]? with
    | none => simp [e] at h
    | some c =>
      have e2 : (S ++ R)[i]? = some c := by rw [List.getElem?_append_left (List.getElem?_eq_some_iff.mp e).1, e]
      simp only [e] at h
      simp only [e2]
      exact h
/-- what is walked stays while the store grows -/
structure ItG (S : Store) (it : ItD) (es : List D) : Prop where
  items : it.items = es
  g : ∀ R, it.g (S ++ R)
theorem itG_x {S : Store} {d : D} {es : List D} (h : seqA S d = some es) {R : ItD → Store → Prop} (q : ∀ it, ItG S it es → R it S) : seqI d S R := by
  unfold seqA at h
  cases e : seqL S d with
  | some es' => rw [e] at h; cases h; exact ⟨es, .inl ⟨e, q _ ⟨rfl, fun R => seqL_app e⟩⟩⟩
  | none => rw [e] at h; exact ⟨es, .inr ⟨h, q _ ⟨rfl, fun R => seqT_app h⟩⟩⟩
section
variable {X : XQ} {ρ : Env} {S : Store} {Q : D → Store → Prop}
theorem lc_mapD {g : TGD} {te : TED} {vs : List Nat} {it : ItD} {es : List D} (us : List T) (hi : ItG S it es) (hc : ClosedS S.length S) (hl : us.length = es.length) (hz : us.length ≤ sizeLine)
    (h : ∀ (i : Nat) d u, es[i]? = some d → us[i]? = some u → ∀ (c : Cell) (Ky : D → Store → Prop), Ky (.t u) (S ++ [c]) → g d noX (wipeD ρ vs) (S ++ [c]) fun ρ2 S3 => te noX ρ2 S3 Ky)
    (q : Q (.t (.lst us)) S) : lcTr g dYes te vs ρ it S Q := by
  refine ⟨fun i acc S' => S' = S ∧ i ≤ us.length ∧ acc = us.take i, ⟨rfl, Nat.zero_le _, by simp⟩, fun i acc S' ⟨e, _, _⟩ => by subst e; exact ⟨rfl, hc, hi.g _⟩, ?_, ?_⟩
  · rintro i d acc S' hd ⟨rfl, hle, rfl⟩
    rw [hi.items] at hd
    have hlt : i < us.length := by have := (List.getElem?_eq_some_iff.mp hd).1; omega
    have hu : us[i]? = some us[i] := List.getElem?_eq_getElem hlt
    have := h i d _ hd hu (.lst ((us.take i).map .t)) (fun y S4 => ∃ t S'', y = .t t ∧ S4 = S'' ++ [.lst ((us.take i).map .t)] ∧ (us.take i).length < sizeLine ∧ S'' = S' ∧ i + 1 ≤ us.length ∧ us.take i ++ [t] = us.take (i + 1)) ⟨us[i], S', rfl, rfl, by simp; omega, rfl, hlt, by rw [List.take_succ, hu]; rfl⟩
    simpa using this
  · rintro acc S' ⟨rfl, _, rfl⟩
    have : it.items.length = us.length := by rw [hi.items, hl]
    rw [this]
    simpa using q
end
theorem ClosedS.app {S : Store} {c : Cell} (h : ClosedS S.length S) (hc : refC (S.length + 1) c) : ClosedS (S ++ [c]).length (S ++ [c]) := fun c' hm => by
  rw [List.length_append]
  rcases List.mem_append.mp hm with hm | hm
  · exact refC_mono (Nat.le_succ _) (h c' hm)
  · have : c' = c := by simpa using hm
    subst this
    exact hc
theorem refC_ins {n : Nat} {C : Addr} {fs : List (Str × T)} : refC n (.ins C (fs.map fun p => (p.1, .t p.2))) := fun p hp => by
  obtain ⟨q, _, rfl⟩ := List.mem_map.mp hp
  exact True.intro
theorem refC_lst {n : Nat} {ts : List T} : refC n (.lst (ts.map .t)) := fun d hd => by
  obtain ⟨q, _, rfl⟩ := List.mem_map.mp hd
  exact True.intro
end DL
set_option Elab.async false
set_option linter.all false
set_option maxRecDepth 100000
/-! DL20: a store that begins with the stream -/
namespace DL
open PySem PySem.Spec PyProof.Rows L2

/-- the stream with b draws left, then R -/
def st (b : Nat) (R : Store) : Store := .strmI :: .strm b :: R
section
variable {b b' : Nat} {R : Store} {Q : D → Store → Prop}
@[simp] theorem st_len : (st b R).length = R.length + 2 := rfl
@[simp] theorem st_app {R' : Store} : st b R ++ R' = st b (R ++ R') := rfl
@[simp] theorem st_0 : (st b R)[0]? = some .strmI := rfl
@[simp] theorem st_1 : (st b R)[1]? = some (.strm b) := rfl
@[simp] theorem st_get {i : Nat} : (st b R)[i + 2]? = R[i]? := rfl
@[simp] theorem st_set1 : (st b R).set 1 (.strm b') = st b' R := rfl
@[simp] theorem st_set {i : Nat} {c : Cell} : (st b R).set (i + 2) c = st b (R.set i c) := rfl
@[simp] theorem st_take {i : Nat} : (st b R).take (i + 2) = st b (R.take i) := rfl
theorem st_closed {n : Nat} (h : ClosedS n (st b R)) : ClosedS n (st b' R) := fun c hc => by
  have hm : c = .strmI ∨ c = .strm b' ∨ c ∈ R := by simpa [st] using hc
  rcases hm with rfl | rfl | hm
  · exact True.intro
  · have := h (.strm b) (by simp [st]); exact this
  · exact h c (by simp [st, hm])
/-- what is in a closed store's rest -/
def ClosedR (n : Nat) (R : Store) : Prop := ∀ c ∈ R, refC n c
theorem closed_st {n : Nat} : ClosedS n (st b R) ↔ 0 < n ∧ ClosedR n R := by
  constructor
  · exact fun h => ⟨h (.strm b) (by simp [st]), fun c hc => h c (by simp [st, hc])⟩
  · rintro ⟨h0, h⟩ c hc
    have hm : c = .strmI ∨ c = .strm b ∨ c ∈ R := by simpa [st] using hc
    rcases hm with rfl | rfl | hm
    · exact True.intro
    · exact h0
    · exact h c hm
theorem allFz_st (h : AllFz (st b R)) : AllFz (st b' R) := fun i c hc => by
  have key : ∀ (f : Nat) (i : Nat) (t : T), frz 0 (st b R) f (.m i) = some t → frz 0 (st b' R) f (.m i) = some t := by
    have aux : ∀ (f : Nat), (∀ d t, frz 0 (st b R) f d = some t → frz 0 (st b' R) f d = some t) ∧ (∀ ds ts, frzL 0 (st b R) f ds = some ts → frzL 0 (st b' R) f ds = some ts) ∧
        (∀ ds ts, frzK 0 (st b R) f ds = some ts → frzK 0 (st b' R) f ds = some ts) ∧ (∀ ds ts, frzF 0 (st b R) f ds = some ts → frzF 0 (st b' R) f ds = some ts) := by
      intro f
      induction f with
      | zero =>
        have h0 : ∀ d t, frz 0 (st b R) 0 d = some t → frz 0 (st b' R) 0 d = some t := fun d t h => by
          cases d with
          | t x => unfold frz at h ⊢; exact h
          | m i => unfold frz at h; cases h
        refine ⟨h0, ?_, ?_, ?_⟩
        · intro ds
          induction ds with
          | nil => intro ts h; unfold frzL at h ⊢; exact h
          | cons d ds ih =>
            intro ts h
            unfold frzL at h ⊢
            cases q1 : frz 0 (st b R) 0 d with
            | none => rw [q1] at h; cases h
            | some t => cases q2 : frzL 0 (st b R) 0 ds with
              | none => rw [q1, q2] at h; cases h
              | some us => rw [q1, q2] at h; rw [h0 d t q1, ih us q2]; exact h
        · intro ds
          induction ds with
          | nil => intro ts h; unfold frzK at h ⊢; exact h
          | cons d ds ih =>
            intro ts h
            obtain ⟨k, d⟩ := d
            unfold frzK at h ⊢
            cases q1 : frz 0 (st b R) 0 d with
            | none => rw [q1] at h; cases h
            | some t => cases q2 : frzK 0 (st b R) 0 ds with
              | none => rw [q1, q2] at h; cases h
              | some us => rw [q1, q2] at h; rw [h0 d t q1, ih us q2]; exact h
        · intro ds
          induction ds with
          | nil => intro ts h; unfold frzF at h ⊢; exact h
          | cons d ds ih =>
            intro ts h
            obtain ⟨k, d⟩ := d
            unfold frzF at h ⊢
            cases q1 : frz 0 (st b R) 0 d with
            | none => rw [q1] at h; cases h
            | some t => cases q2 : frzF 0 (st b R) 0 ds with
              | none => rw [q1, q2] at h; cases h
              | some us => rw [q1, q2] at h; rw [h0 d t q1, ih us q2]; exact h
      | succ f ih =>
        obtain ⟨_, hL, hK, hF⟩ := ih
        have h1 : ∀ d t, frz 0 (st b R) (f + 1) d = some t → frz 0 (st b' R) (f + 1) d = some t := fun d t h => by
          cases d with
          | t x => unfold frz at h ⊢; exact h
          | m i =>
            unfold frz at h ⊢
            match i, h with
            | 0, h => exact h
            | 1, h => cases h
            | i + 2, h =>
              rw [st_get] at h ⊢
              cases hc : R[i]? with
              | none => rw [hc] at h; cases h
              | some c =>
                rw [hc] at h
                cases c with
                | fz u => exact h
                | lst ds =>
                  have h : (if 0 ≤ i + 2 then (frzL 0 (st b R) f ds).map T.lst else none) = some t := h
                  show (if 0 ≤ i + 2 then (frzL 0 (st b' R) f ds).map T.lst else none) = some t
                  rw [if_pos (Nat.zero_le _)] at h ⊢
                  cases q : frzL 0 (st b R) f ds with
                  | none => rw [q] at h; cases h
                  | some ts => rw [q] at h; rw [hL ds ts q]; exact h
                | dct ds =>
                  have h : (if 0 ≤ i + 2 then (frzK 0 (st b R) f ds).map T.dct else none) = some t := h
                  show (if 0 ≤ i + 2 then (frzK 0 (st b' R) f ds).map T.dct else none) = some t
                  rw [if_pos (Nat.zero_le _)] at h ⊢
                  cases q : frzK 0 (st b R) f ds with
                  | none => rw [q] at h; cases h
                  | some ts => rw [q] at h; rw [hK ds ts q]; exact h
                | ins C ds =>
                  have h : (if 0 ≤ i + 2 then (frzF 0 (st b R) f ds).map (T.ins C) else none) = some t := h
                  show (if 0 ≤ i + 2 then (frzF 0 (st b' R) f ds).map (T.ins C) else none) = some t
                  rw [if_pos (Nat.zero_le _)] at h ⊢
                  cases q : frzF 0 (st b R) f ds with
                  | none => rw [q] at h; cases h
                  | some ts => rw [q] at h; rw [hF ds ts q]; exact h
                | tup ds =>
                  have h : (if 0 ≤ i + 2 then (frzL 0 (st b R) f ds).map T.tup else none) = some t := h
                  show (if 0 ≤ i + 2 then (frzL 0 (st b' R) f ds).map T.tup else none) = some t
                  rw [if_pos (Nat.zero_le _)] at h ⊢
                  cases q : frzL 0 (st b R) f ds with
                  | none => rw [q] at h; cases h
                  | some ts => rw [q] at h; rw [hL ds ts q]; exact h
                | strmI => cases h
                | strm b => cases h
        refine ⟨h1, ?_, ?_, ?_⟩
        · intro ds
          induction ds with
          | nil => intro ts h; unfold frzL at h ⊢; exact h
          | cons d ds ih =>
            intro ts h
            unfold frzL at h ⊢
            cases q1 : frz 0 (st b R) (f + 1) d with
            | none => rw [q1] at h; cases h
            | some t => cases q2 : frzL 0 (st b R) (f + 1) ds with
              | none => rw [q1, q2] at h; cases h
              | some us => rw [q1, q2] at h; rw [h1 d t q1, ih us q2]; exact h
        · intro ds
          induction ds with
          | nil => intro ts h; unfold frzK at h ⊢; exact h
          | cons d ds ih =>
            intro ts h
            obtain ⟨k, d⟩ := d
            unfold frzK at h ⊢
            cases q1 : frz 0 (st b R) (f + 1) d with
            | none => rw [q1] at h; cases h
            | some t => cases q2 : frzK 0 (st b R) (f + 1) ds with
              | none => rw [q1, q2] at h; cases h
              | some us => rw [q1, q2] at h; rw [h1 d t q1, ih us q2]; exact h
        · intro ds
          induction ds with
          | nil => intro ts h; unfold frzF at h ⊢; exact h
          | cons d ds ih =>
            intro ts h
            obtain ⟨k, d⟩ := d
            unfold frzF at h ⊢
            cases q1 : frz 0 (st b R) (f + 1) d with
            | none => rw [q1] at h; cases h
            | some t => cases q2 : frzF 0 (st b R) (f + 1) ds with
              | none => rw [q1, q2] at h; cases h
              | some us => rw [q1, q2] at h; rw [h1 d t q1, ih us q2]; exact h
    exact fun f i t h => (aux f).1 (.m i) t h
  match i, hc with
  | 0, hc => cases hc; exact .inl rfl
  | 1, hc => cases hc; exact .inl rfl
  | i + 2, hc =>
    rcases h (i + 2) c hc with h | ⟨t, h⟩
    · exact .inl h
    · exact .inr ⟨t, key _ _ t h⟩
theorem draw_st {many : Int} {X : Ex → Prop} (h1 : 1 ≤ many) (h2 : many < 2 ^ 62) (hb : 1 ≤ b) (q : ∀ (k : Int) b', 0 ≤ k → k < many → b ≤ b' + 1 → Q (.int k) (st b' R)) : ftDraw [.m 1, .t (.v (.int many))] (st b R) Q X := by
  cases b with
  | zero => omega
  | succ n => exact ⟨many, n, rfl, h1, h2, rfl, rfl, fun k h3 h4 => q k n h3 h4 (Nat.le_refl _)⟩
theorem seqA_st {d : D} {ds : List D} (h : seqA (st b R) d = some ds) : seqA (st b' R) d = some ds := by
  cases d with
  | t x => cases x <;> first | exact h | cases h
  | m i =>
    match i, h with
    | 0, h => cases h
    | 1, h => cases h
    | i + 2, h => exact h
theorem seqL_st {d : D} {ds : List D} (h : seqL (st b R) d = some ds) : seqL (st b' R) d = some ds := by
  cases d with
  | t x => cases x <;> first | exact h | cases h
  | m i =>
    match i, h with
    | 0, h => cases h
    | 1, h => cases h
    | i + 2, h => exact h
end
theorem cLen_A {S : Store} {d : D} {ds : List D} {Q : D → Store → Prop} (h : seqA S d = some ds) : cLen [d] S Q = Q (.int ds.length) S := by
  apply propext
  constructor
  · rintro ⟨d', h1, ⟨xs, h2, q⟩ | ⟨x, h2, _⟩⟩
    · cases h1
      rw [h] at h2
      cases h2
      exact q
    · cases h1; subst h2; cases h
  · exact fun q => ⟨_, rfl, .inl ⟨_, h, q⟩⟩
end DL
set_option Elab.async false
set_option linter.all false
set_option maxRecDepth 100000
/-! DL21: comprehensions that draw; defs that call themselves -/
namespace DL
open PySem PySem.Spec PyProof.Rows L2

theorem Paired.snoc' {α β : Type} {F : α → β → Prop} {l₁ : List α} {l₂ : List β} (h : Paired F l₁ l₂) {a : α} {b : β} (r : F a b) : Paired F (l₁ ++ [a]) (l₂ ++ [b]) := Paired.snoc h r
section
variable {X : XQ} {ρ : Env} {Q : D → Store → Prop}
theorem lc_st {g : TGD} {te : TED} {vs : List Nat} {it : ItD} {ts : List T} {b : Nat} {R : Store} (rel : T → T → Prop) (cost : T → Nat) (hi : ItT it ts) (hc : ClosedS (st b R).length (st b R)) (hl : ts.length ≤ sizeLine) (hb : (ts.map cost).sum ≤ b)
    (h : ∀ x ∈ ts, ∀ (b1 : Nat) (c : Cell) (Ky : D → Store → Prop), cost x ≤ b1 → (∀ u b2, rel x u → b1 ≤ b2 + cost x → Ky (.t u) (st b2 (R ++ [c]))) → g (.t x) noX (wipeD ρ vs) (st b1 (R ++ [c])) fun ρ2 S3 => te noX ρ2 S3 Ky)
    (q : ∀ us b', Paired rel ts us → b ≤ b' + (ts.map cost).sum → Q (.t (.lst us)) (st b' R)) : lcTr g dYes te vs ρ it (st b R) Q := by
  refine ⟨fun i acc S' => ∃ b', S' = st b' R ∧ b ≤ b' + ((ts.take i).map cost).sum ∧ i ≤ ts.length ∧ Paired rel (ts.take i) acc, ⟨b, rfl, by simp, Nat.zero_le _, .nil⟩, fun i acc S' ⟨b', e, _, _⟩ => by subst e; exact ⟨rfl, st_closed hc, hi.g _⟩, ?_, ?_⟩
  · rintro i d acc S' hd ⟨b', rfl, hb', hle, hp⟩
    rw [hi.items, List.getElem?_map] at hd
    cases hx : ts[i]? with
    | none => rw [hx] at hd; cases hd
    | some x =>
      rw [hx] at hd
      have hd : D.t x = d := Option.some.inj hd
      subst hd
      obtain ⟨hlt, hx'⟩ := List.getElem?_eq_some_iff.mp hx
      have tk : ts.take (i + 1) = ts.take i ++ [x] := by rw [List.take_succ, hx]; rfl
      have hsum : ((ts.take i).map cost).sum + cost x + ((ts.drop (i + 1)).map cost).sum = (ts.map cost).sum := by
        have : ts = ts.take i ++ x :: ts.drop (i + 1) := by
          rw [← hx', List.getElem_cons_drop, List.take_append_drop]
        conv => rhs; rw [this]
        simp; omega
      have hal : acc.length = i := by rw [← Paired.length hp]; simp; omega
      refine h x (hx' ▸ List.getElem_mem _) b' _ _ (by omega) fun u b2 hr hb2 => ?_
      refine ⟨u, st b2 R, rfl, rfl, by omega, b2, rfl, ?_, hlt, ?_⟩
      · rw [tk, List.map_append, List.sum_append]
        have : ([x].map cost).sum = cost x := by simp
        omega
      · rw [tk]; exact Paired.snoc hp hr
  · rintro acc S' ⟨b', rfl, hb', _, hp⟩
    rw [hi.items] at hb' hp
    simp only [List.length_map, List.take_length] at hb' hp
    exact q acc b' hp hb'
end
theorem fn_false {CT P w K mg base k f fd ps n} : FnOk P w K mg base (L2.CX P w) k f fd ps (spD CT n (fun _ _ _ _ => False)) :=
  ⟨fun _ _ _ _ ⟨_, _, _, _, _, _, _, _, h, _⟩ => h.elim, fun _ _ _ _ _ _ _ _ _ _ _ _ _ ⟨_, _, _, _, _, _, _, _, h, _⟩ => h.elim⟩
def prevF (ft : Nat → FT) : Nat → FT
  | 0 => fun _ _ _ _ => False
  | n + 1 => ft n
theorem rec_ok {CT : TTs} {P : Program} {w : World} {K : PySem.W.Frag} {mg : Str → Option Value} {base : Heap} {x : Str} {ps : List Str} {f : Addr} {fd : FuncData} {lev : Nat} {ft : Nat → FT} (hb : Binds K fd ps []) (hm : mg x = some (.ref f)) (hk : PySem.W.keepIn K (.ref f) = true)
    (h : ∀ n, FnG CT P w K mg base (lev + n) x ps (prevF ft n) → FnOk P w K mg base (L2.CX P w) (lev + n + 1) f fd ps (spD CT ps.length (ft n))) : ∀ n, FnOk P w K mg base (L2.CX P w) (lev + n + 1) f fd ps (spD CT ps.length (ft n))
  | 0 => h 0 ⟨f, fd, fn_false, hb, hm, hk⟩
  | n + 1 => h (n + 1) ⟨f, fd, rec_ok hb hm hk h n, hb, hm, hk⟩
end DL
set_option Elab.async false
set_option linter.all false
set_option maxRecDepth 100000
/-! DL22: trees measured; zip of trees -/
namespace DL
open PySem PySem.Spec PyProof.Rows L2

mutual
/-- tuples as lists -/
def canon : T → T
  | .lst ts => .lst (canons ts)
  | .tup ts => .lst (canons ts)
  | x => x
def canons : List T → List T
  | [] => []
  | t :: ts => canon t :: canons ts
/-- how many things -/
def seqs : T → Nat
  | .lst ts => seqss ts + 1
  | .tup ts => seqss ts + 1
  | _ => 1
def seqss : List T → Nat
  | [] => 0
  | t :: ts => seqs t + seqss ts
end
theorem canons_map (ts : List T) : canons ts = ts.map canon := by induction ts with
  | nil => simp [canons]
  | cons t ts ih => simp [canons, ih]
theorem seqss_map (ts : List T) : seqss ts = (ts.map seqs).sum := by induction ts with
  | nil => simp [seqss]
  | cons t ts ih => simp [seqss, ih]
theorem seqs_pos (x : T) : 1 ≤ seqs x := by cases x <;> simp [seqs]
theorem len_seqs : ∀ ts : List T, ts.length ≤ (ts.map seqs).sum
  | [] => by simp
  | t :: ts => by have := seqs_pos t; have := len_seqs ts; simp; omega
theorem seqs_mem {t : T} : ∀ {ts : List T}, t ∈ ts → seqs t ≤ (ts.map seqs).sum
  | u :: ts, h => by
    rcases List.mem_cons.mp h with rfl | h
    · simp
    · have := seqs_mem h; simp; omega
theorem canon_scalar {x : T} (h : isSeq x = false) : canon x = x := by cases x <;> simp_all [canon, isSeq]
theorem paired_canon : ∀ {ts us : List T}, Paired (fun x y => canon y = canon x) ts us → us.map canon = ts.map canon
  | _, _, .nil => rfl
  | _, _, .cons r h => by simp [r, paired_canon h]
theorem dat_em {n : Nat} {x : T} {ts : List T} (h : dat n x = true) (hs : seqOf x = some ts) : ∃ m, n = m + 1 ∧ ∀ t ∈ ts, dat m t = true := by
  cases n with
  | zero => cases x <;> first | (cases hs; done) | simp [dat] at h
  | succ m =>
    refine ⟨m, rfl, ?_⟩
    cases x with
    | lst us => cases hs; exact dat_lst.mp h
    | tup us => cases hs; exact dat_tup.mp h
    | _ => cases hs
theorem seqs_of {x : T} {ts : List T} (hs : seqOf x = some ts) : seqs x = (ts.map seqs).sum + 1 ∧ canon x = .lst (ts.map canon) := by
  cases x with
  | lst us => cases hs; simp [seqs, seqss_map, canon, canons_map]
  | tup us => cases hs; simp [seqs, seqss_map, canon, canons_map]
  | _ => cases hs
theorem paired_all {p : T → Prop} {ts us : List T} {F : T → T → Prop} (h : Paired F ts us) (hF : ∀ x y, F x y → p y) : ∀ u ∈ us, p u := by
  induction h with
  | nil => intro u hu; cases hu
  | cons r _ ih =>
    intro u hu
    rcases List.mem_cons.mp hu with rfl | hu
    · exact hF _ _ r
    · exact ih u hu
theorem zipT_x {S : Store} {x y : T} {xs ys : List T} (hs : (x = .lst xs ∧ y = .lst ys) ∨ (x = .tup xs ∧ y = .tup ys)) {R : ItD → Store → Prop} (q : ∀ it, ItT it ((xs.zip ys).map fun p => .tup [p.1, p.2]) → R it S) : zipI [.t x, .t y] S R := by
  have e : zips (xs.map .t) (ys.map .t) = ((xs.zip ys).map fun p => T.tup [p.1, p.2]).map D.t := by
    clear hs q
    induction xs generalizing ys with
    | nil => cases ys <;> simp [zips]
    | cons a xs ih =>
      cases ys with
      | nil => simp [zips]
      | cons b ys => simp only [List.map_cons, List.zip_cons_cons]; rw [zips, ih]
  rcases hs with ⟨rfl, rfl⟩ | ⟨rfl, rfl⟩
  · exact ⟨_, _, xs.map .t, ys.map .t, rfl, allT_map _, allT_map _, .inl ⟨rfl, rfl, q _ ⟨e, fun _ => ⟨rfl, rfl⟩⟩⟩⟩
  · exact ⟨_, _, xs.map .t, ys.map .t, rfl, allT_map _, allT_map _, .inr ⟨rfl, rfl, q _ ⟨e, fun _ => ⟨rfl, rfl⟩⟩⟩⟩
theorem zip_self {α : Type} : ∀ {ts : List α} {a b : α}, (a, b) ∈ ts.zip ts → a = b ∧ a ∈ ts
  | t :: ts, a, b, h => by
    rcases List.mem_cons.mp (show (a, b) ∈ (t, t) :: ts.zip ts from h) with h | h
    · cases h; exact ⟨rfl, by simp⟩
    · obtain ⟨h1, h2⟩ := zip_self h
      exact ⟨h1, by simp [h2]⟩
theorem isi_seqd {Cs : List Addr} {x : T} {S : Store} {Q : D → Store → Prop} (h : ok1 Cs x) (q : Q (.bl (isSeq x || isDct x)) S) : cIsi Cs [.t x, .t (.tup [.v (.ty "list"), .v (.ty "tuple"), .v (.ty "dict")])] S Q := by
  obtain ⟨ty, e, hC⟩ := h
  have key : isaL Cs ty [.ty "list", .ty "tuple", .ty "dict"] = some (isSeq x || isDct x) := by
    cases x with
    | v y => cases y <;> cases e <;> rfl
    | ins C fs =>
      cases e
      have h1 := isa_own_ty (Cs := Cs) (n := "list") (hC C rfl) (by simp)
      have h2 := isa_own_ty (Cs := Cs) (n := "tuple") (hC C rfl) (by simp)
      have h3 := isa_own_ty (Cs := Cs) (n := "dict") (hC C rfl) (by simp)
      simp only [isaL, h1, h2, h3]
      rfl
    | _ => cases e; rfl
  exact ⟨.t x, ty, e, .inr ⟨[.ty "list", .ty "tuple", .ty "dict"], _, by simp, rfl, key, q⟩⟩
end DL
set_option Elab.async false
set_option linter.all false
set_option maxRecDepth 100000
/-! DL23: trees told, lists joined -/
namespace DL
open PySem PySem.Spec PyProof.Rows L2

theorem rTree_t {n : Nat} {S S0 : Store} {Q : D → Store → Prop} {t : T} (hs : S.take n = S0) (hc : ClosedS n S0) (q : Q (.t t) S0) : rTree n Q (.t t) S := ⟨t, by unfold frz; rfl, by rw [hs]; exact hc, by rw [hs]; exact q⟩
theorem oAdd_s {S : Store} {x y : D} {xs ys : List T} {Q : D → Store → Prop} (h1 : seqL S x = some (xs.map .t)) (h2 : seqL S y = some (ys.map .t)) (hl : xs.length + ys.length ≤ sizeLine) (q : Q (.t (.lst (xs ++ ys))) S) : oAdd x y S Q :=
  .inr ⟨_, _, xs ++ ys, h1, h2, by simpa using hl, by rw [← List.map_append, asTs_map], q⟩
theorem st_take_app {b : Nat} {R R' : Store} {n : Nat} (h : n = R.length + 2) : (st b (R ++ R')).take n = st b R := by
  subst h
  rw [st_take, List.take_left' rfl]
@[simp] theorem cutG_to0 {α : Type} {xs : List α} : cutG xs none (some 0) = xs.take 0 := cutG_to (k := 0)
@[simp] theorem cutG_fr0 {α : Type} {xs : List α} : cutG xs (some 0) none = xs.drop 0 := cutG_from (k := 0)
@[simp] theorem cutG_to1 {α : Type} {xs : List α} : cutG xs none (some 1) = xs.take 1 := cutG_to (k := 1)
@[simp] theorem cutG_fr1 {α : Type} {xs : List α} : cutG xs (some 1) none = xs.drop 1 := cutG_from (k := 1)
@[simp] theorem cutG_to2 {α : Type} {xs : List α} : cutG xs none (some 2) = xs.take 2 := cutG_to (k := 2)
@[simp] theorem cutG_fr2 {α : Type} {xs : List α} : cutG xs (some 2) none = xs.drop 2 := cutG_from (k := 2)
@[simp] theorem cutG_to3 {α : Type} {xs : List α} : cutG xs none (some 3) = xs.take 3 := cutG_to (k := 3)
@[simp] theorem cutG_fr3 {α : Type} {xs : List α} : cutG xs (some 3) none = xs.drop 3 := cutG_from (k := 3)
@[simp] theorem cutG_to4 {α : Type} {xs : List α} : cutG xs none (some 4) = xs.take 4 := cutG_to (k := 4)
@[simp] theorem cutG_fr4 {α : Type} {xs : List α} : cutG xs (some 4) none = xs.drop 4 := cutG_from (k := 4)
@[simp] theorem cutG_to5 {α : Type} {xs : List α} : cutG xs none (some 5) = xs.take 5 := cutG_to (k := 5)
@[simp] theorem cutG_fr5 {α : Type} {xs : List α} : cutG xs (some 5) none = xs.drop 5 := cutG_from (k := 5)
@[simp] theorem st_last {b : Nat} {R : Store} {c : Cell} : (st b (R ++ [c]))[R.length + 2]? = some c := by rw [st_get, List.getElem?_append_right (Nat.le_refl _)]; simp
@[simp] theorem st_setlast {b : Nat} {R : Store} {c c' : Cell} : (st b (R ++ [c])).set (R.length + 2) c' = st b (R ++ [c']) := by rw [st_set, List.set_append_right _ _ (Nat.le_refl _)]; simp
@[simp] theorem st_takelast {b : Nat} {R R' : Store} : (st b (R ++ R')).take (R.length + 2) = st b R := st_take_app rfl
@[simp] theorem tyLst_last {b : Nat} {R : Store} {ds : List D} : tyLst (.m (R.length + 2)) (st b (R ++ [.lst ds])) := tyLst_m st_last
theorem append_last {b : Nat} {R : Store} {ds : List D} {y : D} {Q : D → Store → Prop} (h : ds.length < sizeLine) (q : Q .non (st b (R ++ [.lst (ds ++ [y])]))) : mAppend (.m (R.length + 2)) [y] (st b (R ++ [.lst ds])) Q := append_of st_last h (by simpa using q)
end DL
set_option Elab.async false
set_option linter.all false
set_option maxRecDepth 100000
/-! DL24: comprehensions over cells of trees; ints of a permutation; index -/
namespace DL
open PySem PySem.Spec PyProof.Rows L2

section
variable {X : XQ} {ρ : Env} {S : Store} {Q : D → Store → Prop}
theorem lc_fmG {g : TGD} {tt : TTD} {te : TED} {vs : List Nat} {it : ItD} {ts : List T} (p : T → Bool) (e : T → T) (hi : ItG S it (ts.map .t)) (hc : ClosedS S.length S) (hl : ts.length ≤ sizeLine)
    (h : ∀ x ∈ ts, ∀ (S2 : Store) (Ky : D → Store → Prop) (Kn : Store → Prop), (p x = true → Ky (.t (e x)) S2) → (p x = false → Kn S2) → g (.t x) noX (wipeD ρ vs) S2 fun ρ2 S3 => tt noX ρ2 S3 fun b S4 => if b = true then te noX ρ2 S4 Ky else Kn S4)
    (q : Q (.t (.lst ((ts.filter p).map e))) S) : lcTr g tt te vs ρ it S Q := by
  refine ⟨fun i acc S' => S' = S ∧ i ≤ ts.length ∧ acc = ((ts.take i).filter p).map e, ⟨rfl, Nat.zero_le _, by simp⟩, fun i acc S' ⟨e, _, _⟩ => by subst e; exact ⟨rfl, hc, hi.g _⟩, ?_, ?_⟩
  · rintro i d acc S' hd ⟨rfl, hle, rfl⟩
    rw [hi.items, List.getElem?_map] at hd
    cases hx : ts[i]? with
    | none => rw [hx] at hd; cases hd
    | some x =>
      rw [hx] at hd
      have hd : D.t x = d := Option.some.inj hd
      subst hd
      obtain ⟨hlt, hx'⟩ := List.getElem?_eq_some_iff.mp hx
      have tk : ts.take (i + 1) = ts.take i ++ [x] := by rw [List.take_succ, hx]; rfl
      have tl : ((ts.take i).filter p).length ≤ i := Nat.le_trans (List.length_filter_le _ _) (by simp; omega)
      refine h x (hx' ▸ List.getElem_mem _) _ _ _ (fun hp => ⟨e x, S', rfl, rfl, by simp; omega, rfl, hlt, ?_⟩) (fun hp => ⟨S', rfl, rfl, hlt, ?_⟩)
      · rw [tk, List.filter_append]; simp [hp]
      · rw [tk, List.filter_append]; simp [hp]
  · rintro acc S' ⟨rfl, _, rfl⟩
    rw [hi.items]
    simpa using q
end
theorem zips_map {xs ys : List T} : zips (xs.map .t) (ys.map .t) = ((xs.zip ys).map fun p => T.tup [p.1, p.2]).map D.t := by
  induction xs generalizing ys with
  | nil => cases ys <;> simp [zips]
  | cons a xs ih =>
    cases ys with
    | nil => simp [zips]
    | cons b ys => simp only [List.map_cons, List.zip_cons_cons]; rw [zips, ih]
theorem zipG {S : Store} {x y : D} {xs ys : List T} (hx : seqL S x = some (xs.map .t)) (hy : seqL S y = some (ys.map .t)) {R : ItD → Store → Prop} (q : ∀ it, ItG S it (((xs.zip ys).map fun p => T.tup [p.1, p.2]).map .t) → R it S) : zipI [x, y] S R :=
  ⟨x, y, xs.map .t, ys.map .t, rfl, allT_map _, allT_map _, .inl ⟨hx, hy, q _ ⟨zips_map, fun _ => ⟨seqL_app hx, seqL_app hy⟩⟩⟩⟩
theorem extend_of {S : Store} {i : Nat} {xs ys : List D} {y : D} {Q : D → Store → Prop} (h : S[i]? = some (.lst xs)) (hy : seqL S y = some ys) (hl : xs.length + ys.length ≤ sizeLine) (q : Q .non (S.set i (.lst (xs ++ ys)))) : mExtend (.m i) [y] S Q := ⟨i, xs, y, ys, rfl, rfl, h, hy, hl, q⟩
theorem slD_m {S : Store} {i : Nat} {ts : List T} {lo hi : Option Int} {Q : D → Store → Prop} (h : S[i]? = some (.lst (ts.map .t))) (q : Q (.t (.lst (cutG ts lo hi))) S) : slD (.m i) lo hi S Q := ⟨_, cutG ts lo hi, by rw [cutG_map, asTs_map], .inl ⟨seqL_m h, q⟩⟩
theorem perm_ints {L : List Int} : ∀ {us : List T}, us.Perm (L.map .int) → ∃ M : List Int, us = M.map .int ∧ M.Perm L := by
  intro us h
  have hus : ∀ u ∈ us, ∃ i : Int, u = .int i := fun u hu => by
    have := h.mem_iff.mp hu
    obtain ⟨i, _, rfl⟩ := List.mem_map.mp this
    exact ⟨i, rfl⟩
  have ex : ∀ (us : List T), (∀ u ∈ us, ∃ i : Int, u = .int i) → ∃ M : List Int, us = M.map .int := by
    intro us
    induction us with
    | nil => intro _; exact ⟨[], rfl⟩
    | cons u us ih =>
      intro h
      obtain ⟨i, rfl⟩ := h u (by simp)
      obtain ⟨M, rfl⟩ := ih fun v hv => h v (by simp [hv])
      exact ⟨i :: M, rfl⟩
  obtain ⟨M, rfl⟩ := ex us hus
  refine ⟨M, rfl, ?_⟩
  have inv : ∀ (L : List Int), (L.map T.int).map (fun t => match t with | .v (.int i) => i | _ => 0) = L := by
    intro L; induction L with
    | nil => rfl
    | cons a L ih => rw [List.map_cons, List.map_cons, ih]
  have := h.map (fun t => match t with | T.v (V.int i) => i | _ => (0 : Int))
  rwa [inv, inv] at this
def iLL (L : List Int) : T := .lst (L.map .int)
theorem index_ints {S : Store} {L : List Int} {z : Int} {Q : D → Store → Prop} (h : z ∈ L) (q : Q (.int (L.idxOf z : Nat)) S) : mIndexT (.t (.lst (L.map .int))) [.t (.v (.int z))] S Q := by
  have hlt : L.idxOf z < L.length := List.idxOf_lt_length_iff.mpr h
  refine ⟨L.map .int, .int z, .int z, .int z, L.idxOf z, rfl, tree_t, tree_t, ?_, by simp, ?_, by simp, ?_, q⟩
  · rw [dat_lst]; intro t ht; simp at ht; obtain ⟨i, _, rfl⟩ := ht; exact dat_int
  · rw [List.getElem?_map, List.getElem?_eq_getElem hlt]; simp
  · intro m u hm hu
    rw [List.getElem?_map] at hu
    cases hx : L[m]? with
    | none => rw [hx] at hu; cases hu
    | some y =>
      rw [hx] at hu
      have hu : T.int y = u := Option.some.inj hu
      subst hu
      have hne : y ≠ z := by
        intro e
        subst e
        have hm2 : m < L.length := by omega
        have : L[m] = y := by rw [List.getElem?_eq_getElem hm2] at hx; exact Option.some.inj hx
        have hf := List.not_of_lt_findIdx (p := (· == y)) (xs := L) (i := m) hm
        simp [this] at hf
      simp [hne]
theorem idx_inj {L : List Int} {x y : Int} (hx : x ∈ L) (hy : y ∈ L) (h : L.idxOf x = L.idxOf y) : x = y := by
  have h1 := List.getElem_idxOf (List.idxOf_lt_length_iff.mpr hx)
  have h2 := List.getElem_idxOf (List.idxOf_lt_length_iff.mpr hy)
  rw [← h1, ← h2]
  congr 1
/-- begins and ends apart: two neighbours differ -/
theorem adj_diff : ∀ (l : List Int) (u w : Int), u ≠ w → ∃ p ∈ (u :: (l ++ [w])).zip (l ++ [w]), p.1 ≠ p.2
  | [], u, w, h => ⟨(u, w), by simp, h⟩
  | a :: l, u, w, h => by
    by_cases hu : u = a
    · subst hu
      obtain ⟨p, hp, h2⟩ := adj_diff l u w h
      exact ⟨p, by simp at hp ⊢; exact .inr hp, h2⟩
    · exact ⟨(u, a), by simp, hu⟩
theorem ClosedR.app {R : Store} {c : Cell} (h : ClosedR (R.length + 2) R) (hc : refC (R.length + 3) c) : ClosedR ((R ++ [c]).length + 2) (R ++ [c]) := fun c' hm => by
  rw [List.length_append]
  rcases List.mem_append.mp hm with hm | hm
  · exact refC_mono (Nat.le_succ _) (h c' hm)
  · have : c' = c := by simpa using hm
    subst this
    exact hc
theorem ClosedR.set {R : Store} {n i : Nat} {c : Cell} (h : ClosedR n R) (hc : refC n c) : ClosedR n (R.set i c) := fun c' hm => by
  rcases List.mem_or_eq_of_mem_set hm with hm | rfl
  · exact h c' hm
  · exact hc
end DL
set_option Elab.async false
set_option linter.all false
set_option maxRecDepth 100000
/-! DL25: cells of cells: lists of lists that are copied, changed; a for over two things -/
namespace DL
open PySem PySem.Spec PyProof.Rows L2
theorem rTree_of {n : Nat} {S : Store} {Q : D → Store → Prop} {d : D} {t : T} {S0 : Store} (h : frz n S (S.length + 1) d = some t) (hs : S.take n = S0) (hc : ClosedS n S0) (q : Q (.t t) S0) : rTree n Q d S := ⟨t, h, by rw [hs]; exact hc, by rw [hs]; exact q⟩
@[simp] theorem rt_tree {n Q} : Mode.tree.rt n Q = rTree n Q := rfl
variable {X : XQ} {ρ : Env} {S : Store} {De : DEnds} {Q : D → Store → Prop}
/-! ### cells by number -/
theorem get_at {R : Store} {j : Nat} : (S ++ R)[S.length + j]? = R[j]? := by
  rw [List.getElem?_append_right (Nat.le_add_right _ _), Nat.add_sub_cancel_left]
theorem set_at {R : Store} {j : Nat} {c : Cell} : (S ++ R).set (S.length + j) c = S ++ R.set j c := by
  rw [List.set_append_right _ _ (Nat.le_add_right _ _), Nat.add_sub_cancel_left]
def refs (a k : Nat) : List D := (List.range k).map fun i => D.m (a + i)
theorem refs_succ {a k : Nat} : refs a (k + 1) = refs a k ++ [.m (a + k)] := by simp [refs, List.range_succ]
@[simp] theorem refs_len {a k : Nat} : (refs a k).length = k := by simp [refs]
theorem refs_get {a k i : Nat} (h : i < k) : (refs a k)[i]? = some (.m (a + i)) := by simp [refs, h]
def nestC (a : Nat) (rows : List (List T)) : Store := .lst (refs (a + 1) rows.length) :: rows.map fun r => .lst (r.map .t)
@[simp] theorem nestC_len {a : Nat} {rows : List (List T)} : (nestC a rows).length = rows.length + 1 := by simp [nestC]
/-- a list of lists of trees at a, the inner ones behind it -/
structure Nest (S : Store) (a : Nat) (rows : List (List T)) : Prop where
  top : S[a]? = some (.lst (refs (a + 1) rows.length))
  row : ∀ (i : Nat) r, rows[i]? = some r → S[a + 1 + i]? = some (.lst (r.map .t))
theorem nest_app {rows : List (List T)} : Nest (S ++ nestC S.length rows) S.length rows where
  top := by have := get_at (S := S) (R := nestC S.length rows) (j := 0); simpa [nestC] using this
  row := fun i r h => by
    rw [Nat.add_assoc, Nat.add_comm 1 i, get_at]
    show (rows.map fun r => Cell.lst (r.map .t))[i]? = _
    rw [List.getElem?_map, h]; rfl
theorem Nest.app {a : Nat} {rows : List (List T)} (h : Nest S a rows) (R : Store) : Nest (S ++ R) a rows where
  top := by rw [List.getElem?_append_left (List.getElem?_eq_some_iff.mp h.top).1]; exact h.top
  row := fun i r e => by have := h.row i r e; rw [List.getElem?_append_left (List.getElem?_eq_some_iff.mp this).1]; exact this
/-- [list(x) for x in rows], the copies are cells -/
theorem lc_nest {v : Nat} {it : ItD} {rows : List (List T)} (hi : ItT it (rows.map .tup)) (hv : v < ρ.length) (hz : rows.length < sizeLine) (q : Q (.m S.length) (S ++ nestC S.length rows)) : lcIn (gVar v) dYes (dCB cListM (dCons (dVar v) dNil)) [v] ρ it S Q := by
  refine ⟨fun i S' => S' = S ++ nestC S.length (rows.take i) ∧ i ≤ rows.length, ⟨by simp [nestC, refs], Nat.zero_le _⟩, fun i S' _ => hi.g S', ?_, ?_⟩
  · rintro i d S' hd ⟨rfl, hle⟩
    rw [hi.items, List.getElem?_map, List.getElem?_map] at hd
    cases hx : rows[i]? with
    | none => rw [hx] at hd; cases hd
    | some r =>
      rw [hx] at hd
      have hd : D.t (T.tup r) = d := Option.some.inj hd
      subst hd
      obtain ⟨hlt, hx'⟩ := List.getElem?_eq_some_iff.mp hx
      have tk : rows.take (i + 1) = rows.take i ++ [r] := by rw [List.take_succ, hx]; rfl
      have hl : (rows.take i).length = i := by simp; omega
      have hg : ((wipeD ρ [v]).set v (some (D.t (.tup r))))[v]? = some (some (D.t (.tup r))) := by
        rw [List.getElem?_set_self (by simp [wipeD, hv])]
      simp only [gVar_e, dYes, if_true]
      show dCB cListM (dCons (dVar v) dNil) noX _ _ _
      refine ⟨_, hg, ?_⟩
      simp only [dNil_e]
      rw [cListM_x rfl]
      have g0 : (S ++ nestC S.length (rows.take i) ++ [Cell.lst (r.map D.t)])[S.length]? = some (.lst (refs (S.length + 1) i)) := by
        rw [List.append_assoc]
        have := get_at (S := S) (R := nestC S.length (rows.take i) ++ [Cell.lst (r.map D.t)]) (j := 0)
        simpa [nestC, hl] using this
      refine ⟨_, g0, by simp; omega, ?_, hlt⟩
      rw [List.append_assoc]
      have := set_at (S := S) (R := nestC S.length (rows.take i) ++ [Cell.lst (r.map D.t)]) (j := 0) (c := .lst (refs (S.length + 1) i ++ [.m (S ++ nestC S.length (rows.take i)).length]))
      rw [Nat.add_zero] at this
      rw [this]
      congr 1
      have e : (S ++ nestC S.length (rows.take i)).length = S.length + 1 + i := by simp [hl]; omega
      rw [e, ← refs_succ, tk]
      simp [nestC, hl]
  · rintro S' ⟨rfl, _⟩
    rw [hi.items] at *
    simpa using q
/-- for over two things -/
theorem for_two {g : TGD} {tb : TSD} {it : ItD} {d0 d1 : D} {P1 P2 : Env → Store → Prop} (hi : it.items = [d0, d1]) (g0 : it.g S) (g1 : ∀ ρ S, P1 ρ S → it.g S) (g2 : ∀ ρ S, P2 ρ S → it.g S)
    (b0 : ∀ De' : DEnds, De'.nx = P1 → De'.ct = P1 → De'.ex = De.ex → g d0 De.ex ρ S fun ρ2 S2 => tb De' ρ2 S2)
    (b1 : ∀ De' : DEnds, De'.nx = P2 → De'.ct = P2 → De'.ex = De.ex → ∀ ρ S, P1 ρ S → g d1 De.ex ρ S fun ρ2 S2 => tb De' ρ2 S2)
    (pn : ∀ ρ S, P2 ρ S → De.nx ρ S) : forI g tb De ρ it S := by
  refine ⟨fun i ρ' S' => match i with
    | 0 => ρ' = ρ ∧ S' = S
    | 1 => P1 ρ' S'
    | _ => P2 ρ' S', ⟨rfl, rfl⟩, ?_, ?_, ?_⟩
  · rintro (_ | _ | i) ρ' S' h
    · obtain ⟨rfl, rfl⟩ := h; exact g0
    · exact g1 _ _ h
    · exact g2 _ _ h
  · rintro (_ | _ | i) d ρ' S' hd h
    · obtain ⟨rfl, rfl⟩ := h
      rw [hi] at hd
      cases hd
      exact b0 { De with nx := P1, ct := P1, bk := De.nx } rfl rfl rfl
    · rw [hi] at hd
      cases hd
      exact b1 { De with nx := P2, ct := P2, bk := De.nx } rfl rfl rfl _ _ h
    · rw [hi] at hd
      simp at hd
  · intro ρ' S' h
    rw [hi] at h
    exact pn _ _ h
/-! ### cells that refer to cells of lesser rank -/
def dsOf : Cell → List D
  | .lst ds => ds
  | .tup ds => ds
  | .ins _ fs => fs.map (·.2)
  | .dct kvs => kvs.map (·.2)
  | _ => []
def Cell.plain : Cell → Bool
  | .lst _ => true
  | .tup _ => true
  | .ins _ _ => true
  | .dct _ => true
  | _ => false
def refR (n m : Nat) (rk : Nat → Nat) (r : Nat) (d : D) : Prop := (∃ x, d = .t x) ∨ ∃ j, d = .m j ∧ n ≤ j ∧ j < m ∧ rk j < r
/-- S0, then cells that refer to such cells of lesser rank alone -/
structure KR (S0 : Store) (rk : Nat → Nat) (S : Store) : Prop where
  pre : S.take S0.length = S0
  len : S0.length ≤ S.length
  ok : ∀ i c, S0.length ≤ i → S[i]? = some c → c.plain = true ∧ ∀ d ∈ dsOf c, refR S0.length S.length rk (rk i) d
theorem refR.mono {n m m' : Nat} {rk : Nat → Nat} {r : Nat} {d : D} (h : refR n m rk r d) (hm : m ≤ m') : refR n m' rk r d := by
  rcases h with h | ⟨j, e, h1, h2, h3⟩
  · exact .inl h
  · exact .inr ⟨j, e, h1, by omega, h3⟩
theorem KR.nil {S0 : Store} {rk : Nat → Nat} : KR S0 rk S0 := ⟨by simp, Nat.le_refl _, fun i c h e => by have := (List.getElem?_eq_some_iff.mp e).1; omega⟩
theorem KR.app {S0 R : Store} {rk : Nat → Nat} (h : KR S0 rk S) (hR : ∀ j c, R[j]? = some c → c.plain = true ∧ ∀ d ∈ dsOf c, refR S0.length (S.length + R.length) rk (rk (S.length + j)) d) : KR S0 rk (S ++ R) where
  pre := by rw [List.take_append_of_le_length h.len]; exact h.pre
  len := by have := h.len; simp; omega
  ok := fun i c hi e => by
    rcases Nat.lt_or_ge i S.length with hl | hl
    · rw [List.getElem?_append_left hl] at e
      obtain ⟨h1, h2⟩ := h.ok i c hi e
      exact ⟨h1, fun d hd => (h2 d hd).mono (by simp)⟩
    · rw [List.getElem?_append_right hl] at e
      obtain ⟨h1, h2⟩ := hR _ c e
      rw [show S.length + (i - S.length) = i by omega] at h2
      exact ⟨h1, fun d hd => (h2 d hd).mono (by simp)⟩
theorem KR.set {S0 : Store} {rk : Nat → Nat} (h : KR S0 rk S) {i : Nat} {c : Cell} (hi : S0.length ≤ i) (hp : c.plain = true) (hc : ∀ d ∈ dsOf c, refR S0.length S.length rk (rk i) d) : KR S0 rk (S.set i c) where
  pre := by rw [List.take_set_of_le hi]; exact h.pre
  len := by simpa using h.len
  ok := fun j c' hj e => by
    rw [List.length_set]
    by_cases hji : i = j
    · subst hji
      by_cases hl : i < S.length
      · rw [List.getElem?_set_self hl] at e; cases e; exact ⟨hp, hc⟩
      · rw [List.getElem?_eq_none (by simp; omega)] at e; cases e
    · rw [List.getElem?_set_ne hji] at e; exact h.ok j c' hj e
theorem KR.closed {S0 : Store} {rk : Nat → Nat} (h : KR S0 rk S) (hc : ClosedS S0.length S0) : ClosedS S.length S := by
  intro c hm
  obtain ⟨i, hi⟩ := List.getElem?_of_mem hm
  rcases Nat.lt_or_ge i S0.length with hl | hl
  · have e : S0[i]? = some c := by rw [← h.pre, List.getElem?_take_of_lt hl]; exact hi
    exact refC_mono h.len (hc c (List.mem_of_getElem? e))
  · obtain ⟨hp, h2⟩ := h.ok i c hl hi
    have key : ∀ d ∈ dsOf c, refD S.length d := fun d hd => by
      rcases h2 d hd with ⟨x, rfl⟩ | ⟨j, rfl, _, hj, _⟩
      · exact True.intro
      · exact hj
    cases c with
    | lst ds => exact key
    | tup ds => exact key
    | ins C fs => exact fun p hpm => key p.2 (List.mem_map.mpr ⟨p, hpm, rfl⟩)
    | dct kvs => exact fun p hpm => key p.2 (List.mem_map.mpr ⟨p, hpm, rfl⟩)
    | _ => cases hp
theorem frzL_all {n : Nat} {f : Nat} : ∀ {ds : List D}, (∀ d ∈ ds, ∃ t, frz n S f d = some t) → ∃ ts, frzL n S f ds = some ts
  | [], _ => ⟨[], by unfold frzL; rfl⟩
  | d :: ds, h => by
    obtain ⟨t, ht⟩ := h d (by simp)
    obtain ⟨ts, hts⟩ := frzL_all (ds := ds) fun d' hd' => h d' (by simp [hd'])
    exact ⟨t :: ts, by unfold frzL; rw [ht, hts]⟩
theorem frzF_all {n : Nat} {f : Nat} : ∀ {ds : List (Str × D)}, (∀ d ∈ ds.map (·.2), ∃ t, frz n S f d = some t) → ∃ ts, frzF n S f ds = some ts
  | [], _ => ⟨[], by unfold frzF; rfl⟩
  | (k, d) :: ds, h => by
    obtain ⟨t, ht⟩ := h d (by simp)
    obtain ⟨ts, hts⟩ := frzF_all (ds := ds) fun d' hd' => h d' (by simp at hd'; simp; exact .inr hd')
    exact ⟨(k, t) :: ts, by unfold frzF; rw [ht, hts]⟩
theorem frzK_all {n : Nat} {f : Nat} : ∀ {ds : List (Key × D)}, (∀ d ∈ ds.map (·.2), ∃ t, frz n S f d = some t) → ∃ ts, frzK n S f ds = some ts
  | [], _ => ⟨[], by unfold frzK; rfl⟩
  | (k, d) :: ds, h => by
    obtain ⟨t, ht⟩ := h d (by simp)
    obtain ⟨ts, hts⟩ := frzK_all (ds := ds) fun d' hd' => h d' (by simp at hd'; simp; exact .inr hd')
    exact ⟨(k, t) :: ts, by unfold frzK; rw [ht, hts]⟩
theorem KR.frz {S0 : Store} {rk : Nat → Nat} (h : KR S0 rk S) {n : Nat} (hn : n ≤ S0.length) : ∀ (f i : Nat), S0.length ≤ i → i < S.length → rk i < f → ∃ t, frz n S f (.m i) = some t
  | 0, i, _, _, hf => absurd hf (Nat.not_lt_zero _)
  | f + 1, i, hi, hl, hf => by
    have e : S[i]? = some S[i] := List.getElem?_eq_getElem hl
    generalize S[i] = c at e
    obtain ⟨hp, h2⟩ := h.ok i c hi e
    have key : ∀ d ∈ dsOf c, ∃ t, DL.frz n S f d = some t := fun d hd => by
      rcases h2 d hd with ⟨x, rfl⟩ | ⟨j, rfl, h3, h4, h5⟩
      · exact ⟨x, by unfold DL.frz; rfl⟩
      · exact KR.frz h hn f j h3 h4 (by omega)
    have hni : n ≤ i := Nat.le_trans hn hi
    unfold DL.frz
    rw [e]
    cases c with
    | lst ds => obtain ⟨ts, ht⟩ := frzL_all (ds := ds) key; exact ⟨.lst ts, by simp [hni, ht]⟩
    | tup ds => obtain ⟨ts, ht⟩ := frzL_all (ds := ds) key; exact ⟨.tup ts, by simp [hni, ht]⟩
    | ins C fs => obtain ⟨ts, ht⟩ := frzF_all (ds := fs) key; exact ⟨.ins C ts, by simp [hni, ht]⟩
    | dct kvs => obtain ⟨ts, ht⟩ := frzK_all (ds := kvs) key; exact ⟨.dct ts, by simp [hni, ht]⟩
    | _ => cases hp
theorem KR.allFz {S0 : Store} {rk : Nat → Nat} (h : KR S0 rk S) (ha : AllFz S0) (hb : ∀ i, rk i ≤ S.length) : AllFz S := by
  intro i c e
  rcases Nat.lt_or_ge i S0.length with hl | hl
  · have e' : S0[i]? = some c := by rw [← h.pre, List.getElem?_take_of_lt hl]; exact e
    rcases ha i c e' with h1 | ⟨t, ht⟩
    · exact .inl h1
    · right
      have hs : S = S0 ++ S.drop S0.length := by conv => lhs; rw [← List.take_append_drop S0.length S, h.pre]
      have := frz_app (R := S.drop S0.length) _ _ _ ht
      rw [← hs] at this
      exact ⟨t, frz_le this (by have := h.len; omega)⟩
  · exact .inr (h.frz (Nat.zero_le _) _ i hl (List.getElem?_eq_some_iff.mp e).1 (Nat.lt_succ_of_le (hb i)))
/-- a nest read as a tree -/
theorem frzL_refs {n f a : Nat} {rows : List (List T)} : ∀ (k : Nat), n ≤ a → k ≤ rows.length → (∀ (i : Nat) r, rows[i]? = some r → S[a + i]? = some (.lst (r.map .t))) → frzL n S (f + 1) ((List.range' k (rows.length - k)).map fun i => D.m (a + i)) = some ((rows.drop k).map .lst) := by
  intro k hn hk h
  generalize hd : rows.length - k = m
  induction m generalizing k with
  | zero => rw [List.drop_eq_nil_of_le (by omega)]; simp [frzL]
  | succ m ih =>
    have hlt : k < rows.length := by omega
    have e := h k rows[k] (List.getElem?_eq_getElem hlt)
    rw [List.range'_succ, List.map_cons, List.drop_eq_getElem_cons hlt, List.map_cons]
    unfold frzL
    rw [frz_lst e (by omega), ih (k + 1) (by omega) (by omega)]
theorem Nest.frz {a n f : Nat} {rows : List (List T)} (h : Nest S a rows) (hn : n ≤ a) : frz n S (f + 2) (.m a) = some (.lst (rows.map .lst)) := by
  have := frzL_refs (S := S) (f := f) (n := n) (a := a + 1) (rows := rows) 0 (by omega) (Nat.zero_le _) h.row
  unfold DL.frz
  rw [h.top]
  simp only [if_pos hn]
  rw [show refs (a + 1) rows.length = (List.range' 0 (rows.length - 0)).map fun i => D.m (a + 1 + i) by simp [refs, List.range_eq_range'], this]
  simp
theorem Nest.tree {a : Nat} {rows : List (List T)} (h : Nest S a rows) : D.tree S (.m a) = some (.lst (rows.map .lst)) := by
  unfold D.tree
  have := (List.getElem?_eq_some_iff.mp h.top).1
  obtain ⟨k, hk⟩ : ∃ k, S.length + 1 = k + 2 := ⟨S.length - 1, by omega⟩
  rw [hk]
  exact h.frz (Nat.zero_le _)
end DL
set_option Elab.async false
set_option linter.all false
set_option maxRecDepth 100000
/-! DL26: a law's own start (its stream) and its end -/
namespace DL
open PySem PySem.Spec PyProof.Rows L2
theorem fun_of {K : PySem.W.Frag} {x qual : Str} {st : Stmt} {f : Addr} {fd : FuncData} (F : FunD K x qual (defArgs st) (defBody st) (defScope st) [] [] f fd) : L2.Fun K x qual st f fd := by
  obtain ⟨⟨oc, od, dV, kV, doc, pm, an, cdv, ct, osl, e, lk, hc, hd, _⟩, kp⟩ := F
  rcases hd with ⟨_, rfl⟩ | ⟨h, _⟩
  · exact ⟨⟨oc, od, kV, doc, pm, an, cdv, ct, osl, e, lk, hc⟩, kp⟩
  · exact absurd rfl h
theorem bits_nat {z : Int} (h : Builtin.Int.intBits z ≤ 1048576) : z.natAbs < 2 ^ 1048576 := by
  unfold Builtin.Int.intBits at h
  split at h
  · rename_i e
    have : z = 0 := by simpa using e
    subst this
    exact Nat.two_pow_pos 1048576
  · have : z.natAbs < 2 ^ (z.natAbs.log2 + 1) := Nat.lt_log2_self
    exact Nat.lt_of_lt_of_le this (Nat.pow_le_pow_right (by decide) h)
def strm0 : Store := [.strmI, .strm (2 ^ 39)]
/-- the script is one of whole numbers -/
def Script (K : PySem.W.Frag) (H : Hp) (a : Addr) (ns : List Int) : Prop := SqL K H a (ns.map V.int) ∧ ns.length ≤ 63 ∧ ∀ n ∈ ns, n.natAbs < 2 ^ 1048576
def spStream (CT : TTs) (K : PySem.W.Frag) : Sp := fun vs H Q _ => ∃ a ns, vs = [.ref a] ∧ Script K H a ns ∧ LamX.Tabs CT H ∧ ∀ as H' p, StOk CT as strm0 H' → as[1]? = some p → Q (.ref p) H'
def spLaw (CT : TTs) (K : PySem.W.Frag) : Sp := fun vs H Q _ => ∃ a ns, vs = [.ref a] ∧ Script K H a ns ∧ LamX.Tabs CT H ∧ ∀ H', Q (.bl true) H'
def tStream (K : PySem.W.Frag) : TE := tLst (tCons (tCB (fun xs H Q => ∃ p ys, xs = [.ref p] ∧ (SqL K H p ys ∨ SqT K H p ys) ∧ ∀ l, H l = none → Q (.ref l) (upd H l (.lst ys))) (tCons (tVar 0) tNil)) (tCons (tC (.int 0)) (tCons (tC (.int 0)) (tCons (tC (.int 17)) tNil))))
theorem strm_made {CT : TTs} {H : Hp} {l p : Addr} {ns : List Int} (hT : LamX.Tabs CT H) (hb : ∀ n ∈ ns, n.natAbs < 2 ^ 1048576) (hl : H l = none) (hp : upd H l (.lst (ns.map V.int)) p = none) :
    StOk CT [l, p] strm0 (upd (upd H l (.lst (ns.map V.int))) p (.lst [.ref l, .int 0, .int 0, .int 17])) := by
  have hne : l ≠ p := fun e => by rw [← e, upd_same] at hp; cases hp
  have h1 : upd (upd H l (.lst (ns.map V.int))) p (.lst [.ref l, .int 0, .int 0, .int 17]) l = some (.lst (ns.map V.int)) := by rw [upd_ne hne, upd_same]
  have no : ∀ (H : Hp) (b : Addr), H b = none → ∀ u, H b = some u → (∀ ps, u ≠ .tbl ps) ∧ ∀ φ, u ≠ .ext φ := fun H b h u hu => by rw [h] at hu; cases hu
  refine ⟨tabs_upd (tabs_upd hT (no _ _ hl)) (no _ _ hp), rfl, by simp [hne], fun i a e => ?_, fun i a c e1 e2 => ?_⟩
  · match i with
    | 0 => cases e; rw [h1]; exact fun z => by cases z
    | 1 => cases e; rw [upd_same]; exact fun z => by cases z
    | i + 2 => simp at e
  · match i with
    | 0 => cases e1; cases e2; exact ⟨ns, h1, hb⟩
    | 1 => cases e1; cases e2; exact ⟨l, 0, 0, 17, rfl, by rw [upd_same], by omega, by simp; exact Nat.two_pow_pos _, by omega, by decide, by omega, by decide⟩
    | i + 2 => simp at e1
theorem stream_pure {CT : TTs} {K : PySem.W.Frag} {vs : List V} {H : Hp} {Q : VK} {E : XK} (h : spStream CT K vs H Q E) : tSeq (tRet (tStream K)) tNext { nx := fun _ H' => Q .non H', rt := Q } (start ["_law_script"] vs) H := by
  obtain ⟨a, ns, rfl, ⟨hS, hl, hb⟩, hT, q⟩ := h
  refine ⟨_, rfl, a, ns.map V.int, rfl, .inl hS, fun l hl0 => ?_⟩
  refine ⟨by show 4 ≤ sizeLine; decide, fun p hp => ?_⟩
  exact q [l, p] _ p (strm_made hT hb hl0 hp) rfl
def startL (n : Nat) : Env := none :: some (.m 1) :: List.replicate (n - 2) none
theorem law_pure {CT : TTs} {K : PySem.W.Frag} {N : List Str} {tb : TSD} {vs : List V} {H : Hp} {Q : VK} {E : XK} (hN : 2 ≤ N.length) (hm : ∀ (Qd : D → Store → Prop) (Ed : Ex → Prop), (∀ S, Qd (.bl true) S) → tb (endsOf .raw strm0 Qd Ed) (startL N.length) strm0)
    (h : spLaw CT K vs H Q E) : tSeq (tAsg (tCall (spStream CT K) [] E (tCons (tVar 0) tNil)) (gName 1)) (liftS CT E tb) { nx := fun _ H' => Q .non H', rt := Q } (start N vs) H := by
  obtain ⟨a, ns, rfl, hS, hT, q⟩ := h
  obtain ⟨x0, x1, N', rfl⟩ : ∃ x0 x1 N', N = x0 :: x1 :: N' := by
    match N, hN with
    | x0 :: x1 :: N', _ => exact ⟨x0, x1, N', rfl⟩
  refine ⟨.ref a, rfl, a, ns, rfl, hS, hT, fun as H' p st hp => ?_⟩
  refine ⟨as, strm0, startL (x0 :: x1 :: N').length, endsOf .raw strm0 (fun d _ => d = .bl true) (fun _ => False), ⟨st, ⟨?_, fun i d hd => ?_⟩, ?_⟩, hm _ _ fun _ => rfl, ?_⟩
  · simp [startL, L2.start]
  · match i with
    | 0 => cases hd
    | 1 =>
      have e : D.m 1 = d := by simpa [startL] using hd
      subst e
      exact ⟨.ref p, by simp [L2.start], p, hp, rfl⟩
    | i + 2 =>
      have e : (List.replicate N'.length none : Env)[i]? = some (some d) := by simpa [startL] using hd
      rw [List.getElem?_replicate] at e
      split at e <;> cases e
  · intro as' S' H' C dx fs ts o st' hx rf ⟨_, _, z⟩
    exact z.elim
  · exact { nx := fun as' S' H' σ' ρ' o st' en z => by cases (show D.t (T.v V.non) = D.bl true from z)
            rt := fun as' S' H' d y o st' r z => by
              have z : d = .bl true := z
              subst z
              have r : y = V.bl true := r
              subst r
              exact q H'
            bk := fun as' S' H' σ' ρ' o st' en z => z.elim
            ct := fun as' S' H' σ' ρ' o st' en z => z.elim }
end DL
set_option Elab.async false
set_option linter.all false
set_option maxRecDepth 100000
/-! DL27: the facts of own classes, as Bools that a head's run may look at -/
namespace DL
open PySem PySem.Spec PyProof.Rows L2
def ownB (K : PySem.W.Frag) (C : Addr) : Bool :=
  He.eqO (PySem.W.findIn K (.ref C) "__class__") (some (some (.builtin "object.__class__"))) &&
  (He.eqO (PySem.W.specialIn K (.builtin "object.__class__") "__get__") (some (some (.builtin "getset_descriptor.__get__"))) &&
  (decide (PySem.W.takesIn K (.builtin "object.__class__") = some true) && (decide (PySem.W.mroIn K C (.type "object") = some true) &&
  ((["int", "bool", "str", "list", "tuple", "dict"] : List String).all (fun n => decide (PySem.W.kitOne K (.ref C) (.type n) = some false)) &&
  (["NoneType", "int", "bool", "str", "list", "tuple", "dict"] : List String).all fun n => decide (PySem.W.kitOne K (.type n) (.ref C) = some false)))))
theorem ownB_ok {K : PySem.W.Frag} {C : Addr} (hc : Cls K C) (h : ownB K C = true) : OwnC K C := by
  obtain ⟨h1, h⟩ := He.ba h
  obtain ⟨h2, h⟩ := He.ba h
  obtain ⟨h3, h⟩ := He.ba h
  obtain ⟨h4, h⟩ := He.ba h
  obtain ⟨h5, h6⟩ := He.ba h
  exact ⟨hc, He.eqO_ok h1, He.eqO_ok h2, of_decide_eq_true h3, of_decide_eq_true h4, fun n hn => of_decide_eq_true (List.all_eq_true.mp h5 n hn), fun n hn => of_decide_eq_true (List.all_eq_true.mp h6 n hn)⟩
def eqB (K : PySem.W.Frag) (C : Addr) : Bool :=
  decide (PySem.W.subIn K (.ref C) (.type "object") = some true) && (He.eqO (PySem.W.findIn K (.ref C) "__ne__") (some (some (.builtin "object.__ne__"))) &&
  (["NoneType", "int", "bool", "str", "list", "tuple", "dict"] : List String).all fun n => decide (PySem.W.subIn K (.type n) (.ref C) = some false))
theorem eqB_ok {K : PySem.W.Frag} {C : Addr} (h : eqB K C = true) : EqC K C := by
  obtain ⟨h1, h⟩ := He.ba h
  obtain ⟨h2, h3⟩ := He.ba h
  exact ⟨of_decide_eq_true h1, He.eqO_ok h2, fun n hn => of_decide_eq_true (List.all_eq_true.mp h3 n hn)⟩
/-- the built-ins of which Bs speaks -/
def bsL : List Str := ["len", "isinstance", "int", "bool", "str", "list", "tuple", "dict", "range", "enumerate", "zip", "any", "all", "abs", "max", "min", "sum", "sorted", "repr"]
theorem bs_of {mg : Str → Option Value} (h : ∀ x ∈ bsL, mg x = none) : Bs mg :=
  ⟨h _ (by simp [bsL]), h _ (by simp [bsL]), h _ (by simp [bsL]), h _ (by simp [bsL]), h _ (by simp [bsL]), h _ (by simp [bsL]), h _ (by simp [bsL]), h _ (by simp [bsL]), h _ (by simp [bsL]), h _ (by simp [bsL]), h _ (by simp [bsL]), h _ (by simp [bsL]), h _ (by simp [bsL]), h _ (by simp [bsL]), h _ (by simp [bsL]), h _ (by simp [bsL]), h _ (by simp [bsL]), h _ (by simp [bsL]), h _ (by simp [bsL])⟩
theorem cx_none {P : Program} {w : World} {outer : List PySem.Env} {H : Hp} {s s' : Shared} {u : Value} (h : L2.CX P w outer H s (fun _ _ _ => False) u s') : False := by
  obtain ⟨_, _, _, _, _, _, _, _, _, _, _, _, h⟩ := h
  exact h
section
variable {CT : TTs} {P : Program} {w : World} {K : PySem.W.Frag} {mg : Str → Option Value} {base : Heap} {k : Nat} {f : Addr} {fd : FuncData} {x qual : Str} {st : Stmt} {ps : List Str} {ft : FT}
theorem FnG.mk' (F : L2.Fun K x qual st f fd) (h : FnOk P w K mg base (L2.CX P w) k f fd ps (spD CT ps.length ft)) (hm : mg x = some (.ref f))
    (hb : ∀ (kV doc pm : Value) (an : Option Addr) (cdv ct : Value) (us : List Value), us.length = ps.length → bindArgs (PySem.W.fnOf x qual (defArgs st) (defBody st) (defScope st) .none kV doc pm an cdv ct) ⟨us, []⟩ = pure (ps.zip us)) : FnG CT P w K mg base k x ps ft :=
  ⟨f, fd, h, F.binds hb, hm, F.kp⟩
theorem MtG.mk' {C : Addr} (F : L2.Fun K x qual st f fd) (h : FnOk P w K mg base (L2.CX P w) k f fd ps (spD CT ps.length ft)) (hc : Cls K C) (hm : Meth K C x f)
    (hb : ∀ (kV doc pm : Value) (an : Option Addr) (cdv ct : Value) (us : List Value), us.length = ps.length → bindArgs (PySem.W.fnOf x qual (defArgs st) (defBody st) (defScope st) .none kV doc pm an cdv ct) ⟨us, []⟩ = pure (ps.zip us)) : MtG CT P w K mg base k C x ps ft :=
  ⟨f, fd, h, F.binds hb, hc, hm⟩
theorem MkG.mk' {C : Addr} {c : Str} (F : L2.Fun K x qual st f fd) (h : FnOk P w K mg base (L2.CX P w) k f fd ps (spD CT ps.length ft)) (hm : Mk K C f) (hg : mg c = some (.ref C))
    (hb : ∀ (kV doc pm : Value) (an : Option Addr) (cdv ct : Value) (us : List Value), us.length = ps.length → bindArgs (PySem.W.fnOf x qual (defArgs st) (defBody st) (defScope st) .none kV doc pm an cdv ct) ⟨us, []⟩ = pure (ps.zip us)) : MkG CT P w K mg base k c C ps ft :=
  ⟨f, fd, h, F.binds hb, hm, hg⟩
theorem MkKG.mk' {C : Addr} {c : Str} {ks : List Str} {pm : List Nat} (F : L2.Fun K x qual st f fd) (h : FnOk P w K mg base (L2.CX P w) k f fd ps (spD CT ps.length ft)) (hm : Mk K C f) (hg : mg c = some (.ref C))
    (hb : ∀ (kV doc pm' : Value) (an : Option Addr) (cdv ct : Value) (us ws : List Value), us.length = 1 → ws.length = ks.length → bindArgs (PySem.W.fnOf x qual (defArgs st) (defBody st) (defScope st) .none kV doc pm' an cdv ct) ⟨us, ks.zip ws⟩ = pure (ps.zip (us ++ permL pm ws))) : MkKG CT P w K mg base k c C ps ft ks pm :=
  ⟨f, fd, h, kbn_of F hb, hm, hg⟩
end
end DL
set_option Elab.async false
set_option linter.all false
set_option maxRecDepth 100000
/-! DL28: own exceptions: their classes, raise -/
namespace DL
open PySem PySem.Spec PyProof.Rows L2
/-! ### the classes -/
/-- an own class over ValueError with an __init__ of its own -/
structure XcC (K : PySem.W.Frag) (C : Addr) : Prop where
  o : OexC K C
  x : XfC K C
def clsB (K : PySem.W.Frag) (C : Addr) : Bool := match K.lookup C with
  | some ⟨.type t, _, .cls cd, sl⟩ => (match cd.mro, sl.toList with
    | .ref C' :: bm, [_, _, _, _, some (.builtin n), _] => decide (t = "type") && (decide (C' = C) && (decide (n = "ValueError.__new__") && (!cd.hasDel && (cd.hasDict && PySem.HandSPX.refsVE bm))))
    | _, _ => false)
  | _ => false
theorem clsB_ok {K : PySem.W.Frag} {C : Addr} (h : clsB K C = true) : ∃ nm q N bs bm sn sub ab col dd k0 k1 k2 k3 k5, K.lookup C = some (excClassObj nm q C N bs bm true sn sub ab col dd k0 k1 k2 k3 k5 "ValueError.__new__") ∧ PySem.HandSPX.refsVE bm = true := by
  unfold clsB at h
  cases q : K.lookup C with
  | none => rw [q] at h; cases h
  | some o =>
    obtain ⟨oc, od, dt, ⟨sl⟩⟩ := o
    rw [q] at h
    cases oc with
    | type t =>
      cases dt with
      | cls cd =>
        obtain ⟨c1, c2, c3, c4, c5, c6, c7, c8, c9, c10, c11⟩ := cd
        match c3, sl, h with
        | .ref C' :: bm, [k0, k1, k2, k3, some (.builtin n), k5], h =>
          obtain ⟨h1, h⟩ := He.ba h
          obtain ⟨h2, h⟩ := He.ba h
          obtain ⟨h3, h⟩ := He.ba h
          obtain ⟨h4, h⟩ := He.ba h
          obtain ⟨h5, h6⟩ := He.ba h
          have e1 := of_decide_eq_true h1
          have e2 := of_decide_eq_true h2
          have e3 := of_decide_eq_true h3
          have e4 : c11 = false := by simpa using h4
          have e5 : c6 = true := h5
          subst e1 e2 e3 e4 e5
          exact ⟨c1, c5, c4, c2, bm, c7, c8, c9, c10, od, k0, k1, k2, k3, k5, rfl, h6⟩
      | _ => cases h
    | _ => cases dt <;> cases h
def xcB (K : PySem.W.Frag) (C : Addr) : Bool :=
  clsB K C && (He.eqO (PySem.W.findIn K (.ref C) "__setattr__") (some (some (.builtin "object.__setattr__"))) && (decide (PySem.W.subIn K (.ref C) (.type "BaseException") = some true) && (decide (PySem.W.typeIn K (.ref C) = some (.type "type")) &&
  (PySem.W.keepIn K (.ref C) && xfB K C))))
theorem xcB_ok {K : PySem.W.Frag} {C : Addr} (h : xcB K C = true) : XcC K C := by
  obtain ⟨h1, h⟩ := He.ba h
  obtain ⟨h2, h⟩ := He.ba h
  obtain ⟨h3, h⟩ := He.ba h
  obtain ⟨h4, h⟩ := He.ba h
  obtain ⟨h5, h6⟩ := He.ba h
  exact ⟨⟨clsB_ok h1, He.eqO_ok h2, of_decide_eq_true h3, of_decide_eq_true h4, h5⟩, xfB_ok h6⟩
/-! ### __init__ of one field, of two -/
def spInit1 (K : PySem.W.Frag) (f : Str) : Sp := fun vs H Q _ => ∃ (a C : Addr) (y : V), vs = [.ref a, y] ∧ OexC K C ∧ PySem.W.findIn K (.ref C) f = some none ∧ H a = some (exo a C none) ∧
  ∀ dx, H dx = none → dx ≠ a → Q .non (upd (upd H dx (exd dx [(f, y)])) a (exo a C (some dx)))
theorem init1_pure {K : PySem.W.Frag} {f x0 x1 : Str} {vs : List V} {H : Hp} {Q : VK} {E : XK} (h : spInit1 K f vs H Q E) : tSeq (tOst K f (tVar 0) (tVar 1)) tNext { nx := fun _ H' => Q .non H', rt := Q } (start [x0, x1] vs) H := by
  obtain ⟨a, C, y, rfl, T, hno, hH, q⟩ := h
  exact ⟨y, rfl, .ref a, rfl, a, C, rfl, T, hno, .inl ⟨hH, fun dx h1 h2 => q dx h1 h2⟩⟩
def spInit2 (K : PySem.W.Frag) (f g : Str) : Sp := fun vs H Q _ => ∃ (a C : Addr) (y z : V), vs = [.ref a, y, z] ∧ OexC K C ∧ PySem.W.findIn K (.ref C) f = some none ∧ PySem.W.findIn K (.ref C) g = some none ∧ H a = some (exo a C none) ∧
  ∀ dx H', H dx = none → dx ≠ a → H' = upd (upd H dx (exd dx [(g, z), (f, y)])) a (exo a C (some dx)) → Q .non H'
theorem upd_twice {H : Hp} {a : Addr} {o o' : HO} : upd (upd H a o) a o' = upd H a o' := by
  funext b
  by_cases hb : b = a
  · rw [hb, upd_same, upd_same]
  · rw [upd_ne hb, upd_ne hb, upd_ne hb]
theorem upd_comm {H : Hp} {a b : Addr} {o o' : HO} (h : a ≠ b) : upd (upd H a o) b o' = upd (upd H b o') a o := by
  funext c
  by_cases hb : c = b
  · rw [hb, upd_same, upd_ne (Ne.symm h), upd_same]
  · rw [upd_ne hb]
    by_cases ha : c = a
    · rw [ha, upd_same, upd_same]
    · rw [upd_ne ha, upd_ne ha, upd_ne hb]
theorem init2_pure {K : PySem.W.Frag} {f g x0 x1 x2 : Str} {vs : List V} {H : Hp} {Q : VK} {E : XK} (h : spInit2 K f g vs H Q E) : tSeq (tOst K f (tVar 0) (tVar 1)) (tSeq (tOst K g (tVar 0) (tVar 2)) tNext) { nx := fun _ H' => Q .non H', rt := Q } (start [x0, x1, x2] vs) H := by
  obtain ⟨a, C, y, z, rfl, T, hno, hno2, hH, q⟩ := h
  refine ⟨y, rfl, .ref a, rfl, a, C, rfl, T, hno, .inl ⟨hH, fun dx h1 h2 => ?_⟩⟩
  refine ⟨z, rfl, .ref a, rfl, a, C, rfl, T, hno2, .inr ⟨dx, [(f, y)], upd_same, by rw [upd_ne h2, upd_same], by simp, ?_⟩⟩
  refine q dx _ h1 h2 ?_
  rw [upd_comm (Ne.symm h2), upd_twice]
/-! ### raise C(e) -/
/-- a class, by its name: its one field -/
structure Xc1 (P : Program) (w : World) (K : PySem.W.Frag) (mg : Str → Option Value) (base : Heap) (x : Str) (C : Addr) (f : Str) : Prop where
  ex : ∃ fI fd p0 p1, FnOk P w K mg base (L2.CX P w) 1 fI fd [p0, p1] (spInit1 K f) ∧ Binds K fd [p0, p1] [] ∧ PySem.W.findIn K (.ref C) "__init__" = some (some (.ref fI)) ∧ PySem.W.typeIn K (.ref fI) = some (.type "function")
  c : XcC K C
  no : PySem.W.findIn K (.ref C) f = some none
  hm : mg x = some (.ref C)
structure Xc2 (P : Program) (w : World) (K : PySem.W.Frag) (mg : Str → Option Value) (base : Heap) (x : Str) (C : Addr) (f g : Str) : Prop where
  ex : ∃ fI fd p0 p1 p2, FnOk P w K mg base (L2.CX P w) 1 fI fd [p0, p1, p2] (spInit2 K f g) ∧ Binds K fd [p0, p1, p2] [] ∧ PySem.W.findIn K (.ref C) "__init__" = some (some (.ref fI)) ∧ PySem.W.typeIn K (.ref fI) = some (.type "function")
  c : XcC K C
  no : PySem.W.findIn K (.ref C) f = some none
  no2 : PySem.W.findIn K (.ref C) g = some none
  hm : mg x = some (.ref C)
def sRaise (C : Addr) (f : Str) (t : TED) : TSD := fun De ρ S => t De.ex ρ S fun d S1 => De.ex (C, [(f, d)]) S1
def sRaise2 (C : Addr) (f g : Str) (t u : TED) : TSD := fun De ρ S => t De.ex ρ S fun d S1 => u De.ex ρ S1 fun e S2 => De.ex (C, [(g, e), (f, d)]) S2
/-- the heap behind the making -/
theorem made_heap {H : Hp} {a d : Addr} {o1 o2 : HO} {fs : List (Str × V)} (ha : H a = none) (hda : d ≠ a) (hd : upd H a o1 d = none) : upd (del (upd (upd (upd H a o1) d (exd d fs)) a o2) a) d (.xd fs) = upd H d (.xd fs) := by
  funext b
  by_cases hb : b = d
  · rw [hb, upd_same, upd_same]
  · rw [upd_ne hb, upd_ne hb]
    by_cases h2 : b = a
    · rw [h2, del_same, ha]
    · rw [del_ne h2, upd_ne h2, upd_ne hb, upd_ne h2]
section
variable {CT : TTs} {E : XK} {X : Cx} {x : Str} {C : Addr} {f g : Str} {e e2 : Expr} {t u : TED} {p pos pos2 : Pos}
theorem ds_raise (hc : X.calm = true) (G : Xc1 X.prog X.w X.K X.mg X.base x C f) (hr : Room 2 X.A) (tk : Takes X (fun cls d _ H => E cls d H)) (hx : Passes (L2.CX X.prog X.w) X (fun _ _ _ => False)) (he : DE CT E X e t) (hg : Gl X x := by rfl) (hdb : (x == ("__debug__" : Str)) = false := by decide)
    (hs : starEach (e :: []) X.env = (false, eval e X.env) :: starEach [] X.env := by rfl) (hpl : (backTo pos (starEach [] X.env)).any (·.1) = false := by rfl) : DS CT E X (.Raise (some (.Call (.Name x p) [e] [] pos)) none pos2) (sRaise C f t) := by
  obtain ⟨fI, fd, p0, p1, F, hb, iC, tI⟩ := G.ex
  refine .of (ps_raise hc tk (pmk_oex G.c.o iC tI F hr hb .nil hx hg G.hm (pa_cons he.pe pa_nil hs) hdb hs hpl)) fun σ H as S ρ De D z q k => ?_
  refine (⟨as, S, ρ, De.ex, _, z, q, fun as1 S1 H1 d y o1 s1 r q1 => ?_⟩ : lift CT E t σ H _)
  refine ⟨by simp, fun a ha => ⟨a, C, y, rfl, G.c.o, G.no, upd_same, fun dx h1 h2 => ?_⟩⟩
  have hdx : H1 dx = none := by rw [upd_ne h2] at h1; exact h1
  refine ⟨rfl, dx, [(f, y)], upd_same, by rw [upd_ne h2, upd_same], hdx, ?_⟩
  rw [made_heap ha h2 h1]
  obtain ⟨st', on'⟩ := s1.new (o := .xd [(f, y)]) hdx
  exact z.ex as1 S1 _ C dx [(f, y)] [(f, d)] (o1.trans on') st' upd_same (.cons ⟨rfl, on'.rep r⟩ .nil) q1
theorem ds_raise2 (hc : X.calm = true) (G : Xc2 X.prog X.w X.K X.mg X.base x C f g) (hr : Room 2 X.A) (tk : Takes X (fun cls d _ H => E cls d H)) (hx : Passes (L2.CX X.prog X.w) X (fun _ _ _ => False)) (he : DE CT E X e t) (he2 : DE CT E X e2 u) (hg : Gl X x := by rfl) (hdb : (x == ("__debug__" : Str)) = false := by decide)
    (hs : starEach (e :: [e2]) X.env = (false, eval e X.env) :: starEach [e2] X.env := by rfl) (hs2 : starEach (e2 :: []) X.env = (false, eval e2 X.env) :: starEach [] X.env := by rfl) (hpl : (backTo pos (starEach [e2] X.env)).any (·.1) = false := by rfl) : DS CT E X (.Raise (some (.Call (.Name x p) [e, e2] [] pos)) none pos2) (sRaise2 C f g t u) := by
  obtain ⟨fI, fd, p0, p1, p2, F, hb, iC, tI⟩ := G.ex
  refine .of (ps_raise hc tk (pmk_oex G.c.o iC tI F hr hb .nil hx hg G.hm (pa_cons he.pe (pa_cons he2.pe pa_nil hs2) hs) hdb hs hpl)) fun σ H as S ρ De D z q k => ?_
  refine (⟨as, S, ρ, De.ex, _, z, q, fun as1 S1 H1 d y o1 s1 r q1 => ?_⟩ : lift CT E t σ H _)
  refine (⟨as1, S1, ρ, De.ex, _, z.on o1 s1, q1, fun as2 S2 H2 d2 y2 o2 s2 r2 q2 => ?_⟩ : lift CT E u σ H1 _)
  refine ⟨by simp, fun a ha => ⟨a, C, y, y2, rfl, G.c.o, G.no, G.no2, upd_same, fun dx H' h1 h2 e => ?_⟩⟩
  subst e
  have hdx : H2 dx = none := by rw [upd_ne h2] at h1; exact h1
  refine ⟨rfl, dx, [(g, y2), (f, y)], upd_same, by rw [upd_ne h2, upd_same], hdx, ?_⟩
  rw [made_heap ha h2 h1]
  obtain ⟨st', on'⟩ := s2.new (o := .xd [(g, y2), (f, y)]) hdx
  exact z.ex as2 S2 _ C dx [(g, y2), (f, y)] [(g, d2), (f, d)] ((o1.trans o2).trans on') st' upd_same (.cons ⟨rfl, on'.rep r2⟩ (.cons ⟨rfl, on'.rep (o2.rep r)⟩ .nil)) q2
end
@[simp] theorem sRaise_e {C : Addr} {f : Str} {t : TED} {De : DEnds} {ρ : Env} {S : Store} : sRaise C f t De ρ S = t De.ex ρ S fun d S1 => De.ex (C, [(f, d)]) S1 := rfl
@[simp] theorem sRaise2_e {C : Addr} {f g : Str} {t u : TED} {De : DEnds} {ρ : Env} {S : Store} : sRaise2 C f g t u De ρ S = t De.ex ρ S fun d S1 => u De.ex ρ S1 fun e S2 => De.ex (C, [(g, e), (f, d)]) S2 := rfl
end DL
set_option Elab.async false
set_option linter.all false
set_option maxRecDepth 100000
set_option maxHeartbeats 2000000
/-! DL29: try with several clauses 'except X as n' -/
namespace DL
open PySem PySem.Spec PyProof.Rows L2
def gone (D : Ends) (i : Nat) : Ends := { nx := fun τ G => D.nx (τ.set i none) G, rt := D.rt, bk := fun τ G => D.bk (τ.set i none) G, ct := fun τ G => D.ct (τ.set i none) G }
abbrev Clause := Value × (Addr → Value → Option Addr → TS)
/-- what the clauses want of an exception, slot i is the name's -/
def wClauses (K : PySem.W.Frag) (W0 : WX) (D : Ends) (i : Nat) : List Clause → WX
  | [] => W0
  | (c, ts) :: r => fun cls d σ H => ∃ b, PySem.W.exmOne K cls c = some b ∧ (b = true → ∀ a, H a = none → ts a cls d (gone D i) (σ.set i (some (.ref a))) H) ∧ (b = false → wClauses K W0 D i r cls d σ H)
inductive Clauses (X : Cx) (n : Str) : List ExceptHandler → List Clause → Prop
  | nil : Clauses X n [] []
  | cons {x : Str} {c : Value} {ts : Addr → Value → Option Addr → TS} {b₀ : Stmt} {suite : List Stmt} {np hp : Pos} {hds : List ExceptHandler} {l : List Clause} (hc : Names X x c)
      (hsu : ∀ (a : Addr) (oe : Obj) (cls : Value) (d : Option Addr) (pn : List (Addr × Obj)), Zc cls d oe → (∃ vs, oe.data = .fields vs) → PSs (X.suite a ((a, oe) :: pn)) (b₀ :: suite) (ts a cls d)) (r : Clauses X n hds l) :
      Clauses X n (.ExceptHandler (some (.Name x np)) (some n) (b₀ :: suite) hp :: hds) ((c, ts) :: l)
section
variable {X : Cx} {n : Str} {i : Nat} {body : List Stmt} {h₀ : ExceptHandler} {hds : List ExceptHandler} {l : List Clause} {pos : Pos} {tb : WX → TS} {W0 : WX}
theorem ps_tryAs (hs : X.stack = X.env :: X.outer) (hf : X.env.frame = some X.env.locals) (hN : X.N.Nodup) (hi : X.N[i]? = some n) (hn : X.env.kindOf n = some .local) (tk : Takes X W0)
    (hb : ∀ (W : WX) (pn : List (Addr × Obj)) (xe : Value → Shared → Prop), Takes (X.tr pn xe) W → PassesOwn (model X.prog X.w) X.A X.env xe → PSs (X.tr pn xe) body (tb W)) (hh : Clauses X n (h₀ :: hds) l) :
    PS X (.Try body (h₀ :: hds) [] [] pos) (fun D σ H => tb (wClauses X.K W0 D i l) D σ H) := by
  refine ⟨fun pins s σ H D I hyp => ?_⟩
  have ok := I.ok
  have frm : X.A.frames = some (X.env :: X.outer) := by rw [ok.frames, hs]
  have lo : Loc X.env.scope n := .inl hn
  refine wpAny_Try_except (wpAny_mono ((hb (wClauses X.K W0 D i l) (X.pn ++ pins) (fun e s₁ => wpAny (model X.prog X.w) X.A (noteFrame e X.env) (fun _ s₂ => wpAny (model X.prog X.w) X.A (setFlight e none) (fun _ s₃ =>
    wpAny (model X.prog X.w) X.A (handleBy e X.env (h₀ :: hds)) (SP X pins D) X.xe s₃) X.xe s₂) X.xe s₁) (fun u s' caught => ?_) PassesOwn.looking).run [] s σ H D (I.toTry _) hyp) (fun f s1 done => ?_) (fun e s1 he => he))
  · obtain ⟨a, B, sI, pins', σ', H', cls, d, rfl, J', nb, up, sky, na, os, ag, want⟩ := caught
    have J : Inv X pins σ' H' sI := J'.ofTry ok
    show wpAny _ X.A (noteFrame (.ref a) X.env) _ _ _
    refine Sky.land Zc.steady frm hf (by rw [← hs]; exact sky) fun h3 fl3 up3 => ?_
    have J3 : Inv X pins σ' H' { s' with heap := h3 } := J.landed nb fl3.1 (up.trans up3) os ag
    obtain ⟨oe3, vs3, at3, z3, dat3⟩ := fl3.there
    have offFr : a ∉ frs (X.env :: X.outer) := fun hm => by
      obtain ⟨_, o', e', other⟩ := fl3.2.2.1.mem hm
      rw [at3] at e'; cases e'
      exact other _ dat3
    have nL : a ≠ X.env.locals := fun z => offFr (List.mem_filterMap.mpr ⟨X.env, by simp, by rw [hf, z]⟩)
    have nF : a ∉ X.fs := fun hm => by
      obtain ⟨e, he, q⟩ := List.mem_filterMap.mp hm
      exact offFr (List.mem_filterMap.mpr ⟨e, by simp [he], q⟩)
    have S3 := J3.suite at3 dat3 na nL nF
    have go : ∀ {k : List ExceptHandler} {m : List Clause}, Clauses X n k m → wClauses X.K W0 D i m cls d σ' H' → wpAny (model X.prog X.w) X.A (handleBy (.ref a) X.env k) (SP X pins D) X.xe { s' with heap := h3 } := by
      intro k m hk
      induction hk with
      | nil =>
        intro want
        refine wpAny_handleBy_nil ?_
        obtain ⟨_, _, _, oe, vs, T, oT, ts', he, hz, hd, h1, hr⟩ := id fl3
        unfold PySem.passOn
        refine wpAny_bind (wpAny_field he hd h1 ?_)
        rw [if_neg (by simp : ¬ ((Value.ref T == Value.none) = true))]
        have fin : wpAny (model X.prog X.w) X.A (setFlight (.ref a) X.env.frame) (fun _ s4 => wpAny (model X.prog X.w) X.A (throw (.ref a) : Sem Flow) (SP X pins D) X.xe s4) X.xe { s' with heap := h3 } := by
          rw [hf]
          exact HandSPX.setFlight_upZ fl3 fun h4 hh4 up4 => wpAny_throw (tk _ _ ⟨a, B, sI, pins, σ', H', cls, d, rfl, J, nb, (up.trans up3).trans up4, .inr (.inr (by rw [hs]; exact hh4)), na, os, ag, want⟩)
        first
          | exact wpAny_bind (wpAny_pure (wpAny_bind fin))
          | exact wpAny_bind fin
      | @cons x c ts b₀ suite np hp hds2 l2 hc hsu r ih =>
        intro want
        obtain ⟨b, hb1, yes, no⟩ := want
        refine wpAny_handleBy_cons (codeAny_handlers_test ?_) (by intro q; cases q)
        have lk : PySem.W.Looks (model X.prog X.w) h3 (typeOf (.ref a)) cls := fun A Q E s k q => wpAny_typeOf_ref (k _ _ at3) (by rw [z3.1]; exact q)
        have ask : ∀ {Q : Value → Shared → Prop} {E : Value → Shared → Prop}, Q c { s' with heap := h3 } → wpAny (model X.prog X.w) (X.A.mark (some (.ref a))) (eval (.Name x np) X.env) Q E { s' with heap := h3 } := fun {Q E} q => by
          obtain ⟨g1, g2, g3 | ⟨g3, g4, g5⟩⟩ := hc
          · exact ld_glob (X := X.suite a ((a, oe3) :: (X.pn ++ pins))) S3 g1 g3 q g2
          · exact ld_blt (X := X.suite a ((a, oe3) :: (X.pn ++ pins))) S3 g1 g3 g4 q g5 g2
        refine ask ((PySem.W.exm_one (M := model X.prog X.w) J3.kIn lk hb1).here ?_)
        cases b with
        | false => exact ih (no rfl)
        | true =>
          refine codeAny_handlers_suite_as (HandSPX.lands_againZ fl3 fun h4 fl4 up4 => ?_)
          have J4 : Inv X pins σ' H' { s' with heap := h4 } := J.landed nb fl4.1 ((up.trans up3).trans up4) os ag
          obtain ⟨oe4, vs4, at4, z4, dat4⟩ := fl4.there
          refine store_ok (X := X.suite a ((a, oe4) :: (X.pn ++ pins))) (v := .ref a) (J4.suite at4 dat4 na nL nF) hN hi lo rfl (fun s5 S5 => ?_) (.inr hn)
          refine wpAny_mono ((hsu a oe4 cls d (X.pn ++ pins) z4 ⟨_, dat4⟩).run [] s5 _ H' _ S5 (yes rfl a na)) (fun f s6 ends => ?_) (fun _ _ z => False.elim z)
          have off : ∀ {τ : L2.St} {G : Hp} {Q : Shared → Prop}, Inv (X.suite a ((a, oe4) :: (X.pn ++ pins))) [] τ G s6 → (∀ s7, Inv X pins (τ.set i none) G s7 → Q s7) →
              wpAny (model X.prog X.w) X.A (do bindName X.env n .none; unbindBehindTheSuite X.env n hp) (fun _ s7 => Q s7) X.xe s6 := fun S6 hq => gone_ok (S6.unsuite ok) hN hi hn hq
          cases f with
          | ret u =>
            obtain ⟨v6, τ, G, S6, r6, q6⟩ := ends
            exact off S6 fun s7 J7 => ⟨_, _, _, J7, r6, q6⟩
          | next =>
            obtain ⟨τ, G, S6, q6⟩ := ends
            exact off S6 fun s7 J7 => ⟨_, _, J7, q6⟩
          | brk =>
            obtain ⟨τ, G, S6, q6⟩ := ends
            exact off S6 fun s7 J7 => ⟨_, _, J7, q6⟩
          | cont =>
            obtain ⟨τ, G, S6, q6⟩ := ends
            exact off S6 fun s7 J7 => ⟨_, _, J7, q6⟩
    exact go hh want
  · cases f with
    | ret u =>
      obtain ⟨v, σ', H', J', r, q⟩ := done
      exact ⟨v, σ', H', J'.ofTry ok, r, q⟩
    | next =>
      obtain ⟨σ', H', J', q⟩ := done
      exact wpAny_execs_nil ⟨σ', H', J'.ofTry ok, q⟩
    | brk =>
      obtain ⟨σ', H', J', q⟩ := done
      exact ⟨σ', H', J'.ofTry ok, q⟩
    | cont =>
      obtain ⟨σ', H', J', q⟩ := done
      exact ⟨σ', H', J'.ofTry ok, q⟩
end
end DL
set_option Elab.async false
set_option linter.all false
set_option maxRecDepth 100000
set_option maxHeartbeats 2000000
/-! DL30: t(lambda: e), t a def that tries what it is given and tells which own exception came -/
namespace DL
open PySem PySem.Spec PyProof.Rows L2
/-! ### such a def -/
/-- a clause: the class, the word, the field -/
abbrev TC := Addr × Str × Str
def hndH (K : PySem.W.Frag) (Q : VK) : List TC → XK
  | [] => fun _ _ _ => False
  | (C, nm, f) :: r => fun cls d H => ∃ b, PySem.W.exmOne K cls (.ref C) = some b ∧
      (b = true → ∃ dd fs v, cls = .ref C ∧ d = some dd ∧ H dd = some (.xd fs) ∧ fs.lookup f = some v ∧ ∀ p, H p = none → Q (.ref p) (upd H p (.tup [.str nm, v]))) ∧ (b = false → hndH K Q r cls d H)
def tTold (a : Addr) (cls : Value) (d : Option Addr) (c : TC) : TS := tSeq (tRet (tTup (tCons (tC (.str c.2.1)) (tCons (tXf a cls d c.1 c.2.2 (tVar 1)) tNil)))) tNext
def clausesOf (cl : List TC) : List Clause := cl.map fun c => (.ref c.1, fun a cls d => tTold a cls d c)
theorem hnd_ok {K : PySem.W.Frag} {Q : VK} {W0 : WX} {D : Ends} {σ : L2.St} (h1 : 1 < σ.length) (hD : ∀ v H, Q v H → D.rt v H) : ∀ {cl : List TC} {cls : Value} {d : Option Addr} {H : Hp}, hndH K Q cl cls d H → wClauses K W0 D 1 (clausesOf cl) cls d σ H
  | [], _, _, _, h => h.elim
  | (C, nm, f) :: r, cls, d, H, ⟨b, e, yes, no⟩ => ⟨b, e, fun hb a ha => by
      obtain ⟨dd, fs, v, e1, e2, e3, e4, q⟩ := yes hb
      refine ⟨.ref a, by rw [List.getElem?_set_self h1], rfl, e1, dd, fs, v, e2, e3, e4, ?_⟩
      exact ⟨by show 2 ≤ sizeLine; decide, fun p hp => hD _ _ (q p hp)⟩, fun hb => hnd_ok h1 hD (no hb)⟩
/-- what it makes of what it tries: m: it tells what that gives, else None -/
def TTried (K : PySem.W.Frag) (w : Str) (cl : List TC) (m : Bool) : (XK → Hp → VK → Prop) → Hp → VK → Prop := fun tl H Q =>
  tl (hndH K Q cl) H fun v H' => [V.str w, if m then v else .non].length ≤ sizeLine ∧ ∀ p, H' p = none → Q (.ref p) (upd H' p (.tup [.str w, if m then v else .non]))
section
variable {X : Cx} {Ng : List Str} {x a n q w : Str} {sg : Scope} {g : Addr} {cdg : Value} {cl : List TC} {h₀ : ExceptHandler} {hds : List ExceptHandler} {j j2 k : Nat} {p1 p2 p3 p4 p5 p6 p7 p8 : Pos}
/-- the context of the def that tries -/
abbrev trX (X : Cx) (Ng : List Str) (x : Str) (sg : Scope) (g : Addr) (cdg : Value) (s : Shared) (H : Hp) : Cx := (cxOf C8.CX0 X.prog X.w X.K X.mg X.base Ng x sg g cdg X.A X.stack s H C8.E0).nox
theorem start2 {Ng : List Str} (hl : Ng.length = 2) (v : V) : L2.start Ng [v] = [some v, none] := by
  match Ng, hl with
  | [_, _], _ => rfl
theorem takes_len {X : Cx} {W : WX} (t : Takes X W) : Takes X fun cls d σ H => σ.length = X.N.length → W cls d σ H :=
  fun u s' ⟨a, B, sI, pins, σ, H, cls, d, e, I, nb, up, sky, na, os, ag, w⟩ => t u s' ⟨a, B, sI, pins, σ, H, cls, d, e, I, nb, up, sky, na, os, ag, w I.len⟩
theorem tried_gives2 (hN : Ng.Nodup) (h1 : Ng[1]? = some n) (hl : Ng.length = 2) (hn : ∀ (s : Shared) (H : Hp), (trX X Ng x sg g cdg s H).env.kindOf n = some .local)
    (hc : ∀ (s : Shared) (H : Hp), Clauses (trX X Ng x sg g cdg s H) n (h₀ :: hds) (clausesOf cl)) :
    LamX.GivesTo X Ng x sg g cdg [.Try [.Return (some (.Tuple [.Constant (.str w) j p1, .Call (.Name a p2) [] [] p3] k p4)) p5] (h₀ :: hds) [] [] p6] a q (TTried X.K w cl true) := by
  intro f c' s H Q tl act hco h
  refine ⟨_, pss_one (ps_tryAs (X := trX X Ng x sg g cdg s H) (i := 1) (W0 := fun _ _ _ _ => False)
    (tb := fun W D σ H => ∃ Ech : XK, (∀ cls d σ' H', Ech cls d H' → σ'.length = Ng.length → W cls d σ' H') ∧ σ[0]? = some (some (.ref f)) ∧ H c' = some (LamX.CodeO c' q) ∧ tl Ech H fun v H' => [V.str w, v].length ≤ sizeLine ∧ ∀ p, H' p = none → D.rt (.ref p) (upd H' p (.tup [.str w, v])))
    rfl rfl hN h1 (hn s H) LamX.takes0 (fun W pn xe tk _ => ?_) (hc s H)), ?_⟩
  · refine ⟨fun pins s' σ H' D I ⟨Ech, hW, e1, e2, e3⟩ => ?_⟩
    have hp := act _ pn xe Ech p2 p3 (takes_len tk) hW
    have hq : PSs ((trX X Ng x sg g cdg s H).tr pn xe) [.Return (some (.Tuple [.Constant (.str w) j p1, .Call (.Name a p2) [] [] p3] k p4)) p5] (tRet (tTup (tCons (tC (.str w)) (tCons _ tNil)))) := pss_one (ps_ret (pe_tup (pa_cons pe_str (pa_cons hp pa_nil))))
    exact hq.run pins s' σ H' D I ⟨e1, e2, e3⟩
  · exact ⟨hndH X.K Q cl, fun cls d σ' H' hh hl2 => hnd_ok (by omega) (fun v H z => z) hh, by rw [start2 hl]; rfl, hco, h⟩
theorem tried_gives1 (hN : Ng.Nodup) (h1 : Ng[1]? = some n) (hl : Ng.length = 2) (hn : ∀ (s : Shared) (H : Hp), (trX X Ng x sg g cdg s H).env.kindOf n = some .local)
    (hc : ∀ (s : Shared) (H : Hp), Clauses (trX X Ng x sg g cdg s H) n (h₀ :: hds) (clausesOf cl)) :
    LamX.GivesTo X Ng x sg g cdg [.Try [.Expr (.Call (.Name a p2) [] [] p3) p7, .Return (some (.Tuple [.Constant (.str w) j p1, .Constant .none j2 p8] k p4)) p5] (h₀ :: hds) [] [] p6] a q (TTried X.K w cl false) := by
  intro f c' s H Q tl act hco h
  refine ⟨_, pss_one (ps_tryAs (X := trX X Ng x sg g cdg s H) (i := 1) (W0 := fun _ _ _ _ => False)
    (tb := fun W D σ H => ∃ Ech : XK, (∀ cls d σ' H', Ech cls d H' → σ'.length = Ng.length → W cls d σ' H') ∧ σ[0]? = some (some (.ref f)) ∧ H c' = some (LamX.CodeO c' q) ∧ tl Ech H fun v H' => [V.str w, V.non].length ≤ sizeLine ∧ ∀ p, H' p = none → D.rt (.ref p) (upd H' p (.tup [.str w, .non])))
    rfl rfl hN h1 (hn s H) LamX.takes0 (fun W pn xe tk _ => ?_) (hc s H)), ?_⟩
  · refine ⟨fun pins s' σ H' D I ⟨Ech, hW, e1, e2, e3⟩ => ?_⟩
    have hp := act _ pn xe Ech p2 p3 (takes_len tk) hW
    have hq : PSs ((trX X Ng x sg g cdg s H).tr pn xe) [.Expr (.Call (.Name a p2) [] [] p3) p7, .Return (some (.Tuple [.Constant (.str w) j p1, .Constant .none j2 p8] k p4)) p5] (tSeq (tDrop _) (tRet (tTup (tCons (tC (.str w)) (tCons (tC .non) tNil))))) := pss_cons (ps_expr hp) (pss_one (ps_ret (pe_tup (pa_cons pe_str (pa_cons pe_non pa_nil)))))
    exact hq.run pins s' σ H' D I ⟨e1, e2, e3⟩
  · exact ⟨hndH X.K Q cl, fun cls d σ' H' hh hl2 => hnd_ok (by omega) (fun v H z => z) hh, by rw [start2 hl]; rfl, hco, h⟩
end
/-! ### over data -/
def mkTup (ds : List D) (S : Store) (Q : D → Store → Prop) : Prop := (∃ ts, asTs ds = some ts ∧ Q (.t (.tup ts)) S) ∨ Q (.m S.length) (S ++ [.tup ds])
def hndD : List TC → Ex → Store → (D → Store → Prop) → Prop
  | [], _, _, _ => False
  | (C, nm, f) :: r, e, S, Q => if e.1 = C then ∃ d, e.2.lookup f = some d ∧ mkTup [.t (.v (.str nm)), d] S Q else hndD r e S Q
def dTried (Xs : List Addr) (w : Str) (cl : List TC) (m : Bool) (tl : TED) : TED := fun X ρ S Q => tl (fun e S' => e.1 ∈ Xs ∧ hndD cl e S' Q) ρ S fun d S' => mkTup [.t (.v (.str w)), if m then d else .non] S' Q
/-- the classes that may be raised, told apart by the clauses -/
def XcApart (K : PySem.W.Frag) (Xs : List Addr) : Prop := ∀ C ∈ Xs, ∀ C' ∈ Xs, PySem.W.exmOne K (.ref C) (.ref C') = some (decide (C = C'))
/-- what stands at a cell is no table -/
theorem CellOk.at_ {as : List Addr} {L : Addr → Prop} {H : Hp} {a : Addr} : ∀ {c : Cell}, CellOk as L H a c → ∃ o, H a = some o ∧ ∀ ps, o ≠ .tbl ps
  | .lst ds, ⟨xs, h1, h2⟩ => ⟨_, h1, fun _ z => by cases z⟩
  | .dct kvs, ⟨xs, h1, h2⟩ => ⟨_, h1, fun _ z => by cases z⟩
  | .ins C fs, ⟨dx, xs, h1, h2⟩ => ⟨_, h1, fun _ z => by cases z⟩
  | .tup ds, ⟨xs, h1, h2⟩ => ⟨_, h1, fun _ z => by cases z⟩
  | .strmI, ⟨ns, h1, h2⟩ => ⟨_, h1, fun _ z => by cases z⟩
  | .strm b, ⟨c, x, y, z, h0, h1, h2⟩ => ⟨_, h1, fun _ z => by cases z⟩
  | .fz t, ⟨hn, h⟩ => by
    cases t with
    | v x => exact absurd rfl (hn x)
    | lst ts => obtain ⟨a', xs, e, _, h, _⟩ := h; cases e; exact ⟨_, h, fun _ z => by cases z⟩
    | tup ts => obtain ⟨a', xs, e, _, h, _⟩ := h; cases e; exact ⟨_, h, fun _ z => by cases z⟩
    | dct ts => obtain ⟨a', xs, e, _, h, _⟩ := h; cases e; exact ⟨_, h, fun _ z => by cases z⟩
    | ins C ts => obtain ⟨a', dx, xs, e, _, h, _⟩ := h; cases e; exact ⟨_, h, fun _ z => by cases z⟩
theorem StOk.extN {CT : TTs} {as : List Addr} {S : Store} {H H1 : Hp} (st : StOk CT as S H) (e : LamX.ExtN H H1) (t : LamX.Tabs CT H1) : StOk CT as S H1 ∧ On as S H as S H1 := by
  have on : On as S H as S H1 := ⟨⟨fun b o h _ n => e b o h n, fun b l => .inl l, fun b f => by
    cases q : H b with
    | none => exact .inl q
    | some o =>
      by_cases ho : ∃ ps, o = .tbl ps
      · obtain ⟨ps, rfl⟩ := ho; exact .inr ⟨ps, q⟩
      · exact (f.not (e b o q fun ps z => ho ⟨ps, z⟩) fun ps z => ho ⟨ps, z⟩).elim⟩, fun _ _ h => h⟩
  have kp : ∀ (i : Nat) a, as[i]? = some a → ∀ o, H a = some o → (∀ ps, o ≠ .tbl ps) → H1 a = some o := fun i a _ o h n => e a o h n
  refine ⟨⟨t, st.len, st.nd, fun i a ea z => ?_, fun i a c ea ec => ?_⟩, on⟩
  · obtain ⟨c, hc, hk⟩ := st.mem ea
    obtain ⟨o, ho, hn⟩ := CellOk.at_ hk
    rw [e a o ho hn] at z; cases z
  · have hk := st.cell i a c ea ec
    refine CellOk.ext on.ext on.pre c (fun o ho hf => ?_) hk
    obtain ⟨o2, ho2, hn2⟩ := CellOk.at_ hk
    rw [ho] at ho2; cases ho2
    exact e a o ho hn2
end DL
set_option Elab.async false
set_option linter.all false
set_option maxRecDepth 100000
set_option maxHeartbeats 2000000
/-! DL31: t(lambda: e) over data -/
namespace DL
open PySem PySem.Spec PyProof.Rows L2
theorem mkTup_ok {CT : TTs} {as : List Addr} {S : Store} {H : Hp} {ds : List D} {ys : List V} {Qd : D → Store → Prop} {Q : VK} (st : StOk CT as S H) (r : RepDs as (Live as S) H ds ys) (q : mkTup ds S Qd) (k : KE CT as S H Qd Q) : ∀ p, H p = none → Q (.ref p) (upd H p (.tup ys)) := by
  intro p hp
  rcases q with ⟨ts, ht, q⟩ | q
  · exact new_tup st (repL_of ht r) k hp q
  · obtain ⟨s2, o2⟩ := st.cellNew (c := .tup ds) (o := .tup ys) hp fun o => ⟨ys, upd_same, o.reps r⟩
    exact k _ _ _ (.m S.length) _ o2 s2 ⟨p, by rw [← st.len, List.getElem?_append_right (Nat.le_refl _)]; simp, rfl⟩ q
theorem hnd_data {CT : TTs} {K : PySem.W.Frag} {Xs : List Addr} (hap : XcApart K Xs) {as : List Addr} {S : Store} {H : Hp} {C : Addr} {dx : Addr} {fs : List (Str × V)} {ts : List (Str × D)} {Qd : D → Store → Prop} {Q : VK} (st : StOk CT as S H) (hx : H dx = some (.xd fs)) (r : RepFs as (Live as S) H ts fs) (hC : C ∈ Xs) (k : KE CT as S H Qd Q) :
    ∀ {cl : List TC}, (∀ c ∈ cl, c.1 ∈ Xs) → hndD cl (C, ts) S Qd → hndH K Q cl (.ref C) (some dx) H
  | [], _, q => q
  | (C', nm, f) :: cl, hcl, q => by
    refine ⟨decide (C = C'), hap C hC C' (hcl (C', nm, f) (by simp)), fun hb => ?_, fun hb => ?_⟩
    · have e : C = C' := of_decide_eq_true hb
      have q : if C = C' then ∃ d, ts.lookup f = some d ∧ mkTup [.t (.v (.str nm)), d] S Qd else hndD cl (C, ts) S Qd := q
      rw [if_pos e] at q
      obtain ⟨d, hd, q⟩ := q
      obtain ⟨y, hy, ry⟩ := (lookup_rep (f := f) r).1 d hd
      exact ⟨dx, fs, y, by rw [e], rfl, hx, hy, mkTup_ok (ds := [.t (.v (.str nm)), d]) st (.cons (show V.str nm = V.str nm from rfl) (.cons ry .nil)) q k⟩
    · have e : ¬ C = C' := of_decide_eq_false hb
      have q : if C = C' then ∃ d, ts.lookup f = some d ∧ mkTup [.t (.v (.str nm)), d] S Qd else hndD cl (C, ts) S Qd := q
      rw [if_neg e] at q
      exact hnd_data hap st hx r hC k (fun c hc => hcl c (by simp [hc])) q
/-- a def that tries, by its name -/
structure TrG (P : Program) (w : World) (K : PySem.W.Frag) (mg : Str → Option Value) (base : Heap) (x w0 : Str) (cl : List TC) (m : Bool) : Prop where
  ex : ∃ (g : Addr) (a : Str) (Ng : List Str) (pg : Arguments) (bg : List Stmt) (sg : Scope) (kV doc pm cdv ct oc : Value) (an od : Option Addr) (osl : Array (Option Value)),
    mg x = some (.ref g) ∧ PySem.W.keepIn K (.ref g) = true ∧ K.lookup g = some ⟨oc, od, .func (PySem.W.fnOf x x pg bg sg .none kV doc pm an cdv ct), osl⟩ ∧ PySem.W.codeIn K cdv x = true ∧ Binds K (PySem.W.fnOf x x pg bg sg .none kV doc pm an cdv ct) [a] [] ∧ FnScope Ng [a] sg ∧ Ng[0]? = some a ∧ Vis sg a ∧
      (a == ("__debug__" : Str)) = false ∧ (a == ("__classdict__" : Str)) = false ∧ ∀ (X : Cx) (q : Str), X.prog = P → X.w = w → X.K = K → X.mg = mg → X.base = base → LamX.GivesTo X Ng x sg g cdv bg a q (TTried K w0 cl m)
theorem TrG.mk' {P : Program} {w : World} {K : PySem.W.Frag} {mg : Str → Option Value} {base : Heap} {x w0 a : Str} {cl : List TC} {m : Bool} {st : Stmt} {g : Addr} {fd : FuncData} {Ng : List Str} (F : L2.Fun K x x st g fd) (hm : mg x = some (.ref g)) (hN : Ng[0]? = some a)
    (hb : ∀ (kV doc pm : Value) (an : Option Addr) (cdv ct : Value) (us : List Value), us.length = [a].length → bindArgs (PySem.W.fnOf x x (defArgs st) (defBody st) (defScope st) .none kV doc pm an cdv ct) ⟨us, []⟩ = pure ([a].zip us)) (S : FnScope Ng [a] (defScope st)) (hv : Vis (defScope st) a)
    (hG : ∀ (X : Cx) (q : Str) (cdv : Value), X.prog = P → X.w = w → X.K = K → X.mg = mg → X.base = base → LamX.GivesTo X Ng x (defScope st) g cdv (defBody st) a q (TTried K w0 cl m))
    (h1 : (a == ("__debug__" : Str)) = false := by decide) (h2 : (a == ("__classdict__" : Str)) = false := by decide) : TrG P w K mg base x w0 cl m := by
  obtain ⟨⟨oc, od, kV, doc, pm, an, cdv, ct, osl, e, lk, hc⟩, kp⟩ := F
  subst e
  exact ⟨g, a, Ng, _, _, _, kV, doc, pm, cdv, ct, oc, an, od, osl, hm, kp, lk, hc, .all (hb kV doc pm an cdv ct), S, hN, hv, h1, h2, fun X q => hG X q cdv⟩
section
variable {CT : TTs} {E : XK} {X : Cx} {x w0 : Str} {cl : List TC} {m : Bool} {Xs : List Addr} {c P : Addr} {k : Nat} {params : Arguments} {body : Expr} {scope : Scope} {tl : TED} {p lpos pos : Pos}
theorem de_tried (G : TrG X.prog X.w X.K X.mg X.base x w0 cl m) (hap : XcApart X.K Xs) (hcl : ∀ c ∈ cl, c.1 ∈ Xs) (TB : LamX.TabB X.base X.mg c P) (hcode : X.env.code = .ref c) (hmT : (P, X.env.qual ++ "<lambda>") ∈ CT) (hu : ∀ p ∈ CT, p.1 = P → p.2 = X.env.qual ++ "<lambda>") (hr : Room (k + 2) X.A)
    (hbody : ∀ (A : Around) (outer : List PySem.Env) (s : Shared) (H : Hp) (E : XK) (f c' : Addr), Room k (A.deeper (LamX.lamEnv X scope s.heap.objs.size f c')) → DE CT E (LamX.lamCx X A outer s H E scope f c') body tl)
    (L : LamX.LamS X.env.scope scope) (hg : Gl X x := by rfl) (hdef : defaultsOf params X.env = ([], []) := by rfl)
    (hbind : ∀ (q : Str) (cl : List (Str × Addr)) (pm cv ctv : Value), bindArgs (PySem.W.kla_fn "<lambda>" q params body scope cl pm cv ctv) ⟨[], []⟩ = pure [] := by intros; rfl)
    (hdb : (x == ("__debug__" : Str)) = false := by decide) : DE CT E X (.Call (.Name x p) [.Lambda params body scope lpos] [] pos) (dTried Xs w0 cl m tl) := by
  obtain ⟨g, a, Ng, pg, bg, sg, kV, doc, pm, cdv, ct, oc, an, od, osl, hm, kp, lk, hc, hb, Sg, hN, hv, h1, h2, hG⟩ := G.ex
  refine .of (LamX.pe_lamcall (T := CT) (t := fun E => lift CT E tl) hg hm kp lk hc hb Sg hN hv (hG X _ rfl rfl rfl rfl rfl) TB hcode hmT hu hr L hdef hbind (fun A outer s H E f c' hr => (hbody A outer s H E f c' hr).pe) hdb h1 h2) fun σ H as S ρ Xq Qd Q z q ke => ?_
  refine ⟨z.st.tab, fun H1 eN T1 => ?_⟩
  obtain ⟨st1, on1⟩ := z.st.extN eN T1
  have ke1 := ke.on on1
  refine (⟨as, S, ρ, _, _, ⟨st1, on1.env z.en, ?_⟩, q, ?_⟩ : lift CT (hndH X.K Q cl) tl σ H1 _)
  · rintro as' S' H' C dx fs ts o st' hx rf ⟨hC, hh⟩
    exact hnd_data hap st' hx rf hC (ke1.on o) hcl hh
  · intro as' S' H' d y o st' r hq
    refine ⟨by show 2 ≤ sizeLine; decide, ?_⟩
    refine mkTup_ok (ds := [.t (.v (.str w0)), if m then d else .non]) st' (.cons (show V.str w0 = V.str w0 from rfl) (.cons ?_ .nil)) hq (ke1.on o)
    cases m with
    | true => exact r
    | false => exact rfl
theorem passN {X : Cx} {A : Around} {outer : List PySem.Env} {s : Shared} {H : Hp} {E : XK} {scope : Scope} {f c' : Addr} : Passes (L2.CX X.prog X.w) (LamX.lamCx X A outer s H E scope f c') E := passes_call (takes_of rfl rfl rfl rfl) fun _ _ _ _ h => h
end
@[simp] theorem dTried_e {Xs : List Addr} {w : Str} {cl : List TC} {m : Bool} {tl : TED} {X : XQ} {ρ : Env} {S : Store} {Q} : dTried Xs w cl m tl X ρ S Q = tl (fun e S' => e.1 ∈ Xs ∧ hndD cl e S' Q) ρ S fun d S' => mkTup [.t (.v (.str w)), if m then d else .non] S' Q := rfl
/-! ### a def that makes lambdas: its code object is known -/
section
variable {CT : TTs} {P : Program} {w : World} {K : PySem.W.Frag} {mg : Str → Option Value} {base : Heap}
theorem okX_code {x qual : Str} {st : Stmt} {f : Addr} {fd : FuncData} {N ps : List Str} {k : Nat} {sp : Sp} (F : L2.Fun K x qual st f fd) (S : FnScope N ps (defScope st)) (len : ∀ vs H Q E, sp vs H Q E → vs.length = ps.length)
    (hbody : ∀ (cdv : Value) (A : Around) (outer : List PySem.Env) (s : Shared) (H : Hp) (vs : List V) (Q : VK) (E : XK), fd.code = cdv → Room k (A.deeper (envOfC qual (defScope st) s.heap.objs.size f cdv)) → sp vs H Q E →
      ∃ t, PSs (cxOf (L2.CX P w) P w K mg base N qual (defScope st) f cdv A outer s H E) (defBody st) t ∧ t { nx := fun _ H' => Q .non H', rt := Q } (start N vs) H) : FnOk P w K mg base (L2.CX P w) (k + 1) f fd ps sp := by
  obtain ⟨oc, od, kV, doc, pm, an, cdv, ct, osl, rfl, lk, hcd⟩ := F.ex
  exact fn_of lk hcd S len fun A outer s H vs Q E hr hsp => hbody cdv A outer s H vs Q E rfl hr hsp
theorem okD_code {x qual : Str} {st : Stmt} {f : Addr} {fd : FuncData} {N ps : List Str} {k : Nat} {ft : FT} {tb : TSD} {m : Mode} (F : L2.Fun K x qual st f fd) (S : FnScope N ps (defScope st))
    (hft : ∀ ds S Q E, ClosedS S.length S → ds.length = ps.length → ft ds S Q E → tb (endsOf m S Q E) (startD N.length ds) S)
    (hbody : ∀ (cdv : Value) (A : Around) (outer : List PySem.Env) (s : Shared) (H : Hp) (E : XK), fd.code = cdv → Room k (A.deeper (envOfC qual (defScope st) s.heap.objs.size f cdv)) →
      DSs CT E (cxOf (L2.CX P w) P w K mg base N qual (defScope st) f cdv A outer s H E) (defBody st) tb) : FnOk P w K mg base (L2.CX P w) (k + 1) f fd ps (spD CT ps.length ft) := by
  refine okX_code F S (fun vs H Q E ⟨as, S, ds, Qd, Ed, _, r, hl, _⟩ => by rw [← Paired.length r]; exact hl) (fun cdv A outer s H vs Q E hcd hr h => ?_)
  obtain ⟨as, S0, ds, Qd, Ed, st0, r, hl, q, kq, kx⟩ := h
  exact ⟨_, (hbody cdv A outer s H E hcd hr).ps, okD_pure (m := m) hft st0 r hl q kq kx⟩
end
end DL
set_option Elab.async false
set_option linter.all false
set_option maxRecDepth 100000
set_option maxHeartbeats 2000000
/-! DL32: dicts told by pairs; calls by keywords; code objects of defs -/
namespace DL
open PySem PySem.Spec PyProof.Rows L2
/-! ### dict(list of pairs), a tree -/
def kT : Key → T
  | .inl n => .int n
  | .inr x => .v (.str x)
def putT (kvs : List (Key × T)) (k : Key) (t : T) : List (Key × T) := if (kvs.any fun kv => decide (kv.1 = k)) = true then kvs.map (fun kv => if kv.1 = k then (kv.1, t) else kv) else kvs ++ [(k, t)]
def mergeT (kvs more : List (Key × T)) : List (Key × T) := more.foldl (fun acc kv => putT acc kv.1 kv.2) kvs
section
variable {L : Addr → Prop} {H : Hp}
theorem repK_any {k : Key} : ∀ {kvs : List (Key × T)} {xs : List (Key × V)}, RepK L H kvs xs → (kvs.any fun kv => decide (kv.1 = k)) = xs.any fun kv => decide (kv.1 = k)
  | [], xs, h => by
    have h : xs = [] := h
    subst h; rfl
  | (k', t) :: kvs, xs, ⟨y, ys, e, h1, h2⟩ => by
    subst e
    simp only [List.any_cons]
    rw [repK_any h2]
theorem repK_map {k : Key} {t : T} {y : V} (r : Rep L H t y) : ∀ {kvs : List (Key × T)} {xs : List (Key × V)}, RepK L H kvs xs → RepK L H (kvs.map fun kv => if kv.1 = k then (kv.1, t) else kv) (xs.map fun kv => if kv.1 = k then (kv.1, y) else kv)
  | [], xs, h => by
    have h : xs = [] := h
    subst h; rfl
  | (k', t') :: kvs, xs, ⟨y', ys, e, h1, h2⟩ => by
    subst e
    have ih := repK_map (k := k) r h2
    by_cases hk : k' = k
    · simp only [List.map_cons, if_pos hk]
      exact ⟨y, _, rfl, r, ih⟩
    · simp only [List.map_cons, if_neg hk]
      exact ⟨y', _, rfl, h1, ih⟩
theorem repK_app {k : Key} {t : T} {y : V} (r : Rep L H t y) : ∀ {kvs : List (Key × T)} {xs : List (Key × V)}, RepK L H kvs xs → RepK L H (kvs ++ [(k, t)]) (xs ++ [(k, y)])
  | [], xs, h => by
    have h : xs = [] := h
    subst h; exact ⟨y, [], rfl, r, rfl⟩
  | (k', t') :: kvs, xs, ⟨y', ys, e, h1, h2⟩ => by
    subst e
    exact ⟨y', _, rfl, h1, repK_app r h2⟩
theorem repK_put {k : Key} {t : T} {y : V} {kvs : List (Key × T)} {xs : List (Key × V)} (r : Rep L H t y) (h : RepK L H kvs xs) : RepK L H (putT kvs k t) (putK xs k y) := by
  unfold putT putK
  rw [repK_any h]
  split
  · exact repK_map r h
  · exact repK_app r h
theorem repK_merge : ∀ {more : List (Key × T)} {ms : List (Key × V)} {kvs : List (Key × T)} {xs : List (Key × V)}, RepK L H more ms → RepK L H kvs xs → RepK L H (mergeT kvs more) (mergeK xs ms)
  | [], ms, kvs, xs, h, h2 => by
    have h : ms = [] := h
    subst h; exact h2
  | (k, t) :: more, ms, kvs, xs, ⟨y, ys, e, h1, h2⟩, h3 => by
    subst e
    exact repK_merge (kvs := putT kvs k t) (xs := putK xs k y) h2 (repK_put h1 h3)
theorem rep_key {k : Key} {y : V} (h : Rep L H (kT k) y) : y = kV k := by
  cases k <;> exact h
/-- a list of pairs, read -/
theorem pairs_read {K : PySem.W.Frag} : ∀ {kvs : List (Key × T)} {ys : List V}, RepL L H (kvs.map fun p => .tup [kT p.1, p.2]) ys → ∃ (ps : List Addr) (ms : List (Key × V)), ys = ps.map V.ref ∧ Paired (fun p kv => SqT K H p [kV kv.1, kv.2]) ps ms ∧ RepK L H kvs ms
  | [], ys, h => by
    have h : ys = [] := h
    subst h; exact ⟨[], [], rfl, .nil, rfl⟩
  | (k, t) :: kvs, ys, ⟨y, r, e, ⟨a, xs, e2, _, ha, y1, r1, e3, h1, y2, r2, e4, h2, h3⟩, h⟩ => by
    obtain ⟨ps, ms, e5, hp, hr⟩ := pairs_read (K := K) h
    have h3 : r2 = [] := h3
    subst e e2 e3 e4 e5 h3
    have hk := rep_key h1
    subst hk
    exact ⟨a :: ps, (k, y2) :: ms, rfl, .cons (.of ha) hp, y2, ms, rfl, h2, hr⟩
end
def cDict : RAD := fun ds S Q => ∃ kvs : List (Key × T), ds = [.t (.lst (kvs.map fun p => .tup [kT p.1, p.2]))] ∧ Q (.t (.dct (mergeT [] kvs))) S
theorem new_dct {CT : TTs} {as : List Addr} {S : Store} {H : Hp} {kvs : List (Key × T)} {xs : List (Key × V)} {p : Addr} {Qd : D → Store → Prop} {Q : VK} (st : StOk CT as S H) (r : RepK (Live as S) H kvs xs) (k : KE CT as S H Qd Q) (hp : H p = none) (q : Qd (.t (.dct kvs)) S) : Q (.ref p) (upd H p (.dK xs)) := by
  obtain ⟨s1, o1⟩ := st.new (o := .dK xs) hp
  exact k _ _ _ (.t (.dct kvs)) _ o1 s1 ⟨p, xs, rfl, fun l => st.live_there l hp, upd_same, RepK.ext o1.ext kvs xs r⟩ q
theorem br_dict {CT : TTs} {K : PySem.W.Frag} : BrA CT (fun xs H Q => ∃ (a : Addr) (ps : List Addr) (kvs : List (Key × V)), xs = [.ref a] ∧ SqL K H a (ps.map V.ref) ∧ Paired (fun p kv => SqT K H p [kV kv.1, kv.2]) ps kvs ∧ ∀ p, H p = none → Q (.ref p) (upd H p (.dK (mergeK [] kvs)))) cDict := by
  rintro as S H xs ds Qd Q st r ⟨kvs, rfl, q⟩ k
  cases r with
  | cons r1 r2 =>
    cases r2
    obtain ⟨a, ys, rfl, _, ha, hl⟩ := r1
    obtain ⟨ps, ms, rfl, hp, hr⟩ := pairs_read (K := K) hl
    exact ⟨a, ps, ms, rfl, .of ha, hp, fun p hp => new_dct st (repK_merge (kvs := []) (xs := []) hr rfl) k hp q⟩
/-! ### {k: v, ..} of constants, a tree -/
def dDispC (kvs : List (Key × T)) : TED := fun _ _ S Q => Q (.t (.dct (mergeT [] kvs))) S
def cTs : List (Key × V) → List (TE × TE) := List.map fun p => (tC (kV p.1), tC p.2)
theorem pairs_c {σ : L2.St} {Q : List (V × V) → Hp → Prop} : ∀ {kvs : List (Key × V)} {H : Hp}, Q (kvs.map fun p => (kV p.1, p.2)) H → tPairs (cTs kvs) σ H Q
  | [], H, q => q
  | p :: kvs, H, q => pairs_c (kvs := kvs) (Q := fun ps H3 => Q ((kV p.1, p.2) :: ps) H3) q
theorem repK_v {L : Addr → Prop} {H : Hp} : ∀ {kvs : List (Key × V)}, RepK L H (kvs.map fun p => (p.1, T.v p.2)) kvs
  | [] => rfl
  | p :: kvs => ⟨p.2, kvs, rfl, rfl, repK_v⟩
theorem de_dispC {CT : TTs} {E : XK} {X : Cx} {pos : Pos} {keys : List (Option Expr)} {values : List Expr} {kvs : List (Key × V)} (h : PPs X pos keys values (cTs kvs)) (hall : keys.all (·.isSome) = true) (hl : keys.length = values.length) (h0 : keys ≠ []) (h15 : keys.length ≤ 15) (hk : kvs.length ≤ 15) :
    DE CT E X (.Dict keys values pos) (dDispC (kvs.map fun p => (p.1, .v p.2))) :=
  .of (pe_disp h hall hl h0 h15) fun σ H as S ρ Xq Qd Q z q k => fun p hp => by
    refine pairs_c ⟨upd_same, kvs, rfl, hk, ?_⟩
    rw [upd_twice]
    exact new_dct z.st (repK_merge (kvs := []) (xs := []) repK_v rfl) k hp q
@[simp] theorem dDispC_e {kvs : List (Key × T)} {X : XQ} {ρ : Env} {S : Store} {Q} : dDispC kvs X ρ S Q = Q (.t (.dct (mergeT [] kvs))) S := rfl
/-! ### f(k = v, ..) -/
structure FnKG (CT : TTs) (P : Program) (w : World) (K : PySem.W.Frag) (mg : Str → Option Value) (base : Heap) (k : Nat) (x : Str) (ps : List Str) (ft : FT) (ks : List Str) (pm : List Nat) : Prop where
  ex : ∃ f fd, FnOk P w K mg base (L2.CX P w) k f fd ps (spD CT ps.length ft) ∧ KBn K fd ps 0 ks (fun us ws => us ++ permL pm ws) (fun vs zs => vs ++ permL pm zs) ∧ mg x = some (.ref f) ∧ PySem.W.keepIn K (.ref f) = true
section
variable {CT : TTs} {P : Program} {w : World} {K : PySem.W.Frag} {mg : Str → Option Value} {base : Heap} {k : Nat} {f : Addr} {fd : FuncData} {x qual : Str} {st : Stmt} {ps : List Str} {ft : FT}
theorem FnKG.mk' {ks : List Str} {pm : List Nat} (F : L2.Fun K x qual st f fd) (h : FnOk P w K mg base (L2.CX P w) k f fd ps (spD CT ps.length ft)) (hm : mg x = some (.ref f))
    (hb : ∀ (kV doc pm' : Value) (an : Option Addr) (cdv ct : Value) (us ws : List Value), us.length = 0 → ws.length = ks.length → bindArgs (PySem.W.fnOf x qual (defArgs st) (defBody st) (defScope st) .none kV doc pm' an cdv ct) ⟨us, ks.zip ws⟩ = pure (ps.zip (us ++ permL pm ws))) : FnKG CT P w K mg base k x ps ft ks pm :=
  ⟨f, fd, h, kbn_of F hb, hm, F.kp⟩
theorem fun_code {d : He.DefD} (F : FunD K d.name d.qual d.params d.body d.scope (d.dvs K) (d.kws K) (He.fAd K d.at_) fd) : fd.code = .ref (He.cT K d.at_).1 := by
  obtain ⟨⟨oc, od, dV, kV, doc, pm, an, cdv, ct, osl, e, lk, hc, _, _⟩, _⟩ := F
  subst e
  obtain ⟨c, hc2⟩ := He.codeIn_ref hc
  show cdv = .ref (He.codeOf K d.at_)
  rw [He.codeOf_eq lk (c := c) hc2, hc2]
end
section
variable {CT : TTs} {E : XK} {X : Cx} {x : Str} {p pos : Pos}
theorem de_GK {k : Nat} {ps ks : List Str} {ft : FT} {pm : List Nat} {kws : List Keyword} {t : TAD} (G : FnKG CT X.prog X.w X.K X.mg X.base k x ps ft ks pm) (hr : Room k X.A) (hx : Passes (L2.CX X.prog X.w) X E) (ha : DK CT E X kws t) (hg : Gl X x := by rfl)
    (hall : (backToKw pos (keywordEach kws X.env)).all (·.1.isSome) = true := by rfl) (hks : (backToKw pos (keywordEach kws X.env)).filterMap (·.1) = ks := by rfl) (hdb : (x == ("__debug__" : Str)) = false := by decide)
    (hpl : ((backTo pos (starEach [] X.env)).any (·.1) || (backToKw pos (keywordEach kws X.env)).any (·.1.isNone)) = false := by rfl) : DE CT E X (.Call (.Name x p) [] kws pos) (fun Xq ρ S Q => t Xq ρ S fun ds S1 => ds.length = ks.length ∧ (permL pm ds).length = ps.length ∧ ft (permL pm ds) S1 Q fun e => Xq e S1) := by
  obtain ⟨f, fd, F, hb, hm, hk⟩ := G.ex
  refine ⟨⟨fun pins s σ H Q I ⟨as, S, ρ, Xq, Qd, z, q, ke⟩ => ?_⟩⟩
  refine wpAny_Call_Name_kw (ld_glob I hg hm ?_ hdb)
  refine PySem.W.callWith_KW0 (h₀ := X.base) I.ok.mod.kin hk hall ?_ hpl
  refine thn (ha.pk.run pos pins s σ H (fun zs H2 => zs.length = ks.length ∧ spD CT ps.length ft ([] ++ permL pm zs) H2 Q E) I ?_) fun ws s2 ⟨zs, H2, I2, rz, l2, q2⟩ => ⟨I2.kIn, ?_⟩
  · exact ⟨as, S, ρ, Xq, _, z, q, fun as1 S1 H1 ds ys o1 s1 r ⟨h1, h2, h3⟩ => ⟨by rw [← Paired.length r]; exact h1, spD_of s1 (permL_rep r pm) h2 h3 (ke.on o1) (z.ex.on o1)⟩⟩
  · rw [hks]
    have r2 := hb.rel (vs := []) (us := []) .nil rz
    refine wpAny_call (codeAny_mono (F.run X.A X.stack s2 H2 ⟨[], ks.zip ws⟩ _ _ Q E hr I2.env0 (hb.to s2 [] ws I2.kIn rfl (by rw [← rz.length]; exact l2)) r2 q2) fun r s' hq => ?_)
    cases r with
    | error e => exact hx pins σ H2 s2 e s' I2 hq
    | ok fl =>
      cases fl with
      | ret u => exact I2.after hq
      | next => exact False.elim hq
      | brk => exact False.elim hq
      | cont => exact False.elim hq
end
def dCallK (n m : Nat) (ft : FT) (pm : List Nat) (t : TAD) : TED := fun X ρ S Q => t X ρ S fun ds S1 => ds.length = m ∧ (permL pm ds).length = n ∧ ft (permL pm ds) S1 Q fun e => X e S1
@[simp] theorem dCallK_e {n m : Nat} {ft : FT} {pm : List Nat} {t : TAD} {X : XQ} {ρ : Env} {S : Store} {Q} : dCallK n m ft pm t X ρ S Q = t X ρ S fun ds S1 => ds.length = m ∧ (permL pm ds).length = n ∧ ft (permL pm ds) S1 Q fun e => X e S1 := rfl
theorem passF {X : Cx} : Passes (L2.CX X.prog X.w) X (fun _ _ _ => False) := fun _ _ _ _ _ _ _ h => (cx_none h).elim
def apartB (K : PySem.W.Frag) (Xs : List Addr) : Bool := Xs.all fun C => Xs.all fun C' => decide (PySem.W.exmOne K (.ref C) (.ref C') = some (decide (C = C')))
theorem apartB_ok {K : PySem.W.Frag} {Xs : List Addr} (h : apartB K Xs = true) : XcApart K Xs := fun C hC C' hC' => of_decide_eq_true (List.all_eq_true.mp (List.all_eq_true.mp h C hC) C' hC')
/-! ### tables apart -/
theorem names_of {CT : TTs} (h : (CT.map (·.1)).Nodup) {P : Addr} {q : Str} (hm : (P, q) ∈ CT) : ∀ p ∈ CT, p.1 = P → p.2 = q := by
  induction CT with
  | nil => cases hm
  | cons c CT ih =>
    rw [List.map_cons, List.nodup_cons] at h
    intro p hp e
    rcases List.mem_cons.mp hm with rfl | hm2
    · rcases List.mem_cons.mp hp with rfl | hp
      · rfl
      · exact absurd (List.mem_map.mpr ⟨p, hp, e⟩) h.1
    · rcases List.mem_cons.mp hp with rfl | hp
      · exact absurd (List.mem_map.mpr ⟨(P, q), hm2, e.symm⟩ : p.1 ∈ CT.map (·.1)) h.1
      · exact ih h.2 hm2 p hp e
end DL
set_option Elab.async false
set_option linter.all false
set_option maxRecDepth 100000
set_option maxHeartbeats 2000000
/-! DL33: list(d.items()) of a told dict -/
namespace DL
open PySem PySem.Spec PyProof.Rows L2
def dListIt (t : TED) : TED := fun X ρ S Q => t X ρ S fun d S1 => ∃ kvs : List (Key × T), d = .t (.dct kvs) ∧ Q (.t (.lst (kvs.map fun p => .tup [kT p.1, p.2]))) S1
@[simp] theorem dListIt_e {t : TED} {X : XQ} {ρ : Env} {S : Store} {Q} : dListIt t X ρ S Q = t X ρ S fun d S1 => ∃ kvs : List (Key × T), d = .t (.dct kvs) ∧ Q (.t (.lst (kvs.map fun p => .tup [kT p.1, p.2]))) S1 := rfl
theorem rep_kT {L : Addr → Prop} {H : Hp} : ∀ {k : Key}, Rep L H (kT k) (kV k)
  | .inl n => rfl
  | .inr x => rfl
theorem repL_pairs {L : Addr → Prop} {H' : Hp} : ∀ {kvs : List (Key × T)} {xs : List (Key × V)} {us : List Addr}, (∀ t ∈ us, ¬ L t) → RepK L H' kvs xs →
    Paired (fun (t : Addr) (q : Key × V) => H' t = some (.tup [kV q.1, q.2])) us xs → RepL L H' (kvs.map fun p => .tup [kT p.1, p.2]) (us.map V.ref)
  | [], xs, us, hn, r, p => by
    have r : xs = [] := r
    subst r
    cases p
    rfl
  | (k, t) :: kvs, xs, us, hn, r, p => by
    obtain ⟨y, ys, rfl, h1, h2⟩ := r
    cases p with
    | cons p1 p2 => exact ⟨_, _, rfl, ⟨_, _, rfl, hn _ List.mem_cons_self, p1, ⟨_, _, rfl, rep_kT, ⟨_, _, rfl, h1, rfl⟩⟩⟩, repL_pairs (fun t ht => hn t (List.mem_cons_of_mem _ ht)) h2 p2⟩
section
variable {CT : TTs} {E : XK} {X : Cx} {p apos cpos pos : Pos}
theorem de_listIt {a : Expr} {t : TED} (hc : X.calm = true) (hm : X.mg "list" = none) (ha : DE CT E X a t) (hg : Gl X "list" := by rfl) (hbase : attributeBase a "items" X.env (eval a X.env) = eval a X.env := by rfl) (hline : (apos.endLine == cpos.line) = true := by rfl)
    (hs : starEach [.Call (.Attribute a "items" apos) [] [] cpos] X.env = (false, eval (.Call (.Attribute a "items" apos) [] [] cpos) X.env) :: starEach [] X.env := by rfl) :
    DE CT E X (.Call (.Name "list" p) [.Call (.Attribute a "items" apos) [] [] cpos] [] pos) (dListIt t) :=
  .of (LiI.pe_listItems hc ha.pe hg hm boot_list hbase hline hs) fun σ H as S ρ Xq Qd Q z q k => ⟨as, S, ρ, Xq, _, z, q, fun as1 S1 H1 d x o1 s1 r ⟨kvs, hd, q1⟩ => by
    subst hd
    obtain ⟨a, xs, rfl, hn, hH, hr⟩ := r
    refine ⟨a, xs, rfl, hH, fun H' p us k1 k2 k3 k4 k5 k6 => ?_⟩
    obtain ⟨st', on'⟩ := s1.grow k1
    refine k as1 S1 H' (.t (.lst _)) (.ref p) (o1.trans on') st' ?_ q1
    exact ⟨p, us.map V.ref, rfl, fun l => s1.live_there l k2, k5, repL_pairs (fun t ht l => s1.live_there l (k3 t ht)) (RepK.ext on'.ext _ _ hr) k6⟩⟩
end
end DL
set_option Elab.async false
set_option linter.all false
set_option maxRecDepth 100000
set_option maxHeartbeats 2000000
/-! DL34: a store of the stream and cells that refer to earlier ones alone; trees of cells -/
namespace DL
open PySem PySem.Spec PyProof.Rows L2
/-- cells that refer to earlier ones alone -/
def Jk (R : Store) : Prop := ∀ i c, R[i]? = some c → c.plain = true ∧ ∀ d ∈ dsOf c, (∃ x, d = .t x) ∨ ∃ j, d = .m j ∧ 2 ≤ j ∧ j < i + 2
theorem allFz_0 {b : Nat} : AllFz (st b []) := by
  intro i c e
  match i with
  | 0 => cases e; exact .inl rfl
  | 1 => cases e; exact .inl rfl
  | i + 2 => cases e
theorem closed_0 {b : Nat} : ClosedS 2 (st b []) := by
  intro c hc
  rcases List.mem_cons.mp hc with rfl | hc
  · exact True.intro
  · rcases List.mem_cons.mp hc with rfl | hc
    · show 0 < 2; decide
    · cases hc
theorem Jk.nil : Jk [] := fun i c e => by simp at e
theorem Jk.kr {R : Store} (h : Jk R) (b : Nat) : KR (st b []) (fun i => min i (R.length + 2)) (st b R) where
  pre := rfl
  len := by simp
  ok := fun i c hi e => by
    have hi2 : 2 ≤ i := by simpa using hi
    obtain ⟨k, rfl⟩ : ∃ k, i = k + 2 := ⟨i - 2, by omega⟩
    rw [st_get] at e
    have hk := (List.getElem?_eq_some_iff.mp e).1
    obtain ⟨h1, h2⟩ := h k c e
    refine ⟨h1, fun d hd => ?_⟩
    rcases h2 d hd with h3 | ⟨j, rfl, h4, h5⟩
    · exact .inl h3
    · exact .inr ⟨j, rfl, by simpa using h4, by simp; omega, by show min j _ < min _ _; omega⟩
theorem Jk.closed {R : Store} (h : Jk R) {b : Nat} : ClosedS (R.length + 2) (st b R) := (h.kr b).closed closed_0
theorem Jk.closed' {R : Store} (h : Jk R) {b : Nat} : ClosedS (st b R).length (st b R) := h.closed
theorem Jk.allFz {R : Store} (h : Jk R) {b : Nat} : AllFz (st b R) := (h.kr b).allFz allFz_0 fun i => by show min i _ ≤ _; simp; omega
theorem Jk.app {R R' : Store} (h : Jk R) (h2 : ∀ i c, R'[i]? = some c → c.plain = true ∧ ∀ d ∈ dsOf c, (∃ x, d = .t x) ∨ ∃ j, d = .m j ∧ 2 ≤ j ∧ j < R.length + i + 2) : Jk (R ++ R') := fun i c e => by
  rcases Nat.lt_or_ge i R.length with hl | hl
  · rw [List.getElem?_append_left hl] at e; exact h i c e
  · rw [List.getElem?_append_right hl] at e
    have := h2 _ c e
    rwa [show R.length + (i - R.length) = i by omega] at this
theorem Jk.one {R : Store} {c : Cell} (h : Jk R) (hp : c.plain = true) (hc : ∀ d ∈ dsOf c, (∃ x, d = .t x) ∨ ∃ j, d = .m j ∧ 2 ≤ j ∧ j < R.length + 2) : Jk (R ++ [c]) := h.app fun i c' e => by
  cases i with
  | zero => have e : c = c' := by simpa using e
            subst e; exact ⟨hp, fun d hd => hc d hd⟩
  | succ i => simp at e
theorem Jk.ins0 {R : Store} {C : Addr} (h : Jk R) : Jk (R ++ [.ins C []]) := h.one rfl fun d hd => by simp [dsOf] at hd
theorem Jk.insT {R : Store} {C : Addr} {fs : List (Str × T)} (h : Jk R) : Jk (R ++ [.ins C (fs.map fun p => (p.1, .t p.2))]) := h.one rfl fun d hd => by
  obtain ⟨p, hp, rfl⟩ := List.mem_map.mp (show d ∈ (fs.map fun p => (p.1, D.t p.2)).map (·.2) from hd)
  obtain ⟨q, _, rfl⟩ := List.mem_map.mp hp
  exact .inl ⟨_, rfl⟩
theorem Jk.lst {R : Store} {ts : List T} (h : Jk R) : Jk (R ++ [.lst (ts.map .t)]) := h.one rfl fun d hd => by
  have hd : d ∈ ts.map D.t := hd
  obtain ⟨t, _, rfl⟩ := List.mem_map.mp hd
  exact .inl ⟨_, rfl⟩
theorem Jk.set {R : Store} {i : Nat} {c : Cell} (h : Jk R) (hp : c.plain = true) (hc : ∀ d ∈ dsOf c, (∃ x, d = .t x) ∨ ∃ j, d = .m j ∧ 2 ≤ j ∧ j < i + 2) : Jk (R.set i c) := fun k c' e => by
  by_cases hik : i = k
  · subst hik
    by_cases hl : i < R.length
    · rw [List.getElem?_set_self hl] at e; cases e; exact ⟨hp, hc⟩
    · rw [List.getElem?_eq_none (by simp; omega)] at e; cases e
  · rw [List.getElem?_set_ne hik] at e; exact h k c' e
theorem Jk.setLst {R : Store} {i : Nat} {ts : List T} (h : Jk R) : Jk (R.set i (.lst (ts.map .t))) := h.set rfl fun d hd => by
  have hd : d ∈ ts.map D.t := hd
  obtain ⟨t, _, rfl⟩ := List.mem_map.mp hd
  exact .inl ⟨_, rfl⟩
/-! ### trees of cells -/
theorem tree_tup2 {S : Store} {i j : Nat} {x : T} {ts : List T} (h : S[i]? = some (.tup [.t x, .m j])) (h2 : S[j]? = some (.lst (ts.map .t))) : D.tree S (.m i) = some (.tup [x, .lst ts]) := by
  have hl := (List.getElem?_eq_some_iff.mp h).1
  obtain ⟨n, hn⟩ : ∃ n, S.length = n + 1 := ⟨S.length - 1, by omega⟩
  show frz 0 S (S.length + 1) (.m i) = _
  rw [hn]
  unfold frz
  rw [h]
  have e : frz 0 S (n + 1) (.m j) = some (.lst ts) := by
    unfold frz
    rw [h2]
    simp [frzL_t (asTs_map ts)]
  simp only [Nat.zero_le, if_true]
  unfold frzL
  rw [show frz 0 S (n + 1) (.t x) = some x from by unfold frz; rfl]
  unfold frzL
  rw [e]
  unfold frzL
  rfl
/-- a tuple told: trees alone, a tree -/
theorem mkTup_t {ts : List T} {S : Store} {Q : D → Store → Prop} (q : Q (.t (.tup ts)) S) : mkTup (ts.map .t) S Q := .inl ⟨ts, asTs_map ts, q⟩
/-! ### what was raised -/
theorem exEnd {m : Mode} {S : Store} {Q : D → Store → Prop} {E : Ex → Prop} {e : Ex} (h : ∀ p ∈ e.2, refD S.length p.2) (q : E e) : (endsOf m S Q E).ex e S := ⟨List.take_length, h, q⟩
theorem exEnd1 {m : Mode} {S : Store} {Q : D → Store → Prop} {E : Ex → Prop} {C : Addr} {f : Str} {t : T} (q : E (C, [(f, .t t)])) : (endsOf m S Q E).ex (C, [(f, .t t)]) S := exEnd (fun p hp => by
  have : p = (f, .t t) := by simpa using hp
  subst this; exact trivial) q
/-! ### things told alike: data, dicts too -/
mutual
def sd : Nat → T → Bool
  | _, .v y => dat 0 (.v y)
  | n + 1, .lst ts => decide (ts.length ≤ 100000) && sds n ts
  | n + 1, .tup ts => decide (ts.length ≤ 100000) && sds n ts
  | n + 3, .dct kvs => decide (kvs.length ≤ 100000) && sdk n kvs
  | _, _ => false
def sds : Nat → List T → Bool
  | _, [] => true
  | n, t :: ts => sd n t && sds n ts
def sdk : Nat → List (Key × T) → Bool
  | _, [] => true
  | n, (k, t) :: kvs => dat 0 (kT k) && sd n t && sdk n kvs
end
theorem sds_all {n : Nat} : ∀ {ts : List T}, sds n ts = true ↔ ∀ t ∈ ts, sd n t = true
  | [] => by simp [sds]
  | t :: ts => by simp [sds, sds_all (ts := ts)]
theorem sdk_all {n : Nat} : ∀ {ts : List (Key × T)}, sdk n ts = true ↔ ∀ p ∈ ts, dat 0 (kT p.1) = true ∧ sd n p.2 = true
  | [] => by simp [sdk]
  | (k, t) :: ts => by simp [sdk, sdk_all (ts := ts), and_assoc]
theorem sd_v {n : Nat} {y : V} : sd n (.v y) = dat 0 (.v y) := by cases n <;> simp [sd]
theorem sd_lst {n : Nat} {ts : List T} : sd (n + 1) (.lst ts) = true ↔ ts.length ≤ 100000 ∧ ∀ t ∈ ts, sd n t = true := by simp [sd, sds_all]
theorem sd_tup {n : Nat} {ts : List T} : sd (n + 1) (.tup ts) = true ↔ ts.length ≤ 100000 ∧ ∀ t ∈ ts, sd n t = true := by simp [sd, sds_all]
theorem sd_dct {n : Nat} {ts : List (Key × T)} : sd (n + 3) (.dct ts) = true ↔ ts.length ≤ 100000 ∧ ∀ p ∈ ts, dat 0 (kT p.1) = true ∧ sd n p.2 = true := by simp [sd, sdk_all]
theorem dat0_v {n : Nat} {y : V} (h : dat 0 (.v y) = true) : dat n (.v y) = true := by cases y <;> simp_all [dat]
theorem kT_v {k : Key} : ∃ y, kT k = .v y := by cases k <;> exact ⟨_, rfl⟩
/-- cases of such a thing -/
theorem sd_em {n : Nat} {x : T} (h : sd n x = true) : (∃ y, x = .v y ∧ dat 0 (.v y) = true) ∨ (∃ m ts, n = m + 1 ∧ (x = .lst ts ∨ x = .tup ts) ∧ ts.length ≤ 100000 ∧ ∀ t ∈ ts, sd m t = true) ∨ ∃ m kvs, n = m + 3 ∧ x = .dct kvs ∧ kvs.length ≤ 100000 ∧ ∀ p ∈ kvs, dat 0 (kT p.1) = true ∧ sd m p.2 = true := by
  cases x with
  | v y => exact .inl ⟨y, rfl, by rw [sd_v] at h; exact h⟩
  | lst ts =>
    cases n with
    | zero => simp [sd] at h
    | succ m => exact .inr (.inl ⟨m, ts, rfl, .inl rfl, (sd_lst.mp h).1, (sd_lst.mp h).2⟩)
  | tup ts =>
    cases n with
    | zero => simp [sd] at h
    | succ m => exact .inr (.inl ⟨m, ts, rfl, .inr rfl, (sd_tup.mp h).1, (sd_tup.mp h).2⟩)
  | dct kvs =>
    match n with
    | 0 => simp [sd] at h
    | 1 => simp [sd] at h
    | 2 => simp [sd] at h
    | m + 3 => exact .inr (.inr ⟨m, kvs, rfl, rfl, (sd_dct.mp h).1, (sd_dct.mp h).2⟩)
  | ins C fs => simp [sd] at h
/-- a dict's pairs -/
theorem sd_items {m : Nat} {kvs : List (Key × T)} (hl : kvs.length ≤ 100000) (h : ∀ p ∈ kvs, dat 0 (kT p.1) = true ∧ sd m p.2 = true) : sd (m + 2) (.lst (kvs.map fun p => .tup [kT p.1, p.2])) = true := by
  refine sd_lst.mpr ⟨by simpa using hl, fun t ht => ?_⟩
  obtain ⟨p, hp, rfl⟩ := List.mem_map.mp ht
  obtain ⟨h1, h2⟩ := h p hp
  refine sd_tup.mpr ⟨by simp, fun t ht => ?_⟩
  simp at ht
  rcases ht with rfl | rfl
  · obtain ⟨y, hy⟩ := kT_v (k := p.1)
    rw [hy] at h1 ⊢
    rw [sd_v]; exact h1
  · exact h2
theorem okKs_all {Cs : List Addr} : ∀ {kvs : List (Key × T)}, okKs Cs kvs = true ↔ ∀ p ∈ kvs, okT Cs p.2 = true
  | [] => by simp [okKs]
  | (k, t) :: kvs => by simp [okKs, okKs_all (kvs := kvs)]
theorem sd_ok1 {Cs : List Addr} {n : Nat} {x : T} (h : sd n x = true) : ok1 Cs x := by
  rcases sd_em h with ⟨y, rfl, hy⟩ | ⟨m, ts, _, h1, _⟩ | ⟨m, kvs, _, rfl, _⟩
  · exact okT_ok1 (dat_ok 0 _ hy)
  · rcases h1 with rfl | rfl
    · exact ⟨_, rfl, fun C e => by cases e⟩
    · exact ⟨_, rfl, fun C e => by cases e⟩
  · exact ⟨_, rfl, fun C e => by cases e⟩
/-! ### displays of trees -/
theorem le_100000 : (100000 : Nat) ≤ sizeLine := by decide
def Is (te : TED) (x : T) (ρ : Env) : Prop := ∀ (X : XQ) (S : Store) (Q : D → Store → Prop), Q (.t x) S → te X ρ S Q
def IsL (ta : TAD) (xs : List T) (ρ : Env) : Prop := ∀ (X : XQ) (S : Store) (Q : List D → Store → Prop), Q (xs.map .t) S → ta X ρ S Q
section
variable {ρ : Env} {x : T} {xs : List T} {te : TED} {ta : TAD}
theorem is_c {v : V} : Is (dC v) (.v v) ρ := fun X S Q q => q
theorem is_v {i : Nat} (h : ρ[i]? = some (some (.t x))) : Is (dVar i) x ρ := fun X S Q q => by rw [dVar_e]; exact ⟨_, h, q⟩
theorem isL_nil : IsL dNil [] ρ := fun X S Q q => q
theorem isL_cons (h : Is te x ρ) (h2 : IsL ta xs ρ) : IsL (dCons te ta) (x :: xs) ρ := fun X S Q q => h X S _ (h2 X S _ q)
theorem is_tup (h : IsL ta xs ρ) (hl : xs.length ≤ 100000) : Is (dTup ta) (.tup xs) ρ := fun X S Q q => h X S _ ⟨by rw [List.length_map]; exact Nat.le_trans hl le_100000, _, asTs_map xs, q⟩
theorem is_lst (h : IsL ta xs ρ) (hl : xs.length ≤ 100000) : Is (dLst ta) (.lst xs) ρ := fun X S Q q => h X S _ ⟨by rw [List.length_map]; exact Nat.le_trans hl le_100000, _, asTs_map xs, q⟩
theorem is_neg {i : Int} (h : Is te (.int i) ρ) : Is (dUn (uI fun i => .int (-i)) te) (.int (-i)) ρ := fun X S Q q => h X S _ (by simpa using q)
theorem is_dct0 : Is dDct0 (.dct []) ρ := fun X S Q q => q
theorem is_dict {kvs : List (Key × T)} (h : IsL ta [.lst (kvs.map fun p => .tup [kT p.1, p.2])] ρ) : Is (dCB cDict ta) (.dct (mergeT [] kvs)) ρ := fun X S Q q => h X S _ ⟨kvs, rfl, q⟩
theorem is_lstM (h : IsL ta xs ρ) (hl : xs.length ≤ 100000) {X : XQ} {S : Store} {Q : D → Store → Prop} (q : Q (.m S.length) (S ++ [.lst (xs.map .t)])) : dLstM ta X ρ S Q := h X S _ ⟨by rw [List.length_map]; exact Nat.le_trans hl le_100000, q⟩
end
/-! ### one step at a time (where simp would make one great step) -/
section
variable {De : DEnds} {X : XQ} {ρ : Env} {S : Store} {t u : TSD} {e o : TED} {g : TGD} {ta : TAD}
theorem sq (q : t { De with nx := u De } ρ S) : sSeq t u De ρ S := q
theorem asg (q : e De.ex ρ S fun d S1 => g d De.ex ρ S1 De.nx) : sAsg e g De ρ S := q
theorem drp (q : e De.ex ρ S fun _ S1 => De.nx ρ S1) : sDrop e De ρ S := q
theorem rts (q : e De.ex ρ S De.rt) : sRet e De ρ S := q
theorem gv {i : Nat} {d : D} {Q : Env → Store → Prop} (q : Q (ρ.set i (some d)) S) : gVar i d X ρ S Q := q
theorem dvr {i : Nat} {d : D} {Q : D → Store → Prop} (h : ρ[i]? = some (some d)) (q : Q d S) : dVar i X ρ S Q := ⟨d, h, q⟩
theorem bm {ty : D → Store → Prop} {r : D → RAD} {Q : D → Store → Prop} (q : o X ρ S fun d S1 => ty d S1 ∧ ta X ρ S1 fun ds S2 => r d ds S2 Q) : dBM ty r o ta X ρ S Q := q
theorem dop {r : R2D} {a b : TED} {Q : D → Store → Prop} (q : a X ρ S fun x S1 => b X ρ S1 fun y S2 => r x y S2 Q) : dOp r a b X ρ S Q := q
theorem ct {xs : List T} {te : TED} {x : T} {Q : D → Store → Prop} (h : Is te x ρ) (q : Q (.t x) S) : te X ρ S Q := h X S Q q
theorem ctL {xs : List T} {Q : List D → Store → Prop} (h : IsL ta xs ρ) (q : Q (xs.map .t) S) : ta X ρ S Q := h X S Q q
end
end DL
set_option Elab.async false
set_option linter.all false
set_option maxRecDepth 100000
set_option maxHeartbeats 2000000
/-! DL35: expressions that are trees, tests that are known, whatever the store -/
namespace DL
open PySem PySem.Spec PyProof.Rows L2
def IsT (tt : TTD) (b : Bool) (ρ : Env) : Prop := ∀ (X : XQ) (S : Store) (Q : Bool → Store → Prop), Q b S → tt X ρ S Q
section
variable {ρ : Env} {a b c : TED} {x y : T} {xs ys : List T} {i j : Int} {t u : TTD} {p q : Bool}
theorem is_op {r : R2D} {z : T} (ha : Is a x ρ) (hb : Is b y ρ) (h : ∀ S (Q : D → Store → Prop), Q (.t z) S → r (.t x) (.t y) S Q) : Is (dOp r a b) z ρ := fun X S Q q => ha X S _ (hb X S _ (h S Q q))
theorem is_add (ha : Is a (.int i) ρ) (hb : Is b (.int j) ρ) : Is (dOp oAdd a b) (.int (i + j)) ρ := is_op ha hb fun S Q q => by rw [oAdd_ii]; exact q
theorem is_cat (ha : Is a (.lst xs) ρ) (hb : Is b (.lst ys) ρ) (hl : xs.length + ys.length ≤ 100000) : Is (dOp oAdd a b) (.lst (xs ++ ys)) ρ := is_op ha hb fun S Q q => by rw [oAdd_ll]; exact ⟨Nat.le_trans hl le_100000, q⟩
theorem is_i0 {g : Int → Int → V} (ha : Is a (.int i) ρ) (hb : Is b (.int j) ρ) : Is (dOp (oI0 g) a b) (.v (g i j)) ρ := is_op ha hb fun S Q q => ⟨i, j, rfl, rfl, q⟩
theorem is_i {C : Int → Int → Prop} {g : Int → Int → V} (ha : Is a (.int i) ρ) (hb : Is b (.int j) ρ) (hc : C i j) : Is (dOp (oI C g) a b) (.v (g i j)) ρ := is_op ha hb fun S Q q => ⟨i, j, rfl, rfl, hc, q⟩
theorem is_eq (ha : Is a x ρ) (hb : Is b y ρ) (hx : dat 64 x = true) (hy : dat 64 y = true) : Is (dOp oEq a b) (.bl (eqT x y)) ρ := is_op ha hb fun S Q q => by rw [oEq_of tree_t tree_t hx hy]; exact q
theorem is_ne (ha : Is a x ρ) (hb : Is b y ρ) (hx : dat 64 x = true) (hy : dat 64 y = true) : Is (dOp oNe a b) (.bl (!eqT x y)) ρ := is_op ha hb fun S Q q => by rw [oNe_of tree_t tree_t hx hy]; exact q
theorem is_in {neg : Bool} (ha : Is a x ρ) (hb : Is b (.lst ys) ρ) (hx : dat 64 x = true) (hy : dat 64 (.lst ys) = true) : Is (dOp (oIn neg) a b) (.bl (if neg then !(ys.any fun z => eqT z x) else ys.any fun z => eqT z x)) ρ := is_op ha hb fun S Q q => oIn_l hx hy q
theorem is_ix {z : T} (ha : Is a x ρ) (hb : Is b (.int i) ρ) (hs : seqOf x = some xs) (h : atI xs i = some z) : Is (dOp oIx a b) z ρ := is_op ha hb fun S Q q => by rw [oIx_x hs]; exact ⟨z, h, q⟩
theorem is_slF (ha : Is a (.lst xs) ρ) (hb : Is b (.int i) ρ) : Is (dSl a (dPart b) dNoPart) (.lst (cutG xs (some i) none)) ρ := fun X S Q q => ha X S _ (hb X S _ ⟨i, rfl, by show slD _ _ _ _ _; rw [slD_l]; exact q⟩)
theorem is_slT (ha : Is a (.lst xs) ρ) (hb : Is b (.int i) ρ) : Is (dSl a dNoPart (dPart b)) (.lst (cutG xs none (some i))) ρ := fun X S Q q => ha X S _ (hb X S _ ⟨i, rfl, by show slD _ _ _ _ _; rw [slD_l]; exact q⟩)
theorem is_slB (ha : Is a (.lst xs) ρ) (hb : Is b (.int i) ρ) (hc : Is c (.int j) ρ) : Is (dSl a (dPart b) (dPart c)) (.lst (cutG xs (some i) (some j))) ρ := fun X S Q q => ha X S _ (hb X S _ ⟨i, rfl, hc X S _ ⟨j, rfl, by show slD _ _ _ _ _; rw [slD_l]; exact q⟩⟩)
theorem is_slTt (ha : Is a (.tup xs) ρ) (hb : Is b (.int i) ρ) : Is (dSl a dNoPart (dPart b)) (.tup (cutG xs none (some i))) ρ := fun X S Q q => ha X S _ (hb X S _ ⟨i, rfl, by show slD _ _ _ _ _; rw [slD_t]; exact q⟩)
theorem is_len (ha : Is a x ρ) (hs : seqOf x = some xs) : Is (dCB cLen (dCons a dNil)) (.int xs.length) ρ := fun X S Q q => ha X S _ (by show cLen [.t x] S Q; rw [cLen_x hs]; exact q)
theorem is_listRg {n : Nat} (ha : Is a (.int n) ρ) (hn : n ≤ 100000) : Is (dListRg a) (.lst ((List.range n).map fun k : Nat => .int k)) ρ := fun X S Q q => ha X S _ ⟨n, rfl, by omega, by omega, by simpa using q⟩
theorem is_int2 {g : Int → Int → Int} (ha : Is a (.int i) ρ) (hb : Is b (.int j) ρ) : Is (dCB (cInt2 g) (dCons a (dCons b dNil))) (.int (g i j)) ρ := fun X S Q q => ha X S _ (hb X S _ ⟨i, j, rfl, q⟩)
theorem is_idx {z : T} (ha : Is a x ρ) (hb : Is b y ρ) (ht : ∀ S, tyLst (.t x) S) (h : ∀ S (Q : D → Store → Prop), Q (.t z) S → mIndexT (.t x) [.t y] S Q) : Is (dBM tyLst mIndexT a (dCons b dNil)) z ρ := fun X S Q q => ha X S _ ⟨ht S, hb X S _ (h S Q q)⟩
theorem is_if {z : T} (ht : IsT t p ρ) (ha : p = true → Is a z ρ) (hb : p = false → Is b z ρ) : Is (dIf t a b) z ρ := fun X S Q q => ht X S _ (by
  cases p with
  | true => exact ha rfl X S Q q
  | false => exact hb rfl X S Q q)
theorem isT_b (h : Is a (.bl p) ρ) : IsT (dB a) p ρ := fun X S Q q => h X S _ ⟨p, rfl, q⟩
theorem isT_not (h : IsT t p ρ) : IsT (dNotT t) (!p) ρ := fun X S Q q => h X S _ q
theorem isT_and (h : IsT t p ρ) (h2 : IsT u q ρ) : IsT (dAndT t u) (p && q) ρ := fun X S Q z => h X S _ (by
  cases p with
  | true => exact h2 X S Q z
  | false => exact z)
theorem isT_or (h : IsT t p ρ) (h2 : IsT u q ρ) : IsT (dOrT t u) (p || q) ρ := fun X S Q z => h X S _ (by
  cases p with
  | true => exact z
  | false => exact h2 X S Q z)
theorem tyLst_x {S : Store} : tyLst (.t (.lst xs)) S := ⟨_, rfl⟩
end
/-! ### statements -/
section
variable {De : DEnds} {X : XQ} {ρ : Env} {S : Store} {t u : TSD} {e : TED} {g : TGD} {tt : TTD} {x : T}
theorem asgIs {i : Nat} (h : Is e x ρ) (q : De.nx (ρ.set i (some (.t x))) S) : sAsg e (gVar i) De ρ S := h _ _ _ q
theorem ifT (h : IsT tt true ρ) (q : t De ρ S) : sIf tt t u De ρ S := h _ _ _ q
theorem ifF (h : IsT tt false ρ) (q : u De ρ S) : sIf tt t u De ρ S := h _ _ _ q
theorem ifIs {p : Bool} (h : IsT tt p ρ) (q1 : p = true → t De ρ S) (q2 : p = false → u De ρ S) : sIf tt t u De ρ S := h _ _ _ (by
  cases p with
  | true => exact q1 rfl
  | false => exact q2 rfl)
theorem ifx (q : tt De.ex ρ S fun b S1 => if b = true then t De ρ S1 else u De ρ S1) : sIf tt t u De ρ S := q
theorem retIs (h : Is e x ρ) (q : De.rt (.t x) S) : sRet e De ρ S := h _ _ _ q
theorem nxt (q : De.nx ρ S) : sNext De ρ S := q
theorem lcx {wi : TID} {tc : TTD} {te : TED} {vs : List Nat} {Q : D → Store → Prop} (q : wi X ρ S fun it S1 => lcTr g tc te vs ρ it S1 Q) : dLc wi g tc te vs X ρ S Q := q
theorem iseq {R : ItD → Store → Prop} {ts : List T} (h : Is e x ρ) (hs : seqOf x = some ts) (q : ∀ it, ItT it ts → R it S) : iSeq e X ρ S R := h _ _ _ (itT_x hs q)
theorem izip {a b : TED} {R : ItD → Store → Prop} {xs ys : List T} (ha : Is a (.lst xs) ρ) (hb : Is b (.lst ys) ρ) (q : ∀ it, ItT it ((xs.zip ys).map fun p => .tup [p.1, p.2]) → R it S) : iZipD (dCons a (dCons b dNil)) X ρ S R := ha _ _ _ (hb _ _ _ (zipT_x (.inl ⟨rfl, rfl⟩) q))
theorem forx {wi : TID} {tb : TSD} (q : wi De.ex ρ S fun it S1 => forI g tb De ρ it S1) : sFor wi g tb De ρ S := q
/-- a list told of another one, thing by thing -/
theorem is_lc {wi : TED} {te : TED} {vs : List Nat} {ts : List T} (h : Is wi x ρ) (hs : seqOf x = some ts) (f : T → T) (hl : ts.length ≤ 100000) (hc : ClosedS S.length S)
    (hg : ∀ x ∈ ts, ∀ (S2 : Store) (Ky : D → Store → Prop), Ky (.t (f x)) S2 → g (.t x) noX (wipeD ρ vs) S2 fun ρ2 S3 => te noX ρ2 S3 Ky) {Q : D → Store → Prop} (q : Q (.t (.lst (ts.map f))) S) : dLc (iSeq wi) g dYes te vs X ρ S Q :=
  lcx (iseq h hs fun it hit => lc_map f hit hc (Nat.le_trans hl le_100000) hg q)
end
end DL
set_option Elab.async false
set_option linter.all false
set_option maxRecDepth 100000
set_option maxHeartbeats 4000000
namespace DL
open PySem PySem.Spec PyProof.Rows L2
def Cs (A : Str → Addr) : List Addr := [A "House"]
/-- the own exceptions -/
def Xs (A : Str → Addr) : List Addr := [A "BadPlaces", A "BadRoads", A "BadDoors"]
def cl_law_met (A : Str → Addr) : List TC := [(A "BadPlaces", "places", "places"), (A "BadRoads", "roads", "index"), (A "BadDoors", "doors", "index")]
/-! is_integer (thing) slots: 0=thing -/
abbrev N_is_integer : List Str := ["thing"]
abbrev ps_is_integer : List Str := ["thing"]
def ft_is_integer (A : Str → Addr) : FT := fun ds S Q _ => ∃ x, ds = [.t x] ∧ ok1 (Cs A) x ∧ Q (.bl (isInt x)) S
def rd_is_integer (A : Str → Addr) : TSD :=
 sSeq (sRet (dAndV (dCB (cIsi (Cs A)) (dCons (dVar 0) (dCons (dC (.ty "int")) (dNil)))) (dNotV (dCB (cIsi (Cs A)) (dCons (dVar 0) (dCons (dC (.ty "bool")) (dNil)))))))
 (sNext)
theorem math_is_integer (A : Str → Addr) : ∀ (ds : List D) (S : Store) (Q : D → Store → Prop) (E : Ex → Prop), ClosedS S.length S → ds.length = 1 → ft_is_integer A ds S Q E → rd_is_integer A (endsOf .raw S Q E) (startD 1 ds) S := by
  rintro ds S Q E _ _ ⟨x, rfl, hx, q⟩
  rcases int_em x with ⟨i, rfl⟩ | h <;> simp [rd_is_integer, hx] <;> simp_all
/-! is_number (thing) slots: 0=thing -/
abbrev N_is_number : List Str := ["thing"]
abbrev ps_is_number : List Str := ["thing"]
def isNum : T → Bool
  | .v (.int i) => decide (0 ≤ i)
  | _ => false
@[simp] theorem isNum_int {i : Int} : isNum (.v (.int i)) = decide (0 ≤ i) := rfl
theorem isNum_no {x : T} (h : isInt x = false) : isNum x = false := by
  unfold isNum; split <;> simp_all
theorem isNum_inv {x : T} (h : isNum x = true) : ∃ i : Int, x = .v (.int i) ∧ 0 ≤ i := by
  rcases int_em x with ⟨i, rfl⟩ | h1
  · exact ⟨i, rfl, by simpa using h⟩
  · rw [isNum_no h1] at h; cases h
def ft_is_number (A : Str → Addr) : FT := fun ds S Q _ => ∃ x, ds = [.t x] ∧ ok1 (Cs A) x ∧ Q (.bl (isNum x)) S
def rd_is_number (A : Str → Addr) : TSD :=
 sSeq (sRet (dAndV (dCall 1 (ft_is_integer A) (dCons (dVar 0) (dNil))) (dOp (oI0 fun i j => .bl (decide (j ≤ i))) (dVar 0) (dC (.int 0)))))
 (sNext)
theorem math_is_number (A : Str → Addr) : ∀ (ds : List D) (S : Store) (Q : D → Store → Prop) (E : Ex → Prop), ClosedS S.length S → ds.length = 1 → ft_is_number A ds S Q E → rd_is_number A (endsOf .raw S Q E) (startD 1 ds) S := by
  rintro ds S Q E _ _ ⟨x, rfl, hx, q⟩
  rcases int_em x with ⟨i, rfl⟩ | h <;> simp_all [rd_is_number, ft_is_integer, isNum_no]
/-! is_positive (thing) slots: 0=thing -/
abbrev N_is_positive : List Str := ["thing"]
abbrev ps_is_positive : List Str := ["thing"]
def isPos : T → Bool
  | .v (.int i) => decide (1 ≤ i)
  | _ => false
@[simp] theorem isPos_int {i : Int} : isPos (.v (.int i)) = decide (1 ≤ i) := rfl
theorem isPos_no {x : T} (h : isInt x = false) : isPos x = false := by
  unfold isPos; split <;> simp_all
theorem isPos_inv {x : T} (h : isPos x = true) : ∃ i : Int, x = .v (.int i) ∧ 1 ≤ i := by
  rcases int_em x with ⟨i, rfl⟩ | h1
  · exact ⟨i, rfl, by simpa using h⟩
  · rw [isPos_no h1] at h; cases h
def ft_is_positive (A : Str → Addr) : FT := fun ds S Q _ => ∃ x, ds = [.t x] ∧ ok1 (Cs A) x ∧ Q (.bl (isPos x)) S
def rd_is_positive (A : Str → Addr) : TSD :=
 sSeq (sRet (dAndV (dCall 1 (ft_is_integer A) (dCons (dVar 0) (dNil))) (dOp (oI0 fun i j => .bl (decide (j ≤ i))) (dVar 0) (dC (.int 1)))))
 (sNext)
theorem math_is_positive (A : Str → Addr) : ∀ (ds : List D) (S : Store) (Q : D → Store → Prop) (E : Ex → Prop), ClosedS S.length S → ds.length = 1 → ft_is_positive A ds S Q E → rd_is_positive A (endsOf .raw S Q E) (startD 1 ds) S := by
  rintro ds S Q E _ _ ⟨x, rfl, hx, q⟩
  rcases int_em x with ⟨i, rfl⟩ | h <;> simp_all [rd_is_positive, ft_is_integer, isPos_no]
/-! is_list (thing) slots: 0=thing -/
abbrev N_is_list : List Str := ["thing"]
abbrev ps_is_list : List Str := ["thing"]
def ft_is_list (A : Str → Addr) : FT := fun ds S Q _ => ∃ x, ds = [.t x] ∧ ok1 (Cs A) x ∧ Q (.bl (isSeq x)) S
def rd_is_list (A : Str → Addr) : TSD :=
 sSeq (sRet (dCB (cIsi (Cs A)) (dCons (dVar 0) (dCons (dTup (dCons (dC (.ty "list")) (dCons (dC (.ty "tuple")) (dNil)))) (dNil)))))
 (sNext)
theorem math_is_list (A : Str → Addr) : ∀ (ds : List D) (S : Store) (Q : D → Store → Prop) (E : Ex → Prop), ClosedS S.length S → ds.length = 1 → ft_is_list A ds S Q E → rd_is_list A (endsOf .raw S Q E) (startD 1 ds) S := by
  rintro ds S Q E _ _ ⟨x, rfl, hx, q⟩
  simp_all [rd_is_list, sizeLine]
abbrev N_BadPlaces_init : List Str := ["self", "places"]
abbrev ps_BadPlaces_init : List Str := ["self", "places"]
abbrev N_BadRoads_init : List Str := ["self", "index"]
abbrev ps_BadRoads_init : List Str := ["self", "index"]
abbrev N_BadDoors_init : List Str := ["self", "index"]
abbrev ps_BadDoors_init : List Str := ["self", "index"]
/-! is_place (thing, places) slots: 0=thing 1=places -/
abbrev N_is_place : List Str := ["thing", "places"]
abbrev ps_is_place : List Str := ["thing", "places"]
def isPlace (x : T) (p : Int) : Bool := match x with
  | .v (.int i) => decide (0 ≤ i) && decide (i < p)
  | _ => false
@[simp] theorem isPlace_int {i p : Int} : isPlace (.v (.int i)) p = (decide (0 ≤ i) && decide (i < p)) := rfl
theorem isPlace_no {x : T} {p : Int} (h : isInt x = false) : isPlace x p = false := by
  unfold isPlace; split <;> simp_all
theorem isPlace_inv {x : T} {p : Int} (h : isPlace x p = true) : ∃ i : Int, x = .v (.int i) ∧ 0 ≤ i ∧ i < p := by
  rcases int_em x with ⟨i, rfl⟩ | h1
  · exact ⟨i, rfl, by simpa using h⟩
  · rw [isPlace_no h1] at h; cases h
def ft_is_place (A : Str → Addr) : FT := fun ds S Q _ => ∃ x p, ds = [.t x, .int p] ∧ ok1 (Cs A) x ∧ Q (.bl (isPlace x p)) S
def rd_is_place (A : Str → Addr) : TSD :=
 sSeq (sRet (dAndV (dCall 1 (ft_is_number A) (dCons (dVar 0) (dNil))) (dOp (oI0 fun i j => .bl (decide (i < j))) (dVar 0) (dVar 1))))
 (sNext)
theorem math_is_place (A : Str → Addr) : ∀ (ds : List D) (S : Store) (Q : D → Store → Prop) (E : Ex → Prop), ClosedS S.length S → ds.length = 2 → ft_is_place A ds S Q E → rd_is_place A (endsOf .raw S Q E) (startD 2 ds) S := by
  rintro ds S Q E _ _ ⟨x, p, rfl, hx, q⟩
  rcases int_em x with ⟨i, rfl⟩ | h
  · by_cases h0 : 0 ≤ i
    · simp_all [rd_is_place, ft_is_number, isNum]
    · simp_all [rd_is_place, ft_is_number, isNum]
      intro h1
      omega
  · simp_all [rd_is_place, ft_is_number, isNum_no, isPlace_no]
/-! is_road (thing, places) slots: 0=thing 1=places -/
abbrev N_is_road : List Str := ["thing", "places"]
abbrev ps_is_road : List Str := ["thing", "places"]
def isRoad (x : T) (p : Int) : Bool := match seqOf x with
  | some [a, b, l, r] => isPlace a p && isPlace b p && !eqT a b && isNum l && isPos r
  | _ => false
def ft_is_road (A : Str → Addr) : FT := fun ds S Q _ => ∃ x p, ds = [.t x, .int p] ∧ okT (Cs A) x = true ∧ Q (.bl (isRoad x p)) S
theorem isRoad_inv {x : T} {p : Int} (h : isRoad x p = true) : ∃ a b l w : Int, seqOf x = some [.v (.int a), .v (.int b), .v (.int l), .v (.int w)] ∧ 0 ≤ a ∧ a < p ∧ 0 ≤ b ∧ b < p ∧ a ≠ b ∧ 0 ≤ l ∧ 1 ≤ w := by
  unfold isRoad at h
  split at h
  · rename_i a b l w hs
    simp only [Bool.and_eq_true] at h
    obtain ⟨⟨⟨⟨h1, h2⟩, h3⟩, h4⟩, h5⟩ := h
    obtain ⟨i, rfl, h6⟩ := isPlace_inv h1
    obtain ⟨j, rfl, h7⟩ := isPlace_inv h2
    obtain ⟨k, rfl, h8⟩ := isNum_inv h4
    obtain ⟨m, rfl, h9⟩ := isPos_inv h5
    exact ⟨i, j, k, m, hs, h6.1, h6.2, h7.1, h7.2, by simpa using h3, h8, h9⟩
  · cases h
theorem isRoad_of {x : T} {p a b l w : Int} (hs : seqOf x = some [.v (.int a), .v (.int b), .v (.int l), .v (.int w)]) (h : 0 ≤ a ∧ a < p ∧ 0 ≤ b ∧ b < p ∧ a ≠ b ∧ 0 ≤ l ∧ 1 ≤ w) : isRoad x p = true := by
  unfold isRoad
  rw [hs]
  simp [h]
def rd_is_road (A : Str → Addr) : TSD :=
 sSeq (sIf (dOrT (dNotT (dB (dCall 1 (ft_is_list A) (dCons (dVar 0) (dNil))))) (dOrT (dB (dOp oNe (dCB cLen (dCons (dVar 0) (dNil))) (dC (.int 4)))) (dOrT (dNotT (dB (dCall 2 (ft_is_place A) (dCons (dOp oIx (dVar 0) (dC (.int 0))) (dCons (dVar 1) (dNil)))))) (dNotT (dB (dCall 2 (ft_is_place A) (dCons (dOp oIx (dVar 0) (dC (.int 1))) (dCons (dVar 1) (dNil)))))))))
 (sSeq (sRet (dC (.bl false)))
 (sNext))
 (sNext))
 (sSeq (sRet (dAndV (dOp oNe (dOp oIx (dVar 0) (dC (.int 0))) (dOp oIx (dVar 0) (dC (.int 1)))) (dAndV (dCall 1 (ft_is_number A) (dCons (dOp oIx (dVar 0) (dC (.int 2))) (dNil))) (dCall 1 (ft_is_positive A) (dCons (dOp oIx (dVar 0) (dC (.int 3))) (dNil))))))
 (sNext))
theorem math_is_road (A : Str → Addr) : ∀ (ds : List D) (S : Store) (Q : D → Store → Prop) (E : Ex → Prop), ClosedS S.length S → ds.length = 2 → ft_is_road A ds S Q E → rd_is_road A (endsOf .raw S Q E) (startD 2 ds) S := by
  rintro ds S Q E _ _ ⟨x, p, rfl, hx, q⟩
  have hx1 := okT_ok1 hx
  rcases seqOf_em x with ⟨ts, hs, hs1⟩ | ⟨h, h'⟩
  · have hts := okT_seq hx hs
    by_cases h4 : ts.length = 4
    · obtain ⟨a, b, l, r, rfl⟩ : ∃ a b l r, ts = [a, b, l, r] := by
        match ts, h4 with
        | [a, b, l, r], _ => exact ⟨a, b, l, r, rfl⟩
      have ha := okT_ok1 (hts a (by simp))
      have hb := okT_ok1 (hts b (by simp))
      have hl := okT_ok1 (hts l (by simp))
      have hr := okT_ok1 (hts r (by simp))
      unfold isRoad at q
      simp only [hs] at q
      simp [rd_is_road, ft_is_list, ft_is_place, ft_is_number, ft_is_positive, hx1, hs1, cLen_x hs, oIx_x hs, ha, hb, hl, hr]
      cases h1 : isPlace a p <;> simp [h1] at q ⊢
      · exact q
      · cases h2 : isPlace b p <;> simp [h2] at q ⊢
        · exact q
        · obtain ⟨i, rfl, _⟩ := isPlace_inv h1
          obtain ⟨j, rfl, _⟩ := isPlace_inv h2
          simp at q ⊢
          by_cases hij : i = j <;> simp [hij] at q ⊢
          · exact q
          · have hij' : (i == j) = false := by simpa using hij
            rw [hij'] at q
            cases h3 : isNum l <;> simp [h3] at q ⊢ <;> exact q
    · have q : Q (.bl false) S := by
        unfold isRoad at q
        rw [hs] at q
        match ts, h4, q with
        | [], _, q => exact q
        | [_], _, q => exact q
        | [_, _], _, q => exact q
        | [_, _, _], _, q => exact q
        | [_, _, _, _], h, _ => exact absurd rfl h
        | _ :: _ :: _ :: _ :: _ :: _, _, q => exact q
      have h4' : ((ts.length : Int) == 4) = false := by simp; omega
      simp [rd_is_road, ft_is_list, hx1, hs1, cLen_x hs, h4']
      exact q
  · have q : Q (.bl false) S := by
      unfold isRoad at q
      rw [h'] at q
      exact q
    simp [rd_is_road, ft_is_list, hx1, h]
    exact q
/-! at_once (roads, begin) slots: 0=roads 1=begin 2=found 3=again 4=more 5=road -/
abbrev N_at_once : List Str := ["roads", "begin", "found", "again", "more", "road"]
abbrev ps_at_once : List Str := ["roads", "begin"]
/-- a road told: (from, to, length, room) -/
def rdOf (t : T) : Int × Int × Int × Int := match seqOf t with
  | some [.v (.int a), .v (.int b), .v (.int l), .v (.int w)] => (a, b, l, w)
  | _ => (0, 0, 0, 0)
def isRd (t : T) : Prop := ∃ a b l w : Int, seqOf t = some [.v (.int a), .v (.int b), .v (.int l), .v (.int w)]
theorem rdOf_e {t : T} {a b l w : Int} (h : seqOf t = some [.v (.int a), .v (.int b), .v (.int l), .v (.int w)]) : rdOf t = (a, b, l, w) := by unfold rdOf; rw [h]
theorem isRd_of {t : T} {p : Int} (h : isRoad t p = true) : isRd t := let ⟨a, b, l, w, e, _⟩ := isRoad_inv h; ⟨a, b, l, w, e⟩
/-- roads that take no turn -/
def Zero (rs : List T) (u v : Int) : Prop := ∃ r ∈ rs, (rdOf r).2.2.1 = 0 ∧ (rdOf r).1 = u ∧ (rdOf r).2.1 = v
inductive Reach (E : Int → Int → Prop) (b : Int) : Int → Prop
  | refl : Reach E b b
  | step {u v : Int} : Reach E b u → E u v → Reach E b v
def iL (ns : List Int) : T := .lst (ns.map .int)
def ft_at_once (A : Str → Addr) : FT := fun ds S Q _ => ∃ x b rs, ds = [.t x, .int b] ∧ seqOf x = some rs ∧ rs.length ≤ 1000 ∧ (∀ r ∈ rs, isRd r) ∧ ∀ L : List Int, (∀ v, v ∈ L ↔ Reach (Zero rs) b v) → L.length ≤ 1001 → Q (.t (iL L)) S
theorem dat_iL {n : Nat} {L : List Int} : dat (n + 1) (iL L) = true := by unfold iL; rw [dat_lst]; intro t ht; simp at ht; obtain ⟨i, _, rfl⟩ := ht; exact dat_int
theorem any_iL {v : Int} : ∀ {L : List Int}, ((L.map T.int).any fun z => eqT z (.v (.int v))) = decide (v ∈ L)
  | [] => by simp
  | a :: L => by
    simp only [List.map_cons, List.any_cons, eqT_ii, any_iL (L := L)]
    by_cases h : a = v
    · simp [h]
    · have h1 : (a == v) = false := by simpa using h
      have h2 : ¬ v = a := fun e => h e.symm
      simp [h1, h2]
theorem filter_lt {α : Type} {p q : α → Bool} : ∀ {l : List α}, (∀ x ∈ l, q x = true → p x = true) → (∃ x ∈ l, p x = true ∧ q x = false) → (l.filter q).length < (l.filter p).length
  | [], _, ⟨x, h, _⟩ => by cases h
  | a :: l, h, ⟨x, hx, h1, h2⟩ => by
    have hle : ∀ {l : List α}, (∀ x ∈ l, q x = true → p x = true) → (l.filter q).length ≤ (l.filter p).length := by
      intro l
      induction l with
      | nil => intro _; simp
      | cons b l ih =>
        intro h
        have := ih fun x hx => h x (by simp [hx])
        by_cases hq : q b = true
        · simp [hq, h b (by simp) hq]; omega
        · by_cases hp : p b = true <;> simp [hq, hp] <;> omega
    by_cases hax : a = x
    · subst hax
      have := hle (l := l) fun x hx => h x (by simp [hx])
      simp [h1, h2]; omega
    · have hx' : x ∈ l := by
        rcases List.mem_cons.mp hx with h | h
        · exact absurd h.symm hax
        · exact h
      have := filter_lt (l := l) (fun x hx => h x (by simp [hx])) ⟨x, hx', h1, h2⟩
      by_cases hq : q a = true
      · simp [hq, h a (by simp) hq]; omega
      · by_cases hp : p a = true <;> simp [hq, hp] <;> omega
def rd_at_once (A : Str → Addr) : TSD :=
 sSeq (sAsg (dTup (dCons (dLst (dCons (dVar 1) (dNil))) (dCons (dC (.bl true)) (dNil)))) (gTupD 2 (gConsD (gVar 2) (gConsD (gVar 3) (gNilD)))))
 (sSeq (sWhile (dB (dVar 3))
 (sSeq (sAsg (dLc (iSeq (dVar 0)) (gVar 5) (dAndT (dB (dOp oEq (dOp oIx (dVar 5) (dC (.int 2))) (dC (.int 0)))) (dAndT (dB (dOp (oIn false) (dOp oIx (dVar 5) (dC (.int 0))) (dVar 2))) (dB (dOp (oIn true) (dOp oIx (dVar 5) (dC (.int 1))) (dVar 2))))) (dOp oIx (dVar 5) (dC (.int 1))) [5]) (gVar 4))
 (sSeq (sAsg (dTup (dCons (dOp oAdd (dVar 2) (dSl (dVar 4) (dNoPart) (dPart (dC (.int 1))))) (dCons (dOp oNe (dVar 4) (dLst (dNil))) (dNil)))) (gTupD 2 (gConsD (gVar 2) (gConsD (gVar 3) (gNilD)))))
 (sNext))))
 (sSeq (sRet (dVar 2))
 (sNext)))
theorem oIn_iL {S : Store} {Q : D → Store → Prop} {v : Int} {L : List Int} {neg : Bool} : (Q (.bl (if neg then !decide (v ∈ L) else decide (v ∈ L))) S) → oIn neg (.t (.v (.int v))) (.t (iL L)) S Q := fun q => oIn_l (by simp) dat_iL (by rw [any_iL]; exact q)
def unf (rs : List T) (L : List Int) : Nat := (rs.filter fun r => !decide ((rdOf r).2.1 ∈ L)).length
def W_at_once (x : T) (b : Int) (rs : List T) (S : Store) (m : Nat) (ρ' : Env) (S' : Store) : Prop := S' = S ∧ ∃ (L : List Int) (again : Bool) (o4 : Option D), ρ' = [some (.t x), some (.int b), some (.t (iL L)), some (.bl again), o4, none] ∧ m = 2 * unf rs L + (if again then 1 else 0) ∧
    b ∈ L ∧ (∀ v ∈ L, Reach (Zero rs) b v) ∧ L.length + unf rs L ≤ rs.length + 1 ∧ (again = false → ∀ u v, u ∈ L → Zero rs u v → v ∈ L)
theorem math_at_once (A : Str → Addr) : ∀ (ds : List D) (S : Store) (Q : D → Store → Prop) (E : Ex → Prop), ClosedS S.length S → ds.length = 2 → ft_at_once A ds S Q E → rd_at_once A (endsOf .raw S Q E) (startD 6 ds) S := by
  rintro ds S Q E hcl _ ⟨x, b, rs, rfl, hs, hlen, hrd, q⟩
  have hz : (2 : Nat) ≤ sizeLine := by decide
  have hz1 : (1010 : Nat) ≤ sizeLine := by decide
  simp [rd_at_once, show (1 : Nat) ≤ sizeLine by omega, hz]
  refine while_I (W_at_once x b rs S) _ ⟨rfl, [b], true, none, rfl, rfl, by simp, ?_, ?_, by simp⟩ ?_
  · intro v hv
    have : v = b := by simpa using hv
    subst this
    exact .refl
  · have := List.length_filter_le (fun r => !decide ((rdOf r).2.1 ∈ [b])) rs
    show 1 + (rs.filter fun r => !decide ((rdOf r).2.1 ∈ [b])).length ≤ rs.length + 1
    omega
  · rintro m ρ' S' ⟨rfl, L, again, o4, rfl, rfl, hb, hr, hl, ha⟩
    cases again with
    | false =>
      simp
      refine q L (fun v => ⟨hr v, fun h => ?_⟩) (by omega)
      induction h with
      | refl => exact hb
      | step _ h2 ih => exact ha rfl _ _ ih h2
    | true =>
      simp
      refine loop_I ?_
      simp
      refine itT_x hs fun it hit => ?_
      refine lc_fm (fun r => (rdOf r).2.2.1 == 0 && decide ((rdOf r).1 ∈ L) && !decide ((rdOf r).2.1 ∈ L)) (fun r => .int (rdOf r).2.1) hit hcl (by omega) ?_ ?_
      · intro r hmem S2 Ky Kn hy hn
        obtain ⟨a, c, l, w, e⟩ := hrd r hmem
        have e' := rdOf_e e
        rw [e'] at hy hn
        simp [wipeD, oIx_x e]
        by_cases hl0 : l = 0
        · subst hl0
          simp
          refine oIn_iL ?_
          by_cases h1 : a ∈ L
          · simp [h1]
            refine oIn_iL ?_
            by_cases h2 : c ∈ L
            · simp [h2]; exact hn (by simp [h2])
            · simp [h2]; exact hy (by simp [h1, h2])
          · simp [h1]; exact hn (by simp [h1])
        · simp [hl0] at hn ⊢
          exact hn
      · generalize hM : ((rs.filter fun r => (rdOf r).2.2.1 == 0 && decide ((rdOf r).1 ∈ L) && !decide ((rdOf r).2.1 ∈ L))) = M
        have hmem : ∀ r ∈ M, r ∈ rs ∧ (rdOf r).2.2.1 = 0 ∧ (rdOf r).1 ∈ L ∧ (rdOf r).2.1 ∉ L := by
          intro r h
          rw [← hM] at h
          simpa [and_assoc] using h
        have hMl : M.length ≤ rs.length := by rw [← hM]; exact List.length_filter_le _ _
        have hdat : dat 64 (.lst (M.map fun r => T.int (rdOf r).2.1)) = true := by
          rw [dat_lst]; intro t ht; simp at ht; obtain ⟨r, _, rfl⟩ := ht; simp
        have hd0 : dat 64 (.lst []) = true := by rw [dat_lst]; simp
        have e1 : cutG (M.map fun r => T.v (V.int (rdOf r).2.1)) none (some 1) = (M.map fun r => T.int (rdOf r).2.1).take 1 := cutG_to (k := 1)
        simp [iL, hdat, hd0, e1]
        refine ⟨by cases M <;> simp <;> omega, by omega, ?_⟩
        cases M with
        | nil =>
          refine ⟨_, ?_, rfl, L, false, some (.t (.lst [])), by simp [iL], rfl, hb, hr, hl, fun _ u v hu ⟨r, h1, h2, h3, h4⟩ => ?_⟩
          · simp
          apply Classical.byContradiction
          intro hv
          have : r ∈ ([] : List T) := by
            rw [← hM]
            simp [h1, h2, h3, h4, hu, hv]
          cases this
        | cons r M =>
          obtain ⟨h1, h2, h3, h4⟩ := hmem r (by simp)
          have hlt : unf rs (L ++ [(rdOf r).2.1]) < unf rs L := filter_lt (fun y _ hy => by simp at hy ⊢; exact hy.1) ⟨r, h1, by simpa using h4, by simp⟩
          refine ⟨_, ?_, rfl, L ++ [(rdOf r).2.1], true, some (.t (.lst ((r :: M).map fun r => .int (rdOf r).2.1))), by simp [iL], rfl, by simp [hb], ?_, by simp; omega, fun h => by cases h⟩
          · simp; omega
          intro v hv
          rcases List.mem_append.mp hv with hv | hv
          · exact hr v hv
          · have : v = (rdOf r).2.1 := by simpa using hv
            subst this
            exact .step (hr _ h3) ⟨r, h1, h2, rfl, rfl⟩
/-! bad_road (places, roads) slots: 0=places 1=roads 2=index 3=thing -/
abbrev N_bad_road : List Str := ["places", "roads", "index", "thing"]
abbrev ps_bad_road : List Str := ["places", "roads"]
/-- road i shuts a ring of roads that take no turn, with the ones ahead of it -/
def Ring (rs : List T) (i : Nat) : Prop := ∃ r, rs[i]? = some r ∧ (rdOf r).2.2.1 = 0 ∧ Reach (Zero (rs.take i)) (rdOf r).2.1 (rdOf r).1
def RoadBad (p : Int) (rs : List T) (i : Nat) : Prop := ∃ r, rs[i]? = some r ∧ (isRoad r p = false ∨ Ring rs i)
/-- what is told of roads -/
def RoadsTold (p : Int) (x : T) (r : T) : Prop :=
  (seqOf x = none ∧ r = .int 0) ∨ ∃ rs, seqOf x = some rs ∧ ((r = .non ∧ ∀ i, i < rs.length → ¬ RoadBad p rs i) ∨ ∃ k : Nat, r = .int k ∧ k < rs.length ∧ RoadBad p rs k ∧ ∀ i, i < k → ¬ RoadBad p rs i)
def ft_bad_road (A : Str → Addr) : FT := fun ds S Q _ => ∃ p x, ds = [.int p, .t x] ∧ okT (Cs A) x = true ∧ (∀ rs, seqOf x = some rs → rs.length ≤ 1000) ∧ ∀ r, RoadsTold p x r → Q (.t r) S
def rd_bad_road (A : Str → Addr) : TSD :=
 sSeq (sIf (dNotT (dB (dCall 1 (ft_is_list A) (dCons (dVar 1) (dNil)))))
 (sSeq (sRet (dC (.int 0)))
 (sNext))
 (sNext))
 (sSeq (sFor (iEnumD (dVar 1)) (gTupD 2 (gConsD (gVar 2) (gConsD (gVar 3) (gNilD))))
 (sSeq (sIf (dNotT (dB (dCall 2 (ft_is_road A) (dCons (dVar 3) (dCons (dVar 0) (dNil))))))
 (sSeq (sRet (dVar 2))
 (sNext))
 (sNext))
 (sSeq (sIf (dAndT (dB (dOp oEq (dOp oIx (dVar 3) (dC (.int 2))) (dC (.int 0)))) (dB (dOp (oIn false) (dOp oIx (dVar 3) (dC (.int 0))) (dCall 2 (ft_at_once A) (dCons (dSl (dVar 1) (dNoPart) (dPart (dVar 2))) (dCons (dOp oIx (dVar 3) (dC (.int 1))) (dNil)))))))
 (sSeq (sRet (dVar 2))
 (sNext))
 (sNext))
 (sNext))))
 (sSeq (sRet (dC .non))
 (sNext)))
theorem math_bad_road (A : Str → Addr) : ∀ (ds : List D) (S : Store) (Q : D → Store → Prop) (E : Ex → Prop), ClosedS S.length S → ds.length = 2 → ft_bad_road A ds S Q E → rd_bad_road A (endsOf .raw S Q E) (startD 4 ds) S := by
  rintro ds S Q E hcl _ ⟨p, x, rfl, hx, hlen, q⟩
  have hx1 := okT_ok1 hx
  rcases seqOf_em x with ⟨rs, hs, hs1⟩ | ⟨h, h'⟩
  · have hl := hlen rs hs
    have hz1 : (1010 : Nat) ≤ sizeLine := by decide
    simp [rd_bad_road, ft_is_list, hx1, hs1]
    refine itT_enum hs fun it hit => ?_
    refine for_T hit (fun i ρ' S' => S' = S ∧ (∃ o2 o3, ρ' = [some (.int p), some (.t x), o2, o3]) ∧ ∀ j, j < i → ¬ RoadBad p rs j) ⟨rfl, ⟨none, none, rfl⟩, fun j hj => absurd hj (Nat.not_lt_zero _)⟩ ?_ ?_
    · rintro i y ρ' S' hy ⟨rfl, ⟨o2, o3, rfl⟩, hno⟩
      rw [numbered_get] at hy
      cases hr : rs[i]? with
      | none => rw [hr] at hy; cases hy
      | some r =>
        rw [hr] at hy
        have hy : T.tup [.int ((0 + i : Nat) : Int), r] = y := Option.some.inj hy
        subst hy
        obtain ⟨hlt, hr'⟩ := List.getElem?_eq_some_iff.mp hr
        have hrm : r ∈ rs := hr' ▸ List.getElem_mem _
        have hrx := okT_seq hx hs r hrm
        simp only [Nat.zero_add]
        simp [ft_is_road, hrx]
        cases hR : isRoad r p with
        | false =>
          simp
          exact q _ (.inr ⟨rs, hs, .inr ⟨i, rfl, hlt, ⟨r, hr, .inl hR⟩, hno⟩⟩)
        | true =>
          obtain ⟨a, b, l, w, e, _, _, _, _, hab, h0, _⟩ := isRoad_inv hR
          have e' := rdOf_e e
          simp [oIx_x e]
          by_cases hl0 : l = 0
          · subst hl0
            have hs2 : seqOf (cutT x none (some (i : Int))) = some (rs.take i) := by rw [seqOf_cutT hs, cutG_to]
            simp [slD_x hs, ft_at_once, hs2]
            refine ⟨by omega, fun r' hr' => ?_, fun L hL hLl => ?_⟩
            · obtain ⟨j, hj⟩ := List.getElem?_of_mem hr'
              obtain ⟨hji, hj⟩ := take_get hj
              have := hno j hji
              refine isRd_of (p := p) ?_
              cases hR' : isRoad r' p with
              | true => rfl
              | false => exact absurd ⟨r', hj, .inl hR'⟩ this
            · refine oIn_iL ?_
              by_cases hm : a ∈ L
              · simp [hm]
                refine q _ (.inr ⟨rs, hs, .inr ⟨i, rfl, hlt, ⟨r, hr, .inr ⟨r, hr, by rw [e'], by rw [e']; exact (hL a).mp hm⟩⟩, hno⟩⟩)
              · simp [hm]
                refine fun j hj => ?_
                by_cases hji : j = i
                · subst hji
                  rintro ⟨r2, h2, h3⟩
                  rw [hr] at h2; cases h2
                  rcases h3 with h3 | ⟨r3, h4, h5, h6⟩
                  · rw [hR] at h3; cases h3
                  · rw [hr] at h4; cases h4
                    rw [e'] at h6
                    exact hm ((hL a).mpr h6)
                · exact hno j (by omega)
          · simp [hl0]
            refine fun j hj => ?_
            by_cases hji : j = i
            · subst hji
              rintro ⟨r2, h2, h3⟩
              rw [hr] at h2; cases h2
              rcases h3 with h3 | ⟨r3, h4, h5, h6⟩
              · rw [hR] at h3; cases h3
              · rw [hr] at h4; cases h4
                rw [e'] at h5
                exact hl0 h5
            · exact hno j (by omega)
    · rintro ρ' S' ⟨rfl, ⟨o2, o3, rfl⟩, hno⟩
      simp
      rw [numbered_len] at hno
      exact q _ (.inr ⟨rs, hs, .inl ⟨rfl, hno⟩⟩)
  · simp [rd_bad_road, ft_is_list, hx1, h]
    exact q _ (.inl ⟨h', rfl⟩)
/-! is_door (thing, places) slots: 0=thing 1=places -/
abbrev N_is_door : List Str := ["thing", "places"]
abbrev ps_is_door : List Str := ["thing", "places"]
def sIn : Str := "in"
def sOut : Str := "out"
def isDoor (x : T) (p : Int) : Bool := match seqOf x with
  | some [.v (.str s), a, h] => (decide (s = "in") || decide (s = "out")) && isPlace a p && isNum h
  | _ => false
theorem isDoor_inv {x : T} {p : Int} (h : isDoor x p = true) : ∃ (s : Str) (a k : Int), seqOf x = some [.v (.str s), .v (.int a), .v (.int k)] ∧ (s = "in" ∨ s = "out") ∧ 0 ≤ a ∧ a < p ∧ 0 ≤ k := by
  unfold isDoor at h
  split at h
  · rename_i s a k hs
    simp only [Bool.and_eq_true, Bool.or_eq_true, decide_eq_true_eq] at h
    obtain ⟨⟨h1, h2⟩, h3⟩ := h
    obtain ⟨i, rfl, h4⟩ := isPlace_inv h2
    obtain ⟨j, rfl, h5⟩ := isNum_inv h3
    exact ⟨s, i, j, hs, h1, h4.1, h4.2, h5⟩
  · cases h
theorem isDoor_of {x : T} {s : Str} {p a k : Int} (hs : seqOf x = some [.v (.str s), .v (.int a), .v (.int k)]) (h1 : s = "in" ∨ s = "out") (h : 0 ≤ a ∧ a < p ∧ 0 ≤ k) : isDoor x p = true := by
  unfold isDoor
  rw [hs]
  simp [h, h1]
def ft_is_door (A : Str → Addr) : FT := fun ds S Q _ => ∃ x p, ds = [.t x, .int p] ∧ okT (Cs A) x = true ∧ Q (.bl (isDoor x p)) S
def rd_is_door (A : Str → Addr) : TSD :=
 sSeq (sIf (dOrT (dNotT (dB (dCall 1 (ft_is_list A) (dCons (dVar 0) (dNil))))) (dOrT (dB (dOp oNe (dCB cLen (dCons (dVar 0) (dNil))) (dC (.int 3)))) (dOrT (dNotT (dB (dCB (cIsi (Cs A)) (dCons (dOp oIx (dVar 0) (dC (.int 0))) (dCons (dC (.ty "str")) (dNil)))))) (dB (dOp (oIn true) (dOp oIx (dVar 0) (dC (.int 0))) (dTup (dCons (dC (.str "in")) (dCons (dC (.str "out")) (dNil)))))))))
 (sSeq (sRet (dC (.bl false)))
 (sNext))
 (sNext))
 (sSeq (sRet (dAndV (dCall 2 (ft_is_place A) (dCons (dOp oIx (dVar 0) (dC (.int 1))) (dCons (dVar 1) (dNil)))) (dCall 1 (ft_is_number A) (dCons (dOp oIx (dVar 0) (dC (.int 2))) (dNil)))))
 (sNext))
theorem math_is_door (A : Str → Addr) : ∀ (ds : List D) (S : Store) (Q : D → Store → Prop) (E : Ex → Prop), ClosedS S.length S → ds.length = 2 → ft_is_door A ds S Q E → rd_is_door A (endsOf .raw S Q E) (startD 2 ds) S := by
  rintro ds S Q E _ _ ⟨x, p, rfl, hx, q⟩
  have hx1 := okT_ok1 hx
  have hz : (2 : Nat) ≤ sizeLine := by decide
  rcases seqOf_em x with ⟨ts, hs, hs1⟩ | ⟨h, h'⟩
  · have hts := okT_seq hx hs
    by_cases h4 : ts.length = 3
    · obtain ⟨a, b, l, rfl⟩ : ∃ a b l, ts = [a, b, l] := by
        match ts, h4 with
        | [a, b, l], _ => exact ⟨a, b, l, rfl⟩
      have ha := okT_ok1 (hts a (by simp))
      have hb := okT_ok1 (hts b (by simp))
      have hl := okT_ok1 (hts l (by simp))
      rcases str_em a with ⟨s, rfl⟩ | h1
      · unfold isDoor at q
        simp only [hs] at q
        simp [rd_is_door, ft_is_list, ft_is_place, ft_is_number, hx1, hs1, cLen_x hs, oIx_x hs, hb, hl, hz]
        refine oIn_tv (vs := [.str "in", .str "out"]) rfl rfl ?_
        have e1 : inV (.str s) [.str "in", .str "out"] = (decide (s = "in") || decide (s = "out")) := by
          simp [inV, eqV]
          congr 1
          · by_cases h : s = "in"
            · subst h; simp
            · have : ¬ Str.ofString "in" = s := fun e => h e.symm
              simp [h, this]
          · by_cases h : s = "out"
            · subst h; simp
            · have : ¬ Str.ofString "out" = s := fun e => h e.symm
              simp [h, this]
        rw [e1]
        cases h2 : (decide (s = "in") || decide (s = "out")) with
        | false => rw [h2] at q; simp at q ⊢; exact q
        | true =>
          rw [h2] at q
          simp at q ⊢
          cases h3 : isPlace b p <;> simp [h3] at q ⊢ <;> exact q
      · have q : Q (.bl false) S := by
          unfold isDoor at q
          rw [hs] at q
          cases a with
          | v y => cases y <;> first | exact q | cases h1
          | _ => exact q
        simp [rd_is_door, ft_is_list, hx1, hs1, cLen_x hs, oIx_x hs, ha, h1]
        exact q
    · have q : Q (.bl false) S := by
        unfold isDoor at q
        rw [hs] at q
        match ts, h4, q with
        | [], _, q => exact q
        | [_], _, q => revert q; split <;> first | exact fun q => q | (rename_i h; simp at h)
        | [_, _], _, q => revert q; split <;> first | exact fun q => q | (rename_i h; simp at h)
        | [_, _, _], h, _ => exact absurd rfl h
        | _ :: _ :: _ :: _ :: _, _, q => revert q; split <;> first | exact fun q => q | (rename_i h; simp at h)
      have h4' : ¬ (ts.length : Int) = 3 := by omega
      simp [rd_is_door, ft_is_list, hx1, hs1, cLen_x hs, h4']
      exact q
  · have q : Q (.bl false) S := by
      unfold isDoor at q
      rw [h'] at q
      exact q
    simp [rd_is_door, ft_is_list, hx1, h]
    exact q
/-! bad_door (places, doors) slots: 0=places 1=doors 2=index 3=thing 4=one -/
abbrev N_bad_door : List Str := ["places", "doors", "index", "thing", "one"]
abbrev ps_bad_door : List Str := ["places", "doors"]
/-- a door told: (sort, place, hour) -/
def drOf (t : T) : Str × Int × Int := match seqOf t with
  | some [.v (.str s), .v (.int a), .v (.int k)] => (s, a, k)
  | _ => ("", 0, 0)
theorem drOf_e {t : T} {s : Str} {a k : Int} (h : seqOf t = some [.v (.str s), .v (.int a), .v (.int k)]) : drOf t = (s, a, k) := by unfold drOf; rw [h]
/-- ahead of door i one of the other sort is at its place -/
def Clash (rs : List T) (i : Nat) : Prop := ∃ r, rs[i]? = some r ∧ ∃ o ∈ rs.take i, (drOf o).2.1 = (drOf r).2.1 ∧ (drOf o).1 ≠ (drOf r).1
def DoorBad (p : Int) (rs : List T) (i : Nat) : Prop := ∃ r, rs[i]? = some r ∧ (isDoor r p = false ∨ Clash rs i)
def DoorsTold (p : Int) (x : T) (r : T) : Prop :=
  (seqOf x = none ∧ r = .int 0) ∨ ∃ rs, seqOf x = some rs ∧ ((r = .non ∧ ∀ i, i < rs.length → ¬ DoorBad p rs i) ∨ ∃ k : Nat, r = .int k ∧ k < rs.length ∧ DoorBad p rs k ∧ ∀ i, i < k → ¬ DoorBad p rs i)
def ft_bad_door (A : Str → Addr) : FT := fun ds S Q _ => ∃ p x, ds = [.int p, .t x] ∧ okT (Cs A) x = true ∧ (∀ rs, seqOf x = some rs → rs.length ≤ 1000) ∧ ∀ r, DoorsTold p x r → Q (.t r) S
def rd_bad_door (A : Str → Addr) : TSD :=
 sSeq (sIf (dNotT (dB (dCall 1 (ft_is_list A) (dCons (dVar 1) (dNil)))))
 (sSeq (sRet (dC (.int 0)))
 (sNext))
 (sNext))
 (sSeq (sFor (iEnumD (dVar 1)) (gTupD 2 (gConsD (gVar 2) (gConsD (gVar 3) (gNilD))))
 (sSeq (sIf (dOrT (dNotT (dB (dCall 2 (ft_is_door A) (dCons (dVar 3) (dCons (dVar 0) (dNil)))))) (dB (dCB cAny (dCons (dLc (iSeq (dSl (dVar 1) (dNoPart) (dPart (dVar 2)))) (gVar 4) (dYes) (dAndV (dOp oEq (dOp oIx (dVar 4) (dC (.int 1))) (dOp oIx (dVar 3) (dC (.int 1)))) (dOp oNe (dOp oIx (dVar 4) (dC (.int 0))) (dOp oIx (dVar 3) (dC (.int 0))))) [4]) (dNil)))))
 (sSeq (sRet (dVar 2))
 (sNext))
 (sNext))
 (sNext)))
 (sSeq (sRet (dC .non))
 (sNext)))
theorem strOk_in : PyData.strOk "in" = true := by decide +kernel
theorem strOk_out : PyData.strOk "out" = true := by decide +kernel
theorem strOk_io {s : Str} (h : s = "in" ∨ s = "out") : PyData.strOk s = true := by
  rcases h with rfl | rfl
  · exact strOk_in
  · exact strOk_out
theorem math_bad_door (A : Str → Addr) : ∀ (ds : List D) (S : Store) (Q : D → Store → Prop) (E : Ex → Prop), ClosedS S.length S → ds.length = 2 → ft_bad_door A ds S Q E → rd_bad_door A (endsOf .raw S Q E) (startD 5 ds) S := by
  rintro ds S Q E hcl _ ⟨p, x, rfl, hx, hlen, q⟩
  have hx1 := okT_ok1 hx
  rcases seqOf_em x with ⟨rs, hs, hs1⟩ | ⟨h, h'⟩
  · have hl := hlen rs hs
    have hz1 : (1010 : Nat) ≤ sizeLine := by decide
    simp [rd_bad_door, ft_is_list, hx1, hs1]
    refine itT_enum hs fun it hit => ?_
    refine for_T hit (fun i ρ' S' => S' = S ∧ (∃ o2 o3, ρ' = [some (.int p), some (.t x), o2, o3, none]) ∧ ∀ j, j < i → ¬ DoorBad p rs j) ⟨rfl, ⟨none, none, rfl⟩, fun j hj => absurd hj (Nat.not_lt_zero _)⟩ ?_ ?_
    · rintro i y ρ' S' hy ⟨rfl, ⟨o2, o3, rfl⟩, hno⟩
      rw [numbered_get] at hy
      cases hr : rs[i]? with
      | none => rw [hr] at hy; cases hy
      | some r =>
        rw [hr] at hy
        have hy : T.tup [.int ((0 + i : Nat) : Int), r] = y := Option.some.inj hy
        subst hy
        obtain ⟨hlt, hr'⟩ := List.getElem?_eq_some_iff.mp hr
        have hrm : r ∈ rs := hr' ▸ List.getElem_mem _
        have hrx := okT_seq hx hs r hrm
        simp only [Nat.zero_add]
        simp [ft_is_door, hrx]
        cases hR : isDoor r p with
        | false =>
          simp
          exact q _ (.inr ⟨rs, hs, .inr ⟨i, rfl, hlt, ⟨r, hr, .inl hR⟩, hno⟩⟩)
        | true =>
          obtain ⟨s, a, k, e, hst, _⟩ := isDoor_inv hR
          have e' := drOf_e e
          have hs2 : seqOf (cutT x none (some (i : Int))) = some (rs.take i) := by rw [seqOf_cutT hs, cutG_to]
          have hall : ∀ o ∈ rs.take i, ∃ (s : Str) (a k : Int), seqOf o = some [.v (.str s), .v (.int a), .v (.int k)] ∧ (s = "in" ∨ s = "out") := by
            intro o ho
            obtain ⟨j, hj⟩ := List.getElem?_of_mem ho
            obtain ⟨hji, hj⟩ := take_get hj
            have := hno j hji
            cases hR' : isDoor o p with
            | true => obtain ⟨s, a, k, e, h, _⟩ := isDoor_inv hR'; exact ⟨s, a, k, e, h⟩
            | false => exact absurd ⟨o, hj, .inl hR'⟩ this
          simp [slD_x hs]
          refine itT_x hs2 fun it2 hit2 => ?_
          refine lc_map (fun o => .bl (decide ((drOf o).2.1 = a) && !decide ((drOf o).1 = s))) hit2 hcl (by simp; omega) ?_ ?_
          · intro o ho S2 Ky hk
            obtain ⟨s2, a2, k2, e2, hst2⟩ := hall o ho
            have e2' := drOf_e e2
            rw [e2'] at hk
            simp [wipeD, oIx_x e, oIx_x e2, strOk_io hst, strOk_io hst2]
            by_cases h1 : a2 = a
            · subst h1
              simp at hk ⊢
              by_cases h2 : s2 = s
              · subst h2; simp at hk ⊢; exact hk
              · have : (s2 == s) = false := by simpa using h2
                simp [h2, this] at hk ⊢; exact hk
            · simp [h1] at hk ⊢; exact hk
          · rw [cAny_map]
            have key : ((rs.take i).any fun o => decide ((drOf o).2.1 = a) && !decide ((drOf o).1 = s)) = true ↔ Clash rs i := by
              rw [List.any_eq_true]
              constructor
              · rintro ⟨o, ho, h⟩
                simp at h
                exact ⟨r, hr, o, ho, by rw [e']; exact h.1, by rw [e']; exact h.2⟩
              · rintro ⟨r2, h2, o, ho, h3, h4⟩
                rw [hr] at h2; cases h2
                rw [e'] at h3 h4
                exact ⟨o, ho, by simp; exact ⟨h3, h4⟩⟩
            cases hc : ((rs.take i).any fun o => decide ((drOf o).2.1 = a) && !decide ((drOf o).1 = s)) with
            | true =>
              simp
              exact q _ (.inr ⟨rs, hs, .inr ⟨i, rfl, hlt, ⟨r, hr, .inr (key.mp hc)⟩, hno⟩⟩)
            | false =>
              simp
              refine fun j hj => ?_
              by_cases hji : j = i
              · subst hji
                rintro ⟨r2, h2, h3⟩
                rw [hr] at h2; cases h2
                rcases h3 with h3 | h3
                · rw [hR] at h3; cases h3
                · rw [key.mpr h3] at hc; cases hc
              · exact hno j (by omega)
    · rintro ρ' S' ⟨rfl, ⟨o2, o3, rfl⟩, hno⟩
      simp
      rw [numbered_len] at hno
      exact q _ (.inr ⟨rs, hs, .inl ⟨rfl, hno⟩⟩)
  · simp [rd_bad_door, ft_is_list, hx1, h]
    exact q _ (.inl ⟨h', rfl⟩)
/-! House.__init__ (self, places, roads, doors) slots: 0=self 1=places 2=roads 3=doors 4=wrong 5=road 6=door -/
abbrev N_House_init : List Str := ["self", "places", "roads", "doors", "wrong", "road", "door"]
abbrev ps_House_init : List Str := ["self", "places", "roads", "doors"]
def houseT (A : Str → Addr) (p : Int) (rs ds : List (List T)) : T := .ins (A "House") [("own_places", .int p), ("own_roads", .lst (rs.map .tup)), ("own_doors", .lst (ds.map .tup))]
/-- a list or tuple, or a list that is a cell -/
def TupD (S : Store) (e : D) (ts : List T) : Prop := (∃ x, e = .t x ∧ seqOf x = some ts) ∨ ∃ j, e = .m j ∧ S[j]? = some (.lst (ts.map .t))
/-- rows passed as they may be -/
structure RowsD (A : Str → Addr) (S : Store) (r : D) (rows : List (List T)) (x : T) (xs : List T) (es : List D) : Prop where
  hes : seqA S r = some es
  tr : r.tree S = some x
  hxs : seqOf x = some xs
  hrows : xs.map seqOf = rows.map some
  len : es.length = rows.length
  row : ∀ (i : Nat) e ts, es[i]? = some e → rows[i]? = some ts → TupD S e ts
  ok : okT (Cs A) x = true
def GoodRoads (p : Int) (rows : List (List T)) : Prop := ∀ i, i < rows.length → ¬ RoadBad p (rows.map .tup) i
def GoodDoors (p : Int) (rows : List (List T)) : Prop := ∀ i, i < rows.length → ¬ DoorBad p (rows.map .tup) i
theorem isRoad_congr {x y : T} {p : Int} (h : seqOf x = seqOf y) : isRoad x p = isRoad y p := by unfold isRoad; rw [h]
theorem rdOf_congr {x y : T} (h : seqOf x = seqOf y) : rdOf x = rdOf y := by unfold rdOf; rw [h]
theorem isDoor_congr {x y : T} {p : Int} (h : seqOf x = seqOf y) : isDoor x p = isDoor y p := by unfold isDoor; rw [h]
theorem drOf_congr {x y : T} (h : seqOf x = seqOf y) : drOf x = drOf y := by unfold drOf; rw [h]
theorem map_get {xs ys : List T} (h : xs.map seqOf = ys.map seqOf) {i : Nat} {x : T} (hx : xs[i]? = some x) : ∃ y, ys[i]? = some y ∧ seqOf x = seqOf y := by
  have h1 : (xs.map seqOf)[i]? = some (seqOf x) := by rw [List.getElem?_map, hx]; rfl
  rw [h, List.getElem?_map] at h1
  cases hy : ys[i]? with
  | none => rw [hy] at h1; cases h1
  | some y => rw [hy] at h1; exact ⟨y, rfl, (Option.some.inj h1).symm⟩
theorem map_take {xs ys : List T} (h : xs.map seqOf = ys.map seqOf) (i : Nat) : (xs.take i).map seqOf = (ys.take i).map seqOf := by rw [List.map_take, List.map_take, h]
theorem map_mem {xs ys : List T} (h : xs.map seqOf = ys.map seqOf) {x : T} (hx : x ∈ xs) : ∃ y ∈ ys, seqOf x = seqOf y := by
  obtain ⟨i, hi⟩ := List.getElem?_of_mem hx
  obtain ⟨y, h1, h2⟩ := map_get h hi
  exact ⟨y, List.mem_of_getElem? h1, h2⟩
theorem Zero_congr {xs ys : List T} (h : xs.map seqOf = ys.map seqOf) {u v : Int} (z : Zero xs u v) : Zero ys u v := by
  obtain ⟨r, hr, h1, h2, h3⟩ := z
  obtain ⟨y, hy, e⟩ := map_mem h hr
  rw [rdOf_congr e] at h1 h2 h3
  exact ⟨y, hy, h1, h2, h3⟩
theorem Reach.mono {E F : Int → Int → Prop} (h : ∀ u v, E u v → F u v) {b v : Int} (r : Reach E b v) : Reach F b v := by
  induction r with
  | refl => exact .refl
  | step _ e ih => exact .step ih (h _ _ e)
theorem RoadBad_congr {xs ys : List T} (h : xs.map seqOf = ys.map seqOf) {p : Int} {i : Nat} (b : RoadBad p xs i) : RoadBad p ys i := by
  obtain ⟨r, hr, h1⟩ := b
  obtain ⟨y, hy, e⟩ := map_get h hr
  refine ⟨y, hy, ?_⟩
  rcases h1 with h1 | ⟨r2, h2, h3, h4⟩
  · exact .inl (by rw [← isRoad_congr e]; exact h1)
  · rw [hr] at h2; cases h2
    rw [rdOf_congr e] at h3 h4
    exact .inr ⟨y, hy, h3, h4.mono fun u v => Zero_congr (map_take h i)⟩
theorem DoorBad_congr {xs ys : List T} (h : xs.map seqOf = ys.map seqOf) {p : Int} {i : Nat} (b : DoorBad p xs i) : DoorBad p ys i := by
  obtain ⟨r, hr, h1⟩ := b
  obtain ⟨y, hy, e⟩ := map_get h hr
  refine ⟨y, hy, ?_⟩
  rcases h1 with h1 | ⟨r2, h2, o, ho, h3, h4⟩
  · exact .inl (by rw [← isDoor_congr e]; exact h1)
  · rw [hr] at h2; cases h2
    obtain ⟨o', ho', e'⟩ := map_mem (map_take h i) ho
    rw [drOf_congr e, drOf_congr e'] at h3 h4
    exact .inr ⟨y, hy, o', ho', h3, h4⟩
/-- asked to make a house: refused or made -/
def HAsk (A : Str → Addr) (S0 : Store) (dp r d : D) (Q : D → Store → Prop) (E : Ex → Prop) : Prop := ∃ xp, dp.tree S0 = some xp ∧ ok1 (Cs A) xp ∧
  ((isPos xp = false ∧ E (A "BadPlaces", [("places", dp)])) ∨
  ∃ (p : Int) (x : T), dp = .int p ∧ 1 ≤ p ∧ r.tree S0 = some x ∧ okT (Cs A) x = true ∧ (∀ xs, seqOf x = some xs → xs.length ≤ 1000) ∧
    ((∃ k : Int, (∀ t, RoadsTold p x t → t = .int k) ∧ E (A "BadRoads", [("index", .int k)])) ∨
    ∃ y : T, (∀ t, RoadsTold p x t → t = .non) ∧ d.tree S0 = some y ∧ okT (Cs A) y = true ∧ (∀ xs, seqOf y = some xs → xs.length ≤ 1000) ∧
      ((∃ k : Int, (∀ t, DoorsTold p y t → t = .int k) ∧ E (A "BadDoors", [("index", .int k)])) ∨
      ∃ (rs drs : List (List T)) (xs ys : List T) (es fs : List D), (∀ t, DoorsTold p y t → t = .non) ∧ RowsD A S0 r rs x xs es ∧ RowsD A S0 d drs y ys fs ∧
        Q .non (S0 ++ [.ins (A "House") [("own_places", .int p), ("own_roads", .t (.lst (rs.map .tup))), ("own_doors", .t (.lst (drs.map .tup)))]]))))
def ft_House_init (A : Str → Addr) : FT := fun ds S Q E => ∃ (S0 : Store) (dp r d : D), ds = [.m S0.length, dp, r, d] ∧ S = S0 ++ [.ins (A "House") []] ∧ ClosedS S0.length S0 ∧ AllFz S0 ∧ HAsk A S0 dp r d Q E
def rd_House_init (A : Str → Addr) : TSD :=
 sSeq (sIf (dNotT (dB (dRO 1 (ft_is_positive A) (dCons (dVar 1) (dNil)))))
 (sSeq (sRaise (A "BadPlaces") "places" (dVar 1))
 (sNext))
 (sNext))
 (sSeq (sAsg (dRO 2 (ft_bad_road A) (dCons (dVar 1) (dCons (dVar 2) (dNil)))) (gVar 4))
 (sSeq (sIf (dB (dOp (oIsN true) (dVar 4) (dC .non)))
 (sSeq (sRaise (A "BadRoads") "index" (dVar 4))
 (sNext))
 (sNext))
 (sSeq (sAsg (dRO 2 (ft_bad_door A) (dCons (dVar 1) (dCons (dVar 3) (dNil)))) (gVar 4))
 (sSeq (sIf (dB (dOp (oIsN true) (dVar 4) (dC .non)))
 (sSeq (sRaise (A "BadDoors") "index" (dVar 4))
 (sNext))
 (sNext))
 (sSeq (sFldD [A "House"] "own_places" (dVar 0) (dVar 1))
 (sSeq (sFldD [A "House"] "own_roads" (dVar 0) (dLc (iSeq (dVar 2)) (gVar 5) (dYes) (dCB cTuple (dCons (dVar 5) (dNil))) [5]))
 (sSeq (sFldD [A "House"] "own_doors" (dVar 0) (dLc (iSeq (dVar 3)) (gVar 6) (dYes) (dCB cTuple (dCons (dVar 6) (dNil))) [6]))
 (sNext))))))))
theorem sFldD_e {Cs : List Addr} {f : Str} {to te : TED} {De : DEnds} {ρ : Env} {S : Store} : sFldD Cs f to te De ρ S = te De.ex ρ S fun y S1 => to De.ex ρ S1 fun x S2 => ∃ i C fs, x = .m i ∧ S2[i]? = some (.ins C fs) ∧ C ∈ Cs ∧ fs.length < 1000 ∧ De.nx ρ (S2.set i (.ins C (putD f y fs))) := rfl
theorem told_non {p : Int} {x r : T} {xs : List T} (hs : seqOf x = some xs) (hg : ∀ i, i < xs.length → ¬ RoadBad p xs i) (h : RoadsTold p x r) : r = .non := by
  rcases h with ⟨h, _⟩ | ⟨rs, h, h1⟩
  · rw [hs] at h; cases h
  · rw [hs] at h; cases h
    rcases h1 with ⟨h1, _⟩ | ⟨k, _, h2, h3, _⟩
    · exact h1
    · exact absurd h3 (hg k h2)
theorem toldD_non {p : Int} {x r : T} {xs : List T} (hs : seqOf x = some xs) (hg : ∀ i, i < xs.length → ¬ DoorBad p xs i) (h : DoorsTold p x r) : r = .non := by
  rcases h with ⟨h, _⟩ | ⟨rs, h, h1⟩
  · rw [hs] at h; cases h
  · rw [hs] at h; cases h
    rcases h1 with ⟨h1, _⟩ | ⟨k, _, h2, h3, _⟩
    · exact h1
    · exact absurd h3 (hg k h2)
theorem RowsD.map {A : Str → Addr} {S r rows x xs es} (h : RowsD A S r rows x xs es) : xs.map seqOf = (rows.map T.tup).map seqOf := by
  rw [h.hrows, List.map_map]
  congr 1
theorem RowsD.xlen {A : Str → Addr} {S r rows x xs es} (h : RowsD A S r rows x xs es) : xs.length = rows.length := by
  have := congrArg List.length h.hrows
  simpa using this
theorem TupD.cTuple {S : Store} {e : D} {ts : List T} (h : TupD S e ts) {Q : D → Store → Prop} {R : Store} (q : Q (.t (.tup ts)) (S ++ R)) : cTuple [e] (S ++ R) Q := by
  rcases h with ⟨x, rfl, hx⟩ | ⟨j, rfl, hj⟩
  · rw [cTuple_x hx]; exact q
  · exact ⟨_, ts.map .t, ts, rfl, .inl ⟨seqL_app (seqL_m hj), asTs_map ts, q⟩⟩
theorem trees_nil {S : Store} : trees S [] = some [] := rfl
theorem tree_refD {S : Store} {d : D} {t : T} (h : d.tree S = some t) : refD S.length d := by
  cases d with
  | t x => exact trivial
  | m i =>
    show i < S.length
    unfold D.tree frz at h
    cases hi : S[i]? with
    | none => rw [hi] at h; cases h
    | some c => exact (List.getElem?_eq_some_iff.mp hi).1
theorem refD_mono {n m : Nat} {d : D} (h : refD n d) (hm : n ≤ m) : refD m d := by
  cases d with
  | t x => exact trivial
  | m i => exact Nat.lt_of_lt_of_le h hm
theorem isPos_ge {p : Int} (h : 1 ≤ p) : isPos (.v (.int p)) = true := by simp [h]
theorem math_House_init (A : Str → Addr) : ∀ (ds : List D) (S : Store) (Q : D → Store → Prop) (E : Ex → Prop), ClosedS S.length S → ds.length = 4 → ft_House_init A ds S Q E → rd_House_init A (endsOf .raw S Q E) (startD 7 ds) S := by
  rintro ds S Q E hcl _ ⟨S0, dp, r, d, rfl, rfl, hc0, hA, xp, hxp, hop, q⟩
  have hz1 : (1010 : Nat) ≤ sizeLine := by decide
  have hA1 : AllFz (S0 ++ [.ins (A "House") []]) := AllFz.ins (fs := []) hA
  rcases q with ⟨hb, q⟩ | ⟨p, x, rfl, hp, hx, hox, hlx, q⟩
  · have tp := tree_app (R := [.ins (A "House") []]) hxp
    simp [rd_House_init, ft_is_positive, hA1, trees_cons tp trees_nil, hop, hb]
    exact exEnd (fun z hz => by
      have : z = ((("places" : Str), dp) : Str × D) := by simpa using hz
      subst this; exact refD_mono (tree_refD hxp) (by simp)) q
  have tp : D.tree (S0 ++ [.ins (A "House") []]) (.int p) = some (.int p) := tree_t
  have tx := tree_app (R := [.ins (A "House") []]) hx
  simp [rd_House_init, ft_is_positive, ft_bad_road, ft_bad_door, hA1, trees_cons tp trees_nil, trees_cons tp (trees_cons tx trees_nil), hp, hox]
  refine ⟨hlx, fun t ht => ?_⟩
  rcases q with ⟨k, hk, q⟩ | ⟨y, hn, hy, hoy, hly, q⟩
  · obtain rfl := hk t ht
    simp
    exact exEnd1 q
  obtain rfl := hn t ht
  have ty := tree_app (R := [.ins (A "House") []]) hy
  simp [hA1, trees_cons tp (trees_cons ty trees_nil), hoy]
  refine ⟨hly, fun t ht => ?_⟩
  rcases q with ⟨k, hk, q⟩ | ⟨rs, drs, xs, ys, es, fs, hn2, hr, hd, q⟩
  · obtain rfl := hk t ht
    simp
    exact exEnd1 q
  obtain rfl := hn2 t ht
  have hl1 := hlx _ hr.hxs
  have hl2 := hly _ hd.hxs
  rw [hr.xlen] at hl1
  rw [hd.xlen] at hl2
  simp [sFldD_e]
  refine itG_x (seqA_app hr.hes) fun it hit => ?_
  refine lc_mapD (rs.map .tup) hit (hc0.app (refC_ins (fs := [("own_places", .int p)]))) (by simp [hr.len]) (by simp; omega) ?_ ?_
  · intro i e u he hu c Ky hk
    rw [List.getElem?_map] at hu
    cases hi : rs[i]? with
    | none => rw [hi] at hu; cases hu
    | some ts =>
      rw [hi] at hu
      have hu : T.tup ts = u := Option.some.inj hu
      subst hu
      simp [wipeD]
      have := hr.row i e ts he hi
      exact this.cTuple (by simpa using hk)
  · simp
    refine ⟨by simp [putD], ?_⟩
    refine itG_x (seqA_app hd.hes) fun it hit => ?_
    refine lc_mapD (drs.map .tup) hit (hc0.app (refC_ins (fs := [("own_places", .int p), ("own_roads", .lst (rs.map .tup))]))) (by simp [hd.len]) (by simp; omega) ?_ ?_
    · intro i e u he hu c Ky hk
      rw [List.getElem?_map] at hu
      cases hi : drs[i]? with
      | none => rw [hi] at hu; cases hu
      | some ts =>
        rw [hi] at hu
        have hu : T.tup ts = u := Option.some.inj hu
        subst hu
        simp [wipeD]
        have := hd.row i e ts he hi
        exact this.cTuple (by simpa using hk)
    · simp
      refine ⟨by simp [putD]; split <;> simp, ?_⟩
      have e : putD "own_doors" (.t (.lst (drs.map .tup))) (putD "own_roads" (.t (.lst (rs.map .tup))) (putD "own_places" (.int p) [])) = ([("own_places", .int p), ("own_roads", .t (.lst (rs.map .tup))), ("own_doors", .t (.lst (drs.map .tup)))] : List (Str × D)) := rfl
      rw [e]
      exact q
theorem RowsD.good {A : Str → Addr} {S : Store} {r : D} {rs : List (List T)} {x : T} {xs : List T} {es : List D} {p : Int} (h : RowsD A S r rs x xs es) (hg : GoodRoads p rs) : ∀ t, RoadsTold p x t → t = .non := fun t ht => told_non h.hxs (fun i hi b => hg i (by rw [← h.xlen]; exact hi) (RoadBad_congr h.map b)) ht
theorem RowsD.goodD {A : Str → Addr} {S : Store} {r : D} {rs : List (List T)} {x : T} {xs : List T} {es : List D} {p : Int} (h : RowsD A S r rs x xs es) (hg : GoodDoors p rs) : ∀ t, DoorsTold p x t → t = .non := fun t ht => toldD_non h.hxs (fun i hi b => hg i (by rw [← h.xlen]; exact hi) (DoorBad_congr h.map b)) ht
theorem told_no {p : Int} {x : T} (h : seqOf x = none) : ∀ t, RoadsTold p x t → t = .int 0 := by
  rintro t (⟨_, ht⟩ | ⟨xs, hs, _⟩)
  · exact ht
  · rw [h] at hs; cases hs
theorem toldD_no {p : Int} {x : T} (h : seqOf x = none) : ∀ t, DoorsTold p x t → t = .int 0 := by
  rintro t (⟨_, ht⟩ | ⟨xs, hs, _⟩)
  · exact ht
  · rw [h] at hs; cases hs
theorem told_at {p : Int} {x : T} {xs : List T} {k : Nat} (hs : seqOf x = some xs) (hb : RoadBad p xs k) (hn : ∀ i, i < k → ¬ RoadBad p xs i) : ∀ t, RoadsTold p x t → t = .int k := by
  rintro t (⟨h, _⟩ | ⟨ys, h, h1⟩)
  · rw [hs] at h; cases h
  · rw [hs] at h; cases h
    rcases h1 with ⟨_, h2⟩ | ⟨j, rfl, hj, hbj, hnj⟩
    · obtain ⟨r, hr, _⟩ := id hb
      exact absurd hb (h2 k (List.getElem?_eq_some_iff.mp hr).1)
    · have : j = k := by
        rcases Nat.lt_trichotomy j k with h3 | h3 | h3
        · exact absurd hbj (hn j h3)
        · exact h3
        · exact absurd hb (hnj k h3)
      rw [this]
theorem toldD_at {p : Int} {x : T} {xs : List T} {k : Nat} (hs : seqOf x = some xs) (hb : DoorBad p xs k) (hn : ∀ i, i < k → ¬ DoorBad p xs i) : ∀ t, DoorsTold p x t → t = .int k := by
  rintro t (⟨h, _⟩ | ⟨ys, h, h1⟩)
  · rw [hs] at h; cases h
  · rw [hs] at h; cases h
    rcases h1 with ⟨_, h2⟩ | ⟨j, rfl, hj, hbj, hnj⟩
    · obtain ⟨r, hr, _⟩ := id hb
      exact absurd hb (h2 k (List.getElem?_eq_some_iff.mp hr).1)
    · have : j = k := by
        rcases Nat.lt_trichotomy j k with h3 | h3 | h3
        · exact absurd hbj (hn j h3)
        · exact h3
        · exact absurd hb (hnj k h3)
      rw [this]
/-! House.places (self) slots: 0=self -/
abbrev N_House_places : List Str := ["self"]
abbrev ps_House_places : List Str := ["self"]
/-- d is such a house -/
def houseFs (p : Int) (rs ds : List (List T)) : List (Str × D) := [("own_places", .int p), ("own_roads", .t (.lst (rs.map .tup))), ("own_doors", .t (.lst (ds.map .tup)))]
def HouseD (A : Str → Addr) (S : Store) (d : D) (p : Int) (rs ds : List (List T)) : Prop := insOf S d = some (A "House", houseFs p rs ds)
theorem houseD_t {A : Str → Addr} {S : Store} {p : Int} {rs ds : List (List T)} : HouseD A S (.t (houseT A p rs ds)) p rs ds := rfl
def ft_House_places (A : Str → Addr) : FT := fun ds S Q _ => ∃ d p rs drs, ds = [d] ∧ HouseD A S d p rs drs ∧ Q (.int p) S
def rd_House_places (A : Str → Addr) : TSD :=
 sSeq (sRet (dFld [A "House"] "own_places" (dVar 0)))
 (sNext)
@[simp] theorem dFld_e {Cs : List Addr} {f : Str} {t : TED} {X : XQ} {ρ : Env} {S : Store} {Q} : dFld Cs f t X ρ S Q = t X ρ S fun d S1 => ∃ C fs v, insOf S1 d = some (C, fs) ∧ C ∈ Cs ∧ fs.lookup f = some v ∧ Q v S1 := rfl
theorem math_House_places (A : Str → Addr) : ∀ (ds : List D) (S : Store) (Q : D → Store → Prop) (E : Ex → Prop), ClosedS S.length S → ds.length = 1 → ft_House_places A ds S Q E → rd_House_places A (endsOf .raw S Q E) (startD 1 ds) S := by
  rintro ds S Q E _ _ ⟨d, p, rs, drs, rfl, h, q⟩
  simp [rd_House_places]
  exact ⟨_, _, h, rfl, _, rfl, q⟩
/-! House.roads (self) slots: 0=self -/
abbrev N_House_roads : List Str := ["self"]
abbrev ps_House_roads : List Str := ["self"]
def ft_House_roads (A : Str → Addr) : FT := fun ds S Q _ => ∃ d p rs drs, ds = [d] ∧ HouseD A S d p rs drs ∧ Q (.t (.lst (rs.map .tup))) S
def ft_House_roadsM (A : Str → Addr) : FT := fun ds S Q _ => ∃ d p rs drs, ds = [d] ∧ HouseD A S d p rs drs ∧ Q (.m S.length) (S ++ [.lst ((rs.map .tup).map .t)])
def rd_House_roads (A : Str → Addr) : TSD :=
 sSeq (sRet (dCB cListM (dCons (dFld [A "House"] "own_roads" (dVar 0)) (dNil))))
 (sNext)
theorem math_House_roads (A : Str → Addr) : ∀ (ds : List D) (S : Store) (Q : D → Store → Prop) (E : Ex → Prop), ClosedS S.length S → ds.length = 1 → ft_House_roads A ds S Q E → rd_House_roads A (endsOf .tree S Q E) (startD 1 ds) S := by
  rintro ds S Q E hc _ ⟨d, p, rs, drs, rfl, h, q⟩
  simp [rd_House_roads]
  refine ⟨_, _, h, rfl, _, rfl, ?_⟩
  rw [cListM_x rfl]
  exact rTree_of (S0 := S) (t := .lst (rs.map .tup)) (frz_lst (i := S.length) (get_end rfl) (Nat.le_refl _)) (by simp) hc q
theorem math_House_roadsM (A : Str → Addr) : ∀ (ds : List D) (S : Store) (Q : D → Store → Prop) (E : Ex → Prop), ClosedS S.length S → ds.length = 1 → ft_House_roadsM A ds S Q E → rd_House_roads A (endsOf .top S Q E) (startD 1 ds) S := by
  rintro ds S Q E hc _ ⟨d, p, rs, drs, rfl, h, q⟩
  simp [rd_House_roads]
  refine ⟨_, _, h, rfl, _, rfl, ?_⟩
  rw [cListM_x rfl]
  exact ⟨S.length, _, rfl, Nat.le_refl _, get_end rfl, refC_lst, by simpa using hc, by simpa using q⟩
/-! House.doors (self) slots: 0=self -/
abbrev N_House_doors : List Str := ["self"]
abbrev ps_House_doors : List Str := ["self"]
def ft_House_doors (A : Str → Addr) : FT := fun ds S Q _ => ∃ d p rs drs, ds = [d] ∧ HouseD A S d p rs drs ∧ Q (.t (.lst (drs.map .tup))) S
def ft_House_doorsM (A : Str → Addr) : FT := fun ds S Q _ => ∃ d p rs drs, ds = [d] ∧ HouseD A S d p rs drs ∧ Q (.m S.length) (S ++ [.lst ((drs.map .tup).map .t)])
def rd_House_doors (A : Str → Addr) : TSD :=
 sSeq (sRet (dCB cListM (dCons (dFld [A "House"] "own_doors" (dVar 0)) (dNil))))
 (sNext)
theorem math_House_doors (A : Str → Addr) : ∀ (ds : List D) (S : Store) (Q : D → Store → Prop) (E : Ex → Prop), ClosedS S.length S → ds.length = 1 → ft_House_doors A ds S Q E → rd_House_doors A (endsOf .tree S Q E) (startD 1 ds) S := by
  rintro ds S Q E hc _ ⟨d, p, rs, drs, rfl, h, q⟩
  simp [rd_House_doors]
  refine ⟨_, _, h, rfl, _, rfl, ?_⟩
  rw [cListM_x rfl]
  exact rTree_of (S0 := S) (t := .lst (drs.map .tup)) (frz_lst (i := S.length) (get_end rfl) (Nat.le_refl _)) (by simp) hc q
theorem math_House_doorsM (A : Str → Addr) : ∀ (ds : List D) (S : Store) (Q : D → Store → Prop) (E : Ex → Prop), ClosedS S.length S → ds.length = 1 → ft_House_doorsM A ds S Q E → rd_House_doors A (endsOf .top S Q E) (startD 1 ds) S := by
  rintro ds S Q E hc _ ⟨d, p, rs, drs, rfl, h, q⟩
  simp [rd_House_doors]
  refine ⟨_, _, h, rfl, _, rfl, ?_⟩
  rw [cListM_x rfl]
  exact ⟨S.length, _, rfl, Nat.le_refl _, get_end rfl, refC_lst, by simpa using hc, by simpa using q⟩
/-! House.__eq__ (self, other) slots: 0=self 1=other -/
abbrev N_House_eq : List Str := ["self", "other"]
abbrev ps_House_eq : List Str := ["self", "other"]
def rowsT (rs : List (List T)) : T := .lst (rs.map .tup)
/-- houses are equal just if all three are -/
def eqH (p : Int) (rs ds : List (List T)) (p' : Int) (rs' ds' : List (List T)) : Bool := (p == p') && (eqT (rowsT rs) (rowsT rs') && eqT (rowsT ds) (rowsT ds'))
def ft_House_eq (A : Str → Addr) : FT := fun as S Q _ => ∃ d e p rs ds, as = [d, e] ∧ HouseD A S d p rs ds ∧ dat 64 (rowsT rs) = true ∧ dat 64 (rowsT ds) = true ∧
  ((∃ ty, tyD S e = some ty ∧ (∀ C, ty ≠ .own C) ∧ Q (.bl false) S) ∨ ∃ p' rs' ds', HouseD A S e p' rs' ds' ∧ tyD S e = some (.own (A "House")) ∧ dat 64 (rowsT rs') = true ∧ dat 64 (rowsT ds') = true ∧ Q (.bl (eqH p rs ds p' rs' ds')) S)
def rd_House_eq (A : Str → Addr) : TSD :=
 sSeq (sIf (dNotT (dB (dCB (cIsi (Cs A)) (dCons (dVar 1) (dCons (dC (.ref (A "House"))) (dNil))))))
 (sSeq (sRet (dC (.bl false)))
 (sNext))
 (sNext))
 (sSeq (sIf (dOrT (dB (dOp oNe (dFld [A "House"] "own_places" (dVar 0)) (dFld [A "House"] "own_places" (dVar 1)))) (dB (dOp oNe (dFld [A "House"] "own_roads" (dVar 0)) (dFld [A "House"] "own_roads" (dVar 1)))))
 (sSeq (sRet (dC (.bl false)))
 (sNext))
 (sNext))
 (sSeq (sRet (dOp oEq (dFld [A "House"] "own_doors" (dVar 0)) (dFld [A "House"] "own_doors" (dVar 1))))
 (sNext)))
theorem isi_own_no {Cs : List Addr} {C : Addr} {S : Store} {d : D} {ty : Ty} {Q : D → Store → Prop} (h : tyD S d = some ty) (hn : ∀ C, ty ≠ .own C) (hC : C ∈ Cs) (q : Q (.bl false) S) : cIsi Cs [d, .t (.v (.ref C))] S Q :=
  ⟨d, ty, h, .inl ⟨.ref C, false, rfl, by cases ty <;> first | exact if_pos hC | exact absurd rfl (hn _), q⟩⟩
theorem isi_own_yes {Cs : List Addr} {C : Addr} {S : Store} {d : D} {Q : D → Store → Prop} (h : tyD S d = some (.own C)) (hC : C ∈ Cs) (q : Q (.bl true) S) : cIsi Cs [d, .t (.v (.ref C))] S Q :=
  ⟨d, _, h, .inl ⟨.ref C, true, rfl, if_pos ⟨hC, rfl⟩, q⟩⟩
theorem math_House_eq (A : Str → Addr) : ∀ (ds : List D) (S : Store) (Q : D → Store → Prop) (E : Ex → Prop), ClosedS S.length S → ds.length = 2 → ft_House_eq A ds S Q E → rd_House_eq A (endsOf .raw S Q E) (startD 2 ds) S := by
  rintro as S Q E _ _ ⟨d, e, p, rs, ds, rfl, h, d1, d2, h2⟩
  have hC : A "House" ∈ Cs A := by simp [Cs]
  simp [rd_House_eq]
  rcases h2 with ⟨ty, ht, hn, q⟩ | ⟨p', rs', ds', h', ht, d3, d4, q⟩
  · refine isi_own_no ht hn hC ?_
    simp
    exact q
  · refine isi_own_yes ht hC ?_
    simp
    refine ⟨_, _, h, rfl, _, rfl, _, _, h', rfl, _, rfl, ?_⟩
    rw [oNe_t (by simp) (by simp)]
    simp
    unfold eqH at q
    by_cases hp : p = p'
    · subst hp
      simp
      refine ⟨_, _, h, rfl, _, rfl, _, _, h', rfl, _, rfl, ?_⟩
      simp only [rowsT] at d1 d2 d3 d4
      rw [oNe_t d1 d3]
      cases hr : eqT (rowsT rs) (rowsT rs') with
      | true =>
        simp only [rowsT] at hr
        simp [hr]
        refine ⟨_, _, h, rfl, _, rfl, _, _, h', rfl, _, rfl, ?_⟩
        rw [oEq_t d2 d4]
        simpa [rowsT, hr] using q
      | false =>
        rw [hr] at q
        simp only [rowsT] at hr
        simp [hr]
        simpa using q
    · have hp' : (p == p') = false := by simpa using hp
      rw [hp'] at q
      simp [hp]
      simpa using q
/-! _law_stream (_law_script) slots: 0=_law_script -/
abbrev N_law_stream : List Str := ["_law_script"]
abbrev ps_law_stream : List Str := ["_law_script"]
def ft_law_stream (A : Str → Addr) : FT := fun _ _ _ _ => False
-- no reading: by hand
/-! _law_draw (_law_stream_here, _law_many) slots: 0=_law_stream_here 1=_law_many 2=_law_cell 3=_law_digit 4=_law_mixed_here -/
abbrev N_law_draw : List Str := ["_law_stream_here", "_law_many", "_law_cell", "_law_digit", "_law_mixed_here"]
abbrev ps_law_draw : List Str := ["_law_stream_here", "_law_many"]
abbrev ft_law_draw (A : Str → Addr) : FT := ftDraw
def rd_law_draw (A : Str → Addr) : TSD :=
 sSeq (sAsg (dOp oAdd (dOp oIx (dVar 0) (dC (.int 2))) (dC (.int 1))) (gSubD (dVar 0) (dC (.int 2))))
 (sSeq (sWhile (dAndT (dB (dOp oEq (dOp oIx (dVar 0) (dC (.int 1))) (dC (.int 0)))) (dB (dOp oNe (dOp oIx (dVar 0) (dC (.int 0))) (dLst (dNil)))))
 (sSeq (sAsg (dCB cAbs (dCons (dBM tyLst mPopAt (dOp oIx (dVar 0) (dC (.int 0))) (dCons (dC (.int 0)) (dNil))) (dNil))) (gVar 2))
 (sSeq (sAsg (dOp (oI (fun _ j => 0 < j) fun i j => .int (i % j)) (dCB cInt (dCons (dOp oAdd (dOp oAdd (dOp oMul (dOp oIx (dVar 0) (dC (.int 3))) (dC (.int 8191))) (dVar 2)) (dC (.int 3))) (dNil))) (dC (.int 2147483647))) (gSubD (dVar 0) (dC (.int 3))))
 (sSeq (sAsg (dIf (dB (dOp (oI0 fun i j => .bl (decide (j ≤ i))) (dVar 2) (dOp (oI CPowW fun i j => .int (i ^ j.toNat)) (dC (.int 10)) (dC (.int 18))))) (dVar 2) (dC (.int 0))) (gSubD (dVar 0) (dC (.int 1))))
 (sNext)))))
 (sSeq (sIf (dB (dOp (oI0 fun i j => .bl (decide (j < i))) (dOp oIx (dVar 0) (dC (.int 1))) (dC (.int 0))))
 (sSeq (sAsg (dOp (oI (fun _ j => 0 < j) fun i j => .int (i % j)) (dCB cInt (dCons (dOp oIx (dVar 0) (dC (.int 1))) (dNil))) (dVar 1)) (gVar 3))
 (sSeq (sAsg (dOp (oI CDivW fun i j => .int (i / j)) (dOp oIx (dVar 0) (dC (.int 1))) (dVar 1)) (gSubD (dVar 0) (dC (.int 1))))
 (sSeq (sRet (dVar 3))
 (sNext))))
 (sNext))
 (sSeq (sAsg (dOp (oI (fun _ j => 0 < j) fun i j => .int (i % j)) (dCB cInt (dCons (dOp (oI CPowW fun i j => .int (i ^ j.toNat)) (dOp oAdd (dOp oAdd (dOp oIx (dVar 0) (dC (.int 3))) (dOp oMul (dC (.int 7919)) (dOp oIx (dVar 0) (dC (.int 2))))) (dC (.int 104729))) (dC (.int 5))) (dNil))) (dC (.int 2147483629))) (gVar 4))
 (sSeq (sRet (dOp (oI (fun _ j => 0 < j) fun i j => .int (i % j)) (dOp (oI (fun _ j => 0 < j) fun i j => .int (i % j)) (dCB cInt (dCons (dOp (oI CPowW fun i j => .int (i ^ j.toNat)) (dOp oAdd (dOp oAdd (dOp oMul (dVar 4) (dC (.int 48271))) (dOp oMul (dC (.int 30011)) (dOp oIx (dVar 0) (dC (.int 2))))) (dC (.int 29))) (dC (.int 3))) (dNil))) (dC (.int 1000000007))) (dVar 1)))
 (sNext)))))
section
variable {S0 : Store} {ns : List Int} {x y z : Int} {Q : D → Store → Prop}
theorem o_g0 (hl : 2 ≤ S0.length) : (openS S0 ns x y z)[0]? = some (.lst (ns.map .int)) := by rw [openS_get hl]; rfl
theorem o_g1 (hl : 2 ≤ S0.length) : (openS S0 ns x y z)[1]? = some (.lst [.m 0, .int x, .int y, .int z]) := by rw [openS_get hl]; rfl
theorem o_i0 (hl : 2 ≤ S0.length) : oIx (.m 1) (.t (.v (.int 0))) (openS S0 ns x y z) Q = Q (.m 0) (openS S0 ns x y z) := oIx_me (seqA_m (o_g1 hl)) rfl
theorem o_i1 (hl : 2 ≤ S0.length) : oIx (.m 1) (.t (.v (.int 1))) (openS S0 ns x y z) Q = Q (.int x) (openS S0 ns x y z) := oIx_me (seqA_m (o_g1 hl)) rfl
theorem o_i2 (hl : 2 ≤ S0.length) : oIx (.m 1) (.t (.v (.int 2))) (openS S0 ns x y z) Q = Q (.int y) (openS S0 ns x y z) := oIx_me (seqA_m (o_g1 hl)) rfl
theorem o_i3 (hl : 2 ≤ S0.length) : oIx (.m 1) (.t (.v (.int 3))) (openS S0 ns x y z) Q = Q (.int z) (openS S0 ns x y z) := oIx_me (seqA_m (o_g1 hl)) rfl
theorem o_set (v w t : Int) : (openS S0 ns x y z).set 1 (.lst [.m 0, .int v, .int w, .int t]) = openS S0 ns v w t := by unfold openS; rw [List.set_set]
theorem o_pop (ms : List Int) : (openS S0 ns x y z).set 0 (.lst (ms.map .int)) = openS S0 ms x y z := by
  unfold openS
  rw [List.set_comm _ _ (by omega), List.set_set]
theorem o_s1 (hl : 2 ≤ S0.length) {v : Int} {Q : Store → Prop} (q : Q (openS S0 ns v y z)) : subI (.m 1) (.t (.v (.int 1))) (.t (.v (.int v))) (openS S0 ns x y z) Q := subI_of (o_g1 hl) (j := 1) rfl (by show Q ((openS S0 ns x y z).set 1 (.lst [.m 0, .int v, .int y, .int z])); rw [o_set]; exact q)
theorem o_s2 (hl : 2 ≤ S0.length) {v : Int} {Q : Store → Prop} (q : Q (openS S0 ns x v z)) : subI (.m 1) (.t (.v (.int 2))) (.t (.v (.int v))) (openS S0 ns x y z) Q := subI_of (o_g1 hl) (j := 2) rfl (by show Q ((openS S0 ns x y z).set 1 (.lst [.m 0, .int x, .int v, .int z])); rw [o_set]; exact q)
theorem o_s3 (hl : 2 ≤ S0.length) {v : Int} {Q : Store → Prop} (q : Q (openS S0 ns x y v)) : subI (.m 1) (.t (.v (.int 3))) (.t (.v (.int v))) (openS S0 ns x y z) Q := subI_of (o_g1 hl) (j := 3) rfl (by show Q ((openS S0 ns x y z).set 1 (.lst [.m 0, .int x, .int y, .int v])); rw [o_set]; exact q)
theorem o_tree (hl : 2 ≤ S0.length) : D.tree (openS S0 ns x y z) (.m 0) = some (iL ns) := by
  unfold D.tree frz
  rw [o_g0 hl]
  show (if 0 ≤ 0 then (frzL 0 _ _ (ns.map D.int)).map T.lst else none) = _
  rw [if_pos (Nat.le_refl _)]
  have : ns.map D.int = (ns.map T.int).map D.t := by simp
  rw [this, frzL_map]
  rfl
theorem o_ne (hl : 2 ≤ S0.length) : oNe (.m 0) (.t (.lst [])) (openS S0 ns x y z) Q = Q (.bl (!ns.isEmpty)) (openS S0 ns x y z) := by
  rw [oNe_of (o_tree hl) tree_t dat_iL (by rw [dat_lst]; simp)]
  cases ns <;> simp [iL]
end
theorem natAbs_cell {n : Int} {B : Nat} (h : n.natAbs < B) : 0 ≤ (if n < 0 then -n else n) ∧ (if n < 0 then -n else n).natAbs < B := by
  split <;> omega
theorem mod_rng (a b : Int) (h : 0 < b) : 0 ≤ a % b ∧ a % b < b := ⟨Int.emod_nonneg _ (by omega), Int.emod_lt_of_pos _ h⟩
def W_draw (S0 : Store) (many : Int) (b : Nat) (m : Nat) (ρ' : Env) (S' : Store) : Prop := ∃ (ns : List Int) (x y z : Int) (o : Option D), S' = openS S0 ns x y z ∧ m = ns.length ∧ StrmB ns x y z b ∧ 1 ≤ y ∧ ρ' = [some (.m 1), some (.int many), o, none, none]
theorem pow54 {v : Int} (h0 : 0 ≤ v) (h : v < 2 ^ 54) (j : Int) (hj : 0 ≤ j) (hj2 : j ≤ 100) : CPowW v j := by
  refine ⟨hj, ?_⟩
  have : Builtin.Int.intBits v ≤ 54 := by
    unfold Builtin.Int.intBits
    split
    · omega
    · rename_i hv
      have h1 : v.natAbs < 2 ^ 54 := by omega
      have h2 : v.natAbs ≠ 0 := by simpa using hv
      have := (Nat.log2_lt h2).mpr h1
      omega
  have h3 : (Builtin.Int.intBits v : Int) ≤ 54 := by omega
  have : (Builtin.Int.intBits v : Int) * j ≤ 54 * 100 := Int.mul_le_mul h3 hj2 hj (by omega)
  omega
theorem draw_tail {S0 : Store} {ns : List Int} {x y z many : Int} {b : Nat} {Q : D → Store → Prop} (hm1 : 1 ≤ many) (sb : StrmB ns x y z b) (q : ∀ k : Int, 0 ≤ k → k < many → Q (.int k) (openS S0 ns x y z)) :
    CMulW 7919 y ∧ CPowW (z + 7919 * y + 104729) 5 ∧ CMulW ((z + 7919 * y + 104729) ^ 5 % 2147483629) 48271 ∧ CMulW 30011 y ∧ CPowW ((z + 7919 * y + 104729) ^ 5 % 2147483629 * 48271 + 30011 * y + 29) 3 ∧ 0 < many ∧
      Q (D.t (T.v (V.int (((z + 7919 * y + 104729) ^ 5 % 2147483629 * 48271 + 30011 * y + 29) ^ 3 % 1000000007 % many)))) (openS S0 ns x y z) := by
  have hy0 := sb.y0
  have hy1 := sb.y1
  have hz0 := sb.z0
  have hz1 := sb.z1
  have r1 := mod_rng ((z + 7919 * y + 104729) ^ 5) 2147483629 (by omega)
  generalize (z + 7919 * y + 104729) ^ 5 % 2147483629 = u at r1 ⊢
  refine ⟨wide_mul (a := 13) (b := 41) (by omega) (by omega) (by omega) (by omega) (by omega), pow54 (by omega) (by omega) 5 (by omega) (by omega), wide_mul (a := 31) (b := 16) (by omega) (by omega) (by omega) (by omega) (by omega),
    wide_mul (a := 15) (b := 41) (by omega) (by omega) (by omega) (by omega) (by omega), ?_, by omega, ?_⟩
  · -- below 2 ^ 57
    refine ⟨by omega, ?_⟩
    have h0 : 0 ≤ u * 48271 + 30011 * y + 29 := by omega
    have h1 : u * 48271 + 30011 * y + 29 < 2 ^ 57 := by omega
    generalize u * 48271 + 30011 * y + 29 = v at h0 h1 ⊢
    have : Builtin.Int.intBits v ≤ 57 := by
      unfold Builtin.Int.intBits
      split
      · omega
      · rename_i hv
        have h1 : v.natAbs < 2 ^ 57 := by omega
        have h2 : v.natAbs ≠ 0 := by simpa using hv
        have := (Nat.log2_lt h2).mpr h1
        omega
    omega
  · have r2 := mod_rng ((u * 48271 + 30011 * y + 29) ^ 3 % 1000000007) many (by omega)
    exact q _ r2.1 r2.2
theorem math_law_draw (A : Str → Addr) : ∀ (ds : List D) (S : Store) (Q : D → Store → Prop) (E : Ex → Prop), ClosedS S.length S → ds.length = 2 → ftDrawO ds S Q E → rd_law_draw A (endsOf .raw S Q E) (startD 5 ds) S := by
  rintro ds S Q E hcl _ ⟨S0, ns, x, y, z, many, b, rfl, hm1, hm2, rfl, e0, e1, sb, q⟩
  have hl := strm_len e1
  simp [rd_law_draw, o_i0 hl, o_i1 hl, o_i2 hl, o_i3 hl]
  refine o_s2 hl ?_
  have sb1 : StrmB ns x (y + 1) z b := ⟨sb.ns, sb.x0, sb.x1, by have := sb.y0; omega, by have := sb.y1; omega, sb.z0, sb.z1⟩
  refine while_I (W_draw S0 many b) _ ⟨ns, x, y + 1, z, none, rfl, rfl, sb1, by have := sb.y0; omega, rfl⟩ ?_
  rintro m ρ' S' ⟨ns, x, y, z, o, rfl, rfl, sb, hy, rfl⟩
  simp [o_i0 hl, o_i1 hl, o_i2 hl, o_i3 hl, o_ne hl]
  by_cases hx : x = 0
  · subst hx
    cases ns with
    | cons n ns =>
      simp
      refine loop_I ?_
      simp [o_i0 hl, o_i1 hl, o_i2 hl, o_i3 hl, o_ne hl]
      refine ⟨tyLst_m (o_g0 hl), popAt_of (k := 0) (o_g0 hl) (by omega) rfl ?_⟩
      simp only [List.map_cons, List.eraseIdx_cons_zero, o_pop]
      simp [o_i0 hl, o_i1 hl, o_i2 hl, o_i3 hl]
      have hn := sb.ns n (by simp)
      obtain ⟨c0, c1⟩ := natAbs_cell hn
      generalize (if n < 0 then -n else n) = c at c0 c1 ⊢
      have hz0 := sb.z0
      have hz1 := sb.z1
      refine ⟨wide_mul (a := 31) (b := 13) (by omega) (by omega) (by omega) (by omega) (by omega), o_s3 hl ?_⟩
      have rz := mod_rng (z * 8191 + c + 3) 2147483647 (by omega)
      have hp : CPowW 10 18 := pow54 (by omega) (by omega) 18 (by omega) (by omega)
      refine ⟨hp, ?_⟩
      by_cases hc : 1000000000000000000 ≤ c
      · rw [if_pos hc]
        refine o_s1 hl ⟨ns.length, by omega, ns, c, y, _, _, rfl, rfl, ⟨fun m hm => sb.ns m (by simp [hm]), c0, c1, sb.y0, sb.y1, rz.1, by omega⟩, hy, rfl⟩
      · rw [if_neg hc]
        refine o_s1 hl ⟨ns.length, by omega, ns, 0, y, _, _, rfl, rfl, ⟨fun m hm => sb.ns m (by simp [hm]), by omega, Nat.pow_pos (by omega), sb.y0, sb.y1, rz.1, by omega⟩, hy, rfl⟩
    | nil =>
      simp [o_i0 hl, o_i1 hl, o_i2 hl, o_i3 hl]
      exact draw_tail hm1 sb fun k h1 h2 => q k _ _ _ _ h1 h2 sb
  · simp [hx, o_i0 hl, o_i1 hl, o_i2 hl, o_i3 hl]
    by_cases hx0 : 0 < x
    · rw [if_pos hx0]
      have rx := mod_rng x many (by omega)
      have d0 : 0 ≤ x / many := Int.ediv_nonneg (by omega) (by omega)
      have d1 : x / many ≤ x := Int.ediv_le_self _ (by omega)
      refine ⟨by omega, wide_div (b := 62) (by omega) (by omega) (by omega) (by omega), o_s1 hl (q _ _ _ _ _ rx.1 rx.2 ⟨sb.ns, d0, wide_le d0 d1 sb.x1, sb.y0, sb.y1, sb.z0, sb.z1⟩)⟩
    · rw [if_neg hx0]
      exact draw_tail hm1 sb fun k h1 h2 => q k _ _ _ _ h1 h2 sb
/-! _law_pick (_law_stream_here, _law_things) slots: 0=_law_stream_here 1=_law_things -/
abbrev N_law_pick : List Str := ["_law_stream_here", "_law_things"]
abbrev ps_law_pick : List Str := ["_law_stream_here", "_law_things"]
def ft_law_pick (A : Str → Addr) : FT := fun ds S Q _ => ∃ (b : Nat) (R : Store) (d : D) (es : List D), ds = [.m 1, d] ∧ S = st b R ∧ 1 ≤ b ∧ seqA S d = some es ∧ 1 ≤ es.length ∧ es.length ≤ 100000 ∧ ∀ e b', e ∈ es → b ≤ b' + 1 → Q e (st b' R)
def rd_law_pick (A : Str → Addr) : TSD :=
 sSeq (sRet (dOp oIx (dVar 1) (dCall 2 (ft_law_draw A) (dCons (dVar 0) (dCons (dCB cLen (dCons (dVar 1) (dNil))) (dNil))))))
 (sNext)
theorem math_law_pick (A : Str → Addr) : ∀ (ds : List D) (S : Store) (Q : D → Store → Prop) (E : Ex → Prop), ClosedS S.length S → ds.length = 2 → ft_law_pick A ds S Q E → rd_law_pick A (endsOf .raw S Q E) (startD 2 ds) S := by
  rintro ds S Q E _ _ ⟨b, R, d, es, rfl, rfl, hb, hs, h1, h2, q⟩
  simp [rd_law_pick, cLen_A hs]
  refine draw_st (by omega) (by omega) hb fun k b' h3 h4 h5 => ?_
  obtain ⟨j, rfl⟩ : ∃ j : Nat, k = j := ⟨k.toNat, by omega⟩
  have hk : j < es.length := by omega
  refine oIx_m (seqA_st hs) (d := es[j]) ?_ (q _ _ (List.getElem_mem _) h5)
  rw [atI_nat, List.getElem?_eq_getElem hk]
/-! _law_mixed (_law_stream_here, _law_things) slots: 0=_law_stream_here 1=_law_things 2=_law_left 3=_law_found 4=_law_k -/
abbrev N_law_mixed : List Str := ["_law_stream_here", "_law_things", "_law_left", "_law_found", "_law_k"]
abbrev ps_law_mixed : List Str := ["_law_stream_here", "_law_things"]
def ft_law_mixed (A : Str → Addr) : FT := fun ds S Q _ => ∃ (b : Nat) (R : Store) (d : D) (ts : List T), ds = [.m 1, d] ∧ S = st b R ∧ ts.length ≤ b ∧ seqA S d = some (ts.map .t) ∧ ts.length ≤ 100000 ∧ ∀ (us : List T) b', us.Perm ts → b ≤ b' + ts.length → Q (.t (.lst us)) (st b' R)
def ft_law_mixedM (A : Str → Addr) : FT := fun ds S Q _ => ∃ (b : Nat) (R : Store) (d : D) (ts : List T), ds = [.m 1, d] ∧ S = st b R ∧ ts.length ≤ b ∧ seqA S d = some (ts.map .t) ∧ ts.length ≤ 100000 ∧ ∀ (us : List T) b', us.Perm ts → b ≤ b' + ts.length → Q (.m (R.length + 2)) (st b' (R ++ [.lst (us.map .t)]))
def rd_law_mixed (A : Str → Addr) : TSD :=
 sSeq (sPar 2 3 (dCons (dCB cListM (dCons (dVar 1) (dNil))) (dCons (dLstM (dNil)) (dNil))))
 (sSeq (sFor (iRange1 (dCons (dCB cLen (dCons (dVar 2) (dNil))) (dNil))) (gVar 4)
 (sSeq (sDrop (dBM tyLst mAppend (dVar 3) (dCons (dBM tyLst mPopAt (dVar 2) (dCons (dCall 2 (ft_law_draw A) (dCons (dVar 0) (dCons (dCB cLen (dCons (dVar 2) (dNil))) (dNil)))) (dNil))) (dNil))))
 (sNext)))
 (sSeq (sRet (dVar 3))
 (sNext)))
theorem eraseIdx_map' {α β : Type} (f : α → β) : ∀ (l : List α) (i : Nat), (l.map f).eraseIdx i = (l.eraseIdx i).map f
  | [], _ => by simp
  | _ :: _, 0 => by simp
  | x :: l, i + 1 => by simp [eraseIdx_map' f l i]
theorem perm_erase {α : Type} : ∀ (l : List α) (j : Nat) (h : j < l.length), (l[j] :: l.eraseIdx j).Perm l
  | [], _, h => absurd h (Nat.not_lt_zero _)
  | _ :: _, 0, _ => List.Perm.refl _
  | x :: l, j + 1, h => (List.Perm.swap x _ _).trans (List.Perm.cons x (perm_erase l j (by simpa using h)))
def I_mixed (b : Nat) (R : Store) (d : D) (ts : List T) (i : Nat) (ρ' : Env) (S' : Store) : Prop := ∃ (b' : Nat) (l f : List T) (o : Option D), S' = st b' (R ++ [.lst (l.map .t), .lst (f.map .t)]) ∧ ρ' = [some (.m 1), some d, some (.m (R.length + 2)), some (.m (R.length + 1 + 2)), o] ∧ b ≤ b' + i ∧ f.length = i ∧ (f ++ l).Perm ts
theorem mixed_gen (A : Str → Addr) (m : Mode) {b : Nat} {R : Store} {d : D} {ts : List T} {Q : D → Store → Prop} {E : Ex → Prop} (hb : ts.length ≤ b) (hs : seqA (st b R) d = some (ts.map .t)) (h2 : ts.length ≤ 100000)
    (q : ∀ (us : List T) b', us.Perm ts → b ≤ b' + ts.length → m.rt (R.length + 2) Q (.m (R.length + 1 + 2)) (st b' (R ++ [.lst [], .lst (us.map .t)]))) : rd_law_mixed A (endsOf m (st b R) Q E) (startD 5 [.m 1, d]) (st b R) := by
  have hz1 : (100010 : Nat) ≤ sizeLine := by decide
  simp only [rd_law_mixed]
  simp
  refine ⟨d, ts.map .t, rfl, hs, ?_⟩
  have g0 : ∀ b' (l f : List T), (st b' (R ++ [.lst (l.map .t), .lst (f.map .t)]))[R.length + 2]? = some (.lst (l.map .t)) := fun b' l f => by
    rw [st_get, List.getElem?_append_right (Nat.le_refl _)]; simp
  have g1 : ∀ b' (l f : List T), (st b' (R ++ [.lst (l.map .t), .lst (f.map .t)]))[R.length + 1 + 2]? = some (.lst (f.map .t)) := fun b' l f => by
    rw [st_get, List.getElem?_append_right (Nat.le_succ _)]; simp
  have s0 : ∀ b' (l l' f : List T), (st b' (R ++ [.lst (l.map .t), .lst (f.map .t)])).set (R.length + 2) (.lst (l'.map .t)) = st b' (R ++ [.lst (l'.map .t), .lst (f.map .t)]) := fun b' l l' f => by
    rw [st_set, List.set_append_right _ _ (Nat.le_refl _)]; simp
  have s1 : ∀ b' (l f f' : List T), (st b' (R ++ [.lst (l.map .t), .lst (f.map .t)])).set (R.length + 1 + 2) (.lst (f'.map .t)) = st b' (R ++ [.lst (l.map .t), .lst (f'.map .t)]) := fun b' l f f' => by
    rw [st_set, List.set_append_right _ _ (Nat.le_succ _)]; simp
  have gg := g0 b ts []
  simp only [List.map_nil] at gg
  simp
  rw [cLen_m gg]
  refine ⟨(ts.length : Nat), by simp, by omega, by omega, ?_⟩
  refine for_T dInts_T (I_mixed b R d ts)
    ⟨b, ts, [], none, by simp, by simp [Nat.add_right_comm], by omega, rfl, by simp⟩ ?_ ?_
  · rintro i x ρ' S' hx ⟨b', l, f, o, rfl, rfl, hb', hf, hp⟩
    have hi : i < ts.length := by
      have := (List.getElem?_eq_some_iff.mp hx).1
      simpa using this
    have hl : l.length = ts.length - i := by
      have := hp.length_eq
      simp at this
      omega
    simp
    rw [cLen_m (g0 b' l f)]
    refine ⟨tyLst_m (g1 b' l f), tyLst_m (g0 b' l f), ?_⟩
    refine draw_st (by simp; omega) (by simp; omega) (by omega) fun k b'' h3 h4 h5 => ?_
    obtain ⟨j, rfl⟩ : ∃ j : Nat, k = j := ⟨k.toNat, by omega⟩
    have hj : j < l.length := by simp at h4; omega
    refine popAt_of (y := .t l[j]) (g0 b'' l f) (by omega) (by simp [hj]) ?_
    rw [show (l.map D.t).eraseIdx j = (l.eraseIdx j).map D.t from eraseIdx_map' _ _ _, s0]
    refine append_of (g1 _ _ _) (by simp; omega) ?_
    rw [show f.map D.t ++ [D.t l[j]] = (f ++ [l[j]]).map D.t by simp, s1]
    refine ⟨b'', l.eraseIdx j, f ++ [l[j]], _, rfl, rfl, by omega, by simp [hf], ?_⟩
    refine List.Perm.trans ?_ hp
    rw [List.append_assoc]
    refine List.Perm.append_left f ?_
    exact perm_erase l j hj
  · rintro ρ' S' ⟨b', l, f, o, rfl, rfl, hb', hf, hp⟩
    simp at hf hb'
    have hl : l = [] := by
      have := hp.length_eq
      simp at this
      exact List.length_eq_zero_iff.mp (by omega)
    subst hl
    simpa using q f b' (by simpa using hp) hb'
theorem math_law_mixed (A : Str → Addr) : ∀ (ds : List D) (S : Store) (Q : D → Store → Prop) (E : Ex → Prop), ClosedS S.length S → ds.length = 2 → ft_law_mixed A ds S Q E → rd_law_mixed A (endsOf .tree S Q E) (startD 5 ds) S := by
  rintro ds S Q E hcl _ ⟨b, R, d, ts, rfl, rfl, hb, hs, h2, q⟩
  refine mixed_gen A .tree hb hs h2 fun us b' hp hb' => ?_
  have g1 : (st b' (R ++ [.lst [], .lst (us.map .t)]))[R.length + 1 + 2]? = some (.lst (us.map .t)) := by
    rw [st_get, List.getElem?_append_right (Nat.le_succ _)]; simp
  exact rTree_of (t := .lst us) (S0 := st b' R) (frz_lst (i := R.length + 1 + 2) g1 (by simp)) (by simp) (st_closed hcl) (q us b' hp hb')
theorem math_law_mixedM (A : Str → Addr) : ∀ (ds : List D) (S : Store) (Q : D → Store → Prop) (E : Ex → Prop), ClosedS S.length S → ds.length = 2 → ft_law_mixedM A ds S Q E → rd_law_mixed A (endsOf .top S Q E) (startD 5 ds) S := by
  rintro ds S Q E hcl _ ⟨b, R, d, ts, rfl, rfl, hb, hs, h2, q⟩
  refine mixed_gen A .top hb hs h2 fun us b' hp hb' => ?_
  have g1 : (st b' (R ++ [.lst [], .lst (us.map .t)]))[R.length + 1 + 2]? = some (.lst (us.map .t)) := by
    rw [st_get, List.getElem?_append_right (Nat.le_succ _)]; simp
  exact ⟨R.length + 1 + 2, _, rfl, by omega, g1, refC_lst, by rw [st_take, List.take_left' rfl]; exact st_closed hcl, by rw [st_take, List.take_left' rfl]; exact q us b' hp hb'⟩
/-! _law_same (_law_found, _law_due) slots: 0=_law_found 1=_law_due 2=_law_mine 3=_law_theirs -/
abbrev N_law_same : List Str := ["_law_found", "_law_due", "_law_mine", "_law_theirs"]
abbrev ps_law_same : List Str := ["_law_found", "_law_due"]
/-- depth n: things told alike: lists lists, tuples tuples, dicts dicts, the things in them equal -/
def ftR_law_same (A : Str → Addr) (n : Nat) : FT := fun ds S Q _ => ∃ (x y : T), ds = [.t x, .t y] ∧ sd n x = true ∧ n ≤ 60 ∧ x = y ∧ Q (.bl true) S
abbrev ft_law_same (A : Str → Addr) : FT := ftR_law_same A 4
def rd_law_same (A : Str → Addr) (rc : FT) : TSD :=
 sSeq (sIf (dB (dCB (cIsi (Cs A)) (dCons (dVar 1) (dCons (dTup (dCons (dC (.ty "list")) (dCons (dC (.ty "tuple")) (dNil)))) (dNil)))))
 (sSeq (sIf (dOrT (dB (dOp oNe (dCB (cIsi (Cs A)) (dCons (dVar 0) (dCons (dC (.ty "list")) (dNil)))) (dCB (cIsi (Cs A)) (dCons (dVar 1) (dCons (dC (.ty "list")) (dNil)))))) (dB (dOp oNe (dCB (cIsi (Cs A)) (dCons (dVar 0) (dCons (dC (.ty "tuple")) (dNil)))) (dCB (cIsi (Cs A)) (dCons (dVar 1) (dCons (dC (.ty "tuple")) (dNil)))))))
 (sSeq (sRet (dC (.bl false)))
 (sNext))
 (sNext))
 (sSeq (sRet (dAndV (dOp oEq (dCB cLen (dCons (dVar 0) (dNil))) (dCB cLen (dCons (dVar 1) (dNil)))) (dCB cAll (dCons (dLc (iZipD (dCons (dVar 0) (dCons (dVar 1) (dNil)))) (gTupD 2 (gConsD (gVar 2) (gConsD (gVar 3) (gNilD)))) (dYes) (dCall 2 rc (dCons (dVar 2) (dCons (dVar 3) (dNil)))) [2, 3]) (dNil)))))
 (sNext)))
 (sNext))
 (sSeq (sIf (dB (dCB (cIsi (Cs A)) (dCons (dVar 1) (dCons (dC (.ty "dict")) (dNil)))))
 (sSeq (sRet (dAndV (dCB (cIsi (Cs A)) (dCons (dVar 0) (dCons (dC (.ty "dict")) (dNil)))) (dCall 2 rc (dCons (dListIt (dVar 0)) (dCons (dListIt (dVar 1)) (dNil))))))
 (sNext))
 (sNext))
 (sSeq (sIf (dOrT (dB (dCB (cIsi (Cs A)) (dCons (dVar 1) (dCons (dC (.ty "bool")) (dNil))))) (dB (dCB (cIsi (Cs A)) (dCons (dVar 0) (dCons (dC (.ty "bool")) (dNil))))))
 (sSeq (sRet (dAndV (dCB (cIsi (Cs A)) (dCons (dVar 1) (dCons (dC (.ty "bool")) (dNil)))) (dAndV (dCB (cIsi (Cs A)) (dCons (dVar 0) (dCons (dC (.ty "bool")) (dNil)))) (dOp oEq (dVar 0) (dVar 1)))))
 (sNext))
 (sNext))
 (sSeq (sRet (dAndV (dNotV (dCB (cIsi (Cs A)) (dCons (dVar 0) (dCons (dTup (dCons (dC (.ty "list")) (dCons (dC (.ty "tuple")) (dCons (dC (.ty "dict")) (dNil))))) (dNil))))) (dOp oEq (dVar 0) (dVar 1))))
 (sNext))))
theorem math_law_same (A : Str → Addr) (n : Nat) : ∀ (ds : List D) (S : Store) (Q : D → Store → Prop) (E : Ex → Prop), ClosedS S.length S → ds.length = 2 → ftR_law_same A n ds S Q E → rd_law_same A (prevF (ftR_law_same A) n) (endsOf .raw S Q E) (startD 4 ds) S := by
  rintro ds S Q E hc _ ⟨x, y, rfl, hdx, hn, rfl, q⟩
  have hz1 : (100010 : Nat) ≤ sizeLine := by decide
  have hx1 := sd_ok1 (Cs := Cs A) hdx
  rcases sd_em hdx with ⟨v, rfl, hv⟩ | ⟨m, ts, rfl, hz, hlen, hdt⟩ | ⟨m, kvs, rfl, rfl, hlen, hdk⟩
  · have hs : isSeq (.v v) = false := rfl
    have hnd : isDct (.v v) = false := rfl
    have h64 : dat 64 (.v v) = true := dat0_v hv
    have he := eqT_refl 0 _ hv
    simp [rd_law_same, hx1, hs, hnd, h64, he, show 2 ≤ sizeLine by omega, show 3 ≤ sizeLine by omega]
    cases hb : isBl (.v v) with
    | true => simp; exact q
    | false =>
      simp
      refine isi_seqd hx1 ?_
      simp [hs, hnd]
      exact q
  · have hs : seqOf x = some ts := by rcases hz with rfl | rfl <;> rfl
    have hs1 : isSeq x = true := by rcases hz with rfl | rfl <;> rfl
    simp [rd_law_same, hx1, hs1, show 2 ≤ sizeLine by omega, cLen_x hs]
    refine zipT_x (by rcases hz with rfl | rfl; exact .inl ⟨rfl, rfl⟩; exact .inr ⟨rfl, rfl⟩) fun it hit => ?_
    refine lc_map (fun _ => .bl true) hit hc (by simp; omega) ?_ ?_
    · intro t ht S2 Ky hk
      simp at ht
      obtain ⟨a, b, hab, rfl⟩ := ht
      obtain ⟨rfl, ha⟩ := zip_self hab
      simp [wipeD]
      exact ⟨a, a, rfl, hdt a ha, by omega, rfl, hk⟩
    · rw [cAll_map, List.all_eq_true.mpr (fun _ _ => rfl)]
      exact q
  · have hs : isSeq (.dct kvs) = false := rfl
    have hnd : isDct (.dct kvs) = true := rfl
    simp [rd_law_same, hx1, hs, hnd, show 2 ≤ sizeLine by omega]
    exact ⟨_, _, rfl, sd_items hlen hdk, by omega, rfl, q⟩
/-! _law_stepping (_law_stream_here, _law_begin, _law_end, _law_order, _law_wide) slots: 0=_law_stream_here 1=_law_begin 2=_law_end 3=_law_order 4=_law_wide 5=_law_one 6=_law_other 7=_law_room 8=_law_first 9=_law_middle 10=_law_last 11=_law_found 12=_law_place -/
abbrev N_law_stepping : List Str := ["_law_stream_here", "_law_begin", "_law_end", "_law_order", "_law_wide", "_law_one", "_law_other", "_law_room", "_law_first", "_law_middle", "_law_last", "_law_found", "_law_place"]
abbrev ps_law_stepping : List Str := ["_law_stream_here", "_law_begin", "_law_end", "_law_order", "_law_wide"]
/-- a road's row: its ends of P, no loop -/
def RowOk (P : Int → Prop) (row : List T) : Prop := ∃ a b l w : Int, row = [.int a, .int b, .int l, .int w] ∧ P a ∧ P b ∧ a ≠ b ∧ 0 ≤ l ∧ 1 ≤ w
/-- .. that takes a turn -/
def RowOn (P : Int → Prop) (row : List T) : Prop := ∃ a b l w : Int, row = [.int a, .int b, .int l, .int w] ∧ P a ∧ P b ∧ a ≠ b ∧ 1 ≤ l ∧ 1 ≤ w
def ft_law_stepping (A : Str → Addr) : FT := fun ds S Q _ => ∃ (b : Nat) (R : Store) (be en wide : Int) (order : List Int), ds = [.m 1, .int be, .int en, .t (iL order), .int wide] ∧ S = st b R ∧ 20 ≤ b ∧ 1 ≤ wide ∧ wide ≤ 1000 ∧ order.Nodup ∧ 4 ≤ order.length ∧ order.length ≤ 1000 ∧ be ∈ order ∧ en ∈ order ∧ be ≠ en ∧
  ∀ (rows : List (List T)) b', rows.length = 5 → (∀ r ∈ rows, RowOn (· ∈ order) r) → b ≤ b' + 20 → Q (.t (.lst (rows.map .tup))) (st b' R)
def rd_law_stepping (A : Str → Addr) : TSD :=
 sSeq (sAsg (dSl (dLc (iSeq (dVar 3)) (gVar 12) (dAndT (dB (dOp oNe (dVar 12) (dVar 1))) (dB (dOp oNe (dVar 12) (dVar 2)))) (dVar 12) [12]) (dNoPart) (dPart (dC (.int 2)))) (gTupD 2 (gConsD (gVar 5) (gConsD (gVar 6) (gNilD)))))
 (sSeq (sPar 7 8 (dCons (dOp oAdd (dC (.int 1)) (dCall 2 (ft_law_draw A) (dCons (dVar 0) (dCons (dVar 4) (dNil))))) (dCons (dOp oAdd (dC (.int 1)) (dCall 2 (ft_law_draw A) (dCons (dVar 0) (dCons (dC (.int 2)) (dNil))))) (dNil))))
 (sSeq (sPar 9 10 (dCons (dOp oAdd (dC (.int 1)) (dCall 2 (ft_law_draw A) (dCons (dVar 0) (dCons (dC (.int 2)) (dNil))))) (dCons (dOp oAdd (dC (.int 1)) (dCall 2 (ft_law_draw A) (dCons (dVar 0) (dCons (dC (.int 2)) (dNil))))) (dNil))))
 (sSeq (sAsg (dLstM (dCons (dTup (dCons (dVar 1) (dCons (dVar 5) (dCons (dVar 8) (dCons (dVar 7) (dNil)))))) (dCons (dTup (dCons (dVar 5) (dCons (dVar 6) (dCons (dVar 9) (dCons (dVar 7) (dNil)))))) (dCons (dTup (dCons (dVar 6) (dCons (dVar 2) (dCons (dVar 10) (dCons (dVar 7) (dNil)))))) (dNil))))) (gVar 11))
 (sSeq (sDrop (dBM tyLst mAppend (dVar 11) (dCons (dTup (dCons (dVar 1) (dCons (dVar 6) (dCons (dOp oAdd (dOp oAdd (dOp oAdd (dVar 8) (dVar 9)) (dC (.int 1))) (dCall 2 (ft_law_draw A) (dCons (dVar 0) (dCons (dC (.int 3)) (dNil))))) (dCons (dOp oAdd (dC (.int 1)) (dCall 2 (ft_law_draw A) (dCons (dVar 0) (dCons (dVar 4) (dNil))))) (dNil)))))) (dNil))))
 (sSeq (sRet (dOp oAdd (dVar 11) (dLst (dCons (dTup (dCons (dVar 5) (dCons (dVar 2) (dCons (dOp oAdd (dOp oAdd (dOp oAdd (dVar 9) (dVar 10)) (dC (.int 1))) (dCall 2 (ft_law_draw A) (dCons (dVar 0) (dCons (dC (.int 3)) (dNil))))) (dCons (dOp oAdd (dC (.int 1)) (dCall 2 (ft_law_draw A) (dCons (dVar 0) (dCons (dVar 4) (dNil))))) (dNil)))))) (dNil)))))
 (sNext))))))
theorem filter_two : ∀ {L : List Int} {x : Int}, L.Nodup → L.length ≤ (L.filter fun z => !decide (z = x)).length + 1
  | [], _, _ => by simp
  | a :: L, x, h => by
    have h' := List.nodup_cons.mp h
    by_cases ha : a = x
    · subst ha
      have : (L.filter fun z => !decide (z = a)) = L := List.filter_eq_self.mpr fun z hz => by
        have : z ≠ a := fun e => h'.1 (e ▸ hz)
        simp [this]
      simp [this]
    · have := filter_two (x := x) h'.2
      simp [ha]; omega
theorem math_law_stepping (A : Str → Addr) : ∀ (ds : List D) (S : Store) (Q : D → Store → Prop) (E : Ex → Prop), ClosedS S.length S → ds.length = 5 → ft_law_stepping A ds S Q E → rd_law_stepping A (endsOf .tree S Q E) (startD 13 ds) S := by
  rintro ds S Q E hc _ ⟨b, R, be, en, wide, order, rfl, rfl, hb, hw1, hw2, hnd, h4, hlen, hbe, hen, hne, q⟩
  have hz1 : (100010 : Nat) ≤ sizeLine := by decide
  simp [rd_law_stepping]
  refine itT_x (ts := order.map .int) rfl fun it hit => ?_
  refine lc_fm (fun t => match t with | .v (.int z) => !decide (z = be) && !decide (z = en) | _ => false) id hit hc (by simp; omega) ?_ ?_
  · intro t ht S2 Ky Kn hy hn
    simp at ht
    obtain ⟨z, hz, rfl⟩ := ht
    simp [wipeD]
    by_cases h1 : z = be
    · subst h1; simp at hn ⊢; exact hn
    · by_cases h2 : z = en
      · subst h2; simp [h1] at hn ⊢; exact hn
      · simp [h1, h2] at hy ⊢; exact hy
  · have e : ((order.map T.int).filter fun t => match t with | .v (.int z) => !decide (z = be) && !decide (z = en) | _ => false) = (order.filter fun z => !decide (z = be) && !decide (z = en)).map T.int := by
      rw [List.filter_map]; rfl
    rw [e]
    have hl2 : 2 ≤ (order.filter fun z => !decide (z = be) && !decide (z = en)).length := by
      rw [← List.filter_filter]
      have h1 := filter_two (x := en) hnd
      have h2 := filter_two (x := be) (hnd.sublist (List.filter_sublist (p := fun z => !decide (z = en))))
      omega
    generalize hF : (order.filter fun z => !decide (z = be) && !decide (z = en)) = F at hl2
    have hm : ∀ z ∈ F, z ∈ order ∧ z ≠ be ∧ z ≠ en := fun z hz => by
      rw [← hF] at hz
      simpa using hz
    have hFn : F.Nodup := by rw [← hF]; exact hnd.sublist List.filter_sublist
    match F, hl2, hm, hFn with
    | u :: v :: F, _, hm, hFn =>
      have hu := hm u (by simp)
      have hv := hm v (by simp)
      have huv : u ≠ v := fun e => (List.nodup_cons.mp hFn).1 (by simp [e])
      have hz4 : (4 : Nat) ≤ sizeLine := by omega
      have hz3 : (3 : Nat) ≤ sizeLine := by omega
      simp [hz4, hz3]
      refine draw_st (by omega) (by omega) (by omega) fun d1 b1 _ _ _ => ?_
      simp [hz4, hz3]
      refine draw_st (by omega) (by omega) (by omega) fun d2 b2 _ _ _ => ?_
      simp [hz4, hz3]
      refine draw_st (by omega) (by omega) (by omega) fun d3 b3 _ _ _ => ?_
      simp [hz4, hz3]
      refine draw_st (by omega) (by omega) (by omega) fun d4 b4 _ _ _ => ?_
      simp [hz4, hz3]
      refine draw_st (by omega) (by omega) (by omega) fun d5 b5 _ _ _ => ?_
      simp [hz4, hz3]
      refine draw_st (by omega) (by omega) (by omega) fun d6 b6 _ _ _ => ?_
      simp [hz4, hz3]
      refine append_last (by simp; omega) ?_
      refine draw_st (by omega) (by omega) (by omega) fun d7 b7 _ _ _ => ?_
      simp [hz4, hz3]
      refine draw_st (by omega) (by omega) (by omega) fun d8 b8 _ _ _ => ?_
      simp [hz4, hz3, show (1 : Nat) ≤ sizeLine by omega]
      refine oAdd_s (xs := [.tup [.int be, .int u, .int (1 + d2), .int (1 + d1)], .tup [.int u, .int v, .int (1 + d3), .int (1 + d1)], .tup [.int v, .int en, .int (1 + d4), .int (1 + d1)], .tup [.int be, .int v, .int (1 + d2 + (1 + d3) + 1 + d5), .int (1 + d6)]])
        (ys := [.tup [.int u, .int en, .int (1 + d3 + (1 + d4) + 1 + d7), .int (1 + d8)]]) (seqL_m st_last) rfl (by simp; omega) ?_
      refine rTree_t (S0 := st b8 R) (by simp) (st_closed hc) ?_
      refine q [[.int be, .int u, .int (1 + d2), .int (1 + d1)], [.int u, .int v, .int (1 + d3), .int (1 + d1)], [.int v, .int en, .int (1 + d4), .int (1 + d1)], [.int be, .int v, .int (1 + d2 + (1 + d3) + 1 + d5), .int (1 + d6)], [.int u, .int en, .int (1 + d3 + (1 + d4) + 1 + d7), .int (1 + d8)]] b8 rfl ?_ (by omega)
      intro r hr
      simp only [List.mem_cons, List.not_mem_nil, or_false] at hr
      rcases hr with rfl | rfl | rfl | rfl | rfl
      · exact ⟨_, _, _, _, rfl, hbe, hu.1, fun e => hu.2.1 e.symm, by omega, by omega⟩
      · exact ⟨_, _, _, _, rfl, hu.1, hv.1, huv, by omega, by omega⟩
      · exact ⟨_, _, _, _, rfl, hv.1, hen, hv.2.2, by omega, by omega⟩
      · exact ⟨_, _, _, _, rfl, hbe, hv.1, fun e => hv.2.1 e.symm, by omega, by omega⟩
      · exact ⟨_, _, _, _, rfl, hu.1, hen, hu.2.2, by omega, by omega⟩
/-! _law_house (_law_stream_here, _law_places, _law_full, _law_doors) slots: 0=_law_stream_here 1=_law_places 2=_law_full 3=_law_doors 4=_law_many 5=_law_order 6=_law_found 7=_law_some 8=_law_long 9=_law_wide 10=_law_late 11=_law_cut 12=_law_sort 13=_law_begins 14=_law_ends 15=_law_k 16=_law_line 17=_law_one 18=_law_other 19=_law_roads 20=_law_rank 21=_law_length 22=_law_crossed 23=_law_at 24=_law_door -/
abbrev N_law_house : List Str := ["_law_stream_here", "_law_places", "_law_full", "_law_doors", "_law_many", "_law_order", "_law_found", "_law_some", "_law_long", "_law_wide", "_law_late", "_law_cut", "_law_sort", "_law_begins", "_law_ends", "_law_k", "_law_line", "_law_one", "_law_other", "_law_roads", "_law_rank", "_law_length", "_law_crossed", "_law_at", "_law_door"]
abbrev ps_law_house : List Str := ["_law_stream_here", "_law_places", "_law_full", "_law_doors"]
/-- a road's row, with a rank that roads of no turn rise in -/
def RowR (P : Int → Prop) (rk : Int → Nat) (row : List T) : Prop := ∃ a b l w : Int, row = [.int a, .int b, .int l, .int w] ∧ P a ∧ P b ∧ a ≠ b ∧ 0 ≤ l ∧ 1 ≤ w ∧ (l = 0 → rk a < rk b)
def RoadsOk (p : Int) (rows : List (List T)) : Prop := ∃ rk : Int → Nat, ∀ r ∈ rows, RowR (fun z => 0 ≤ z ∧ z < p) rk r
def DoorR (P Q : Int → Prop) (row : List T) : Prop := ∃ (s : Str) (a k : Int), row = [.str s, .int a, .int k] ∧ ((s = "in" ∧ P a) ∨ (s = "out" ∧ Q a)) ∧ 0 ≤ k
def DoorsOk (p : Int) (rows : List (List T)) : Prop := ∃ P Q : Int → Prop, (∀ z, P z → 0 ≤ z ∧ z < p) ∧ (∀ z, Q z → 0 ≤ z ∧ z < p) ∧ (∀ z, P z → Q z → False) ∧ ∀ r ∈ rows, DoorR P Q r
def costH : Nat := 20000
def ft_law_house (A : Str → Addr) : FT := fun ds S Q _ => ∃ (b : Nat) (R : Store) (pl full drs : Int), ds = [.m 1, .int pl, .int full, .int drs] ∧ S = st b R ∧ costH ≤ b ∧ 2 ≤ pl ∧ pl ≤ 100 ∧ 1 ≤ full ∧ full ≤ 100 ∧ 2 ≤ drs ∧ drs ≤ 100 ∧
  ∀ (many : Int) (rs dr : List (List T)) b', 2 ≤ many → many ≤ pl → RoadsOk many rs → DoorsOk many dr → 1 ≤ rs.length → rs.length ≤ 200 → 2 ≤ dr.length → dr.length ≤ 200 → b ≤ b' + costH → Q (.t (.tup [.int many, .lst (rs.map .tup), .lst (dr.map .tup)])) (st b' R)
def rd_law_house (A : Str → Addr) : TSD :=
 sSeq (sAsg (dOp oAdd (dC (.int 2)) (dCB (cInt2 fun i j => if j > i then j else i) (dCons (dCall 2 (ft_law_draw A) (dCons (dVar 0) (dCons (dOp (oI0 fun i j => .int (i - j)) (dVar 1) (dC (.int 1))) (dNil)))) (dCons (dCall 2 (ft_law_draw A) (dCons (dVar 0) (dCons (dOp (oI0 fun i j => .int (i - j)) (dVar 1) (dC (.int 1))) (dNil)))) (dNil))))) (gVar 4))
 (sSeq (sPar3 5 6 7 (dCons (dCall 2 (ft_law_mixed A) (dCons (dVar 0) (dCons (dListRg (dVar 4)) (dNil)))) (dCons (dLstM (dNil)) (dCons (dLstM (dNil)) (dNil)))))
 (sSeq (sPar3 8 9 10 (dCons (dCall 2 (ft_law_pick A) (dCons (dVar 0) (dCons (dLst (dCons (dC (.int 1)) (dCons (dC (.int 2)) (dCons (dC (.int 3)) (dCons (dC (.int 5)) (dNil)))))) (dNil)))) (dCons (dCall 2 (ft_law_pick A) (dCons (dVar 0) (dCons (dLst (dCons (dC (.int 1)) (dCons (dC (.int 3)) (dCons (dC (.int 3)) (dCons (dC (.int 10)) (dNil)))))) (dNil)))) (dCons (dCall 2 (ft_law_pick A) (dCons (dVar 0) (dCons (dLst (dCons (dC (.int 1)) (dCons (dC (.int 1)) (dCons (dC (.int 3)) (dNil))))) (dNil)))) (dNil)))))
 (sSeq (sAsg (dCall 2 (ft_law_pick A) (dCons (dVar 0) (dCons (dLst (dCons (dOp oAdd (dC (.int 1)) (dCall 2 (ft_law_draw A) (dCons (dVar 0) (dCons (dOp (oI0 fun i j => .int (i - j)) (dVar 4) (dC (.int 1))) (dNil))))) (dCons (dOp (oI CDivW fun i j => .int (i / j)) (dVar 4) (dC (.int 2))) (dCons (dOp (oI CDivW fun i j => .int (i / j)) (dOp oAdd (dVar 4) (dC (.int 1))) (dC (.int 2))) (dNil))))) (dNil)))) (gVar 11))
 (sSeq (sFor (iSeq (dOp oAdd (dLst (dCons (dC (.str "in")) (dCons (dC (.str "out")) (dNil)))) (dLc (iRange1 (dCons (dCall 2 (ft_law_draw A) (dCons (dVar 0) (dCons (dOp (oI0 fun i j => .int (i - j)) (dVar 3) (dC (.int 1))) (dNil)))) (dNil))) (gVar 15) (dYes) (dCall 2 (ft_law_pick A) (dCons (dVar 0) (dCons (dLst (dCons (dC (.str "in")) (dCons (dC (.str "out")) (dNil)))) (dNil)))) [15]))) (gVar 12)
 (sSeq (sDrop (dBM tyLst mAppend (dVar 7) (dCons (dTup (dCons (dVar 12) (dCons (dCall 2 (ft_law_pick A) (dCons (dVar 0) (dCons (dIf (dB (dOp oEq (dVar 12) (dC (.str "in")))) (dSl (dVar 5) (dNoPart) (dPart (dVar 11))) (dSl (dVar 5) (dPart (dVar 11)) (dNoPart))) (dNil)))) (dCons (dCall 2 (ft_law_draw A) (dCons (dVar 0) (dCons (dVar 10) (dNil)))) (dNil))))) (dNil))))
 (sNext)))
 (sSeq (sPar 13 14 (dCons (dLc (iSeq (dVar 7)) (gVar 24) (dB (dOp oEq (dOp oIx (dVar 24) (dC (.int 0))) (dC (.str "in")))) (dOp oIx (dVar 24) (dC (.int 1))) [24]) (dCons (dLc (iSeq (dVar 7)) (gVar 24) (dB (dOp oEq (dOp oIx (dVar 24) (dC (.int 0))) (dC (.str "out")))) (dOp oIx (dVar 24) (dC (.int 1))) [24]) (dNil))))
 (sSeq (sFor (iRange1 (dCons (dOp oAdd (dC (.int 2)) (dCall 2 (ft_law_draw A) (dCons (dVar 0) (dCons (dC (.int 5)) (dNil))))) (dNil))) (gVar 15)
 (sSeq (sAsg (dOp oCatM (dLst (dCons (dCall 2 (ft_law_pick A) (dCons (dVar 0) (dCons (dVar 13) (dNil)))) (dNil))) (dSl (dCall 2 (ft_law_mixed A) (dCons (dVar 0) (dCons (dVar 5) (dNil)))) (dNoPart) (dPart (dCall 2 (ft_law_pick A) (dCons (dVar 0) (dCons (dLst (dCons (dC (.int 0)) (dCons (dC (.int 0)) (dCons (dC (.int 1)) (dCons (dC (.int 1)) (dCons (dC (.int 2)) (dNil))))))) (dNil))))))) (gVar 16))
 (sSeq (sDrop (dBM tyLst mAppend (dVar 16) (dCons (dCall 2 (ft_law_pick A) (dCons (dVar 0) (dCons (dVar 14) (dNil)))) (dNil))))
 (sSeq (sDrop (dBM tyLst mExtend (dVar 6) (dCons (dLc (iZipD (dCons (dVar 16) (dCons (dSl (dVar 16) (dPart (dC (.int 1))) (dNoPart)) (dNil)))) (gTupD 2 (gConsD (gVar 17) (gConsD (gVar 18) (gNilD)))) (dB (dOp oNe (dVar 17) (dVar 18))) (dTup (dCons (dVar 17) (dCons (dVar 18) (dNil)))) [17, 18]) (dNil))))
 (sNext)))))
 (sSeq (sFor (iRange1 (dCons (dCall 2 (ft_law_draw A) (dCons (dVar 0) (dCons (dC (.int 3)) (dNil)))) (dNil))) (gVar 15)
 (sSeq (sAsg (dSl (dCall 2 (ft_law_mixed A) (dCons (dVar 0) (dCons (dVar 5) (dNil)))) (dNoPart) (dPart (dC (.int 2)))) (gTupD 2 (gConsD (gVar 17) (gConsD (gVar 18) (gNilD)))))
 (sSeq (sDrop (dBM tyLst mAppend (dVar 6) (dCons (dTup (dCons (dVar 17) (dCons (dVar 18) (dNil)))) (dNil))))
 (sNext))))
 (sSeq (sPar 19 20 (dCons (dLstM (dNil)) (dCons (dCall 2 (ft_law_pick A) (dCons (dVar 0) (dCons (dLst (dCons (dVar 5) (dCons (dVar 5) (dCons (dCall 2 (ft_law_mixed A) (dCons (dVar 0) (dCons (dVar 5) (dNil)))) (dNil))))) (dNil)))) (dNil))))
 (sSeq (sFor (iSeq (dSl (dVar 6) (dNoPart) (dPart (dVar 2)))) (gTupD 2 (gConsD (gVar 17) (gConsD (gVar 18) (gNilD))))
 (sSeq (sAsg (dCall 2 (ft_law_draw A) (dCons (dVar 0) (dCons (dOp oAdd (dVar 8) (dC (.int 1))) (dNil)))) (gVar 21))
 (sSeq (sAsg (dIf (dAndT (dB (dOp oEq (dVar 21) (dC (.int 0)))) (dB (dOp (oI0 fun i j => .bl (decide (j < i))) (dBM tyLst mIndexT (dVar 20) (dCons (dVar 17) (dNil))) (dBM tyLst mIndexT (dVar 20) (dCons (dVar 18) (dNil)))))) (dC (.int 1)) (dVar 21)) (gVar 21))
 (sSeq (sDrop (dBM tyLst mAppend (dVar 19) (dCons (dTup (dCons (dVar 17) (dCons (dVar 18) (dCons (dVar 21) (dCons (dOp oAdd (dC (.int 1)) (dCall 2 (ft_law_draw A) (dCons (dVar 0) (dCons (dVar 9) (dNil))))) (dNil)))))) (dNil))))
 (sNext)))))
 (sSeq (sIf (dAndT (dB (dOp (oI0 fun i j => .bl (decide (j < i))) (dVar 4) (dC (.int 3)))) (dAndT (dB (dOp (oI0 fun i j => .bl (decide (j < i))) (dVar 2) (dC (.int 4)))) (dB (dOp oEq (dCall 2 (ft_law_draw A) (dCons (dVar 0) (dCons (dC (.int 2)) (dNil)))) (dC (.int 0))))))
 (sSeq (sAsg (dCall 5 (ft_law_stepping A) (dCons (dVar 0) (dCons (dCall 2 (ft_law_pick A) (dCons (dVar 0) (dCons (dVar 13) (dNil)))) (dCons (dCall 2 (ft_law_pick A) (dCons (dVar 0) (dCons (dVar 14) (dNil)))) (dCons (dVar 5) (dCons (dVar 9) (dNil))))))) (gVar 22))
 (sSeq (sAsg (dCall 2 (ft_law_mixedM A) (dCons (dVar 0) (dCons (dOp oAdd (dVar 22) (dSl (dVar 19) (dNoPart) (dPart (dCall 2 (ft_law_draw A) (dCons (dVar 0) (dCons (dOp (oI0 fun i j => .int (i - j)) (dVar 2) (dC (.int 4))) (dNil))))))) (dNil)))) (gVar 19))
 (sNext)))
 (sNext))
 (sSeq (sIf (dAndT (dB (dOp oEq (dCall 2 (ft_law_draw A) (dCons (dVar 0) (dCons (dC (.int 3)) (dNil)))) (dC (.int 0)))) (dB (dOp (oI0 fun i j => .bl (decide (j < i))) (dCB cLen (dCons (dVar 19) (dNil))) (dC (.int 2)))))
 (sSeq (sAsg (dCall 2 (ft_law_draw A) (dCons (dVar 0) (dCons (dCB cLen (dCons (dVar 19) (dNil))) (dNil)))) (gVar 23))
 (sSeq (sAsg (dTup (dCons (dOp oIx (dOp oIx (dVar 19) (dVar 23)) (dC (.int 0))) (dCons (dOp oIx (dOp oIx (dVar 19) (dVar 23)) (dC (.int 1))) (dCons (dOp oAdd (dC (.int 6)) (dCall 2 (ft_law_draw A) (dCons (dVar 0) (dCons (dC (.int 4)) (dNil))))) (dCons (dOp oIx (dOp oIx (dVar 19) (dVar 23)) (dC (.int 3))) (dNil)))))) (gSubD (dVar 19) (dVar 23)))
 (sNext)))
 (sNext))
 (sSeq (sIf (dAndT (dB (dOp oEq (dCall 2 (ft_law_draw A) (dCons (dVar 0) (dCons (dC (.int 3)) (dNil)))) (dC (.int 0)))) (dB (dOp (oI0 fun i j => .bl (decide (j < i))) (dCB cLen (dCons (dVar 7) (dNil))) (dC (.int 2)))))
 (sSeq (sAsg (dOp oAdd (dC (.int 2)) (dCall 2 (ft_law_draw A) (dCons (dVar 0) (dCons (dOp (oI0 fun i j => .int (i - j)) (dCB cLen (dCons (dVar 7) (dNil))) (dC (.int 2))) (dNil))))) (gVar 23))
 (sSeq (sAsg (dTup (dCons (dOp oIx (dOp oIx (dVar 7) (dVar 23)) (dC (.int 0))) (dCons (dOp oIx (dOp oIx (dVar 7) (dVar 23)) (dC (.int 1))) (dCons (dOp oAdd (dC (.int 3)) (dCall 2 (ft_law_draw A) (dCons (dVar 0) (dCons (dC (.int 7)) (dNil))))) (dNil))))) (gSubD (dVar 7) (dVar 23)))
 (sNext)))
 (sNext))
 (sSeq (sRet (dTupM (dCons (dVar 4) (dCons (dVar 19) (dCons (dCall 2 (ft_law_mixed A) (dCons (dVar 0) (dCons (dVar 7) (dNil)))) (dNil))))))
 (sNext))))))))))))))
/-- the rest of the store: found at its place n, some behind it -/
structure HS (R : Store) (F G : List T) (R' : Store) : Prop where
  pre : R'.take R.length = R
  len : R.length + 2 ≤ R'.length
  f : R'[R.length]? = some (.lst (F.map .t))
  g : R'[R.length + 1]? = some (.lst (G.map .t))
  cl : ClosedR (R'.length + 2) R'
namespace HS
variable {R R' : Store} {F G : List T}
theorem closed (h : HS R F G R') {b : Nat} : ClosedS (st b R').length (st b R') := closed_st.mpr ⟨by simp, h.cl⟩
theorem app (h : HS R F G R') (ts : List T) : HS R F G (R' ++ [.lst (ts.map .t)]) where
  pre := by rw [List.take_append_of_le_length (by have := h.len; omega)]; exact h.pre
  len := by have := h.len; simp; omega
  f := by rw [List.getElem?_append_left (by have := h.len; omega)]; exact h.f
  g := by rw [List.getElem?_append_left (by have := h.len; omega)]; exact h.g
  cl := h.cl.app refC_lst
theorem setF (h : HS R F G R') (F2 : List T) : HS R F2 G (R'.set R.length (.lst (F2.map .t))) where
  pre := by rw [List.take_set_of_le (Nat.le_refl _)]; exact h.pre
  len := by simpa using h.len
  f := List.getElem?_set_self (by have := h.len; omega)
  g := by rw [List.getElem?_set_ne (by omega)]; exact h.g
  cl := by rw [List.length_set]; exact h.cl.set refC_lst
theorem setG (h : HS R F G R') (G2 : List T) : HS R F G2 (R'.set (R.length + 1) (.lst (G2.map .t))) where
  pre := by rw [List.take_set_of_le (Nat.le_succ _)]; exact h.pre
  len := by simpa using h.len
  f := by rw [List.getElem?_set_ne (by omega)]; exact h.f
  g := List.getElem?_set_self (by have := h.len; omega)
  cl := by rw [List.length_set]; exact h.cl.set refC_lst
theorem setO (h : HS R F G R') {i : Nat} (hi : R.length + 2 ≤ i) (ts : List T) : HS R F G (R'.set i (.lst (ts.map .t))) where
  pre := by rw [List.take_set_of_le (by omega)]; exact h.pre
  len := by simpa using h.len
  f := by rw [List.getElem?_set_ne (by omega)]; exact h.f
  g := by rw [List.getElem?_set_ne (by omega)]; exact h.g
  cl := by rw [List.length_set]; exact h.cl.set refC_lst
theorem atF (h : HS R F G R') {b : Nat} : (st b R')[R.length + 2]? = some (.lst (F.map .t)) := by rw [st_get]; exact h.f
theorem atG (h : HS R F G R') {b : Nat} : (st b R')[R.length + 2 + 1]? = some (.lst (G.map .t)) := h.g
end HS
theorem sum_c {α : Type} (n : Nat) : ∀ l : List α, (l.map fun _ => n).sum = n * l.length
  | [] => by simp
  | a :: l => by simp [sum_c n l, Nat.mul_add]; omega
def I_some (R : Store) (b : Nat) (c : List (Option D)) (P Q : Int → Prop) (i : Nat) (ρ' : Env) (S' : Store) : Prop := ∃ (b' : Nat) (R' : Store) (G : List (List T)) (o : Option D), S' = st b' R' ∧ b ≤ b' + 2 * i ∧ HS R [] (G.map .tup) R' ∧ G.length = i ∧ (∀ g ∈ G, DoorR P Q g) ∧ (1 ≤ i → ∃ g ∈ G, ∃ a k : Int, g = [.str "in", .int a, .int k]) ∧ (2 ≤ i → ∃ g ∈ G, ∃ a k : Int, g = [.str "out", .int a, .int k]) ∧
  ρ' = c ++ [o, none, none, none, none, none, none, none, none, none, none, none, none]
theorem for_T2 {g : TGD} {tb : TSD} {it : ItD} {ts : List T} {De : DEnds} {ρ : Env} {S : Store} (hi : ItT it ts) (Pv : Nat → Env → Store → Prop) (p0 : Pv 0 ρ S)
    (ph : ∀ i x ρ S (De' : DEnds), De'.nx = Pv (i + 1) → ts[i]? = some x → Pv i ρ S → g (.t x) De'.ex ρ S fun ρ2 S2 => tb De' ρ2 S2) (pn : ∀ ρ S, Pv ts.length ρ S → De.nx ρ S) : forI g tb De ρ it S :=
  for_T hi Pv p0 (fun i x ρ S hx p => ph i x ρ S { De with nx := Pv (i + 1), ct := Pv (i + 1), bk := De.nx } rfl hx p) pn
def prT (p : Int × Int) : T := .tup [.int p.1, .int p.2]
@[simp] theorem prT_e {a b : Int} : prT (a, b) = .tup [.int a, .int b] := rfl
def ne2 : T → Bool
  | .tup [.v (.int a), .v (.int b)] => decide (a ≠ b)
  | _ => false
@[simp] theorem ne2_e {a b : Int} : ne2 (.tup [.v (.int a), .v (.int b)]) = decide (a ≠ b) := rfl
theorem ne2_p : ne2 ∘ prT = fun p => decide (p.1 ≠ p.2) := rfl
def I_line (R : Store) (b : Nat) (c : List (Option D)) (order : List Int) (G : List T) (i : Nat) (ρ' : Env) (S' : Store) : Prop := ∃ (b' : Nat) (R' : Store) (F : List (Int × Int)) (o1 o2 : Option D), S' = st b' R' ∧ b ≤ b' + 110 * i ∧ HS R (F.map prT) G R' ∧ F.length ≤ 3 * i ∧ (1 ≤ i → 1 ≤ F.length) ∧ (∀ p ∈ F, p.1 ∈ order ∧ p.2 ∈ order ∧ p.1 ≠ p.2) ∧
  ρ' = c ++ [o1, o2, none, none, none, none, none, none, none, none]
theorem step_line {A : Str → Addr} {R : Store} {b n : Nat} {v1 v2 v3 v4 v7 v8 v9 v10 v11 v12 : Option D} {order begins ends : List Int} {G : List T} {De : DEnds}
    (hol : order.length ≤ 100) (hn : n ≤ 7) (hbl : 1 ≤ begins.length) (hbl2 : begins.length ≤ 102) (hel : 1 ≤ ends.length) (hel2 : ends.length ≤ 102) (hbo : ∀ z ∈ begins, z ∈ order) (heo : ∀ z ∈ ends, z ∈ order) (hne : ∀ x ∈ begins, ∀ y ∈ ends, x ≠ y) (hb : 1000 ≤ b)
    {i : Nat} {x : T} {ρ' : Env} {S' : Store} (hi : i < n)
    (hI : I_line R b [some (.m 1), v1, v2, v3, v4, some (.t (.lst (order.map .int))), some (.m (R.length + 2)), v7, v8, v9, v10, v11, v12, some (.t (.lst (begins.map .int))), some (.t (.lst (ends.map .int)))] order G i ρ' S')
    (hnx : De.nx = I_line R b [some (.m 1), v1, v2, v3, v4, some (.t (.lst (order.map .int))), some (.m (R.length + 2)), v7, v8, v9, v10, v11, v12, some (.t (.lst (begins.map .int))), some (.t (.lst (ends.map .int)))] order G (i + 1)) :
    gVar 15 (.t x) De.ex ρ' S' fun ρ2 S2 => 
            (sSeq
              (sAsg
                (dOp oCatM (dLst (dCons (dCall 2 (ft_law_pick A) (dCons (dVar 0) (dCons (dVar 13) dNil))) dNil))
                  (dSl (dCall 2 (ft_law_mixed A) (dCons (dVar 0) (dCons (dVar 5) dNil))) dNoPart
                    (dPart
                      (dCall 2 (ft_law_pick A)
                        (dCons (dVar 0)
                          (dCons
                            (dLst
                              (dCons (dC (V.int 0))
                                (dCons (dC (V.int 0))
                                  (dCons (dC (V.int 1)) (dCons (dC (V.int 1)) (dCons (dC (V.int 2)) dNil))))))
                            dNil))))))
                (gVar 16))
              (sSeq
                (sDrop
                  (dBM tyLst mAppend (dVar 16)
                    (dCons (dCall 2 (ft_law_pick A) (dCons (dVar 0) (dCons (dVar 14) dNil))) dNil)))
                (sSeq
                  (sDrop
                    (dBM tyLst mExtend (dVar 6)
                      (dCons
                        (dLc (iZipD (dCons (dVar 16) (dCons (dSl (dVar 16) (dPart (dC (V.int 1))) dNoPart) dNil)))
                          (gTupD 2 (gConsD (gVar 17) (gConsD (gVar 18) gNilD))) (dB (dOp oNe (dVar 17) (dVar 18)))
                          (dTup (dCons (dVar 17) (dCons (dVar 18) dNil))) [17, 18])
                        dNil)))
                  sNext))) De ρ2 S2 := by
  have hz1 : (100010 : Nat) ≤ sizeLine := by decide
  have hz5 : (5 : Nat) ≤ sizeLine := by omega
  have hz1' : (1 : Nat) ≤ sizeLine := by omega
  have hz2 : (2 : Nat) ≤ sizeLine := by omega
  obtain ⟨b', R', F, o1, o2, rfl, hb', hs, hF, hF1, hF2, rfl⟩ := hI
  simp [hz5, hz1']
  refine ⟨b', _, _, _, rfl, rfl, by omega, rfl, by simp; omega, by simp; omega, fun e b2 he hb2 => ?_⟩
  obtain ⟨u, rfl, hu⟩ : ∃ u : Int, e = .int u ∧ u ∈ begins := by
    have he : e ∈ begins.map fun z => D.int z := by simpa [Function.comp_def] using he
    obtain ⟨u, hu, rfl⟩ := List.mem_map.mp he
    exact ⟨u, rfl, hu⟩
  simp [hz5, hz1']
  refine ⟨b2, _, _, _, rfl, rfl, by simp; omega, rfl, by simp; omega, fun us b3 hus hb3 => ?_⟩
  obtain ⟨mx, rfl, hmx⟩ := perm_ints hus
  have hml : mx.length = order.length := hmx.length_eq
  simp at hb3
  simp [hz5, hz1']
  refine ⟨b3, _, _, _, rfl, rfl, by omega, rfl, by simp, by simp, fun e b4 he hb4 => ?_⟩
  obtain ⟨cu, rfl, hcu⟩ : ∃ k : Nat, e = .int (k : Int) ∧ k ≤ 2 := by
    simp at he
    rcases he with rfl | rfl | rfl
    · exact ⟨0, rfl, by omega⟩
    · exact ⟨1, rfl, by omega⟩
    · exact ⟨2, rfl, by omega⟩
  simp
  refine ⟨[.int u], (mx.take cu).map fun z => D.int z, rfl, by simp [seqL, List.map_take, Function.comp_def], by simp; omega, ?_⟩
  simp
  refine ⟨b4, R' ++ [.lst (.int u :: (mx.take cu).map fun z => D.int z)], _, _, rfl, by simp, by omega, rfl, by simp; omega, by simp; omega, fun e b5 he hb5 => ?_⟩
  obtain ⟨w, rfl, hw⟩ : ∃ w : Int, e = .int w ∧ w ∈ ends := by
    have he : e ∈ ends.map fun z => D.int z := by simpa [Function.comp_def] using he
    obtain ⟨u, hu, rfl⟩ := List.mem_map.mp he
    exact ⟨u, rfl, hu⟩
  refine append_last (by simp; omega) ?_
  have hline : (.int u :: (mx.take cu).map fun z => D.int z) ++ [.int w] = ((u :: (mx.take cu ++ [w])).map T.int).map D.t := by simp [Function.comp_def]
  rw [hline]
  have hs' := hs.app ((u :: (mx.take cu ++ [w])).map T.int)
  refine ⟨tyLst_m hs'.atF, ?_⟩
  refine slD_m st_last ?_
  refine zipG (seqL_m st_last) rfl fun it hit => ?_
  have hz : ((u :: (mx.take cu ++ [w])).map T.int).zip (cutG ((u :: (mx.take cu ++ [w])).map T.int) (some 1) none) = ((u :: (mx.take cu ++ [w])).zip (mx.take cu ++ [w])).map (Prod.map T.int T.int) := by
    rw [cutG_fr1, List.map_cons, List.drop_one, List.tail_cons, ← List.map_cons, List.zip_map]
  have hzz : (((u :: (mx.take cu ++ [w])).zip (mx.take cu ++ [w])).map (Prod.map T.int T.int)).map (fun p => T.tup [p.1, p.2]) = ((u :: (mx.take cu ++ [w])).zip (mx.take cu ++ [w])).map prT := by rw [List.map_map]; rfl
  rw [hz, hzz] at hit
  have hmem : ∀ p ∈ (u :: (mx.take cu ++ [w])).zip (mx.take cu ++ [w]), p.1 ∈ order ∧ p.2 ∈ order := by
    intro p hp
    have h1 := (List.of_mem_zip (a := p.1) (b := p.2) hp)
    have ht : ∀ z ∈ mx.take cu ++ [w], z ∈ order := by
      intro z hz
      rcases List.mem_append.mp hz with hz | hz
      · exact hmx.mem_iff.mp (List.mem_of_mem_take hz)
      · have : z = w := by simpa using hz
        exact this ▸ heo w hw
    refine ⟨?_, ht _ h1.2⟩
    rcases List.mem_cons.mp h1.1 with h | h
    · exact h ▸ hbo u hu
    · exact ht _ h
  have hzl : ((u :: (mx.take cu ++ [w])).zip (mx.take cu ++ [w])).length ≤ 3 := by
    rw [List.length_zip]; simp; omega
  refine lc_fmG ne2 id hit hs'.closed (by simp; omega) ?_ ?_
  · intro t ht S2 Ky Kn hy hn
    obtain ⟨⟨p, q⟩, _, rfl⟩ := List.mem_map.mp ht
    simp only [prT_e] at hy hn
    simp [wipeD, hz2]
    by_cases hpq : p = q
    · simp [hpq] at hn ⊢; exact hn
    · simp [hpq] at hy ⊢; exact hy
  · rw [List.map_id, List.filter_map, ne2_p]
    generalize hZ : ((u :: (mx.take cu ++ [w])).zip (mx.take cu ++ [w])).filter (fun p => decide (p.1 ≠ p.2)) = Z
    have hZ1 : Z.length ≤ 3 := by rw [← hZ]; exact Nat.le_trans (List.length_filter_le _ _) hzl
    have hZ2 : ∀ p ∈ Z, p.1 ∈ order ∧ p.2 ∈ order ∧ p.1 ≠ p.2 := by
      intro p hp
      rw [← hZ] at hp
      obtain ⟨h1, h2⟩ := List.mem_filter.mp hp
      exact ⟨(hmem p h1).1, (hmem p h1).2, by simpa using h2⟩
    have hZ3 : 1 ≤ Z.length := by
      obtain ⟨p, hp, hpn⟩ := adj_diff (mx.take cu) u w (hne u hu w hw)
      rw [← hZ]
      exact List.length_pos_of_mem (List.mem_filter.mpr ⟨hp, by simpa using hpn⟩)
    refine extend_of hs'.atF (ys := (Z.map prT).map D.t) rfl (by simp; omega) ?_
    rw [hnx]
    refine ⟨b5, _, F ++ Z, some (.t x), some (.m (R'.length + 2)), rfl, by omega, ?_, by simp; omega, fun _ => by simp; omega, ?_, rfl⟩
    · have := hs'.setF (F.map prT ++ Z.map prT)
      rw [List.map_append] at this
      rw [List.map_append]
      exact this
    · intro p hp
      rcases List.mem_append.mp hp with hp | hp
      · exact hF2 p hp
      · exact hZ2 p hp
def I_two (R : Store) (b : Nat) (c : List (Option D)) (order : List Int) (G : List T) (k i : Nat) (ρ' : Env) (S' : Store) : Prop := ∃ (b' : Nat) (R' : Store) (F : List (Int × Int)) (o1 o2 o3 o4 : Option D), S' = st b' R' ∧ b ≤ b' + 110 * i ∧ HS R (F.map prT) G R' ∧ F.length ≤ k + i ∧ 1 ≤ F.length ∧ (∀ p ∈ F, p.1 ∈ order ∧ p.2 ∈ order ∧ p.1 ≠ p.2) ∧
  ρ' = c ++ [o1, o2, o3, o4, none, none, none, none, none, none]
theorem step_two {A : Str → Addr} {R : Store} {b k : Nat} {v1 v2 v3 v4 v7 v8 v9 v10 v11 v12 v13 v14 : Option D} {order : List Int} {G : List T} {De : DEnds}
    (hol : order.length ≤ 100) (hol2 : 2 ≤ order.length) (hon : order.Nodup) (hk : k ≤ 50) (hb : 1000 ≤ b)
    {i : Nat} {x : T} {ρ' : Env} {S' : Store} (hi : i < 3)
    (hI : I_two R b [some (.m 1), v1, v2, v3, v4, some (.t (.lst (order.map .int))), some (.m (R.length + 2)), v7, v8, v9, v10, v11, v12, v13, v14] order G k i ρ' S')
    (hnx : De.nx = I_two R b [some (.m 1), v1, v2, v3, v4, some (.t (.lst (order.map .int))), some (.m (R.length + 2)), v7, v8, v9, v10, v11, v12, v13, v14] order G k (i + 1)) :
    gVar 15 (.t x) De.ex ρ' S' fun ρ2 S2 => 
                    (sSeq
                      (sAsg
                        (dSl (dCall 2 (ft_law_mixed A) (dCons (dVar 0) (dCons (dVar 5) dNil))) dNoPart
                          (dPart (dC (V.int 2))))
                        (gTupD 2 (gConsD (gVar 17) (gConsD (gVar 18) gNilD))))
                      (sSeq
                        (sDrop
                          (dBM tyLst mAppend (dVar 6) (dCons (dTup (dCons (dVar 17) (dCons (dVar 18) dNil))) dNil)))
                        sNext)) De ρ2 S2 := by
  have hz1 : (100010 : Nat) ≤ sizeLine := by decide
  have hz2 : (2 : Nat) ≤ sizeLine := by omega
  obtain ⟨b', R', F, o1, o2, o3, o4, rfl, hb', hs, hF, hF1, hF2, rfl⟩ := hI
  simp
  refine ⟨b', _, _, _, rfl, rfl, by simp; omega, rfl, by simp; omega, fun us b3 hus hb3 => ?_⟩
  obtain ⟨mx, rfl, hmx⟩ := perm_ints hus
  have hml : mx.length = order.length := hmx.length_eq
  match mx, (by omega : 2 ≤ mx.length), hmx with
  | p :: q :: mx, _, hmx =>
    have hnd := hmx.nodup_iff.mpr hon
    have hpq : p ≠ q := fun e => (List.nodup_cons.mp hnd).1 (by simp [e])
    have hp : p ∈ order := hmx.mem_iff.mp (by simp)
    have hq : q ∈ order := hmx.mem_iff.mp (by simp)
    simp at hb3 hml
    simp [hz2]
    refine ⟨tyLst_m hs.atF, append_of hs.atF (by simp; omega) ?_⟩
    rw [hnx]
    refine ⟨b3, _, F ++ [(p, q)], some (.t x), o2, some (.int p), some (.int q), rfl, by omega, ?_, by simp; omega, by simp, ?_, rfl⟩
    · have := hs.setF (F.map prT ++ [prT (p, q)])
      rw [List.map_append] at this
      rw [List.map_append]
      exact this
    · intro r hr
      rcases List.mem_append.mp hr with hr | hr
      · exact hF2 r hr
      · have : r = (p, q) := by simpa using hr
        exact this ▸ ⟨hp, hq, hpq⟩
def I_road (R : Store) (b j : Nat) (c : List (Option D)) (order : List Int) (rk : Int → Nat) (F G : List T) (v20 : Option D) (i : Nat) (ρ' : Env) (S' : Store) : Prop := ∃ (b' : Nat) (R' : Store) (rows : List (List T)) (o1 o2 o3 o4 o5 : Option D), S' = st b' R' ∧ b ≤ b' + 10 * i ∧ HS R F G R' ∧ R'[j]? = some (.lst ((rows.map T.tup).map .t)) ∧ rows.length = i ∧ (∀ r ∈ rows, RowR (· ∈ order) rk r) ∧
  ρ' = c ++ [o1, o2, o3, o4, some (.m (j + 2)), v20, o5, none, none, none]
theorem step_road {A : Str → Addr} {R : Store} {b j n : Nat} {v1 v2 v3 v4 v5 v6 v7 v10 v11 v12 v13 v14 : Option D} {order rank : List Int} {long wide : Int} {F G : List T} {De : DEnds}
    (hj : R.length + 2 ≤ j) (hn : n ≤ 60) (hlo : 1 ≤ long ∧ long ≤ 5) (hwi : 1 ≤ wide ∧ wide ≤ 10) (hrk : rank.Perm order) (hb : 1000 ≤ b)
    {i : Nat} {p q : Int} (hp : p ∈ order) (hq : q ∈ order) (hpq : p ≠ q) {ρ' : Env} {S' : Store} (hi : i < n)
    (hI : I_road R b j [some (.m 1), v1, v2, v3, v4, v5, v6, v7, some (.int long), some (.int wide), v10, v11, v12, v13, v14] order (fun z => rank.idxOf z) F G (some (.t (.lst (rank.map .int)))) i ρ' S')
    (hnx : De.nx = I_road R b j [some (.m 1), v1, v2, v3, v4, v5, v6, v7, some (.int long), some (.int wide), v10, v11, v12, v13, v14] order (fun z => rank.idxOf z) F G (some (.t (.lst (rank.map .int)))) (i + 1)) :
    (gTupD 2 (gConsD (gVar 17) (gConsD (gVar 18) gNilD))) (.t (prT (p, q))) De.ex ρ' S' fun ρ2 S2 => 
                        (sSeq
                          (sAsg
                            (dCall 2 (ft_law_draw A) (dCons (dVar 0) (dCons (dOp oAdd (dVar 8) (dC (V.int 1))) dNil)))
                            (gVar 21))
                          (sSeq
                            (sAsg
                              (dIf
                                (dAndT (dB (dOp oEq (dVar 21) (dC (V.int 0))))
                                  (dB
                                    (dOp (oI0 fun i j => V.bl (decide (j < i)))
                                      (dBM tyLst mIndexT (dVar 20) (dCons (dVar 17) dNil))
                                      (dBM tyLst mIndexT (dVar 20) (dCons (dVar 18) dNil)))))
                                (dC (V.int 1)) (dVar 21))
                              (gVar 21))
                            (sSeq
                              (sDrop
                                (dBM tyLst mAppend (dVar 19)
                                  (dCons
                                    (dTup
                                      (dCons (dVar 17)
                                        (dCons (dVar 18)
                                          (dCons (dVar 21)
                                            (dCons
                                              (dOp oAdd (dC (V.int 1))
                                                (dCall 2 (ft_law_draw A) (dCons (dVar 0) (dCons (dVar 9) dNil))))
                                              dNil)))))
                                    dNil)))
                              sNext))) De ρ2 S2 := by
  have hz1 : (100010 : Nat) ≤ sizeLine := by decide
  have hz2 : (2 : Nat) ≤ sizeLine := by omega
  have hz4 : (4 : Nat) ≤ sizeLine := by omega
  obtain ⟨b', R', rows, o1, o2, o3, o4, o5, rfl, hb', hs, hj1, hrl, hrw, rfl⟩ := hI
  have hp' := hrk.mem_iff.mpr hp
  have hq' := hrk.mem_iff.mpr hq
  simp [hz2]
  refine draw_st (by omega) (by omega) (by omega) fun d1 b1 hd0 hd1 hd2 => ?_
  have fin : ∀ l : Int, 0 ≤ l → (l = 0 → rank.idxOf p < rank.idxOf q) → ∀ (w : Int) (b2 : Nat), 1 ≤ w → b1 ≤ b2 + 1 → mAppend (.m (j + 2)) [.t (.tup [.int p, .int q, .int l, .int w])] (st b2 R') fun _ S1 => De.nx ([some (.m 1), v1, v2, v3, v4, v5, v6, v7, some (.int long), some (.int wide), v10, v11, v12, v13, v14] ++ [o1, o2, some (.int p), some (.int q), some (.m (j + 2)), some (.t (.lst (rank.map .int))), some (.int l), none, none, none]) S1 := by
    intro l hl hlr w b2 hw hb2
    refine append_of (xs := (rows.map T.tup).map .t) (by rw [st_get]; exact hj1) (by simp; omega) ?_
    rw [hnx]
    have hjl : j < R'.length := (List.getElem?_eq_some_iff.mp hj1).1
    refine ⟨b2, R'.set j (.lst (((rows ++ [[T.int p, T.int q, T.int l, T.int w]]).map T.tup).map .t)), rows ++ [[.int p, .int q, .int l, .int w]], o1, o2, some (.int p), some (.int q), some (.int l), by rw [st_set]; simp, by omega, hs.setO hj _, List.getElem?_set_self hjl, by simp [hrl], ?_, rfl⟩
    intro r hr
    rcases List.mem_append.mp hr with hr | hr
    · exact hrw r hr
    · have : r = [.int p, .int q, .int l, .int w] := by simpa using hr
      subst this
      exact ⟨p, q, l, w, rfl, hp, hq, hpq, hl, hw, hlr⟩
  have htl : ∀ b2, tyLst (.m (j + 2)) (st b2 R') := fun b2 => tyLst_m (by rw [st_get]; exact hj1)
  rw [oEq_t (by simp) (by simp)]
  simp
  by_cases h0 : d1 = 0
  · subst h0
    simp
    refine index_ints hp' ?_
    refine index_ints hq' ?_
    simp [hz4, htl]
    by_cases hlt : rank.idxOf q < rank.idxOf p
    · simp [hlt]
      refine draw_st (by omega) (by omega) (by omega) fun d2 b2 _ _ _ => ?_
      simp [hz4]
      exact fin 1 (by omega) (by omega) (1 + d2) b2 (by omega) (by omega)
    · simp [hlt]
      refine draw_st (by omega) (by omega) (by omega) fun d2 b2 _ _ _ => ?_
      simp [hz4]
      refine fin 0 (by omega) (fun _ => ?_) (1 + d2) b2 (by omega) (by omega)
      have : rank.idxOf p ≠ rank.idxOf q := fun e => hpq (idx_inj hp' hq' e)
      omega
  · simp [h0, hz4, htl]
    refine draw_st (by omega) (by omega) (by omega) fun d2 b2 _ _ _ => ?_
    simp [hz4]
    exact fin d1 (by omega) (by omega) (1 + d2) b2 (by omega) (by omega)
theorem perm_of {α β : Type} (f : α → β) (g : β → α) (hg : ∀ x, g (f x) = x) {L : List α} {us : List β} (h : us.Perm (L.map f)) : ∃ M : List α, us = M.map f ∧ M.Perm L := by
  have e : (L.map f).map g = L := by rw [List.map_map]; simp [Function.comp_def, hg]
  refine ⟨us.map g, ?_, by have := h.map g; rwa [e] at this⟩
  have : ∀ u ∈ us, f (g u) = u := fun u hu => by
    obtain ⟨x, _, rfl⟩ := List.mem_map.mp (h.mem_iff.mp hu)
    rw [hg]
  rw [List.map_map]
  conv => lhs; rw [← List.map_id us]
  exact List.map_congr_left fun u hu => (this u hu).symm
def untup : T → List T
  | .tup ts => ts
  | _ => []
theorem RowOn.row {P : Int → Prop} {rk : Int → Nat} {r : List T} (h : RowOn P r) : RowR P rk r := by
  obtain ⟨a, b, l, w, rfl, h1, h2, h3, h4, h5⟩ := h
  exact ⟨a, b, l, w, rfl, h1, h2, h3, by omega, h5, fun e => by omega⟩
theorem step_cross {A : Str → Addr} {R R1 : Store} {b j fn : Nat} {many wide : Int} {v1 v3 v6 v7 v8 v10 v11 v12 v15 v16 v17 v18 v20 v21 : Option D} {order begins ends : List Int} {rk : Int → Nat} {F G : List T} {rows : List (List T)} {De : DEnds}
    (hj : R.length + 2 ≤ j) (hol : order.length = many.toNat) (hm : many ≤ 100) (hon : order.Nodup) (hbl : 1 ≤ begins.length) (hbl2 : begins.length ≤ 102) (hel : 1 ≤ ends.length) (hel2 : ends.length ≤ 102) (hbo : ∀ z ∈ begins, z ∈ order) (heo : ∀ z ∈ ends, z ∈ order) (hne : ∀ x ∈ begins, ∀ y ∈ ends, x ≠ y)
    (hwi : 1 ≤ wide ∧ wide ≤ 10) (hfn : fn ≤ 100) (hb : 1000 ≤ b) (hs : HS R F G R1) (hj1 : R1[j]? = some (.lst ((rows.map T.tup).map .t))) (hr1 : 1 ≤ rows.length) (hr2 : rows.length ≤ 21) (hrw : ∀ r ∈ rows, RowR (· ∈ order) rk r)
    (hK : ∀ (b' : Nat) (R' : Store) (j' : Nat) (rows' : List (List T)) (o : Option D), b ≤ b' + 500 → HS R F G R' → R.length + 2 ≤ j' → R'[j']? = some (.lst ((rows'.map T.tup).map .t)) → 1 ≤ rows'.length → rows'.length ≤ 30 → (∀ r ∈ rows', RowR (· ∈ order) rk r) →
      De.nx [some (.m 1), v1, some (.int fn), v3, some (.int many), some (.t (.lst (order.map .int))), v6, v7, v8, some (.int wide), v10, v11, v12, some (.t (.lst (begins.map .int))), some (.t (.lst (ends.map .int))), v15, v16, v17, v18, some (.m (j' + 2)), v20, v21, o, none, none] (st b' R')) :
            (sIf
              (dAndT (dB (dOp (oI0 fun i j => V.bl (decide (j < i))) (dVar 4) (dC (V.int 3))))
                (dAndT (dB (dOp (oI0 fun i j => V.bl (decide (j < i))) (dVar 2) (dC (V.int 4))))
                  (dB (dOp oEq (dCall 2 (ft_law_draw A) (dCons (dVar 0) (dCons (dC (V.int 2)) dNil))) (dC (V.int 0))))))
              (sSeq
                (sAsg
                  (dCall 5 (ft_law_stepping A)
                    (dCons (dVar 0)
                      (dCons (dCall 2 (ft_law_pick A) (dCons (dVar 0) (dCons (dVar 13) dNil)))
                        (dCons (dCall 2 (ft_law_pick A) (dCons (dVar 0) (dCons (dVar 14) dNil)))
                          (dCons (dVar 5) (dCons (dVar 9) dNil))))))
                  (gVar 22))
                (sSeq
                  (sAsg
                    (dCall 2 (ft_law_mixedM A)
                      (dCons (dVar 0)
                        (dCons
                          (dOp oAdd (dVar 22)
                            (dSl (dVar 19) dNoPart
                              (dPart
                                (dCall 2 (ft_law_draw A)
                                  (dCons (dVar 0)
                                    (dCons (dOp (oI0 fun i j => V.int (i - j)) (dVar 2) (dC (V.int 4))) dNil))))))
                          dNil)))
                    (gVar 19))
                  sNext))
              sNext) De [some (.m 1), v1, some (.int fn), v3, some (.int many), some (.t (.lst (order.map .int))), v6, v7, v8, some (.int wide), v10, v11, v12, some (.t (.lst (begins.map .int))), some (.t (.lst (ends.map .int))), v15, v16, v17, v18, some (.m (j + 2)), v20, v21, none, none, none] (st b R1) := by
  have hz1 : (100010 : Nat) ≤ sizeLine := by decide
  have hno : ∀ b1, b ≤ b1 + 500 → _ := fun b1 hb1 => hK b1 R1 j rows none hb1 hs hj hj1 hr1 (by omega) hrw
  simp
  by_cases h1 : 3 < many
  · by_cases h2 : 4 < (fn : Int)
    · simp [h1, h2]
      refine draw_st (by omega) (by omega) (by omega) fun d1 b1 _ _ _ => ?_
      rw [oEq_t (by simp) (by simp)]
      simp
      by_cases h3 : d1 = 0
      · simp [h3]
        refine ⟨b1, _, _, _, rfl, rfl, by omega, rfl, by simp; omega, by simp; omega, fun e b2 he hb2 => ?_⟩
        obtain ⟨u, rfl, hu⟩ : ∃ u : Int, e = .int u ∧ u ∈ begins := by
          have he : e ∈ begins.map fun z => D.int z := by simpa [Function.comp_def] using he
          obtain ⟨u, hu, rfl⟩ := List.mem_map.mp he
          exact ⟨u, rfl, hu⟩
        refine ⟨b2, _, _, _, rfl, rfl, by omega, rfl, by simp; omega, by simp; omega, fun e b3 he hb3 => ?_⟩
        obtain ⟨w, rfl, hw⟩ : ∃ u : Int, e = .int u ∧ u ∈ ends := by
          have he : e ∈ ends.map fun z => D.int z := by simpa [Function.comp_def] using he
          obtain ⟨u, hu, rfl⟩ := List.mem_map.mp he
          exact ⟨u, rfl, hu⟩
        refine ⟨b3, R1, u, w, wide, order, rfl, rfl, by omega, by omega, by omega, hon, by omega, by omega, hbo u hu, heo w hw, hne u hu w hw, fun rows5 b4 h5 hon5 hb4 => ?_⟩
        simp
        refine draw_st (by omega) (by omega) (by omega) fun d2 b5 _ _ _ => ?_
        obtain ⟨dn, rfl⟩ : ∃ n : Nat, d2 = n := ⟨d2.toNat, by omega⟩
        simp
        refine slD_m (by rw [st_get]; exact hj1) ?_
        rw [cutG_to, ← List.map_take]
        refine oAdd_s (xs := rows5.map .tup) (ys := (rows.take dn).map .tup) rfl rfl (by simp; omega) ?_
        rw [← List.map_append]
        have hlen : (rows5 ++ rows.take dn).length ≤ 26 := by simp; omega
        refine ⟨b5, R1, _, (rows5 ++ rows.take dn).map .tup, rfl, rfl, by rw [List.length_map]; omega, rfl, by rw [List.length_map]; omega, fun us b6 hus hb6 => ?_⟩
        obtain ⟨M, rfl, hM⟩ := perm_of T.tup untup (fun _ => rfl) hus
        have hMl := hM.length_eq
        rw [List.length_map] at hb6
        refine hK b6 _ R1.length M _ (by omega) (hs.app _) hs.len (by simp) (by rw [hMl]; simp; omega) (by omega) ?_
        intro r hr
        rcases List.mem_append.mp (hM.mem_iff.mp hr) with h | h
        · exact (hon5 r h).row
        · exact hrw r (List.mem_of_mem_take h)
      · simp [h3]
        exact hno b1 (by omega)
    · simp [h1, h2]
      exact hno b (by omega)
  · simp [h1]
    exact hno b (by omega)
theorem step_late {A : Str → Addr} {R R1 : Store} {b j : Nat} {v1 v2 v3 v4 v5 v6 v7 v8 v9 v10 v11 v12 v13 v14 v15 v16 v17 v18 v20 v21 v22 : Option D} {P : Int → Prop} {rk : Int → Nat} {F G : List T} {rows : List (List T)} {De : DEnds}
    (hj : R.length + 2 ≤ j) (hb : 1000 ≤ b) (hs : HS R F G R1) (hj1 : R1[j]? = some (.lst ((rows.map T.tup).map .t))) (hr1 : 1 ≤ rows.length) (hr2 : rows.length ≤ 30) (hrw : ∀ r ∈ rows, RowR P rk r)
    (hK : ∀ (b' : Nat) (R' : Store) (rows' : List (List T)) (o : Option D), b ≤ b' + 500 → HS R F G R' → R'[j]? = some (.lst ((rows'.map T.tup).map .t)) → 1 ≤ rows'.length → rows'.length ≤ 30 → (∀ r ∈ rows', RowR P rk r) →
      De.nx [some (.m 1), v1, v2, v3, v4, v5, v6, v7, v8, v9, v10, v11, v12, v13, v14, v15, v16, v17, v18, some (.m (j + 2)), v20, v21, v22, o, none] (st b' R')) :
              (sIf
                (dAndT
                  (dB (dOp oEq (dCall 2 (ft_law_draw A) (dCons (dVar 0) (dCons (dC (V.int 3)) dNil))) (dC (V.int 0))))
                  (dB (dOp (oI0 fun i j => V.bl (decide (j < i))) (dCB cLen (dCons (dVar 19) dNil)) (dC (V.int 2)))))
                (sSeq
                  (sAsg (dCall 2 (ft_law_draw A) (dCons (dVar 0) (dCons (dCB cLen (dCons (dVar 19) dNil)) dNil)))
                    (gVar 23))
                  (sSeq
                    (sAsg
                      (dTup
                        (dCons (dOp oIx (dOp oIx (dVar 19) (dVar 23)) (dC (V.int 0)))
                          (dCons (dOp oIx (dOp oIx (dVar 19) (dVar 23)) (dC (V.int 1)))
                            (dCons
                              (dOp oAdd (dC (V.int 6))
                                (dCall 2 (ft_law_draw A) (dCons (dVar 0) (dCons (dC (V.int 4)) dNil))))
                              (dCons (dOp oIx (dOp oIx (dVar 19) (dVar 23)) (dC (V.int 3))) dNil)))))
                      (gSubD (dVar 19) (dVar 23)))
                    sNext))
                sNext) De [some (.m 1), v1, v2, v3, v4, v5, v6, v7, v8, v9, v10, v11, v12, v13, v14, v15, v16, v17, v18, some (.m (j + 2)), v20, v21, v22, none, none] (st b R1) := by
  have hz1 : (100010 : Nat) ≤ sizeLine := by decide
  have hz4 : (4 : Nat) ≤ sizeLine := by omega
  have hno : ∀ b1, b ≤ b1 + 500 → _ := fun b1 hb1 => hK b1 R1 rows none hb1 hs hj1 hr1 (by omega) hrw
  have hjj : ∀ b', (st b' R1)[j + 2]? = some (.lst ((rows.map T.tup).map .t)) := fun b' => by rw [st_get]; exact hj1
  simp
  refine draw_st (by omega) (by omega) (by omega) fun d1 b1 _ _ _ => ?_
  rw [oEq_t (by simp) (by simp)]
  simp
  by_cases h3 : d1 = 0
  · simp [h3]
    rw [cLen_m (hjj b1)]
    simp
    by_cases h4 : 2 < (rows.length : Int)
    · simp [h4]
      rw [cLen_m (hjj b1)]
      simp
      refine draw_st (by omega) (by omega) (by omega) fun d2 b2 h5 h6 _ => ?_
      obtain ⟨n, rfl⟩ : ∃ n : Nat, d2 = n := ⟨d2.toNat, by omega⟩
      have hn : n < rows.length := by omega
      obtain ⟨p, q, l, w, hrow, hp, hq, hpq, hl, hw, hlr⟩ := hrw rows[n] (List.getElem_mem _)
      have hat : atI ((rows.map T.tup).map D.t) (n : Int) = some (.t (.tup [.int p, .int q, .int l, .int w])) := by
        rw [atI_nat]; simp [List.getElem?_eq_getElem hn, hrow]
      refine oIx_m (seqA_m (hjj b2)) hat ?_
      simp
      refine oIx_m (seqA_m (hjj b2)) hat ?_
      simp
      refine draw_st (by omega) (by omega) (by omega) fun d3 b3 _ _ _ => ?_
      simp
      refine oIx_m (seqA_m (hjj b3)) hat ?_
      simp [hz4]
      have hix : ixN ((rows.map T.tup).map D.t).length (n : Int) = some n := by
        unfold ixN
        simp
        omega
      refine subI_of (hjj b3) hix ?_
      have hset : ((rows.map T.tup).map D.t).set n (.t (.tup [.int p, .int q, .int (6 + d3), .int w])) = ((rows.set n [.int p, .int q, .int (6 + d3), .int w]).map T.tup).map D.t := by
        rw [List.map_set, List.map_set]
      rw [hset]
      refine hK b3 _ (rows.set n [.int p, .int q, .int (6 + d3), .int w]) (some (.int n)) (by omega) (hs.setO hj _) (List.getElem?_set_self (List.getElem?_eq_some_iff.mp hj1).1) (by simp; omega) (by simp; omega) ?_
      intro r hr
      rcases List.mem_or_eq_of_mem_set hr with hr | rfl
      · exact hrw r hr
      · exact ⟨p, q, 6 + d3, w, rfl, hp, hq, hpq, by omega, hw, fun e => by omega⟩
    · simp [h4]
      exact hno b1 (by omega)
  · simp [h3]
    exact hno b1 (by omega)
theorem step_some {A : Str → Addr} {R R1 : Store} {b j : Nat} {v1 v2 v3 v4 v5 v6 v8 v9 v10 v11 v12 v13 v14 v15 v16 v17 v18 v19 v20 v21 v22 v23 : Option D} {P P2 : Int → Prop} {F : List T} {rows G : List (List T)} {De : DEnds}
    (hj : R.length + 2 ≤ j) (hb : 1000 ≤ b) (hs : HS R F (G.map T.tup) R1) (hj1 : R1[j]? = some (.lst ((rows.map T.tup).map .t))) (hr1 : 2 ≤ G.length) (hr2 : G.length ≤ 102) (hrw : ∀ r ∈ G, DoorR P P2 r)
    (hK : ∀ (b' : Nat) (R' : Store) (G' : List (List T)) (o : Option D), b ≤ b' + 500 → HS R F (G'.map T.tup) R' → R'[j]? = some (.lst ((rows.map T.tup).map .t)) → 2 ≤ G'.length → G'.length ≤ 102 → (∀ r ∈ G', DoorR P P2 r) →
      De.nx [some (.m 1), v1, v2, v3, v4, v5, v6, some (.m (R.length + 2 + 1)), v8, v9, v10, v11, v12, v13, v14, v15, v16, v17, v18, v19, v20, v21, v22, o, none] (st b' R')) :
                (sIf
                  (dAndT
                    (dB (dOp oEq (dCall 2 (ft_law_draw A) (dCons (dVar 0) (dCons (dC (V.int 3)) dNil))) (dC (V.int 0))))
                    (dB (dOp (oI0 fun i j => V.bl (decide (j < i))) (dCB cLen (dCons (dVar 7) dNil)) (dC (V.int 2)))))
                  (sSeq
                    (sAsg
                      (dOp oAdd (dC (V.int 2))
                        (dCall 2 (ft_law_draw A)
                          (dCons (dVar 0)
                            (dCons (dOp (oI0 fun i j => V.int (i - j)) (dCB cLen (dCons (dVar 7) dNil)) (dC (V.int 2)))
                              dNil))))
                      (gVar 23))
                    (sSeq
                      (sAsg
                        (dTup
                          (dCons (dOp oIx (dOp oIx (dVar 7) (dVar 23)) (dC (V.int 0)))
                            (dCons (dOp oIx (dOp oIx (dVar 7) (dVar 23)) (dC (V.int 1)))
                              (dCons
                                (dOp oAdd (dC (V.int 3))
                                  (dCall 2 (ft_law_draw A) (dCons (dVar 0) (dCons (dC (V.int 7)) dNil))))
                                dNil))))
                        (gSubD (dVar 7) (dVar 23)))
                      sNext))
                  sNext) De [some (.m 1), v1, v2, v3, v4, v5, v6, some (.m (R.length + 2 + 1)), v8, v9, v10, v11, v12, v13, v14, v15, v16, v17, v18, v19, v20, v21, v22, v23, none] (st b R1) := by
  have hz1 : (100010 : Nat) ≤ sizeLine := by decide
  have hz3 : (3 : Nat) ≤ sizeLine := by omega
  have hno : ∀ b1, b ≤ b1 + 500 → _ := fun b1 hb1 => hK b1 R1 G v23 hb1 hs hj1 hr1 (by omega) hrw
  have hjj : ∀ b', (st b' R1)[R.length + 2 + 1]? = some (.lst ((G.map T.tup).map .t)) := fun b' => hs.atG
  simp
  refine draw_st (by omega) (by omega) (by omega) fun d1 b1 _ _ _ => ?_
  rw [oEq_t (by simp) (by simp)]
  simp
  by_cases h3 : d1 = 0
  · simp [h3]
    rw [cLen_m (hjj b1)]
    simp
    by_cases h4 : 2 < (G.length : Int)
    · simp [h4]
      rw [cLen_m (hjj b1)]
      simp
      refine draw_st (by omega) (by omega) (by omega) fun d2 b2 h5 h6 _ => ?_
      simp
      obtain ⟨n, hn0⟩ : ∃ n : Nat, 2 + d2 = n := ⟨(2 + d2).toNat, by omega⟩
      rw [hn0]
      have hn : n < G.length := by omega
      obtain ⟨s, p, l, hrow, hsp, hl⟩ := hrw G[n] (List.getElem_mem _)
      have hat : atI ((G.map T.tup).map D.t) (n : Int) = some (.t (.tup [.str s, .int p, .int l])) := by
        rw [atI_nat]; simp [List.getElem?_eq_getElem hn, hrow]
      refine oIx_m (seqA_m (hjj b2)) hat ?_
      simp
      refine oIx_m (seqA_m (hjj b2)) hat ?_
      simp
      refine draw_st (by omega) (by omega) (by omega) fun d3 b3 _ _ _ => ?_
      simp [hz3]
      have hix : ixN ((G.map T.tup).map D.t).length (n : Int) = some n := by
        unfold ixN
        simp
        omega
      refine subI_of (hjj b3) hix ?_
      have hset : ((G.map T.tup).map D.t).set n (.t (.tup [.str s, .int p, .int (3 + d3)])) = ((G.set n [.str s, .int p, .int (3 + d3)]).map T.tup).map D.t := by
        rw [List.map_set, List.map_set]
      rw [hset]
      refine hK b3 _ (G.set n [.str s, .int p, .int (3 + d3)]) (some (.int n)) (by omega) (hs.setG _) (by rw [List.getElem?_set_ne (by omega)]; exact hj1) (by simp; omega) (by simp; omega) ?_
      intro r hr
      rcases List.mem_or_eq_of_mem_set hr with hr | rfl
      · exact hrw r hr
      · exact ⟨s, p, 3 + d3, rfl, hsp, by omega⟩
    · simp [h4]
      exact hno b1 (by omega)
  · simp [h3]
    exact hno b1 (by omega)
theorem frz_three {n i j : Nat} {S : Store} {f : Nat} {a c : T} {ts : List T} (h : S[i]? = some (.tup [.t a, .m j, .t c])) (hi : n ≤ i) (hj : S[j]? = some (.lst (ts.map .t))) (hj2 : n ≤ j) : frz n S (f + 2) (.m i) = some (.tup [a, .lst ts, c]) := by
  unfold frz
  rw [h]
  show (if n ≤ i then (frzL n S (f + 1) [.t a, .m j, .t c]).map T.tup else none) = _
  rw [if_pos hi]
  have e2 : frz n S (f + 1) (.m j) = some (.lst ts) := frz_lst hj hj2
  have e1 : frz n S (f + 1) (.t a) = some a := by unfold frz; rfl
  have e3 : frz n S (f + 1) (.t c) = some c := by unfold frz; rfl
  unfold frzL
  rw [e1]
  unfold frzL
  rw [e2]
  unfold frzL
  rw [e3]
  unfold frzL
  rfl
theorem house_tail {A : Str → Addr} {Q : D → Store → Prop} {E : Ex → Prop} {b b11 : Nat} {R R1 : Store} {pl full drs many long wide late : Int} {cn : Nat} {order begins ends : List Int} {G : List (List T)} {o : Option D}
    (hc : ClosedS (st b R).length (st b R)) (hb : 10000 ≤ b11) (hp : 2 ≤ many ∧ many ≤ 100) (hf1 : 1 ≤ full) (hf2 : full ≤ 100) (hol : order.length = many.toNat) (hon : order.Nodup) (hom : ∀ z, z ∈ order → 0 ≤ z ∧ z < many)
    (hlo : 1 ≤ long ∧ long ≤ 5) (hwi : 1 ≤ wide ∧ wide ≤ 10) (hs1 : HS R [] (G.map T.tup) R1) (hGl1 : 2 ≤ G.length) (hGl : G.length ≤ 102) (hG1 : ∀ g ∈ G, DoorR (· ∈ order.take cn) (· ∈ order.drop cn) g)
    (hb1 : 1 ≤ begins.length) (hbl : begins.length ≤ 102) (hb2 : ∀ z, z ∈ begins → z ∈ order.take cn) (he1 : 1 ≤ ends.length) (hel : ends.length ≤ 102) (he2 : ∀ z, z ∈ ends → z ∈ order.drop cn)
    (q : ∀ (rs dr : List (List T)) (b' : Nat), RoadsOk many rs → DoorsOk many dr → 1 ≤ rs.length → rs.length ≤ 200 → 2 ≤ dr.length → dr.length ≤ 200 → b11 ≤ b' + 10000 → Q (D.t (T.tup [T.int many, T.lst (List.map T.tup rs), T.lst (List.map T.tup dr)])) (st b' R)) :
     ft_law_draw A [D.m 1, D.t (T.v (V.int 5))] (st b11 R1)
    (fun y S2 =>
      oAdd (D.t (T.v (V.int 2))) y S2 fun x S1 =>
        rng1I [x] S1 fun it S1 =>
          forI (gVar 15)
            (sSeq
              (sAsg
                (dOp oCatM (dLst (dCons (dCall 2 (ft_law_pick A) (dCons (dVar 0) (dCons (dVar 13) dNil))) dNil))
                  (dSl (dCall 2 (ft_law_mixed A) (dCons (dVar 0) (dCons (dVar 5) dNil))) dNoPart
                    (dPart
                      (dCall 2 (ft_law_pick A)
                        (dCons (dVar 0)
                          (dCons
                            (dLst
                              (dCons (dC (V.int 0))
                                (dCons (dC (V.int 0))
                                  (dCons (dC (V.int 1)) (dCons (dC (V.int 1)) (dCons (dC (V.int 2)) dNil))))))
                            dNil))))))
                (gVar 16))
              (sSeq
                (sDrop
                  (dBM tyLst mAppend (dVar 16)
                    (dCons (dCall 2 (ft_law_pick A) (dCons (dVar 0) (dCons (dVar 14) dNil))) dNil)))
                (sSeq
                  (sDrop
                    (dBM tyLst mExtend (dVar 6)
                      (dCons
                        (dLc (iZipD (dCons (dVar 16) (dCons (dSl (dVar 16) (dPart (dC (V.int 1))) dNoPart) dNil)))
                          (gTupD 2 (gConsD (gVar 17) (gConsD (gVar 18) gNilD))) (dB (dOp oNe (dVar 17) (dVar 18)))
                          (dTup (dCons (dVar 17) (dCons (dVar 18) dNil))) [17, 18])
                        dNil)))
                  sNext)))
            {
              nx :=
                sSeq
                  (sFor (iRange1 (dCons (dCall 2 (ft_law_draw A) (dCons (dVar 0) (dCons (dC (V.int 3)) dNil))) dNil))
                    (gVar 15)
                    (sSeq
                      (sAsg
                        (dSl (dCall 2 (ft_law_mixed A) (dCons (dVar 0) (dCons (dVar 5) dNil))) dNoPart
                          (dPart (dC (V.int 2))))
                        (gTupD 2 (gConsD (gVar 17) (gConsD (gVar 18) gNilD))))
                      (sSeq
                        (sDrop
                          (dBM tyLst mAppend (dVar 6) (dCons (dTup (dCons (dVar 17) (dCons (dVar 18) dNil))) dNil)))
                        sNext)))
                  (sSeq
                    (sPar 19 20
                      (dCons (dLstM dNil)
                        (dCons
                          (dCall 2 (ft_law_pick A)
                            (dCons (dVar 0)
                              (dCons
                                (dLst
                                  (dCons (dVar 5)
                                    (dCons (dVar 5)
                                      (dCons (dCall 2 (ft_law_mixed A) (dCons (dVar 0) (dCons (dVar 5) dNil))) dNil))))
                                dNil)))
                          dNil)))
                    (sSeq
                      (sFor (iSeq (dSl (dVar 6) dNoPart (dPart (dVar 2))))
                        (gTupD 2 (gConsD (gVar 17) (gConsD (gVar 18) gNilD)))
                        (sSeq
                          (sAsg
                            (dCall 2 (ft_law_draw A) (dCons (dVar 0) (dCons (dOp oAdd (dVar 8) (dC (V.int 1))) dNil)))
                            (gVar 21))
                          (sSeq
                            (sAsg
                              (dIf
                                (dAndT (dB (dOp oEq (dVar 21) (dC (V.int 0))))
                                  (dB
                                    (dOp (oI0 fun i j => V.bl (decide (j < i)))
                                      (dBM tyLst mIndexT (dVar 20) (dCons (dVar 17) dNil))
                                      (dBM tyLst mIndexT (dVar 20) (dCons (dVar 18) dNil)))))
                                (dC (V.int 1)) (dVar 21))
                              (gVar 21))
                            (sSeq
                              (sDrop
                                (dBM tyLst mAppend (dVar 19)
                                  (dCons
                                    (dTup
                                      (dCons (dVar 17)
                                        (dCons (dVar 18)
                                          (dCons (dVar 21)
                                            (dCons
                                              (dOp oAdd (dC (V.int 1))
                                                (dCall 2 (ft_law_draw A) (dCons (dVar 0) (dCons (dVar 9) dNil))))
                                              dNil)))))
                                    dNil)))
                              sNext))))
                      (sSeq
                        (sIf
                          (dAndT (dB (dOp (oI0 fun i j => V.bl (decide (j < i))) (dVar 4) (dC (V.int 3))))
                            (dAndT (dB (dOp (oI0 fun i j => V.bl (decide (j < i))) (dVar 2) (dC (V.int 4))))
                              (dB
                                (dOp oEq (dCall 2 (ft_law_draw A) (dCons (dVar 0) (dCons (dC (V.int 2)) dNil)))
                                  (dC (V.int 0))))))
                          (sSeq
                            (sAsg
                              (dCall 5 (ft_law_stepping A)
                                (dCons (dVar 0)
                                  (dCons (dCall 2 (ft_law_pick A) (dCons (dVar 0) (dCons (dVar 13) dNil)))
                                    (dCons (dCall 2 (ft_law_pick A) (dCons (dVar 0) (dCons (dVar 14) dNil)))
                                      (dCons (dVar 5) (dCons (dVar 9) dNil))))))
                              (gVar 22))
                            (sSeq
                              (sAsg
                                (dCall 2 (ft_law_mixedM A)
                                  (dCons (dVar 0)
                                    (dCons
                                      (dOp oAdd (dVar 22)
                                        (dSl (dVar 19) dNoPart
                                          (dPart
                                            (dCall 2 (ft_law_draw A)
                                              (dCons (dVar 0)
                                                (dCons (dOp (oI0 fun i j => V.int (i - j)) (dVar 2) (dC (V.int 4)))
                                                  dNil))))))
                                      dNil)))
                                (gVar 19))
                              sNext))
                          sNext)
                        (sSeq
                          (sIf
                            (dAndT
                              (dB
                                (dOp oEq (dCall 2 (ft_law_draw A) (dCons (dVar 0) (dCons (dC (V.int 3)) dNil)))
                                  (dC (V.int 0))))
                              (dB
                                (dOp (oI0 fun i j => V.bl (decide (j < i))) (dCB cLen (dCons (dVar 19) dNil))
                                  (dC (V.int 2)))))
                            (sSeq
                              (sAsg
                                (dCall 2 (ft_law_draw A)
                                  (dCons (dVar 0) (dCons (dCB cLen (dCons (dVar 19) dNil)) dNil)))
                                (gVar 23))
                              (sSeq
                                (sAsg
                                  (dTup
                                    (dCons (dOp oIx (dOp oIx (dVar 19) (dVar 23)) (dC (V.int 0)))
                                      (dCons (dOp oIx (dOp oIx (dVar 19) (dVar 23)) (dC (V.int 1)))
                                        (dCons
                                          (dOp oAdd (dC (V.int 6))
                                            (dCall 2 (ft_law_draw A) (dCons (dVar 0) (dCons (dC (V.int 4)) dNil))))
                                          (dCons (dOp oIx (dOp oIx (dVar 19) (dVar 23)) (dC (V.int 3))) dNil)))))
                                  (gSubD (dVar 19) (dVar 23)))
                                sNext))
                            sNext)
                          (sSeq
                            (sIf
                              (dAndT
                                (dB
                                  (dOp oEq (dCall 2 (ft_law_draw A) (dCons (dVar 0) (dCons (dC (V.int 3)) dNil)))
                                    (dC (V.int 0))))
                                (dB
                                  (dOp (oI0 fun i j => V.bl (decide (j < i))) (dCB cLen (dCons (dVar 7) dNil))
                                    (dC (V.int 2)))))
                              (sSeq
                                (sAsg
                                  (dOp oAdd (dC (V.int 2))
                                    (dCall 2 (ft_law_draw A)
                                      (dCons (dVar 0)
                                        (dCons
                                          (dOp (oI0 fun i j => V.int (i - j)) (dCB cLen (dCons (dVar 7) dNil))
                                            (dC (V.int 2)))
                                          dNil))))
                                  (gVar 23))
                                (sSeq
                                  (sAsg
                                    (dTup
                                      (dCons (dOp oIx (dOp oIx (dVar 7) (dVar 23)) (dC (V.int 0)))
                                        (dCons (dOp oIx (dOp oIx (dVar 7) (dVar 23)) (dC (V.int 1)))
                                          (dCons
                                            (dOp oAdd (dC (V.int 3))
                                              (dCall 2 (ft_law_draw A) (dCons (dVar 0) (dCons (dC (V.int 7)) dNil))))
                                            dNil))))
                                    (gSubD (dVar 7) (dVar 23)))
                                  sNext))
                              sNext)
                            (sSeq
                              (sRet
                                (dTupM
                                  (dCons (dVar 4)
                                    (dCons (dVar 19)
                                      (dCons (dCall 2 (ft_law_mixed A) (dCons (dVar 0) (dCons (dVar 7) dNil))) dNil)))))
                              sNext))))))
                  (endsOf Mode.tree (st b R) Q E),
              rt := rTree (List.length R + 2) Q, bk := (endsOf Mode.tree (st b R) Q E).bk,
              ct := (endsOf Mode.tree (st b R) Q E).ct, ex := (endsOf Mode.tree (st b R) Q E).ex }
            [some (D.m 1), some (D.int pl), some (D.int full), some (D.int drs), some (D.int many),
              some (D.t (T.lst (List.map T.int order))), some (D.m (List.length R + 2)),
              some (D.m (List.length R + 2 + 1)), some (D.int long), some (D.int wide), some (D.int late),
              some (D.int ↑cn), o, some (D.t (T.lst (List.map T.int begins))), some (D.t (T.lst (List.map T.int ends))),
              none, none, none, none, none, none, none, none, none, none]
            it S1)
    fun e => (endsOf Mode.tree (st b R) Q E).ex e (st b11 R1) := by
  have hz1 : (100010 : Nat) ≤ sizeLine := by decide
  have hz4 : (4 : Nat) ≤ sizeLine := by omega
  have hz3 : (3 : Nat) ≤ sizeLine := by omega
  have hz2 : (2 : Nat) ≤ sizeLine := by omega
  have hz5 : (5 : Nat) ≤ sizeLine := by omega
  have hz0 : (1 : Nat) ≤ sizeLine := by omega
  have hdis : ∀ z, z ∈ order.take cn → z ∈ order.drop cn → False := by
    intro z h1 h2
    have h := hon
    rw [← List.take_append_drop cn order] at h
    exact (List.nodup_append.mp h).2.2 z h1 z h2 rfl
  have hbo : ∀ z ∈ begins, z ∈ order := fun z hz => List.mem_of_mem_take (hb2 z hz)
  have heo : ∀ z ∈ ends, z ∈ order := fun z hz => List.mem_of_mem_drop (he2 z hz)
  have hne : ∀ x ∈ begins, ∀ y ∈ ends, x ≠ y := fun x hx y hy e => hdis x (hb2 x hx) (e ▸ he2 y hy)
  refine draw_st (by omega) (by omega) (by omega) fun d5 b12 _ _ _ => ?_
  simp
  refine ⟨2 + d5, rfl, by omega, by omega, ?_⟩
  refine for_T2 dInts_T (I_line R b12 [some (D.m 1), some (D.int pl), some (D.int full), some (D.int drs), some (D.int many), some (D.t (T.lst (List.map T.int order))), some (D.m (List.length R + 2)), some (D.m (List.length R + 2 + 1)), some (D.int long), some (D.int wide), some (D.int late), some (D.int ↑cn), o, some (D.t (T.lst (List.map T.int begins))), some (D.t (T.lst (List.map T.int ends)))] order (G.map .tup))
    ⟨b12, R1, [], none, none, rfl, by omega, hs1, by simp, by omega, by simp, rfl⟩ ?_ ?_
  · intro i x ρ' S' De' hDe hx hI
    have hi : i < 7 := by have := (List.getElem?_eq_some_iff.mp hx).1; simp at this; omega
    exact step_line (n := 7) (by omega) (by omega) hb1 hbl he1 hel hbo heo hne (by omega) hi hI hDe
  · rintro ρ' S' ⟨b13, R2, F, o1, o2, rfl, hb13, hs2, hF, hF1, hF2, rfl⟩
    simp at hb13 hF hF1
    have hF1 := hF1 (by omega)
    have hb13' : b12 ≤ b13 + 660 := by omega
    have hFl : F.length ≤ 18 := by omega
    clear hF hb13
    simp
    refine draw_st (by omega) (by omega) (by omega) fun d6 b14 _ _ _ => ?_
    refine ⟨d6, rfl, by omega, by omega, ?_⟩
    refine for_T2 dInts_T (I_two R b14 [some (D.m 1), some (D.int pl), some (D.int full), some (D.int drs), some (D.int many), some (D.t (T.lst (List.map T.int order))), some (D.m (List.length R + 2)), some (D.m (List.length R + 2 + 1)), some (D.int long), some (D.int wide), some (D.int late), some (D.int ↑cn), o, some (D.t (T.lst (List.map T.int begins))), some (D.t (T.lst (List.map T.int ends)))] order (G.map .tup) 18)
      ⟨b14, R2, F, o1, o2, none, none, rfl, by omega, hs2, by omega, by omega, hF2, rfl⟩ ?_ ?_
    · intro i x ρ' S' De' hDe hx hI
      have hi : i < 3 := by have := (List.getElem?_eq_some_iff.mp hx).1; simp at this; omega
      exact step_two (by omega) (by omega) hon (by omega) (by omega) hi hI hDe
    · rintro ρ' S' ⟨b15, R3, F, o1, o2, o3, o4, rfl, hb15, hs3, hF, hF1, hF2, rfl⟩
      simp at hb15 hF
      have hb15' : b14 ≤ b15 + 330 := by omega
      have hFl : F.length ≤ 21 := by omega
      clear hF hb15
      simp
      refine ⟨b15, _, _, _, rfl, rfl, by simp; omega, rfl, by simp; omega, fun us b16 hus hb16 => ?_⟩
      obtain ⟨mx, rfl, hmx⟩ := perm_ints hus
      simp at hb16
      simp [hz3]
      refine ⟨b16, _, _, _, rfl, rfl, by omega, rfl, by simp, by simp, fun e b17 he hb17 => ?_⟩
      obtain ⟨rank, rfl, hrk⟩ : ∃ rank : List Int, e = .t (.lst (rank.map .int)) ∧ rank.Perm order := by
        simp at he
        rcases he with rfl | rfl
        · exact ⟨order, rfl, .refl _⟩
        · exact ⟨mx, rfl, hmx⟩
      obtain ⟨fn, rfl⟩ : ∃ n : Nat, full = n := ⟨full.toNat, by omega⟩
      have hs4 := hs3.app []
      refine slD_m hs4.atF ?_
      rw [cutG_to, ← List.map_take]
      refine itT_x (ts := (F.take fn).map prT) rfl fun it hit => ?_
      refine for_T2 hit (I_road R b17 R3.length [some (D.m 1), some (D.int pl), some (D.int fn), some (D.int drs), some (D.int many), some (D.t (T.lst (List.map T.int order))), some (D.m (List.length R + 2)), some (D.m (List.length R + 2 + 1)), some (D.int long), some (D.int wide), some (D.int late), some (D.int ↑cn), o, some (D.t (T.lst (List.map T.int begins))), some (D.t (T.lst (List.map T.int ends)))] order (fun z => rank.idxOf z) (F.map prT) (G.map .tup) (some (.t (.lst (rank.map .int)))))
        ⟨b17, _, [], o1, o2, o3, o4, none, rfl, by omega, hs4, by simp, rfl, by simp, rfl⟩ ?_ ?_
      · intro i x ρ' S' De' hDe hx hI
        obtain ⟨hlt, hx2⟩ := List.getElem?_eq_some_iff.mp hx
        have hxm : x ∈ (F.take fn).map prT := hx2 ▸ List.getElem_mem _
        obtain ⟨p, hpm, rfl⟩ := List.mem_map.mp hxm
        obtain ⟨h1, h2, h3⟩ := hF2 p (List.mem_of_mem_take hpm)
        exact step_road (n := 60) hs3.len (by omega) hlo hwi hrk (by omega) h1 h2 h3 (by simp at hlt; omega) hI hDe
      · rintro ρ' S' ⟨b18, R4, rows, o1, o2, o3, o4, o5, rfl, hb18, hs5, hj5, hrl, hrw, rfl⟩
        have hrl1 : 1 ≤ rows.length := by rw [hrl]; simp; omega
        have hrl2 : rows.length ≤ 21 := by rw [hrl]; simp; omega
        have hb18' : b17 ≤ b18 + 210 := by simp at hb18; omega
        clear hb18 hrl hit hus
        have hbud : b11 ≤ b18 + 1700 := by omega
        simp only [List.cons_append, List.nil_append]
        refine step_cross (b := b18) hs3.len hol (by omega) hon hb1 hbl he1 hel hbo heo hne hwi (by omega) (by omega) hs5 hj5 hrl1 hrl2 hrw ?_
        intro b19 R5 j rows1 o6 hb19 hs6 hj hj6 hr1 hr2 hrw1
        refine step_late (b := b19) (P := (· ∈ order)) hj (by omega) hs6 hj6 hr1 hr2 hrw1 ?_
        intro b20 R6 rows2 o7 hb20 hs7 hj7 hr3 hr4 hrw2
        refine step_some (b := b20) hj (by omega) hs7 hj7 hGl1 hGl hG1 ?_
        intro b21 R7 G2 o8 hb21 hs8 hj8 hg1 hg2 hgw
        simp
        refine ⟨b21, R7, _, G2.map T.tup, rfl, rfl, by simp; omega, seqA_m hs8.atG, by simp; omega, fun us b22 hus hb22 => ?_⟩
        obtain ⟨M, rfl, hM⟩ := perm_of T.tup untup (fun _ => rfl) hus
        have hMl := hM.length_eq
        rw [List.length_map] at hb22
        have hjl : j < R7.length := (List.getElem?_eq_some_iff.mp hj8).1
        have hfz : frz (R.length + 2) (st b22 R7 ++ [Cell.tup [D.int many, D.m (j + 2), .t (.lst (M.map .tup))]]) ((st b22 R7 ++ [Cell.tup [D.int many, D.m (j + 2), .t (.lst (M.map .tup))]]).length + 1) (.m (st b22 R7).length) = some (.tup [.int many, .lst (rows2.map .tup), .lst (M.map .tup)]) := by
          have hl : (st b22 R7 ++ [Cell.tup [D.int many, D.m (j + 2), .t (.lst (M.map .tup))]]).length + 1 = (R7.length + 2) + 2 := by simp
          rw [hl]
          refine frz_three (j := j + 2) ?_ ?_ ?_ ?_
          · rw [List.getElem?_append_right (Nat.le_refl _)]; simp
          · simp; have := hs8.len; omega
          · rw [List.getElem?_append_left (by simp; omega), st_get]; exact hj8
          · omega
        refine ⟨hz3, rTree_of (S0 := st b22 R) hfz ?_ (st_closed hc) (q rows2 M b22 ⟨fun z => rank.idxOf z, ?_⟩ ⟨(· ∈ order.take cn), (· ∈ order.drop cn), fun z hz => hom z (List.mem_of_mem_take hz), fun z hz => hom z (List.mem_of_mem_drop hz), hdis, fun r hr => hgw r (hM.mem_iff.mp hr)⟩ hr3 (by omega) (by omega) (by omega) (by omega))⟩
        · show (st b22 R7 ++ _).take (R.length + 2) = _
          rw [List.take_append_of_le_length (by simp; omega), st_take, hs8.pre]
        · intro r hr
          obtain ⟨x, y, l, w, rfl, h1, h2, h3⟩ := hrw2 r hr
          exact ⟨x, y, l, w, rfl, hom x h1, hom y h2, h3⟩
theorem math_law_house (A : Str → Addr) : ∀ (ds : List D) (S : Store) (Q : D → Store → Prop) (E : Ex → Prop), ClosedS S.length S → ds.length = 4 → ft_law_house A ds S Q E → rd_law_house A (endsOf .tree S Q E) (startD 25 ds) S := by
  rintro ds S Q E hc _ ⟨b, R, pl, full, drs, rfl, rfl, hb, hp1, hp2, hf1, hf2, hd1, hd2, q⟩
  unfold costH at hb q
  have hz1 : (100010 : Nat) ≤ sizeLine := by decide
  have hz4 : (4 : Nat) ≤ sizeLine := by omega
  have hz3 : (3 : Nat) ≤ sizeLine := by omega
  have hz2 : (2 : Nat) ≤ sizeLine := by omega
  have hz5 : (5 : Nat) ≤ sizeLine := by omega
  have hz0 : (1 : Nat) ≤ sizeLine := by omega
  simp only [rd_law_house]
  simp
  refine draw_st (by omega) (by omega) (by omega) fun d1 b1 _ _ _ => ?_
  refine draw_st (by omega) (by omega) (by omega) fun d2 b2 _ _ _ => ?_
  simp
  generalize hmany : (2 + if d1 < d2 then d2 else d1) = many
  have hm1 : 2 ≤ many ∧ many ≤ pl := by rw [← hmany]; split <;> omega
  refine ⟨by omega, by omega, ?_⟩
  refine ⟨b2, R, _, (List.range many.toNat).map fun i : Nat => .int i, rfl, rfl, by simp; omega, rfl, by simp; omega, fun us b3 hus hb3 => ?_⟩
  obtain ⟨order, rfl, hord⟩ := perm_ints (us := us) (L := (List.range many.toNat).map fun i : Nat => (i : Int)) (by rw [List.map_map]; exact hus)
  have hol : order.length = many.toNat := by have := hord.length_eq; simpa using this
  have hrn : ((List.range many.toNat).map fun i : Nat => (i : Int)).Nodup := List.Pairwise.map _ (fun a b h e => h (by omega)) List.nodup_range
  have hon : order.Nodup := hord.nodup_iff.mpr hrn
  have hom : ∀ z, z ∈ order → 0 ≤ z ∧ z < many := fun z hz => by
    have := hord.mem_iff.mp hz
    simp at this
    omega
  simp at hb3
  try simp [hz4, hz3, hz2, hz5, hz0]
  refine ⟨b3, _, _, _, rfl, rfl, by omega, rfl, by simp, by simp, fun e b4 he hb4 => ?_⟩
  obtain ⟨long, rfl, hlo⟩ : ∃ v : Int, e = .int v ∧ 1 ≤ v ∧ v ≤ 5 := by
    simp at he
    rcases he with rfl | rfl | rfl | rfl <;> exact ⟨_, rfl, by omega, by omega⟩
  try simp [hz4, hz3, hz2, hz5, hz0]
  refine ⟨b4, _, _, _, rfl, rfl, by omega, rfl, by simp, by simp, fun e b5 he hb5 => ?_⟩
  obtain ⟨wide, rfl, hwi⟩ : ∃ v : Int, e = .int v ∧ 1 ≤ v ∧ v ≤ 10 := by
    simp at he
    rcases he with rfl | rfl | rfl | rfl <;> exact ⟨_, rfl, by omega, by omega⟩
  try simp [hz4, hz3, hz2, hz5, hz0]
  refine ⟨b5, _, _, _, rfl, rfl, by omega, rfl, by simp, by simp, fun e b6 he hb6 => ?_⟩
  obtain ⟨late, rfl, hla⟩ : ∃ v : Int, e = .int v ∧ 1 ≤ v ∧ v ≤ 3 := by
    simp at he
    rcases he with rfl | rfl | rfl <;> exact ⟨_, rfl, by omega, by omega⟩
  try simp [hz4, hz3, hz2, hz5, hz0]
  refine draw_st (by omega) (by omega) (by omega) fun d3 b7 _ _ _ => ?_
  try simp [hz4, hz3, hz2, hz5, hz0]
  refine ⟨wide_div (b := 10) (by omega) (by omega) (by omega) (by omega), wide_div (b := 10) (by omega) (by omega) (by omega) (by omega), ?_⟩
  refine ⟨b7, _, _, _, rfl, rfl, by omega, rfl, by simp, by simp, fun e b8 he hb8 => ?_⟩
  obtain ⟨cut, rfl, hcu⟩ : ∃ v : Int, e = .int v ∧ 1 ≤ v ∧ v ≤ many - 1 := by
    simp at he
    rcases he with rfl | rfl | rfl <;> exact ⟨_, rfl, by omega, by omega⟩
  obtain ⟨cn, rfl⟩ : ∃ n : Nat, cut = n := ⟨cut.toNat, by omega⟩
  refine draw_st (by omega) (by omega) (by omega) fun d4 b9 _ _ _ => ?_
  have HS0 : HS R [] [] (R ++ [.lst [], .lst []]) := ⟨by simp, by simp, by rw [List.getElem?_append_right (Nat.le_refl _)]; simp, by rw [List.getElem?_append_right (by omega)]; simp, by
    have h1 := ((closed_st.mp hc).2).app (c := .lst ([].map D.t)) refC_lst
    have h2 := ClosedR.app (R := R ++ [.lst []]) h1 (c := .lst ([].map D.t)) refC_lst
    simpa using h2⟩
  have cl0 : ∀ b', ClosedS (st b' (R ++ [.lst [], .lst []])).length (st b' (R ++ [.lst [], .lst []])) := fun b' => HS0.closed
  refine ⟨d4, rfl, by omega, by omega, ?_⟩
  refine lc_st (fun _ u => u = .str "in" ∨ u = .str "out") (fun _ => 1) dInts_T (cl0 b9) (by simp; omega) (by rw [sum_c]; simp; omega) ?_ ?_
  · intro t ht bb c Ky hbb hk
    simp [wipeD, hz2]
    refine ⟨bb, _, _, _, rfl, rfl, hbb, rfl, by simp, by simp, fun e b' he hb' => ?_⟩
    simp at he
    rcases he with rfl | rfl
    · simpa using hk _ _ (.inl rfl) hb'
    · simpa using hk _ _ (.inr rfl) hb'
  · intro sorts b10 hso hb10
    have hsl : sorts.length = d4.toNat := by rw [← Paired.length hso]; simp
    have hsm : ∀ u ∈ sorts, u = .str "in" ∨ u = .str "out" := paired_all (p := fun u => u = .str "in" ∨ u = .str "out") hso fun _ _ r => r
    rw [sum_c] at hb10
    simp at hb10
    simp [show 2 + sorts.length ≤ sizeLine by omega]
    have hoi : (("out" : Str) == "in") = false := by decide +kernel
    refine itT_x (ts := T.v (V.str "in") :: T.v (V.str "out") :: sorts) rfl fun it hit => ?_
    refine for_T hit (I_some R b10 [some (.m 1), some (.int pl), some (.int full), some (.int drs), some (.int many), some (.t (.lst (order.map .int))), some (.m (R.length + 2)), some (.m (R.length + 2 + 1)), some (.int long), some (.int wide), some (.int late), some (.int cn)] (· ∈ order.take cn) (· ∈ order.drop cn))
      ⟨b10, _, [], none, rfl, by omega, HS0, rfl, by simp, by omega, by omega, rfl⟩ ?_ ?_
    · rintro i x ρ' S' hx ⟨b', R', G, o, rfl, hb', hs, hG, hG1, hG2, hG3, rfl⟩
      have hil : i < 2 + sorts.length := by have := (List.getElem?_eq_some_iff.mp hx).1; simp at this; omega
      have hx' : x = .str "in" ∨ x = .str "out" := by
        have := List.mem_of_getElem? hx
        simp only [List.mem_cons] at this
        rcases this with h | h | h
        · exact .inl h
        · exact .inr h
        · exact hsm x h
      have hxi : i = 0 → x = .str "in" := fun h => by subst h; simpa using hx.symm
      have hxo : i = 1 → x = .str "out" := fun h => by subst h; simpa using hx.symm
      have fin : ∀ (s : Str) (u k : Int) (b'' : Nat), x = .str s → ((s = "in" ∧ u ∈ order.take cn) ∨ (s = "out" ∧ u ∈ order.drop cn)) → 0 ≤ k → b' ≤ b'' + 2 → mAppend (.m (R.length + 2 + 1)) [.t (.tup [.str s, .int u, .int k])] (st b'' R') fun _ S1 =>
          I_some R b10 [some (.m 1), some (.int pl), some (.int full), some (.int drs), some (.int many), some (.t (.lst (order.map .int))), some (.m (R.length + 2)), some (.m (R.length + 2 + 1)), some (.int long), some (.int wide), some (.int late), some (.int cn)] (· ∈ order.take cn) (· ∈ order.drop cn) (i + 1)
            [some (.m 1), some (.int pl), some (.int full), some (.int drs), some (.int many), some (.t (.lst (order.map .int))), some (.m (R.length + 2)), some (.m (R.length + 2 + 1)), some (.int long), some (.int wide), some (.int late), some (.int cn), some (.t x), none, none, none, none, none, none, none, none, none, none, none, none] S1 := by
        intro s u k b'' hxs hsu hk hb''
        refine append_of hs.atG (by simp; omega) ?_
        refine ⟨b'', R'.set (R.length + 1) (.lst (((G ++ [[T.str s, T.int u, T.int k]]).map T.tup).map .t)), G ++ [[T.str s, T.int u, T.int k]], some (.t x), ?_, by omega, hs.setG _, by simp [hG], ?_, ?_, ?_, rfl⟩
        · show (st b'' R').set ((R.length + 1) + 2) _ = _
          rw [st_set]
          simp
        · intro g hg
          rcases List.mem_append.mp hg with hg | hg
          · exact hG1 g hg
          · have : g = [.str s, .int u, .int k] := by simpa using hg
            subst this
            exact ⟨s, u, k, rfl, hsu, hk⟩
        · intro _
          by_cases hi : i = 0
          · have e := hxi hi
            rw [hxs] at e
            have e : s = "in" := by simpa using e
            subst e
            exact ⟨_, by simp, u, k, rfl⟩
          · obtain ⟨g, hg, h⟩ := hG2 (by omega)
            exact ⟨g, by simp [hg], h⟩
        · intro _
          by_cases hi : i = 1
          · have e := hxo hi
            rw [hxs] at e
            have e : s = "out" := by simpa using e
            subst e
            exact ⟨_, by simp, u, k, rfl⟩
          · obtain ⟨g, hg, h⟩ := hG3 (by omega)
            exact ⟨g, by simp [hg], h⟩
      rcases hx' with rfl | rfl
      · simp [tyLst_m hs.atG, strOk_in, hz3]
        refine ⟨b', _, _, _, rfl, rfl, by omega, rfl, by simp; omega, by simp; omega, fun e b'' he hb'' => ?_⟩
        obtain ⟨u, rfl, hu⟩ : ∃ u : Int, e = .int u ∧ u ∈ order.take cn := by
          have he : e ∈ (order.take cn).map fun z => D.int z := by simpa [List.map_take, Function.comp_def] using he
          obtain ⟨u, hu, rfl⟩ := List.mem_map.mp he
          exact ⟨u, rfl, hu⟩
        refine draw_st (by omega) (by omega) (by omega) fun k b3' _ _ _ => ?_
        simp [hz3]
        exact fin "in" u k b3' rfl (.inl ⟨rfl, hu⟩) (by omega) (by omega)
      · simp [tyLst_m hs.atG, strOk_in, strOk_out, hoi, hz3]
        refine ⟨b', _, _, _, rfl, rfl, by omega, rfl, by simp; omega, by simp; omega, fun e b'' he hb'' => ?_⟩
        obtain ⟨u, rfl, hu⟩ : ∃ u : Int, e = .int u ∧ u ∈ order.drop cn := by
          have he : e ∈ (order.drop cn).map fun z => D.int z := by simpa [List.map_drop, Function.comp_def] using he
          obtain ⟨u, hu, rfl⟩ := List.mem_map.mp he
          exact ⟨u, rfl, hu⟩
        refine draw_st (by omega) (by omega) (by omega) fun k b3' _ _ _ => ?_
        simp [hz3]
        exact fin "out" u k b3' rfl (.inr ⟨rfl, hu⟩) (by omega) (by omega)
    · rintro ρ' S' ⟨b11, R1, G, o, rfl, hb11, hs1, hG, hG1, hG2, hG3, rfl⟩
      have hGl : G.length ≤ 102 := by simp at hG; omega
      have hG2 := hG2 (by simp)
      have hG3 := hG3 (by simp)
      simp only [List.length_cons] at hb11
      have hio : (("in" : Str) == "out") = false := by decide +kernel
      have hrow : ∀ x ∈ G.map T.tup, ∃ (s : Str) (a k : Int), x = .tup [.str s, .int a, .int k] ∧ ((s = "in" ∧ a ∈ order.take cn) ∨ (s = "out" ∧ a ∈ order.drop cn)) := by
        intro x hx
        obtain ⟨g, hg, rfl⟩ := List.mem_map.mp hx
        obtain ⟨s, a, k, rfl, h, _⟩ := hG1 g hg
        exact ⟨s, a, k, rfl, h⟩
      simp
      refine itG_x (seqA_m hs1.atG) fun it2 hit2 => ?_
      refine lc_fmG (fun x => decide ((drOf x).1 = "in")) (fun x => .int (drOf x).2.1) hit2 hs1.closed (by simp; omega) ?_ ?_
      · intro x hx S2 Ky Kn hy hn
        obtain ⟨s, a, k, rfl, h⟩ := hrow x hx
        have e' : drOf (.tup [.str s, .int a, .int k]) = (s, a, k) := drOf_e rfl
        rw [e'] at hy hn
        rcases h with ⟨rfl, _⟩ | ⟨rfl, _⟩
        · simp [wipeD, strOk_in] at hy ⊢
          exact hy
        · have hne : ¬ (Str.ofString "out" = Str.ofString "in") := by simpa using hoi
          simp [wipeD, strOk_in, strOk_out, hne] at hn ⊢
          exact hn
      · refine itG_x (seqA_m hs1.atG) fun it3 hit3 => ?_
        refine lc_fmG (fun x => decide ((drOf x).1 = "out")) (fun x => .int (drOf x).2.1) hit3 hs1.closed (by simp; omega) ?_ ?_
        · intro x hx S2 Ky Kn hy hn
          obtain ⟨s, a, k, rfl, h⟩ := hrow x hx
          have e' : drOf (.tup [.str s, .int a, .int k]) = (s, a, k) := drOf_e rfl
          rw [e'] at hy hn
          rcases h with ⟨rfl, _⟩ | ⟨rfl, _⟩
          · have hne : ¬ (Str.ofString "in" = Str.ofString "out") := by simpa using hio
            simp [wipeD, strOk_in, strOk_out, hne] at hn ⊢
            exact hn
          · simp [wipeD, strOk_out] at hy ⊢
            exact hy
        · obtain ⟨begins, hbeg, hb1, hb2⟩ : ∃ L : List Int, ((G.map T.tup).filter fun x => decide ((drOf x).1 = "in")).map (fun x => T.int (drOf x).2.1) = L.map T.int ∧ 1 ≤ L.length ∧ ∀ z ∈ L, z ∈ order.take cn := by
            refine ⟨((G.map T.tup).filter fun x => decide ((drOf x).1 = "in")).map fun x => (drOf x).2.1, by simp, ?_, ?_⟩
            · obtain ⟨g, hg, a, k, rfl⟩ := hG2
              rw [List.length_map]
              refine List.length_pos_of_mem (a := T.tup [.str "in", .int a, .int k]) (List.mem_filter.mpr ⟨List.mem_map.mpr ⟨_, hg, rfl⟩, ?_⟩)
              rw [drOf_e (t := .tup [.str "in", .int a, .int k]) rfl]; simp
            · intro z hz
              obtain ⟨x, hx, rfl⟩ := List.mem_map.mp hz
              obtain ⟨hx, hp⟩ := List.mem_filter.mp hx
              obtain ⟨s, a, k, rfl, h⟩ := hrow x hx
              rw [drOf_e (t := .tup [.str s, .int a, .int k]) rfl] at hp ⊢
              have hp : s = "in" := by simpa using hp
              rcases h with ⟨_, h⟩ | ⟨h, _⟩
              · exact h
              · rw [hp] at h; rw [h] at hio; simp at hio
          obtain ⟨ends, hend, he1, he2⟩ : ∃ L : List Int, ((G.map T.tup).filter fun x => decide ((drOf x).1 = "out")).map (fun x => T.int (drOf x).2.1) = L.map T.int ∧ 1 ≤ L.length ∧ ∀ z ∈ L, z ∈ order.drop cn := by
            refine ⟨((G.map T.tup).filter fun x => decide ((drOf x).1 = "out")).map fun x => (drOf x).2.1, by simp, ?_, ?_⟩
            · obtain ⟨g, hg, a, k, rfl⟩ := hG3
              rw [List.length_map]
              refine List.length_pos_of_mem (a := T.tup [.str "out", .int a, .int k]) (List.mem_filter.mpr ⟨List.mem_map.mpr ⟨_, hg, rfl⟩, ?_⟩)
              rw [drOf_e (t := .tup [.str "out", .int a, .int k]) rfl]; simp
            · intro z hz
              obtain ⟨x, hx, rfl⟩ := List.mem_map.mp hz
              obtain ⟨hx, hp⟩ := List.mem_filter.mp hx
              obtain ⟨s, a, k, rfl, h⟩ := hrow x hx
              rw [drOf_e (t := .tup [.str s, .int a, .int k]) rfl] at hp ⊢
              have hp : s = "out" := by simpa using hp
              rcases h with ⟨h, _⟩ | ⟨_, h⟩
              · rw [hp] at h; rw [← h] at hio; simp at hio
              · exact h
          have hbl : begins.length ≤ 102 := by
            have := congrArg List.length hbeg
            simp at this
            have h2 := List.length_filter_le (fun x => decide ((drOf x).1 = "in")) (G.map T.tup)
            simp at h2
            omega
          have hel : ends.length ≤ 102 := by
            have := congrArg List.length hend
            simp at this
            have h2 := List.length_filter_le (fun x => decide ((drOf x).1 = "out")) (G.map T.tup)
            simp at h2
            omega
          rw [hbeg, hend]
          clear hbeg hend
          exact house_tail hc (by omega) ⟨hm1.1, by omega⟩ hf1 hf2 hol hon hom hlo hwi hs1 (by rw [hG]; simp) hGl hG1 hb1 hbl hb2 he1 hel he2 (fun rs dr b' h1 h2 h3 h4 h5 h6 h7 => q many rs dr b' hm1.1 hm1.2 h1 h2 h3 h4 h5 h6 (by omega))
/-! houses: what all laws say of them -/
def GoodH (p : Int) (rs dr : List (List T)) : Prop := 1 ≤ p ∧ RoadsOk p rs ∧ DoorsOk p dr ∧ rs.length ≤ 300 ∧ dr.length ≤ 300
def houseIn (p : Int) (rs dr : List (List T)) : T := .tup [.int p, .lst (rs.map .tup), .lst (dr.map .tup)]
theorem RowR.sc {P : Int → Prop} {rk : Int → Nat} {r : List T} (h : RowR P rk r) : ∀ t ∈ r, isSeq t = false := by
  obtain ⟨a, b, l, w, rfl, _⟩ := h
  intro t ht
  simp at ht
  rcases ht with rfl | rfl | rfl | rfl <;> rfl
theorem DoorR.sc {P P2 : Int → Prop} {r : List T} (h : DoorR P P2 r) : ∀ t ∈ r, isSeq t = false := by
  obtain ⟨s, a, k, rfl, _⟩ := h
  intro t ht
  simp at ht
  rcases ht with rfl | rfl | rfl <;> rfl
theorem reach_rk {E : Int → Int → Prop} {rk : Int → Nat} (hE : ∀ u v, E u v → rk u < rk v) {b v : Int} (r : Reach E b v) : rk b ≤ rk v := by
  induction r with
  | refl => exact Nat.le_refl _
  | step _ e ih => have := hE _ _ e; omega
theorem RoadsOk.good {p : Int} {rs : List (List T)} (h : RoadsOk p rs) : GoodRoads p rs := by
  obtain ⟨rk, h⟩ := h
  have key : ∀ (i : Nat) (r : T), (rs.map T.tup)[i]? = some r → ∃ a b l w : Int, r = .tup [.int a, .int b, .int l, .int w] ∧ (0 ≤ a ∧ a < p) ∧ (0 ≤ b ∧ b < p) ∧ a ≠ b ∧ 0 ≤ l ∧ 1 ≤ w ∧ (l = 0 → rk a < rk b) := by
    intro i r hr
    obtain ⟨q, hq, rfl⟩ := List.mem_map.mp (List.mem_of_getElem? hr)
    obtain ⟨a, b, l, w, rfl, h1⟩ := h q hq
    exact ⟨a, b, l, w, rfl, h1⟩
  rintro i hi ⟨r, hr, hb⟩
  obtain ⟨a, b, l, w, rfl, h1, h2, h3, h4, h5, h6⟩ := key i r hr
  rcases hb with hb | ⟨r2, hr2, h7, h8⟩
  · simp [isRoad, isPlace, isNum, isPos, h1, h2, h3, h4, h5] at hb
    all_goals omega
  · rw [hr] at hr2
    have hr2 := Option.some.inj hr2
    subst hr2
    rw [rdOf_e (t := .tup [.int a, .int b, .int l, .int w]) rfl] at h7 h8
    have h9 := reach_rk (rk := rk) (fun u v z => by
      obtain ⟨r3, hm, z1, z2, z3⟩ := z
      obtain ⟨k, hk⟩ := List.getElem?_of_mem (List.mem_of_mem_take hm)
      obtain ⟨a', b', l', w', rfl, _, _, _, _, _, hz⟩ := key k r3 hk
      rw [rdOf_e (t := .tup [.int a', .int b', .int l', .int w']) rfl] at z1 z2 z3
      simp at z1 z2 z3
      subst z2; subst z3
      exact hz z1) h8
    have := h6 h7
    simp at h9
    omega
theorem DoorsOk.good {p : Int} {rs : List (List T)} (h : DoorsOk p rs) : GoodDoors p rs := by
  obtain ⟨P, P2, hP, hP2, hd, h⟩ := h
  have key : ∀ r ∈ rs.map T.tup, ∃ (s : Str) (a k : Int), r = .tup [.str s, .int a, .int k] ∧ ((s = "in" ∧ P a) ∨ (s = "out" ∧ P2 a)) ∧ 0 ≤ k := by
    intro r hr
    obtain ⟨q, hq, rfl⟩ := List.mem_map.mp hr
    obtain ⟨s, a, k, rfl, h1⟩ := h q hq
    exact ⟨s, a, k, rfl, h1⟩
  rintro i hi ⟨r, hr, hb⟩
  obtain ⟨s, a, k, rfl, h1, h2⟩ := key r (List.mem_of_getElem? hr)
  rcases hb with hb | ⟨r2, hr2, o, ho, h7, h8⟩
  · have ha : 0 ≤ a ∧ a < p := by rcases h1 with ⟨_, h⟩ | ⟨_, h⟩; exact hP a h; exact hP2 a h
    have hs : s = "in" ∨ s = "out" := by rcases h1 with ⟨h, _⟩ | ⟨h, _⟩; exact .inl h; exact .inr h
    simp [isDoor, isPlace, isNum, ha, h2] at hb
    rcases hs with rfl | rfl <;> simp at hb
  · rw [hr] at hr2
    have hr2 := Option.some.inj hr2
    subst hr2
    obtain ⟨s', a', k', rfl, h1', _⟩ := key o (List.mem_of_mem_take ho)
    rw [drOf_e (t := .tup [.str s, .int a, .int k]) rfl, drOf_e (t := .tup [.str s', .int a', .int k']) rfl] at h7 h8
    simp at h7 h8
    subst h7
    rcases h1 with ⟨rfl, h⟩ | ⟨rfl, h⟩ <;> rcases h1' with ⟨rfl, h'⟩ | ⟨rfl, h'⟩
    · exact h8 rfl
    · exact hd _ h h'
    · exact hd _ h' h
    · exact h8 rfl
theorem RowR.dat {P : Int → Prop} {rk : Int → Nat} {r : List T} {n : Nat} (h : RowR P rk r) : dat (n + 1) (.tup r) = true ∧ seqs (.tup r) = 5 := by
  obtain ⟨a, b, l, w, rfl, _⟩ := h
  refine ⟨?_, by simp [seqs, seqss_map]⟩
  rw [dat_tup]
  intro t ht
  simp at ht
  rcases ht with rfl | rfl | rfl | rfl <;> exact dat_int
theorem DoorR.dat {P P2 : Int → Prop} {r : List T} {n : Nat} (h : DoorR P P2 r) : DL.dat (n + 1) (.tup r) = true ∧ seqs (.tup r) = 4 := by
  obtain ⟨s, a, k, rfl, hs, _⟩ := h
  refine ⟨?_, by simp [seqs, seqss_map]⟩
  rw [dat_tup]
  intro t ht
  simp at ht
  rcases ht with rfl | rfl | rfl
  · rcases hs with ⟨rfl, _⟩ | ⟨rfl, _⟩ <;> cases n <;> simp [DL.dat, strOk_in, strOk_out]
  · exact dat_int
  · exact dat_int
theorem sum_le {α : Type} {f : α → Nat} {k : Nat} : ∀ {l : List α}, (∀ x ∈ l, f x ≤ k) → (l.map f).sum ≤ k * l.length
  | [], _ => by simp
  | a :: l, h => by
    have h1 := h a (by simp)
    have h2 := sum_le (f := f) (k := k) (l := l) fun x hx => h x (by simp [hx])
    simp [Nat.mul_add]; omega
/-- numbers and words -/
def plainT : T → Bool
  | .v (.int _) => true
  | .v (.str _) => true
  | _ => false
theorem eqT_plain {x y : T} (hx : plainT x = true) (hy : plainT y = true) (h : eqT x y = true) : x = y := by
  cases x with
  | v a =>
    cases y with
    | v b => cases a <;> simp [plainT] at hx <;> cases b <;> simp [plainT] at hy <;> simp_all [eqT, eqV]
    | _ => simp [plainT] at hy
  | _ => simp [plainT] at hx
theorem eqTs_plain : ∀ {xs ys : List T}, (∀ x ∈ xs, plainT x = true) → (∀ y ∈ ys, plainT y = true) → eqTs xs ys = true → xs = ys
  | [], [], _, _, _ => rfl
  | [], _ :: _, _, _, h => by simp [eqTs] at h
  | _ :: _, [], _, _, h => by simp [eqTs] at h
  | x :: xs, y :: ys, hx, hy, h => by
    simp [eqTs] at h
    rw [eqT_plain (hx x (by simp)) (hy y (by simp)) h.1, eqTs_plain (fun x' h' => hx x' (by simp [h'])) (fun y' h' => hy y' (by simp [h'])) h.2]
theorem eqTs_rows : ∀ {rs ss : List (List T)}, (∀ r ∈ rs, ∀ x ∈ r, plainT x = true) → (∀ r ∈ ss, ∀ x ∈ r, plainT x = true) → eqTs (rs.map .tup) (ss.map .tup) = true → rs = ss
  | [], [], _, _, _ => rfl
  | [], _ :: _, _, _, h => by simp [eqTs] at h
  | _ :: _, [], _, _, h => by simp [eqTs] at h
  | r :: rs, s :: ss, hx, hy, h => by
    simp [eqTs, eqT] at h
    rw [eqTs_plain (hx r (by simp)) (hy s (by simp)) h.1, eqTs_rows (fun x' h' => hx x' (by simp [h'])) (fun y' h' => hy y' (by simp [h'])) h.2]
theorem eqT_rows {rs ss : List (List T)} (hr : ∀ r ∈ rs, ∀ x ∈ r, plainT x = true) (hs : ∀ r ∈ ss, ∀ x ∈ r, plainT x = true) (hne : rs ≠ ss) : eqT (rowsT rs) (rowsT ss) = false := by
  cases h : eqT (rowsT rs) (rowsT ss) with
  | false => rfl
  | true => exact absurd (eqTs_rows hr hs (by simpa [rowsT, eqT] using h)) hne
theorem RowR.plain {P : Int → Prop} {rk : Int → Nat} {r : List T} (h : RowR P rk r) : ∀ t ∈ r, plainT t = true := by
  obtain ⟨a, b, l, w, rfl, _⟩ := h
  intro t ht
  simp at ht
  rcases ht with rfl | rfl | rfl | rfl <;> rfl
theorem DoorR.plain {P P2 : Int → Prop} {r : List T} (h : DoorR P P2 r) : ∀ t ∈ r, plainT t = true := by
  obtain ⟨s, a, k, rfl, _⟩ := h
  intro t ht
  simp at ht
  rcases ht with rfl | rfl | rfl <;> rfl
theorem rowsD_t {A : Str → Addr} {S : Store} {rows : List (List T)} (hr : ∀ r ∈ rows, ∀ t ∈ r, plainT t = true) : RowsD A S (.t (.lst (rows.map .tup))) rows (.lst (rows.map .tup)) (rows.map .tup) ((rows.map .tup).map .t) where
  hes := rfl
  tr := tree_t
  hxs := rfl
  hrows := by rw [List.map_map]; rfl
  len := by simp
  row := fun i e ts he hts => by
    rw [List.getElem?_map, List.getElem?_map, hts] at he
    cases he
    exact .inl ⟨_, rfl, rfl⟩
  ok := by
    rw [okT_lst]
    intro t ht
    obtain ⟨r, hr1, rfl⟩ := List.mem_map.mp ht
    rw [okT_tup]
    intro t ht
    have := hr r hr1 t ht
    cases t with
    | v x => cases x <;> simp [plainT] at this <;> simp [okT, tyT]
    | _ => simp [plainT] at this
/-- a house asked for is made -/
theorem ask_made {A : Str → Addr} {S : Store} {p : Int} {rs dr : List (List T)} {Q : D → Store → Prop} {E : Ex → Prop} (h : GoodH p rs dr)
    (q : Q .non (S ++ [.ins (A "House") [("own_places", .int p), ("own_roads", .t (.lst (rs.map .tup))), ("own_doors", .t (.lst (dr.map .tup)))]])) : HAsk A S (.int p) (.t (.lst (rs.map .tup))) (.t (.lst (dr.map .tup))) Q E := by
  obtain ⟨hp, hro, hdo, hl1, hl2⟩ := h
  obtain ⟨rk, hr⟩ := id hro
  obtain ⟨P, P2, _, _, _, hd⟩ := id hdo
  have r1 := rowsD_t (A := A) (S := S) (rows := rs) fun r hm => (hr r hm).plain
  have r2 := rowsD_t (A := A) (S := S) (rows := dr) fun r hm => (hd r hm).plain
  exact ⟨.int p, tree_t, ⟨_, rfl, fun C e => by cases e⟩, .inr ⟨p, _, rfl, hp, r1.tr, r1.ok, fun xs e => by cases e; simp; omega, .inr ⟨_, r1.good hro.good, r2.tr, r2.ok, fun xs e => by cases e; simp; omega,
    .inr ⟨rs, dr, _, _, _, _, r2.goodD hdo.good, r1, r2, q⟩⟩⟩⟩
/-- .. refused for its roads -/
theorem ask_roads {A : Str → Addr} {S : Store} {p k : Int} {x : T} {d : D} {Q : D → Store → Prop} {E : Ex → Prop} (hp : 1 ≤ p) (hx : okT (Cs A) x = true) (hl : ∀ xs, seqOf x = some xs → xs.length ≤ 1000) (ht : ∀ t, RoadsTold p x t → t = .int k)
    (q : E (A "BadRoads", [("index", .int k)])) : HAsk A S (.int p) (.t x) d Q E :=
  ⟨.int p, tree_t, ⟨_, rfl, fun C e => by cases e⟩, .inr ⟨p, x, rfl, hp, tree_t, hx, hl, .inl ⟨k, ht, q⟩⟩⟩
/-- .. for its doors -/
theorem ask_doors {A : Str → Addr} {S : Store} {p k : Int} {rs : List (List T)} {y : T} {Q : D → Store → Prop} {E : Ex → Prop} (hp : 1 ≤ p) (hro : RoadsOk p rs) (hr : rs.length ≤ 1000) (hy : okT (Cs A) y = true) (hl : ∀ xs, seqOf y = some xs → xs.length ≤ 1000) (ht : ∀ t, DoorsTold p y t → t = .int k)
    (q : E (A "BadDoors", [("index", .int k)])) : HAsk A S (.int p) (.t (.lst (rs.map .tup))) (.t y) Q E := by
  obtain ⟨rk, hk⟩ := id hro
  have r1 := rowsD_t (A := A) (S := S) (rows := rs) fun r hm => (hk r hm).plain
  exact ⟨.int p, tree_t, ⟨_, rfl, fun C e => by cases e⟩, .inr ⟨p, _, rfl, hp, r1.tr, r1.ok, fun xs e => by cases e; simp; omega, .inr ⟨y, r1.good hro.good, tree_t, hy, hl, .inl ⟨k, ht, q⟩⟩⟩⟩
/-- .. for its places -/
theorem ask_places {A : Str → Addr} {S : Store} {dp r d : D} {x : T} {Q : D → Store → Prop} {E : Ex → Prop} (hx : dp.tree S = some x) (ho : ok1 (Cs A) x) (hp : isPos x = false) (q : E (A "BadPlaces", [("places", dp)])) : HAsk A S dp r d Q E :=
  ⟨x, hx, ho, .inl ⟨hp, q⟩⟩
/-- the making, on a store of earlier cells -/
theorem mk_house {A : Str → Addr} {b : Nat} {R : Store} {dp r d : D} {X : XQ} {Q : D → Store → Prop} (hR : Jk R)
    (q : HAsk A (st b R) dp r d (fun d' S2 => d' = .non ∧ Q (.m (R.length + 2)) S2) fun e => X e (st b (R ++ [.ins (A "House") []]))) : mkD (A "House") 4 (ft_House_init A) [dp, r, d] X (st b R) Q :=
  ⟨rfl, st b R, dp, r, d, rfl, rfl, hR.closed, hR.allFz, q⟩
abbrev N_law_met : List Str := ["_law_ask", "e"]
abbrev ps_law_met : List Str := ["_law_ask"]
/-! _law_no_roads (_law_many) slots: 0=_law_many 1=_law_found -/
abbrev N_law_no_roads : List Str := ["_law_many", "_law_found"]
abbrev ps_law_no_roads : List Str := ["_law_many"]
def badRows1 (p : Int) : List T := [.v .non, .int 5, .v (.str "abcd"), .lst [], .dct [], .v (.bl true), .tup [.int 0, .int 1, .int 2], .tup [.int 0, .int 1, .int 2, .int 3, .int 4], .tup [.int 0, .int 0, .int 1, .int 1], .tup [.int 0, .int p, .int 1, .int 1], .tup [.int (-1), .int 1, .int 1, .int 1]]
def badRows2 (p : Int) : List T := [.tup [.int 0, .int 1, .int (-1), .int 1], .tup [.int 0, .int 1, .int 1, .int 0], .tup [.int 0, .int 1, .int 1, .int (-2)], .tup [.v (.bl true), .int 0, .int 1, .int 1], .tup [.int 0, .int 1, .v (.bl true), .int 1], .tup [.int 0, .int 1, .int 1, .v (.bl true)]]
def badRows3 (p : Int) : List T := [.dct [(.inl 0, .int 0), (.inl 1, .int 1), (.inl 2, .int 1), (.inl 3, .int 1)]]
def badRows4 (p : Int) : List T := [.tup [.int 0, .int 1, .v .non, .int 1], .tup [.int 0, .v (.str "1"), .int 1, .int 1], .tup [.lst [.int 0], .int 1, .int 1, .int 1], .tup [.int 0, .int 1, .int 1, .v (.str "1")], .tup [.int 0, .int 1, .int 1, .v .non]]
def badRows (p : Int) : List T := badRows1 p ++ badRows2 p ++ badRows3 p ++ badRows4 p
theorem badRows_bad1 {p : Int} {Cs : List Addr} : ((badRows1 p).all fun t => !isRoad t p && okT Cs t) = true := by
  simp [badRows1, List.all_cons, isRoad, seqOf, isPlace, isNum, isPos, okT, okTs, okKs, tyT]
theorem badRows_bad2 {p : Int} {Cs : List Addr} : ((badRows2 p).all fun t => !isRoad t p && okT Cs t) = true := by
  simp [badRows2, List.all_cons, isRoad, seqOf, isPlace, isNum, isPos, okT, okTs, okKs, tyT]
theorem badRows_bad3 {p : Int} {Cs : List Addr} : ((badRows3 p).all fun t => !isRoad t p && okT Cs t) = true := by
  simp [badRows3, List.all_cons, isRoad, seqOf, isPlace, isNum, isPos, okT, okTs, okKs, tyT]
theorem badRows_bad4 {p : Int} {Cs : List Addr} : ((badRows4 p).all fun t => !isRoad t p && okT Cs t) = true := by
  simp [badRows4, List.all_cons, isRoad, seqOf, isPlace, isNum, isPos, okT, okTs, okKs, tyT]
theorem badRows_bad {p : Int} {Cs : List Addr} : ∀ t ∈ badRows p, isRoad t p = false ∧ okT Cs t = true := by
  intro t ht
  have h : ((badRows p).all fun t => !isRoad t p && okT Cs t) = true := by simp only [badRows, List.all_append, badRows_bad1, badRows_bad2, badRows_bad3, badRows_bad4, Bool.and_true]
  have := List.all_eq_true.mp h t ht
  simpa using this
def ft_law_no_roads (A : Str → Addr) : FT := fun ds S Q _ => ∃ (p : Int), ds = [.int p] ∧ Q (.t (.lst (badRows p))) S
def rd_law_no_roads (A : Str → Addr) : TSD :=
 sSeq (sAsg (dLstM (dCons (dC .non) (dCons (dC (.int 5)) (dCons (dC (.str "abcd")) (dCons (dLst (dNil)) (dCons (dDct0) (dCons (dC (.bl true)) (dCons (dTup (dCons (dC (.int 0)) (dCons (dC (.int 1)) (dCons (dC (.int 2)) (dNil))))) (dCons (dTup (dCons (dC (.int 0)) (dCons (dC (.int 1)) (dCons (dC (.int 2)) (dCons (dC (.int 3)) (dCons (dC (.int 4)) (dNil))))))) (dCons (dTup (dCons (dC (.int 0)) (dCons (dC (.int 0)) (dCons (dC (.int 1)) (dCons (dC (.int 1)) (dNil)))))) (dCons (dTup (dCons (dC (.int 0)) (dCons (dVar 0) (dCons (dC (.int 1)) (dCons (dC (.int 1)) (dNil)))))) (dCons (dTup (dCons (dUn (uI fun i => .int (-i)) (dC (.int 1))) (dCons (dC (.int 1)) (dCons (dC (.int 1)) (dCons (dC (.int 1)) (dNil)))))) (dNil))))))))))))) (gVar 1))
 (sSeq (sDrop (dBM tyLst mExtend (dVar 1) (dCons (dLst (dCons (dTup (dCons (dC (.int 0)) (dCons (dC (.int 1)) (dCons (dUn (uI fun i => .int (-i)) (dC (.int 1))) (dCons (dC (.int 1)) (dNil)))))) (dCons (dTup (dCons (dC (.int 0)) (dCons (dC (.int 1)) (dCons (dC (.int 1)) (dCons (dC (.int 0)) (dNil)))))) (dCons (dTup (dCons (dC (.int 0)) (dCons (dC (.int 1)) (dCons (dC (.int 1)) (dCons (dUn (uI fun i => .int (-i)) (dC (.int 2))) (dNil)))))) (dCons (dTup (dCons (dC (.bl true)) (dCons (dC (.int 0)) (dCons (dC (.int 1)) (dCons (dC (.int 1)) (dNil)))))) (dCons (dTup (dCons (dC (.int 0)) (dCons (dC (.int 1)) (dCons (dC (.bl true)) (dCons (dC (.int 1)) (dNil)))))) (dCons (dTup (dCons (dC (.int 0)) (dCons (dC (.int 1)) (dCons (dC (.int 1)) (dCons (dC (.bl true)) (dNil)))))) (dNil)))))))) (dNil))))
 (sSeq (sDrop (dBM tyLst mAppend (dVar 1) (dCons (dCB cDict (dCons (dLst (dCons (dTup (dCons (dC (.int 0)) (dCons (dC (.int 0)) (dNil)))) (dCons (dTup (dCons (dC (.int 1)) (dCons (dC (.int 1)) (dNil)))) (dCons (dTup (dCons (dC (.int 2)) (dCons (dC (.int 1)) (dNil)))) (dCons (dTup (dCons (dC (.int 3)) (dCons (dC (.int 1)) (dNil)))) (dNil)))))) (dNil))) (dNil))))
 (sSeq (sRet (dOp oAdd (dVar 1) (dLst (dCons (dTup (dCons (dC (.int 0)) (dCons (dC (.int 1)) (dCons (dC .non) (dCons (dC (.int 1)) (dNil)))))) (dCons (dTup (dCons (dC (.int 0)) (dCons (dC (.str "1")) (dCons (dC (.int 1)) (dCons (dC (.int 1)) (dNil)))))) (dCons (dTup (dCons (dLst (dCons (dC (.int 0)) (dNil))) (dCons (dC (.int 1)) (dCons (dC (.int 1)) (dCons (dC (.int 1)) (dNil)))))) (dCons (dTup (dCons (dC (.int 0)) (dCons (dC (.int 1)) (dCons (dC (.int 1)) (dCons (dC (.str "1")) (dNil)))))) (dCons (dTup (dCons (dC (.int 0)) (dCons (dC (.int 1)) (dCons (dC (.int 1)) (dCons (dC .non) (dNil)))))) (dNil)))))))))
 (sNext))))
theorem math_law_no_roads (A : Str → Addr) : ∀ (ds : List D) (S : Store) (Q : D → Store → Prop) (E : Ex → Prop), ClosedS S.length S → ds.length = 1 → ft_law_no_roads A ds S Q E → rd_law_no_roads A (endsOf .tree S Q E) (startD 2 ds) S := by
  rintro ds S Q E hc _ ⟨p, rfl, q⟩
  have hz1 : (100010 : Nat) ≤ sizeLine := by decide
  have g1 : ∀ c : Cell, (S ++ [c])[S.length]? = some c := fun c => by simp
  have g2 : ∀ c c' : Cell, (S ++ [c]).set S.length c' = S ++ [c'] := fun c c' => by simp
  have e1 : startD 2 [D.t (.int p)] = [some (.t (.int p)), none] := rfl
  rw [e1]
  unfold rd_law_no_roads
  refine sq (asg (is_lstM (xs := badRows1 p) ?_ (by simp [badRows1]) (gv ?_)))
  · unfold badRows1; repeat (first | exact isL_nil | exact is_c | exact is_neg is_c | exact is_dct0 | exact is_v rfl | refine isL_cons ?_ ?_ | refine is_tup ?_ (by simp) | refine is_lst ?_ (by simp))
  refine sq (drp (bm (dvr rfl ⟨tyLst_m (g1 _), ?_⟩)))
  refine ctL (isL_cons (is_lst (xs := badRows2 p) ?_ (by simp [badRows2])) isL_nil) ?_
  · unfold badRows2; repeat (first | exact isL_nil | exact is_c | exact is_neg is_c | exact is_dct0 | exact is_v rfl | refine isL_cons ?_ ?_ | refine is_tup ?_ (by simp) | refine is_lst ?_ (by simp))
  refine extend_of (xs := (badRows1 p).map .t) (ys := (badRows2 p).map .t) (g1 _) rfl (by simp [badRows1, badRows2]; omega) ?_
  rw [g2, ← List.map_append]
  refine sq (drp (bm (dvr rfl ⟨tyLst_m (g1 _), ?_⟩)))
  refine ctL (xs := [.dct (mergeT [] [(.inl 0, .int 0), (.inl 1, .int 1), (.inl 2, .int 1), (.inl 3, .int 1)])]) (isL_cons (is_dict (kvs := [(.inl 0, .int 0), (.inl 1, .int 1), (.inl 2, .int 1), (.inl 3, .int 1)]) (isL_cons (is_lst ?_ (by simp)) isL_nil)) isL_nil) ?_
  · repeat (first | exact isL_nil | exact is_c | exact is_neg is_c | exact is_dct0 | exact is_v rfl | refine isL_cons ?_ ?_ | refine is_tup ?_ (by simp) | refine is_lst ?_ (by simp))
  refine append_of (g1 _) (by simp [badRows1, badRows2]; omega) ?_
  rw [g2]
  have e3 : ((badRows1 p ++ badRows2 p).map D.t ++ [D.t (.dct (mergeT [] [(.inl 0, .int 0), (.inl 1, .int 1), (.inl 2, .int 1), (.inl 3, .int 1)]))]) = (badRows1 p ++ badRows2 p ++ badRows3 p).map D.t := by rw [List.map_append (l₂ := badRows3 p)]; rfl
  rw [e3]
  refine sq (rts (dop (dvr rfl ?_)))
  refine ct (xs := []) (is_lst (xs := badRows4 p) ?_ (by simp [badRows4])) ?_
  · unfold badRows4; repeat (first | exact isL_nil | exact is_c | exact is_neg is_c | exact is_dct0 | exact is_v rfl | refine isL_cons ?_ ?_ | refine is_tup ?_ (by simp) | refine is_lst ?_ (by simp))
  refine oAdd_s (xs := badRows1 p ++ badRows2 p ++ badRows3 p) (ys := badRows4 p) (seqL_m (g1 _)) rfl (by simp [badRows1, badRows2, badRows3, badRows4]; omega) ?_
  exact rTree_t (S0 := S) (by simp) hc q
/-! _law_no_doors (_law_many) slots: 0=_law_many 1=_law_found -/
abbrev N_law_no_doors : List Str := ["_law_many", "_law_found"]
abbrev ps_law_no_doors : List Str := ["_law_many"]
def badDrs1 (p : Int) : List T := [.v .non, .int 5, .v (.str "abc"), .lst [], .dct [], .v (.bl true), .tup [.str "in", .int 0], .tup [.str "in", .int 0, .int 0, .int 0], .tup [.str "on", .int 0, .int 0], .tup [.str "In", .int 0, .int 0], .tup [.int 0, .int 0, .int 0], .tup [.v .non, .int 0, .int 0]]
def badDrs2 (p : Int) : List T := [.tup [.lst [.str "in"], .int 0, .int 0], .tup [.str "in", .int p, .int 0], .tup [.str "in", .int (-1), .int 0], .tup [.str "in", .v (.bl true), .int 0], .tup [.str "in", .v .non, .int 0], .tup [.str "out", .int 0, .int (-1)]]
def badDrs3 (p : Int) : List T := [.dct [(.inl 0, .str "in"), (.inl 1, .int 0), (.inl 2, .int 0)]]
def badDrs4 (p : Int) : List T := [.tup [.str "in", .int 0, .v (.bl true)], .tup [.str "in", .int 0, .v .non], .tup [.str "in", .int 0, .str "1"], .tup [.str "in", .lst [.int 0], .int 0], .tup [.str "", .int 0, .int 0]]
def badDrs (p : Int) : List T := badDrs1 p ++ badDrs2 p ++ badDrs3 p ++ badDrs4 p
theorem on_no : ¬ (("on" : Str) = "in") ∧ ¬ (("on" : Str) = "out") ∧ ¬ (("In" : Str) = "in") ∧ ¬ (("In" : Str) = "out") ∧ ¬ (("" : Str) = "in") ∧ ¬ (("" : Str) = "out") := by decide +kernel
theorem badDrs_bad1 {p : Int} {Cs : List Addr} : ((badDrs1 p).all fun t => !isDoor t p && okT Cs t) = true := by
  obtain ⟨h1, h2, h3, h4, h5, h6⟩ := on_no
  simp [badDrs1, List.all_cons, isDoor, seqOf, isPlace, isNum, h1, h2, h3, h4, h5, h6, okT, okTs, okKs, tyT]
theorem badDrs_bad2 {p : Int} {Cs : List Addr} : ((badDrs2 p).all fun t => !isDoor t p && okT Cs t) = true := by
  obtain ⟨h1, h2, h3, h4, h5, h6⟩ := on_no
  simp [badDrs2, List.all_cons, isDoor, seqOf, isPlace, isNum, h1, h2, h3, h4, h5, h6, okT, okTs, okKs, tyT]
theorem badDrs_bad3 {p : Int} {Cs : List Addr} : ((badDrs3 p).all fun t => !isDoor t p && okT Cs t) = true := by
  obtain ⟨h1, h2, h3, h4, h5, h6⟩ := on_no
  simp [badDrs3, List.all_cons, isDoor, seqOf, isPlace, isNum, h1, h2, h3, h4, h5, h6, okT, okTs, okKs, tyT]
theorem badDrs_bad4 {p : Int} {Cs : List Addr} : ((badDrs4 p).all fun t => !isDoor t p && okT Cs t) = true := by
  obtain ⟨h1, h2, h3, h4, h5, h6⟩ := on_no
  simp [badDrs4, List.all_cons, isDoor, seqOf, isPlace, isNum, h1, h2, h3, h4, h5, h6, okT, okTs, okKs, tyT]
theorem badDrs_bad {p : Int} {Cs : List Addr} : ∀ t ∈ badDrs p, isDoor t p = false ∧ okT Cs t = true := by
  intro t ht
  have h : ((badDrs p).all fun t => !isDoor t p && okT Cs t) = true := by simp only [badDrs, List.all_append, badDrs_bad1, badDrs_bad2, badDrs_bad3, badDrs_bad4, Bool.and_true]
  have := List.all_eq_true.mp h t ht
  simpa using this
def ft_law_no_doors (A : Str → Addr) : FT := fun ds S Q _ => ∃ (p : Int), ds = [.int p] ∧ Q (.t (.lst (badDrs p))) S
def rd_law_no_doors (A : Str → Addr) : TSD :=
 sSeq (sAsg (dLstM (dCons (dC .non) (dCons (dC (.int 5)) (dCons (dC (.str "abc")) (dCons (dLst (dNil)) (dCons (dDct0) (dCons (dC (.bl true)) (dCons (dTup (dCons (dC (.str "in")) (dCons (dC (.int 0)) (dNil)))) (dCons (dTup (dCons (dC (.str "in")) (dCons (dC (.int 0)) (dCons (dC (.int 0)) (dCons (dC (.int 0)) (dNil)))))) (dCons (dTup (dCons (dC (.str "on")) (dCons (dC (.int 0)) (dCons (dC (.int 0)) (dNil))))) (dCons (dTup (dCons (dC (.str "In")) (dCons (dC (.int 0)) (dCons (dC (.int 0)) (dNil))))) (dCons (dTup (dCons (dC (.int 0)) (dCons (dC (.int 0)) (dCons (dC (.int 0)) (dNil))))) (dCons (dTup (dCons (dC .non) (dCons (dC (.int 0)) (dCons (dC (.int 0)) (dNil))))) (dNil)))))))))))))) (gVar 1))
 (sSeq (sDrop (dBM tyLst mExtend (dVar 1) (dCons (dLst (dCons (dTup (dCons (dLst (dCons (dC (.str "in")) (dNil))) (dCons (dC (.int 0)) (dCons (dC (.int 0)) (dNil))))) (dCons (dTup (dCons (dC (.str "in")) (dCons (dVar 0) (dCons (dC (.int 0)) (dNil))))) (dCons (dTup (dCons (dC (.str "in")) (dCons (dUn (uI fun i => .int (-i)) (dC (.int 1))) (dCons (dC (.int 0)) (dNil))))) (dCons (dTup (dCons (dC (.str "in")) (dCons (dC (.bl true)) (dCons (dC (.int 0)) (dNil))))) (dCons (dTup (dCons (dC (.str "in")) (dCons (dC .non) (dCons (dC (.int 0)) (dNil))))) (dCons (dTup (dCons (dC (.str "out")) (dCons (dC (.int 0)) (dCons (dUn (uI fun i => .int (-i)) (dC (.int 1))) (dNil))))) (dNil)))))))) (dNil))))
 (sSeq (sDrop (dBM tyLst mAppend (dVar 1) (dCons (dCB cDict (dCons (dLst (dCons (dTup (dCons (dC (.int 0)) (dCons (dC (.str "in")) (dNil)))) (dCons (dTup (dCons (dC (.int 1)) (dCons (dC (.int 0)) (dNil)))) (dCons (dTup (dCons (dC (.int 2)) (dCons (dC (.int 0)) (dNil)))) (dNil))))) (dNil))) (dNil))))
 (sSeq (sRet (dOp oAdd (dVar 1) (dLst (dCons (dTup (dCons (dC (.str "in")) (dCons (dC (.int 0)) (dCons (dC (.bl true)) (dNil))))) (dCons (dTup (dCons (dC (.str "in")) (dCons (dC (.int 0)) (dCons (dC .non) (dNil))))) (dCons (dTup (dCons (dC (.str "in")) (dCons (dC (.int 0)) (dCons (dC (.str "1")) (dNil))))) (dCons (dTup (dCons (dC (.str "in")) (dCons (dLst (dCons (dC (.int 0)) (dNil))) (dCons (dC (.int 0)) (dNil))))) (dCons (dTup (dCons (dC (.str "")) (dCons (dC (.int 0)) (dCons (dC (.int 0)) (dNil))))) (dNil)))))))))
 (sNext))))
theorem math_law_no_doors (A : Str → Addr) : ∀ (ds : List D) (S : Store) (Q : D → Store → Prop) (E : Ex → Prop), ClosedS S.length S → ds.length = 1 → ft_law_no_doors A ds S Q E → rd_law_no_doors A (endsOf .tree S Q E) (startD 2 ds) S := by
  rintro ds S Q E hc _ ⟨p, rfl, q⟩
  have hz1 : (100010 : Nat) ≤ sizeLine := by decide
  have g1 : ∀ c : Cell, (S ++ [c])[S.length]? = some c := fun c => by simp
  have g2 : ∀ c c' : Cell, (S ++ [c]).set S.length c' = S ++ [c'] := fun c c' => by simp
  have e1 : startD 2 [D.t (.int p)] = [some (.t (.int p)), none] := rfl
  rw [e1]
  unfold rd_law_no_doors
  refine sq (asg (is_lstM (xs := badDrs1 p) ?_ (by simp [badDrs1]) (gv ?_)))
  · unfold badDrs1; repeat (first | exact isL_nil | exact is_c | exact is_neg is_c | exact is_dct0 | exact is_v rfl | refine isL_cons ?_ ?_ | refine is_tup ?_ (by simp) | refine is_lst ?_ (by simp))
  refine sq (drp (bm (dvr rfl ⟨tyLst_m (g1 _), ?_⟩)))
  refine ctL (isL_cons (is_lst (xs := badDrs2 p) ?_ (by simp [badDrs2])) isL_nil) ?_
  · unfold badDrs2; repeat (first | exact isL_nil | exact is_c | exact is_neg is_c | exact is_dct0 | exact is_v rfl | refine isL_cons ?_ ?_ | refine is_tup ?_ (by simp) | refine is_lst ?_ (by simp))
  refine extend_of (xs := (badDrs1 p).map .t) (ys := (badDrs2 p).map .t) (g1 _) rfl (by simp [badDrs1, badDrs2]; omega) ?_
  rw [g2, ← List.map_append]
  refine sq (drp (bm (dvr rfl ⟨tyLst_m (g1 _), ?_⟩)))
  refine ctL (xs := [.dct (mergeT [] [(.inl 0, .str "in"), (.inl 1, .int 0), (.inl 2, .int 0)])]) (isL_cons (is_dict (kvs := [(.inl 0, .str "in"), (.inl 1, .int 0), (.inl 2, .int 0)]) (isL_cons (is_lst ?_ (by simp)) isL_nil)) isL_nil) ?_
  · repeat (first | exact isL_nil | exact is_c | exact is_neg is_c | exact is_dct0 | exact is_v rfl | refine isL_cons ?_ ?_ | refine is_tup ?_ (by simp) | refine is_lst ?_ (by simp))
  refine append_of (g1 _) (by simp [badDrs1, badDrs2]; omega) ?_
  rw [g2]
  have e3 : ((badDrs1 p ++ badDrs2 p).map D.t ++ [D.t (.dct (mergeT [] [(.inl 0, .str "in"), (.inl 1, .int 0), (.inl 2, .int 0)]))]) = (badDrs1 p ++ badDrs2 p ++ badDrs3 p).map D.t := by rw [List.map_append (l₂ := badDrs3 p)]; rfl
  rw [e3]
  refine sq (rts (dop (dvr rfl ?_)))
  refine ct (xs := []) (is_lst (xs := badDrs4 p) ?_ (by simp [badDrs4])) ?_
  · unfold badDrs4; repeat (first | exact isL_nil | exact is_c | exact is_neg is_c | exact is_dct0 | exact is_v rfl | refine isL_cons ?_ ?_ | refine is_tup ?_ (by simp) | refine is_lst ?_ (by simp))
  refine oAdd_s (xs := badDrs1 p ++ badDrs2 p ++ badDrs3 p) (ys := badDrs4 p) (seqL_m (g1 _)) rfl (by simp [badDrs1, badDrs2, badDrs3, badDrs4]; omega) ?_
  exact rTree_t (S0 := S) (by simp) hc q
/-! _law_rings_right (_law_stream_here) slots: 0=_law_stream_here 1=_law_many 2=_law_order 3=_law_line 4=_law_row 5=_law_size 6=_law_back 7=_law_at 8=_law_ring 9=_law_parts 10=_law_last 11=_law_short 12=_law_longer 13=_law_one 14=_law_other 15=_law_part 16=_law_length 17=_law_room -/
abbrev N_law_rings_right : List Str := ["_law_stream_here", "_law_many", "_law_order", "_law_line", "_law_row", "_law_size", "_law_back", "_law_at", "_law_ring", "_law_parts", "_law_last", "_law_short", "_law_longer", "_law_one", "_law_other", "_law_part", "_law_length", "_law_room"]
abbrev ps_law_rings_right : List Str := ["_law_stream_here"]
/-! rings: the plain law -/
abbrev ed (a b w : Int) : T := .tup [.int a, .int b, .int 0, .int w]
@[simp] theorem rdOf_ed {a b w : Int} : rdOf (ed a b w) = (a, b, 0, w) := rdOf_e rfl
theorem eqT_ed {a b w a' b' w' : Int} : eqT (ed a b w) (ed a' b' w') = true ↔ a = a' ∧ b = b' ∧ w = w' := by simp [ed, and_assoc]
theorem Reach.trans {E : Int → Int → Prop} {u v w : Int} (h : Reach E u v) (h2 : Reach E v w) : Reach E u w := by
  induction h2 with
  | refl => exact h
  | step _ e ih => exact .step ih e
theorem Reach.one {E : Int → Int → Prop} {u v : Int} (h : E u v) : Reach E u v := .step .refl h
/-- roads one behind another -/
inductive EPath : List T → Int → Int → Prop
  | nil (u : Int) : EPath [] u u
  | cons {u v w wd : Int} {xs : List T} : EPath xs v w → EPath (ed u v wd :: xs) u w
theorem EPath.reach {xs L : List T} {u w : Int} (h : EPath xs u w) (hL : ∀ x ∈ xs, x ∈ L) : Reach (Zero L) u w := by
  induction h with
  | nil => exact .refl
  | @cons u v w wd xs h ih => exact (Reach.one ⟨ed u v wd, hL _ (by simp), by simp, by simp, by simp⟩).trans (ih fun x hx => hL x (by simp [hx]))
theorem EPath.edge {xs : List T} {u w : Int} (h : EPath xs u w) {e : T} (he : e ∈ xs) : ∃ a b wd, e = ed a b wd := by
  induction h with
  | nil => cases he
  | cons h ih =>
    rcases List.mem_cons.mp he with rfl | he
    · exact ⟨_, _, _, rfl⟩
    · exact ih he
theorem EPath.behind {xs : List T} {u w a b wd : Int} (h : EPath xs u w) (he : ed a b wd ∈ xs) : ∃ zs, EPath zs b w ∧ ∀ x ∈ zs, x ∈ xs ∧ x ≠ ed a b wd := by
  induction h with
  | nil => cases he
  | @cons u v w wd' xs h ih =>
    by_cases hx : ed a b wd ∈ xs
    · obtain ⟨zs, h1, h2⟩ := ih hx
      exact ⟨zs, h1, fun x hx => ⟨by simp [(h2 x hx).1], (h2 x hx).2⟩⟩
    · rcases List.mem_cons.mp he with e | he
      · have e : a = u ∧ b = v ∧ wd = wd' := by simpa [ed] using e
        obtain ⟨rfl, rfl, rfl⟩ := e
        exact ⟨xs, h, fun x hm => ⟨by simp [hm], fun e => hx (e ▸ hm)⟩⟩
      · exact absurd he hx
theorem EPath.ahead {xs : List T} {u w a b wd : Int} (h : EPath xs u w) (he : ed a b wd ∈ xs) : ∃ ys, EPath ys u a ∧ ∀ x ∈ ys, x ∈ xs ∧ x ≠ ed a b wd := by
  induction h with
  | nil => cases he
  | @cons u v w wd' xs h ih =>
    by_cases hx : ed u v wd' = ed a b wd
    · have e : u = a ∧ v = b ∧ wd' = wd := by simpa [ed] using hx
      obtain ⟨rfl, rfl, rfl⟩ := e
      exact ⟨[], .nil _, fun x hm => by cases hm⟩
    · rcases List.mem_cons.mp he with e | he
      · exact absurd e.symm hx
      · obtain ⟨ys, h1, h2⟩ := ih he
        refine ⟨ed u v wd' :: ys, .cons h1, fun x hm => ?_⟩
        rcases List.mem_cons.mp hm with rfl | hm
        · exact ⟨by simp, hx⟩
        · exact ⟨by simp [(h2 x hm).1], (h2 x hm).2⟩
theorem take_mem {α : Type} {l : List α} {i j : Nat} {x : α} (h : l[j]? = some x) (hj : j < i) : x ∈ l.take i := by
  refine List.mem_of_getElem? (i := j) ?_
  rw [List.getElem?_take_of_lt hj]; exact h
/-- where each stands -/
def IxOk (l : List T) (ix : T → Nat) : Prop := ∀ x ∈ l, l[ix x]? = some x ∧ ∀ j, l[j]? = some x → ix x ≤ j
theorem IxOk.lt {l : List T} {ix : T → Nat} (h : IxOk l ix) {x : T} (hx : x ∈ l) : ix x < l.length := (List.getElem?_eq_some_iff.mp (h x hx).1).1
theorem IxOk.inj {l : List T} {ix : T → Nat} (h : IxOk l ix) {x y : T} (hx : x ∈ l) (hy : y ∈ l) (e : ix x = ix y) : x = y := by
  have h1 := (h x hx).1
  rw [e, (h y hy).1] at h1
  exact (Option.some.inj h1).symm
/-- a ring's last road is a bad one -/
theorem ring_at {l m : List T} {ix : T → Nat} (hI : IxOk l ix) {xs : List T} {u w wd : Int} {k : Nat} (hp : EPath xs u w) (hB : ed w u wd ∉ xs) (hl : ∀ x ∈ ed w u wd :: xs, x ∈ l) (hk : ∃ x ∈ ed w u wd :: xs, ix x = k) (hle : ∀ x ∈ ed w u wd :: xs, ix x ≤ k) : Ring (l ++ m) k := by
  obtain ⟨e, he, hek⟩ := hk
  have hel := hl e he
  have hkl := hI.lt hel
  have hin : ∀ x ∈ ed w u wd :: xs, x ≠ e → x ∈ (l ++ m).take k := fun x hx hne => by
    have h1 := hle x hx
    have h2 : ix x ≠ k := fun z => hne (hI.inj (hl x hx) hel (z.trans hek.symm))
    refine take_mem (j := ix x) ?_ (by omega)
    rw [List.getElem?_append_left (hI.lt (hl x hx))]
    exact (hI x (hl x hx)).1
  have hget : (l ++ m)[k]? = some e := by
    rw [← hek, List.getElem?_append_left hkl]
    exact (hI e hel).1
  rcases List.mem_cons.mp he with rfl | he2
  · refine ⟨_, hget, by simp, ?_⟩
    simp only [rdOf_ed]
    exact hp.reach fun x hx => hin x (by simp [hx]) fun z => hB (z ▸ hx)
  · obtain ⟨a, b, wd', rfl⟩ := hp.edge he2
    refine ⟨_, hget, by simp, ?_⟩
    simp only [rdOf_ed]
    obtain ⟨zs, h1, h2⟩ := hp.behind he2
    obtain ⟨ys, h3, h4⟩ := hp.ahead he2
    have r1 := h1.reach fun x hx => hin x (by simp [(h2 x hx).1]) (h2 x hx).2
    have r2 := h3.reach fun x hx => hin x (by simp [(h4 x hx).1]) (h4 x hx).2
    have hb := hin (ed w u wd) (by simp) fun z => hB (z ▸ he2)
    exact (r1.trans (Reach.one ⟨_, hb, by simp, by simp, by simp⟩)).trans r2
/-- what roads there are: back, two short ones, a line -/
structure Rings (n s : Nat) (g : Nat → Int) (l : List T) : Prop where
  n3 : 3 ≤ n
  s2 : 2 ≤ s
  sn : s ≤ n
  inj : ∀ i j, i < n → j < n → g i = g j → i = j
  mem : ∀ x, x ∈ l ↔ x = ed (g (s - 1)) (g 0) 5 ∨ x = ed (g 0) (g (n - 1)) 2 ∨ x = ed (g 0) (g 2) 1 ∨ ∃ i, i + 1 < n ∧ x = ed (g i) (g (i + 1)) 1
/-- all but the road back -/
def NB (n : Nat) (g : Nat → Int) (L : List T) (u v : Int) : Prop := (ed (g 0) (g (n - 1)) 2 ∈ L ∧ u = g 0 ∧ v = g (n - 1)) ∨ (ed (g 0) (g 2) 1 ∈ L ∧ u = g 0 ∧ v = g 2) ∨ ∃ i, i + 1 < n ∧ ed (g i) (g (i + 1)) 1 ∈ L ∧ u = g i ∧ v = g (i + 1)
section
variable {n s : Nat} {g : Nat → Int} {l : List T}
theorem NB.up {L : List T} {u v : Int} (h3 : 3 ≤ n) (h : NB n g L u v) : ∃ i j, i < j ∧ j < n ∧ u = g i ∧ v = g j := by
  rcases h with ⟨_, h1, h2⟩ | ⟨_, h1, h2⟩ | ⟨i, hi, _, h1, h2⟩
  · exact ⟨0, n - 1, by omega, by omega, h1, h2⟩
  · exact ⟨0, 2, by omega, by omega, h1, h2⟩
  · exact ⟨i, i + 1, by omega, hi, h1, h2⟩
theorem Rings.up (R : Rings n s g l) {L : List T} {u v : Int} (h : Reach (NB n g L) u v) : ∀ i, i < n → u = g i → ∃ j, i ≤ j ∧ j < n ∧ v = g j := by
  induction h with
  | refl => exact fun i hi e => ⟨i, Nat.le_refl _, hi, e⟩
  | step _ e ih =>
    intro i hi hu
    obtain ⟨j, h1, h2, h3⟩ := ih i hi hu
    obtain ⟨a, b, h4, h5, h6, h7⟩ := e.up R.n3
    have := R.inj j a h2 (by omega) (h3.symm.trans h6)
    exact ⟨b, by omega, h5, h7⟩
theorem Rings.zero (R : Rings n s g l) {L : List T} (hL : ∀ x ∈ L, x ∈ l) {u v : Int} (h : Zero L u v) : NB n g L u v ∨ (ed (g (s - 1)) (g 0) 5 ∈ L ∧ u = g (s - 1) ∧ v = g 0) := by
  obtain ⟨r, hr, _, h1, h2⟩ := h
  rcases (R.mem r).mp (hL r hr) with rfl | rfl | rfl | ⟨i, hi, rfl⟩
  · simp at h1 h2; exact .inr ⟨hr, h1.symm, h2.symm⟩
  · simp at h1 h2; exact .inl (.inl ⟨hr, h1.symm, h2.symm⟩)
  · simp at h1 h2; exact .inl (.inr (.inl ⟨hr, h1.symm, h2.symm⟩))
  · simp at h1 h2; exact .inl (.inr (.inr ⟨i, hi, hr, h1.symm, h2.symm⟩))
theorem Rings.split (R : Rings n s g l) {L : List T} (hL : ∀ x ∈ L, x ∈ l) {u v : Int} (h : Reach (Zero L) u v) : Reach (NB n g L) u v ∨ (ed (g (s - 1)) (g 0) 5 ∈ L ∧ Reach (NB n g L) u (g (s - 1)) ∧ Reach (NB n g L) (g 0) v) := by
  induction h with
  | refl => exact .inl .refl
  | step _ e ih =>
    rcases R.zero hL e with e | ⟨hb, rfl, rfl⟩
    · rcases ih with ih | ⟨h1, h2, h3⟩
      · exact .inl (.step ih e)
      · exact .inr ⟨h1, h2, .step h3 e⟩
    · rcases ih with ih | ⟨h1, h2, h3⟩
      · exact .inr ⟨hb, ih, .refl⟩
      · exact .inr ⟨h1, h2, .refl⟩
/-- the ways from the first place -/
theorem Rings.ways (R : Rings n s g l) {L : List T} {v : Int} (h : Reach (NB n g L) (g 0) v) : ∃ t, t < n ∧ v = g t ∧ ((∀ i, i < t → ed (g i) (g (i + 1)) 1 ∈ L) ∨ (t = n - 1 ∧ ed (g 0) (g (n - 1)) 2 ∈ L) ∨ (2 ≤ t ∧ ed (g 0) (g 2) 1 ∈ L ∧ ∀ i, 2 ≤ i → i < t → ed (g i) (g (i + 1)) 1 ∈ L)) := by
  have h3 := R.n3
  induction h with
  | refl => exact ⟨0, by omega, rfl, .inl fun i hi => absurd hi (Nat.not_lt_zero _)⟩
  | step _ e ih =>
    obtain ⟨t, ht, hv, ih⟩ := ih
    rcases e with ⟨hm, h1, h2⟩ | ⟨hm, h1, h2⟩ | ⟨i, hi, hm, h1, h2⟩
    · exact ⟨n - 1, by omega, h2, .inr (.inl ⟨rfl, hm⟩)⟩
    · exact ⟨2, by omega, h2, .inr (.inr ⟨by omega, hm, fun i h4 h5 => by omega⟩)⟩
    · have hit := R.inj i t (by omega) ht (h1.symm.trans hv)
      subst hit
      refine ⟨i + 1, hi, h2, ?_⟩
      rcases ih with ih | ⟨h4, _⟩ | ⟨h4, h5, h6⟩
      · refine .inl fun j hj => ?_
        by_cases hji : j = i
        · subst hji; exact hm
        · exact ih j (by omega)
      · omega
      · refine .inr (.inr ⟨by omega, h5, fun j h7 h8 => ?_⟩)
        by_cases hji : j = i
        · subst hji; exact hm
        · exact h6 j h7 (by omega)
/-- a ring among the first ones holds one of three -/
theorem Rings.three (R : Rings n s g l) {m : List T} {i : Nat} (hi : i < l.length) (h : Ring (l ++ m) i) : ed (g (s - 1)) (g 0) 5 ∈ l.take (i + 1) ∧
    ((∀ j, j < s - 1 → ed (g j) (g (j + 1)) 1 ∈ l.take (i + 1)) ∨ (s = n ∧ ed (g 0) (g (n - 1)) 2 ∈ l.take (i + 1)) ∨ (3 ≤ s ∧ ed (g 0) (g 2) 1 ∈ l.take (i + 1) ∧ ∀ j, 2 ≤ j → j < s - 1 → ed (g j) (g (j + 1)) 1 ∈ l.take (i + 1))) := by
  have h3 := R.n3
  have hs2 := R.s2
  have hsn := R.sn
  obtain ⟨e, he, _, hr⟩ := h
  rw [List.getElem?_append_left hi] at he
  have hel : e ∈ l := List.mem_of_getElem? he
  have heL : e ∈ l.take (i + 1) := take_mem he (by omega)
  have hL : ∀ x ∈ l.take (i + 1), x ∈ l := fun x hx => List.mem_of_mem_take hx
  have hr : Reach (Zero (l.take (i + 1))) (rdOf e).2.1 (rdOf e).1 := hr.mono fun u v ⟨r, hm, z⟩ => ⟨r, by
    rw [List.take_append_of_le_length (by omega)] at hm
    exact (List.take_sublist_take_left (by omega)).subset hm, z⟩
  have key : ed (g (s - 1)) (g 0) 5 ∈ l.take (i + 1) ∧ Reach (NB n g (l.take (i + 1))) (g 0) (g (s - 1)) := by
    have up : ∀ u v, NB n g (l.take (i + 1)) u v → Reach (Zero (l.take (i + 1))) v u → ed (g (s - 1)) (g 0) 5 ∈ l.take (i + 1) ∧ Reach (NB n g (l.take (i + 1))) (g 0) (g (s - 1)) := fun u v hn hr => by
      rcases R.split hL hr with h1 | ⟨h1, h2, h4⟩
      · obtain ⟨a, b, hab, hb, rfl, rfl⟩ := hn.up h3
        obtain ⟨j, hj, hjn, hg⟩ := R.up h1 b hb rfl
        have := R.inj a j (by omega) hjn hg
        omega
      · exact ⟨h1, (h4.step hn).trans h2⟩
    rcases (R.mem e).mp hel with rfl | rfl | rfl | ⟨j, hj, rfl⟩
    · simp only [rdOf_ed] at hr
      rcases R.split hL hr with h1 | ⟨h1, h2, h4⟩
      · exact ⟨heL, h1⟩
      · exact ⟨h1, h2⟩
    · simp only [rdOf_ed] at hr
      exact up _ _ (.inl ⟨heL, rfl, rfl⟩) hr
    · simp only [rdOf_ed] at hr
      exact up _ _ (.inr (.inl ⟨heL, rfl, rfl⟩)) hr
    · simp only [rdOf_ed] at hr
      exact up _ _ (.inr (.inr ⟨j, hj, heL, rfl, rfl⟩)) hr
  refine ⟨key.1, ?_⟩
  obtain ⟨t, ht, hv, h⟩ := R.ways key.2
  have hts := R.inj _ t (by omega) ht hv
  subst hts
  rcases h with h | ⟨h, h5⟩ | ⟨h, h5, h6⟩
  · exact .inl h
  · exact .inr (.inl ⟨by omega, h5⟩)
  · exact .inr (.inr ⟨by omega, h5, h6⟩)
theorem line_path {wd : Int} (g : Nat → Int) : ∀ (k i : Nat), EPath ((List.range' i k).map fun j => ed (g j) (g (j + 1)) wd) (g i) (g (i + k))
  | 0, i => .nil _
  | k + 1, i => by
    rw [List.range'_succ, List.map_cons]
    have := line_path (wd := wd) g k (i + 1)
    rw [show i + 1 + k = i + (k + 1) by omega] at this
    exact .cons this
end
def IsMx (ix : T → Nat) (xs : List T) (k : Nat) : Prop := (∃ x ∈ xs, ix x = k) ∧ ∀ x ∈ xs, ix x ≤ k
def lineT (g : Nat → Int) (i k : Nat) : List T := (List.range' i k).map fun j => ed (g j) (g (j + 1)) 1
theorem lineT_mem {g : Nat → Int} {i k : Nat} {x : T} : x ∈ lineT g i k ↔ ∃ j, i ≤ j ∧ j < i + k ∧ x = ed (g j) (g (j + 1)) 1 := by
  simp only [lineT, List.mem_map, List.mem_range'_1]
  constructor
  · rintro ⟨j, ⟨h1, h2⟩, rfl⟩; exact ⟨j, h1, h2, rfl⟩
  · rintro ⟨j, h1, h2, rfl⟩; exact ⟨j, ⟨h1, h2⟩, rfl⟩
def ringB (g : Nat → Int) (s : Nat) : T := ed (g (s - 1)) (g 0) 5
def ringL (g : Nat → Int) (n : Nat) : T := ed (g 0) (g (n - 1)) 2
def ringS (g : Nat → Int) : T := ed (g 0) (g 2) 1
theorem ring_first {n s : Nat} {g : Nat → Int} {l m : List T} {ix : T → Nat} {k m1 m2 m3 : Nat} (R : Rings n s g l) (hI : IxOk l ix) (h1 : IsMx ix (ringB g s :: lineT g 0 (s - 1)) m1) (h2 : IsMx ix [ringB g s, ringL g n] m2) (h3 : IsMx ix (ringB g s :: ringS g :: lineT g 2 (s - 3)) m3)
    (hk : k = m1 ∨ (s = n ∧ k = m2) ∨ (3 ≤ s ∧ k = m3)) (l1 : k ≤ m1) (l2 : s = n → k ≤ m2) (l3 : 3 ≤ s → k ≤ m3) : Ring (l ++ m) k ∧ k < l.length ∧ ∀ i, i < k → ¬ Ring (l ++ m) i := by
  have hn3 := R.n3
  have hs2 := R.s2
  have hsn := R.sn
  have mB : ringB g s ∈ l := (R.mem _).mpr (.inl rfl)
  have mL : ringL g n ∈ l := (R.mem _).mpr (.inr (.inl rfl))
  have mS : ringS g ∈ l := (R.mem _).mpr (.inr (.inr (.inl rfl)))
  have mT : ∀ i k, i + k < n → ∀ x ∈ lineT g i k, x ∈ l := fun i k h x hx => by
    obtain ⟨j, _, hj, rfl⟩ := lineT_mem.mp hx
    exact (R.mem _).mpr (.inr (.inr (.inr ⟨j, by omega, rfl⟩)))
  have nB : ∀ i k, ringB g s ∉ lineT g i k := fun i k h => by
    obtain ⟨j, _, _, e⟩ := lineT_mem.mp h
    simp [ringB, ed] at e
  have a1 : ∀ x ∈ ringB g s :: lineT g 0 (s - 1), x ∈ l := fun x hx => by
    rcases List.mem_cons.mp hx with rfl | hx
    · exact mB
    · exact mT _ _ (by omega) x hx
  have a2 : ∀ x ∈ [ringB g s, ringL g n], x ∈ l := fun x hx => by
    simp at hx; rcases hx with rfl | rfl
    · exact mB
    · exact mL
  have a3 : 3 ≤ s → ∀ x ∈ ringB g s :: ringS g :: lineT g 2 (s - 3), x ∈ l := fun hs x hx => by
    rcases List.mem_cons.mp hx with rfl | hx
    · exact mB
    · rcases List.mem_cons.mp hx with rfl | hx
      · exact mS
      · exact mT _ _ (by omega) x hx
  have hkl : k < l.length := by
    obtain ⟨x, hx, e⟩ := h1.1
    have := hI.lt (a1 x hx)
    omega
  refine ⟨?_, hkl, fun i hi hr => ?_⟩
  · rcases hk with rfl | ⟨hs, rfl⟩ | ⟨hs, rfl⟩
    · have hp := line_path (wd := 1) g (s - 1) 0
      rw [show 0 + (s - 1) = s - 1 by omega] at hp
      exact ring_at hI hp (nB 0 (s - 1)) a1 h1.1 h1.2
    · have hp : EPath [ringL g n] (g 0) (g (s - 1)) := by rw [hs]; exact .cons (.nil _)
      refine ring_at hI hp (fun h => ?_) a2 h2.1 h2.2
      simp [ringL, ed] at h
    · have hp : EPath (ringS g :: lineT g 2 (s - 3)) (g 0) (g (s - 1)) := by
        have := line_path (wd := 1) g (s - 3) 2
        rw [show 2 + (s - 3) = s - 1 by omega] at this
        exact .cons this
      refine ring_at hI hp (fun h => ?_) (a3 hs) h3.1 h3.2
      rcases List.mem_cons.mp h with h | h
      · simp [ringS, ed] at h
      · exact nB _ _ h
  · obtain ⟨hb, h⟩ := R.three (by omega) hr
    have lt : ∀ x, x ∈ l → x ∈ l.take (i + 1) → ix x ≤ i := fun x hx hm => by
      obtain ⟨j, hj⟩ := List.getElem?_of_mem hm
      have hji : j < i + 1 := by have := (List.getElem?_eq_some_iff.mp hj).1; simp at this; omega
      rw [List.getElem?_take_of_lt hji] at hj
      have := (hI x hx).2 j hj
      omega
    rcases h with h | ⟨hs, h⟩ | ⟨hs, h, h'⟩
    · obtain ⟨x, hx, e⟩ := h1.1
      have : ix x ≤ i := by
        rcases List.mem_cons.mp hx with rfl | hx
        · exact lt _ mB hb
        · obtain ⟨j, _, hj, rfl⟩ := lineT_mem.mp hx
          exact lt _ (a1 _ (by simp [hx])) (h j (by omega))
      omega
    · obtain ⟨x, hx, e⟩ := h2.1
      have := l2 hs
      have : ix x ≤ i := by
        simp at hx; rcases hx with rfl | rfl
        · exact lt _ mB hb
        · exact lt _ mL h
      omega
    · obtain ⟨x, hx, e⟩ := h3.1
      have := l3 hs
      have : ix x ≤ i := by
        rcases List.mem_cons.mp hx with rfl | hx
        · exact lt _ mB hb
        · rcases List.mem_cons.mp hx with rfl | hx
          · exact lt _ mS h
          · obtain ⟨j, hj1, hj, rfl⟩ := lineT_mem.mp hx
            exact lt _ (a3 hs _ (by simp [hx])) (h' j hj1 (by omega))
      omega
/-- where each stands, by looking -/
def ixT (l : List T) (x : T) : Nat := l.findIdx fun t => eqT t x
theorem ixT_ok {l : List T} (he : ∀ x ∈ l, ∃ a b w, x = ed a b w) : IxOk l (ixT l) := fun x hx => by
  have hq : ∀ t ∈ l, (eqT t x = true ↔ t = x) := fun t ht => by
    obtain ⟨a, b, w, rfl⟩ := he t ht
    obtain ⟨a', b', w', rfl⟩ := he x hx
    rw [eqT_ed]; simp [ed]
  have hlt : ixT l x < l.length := List.findIdx_lt_length_of_exists ⟨x, hx, (hq x hx).mpr rfl⟩
  refine ⟨?_, fun j hj => ?_⟩
  · rw [List.getElem?_eq_getElem hlt]
    have := List.findIdx_getElem (xs := l) (p := fun t => eqT t x) (w := hlt)
    exact congrArg some ((hq _ (List.getElem_mem _)).mp this)
  · rcases Nat.lt_or_ge j (ixT l x) with h | h
    · have h1 := List.not_of_lt_findIdx (p := fun t => eqT t x) (xs := l) h
      have hjl := (List.getElem?_eq_some_iff.mp hj)
      obtain ⟨h2, h3⟩ := hjl
      have : eqT l[j] x = true := (hq _ (List.getElem_mem _)).mpr h3
      simp [this] at h1
    · exact h
theorem index_ed {l : List T} (he : ∀ x ∈ l, ∃ a b w, x = ed a b w) {x : T} (hx : x ∈ l) {S : Store} {Q : D → Store → Prop} (q : Q (.int (ixT l x : Nat)) S) : mIndexT (.t (.lst (l ++ [.v .non]))) [.t x] S Q := by
  have hI := ixT_ok he
  have hd : ∀ t ∈ l, dat 64 t = true := fun t ht => by
    obtain ⟨a, b, w, rfl⟩ := he t ht
    simp [ed, dat_tup]
  have hlt := hI.lt hx
  refine ⟨l ++ [.v .non], .t x, x, x, ixT l x, rfl, tree_t, tree_t, ?_, hd x hx, ?_, ?_, ?_, q⟩
  · rw [dat_lst]; intro t ht
    rcases List.mem_append.mp ht with ht | ht
    · obtain ⟨a, b, w, rfl⟩ := he t ht
      simp [ed, dat_tup]
    · simp at ht; subst ht; simp [dat]
  · rw [List.getElem?_append_left hlt]; exact (hI x hx).1
  · obtain ⟨a, b, w, rfl⟩ := he x hx
    exact eqT_ed.mpr ⟨rfl, rfl, rfl⟩
  · intro j u hj hu
    rw [List.getElem?_append_left (by omega)] at hu
    have h1 := List.not_of_lt_findIdx (p := fun t => eqT t x) (xs := l) hj
    obtain ⟨h2, h3⟩ := List.getElem?_eq_some_iff.mp hu
    rw [h3] at h1
    simpa using h1
def ft_law_rings_right (A : Str → Addr) : FT := fun ds S Q _ => ∃ (b : Nat) (R : Store), ds = [.m 1] ∧ S = st b R ∧ Jk R ∧ 100 ≤ b ∧ ∀ b', b ≤ b' + 100 → Q (.bl true) (st b' R)
def rd_law_rings_right (A : Str → Addr) : TSD :=
 sSeq (sAsg (dOp oAdd (dC (.int 3)) (dCall 2 (ft_law_draw A) (dCons (dVar 0) (dCons (dC (.int 4)) (dNil))))) (gVar 1))
 (sSeq (sAsg (dCall 2 (ft_law_mixed A) (dCons (dVar 0) (dCons (dListRg (dVar 1)) (dNil)))) (gVar 2))
 (sSeq (sAsg (dLc (iZipD (dCons (dVar 2) (dCons (dSl (dVar 2) (dPart (dC (.int 1))) (dNoPart)) (dNil)))) (gTupD 2 (gConsD (gVar 13) (gConsD (gVar 14) (gNilD)))) (dYes) (dTup (dCons (dVar 13) (dCons (dVar 14) (dCons (dC (.int 0)) (dCons (dC (.int 1)) (dNil)))))) [13, 14]) (gVar 3))
 (sSeq (sAsg (dCall 2 (ft_law_mixed A) (dCons (dVar 0) (dCons (dOp oAdd (dVar 3) (dLst (dCons (dTup (dCons (dOp oIx (dVar 2) (dC (.int 0))) (dCons (dOp oIx (dVar 2) (dUn (uI fun i => .int (-i)) (dC (.int 1)))) (dCons (dC (.int 0)) (dCons (dC (.int 2)) (dNil)))))) (dCons (dTup (dCons (dOp oIx (dVar 2) (dC (.int 0))) (dCons (dOp oIx (dVar 2) (dC (.int 2))) (dCons (dC (.int 0)) (dCons (dC (.int 1)) (dNil)))))) (dNil))))) (dNil)))) (gVar 4))
 (sSeq (sIf (dB (dOp oNe (dTried (Xs A) "told" (cl_law_met A) false (dMake (A "House") 4 (ft_House_init A) (dCons (dVar 1) (dCons (dVar 4) (dCons (dLst (dNil)) (dNil)))))) (dTup (dCons (dC (.str "told")) (dCons (dC .non) (dNil))))))
 (sSeq (sRet (dC (.bl false)))
 (sNext))
 (sNext))
 (sSeq (sAsg (dOp oAdd (dC (.int 2)) (dCall 2 (ft_law_draw A) (dCons (dVar 0) (dCons (dOp (oI0 fun i j => .int (i - j)) (dVar 1) (dC (.int 1))) (dNil))))) (gVar 5))
 (sSeq (sAsg (dTup (dCons (dOp oIx (dVar 2) (dOp (oI0 fun i j => .int (i - j)) (dVar 5) (dC (.int 1)))) (dCons (dOp oIx (dVar 2) (dC (.int 0))) (dCons (dC (.int 0)) (dCons (dC (.int 5)) (dNil)))))) (gVar 6))
 (sSeq (sAsg (dCall 2 (ft_law_draw A) (dCons (dVar 0) (dCons (dOp oAdd (dCB cLen (dCons (dVar 4) (dNil))) (dC (.int 1))) (dNil)))) (gVar 7))
 (sSeq (sAsg (dOp oAdd (dOp oAdd (dOp oAdd (dSl (dVar 4) (dNoPart) (dPart (dVar 7))) (dLst (dCons (dVar 6) (dNil)))) (dSl (dVar 4) (dPart (dVar 7)) (dNoPart))) (dLst (dCons (dC .non) (dNil)))) (gVar 8))
 (sSeq (sAsg (dOp oAdd (dLst (dCons (dVar 6) (dNil))) (dSl (dVar 3) (dNoPart) (dPart (dOp (oI0 fun i j => .int (i - j)) (dVar 5) (dC (.int 1)))))) (gVar 9))
 (sSeq (sAsg (dCB cMax (dCons (dLc (iSeq (dVar 9)) (gVar 15) (dYes) (dBM tyLst mIndexT (dVar 8) (dCons (dVar 15) (dNil))) [15]) (dNil))) (gVar 10))
 (sSeq (sIf (dAndT (dB (dOp (oIn false) (dTup (dCons (dOp oIx (dVar 2) (dC (.int 0))) (dCons (dOp oIx (dVar 2) (dUn (uI fun i => .int (-i)) (dC (.int 1)))) (dCons (dC (.int 0)) (dCons (dC (.int 2)) (dNil)))))) (dVar 8))) (dB (dOp oEq (dVar 5) (dVar 1))))
 (sSeq (sAsg (dCB (cInt2 fun i j => if j < i then j else i) (dCons (dVar 10) (dCons (dCB (cInt2 fun i j => if j > i then j else i) (dCons (dBM tyLst mIndexT (dVar 8) (dCons (dTup (dCons (dOp oIx (dVar 2) (dC (.int 0))) (dCons (dOp oIx (dVar 2) (dUn (uI fun i => .int (-i)) (dC (.int 1)))) (dCons (dC (.int 0)) (dCons (dC (.int 2)) (dNil)))))) (dNil))) (dCons (dBM tyLst mIndexT (dVar 8) (dCons (dVar 6) (dNil))) (dNil)))) (dNil)))) (gVar 10))
 (sNext))
 (sNext))
 (sSeq (sIf (dB (dOp (oI0 fun i j => .bl (decide (j ≤ i))) (dVar 5) (dC (.int 3))))
 (sSeq (sAsg (dOp oAdd (dLst (dCons (dVar 6) (dCons (dTup (dCons (dOp oIx (dVar 2) (dC (.int 0))) (dCons (dOp oIx (dVar 2) (dC (.int 2))) (dCons (dC (.int 0)) (dCons (dC (.int 1)) (dNil)))))) (dNil)))) (dSl (dVar 3) (dPart (dC (.int 2))) (dPart (dOp (oI0 fun i j => .int (i - j)) (dVar 5) (dC (.int 1)))))) (gVar 11))
 (sSeq (sAsg (dCB (cInt2 fun i j => if j < i then j else i) (dCons (dVar 10) (dCons (dCB cMax (dCons (dLc (iSeq (dVar 11)) (gVar 15) (dYes) (dBM tyLst mIndexT (dVar 8) (dCons (dVar 15) (dNil))) [15]) (dNil))) (dNil)))) (gVar 10))
 (sNext)))
 (sNext))
 (sSeq (sIf (dB (dOp oNe (dTried (Xs A) "told" (cl_law_met A) false (dMake (A "House") 4 (ft_House_init A) (dCons (dVar 1) (dCons (dVar 8) (dCons (dC .non) (dNil)))))) (dTup (dCons (dC (.str "roads")) (dCons (dVar 10) (dNil))))))
 (sSeq (sRet (dC (.bl false)))
 (sNext))
 (sNext))
 (sSeq (sAsg (dLc (iSeq (dSl (dVar 8) (dNoPart) (dPart (dUn (uI fun i => .int (-i)) (dC (.int 1)))))) (gTupD 4 (gConsD (gVar 13) (gConsD (gVar 14) (gConsD (gVar 16) (gConsD (gVar 17) (gNilD)))))) (dYes) (dTup (dCons (dVar 13) (dCons (dVar 14) (dCons (dIf (dB (dOp oEq (dTup (dCons (dVar 13) (dCons (dVar 14) (dNil)))) (dSl (dVar 6) (dNoPart) (dPart (dC (.int 2)))))) (dC (.int 1)) (dVar 16)) (dCons (dVar 17) (dNil)))))) [13, 14, 16, 17]) (gVar 12))
 (sSeq (sRet (dOp oEq (dTried (Xs A) "told" (cl_law_met A) false (dMake (A "House") 4 (ft_House_init A) (dCons (dVar 1) (dCons (dVar 12) (dCons (dLst (dNil)) (dNil)))))) (dTup (dCons (dC (.str "told")) (dCons (dC .non) (dNil))))))
 (sNext))))))))))))))))
theorem ev1 {te : TED} {x : T} {X : XQ} {ρ : Env} {S : Store} {Q : D → Store → Prop} (h : Is te x ρ) (q : Q (.t x) S) : te X ρ S Q := h X S Q q
theorem ev_draw {A : Str → Addr} {ρ : Env} {X : XQ} {b i : Nat} {R : Store} {Q : D → Store → Prop} {e : TED} {m : Int} (h0 : ρ[i]? = some (some (.m 1))) (he : Is e (.int m) ρ) (h1 : 1 ≤ m) (h2 : m < 2 ^ 62) (hb : 1 ≤ b)
    (q : ∀ k b', 0 ≤ k → k < m → b ≤ b' + 1 → Q (.int k) (st b' R)) : dCall 2 (ft_law_draw A) (dCons (dVar i) (dCons e dNil)) X ρ (st b R) Q :=
  ⟨_, h0, he X _ _ ⟨rfl, draw_st h1 h2 hb q⟩⟩
theorem ev_mixed {A : Str → Addr} {ρ : Env} {X : XQ} {b i : Nat} {R : Store} {Q : D → Store → Prop} {e : TED} {x : T} {ts : List T} (h0 : ρ[i]? = some (some (.m 1))) (he : Is e x ρ) (hs : seqOf x = some ts) (hb : ts.length ≤ b) (hl : ts.length ≤ 100000)
    (q : ∀ us b', us.Perm ts → b ≤ b' + ts.length → Q (.t (.lst us)) (st b' R)) : dCall 2 (ft_law_mixed A) (dCons (dVar i) (dCons e dNil)) X ρ (st b R) Q :=
  ⟨_, h0, he X _ _ ⟨rfl, b, R, .t x, ts, rfl, rfl, hb, seqA_of hs, hl, q⟩⟩
theorem ev_pick {A : Str → Addr} {ρ : Env} {X : XQ} {b i : Nat} {R : Store} {Q : D → Store → Prop} {e : TED} {x : T} {ts : List T} (h0 : ρ[i]? = some (some (.m 1))) (he : Is e x ρ) (hs : seqOf x = some ts) (hb : 1 ≤ b) (h1 : 1 ≤ ts.length) (hl : ts.length ≤ 100000)
    (q : ∀ t ∈ ts, ∀ b', b ≤ b' + 1 → Q (.t t) (st b' R)) : dCall 2 (ft_law_pick A) (dCons (dVar i) (dCons e dNil)) X ρ (st b R) Q :=
  ⟨_, h0, he X _ _ ⟨rfl, b, R, .t x, ts.map .t, rfl, rfl, hb, seqA_of hs, by rw [List.length_map]; exact h1, by rw [List.length_map]; exact hl, fun d b' hd hb' => by
    obtain ⟨t, ht, rfl⟩ := List.mem_map.mp hd
    exact q t ht b' hb'⟩⟩
/-! a house asked for -/
def toldT : T := .tup [.str "told", .v .non]
theorem told1 : dat 64 toldT = true := by
  rw [toldT, dat_tup]; intro t ht; simp at ht
  rcases ht with rfl | rfl
  · rw [dat_str]; decide +kernel
  · rfl
theorem told2 : eqT toldT toldT = true := by simp [toldT, eqT, eqV]
theorem strOk_w : PyData.strOk "roads" = true ∧ PyData.strOk "doors" = true ∧ PyData.strOk "places" = true := by decide +kernel
theorem dat_told {w : Str} {k : Int} (h : PyData.strOk w = true) : dat 64 (.tup [.str w, .int k]) = true := by
  rw [dat_tup]; intro t ht; simp at ht
  rcases ht with rfl | rfl
  · rw [dat_str]; exact h
  · exact dat_int
theorem xs_ne {A : Str → Addr} (hX : (Xs A).Nodup) : ¬ A "BadRoads" = A "BadPlaces" ∧ ¬ A "BadDoors" = A "BadPlaces" ∧ ¬ A "BadDoors" = A "BadRoads" := by
  have h : [A "BadPlaces", A "BadRoads", A "BadDoors"].Nodup := hX
  simp only [List.nodup_cons, List.mem_cons, List.not_mem_nil, or_false, not_or] at h
  exact ⟨fun e => h.1.1 e.symm, fun e => h.1.2 e.symm, fun e => h.2.1 e.symm⟩
section
variable {A : Str → Addr} {ρ : Env} {X : XQ} {b : Nat} {R : Store} {Q : D → Store → Prop} {e1 e2 e3 : TED} {x y z : T}
theorem ev_met (hR : Jk R) (h1 : Is e1 x ρ) (h2 : Is e2 y ρ) (h3 : Is e3 z ρ) (h : HAsk A (st b R) (.t x) (.t y) (.t z) (fun d' S2 => d' = .non ∧ Q (.t toldT) S2) fun e => e.1 ∈ Xs A ∧ hndD (cl_law_met A) e (st b (R ++ [.ins (A "House") []])) Q) :
    dTried (Xs A) "told" (cl_law_met A) false (dMake (A "House") 4 (ft_House_init A) (dCons e1 (dCons e2 (dCons e3 dNil)))) X ρ (st b R) Q := by
  have key : mkD (A "House") 4 (ft_House_init A) [.t x, .t y, .t z] (fun e S' => e.1 ∈ Xs A ∧ hndD (cl_law_met A) e S' Q) (st b R) (fun d S' => mkTup [.t (.v (.str "told")), if false = true then d else .non] S' Q) := by
    refine mk_house hR ?_
    obtain ⟨xp, e, ho, h⟩ := h
    refine ⟨xp, e, ho, ?_⟩
    rcases h with h | ⟨p, x', e1, hp, e2, h4, h5, h⟩
    · exact .inl h
    · refine .inr ⟨p, x', e1, hp, e2, h4, h5, ?_⟩
      rcases h with h | ⟨y', h6, e3, h7, h8, h⟩
      · exact .inl h
      · refine .inr ⟨y', h6, e3, h7, h8, ?_⟩
        rcases h with h | ⟨rs, drs, xs, ys, es, fs, h9, h10, h11, _, q⟩
        · exact .inl h
        · exact .inr ⟨rs, drs, xs, ys, es, fs, h9, h10, h11, rfl, mkTup_t (ts := [.str "told", .v .non]) q⟩
  exact h1 _ _ _ (h2 _ _ _ (h3 _ _ _ key))
theorem ev_made {p : Int} {rs dr : List (List T)} (hR : Jk R) (hg : GoodH p rs dr) (h1 : Is e1 (.int p) ρ) (h2 : Is e2 (.lst (rs.map .tup)) ρ) (h3 : Is e3 (.lst (dr.map .tup)) ρ) (q : ∀ c, Jk (R ++ [c]) → Q (.t toldT) (st b (R ++ [c]))) :
    dTried (Xs A) "told" (cl_law_met A) false (dMake (A "House") 4 (ft_House_init A) (dCons e1 (dCons e2 (dCons e3 dNil)))) X ρ (st b R) Q :=
  ev_met hR h1 h2 h3 (ask_made hg ⟨rfl, q _ (hR.insT (fs := [("own_places", .int p), ("own_roads", .lst (rs.map .tup)), ("own_doors", .lst (dr.map .tup))]))⟩)
theorem ev_badr {p k : Int} (hX : (Xs A).Nodup) (hR : Jk R) (h1 : Is e1 (.int p) ρ) (h2 : Is e2 y ρ) (h3 : Is e3 z ρ) (hp : 1 ≤ p) (hx : okT (Cs A) y = true) (hl : ∀ xs, seqOf y = some xs → xs.length ≤ 1000) (ht : ∀ t, RoadsTold p y t → t = .int k)
    (q : ∀ c, Jk (R ++ [c]) → Q (.t (.tup [.str "roads", .int k])) (st b (R ++ [c]))) : dTried (Xs A) "told" (cl_law_met A) false (dMake (A "House") 4 (ft_House_init A) (dCons e1 (dCons e2 (dCons e3 dNil)))) X ρ (st b R) Q := by
  refine ev_met hR h1 h2 h3 (ask_roads hp hx hl ht ⟨by simp [Xs], ?_⟩)
  obtain ⟨n1, n2, n3⟩ := xs_ne hX
  unfold cl_law_met hndD
  rw [if_neg n1]
  unfold hndD
  rw [if_pos rfl]
  exact ⟨_, rfl, mkTup_t (ts := [.str "roads", .int k]) (q _ hR.ins0)⟩
theorem ev_badd {p k : Int} {rs : List (List T)} (hX : (Xs A).Nodup) (hR : Jk R) (h1 : Is e1 (.int p) ρ) (h2 : Is e2 (.lst (rs.map .tup)) ρ) (h3 : Is e3 z ρ) (hp : 1 ≤ p) (hro : RoadsOk p rs) (hr : rs.length ≤ 1000) (hx : okT (Cs A) z = true) (hl : ∀ xs, seqOf z = some xs → xs.length ≤ 1000) (ht : ∀ t, DoorsTold p z t → t = .int k)
    (q : ∀ c, Jk (R ++ [c]) → Q (.t (.tup [.str "doors", .int k])) (st b (R ++ [c]))) : dTried (Xs A) "told" (cl_law_met A) false (dMake (A "House") 4 (ft_House_init A) (dCons e1 (dCons e2 (dCons e3 dNil)))) X ρ (st b R) Q := by
  refine ev_met hR h1 h2 h3 (ask_doors hp hro hr hx hl ht ⟨by simp [Xs], ?_⟩)
  obtain ⟨n1, n2, n3⟩ := xs_ne hX
  unfold cl_law_met hndD
  rw [if_neg n2]
  unfold hndD
  rw [if_neg n3]
  unfold hndD
  rw [if_pos rfl]
  exact ⟨_, rfl, mkTup_t (ts := [.str "doors", .int k]) (q _ hR.ins0)⟩
theorem ev_badp (hX : (Xs A).Nodup) (hR : Jk R) (h1 : Is e1 x ρ) (h2 : Is e2 y ρ) (h3 : Is e3 z ρ) (ho : ok1 (Cs A) x) (hp : isPos x = false) (q : ∀ c, Jk (R ++ [c]) → Q (.t (.tup [.str "places", x])) (st b (R ++ [c]))) :
    dTried (Xs A) "told" (cl_law_met A) false (dMake (A "House") 4 (ft_House_init A) (dCons e1 (dCons e2 (dCons e3 dNil)))) X ρ (st b R) Q := by
  refine ev_met hR h1 h2 h3 (ask_places tree_t ho hp ⟨by simp [Xs], ?_⟩)
  unfold cl_law_met hndD
  rw [if_pos rfl]
  exact ⟨_, rfl, mkTup_t (ts := [.str "places", x]) (q _ hR.ins0)⟩
end
theorem cutG_b {α : Type} {xs : List α} {i j : Nat} : cutG xs (some (i : Int)) (some (j : Int)) = (xs.drop i).take (j - i) := by
  unfold cutG
  rw [sIx_nat', sIx_nat']
  by_cases h : i ≤ xs.length
  · rw [Nat.min_eq_left h]
    by_cases h2 : j ≤ xs.length
    · rw [Nat.min_eq_left h2]
    · rw [Nat.min_eq_right (by omega), List.take_of_length_le (by simp), List.take_of_length_le (by simp; omega)]
  · rw [Nat.min_eq_right (a := i) (by omega), List.drop_of_length_le (Nat.le_refl _), List.drop_of_length_le (by omega)]
    simp
theorem cutG_init {α : Type} {xs : List α} {x : α} : cutG (xs ++ [x]) none (some (-1)) = xs := by
  unfold cutG
  have h : HT.sIx (xs ++ [x]).length (xs ++ [x]).length (some (-1)) = xs.length := by
    show (if (-1 : Int) < 0 then ((-1 : Int) + (((xs ++ [x]).length : Nat) : Int)).toNat else min (-1 : Int).toNat (xs ++ [x]).length) = _
    rw [if_pos (by omega)]
    simp
    omega
  have h0 : HT.sIx (xs ++ [x]).length 0 none = 0 := rfl
  rw [h, h0]
  simp
theorem atI_last {α : Type} {xs : List α} {x : α} (h : xs[xs.length - 1]? = some x) : atI xs (-1) = some x := by
  have hl := (List.getElem?_eq_some_iff.mp h).1
  unfold atI
  have : ixN xs.length (-1) = some (xs.length - 1) := by
    unfold ixN
    rw [if_neg (by omega), if_pos (by omega)]
    congr 1; omega
  rw [this]; exact h
def fE : T → T
  | .tup [.v (.int a), .v (.int b)] => ed a b 1
  | t => t
theorem line_of {o : List Int} : (((o.map T.int).zip ((o.map T.int).drop 1)).map fun p => T.tup [p.1, p.2]).map fE = lineT (fun i => o.getD i 0) 0 (o.length - 1) := by
  refine List.ext_getElem? fun i => ?_
  unfold lineT
  rw [List.getElem?_map, List.getElem?_map, List.getElem?_map]
  by_cases h : i + 1 < o.length
  · rw [List.getElem?_eq_getElem (l := ((o.map T.int).zip ((o.map T.int).drop 1))) (by simp; omega), List.getElem?_eq_getElem (l := List.range' _ _) (by simp; omega)]
    simp [fE, List.getD, h, show i < o.length by omega, Nat.add_comm 1 i]
  · rw [List.getElem?_eq_none (l := ((o.map T.int).zip ((o.map T.int).drop 1))) (by simp; omega), List.getElem?_eq_none (l := List.range' _ _) (by simp; omega)]
    rfl
theorem lineT_take {g : Nat → Int} {i k j : Nat} (h : j ≤ k) : (lineT g i k).take j = lineT g i j := by
  unfold lineT
  rw [← List.map_take]
  congr 1
  refine List.ext_getElem? fun m => ?_
  by_cases hm : m < j
  · rw [List.getElem?_take_of_lt hm, List.getElem?_range' (by omega), List.getElem?_range' hm]
  · rw [List.getElem?_eq_none (by simp; omega), List.getElem?_eq_none (by simp; omega)]
theorem lineT_drop {g : Nat → Int} {i k j : Nat} : (lineT g i k).drop j = lineT g (i + j) (k - j) := by
  unfold lineT
  rw [← List.map_drop, List.drop_range']
  simp
@[simp] theorem lineT_len {g : Nat → Int} {i k : Nat} : (lineT g i k).length = k := by simp [lineT]
/-! tests that tell -/
section
variable {ρ : Env} {X : XQ} {S : Store} {De : DEnds} {Q : D → Store → Prop} {b e : TED} {x y : T}
theorem dbx {Q : Bool → Store → Prop} (q : e X ρ S fun d S1 => ∃ p, d = .bl p ∧ Q p S1) : dB e X ρ S Q := q
theorem neIf {P P2 : Store → Prop} (h : Is b y ρ) (hx : dat 64 x = true) (hy : dat 64 y = true) (he : eqT x y = true) (q : P2 S) : b X ρ S fun d2 S2 => oNe (.t x) d2 S2 fun d S3 => ∃ p, d = .bl p ∧ (if p = true then P S3 else P2 S3) :=
  h _ _ _ (by rw [oNe_of tree_t tree_t hx hy, he]; exact ⟨false, rfl, q⟩)
theorem eqOn (h : Is b y ρ) (hx : dat 64 x = true) (hy : dat 64 y = true) (q : Q (.bl (eqT x y)) S) : b X ρ S fun d2 S2 => oEq (.t x) d2 S2 Q :=
  h _ _ _ (by rw [oEq_of tree_t tree_t hx hy]; exact q)
theorem ifTail {α : Type} {tt : TTD} {t u : TSD} (C : α → Prop) (f : α → Env) (tail : ∀ x, C x → De.nx (f x) S) (q : (∀ x, C x → De.nx (f x) S) → sIf tt t u De ρ S) : sIf tt t u De ρ S := q tail
theorem cmaxI {ta : TAD} (q : ta X ρ S fun ds S1 => cMax ds S1 Q) : dCB cMax ta X ρ S Q := q
theorem dcons1 {a : TED} {Q : List D → Store → Prop} (q : a X ρ S fun d S1 => Q [d] S1) : dCons a dNil X ρ S Q := q
theorem cInt2x {g : Int → Int → Int} {x : T} {a c : TED} (h : Is a x ρ) (q : c X ρ S fun d S1 => cInt2 g [.t x, d] S1 Q) : dCB (cInt2 g) (dCons a (dCons c dNil)) X ρ S Q := h _ _ _ q
theorem ifTailI {tt : TTD} {t u : TSD} {i : Nat} (C : Nat → Prop) (tail : ∀ k : Nat, C k → De.nx (ρ.set i (some (.t (.int k)))) S) (q : (∀ k : Nat, C k → De.nx (ρ.set i (some (.t (.int k)))) S) → sIf tt t u De ρ S) : sIf tt t u De ρ S := q tail
theorem ifTail2 {tt : TTD} {t u : TSD} {i j : Nat} (C : Nat → Prop) (tail : ∀ (d : Option D) (k : Nat), C k → De.nx ((ρ.set j d).set i (some (.t (.int k)))) S)
    (q : (∀ (d : Option D) (k : Nat), C k → De.nx ((ρ.set j d).set i (some (.t (.int k)))) S) → sIf tt t u De ρ S) : sIf tt t u De ρ S := q tail
theorem gtup {ts : List T} {n : Nat} {g : TGsD} {Q : Env → Store → Prop} (h : ts.length = n) (q : g (ts.map .t) X ρ S Q) : gTupD n g (.t (.tup ts)) X ρ S Q := ⟨_, .inl rfl, by rw [List.length_map]; exact h, q⟩
theorem gcons {t : TGD} {u : TGsD} {d : D} {r : List D} {Q : Env → Store → Prop} (q : t d X ρ S fun ρ' S' => u r X ρ' S' Q) : gConsD t u (d :: r) X ρ S Q := ⟨d, r, rfl, q⟩
theorem gnil {Q : Env → Store → Prop} (q : Q ρ S) : gNilD [] X ρ S Q := ⟨rfl, q⟩
theorem isMx_ex {ix : T → Nat} : ∀ {xs : List T}, 0 < xs.length → ∃ k, IsMx ix xs k
  | [], h => absurd h (Nat.lt_irrefl _)
  | [x], _ => ⟨ix x, ⟨x, by simp, rfl⟩, fun y hy => by simp at hy; rw [hy]; exact Nat.le_refl _⟩
  | x :: y :: xs, _ => by
    obtain ⟨k, ⟨z, hz, e⟩, hk⟩ := isMx_ex (ix := ix) (xs := y :: xs) (by simp)
    by_cases h : ix x ≤ k
    · exact ⟨k, ⟨z, by simp at hz ⊢; exact .inr hz, e⟩, fun w hw => by
        rcases List.mem_cons.mp hw with rfl | hw
        · exact h
        · exact hk w hw⟩
    · exact ⟨ix x, ⟨x, by simp, rfl⟩, fun w hw => by
        rcases List.mem_cons.mp hw with rfl | hw
        · exact Nat.le_refl _
        · have := hk w hw; omega⟩
theorem cMax_ix {l xs : List T} (hx : 0 < xs.length) (q : ∀ k : Nat, IsMx (ixT l) xs k → Q (.t (.int k)) S) : cMax [.t (.lst (xs.map fun x => .int (ixT l x : Nat)))] S Q := by
  refine ⟨_, xs.map fun x => ((ixT l x : Nat) : Int), rfl, ?_, by simpa using hx, fun m hm hle => ?_⟩
  · show some _ = some _
    rw [List.map_map, List.map_map]; rfl
  · obtain ⟨x, hx1, rfl⟩ := List.mem_map.mp hm
    exact q _ ⟨⟨x, hx1, rfl⟩, fun y hy => by have := hle _ (List.mem_map_of_mem hy); omega⟩
end
theorem dat_ed {a b w : Int} : dat 64 (ed a b w) = true := by simp [ed, dat_tup]
theorem nodup_ints {n : Nat} : ((List.range n).map fun k : Nat => (k : Int)).Nodup := by
  unfold List.Nodup
  rw [List.pairwise_map]
  exact List.nodup_range.imp fun h e => h (by omega)
/-- roads along an order of the places -/
theorem roads_up {n : Nat} {o : List Int} (ho : o.Perm ((List.range n).map fun k : Nat => (k : Int))) {g : Nat → Int} (hg : g = fun i => o.getD i 0) {us : List T} (h : ∀ t ∈ us, ∃ (i j : Nat) (l w : Int), t = .tup [.int (g i), .int (g j), .int l, .int w] ∧ i < n ∧ j < n ∧ i ≠ j ∧ 0 ≤ l ∧ 1 ≤ w ∧ (l = 0 → i < j)) :
    ∃ rs : List (List T), us = rs.map .tup ∧ RoadsOk n rs := by
  refine ⟨us.map fun t => match t with | .tup ts => ts | _ => [], ?_, o.idxOf, ?_⟩
  · rw [List.map_map]
    conv => lhs; rw [← List.map_id us]
    refine List.map_congr_left fun t ht => ?_
    obtain ⟨i, j, l, w, rfl, _⟩ := h t ht
    rfl
  · intro r hr
    obtain ⟨t, ht, rfl⟩ := List.mem_map.mp hr
    obtain ⟨i, j, l, w, rfl, hi, hj, hij, hl, hw, hz⟩ := h t ht
    have hlen : o.length = n := by simpa using ho.length_eq
    have hnd : o.Nodup := ho.nodup_iff.mpr nodup_ints
    have gi : ∀ i, i < n → ∃ h : i < o.length, g i = o[i] := fun i hi => ⟨by omega, by rw [hg]; simp [List.getD, show i < o.length by omega]⟩
    have rg : ∀ i, i < n → 0 ≤ g i ∧ g i < n := fun i hi => by
      obtain ⟨h, e⟩ := gi i hi
      have := ho.mem_iff.mp (List.getElem_mem h)
      rw [← e] at this
      obtain ⟨k, hk, hke⟩ := List.mem_map.mp this
      have := List.mem_range.mp hk
      omega
    have ix : ∀ i, i < n → o.idxOf (g i) = i := fun i hi => by
      obtain ⟨h, e⟩ := gi i hi
      rw [e]; exact hnd.idxOf_getElem i h
    refine ⟨_, _, l, w, rfl, rg i hi, rg j hj, fun e => hij ?_, hl, hw, fun e => ?_⟩
    · rw [← ix i hi, ← ix j hj, e]
    · show o.idxOf (g i) < o.idxOf (g j)
      rw [ix i hi, ix j hj]; exact hz e
theorem isRoad_ed {n : Nat} {a b w : Int} (h1 : 0 ≤ a ∧ a < n) (h2 : 0 ≤ b ∧ b < n) (h3 : a ≠ b) (h4 : 1 ≤ w) : isRoad (ed a b w) n = true := by
  have : ¬ eqT (.int a) (.int b) = true := by simpa using h3
  simp [isRoad, ed, isPlace, isNum, isPos, h1, h2, h3]
  omega
def fL (Bs : List T) : T → T
  | .tup [.v (.int a), .v (.int b), .v (.int l), w] => .tup [.int a, .int b, .int (if eqT (.tup [.int a, .int b]) (.tup (cutG Bs none (some 2))) = true then 1 else l), w]
  | t => t
theorem okT_ed {Cs : List Addr} {a b w : Int} : okT Cs (ed a b w) = true := by simp [ed, okT, okTs, tyT]
theorem cut2 {a b c d : T} : cutG [a, b, c, d] none (some 2) = [a, b] := cutG_to (k := 2)
theorem dat_2 {a b : Int} : dat 64 (.tup [.int a, .int b]) = true := by
  rw [dat_tup]; intro t ht; simp at ht
  rcases ht with rfl | rfl <;> exact dat_int
theorem long_x {ρ : Env} {a b w c d : Int} (h13 : ρ[13]? = some (some (.t (.int a)))) (h14 : ρ[14]? = some (some (.t (.int b)))) (h16 : ρ[16]? = some (some (.t (.int 0)))) (h17 : ρ[17]? = some (some (.t (.int w)))) (h6 : ρ[6]? = some (some (.t (ed c d 5)))) :
    Is (dTup (dCons (dVar 13) (dCons (dVar 14) (dCons (dIf (dB (dOp oEq (dTup (dCons (dVar 13) (dCons (dVar 14) dNil))) (dSl (dVar 6) dNoPart (dPart (dC (.int 2)))))) (dC (.int 1)) (dVar 16)) (dCons (dVar 17) dNil))))) (fL [.int c, .int d, .int 0, .int 5] (ed a b w)) ρ := by
  refine is_tup (xs := [.int a, .int b, .int (if eqT (.tup [.int a, .int b]) (.tup (cutG [.int c, .int d, .int 0, .int 5] none (some 2))) = true then 1 else 0), .int w]) (isL_cons (is_v h13) (isL_cons (is_v h14) (isL_cons ?_ (isL_cons (is_v h17) isL_nil)))) (by simp)
  refine is_if (isT_b (is_eq (x := .tup [.int a, .int b]) (y := .tup (cutG [.int c, .int d, .int 0, .int 5] none (some 2))) (is_tup (isL_cons (is_v h13) (isL_cons (is_v h14) isL_nil)) (by simp)) (is_slTt (is_v h6) is_c) dat_2 (by rw [cut2]; exact dat_2))) (fun h => ?_) (fun h => ?_)
  · rw [if_pos h]; exact is_c
  · rw [if_neg (by rw [h]; decide)]; exact is_v h16
theorem math_law_rings_right (A : Str → Addr) : (Xs A).Nodup → ∀ (ds : List D) (S : Store) (Q : D → Store → Prop) (E : Ex → Prop), ClosedS S.length S → ds.length = 1 → ft_law_rings_right A ds S Q E → rd_law_rings_right A (endsOf .tree S Q E) (startD 18 ds) S := by
  intro hX
  rintro ds S Q E hc _ ⟨b, R, rfl, rfl, hR, hb, q⟩
  have e1 : startD 18 [D.m 1] = [some (.m 1), none, none, none, none, none, none, none, none, none, none, none, none, none, none, none, none, none] := rfl
  rw [e1]
  unfold rd_law_rings_right
  refine sq (asg (dop (ev1 is_c (ev_draw rfl is_c (by decide) (by decide) (by omega) fun k b1 hk1 hk2 hb1 => ?_))))
  rw [oAdd_ii]
  refine gv ?_
  obtain ⟨n, hn⟩ : ∃ n : Nat, 3 + k = (n : Int) := ⟨(3 + k).toNat, by omega⟩
  rw [hn]
  have hn3 : 3 ≤ n := by omega
  have hn6 : n ≤ 6 := by omega
  refine sq (asg (ev_mixed (ts := (List.range n).map fun k : Nat => .int k) rfl (is_listRg (is_v rfl) (by omega)) rfl (by simp; omega) (by simp; omega) fun us b2 hp hb2 => gv ?_))
  have hp' : us.Perm (((List.range n).map fun k : Nat => (k : Int)).map T.int) := by rw [List.map_map]; exact hp
  obtain ⟨o, rfl, ho⟩ := perm_ints hp'
  have hlen : o.length = n := by simpa using ho.length_eq
  have hb2 : b1 ≤ b2 + n := by simpa using hb2
  obtain ⟨g, hg⟩ : ∃ g : Nat → Int, g = fun i => o.getD i 0 := ⟨_, rfl⟩
  have go : ∀ i, i < n → (o.map T.int)[i]? = some (.int (g i)) := fun i hi => by
    rw [hg, List.getElem?_map, List.getElem?_eq_getElem (by omega)]
    simp [List.getD, show i < o.length by omega]
  refine sq (asg (lcx (izip (is_v rfl) (is_slF (i := ((1 : Nat) : Int)) (is_v rfl) is_c) fun it hit => ?_)))
  rw [cutG_from] at hit
  refine lc_map fE hit hR.closed' (Nat.le_trans (by simp; omega) le_100000) ?_ ?_
  · intro x hx S2 Ky q2
    obtain ⟨⟨x1, x2⟩, hp1, rfl⟩ := List.mem_map.mp hx
    obtain ⟨h1, h2⟩ := List.of_mem_zip hp1
    obtain ⟨a, _, rfl⟩ := List.mem_map.mp h1
    obtain ⟨c, _, rfl⟩ := List.mem_map.mp (List.mem_of_mem_drop h2)
    exact gtup rfl (gcons (gv (gcons (gv (gnil (ev1 (is_tup (isL_cons (is_v rfl) (isL_cons (is_v rfl) (isL_cons is_c (isL_cons is_c isL_nil)))) (by simp)) q2))))))
  rw [line_of, hlen, ← hg]
  refine gv ?_
  have x0 : atI (o.map T.int) 0 = some (.int (g 0)) := by rw [atI_0]; exact go 0 (by omega)
  have x2 : atI (o.map T.int) 2 = some (.int (g 2)) := by rw [atI_2]; exact go 2 (by omega)
  have xl : atI (o.map T.int) (-1) = some (.int (g (n - 1))) := atI_last (by rw [List.length_map, hlen]; exact go (n - 1) (by omega))
  refine sq (asg (ev_mixed (ts := lineT g 0 (n - 1) ++ [ringL g n, ringS g]) rfl (is_cat (is_v rfl) (is_lst (isL_cons (is_tup (isL_cons (is_ix (is_v rfl) is_c rfl x0) (isL_cons (is_ix (is_v rfl) (is_neg is_c) rfl xl) (isL_cons is_c (isL_cons is_c isL_nil)))) (by simp))
    (isL_cons (is_tup (isL_cons (is_ix (is_v rfl) is_c rfl x0) (isL_cons (is_ix (is_v rfl) is_c rfl x2) (isL_cons is_c (isL_cons is_c isL_nil)))) (by simp)) isL_nil)) (by simp)) (by simp; omega)) rfl (by simp; omega) (by simp; omega) fun us b3 hp3 hb3 => gv ?_))
  have hb3 : b2 ≤ b3 + (n + 1) := by simp at hb3; omega
  have hus : ∀ t, t ∈ us ↔ t = ringL g n ∨ t = ringS g ∨ ∃ i, i + 1 < n ∧ t = ed (g i) (g (i + 1)) 1 := fun t => by
    rw [hp3.mem_iff, List.mem_append, lineT_mem]
    simp only [List.mem_cons, List.not_mem_nil, or_false]
    constructor
    · rintro (⟨j, _, hj, rfl⟩ | h | h)
      · exact .inr (.inr ⟨j, by omega, rfl⟩)
      · exact .inl h
      · exact .inr (.inl h)
    · rintro (h | h | ⟨j, hj, rfl⟩)
      · exact .inr (.inl h)
      · exact .inr (.inr h)
      · exact .inl ⟨j, by omega, by omega, rfl⟩
  have hul : us.length = n + 1 := by have := hp3.length_eq; simp at this; omega
  obtain ⟨rs, hrs, hok⟩ := roads_up ho hg (us := us) fun t ht => by
    rcases (hus t).mp ht with rfl | rfl | ⟨i, hi, rfl⟩
    · exact ⟨0, n - 1, 0, 2, rfl, by omega, by omega, by omega, by omega, by omega, fun _ => by omega⟩
    · exact ⟨0, 2, 0, 1, rfl, by omega, by omega, by omega, by omega, by omega, fun _ => by omega⟩
    · exact ⟨i, i + 1, 0, 1, rfl, by omega, by omega, by omega, by omega, by omega, fun _ => by omega⟩
  subst hrs
  have noD : DoorsOk n [] := ⟨fun _ => False, fun _ => False, fun z h => h.elim, fun z h => h.elim, fun z h => h.elim, fun r h => by cases h⟩
  refine sq (ifx (dbx (dop (ev_made (p := (n : Int)) (rs := rs) (dr := []) hR ⟨by omega, hok, noD, by simp at hul; omega, by simp⟩ (is_v rfl) (is_v rfl) (is_lst isL_nil (by simp)) fun c hJ => neIf (y := toldT) (is_tup (isL_cons is_c (isL_cons is_c isL_nil)) (by simp)) told1 told1 told2 (nxt ?_)))))
  generalize hR1 : R ++ [c] = R1 at hJ ⊢
  -- the ring's size
  refine sq (asg (dop (ev1 is_c (ev_draw rfl (is_i0 (is_v rfl) is_c) (by omega) (by omega) (by omega) fun k2 b4 hk3 hk4 hb4 => ?_))))
  rw [oAdd_ii]
  refine gv ?_
  obtain ⟨s, hs⟩ : ∃ s : Nat, 2 + k2 = (s : Int) := ⟨(2 + k2).toNat, by omega⟩
  rw [hs]
  have hs2 : 2 ≤ s := by omega
  have hsn : s ≤ n := by omega
  have hs1 : (s : Int) - 1 = ((s - 1 : Nat) : Int) := by omega
  have xs : atI (o.map T.int) ((s : Int) - 1) = some (.int (g (s - 1))) := by rw [hs1, atI_nat]; exact go _ (by omega)
  refine sq (asgIs (x := ringB g s) (is_tup (isL_cons (is_ix (is_v rfl) (is_i0 (is_v rfl) is_c) rfl xs) (isL_cons (is_ix (is_v rfl) is_c rfl x0) (isL_cons is_c (isL_cons is_c isL_nil)))) (by simp)) ?_)
  refine sq (asg (ev_draw rfl (is_add (is_len (is_v rfl) rfl) is_c) (by omega) (by simp at hul; simp; omega) (by omega) fun k3 b5 hk5 hk6 hb5 => gv ?_))
  obtain ⟨a, rfl⟩ : ∃ a : Nat, k3 = (a : Int) := ⟨k3.toNat, by omega⟩
  refine sq (asgIs (x := .lst (cutG (rs.map T.tup) none (some (a : Int)) ++ [ringB g s] ++ cutG (rs.map T.tup) (some (a : Int)) none ++ [.v .non])) (is_cat (is_cat (is_cat (is_slT (is_v rfl) (is_v rfl)) (is_lst (isL_cons (is_v rfl) isL_nil) (by simp)) (by simp at hul; simp; omega)) (is_slF (is_v rfl) (is_v rfl)) (by simp at hul; simp; omega)) (is_lst (isL_cons is_c isL_nil) (by simp)) (by simp at hul; simp; omega)) ?_)
  rw [cutG_to, cutG_from]
  obtain ⟨l, hl⟩ : ∃ l, l = (rs.map T.tup).take a ++ [ringB g s] ++ (rs.map T.tup).drop a := ⟨_, rfl⟩
  rw [← hl]
  have hlm : ∀ x, x ∈ l ↔ x = ringB g s ∨ x ∈ rs.map T.tup := fun x => by
    rw [hl, List.mem_append, List.mem_append, List.mem_singleton]
    constructor
    · rintro ((h | h) | h)
      · exact .inr (List.mem_of_mem_take h)
      · exact .inl h
      · exact .inr (List.mem_of_mem_drop h)
    · rintro (h | h)
      · exact .inl (.inr h)
      · rw [← List.take_append_drop a (rs.map T.tup), List.mem_append] at h
        rcases h with h | h
        · exact .inl (.inl h)
        · exact .inr h
  have hll : l.length ≤ 8 := by rw [hl]; simp at hul; simp; omega
  have hnd : o.Nodup := ho.nodup_iff.mpr nodup_ints
  have RR : Rings n s g l := ⟨hn3, hs2, hsn, fun i j hi hj e => by
      have e1 := go i hi
      have e2 := go j hj
      rw [List.getElem?_map, List.getElem?_eq_getElem (by omega)] at e1 e2
      have e1 : o[i] = g i := by simpa using e1
      have e2 : o[j] = g j := by simpa using e2
      have i1 := hnd.idxOf_getElem i (by omega)
      have i2 := hnd.idxOf_getElem j (by omega)
      rw [e1] at i1
      rw [e2, ← e] at i2
      exact i1.symm.trans i2, fun x => by rw [hlm, hus]; rfl⟩
  have hed : ∀ x ∈ l, ∃ a b w, x = ed a b w := fun x hx => by
    rcases (RR.mem x).mp hx with rfl | rfl | rfl | ⟨i, _, rfl⟩ <;> exact ⟨_, _, _, rfl⟩
  have hI := ixT_ok hed
  have mB : ringB g s ∈ l := (RR.mem _).mpr (.inl rfl)
  have mL : ringL g n ∈ l := (RR.mem _).mpr (.inr (.inl rfl))
  have mS : ringS g ∈ l := (RR.mem _).mpr (.inr (.inr (.inl rfl)))
  have mT : ∀ i k, i + k < n → ∀ x ∈ lineT g i k, x ∈ l := fun i k h x hx => by
    obtain ⟨j, _, hj, rfl⟩ := lineT_mem.mp hx
    exact (RR.mem _).mpr (.inr (.inr (.inr ⟨j, by omega, rfl⟩)))
  -- its parts
  refine sq (asgIs (x := .lst ([ringB g s] ++ cutG (lineT g 0 (n - 1)) none (some ((s : Int) - 1)))) (is_cat (is_lst (isL_cons (is_v rfl) isL_nil) (by simp)) (is_slT (is_v rfl) (is_i0 (is_v rfl) is_c)) (by rw [hs1, cutG_to]; simp; omega)) ?_)
  rw [hs1, cutG_to, lineT_take (by omega)]
  have p1 : ∀ x ∈ ringB g s :: lineT g 0 (s - 1), x ∈ l := fun x hx => by
    rcases List.mem_cons.mp hx with rfl | hx
    · exact mB
    · exact mT _ _ (by omega) x hx
  refine sq (asg (cmaxI (dcons1 (is_lc (ts := ringB g s :: lineT g 0 (s - 1)) (is_v rfl) rfl (fun x => .int (ixT l x : Nat)) (by simp; omega) hJ.closed' (fun x hx S2 Ky q2 => gv (bm (dvr rfl ⟨tyLst_x, ctL (xs := [x]) (isL_cons (is_v rfl) isL_nil) (index_ed hed (p1 x hx) q2)⟩))) ?_))))
  refine cMax_ix (by simp) fun m1 hm1 => gv ?_
  -- the wide one
  obtain ⟨m2, hm2, e2⟩ : ∃ m2, IsMx (ixT l) [ringB g s, ringL g n] m2 ∧ (if ((ixT l (ringB g s) : Nat) : Int) > ((ixT l (ringL g n) : Nat) : Int) then ((ixT l (ringB g s) : Nat) : Int) else ((ixT l (ringL g n) : Nat) : Int)) = (m2 : Int) := by
    by_cases h : ixT l (ringB g s) > ixT l (ringL g n)
    · exact ⟨ixT l (ringB g s), ⟨⟨_, by simp, rfl⟩, fun x hx => by simp at hx; rcases hx with rfl | rfl <;> omega⟩, if_pos (by omega)⟩
    · exact ⟨ixT l (ringL g n), ⟨⟨_, by simp, rfl⟩, fun x hx => by simp at hx; rcases hx with rfl | rfl <;> omega⟩, if_neg (by omega)⟩
  have ringd : dat 64 (.lst (l ++ [.v .non])) = true := by
    rw [dat_lst]; intro t ht
    rcases List.mem_append.mp ht with ht | ht
    · obtain ⟨a, b, w, rfl⟩ := hed t ht
      simp [ed, dat_tup]
    · simp at ht; subst ht; simp [dat]
  have hany : ((l ++ [T.v .non]).any fun z => eqT z (ringL g n)) = true := by
    rw [List.any_eq_true]
    exact ⟨_, List.mem_append.mpr (.inl mL), eqT_ed.mpr ⟨rfl, rfl, rfl⟩⟩
  dsimp only
  refine sq ?_
  refine (ifTailI (i := 10) (fun k => (k = m1 ∨ (s = n ∧ k = m2)) ∧ k ≤ m1 ∧ (s = n → k ≤ m2)) ?_ fun tail => ?_)
  rotate_left
  · refine ifIs (isT_and (isT_b (is_in (x := ringL g n) (is_tup (isL_cons (is_ix (is_v rfl) is_c rfl x0) (isL_cons (is_ix (is_v rfl) (is_neg is_c) rfl xl) (isL_cons is_c (isL_cons is_c isL_nil)))) (by simp)) (is_v rfl) dat_ed ringd)) (isT_b (is_eq (is_v rfl) (is_v rfl) (by simp) (by simp)))) (fun hp => ?_) (fun hp => ?_)
    · simp only [Bool.and_eq_true] at hp
      have hsn' : s = n := by have := hp.2; simp at this; omega
      refine sq (asgIs (is_int2 (is_v rfl) (is_int2 (is_idx (x := .lst (l ++ [.v .non])) (y := ringL g n) (is_v rfl) (is_tup (isL_cons (is_ix (is_v rfl) is_c rfl x0) (isL_cons (is_ix (is_v rfl) (is_neg is_c) rfl xl) (isL_cons is_c (isL_cons is_c isL_nil)))) (by simp)) (fun _ => tyLst_x) (fun S Q q => index_ed hed mL q)) (is_idx (x := .lst (l ++ [.v .non])) (y := ringB g s) (is_v rfl) (is_v rfl) (fun _ => tyLst_x) (fun S Q q => index_ed hed mB q)))) ?_)
      refine nxt ?_
      rw [e2, List.set_set]
      have e3 : (if (m2 : Int) < (m1 : Int) then (m2 : Int) else (m1 : Int)) = ((min m1 m2 : Nat) : Int) := by split <;> omega
      rw [e3]
      exact tail _ ⟨by omega, by omega, fun _ => by omega⟩
    · have hsn' : s ≠ n := fun e => by
        subst e
        simp [hany] at hp
      exact tail m1 ⟨.inl rfl, Nat.le_refl _, fun e => absurd e hsn'⟩
  intro m hm
  simp only [List.set_cons_zero, List.set_cons_succ]
  refine sq ?_
  refine (ifTail2 (i := 10) (j := 11) (fun k => Ring (l ++ [.v .non]) k ∧ k < l.length ∧ ∀ i, i < k → ¬ Ring (l ++ [.v .non]) i) ?_ fun tail => ?_)
  rotate_left
  · refine ifIs (isT_b (is_i0 (is_v rfl) is_c)) (fun hp => ?_) (fun hp => ?_)
    · have hs3 : 3 ≤ s := by simp at hp; omega
      refine sq (asgIs (x := .lst ([ringB g s, ringS g] ++ cutG (lineT g 0 (n - 1)) (some ((2 : Nat) : Int)) (some ((s : Int) - 1)))) (is_cat (is_lst (isL_cons (is_v rfl) (isL_cons (is_tup (isL_cons (is_ix (is_v rfl) is_c rfl x0) (isL_cons (is_ix (is_v rfl) is_c rfl x2) (isL_cons is_c (isL_cons is_c isL_nil)))) (by simp)) isL_nil)) (by simp)) (is_slB (is_v rfl) is_c (is_i0 (is_v rfl) is_c)) (by rw [hs1, cutG_b]; simp; omega)) ?_)
      rw [hs1, cutG_b, lineT_drop, lineT_take (by omega), show 0 + 2 = 2 from rfl, show s - 1 - 2 = s - 3 by omega]
      have p3 : ∀ x ∈ ringB g s :: ringS g :: lineT g 2 (s - 3), x ∈ l := fun x hx => by
        rcases List.mem_cons.mp hx with rfl | hx
        · exact mB
        · rcases List.mem_cons.mp hx with rfl | hx
          · exact mS
          · exact mT _ _ (by omega) x hx
      refine sq (asg (cInt2x (is_v rfl) (cmaxI (dcons1 (is_lc (ts := ringB g s :: ringS g :: lineT g 2 (s - 3)) (is_v rfl) rfl (fun x => .int (ixT l x : Nat)) (by simp; omega) hJ.closed' (fun x hx S2 Ky q2 => gv (bm (dvr rfl ⟨tyLst_x, ctL (xs := [x]) (isL_cons (is_v rfl) isL_nil) (index_ed hed (p3 x hx) q2)⟩))) ?_)))))
      refine cMax_ix (by simp) fun m3 hm3 => ⟨_, _, rfl, gv (nxt ?_)⟩
      have e3 : (if (m3 : Int) < (m : Int) then (m3 : Int) else (m : Int)) = ((min m m3 : Nat) : Int) := by split <;> omega
      dsimp only
      rw [e3]
      refine tail _ _ (ring_first RR hI hm1 hm2 hm3 ?_ ?_ ?_ ?_)
      · rcases hm.1 with h | h
        · rcases Nat.le_total m m3 with h2 | h2
          · exact .inl (by omega)
          · exact .inr (.inr ⟨hs3, by omega⟩)
        · rcases Nat.le_total m m3 with h2 | h2
          · exact .inr (.inl ⟨h.1, by omega⟩)
          · exact .inr (.inr ⟨hs3, by omega⟩)
      · have := hm.2.1; omega
      · intro e; have := hm.2.2 e; omega
      · intro e; omega
    · have hs3 : ¬ 3 ≤ s := by simp at hp; omega
      obtain ⟨m3, hm3⟩ := isMx_ex (ix := ixT l) (xs := ringB g s :: ringS g :: lineT g 2 (s - 3)) (by simp)
      refine tail none m (ring_first RR hI hm1 hm2 hm3 ?_ hm.2.1 hm.2.2 fun e => absurd e hs3)
      rcases hm.1 with h | h
      · exact .inl h
      · exact .inr (.inl h)
  intro d k hk
  simp only [List.set_cons_zero, List.set_cons_succ]
  have rg : ∀ i, i < n → 0 ≤ g i ∧ g i < n := fun i hi => by
    have := ho.mem_iff.mp (List.getElem_mem (l := o) (n := i) (by omega))
    have e := go i hi
    rw [List.getElem?_map, List.getElem?_eq_getElem (by omega)] at e
    have e : o[i] = g i := by simpa using e
    rw [e] at this
    obtain ⟨k, hk, hke⟩ := List.mem_map.mp this
    have := List.mem_range.mp hk
    omega
  have isR : ∀ x ∈ l, isRoad x n = true := fun x hx => by
    rcases (RR.mem x).mp hx with rfl | rfl | rfl | ⟨i, hi, rfl⟩
    · exact isRoad_ed (rg _ (by omega)) (rg _ (by omega)) (fun e => by have := RR.inj _ _ (by omega) (by omega) e; omega) (by decide)
    · exact isRoad_ed (rg _ (by omega)) (rg _ (by omega)) (fun e => by have := RR.inj _ _ (by omega) (by omega) e; omega) (by decide)
    · exact isRoad_ed (rg _ (by omega)) (rg _ (by omega)) (fun e => by have := RR.inj _ _ (by omega) (by omega) e; omega) (by decide)
    · exact isRoad_ed (rg _ (by omega)) (rg _ (by omega)) (fun e => by have := RR.inj _ _ (by omega) (by omega) e; omega) (by decide)
  have hbad : ∀ t, RoadsTold n (.lst (l ++ [.v .non])) t → t = .int k := by
    refine told_at rfl ?_ fun i hi ⟨r, hr, h⟩ => ?_
    · obtain ⟨r, hr, h⟩ := hk.1
      exact ⟨r, hr, .inr ⟨r, hr, h⟩⟩
    · rcases h with h | h
      · rw [List.getElem?_append_left (by omega)] at hr
        rw [isR _ (List.mem_of_getElem? hr)] at h; cases h
      · exact hk.2.2 i hi h
  have hokT : okT (Cs A) (.lst (l ++ [.v .non])) = true := by
    rw [okT_lst]
    intro t ht
    rcases List.mem_append.mp ht with ht | ht
    · obtain ⟨a, b, w, rfl⟩ := hed t ht
      exact okT_ed
    · simp at ht; subst ht; simp [okT, tyT]
  have d1 : dat 64 (.tup [.str "roads", .int k]) = true := dat_told strOk_w.1
  refine sq (ifx (dbx (dop (ev_badr hX hJ (is_v rfl) (is_v rfl) is_c (by omega) hokT (fun xs e => by cases e; simp; omega) hbad fun c2 hJ2 => neIf (y := .tup [.str "roads", .int k]) (is_tup (isL_cons is_c (isL_cons (is_v rfl) isL_nil)) (by simp)) d1 d1 (by simp) (nxt ?_)))))
  refine sq (asg (is_lc (ts := l) (is_slT (is_v rfl) (is_neg is_c)) (by rw [cutG_init]; rfl) (fL [.int (g (s - 1)), .int (g 0), .int 0, .int 5]) (by omega) hJ2.closed' (fun x hx S2 Ky q2 => ?_) (gv ?_)))
  · obtain ⟨a', b', w, rfl⟩ := hed x hx
    exact gtup rfl (gcons (gv (gcons (gv (gcons (gv (gcons (gv (gnil (ev1 (long_x (c := g (s - 1)) (d := g 0) rfl rfl rfl rfl rfl) q2))))))))))
  obtain ⟨rs2, hrs2, hok2⟩ := roads_up ho hg (us := l.map (fL [.int (g (s - 1)), .int (g 0), .int 0, .int 5])) fun t ht => by
    obtain ⟨x, hx, rfl⟩ := List.mem_map.mp ht
    rcases (RR.mem x).mp hx with rfl | rfl | rfl | ⟨i, hi, rfl⟩
    · refine ⟨s - 1, 0, 1, 5, ?_, by omega, by omega, by omega, by omega, by omega, fun e => by omega⟩
      simp [fL, ed, cut2]
    · exact ⟨0, n - 1, if _ then 1 else 0, 2, rfl, by omega, by omega, by omega, by split <;> omega, by omega, fun _ => by omega⟩
    · exact ⟨0, 2, if _ then 1 else 0, 1, rfl, by omega, by omega, by omega, by split <;> omega, by omega, fun _ => by omega⟩
    · exact ⟨i, i + 1, if _ then 1 else 0, 1, rfl, by omega, by omega, by omega, by split <;> omega, by omega, fun _ => by omega⟩
  have hl2 : rs2.length = l.length := by have := congrArg List.length hrs2; simpa using this.symm
  rw [hrs2]
  refine sq (rts (dop (ev_made (p := (n : Int)) (rs := rs2) (dr := []) hJ2 ⟨by omega, hok2, noD, by omega, by simp⟩ (is_v rfl) (is_v rfl) (is_lst isL_nil (by simp)) fun c3 hJ3 => eqOn (y := toldT) (is_tup (isL_cons is_c (isL_cons is_c isL_nil)) (by simp)) told1 told1 ?_)))
  rw [told2]
  subst hR1
  refine rTree_t (S0 := st b5 R) ?_ (st_closed hc) (q b5 (by omega))
  rw [List.append_assoc, List.append_assoc]
  exact st_take_app (by simp)
/-! law (_law_script) slots: 0=_law_script 1=_law_stream_here 2=_law_odd 3=_law_found 4=_law_held 5=_law_turn 6=_law_many 7=_law_roads 8=_law_doors 9=_law_at 10=_law_sort 11=_law_place 12=_law_hour 13=_law_both -/
abbrev N_law : List Str := ["_law_script", "_law_stream_here", "_law_odd", "_law_found", "_law_held", "_law_turn", "_law_many", "_law_roads", "_law_doors", "_law_at", "_law_sort", "_law_place", "_law_hour", "_law_both"]
abbrev ps_law : List Str := ["_law_script"]
def rd_law (A : Str → Addr) : TSD :=
 sSeq (sFor (iSeq (dTup (dCons (dC .non) (dCons (dC (.int 0)) (dCons (dUn (uI fun i => .int (-i)) (dC (.int 1))) (dCons (dC (.bl true)) (dCons (dC (.bl false)) (dCons (dC (.str "3")) (dCons (dLst (dCons (dC (.int 3)) (dNil))) (dCons (dTup (dCons (dC (.int 2)) (dNil))) (dCons (dDct0) (dCons (dOp (oI0 fun i j => .int (i - j)) (dC (.int 0)) (dOp (oI CPowW fun i j => .int (i ^ j.toNat)) (dC (.int 10)) (dC (.int 30)))) (dNil))))))))))))) (gVar 2)
 (sSeq (sAsg (dTried (Xs A) "told" (cl_law_met A) false (dMake (A "House") 4 (ft_House_init A) (dCons (dVar 2) (dCons (dC .non) (dCons (dC .non) (dNil)))))) (gVar 3))
 (sSeq (sIf (dOrT (dB (dOp oNe (dOp oIx (dVar 3) (dC (.int 0))) (dC (.str "places")))) (dNotT (dB (dRO 2 (ft_law_same A) (dCons (dOp oIx (dVar 3) (dC (.int 1))) (dCons (dVar 2) (dNil)))))))
 (sSeq (sRet (dC (.bl false)))
 (sNext))
 (sNext))
 (sNext))))
 (sSeq (sAsg (dLstM (dCons (dC (.str "x")) (dNil))) (gVar 4))
 (sSeq (sAsg (dTried (Xs A) "told" (cl_law_met A) false (dMake (A "House") 4 (ft_House_init A) (dCons (dVar 4) (dCons (dLst (dNil)) (dCons (dLst (dNil)) (dNil)))))) (gVar 3))
 (sSeq (sDrop (dBM tyLst mAppend (dVar 4) (dCons (dC (.str "late")) (dNil))))
 (sSeq (sIf (dNotT (dB (dRO 2 (ft_law_same A) (dCons (dVar 3) (dCons (dTup (dCons (dC (.str "places")) (dCons (dLst (dCons (dC (.str "x")) (dCons (dC (.str "late")) (dNil)))) (dNil)))) (dNil))))))
 (sSeq (sRet (dC (.bl false)))
 (sNext))
 (sNext))
 (sSeq (sFor (iRange1 (dCons (dC (.int 4)) (dNil))) (gVar 5)
 (sSeq (sAsg (dCall 4 (ft_law_house A) (dCons (dVar 1) (dCons (dC (.int 6)) (dCons (dC (.int 8)) (dCons (dC (.int 5)) (dNil)))))) (gTupD 3 (gConsD (gVar 6) (gConsD (gVar 7) (gConsD (gVar 8) (gNilD))))))
 (sSeq (sFor (iSeq (dTup (dCons (dC .non) (dCons (dC (.int 5)) (dCons (dC (.str "ab")) (dCons (dDct0) (dCons (dC (.bl true)) (dNil)))))))) (gVar 2)
 (sSeq (sAsg (dLstM (dCons (dTried (Xs A) "told" (cl_law_met A) false (dMake (A "House") 4 (ft_House_init A) (dCons (dVar 6) (dCons (dVar 2) (dCons (dC .non) (dNil)))))) (dNil))) (gVar 3))
 (sSeq (sDrop (dBM tyLst mAppend (dVar 3) (dCons (dTried (Xs A) "told" (cl_law_met A) false (dMake (A "House") 4 (ft_House_init A) (dCons (dVar 6) (dCons (dVar 7) (dCons (dVar 2) (dNil)))))) (dNil))))
 (sSeq (sIf (dNotT (dB (dRO 2 (ft_law_same A) (dCons (dVar 3) (dCons (dLst (dCons (dTup (dCons (dC (.str "roads")) (dCons (dC (.int 0)) (dNil)))) (dCons (dTup (dCons (dC (.str "doors")) (dCons (dC (.int 0)) (dNil)))) (dNil)))) (dNil))))))
 (sSeq (sRet (dC (.bl false)))
 (sNext))
 (sNext))
 (sNext)))))
 (sSeq (sAsg (dCall 2 (ft_law_draw A) (dCons (dVar 1) (dCons (dOp oAdd (dCB cLen (dCons (dVar 7) (dNil))) (dC (.int 1))) (dNil)))) (gVar 9))
 (sSeq (sFor (iSeq (dCall 1 (ft_law_no_roads A) (dCons (dVar 6) (dNil)))) (gVar 2)
 (sSeq (sIf (dNotT (dB (dRO 2 (ft_law_same A) (dCons (dTried (Xs A) "told" (cl_law_met A) false (dMake (A "House") 4 (ft_House_init A) (dCons (dVar 6) (dCons (dOp oAdd (dOp oAdd (dOp oAdd (dSl (dVar 7) (dNoPart) (dPart (dVar 9))) (dLst (dCons (dVar 2) (dNil)))) (dSl (dVar 7) (dPart (dVar 9)) (dNoPart))) (dLst (dCons (dC .non) (dNil)))) (dCons (dC (.int 5)) (dNil)))))) (dCons (dTup (dCons (dC (.str "roads")) (dCons (dVar 9) (dNil)))) (dNil))))))
 (sSeq (sRet (dC (.bl false)))
 (sNext))
 (sNext))
 (sNext)))
 (sSeq (sAsg (dCall 2 (ft_law_draw A) (dCons (dVar 1) (dCons (dOp oAdd (dCB cLen (dCons (dVar 8) (dNil))) (dC (.int 1))) (dNil)))) (gVar 9))
 (sSeq (sFor (iSeq (dCall 1 (ft_law_no_doors A) (dCons (dVar 6) (dNil)))) (gVar 2)
 (sSeq (sIf (dNotT (dB (dRO 2 (ft_law_same A) (dCons (dTried (Xs A) "told" (cl_law_met A) false (dMake (A "House") 4 (ft_House_init A) (dCons (dVar 6) (dCons (dVar 7) (dCons (dOp oAdd (dOp oAdd (dOp oAdd (dSl (dVar 8) (dNoPart) (dPart (dVar 9))) (dLst (dCons (dVar 2) (dNil)))) (dSl (dVar 8) (dPart (dVar 9)) (dNoPart))) (dLst (dCons (dC .non) (dNil)))) (dNil)))))) (dCons (dTup (dCons (dC (.str "doors")) (dCons (dVar 9) (dNil)))) (dNil))))))
 (sSeq (sRet (dC (.bl false)))
 (sNext))
 (sNext))
 (sNext)))
 (sSeq (sAsg (dCall 2 (ft_law_pick A) (dCons (dVar 1) (dCons (dVar 8) (dNil)))) (gTupD 3 (gConsD (gVar 10) (gConsD (gVar 11) (gConsD (gVar 12) (gNilD))))))
 (sSeq (sAsg (dOp oAdd (dVar 8) (dLst (dCons (dTup (dCons (dIf (dB (dOp oEq (dVar 10) (dC (.str "in")))) (dC (.str "out")) (dC (.str "in"))) (dCons (dVar 11) (dCons (dCall 2 (ft_law_pick A) (dCons (dVar 1) (dCons (dLst (dCons (dVar 12) (dCons (dOp oAdd (dVar 12) (dC (.int 1))) (dCons (dC (.int 0)) (dNil))))) (dNil)))) (dNil))))) (dCons (dC .non) (dNil))))) (gVar 13))
 (sSeq (sIf (dNotT (dB (dRO 2 (ft_law_same A) (dCons (dTried (Xs A) "told" (cl_law_met A) false (dMake (A "House") 4 (ft_House_init A) (dCons (dVar 6) (dCons (dVar 7) (dCons (dVar 13) (dNil)))))) (dCons (dTup (dCons (dC (.str "doors")) (dCons (dCB cLen (dCons (dVar 8) (dNil))) (dNil)))) (dNil))))))
 (sSeq (sRet (dC (.bl false)))
 (sNext))
 (sNext))
 (sSeq (sIf (dOrT (dNotT (dB (dCall 1 (ft_law_rings_right A) (dCons (dVar 1) (dNil))))) (dB (dOp oNe (dTried (Xs A) "told" (cl_law_met A) false (dMake (A "House") 4 (ft_House_init A) (dCons (dVar 6) (dCons (dVar 7) (dCons (dVar 8) (dNil)))))) (dTup (dCons (dC (.str "told")) (dCons (dC .non) (dNil)))))))
 (sSeq (sRet (dC (.bl false)))
 (sNext))
 (sNext))
 (sNext))))))))))))
 (sSeq (sRet (dC (.bl true)))
 (sNext)))))))
/-! small steps of the law -/
def IsD (te : TED) (d : D) (ρ : Env) : Prop := ∀ (X : XQ) (S : Store) (Q : D → Store → Prop), Q d S → te X ρ S Q
theorem isD_v {ρ : Env} {i : Nat} {d : D} (h : ρ[i]? = some (some d)) : IsD (dVar i) d ρ := fun X S Q q => by rw [dVar_e]; exact ⟨_, h, q⟩
section
variable {ρ : Env} {X : XQ} {S : Store} {De : DEnds} {a c : TED} {x y : T} {d : D}
theorem isT_of {tt : TTD} {p q : Bool} (e : p = q) (h : IsT tt p ρ) : IsT tt q ρ := e ▸ h
theorem orF {t u : TTD} {Q : Bool → Store → Prop} (h : IsT t false ρ) (q : u X ρ S Q) : dOrT t u X ρ S Q := h X S _ q
theorem ntx {t : TTD} {Q : Bool → Store → Prop} (q : t X ρ S fun b S1 => Q (!b) S1) : dNotT t X ρ S Q := q
theorem ntIf {P P2 : Prop} (q : P2) : if (!true) = true then P else P2 := q
theorem dconsx {a : TED} {r : TAD} {Q : List D → Store → Prop} (q : a X ρ S fun d S1 => r X ρ S1 fun ds S2 => Q (d :: ds) S2) : dCons a r X ρ S Q := q
theorem rox {A : Str → Addr} {t : TAD} {Q : D → Store → Prop} (q : t X ρ S fun ds S1 => ds.length = 2 ∧ AllFz S1 ∧ ∃ ts, trees S1 ds = some ts ∧ ft_law_same A (ts.map .t) (frzS S1) (fun d S2 => S2 = frzS S1 ∧ ∃ v, d = .t (.v v) ∧ Q d S1) fun _ => False) : dRO 2 (ft_law_same A) t X ρ S Q := q
/-- the second of two, the first at hand -/
theorem roSame {A : Str → Addr} {b : Nat} {R : Store} {P P2 : Store → Prop} (hR : Jk R) (ht : D.tree (st b R) d = some x) (h : Is c x ρ) (hs : sd 4 x = true) (q : P2 (st b R)) :
    dCons c dNil X ρ (st b R) fun xs S2 => (d :: xs).length = 2 ∧ AllFz S2 ∧ ∃ ts, trees S2 (d :: xs) = some ts ∧ ft_law_same A (ts.map .t) (frzS S2) (fun d S3 => S3 = frzS S2 ∧ ∃ v, d = .t (.v v) ∧ ∃ p, d = .bl p ∧ (if (!p) = true then P S2 else P2 S2)) fun _ => False := by
  refine h X _ _ ⟨rfl, hR.allFz, [x, x], ?_, x, x, rfl, hs, by decide, rfl, rfl, _, rfl, true, rfl, q⟩
  show trees _ [d, .t x] = _
  simp [trees, ht, tree_t]
end
theorem RoadBad_pre {p : Int} {xs ys : List T} {i : Nat} (h : xs.take (i + 1) = ys.take (i + 1)) (b : RoadBad p xs i) : RoadBad p ys i := by
  have e1 : ∀ zs : List T, (zs.take (i + 1))[i]? = zs[i]? := fun zs => List.getElem?_take_of_lt (Nat.lt_succ_self _)
  have e2 : ∀ zs : List T, (zs.take (i + 1)).take i = zs.take i := fun zs => by rw [List.take_take, Nat.min_eq_left (Nat.le_succ _)]
  have e3 : xs[i]? = ys[i]? := by rw [← e1 xs, ← e1 ys, h]
  have e4 : xs.take i = ys.take i := by rw [← e2 xs, ← e2 ys, h]
  obtain ⟨r, hr, hb⟩ := b
  refine ⟨r, by rw [← e3]; exact hr, ?_⟩
  rcases hb with hb | ⟨r2, h2, h3, h4⟩
  · exact .inl hb
  · exact .inr ⟨r2, by rw [← e3]; exact h2, h3, by rw [← e4]; exact h4⟩
theorem DoorBad_pre {p : Int} {xs ys : List T} {i : Nat} (h : xs.take (i + 1) = ys.take (i + 1)) (b : DoorBad p xs i) : DoorBad p ys i := by
  have e1 : ∀ zs : List T, (zs.take (i + 1))[i]? = zs[i]? := fun zs => List.getElem?_take_of_lt (Nat.lt_succ_self _)
  have e2 : ∀ zs : List T, (zs.take (i + 1)).take i = zs.take i := fun zs => by rw [List.take_take, Nat.min_eq_left (Nat.le_succ _)]
  have e3 : xs[i]? = ys[i]? := by rw [← e1 xs, ← e1 ys, h]
  have e4 : xs.take i = ys.take i := by rw [← e2 xs, ← e2 ys, h]
  obtain ⟨r, hr, hb⟩ := b
  refine ⟨r, by rw [← e3]; exact hr, ?_⟩
  rcases hb with hb | ⟨r2, h2, o, h3, h4⟩
  · exact .inl hb
  · exact .inr ⟨r2, by rw [← e3]; exact h2, o, by rw [← e4]; exact h3, h4⟩
/-- a list with an odd thing in it -/
def oddIn (xs : List T) (a : Nat) (x : T) : List T := xs.take a ++ [x] ++ xs.drop a ++ [.v .non]
theorem oddIn_at {xs : List T} {a : Nat} {x : T} (h : a ≤ xs.length) : (oddIn xs a x)[a]? = some x := by
  unfold oddIn
  rw [List.append_assoc, List.append_assoc, List.getElem?_append_right (by simp; omega)]
  simp [Nat.min_eq_left h]
theorem oddIn_pre {xs : List T} {a i : Nat} {x : T} (hi : i < a) (h : a ≤ xs.length) : (oddIn xs a x).take (i + 1) = xs.take (i + 1) := by
  unfold oddIn
  rw [List.append_assoc, List.append_assoc, List.take_append_of_le_length (by simp; omega), List.take_take, Nat.min_eq_left (by omega)]
theorem oddIn_ok {Cs : List Addr} {xs : List T} {a : Nat} {x : T} (h : ∀ t ∈ xs, okT Cs t = true) (hx : okT Cs x = true) : okT Cs (.lst (oddIn xs a x)) = true := by
  rw [okT_lst]
  intro t ht
  unfold oddIn at ht
  rcases List.mem_append.mp ht with ht | ht
  · rcases List.mem_append.mp ht with ht | ht
    · rcases List.mem_append.mp ht with ht | ht
      · exact h t (List.mem_of_mem_take ht)
      · simp at ht; subst ht; exact hx
    · exact h t (List.mem_of_mem_drop ht)
  · simp at ht; subst ht; simp [okT, tyT]
theorem oddIn_len {xs : List T} {a : Nat} {x : T} : (oddIn xs a x).length ≤ xs.length + xs.length + 2 := by
  unfold oddIn; simp; omega
theorem oddIn_told {p : Int} {rs : List (List T)} {a : Nat} {x : T} (hg : RoadsOk p rs) (h : a ≤ rs.length) (hx : isRoad x p = false) : ∀ t, RoadsTold p (.lst (oddIn (rs.map .tup) a x)) t → t = .int a := by
  refine told_at rfl ⟨x, oddIn_at (by simpa using h), .inl hx⟩ fun i hi hb => ?_
  exact hg.good i (by omega) (RoadBad_pre (oddIn_pre hi (by simpa using h)) hb)
theorem oddIn_toldD {p : Int} {rs : List (List T)} {a : Nat} {x : T} (hg : DoorsOk p rs) (h : a ≤ rs.length) (hx : isDoor x p = false) : ∀ t, DoorsTold p (.lst (oddIn (rs.map .tup) a x)) t → t = .int a := by
  refine toldD_at rfl ⟨x, oddIn_at (by simpa using h), .inl hx⟩ fun i hi hb => ?_
  exact hg.good i (by omega) (DoorBad_pre (oddIn_pre hi (by simpa using h)) hb)
theorem rows_ok {Cs : List Addr} {rs : List (List T)} (h : ∀ r ∈ rs, ∀ t ∈ r, plainT t = true) : ∀ t ∈ rs.map T.tup, okT Cs t = true := by
  intro t ht
  obtain ⟨r, hr, rfl⟩ := List.mem_map.mp ht
  rw [okT_tup]
  intro t ht
  have := h r hr t ht
  cases t with
  | v x => cases x <;> simp [plainT] at this <;> simp [okT, tyT]
  | _ => simp [plainT] at this
theorem is_odd {ρ : Env} {e1 e2 e3 : TED} {xs : List T} {a : Nat} {x : T} (h1 : Is e1 (.lst xs) ρ) (h2 : Is e2 (.int a) ρ) (h3 : Is e3 x ρ) (hl : xs.length ≤ 1000) :
    Is (dOp oAdd (dOp oAdd (dOp oAdd (dSl e1 dNoPart (dPart e2)) (dLst (dCons e3 dNil))) (dSl e1 (dPart e2) dNoPart)) (dLst (dCons (dC .non) dNil))) (.lst (oddIn xs a x)) ρ := by
  have := is_cat (is_cat (is_cat (is_slT h1 h2) (is_lst (isL_cons h3 isL_nil) (by simp)) (by simp; omega)) (is_slF h1 h2) (by simp; omega)) (is_lst (isL_cons (is_c (v := .non)) isL_nil) (by simp)) (by simp; omega)
  rw [cutG_to, cutG_from] at this
  exact this
theorem ev_held {A : Str → Addr} {ρ : Env} {X : XQ} {b j : Nat} {R : Store} {Q : D → Store → Prop} {e1 e2 e3 : TED} {ts : List T} {y z : T} (hX : (Xs A).Nodup) (hR : Jk R) (hj : R[j]? = some (.lst (ts.map .t))) (h1 : IsD e1 (.m (j + 2)) ρ) (h2 : Is e2 y ρ) (h3 : Is e3 z ρ)
    (q : Q (.m (R.length + 3)) (st b (R ++ [.ins (A "House") [], .tup [.t (.str "places"), .m (j + 2)]]))) :
    dTried (Xs A) "told" (cl_law_met A) false (dMake (A "House") 4 (ft_House_init A) (dCons e1 (dCons e2 (dCons e3 dNil)))) X ρ (st b R) Q := by
  have key : mkD (A "House") 4 (ft_House_init A) [.m (j + 2), .t y, .t z] (fun e S' => e.1 ∈ Xs A ∧ hndD (cl_law_met A) e S' Q) (st b R) (fun d S' => mkTup [.t (.v (.str "told")), if false = true then d else .non] S' Q) := by
    refine mk_house hR (ask_places (x := .lst ts) (tree_lst (S := st b R) (i := j + 2) hj (asTs_map ts)) ⟨_, rfl, fun C e => by cases e⟩ rfl ⟨by simp [Xs], ?_⟩)
    unfold cl_law_met hndD
    rw [if_pos rfl]
    refine ⟨_, rfl, .inr ?_⟩
    have e : st b (R ++ [.ins (A "House") []]) ++ [.tup [.t (.str "places"), .m (j + 2)]] = st b (R ++ [.ins (A "House") [], .tup [.t (.str "places"), .m (j + 2)]]) := by
      show st b (R ++ [.ins (A "House") []] ++ [.tup [.t (.str "places"), .m (j + 2)]]) = _
      rw [List.append_assoc]; rfl
    have e2 : (st b (R ++ [.ins (A "House") []])).length = R.length + 3 := by
      show (R ++ [Cell.ins (A "House") []]).length + 1 + 1 = _
      simp
    show Q (.m (st b (R ++ [.ins (A "House") []])).length) (st b (R ++ [.ins (A "House") []]) ++ [.tup [.t (.str "places"), .m (j + 2)]])
    rw [e, e2]; exact q
  exact h1 _ _ _ (h2 _ _ _ (h3 _ _ _ key))
theorem dlstx {ta : TAD} {X : XQ} {ρ : Env} {S : Store} {Q : D → Store → Prop} (q : ta X ρ S fun ds S1 => ds.length ≤ sizeLine ∧ ∃ ts, asTs ds = some ts ∧ Q (.t (.lst ts)) S1) : dLst ta X ρ S Q := q
theorem dtupx {ta : TAD} {X : XQ} {ρ : Env} {S : Store} {Q : D → Store → Prop} (q : ta X ρ S fun ds S1 => ds.length ≤ sizeLine ∧ ∃ ts, asTs ds = some ts ∧ Q (.t (.tup ts)) S1) : dTup ta X ρ S Q := q
theorem set_app {α : Type} {xs ys : List α} {j : Nat} {c : α} : (xs ++ ys).set (xs.length + j) c = xs ++ ys.set j c := by simp [List.set_append]
theorem orx {t u : TTD} {X : XQ} {ρ : Env} {S : Store} {Q : Bool → Store → Prop} (q : t X ρ S fun b S1 => if b = true then Q true S1 else u X ρ S1 Q) : dOrT t u X ρ S Q := q
theorem clash_told {p : Int} {dr : List (List T)} {s s' : Str} {pl h k : Int} (hg : DoorsOk p dr) (hm : [T.str s, .int pl, .int h] ∈ dr) (hne : s ≠ s') :
    ∀ t, DoorsTold p (.lst (dr.map .tup ++ [.tup [.str s', .int pl, .int k], .v .non])) t → t = .int ((dr.map T.tup).length : Nat) := by
  have hget : (dr.map T.tup ++ [.tup [.str s', .int pl, .int k], .v .non])[(dr.map T.tup).length]? = some (.tup [.str s', .int pl, .int k]) := by
    rw [List.getElem?_append_right (Nat.le_refl _)]; simp
  refine toldD_at rfl ⟨_, hget, .inr ⟨_, hget, .tup [.str s, .int pl, .int h], ?_, ?_, ?_⟩⟩ fun i hi hb => ?_
  · rw [List.take_left' rfl]
    exact List.mem_map_of_mem hm
  · rw [drOf_e (t := .tup [.str s, .int pl, .int h]) rfl, drOf_e (t := .tup [.str s', .int pl, .int k]) rfl]
  · rw [drOf_e (t := .tup [.str s, .int pl, .int h]) rfl, drOf_e (t := .tup [.str s', .int pl, .int k]) rfl]
    exact hne
  · refine hg.good i (by simpa using hi) (DoorBad_pre ?_ hb)
    rw [List.take_append_of_le_length hi]
theorem lstx {ta : TAD} {X : XQ} {ρ : Env} {S : Store} {Q : D → Store → Prop} (q : ta X ρ S fun ds S1 => ds.length ≤ sizeLine ∧ Q (.m S1.length) (S1 ++ [.lst ds])) : dLstM ta X ρ S Q := q
def odds1 : List T := [.v .non, .int 0, .int (-1), .v (.bl true), .v (.bl false), .str "3", .lst [.int 3], .tup [.int 2], .dct [], .int (0 - 10 ^ (30 : Int).toNat)]
theorem odds1_ok : ∀ x ∈ odds1, sd 4 x = true ∧ isPos x = false := by
  have h1 : PyData.strOk "3" = true := by decide +kernel
  intro x hx
  simp only [odds1, List.mem_cons, List.not_mem_nil, or_false] at hx
  rcases hx with rfl | rfl | rfl | rfl | rfl | rfl | rfl | rfl | rfl | rfl
  all_goals refine ⟨?_, ?_⟩
  all_goals first | rfl | (simp [sd, sds, sdk, h1]; done) | decide +kernel
def odds2 : List T := [.v .non, .int 5, .str "ab", .dct [], .v (.bl true)]
theorem odds2_ok : ∀ x ∈ odds2, seqOf x = none ∧ ∀ Cs, okT Cs x = true := by
  intro x hx
  simp only [odds2, List.mem_cons, List.not_mem_nil, or_false] at hx
  rcases hx with rfl | rfl | rfl | rfl | rfl
  all_goals exact ⟨rfl, fun Cs => by simp [okT, okKs, tyT]⟩
def I_1 (B i : Nat) (ρ' : Env) (S' : Store) : Prop := i ≤ 100 ∧ ∃ (R : Store) (o2 o3 : Option D), S' = st B R ∧ Jk R ∧ ρ' = [none, some (.m 1), o2, o3, none, none, none, none, none, none, none, none, none, none]
def I_o (b : Nat) (tl : List (Option D)) (i : Nat) (ρ' : Env) (S' : Store) : Prop := i ≤ 100 ∧ ∃ (R : Store) (o2 o3 : Option D), S' = st b R ∧ Jk R ∧ ρ' = none :: some (.m 1) :: o2 :: o3 :: tl
def I_t (B i : Nat) (ρ' : Env) (S' : Store) : Prop := ∃ (b : Nat) (R : Store) (o2 o3 o4 o5 o6 o7 o8 o9 o10 o11 o12 o13 : Option D), S' = st b R ∧ Jk R ∧ B ≤ b + 100000 * i ∧ ρ' = [none, some (.m 1), o2, o3, o4, o5, o6, o7, o8, o9, o10, o11, o12, o13]
theorem places_told {x : T} : (!eqT (.str "places") (.str "places")) = false := by simp [eqT, eqV]
theorem sd_told {w : Str} {k : Int} (h : PyData.strOk w = true) : sd 4 (.tup [.str w, .int k]) = true := by
  simp [sd, sds, dat, h]
theorem math_law (A : Str → Addr) : (Xs A).Nodup → ∀ (Qd : D → Store → Prop) (Ed : Ex → Prop), (∀ S, Qd (.bl true) S) → rd_law A (endsOf .raw strm0 Qd Ed) (startL 14) strm0 := by
  intro hX Q E q
  have e0 : strm0 = st (2 ^ 39) [] := rfl
  have e1 : startL 14 = [none, some (.m 1), none, none, none, none, none, none, none, none, none, none, none, none] := rfl
  rw [e1]
  generalize hD : endsOf Mode.raw strm0 Q E = De
  rw [e0]
  have hB : (2 : Nat) ^ 39 = 549755813888 := by decide
  generalize hb : (2 : Nat) ^ 39 = B at hB ⊢
  clear hb
  have hpow : CPowW 10 30 := ⟨by decide, by decide +kernel⟩
  have dw : dat 64 (.str "places") = true := by rw [dat_str]; exact strOk_w.2.2
  unfold rd_law
  refine sq (forx (iseq (x := .tup odds1) (is_tup (isL_cons is_c (isL_cons is_c (isL_cons (is_neg is_c) (isL_cons is_c (isL_cons is_c (isL_cons is_c (isL_cons (is_lst (isL_cons is_c isL_nil) (by simp)) (isL_cons (is_tup (isL_cons is_c isL_nil) (by simp)) (isL_cons is_dct0 (isL_cons (is_i0 is_c (is_i is_c is_c hpow)) isL_nil)))))))))) (by decide)) rfl fun it hit => for_T2 hit (I_1 B) ⟨by decide, [], none, none, rfl, Jk.nil, rfl⟩ ?_ ?_))
  · rintro i x ρ' S' De' hDe hx ⟨_, R, o2, o3, rfl, hR, rfl⟩
    obtain ⟨hsd, hpos⟩ := odds1_ok x (List.mem_of_getElem? hx)
    have hi := (List.getElem?_eq_some_iff.mp hx).1
    refine gv (sq (asg (ev_badp hX hR (is_v rfl) is_c is_c (sd_ok1 hsd) hpos fun c hJ => gv (sq (ifx (orF (isT_of (places_told (x := x)) (isT_b (is_ne (is_ix (z := .str "places") (is_v rfl) is_c rfl (by rw [atI_0]; rfl)) is_c dw dw))) (ntx (dbx (rox (dconsx (ev1 (is_ix (z := x) (is_v rfl) is_c rfl (by rw [atI_1]; rfl)) (roSame hJ tree_t (is_v rfl) hsd (nxt (nxt ?_))))))))))))))
    show De'.nx _ _
    rw [hDe]
    exact ⟨by simp [odds1] at hi; omega, _, _, _, rfl, hJ, rfl⟩
  · rintro ρ' S' ⟨_, R0, o2, o3, rfl, hR0, rfl⟩
    refine sq (asg (is_lstM (xs := [.str "x"]) (isL_cons is_c isL_nil) (by simp) (gv ?_)))
    have s1 : st B R0 ++ [.lst ([T.str "x"].map .t)] = st B (R0 ++ [.lst ([T.str "x"].map .t)]) := rfl
    have s2 : (st B R0).length = R0.length + 2 := rfl
    have j1 : Jk (R0 ++ [.lst ([T.str "x"].map .t)]) := hR0.lst
    rw [s1, s2]
    refine sq (asg (ev_held (j := R0.length) (ts := [.str "x"]) hX j1 (by simp) (isD_v rfl) (is_lst isL_nil (by simp)) (is_lst isL_nil (by simp)) (gv ?_)))
    have e3 : R0 ++ [Cell.lst ([T.str "x"].map .t)] ++ [.ins (A "House") [], .tup [.t (.str "places"), .m (R0.length + 2)]] = R0 ++ [.lst ([T.str "x"].map .t), .ins (A "House") [], .tup [.t (.str "places"), .m (R0.length + 2)]] := by simp
    have e4 : (R0 ++ [Cell.lst ([T.str "x"].map .t)]).length + 3 = R0.length + 4 := by simp
    rw [e3, e4]
    have g1 : (st B (R0 ++ [.lst ([T.str "x"].map .t), .ins (A "House") [], .tup [.t (.str "places"), .m (R0.length + 2)]]))[R0.length + 2]? = some (.lst ([T.str "x"].map .t)) := by rw [st_get]; simp
    refine sq (drp (bm (dvr rfl ⟨tyLst_m g1, ctL (xs := [.str "late"]) (isL_cons is_c isL_nil) (append_of g1 (by decide) ?_)⟩)))
    have e5 : (st B (R0 ++ [.lst ([T.str "x"].map .t), .ins (A "House") [], .tup [.t (.str "places"), .m (R0.length + 2)]])).set (R0.length + 2) (.lst ([T.str "x"].map .t ++ [.t (.str "late")])) = st B (R0 ++ [.lst ([T.str "x", .str "late"].map .t), .ins (A "House") [], .tup [.t (.str "places"), .m (R0.length + 2)]]) := by
      rw [st_set]; simp [List.set_append]
    rw [e5]
    have j2 : Jk (R0 ++ [.lst ([T.str "x", .str "late"].map .t), .ins (A "House") [], .tup [.t (.str "places"), .m (R0.length + 2)]]) := by
      have := ((hR0.lst (ts := [.str "x", .str "late"])).ins0 (C := A "House")).one (c := .tup [.t (.str "places"), .m (R0.length + 2)]) rfl fun d hd => by
        have hd : d ∈ [D.t (.str "places"), .m (R0.length + 2)] := hd
        simp only [List.mem_cons, List.not_mem_nil, or_false] at hd
        rcases hd with rfl | rfl
        · exact .inl ⟨_, rfl⟩
        · exact .inr ⟨_, rfl, by omega, by simp⟩
      simpa using this
    have t1 : D.tree (st B (R0 ++ [.lst ([T.str "x", .str "late"].map .t), .ins (A "House") [], .tup [.t (.str "places"), .m (R0.length + 2)]])) (.m (R0.length + 4)) = some (.tup [.str "places", .lst [.str "x", .str "late"]]) := by
      refine tree_tup2 (j := R0.length + 2) ?_ ?_
      · rw [show R0.length + 4 = (R0.length + 2) + 2 from rfl, st_get]; simp
      · rw [st_get]; simp
    generalize hR3 : R0 ++ [Cell.lst ([T.str "x", .str "late"].map .t), .ins (A "House") [], .tup [.t (.str "places"), .m (R0.length + 2)]] = R3 at j2 t1 ⊢
    have sx : sd 4 (.tup [.str "places", .lst [.str "x", .str "late"]]) = true := by
      have h1 : PyData.strOk "x" = true := by decide +kernel
      have h2 : PyData.strOk "late" = true := by decide +kernel
      simp [sd, sds, dat, h1, h2, strOk_w.2.2]
    refine sq (ifx (ntx (dbx (rox (dconsx (dvr rfl (roSame j2 t1 (is_tup (isL_cons is_c (isL_cons (is_lst (isL_cons is_c (isL_cons is_c isL_nil)) (by simp)) isL_nil)) (by simp)) sx (nxt ?_))))))))
    clear t1 e5 g1 e4 e3 s1 s2 j1 hit hR3
    simp only [List.set_cons_zero, List.set_cons_succ]
    refine sq ?_
    refine forx ?_
    refine ⟨4, rfl, by decide, by decide, for_T2 dInts_T (I_t B) ⟨B, R3, _, _, _, _, _, _, _, _, _, _, _, _, rfl, j2, by omega, rfl⟩ ?_ ?_⟩
    · rintro i x ρ' S' De' hDe hx ⟨b, R, o2, o3, o4, o5, o6, o7, o8, o9, o10, o11, o12, o13, rfl, hR, hb1, rfl⟩
      have hi : i < 4 := by have := (List.getElem?_eq_some_iff.mp hx).1; simpa using this
      refine gv (sq (asg ?_))
      refine ⟨_, rfl, rfl, b, R, 6, 8, 5, rfl, rfl, by unfold costH; omega, by omega, by omega, by omega, by omega, by omega, by omega, fun many rs dr b1 hm1 hm2 hro hdo hr1 hr2 hd1 hd2 hb2 => ?_⟩
      have hc : costH = 20000 := rfl
      refine gtup rfl (gcons (gv (gcons (gv (gcons (gv (gnil ?_)))))))
      simp only [List.set_cons_zero, List.set_cons_succ]
      have hp : 1 ≤ many := by omega
      have hg : GoodH many rs dr := ⟨hp, hro, hdo, by omega, by omega⟩
      obtain ⟨rk, hrow⟩ := id hro
      obtain ⟨P, P2, hP, hP2, hPP, hdoor⟩ := id hdo
      have okR : ∀ Cs, ∀ t ∈ rs.map T.tup, okT Cs t = true := fun Cs => rows_ok fun r hr => (hrow r hr).plain
      have okD : ∀ Cs, ∀ t ∈ dr.map T.tup, okT Cs t = true := fun Cs => rows_ok fun r hr => (hdoor r hr).plain
      refine sq ?_
      refine forx ?_
      refine iseq (x := .tup odds2) (is_tup (isL_cons is_c (isL_cons is_c (isL_cons is_c (isL_cons is_dct0 (isL_cons is_c isL_nil))))) (by decide)) rfl fun it2 hit2 => ?_
      refine for_T2 hit2 (I_o b1 [o4, some (.t x), some (.t (.int many)), some (.t (.lst (rs.map .tup))), some (.t (.lst (dr.map .tup))), o9, o10, o11, o12, o13]) ⟨by decide, R, _, _, rfl, hR, rfl⟩ ?_ ?_
      · rintro j y ρ2 S2 De2 hDe2 hy ⟨_, R1, p2, p3, rfl, hR1, rfl⟩
        have hj := (List.getElem?_eq_some_iff.mp hy).1
        obtain ⟨hso, hok⟩ := odds2_ok y (List.mem_of_getElem? hy)
        refine gv (sq (asg (lstx (dconsx (ev_badr hX hR1 (is_v rfl) (is_v rfl) is_c hp (hok _) (fun xs e => by rw [hso] at e; cases e) (told_no hso) fun c hJ => ⟨by decide, gv ?_⟩)))))
        have s1 : st b1 (R1 ++ [c]) ++ [.lst [.t (.tup [.str "roads", .int 0])]] = st b1 (R1 ++ [c, .lst ([T.tup [.str "roads", .int 0]].map .t)]) := by
          show st b1 (R1 ++ [c] ++ [.lst [.t (.tup [.str "roads", .int 0])]]) = _
          rw [List.append_assoc]; rfl
        have s2 : (st b1 (R1 ++ [c])).length = R1.length + 3 := by
          show (R1 ++ [c]).length + 1 + 1 = _
          simp
        have j1 : Jk (R1 ++ [c, .lst ([T.tup [.str "roads", .int 0]].map .t)]) := by
          have := hJ.lst (ts := [T.tup [.str "roads", .int 0]])
          rwa [List.append_assoc] at this
        rw [s2, s1]
        have g1 : (st b1 (R1 ++ [c, .lst ([T.tup [.str "roads", .int 0]].map .t)]))[R1.length + 3]? = some (.lst ([T.tup [.str "roads", .int 0]].map .t)) := by
          rw [show R1.length + 3 = (R1.length + 1) + 2 from rfl, st_get, List.getElem?_append_right (by omega)]; simp
        refine sq (drp (bm (dvr rfl ⟨tyLst_m g1, dcons1 (ev_badd hX j1 (is_v rfl) (is_v rfl) (is_v rfl) hp hro (by omega) (hok _) (fun xs e => by rw [hso] at e; cases e) (toldD_no hso) fun c2 hJ2 => ?_)⟩)))
        have g2 : (st b1 (R1 ++ [c, .lst ([T.tup [.str "roads", .int 0]].map .t)] ++ [c2]))[R1.length + 3]? = some (.lst ([T.tup [.str "roads", .int 0]].map .t)) := by
          rw [show R1.length + 3 = (R1.length + 1) + 2 from rfl, st_get, List.append_assoc, List.getElem?_append_right (by omega)]; simp
        refine append_of (y := .t (.tup [.str "doors", .int 0])) g2 (by decide) ?_
        have s3 : (st b1 (R1 ++ [c, .lst ([T.tup [.str "roads", .int 0]].map .t)] ++ [c2])).set (R1.length + 3) (.lst ([T.tup [.str "roads", .int 0]].map .t ++ [.t (.tup [.str "doors", .int 0])])) = st b1 (R1 ++ [c, .lst ([T.tup [.str "roads", .int 0], .tup [.str "doors", .int 0]].map .t), c2]) := by
          rw [show R1.length + 3 = (R1.length + 1) + 2 from rfl, st_set, List.append_assoc, set_app]; simp
        have j2 : Jk (R1 ++ [c, .lst ([T.tup [.str "roads", .int 0], .tup [.str "doors", .int 0]].map .t), c2]) := by
          have := hJ2.setLst (i := R1.length + 1) (ts := [T.tup [.str "roads", .int 0], .tup [.str "doors", .int 0]])
          rw [List.append_assoc, set_app] at this
          simpa using this
        rw [s3]
        have t1 : D.tree (st b1 (R1 ++ [c, .lst ([T.tup [.str "roads", .int 0], .tup [.str "doors", .int 0]].map .t), c2])) (.m (R1.length + 3)) = some (.lst [.tup [.str "roads", .int 0], .tup [.str "doors", .int 0]]) := by
          refine tree_lst ?_ (asTs_map _)
          rw [show R1.length + 3 = (R1.length + 1) + 2 from rfl, st_get, List.getElem?_append_right (by omega)]; simp
        have sx : sd 4 (.lst [.tup [.str "roads", .int 0], .tup [.str "doors", .int 0]]) = true := by
          simp [sd, sds, dat, strOk_w.1, strOk_w.2.1]
        refine sq (ifx (ntx (dbx (rox (dconsx (dvr rfl (roSame j2 t1 (is_lst (isL_cons (is_tup (isL_cons is_c (isL_cons is_c isL_nil)) (by simp)) (isL_cons (is_tup (isL_cons is_c (isL_cons is_c isL_nil)) (by simp)) isL_nil)) (by simp)) sx (nxt (nxt ?_)))))))))
        show De2.nx _ _
        rw [hDe2]
        exact ⟨by simp [odds2] at hj; omega, _, _, _, rfl, j2, rfl⟩
      · rintro ρ2 S2 ⟨_, R1, p2, p3, rfl, hR1, rfl⟩
        simp only [List.set_cons_zero, List.set_cons_succ]
        refine sq ?_
        refine asg (ev_draw (i := 1) rfl (is_add (is_len (is_v rfl) rfl) is_c) (by omega) (by simp; omega) (by omega) fun k b2 hk1 hk2 hb3 => gv ?_)
        obtain ⟨a, rfl⟩ : ∃ a : Nat, k = (a : Int) := ⟨k.toNat, by omega⟩
        have ha : a ≤ rs.length := by simp at hk2; omega
        simp only [List.set_cons_zero, List.set_cons_succ]
        have isRows : ∀ ρ : Env, ρ[6]? = some (some (.t (.int many))) → Is (dCall 1 (ft_law_no_roads A) (dCons (dVar 6) dNil)) (.lst (badRows many)) ρ := fun ρ h X S Q q => ⟨_, h, rfl, many, rfl, q⟩
        have isDrs : ∀ ρ : Env, ρ[6]? = some (some (.t (.int many))) → Is (dCall 1 (ft_law_no_doors A) (dCons (dVar 6) dNil)) (.lst (badDrs many)) ρ := fun ρ h X S Q q => ⟨_, h, rfl, many, rfl, q⟩
        refine sq ?_
        refine forx ?_
        refine iseq (x := .lst (badRows many)) (isRows _ rfl) rfl fun it3 hit3 => ?_
        refine for_T2 hit3 (I_o b2 [o4, some (.t x), some (.t (.int many)), some (.t (.lst (rs.map .tup))), some (.t (.lst (dr.map .tup))), some (.t (.int a)), o10, o11, o12, o13]) ⟨by decide, R1, _, _, rfl, hR1, rfl⟩ ?_ ?_
        · rintro j y ρ2 S2 De3 hDe3 hy ⟨_, R2, p2, p3, rfl, hR2, rfl⟩
          have hj := (List.getElem?_eq_some_iff.mp hy).1
          obtain ⟨hso, hok⟩ := badRows_bad (Cs := Cs A) y (List.mem_of_getElem? hy)
          refine gv (sq (ifx (ntx (dbx (rox (dconsx (ev_badr hX hR2 (is_v rfl) (is_odd (xs := rs.map .tup) (a := a) (x := y) (is_v rfl) (is_v rfl) (is_v rfl) (by simp; omega)) is_c hp (oddIn_ok (okR _) hok) (fun xs e => by cases e; have := oddIn_len (xs := rs.map .tup) (a := a) (x := y); simp at this; omega) (oddIn_told hro ha hso) fun c hJ => roSame hJ tree_t (is_tup (isL_cons is_c (isL_cons (is_v rfl) isL_nil)) (by simp)) (sd_told strOk_w.1) (nxt (nxt ?_)))))))))
          show De3.nx _ _
          rw [hDe3]
          exact ⟨by simp [badRows, badRows1, badRows2, badRows3, badRows4] at hj; omega, _, _, _, rfl, hJ, rfl⟩
        · rintro ρ2 S2 ⟨_, R2, p2, p3, rfl, hR2, rfl⟩
          simp only [List.set_cons_zero, List.set_cons_succ]
          refine sq ?_
          refine asg (ev_draw (i := 1) rfl (is_add (is_len (is_v rfl) rfl) is_c) (by omega) (by simp; omega) (by omega) fun k b3 hk3 hk4 hb4 => gv ?_)
          obtain ⟨e, rfl⟩ : ∃ e : Nat, k = (e : Int) := ⟨k.toNat, by omega⟩
          have he : e ≤ dr.length := by simp at hk4; omega
          simp only [List.set_cons_zero, List.set_cons_succ]
          refine sq ?_
          refine forx ?_
          refine iseq (x := .lst (badDrs many)) (isDrs _ rfl) rfl fun it4 hit4 => ?_
          refine for_T2 hit4 (I_o b3 [o4, some (.t x), some (.t (.int many)), some (.t (.lst (rs.map .tup))), some (.t (.lst (dr.map .tup))), some (.t (.int e)), o10, o11, o12, o13]) ⟨by decide, R2, _, _, rfl, hR2, rfl⟩ ?_ ?_
          · rintro j y ρ2 S2 De3 hDe3 hy ⟨_, R3, p2, p3, rfl, hR3, rfl⟩
            have hj := (List.getElem?_eq_some_iff.mp hy).1
            obtain ⟨hso, hok⟩ := badDrs_bad (Cs := Cs A) y (List.mem_of_getElem? hy)
            refine gv (sq (ifx (ntx (dbx (rox (dconsx (ev_badd hX hR3 (is_v rfl) (is_v rfl) (is_odd (xs := dr.map .tup) (a := e) (x := y) (is_v rfl) (is_v rfl) (is_v rfl) (by simp; omega)) hp hro (by omega) (oddIn_ok (okD _) hok) (fun xs e' => by cases e'; have := oddIn_len (xs := dr.map .tup) (a := e) (x := y); simp at this; omega) (oddIn_toldD hdo he hso) fun c hJ => roSame hJ tree_t (is_tup (isL_cons is_c (isL_cons (is_v rfl) isL_nil)) (by simp)) (sd_told strOk_w.2.1) (nxt (nxt ?_)))))))))
            show De3.nx _ _
            rw [hDe3]
            exact ⟨by simp [badDrs, badDrs1, badDrs2, badDrs3, badDrs4] at hj; omega, _, _, _, rfl, hJ, rfl⟩
          · rintro ρ2 S2 ⟨_, R3, p2, p3, rfl, hR3, rfl⟩
            simp only [List.set_cons_zero, List.set_cons_succ]
            refine sq ?_
            refine asg (ev_pick (i := 1) (ts := dr.map .tup) rfl (is_v rfl) rfl (by omega) (by simp; omega) (by simp; omega) fun t ht b4 hb5 => ?_)
            obtain ⟨r, hr, rfl⟩ := List.mem_map.mp ht
            obtain ⟨s, pl, h, rfl, hs, hh⟩ := hdoor r hr
            refine gtup rfl (gcons (gv (gcons (gv (gcons (gv (gnil ?_)))))))
            simp only [List.set_cons_zero, List.set_cons_succ]
            have ds : dat 64 (.str s) = true := by
              rw [dat_str]; rcases hs with ⟨rfl, _⟩ | ⟨rfl, _⟩
              · exact strOk_in
              · exact strOk_out
            have di : dat 64 (.str "in") = true := by rw [dat_str]; exact strOk_in
            have ns : ∃ s', (if eqT (.str s) (.str "in") = true then T.str "out" else .str "in") = .str s' ∧ s ≠ s' := by
              have hne : ¬ (("out" : Str) = "in") := by decide +kernel
              rcases hs with ⟨rfl, _⟩ | ⟨rfl, _⟩
              · exact ⟨"out", by simp [eqT, eqV], fun e => hne e.symm⟩
              · exact ⟨"in", by rw [if_neg (by simp [eqT, eqV, hne])], hne⟩
            obtain ⟨s', hs', hne⟩ := ns
            refine sq ?_
            refine asg (dop (ev1 (is_v rfl) ?_))
            refine dlstx (dconsx (dtupx (dconsx (ev1 (is_if (z := .str s') (isT_b (is_eq (x := .str s) (y := .str "in") (is_v rfl) is_c ds di)) (fun h => by rw [← hs', if_pos h]; exact is_c) (fun h => by rw [← hs', if_neg (by rw [h]; decide)]; exact is_c)) (dconsx (ev1 (is_v rfl) (dcons1 (ev_pick (i := 1) (ts := [.int h, .int (h + 1), .int 0]) rfl (is_lst (isL_cons (is_v rfl) (isL_cons (is_add (is_v rfl) is_c) (isL_cons is_c isL_nil))) (by simp)) rfl (by omega) (by simp) (by simp) fun t ht b5 hb6 => ?_))))))))
            refine ⟨Nat.le_trans (by simp) le_100000, [.str s', .int pl, t], rfl, ?_⟩
            refine ⟨Nat.le_trans (by simp) le_100000, [.tup [.str s', .int pl, t], .v .non], rfl, ?_⟩
            rw [oAdd_ll]
            refine ⟨by simp; show dr.length + 2 ≤ sizeLine; exact Nat.le_trans (by omega) le_100000, gv ?_⟩
            simp only [List.set_cons_zero, List.set_cons_succ]
            obtain ⟨k, rfl⟩ : ∃ k : Int, t = .int k := by
              simp only [List.mem_cons, List.not_mem_nil, or_false] at ht
              rcases ht with rfl | rfl | rfl <;> exact ⟨_, rfl⟩
            have hokb : okT (Cs A) (.lst (dr.map .tup ++ [.tup [.str s', .int pl, .int k], .v .non])) = true := by
              rw [okT_lst]
              intro t ht
              rcases List.mem_append.mp ht with ht | ht
              · exact okD _ t ht
              · simp only [List.mem_cons, List.not_mem_nil, or_false] at ht
                rcases ht with rfl | rfl
                · simp [okT, okTs, tyT]
                · simp [okT, tyT]
            refine sq ?_
            refine ifx (ntx (dbx (rox (dconsx (ev_badd hX hR3 (is_v rfl) (is_v rfl) (is_v rfl) hp hro (by omega) hokb (fun xs e => by cases e; simp; omega) (clash_told hdo hr hne) fun c hJ => roSame hJ tree_t (is_tup (isL_cons is_c (isL_cons (is_len (is_v rfl) rfl) isL_nil)) (by simp)) (sd_told strOk_w.2.1) (nxt ?_))))))
            dsimp only
            refine sq ?_
            refine ifx (orx (ntx (dbx ?_)))
            refine ⟨_, rfl, rfl, b5, _, rfl, rfl, hJ, by omega, fun b6 hb7 => ⟨true, rfl, ?_⟩⟩
            refine ntIf (dbx (dop (ev_made hJ hg (is_v rfl) (is_v rfl) (is_v rfl) fun c2 hJ2 => neIf (y := toldT) (is_tup (isL_cons is_c (isL_cons is_c isL_nil)) (by simp)) told1 told1 told2 (nxt (nxt ?_)))))
            show De'.nx _ _
            rw [hDe]
            exact ⟨b6, _, _, _, _, _, _, _, _, _, _, _, _, _, rfl, hJ2, by omega, rfl⟩
    · rintro ρ' S' ⟨b, R, o2, o3, o4, o5, o6, o7, o8, o9, o10, o11, o12, o13, rfl, hR, hb, rfl⟩
      dsimp only
      refine sq (rts ?_)
      subst hD
      exact q _
end DL
set_option Elab.async false
set_option linter.all false
set_option maxRecDepth 100000
set_option maxHeartbeats 0
namespace DL
open PySem PySem.Spec PyProof.Rows L2
def top (i : Nat) : Stmt := PySem.Challenge.pw_lastbell_k02_houses_refused.main.body.getD i (.Pass ⟨0, 0, 0, 0⟩)
section
variable {CT : TTs} {P : Program} {w : World} {K : PySem.W.Frag} {mg : Str → Option Value} {base : Heap} {A : Str → Addr}
theorem passN2 {X : Cx} {A : Around} {outer : List PySem.Env} {s : Shared} {H : Hp} {E : XK} {scope : Scope} {f c' : Addr} : Passes (L2.CX (LamX.lamCx X A outer s H E scope f c').prog (LamX.lamCx X A outer s H E scope f c').w) (LamX.lamCx X A outer s H E scope f c') E := @passN X A outer s H E scope f c'
abbrev st_is_integer : Stmt := (top 1)
theorem sc_is_integer : FnScope N_is_integer ps_is_integer (defScope st_is_integer) := ⟨rfl, rfl, rfl, by decide +kernel, rfl, by decide +kernel, by decide +kernel⟩
theorem ok_is_integer (B : Bs mg) (hOK : OwnOk K (Cs A)) {f : Addr} {fd : FuncData} (F : L2.Fun K "is_integer" "is_integer" st_is_integer f fd) : FnOk P w K mg base (L2.CX P w) 1 f fd ps_is_integer (spD CT 1 (ft_is_integer A)) :=
 DL.Fun.okD F sc_is_integer (m := .raw) (math_is_integer A) fun cdv A' outer s H E hr => by
  have nd := (sc_is_integer).nd
  exact dss_cons (ds_ret (de_and (de_B ((call_isi.or call_isiT)) (br_isi hOK) B.isinstance bo_isinstance (da_cons (de_v 0) (da_cons (de_ty B.int bo_int) (da_nil)))) (de_one (de_not (de_B ((call_isi.or call_isiT)) (br_isi hOK) B.isinstance bo_isinstance (da_cons (de_v 0) (da_cons (de_ty B.bool bo_bool) (da_nil))))))))
    (dss_nil)
abbrev st_is_number : Stmt := (top 2)
theorem sc_is_number : FnScope N_is_number ps_is_number (defScope st_is_number) := ⟨rfl, rfl, rfl, by decide +kernel, rfl, by decide +kernel, by decide +kernel⟩
theorem ok_is_number (G_is_integer : FnG CT P w K mg base 1 "is_integer" ps_is_integer (ft_is_integer A)) {f : Addr} {fd : FuncData} (F : L2.Fun K "is_number" "is_number" st_is_number f fd) : FnOk P w K mg base (L2.CX P w) 2 f fd ps_is_number (spD CT 1 (ft_is_number A)) :=
 DL.Fun.okD F sc_is_number (m := .raw) (math_is_number A) fun cdv A' outer s H E hr => by
  have nd := (sc_is_number).nd
  exact dss_cons (ds_ret (de_and (de_G (k := 1) (ps := ps_is_integer) G_is_integer (hr.mono (by decide)) passM (da_cons (de_v 0) (da_nil))) (de_one (de_cmp op_ge br_I0 (de_v 0) (de_int) (nomark _)))))
    (dss_nil)
abbrev st_is_positive : Stmt := (top 3)
theorem sc_is_positive : FnScope N_is_positive ps_is_positive (defScope st_is_positive) := ⟨rfl, rfl, rfl, by decide +kernel, rfl, by decide +kernel, by decide +kernel⟩
theorem ok_is_positive (G_is_integer : FnG CT P w K mg base 1 "is_integer" ps_is_integer (ft_is_integer A)) {f : Addr} {fd : FuncData} (F : L2.Fun K "is_positive" "is_positive" st_is_positive f fd) : FnOk P w K mg base (L2.CX P w) 2 f fd ps_is_positive (spD CT 1 (ft_is_positive A)) :=
 DL.Fun.okD F sc_is_positive (m := .raw) (math_is_positive A) fun cdv A' outer s H E hr => by
  have nd := (sc_is_positive).nd
  exact dss_cons (ds_ret (de_and (de_G (k := 1) (ps := ps_is_integer) G_is_integer (hr.mono (by decide)) passM (da_cons (de_v 0) (da_nil))) (de_one (de_cmp op_ge br_I0 (de_v 0) (de_int) (nomark _)))))
    (dss_nil)
abbrev st_is_list : Stmt := (top 4)
theorem sc_is_list : FnScope N_is_list ps_is_list (defScope st_is_list) := ⟨rfl, rfl, rfl, by decide +kernel, rfl, by decide +kernel, by decide +kernel⟩
theorem ok_is_list (B : Bs mg) (hOK : OwnOk K (Cs A)) {f : Addr} {fd : FuncData} (F : L2.Fun K "is_list" "is_list" st_is_list f fd) : FnOk P w K mg base (L2.CX P w) 1 f fd ps_is_list (spD CT 1 (ft_is_list A)) :=
 DL.Fun.okD F sc_is_list (m := .raw) (math_is_list A) fun cdv A' outer s H E hr => by
  have nd := (sc_is_list).nd
  exact dss_cons (ds_ret (de_B ((call_isi.or call_isiT)) (br_isi hOK) B.isinstance bo_isinstance (da_cons (de_v 0) (da_cons (de_tup (da_cons (de_ty B.list bo_list) (da_cons (de_ty B.tuple bo_tuple) (da_nil)))) (da_nil)))))
    (dss_nil)
abbrev st_BadPlaces_init : Stmt := (inClass (top 7) 0)
theorem sc_BadPlaces_init : FnScope N_BadPlaces_init ps_BadPlaces_init (defScope st_BadPlaces_init) := ⟨rfl, rfl, rfl, by decide +kernel, rfl, by decide +kernel, by decide +kernel⟩
theorem ok_BadPlaces_init {f : Addr} {fd : FuncData} (F : L2.Fun K "__init__" "BadPlaces.__init__" st_BadPlaces_init f fd) : FnOk P w K mg base (L2.CX P w) 1 f fd ps_BadPlaces_init (spInit1 K "places") :=
  F.okX sc_BadPlaces_init (fun vs H Q E ⟨a, C, y, e, _⟩ => by rw [e]; rfl) fun cdv A' outer s H vs Q E hr h => ⟨_, pss_cons (ps_ost (pv 0) (pv 1)) pss_nil, init1_pure h⟩
abbrev st_BadRoads_init : Stmt := (inClass (top 8) 0)
theorem sc_BadRoads_init : FnScope N_BadRoads_init ps_BadRoads_init (defScope st_BadRoads_init) := ⟨rfl, rfl, rfl, by decide +kernel, rfl, by decide +kernel, by decide +kernel⟩
theorem ok_BadRoads_init {f : Addr} {fd : FuncData} (F : L2.Fun K "__init__" "BadRoads.__init__" st_BadRoads_init f fd) : FnOk P w K mg base (L2.CX P w) 1 f fd ps_BadRoads_init (spInit1 K "index") :=
  F.okX sc_BadRoads_init (fun vs H Q E ⟨a, C, y, e, _⟩ => by rw [e]; rfl) fun cdv A' outer s H vs Q E hr h => ⟨_, pss_cons (ps_ost (pv 0) (pv 1)) pss_nil, init1_pure h⟩
abbrev st_BadDoors_init : Stmt := (inClass (top 9) 0)
theorem sc_BadDoors_init : FnScope N_BadDoors_init ps_BadDoors_init (defScope st_BadDoors_init) := ⟨rfl, rfl, rfl, by decide +kernel, rfl, by decide +kernel, by decide +kernel⟩
theorem ok_BadDoors_init {f : Addr} {fd : FuncData} (F : L2.Fun K "__init__" "BadDoors.__init__" st_BadDoors_init f fd) : FnOk P w K mg base (L2.CX P w) 1 f fd ps_BadDoors_init (spInit1 K "index") :=
  F.okX sc_BadDoors_init (fun vs H Q E ⟨a, C, y, e, _⟩ => by rw [e]; rfl) fun cdv A' outer s H vs Q E hr h => ⟨_, pss_cons (ps_ost (pv 0) (pv 1)) pss_nil, init1_pure h⟩
abbrev st_is_place : Stmt := (top 11)
theorem sc_is_place : FnScope N_is_place ps_is_place (defScope st_is_place) := ⟨rfl, rfl, rfl, by decide +kernel, rfl, by decide +kernel, by decide +kernel⟩
theorem ok_is_place (G_is_number : FnG CT P w K mg base 2 "is_number" ps_is_number (ft_is_number A)) {f : Addr} {fd : FuncData} (F : L2.Fun K "is_place" "is_place" st_is_place f fd) : FnOk P w K mg base (L2.CX P w) 3 f fd ps_is_place (spD CT 2 (ft_is_place A)) :=
 DL.Fun.okD F sc_is_place (m := .raw) (math_is_place A) fun cdv A' outer s H E hr => by
  have nd := (sc_is_place).nd
  exact dss_cons (ds_ret (de_and (de_G (k := 2) (ps := ps_is_number) G_is_number (hr.mono (by decide)) passM (da_cons (de_v 0) (da_nil))) (de_one (de_cmp op_lt br_I0 (de_v 0) (de_v 1) (nomark _)))))
    (dss_nil)
abbrev st_is_road : Stmt := (top 12)
theorem sc_is_road : FnScope N_is_road ps_is_road (defScope st_is_road) := ⟨rfl, rfl, rfl, by decide +kernel, rfl, by decide +kernel, by decide +kernel⟩
theorem ok_is_road (G_is_list : FnG CT P w K mg base 1 "is_list" ps_is_list (ft_is_list A)) (B : Bs mg) (G_is_place : FnG CT P w K mg base 3 "is_place" ps_is_place (ft_is_place A)) (G_is_number : FnG CT P w K mg base 2 "is_number" ps_is_number (ft_is_number A)) (G_is_positive : FnG CT P w K mg base 2 "is_positive" ps_is_positive (ft_is_positive A)) {f : Addr} {fd : FuncData} (F : L2.Fun K "is_road" "is_road" st_is_road f fd) : FnOk P w K mg base (L2.CX P w) 4 f fd ps_is_road (spD CT 2 (ft_is_road A)) :=
 DL.Fun.okD F sc_is_road (m := .raw) (math_is_road A) fun cdv A' outer s H E hr => by
  have nd := (sc_is_road).nd
  exact dss_cons (ds_if (DW.dt (dw_or (dt_not (dt_val (de_G (k := 1) (ps := ps_is_list) G_is_list (hr.mono (by decide)) passM (da_cons (de_v 0) (da_nil))))) (dw_or (dt_cmp (op_neD (Room.units hr)) br_ne (de_B (call_len) br_len B.len bo_len (da_cons (de_v 0) (da_nil))) (de_int) (nomark _)) (dw_or (dt_not (dt_val (de_G (k := 3) (ps := ps_is_place) G_is_place (hr.mono (by decide)) passM (da_cons (de_ix (de_v 0) (de_int)) (da_cons (de_v 1) (da_nil)))))) (dw_or1 (dt_not (dt_val (de_G (k := 3) (ps := ps_is_place) G_is_place (hr.mono (by decide)) passM (da_cons (de_ix (de_v 0) (de_int)) (da_cons (de_v 1) (da_nil)))))))))))
    (dss_cons (ds_ret (de_bool))
    (dss_nil))
    (dss_nil))
    (dss_cons (ds_ret (de_and (de_cmp (op_neD (Room.units hr)) br_ne (de_ix (de_v 0) (de_int)) (de_ix (de_v 0) (de_int)) (nomark _)) (de_and (de_G (k := 2) (ps := ps_is_number) G_is_number (hr.mono (by decide)) passM (da_cons (de_ix (de_v 0) (de_int)) (da_nil))) (de_one (de_G (k := 2) (ps := ps_is_positive) G_is_positive (hr.mono (by decide)) passM (da_cons (de_ix (de_v 0) (de_int)) (da_nil)))))))
    (dss_nil))
abbrev st_at_once : Stmt := (top 13)
theorem sc_at_once : FnScope N_at_once ps_at_once (defScope st_at_once) := ⟨rfl, rfl, rfl, by decide +kernel, rfl, by decide +kernel, by decide +kernel⟩
theorem ok_at_once  {f : Addr} {fd : FuncData} (F : L2.Fun K "at_once" "at_once" st_at_once f fd) : FnOk P w K mg base (L2.CX P w) 1 f fd ps_at_once (spD CT 2 (ft_at_once A)) :=
 DL.Fun.okD F sc_at_once (m := .raw) (math_at_once A) fun cdv A' outer s H E hr => by
  have nd := (sc_at_once).nd
  exact dss_cons (ds_asg (ps_asg (DE.pe (de_tup (da_cons (de_lst (da_cons (de_v 1) (da_nil))) (da_cons (de_bool) (da_nil))))) (DG.pg (dg_tup rfl (dgs_cons (dg_name (pg_name (i := 2) nd rfl (by first | exact .inl rfl | exact .inr rfl))) (dgs_cons (dg_name (pg_name (i := 3) nd rfl (by first | exact .inl rfl | exact .inr rfl))) (dgs_nil)))))))
    (dss_cons (ds_while (passes_of rfl) (dt_val (de_v 3))
    (dss_cons (ds_setLc (ps_setLc (i := 4) (own := [("road", 5)]) rfl nd rfl rfl (sw_true rfl rfl rfl (by decide +kernel)) (DI.pi (di_seq (de_v 0))) (blkOk_by (N := N_at_once) (sc := defScope st_at_once) (by decide +kernel)) (fun _ _ _ _ _ => DGw.pg (dgw_name (pg_name (i := 5) nd rfl (by first | exact .inl rfl | exact .inr rfl)))) (fun _ _ _ _ _ => DTs.pts (dts_one (DW.dt (dw_and (dt_cmp (op_eqD (Room.units hr)) br_eq (de_ix (de_v 5) (de_int)) (de_int) (nomark _)) (dw_and (dt_cmp (op_inA (hu65 hr)) br_in (de_ix (de_v 5) (de_int)) (de_v 2) (by with_unfolding_all rfl)) (dw_and1 (dt_cmp (op_notInA (hu65 hr)) br_notIn (de_ix (de_v 5) (de_int)) (de_v 2) (by with_unfolding_all rfl)))))))) (fun _ _ _ _ _ => DE.pe (de_ix (de_v 5) (de_int)))))
    (dss_cons (ds_asg (ps_asg (DE.pe (de_tup (da_cons (de_op op_addA br_add (de_v 2) (de_sl (de_v 4) (do_none) (do_some (de_int)))) (da_cons (de_cmp (op_neD (Room.units hr)) br_ne (de_v 4) (de_lst (da_nil)) (nomark _)) (da_nil))))) (DG.pg (dg_tup rfl (dgs_cons (dg_name (pg_name (i := 2) nd rfl (by first | exact .inl rfl | exact .inr rfl))) (dgs_cons (dg_name (pg_name (i := 3) nd rfl (by first | exact .inl rfl | exact .inr rfl))) (dgs_nil)))))))
    (dss_nil))))
    (dss_cons (ds_ret (de_v 2))
    (dss_nil)))
abbrev st_bad_road : Stmt := (top 14)
theorem sc_bad_road : FnScope N_bad_road ps_bad_road (defScope st_bad_road) := ⟨rfl, rfl, rfl, by decide +kernel, rfl, by decide +kernel, by decide +kernel⟩
theorem ok_bad_road (G_is_list : FnG CT P w K mg base 1 "is_list" ps_is_list (ft_is_list A)) (B : Bs mg) (G_is_road : FnG CT P w K mg base 4 "is_road" ps_is_road (ft_is_road A)) (G_at_once : FnG CT P w K mg base 1 "at_once" ps_at_once (ft_at_once A)) {f : Addr} {fd : FuncData} (F : L2.Fun K "bad_road" "bad_road" st_bad_road f fd) : FnOk P w K mg base (L2.CX P w) 5 f fd ps_bad_road (spD CT 2 (ft_bad_road A)) :=
 DL.Fun.okD F sc_bad_road (m := .raw) (math_bad_road A) fun cdv A' outer s H E hr => by
  have nd := (sc_bad_road).nd
  exact dss_cons (ds_if (dt_not (dt_val (de_G (k := 1) (ps := ps_is_list) G_is_list (hr.mono (by decide)) passM (da_cons (de_v 1) (da_nil)))))
    (dss_cons (ds_ret (de_int))
    (dss_nil))
    (dss_nil))
    (dss_cons (ds_for (passes_of rfl) rfl (di_enum B.enumerate (de_v 1)) (dg_tup rfl (dgs_cons (dg_name (pg_name (i := 2) nd rfl (by first | exact .inl rfl | exact .inr rfl))) (dgs_cons (dg_name (pg_name (i := 3) nd rfl (by first | exact .inl rfl | exact .inr rfl))) (dgs_nil))))
    (dss_cons (ds_if (dt_not (dt_val (de_G (k := 4) (ps := ps_is_road) G_is_road (hr.mono (by decide)) passM (da_cons (de_v 3) (da_cons (de_v 0) (da_nil))))))
    (dss_cons (ds_ret (de_v 2))
    (dss_nil))
    (dss_nil))
    (dss_cons (ds_if (DW.dt (dw_and (dt_cmp (op_eqD (Room.units hr)) br_eq (de_ix (de_v 3) (de_int)) (de_int) (nomark _)) (dw_and1 (dt_cmp (op_inA (hu65 hr)) br_in (de_ix (de_v 3) (de_int)) (de_G (k := 1) (ps := ps_at_once) G_at_once (hr.mono (by decide)) passM (da_cons (de_sl (de_v 1) (do_none) (do_some (de_v 2))) (da_cons (de_ix (de_v 3) (de_int)) (da_nil)))) (by with_unfolding_all rfl)))))
    (dss_cons (ds_ret (de_v 2))
    (dss_nil))
    (dss_nil))
    (dss_nil))))
    (dss_cons (ds_ret (de_none))
    (dss_nil)))
abbrev st_is_door : Stmt := (top 15)
theorem sc_is_door : FnScope N_is_door ps_is_door (defScope st_is_door) := ⟨rfl, rfl, rfl, by decide +kernel, rfl, by decide +kernel, by decide +kernel⟩
theorem ok_is_door (G_is_list : FnG CT P w K mg base 1 "is_list" ps_is_list (ft_is_list A)) (B : Bs mg) (hOK : OwnOk K (Cs A)) (G_is_place : FnG CT P w K mg base 3 "is_place" ps_is_place (ft_is_place A)) (G_is_number : FnG CT P w K mg base 2 "is_number" ps_is_number (ft_is_number A)) {f : Addr} {fd : FuncData} (F : L2.Fun K "is_door" "is_door" st_is_door f fd) : FnOk P w K mg base (L2.CX P w) 4 f fd ps_is_door (spD CT 2 (ft_is_door A)) :=
 DL.Fun.okD F sc_is_door (m := .raw) (math_is_door A) fun cdv A' outer s H E hr => by
  have nd := (sc_is_door).nd
  exact dss_cons (ds_if (DW.dt (dw_or (dt_not (dt_val (de_G (k := 1) (ps := ps_is_list) G_is_list (hr.mono (by decide)) passM (da_cons (de_v 0) (da_nil))))) (dw_or (dt_cmp (op_neD (Room.units hr)) br_ne (de_B (call_len) br_len B.len bo_len (da_cons (de_v 0) (da_nil))) (de_int) (nomark _)) (dw_or (dt_not (dt_val (de_B ((call_isi.or call_isiT)) (br_isi hOK) B.isinstance bo_isinstance (da_cons (de_ix (de_v 0) (de_int)) (da_cons (de_ty B.str bo_str) (da_nil)))))) (dw_or1 (dt_cmp (op_notInA (hu65 hr)) br_notIn (de_ix (de_v 0) (de_int)) (de_tup (da_cons (de_str) (da_cons (de_str) (da_nil)))) (by with_unfolding_all rfl)))))))
    (dss_cons (ds_ret (de_bool))
    (dss_nil))
    (dss_nil))
    (dss_cons (ds_ret (de_and (de_G (k := 3) (ps := ps_is_place) G_is_place (hr.mono (by decide)) passM (da_cons (de_ix (de_v 0) (de_int)) (da_cons (de_v 1) (da_nil)))) (de_one (de_G (k := 2) (ps := ps_is_number) G_is_number (hr.mono (by decide)) passM (da_cons (de_ix (de_v 0) (de_int)) (da_nil))))))
    (dss_nil))
abbrev st_bad_door : Stmt := (top 16)
theorem sc_bad_door : FnScope N_bad_door ps_bad_door (defScope st_bad_door) := ⟨rfl, rfl, rfl, by decide +kernel, rfl, by decide +kernel, by decide +kernel⟩
theorem ok_bad_door (G_is_list : FnG CT P w K mg base 1 "is_list" ps_is_list (ft_is_list A)) (B : Bs mg) (G_is_door : FnG CT P w K mg base 4 "is_door" ps_is_door (ft_is_door A)) {f : Addr} {fd : FuncData} (F : L2.Fun K "bad_door" "bad_door" st_bad_door f fd) : FnOk P w K mg base (L2.CX P w) 5 f fd ps_bad_door (spD CT 2 (ft_bad_door A)) :=
 DL.Fun.okD F sc_bad_door (m := .raw) (math_bad_door A) fun cdv A' outer s H E hr => by
  have nd := (sc_bad_door).nd
  exact dss_cons (ds_if (dt_not (dt_val (de_G (k := 1) (ps := ps_is_list) G_is_list (hr.mono (by decide)) passM (da_cons (de_v 1) (da_nil)))))
    (dss_cons (ds_ret (de_int))
    (dss_nil))
    (dss_nil))
    (dss_cons (ds_for (passes_of rfl) rfl (di_enum B.enumerate (de_v 1)) (dg_tup rfl (dgs_cons (dg_name (pg_name (i := 2) nd rfl (by first | exact .inl rfl | exact .inr rfl))) (dgs_cons (dg_name (pg_name (i := 3) nd rfl (by first | exact .inl rfl | exact .inr rfl))) (dgs_nil))))
    (dss_cons (ds_if (DW.dt (dw_or (dt_not (dt_val (de_G (k := 4) (ps := ps_is_door) G_is_door (hr.mono (by decide)) passM (da_cons (de_v 3) (da_cons (de_v 0) (da_nil)))))) (dw_or1 (dt_val (de_B (cr_any rfl) br_any B.any bo_any (da_cons (de_lc (pe_lc (own := [("one", 4)]) rfl nd (DI.pi (di_seq (de_sl (de_v 1) (do_none) (do_some (de_v 2))))) (blkOk_by (N := N_bad_door) (sc := defScope st_bad_door) (by decide +kernel)) (fun _ _ _ _ _ => DGw.pg (dgw_name (pg_name (i := 4) nd rfl (by first | exact .inl rfl | exact .inr rfl)))) (fun _ _ _ _ _ => DTs.pts (dts_nil)) (fun _ _ _ _ _ => DE.pe (de_and (de_cmp (op_eqD (Room.units hr)) br_eq (de_ix (de_v 4) (de_int)) (de_ix (de_v 3) (de_int)) (nomark _)) (de_one (de_cmp (op_neD (Room.units hr)) br_ne (de_ix (de_v 4) (de_int)) (de_ix (de_v 3) (de_int)) (nomark _))))))) (da_nil)))))))
    (dss_cons (ds_ret (de_v 2))
    (dss_nil))
    (dss_nil))
    (dss_nil)))
    (dss_cons (ds_ret (de_none))
    (dss_nil)))
abbrev st_House_init : Stmt := (inClass (top 17) 0)
theorem sc_House_init : FnScope N_House_init ps_House_init (defScope st_House_init) := ⟨rfl, rfl, rfl, by decide +kernel, rfl, by decide +kernel, by decide +kernel⟩
theorem ok_House_init (G_is_positive : FnG CT P w K mg base 2 "is_positive" ps_is_positive (ft_is_positive A)) (X_BadPlaces : Xc1 P w K mg base "BadPlaces" (A "BadPlaces") "places") (G_bad_road : FnG CT P w K mg base 5 "bad_road" ps_bad_road (ft_bad_road A)) (X_BadRoads : Xc1 P w K mg base "BadRoads" (A "BadRoads") "index") (G_bad_door : FnG CT P w K mg base 5 "bad_door" ps_bad_door (ft_bad_door A)) (X_BadDoors : Xc1 P w K mg base "BadDoors" (A "BadDoors") "index") (hF_House__own_places : ∀ C ∈ ([A "House"] : List Addr), Cls K C ∧ NoAttr K C "own_places") (B : Bs mg) (hF_House__own_roads : ∀ C ∈ ([A "House"] : List Addr), Cls K C ∧ NoAttr K C "own_roads") (hF_House__own_doors : ∀ C ∈ ([A "House"] : List Addr), Cls K C ∧ NoAttr K C "own_doors") {f : Addr} {fd : FuncData} (F : L2.Fun K "__init__" "House.__init__" st_House_init f fd) : FnOk P w K mg base (L2.CX P w) 6 f fd ps_House_init (spD CT 4 (ft_House_init A)) :=
 DL.Fun.okD F sc_House_init (m := .raw) (math_House_init A) fun cdv A' outer s H E hr => by
  have nd := (sc_House_init).nd
  exact dss_cons (ds_if (dt_not (dt_val (de_GR (k := 2) (ps := ps_is_positive) G_is_positive (hr.mono (by decide)) passM (da_cons (de_v 1) (da_nil)))))
    (dss_cons (ds_raise rfl X_BadPlaces (hr.mono (by decide)) (takes_of rfl rfl rfl rfl) passF (de_v 1))
    (dss_nil))
    (dss_nil))
    (dss_cons (ds_set (ps_set (i := 4) nd rfl (by first | exact .inl rfl | exact .inr rfl) (DE.pe (de_GR (k := 5) (ps := ps_bad_road) G_bad_road (hr.mono (by decide)) passM (da_cons (de_v 1) (da_cons (de_v 2) (da_nil)))))))
    (dss_cons (ds_if (dt_cmp op_notN br_notN (de_v 4) (de_none) (nomark _))
    (dss_cons (ds_raise rfl X_BadRoads (hr.mono (by decide)) (takes_of rfl rfl rfl rfl) passF (de_v 4))
    (dss_nil))
    (dss_nil))
    (dss_cons (ds_set (ps_set (i := 4) nd rfl (by first | exact .inl rfl | exact .inr rfl) (DE.pe (de_GR (k := 5) (ps := ps_bad_door) G_bad_door (hr.mono (by decide)) passM (da_cons (de_v 1) (da_cons (de_v 3) (da_nil)))))))
    (dss_cons (ds_if (dt_cmp op_notN br_notN (de_v 4) (de_none) (nomark _))
    (dss_cons (ds_raise rfl X_BadDoors (hr.mono (by decide)) (takes_of rfl rfl rfl rfl) passF (de_v 4))
    (dss_nil))
    (dss_nil))
    (dss_cons (ds_fld (Cs := [A "House"]) hF_House__own_places (de_v 0) (de_v 1))
    (dss_cons (ds_fld (Cs := [A "House"]) hF_House__own_roads (de_v 0) (de_lc (pe_lc (own := [("road", 5)]) rfl nd (DI.pi (di_seq (de_v 2))) (blkOk_by (N := N_House_init) (sc := defScope st_House_init) (by decide +kernel)) (fun _ _ _ _ _ => DGw.pg (dgw_name (pg_name (i := 5) nd rfl (by first | exact .inl rfl | exact .inr rfl)))) (fun _ _ _ _ _ => DTs.pts (dts_nil)) (fun _ _ _ _ _ => DE.pe (de_T (call_tuple_of) br_tuple B.tuple bo_tuple (da_cons (de_v 5) (da_nil)))))))
    (dss_cons (ds_fld (Cs := [A "House"]) hF_House__own_doors (de_v 0) (de_lc (pe_lc (own := [("door", 6)]) rfl nd (DI.pi (di_seq (de_v 3))) (blkOk_by (N := N_House_init) (sc := defScope st_House_init) (by decide +kernel)) (fun _ _ _ _ _ => DGw.pg (dgw_name (pg_name (i := 6) nd rfl (by first | exact .inl rfl | exact .inr rfl)))) (fun _ _ _ _ _ => DTs.pts (dts_nil)) (fun _ _ _ _ _ => DE.pe (de_T (call_tuple_of) br_tuple B.tuple bo_tuple (da_cons (de_v 6) (da_nil)))))))
    (dss_nil))))))))
abbrev st_House_places : Stmt := (inClass (top 17) 1)
theorem sc_House_places : FnScope N_House_places ps_House_places (defScope st_House_places) := ⟨rfl, rfl, rfl, by decide +kernel, rfl, by decide +kernel, by decide +kernel⟩
theorem ok_House_places (hF_House__own_places : ∀ C ∈ ([A "House"] : List Addr), Cls K C ∧ NoAttr K C "own_places") {f : Addr} {fd : FuncData} (F : L2.Fun K "places" "House.places" st_House_places f fd) : FnOk P w K mg base (L2.CX P w) 1 f fd ps_House_places (spD CT 1 (ft_House_places A)) :=
 DL.Fun.okD F sc_House_places (m := .raw) (math_House_places A) fun cdv A' outer s H E hr => by
  have nd := (sc_House_places).nd
  exact dss_cons (ds_ret (de_fld (Cs := [A "House"]) hF_House__own_places (de_v 0)))
    (dss_nil)
abbrev st_House_roads : Stmt := (inClass (top 17) 2)
theorem sc_House_roads : FnScope N_House_roads ps_House_roads (defScope st_House_roads) := ⟨rfl, rfl, rfl, by decide +kernel, rfl, by decide +kernel, by decide +kernel⟩
theorem ok_House_roadsM (hF_House__own_roads : ∀ C ∈ ([A "House"] : List Addr), Cls K C ∧ NoAttr K C "own_roads") (B : Bs mg) {f : Addr} {fd : FuncData} (F : L2.Fun K "roads" "House.roads" st_House_roads f fd) : FnOk P w K mg base (L2.CX P w) 1 f fd ps_House_roads (spD CT 1 (ft_House_roadsM A)) :=
 DL.Fun.okD F sc_House_roads (m := .top) (math_House_roadsM A) fun cdv A' outer s H E hr => by
  have nd := (sc_House_roads).nd
  exact dss_cons (ds_ret (de_T (call_list_of) br_listM B.list bo_list (da_cons (de_fld (Cs := [A "House"]) hF_House__own_roads (de_v 0)) (da_nil))))
    (dss_nil)
theorem ok_House_roads (hF_House__own_roads : ∀ C ∈ ([A "House"] : List Addr), Cls K C ∧ NoAttr K C "own_roads") (B : Bs mg) {f : Addr} {fd : FuncData} (F : L2.Fun K "roads" "House.roads" st_House_roads f fd) : FnOk P w K mg base (L2.CX P w) 1 f fd ps_House_roads (spD CT 1 (ft_House_roads A)) :=
 DL.Fun.okD F sc_House_roads (m := .tree) (math_House_roads A) fun cdv A' outer s H E hr => by
  have nd := (sc_House_roads).nd
  exact dss_cons (ds_ret (de_T (call_list_of) br_listM B.list bo_list (da_cons (de_fld (Cs := [A "House"]) hF_House__own_roads (de_v 0)) (da_nil))))
    (dss_nil)
abbrev st_House_doors : Stmt := (inClass (top 17) 3)
theorem sc_House_doors : FnScope N_House_doors ps_House_doors (defScope st_House_doors) := ⟨rfl, rfl, rfl, by decide +kernel, rfl, by decide +kernel, by decide +kernel⟩
theorem ok_House_doorsM (hF_House__own_doors : ∀ C ∈ ([A "House"] : List Addr), Cls K C ∧ NoAttr K C "own_doors") (B : Bs mg) {f : Addr} {fd : FuncData} (F : L2.Fun K "doors" "House.doors" st_House_doors f fd) : FnOk P w K mg base (L2.CX P w) 1 f fd ps_House_doors (spD CT 1 (ft_House_doorsM A)) :=
 DL.Fun.okD F sc_House_doors (m := .top) (math_House_doorsM A) fun cdv A' outer s H E hr => by
  have nd := (sc_House_doors).nd
  exact dss_cons (ds_ret (de_T (call_list_of) br_listM B.list bo_list (da_cons (de_fld (Cs := [A "House"]) hF_House__own_doors (de_v 0)) (da_nil))))
    (dss_nil)
theorem ok_House_doors (hF_House__own_doors : ∀ C ∈ ([A "House"] : List Addr), Cls K C ∧ NoAttr K C "own_doors") (B : Bs mg) {f : Addr} {fd : FuncData} (F : L2.Fun K "doors" "House.doors" st_House_doors f fd) : FnOk P w K mg base (L2.CX P w) 1 f fd ps_House_doors (spD CT 1 (ft_House_doors A)) :=
 DL.Fun.okD F sc_House_doors (m := .tree) (math_House_doors A) fun cdv A' outer s H E hr => by
  have nd := (sc_House_doors).nd
  exact dss_cons (ds_ret (de_T (call_list_of) br_listM B.list bo_list (da_cons (de_fld (Cs := [A "House"]) hF_House__own_doors (de_v 0)) (da_nil))))
    (dss_nil)
abbrev st_House_eq : Stmt := (inClass (top 17) 4)
theorem sc_House_eq : FnScope N_House_eq ps_House_eq (defScope st_House_eq) := ⟨rfl, rfl, rfl, by decide +kernel, rfl, by decide +kernel, by decide +kernel⟩
theorem ok_House_eq (hC_House : mg "House" = some (.ref (A "House"))) (B : Bs mg) (hOK : OwnOk K (Cs A)) (hF_House__own_places : ∀ C ∈ ([A "House"] : List Addr), Cls K C ∧ NoAttr K C "own_places") (hF_House__own_roads : ∀ C ∈ ([A "House"] : List Addr), Cls K C ∧ NoAttr K C "own_roads") (hF_House__own_doors : ∀ C ∈ ([A "House"] : List Addr), Cls K C ∧ NoAttr K C "own_doors") {f : Addr} {fd : FuncData} (F : L2.Fun K "__eq__" "House.__eq__" st_House_eq f fd) : FnOk P w K mg base (L2.CX P w) 1 f fd ps_House_eq (spD CT 2 (ft_House_eq A)) :=
 DL.Fun.okD F sc_House_eq (m := .raw) (math_House_eq A) fun cdv A' outer s H E hr => by
  have nd := (sc_House_eq).nd
  exact dss_cons (ds_if (dt_not (dt_val (de_B ((call_isi.or call_isiT)) (br_isi hOK) B.isinstance bo_isinstance (da_cons (de_v 1) (da_cons (de_cls hC_House) (da_nil))))))
    (dss_cons (ds_ret (de_bool))
    (dss_nil))
    (dss_nil))
    (dss_cons (ds_if (DW.dt (dw_or (dt_cmp (op_neD (Room.units hr)) br_ne (de_fld (Cs := [A "House"]) hF_House__own_places (de_v 0)) (de_fld (Cs := [A "House"]) hF_House__own_places (de_v 1)) (nomark _)) (dw_or1 (dt_cmp (op_neD (Room.units hr)) br_ne (de_fld (Cs := [A "House"]) hF_House__own_roads (de_v 0)) (de_fld (Cs := [A "House"]) hF_House__own_roads (de_v 1)) (nomark _)))))
    (dss_cons (ds_ret (de_bool))
    (dss_nil))
    (dss_nil))
    (dss_cons (ds_ret (de_cmp (op_eqD (Room.units hr)) br_eq (de_fld (Cs := [A "House"]) hF_House__own_doors (de_v 0)) (de_fld (Cs := [A "House"]) hF_House__own_doors (de_v 1)) (nomark _)))
    (dss_nil)))
abbrev st_law_stream : Stmt := (top 19)
theorem sc_law_stream : FnScope ["_law_script"] ["_law_script"] (defScope st_law_stream) := ⟨rfl, rfl, rfl, by decide +kernel, rfl, by decide +kernel, by decide +kernel⟩
theorem ok_law_stream (B : Bs mg) {f : Addr} {fd : FuncData} (F : L2.Fun K "_law_stream" "_law_stream" st_law_stream f fd) : FnOk P w K mg base (L2.CX P w) 1 f fd ["_law_script"] (spStream CT K) :=
  F.okX sc_law_stream (fun vs H Q E ⟨a, ns, e, _⟩ => by rw [e]; rfl) fun cdv A' outer s H vs Q E hr h => ⟨_, pss_cons (ps_ret (pe_lst (pa_cons (pe_callTy call_list_of rfl B.list bo_list (pa_cons (pv 0) pa_nil)) (pa_cons pe_int (pa_cons pe_int (pa_cons pe_int pa_nil)))))) pss_nil, stream_pure h⟩
abbrev st_law_draw : Stmt := (top 20)
theorem sc_law_draw : FnScope N_law_draw ps_law_draw (defScope st_law_draw) := ⟨rfl, rfl, rfl, by decide +kernel, rfl, by decide +kernel, by decide +kernel⟩
theorem ok_law_draw (B : Bs mg) {f : Addr} {fd : FuncData} (F : L2.Fun K "_law_draw" "_law_draw" st_law_draw f fd) : FnOk P w K mg base (L2.CX P w) 1 f fd ps_law_draw (spD CT 2 (ft_law_draw A)) :=
 FnOk.imp (sp := spD CT 2 ftDrawO) (DL.Fun.okD F sc_law_draw (m := .raw) (math_law_draw A) fun cdv A' outer s H E hr => by
  have nd := (sc_law_draw).nd
  exact dss_cons (ds_asg (ps_asg (DE.pe (de_op op_addA br_add (de_ix (de_v 0) (de_int)) (de_int))) (DG.pg (dg_sub (pg_sub (DE.pe (de_v 0)) (DE.pe (de_int)) set_list)))))
    (dss_cons (ds_while (passes_of rfl) (DW.dt (dw_and (dt_cmp (op_eqD (Room.units hr)) br_eq (de_ix (de_v 0) (de_int)) (de_int) (nomark _)) (dw_and1 (dt_cmp (op_neD (Room.units hr)) br_ne (de_ix (de_v 0) (de_int)) (de_lst (da_nil)) (nomark _)))))
    (dss_cons (ds_set (ps_set (i := 2) nd rfl (by first | exact .inl rfl | exact .inr rfl) (DE.pe (de_B (call_abs) br_abs B.abs bo_abs (da_cons (de_bm (pe_bm PySem.F.plainAttrs_list PySem.F.slot_list_pop PySem.F.type_list_pop mt_popAt (DE.pe (de_ix (de_v 0) (de_int))) (DA.pa (da_cons (de_int) (da_nil)))) bt_lst br_popAt) (da_nil))))))
    (dss_cons (ds_asg (ps_asg (DE.pe (de_op op_mod br_I (de_T (call_int1) br_int B.int bo_int (da_cons (de_op op_addA br_add (de_op op_addA br_add (de_op op_mulA br_mul (de_ix (de_v 0) (de_int)) (de_int)) (de_v 2)) (de_int)) (da_nil))) (de_int))) (DG.pg (dg_sub (pg_sub (DE.pe (de_v 0)) (DE.pe (de_int)) set_list)))))
    (dss_cons (ds_asg (ps_asg (DE.pe (de_if (dt_cmp op_ge br_I0 (de_v 2) (de_op op_powW br_I (de_int) (de_int)) (nomark _)) (de_v 2) (de_int))) (DG.pg (dg_sub (pg_sub (DE.pe (de_v 0)) (DE.pe (de_int)) set_list)))))
    (dss_nil)))))
    (dss_cons (ds_if (dt_cmp op_gt br_I0 (de_ix (de_v 0) (de_int)) (de_int) (nomark _))
    (dss_cons (ds_set (ps_set (i := 3) nd rfl (by first | exact .inl rfl | exact .inr rfl) (DE.pe (de_op op_mod br_I (de_T (call_int1) br_int B.int bo_int (da_cons (de_ix (de_v 0) (de_int)) (da_nil))) (de_v 1)))))
    (dss_cons (ds_asg (ps_asg (DE.pe (de_op op_fdivW br_I (de_ix (de_v 0) (de_int)) (de_v 1))) (DG.pg (dg_sub (pg_sub (DE.pe (de_v 0)) (DE.pe (de_int)) set_list)))))
    (dss_cons (ds_ret (de_v 3))
    (dss_nil))))
    (dss_nil))
    (dss_cons (ds_set (ps_set (i := 4) nd rfl (by first | exact .inl rfl | exact .inr rfl) (DE.pe (de_op op_mod br_I (de_T (call_int1) br_int B.int bo_int (da_cons (de_op op_powW br_I (de_op op_addA br_add (de_op op_addA br_add (de_ix (de_v 0) (de_int)) (de_op op_mulA br_mul (de_int) (de_ix (de_v 0) (de_int)))) (de_int)) (de_int)) (da_nil))) (de_int)))))
    (dss_cons (ds_ret (de_op op_mod br_I (de_op op_mod br_I (de_T (call_int1) br_int B.int bo_int (da_cons (de_op op_powW br_I (de_op op_addA br_add (de_op op_addA br_add (de_op op_mulA br_mul (de_v 4) (de_int)) (de_op op_mulA br_mul (de_int) (de_ix (de_v 0) (de_int)))) (de_int)) (de_int)) (da_nil))) (de_int)) (de_v 1)))
    (dss_nil)))))) fun _ _ _ _ => draw_imp
abbrev st_law_pick : Stmt := (top 21)
theorem sc_law_pick : FnScope N_law_pick ps_law_pick (defScope st_law_pick) := ⟨rfl, rfl, rfl, by decide +kernel, rfl, by decide +kernel, by decide +kernel⟩
theorem ok_law_pick (B : Bs mg) (G_law_draw : FnG CT P w K mg base 1 "_law_draw" ps_law_draw (ft_law_draw A)) {f : Addr} {fd : FuncData} (F : L2.Fun K "_law_pick" "_law_pick" st_law_pick f fd) : FnOk P w K mg base (L2.CX P w) 2 f fd ps_law_pick (spD CT 2 (ft_law_pick A)) :=
 DL.Fun.okD F sc_law_pick (m := .raw) (math_law_pick A) fun cdv A' outer s H E hr => by
  have nd := (sc_law_pick).nd
  exact dss_cons (ds_ret (de_ix (de_v 1) (de_G (k := 1) (ps := ps_law_draw) G_law_draw (hr.mono (by decide)) passM (da_cons (de_v 0) (da_cons (de_B (call_len) br_len B.len bo_len (da_cons (de_v 1) (da_nil))) (da_nil))))))
    (dss_nil)
abbrev st_law_mixed : Stmt := (top 22)
theorem sc_law_mixed : FnScope N_law_mixed ps_law_mixed (defScope st_law_mixed) := ⟨rfl, rfl, rfl, by decide +kernel, rfl, by decide +kernel, by decide +kernel⟩
theorem ok_law_mixedM (B : Bs mg) (G_law_draw : FnG CT P w K mg base 1 "_law_draw" ps_law_draw (ft_law_draw A)) {f : Addr} {fd : FuncData} (F : L2.Fun K "_law_mixed" "_law_mixed" st_law_mixed f fd) : FnOk P w K mg base (L2.CX P w) 2 f fd ps_law_mixed (spD CT 2 (ft_law_mixedM A)) :=
 DL.Fun.okD F sc_law_mixed (m := .top) (math_law_mixedM A) fun cdv A' outer s H E hr => by
  have nd := (sc_law_mixed).nd
  exact dss_cons (ds_par (ps_par (i := 2) (j := 3) rfl nd rfl rfl (by decide) rfl rfl (DA.pa (da_cons (de_T (call_list_of) br_listM B.list bo_list (da_cons (de_v 1) (da_nil))) (da_cons (de_lstM (da_nil)) (da_nil)))) rfl))
    (dss_cons (ds_for (passes_of rfl) rfl (di_range1 (pi_range1 rfl B.range (DA.pa (da_cons (de_B (call_len) br_len B.len bo_len (da_cons (de_v 2) (da_nil))) (da_nil))))) (dg_name (pg_name (i := 4) nd rfl (by first | exact .inl rfl | exact .inr rfl)))
    (dss_cons (ds_expr (de_bm (pe_bm PySem.F.plainAttrs_list PySem.F.slot_list_append PySem.F.type_list_append mt_append (DE.pe (de_v 3)) (DA.pa (da_cons (de_bm (pe_bm PySem.F.plainAttrs_list PySem.F.slot_list_pop PySem.F.type_list_pop mt_popAt (DE.pe (de_v 2)) (DA.pa (da_cons (de_G (k := 1) (ps := ps_law_draw) G_law_draw (hr.mono (by decide)) passM (da_cons (de_v 0) (da_cons (de_B (call_len) br_len B.len bo_len (da_cons (de_v 2) (da_nil))) (da_nil)))) (da_nil)))) bt_lst br_popAt) (da_nil)))) bt_lst br_append))
    (dss_nil)))
    (dss_cons (ds_ret (de_v 3))
    (dss_nil)))
theorem ok_law_mixed (B : Bs mg) (G_law_draw : FnG CT P w K mg base 1 "_law_draw" ps_law_draw (ft_law_draw A)) {f : Addr} {fd : FuncData} (F : L2.Fun K "_law_mixed" "_law_mixed" st_law_mixed f fd) : FnOk P w K mg base (L2.CX P w) 2 f fd ps_law_mixed (spD CT 2 (ft_law_mixed A)) :=
 DL.Fun.okD F sc_law_mixed (m := .tree) (math_law_mixed A) fun cdv A' outer s H E hr => by
  have nd := (sc_law_mixed).nd
  exact dss_cons (ds_par (ps_par (i := 2) (j := 3) rfl nd rfl rfl (by decide) rfl rfl (DA.pa (da_cons (de_T (call_list_of) br_listM B.list bo_list (da_cons (de_v 1) (da_nil))) (da_cons (de_lstM (da_nil)) (da_nil)))) rfl))
    (dss_cons (ds_for (passes_of rfl) rfl (di_range1 (pi_range1 rfl B.range (DA.pa (da_cons (de_B (call_len) br_len B.len bo_len (da_cons (de_v 2) (da_nil))) (da_nil))))) (dg_name (pg_name (i := 4) nd rfl (by first | exact .inl rfl | exact .inr rfl)))
    (dss_cons (ds_expr (de_bm (pe_bm PySem.F.plainAttrs_list PySem.F.slot_list_append PySem.F.type_list_append mt_append (DE.pe (de_v 3)) (DA.pa (da_cons (de_bm (pe_bm PySem.F.plainAttrs_list PySem.F.slot_list_pop PySem.F.type_list_pop mt_popAt (DE.pe (de_v 2)) (DA.pa (da_cons (de_G (k := 1) (ps := ps_law_draw) G_law_draw (hr.mono (by decide)) passM (da_cons (de_v 0) (da_cons (de_B (call_len) br_len B.len bo_len (da_cons (de_v 2) (da_nil))) (da_nil)))) (da_nil)))) bt_lst br_popAt) (da_nil)))) bt_lst br_append))
    (dss_nil)))
    (dss_cons (ds_ret (de_v 3))
    (dss_nil)))
abbrev st_law_same : Stmt := (top 23)
theorem sc_law_same : FnScope N_law_same ps_law_same (defScope st_law_same) := ⟨rfl, rfl, rfl, by decide +kernel, rfl, by decide +kernel, by decide +kernel⟩
theorem ok_law_same (B : Bs mg) (hOK : OwnOk K (Cs A)) {f : Addr} {fd : FuncData} (F : L2.Fun K "_law_same" "_law_same" st_law_same f fd) (hm : mg "_law_same" = some (.ref f)) : FnOk P w K mg base (L2.CX P w) 5 f fd ps_law_same (spD CT 2 (ft_law_same A)) := by
  have nd := (sc_law_same).nd
  have key := rec_ok (CT := CT) (P := P) (w := w) (K := K) (mg := mg) (base := base) (x := "_law_same") (ps := ps_law_same) (f := f) (fd := fd) (lev := 0) (ft := ftR_law_same A) (F.binds fun _ _ _ _ _ _ us hl => match us, hl with | [_, _], _ => rfl) hm F.kp (fun n G_rec => DL.Fun.okD F sc_law_same (m := .raw) (math_law_same A n) fun cdv A' outer s H E hr => by
   have lev : Nat := 0
   exact dss_cons (ds_if (dt_val (de_B ((call_isi.or call_isiT)) (br_isi hOK) B.isinstance bo_isinstance (da_cons (de_v 1) (da_cons (de_tup (da_cons (de_ty B.list bo_list) (da_cons (de_ty B.tuple bo_tuple) (da_nil)))) (da_nil)))))
     (dss_cons (ds_if (DW.dt (dw_or (dt_cmp (op_neD (Room.units hr)) br_ne (de_B ((call_isi.or call_isiT)) (br_isi hOK) B.isinstance bo_isinstance (da_cons (de_v 0) (da_cons (de_ty B.list bo_list) (da_nil)))) (de_B ((call_isi.or call_isiT)) (br_isi hOK) B.isinstance bo_isinstance (da_cons (de_v 1) (da_cons (de_ty B.list bo_list) (da_nil)))) (nomark _)) (dw_or1 (dt_cmp (op_neD (Room.units hr)) br_ne (de_B ((call_isi.or call_isiT)) (br_isi hOK) B.isinstance bo_isinstance (da_cons (de_v 0) (da_cons (de_ty B.tuple bo_tuple) (da_nil)))) (de_B ((call_isi.or call_isiT)) (br_isi hOK) B.isinstance bo_isinstance (da_cons (de_v 1) (da_cons (de_ty B.tuple bo_tuple) (da_nil)))) (nomark _)))))
     (dss_cons (ds_ret (de_bool))
     (dss_nil))
     (dss_nil))
     (dss_cons (ds_ret (de_and (de_cmp (op_eqD (Room.units hr)) br_eq (de_B (call_len) br_len B.len bo_len (da_cons (de_v 0) (da_nil))) (de_B (call_len) br_len B.len bo_len (da_cons (de_v 1) (da_nil))) (nomark _)) (de_one (de_B (cr_all rfl) br_all B.all bo_all (da_cons (de_lc (pe_lc (own := [("_law_mine", 2), ("_law_theirs", 3)]) rfl nd (DI.pi (di_zip (RZ.pi_zipA rfl B.zip (DA.pa (da_cons (de_v 0) (da_cons (de_v 1) (da_nil))))))) (blkOk_by (N := N_law_same) (sc := defScope st_law_same) (by decide +kernel)) (fun _ _ _ _ _ => DGw.pg (dgw_tup rfl (dgsw_cons (dgw_name (pg_name (i := 2) nd rfl (by first | exact .inl rfl | exact .inr rfl))) (dgsw_cons (dgw_name (pg_name (i := 3) nd rfl (by first | exact .inl rfl | exact .inr rfl))) (dgsw_nil))))) (fun _ _ _ _ _ => DTs.pts (dts_nil)) (fun _ _ _ _ _ => DE.pe (de_G (k := (0 + n)) (ps := ps_law_same) G_rec hr passL (da_cons (de_v 2) (da_cons (de_v 3) (da_nil))))))) (da_nil))))))
     (dss_nil)))
     (dss_nil))
     (dss_cons (ds_if (dt_val (de_B ((call_isi.or call_isiT)) (br_isi hOK) B.isinstance bo_isinstance (da_cons (de_v 1) (da_cons (de_ty B.dict bo_dict) (da_nil)))))
     (dss_cons (ds_ret (de_and (de_B ((call_isi.or call_isiT)) (br_isi hOK) B.isinstance bo_isinstance (da_cons (de_v 0) (da_cons (de_ty B.dict bo_dict) (da_nil)))) (de_one (de_G (k := (0 + n)) (ps := ps_law_same) G_rec hr passM (da_cons (de_listIt rfl B.list (de_v 0)) (da_cons (de_listIt rfl B.list (de_v 1)) (da_nil)))))))
     (dss_nil))
     (dss_nil))
     (dss_cons (ds_if (DW.dt (dw_or (dt_val (de_B ((call_isi.or call_isiT)) (br_isi hOK) B.isinstance bo_isinstance (da_cons (de_v 1) (da_cons (de_ty B.bool bo_bool) (da_nil))))) (dw_or1 (dt_val (de_B ((call_isi.or call_isiT)) (br_isi hOK) B.isinstance bo_isinstance (da_cons (de_v 0) (da_cons (de_ty B.bool bo_bool) (da_nil))))))))
     (dss_cons (ds_ret (de_and (de_B ((call_isi.or call_isiT)) (br_isi hOK) B.isinstance bo_isinstance (da_cons (de_v 1) (da_cons (de_ty B.bool bo_bool) (da_nil)))) (de_and (de_B ((call_isi.or call_isiT)) (br_isi hOK) B.isinstance bo_isinstance (da_cons (de_v 0) (da_cons (de_ty B.bool bo_bool) (da_nil)))) (de_one (de_cmp (op_eqD (Room.units hr)) br_eq (de_v 0) (de_v 1) (nomark _))))))
     (dss_nil))
     (dss_nil))
     (dss_cons (ds_ret (de_and (de_not (de_B ((call_isi.or call_isiT)) (br_isi hOK) B.isinstance bo_isinstance (da_cons (de_v 0) (da_cons (de_tup (da_cons (de_ty B.list bo_list) (da_cons (de_ty B.tuple bo_tuple) (da_cons (de_ty B.dict bo_dict) (da_nil))))) (da_nil))))) (de_one (de_cmp (op_eqD (Room.units hr)) br_eq (de_v 0) (de_v 1) (nomark _)))))
     (dss_nil)))))
  exact key 4
abbrev st_law_stepping : Stmt := (top 24)
theorem sc_law_stepping : FnScope N_law_stepping ps_law_stepping (defScope st_law_stepping) := ⟨rfl, rfl, rfl, by decide +kernel, rfl, by decide +kernel, by decide +kernel⟩
theorem ok_law_stepping (G_law_draw : FnG CT P w K mg base 1 "_law_draw" ps_law_draw (ft_law_draw A)) {f : Addr} {fd : FuncData} (F : L2.Fun K "_law_stepping" "_law_stepping" st_law_stepping f fd) : FnOk P w K mg base (L2.CX P w) 2 f fd ps_law_stepping (spD CT 5 (ft_law_stepping A)) :=
 DL.Fun.okD F sc_law_stepping (m := .tree) (math_law_stepping A) fun cdv A' outer s H E hr => by
  have nd := (sc_law_stepping).nd
  exact dss_cons (ds_asg (ps_asg (DE.pe (de_sl (de_lc (pe_lc (own := [("_law_place", 12)]) rfl nd (DI.pi (di_seq (de_v 3))) (blkOk_by (N := N_law_stepping) (sc := defScope st_law_stepping) (by decide +kernel)) (fun _ _ _ _ _ => DGw.pg (dgw_name (pg_name (i := 12) nd rfl (by first | exact .inl rfl | exact .inr rfl)))) (fun _ _ _ _ _ => DTs.pts (dts_one (DW.dt (dw_and (dt_cmp (op_neD (Room.units hr)) br_ne (de_v 12) (de_v 1) (nomark _)) (dw_and1 (dt_cmp (op_neD (Room.units hr)) br_ne (de_v 12) (de_v 2) (nomark _))))))) (fun _ _ _ _ _ => DE.pe (de_v 12)))) (do_none) (do_some (de_int)))) (DG.pg (dg_tup rfl (dgs_cons (dg_name (pg_name (i := 5) nd rfl (by first | exact .inl rfl | exact .inr rfl))) (dgs_cons (dg_name (pg_name (i := 6) nd rfl (by first | exact .inl rfl | exact .inr rfl))) (dgs_nil)))))))
    (dss_cons (ds_par (ps_par (i := 7) (j := 8) rfl nd rfl rfl (by decide) rfl rfl (DA.pa (da_cons (de_op op_addA br_add (de_int) (de_G (k := 1) (ps := ps_law_draw) G_law_draw (hr.mono (by decide)) passM (da_cons (de_v 0) (da_cons (de_v 4) (da_nil))))) (da_cons (de_op op_addA br_add (de_int) (de_G (k := 1) (ps := ps_law_draw) G_law_draw (hr.mono (by decide)) passM (da_cons (de_v 0) (da_cons (de_int) (da_nil))))) (da_nil)))) rfl))
    (dss_cons (ds_par (ps_par (i := 9) (j := 10) rfl nd rfl rfl (by decide) rfl rfl (DA.pa (da_cons (de_op op_addA br_add (de_int) (de_G (k := 1) (ps := ps_law_draw) G_law_draw (hr.mono (by decide)) passM (da_cons (de_v 0) (da_cons (de_int) (da_nil))))) (da_cons (de_op op_addA br_add (de_int) (de_G (k := 1) (ps := ps_law_draw) G_law_draw (hr.mono (by decide)) passM (da_cons (de_v 0) (da_cons (de_int) (da_nil))))) (da_nil)))) rfl))
    (dss_cons (ds_set (ps_set (i := 11) nd rfl (by first | exact .inl rfl | exact .inr rfl) (DE.pe (de_lstM (da_cons (de_tup (da_cons (de_v 1) (da_cons (de_v 5) (da_cons (de_v 8) (da_cons (de_v 7) (da_nil)))))) (da_cons (de_tup (da_cons (de_v 5) (da_cons (de_v 6) (da_cons (de_v 9) (da_cons (de_v 7) (da_nil)))))) (da_cons (de_tup (da_cons (de_v 6) (da_cons (de_v 2) (da_cons (de_v 10) (da_cons (de_v 7) (da_nil)))))) (da_nil))))))))
    (dss_cons (ds_expr (de_bm (pe_bm PySem.F.plainAttrs_list PySem.F.slot_list_append PySem.F.type_list_append mt_append (DE.pe (de_v 11)) (DA.pa (da_cons (de_tup (da_cons (de_v 1) (da_cons (de_v 6) (da_cons (de_op op_addA br_add (de_op op_addA br_add (de_op op_addA br_add (de_v 8) (de_v 9)) (de_int)) (de_G (k := 1) (ps := ps_law_draw) G_law_draw (hr.mono (by decide)) passM (da_cons (de_v 0) (da_cons (de_int) (da_nil))))) (da_cons (de_op op_addA br_add (de_int) (de_G (k := 1) (ps := ps_law_draw) G_law_draw (hr.mono (by decide)) passM (da_cons (de_v 0) (da_cons (de_v 4) (da_nil))))) (da_nil)))))) (da_nil)))) bt_lst br_append))
    (dss_cons (ds_ret (de_op op_addA br_add (de_v 11) (de_lst (da_cons (de_tup (da_cons (de_v 5) (da_cons (de_v 2) (da_cons (de_op op_addA br_add (de_op op_addA br_add (de_op op_addA br_add (de_v 9) (de_v 10)) (de_int)) (de_G (k := 1) (ps := ps_law_draw) G_law_draw (hr.mono (by decide)) passM (da_cons (de_v 0) (da_cons (de_int) (da_nil))))) (da_cons (de_op op_addA br_add (de_int) (de_G (k := 1) (ps := ps_law_draw) G_law_draw (hr.mono (by decide)) passM (da_cons (de_v 0) (da_cons (de_v 4) (da_nil))))) (da_nil)))))) (da_nil)))))
    (dss_nil))))))
abbrev st_law_house : Stmt := (top 25)
theorem sc_law_house : FnScope N_law_house ps_law_house (defScope st_law_house) := ⟨rfl, rfl, rfl, by decide +kernel, rfl, by decide +kernel, by decide +kernel⟩
theorem ok_law_house (G_law_draw : FnG CT P w K mg base 1 "_law_draw" ps_law_draw (ft_law_draw A)) (B : Bs mg) (G_law_mixed : FnG CT P w K mg base 2 "_law_mixed" ps_law_mixed (ft_law_mixed A)) (G_law_pick : FnG CT P w K mg base 2 "_law_pick" ps_law_pick (ft_law_pick A)) (G_law_stepping : FnG CT P w K mg base 2 "_law_stepping" ps_law_stepping (ft_law_stepping A)) (G_law_mixedM : FnG CT P w K mg base 2 "_law_mixed" ps_law_mixed (ft_law_mixedM A)) {f : Addr} {fd : FuncData} (F : L2.Fun K "_law_house" "_law_house" st_law_house f fd) : FnOk P w K mg base (L2.CX P w) 3 f fd ps_law_house (spD CT 4 (ft_law_house A)) :=
 DL.Fun.okD F sc_law_house (m := .tree) (math_law_house A) fun cdv A' outer s H E hr => by
  have nd := (sc_law_house).nd
  exact dss_cons (ds_set (ps_set (i := 4) nd rfl (by first | exact .inl rfl | exact .inr rfl) (DE.pe (de_op op_addA br_add (de_int) (de_B ((call_max2 rfl)) br_int2 B.max bo_max (da_cons (de_G (k := 1) (ps := ps_law_draw) G_law_draw (hr.mono (by decide)) passM (da_cons (de_v 0) (da_cons (de_op op_sub br_I0 (de_v 1) (de_int)) (da_nil)))) (da_cons (de_G (k := 1) (ps := ps_law_draw) G_law_draw (hr.mono (by decide)) passM (da_cons (de_v 0) (da_cons (de_op op_sub br_I0 (de_v 1) (de_int)) (da_nil)))) (da_nil))))))))
    (dss_cons (ds_par3 (ps_par3 (i := 5) (j := 6) (l := 7) rfl nd rfl rfl rfl (by decide) (by decide) (by decide) rfl rfl rfl (DA.pa (da_cons (de_G (k := 2) (ps := ps_law_mixed) G_law_mixed (hr.mono (by decide)) passM (da_cons (de_v 0) (da_cons (de_listRg rfl B.list B.range (de_v 4)) (da_nil)))) (da_cons (de_lstM (da_nil)) (da_cons (de_lstM (da_nil)) (da_nil))))) rfl))
    (dss_cons (ds_par3 (ps_par3 (i := 8) (j := 9) (l := 10) rfl nd rfl rfl rfl (by decide) (by decide) (by decide) rfl rfl rfl (DA.pa (da_cons (de_G (k := 2) (ps := ps_law_pick) G_law_pick (hr.mono (by decide)) passM (da_cons (de_v 0) (da_cons (de_lst (da_cons (de_int) (da_cons (de_int) (da_cons (de_int) (da_cons (de_int) (da_nil)))))) (da_nil)))) (da_cons (de_G (k := 2) (ps := ps_law_pick) G_law_pick (hr.mono (by decide)) passM (da_cons (de_v 0) (da_cons (de_lst (da_cons (de_int) (da_cons (de_int) (da_cons (de_int) (da_cons (de_int) (da_nil)))))) (da_nil)))) (da_cons (de_G (k := 2) (ps := ps_law_pick) G_law_pick (hr.mono (by decide)) passM (da_cons (de_v 0) (da_cons (de_lst (da_cons (de_int) (da_cons (de_int) (da_cons (de_int) (da_nil))))) (da_nil)))) (da_nil))))) rfl))
    (dss_cons (ds_set (ps_set (i := 11) nd rfl (by first | exact .inl rfl | exact .inr rfl) (DE.pe (de_G (k := 2) (ps := ps_law_pick) G_law_pick (hr.mono (by decide)) passM (da_cons (de_v 0) (da_cons (de_lst (da_cons (de_op op_addA br_add (de_int) (de_G (k := 1) (ps := ps_law_draw) G_law_draw (hr.mono (by decide)) passM (da_cons (de_v 0) (da_cons (de_op op_sub br_I0 (de_v 4) (de_int)) (da_nil))))) (da_cons (de_op op_fdivW br_I (de_v 4) (de_int)) (da_cons (de_op op_fdivW br_I (de_op op_addA br_add (de_v 4) (de_int)) (de_int)) (da_nil))))) (da_nil)))))))
    (dss_cons (ds_for (passes_of rfl) rfl (di_seq (de_op op_addA br_add (de_lst (da_cons (de_str) (da_cons (de_str) (da_nil)))) (de_lc (pe_lc (own := [("_law_k", 15)]) rfl nd (DI.pi (di_range1 (pi_range1 rfl B.range (DA.pa (da_cons (de_G (k := 1) (ps := ps_law_draw) G_law_draw (hr.mono (by decide)) passM (da_cons (de_v 0) (da_cons (de_op op_sub br_I0 (de_v 3) (de_int)) (da_nil)))) (da_nil)))))) (blkOk_by (N := N_law_house) (sc := defScope st_law_house) (by decide +kernel)) (fun _ _ _ _ _ => DGw.pg (dgw_name (pg_name (i := 15) nd rfl (by first | exact .inl rfl | exact .inr rfl)))) (fun _ _ _ _ _ => DTs.pts (dts_nil)) (fun _ _ _ _ _ => DE.pe (de_G (k := 2) (ps := ps_law_pick) G_law_pick (hr.mono (by decide)) passL (da_cons (de_v 0) (da_cons (de_lst (da_cons (de_str) (da_cons (de_str) (da_nil)))) (da_nil))))))))) (dg_name (pg_name (i := 12) nd rfl (by first | exact .inl rfl | exact .inr rfl)))
    (dss_cons (ds_expr (de_bm (pe_bm PySem.F.plainAttrs_list PySem.F.slot_list_append PySem.F.type_list_append mt_append (DE.pe (de_v 7)) (DA.pa (da_cons (de_tup (da_cons (de_v 12) (da_cons (de_G (k := 2) (ps := ps_law_pick) G_law_pick (hr.mono (by decide)) passM (da_cons (de_v 0) (da_cons (de_if (dt_cmp (op_eqD (Room.units hr)) br_eq (de_v 12) (de_str) (nomark _)) (de_sl (de_v 5) (do_none) (do_some (de_v 11))) (de_sl (de_v 5) (do_some (de_v 11)) (do_none))) (da_nil)))) (da_cons (de_G (k := 1) (ps := ps_law_draw) G_law_draw (hr.mono (by decide)) passM (da_cons (de_v 0) (da_cons (de_v 10) (da_nil)))) (da_nil))))) (da_nil)))) bt_lst br_append))
    (dss_nil)))
    (dss_cons (ds_par (ps_par (i := 13) (j := 14) rfl nd rfl rfl (by decide) rfl rfl (DA.pa (da_cons (de_lc (pe_lc (own := [("_law_door", 24)]) rfl nd (DI.pi (di_seq (de_v 7))) (blkOk_by (N := N_law_house) (sc := defScope st_law_house) (by decide +kernel)) (fun _ _ _ _ _ => DGw.pg (dgw_name (pg_name (i := 24) nd rfl (by first | exact .inl rfl | exact .inr rfl)))) (fun _ _ _ _ _ => DTs.pts (dts_one (dt_cmp (op_eqD (Room.units hr)) br_eq (de_ix (de_v 24) (de_int)) (de_str) (nomark _)))) (fun _ _ _ _ _ => DE.pe (de_ix (de_v 24) (de_int))))) (da_cons (de_lc (pe_lc (own := [("_law_door", 24)]) rfl nd (DI.pi (di_seq (de_v 7))) (blkOk_by (N := N_law_house) (sc := defScope st_law_house) (by decide +kernel)) (fun _ _ _ _ _ => DGw.pg (dgw_name (pg_name (i := 24) nd rfl (by first | exact .inl rfl | exact .inr rfl)))) (fun _ _ _ _ _ => DTs.pts (dts_one (dt_cmp (op_eqD (Room.units hr)) br_eq (de_ix (de_v 24) (de_int)) (de_str) (nomark _)))) (fun _ _ _ _ _ => DE.pe (de_ix (de_v 24) (de_int))))) (da_nil)))) rfl))
    (dss_cons (ds_for (passes_of rfl) rfl (di_range1 (pi_range1 rfl B.range (DA.pa (da_cons (de_op op_addA br_add (de_int) (de_G (k := 1) (ps := ps_law_draw) G_law_draw (hr.mono (by decide)) passM (da_cons (de_v 0) (da_cons (de_int) (da_nil))))) (da_nil))))) (dg_name (pg_name (i := 15) nd rfl (by first | exact .inl rfl | exact .inr rfl)))
    (dss_cons (ds_set (ps_set (i := 16) nd rfl (by first | exact .inl rfl | exact .inr rfl) (DE.pe (de_op op_cat br_catM (de_lst (da_cons (de_G (k := 2) (ps := ps_law_pick) G_law_pick (hr.mono (by decide)) passM (da_cons (de_v 0) (da_cons (de_v 13) (da_nil)))) (da_nil))) (de_sl (de_G (k := 2) (ps := ps_law_mixed) G_law_mixed (hr.mono (by decide)) passM (da_cons (de_v 0) (da_cons (de_v 5) (da_nil)))) (do_none) (do_some (de_G (k := 2) (ps := ps_law_pick) G_law_pick (hr.mono (by decide)) passM (da_cons (de_v 0) (da_cons (de_lst (da_cons (de_int) (da_cons (de_int) (da_cons (de_int) (da_cons (de_int) (da_cons (de_int) (da_nil))))))) (da_nil))))))))))
    (dss_cons (ds_expr (de_bm (pe_bm PySem.F.plainAttrs_list PySem.F.slot_list_append PySem.F.type_list_append mt_append (DE.pe (de_v 16)) (DA.pa (da_cons (de_G (k := 2) (ps := ps_law_pick) G_law_pick (hr.mono (by decide)) passM (da_cons (de_v 0) (da_cons (de_v 14) (da_nil)))) (da_nil)))) bt_lst br_append))
    (dss_cons (ds_expr (de_bm (pe_bm PySem.F.plainAttrs_list PySem.F.slot_list_extend PySem.F.type_list_extend mt_extend (DE.pe (de_v 6)) (DA.pa (da_cons (de_lc (pe_lc (own := [("_law_one", 17), ("_law_other", 18)]) rfl nd (DI.pi (di_zip (RZ.pi_zipA rfl B.zip (DA.pa (da_cons (de_v 16) (da_cons (de_sl (de_v 16) (do_some (de_int)) (do_none)) (da_nil))))))) (blkOk_by (N := N_law_house) (sc := defScope st_law_house) (by decide +kernel)) (fun _ _ _ _ _ => DGw.pg (dgw_tup rfl (dgsw_cons (dgw_name (pg_name (i := 17) nd rfl (by first | exact .inl rfl | exact .inr rfl))) (dgsw_cons (dgw_name (pg_name (i := 18) nd rfl (by first | exact .inl rfl | exact .inr rfl))) (dgsw_nil))))) (fun _ _ _ _ _ => DTs.pts (dts_one (dt_cmp (op_neD (Room.units hr)) br_ne (de_v 17) (de_v 18) (nomark _)))) (fun _ _ _ _ _ => DE.pe (de_tup (da_cons (de_v 17) (da_cons (de_v 18) (da_nil))))))) (da_nil)))) bt_lst br_extend))
    (dss_nil)))))
    (dss_cons (ds_for (passes_of rfl) rfl (di_range1 (pi_range1 rfl B.range (DA.pa (da_cons (de_G (k := 1) (ps := ps_law_draw) G_law_draw (hr.mono (by decide)) passM (da_cons (de_v 0) (da_cons (de_int) (da_nil)))) (da_nil))))) (dg_name (pg_name (i := 15) nd rfl (by first | exact .inl rfl | exact .inr rfl)))
    (dss_cons (ds_asg (ps_asg (DE.pe (de_sl (de_G (k := 2) (ps := ps_law_mixed) G_law_mixed (hr.mono (by decide)) passM (da_cons (de_v 0) (da_cons (de_v 5) (da_nil)))) (do_none) (do_some (de_int)))) (DG.pg (dg_tup rfl (dgs_cons (dg_name (pg_name (i := 17) nd rfl (by first | exact .inl rfl | exact .inr rfl))) (dgs_cons (dg_name (pg_name (i := 18) nd rfl (by first | exact .inl rfl | exact .inr rfl))) (dgs_nil)))))))
    (dss_cons (ds_expr (de_bm (pe_bm PySem.F.plainAttrs_list PySem.F.slot_list_append PySem.F.type_list_append mt_append (DE.pe (de_v 6)) (DA.pa (da_cons (de_tup (da_cons (de_v 17) (da_cons (de_v 18) (da_nil)))) (da_nil)))) bt_lst br_append))
    (dss_nil))))
    (dss_cons (ds_par (ps_par (i := 19) (j := 20) rfl nd rfl rfl (by decide) rfl rfl (DA.pa (da_cons (de_lstM (da_nil)) (da_cons (de_G (k := 2) (ps := ps_law_pick) G_law_pick (hr.mono (by decide)) passM (da_cons (de_v 0) (da_cons (de_lst (da_cons (de_v 5) (da_cons (de_v 5) (da_cons (de_G (k := 2) (ps := ps_law_mixed) G_law_mixed (hr.mono (by decide)) passM (da_cons (de_v 0) (da_cons (de_v 5) (da_nil)))) (da_nil))))) (da_nil)))) (da_nil)))) rfl))
    (dss_cons (ds_for (passes_of rfl) rfl (di_seq (de_sl (de_v 6) (do_none) (do_some (de_v 2)))) (dg_tup rfl (dgs_cons (dg_name (pg_name (i := 17) nd rfl (by first | exact .inl rfl | exact .inr rfl))) (dgs_cons (dg_name (pg_name (i := 18) nd rfl (by first | exact .inl rfl | exact .inr rfl))) (dgs_nil))))
    (dss_cons (ds_set (ps_set (i := 21) nd rfl (by first | exact .inl rfl | exact .inr rfl) (DE.pe (de_G (k := 1) (ps := ps_law_draw) G_law_draw (hr.mono (by decide)) passM (da_cons (de_v 0) (da_cons (de_op op_addA br_add (de_v 8) (de_int)) (da_nil)))))))
    (dss_cons (ds_set (ps_set (i := 21) nd rfl (by first | exact .inl rfl | exact .inr rfl) (DE.pe (de_if (DW.dt (dw_and (dt_cmp (op_eqD (Room.units hr)) br_eq (de_v 21) (de_int) (nomark _)) (dw_and1 (dt_cmp op_gt br_I0 (de_bm (pe_bm PySem.F.plainAttrs_list PySem.F.slot_list_index PySem.F.type_list_index (mt_indexD (hu65 hr)) (DE.pe (de_v 20)) (DA.pa (da_cons (de_v 17) (da_nil)))) bt_lst br_indexD) (de_bm (pe_bm PySem.F.plainAttrs_list PySem.F.slot_list_index PySem.F.type_list_index (mt_indexD (hu65 hr)) (DE.pe (de_v 20)) (DA.pa (da_cons (de_v 18) (da_nil)))) bt_lst br_indexD) (nomark _))))) (de_int) (de_v 21)))))
    (dss_cons (ds_expr (de_bm (pe_bm PySem.F.plainAttrs_list PySem.F.slot_list_append PySem.F.type_list_append mt_append (DE.pe (de_v 19)) (DA.pa (da_cons (de_tup (da_cons (de_v 17) (da_cons (de_v 18) (da_cons (de_v 21) (da_cons (de_op op_addA br_add (de_int) (de_G (k := 1) (ps := ps_law_draw) G_law_draw (hr.mono (by decide)) passM (da_cons (de_v 0) (da_cons (de_v 9) (da_nil))))) (da_nil)))))) (da_nil)))) bt_lst br_append))
    (dss_nil)))))
    (dss_cons (ds_if (DW.dt (dw_and (dt_cmp op_gt br_I0 (de_v 4) (de_int) (nomark _)) (dw_and (dt_cmp op_gt br_I0 (de_v 2) (de_int) (nomark _)) (dw_and1 (dt_cmp (op_eqD (Room.units hr)) br_eq (de_G (k := 1) (ps := ps_law_draw) G_law_draw (hr.mono (by decide)) passM (da_cons (de_v 0) (da_cons (de_int) (da_nil)))) (de_int) (nomark _))))))
    (dss_cons (ds_set (ps_set (i := 22) nd rfl (by first | exact .inl rfl | exact .inr rfl) (DE.pe (de_G (k := 2) (ps := ps_law_stepping) G_law_stepping (hr.mono (by decide)) passM (da_cons (de_v 0) (da_cons (de_G (k := 2) (ps := ps_law_pick) G_law_pick (hr.mono (by decide)) passM (da_cons (de_v 0) (da_cons (de_v 13) (da_nil)))) (da_cons (de_G (k := 2) (ps := ps_law_pick) G_law_pick (hr.mono (by decide)) passM (da_cons (de_v 0) (da_cons (de_v 14) (da_nil)))) (da_cons (de_v 5) (da_cons (de_v 9) (da_nil))))))))))
    (dss_cons (ds_set (ps_set (i := 19) nd rfl (by first | exact .inl rfl | exact .inr rfl) (DE.pe (de_G (k := 2) (ps := ps_law_mixed) G_law_mixedM (hr.mono (by decide)) passM (da_cons (de_v 0) (da_cons (de_op op_addA br_add (de_v 22) (de_sl (de_v 19) (do_none) (do_some (de_G (k := 1) (ps := ps_law_draw) G_law_draw (hr.mono (by decide)) passM (da_cons (de_v 0) (da_cons (de_op op_sub br_I0 (de_v 2) (de_int)) (da_nil))))))) (da_nil)))))))
    (dss_nil)))
    (dss_nil))
    (dss_cons (ds_if (DW.dt (dw_and (dt_cmp (op_eqD (Room.units hr)) br_eq (de_G (k := 1) (ps := ps_law_draw) G_law_draw (hr.mono (by decide)) passM (da_cons (de_v 0) (da_cons (de_int) (da_nil)))) (de_int) (nomark _)) (dw_and1 (dt_cmp op_gt br_I0 (de_B (call_len) br_len B.len bo_len (da_cons (de_v 19) (da_nil))) (de_int) (nomark _)))))
    (dss_cons (ds_set (ps_set (i := 23) nd rfl (by first | exact .inl rfl | exact .inr rfl) (DE.pe (de_G (k := 1) (ps := ps_law_draw) G_law_draw (hr.mono (by decide)) passM (da_cons (de_v 0) (da_cons (de_B (call_len) br_len B.len bo_len (da_cons (de_v 19) (da_nil))) (da_nil)))))))
    (dss_cons (ds_asg (ps_asg (DE.pe (de_tup (da_cons (de_ix (de_ix (de_v 19) (de_v 23)) (de_int)) (da_cons (de_ix (de_ix (de_v 19) (de_v 23)) (de_int)) (da_cons (de_op op_addA br_add (de_int) (de_G (k := 1) (ps := ps_law_draw) G_law_draw (hr.mono (by decide)) passM (da_cons (de_v 0) (da_cons (de_int) (da_nil))))) (da_cons (de_ix (de_ix (de_v 19) (de_v 23)) (de_int)) (da_nil))))))) (DG.pg (dg_sub (pg_sub (DE.pe (de_v 19)) (DE.pe (de_v 23)) set_list)))))
    (dss_nil)))
    (dss_nil))
    (dss_cons (ds_if (DW.dt (dw_and (dt_cmp (op_eqD (Room.units hr)) br_eq (de_G (k := 1) (ps := ps_law_draw) G_law_draw (hr.mono (by decide)) passM (da_cons (de_v 0) (da_cons (de_int) (da_nil)))) (de_int) (nomark _)) (dw_and1 (dt_cmp op_gt br_I0 (de_B (call_len) br_len B.len bo_len (da_cons (de_v 7) (da_nil))) (de_int) (nomark _)))))
    (dss_cons (ds_set (ps_set (i := 23) nd rfl (by first | exact .inl rfl | exact .inr rfl) (DE.pe (de_op op_addA br_add (de_int) (de_G (k := 1) (ps := ps_law_draw) G_law_draw (hr.mono (by decide)) passM (da_cons (de_v 0) (da_cons (de_op op_sub br_I0 (de_B (call_len) br_len B.len bo_len (da_cons (de_v 7) (da_nil))) (de_int)) (da_nil))))))))
    (dss_cons (ds_asg (ps_asg (DE.pe (de_tup (da_cons (de_ix (de_ix (de_v 7) (de_v 23)) (de_int)) (da_cons (de_ix (de_ix (de_v 7) (de_v 23)) (de_int)) (da_cons (de_op op_addA br_add (de_int) (de_G (k := 1) (ps := ps_law_draw) G_law_draw (hr.mono (by decide)) passM (da_cons (de_v 0) (da_cons (de_int) (da_nil))))) (da_nil)))))) (DG.pg (dg_sub (pg_sub (DE.pe (de_v 7)) (DE.pe (de_v 23)) set_list)))))
    (dss_nil)))
    (dss_nil))
    (dss_cons (ds_ret (de_tupM (da_cons (de_v 4) (da_cons (de_v 19) (da_cons (de_G (k := 2) (ps := ps_law_mixed) G_law_mixed (hr.mono (by decide)) passM (da_cons (de_v 0) (da_cons (de_v 7) (da_nil)))) (da_nil))))))
    (dss_nil))))))))))))))
abbrev st_law_met : Stmt := (top 26)
theorem sc_law_met : FnScope N_law_met ps_law_met (defScope st_law_met) := ⟨rfl, rfl, rfl, by decide +kernel, rfl, by decide +kernel, by decide +kernel⟩
theorem tr_law_met (hC_BadPlaces : mg "BadPlaces" = some (.ref (A "BadPlaces"))) (x_BadPlaces : XfC K (A "BadPlaces")) (n_BadPlaces : PySem.W.findIn K (.ref (A "BadPlaces")) "places" = some none) (hC_BadRoads : mg "BadRoads" = some (.ref (A "BadRoads"))) (x_BadRoads : XfC K (A "BadRoads")) (n_BadRoads : PySem.W.findIn K (.ref (A "BadRoads")) "index" = some none) (hC_BadDoors : mg "BadDoors" = some (.ref (A "BadDoors"))) (x_BadDoors : XfC K (A "BadDoors")) (n_BadDoors : PySem.W.findIn K (.ref (A "BadDoors")) "index" = some none) {g : Addr} {fd : FuncData} (F : L2.Fun K "_law_met" "_law_met" st_law_met g fd) (hm : mg "_law_met" = some (.ref g)) : TrG P w K mg base "_law_met" "told" (cl_law_met A) false :=
  TrG.mk' (Ng := N_law_met) F hm rfl (fun _ _ _ _ _ _ us hl => match us, hl with | [_], _ => rfl) sc_law_met (.inl rfl) fun X q cdv e1 e2 e3 e4 e5 => by
    subst e1 e2 e3 e4 e5
    exact tried_gives1 (n := "e") (by decide) rfl rfl (fun s H => rfl) fun s H => .cons ⟨rfl, by decide, .inl hC_BadPlaces⟩ (fun a oe cls d pn hz hf => pss_cons (ps_ret (pe_tup (pa_cons pe_str (pa_cons (pe_xf x_BadPlaces n_BadPlaces hz hf (pv 1)) pa_nil)))) pss_nil) (.cons ⟨rfl, by decide, .inl hC_BadRoads⟩ (fun a oe cls d pn hz hf => pss_cons (ps_ret (pe_tup (pa_cons pe_str (pa_cons (pe_xf x_BadRoads n_BadRoads hz hf (pv 1)) pa_nil)))) pss_nil) (.cons ⟨rfl, by decide, .inl hC_BadDoors⟩ (fun a oe cls d pn hz hf => pss_cons (ps_ret (pe_tup (pa_cons pe_str (pa_cons (pe_xf x_BadDoors n_BadDoors hz hf (pv 1)) pa_nil)))) pss_nil) (.nil)))
abbrev st_law_no_roads : Stmt := (top 27)
theorem sc_law_no_roads : FnScope N_law_no_roads ps_law_no_roads (defScope st_law_no_roads) := ⟨rfl, rfl, rfl, by decide +kernel, rfl, by decide +kernel, by decide +kernel⟩
theorem ok_law_no_roads (B : Bs mg) {f : Addr} {fd : FuncData} (F : L2.Fun K "_law_no_roads" "_law_no_roads" st_law_no_roads f fd) : FnOk P w K mg base (L2.CX P w) 1 f fd ps_law_no_roads (spD CT 1 (ft_law_no_roads A)) :=
 DL.Fun.okD F sc_law_no_roads (m := .tree) (math_law_no_roads A) fun cdv A' outer s H E hr => by
  have nd := (sc_law_no_roads).nd
  exact dss_cons (ds_set (ps_set (i := 1) nd rfl (by first | exact .inl rfl | exact .inr rfl) (DE.pe (de_lstM (da_cons (de_none) (da_cons (de_int) (da_cons (de_str) (da_cons (de_lst (da_nil)) (da_cons (de_dct0) (da_cons (de_bool) (da_cons (de_tup (da_cons (de_int) (da_cons (de_int) (da_cons (de_int) (da_nil))))) (da_cons (de_tup (da_cons (de_int) (da_cons (de_int) (da_cons (de_int) (da_cons (de_int) (da_cons (de_int) (da_nil))))))) (da_cons (de_tup (da_cons (de_int) (da_cons (de_int) (da_cons (de_int) (da_cons (de_int) (da_nil)))))) (da_cons (de_tup (da_cons (de_int) (da_cons (de_v 0) (da_cons (de_int) (da_cons (de_int) (da_nil)))))) (da_cons (de_tup (da_cons (de_neg (de_int)) (da_cons (de_int) (da_cons (de_int) (da_cons (de_int) (da_nil)))))) (da_nil))))))))))))))))
    (dss_cons (ds_expr (de_bm (pe_bm PySem.F.plainAttrs_list PySem.F.slot_list_extend PySem.F.type_list_extend mt_extend (DE.pe (de_v 1)) (DA.pa (da_cons (de_lst (da_cons (de_tup (da_cons (de_int) (da_cons (de_int) (da_cons (de_neg (de_int)) (da_cons (de_int) (da_nil)))))) (da_cons (de_tup (da_cons (de_int) (da_cons (de_int) (da_cons (de_int) (da_cons (de_int) (da_nil)))))) (da_cons (de_tup (da_cons (de_int) (da_cons (de_int) (da_cons (de_int) (da_cons (de_neg (de_int)) (da_nil)))))) (da_cons (de_tup (da_cons (de_bool) (da_cons (de_int) (da_cons (de_int) (da_cons (de_int) (da_nil)))))) (da_cons (de_tup (da_cons (de_int) (da_cons (de_int) (da_cons (de_bool) (da_cons (de_int) (da_nil)))))) (da_cons (de_tup (da_cons (de_int) (da_cons (de_int) (da_cons (de_int) (da_cons (de_bool) (da_nil)))))) (da_nil)))))))) (da_nil)))) bt_lst br_extend))
    (dss_cons (ds_expr (de_bm (pe_bm PySem.F.plainAttrs_list PySem.F.slot_list_append PySem.F.type_list_append mt_append (DE.pe (de_v 1)) (DA.pa (da_cons (de_T ((call_dictP rfl)) br_dict B.dict bo_dict (da_cons (de_lst (da_cons (de_tup (da_cons (de_int) (da_cons (de_int) (da_nil)))) (da_cons (de_tup (da_cons (de_int) (da_cons (de_int) (da_nil)))) (da_cons (de_tup (da_cons (de_int) (da_cons (de_int) (da_nil)))) (da_cons (de_tup (da_cons (de_int) (da_cons (de_int) (da_nil)))) (da_nil)))))) (da_nil))) (da_nil)))) bt_lst br_append))
    (dss_cons (ds_ret (de_op op_addA br_add (de_v 1) (de_lst (da_cons (de_tup (da_cons (de_int) (da_cons (de_int) (da_cons (de_none) (da_cons (de_int) (da_nil)))))) (da_cons (de_tup (da_cons (de_int) (da_cons (de_str) (da_cons (de_int) (da_cons (de_int) (da_nil)))))) (da_cons (de_tup (da_cons (de_lst (da_cons (de_int) (da_nil))) (da_cons (de_int) (da_cons (de_int) (da_cons (de_int) (da_nil)))))) (da_cons (de_tup (da_cons (de_int) (da_cons (de_int) (da_cons (de_int) (da_cons (de_str) (da_nil)))))) (da_cons (de_tup (da_cons (de_int) (da_cons (de_int) (da_cons (de_int) (da_cons (de_none) (da_nil)))))) (da_nil)))))))))
    (dss_nil))))
abbrev st_law_no_doors : Stmt := (top 28)
theorem sc_law_no_doors : FnScope N_law_no_doors ps_law_no_doors (defScope st_law_no_doors) := ⟨rfl, rfl, rfl, by decide +kernel, rfl, by decide +kernel, by decide +kernel⟩
theorem ok_law_no_doors (B : Bs mg) {f : Addr} {fd : FuncData} (F : L2.Fun K "_law_no_doors" "_law_no_doors" st_law_no_doors f fd) : FnOk P w K mg base (L2.CX P w) 1 f fd ps_law_no_doors (spD CT 1 (ft_law_no_doors A)) :=
 DL.Fun.okD F sc_law_no_doors (m := .tree) (math_law_no_doors A) fun cdv A' outer s H E hr => by
  have nd := (sc_law_no_doors).nd
  exact dss_cons (ds_set (ps_set (i := 1) nd rfl (by first | exact .inl rfl | exact .inr rfl) (DE.pe (de_lstM (da_cons (de_none) (da_cons (de_int) (da_cons (de_str) (da_cons (de_lst (da_nil)) (da_cons (de_dct0) (da_cons (de_bool) (da_cons (de_tup (da_cons (de_str) (da_cons (de_int) (da_nil)))) (da_cons (de_tup (da_cons (de_str) (da_cons (de_int) (da_cons (de_int) (da_cons (de_int) (da_nil)))))) (da_cons (de_tup (da_cons (de_str) (da_cons (de_int) (da_cons (de_int) (da_nil))))) (da_cons (de_tup (da_cons (de_str) (da_cons (de_int) (da_cons (de_int) (da_nil))))) (da_cons (de_tup (da_cons (de_int) (da_cons (de_int) (da_cons (de_int) (da_nil))))) (da_cons (de_tup (da_cons (de_none) (da_cons (de_int) (da_cons (de_int) (da_nil))))) (da_nil)))))))))))))))))
    (dss_cons (ds_expr (de_bm (pe_bm PySem.F.plainAttrs_list PySem.F.slot_list_extend PySem.F.type_list_extend mt_extend (DE.pe (de_v 1)) (DA.pa (da_cons (de_lst (da_cons (de_tup (da_cons (de_lst (da_cons (de_str) (da_nil))) (da_cons (de_int) (da_cons (de_int) (da_nil))))) (da_cons (de_tup (da_cons (de_str) (da_cons (de_v 0) (da_cons (de_int) (da_nil))))) (da_cons (de_tup (da_cons (de_str) (da_cons (de_neg (de_int)) (da_cons (de_int) (da_nil))))) (da_cons (de_tup (da_cons (de_str) (da_cons (de_bool) (da_cons (de_int) (da_nil))))) (da_cons (de_tup (da_cons (de_str) (da_cons (de_none) (da_cons (de_int) (da_nil))))) (da_cons (de_tup (da_cons (de_str) (da_cons (de_int) (da_cons (de_neg (de_int)) (da_nil))))) (da_nil)))))))) (da_nil)))) bt_lst br_extend))
    (dss_cons (ds_expr (de_bm (pe_bm PySem.F.plainAttrs_list PySem.F.slot_list_append PySem.F.type_list_append mt_append (DE.pe (de_v 1)) (DA.pa (da_cons (de_T ((call_dictP rfl)) br_dict B.dict bo_dict (da_cons (de_lst (da_cons (de_tup (da_cons (de_int) (da_cons (de_str) (da_nil)))) (da_cons (de_tup (da_cons (de_int) (da_cons (de_int) (da_nil)))) (da_cons (de_tup (da_cons (de_int) (da_cons (de_int) (da_nil)))) (da_nil))))) (da_nil))) (da_nil)))) bt_lst br_append))
    (dss_cons (ds_ret (de_op op_addA br_add (de_v 1) (de_lst (da_cons (de_tup (da_cons (de_str) (da_cons (de_int) (da_cons (de_bool) (da_nil))))) (da_cons (de_tup (da_cons (de_str) (da_cons (de_int) (da_cons (de_none) (da_nil))))) (da_cons (de_tup (da_cons (de_str) (da_cons (de_int) (da_cons (de_str) (da_nil))))) (da_cons (de_tup (da_cons (de_str) (da_cons (de_lst (da_cons (de_int) (da_nil))) (da_cons (de_int) (da_nil))))) (da_cons (de_tup (da_cons (de_str) (da_cons (de_int) (da_cons (de_int) (da_nil))))) (da_nil)))))))))
    (dss_nil))))
abbrev st_law_rings_right : Stmt := (top 29)
theorem sc_law_rings_right : FnScope N_law_rings_right ps_law_rings_right (defScope st_law_rings_right) := ⟨rfl, rfl, rfl, by decide +kernel, rfl, by decide +kernel, by decide +kernel⟩
theorem ok_law_rings_right (G_law_draw : FnG CT P w K mg base 1 "_law_draw" ps_law_draw (ft_law_draw A)) (B : Bs mg) (G_law_mixed : FnG CT P w K mg base 2 "_law_mixed" ps_law_mixed (ft_law_mixed A)) (T_law_met : TrG P w K mg base "_law_met" "told" (cl_law_met A) false) (hAp : XcApart K (Xs A)) (hXn : (Xs A).Nodup) (K_House : MkG CT P w K mg base 6 "House" (A "House") ps_House_init (ft_House_init A)) {cc PP : Addr} (hTB : LamX.TabB base mg cc PP) (hTm : (PP, ("_law_rings_right" : Str) ++ ".<locals>." ++ "<lambda>") ∈ CT) (hTu : ∀ p ∈ CT, p.1 = PP → p.2 = ("_law_rings_right" : Str) ++ ".<locals>." ++ "<lambda>") {f : Addr} {fd : FuncData} (F : L2.Fun K "_law_rings_right" "_law_rings_right" st_law_rings_right f fd) (hcc : fd.code = .ref cc) : FnOk P w K mg base (L2.CX P w) 10 f fd ps_law_rings_right (spD CT 1 (ft_law_rings_right A)) :=
 okD_code F sc_law_rings_right (m := .tree) (math_law_rings_right A hXn) fun cdv A' outer s H E hcd hr => by
  have nd := (sc_law_rings_right).nd
  exact dss_cons (ds_set (ps_set (i := 1) nd rfl (by first | exact .inl rfl | exact .inr rfl) (DE.pe (de_op op_addA br_add (de_int) (de_G (k := 1) (ps := ps_law_draw) G_law_draw (hr.mono (by decide)) passM (da_cons (de_v 0) (da_cons (de_int) (da_nil))))))))
    (dss_cons (ds_set (ps_set (i := 2) nd rfl (by first | exact .inl rfl | exact .inr rfl) (DE.pe (de_G (k := 2) (ps := ps_law_mixed) G_law_mixed (hr.mono (by decide)) passM (da_cons (de_v 0) (da_cons (de_listRg rfl B.list B.range (de_v 1)) (da_nil)))))))
    (dss_cons (ds_setLc (ps_setLc (i := 3) (own := [("_law_one", 13), ("_law_other", 14)]) rfl nd rfl rfl (sw_true rfl rfl rfl (by decide +kernel)) (DI.pi (di_zip (RZ.pi_zipA rfl B.zip (DA.pa (da_cons (de_v 2) (da_cons (de_sl (de_v 2) (do_some (de_int)) (do_none)) (da_nil))))))) (blkOk_by (N := N_law_rings_right) (sc := defScope st_law_rings_right) (by decide +kernel)) (fun _ _ _ _ _ => DGw.pg (dgw_tup rfl (dgsw_cons (dgw_name (pg_name (i := 13) nd rfl (by first | exact .inl rfl | exact .inr rfl))) (dgsw_cons (dgw_name (pg_name (i := 14) nd rfl (by first | exact .inl rfl | exact .inr rfl))) (dgsw_nil))))) (fun _ _ _ _ _ => DTs.pts (dts_nil)) (fun _ _ _ _ _ => DE.pe (de_tup (da_cons (de_v 13) (da_cons (de_v 14) (da_cons (de_int) (da_cons (de_int) (da_nil)))))))))
    (dss_cons (ds_set (ps_set (i := 4) nd rfl (by first | exact .inl rfl | exact .inr rfl) (DE.pe (de_G (k := 2) (ps := ps_law_mixed) G_law_mixed (hr.mono (by decide)) passM (da_cons (de_v 0) (da_cons (de_op op_addA br_add (de_v 3) (de_lst (da_cons (de_tup (da_cons (de_ix (de_v 2) (de_int)) (da_cons (de_ix (de_v 2) (de_neg (de_int))) (da_cons (de_int) (da_cons (de_int) (da_nil)))))) (da_cons (de_tup (da_cons (de_ix (de_v 2) (de_int)) (da_cons (de_ix (de_v 2) (de_int)) (da_cons (de_int) (da_cons (de_int) (da_nil)))))) (da_nil))))) (da_nil)))))))
    (dss_cons (ds_if (dt_cmp (op_neD (Room.units hr)) br_ne (de_tried (k := 7) T_law_met hAp (by simp [cl_law_met, Xs]) hTB (hcd.symm.trans hcc) hTm hTu (hr.mono (by decide)) (fun A2 outer2 s2 H2 E2 f2 c2 hr => de_K (k := 6) (ps := ps_House_init) K_House (hr.mono (by decide)) passN2 (da_cons (de_v 1) (da_cons (de_v 4) (da_cons (de_lst (da_nil)) (da_nil))))) (LamX.lamS_by (sc := defScope st_law_rings_right) (by decide +kernel))) (de_tup (da_cons (de_str) (da_cons (de_none) (da_nil)))) (nomark _))
    (dss_cons (ds_ret (de_bool))
    (dss_nil))
    (dss_nil))
    (dss_cons (ds_set (ps_set (i := 5) nd rfl (by first | exact .inl rfl | exact .inr rfl) (DE.pe (de_op op_addA br_add (de_int) (de_G (k := 1) (ps := ps_law_draw) G_law_draw (hr.mono (by decide)) passM (da_cons (de_v 0) (da_cons (de_op op_sub br_I0 (de_v 1) (de_int)) (da_nil))))))))
    (dss_cons (ds_set (ps_set (i := 6) nd rfl (by first | exact .inl rfl | exact .inr rfl) (DE.pe (de_tup (da_cons (de_ix (de_v 2) (de_op op_sub br_I0 (de_v 5) (de_int))) (da_cons (de_ix (de_v 2) (de_int)) (da_cons (de_int) (da_cons (de_int) (da_nil)))))))))
    (dss_cons (ds_set (ps_set (i := 7) nd rfl (by first | exact .inl rfl | exact .inr rfl) (DE.pe (de_G (k := 1) (ps := ps_law_draw) G_law_draw (hr.mono (by decide)) passM (da_cons (de_v 0) (da_cons (de_op op_addA br_add (de_B (call_len) br_len B.len bo_len (da_cons (de_v 4) (da_nil))) (de_int)) (da_nil)))))))
    (dss_cons (ds_set (ps_set (i := 8) nd rfl (by first | exact .inl rfl | exact .inr rfl) (DE.pe (de_op op_addA br_add (de_op op_addA br_add (de_op op_addA br_add (de_sl (de_v 4) (do_none) (do_some (de_v 7))) (de_lst (da_cons (de_v 6) (da_nil)))) (de_sl (de_v 4) (do_some (de_v 7)) (do_none))) (de_lst (da_cons (de_none) (da_nil)))))))
    (dss_cons (ds_set (ps_set (i := 9) nd rfl (by first | exact .inl rfl | exact .inr rfl) (DE.pe (de_op op_addA br_add (de_lst (da_cons (de_v 6) (da_nil))) (de_sl (de_v 3) (do_none) (do_some (de_op op_sub br_I0 (de_v 5) (de_int))))))))
    (dss_cons (ds_set (ps_set (i := 10) nd rfl (by first | exact .inl rfl | exact .inr rfl) (DE.pe (de_B ((cr_max rfl)) br_max B.max bo_max (da_cons (de_lc (pe_lc (own := [("_law_part", 15)]) rfl nd (DI.pi (di_seq (de_v 9))) (blkOk_by (N := N_law_rings_right) (sc := defScope st_law_rings_right) (by decide +kernel)) (fun _ _ _ _ _ => DGw.pg (dgw_name (pg_name (i := 15) nd rfl (by first | exact .inl rfl | exact .inr rfl)))) (fun _ _ _ _ _ => DTs.pts (dts_nil)) (fun _ _ _ _ _ => DE.pe (de_bm (pe_bm PySem.F.plainAttrs_list PySem.F.slot_list_index PySem.F.type_list_index (mt_indexD (hu65 hr)) (DE.pe (de_v 8)) (DA.pa (da_cons (de_v 15) (da_nil)))) bt_lst br_indexD)))) (da_nil))))))
    (dss_cons (ds_if (DW.dt (dw_and (dt_cmp (op_inA (hu65 hr)) br_in (de_tup (da_cons (de_ix (de_v 2) (de_int)) (da_cons (de_ix (de_v 2) (de_neg (de_int))) (da_cons (de_int) (da_cons (de_int) (da_nil)))))) (de_v 8) (by with_unfolding_all rfl)) (dw_and1 (dt_cmp (op_eqD (Room.units hr)) br_eq (de_v 5) (de_v 1) (nomark _)))))
    (dss_cons (ds_set (ps_set (i := 10) nd rfl (by first | exact .inl rfl | exact .inr rfl) (DE.pe (de_B ((call_min2 rfl)) br_int2 B.min bo_min (da_cons (de_v 10) (da_cons (de_B ((call_max2 rfl)) br_int2 B.max bo_max (da_cons (de_bm (pe_bm PySem.F.plainAttrs_list PySem.F.slot_list_index PySem.F.type_list_index (mt_indexD (hu65 hr)) (DE.pe (de_v 8)) (DA.pa (da_cons (de_tup (da_cons (de_ix (de_v 2) (de_int)) (da_cons (de_ix (de_v 2) (de_neg (de_int))) (da_cons (de_int) (da_cons (de_int) (da_nil)))))) (da_nil)))) bt_lst br_indexD) (da_cons (de_bm (pe_bm PySem.F.plainAttrs_list PySem.F.slot_list_index PySem.F.type_list_index (mt_indexD (hu65 hr)) (DE.pe (de_v 8)) (DA.pa (da_cons (de_v 6) (da_nil)))) bt_lst br_indexD) (da_nil)))) (da_nil)))))))
    (dss_nil))
    (dss_nil))
    (dss_cons (ds_if (dt_cmp op_ge br_I0 (de_v 5) (de_int) (nomark _))
    (dss_cons (ds_set (ps_set (i := 11) nd rfl (by first | exact .inl rfl | exact .inr rfl) (DE.pe (de_op op_addA br_add (de_lst (da_cons (de_v 6) (da_cons (de_tup (da_cons (de_ix (de_v 2) (de_int)) (da_cons (de_ix (de_v 2) (de_int)) (da_cons (de_int) (da_cons (de_int) (da_nil)))))) (da_nil)))) (de_sl (de_v 3) (do_some (de_int)) (do_some (de_op op_sub br_I0 (de_v 5) (de_int))))))))
    (dss_cons (ds_set (ps_set (i := 10) nd rfl (by first | exact .inl rfl | exact .inr rfl) (DE.pe (de_B ((call_min2 rfl)) br_int2 B.min bo_min (da_cons (de_v 10) (da_cons (de_B ((cr_max rfl)) br_max B.max bo_max (da_cons (de_lc (pe_lc (own := [("_law_part", 15)]) rfl nd (DI.pi (di_seq (de_v 11))) (blkOk_by (N := N_law_rings_right) (sc := defScope st_law_rings_right) (by decide +kernel)) (fun _ _ _ _ _ => DGw.pg (dgw_name (pg_name (i := 15) nd rfl (by first | exact .inl rfl | exact .inr rfl)))) (fun _ _ _ _ _ => DTs.pts (dts_nil)) (fun _ _ _ _ _ => DE.pe (de_bm (pe_bm PySem.F.plainAttrs_list PySem.F.slot_list_index PySem.F.type_list_index (mt_indexD (hu65 hr)) (DE.pe (de_v 8)) (DA.pa (da_cons (de_v 15) (da_nil)))) bt_lst br_indexD)))) (da_nil))) (da_nil)))))))
    (dss_nil)))
    (dss_nil))
    (dss_cons (ds_if (dt_cmp (op_neD (Room.units hr)) br_ne (de_tried (k := 7) T_law_met hAp (by simp [cl_law_met, Xs]) hTB (hcd.symm.trans hcc) hTm hTu (hr.mono (by decide)) (fun A2 outer2 s2 H2 E2 f2 c2 hr => de_K (k := 6) (ps := ps_House_init) K_House (hr.mono (by decide)) passN2 (da_cons (de_v 1) (da_cons (de_v 8) (da_cons (de_none) (da_nil))))) (LamX.lamS_by (sc := defScope st_law_rings_right) (by decide +kernel))) (de_tup (da_cons (de_str) (da_cons (de_v 10) (da_nil)))) (nomark _))
    (dss_cons (ds_ret (de_bool))
    (dss_nil))
    (dss_nil))
    (dss_cons (ds_set (ps_set (i := 12) nd rfl (by first | exact .inl rfl | exact .inr rfl) (DE.pe (de_lc (pe_lc (own := [("_law_one", 13), ("_law_other", 14), ("_law_length", 16), ("_law_room", 17)]) rfl nd (DI.pi (di_seq (de_sl (de_v 8) (do_none) (do_some (de_neg (de_int)))))) (blkOk_by (N := N_law_rings_right) (sc := defScope st_law_rings_right) (by decide +kernel)) (fun _ _ _ _ _ => DGw.pg (dgw_tup rfl (dgsw_cons (dgw_name (pg_name (i := 13) nd rfl (by first | exact .inl rfl | exact .inr rfl))) (dgsw_cons (dgw_name (pg_name (i := 14) nd rfl (by first | exact .inl rfl | exact .inr rfl))) (dgsw_cons (dgw_name (pg_name (i := 16) nd rfl (by first | exact .inl rfl | exact .inr rfl))) (dgsw_cons (dgw_name (pg_name (i := 17) nd rfl (by first | exact .inl rfl | exact .inr rfl))) (dgsw_nil))))))) (fun _ _ _ _ _ => DTs.pts (dts_nil)) (fun _ _ _ _ _ => DE.pe (de_tup (da_cons (de_v 13) (da_cons (de_v 14) (da_cons (de_if (dt_cmp (op_eqD (Room.units hr)) br_eq (de_tup (da_cons (de_v 13) (da_cons (de_v 14) (da_nil)))) (de_sl (de_v 6) (do_none) (do_some (de_int))) (nomark _)) (de_int) (de_v 16)) (da_cons (de_v 17) (da_nil))))))))))))
    (dss_cons (ds_ret (de_cmp (op_eqD (Room.units hr)) br_eq (de_tried (k := 7) T_law_met hAp (by simp [cl_law_met, Xs]) hTB (hcd.symm.trans hcc) hTm hTu (hr.mono (by decide)) (fun A2 outer2 s2 H2 E2 f2 c2 hr => de_K (k := 6) (ps := ps_House_init) K_House (hr.mono (by decide)) passN2 (da_cons (de_v 1) (da_cons (de_v 12) (da_cons (de_lst (da_nil)) (da_nil))))) (LamX.lamS_by (sc := defScope st_law_rings_right) (by decide +kernel))) (de_tup (da_cons (de_str) (da_cons (de_none) (da_nil)))) (nomark _)))
    (dss_nil))))))))))))))))
abbrev st_law : Stmt := (top 30)
theorem sc_law : FnScope N_law ps_law (defScope st_law) := ⟨rfl, rfl, rfl, by decide +kernel, rfl, by decide +kernel, by decide +kernel⟩
theorem ok_law (T_law_met : TrG P w K mg base "_law_met" "told" (cl_law_met A) false) (hAp : XcApart K (Xs A)) (hXn : (Xs A).Nodup) (K_House : MkG CT P w K mg base 6 "House" (A "House") ps_House_init (ft_House_init A)) (G_law_same : FnG CT P w K mg base 5 "_law_same" ps_law_same (ft_law_same A)) (B : Bs mg) (G_law_house : FnG CT P w K mg base 3 "_law_house" ps_law_house (ft_law_house A)) (G_law_draw : FnG CT P w K mg base 1 "_law_draw" ps_law_draw (ft_law_draw A)) (G_law_no_roads : FnG CT P w K mg base 1 "_law_no_roads" ps_law_no_roads (ft_law_no_roads A)) (G_law_no_doors : FnG CT P w K mg base 1 "_law_no_doors" ps_law_no_doors (ft_law_no_doors A)) (G_law_pick : FnG CT P w K mg base 2 "_law_pick" ps_law_pick (ft_law_pick A)) (G_law_rings_right : FnG CT P w K mg base 10 "_law_rings_right" ps_law_rings_right (ft_law_rings_right A)) {cc PP : Addr} (hTB : LamX.TabB base mg cc PP) (hTm : (PP, ("law" : Str) ++ ".<locals>." ++ "<lambda>") ∈ CT) (hTu : ∀ p ∈ CT, p.1 = PP → p.2 = ("law" : Str) ++ ".<locals>." ++ "<lambda>") {f fS : Addr} {fd fdS : FuncData} (F : L2.Fun K "law" "law" st_law f fd) (hcc : fd.code = .ref cc) (GS : FnOk P w K mg base (L2.CX P w) 1 fS fdS ps_law_stream (spStream CT K)) (bS : Binds K fdS ps_law_stream []) (mS : mg "_law_stream" = some (.ref fS)) (kS : PySem.W.keepIn K (.ref fS) = true) : FnOk P w K mg base (L2.CX P w) 11 f fd ps_law (spLaw CT K) := by
  refine okX_code F sc_law (fun vs H Q E ⟨a, ns, e, _⟩ => by rw [e]; rfl) fun cdv A' outer s H vs Q E hcd hr h => ?_
  have nd := (sc_law).nd
  refine ⟨_, pss_cons (ps_set (i := 1) nd rfl (Or.inl rfl) (pe_call GS (hr.mono (by decide)) rfl mS kS bS .nil passM (pa_cons (pv 0) pa_nil))) (DSs.ps ?_), law_pure (by decide) (math_law A hXn) h⟩
  exact dss_cons (ds_for (passes_of rfl) rfl (di_seq (de_tup (da_cons (de_none) (da_cons (de_int) (da_cons (de_neg (de_int)) (da_cons (de_bool) (da_cons (de_bool) (da_cons (de_str) (da_cons (de_lst (da_cons (de_int) (da_nil))) (da_cons (de_tup (da_cons (de_int) (da_nil))) (da_cons (de_dct0) (da_cons (de_op op_sub br_I0 (de_int) (de_op op_powW br_I (de_int) (de_int))) (da_nil))))))))))))) (dg_name (pg_name (i := 2) nd rfl (by first | exact .inl rfl | exact .inr rfl)))
    (dss_cons (ds_set (ps_set (i := 3) nd rfl (by first | exact .inl rfl | exact .inr rfl) (DE.pe (de_tried (k := 7) T_law_met hAp (by simp [cl_law_met, Xs]) hTB (hcd.symm.trans hcc) hTm hTu (hr.mono (by decide)) (fun A2 outer2 s2 H2 E2 f2 c2 hr => de_K (k := 6) (ps := ps_House_init) K_House (hr.mono (by decide)) passN2 (da_cons (de_v 2) (da_cons (de_none) (da_cons (de_none) (da_nil))))) (LamX.lamS_by (sc := defScope st_law) (by decide +kernel))))))
    (dss_cons (ds_if (DW.dt (dw_or (dt_cmp (op_neD (Room.units hr)) br_ne (de_ix (de_v 3) (de_int)) (de_str) (nomark _)) (dw_or1 (dt_not (dt_val (de_GR (k := 5) (ps := ps_law_same) G_law_same (hr.mono (by decide)) passM (da_cons (de_ix (de_v 3) (de_int)) (da_cons (de_v 2) (da_nil)))))))))
    (dss_cons (ds_ret (de_bool))
    (dss_nil))
    (dss_nil))
    (dss_nil))))
    (dss_cons (ds_set (ps_set (i := 4) nd rfl (by first | exact .inl rfl | exact .inr rfl) (DE.pe (de_lstM (da_cons (de_str) (da_nil))))))
    (dss_cons (ds_set (ps_set (i := 3) nd rfl (by first | exact .inl rfl | exact .inr rfl) (DE.pe (de_tried (k := 7) T_law_met hAp (by simp [cl_law_met, Xs]) hTB (hcd.symm.trans hcc) hTm hTu (hr.mono (by decide)) (fun A2 outer2 s2 H2 E2 f2 c2 hr => de_K (k := 6) (ps := ps_House_init) K_House (hr.mono (by decide)) passN2 (da_cons (de_v 4) (da_cons (de_lst (da_nil)) (da_cons (de_lst (da_nil)) (da_nil))))) (LamX.lamS_by (sc := defScope st_law) (by decide +kernel))))))
    (dss_cons (ds_expr (de_bm (pe_bm PySem.F.plainAttrs_list PySem.F.slot_list_append PySem.F.type_list_append mt_append (DE.pe (de_v 4)) (DA.pa (da_cons (de_str) (da_nil)))) bt_lst br_append))
    (dss_cons (ds_if (dt_not (dt_val (de_GR (k := 5) (ps := ps_law_same) G_law_same (hr.mono (by decide)) passM (da_cons (de_v 3) (da_cons (de_tup (da_cons (de_str) (da_cons (de_lst (da_cons (de_str) (da_cons (de_str) (da_nil)))) (da_nil)))) (da_nil))))))
    (dss_cons (ds_ret (de_bool))
    (dss_nil))
    (dss_nil))
    (dss_cons (ds_for (passes_of rfl) rfl (di_range1 (pi_range1 rfl B.range (DA.pa (da_cons (de_int) (da_nil))))) (dg_name (pg_name (i := 5) nd rfl (by first | exact .inl rfl | exact .inr rfl)))
    (dss_cons (ds_asg (ps_asg (DE.pe (de_G (k := 3) (ps := ps_law_house) G_law_house (hr.mono (by decide)) passM (da_cons (de_v 1) (da_cons (de_int) (da_cons (de_int) (da_cons (de_int) (da_nil))))))) (DG.pg (dg_tup rfl (dgs_cons (dg_name (pg_name (i := 6) nd rfl (by first | exact .inl rfl | exact .inr rfl))) (dgs_cons (dg_name (pg_name (i := 7) nd rfl (by first | exact .inl rfl | exact .inr rfl))) (dgs_cons (dg_name (pg_name (i := 8) nd rfl (by first | exact .inl rfl | exact .inr rfl))) (dgs_nil))))))))
    (dss_cons (ds_for (passes_of rfl) rfl (di_seq (de_tup (da_cons (de_none) (da_cons (de_int) (da_cons (de_str) (da_cons (de_dct0) (da_cons (de_bool) (da_nil)))))))) (dg_name (pg_name (i := 2) nd rfl (by first | exact .inl rfl | exact .inr rfl)))
    (dss_cons (ds_set (ps_set (i := 3) nd rfl (by first | exact .inl rfl | exact .inr rfl) (DE.pe (de_lstM (da_cons (de_tried (k := 7) T_law_met hAp (by simp [cl_law_met, Xs]) hTB (hcd.symm.trans hcc) hTm hTu (hr.mono (by decide)) (fun A2 outer2 s2 H2 E2 f2 c2 hr => de_K (k := 6) (ps := ps_House_init) K_House (hr.mono (by decide)) passN2 (da_cons (de_v 6) (da_cons (de_v 2) (da_cons (de_none) (da_nil))))) (LamX.lamS_by (sc := defScope st_law) (by decide +kernel))) (da_nil))))))
    (dss_cons (ds_expr (de_bm (pe_bm PySem.F.plainAttrs_list PySem.F.slot_list_append PySem.F.type_list_append mt_append (DE.pe (de_v 3)) (DA.pa (da_cons (de_tried (k := 7) T_law_met hAp (by simp [cl_law_met, Xs]) hTB (hcd.symm.trans hcc) hTm hTu (hr.mono (by decide)) (fun A2 outer2 s2 H2 E2 f2 c2 hr => de_K (k := 6) (ps := ps_House_init) K_House (hr.mono (by decide)) passN2 (da_cons (de_v 6) (da_cons (de_v 7) (da_cons (de_v 2) (da_nil))))) (LamX.lamS_by (sc := defScope st_law) (by decide +kernel))) (da_nil)))) bt_lst br_append))
    (dss_cons (ds_if (dt_not (dt_val (de_GR (k := 5) (ps := ps_law_same) G_law_same (hr.mono (by decide)) passM (da_cons (de_v 3) (da_cons (de_lst (da_cons (de_tup (da_cons (de_str) (da_cons (de_int) (da_nil)))) (da_cons (de_tup (da_cons (de_str) (da_cons (de_int) (da_nil)))) (da_nil)))) (da_nil))))))
    (dss_cons (ds_ret (de_bool))
    (dss_nil))
    (dss_nil))
    (dss_nil)))))
    (dss_cons (ds_set (ps_set (i := 9) nd rfl (by first | exact .inl rfl | exact .inr rfl) (DE.pe (de_G (k := 1) (ps := ps_law_draw) G_law_draw (hr.mono (by decide)) passM (da_cons (de_v 1) (da_cons (de_op op_addA br_add (de_B (call_len) br_len B.len bo_len (da_cons (de_v 7) (da_nil))) (de_int)) (da_nil)))))))
    (dss_cons (ds_for (passes_of rfl) rfl (di_seq (de_G (k := 1) (ps := ps_law_no_roads) G_law_no_roads (hr.mono (by decide)) passM (da_cons (de_v 6) (da_nil)))) (dg_name (pg_name (i := 2) nd rfl (by first | exact .inl rfl | exact .inr rfl)))
    (dss_cons (ds_if (dt_not (dt_val (de_GR (k := 5) (ps := ps_law_same) G_law_same (hr.mono (by decide)) passM (da_cons (de_tried (k := 7) T_law_met hAp (by simp [cl_law_met, Xs]) hTB (hcd.symm.trans hcc) hTm hTu (hr.mono (by decide)) (fun A2 outer2 s2 H2 E2 f2 c2 hr => de_K (k := 6) (ps := ps_House_init) K_House (hr.mono (by decide)) passN2 (da_cons (de_v 6) (da_cons (de_op op_addA br_add (de_op op_addA br_add (de_op op_addA br_add (de_sl (de_v 7) (do_none) (do_some (de_v 9))) (de_lst (da_cons (de_v 2) (da_nil)))) (de_sl (de_v 7) (do_some (de_v 9)) (do_none))) (de_lst (da_cons (de_none) (da_nil)))) (da_cons (de_int) (da_nil))))) (LamX.lamS_by (sc := defScope st_law) (by decide +kernel))) (da_cons (de_tup (da_cons (de_str) (da_cons (de_v 9) (da_nil)))) (da_nil))))))
    (dss_cons (ds_ret (de_bool))
    (dss_nil))
    (dss_nil))
    (dss_nil)))
    (dss_cons (ds_set (ps_set (i := 9) nd rfl (by first | exact .inl rfl | exact .inr rfl) (DE.pe (de_G (k := 1) (ps := ps_law_draw) G_law_draw (hr.mono (by decide)) passM (da_cons (de_v 1) (da_cons (de_op op_addA br_add (de_B (call_len) br_len B.len bo_len (da_cons (de_v 8) (da_nil))) (de_int)) (da_nil)))))))
    (dss_cons (ds_for (passes_of rfl) rfl (di_seq (de_G (k := 1) (ps := ps_law_no_doors) G_law_no_doors (hr.mono (by decide)) passM (da_cons (de_v 6) (da_nil)))) (dg_name (pg_name (i := 2) nd rfl (by first | exact .inl rfl | exact .inr rfl)))
    (dss_cons (ds_if (dt_not (dt_val (de_GR (k := 5) (ps := ps_law_same) G_law_same (hr.mono (by decide)) passM (da_cons (de_tried (k := 7) T_law_met hAp (by simp [cl_law_met, Xs]) hTB (hcd.symm.trans hcc) hTm hTu (hr.mono (by decide)) (fun A2 outer2 s2 H2 E2 f2 c2 hr => de_K (k := 6) (ps := ps_House_init) K_House (hr.mono (by decide)) passN2 (da_cons (de_v 6) (da_cons (de_v 7) (da_cons (de_op op_addA br_add (de_op op_addA br_add (de_op op_addA br_add (de_sl (de_v 8) (do_none) (do_some (de_v 9))) (de_lst (da_cons (de_v 2) (da_nil)))) (de_sl (de_v 8) (do_some (de_v 9)) (do_none))) (de_lst (da_cons (de_none) (da_nil)))) (da_nil))))) (LamX.lamS_by (sc := defScope st_law) (by decide +kernel))) (da_cons (de_tup (da_cons (de_str) (da_cons (de_v 9) (da_nil)))) (da_nil))))))
    (dss_cons (ds_ret (de_bool))
    (dss_nil))
    (dss_nil))
    (dss_nil)))
    (dss_cons (ds_asg (ps_asg (DE.pe (de_G (k := 2) (ps := ps_law_pick) G_law_pick (hr.mono (by decide)) passM (da_cons (de_v 1) (da_cons (de_v 8) (da_nil))))) (DG.pg (dg_tup rfl (dgs_cons (dg_name (pg_name (i := 10) nd rfl (by first | exact .inl rfl | exact .inr rfl))) (dgs_cons (dg_name (pg_name (i := 11) nd rfl (by first | exact .inl rfl | exact .inr rfl))) (dgs_cons (dg_name (pg_name (i := 12) nd rfl (by first | exact .inl rfl | exact .inr rfl))) (dgs_nil))))))))
    (dss_cons (ds_set (ps_set (i := 13) nd rfl (by first | exact .inl rfl | exact .inr rfl) (DE.pe (de_op op_addA br_add (de_v 8) (de_lst (da_cons (de_tup (da_cons (de_if (dt_cmp (op_eqD (Room.units hr)) br_eq (de_v 10) (de_str) (nomark _)) (de_str) (de_str)) (da_cons (de_v 11) (da_cons (de_G (k := 2) (ps := ps_law_pick) G_law_pick (hr.mono (by decide)) passM (da_cons (de_v 1) (da_cons (de_lst (da_cons (de_v 12) (da_cons (de_op op_addA br_add (de_v 12) (de_int)) (da_cons (de_int) (da_nil))))) (da_nil)))) (da_nil))))) (da_cons (de_none) (da_nil))))))))
    (dss_cons (ds_if (dt_not (dt_val (de_GR (k := 5) (ps := ps_law_same) G_law_same (hr.mono (by decide)) passM (da_cons (de_tried (k := 7) T_law_met hAp (by simp [cl_law_met, Xs]) hTB (hcd.symm.trans hcc) hTm hTu (hr.mono (by decide)) (fun A2 outer2 s2 H2 E2 f2 c2 hr => de_K (k := 6) (ps := ps_House_init) K_House (hr.mono (by decide)) passN2 (da_cons (de_v 6) (da_cons (de_v 7) (da_cons (de_v 13) (da_nil))))) (LamX.lamS_by (sc := defScope st_law) (by decide +kernel))) (da_cons (de_tup (da_cons (de_str) (da_cons (de_B (call_len) br_len B.len bo_len (da_cons (de_v 8) (da_nil))) (da_nil)))) (da_nil))))))
    (dss_cons (ds_ret (de_bool))
    (dss_nil))
    (dss_nil))
    (dss_cons (ds_if (DW.dt (dw_or (dt_not (dt_val (de_G (k := 10) (ps := ps_law_rings_right) G_law_rings_right (hr.mono (by decide)) passM (da_cons (de_v 1) (da_nil))))) (dw_or1 (dt_cmp (op_neD (Room.units hr)) br_ne (de_tried (k := 7) T_law_met hAp (by simp [cl_law_met, Xs]) hTB (hcd.symm.trans hcc) hTm hTu (hr.mono (by decide)) (fun A2 outer2 s2 H2 E2 f2 c2 hr => de_K (k := 6) (ps := ps_House_init) K_House (hr.mono (by decide)) passN2 (da_cons (de_v 6) (da_cons (de_v 7) (da_cons (de_v 8) (da_nil))))) (LamX.lamS_by (sc := defScope st_law) (by decide +kernel))) (de_tup (da_cons (de_str) (da_cons (de_none) (da_nil)))) (nomark _)))))
    (dss_cons (ds_ret (de_bool))
    (dss_nil))
    (dss_nil))
    (dss_nil))))))))))))
    (dss_cons (ds_ret (de_bool))
    (dss_nil)))))))
end
end DL
set_option Elab.async false
set_option linter.all false
set_option maxRecDepth 100000
set_option maxHeartbeats 0
namespace DL
open PySem PySem.Spec PyProof.Rows L2
def dd_is_integer : He.DefD := ⟨("is_integer", none), "is_integer", "is_integer", defArgs st_is_integer, defBody st_is_integer, defScope st_is_integer, [], []⟩
def dd_is_number : He.DefD := ⟨("is_number", none), "is_number", "is_number", defArgs st_is_number, defBody st_is_number, defScope st_is_number, [], []⟩
def dd_is_positive : He.DefD := ⟨("is_positive", none), "is_positive", "is_positive", defArgs st_is_positive, defBody st_is_positive, defScope st_is_positive, [], []⟩
def dd_is_list : He.DefD := ⟨("is_list", none), "is_list", "is_list", defArgs st_is_list, defBody st_is_list, defScope st_is_list, [], []⟩
def dd_BadPlaces_init : He.DefD := ⟨("BadPlaces", some "__init__"), "__init__", "BadPlaces.__init__", defArgs st_BadPlaces_init, defBody st_BadPlaces_init, defScope st_BadPlaces_init, [], []⟩
def dd_BadRoads_init : He.DefD := ⟨("BadRoads", some "__init__"), "__init__", "BadRoads.__init__", defArgs st_BadRoads_init, defBody st_BadRoads_init, defScope st_BadRoads_init, [], []⟩
def dd_BadDoors_init : He.DefD := ⟨("BadDoors", some "__init__"), "__init__", "BadDoors.__init__", defArgs st_BadDoors_init, defBody st_BadDoors_init, defScope st_BadDoors_init, [], []⟩
def dd_is_place : He.DefD := ⟨("is_place", none), "is_place", "is_place", defArgs st_is_place, defBody st_is_place, defScope st_is_place, [], []⟩
def dd_is_road : He.DefD := ⟨("is_road", none), "is_road", "is_road", defArgs st_is_road, defBody st_is_road, defScope st_is_road, [], []⟩
def dd_at_once : He.DefD := ⟨("at_once", none), "at_once", "at_once", defArgs st_at_once, defBody st_at_once, defScope st_at_once, [], []⟩
def dd_bad_road : He.DefD := ⟨("bad_road", none), "bad_road", "bad_road", defArgs st_bad_road, defBody st_bad_road, defScope st_bad_road, [], []⟩
def dd_is_door : He.DefD := ⟨("is_door", none), "is_door", "is_door", defArgs st_is_door, defBody st_is_door, defScope st_is_door, [], []⟩
def dd_bad_door : He.DefD := ⟨("bad_door", none), "bad_door", "bad_door", defArgs st_bad_door, defBody st_bad_door, defScope st_bad_door, [], []⟩
def dd_House_init : He.DefD := ⟨("House", some "__init__"), "__init__", "House.__init__", defArgs st_House_init, defBody st_House_init, defScope st_House_init, [], []⟩
def dd_House_places : He.DefD := ⟨("House", some "places"), "places", "House.places", defArgs st_House_places, defBody st_House_places, defScope st_House_places, [], []⟩
def dd_House_roads : He.DefD := ⟨("House", some "roads"), "roads", "House.roads", defArgs st_House_roads, defBody st_House_roads, defScope st_House_roads, [], []⟩
def dd_House_doors : He.DefD := ⟨("House", some "doors"), "doors", "House.doors", defArgs st_House_doors, defBody st_House_doors, defScope st_House_doors, [], []⟩
def dd_House_eq : He.DefD := ⟨("House", some "__eq__"), "__eq__", "House.__eq__", defArgs st_House_eq, defBody st_House_eq, defScope st_House_eq, [], []⟩
def dd_law_stream : He.DefD := ⟨("_law_stream", none), "_law_stream", "_law_stream", defArgs st_law_stream, defBody st_law_stream, defScope st_law_stream, [], []⟩
def dd_law_draw : He.DefD := ⟨("_law_draw", none), "_law_draw", "_law_draw", defArgs st_law_draw, defBody st_law_draw, defScope st_law_draw, [], []⟩
def dd_law_pick : He.DefD := ⟨("_law_pick", none), "_law_pick", "_law_pick", defArgs st_law_pick, defBody st_law_pick, defScope st_law_pick, [], []⟩
def dd_law_mixed : He.DefD := ⟨("_law_mixed", none), "_law_mixed", "_law_mixed", defArgs st_law_mixed, defBody st_law_mixed, defScope st_law_mixed, [], []⟩
def dd_law_same : He.DefD := ⟨("_law_same", none), "_law_same", "_law_same", defArgs st_law_same, defBody st_law_same, defScope st_law_same, [], []⟩
def dd_law_stepping : He.DefD := ⟨("_law_stepping", none), "_law_stepping", "_law_stepping", defArgs st_law_stepping, defBody st_law_stepping, defScope st_law_stepping, [], []⟩
def dd_law_house : He.DefD := ⟨("_law_house", none), "_law_house", "_law_house", defArgs st_law_house, defBody st_law_house, defScope st_law_house, [], []⟩
def dd_law_met : He.DefD := ⟨("_law_met", none), "_law_met", "_law_met", defArgs st_law_met, defBody st_law_met, defScope st_law_met, [], []⟩
def dd_law_no_roads : He.DefD := ⟨("_law_no_roads", none), "_law_no_roads", "_law_no_roads", defArgs st_law_no_roads, defBody st_law_no_roads, defScope st_law_no_roads, [], []⟩
def dd_law_no_doors : He.DefD := ⟨("_law_no_doors", none), "_law_no_doors", "_law_no_doors", defArgs st_law_no_doors, defBody st_law_no_doors, defScope st_law_no_doors, [], []⟩
def dd_law_rings_right : He.DefD := ⟨("_law_rings_right", none), "_law_rings_right", "_law_rings_right", defArgs st_law_rings_right, defBody st_law_rings_right, defScope st_law_rings_right, [], []⟩
def dd_law : He.DefD := ⟨("law", none), "law", "law", defArgs st_law, defBody st_law, defScope st_law, [], []⟩
def fnL : List He.DefD := [dd_is_integer, dd_is_number, dd_is_positive, dd_is_list, dd_BadPlaces_init, dd_BadRoads_init, dd_BadDoors_init, dd_is_place, dd_is_road, dd_at_once, dd_bad_road, dd_is_door, dd_bad_door, dd_House_init, dd_House_places, dd_House_roads, dd_House_doors, dd_House_eq, dd_law_stream, dd_law_draw, dd_law_pick, dd_law_mixed, dd_law_same, dd_law_stepping, dd_law_house, dd_law_met, dd_law_no_roads, dd_law_no_doors, dd_law_rings_right, dd_law]
def faL : List He.Fa := [.free "len", .free "isinstance", .free "int", .free "bool", .free "str", .free "list", .free "tuple", .free "dict", .free "range", .free "enumerate", .free "zip", .free "any", .free "all", .free "abs", .free "max", .free "min", .free "sum", .free "sorted", .free "repr", .cls "House", .noat "House" "own_places", .noat "House" "own_roads", .noat "House" "own_doors", .glo "House", .glo "BadPlaces", .noat "BadPlaces" "places", .glo "BadRoads", .noat "BadRoads" "index", .glo "BadDoors", .noat "BadDoors" "index", .glo "_law_met", .glo "is_integer", .glo "_law_draw", .glo "is_number", .glo "_law_mixed", .glo "_law_pick", .glo "_law_stepping", .glo "is_list", .glo "is_place", .glo "is_positive", .glo "is_road", .glo "at_once", .glo "is_door", .glo "_law_same", .meth "BadPlaces" "__init__", .glo "bad_road", .meth "BadRoads" "__init__", .glo "bad_door", .meth "BadDoors" "__init__", .mkr "House", .glo "_law_house", .glo "_law_no_roads", .glo "_law_no_doors", .glo "_law_rings_right", .glo "_law_stream", .glo "law"]
def tfL : List He.Defn := [("_law_rings_right", none), ("law", none)]
def CTf (K : PySem.W.Frag) : TTs := [((He.cT K ("_law_rings_right", none)).2, ("_law_rings_right" : Str) ++ ".<locals>." ++ "<lambda>"), ((He.cT K ("law", none)).2, ("law" : Str) ++ ".<locals>." ++ "<lambda>")]
def exB (K : PySem.W.Frag) : Bool := ownB K (He.ga K "House") && (eqB K (He.ga K "House") && (xcB K (He.ga K "BadPlaces") && (xcB K (He.ga K "BadRoads") && (xcB K (He.ga K "BadDoors") && (apartB K (Xs (He.ga K)) && (decide ((Xs (He.ga K)).Nodup) && (decide (((CTf K).map (·.1)).Nodup))))))))
def loose1 : List Str := ["is_integer", "is_number", "is_positive", "is_list", "BellError", "BadPlaces", "BadRoads", "BadDoors", "is_place", "is_road", "at_once", "bad_road", "is_door", "bad_door", "House", "_law_stream", "_law_draw", "_law_pick", "_law_mixed", "_law_same", "_law_stepping", "_law_house", "_law_met", "_law_no_roads", "_law_no_doors", "_law_rings_right"]
def looseL : List Str := loose1
abbrev RR : PySem.W.OpenRow := PySem.W.OpenLaw.row PySem.Challenge.rw_lastbell_k02_houses_refused
abbrev hkL : PySem.W.Hook := He.hookX 6 faL fnL [] tfL exB
def obL (s : PySem.W.SharedT) : He.AlX := He.obsX 6 faL fnL [] tfL exB (HandSHeadRun.getT s)
theorem ob_eq (s : PySem.W.SharedT) : obL s = hkL.obs s.abs := He.obsX_eq (HandSHeadRun.getT_eq s)
theorem run (w : World) : HandSHeadRun.RunEq RR (PySem.W.view RR.prog [30]) hkL obL 6000 looseL w := by
  intro os
  kernel_rfl
theorem facts {P : Program} {w : World} {K : PySem.W.Frag} {h hh : Heap} {mg : Str → Option Value} {f : Addr} (X : K.In h) (G : h.Ns mainGlobals mg) (hfa : mg ("law" : Str) = some (.ref f)) (c : He.SaysX faL fnL [] tfL exB w hh K) :
    ∃ fd : FuncData, (∀ (s : Shared) (v : Value), BindsTo s fd ⟨[v], []⟩ [("_law_script", v)]) ∧ ∀ base : Heap, K.In base → base.Ns mainGlobals mg → (∀ p ∈ tfL.map (He.cT K), LamX.TabB base mg p.1 p.2) → FnOk P w K mg base (L2.CX P w) 11 f fd ["_law_script"] (spLaw (CTf K) K) := by
  obtain ⟨fd_law, E_law⟩ := c.t.d.def_ 29 (d := dd_law) rfl
  have e := hfa.symm.trans (He.glo_ok X G (c.t.d.fact 55 (f := .glo "law") rfl))
  cases e
  have F_law : L2.Fun K "law" "law" st_law (He.fAd K dd_law.at_) fd_law := fun_of E_law
  have bb := FunD.bindsA (ps := ["_law_script"]) E_law fun _ _ _ _ _ _ us hl => match us, hl with | [_], _ => rfl
  refine ⟨fd_law, fun s v => bb s [v] rfl, fun base _ _ hTB => ?_⟩
  have hB : Bs mg := bs_of fun x hx => by
    simp only [bsL, List.mem_cons, List.not_mem_nil, or_false] at hx
    rcases hx with rfl | rfl | rfl | rfl | rfl | rfl | rfl | rfl | rfl | rfl | rfl | rfl | rfl | rfl | rfl | rfl | rfl | rfl | rfl
    · exact He.free_ok X G (c.t.d.fact 0 (f := .free "len") rfl)
    · exact He.free_ok X G (c.t.d.fact 1 (f := .free "isinstance") rfl)
    · exact He.free_ok X G (c.t.d.fact 2 (f := .free "int") rfl)
    · exact He.free_ok X G (c.t.d.fact 3 (f := .free "bool") rfl)
    · exact He.free_ok X G (c.t.d.fact 4 (f := .free "str") rfl)
    · exact He.free_ok X G (c.t.d.fact 5 (f := .free "list") rfl)
    · exact He.free_ok X G (c.t.d.fact 6 (f := .free "tuple") rfl)
    · exact He.free_ok X G (c.t.d.fact 7 (f := .free "dict") rfl)
    · exact He.free_ok X G (c.t.d.fact 8 (f := .free "range") rfl)
    · exact He.free_ok X G (c.t.d.fact 9 (f := .free "enumerate") rfl)
    · exact He.free_ok X G (c.t.d.fact 10 (f := .free "zip") rfl)
    · exact He.free_ok X G (c.t.d.fact 11 (f := .free "any") rfl)
    · exact He.free_ok X G (c.t.d.fact 12 (f := .free "all") rfl)
    · exact He.free_ok X G (c.t.d.fact 13 (f := .free "abs") rfl)
    · exact He.free_ok X G (c.t.d.fact 14 (f := .free "max") rfl)
    · exact He.free_ok X G (c.t.d.fact 15 (f := .free "min") rfl)
    · exact He.free_ok X G (c.t.d.fact 16 (f := .free "sum") rfl)
    · exact He.free_ok X G (c.t.d.fact 17 (f := .free "sorted") rfl)
    · exact He.free_ok X G (c.t.d.fact 18 (f := .free "repr") rfl)
  have hOK : OwnOk K (Cs (He.ga K)) := fun C hC => by
    simp only [Cs, List.mem_cons, List.not_mem_nil, or_false] at hC
    rcases hC with rfl
    · exact ownB_ok (He.cls_ok (c.t.d.fact 19 (f := .cls "House") rfl)) (He.ba c.more).1
  obtain ⟨fd_is_integer, E_is_integer⟩ := c.t.d.def_ 0 (d := dd_is_integer) rfl
  have F_is_integer : L2.Fun K "is_integer" "is_integer" st_is_integer (He.fAd K dd_is_integer.at_) fd_is_integer := fun_of E_is_integer
  have ok_is_integer_ := ok_is_integer (CT := (CTf K)) (P := P) (w := w) (A := He.ga K) (K := K) (mg := mg) (base := base) hB hOK F_is_integer
  obtain ⟨fd_is_list, E_is_list⟩ := c.t.d.def_ 3 (d := dd_is_list) rfl
  have F_is_list : L2.Fun K "is_list" "is_list" st_is_list (He.fAd K dd_is_list.at_) fd_is_list := fun_of E_is_list
  have ok_is_list_ := ok_is_list (CT := (CTf K)) (P := P) (w := w) (A := He.ga K) (K := K) (mg := mg) (base := base) hB hOK F_is_list
  obtain ⟨fd_BadPlaces_init, E_BadPlaces_init⟩ := c.t.d.def_ 4 (d := dd_BadPlaces_init) rfl
  have F_BadPlaces_init : L2.Fun K "__init__" "BadPlaces.__init__" st_BadPlaces_init (He.fAd K dd_BadPlaces_init.at_) fd_BadPlaces_init := fun_of E_BadPlaces_init
  have ok_BadPlaces_init_ := ok_BadPlaces_init (P := P) (w := w) (K := K) (mg := mg) (base := base) F_BadPlaces_init
  obtain ⟨fd_BadRoads_init, E_BadRoads_init⟩ := c.t.d.def_ 5 (d := dd_BadRoads_init) rfl
  have F_BadRoads_init : L2.Fun K "__init__" "BadRoads.__init__" st_BadRoads_init (He.fAd K dd_BadRoads_init.at_) fd_BadRoads_init := fun_of E_BadRoads_init
  have ok_BadRoads_init_ := ok_BadRoads_init (P := P) (w := w) (K := K) (mg := mg) (base := base) F_BadRoads_init
  obtain ⟨fd_BadDoors_init, E_BadDoors_init⟩ := c.t.d.def_ 6 (d := dd_BadDoors_init) rfl
  have F_BadDoors_init : L2.Fun K "__init__" "BadDoors.__init__" st_BadDoors_init (He.fAd K dd_BadDoors_init.at_) fd_BadDoors_init := fun_of E_BadDoors_init
  have ok_BadDoors_init_ := ok_BadDoors_init (P := P) (w := w) (K := K) (mg := mg) (base := base) F_BadDoors_init
  obtain ⟨fd_at_once, E_at_once⟩ := c.t.d.def_ 9 (d := dd_at_once) rfl
  have F_at_once : L2.Fun K "at_once" "at_once" st_at_once (He.fAd K dd_at_once.at_) fd_at_once := fun_of E_at_once
  have ok_at_once_ := ok_at_once (CT := (CTf K)) (P := P) (w := w) (A := He.ga K) (K := K) (mg := mg) (base := base)  F_at_once
  obtain ⟨fd_House_places, E_House_places⟩ := c.t.d.def_ 14 (d := dd_House_places) rfl
  have F_House_places : L2.Fun K "places" "House.places" st_House_places (He.fAd K dd_House_places.at_) fd_House_places := fun_of E_House_places
  have ok_House_places_ := ok_House_places (CT := (CTf K)) (P := P) (w := w) (A := He.ga K) (K := K) (mg := mg) (base := base) (fun C hC => by simp only [List.mem_cons, List.not_mem_nil, or_false] at hC; rcases hC with rfl; exact ⟨(He.cls_ok (c.t.d.fact 19 (f := .cls "House") rfl)), (He.noat_ok (c.t.d.fact 20 (f := .noat "House" "own_places") rfl))⟩) F_House_places
  obtain ⟨fd_House_roads, E_House_roads⟩ := c.t.d.def_ 15 (d := dd_House_roads) rfl
  have F_House_roads : L2.Fun K "roads" "House.roads" st_House_roads (He.fAd K dd_House_roads.at_) fd_House_roads := fun_of E_House_roads
  have ok_House_roads_ := ok_House_roads (CT := (CTf K)) (P := P) (w := w) (A := He.ga K) (K := K) (mg := mg) (base := base) (fun C hC => by simp only [List.mem_cons, List.not_mem_nil, or_false] at hC; rcases hC with rfl; exact ⟨(He.cls_ok (c.t.d.fact 19 (f := .cls "House") rfl)), (He.noat_ok (c.t.d.fact 21 (f := .noat "House" "own_roads") rfl))⟩) hB F_House_roads
  have ok_House_roadsM_ := ok_House_roadsM (CT := (CTf K)) (P := P) (w := w) (A := He.ga K) (K := K) (mg := mg) (base := base) (fun C hC => by simp only [List.mem_cons, List.not_mem_nil, or_false] at hC; rcases hC with rfl; exact ⟨(He.cls_ok (c.t.d.fact 19 (f := .cls "House") rfl)), (He.noat_ok (c.t.d.fact 21 (f := .noat "House" "own_roads") rfl))⟩) hB F_House_roads
  obtain ⟨fd_House_doors, E_House_doors⟩ := c.t.d.def_ 16 (d := dd_House_doors) rfl
  have F_House_doors : L2.Fun K "doors" "House.doors" st_House_doors (He.fAd K dd_House_doors.at_) fd_House_doors := fun_of E_House_doors
  have ok_House_doors_ := ok_House_doors (CT := (CTf K)) (P := P) (w := w) (A := He.ga K) (K := K) (mg := mg) (base := base) (fun C hC => by simp only [List.mem_cons, List.not_mem_nil, or_false] at hC; rcases hC with rfl; exact ⟨(He.cls_ok (c.t.d.fact 19 (f := .cls "House") rfl)), (He.noat_ok (c.t.d.fact 22 (f := .noat "House" "own_doors") rfl))⟩) hB F_House_doors
  have ok_House_doorsM_ := ok_House_doorsM (CT := (CTf K)) (P := P) (w := w) (A := He.ga K) (K := K) (mg := mg) (base := base) (fun C hC => by simp only [List.mem_cons, List.not_mem_nil, or_false] at hC; rcases hC with rfl; exact ⟨(He.cls_ok (c.t.d.fact 19 (f := .cls "House") rfl)), (He.noat_ok (c.t.d.fact 22 (f := .noat "House" "own_doors") rfl))⟩) hB F_House_doors
  obtain ⟨fd_House_eq, E_House_eq⟩ := c.t.d.def_ 17 (d := dd_House_eq) rfl
  have F_House_eq : L2.Fun K "__eq__" "House.__eq__" st_House_eq (He.fAd K dd_House_eq.at_) fd_House_eq := fun_of E_House_eq
  have ok_House_eq_ := ok_House_eq (CT := (CTf K)) (P := P) (w := w) (A := He.ga K) (K := K) (mg := mg) (base := base) (He.glo_ok X G (c.t.d.fact 23 (f := .glo "House") rfl)) hB hOK (fun C hC => by simp only [List.mem_cons, List.not_mem_nil, or_false] at hC; rcases hC with rfl; exact ⟨(He.cls_ok (c.t.d.fact 19 (f := .cls "House") rfl)), (He.noat_ok (c.t.d.fact 20 (f := .noat "House" "own_places") rfl))⟩) (fun C hC => by simp only [List.mem_cons, List.not_mem_nil, or_false] at hC; rcases hC with rfl; exact ⟨(He.cls_ok (c.t.d.fact 19 (f := .cls "House") rfl)), (He.noat_ok (c.t.d.fact 21 (f := .noat "House" "own_roads") rfl))⟩) (fun C hC => by simp only [List.mem_cons, List.not_mem_nil, or_false] at hC; rcases hC with rfl; exact ⟨(He.cls_ok (c.t.d.fact 19 (f := .cls "House") rfl)), (He.noat_ok (c.t.d.fact 22 (f := .noat "House" "own_doors") rfl))⟩) F_House_eq
  obtain ⟨fd_law_stream, E_law_stream⟩ := c.t.d.def_ 18 (d := dd_law_stream) rfl
  have F_law_stream : L2.Fun K "_law_stream" "_law_stream" st_law_stream (He.fAd K dd_law_stream.at_) fd_law_stream := fun_of E_law_stream
  have ok_law_stream_ := ok_law_stream (CT := (CTf K)) (P := P) (w := w) (K := K) (mg := mg) (base := base) hB F_law_stream
  obtain ⟨fd_law_draw, E_law_draw⟩ := c.t.d.def_ 19 (d := dd_law_draw) rfl
  have F_law_draw : L2.Fun K "_law_draw" "_law_draw" st_law_draw (He.fAd K dd_law_draw.at_) fd_law_draw := fun_of E_law_draw
  have ok_law_draw_ := ok_law_draw (CT := (CTf K)) (P := P) (w := w) (A := He.ga K) (K := K) (mg := mg) (base := base) hB F_law_draw
  obtain ⟨fd_law_met, E_law_met⟩ := c.t.d.def_ 25 (d := dd_law_met) rfl
  have F_law_met : L2.Fun K "_law_met" "_law_met" st_law_met (He.fAd K dd_law_met.at_) fd_law_met := fun_of E_law_met
  have tr_law_met_ := tr_law_met (P := P) (w := w) (A := He.ga K) (K := K) (mg := mg) (base := base) (He.glo_ok X G (c.t.d.fact 24 (f := .glo "BadPlaces") rfl)) (xcB_ok (He.ba (He.ba (He.ba c.more).2).2).1).x (He.noat_ok (c.t.d.fact 25 (f := .noat "BadPlaces" "places") rfl)) (He.glo_ok X G (c.t.d.fact 26 (f := .glo "BadRoads") rfl)) (xcB_ok (He.ba (He.ba (He.ba (He.ba c.more).2).2).2).1).x (He.noat_ok (c.t.d.fact 27 (f := .noat "BadRoads" "index") rfl)) (He.glo_ok X G (c.t.d.fact 28 (f := .glo "BadDoors") rfl)) (xcB_ok (He.ba (He.ba (He.ba (He.ba (He.ba c.more).2).2).2).2).1).x (He.noat_ok (c.t.d.fact 29 (f := .noat "BadDoors" "index") rfl)) F_law_met (He.glo_ok X G (c.t.d.fact 30 (f := .glo "_law_met") rfl))
  obtain ⟨fd_law_no_roads, E_law_no_roads⟩ := c.t.d.def_ 26 (d := dd_law_no_roads) rfl
  have F_law_no_roads : L2.Fun K "_law_no_roads" "_law_no_roads" st_law_no_roads (He.fAd K dd_law_no_roads.at_) fd_law_no_roads := fun_of E_law_no_roads
  have ok_law_no_roads_ := ok_law_no_roads (CT := (CTf K)) (P := P) (w := w) (A := He.ga K) (K := K) (mg := mg) (base := base) hB F_law_no_roads
  obtain ⟨fd_law_no_doors, E_law_no_doors⟩ := c.t.d.def_ 27 (d := dd_law_no_doors) rfl
  have F_law_no_doors : L2.Fun K "_law_no_doors" "_law_no_doors" st_law_no_doors (He.fAd K dd_law_no_doors.at_) fd_law_no_doors := fun_of E_law_no_doors
  have ok_law_no_doors_ := ok_law_no_doors (CT := (CTf K)) (P := P) (w := w) (A := He.ga K) (K := K) (mg := mg) (base := base) hB F_law_no_doors
  obtain ⟨fd_is_number, E_is_number⟩ := c.t.d.def_ 1 (d := dd_is_number) rfl
  have F_is_number : L2.Fun K "is_number" "is_number" st_is_number (He.fAd K dd_is_number.at_) fd_is_number := fun_of E_is_number
  have ok_is_number_ := ok_is_number (CT := (CTf K)) (P := P) (w := w) (A := He.ga K) (K := K) (mg := mg) (base := base) (FnG.mk' F_is_integer ok_is_integer_ (He.glo_ok X G (c.t.d.fact 31 (f := .glo "is_integer") rfl)) (fun _ _ _ _ _ _ us hl => match us, hl with | [_], _ => rfl)) F_is_number
  obtain ⟨fd_is_positive, E_is_positive⟩ := c.t.d.def_ 2 (d := dd_is_positive) rfl
  have F_is_positive : L2.Fun K "is_positive" "is_positive" st_is_positive (He.fAd K dd_is_positive.at_) fd_is_positive := fun_of E_is_positive
  have ok_is_positive_ := ok_is_positive (CT := (CTf K)) (P := P) (w := w) (A := He.ga K) (K := K) (mg := mg) (base := base) (FnG.mk' F_is_integer ok_is_integer_ (He.glo_ok X G (c.t.d.fact 31 (f := .glo "is_integer") rfl)) (fun _ _ _ _ _ _ us hl => match us, hl with | [_], _ => rfl)) F_is_positive
  obtain ⟨fd_law_pick, E_law_pick⟩ := c.t.d.def_ 20 (d := dd_law_pick) rfl
  have F_law_pick : L2.Fun K "_law_pick" "_law_pick" st_law_pick (He.fAd K dd_law_pick.at_) fd_law_pick := fun_of E_law_pick
  have ok_law_pick_ := ok_law_pick (CT := (CTf K)) (P := P) (w := w) (A := He.ga K) (K := K) (mg := mg) (base := base) hB (FnG.mk' F_law_draw ok_law_draw_ (He.glo_ok X G (c.t.d.fact 32 (f := .glo "_law_draw") rfl)) (fun _ _ _ _ _ _ us hl => match us, hl with | [_, _], _ => rfl)) F_law_pick
  obtain ⟨fd_law_mixed, E_law_mixed⟩ := c.t.d.def_ 21 (d := dd_law_mixed) rfl
  have F_law_mixed : L2.Fun K "_law_mixed" "_law_mixed" st_law_mixed (He.fAd K dd_law_mixed.at_) fd_law_mixed := fun_of E_law_mixed
  have ok_law_mixed_ := ok_law_mixed (CT := (CTf K)) (P := P) (w := w) (A := He.ga K) (K := K) (mg := mg) (base := base) hB (FnG.mk' F_law_draw ok_law_draw_ (He.glo_ok X G (c.t.d.fact 32 (f := .glo "_law_draw") rfl)) (fun _ _ _ _ _ _ us hl => match us, hl with | [_, _], _ => rfl)) F_law_mixed
  have ok_law_mixedM_ := ok_law_mixedM (CT := (CTf K)) (P := P) (w := w) (A := He.ga K) (K := K) (mg := mg) (base := base) hB (FnG.mk' F_law_draw ok_law_draw_ (He.glo_ok X G (c.t.d.fact 32 (f := .glo "_law_draw") rfl)) (fun _ _ _ _ _ _ us hl => match us, hl with | [_, _], _ => rfl)) F_law_mixed
  obtain ⟨fd_law_stepping, E_law_stepping⟩ := c.t.d.def_ 23 (d := dd_law_stepping) rfl
  have F_law_stepping : L2.Fun K "_law_stepping" "_law_stepping" st_law_stepping (He.fAd K dd_law_stepping.at_) fd_law_stepping := fun_of E_law_stepping
  have ok_law_stepping_ := ok_law_stepping (CT := (CTf K)) (P := P) (w := w) (A := He.ga K) (K := K) (mg := mg) (base := base) (FnG.mk' F_law_draw ok_law_draw_ (He.glo_ok X G (c.t.d.fact 32 (f := .glo "_law_draw") rfl)) (fun _ _ _ _ _ _ us hl => match us, hl with | [_, _], _ => rfl)) F_law_stepping
  obtain ⟨fd_is_place, E_is_place⟩ := c.t.d.def_ 7 (d := dd_is_place) rfl
  have F_is_place : L2.Fun K "is_place" "is_place" st_is_place (He.fAd K dd_is_place.at_) fd_is_place := fun_of E_is_place
  have ok_is_place_ := ok_is_place (CT := (CTf K)) (P := P) (w := w) (A := He.ga K) (K := K) (mg := mg) (base := base) (FnG.mk' F_is_number ok_is_number_ (He.glo_ok X G (c.t.d.fact 33 (f := .glo "is_number") rfl)) (fun _ _ _ _ _ _ us hl => match us, hl with | [_], _ => rfl)) F_is_place
  obtain ⟨fd_law_house, E_law_house⟩ := c.t.d.def_ 24 (d := dd_law_house) rfl
  have F_law_house : L2.Fun K "_law_house" "_law_house" st_law_house (He.fAd K dd_law_house.at_) fd_law_house := fun_of E_law_house
  have ok_law_house_ := ok_law_house (CT := (CTf K)) (P := P) (w := w) (A := He.ga K) (K := K) (mg := mg) (base := base) (FnG.mk' F_law_draw ok_law_draw_ (He.glo_ok X G (c.t.d.fact 32 (f := .glo "_law_draw") rfl)) (fun _ _ _ _ _ _ us hl => match us, hl with | [_, _], _ => rfl)) hB (FnG.mk' F_law_mixed ok_law_mixed_ (He.glo_ok X G (c.t.d.fact 34 (f := .glo "_law_mixed") rfl)) (fun _ _ _ _ _ _ us hl => match us, hl with | [_, _], _ => rfl)) (FnG.mk' F_law_pick ok_law_pick_ (He.glo_ok X G (c.t.d.fact 35 (f := .glo "_law_pick") rfl)) (fun _ _ _ _ _ _ us hl => match us, hl with | [_, _], _ => rfl)) (FnG.mk' F_law_stepping ok_law_stepping_ (He.glo_ok X G (c.t.d.fact 36 (f := .glo "_law_stepping") rfl)) (fun _ _ _ _ _ _ us hl => match us, hl with | [_, _, _, _, _], _ => rfl)) (FnG.mk' F_law_mixed ok_law_mixedM_ (He.glo_ok X G (c.t.d.fact 34 (f := .glo "_law_mixed") rfl)) (fun _ _ _ _ _ _ us hl => match us, hl with | [_, _], _ => rfl)) F_law_house
  obtain ⟨fd_is_road, E_is_road⟩ := c.t.d.def_ 8 (d := dd_is_road) rfl
  have F_is_road : L2.Fun K "is_road" "is_road" st_is_road (He.fAd K dd_is_road.at_) fd_is_road := fun_of E_is_road
  have ok_is_road_ := ok_is_road (CT := (CTf K)) (P := P) (w := w) (A := He.ga K) (K := K) (mg := mg) (base := base) (FnG.mk' F_is_list ok_is_list_ (He.glo_ok X G (c.t.d.fact 37 (f := .glo "is_list") rfl)) (fun _ _ _ _ _ _ us hl => match us, hl with | [_], _ => rfl)) hB (FnG.mk' F_is_place ok_is_place_ (He.glo_ok X G (c.t.d.fact 38 (f := .glo "is_place") rfl)) (fun _ _ _ _ _ _ us hl => match us, hl with | [_, _], _ => rfl)) (FnG.mk' F_is_number ok_is_number_ (He.glo_ok X G (c.t.d.fact 33 (f := .glo "is_number") rfl)) (fun _ _ _ _ _ _ us hl => match us, hl with | [_], _ => rfl)) (FnG.mk' F_is_positive ok_is_positive_ (He.glo_ok X G (c.t.d.fact 39 (f := .glo "is_positive") rfl)) (fun _ _ _ _ _ _ us hl => match us, hl with | [_], _ => rfl)) F_is_road
  obtain ⟨fd_is_door, E_is_door⟩ := c.t.d.def_ 11 (d := dd_is_door) rfl
  have F_is_door : L2.Fun K "is_door" "is_door" st_is_door (He.fAd K dd_is_door.at_) fd_is_door := fun_of E_is_door
  have ok_is_door_ := ok_is_door (CT := (CTf K)) (P := P) (w := w) (A := He.ga K) (K := K) (mg := mg) (base := base) (FnG.mk' F_is_list ok_is_list_ (He.glo_ok X G (c.t.d.fact 37 (f := .glo "is_list") rfl)) (fun _ _ _ _ _ _ us hl => match us, hl with | [_], _ => rfl)) hB hOK (FnG.mk' F_is_place ok_is_place_ (He.glo_ok X G (c.t.d.fact 38 (f := .glo "is_place") rfl)) (fun _ _ _ _ _ _ us hl => match us, hl with | [_, _], _ => rfl)) (FnG.mk' F_is_number ok_is_number_ (He.glo_ok X G (c.t.d.fact 33 (f := .glo "is_number") rfl)) (fun _ _ _ _ _ _ us hl => match us, hl with | [_], _ => rfl)) F_is_door
  obtain ⟨fd_bad_road, E_bad_road⟩ := c.t.d.def_ 10 (d := dd_bad_road) rfl
  have F_bad_road : L2.Fun K "bad_road" "bad_road" st_bad_road (He.fAd K dd_bad_road.at_) fd_bad_road := fun_of E_bad_road
  have ok_bad_road_ := ok_bad_road (CT := (CTf K)) (P := P) (w := w) (A := He.ga K) (K := K) (mg := mg) (base := base) (FnG.mk' F_is_list ok_is_list_ (He.glo_ok X G (c.t.d.fact 37 (f := .glo "is_list") rfl)) (fun _ _ _ _ _ _ us hl => match us, hl with | [_], _ => rfl)) hB (FnG.mk' F_is_road ok_is_road_ (He.glo_ok X G (c.t.d.fact 40 (f := .glo "is_road") rfl)) (fun _ _ _ _ _ _ us hl => match us, hl with | [_, _], _ => rfl)) (FnG.mk' F_at_once ok_at_once_ (He.glo_ok X G (c.t.d.fact 41 (f := .glo "at_once") rfl)) (fun _ _ _ _ _ _ us hl => match us, hl with | [_, _], _ => rfl)) F_bad_road
  obtain ⟨fd_bad_door, E_bad_door⟩ := c.t.d.def_ 12 (d := dd_bad_door) rfl
  have F_bad_door : L2.Fun K "bad_door" "bad_door" st_bad_door (He.fAd K dd_bad_door.at_) fd_bad_door := fun_of E_bad_door
  have ok_bad_door_ := ok_bad_door (CT := (CTf K)) (P := P) (w := w) (A := He.ga K) (K := K) (mg := mg) (base := base) (FnG.mk' F_is_list ok_is_list_ (He.glo_ok X G (c.t.d.fact 37 (f := .glo "is_list") rfl)) (fun _ _ _ _ _ _ us hl => match us, hl with | [_], _ => rfl)) hB (FnG.mk' F_is_door ok_is_door_ (He.glo_ok X G (c.t.d.fact 42 (f := .glo "is_door") rfl)) (fun _ _ _ _ _ _ us hl => match us, hl with | [_, _], _ => rfl)) F_bad_door
  obtain ⟨fd_law_same, E_law_same⟩ := c.t.d.def_ 22 (d := dd_law_same) rfl
  have F_law_same : L2.Fun K "_law_same" "_law_same" st_law_same (He.fAd K dd_law_same.at_) fd_law_same := fun_of E_law_same
  have ok_law_same_ := ok_law_same (CT := (CTf K)) (P := P) (w := w) (A := He.ga K) (K := K) (mg := mg) (base := base) hB hOK F_law_same (He.glo_ok X G (c.t.d.fact 43 (f := .glo "_law_same") rfl))
  obtain ⟨fd_House_init, E_House_init⟩ := c.t.d.def_ 13 (d := dd_House_init) rfl
  have F_House_init : L2.Fun K "__init__" "House.__init__" st_House_init (He.fAd K dd_House_init.at_) fd_House_init := fun_of E_House_init
  have ok_House_init_ := ok_House_init (CT := (CTf K)) (P := P) (w := w) (A := He.ga K) (K := K) (mg := mg) (base := base) (FnG.mk' F_is_positive ok_is_positive_ (He.glo_ok X G (c.t.d.fact 39 (f := .glo "is_positive") rfl)) (fun _ _ _ _ _ _ us hl => match us, hl with | [_], _ => rfl)) (Xc1.mk ⟨_, _, _, _, ok_BadPlaces_init_, F_BadPlaces_init.binds (fun _ _ _ _ _ _ us hl => match us, hl with | [_, _], _ => rfl), (He.meth_ok (c.t.d.fact 44 (f := .meth "BadPlaces" "__init__") rfl)).at_, beq_iff_eq.mp (He.meth_ok (c.t.d.fact 44 (f := .meth "BadPlaces" "__init__") rfl)).fn⟩ (xcB_ok (He.ba (He.ba (He.ba c.more).2).2).1) (He.noat_ok (c.t.d.fact 25 (f := .noat "BadPlaces" "places") rfl)) (He.glo_ok X G (c.t.d.fact 24 (f := .glo "BadPlaces") rfl))) (FnG.mk' F_bad_road ok_bad_road_ (He.glo_ok X G (c.t.d.fact 45 (f := .glo "bad_road") rfl)) (fun _ _ _ _ _ _ us hl => match us, hl with | [_, _], _ => rfl)) (Xc1.mk ⟨_, _, _, _, ok_BadRoads_init_, F_BadRoads_init.binds (fun _ _ _ _ _ _ us hl => match us, hl with | [_, _], _ => rfl), (He.meth_ok (c.t.d.fact 46 (f := .meth "BadRoads" "__init__") rfl)).at_, beq_iff_eq.mp (He.meth_ok (c.t.d.fact 46 (f := .meth "BadRoads" "__init__") rfl)).fn⟩ (xcB_ok (He.ba (He.ba (He.ba (He.ba c.more).2).2).2).1) (He.noat_ok (c.t.d.fact 27 (f := .noat "BadRoads" "index") rfl)) (He.glo_ok X G (c.t.d.fact 26 (f := .glo "BadRoads") rfl))) (FnG.mk' F_bad_door ok_bad_door_ (He.glo_ok X G (c.t.d.fact 47 (f := .glo "bad_door") rfl)) (fun _ _ _ _ _ _ us hl => match us, hl with | [_, _], _ => rfl)) (Xc1.mk ⟨_, _, _, _, ok_BadDoors_init_, F_BadDoors_init.binds (fun _ _ _ _ _ _ us hl => match us, hl with | [_, _], _ => rfl), (He.meth_ok (c.t.d.fact 48 (f := .meth "BadDoors" "__init__") rfl)).at_, beq_iff_eq.mp (He.meth_ok (c.t.d.fact 48 (f := .meth "BadDoors" "__init__") rfl)).fn⟩ (xcB_ok (He.ba (He.ba (He.ba (He.ba (He.ba c.more).2).2).2).2).1) (He.noat_ok (c.t.d.fact 29 (f := .noat "BadDoors" "index") rfl)) (He.glo_ok X G (c.t.d.fact 28 (f := .glo "BadDoors") rfl))) (fun C hC => by simp only [List.mem_cons, List.not_mem_nil, or_false] at hC; rcases hC with rfl; exact ⟨(He.cls_ok (c.t.d.fact 19 (f := .cls "House") rfl)), (He.noat_ok (c.t.d.fact 20 (f := .noat "House" "own_places") rfl))⟩) hB (fun C hC => by simp only [List.mem_cons, List.not_mem_nil, or_false] at hC; rcases hC with rfl; exact ⟨(He.cls_ok (c.t.d.fact 19 (f := .cls "House") rfl)), (He.noat_ok (c.t.d.fact 21 (f := .noat "House" "own_roads") rfl))⟩) (fun C hC => by simp only [List.mem_cons, List.not_mem_nil, or_false] at hC; rcases hC with rfl; exact ⟨(He.cls_ok (c.t.d.fact 19 (f := .cls "House") rfl)), (He.noat_ok (c.t.d.fact 22 (f := .noat "House" "own_doors") rfl))⟩) F_House_init
  obtain ⟨fd_law_rings_right, E_law_rings_right⟩ := c.t.d.def_ 28 (d := dd_law_rings_right) rfl
  have F_law_rings_right : L2.Fun K "_law_rings_right" "_law_rings_right" st_law_rings_right (He.fAd K dd_law_rings_right.at_) fd_law_rings_right := fun_of E_law_rings_right
  have ok_law_rings_right_ := ok_law_rings_right (CT := (CTf K)) (P := P) (w := w) (A := He.ga K) (K := K) (mg := mg) (base := base) (FnG.mk' F_law_draw ok_law_draw_ (He.glo_ok X G (c.t.d.fact 32 (f := .glo "_law_draw") rfl)) (fun _ _ _ _ _ _ us hl => match us, hl with | [_, _], _ => rfl)) hB (FnG.mk' F_law_mixed ok_law_mixed_ (He.glo_ok X G (c.t.d.fact 34 (f := .glo "_law_mixed") rfl)) (fun _ _ _ _ _ _ us hl => match us, hl with | [_, _], _ => rfl)) tr_law_met_ (apartB_ok (He.ba (He.ba (He.ba (He.ba (He.ba (He.ba c.more).2).2).2).2).2).1) (of_decide_eq_true (He.ba (He.ba (He.ba (He.ba (He.ba (He.ba (He.ba c.more).2).2).2).2).2).2).1) (MkG.mk' F_House_init ok_House_init_ (He.mkr_ok (c.t.d.fact 49 (f := .mkr "House") rfl)) (He.glo_ok X G (c.t.d.fact 23 (f := .glo "House") rfl)) (fun _ _ _ _ _ _ us hl => match us, hl with | [_, _, _, _], _ => rfl)) (hTB _ (List.mem_map.mpr ⟨("_law_rings_right", none), by simp [tfL], rfl⟩)) (show (_, _) ∈ CTf K by simp [CTf]) (names_of (of_decide_eq_true (He.ba (He.ba (He.ba (He.ba (He.ba (He.ba (He.ba c.more).2).2).2).2).2).2).2) (show (_, _) ∈ CTf K by simp [CTf])) F_law_rings_right (fun_code E_law_rings_right)
  exact ok_law tr_law_met_ (apartB_ok (He.ba (He.ba (He.ba (He.ba (He.ba (He.ba c.more).2).2).2).2).2).1) (of_decide_eq_true (He.ba (He.ba (He.ba (He.ba (He.ba (He.ba (He.ba c.more).2).2).2).2).2).2).1) (MkG.mk' F_House_init ok_House_init_ (He.mkr_ok (c.t.d.fact 49 (f := .mkr "House") rfl)) (He.glo_ok X G (c.t.d.fact 23 (f := .glo "House") rfl)) (fun _ _ _ _ _ _ us hl => match us, hl with | [_, _, _, _], _ => rfl)) (FnG.mk' F_law_same ok_law_same_ (He.glo_ok X G (c.t.d.fact 43 (f := .glo "_law_same") rfl)) (fun _ _ _ _ _ _ us hl => match us, hl with | [_, _], _ => rfl)) hB (FnG.mk' F_law_house ok_law_house_ (He.glo_ok X G (c.t.d.fact 50 (f := .glo "_law_house") rfl)) (fun _ _ _ _ _ _ us hl => match us, hl with | [_, _, _, _], _ => rfl)) (FnG.mk' F_law_draw ok_law_draw_ (He.glo_ok X G (c.t.d.fact 32 (f := .glo "_law_draw") rfl)) (fun _ _ _ _ _ _ us hl => match us, hl with | [_, _], _ => rfl)) (FnG.mk' F_law_no_roads ok_law_no_roads_ (He.glo_ok X G (c.t.d.fact 51 (f := .glo "_law_no_roads") rfl)) (fun _ _ _ _ _ _ us hl => match us, hl with | [_], _ => rfl)) (FnG.mk' F_law_no_doors ok_law_no_doors_ (He.glo_ok X G (c.t.d.fact 52 (f := .glo "_law_no_doors") rfl)) (fun _ _ _ _ _ _ us hl => match us, hl with | [_], _ => rfl)) (FnG.mk' F_law_pick ok_law_pick_ (He.glo_ok X G (c.t.d.fact 35 (f := .glo "_law_pick") rfl)) (fun _ _ _ _ _ _ us hl => match us, hl with | [_, _], _ => rfl)) (FnG.mk' F_law_rings_right ok_law_rings_right_ (He.glo_ok X G (c.t.d.fact 53 (f := .glo "_law_rings_right") rfl)) (fun _ _ _ _ _ _ us hl => match us, hl with | [_], _ => rfl)) (hTB _ (List.mem_map.mpr ⟨("law", none), by simp [tfL], rfl⟩)) (show (_, _) ∈ CTf K by simp [CTf]) (names_of (of_decide_eq_true (He.ba (He.ba (He.ba (He.ba (He.ba (He.ba (He.ba c.more).2).2).2).2).2).2).2) (show (_, _) ∈ CTf K by simp [CTf])) F_law (fun_code E_law) ok_law_stream_ (F_law_stream.binds (fun _ _ _ _ _ _ us hl => match us, hl with | [_], _ => rfl)) (He.glo_ok X G (c.t.d.fact 54 (f := .glo "_law_stream") rfl)) F_law_stream.kp
end DL
open PySem PySem.W PySem.Calls PyProof.Rows
theorem PySem.Challenge.cw_lastbell_k02_houses_refused_holds : PySem.Challenge.rw_lastbell_k02_houses_refused.Holds := by
  w_on; o_law
  refine HandSHeadRun.head_any (r := OpenLaw.row PySem.Challenge.rw_lastbell_k02_houses_refused) (q := view (OpenLaw.row PySem.Challenge.rw_lastbell_k02_houses_refused).prog [30]) (H := DL.hkL) (ob := DL.obL) (M := 6000) (loose := DL.looseL) (d := HandSHeadRun.topDef (OpenLaw.row PySem.Challenge.rw_lastbell_k02_houses_refused).prog 30) (kwd := []) DL.ob_eq
    (by kernel_rfl) (fun s => by kernel_rfl) DL.run (by kernel_rfl) (by kernel_rfl) (by kernel_rfl) (by rfl) (by first | assumption | decide +kernel) (by decide +kernel) ⟨rfl, rfl, rfl, rfl, rfl, by decide +kernel⟩ ?hw ?hc
  case hw => w_witness2
  case hc =>
    refine LamX.walk_ofTsE (l := PySem.Challenge.rw_lastbell_k02_houses_refused) (n := 63) (k := 11) (x := "_law_script") (CX := fun w => L2.CX PySem.Challenge.rw_lastbell_k02_houses_refused.prog w) rfl (by decide) (by kernel_rfl) ⟨rfl, by decide, by decide⟩ ?F ?C
    case F =>
      intro w mg fa h Y G hmg0
      obtain ⟨K, KX, c⟩ := Y
      have hmg : mg ("law" : PySem.Str) = some (.ref fa) := by
        have e : (HandSHeadRun.topDef (OpenLaw.row PySem.Challenge.rw_lastbell_k02_houses_refused).prog 30).name = ("law" : PySem.Str) := by kernel_rfl
        rw [← e]
        exact hmg0
      obtain ⟨fd, hb, hF⟩ := DL.facts (P := PySem.Challenge.rw_lastbell_k02_houses_refused.prog) (w := w) KX G hmg c
      refine ⟨K, KX, fd, DL.tfL.map (He.cT K), DL.spLaw (DL.CTf K) K, (fun p hp => ?_), (fun p hp => ?_), (fun p hp => ?_), hb, fun H a ns hl hbits ht hS => ?_, fun base h1 h2 h3 => hF base h1 h2 h3⟩
      · obtain ⟨q, hq, rfl⟩ := List.mem_map.mp hp; exact c.empty q hq
      · obtain ⟨q, hq, rfl⟩ := List.mem_map.mp hp; exact c.out q hq
      · obtain ⟨q, hq, rfl⟩ := List.mem_map.mp hp; exact PySem.W.codeHd_of_K KX (c.hd q hq)
      refine ⟨a, ns, rfl, ⟨hS, hl, fun n hn => DL.bits_nat (hbits n hn)⟩, (fun p hp => ?_), fun _ => rfl⟩
      simp only [DL.CTf, List.mem_cons, List.not_mem_nil, or_false] at hp
      rcases hp with rfl | rfl
      · exact LamX.TabS.nil (ht _ (List.mem_map.mpr ⟨("_law_rings_right", none), by simp [DL.tfL], rfl⟩))
      · exact LamX.TabS.nil (ht _ (List.mem_map.mpr ⟨("law", none), by simp [DL.tfL], rfl⟩))
    case C => exact fun w H s e s' z => DL.cx_none z
